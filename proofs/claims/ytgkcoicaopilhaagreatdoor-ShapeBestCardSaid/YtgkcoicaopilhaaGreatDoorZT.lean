/- The data of the program, and its functions over plain data (printed by wip/gen/gen.py). -/
import Derived.Lib.Index
import Derived.Lib.Bytealg
import Derived.Lib.ParseIntB
import Derived.Lib.Join
import Derived.Lib.ItoaNum
import Derived.Test.YtgkcoicaopilhaaGreatDoorZJ
set_option linter.unusedSimpArgs false
set_option linter.unusedVariables false
set_option linter.unusedSectionVars false
namespace Go.Proofs.YtgkcoicaopilhaaGreatDoor
open Go
def strings_Index (s sub:List UInt8):Option Int:=if s.length<4294967281 then some (Lib.index s sub)else none
def strings_IndexByte (s:List UInt8) (c:Int):Option Int:=some (Lib.indexByte s c.toNat.toUInt8)
def k5 (s:List UInt8) (b k:Int):Option (Int × Bool):=
 if b=10/\k=64/\s.length<=281474976710656 then
  match Lib.parseIntB 64 s with
  | .ok v=>some (v,false)
  | .range=>some (Lib.intSat 64 s,true)
  |_=>none
 else none
def kept :List (List UInt8):=[[99,108,97,115,115],[101,120,116,101,110,100,115],[115,116,97,116,105,99],[118,111,105,100],[105,110,116],[98,111,111,108,101,97,110],[105,102],[101,108,115,101],[119,104,105,108,101],[114,101,116,117,114,110],[112,114,105,110,116],[116,114,117,101],[102,97,108,115,101],[110,117,108,108],[116,104,105,115],[110,101,119]]
def strings_Join (l:List (List UInt8)) (sep:List UInt8):Option (List UInt8):=if l.length<=140737488355328/\(Lib.join l sep).length<=140737488355328 then some (Lib.join l sep)else none
def fq (n b:Int):Option (List UInt8):=if b=10/\ -9223372036854775808<=n/\n<=9223372036854775807 then some (Lib.itoa n)else none
def shape_eraser (names:List (List UInt8)):Option (List UInt8->Option (List UInt8)):=if names.length<=140737488355328 then some fun s=>some (if s∈names/\s≠[]then[95]else s)else none
def lcsRow (k:IntKind) (x:Int):List Int->List Int->List Int
 | [],_=>[0]
 |y::b,n0::ns=>(if x==y then k.wrap (ns.headD 0+1)else if(lcsRow k x b ns).headD 0>n0 then(lcsRow k x b ns).headD 0 else n0)::lcsRow k x b ns
 |_::_,[]=>[]
def eq (k:IntKind):List Int->List Int->List (List Int)
 | [],b=>[List.replicate (b.length+1) 0]
 |x::a,b=>lcsRow k x b ((eq k a b).headD [])::eq k a b
def lcs_left (a b:List Int):Option (List (List Int)):=if a.length<=100000/\b.length<=100000 then some (eq .i32 a b)else none
def ref05_table (a b:List Int):Option (List (List Int)):=if a.length<=100000/\b.length<=100000 then some (eq .i64 a b)else none
end Go.Proofs.YtgkcoicaopilhaaGreatDoor
namespace Go.Proofs.YtgkcoicaopilhaaGreatDoor
open Go
theorem lcsRow_len (k:IntKind) (x:Int):∀(b nxt:List Int),nxt.length=b.length+1->(lcsRow k x b nxt).length=b.length+1
 | [],_,_=>rfl
 |y::b,n0::ns,h=>by
  simp only[lcsRow,List.length_cons]at h ⊢
  rw[lcsRow_len k x b ns (by omega)]
 |y::b,[],h=>by simp at h
theorem lcsRows_lens (k:IntKind):∀(a b:List Int),(eq k a b).length=a.length+1/\∀l∈eq k a b,l.length=b.length+1
 | [],b=>⟨rfl,fun l hl=>by simp[eq]at hl;rw[hl];simp⟩
 |x::a,b=>by
  obtain⟨h1,h2⟩:=lcsRows_lens k a b
  have hd:((eq k a b).headD []).length=b.length+1:=by
   cases hr:eq k a b with
   |nil=>rw[hr]at h1;simp at h1
   |cons l ls=>exact h2 l (by rw[hr];simp)
  refine⟨by simp[eq,h1],fun l hl=> ?_⟩
  simp only[eq,List.mem_cons]at hl
  rcases hl with rfl|hl
  ·exact lcsRow_len k x b _ hd
  ·exact h2 l hl
theorem lcsRows_drop (k:IntKind):∀(i:Nat) (a b:List Int),i<=a.length->(eq k a b).drop i=eq k (a.drop i) b
 | 0,_,_,_=>rfl
 |i+1,x::a,b,h=>by
  simp only[eq,List.drop_succ_cons]
  exact lcsRows_drop k i a b (by simpa using h)
 |i+1,[],_,h=>by simp at h
theorem lcsRows_at (k:IntKind) {a b:List Int} {i:Nat} {x:Int} (hx:a[i]? =some x):∃nxt,(eq k a b)[i+1]? =some nxt/\nxt.length=b.length+1/\(eq k a b)[i]? =some (lcsRow k x b nxt):=by
 have hi:=(List.getElem?_eq_some_iff.1 hx).1
 obtain⟨h1,h2⟩:=lcsRows_lens k a b
 have hl:i+1<(eq k a b).length:=by omega
 refine⟨(eq k a b)[i+1],by simp[hl],h2 _ (List.getElem_mem _),?_⟩
 have hd:=lcsRows_drop k i a b (by omega)
 have hdx:a.drop i=x::a.drop (i+1):=by
  rw[List.drop_eq_getElem_cons hi]
  have:a[i]=x:=(List.getElem?_eq_some_iff.1 hx).2
  rw[this]
 rw[hdx]at hd
 simp only[eq]at hd
 have h0:(eq k a b)[i]? =((eq k a b).drop i)[0]? :=by simp
 rw[h0,hd]
 have hn:(eq k (a.drop (i+1)) b).headD []=(eq k a b)[i+1]:=by
  rw[← lcsRows_drop k (i+1) a b (by omega),List.drop_eq_getElem_cons hl]
  rfl
 rw[hn]
 rfl
def part (k:IntKind) (x:Int) (b nxt:List Int) (j:Nat):List Int:=List.replicate j 0++lcsRow k x (b.drop j) (nxt.drop j)
theorem part_end {k:IntKind} {x:Int} {b nxt:List Int}:part k x b nxt b.length=List.replicate (b.length+1) 0:=by
 unfold part
 rw[List.drop_length]
 simp only[lcsRow]
 rw[List.replicate_succ']
theorem part_zero {k:IntKind} {x:Int} {b nxt:List Int}:part k x b nxt 0=lcsRow k x b nxt:=by simp[part]
theorem part_step {k:IntKind} {x:Int} {b nxt:List Int} {j:Nat} {y:Int} (hn:nxt.length=b.length+1) (hy:b[j]? =some y):∃n0 n1 r1,nxt[j]? =some n0/\nxt[j+1]? =some n1/\(part k x b nxt (j+1))[j]? =some 0/\(part k x b nxt (j+1))[j+1]? =some r1/\
  (part k x b nxt (j+1)).set j (if x==y then k.wrap (n1+1)else if r1>n0 then r1 else n0)=part k x b nxt j:=by
 have hj:=(List.getElem?_eq_some_iff.1 hy).1
 have hyb:b[j]=y:=(List.getElem?_eq_some_iff.1 hy).2
 have hb:b.drop j=y::b.drop (j+1):=by rw[List.drop_eq_getElem_cons hj,hyb]
 have hnx:nxt.drop j=nxt[j]::nxt.drop (j+1):=List.drop_eq_getElem_cons (by omega)
 have hnx1:nxt.drop (j+1)=nxt[j+1]::nxt.drop (j+2):=List.drop_eq_getElem_cons (by omega)
 obtain⟨r1,rs,hr⟩:∃r1 rs,lcsRow k x (b.drop (j+1)) (nxt.drop (j+1))=r1::rs:=by
  have:=lcsRow_len k x (b.drop (j+1)) (nxt.drop (j+1)) (by simp;omega)
  cases hr:lcsRow k x (b.drop (j+1)) (nxt.drop (j+1))with
  |nil=>rw[hr]at this;simp at this
  |cons r1 rs=>exact⟨r1,rs,rfl⟩
 refine⟨nxt[j],nxt[j+1],r1,List.getElem?_eq_getElem (by omega),List.getElem?_eq_getElem (by omega),?_,?_,?_⟩
 ·unfold part
  rw[List.getElem?_append_left (by simp)]
  simp
 ·unfold part
  rw[List.getElem?_append_right (by simp),hr]
  simp
 ·unfold part
  rw[hr,hb,hnx]
  simp only[lcsRow]
  rw[hr,hnx1,List.replicate_succ',List.append_assoc,List.set_append_right _ _ (by simp)]
  have hg:nxt[j+1]? =some nxt[j+1]:=List.getElem?_eq_getElem (by omega)
  simp[hg]
end Go.Proofs.YtgkcoicaopilhaaGreatDoor
set_option linter.unusedSectionVars false
set_option maxRecDepth 100000
set_option maxHeartbeats 4000000
namespace Go.Proofs.YtgkcoicaopilhaaGreatDoor
open Go Go.Cn
structure ApiNode where
 Kind:Int
 Text:List UInt8
 Type_:List UInt8
 N:Int
 From:Int
 To:Int
 At:Int
 TypeAt:Int
 Kids:List ApiNode
structure ApiToken where
 Kind:Int
 Text:List UInt8
 At:Int
 Lead:List UInt8
 deriving DecidableEq
structure Ref12Wrong where
 Place:Int
 Code:Int
 deriving DecidableEq
structure ApiMistake where
 Code:Int
 File:Int
 At:Int
 deriving DecidableEq
abbrev ec :Type:=(ApiNode->((List UInt8)->Option (List UInt8))->Option (ApiNode))
noncomputable def shape_erase_k1 (R:ec) (x7:ApiNode) (x8:List UInt8) (x12:List ApiNode):Option (ApiNode):=some ({{x7 with Type_:=x8} with Kids:=x12})
noncomputable def lg (R:ec) (x7:ApiNode) (x8:List UInt8) (x2:((List UInt8)->Option (List UInt8))) (x11:Int) (x12:List ApiNode):Option ((Int × (List ApiNode)) ⊕ ((List ApiNode))):=(if(decide (x11<((({x7 with Type_:=x8}).Kids).length:Int)))=true then(idx (({x7 with Type_:=x8}).Kids) x11).bind fun x16=>(R x16 x2).bind fun x17=>(idx x12 x11).bind fun x18=>some (.inl (w64 (x11+1),(List.set x12 (Int.toNat x11) x17)))else some (.inr x12))
noncomputable def lh (R:ec) (x2:((List UInt8)->Option (List UInt8))) (x7:ApiNode):Option (ApiNode):=(x2 x7.Type_).bind fun x8=>(mkLen 104 ((({x7 with Type_:=x8}).Kids).length:Int)).bind fun x9=>(iter (fun s=>lg R x7 x8 x2 s.1 s.2) (0,(List.replicate x9 (ApiNode.mk 0 [] [] 0 0 0 0 0 [])))).bind fun p=>shape_erase_k1 R x7 x8 p
noncomputable def F_shape_erase (R:ec) (x1:ApiNode) (x2:((List UInt8)->Option (List UInt8))):Option (ApiNode):=(if(x1.Kind != 24)=true then(x2 x1.Text).bind fun x6=>lh R x2 ({x1 with Text:=x6})else lh R x2 x1)
noncomputable def rec_shape_erase_step (R:ec):ec:=(fun x1 x2=>F_shape_erase R x1 x2)
noncomputable def gm (n:Nat):ec:=Nat.rec (motive:=fun _=>ec) (fun x1 x2=>none) (fun _ R=>rec_shape_erase_step R) n
noncomputable def shape_erase (x1:ApiNode) (x2:((List UInt8)->Option (List UInt8))):Option (ApiNode):=(gm 1048576) x1 x2
noncomputable def shape_Erase_j1 (x6:ApiNode):Option (ApiNode):=some x6
noncomputable def shape_Erase (x1:ApiNode) (x2:List (List UInt8)):Option (ApiNode):=(shape_eraser x2).bind fun x5=>(shape_erase x1 x5).bind fun x6=>shape_Erase_j1 x6
noncomputable def print_list_k1 (x5:List (List UInt8)):Option ((List UInt8)):=(strings_Join x5 ([44,32]:List UInt8)).bind fun x15=>(cat ([40]:List UInt8) x15).bind fun x16=>(cat x16 ([41]:List UInt8)).bind fun x17=>some x17
noncomputable def jf (x1:List ApiNode) (x2:(ApiNode->Option (List UInt8))) (x4:Int) (x5:List (List UInt8)):Option ((Int × (List (List UInt8))) ⊕ ((List (List UInt8)))):=(if(decide (x4<(x1.length:Int)))=true then(idx x1 x4).bind fun x10=>(x2 x10).bind fun x12=>(app 16 x5 ([x12]:List (List UInt8))).bind fun x13=>some (.inl (w64 (x4+1),x13))else some (.inr x5))
noncomputable def print_list (x1:List ApiNode) (x2:(ApiNode->Option (List UInt8))):Option ((List UInt8)):=(iter (fun s=>jf x1 x2 s.1 s.2) (0,[])).bind fun p=>print_list_k1 p
noncomputable def l5 (x1:ApiNode):Option ((List UInt8)):=(cat x1.Type_ ([32]:List UInt8)).bind fun x3=>(cat x3 x1.Text).bind fun x4=>some x4
noncomputable def nv (x24:Int):Option (Int):=some x24
noncomputable def print_Binds_j2 (x23:Int):Option (Int):=nv (w64 (x23+1))
noncomputable def print_Binds_j3 (x22:Int):Option (Int):=print_Binds_j2 (w64 (x22+1))
noncomputable def print_Binds_j4 (x21:Int):Option (Int):=print_Binds_j3 (w64 (x21+1))
noncomputable def print_Binds_j5 (x20:Int):Option (Int):=print_Binds_j4 (w64 (x20+1))
noncomputable def print_Binds_j6 (x19:Int):Option (Int):=print_Binds_j5 (w64 (x19+1))
noncomputable def nu (x1:List UInt8) (x15:Bool):Option (Int):=(if x15=true then print_Binds_j4 0 else(if(x1==([38,38]:List UInt8))=true then print_Binds_j3 0 else(if(x1==([124,124]:List UInt8))=true then print_Binds_j2 0 else nv 0)))
noncomputable def jr (x1:List UInt8) (x12:Bool):Option (Int):=(if x12=true then print_Binds_j5 0 else(if(x1==([61,61]:List UInt8))=true then nu x1 (x1==([61,61]:List UInt8))else nu x1 (x1==([33,61]:List UInt8))))
noncomputable def nt (x1:List UInt8) (x7:Bool):Option (Int):=(if x7=true then print_Binds_j6 0 else(if(x1==([60]:List UInt8))=true then jr x1 (x1==([60]:List UInt8))else(if(x1==([60,61]:List UInt8))=true then jr x1 (x1==([60,61]:List UInt8))else(if(x1==([62]:List UInt8))=true then jr x1 (x1==([62]:List UInt8))else jr x1 (x1==([62,61]:List UInt8))))))
noncomputable def j5 (x1:List UInt8) (x4:Bool):Option (Int):=(if x4=true then print_Binds_j6 (w64 (0+1))else(if(x1==([43]:List UInt8))=true then nt x1 (x1==([43]:List UInt8))else nt x1 (x1==([45]:List UInt8))))
noncomputable def print_Binds (x1:List UInt8):Option (Int):=(if(x1==([42]:List UInt8))=true then j5 x1 (x1==([42]:List UInt8))else(if(x1==([47]:List UInt8))=true then j5 x1 (x1==([47]:List UInt8))else j5 x1 (x1==([37]:List UInt8))))
noncomputable def ld (x6:Bool):Option (Int):=(if x6=true then some 7 else some 8)
noncomputable def print_binding (x1:ApiNode):Option (Int):=(if(x1.Kind==24)=true then(print_Binds x1.Text).bind fun x4=>some x4 else(if(x1.Kind==22)=true then ld (x1.Kind==22)else ld (x1.Kind==23)))
noncomputable def j7 (x1 x2:Int):Option ((List UInt8)):=(fq x1 x2).bind fun x3=>some x3
noncomputable def eo (x1:Bool):Option ((List UInt8)):=(if x1=true then some ([116,114,117,101]:List UInt8)else some ([102,97,108,115,101]:List UInt8))
noncomputable def jh (x1:Bool):Option ((List UInt8)):=(eo x1).bind fun x2=>some x2
noncomputable def ip (x5:Bool):Option (Bool):=some x5
noncomputable def l4 (x1:ApiNode):Option (Bool):=(if(x1.Kind==23)=true then ip true else(if(x1.Kind==13)=true then ip (decide (x1.N<0))else ip false))
abbrev c5 :Type:=(ApiNode->Int->Int->Option ((List UInt8))) × (ApiNode->Option ((List UInt8))) × (ApiNode->Int->Option ((List UInt8)))
noncomputable def oz (R:c5) (x1:ApiNode) (x2 x3:Int):Option ((List UInt8)):=(if(decide (x2≥(x1.Kids.length:Int)))=true then some []else(idx x1.Kids x2).bind fun x6=>(R.2.1 x6).bind fun x7=>(idx x1.Kids x2).bind fun x8=>(print_binding x8).bind fun x9=>(if(decide (x9<x3))=true then(cat ([40]:List UInt8) x7).bind fun x11=>(cat x11 ([41]:List UInt8)).bind fun x12=>some x12 else some x7))
noncomputable def o8 (R:c5) (x15:List UInt8):Option ((List UInt8)):=some x15
noncomputable def o7 (R:c5) (x19:List UInt8):Option ((List UInt8)):=some x19
noncomputable def o6 (R:c5) (x25:List UInt8):Option ((List UInt8)):=some x25
noncomputable def fy (R:c5) (x1:ApiNode) (x35:Int):Option ((List UInt8)):=(R.1 x1 0 x35).bind fun x36=>(cat ([45]:List UInt8) x36).bind fun x37=>some x37
noncomputable def d8 (R:c5) (x1:ApiNode) (x33:Bool):Option ((List UInt8)):=(if x33=true then fy R x1 9 else fy R x1 7)
noncomputable def o5 (R:c5) (x45:List UInt8):Option ((List UInt8)):=some x45
noncomputable def bu (R:c5) (x1:ApiNode):Option ((List UInt8)):=(if(x1.Kind==13)=true then(j7 x1.N 10).bind fun x4=>some x4 else(if(x1.Kind==14)=true then(jh (x1.N==1)).bind fun x6=>some x6 else(if(x1.Kind==15)=true then some ([110,117,108,108]:List UInt8)else(if(x1.Kind==16)=true then some ([116,104,105,115]:List UInt8)else(if(x1.Kind==17)=true then some x1.Text else(if(x1.Kind==21)=true then(cat ([110,101,119,32]:List UInt8) x1.Text).bind fun x11=>(cat x11 ([40,41]:List UInt8)).bind fun x12=>some x12 else(if(x1.Kind==19)=true then(R.2.2 x1 0).bind fun x14=>(cat x1.Text x14).bind fun x15=>o8 R x15 else(if(x1.Kind==18)=true then(R.1 x1 0 8).bind fun x17=>(cat x17 ([46]:List UInt8)).bind fun x18=>(cat x18 x1.Text).bind fun x19=>o7 R x19 else(if(x1.Kind==20)=true then(R.1 x1 0 8).bind fun x21=>(cat x21 ([46]:List UInt8)).bind fun x22=>(cat x22 x1.Text).bind fun x23=>(R.2.2 x1 1).bind fun x24=>(cat x23 x24).bind fun x25=>o6 R x25 else(if(x1.Kind==22)=true then(R.1 x1 0 7).bind fun x27=>(cat ([33]:List UInt8) x27).bind fun x28=>some x28 else(if(x1.Kind==23)=true then(if(decide ((x1.Kids.length:Int)>0))=true then(idx x1.Kids 0).bind fun x31=>(l4 x31).bind fun x32=>d8 R x1 x32 else d8 R x1 false)else(if(x1.Kind==24)=true then(print_Binds x1.Text).bind fun x39=>(R.1 x1 0 x39).bind fun x40=>(cat x40 ([32]:List UInt8)).bind fun x41=>(cat x41 x1.Text).bind fun x42=>(cat x42 ([32]:List UInt8)).bind fun x43=>(R.1 x1 1 (w64 (x39+1))).bind fun x44=>(cat x43 x44).bind fun x45=>o5 R x45 else some []))))))))))))
noncomputable def ke (R:c5) (x1:ApiNode) (x2:Int):Option ((List UInt8)):=(subL x1.Kids (if(x1.Kids.length:Int)<x2 then(x1.Kids.length:Int)else x2) (x1.Kids.length:Int)).bind fun x4=>(print_list x4 R.2.1).bind fun x5=>some x5
noncomputable def cn (R:c5):c5:=((fun x1 x2 x3=>oz R x1 x2 x3),(fun x1=>bu R x1),(fun x1 x2=>ke R x1 x2))
noncomputable def dx (n:Nat):c5:=Nat.rec (motive:=fun _=>c5) ((fun x1 x2 x3=>none),(fun x1=>none),(fun x1 x2=>none)) (fun _ R=>cn R) n
noncomputable def print_kid (x1:ApiNode) (x2 x3:Int):Option ((List UInt8)):=(dx 1048576).1 x1 x2 x3
abbrev cd :Type:=(ApiNode->Int->(List UInt8)->Option ((List UInt8))) × ((List ApiNode)->(List UInt8)->Option ((List UInt8))) × (ApiNode->(List UInt8)->Option ((List UInt8))) × (ApiNode->(List UInt8)->Option ((List UInt8)))
noncomputable def i4 (R:cd) (x1:ApiNode) (x2:Int) (x3:List UInt8):Option ((List UInt8)):=(if(decide (x2≥(x1.Kids.length:Int)))=true then(R.2.1 [] x3).bind fun x6=>some x6 else(idx x1.Kids x2).bind fun x7=>(if(x7.Kind==5)=true then(idx x1.Kids x2).bind fun x9=>(R.2.1 x9.Kids x3).bind fun x10=>some x10 else(subL x1.Kids x2 (w64 (x2+1))).bind fun x11=>(R.2.1 x11 x3).bind fun x12=>some x12))
noncomputable def print_block_k1 (R:cd) (x2 x3:List UInt8):Option ((List UInt8)):=(cat x3 x2).bind fun x13=>(cat x13 ([125]:List UInt8)).bind fun x14=>some x14
noncomputable def ii (R:cd) (x1:List ApiNode) (x2 x3:List UInt8) (x4:Int):Option (((List UInt8) × Int) ⊕ ((List UInt8))):=(if(decide (x4<(x1.length:Int)))=true then(idx x1 x4).bind fun x8=>(cat x2 ([32,32]:List UInt8)).bind fun x10=>(R.2.2.1 x8 x10).bind fun x11=>(cat x3 x11).bind fun x12=>some (.inl (x12,w64 (x4+1)))else some (.inr x3))
noncomputable def ng (R:cd) (x1:List ApiNode) (x2:List UInt8):Option ((List UInt8)):=(iter (fun s=>ii R x1 x2 s.1 s.2) (([123,10]:List UInt8),0)).bind fun p=>print_block_k1 R x2 p
noncomputable def kf (R:cd) (x1:ApiNode) (x2:List UInt8):Option ((List UInt8)):=(R.2.2.2 x1 x2).bind fun x4=>(if(x4==[])=true then some []else(cat x2 x4).bind fun x6=>(cat x6 ([10]:List UInt8)).bind fun x7=>some x7)
noncomputable def print_line_j1 (R:cd) (x39:List UInt8):Option ((List UInt8)):=some x39
noncomputable def el (R:cd) (x1:ApiNode) (x2:List UInt8):Option ((List UInt8)):=(print_kid x1 0 0).bind fun x4=>(if(x1.Kind==6)=true then(cat x1.Type_ ([32]:List UInt8)).bind fun x6=>(cat x6 x1.Text).bind fun x7=>(cat x7 ([32,61,32]:List UInt8)).bind fun x8=>(cat x8 x4).bind fun x9=>(cat x9 ([59]:List UInt8)).bind fun x10=>some x10 else(if(x1.Kind==7)=true then(cat x4 ([32,61,32]:List UInt8)).bind fun x12=>(print_kid x1 1 0).bind fun x13=>(cat x12 x13).bind fun x14=>(cat x14 ([59]:List UInt8)).bind fun x15=>some x15 else(if(x1.Kind==8)=true then(cat x4 ([59]:List UInt8)).bind fun x17=>some x17 else(if(x1.Kind==11)=true then(if(decide ((x1.Kids.length:Int)>0))=true then(cat ([114,101,116,117,114,110,32]:List UInt8) x4).bind fun x20=>(cat x20 ([59]:List UInt8)).bind fun x21=>some x21 else some ([114,101,116,117,114,110,59]:List UInt8))else(if(x1.Kind==12)=true then(cat ([112,114,105,110,116,40]:List UInt8) x4).bind fun x23=>(cat x23 ([41,59]:List UInt8)).bind fun x24=>some x24 else(if(x1.Kind==10)=true then(cat ([119,104,105,108,101,32,40]:List UInt8) x4).bind fun x26=>(cat x26 ([41,32]:List UInt8)).bind fun x27=>(R.1 x1 1 x2).bind fun x28=>(cat x27 x28).bind fun x29=>some x29 else(if(x1.Kind==9)=true then(cat ([105,102,32,40]:List UInt8) x4).bind fun x31=>(cat x31 ([41,32]:List UInt8)).bind fun x32=>(R.1 x1 1 x2).bind fun x33=>(cat x32 x33).bind fun x34=>(if(decide ((x1.Kids.length:Int)>2))=true then(R.1 x1 2 x2).bind fun x36=>(cat ([32,101,108,115,101,32]:List UInt8) x36).bind fun x37=>(cat x34 x37).bind fun x38=>print_line_j1 R x38 else print_line_j1 R x34)else(if(x1.Kind==5)=true then(R.2.1 x1.Kids x2).bind fun x41=>some x41 else some []))))))))
noncomputable def bo (R:cd):cd:=((fun x1 x2 x3=>i4 R x1 x2 x3),(fun x1 x2=>ng R x1 x2),(fun x1 x2=>kf R x1 x2),(fun x1 x2=>el R x1 x2))
noncomputable def cb (n:Nat):cd:=Nat.rec (motive:=fun _=>cd) ((fun x1 x2 x3=>none),(fun x1 x2=>none),(fun x1 x2=>none),(fun x1 x2=>none)) (fun _ R=>bo R) n
noncomputable def print_belongs (x1:ApiNode) (x2:Int) (x3:List UInt8):Option ((List UInt8)):=(cb 1048576).1 x1 x2 x3
noncomputable def j4 (x1:ApiNode) (x5:List UInt8):Option ((List UInt8)):=(cat x1.Type_ ([32]:List UInt8)).bind fun x6=>(cat x6 x1.Text).bind fun x7=>(cat x5 x7).bind fun x8=>(if(x1.Kind==2)=true then(cat x8 ([59,10]:List UInt8)).bind fun x10=>some x10 else(if(x1.Kind==3)=true then(subL x1.Kids 0 (if(w64 ((x1.Kids.length:Int) - 1))>0 then(w64 ((x1.Kids.length:Int) - 1))else 0)).bind fun x12=>(print_list x12 l5).bind fun x13=>(cat x8 x13).bind fun x14=>(cat x14 ([32]:List UInt8)).bind fun x15=>(print_belongs x1 (if(w64 ((x1.Kids.length:Int) - 1))>0 then(w64 ((x1.Kids.length:Int) - 1))else 0) ([32,32]:List UInt8)).bind fun x16=>(cat x15 x16).bind fun x17=>(cat x17 ([10]:List UInt8)).bind fun x18=>some x18 else some []))
noncomputable def kj (x1:ApiNode):Option ((List UInt8)):=(if(x1.N==1)=true then(cat ([32,32]:List UInt8) ([115,116,97,116,105,99,32]:List UInt8)).bind fun x4=>j4 x1 x4 else j4 x1 ([32,32]:List UInt8))
noncomputable def print_Class_k1 (x9:List UInt8):Option ((List UInt8)):=(cat x9 ([125,10]:List UInt8)).bind fun x18=>some x18
noncomputable def ij (x1:ApiNode) (x9:List UInt8) (x10:Int):Option (((List UInt8) × Int) ⊕ ((List UInt8))):=(if(decide (x10<(x1.Kids.length:Int)))=true then(idx x1.Kids x10).bind fun x14=>(kj x14).bind fun x16=>(cat x9 x16).bind fun x17=>some (.inl (x17,w64 (x10+1)))else some (.inr x9))
noncomputable def l6 (x1:ApiNode) (x7:List UInt8):Option ((List UInt8)):=(cat x7 ([32,123,10]:List UInt8)).bind fun x8=>(iter (fun s=>ij x1 s.1 s.2) (x8,0)).bind fun p=>print_Class_k1 p
noncomputable def print_Class (x1:ApiNode):Option ((List UInt8)):=(cat ([99,108,97,115,115,32]:List UInt8) x1.Text).bind fun x3=>(if(!(x1.Type_==[]))=true then(cat ([32,101,120,116,101,110,100,115,32]:List UInt8) x1.Type_).bind fun x5=>(cat x3 x5).bind fun x6=>l6 x1 x6 else l6 x1 x3)
noncomputable def shape_Of_j1 (x4:ApiNode) (x9:Bool):Option ((List UInt8)):=(if x9=true then(kj x4).bind fun x11=>some x11 else some [])
noncomputable def shape_Of (x1:ApiNode) (x2:List (List UInt8)):Option ((List UInt8)):=(shape_Erase x1 x2).bind fun x4=>(if(x1.Kind==1)=true then(print_Class x4).bind fun x7=>some x7 else(if(x1.Kind==2)=true then shape_Of_j1 x4 (x1.Kind==2)else shape_Of_j1 x4 (x1.Kind==3)))
noncomputable def lex_Lex_1_j1 (x8:List UInt8) (x10 x2 x3:Int) (x13:List ApiToken):Option ((List ApiToken) × (List UInt8) × Int):=some (x13,x8,w64 (x10+(w64 (x2+x3))))
noncomputable def lex_Lex_1 (x1 x2 x3:Int) (x5:List ApiToken) (x8:List UInt8) (x10:Int):Option ((List ApiToken) × (List UInt8) × Int):=(sub x8 (w64 (x10+x2)) (w64 ((w64 (x10+x2))+x3))).bind fun x11=>(sub x8 x10 (w64 (x10+x2))).bind fun x12=>(app 48 x5 ([(ApiToken.mk x1 x11 (w64 (x10+x2)) x12)]:List ApiToken)).bind fun x13=>lex_Lex_1_j1 x8 x10 x2 x3 x13
noncomputable def da (x5:Bool):Option (Bool):=some x5
noncomputable def e7 (x1 x2:List UInt8):Option (Bool):=(if(decide ((x1.length:Int)≥(x2.length:Int)))=true then(sub x1 0 (x2.length:Int)).bind fun x4=>da (x4==x2)else da false)
noncomputable def fg (x1 x2:List UInt8):Option (Bool):=(e7 x1 x2).bind fun x3=>some x3
noncomputable def lex_run_k1 (x1:List UInt8):Option (Int):=some (x1.length:Int)
noncomputable def lex_run_l2 (x1:List UInt8) (x2:(Int->Option Bool)) (x3:Int):Option ((Int) ⊕ (Flow Unit Int)):=(if(decide (x3<(x1.length:Int)))=true then(idxS x1 x3).bind fun x6=>(x2 x6).bind fun x7=>(if(!x7)=true then some (.inr (.done x3))else some (.inl (w64 (x3+1))))else some (.inr (.next ())))
noncomputable def lex_run (x1:List UInt8) (x2:(Int->Option Bool)):Option (Int):=(iter (fun s=>lex_run_l2 x1 x2 s) 0).bind fun z=>match z with| .next p=>lex_run_k1 x1| .done r=>some r
noncomputable def nf (x1:Int):Option (Bool):=some (x1 != 10)
noncomputable def lex_between_j1 (x2:Int):Option (Int × Bool):=some (x2,true)
noncomputable def lex_between_k2 (x2:Int):Option (Int × Bool):=lex_between_j1 x2
noncomputable def js (x2:Int):Option ((Int) ⊕ (Flow Int (Int × Bool))):=some (.inl (w64 (x2+1)))
noncomputable def l7 (x1:List UInt8) (x2:Int):Option ((Int) ⊕ (Flow Int (Int × Bool))):=(if(decide (x2<(x1.length:Int)))=true then(sub x1 x2 (x1.length:Int)).bind fun x5=>(fg x5 ([47,47]:List UInt8)).bind fun x6=>(if x6=true then(lex_run x5 nf).bind fun x8=>some (.inl (w64 (x2+x8)))else(fg x5 ([47,42]:List UInt8)).bind fun x9=>(if x9=true then(sub x5 2 (x5.length:Int)).bind fun x11=>(strings_Index x11 ([42,47]:List UInt8)).bind fun x12=>(if(decide (x12<0))=true then some (.inr (.done (x2,false)))else some (.inl (w64 (x2+(w64 ((w64 (2+x12))+2))))))else(idxS x5 0).bind fun x14=>(if(x14==32)=true then js x2 else(if(x14==9)=true then js x2 else(if(x14==13)=true then js x2 else(if(x14==10)=true then js x2 else some (.inr (.next x2))))))))else some (.inr (.next x2)))
noncomputable def lex_between (x1:List UInt8):Option (Int × Bool):=(iter (fun s=>l7 x1 s) 0).bind fun z=>match z with| .next p=>lex_between_k2 p| .done r=>some r
noncomputable def lex_digit_j1 (x3:Bool):Option (Bool):=some x3
noncomputable def lex_digit (x1:Int):Option (Bool):=(if(decide (x1≥48))=true then lex_digit_j1 (decide (x1<=57))else lex_digit_j1 false)
noncomputable def lex_letter_j1 (x5:Bool):Option (Bool):=some x5
noncomputable def lex_letter (x1:Int):Option (Bool):=(if(decide ((bits .or .u8 x1 32)≥97))=true then(if(decide ((bits .or .u8 x1 32)<=122))=true then lex_letter_j1 true else lex_letter_j1 (x1==95))else lex_letter_j1 (x1==95))
noncomputable def lex_token_1_j1 (x5:Bool):Option (Bool):=some x5
noncomputable def ow (x1:Int):Option (Bool):=(lex_letter x1).bind fun x2=>(if x2=true then lex_token_1_j1 true else(lex_digit x1).bind fun x4=>lex_token_1_j1 x4)
noncomputable def ff:Option (Int):=some (-1)
noncomputable def dr (x1:List (List UInt8)) (x2:List UInt8) (x3:Int):Option ((Int) ⊕ (Flow Unit Int)):=(if(decide (x3<(x1.length:Int)))=true then(idx x1 x3).bind fun x6=>(if(x2==x6)=true then some (.inr (.done x3))else some (.inl (w64 (x3+1))))else some (.inr (.next ())))
noncomputable def ew (x1:List (List UInt8)) (x2:List UInt8):Option (Int):=(iter (fun s=>dr x1 x2 s) 0).bind fun z=>match z with| .next p=>ff| .done r=>some r
noncomputable def ea (x1:List (List UInt8)) (x2:List UInt8):Option (Bool):=(ew x1 x2).bind fun x3=>some (decide (x3≥0))
noncomputable def lex_Kept (x1:List UInt8):Option (Bool):=(ea kept x1).bind fun x2=>some x2
noncomputable def lex_mark_k1 (x1:List UInt8):Option (Int):=(idxS x1 0).bind fun x8=>(strings_IndexByte ([43,45,42,47,37,60,62,61,33,40,41,123,125,59,44,46]:List UInt8) x8).bind fun x9=>(if(decide (x9≥0))=true then some 1 else some 0)
noncomputable def lex_mark_l2 (x1:List UInt8) (x2:Int):Option ((Int) ⊕ (Flow Unit Int)):=(if(decide (x2<(([([61,61]:List UInt8),([33,61]:List UInt8),([60,61]:List UInt8),([62,61]:List UInt8),([38,38]:List UInt8),([124,124]:List UInt8)]:List (List UInt8)).length:Int)))=true then(idx ([([61,61]:List UInt8),([33,61]:List UInt8),([60,61]:List UInt8),([62,61]:List UInt8),([38,38]:List UInt8),([124,124]:List UInt8)]:List (List UInt8)) x2).bind fun x5=>(fg x1 x5).bind fun x6=>(if x6=true then some (.inr (.done 2))else some (.inl (w64 (x2+1))))else some (.inr (.next ())))
noncomputable def lex_mark (x1:List UInt8):Option (Int):=(iter (fun s=>lex_mark_l2 x1 s) 0).bind fun z=>match z with| .next p=>lex_mark_k1 x1| .done r=>some r
noncomputable def mr (x5:Int) (x16:Bool):Option (Int × Int × Int):=(if x16=true then some (0,0,31)else some (2,x5,0))
noncomputable def lex_token (x1:List UInt8):Option (Int × Int × Int):=(idxS x1 0).bind fun x2=>(lex_digit x2).bind fun x3=>(if x3=true then(lex_run x1 lex_digit).bind fun x5=>(sub x1 0 x5).bind fun x6=>(k5 x6 10 64).bind fun(x7,x8)=>(if x8=true then mr x5 true else(if(decide (x7>2147483647))=true then mr x5 true else(if(decide (x5>1))=true then(idxS x1 0).bind fun x12=>mr x5 (x12==48)else mr x5 false)))else(idxS x1 0).bind fun x18=>(lex_letter x18).bind fun x19=>(if x19=true then(lex_run x1 ow).bind fun x21=>(if(decide (x21>20))=true then some (0,0,2)else(sub x1 0 x21).bind fun x23=>(lex_Kept x23).bind fun x24=>(if x24=true then some (3,x21,0)else some (1,x21,0)))else(lex_mark x1).bind fun x26=>(if(x26==0)=true then some (0,0,30)else some (4,x26,0))))
noncomputable def lex_Lex_j2 (x8 x15:Int):Option (((List UInt8) × Int × (List ApiToken)) ⊕ ((List ApiToken) × Int × Int)):=some (.inr ([],w64 (x8+x15),32))
noncomputable def lex_Lex_j3 (x8 x15 x26:Int):Option (((List UInt8) × Int × (List ApiToken)) ⊕ ((List ApiToken) × Int × Int)):=some (.inr ([],w64 (x8+x15),x26))
noncomputable def fv (x6:List UInt8) (x8:Int) (x9:List ApiToken):Option (((List UInt8) × Int × (List ApiToken)) ⊕ ((List ApiToken) × Int × Int)):=(sub x6 x8 (x6.length:Int)).bind fun x14=>(lex_between x14).bind fun(x15,x16)=>(if(!x16)=true then lex_Lex_j2 x8 x15 else(if((w64 (x8+x15))==(x6.length:Int))=true then(lex_Lex_1 5 x15 0 x9 x6 x8).bind fun(x19,x21,x22)=>some (.inr (x19,0,0))else(sub x6 (w64 (x8+x15)) (x6.length:Int)).bind fun x23=>(lex_token x23).bind fun(x24,x25,x26)=>(if(x26 != 0)=true then lex_Lex_j3 x8 x15 x26 else(lex_Lex_1 x24 x15 x25 x9 x6 x8).bind fun(x28,x30,x31)=>some (.inl (x30,x31,x28)))))
noncomputable def lex_Lex (x1:List UInt8):Option ((List ApiToken) × Int × Int):=(if(decide ((x1.length:Int)>1048576))=true then some ([],0,2)else iter (fun s=>fv s.1 s.2.1 s.2.2) (x1,0,[]))
noncomputable def shape_Tokens_k1 (x12:List (List UInt8)):Option ((List (List UInt8))):=some x12
noncomputable def gc (x9:List ApiToken) (x11:Int) (x12:List (List UInt8)):Option ((Int × (List (List UInt8))) ⊕ ((List (List UInt8)))):=(if(decide (x11<(x9.length:Int)))=true then(idx x9 x11).bind fun x17=>(app 16 x12 ([x17.Text]:List (List UInt8))).bind fun x19=>some (.inl (w64 (x11+1),x19))else some (.inr x12))
noncomputable def gy (x1:ApiNode) (x2:List (List UInt8)):Option ((List (List UInt8))):=(shape_Of x1 x2).bind fun x4=>(lex_Lex x4).bind fun(x5,x6,x7)=>(if(x7 != 0)=true then some []else(subL x5 0 (w64 ((x5.length:Int) - 1))).bind fun x9=>(iter (fun s=>gc x9 s.1 s.2) (0,[])).bind fun p=>shape_Tokens_k1 p)
noncomputable def ol (x3:Int):Option (Int × Bool):=some (x3,true)
noncomputable def ref03_between_k3 (x29:Int):Option ((Int) ⊕ (Flow Int (Int × Bool))):=some (.inl x29)
noncomputable def la (x29:Int) (x33:Bool):Option ((Int) ⊕ (Int)):=(if x33=true then some (.inl (w64 (x29+1)))else some (.inr x29))
noncomputable def gv (x1:List UInt8) (x29:Int):Option ((Int) ⊕ (Int)):=(if(decide (x29<(x1.length:Int)))=true then(idxS x1 x29).bind fun x32=>la x29 (x32 != 10)else la x29 false)
noncomputable def k9 (x1:List UInt8) (x3 x35:Int):Option ((Int) ⊕ (Flow Int (Int × Bool))):=(if(decide ((w64 (x35+1))≥(x1.length:Int)))=true then some (.inr (.done (x3,false)))else some (.inl (w64 (x35+2))))
noncomputable def jb (x35:Int) (x41:Bool):Option ((Int) ⊕ (Int)):=(if x41=true then some (.inl (w64 (x35+1)))else some (.inr x35))
noncomputable def gu (x1:List UInt8) (x35:Int):Option ((Int) ⊕ (Int)):=(if(decide ((w64 (x35+1))<(x1.length:Int)))=true then(idxS x1 x35).bind fun x38=>(if(x38 != 42)=true then jb x35 true else(idxS x1 (w64 (x35+1))).bind fun x40=>jb x35 (x40 != 47))else jb x35 false)
noncomputable def fe (x3:Int) (x1:List UInt8) (x25:Bool):Option ((Int) ⊕ (Flow Int (Int × Bool))):=(if x25=true then some (.inr (.done (x3,true)))else(idxS x1 (w64 (x3+1))).bind fun x27=>(if(x27==47)=true then(iter (fun s=>gv x1 s) x3).bind fun p=>ref03_between_k3 p else(iter (fun s=>gu x1 s) (w64 (x3+2))).bind fun p=>k9 x1 x3 p))
noncomputable def dz (x3:Int) (x1:List UInt8) (x6:Int) (x14:Bool):Option ((Int) ⊕ (Flow Int (Int × Bool))):=(if x14=true then some (.inl (w64 (x3+1)))else(if(decide ((w64 (x3+1))≥(x1.length:Int)))=true then fe x3 x1 true else(if(x6 != 47)=true then fe x3 x1 true else(idxS x1 (w64 (x3+1))).bind fun x18=>(if(x18 != 47)=true then(idxS x1 (w64 (x3+1))).bind fun x20=>fe x3 x1 (x20 != 42)else fe x3 x1 false))))
noncomputable def c7 (x1:List UInt8) (x3:Int):Option ((Int) ⊕ (Flow Int (Int × Bool))):=(if(decide (x3<(x1.length:Int)))=true then(idxS x1 x3).bind fun x6=>(if(x6==32)=true then dz x3 x1 x6 true else(if(x6==9)=true then dz x3 x1 x6 true else(if(x6==10)=true then dz x3 x1 x6 true else dz x3 x1 x6 (x6==13))))else some (.inr (.next x3)))
noncomputable def ref03_between (x1:List UInt8) (x2:Int):Option (Int × Bool):=(iter (fun s=>c7 x1 s) x2).bind fun z=>match z with| .next p=>ol p| .done r=>some r
noncomputable def ref03_digit_j1 (x3:Bool):Option (Bool):=some x3
noncomputable def ml (x1:Int):Option (Bool):=(if(decide (x1≥48))=true then ref03_digit_j1 (decide (x1<=57))else ref03_digit_j1 false)
noncomputable def ref03_great_k1 (x3:Int):Option (Bool):=some (decide (x3>2147483647))
noncomputable def l0 (x1:List UInt8) (x3 x4:Int):Option ((Int × Int) ⊕ (Int)):=(if(decide (x4<(x1.length:Int)))=true then(idxS x1 x4).bind fun x8=>some (.inl (w64 ((w64 (10 * x3))+(w64 (IntKind.wrap .u8 (x8 - 48)))),w64 (x4+1)))else some (.inr x3))
noncomputable def ref03_great (x1:List UInt8):Option (Bool):=(if(decide ((x1.length:Int)>10))=true then some true else(iter (fun s=>l0 x1 s.1 s.2) (0,0)).bind fun p=>ref03_great_k1 p)
noncomputable def fj (x13:Bool):Option (Bool):=some x13
noncomputable def mq (x1:Int):Option (Bool):=(if(decide (x1≥97))=true then(if(decide (x1<=122))=true then fj true else(if(decide (x1≥65))=true then(if(decide (x1<=90))=true then fj true else fj (x1==95))else fj (x1==95)))else(if(decide (x1≥65))=true then(if(decide (x1<=90))=true then fj true else fj (x1==95))else fj (x1==95)))
noncomputable def ref03_Kept_k1:Option (Bool):=some false
noncomputable def ne (x1:List UInt8) (x2:Int):Option ((Int) ⊕ (Flow Unit Bool)):=(if(decide (x2<(([([99,108,97,115,115]:List UInt8),([101,120,116,101,110,100,115]:List UInt8),([115,116,97,116,105,99]:List UInt8),([118,111,105,100]:List UInt8),([105,110,116]:List UInt8),([98,111,111,108,101,97,110]:List UInt8),([105,102]:List UInt8),([101,108,115,101]:List UInt8),([119,104,105,108,101]:List UInt8),([114,101,116,117,114,110]:List UInt8),([112,114,105,110,116]:List UInt8),([116,114,117,101]:List UInt8),([102,97,108,115,101]:List UInt8),([110,117,108,108]:List UInt8),([116,104,105,115]:List UInt8),([110,101,119]:List UInt8)]:List (List UInt8)).length:Int)))=true then(idx ([([99,108,97,115,115]:List UInt8),([101,120,116,101,110,100,115]:List UInt8),([115,116,97,116,105,99]:List UInt8),([118,111,105,100]:List UInt8),([105,110,116]:List UInt8),([98,111,111,108,101,97,110]:List UInt8),([105,102]:List UInt8),([101,108,115,101]:List UInt8),([119,104,105,108,101]:List UInt8),([114,101,116,117,114,110]:List UInt8),([112,114,105,110,116]:List UInt8),([116,114,117,101]:List UInt8),([102,97,108,115,101]:List UInt8),([110,117,108,108]:List UInt8),([116,104,105,115]:List UInt8),([110,101,119]:List UInt8)]:List (List UInt8)) x2).bind fun x5=>(if(x5==x1)=true then some (.inr (.done true))else some (.inl (w64 (x2+1))))else some (.inr (.next ())))
noncomputable def ref03_Kept (x1:List UInt8):Option (Bool):=(iter (fun s=>ne x1 s) 0).bind fun z=>match z with| .next p=>ref03_Kept_k1| .done r=>some r
noncomputable def ref03_mark_k1:Option (Int):=some 0
noncomputable def ref03_mark_j3 (x11 x14 x15:Int):Option ((Int) ⊕ (Flow Unit Int)):=(if(x14==x15)=true then some (.inr (.done 1))else some (.inl (w64 (x11+1))))
noncomputable def k2 (x1:List UInt8) (x2 x11:Int):Option ((Int) ⊕ (Flow Unit Int)):=(if(decide (x11<(([43,45,42,47,37,60,62,61,33,40,41,123,125,59,44,46]:List UInt8).length:Int)))=true then(idxS x1 x2).bind fun x14=>(idxS ([43,45,42,47,37,60,62,61,33,40,41,123,125,59,44,46]:List UInt8) x11).bind fun x15=>ref03_mark_j3 x11 x14 x15 else some (.inr (.next ())))
noncomputable def ref03_mark_k4 (x1:List UInt8) (x2:Int):Option (Int):=(iter (fun s=>k2 x1 x2 s) 0).bind fun z=>match z with| .next p=>ref03_mark_k1| .done r=>some r
noncomputable def ref03_mark_j6 (x3:Int) (x8 x9:List UInt8):Option ((Int) ⊕ (Flow Unit Int)):=(if(x8==x9)=true then some (.inr (.done 2))else some (.inl (w64 (x3+1))))
noncomputable def ref03_mark_j7 (x1:List UInt8) (x2 x3:Int) (x6:Bool):Option ((Int) ⊕ (Flow Unit Int)):=(if x6=true then(sub x1 x2 (w64 (x2+2))).bind fun x8=>(idx ([([61,61]:List UInt8),([33,61]:List UInt8),([60,61]:List UInt8),([62,61]:List UInt8),([38,38]:List UInt8),([124,124]:List UInt8)]:List (List UInt8)) x3).bind fun x9=>ref03_mark_j6 x3 x8 x9 else some (.inr (.next ())))
noncomputable def k1 (x1:List UInt8) (x2 x3:Int):Option ((Int) ⊕ (Flow Unit Int)):=(if(decide (x3<(([([61,61]:List UInt8),([33,61]:List UInt8),([60,61]:List UInt8),([62,61]:List UInt8),([38,38]:List UInt8),([124,124]:List UInt8)]:List (List UInt8)).length:Int)))=true then ref03_mark_j7 x1 x2 x3 (decide ((w64 (x2+2))<=(x1.length:Int)))else ref03_mark_j7 x1 x2 x3 false)
noncomputable def ref03_mark (x1:List UInt8) (x2:Int):Option (Int):=(iter (fun s=>k1 x1 x2 s) 0).bind fun z=>match z with| .next p=>ref03_mark_k4 x1 x2| .done r=>some r
noncomputable def lz (x6:Int) (x18:Bool):Option (Int × Int × Int):=(if x18=true then some (0,0,31)else some (2,x6,0))
noncomputable def ref03_token_k2 (x1:List UInt8) (x2 x6:Int):Option (Int × Int × Int):=(sub x1 x2 (w64 (x2+x6))).bind fun x13=>(ref03_great x13).bind fun x14=>(if x14=true then lz x6 true else(if(decide (x6>1))=true then(idxS x1 x2).bind fun x17=>lz x6 (x17==48)else lz x6 false))
noncomputable def nr (x6:Int) (x11:Bool):Option ((Int) ⊕ (Int)):=(if x11=true then some (.inl (w64 (x6+1)))else some (.inr x6))
noncomputable def jq (x2:Int) (x1:List UInt8) (x6:Int):Option ((Int) ⊕ (Int)):=(if(decide ((w64 (x2+x6))<(x1.length:Int)))=true then(idxS x1 (w64 (x2+x6))).bind fun x9=>(ml x9).bind fun x10=>nr x6 x10 else nr x6 false)
noncomputable def ref03_token_k5 (x1:List UInt8) (x2 x23:Int):Option (Int × Int × Int):=(if(decide (x23>20))=true then some (0,0,2)else(sub x1 x2 (w64 (x2+x23))).bind fun x34=>(ref03_Kept x34).bind fun x35=>(if x35=true then some (3,x23,0)else some (1,x23,0)))
noncomputable def ly (x23:Int) (x31:Bool):Option ((Int) ⊕ (Int)):=(if x31=true then some (.inl (w64 (x23+1)))else some (.inr x23))
noncomputable def jp (x2:Int) (x1:List UInt8) (x23:Int):Option ((Int) ⊕ (Int)):=(if(decide ((w64 (x2+x23))<(x1.length:Int)))=true then(idxS x1 (w64 (x2+x23))).bind fun x26=>(mq x26).bind fun x27=>(if x27=true then ly x23 true else(idxS x1 (w64 (x2+x23))).bind fun x29=>(ml x29).bind fun x30=>ly x23 x30)else ly x23 false)
noncomputable def ref03_token (x1:List UInt8) (x2:Int):Option (Int × Int × Int):=(idxS x1 x2).bind fun x3=>(ml x3).bind fun x4=>(if x4=true then(iter (fun s=>jq x2 x1 s) 0).bind fun p=>ref03_token_k2 x1 x2 p else(idxS x1 x2).bind fun x20=>(mq x20).bind fun x21=>(if x21=true then(iter (fun s=>jp x2 x1 s) 0).bind fun p=>ref03_token_k5 x1 x2 p else(ref03_mark x1 x2).bind fun x37=>(if(x37==0)=true then some (0,0,30)else some (4,x37,0))))
noncomputable def ref03_Lex_j2 (x9 x17:Int) (x22:List ApiToken):Option ((Int × (List ApiToken)) ⊕ ((List ApiToken) × Int × Int)):=some (.inl (w64 (x9+x17),x22))
noncomputable def ej (x1:List UInt8) (x4:Int) (x5:List ApiToken):Option ((Int × (List ApiToken)) ⊕ ((List ApiToken) × Int × Int)):=(ref03_between x1 x4).bind fun(x9,x10)=>(if(!x10)=true then some (.inr ([],x9,32))else(if(x9==(x1.length:Int))=true then(sub x1 x4 (x1.length:Int)).bind fun x13=>(app 48 x5 ([(ApiToken.mk 5 [] x9 x13)]:List ApiToken)).bind fun x14=>some (.inr (x14,0,0))else(ref03_token x1 x9).bind fun(x16,x17,x18)=>(if(x18 != 0)=true then some (.inr ([],x9,x18))else(sub x1 x9 (w64 (x9+x17))).bind fun x20=>(sub x1 x4 x9).bind fun x21=>(app 48 x5 ([(ApiToken.mk x16 x20 x9 x21)]:List ApiToken)).bind fun x22=>ref03_Lex_j2 x9 x17 x22)))
noncomputable def ref03_Lex (x1:List UInt8):Option ((List ApiToken) × Int × Int):=(if(decide ((x1.length:Int)>1048576))=true then some ([],0,2)else iter (fun s=>ej x1 s.1 s.2) (0,[]))
noncomputable def a9 (x1:Int):Option (Ref12Wrong):=some (Ref12Wrong.mk x1 120)
noncomputable def ou (x18:Bool):Option (Bool):=some x18
noncomputable def ce (x1:List ApiToken) (x2:Int) (x3:List UInt8):Option (Bool):=(if(decide (x2<(x1.length:Int)))=true then(idx x1 x2).bind fun x5=>(if(x5.Text==x3)=true then(idx x1 x2).bind fun x7=>(if(x7.Kind != 1)=true then(idx x1 x2).bind fun x9=>ou (x9.Kind != 5)else ou false)else ou false)else ou false)
noncomputable def ref12_name_j1 (x5:Bool):Option (Bool):=some x5
noncomputable def io (x1:List ApiToken) (x2:Int):Option (Bool):=(if(decide (x2<(x1.length:Int)))=true then(idx x1 x2).bind fun x4=>ref12_name_j1 (x4.Kind==1)else ref12_name_j1 false)
noncomputable def ky (x18:Bool):Option (Bool):=some x18
noncomputable def ref12_kind (x1:List ApiToken) (x2:Int):Option (Bool):=(io x1 x2).bind fun x3=>(if x3=true then ky true else(ce x1 x2 ([105,110,116]:List UInt8)).bind fun x5=>(if x5=true then ky true else(ce x1 x2 ([98,111,111,108,101,97,110]:List UInt8)).bind fun x7=>(if x7=true then ky true else(ce x1 x2 ([118,111,105,100]:List UInt8)).bind fun x9=>ky x9)))
noncomputable def ot (x1:List ApiToken) (x2:ApiNode) (x3:Int):Option (ApiNode):=(idx x1 x3).bind fun x6=>(idx x1 x3).bind fun x7=>(idx x1 (w64 (x3+1))).bind fun x8=>(idx x1 (w64 (x3+1))).bind fun x9=>some ({{{{x2 with Type_:=x6.Text} with TypeAt:=x7.At} with Text:=x8.Text} with At:=x9.At})
noncomputable def ref12_end_j1 (x3 x4:ApiToken):Option (Int):=some (w64 (x3.At+(x4.Text.length:Int)))
noncomputable def ref12_end (x1:List ApiToken) (x2:Int):Option (Int):=(idx x1 (w64 (x2 - 1))).bind fun x3=>(idx x1 (w64 (x2 - 1))).bind fun x4=>ref12_end_j1 x3 x4
noncomputable def ref12_made_j1 (x2:Int) (x5:List ApiNode) (x7:ApiToken) (x8:Int):Option (ApiNode):=some (ApiNode.mk x2 [] [] 0 x7.At x8 (-1) (-1) x5)
noncomputable def de (x1:List ApiToken) (x2 x3 x4:Int) (x5:List ApiNode):Option (ApiNode):=(idx x1 x3).bind fun x7=>(ref12_end x1 x4).bind fun x8=>ref12_made_j1 x2 x5 x7 x8
noncomputable def bh:Option (Ref12Wrong):=some (Ref12Wrong.mk (-1) 0)
noncomputable def ix (x8:Int) (x1:List ApiToken) (x10:List ApiNode) (x17:Bool):Option ((Int × (List ApiNode)) ⊕ ((List ApiNode) × Int × Ref12Wrong)):=(if x17=true then(a9 x8).bind fun x19=>some (.inr ([],0,x19))else(io x1 (w64 (x8+1))).bind fun x21=>(if(!x21)=true then(a9 (w64 (x8+1))).bind fun x23=>some (.inr ([],0,x23))else(de x1 4 x8 (w64 (x8+2)) []).bind fun x25=>(ot x1 x25 x8).bind fun x26=>(app 104 x10 ([x26]:List ApiNode)).bind fun x27=>(ce x1 (w64 (x8+2)) ([41]:List UInt8)).bind fun x29=>(if x29=true then(bh).bind fun x31=>some (.inr (x27,w64 (x8+3),x31))else(ce x1 (w64 (x8+2)) ([44]:List UInt8)).bind fun x32=>(if(!x32)=true then(a9 (w64 (x8+2))).bind fun x34=>some (.inr ([],0,x34))else some (.inl (w64 (x8+3),x27))))))
noncomputable def jv (x1:List ApiToken) (x8:Int) (x10:List ApiNode):Option ((Int × (List ApiNode)) ⊕ ((List ApiNode) × Int × Ref12Wrong)):=(ref12_kind x1 x8).bind fun x14=>(if(!x14)=true then ix x8 x1 x10 true else(ce x1 x8 ([118,111,105,100]:List UInt8)).bind fun x16=>ix x8 x1 x10 x16)
noncomputable def ref12_params (x1:List ApiToken) (x2:Int):Option ((List ApiNode) × Int × Ref12Wrong):=(ce x1 x2 ([41]:List UInt8)).bind fun x4=>(if x4=true then(bh).bind fun x6=>some ([],w64 (x2+1),x6)else iter (fun s=>jv x1 s.1 s.2) (x2,[]))
noncomputable def ref12_binds_k1:Option (Int):=some 0
noncomputable def ref12_binds_k3 (x3:Int):Option ((Int) ⊕ (Flow Unit Int)):=some (.inl (w64 (x3+1)))
noncomputable def jn (x3:Int) (x1:List ApiToken) (x2 x6:Int):Option ((Int) ⊕ (Flow Unit ((Int) ⊕ (Flow Unit Int)))):=(idx ([([([124,124]:List UInt8)]:List (List UInt8)),([([38,38]:List UInt8)]:List (List UInt8)),([([61,61]:List UInt8),([33,61]:List UInt8)]:List (List UInt8)),([([60]:List UInt8),([60,61]:List UInt8),([62]:List UInt8),([62,61]:List UInt8)]:List (List UInt8)),([([43]:List UInt8),([45]:List UInt8)]:List (List UInt8)),([([42]:List UInt8),([47]:List UInt8),([37]:List UInt8)]:List (List UInt8))]:List (List (List UInt8))) x3).bind fun x8=>(if(decide (x6<(x8.length:Int)))=true then(idx ([([([124,124]:List UInt8)]:List (List UInt8)),([([38,38]:List UInt8)]:List (List UInt8)),([([61,61]:List UInt8),([33,61]:List UInt8)]:List (List UInt8)),([([60]:List UInt8),([60,61]:List UInt8),([62]:List UInt8),([62,61]:List UInt8)]:List (List UInt8)),([([43]:List UInt8),([45]:List UInt8)]:List (List UInt8)),([([42]:List UInt8),([47]:List UInt8),([37]:List UInt8)]:List (List UInt8))]:List (List (List UInt8))) x3).bind fun x10=>(idx x10 x6).bind fun x11=>(ce x1 x2 x11).bind fun x12=>(if x12=true then some (.inr (.done (.inr (.done (w64 (x3+1))))))else some (.inl (w64 (x6+1))))else some (.inr (.next ())))
noncomputable def lu (x1:List ApiToken) (x2 x3:Int):Option ((Int) ⊕ (Flow Unit Int)):=(if(decide (x3<(([([([124,124]:List UInt8)]:List (List UInt8)),([([38,38]:List UInt8)]:List (List UInt8)),([([61,61]:List UInt8),([33,61]:List UInt8)]:List (List UInt8)),([([60]:List UInt8),([60,61]:List UInt8),([62]:List UInt8),([62,61]:List UInt8)]:List (List UInt8)),([([43]:List UInt8),([45]:List UInt8)]:List (List UInt8)),([([42]:List UInt8),([47]:List UInt8),([37]:List UInt8)]:List (List UInt8))]:List (List (List UInt8))).length:Int)))=true then(iter (fun s=>jn x3 x1 x2 s) 0).bind fun z=>match z with| .next p=>ref12_binds_k3 x3| .done r=>some r else some (.inr (.next ())))
noncomputable def ref12_binds (x1:List ApiToken) (x2:Int):Option (Int):=(iter (fun s=>lu x1 x2 s) 0).bind fun z=>match z with| .next p=>ref12_binds_k1| .done r=>some r
abbrev am :Type:=((List ApiToken)->Int->Int->Option (ApiNode × Int × Ref12Wrong)) × ((List ApiToken)->Int->Int->Int->Option (ApiNode × Int × Ref12Wrong)) × ((List ApiToken)->Int->Int->Option (ApiNode × Int × Ref12Wrong)) × ((List ApiToken)->Int->Int->Option (ApiNode × Int × Ref12Wrong)) × ((List ApiToken)->Int->Int->Option ((List ApiNode) × Int × Ref12Wrong))
noncomputable def jk (R:am) (x1:List ApiToken) (x2 x3:Int):Option (ApiNode × Int × Ref12Wrong):=(R.2.1 x1 x2 x3 1).bind fun(x6,x7,x8)=>some (x6,x7,x8)
noncomputable def ref12_level_j1 (R:am) (x13:Ref12Wrong):Option (ApiNode × Int × Ref12Wrong):=some ((ApiNode.mk 0 [] [] 0 0 0 0 0 []),0,x13)
noncomputable def ref12_level_j2 (R:am) (x18:ApiNode) (x17:Int) (x31:Ref12Wrong):Option (ApiNode × Int × Ref12Wrong):=some (x18,x17,x31)
noncomputable def ref12_level_k3 (R:am) (x17:Int) (x18:ApiNode):Option (ApiNode × Int × Ref12Wrong):=(bh).bind fun x31=>ref12_level_j2 R x18 x17 x31
noncomputable def ref12_level_j5 (R:am) (x25:Ref12Wrong):Option ((Int × ApiNode) ⊕ (Flow (Int × ApiNode) (ApiNode × Int × Ref12Wrong))):=some (.inr (.done ((ApiNode.mk 0 [] [] 0 0 0 0 0 []),0,x25)))
noncomputable def lq (R:am) (x1:List ApiToken) (x4 x3 x2 x17:Int) (x18:ApiNode):Option ((Int × ApiNode) ⊕ (Flow (Int × ApiNode) (ApiNode × Int × Ref12Wrong))):=(ref12_binds x1 x17).bind fun x21=>(if(x21==x4)=true then(R.2.1 x1 (w64 (x17+1)) x3 (w64 (x4+1))).bind fun(x23,x24,x25)=>(if(decide (x25.Place≥0))=true then ref12_level_j5 R x25 else(idx x1 x17).bind fun x29=>(de x1 24 x2 x24 ([x18,x23]:List ApiNode)).bind fun x30=>some (.inl (x24,{x30 with Text:=x29.Text})))else some (.inr (.next (x17,x18))))
noncomputable def F_ref12_level (R:am) (x1:List ApiToken) (x2 x3 x4:Int):Option (ApiNode × Int × Ref12Wrong):=(if(decide (x4>6))=true then(R.2.2.1 x1 x2 x3).bind fun(x8,x9,x10)=>some (x8,x9,x10)else(R.2.1 x1 x2 x3 (w64 (x4+1))).bind fun(x11,x12,x13)=>(if(decide (x13.Place≥0))=true then ref12_level_j1 R x13 else(iter (fun s=>lq R x1 x4 x3 x2 s.1 s.2) (x12,x11)).bind fun z=>match z with| .next p=>ref12_level_k3 R p.1 p.2| .done r=>some r))
noncomputable def ref12_unary_j1 (R:am) (x14:Ref12Wrong):Option (ApiNode × Int × Ref12Wrong):=some ((ApiNode.mk 0 [] [] 0 0 0 0 0 []),0,x14)
noncomputable def lp (R:am) (x1:List ApiToken) (x2 x13:Int) (x12:ApiNode) (x20:Int):Option (ApiNode × Int × Ref12Wrong):=(de x1 x20 x2 x13 ([x12]:List ApiNode)).bind fun x21=>(bh).bind fun x22=>some (x21,x13,x22)
noncomputable def ref12_unary_j3 (R:am) (x25:Ref12Wrong):Option (ApiNode × Int × Ref12Wrong):=some ((ApiNode.mk 0 [] [] 0 0 0 0 0 []),0,x25)
noncomputable def ref12_unary_j4 (R:am) (x30:ApiNode) (x29:Int) (x55:Ref12Wrong):Option (ApiNode × Int × Ref12Wrong):=some (x30,x29,x55)
noncomputable def ref12_unary_k5 (R:am) (x29:Int) (x30:ApiNode):Option (ApiNode × Int × Ref12Wrong):=(bh).bind fun x55=>ref12_unary_j4 R x30 x29 x55
noncomputable def ln (R:am) (x1:List ApiToken) (x2 x29 x48 x49:Int) (x51:List ApiNode):Option ((Int × ApiNode) ⊕ (Flow (Int × ApiNode) (ApiNode × Int × Ref12Wrong))):=(de x1 x49 x2 x48 x51).bind fun x52=>(idx x1 (w64 (x29+1))).bind fun x53=>(idx x1 (w64 (x29+1))).bind fun x54=>some (.inl (x48,{{x52 with Text:=x53.Text} with At:=x54.At}))
noncomputable def ref12_unary_j8 (R:am) (x43:Ref12Wrong):Option ((Int × ApiNode) ⊕ (Flow (Int × ApiNode) (ApiNode × Int × Ref12Wrong))):=some (.inr (.done ((ApiNode.mk 0 [] [] 0 0 0 0 0 []),0,x43)))
noncomputable def ll (R:am) (x1:List ApiToken) (x3 x2 x29:Int) (x30:ApiNode):Option ((Int × ApiNode) ⊕ (Flow (Int × ApiNode) (ApiNode × Int × Ref12Wrong))):=(ce x1 x29 ([46]:List UInt8)).bind fun x33=>(if x33=true then(io x1 (w64 (x29+1))).bind fun x35=>(if(!x35)=true then(a9 (w64 (x29+1))).bind fun x37=>some (.inr (.done ((ApiNode.mk 0 [] [] 0 0 0 0 0 []),0,x37)))else(ce x1 (w64 ((w64 (x29+1))+1)) ([40]:List UInt8)).bind fun x39=>(if x39=true then(R.2.2.2.2 x1 (w64 ((w64 ((w64 (x29+1))+1))+1)) (w64 (x3+1))).bind fun(x41,x42,x43)=>(if(decide (x43.Place≥0))=true then ref12_unary_j8 R x43 else(app 104 ([x30]:List ApiNode) x41).bind fun x46=>ln R x1 x2 x29 x42 20 x46)else ln R x1 x2 x29 (w64 ((w64 (x29+1))+1)) 18 ([x30]:List ApiNode)))else some (.inr (.next (x29,x30))))
noncomputable def lm (R:am) (x1:List ApiToken) (x2 x3:Int) (x10:Bool):Option (ApiNode × Int × Ref12Wrong):=(if x10=true then(R.2.2.1 x1 (w64 (x2+1)) (w64 (x3+1))).bind fun(x12,x13,x14)=>(if(decide (x14.Place≥0))=true then ref12_unary_j1 R x14 else(idx x1 x2).bind fun x18=>(if(x18.Text==([45]:List UInt8))=true then lp R x1 x2 x13 x12 23 else lp R x1 x2 x13 x12 22))else(R.2.2.2.1 x1 x2 (w64 (x3+1))).bind fun(x23,x24,x25)=>(if(decide (x25.Place≥0))=true then ref12_unary_j3 R x25 else(iter (fun s=>ll R x1 x3 x2 s.1 s.2) (x24,x23)).bind fun z=>match z with| .next p=>ref12_unary_k5 R p.1 p.2| .done r=>some r))
noncomputable def F_ref12_unary (R:am) (x1:List ApiToken) (x2 x3:Int):Option (ApiNode × Int × Ref12Wrong):=(if(decide (x3>60))=true then some ((ApiNode.mk 0 [] [] 0 0 0 0 0 []),0,(Ref12Wrong.mk x2 2))else(ce x1 x2 ([33]:List UInt8)).bind fun x7=>(if x7=true then lm R x1 x2 x3 true else(ce x1 x2 ([45]:List UInt8)).bind fun x9=>lm R x1 x2 x3 x9))
noncomputable def oe (R:am) (x11:ApiNode) (x2:Int) (x18:Ref12Wrong):Option (ApiNode × Int × Ref12Wrong):=some (x11,w64 (x2+1),x18)
noncomputable def n9 (R:am) (x2:Int) (x11:ApiNode):Option (ApiNode × Int × Ref12Wrong):=(bh).bind fun x18=>oe R x11 x2 x18
noncomputable def gr (R:am) (x1:List ApiToken) (x2 x10:Int) (x11:ApiNode):Option ((Int × ApiNode) ⊕ (ApiNode)):=(idx x1 x2).bind fun x14=>(if(decide (x10<(x14.Text.length:Int)))=true then(idx x1 x2).bind fun x16=>(idxS x16.Text x10).bind fun x17=>some (.inl (w64 (x10+1),{x11 with N:=w64 ((w64 (10 * x11.N))+(w64 (IntKind.wrap .u8 (x17 - 48))))}))else some (.inr x11))
noncomputable def od (R:am) (x21:ApiNode) (x2:Int) (x23:Ref12Wrong):Option (ApiNode × Int × Ref12Wrong):=some ({x21 with N:=1},w64 (x2+1),x23)
noncomputable def oc (R:am) (x47:ApiNode) (x49 x50:ApiToken) (x2:Int) (x51:Ref12Wrong):Option (ApiNode × Int × Ref12Wrong):=some ({{x47 with Text:=x49.Text} with At:=x50.At},w64 (x2+4),x51)
noncomputable def ref12_primary_j6 (R:am) (x56:Ref12Wrong):Option (ApiNode × Int × Ref12Wrong):=some ((ApiNode.mk 0 [] [] 0 0 0 0 0 []),0,x56)
noncomputable def ob (R:am) (x54:ApiNode) (x55:Int) (x63:Ref12Wrong):Option (ApiNode × Int × Ref12Wrong):=some (x54,w64 (x55+1),x63)
noncomputable def oa (R:am) (x66:ApiNode) (x68 x69:ApiToken) (x2:Int) (x72:Ref12Wrong):Option (ApiNode × Int × Ref12Wrong):=some ({{x66 with Text:=x68.Text} with At:=x69.At},w64 (x2+1),x72)
noncomputable def ref12_primary_j9 (R:am) (x75:Ref12Wrong):Option (ApiNode × Int × Ref12Wrong):=some ((ApiNode.mk 0 [] [] 0 0 0 0 0 []),0,x75)
noncomputable def nh (R:am) (x66:ApiNode) (x68 x69:ApiToken) (x73:List ApiNode) (x78 x74:Int) (x79:Ref12Wrong):Option (ApiNode × Int × Ref12Wrong):=some ({{{{{x66 with Text:=x68.Text} with At:=x69.At} with Kind:=19} with Kids:=x73} with To:=x78},x74,x79)
noncomputable def mz (R:am) (x1:List ApiToken) (x2 x3:Int):Option (ApiNode × Int × Ref12Wrong):=(idx x1 x2).bind fun x6=>(if(x6.Kind==2)=true then(de x1 13 x2 (w64 (x2+1)) []).bind fun x8=>(iter (fun s=>gr R x1 x2 s.1 s.2) (0,x8)).bind fun p=>n9 R x2 p else(ce x1 x2 ([116,114,117,101]:List UInt8)).bind fun x19=>(if x19=true then(de x1 14 x2 (w64 (x2+1)) []).bind fun x21=>(bh).bind fun x23=>od R x21 x2 x23 else(ce x1 x2 ([102,97,108,115,101]:List UInt8)).bind fun x24=>(if x24=true then(de x1 14 x2 (w64 (x2+1)) []).bind fun x26=>(bh).bind fun x27=>some (x26,w64 (x2+1),x27)else(ce x1 x2 ([110,117,108,108]:List UInt8)).bind fun x28=>(if x28=true then(de x1 15 x2 (w64 (x2+1)) []).bind fun x30=>(bh).bind fun x31=>some (x30,w64 (x2+1),x31)else(ce x1 x2 ([116,104,105,115]:List UInt8)).bind fun x32=>(if x32=true then(de x1 16 x2 (w64 (x2+1)) []).bind fun x34=>(bh).bind fun x35=>some (x34,w64 (x2+1),x35)else(ce x1 x2 ([110,101,119]:List UInt8)).bind fun x36=>(if x36=true then(io x1 (w64 (x2+1))).bind fun x38=>(if(!x38)=true then(a9 (w64 (x2+1))).bind fun x40=>some ((ApiNode.mk 0 [] [] 0 0 0 0 0 []),0,x40)else(ce x1 (w64 (x2+2)) ([40]:List UInt8)).bind fun x41=>(if(!x41)=true then(a9 (w64 (x2+2))).bind fun x43=>some ((ApiNode.mk 0 [] [] 0 0 0 0 0 []),0,x43)else(ce x1 (w64 (x2+3)) ([41]:List UInt8)).bind fun x44=>(if(!x44)=true then(a9 (w64 (x2+3))).bind fun x46=>some ((ApiNode.mk 0 [] [] 0 0 0 0 0 []),0,x46)else(de x1 21 x2 (w64 (x2+4)) []).bind fun x47=>(idx x1 (w64 (x2+1))).bind fun x49=>(idx x1 (w64 (x2+1))).bind fun x50=>(bh).bind fun x51=>oc R x47 x49 x50 x2 x51)))else(ce x1 x2 ([40]:List UInt8)).bind fun x52=>(if x52=true then(R.1 x1 (w64 (x2+1)) x3).bind fun(x54,x55,x56)=>(if(decide (x56.Place≥0))=true then ref12_primary_j6 R x56 else(ce x1 x55 ([41]:List UInt8)).bind fun x60=>(if(!x60)=true then(a9 x55).bind fun x62=>some ((ApiNode.mk 0 [] [] 0 0 0 0 0 []),0,x62)else(bh).bind fun x63=>ob R x54 x55 x63))else(io x1 x2).bind fun x64=>(if x64=true then(de x1 17 x2 (w64 (x2+1)) []).bind fun x66=>(idx x1 x2).bind fun x68=>(idx x1 x2).bind fun x69=>(ce x1 (w64 (x2+1)) ([40]:List UInt8)).bind fun x70=>(if(!x70)=true then(bh).bind fun x72=>oa R x66 x68 x69 x2 x72 else(R.2.2.2.2 x1 (w64 (x2+2)) x3).bind fun(x73,x74,x75)=>(if(decide (x75.Place≥0))=true then ref12_primary_j9 R x75 else(ref12_end x1 x74).bind fun x78=>(bh).bind fun x79=>nh R x66 x68 x69 x73 x78 x74 x79))else(a9 x2).bind fun x80=>some ((ApiNode.mk 0 [] [] 0 0 0 0 0 []),0,x80)))))))))
noncomputable def ref12_arguments_j2 (R:am) (x16:Ref12Wrong):Option ((Int × (List ApiNode)) ⊕ ((List ApiNode) × Int × Ref12Wrong)):=some (.inr ([],0,x16))
noncomputable def gl (R:am) (x1:List ApiToken) (x3 x8:Int) (x10:List ApiNode):Option ((Int × (List ApiNode)) ⊕ ((List ApiNode) × Int × Ref12Wrong)):=(R.1 x1 x8 x3).bind fun(x14,x15,x16)=>(if(decide (x16.Place≥0))=true then ref12_arguments_j2 R x16 else(app 104 x10 ([x14]:List ApiNode)).bind fun x20=>(ce x1 x15 ([41]:List UInt8)).bind fun x22=>(if x22=true then(bh).bind fun x24=>some (.inr (x20,w64 (x15+1),x24))else(ce x1 x15 ([44]:List UInt8)).bind fun x25=>(if(!x25)=true then(a9 x15).bind fun x27=>some (.inr ([],0,x27))else some (.inl (w64 (x15+1),x20)))))
noncomputable def kc (R:am) (x1:List ApiToken) (x2 x3:Int):Option ((List ApiNode) × Int × Ref12Wrong):=(ce x1 x2 ([41]:List UInt8)).bind fun x5=>(if x5=true then(bh).bind fun x7=>some ([],w64 (x2+1),x7)else iter (fun s=>gl R x1 x3 s.1 s.2) (x2,[]))
noncomputable def rec_ref12_expression_step (R:am):am:=((fun x1 x2 x3=>jk R x1 x2 x3),(fun x1 x2 x3 x4=>F_ref12_level R x1 x2 x3 x4),(fun x1 x2 x3=>F_ref12_unary R x1 x2 x3),(fun x1 x2 x3=>mz R x1 x2 x3),(fun x1 x2 x3=>kc R x1 x2 x3))
noncomputable def du (n:Nat):am:=Nat.rec (motive:=fun _=>am) ((fun x1 x2 x3=>none),(fun x1 x2 x3 x4=>none),(fun x1 x2 x3=>none),(fun x1 x2 x3=>none),(fun x1 x2 x3=>none)) (fun _ R=>rec_ref12_expression_step R) n
noncomputable def fo (x1:List ApiToken) (x2 x3:Int):Option (ApiNode × Int × Ref12Wrong):=(du 1048576).1 x1 x2 x3
noncomputable def ref12_bracketed_j1 (x11:Ref12Wrong):Option (ApiNode × Int × Ref12Wrong):=some ((ApiNode.mk 0 [] [] 0 0 0 0 0 []),0,x11)
noncomputable def mc (x9:ApiNode) (x10:Int) (x18:Ref12Wrong):Option (ApiNode × Int × Ref12Wrong):=some (x9,w64 (x10+1),x18)
noncomputable def jz (x1:List ApiToken) (x2 x3:Int):Option (ApiNode × Int × Ref12Wrong):=(ce x1 x2 ([40]:List UInt8)).bind fun x6=>(if(!x6)=true then(a9 x2).bind fun x8=>some ((ApiNode.mk 0 [] [] 0 0 0 0 0 []),0,x8)else(fo x1 (w64 (x2+1)) x3).bind fun(x9,x10,x11)=>(if(decide (x11.Place≥0))=true then ref12_bracketed_j1 x11 else(ce x1 x10 ([41]:List UInt8)).bind fun x15=>(if(!x15)=true then(a9 x10).bind fun x17=>some ((ApiNode.mk 0 [] [] 0 0 0 0 0 []),0,x17)else(bh).bind fun x18=>mc x9 x10 x18)))
noncomputable def ref12_simple_j1 (x10:Ref12Wrong):Option (ApiNode × Int × Ref12Wrong):=some ((ApiNode.mk 0 [] [] 0 0 0 0 0 []),0,x10)
noncomputable def ref12_simple_j2 (x25:Ref12Wrong):Option (ApiNode × Int × Ref12Wrong):=some ((ApiNode.mk 0 [] [] 0 0 0 0 0 []),0,x25)
noncomputable def ref12_simple (x1:List ApiToken) (x2 x3:Int):Option (ApiNode × Int × Ref12Wrong):=(ce x1 x2 ([112,114,105,110,116]:List UInt8)).bind fun x6=>(if x6=true then(jz x1 (w64 (x2+1)) (w64 (x3+1))).bind fun(x8,x9,x10)=>(if(decide (x10.Place≥0))=true then ref12_simple_j1 x10 else(ce x1 x9 ([59]:List UInt8)).bind fun x14=>(if(!x14)=true then(a9 x9).bind fun x16=>some ((ApiNode.mk 0 [] [] 0 0 0 0 0 []),0,x16)else(de x1 12 x2 (w64 (x9+1)) ([x8]:List ApiNode)).bind fun x17=>(bh).bind fun x18=>some (x17,w64 (x9+1),x18)))else(ce x1 (w64 (x2+1)) ([59]:List UInt8)).bind fun x19=>(if x19=true then(de x1 11 x2 (w64 (x2+2)) []).bind fun x21=>(bh).bind fun x22=>some (x21,w64 (x2+2),x22)else(fo x1 (w64 (x2+1)) (w64 (x3+1))).bind fun(x23,x24,x25)=>(if(decide (x25.Place≥0))=true then ref12_simple_j2 x25 else(ce x1 x24 ([59]:List UInt8)).bind fun x29=>(if(!x29)=true then(a9 x24).bind fun x31=>some ((ApiNode.mk 0 [] [] 0 0 0 0 0 []),0,x31)else(de x1 11 x2 (w64 (x24+1)) ([x23]:List ApiNode)).bind fun x32=>(bh).bind fun x33=>some (x32,w64 (x24+1),x33)))))
noncomputable def ib (x26:Bool):Option (Bool):=some x26
noncomputable def ref12_local (x1:List ApiToken) (x2:Int):Option (Bool):=(ce x1 x2 ([105,110,116]:List UInt8)).bind fun x3=>(if x3=true then ib true else(ce x1 x2 ([98,111,111,108,101,97,110]:List UInt8)).bind fun x5=>(if x5=true then ib true else(ce x1 x2 ([118,111,105,100]:List UInt8)).bind fun x7=>(if x7=true then ib true else(io x1 x2).bind fun x9=>(if x9=true then(io x1 (w64 (x2+1))).bind fun x11=>ib x11 else ib false))))
noncomputable def ref12_locals_j1 (x17:Ref12Wrong):Option (ApiNode × Int × Ref12Wrong):=some ((ApiNode.mk 0 [] [] 0 0 0 0 0 []),0,x17)
noncomputable def pb (x1:List ApiToken) (x2 x3:Int):Option (ApiNode × Int × Ref12Wrong):=(ce x1 x2 ([118,111,105,100]:List UInt8)).bind fun x6=>(if x6=true then(a9 x2).bind fun x8=>some ((ApiNode.mk 0 [] [] 0 0 0 0 0 []),0,x8)else(io x1 (w64 (x2+1))).bind fun x9=>(if(!x9)=true then(a9 (w64 (x2+1))).bind fun x11=>some ((ApiNode.mk 0 [] [] 0 0 0 0 0 []),0,x11)else(ce x1 (w64 (x2+2)) ([61]:List UInt8)).bind fun x12=>(if(!x12)=true then(a9 (w64 (x2+2))).bind fun x14=>some ((ApiNode.mk 0 [] [] 0 0 0 0 0 []),0,x14)else(fo x1 (w64 (x2+3)) (w64 (x3+1))).bind fun(x15,x16,x17)=>(if(decide (x17.Place≥0))=true then ref12_locals_j1 x17 else(ce x1 x16 ([59]:List UInt8)).bind fun x21=>(if(!x21)=true then(a9 x16).bind fun x23=>some ((ApiNode.mk 0 [] [] 0 0 0 0 0 []),0,x23)else(de x1 6 x2 (w64 (x16+1)) ([x15]:List ApiNode)).bind fun x24=>(ot x1 x24 x2).bind fun x25=>(bh).bind fun x26=>some (x25,w64 (x16+1),x26))))))
abbrev a7 :Type:=((List ApiToken)->Int->Int->Option (ApiNode × Int × Ref12Wrong)) × ((List ApiToken)->Int->Int->Option (ApiNode × Int × Ref12Wrong)) × ((List ApiToken)->Int->Int->Option (ApiNode × Int × Ref12Wrong))
noncomputable def ref12_statement_j1 (R:a7) (x30:Ref12Wrong):Option (ApiNode × Int × Ref12Wrong):=some ((ApiNode.mk 0 [] [] 0 0 0 0 0 []),0,x30)
noncomputable def gk (R:a7) (x1:List ApiToken) (x2 x45 x46:Int) (x48:List ApiNode):Option (ApiNode × Int × Ref12Wrong):=(ce x1 x45 ([59]:List UInt8)).bind fun x49=>(if(!x49)=true then(a9 x45).bind fun x51=>some ((ApiNode.mk 0 [] [] 0 0 0 0 0 []),0,x51)else(de x1 x46 x2 (w64 (x45+1)) x48).bind fun x52=>(bh).bind fun x53=>some (x52,w64 (x45+1),x53))
noncomputable def ref12_statement_j3 (R:a7) (x39:Ref12Wrong):Option (ApiNode × Int × Ref12Wrong):=some ((ApiNode.mk 0 [] [] 0 0 0 0 0 []),0,x39)
noncomputable def gi (R:a7) (x1:List ApiToken) (x2 x3:Int) (x23:Bool):Option (ApiNode × Int × Ref12Wrong):=(if x23=true then(ref12_simple x1 x2 x3).bind fun(x25,x26,x27)=>some (x25,x26,x27)else(fo x1 x2 (w64 (x3+1))).bind fun(x28,x29,x30)=>(if(decide (x30.Place≥0))=true then ref12_statement_j1 R x30 else(ce x1 x29 ([61]:List UInt8)).bind fun x35=>(if x35=true then(fo x1 (w64 (x29+1)) (w64 (x3+1))).bind fun(x37,x38,x39)=>(if(decide (x39.Place≥0))=true then ref12_statement_j3 R x39 else(app 104 ([x28]:List ApiNode) ([x37]:List ApiNode)).bind fun x43=>gk R x1 x2 x38 7 x43)else gk R x1 x2 x29 8 ([x28]:List ApiNode))))
noncomputable def gh (R:a7) (x1:List ApiToken) (x2 x3:Int) (x15:Bool):Option (ApiNode × Int × Ref12Wrong):=(if x15=true then(R.2.2 x1 x2 x3).bind fun(x17,x18,x19)=>some (x17,x18,x19)else(ce x1 x2 ([114,101,116,117,114,110]:List UInt8)).bind fun x20=>(if x20=true then gi R x1 x2 x3 x20 else(ce x1 x2 ([112,114,105,110,116]:List UInt8)).bind fun x22=>gi R x1 x2 x3 x22))
noncomputable def ka (R:a7) (x1:List ApiToken) (x2 x3:Int):Option (ApiNode × Int × Ref12Wrong):=(if(decide (x3>60))=true then some ((ApiNode.mk 0 [] [] 0 0 0 0 0 []),0,(Ref12Wrong.mk x2 2))else(ce x1 x2 ([123]:List UInt8)).bind fun x7=>(if x7=true then(R.2.1 x1 x2 x3).bind fun(x9,x10,x11)=>some (x9,x10,x11)else(ce x1 x2 ([105,102]:List UInt8)).bind fun x12=>(if x12=true then gh R x1 x2 x3 x12 else(ce x1 x2 ([119,104,105,108,101]:List UInt8)).bind fun x14=>gh R x1 x2 x3 x14)))
noncomputable def ref12_block_k1 (R:a7) (x1:List ApiToken) (x2 x10:Int) (x11:List ApiNode):Option (ApiNode × Int × Ref12Wrong):=(de x1 5 x2 (w64 (x10+1)) x11).bind fun x34=>(bh).bind fun x35=>some (x34,w64 (x10+1),x35)
noncomputable def ref12_block_j3 (R:a7) (x30:Ref12Wrong):Option ((Int × (List ApiNode)) ⊕ (Flow (Int × (List ApiNode)) (ApiNode × Int × Ref12Wrong))):=some (.inr (.done ((ApiNode.mk 0 [] [] 0 0 0 0 0 []),0,x30)))
noncomputable def ic (R:a7) (x11:List ApiNode) (x28:Int) (x29:ApiNode) (x30:Ref12Wrong):Option ((Int × (List ApiNode)) ⊕ (Flow (Int × (List ApiNode)) (ApiNode × Int × Ref12Wrong))):=(if(decide (x30.Place≥0))=true then ref12_block_j3 R x30 else(app 104 x11 ([x29]:List ApiNode)).bind fun x32=>some (.inl (x28,x32)))
noncomputable def lr (R:a7) (x1:List ApiToken) (x3 x10:Int) (x11:List ApiNode):Option ((Int × (List ApiNode)) ⊕ (Flow (Int × (List ApiNode)) (ApiNode × Int × Ref12Wrong))):=(ce x1 x10 ([125]:List UInt8)).bind fun x15=>(if(!x15)=true then(ref12_local x1 x10).bind fun x19=>(if x19=true then(pb x1 x10 (w64 (x3+1))).bind fun(x21,x22,x23)=>(if(decide ((w64 (x3+1))>60))=true then ic R x11 x22 x21 (Ref12Wrong.mk x10 2)else ic R x11 x22 x21 x23)else(R.1 x1 x10 (w64 (x3+1))).bind fun(x25,x26,x27)=>ic R x11 x26 x25 x27)else some (.inr (.next (x10,x11))))
noncomputable def F_ref12_block (R:a7) (x1:List ApiToken) (x2 x3:Int):Option (ApiNode × Int × Ref12Wrong):=(ce x1 x2 ([123]:List UInt8)).bind fun x6=>(if(!x6)=true then(a9 x2).bind fun x8=>some ((ApiNode.mk 0 [] [] 0 0 0 0 0 []),0,x8)else(iter (fun s=>lr R x1 x3 s.1 s.2) (w64 (x2+1),[])).bind fun z=>match z with| .next p=>ref12_block_k1 R x1 x2 p.1 p.2| .done r=>some r)
noncomputable def ref12_guarded_j1 (R:a7) (x8:Ref12Wrong):Option (ApiNode × Int × Ref12Wrong):=some ((ApiNode.mk 0 [] [] 0 0 0 0 0 []),0,x8)
noncomputable def ref12_guarded_j2 (R:a7) (x14:Ref12Wrong):Option (ApiNode × Int × Ref12Wrong):=some ((ApiNode.mk 0 [] [] 0 0 0 0 0 []),0,x14)
noncomputable def ja (R:a7) (x1:List ApiToken) (x2 x33:Int) (x35:List ApiNode):Option (ApiNode × Int × Ref12Wrong):=(de x1 9 x2 x33 x35).bind fun x36=>(bh).bind fun x37=>some (x36,x33,x37)
noncomputable def ref12_guarded_j4 (R:a7) (x27:Ref12Wrong):Option (ApiNode × Int × Ref12Wrong):=some ((ApiNode.mk 0 [] [] 0 0 0 0 0 []),0,x27)
noncomputable def m0 (R:a7) (x1:List ApiToken) (x2 x3:Int):Option (ApiNode × Int × Ref12Wrong):=(jz x1 (w64 (x2+1)) (w64 (x3+1))).bind fun(x6,x7,x8)=>(if(decide (x8.Place≥0))=true then ref12_guarded_j1 R x8 else(R.1 x1 x7 (w64 (x3+1))).bind fun(x12,x13,x14)=>(if(decide (x14.Place≥0))=true then ref12_guarded_j2 R x14 else(ce x1 x2 ([119,104,105,108,101]:List UInt8)).bind fun x19=>(if x19=true then(de x1 10 x2 x13 ([x6,x12]:List ApiNode)).bind fun x21=>(bh).bind fun x22=>some (x21,x13,x22)else(ce x1 x13 ([101,108,115,101]:List UInt8)).bind fun x23=>(if x23=true then(R.1 x1 (w64 (x13+1)) (w64 (x3+1))).bind fun(x25,x26,x27)=>(if(decide (x27.Place≥0))=true then ref12_guarded_j4 R x27 else(app 104 ([x6,x12]:List ApiNode) ([x25]:List ApiNode)).bind fun x31=>ja R x1 x2 x26 x31)else ja R x1 x2 x13 ([x6,x12]:List ApiNode)))))
noncomputable def rec_ref12_statement_step (R:a7):a7:=((fun x1 x2 x3=>ka R x1 x2 x3),(fun x1 x2 x3=>F_ref12_block R x1 x2 x3),(fun x1 x2 x3=>m0 R x1 x2 x3))
noncomputable def eg (n:Nat):a7:=Nat.rec (motive:=fun _=>a7) ((fun x1 x2 x3=>none),(fun x1 x2 x3=>none),(fun x1 x2 x3=>none)) (fun _ R=>rec_ref12_statement_step R) n
noncomputable def ref12_statement (x1:List ApiToken) (x2 x3:Int):Option (ApiNode × Int × Ref12Wrong):=(eg 1048576).1 x1 x2 x3
noncomputable def ref12_block (x1:List ApiToken) (x2 x3:Int):Option (ApiNode × Int × Ref12Wrong):=(eg 1048576).2.1 x1 x2 x3
noncomputable def ref12_member_j1 (x45:ApiNode) (x37:Int) (x46:Ref12Wrong):Option (ApiNode × Int × Ref12Wrong):=some (x45,x37,x46)
noncomputable def mv (x37:Int) (x45:ApiNode):Option (ApiNode × Int × Ref12Wrong):=(bh).bind fun x46=>ref12_member_j1 x45 x37 x46
noncomputable def jy (x1:List ApiToken) (x2 x7:Int) (x5:Bool) (x37 x38:Int) (x40:List ApiNode):Option (ApiNode × Int × Ref12Wrong):=(de x1 x38 x2 x37 x40).bind fun x41=>(ot x1 x41 x7).bind fun x42=>(if x5=true then mv x37 ({x42 with N:=1})else mv x37 x42)
noncomputable def ref12_member_j4 (x24:Ref12Wrong):Option (ApiNode × Int × Ref12Wrong):=some ((ApiNode.mk 0 [] [] 0 0 0 0 0 []),0,x24)
noncomputable def ref12_member_j5 (x30:Ref12Wrong):Option (ApiNode × Int × Ref12Wrong):=some ((ApiNode.mk 0 [] [] 0 0 0 0 0 []),0,x30)
noncomputable def jx (x1:List ApiToken) (x2:Int) (x5:Bool) (x7:Int):Option (ApiNode × Int × Ref12Wrong):=(ref12_kind x1 x7).bind fun x8=>(if(!x8)=true then(a9 x7).bind fun x10=>some ((ApiNode.mk 0 [] [] 0 0 0 0 0 []),0,x10)else(io x1 (w64 (x7+1))).bind fun x11=>(if(!x11)=true then(a9 (w64 (x7+1))).bind fun x13=>some ((ApiNode.mk 0 [] [] 0 0 0 0 0 []),0,x13)else(ce x1 (w64 (x7+2)) ([59]:List UInt8)).bind fun x15=>(if x15=true then(ce x1 x7 ([118,111,105,100]:List UInt8)).bind fun x17=>(if x17=true then(a9 (w64 (x7+2))).bind fun x19=>some ((ApiNode.mk 0 [] [] 0 0 0 0 0 []),0,x19)else jy x1 x2 x7 x5 (w64 ((w64 (x7+2))+1)) 2 [])else(ce x1 (w64 (x7+2)) ([40]:List UInt8)).bind fun x20=>(if x20=true then(ref12_params x1 (w64 ((w64 (x7+2))+1))).bind fun(x22,x23,x24)=>(if(decide (x24.Place≥0))=true then ref12_member_j4 x24 else(ref12_block x1 x23 1).bind fun(x28,x29,x30)=>(if(decide (x30.Place≥0))=true then ref12_member_j5 x30 else(app 104 x22 ([x28]:List ApiNode)).bind fun x34=>jy x1 x2 x7 x5 x29 3 x34))else(a9 (w64 (x7+2))).bind fun x36=>some ((ApiNode.mk 0 [] [] 0 0 0 0 0 []),0,x36)))))
noncomputable def pa (x1:List ApiToken) (x2:Int):Option (ApiNode × Int × Ref12Wrong):=(ce x1 x2 ([115,116,97,116,105,99]:List UInt8)).bind fun x5=>(if x5=true then jx x1 x2 x5 (w64 (x2+1))else jx x1 x2 x5 x2)
noncomputable def og (x2:Ref12Wrong) (x5:ApiToken):Option (ApiMistake):=some (ApiMistake.mk x2.Code 0 x5.At)
noncomputable def ref12_mistake (x1:List ApiToken) (x2:Ref12Wrong):Option (ApiMistake):=(idx x1 (if(w64 ((x1.length:Int) - 1))<x2.Place then(w64 ((x1.length:Int) - 1))else x2.Place)).bind fun x5=>og x2 x5
abbrev ev :Type:=(ApiNode->Option (Int))
noncomputable def ref11_Depth_k1 (R:ev) (x3:Int):Option (Int):=some (w64 (x3+1))
noncomputable def lv (R:ev) (x1:ApiNode) (x3 x4:Int):Option ((Int × Int) ⊕ (Int)):=(if(decide (x4<(x1.Kids.length:Int)))=true then(idx x1.Kids x4).bind fun x8=>(R x8).bind fun x9=>some (.inl ((if x9>x3 then x9 else x3),w64 (x4+1)))else some (.inr x3))
noncomputable def F_ref11_Depth (R:ev) (x1:ApiNode):Option (Int):=(iter (fun s=>lv R x1 s.1 s.2) (0,0)).bind fun p=>ref11_Depth_k1 R p
noncomputable def rec_ref11_Depth_step (R:ev):ev:=(fun x1=>F_ref11_Depth R x1)
noncomputable def gp (n:Nat):ev:=Nat.rec (motive:=fun _=>ev) (fun x1=>none) (fun _ R=>rec_ref11_Depth_step R) n
noncomputable def ref11_Depth (x1:ApiNode):Option (Int):=(gp 1048576) x1
noncomputable def ref12_One_j1 (x42:ApiToken):Option (ApiNode × ApiMistake):=some ((ApiNode.mk 0 [] [] 0 0 0 0 0 []),(ApiMistake.mk 2 0 x42.At))
noncomputable def ki (x5:List ApiToken) (x30:ApiNode) (x37:Ref12Wrong):Option (ApiNode × ApiMistake):=(if(decide (x37.Place≥0))=true then(ref12_mistake x5 x37).bind fun x39=>some ((ApiNode.mk 0 [] [] 0 0 0 0 0 []),x39)else(ref11_Depth x30).bind fun x40=>(if(decide (x40>200))=true then(idx x5 0).bind fun x42=>ref12_One_j1 x42 else some (x30,(ApiMistake.mk 0 0 0))))
noncomputable def pc (x29:Int) (x5:List ApiToken) (x30:ApiNode) (x31:Ref12Wrong) (x34:Bool):Option (ApiNode × ApiMistake):=(if x34=true then(a9 x29).bind fun x36=>ki x5 x30 x36 else ki x5 x30 x31)
noncomputable def mo (x5:List ApiToken) (x29:Int) (x30:ApiNode) (x31:Ref12Wrong):Option (ApiNode × ApiMistake):=(if(decide (x31.Place<0))=true then(idx x5 x29).bind fun x33=>pc x29 x5 x30 x31 (x33.Kind != 5)else pc x29 x5 x30 x31 false)
noncomputable def ref12_One_j5 (x5:List ApiToken) (x2:Int) (x17:Bool):Option (ApiNode × ApiMistake):=(if x17=true then(pb x5 0 1).bind fun(x19,x20,x21)=>mo x5 x20 x19 x21 else(if(x2==2)=true then(ref12_statement x5 0 1).bind fun(x23,x24,x25)=>mo x5 x24 x23 x25 else(fo x5 0 1).bind fun(x26,x27,x28)=>mo x5 x27 x26 x28))
noncomputable def ref12_One (x1:List UInt8) (x2:Int):Option (ApiNode × ApiMistake):=(ref03_Lex x1).bind fun(x5,x6,x7)=>(if(x7 != 0)=true then some ((ApiNode.mk 0 [] [] 0 0 0 0 0 []),(ApiMistake.mk x7 0 x6))else(if(x2==1)=true then(pa x5 0).bind fun(x12,x13,x14)=>mo x5 x13 x12 x14 else(if(x2==2)=true then(ref12_local x5 0).bind fun x16=>ref12_One_j5 x5 x2 x16 else ref12_One_j5 x5 x2 false)))
noncomputable def lcs_Numbers_k1 (x5:SMap Int) (x6:List (List Int)):Option ((List (List Int))):=some x6
noncomputable def lcs_Numbers_k3 (x6:List (List Int)) (x4:Int) (x15:SMap Int) (x16:List Int):Option ((Int × (SMap Int) × (List (List Int))) ⊕ ((SMap Int) × (List (List Int)))):=(app 24 x6 ([x16]:List (List Int))).bind fun x28=>some (.inl (w64 (x4+1),x15,x28))
noncomputable def l8 (x16:List Int) (x14 x24:Int) (x25:SMap Int):Option ((Int × (SMap Int) × (List Int)) ⊕ ((SMap Int) × (List Int))):=(app 8 x16 ([x24]:List Int)).bind fun x26=>some (.inl (w64 (x14+1),x25,x26))
noncomputable def f6 (x12:List (List UInt8)) (x14:Int) (x15:SMap Int) (x16:List Int):Option ((Int × (SMap Int) × (List Int)) ⊕ ((SMap Int) × (List Int))):=(if(decide (x14<(x12.length:Int)))=true then(idx x12 x14).bind fun x22=>(if(!(mhas x22 x15))=true then l8 x16 x14 (x15.length:Int) (mset x22 (x15.length:Int) x15)else l8 x16 x14 (mget x22 0 x15) x15)else some (.inr (x15,x16)))
noncomputable def ik (x1:List (List (List UInt8))) (x4:Int) (x5:SMap Int) (x6:List (List Int)):Option ((Int × (SMap Int) × (List (List Int))) ⊕ ((SMap Int) × (List (List Int)))):=(if(decide (x4<(x1.length:Int)))=true then(idx x1 x4).bind fun x12=>(iter (fun s=>f6 x12 s.1 s.2.1 s.2.2) (0,x5,[])).bind fun p=>lcs_Numbers_k3 x6 x4 p.1 p.2 else some (.inr (x5,x6)))
noncomputable def lcs_Numbers (x1:List (List (List UInt8))):Option ((List (List Int))):=(iter (fun s=>ik x1 s.1 s.2.1 s.2.2) (0,([]:SMap Int),[])).bind fun p=>lcs_Numbers_k1 p.1 p.2
noncomputable def lcs_none_k1 (x5:List Int):Option ((List Int)):=some x5
noncomputable def kr (x1 x4:Int) (x5:List Int):Option ((Int × (List Int)) ⊕ ((List Int))):=(if(decide (x4<x1))=true then(idx x5 x4).bind fun x9=>some (.inl (w64 (x4+1),(List.set x5 (Int.toNat x4) (-1))))else some (.inr x5))
noncomputable def lcs_none (x1:Int):Option ((List Int)):=(mkLen 8 x1).bind fun x2=>(iter (fun s=>kr x1 s.1 s.2) (0,(List.replicate x2 0))).bind fun p=>lcs_none_k1 p
noncomputable def lcs_ends_k1 (x5 x15:Int) (x23:List Int):Option (Int × Int × (List Int)):=some (x5,x15,x23)
noncomputable def mm (x15:Int) (x1 x2:List Int) (x22:Int) (x23:List Int):Option ((Int × (List Int)) ⊕ ((List Int))):=(if(decide (x22<x15))=true then(idx x23 (w64 ((w64 ((x1.length:Int) - 1)) - x22))).bind fun x27=>some (.inl (w64 (x22+1),(List.set x23 (Int.toNat (w64 ((w64 ((x1.length:Int) - 1)) - x22))) (w64 ((w64 ((x2.length:Int) - 1)) - x22)))))else some (.inr x23))
noncomputable def lcs_ends_k3 (x1 x2 x6:List Int) (x5 x15:Int):Option (Int × Int × (List Int)):=(iter (fun s=>mm x15 x1 x2 s.1 s.2) (0,x6)).bind fun p=>lcs_ends_k1 x5 x15 p
noncomputable def lcs_ends_j5 (x15:Int) (x20:Bool):Option ((Int) ⊕ (Int)):=(if x20=true then some (.inl (w64 (x15+1)))else some (.inr x15))
noncomputable def jm (x2 x1:List Int) (x5 x15:Int):Option ((Int) ⊕ (Int)):=(if(decide (x15<(w64 ((if(x2.length:Int)<(x1.length:Int)then(x2.length:Int)else(x1.length:Int)) - x5))))=true then(idx x1 (w64 ((w64 ((x1.length:Int) - 1)) - x15))).bind fun x18=>(idx x2 (w64 ((w64 ((x2.length:Int) - 1)) - x15))).bind fun x19=>lcs_ends_j5 x15 (x18==x19)else lcs_ends_j5 x15 false)
noncomputable def lcs_ends_k6 (x2 x1:List Int) (x5:Int) (x6:List Int):Option (Int × Int × (List Int)):=(iter (fun s=>jm x2 x1 x5 s) 0).bind fun p=>lcs_ends_k3 x1 x2 x6 x5 p
noncomputable def ox (x6:List Int) (x5:Int) (x12:Bool):Option ((Int × (List Int)) ⊕ (Int × (List Int))):=(if x12=true then(idx x6 x5).bind fun x14=>some (.inl (w64 (x5+1),(List.set x6 (Int.toNat x5) x5)))else some (.inr (x5,x6)))
noncomputable def ku (x2 x1:List Int) (x5:Int) (x6:List Int):Option ((Int × (List Int)) ⊕ (Int × (List Int))):=(if(decide (x5<(if(x2.length:Int)<(x1.length:Int)then(x2.length:Int)else(x1.length:Int))))=true then(idx x1 x5).bind fun x10=>(idx x2 x5).bind fun x11=>ox x6 x5 (x10==x11)else ox x6 x5 false)
noncomputable def lcs_ends (x1 x2 x4:List Int):Option (Int × Int × (List Int)):=(iter (fun s=>ku x2 x1 s.1 s.2) (0,x4)).bind fun p=>lcs_ends_k6 x2 x1 p.1 p.2
noncomputable def lcs_Match_k1 (x14:List Int):Option ((List Int)):=some x14
noncomputable def ko (x12 x13:Int) (x14:List Int) (x26 x28:Int):Option ((Int × Int × (List Int)) ⊕ ((List Int))):=(if(decide (x26≥x28))=true then some (.inl (w64 (x12+1),x13,x14))else some (.inl (x12,w64 (x13+1),x14)))
noncomputable def kn (x14:List Int) (x12 x13:Int) (x11:List (List Int)) (x21 x22:Int):Option ((Int × Int × (List Int)) ⊕ ((List Int))):=(if(x21==x22)=true then(idx x14 x12).bind fun x24=>some (.inl (w64 (x12+1),w64 (x13+1),(List.set x14 (Int.toNat x12) x13)))else(idx x11 (w64 (x12+1))).bind fun x25=>(idx x25 x13).bind fun x26=>(idx x11 x12).bind fun x27=>(idx x27 (w64 (x13+1))).bind fun x28=>ko x12 x13 x14 x26 x28)
noncomputable def km (x1:List Int) (x12:Int) (x2:List Int) (x13:Int) (x14:List Int) (x11:List (List Int)) (x19:Bool):Option ((Int × Int × (List Int)) ⊕ ((List Int))):=(if x19=true then(idx x1 x12).bind fun x21=>(idx x2 x13).bind fun x22=>kn x14 x12 x13 x11 x21 x22 else some (.inr x14))
noncomputable def gb (x1 x2:List Int) (x11:List (List Int)) (x12 x13:Int) (x14:List Int):Option ((Int × Int × (List Int)) ⊕ ((List Int))):=(if(decide (x12<(x1.length:Int)))=true then km x1 x12 x2 x13 x14 x11 (decide (x13<(x2.length:Int)))else km x1 x12 x2 x13 x14 x11 false)
noncomputable def kl (x1 x2 x3:List Int) (x6:Bool):Option ((List Int)):=(if x6=true then(lcs_ends x1 x2 x3).bind fun(x8,x9,x10)=>some x10 else(lcs_left x1 x2).bind fun x11=>(iter (fun s=>gb x1 x2 x11 s.1 s.2.1 s.2.2) (0,0,x3)).bind fun p=>lcs_Match_k1 p)
noncomputable def lcs_Match (x1 x2:List Int):Option ((List Int)):=(lcs_none (x1.length:Int)).bind fun x3=>(if(decide ((x1.length:Int)>2000))=true then kl x1 x2 x3 true else kl x1 x2 x3 (decide ((x2.length:Int)>2000)))
noncomputable def lcs_Length_k1 (x4:Int):Option (Int):=some x4
noncomputable def lcs_Length_j3 (x5 x11:Int):Option ((Int × Int) ⊕ (Int)):=some (.inl (x11,w64 (x5+1)))
noncomputable def jg (x3:List Int) (x4 x5:Int):Option ((Int × Int) ⊕ (Int)):=(if(decide (x5<(x3.length:Int)))=true then(idx x3 x5).bind fun x9=>(if(decide (x9≥0))=true then lcs_Length_j3 x5 (w64 (x4+1))else lcs_Length_j3 x5 x4)else some (.inr x4))
noncomputable def lcs_Length (x1 x2:List Int):Option (Int):=(lcs_Match x1 x2).bind fun x3=>(iter (fun s=>jg x3 s.1 s.2) (0,0)).bind fun p=>lcs_Length_k1 p
noncomputable def lcs_Percent (x1 x2:List Int):Option (Int):=(if((w64 ((x1.length:Int)+(x2.length:Int)))==0)=true then some 100 else(lcs_Length x1 x2).bind fun x4=>(nz (w64 ((x1.length:Int)+(x2.length:Int)))).bind fun _=>some (w64 (Int.tdiv (w64 (200 * x4)) (w64 ((x1.length:Int)+(x2.length:Int))))))
noncomputable def shape_alike_j1 (x6:Int):Option (Int):=some x6
noncomputable def shape_alike (x1 x2:List (List UInt8)):Option (Int):=(lcs_Numbers ([x1,x2]:List (List (List UInt8)))).bind fun x3=>(idx x3 0).bind fun x4=>(idx x3 1).bind fun x5=>(lcs_Percent x4 x5).bind fun x6=>shape_alike_j1 x6
noncomputable def shape_Percent_j1 (x8:Int):Option (Int):=some x8
noncomputable def kv (x1 x2:ApiNode) (x3:List (List UInt8)):Option (Int):=(gy x1 x3).bind fun x6=>(gy x2 x3).bind fun x7=>(shape_alike x6 x7).bind fun x8=>shape_Percent_j1 x8
noncomputable def shape_Best_k1 (x7:Int):Option (Int):=some x7
noncomputable def shape_Best_j3 (x9 x22 x23:Int) (x14:ApiNode):Option ((Int × Int × Int) ⊕ (Int)):=some (.inl (x22,x23,w64 (x9+1)))
noncomputable def shape_Best_j4 (x9 x18:Int) (x14:ApiNode) (x7 x8:Int) (x20:Bool):Option ((Int × Int × Int) ⊕ (Int)):=(if x20=true then shape_Best_j3 x9 x9 x18 x14 else shape_Best_j3 x9 x7 x8 x14)
noncomputable def nb (x2:List ApiNode) (x1:ApiNode) (x3 x6:List (List UInt8)) (x4 x7 x8 x9:Int):Option ((Int × Int × Int) ⊕ (Int)):=(if(decide (x9<(x2.length:Int)))=true then(idx x2 x9).bind fun x14=>(if(x14.Kind != x1.Kind)=true then shape_Best_j3 x9 x7 x8 x14 else(gy x14 x3).bind fun x17=>(shape_alike x6 x17).bind fun x18=>(if(decide (x18≥x4))=true then shape_Best_j4 x9 x18 x14 x7 x8 (decide (x18>x8))else shape_Best_j4 x9 x18 x14 x7 x8 false))else some (.inr x7))
noncomputable def shape_Best (x1:ApiNode) (x2:List ApiNode) (x3:List (List UInt8)) (x4:Int):Option (Int):=(gy x1 x3).bind fun x6=>(iter (fun s=>nb x2 x1 x3 x6 x4 s.1 s.2.1 s.2.2) ((-1),(-1),0)).bind fun p=>shape_Best_k1 p
noncomputable def il (x72:Bool):Option (Bool):=some x72
noncomputable def law14_awake:Option (Bool):=(ref12_One ([105,110,116,32,102,40,41,123,114,101,116,117,114,110,32,102,40,41,59,125]:List UInt8) 1).bind fun(x1,x2)=>(ref12_One ([105,110,116,32,103,40,41,123,114,101,116,117,114,110,32,103,40,41,59,125]:List UInt8) 1).bind fun(x5,x6)=>(shape_Of x1 ([([102]:List UInt8)]:List (List UInt8))).bind fun x9=>(if(x9==([32,32,105,110,116,32,95,40,41,32,123,10,32,32,32,32,114,101,116,117,114,110,32,95,40,41,59,10,32,32,125,10]:List UInt8))=true then(kv x1 x5 ([([102]:List UInt8),([103]:List UInt8)]:List (List UInt8))).bind fun x11=>(if(x11==100)=true then(kv x1 x5 []).bind fun x13=>(if(decide (x13<100))=true then(gy x1 []).bind fun x15=>(if((x15.length:Int)==11)=true then(shape_Best x1 ([x5,x1]:List ApiNode) [] 50).bind fun x17=>(if(x17==1)=true then(shape_Erase x1 ([([102]:List UInt8)]:List (List UInt8))).bind fun x19=>il (x19.Text==([95]:List UInt8))else il false)else il false)else il false)else il false)else il false)
noncomputable def ref14_in_k1:Option (Bool):=some false
noncomputable def ref14_in_j3 (x3:Int) (x8:Bool):Option ((Int) ⊕ (Flow Unit Bool)):=(if x8=true then some (.inr (.done true))else some (.inl (w64 (x3+1))))
noncomputable def ref14_in_l2 (x1:List (List UInt8)) (x2:List UInt8) (x3:Int):Option ((Int) ⊕ (Flow Unit Bool)):=(if(decide (x3<(x1.length:Int)))=true then(idx x1 x3).bind fun x6=>(if(x6==x2)=true then ref14_in_j3 x3 (!(x2==[]))else ref14_in_j3 x3 false)else some (.inr (.next ())))
noncomputable def ref14_in (x1:List (List UInt8)) (x2:List UInt8):Option (Bool):=(iter (fun s=>ref14_in_l2 x1 x2 s) 0).bind fun z=>match z with| .next p=>ref14_in_k1| .done r=>some r
abbrev dq :Type:=(ApiNode->(List (List UInt8))->Option (ApiNode))
noncomputable def np (R:dq) (x23:ApiNode):Option (ApiNode):=some x23
noncomputable def lj (R:dq) (x2:List (List UInt8)) (x20:ApiNode):Option (ApiNode):=(ref14_in x2 x20.Type_).bind fun x21=>(if x21=true then np R ({x20 with Type_:=([95]:List UInt8)})else np R x20)
noncomputable def nn (R:dq) (x2:List (List UInt8)) (x1:ApiNode) (x7:List ApiNode) (x18:Bool):Option (ApiNode):=(if x18=true then lj R x2 ({{x1 with Kids:=x7} with Text:=([95]:List UInt8)})else lj R x2 ({x1 with Kids:=x7}))
noncomputable def ref14_Erase_k4 (R:dq) (x2:List (List UInt8)) (x1:ApiNode) (x7:List ApiNode):Option (ApiNode):=(ref14_in x2 (({x1 with Kids:=x7}).Text)).bind fun x16=>(if x16=true then nn R x2 x1 x7 ((({x1 with Kids:=x7}).Kind) != 24)else nn R x2 x1 x7 false)
noncomputable def g7 (R:dq) (x1:ApiNode) (x2:List (List UInt8)) (x6:Int) (x7:List ApiNode):Option ((Int × (List ApiNode)) ⊕ ((List ApiNode))):=(if(decide (x6<(x1.Kids.length:Int)))=true then(idx x1.Kids x6).bind fun x12=>(R x12 x2).bind fun x13=>(app 104 x7 ([x13]:List ApiNode)).bind fun x14=>some (.inl (w64 (x6+1),x14))else some (.inr x7))
noncomputable def F_ref14_Erase (R:dq) (x1:ApiNode) (x2:List (List UInt8)):Option (ApiNode):=(iter (fun s=>g7 R x1 x2 s.1 s.2) (0,[])).bind fun p=>ref14_Erase_k4 R x2 x1 p
noncomputable def rec_ref14_Erase_step (R:dq):dq:=(fun x1 x2=>F_ref14_Erase R x1 x2)
noncomputable def gn (n:Nat):dq:=Nat.rec (motive:=fun _=>dq) (fun x1 x2=>none) (fun _ R=>rec_ref14_Erase_step R) n
noncomputable def ref14_Erase (x1:ApiNode) (x2:List (List UInt8)):Option (ApiNode):=(gn 1048576) x1 x2
noncomputable def ref13_Binds_k1:Option (Int):=some 0
noncomputable def ref13_Binds_k3 (x2:Int):Option ((Int) ⊕ (Flow Unit Int)):=some (.inl (w64 (x2+1)))
noncomputable def g9 (x2:Int) (x1:List UInt8) (x5:Int):Option ((Int) ⊕ (Flow Unit ((Int) ⊕ (Flow Unit Int)))):=(idx ([([([124,124]:List UInt8)]:List (List UInt8)),([([38,38]:List UInt8)]:List (List UInt8)),([([61,61]:List UInt8),([33,61]:List UInt8)]:List (List UInt8)),([([60]:List UInt8),([60,61]:List UInt8),([62]:List UInt8),([62,61]:List UInt8)]:List (List UInt8)),([([43]:List UInt8),([45]:List UInt8)]:List (List UInt8)),([([42]:List UInt8),([47]:List UInt8),([37]:List UInt8)]:List (List UInt8))]:List (List (List UInt8))) x2).bind fun x7=>(if(decide (x5<(x7.length:Int)))=true then(idx ([([([124,124]:List UInt8)]:List (List UInt8)),([([38,38]:List UInt8)]:List (List UInt8)),([([61,61]:List UInt8),([33,61]:List UInt8)]:List (List UInt8)),([([60]:List UInt8),([60,61]:List UInt8),([62]:List UInt8),([62,61]:List UInt8)]:List (List UInt8)),([([43]:List UInt8),([45]:List UInt8)]:List (List UInt8)),([([42]:List UInt8),([47]:List UInt8),([37]:List UInt8)]:List (List UInt8))]:List (List (List UInt8))) x2).bind fun x9=>(idx x9 x5).bind fun x10=>(if(x10==x1)=true then some (.inr (.done (.inr (.done (w64 (x2+1))))))else some (.inl (w64 (x5+1))))else some (.inr (.next ())))
noncomputable def ia (x1:List UInt8) (x2:Int):Option ((Int) ⊕ (Flow Unit Int)):=(if(decide (x2<(([([([124,124]:List UInt8)]:List (List UInt8)),([([38,38]:List UInt8)]:List (List UInt8)),([([61,61]:List UInt8),([33,61]:List UInt8)]:List (List UInt8)),([([60]:List UInt8),([60,61]:List UInt8),([62]:List UInt8),([62,61]:List UInt8)]:List (List UInt8)),([([43]:List UInt8),([45]:List UInt8)]:List (List UInt8)),([([42]:List UInt8),([47]:List UInt8),([37]:List UInt8)]:List (List UInt8))]:List (List (List UInt8))).length:Int)))=true then(iter (fun s=>g9 x2 x1 s) 0).bind fun z=>match z with| .next p=>ref13_Binds_k3 x2| .done r=>some r else some (.inr (.next ())))
noncomputable def ref13_Binds (x1:List UInt8):Option (Int):=(iter (fun s=>ia x1 s) 0).bind fun z=>match z with| .next p=>ref13_Binds_k1| .done r=>some r
noncomputable def k7 (x6:Bool):Option (Int):=(if x6=true then some 7 else some 8)
noncomputable def ref13_binding (x1:ApiNode):Option (Int):=(if(x1.Kind==24)=true then(ref13_Binds x1.Text).bind fun x4=>some x4 else(if(x1.Kind==22)=true then k7 (x1.Kind==22)else k7 (x1.Kind==23)))
abbrev d3 :Type:=(Int->Option ((List UInt8)))
noncomputable def iw (R:d3) (x6:Int) (x7:List UInt8):Option ((Int × (List UInt8)) ⊕ ((List UInt8))):=(cat (strOf ([IntKind.wrap .u8 (w64 (48+(Int.tmod x6 10)))]:List Int)) x7).bind fun x10=>(if((w64 (Int.tdiv x6 10))==0)=true then some (.inr x10)else some (.inl (w64 (Int.tdiv x6 10),x10)))
noncomputable def im (R:d3) (x1:Int):Option ((List UInt8)):=(if(decide (x1<0))=true then(if(x1==(-9223372036854775808))=true then some ([45,57,50,50,51,51,55,50,48,51,54,56,53,52,55,55,53,56,48,56]:List UInt8)else(R (w64 (-x1))).bind fun x4=>(cat ([45]:List UInt8) x4).bind fun x5=>some x5)else iter (fun s=>iw R s.1 s.2) (x1,[]))
noncomputable def rec_ref13_digits_step (R:d3):d3:=(fun x1=>im R x1)
noncomputable def en (n:Nat):d3:=Nat.rec (motive:=fun _=>d3) (fun x1=>none) (fun _ R=>rec_ref13_digits_step R) n
noncomputable def ref13_digits (x1:Int):Option ((List UInt8)):=(en 1048576) x1
abbrev cp :Type:=(ApiNode->Int->Int->Option ((List UInt8))) × (ApiNode->Option ((List UInt8))) × (ApiNode->Int->Option ((List UInt8)))
noncomputable def oy (R:cp) (x1:ApiNode) (x2 x3:Int):Option ((List UInt8)):=(if(decide (x2≥(x1.Kids.length:Int)))=true then some []else(idx x1.Kids x2).bind fun x6=>(R.2.1 x6).bind fun x7=>(idx x1.Kids x2).bind fun x8=>(ref13_binding x8).bind fun x9=>(if(decide (x9<x3))=true then(cat ([40]:List UInt8) x7).bind fun x11=>(cat x11 ([41]:List UInt8)).bind fun x12=>some x12 else some x7))
noncomputable def o4 (R:cp) (x16:List UInt8):Option ((List UInt8)):=some x16
noncomputable def o3 (R:cp) (x19:List UInt8):Option ((List UInt8)):=some x19
noncomputable def o2 (R:cp) (x25:List UInt8):Option ((List UInt8)):=some x25
noncomputable def cy (R:cp) (x1:ApiNode) (x36:Bool):Option ((List UInt8)):=(if x36=true then(idx x1.Kids 0).bind fun x38=>(R.2.1 x38).bind fun x39=>(cat ([45,40]:List UInt8) x39).bind fun x40=>(cat x40 ([41]:List UInt8)).bind fun x41=>some x41 else(R.1 x1 0 7).bind fun x42=>(cat ([45]:List UInt8) x42).bind fun x43=>some x43)
noncomputable def o1 (R:cp) (x51:List UInt8):Option ((List UInt8)):=some x51
noncomputable def bt (R:cp) (x1:ApiNode):Option ((List UInt8)):=(if(x1.Kind==13)=true then(ref13_digits x1.N).bind fun x4=>some x4 else(if(x1.Kind==14)=true then(if(x1.N==1)=true then some ([116,114,117,101]:List UInt8)else some ([102,97,108,115,101]:List UInt8))else(if(x1.Kind==15)=true then some ([110,117,108,108]:List UInt8)else(if(x1.Kind==16)=true then some ([116,104,105,115]:List UInt8)else(if(x1.Kind==17)=true then some x1.Text else(if(x1.Kind==21)=true then(cat ([110,101,119,32]:List UInt8) x1.Text).bind fun x11=>(cat x11 ([40,41]:List UInt8)).bind fun x12=>some x12 else(if(x1.Kind==18)=true then(R.1 x1 0 8).bind fun x14=>(cat x14 ([46]:List UInt8)).bind fun x15=>(cat x15 x1.Text).bind fun x16=>o4 R x16 else(if(x1.Kind==19)=true then(R.2.2 x1 0).bind fun x18=>(cat x1.Text x18).bind fun x19=>o3 R x19 else(if(x1.Kind==20)=true then(R.1 x1 0 8).bind fun x21=>(cat x21 ([46]:List UInt8)).bind fun x22=>(cat x22 x1.Text).bind fun x23=>(R.2.2 x1 1).bind fun x24=>(cat x23 x24).bind fun x25=>o2 R x25 else(if(x1.Kind==22)=true then(R.1 x1 0 7).bind fun x27=>(cat ([33]:List UInt8) x27).bind fun x28=>some x28 else(if(x1.Kind==23)=true then(if(decide ((x1.Kids.length:Int)>0))=true then(idx x1.Kids 0).bind fun x31=>(if(x31.Kind==23)=true then cy R x1 true else(idx x1.Kids 0).bind fun x33=>(if(x33.Kind==13)=true then(idx x1.Kids 0).bind fun x35=>cy R x1 (decide (x35.N<0))else cy R x1 false))else cy R x1 false)else(if(x1.Kind==24)=true then(ref13_Binds x1.Text).bind fun x45=>(R.1 x1 0 x45).bind fun x46=>(cat x46 ([32]:List UInt8)).bind fun x47=>(cat x47 x1.Text).bind fun x48=>(cat x48 ([32]:List UInt8)).bind fun x49=>(R.1 x1 1 (w64 (x45+1))).bind fun x50=>(cat x49 x50).bind fun x51=>o1 R x51 else some []))))))))))))
noncomputable def mb (R:cp) (x4:List UInt8):Option ((List UInt8)):=(cat x4 ([41]:List UInt8)).bind fun x15=>some x15
noncomputable def ji (R:cp) (x1:ApiNode) (x5:Int) (x11:List UInt8):Option (((List UInt8) × Int) ⊕ ((List UInt8))):=(idx x1.Kids x5).bind fun x12=>(R.2.1 x12).bind fun x13=>(cat x11 x13).bind fun x14=>some (.inl (x14,w64 (x5+1)))
noncomputable def ey (R:cp) (x1:ApiNode) (x2:Int) (x4:List UInt8) (x5:Int):Option (((List UInt8) × Int) ⊕ ((List UInt8))):=(if(decide (x5<(x1.Kids.length:Int)))=true then(if(decide (x5>x2))=true then(cat x4 ([44,32]:List UInt8)).bind fun x10=>ji R x1 x5 x10 else ji R x1 x5 x4)else some (.inr x4))
noncomputable def j8 (R:cp) (x1:ApiNode) (x2:Int):Option ((List UInt8)):=(iter (fun s=>ey R x1 x2 s.1 s.2) (([40]:List UInt8),x2)).bind fun p=>mb R p
noncomputable def br (R:cp):cp:=((fun x1 x2 x3=>oy R x1 x2 x3),(fun x1=>bt R x1),(fun x1 x2=>j8 R x1 x2))
noncomputable def dw (n:Nat):cp:=Nat.rec (motive:=fun _=>cp) ((fun x1 x2 x3=>none),(fun x1=>none),(fun x1 x2=>none)) (fun _ R=>br R) n
noncomputable def k3 (x1:ApiNode) (x2 x3:Int):Option ((List UInt8)):=(dw 1048576).1 x1 x2 x3
abbrev bm :Type:=(ApiNode->Int->(List UInt8)->Option ((List UInt8))) × ((List ApiNode)->(List UInt8)->Option ((List UInt8))) × (ApiNode->(List UInt8)->Option ((List UInt8))) × (ApiNode->(List UInt8)->Option ((List UInt8) × Bool))
noncomputable def iz (R:bm) (x1:ApiNode) (x2:Int) (x3:List UInt8):Option ((List UInt8)):=(if(decide (x2≥(x1.Kids.length:Int)))=true then(R.2.1 [] x3).bind fun x6=>some x6 else(idx x1.Kids x2).bind fun x7=>(if(x7.Kind==5)=true then(idx x1.Kids x2).bind fun x9=>(R.2.1 x9.Kids x3).bind fun x10=>some x10 else(subL x1.Kids x2 (w64 (x2+1))).bind fun x11=>(R.2.1 x11 x3).bind fun x12=>some x12))
noncomputable def ny (R:bm) (x2 x3:List UInt8):Option ((List UInt8)):=(cat x3 x2).bind fun x12=>(cat x12 ([125]:List UInt8)).bind fun x13=>some x13
noncomputable def fm (R:bm) (x1:List ApiNode) (x2 x3:List UInt8) (x4:Int):Option (((List UInt8) × Int) ⊕ ((List UInt8))):=(if(decide (x4<(x1.length:Int)))=true then(idx x1 x4).bind fun x8=>(cat x2 ([32,32]:List UInt8)).bind fun x9=>(R.2.2.1 x8 x9).bind fun x10=>(cat x3 x10).bind fun x11=>some (.inl (x11,w64 (x4+1)))else some (.inr x3))
noncomputable def j6 (R:bm) (x1:List ApiNode) (x2:List UInt8):Option ((List UInt8)):=(iter (fun s=>fm R x1 x2 s.1 s.2) (([123,10]:List UInt8),0)).bind fun p=>ny R x2 p
noncomputable def j9 (R:bm) (x1:ApiNode) (x2:List UInt8):Option ((List UInt8)):=(R.2.2.2 x1 x2).bind fun(x4,x5)=>(if(!x5)=true then some []else(cat x2 x4).bind fun x7=>(cat x7 ([10]:List UInt8)).bind fun x8=>some x8)
noncomputable def cw (R:bm) (x10:List UInt8):Option ((List UInt8) × Bool):=some (x10,true)
noncomputable def cv (R:bm) (x16:List UInt8):Option ((List UInt8) × Bool):=some (x16,true)
noncomputable def cu (R:bm) (x34:List UInt8):Option ((List UInt8) × Bool):=some (x34,true)
noncomputable def cq (R:bm) (x45:List UInt8):Option ((List UInt8) × Bool):=some (x45,true)
noncomputable def ref13_line_j5 (R:bm) (x1:ApiNode) (x2 x40:List UInt8):Option ((List UInt8) × Bool):=(if(decide ((x1.Kids.length:Int)>2))=true then(cat x40 ([32,101,108,115,101,32]:List UInt8)).bind fun x42=>(R.1 x1 2 x2).bind fun x43=>(cat x42 x43).bind fun x44=>cq R x44 else cq R x40)
noncomputable def ek (R:bm) (x1:ApiNode) (x2:List UInt8):Option ((List UInt8) × Bool):=(if(x1.Kind==6)=true then(cat x1.Type_ ([32]:List UInt8)).bind fun x5=>(cat x5 x1.Text).bind fun x6=>(cat x6 ([32,61,32]:List UInt8)).bind fun x7=>(k3 x1 0 0).bind fun x8=>(cat x7 x8).bind fun x9=>(cat x9 ([59]:List UInt8)).bind fun x10=>cw R x10 else(if(x1.Kind==7)=true then(k3 x1 0 0).bind fun x12=>(cat x12 ([32,61,32]:List UInt8)).bind fun x13=>(k3 x1 1 0).bind fun x14=>(cat x13 x14).bind fun x15=>(cat x15 ([59]:List UInt8)).bind fun x16=>cv R x16 else(if(x1.Kind==8)=true then(k3 x1 0 0).bind fun x18=>(cat x18 ([59]:List UInt8)).bind fun x19=>some (x19,true)else(if(x1.Kind==11)=true then(if((x1.Kids.length:Int)==0)=true then some (([114,101,116,117,114,110,59]:List UInt8),true)else(k3 x1 0 0).bind fun x22=>(cat ([114,101,116,117,114,110,32]:List UInt8) x22).bind fun x23=>(cat x23 ([59]:List UInt8)).bind fun x24=>some (x24,true))else(if(x1.Kind==12)=true then(k3 x1 0 0).bind fun x26=>(cat ([112,114,105,110,116,40]:List UInt8) x26).bind fun x27=>(cat x27 ([41,59]:List UInt8)).bind fun x28=>some (x28,true)else(if(x1.Kind==10)=true then(k3 x1 0 0).bind fun x30=>(cat ([119,104,105,108,101,32,40]:List UInt8) x30).bind fun x31=>(cat x31 ([41,32]:List UInt8)).bind fun x32=>(R.1 x1 1 x2).bind fun x33=>(cat x32 x33).bind fun x34=>cu R x34 else(if(x1.Kind==9)=true then(k3 x1 0 0).bind fun x36=>(cat ([105,102,32,40]:List UInt8) x36).bind fun x37=>(cat x37 ([41,32]:List UInt8)).bind fun x38=>(R.1 x1 1 x2).bind fun x39=>(cat x38 x39).bind fun x40=>ref13_line_j5 R x1 x2 x40 else(if(x1.Kind==5)=true then(R.2.1 x1.Kids x2).bind fun x47=>some (x47,true)else some ([],false)))))))))
noncomputable def bn (R:bm):bm:=((fun x1 x2 x3=>iz R x1 x2 x3),(fun x1 x2=>j6 R x1 x2),(fun x1 x2=>j9 R x1 x2),(fun x1 x2=>ek R x1 x2))
noncomputable def ca (n:Nat):bm:=Nat.rec (motive:=fun _=>bm) ((fun x1 x2 x3=>none),(fun x1 x2=>none),(fun x1 x2=>none),(fun x1 x2=>none)) (fun _ R=>bn R) n
noncomputable def ref13_belongs (x1:ApiNode) (x2:Int) (x3:List UInt8):Option ((List UInt8)):=(ca 1048576).1 x1 x2 x3
noncomputable def ref13_Member_k1 (x1:ApiNode) (x13:List UInt8):Option ((List UInt8)):=(cat x13 ([41,32]:List UInt8)).bind fun x26=>(ref13_belongs x1 (if(w64 ((x1.Kids.length:Int) - 1))>0 then(w64 ((x1.Kids.length:Int) - 1))else 0) ([32,32]:List UInt8)).bind fun x27=>(cat x26 x27).bind fun x28=>(cat x28 ([10]:List UInt8)).bind fun x29=>some x29
noncomputable def mu (x1:ApiNode) (x14:Int) (x20:List UInt8):Option (((List UInt8) × Int) ⊕ ((List UInt8))):=(idx x1.Kids x14).bind fun x21=>(cat x20 x21.Type_).bind fun x22=>(cat x22 ([32]:List UInt8)).bind fun x23=>(idx x1.Kids x14).bind fun x24=>(cat x23 x24.Text).bind fun x25=>some (.inl (x25,w64 (x14+1)))
noncomputable def ge (x1:ApiNode) (x13:List UInt8) (x14:Int):Option (((List UInt8) × Int) ⊕ ((List UInt8))):=(if(decide ((w64 (x14+1))<(x1.Kids.length:Int)))=true then(if(decide (x14>0))=true then(cat x13 ([44,32]:List UInt8)).bind fun x19=>mu x1 x14 x19 else mu x1 x14 x13)else some (.inr x13))
noncomputable def ju (x1:ApiNode) (x5:List UInt8):Option ((List UInt8)):=(cat x5 x1.Type_).bind fun x6=>(cat x6 ([32]:List UInt8)).bind fun x7=>(cat x7 x1.Text).bind fun x8=>(if(x1.Kind==2)=true then(cat x8 ([59,10]:List UInt8)).bind fun x10=>some x10 else(if(x1.Kind != 3)=true then some []else(cat x8 ([40]:List UInt8)).bind fun x12=>(iter (fun s=>ge x1 s.1 s.2) (x12,0)).bind fun p=>ref13_Member_k1 x1 p))
noncomputable def kh (x1:ApiNode):Option ((List UInt8)):=(if(x1.N==1)=true then(cat ([32,32]:List UInt8) ([115,116,97,116,105,99,32]:List UInt8)).bind fun x4=>ju x1 x4 else ju x1 ([32,32]:List UInt8))
noncomputable def ref13_Class_k1 (x9:List UInt8):Option ((List UInt8)):=(cat x9 ([125,10]:List UInt8)).bind fun x17=>some x17
noncomputable def g8 (x1:ApiNode) (x9:List UInt8) (x10:Int):Option (((List UInt8) × Int) ⊕ ((List UInt8))):=(if(decide (x10<(x1.Kids.length:Int)))=true then(idx x1.Kids x10).bind fun x14=>(kh x14).bind fun x15=>(cat x9 x15).bind fun x16=>some (.inl (x16,w64 (x10+1)))else some (.inr x9))
noncomputable def lk (x1:ApiNode) (x7:List UInt8):Option ((List UInt8)):=(cat x7 ([32,123,10]:List UInt8)).bind fun x8=>(iter (fun s=>g8 x1 s.1 s.2) (x8,0)).bind fun p=>ref13_Class_k1 p
noncomputable def ref13_Class (x1:ApiNode):Option ((List UInt8)):=(cat ([99,108,97,115,115,32]:List UInt8) x1.Text).bind fun x3=>(if(!(x1.Type_==[]))=true then(cat x3 ([32,101,120,116,101,110,100,115,32]:List UInt8)).bind fun x5=>(cat x5 x1.Type_).bind fun x6=>lk x1 x6 else lk x1 x3)
noncomputable def ref14_Of_j1 (x4:ApiNode) (x9:Bool):Option ((List UInt8)):=(if x9=true then(kh x4).bind fun x11=>some x11 else some [])
noncomputable def ref14_Of (x1:ApiNode) (x2:List (List UInt8)):Option ((List UInt8)):=(ref14_Erase x1 x2).bind fun x4=>(if(x1.Kind==1)=true then(ref13_Class x4).bind fun x7=>some x7 else(if(x1.Kind==2)=true then ref14_Of_j1 x4 true else ref14_Of_j1 x4 (x1.Kind==3)))
noncomputable def ref04_Texts_k1 (x4:List (List UInt8)):Option ((List (List UInt8))):=some x4
noncomputable def nq (x3:Int) (x15:List (List UInt8)):Option ((Int × (List (List UInt8))) ⊕ ((List (List UInt8)))):=some (.inl (w64 (x3+1),x15))
noncomputable def ig (x1:List ApiToken) (x3:Int) (x4:List (List UInt8)):Option ((Int × (List (List UInt8))) ⊕ ((List (List UInt8)))):=(if(decide (x3<(x1.length:Int)))=true then(idx x1 x3).bind fun x9=>(if(x9.Kind != 5)=true then(idx x1 x3).bind fun x11=>(app 16 x4 ([x11.Text]:List (List UInt8))).bind fun x12=>nq x3 x12 else nq x3 x4)else some (.inr x4))
noncomputable def ref04_Texts (x1:List ApiToken):Option ((List (List UInt8))):=(iter (fun s=>ig x1 s.1 s.2) (0,[])).bind fun p=>ref04_Texts_k1 p
noncomputable def mn (x1:ApiNode) (x2:List (List UInt8)):Option ((List (List UInt8))):=(ref14_Of x1 x2).bind fun x4=>(ref03_Lex x4).bind fun(x5,x6,x7)=>(if(x7 != 0)=true then some []else(ref04_Texts x5).bind fun x9=>some x9)
noncomputable def oj (x6:List (List Int)):Option ((List (List Int))):=some x6
noncomputable def oi (x6:List (List Int)) (x4:Int) (x16:List (List UInt8)) (x17:List Int):Option ((Int × (List (List UInt8)) × (List (List Int))) ⊕ ((List (List Int)))):=(app 24 x6 ([x17]:List (List Int))).bind fun x42=>some (.inl (w64 (x4+1),x16,x42))
noncomputable def k8 (x17:List Int) (x25 x15:Int) (x39:List (List UInt8)):Option ((Int × (List (List UInt8)) × (List Int)) ⊕ ((List (List UInt8)) × (List Int))):=(app 8 x17 ([x25]:List Int)).bind fun x40=>some (.inl (w64 (x15+1),x39,x40))
noncomputable def oh (x16:List (List UInt8)) (x1:List (List (List UInt8))) (x4 x15:Int) (x17:List Int) (x25:Int):Option ((Int × (List (List UInt8)) × (List Int)) ⊕ ((List (List UInt8)) × (List Int))):=(if(x25==(x16.length:Int))=true then(idx x1 x4).bind fun x34=>(idx x34 x15).bind fun x35=>(app 16 x16 ([x35]:List (List UInt8))).bind fun x36=>k8 x17 x25 x15 x36 else k8 x17 x25 x15 x16)
noncomputable def gt (x25:Int) (x31:Bool):Option ((Int) ⊕ (Int)):=(if x31=true then some (.inl (w64 (x25+1)))else some (.inr x25))
noncomputable def ep (x16:List (List UInt8)) (x1:List (List (List UInt8))) (x4 x15 x25:Int):Option ((Int) ⊕ (Int)):=(if(decide (x25<(x16.length:Int)))=true then(idx x16 x25).bind fun x28=>(idx x1 x4).bind fun x29=>(idx x29 x15).bind fun x30=>gt x25 (!(x28==x30))else gt x25 false)
noncomputable def fc (x1:List (List (List UInt8))) (x4 x15:Int) (x16:List (List UInt8)) (x17:List Int):Option ((Int × (List (List UInt8)) × (List Int)) ⊕ ((List (List UInt8)) × (List Int))):=(idx x1 x4).bind fun x23=>(if(decide (x15<(x23.length:Int)))=true then(iter (fun s=>ep x16 x1 x4 x15 s) 0).bind fun p=>oh x16 x1 x4 x15 x17 p else some (.inr (x16,x17)))
noncomputable def fp (x1:List (List (List UInt8))) (x4:Int) (x5:List (List UInt8)) (x6:List (List Int)):Option ((Int × (List (List UInt8)) × (List (List Int))) ⊕ ((List (List Int)))):=(if(decide (x4<(x1.length:Int)))=true then(iter (fun s=>fc x1 x4 s.1 s.2.1 s.2.2) (0,x5,[])).bind fun p=>oi x6 x4 p.1 p.2 else some (.inr x6))
noncomputable def kz (x1:List (List (List UInt8))):Option ((List (List Int))):=(iter (fun s=>fp x1 s.1 s.2.1 s.2.2) (0,[],[])).bind fun p=>oj p
noncomputable def ref05_Match_k1 (x30:List Int):Option ((List Int)):=some x30
noncomputable def jo (x30 x1:List Int) (x29:Int) (x2:List Int) (x40:Bool):Option ((Int × (List Int)) ⊕ ((List Int))):=(if x40=true then(idx x30 (w64 ((w64 ((x1.length:Int) - 1)) - x29))).bind fun x42=>some (.inl (w64 (x29+1),(List.set x30 (Int.toNat (w64 ((w64 ((x1.length:Int) - 1)) - x29))) (w64 ((w64 ((x2.length:Int) - 1)) - x29)))))else some (.inr x30))
noncomputable def ie (x1:List Int) (x15:Int) (x2:List Int) (x29:Int) (x30:List Int):Option ((Int × (List Int)) ⊕ ((List Int))):=(if(decide (x29<(w64 ((x1.length:Int) - x15))))=true then(if(decide (x29<(w64 ((x2.length:Int) - x15))))=true then(idx x1 (w64 ((w64 ((x1.length:Int) - 1)) - x29))).bind fun x35=>(idx x2 (w64 ((w64 ((x2.length:Int) - 1)) - x29))).bind fun x36=>jo x30 x1 x29 x2 (x35==x36)else jo x30 x1 x29 x2 false)else jo x30 x1 x29 x2 false)
noncomputable def ref05_Match_k4 (x1 x2:List Int) (x15:Int) (x16:List Int):Option ((List Int)):=(iter (fun s=>ie x1 x15 x2 s.1 s.2) (0,x16)).bind fun p=>ref05_Match_k1 p
noncomputable def lx (x16:List Int) (x15:Int) (x26:Bool):Option ((Int × (List Int)) ⊕ (Int × (List Int))):=(if x26=true then(idx x16 x15).bind fun x28=>some (.inl (w64 (x15+1),(List.set x16 (Int.toNat x15) x15)))else some (.inr (x15,x16)))
noncomputable def lw (x1 x2:List Int) (x15:Int) (x16:List Int):Option ((Int × (List Int)) ⊕ (Int × (List Int))):=(if(decide (x15<(x1.length:Int)))=true then(if(decide (x15<(x2.length:Int)))=true then(idx x1 x15).bind fun x21=>(idx x2 x15).bind fun x22=>lx x16 x15 (x21==x22)else lx x16 x15 false)else lx x16 x15 false)
noncomputable def ref05_Match_k7 (x46:List Int):Option ((List Int)):=some x46
noncomputable def ref05_Match_j9 (x44 x45:Int) (x46:List Int) (x58 x60:Int):Option ((Int × Int × (List Int)) ⊕ ((List Int))):=(if(decide (x58≥x60))=true then some (.inl (w64 (x44+1),x45,x46))else some (.inl (x44,w64 (x45+1),x46)))
noncomputable def ref05_Match_j10 (x46:List Int) (x44 x45:Int) (x43:List (List Int)) (x53 x54:Int):Option ((Int × Int × (List Int)) ⊕ ((List Int))):=(if(x53==x54)=true then(idx x46 x44).bind fun x56=>some (.inl (w64 (x44+1),w64 (x45+1),(List.set x46 (Int.toNat x44) x45)))else(idx x43 (w64 (x44+1))).bind fun x57=>(idx x57 x45).bind fun x58=>(idx x43 x44).bind fun x59=>(idx x59 (w64 (x45+1))).bind fun x60=>ref05_Match_j9 x44 x45 x46 x58 x60)
noncomputable def ref05_Match_j11 (x1:List Int) (x44:Int) (x2:List Int) (x45:Int) (x46:List Int) (x43:List (List Int)) (x51:Bool):Option ((Int × Int × (List Int)) ⊕ ((List Int))):=(if x51=true then(idx x1 x44).bind fun x53=>(idx x2 x45).bind fun x54=>ref05_Match_j10 x46 x44 x45 x43 x53 x54 else some (.inr x46))
noncomputable def ref05_Match_l8 (x1 x2:List Int) (x43:List (List Int)) (x44 x45:Int) (x46:List Int):Option ((Int × Int × (List Int)) ⊕ ((List Int))):=(if(decide (x44<(x1.length:Int)))=true then ref05_Match_j11 x1 x44 x2 x45 x46 x43 (decide (x45<(x2.length:Int)))else ref05_Match_j11 x1 x44 x2 x45 x46 x43 false)
noncomputable def iy (x1 x2 x5:List Int) (x13:Bool):Option ((List Int)):=(if x13=true then(iter (fun s=>lw x1 x2 s.1 s.2) (0,x5)).bind fun p=>ref05_Match_k4 x1 x2 p.1 p.2 else(ref05_table x1 x2).bind fun x43=>(iter (fun s=>ref05_Match_l8 x1 x2 x43 s.1 s.2.1 s.2.2) (0,0,x5)).bind fun p=>ref05_Match_k7 p)
noncomputable def mw (x1 x2 x5:List Int):Option ((List Int)):=(if(decide ((x1.length:Int)>2000))=true then iy x1 x2 x5 true else iy x1 x2 x5 (decide ((x2.length:Int)>2000)))
noncomputable def fi (x1:List Int) (x4:Int) (x5:List Int):Option ((Int × (List Int)) ⊕ ((List Int))):=(if(decide (x4<(x1.length:Int)))=true then(app 8 x5 ([(-1)]:List Int)).bind fun x10=>some (.inl (w64 (x4+1),x10))else some (.inr x5))
noncomputable def ov (x1 x2:List Int):Option ((List Int)):=(iter (fun s=>fi x1 s.1 s.2) (0,[])).bind fun p=>mw x1 x2 p
noncomputable def ref05_Length_k1 (x4:Int):Option (Int):=some x4
noncomputable def mx (x5 x11:Int):Option ((Int × Int) ⊕ (Int)):=some (.inl (x11,w64 (x5+1)))
noncomputable def gf (x3:List Int) (x4 x5:Int):Option ((Int × Int) ⊕ (Int)):=(if(decide (x5<(x3.length:Int)))=true then(idx x3 x5).bind fun x9=>(if(decide (x9≥0))=true then mx x5 (w64 (x4+1))else mx x5 x4)else some (.inr x4))
noncomputable def ref05_Length (x1 x2:List Int):Option (Int):=(ov x1 x2).bind fun x3=>(iter (fun s=>gf x3 s.1 s.2) (0,0)).bind fun p=>ref05_Length_k1 p
noncomputable def nd (x1 x2:List Int):Option (Int):=(if((w64 ((x1.length:Int)+(x2.length:Int)))==0)=true then some 100 else(ref05_Length x1 x2).bind fun x4=>(nz (w64 ((x1.length:Int)+(x2.length:Int)))).bind fun _=>some (w64 (Int.tdiv (w64 (200 * x4)) (w64 ((x1.length:Int)+(x2.length:Int))))))
noncomputable def ref14_Percent_j1 (x11:Int):Option (Int):=some x11
noncomputable def k6 (x8:List (List Int)):Option (Int):=(idx x8 0).bind fun x9=>(idx x8 1).bind fun x10=>(nd x9 x10).bind fun x11=>ref14_Percent_j1 x11
noncomputable def nc (x1 x2:ApiNode) (x3:List (List UInt8)):Option (Int):=(mn x1 x3).bind fun x6=>(mn x2 x3).bind fun x7=>(kz ([x6,x7]:List (List (List UInt8)))).bind fun x8=>k6 x8
noncomputable def ref14_Best_k1 (x6:Int):Option (Int):=some x6
noncomputable def kw (x8 x20 x21:Int):Option ((Int × Int × Int) ⊕ (Int)):=some (.inl (x20,x21,w64 (x8+1)))
noncomputable def ref14_Best_j4 (x8 x16 x6 x7:Int) (x18:Bool):Option ((Int × Int × Int) ⊕ (Int)):=(if x18=true then kw x8 x8 x16 else kw x8 x6 x7)
noncomputable def ref14_Best_j5 (x4 x8 x6 x7 x16:Int):Option ((Int × Int × Int) ⊕ (Int)):=(if(decide (x16≥x4))=true then ref14_Best_j4 x8 x16 x6 x7 (decide (x16>x7))else ref14_Best_j4 x8 x16 x6 x7 false)
noncomputable def ref14_Best_j6 (x1:ApiNode) (x8 x6 x7:Int) (x2:List ApiNode) (x3:List (List UInt8)) (x4:Int) (x13:ApiNode):Option ((Int × Int × Int) ⊕ (Int)):=(if(x13.Kind != x1.Kind)=true then kw x8 x6 x7 else(idx x2 x8).bind fun x15=>(nc x1 x15 x3).bind fun x16=>ref14_Best_j5 x4 x8 x6 x7 x16)
noncomputable def je (x2:List ApiNode) (x1:ApiNode) (x3:List (List UInt8)) (x4 x6 x7 x8:Int):Option ((Int × Int × Int) ⊕ (Int)):=(if(decide (x8<(x2.length:Int)))=true then(idx x2 x8).bind fun x13=>ref14_Best_j6 x1 x8 x6 x7 x2 x3 x4 x13 else some (.inr x6))
noncomputable def ref14_Best (x1:ApiNode) (x2:List ApiNode) (x3:List (List UInt8)) (x4:Int):Option (Int):=(iter (fun s=>je x2 x1 x3 x4 s.1 s.2.1 s.2.2) ((-1),(-1),0)).bind fun p=>ref14_Best_k1 p
noncomputable def jj (x40:Bool):Option (Bool):=some x40
noncomputable def mg (x2:List (List UInt8)) (x3:Int) (x13:List ApiNode):Option (Bool):=(idx x13 0).bind fun x27=>(idx x13 1).bind fun x28=>(kv x27 x28 x2).bind fun x29=>(idx x13 0).bind fun x30=>(idx x13 1).bind fun x31=>(nc x30 x31 x2).bind fun x32=>(if(x29==x32)=true then(idx x13 0).bind fun x34=>(subL x13 1 (x13.length:Int)).bind fun x35=>(shape_Best x34 x35 x2 x3).bind fun x36=>(idx x13 0).bind fun x37=>(subL x13 1 (x13.length:Int)).bind fun x38=>(ref14_Best x37 x38 x2 x3).bind fun x39=>jj (x36==x39)else jj false)
noncomputable def ez (x1:List (List UInt8)) (x12:Int) (x13:List ApiNode):Option ((Int × (List ApiNode)) ⊕ (Flow (List ApiNode) Bool)):=(if(decide (x12<(x1.length:Int)))=true then(idx x1 x12).bind fun x18=>(if(decide ((x18.length:Int)>600))=true then some (.inr (.done true))else(idx x1 x12).bind fun x20=>(ref12_One x20 1).bind fun(x21,x22)=>(app 104 x13 ([x21]:List ApiNode)).bind fun x25=>some (.inl (w64 (x12+1),x25)))else some (.inr (.next x13)))
noncomputable def e6 (x1 x2:List (List UInt8)) (x3:Int) (x9:Bool):Option (Bool):=(if x9=true then some true else(iter (fun s=>ez x1 s.1 s.2) (0,[])).bind fun z=>match z with| .next p=>mg x2 x3 p| .done r=>some r)
noncomputable def law14_ShapeBest (x1 x2:List (List UInt8)) (x3:Int):Option (Bool):=(law14_awake).bind fun x4=>(if(!x4)=true then some false else(if(decide ((x1.length:Int)<2))=true then e6 x1 x2 x3 true else(if(decide ((x1.length:Int)>6))=true then e6 x1 x2 x3 true else e6 x1 x2 x3 (decide ((x2.length:Int)>10)))))
end Go.Proofs.YtgkcoicaopilhaaGreatDoor
