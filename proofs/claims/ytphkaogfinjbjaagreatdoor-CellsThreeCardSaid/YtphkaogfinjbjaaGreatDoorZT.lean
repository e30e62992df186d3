/- The data of the program, and its functions over plain data (printed by wip/gen/gen.py). -/
import Derived.Lib.Index
import Derived.Lib.Bytealg
import Derived.Lib.ParseIntB
import Derived.Lib.Join
import Derived.Test.YtphkaogfinjbjaaGreatDoorZJ
set_option linter.unusedSimpArgs false
set_option linter.unusedVariables false
set_option linter.unusedSectionVars false
namespace Go.Proofs.YtphkaogfinjbjaaGreatDoor
open Go
def strings_Index (s sub:List UInt8):Option Int:=if s.length<4294967281 then some (Lib.index s sub)else none
def strings_IndexByte (s:List UInt8) (c:Int):Option Int:=some (Lib.indexByte s c.toNat.toUInt8)
def jv (s:List UInt8) (b k:Int):Option (Int × Bool):=
 if b=10/\k=64/\s.length<=281474976710656 then
  match Lib.parseIntB 64 s with
  | .ok v=>some (v,false)
  | .range=>some (Lib.intSat 64 s,true)
  |_=>none
 else none
def kept :List (List UInt8):=[[99,108,97,115,115],[101,120,116,101,110,100,115],[115,116,97,116,105,99],[118,111,105,100],[105,110,116],[98,111,111,108,101,97,110],[105,102],[101,108,115,101],[119,104,105,108,101],[114,101,116,117,114,110],[112,114,105,110,116],[116,114,117,101],[102,97,108,115,101],[110,117,108,108],[116,104,105,115],[110,101,119]]
def clashes :List (List UInt8 × List UInt8):=[([61],[61]),([33],[61]),([60],[61]),([62],[61]),([47],[47]),([47],[42])]
def strings_Join (l:List (List UInt8)) (sep:List UInt8):Option (List UInt8):=if l.length<=140737488355328/\(Lib.join l sep).length<=140737488355328 then some (Lib.join l sep)else none
def lcsRow (k:IntKind) (x:Int):List Int->List Int->List Int
 | [],_=>[0]
 |y::b,n0::ns=>(if x==y then k.wrap (ns.headD 0+1)else if(lcsRow k x b ns).headD 0>n0 then(lcsRow k x b ns).headD 0 else n0)::lcsRow k x b ns
 |_::_,[]=>[]
def dw (k:IntKind):List Int->List Int->List (List Int)
 | [],b=>[List.replicate (b.length+1) 0]
 |x::a,b=>lcsRow k x b ((dw k a b).headD [])::dw k a b
def lcs_left (a b:List Int):Option (List (List Int)):=if a.length<=100000/\b.length<=100000 then some (dw .i32 a b)else none
def ref05_table (a b:List Int):Option (List (List Int)):=if a.length<=100000/\b.length<=100000 then some (dw .i64 a b)else none
def ji (l:List (List UInt8)):Option (List (List UInt8)):=Go.Cn.app 16 [] l
def slices_Grow (n:Int):Option (List (List UInt8)):=if 0<=n/\n<=1000000000000 then some []else none
end Go.Proofs.YtphkaogfinjbjaaGreatDoor
namespace Go.Proofs.YtphkaogfinjbjaaGreatDoor
open Go
theorem lcsRow_len (k:IntKind) (x:Int):∀(b nxt:List Int),nxt.length=b.length+1->(lcsRow k x b nxt).length=b.length+1
 | [],_,_=>rfl
 |y::b,n0::ns,h=>by
  simp only[lcsRow,List.length_cons]at h ⊢
  rw[lcsRow_len k x b ns (by omega)]
 |y::b,[],h=>by simp at h
theorem lcsRows_lens (k:IntKind):∀(a b:List Int),(dw k a b).length=a.length+1/\∀l∈dw k a b,l.length=b.length+1
 | [],b=>⟨rfl,fun l hl=>by simp[dw]at hl;rw[hl];simp⟩
 |x::a,b=>by
  obtain⟨h1,h2⟩:=lcsRows_lens k a b
  have hd:((dw k a b).headD []).length=b.length+1:=by
   cases hr:dw k a b with
   |nil=>rw[hr]at h1;simp at h1
   |cons l ls=>exact h2 l (by rw[hr];simp)
  refine⟨by simp[dw,h1],fun l hl=> ?_⟩
  simp only[dw,List.mem_cons]at hl
  rcases hl with rfl|hl
  ·exact lcsRow_len k x b _ hd
  ·exact h2 l hl
theorem lcsRows_drop (k:IntKind):∀(i:Nat) (a b:List Int),i<=a.length->(dw k a b).drop i=dw k (a.drop i) b
 | 0,_,_,_=>rfl
 |i+1,x::a,b,h=>by
  simp only[dw,List.drop_succ_cons]
  exact lcsRows_drop k i a b (by simpa using h)
 |i+1,[],_,h=>by simp at h
theorem lcsRows_at (k:IntKind) {a b:List Int} {i:Nat} {x:Int} (hx:a[i]? =some x):∃nxt,(dw k a b)[i+1]? =some nxt/\nxt.length=b.length+1/\(dw k a b)[i]? =some (lcsRow k x b nxt):=by
 have hi:=(List.getElem?_eq_some_iff.1 hx).1
 obtain⟨h1,h2⟩:=lcsRows_lens k a b
 have hl:i+1<(dw k a b).length:=by omega
 refine⟨(dw k a b)[i+1],by simp[hl],h2 _ (List.getElem_mem _),?_⟩
 have hd:=lcsRows_drop k i a b (by omega)
 have hdx:a.drop i=x::a.drop (i+1):=by
  rw[List.drop_eq_getElem_cons hi]
  have:a[i]=x:=(List.getElem?_eq_some_iff.1 hx).2
  rw[this]
 rw[hdx]at hd
 simp only[dw]at hd
 have h0:(dw k a b)[i]? =((dw k a b).drop i)[0]? :=by simp
 rw[h0,hd]
 have hn:(dw k (a.drop (i+1)) b).headD []=(dw k a b)[i+1]:=by
  rw[← lcsRows_drop k (i+1) a b (by omega),List.drop_eq_getElem_cons hl]
  rfl
 rw[hn]
 rfl
def part (k:IntKind) (x:Int) (b nxt:List Int) (j:Nat):List Int:=List.replicate j 0++lcsRow k x (b.drop j) (nxt.drop j)
theorem part_end {k:IntKind} {x:Int} {b nxt:List Int}:part k x b nxt b.length=List.replicate (b.length+1) 0:=by
 unfold part
 rw[List.drop_length]
 simp only[lcsRow]
 rw[List.replicate_succ']
theorem part_zero {k:IntKind} {x:Int} {b nxt:List Int}:part k x b nxt 0=lcsRow k x b nxt:=by simp[part]
theorem part_step {k:IntKind} {x:Int} {b nxt:List Int} {j:Nat} {y:Int} (hn:nxt.length=b.length+1) (hy:b[j]? =some y):∃n0 n1 r1,nxt[j]? =some n0/\nxt[j+1]? =some n1/\(part k x b nxt (j+1))[j]? =some 0/\(part k x b nxt (j+1))[j+1]? =some r1/\
  (part k x b nxt (j+1)).set j (if x==y then k.wrap (n1+1)else if r1>n0 then r1 else n0)=part k x b nxt j:=by
 have hj:=(List.getElem?_eq_some_iff.1 hy).1
 have hyb:b[j]=y:=(List.getElem?_eq_some_iff.1 hy).2
 have hb:b.drop j=y::b.drop (j+1):=by rw[List.drop_eq_getElem_cons hj,hyb]
 have hnx:nxt.drop j=nxt[j]::nxt.drop (j+1):=List.drop_eq_getElem_cons (by omega)
 have hnx1:nxt.drop (j+1)=nxt[j+1]::nxt.drop (j+2):=List.drop_eq_getElem_cons (by omega)
 obtain⟨r1,rs,hr⟩:∃r1 rs,lcsRow k x (b.drop (j+1)) (nxt.drop (j+1))=r1::rs:=by
  have:=lcsRow_len k x (b.drop (j+1)) (nxt.drop (j+1)) (by simp;omega)
  cases hr:lcsRow k x (b.drop (j+1)) (nxt.drop (j+1))with
  |nil=>rw[hr]at this;simp at this
  |cons r1 rs=>exact⟨r1,rs,rfl⟩
 refine⟨nxt[j],nxt[j+1],r1,List.getElem?_eq_getElem (by omega),List.getElem?_eq_getElem (by omega),?_,?_,?_⟩
 ·unfold part
  rw[List.getElem?_append_left (by simp)]
  simp
 ·unfold part
  rw[List.getElem?_append_right (by simp),hr]
  simp
 ·unfold part
  rw[hr,hb,hnx]
  simp only[lcsRow]
  rw[hr,hnx1,List.replicate_succ',List.append_assoc,List.set_append_right _ _ (by simp)]
  have hg:nxt[j+1]? =some nxt[j+1]:=List.getElem?_eq_getElem (by omega)
  simp[hg]
end Go.Proofs.YtphkaogfinjbjaaGreatDoor
set_option linter.unusedSectionVars false
set_option maxRecDepth 100000
set_option maxHeartbeats 4000000
namespace Go.Proofs.YtphkaogfinjbjaaGreatDoor
open Go Go.Cn
structure ApiSegment where
 Key:List UInt8
 Text:List UInt8
 deriving DecidableEq
structure ApiToken where
 Kind:Int
 Text:List UInt8
 At:Int
 Lead:List UInt8
 deriving DecidableEq
structure Diff3Ends where
 o:Int
 a:Int
 b:Int
 deriving DecidableEq
structure ApiSpan where
 From:Int
 To:Int
 deriving DecidableEq
structure ApiChunk where
 Kind:Int
 O:ApiSpan
 A:ApiSpan
 B:ApiSpan
 deriving DecidableEq
structure ApiPart where
 Clash:Bool
 O:List UInt8
 A:List UInt8
 B:List UInt8
 deriving DecidableEq
structure ApiConflict where
 Kind:Int
 Key:List UInt8
 deriving DecidableEq
noncomputable def cells_once_k1 (x5:SMap Bool) (x6:List (List UInt8)):Option ((List (List UInt8))):=some x6
noncomputable def cells_once_j3 (x4:Int) (x12:List UInt8) (x5:SMap Bool) (x17:List (List UInt8)):Option ((Int × (SMap Bool) × (List (List UInt8))) ⊕ ((SMap Bool) × (List (List UInt8)))):=some (.inl (w64 (x4+1),(mset x12 true x5),x17))
noncomputable def ix (x1:List (List UInt8)) (x4:Int) (x5:SMap Bool) (x6:List (List UInt8)):Option ((Int × (SMap Bool) × (List (List UInt8))) ⊕ ((SMap Bool) × (List (List UInt8)))):=(if(decide (x4<(x1.length:Int)))=true then(idx x1 x4).bind fun x12=>(if(!(mget x12 false x5))=true then(app 16 x6 ([x12]:List (List UInt8))).bind fun x14=>cells_once_j3 x4 x12 x5 x14 else cells_once_j3 x4 x12 x5 x6)else some (.inr (x5,x6)))
noncomputable def kc (x1:List (List UInt8)):Option ((List (List UInt8))):=(iter (fun s=>ix x1 s.1 s.2.1 s.2.2) (0,([]:SMap Bool),[])).bind fun p=>cells_once_k1 p.1 p.2
noncomputable def cells_keys_k1 (x4:List (List UInt8)):Option ((List (List UInt8))):=(kc x4).bind fun x21=>some x21
noncomputable def cells_keys_k3 (x3:Int) (x12:List (List UInt8)):Option ((Int × (List (List UInt8))) ⊕ ((List (List UInt8)))):=some (.inl (w64 (x3+1),x12))
noncomputable def cells_keys_l4 (x9:List ApiSegment) (x11:Int) (x12:List (List UInt8)):Option ((Int × (List (List UInt8))) ⊕ ((List (List UInt8)))):=(if(decide (x11<(x9.length:Int)))=true then(idx x9 x11).bind fun x17=>(app 16 x12 ([x17.Key]:List (List UInt8))).bind fun x19=>some (.inl (w64 (x11+1),x19))else some (.inr x12))
noncomputable def cells_keys_l2 (x1:List (List ApiSegment)) (x3:Int) (x4:List (List UInt8)):Option ((Int × (List (List UInt8))) ⊕ ((List (List UInt8)))):=(if(decide (x3<(x1.length:Int)))=true then(idx x1 x3).bind fun x9=>(iter (fun s=>cells_keys_l4 x9 s.1 s.2) (0,x4)).bind fun p=>cells_keys_k3 x3 p else some (.inr x4))
noncomputable def cells_keys (x1:List (List ApiSegment)):Option ((List (List UInt8))):=(iter (fun s=>cells_keys_l2 x1 s.1 s.2) (0,[])).bind fun p=>cells_keys_k1 p
noncomputable def cells_of (x1:List UInt8) (x2:Bool):Option ((List (List UInt8))):=(if(!x2)=true then some (List.replicate 2 [])else some ([([116,104,101,114,101]:List UInt8),x1]:List (List UInt8)))
noncomputable def dg {σ:Type} (yld:σ->(Int × ApiSegment)->Option (Bool × σ)) (x2:List ApiSegment) (x6:σ):Option ((List ApiSegment) × (σ)):=some (x2,x6)
noncomputable def cj {σ:Type} (yld:σ->(Int × ApiSegment)->Option (Bool × σ)) (x2:List ApiSegment) (x5:Int) (x6:σ):Option ((Int × (σ)) ⊕ (Flow (σ) ((List ApiSegment) × (σ)))):=(if(decide (x5≥0))=true then(idx x2 x5).bind fun x12=>(yld x6 (x5,x12)).bind fun(x13,x14)=>(if(!x13)=true then some (.inr (.done (x2,x14)))else some (.inl (w64 (x5 - 1),x14)))else some (.inr (.next x6)))
noncomputable def dn {σ:Type} (yld:σ->(Int × ApiSegment)->Option (Bool × σ)) (x2:List ApiSegment) (x3:σ):Option ((List ApiSegment) × (σ)):=(iter (fun s=>cj yld x2 s.1 s.2) (w64 ((x2.length:Int) - 1),x3)).bind fun z=>match z with| .next p=>dg yld x2 p| .done r=>some r
noncomputable def cells_table_r1 (x7:SMap (List (List UInt8))) (x5:Int) (x6:ApiSegment):Option (Bool × ((SMap (List (List UInt8))))):=(cells_of x6.Text true).bind fun x10=>some (true,(mset x6.Key x10 x7))
noncomputable def cells_table (x1:List ApiSegment):Option ((SMap (List (List UInt8)))):=(dn (fun(s:(SMap (List (List UInt8)))) (a:Int × ApiSegment)=>cells_table_r1 s a.1 a.2) x1 ([]:SMap (List (List UInt8)))).bind fun(x11,x12)=>some x12
noncomputable def ff (x1:List (List UInt8)):Option (Bool):=(ic 2 0).bind fun x3=>some ((List.getD x1 x3 [])==([116,104,101,114,101]:List UInt8))
noncomputable def ef:Option (Int):=some (-1)
noncomputable def c4 (x1:List (List UInt8)) (x2:List UInt8) (x3:Int):Option ((Int) ⊕ (Flow Unit Int)):=(if(decide (x3<(x1.length:Int)))=true then(idx x1 x3).bind fun x6=>(if(x2==x6)=true then some (.inr (.done x3))else some (.inl (w64 (x3+1))))else some (.inr (.next ())))
noncomputable def dx (x1:List (List UInt8)) (x2:List UInt8):Option (Int):=(iter (fun s=>c4 x1 x2 s) 0).bind fun z=>match z with| .next p=>ef| .done r=>some r
noncomputable def bq (x1:List (List UInt8)) (x2:List UInt8):Option (Bool):=(dx x1 x2).bind fun x3=>some (decide (x3≥0))
noncomputable def eg:Option (Bool):=some true
noncomputable def dk (x4:Int) (x7 x8:List UInt8):Option ((Int) ⊕ (Flow Unit Bool)):=(if(!(x7==x8))=true then some (.inr (.done false))else some (.inl (w64 (x4+1))))
noncomputable def bj (x1 x2:List (List UInt8)) (x4:Int):Option ((Int) ⊕ (Flow Unit Bool)):=(if(decide (x4<(x1.length:Int)))=true then(idx x1 x4).bind fun x7=>(idx x2 x4).bind fun x8=>dk x4 x7 x8 else some (.inr (.next ())))
noncomputable def dh (x1 x2:List (List UInt8)):Option (Bool):=(if((x1.length:Int) != (x2.length:Int))=true then some false else(iter (fun s=>bj x1 x2 s) 0).bind fun z=>match z with| .next p=>eg| .done r=>some r)
noncomputable def e7:Option (Int):=some (-1)
noncomputable def a8 (x1:List (List UInt8)) (x2:((List UInt8)->Option Bool)) (x3:Int):Option ((Int) ⊕ (Flow Unit Int)):=(if(decide (x3<(x1.length:Int)))=true then(idx x1 x3).bind fun x6=>(x2 x6).bind fun x7=>(if x7=true then some (.inr (.done x3))else some (.inl (w64 (x3+1))))else some (.inr (.next ())))
noncomputable def cv (x1:List (List UInt8)) (x2:((List UInt8)->Option Bool)):Option (Int):=(iter (fun s=>a8 x1 x2 s) 0).bind fun z=>match z with| .next p=>e7| .done r=>some r
noncomputable def dl (x6:Int) (x8:List (List UInt8)):Option ((List (List UInt8))):=(subL x8 x6 (x8.length:Int)).bind fun x19=>(subL (List.take (Int.toNat x6) x8++List.replicate (x8.length - Int.toNat x6) []) 0 x6).bind fun x20=>some x20
noncomputable def cg (x7 x17:Int) (x18:List (List UInt8)):Option ((Int × Int × (List (List UInt8))) ⊕ (Int × (List (List UInt8)))):=some (.inl (x17,w64 (x7+1),x18))
noncomputable def bd (x1:((List UInt8)->Option Bool)) (x6 x7:Int) (x8:List (List UInt8)):Option ((Int × Int × (List (List UInt8))) ⊕ (Int × (List (List UInt8)))):=(if(decide (x7<(x8.length:Int)))=true then(idx x8 x7).bind fun x13=>(x1 x13).bind fun x14=>(if(!x14)=true then(idx x8 x6).bind fun x16=>cg x7 (w64 (x6+1)) (List.set x8 (Int.toNat x6) x13)else cg x7 x6 x8)else some (.inr (x6,x8)))
noncomputable def bx (x1:((List UInt8)->Option Bool)) (x3:List (List UInt8)):Option ((List (List UInt8))):=(cv x3 x1).bind fun x4=>(if(x4==(-1))=true then some x3 else(iter (fun s=>bd x1 s.1 s.2.1 s.2.2) (x4,w64 (x4+1),x3)).bind fun p=>dl p.1 p.2)
noncomputable def f7 (x10:Bool):Option (Bool):=some x10
noncomputable def lq (x1:List UInt8) (x2 x3 x4:List (List UInt8)):Option (Bool):=(bq x2 x1).bind fun x5=>(if x5=true then(bq x3 x1).bind fun x7=>(if x7=true then(bq x4 x1).bind fun x9=>f7 (!x9)else f7 (!false))else f7 false)
noncomputable def jr (x1 x2 x3 x4:List (List UInt8)):Option ((List (List UInt8))):=(ji x1).bind fun x5=>(bx (fun a0=>lq a0 x2 x3 x4) x5).bind fun x7=>some x7
noncomputable def jq (x1:List UInt8) (x2:List (List UInt8)):Option (Bool):=(bq x2 x1).bind fun x3=>some x3
noncomputable def ci (x5:Bool):Option (Bool):=some x5
noncomputable def d7 (x1 x2:List UInt8):Option (Bool):=(if(decide ((x1.length:Int)≥(x2.length:Int)))=true then(sub x1 0 (x2.length:Int)).bind fun x4=>ci (x4==x2)else ci false)
noncomputable def el (x1 x2:List UInt8):Option (Bool):=(d7 x1 x2).bind fun x3=>some x3
noncomputable def lex_run_k1 (x1:List UInt8):Option (Int):=some (x1.length:Int)
noncomputable def lex_run_l2 (x1:List UInt8) (x2:(Int->Option Bool)) (x3:Int):Option ((Int) ⊕ (Flow Unit Int)):=(if(decide (x3<(x1.length:Int)))=true then(idxS x1 x3).bind fun x6=>(x2 x6).bind fun x7=>(if(!x7)=true then some (.inr (.done x3))else some (.inl (w64 (x3+1))))else some (.inr (.next ())))
noncomputable def lex_run (x1:List UInt8) (x2:(Int->Option Bool)):Option (Int):=(iter (fun s=>lex_run_l2 x1 x2 s) 0).bind fun z=>match z with| .next p=>lex_run_k1 x1| .done r=>some r
noncomputable def l8 (x1:Int):Option (Bool):=some (x1 != 10)
noncomputable def lex_between_j1 (x2:Int):Option (Int × Bool):=some (x2,true)
noncomputable def lex_between_k2 (x2:Int):Option (Int × Bool):=lex_between_j1 x2
noncomputable def i9 (x2:Int):Option ((Int) ⊕ (Flow Int (Int × Bool))):=some (.inl (w64 (x2+1)))
noncomputable def ku (x1:List UInt8) (x2:Int):Option ((Int) ⊕ (Flow Int (Int × Bool))):=(if(decide (x2<(x1.length:Int)))=true then(sub x1 x2 (x1.length:Int)).bind fun x5=>(el x5 ([47,47]:List UInt8)).bind fun x6=>(if x6=true then(lex_run x5 l8).bind fun x8=>some (.inl (w64 (x2+x8)))else(el x5 ([47,42]:List UInt8)).bind fun x9=>(if x9=true then(sub x5 2 (x5.length:Int)).bind fun x11=>(strings_Index x11 ([42,47]:List UInt8)).bind fun x12=>(if(decide (x12<0))=true then some (.inr (.done (x2,false)))else some (.inl (w64 (x2+(w64 ((w64 (2+x12))+2))))))else(idxS x5 0).bind fun x14=>(if(x14==32)=true then i9 x2 else(if(x14==9)=true then i9 x2 else(if(x14==13)=true then i9 x2 else(if(x14==10)=true then i9 x2 else some (.inr (.next x2))))))))else some (.inr (.next x2)))
noncomputable def lex_between (x1:List UInt8):Option (Int × Bool):=(iter (fun s=>ku x1 s) 0).bind fun z=>match z with| .next p=>lex_between_k2 p| .done r=>some r
noncomputable def lex_digit_j1 (x3:Bool):Option (Bool):=some x3
noncomputable def lex_digit (x1:Int):Option (Bool):=(if(decide (x1≥48))=true then lex_digit_j1 (decide (x1<=57))else lex_digit_j1 false)
noncomputable def lex_letter_j1 (x5:Bool):Option (Bool):=some x5
noncomputable def lex_letter (x1:Int):Option (Bool):=(if(decide ((bits .or .u8 x1 32)≥97))=true then(if(decide ((bits .or .u8 x1 32)<=122))=true then lex_letter_j1 true else lex_letter_j1 (x1==95))else lex_letter_j1 (x1==95))
noncomputable def lex_token_1_j1 (x5:Bool):Option (Bool):=some x5
noncomputable def nv (x1:Int):Option (Bool):=(lex_letter x1).bind fun x2=>(if x2=true then lex_token_1_j1 true else(lex_digit x1).bind fun x4=>lex_token_1_j1 x4)
noncomputable def lex_Kept (x1:List UInt8):Option (Bool):=(bq kept x1).bind fun x2=>some x2
noncomputable def lex_mark_k1 (x1:List UInt8):Option (Int):=(idxS x1 0).bind fun x8=>(strings_IndexByte ([43,45,42,47,37,60,62,61,33,40,41,123,125,59,44,46]:List UInt8) x8).bind fun x9=>(if(decide (x9≥0))=true then some 1 else some 0)
noncomputable def lex_mark_l2 (x1:List UInt8) (x2:Int):Option ((Int) ⊕ (Flow Unit Int)):=(if(decide (x2<(([([61,61]:List UInt8),([33,61]:List UInt8),([60,61]:List UInt8),([62,61]:List UInt8),([38,38]:List UInt8),([124,124]:List UInt8)]:List (List UInt8)).length:Int)))=true then(idx ([([61,61]:List UInt8),([33,61]:List UInt8),([60,61]:List UInt8),([62,61]:List UInt8),([38,38]:List UInt8),([124,124]:List UInt8)]:List (List UInt8)) x2).bind fun x5=>(el x1 x5).bind fun x6=>(if x6=true then some (.inr (.done 2))else some (.inl (w64 (x2+1))))else some (.inr (.next ())))
noncomputable def lex_mark (x1:List UInt8):Option (Int):=(iter (fun s=>lex_mark_l2 x1 s) 0).bind fun z=>match z with| .next p=>lex_mark_k1 x1| .done r=>some r
noncomputable def lk (x5:Int) (x16:Bool):Option (Int × Int × Int):=(if x16=true then some (0,0,31)else some (2,x5,0))
noncomputable def lex_token (x1:List UInt8):Option (Int × Int × Int):=(idxS x1 0).bind fun x2=>(lex_digit x2).bind fun x3=>(if x3=true then(lex_run x1 lex_digit).bind fun x5=>(sub x1 0 x5).bind fun x6=>(jv x6 10 64).bind fun(x7,x8)=>(if x8=true then lk x5 true else(if(decide (x7>2147483647))=true then lk x5 true else(if(decide (x5>1))=true then(idxS x1 0).bind fun x12=>lk x5 (x12==48)else lk x5 false)))else(idxS x1 0).bind fun x18=>(lex_letter x18).bind fun x19=>(if x19=true then(lex_run x1 nv).bind fun x21=>(if(decide (x21>20))=true then some (0,0,2)else(sub x1 0 x21).bind fun x23=>(lex_Kept x23).bind fun x24=>(if x24=true then some (3,x21,0)else some (1,x21,0)))else(lex_mark x1).bind fun x26=>(if(x26==0)=true then some (0,0,30)else some (4,x26,0))))
noncomputable def lex_Lex_1_j1 (x8:List UInt8) (x10 x2 x3:Int) (x13:List ApiToken):Option ((List ApiToken) × (List UInt8) × Int):=some (x13,x8,w64 (x10+(w64 (x2+x3))))
noncomputable def lex_Lex_1 (x1 x2 x3:Int) (x5:List ApiToken) (x8:List UInt8) (x10:Int):Option ((List ApiToken) × (List UInt8) × Int):=(sub x8 (w64 (x10+x2)) (w64 ((w64 (x10+x2))+x3))).bind fun x11=>(sub x8 x10 (w64 (x10+x2))).bind fun x12=>(app 48 x5 ([(ApiToken.mk x1 x11 (w64 (x10+x2)) x12)]:List ApiToken)).bind fun x13=>lex_Lex_1_j1 x8 x10 x2 x3 x13
noncomputable def lex_Lex_j2 (x8 x15:Int):Option (((List UInt8) × Int × (List ApiToken)) ⊕ ((List ApiToken) × Int × Int)):=some (.inr ([],w64 (x8+x15),32))
noncomputable def lex_Lex_j3 (x8 x15 x26:Int):Option (((List UInt8) × Int × (List ApiToken)) ⊕ ((List ApiToken) × Int × Int)):=some (.inr ([],w64 (x8+x15),x26))
noncomputable def fi (x6:List UInt8) (x8:Int) (x9:List ApiToken):Option (((List UInt8) × Int × (List ApiToken)) ⊕ ((List ApiToken) × Int × Int)):=(sub x6 x8 (x6.length:Int)).bind fun x14=>(lex_between x14).bind fun(x15,x16)=>(if(!x16)=true then lex_Lex_j2 x8 x15 else(if((w64 (x8+x15))==(x6.length:Int))=true then(lex_Lex_1 5 x15 0 x9 x6 x8).bind fun(x19,x21,x22)=>some (.inr (x19,0,0))else(sub x6 (w64 (x8+x15)) (x6.length:Int)).bind fun x23=>(lex_token x23).bind fun(x24,x25,x26)=>(if(x26 != 0)=true then lex_Lex_j3 x8 x15 x26 else(lex_Lex_1 x24 x15 x25 x9 x6 x8).bind fun(x28,x30,x31)=>some (.inl (x30,x31,x28)))))
noncomputable def lex_Lex (x1:List UInt8):Option ((List ApiToken) × Int × Int):=(if(decide ((x1.length:Int)>1048576))=true then some ([],0,2)else iter (fun s=>fi s.1 s.2.1 s.2.2) (x1,0,[]))
noncomputable def ni (x3:Int):Option (Int × Bool):=some (x3,true)
noncomputable def ref03_between_k3 (x29:Int):Option ((Int) ⊕ (Flow Int (Int × Bool))):=some (.inl x29)
noncomputable def j4 (x29:Int) (x33:Bool):Option ((Int) ⊕ (Int)):=(if x33=true then some (.inl (w64 (x29+1)))else some (.inr x29))
noncomputable def gc (x1:List UInt8) (x29:Int):Option ((Int) ⊕ (Int)):=(if(decide (x29<(x1.length:Int)))=true then(idxS x1 x29).bind fun x32=>j4 x29 (x32 != 10)else j4 x29 false)
noncomputable def jz (x1:List UInt8) (x3 x35:Int):Option ((Int) ⊕ (Flow Int (Int × Bool))):=(if(decide ((w64 (x35+1))≥(x1.length:Int)))=true then some (.inr (.done (x3,false)))else some (.inl (w64 (x35+2))))
noncomputable def ii (x35:Int) (x41:Bool):Option ((Int) ⊕ (Int)):=(if x41=true then some (.inl (w64 (x35+1)))else some (.inr x35))
noncomputable def gb (x1:List UInt8) (x35:Int):Option ((Int) ⊕ (Int)):=(if(decide ((w64 (x35+1))<(x1.length:Int)))=true then(idxS x1 x35).bind fun x38=>(if(x38 != 42)=true then ii x35 true else(idxS x1 (w64 (x35+1))).bind fun x40=>ii x35 (x40 != 47))else ii x35 false)
noncomputable def ee (x3:Int) (x1:List UInt8) (x25:Bool):Option ((Int) ⊕ (Flow Int (Int × Bool))):=(if x25=true then some (.inr (.done (x3,true)))else(idxS x1 (w64 (x3+1))).bind fun x27=>(if(x27==47)=true then(iter (fun s=>gc x1 s) x3).bind fun p=>ref03_between_k3 p else(iter (fun s=>gb x1 s) (w64 (x3+2))).bind fun p=>jz x1 x3 p))
noncomputable def db (x3:Int) (x1:List UInt8) (x6:Int) (x14:Bool):Option ((Int) ⊕ (Flow Int (Int × Bool))):=(if x14=true then some (.inl (w64 (x3+1)))else(if(decide ((w64 (x3+1))≥(x1.length:Int)))=true then ee x3 x1 true else(if(x6 != 47)=true then ee x3 x1 true else(idxS x1 (w64 (x3+1))).bind fun x18=>(if(x18 != 47)=true then(idxS x1 (w64 (x3+1))).bind fun x20=>ee x3 x1 (x20 != 42)else ee x3 x1 false))))
noncomputable def ce (x1:List UInt8) (x3:Int):Option ((Int) ⊕ (Flow Int (Int × Bool))):=(if(decide (x3<(x1.length:Int)))=true then(idxS x1 x3).bind fun x6=>(if(x6==32)=true then db x3 x1 x6 true else(if(x6==9)=true then db x3 x1 x6 true else(if(x6==10)=true then db x3 x1 x6 true else db x3 x1 x6 (x6==13))))else some (.inr (.next x3)))
noncomputable def ref03_between (x1:List UInt8) (x2:Int):Option (Int × Bool):=(iter (fun s=>ce x1 s) x2).bind fun z=>match z with| .next p=>ni p| .done r=>some r
noncomputable def ref03_digit_j1 (x3:Bool):Option (Bool):=some x3
noncomputable def lg (x1:Int):Option (Bool):=(if(decide (x1≥48))=true then ref03_digit_j1 (decide (x1<=57))else ref03_digit_j1 false)
noncomputable def ref03_great_k1 (x3:Int):Option (Bool):=some (decide (x3>2147483647))
noncomputable def kp (x1:List UInt8) (x3 x4:Int):Option ((Int × Int) ⊕ (Int)):=(if(decide (x4<(x1.length:Int)))=true then(idxS x1 x4).bind fun x8=>some (.inl (w64 ((w64 (10 * x3))+(w64 (IntKind.wrap .u8 (x8 - 48)))),w64 (x4+1)))else some (.inr x3))
noncomputable def ref03_great (x1:List UInt8):Option (Bool):=(if(decide ((x1.length:Int)>10))=true then some true else(iter (fun s=>kp x1 s.1 s.2) (0,0)).bind fun p=>ref03_great_k1 p)
noncomputable def ez (x13:Bool):Option (Bool):=some x13
noncomputable def lj (x1:Int):Option (Bool):=(if(decide (x1≥97))=true then(if(decide (x1<=122))=true then ez true else(if(decide (x1≥65))=true then(if(decide (x1<=90))=true then ez true else ez (x1==95))else ez (x1==95)))else(if(decide (x1≥65))=true then(if(decide (x1<=90))=true then ez true else ez (x1==95))else ez (x1==95)))
noncomputable def ref03_Kept_k1:Option (Bool):=some false
noncomputable def l6 (x1:List UInt8) (x2:Int):Option ((Int) ⊕ (Flow Unit Bool)):=(if(decide (x2<(([([99,108,97,115,115]:List UInt8),([101,120,116,101,110,100,115]:List UInt8),([115,116,97,116,105,99]:List UInt8),([118,111,105,100]:List UInt8),([105,110,116]:List UInt8),([98,111,111,108,101,97,110]:List UInt8),([105,102]:List UInt8),([101,108,115,101]:List UInt8),([119,104,105,108,101]:List UInt8),([114,101,116,117,114,110]:List UInt8),([112,114,105,110,116]:List UInt8),([116,114,117,101]:List UInt8),([102,97,108,115,101]:List UInt8),([110,117,108,108]:List UInt8),([116,104,105,115]:List UInt8),([110,101,119]:List UInt8)]:List (List UInt8)).length:Int)))=true then(idx ([([99,108,97,115,115]:List UInt8),([101,120,116,101,110,100,115]:List UInt8),([115,116,97,116,105,99]:List UInt8),([118,111,105,100]:List UInt8),([105,110,116]:List UInt8),([98,111,111,108,101,97,110]:List UInt8),([105,102]:List UInt8),([101,108,115,101]:List UInt8),([119,104,105,108,101]:List UInt8),([114,101,116,117,114,110]:List UInt8),([112,114,105,110,116]:List UInt8),([116,114,117,101]:List UInt8),([102,97,108,115,101]:List UInt8),([110,117,108,108]:List UInt8),([116,104,105,115]:List UInt8),([110,101,119]:List UInt8)]:List (List UInt8)) x2).bind fun x5=>(if(x5==x1)=true then some (.inr (.done true))else some (.inl (w64 (x2+1))))else some (.inr (.next ())))
noncomputable def ref03_Kept (x1:List UInt8):Option (Bool):=(iter (fun s=>l6 x1 s) 0).bind fun z=>match z with| .next p=>ref03_Kept_k1| .done r=>some r
noncomputable def ref03_mark_k1:Option (Int):=some 0
noncomputable def ref03_mark_j3 (x11 x14 x15:Int):Option ((Int) ⊕ (Flow Unit Int)):=(if(x14==x15)=true then some (.inr (.done 1))else some (.inl (w64 (x11+1))))
noncomputable def jp (x1:List UInt8) (x2 x11:Int):Option ((Int) ⊕ (Flow Unit Int)):=(if(decide (x11<(([43,45,42,47,37,60,62,61,33,40,41,123,125,59,44,46]:List UInt8).length:Int)))=true then(idxS x1 x2).bind fun x14=>(idxS ([43,45,42,47,37,60,62,61,33,40,41,123,125,59,44,46]:List UInt8) x11).bind fun x15=>ref03_mark_j3 x11 x14 x15 else some (.inr (.next ())))
noncomputable def ref03_mark_k4 (x1:List UInt8) (x2:Int):Option (Int):=(iter (fun s=>jp x1 x2 s) 0).bind fun z=>match z with| .next p=>ref03_mark_k1| .done r=>some r
noncomputable def ref03_mark_j6 (x3:Int) (x8 x9:List UInt8):Option ((Int) ⊕ (Flow Unit Int)):=(if(x8==x9)=true then some (.inr (.done 2))else some (.inl (w64 (x3+1))))
noncomputable def ref03_mark_j7 (x1:List UInt8) (x2 x3:Int) (x6:Bool):Option ((Int) ⊕ (Flow Unit Int)):=(if x6=true then(sub x1 x2 (w64 (x2+2))).bind fun x8=>(idx ([([61,61]:List UInt8),([33,61]:List UInt8),([60,61]:List UInt8),([62,61]:List UInt8),([38,38]:List UInt8),([124,124]:List UInt8)]:List (List UInt8)) x3).bind fun x9=>ref03_mark_j6 x3 x8 x9 else some (.inr (.next ())))
noncomputable def jo (x1:List UInt8) (x2 x3:Int):Option ((Int) ⊕ (Flow Unit Int)):=(if(decide (x3<(([([61,61]:List UInt8),([33,61]:List UInt8),([60,61]:List UInt8),([62,61]:List UInt8),([38,38]:List UInt8),([124,124]:List UInt8)]:List (List UInt8)).length:Int)))=true then ref03_mark_j7 x1 x2 x3 (decide ((w64 (x2+2))<=(x1.length:Int)))else ref03_mark_j7 x1 x2 x3 false)
noncomputable def ref03_mark (x1:List UInt8) (x2:Int):Option (Int):=(iter (fun s=>jo x1 x2 s) 0).bind fun z=>match z with| .next p=>ref03_mark_k4 x1 x2| .done r=>some r
noncomputable def ko (x6:Int) (x18:Bool):Option (Int × Int × Int):=(if x18=true then some (0,0,31)else some (2,x6,0))
noncomputable def ref03_token_k2 (x1:List UInt8) (x2 x6:Int):Option (Int × Int × Int):=(sub x1 x2 (w64 (x2+x6))).bind fun x13=>(ref03_great x13).bind fun x14=>(if x14=true then ko x6 true else(if(decide (x6>1))=true then(idxS x1 x2).bind fun x17=>ko x6 (x17==48)else ko x6 false))
noncomputable def my (x6:Int) (x11:Bool):Option ((Int) ⊕ (Int)):=(if x11=true then some (.inl (w64 (x6+1)))else some (.inr x6))
noncomputable def i8 (x2:Int) (x1:List UInt8) (x6:Int):Option ((Int) ⊕ (Int)):=(if(decide ((w64 (x2+x6))<(x1.length:Int)))=true then(idxS x1 (w64 (x2+x6))).bind fun x9=>(lg x9).bind fun x10=>my x6 x10 else my x6 false)
noncomputable def ref03_token_k5 (x1:List UInt8) (x2 x23:Int):Option (Int × Int × Int):=(if(decide (x23>20))=true then some (0,0,2)else(sub x1 x2 (w64 (x2+x23))).bind fun x34=>(ref03_Kept x34).bind fun x35=>(if x35=true then some (3,x23,0)else some (1,x23,0)))
noncomputable def km (x23:Int) (x31:Bool):Option ((Int) ⊕ (Int)):=(if x31=true then some (.inl (w64 (x23+1)))else some (.inr x23))
noncomputable def i7 (x2:Int) (x1:List UInt8) (x23:Int):Option ((Int) ⊕ (Int)):=(if(decide ((w64 (x2+x23))<(x1.length:Int)))=true then(idxS x1 (w64 (x2+x23))).bind fun x26=>(lj x26).bind fun x27=>(if x27=true then km x23 true else(idxS x1 (w64 (x2+x23))).bind fun x29=>(lg x29).bind fun x30=>km x23 x30)else km x23 false)
noncomputable def ref03_token (x1:List UInt8) (x2:Int):Option (Int × Int × Int):=(idxS x1 x2).bind fun x3=>(lg x3).bind fun x4=>(if x4=true then(iter (fun s=>i8 x2 x1 s) 0).bind fun p=>ref03_token_k2 x1 x2 p else(idxS x1 x2).bind fun x20=>(lj x20).bind fun x21=>(if x21=true then(iter (fun s=>i7 x2 x1 s) 0).bind fun p=>ref03_token_k5 x1 x2 p else(ref03_mark x1 x2).bind fun x37=>(if(x37==0)=true then some (0,0,30)else some (4,x37,0))))
noncomputable def ref03_Lex_j2 (x9 x17:Int) (x22:List ApiToken):Option ((Int × (List ApiToken)) ⊕ ((List ApiToken) × Int × Int)):=some (.inl (w64 (x9+x17),x22))
noncomputable def dq (x1:List UInt8) (x4:Int) (x5:List ApiToken):Option ((Int × (List ApiToken)) ⊕ ((List ApiToken) × Int × Int)):=(ref03_between x1 x4).bind fun(x9,x10)=>(if(!x10)=true then some (.inr ([],x9,32))else(if(x9==(x1.length:Int))=true then(sub x1 x4 (x1.length:Int)).bind fun x13=>(app 48 x5 ([(ApiToken.mk 5 [] x9 x13)]:List ApiToken)).bind fun x14=>some (.inr (x14,0,0))else(ref03_token x1 x9).bind fun(x16,x17,x18)=>(if(x18 != 0)=true then some (.inr ([],x9,x18))else(sub x1 x9 (w64 (x9+x17))).bind fun x20=>(sub x1 x4 x9).bind fun x21=>(app 48 x5 ([(ApiToken.mk x16 x20 x9 x21)]:List ApiToken)).bind fun x22=>ref03_Lex_j2 x9 x17 x22)))
noncomputable def ref03_Lex (x1:List UInt8):Option ((List ApiToken) × Int × Int):=(if(decide ((x1.length:Int)>1048576))=true then some ([],0,2)else iter (fun s=>dq x1 s.1 s.2) (0,[]))
noncomputable def lcs_Numbers_k1 (x5:SMap Int) (x6:List (List Int)):Option ((List (List Int))):=some x6
noncomputable def lcs_Numbers_k3 (x6:List (List Int)) (x4:Int) (x15:SMap Int) (x16:List Int):Option ((Int × (SMap Int) × (List (List Int))) ⊕ ((SMap Int) × (List (List Int)))):=(app 24 x6 ([x16]:List (List Int))).bind fun x28=>some (.inl (w64 (x4+1),x15,x28))
noncomputable def kv (x16:List Int) (x14 x24:Int) (x25:SMap Int):Option ((Int × (SMap Int) × (List Int)) ⊕ ((SMap Int) × (List Int))):=(app 8 x16 ([x24]:List Int)).bind fun x26=>some (.inl (w64 (x14+1),x25,x26))
noncomputable def fv (x12:List (List UInt8)) (x14:Int) (x15:SMap Int) (x16:List Int):Option ((Int × (SMap Int) × (List Int)) ⊕ ((SMap Int) × (List Int))):=(if(decide (x14<(x12.length:Int)))=true then(idx x12 x14).bind fun x22=>(if(!(mhas x22 x15))=true then kv x16 x14 (x15.length:Int) (mset x22 (x15.length:Int) x15)else kv x16 x14 (mget x22 0 x15) x15)else some (.inr (x15,x16)))
noncomputable def gr (x1:List (List (List UInt8))) (x4:Int) (x5:SMap Int) (x6:List (List Int)):Option ((Int × (SMap Int) × (List (List Int))) ⊕ ((SMap Int) × (List (List Int)))):=(if(decide (x4<(x1.length:Int)))=true then(idx x1 x4).bind fun x12=>(iter (fun s=>fv x12 s.1 s.2.1 s.2.2) (0,x5,[])).bind fun p=>lcs_Numbers_k3 x6 x4 p.1 p.2 else some (.inr (x5,x6)))
noncomputable def lcs_Numbers (x1:List (List (List UInt8))):Option ((List (List Int))):=(iter (fun s=>gr x1 s.1 s.2.1 s.2.2) (0,([]:SMap Int),[])).bind fun p=>lcs_Numbers_k1 p.1 p.2
noncomputable def lcs_none_k1 (x5:List Int):Option ((List Int)):=some x5
noncomputable def jm (x1 x4:Int) (x5:List Int):Option ((Int × (List Int)) ⊕ ((List Int))):=(if(decide (x4<x1))=true then(idx x5 x4).bind fun x9=>some (.inl (w64 (x4+1),(List.set x5 (Int.toNat x4) (-1))))else some (.inr x5))
noncomputable def lcs_none (x1:Int):Option ((List Int)):=(mkLen 8 x1).bind fun x2=>(iter (fun s=>jm x1 s.1 s.2) (0,(List.replicate x2 0))).bind fun p=>lcs_none_k1 p
noncomputable def lcs_ends_k1 (x5 x15:Int) (x23:List Int):Option (Int × Int × (List Int)):=some (x5,x15,x23)
noncomputable def lcs_ends_l2 (x15:Int) (x1 x2:List Int) (x22:Int) (x23:List Int):Option ((Int × (List Int)) ⊕ ((List Int))):=(if(decide (x22<x15))=true then(idx x23 (w64 ((w64 ((x1.length:Int) - 1)) - x22))).bind fun x27=>some (.inl (w64 (x22+1),(List.set x23 (Int.toNat (w64 ((w64 ((x1.length:Int) - 1)) - x22))) (w64 ((w64 ((x2.length:Int) - 1)) - x22)))))else some (.inr x23))
noncomputable def lcs_ends_k3 (x1 x2 x6:List Int) (x5 x15:Int):Option (Int × Int × (List Int)):=(iter (fun s=>lcs_ends_l2 x15 x1 x2 s.1 s.2) (0,x6)).bind fun p=>lcs_ends_k1 x5 x15 p
noncomputable def lcs_ends_j5 (x15:Int) (x20:Bool):Option ((Int) ⊕ (Int)):=(if x20=true then some (.inl (w64 (x15+1)))else some (.inr x15))
noncomputable def lcs_ends_l4 (x2 x1:List Int) (x5 x15:Int):Option ((Int) ⊕ (Int)):=(if(decide (x15<(w64 ((if(x2.length:Int)<(x1.length:Int)then(x2.length:Int)else(x1.length:Int)) - x5))))=true then(idx x1 (w64 ((w64 ((x1.length:Int) - 1)) - x15))).bind fun x18=>(idx x2 (w64 ((w64 ((x2.length:Int) - 1)) - x15))).bind fun x19=>lcs_ends_j5 x15 (x18==x19)else lcs_ends_j5 x15 false)
noncomputable def lcs_ends_k6 (x2 x1:List Int) (x5:Int) (x6:List Int):Option (Int × Int × (List Int)):=(iter (fun s=>lcs_ends_l4 x2 x1 x5 s) 0).bind fun p=>lcs_ends_k3 x1 x2 x6 x5 p
noncomputable def lcs_ends_j8 (x6:List Int) (x5:Int) (x12:Bool):Option ((Int × (List Int)) ⊕ (Int × (List Int))):=(if x12=true then(idx x6 x5).bind fun x14=>some (.inl (w64 (x5+1),(List.set x6 (Int.toNat x5) x5)))else some (.inr (x5,x6)))
noncomputable def lcs_ends_l7 (x2 x1:List Int) (x5:Int) (x6:List Int):Option ((Int × (List Int)) ⊕ (Int × (List Int))):=(if(decide (x5<(if(x2.length:Int)<(x1.length:Int)then(x2.length:Int)else(x1.length:Int))))=true then(idx x1 x5).bind fun x10=>(idx x2 x5).bind fun x11=>lcs_ends_j8 x6 x5 (x10==x11)else lcs_ends_j8 x6 x5 false)
noncomputable def lcs_ends (x1 x2 x4:List Int):Option (Int × Int × (List Int)):=(iter (fun s=>lcs_ends_l7 x2 x1 s.1 s.2) (0,x4)).bind fun p=>lcs_ends_k6 x2 x1 p.1 p.2
noncomputable def lcs_Match_k1 (x14:List Int):Option ((List Int)):=some x14
noncomputable def jl (x12 x13:Int) (x14:List Int) (x26 x28:Int):Option ((Int × Int × (List Int)) ⊕ ((List Int))):=(if(decide (x26≥x28))=true then some (.inl (w64 (x12+1),x13,x14))else some (.inl (x12,w64 (x13+1),x14)))
noncomputable def jk (x14:List Int) (x12 x13:Int) (x11:List (List Int)) (x21 x22:Int):Option ((Int × Int × (List Int)) ⊕ ((List Int))):=(if(x21==x22)=true then(idx x14 x12).bind fun x24=>some (.inl (w64 (x12+1),w64 (x13+1),(List.set x14 (Int.toNat x12) x13)))else(idx x11 (w64 (x12+1))).bind fun x25=>(idx x25 x13).bind fun x26=>(idx x11 x12).bind fun x27=>(idx x27 (w64 (x13+1))).bind fun x28=>jl x12 x13 x14 x26 x28)
noncomputable def jj (x1:List Int) (x12:Int) (x2:List Int) (x13:Int) (x14:List Int) (x11:List (List Int)) (x19:Bool):Option ((Int × Int × (List Int)) ⊕ ((List Int))):=(if x19=true then(idx x1 x12).bind fun x21=>(idx x2 x13).bind fun x22=>jk x14 x12 x13 x11 x21 x22 else some (.inr x14))
noncomputable def fy (x1 x2:List Int) (x11:List (List Int)) (x12 x13:Int) (x14:List Int):Option ((Int × Int × (List Int)) ⊕ ((List Int))):=(if(decide (x12<(x1.length:Int)))=true then jj x1 x12 x2 x13 x14 x11 (decide (x13<(x2.length:Int)))else jj x1 x12 x2 x13 x14 x11 false)
noncomputable def oc (x1 x2 x3:List Int) (x6:Bool):Option ((List Int)):=(if x6=true then(lcs_ends x1 x2 x3).bind fun(x8,x9,x10)=>some x10 else(lcs_left x1 x2).bind fun x11=>(iter (fun s=>fy x1 x2 x11 s.1 s.2.1 s.2.2) (0,0,x3)).bind fun p=>lcs_Match_k1 p)
noncomputable def lcs_Match (x1 x2:List Int):Option ((List Int)):=(lcs_none (x1.length:Int)).bind fun x3=>(if(decide ((x1.length:Int)>2000))=true then oc x1 x2 x3 true else oc x1 x2 x3 (decide ((x2.length:Int)>2000)))
noncomputable def jt (x2 x4:Diff3Ends) (x6 x8:List Int) (x9:Int):Option (Int × Diff3Ends × Diff3Ends × (List Int) × (List Int)):=some (x9,x2,x4,x6,x8)
noncomputable def dj (x9:Int) (x17:Bool):Option ((Int) ⊕ (Int)):=(if x17=true then some (.inl (w64 (x9+1)))else some (.inr x9))
noncomputable def c8 (x2 x4:Diff3Ends) (x6 x8:List Int) (x9:Int):Option ((Int) ⊕ (Int)):=(if(decide ((w64 (x2.o+x9))<x4.o))=true then(idx x6 (w64 (x2.o+x9))).bind fun x12=>(if(x12==(w64 (x2.a+x9)))=true then(idx x8 (w64 (x2.o+x9))).bind fun x14=>dj x9 (x14==(w64 (x2.b+x9)))else dj x9 false)else dj x9 false)
noncomputable def j7 (x2 x4:Diff3Ends) (x6 x8:List Int):Option (Int × Diff3Ends × Diff3Ends × (List Int) × (List Int)):=(iter (fun s=>c8 x2 x4 x6 x8 s) 0).bind fun p=>jt x2 x4 x6 x8 p
noncomputable def nz (x4 x2:Diff3Ends) (x6 x8:List Int):Option (Diff3Ends × Diff3Ends × Diff3Ends × (List Int) × (List Int)):=some (x4,x2,x4,x6,x8)
noncomputable def js (x10:Int) (x2 x4:Diff3Ends) (x6 x8:List Int) (x18 x19:Int):Option ((Int) ⊕ (Flow Unit (Diff3Ends × Diff3Ends × Diff3Ends × (List Int) × (List Int)))):=some (.inr (.done ((Diff3Ends.mk x10 x18 x19),x2,x4,x6,x8)))
noncomputable def fo (x6:List Int) (x10:Int) (x8:List Int) (x2 x4:Diff3Ends) (x16:Bool):Option ((Int) ⊕ (Flow Unit (Diff3Ends × Diff3Ends × Diff3Ends × (List Int) × (List Int)))):=(if x16=true then(idx x6 x10).bind fun x18=>(idx x8 x10).bind fun x19=>js x10 x2 x4 x6 x8 x18 x19 else some (.inl (w64 (x10+1))))
noncomputable def c7 (x4:Diff3Ends) (x6 x8:List Int) (x2:Diff3Ends) (x10:Int):Option ((Int) ⊕ (Flow Unit (Diff3Ends × Diff3Ends × Diff3Ends × (List Int) × (List Int)))):=(if(decide (x10<x4.o))=true then(idx x6 x10).bind fun x13=>(if(decide (x13≥0))=true then(idx x8 x10).bind fun x15=>fo x6 x10 x8 x2 x4 (decide (x15≥0))else fo x6 x10 x8 x2 x4 false)else some (.inr (.next ())))
noncomputable def j6 (x2 x4:Diff3Ends) (x6 x8:List Int):Option (Diff3Ends × Diff3Ends × Diff3Ends × (List Int) × (List Int)):=(iter (fun s=>c7 x4 x6 x8 x2 s) x2.o).bind fun z=>match z with| .next p=>nz x4 x2 x6 x8| .done r=>some r
noncomputable def diff3_chunks_1_k1 {σ:Type} (yld:σ->(Diff3Ends × Diff3Ends)->Option (Bool × σ)) (x2 x4 x6:List Int) (x15:σ) (x17 x18:List Int) (x19 x20:Diff3Ends):Option ((List Int) × (List Int) × (List Int) × (σ)):=some (x2,x4,x6,x15)
noncomputable def je {σ:Type} (yld:σ->(Diff3Ends × Diff3Ends)->Option (Bool × σ)) (x15:σ) (x2 x4 x6:List Int) (x40 x35 x36:Diff3Ends) (x37 x38:List Int):Option (((σ) × (List Int) × (List Int) × Diff3Ends × Diff3Ends) ⊕ (Flow ((σ) × (List Int) × (List Int) × Diff3Ends × Diff3Ends) ((List Int) × (List Int) × (List Int) × (σ)))):=(yld x15 (x35,x40)).bind fun(x41,x42)=>(if(!x41)=true then some (.inr (.done (x2,x4,x6,x42)))else some (.inl (x42,x37,x38,x40,x36)))
noncomputable def em {σ:Type} (yld:σ->(Diff3Ends × Diff3Ends)->Option (Bool × σ)) (x2 x4 x6:List Int) (x15:σ) (x17 x18:List Int) (x19 x20:Diff3Ends):Option (((σ) × (List Int) × (List Int) × Diff3Ends × Diff3Ends) ⊕ (Flow ((σ) × (List Int) × (List Int) × Diff3Ends × Diff3Ends) ((List Int) × (List Int) × (List Int) × (σ)))):=(if(!decide (x19=x20))=true then(j6 x19 x20 x17 x18).bind fun(x28,x29,x30,x31,x32)=>(j7 x29 x30 x31 x32).bind fun(x34,x35,x36,x37,x38)=>(if(decide (x34>0))=true then je yld x15 x2 x4 x6 (Diff3Ends.mk (w64 (x35.o+x34)) (w64 (x35.a+x34)) (w64 (x35.b+x34))) x35 x36 x37 x38 else je yld x15 x2 x4 x6 x28 x35 x36 x37 x38)else some (.inr (.next (x15,x17,x18,x19,x20))))
noncomputable def mf {σ:Type} (yld:σ->(Diff3Ends × Diff3Ends)->Option (Bool × σ)) (x2 x4 x6:List Int) (x7:σ) (x9 x10:List Int):Option ((List Int) × (List Int) × (List Int) × (σ)):=(iter (fun s=>em yld x2 x4 x6 s.1 s.2.1 s.2.2.1 s.2.2.2.1 s.2.2.2.2) (x7,x9,x10,(Diff3Ends.mk 0 0 0),(Diff3Ends.mk (x2.length:Int) (x4.length:Int) (x6.length:Int)))).bind fun z=>match z with| .next p=>diff3_chunks_1_k1 yld x2 x4 x6 p.1 p.2.1 p.2.2.1 p.2.2.2.1 p.2.2.2.2| .done r=>some r
noncomputable def md {σ:Type} (yld:σ->(Diff3Ends × Diff3Ends)->Option (Bool × σ)) (x2 x4 x6:List Int) (x7:σ) (x9 x10:List Int):Option ((List Int) × (List Int) × (List Int) × (σ)):=mf yld x2 x4 x6 x7 x9 x10
noncomputable def diff3_chunks_1 {σ:Type} (yld:σ->(Diff3Ends × Diff3Ends)->Option (Bool × σ)) (x2 x4 x6:List Int) (x7:σ):Option ((List Int) × (List Int) × (List Int) × (σ)):=(lcs_Match x2 x4).bind fun x9=>(lcs_Match x2 x6).bind fun x10=>md yld x2 x4 x6 x7 x9 x10
noncomputable def gk:Option (Bool):=some true
noncomputable def e6 (x4 x7 x8:Int):Option ((Int) ⊕ (Flow Unit Bool)):=(if(x7 != x8)=true then some (.inr (.done false))else some (.inl (w64 (x4+1))))
noncomputable def cn (x1 x2:List Int) (x4:Int):Option ((Int) ⊕ (Flow Unit Bool)):=(if(decide (x4<(x1.length:Int)))=true then(idx x1 x4).bind fun x7=>(idx x2 x4).bind fun x8=>e6 x4 x7 x8 else some (.inr (.next ())))
noncomputable def dz (x1 x2:List Int):Option (Bool):=(if((x1.length:Int) != (x2.length:Int))=true then some false else(iter (fun s=>cn x1 x2 s) 0).bind fun z=>match z with| .next p=>gk| .done r=>some r)
noncomputable def diff3_kind_j1 (x4 x5 x14:Bool):Option (Int):=(if x14=true then some 4 else(if(!x4)=true then some 1 else(if(!x5)=true then some 2 else some 0)))
noncomputable def l9 (x4 x5 x11:Bool):Option (Int):=(if x11=true then some 3 else(if(!x4)=true then diff3_kind_j1 x4 x5 (!x5)else diff3_kind_j1 x4 x5 false))
noncomputable def diff3_kind (x1 x2 x3:List Int):Option (Int):=(dz x1 x2).bind fun x4=>(dz x1 x3).bind fun x5=>(if(!x4)=true then(if(!x5)=true then(dz x2 x3).bind fun x8=>l9 x4 x5 x8 else l9 x4 x5 false)else l9 x4 x5 false)
noncomputable def jd (x1 x2 x3:List Int) (x14:List ApiChunk) (x11 x12:Diff3Ends):Option (Bool × ((List ApiChunk))):=(subL x1 x11.o x12.o).bind fun x19=>(subL x2 x11.a x12.a).bind fun x20=>(subL x3 x11.b x12.b).bind fun x21=>(diff3_kind x19 x20 x21).bind fun x22=>(app 56 x14 ([(ApiChunk.mk x22 (ApiSpan.mk x11.o x12.o) (ApiSpan.mk x11.a x12.a) (ApiSpan.mk x11.b x12.b))]:List ApiChunk)).bind fun x23=>some (true,x23)
noncomputable def diff3_Chunks (x1 x2 x3:List Int):Option ((List ApiChunk)):=(diff3_chunks_1 (fun(s:(List ApiChunk)) (a:Diff3Ends × Diff3Ends)=>jd x1 x2 x3 s a.1 a.2) x1 x2 x3 []).bind fun(x25,x26,x27,x28)=>some x28
noncomputable def na (x8:List ApiChunk):Option ((List ApiChunk)):=some x8
noncomputable def nw (x1 x2 x3:List (List UInt8)):Option ((List ApiChunk)):=(lcs_Numbers ([x1,x2,x3]:List (List (List UInt8)))).bind fun x4=>(idx x4 0).bind fun x5=>(idx x4 1).bind fun x6=>(idx x4 2).bind fun x7=>(diff3_Chunks x5 x6 x7).bind fun x8=>na x8
noncomputable def weave_parts_k1 (x7:List ApiPart):Option ((List ApiPart)):=some x7
noncomputable def ke (x6:Int) (x38:List ApiPart) (x12:ApiChunk) (x23:ApiPart):Option ((Int × (List ApiPart)) ⊕ ((List ApiPart))):=some (.inl (w64 (x6+1),x38))
noncomputable def weave_parts_j4 (x6:Int) (x7:List ApiPart) (x31:ApiPart) (x12:ApiChunk) (x23:ApiPart) (x32 x33 x34:List UInt8):Option ((Int × (List ApiPart)) ⊕ ((List ApiPart))):=ke x6 (List.set x7 (Int.toNat (w64 ((x7.length:Int) - 1))) (ApiPart.mk x31.Clash x32 x33 x34)) x12 x23
noncomputable def gm (x7:List ApiPart) (x23:ApiPart) (x6:Int) (x12:ApiChunk) (x29:Bool):Option ((Int × (List ApiPart)) ⊕ ((List ApiPart))):=(if x29=true then(idx x7 (w64 ((x7.length:Int) - 1))).bind fun x31=>(cat x31.O x23.O).bind fun x32=>(cat x31.A x23.A).bind fun x33=>(cat x31.B x23.B).bind fun x34=>weave_parts_j4 x6 x7 x31 x12 x23 x32 x33 x34 else(app 56 x7 ([x23]:List ApiPart)).bind fun x35=>ke x6 x35 x12 x23)
noncomputable def i4 (x7:List ApiPart) (x6:Int) (x12:ApiChunk) (x23:ApiPart):Option ((Int × (List ApiPart)) ⊕ ((List ApiPart))):=(if(!x23.Clash)=true then(if(decide ((x7.length:Int)>0))=true then(idx x7 (w64 ((x7.length:Int) - 1))).bind fun x26=>gm x7 x23 x6 x12 (!x26.Clash)else gm x7 x23 x6 x12 false)else gm x7 x23 x6 x12 false)
noncomputable def weave_parts_j7 (x12:ApiChunk) (x7:List ApiPart) (x6:Int) (x15 x17 x19:List UInt8):Option ((Int × (List ApiPart)) ⊕ ((List ApiPart))):=(if(x12.Kind==4)=true then i4 x7 x6 x12 (ApiPart.mk (x12.Kind==4) x15 x17 x19)else(if(x12.Kind==2)=true then i4 x7 x6 x12 ({(ApiPart.mk (x12.Kind==4) x15 x17 x19)with A:=(ApiPart.mk (x12.Kind==4) x15 x17 x19).B})else i4 x7 x6 x12 ({(ApiPart.mk (x12.Kind==4) x15 x17 x19)with B:=(ApiPart.mk (x12.Kind==4) x15 x17 x19).A})))
noncomputable def gl (x4:List ApiChunk) (x1 x2 x3:List (List UInt8)) (x6:Int) (x7:List ApiPart):Option ((Int × (List ApiPart)) ⊕ ((List ApiPart))):=(if(decide (x6<(x4.length:Int)))=true then(idx x4 x6).bind fun x12=>(subL x1 x12.O.From x12.O.To).bind fun x14=>(strings_Join x14 []).bind fun x15=>(subL x2 x12.A.From x12.A.To).bind fun x16=>(strings_Join x16 []).bind fun x17=>(subL x3 x12.B.From x12.B.To).bind fun x18=>(strings_Join x18 []).bind fun x19=>weave_parts_j7 x12 x7 x6 x15 x17 x19 else some (.inr x7))
noncomputable def np (x1 x2 x3:List (List UInt8)):Option ((List ApiPart)):=(nw x1 x2 x3).bind fun x4=>(iter (fun s=>gl x4 x1 x2 x3 s.1 s.2) (0,[])).bind fun p=>weave_parts_k1 p
noncomputable def weave_apart_k1 (x6:List (List (List UInt8))):Option ((List ApiPart) × Bool):=(ic 3 0).bind fun x15=>(ic 3 1).bind fun x16=>(ic 3 2).bind fun x17=>(np (List.getD x6 x15 []) (List.getD x6 x16 []) (List.getD x6 x17 [])).bind fun x18=>some (x18,true)
noncomputable def dt (x1:(Unit->Option ((List (List UInt8)) × Bool))) (x2:(Unit->Option ((List (List UInt8)) × Bool))) (x3:(Unit->Option ((List (List UInt8)) × Bool))) (x5:Int) (x6:List (List (List UInt8))):Option ((Int × (List (List (List UInt8)))) ⊕ (Flow (List (List (List UInt8))) ((List ApiPart) × Bool))):=(if(decide (x5<(([x1,x2,x3]:List (Unit->Option ((List (List UInt8)) × Bool))).length:Int)))=true then(idx ([x1,x2,x3]:List (Unit->Option ((List (List UInt8)) × Bool))) x5).bind fun x10=>(x10 ()).bind fun(x11,x12)=>(if(!x12)=true then some (.inr (.done ([],false)))else(ic 3 x5).bind fun x14=>some (.inl (w64 (x5+1),(List.set x6 x14 x11))))else some (.inr (.next x6)))
noncomputable def weave_apart (x1:(Unit->Option ((List (List UInt8)) × Bool))) (x2:(Unit->Option ((List (List UInt8)) × Bool))) (x3:(Unit->Option ((List (List UInt8)) × Bool))):Option ((List ApiPart) × Bool):=(iter (fun s=>dt x1 x2 x3 s.1 s.2) (0,(List.replicate 3 []))).bind fun z=>match z with| .next p=>weave_apart_k1 p| .done r=>some r
noncomputable def iy (x8:List (List UInt8)):Option ((List (List UInt8)) × Bool):=some (x8,true)
noncomputable def cq (x2:List ApiToken) (x7:Int) (x8:List (List UInt8)):Option ((Int × (List (List UInt8))) ⊕ ((List (List UInt8)))):=(if(decide (x7<(x2.length:Int)))=true then(idx x2 x7).bind fun x13=>(cat x13.Lead x13.Text).bind fun x15=>(app 16 x8 ([x15]:List (List UInt8))).bind fun x16=>some (.inl (w64 (x7+1),x16))else some (.inr x8))
noncomputable def c6 (x1:List UInt8):Option ((List (List UInt8)) × Bool):=(lex_Lex x1).bind fun(x2,x3,x4)=>(if(x4 != 0)=true then some ([],false)else(iter (fun s=>cq x2 s.1 s.2) (0,[])).bind fun p=>iy p)
noncomputable def weave_Tokens (x1 x2 x3:List UInt8):Option ((List ApiPart) × Bool):=(weave_apart (fun _=>c6 x1) (fun _=>c6 x2) (fun _=>c6 x3)).bind fun(x4,x5)=>some (x4,x5)
noncomputable def weave_Side_k1 (x9:List UInt8):Option ((List UInt8)):=some x9
noncomputable def ip (x1:List ApiPart) (x2 x7:Int) (x9:List UInt8):Option ((Int × (List UInt8)) ⊕ ((List UInt8))):=(if(decide (x7<(x1.length:Int)))=true then(idx x1 x7).bind fun x14=>(idx ([x14.O,x14.A,x14.B]:List (List UInt8)) x2).bind fun x16=>(bcat x9 x16).bind fun x17=>some (.inl (w64 (x7+1),x17))else some (.inr x9))
noncomputable def l0 (x1:List ApiPart) (x2:Int) (x4:Bool):Option ((List UInt8)):=(if x4=true then some []else(iter (fun s=>ip x1 x2 s.1 s.2) (0,[])).bind fun p=>weave_Side_k1 p)
noncomputable def weave_Side (x1:List ApiPart) (x2:Int):Option ((List UInt8)):=(if(decide (x2<0))=true then l0 x1 x2 true else l0 x1 x2 (decide (x2>2)))
noncomputable def weave_Join_k1 (x1:List ApiPart):Option ((List UInt8) × Bool):=(weave_Side x1 1).bind fun x8=>some (x8,true)
noncomputable def gh (x1:List ApiPart) (x2:Int):Option ((Int) ⊕ (Flow Unit ((List UInt8) × Bool))):=(if(decide (x2<(x1.length:Int)))=true then(idx x1 x2).bind fun x5=>(if x5.Clash=true then some (.inr (.done ([],false)))else some (.inl (w64 (x2+1))))else some (.inr (.next ())))
noncomputable def weave_Join (x1:List ApiPart):Option ((List UInt8) × Bool):=(iter (fun s=>gh x1 s) 0).bind fun z=>match z with| .next p=>weave_Join_k1 x1| .done r=>some r
noncomputable def lines_all_1_k1 {σ:Type} (yld:σ->(Int × (List UInt8))->Option (Bool × σ)) (x2:List UInt8) (x6:σ):Option ((List UInt8) × (σ)):=some (x2,x6)
noncomputable def kr {σ:Type} (yld:σ->(Int × (List UInt8))->Option (Bool × σ)) (x2:List UInt8) (x5:Int) (x6:σ) (x15:Int):Option ((Int × (σ)) ⊕ (Flow (σ) ((List UInt8) × (σ)))):=(sub x2 x5 (w64 (x5+x15))).bind fun x16=>(yld x6 (x5,x16)).bind fun(x17,x18)=>(if(!x17)=true then some (.inr (.done (x2,x18)))else some (.inl (w64 (x5+x15),x18)))
noncomputable def ep {σ:Type} (yld:σ->(Int × (List UInt8))->Option (Bool × σ)) (x2:List UInt8) (x5:Int) (x6:σ):Option ((Int × (σ)) ⊕ (Flow (σ) ((List UInt8) × (σ)))):=(if(decide (x5<(x2.length:Int)))=true then(sub x2 x5 (x2.length:Int)).bind fun x12=>(strings_IndexByte x12 10).bind fun x13=>(if((w64 (x13+1))==0)=true then kr yld x2 x5 x6 (w64 ((x2.length:Int) - x5))else kr yld x2 x5 x6 (w64 (x13+1)))else some (.inr (.next x6)))
noncomputable def lines_all_1 {σ:Type} (yld:σ->(Int × (List UInt8))->Option (Bool × σ)) (x2:List UInt8) (x3:σ):Option ((List UInt8) × (σ)):=(iter (fun s=>ep yld x2 s.1 s.2) (0,x3)).bind fun z=>match z with| .next p=>lines_all_1_k1 yld x2 p| .done r=>some r
noncomputable def fu (x7:List (List UInt8)) (x4:Int) (x5:List UInt8):Option (Bool × ((List (List UInt8)))):=(app 16 x7 ([x5]:List (List UInt8))).bind fun x10=>some (true,x10)
noncomputable def lines_Split (x1:List UInt8):Option ((List (List UInt8))):=(lines_all_1 (fun(s:(List (List UInt8))) (a:Int × (List UInt8))=>fu s a.1 a.2) x1 []).bind fun(x12,x13)=>some x13
noncomputable def dc (x1:List UInt8):Option ((List (List UInt8)) × Bool):=(lines_Split x1).bind fun x2=>some (x2,true)
noncomputable def weave_Lines (x1 x2 x3:List UInt8):Option ((List ApiPart)):=(weave_apart (fun _=>dc x1) (fun _=>dc x2) (fun _=>dc x3)).bind fun(x4,x5)=>some x4
noncomputable def lz (x1 x2 x3:List UInt8):Option ((List UInt8) × Bool):=(weave_Lines x1 x2 x3).bind fun x14=>(weave_Join x14).bind fun(x15,x16)=>some (x15,x16)
noncomputable def io (x2 x1 x3:List UInt8) (x6:Bool):Option ((List UInt8) × Bool):=(if x6=true then some (x2,true)else(weave_Tokens x1 x2 x3).bind fun(x8,x9)=>(if x9=true then(weave_Join x8).bind fun(x11,x12)=>(if x12=true then some (x11,true)else lz x1 x2 x3)else lz x1 x2 x3))
noncomputable def weave_Text (x1 x2 x3:List UInt8):Option ((List UInt8) × Bool):=(if(x2==x1)=true then some (x3,true)else(if(x3==x1)=true then io x2 x1 x3 (x3==x1)else io x2 x1 x3 (x2==x3)))
noncomputable def ref08_Units_k1 (x8:List (List UInt8)):Option ((List (List UInt8)) × Bool):=some (x8,true)
noncomputable def kl (x2:List ApiToken) (x7:Int) (x8:List (List UInt8)):Option ((Int × (List (List UInt8))) ⊕ ((List (List UInt8)))):=(if(decide (x7<(x2.length:Int)))=true then(idx x2 x7).bind fun x13=>(idx x2 x7).bind fun x14=>(cat x13.Lead x14.Text).bind fun x15=>(app 16 x8 ([x15]:List (List UInt8))).bind fun x16=>some (.inl (w64 (x7+1),x16))else some (.inr x8))
noncomputable def nt (x1:List UInt8):Option ((List (List UInt8)) × Bool):=(ref03_Lex x1).bind fun(x2,x3,x4)=>(if(x4 != 0)=true then some ([],false)else(iter (fun s=>kl x2 s.1 s.2) (0,[])).bind fun p=>ref08_Units_k1 p)
noncomputable def nh (x6:List (List Int)):Option ((List (List Int))):=some x6
noncomputable def ng (x6:List (List Int)) (x4:Int) (x16:List (List UInt8)) (x17:List Int):Option ((Int × (List (List UInt8)) × (List (List Int))) ⊕ ((List (List Int)))):=(app 24 x6 ([x17]:List (List Int))).bind fun x42=>some (.inl (w64 (x4+1),x16,x42))
noncomputable def jy (x17:List Int) (x25 x15:Int) (x39:List (List UInt8)):Option ((Int × (List (List UInt8)) × (List Int)) ⊕ ((List (List UInt8)) × (List Int))):=(app 8 x17 ([x25]:List Int)).bind fun x40=>some (.inl (w64 (x15+1),x39,x40))
noncomputable def nf (x16:List (List UInt8)) (x1:List (List (List UInt8))) (x4 x15:Int) (x17:List Int) (x25:Int):Option ((Int × (List (List UInt8)) × (List Int)) ⊕ ((List (List UInt8)) × (List Int))):=(if(x25==(x16.length:Int))=true then(idx x1 x4).bind fun x34=>(idx x34 x15).bind fun x35=>(app 16 x16 ([x35]:List (List UInt8))).bind fun x36=>jy x17 x25 x15 x36 else jy x17 x25 x15 x16)
noncomputable def ga (x25:Int) (x31:Bool):Option ((Int) ⊕ (Int)):=(if x31=true then some (.inl (w64 (x25+1)))else some (.inr x25))
noncomputable def dv (x16:List (List UInt8)) (x1:List (List (List UInt8))) (x4 x15 x25:Int):Option ((Int) ⊕ (Int)):=(if(decide (x25<(x16.length:Int)))=true then(idx x16 x25).bind fun x28=>(idx x1 x4).bind fun x29=>(idx x29 x15).bind fun x30=>ga x25 (!(x28==x30))else ga x25 false)
noncomputable def ed (x1:List (List (List UInt8))) (x4 x15:Int) (x16:List (List UInt8)) (x17:List Int):Option ((Int × (List (List UInt8)) × (List Int)) ⊕ ((List (List UInt8)) × (List Int))):=(idx x1 x4).bind fun x23=>(if(decide (x15<(x23.length:Int)))=true then(iter (fun s=>dv x16 x1 x4 x15 s) 0).bind fun p=>nf x16 x1 x4 x15 x17 p else some (.inr (x16,x17)))
noncomputable def fe (x1:List (List (List UInt8))) (x4:Int) (x5:List (List UInt8)) (x6:List (List Int)):Option ((Int × (List (List UInt8)) × (List (List Int))) ⊕ ((List (List Int)))):=(if(decide (x4<(x1.length:Int)))=true then(iter (fun s=>ed x1 x4 s.1 s.2.1 s.2.2) (0,x5,[])).bind fun p=>ng x6 x4 p.1 p.2 else some (.inr x6))
noncomputable def ref05_Numbers (x1:List (List (List UInt8))):Option ((List (List Int))):=(iter (fun s=>fe x1 s.1 s.2.1 s.2.2) (0,[],[])).bind fun p=>nh p
noncomputable def ref05_Match_k1 (x30:List Int):Option ((List Int)):=some x30
noncomputable def mx (x30 x1:List Int) (x29:Int) (x2:List Int) (x40:Bool):Option ((Int × (List Int)) ⊕ ((List Int))):=(if x40=true then(idx x30 (w64 ((w64 ((x1.length:Int) - 1)) - x29))).bind fun x42=>some (.inl (w64 (x29+1),(List.set x30 (Int.toNat (w64 ((w64 ((x1.length:Int) - 1)) - x29))) (w64 ((w64 ((x2.length:Int) - 1)) - x29)))))else some (.inr x30))
noncomputable def ref05_Match_l2 (x1:List Int) (x15:Int) (x2:List Int) (x29:Int) (x30:List Int):Option ((Int × (List Int)) ⊕ ((List Int))):=(if(decide (x29<(w64 ((x1.length:Int) - x15))))=true then(if(decide (x29<(w64 ((x2.length:Int) - x15))))=true then(idx x1 (w64 ((w64 ((x1.length:Int) - 1)) - x29))).bind fun x35=>(idx x2 (w64 ((w64 ((x2.length:Int) - 1)) - x29))).bind fun x36=>mx x30 x1 x29 x2 (x35==x36)else mx x30 x1 x29 x2 false)else mx x30 x1 x29 x2 false)
noncomputable def ref05_Match_k4 (x1 x2:List Int) (x15:Int) (x16:List Int):Option ((List Int)):=(iter (fun s=>ref05_Match_l2 x1 x15 x2 s.1 s.2) (0,x16)).bind fun p=>ref05_Match_k1 p
noncomputable def mw (x16:List Int) (x15:Int) (x26:Bool):Option ((Int × (List Int)) ⊕ (Int × (List Int))):=(if x26=true then(idx x16 x15).bind fun x28=>some (.inl (w64 (x15+1),(List.set x16 (Int.toNat x15) x15)))else some (.inr (x15,x16)))
noncomputable def ref05_Match_l5 (x1 x2:List Int) (x15:Int) (x16:List Int):Option ((Int × (List Int)) ⊕ (Int × (List Int))):=(if(decide (x15<(x1.length:Int)))=true then(if(decide (x15<(x2.length:Int)))=true then(idx x1 x15).bind fun x21=>(idx x2 x15).bind fun x22=>mw x16 x15 (x21==x22)else mw x16 x15 false)else mw x16 x15 false)
noncomputable def ref05_Match_k7 (x46:List Int):Option ((List Int)):=some x46
noncomputable def ref05_Match_j9 (x44 x45:Int) (x46:List Int) (x58 x60:Int):Option ((Int × Int × (List Int)) ⊕ ((List Int))):=(if(decide (x58≥x60))=true then some (.inl (w64 (x44+1),x45,x46))else some (.inl (x44,w64 (x45+1),x46)))
noncomputable def ref05_Match_j10 (x46:List Int) (x44 x45:Int) (x43:List (List Int)) (x53 x54:Int):Option ((Int × Int × (List Int)) ⊕ ((List Int))):=(if(x53==x54)=true then(idx x46 x44).bind fun x56=>some (.inl (w64 (x44+1),w64 (x45+1),(List.set x46 (Int.toNat x44) x45)))else(idx x43 (w64 (x44+1))).bind fun x57=>(idx x57 x45).bind fun x58=>(idx x43 x44).bind fun x59=>(idx x59 (w64 (x45+1))).bind fun x60=>ref05_Match_j9 x44 x45 x46 x58 x60)
noncomputable def ref05_Match_j11 (x1:List Int) (x44:Int) (x2:List Int) (x45:Int) (x46:List Int) (x43:List (List Int)) (x51:Bool):Option ((Int × Int × (List Int)) ⊕ ((List Int))):=(if x51=true then(idx x1 x44).bind fun x53=>(idx x2 x45).bind fun x54=>ref05_Match_j10 x46 x44 x45 x43 x53 x54 else some (.inr x46))
noncomputable def ref05_Match_l8 (x1 x2:List Int) (x43:List (List Int)) (x44 x45:Int) (x46:List Int):Option ((Int × Int × (List Int)) ⊕ ((List Int))):=(if(decide (x44<(x1.length:Int)))=true then ref05_Match_j11 x1 x44 x2 x45 x46 x43 (decide (x45<(x2.length:Int)))else ref05_Match_j11 x1 x44 x2 x45 x46 x43 false)
noncomputable def ln (x1 x2 x5:List Int) (x13:Bool):Option ((List Int)):=(if x13=true then(iter (fun s=>ref05_Match_l5 x1 x2 s.1 s.2) (0,x5)).bind fun p=>ref05_Match_k4 x1 x2 p.1 p.2 else(ref05_table x1 x2).bind fun x43=>(iter (fun s=>ref05_Match_l8 x1 x2 x43 s.1 s.2.1 s.2.2) (0,0,x5)).bind fun p=>ref05_Match_k7 p)
noncomputable def ref05_Match_k13 (x1 x2 x5:List Int):Option ((List Int)):=(if(decide ((x1.length:Int)>2000))=true then ln x1 x2 x5 true else ln x1 x2 x5 (decide ((x2.length:Int)>2000)))
noncomputable def ew (x1:List Int) (x4:Int) (x5:List Int):Option ((Int × (List Int)) ⊕ ((List Int))):=(if(decide (x4<(x1.length:Int)))=true then(app 8 x5 ([(-1)]:List Int)).bind fun x10=>some (.inl (w64 (x4+1),x10))else some (.inr x5))
noncomputable def ref05_Match (x1 x2:List Int):Option ((List Int)):=(iter (fun s=>ew x1 s.1 s.2) (0,[])).bind fun p=>ref05_Match_k13 x1 x2 p
noncomputable def ref05_Same_k1:Option (Bool):=some true
noncomputable def ref05_Same_j3 (x4 x7 x8:Int):Option ((Int) ⊕ (Flow Unit Bool)):=(if(x7 != x8)=true then some (.inr (.done false))else some (.inl (w64 (x4+1))))
noncomputable def ref05_Same_l2 (x1 x2:List Int) (x4:Int):Option ((Int) ⊕ (Flow Unit Bool)):=(if(decide (x4<(x1.length:Int)))=true then(idx x1 x4).bind fun x7=>(idx x2 x4).bind fun x8=>ref05_Same_j3 x4 x7 x8 else some (.inr (.next ())))
noncomputable def ref05_Same (x1 x2:List Int):Option (Bool):=(if((x1.length:Int) != (x2.length:Int))=true then some false else(iter (fun s=>ref05_Same_l2 x1 x2 s) 0).bind fun z=>match z with| .next p=>ref05_Same_k1| .done r=>some r)
noncomputable def ref07_kind_j1 (x4 x5:Bool) (x2 x3:List Int) (x7:Bool):Option (Int):=(if x7=true then some 0 else(if(!(!x4))=true then some 2 else(if(!(!x5))=true then some 1 else(ref05_Same x2 x3).bind fun x11=>(if x11=true then some 3 else some 4))))
noncomputable def ref07_kind (x1 x2 x3:List Int):Option (Int):=(ref05_Same x1 x2).bind fun x4=>(ref05_Same x1 x3).bind fun x5=>(if(!(!x4))=true then ref07_kind_j1 x4 x5 x2 x3 (!(!x5))else ref07_kind_j1 x4 x5 x2 x3 false)
noncomputable def ref07_Chunks_k1 (x10:List ApiChunk):Option ((List ApiChunk)):=some x10
noncomputable def ref07_Chunks_j3 (x43 x44 x45:Int) (x50:List ApiChunk):Option ((Int × Int × Int × (List ApiChunk)) ⊕ ((List ApiChunk))):=some (.inl (x43,x44,x45,x50))
noncomputable def gw (x1:List Int) (x7:Int) (x2:List Int) (x8:Int) (x3:List Int) (x9:Int) (x10:List ApiChunk) (x43 x44 x45:Int):Option ((Int × Int × Int × (List ApiChunk)) ⊕ ((List ApiChunk))):=(subL x1 x7 x43).bind fun x46=>(subL x2 x8 x44).bind fun x47=>(subL x3 x9 x45).bind fun x48=>(ref07_kind x46 x47 x48).bind fun x49=>(app 56 x10 ([(ApiChunk.mk x49 (ApiSpan.mk x7 x43) (ApiSpan.mk x8 x44) (ApiSpan.mk x9 x45))]:List ApiChunk)).bind fun x50=>ref07_Chunks_j3 x43 x44 x45 x50
noncomputable def ref07_Chunks_k5 (x1 x4 x5:List Int) (x7:Int) (x2:List Int) (x8:Int) (x3:List Int) (x9:Int) (x10:List ApiChunk) (x32:Int):Option ((Int × Int × Int × (List ApiChunk)) ⊕ ((List ApiChunk))):=(if(decide (x32<(x1.length:Int)))=true then(idx x4 x32).bind fun x41=>(idx x5 x32).bind fun x42=>gw x1 x7 x2 x8 x3 x9 x10 x32 x41 x42 else gw x1 x7 x2 x8 x3 x9 x10 x32 (x2.length:Int) (x3.length:Int))
noncomputable def f0 (x32:Int) (x38:Bool):Option ((Int) ⊕ (Int)):=(if x38=true then some (.inl (w64 (x32+1)))else some (.inr x32))
noncomputable def eu (x1 x4 x5:List Int) (x32:Int):Option ((Int) ⊕ (Int)):=(if(decide (x32<(x1.length:Int)))=true then(idx x4 x32).bind fun x35=>(if(decide (x35<0))=true then f0 x32 true else(idx x5 x32).bind fun x37=>f0 x32 (decide (x37<0)))else f0 x32 false)
noncomputable def ref07_Chunks_k8 (x1 x4 x5:List Int) (x7:Int) (x2:List Int) (x8:Int) (x3:List Int) (x9:Int) (x10:List ApiChunk) (x21:Int):Option ((Int × Int × Int × (List ApiChunk)) ⊕ ((List ApiChunk))):=(if(x21==0)=true then(iter (fun s=>eu x1 x4 x5 s) (w64 (x7+x21))).bind fun p=>ref07_Chunks_k5 x1 x4 x5 x7 x2 x8 x3 x9 x10 p else gw x1 x7 x2 x8 x3 x9 x10 (w64 (x7+x21)) (w64 (x8+x21)) (w64 (x9+x21)))
noncomputable def ec (x21:Int) (x29:Bool):Option ((Int) ⊕ (Int)):=(if x29=true then some (.inl (w64 (x21+1)))else some (.inr x21))
noncomputable def ea (x7:Int) (x1 x4:List Int) (x8:Int) (x5:List Int) (x9 x21:Int):Option ((Int) ⊕ (Int)):=(if(decide ((w64 (x7+x21))<(x1.length:Int)))=true then(idx x4 (w64 (x7+x21))).bind fun x24=>(if(x24==(w64 (x8+x21)))=true then(idx x5 (w64 (x7+x21))).bind fun x26=>ec x21 (x26==(w64 (x9+x21)))else ec x21 false)else ec x21 false)
noncomputable def fc (x7:Int) (x1 x4:List Int) (x8:Int) (x5:List Int) (x9:Int) (x2 x3:List Int) (x10:List ApiChunk) (x19:Bool):Option ((Int × Int × Int × (List ApiChunk)) ⊕ ((List ApiChunk))):=(if x19=true then(iter (fun s=>ea x7 x1 x4 x8 x5 x9 s) 0).bind fun p=>ref07_Chunks_k8 x1 x4 x5 x7 x2 x8 x3 x9 x10 p else some (.inr x10))
noncomputable def ev (x1 x4 x5 x2 x3:List Int) (x7 x8 x9:Int) (x10:List ApiChunk):Option ((Int × Int × Int × (List ApiChunk)) ⊕ ((List ApiChunk))):=(if(decide (x7<(x1.length:Int)))=true then fc x7 x1 x4 x8 x5 x9 x2 x3 x10 true else(if(decide (x8<(x2.length:Int)))=true then fc x7 x1 x4 x8 x5 x9 x2 x3 x10 true else fc x7 x1 x4 x8 x5 x9 x2 x3 x10 (decide (x9<(x3.length:Int)))))
noncomputable def ref07_Chunks (x1 x2 x3:List Int):Option ((List ApiChunk)):=(ref05_Match x1 x2).bind fun x4=>(ref05_Match x1 x3).bind fun x5=>(iter (fun s=>ev x1 x4 x5 x2 x3 s.1 s.2.1 s.2.2.1 s.2.2.2) (0,0,0,[])).bind fun p=>ref07_Chunks_k1 p
noncomputable def ref07_Parts_j1 (x8:List ApiChunk):Option ((List ApiChunk)):=some x8
noncomputable def ref07_Parts (x1 x2 x3:List (List UInt8)):Option ((List ApiChunk)):=(ref05_Numbers ([x1,x2,x3]:List (List (List UInt8)))).bind fun x4=>(idx x4 0).bind fun x5=>(idx x4 1).bind fun x6=>(idx x4 2).bind fun x7=>(ref07_Chunks x5 x6 x7).bind fun x8=>ref07_Parts_j1 x8
noncomputable def ref01_Join_k1 (x2:List UInt8):Option ((List UInt8)):=some x2
noncomputable def iw (x1:List (List UInt8)) (x2:List UInt8) (x3:Int):Option (((List UInt8) × Int) ⊕ ((List UInt8))):=(if(decide (x3<(x1.length:Int)))=true then(idx x1 x3).bind fun x7=>(cat x2 x7).bind fun x8=>some (.inl (x8,w64 (x3+1)))else some (.inr x2))
noncomputable def ref01_Join (x1:List (List UInt8)):Option ((List UInt8)):=(iter (fun s=>iw x1 s.1 s.2) ([],0)).bind fun p=>ref01_Join_k1 p
noncomputable def ref08_parts_k1 (x7:List ApiPart):Option ((List ApiPart)):=some x7
noncomputable def kj (x6:Int) (x41:ApiPart) (x42:List ApiPart) (x12:ApiChunk):Option ((Int × (List ApiPart)) ⊕ ((List ApiPart))):=some (.inl (w64 (x6+1),x42))
noncomputable def ki (x7:List ApiPart) (x6:Int) (x12:ApiChunk) (x37:ApiPart):Option ((Int × (List ApiPart)) ⊕ ((List ApiPart))):=(app 56 x7 ([x37]:List ApiPart)).bind fun x38=>kj x6 x37 x38 x12
noncomputable def ref08_parts_j5 (x6:Int) (x22:ApiPart) (x7:List ApiPart) (x30:ApiPart) (x29:List UInt8) (x33:ApiPart) (x32:List UInt8) (x12:ApiChunk) (x36:ApiPart) (x35:List UInt8):Option ((Int × (List ApiPart)) ⊕ ((List ApiPart))):=kj x6 ({x22 with B:=x22.A}) (List.set (List.set (List.set x7 (Int.toNat (w64 ((x7.length:Int) - 1))) ({x30 with O:=x29})) (Int.toNat (w64 ((x7.length:Int) - 1))) ({x33 with A:=x32})) (Int.toNat (w64 ((x7.length:Int) - 1))) ({x36 with B:=x35})) x12
noncomputable def ref08_parts_j6 (x7:List ApiPart) (x30:ApiPart) (x29:List UInt8) (x22:ApiPart) (x6:Int) (x12:ApiChunk) (x33:ApiPart) (x32:List UInt8):Option ((Int × (List ApiPart)) ⊕ ((List ApiPart))):=(idx (List.set (List.set x7 (Int.toNat (w64 ((x7.length:Int) - 1))) ({x30 with O:=x29})) (Int.toNat (w64 ((x7.length:Int) - 1))) ({x33 with A:=x32})) (w64 ((x7.length:Int) - 1))).bind fun x34=>(cat x34.B (({x22 with B:=x22.A}).B)).bind fun x35=>(idx (List.set (List.set x7 (Int.toNat (w64 ((x7.length:Int) - 1))) ({x30 with O:=x29})) (Int.toNat (w64 ((x7.length:Int) - 1))) ({x33 with A:=x32})) (w64 ((x7.length:Int) - 1))).bind fun x36=>ref08_parts_j5 x6 x22 x7 x30 x29 x33 x32 x12 x36 x35
noncomputable def ref08_parts_j7 (x7:List ApiPart) (x22:ApiPart) (x6:Int) (x12:ApiChunk) (x30:ApiPart) (x29:List UInt8):Option ((Int × (List ApiPart)) ⊕ ((List ApiPart))):=(idx (List.set x7 (Int.toNat (w64 ((x7.length:Int) - 1))) ({x30 with O:=x29})) (w64 ((x7.length:Int) - 1))).bind fun x31=>(cat x31.A (({x22 with B:=x22.A}).A)).bind fun x32=>(idx (List.set x7 (Int.toNat (w64 ((x7.length:Int) - 1))) ({x30 with O:=x29})) (w64 ((x7.length:Int) - 1))).bind fun x33=>ref08_parts_j6 x7 x30 x29 x22 x6 x12 x33 x32
noncomputable def mv (x7:List ApiPart) (x22:ApiPart) (x6:Int) (x12:ApiChunk) (x26:Bool):Option ((Int × (List ApiPart)) ⊕ ((List ApiPart))):=(if x26=true then(idx x7 (w64 ((x7.length:Int) - 1))).bind fun x28=>(cat x28.O (({x22 with B:=x22.A}).O)).bind fun x29=>(idx x7 (w64 ((x7.length:Int) - 1))).bind fun x30=>ref08_parts_j7 x7 x22 x6 x12 x30 x29 else ki x7 x6 x12 ({x22 with B:=x22.A}))
noncomputable def kh (x7:List ApiPart) (x6:Int) (x12:ApiChunk) (x22:ApiPart):Option ((Int × (List ApiPart)) ⊕ ((List ApiPart))):=(if(!x22.Clash)=true then(if(decide ((x7.length:Int)>0))=true then(idx x7 (w64 ((x7.length:Int) - 1))).bind fun x25=>mv x7 x22 x6 x12 (!x25.Clash)else mv x7 x22 x6 x12 false)else ki x7 x6 x12 x22)
noncomputable def gq (x4:List ApiChunk) (x1 x2 x3:List (List UInt8)) (x6:Int) (x7:List ApiPart):Option ((Int × (List ApiPart)) ⊕ ((List ApiPart))):=(if(decide (x6<(x4.length:Int)))=true then(idx x4 x6).bind fun x12=>(subL x1 x12.O.From x12.O.To).bind fun x15=>(ref01_Join x15).bind fun x16=>(subL x2 x12.A.From x12.A.To).bind fun x17=>(ref01_Join x17).bind fun x18=>(subL x3 x12.B.From x12.B.To).bind fun x19=>(ref01_Join x19).bind fun x20=>(if(x12.Kind==2)=true then kh x7 x6 x12 ({{{{(ApiPart.mk (x12.Kind==4) [] [] [])with O:=x16} with A:=x18} with B:=x20} with A:=({{{(ApiPart.mk (x12.Kind==4) [] [] [])with O:=x16} with A:=x18} with B:=x20}).B})else kh x7 x6 x12 ({{{(ApiPart.mk (x12.Kind==4) [] [] [])with O:=x16} with A:=x18} with B:=x20}))else some (.inr x7))
noncomputable def nr (x1 x2 x3:List (List UInt8)):Option ((List ApiPart)):=(ref07_Parts x1 x2 x3).bind fun x4=>(iter (fun s=>gq x4 x1 x2 x3 s.1 s.2) (0,[])).bind fun p=>ref08_parts_k1 p
noncomputable def jc (x4 x6 x8:List (List UInt8)) (x13:Bool):Option ((List ApiPart) × Bool):=(if x13=true then some ([],false)else(nr x4 x6 x8).bind fun x15=>some (x15,true))
noncomputable def ref08_Tokens (x1 x2 x3:List UInt8):Option ((List ApiPart) × Bool):=(nt x1).bind fun(x4,x5)=>(nt x2).bind fun(x6,x7)=>(nt x3).bind fun(x8,x9)=>(if(!x5)=true then jc x4 x6 x8 true else(if(!x7)=true then jc x4 x6 x8 true else jc x4 x6 x8 (!x9)))
noncomputable def ref08_Join_k1 (x2:List UInt8):Option ((List UInt8) × Bool):=some (x2,true)
noncomputable def gi (x1:List ApiPart) (x2:List UInt8) (x3:Int):Option (((List UInt8) × Int) ⊕ (Flow (List UInt8) ((List UInt8) × Bool))):=(if(decide (x3<(x1.length:Int)))=true then(idx x1 x3).bind fun x7=>(if x7.Clash=true then some (.inr (.done ([],false)))else(idx x1 x3).bind fun x9=>(cat x2 x9.A).bind fun x10=>some (.inl (x10,w64 (x3+1))))else some (.inr (.next x2)))
noncomputable def ref08_Join (x1:List ApiPart):Option ((List UInt8) × Bool):=(iter (fun s=>gi x1 s.1 s.2) ([],0)).bind fun z=>match z with| .next p=>ref08_Join_k1 p| .done r=>some r
noncomputable def m0 (x24:List (List UInt8)):Option ((List (List UInt8))):=some x24
noncomputable def mz (x1:List UInt8) (x3:Int) (x5:List (List UInt8)):Option ((List (List UInt8))):=(if(decide (x3<(x1.length:Int)))=true then(sub x1 x3 (x1.length:Int)).bind fun x20=>(app 16 x5 ([x20]:List (List UInt8))).bind fun x21=>m0 x21 else m0 x5)
noncomputable def kq (x4 x17:Int) (x18:List (List UInt8)):Option ((Int × Int × (List (List UInt8))) ⊕ (Int × (List (List UInt8)))):=some (.inl (x17,w64 (x4+1),x18))
noncomputable def d9 (x1:List UInt8) (x3 x4:Int) (x5:List (List UInt8)):Option ((Int × Int × (List (List UInt8))) ⊕ (Int × (List (List UInt8)))):=(if(decide (x4<(x1.length:Int)))=true then(idxS x1 x4).bind fun x11=>(if(x11==10)=true then(sub x1 x3 (w64 (x4+1))).bind fun x13=>(app 16 x5 ([x13]:List (List UInt8))).bind fun x14=>kq x4 (w64 (x4+1)) x14 else kq x4 x3 x5)else some (.inr (x3,x5)))
noncomputable def nu (x1:List UInt8):Option ((List (List UInt8))):=(iter (fun s=>d9 x1 s.1 s.2.1 s.2.2) (0,0,[])).bind fun p=>mz x1 p.1 p.2
noncomputable def ref08_Lines (x1 x2 x3:List UInt8):Option ((List ApiPart)):=(nu x1).bind fun x4=>(nu x2).bind fun x5=>(nu x3).bind fun x6=>(nr x4 x5 x6).bind fun x7=>some x7
noncomputable def l4 (x1 x2 x3:List UInt8):Option ((List UInt8) × Bool):=(ref08_Lines x1 x2 x3).bind fun x14=>(ref08_Join x14).bind fun(x15,x16)=>some (x15,x16)
noncomputable def iv (x2 x1 x3:List UInt8) (x6:Bool):Option ((List UInt8) × Bool):=(if x6=true then some (x2,true)else(ref08_Tokens x1 x2 x3).bind fun(x8,x9)=>(if x9=true then(ref08_Join x8).bind fun(x11,x12)=>(if x12=true then some (x11,true)else l4 x1 x2 x3)else l4 x1 x2 x3))
noncomputable def ref08_Text (x1 x2 x3:List UInt8):Option ((List UInt8) × Bool):=(if(x2==x1)=true then some (x3,true)else(if(x3==x1)=true then iv x2 x1 x3 true else iv x2 x1 x3 (x2==x3)))
noncomputable def ky (x1 x2 x3:List (List UInt8)) (x14:Bool):Option ((List (List UInt8)) × Int):=(if x14=true then some ((List.replicate 2 []),3)else(ic 2 1).bind fun x16=>(ic 2 1).bind fun x17=>(ic 2 1).bind fun x18=>(weave_Text (List.getD x1 x16 []) (List.getD x2 x17 []) (List.getD x3 x18 [])).bind fun(x19,x20)=>(if(!x20)=true then some ((List.replicate 2 []),1)else(cells_of x19 true).bind fun x22=>some (x22,0)))
noncomputable def cells_three (x1 x2 x3:List (List UInt8)):Option ((List (List UInt8)) × Int):=(if(decide (x2=x3))=true then some (x2,0)else(if(decide (x2=x1))=true then some (x3,0)else(if(decide (x3=x1))=true then some (x2,0)else(ff x2).bind fun x11=>(if(!x11)=true then ky x1 x2 x3 (!x11)else(ff x3).bind fun x13=>ky x1 x2 x3 (!x13)))))
noncomputable def cells_Texts_k1 (x11:List ApiSegment) (x12:List ApiConflict):Option ((List ApiSegment) × (List ApiConflict)):=some (x11,x12)
noncomputable def cells_Texts_j3 (x10:Int) (x34:List ApiSegment) (x27:List ApiConflict) (x20:List (List UInt8)):Option ((Int × (List ApiSegment) × (List ApiConflict)) ⊕ ((List ApiSegment) × (List ApiConflict))):=some (.inl (w64 (x10+1),x34,x27))
noncomputable def cells_Texts_j4 (x20:List (List UInt8)) (x11:List ApiSegment) (x19:List UInt8) (x10:Int) (x27:List ApiConflict):Option ((Int × (List ApiSegment) × (List ApiConflict)) ⊕ ((List ApiSegment) × (List ApiConflict))):=(ff x20).bind fun x28=>(if x28=true then(ic 2 1).bind fun x30=>(app 32 x11 ([(ApiSegment.mk x19 (List.getD x20 x30 []))]:List ApiSegment)).bind fun x31=>cells_Texts_j3 x10 x31 x27 x20 else cells_Texts_j3 x10 x11 x27 x20)
noncomputable def cells_Texts_l2 (x7:List (List UInt8)) (x4 x5 x6:SMap (List (List UInt8))) (x10:Int) (x11:List ApiSegment) (x12:List ApiConflict):Option ((Int × (List ApiSegment) × (List ApiConflict)) ⊕ ((List ApiSegment) × (List ApiConflict))):=(if(decide (x10<(x7.length:Int)))=true then(idx x7 x10).bind fun x19=>(cells_three (mget x19 (List.replicate 2 []) x4) (mget x19 (List.replicate 2 []) x5) (mget x19 (List.replicate 2 []) x6)).bind fun(x20,x21)=>(if(x21 != 0)=true then(app 24 x12 ([(ApiConflict.mk x21 x19)]:List ApiConflict)).bind fun x24=>cells_Texts_j4 x20 x11 x19 x10 x24 else cells_Texts_j4 x20 x11 x19 x10 x12)else some (.inr (x11,x12)))
noncomputable def cells_Texts (x1 x2 x3:List ApiSegment):Option ((List ApiSegment) × (List ApiConflict)):=(cells_table x1).bind fun x4=>(cells_table x2).bind fun x5=>(cells_table x3).bind fun x6=>(cells_keys ([x2,x1,x3]:List (List ApiSegment))).bind fun x7=>(iter (fun s=>cells_Texts_l2 x7 x4 x5 x6 s.1 s.2.1 s.2.2) (0,[],[])).bind fun p=>cells_Texts_k1 p.1 p.2
noncomputable def cells_woven_k1 (x7:List (List UInt8)):Option ((List (List UInt8)) × Bool):=some (x7,true)
noncomputable def kw (x6:Int) (x32:List (List UInt8)) (x12:ApiChunk):Option ((Int × (List (List UInt8))) ⊕ (Flow (List (List UInt8)) ((List (List UInt8)) × Bool))):=some (.inl (w64 (x6+1),x32))
noncomputable def cells_woven_j4 (x12:ApiChunk) (x7:List (List UInt8)) (x6:Int) (x15 x14:List (List UInt8)):Option ((Int × (List (List UInt8))) ⊕ (Flow (List (List UInt8)) ((List (List UInt8)) × Bool))):=(if(x12.Kind==2)=true then(app 16 x7 x15).bind fun x18=>kw x6 x18 x12 else(if(x12.Kind==4)=true then(if(decide (x12.O.From<x12.O.To))=true then some (.inr (.done ([],false)))else(app 16 x7 x14).bind fun x22=>(ji x15).bind fun x24=>(bx (fun a0=>jq a0 x14) x24).bind fun x26=>(app 16 x22 x26).bind fun x27=>kw x6 x27 x12)else(app 16 x7 x14).bind fun x29=>kw x6 x29 x12))
noncomputable def fw (x4:List ApiChunk) (x2 x3:List (List UInt8)) (x6:Int) (x7:List (List UInt8)):Option ((Int × (List (List UInt8))) ⊕ (Flow (List (List UInt8)) ((List (List UInt8)) × Bool))):=(if(decide (x6<(x4.length:Int)))=true then(idx x4 x6).bind fun x12=>(subL x2 x12.A.From x12.A.To).bind fun x14=>(subL x3 x12.B.From x12.B.To).bind fun x15=>cells_woven_j4 x12 x7 x6 x15 x14 else some (.inr (.next x7)))
noncomputable def cells_woven (x1 x2 x3:List (List UInt8)):Option ((List (List UInt8)) × Bool):=(nw x1 x2 x3).bind fun x4=>(iter (fun s=>fw x4 x2 x3 s.1 s.2) (0,[])).bind fun z=>match z with| .next p=>cells_woven_k1 p| .done r=>some r
noncomputable def kz (x17:List (List UInt8)) (x21:Bool):Option ((List (List UInt8)) × Bool):=(if x21=true then some ([],false)else some (x17,true))
noncomputable def nb (x17:List (List UInt8)) (x18:Bool):Option ((List (List UInt8)) × Bool):=(if(!x18)=true then kz x17 true else(kc x17).bind fun x20=>kz x17 ((x20.length:Int) != (x17.length:Int)))
noncomputable def cells_Order_j3 (x7 x8 x9:List (List UInt8)):Option ((List (List UInt8)) × Bool):=(dh x9 x7).bind fun x10=>(if x10=true then some (x8,true)else(dh x8 x7).bind fun x12=>(if x12=true then some (x9,true)else(jr x7 x7 x8 x9).bind fun x14=>(jr x8 x7 x8 x9).bind fun x15=>(jr x9 x7 x8 x9).bind fun x16=>(cells_woven x14 x15 x16).bind fun(x17,x18)=>nb x17 x18))
noncomputable def ny (x1 x2 x3:List (List UInt8)):Option ((List (List UInt8)) × Bool):=(kc x1).bind fun x7=>(kc x2).bind fun x8=>(kc x3).bind fun x9=>cells_Order_j3 x7 x8 x9
noncomputable def f5 (x13:List (List UInt8)):Option ((List (List UInt8))):=some x13
noncomputable def d6 (x1:List (List (List UInt8))) (x12:Int) (x13:List (List UInt8)):Option ((Int × (List (List UInt8))) ⊕ ((List (List UInt8)))):=(if(decide (x12<(x1.length:Int)))=true then(idx x1 x12).bind fun x18=>(app 16 x13 x18).bind fun x19=>some (.inl (w64 (x12+1),x19))else some (.inr x13))
noncomputable def f3 (x1:List (List (List UInt8))) (x2:Int):Option ((List (List UInt8))):=(slices_Grow x2).bind fun x9=>(iter (fun s=>d6 x1 s.1 s.2) (0,x9)).bind fun p=>f5 p
noncomputable def f6 (x2 x3:Int) (x7:List (List UInt8)):Option ((Int × Int) ⊕ (Int)):=some (.inl (w64 (x2+(x7.length:Int)),w64 (x3+1)))
noncomputable def d4 (x1:List (List (List UInt8))) (x2 x3:Int):Option ((Int × Int) ⊕ (Int)):=(if(decide (x3<(x1.length:Int)))=true then(idx x1 x3).bind fun x7=>(if(decide ((w64 (x2+(x7.length:Int)))<0))=true then none else f6 x2 x3 x7)else some (.inr x2))
noncomputable def g7 (x1:List (List (List UInt8))):Option ((List (List UInt8))):=(iter (fun s=>d4 x1 s.1 s.2) (0,0)).bind fun p=>f3 x1 p
noncomputable def cells_Row_k1 (x5:List ApiConflict) (x21:List ApiSegment):Option ((List ApiSegment) × (List ApiConflict)):=some (x21,x5)
noncomputable def cells_Row_j3 (x20:Int) (x34:List ApiSegment) (x26:List UInt8):Option ((Int × (List ApiSegment)) ⊕ ((List ApiSegment))):=some (.inl (w64 (x20+1),x34))
noncomputable def cells_Row_l2 (x18:List (List UInt8)) (x15:SMap (List (List UInt8))) (x20:Int) (x21:List ApiSegment):Option ((Int × (List ApiSegment)) ⊕ ((List ApiSegment))):=(if(decide (x20<(x18.length:Int)))=true then(idx x18 x20).bind fun x26=>(ff (mget x26 (List.replicate 2 []) x15)).bind fun x28=>(if x28=true then(ic 2 1).bind fun x30=>(app 32 x21 ([(ApiSegment.mk x26 (List.getD (mget x26 (List.replicate 2 []) x15) x30 []))]:List ApiSegment)).bind fun x31=>cells_Row_j3 x20 x31 x26 else cells_Row_j3 x20 x21 x26)else some (.inr x21))
noncomputable def cells_Row (x1 x2 x3:List ApiSegment):Option ((List ApiSegment) × (List ApiConflict)):=(cells_Texts x1 x2 x3).bind fun(x4,x5)=>(cells_keys ([x1]:List (List ApiSegment))).bind fun x7=>(cells_keys ([x2]:List (List ApiSegment))).bind fun x8=>(cells_keys ([x3]:List (List ApiSegment))).bind fun x9=>(ny x7 x8 x9).bind fun(x10,x11)=>(if(!x11)=true then(app 24 x5 ([(ApiConflict.mk 2 [])]:List ApiConflict)).bind fun x13=>some (x4,x13)else(cells_table x4).bind fun x15=>(cells_keys ([x4]:List (List ApiSegment))).bind fun x16=>(g7 ([x10,x16]:List (List (List UInt8)))).bind fun x17=>(kc x17).bind fun x18=>(iter (fun s=>cells_Row_l2 x18 x15 s.1 s.2) (0,[])).bind fun p=>cells_Row_k1 x5 p)
noncomputable def cells_Three_j1 (x15:List (List UInt8)) (x16:Int) (x18:Nat) (x19:Bool):Option ((List UInt8) × Bool × Int):=some ((List.getD x15 x18 []),x19,x16)
noncomputable def cells_Three_j2 (x16:Int) (x15:List (List UInt8)):Option ((List UInt8) × Bool × Int):=(ic 2 1).bind fun x18=>(ff x15).bind fun x19=>cells_Three_j1 x15 x16 x18 x19
noncomputable def cells_Three (x1 x2 x3:ApiSegment) (x4:List Bool):Option ((List UInt8) × Bool × Int):=(ic 3 0).bind fun x9=>(cells_of x1.Text (List.getD x4 x9 false)).bind fun x10=>(ic 3 1).bind fun x11=>(cells_of x2.Text (List.getD x4 x11 false)).bind fun x12=>(ic 3 2).bind fun x13=>(cells_of x3.Text (List.getD x4 x13 false)).bind fun x14=>(cells_three x10 x12 x14).bind fun(x15,x16)=>cells_Three_j2 x16 x15
noncomputable def ref01_Same_k1:Option (Bool):=some true
noncomputable def ref01_Same_j3 (x4:Int) (x7 x8:List UInt8):Option ((Int) ⊕ (Flow Unit Bool)):=(if(!(x7==x8))=true then some (.inr (.done false))else some (.inl (w64 (x4+1))))
noncomputable def l7 (x1 x2:List (List UInt8)) (x4:Int):Option ((Int) ⊕ (Flow Unit Bool)):=(if(decide (x4<(x1.length:Int)))=true then(idx x1 x4).bind fun x7=>(idx x2 x4).bind fun x8=>ref01_Same_j3 x4 x7 x8 else some (.inr (.next ())))
noncomputable def ka (x1 x2:List (List UInt8)):Option (Bool):=(if((x1.length:Int) != (x2.length:Int))=true then some false else(iter (fun s=>l7 x1 x2 s) 0).bind fun z=>match z with| .next p=>ref01_Same_k1| .done r=>some r)
noncomputable def law30_row_k1 (x4:List ApiSegment):Option ((List ApiSegment)):=some x4
noncomputable def law30_row_l2 (x1:List (List UInt8)) (x3:Int) (x4:List ApiSegment):Option ((Int × (List ApiSegment)) ⊕ ((List ApiSegment))):=(if(decide (x3<(x1.length:Int)))=true then(idx x1 x3).bind fun x9=>(idx x1 x3).bind fun x10=>(cat x10 ([10]:List UInt8)).bind fun x11=>(app 32 x4 ([(ApiSegment.mk x9 x11)]:List ApiSegment)).bind fun x12=>some (.inl (w64 (x3+1),x12))else some (.inr x4))
noncomputable def law30_row (x1:List (List UInt8)):Option ((List ApiSegment)):=(iter (fun s=>law30_row_l2 x1 s.1 s.2) (0,[])).bind fun p=>law30_row_k1 p
noncomputable def du (x532:Bool):Option (Bool):=some x532
noncomputable def law30_awake:Option (Bool):=(ny ([([102]:List UInt8),([103]:List UInt8)]:List (List UInt8)) ([([102]:List UInt8),([104]:List UInt8),([103]:List UInt8)]:List (List UInt8)) ([([103]:List UInt8)]:List (List UInt8))).bind fun(x1,x2)=>(law30_row ([([102]:List UInt8),([103]:List UInt8)]:List (List UInt8))).bind fun x3=>(law30_row ([([102]:List UInt8),([104]:List UInt8),([103]:List UInt8)]:List (List UInt8))).bind fun x4=>(law30_row ([([103]:List UInt8)]:List (List UInt8))).bind fun x5=>(cells_Row x3 x4 x5).bind fun(x6,x7)=>(law30_row ([([102]:List UInt8)]:List (List UInt8))).bind fun x8=>(law30_row ([([102]:List UInt8)]:List (List UInt8))).bind fun x9=>(cells_Texts x8 x9 []).bind fun(x10,x11)=>(cells_Three (ApiSegment.mk [] ([97]:List UInt8)) (ApiSegment.mk [] ([97]:List UInt8)) (ApiSegment.mk [] ([98]:List UInt8)) ([true,true,true]:List Bool)).bind fun(x13,x14,x15)=>(if x2=true then(ka x1 ([([104]:List UInt8),([103]:List UInt8)]:List (List UInt8))).bind fun x17=>(if x17=true then(if((x6.length:Int)==2)=true then(idx x6 0).bind fun x20=>(if(x20.Key==([104]:List UInt8))=true then(if((x7.length:Int)==0)=true then(if((x10.length:Int)==0)=true then(if((x11.length:Int)==0)=true then(if(x13==([98]:List UInt8))=true then(if x14=true then du (x15==0)else du false)else du false)else du false)else du false)else du false)else du false)else du false)else du false)else du false)
noncomputable def mo (x8 x10 x12:List UInt8) (x23:Bool):Option ((List UInt8) × Bool × Int):=(if x23=true then some ([],false,3)else(ref08_Text x8 x10 x12).bind fun(x25,x26)=>(if(!x26)=true then some ([],false,1)else some (x25,true,0)))
noncomputable def i6 (x10:List UInt8) (x5:Bool) (x8 x12:List UInt8) (x6 x20:Bool):Option ((List UInt8) × Bool × Int):=(if x20=true then some (x10,x5,0)else(if(!x5)=true then mo x8 x10 x12 true else mo x8 x10 x12 (!x6)))
noncomputable def gp (x12:List UInt8) (x6 x4:Bool) (x10:List UInt8) (x5:Bool) (x8:List UInt8) (x17:Bool):Option ((List UInt8) × Bool × Int):=(if x17=true then some (x12,x6,0)else(if(x6==x4)=true then i6 x10 x5 x8 x12 x6 (x12==x8)else i6 x10 x5 x8 x12 x6 false))
noncomputable def gn (x10:List UInt8) (x5 x4:Bool) (x12:List UInt8) (x6:Bool) (x8:List UInt8) (x14:Bool):Option ((List UInt8) × Bool × Int):=(if x14=true then some (x10,x5,0)else(if(x5==x4)=true then gp x12 x6 x4 x10 x5 x8 (x10==x8)else gp x12 x6 x4 x10 x5 x8 false))
noncomputable def i5 (x5 x6:Bool) (x10:List UInt8) (x4:Bool) (x8 x12:List UInt8):Option ((List UInt8) × Bool × Int):=(if(x5==x6)=true then gn x10 x5 x4 x12 x6 x8 (x10==x12)else gn x10 x5 x4 x12 x6 x8 false)
noncomputable def ref30_Three_j6 (x6 x5 x4:Bool) (x8 x3 x10:List UInt8):Option ((List UInt8) × Bool × Int):=(if(!x6)=true then i5 x5 x6 x10 x4 x8 []else i5 x5 x6 x10 x4 x8 x3)
noncomputable def ref30_Three_j7 (x5 x6 x4:Bool) (x3 x2 x8:List UInt8):Option ((List UInt8) × Bool × Int):=(if(!x5)=true then ref30_Three_j6 x6 x5 x4 x8 x3 []else ref30_Three_j6 x6 x5 x4 x8 x3 x2)
noncomputable def ref30_Three (x1 x2 x3:List UInt8) (x4 x5 x6:Bool):Option ((List UInt8) × Bool × Int):=(if(!x4)=true then ref30_Three_j7 x5 x6 x4 x3 x2 []else ref30_Three_j7 x5 x6 x4 x3 x2 x1)
noncomputable def ref30_has_k1:Option (Bool):=some false
noncomputable def il (x1:List (List UInt8)) (x2:List UInt8) (x3:Int):Option ((Int) ⊕ (Flow Unit Bool)):=(if(decide (x3<(x1.length:Int)))=true then(idx x1 x3).bind fun x6=>(if(x6==x2)=true then some (.inr (.done true))else some (.inl (w64 (x3+1))))else some (.inr (.next ())))
noncomputable def ref30_has (x1:List (List UInt8)) (x2:List UInt8):Option (Bool):=(iter (fun s=>il x1 x2 s) 0).bind fun z=>match z with| .next p=>ref30_has_k1| .done r=>some r
noncomputable def ref30_once_k1 (x4:List (List UInt8)):Option ((List (List UInt8))):=some x4
noncomputable def ref30_once_j3 (x3:Int) (x16:List (List UInt8)):Option ((Int × (List (List UInt8))) ⊕ ((List (List UInt8)))):=some (.inl (w64 (x3+1),x16))
noncomputable def ir (x1:List (List UInt8)) (x3:Int) (x4:List (List UInt8)):Option ((Int × (List (List UInt8))) ⊕ ((List (List UInt8)))):=(if(decide (x3<(x1.length:Int)))=true then(idx x1 x3).bind fun x9=>(ref30_has x4 x9).bind fun x10=>(if(!x10)=true then(idx x1 x3).bind fun x12=>(app 16 x4 ([x12]:List (List UInt8))).bind fun x13=>ref30_once_j3 x3 x13 else ref30_once_j3 x3 x4)else some (.inr x4))
noncomputable def ob (x1:List (List UInt8)):Option ((List (List UInt8))):=(iter (fun s=>ir x1 s.1 s.2) (0,[])).bind fun p=>ref30_once_k1 p
noncomputable def ref30_kept_k1 (x7:List (List UInt8)):Option ((List (List UInt8))):=some x7
noncomputable def ref30_kept_j3 (x6:Int) (x26:List (List UInt8)):Option ((Int × (List (List UInt8))) ⊕ ((List (List UInt8)))):=some (.inl (w64 (x6+1),x26))
noncomputable def jn (x1:List (List UInt8)) (x6:Int) (x7:List (List UInt8)) (x20:Bool):Option ((Int × (List (List UInt8))) ⊕ ((List (List UInt8)))):=(if x20=true then(idx x1 x6).bind fun x22=>(app 16 x7 ([x22]:List (List UInt8))).bind fun x23=>ref30_kept_j3 x6 x23 else ref30_kept_j3 x6 x7)
noncomputable def iu (x1 x2 x3 x4:List (List UInt8)) (x6:Int) (x7:List (List UInt8)):Option ((Int × (List (List UInt8))) ⊕ ((List (List UInt8)))):=(if(decide (x6<(x1.length:Int)))=true then(idx x1 x6).bind fun x12=>(ref30_has x2 x12).bind fun x13=>(idx x1 x6).bind fun x14=>(ref30_has x3 x14).bind fun x15=>(idx x1 x6).bind fun x16=>(ref30_has x4 x16).bind fun x17=>(if(!x13)=true then jn x1 x6 x7 true else(if x15=true then jn x1 x6 x7 x17 else jn x1 x6 x7 false))else some (.inr x7))
noncomputable def ref30_kept (x1 x2 x3 x4:List (List UInt8)):Option ((List (List UInt8))):=(iter (fun s=>iu x1 x2 x3 x4 s.1 s.2) (0,[])).bind fun p=>ref30_kept_k1 p
noncomputable def ne (x5:List (List UInt8)):Option ((List (List UInt8))):=some x5
noncomputable def jx (x4:Int) (x17:List (List UInt8)):Option ((Int × (List (List UInt8))) ⊕ ((List (List UInt8)))):=some (.inl (w64 (x4+1),x17))
noncomputable def e8 (x1 x2:List (List UInt8)) (x4:Int) (x5:List (List UInt8)):Option ((Int × (List (List UInt8))) ⊕ ((List (List UInt8)))):=(if(decide (x4<(x1.length:Int)))=true then(idx x1 x4).bind fun x10=>(ref30_has x2 x10).bind fun x11=>(if(!x11)=true then(idx x1 x4).bind fun x13=>(app 16 x5 ([x13]:List (List UInt8))).bind fun x14=>jx x4 x14 else jx x4 x5)else some (.inr x5))
noncomputable def ref30_without (x1 x2:List (List UInt8)):Option ((List (List UInt8))):=(iter (fun s=>e8 x1 x2 s.1 s.2) (0,[])).bind fun p=>ne p
noncomputable def ref30_Order_k1 (x20:List (List UInt8)):Option ((List (List UInt8)) × Bool):=(ob x20).bind fun x50=>(if((x50.length:Int) != (x20.length:Int))=true then some ([],false)else some (x20,true))
noncomputable def mu (x19:Int) (x49:List (List UInt8)) (x25:ApiChunk):Option ((Int × (List (List UInt8))) ⊕ (Flow (List (List UInt8)) ((List (List UInt8)) × Bool))):=some (.inl (w64 (x19+1),x49))
noncomputable def mt (x25:ApiChunk) (x16 x15:List (List UInt8)) (x19:Int) (x41:List (List UInt8)):Option ((Int × (List (List UInt8))) ⊕ (Flow (List (List UInt8)) ((List (List UInt8)) × Bool))):=(if(x25.Kind==4)=true then(subL x16 x25.B.From x25.B.To).bind fun x43=>(subL x15 x25.A.From x25.A.To).bind fun x44=>(ref30_without x43 x44).bind fun x45=>(app 16 x41 x45).bind fun x46=>mu x19 x46 x25 else mu x19 x41 x25)
noncomputable def mr (x25:ApiChunk) (x16 x15:List (List UInt8)) (x19:Int) (x35:List (List UInt8)):Option ((Int × (List (List UInt8))) ⊕ (Flow (List (List UInt8)) ((List (List UInt8)) × Bool))):=(if(x25.Kind==2)=true then(subL x16 x25.B.From x25.B.To).bind fun x37=>(app 16 x35 x37).bind fun x38=>mt x25 x16 x15 x19 x38 else mt x25 x16 x15 x19 x35)
noncomputable def mq (x25:ApiChunk) (x15 x20 x16:List (List UInt8)) (x19:Int) (x28:Bool):Option ((Int × (List (List UInt8))) ⊕ (Flow (List (List UInt8)) ((List (List UInt8)) × Bool))):=(if x28=true then some (.inr (.done ([],false)))else(if(x25.Kind != 2)=true then(subL x15 x25.A.From x25.A.To).bind fun x31=>(app 16 x20 x31).bind fun x32=>mr x25 x16 x15 x19 x32 else mr x25 x16 x15 x19 x20))
noncomputable def eo (x17:List ApiChunk) (x15 x16:List (List UInt8)) (x19:Int) (x20:List (List UInt8)):Option ((Int × (List (List UInt8))) ⊕ (Flow (List (List UInt8)) ((List (List UInt8)) × Bool))):=(if(decide (x19<(x17.length:Int)))=true then(idx x17 x19).bind fun x25=>(if(x25.Kind==4)=true then mq x25 x15 x20 x16 x19 (decide (x25.O.From<x25.O.To))else mq x25 x15 x20 x16 x19 false)else some (.inr (.next x20)))
noncomputable def ref30_Order (x1 x2 x3:List (List UInt8)):Option ((List (List UInt8)) × Bool):=(ob x1).bind fun x4=>(ob x2).bind fun x6=>(ob x3).bind fun x8=>(ka x8 x4).bind fun x10=>(if x10=true then some (x6,true)else(ka x6 x4).bind fun x12=>(if x12=true then some (x8,true)else(ref30_kept x4 x4 x6 x8).bind fun x14=>(ref30_kept x6 x4 x6 x8).bind fun x15=>(ref30_kept x8 x4 x6 x8).bind fun x16=>(ref07_Parts x14 x15 x16).bind fun x17=>(iter (fun s=>eo x17 x15 x16 s.1 s.2) (0,[])).bind fun z=>match z with| .next p=>ref30_Order_k1 p| .done r=>some r))
noncomputable def dr (x61:Bool):Option (Bool):=some x61
noncomputable def gx (x1:List (List UInt8)) (x2:List Bool) (x3:List (List (List UInt8))):Option (Bool):=(ic 3 0).bind fun x17=>(ic 3 1).bind fun x18=>(ic 3 2).bind fun x19=>(cells_Three (ApiSegment.mk [] (List.getD x1 x17 [])) (ApiSegment.mk [] (List.getD x1 x18 [])) (ApiSegment.mk [] (List.getD x1 x19 [])) x2).bind fun(x20,x21,x22)=>(ic 3 0).bind fun x23=>(ic 3 1).bind fun x24=>(ic 3 2).bind fun x25=>(ic 3 0).bind fun x26=>(ic 3 1).bind fun x27=>(ic 3 2).bind fun x28=>(ref30_Three (List.getD x1 x23 []) (List.getD x1 x24 []) (List.getD x1 x25 []) (List.getD x2 x26 false) (List.getD x2 x27 false) (List.getD x2 x28 false)).bind fun(x29,x30,x31)=>(ic 3 0).bind fun x32=>(ic 3 1).bind fun x33=>(ic 3 2).bind fun x34=>(ny (List.getD x3 x32 []) (List.getD x3 x33 []) (List.getD x3 x34 [])).bind fun(x35,x36)=>(ic 3 0).bind fun x37=>(ic 3 1).bind fun x38=>(ic 3 2).bind fun x39=>(ref30_Order (List.getD x3 x37 []) (List.getD x3 x38 []) (List.getD x3 x39 [])).bind fun(x40,x41)=>(if(x20==x29)=true then(if(x21==x30)=true then(if(x22==x31)=true then(ka x35 x40).bind fun x45=>(if x45=true then dr (x36==x41)else dr false)else dr false)else dr false)else dr false)
noncomputable def gy (x9:Int) (x15:Bool):Option ((Int) ⊕ (Flow Unit Bool)):=(if x15=true then some (.inr (.done true))else some (.inl (w64 (x9+1))))
noncomputable def ct (x1:List (List UInt8)) (x3:List (List (List UInt8))) (x9:Int):Option ((Int) ⊕ (Flow Unit Bool)):=(if(decide (x9<3))=true then(ic 3 x9).bind fun x12=>(if(decide (((List.getD x1 x12 []).length:Int)>300))=true then gy x9 true else(ic 3 x9).bind fun x14=>gy x9 (decide (((List.getD x3 x14 []).length:Int)>30)))else some (.inr (.next ())))
noncomputable def nj (x1:List (List UInt8)) (x2:List Bool) (x3:List (List (List UInt8))):Option (Bool):=(law30_awake).bind fun x7=>(if(!x7)=true then some false else(iter (fun s=>ct x1 x3 s) 0).bind fun z=>match z with| .next p=>gx x1 x2 x3| .done r=>some r)
end Go.Proofs.YtphkaogfinjbjaaGreatDoor
