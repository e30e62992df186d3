/- The law of parts. -/
import Derived.Test.YtphkaogfinjbjaaGreatDoorZL
import Derived.Test.YtphkaogfinjbjaaGreatDoorZT
set_option linter.unusedSimpArgs false
set_option linter.unusedVariables false
set_option linter.unusedSectionVars false
set_option linter.unusedSectionVars false
set_option linter.unusedSimpArgs false
set_option linter.unusedVariables false
namespace Go.Cn
def foldE {α β ω:Type} (g:β->α->β ⊕ ω):List α->β->β ⊕ ω
 | [],b=> .inl b
 |x::l,b=>match g b x with
  | .inl b'=>foldE g l b'
  | .inr w=> .inr w
theorem iter_foldE {α β ω σ ω':Type} (l:List α) (mk:Nat->β->σ) {step:σ->Option (σ ⊕ ω')} (g:β->α->β ⊕ ω) (fin:β->ω') (ex:ω->ω') (Inv:Nat->β->Prop)
  (hs:∀i (h:i<l.length) b,Inv i b->match g b l[i]with| .inl b'=>step (mk i b)=some (.inl (mk (i+1) b'))/\Inv (i+1) b'| .inr w=>step (mk i b)=some (.inr (ex w)))
  (he:∀b,Inv l.length b->step (mk l.length b)=some (.inr (fin b))) {b0:β} (h0:Inv 0 b0):
  iter step (mk 0 b0)=some (match foldE g l b0 with| .inl b=>fin b| .inr w=>ex w):=by
 have key:∀k i b,i+k=l.length->Inv i b->iter step (mk i b)=some (match foldE g (l.drop i) b with| .inl b=>fin b| .inr w=>ex w):=by
  intro k
  induction k with
  |zero=>
   intro i b hi hb
   obtain rfl:i=l.length:=by omega
   rw[List.drop_length]
   exact @bu noG _ _ _ _ _ (he b hb)
  |succ k ih=>
   intro i b hi hb
   have hil:i<l.length:=by omega
   have h1:=hs i hil b hb
   rw[List.drop_eq_getElem_cons hil]
   unfold foldE
   cases hg:g b l[i]with
   |inl b'=>
    rw[hg]at h1
    rw[@c9 noG _ _ _ _ _ h1.1]
    exact ih (i+1) b' (by omega) h1.2
   |inr w=>
    rw[hg]at h1
    exact @bu noG _ _ _ _ _ h1
 have:=key l.length 0 b0 (by omega) h0
 simpa using this
theorem ij {α β σ ω':Type} (l:List α) (mk:Nat->β->σ) {step:σ->Option (σ ⊕ ω')} (g:β->α->β) (fin:β->ω') (Inv:Nat->β->Prop)
  (hs:∀i (h:i<l.length) b,Inv i b->step (mk i b)=some (.inl (mk (i+1) (g b l[i])))/\Inv (i+1) (g b l[i]))
  (he:∀b,Inv l.length b->step (mk l.length b)=some (.inr (fin b))) {b0:β} (h0:Inv 0 b0):
  iter step (mk 0 b0)=some (fin (l.foldl g b0))/\Inv l.length (l.foldl g b0):=by
 have key:∀k i b,i+k=l.length->Inv i b->iter step (mk i b)=some (fin ((l.drop i).foldl g b))/\Inv l.length ((l.drop i).foldl g b):=by
  intro k
  induction k with
  |zero=>
   intro i b hi hb
   obtain rfl:i=l.length:=by omega
   rw[List.drop_length]
   exact⟨@bu noG _ _ _ _ _ (he b hb),hb⟩
  |succ k ih=>
   intro i b hi hb
   have hil:i<l.length:=by omega
   have h1:=hs i hil b hb
   rw[List.drop_eq_getElem_cons hil,List.foldl_cons, @c9 noG _ _ _ _ _ h1.1]
   exact ih (i+1) _ (by omega) h1.2
 have:=key l.length 0 b0 (by omega) h0
 simpa using this
theorem bt {i:Nat} (h:i<4611686018427387904):w64 ((i:Int)+1)=((i+1:Nat):Int):=by rw[eh (by omega) (by omega)];omega
theorem cat_eq {a b:List UInt8} (h:a.length+b.length<=9223372036854775807):cat a b=some (a++b):=by
 unfold cat
 rw[if_pos (by first|exact h|omega)]
theorem bcat_eq {a b:List UInt8} (h:a.length+b.length<=140737488355328):bcat a b=some (a++b):=by
 unfold bcat
 rw[if_pos h]
theorem g9 {α:Type} {n:Nat} {l m:List α} (h:(l.length+m.length) * n<=140737488355328) (h2:l.length+m.length<=140737488355328):app n l m=some (l++m):=by
 unfold app
 rw[if_pos (by first|exact⟨h,h2⟩|exact h|omega)]
theorem subL_nat {α:Type} {l:List α} {i j:Nat} (h:i<=j) (h2:j<=l.length):subL l i j=some ((l.take j).drop i):=by
 unfold subL
 rw[if_pos (by omega)]
 simp
end Go.Cn
set_option linter.unusedSectionVars false
set_option linter.unusedSimpArgs false
set_option linter.unusedVariables false
namespace Go.Proofs.YtphkaogfinjbjaaGreatDoor
open Go Go.Cn
theorem flat_take_succ {α β:Type} (f:α->List β) {l:List α} {i:Nat} (h:i<l.length):((l.take (i+1)).map f).flatten=((l.take i).map f).flatten++f l[i]:=by
 rw[List.take_succ_eq_append_getElem h,List.map_append,List.flatten_append]
 simp only[List.map_cons,List.map_nil,List.flatten_cons,List.flatten_nil,List.append_nil]
theorem flat_take_le {α β:Type} (f:α->List β) (l:List α) (i:Nat):((l.take i).map f).flatten.length<=(l.map f).flatten.length:=by
 have h2:(l.map f).flatten=((l.take i).map f).flatten++((l.drop i).map f).flatten:=by rw[← List.flatten_append,← List.map_append,List.take_append_drop]
 rw[h2,List.length_append];omega
theorem flat_bound {α β:Type} (f:α->List β) {l:List α} {i:Nat} (h:i<l.length):((l.take i).map f).flatten.length+(f l[i]).length<=(l.map f).flatten.length:=by
 have:=flat_take_le f l (i+1)
 rw[flat_take_succ f h,List.length_append]at this
 exact this
def selS (side:Int) (p:ApiPart):List UInt8:=if side=0 then p.O else if side=1 then p.A else if side=2 then p.B else[]
def sideM (l:List ApiPart) (side:Int):List UInt8:=(l.map (selS side)).flatten
def Fits (l:List ApiPart):Prop:=l.length<=1000000000/\∀side,(sideM l side).length<=1000000000
theorem iter_flat {β σ ω' α:Type} (f:α->List β) (l:List α) (mk:Nat->List β->σ) {step:σ->Option (σ ⊕ ω')} (fin:List β->ω')
  (hs:∀i (h:i<l.length) b,b.length+(f l[i]).length<=(l.map f).flatten.length->step (mk i b)=some (.inl (mk (i+1) (b++f l[i]))))
  (he:∀b,step (mk l.length b)=some (.inr (fin b))):iter step (mk 0 [])=some (fin (l.map f).flatten):=by
 have:=ij l mk (step:=step) (fun b x=>b++f x) fin (fun i b=>b=((l.take i).map f).flatten) (fun i h b hb=>by
  subst hb
  exact⟨hs i h _ (flat_bound f h),(flat_take_succ f h).symm⟩) (fun b _=>he b) (b0:=[]) (by simp)
 obtain⟨h1,h2⟩:=this
 rw[h1,h2]
 simp
theorem weave_Side_eq {l:List ApiPart} (hf:Fits l) (side:Int):weave_Side l side=some (sideM l side):=by
 have hbad:side<0\/2<side->sideM l side=[]:=fun h=>by
  unfold sideM
  have:∀p:ApiPart,selS side p=[]:=fun p=>by unfold selS;rw[if_neg (by omega),if_neg (by omega),if_neg (by omega)]
  rw[List.flatten_eq_nil_iff]
  intro x hx
  obtain⟨p,_,rfl⟩:=List.mem_map.1 hx
  exact this p
 unfold weave_Side
 by_cases h1:side<0
 ·rw[if_pos (by simpa using h1)];unfold l0;rw[if_pos rfl,hbad (.inl h1)]
 ·rw[if_neg (by simpa using h1)]
  unfold l0
  by_cases h2:side>2
  ·rw[if_pos (by simpa using h2),hbad (.inr h2)]
  ·rw[if_neg (by simpa using h2)]
   have hsel:∀p:ApiPart,idx ([p.O,p.A,p.B]:List (List UInt8)) side=some (selS side p):=fun p=>by
    have:side=0\/side=1\/side=2:=by omega
    rcases this with rfl|rfl|rfl<;>rfl
   have hb:=hf.2 side
   have:=iter_flat (selS side) l (fun i b=>((i:Int),b)) (step:=fun s=>ip l side s.1 s.2) (fun b=>b) (fun i h b hbb=>by
    unfold ip
    simp only[bv h,hsel,Option.bind_some]
    rw[if_pos (by simp;omega)]
    rw[bcat_eq (by unfold sideM at hb;omega)]
    simp only[Option.bind_some]
    rw[bt (by have:=hf.1;omega)]) (fun b=>by
    unfold ip
    rw[if_neg (by simp)])
   have this:iter (fun s=>ip l side s.1 s.2) (0,[])=some (sideM l side):=this
   rw[this]
   rfl
def joinM (l:List ApiPart):List UInt8 × Bool:=if l.any (·.Clash)then([],false)else(sideM l 1,true)
theorem weave_Join_eq {l:List ApiPart} (hf:Fits l):weave_Join l=some (joinM l):=by
 unfold weave_Join
 have h1:=iter_foldE l (fun i (_:Unit)=>(i:Int)) (step:=fun s=>gh l s) (fun _ p=>if p.Clash then .inr ([],false)else .inl ()) (fun _=>Flow.next ()) (fun w=>Flow.done w) (fun _ _=>True) (fun i h b _=>by
  cases hc:l[i].Clash with
  |true=>
   simp only[if_true]
   unfold gh
   simp only[bv h,Option.bind_some,hc,if_true]
   rw[if_pos (by simp;omega)]
  |false=>
   simp only[if_false,Bool.false_eq_true]
   refine⟨?_,trivial⟩
   unfold gh
   simp only[bv h,Option.bind_some,hc,if_false,Bool.false_eq_true]
   rw[if_pos (by simp;omega),bt (by have:=hf.1;omega)]) (fun b _=>by
  unfold gh
  rw[if_neg (by simp)]) (b0:=()) trivial
 have h1:iter (fun s=>gh l s) 0=_:=h1
 rw[h1]
 have h2:∀l:List ApiPart,foldE (fun(_:Unit) (p:ApiPart)=>if p.Clash then(.inr ([],false):Unit ⊕ (List UInt8 × Bool))else .inl ()) l ()=if l.any (·.Clash)then .inr ([],false)else .inl ():=by
  intro l
  induction l with
  |nil=>rfl
  |cons p l ih=>
   unfold foldE
   cases hc:p.Clash with
   |true=>simp[hc]
   |false=>simp only[if_false,Bool.false_eq_true];rw[ih];simp[hc]
 rw[h2]
 unfold joinM
 cases l.any (·.Clash)with
 |true=>rfl
 |false=>
  simp only[if_false,Bool.false_eq_true,Option.bind_some]
  unfold weave_Join_k1
  rw[weave_Side_eq hf]
  rfl
theorem ref08_Join_eq {l:List ApiPart} (hf:Fits l):ref08_Join l=some (joinM l):=by
 unfold ref08_Join
 have hb:=hf.2 1
 unfold sideM at hb
 have hA:∀p:ApiPart,selS 1 p=p.A:=fun p=>rfl
 have h1:=iter_foldE l (fun i (b:List UInt8)=>(b,(i:Int))) (step:=fun s=>gi l s.1 s.2) (fun b p=>if p.Clash then .inr ([],false)else .inl (b++p.A)) (fun b=>Flow.next b) (fun w=>Flow.done w) (fun i b=>b=((l.take i).map (selS 1)).flatten) (fun i h b hbb=>by
  subst hbb
  have hbd:=flat_bound (selS 1) h
  cases hc:l[i].Clash with
  |true=>
   simp only[if_true]
   unfold gi
   simp only[bv h,Option.bind_some,hc,if_true]
   rw[if_pos (by simp;omega)]
  |false=>
   simp only[if_false,Bool.false_eq_true]
   refine⟨?_,(flat_take_succ (selS 1) h).symm⟩
   unfold gi
   simp only[bv h,Option.bind_some,hc,if_false,Bool.false_eq_true]
   rw[if_pos (by simp;omega),cat_eq (by rw[hA]at hbd;omega)]
   simp only[Option.bind_some]
   rw[bt (by have:=hf.1;omega)]) (fun b _=>by
  unfold gi
  rw[if_neg (by simp)]) (b0:=[]) (by simp)
 have h1:iter (fun s=>gi l s.1 s.2) ([],0)=_:=h1
 rw[h1]
 have h2:∀(l:List ApiPart) (b:List UInt8),foldE (fun(b:List UInt8) (p:ApiPart)=>if p.Clash then(.inr ([],false):List UInt8 ⊕ (List UInt8 × Bool))else .inl (b++p.A)) l b=if l.any (·.Clash)then .inr ([],false)else .inl (b++(l.map (selS 1)).flatten):=by
  intro l
  induction l with
  |nil=>intro b;simp[foldE]
  |cons p l ih=>
   intro b
   unfold foldE
   cases hc:p.Clash with
   |true=>simp[hc]
   |false=>simp only[if_false,Bool.false_eq_true];rw[ih];simp[hc,hA]
 rw[h2]
 unfold joinM sideM
 cases l.any (·.Clash)with
 |true=>rfl
 |false=>simp[ref08_Join_k1]
end Go.Proofs.YtphkaogfinjbjaaGreatDoor
set_option linter.unusedSectionVars false
set_option linter.unusedSimpArgs false
set_option linter.unusedVariables false
set_option maxRecDepth 100000
namespace Go.Proofs.YtphkaogfinjbjaaGreatDoor
open Go Go.Cn
end Go.Proofs.YtphkaogfinjbjaaGreatDoor
set_option linter.unusedSectionVars false
set_option linter.unusedSimpArgs false
set_option linter.unusedVariables false
namespace Go.Proofs.YtphkaogfinjbjaaGreatDoor
open Go Go.Cn
def dy :List UInt8->Nat
 | []=>0
 |c::s=>if c=10 then 1 else dy s+1
theorem lineLen_le :∀s,dy s<=s.length
 | []=>Nat.le_refl _
 |c::s=>by unfold dy;have:=lineLen_le s;split<;>simp<;>omega
theorem lineLen_pos {s:List UInt8} (h:s≠[]):0<dy s:=by
 cases s with
 |nil=>exact absurd rfl h
 |cons c s=>unfold dy;split<;>omega
def splitF :Nat->List UInt8->List (List UInt8)
 | 0,_=>[]
 |n+1,s=>if s=[]then[]else s.take (dy s)::splitF n (s.drop (dy s))
def fp (s:List UInt8):List (List UInt8):=splitF s.length s
theorem splitF_mono :∀(n m:Nat) (s:List UInt8),s.length<=n->s.length<=m->splitF n s=splitF m s
 | 0,0,_,_,_=>rfl
 | 0,m+1,s,h,_=>by have:s=[]:=List.eq_nil_of_length_eq_zero (by omega);simp[splitF,this]
 |n+1,0,s,_,h=>by have:s=[]:=List.eq_nil_of_length_eq_zero (by omega);simp[splitF,this]
 |n+1,m+1,s,h1,h2=>by
  unfold splitF
  by_cases hs:s=[]
  ·simp[hs]
  ·have:=lineLen_pos hs
   rw[if_neg hs,if_neg hs,splitF_mono n m _ (by simp;omega) (by simp;omega)]
theorem splitL_nil :fp []=[]:=rfl
theorem splitL_cons {s:List UInt8} (hs:s≠[]):fp s=s.take (dy s)::fp (s.drop (dy s)):=by
 have hp:=lineLen_pos hs
 have hl:=lineLen_le s
 have hlen:0<s.length:=by omega
 unfold fp
 obtain⟨n,hn⟩:∃n,s.length=n+1:=⟨s.length - 1,by omega⟩
 rw[hn]
 conv=>lhs;unfold splitF
 rw[if_neg hs,splitF_mono n (s.drop (dy s)).length _ (by simp;omega) (Nat.le_refl _)]
theorem split_ind {P:List UInt8->Prop} (h0:P []) (h1:∀s,s≠[]->P (s.drop (dy s))->P s):∀s,P s:=by
 have key:∀n s,s.length<=n->P s:=by
  intro n
  induction n with
  |zero=>intro s hs;have:s=[]:=List.eq_nil_of_length_eq_zero (by omega);exact this▸h0
  |succ n ih=>
   intro s hs
   by_cases h:s=[]
   ·exact h▸h0
   ·have:=lineLen_pos h;exact h1 s h (ih _ (by simp;omega))
 exact fun s=>key s.length s (Nat.le_refl _)
theorem splitL_flat :∀s,(fp s).flatten=s:=split_ind rfl fun s hs ih=>by
 rw[splitL_cons hs,List.flatten_cons,ih,List.take_append_drop]
theorem splitL_len :∀s,(fp s).length<=s.length:=split_ind (Nat.le_refl _) fun s hs ih=>by
 have:=lineLen_pos hs
 have:=lineLen_le s
 rw[splitL_cons hs,List.length_cons]
 simp at ih
 omega
theorem indexByte_line :∀s:List UInt8,Lib.indexByte s 10= -1/\dy s=s.length\/Lib.indexByte s 10=(dy s:Int) - 1/\0<dy s
 | []=> .inl ⟨rfl,rfl⟩
 |c::s=>by
  unfold Lib.indexByte dy
  by_cases hc:c=10
  ·subst hc;right;simp
  ·rw[if_neg (by simpa using hc),if_neg hc]
   rcases indexByte_line s with⟨h1,h2⟩|⟨h1,h2⟩
   ·left;rw[h1];simp[h2]
   ·right
    have hne:Lib.indexByte s 10≠ -1:=by omega
    rw[if_neg (by simpa using hne),h1]
    omega
theorem lines_Split_eq {x:List UInt8} (hx:x.length<=1000000000):lines_Split x=some (fp x):=by
 have key:∀n (pos:Nat) (acc:List (List UInt8)),x.length - pos<=n->pos<=x.length->acc.length<=pos->
   iter (fun s:Int × List (List UInt8)=>ep (fun(s:(List (List UInt8))) (a:Int × (List UInt8))=>fu s a.1 a.2) x s.1 s.2) ((pos:Int),acc)=some (.next (acc++fp (x.drop pos))):=by
  intro n
  induction n with
  |zero=>
   intro pos acc h1 h2 h3
   have hp:pos=x.length:=by omega
   subst hp
   refine @bu noG _ _ _ _ _ ?_
   unfold ep
   rw[if_neg (by simp),List.drop_length,splitL_nil,List.append_nil]
  |succ n ih=>
   intro pos acc h1 h2 h3
   by_cases hp:pos=x.length
   ·subst hp
    refine @bu noG _ _ _ _ _ ?_
    unfold ep
    rw[if_neg (by simp),List.drop_length,splitL_nil,List.append_nil]
   ·have hlt:pos<x.length:=by omega
    have hs:x.drop pos≠[]:=fun h=>by have:=congrArg List.length h;simp at this;omega
    have hl1:=lineLen_pos hs
    have hl2:=lineLen_le (x.drop pos)
    simp only[List.length_drop]at hl2
    have hstep:ep (fun(s:(List (List UInt8))) (a:Int × (List UInt8))=>fu s a.1 a.2) x (pos:Int) acc=some (.inl (((pos+dy (x.drop pos):Nat):Int),acc++[(x.drop pos).take (dy (x.drop pos))])):=by
     have hsub:sub x (pos:Int) ((x.length:Nat):Int)=some (x.drop pos):=by rw[sub_nat (by omega) (Nat.le_refl _),List.take_length]
     have hj:kr (fun(s:(List (List UInt8))) (a:Int × (List UInt8))=>fu s a.1 a.2) x (pos:Int) acc (dy (x.drop pos):Int)=some (.inl (((pos+dy (x.drop pos):Nat):Int),acc++[(x.drop pos).take (dy (x.drop pos))])):=by
      unfold kr
      have hw:w64 ((pos:Int)+(dy (x.drop pos):Int))=((pos+dy (x.drop pos):Nat):Int):=by rw[eh (by omega) (by omega)];omega
      rw[hw,sub_nat (by omega) (by omega)]
      have e1:((x.take (pos+dy (x.drop pos))).drop pos)=(x.drop pos).take (dy (x.drop pos)):=by rw[List.drop_take];congr 1;omega
      rw[e1]
      simp only[Option.bind_some]
      unfold fu
      rw[g9 (by simp;omega) (by simp;omega)]
      simp
     unfold ep
     rw[if_pos (by simp;omega),hsub]
     simp only[Option.bind_some]
     have hi:strings_IndexByte (x.drop pos) 10=some (Lib.indexByte (x.drop pos) 10):=rfl
     rw[hi]
     simp only[Option.bind_some]
     rcases indexByte_line (x.drop pos)with⟨g1,g2⟩|⟨g1,g2⟩
     ·rw[g1]
      rw[if_pos (by rfl)]
      have hw:w64 ((x.length:Int) - (pos:Int))=(dy (x.drop pos):Int):=by rw[eh (by omega) (by omega),g2,List.length_drop];omega
      rw[hw];exact hj
     ·rw[g1]
      have hw:w64 ((dy (x.drop pos):Int) - 1+1)=(dy (x.drop pos):Int):=by rw[eh (by omega) (by omega)];omega
      rw[hw,if_neg (by simp;omega)]
      exact hj
    rw[@c9 noG _ _ _ _ _ hstep,ih _ _ (by omega) (by omega) (by simp;omega),splitL_cons hs,List.drop_drop]
    simp
 unfold lines_Split lines_all_1
 have:=key x.length 0 [] (by omega) (by omega) (by simp)
 simp only[List.drop_zero,List.nil_append]at this
 have this:iter (fun s:Int × List (List UInt8)=>ep (fun(s:(List (List UInt8))) (a:Int × (List UInt8))=>fu s a.1 a.2) x s.1 s.2) (0,[])=_:=this
 rw[this]
 rfl
def Inner (u:List UInt8):Prop:=(10:UInt8) ∉ u
theorem lineLen_end :∀(u s:List UInt8),Inner u->dy (u++10::s)=u.length+1
 | [],s,_=>by simp[dy]
 |c::u,s,h=>by
  have h1:c≠10:=fun e=>h (by simp[e])
  have h2:Inner u:=fun e=>h (by simp[e])
  simp only[List.cons_append,dy,if_neg h1,lineLen_end u s h2,List.length_cons]
end Go.Proofs.YtphkaogfinjbjaaGreatDoor
set_option linter.unusedSectionVars false
set_option linter.unusedSimpArgs false
set_option linter.unusedVariables false
namespace Go.Proofs.YtphkaogfinjbjaaGreatDoor
open Go Go.Cn
def tabF :Nat->List (List UInt8)->SMap Int
 |_,[]=>[]
 |n,k::ks=>(k,(n:Int))::tabF (n+1) ks
theorem tabF_len :∀(n:Nat) (ks:List (List UInt8)),(tabF n ks).length=ks.length
 |_,[]=>rfl
 |n,_::ks=>by simp[tabF,tabF_len (n+1) ks]
theorem tabF_has (s:List UInt8):∀(n:Nat) (ks:List (List UInt8)),mhas s (tabF n ks)=decide (s∈ks)
 |_,[]=>by simp[tabF,mhas]
 |n,k::ks=>by
  simp only[tabF,mhas]
  by_cases h:k=s
  ·simp[h]
  ·rw[if_neg h,tabF_has s (n+1) ks];simp[Ne.symm h]
theorem tabF_get (s:List UInt8):∀(n:Nat) (ks:List (List UInt8)),s∈ks->mget s 0 (tabF n ks)=((n+ks.idxOf s:Nat):Int)
 |_,[],h=>by cases h
 |n,k::ks,h=>by
  simp only[tabF,mget]
  by_cases hk:k=s
  ·subst hk;simp
  ·rw[if_neg hk,tabF_get s (n+1) ks (by simpa [Ne.symm hk] using h),List.idxOf_cons]
   have:(k==s)=false:=by simpa using hk
   rw[this];simp;omega
theorem tabF_set (s:List UInt8):∀(n:Nat) (ks:List (List UInt8)),s ∉ ks->mset s ((n+ks.length:Nat):Int) (tabF n ks)=tabF n (ks++[s])
 |n,[],_=>by simp[tabF,mset]
 |n,k::ks,h=>by
  simp only[tabF,mset,List.cons_append]
  rw[if_neg (by intro e;exact h (by simp[e])),← tabF_set s (n+1) ks (fun e=>h (by simp[e]))]
  simp only[List.length_cons,show n+1+ks.length=n+(ks.length+1)by omega]
def addK (ks:List (List UInt8)) (s:List UInt8):List (List UInt8):=if s∈ks then ks else ks++[s]
theorem addK_mem (ks:List (List UInt8)) (s:List UInt8):s∈addK ks s:=by unfold addK;split<;>simp_all
theorem addK_pre (ks:List (List UInt8)) (s:List UInt8):ks <+: addK ks s:=by unfold addK;split;exact List.prefix_refl _;exact List.prefix_append ..
theorem addK_len (ks:List (List UInt8)) (s:List UInt8):(addK ks s).length<=ks.length+1:=by unfold addK;split<;>simp
theorem addKs_pre :∀(row ks:List (List UInt8)),ks <+: row.foldl addK ks
 | [],ks=>List.prefix_refl _
 |s::row,ks=>(addK_pre ks s).trans (addKs_pre row (addK ks s))
theorem addKs_mem :∀(row ks:List (List UInt8)) (s:List UInt8),s∈row->s∈row.foldl addK ks
 |t::row,ks,s,h=>by
  rcases List.mem_cons.1 h with rfl|h
  ·exact(addKs_pre row (addK ks s)).subset (addK_mem ks s)
  ·exact addKs_mem row _ s h
theorem idxOf_pre {ks l:List (List UInt8)} (h:ks <+: l) {s:List UInt8} (hs:s∈ks):l.idxOf s=ks.idxOf s:=by
 obtain⟨t,rfl⟩:=h
 rw[List.idxOf_append,if_pos hs]
def numG (st:List (List UInt8) × List Int) (s:List UInt8):List (List UInt8) × List Int:=(addK st.1 s,st.2++[((addK st.1 s).idxOf s:Int)])
theorem numG_fold :∀(row ks:List (List UInt8)) (out:List Int),row.foldl numG (ks,out)=(row.foldl addK ks,out++row.map fun s=>((row.foldl addK ks).idxOf s:Int))
 | [],ks,out=>by simp
 |s::row,ks,out=>by
  rw[List.foldl_cons]
  unfold numG
  simp only
  rw[show(fun st s=>(addK st.1 s,st.2++[((addK st.1 s).idxOf s:Int)]))=numG from rfl,numG_fold row (addK ks s)]
  simp only[List.foldl_cons,List.map_cons,Prod.mk.injEq,true_and]
  rw[idxOf_pre (addKs_pre row (addK ks s)) (addK_mem ks s)]
  simp
theorem addKs_len :∀(row ks:List (List UInt8)),(row.foldl addK ks).length<=ks.length+row.length
 | [],ks=>by simp
 |s::row,ks=>by
  have:=addKs_len row (addK ks s)
  have:=addK_len ks s
  simp only[List.foldl_cons,List.length_cons]
  omega
theorem numRow_eq {row ks:List (List UInt8)} (h:ks.length+row.length<=1000000000000):iter (fun s:Int × SMap Int × List Int=>fv row s.1 s.2.1 s.2.2) (0,tabF 0 ks,[])=some (tabF 0 (row.foldl addK ks),row.map fun s=>((row.foldl addK ks).idxOf s:Int)):=by
 have:=ij row (fun i (b:List (List UInt8) × List Int)=>((i:Int),tabF 0 b.1,b.2)) (step:=fun s=>fv row s.1 s.2.1 s.2.2) numG (fun b=>(tabF 0 b.1,b.2)) (fun i b=>b.1.length<=ks.length+i/\b.2.length<=i) (fun i hi b hb=>by
  have hl:=addK_len b.1 row[i]
  refine⟨?_,by unfold numG;simp only[List.length_append,List.length_cons,List.length_nil];omega⟩
  unfold fv
  rw[if_pos (by simp;omega),bv hi]
  simp only[Option.bind_some,tabF_has,tabF_len]
  unfold numG addK
  by_cases hm:row[i]∈b.1
  ·simp only[hm,decide_true,Bool.not_true,Bool.false_eq_true,if_false,if_true]
   rw[tabF_get _ _ _ hm]
   unfold kv
   rw[g9 (by simp;omega) (by simp;omega)]
   simp only[Option.bind_some]
   rw[bt (by omega),Nat.zero_add]
  ·simp only[hm,decide_false,Bool.not_false,if_true,if_false]
   have h1:=tabF_set row[i] 0 b.1 hm
   rw[Nat.zero_add]at h1
   rw[h1]
   unfold kv
   rw[g9 (by simp;omega) (by simp;omega)]
   simp only[Option.bind_some]
   rw[bt (by omega),List.idxOf_append,if_neg hm]
   simp) (fun b _=>by
  unfold fv
  rw[if_neg (by simp)]) (b0:=(ks,[])) (by simp)
 have h1:iter (fun s:Int × SMap Int × List Int=>fv row s.1 s.2.1 s.2.2) (0,tabF 0 ks,[])=some (tabF 0 (row.foldl numG (ks,[])).1,(row.foldl numG (ks,[])).2):=this.1
 rw[h1,numG_fold]
 simp
def numsG (st:List (List UInt8) × List (List Int)) (row:List (List UInt8)):List (List UInt8) × List (List Int):=(row.foldl addK st.1,st.2++[row.map fun s=>((row.foldl addK st.1).idxOf s:Int)])
theorem numsG_fold :∀(rows:List (List (List UInt8))) (ks:List (List UInt8)) (out:List (List Int)),rows.foldl numsG (ks,out)=(rows.flatten.foldl addK ks,out++rows.map fun row=>row.map fun s=>((rows.flatten.foldl addK ks).idxOf s:Int))
 | [],ks,out=>by simp
 |row::rows,ks,out=>by
  rw[List.foldl_cons]
  have h1:numsG (ks,out) row=(row.foldl addK ks,out++[row.map fun s=>((row.foldl addK ks).idxOf s:Int)]):=rfl
  rw[h1,numsG_fold rows]
  simp only[List.flatten_cons,List.foldl_append,List.map_cons,Prod.mk.injEq,true_and]
  have:(row.map fun s=>(((rows.flatten.foldl addK (row.foldl addK ks)).idxOf s:Nat):Int))=row.map fun s=>(((row.foldl addK ks).idxOf s:Nat):Int):=by
   refine List.map_congr_left fun s hs=> ?_
   rw[idxOf_pre (addKs_pre _ _) (addKs_mem row ks s hs)]
  rw[this]
  simp
def keysOf (rows:List (List (List UInt8))):List (List UInt8):=rows.flatten.foldl addK []
def mg (rows:List (List (List UInt8))) (s:List UInt8):Int:=((keysOf rows).idxOf s:Int)
theorem lcs_Numbers_eq {rows:List (List (List UInt8))} (h1:rows.length<=1000000) (h2:rows.flatten.length<=1000000000):lcs_Numbers rows=some (rows.map fun r=>r.map (mg rows)):=by
 unfold lcs_Numbers
 have:=ij rows (fun i (b:List (List UInt8) × List (List Int))=>((i:Int),tabF 0 b.1,b.2)) (step:=fun s=>gr rows s.1 s.2.1 s.2.2) numsG (fun b=>(tabF 0 b.1,b.2)) (fun i b=>b.1.length<=(rows.take i).flatten.length/\b.2.length<=i) (fun i hi b hb=>by
  have hfl:(rows.take (i+1)).flatten=(rows.take i).flatten++rows[i]:=by rw[List.take_succ_eq_append_getElem hi,List.flatten_append];simp
  have hle:(rows.take (i+1)).flatten.length<=rows.flatten.length:=by
   have:rows.flatten=(rows.take (i+1)).flatten++(rows.drop (i+1)).flatten:=by rw[← List.flatten_append,List.take_append_drop]
   rw[this,List.length_append];omega
  rw[hfl,List.length_append]at hle
  have hl:=addKs_len rows[i] b.1
  refine⟨?_,by rw[hfl,List.length_append];unfold numsG;simp only[List.length_append,List.length_cons,List.length_nil];omega⟩
  unfold gr
  rw[if_pos (by simp;omega),bv hi]
  simp only[Option.bind_some]
  rw[numRow_eq (by omega)]
  simp only[Option.bind_some]
  unfold lcs_Numbers_k3
  rw[g9 (by simp;omega) (by simp;omega)]
  simp only[Option.bind_some]
  rw[bt (by omega)]
  rfl) (fun b _=>by
  unfold gr
  rw[if_neg (by simp)]) (b0:=([],[])) (by simp)
 have h3:iter (fun s:Int × SMap Int × List (List Int)=>gr rows s.1 s.2.1 s.2.2) (0,([]:SMap Int),[])=some (tabF 0 (rows.foldl numsG ([],[])).1,(rows.foldl numsG ([],[])).2):=this.1
 rw[h3,numsG_fold]
 simp[lcs_Numbers_k1,mg,keysOf]
theorem numOf_inj {rows:List (List (List UInt8))} {s t:List UInt8} (hs:s∈rows.flatten) (h:mg rows s=mg rows t):s=t:=by
 unfold mg at h
 have h':(keysOf rows).idxOf s=(keysOf rows).idxOf t:=by exact_mod_cast h
 have hm:s∈keysOf rows:=addKs_mem _ _ _ hs
 have h1:=List.idxOf_lt_length_of_mem hm
 have e1:(keysOf rows)[(keysOf rows).idxOf s]? =some s:=by rw[List.getElem?_eq_getElem h1,List.getElem_idxOf]
 have h2:(keysOf rows).idxOf t<(keysOf rows).length:=h'▸h1
 have e2:(keysOf rows)[(keysOf rows).idxOf t]? =some t:=by rw[List.getElem?_eq_getElem h2,List.getElem_idxOf]
 rw[h',e2]at e1
 exact(Option.some.inj e1).symm
end Go.Proofs.YtphkaogfinjbjaaGreatDoor
set_option linter.unusedSectionVars false
set_option linter.unusedSimpArgs false
set_option linter.unusedVariables false
namespace Go.Proofs.YtphkaogfinjbjaaGreatDoor
open Go Go.Cn
section
variable {α:Type} [DecidableEq α]
def lc :List α->List α->Nat
 | [],_=>0
 |_::_,[]=>0
 |x::a,y::b=>if x=y then lc a b+1 else max (lc a (y::b)) (lc (x::a) b)
termination_by a b=>a.length+b.length
theorem lc_nil (b:List α):lc [] b=0:=by unfold lc;rfl
theorem lc_nil' (a:List α):lc a []=0:=by cases a with|nil=>exact lc_nil _|cons x a=>unfold lc;rfl
theorem lc_cons (x y:α) (a b:List α):lc (x::a) (y::b)=if x=y then lc a b+1 else max (lc a (y::b)) (lc (x::a) b):=by conv=>lhs;unfold lc
theorem lc_le (a b:List α):lc a b<=a.length/\lc a b<=b.length:=by
 have key:∀n (a b:List α),a.length+b.length<=n->lc a b<=a.length/\lc a b<=b.length:=by
  intro n
  induction n with
  |zero=>intro a b h;have:a=[]:=List.eq_nil_of_length_eq_zero (by omega);subst this;rw[lc_nil];simp
  |succ n ih=>
   intro a b h
   cases a with
   |nil=>rw[lc_nil];simp
   |cons x a=>
    cases b with
    |nil=>rw[lc_nil'];simp
    |cons y b=>
     simp only[List.length_cons]at h ⊢
     have h1:=ih a b (by omega)
     have h2:=ih a (y::b) (by simp;omega)
     have h3:=ih (x::a) b (by simp;omega)
     simp only[List.length_cons]at h2 h3
     rw[lc_cons]
     split
     ·omega
     ·omega
 exact key _ a b (Nat.le_refl _)
def mtS :List α->List α->Int->List Int
 | [],_,_=>[]
 |x::a,[],_=>List.replicate (a.length+1) (-1)
 |x::a,y::b,k=>if x=y then k::mtS a b (k+1)else if lc (x::a) b<=lc a (y::b)then -1::mtS a (y::b) k else mtS (x::a) b (k+1)
termination_by a b=>a.length+b.length
theorem mtS_nil (b:List α) (k:Int):mtS [] b k=[]:=by unfold mtS;rfl
theorem mtS_nil' (a:List α) (k:Int):mtS a [] k=List.replicate a.length (-1):=by cases a with|nil=>rw[mtS_nil];rfl|cons x a=>unfold mtS;rfl
theorem mtS_cons (x y:α) (a b:List α) (k:Int):mtS (x::a) (y::b) k=if x=y then k::mtS a b (k+1)else if lc (x::a) b<=lc a (y::b)then -1::mtS a (y::b) k else mtS (x::a) b (k+1):=by conv=>lhs;unfold mtS
theorem both_ind {P:List α->List α->Prop} (h1:∀b,P [] b) (h2:∀x a,P (x::a) []) (h3:∀x a y b,P a b->P a (y::b)->P (x::a) b->P (x::a) (y::b)):∀a b,P a b:=by
 have key:∀n (a b:List α),a.length+b.length<=n->P a b:=by
  intro n
  induction n with
  |zero=>intro a b h;have:a=[]:=List.eq_nil_of_length_eq_zero (by omega);subst this;exact h1 b
  |succ n ih=>
   intro a b h
   cases a with
   |nil=>exact h1 b
   |cons x a=>
    cases b with
    |nil=>exact h2 x a
    |cons y b=>exact h3 x a y b (ih a b (by simp at h;omega)) (ih a (y::b) (by simp at h ⊢;omega)) (ih (x::a) b (by simp at h ⊢;omega))
 exact fun a b=>key _ a b (Nat.le_refl _)
theorem mtS_len :∀(a b:List α) (k:Int),(mtS a b k).length=a.length:=fun a b=>by
 revert a b
 refine both_ind (fun b k=>by rw[mtS_nil];rfl) (fun x a k=>by rw[mtS_nil'];simp) (fun x a y b i1 i2 i3 k=> ?_)
 rw[mtS_cons]
 split
 ·simp[i1]
 ·split
  ·simp[i2]
  ·simp[i3]
theorem mtS_at :∀(a b:List α) (k:Int) (i:Nat) (v:Int),(mtS a b k)[i]? =some v->v= -1\/∃j:Nat,v=k+j/\j<b.length/\b[j]? =a[i]? :=fun a b=>by
 revert a b
 refine both_ind (fun b k i v h=>by rw[mtS_nil]at h;simp at h) (fun x a k i v h=>by rw[mtS_nil',List.getElem?_replicate]at h;split at h;exact .inl (by cases h;rfl);cases h) (fun x a y b i1 i2 i3 k i v h=> ?_)
 rw[mtS_cons]at h
 split at h
 ·rename_i hxy
  cases i with
  |zero=>simp at h;subst h;exact .inr ⟨0,by simp,by simp,by simp[hxy]⟩
  |succ i=>
   simp at h
   rcases i1 (k+1) i v h with h|⟨j,g1,g2,g3⟩
   ·exact .inl h
   ·exact .inr ⟨j+1,by rw[g1];omega,by simp;omega,by simpa using g3⟩
 ·split at h
  ·cases i with
   |zero=>simp at h;exact .inl h.symm
   |succ i=>
    simp at h
    rcases i2 k i v h with h|⟨j,g1,g2,g3⟩
    ·exact .inl h
    ·exact .inr ⟨j,g1,g2,by simpa using g3⟩
  ·rcases i3 (k+1) i v h with h|⟨j,g1,g2,g3⟩
   ·exact .inl h
   ·exact .inr ⟨j+1,by rw[g1];omega,by simp;omega,by simpa using g3⟩
theorem mtS_inc :∀(a b:List α) (k:Int) (i j:Nat) (u v:Int),(mtS a b k)[i]? =some u->(mtS a b k)[j]? =some v->i<j->0<=u->0<=v->0<=k->u<v:=fun a b=>by
 revert a b
 refine both_ind (fun b k i j u v h=>by rw[mtS_nil]at h;simp at h) (fun x a k i j u v h _ _ hu=>by rw[mtS_nil',List.getElem?_replicate]at h;split at h<;>cases h;omega) (fun x a y b i1 i2 i3 k i j u v hu hv hij h0 h1 hk=> ?_)
 rw[mtS_cons]at hu hv
 split at hu
 ·rename_i hxy
  rw[if_pos hxy]at hv
  obtain⟨j,rfl⟩:∃j',j=j'+1:=⟨j - 1,by omega⟩
  simp at hv
  cases i with
  |zero=>
   simp at hu
   subst hu
   rcases mtS_at a b (k+1) j v hv with h|⟨q,g1,_,_⟩
   ·omega
   ·omega
  |succ i=>simp at hu;exact i1 (k+1) i j u v hu hv (by omega) h0 h1 (by omega)
 ·rename_i hxy
  rw[if_neg hxy]at hv
  split at hu
  ·rename_i hle
   rw[if_pos hle]at hv
   obtain⟨j,rfl⟩:∃j',j=j'+1:=⟨j - 1,by omega⟩
   simp at hv
   cases i with
   |zero=>simp at hu;omega
   |succ i=>simp at hu;exact i2 k i j u v hu hv (by omega) h0 h1 hk
  ·rename_i hle
   rw[if_neg hle]at hv
   exact i3 (k+1) i j u v hu hv hij h0 h1 (by omega)
end
section
variable {α β:Type} [DecidableEq α] [DecidableEq β]
theorem lc_map (f:α->β):∀(a b:List α),(∀x∈a,∀y∈b,f x=f y->x=y)->lc (a.map f) (b.map f)=lc a b:=by
 refine both_ind (fun b _=>by rw[lc_nil];exact lc_nil _) (fun x a _=>by rw[lc_nil'];exact lc_nil' _) (fun x a y b i1 i2 i3 h=> ?_)
 have j1:=i1 (fun u hu v hv=>h u (by simp[hu]) v (by simp[hv]))
 have j2:=i2 (fun u hu v hv=>h u (by simp[hu]) v hv)
 have j3:=i3 (fun u hu v hv=>h u hu v (by simp[hv]))
 simp only[List.map_cons]at j1 j2 j3 ⊢
 rw[lc_cons,lc_cons,j1,j2,j3]
 by_cases hxy:x=y
 ·rw[if_pos hxy,if_pos (by rw[hxy])]
 ·rw[if_neg hxy,if_neg (fun e=>hxy (h x (by simp) y (by simp) e))]
theorem mtS_map (f:α->β):∀(a b:List α) (k:Int),(∀x∈a,∀y∈b,f x=f y->x=y)->mtS (a.map f) (b.map f) k=mtS a b k:=fun a b=>by
 revert a b
 refine both_ind (fun b k _=>by rw[mtS_nil];exact mtS_nil _ _) (fun x a k _=>by rw[mtS_nil',List.map_nil,mtS_nil'];simp) (fun x a y b i1 i2 i3 k h=> ?_)
 have j1:=i1 (k+1) (fun u hu v hv=>h u (by simp[hu]) v (by simp[hv]))
 have j2:=i2 k (fun u hu v hv=>h u (by simp[hu]) v hv)
 have j3:=i3 (k+1) (fun u hu v hv=>h u hu v (by simp[hv]))
 have l2:=lc_map f a (y::b) (fun u hu v hv=>h u (by simp[hu]) v hv)
 have l3:=lc_map f (x::a) b (fun u hu v hv=>h u hu v (by simp[hv]))
 simp only[List.map_cons]at j1 j2 j3 l2 l3 ⊢
 rw[mtS_cons,mtS_cons,j1,j2,j3,l2,l3]
 by_cases hxy:x=y
 ·rw[if_pos hxy,if_pos (by rw[hxy])]
 ·rw[if_neg hxy,if_neg (fun e=>hxy (h x (by simp) y (by simp) e))]
end
def suf (g:List Int->Nat):List Int->List Int
 | []=>[(g []:Int)]
 |y::b=>(g (y::b):Int)::suf g b
theorem suf_at (g:List Int->Nat):∀(b:List Int) (j:Nat),j<=b.length->(suf g b)[j]? =some (g (b.drop j):Int)
 | [],j,h=>by
  have:j=0:=by simp at h;omega
  subst this;rfl
 |y::b,0,_=>rfl
 |y::b,j+1,h=>by simp[suf,suf_at g b j (by simpa using h)]
theorem suf_head (g:List Int->Nat) (b:List Int):(suf g b).headD 0=(g b:Int):=by cases b<;>rfl
theorem lcsRow_eq {k:IntKind} (hk:∀n:Int,0<=n->n<=100000->k.wrap n=n) (x:Int) (a:List Int) (ha:a.length<100000):∀b:List Int,lcsRow k x b (suf (lc a) b)=suf (lc (x::a)) b
 | []=>by simp[lcsRow,suf,lc_nil']
 |y::b=>by
  have ih:=lcsRow_eq hk x a ha b
  simp only[suf,lcsRow,ih,suf_head]
  congr 1
  rw[lc_cons]
  by_cases hxy:x=y
  ·have:=lc_le a b
   rw[if_pos (by simpa using hxy),if_pos hxy,hk _ (by omega) (by omega)];omega
  ·rw[if_neg (by simpa using hxy),if_neg hxy]
   split<;>omega
def rowsM :List Int->List Int->List (List Int)
 | [],b=>[suf (lc []) b]
 |x::a,b=>suf (lc (x::a)) b::rowsM a b
theorem rowsM_at :∀(a b:List Int) (i:Nat),i<=a.length->(rowsM a b)[i]? =some (suf (lc (a.drop i)) b)
 | [],b,i,h=>by
  have:i=0:=by simp at h;omega
  subst this;rfl
 |x::a,b,0,_=>rfl
 |x::a,b,i+1,h=>by simp[rowsM,rowsM_at a b i (by simpa using h)]
theorem suf_zero :∀b:List Int,suf (lc []) b=List.replicate (b.length+1) 0
 | []=>by simp[suf,lc_nil]
 |y::b=>by simp[suf,lc_nil,suf_zero b,List.replicate_succ]
theorem lcsRows_eq {k:IntKind} (hk:∀n:Int,0<=n->n<=100000->k.wrap n=n):∀(a b:List Int),a.length<=100000->dw k a b=rowsM a b
 | [],b,_=>by simp[dw,rowsM,suf_zero]
 |x::a,b,h=>by
  have ih:=lcsRows_eq hk a b (by simp at h;omega)
  simp only[dw,ih,rowsM]
  congr 1
  have:(rowsM a b).headD []=suf (lc a) b:=by
   have:=rowsM_at a b 0 (Nat.zero_le _)
   cases hr:rowsM a b with
   |nil=>rw[hr]at this;simp at this
   |cons r rs=>rw[hr]at this;simpa using this
  rw[this]
  exact lcsRow_eq hk x a (by simp at h;omega) b
theorem wrap32 (n:Int) (h0:0<=n) (h:n<=100000):IntKind.wrap .i32 n=n:=by
 unfold IntKind.wrap
 have e1:(2:Int) ^ (IntKind.i32.bits)=4294967296:=rfl
 have e2:(2:Int) ^ (IntKind.i32.bits - 1)=2147483648:=rfl
 have e3:IntKind.i32.signed=true:=rfl
 simp only[e1,e2,e3,Bool.true_and,decide_eq_true_eq]
 split<;>omega
theorem wrap64 (n:Int) (h0:0<=n) (h:n<=100000):IntKind.wrap .i64 n=n:=eh (by omega) (by omega)
theorem lcs_none_eq {n:Nat} (h:n<=1000000):lcs_none (n:Int)=some (List.replicate n (-1)):=by
 unfold lcs_none
 have hm:mkLen 8 (n:Int)=some n:=by unfold mkLen;rw[if_pos (by omega)];simp
 rw[hm]
 simp only[Option.bind_some]
 have key:∀k (i:Nat),i+k=n->iter (fun s:Int × List Int=>jm (n:Int) s.1 s.2) ((i:Int),List.replicate i (-1)++List.replicate k 0)=some (List.replicate n (-1)):=by
  intro k
  induction k with
  |zero=>
   intro i hi
   refine @bu noG _ _ _ _ _ ?_
   unfold jm
   rw[if_neg (by simp;omega)]
   simp;omega
  |succ k ih=>
   intro i hi
   have hs:jm (n:Int) (i:Int) (List.replicate i (-1)++List.replicate (k+1) 0)=some (.inl (((i+1:Nat):Int),List.replicate (i+1) (-1)++List.replicate k 0)):=by
    unfold jm
    rw[if_pos (by simp;omega),bv (by simp)]
    simp only[Option.bind_some]
    rw[bt (by omega)]
    congr 3
    rw[List.replicate_succ,List.replicate_succ']
    simp
   rw[@c9 noG _ _ _ _ _ hs]
   exact ih (i+1) (by omega)
 have:=key n 0 (by omega)
 have this:iter (fun s:Int × List Int=>jm (n:Int) s.1 s.2) (0,List.replicate n 0)=some (List.replicate n (-1)):=by simpa using this
 rw[this]
 rfl
theorem lcs_Match_eq {a b:List Int} (ha:a.length<=2000) (hb:b.length<=2000):lcs_Match a b=some (mtS a b 0):=by
  unfold lcs_Match
  rw[lcs_none_eq (by omega)]
  simp only[Option.bind_some]
  rw[if_neg (by simp;omega)]
  have hd:decide ((b.length:Int)>2000)=false:=by simp;omega
  rw[hd]
  unfold oc
  simp only[Bool.false_eq_true,if_false]
  have hl:lcs_left a b=some (rowsM a b):=by unfold lcs_left;rw[if_pos ⟨by omega,by omega⟩,lcsRows_eq wrap32 a b (by omega)]
  rw[hl]
  simp only[Option.bind_some]
  have key : ∀ m (i k : Nat) (pre : List Int), (a.length - i) + (b.length - k) <= m -> i <= a.length -> k <= b.length -> pre.length = i ->
      iter (fun s:Int × Int × List Int=>fy a b (rowsM a b) s.1 s.2.1 s.2.2) ((i:Int),(k:Int),pre++List.replicate (a.length - i) (-1))=some (pre++mtS (a.drop i) (b.drop k) (k:Int)):=by
    intro m
    induction m with
    |zero=>
      intro i k pre hm hi hk hp
      have h1:i=a.length:=by omega
      refine @bu noG _ _ _ _ _ ?_
      unfold fy
      rw[if_neg (by simp;omega)]
      unfold jj
      simp only[Bool.false_eq_true,if_false]
      subst h1
      rw[List.drop_length,mtS_nil];simp
    |succ m ih=>
      intro i k pre hm hi hk hp
      by_cases hia:i=a.length
      · refine @bu noG _ _ _ _ _ ?_
        unfold fy
        rw[if_neg (by simp;omega)]
        unfold jj
        simp only[Bool.false_eq_true,if_false]
        subst hia
        rw[List.drop_length,mtS_nil];simp
      · by_cases hkb:k=b.length
        · refine @bu noG _ _ _ _ _ ?_
          unfold fy
          rw[if_pos (by simp;omega)]
          unfold jj
          have:decide ((k:Int)<(b.length:Int))=false:=by simp;omega
          rw[this]
          simp only[Bool.false_eq_true,if_false]
          subst hkb
          rw[List.drop_length,mtS_nil'];simp
        · have hi':i<a.length:=by omega
          have hk':k<b.length:=by omega
          have hda:a.drop i=a[i]::a.drop (i+1):=List.drop_eq_getElem_cons hi'
          have hdb:b.drop k=b[k]::b.drop (k+1):=List.drop_eq_getElem_cons hk'
          have hrep:List.replicate (a.length - i) (-1:Int)= -1::List.replicate (a.length - (i+1)) (-1):=by rw[← List.replicate_succ];congr 1;omega
          have hstep:fy a b (rowsM a b) (i:Int) (k:Int) (pre++List.replicate (a.length - i) (-1))=jk (pre++List.replicate (a.length - i) (-1)) (i:Int) (k:Int) (rowsM a b) a[i] b[k]:=by
            unfold fy
            rw[if_pos (by simp;omega)]
            unfold jj
            rw[if_pos (by simp;omega),bv hi',bv hk']
            simp only[Option.bind_some]
          by_cases hxy:a[i]=b[k]
          · have hs:jk (pre++List.replicate (a.length - i) (-1)) (i:Int) (k:Int) (rowsM a b) a[i] b[k]=some (.inl (((i+1:Nat):Int),((k+1:Nat):Int),(pre++[(k:Int)])++List.replicate (a.length - (i+1)) (-1))):=by
              unfold jk
              rw[if_pos (by simpa using hxy),bv (by simp;omega)]
              simp only[Option.bind_some]
              rw[bt (by omega),bt (by omega),hrep]
              congr 4
              simp only[Int.toNat_natCast]
              rw[List.set_append_right _ _ (by omega),hp,Nat.sub_self,List.set_cons_zero];simp
            rw[@c9 noG _ _ _ _ _ (hstep.trans hs),ih (i+1) (k+1) (pre++[(k:Int)]) (by omega) (by omega) (by omega) (by simp[hp]),hda,hdb,mtS_cons,if_pos hxy]
            simp
          · have t1:idx (rowsM a b) (w64 ((i:Int)+1))=some (suf (lc (a.drop (i+1))) b):=by
              rw[bt (by omega)]
              unfold idx
              rw[if_pos (by omega),Int.toNat_natCast]
              exact rowsM_at a b (i+1) (by omega)
            have t2:idx (rowsM a b) (i:Int)=some (suf (lc (a.drop i)) b):=by
              unfold idx
              rw[if_pos (by omega),Int.toNat_natCast]
              exact rowsM_at a b i (by omega)
            have t3:idx (suf (lc (a.drop (i+1))) b) (k:Int)=some (lc (a.drop (i+1)) (b.drop k):Int):=by
              unfold idx
              rw[if_pos (by omega),Int.toNat_natCast]
              exact suf_at _ b k (by omega)
            have t4:idx (suf (lc (a.drop i)) b) (w64 ((k:Int)+1))=some (lc (a.drop i) (b.drop (k+1)):Int):=by
              rw[bt (by omega)]
              unfold idx
              rw[if_pos (by omega),Int.toNat_natCast]
              exact suf_at _ b (k+1) (by omega)
            have hj:jk (pre++List.replicate (a.length - i) (-1)) (i:Int) (k:Int) (rowsM a b) a[i] b[k]=jl (i:Int) (k:Int) (pre++List.replicate (a.length - i) (-1)) (lc (a.drop (i+1)) (b.drop k):Int) (lc (a.drop i) (b.drop (k+1)):Int):=by
              unfold jk
              rw[if_neg (by simpa using hxy),t1,t2]
              simp only[Option.bind_some]
              rw[t3,t4]
              simp only[Option.bind_some]
            by_cases hle:lc (a.drop i) (b.drop (k+1))<=lc (a.drop (i+1)) (b.drop k)
            · have hs:jl (i:Int) (k:Int) (pre++List.replicate (a.length - i) (-1)) (lc (a.drop (i+1)) (b.drop k):Int) (lc (a.drop i) (b.drop (k+1)):Int)=some (.inl (((i+1:Nat):Int),(k:Int),(pre++[-1])++List.replicate (a.length - (i+1)) (-1))):=by
                unfold jl
                rw[if_pos (by simp;omega),bt (by omega),hrep]
                simp
              rw[@c9 noG _ _ _ _ _ (hstep.trans (hj.trans hs)),ih (i+1) k (pre++[-1]) (by omega) (by omega) (by omega) (by simp[hp])]
              rw[hda,hdb]at *
              rw[mtS_cons,if_neg hxy,if_pos hle]
              simp
            · have hs:jl (i:Int) (k:Int) (pre++List.replicate (a.length - i) (-1)) (lc (a.drop (i+1)) (b.drop k):Int) (lc (a.drop i) (b.drop (k+1)):Int)=some (.inl ((i:Int),((k+1:Nat):Int),pre++List.replicate (a.length - i) (-1))):=by
                unfold jl
                rw[if_neg (by simp;omega),bt (by omega)]
              rw[@c9 noG _ _ _ _ _ (hstep.trans (hj.trans hs)),ih i (k+1) pre (by omega) (by omega) (by omega) hp]
              rw[hda,hdb]at *
              rw[mtS_cons,if_neg hxy,if_neg hle]
              simp
  have:=key (a.length+b.length) 0 0 [] (by omega) (by omega) (by omega) rfl
  have this:iter (fun s:Int × Int × List Int=>fy a b (rowsM a b) s.1 s.2.1 s.2.2) (0,0,List.replicate a.length (-1))=some (mtS a b 0):=by simpa using this
  rw[this]
  rfl
end Go.Proofs.YtphkaogfinjbjaaGreatDoor
set_option linter.unusedSectionVars false
set_option linter.unusedSimpArgs false
set_option linter.unusedVariables false
namespace Go.Proofs.YtphkaogfinjbjaaGreatDoor
open Go Go.Cn
def stabF (ma mb:List Int) (last:Int) (o a b:Int):Nat->Nat->Nat
 | 0,n=>n
 |f+1,n=>if o+n<last/\ma[(o+n).toNat]? =some (a+n)/\mb[(o+n).toNat]? =some (b+n)then stabF ma mb last o a b f (n+1)else n
def stab (ma mb:List Int) (o a b:Int):Nat:=stabF ma mb (ma.length:Int) o a b ma.length 0
def nextF (ma mb:List Int) (la lb:Int):Nat->Nat->Diff3Ends
 | 0,_=>⟨(ma.length:Int),la,lb⟩
 |f+1,p=>match ma[p]?,mb[p]? with
  |some u,some v=>if 0<=u/\0<=v then⟨(p:Int),u,v⟩else nextF ma mb la lb f (p+1)
  |_,_=>⟨(ma.length:Int),la,lb⟩
def nextE (ma mb:List Int) (la lb:Int) (p:Nat):Diff3Ends:=nextF ma mb la lb (ma.length - p) p
def nk (ma mb:List Int) (la lb:Int) (e:Diff3Ends):Diff3Ends:=
 if 0<stab ma mb e.o e.a e.b then⟨e.o+stab ma mb e.o e.a e.b,e.a+stab ma mb e.o e.a e.b,e.b+stab ma mb e.o e.a e.b⟩else nextE ma mb la lb e.o.toNat
def chF (ma mb:List Int) (la lb:Int):Nat->Diff3Ends->List (Diff3Ends × Diff3Ends)
 | 0,_=>[]
 |f+1,e=>if e=⟨(ma.length:Int),la,lb⟩then[]else(e,nk ma mb la lb e)::chF ma mb la lb f (nk ma mb la lb e)
structure IsM (m:List Int) (la:Nat) (lm:Nat):Prop where
 len:m.length=la
 at_:∀(i:Nat) v,m[i]? =some v->v= -1\/(0<=v/\v<lm)
 inc:∀(i j:Nat) u v,m[i]? =some u->m[j]? =some v->i<j->0<=u->0<=v->u<v
theorem isM_mtS {α:Type} [DecidableEq α] (o a:List α):IsM (mtS o a 0) o.length a.length where
 len:=mtS_len o a 0
 at_:=fun i v h=>(mtS_at o a 0 i v h).imp id (fun⟨j,h1,h2,_⟩=>by omega)
 inc:=fun i j u v h1 h2 hij h3 h4=>mtS_inc o a 0 i j u v h1 h2 hij h3 h4 (Int.le_refl _)
structure Stand (ma mb:List Int) (la lb:Int) (e:Diff3Ends):Prop where
 o0:0<=e.o
 o1:e.o<=ma.length
 a0:0<=e.a
 a1:e.a<=la
 b0:0<=e.b
 b1:e.b<=lb
 fa:∀(i:Nat) v,e.o<=i->ma[i]? =some v->0<=v->e.a<=v
 fb:∀(i:Nat) v,e.o<=i->mb[i]? =some v->0<=v->e.b<=v
theorem stabF_spec {ma mb:List Int} {last o a b:Int}:∀(f n:Nat),n<=stabF ma mb last o a b f n/\stabF ma mb last o a b f n<=n+f/\
  (∀k:Nat,n<=k->k<stabF ma mb last o a b f n->o+k<last/\ma[(o+k).toNat]? =some (a+k)/\mb[(o+k).toNat]? =some (b+k))/\
  (stabF ma mb last o a b f n<n+f->¬(o+(stabF ma mb last o a b f n:Nat)<last/\ma[(o+(stabF ma mb last o a b f n:Nat)).toNat]? =some (a+(stabF ma mb last o a b f n:Nat))/\mb[(o+(stabF ma mb last o a b f n:Nat)).toNat]? =some (b+(stabF ma mb last o a b f n:Nat))))
 | 0,n=>⟨Nat.le_refl _,Nat.le_refl _,fun k h1 h2=>by simp only[stabF]at h2;omega,fun h=>by simp only[stabF]at h;omega⟩
 |f+1,n=>by
  unfold stabF
  by_cases hc:o+n<last/\ma[(o+n).toNat]? =some (a+n)/\mb[(o+n).toNat]? =some (b+n)
  ·rw[if_pos hc]
   obtain⟨h1,h2,h3,h4⟩:=stabF_spec (ma:=ma) (mb:=mb) (last:=last) (o:=o) (a:=a) (b:=b) f (n+1)
   refine⟨by omega,by omega,fun k g1 g2=> ?_,fun h=>h4 (by omega)⟩
   by_cases hk:k=n
   ·subst hk;exact hc
   ·exact h3 k (by omega) g2
  ·rw[if_neg hc]
   exact⟨Nat.le_refl _,by omega,fun k g1 g2=>by omega,fun _=>hc⟩
theorem stab_spec {ma mb:List Int} {o a b:Int} (ho:0<=o):(∀k:Nat,k<stab ma mb o a b->o+k<ma.length/\ma[(o+k).toNat]? =some (a+k)/\mb[(o+k).toNat]? =some (b+k))/\
  ¬(o+(stab ma mb o a b:Nat)<ma.length/\ma[(o+(stab ma mb o a b:Nat)).toNat]? =some (a+(stab ma mb o a b:Nat))/\mb[(o+(stab ma mb o a b:Nat)).toNat]? =some (b+(stab ma mb o a b:Nat)))/\stab ma mb o a b<=ma.length:=by
 obtain⟨h1,h2,h3,h4⟩:=stabF_spec (ma:=ma) (mb:=mb) (last:=(ma.length:Int)) (o:=o) (a:=a) (b:=b) ma.length 0
 refine⟨fun k hk=>h3 k (Nat.zero_le _) hk,fun hc=> ?_,by unfold stab;omega⟩
 by_cases hlt:stab ma mb o a b<0+ma.length
 ·exact h4 hlt hc
 ·have:stab ma mb o a b=ma.length:=by unfold stab at *; omega
  omega
theorem nextF_spec {ma mb:List Int} {la lb:Int} (hl:mb.length=ma.length):∀(f p:Nat),p+f=ma.length->
  (∃q:Nat,p<=q/\q<ma.length/\∃u v,ma[q]? =some u/\mb[q]? =some v/\0<=u/\0<=v/\nextF ma mb la lb f p=⟨(q:Int),u,v⟩/\∀i:Nat,p<=i->i<q->¬(∃u v,ma[i]? =some u/\mb[i]? =some v/\0<=u/\0<=v))\/
  (nextF ma mb la lb f p=⟨(ma.length:Int),la,lb⟩/\∀i:Nat,p<=i->¬(∃u v,ma[i]? =some u/\mb[i]? =some v/\0<=u/\0<=v))
 | 0,p,h=> .inr ⟨rfl,fun i hi ⟨u,v,h1,_⟩=>by have:=(List.getElem?_eq_some_iff.1 h1).1;omega⟩
 |f+1,p,h=>by
  have hp:p<ma.length:=by omega
  have e1:ma[p]? =some ma[p]:=List.getElem?_eq_getElem hp
  have e2:mb[p]? =some (mb[p]'(by omega)):=List.getElem?_eq_getElem (by omega)
  unfold nextF
  rw[e1,e2]
  simp only
  by_cases hc:0<=ma[p]/\0<=mb[p]'(by omega)
  ·rw[if_pos hc]
   exact .inl ⟨p,Nat.le_refl _,hp,_,_,e1,e2,hc.1,hc.2,rfl,fun i h1 h2=>by omega⟩
  ·rw[if_neg hc]
   have hno:∀i:Nat,i=p->¬(∃u v,ma[i]? =some u/\mb[i]? =some v/\0<=u/\0<=v):=fun i hi ⟨u,v,h1,h2,h3,h4⟩=>by
    subst hi
    rw[e1]at h1;rw[e2]at h2
    cases h1;cases h2
    exact hc ⟨h3,h4⟩
   rcases nextF_spec (la:=la) (lb:=lb) hl f (p+1) (by omega)with⟨q,h1,h2,u,v,h3,h4,h5,h6,h7,h8⟩|⟨h1,h2⟩
   ·exact .inl ⟨q,by omega,h2,u,v,h3,h4,h5,h6,h7,fun i g1 g2=>if hi:i=p then hno i hi else h8 i (by omega) g2⟩
   ·exact .inr ⟨h1,fun i g1=>if hi:i=p then hno i hi else h2 i (by omega)⟩
theorem stepE_spec {ma mb:List Int} {la lb:Nat} (hA:IsM ma ma.length la) (hB:IsM mb ma.length lb) {e:Diff3Ends} (hs:Stand ma mb la lb e) (hne:e≠⟨(ma.length:Int),la,lb⟩):
  Stand ma mb la lb (nk ma mb la lb e)/\e.o<=(nk ma mb la lb e).o/\e.a<=(nk ma mb la lb e).a/\e.b<=(nk ma mb la lb e).b/\e.o+e.a+e.b<(nk ma mb la lb e).o+(nk ma mb la lb e).a+(nk ma mb la lb e).b:=by
 obtain⟨s1,s2,s3⟩:=stab_spec (ma:=ma) (mb:=mb) (a:=e.a) (b:=e.b) hs.o0
 unfold nk
 generalize hn:stab ma mb e.o e.a e.b=n at *
 by_cases hp:0<n
 ·rw[if_pos hp]
  obtain⟨t1,t2,t3⟩:=s1 (n - 1) (by omega)
  have u2:=hA.at_ _ _ t2
  have u3:=hB.at_ _ _ t3
  have v0:=hs.a0
  have v1:=hs.b0
  refine⟨⟨by show 0<=e.o+n;have:=hs.o0;omega,by show e.o+n<=_;omega,by show 0<=e.a+n;omega,by show e.a+n<=la;omega,by show 0<=e.b+n;omega,by show e.b+n<=lb;omega,fun i v hi hv h0=> ?_,fun i v hi hv h0=> ?_⟩,by show e.o<=e.o+n;omega,by show e.a<=e.a+n;omega,by show e.b<=e.b+n;omega,by show _<e.o+n+(e.a+n)+(e.b+n);omega⟩
  ·have hi':e.o+n<=i:=hi
   have:=hA.inc _ i _ v t2 hv (by have:=hs.o0;omega) (by omega) h0
   show e.a+n<=v;omega
  ·have hi':e.o+n<=i:=hi
   have:=hB.inc _ i _ v t3 hv (by have:=hs.o0;omega) (by omega) h0
   show e.b+n<=v;omega
 ·rw[if_neg hp]
  have hn0:n=0:=by omega
  subst hn0
  have ho:=hs.o0
  have ho1:=hs.o1
  unfold nextE
  rcases nextF_spec (la:=(la:Int)) (lb:=(lb:Int)) hB.len (ma.length - e.o.toNat) e.o.toNat (by omega)with⟨q,h1,h2,u,v,h3,h4,h5,h6,h7,h8⟩|⟨h1,h2⟩
  ·rw[h7]
   have w1:=hA.at_ _ _ h3
   have w2:=hB.at_ _ _ h4
   have f1:=hs.fa q u (by omega) h3 h5
   have f2:=hs.fb q v (by omega) h4 h6
   refine⟨⟨by show(0:Int)<=q;omega,by show(q:Int)<=_;omega,h5,by show u<=la;omega,h6,by show v<=lb;omega,fun i z hi hz h0=> ?_,fun i z hi hz h0=> ?_⟩,by show e.o<=(q:Int);omega,f1,f2,?_⟩
   ·have hi':(q:Int)<=i:=hi
    by_cases hiq:i=q
    ·subst hiq;rw[h3]at hz;cases hz;exact Int.le_refl _
    ·have:=hA.inc q i u z h3 hz (by omega) h5 h0;show u<=z;omega
   ·have hi':(q:Int)<=i:=hi
    by_cases hiq:i=q
    ·subst hiq;rw[h4]at hz;cases hz;exact Int.le_refl _
    ·have:=hB.inc q i v z h4 hz (by omega) h6 h0;show v<=z;omega
   ·show e.o+e.a+e.b<(q:Int)+u+v
    rcases Int.lt_or_le (e.o+e.a+e.b) ((q:Int)+u+v)with h|h
    ·exact h
    ·exfalso
     have g1:(q:Int)=e.o:=by omega
     have g2:u=e.a:=by omega
     have g3:v=e.b:=by omega
     apply s2
     have:e.o.toNat=q:=by omega
     refine⟨by simp;omega,?_,?_⟩
     ·simp only[Int.natCast_zero,Int.add_zero,this,h3,g2]
     ·simp only[Int.natCast_zero,Int.add_zero,this,h4,g3]
  ·rw[h1]
   have a1:=hs.a1
   have b1:=hs.b1
   refine⟨⟨by show(0:Int)<=(ma.length:Int);omega,Int.le_refl _,by show(0:Int)<=la;omega,Int.le_refl _,by show(0:Int)<=lb;omega,Int.le_refl _,fun i z hi hz h0=> ?_,fun i z hi hz h0=> ?_⟩,ho1,a1,b1,?_⟩
   ·have:=(List.getElem?_eq_some_iff.1 hz).1;have hi':(ma.length:Int)<=i:=hi;omega
   ·have:=(List.getElem?_eq_some_iff.1 hz).1;have hi':(ma.length:Int)<=i:=hi;have:=hB.len;omega
   ·show e.o+e.a+e.b<(ma.length:Int)+la+lb
    rcases Int.lt_or_le (e.o+e.a+e.b) ((ma.length:Int)+la+lb)with h|h
    ·exact h
    ·exfalso;apply hne
     cases e;simp only[Diff3Ends.mk.injEq];simp only at *; omega
end Go.Proofs.YtphkaogfinjbjaaGreatDoor
set_option linter.unusedSectionVars false
set_option linter.unusedSimpArgs false
set_option linter.unusedVariables false
namespace Go.Proofs.YtphkaogfinjbjaaGreatDoor
open Go Go.Cn
theorem slices_Equal_eq {a b:List Int} (h:a.length<=1000000):dz a b=some (decide (a=b)):=by
 unfold dz
 by_cases hl:a.length=b.length
 ·rw[if_neg (by simp;omega)]
  have key:∀k i,i+k=a.length->iter (fun s=>cn a b s) (i:Int)=some (if a.drop i=b.drop i then Flow.next ()else Flow.done false):=by
   intro k
   induction k with
   |zero=>
    intro i hi
    obtain rfl:i=a.length:=by omega
    rw[@bu noG _ _ _ _ (Flow.next ()) (by unfold cn;rw[if_neg (by simp)])]
    rw[List.drop_length,hl,List.drop_length,if_pos rfl]
   |succ k ih=>
    intro i hi
    have h1:i<a.length:=by omega
    have h2:i<b.length:=by omega
    rw[List.drop_eq_getElem_cons h1,List.drop_eq_getElem_cons h2]
    by_cases hx:a[i]=b[i]
    ·rw[@c9 noG _ _ _ _ (((i+1:Nat):Int)) (by
      unfold cn e6
      rw[if_pos (by simp;omega),bv h1,bv h2]
      simp only[Option.bind_some]
      rw[if_neg (by simp[hx]),bt (by omega)]),ih (i+1) (by omega)]
     simp only[hx,List.cons.injEq,true_and]
    ·rw[@bu noG _ _ _ _ (Flow.done false) (by
      unfold cn e6
      rw[if_pos (by simp;omega),bv h1,bv h2]
      simp only[Option.bind_some]
      rw[if_pos (by simp[hx])])]
     rw[if_neg (fun h=>hx (List.cons.inj h).1)]
  have:=key a.length 0 (by omega)
  simp only[List.drop_zero]at this
  have this:iter (fun s=>cn a b s) 0=_:=this
  rw[this]
  simp only[Option.bind_some]
  by_cases he:a=b
  ·rw[if_pos he];simp[he,gk]
  ·rw[if_neg he];simp[he]
 ·rw[if_pos (by simp;omega)]
  rw[decide_eq_false (fun h=>hl (by rw[h]))]
section
variable {α:Type} [DecidableEq α]
def kindOf (O A B:List α):Int:=if O=A then(if O=B then 0 else 2)else if O=B then 1 else if A=B then 3 else 4
def cut3 (l:List α) (i j:Int):List α:=(l.take j.toNat).drop i.toNat
def cc (o a b:List α) (p:Diff3Ends × Diff3Ends):ApiChunk:=⟨kindOf (cut3 o p.1.o p.2.o) (cut3 a p.1.a p.2.a) (cut3 b p.1.b p.2.b),⟨p.1.o,p.2.o⟩,⟨p.1.a,p.2.a⟩,⟨p.1.b,p.2.b⟩⟩
def cm (o a b:List α):List (Diff3Ends × Diff3Ends):=chF (mtS o a 0) (mtS o b 0) (a.length:Int) (b.length:Int) (o.length+a.length+b.length+1) ⟨0,0,0⟩
end
theorem diff3_kind_eq {O A B:List Int} (h1:O.length<=1000000) (h2:A.length<=1000000):diff3_kind O A B=some (kindOf O A B):=by
  unfold diff3_kind l9 diff3_kind_j1 kindOf
  rw[slices_Equal_eq h1,slices_Equal_eq h1,slices_Equal_eq h2]
  simp only[Option.bind_some]
  by_cases e1:O=A
  · by_cases e2:O=B
    · simp[e1,e2];simp[← e1,e2]
    · simp[e1,e2];simp[← e1,e2]
  · by_cases e2:O=B
    · simp[e1,e2];simp[← e2,e1]
    · by_cases e3:A=B
      · simp[e1,e2,e3]
      · simp[e1,e2,e3]
theorem idx_int {α:Type} {l:List α} {i:Int} (h0:0<=i) {v:α} (h:l[i.toNat]? =some v):idx l i=some v:=by
 obtain⟨n,rfl⟩:∃n:Nat,i=n:=⟨i.toNat,by omega⟩
 obtain⟨h1,h2⟩:=List.getElem?_eq_some_iff.1 h
 simp only[Int.toNat_natCast]at h1 h2
 rw[bv h1,h2]
theorem chunks11_eq {ma mb:List Int} {la lb:Nat} (hm:ma.length<=1000000) (hml:mb.length=ma.length) (hla:la<=1000000) (hlb:lb<=1000000) {e:Diff3Ends} (hs:Stand ma mb la lb e):
  j7 e ⟨(ma.length:Int),la,lb⟩ ma mb=some (((stab ma mb e.o e.a e.b:Nat):Int),e,⟨(ma.length:Int),la,lb⟩,ma,mb):=by
 unfold j7 jt
 obtain⟨q1,q2,q3,q4,q5,q6,_,_⟩:=hs
 have key:∀f n,n+f=ma.length->iter (fun s=>c8 e ⟨(ma.length:Int),la,lb⟩ ma mb s) (n:Int)=some ((stabF ma mb ma.length e.o e.a e.b f n:Nat):Int):=by
  intro f
  induction f with
  |zero=>
   intro n hn
   refine @bu noG _ _ _ _ _ ?_
   unfold c8 dj
   rw[eh (by omega) (by omega),if_neg (by simp;omega),if_neg (by simp)]
   rfl
  |succ f ih=>
   intro n hn
   unfold stabF
   have w1:w64 (e.o+(n:Int))=e.o+n:=eh (by omega) (by omega)
   have w2:w64 (e.a+(n:Int))=e.a+n:=eh (by omega) (by omega)
   have w3:w64 (e.b+(n:Int))=e.b+n:=eh (by omega) (by omega)
   by_cases hlt:e.o+(n:Int)<ma.length
   ·have g1:(e.o+(n:Int)).toNat<ma.length:=by omega
    have g2:(e.o+(n:Int)).toNat<mb.length:=by omega
    have i1:ma[(e.o+(n:Int)).toNat]? =some (ma[(e.o+(n:Int)).toNat]):=List.getElem?_eq_getElem g1
    have i2:mb[(e.o+(n:Int)).toNat]? =some (mb[(e.o+(n:Int)).toNat]):=List.getElem?_eq_getElem g2
    by_cases hc:ma[(e.o+(n:Int)).toNat]? =some (e.a+n)/\mb[(e.o+(n:Int)).toNat]? =some (e.b+n)
    ·rw[if_pos ⟨hlt,hc⟩]
     rw[@c9 noG _ _ _ _ (((n+1:Nat):Int)) (by
      unfold c8 dj
      rw[w1,w2,w3,if_pos (by simpa using hlt),idx_int (by omega) hc.1]
      simp only[Option.bind_some]
      rw[if_pos (by simp),idx_int (by omega) hc.2]
      simp only[Option.bind_some]
      rw[if_pos (by simp),bt (by omega)])]
     exact ih (n+1) (by omega)
    ·rw[if_neg (fun h=>hc h.2)]
     refine @bu noG _ _ _ _ _ ?_
     unfold c8 dj
     rw[w1,w2,w3,if_pos (by simpa using hlt),idx_int (by omega) i1]
     simp only[Option.bind_some]
     by_cases hx:ma[(e.o+(n:Int)).toNat]=e.a+n
     ·rw[if_pos (by simp[hx]),idx_int (by omega) i2]
      simp only[Option.bind_some]
      rw[if_neg]
      intro h
      exact hc ⟨by rw[i1,hx],by rw[i2];congr 1;simpa using h⟩
     ·rw[if_neg (by simpa using hx),if_neg (by simp)]
   ·rw[if_neg (fun h=>hlt h.1)]
    refine @bu noG _ _ _ _ _ ?_
    unfold c8 dj
    rw[w1,if_neg (by simpa using hlt),if_neg (by simp)]
 have:=key ma.length 0 (by omega)
 have this:iter (fun s=>c8 e ⟨(ma.length:Int),la,lb⟩ ma mb s) 0=_:=this
 rw[this]
 rfl
theorem chunks12_eq {ma mb:List Int} {la lb:Nat} (hm:ma.length<=1000000) (hml:mb.length=ma.length) {e:Diff3Ends} (hs:Stand ma mb la lb e):
  j6 e ⟨(ma.length:Int),la,lb⟩ ma mb=some (nextE ma mb la lb e.o.toNat,e,⟨(ma.length:Int),la,lb⟩,ma,mb):=by
 unfold j6
 obtain⟨q1,q2,q3,q4,q5,q6,_,_⟩:=hs
 have key:∀f p,p+f=ma.length->iter (fun s=>c7 ⟨(ma.length:Int),la,lb⟩ ma mb e s) (p:Int)=some (Flow.done (nextF ma mb la lb f p,e,⟨(ma.length:Int),la,lb⟩,ma,mb))\/
   iter (fun s=>c7 ⟨(ma.length:Int),la,lb⟩ ma mb e s) (p:Int)=some (Flow.next ())/\nextF ma mb la lb f p=⟨(ma.length:Int),la,lb⟩:=by
  intro f
  induction f with
  |zero=>
   intro p hp
   refine .inr ⟨@bu noG _ _ _ _ _ ?_,rfl⟩
   unfold c7
   rw[if_neg (by simp;omega)]
  |succ f ih=>
   intro p hp
   have g1:p<ma.length:=by omega
   have g2:p<mb.length:=by omega
   unfold nextF
   rw[List.getElem?_eq_getElem g1,List.getElem?_eq_getElem g2]
   simp only
   by_cases hc:0<=ma[p]/\0<=mb[p]
   ·rw[if_pos hc]
    refine .inl (@bu noG _ _ _ _ _ ?_)
    unfold c7 fo js
    rw[if_pos (by simp;omega),bv g1,bv g2]
    simp only[Option.bind_some]
    rw[if_pos (by simpa using hc.1),if_pos (by simpa using hc.2)]
   ·rw[if_neg hc]
    have hst:c7 ⟨(ma.length:Int),la,lb⟩ ma mb e (p:Int)=some (.inl (((p+1:Nat):Int))):=by
     unfold c7 fo
     rw[if_pos (by simp;omega),bv g1,bv g2]
     simp only[Option.bind_some]
     rw[bt (by omega)]
     by_cases h1:0<=ma[p]
     ·rw[if_pos (by simpa using h1),if_neg (by simp;omega)]
     ·rw[if_neg (by simp;omega),if_neg (by simp)]
    rw[@c9 noG _ _ _ _ _ hst]
    exact ih (p+1) (by omega)
 have:=key (ma.length - e.o.toNat) e.o.toNat (by omega)
 have ho:((e.o.toNat:Nat):Int)=e.o:=by omega
 rw[ho]at this
 unfold nextE
 rcases this with h|⟨h,h2⟩
 ·rw[h];rfl
 ·rw[h,h2];rfl
theorem rounds_eq {ma mb:List Int} {la lb:Nat} (hA:IsM ma ma.length la) (hB:IsM mb ma.length lb) (hm:ma.length<=1000000) (hla:la<=1000000) (hlb:lb<=1000000)
  (x2 x4 x6:List Int) (mk:Diff3Ends × Diff3Ends->ApiChunk) {yld:List ApiChunk->Diff3Ends × Diff3Ends->Option (Bool × List ApiChunk)}
  (hy:∀s p q,s.length<=3000000->Stand ma mb la lb p->Stand ma mb la lb q->p.o<=q.o->p.a<=q.a->p.b<=q.b->yld s (p,q)=some (true,s++[mk (p,q)])):
  ∀(f:Nat) (e:Diff3Ends) (s:List ApiChunk),Stand ma mb la lb e->(s.length:Int)<=e.o+e.a+e.b->(ma.length:Int)+la+lb<e.o+e.a+e.b+f->
   iter (fun s=>em yld x2 x4 x6 s.1 s.2.1 s.2.2.1 s.2.2.2.1 s.2.2.2.2) (s,ma,mb,e,⟨(ma.length:Int),la,lb⟩)=some (Flow.next (s++(chF ma mb la lb f e).map mk,ma,mb,⟨(ma.length:Int),la,lb⟩,⟨(ma.length:Int),la,lb⟩))
 | 0,e,s,hs,_,hf=>by have:=hs.o1;have:=hs.a1;have:=hs.b1;omega
 |f+1,e,s,hs,hl,hf=>by
  unfold chF
  by_cases he:e=⟨(ma.length:Int),la,lb⟩
  ·rw[if_pos he]
   subst he
   refine @bu noG _ _ _ _ _ ?_
   simp only
   unfold em
   rw[if_neg (by simp)]
   simp
  ·rw[if_neg he]
   obtain⟨t1,t2,t3,t4,t5⟩:=stepE_spec hA hB hs he
   have hst:em yld x2 x4 x6 s ma mb e ⟨(ma.length:Int),la,lb⟩=some (.inl (s++[mk (e,nk ma mb la lb e)],ma,mb,nk ma mb la lb e,⟨(ma.length:Int),la,lb⟩)):=by
    have hyy:=hy s e (nk ma mb la lb e) (by have:=hs.o1;have:=hs.a1;have:=hs.b1;omega) hs t1 t2 t3 t4
    unfold em
    rw[if_pos (by simpa using he),chunks12_eq hm hB.len hs]
    simp only[Option.bind_some]
    rw[chunks11_eq hm hB.len hla hlb hs]
    simp only[Option.bind_some]
    obtain⟨s1,s2,s3⟩:=stab_spec (ma:=ma) (mb:=mb) (a:=e.a) (b:=e.b) hs.o0
    unfold je
    have q1:=hs.o0
    have q2:=hs.o1
    have q3:=hs.a0
    have q4:=hs.a1
    have q5:=hs.b0
    have q6:=hs.b1
    unfold nk at hyy ⊢
    by_cases hp:0<stab ma mb e.o e.a e.b
    ·rw[if_pos hp]at hyy ⊢
     rw[if_pos (by simpa using hp)]
     rw[eh (by omega) (by omega),eh (by omega) (by omega),eh (by omega) (by omega)]
     rw[hyy]
     rfl
    ·rw[if_neg hp]at hyy ⊢
     rw[if_neg (by simpa using hp)]
     rw[hyy]
     rfl
   rw[@c9 noG _ _ _ _ (s++[mk (e,nk ma mb la lb e)],ma,mb,nk ma mb la lb e,⟨(ma.length:Int),la,lb⟩) hst]
   rw[rounds_eq hA hB hm hla hlb x2 x4 x6 mk hy f (nk ma mb la lb e) _ t1 (by simp only[List.length_append,List.length_cons,List.length_nil];omega) (by omega)]
   simp[List.append_assoc]
theorem cut_eq {α:Type} {l:List α} {i j:Int} (h0:0<=i) (h1:i<=j) (h2:j<=l.length):subL l i j=some (cut3 l i j):=by
 have:=subL_nat (l:=l) (i:=i.toNat) (j:=j.toNat) (by omega) (by omega)
 rw[show((i.toNat:Nat):Int)=i by omega,show((j.toNat:Nat):Int)=j by omega]at this
 exact this
theorem mi {α:Type} (l:List α) (i j:Int):(cut3 l i j).length<=l.length:=by unfold cut3;simp;omega
theorem stand0 {ma mb:List Int} {la lb:Nat} (hA:IsM ma ma.length la) (hB:IsM mb ma.length lb):Stand ma mb la lb ⟨0,0,0⟩:=
 ⟨Int.le_refl _,by show(0:Int)<=_;omega,Int.le_refl _,by show(0:Int)<=_;omega,Int.le_refl _,by show(0:Int)<=_;omega,fun _ _ _ _ h=>h,fun _ _ _ _ h=>h⟩
theorem diff3_Chunks_eq {o a b:List Int} (ho:o.length<=2000) (ha:a.length<=2000) (hb:b.length<=2000):diff3_Chunks o a b=some ((cm o a b).map (cc o a b)):=by
 unfold diff3_Chunks diff3_chunks_1 md mf
 rw[lcs_Match_eq ho ha,lcs_Match_eq ho hb]
 simp only[Option.bind_some]
 have l1:=mtS_len o a 0
 have l2:=mtS_len o b 0
 have hA:IsM (mtS o a 0) (mtS o a 0).length a.length:=by rw[l1];exact isM_mtS o a
 have hB:IsM (mtS o b 0) (mtS o a 0).length b.length:=by rw[l1];exact isM_mtS o b
 have:=rounds_eq hA hB (by omega) (by omega) (by omega) o a b (cc o a b) (yld:=fun(s:(List ApiChunk)) (p:Diff3Ends × Diff3Ends)=>jd o a b s p.1 p.2) (fun s p q hs hp hq h1 h2 h3=>by
  unfold jd
  simp only
  have q1:=hp.o0;have q2:=hq.o1;have q3:=hp.a0;have q4:=hq.a1;have q5:=hp.b0;have q6:=hq.b1
  rw[cut_eq q1 h1 (by omega),cut_eq q3 h2 (by omega),cut_eq q5 h3 (by omega)]
  simp only[Option.bind_some]
  rw[diff3_kind_eq (by have:=mi o p.o q.o;omega) (by have:=mi a p.a q.a;omega)]
  simp only[Option.bind_some]
  rw[g9 (by simp;omega) (by simp;omega)]
  rfl) (o.length+a.length+b.length+1) ⟨0,0,0⟩ [] (stand0 hA hB) (by simp) (by simp only;omega)
 rw[l1]at this
 rw[this]
 unfold cm
 rfl
end Go.Proofs.YtphkaogfinjbjaaGreatDoor
set_option linter.unusedSectionVars false
set_option linter.unusedSimpArgs false
set_option linter.unusedVariables false
namespace Go.Proofs.YtphkaogfinjbjaaGreatDoor
open Go Go.Cn
section
variable {α β:Type} [DecidableEq α] [DecidableEq β]
theorem cut3_map (f:α->β) (l:List α) (i j:Int):cut3 (l.map f) i j=(cut3 l i j).map f:=by unfold cut3;rw[List.map_drop,List.map_take]
theorem cut3_mem {l:List α} {i j:Int} {x:α} (h:x∈cut3 l i j):x∈l:=List.mem_of_mem_take (List.mem_of_mem_drop h)
theorem map_inj_on {f:α->β}:∀{l m:List α},(∀x∈l,∀y∈m,f x=f y->x=y)->l.map f=m.map f->l=m
 | [],[],_,_=>rfl
 | [],_::_,_,h=>by cases h
 |_::_,[],_,h=>by cases h
 |x::l,y::m,hi,h=>by
  simp only[List.map_cons,List.cons.injEq]at h
  rw[hi x List.mem_cons_self y List.mem_cons_self h.1,map_inj_on (fun u hu v hv=>hi u (List.mem_cons_of_mem _ hu) v (List.mem_cons_of_mem _ hv)) h.2]
theorem kindOf_map {f:α->β} {O A B:List α} (hi:∀x∈O++A++B,∀y∈O++A++B,f x=f y->x=y):kindOf (O.map f) (A.map f) (B.map f)=kindOf O A B:=by
 have key:∀l m:List α,(∀x∈l,x∈O++A++B)->(∀x∈m,x∈O++A++B)->((l.map f=m.map f)↔l=m):=fun l m h1 h2=>⟨fun h=>map_inj_on (fun x hx y hy=>hi x (h1 x hx) y (h2 y hy)) h,fun h=>by rw[h]⟩
 have e1:=key O A (fun x hx=>by simp[hx]) (fun x hx=>by simp[hx])
 have e2:=key O B (fun x hx=>by simp[hx]) (fun x hx=>by simp[hx])
 have e3:=key A B (fun x hx=>by simp[hx]) (fun x hx=>by simp[hx])
 unfold kindOf
 simp only[e1,e2,e3]
theorem chunksOf_map {f:α->β} {o a b:List α} (hi:∀x∈o++a++b,∀y∈o++a++b,f x=f y->x=y):cm (o.map f) (a.map f) (b.map f)=cm o a b:=by
 unfold cm
 rw[mtS_map f o a 0 (fun x hx y hy=>hi x (by simp[hx]) y (by simp[hy])),mtS_map f o b 0 (fun x hx y hy=>hi x (by simp[hx]) y (by simp[hy]))]
 simp only[List.length_map]
theorem chunkOf_map {f:α->β} {o a b:List α} (hi:∀x∈o++a++b,∀y∈o++a++b,f x=f y->x=y) (p:Diff3Ends × Diff3Ends):cc (o.map f) (a.map f) (b.map f) p=cc o a b p:=by
 unfold cc
 rw[cut3_map,cut3_map,cut3_map,kindOf_map]
 intro x hx y hy h
 refine hi x ?_ y ?_ h
 ·simp only[List.mem_append]at hx ⊢
  exact hx.imp (fun h=>h.imp cut3_mem cut3_mem) cut3_mem
 ·simp only[List.mem_append]at hy ⊢
  exact hy.imp (fun h=>h.imp cut3_mem cut3_mem) cut3_mem
end
theorem diff3_Parts_eq {o a b:List (List UInt8)} (ho:o.length<=2000) (ha:a.length<=2000) (hb:b.length<=2000):nw o a b=some ((cm o a b).map (cc o a b)):=by
 unfold nw na
 rw[lcs_Numbers_eq (by simp) (by simp;omega)]
 simp only[Option.bind_some,List.map_cons,List.map_nil]
 rw[show idx [List.map (mg [o,a,b]) o,List.map (mg [o,a,b]) a,List.map (mg [o,a,b]) b] 0=some (List.map (mg [o,a,b]) o)from rfl,
  show idx [List.map (mg [o,a,b]) o,List.map (mg [o,a,b]) a,List.map (mg [o,a,b]) b] 1=some (List.map (mg [o,a,b]) a)from rfl,
  show idx [List.map (mg [o,a,b]) o,List.map (mg [o,a,b]) a,List.map (mg [o,a,b]) b] 2=some (List.map (mg [o,a,b]) b)from rfl]
 simp only[Option.bind_some]
 rw[diff3_Chunks_eq (by simpa using ho) (by simpa using ha) (by simpa using hb)]
 simp only[Option.bind_some]
 have hi:∀x∈o++a++b,∀y∈o++a++b,mg [o,a,b] x=mg [o,a,b] y->x=y:=fun x hx y hy h=>numOf_inj (by simpa using hx) h
 rw[chunksOf_map hi]
 congr 1
 exact List.map_congr_left fun p _=>chunkOf_map hi p
structure InR (lo la lb:Nat) (p:Diff3Ends × Diff3Ends):Prop where
 o0:0<=p.1.o
 o1:p.1.o<=p.2.o
 o2:p.2.o<=lo
 a0:0<=p.1.a
 a1:p.1.a<=p.2.a
 a2:p.2.a<=la
 b0:0<=p.1.b
 b1:p.1.b<=p.2.b
 b2:p.2.b<=lb
theorem chF_in {ma mb:List Int} {la lb:Nat} (hA:IsM ma ma.length la) (hB:IsM mb ma.length lb):∀(f:Nat) (e:Diff3Ends),Stand ma mb la lb e->∀p∈chF ma mb la lb f e,InR ma.length la lb p
 | 0,_,_,p,h=>by cases h
 |f+1,e,hs,p,h=>by
  unfold chF at h
  split at h
  ·cases h
  ·rename_i he
   obtain⟨t1,t2,t3,t4,t5⟩:=stepE_spec hA hB hs he
   rcases List.mem_cons.1 h with rfl|h
   ·exact⟨hs.o0,t2,t1.o1,hs.a0,t3,t1.a1,hs.b0,t4,t1.b1⟩
   ·exact chF_in hA hB f _ t1 p h
theorem chF_len (ma mb:List Int) (la lb:Int):∀(f:Nat) (e:Diff3Ends),(chF ma mb la lb f e).length<=f
 | 0,_=>Nat.le_refl _
 |f+1,e=>by
  unfold chF
  split
  ·simp
  ·have:=chF_len ma mb la lb f (nk ma mb la lb e);simp;omega
section
variable {α:Type} [DecidableEq α]
theorem chunksOf_in {o a b:List α}:∀p∈cm o a b,InR o.length a.length b.length p:=by
 have l1:=mtS_len o a 0
 have hA:IsM (mtS o a 0) (mtS o a 0).length a.length:=by rw[l1];exact isM_mtS o a
 have hB:IsM (mtS o b 0) (mtS o a 0).length b.length:=by rw[l1];exact isM_mtS o b
 have:=chF_in hA hB (o.length+a.length+b.length+1) ⟨0,0,0⟩ (stand0 hA hB)
 rw[l1]at this
 exact this
theorem chunksOf_len (o a b:List α):(cm o a b).length<=o.length+a.length+b.length+1:=chF_len ..
end
def pieceOf (o a b:List (List UInt8)) (p:Diff3Ends × Diff3Ends):ApiPart:=
 let k:=kindOf (cut3 o p.1.o p.2.o) (cut3 a p.1.a p.2.a) (cut3 b p.1.b p.2.b)
 let O:=(cut3 o p.1.o p.2.o).flatten
 let A:=(cut3 a p.1.a p.2.a).flatten
 let B:=(cut3 b p.1.b p.2.b).flatten
 if k=4 then⟨true,O,A,B⟩else if k=2 then⟨false,O,B,B⟩else⟨false,O,A,A⟩
def glue (q p:ApiPart):ApiPart:=⟨q.Clash,q.O++p.O,q.A++p.A,q.B++p.B⟩
def pushP (l:List ApiPart) (p:ApiPart):List ApiPart:=match l.reverse with
 |q::m=>if p.Clash=false/\q.Clash=false then m.reverse++[glue q p]else l++[p]
 | []=>[p]
theorem pushP_nil (p:ApiPart):pushP [] p=[p]:=rfl
theorem pushP_snoc (m:List ApiPart) (q p:ApiPart):pushP (m++[q]) p=if p.Clash=false/\q.Clash=false then m++[glue q p]else m++[q]++[p]:=by
 unfold pushP
 simp only[List.reverse_append,List.reverse_cons,List.reverse_nil,List.nil_append,List.cons_append,List.reverse_reverse]
theorem nil_or_snoc {α:Type} (l:List α):l=[]\/∃m q,l=m++[q]:=by
 rcases l.eq_nil_or_concat with h|⟨m,q,h⟩
 ·exact .inl h
 ·exact .inr ⟨m,q,by simpa using h⟩
def piecesOf (o a b:List (List UInt8)):List ApiPart:=(cm o a b).map (pieceOf o a b)
def f8 (o a b:List (List UInt8)):List ApiPart:=(piecesOf o a b).foldl pushP []
theorem join_nil (l:List (List UInt8)):Lib.join l []=l.flatten:=by
 induction l with
 |nil=>rfl
 |cons x l ih=>
  cases l with
  |nil=>simp[Lib.join]
  |cons y l=>simp only[Lib.join,List.nil_append,List.append_nil,List.flatten_cons]at ih ⊢;simp[ih]
theorem Join_eq {l:List (List UInt8)} (h1:l.length<=1000000) (h2:l.flatten.length<=1000000):strings_Join l []=some l.flatten:=by
 unfold strings_Join
 rw[join_nil,if_pos (by omega)]
theorem flatten_le {α:Type} {l m:List (List α)} (h:l.Sublist m):l.flatten.length<=m.flatten.length:=by
 induction h with
 |slnil=>simp
 |cons a h ih=>rw[List.flatten_cons,List.length_append];omega
 |cons_cons a h ih=>rw[List.flatten_cons,List.flatten_cons,List.length_append,List.length_append];omega
theorem im {α:Type} (l:List (List α)) (i j:Int):(cut3 l i j).flatten.length<=l.flatten.length:=flatten_le ((List.drop_sublist _ _).trans (List.take_sublist _ _))
theorem piece_len (o a b:List (List UInt8)) (p:Diff3Ends × Diff3Ends) {n:Nat} (ho:o.flatten.length<=n) (ha:a.flatten.length<=n) (hb:b.flatten.length<=n):(pieceOf o a b p).O.length<=n/\(pieceOf o a b p).A.length<=n/\(pieceOf o a b p).B.length<=n:=by
 have h1:=im o p.1.o p.2.o
 have h2:=im a p.1.a p.2.a
 have h3:=im b p.1.b p.2.b
 unfold pieceOf
 simp only
 split
 ·exact⟨by simp only;omega,by simp only;omega,by simp only;omega⟩
 ·split
  ·exact⟨by simp only;omega,by simp only;omega,by simp only;omega⟩
  ·exact⟨by simp only;omega,by simp only;omega,by simp only;omega⟩
def Small (n:Nat) (p:ApiPart):Prop:=p.O.length<=n/\p.A.length<=n/\p.B.length<=n
theorem Small.mono {n m:Nat} {p:ApiPart} (h:Small n p) (hm:n<=m):Small m p:=⟨Nat.le_trans h.1 hm,Nat.le_trans h.2.1 hm,Nat.le_trans h.2.2 hm⟩
theorem pushP_small {n k:Nat} {l:List ApiPart} {p:ApiPart} (hl:l.length<=n/\∀q∈l,Small (n * k) q) (hp:Small k p):(pushP l p).length<=n+1/\∀q∈pushP l p,Small ((n+1) * k) q:=by
 have e:(n+1) * k=n * k+k:=by rw[Nat.add_mul,Nat.one_mul]
 obtain⟨p1,p2,p3⟩:=hp
 rcases nil_or_snoc l with rfl|⟨m,q,rfl⟩
 ·rw[pushP_nil]
  refine⟨by simp,fun x hx=> ?_⟩
  rw[List.mem_singleton.1 hx]
  exact⟨by omega,by omega,by omega⟩
 ·rw[pushP_snoc]
  obtain⟨h1,h2⟩:=hl
  obtain⟨q1,q2,q3⟩:=h2 q (by simp)
  simp only[List.length_append,List.length_cons,List.length_nil]at h1
  split
  ·refine⟨by simp;omega,fun x hx=> ?_⟩
   rcases List.mem_append.1 hx with hx|hx
   ·exact(h2 x (by simp[hx])).mono (by omega)
   ·rw[List.mem_singleton.1 hx]
    exact⟨by simp[glue];omega,by simp[glue];omega,by simp[glue];omega⟩
  ·refine⟨by simp;omega,fun x hx=> ?_⟩
   rcases List.mem_append.1 hx with hx|hx
   ·exact(h2 x hx).mono (by omega)
   ·rw[List.mem_singleton.1 hx]
    exact⟨by omega,by omega,by omega⟩
theorem sideM_push (l:List ApiPart) (p:ApiPart) (k:Int):sideM (pushP l p) k=sideM l k++selS k p:=by
 rcases nil_or_snoc l with rfl|⟨m,q,rfl⟩
 ·rw[pushP_nil];simp[sideM]
 ·rw[pushP_snoc]
  split
  ·have:selS k (glue q p)=selS k q++selS k p:=by unfold selS glue;split;rfl;split;rfl;split;rfl;rfl
   simp[sideM,this]
  ·simp[sideM]
theorem sideM_foldP (k:Int):∀(ps l:List ApiPart),sideM (ps.foldl pushP l) k=sideM l k++(ps.map (selS k)).flatten
 | [],l=>by simp
 |p::ps,l=>by rw[List.foldl_cons,sideM_foldP k ps,sideM_push];simp
theorem sideM_parts (o a b:List (List UInt8)) (k:Int):sideM (f8 o a b) k=((piecesOf o a b).map (selS k)).flatten:=by
 unfold f8
 rw[sideM_foldP]
 simp[sideM]
theorem flat_small {α β:Type} (f:α->List β) (n:Nat):∀l:List α,(∀x∈l,(f x).length<=n)->(l.map f).flatten.length<=l.length * n
 | [],_=>by simp
 |x::l,h=>by
  have h1:=h x List.mem_cons_self
  have h2:=flat_small f n l (fun y hy=>h y (List.mem_cons_of_mem _ hy))
  simp only[List.map_cons,List.flatten_cons,List.length_append,List.length_cons,Nat.add_mul,Nat.one_mul]
  omega
theorem selS_small {n:Nat} {p:ApiPart} (h:Small n p) (k:Int):(selS k p).length<=n:=by
 unfold selS
 split
 ·exact h.1
 ·split
  ·exact h.2.1
  ·split
   ·exact h.2.2
   ·exact Nat.zero_le _
theorem weave_parts_eq {o a b:List (List UInt8)} (ho:o.length<=2000) (ha:a.length<=2000) (hb:b.length<=2000) (ho':o.flatten.length<=1000) (ha':a.flatten.length<=1000) (hb':b.flatten.length<=1000):
  np o a b=some (f8 o a b)/\Fits (f8 o a b):=by
 unfold np
 rw[diff3_Parts_eq ho ha hb]
 simp only[Option.bind_some]
 have hlen:=chunksOf_len o a b
 have key:=ij (cm o a b) (fun i (l:List ApiPart)=>((i:Int),l)) (step:=fun s=>gl ((cm o a b).map (cc o a b)) o a b s.1 s.2) (fun l p=>pushP l (pieceOf o a b p)) (fun l=>l) (fun i l=>l.length<=i/\∀q∈l,Small (i * 1000) q) (fun i h l hinv=>by
  refine⟨?_,pushP_small hinv (piece_len o a b _ ho' ha' hb')⟩
  have hin:=chunksOf_in _ (List.getElem_mem h)
  generalize hp:(cm o a b)[i]=p at *
  obtain⟨hl,hsm⟩:=hinv
  unfold gl
  rw[if_pos (by simp;omega),bv (by simpa using h)]
  simp only[Option.bind_some,List.getElem_map,hp]
  obtain⟨q1,q2,q3,q4,q5,q6,q7,q8,q9⟩:=hin
  have c1:=im o p.1.o p.2.o
  have c2:=im a p.1.a p.2.a
  have c3:=im b p.1.b p.2.b
  have d1:=mi o p.1.o p.2.o
  have d2:=mi a p.1.a p.2.a
  have d3:=mi b p.1.b p.2.b
  rw[show(cc o a b p).O.From=p.1.o from rfl,show(cc o a b p).O.To=p.2.o from rfl,show(cc o a b p).A.From=p.1.a from rfl,show(cc o a b p).A.To=p.2.a from rfl,show(cc o a b p).B.From=p.1.b from rfl,show(cc o a b p).B.To=p.2.b from rfl]
  rw[cut_eq q1 q2 q3,cut_eq q4 q5 q6,cut_eq q7 q8 q9]
  simp only[Option.bind_some]
  rw[Join_eq (by omega) (by omega),Join_eq (by omega) (by omega),Join_eq (by omega) (by omega)]
  simp only[Option.bind_some]
  have hkind:(cc o a b p).Kind=kindOf (cut3 o p.1.o p.2.o) (cut3 a p.1.a p.2.a) (cut3 b p.1.b p.2.b):=rfl
  have h6:∀pc:ApiPart,Small 1000 pc->i4 l (i:Int) (cc o a b p) pc=some (.inl (((i+1:Nat):Int),pushP l pc)):=fun pc hpc=>by
   obtain⟨p1,p2,p3⟩:=hpc
   have happ:gm l pc (i:Int) (cc o a b p) false=some (.inl (((i+1:Nat):Int),l++[pc])):=by
    unfold gm ke
    rw[if_neg (by simp),g9 (by simp;omega) (by simp;omega)]
    simp only[Option.bind_some]
    rw[bt (by omega)]
   unfold i4
   rcases nil_or_snoc l with rfl|⟨m,q,rfl⟩
   ·rw[pushP_nil,if_neg (show ¬(decide ((([]:List ApiPart).length:Int)>0))=true by simp),ite_self,happ];rfl
   ·obtain⟨q1,q2,q3⟩:=hsm q (by simp)
    have hidx:idx (m++[q]) (w64 (((m++[q]).length:Int) - 1))=some q:=by
     have:w64 (((m++[q]).length:Int) - 1)=((m.length:Nat):Int):=by
      rw[eh (by simp) (by simp at hl ⊢;omega)];simp
     rw[this,bv (by simp)]
     simp
    rw[pushP_snoc,hidx]
    simp only[Option.bind_some]
    cases hc:pc.Clash with
    |true=>rw[if_neg (by simp),happ];simp
    |false=>
     rw[if_pos (by simp),if_pos (by simp)]
     cases hq:q.Clash with
     |true=>rw[show(!true)=false from rfl,happ];simp
     |false=>
      rw[show(!false)=true from rfl]
      unfold gm weave_parts_j4 ke
      rw[if_pos rfl,hidx]
      simp only[Option.bind_some]
      rw[cat_eq (by omega),cat_eq (by omega),cat_eq (by omega)]
      simp only[Option.bind_some]
      rw[bt (by omega)]
      have:(w64 (((m++[q]).length:Int) - 1)).toNat=m.length:=by
       rw[eh (by simp) (by simp at hl ⊢;omega)];simp
      rw[this,List.set_append_right _ _ (Nat.le_refl _)]
      simp[glue,hq]
  unfold weave_parts_j7
  rw[hkind]
  have hpl:=piece_len o a b p ho' ha' hb'
  unfold pieceOf at hpl ⊢
  simp only at hpl ⊢
  generalize kindOf (cut3 o p.1.o p.2.o) (cut3 a p.1.a p.2.a) (cut3 b p.1.b p.2.b)=k at *
  by_cases h4:k=4
  ·subst h4
   simp only[if_true]at hpl ⊢
   rw[if_pos (by simp)]
   exact h6 _ hpl
  ·rw[if_neg (by simpa using h4),show(k==4)=false by simpa using h4]
   simp only[if_neg h4]at hpl ⊢
   by_cases h2:k=2
   ·subst h2
    simp only[if_true]at hpl ⊢
    rw[if_pos (by simp)]
    exact h6 _ hpl
   ·rw[if_neg (by simpa using h2)]
    simp only[if_neg h2]at hpl ⊢
    exact h6 _ hpl) (fun l _=>by
  unfold gl
  rw[if_neg (by simp)]) (b0:=[]) ⟨by simp,fun q hq=>by cases hq⟩
 obtain⟨h1,h2,h3⟩:=key
 have hfold:(cm o a b).foldl (fun l p=>pushP l (pieceOf o a b p)) []=f8 o a b:=by
  unfold f8 piecesOf
  rw[List.foldl_map]
 rw[hfold]at h1 h2 h3
 have h1:iter (fun s=>gl ((cm o a b).map (cc o a b)) o a b s.1 s.2) (0,[])=some (f8 o a b):=h1
 rw[h1]
 refine⟨rfl,by omega,fun k=> ?_⟩
 rw[sideM_parts]
 have:=flat_small (selS k) 1000 (piecesOf o a b) (fun x hx=>by
  obtain⟨p,_,rfl⟩:=List.mem_map.1 hx
  exact selS_small (piece_len o a b p ho' ha' hb') k)
 have h4:(piecesOf o a b).length=(cm o a b).length:=List.length_map ..
 omega
end Go.Proofs.YtphkaogfinjbjaaGreatDoor
set_option linter.unusedSectionVars false
set_option linter.unusedSimpArgs false
set_option linter.unusedVariables false
namespace Go.Proofs.YtphkaogfinjbjaaGreatDoor
open Go Go.Cn
theorem apart_iter (x y z:Unit->Option (List (List UInt8) × Bool)) (r1 r2 r3:List (List UInt8)) (c1 c2 c3:Bool) (h1:x ()=some (r1,c1)) (h2:y ()=some (r2,c2)) (h3:z ()=some (r3,c3)):
  weave_apart x y z=if c1/\c2/\c3 then(np r1 r2 r3).bind fun l=>some (l,true)else some ([],false):=by
 unfold weave_apart
 have s0:dt x y z 0 (List.replicate 3 [])=if c1 then some (.inl (1,[r1,[],[]]))else some (.inr (.done ([],false))):=by
  unfold dt
  rw[if_pos (by simp),show idx [x,y,z] 0=some x from rfl]
  simp only[Option.bind_some,h1]
  cases c1
  ·rfl
  ·rfl
 have s1:dt x y z 1 [r1,[],[]]=if c2 then some (.inl (2,[r1,r2,[]]))else some (.inr (.done ([],false))):=by
  unfold dt
  rw[if_pos (by simp),show idx [x,y,z] 1=some y from rfl]
  simp only[Option.bind_some,h2]
  cases c2
  ·rfl
  ·rfl
 have s2:dt x y z 2 [r1,r2,[]]=if c3 then some (.inl (3,[r1,r2,r3]))else some (.inr (.done ([],false))):=by
  unfold dt
  rw[if_pos (by simp),show idx [x,y,z] 2=some z from rfl]
  simp only[Option.bind_some,h3]
  cases c3
  ·rfl
  ·rfl
 have s3:dt x y z 3 [r1,r2,r3]=some (.inr (.next [r1,r2,r3])):=by
  unfold dt
  rw[if_neg (by simp)]
 cases c1
 ·rw[@bu noG _ _ _ _ _ s0];rfl
 ·rw[@c9 noG _ _ _ _ (1,[r1,[],[]]) s0]
  cases c2
  ·rw[@bu noG _ _ _ _ _ s1];rfl
  ·rw[@c9 noG _ _ _ _ (2,[r1,r2,[]]) s1]
   cases c3
   ·rw[@bu noG _ _ _ _ _ s2];rfl
   ·rw[@c9 noG _ _ _ _ (3,[r1,r2,r3]) s2, @bu noG _ _ _ _ _ s3]
    rfl
theorem weave_Lines_eq {o a b:List UInt8} (ho:o.length<=600) (ha:a.length<=600) (hb:b.length<=600):
  weave_Lines o a b=some (f8 (fp o) (fp a) (fp b))/\Fits (f8 (fp o) (fp a) (fp b)):=by
 have h1:∀s:List UInt8,s.length<=600->dc s=some (fp s,true):=fun s hs=>by
  unfold dc
  rw[lines_Split_eq (by omega)]
  rfl
 have l1:=splitL_len o
 have l2:=splitL_len a
 have l3:=splitL_len b
 obtain⟨h2,h3⟩:=weave_parts_eq (o:=fp o) (a:=fp a) (b:=fp b) (by omega) (by omega) (by omega) (by rw[splitL_flat];omega) (by rw[splitL_flat];omega) (by rw[splitL_flat];omega)
 unfold weave_Lines
 rw[apart_iter _ _ _ (fp o) (fp a) (fp b) true true true (h1 o ho) (h1 a ha) (h1 b hb),if_pos ⟨rfl,rfl,rfl⟩,h2]
 exact⟨rfl,h3⟩
def AltB (cs:List Bool):Prop:=∀i c,cs[i]? =some c->cs[i+1]? =some false->c=true
structure GoodP (l:List ApiPart):Prop where
 clash:∀p∈l,p.Clash=true->p.A≠p.B
 calm:∀p∈l,p.Clash=false->p.A=p.B
 alt:AltB (l.map (·.Clash))
end Go.Proofs.YtphkaogfinjbjaaGreatDoor
set_option linter.unusedSectionVars false
set_option linter.unusedSimpArgs false
set_option linter.unusedVariables false
namespace Go.Proofs.YtphkaogfinjbjaaGreatDoor
open Go Go.Cn
theorem backL_len :∀(l:List ApiToken) (a:Nat) (s:List UInt8),backL a s l->l.length<=s.length+1
 | [],_,_,h=>h.elim
 |t::l,a,s,⟨_,s',hs,h⟩=>by
  rcases h with⟨rfl,_,_,_⟩|⟨_,_,h1,h⟩
  ·simp
  ·have:=backL_len l _ _ h
   have h2:0<t.Text.length:=List.length_pos_iff.2 h1
   rw[hs]
   simp only[List.length_cons,List.length_append]
   omega
theorem unlexL_flat :∀l:List ApiToken,(l.map fun t=>t.Lead++t.Text).flatten=unlexL l
 | []=>rfl
 |t::l=>by simp only[List.map_cons,List.flatten_cons,unlexL,unlexL_flat l]
def co (x:List UInt8):List (List UInt8) × Bool:=if(lexM x).2.2=0 then((lexM x).1.map fun t=>t.Lead++t.Text,true)else([],false)
theorem unitsM_len (x:List UInt8):(co x).1.length<=x.length+1/\(co x).1.flatten.length<=x.length:=by
 unfold co
 split
 ·rename_i h
  obtain⟨_,_,hb⟩:=lexR_back (lexM_rel x) h
  simp only[List.length_map]
  rw[unlexL_flat,backL_unlex _ _ _ hb]
  exact⟨backL_len _ _ _ hb,Nat.le_refl _⟩
 ·simp
theorem units_eq {x:List UInt8} (hx:x.length<=600):c6 x=some (co x):=by
 unfold c6
 rw[lex_Lex_eq x (by omega)]
 unfold lexI
 simp only[Option.bind_some]
 by_cases h:(lexM x).2.2=0
 ·rw[if_neg (by simp[h])]
  obtain⟨_,_,hb⟩:=lexR_back (lexM_rel x) h
  have h1:=backL_len _ _ _ hb
  have h2:=backL_unlex _ _ _ hb
  have hu:co x=((lexM x).1.map fun t=>t.Lead++t.Text,true):=by unfold co;rw[if_pos h]
  rw[hu]
  generalize (lexM x).1=l at *
  have h3:(l.map fun t=>t.Lead++t.Text).flatten.length=x.length:=by rw[unlexL_flat,h2]
  have key:=ij l (fun i (b:List (List UInt8))=>((i:Int),b)) (step:=fun s=>cq l s.1 s.2) (fun b t=>b++[t.Lead++t.Text]) (fun b=>b) (fun i b=>b.length<=i/\b=(l.take i).map fun t=>t.Lead++t.Text) (fun i h b hb=>by
   obtain⟨hb1,hb2⟩:=hb
   refine⟨?_,by simp;omega,by rw[List.take_succ_eq_append_getElem h,List.map_append,hb2];rfl⟩
   have hbd:=flat_bound (fun t:ApiToken=>t.Lead++t.Text) h
   simp only[List.length_append]at hbd
   unfold cq
   rw[if_pos (by simp;omega),bv h]
   simp only[Option.bind_some]
   rw[cat_eq (by omega)]
   simp only[Option.bind_some]
   rw[g9 (by simp;omega) (by simp;omega)]
   simp only[Option.bind_some]
   rw[bt (by omega)]) (fun b _=>by
   unfold cq
   rw[if_neg (by simp)]) (b0:=[]) ⟨by simp,by simp⟩
  obtain⟨k1,k2,k3⟩:=key
  have k1:iter (fun s=>cq l s.1 s.2) (0,[])=_:=k1
  rw[k1,k3]
  simp[iy]
 ·rw[if_pos (by simpa using h)]
  unfold co
  rw[if_neg h]
section
variable {α:Type} [DecidableEq α]
end
def mergeM (o a b:List UInt8):List UInt8 × Bool:=
 if(co o).2=true/\(co a).2=true/\(co b).2=true/\(joinM (f8 (co o).1 (co a).1 (co b).1)).2=true
 then joinM (f8 (co o).1 (co a).1 (co b).1)else joinM (f8 (fp o) (fp a) (fp b))
def textM (o a b:List UInt8):List UInt8 × Bool:=if a=o then(b,true)else if b=o\/a=b then(a,true)else mergeM o a b
theorem weave_Text_eq {o a b:List UInt8} (ho:o.length<=600) (ha:a.length<=600) (hb:b.length<=600):weave_Text o a b=some (textM o a b):=by
 obtain⟨l1,l2⟩:=weave_Lines_eq ho ha hb
 have hj1:lz o a b=some (joinM (f8 (fp o) (fp a) (fp b))):=by
  unfold lz
  rw[l1]
  simp only[Option.bind_some]
  rw[weave_Join_eq l2]
  rfl
 have hm:io a o b false=some (mergeM o a b):=by
  unfold io weave_Tokens
  rw[if_neg (by simp),apart_iter _ _ _ (co o).1 (co a).1 (co b).1 (co o).2 (co a).2 (co b).2 (units_eq ho) (units_eq ha) (units_eq hb),hj1]
  have u1:=unitsM_len o
  have u2:=unitsM_len a
  have u3:=unitsM_len b
  unfold mergeM
  by_cases hc:(co o).2=true/\(co a).2=true/\(co b).2=true
  ·obtain⟨p1,p2⟩:=weave_parts_eq (o:=(co o).1) (a:=(co a).1) (b:=(co b).1) (by omega) (by omega) (by omega) (by omega) (by omega) (by omega)
   rw[if_pos hc,p1]
   simp only[Option.bind_some]
   rw[if_pos trivial,weave_Join_eq p2]
   simp only[Option.bind_some]
   cases hj:(joinM (f8 (co o).1 (co a).1 (co b).1)).2 with
   |true=>
    rw[if_pos rfl,if_pos ⟨hc.1,hc.2.1,hc.2.2,rfl⟩]
    congr 1
    exact Prod.ext rfl hj.symm
   |false=>rw[if_neg (by simp),if_neg (by simp)]
  ·rw[if_neg hc,if_neg (fun h=>hc ⟨h.1,h.2.1,h.2.2.1⟩)]
   simp only[Option.bind_some]
   rw[if_neg (by simp)]
 unfold weave_Text textM
 by_cases h1:a=o
 ·rw[if_pos (by simpa using h1),if_pos h1]
 ·rw[if_neg (by simpa using h1),if_neg h1]
  by_cases h2:b=o
  ·rw[if_pos (by simpa using h2),if_pos (.inl h2)]
   unfold io
   rw[if_pos (by simpa using h2)]
  ·rw[if_neg (by simpa using h2)]
   by_cases h3:a=b
   ·rw[if_pos (.inr h3)]
    unfold io
    rw[if_pos (by simpa using h3)]
   ·rw[if_neg (fun h=>h.elim h2 h3),show(a==b)=false by simpa using h3]
    exact hm
end Go.Proofs.YtphkaogfinjbjaaGreatDoor
set_option linter.unusedSectionVars false
set_option linter.unusedSimpArgs false
set_option linter.unusedVariables false
namespace Go.Proofs.YtphkaogfinjbjaaGreatDoor
open Go Go.Cn
theorem lineLen_inner :∀s:List UInt8,Inner s->dy s=s.length
 | [],_=>rfl
 |c::s,h=>by
  unfold dy
  rw[if_neg (fun e=>h (by simp[e])),lineLen_inner s (fun e=>h (by simp[e]))]
  rfl
theorem splitL_inner {s:List UInt8} (h:Inner s) (hs:s≠[]):fp s=[s]:=by
 rw[splitL_cons hs,lineLen_inner s h,List.take_length,List.drop_length,splitL_nil]
theorem ref01_Split_eq {x:List UInt8} (hx:x.length<=1000000):nu x=some (fp x):=by
 have key:∀n (f i:Nat) (out:List (List UInt8)),i+n=x.length->f<=i->out.length<=f->Inner ((x.drop f).take (i - f))->
   (iter (fun s:Int × Int × List (List UInt8)=>d9 x s.1 s.2.1 s.2.2) ((f:Int),(i:Int),out)).bind (fun p=>mz x p.1 p.2)=some (out++fp (x.drop f)):=by
  intro n
  induction n with
  |zero=>
   intro f i out hi hf ho hin
   have he:iter (fun s:Int × Int × List (List UInt8)=>d9 x s.1 s.2.1 s.2.2) ((f:Int),(i:Int),out)=some ((f:Int),out):=by
    refine @bu noG _ _ _ _ _ ?_
    unfold d9
    rw[if_neg (by simp;omega)]
   rw[he]
   simp only[Option.bind_some]
   unfold mz m0
   by_cases hfl:f<x.length
   ·rw[if_pos (by simpa using hfl),show((x.length:Nat):Int)=((x.length:Nat):Int)from rfl,sub_nat (by omega) (Nat.le_refl _),List.take_length]
    simp only[Option.bind_some]
    rw[g9 (by simp;omega) (by simp;omega)]
    simp only[Option.bind_some]
    have hne:x.drop f≠[]:=fun h=>by have:=congrArg List.length h;simp at this;omega
    have hin':Inner (x.drop f):=by
     rw[List.take_of_length_le (by simp;omega)]at hin;exact hin
    rw[splitL_inner hin' hne]
   ·rw[if_neg (by simpa using hfl)]
    have:x.drop f=[]:=List.drop_eq_nil_of_le (by omega)
    rw[this,splitL_nil,List.append_nil]
  |succ n ih=>
   intro f i out hi hf ho hin
   have hil:i<x.length:=by omega
   have hd:(x.drop f).drop (i - f)=x[i]::x.drop (i+1):=by
    rw[List.drop_drop,show f+(i - f)=i by omega,List.drop_eq_getElem_cons hil]
   have hsp:x.drop f=(x.drop f).take (i - f)++x[i]::x.drop (i+1):=by rw[← hd,List.take_append_drop]
   have hul:((x.drop f).take (i - f)).length=i - f:=by simp;omega
   by_cases hc:x[i]=10
   ·have hst:d9 x (f:Int) (i:Int) out=some (.inl (((i+1:Nat):Int),((i+1:Nat):Int),out++[(x.take (i+1)).drop f])):=by
     unfold d9 kq
     rw[if_pos (by simp;omega),nd hil]
     simp only[Option.bind_some]
     rw[if_pos (by simp[hc]),bt (by omega),sub_nat (by omega) (by omega)]
     simp only[Option.bind_some]
     rw[g9 (by simp;omega) (by simp;omega)]
     rfl
    rw[@c9 noG _ _ _ _ (((i+1:Nat):Int),((i+1:Nat):Int),out++[(x.take (i+1)).drop f]) hst,ih (i+1) (i+1) _ (by omega) (Nat.le_refl _) (by simp;omega) (by simp[Inner])]
    have hne:x.drop f≠[]:=fun h=>by have:=congrArg List.length h;simp at this;omega
    have hll:dy (x.drop f)=i - f+1:=by
     conv=>lhs;rw[hsp,hc]
     rw[lineLen_end _ _ hin,hul]
    rw[splitL_cons hne,hll,List.drop_drop,show f+(i - f+1)=i+1 by omega]
    have:(x.take (i+1)).drop f=(x.drop f).take (i - f+1):=by rw[List.drop_take];congr 1;omega
    rw[this]
    simp
   ·have hst:d9 x (f:Int) (i:Int) out=some (.inl ((f:Int),((i+1:Nat):Int),out)):=by
     unfold d9 kq
     rw[if_pos (by simp;omega),nd hil]
     simp only[Option.bind_some]
     rw[if_neg,bt (by omega)]
     intro h
     apply hc
     have h2:(x[i].toNat:Int)=10:=by simpa using h
     have h3:x[i].toNat=10:=by omega
     exact UInt8.toNat.inj h3
    rw[@c9 noG _ _ _ _ ((f:Int),((i+1:Nat):Int),out) hst,ih f (i+1) out (by omega) (by omega) ho ?_]
    have:(x.drop f).take (i+1 - f)=(x.drop f).take (i - f)++[x[i]]:=by
     conv=>lhs;rw[hsp]
     rw[List.take_append,hul,show i+1 - f - (i - f)=1 by omega,List.take_of_length_le (by rw[hul];omega)]
     rfl
    rw[this]
    unfold Inner at hin ⊢
    simp only[List.mem_append,List.mem_singleton]
    intro h
    rcases h with h|h
    ·exact hin h
    ·exact hc h.symm
 unfold nu
 have:=key x.length 0 0 [] (by omega) (by omega) (by simp) (by simp[Inner])
 simpa using this
theorem find_eq {ks:List (List UInt8)} {rows:List (List (List UInt8))} {i k:Nat} (hi:i<rows.length) (hk:k<rows[i].length) (hl:ks.length<=1000000000000):
  iter (fun s=>dv ks rows (i:Int) (k:Int) s) 0=some ((ks.idxOf rows[i][k]:Nat):Int):=by
 have key:∀n (j:Nat),j+n=ks.length->iter (fun s=>dv ks rows (i:Int) (k:Int) s) (j:Int)=some ((j+(ks.drop j).idxOf rows[i][k]:Nat):Int):=by
  intro n
  induction n with
  |zero=>
   intro j hj
   refine @bu noG _ _ _ _ _ ?_
   unfold dv ga
   rw[if_neg (by simp;omega),if_neg (by simp),List.drop_eq_nil_of_le (by omega)]
   simp
  |succ n ih=>
   intro j hj
   have hjl:j<ks.length:=by omega
   rw[List.drop_eq_getElem_cons hjl]
   by_cases he:ks[j]=rows[i][k]
   ·refine @bu noG _ _ _ _ _ ?_
    unfold dv ga
    rw[if_pos (by simp;omega),bv hjl,bv hi]
    simp only[Option.bind_some]
    rw[bv hk]
    simp only[Option.bind_some]
    rw[if_neg (by simp[he]),List.idxOf_cons,he]
    simp
   ·have hst:dv ks rows (i:Int) (k:Int) (j:Int)=some (.inl (((j+1:Nat):Int))):=by
     unfold dv ga
     rw[if_pos (by simp;omega),bv hjl,bv hi]
     simp only[Option.bind_some]
     rw[bv hk]
     simp only[Option.bind_some]
     rw[if_pos (by simp[he]),bt (by omega)]
    rw[@c9 noG _ _ _ _ _ hst,ih (j+1) (by omega),List.idxOf_cons]
    have:(ks[j]==rows[i][k])=false:=by simpa using he
    rw[this]
    simp only[cond_false]
    congr 2
    omega
 have:=key ks.length 0 (by omega)
 simp only[List.drop_zero,Nat.zero_add]at this
 exact this
theorem numRow05 {rows:List (List (List UInt8))} {i:Nat} (hi:i<rows.length) {ks:List (List UInt8)} (h:ks.length+rows[i].length<=1000000000):
  iter (fun s:Int × List (List UInt8) × List Int=>ed rows (i:Int) s.1 s.2.1 s.2.2) (0,ks,[])=some (rows[i].foldl addK ks,rows[i].map fun s=>((rows[i].foldl addK ks).idxOf s:Int)):=by
 have:=ij rows[i] (fun k (b:List (List UInt8) × List Int)=>((k:Int),b.1,b.2)) (step:=fun s=>ed rows (i:Int) s.1 s.2.1 s.2.2) numG (fun b=>(b.1,b.2)) (fun k b=>b.1.length<=ks.length+k/\b.2.length<=k) (fun k hk b hb=>by
  have hl:=addK_len b.1 rows[i][k]
  refine⟨?_,by unfold numG;simp only[List.length_append,List.length_cons,List.length_nil];omega⟩
  unfold ed
  rw[bv hi]
  simp only[Option.bind_some]
  rw[if_pos (by simp;omega),find_eq hi hk (by omega)]
  simp only[Option.bind_some]
  unfold nf jy numG addK
  by_cases hm:rows[i][k]∈b.1
  ·have hlt:b.1.idxOf rows[i][k]<b.1.length:=List.idxOf_lt_length_of_mem hm
   rw[if_neg (by simp;omega)]
   simp only[hm,if_true]
   rw[g9 (by simp;omega) (by simp;omega)]
   simp only[Option.bind_some]
   rw[bt (by omega)]
  ·have hlt:b.1.idxOf rows[i][k]=b.1.length:=List.idxOf_eq_length hm
   rw[if_pos (by simp[hlt]),bv hi]
   simp only[Option.bind_some]
   rw[bv hk]
   simp only[Option.bind_some,hm,if_false]
   rw[g9 (by simp;omega) (by simp;omega)]
   simp only[Option.bind_some]
   rw[g9 (by simp;omega) (by simp;omega)]
   simp only[Option.bind_some]
   rw[bt (by omega),List.idxOf_append,if_neg hm,hlt]
   simp) (fun b _=>by
  unfold ed
  rw[bv hi]
  simp only[Option.bind_some]
  rw[if_neg (by simp)]) (b0:=(ks,[])) (by simp)
 have h1:iter (fun s:Int × List (List UInt8) × List Int=>ed rows (i:Int) s.1 s.2.1 s.2.2) (0,ks,[])=some ((rows[i].foldl numG (ks,[])).1,(rows[i].foldl numG (ks,[])).2):=this.1
 rw[h1,numG_fold]
 simp
theorem ref05_Numbers_eq {rows:List (List (List UInt8))} (h1:rows.length<=1000000) (h2:rows.flatten.length<=1000000):ref05_Numbers rows=some (rows.map fun r=>r.map (mg rows)):=by
 unfold ref05_Numbers
 have:=ij rows (fun i (b:List (List UInt8) × List (List Int))=>((i:Int),b.1,b.2)) (step:=fun s=>fe rows s.1 s.2.1 s.2.2) numsG (fun b=>b.2) (fun i b=>b.1.length<=(rows.take i).flatten.length/\b.2.length<=i) (fun i hi b hb=>by
  have hfl:(rows.take (i+1)).flatten=(rows.take i).flatten++rows[i]:=by rw[List.take_succ_eq_append_getElem hi,List.flatten_append];simp
  have hle:(rows.take (i+1)).flatten.length<=rows.flatten.length:=by
   have:rows.flatten=(rows.take (i+1)).flatten++(rows.drop (i+1)).flatten:=by rw[← List.flatten_append,List.take_append_drop]
   rw[this,List.length_append];omega
  rw[hfl,List.length_append]at hle
  have hl:=addKs_len rows[i] b.1
  refine⟨?_,by rw[hfl,List.length_append];unfold numsG;simp only[List.length_append,List.length_cons,List.length_nil];omega⟩
  unfold fe
  rw[if_pos (by simp;omega),numRow05 hi (ks:=b.1) (by omega)]
  simp only[Option.bind_some]
  unfold ng
  rw[g9 (by simp;omega) (by simp;omega)]
  simp only[Option.bind_some]
  rw[bt (by omega)]
  rfl) (fun b _=>by
  unfold fe
  rw[if_neg (by simp)]) (b0:=([],[])) (by simp)
 have h3:iter (fun s:Int × List (List UInt8) × List (List Int)=>fe rows s.1 s.2.1 s.2.2) (0,[],[])=some (rows.foldl numsG ([],[])).2:=this.1
 rw[h3,numsG_fold]
 simp[nh,mg,keysOf]
theorem nones_eq {a:List Int} (h:a.length<=1000000):iter (fun s:Int × List Int=>ew a s.1 s.2) (0,[])=some (List.replicate a.length (-1)):=by
 have:=ij a (fun i (b:List Int)=>((i:Int),b)) (step:=fun s=>ew a s.1 s.2) (fun b _=>b++[-1]) (fun b=>b) (fun i b=>b=List.replicate i (-1)) (fun i hi b hb=>by
  subst hb
  refine⟨?_,List.replicate_succ'.symm⟩
  unfold ew
  rw[if_pos (by simp;omega),g9 (by simp;omega) (by simp;omega)]
  simp only[Option.bind_some]
  rw[bt (by omega)]) (fun b _=>by
  unfold ew
  rw[if_neg (by simp)]) (b0:=[]) rfl
 have h1:iter (fun s:Int × List Int=>ew a s.1 s.2) (0,[])=_:=this.1
 rw[h1,this.2]
theorem ref05_Match_eq {a b:List Int} (ha:a.length<=2000) (hb:b.length<=2000):ref05_Match a b=some (mtS a b 0):=by
 have h:=lcs_Match_eq ha hb
 unfold lcs_Match at h
 rw[lcs_none_eq (by omega)]at h
 simp only[Option.bind_some]at h
 rw[if_neg (by simp;omega)]at h
 have hd:decide ((b.length:Int)>2000)=false:=by simp;omega
 rw[hd]at h
 unfold oc at h
 simp only[Bool.false_eq_true,if_false]at h
 have hl:lcs_left a b=some (rowsM a b):=by unfold lcs_left;rw[if_pos ⟨by omega,by omega⟩,lcsRows_eq wrap32 a b (by omega)]
 rw[hl]at h
 simp only[Option.bind_some]at h
 unfold ref05_Match
 rw[nones_eq (by omega)]
 simp only[Option.bind_some]
 unfold ref05_Match_k13
 rw[if_neg (by simp;omega),hd]
 unfold ln
 simp only[Bool.false_eq_true,if_false]
 have hr:ref05_table a b=some (rowsM a b):=by unfold ref05_table;rw[if_pos ⟨by omega,by omega⟩,lcsRows_eq wrap64 a b (by omega)]
 rw[hr]
 simp only[Option.bind_some]
 exact h
theorem ref05_Same_eq {a b:List Int} (h:a.length<=1000000):ref05_Same a b=some (decide (a=b)):=slices_Equal_eq h
theorem ref07_kind_eq {O A B:List Int} (h1:O.length<=1000000) (h2:A.length<=1000000):ref07_kind O A B=some (kindOf O A B):=by
  unfold ref07_kind ref07_kind_j1 kindOf
  rw[ref05_Same_eq h1,ref05_Same_eq h1,ref05_Same_eq h2]
  simp only[Option.bind_some]
  by_cases e1:O=A
  · by_cases e2:O=B
    · simp[e1,e2];simp[← e1,e2]
    · simp[e1,e2];simp[← e1,e2]
  · by_cases e2:O=B
    · simp[e1,e2];simp[← e2,e1]
    · by_cases e3:A=B
      · simp[e1,e2,e3]
      · simp[e1,e2,e3]
end Go.Proofs.YtphkaogfinjbjaaGreatDoor
set_option linter.unusedSectionVars false
set_option linter.unusedSimpArgs false
set_option linter.unusedVariables false
namespace Go.Proofs.YtphkaogfinjbjaaGreatDoor
open Go Go.Cn
theorem stab07_eq {o:List Int} {ma mb:List Int} {la lb:Nat} (hm:ma.length<=1000000) (hol:o.length=ma.length) (hml:mb.length=ma.length) (hla:la<=1000000) (hlb:lb<=1000000) {e:Diff3Ends} (hs:Stand ma mb la lb e):
  iter (fun s=>ea e.o o ma e.a mb e.b s) 0=some ((stab ma mb e.o e.a e.b:Nat):Int):=by
 obtain⟨q1,q2,q3,q4,q5,q6,_,_⟩:=hs
 have key:∀f n,n+f=ma.length->iter (fun s=>ea e.o o ma e.a mb e.b s) (n:Int)=some ((stabF ma mb ma.length e.o e.a e.b f n:Nat):Int):=by
  intro f
  induction f with
  |zero=>
   intro n hn
   refine @bu noG _ _ _ _ _ ?_
   unfold ea ec
   rw[eh (by omega) (by omega),hol,if_neg (by simp;omega),if_neg (by simp)]
   rfl
  |succ f ih=>
   intro n hn
   unfold stabF
   have w1:w64 (e.o+(n:Int))=e.o+n:=eh (by omega) (by omega)
   have w2:w64 (e.a+(n:Int))=e.a+n:=eh (by omega) (by omega)
   have w3:w64 (e.b+(n:Int))=e.b+n:=eh (by omega) (by omega)
   by_cases hlt:e.o+(n:Int)<ma.length
   ·have g1:(e.o+(n:Int)).toNat<ma.length:=by omega
    have g2:(e.o+(n:Int)).toNat<mb.length:=by omega
    have i1:ma[(e.o+(n:Int)).toNat]? =some (ma[(e.o+(n:Int)).toNat]):=List.getElem?_eq_getElem g1
    have i2:mb[(e.o+(n:Int)).toNat]? =some (mb[(e.o+(n:Int)).toNat]):=List.getElem?_eq_getElem g2
    by_cases hc:ma[(e.o+(n:Int)).toNat]? =some (e.a+n)/\mb[(e.o+(n:Int)).toNat]? =some (e.b+n)
    ·rw[if_pos ⟨hlt,hc⟩]
     rw[@c9 noG _ _ _ _ (((n+1:Nat):Int)) (by
      unfold ea ec
      rw[w1,w2,w3,hol,if_pos (by simpa using hlt),idx_int (by omega) hc.1]
      simp only[Option.bind_some]
      rw[if_pos (by simp),idx_int (by omega) hc.2]
      simp only[Option.bind_some]
      rw[if_pos (by simp),bt (by omega)])]
     exact ih (n+1) (by omega)
    ·rw[if_neg (fun h=>hc h.2)]
     refine @bu noG _ _ _ _ _ ?_
     unfold ea ec
     rw[w1,w2,w3,hol,if_pos (by simpa using hlt),idx_int (by omega) i1]
     simp only[Option.bind_some]
     by_cases hx:ma[(e.o+(n:Int)).toNat]=e.a+n
     ·rw[if_pos (by simp[hx]),idx_int (by omega) i2]
      simp only[Option.bind_some]
      rw[if_neg]
      intro h
      exact hc ⟨by rw[i1,hx],by rw[i2];congr 1;simpa using h⟩
     ·rw[if_neg (by simpa using hx),if_neg (by simp)]
   ·rw[if_neg (fun h=>hlt h.1)]
    refine @bu noG _ _ _ _ _ ?_
    unfold ea ec
    rw[w1,hol,if_neg (by simpa using hlt),if_neg (by simp)]
 exact key ma.length 0 (by omega)
theorem next07_eq {o ma mb:List Int} (hm:ma.length<=1000000) (hol:o.length=ma.length) (hml:mb.length=ma.length) (la lb:Int):
  ∀f p,p+f=ma.length->∃q:Nat,q<=ma.length/\iter (fun s=>eu o ma mb s) (p:Int)=some (q:Int)/\
   ((q=ma.length/\nextF ma mb la lb f p=⟨(q:Int),la,lb⟩)\/∃u v,ma[q]? =some u/\mb[q]? =some v/\nextF ma mb la lb f p=⟨(q:Int),u,v⟩):=by
 intro f
 induction f with
 |zero=>
  intro p hp
  refine⟨p,by omega, @bu noG _ _ _ _ _ ?_,.inl ⟨by omega,?_⟩⟩
  ·unfold eu f0
   rw[if_neg (by simp;omega),if_neg (by simp)]
  ·unfold nextF;rw[show p=ma.length by omega]
 |succ f ih=>
  intro p hp
  have g1:p<ma.length:=by omega
  have g2:p<mb.length:=by omega
  unfold nextF
  rw[List.getElem?_eq_getElem g1,List.getElem?_eq_getElem g2]
  simp only
  by_cases hc:0<=ma[p]/\0<=mb[p]
  ·rw[if_pos hc]
   refine⟨p,by omega, @bu noG _ _ _ _ _ ?_,.inr ⟨_,_,List.getElem?_eq_getElem g1,List.getElem?_eq_getElem g2,rfl⟩⟩
   unfold eu f0
   rw[if_pos (by simp;omega),bv g1]
   simp only[Option.bind_some]
   rw[if_neg (by simpa using hc.1),bv g2]
   simp only[Option.bind_some]
   rw[if_neg (by simpa using hc.2)]
  ·rw[if_neg hc]
   have hst:eu o ma mb (p:Int)=some (.inl (((p+1:Nat):Int))):=by
    unfold eu f0
    rw[if_pos (by simp;omega),bv g1]
    simp only[Option.bind_some]
    rw[bt (by omega)]
    by_cases h1:ma[p]<0
    ·rw[if_pos (by simpa using h1),if_pos trivial]
    ·rw[if_neg (by simpa using h1),bv g2]
     simp only[Option.bind_some]
     rw[if_pos (by simp;omega)]
   rw[@c9 noG _ _ _ _ _ hst]
   exact ih (p+1) (by omega)
theorem rounds07_eq {o a b ma mb:List Int} (hol:o.length=ma.length) (hA:IsM ma ma.length a.length) (hB:IsM mb ma.length b.length) (hm:ma.length<=1000000) (hla:a.length<=1000000) (hlb:b.length<=1000000):
  ∀(f:Nat) (e:Diff3Ends) (s:List ApiChunk),Stand ma mb a.length b.length e->(s.length:Int)<=e.o+e.a+e.b->(ma.length:Int)+a.length+b.length<e.o+e.a+e.b+f->
   iter (fun s:Int × Int × Int × List ApiChunk=>ev o ma mb a b s.1 s.2.1 s.2.2.1 s.2.2.2) (e.o,e.a,e.b,s)=some (s++(chF ma mb a.length b.length f e).map (cc o a b))
 | 0,e,s,hs,_,hf=>by have:=hs.o1;have:=hs.a1;have:=hs.b1;omega
 |f+1,e,s,hs,hl,hf=>by
  have q1:=hs.o0
  have q2:=hs.o1
  have q3:=hs.a0
  have q4:=hs.a1
  have q5:=hs.b0
  have q6:=hs.b1
  unfold chF
  by_cases he:e=⟨(ma.length:Int),a.length,b.length⟩
  ·rw[if_pos he]
   subst he
   refine @bu noG _ _ _ _ _ ?_
   simp only
   unfold ev fc
   rw[hol,if_neg (by simp),if_neg (by simp)]
   simp
  ·rw[if_neg he]
   obtain⟨t1,t2,t3,t4,t5⟩:=stepE_spec hA hB hs he
   have hst:ev o ma mb a b e.o e.a e.b s=some (.inl ((nk ma mb a.length b.length e).o,(nk ma mb a.length b.length e).a,(nk ma mb a.length b.length e).b,s++[cc o a b (e,nk ma mb a.length b.length e)])):=by
    have h2:ev o ma mb a b e.o e.a e.b s=fc e.o o ma e.a mb e.b a b s true:=by
     unfold ev
     by_cases h1:e.o<ma.length
     ·rw[hol,if_pos (by simpa using h1)]
     ·rw[hol,if_neg (by simpa using h1)]
      by_cases h2:e.a<a.length
      ·rw[if_pos (by simpa using h2)]
      ·rw[if_neg (by simpa using h2)]
       have h3:e.b<b.length:=by
        rcases Int.lt_or_le e.b b.length with h|h
        ·exact h
        ·exfalso;apply he;cases e;simp only[Diff3Ends.mk.injEq];simp only at *; omega
       congr 1
       simpa using h3
    have h4:∀e':Diff3Ends,e'=nk ma mb a.length b.length e->gw o e.o a e.a b e.b s e'.o e'.a e'.b=some (.inl (e'.o,e'.a,e'.b,s++[cc o a b (e,e')])):=fun e' he'=>by
     subst he'
     have z1:=t1.o1
     have z2:=t1.a1
     have z3:=t1.b1
     unfold gw ref07_Chunks_j3
     rw[cut_eq q1 t2 (by omega),cut_eq q3 t3 (by omega),cut_eq q5 t4 (by omega)]
     simp only[Option.bind_some]
     rw[ref07_kind_eq (by have:=mi o e.o (nk ma mb a.length b.length e).o;omega) (by have:=mi a e.a (nk ma mb a.length b.length e).a;omega)]
     simp only[Option.bind_some]
     rw[g9 (by simp;omega) (by simp;omega)]
     rfl
    rw[h2]
    unfold fc
    rw[if_pos rfl,stab07_eq hm hol hB.len hla hlb hs]
    simp only[Option.bind_some]
    unfold ref07_Chunks_k8
    obtain⟨s1,s2,s3⟩:=stab_spec (ma:=ma) (mb:=mb) (a:=e.a) (b:=e.b) hs.o0
    have h4':=h4 _ rfl
    unfold nk at h4' ⊢
    by_cases hp:0<stab ma mb e.o e.a e.b
    ·rw[if_pos hp]at h4' ⊢
     rw[if_neg (by simp;omega)]
     rw[eh (by omega) (by omega),eh (by omega) (by omega),eh (by omega) (by omega)]
     exact h4'
    ·rw[if_neg hp]at h4' ⊢
     have hn0:stab ma mb e.o e.a e.b=0:=by omega
     rw[hn0,if_pos (by simp),eh (by simp;omega) (by simp;omega)]
     obtain⟨q,g1,g2,g3⟩:=next07_eq (o:=o) hm hol hB.len (a.length:Int) (b.length:Int) (ma.length - e.o.toNat) e.o.toNat (by omega)
     have ho:((e.o.toNat:Nat):Int)=e.o+(0:Nat):=by simp;omega
     rw[ho]at g2
     rw[g2]
     simp only[Option.bind_some]
     unfold ref07_Chunks_k5
     unfold nextE at h4' ⊢
     rcases g3 with⟨g3,g4⟩|⟨u,v,g3,g4,g5⟩
     ·rw[g4]at h4' ⊢
      rw[if_neg (by simp;omega)]
      exact h4'
     ·rw[g5]at h4' ⊢
      have:q<ma.length:=(List.getElem?_eq_some_iff.1 g3).1
      rw[if_pos (by simp;omega),idx_int (by omega) (by simpa using g3),idx_int (by omega) (by simpa using g4)]
      exact h4'
   rw[@c9 noG _ _ _ _ ((nk ma mb a.length b.length e).o,(nk ma mb a.length b.length e).a,(nk ma mb a.length b.length e).b,s++[cc o a b (e,nk ma mb a.length b.length e)]) hst]
   rw[rounds07_eq hol hA hB hm hla hlb f (nk ma mb a.length b.length e) _ t1 (by simp only[List.length_append,List.length_cons,List.length_nil];omega) (by omega)]
   simp[List.append_assoc]
theorem ref07_Chunks_eq {o a b:List Int} (ho:o.length<=2000) (ha:a.length<=2000) (hb:b.length<=2000):ref07_Chunks o a b=some ((cm o a b).map (cc o a b)):=by
 unfold ref07_Chunks
 rw[ref05_Match_eq ho ha,ref05_Match_eq ho hb]
 simp only[Option.bind_some]
 have l1:=mtS_len o a 0
 have l2:=mtS_len o b 0
 have hA:IsM (mtS o a 0) (mtS o a 0).length a.length:=by rw[l1];exact isM_mtS o a
 have hB:IsM (mtS o b 0) (mtS o a 0).length b.length:=by rw[l1];exact isM_mtS o b
 have:=rounds07_eq l1.symm hA hB (by omega) (by omega) (by omega) (o.length+a.length+b.length+1) ⟨0,0,0⟩ [] (stand0 hA hB) (by simp) (by simp only;omega)
 rw[this]
 unfold cm
 rfl
theorem ref07_Parts_eq {o a b:List (List UInt8)} (ho:o.length<=2000) (ha:a.length<=2000) (hb:b.length<=2000):ref07_Parts o a b=some ((cm o a b).map (cc o a b)):=by
 have h:=diff3_Parts_eq ho ha hb
 unfold nw na at h
 rw[lcs_Numbers_eq (by simp) (by simp;omega)]at h
 unfold ref07_Parts ref07_Parts_j1
 rw[ref05_Numbers_eq (by simp) (by simp;omega)]
 simp only[Option.bind_some,List.map_cons,List.map_nil]at h ⊢
 rw[show idx [List.map (mg [o,a,b]) o,List.map (mg [o,a,b]) a,List.map (mg [o,a,b]) b] 0=some (List.map (mg [o,a,b]) o)from rfl,
  show idx [List.map (mg [o,a,b]) o,List.map (mg [o,a,b]) a,List.map (mg [o,a,b]) b] 1=some (List.map (mg [o,a,b]) a)from rfl,
  show idx [List.map (mg [o,a,b]) o,List.map (mg [o,a,b]) a,List.map (mg [o,a,b]) b] 2=some (List.map (mg [o,a,b]) b)from rfl]at h ⊢
 simp only[Option.bind_some]at h ⊢
 rw[diff3_Chunks_eq (by simpa using ho) (by simpa using ha) (by simpa using hb)]at h
 rw[ref07_Chunks_eq (by simpa using ho) (by simpa using ha) (by simpa using hb)]
 exact h
theorem ref01_Join_eq {l:List (List UInt8)} (h1:l.length<=1000000) (h2:l.flatten.length<=1000000):ref01_Join l=some l.flatten:=by
 unfold ref01_Join
 have:=iter_flat (fun x:List UInt8=>x) l (fun i b=>(b,(i:Int))) (step:=fun s=>iw l s.1 s.2) (fun b=>b) (fun i h b hb=>by
  rw[List.map_id']at hb
  unfold iw
  rw[if_pos (by simp;omega),bv h]
  simp only[Option.bind_some]
  rw[cat_eq (by omega)]
  simp only[Option.bind_some]
  rw[bt (by omega)]) (fun b=>by
  unfold iw
  rw[if_neg (by simp)])
 have h3:iter (fun s=>iw l s.1 s.2) ([],0)=some (l.map fun x=>x).flatten:=this
 rw[h3,List.map_id']
 rfl
theorem ref08_parts_eq {o a b:List (List UInt8)} (ho:o.length<=2000) (ha:a.length<=2000) (hb:b.length<=2000) (ho':o.flatten.length<=1000) (ha':a.flatten.length<=1000) (hb':b.flatten.length<=1000):
    nr o a b=some (f8 o a b):=by
  unfold nr
  rw[ref07_Parts_eq ho ha hb]
  simp only[Option.bind_some]
  have hlen:=chunksOf_len o a b
  have key:=ij (cm o a b) (fun i (l:List ApiPart)=>((i:Int),l)) (step:=fun s=>gq ((cm o a b).map (cc o a b)) o a b s.1 s.2) (fun l p=>pushP l (pieceOf o a b p)) (fun l=>l) (fun i l=>l.length<=i/\∀q∈l,Small (i * 1000) q) (fun i h l hinv=>by
    refine⟨?_,pushP_small hinv (piece_len o a b _ ho' ha' hb')⟩
    have hin:=chunksOf_in _ (List.getElem_mem h)
    generalize hp:(cm o a b)[i]=p at *
    obtain⟨hl,hsm⟩:=hinv
    unfold gq
    rw[if_pos (by simp;omega),bv (by simpa using h)]
    simp only[Option.bind_some,List.getElem_map,hp]
    obtain⟨q1,q2,q3,q4,q5,q6,q7,q8,q9⟩:=hin
    have c1:=im o p.1.o p.2.o
    have c2:=im a p.1.a p.2.a
    have c3:=im b p.1.b p.2.b
    have d1:=mi o p.1.o p.2.o
    have d2:=mi a p.1.a p.2.a
    have d3:=mi b p.1.b p.2.b
    rw[show(cc o a b p).O.From=p.1.o from rfl,show(cc o a b p).O.To=p.2.o from rfl,show(cc o a b p).A.From=p.1.a from rfl,show(cc o a b p).A.To=p.2.a from rfl,show(cc o a b p).B.From=p.1.b from rfl,show(cc o a b p).B.To=p.2.b from rfl]
    rw[cut_eq q1 q2 q3,cut_eq q4 q5 q6,cut_eq q7 q8 q9]
    simp only[Option.bind_some]
    rw[ref01_Join_eq (by omega) (by omega),ref01_Join_eq (by omega) (by omega),ref01_Join_eq (by omega) (by omega)]
    simp only[Option.bind_some]
    have hkind:(cc o a b p).Kind=kindOf (cut3 o p.1.o p.2.o) (cut3 a p.1.a p.2.a) (cut3 b p.1.b p.2.b):=rfl
    have happ:∀pc:ApiPart,ki l (i:Int) (cc o a b p) pc=some (.inl (((i+1:Nat):Int),l++[pc])):=fun pc=>by
      unfold ki kj
      rw[g9 (by simp;omega) (by simp;omega)]
      simp only[Option.bind_some]
      rw[bt (by omega)]
    have h6:∀pc:ApiPart,Small 1000 pc->kh l (i:Int) (cc o a b p) pc=some (.inl (((i+1:Nat):Int),pushP l (if pc.Clash then pc else {pc with B:=pc.A}))):=fun pc hpc=>by
      obtain⟨p1,p2,p3⟩:=hpc
      unfold kh mv
      cases hc:pc.Clash with
      |true=>
        rw[if_neg (by simp),happ]
        simp only[if_true]
        rcases nil_or_snoc l with rfl|⟨m,q,rfl⟩
        · rfl
        · rw[pushP_snoc,if_neg (by simp[hc])]
      |false=>
        rw[if_pos (by simp)]
        simp only[if_false,Bool.false_eq_true]
        rcases nil_or_snoc l with rfl|⟨m,q,rfl⟩
        · rw[if_neg (by simp),happ];rfl
        · obtain⟨q1,q2,q3⟩:=hsm q (by simp)
          have hw:w64 (((m++[q]).length:Int) - 1)=((m.length:Nat):Int):=by
            rw[eh (by simp) (by simp at hl ⊢;omega)];simp
          have hidx:∀q':ApiPart,idx (m++[q']) ((m.length:Nat):Int)=some q':=fun q'=>by
            rw[bv (by simp)];simp
          have hset:∀q' q'':ApiPart,List.set (m++[q']) m.length q''=m++[q'']:=fun q' q''=>by
            rw[List.set_append_right _ _ (Nat.le_refl _)];simp
          rw[if_pos (by simp),hw,hidx]
          simp only[Option.bind_some]
          rw[pushP_snoc]
          cases hq:q.Clash with
          |true=>rw[show(!true)=false from rfl,happ];simp
          |false=>
            rw[if_pos (by rfl),cat_eq (by omega)]
            simp only[Option.bind_some]
            unfold ref08_parts_j7
            rw[hw]
            simp only[Int.toNat_natCast,hset,hidx,Option.bind_some]
            rw[cat_eq (by omega)]
            simp only[Option.bind_some]
            unfold ref08_parts_j6
            rw[hw]
            simp only[Int.toNat_natCast,hset,hidx,Option.bind_some]
            rw[cat_eq (by omega)]
            simp only[Option.bind_some]
            unfold ref08_parts_j5 kj
            rw[hw]
            simp only[Int.toNat_natCast,hset]
            rw[bt (by omega)]
            simp[glue,hq,hc]
    rw[hkind]
    have hpl:=piece_len o a b p ho' ha' hb'
    unfold pieceOf at hpl ⊢
    simp only at hpl ⊢
    generalize kindOf (cut3 o p.1.o p.2.o) (cut3 a p.1.a p.2.a) (cut3 b p.1.b p.2.b)=k at *
    by_cases h4:k=4
    · subst h4
      rw[if_neg (by decide)]
      refine(h6 _ ⟨by simp only;omega,by simp only;omega,by simp only;omega⟩).trans ?_
      rfl
    · by_cases h2:k=2
      · subst h2
        rw[if_pos (by decide)]
        refine(h6 _ ⟨by simp only;omega,by simp only;omega,by simp only;omega⟩).trans ?_
        rfl
      · rw[if_neg (by simpa using h2)]
        refine(h6 _ ⟨by simp only;omega,by simp only;omega,by simp only;omega⟩).trans ?_
        have:(k==4)=false:=by simpa using h4
        simp only[this,if_neg h4,if_neg h2,Bool.false_eq_true,if_false]) (fun l _=>by
    unfold gq
    rw[if_neg (by simp)]) (b0:=[]) ⟨by simp,fun q hq=>by cases hq⟩
  obtain⟨h1,h2,h3⟩:=key
  have hfold:(cm o a b).foldl (fun l p=>pushP l (pieceOf o a b p)) []=f8 o a b:=by
    unfold f8 piecesOf
    rw[List.foldl_map]
  rw[hfold]at h1
  have h1:iter (fun s=>gq ((cm o a b).map (cc o a b)) o a b s.1 s.2) (0,[])=some (f8 o a b):=h1
  rw[h1]
  rfl
theorem ref08_Units_eq {x:List UInt8} (hx:x.length<=600):nt x=some (co x):=by
 have h:=units_eq hx
 unfold c6 at h
 unfold nt
 rw[lex_Lex_eq x (by omega)]at h
 rw[ref03_Lex_eq x (by omega)]
 have hl:∀l:List ApiToken,(fun s:Int × List (List UInt8)=>kl l s.1 s.2)=fun s=>cq l s.1 s.2:=fun l=>by
  funext s
  unfold kl cq
  cases idx l s.1<;>rfl
 simp only[hl]
 exact h
theorem ref08_Lines_eq {o a b:List UInt8} (ho:o.length<=600) (ha:a.length<=600) (hb:b.length<=600):ref08_Lines o a b=some (f8 (fp o) (fp a) (fp b)):=by
 have l1:=splitL_len o
 have l2:=splitL_len a
 have l3:=splitL_len b
 unfold ref08_Lines
 rw[ref01_Split_eq (by omega),ref01_Split_eq (by omega),ref01_Split_eq (by omega)]
 simp only[Option.bind_some]
 rw[ref08_parts_eq (by omega) (by omega) (by omega) (by rw[splitL_flat];omega) (by rw[splitL_flat];omega) (by rw[splitL_flat];omega)]
 rfl
def tokensM (o a b:List UInt8):List ApiPart × Bool:=if(co o).2=true/\(co a).2=true/\(co b).2=true then(f8 (co o).1 (co a).1 (co b).1,true)else([],false)
theorem tokensM_fits {o a b:List UInt8} (ho:o.length<=600) (ha:a.length<=600) (hb:b.length<=600):np (co o).1 (co a).1 (co b).1=some (f8 (co o).1 (co a).1 (co b).1)/\nr (co o).1 (co a).1 (co b).1=some (f8 (co o).1 (co a).1 (co b).1)/\Fits (f8 (co o).1 (co a).1 (co b).1):=by
 have u1:=unitsM_len o
 have u2:=unitsM_len a
 have u3:=unitsM_len b
 obtain⟨p1,p2⟩:=weave_parts_eq (o:=(co o).1) (a:=(co a).1) (b:=(co b).1) (by omega) (by omega) (by omega) (by omega) (by omega) (by omega)
 exact⟨p1,ref08_parts_eq (by omega) (by omega) (by omega) (by omega) (by omega) (by omega),p2⟩
theorem ref08_Tokens_eq {o a b:List UInt8} (ho:o.length<=600) (ha:a.length<=600) (hb:b.length<=600):ref08_Tokens o a b=some (tokensM o a b):=by
 obtain⟨p1,p2,p3⟩:=tokensM_fits ho ha hb
 unfold ref08_Tokens tokensM jc
 rw[ref08_Units_eq ho,ref08_Units_eq ha,ref08_Units_eq hb]
 simp only[Option.bind_some]
 rw[p2]
 cases (co o).2<;>cases (co a).2<;>cases (co b).2<;>rfl
theorem ref08_Text_eq {o a b:List UInt8} (ho:o.length<=600) (ha:a.length<=600) (hb:b.length<=600):ref08_Text o a b=some (textM o a b):=by
 obtain⟨l1,l2⟩:=weave_Lines_eq ho ha hb
 obtain⟨p1,p2,p3⟩:=tokensM_fits ho ha hb
 have hj1:l4 o a b=some (joinM (f8 (fp o) (fp a) (fp b))):=by
  unfold l4
  rw[ref08_Lines_eq ho ha hb]
  simp only[Option.bind_some]
  rw[ref08_Join_eq l2]
  rfl
 have hm:iv a o b false=some (mergeM o a b):=by
  unfold iv
  rw[if_neg (by simp),ref08_Tokens_eq ho ha hb,hj1]
  unfold mergeM tokensM
  simp only[Option.bind_some]
  by_cases hc:(co o).2=true/\(co a).2=true/\(co b).2=true
  ·rw[if_pos hc]
   simp only
   rw[if_pos trivial,ref08_Join_eq p3]
   simp only[Option.bind_some]
   cases hj:(joinM (f8 (co o).1 (co a).1 (co b).1)).2 with
   |true=>
    rw[if_pos rfl,if_pos ⟨hc.1,hc.2.1,hc.2.2,rfl⟩]
    congr 1
    exact Prod.ext rfl hj.symm
   |false=>rw[if_neg (by simp),if_neg (by simp)]
  ·rw[if_neg hc,if_neg (show ¬(([]:List ApiPart),false).2=true by simp),if_neg (fun h=>hc ⟨h.1,h.2.1,h.2.2.1⟩)]
 unfold ref08_Text textM
 by_cases h1:a=o
 ·rw[if_pos (by simpa using h1),if_pos h1]
 ·rw[if_neg (by simpa using h1),if_neg h1]
  by_cases h2:b=o
  ·rw[if_pos (by simpa using h2),if_pos (.inl h2)]
   unfold iv
   rw[if_pos rfl]
  ·rw[if_neg (by simpa using h2)]
   by_cases h3:a=b
   ·rw[if_pos (.inr h3)]
    unfold iv
    rw[if_pos (by simpa using h3)]
   ·rw[if_neg (fun h=>h.elim h2 h3),show(a==b)=false by simpa using h3]
    exact hm
theorem same_refl {α:Type} {step:Int->Option (Int ⊕ Flow Unit Bool)} {l:List α} (h:l.length<=1000000000) (h1:∀i (hi:i<l.length),step (i:Int)=some (.inl (w64 ((i:Int)+1)))) (h2:step (l.length:Int)=some (.inr (.next ()))):iter step 0=some (.next ()):=by
 have:=ij l (fun i (_:Unit)=>(i:Int)) (step:=step) (fun b _=>b) (fun _=>Flow.next ()) (fun _ _=>True) (fun i hi b _=>⟨by rw[h1 i hi,bt (by omega)],trivial⟩) (fun b _=>h2) (b0:=()) trivial
 exact this.1
theorem ref01_Same_refl {l:List (List UInt8)} (h:l.length<=1000000000):ka l l=some true:=by
 unfold ka
 rw[if_neg (by simp),same_refl (l:=l) h (fun i hi=>by
  unfold l7 ref01_Same_j3
  rw[if_pos (by simp;omega),bv hi]
  simp) (by unfold l7;rw[if_neg (by simp)])]
 rfl
end Go.Proofs.YtphkaogfinjbjaaGreatDoor
