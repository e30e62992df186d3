/- The lexer in plain Lean: both lexers come to the model. -/
import Derived.Test.YteablckbgpogiaaGreatDoorZK
import Derived.Test.YteablckbgpogiaaGreatDoorZT
import Derived.Lib.ParseIntBCases
set_option linter.unusedSimpArgs false
set_option linter.unusedVariables false
set_option linter.unusedSectionVars false
set_option linter.unusedSectionVars false
namespace Go.Cn
abbrev noG :Glob:=⟨fun _=>True,fun _ _ _ _=>trivial⟩
theorem fk {σ ω:Type} {f:σ->Option (σ ⊕ ω)} (I:σ->Prop) (Q:ω->Prop) (m:σ->Nat)
  (h:∀s,I s->(∃s',f s=some (.inl s')/\I s'/\m s'<m s)\/(∃o,f s=some (.inr o)/\Q o)):∀s,I s->∃o,iter f s=some o/\Q o:=by
 have key:∀n s,m s<=n->I s->∃o,iter f s=some o/\Q o:=by
  intro n
  induction n with
  |zero=>
   intro s hm hs
   rcases h s hs with⟨s',_,_,h3⟩|⟨o,h1,h2⟩
   ·omega
   ·exact⟨o, @ga noG _ _ _ _ _ h1,h2⟩
  |succ n ih=>
   intro s hm hs
   rcases h s hs with⟨s',h1,h2,h3⟩|⟨o,h1,h2⟩
   ·obtain⟨o,h4,h5⟩:=ih s' (by omega) h2
    exact⟨o,by rw[@np noG _ _ _ _ _ h1];exact h4,h5⟩
   ·exact⟨o, @ga noG _ _ _ _ _ h1,h2⟩
 exact fun s hs=>key (m s) s (Nat.le_refl _) hs
theorem gt {n:Int} (h1: -9223372036854775808<=n) (h2:n<=9223372036854775807):w64 n=n:=by
 unfold w64 IntKind.wrap
 have e1:(2:Int) ^ (IntKind.i64.bits)=18446744073709551616:=rfl
 have e2:(2:Int) ^ (IntKind.i64.bits - 1)=9223372036854775808:=rfl
 have e3:IntKind.i64.signed=true:=rfl
 simp only[e1,e2,e3,Bool.true_and,decide_eq_true_eq]
 split<;>omega
theorem ot {l:List UInt8} {i:Nat} (h:i<l.length):idxS l i=some (l[i].toNat:Int):=by
 unfold idxS
 simp[h]
theorem idx_nat {α:Type} {l:List α} {i:Nat} (h:i<l.length):idx l i=some l[i]:=by
 unfold idx
 simp[h]
theorem sub_nat {l:List UInt8} {i j:Nat} (h:i<=j) (h2:j<=l.length):sub l i j=some ((l.take j).drop i):=by
 unfold sub
 simp[h,h2]
end Go.Cn
set_option linter.unusedSectionVars false
namespace Go.Proofs.YteablckbgpogiaaGreatDoor
open Go Go.Cn
def mb (c:Nat):Bool:=(97<=c&&c<=122)||(65<=c&&c<=90)||c==95
def dt (c:Nat):Bool:=48<=c&&c<=57
def nm (c:Nat):Bool:=mb c||dt c
theorem all_bytes {p:Nat->Prop} (h:∀n:Fin 256,p n.1) (c:UInt8):p c.toNat:=h ⟨c.toNat,c.toNat_lt⟩
theorem lex_letter_eq (c:UInt8):lex_letter c.toNat=some (mb c.toNat):=by
 have key:∀n:Fin 256,lex_letter n.1=some (mb n.1):=by decide+kernel
 exact all_bytes (p:=fun n=>lex_letter n=some (mb n)) key c
theorem lex_digit_eq (c:UInt8):lex_digit c.toNat=some (dt c.toNat):=by
 have key:∀n:Fin 256,lex_digit n.1=some (dt n.1):=by decide+kernel
 exact all_bytes (p:=fun n=>lex_digit n=some (dt n)) key c
theorem ref03_letter_eq (c:UInt8):o9 c.toNat=some (mb c.toNat):=by
 have key:∀n:Fin 256,o9 n.1=some (mb n.1):=by decide+kernel
 exact all_bytes (p:=fun n=>o9 n=some (mb n)) key c
theorem ref03_digit_eq (c:UInt8):o6 c.toNat=some (dt c.toNat):=by
 have key:∀n:Fin 256,o6 n.1=some (dt n.1):=by decide+kernel
 exact all_bytes (p:=fun n=>o6 n=some (dt n)) key c
theorem lex_token_1_eq (c:UInt8):q4 c.toNat=some (nm c.toNat):=by
 have key:∀n:Fin 256,q4 n.1=some (nm n.1):=by decide+kernel
 exact all_bytes (p:=fun n=>q4 n=some (nm n)) key c
def runL (p:Nat->Bool):List UInt8->Nat
 | []=>0
 |c::l=>if p c.toNat then runL p l+1 else 0
theorem runL_le (p:Nat->Bool):∀l,runL p l<=l.length
 | []=>Nat.le_refl _
 |c::l=>by
  have:=runL_le p l
  simp only[runL,List.length_cons]
  split<;>omega
theorem lex_run_eq {s:List UInt8} {f:Int->Option Bool} {p:Nat->Bool} (hf:∀c:UInt8,f c.toNat=some (p c.toNat)) (hs:s.length<4611686018427387904):lex_run s f=some (runL p s:Int):=by
  have key:=fk (f:=fun i=>lex_run_l2 s f i) (fun i=>∃k:Nat,i=k/\k<=s.length/\runL p s=k+runL p (s.drop k)) (fun z=>(match z with| .next _=>lex_run_k1 s| .done r=>some r)=some (runL p s:Int)) (fun i=>s.length - i.toNat)
    (by
      rintro i ⟨k,rfl,hk,hr⟩
      unfold lex_run_l2
      rcases Nat.lt_or_ge k s.length with hlt|hge
      · rw[if_pos (by simpa using hlt),ot hlt]
        simp only[Option.bind_some,hf]
        have hd:s.drop k=s[k]::s.drop (k+1):=by simp
        rw[hd]at hr
        simp only[runL]at hr
        cases hp:p s[k].toNat with
        |true=>
          left
          rw[hp]at hr
          simp only[if_true]at hr
          refine⟨((k+1:Nat):Int),by simp[gt,show -9223372036854775808<=(k:Int)+1 by omega,show(k:Int)+1<=9223372036854775807 by omega],⟨k+1,rfl,hlt,by omega⟩,by simp;omega⟩
        |false=>
          right
          rw[hp]at hr
          refine⟨.done k,by simp,?_⟩
          simp at hr
          simp[hr]
      · have:k=s.length:=by omega
        subst this
        right
        refine⟨.next (),by simp,?_⟩
        have h0:s.drop s.length=[]:=by simp
        rw[h0]at hr
        simp only[runL]at hr
        simp[lex_run_k1,hr])
  obtain⟨z,h1,h2⟩:=key 0 ⟨0,rfl,Nat.zero_le _,by simp⟩
  unfold lex_run
  rw[h1]
  exact h2
end Go.Proofs.YteablckbgpogiaaGreatDoor
set_option linter.unusedSectionVars false
namespace Go.Proofs.YteablckbgpogiaaGreatDoor
open Go Go.Cn
theorem sub_all {l:List UInt8} {i j:Int} (h1:0<=i) (h2:i<=j) (h3:j<=l.length):sub l i j=some ((l.take j.toNat).drop i.toNat):=by
 unfold sub
 rw[if_pos ⟨h1,h2,h3⟩]
theorem sub_from {l:List UInt8} {i:Nat} (h:i<=l.length):sub l i l.length=some (l.drop i):=by
 rw[sub_all (by omega) (by omega) (by omega)]
 simp
theorem take_beq_prefix {a b:List UInt8} (h:b.length<=a.length):(a.take b.length==b)=b.isPrefixOf a:=by
 rw[Bool.eq_iff_iff,beq_iff_eq,List.isPrefixOf_iff_prefix]
 constructor
 ·intro h';rw[← h'];exact List.take_prefix _ _
 ·rintro⟨t,rfl⟩;simp
theorem hasPrefix_eq (a b:List UInt8):gn a b=some (b.isPrefixOf a):=by
 unfold gn gx
 rcases Nat.lt_or_ge a.length b.length with h|h
 ·rw[if_neg (by simp;omega)]
  simp only[dx,Option.bind_some,Option.some.injEq]
  symm
  rw[Bool.eq_false_iff]
  intro h'
  have:=(List.isPrefixOf_iff_prefix.1 h').length_le
  omega
 ·rw[if_pos (by simp;omega),sub_all (by omega) (by omega) (by omega)]
  simp[dx,take_beq_prefix h]
theorem slices_Index_eq {L:List (List UInt8)} {x:List UInt8} (hs:L.length<4611686018427387904):∃r:Int,gq L x=some r/\decide (r≥0)=L.contains x:=by
  have key:=fk (f:=fun i=>ek L x i) (fun i=>∃k:Nat,i=k/\k<=L.length/\L.contains x=(L.drop k).contains x) (fun z=>∃r:Int,(match z with| .next _=>il| .done r=>some r)=some r/\decide (r≥0)=L.contains x) (fun i=>L.length - i.toNat)
    (by
      rintro i ⟨k,rfl,hk,hr⟩
      unfold ek
      rcases Nat.lt_or_ge k L.length with hlt|hge
      · rw[if_pos (by simpa using hlt),idx_nat hlt]
        simp only[Option.bind_some]
        have hd:L.drop k=L[k]::L.drop (k+1):=by simp
        rw[hd,List.contains_cons]at hr
        cases hp:x==L[k]with
        |true=>
          right
          refine⟨.done k,by simp,k,rfl,?_⟩
          rw[hr,hp]
          simp
        |false=>
          left
          rw[hp,Bool.false_or]at hr
          exact⟨((k+1:Nat):Int),by simp[gt,show -9223372036854775808<=(k:Int)+1 by omega,show(k:Int)+1<=9223372036854775807 by omega],⟨k+1,rfl,hlt,hr⟩,by simp;omega⟩
      · have:k=L.length:=by omega
        subst this
        right
        refine⟨.next (),by simp, -1,rfl,?_⟩
        rw[hr]
        simp)
  obtain⟨z,h1,r,h2,h3⟩:=key 0 ⟨0,rfl,Nat.zero_le _,by simp⟩
  refine⟨r,?_,h3⟩
  unfold gq
  rw[h1]
  exact h2
theorem slices_Contains_eq {L:List (List UInt8)} {x:List UInt8} (hs:L.length<4611686018427387904):fq L x=some (L.contains x):=by
 obtain⟨r,h1,h2⟩:=slices_Index_eq (x:=x) hs
 unfold fq
 rw[h1,Option.bind_some,h2]
theorem lex_Kept_eq (x:List UInt8):lex_Kept x=some (kept.contains x):=by
 unfold lex_Kept
 rw[slices_Contains_eq (by decide)]
 rfl
theorem ref03_Kept_l2_eq (x:List UInt8) (i:Int):pr x i=(if(decide (i<(kept.length:Int)))=true then(idx kept i).bind fun x5=>(if(x5==x)=true then some (.inr (.done true))else some (.inl (w64 (i+1))))else some (.inr (.next ()))):=rfl
theorem ref03_Kept_eq (x:List UInt8):ref03_Kept x=some (kept.contains x):=by
  have key:=fk (f:=fun i=>pr x i) (fun i=>∃k:Nat,i=k/\k<=kept.length/\kept.contains x=(kept.drop k).contains x) (fun z=>(match z with| .next _=>ref03_Kept_k1| .done r=>some r)=some (kept.contains x)) (fun i=>kept.length - i.toNat)
    (by
      rintro i ⟨k,rfl,hk,hr⟩
      have hl:kept.length=16:=rfl
      rw[ref03_Kept_l2_eq]
      rcases Nat.lt_or_ge k kept.length with hlt|hge
      · rw[if_pos (by simpa using hlt),idx_nat hlt]
        simp only[Option.bind_some]
        have hd:kept.drop k=kept[k]::kept.drop (k+1):=by simp
        rw[hd,List.contains_cons]at hr
        cases hp:kept[k]==x with
        |true=>
          right
          refine⟨.done true,by simp,?_⟩
          have:x==kept[k]:=by rw[beq_iff_eq]at hp ⊢;exact hp.symm
          rw[hr,this]
          simp
        |false=>
          left
          have:(x==kept[k])=false:=by rw[beq_eq_false_iff_ne]at hp ⊢;exact fun h=>hp h.symm
          rw[this,Bool.false_or]at hr
          exact⟨((k+1:Nat):Int),by simp[gt,show -9223372036854775808<=(k:Int)+1 by omega,show(k:Int)+1<=9223372036854775807 by omega],⟨k+1,rfl,hlt,hr⟩,by simp;omega⟩
      · have:k=kept.length:=by omega
        subst this
        right
        refine⟨.next (),by simp,?_⟩
        rw[hr]
        simp[ref03_Kept_k1])
  obtain⟨z,h1,h2⟩:=key 0 ⟨0,rfl,Nat.zero_le _,by simp⟩
  unfold ref03_Kept
  rw[h1]
  exact h2
end Go.Proofs.YteablckbgpogiaaGreatDoor
set_option linter.unusedSectionVars false
namespace Go.Proofs.YteablckbgpogiaaGreatDoor
open Go Go.Cn
end Go.Proofs.YteablckbgpogiaaGreatDoor
set_option linter.unusedSectionVars false
namespace Go.Proofs.YteablckbgpogiaaGreatDoor
open Go Go.Cn
def twos :List (List UInt8):=[[61,61],[33,61],[60,61],[62,61],[38,38],[124,124]]
def ones :List UInt8:=[43,45,42,47,37,60,62,61,33,40,41,123,125,59,44,46]
def markL (s:List UInt8):Nat:=if twos.any (fun t=>t.isPrefixOf s)then 2 else if(match s with| []=>false|c::_=>ones.contains c)then 1 else 0
theorem indexByte_mem (c:UInt8):∀l:List UInt8,0<=Lib.indexByte l c↔c∈l
 | []=>by simp[Lib.indexByte]
 |b::l=>by
  have ih:=indexByte_mem c l
  have hge:=Lib.indexByte_ge l c
  have e:Lib.indexByte (b::l) c=if b==c then 0 else if Lib.indexByte l c== -1 then -1 else Lib.indexByte l c+1:=rfl
  rw[e,List.mem_cons]
  by_cases h:b=c
  ·subst h;simp
  ·have h1:(b==c)=false:=by simpa using h
   rw[h1,if_neg (by simp)]
   by_cases h3:Lib.indexByte l c= -1
   ·rw[if_pos (by simpa using h3)]
    have:c ∉ l:=fun hm=>by have:=ih.2 hm;omega
    simp only[this,or_false]
    exact⟨fun hh=>absurd hh (by decide),fun h'=>absurd h'.symm h⟩
   ·rw[if_neg (by simpa using h3)]
    have:c∈l:=ih.1 (by omega)
    simp[this]
    omega
theorem indexByte_contains (l:List UInt8) (c:UInt8):decide (Lib.indexByte l c≥0)=l.contains c:=by
 rw[Bool.eq_iff_iff,decide_eq_true_eq,List.contains_iff_mem]
 exact indexByte_mem c l
theorem lex_mark_l2_eq (s:List UInt8) (i:Int):lex_mark_l2 s i=(if(decide (i<(twos.length:Int)))=true then(idx twos i).bind fun x5=>(gn s x5).bind fun x6=>(if x6=true then some (.inr (.done 2))else some (.inl (w64 (i+1))))else some (.inr (.next ()))):=rfl
theorem lex_mark_eq (c:UInt8) (l:List UInt8):lex_mark (c::l)=some (markL (c::l):Int):=by
  obtain⟨z,h1,h2⟩:=fk (f:=fun i=>lex_mark_l2 (c::l) i) (fun i=>∃k:Nat,i=k/\k<=twos.length/\twos.any (fun t=>t.isPrefixOf (c::l))=(twos.drop k).any (fun t=>t.isPrefixOf (c::l))) (fun z=>match z with| .next _=>twos.any (fun t=>t.isPrefixOf (c::l))=false| .done r=>r=2/\twos.any (fun t=>t.isPrefixOf (c::l))=true) (fun i=>twos.length - i.toNat)
    (by
      rintro i ⟨k,rfl,hk,hr⟩
      have hl:twos.length=6:=rfl
      rw[lex_mark_l2_eq]
      rcases Nat.lt_or_ge k twos.length with hlt|hge
      · rw[if_pos (by simpa using hlt),idx_nat hlt]
        simp only[Option.bind_some,hasPrefix_eq]
        have hd:twos.drop k=twos[k]::twos.drop (k+1):=by simp
        rw[hd,List.any_cons]at hr
        cases hp:twos[k].isPrefixOf (c::l)with
        |true=>
          right
          exact⟨.done 2,by simp,rfl,by rw[hr,hp];rfl⟩
        |false=>
          left
          rw[hp,Bool.false_or]at hr
          exact⟨((k+1:Nat):Int),by rw[gt (by omega) (by omega)];simp,⟨k+1,rfl,hlt,hr⟩,by simp;omega⟩
      · have:k=twos.length:=by omega
        subst this
        right
        exact⟨.next (),by simp,by rw[hr];simp⟩) 0 ⟨0,rfl,Nat.zero_le _,by simp⟩
  unfold lex_mark
  rw[h1]
  cases z with
  |next u=>
    have h2:twos.any (fun t=>t.isPrefixOf (c::l))=false:=h2
    have h0:idxS (c::l) 0=some (c.toNat:Int):=rfl
    have h3:=indexByte_contains ones c
    simp only[Option.bind_some,lex_mark_k1,h0,strings_IndexByte]
    have h4:((c.toNat:Int)).toNat.toUInt8=c:=by simp
    rw[h4]
    change (if decide (Lib.indexByte ones c≥0)=true then some 1 else some 0)=_
    rw[h3]
    simp only[markL,h2,Bool.false_eq_true,if_false]
    by_cases hc:ones.contains c=true
    · rw[if_pos hc,if_pos hc];rfl
    · rw[if_neg hc,if_neg hc];rfl
  |done r=>
    obtain⟨rfl,h2⟩:=h2
    simp[markL,h2]
end Go.Proofs.YteablckbgpogiaaGreatDoor
set_option linter.unusedSectionVars false
namespace Go.Proofs.YteablckbgpogiaaGreatDoor
open Go Go.Cn
theorem ref03_mark_l5_eq (s:List UInt8) (a i:Int):ng s a i=(if(decide (i<(twos.length:Int)))=true then(if decide (w64 (a+2)<=(s.length:Int))=true then(sub s a (w64 (a+2))).bind fun x8=>(idx twos i).bind fun x9=>(if(x8==x9)=true then some (.inr (.done 2))else some (.inl (w64 (i+1))))else some (.inr (.next ())))else(if false=true then(sub s a (w64 (a+2))).bind fun x8=>(idx twos i).bind fun x9=>(if(x8==x9)=true then some (.inr (.done 2))else some (.inl (w64 (i+1))))else some (.inr (.next ())))):=rfl
theorem ref03_mark_l2_eq (s:List UInt8) (a i:Int):nh s a i=(if(decide (i<(ones.length:Int)))=true then(idxS s a).bind fun x14=>(idxS ones i).bind fun x15=>(if(x14==x15)=true then some (.inr (.done 1))else some (.inl (w64 (i+1))))else some (.inr (.next ()))):=rfl
theorem two_len :∀t∈twos,t.length=2:=by decide
theorem slice_two {s t:List UInt8} {k:Nat} (hk:k+2<=s.length) (ht:t.length=2):((s.take (k+2)).drop k==t)=t.isPrefixOf (s.drop k):=by
 rw[← take_beq_prefix (by simp;omega),ht,List.drop_take]
 simp
theorem ref03_mark_two (s:List UInt8) (k:Nat) (hs:s.length<4611686018427387904) (hk:k<s.length):∃z,iter (fun i=>ng s k i) 0=some z/\(match z with| .next _=>twos.any (fun t=>t.isPrefixOf (s.drop k))=false| .done r=>r=2/\twos.any (fun t=>t.isPrefixOf (s.drop k))=true):=by
 have h2:w64 ((k:Int)+2)=((k+2:Nat):Int):=by rw[gt (by omega) (by omega)];rfl
 refine fk (f:=fun i=>ng s k i) (fun i=>∃j:Nat,i=j/\j<=twos.length/\twos.any (fun t=>t.isPrefixOf (s.drop k))=(twos.drop j).any (fun t=>t.isPrefixOf (s.drop k))) (fun z=>match z with| .next _=>twos.any (fun t=>t.isPrefixOf (s.drop k))=false| .done r=>r=2/\twos.any (fun t=>t.isPrefixOf (s.drop k))=true) (fun i=>twos.length - i.toNat) ?_ 0 ⟨0,rfl,Nat.zero_le _,by simp⟩
 rintro i ⟨j,rfl,hj,hr⟩
 have hl:twos.length=6:=rfl
 rw[ref03_mark_l5_eq,h2]
 rcases Nat.lt_or_ge j twos.length with hlt|hge
 ·rw[if_pos (by simpa using hlt)]
  by_cases hk2:k+2<=s.length
  ·rw[if_pos (by simp;omega),sub_all (by omega) (by omega) (by omega),idx_nat hlt]
   simp only[Option.bind_some,Int.toNat_natCast]
   rw[slice_two hk2 (two_len _ (List.getElem_mem hlt))]
   have hd:twos.drop j=twos[j]::twos.drop (j+1):=by simp
   rw[hd,List.any_cons]at hr
   cases hp:twos[j].isPrefixOf (s.drop k)with
   |true=>
    right
    exact⟨.done 2,by simp,rfl,by rw[hr,hp];rfl⟩
   |false=>
    left
    rw[hp,Bool.false_or]at hr
    exact⟨((j+1:Nat):Int),by rw[gt (by omega) (by omega)];simp,⟨j+1,rfl,hlt,hr⟩,by simp;omega⟩
  ·rw[if_neg (by simp;omega)]
   right
   refine⟨.next (),rfl,?_⟩
   show twos.any (fun t=>t.isPrefixOf (s.drop k))=false
   rw[List.any_eq_false]
   intro t ht hp
   have:=(List.isPrefixOf_iff_prefix.1 hp).length_le
   rw[two_len t ht,List.length_drop]at this
   omega
 ·have:j=twos.length:=by omega
  subst this
  right
  exact⟨.next (),by simp,by rw[hr];simp⟩
theorem ref03_mark_one (s:List UInt8) (k:Nat) (hk:k<s.length):∃z,iter (fun i=>nh s k i) 0=some z/\(match z with| .next _=>ones.contains s[k]=false| .done r=>r=1/\ones.contains s[k]=true):=by
 refine fk (f:=fun i=>nh s k i) (fun i=>∃j:Nat,i=j/\j<=ones.length/\ones.contains s[k]=(ones.drop j).contains s[k]) (fun z=>match z with| .next _=>ones.contains s[k]=false| .done r=>r=1/\ones.contains s[k]=true) (fun i=>ones.length - i.toNat) ?_ 0 ⟨0,rfl,Nat.zero_le _,by simp⟩
 rintro i ⟨j,rfl,hj,hr⟩
 have hl:ones.length=16:=rfl
 rw[ref03_mark_l2_eq]
 rcases Nat.lt_or_ge j ones.length with hlt|hge
 ·rw[if_pos (by simpa using hlt),ot hk,ot hlt]
  simp only[Option.bind_some]
  have hd:ones.drop j=ones[j]::ones.drop (j+1):=by simp
  rw[hd,List.contains_cons]at hr
  by_cases he:s[k]=ones[j]
  ·right
   refine⟨.done 1,by rw[if_pos (by simp[he])],rfl,?_⟩
   rw[hr,he];simp
  ·left
   have h1:(s[k]==ones[j])=false:=by simpa using he
   rw[h1,Bool.false_or]at hr
   have h2:¬((s[k].toNat:Int)==(ones[j].toNat:Int))=true:=by
    rw[beq_iff_eq]
    intro h
    exact he (UInt8.toNat_inj.1 (by omega))
   exact⟨((j+1:Nat):Int),by rw[if_neg h2,gt (by omega) (by omega)];rfl,⟨j+1,rfl,hlt,hr⟩,by simp;omega⟩
 ·have:j=ones.length:=by omega
  subst this
  right
  exact⟨.next (),by simp,by rw[hr];simp⟩
theorem ref03_mark_eq (s:List UInt8) (k:Nat) (hs:s.length<4611686018427387904) (hk:k<s.length):ref03_mark s k=some (markL (s.drop k):Int):=by
 obtain⟨z,h1,h2⟩:=ref03_mark_two s k hs hk
 have hd:s.drop k=s[k]::s.drop (k+1):=by simp
 unfold ref03_mark
 rw[h1]
 cases z with
 |next u=>
  have h2:twos.any (fun t=>t.isPrefixOf (s.drop k))=false:=h2
  obtain⟨y,h3,h4⟩:=ref03_mark_one s k hk
  simp only[Option.bind_some,ref03_mark_k4,h3]
  unfold markL
  rw[h2,if_neg (by simp),hd]
  cases y with
  |next u=>
   have h4:ones.contains s[k]=false:=h4
   simp only[h4]
   rfl
  |done r=>
   obtain⟨rfl,h4⟩:=h4
   simp only[h4]
   rfl
 |done r=>
  obtain⟨rfl,h2⟩:=h2
  simp[markL,h2]
end Go.Proofs.YteablckbgpogiaaGreatDoor
set_option linter.unusedSectionVars false
namespace Go.Proofs.YteablckbgpogiaaGreatDoor
open Go Go.Cn
def digL (a:Nat) (c:UInt8):Nat:=10 * a+(c.toNat - 48)
def valL (a:Nat) (l:List UInt8):Nat:=l.foldl digL a
theorem valL_cons (a:Nat) (c:UInt8) (l:List UInt8):valL a (c::l)=valL (10 * a+(c.toNat - 48)) l:=by unfold valL;rw[List.foldl_cons,digL]
theorem valL_ge (l:List UInt8):∀a:Nat,a<=valL a l:=by
 induction l with
 |nil=>intro a;unfold valL;rw[List.foldl_nil];exact Nat.le_refl a
 |cons c l ih=>
  intro a
  rw[valL_cons]
  have:=ih (10 * a+(c.toNat - 48))
  generalize valL (10 * a+(c.toNat - 48)) l=v at this ⊢
  omega
theorem parseUintM_eq {M:Nat} (hM:M=18446744073709551615):∀(l:List UInt8) (a:Nat),(∀c∈l,dt c.toNat=true)->a<=M->(valL a l<=M->Lib.parseUintM M a l= .ok (valL a l))/\(¬valL a l<=M->Lib.parseUintM M a l= .range)
 | [],a,_,ha=>by
  have:valL a []=a:=by unfold valL;rw[List.foldl_nil]
  rw[this]
  exact⟨fun _=>by unfold Lib.parseUintM;rfl,fun h=>absurd ha h⟩
 |c::l,a,h,ha=>by
  have hc:=h c List.mem_cons_self
  simp only[dt,Bool.and_eq_true,decide_eq_true_eq]at hc
  have hv:=valL_ge l (10 * a+(c.toNat - 48))
  have e:a * 10+(c.toNat - 48)=10 * a+(c.toNat - 48):=by omega
  rw[valL_cons]
  unfold Lib.parseUintM
  rw[if_pos hc,e]
  by_cases h1:1844674407370955162<=a
  ·rw[if_pos h1]
   exact⟨fun h'=>by omega,fun _=>rfl⟩
  ·rw[if_neg h1]
   by_cases h2:M<10 * a+(c.toNat - 48)
   ·rw[if_pos h2]
    exact⟨fun h'=>by omega,fun _=>rfl⟩
   ·rw[if_neg h2]
    exact parseUintM_eq hM l _ (fun c hc=>h c (List.mem_cons_of_mem _ hc)) (by omega)
theorem parseInt_eq (c:UInt8) (l:List UInt8) (h:∀d∈c::l,dt d.toNat=true) (hl:(c::l).length<=281474976710656):∃x e,fc (c::l) 10 64=some (x,e)/\(e||decide (x>2147483647))=decide (valL 0 (c::l)>2147483647):=by
 have hc:=h c List.mem_cons_self
 simp only[dt,Bool.and_eq_true,decide_eq_true_eq]at hc
 have h45:¬c.toNat=45:=by omega
 have h43:¬(c.toNat=43\/c.toNat=45):=by omega
 have e:(2:Nat) ^ 64 - 1=18446744073709551615:=by decide
 have hpu:Lib.parseUintB 64 (c::l)=Lib.parseUintM (2 ^ 64 - 1) 0 (c::l):=by
  unfold Lib.parseUintB
  rw[if_neg (by simp)]
 obtain⟨hp1,hp2⟩:=parseUintM_eq e (c::l) 0 h (Nat.zero_le _)
 generalize hv:valL 0 (c::l)=v at hp1 hp2 ⊢
 have e2:(2:Nat) ^ (64 - 1)=9223372036854775808:=by decide
 unfold fc
 rw[if_pos ⟨rfl,rfl,hl⟩]
 have hplain:=Lib.parseIntB_plain 64 c l (by omega) h45
 rw[hpu,e2]at hplain
 have hI:(v<9223372036854775808->Lib.parseIntB 64 (c::l)= .ok (v:Int))/\(¬v<9223372036854775808->Lib.parseIntB 64 (c::l)= .range):=by
  rw[hplain]
  constructor
  ·intro h2
   rw[hp1 (by omega)]
   show(if 9223372036854775808<=v then Lib.NumEnd.range else Lib.NumEnd.ok (v:Int))=_
   rw[if_neg (by omega)]
  ·intro h2
   by_cases h1:v<=2 ^ 64 - 1
   ·rw[hp1 h1]
    show(if 9223372036854775808<=v then Lib.NumEnd.range else Lib.NumEnd.ok (v:Int))=_
    rw[if_pos (by omega)]
   ·rw[hp2 h1]
    rfl
 by_cases h2:v<9223372036854775808
 ·rw[hI.1 h2]
  refine⟨_,_,rfl,?_⟩
  simp only[Bool.false_or,decide_eq_decide]
  omega
 ·rw[hI.2 h2]
  refine⟨_,_,rfl,?_⟩
  simp only[Bool.true_or]
  symm
  rw[decide_eq_true_eq]
  omega
end Go.Proofs.YteablckbgpogiaaGreatDoor
set_option linter.unusedSectionVars false
namespace Go.Proofs.YteablckbgpogiaaGreatDoor
open Go Go.Cn
theorem wrap_u8 {n:Int} (h1:0<=n) (h2:n<256):IntKind.wrap .u8 n=n:=by
 unfold IntKind.wrap
 have e1:(2:Int) ^ (IntKind.u8.bits)=256:=rfl
 have e3:IntKind.u8.signed=false:=rfl
 simp only[e1,e3,Bool.false_and,Bool.false_eq_true,if_false]
 omega
theorem ref03_great_eq (l:List UInt8) (h:∀c∈l,dt c.toNat=true):ref03_great l=some (decide (l.length>10)||decide (valL 0 l>2147483647)):=by
  unfold ref03_great
  by_cases hl:l.length>10
  · rw[if_pos (by simp;omega)]
    simp[hl]
  · rw[if_neg (by simp;omega)]
    have hp:∀k,k<=10->(10:Nat) ^ k<=10000000000:=fun k hk=>by
      have:=Nat.pow_le_pow_right (n:=10) (by decide) hk
      simpa using this
    obtain⟨o,h1,h2⟩:=fk (f:=fun s:Int × Int=>og l s.1 s.2) (fun s=>∃k m:Nat,s.2=k/\s.1=m/\k<=l.length/\m<10 ^ k/\valL 0 l=valL m (l.drop k)) (fun o=>o=(valL 0 l:Int)) (fun s=>l.length - s.2.toNat)
      (by
        rintro⟨n,i⟩ ⟨k,m,hi,hn,hk,hm,hr⟩
        simp only at hi hn
        subst hi hn
        unfold og
        rcases Nat.lt_or_ge k l.length with hlt|hge
        · rw[if_pos (by simpa using hlt),ot hlt]
          have hd:l.drop k=l[k]::l.drop (k+1):=by simp
          rw[hd,valL_cons]at hr
          have hc:=h l[k] (List.getElem_mem hlt)
          simp only[dt,Bool.and_eq_true,decide_eq_true_eq]at hc
          have hb:=hp k (by omega)
          have hpow:(10:Nat) ^ (k+1)=10 * 10 ^ k:=by rw[Nat.pow_succ,Nat.mul_comm]
          left
          refine⟨(((10 * m+(l[k].toNat - 48):Nat):Int),((k+1:Nat):Int)),?_,⟨k+1,10 * m+(l[k].toNat - 48),rfl,rfl,hlt,by rw[hpow];omega,hr⟩,by simp;omega⟩
          simp only[Option.bind_some]
          rw[wrap_u8 (by omega) (by omega),gt (n:=10 * (m:Int)) (by omega) (by omega),gt (n:=(l[k].toNat:Int) - 48) (by omega) (by omega),gt (by omega) (by omega),gt (n:=(k:Int)+1) (by omega) (by omega)]
          congr 3
          omega
        · have:k=l.length:=by omega
          subst this
          right
          refine⟨m,by simp,?_⟩
          rw[List.drop_eq_nil_of_le (Nat.le_refl _)]at hr
          rw[hr]
          rfl) (0,0) ⟨0,0,rfl,rfl,Nat.zero_le _,by decide,by simp⟩
    rw[h1,h2]
    simp only[Option.bind_some,ref03_great_k1,hl,decide_false,Bool.false_or,Option.some.injEq,decide_eq_decide]
    omega
end Go.Proofs.YteablckbgpogiaaGreatDoor
set_option linter.unusedSectionVars false
namespace Go.Proofs.YteablckbgpogiaaGreatDoor
open Go Go.Cn
def isSpace (c:Nat):Bool:=c==32||c==9||c==13||c==10
def jr :List UInt8->Option Nat
 | []=>none
 |c::l=>if[42,47].isPrefixOf (c::l)then some 0 else(jr l).map (·+1)
def gapL :Nat->List UInt8->Nat × Bool
 | 0,_=>(0,true)
 |f+1,s=>
  if[47,47].isPrefixOf s then
   let k:=runL (fun c=>c != 10) s
   let r:=gapL f (s.drop k)
   (k+r.1,r.2)
  else if[47,42].isPrefixOf s then
   match jr (s.drop 2)with
   |none=>(0,false)
   |some k=>let r:=gapL f (s.drop (k+4));(k+4+r.1,r.2)
  else match s with
   | []=>(0,true)
   |c::l=>if isSpace c.toNat then let r:=gapL f l;(1+r.1,r.2)else(0,true)
theorem index_endNote :∀s:List UInt8,Lib.index s [42,47]=(match jr s with|none=> -1|some k=>(k:Int))
 | []=>rfl
 |c::l=>by
  have ih:=index_endNote l
  unfold Lib.index jr
  by_cases h:[42,47].isPrefixOf (c::l)=true
  ·rw[if_pos h,if_pos h];rfl
  ·rw[if_neg h,if_neg h,ih]
   cases jr l with
   |none=>rfl
   |some k=>
    have:¬(((k:Int)== -1)=true):=by rw[beq_iff_eq];omega
    simp only[this,Option.map_some]
    simp
theorem endNote_le :∀(s:List UInt8) (k:Nat),jr s=some k->k+2<=s.length
 | [],k,h=>by cases h
 |c::l,k,h=>by
  unfold jr at h
  by_cases hp:[42,47].isPrefixOf (c::l)=true
  ·rw[if_pos hp]at h
   have:=(List.isPrefixOf_iff_prefix.1 hp).length_le
   cases h
   simpa using this
  ·rw[if_neg hp]at h
   cases he:jr l with
   |none=>rw[he]at h;cases h
   |some j=>
    rw[he]at h
    cases h
    have:=endNote_le l j he
    simp only[List.length_cons]
    omega
end Go.Proofs.YteablckbgpogiaaGreatDoor
set_option linter.unusedSectionVars false
namespace Go.Proofs.YteablckbgpogiaaGreatDoor
open Go Go.Cn
theorem lex_between_1_eq (c:UInt8):pv c.toNat=some (c.toNat != 10):=by
 unfold pv
 congr 1
 rw[Bool.eq_iff_iff]
 simp only[bne_iff_ne,ne_eq]
 omega
theorem gapL_succ (f:Nat) (t:List UInt8):gapL (f+1) t=(if[47,47].isPrefixOf t then
   (runL (fun c=>c != 10) t+(gapL f (t.drop (runL (fun c=>c != 10) t))).1,(gapL f (t.drop (runL (fun c=>c != 10) t))).2)
  else if[47,42].isPrefixOf t then
   match jr (t.drop 2)with
   |none=>(0,false)
   |some k=>(k+4+(gapL f (t.drop (k+4))).1,(gapL f (t.drop (k+4))).2)
  else match t with
   | []=>(0,true)
   |c::l=>if isSpace c.toNat then(1+(gapL f l).1,(gapL f l).2)else(0,true)):=rfl
theorem lex_between_eq (s:List UInt8) (hs:s.length<4294967281):lex_between s=some (((gapL s.length s).1:Int),(gapL s.length s).2):=by
  obtain⟨z,h1,h2⟩:=fk (f:=fun n=>oj s n) (fun n=>∃k f:Nat,n=k/\k<=s.length/\s.length - k<=f/\gapL s.length s=(k+(gapL f (s.drop k)).1,(gapL f (s.drop k)).2)) (fun z=>(match z with| .next n=>(n,true)| .done r=>r)=(((gapL s.length s).1:Int),(gapL s.length s).2)) (fun n=>s.length - n.toNat)
    (by
      rintro n ⟨k,f,rfl,hk,hf,hr⟩
      unfold oj ma
      rcases Nat.lt_or_ge k s.length with hlt|hge
      · rw[if_pos (by simpa using hlt),sub_from hk]
        simp only[Option.bind_some,hasPrefix_eq]
        obtain⟨f,rfl⟩:∃f',f=f'+1:=⟨f - 1,by omega⟩
        have hdl:(s.drop k).length=s.length - k:=by simp
        rw[gapL_succ]at hr
        by_cases hp1:[47,47].isPrefixOf (s.drop k)=true
        · rw[if_pos hp1]at hr
          simp only[hp1,if_true]
          rw[lex_run_eq (p:=fun c=>c != 10) lex_between_1_eq (by omega)]
          have hle:=runL_le (fun c=>c != 10) (s.drop k)
          have hpos:0<runL (fun c=>c != 10) (s.drop k):=by
            cases hd:s.drop k with
            |nil=>rw[hd]at hp1;cases hp1
            |cons c l=>
              rw[hd]at hp1
              have:c=47:=by
                have:=hp1
                simp[List.isPrefixOf]at this
                exact this.1.symm
              subst this
              simp[runL]
          generalize runL (fun c=>c != 10) (s.drop k)=r at hr hle hpos ⊢
          left
          rw[List.drop_drop]at hr
          refine⟨((k+r:Nat):Int),?_,⟨k+r,f,rfl,by omega,by omega,?_⟩,by simp;omega⟩
          · simp only[Option.bind_some]
            rw[gt (by omega) (by omega)]
            rfl
          · rw[hr,Nat.add_assoc]
        · rw[if_neg hp1]at hr
          simp only[hp1,Bool.false_eq_true,if_false]
          by_cases hp2:[47,42].isPrefixOf (s.drop k)=true
          · rw[if_pos hp2]at hr
            simp only[hp2,if_true]
            have h2:2<=(s.drop k).length:=(List.isPrefixOf_iff_prefix.1 hp2).length_le
            have hsub:sub (s.drop k) 2 ((s.drop k).length:Int)=some ((s.drop k).drop 2):=sub_from (i:=2) h2
            rw[hsub]
            simp only[Option.bind_some,strings_Index]
            rw[if_pos (by simp;omega),index_endNote]
            cases he:jr ((s.drop k).drop 2)with
            |none=>
              rw[he]at hr
              right
              refine⟨.done (k,false),by simp,?_⟩
              rw[hr]
              simp
            |some j=>
              rw[he]at hr
              have hj:=endNote_le _ _ he
              rw[List.length_drop,List.length_drop]at hj
              left
              simp only[Option.bind_some]
              rw[if_neg (by simp)]
              simp only[List.drop_drop]at hr
              refine⟨((k+(j+4):Nat):Int),?_,⟨k+(j+4),f,rfl,by omega,by omega,?_⟩,by simp;omega⟩
              · rw[gt (n:=2+(j:Int)) (by omega) (by omega),gt (n:=2+(j:Int)+2) (by omega) (by omega),gt (by omega) (by omega)]
                congr 2
                omega
              · rw[hr]
                congr 1
                omega
          · rw[if_neg hp2]at hr
            simp only[hp2,Bool.false_eq_true,if_false]
            have hd:s.drop k=s[k]::s.drop (k+1):=by simp
            have h0:idxS (s.drop k) 0=some (s[k].toNat:Int):=by rw[hd];rfl
            rw[h0]
            rw[hd]at hr
            simp only[Option.bind_some]
            have key:(if((s[k].toNat:Int)==32)=true then(some (.inl (w64 ((k:Int)+1))):Option (Int ⊕ Flow Int (Int × Bool)))else if((s[k].toNat:Int)==9)=true then some (.inl (w64 ((k:Int)+1)))else if((s[k].toNat:Int)==13)=true then some (.inl (w64 ((k:Int)+1)))else if((s[k].toNat:Int)==10)=true then some (.inl (w64 ((k:Int)+1)))else some (.inr (.next (k:Int))))=if isSpace s[k].toNat=true then some (.inl (w64 ((k:Int)+1)))else some (.inr (.next (k:Int))):=by
              unfold isSpace
              have e1:((s[k].toNat:Int)==32)=(s[k].toNat==32):=by rw[Bool.eq_iff_iff,beq_iff_eq,beq_iff_eq];omega
              have e2:((s[k].toNat:Int)==9)=(s[k].toNat==9):=by rw[Bool.eq_iff_iff,beq_iff_eq,beq_iff_eq];omega
              have e3:((s[k].toNat:Int)==13)=(s[k].toNat==13):=by rw[Bool.eq_iff_iff,beq_iff_eq,beq_iff_eq];omega
              have e4:((s[k].toNat:Int)==10)=(s[k].toNat==10):=by rw[Bool.eq_iff_iff,beq_iff_eq,beq_iff_eq];omega
              rw[e1,e2,e3,e4]
              cases (s[k].toNat==32)<;>cases (s[k].toNat==9)<;>cases (s[k].toNat==13)<;>cases (s[k].toNat==10)<;>rfl
            rw[key]
            by_cases hsp:isSpace s[k].toNat=true
            · left
              simp only[hsp,if_true]at hr ⊢
              refine⟨((k+1:Nat):Int),by rw[gt (by omega) (by omega)];rfl,⟨k+1,f,rfl,by omega,by omega,?_⟩,by simp;omega⟩
              rw[hr,Nat.add_assoc]
            · right
              simp only[hsp,Bool.false_eq_true,if_false]at hr ⊢
              exact⟨.next k,rfl,by rw[hr];simp⟩
      · have:k=s.length:=by omega
        subst this
        right
        refine⟨.next s.length,by simp,?_⟩
        have h0:s.drop s.length=[]:=by simp
        rw[h0]at hr
        have:gapL f []=(0,true):=by cases f<;>rfl
        rw[this]at hr
        rw[hr]
        rfl) 0 ⟨0,s.length,rfl,Nat.zero_le _,by omega,by simp⟩
  unfold lex_between
  rw[h1]
  cases z with
  |next n=>simp only[Option.bind_some,lex_between_k2,lex_between_j1];exact congrArg some h2
  |done r=>simp only[Option.bind_some];exact congrArg some h2
end Go.Proofs.YteablckbgpogiaaGreatDoor
set_option linter.unusedSectionVars false
namespace Go.Proofs.YteablckbgpogiaaGreatDoor
open Go Go.Cn
theorem ref03_line (s:List UInt8) (k:Nat) (hs:s.length<4611686018427387904) (hk:k<=s.length):iter (fun i=>j7 s i) k=some ((k+runL (fun c=>c != 10) (s.drop k):Nat):Int):=by
  obtain⟨o,h1,h2⟩:=fk (f:=fun i=>j7 s i) (fun i=>∃j:Nat,i=j/\j<=s.length/\k+runL (fun c=>c != 10) (s.drop k)=j+runL (fun c=>c != 10) (s.drop j)) (fun o=>o=((k+runL (fun c=>c != 10) (s.drop k):Nat):Int)) (fun i=>s.length - i.toNat)
    (by
      rintro i ⟨j,rfl,hj,hr⟩
      unfold j7 nw
      rcases Nat.lt_or_ge j s.length with hlt|hge
      · rw[if_pos (by simpa using hlt),ot hlt]
        simp only[Option.bind_some]
        have hd:s.drop j=s[j]::s.drop (j+1):=by simp
        rw[hd]at hr
        simp only[runL]at hr
        by_cases hc:s[j].toNat=10
        · right
          refine⟨j,by simp[hc],?_⟩
          rw[hr]
          simp[hc]
        · left
          have h1:(s[j].toNat != 10)=true:=by simpa using hc
          rw[if_pos h1]at hr
          refine⟨((j+1:Nat):Int),?_,⟨j+1,rfl,hlt,by omega⟩,by simp;omega⟩
          rw[if_pos (by rw[bne_iff_ne];omega),gt (by omega) (by omega)]
          rfl
      · have:j=s.length:=by omega
        subst this
        right
        refine⟨s.length,by simp,?_⟩
        rw[hr,List.drop_eq_nil_of_le (Nat.le_refl _)]
        rfl) k ⟨k,rfl,hk,rfl⟩
  rw[h1,h2]
theorem endNote_cons (c:UInt8) (l:List UInt8):jr (c::l)=if[42,47].isPrefixOf (c::l)then some 0 else(jr l).map (·+1):=rfl
theorem ref03_star (s:List UInt8) (m:Nat) (hs:s.length<4611686018427387904) (hm:m<=s.length):∃p:Nat,iter (fun i=>j6 s i) m=some (p:Int)/\p<=s.length/\(match jr (s.drop m)with|some j=>p=m+j/\p+1<s.length|none=>s.length<=p+1):=by
  obtain⟨o,h1,p,h2,h3,h4⟩:=fk (f:=fun i=>j6 s i) (fun i=>∃j:Nat,i=j/\j<=s.length/\m<=j/\jr (s.drop m)=(jr (s.drop j)).map (·+(j - m))) (fun o=>∃p:Nat,o=p/\p<=s.length/\(match jr (s.drop m)with|some j=>p=m+j/\p+1<s.length|none=>s.length<=p+1)) (fun i=>s.length - i.toNat)
    (by
      rintro i ⟨j,rfl,hj,hmj,hr⟩
      unfold j6 ld
      have hw:w64 ((j:Int)+1)=((j+1:Nat):Int):=by rw[gt (by omega) (by omega)];rfl
      rw[hw]
      rcases Nat.lt_or_ge (j+1) s.length with hlt|hge
      · rw[if_pos (by simp;omega),ot (show j<s.length by omega),ot hlt]
        simp only[Option.bind_some]
        have hd:s.drop j=s[j]::s[j+1]::s.drop (j+2):=by
          rw[List.drop_eq_getElem_cons (by omega),List.drop_eq_getElem_cons (by omega)]
        have hd1:s.drop (j+1)=s[j+1]::s.drop (j+2):=by rw[List.drop_eq_getElem_cons (by omega)]
        have hp:[42,47].isPrefixOf (s.drop j)=(s[j]==42&&s[j+1]==47):=by
          rw[hd]
          show((42:UInt8)==s[j]&&((47:UInt8)==s[j+1]&&true))=_
          rw[Bool.and_true,Bool.beq_comm (a:=(42:UInt8)),Bool.beq_comm (a:=(47:UInt8))]
        have hi1:((s[j].toNat:Int) != 42)= !(s[j]==42):=by
          rw[Bool.eq_iff_iff,bne_iff_ne,Bool.not_eq_true',beq_eq_false_iff_ne,ne_eq,ne_eq,← UInt8.toNat_inj]
          show ¬_↔¬s[j].toNat=42
          omega
        have hi2:((s[j+1].toNat:Int) != 47)= !(s[j+1]==47):=by
          rw[Bool.eq_iff_iff,bne_iff_ne,Bool.not_eq_true',beq_eq_false_iff_ne,ne_eq,ne_eq,← UInt8.toNat_inj]
          show ¬_↔¬s[j+1].toNat=47
          omega
        rw[hi1,hi2]
        have hcons:jr (s.drop j)=if(s[j]==42&&s[j+1]==47)=true then some 0 else(jr (s.drop (j+1))).map (·+1):=by
          rw[hd,endNote_cons,← hd,hp,hd1]
        by_cases hstop:(s[j]==42&&s[j+1]==47)=true
        · right
          rw[hcons,if_pos hstop]at hr
          simp only[Bool.and_eq_true]at hstop
          refine⟨j,by simp[hstop.1,hstop.2],j,rfl,hj,?_⟩
          rw[hr]
          simp only[Option.map_some]
          omega
        · left
          rw[hcons,if_neg hstop,Option.map_map]at hr
          refine⟨((j+1:Nat):Int),?_,⟨j+1,rfl,by omega,by omega,?_⟩,by simp;omega⟩
          · cases h1:s[j]==42 with
            |false=>simp
            |true=>
              cases h2:s[j+1]==47 with
              |false=>simp
              |true=>rw[h1,h2]at hstop;exact absurd rfl hstop
          · rw[hr]
            congr 1
            funext q
            simp only[Function.comp_def]
            omega
      · rw[if_neg (by simp;omega)]
        right
        refine⟨j,by simp,j,rfl,hj,?_⟩
        have:jr (s.drop j)=none:=by
          cases he:jr (s.drop j)with
          |none=>rfl
          |some q=>have:=endNote_le _ _ he;rw[List.length_drop]at this;omega
        rw[hr,this]
        exact hge) m ⟨m,rfl,hm,Nat.le_refl _,by cases jr (s.drop m)<;>simp⟩
  exact⟨p,by rw[h1,h2],h3,h4⟩
end Go.Proofs.YteablckbgpogiaaGreatDoor
set_option linter.unusedSectionVars false
namespace Go.Proofs.YteablckbgpogiaaGreatDoor
open Go Go.Cn
def nl :Nat->Bool:=fun c=>c != 10
inductive GapR :List UInt8->Nat->Bool->Prop
 |line (s k b):[47,47].isPrefixOf s=true->GapR (s.drop (runL nl s)) k b->GapR s (runL nl s+k) b
 |note (s j k b):[47,42].isPrefixOf s=true->jr (s.drop 2)=some j->GapR (s.drop (j+4)) k b->GapR s (j+4+k) b
 |left (s):[47,42].isPrefixOf s=true->jr (s.drop 2)=none->GapR s 0 false
 |nil:GapR [] 0 true
 |space (c l k b):isSpace c.toNat=true->GapR l k b->GapR (c::l) (1+k) b
 |stop (c l):isSpace c.toNat=false->[47,47].isPrefixOf (c::l)=false->[47,42].isPrefixOf (c::l)=false->GapR (c::l) 0 true
theorem pre2 {a b:UInt8} {s:List UInt8}:[a,b].isPrefixOf s=true↔∃l,s=a::b::l:=by
 rw[List.isPrefixOf_iff_prefix]
 constructor
 ·rintro⟨t,rfl⟩;exact⟨t,rfl⟩
 ·rintro⟨l,rfl⟩;exact⟨l,rfl⟩
theorem pre2_false {a b:UInt8} {s:List UInt8}:[a,b].isPrefixOf s=false↔∀l,s≠a::b::l:=by
 rw[Bool.eq_false_iff,ne_eq,pre2]
 exact⟨fun h l e=>h ⟨l,e⟩,fun h ⟨l,e⟩=>h l e⟩
theorem runL_nl_pos {s:List UInt8} (h:[47,47].isPrefixOf s=true):0<runL nl s:=by
 obtain⟨l,rfl⟩:=pre2.1 h
 simp[runL,nl]
theorem gap_rel :∀(f:Nat) (s:List UInt8),s.length<=f->GapR s (gapL f s).1 (gapL f s).2
 | 0,s,h=>by
  obtain rfl:s=[]:=List.eq_nil_of_length_eq_zero (by omega)
  exact .nil
 |f+1,s,h=>by
  rw[gapL_succ]
  by_cases h1:[47,47].isPrefixOf s=true
  ·have hp:=runL_nl_pos h1
   have hl:2<=s.length:=(List.isPrefixOf_iff_prefix.1 h1).length_le
   rw[if_pos h1]
   exact .line s _ _ h1 (gap_rel f _ (by rw[List.length_drop];unfold nl at hp ⊢;omega))
  ·rw[if_neg h1]
   by_cases h2:[47,42].isPrefixOf s=true
   ·rw[if_pos h2]
    cases he:jr (s.drop 2)with
    |none=>exact .left s h2 he
    |some j=>
     have hl:2<=s.length:=(List.isPrefixOf_iff_prefix.1 h2).length_le
     exact .note s j _ _ h2 he (gap_rel f _ (by rw[List.length_drop];omega))
   ·rw[if_neg h2]
    match s,h with
    | [],_=>exact .nil
    |c::l,h=>
     by_cases hs:isSpace c.toNat=true
     ·simp only[hs,if_true]
      exact .space c l _ _ hs (gap_rel f l (by simpa using h))
     ·simp only[hs,if_false,Bool.false_eq_true]
      exact .stop c l (eq_false_of_ne_true hs) (eq_false_of_ne_true h1) (eq_false_of_ne_true h2)
theorem space_not {c:UInt8} (h:isSpace c.toNat=true):c≠47:=by
 rintro rfl
 revert h
 decide
theorem rel_gap {s:List UInt8} {k:Nat} {b:Bool} (h:GapR s k b):∀f,s.length<=f->gapL f s=(k,b):=by
 induction h with
 |line s k b h1 _ ih=>
  intro f hf
  have hp:=runL_nl_pos h1
  have hl:2<=s.length:=(List.isPrefixOf_iff_prefix.1 h1).length_le
  obtain⟨f,rfl⟩:∃f',f=f'+1:=⟨f - 1,by omega⟩
  have:=ih f (by rw[List.length_drop];omega)
  rw[gapL_succ,if_pos h1]
  unfold nl at this ⊢
  rw[this]
 |note s j k b h1 he _ ih=>
  intro f hf
  obtain⟨l,rfl⟩:=pre2.1 h1
  obtain⟨f,rfl⟩:∃f',f=f'+1:=⟨f - 1,by simp at hf;omega⟩
  have:=ih f (by simp at hf ⊢;omega)
  rw[gapL_succ,if_neg (by simp),if_pos h1,he]
  show(j+4+_,_)=_
  rw[this]
 |left s h1 he=>
  intro f hf
  obtain⟨l,rfl⟩:=pre2.1 h1
  obtain⟨f,rfl⟩:∃f',f=f'+1:=⟨f - 1,by simp at hf;omega⟩
  rw[gapL_succ,if_neg (by simp),if_pos h1,he]
 |nil=>intro f _;cases f<;>rfl
 |space c l k b hs _ ih=>
  intro f hf
  obtain⟨f,rfl⟩:∃f',f=f'+1:=⟨f - 1,by simp at hf;omega⟩
  have:=ih f (by simpa using hf)
  have h1:=space_not hs
  have h1':¬(47:UInt8)=c:=fun h=>h1 h.symm
  rw[gapL_succ,if_neg (by simp[h1']),if_neg (by simp[h1'])]
  simp only[hs,if_true,this]
 |stop c l hs h1 h2=>
  intro f hf
  obtain⟨f,rfl⟩:∃f',f=f'+1:=⟨f - 1,by simp at hf;omega⟩
  rw[gapL_succ,if_neg (by rw[h1];simp),if_neg (by rw[h2];simp)]
  simp only[hs,Bool.false_eq_true,if_false]
theorem gapR_le {s:List UInt8} {k:Nat} {b:Bool} (h:GapR s k b):k<=s.length:=by
 induction h with
 |line s k b h1 _ ih=>have:=runL_le nl s;rw[List.length_drop]at ih;omega
 |note s j k b h1 he _ ih=>have:=endNote_le _ _ he;rw[List.length_drop]at ih this;omega
 |left s _ _=>omega
 |nil=>simp
 |space c l k b _ _ ih=>simp;omega
 |stop=>simp
theorem gapR_next {s:List UInt8} {k:Nat} (h:GapR s k true) (hk:k<s.length):∃c l,s.drop k=c::l/\isSpace c.toNat=false/\[47,47].isPrefixOf (c::l)=false/\[47,42].isPrefixOf (c::l)=false:=by
 have key:∀s k b,GapR s k b->b=true->k<s.length->∃c l,s.drop k=c::l/\isSpace c.toNat=false/\[47,47].isPrefixOf (c::l)=false/\[47,42].isPrefixOf (c::l)=false:=by
  intro s k b h
  induction h with
  |line s k b h1 hk ih=>
   intro hb hm
   have:=ih hb (by rw[List.length_drop];omega)
   rwa [List.drop_drop]at this
  |note s j k b h1 he hk ih=>
   intro hb hm
   have:=ih hb (by rw[List.length_drop];omega)
   rwa [List.drop_drop]at this
  |left s h1 he=>intro hb;cases hb
  |nil=>intro _ hm;simp at hm
  |space c l k b hs hk ih=>
   intro hb hm
   have:=ih hb (by simp at hm;omega)
   rwa [Nat.add_comm,List.drop_succ_cons]
  |stop c l hs h1 h2=>intro _ _;exact⟨c,l,rfl,hs,h1,h2⟩
 exact key s k true h rfl hk
end Go.Proofs.YteablckbgpogiaaGreatDoor
set_option linter.unusedSectionVars false
namespace Go.Proofs.YteablckbgpogiaaGreatDoor
open Go Go.Cn
theorem itN {σ ω:Type} {f:σ->Option (σ ⊕ ω)} {s s':σ} (h:f s=some (.inl s')):iter f s=iter f s':= @np noG _ _ _ _ _ h
theorem itD {σ ω:Type} {f:σ->Option (σ ⊕ ω)} {s:σ} {o:ω} (h:f s=some (.inr o)):iter f s=some o:= @ga noG _ _ _ _ _ h
theorem oz {α:Type} {s l:List α} {k:Nat} {c:α} (h:s.drop k=c::l):k<s.length/\s[k]? =some c/\s.drop (k+1)=l:=by
 have h1:k<s.length:=by
  have:=congrArg List.length h
  simp at this
  omega
 refine⟨h1,?_,?_⟩
 ·have:(s.drop k)[0]? =some c:=by rw[h];rfl
  rwa [List.getElem?_drop,Nat.add_zero]at this
 ·rw[← List.drop_drop,h]
  rfl
theorem lh {s l:List UInt8} {k:Nat} {c:UInt8} (h:s.drop k=c::l):idxS s k=some (c.toNat:Int):=by
 obtain⟨h1,h2,_⟩:=oz h
 rw[ot h1]
 rw[List.getElem?_eq_getElem h1]at h2
 rw[Option.some.inj h2]
theorem la {a b:Nat} (h:a+b<=9223372036854775807):w64 ((a:Int)+(b:Int))=((a+b:Nat):Int):=by rw[gt (by omega) (by omega)];rfl
theorem w64_one {a:Nat} (h:a+1<=9223372036854775807):w64 ((a:Int)+1)=((a+1:Nat):Int):=la (b:=1) h
theorem byte_ne {c:UInt8} {n:Nat} (hn:n<256) (h:c≠n.toUInt8):¬(c.toNat:Int)=n:=by
 intro h'
 apply h
 apply UInt8.toNat_inj.1
 rw[Nat.toUInt8,UInt8.toNat_ofNat',Nat.mod_eq_of_lt hn]
 omega
theorem ref03_between_loop (s:List UInt8) (hs:s.length<4611686018427387904) {t:List UInt8} {n:Nat} {b:Bool} (h:GapR t n b):∀k:Nat,k<=s.length->s.drop k=t->∃z,iter (fun i=>dp s i) (k:Int)=some z/\(match z with| .next n=>(n,true)| .done r=>r)=(((k+n:Nat):Int),b):=by
 induction h with
 |line t n b h1 _ ih=>
  intro k hk hd
  obtain⟨l,rfl⟩:=pre2.1 h1
  obtain⟨hk1,_,hd1⟩:=oz hd
  obtain⟨hk2,_,_⟩:=oz hd1
  have hl:=ref03_line s k hs hk
  rw[hd]at hl
  have hr:=runL_le nl (47::47::l)
  rw[← hd,List.length_drop,hd]at hr
  have:dp s k=some (.inl ((k+runL nl (47::47::l):Nat):Int)):=by
   unfold dp
   rw[if_pos (by simpa using hk1),lh hd]
   simp only[Option.bind_some,fe,w64_one (show k+1<=9223372036854775807 by omega),lh hd1]
   rw[if_neg (by decide),if_neg (by decide),if_neg (by decide),if_neg (by decide),if_neg (by simp;omega),if_neg (by decide),if_neg (by decide)]
   simp only[ii,w64_one (show k+1<=9223372036854775807 by omega),lh hd1,Option.bind_some,Bool.false_eq_true,if_false]
   rw[if_pos (by decide),hl]
   rfl
  obtain⟨z,hz,hq⟩:=ih (k+runL nl (47::47::l)) (by omega) (by rw[← List.drop_drop,hd])
  exact⟨z,by rw[itN this];exact hz,by rw[hq,Nat.add_assoc]⟩
 |note t j n b h1 he _ ih=>
  intro k hk hd
  obtain⟨l,rfl⟩:=pre2.1 h1
  obtain⟨hk1,_,hd1⟩:=oz hd
  obtain⟨hk2,_,hd2⟩:=oz hd1
  obtain⟨p,hp1,hp2,hp3⟩:=ref03_star s (k+2) hs (by omega)
  have he':jr (s.drop (k+2))=some j:=by rw[hd2];exact he
  rw[he']at hp3
  obtain⟨rfl,hp4⟩:=hp3
  have:dp s k=some (.inl ((k+(j+4):Nat):Int)):=by
   unfold dp
   rw[if_pos (by simpa using hk1),lh hd]
   simp only[Option.bind_some,fe,w64_one (show k+1<=9223372036854775807 by omega),lh hd1]
   rw[if_neg (by decide),if_neg (by decide),if_neg (by decide),if_neg (by decide),if_neg (by simp;omega),if_neg (by decide),if_pos (by decide)]
   simp only[ii,w64_one (show k+1<=9223372036854775807 by omega),lh hd1,Option.bind_some,Bool.false_eq_true,if_false]
   rw[if_neg (by decide),if_neg (by decide)]
   have hw:w64 ((k:Int)+2)=((k+2:Nat):Int):=la (b:=2) (by omega)
   rw[hw,hp1]
   simp only[Option.bind_some,nv]
   rw[w64_one (by omega),if_neg (by simp;omega)]
   have hw:w64 (((k+2+j:Nat):Int)+2)=((k+2+j+2:Nat):Int):=la (b:=2) (by omega)
   rw[hw,show k+2+j+2=k+(j+4)by omega]
  obtain⟨z,hz,hq⟩:=ih (k+(j+4)) (by omega) (by rw[← List.drop_drop,hd])
  exact⟨z,by rw[itN this];exact hz,by rw[hq,Nat.add_assoc]⟩
 |left t h1 he=>
  intro k hk hd
  obtain⟨l,rfl⟩:=pre2.1 h1
  obtain⟨hk1,_,hd1⟩:=oz hd
  obtain⟨hk2,_,hd2⟩:=oz hd1
  obtain⟨p,hp1,hp2,hp3⟩:=ref03_star s (k+2) hs (by omega)
  have he':jr (s.drop (k+2))=none:=by rw[hd2];exact he
  rw[he']at hp3
  have hp3:s.length<=p+1:=hp3
  have:dp s k=some (.inr (.done ((k:Int),false))):=by
   unfold dp
   rw[if_pos (by simpa using hk1),lh hd]
   simp only[Option.bind_some,fe,w64_one (show k+1<=9223372036854775807 by omega),lh hd1]
   rw[if_neg (by decide),if_neg (by decide),if_neg (by decide),if_neg (by decide),if_neg (by simp;omega),if_neg (by decide),if_pos (by decide)]
   simp only[ii,w64_one (show k+1<=9223372036854775807 by omega),lh hd1,Option.bind_some,Bool.false_eq_true,if_false]
   rw[if_neg (by decide),if_neg (by decide)]
   have hw:w64 ((k:Int)+2)=((k+2:Nat):Int):=la (b:=2) (by omega)
   rw[hw,hp1]
   simp only[Option.bind_some,nv]
   rw[w64_one (by omega),if_pos (by simp;omega)]
  exact⟨_,itD this,rfl⟩
 |nil=>
  intro k hk hd
  have:s.length<=k:=List.drop_eq_nil_iff.1 hd
  exact⟨.next k,itD (by unfold dp;rw[if_neg (by simp;omega)]),rfl⟩
 |space c l n b hc _ ih=>
  intro k hk hd
  obtain⟨hk1,_,hd1⟩:=oz hd
  have:dp s k=some (.inl ((k+1:Nat):Int)):=by
   unfold dp
   rw[if_pos (by simpa using hk1),lh hd]
   simp only[Option.bind_some,fe,w64_one (show k+1<=9223372036854775807 by omega)]
   simp only[isSpace,Bool.or_eq_true,beq_iff_eq]at hc
   rcases hc with((hc|hc)|hc)|hc<;>rw[hc]<;>rfl
  obtain⟨z,hz,hq⟩:=ih (k+1) (by omega) hd1
  exact⟨z,by rw[itN this];exact hz,by rw[hq,Nat.add_assoc]⟩
 |stop c l hc h1 h2=>
  intro k hk hd
  obtain⟨hk1,_,hd1⟩:=oz hd
  have:dp s k=some (.inr (.done ((k:Int),true))):=by
   unfold dp
   rw[if_pos (by simpa using hk1),lh hd]
   simp only[isSpace,Bool.or_eq_false_iff,beq_eq_false_iff_ne,ne_eq]at hc
   obtain⟨⟨⟨e1,e2⟩,e3⟩,e4⟩:=hc
   have b1:¬((c.toNat:Int)==32)=true:=by rw[beq_iff_eq];omega
   have b2:¬((c.toNat:Int)==9)=true:=by rw[beq_iff_eq];omega
   have b3:((c.toNat:Int)==13)=false:=by rw[beq_eq_false_iff_ne];omega
   have b4:¬((c.toNat:Int)==10)=true:=by rw[beq_iff_eq];omega
   simp only[Option.bind_some]
   rw[if_neg b1,if_neg b2,if_neg b4,b3]
   simp only[fe,w64_one (show k+1<=9223372036854775807 by omega),Bool.false_eq_true,if_false]
   match l,hd,hd1 with
   | [],hd,hd1=>
    have:s.length<=k+1:=List.drop_eq_nil_iff.1 hd1
    rw[if_pos (by simp;omega)]
    rfl
   |d::l,hd,hd1=>
    obtain⟨hk2,_,_⟩:=oz hd1
    rw[if_neg (by simp;omega)]
    by_cases e:c=47
    ·subst e
     rw[pre2_false]at h1 h2
     have n1:d≠47:=fun h=>h1 l (by rw[h])
     have n2:d≠42:=fun h=>h2 l (by rw[h])
     rw[if_neg (by decide),lh hd1]
     simp only[Option.bind_some]
     have m1:=byte_ne (n:=47) (by decide) n1
     have m2:=byte_ne (n:=42) (by decide) n2
     rw[if_pos (by rw[bne_iff_ne];exact m1),show((d.toNat:Int) != 42)=true by rw[bne_iff_ne];exact m2]
     rfl
    ·have m:=byte_ne (n:=47) (by decide) e
     rw[if_pos (by rw[bne_iff_ne];exact m)]
     rfl
  exact⟨_,itD this,rfl⟩
theorem ny (s:List UInt8) (a:Nat) (hs:s.length<4611686018427387904) (ha:a<=s.length) {n:Nat} {b:Bool} (h:GapR (s.drop a) n b):ref03_between s a=some (((a+n:Nat):Int),b):=by
 obtain⟨z,h1,h2⟩:=ref03_between_loop s hs h a ha rfl
 unfold ref03_between
 rw[h1]
 cases z with
 |next n=>simp only[Option.bind_some,qz];exact congrArg some h2
 |done r=>simp only[Option.bind_some];exact congrArg some h2
end Go.Proofs.YteablckbgpogiaaGreatDoor
set_option linter.unusedSectionVars false
namespace Go.Proofs.YteablckbgpogiaaGreatDoor
open Go Go.Cn
def tokL :List UInt8->Nat × Nat × Nat
 | []=>(0,0,30)
 |c::l=>
  if dt c.toNat then
   if decide (valL 0 ((c::l).take (runL dt (c::l)))>2147483647)||(decide (runL dt (c::l)>1)&&c==48)then(0,0,31)else(2,runL dt (c::l),0)
  else if mb c.toNat then
   if runL nm (c::l)>20 then(0,0,2)else if kept.contains ((c::l).take (runL nm (c::l)))then(3,runL nm (c::l),0)else(1,runL nm (c::l),0)
  else if markL (c::l)=0 then(0,0,30)else(4,markL (c::l),0)
theorem tokL_cons (c:UInt8) (l:List UInt8):tokL (c::l)=
  if dt c.toNat then
   if decide (valL 0 ((c::l).take (runL dt (c::l)))>2147483647)||(decide (runL dt (c::l)>1)&&c==48)then(0,0,31)else(2,runL dt (c::l),0)
  else if mb c.toNat then
   if runL nm (c::l)>20 then(0,0,2)else if kept.contains ((c::l).take (runL nm (c::l)))then(3,runL nm (c::l),0)else(1,runL nm (c::l),0)
  else if markL (c::l)=0 then(0,0,30)else(4,markL (c::l),0):=rfl
theorem markL_le (s:List UInt8):markL s<=s.length:=by
 unfold markL
 by_cases h:twos.any (fun t=>t.isPrefixOf s)=true
 ·rw[if_pos h]
  obtain⟨t,ht,hp⟩:=List.any_eq_true.1 h
  have:=(List.isPrefixOf_iff_prefix.1 hp).length_le
  rw[two_len t ht]at this
  exact this
 ·rw[if_neg h]
  cases s with
  |nil=>simp
  |cons c l=>simp only[List.length_cons];split<;>omega
theorem mz {s:List UInt8} {k n:Nat} (h:tokL s=(k,n,0)):0<n/\n<=s.length/\k≠0/\k≠5:=by
 cases s with
 |nil=>cases h
 |cons c l=>
  rw[tokL_cons]at h
  split at h
  ·rename_i hd
   split at h
   ·cases h
   ·cases h
    exact⟨by simp[runL,hd],runL_le _ _,by decide,by decide⟩
  ·split at h
   ·rename_i hl
    split at h
    ·cases h
    ·have hw:0<runL nm (c::l):=by simp[runL,nm,hl]
     split at h<;>(cases h;exact⟨hw,runL_le _ _,by decide,by decide⟩)
   ·split at h
    ·cases h
    ·cases h
     exact⟨by omega,markL_le _,by decide,by decide⟩
theorem tokL_err {s:List UInt8} (h:(tokL s).2.2≠0):(tokL s).1=0/\(tokL s).2.1=0:=by
 revert h
 cases s with
 |nil=>exact fun _=>⟨rfl,rfl⟩
 |cons c l=>
  rw[tokL_cons]
  split
  ·split
   ·exact fun _=>⟨rfl,rfl⟩
   ·exact fun h=>absurd rfl h
  ·split
   ·split
    ·exact fun _=>⟨rfl,rfl⟩
    ·split<;>exact fun h=>absurd rfl h
   ·split
    ·exact fun _=>⟨rfl,rfl⟩
    ·exact fun h=>absurd rfl h
def lexL :Nat->Nat->List UInt8->List ApiToken × Nat × Nat
 | 0,_,_=>([],0,0)
 |f+1,a,s=>
  if(gapL s.length s).2=false then([],a+(gapL s.length s).1,32)
  else if(gapL s.length s).1=s.length then([⟨5,[],((a+s.length:Nat):Int),s⟩],0,0)
  else if(tokL (s.drop (gapL s.length s).1)).2.2≠0 then([],a+(gapL s.length s).1,(tokL (s.drop (gapL s.length s).1)).2.2)
  else
   let k:=(gapL s.length s).1
   let t:=tokL (s.drop k)
   let r:=lexL f (a+k+t.2.1) (s.drop (k+t.2.1))
   if r.2.2≠0 then r else(⟨t.1,(s.drop k).take t.2.1,((a+k:Nat):Int),s.take k⟩::r.1,0,0)
inductive LexR :Nat->List UInt8->List ApiToken->Nat->Nat->Prop
 |note (a s k):GapR s k false->LexR a s [] (a+k) 32
 |fin (a s):GapR s s.length true->LexR a s [⟨5,[],((a+s.length:Nat):Int),s⟩] 0 0
 |bad (a s k e):GapR s k true->k<s.length->tokL (s.drop k)=(0,0,e)->e≠0->LexR a s [] (a+k) e
 |tok (a s k d n l):GapR s k true->k<s.length->tokL (s.drop k)=(d,n,0)->LexR (a+k+n) (s.drop (k+n)) l 0 0->LexR a s (⟨d,(s.drop k).take n,((a+k:Nat):Int),s.take k⟩::l) 0 0
 |later (a s k d n p e):GapR s k true->k<s.length->tokL (s.drop k)=(d,n,0)->LexR (a+k+n) (s.drop (k+n)) [] p e->e≠0->LexR a s [] p e
theorem lexL_rel :∀(f a:Nat) (s:List UInt8),s.length<f->LexR a s (lexL f a s).1 (lexL f a s).2.1 (lexL f a s).2.2
 | 0,a,s,h=>by omega
 |f+1,a,s,h=>by
  have hg:=gap_rel s.length s (Nat.le_refl _)
  unfold lexL
  cases h0:gapL s.length s with
  |mk k b=>
  rw[h0]at hg
  simp only at hg ⊢
  cases b with
  |false=>exact .note a s k hg
  |true=>
   have hk:=gapR_le hg
   simp only[Bool.true_eq_false,if_false]
   by_cases h1:k=s.length
   ·rw[if_pos h1]
    subst h1
    exact .fin a s hg
   ·rw[if_neg h1]
    cases ht:tokL (s.drop k)with
    |mk d r=>
    obtain⟨n,e⟩:=r
    simp only
    by_cases he:e=0
    ·subst he
     simp only[ne_eq,not_true_eq_false,if_false]
     obtain⟨hn,hn2,_,_⟩:=mz ht
     have ih:=lexL_rel f (a+k+n) (s.drop (k+n)) (by rw[List.length_drop];omega)
     generalize lexL f (a+k+n) (s.drop (k+n))=r at ih ⊢
     obtain⟨l,p,e⟩:=r
     simp only at ih ⊢
     by_cases he:e=0
     ·subst he
      simp only[not_true_eq_false,if_false]
      obtain rfl:p=0:=by cases ih<;>first|rfl|contradiction
      exact .tok a s k d n l hg (by omega) ht ih
     ·simp only[he,not_false_eq_true,if_true]
      obtain rfl:l=[]:=by cases ih<;>first|rfl|contradiction
      exact .later a s k d n p e hg (by omega) ht ih he
    ·rw[if_pos he]
     have:=tokL_err (s:=s.drop k) (by rw[ht];exact he)
     rw[ht]at this
     obtain⟨rfl,rfl⟩:d=0/\n=0:=this
     exact .bad a s k e hg (by omega) ht he
theorem rel_lexL {a:Nat} {s:List UInt8} {l:List ApiToken} {p e:Nat} (h:LexR a s l p e):∀f,s.length<f->lexL f a s=(l,p,e):=by
 induction h with
 |note a s k hg=>
  intro f hf
  obtain⟨f,rfl⟩:∃f',f=f'+1:=⟨f - 1,by omega⟩
  unfold lexL
  rw[rel_gap hg _ (Nat.le_refl _),if_pos rfl]
 |fin a s hg=>
  intro f hf
  obtain⟨f,rfl⟩:∃f',f=f'+1:=⟨f - 1,by omega⟩
  unfold lexL
  rw[rel_gap hg _ (Nat.le_refl _),if_neg (by simp),if_pos rfl]
 |bad a s k e hg hk ht he=>
  intro f hf
  obtain⟨f,rfl⟩:∃f',f=f'+1:=⟨f - 1,by omega⟩
  unfold lexL
  rw[rel_gap hg _ (Nat.le_refl _),if_neg (by simp),if_neg (by simp only;omega)]
  simp only[ht]
  rw[if_pos he]
 |tok a s k d n l hg hk ht _ ih=>
  intro f hf
  obtain⟨f,rfl⟩:∃f',f=f'+1:=⟨f - 1,by omega⟩
  obtain⟨hn,hn2,_,_⟩:=mz ht
  have ih:=ih f (by rw[List.length_drop];omega)
  unfold lexL
  rw[rel_gap hg _ (Nat.le_refl _),if_neg (by simp),if_neg (by simp only;omega)]
  simp only[ht,ih,ne_eq,not_true_eq_false,if_false]
 |later a s k d n p e hg hk ht _ he ih=>
  intro f hf
  obtain⟨f,rfl⟩:∃f',f=f'+1:=⟨f - 1,by omega⟩
  obtain⟨hn,hn2,_,_⟩:=mz ht
  have ih:=ih f (by rw[List.length_drop];omega)
  unfold lexL
  rw[rel_gap hg _ (Nat.le_refl _),if_neg (by simp),if_neg (by simp only;omega)]
  simp only[ht,ih,ne_eq,not_true_eq_false,if_false,he,not_false_eq_true,if_true]
def lexM (s:List UInt8):List ApiToken × Nat × Nat:=lexL (s.length+1) 0 s
theorem lexM_rel (s:List UInt8):LexR 0 s (lexM s).1 (lexM s).2.1 (lexM s).2.2:=lexL_rel _ _ _ (Nat.lt_succ_self _)
theorem rel_lexM {s:List UInt8} {l:List ApiToken} {p e:Nat} (h:LexR 0 s l p e):lexM s=(l,p,e):=rel_lexL h _ (Nat.lt_succ_self _)
end Go.Proofs.YteablckbgpogiaaGreatDoor
set_option linter.unusedSectionVars false
namespace Go.Proofs.YteablckbgpogiaaGreatDoor
open Go Go.Cn
theorem runL_all (p:Nat->Bool):∀s:List UInt8,∀c∈s.take (runL p s),p c.toNat=true
 | [],c,h=>by simp[runL]at h
 |d::l,c,h=>by
  simp only[runL]at h
  split at h
  ·rename_i hd
   rw[List.take_succ_cons,List.mem_cons]at h
   rcases h with rfl|h
   ·exact hd
   ·exact runL_all p l c h
  ·simp at h
def tokI (s:List UInt8):Int × Int × Int:=(((tokL s).1:Int),((tokL s).2.1:Int),((tokL s).2.2:Int))
theorem lex_token_eq (c:UInt8) (l:List UInt8) (hs:(c::l).length<281474976710656):lex_token (c::l)=some (tokI (c::l)):=by
 have h0:idxS (c::l) 0=some (c.toNat:Int):=rfl
 unfold lex_token
 simp only[h0,Option.bind_some,lex_digit_eq,lex_letter_eq]
 unfold tokI
 rw[tokL_cons]
 cases hd:dt c.toNat with
 |true=>
  simp only[if_true]
  have hle:=runL_le dt (c::l)
  have hpos:0<runL dt (c::l):=by simp[runL,hd]
  rw[lex_run_eq lex_digit_eq (by omega)]
  simp only[Option.bind_some]
  have hall:=runL_all dt (c::l)
  generalize runL dt (c::l)=n at hle hpos hall ⊢
  rw[sub_all (by omega) (by omega) (by omega)]
  simp only[Option.bind_some,Int.toNat_natCast,Int.toNat_zero,List.drop_zero]
  have htk:(c::l).take n=c::l.take (n - 1):=by
   obtain⟨n,rfl⟩:∃n',n=n'+1:=⟨n - 1,by omega⟩
   rfl
  rw[htk]at hall ⊢
  obtain⟨x,e,h1,h2⟩:=parseInt_eq c (l.take (n - 1)) hall (by rw[← htk,List.length_take];omega)
  rw[h1]
  simp only[Option.bind_some,pa]
  rw[← h2]
  cases e with
  |true=>simp
  |false=>
   have hn:decide ((n:Int)>1)=decide (n>1):=by rw[decide_eq_decide];omega
   have hc:((c.toNat:Int)==48)=(c==48):=by
    rw[Bool.eq_iff_iff,beq_iff_eq,beq_iff_eq,← UInt8.toNat_inj]
    show _↔c.toNat=48
    omega
   rw[hn,hc]
   cases decide (x>2147483647)with
   |true=>simp
   |false=>
    cases decide (n>1)with
    |false=>simp
    |true=>
     cases c==48 with
     |true=>simp
     |false=>simp
 |false=>
  simp only[Bool.false_eq_true,if_false]
  cases hl:mb c.toNat with
  |true=>
   simp only[if_true]
   have hle:=runL_le nm (c::l)
   rw[lex_run_eq lex_token_1_eq (by omega)]
   simp only[Option.bind_some]
   generalize runL nm (c::l)=n at hle ⊢
   by_cases h20:n>20
   ·rw[if_pos (by simp;omega),if_pos h20];rfl
   ·rw[if_neg (by simp;omega),if_neg h20,sub_all (by omega) (by omega) (by omega)]
    simp only[Option.bind_some,Int.toNat_natCast,Int.toNat_zero,List.drop_zero,lex_Kept_eq]
    by_cases hk:kept.contains ((c::l).take n)=true
    ·rw[if_pos hk,if_pos hk];rfl
    ·rw[if_neg hk,if_neg hk];rfl
  |false=>
   simp only[Bool.false_eq_true,if_false,lex_mark_eq,Option.bind_some]
   by_cases hm:markL (c::l)=0
   ·rw[hm];rfl
   ·rw[if_neg (by rw[beq_iff_eq];omega),if_neg hm];rfl
theorem valL_pow :∀(l:List UInt8) (a:Nat),a * 10 ^ l.length<=valL a l
 | [],a=>by simp[valL]
 |c::l,a=>by
  rw[valL_cons]
  have h1:=valL_pow l (10 * a+(c.toNat - 48))
  have h2:a * 10 ^ (l.length+1)<=(10 * a+(c.toNat - 48)) * 10 ^ l.length:=by
   rw[Nat.pow_succ,Nat.mul_comm (10 ^ l.length) 10,← Nat.mul_assoc,Nat.mul_comm a 10]
   exact Nat.mul_le_mul_right _ (Nat.le_add_right _ _)
  exact Nat.le_trans h2 h1
theorem great_long {c:UInt8} {l:List UInt8} (hd:dt c.toNat=true) (h:(c::l).length>10) (h0:c≠48):valL 0 (c::l)>2147483647:=by
 rw[valL_cons]
 simp only[dt,Bool.and_eq_true,decide_eq_true_eq]at hd
 have hne:c.toNat≠48:=fun h=>h0 (UInt8.toNat_inj.1 h)
 have h1:=valL_pow l (10 * 0+(c.toNat - 48))
 have h2:10 ^ 10<=10 ^ l.length:=Nat.pow_le_pow_right (by decide) (by simp at h;omega)
 have h3:1 * 10 ^ l.length<=(10 * 0+(c.toNat - 48)) * 10 ^ l.length:=Nat.mul_le_mul_right _ (by omega)
 omega
theorem ref03_token_digits (s:List UInt8) (a:Nat) (hs:s.length<4611686018427387904) (ha:a<=s.length):iter (fun i=>l7 a s i) 0=some (runL dt (s.drop a):Int):=by
  obtain⟨o,h1,h2⟩:=fk (f:=fun i=>l7 a s i) (fun i=>∃k:Nat,i=k/\a+k<=s.length/\runL dt (s.drop a)=k+runL dt (s.drop (a+k))) (fun o=>o=(runL dt (s.drop a):Int)) (fun i=>s.length - i.toNat)
    (by
      rintro i ⟨k,rfl,hk,hr⟩
      unfold l7 qn
      rw[la (by omega)]
      rcases Nat.lt_or_ge (a+k) s.length with hlt|hge
      · rw[if_pos (by simp;omega),ot hlt]
        simp only[Option.bind_some,ref03_digit_eq]
        rw[List.drop_eq_getElem_cons hlt]at hr
        simp only[runL]at hr
        cases hp:dt s[a+k].toNat with
        |true=>
          left
          rw[hp]at hr
          exact⟨((k+1:Nat):Int),by rw[w64_one (by omega)];rfl,⟨k+1,rfl,by omega,by rw[hr,if_pos rfl,← Nat.add_assoc a k 1];omega⟩,by simp;omega⟩
        |false=>
          right
          rw[hp]at hr
          exact⟨k,rfl,by rw[hr];simp⟩
      · rw[if_neg (by simp;omega)]
        right
        refine⟨k,rfl,?_⟩
        rw[hr,List.drop_eq_nil_of_le (by omega)]
        rfl) 0 ⟨0,rfl,by omega,by simp⟩
  rw[h1,h2]
theorem ref03_token_words (s:List UInt8) (a:Nat) (hs:s.length<4611686018427387904) (ha:a<=s.length):iter (fun i=>l6 a s i) 0=some (runL nm (s.drop a):Int):=by
  obtain⟨o,h1,h2⟩:=fk (f:=fun i=>l6 a s i) (fun i=>∃k:Nat,i=k/\a+k<=s.length/\runL nm (s.drop a)=k+runL nm (s.drop (a+k))) (fun o=>o=(runL nm (s.drop a):Int)) (fun i=>s.length - i.toNat)
    (by
      rintro i ⟨k,rfl,hk,hr⟩
      unfold l6 od
      rw[la (by omega)]
      rcases Nat.lt_or_ge (a+k) s.length with hlt|hge
      · rw[if_pos (by simp;omega),ot hlt]
        simp only[Option.bind_some,ref03_digit_eq,ref03_letter_eq]
        rw[List.drop_eq_getElem_cons hlt]at hr
        simp only[runL]at hr
        have key:(if mb s[a+k].toNat=true then(if True then some (.inl (w64 ((k:Int)+1)))else some (.inr (k:Int)))else if dt s[a+k].toNat=true then some (.inl (w64 ((k:Int)+1)))else some (.inr (k:Int)):Option (Int ⊕ Int))=if nm s[a+k].toNat=true then some (.inl (w64 ((k:Int)+1)))else some (.inr (k:Int)):=by
          unfold nm
          cases mb s[a+k].toNat<;>cases dt s[a+k].toNat<;>simp
        rw[key]
        cases hp:nm s[a+k].toNat with
        |true=>
          left
          rw[hp]at hr
          exact⟨((k+1:Nat):Int),by rw[w64_one (by omega)];rfl,⟨k+1,rfl,by omega,by rw[hr,if_pos rfl,← Nat.add_assoc a k 1];omega⟩,by simp;omega⟩
        |false=>
          right
          rw[hp]at hr
          exact⟨k,rfl,by rw[hr];simp⟩
      · rw[if_neg (by simp;omega)]
        right
        refine⟨k,rfl,?_⟩
        rw[hr,List.drop_eq_nil_of_le (by omega)]
        rfl) 0 ⟨0,rfl,by omega,by simp⟩
  rw[h1,h2]
theorem sub_drop {s:List UInt8} {a n:Nat} (h:a+n<=s.length):sub s a ((a+n:Nat):Int)=some ((s.drop a).take n):=by
 rw[sub_all (by omega) (by omega) (by omega),Int.toNat_natCast,Int.toNat_natCast,List.drop_take]
 congr 2
 omega
theorem ref03_token_eq (s:List UInt8) (a:Nat) (c:UInt8) (l:List UInt8) (hs:s.length<4611686018427387904) (hd:s.drop a=c::l):ref03_token s a=some (tokI (c::l)):=by
 obtain⟨ha,_,_⟩:=oz hd
 have hlen:(c::l).length=s.length - a:=by rw[← hd,List.length_drop]
 unfold ref03_token
 rw[lh hd]
 simp only[Option.bind_some,ref03_digit_eq,ref03_letter_eq]
 unfold tokI
 rw[tokL_cons]
 cases hdg:dt c.toNat with
 |true=>
  simp only[if_true]
  rw[ref03_token_digits s a hs (by omega),hd]
  have hle:=runL_le dt (c::l)
  have hpos:0<runL dt (c::l):=by simp[runL,hdg]
  have hall:=runL_all dt (c::l)
  generalize runL dt (c::l)=n at hle hpos hall ⊢
  simp only[Option.bind_some,ref03_token_k2,la (show a+n<=9223372036854775807 by omega)]
  rw[sub_drop (by omega),hd]
  simp only[Option.bind_some]
  rw[ref03_great_eq _ hall]
  simp only[Option.bind_some,oe,lh hd]
  have htl:((c::l).take n).length=n:=by rw[List.length_take];omega
  have htk:(c::l).take n=c::l.take (n - 1):=by
   obtain⟨n,rfl⟩:∃n',n=n'+1:=⟨n - 1,by omega⟩
   rfl
  have hn:decide ((n:Int)>1)=decide (n>1):=by rw[decide_eq_decide];omega
  have hc:((c.toNat:Int)==48)=(c==48):=by
   rw[Bool.eq_iff_iff,beq_iff_eq,beq_iff_eq,← UInt8.toNat_inj]
   show _↔c.toNat=48
   omega
  rw[hn,hc,htl]
  have hlong:decide (n>10)=true->(c==48)=false->decide (valL 0 ((c::l).take n)>2147483647)=true:=by
   intro h1 h2
   rw[decide_eq_true_eq]at h1 ⊢
   rw[htk]at htl ⊢
   exact great_long hdg (by rw[htl];exact h1) (by simpa using h2)
  have hn1:decide (n>10)=true->decide (n>1)=true:=by simp only[decide_eq_true_eq];omega
  revert hlong hn1
  cases decide (n>10)<;>cases c==48<;>cases decide (valL 0 ((c::l).take n)>2147483647)<;>cases decide (n>1)<;>simp
 |false=>
  simp only[Bool.false_eq_true,if_false]
  cases hl:mb c.toNat with
  |true=>
   simp only[if_true]
   rw[ref03_token_words s a hs (by omega),hd]
   have hle:=runL_le nm (c::l)
   generalize runL nm (c::l)=n at hle ⊢
   simp only[Option.bind_some,ref03_token_k5,la (show a+n<=9223372036854775807 by omega)]
   by_cases h20:n>20
   ·rw[if_pos (by simp;omega),if_pos h20];rfl
   ·rw[if_neg (by simp;omega),if_neg h20,sub_drop (by omega),hd]
    simp only[Option.bind_some,ref03_Kept_eq]
    by_cases hk:kept.contains ((c::l).take n)=true
    ·rw[if_pos hk,if_pos hk];rfl
    ·rw[if_neg hk,if_neg hk];rfl
  |false=>
   simp only[Bool.false_eq_true,if_false]
   rw[ref03_mark_eq s a hs ha,hd]
   simp only[Option.bind_some]
   by_cases hm:markL (c::l)=0
   ·rw[hm];rfl
   ·rw[if_neg (by rw[beq_iff_eq];omega),if_neg hm];rfl
end Go.Proofs.YteablckbgpogiaaGreatDoor
set_option linter.unusedSectionVars false
namespace Go.Proofs.YteablckbgpogiaaGreatDoor
open Go Go.Cn
def backL :Nat->List UInt8->List ApiToken->Prop
 |_,_,[]=>False
 |a,s,t::l=>t.At=((a+t.Lead.length:Nat):Int)/\∃s',s=t.Lead++t.Text++s'/\
  ((l=[]/\t.Kind=5/\t.Text=[]/\s'=[])\/(l≠[]/\t.Kind≠5/\t.Text≠[]/\backL (a+t.Lead.length+t.Text.length) s' l))
theorem lexR_back {a:Nat} {s:List UInt8} {l:List ApiToken} {p e:Nat} (h:LexR a s l p e):e=0->p=0/\l≠[]/\backL a s l:=by
 induction h with
 |note a s k hg=>intro h;cases h
 |fin a s hg=>exact fun _=>⟨rfl,by simp,rfl,[],by simp,.inl ⟨rfl,rfl,rfl,rfl⟩⟩
 |bad a s k e hg hk ht he=>exact fun h=>absurd h he
 |tok a s k d n l hg hk ht _ ih=>
  intro _
  obtain⟨_,hl,hb⟩:=ih rfl
  obtain⟨hn,hn2,h0,h5⟩:=mz ht
  rw[List.length_drop]at hn2
  refine⟨rfl,by simp,?_,s.drop (k+n),?_,.inr ⟨hl,?_,?_,?_⟩⟩
  ·simp only[List.length_take];rw[Nat.min_eq_left (by omega)]
  ·rw[← List.drop_drop,List.append_assoc,List.take_append_drop,List.take_append_drop]
  ·simp only;omega
  ·intro h
   have:=congrArg List.length h
   simp only[List.length_take,List.length_drop,List.length_nil]at this
   omega
  ·simp only[List.length_take,List.length_drop]
   rw[Nat.min_eq_left (by omega),Nat.min_eq_left (by omega)]
   exact hb
 |later a s k d n p e hg hk ht _ he ih=>exact fun h=>absurd h he
theorem lexR_err {a:Nat} {s:List UInt8} {l:List ApiToken} {p e:Nat} (h:LexR a s l p e):e≠0->l=[]/\a<=p/\p<=a+s.length:=by
 induction h with
 |note a s k hg=>intro _;have:=gapR_le hg;exact⟨rfl,by omega,by omega⟩
 |fin a s hg=>exact fun h=>absurd rfl h
 |bad a s k e hg hk ht he=>exact fun _=>⟨rfl,by omega,by omega⟩
 |tok a s k d n l hg hk ht _ ih=>exact fun h=>absurd rfl h
 |later a s k d n p e hg hk ht _ he ih=>
  intro _
  obtain⟨_,h1,h2⟩:=ih he
  obtain⟨hn,hn2,h0,h5⟩:=mz ht
  rw[List.length_drop]at h2 hn2
  exact⟨rfl,by omega,by omega⟩
end Go.Proofs.YteablckbgpogiaaGreatDoor
set_option linter.unusedSectionVars false
namespace Go.Proofs.YteablckbgpogiaaGreatDoor
open Go Go.Cn
end Go.Proofs.YteablckbgpogiaaGreatDoor
set_option linter.unusedSectionVars false
namespace Go.Proofs.YteablckbgpogiaaGreatDoor
open Go Go.Cn
def lexI (s:List UInt8):List ApiToken × Int × Int:=((lexM s).1,((lexM s).2.1:Int),((lexM s).2.2:Int))
theorem app_one {l:List ApiToken} {t:ApiToken} (h:l.length<=1048576):app 48 l [t]=some (l++[t]):=by
 unfold app
 rw[if_pos ⟨by simp only[List.length_cons,List.length_nil];omega,by simp only[List.length_cons,List.length_nil];omega⟩]
theorem pf {s:List UInt8} {k:Nat} {b:Bool} (h:GapR s k b) (hs:s.length<=1048576):lex_between s=some ((k:Int),b):=by
 rw[lex_between_eq s (by omega),rel_gap h _ (Nat.le_refl _)]
theorem drop_some {α:Type} {s:List α} {k:Nat} (h:k<s.length):∃c l,s.drop k=c::l:=⟨_,_,List.drop_eq_getElem_cons h⟩
theorem lex_Lex_1_eq (d k n a:Nat) (out:List ApiToken) (x:List UInt8) (hx:x.length<=1048576) (h:a+k+n<=x.length) (ho:out.length<=a):lex_Lex_1 (d:Int) (k:Int) (n:Int) out x (a:Int)=some (out++[⟨d,((x.drop a).drop k).take n,((a+k:Nat):Int),(x.drop a).take k⟩],x,((a+k+n:Nat):Int)):=by
 unfold lex_Lex_1
 rw[la (by omega),la (by omega),sub_drop (s:=x) (by omega),sub_drop (s:=x) (by omega)]
 simp only[Option.bind_some]
 rw[app_one (by omega)]
 simp only[Option.bind_some,lex_Lex_1_j1]
 rw[la (by omega),la (by omega),List.drop_drop,Nat.add_assoc]
theorem lex_Lex_loop (x:List UInt8) (hx:x.length<=1048576) {a:Nat} {s:List UInt8} {l:List ApiToken} {p e:Nat} (h:LexR a s l p e):∀out:List ApiToken,a<=x.length->s=x.drop a->out.length<=a->iter (fun s=>jk s.1 s.2.1 s.2.2) (x,(a:Int),out)=some (if e=0 then out++l else[],(p:Int),(e:Int)):=by
 have start:∀a:Nat,a<=x.length->sub x a (x.length:Int)=some (x.drop a):=fun a h=>sub_from h
 induction h with
 |note a s k hg=>
  rintro out ha rfl ho
  have hle:=gapR_le hg
  rw[List.length_drop]at hle
  refine itD ?_
  show jk x a out=_
  unfold jk
  rw[start a ha]
  simp only[Option.bind_some,pf hg (by rw[List.length_drop];omega)]
  rw[if_pos (by simp)]
  unfold lex_Lex_j2
  rw[la (by omega)]
  rfl
 |fin a s hg=>
  rintro out ha rfl ho
  refine itD ?_
  show jk x a out=_
  unfold jk
  rw[start a ha]
  simp only[Option.bind_some,pf hg (by rw[List.length_drop];omega)]
  have hl:a+(x.drop a).length=x.length:=by rw[List.length_drop];omega
  rw[if_neg (by simp),la (by omega),hl,if_pos (by simp)]
  have:=lex_Lex_1_eq 5 (x.drop a).length 0 a out x hx (by omega) ho
  have e5:((5:Nat):Int)=5:=rfl
  have e0:((0:Nat):Int)=0:=rfl
  rw[e5,e0]at this
  rw[this]
  simp only[Option.bind_some,hl]
  rw[List.take_of_length_le (Nat.le_refl _),List.take_zero]
  rfl
 |bad a s k e hg hk ht he=>
  rintro out ha rfl ho
  have hk2:a+k<x.length:=by rw[List.length_drop]at hk;omega
  refine itD ?_
  show jk x a out=_
  unfold jk
  rw[start a ha]
  simp only[Option.bind_some,pf hg (by rw[List.length_drop];omega)]
  rw[if_neg (by simp),la (by omega),if_neg (by rw[beq_iff_eq];omega),start (a+k) (by omega)]
  rw[List.drop_drop]at ht
  obtain⟨c,l,hd⟩:=drop_some hk2
  have hlen:=congrArg List.length hd
  rw[List.length_drop]at hlen
  rw[hd]at ht ⊢
  simp only[Option.bind_some,lex_token_eq c l (by omega),tokI,ht]
  rw[if_pos (by rw[bne_iff_ne];omega),if_neg he]
  unfold lex_Lex_j3
  rw[la (by omega)]
 |tok a s k d n l hg hk ht _ ih=>
  rintro out ha rfl ho
  have hk2:a+k<x.length:=by rw[List.length_drop]at hk;omega
  obtain⟨hn,hn2,_,_⟩:=mz ht
  rw[List.length_drop,List.length_drop]at hn2
  have:=ih (out++[⟨d,((x.drop a).drop k).take n,((a+k:Nat):Int),(x.drop a).take k⟩]) (by omega) (by rw[List.drop_drop,Nat.add_assoc]) (by rw[List.length_append,List.length_cons,List.length_nil];omega)
  rw[itN (s':=(x,((a+k+n:Nat):Int),out++[⟨d,((x.drop a).drop k).take n,((a+k:Nat):Int),(x.drop a).take k⟩]))]
  ·rw[this,if_pos rfl,if_pos rfl,List.append_assoc]
   rfl
  ·show jk x a out=_
   unfold jk
   rw[start a ha]
   simp only[Option.bind_some,pf hg (by rw[List.length_drop];omega)]
   rw[if_neg (by simp),la (by omega),if_neg (by rw[beq_iff_eq];omega),start (a+k) (by omega)]
   rw[List.drop_drop]at ht
   obtain⟨c,q,hd⟩:=drop_some hk2
   have hlen:=congrArg List.length hd
   rw[List.length_drop]at hlen
   rw[hd]at ht ⊢
   simp only[Option.bind_some,lex_token_eq c q (by omega),tokI,ht]
   rw[if_neg (by simp),lex_Lex_1_eq d k n a out x hx (by omega) ho]
   rfl
 |later a s k d n p e hg hk ht _ he ih=>
  rintro out ha rfl ho
  have hk2:a+k<x.length:=by rw[List.length_drop]at hk;omega
  obtain⟨hn,hn2,_,_⟩:=mz ht
  rw[List.length_drop,List.length_drop]at hn2
  have:=ih (out++[⟨d,((x.drop a).drop k).take n,((a+k:Nat):Int),(x.drop a).take k⟩]) (by omega) (by rw[List.drop_drop,Nat.add_assoc]) (by rw[List.length_append,List.length_cons,List.length_nil];omega)
  rw[itN (s':=(x,((a+k+n:Nat):Int),out++[⟨d,((x.drop a).drop k).take n,((a+k:Nat):Int),(x.drop a).take k⟩]))]
  ·rw[this,if_neg he,if_neg he]
  ·show jk x a out=_
   unfold jk
   rw[start a ha]
   simp only[Option.bind_some,pf hg (by rw[List.length_drop];omega)]
   rw[if_neg (by simp),la (by omega),if_neg (by rw[beq_iff_eq];omega),start (a+k) (by omega)]
   rw[List.drop_drop]at ht
   obtain⟨c,q,hd⟩:=drop_some hk2
   have hlen:=congrArg List.length hd
   rw[List.length_drop]at hlen
   rw[hd]at ht ⊢
   simp only[Option.bind_some,lex_token_eq c q (by omega),tokI,ht]
   rw[if_neg (by simp),lex_Lex_1_eq d k n a out x hx (by omega) ho]
   rfl
theorem lexM_err (s:List UInt8) (h:(lexM s).2.2≠0):(lexM s).1=[]:=(lexR_err (lexM_rel s) h).1
theorem lex_Lex_eq (s:List UInt8) (hs:s.length<=1048576):lex_Lex s=some (lexI s):=by
 unfold lex_Lex
 rw[if_neg (by simp;omega)]
 have:=lex_Lex_loop s hs (lexM_rel s) [] (by omega) rfl (Nat.le_refl _)
 have e0:((0:Nat):Int)=0:=rfl
 rw[e0]at this
 rw[this]
 unfold lexI
 by_cases h:(lexM s).2.2=0
 ·rw[if_pos h];rfl
 ·rw[if_neg h,lexM_err s h]
theorem ref03_Lex_loop (x:List UInt8) (hx:x.length<=1048576) {a:Nat} {s:List UInt8} {l:List ApiToken} {p e:Nat} (h:LexR a s l p e):∀out:List ApiToken,a<=x.length->s=x.drop a->out.length<=a->iter (fun s=>gb x s.1 s.2) ((a:Int),out)=some (if e=0 then out++l else[],(p:Int),(e:Int)):=by
 induction h with
 |note a s k hg=>
  rintro out ha rfl ho
  refine itD ?_
  show gb x a out=_
  unfold gb
  rw[ny x a (by omega) ha hg]
  rfl
 |fin a s hg=>
  rintro out ha rfl ho
  refine itD ?_
  show gb x a out=_
  unfold gb
  rw[ny x a (by omega) ha hg]
  simp only[Option.bind_some]
  have hl:a+(x.drop a).length=x.length:=by rw[List.length_drop];omega
  rw[if_neg (by simp),hl,if_pos (by simp),sub_from ha]
  simp only[Option.bind_some]
  rw[app_one (by omega)]
  rfl
 |bad a s k e hg hk ht he=>
  rintro out ha rfl ho
  have hk2:a+k<x.length:=by rw[List.length_drop]at hk;omega
  refine itD ?_
  show gb x a out=_
  unfold gb
  rw[ny x a (by omega) ha hg]
  simp only[Option.bind_some]
  rw[if_neg (by simp),if_neg (by rw[beq_iff_eq];omega)]
  rw[List.drop_drop]at ht
  obtain⟨c,l,hd⟩:=drop_some hk2
  rw[hd]at ht
  rw[ref03_token_eq x (a+k) c l (by omega) hd]
  simp only[Option.bind_some,tokI,ht]
  rw[if_pos (by rw[bne_iff_ne];omega),if_neg he]
 |tok a s k d n l hg hk ht _ ih=>
  rintro out ha rfl ho
  have hk2:a+k<x.length:=by rw[List.length_drop]at hk;omega
  obtain⟨hn,hn2,_,_⟩:=mz ht
  rw[List.length_drop,List.length_drop]at hn2
  have:=ih (out++[⟨d,((x.drop a).drop k).take n,((a+k:Nat):Int),(x.drop a).take k⟩]) (by omega) (by rw[List.drop_drop,Nat.add_assoc]) (by rw[List.length_append,List.length_cons,List.length_nil];omega)
  rw[itN (s':=(((a+k+n:Nat):Int),out++[⟨d,((x.drop a).drop k).take n,((a+k:Nat):Int),(x.drop a).take k⟩]))]
  ·rw[this,if_pos rfl,if_pos rfl,List.append_assoc]
   rfl
  ·show gb x a out=_
   unfold gb
   rw[ny x a (by omega) ha hg]
   simp only[Option.bind_some]
   rw[if_neg (by simp),if_neg (by rw[beq_iff_eq];omega)]
   rw[List.drop_drop]at ht
   obtain⟨c,q,hd⟩:=drop_some hk2
   rw[hd]at ht
   rw[ref03_token_eq x (a+k) c q (by omega) hd]
   simp only[Option.bind_some,tokI,ht]
   rw[if_neg (by simp),la (by omega),sub_drop (s:=x) (by omega),sub_drop (s:=x) (by omega)]
   simp only[Option.bind_some]
   rw[app_one (by omega)]
   simp only[Option.bind_some,ref03_Lex_j2]
   rw[la (by omega),List.drop_drop]
 |later a s k d n p e hg hk ht _ he ih=>
  rintro out ha rfl ho
  have hk2:a+k<x.length:=by rw[List.length_drop]at hk;omega
  obtain⟨hn,hn2,_,_⟩:=mz ht
  rw[List.length_drop,List.length_drop]at hn2
  have:=ih (out++[⟨d,((x.drop a).drop k).take n,((a+k:Nat):Int),(x.drop a).take k⟩]) (by omega) (by rw[List.drop_drop,Nat.add_assoc]) (by rw[List.length_append,List.length_cons,List.length_nil];omega)
  rw[itN (s':=(((a+k+n:Nat):Int),out++[⟨d,((x.drop a).drop k).take n,((a+k:Nat):Int),(x.drop a).take k⟩]))]
  ·rw[this,if_neg he,if_neg he]
  ·show gb x a out=_
   unfold gb
   rw[ny x a (by omega) ha hg]
   simp only[Option.bind_some]
   rw[if_neg (by simp),if_neg (by rw[beq_iff_eq];omega)]
   rw[List.drop_drop]at ht
   obtain⟨c,q,hd⟩:=drop_some hk2
   rw[hd]at ht
   rw[ref03_token_eq x (a+k) c q (by omega) hd]
   simp only[Option.bind_some,tokI,ht]
   rw[if_neg (by simp),la (by omega),sub_drop (s:=x) (by omega),sub_drop (s:=x) (by omega)]
   simp only[Option.bind_some]
   rw[app_one (by omega)]
   simp only[Option.bind_some,ref03_Lex_j2]
   rw[la (by omega),List.drop_drop]
theorem ref03_Lex_eq (s:List UInt8) (hs:s.length<=1048576):ref03_Lex s=some (lexI s):=by
 unfold ref03_Lex
 rw[if_neg (by simp;omega)]
 have:=ref03_Lex_loop s hs (lexM_rel s) [] (by omega) rfl (Nat.le_refl _)
 have e0:((0:Nat):Int)=0:=rfl
 rw[e0]at this
 rw[this]
 unfold lexI
 by_cases h:(lexM s).2.2=0
 ·rw[if_pos h];rfl
 ·rw[if_neg h,lexM_err s h]
end Go.Proofs.YteablckbgpogiaaGreatDoor
