/- Texts put one behind the other, and their tokens. -/
import Derived.Test.YtackaijkmkollaaGreatDoorZY9
set_option linter.unusedSimpArgs false
set_option linter.unusedVariables false
set_option linter.unusedSectionVars false
set_option linter.unusedSectionVars false
set_option linter.unusedVariables false
set_option linter.unusedSimpArgs false
set_option maxHeartbeats 4000000
namespace Go.Proofs.YtackaijkmkollaaGreatDoor
open Go Go.Cn
theorem runL_nl (r:List UInt8):∀s:List UInt8,runL nl (s++10::r)=runL nl s
 | []=>by simp[runL,nl]
 |c::s=>by
  simp only[List.cons_append,runL,runL_nl r s]
theorem gapR_end {s:List UInt8} {k:Nat} {b:Bool} (h:GapR s k b) (r:List UInt8) (j:Nat) (hr:GapR r j true):b=true->k=s.length->GapR (s++10::r) (s.length+1+j) true:=by
 induction h with
 |line s k b h1 hk ih=>
  intro hb hm
  have hle:=runL_le nl s
  have:=ih hb (by rw[List.length_drop];omega)
  rw[List.length_drop]at this
  have h2:=GapR.line (s++10::r) (s.length - runL nl s+1+j) true (by obtain⟨l,rfl⟩:=pre2.1 h1;exact pre2.2 ⟨l++10::r,rfl⟩) (by
   rw[runL_nl,List.drop_append_of_le_length hle]
   exact this)
  rw[runL_nl,show runL nl s+(s.length - runL nl s+1+j)=s.length+1+j by omega]at h2
  exact h2
 |note s j2 k b h1 he hk ih=>
  intro hb hm
  have hle:=endNote_le _ _ he
  rw[List.length_drop]at hle
  have h2:2<=s.length:=(List.isPrefixOf_iff_prefix.1 h1).length_le
  have:=ih hb (by rw[List.length_drop];omega)
  rw[List.length_drop]at this
  have h3:=GapR.note (s++10::r) j2 (s.length - (j2+4)+1+j) true (by obtain⟨l,rfl⟩:=pre2.1 h1;exact pre2.2 ⟨l++10::r,rfl⟩) (by rw[List.drop_append_of_le_length h2];exact endNote_append _ _ _ he) (by
   rw[List.drop_append_of_le_length (by omega)]
   exact this)
  rw[show j2+4+(s.length - (j2+4)+1+j)=s.length+1+j by omega]at h3
  exact h3
 |left s h1 he=>intro hb;cases hb
 |nil=>
  intro _ _
  have:=GapR.space 10 r j true (by decide) hr
  simpa using this
 |space c l k b hs hk ih=>
  intro hb hm
  simp only[List.length_cons]at hm ⊢
  have:=GapR.space c (l++10::r) _ true hs (ih hb (by omega))
  rw[List.cons_append,show l.length+1+1+j=1+(l.length+1+j)by omega]
  exact this
 |stop c l hs h1 h2=>intro _ hm;simp at hm
theorem GP.end_ {s:List UInt8} (h:GapR s s.length true):GP (s++[10]):=fun r k hk=>by
 have:=gapR_end h r k hk rfl rfl
 simpa using this
theorem gapR_nl {s:List UInt8} {k:Nat} {b:Bool} (h:GapR s k b) (t:List UInt8):b=true->k<s.length->GapR (s++10::t) k true:=by
 induction h with
 |line s k b h1 hk ih=>
  intro hb hm
  have hle:=runL_le nl s
  have h2:=GapR.line (s++10::t) k true (by obtain⟨l,rfl⟩:=pre2.1 h1;exact pre2.2 ⟨l++10::t,rfl⟩) (by
   rw[runL_nl,List.drop_append_of_le_length hle]
   exact ih hb (by rw[List.length_drop];omega))
  rw[runL_nl]at h2
  exact h2
 |note s j k b h1 he hk ih=>
  intro hb hm
  have hle:=endNote_le _ _ he
  rw[List.length_drop]at hle
  have h2:2<=s.length:=(List.isPrefixOf_iff_prefix.1 h1).length_le
  exact .note (s++10::t) j k true (by obtain⟨l,rfl⟩:=pre2.1 h1;exact pre2.2 ⟨l++10::t,rfl⟩) (by rw[List.drop_append_of_le_length h2];exact endNote_append _ _ _ he) (by
   rw[List.drop_append_of_le_length (by omega)]
   exact ih hb (by rw[List.length_drop];omega))
 |left s h1 he=>intro hb;cases hb
 |nil=>intro _ hm;simp at hm
 |space c l k b hs hk ih=>
  intro hb hm
  exact .space c _ k true hs (ih hb (by simp at hm;omega))
 |stop c l hs h1 h2=>
  intro _ _
  have key:∀b:UInt8,b≠10->[47,b].isPrefixOf (c::l)=false->[47,b].isPrefixOf (c::(l++10::t))=false:=by
   intro b hb h
   rw[pre2_false]at h ⊢
   intro q hq
   injection hq with e1 e2
   cases l with
   |nil=>
    rw[List.nil_append]at e2
    injection e2 with e3 e4
    exact hb e3.symm
   |cons d l=>
    rw[List.cons_append]at e2
    injection e2 with e3 e4
    exact h l (by rw[e1,e3])
  exact .stop c _ hs (key _ (by decide) h1) (key _ (by decide) h2)
def sameD (d:Int):List ApiToken->List ApiToken->Prop
 | [],[]=>True
 |t::l,u::m=>u.Kind=t.Kind/\u.Text=t.Text/\u.At=t.At+d/\sameD d l m
 |_,_=>False
theorem sameD_len {d:Int}:∀{l m:List ApiToken},sameD d l m->m.length=l.length
 | [],[],_=>rfl
 |t::l,u::m,h=>by simp[sameD_len h.2.2.2]
 | [],_::_,h=>h.elim
 |_::_,[],h=>h.elim
theorem sameD_at {d:Int}:∀{l m:List ApiToken} {i:Nat},sameD d l m->i<l.length->(m.getD i cq).Kind=(l.getD i cq).Kind/\(m.getD i cq).Text=(l.getD i cq).Text/\(m.getD i cq).At=(l.getD i cq).At+d
 |t::l,u::m,0,h,_=>⟨h.1,h.2.1,h.2.2.1⟩
 |t::l,u::m,i+1,h,hi=>by
  have:=sameD_at (i:=i) h.2.2.2 (by simpa using hi)
  simpa using this
 | [],_,_,_,h=>by simp at h
 |_::_,[],_,h,_=>h.elim
theorem sameD_refl :∀l:List ApiToken,sameD 0 l l
 | []=>trivial
 |t::l=>⟨rfl,rfl,by simp,sameD_refl l⟩
theorem lexR_move {a:Nat} {s:List UInt8} {l:List ApiToken} {p e:Nat} (h:LexR a s l p e):e=0->∀b:Nat,∃m,LexR b s m 0 0/\sameD ((b:Int) - (a:Int)) l m:=by
 induction h with
 |note a s k hg=>intro h;cases h
 |fin a s hg=>exact fun _ b=>⟨_,.fin b s hg,rfl,rfl,by simp only;omega,trivial⟩
 |bad a s k e hg hk ht he=>exact fun h=>absurd h he
 |tok a s k d n l hg hk ht _ ih=>
  intro _ b
  obtain⟨m,h1,h2⟩:=ih rfl (b+k+n)
  refine⟨_,.tok b s k d n m hg hk ht h1,rfl,rfl,by simp only;omega,?_⟩
  rw[show((b+k+n:Nat):Int) - ((a+k+n:Nat):Int)=(b:Int) - (a:Int)by omega]at h2
  exact h2
 |later a s k d n p e hg hk ht _ he ih=>exact fun h=>absurd h he
theorem lexR_ahead {a:Nat} {pre r:List UInt8} {m:List ApiToken} {p e:Nat} (hp:GP pre) (h:LexR (a+pre.length) r m p e) (he:e=0):∃m',LexR a (pre++r) m' 0 0/\sameD 0 m m':=by
 generalize hb:a+pre.length=b at h
 cases h with
 |note _ _ k hg=>cases he
 |fin _ _ hg=>
  have h1:=hp _ _ hg
  rw[← List.length_append]at h1
  refine⟨_,.fin a (pre++r) h1,rfl,rfl,?_,trivial⟩
  simp only[List.length_append]
  omega
 |bad _ _ k _ hg hk ht he2=>exact absurd he he2
 |tok _ _ k d n l hg hk ht hl=>
  have h1:=hp _ _ hg
  have e1:(pre++r).drop (pre.length+k)=r.drop k:=by rw[← List.drop_drop,List.drop_left]
  have h2:=LexR.tok a (pre++r) (pre.length+k) d n l h1 (by rw[List.length_append];omega) (by rw[e1];exact ht) (by
   rw[show a+(pre.length+k)+n=b+k+n by omega,← List.drop_drop,e1,List.drop_drop]
   exact hl)
  refine⟨_,h2,rfl,by simp only[e1],by simp only;omega,sameD_refl l⟩
 |later _ _ k d n _ _ hg hk ht hl he2=>exact absurd he he2
theorem lexR_join {a:Nat} {s:List UInt8} {l:List ApiToken} {p e:Nat} (h:LexR a s l p e) (r:List UInt8) (m:List ApiToken):e=0->LexR (a+s.length+1) r m 0 0->∃l',LexR a (s++10::r) l' 0 0/\sameD 0 (l.dropLast++m) l':=by
 induction h with
 |note a s k hg=>intro h;cases h
 |fin a s hg=>
  intro _ hm
  obtain⟨m',h1,h2⟩:=lexR_ahead (a:=a) (GP.end_ hg) (by rw[List.length_append];exact hm) rfl
  refine⟨m',by simpa using h1,by simpa using h2⟩
 |bad a s k e hg hk ht he=>exact fun h=>absurd h he
 |tok a s k d n l hg hk ht hl ih=>
  intro _ hm
  obtain⟨hn,hn2,h0,h5⟩:=ky ht
  rw[List.length_drop]at hn2
  obtain⟨l',h1,h2⟩:=ih rfl (by rw[List.length_drop,show a+k+n+(s.length - (k+n))+1=a+s.length+1 by omega];exact hm)
  have e1:(s++10::r).drop k=s.drop k++10::r:=List.drop_append_of_le_length (by omega)
  have ht2:tokL ((s++10::r).drop k)=(d,n,0):=by
   rw[e1]
   by_cases hlt:n<(s.drop k).length
   ·exact tokL_append ht hlt _
   ·have:=tokL_space ht 10 (by decide) r
    rw[List.take_of_length_le (by omega)]at this
    exact this
  have h3:=LexR.tok a (s++10::r) k d n l' (gapR_nl hg r rfl hk) (by rw[List.length_append];omega) ht2 (by
   rw[List.drop_append_of_le_length (by omega)]
   exact h1)
  have hne:=(lexR_back hl rfl).2.1
  refine⟨_,h3,?_⟩
  rw[List.dropLast_cons_of_ne_nil hne,List.cons_append]
  refine⟨rfl,?_,by simp only;omega,h2⟩
  simp only
  rw[e1,List.take_append_of_le_length (by rw[List.length_drop];omega)]
 |later a s k d n p e hg hk ht hr he ih=>exact fun h=>absurd h he
theorem getD_left {l m:List ApiToken} {i:Nat} (h:i<l.length):(l++m).getD i cq=l.getD i cq:=by
 simp[List.getD,List.getElem?_append_left h]
theorem getD_right {l m:List ApiToken} {i:Nat}:(l++m).getD (l.length+i) cq=m.getD i cq:=by
 simp[List.getD,List.getElem?_append_right (Nat.le_add_right l.length i)]
theorem getD_last {l:List ApiToken} {i:Nat} (h:i+1<l.length):l.dropLast.getD i cq=l.getD i cq:=by
 rw[List.dropLast_eq_take]
 simp[List.getD,List.getElem?_take,show i<l.length - 1 by omega,show i<l.length by omega]
mutual
def shN (d:Int):ApiNode->ApiNode
 |⟨k,t,y,n,f,to,a,ta,kids⟩=>⟨k,t,y,n,f+d,to+d,if 0<=a then a+d else a,if 0<=ta then ta+d else ta,shL d kids⟩
def shL (d:Int):List ApiNode->List ApiNode
 | []=>[]
 |n::l=>shN d n::shL d l
end
theorem shL_map (d:Int):∀l:List ApiNode,shL d l=l.map (shN d)
 | []=>rfl
 |n::l=>by simp[shL,shL_map d l]
mutual
theorem shN_zero :∀n:ApiNode,shN 0 n=n
 |⟨k,t,y,n,f,to,a,ta,kids⟩=>by simp[shN,shL_zero kids]
theorem shL_zero :∀l:List ApiNode,shL 0 l=l
 | []=>rfl
 |n::l=>by simp[shL,shN_zero n,shL_zero l]
end
mutual
theorem shN_size (d:Int):∀n:ApiNode,ie (shN d n)=ie n
 |⟨k,t,y,n,f,to,a,ta,kids⟩=>by simp[shN,ie,shL_size d kids]
theorem shL_size (d:Int):∀l:List ApiNode,cl (shL d l)=cl l
 | []=>rfl
 |n::l=>by simp[shL,cl,shN_size d n,shL_size d l]
end
theorem oR_sh {D:Dt} (V:Two D) {d:Int} (hA:∀i,i<D.N->aT D.T' (i+D.k)=aT D.T i+d) {a a':Int} (h:oR D a a'):a'=if 0<=a then a+d else a:=by
 have h1:=V.le
 rcases h with⟨rfl,rfl⟩|⟨i,hi,rfl,rfl⟩
 ·rfl
 ·have:=aT_nat V.t (i:=i) (by omega)
  rw[if_pos this.1,hA i hi]
mutual
theorem NR.sh {D:Dt} (V:Two D) {d:Int} (hA:∀i,i<D.N->aT D.T' (i+D.k)=aT D.T i+d) (hE:∀j,0<j->j<=D.N->eT D.T' (j+D.k)=eT D.T j+d):∀{n m:ApiNode},NR D n m->m=shN d n
 |⟨k,t,y,nn,a,b,c,e,kids⟩,⟨k',t',y',nn',a',b',c',e',kids'⟩,h=>by
  simp only[NR]at h
  obtain⟨⟨rfl,rfl,rfl,rfl,⟨i,hi,rfl,rfl⟩,⟨j,hj,hj2,rfl,rfl⟩,h3,h4⟩,hl⟩:=h
  rw[oR_sh V hA h3,oR_sh V hA h4,LR.sh V hA hE hl,hA i hi,hE j hj hj2]
  simp only[shN]
theorem LR.sh {D:Dt} (V:Two D) {d:Int} (hA:∀i,i<D.N->aT D.T' (i+D.k)=aT D.T i+d) (hE:∀j,0<j->j<=D.N->eT D.T' (j+D.k)=eT D.T j+d):∀{l m:List ApiNode},LR D l m->m=shL d l
 | [],m,h=>by simp only[LR]at h;rw[h];rfl
 |n::l,m,h=>by
  simp only[LR]at h
  obtain⟨a,b,rfl,h1,h2⟩:=h
  simp only[shL]
  rw[NR.sh V hA hE h1,LR.sh V hA hE h2]
end
theorem eT_sh {T T':List ApiToken} {j k:Nat} {d:Int} (h0:0<j) (hA:(T'.getD (j - 1+k) cq).At=(T.getD (j - 1) cq).At+d) (ht:(T'.getD (j - 1+k) cq).Text=(T.getD (j - 1) cq).Text):eT T' (j+k)=eT T j+d:=by
 unfold eT
 rw[show j+k - 1=j - 1+k by omega,hA,ht]
 omega
end Go.Proofs.YtackaijkmkollaaGreatDoor
