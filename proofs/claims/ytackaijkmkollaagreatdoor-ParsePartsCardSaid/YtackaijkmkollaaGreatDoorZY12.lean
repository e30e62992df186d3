/- A member within a class: ParseParts. -/
import Derived.Test.YtackaijkmkollaaGreatDoorZY11
set_option linter.unusedSimpArgs false
set_option linter.unusedVariables false
set_option linter.unusedSectionVars false
set_option linter.unusedSectionVars false
set_option linter.unusedVariables false
set_option linter.unusedSimpArgs false
set_option maxHeartbeats 4000000
namespace Go.Proofs.YtackaijkmkollaaGreatDoor
open Go Go.Cn
theorem Member_one {x:List UInt8} (hx:x.length<=50000):∃n m,j6 x=some (n,m)/\(m.Code=0->∃T,LexR 0 x T 0 0/\bq ⟨T,0⟩=some (.ok (n,⟨T,((T.length - 1:Nat):Int)⟩))/\NG x T n 0 (T.length - 1)/\i8 n<=200):=by
 rw[parse_Member_eq]
 unfold oneF runF
 rw[if_pos (by omega)]
 by_cases he:(lexM x).2.2=0
 ·obtain⟨T,hr,hI⟩:=lexI_ok he
  have hT:=tokP_of hx hr
  have hp:=hT.pos
  have hlen:=hT.len
  rw[hI]
  unfold runI
  rw[if_neg (by simp)]
  simp only
  unfold parse_one_1
  rw[if_pos (by simp)]
  obtain⟨r,hr2,hw⟩:=member_ok (Two.one hT) (i:=0) hp
  have hr2:bq ⟨T,0⟩=some r:=hr2
  rw[hr2]
  cases r with
  |bad m=>
   have h1:=hw.1.2.2.2
   have h2:m.m.Code≠0:=by omega
   simp only[bm,Option.bind_some]
   rw[if_pos (by simpa using h2)]
   exact⟨_,_,rfl,fun h=>absurd h h2⟩
  |ok a=>
   obtain⟨n,p⟩:=a
   obtain⟨j,e,hj,_,hn,_⟩:=hw
   have e:p=⟨T,(j:Int)⟩:=e
   have hj:j<T.length:=hj
   have hn:NG x T n 0 j:=hn
   subst e
   have hs:ie n<=j - 0:=hn.sz
   simp only[bm,Option.bind_some]
   rw[now_eq hT hj,Option.bind_some]
   by_cases hk:T[j].Kind=5
   ·rw[if_neg (by simp[hk])]
    have hj1:=(hT.last j hj).1 hk
    obtain rfl:j=T.length - 1:=by omega
    by_cases hd:i8 n<=200
    ·rw[deep_ok hp (by simp only[cl];omega) (by simp only[eb];omega)]
     refine⟨n,⟨0,0,0⟩,by simp[idx],fun _=>⟨T,hr,hr2,hn,hd⟩⟩
    ·obtain⟨a,k1,_⟩:=deep_bad (l:=[n]) (p:=⟨T,((T.length - 1:Nat):Int)⟩) hp (by simp only[cl];omega) (by simp only[eb];omega)
     rw[k1]
     simp only[Option.bind_some]
     rw[if_pos (by simp)]
     exact⟨_,_,rfl,fun h=>absurd h (show ¬(2:Int)=0 by decide)⟩
   ·rw[if_pos (by simpa using hk),fail_eq hT hj]
    simp only[bm,Option.bind_some]
    rw[if_pos (by simp)]
    exact⟨_,_,rfl,fun h=>absurd h (show ¬(120:Int)=0 by decide)⟩
 ·unfold runI lexI
  simp only
  rw[if_pos (by simpa using he)]
  simp only[Option.bind_some]
  rw[if_pos (by simpa using he)]
  exact⟨_,_,rfl,fun h=>absurd h (by simpa using he)⟩
theorem stop_gap {c:UInt8} {l:List UInt8} (h:j3 c.toNat=false) (h2:c≠47):GapR (c::l) 0 true:=by
 refine .stop c l h ?_ ?_<;>
 ·rw[pre2_false]
  intro q hq
  injection hq with e1 _
  exact h2 e1
theorem tokL_brace (l:List UInt8):tokL (123::l)=(4,1,0):=by
 rw[tokL_cons,if_neg (by decide),if_neg (by decide)]
 have:markL (123::l)=1:=by
  rw[jo,if_neg (by simp[twos,List.isPrefixOf]),if_pos (by decide)]
 rw[this]
 rfl
theorem tokL_name {c:UInt8} {l:List UInt8} (h:nameL (c::l)=true) (r:List UInt8):tokL (c::(l++123::r))=(1,l.length+1,0)/\gz c.toNat=true/\l.length+1<=20:=by
 unfold nameL at h
 simp only[Bool.and_eq_true,decide_eq_true_eq,Bool.not_eq_true',beq_iff_eq]at h
 obtain⟨⟨⟨h1,h2⟩,h3⟩,h4⟩:=h
 have hd:dz c.toNat=false:=by
  have key:∀n:Fin 256,gz n.1=true->dz n.1=false:=by decide+kernel
  exact key ⟨c.toNat,c.toNat_lt⟩ h2
 have hr:∀q:List UInt8,runL fg (q++123::r)=runL fg q:=by
  intro q
  induction q with
  |nil=>simp[runL,fg,gz,dz]
  |cons e q ih=>simp only[List.cons_append,runL,ih]
 have h5:=hr (c::l)
 rw[List.cons_append]at h5
 have ht:(c::(l++123::r)).take (l.length+1)=c::l:=by simp
 rw[tokL_cons,hd,h2,h5,h3,ht,h4]
 simp only[Bool.false_eq_true,if_false,if_true]
 rw[if_neg (by omega)]
 exact⟨rfl,trivial,h1⟩
theorem letter_stop {c:UInt8} (h:gz c.toNat=true):j3 c.toNat=false/\c≠47:=by
 have key:∀n:Fin 256,gz n.1=true->j3 n.1=false/\n.1≠47:=by decide+kernel
 have:=key ⟨c.toNat,c.toNat_lt⟩ h
 exact⟨this.1,fun e=>this.2 (by rw[e];rfl)⟩
def headL (name:List UInt8):List UInt8:=[99,108,97,115,115,32]++name++[123]
theorem class_tokens {name a:List UInt8} (hn:nameL name=true) {Ta:List ApiToken} (ha:LexR 0 a Ta 0 0):∃T,LexR 0 (headL name++a++[10,125]) T 0 0/\T.length=Ta.length - 1+5/\((T.getD 0 cq).Kind=3/\(T.getD 0 cq).Text=[99,108,97,115,115])/\(T.getD 1 cq).Kind=1/\((T.getD 2 cq).Kind=4/\(T.getD 2 cq).Text=[123])/\(∀i,i+1<Ta.length->(T.getD (i+3) cq).Kind=(Ta.getD i cq).Kind/\(T.getD (i+3) cq).Text=(Ta.getD i cq).Text/\(T.getD (i+3) cq).At=(Ta.getD i cq).At+((headL name).length:Int))/\((T.getD (Ta.length - 1+3) cq).Kind=4/\(T.getD (Ta.length - 1+3) cq).Text=[125]):=by
 cases name with
 |nil=>cases hn
 |cons c l=>
  obtain⟨t1,hc,_⟩:=tokL_name hn (a++10::[125])
  obtain⟨s1,s2⟩:=letter_stop hc
  obtain⟨m,h1,h2⟩:=lexR_move ha rfl (6+(l.length+1)+1)
  have hend:∀b:Nat,LexR b [125] [⟨4,[125],(b:Int),[]⟩,⟨5,[],((b+1:Nat):Int),[]⟩] 0 0:=fun b=>by
   have:=LexR.tok b [125] 0 4 1 [⟨5,[],((b+1:Nat):Int),[]⟩] (stop_gap (by decide) (by decide)) (by simp) (by decide) (by
    have:=LexR.fin (b+0+1) [] .nil
    simpa using this)
   simpa using this
  obtain⟨T3,h3,h4⟩:=lexR_join h1 [125] _ rfl (hend _)
  have h5:=LexR.tok (6+(l.length+1)) (123::(a++10::[125])) 0 4 1 T3 (stop_gap (by decide) (by decide)) (by simp) (tokL_brace _) h3
  have h6:=LexR.tok 5 (32::(c::(l++123::(a++10::[125])))) 1 1 (l.length+1) _ (.space 32 _ 0 true (by decide) (stop_gap s1 s2)) (by simp) t1 (by
   have e:(32::(c::(l++123::(a++10::[125])))).drop (1+(l.length+1))=123::(a++10::[125]):=by
    rw[Nat.add_comm,List.drop_succ_cons,List.drop_succ_cons]
    simp
   rw[e]
   exact h5)
  have t0:tokL ([99,108,97,115,115]++32::(c::(l++123::(a++10::[125]))))=(3,5,0):=tokL_space (s:=[99,108,97,115,115]) (k:=3) (n:=5) (by decide) 32 (by decide) _
  have h7:=LexR.tok 0 ([99,108,97,115,115]++32::(c::(l++123::(a++10::[125])))) 0 3 5 _ (stop_gap (by decide) (by decide)) (by simp) t0 h6
  have e0:headL (c::l)++a++[10,125]=[99,108,97,115,115]++32::(c::(l++123::(a++10::[125]))):=by simp[headL]
  have l1:=sameD_len h2
  have l2:=sameD_len h4
  have l0:m.dropLast.length=Ta.length - 1:=by rw[List.length_dropLast,l1]
  rw[List.length_append,l0]at l2
  have hTa:=(lexR_back ha rfl).2.1
  have hTa:0<Ta.length:=List.length_pos_iff.2 hTa
  rw[e0]
  refine⟨_,h7,by simp only[List.length_cons];rw[l2];simp,⟨rfl,by simp⟩,rfl,⟨rfl,rfl⟩,fun i hi=> ?_,?_,?_⟩
  ·have h8:=sameD_at (i:=i) h4 (by rw[List.length_append,l0];omega)
   rw[getD_left (by omega),getD_last (by omega)]at h8
   have h9:=sameD_at (i:=i) h2 (by omega)
   simp only[List.getD_cons_succ]
   rw[h8.1,h8.2.1,h8.2.2,h9.1,h9.2.1,h9.2.2]
   refine⟨rfl,rfl,?_⟩
   simp only[headL,List.length_append,List.length_cons,List.length_nil]
   omega
  ·have h8:=sameD_at (i:=m.dropLast.length+0) h4 (by rw[List.length_append];simp)
   rw[getD_right,l0]at h8
   simp only[List.getD_cons_succ]
   exact h8.1
  ·have h8:=sameD_at (i:=m.dropLast.length+0) h4 (by rw[List.length_append];simp)
   rw[getD_right,l0]at h8
   simp only[List.getD_cons_succ]
   exact h8.2.1
theorem class_run {x:List UInt8} {T:List ApiToken} (hT:TokP x T) {q:Nat} {n:ApiNode} (hlen:T.length=q+5) (k0:(T.getD 0 cq).Kind=3/\(T.getD 0 cq).Text=[99,108,97,115,115]) (k1:(T.getD 1 cq).Kind=1) (k2:(T.getD 2 cq).Kind=4/\(T.getD 2 cq).Text=[123]) (k3:isB (T.getD 3 cq) [125]=false) (k4:(T.getD (q+3) cq).Kind=4/\(T.getD (q+3) cq).Text=[125]) (hm:bq ⟨T,3⟩=some (.ok (n,⟨T,((q+3:Nat):Int)⟩))):
  ∃C:ApiNode,iter (fun s=>au s.1 s.2) (⟨T,0⟩,[])=some (.next (⟨T,((T.length - 1:Nat):Int)⟩,[C]))/\C.Kids=[n]:=by
 have g:∀i (h:i<T.length),T[i]=T.getD i cq:=fun i h=>by simp[List.getD,h]
 have c1:ay [99,108,97,115,115] ⟨T,0⟩=some (.ok ⟨T,1⟩):=by
  have:=need_eq hT (i:=0) (by omega) [99,108,97,115,115]
  rw[g,if_pos (by unfold isB;rw[k0.1,k0.2];decide)]at this
  exact this
 have c2:ca ⟨T,1⟩=some (.ok (T.getD 1 cq,⟨T,2⟩)):=by
  have:=name_eq hT (i:=1) (by omega)
  rw[g,if_pos (by rw[k1];decide)]at this
  exact this
 have c3:a4 [101,120,116,101,110,100,115] ⟨T,2⟩=some (false,⟨T,2⟩):=by
  have:=met_eq hT (i:=2) (by omega) [101,120,116,101,110,100,115]
  rw[g,if_neg (by unfold isB;rw[k2.1,k2.2];decide)]at this
  exact this
 have c4:ay [123] ⟨T,2⟩=some (.ok ⟨T,3⟩):=by
  have:=need_eq hT (i:=2) (by omega) [123]
  rw[g,if_pos (by unfold isB;rw[k2.1,k2.2];decide)]at this
  exact this
 have c5:a4 [125] ⟨T,3⟩=some (false,⟨T,3⟩):=by
  have:=met_eq hT (i:=3) (by omega) [125]
  rw[g,if_neg (by rw[k3];decide)]at this
  exact this
 have c6:a4 [125] ⟨T,((q+3:Nat):Int)⟩=some (true,⟨T,((q+4:Nat):Int)⟩):=by
  have:=met_eq hT (i:=q+3) (by omega) [125]
  rw[g,if_pos (by unfold isB;rw[k4.1,k4.2];decide)]at this
  exact this
 have e1:(fun s:ParseParser × List ApiNode=>bx s.1 s.2) (⟨T,3⟩,[])=some (.inl (⟨T,((q+3:Nat):Int)⟩,[n])):=by
  show bx ⟨T,3⟩ []=_
  unfold bx
  rw[c5,Option.bind_some]
  simp only[Bool.not_false,if_true]
  rw[hm]
  simp only[bm]
  rw[app_small (by simp)]
  rfl
 have e2:(fun s:ParseParser × List ApiNode=>bx s.1 s.2) (⟨T,((q+3:Nat):Int)⟩,[n])=some (.inr (.next (⟨T,((q+4:Nat):Int)⟩,[n]))):=by
  show bx ⟨T,((q+3:Nat):Int)⟩ [n]=_
  unfold bx
  rw[c6,Option.bind_some]
  rfl
 have e3:ee ⟨T,0⟩=some (.ok (⟨1,(T.getD 1 cq).Text,[],0,aT T 0,eT T (q+4),(T.getD 1 cq).At, -1,[n]⟩,⟨T,((q+4:Nat):Int)⟩)):=by
  unfold ee
  rw[c1]
  simp only[bm]
  rw[c2]
  simp only[bm]
  rw[c3,Option.bind_some]
  simp only[Bool.false_eq_true,if_false]
  unfold dc
  rw[c4]
  simp only[bm]
  rw[@iter_next noG _ _ _ _ _ e1, @iter_done noG _ _ _ _ _ e2,Option.bind_some]
  simp only
  unfold fy f0 ev dn ei
  have:=made_eq hT (i:=0) (j:=q+4) (by omega) (by omega) (by omega) 1 [n]
  rw[show(({t:=T,at_:=0}:ParseParser).at_)=((0:Nat):Int)from rfl,this]
  rfl
 refine⟨⟨1,(T.getD 1 cq).Text,[],0,aT T 0,eT T (q+4),(T.getD 1 cq).At, -1,[n]⟩,?_,rfl⟩
 have e4:(fun s:ParseParser × List ApiNode=>au s.1 s.2) (⟨T,0⟩,[])=some (.inl (⟨T,((q+4:Nat):Int)⟩,[⟨1,(T.getD 1 cq).Text,[],0,aT T 0,eT T (q+4),(T.getD 1 cq).At, -1,[n]⟩])):=by
  show au ⟨T,0⟩ []=_
  unfold au
  have:=now_eq hT (i:=0) (by omega)
  rw[show(⟨T,0⟩:ParseParser)=⟨T,((0:Nat):Int)⟩from rfl,this,Option.bind_some,g,if_pos (by rw[k0.1];decide),show(⟨T,((0:Nat):Int)⟩:ParseParser)=⟨T,0⟩from rfl,e3]
  simp only[bm]
  rw[app_small (by simp)]
  rfl
 have e5:(fun s:ParseParser × List ApiNode=>au s.1 s.2) (⟨T,((q+4:Nat):Int)⟩,[⟨1,(T.getD 1 cq).Text,[],0,aT T 0,eT T (q+4),(T.getD 1 cq).At, -1,[n]⟩])=some (.inr (.next (⟨T,((q+4:Nat):Int)⟩,[⟨1,(T.getD 1 cq).Text,[],0,aT T 0,eT T (q+4),(T.getD 1 cq).At, -1,[n]⟩]))):=by
  show au ⟨T,((q+4:Nat):Int)⟩ _=_
  unfold au
  have hk:=(hT.last (q+4) (by omega)).2 (by omega)
  rw[now_eq hT (by omega),Option.bind_some,if_neg (by rw[hk];decide)]
 rw[@iter_next noG _ _ _ _ _ e4, @iter_done noG _ _ _ _ _ e5,show T.length - 1=q+4 by omega]
end Go.Proofs.YtackaijkmkollaaGreatDoor
