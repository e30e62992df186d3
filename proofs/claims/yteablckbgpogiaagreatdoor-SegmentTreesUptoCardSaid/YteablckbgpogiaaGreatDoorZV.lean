/- SegmentTrees: the law. -/
import Derived.Test.YteablckbgpogiaaGreatDoorZZ
set_option linter.unusedSimpArgs false
set_option linter.unusedVariables false
set_option linter.unusedSectionVars false
set_option linter.unusedSectionVars false
set_option linter.unusedVariables false
set_option linter.unusedSimpArgs false
set_option maxHeartbeats 4000000
namespace Go.Proofs.YteablckbgpogiaaGreatDoor
open Go Go.Cn
def QM (D:Dt) (i:Nat) (n:ApiNode) (j:Nat):Prop:=NG D.x D.T n i j/\∃q,q<D.T.length/\n.Text=(D.tk q).Text
def QS (D:Dt) (i:Nat) (n:ApiNode) (j:Nat):Prop:=NG D.x D.T n i j/\n.Kind=1/\n.From=aT D.T i/\n.To=eT D.T j/\n.Text=(D.tk (i+1)).Text/\∃b,i<b/\b+1<=j/\(D.tk b).Text=[123]/\(∀m,i<=m->m<b->(D.tk m).Kind=1\/(D.tk m).Text=[99,108,97,115,115]\/(D.tk m).Text=[101,120,116,101,110,100,115])/\LG D.x D.T n.Kids (b+1) j/\∀n'∈n.Kids,∃q,q<D.T.length/\n'.Text=(D.tk q).Text
section
variable {D:Dt} (V:Two D)
include V
theorem member_endS {i q i0:Nat} {st:Bool} {kd:Int} {kids:List ApiNode} {z':ApiNode} {ty' nm':ApiToken} (hq:q<D.T.length) (h0:i<=i0) (hiq:i0+2<q+0) (hl:LG D.x D.T kids (i0+2) q) (hs:ee kids+1<=q - i) (hz:q<D.N+1->∃kids',z'=⟨kd,[],[],0,aT D.T' (i+D.k),eT D.T' (q+D.k), -1, -1,kids'⟩/\LR D kids kids') (hty:TR D i0 ty') (hnm:TR D (i0+1) nm'):SW (Fin' D 1 (QM D i) (NR D)) q (c0 st (D.tk (i0+1)) (D.tk i0) (D.p q) ⟨kd,[],[],0,aT D.T i,eT D.T q, -1, -1,kids⟩) (c0 st nm' ty' (D.p' q) z'):=by
 unfold c0 f3 gz di dj f1 fh
 refine ji (fun _=> ?_) (fun _=> ?_)
 all_goals
  refine sw_ok hq (Nat.le_refl _) ⟨lr V.t hl (by omega) (Nat.le_refl _) (by omega) (Nat.le_of_lt hq) hs (At2.yes (by omega) (by omega) (by omega)) (At2.yes (by omega) (by omega) (by omega)),i0+1,by omega,rfl⟩ (fun h=> ?_)
  obtain⟨kids',rfl,hk⟩:=hz h
  dsimp only
  rw[(hnm (by omega)).2.1,(hty (by omega)).2.1]
  exact ku (by omega) (by omega) hk (hnm.o (by omega)) (hty.o (by omega))
theorem member_j4_okS {i i0:Nat} {st:Bool} (h0:i<=i0) (hi:i0<D.T.length) (hty:isTy (D.tk i0)=true):SW (Fin' D 1 (QM D i) (NR D)) (i0+1) (bl (D.p i) st (D.p i0)) (bl (D.p' i) st (D.p' i0)):=by
 have P0:=pFin V (s:=1) (QM D i) (NR D)
 have hlen:=V.t.len
 have hi1:i0+1<D.T.length:=isTy_lt V.t hi (by rw[tk_eq V hi];exact hty)
 unfold bl
 refine sw_step V P0 hi (Nat.le_refl _) (fun ty' hty'=> ?_)
 refine sw_up V P0 (b':=i0+1+1) ?_
 refine sw_name V P0 hi1 (Nat.le_refl _) (fun _ hi2 nm' hnm=> ?_)
 refine sw_up V P0 (b':=i0+1+1+1) ?_
 refine oy V P0 hi2 (Nat.le_refl _) (fun _ hi3=>ji (fun _=> ?_) (fun h=>by cases h)) (fun _=>ji (fun h=>by cases h) (fun _=> ?_))
 ·refine ic V P0 (fun k=>k+1) (params_ok V hi3) (fun k hk=>⟨by omega,by omega,Nat.zero_le _⟩) (fun k l l' hk hbk hl hlr=> ?_)
  refine ic V P0 (fun k=>k) (block_ok V (d:=1) (by omega) hk) (fun k hk=>⟨by omega,by omega,by omega⟩) (fun q n n' hq hbq hn hnr=> ?_)
  have h1:=hn.lt
  have h3:qd n<=q - k:=hn.sz
  have h4:=hl.sz
  have h5:=fu l
  have hl2:=LG.snoc V.t hl hn (Nat.le_refl _) (Nat.le_of_lt hq)
  have h6:=hl2.sz
  refine sw_app V P0 (q - 1) (by omega) (by omega) (by simp;omega) (fun h=>⟨(hlr (by omega)).len,rfl⟩) ?_
  refine jq V P0 (i:=i) (by omega) (Nat.le_of_lt hq) (by omega) (fun z hz=> ?_)
  exact member_endS V hq h0 (by omega) (LG.widen V.t hl2 (by omega) (Nat.le_refl _) (Nat.le_of_lt hq)) (by omega) (fun h=>⟨_,hz (by omega),LR.append (hlr (by omega)) (LR.one (hnr h))⟩) hty' hnm
 ·refine sw_eq V P0 i0 _ hi (by omega) (marks_eq _ _) (fun h=>by rw[marks_eq,isB_ag V hty' _ h]) ?_
  refine ji (fun _=>sw_fail V P0 (.inl rfl) hi2) (fun _=> ?_)
  refine ks V P0 hi2 (by omega) (fun _ hi3=> ?_)
  refine jq V P0 (i:=i) (by omega) (Nat.le_of_lt hi3) (by omega) (fun z hz=> ?_)
  exact member_endS V hi3 h0 (by omega) (LG.widen V.t (LG.nil D.x D.T (i0+2)) (Nat.le_refl _) (by omega) (Nat.le_of_lt hi3)) (by simp only[ee];omega) (fun h=>⟨_,hz (by omega),LR.nil⟩) hty' hnm
theorem member_okS {i:Nat} (hi:i<D.T.length):SW (Fin' D 1 (QM D i) (NR D)) (i+1) (ef (D.p i)) (ef (D.p' i)):=by
 have P0:=pFin V (s:=1) (QM D i) (NR D)
 have hgo:∀{i0:Nat} {st:Bool},i<=i0->i0<D.T.length->SW (Fin' D 1 (QM D i) (NR D)) (i0+1) ((bi (D.p i0)).bind fun x6=>(jf x6).bind fun x7=>(if(!x7)=true then(cp (cj 120 (D.p i0)) (fun m10=>some (.bad m10)) fun x9=>bl (D.p i) st x9)else bl (D.p i) st (D.p i0))) ((bi (D.p' i0)).bind fun x6=>(jf x6).bind fun x7=>(if(!x7)=true then(cp (cj 120 (D.p' i0)) (fun m10=>some (.bad m10)) fun x9=>bl (D.p' i) st x9)else bl (D.p' i) st (D.p' i0))):=fun {i0 st} h0 hi0=>by
  refine sw_now V P0 hi0 (Nat.le_refl _) (fun t' ht=> ?_)
  refine sw_eq V P0 i0 _ hi0 (Nat.le_refl _) (isType_eq _) (fun h=>by rw[isType_eq,isTy_ag V ht h]) ?_
  refine ji (fun _=>sw_fail V P0 (.inl rfl) hi0) (fun hc=> ?_)
  exact member_j4_okS V h0 hi0 (by simpa using hc)
 unfold ef
 refine oy V P0 hi (Nat.le_refl _) (fun _ hi1=> ?_) (fun _=> ?_)
 ·refine sw_up V P0 (b':=i+1+1) ?_
  exact hgo (by omega) hi1
 ·exact hgo (Nat.le_refl _) hi
theorem class_okS {i:Nat} (hi:i<D.T.length):SW (Fin' D 1 (QS D i) (NR D)) (i+1) (ed (D.p i)) (ed (D.p' i)):=by
 have P0:=pFin V (s:=1) (QS D i) (NR D)
 have hlen:=V.t.len
 have hj5:∀{i0:Nat} {ab:Bool} {nm' su su':ApiToken},i+1<i0->i0<D.T.length->TR D (i+1) nm'->(ab=true->i+3<i0/\su=D.tk (i+3)/\TR D (i+3) su')->(∀m,i<=m->m<i0->(D.tk m).Kind=1\/(D.tk m).Text=[99,108,97,115,115]\/(D.tk m).Text=[101,120,116,101,110,100,115])->SW (Fin' D 1 (QS D i) (NR D)) (i0+1) (dh (D.p i) (D.tk (i+1)) ab (D.p i0) su) (dh (D.p' i) nm' ab (D.p' i0) su'):=fun {i0 ab nm' su su'} h0 hi0 hnm hsu hpre=>by
  unfold dh
  refine ks V P0 hi0 (Nat.le_refl _) (fun hB hi1=> ?_)
  refine sw_flow V (s:=1) (I:=fun l j=>LG D.x D.T l (i0+1) j/\∀n∈l,∃q,q<D.T.length/\n.Text=(D.tk q).Text) (J:=LR D) (by omega) ?_ (by omega) (fun j l l' hj hbj hlp hr=> ?_) (fun _=>rfl) (fun _=>rfl)
  ·have P1:=pFinF V (s:=1) (fun l j=>LG D.x D.T l (i0+1) j/\∀n∈l,∃q,q<D.T.length/\n.Text=(D.tk q).Text) (LR D) (QS D i) (NR D)
   refine sw_iter V P1 (I:=fun l j=>LG D.x D.T l (i0+1) j/\∀n∈l,∃q,q<D.T.length/\n.Text=(D.tk q).Text) (J:=LR D) hi1 ⟨LG.nil D.x D.T (i0+1),fun n h=>by simp at h⟩ (fun _=>LR.nil) (by omega) (fun j l l' hij hj hlp hr=> ?_)
   obtain⟨hl,hlt⟩:=hlp
   have P:=pFinS V (s:=1) (fun l j=>LG D.x D.T l (i0+1) j/\∀n∈l,∃q,q<D.T.length/\n.Text=(D.tk q).Text) (LR D) P1 j
   unfold gi
   refine oy V P hj (Nat.le_refl _) (fun _ hj1=>ji (fun h=>by cases h) (fun _=> ?_)) (fun _=>ji (fun _=> ?_) (fun h=>by cases h))
   ·exact sw_next hj1 (Nat.le_refl _) ⟨LG.widen V.t hl (Nat.le_refl _) (by omega) (Nat.le_of_lt hj1),hlt⟩ (fun h=>hr (by omega))
   ·refine ic V P (fun k=>k) (member_okS V hj) (fun k hk=>⟨by omega,by omega,by omega⟩) (fun k n n' hk hjk hnq hnr=> ?_)
    obtain⟨hn,hnt⟩:=hnq
    have hl2:=LG.snoc V.t hl hn (Nat.le_refl _) (Nat.le_of_lt hk)
    have h3:=hl2.sz
    have h4:=fu (l++[n])
    refine sw_app V P (k - 1) (by omega) (by omega) (by simp at h4 ⊢;omega) (fun h=>⟨(hr (by omega)).len,rfl⟩) ?_
    exact sw_inl hk (by omega) (by omega) ⟨hl2,fun y hy=>by
     rcases List.mem_append.1 hy with hy|hy
     ·exact hlt y hy
     ·rw[List.mem_singleton.1 hy];exact hnt⟩ (fun h=>LR.append (hr (by omega)) (LR.one (hnr (by omega))))
  ·obtain⟨hl,hlt⟩:=hlp
   have h2:=hl.sz
   have hbr:(D.tk i0).Text=[123]:=by unfold isB at hB;simp at hB;simpa using hB.1
   have hfin:∀{q:Nat} {ta ta':Int} {ty:List UInt8},At2 D.T i j ta ty->NG D.x D.T ⟨1,(D.tk (i+1)).Text,ty,0,aT D.T i,eT D.T j,(D.tk (i+1)).At,ta,l⟩ i j:=fun ht=>
    lr V.t hl (by omega) (Nat.le_refl _) (by omega) (Nat.le_of_lt hj) (by omega) (At2.yes (by omega) (by omega) (by omega)) ht
   unfold iw iy gk di dj f1 fh
   refine jq V P0 (i:=i) (by omega) (Nat.le_of_lt hj) (by omega) (fun z hz=> ?_)
   refine ji (fun hab=> ?_) (fun hab=> ?_)
   ·obtain⟨s1,rfl,s2⟩:=hsu hab
    refine sw_ok hj (Nat.le_refl _) ⟨hfin (q:=0) (ta':=0) (At2.yes (by omega) (by omega) (by omega)),rfl,rfl,rfl,rfl,i0,by omega,by omega,hbr,hpre,hl,hlt⟩ (fun h=> ?_)
    rw[hz (by omega)]
    dsimp only
    rw[(hnm (by omega)).2.1,(s2 (by omega)).2.1]
    exact ku (by omega) (by omega) (hr h) (hnm.o (by omega)) (s2.o (by omega))
   ·refine sw_ok hj (Nat.le_refl _) ⟨hfin (q:=0) (ta':=0) .no,rfl,rfl,rfl,rfl,i0,by omega,by omega,hbr,hpre,hl,hlt⟩ (fun h=> ?_)
    rw[hz (by omega)]
    dsimp only
    rw[(hnm (by omega)).2.1]
    exact ku (by omega) (by omega) (hr h) (hnm.o (by omega)) oR_no
 unfold ed
 refine ks V P0 hi (Nat.le_refl _) (fun hB0 hi1=> ?_)
 have ht0:(D.tk i).Text=[99,108,97,115,115]:=by unfold isB at hB0;simp at hB0;simpa using hB0.1
 refine sw_up V P0 (b':=i+1+1) ?_
 refine sw_name V P0 hi1 (Nat.le_refl _) (fun hk1 hi2 nm' hnm=> ?_)
 refine sw_up V P0 (b':=i+1+1+1) ?_
 refine oy V P0 hi2 (Nat.le_refl _) (fun hB2 hi3=>ji (fun _=> ?_) (fun h=>by cases h)) (fun _=>ji (fun h=>by cases h) (fun _=> ?_))
 ·refine sw_up V P0 (b':=i+1+1+1+1) ?_
  refine sw_name V P0 hi3 (Nat.le_refl _) (fun hk3 hi4 su' hsu=> ?_)
  refine sw_up V P0 (b':=i+1+1+1+1+1) ?_
  have ht2:(D.tk (i+1+1)).Text=[101,120,116,101,110,100,115]:=by unfold isB at hB2;simp at hB2;simpa using hB2.1
  refine hj5 (by omega) hi4 hnm (fun _=>⟨by omega,rfl,hsu⟩) (fun m h1 h2=> ?_)
  rcases(by omega:m=i\/m=i+1\/m=i+1+1\/m=i+1+1+1)with rfl|rfl|rfl|rfl
  ·exact .inr (.inl ht0)
  ·exact .inl hk1
  ·exact .inr (.inr ht2)
  ·exact .inl hk3
 ·refine hj5 (by omega) hi2 hnm (fun h=>by cases h) (fun m h1 h2=> ?_)
  rcases(by omega:m=i\/m=i+1)with rfl|rfl
  ·exact .inr (.inl ht0)
  ·exact .inl hk1
end
end Go.Proofs.YteablckbgpogiaaGreatDoor
set_option linter.unusedSectionVars false
set_option linter.unusedVariables false
set_option linter.unusedSimpArgs false
set_option maxHeartbeats 4000000
namespace Go.Proofs.YteablckbgpogiaaGreatDoor
open Go Go.Cn
def CL (D:Dt):List ApiNode->Nat->Nat->Prop
 | [],i,j=>i=j
 |C::r,i,j=>∃k,i<k/\k<D.T.length/\QS D i C k/\CL D r k j
theorem CL.snoc {D:Dt} {C:ApiNode} {j k:Nat} (hjk:j<k) (hk:k<D.T.length) (hC:QS D j C k):∀{l:List ApiNode} {i:Nat},CL D l i j->CL D (l++[C]) i k
 | [],i,h=>by
  have h:i=j:=h
  subst h
  exact⟨k,hjk,hk,hC,rfl⟩
 |_::r,i,⟨m,h1,h2,h3,h4⟩=>⟨m,h1,h2,h3,CL.snoc hjk hk hC h4⟩
theorem file_okS {D:Dt} (V:Two D):SW (FinF D 0 (β:=List ApiNode) (fun l j=>(LG D.x D.T l 0 j/\CL D l 0 j)/\j+1=D.T.length) (LR D) (fun _ _=>False) (fun _ _=>False)) 0 (iter (fun s=>d6 s.1 s.2) (D.p 0,[])) (iter (fun s=>d6 s.1 s.2) (D.p' 0,[])):=by
 have hlen:=V.t.len
 have P1:=pFinF V (s:=0) (β:=List ApiNode) (fun l j=>(LG D.x D.T l 0 j/\CL D l 0 j)/\j+1=D.T.length) (LR D) (fun _ _=>False) (fun _ _=>False)
 refine sw_iter V P1 (I:=fun l j=>LG D.x D.T l 0 j/\CL D l 0 j) (J:=LR D) V.t.pos ⟨LG.nil D.x D.T 0,rfl⟩ (fun _=>LR.nil) (by omega) (fun j l l' _ hj hl hr=> ?_)
 have P:=pFinS V (s:=0) (fun l j=>LG D.x D.T l 0 j/\CL D l 0 j) (LR D) P1 j
 unfold d6
 refine sw_now V P hj (Nat.le_refl _) (fun t' ht=> ?_)
 refine sw_ite V P hj (Nat.le_refl _) (fun h=>by rw[(ht h).1]) (fun hk=> ?_) (fun hk=> ?_)
 ·refine ic V P (fun k=>k) (class_okS V hj) (fun k hk=>⟨by omega,by omega,by omega⟩) (fun k n n' hk hjk hn hnr=> ?_)
  have hl2:=LG.snoc V.t hl.1 hn.1 (Nat.le_refl _) (Nat.le_of_lt hk)
  have h3:=hl2.sz
  have h4:=fu (l++[n])
  refine sw_app V P k hk (Nat.le_refl _) (by simp at h4 ⊢;omega) (fun h=>⟨(hr (by omega)).len,rfl⟩) ?_
  exact sw_inl hk (by omega) (Nat.le_refl _) ⟨hl2,CL.snoc (by omega) hk hn hl.2⟩ (fun h=>LR.append (hr (by omega)) (LR.one (hnr (by omega))))
 ·have hk:(D.tk j).Kind=5:=by simpa using hk
  have hj1:j+1=D.T.length:=(V.t.last j hj).1 (by rw[tk_eq V hj];exact hk)
  exact sw_next hj (Nat.le_refl _) ⟨hl,hj1⟩ hr
theorem File_shape {x:List UInt8} {l:List ApiNode} {m:ApiMistake} (hx:x.length<=50000) (h:jj x=some (l,m)) (hc:m.Code=0):∃T,LexR 0 x T 0 0/\LG x T l 0 (T.length - 1)/\CL (Dt.one x T) l 0 (T.length - 1)/\m=⟨0,0,0⟩:=by
  rw[parse_File_eq]at h
  unfold runF at h
  rw[if_pos (by omega)]at h
  by_cases he:(lexM x).2.2=0
  · obtain⟨T,hr,hI⟩:=lexI_ok he
    have hT:=tokP_of hx hr
    rw[hI]at h
    unfold runI at h
    rw[if_neg (by simp)]at h
    have hf:=file_okS (Two.one hT)
    obtain⟨z,hz,hw⟩:=hf
    simp only at h
    unfold li mn at h
    have hz:iter (fun s=>d6 s.1 s.2) (⟨T,0⟩,[])=some z:=hz
    rw[hz]at h
    cases z with
    | done r =>
      cases r with
      |ok a=>obtain⟨j,_,_,_,h,_⟩:=hw;exact h.elim
      |bad m'=>
        obtain⟨h1,_⟩:=hw
        simp only[Option.bind_some,cp]at h
        injection h with h
        injection h with _ h
        subst h
        have:=h1.2.2.2
        omega
    |next st=>
      obtain⟨p,l2⟩:=st
      obtain⟨j,e,⟨h1,h2⟩,h3,_,_⟩:=hw
      have h2:j+1=T.length:=h2
      have h1:LG x T l2 0 j/\CL (Dt.one x T) l2 0 j:=h1
      have e:p=⟨T,(j:Int)⟩:=e
      subst e
      obtain rfl:j=T.length - 1:=by omega
      obtain⟨t,ht,htk⟩:=now_last hT
      have hs:ee l2<=_:=h1.1.sz
      have hlen:=hT.len
      have hp:=hT.pos
      simp only[cp,Option.bind_some,ht]at h
      rw[if_neg (by simp[htk])]at h
      by_cases hd:j9 l2<=200
      · rw[deep_ok hp (by omega) hd]at h
        simp only[Option.bind_some]at h
        injection h with h
        injection h with h hm
        subst h
        exact⟨T,hr,h1.1,h1.2,hm.symm⟩
      · obtain⟨a,k1,_⟩:=deep_bad (p:=⟨T,((T.length - 1:Nat):Int)⟩) hp (show ee l2<=1000000 by omega) (by omega)
        rw[k1]at h
        simp only[Option.bind_some]at h
        injection h with h
        injection h with _ h
        subst h
        exact absurd hc (show ¬(2:Int)=0 by decide)
  · unfold runI lexI at h
    simp only at h
    rw[if_pos (by simpa using he)]at h
    simp only[Option.bind_some]at h
    injection h with h
    injection h with _ h
    subst h
    exact absurd hc (by simpa using he)
def sameD (d:Int):List ApiToken->List ApiToken->Prop
 | [],[]=>True
 |t::l,u::m=>u.Kind=t.Kind/\u.Text=t.Text/\u.At=t.At+d/\sameD d l m
 |_,_=>False
theorem sameD_len {d:Int}:∀{l m:List ApiToken},sameD d l m->m.length=l.length
 | [],[],_=>rfl
 |t::l,u::m,h=>by simp[sameD_len h.2.2.2]
 | [],_::_,h=>h.elim
 |_::_,[],h=>h.elim
theorem sameD_at {d:Int}:∀{l m:List ApiToken} {i:Nat},sameD d l m->i<l.length->(m.getD i bo).Kind=(l.getD i bo).Kind/\(m.getD i bo).Text=(l.getD i bo).Text/\(m.getD i bo).At=(l.getD i bo).At+d
 |t::l,u::m,0,h,_=>⟨h.1,h.2.1,h.2.2.1⟩
 |t::l,u::m,i+1,h,hi=>by
  have:=sameD_at (i:=i) h.2.2.2 (by simpa using hi)
  simpa using this
 | [],_,_,_,h=>by simp at h
 |_::_,[],_,h,_=>h.elim
theorem sameD_refl :∀l:List ApiToken,sameD 0 l l
 | []=>trivial
 |t::l=>⟨rfl,rfl,by simp,sameD_refl l⟩
theorem sameD_trans {c d:Int}:∀{l m n:List ApiToken},sameD c l m->sameD d m n->sameD (c+d) l n
 | [],[],[],_,_=>trivial
 |t::l,u::m,v::n,h,k=>⟨by rw[k.1,h.1],by rw[k.2.1,h.2.1],by rw[k.2.2.1,h.2.2.1];omega,sameD_trans h.2.2.2 k.2.2.2⟩
 | [],_::_,_,h,_=>h.elim
 |_::_,[],_,h,_=>h.elim
 | [],[],_::_,_,k=>k.elim
 |_::_,_::_,[],_,k=>k.elim
theorem lexR_move {a:Nat} {s:List UInt8} {l:List ApiToken} {p e:Nat} (h:LexR a s l p e):e=0->∀b:Nat,∃m,LexR b s m 0 0/\sameD ((b:Int) - (a:Int)) l m:=by
 induction h with
 |note a s k hg=>intro h;cases h
 |fin a s hg=>exact fun _ b=>⟨_,.fin b s hg,rfl,rfl,by simp only;omega,trivial⟩
 |bad a s k e hg hk ht he=>exact fun h=>absurd h he
 |tok a s k d n l hg hk ht _ ih=>
  intro _ b
  obtain⟨m,h1,h2⟩:=ih rfl (b+k+n)
  refine⟨_,.tok b s k d n m hg hk ht h1,rfl,rfl,by simp only;omega,?_⟩
  rw[show((b+k+n:Nat):Int) - ((a+k+n:Nat):Int)=(b:Int) - (a:Int)by omega]at h2
  exact h2
 |later a s k d n p e hg hk ht _ he ih=>exact fun h=>absurd h he
theorem lexR_len {a:Nat} {s:List UInt8} {l:List ApiToken} {p e:Nat} (h:LexR a s l p e):e=0->∀i,i+1<l.length->0<(l.getD i bo).Text.length:=by
 induction h with
 |note a s k hg=>intro h;cases h
 |fin a s hg=>intro _ i hi;simp at hi
 |bad a s k e hg hk ht he=>exact fun h=>absurd h he
 |tok a s k d n l hg hk ht _ ih=>
  intro _ i hi
  obtain⟨hn,hn2,_,_⟩:=mz ht
  cases i with
  |zero=>
   simp only[List.getD_cons_zero,List.length_take]
   omega
  |succ i=>
   simp only[List.getD_cons_succ]
   exact ih rfl i (by simpa using hi)
 |later a s k d n p e hg hk ht _ he ih=>exact fun h=>absurd h he
theorem lexR_names {a:Nat} {s:List UInt8} {l:List ApiToken} {p e:Nat} (h:LexR a s l p e):e=0->∀t∈l,t.Kind=1->t.Text≠[123]:=by
 induction h with
 |note a s k hg=>intro h;cases h
 |fin a s hg=>
  intro _ t ht hk
  rw[List.mem_singleton.1 ht]at hk
  cases hk
 |bad a s k e hg hk ht he=>exact fun h=>absurd h he
 |tok a s k d n l hg hk ht _ ih=>
  intro _ t hm hk1
  rcases List.mem_cons.1 hm with rfl|hm
  ·simp only at hk1 ⊢
   obtain⟨hn,hn2,_,_⟩:=mz ht
   intro hte
   generalize s.drop k=u at ht hte
   cases u with
   |nil=>cases ht
   |cons c q=>
    obtain⟨n,rfl⟩:∃m,n=m+1:=⟨n - 1,by omega⟩
    rw[List.take_succ_cons]at hte
    injection hte with h1 _
    subst h1
    rw[tokL_cons,if_neg (by decide),if_neg (by decide)]at ht
    split at ht
    ·cases ht
    ·injection ht with ht _
     omega
  ·exact ih rfl t hm hk1
 |later a s k d n p e hg hk ht _ he ih=>exact fun h=>absurd h he
theorem lexR_from {a:Nat} {s:List UInt8} {l:List ApiToken} {p e:Nat} (h:LexR a s l p e):e=0->∀i,i+1<l.length->∃k:Nat,(l.getD i bo).At=((a+k:Nat):Int)/\k<=s.length/\∃m,LexR (a+k) (s.drop k) m 0 0/\sameD 0 (l.drop i) m:=by
 induction h with
 |note a s k hg=>intro h;cases h
 |fin a s hg=>intro _ i hi;simp at hi
 |bad a s k e hg hk ht he=>exact fun h=>absurd h he
 |tok a s k d n l hg hk ht hl ih=>
  intro _ i hi
  obtain⟨hn,hn2,_,_⟩:=mz ht
  rw[List.length_drop]at hn2
  cases i with
  |zero=>
   obtain⟨c,q,hd,hs,hp1,hp2⟩:=gapR_next hg hk
   have h1:GapR (s.drop k) 0 true:=by rw[hd];exact .stop c q hs hp1 hp2
   have h2:=LexR.tok (a+k) (s.drop k) 0 d n l h1 (by rw[List.length_drop];omega) ht (by
    rw[List.drop_drop,Nat.zero_add]
    exact hl)
   exact⟨k,rfl,by omega,_,h2,rfl,rfl,by simp only;omega,sameD_refl l⟩
  |succ i=>
   obtain⟨k2,h1,h2,m,h3,h4⟩:=ih rfl i (by simpa using hi)
   rw[List.length_drop]at h2
   refine⟨k+n+k2,?_,by omega,m,?_,h4⟩
   ·simp only[List.getD_cons_succ]
    rw[h1]
    congr 1
    omega
   ·rw[List.drop_drop]at h3
    rw[show a+(k+n+k2)=a+k+n+k2 by omega]
    exact h3
 |later a s k d n p e hg hk ht hr he ih=>exact fun h=>absurd h he
theorem getD_drop (l:List ApiToken) (i j:Nat):(l.drop i).getD j bo=l.getD (i+j) bo:=by
 simp[List.getD]
section
variable {x:List UInt8} {T:List ApiToken} (hx:x.length<=50000) (hr:LexR 0 x T 0 0)
include hx hr
theorem open_prog {i b:Nat} (hi:i<=b) (hb:b+1<T.length) (hbt:(T.getD b bo).Text=[123]) (hpre:∀m,i<=m->m<b->(T.getD m bo).Text≠[123]):o7 x (aT T i)=some (eT T (b+1)):=by
 have hT:=tokP_of hx hr
 have hlenT:=hT.len
 obtain⟨k,h1,h2,m,h3,h4⟩:=lexR_from hr rfl i (by omega)
 rw[Nat.zero_add]at h1 h3
 obtain⟨m0,h5,h6⟩:=lexR_move h3 rfl 0
 have hsame:=sameD_trans h4 h6
 have hml:=sameD_len hsame
 rw[List.length_drop]at hml
 have hI:lexI (x.drop k)=(m0,0,0):=by unfold lexI;rw[rel_lexM h5];rfl
 have ea:aT T i=(k:Int):=h1
 have hsub:sub x (k:Int) (x.length:Int)=some (x.drop k):=by
  rw[sub_nat h2 (Nat.le_refl _),List.take_of_length_le (Nat.le_refl _)]
 unfold o7
 rw[ea,hsub,Option.bind_some,lex_Lex_eq _ (by rw[List.length_drop];omega),hI,Option.bind_some]
 simp only
 have hat:∀q,i+q<T.length->(m0.getD q bo).Text=(T.getD (i+q) bo).Text/\(m0.getD q bo).At=(T.getD (i+q) bo).At - (k:Int):=fun q hq=>by
  have:=sameD_at (i:=q) hsame (by rw[List.length_drop];omega)
  rw[getD_drop]at this
  refine⟨this.2.1,?_⟩
  rw[this.2.2]
  omega
 have hpl:=aT_nat hT (i:=b) (by omega)
 have hbytes:=hT.bytes
 have ebe:eT T (b+1)=aT T b+1:=by
  unfold eT aT
  rw[Nat.add_sub_cancel,hbt]
  rfl
 obtain⟨o,e1,e2⟩:=fk (f:=fun s:Int=>mg m0 (k:Int) s) (fun s=>∃q:Nat,q<=b - i/\s=(q:Int)) (fun o=>o= .done (eT T (b+1))) (fun s=>b - i - s.toNat) (by
  rintro _ ⟨q,hq,rfl⟩
  have hqm:q<m0.length:=by omega
  have e0:m0[q]=m0.getD q bo:=by simp[List.getD,hqm]
  obtain⟨t1,t2⟩:=hat q (by omega)
  unfold mg
  rw[if_pos (by simp[hqm]),mu hqm,Option.bind_some,e0,t1]
  by_cases hqb:q=b - i
  ·right
   rw[show i+q=b by omega]at t2 ⊢
   rw[hbt,if_pos (by decide),t2]
   refine⟨_,rfl,?_⟩
   have e3:(k:Int)+((T.getD b bo).At - (k:Int))=aT T b:=by unfold aT;omega
   rw[e3,gt (n:=aT T b) (by omega) (by omega),gt (by omega) (by omega),ebe]
  ·left
   rw[if_neg (by simpa using hpre (i+q) (by omega) (by omega)),bh (by omega)]
   exact⟨_,rfl,⟨q+1,by omega,rfl⟩,by omega⟩) 0 ⟨0,by omega,rfl⟩
 rw[e1,e2]
 rfl
theorem open_ref {i b:Nat} (hi:i<=b) (hb:b+1<T.length) (hbt:(T.getD b bo).Text=[123]) (hpre:∀m,i<=m->m<b->(T.getD m bo).Text≠[123]):ref28_open x (aT T i)=some (eT T (b+1)):=by
 have hT:=tokP_of hx hr
 have hlenT:=hT.len
 have hI:lexI x=(T,0,0):=by unfold lexI;rw[rel_lexM hr];rfl
 unfold ref28_open
 rw[ref03_Lex_eq x (by omega),hI,Option.bind_some]
 simp only
 have hpl:=aT_nat hT (i:=b) (by omega)
 have hbytes:=hT.bytes
 have ebe:eT T (b+1)=aT T b+1:=by
  unfold eT aT
  rw[Nat.add_sub_cancel,hbt]
  rfl
 obtain⟨o,e1,e2⟩:=fk (f:=fun s:Int=>po T (aT T i) s) (fun s=>∃q:Nat,q<=b/\s=(q:Int)) (fun o=>o= .done (eT T (b+1))) (fun s=>b - s.toNat) (by
  rintro _ ⟨q,hq,rfl⟩
  have hqm:q<T.length:=by omega
  have e0:T[q]=T.getD q bo:=by simp[List.getD,hqm]
  unfold po ref28_open_j3
  rw[if_pos (by simp[hqm]),mu hqm,Option.bind_some,e0]
  by_cases hqi:q<i
  ·left
   have hlq:=lexR_len hr rfl q (by omega)
   have hlt:(T.getD q bo).At<aT T i:=by
    have h1:=e_le hT (i:=q+1) (j:=i) (by omega) (by omega) (by omega)
    unfold eT at h1
    rw[Nat.add_sub_cancel]at h1
    omega
   rw[if_neg (by rw[decide_eq_true_eq];omega),if_neg (by simp),bh (by omega)]
   exact⟨_,rfl,⟨q+1,by omega,rfl⟩,by omega⟩
  ·have hge:=a_mono hT (i:=i) (j:=q) (by omega) hqm
   have hge:(T.getD q bo).At≥aT T i:=hge
   rw[if_pos (by rw[decide_eq_true_eq];exact hge),Option.bind_some]
   by_cases hqb:q=b
   ·right
    subst hqb
    rw[hbt,if_pos (by decide),Option.bind_some]
    refine⟨_,rfl,?_⟩
    have e3:(T.getD q bo).At=aT T q:=rfl
    rw[e3,gt (by omega) (by omega),ebe]
   ·left
    rw[if_neg (by simpa using hpre q (by omega) (by omega)),bh (by omega)]
    exact⟨_,rfl,⟨q+1,by omega,rfl⟩,by omega⟩) 0 ⟨0,by omega,rfl⟩
 rw[e1,e2]
 rfl
end
end Go.Proofs.YteablckbgpogiaaGreatDoor
set_option linter.unusedSectionVars false
set_option linter.unusedVariables false
set_option linter.unusedSimpArgs false
set_option maxHeartbeats 4000000
namespace Go.Proofs.YteablckbgpogiaaGreatDoor
open Go Go.Cn
theorem nq {a b:List UInt8} (h:a.length+b.length<=1000000):cat a b=some (a++b):=by
 unfold cat
 rw[if_pos (by omega)]
theorem appS_small {l m:List ApiSegment} (h:l.length+m.length<=1000000):app 32 l m=some (l++m):=by
 unfold app
 rw[if_pos ⟨by omega,by omega⟩]
def idL (cn:List UInt8) (k:ApiNode):List UInt8:=if(k.Kind==2)=true then cn++[46]++k.Text else cn++[46]++k.Text++[40,41]
theorem seg_id {cn:List UInt8} {k:ApiNode} (h1:cn.length<=100000) (h2:k.Text.length<=100000):segment_id cn k=some (idL cn k):=by
 unfold segment_id decls_Method decls_Field idL
 have e1:cat cn [46]=some (cn++[46]):=nq (by simp;omega)
 have e2:cat (cn++[46]) k.Text=some (cn++[46]++k.Text):=nq (by simp;omega)
 have e3:cat (cn++[46]++k.Text) [40,41]=some (cn++[46]++k.Text++[40,41]):=nq (by simp;omega)
 simp only[e1,e2,e3,Option.bind_some]
 split<;>rfl
theorem ref_id {cn:List UInt8} {k:ApiNode} (h1:cn.length<=100000) (h2:k.Text.length<=100000):ref28_id cn k=some (idL cn k):=by
 unfold ref28_id ref15_Field ref15_Method idL
 have e1:cat cn [46]=some (cn++[46]):=nq (by simp;omega)
 have e2:cat (cn++[46]) k.Text=some (cn++[46]++k.Text):=nq (by simp;omega)
 have e3:cat (cn++[46]++k.Text) [40,41]=some (cn++[46]++k.Text++[40,41]):=nq (by simp;omega)
 simp only[e1,e2,e3,Option.bind_some]
 split<;>rfl
def segL (x:List UInt8):Int->List (List UInt8 × Int)->List ApiSegment
 |_,[]=>[]
 |a,(k,b)::r=>⟨k,(x.drop a.toNat).take (b - a).toNat⟩::segL x b r
def jz :Int->List (List UInt8 × Int)->Int
 |a,[]=>a
 |_,(_,b)::r=>jz b r
def ordL (n:Int):Int->List (List UInt8 × Int)->Prop
 |_,[]=>True
 |a,(_,b)::r=>a<=b/\b<=n/\ordL n b r
theorem segL_app (x:List UInt8):∀(E F:List (List UInt8 × Int)) (a:Int),segL x a (E++F)=segL x a E++segL x (jz a E) F
 | [],F,a=>rfl
 |(k,b)::E,F,a=>by simp[segL,jz,segL_app x E F b]
theorem lg :∀(E F:List (List UInt8 × Int)) (a:Int),jz a (E++F)=jz (jz a E) F
 | [],F,a=>rfl
 |(k,b)::E,F,a=>by simp[jz,lg E F b]
theorem segL_len (x:List UInt8):∀(E:List (List UInt8 × Int)) (a:Int),(segL x a E).length=E.length
 | [],_=>rfl
 |(k,b)::E,a=>by simp[segL,segL_len x E b]
theorem ordL_app {n:Int}:∀(E F:List (List UInt8 × Int)) (a:Int),ordL n a (E++F)↔ordL n a E/\ordL n (jz a E) F
 | [],F,a=>by simp[ordL,jz]
 |(k,b)::E,F,a=>by
  simp only[List.cons_append,ordL,jz,ordL_app E F b]
  constructor
  ·rintro⟨h1,h2,h3,h4⟩;exact⟨⟨h1,h2,h3⟩,h4⟩
  ·rintro⟨⟨h1,h2,h3⟩,h4⟩;exact⟨h1,h2,h3,h4⟩
theorem ordL_last {n:Int}:∀(E:List (List UInt8 × Int)) (a:Int),ordL n a E->a<=jz a E/\(E≠[]->jz a E<=n)
  | [],a,_=>⟨Int.le_refl _,fun h=>absurd rfl h⟩
  | (k, b) :: E, a, ⟨h1, h2, h3⟩ => by
    have:=ordL_last E b h3
    refine⟨?_,fun _=> ?_⟩
    · simp only[jz];omega
    · simp only[jz]
      cases E with
      |nil=>exact h2
      |cons e E=>exact this.2 (by simp)
theorem sub_cut {x:List UInt8} {a b:Int} (h0:0<=a) (h1:a<=b) (h2:b<=(x.length:Int)):sub x a b=some ((x.drop a.toNat).take (b - a).toNat):=by
 obtain⟨i,rfl⟩:∃i:Nat,a=(i:Int):=⟨a.toNat,by omega⟩
 obtain⟨j,rfl⟩:∃j:Nat,b=(j:Int):=⟨b.toNat,by omega⟩
 rw[sub_nat (by omega) (by omega),List.drop_take]
 congr 2
 omega
def endsC (o:Int) (C:ApiNode):List (List UInt8 × Int):=(C.Text++[123],o)::(C.Kids.map (fun k=>(idL C.Text k,k.To))++[(C.Text++[125],C.To)])
noncomputable def opC (x:List UInt8) (C:ApiNode):Int:=(o7 x C.From).getD 0
noncomputable def jo (x:List UInt8) (l:List ApiNode):List (List UInt8 × Int):=l.flatMap (fun C=>endsC (opC x C) C)
theorem lastL_endsC (o:Int) (C:ApiNode) (a:Int):jz a (endsC o C)=C.To:=by
 unfold endsC
 simp only[jz,lg]
structure CF (x:List UInt8) (a:Int) (C:ApiNode):Prop where
 op:o7 x C.From=some (opC x C)
 rf:ref28_open x C.From=some (opC x C)
 ord:ordL (x.length:Int) a (endsC (opC x C) C)
 tx:C.Text.length<=50000
 kx:∀k∈C.Kids,k.Text.length<=50000
def CFs (x:List UInt8):Int->List ApiNode->Prop
 |_,[]=>True
 |a,C::r=>CF x a C/\CFs x C.To r
theorem CFs.at {x:List UInt8}:∀{l:List ApiNode} {a:Int} (i:Nat) (h:i<l.length),CFs x a l->CF x (jz a (jo x (l.take i))) l[i]
 |C::l,a,0,h,hc=>hc.1
 |C::l,a,i+1,h,hc=>by
  have:=CFs.at (l:=l) i (by simpa using h) hc.2
  have e:jz a (jo x ((C::l).take (i+1)))=jz C.To (jo x (l.take i)):=by
   unfold jo
   rw[List.take_succ_cons,List.flatMap_cons,lg,lastL_endsC]
  rw[e]
  simpa using this
theorem CFs.ord {x:List UInt8}:∀{l:List ApiNode} {a:Int},CFs x a l->ordL (x.length:Int) a (jo x l)
 | [],a,_=>trivial
 |C::l,a,⟨h1,h2⟩=>by
  unfold jo
  rw[List.flatMap_cons,ordL_app,lastL_endsC]
  exact⟨h1.ord,CFs.ord h2⟩
theorem endsF_take (x:List UInt8) (l:List ApiNode) (i:Nat) (h:i<l.length):jo x (l.take (i+1))=jo x (l.take i)++endsC (opC x l[i]) l[i]:=by
 unfold jo
 rw[List.take_add_one,List.getElem?_eq_getElem h,Option.toList_some,List.flatMap_append]
 simp
theorem endsF_len (x:List UInt8):∀l:List ApiNode,(jo x l).length<=3 * ee l
 | []=>by simp[jo]
 |C::l=>by
  have h1:=endsF_len x l
  have h2:=fu C.Kids
  have h3:=nsize_eq C
  have h4:(endsC (opC x C) C).length=C.Kids.length+2:=by simp[endsC]
  unfold jo at h1 ⊢
  rw[List.flatMap_cons,List.length_append,h4]
  simp only[ee]
  omega
theorem endsF_take_len (x:List UInt8) (l:List ApiNode) (i:Nat):(jo x (l.take i)).length<=3 * ee l:=by
 have h1:=endsF_len x (l.take i)
 have h2:ee l=ee (l.take i)+ee (l.drop i):=by
  conv=>lhs;rw[← List.take_append_drop i l,nsizes_append]
 omega
theorem tk_len {x:List UInt8} {T:List ApiToken} (hT:TokP x T) {q:Nat} (hq:q<T.length):(T.getD q bo).Text.length<=x.length:=by
 obtain⟨a,_,h,_⟩:=hT.place q hq
 have e:T.getD q bo=T[q]:=by simp[List.getD,hq]
 rw[e]
 omega
theorem ord_kids {x:List UInt8} {cn:List UInt8} {n hi:Int} (hh:hi<=n):∀{l:List ApiNode} {lo a:Int},chain lo hi l->a<=lo->ordL n a (l.map (fun k=>(idL cn k,k.To)))/\(a<=hi->jz a (l.map (fun k=>(idL cn k,k.To)))<=hi)
 | [],lo,a,_,_=>⟨trivial,fun h=>h⟩
 |y::r,lo,a,⟨h1,h2,h3,h4⟩,ha=>by
  have:=ord_kids (x:=x) (cn:=cn) hh (a:=y.To) h4 (Int.le_refl _)
  refine⟨⟨by omega,by omega,this.1⟩,fun _=> ?_⟩
  simp only[List.map_cons,jz]
  exact this.2 h3
theorem cl_cfs {x:List UInt8} {T:List ApiToken} (hx:x.length<=50000) (hr:LexR 0 x T 0 0):∀{l:List ApiNode} {i j:Nat} {a:Int},CL (Dt.one x T) l i j->i<T.length->a<=aT T i->CFs x a l
 | [],_,_,_,_,_,_=>trivial
 |C::r,i,j,a,⟨k,h1,h2,h3,h4⟩,hi,ha=>by
  have hT:=tokP_of hx hr
  have hbytes:=hT.bytes
  obtain⟨hn,hk1,hfrom,hto,htx,b,hib,hbk,hbt,hpre,hl,hkt⟩:=h3
  have h2:k<T.length:=h2
  have hfrom:C.From=aT T i:=hfrom
  have hto:C.To=eT T k:=hto
  have htx:C.Text=(T.getD (i+1) bo).Text:=htx
  have hbt:(T.getD b bo).Text=[123]:=hbt
  have hl:LG x T C.Kids (b+1) k:=hl
  have hpre2:∀m,i<=m->m<b->(T.getD m bo).Text≠[123]:=fun m h5 h6=>by
   have hm:m<T.length:=by omega
   have e:T.getD m bo=T[m]:=by simp[List.getD,hm]
   rcases hpre m h5 h6 with h|h|h
   ·have h:(T.getD m bo).Kind=1:=h
    rw[e]at h ⊢
    exact lexR_names hr rfl _ (List.getElem_mem hm) h
   ·have h:(T.getD m bo).Text=[99,108,97,115,115]:=h
    rw[h];decide
   ·have h:(T.getD m bo).Text=[101,120,116,101,110,100,115]:=h
    rw[h];decide
  have ho:=open_prog hx hr (i:=i) (b:=b) (by omega) (by omega) hbt hpre2
  have hor:=open_ref hx hr (i:=i) (b:=b) (by omega) (by omega) hbt hpre2
  rw[← hfrom]at ho hor
  have eo:opC x C=eT T (b+1):=by unfold opC;rw[ho];rfl
  have o1:=a_le_e hT (i:=i) (j:=b+1) (by omega) (by omega)
  have o2:=e_len hT (j:=k) (by omega) (by omega)
  have o3:=e_mono hT (i:=b+1) (j:=k) (by omega) (by omega) (by omega)
  have hlk:(T.getD (i+1) bo).Text.length<=x.length:=tk_len hT (by omega)
  refine⟨⟨by rw[eo];exact ho,by rw[eo];exact hor,?_,by rw[htx];omega,fun y hy=> ?_⟩,cl_cfs hx hr h4 h2 (by rw[hto];exact e_le hT (by omega) (Nat.le_refl _) h2)⟩
  ·unfold endsC
   rw[eo]
   have hkids:=ord_kids (x:=x) (cn:=C.Text) (n:=(x.length:Int)) o2 (a:=eT T (b+1)) hl.ch (by
    rcases Nat.lt_or_ge (b+1) T.length with h|h
    ·exact e_le_a hT h
    ·omega)
   refine⟨by omega,by omega,?_⟩
   rw[ordL_app]
   refine⟨hkids.1,?_,?_,trivial⟩
   ·rw[hto];exact hkids.2 o3
   ·rw[hto];exact o2
  ·obtain⟨q,hq,hqt⟩:=hkt y hy
   have hq:q<T.length:=hq
   have hqt:y.Text=(T.getD q bo).Text:=hqt
   have:=tk_len hT hq
   rw[hqt]
   omega
section
variable {x:List UInt8} {l:List ApiNode} (hx:x.length<=50000) (hC:CFs x 0 l) (hs:ee l<=60000)
def sgm (x:List UInt8) (E:List (List UInt8 × Int)):List UInt8 × Int × List ApiSegment:=(x,jz 0 E,segL x 0 E)
theorem sgm_step {x:List UInt8} {E:List (List UInt8 × Int)} {k:List UInt8} {b:Int} (h0:0<=jz 0 E) (h1:jz 0 E<=b) (h2:b<=(x.length:Int)) (hE:E.length<=500000):jg (sgm x E).1 (sgm x E).2.1 (sgm x E).2.2 k b=some (true,sgm x (E++[(k,b)])):=by
 unfold jg segment_Split_1 ou sgm
 simp only
 rw[sub_cut h0 h1 h2,Option.bind_some,appS_small (by rw[segL_len];simp;omega),Option.bind_some,segL_app,lg]
 rfl
include hC hs
theorem ends_run :qf (fun(s:(List UInt8) × Int × (List ApiSegment)) (a:(List UInt8) × Int)=>jg s.1 s.2.1 s.2.2 a.1 a.2) l x (x,0,[])=some (l,x,sgm x (jo x l++[([36],(x.length:Int))])):=by
 have hln:=fu l
 have hordF:=hC.ord
 have hpre:∀i,ordL (x.length:Int) 0 (jo x (l.take i)):=fun i=>by
  have e:jo x l=jo x (l.take i)++jo x (l.drop i):=by
   unfold jo
   rw[← List.flatMap_append,List.take_append_drop]
  rw[e,ordL_app]at hordF
  exact hordF.1
 unfold qf
 generalize hY:(fun(s:(List UInt8) × Int × (List ApiSegment)) (a:(List UInt8) × Int)=>jg s.1 s.2.1 s.2.2 a.1 a.2)=Y
 have hstep:∀{E:List (List UInt8 × Int)} {k:List UInt8} {b:Int},0<=jz 0 E->jz 0 E<=b->b<=(x.length:Int)->E.length<=500000->Y (sgm x E) (k,b)=some (true,sgm x (E++[(k,b)])):=fun {E k b} h0 h1 h2 h3=>by
  rw[← hY]
  exact sgm_step h0 h1 h2 h3
 obtain⟨o,h1,h2⟩:=fk (f:=fun s:Int × ((List UInt8) × Int × (List ApiSegment))=>kq Y l x s.1 s.2) (fun s=>∃i:Nat,i<=l.length/\s.1=(i:Int)/\s.2=sgm x (jo x (l.take i))) (fun o=>o= .next (sgm x (jo x l))) (fun s=>l.length - s.1.toNat) (by
  rintro⟨_,_⟩ ⟨i,hi,rfl,rfl⟩
  unfold kq
  by_cases hlt:i<l.length
  ·left
   have hcf:=hC.at i hlt
   have hlo:=(ordL_last _ _ (hpre i)).1
   have hlenE:=endsF_take_len x l i
   have hnm:=nsize_mem (List.getElem_mem hlt)
   have hkl:=fu l[i].Kids
   have hns:=nsize_eq l[i]
   have htake:=endsF_take x l i hlt
   generalize hE:jo x (l.take i)=E at hcf hlo hlenE htake
   generalize hCi:l[i]=C at hcf hnm hkl hns htake
   obtain⟨op,rf,ord,tx,kx⟩:=hcf
   generalize ho:opC x C=o at op rf ord htake
   unfold endsC at ord htake
   obtain⟨r1,r2,r3⟩:=ord
   rw[ordL_app]at r3
   obtain⟨r3,r4,r5,_⟩:=r3
   rw[if_pos (by simp[hlt])]
   simp only[mu hlt,Option.bind_some,hCi]
   rw[nq (by simp;omega),Option.bind_some,op,Option.bind_some,hstep hlo r1 r2 (by omega),Option.bind_some]
   simp only
   unfold p8
   rw[if_neg (by simp)]
   obtain⟨o2,k1,k2⟩:=fk (f:=fun s:Int × ((List UInt8) × Int × (List ApiSegment))=>kp Y C l x s.1 s.2) (fun s=>∃q:Nat,q<=C.Kids.length/\s.1=(q:Int)/\s.2=sgm x (E++[(C.Text++[123],o)]++(C.Kids.take q).map (fun k=>(idL C.Text k,k.To)))) (fun o2=>o2= .next (sgm x (E++[(C.Text++[123],o)]++C.Kids.map (fun k=>(idL C.Text k,k.To))))) (fun s=>C.Kids.length - s.1.toNat) (by
    rintro⟨_,_⟩ ⟨q,hq,rfl,rfl⟩
    unfold kp p9
    by_cases hlq:q<C.Kids.length
    ·left
     have hspl:C.Kids.map (fun k=>(idL C.Text k,k.To))=(C.Kids.take q).map (fun k=>(idL C.Text k,k.To))++((idL C.Text C.Kids[q],C.Kids[q].To)::(C.Kids.drop (q+1)).map (fun k=>(idL C.Text k,k.To))):=by
      conv=>lhs;rw[← List.take_append_drop q C.Kids,List.drop_eq_getElem_cons hlq,List.map_append,List.map_cons]
     have r3':=r3
     rw[hspl,ordL_app]at r3'
     obtain⟨u1,u2,u3,_⟩:=r3'
     have elast:jz 0 (E++[(C.Text++[123],o)]++(C.Kids.take q).map (fun k=>(idL C.Text k,k.To)))=jz o ((C.Kids.take q).map (fun k=>(idL C.Text k,k.To))):=by
      rw[lg,lg]
      rfl
     have ulo:=(ordL_last _ _ u1).1
     rw[if_pos (by simp[hlq])]
     simp only[mu hlq,Option.bind_some]
     have hkt:=kx _ (List.getElem_mem hlq)
     rw[seg_id (by omega) (by omega),Option.bind_some,hstep (by rw[elast];omega) (by rw[elast];exact u2) u3 (by simp;omega),Option.bind_some]
     simp only
     rw[if_neg (by simp)]
     refine⟨_,rfl,⟨q+1,by omega,bh (by omega),?_⟩,?_⟩
     ·rw[List.take_add_one,List.getElem?_eq_getElem hlq,Option.toList_some,List.map_append,← List.append_assoc]
      rfl
     ·simp only
      rw[bh (by omega)]
      omega
    ·right
     rw[if_neg (by simp;omega)]
     refine⟨_,rfl,?_⟩
     rw[List.take_of_length_le (by omega)]) (0,sgm x (E++[(C.Text++[123],o)])) ⟨0,by omega,rfl,by simp⟩
   rw[k1]
   subst k2
   simp only[Option.bind_some]
   unfold pz
   have elast:jz 0 (E++[(C.Text++[123],o)]++C.Kids.map (fun k=>(idL C.Text k,k.To)))=jz o (C.Kids.map (fun k=>(idL C.Text k,k.To))):=by
    rw[lg,lg]
    rfl
   have ulo:=(ordL_last _ _ r3).1
   rw[nq (by simp;omega),Option.bind_some,hstep (by rw[elast];omega) (by rw[elast];exact r4) r5 (by simp;omega),Option.bind_some]
   simp only
   rw[if_neg (by simp)]
   refine⟨_,rfl,⟨i+1,by omega,bh (by omega),?_⟩,?_⟩
   ·rw[htake]
    simp
   ·simp only
    rw[bh (by omega)]
    omega
  ·right
   rw[if_neg (by simp;omega)]
   refine⟨_,rfl,?_⟩
   rw[List.take_of_length_le (by omega)]) (0,(x,0,[])) ⟨0,by omega,rfl,rfl⟩
 rw[h1]
 subst h2
 simp only[Option.bind_some]
 unfold p7
 have hlF:=endsF_len x l
 have hlo:=ordL_last _ _ hordF
 have hle:jz 0 (jo x l)<=(x.length:Int):=by
  by_cases h:jo x l=[]
  ·rw[h];simp[jz]
  ·exact hlo.2 h
 rw[hstep hlo.1 hle (Int.le_refl _) (by omega),Option.bind_some]
end
end Go.Proofs.YteablckbgpogiaaGreatDoor
set_option linter.unusedSectionVars false
set_option linter.unusedVariables false
set_option linter.unusedSimpArgs false
set_option maxHeartbeats 4000000
namespace Go.Proofs.YteablckbgpogiaaGreatDoor
open Go Go.Cn
theorem lastL_snoc (P:List (List UInt8 × Int)) (k:List UInt8) (b a:Int):jz a (P++[(k,b)])=b:=by rw[lg];rfl
theorem segL_snoc (x:List UInt8) (P:List (List UInt8 × Int)) (k:List UInt8) (b a:Int):segL x a (P++[(k,b)])=segL x a P++[⟨k,(x.drop (jz a P).toNat).take (b - jz a P).toNat⟩]:=by rw[segL_app];rfl
theorem ref_run {x:List UInt8} {l:List ApiNode} (hC:CFs x 0 l) (hs:ee l<=60000):iter (fun s:Int × Int × List ApiSegment=>lu l x s.1 s.2.1 s.2.2) (0,0,[])=some (jz 0 (jo x l),segL x 0 (jo x l)):=by
 have hln:=fu l
 have hordF:=hC.ord
 have hpre:∀i,ordL (x.length:Int) 0 (jo x (l.take i)):=fun i=>by
  have e:jo x l=jo x (l.take i)++jo x (l.drop i):=by
   unfold jo
   rw[← List.flatMap_append,List.take_append_drop]
  rw[e,ordL_app]at hordF
  exact hordF.1
 obtain⟨o,h1,h2⟩:=fk (f:=fun s:Int × Int × List ApiSegment=>lu l x s.1 s.2.1 s.2.2) (fun s=>∃i:Nat,i<=l.length/\s=(jz 0 (jo x (l.take i)),(i:Int),segL x 0 (jo x (l.take i)))) (fun o=>o=(jz 0 (jo x l),segL x 0 (jo x l))) (fun s=>l.length - s.2.1.toNat) (by
  rintro _ ⟨i,hi,rfl⟩
  unfold lu
  by_cases hlt:i<l.length
  ·left
   have hcf:=hC.at i hlt
   have hlo:=(ordL_last _ _ (hpre i)).1
   have hlenE:=endsF_take_len x l i
   have hnm:=nsize_mem (List.getElem_mem hlt)
   have hkl:=fu l[i].Kids
   have hns:=nsize_eq l[i]
   have htake:=endsF_take x l i hlt
   generalize hE:jo x (l.take i)=E at hcf hlo hlenE htake
   generalize hCi:l[i]=C at hcf hnm hkl hns htake
   obtain⟨op,rf,ord,tx,kx⟩:=hcf
   generalize ho:opC x C=o at op rf ord htake
   unfold endsC at ord htake
   obtain⟨r1,r2,r3⟩:=ord
   rw[ordL_app]at r3
   obtain⟨r3,r4,r5,_⟩:=r3
   rw[if_pos (by simp[hlt])]
   simp only[mu hlt,Option.bind_some,hCi]
   rw[rf,Option.bind_some,nq (by simp;omega),Option.bind_some,sub_cut hlo r1 r2,Option.bind_some,appS_small (by rw[segL_len];simp;omega),Option.bind_some]
   unfold ref28_Split_j8
   have e0:segL x 0 E++[(⟨C.Text++[123],(x.drop (jz 0 E).toNat).take (o - jz 0 E).toNat⟩:ApiSegment)]=segL x 0 (E++[(C.Text++[123],o)]):=by
    rw[segL_app]
    rfl
   rw[e0]
   obtain⟨o2,k1,k2⟩:=fk (f:=fun s:Int × Int × List ApiSegment=>n8 l (i:Int) x s.1 s.2.1 s.2.2) (fun s=>∃q:Nat,q<=C.Kids.length/\s=(jz 0 (E++[(C.Text++[123],o)]++(C.Kids.take q).map (fun k=>(idL C.Text k,k.To))),(q:Int),segL x 0 (E++[(C.Text++[123],o)]++(C.Kids.take q).map (fun k=>(idL C.Text k,k.To))))) (fun o2=>o2=(jz 0 (E++[(C.Text++[123],o)]++C.Kids.map (fun k=>(idL C.Text k,k.To))),segL x 0 (E++[(C.Text++[123],o)]++C.Kids.map (fun k=>(idL C.Text k,k.To))))) (fun s=>C.Kids.length - s.2.1.toNat) (by
    rintro _ ⟨q,hq,rfl⟩
    unfold n8 ref28_Split_j7
    simp only[mu hlt,Option.bind_some,hCi]
    by_cases hlq:q<C.Kids.length
    ·left
     have hspl:C.Kids.map (fun k=>(idL C.Text k,k.To))=(C.Kids.take q).map (fun k=>(idL C.Text k,k.To))++((idL C.Text C.Kids[q],C.Kids[q].To)::(C.Kids.drop (q+1)).map (fun k=>(idL C.Text k,k.To))):=by
      conv=>lhs;rw[← List.take_append_drop q C.Kids,List.drop_eq_getElem_cons hlq,List.map_append,List.map_cons]
     have r3':=r3
     rw[hspl,ordL_app]at r3'
     obtain⟨u1,u2,u3,_⟩:=r3'
     have elast:jz 0 (E++[(C.Text++[123],o)]++(C.Kids.take q).map (fun k=>(idL C.Text k,k.To)))=jz o ((C.Kids.take q).map (fun k=>(idL C.Text k,k.To))):=by
      rw[lg,lg]
      rfl
     have ulo:=(ordL_last _ _ u1).1
     have enext:E++[(C.Text++[123],o)]++(C.Kids.take (q+1)).map (fun k=>(idL C.Text k,k.To))=E++[(C.Text++[123],o)]++(C.Kids.take q).map (fun k=>(idL C.Text k,k.To))++[(idL C.Text C.Kids[q],C.Kids[q].To)]:=by
      rw[List.take_add_one,List.getElem?_eq_getElem hlq,Option.toList_some,List.map_append,← List.append_assoc]
      rfl
     rw[if_pos (by simp[hlq])]
     simp only[mu hlq,Option.bind_some]
     have hkt:=kx _ (List.getElem_mem hlq)
     rw[ref_id (by omega) (by omega),Option.bind_some,sub_cut (by rw[elast];omega) (by rw[elast];exact u2) u3,Option.bind_some,appS_small (by rw[segL_len];simp;omega),Option.bind_some]
     refine⟨_,rfl,⟨q+1,by omega,?_⟩,?_⟩
     ·rw[enext,lastL_snoc,segL_snoc,bh (by omega)]
     ·simp only
      rw[bh (by omega)]
      omega
    ·right
     rw[if_neg (by simp;omega)]
     refine⟨_,rfl,?_⟩
     rw[List.take_of_length_le (by omega)]) (o,0,segL x 0 (E++[(C.Text++[123],o)])) ⟨0,by omega,by
      simp only[List.take_zero,List.map_nil,List.append_nil]
      rw[lg]
      rfl⟩
   rw[k1]
   subst k2
   simp only[Option.bind_some]
   unfold ref28_Split_k5 ref28_Split_j4
   have elast:jz 0 (E++[(C.Text++[123],o)]++C.Kids.map (fun k=>(idL C.Text k,k.To)))=jz o (C.Kids.map (fun k=>(idL C.Text k,k.To))):=by
    rw[lg,lg]
    rfl
   have ulo:=(ordL_last _ _ r3).1
   simp only[mu hlt,Option.bind_some,hCi]
   rw[nq (by simp;omega),Option.bind_some,sub_cut (by rw[elast];omega) (by rw[elast];exact r4) r5,Option.bind_some,appS_small (by rw[segL_len];simp;omega),Option.bind_some]
   have enext:jo x (l.take (i+1))=E++[(C.Text++[123],o)]++C.Kids.map (fun k=>(idL C.Text k,k.To))++[(C.Text++[125],C.To)]:=by
    rw[htake]
    simp
   refine⟨_,rfl,⟨i+1,by omega,?_⟩,?_⟩
   ·rw[enext,lastL_snoc,segL_snoc,bh (by omega)]
   ·simp only
    rw[bh (by omega)]
    omega
  ·right
   rw[if_neg (by simp;omega)]
   refine⟨_,rfl,?_⟩
   rw[List.take_of_length_le (by omega)]) (0,0,[]) ⟨0,by omega,rfl⟩
 rw[h1,h2]
theorem Split_eq {x:List UInt8} (hx:x.length<=50000):∃S m,pn x=some (S,m)/\ref28_Split x=some (S,m)/\((m.Code≠0/\S=[]/\jj x=some ([],m))\/(m=⟨0,0,0⟩/\∃l,jj x=some (l,⟨0,0,0⟩)/\S=segL x 0 (jo x l++[([36],(x.length:Int))])/\CFs x 0 l/\ee l<=60000)):=by
 obtain⟨l,m,hF,_,_,_,hc⟩:=File_one hx
 unfold pn ref28_Split
 rw[File_ref hx,hF,Option.bind_some,Option.bind_some]
 simp only
 by_cases h0:m.Code=0
 ·obtain⟨T,hr,hg,hcl,hm⟩:=File_shape hx hF h0
  subst hm
  have hT:=tokP_of hx hr
  have hsz:ee l<=T.length - 1 - 0:=hg.sz
  have hlen:=hT.len
  have hC:=cl_cfs hx hr hcl hT.pos (aT_nat hT hT.pos).1
  have hC:CFs x 0 l:=hC
  have hs:ee l<=60000:=by omega
  rw[if_neg (by simp),if_neg (by simp),ends_run hC hs,ref_run hC hs,Option.bind_some,Option.bind_some]
  simp only
  unfold qp ref28_Split_k2 sgm
  have hordF:=hC.ord
  have hlF:=endsF_len x l
  have hlo:=ordL_last _ _ hordF
  have hle:jz 0 (jo x l)<=(x.length:Int):=by
   by_cases h:jo x l=[]
   ·rw[h];simp[jz]
   ·exact hlo.2 h
  rw[sub_cut hlo.1 hle (Int.le_refl _),Option.bind_some,appS_small (by rw[segL_len];simp;omega),Option.bind_some]
  refine⟨_,_,rfl,?_,.inr ⟨rfl,l,rfl,rfl,hC,hs⟩⟩
  rw[segL_app]
  rfl
 ·have hl:l=[]:=by
   rcases hc with⟨_,h⟩|⟨h,_⟩
   ·exact h
   ·exact absurd h h0
  subst hl
  rw[if_pos (by simpa using h0),if_pos (by simpa using h0)]
  exact⟨[],m,rfl,rfl,.inl ⟨h0,rfl,rfl⟩⟩
end Go.Proofs.YteablckbgpogiaaGreatDoor
set_option linter.unusedSectionVars false
set_option linter.unusedVariables false
set_option linter.unusedSimpArgs false
set_option maxHeartbeats 4000000
set_option maxRecDepth 100000
namespace Go.Proofs.YteablckbgpogiaaGreatDoor
open Go Go.Cn
theorem awake28 :law28_awake=some true:=by decide+kernel
end Go.Proofs.YteablckbgpogiaaGreatDoor
set_option linter.unusedSectionVars false
set_option linter.unusedVariables false
set_option linter.unusedSimpArgs false
set_option maxHeartbeats 4000000
set_option maxRecDepth 100000
namespace Go.Proofs.YteablckbgpogiaaGreatDoor
open Go Go.Cn
theorem same28_refl {l:List ApiSegment} (hl:l.length<=2000000000):ref28_Same l l=some true:=by
 unfold ref28_Same ref28_Same_k1
 rw[if_neg (by simp)]
 obtain⟨o,h1,h2⟩:=fk (f:=fun s:Int=>pp l l s) (fun s=>∃i:Nat,i<=l.length/\s=(i:Int)) (fun o=>o= .next ()) (fun s=>l.length - s.toNat) (by
  rintro _ ⟨i,hi,rfl⟩
  unfold pp ref28_Same_j3
  by_cases hlt:i<l.length
  ·left
   rw[if_pos (by simp[hlt])]
   simp only[mu hlt,Option.bind_some]
   rw[if_neg (by simp),bh (by omega)]
   exact⟨_,rfl,⟨i+1,by omega,rfl⟩,by omega⟩
  ·right
   rw[if_neg (by simp;omega)]
   exact⟨_,rfl,rfl⟩) 0 ⟨0,by omega,rfl⟩
 rw[h1,h2]
 rfl
end Go.Proofs.YteablckbgpogiaaGreatDoor
set_option linter.unusedSectionVars false
set_option linter.unusedVariables false
set_option linter.unusedSimpArgs false
set_option maxHeartbeats 4000000
set_option maxRecDepth 100000
namespace Go.Proofs.YteablckbgpogiaaGreatDoor
open Go Go.Cn
def fsum (l:List ApiFile):Nat:=(l.map fun f=>f.Text.length+f.Path.length+1).sum
theorem fsum_take (l:List ApiFile) (i:Nat) (h:i<l.length):fsum (l.take (i+1))=fsum (l.take i)+(l[i].Text.length+l[i].Path.length+1):=by
 unfold fsum
 rw[List.take_add_one,List.getElem?_eq_getElem h,Option.toList_some,List.map_append,List.sum_append]
 simp
theorem fsum_le (l:List ApiFile) (i:Nat):fsum (l.take i)<=fsum l:=by
 have:fsum l=fsum (l.take i)+fsum (l.drop i):=by
  unfold fsum
  rw[← List.sum_append,← List.map_append,List.take_append_drop]
 omega
theorem fsum_len :∀l:List ApiFile,l.length<=fsum l
 | []=>Nat.le_refl _
 |f::l=>by
  have:=fsum_len l
  simp only[fsum,List.map_cons,List.sum_cons,List.length_cons]at this ⊢
  omega
theorem few10 {l:List ApiFile} (hs:fsum l<=100000000):∃b,ref10_Few l 10 2500=some b/\(b=true->l.length<=10/\∀f∈l,f.Text.length+f.Path.length<=2500):=by
 unfold ref10_Few ref10_Few_k1
 have hln:=fsum_len l
 by_cases hl:l.length<=10
 ·rw[if_neg (by simp;omega)]
  obtain⟨o,h1,h2⟩:=fk (f:=fun s:Int × Int=>q9 l 2500 s.1 s.2) (fun s=>∃i:Nat,i<=l.length/\s=(((fsum (l.take i) - i:Nat):Int),(i:Int))/\fsum (l.take i) - i<=2500)
   (fun o=>o= .done false\/(o= .next ()/\fsum l - l.length<=2500)) (fun s=>l.length - s.2.toNat) (by
   rintro _ ⟨i,hi,rfl,hf⟩
   unfold q9 ref10_Few_j3
   have hti:=fsum_len (l.take i)
   rw[List.length_take,Nat.min_eq_left hi]at hti
   by_cases hlt:i<l.length
   ·rw[if_pos (by simp[hlt])]
    simp only[mu hlt,Option.bind_some]
    have h3:=fsum_take l i hlt
    have h4:=fsum_le l (i+1)
    have e1:w64 ((l[i].Text.length:Int)+(l[i].Path.length:Int))=((l[i].Text.length+l[i].Path.length:Nat):Int):=by rw[gt (by omega) (by omega)];rfl
    have e2:w64 (((fsum (l.take i) - i:Nat):Int)+((l[i].Text.length+l[i].Path.length:Nat):Int))=((fsum (l.take (i+1)) - (i+1):Nat):Int):=by rw[gt (by omega) (by omega)];omega
    rw[e1,e2]
    by_cases h5:fsum (l.take (i+1)) - (i+1)<=2500
    ·left
     rw[if_neg (by simp;omega),bh (by omega)]
     exact⟨_,rfl,⟨i+1,by omega,rfl,h5⟩,by simp only;omega⟩
    ·right
     rw[if_pos (by simp;omega)]
     exact⟨_,rfl,.inl rfl⟩
   ·right
    rw[if_neg (by simp;omega)]
    refine⟨_,rfl,.inr ⟨rfl,?_⟩⟩
    rw[List.take_of_length_le (by omega)]at hf
    omega) (0,0) ⟨0,by omega,rfl,by simp[fsum]⟩
  rw[h1,Option.bind_some]
  rcases h2 with rfl|⟨rfl,h2⟩
  ·exact⟨_,rfl,fun h=>by cases h⟩
  ·refine⟨_,rfl,fun _=>⟨hl,fun f hf=> ?_⟩⟩
   have key:∀(l:List ApiFile) f,f∈l->f.Text.length+f.Path.length+l.length<=fsum l:=by
    intro l
    induction l with
    |nil=>intro f hf;cases hf
    |cons g l ih=>
     intro f hf
     have hl':=fsum_len l
     simp only[fsum,List.map_cons,List.sum_cons,List.length_cons]at hl' ih ⊢
     rcases List.mem_cons.1 hf with rfl|hf
     ·omega
     ·have:=ih f hf;omega
   have:=key l f hf
   omega
 ·rw[if_pos (by simp;omega)]
  exact⟨_,rfl,fun h=>by cases h⟩
def pathS :List UInt8:=[97,98,99,100,101,102,103,104,105,106,107,108,109,110,111,112,113,114,115,116,117,118,119,120,121,122,65,66,67,68,69,70,71,72,73,74,75,76,77,78,79,80,81,82,83,84,85,86,87,88,89,90,48,49,50,51,52,53,54,55,56,57,46,95,47]
def pathB (n:Nat):Bool:=decide ((97<=n/\n<=122)\/(65<=n/\n<=90)\/(48<=n/\n<=57)\/n=46\/n=95\/n=47)
theorem pathB_eq (c:UInt8):pathS.contains c=pathB c.toNat:=by
 have key:∀n:Fin 256,pathS.contains (UInt8.ofNat n.val)=pathB n.val:=by decide+kernel
 have h:=key ⟨c.toNat,c.toNat_lt⟩
 simpa using h
theorem dropWhile_nil {p:UInt8->Bool}:∀{l:List UInt8},l.dropWhile p=[]↔∀c∈l,p c=true
 | []=>by simp
 |c::l=>by
  rw[List.dropWhile_cons]
  by_cases h:p c=true
  ·rw[if_pos h,dropWhile_nil]
   simp[h]
  ·rw[if_neg h]
   simp[h]
theorem trim_nil {l cs:List UInt8}:Lib.trimS l cs=[]↔∀c∈l,cs.contains c=true:=by
 unfold Lib.trimS Lib.trimLeftS Lib.trimRightS
 rw[dropWhile_nil]
 constructor
 ·intro h
  have h1:l.reverse.dropWhile (cs.contains ·)=[]:=by
   have h2:∀c∈l.reverse.dropWhile (cs.contains ·),cs.contains c=true:=fun c hc=>h c (List.mem_reverse.2 hc)
   cases he:l.reverse.dropWhile (cs.contains ·)with
   |nil=>rfl
   |cons c r=>
    rw[he]at h2
    have h3:=h2 c (List.mem_cons_self ..)
    have h4:=List.head_dropWhile_not (cs.contains ·) (l:=l.reverse) (by rw[he];simp)
    simp only[he,List.head_cons]at h4
    rw[h3]at h4
    cases h4
  intro c hc
  exact dropWhile_nil.1 h1 c (List.mem_reverse.2 hc)
 ·intro h c hc
  rw[List.mem_reverse]at hc
  exact h c (List.mem_reverse.1 ((List.dropWhile_sublist _).subset hc))
theorem path_step {x:List UInt8} {i:Nat} (h:i<x.length):kg x (i:Int)=if pathB x[i].toNat=true then some (.inl (w64 ((i:Int)+1)))else some (.inr (.done false)):=by
 unfold kg bz
 rw[if_pos (by simp[h]),ot h,Option.bind_some]
 generalize x[i].toNat=n
 unfold pathB
 repeat' split
 all_goals first
  |rfl
  |(exfalso;simp at * <;>omega)
theorem path_loop {x:List UInt8} (hx:x.length<=1000):∃o,iter (fun s:Int=>kg x s) 0=some o/\((o= .next ()/\∀c∈x,pathB c.toNat=true)\/(o= .done false/\¬∀c∈x,pathB c.toNat=true)):=by
 obtain⟨o,h1,h2⟩:=fk (f:=fun s:Int=>kg x s) (fun s=>∃i:Nat,i<=x.length/\s=(i:Int)/\∀c∈x.take i,pathB c.toNat=true) (fun o=>(o= .next ()/\∀c∈x,pathB c.toNat=true)\/(o= .done false/\¬∀c∈x,pathB c.toNat=true)) (fun s=>x.length - s.toNat) (by
  rintro _ ⟨i,hi,rfl,hf⟩
  by_cases hlt:i<x.length
  ·simp only[path_step hlt]
   by_cases hp:pathB x[i].toNat=true
   ·left
    rw[if_pos hp,bh (by omega)]
    refine⟨_,rfl,⟨i+1,by omega,rfl,?_⟩,by omega⟩
    intro c hc
    rw[List.take_add_one,List.getElem?_eq_getElem hlt,Option.toList_some]at hc
    rcases List.mem_append.1 hc with hc|hc
    ·exact hf c hc
    ·rw[List.mem_singleton.1 hc];exact hp
   ·right
    rw[if_neg hp]
    exact⟨_,rfl,.inr ⟨rfl,fun h=>hp (h _ (List.getElem_mem hlt))⟩⟩
  ·right
   unfold kg
   rw[if_neg (by simp;omega)]
   refine⟨_,rfl,.inl ⟨rfl,?_⟩⟩
   rwa [List.take_of_length_le (by omega)]at hf) 0 ⟨0,by omega,rfl,by simp⟩
 exact⟨o,h1,h2⟩
theorem Path_eq {x:List UInt8} (hx:x.length<=100000000):∃b,tree_Path x=some b/\ref10_Path x=some b:=by
 unfold tree_Path ref10_Path nf ref10_Path_k1 mv
 by_cases h0:x=[]
 ·subst h0
  exact⟨false,by simp,by simp⟩
 have h1:1<=x.length:=by
  cases x with
  |nil=>exact absurd rfl h0
  |cons _ _=>simp
 rw[if_pos (by simpa using h0),if_neg (c:=decide ((x.length:Int)<1)=true) (by simp;omega)]
 by_cases h24:x.length<=24
 ·rw[if_pos (by simp;omega),if_neg (c:=decide ((x.length:Int)>24)=true) (by simp;omega)]
  unfold strings_Trim strings_HasSuffix
  rw[if_pos ⟨by omega,by decide,by decide⟩,Option.bind_some]
  change ∃b,(if(Lib.trimS x pathS==[])=true then _ else _)=some b/\_
  have h00:idxS x 0=some (x[0].toNat:Int):=ot (i:=0) h1
  have h01:idxS x (w64 ((x.length:Int) - 1))=some (x[x.length - 1].toNat:Int):=by
   rw[gt (by omega) (by omega),show(x.length:Int) - 1=((x.length - 1:Nat):Int)by omega]
   exact ot (i:=x.length - 1) (by omega)
  have hpre:([47]:List UInt8).isPrefixOf x=(x[0]==47):=by
   cases x with
   |nil=>exact absurd rfl h0
   |cons c r=>simp[List.isPrefixOf];exact Bool.beq_comm ..
  have hsuf:Lib.hasSuffix x [47]=(x[x.length - 1]==47):=by
   rw[← Lib.hasSuffix_of_drop]
   have e:x.drop (x.length - 1)=[x[x.length - 1]]:=by
    rw[List.drop_eq_getElem_cons (by omega),List.drop_of_length_le (by omega)]
   simp only[List.length_cons,List.length_nil,Nat.zero_add]
   rw[e]
   simp[h1]
  have hb:∀c:UInt8,((c.toNat:Int)==47)=(c==47):=fun c=>by
   have:((c.toNat:Int)=47)↔c=47:=by
    constructor
    ·intro h;exact UInt8.toNat_inj.1 (by rw[show(47:UInt8).toNat=47 from rfl];omega)
    ·intro h;subst h;rfl
   by_cases h:c=47
   ·rw[beq_iff_eq.2 h,beq_iff_eq.2 (this.2 h)]
   ·rw[beq_eq_false_iff_ne.2 h,beq_eq_false_iff_ne.2 (fun k=>h (this.1 k))]
  rw[h00,Option.bind_some,hb,h01,Option.bind_some,hb,hasPrefix_eq,Option.bind_some,hpre,if_pos (c:=x.length<=9223372036854775807) (by omega),Option.bind_some,hsuf]
  obtain⟨o,ho,hc⟩:=path_loop (x:=x) (by omega)
  rw[ho]
  have htr:(Lib.trimS x pathS==[])=true↔∀c∈x,pathB c.toNat=true:=by
   rw[beq_iff_eq,trim_nil]
   simp only[pathB_eq]
  rcases hc with⟨rfl,hc⟩|⟨rfl,hc⟩
  ·rw[if_pos (htr.2 hc)]
   cases h2:x[0]==47<;>cases h3:x[x.length - 1]==47<;>exact⟨_,rfl,rfl⟩
  ·rw[if_neg (fun h=>hc (htr.1 h))]
   cases h2:x[0]==47<;>cases h3:x[x.length - 1]==47<;>exact⟨_,rfl,rfl⟩
 ·rw[if_neg (by simp;omega),if_pos (by simp;omega)]
  exact⟨false,rfl,rfl⟩
end Go.Proofs.YteablckbgpogiaaGreatDoor
set_option linter.unusedSectionVars false
set_option linter.unusedVariables false
set_option linter.unusedSimpArgs false
set_option maxHeartbeats 4000000
set_option maxRecDepth 100000
namespace Go.Proofs.YteablckbgpogiaaGreatDoor
open Go Go.Cn
section
variable {l:List ApiFile} (hf:∀f∈l,f.Text.length+f.Path.length<=2500)
include hf
theorem Check_step (s:Int):kf l s=l4 l s:=by
 unfold kf l4
 split
 ·cases h:idx l s with
  |none=>rfl
  |some x=>
   rw[Option.bind_some,Option.bind_some]
   have hm:x∈l:=by
    unfold idx at h
    split at h
    ·exact List.mem_of_getElem? h
    ·cases h
   have:=hf x hm
   obtain⟨b,h1,h2⟩:=Path_eq (x:=x.Path) (by omega)
   rw[h1,h2]
   rfl
 ·rfl
theorem Check_eq :tree_Check l=ref10_Check l:=by
 have h2:nb l=oc l:=by
  funext b
  unfold nb oc
  rw[show(fun s:Int=>kf l s)=(fun s=>l4 l s)from funext (Check_step hf)]
  rfl
 unfold tree_Check ref10_Check
 rw[h2]
 rfl
theorem Parse_step (i:Int) (a:List (List ApiNode)):jm l i a=lv l i a:=by
 unfold jm lv
 split
 ·cases h:idx l i with
  |none=>rfl
  |some x=>
   rw[Option.bind_some,Option.bind_some]
   have hm:x∈l:=by
    unfold idx at h
    split at h
    ·exact List.mem_of_getElem? h
    ·cases h
   have:=hf x hm
   rw[File_ref (by omega)]
   rfl
 ·rfl
theorem Parse_eq :q5 l=ref23_Parse l:=by
 unfold q5 ref23_Parse
 rw[Check_eq hf,show(fun s:Int × List (List ApiNode)=>jm l s.1 s.2)=(fun s=>lv l s.1 s.2)from funext fun s=>Parse_step hf s.1 s.2]
 rfl
theorem Check_some (hl:l.length<=10):∃c,tree_Check l=some c:=by
 unfold tree_Check
 rw[if_neg (by simp;omega)]
 have h1:∃n,tree_Size l=some n:=by
  unfold tree_Size tree_Size_k1
  obtain⟨o,h1,_⟩:=fk (f:=fun s:Int × Int=>q8 l s.1 s.2) (fun s=>∃(i:Nat) (n:Int),i<=l.length/\s=(n,(i:Int))) (fun _=>True) (fun s=>l.length - s.2.toNat) (by
   rintro _ ⟨i,n,hi,rfl⟩
   unfold q8
   by_cases hlt:i<l.length
   ·left
    rw[if_pos (by simp[hlt])]
    simp only[mu hlt,Option.bind_some]
    rw[bh (by omega)]
    exact⟨_,rfl,⟨i+1,_,by omega,rfl⟩,by simp only;omega⟩
   ·right
    rw[if_neg (by simp;omega)]
    exact⟨_,rfl,trivial⟩) (0,0) ⟨0,0,by omega,rfl⟩
  rw[h1]
  exact⟨_,rfl⟩
 obtain⟨n,h1⟩:=h1
 rw[h1,Option.bind_some]
 unfold nb tree_Check_k1
 split
 ·exact⟨_,rfl⟩
 ·obtain⟨o,h1,h2⟩:=fk (f:=fun s:Int=>kf l s) (fun s=>∃i:Nat,i<=l.length/\s=(i:Int)) (fun o=>True) (fun s=>l.length - s.toNat) (by
   rintro _ ⟨i,hi,rfl⟩
   unfold kf
   by_cases hlt:i<l.length
   ·rw[if_pos (by simp[hlt])]
    simp only[mu hlt,Option.bind_some]
    have:=hf l[i] (List.getElem_mem hlt)
    obtain⟨b,h1,_⟩:=Path_eq (x:=l[i].Path) (by omega)
    rw[h1,Option.bind_some]
    have hj:∀b:Bool,(∃s',lk (i:Int) b=some (.inl s')/\(∃i:Nat,i<=l.length/\s'=(i:Int))/\l.length - s'.toNat<l.length - ((i:Nat):Int).toNat)\/∃o,lk (i:Int) b=some (.inr o)/\True:=fun b=>by
     unfold lk
     cases b
     ·left
      rw[if_neg (by simp),bh (by omega)]
      exact⟨_,rfl,⟨i+1,by omega,rfl⟩,by omega⟩
     ·exact .inr ⟨_,rfl,trivial⟩
    split
    ·exact hj _
    ·split
     ·rename_i h0
      have h0:0<i:=by simpa using h0
      rw[gt (by omega) (by omega),show(i:Int) - 1=((i - 1:Nat):Int)by omega,mu (by omega),Option.bind_some]
      exact hj _
     ·exact hj _
   ·right
    rw[if_neg (by simp;omega)]
    exact⟨_,rfl,trivial⟩) 0 ⟨0,by omega,rfl⟩
  rw[h1,Option.bind_some]
  cases o with
  |next _=>exact⟨_,rfl⟩
  |done _=>exact⟨_,rfl⟩
theorem Parse_some (hl:l.length<=10):∃r,q5 l=some r/\(r.2.Code≠0\/(r.2=⟨0,0,0⟩/\∀f∈l,∃n,jj f.Text=some (n,⟨0,0,0⟩))):=by
 unfold q5 check_Parse_k1
 obtain⟨c,hc⟩:=Check_some hf hl
 rw[hc,Option.bind_some]
 by_cases h0:c=0
 ·subst h0
  rw[if_neg (by simp)]
  obtain⟨o,h1,h2⟩:=fk (f:=fun s:Int × List (List ApiNode)=>jm l s.1 s.2) (fun s=>∃(i:Nat) (a:List (List ApiNode)),i<=l.length/\s=((i:Int),a)/\a.length=i/\∀f∈l.take i,∃n,jj f.Text=some (n,⟨0,0,0⟩))
   (fun o=>(∃r,o= .done r/\r.2.Code≠0)\/(∃a,o= .next a/\∀f∈l,∃n,jj f.Text=some (n,⟨0,0,0⟩))) (fun s=>l.length - s.1.toNat) (by
   rintro _ ⟨i,a,hi,rfl,ha,hp⟩
   unfold jm check_Parse_j3
   by_cases hlt:i<l.length
   ·rw[if_pos (by simp[hlt])]
    simp only[mu hlt,Option.bind_some]
    have:=hf l[i] (List.getElem_mem hlt)
    obtain⟨S,m,hS,hR,hc⟩:=Split_eq (x:=l[i].Text) (by omega)
    rcases hc with⟨hm,_,hF⟩|⟨rfl,n,hF,_⟩
    ·right
     rw[hF,Option.bind_some]
     simp only
     rw[if_pos (by simpa using hm)]
     exact⟨_,rfl,.inl ⟨_,rfl,hm⟩⟩
    ·left
     rw[hF,Option.bind_some]
     simp only
     rw[if_neg (by simp)]
     unfold app
     rw[if_pos (by simp;omega),Option.bind_some,bh (by omega)]
     refine⟨_,rfl,⟨i+1,_,by omega,rfl,by simp[ha],?_⟩,by simp only;omega⟩
     intro f hm
     rw[List.take_add_one,List.getElem?_eq_getElem hlt,Option.toList_some]at hm
     rcases List.mem_append.1 hm with hm|hm
     ·exact hp f hm
     ·rw[List.mem_singleton.1 hm];exact⟨n,hF⟩
   ·right
    rw[if_neg (by simp;omega)]
    refine⟨_,rfl,.inr ⟨_,rfl,?_⟩⟩
    rwa [List.take_of_length_le (by omega)]at hp) (0,[]) ⟨0,[],by omega,rfl,rfl,by simp⟩
  rw[h1,Option.bind_some]
  rcases h2 with⟨r,rfl,hr⟩|⟨a,rfl,ha⟩
  ·exact⟨_,rfl,.inl hr⟩
  ·exact⟨_,rfl,.inr ⟨rfl,ha⟩⟩
 ·rw[if_pos (by simpa using h0)]
  exact⟨_,rfl,.inl (by simpa using h0)⟩
theorem All_run (hl:l.length<=10) (hp:∀f∈l,∃n,jj f.Text=some (n,⟨0,0,0⟩)):∃a,iter (fun s:Int × List ApiSegment=>ki l s.1 s.2) (0,[])=some a/\iter (fun s:Int × List ApiSegment=>mx l s.1 s.2) (0,[])=some a/\a.length<=2000000000:=by
 have key:∀(k:Nat) (i:Nat) (a:List ApiSegment),l.length - i=k->i<=l.length->a.length<=i * 200000->∃r,iter (fun s:Int × List ApiSegment=>ki l s.1 s.2) ((i:Int),a)=some r/\iter (fun s:Int × List ApiSegment=>mx l s.1 s.2) ((i:Int),a)=some r/\r.length<=2000000000:=by
  intro k
  induction k with
  |zero=>
   intro i a h1 h2 h3
   refine⟨a,?_,?_,by omega⟩
   ·refine @ga noG _ _ _ _ _ ?_
    simp only
    unfold ki
    rw[if_neg (by simp;omega)]
   ·refine @ga noG _ _ _ _ _ ?_
    simp only
    unfold mx
    rw[if_neg (by simp;omega)]
  |succ k ih=>
   intro i a h1 h2 h3
   have hlt:i<l.length:=by omega
   have hb:=hf l[i] (List.getElem_mem hlt)
   obtain⟨n,hn⟩:=hp l[i] (List.getElem_mem hlt)
   obtain⟨S,m,hS,hR,hc⟩:=Split_eq (x:=l[i].Text) (by omega)
   rcases hc with⟨hm,_,hF⟩|⟨rfl,n',hF,rfl,hC,hs⟩
   ·rw[hn]at hF
    obtain⟨-,rfl⟩:=Prod.mk.inj (Option.some.inj hF)
    exact absurd rfl hm
   ·have hend:=endsF_len l[i].Text n'
    have hlen:(segL l[i].Text 0 (jo l[i].Text n'++[([36],(l[i].Text.length:Int))])).length=(jo l[i].Text n').length+1:=by rw[segL_len];simp
    have hlast:idx (segL l[i].Text 0 (jo l[i].Text n'++[([36],(l[i].Text.length:Int))])) (w64 (((segL l[i].Text 0 (jo l[i].Text n'++[([36],(l[i].Text.length:Int))])).length:Int) - 1))=some ⟨[36],(l[i].Text.drop (jz 0 (jo l[i].Text n')).toNat).take ((l[i].Text.length:Int) - jz 0 (jo l[i].Text n')).toNat⟩:=by
     rw[hlen,gt (by omega) (by omega),show(((jo l[i].Text n').length+1:Nat):Int) - 1=(((jo l[i].Text n').length:Nat):Int)by omega,segL_snoc]
     have hl2:(segL l[i].Text 0 (jo l[i].Text n')).length=(jo l[i].Text n').length:=segL_len _ _ _
     rw[mu (by simp[hl2])]
     congr 1
     simp[List.getElem_append_right,hl2]
    generalize hSg:segL l[i].Text 0 (jo l[i].Text n'++[([36],(l[i].Text.length:Int))])=S at *
    obtain⟨r,r1,r2,r3⟩:=ih (i+1) (a++S.set (Int.toNat (w64 ((S.length:Int) - 1))) ⟨[36]++l[i].Path,(l[i].Text.drop (jz 0 (jo l[i].Text n')).toNat).take ((l[i].Text.length:Int) - jz 0 (jo l[i].Text n')).toNat⟩) (by omega) (by omega) (by simp;omega)
    refine⟨r,?_,?_,r3⟩
    ·refine(@np noG _ _ _ _ _ ?_).trans r1
     simp only
     unfold ki segment_All_j4
     rw[if_pos (by simp[hlt]),mu hlt,Option.bind_some,hS,Option.bind_some]
     simp only
     rw[hlast,Option.bind_some,nq (by simp;omega),Option.bind_some,Option.bind_some]
     unfold app
     rw[if_pos (by simp;omega),Option.bind_some,bh (by omega)]
    ·refine(@np noG _ _ _ _ _ ?_).trans r2
     simp only
     unfold mx
     rw[if_pos (by simp[hlt]),mu hlt,Option.bind_some,hR,Option.bind_some]
     simp only
     rw[Option.bind_some,nq (by simp;omega),Option.bind_some,hlast,Option.bind_some]
     unfold app
     rw[if_pos (by simp;omega),Option.bind_some,bh (by omega)]
 exact key _ 0 [] rfl (by omega) (by simp)
end
theorem law_SegmentTrees {l:List ApiFile} (hs:fsum l<=100000000):ox l=some true:=by
 unfold ox
 rw[awake28,Option.bind_some,if_neg (by simp)]
 obtain⟨b,hb,hB⟩:=few10 hs
 rw[hb,Option.bind_some]
 cases b with
 |false=>rfl
 |true=>
  obtain⟨hl,hf⟩:=hB rfl
  rw[if_neg (by simp)]
  unfold segment_All ref28_All
  obtain⟨r,hr,hc⟩:=Parse_some hf hl
  rw[← Parse_eq hf,hr,Option.bind_some,Option.bind_some]
  obtain⟨P,m⟩:=r
  simp only at hc ⊢
  rcases hc with hm|⟨rfl,hp⟩
  ·rw[if_pos (by simpa using hm),if_pos (by simpa using hm)]
   unfold segment_All_j1 ref28_All_j1 i1
   simp only[Option.bind_some]
   rw[if_pos (by simp)]
   rfl
  ·rw[if_neg (by simp),if_neg (by simp)]
   obtain⟨a,h1,h2,h3⟩:=All_run hf hl hp
   rw[h1,h2]
   unfold segment_All_k2 ref28_All_k2 i1
   simp only[Option.bind_some]
   rw[if_pos (by simp),same28_refl h3]
   rfl
end Go.Proofs.YteablckbgpogiaaGreatDoor
