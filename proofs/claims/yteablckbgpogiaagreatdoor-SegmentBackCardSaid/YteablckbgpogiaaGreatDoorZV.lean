/- SegmentBack, SegmentSplits. -/
import Derived.Test.YteablckbgpogiaaGreatDoorZZ
set_option linter.unusedSimpArgs false
set_option linter.unusedVariables false
set_option linter.unusedSectionVars false
set_option linter.unusedSectionVars false
set_option linter.unusedVariables false
set_option linter.unusedSimpArgs false
set_option maxHeartbeats 4000000
namespace Go.Proofs.YteablckbgpogiaaGreatDoor
open Go Go.Cn
def QM (D:Dt) (i:Nat) (n:ApiNode) (j:Nat):Prop:=NG D.x D.T n i j/\∃q,q<D.T.length/\n.Text=(D.tk q).Text
def QS (D:Dt) (i:Nat) (n:ApiNode) (j:Nat):Prop:=NG D.x D.T n i j/\n.Kind=1/\n.From=aT D.T i/\n.To=eT D.T j/\n.Text=(D.tk (i+1)).Text/\∃b,i<b/\b+1<=j/\(D.tk b).Text=[123]/\(∀m,i<=m->m<b->(D.tk m).Kind=1\/(D.tk m).Text=[99,108,97,115,115]\/(D.tk m).Text=[101,120,116,101,110,100,115])/\LG D.x D.T n.Kids (b+1) j/\∀n'∈n.Kids,∃q,q<D.T.length/\n'.Text=(D.tk q).Text
section
variable {D:Dt} (V:Two D)
include V
theorem member_endS {i q i0:Nat} {st:Bool} {kd:Int} {kids:List ApiNode} {z':ApiNode} {ty' nm':ApiToken} (hq:q<D.T.length) (h0:i<=i0) (hiq:i0+2<q+0) (hl:LG D.x D.T kids (i0+2) q) (hs:d8 kids+1<=q - i) (hz:q<D.N+1->∃kids',z'=⟨kd,[],[],0,aT D.T' (i+D.k),eT D.T' (q+D.k), -1, -1,kids'⟩/\LR D kids kids') (hty:TR D i0 ty') (hnm:TR D (i0+1) nm'):SW (Fin' D 1 (QM D i) (NR D)) q (cu st (D.tk (i0+1)) (D.tk i0) (D.p q) ⟨kd,[],[],0,aT D.T i,eT D.T q, -1, -1,kids⟩) (cu st nm' ty' (D.p' q) z'):=by
 unfold cu fr gu de dg fp ez
 refine jg (fun _=> ?_) (fun _=> ?_)
 all_goals
  refine sw_ok hq (Nat.le_refl _) ⟨lh V.t hl (by omega) (Nat.le_refl _) (by omega) (Nat.le_of_lt hq) hs (At2.yes (by omega) (by omega) (by omega)) (At2.yes (by omega) (by omega) (by omega)),i0+1,by omega,rfl⟩ (fun h=> ?_)
  obtain⟨kids',rfl,hk⟩:=hz h
  dsimp only
  rw[(hnm (by omega)).2.1,(hty (by omega)).2.1]
  exact km (by omega) (by omega) hk (hnm.o (by omega)) (hty.o (by omega))
theorem member_j4_okS {i i0:Nat} {st:Bool} (h0:i<=i0) (hi:i0<D.T.length) (hty:isTy (D.tk i0)=true):SW (Fin' D 1 (QM D i) (NR D)) (i0+1) (bg (D.p i) st (D.p i0)) (bg (D.p' i) st (D.p' i0)):=by
 have P0:=pFin V (s:=1) (QM D i) (NR D)
 have hlen:=V.t.len
 have hi1:i0+1<D.T.length:=isTy_lt V.t hi (by rw[tk_eq V hi];exact hty)
 unfold bg
 refine sw_step V P0 hi (Nat.le_refl _) (fun ty' hty'=> ?_)
 refine sw_up V P0 (b':=i0+1+1) ?_
 refine sw_name V P0 hi1 (Nat.le_refl _) (fun _ hi2 nm' hnm=> ?_)
 refine sw_up V P0 (b':=i0+1+1+1) ?_
 refine ny V P0 hi2 (Nat.le_refl _) (fun _ hi3=>jg (fun _=> ?_) (fun h=>by cases h)) (fun _=>jg (fun h=>by cases h) (fun _=> ?_))
 ·refine gw V P0 (fun k=>k+1) (params_ok V hi3) (fun k hk=>⟨by omega,by omega,Nat.zero_le _⟩) (fun k l l' hk hbk hl hlr=> ?_)
  refine gw V P0 (fun k=>k) (block_ok V (d:=1) (by omega) hk) (fun k hk=>⟨by omega,by omega,by omega⟩) (fun q n n' hq hbq hn hnr=> ?_)
  have h1:=hn.lt
  have h3:pg n<=q - k:=hn.sz
  have h4:=hl.sz
  have h5:=ev l
  have hl2:=LG.snoc V.t hl hn (Nat.le_refl _) (Nat.le_of_lt hq)
  have h6:=hl2.sz
  refine sw_app V P0 (q - 1) (by omega) (by omega) (by simp;omega) (fun h=>⟨(hlr (by omega)).len,rfl⟩) ?_
  refine jl V P0 (i:=i) (by omega) (Nat.le_of_lt hq) (by omega) (fun z hz=> ?_)
  exact member_endS V hq h0 (by omega) (LG.widen V.t hl2 (by omega) (Nat.le_refl _) (Nat.le_of_lt hq)) (by omega) (fun h=>⟨_,hz (by omega),LR.append (hlr (by omega)) (LR.one (hnr h))⟩) hty' hnm
 ·refine sw_eq V P0 i0 _ hi (by omega) (marks_eq _ _) (fun h=>by rw[marks_eq,isB_ag V hty' _ h]) ?_
  refine jg (fun _=>sw_fail V P0 (.inl rfl) hi2) (fun _=> ?_)
  refine kl V P0 hi2 (by omega) (fun _ hi3=> ?_)
  refine jl V P0 (i:=i) (by omega) (Nat.le_of_lt hi3) (by omega) (fun z hz=> ?_)
  exact member_endS V hi3 h0 (by omega) (LG.widen V.t (LG.nil D.x D.T (i0+2)) (Nat.le_refl _) (by omega) (Nat.le_of_lt hi3)) (by simp only[d8];omega) (fun h=>⟨_,hz (by omega),LR.nil⟩) hty' hnm
theorem member_okS {i:Nat} (hi:i<D.T.length):SW (Fin' D 1 (QM D i) (NR D)) (i+1) (ec (D.p i)) (ec (D.p' i)):=by
 have P0:=pFin V (s:=1) (QM D i) (NR D)
 have hgo:∀{i0:Nat} {st:Bool},i<=i0->i0<D.T.length->SW (Fin' D 1 (QM D i) (NR D)) (i0+1) ((bc (D.p i0)).bind fun x6=>(jb x6).bind fun x7=>(if(!x7)=true then(cl (cd 120 (D.p i0)) (fun m10=>some (.bad m10)) fun x9=>bg (D.p i) st x9)else bg (D.p i) st (D.p i0))) ((bc (D.p' i0)).bind fun x6=>(jb x6).bind fun x7=>(if(!x7)=true then(cl (cd 120 (D.p' i0)) (fun m10=>some (.bad m10)) fun x9=>bg (D.p' i) st x9)else bg (D.p' i) st (D.p' i0))):=fun {i0 st} h0 hi0=>by
  refine sw_now V P0 hi0 (Nat.le_refl _) (fun t' ht=> ?_)
  refine sw_eq V P0 i0 _ hi0 (Nat.le_refl _) (isType_eq _) (fun h=>by rw[isType_eq,isTy_ag V ht h]) ?_
  refine jg (fun _=>sw_fail V P0 (.inl rfl) hi0) (fun hc=> ?_)
  exact member_j4_okS V h0 hi0 (by simpa using hc)
 unfold ec
 refine ny V P0 hi (Nat.le_refl _) (fun _ hi1=> ?_) (fun _=> ?_)
 ·refine sw_up V P0 (b':=i+1+1) ?_
  exact hgo (by omega) hi1
 ·exact hgo (Nat.le_refl _) hi
theorem class_okS {i:Nat} (hi:i<D.T.length):SW (Fin' D 1 (QS D i) (NR D)) (i+1) (eb (D.p i)) (eb (D.p' i)):=by
 have P0:=pFin V (s:=1) (QS D i) (NR D)
 have hlen:=V.t.len
 have hj5:∀{i0:Nat} {ab:Bool} {nm' su su':ApiToken},i+1<i0->i0<D.T.length->TR D (i+1) nm'->(ab=true->i+3<i0/\su=D.tk (i+3)/\TR D (i+3) su')->(∀m,i<=m->m<i0->(D.tk m).Kind=1\/(D.tk m).Text=[99,108,97,115,115]\/(D.tk m).Text=[101,120,116,101,110,100,115])->SW (Fin' D 1 (QS D i) (NR D)) (i0+1) (dc (D.p i) (D.tk (i+1)) ab (D.p i0) su) (dc (D.p' i) nm' ab (D.p' i0) su'):=fun {i0 ab nm' su su'} h0 hi0 hnm hsu hpre=>by
  unfold dc
  refine kl V P0 hi0 (Nat.le_refl _) (fun hB hi1=> ?_)
  refine sw_flow V (s:=1) (I:=fun l j=>LG D.x D.T l (i0+1) j/\∀n∈l,∃q,q<D.T.length/\n.Text=(D.tk q).Text) (J:=LR D) (by omega) ?_ (by omega) (fun j l l' hj hbj hlp hr=> ?_) (fun _=>rfl) (fun _=>rfl)
  ·have P1:=pFinF V (s:=1) (fun l j=>LG D.x D.T l (i0+1) j/\∀n∈l,∃q,q<D.T.length/\n.Text=(D.tk q).Text) (LR D) (QS D i) (NR D)
   refine sw_iter V P1 (I:=fun l j=>LG D.x D.T l (i0+1) j/\∀n∈l,∃q,q<D.T.length/\n.Text=(D.tk q).Text) (J:=LR D) hi1 ⟨LG.nil D.x D.T (i0+1),fun n h=>by simp at h⟩ (fun _=>LR.nil) (by omega) (fun j l l' hij hj hlp hr=> ?_)
   obtain⟨hl,hlt⟩:=hlp
   have P:=pFinS V (s:=1) (fun l j=>LG D.x D.T l (i0+1) j/\∀n∈l,∃q,q<D.T.length/\n.Text=(D.tk q).Text) (LR D) P1 j
   unfold f8
   refine ny V P hj (Nat.le_refl _) (fun _ hj1=>jg (fun h=>by cases h) (fun _=> ?_)) (fun _=>jg (fun _=> ?_) (fun h=>by cases h))
   ·exact sw_next hj1 (Nat.le_refl _) ⟨LG.widen V.t hl (Nat.le_refl _) (by omega) (Nat.le_of_lt hj1),hlt⟩ (fun h=>hr (by omega))
   ·refine gw V P (fun k=>k) (member_okS V hj) (fun k hk=>⟨by omega,by omega,by omega⟩) (fun k n n' hk hjk hnq hnr=> ?_)
    obtain⟨hn,hnt⟩:=hnq
    have hl2:=LG.snoc V.t hl hn (Nat.le_refl _) (Nat.le_of_lt hk)
    have h3:=hl2.sz
    have h4:=ev (l++[n])
    refine sw_app V P (k - 1) (by omega) (by omega) (by simp at h4 ⊢;omega) (fun h=>⟨(hr (by omega)).len,rfl⟩) ?_
    exact sw_inl hk (by omega) (by omega) ⟨hl2,fun y hy=>by
     rcases List.mem_append.1 hy with hy|hy
     ·exact hlt y hy
     ·rw[List.mem_singleton.1 hy];exact hnt⟩ (fun h=>LR.append (hr (by omega)) (LR.one (hnr (by omega))))
  ·obtain⟨hl,hlt⟩:=hlp
   have h2:=hl.sz
   have hbr:(D.tk i0).Text=[123]:=by unfold isB at hB;simp at hB;simpa using hB.1
   have hfin:∀{q:Nat} {ta ta':Int} {ty:List UInt8},At2 D.T i j ta ty->NG D.x D.T ⟨1,(D.tk (i+1)).Text,ty,0,aT D.T i,eT D.T j,(D.tk (i+1)).At,ta,l⟩ i j:=fun ht=>
    lh V.t hl (by omega) (Nat.le_refl _) (by omega) (Nat.le_of_lt hj) (by omega) (At2.yes (by omega) (by omega) (by omega)) ht
   unfold ip iq ga de dg fp ez
   refine jl V P0 (i:=i) (by omega) (Nat.le_of_lt hj) (by omega) (fun z hz=> ?_)
   refine jg (fun hab=> ?_) (fun hab=> ?_)
   ·obtain⟨s1,rfl,s2⟩:=hsu hab
    refine sw_ok hj (Nat.le_refl _) ⟨hfin (q:=0) (ta':=0) (At2.yes (by omega) (by omega) (by omega)),rfl,rfl,rfl,rfl,i0,by omega,by omega,hbr,hpre,hl,hlt⟩ (fun h=> ?_)
    rw[hz (by omega)]
    dsimp only
    rw[(hnm (by omega)).2.1,(s2 (by omega)).2.1]
    exact km (by omega) (by omega) (hr h) (hnm.o (by omega)) (s2.o (by omega))
   ·refine sw_ok hj (Nat.le_refl _) ⟨hfin (q:=0) (ta':=0) .no,rfl,rfl,rfl,rfl,i0,by omega,by omega,hbr,hpre,hl,hlt⟩ (fun h=> ?_)
    rw[hz (by omega)]
    dsimp only
    rw[(hnm (by omega)).2.1]
    exact km (by omega) (by omega) (hr h) (hnm.o (by omega)) oR_no
 unfold eb
 refine kl V P0 hi (Nat.le_refl _) (fun hB0 hi1=> ?_)
 have ht0:(D.tk i).Text=[99,108,97,115,115]:=by unfold isB at hB0;simp at hB0;simpa using hB0.1
 refine sw_up V P0 (b':=i+1+1) ?_
 refine sw_name V P0 hi1 (Nat.le_refl _) (fun hk1 hi2 nm' hnm=> ?_)
 refine sw_up V P0 (b':=i+1+1+1) ?_
 refine ny V P0 hi2 (Nat.le_refl _) (fun hB2 hi3=>jg (fun _=> ?_) (fun h=>by cases h)) (fun _=>jg (fun h=>by cases h) (fun _=> ?_))
 ·refine sw_up V P0 (b':=i+1+1+1+1) ?_
  refine sw_name V P0 hi3 (Nat.le_refl _) (fun hk3 hi4 su' hsu=> ?_)
  refine sw_up V P0 (b':=i+1+1+1+1+1) ?_
  have ht2:(D.tk (i+1+1)).Text=[101,120,116,101,110,100,115]:=by unfold isB at hB2;simp at hB2;simpa using hB2.1
  refine hj5 (by omega) hi4 hnm (fun _=>⟨by omega,rfl,hsu⟩) (fun m h1 h2=> ?_)
  rcases(by omega:m=i\/m=i+1\/m=i+1+1\/m=i+1+1+1)with rfl|rfl|rfl|rfl
  ·exact .inr (.inl ht0)
  ·exact .inl hk1
  ·exact .inr (.inr ht2)
  ·exact .inl hk3
 ·refine hj5 (by omega) hi2 hnm (fun h=>by cases h) (fun m h1 h2=> ?_)
  rcases(by omega:m=i\/m=i+1)with rfl|rfl
  ·exact .inr (.inl ht0)
  ·exact .inl hk1
end
end Go.Proofs.YteablckbgpogiaaGreatDoor
set_option linter.unusedSectionVars false
set_option linter.unusedVariables false
set_option linter.unusedSimpArgs false
set_option maxHeartbeats 4000000
namespace Go.Proofs.YteablckbgpogiaaGreatDoor
open Go Go.Cn
def CL (D:Dt):List ApiNode->Nat->Nat->Prop
 | [],i,j=>i=j
 |C::r,i,j=>∃k,i<k/\k<D.T.length/\QS D i C k/\CL D r k j
theorem CL.snoc {D:Dt} {C:ApiNode} {j k:Nat} (hjk:j<k) (hk:k<D.T.length) (hC:QS D j C k):∀{l:List ApiNode} {i:Nat},CL D l i j->CL D (l++[C]) i k
 | [],i,h=>by
  have h:i=j:=h
  subst h
  exact⟨k,hjk,hk,hC,rfl⟩
 |_::r,i,⟨m,h1,h2,h3,h4⟩=>⟨m,h1,h2,h3,CL.snoc hjk hk hC h4⟩
theorem file_okS {D:Dt} (V:Two D):SW (FinF D 0 (β:=List ApiNode) (fun l j=>(LG D.x D.T l 0 j/\CL D l 0 j)/\j+1=D.T.length) (LR D) (fun _ _=>False) (fun _ _=>False)) 0 (iter (fun s=>dx s.1 s.2) (D.p 0,[])) (iter (fun s=>dx s.1 s.2) (D.p' 0,[])):=by
 have hlen:=V.t.len
 have P1:=pFinF V (s:=0) (β:=List ApiNode) (fun l j=>(LG D.x D.T l 0 j/\CL D l 0 j)/\j+1=D.T.length) (LR D) (fun _ _=>False) (fun _ _=>False)
 refine sw_iter V P1 (I:=fun l j=>LG D.x D.T l 0 j/\CL D l 0 j) (J:=LR D) V.t.pos ⟨LG.nil D.x D.T 0,rfl⟩ (fun _=>LR.nil) (by omega) (fun j l l' _ hj hl hr=> ?_)
 have P:=pFinS V (s:=0) (fun l j=>LG D.x D.T l 0 j/\CL D l 0 j) (LR D) P1 j
 unfold dx
 refine sw_now V P hj (Nat.le_refl _) (fun t' ht=> ?_)
 refine sw_ite V P hj (Nat.le_refl _) (fun h=>by rw[(ht h).1]) (fun hk=> ?_) (fun hk=> ?_)
 ·refine gw V P (fun k=>k) (class_okS V hj) (fun k hk=>⟨by omega,by omega,by omega⟩) (fun k n n' hk hjk hn hnr=> ?_)
  have hl2:=LG.snoc V.t hl.1 hn.1 (Nat.le_refl _) (Nat.le_of_lt hk)
  have h3:=hl2.sz
  have h4:=ev (l++[n])
  refine sw_app V P k hk (Nat.le_refl _) (by simp at h4 ⊢;omega) (fun h=>⟨(hr (by omega)).len,rfl⟩) ?_
  exact sw_inl hk (by omega) (Nat.le_refl _) ⟨hl2,CL.snoc (by omega) hk hn hl.2⟩ (fun h=>LR.append (hr (by omega)) (LR.one (hnr (by omega))))
 ·have hk:(D.tk j).Kind=5:=by simpa using hk
  have hj1:j+1=D.T.length:=(V.t.last j hj).1 (by rw[tk_eq V hj];exact hk)
  exact sw_next hj (Nat.le_refl _) ⟨hl,hj1⟩ hr
theorem File_shape {x:List UInt8} {l:List ApiNode} {m:ApiMistake} (hx:x.length<=50000) (h:l0 x=some (l,m)) (hc:m.Code=0):∃T,LexR 0 x T 0 0/\LG x T l 0 (T.length - 1)/\CL (Dt.one x T) l 0 (T.length - 1)/\m=⟨0,0,0⟩:=by
  rw[parse_File_eq]at h
  unfold runF at h
  rw[if_pos (by omega)]at h
  by_cases he:(lexM x).2.2=0
  · obtain⟨T,hr,hI⟩:=lexI_ok he
    have hT:=tokP_of hx hr
    rw[hI]at h
    unfold runI at h
    rw[if_neg (by simp)]at h
    have hf:=file_okS (Two.one hT)
    obtain⟨z,hz,hw⟩:=hf
    simp only at h
    unfold k8 mb at h
    have hz:iter (fun s=>dx s.1 s.2) (⟨T,0⟩,[])=some z:=hz
    rw[hz]at h
    cases z with
    | done r =>
      cases r with
      |ok a=>obtain⟨j,_,_,_,h,_⟩:=hw;exact h.elim
      |bad m'=>
        obtain⟨h1,_⟩:=hw
        simp only[Option.bind_some,cl]at h
        injection h with h
        injection h with _ h
        subst h
        have:=h1.2.2.2
        omega
    |next st=>
      obtain⟨p,l2⟩:=st
      obtain⟨j,e,⟨h1,h2⟩,h3,_,_⟩:=hw
      have h2:j+1=T.length:=h2
      have h1:LG x T l2 0 j/\CL (Dt.one x T) l2 0 j:=h1
      have e:p=⟨T,(j:Int)⟩:=e
      subst e
      obtain rfl:j=T.length - 1:=by omega
      obtain⟨t,ht,htk⟩:=now_last hT
      have hs:d8 l2<=_:=h1.1.sz
      have hlen:=hT.len
      have hp:=hT.pos
      simp only[cl,Option.bind_some,ht]at h
      rw[if_neg (by simp[htk])]at h
      by_cases hd:j4 l2<=200
      · rw[deep_ok hp (by omega) hd]at h
        simp only[Option.bind_some]at h
        injection h with h
        injection h with h hm
        subst h
        exact⟨T,hr,h1.1,h1.2,hm.symm⟩
      · obtain⟨a,k1,_⟩:=deep_bad (p:=⟨T,((T.length - 1:Nat):Int)⟩) hp (show d8 l2<=1000000 by omega) (by omega)
        rw[k1]at h
        simp only[Option.bind_some]at h
        injection h with h
        injection h with _ h
        subst h
        exact absurd hc (show ¬(2:Int)=0 by decide)
  · unfold runI lexI at h
    simp only at h
    rw[if_pos (by simpa using he)]at h
    simp only[Option.bind_some]at h
    injection h with h
    injection h with _ h
    subst h
    exact absurd hc (by simpa using he)
def sameD (d:Int):List ApiToken->List ApiToken->Prop
 | [],[]=>True
 |t::l,u::m=>u.Kind=t.Kind/\u.Text=t.Text/\u.At=t.At+d/\sameD d l m
 |_,_=>False
theorem sameD_len {d:Int}:∀{l m:List ApiToken},sameD d l m->m.length=l.length
 | [],[],_=>rfl
 |t::l,u::m,h=>by simp[sameD_len h.2.2.2]
 | [],_::_,h=>h.elim
 |_::_,[],h=>h.elim
theorem sameD_at {d:Int}:∀{l m:List ApiToken} {i:Nat},sameD d l m->i<l.length->(m.getD i bl).Kind=(l.getD i bl).Kind/\(m.getD i bl).Text=(l.getD i bl).Text/\(m.getD i bl).At=(l.getD i bl).At+d
 |t::l,u::m,0,h,_=>⟨h.1,h.2.1,h.2.2.1⟩
 |t::l,u::m,i+1,h,hi=>by
  have:=sameD_at (i:=i) h.2.2.2 (by simpa using hi)
  simpa using this
 | [],_,_,_,h=>by simp at h
 |_::_,[],_,h,_=>h.elim
theorem sameD_refl :∀l:List ApiToken,sameD 0 l l
 | []=>trivial
 |t::l=>⟨rfl,rfl,by simp,sameD_refl l⟩
theorem sameD_trans {c d:Int}:∀{l m n:List ApiToken},sameD c l m->sameD d m n->sameD (c+d) l n
 | [],[],[],_,_=>trivial
 |t::l,u::m,v::n,h,k=>⟨by rw[k.1,h.1],by rw[k.2.1,h.2.1],by rw[k.2.2.1,h.2.2.1];omega,sameD_trans h.2.2.2 k.2.2.2⟩
 | [],_::_,_,h,_=>h.elim
 |_::_,[],_,h,_=>h.elim
 | [],[],_::_,_,k=>k.elim
 |_::_,_::_,[],_,k=>k.elim
theorem lexR_move {a:Nat} {s:List UInt8} {l:List ApiToken} {p e:Nat} (h:LexR a s l p e):e=0->∀b:Nat,∃m,LexR b s m 0 0/\sameD ((b:Int) - (a:Int)) l m:=by
 induction h with
 |note a s k hg=>intro h;cases h
 |fin a s hg=>exact fun _ b=>⟨_,.fin b s hg,rfl,rfl,by simp only;omega,trivial⟩
 |bad a s k e hg hk ht he=>exact fun h=>absurd h he
 |tok a s k d n l hg hk ht _ ih=>
  intro _ b
  obtain⟨m,h1,h2⟩:=ih rfl (b+k+n)
  refine⟨_,.tok b s k d n m hg hk ht h1,rfl,rfl,by simp only;omega,?_⟩
  rw[show((b+k+n:Nat):Int) - ((a+k+n:Nat):Int)=(b:Int) - (a:Int)by omega]at h2
  exact h2
 |later a s k d n p e hg hk ht _ he ih=>exact fun h=>absurd h he
theorem lexR_len {a:Nat} {s:List UInt8} {l:List ApiToken} {p e:Nat} (h:LexR a s l p e):e=0->∀i,i+1<l.length->0<(l.getD i bl).Text.length:=by
 induction h with
 |note a s k hg=>intro h;cases h
 |fin a s hg=>intro _ i hi;simp at hi
 |bad a s k e hg hk ht he=>exact fun h=>absurd h he
 |tok a s k d n l hg hk ht _ ih=>
  intro _ i hi
  obtain⟨hn,hn2,_,_⟩:=mh ht
  cases i with
  |zero=>
   simp only[List.getD_cons_zero,List.length_take]
   omega
  |succ i=>
   simp only[List.getD_cons_succ]
   exact ih rfl i (by simpa using hi)
 |later a s k d n p e hg hk ht _ he ih=>exact fun h=>absurd h he
theorem lexR_names {a:Nat} {s:List UInt8} {l:List ApiToken} {p e:Nat} (h:LexR a s l p e):e=0->∀t∈l,t.Kind=1->t.Text≠[123]:=by
 induction h with
 |note a s k hg=>intro h;cases h
 |fin a s hg=>
  intro _ t ht hk
  rw[List.mem_singleton.1 ht]at hk
  cases hk
 |bad a s k e hg hk ht he=>exact fun h=>absurd h he
 |tok a s k d n l hg hk ht _ ih=>
  intro _ t hm hk1
  rcases List.mem_cons.1 hm with rfl|hm
  ·simp only at hk1 ⊢
   obtain⟨hn,hn2,_,_⟩:=mh ht
   intro hte
   generalize s.drop k=u at ht hte
   cases u with
   |nil=>cases ht
   |cons c q=>
    obtain⟨n,rfl⟩:∃m,n=m+1:=⟨n - 1,by omega⟩
    rw[List.take_succ_cons]at hte
    injection hte with h1 _
    subst h1
    rw[tokL_cons,if_neg (by decide),if_neg (by decide)]at ht
    split at ht
    ·cases ht
    ·injection ht with ht _
     omega
  ·exact ih rfl t hm hk1
 |later a s k d n p e hg hk ht _ he ih=>exact fun h=>absurd h he
theorem lexR_from {a:Nat} {s:List UInt8} {l:List ApiToken} {p e:Nat} (h:LexR a s l p e):e=0->∀i,i+1<l.length->∃k:Nat,(l.getD i bl).At=((a+k:Nat):Int)/\k<=s.length/\∃m,LexR (a+k) (s.drop k) m 0 0/\sameD 0 (l.drop i) m:=by
 induction h with
 |note a s k hg=>intro h;cases h
 |fin a s hg=>intro _ i hi;simp at hi
 |bad a s k e hg hk ht he=>exact fun h=>absurd h he
 |tok a s k d n l hg hk ht hl ih=>
  intro _ i hi
  obtain⟨hn,hn2,_,_⟩:=mh ht
  rw[List.length_drop]at hn2
  cases i with
  |zero=>
   obtain⟨c,q,hd,hs,hp1,hp2⟩:=gapR_next hg hk
   have h1:GapR (s.drop k) 0 true:=by rw[hd];exact .stop c q hs hp1 hp2
   have h2:=LexR.tok (a+k) (s.drop k) 0 d n l h1 (by rw[List.length_drop];omega) ht (by
    rw[List.drop_drop,Nat.zero_add]
    exact hl)
   exact⟨k,rfl,by omega,_,h2,rfl,rfl,by simp only;omega,sameD_refl l⟩
  |succ i=>
   obtain⟨k2,h1,h2,m,h3,h4⟩:=ih rfl i (by simpa using hi)
   rw[List.length_drop]at h2
   refine⟨k+n+k2,?_,by omega,m,?_,h4⟩
   ·simp only[List.getD_cons_succ]
    rw[h1]
    congr 1
    omega
   ·rw[List.drop_drop]at h3
    rw[show a+(k+n+k2)=a+k+n+k2 by omega]
    exact h3
 |later a s k d n p e hg hk ht hr he ih=>exact fun h=>absurd h he
theorem getD_drop (l:List ApiToken) (i j:Nat):(l.drop i).getD j bl=l.getD (i+j) bl:=by
 simp[List.getD]
section
variable {x:List UInt8} {T:List ApiToken} (hx:x.length<=50000) (hr:LexR 0 x T 0 0)
include hx hr
theorem open_prog {i b:Nat} (hi:i<=b) (hb:b+1<T.length) (hbt:(T.getD b bl).Text=[123]) (hpre:∀m,i<=m->m<b->(T.getD m bl).Text≠[123]):od x (aT T i)=some (eT T (b+1)):=by
 have hT:=tokP_of hx hr
 have hlenT:=hT.len
 obtain⟨k,h1,h2,m,h3,h4⟩:=lexR_from hr rfl i (by omega)
 rw[Nat.zero_add]at h1 h3
 obtain⟨m0,h5,h6⟩:=lexR_move h3 rfl 0
 have hsame:=sameD_trans h4 h6
 have hml:=sameD_len hsame
 rw[List.length_drop]at hml
 have hI:lexI (x.drop k)=(m0,0,0):=by unfold lexI;rw[rel_lexM h5];rfl
 have ea:aT T i=(k:Int):=h1
 have hsub:sub x (k:Int) (x.length:Int)=some (x.drop k):=by
  rw[sub_nat h2 (Nat.le_refl _),List.take_of_length_le (Nat.le_refl _)]
 unfold od
 rw[ea,hsub,Option.bind_some,lex_Lex_eq _ (by rw[List.length_drop];omega),hI,Option.bind_some]
 simp only
 have hat:∀q,i+q<T.length->(m0.getD q bl).Text=(T.getD (i+q) bl).Text/\(m0.getD q bl).At=(T.getD (i+q) bl).At - (k:Int):=fun q hq=>by
  have:=sameD_at (i:=q) hsame (by rw[List.length_drop];omega)
  rw[getD_drop]at this
  refine⟨this.2.1,?_⟩
  rw[this.2.2]
  omega
 have hpl:=aT_nat hT (i:=b) (by omega)
 have hbytes:=hT.bytes
 have ebe:eT T (b+1)=aT T b+1:=by
  unfold eT aT
  rw[Nat.add_sub_cancel,hbt]
  rfl
 obtain⟨o,e1,e2⟩:=f0 (f:=fun s:Int=>l4 m0 (k:Int) s) (fun s=>∃q:Nat,q<=b - i/\s=(q:Int)) (fun o=>o= .done (eT T (b+1))) (fun s=>b - i - s.toNat) (by
  rintro _ ⟨q,hq,rfl⟩
  have hqm:q<m0.length:=by omega
  have e0:m0[q]=m0.getD q bl:=by simp[List.getD,hqm]
  obtain⟨t1,t2⟩:=hat q (by omega)
  unfold l4
  rw[if_pos (by simp[hqm]),pj hqm,Option.bind_some,e0,t1]
  by_cases hqb:q=b - i
  ·right
   rw[show i+q=b by omega]at t2 ⊢
   rw[hbt,if_pos (by decide),t2]
   refine⟨_,rfl,?_⟩
   have e3:(k:Int)+((T.getD b bl).At - (k:Int))=aT T b:=by unfold aT;omega
   rw[e3,ie (n:=aT T b) (by omega) (by omega),ie (by omega) (by omega),ebe]
  ·left
   rw[if_neg (by simpa using hpre (i+q) (by omega) (by omega)),bd (by omega)]
   exact⟨_,rfl,⟨q+1,by omega,rfl⟩,by omega⟩) 0 ⟨0,by omega,rfl⟩
 rw[e1,e2]
 rfl
theorem open_ref {i b:Nat} (hi:i<=b) (hb:b+1<T.length) (hbt:(T.getD b bl).Text=[123]) (hpre:∀m,i<=m->m<b->(T.getD m bl).Text≠[123]):ref28_open x (aT T i)=some (eT T (b+1)):=by
 have hT:=tokP_of hx hr
 have hlenT:=hT.len
 have hI:lexI x=(T,0,0):=by unfold lexI;rw[rel_lexM hr];rfl
 unfold ref28_open
 rw[ref03_Lex_eq x (by omega),hI,Option.bind_some]
 simp only
 have hpl:=aT_nat hT (i:=b) (by omega)
 have hbytes:=hT.bytes
 have ebe:eT T (b+1)=aT T b+1:=by
  unfold eT aT
  rw[Nat.add_sub_cancel,hbt]
  rfl
 obtain⟨o,e1,e2⟩:=f0 (f:=fun s:Int=>ref28_open_l2 T (aT T i) s) (fun s=>∃q:Nat,q<=b/\s=(q:Int)) (fun o=>o= .done (eT T (b+1))) (fun s=>b - s.toNat) (by
  rintro _ ⟨q,hq,rfl⟩
  have hqm:q<T.length:=by omega
  have e0:T[q]=T.getD q bl:=by simp[List.getD,hqm]
  unfold ref28_open_l2 ref28_open_j3
  rw[if_pos (by simp[hqm]),pj hqm,Option.bind_some,e0]
  by_cases hqi:q<i
  ·left
   have hlq:=lexR_len hr rfl q (by omega)
   have hlt:(T.getD q bl).At<aT T i:=by
    have h1:=e_le hT (i:=q+1) (j:=i) (by omega) (by omega) (by omega)
    unfold eT at h1
    rw[Nat.add_sub_cancel]at h1
    omega
   rw[if_neg (by rw[decide_eq_true_eq];omega),if_neg (by simp),bd (by omega)]
   exact⟨_,rfl,⟨q+1,by omega,rfl⟩,by omega⟩
  ·have hge:=a_mono hT (i:=i) (j:=q) (by omega) hqm
   have hge:(T.getD q bl).At≥aT T i:=hge
   rw[if_pos (by rw[decide_eq_true_eq];exact hge),Option.bind_some]
   by_cases hqb:q=b
   ·right
    subst hqb
    rw[hbt,if_pos (by decide),Option.bind_some]
    refine⟨_,rfl,?_⟩
    have e3:(T.getD q bl).At=aT T q:=rfl
    rw[e3,ie (by omega) (by omega),ebe]
   ·left
    rw[if_neg (by simpa using hpre q (by omega) (by omega)),bd (by omega)]
    exact⟨_,rfl,⟨q+1,by omega,rfl⟩,by omega⟩) 0 ⟨0,by omega,rfl⟩
 rw[e1,e2]
 rfl
end
end Go.Proofs.YteablckbgpogiaaGreatDoor
set_option linter.unusedSectionVars false
set_option linter.unusedVariables false
set_option linter.unusedSimpArgs false
set_option maxHeartbeats 4000000
namespace Go.Proofs.YteablckbgpogiaaGreatDoor
open Go Go.Cn
theorem n8 {a b:List UInt8} (h:a.length+b.length<=1000000):cat a b=some (a++b):=by
 unfold cat
 rw[if_pos (by omega)]
theorem appS_small {l m:List ApiSegment} (h:l.length+m.length<=1000000):app 32 l m=some (l++m):=by
 unfold app
 rw[if_pos ⟨by omega,by omega⟩]
def idL (cn:List UInt8) (k:ApiNode):List UInt8:=if(k.Kind==2)=true then cn++[46]++k.Text else cn++[46]++k.Text++[40,41]
theorem seg_id {cn:List UInt8} {k:ApiNode} (h1:cn.length<=100000) (h2:k.Text.length<=100000):segment_id cn k=some (idL cn k):=by
 unfold segment_id decls_Method decls_Field idL
 have e1:cat cn [46]=some (cn++[46]):=n8 (by simp;omega)
 have e2:cat (cn++[46]) k.Text=some (cn++[46]++k.Text):=n8 (by simp;omega)
 have e3:cat (cn++[46]++k.Text) [40,41]=some (cn++[46]++k.Text++[40,41]):=n8 (by simp;omega)
 simp only[e1,e2,e3,Option.bind_some]
 split<;>rfl
theorem ref_id {cn:List UInt8} {k:ApiNode} (h1:cn.length<=100000) (h2:k.Text.length<=100000):ref28_id cn k=some (idL cn k):=by
 unfold ref28_id ref15_Field ref15_Method idL
 have e1:cat cn [46]=some (cn++[46]):=n8 (by simp;omega)
 have e2:cat (cn++[46]) k.Text=some (cn++[46]++k.Text):=n8 (by simp;omega)
 have e3:cat (cn++[46]++k.Text) [40,41]=some (cn++[46]++k.Text++[40,41]):=n8 (by simp;omega)
 simp only[e1,e2,e3,Option.bind_some]
 split<;>rfl
def segL (x:List UInt8):Int->List (List UInt8 × Int)->List ApiSegment
 |_,[]=>[]
 |a,(k,b)::r=>⟨k,(x.drop a.toNat).take (b - a).toNat⟩::segL x b r
def jd :Int->List (List UInt8 × Int)->Int
 |a,[]=>a
 |_,(_,b)::r=>jd b r
def ordL (n:Int):Int->List (List UInt8 × Int)->Prop
 |_,[]=>True
 |a,(_,b)::r=>a<=b/\b<=n/\ordL n b r
theorem segL_app (x:List UInt8):∀(E F:List (List UInt8 × Int)) (a:Int),segL x a (E++F)=segL x a E++segL x (jd a E) F
 | [],F,a=>rfl
 |(k,b)::E,F,a=>by simp[segL,jd,segL_app x E F b]
theorem k6 :∀(E F:List (List UInt8 × Int)) (a:Int),jd a (E++F)=jd (jd a E) F
 | [],F,a=>rfl
 |(k,b)::E,F,a=>by simp[jd,k6 E F b]
theorem segL_len (x:List UInt8):∀(E:List (List UInt8 × Int)) (a:Int),(segL x a E).length=E.length
 | [],_=>rfl
 |(k,b)::E,a=>by simp[segL,segL_len x E b]
theorem ordL_app {n:Int}:∀(E F:List (List UInt8 × Int)) (a:Int),ordL n a (E++F)↔ordL n a E/\ordL n (jd a E) F
 | [],F,a=>by simp[ordL,jd]
 |(k,b)::E,F,a=>by
  simp only[List.cons_append,ordL,jd,ordL_app E F b]
  constructor
  ·rintro⟨h1,h2,h3,h4⟩;exact⟨⟨h1,h2,h3⟩,h4⟩
  ·rintro⟨⟨h1,h2,h3⟩,h4⟩;exact⟨h1,h2,h3,h4⟩
theorem nz {n:Int}:∀(E:List (List UInt8 × Int)) (a:Int),ordL n a E->a<=jd a E/\(E≠[]->jd a E<=n)
  | [],a,_=>⟨Int.le_refl _,fun h=>absurd rfl h⟩
  | (k, b) :: E, a, ⟨h1, h2, h3⟩ => by
    have:=nz E b h3
    refine⟨?_,fun _=> ?_⟩
    · simp only[jd];omega
    · simp only[jd]
      cases E with
      |nil=>exact h2
      |cons e E=>exact this.2 (by simp)
theorem sub_cut {x:List UInt8} {a b:Int} (h0:0<=a) (h1:a<=b) (h2:b<=(x.length:Int)):sub x a b=some ((x.drop a.toNat).take (b - a).toNat):=by
 obtain⟨i,rfl⟩:∃i:Nat,a=(i:Int):=⟨a.toNat,by omega⟩
 obtain⟨j,rfl⟩:∃j:Nat,b=(j:Int):=⟨b.toNat,by omega⟩
 rw[sub_nat (by omega) (by omega),List.drop_take]
 congr 2
 omega
def endsC (o:Int) (C:ApiNode):List (List UInt8 × Int):=(C.Text++[123],o)::(C.Kids.map (fun k=>(idL C.Text k,k.To))++[(C.Text++[125],C.To)])
noncomputable def opC (x:List UInt8) (C:ApiNode):Int:=(od x C.From).getD 0
noncomputable def je (x:List UInt8) (l:List ApiNode):List (List UInt8 × Int):=l.flatMap (fun C=>endsC (opC x C) C)
theorem lastL_endsC (o:Int) (C:ApiNode) (a:Int):jd a (endsC o C)=C.To:=by
 unfold endsC
 simp only[jd,k6]
structure CF (x:List UInt8) (a:Int) (C:ApiNode):Prop where
 op:od x C.From=some (opC x C)
 rf:ref28_open x C.From=some (opC x C)
 ord:ordL (x.length:Int) a (endsC (opC x C) C)
 tx:C.Text.length<=50000
 kx:∀k∈C.Kids,k.Text.length<=50000
def CFs (x:List UInt8):Int->List ApiNode->Prop
 |_,[]=>True
 |a,C::r=>CF x a C/\CFs x C.To r
theorem CFs.at {x:List UInt8}:∀{l:List ApiNode} {a:Int} (i:Nat) (h:i<l.length),CFs x a l->CF x (jd a (je x (l.take i))) l[i]
 |C::l,a,0,h,hc=>hc.1
 |C::l,a,i+1,h,hc=>by
  have:=CFs.at (l:=l) i (by simpa using h) hc.2
  have e:jd a (je x ((C::l).take (i+1)))=jd C.To (je x (l.take i)):=by
   unfold je
   rw[List.take_succ_cons,List.flatMap_cons,k6,lastL_endsC]
  rw[e]
  simpa using this
theorem CFs.ord {x:List UInt8}:∀{l:List ApiNode} {a:Int},CFs x a l->ordL (x.length:Int) a (je x l)
 | [],a,_=>trivial
 |C::l,a,⟨h1,h2⟩=>by
  unfold je
  rw[List.flatMap_cons,ordL_app,lastL_endsC]
  exact⟨h1.ord,CFs.ord h2⟩
theorem endsF_take (x:List UInt8) (l:List ApiNode) (i:Nat) (h:i<l.length):je x (l.take (i+1))=je x (l.take i)++endsC (opC x l[i]) l[i]:=by
 unfold je
 rw[List.take_add_one,List.getElem?_eq_getElem h,Option.toList_some,List.flatMap_append]
 simp
theorem endsF_len (x:List UInt8):∀l:List ApiNode,(je x l).length<=3 * d8 l
 | []=>by simp[je]
 |C::l=>by
  have h1:=endsF_len x l
  have h2:=ev C.Kids
  have h3:=nsize_eq C
  have h4:(endsC (opC x C) C).length=C.Kids.length+2:=by simp[endsC]
  unfold je at h1 ⊢
  rw[List.flatMap_cons,List.length_append,h4]
  simp only[d8]
  omega
theorem endsF_take_len (x:List UInt8) (l:List ApiNode) (i:Nat):(je x (l.take i)).length<=3 * d8 l:=by
 have h1:=endsF_len x (l.take i)
 have h2:d8 l=d8 (l.take i)+d8 (l.drop i):=by
  conv=>lhs;rw[← List.take_append_drop i l,nsizes_append]
 omega
theorem tk_len {x:List UInt8} {T:List ApiToken} (hT:TokP x T) {q:Nat} (hq:q<T.length):(T.getD q bl).Text.length<=x.length:=by
 obtain⟨a,_,h,_⟩:=hT.place q hq
 have e:T.getD q bl=T[q]:=by simp[List.getD,hq]
 rw[e]
 omega
theorem ord_kids {x:List UInt8} {cn:List UInt8} {n hi:Int} (hh:hi<=n):∀{l:List ApiNode} {lo a:Int},chain lo hi l->a<=lo->ordL n a (l.map (fun k=>(idL cn k,k.To)))/\(a<=hi->jd a (l.map (fun k=>(idL cn k,k.To)))<=hi)
 | [],lo,a,_,_=>⟨trivial,fun h=>h⟩
 |y::r,lo,a,⟨h1,h2,h3,h4⟩,ha=>by
  have:=ord_kids (x:=x) (cn:=cn) hh (a:=y.To) h4 (Int.le_refl _)
  refine⟨⟨by omega,by omega,this.1⟩,fun _=> ?_⟩
  simp only[List.map_cons,jd]
  exact this.2 h3
theorem cl_cfs {x:List UInt8} {T:List ApiToken} (hx:x.length<=50000) (hr:LexR 0 x T 0 0):∀{l:List ApiNode} {i j:Nat} {a:Int},CL (Dt.one x T) l i j->i<T.length->a<=aT T i->CFs x a l
 | [],_,_,_,_,_,_=>trivial
 |C::r,i,j,a,⟨k,h1,h2,h3,h4⟩,hi,ha=>by
  have hT:=tokP_of hx hr
  have hbytes:=hT.bytes
  obtain⟨hn,hk1,hfrom,hto,htx,b,hib,hbk,hbt,hpre,hl,hkt⟩:=h3
  have h2:k<T.length:=h2
  have hfrom:C.From=aT T i:=hfrom
  have hto:C.To=eT T k:=hto
  have htx:C.Text=(T.getD (i+1) bl).Text:=htx
  have hbt:(T.getD b bl).Text=[123]:=hbt
  have hl:LG x T C.Kids (b+1) k:=hl
  have hpre2:∀m,i<=m->m<b->(T.getD m bl).Text≠[123]:=fun m h5 h6=>by
   have hm:m<T.length:=by omega
   have e:T.getD m bl=T[m]:=by simp[List.getD,hm]
   rcases hpre m h5 h6 with h|h|h
   ·have h:(T.getD m bl).Kind=1:=h
    rw[e]at h ⊢
    exact lexR_names hr rfl _ (List.getElem_mem hm) h
   ·have h:(T.getD m bl).Text=[99,108,97,115,115]:=h
    rw[h];decide
   ·have h:(T.getD m bl).Text=[101,120,116,101,110,100,115]:=h
    rw[h];decide
  have ho:=open_prog hx hr (i:=i) (b:=b) (by omega) (by omega) hbt hpre2
  have hor:=open_ref hx hr (i:=i) (b:=b) (by omega) (by omega) hbt hpre2
  rw[← hfrom]at ho hor
  have eo:opC x C=eT T (b+1):=by unfold opC;rw[ho];rfl
  have o1:=a_le_e hT (i:=i) (j:=b+1) (by omega) (by omega)
  have o2:=e_len hT (j:=k) (by omega) (by omega)
  have o3:=e_mono hT (i:=b+1) (j:=k) (by omega) (by omega) (by omega)
  have hlk:(T.getD (i+1) bl).Text.length<=x.length:=tk_len hT (by omega)
  refine⟨⟨by rw[eo];exact ho,by rw[eo];exact hor,?_,by rw[htx];omega,fun y hy=> ?_⟩,cl_cfs hx hr h4 h2 (by rw[hto];exact e_le hT (by omega) (Nat.le_refl _) h2)⟩
  ·unfold endsC
   rw[eo]
   have hkids:=ord_kids (x:=x) (cn:=C.Text) (n:=(x.length:Int)) o2 (a:=eT T (b+1)) hl.ch (by
    rcases Nat.lt_or_ge (b+1) T.length with h|h
    ·exact e_le_a hT h
    ·omega)
   refine⟨by omega,by omega,?_⟩
   rw[ordL_app]
   refine⟨hkids.1,?_,?_,trivial⟩
   ·rw[hto];exact hkids.2 o3
   ·rw[hto];exact o2
  ·obtain⟨q,hq,hqt⟩:=hkt y hy
   have hq:q<T.length:=hq
   have hqt:y.Text=(T.getD q bl).Text:=hqt
   have:=tk_len hT hq
   rw[hqt]
   omega
section
variable {x:List UInt8} {l:List ApiNode} (hx:x.length<=50000) (hC:CFs x 0 l) (hs:d8 l<=60000)
def sgm (x:List UInt8) (E:List (List UInt8 × Int)):List UInt8 × Int × List ApiSegment:=(x,jd 0 E,segL x 0 E)
theorem sgm_step {x:List UInt8} {E:List (List UInt8 × Int)} {k:List UInt8} {b:Int} (h0:0<=jd 0 E) (h1:jd 0 E<=b) (h2:b<=(x.length:Int)) (hE:E.length<=500000):jc (sgm x E).1 (sgm x E).2.1 (sgm x E).2.2 k b=some (true,sgm x (E++[(k,b)])):=by
 unfold jc segment_Split_1 nu sgm
 simp only
 rw[sub_cut h0 h1 h2,Option.bind_some,appS_small (by rw[segL_len];simp;omega),Option.bind_some,segL_app,k6]
 rfl
include hC hs
theorem ends_run :pl (fun(s:(List UInt8) × Int × (List ApiSegment)) (a:(List UInt8) × Int)=>jc s.1 s.2.1 s.2.2 a.1 a.2) l x (x,0,[])=some (l,x,sgm x (je x l++[([36],(x.length:Int))])):=by
 have hln:=ev l
 have hordF:=hC.ord
 have hpre:∀i,ordL (x.length:Int) 0 (je x (l.take i)):=fun i=>by
  have e:je x l=je x (l.take i)++je x (l.drop i):=by
   unfold je
   rw[← List.flatMap_append,List.take_append_drop]
  rw[e,ordL_app]at hordF
  exact hordF.1
 unfold pl
 generalize hY:(fun(s:(List UInt8) × Int × (List ApiSegment)) (a:(List UInt8) × Int)=>jc s.1 s.2.1 s.2.2 a.1 a.2)=Y
 have hstep:∀{E:List (List UInt8 × Int)} {k:List UInt8} {b:Int},0<=jd 0 E->jd 0 E<=b->b<=(x.length:Int)->E.length<=500000->Y (sgm x E) (k,b)=some (true,sgm x (E++[(k,b)])):=fun {E k b} h0 h1 h2 h3=>by
  rw[← hY]
  exact sgm_step h0 h1 h2 h3
 obtain⟨o,h1,h2⟩:=f0 (f:=fun s:Int × ((List UInt8) × Int × (List ApiSegment))=>ki Y l x s.1 s.2) (fun s=>∃i:Nat,i<=l.length/\s.1=(i:Int)/\s.2=sgm x (je x (l.take i))) (fun o=>o= .next (sgm x (je x l))) (fun s=>l.length - s.1.toNat) (by
  rintro⟨_,_⟩ ⟨i,hi,rfl,rfl⟩
  unfold ki
  by_cases hlt:i<l.length
  ·left
   have hcf:=hC.at i hlt
   have hlo:=(nz _ _ (hpre i)).1
   have hlenE:=endsF_take_len x l i
   have hnm:=nsize_mem (List.getElem_mem hlt)
   have hkl:=ev l[i].Kids
   have hns:=nsize_eq l[i]
   have htake:=endsF_take x l i hlt
   generalize hE:je x (l.take i)=E at hcf hlo hlenE htake
   generalize hCi:l[i]=C at hcf hnm hkl hns htake
   obtain⟨op,rf,ord,tx,kx⟩:=hcf
   generalize ho:opC x C=o at op rf ord htake
   unfold endsC at ord htake
   obtain⟨r1,r2,r3⟩:=ord
   rw[ordL_app]at r3
   obtain⟨r3,r4,r5,_⟩:=r3
   rw[if_pos (by simp[hlt])]
   simp only[pj hlt,Option.bind_some,hCi]
   rw[n8 (by simp;omega),Option.bind_some,op,Option.bind_some,hstep hlo r1 r2 (by omega),Option.bind_some]
   simp only
   unfold o9
   rw[if_neg (by simp)]
   obtain⟨o2,k1,k2⟩:=f0 (f:=fun s:Int × ((List UInt8) × Int × (List ApiSegment))=>kh Y C l x s.1 s.2) (fun s=>∃q:Nat,q<=C.Kids.length/\s.1=(q:Int)/\s.2=sgm x (E++[(C.Text++[123],o)]++(C.Kids.take q).map (fun k=>(idL C.Text k,k.To)))) (fun o2=>o2= .next (sgm x (E++[(C.Text++[123],o)]++C.Kids.map (fun k=>(idL C.Text k,k.To))))) (fun s=>C.Kids.length - s.1.toNat) (by
    rintro⟨_,_⟩ ⟨q,hq,rfl,rfl⟩
    unfold kh pa
    by_cases hlq:q<C.Kids.length
    ·left
     have hspl:C.Kids.map (fun k=>(idL C.Text k,k.To))=(C.Kids.take q).map (fun k=>(idL C.Text k,k.To))++((idL C.Text C.Kids[q],C.Kids[q].To)::(C.Kids.drop (q+1)).map (fun k=>(idL C.Text k,k.To))):=by
      conv=>lhs;rw[← List.take_append_drop q C.Kids,List.drop_eq_getElem_cons hlq,List.map_append,List.map_cons]
     have r3':=r3
     rw[hspl,ordL_app]at r3'
     obtain⟨u1,u2,u3,_⟩:=r3'
     have elast:jd 0 (E++[(C.Text++[123],o)]++(C.Kids.take q).map (fun k=>(idL C.Text k,k.To)))=jd o ((C.Kids.take q).map (fun k=>(idL C.Text k,k.To))):=by
      rw[k6,k6]
      rfl
     have ulo:=(nz _ _ u1).1
     rw[if_pos (by simp[hlq])]
     simp only[pj hlq,Option.bind_some]
     have hkt:=kx _ (List.getElem_mem hlq)
     rw[seg_id (by omega) (by omega),Option.bind_some,hstep (by rw[elast];omega) (by rw[elast];exact u2) u3 (by simp;omega),Option.bind_some]
     simp only
     rw[if_neg (by simp)]
     refine⟨_,rfl,⟨q+1,by omega,bd (by omega),?_⟩,?_⟩
     ·rw[List.take_add_one,List.getElem?_eq_getElem hlq,Option.toList_some,List.map_append,← List.append_assoc]
      rfl
     ·simp only
      rw[bd (by omega)]
      omega
    ·right
     rw[if_neg (by simp;omega)]
     refine⟨_,rfl,?_⟩
     rw[List.take_of_length_le (by omega)]) (0,sgm x (E++[(C.Text++[123],o)])) ⟨0,by omega,rfl,by simp⟩
   rw[k1]
   subst k2
   simp only[Option.bind_some]
   unfold o7
   have elast:jd 0 (E++[(C.Text++[123],o)]++C.Kids.map (fun k=>(idL C.Text k,k.To)))=jd o (C.Kids.map (fun k=>(idL C.Text k,k.To))):=by
    rw[k6,k6]
    rfl
   have ulo:=(nz _ _ r3).1
   rw[n8 (by simp;omega),Option.bind_some,hstep (by rw[elast];omega) (by rw[elast];exact r4) r5 (by simp;omega),Option.bind_some]
   simp only
   rw[if_neg (by simp)]
   refine⟨_,rfl,⟨i+1,by omega,bd (by omega),?_⟩,?_⟩
   ·rw[htake]
    simp
   ·simp only
    rw[bd (by omega)]
    omega
  ·right
   rw[if_neg (by simp;omega)]
   refine⟨_,rfl,?_⟩
   rw[List.take_of_length_le (by omega)]) (0,(x,0,[])) ⟨0,by omega,rfl,rfl⟩
 rw[h1]
 subst h2
 simp only[Option.bind_some]
 unfold o8
 have hlF:=endsF_len x l
 have hlo:=nz _ _ hordF
 have hle:jd 0 (je x l)<=(x.length:Int):=by
  by_cases h:je x l=[]
  ·rw[h];simp[jd]
  ·exact hlo.2 h
 rw[hstep hlo.1 hle (Int.le_refl _) (by omega),Option.bind_some]
end
end Go.Proofs.YteablckbgpogiaaGreatDoor
set_option linter.unusedSectionVars false
set_option linter.unusedVariables false
set_option linter.unusedSimpArgs false
set_option maxHeartbeats 4000000
namespace Go.Proofs.YteablckbgpogiaaGreatDoor
open Go Go.Cn
theorem lastL_snoc (P:List (List UInt8 × Int)) (k:List UInt8) (b a:Int):jd a (P++[(k,b)])=b:=by rw[k6];rfl
theorem segL_snoc (x:List UInt8) (P:List (List UInt8 × Int)) (k:List UInt8) (b a:Int):segL x a (P++[(k,b)])=segL x a P++[⟨k,(x.drop (jd a P).toNat).take (b - jd a P).toNat⟩]:=by rw[segL_app];rfl
theorem ref_run {x:List UInt8} {l:List ApiNode} (hC:CFs x 0 l) (hs:d8 l<=60000):iter (fun s:Int × Int × List ApiSegment=>ref28_Split_l3 l x s.1 s.2.1 s.2.2) (0,0,[])=some (jd 0 (je x l),segL x 0 (je x l)):=by
 have hln:=ev l
 have hordF:=hC.ord
 have hpre:∀i,ordL (x.length:Int) 0 (je x (l.take i)):=fun i=>by
  have e:je x l=je x (l.take i)++je x (l.drop i):=by
   unfold je
   rw[← List.flatMap_append,List.take_append_drop]
  rw[e,ordL_app]at hordF
  exact hordF.1
 obtain⟨o,h1,h2⟩:=f0 (f:=fun s:Int × Int × List ApiSegment=>ref28_Split_l3 l x s.1 s.2.1 s.2.2) (fun s=>∃i:Nat,i<=l.length/\s=(jd 0 (je x (l.take i)),(i:Int),segL x 0 (je x (l.take i)))) (fun o=>o=(jd 0 (je x l),segL x 0 (je x l))) (fun s=>l.length - s.2.1.toNat) (by
  rintro _ ⟨i,hi,rfl⟩
  unfold ref28_Split_l3
  by_cases hlt:i<l.length
  ·left
   have hcf:=hC.at i hlt
   have hlo:=(nz _ _ (hpre i)).1
   have hlenE:=endsF_take_len x l i
   have hnm:=nsize_mem (List.getElem_mem hlt)
   have hkl:=ev l[i].Kids
   have hns:=nsize_eq l[i]
   have htake:=endsF_take x l i hlt
   generalize hE:je x (l.take i)=E at hcf hlo hlenE htake
   generalize hCi:l[i]=C at hcf hnm hkl hns htake
   obtain⟨op,rf,ord,tx,kx⟩:=hcf
   generalize ho:opC x C=o at op rf ord htake
   unfold endsC at ord htake
   obtain⟨r1,r2,r3⟩:=ord
   rw[ordL_app]at r3
   obtain⟨r3,r4,r5,_⟩:=r3
   rw[if_pos (by simp[hlt])]
   simp only[pj hlt,Option.bind_some,hCi]
   rw[rf,Option.bind_some,n8 (by simp;omega),Option.bind_some,sub_cut hlo r1 r2,Option.bind_some,appS_small (by rw[segL_len];simp;omega),Option.bind_some]
   unfold ref28_Split_j8
   have e0:segL x 0 E++[(⟨C.Text++[123],(x.drop (jd 0 E).toNat).take (o - jd 0 E).toNat⟩:ApiSegment)]=segL x 0 (E++[(C.Text++[123],o)]):=by
    rw[segL_app]
    rfl
   rw[e0]
   obtain⟨o2,k1,k2⟩:=f0 (f:=fun s:Int × Int × List ApiSegment=>ref28_Split_l6 l (i:Int) x s.1 s.2.1 s.2.2) (fun s=>∃q:Nat,q<=C.Kids.length/\s=(jd 0 (E++[(C.Text++[123],o)]++(C.Kids.take q).map (fun k=>(idL C.Text k,k.To))),(q:Int),segL x 0 (E++[(C.Text++[123],o)]++(C.Kids.take q).map (fun k=>(idL C.Text k,k.To))))) (fun o2=>o2=(jd 0 (E++[(C.Text++[123],o)]++C.Kids.map (fun k=>(idL C.Text k,k.To))),segL x 0 (E++[(C.Text++[123],o)]++C.Kids.map (fun k=>(idL C.Text k,k.To))))) (fun s=>C.Kids.length - s.2.1.toNat) (by
    rintro _ ⟨q,hq,rfl⟩
    unfold ref28_Split_l6 ref28_Split_j7
    simp only[pj hlt,Option.bind_some,hCi]
    by_cases hlq:q<C.Kids.length
    ·left
     have hspl:C.Kids.map (fun k=>(idL C.Text k,k.To))=(C.Kids.take q).map (fun k=>(idL C.Text k,k.To))++((idL C.Text C.Kids[q],C.Kids[q].To)::(C.Kids.drop (q+1)).map (fun k=>(idL C.Text k,k.To))):=by
      conv=>lhs;rw[← List.take_append_drop q C.Kids,List.drop_eq_getElem_cons hlq,List.map_append,List.map_cons]
     have r3':=r3
     rw[hspl,ordL_app]at r3'
     obtain⟨u1,u2,u3,_⟩:=r3'
     have elast:jd 0 (E++[(C.Text++[123],o)]++(C.Kids.take q).map (fun k=>(idL C.Text k,k.To)))=jd o ((C.Kids.take q).map (fun k=>(idL C.Text k,k.To))):=by
      rw[k6,k6]
      rfl
     have ulo:=(nz _ _ u1).1
     have enext:E++[(C.Text++[123],o)]++(C.Kids.take (q+1)).map (fun k=>(idL C.Text k,k.To))=E++[(C.Text++[123],o)]++(C.Kids.take q).map (fun k=>(idL C.Text k,k.To))++[(idL C.Text C.Kids[q],C.Kids[q].To)]:=by
      rw[List.take_add_one,List.getElem?_eq_getElem hlq,Option.toList_some,List.map_append,← List.append_assoc]
      rfl
     rw[if_pos (by simp[hlq])]
     simp only[pj hlq,Option.bind_some]
     have hkt:=kx _ (List.getElem_mem hlq)
     rw[ref_id (by omega) (by omega),Option.bind_some,sub_cut (by rw[elast];omega) (by rw[elast];exact u2) u3,Option.bind_some,appS_small (by rw[segL_len];simp;omega),Option.bind_some]
     refine⟨_,rfl,⟨q+1,by omega,?_⟩,?_⟩
     ·rw[enext,lastL_snoc,segL_snoc,bd (by omega)]
     ·simp only
      rw[bd (by omega)]
      omega
    ·right
     rw[if_neg (by simp;omega)]
     refine⟨_,rfl,?_⟩
     rw[List.take_of_length_le (by omega)]) (o,0,segL x 0 (E++[(C.Text++[123],o)])) ⟨0,by omega,by
      simp only[List.take_zero,List.map_nil,List.append_nil]
      rw[k6]
      rfl⟩
   rw[k1]
   subst k2
   simp only[Option.bind_some]
   unfold ref28_Split_k5 ref28_Split_j4
   have elast:jd 0 (E++[(C.Text++[123],o)]++C.Kids.map (fun k=>(idL C.Text k,k.To)))=jd o (C.Kids.map (fun k=>(idL C.Text k,k.To))):=by
    rw[k6,k6]
    rfl
   have ulo:=(nz _ _ r3).1
   simp only[pj hlt,Option.bind_some,hCi]
   rw[n8 (by simp;omega),Option.bind_some,sub_cut (by rw[elast];omega) (by rw[elast];exact r4) r5,Option.bind_some,appS_small (by rw[segL_len];simp;omega),Option.bind_some]
   have enext:je x (l.take (i+1))=E++[(C.Text++[123],o)]++C.Kids.map (fun k=>(idL C.Text k,k.To))++[(C.Text++[125],C.To)]:=by
    rw[htake]
    simp
   refine⟨_,rfl,⟨i+1,by omega,?_⟩,?_⟩
   ·rw[enext,lastL_snoc,segL_snoc,bd (by omega)]
   ·simp only
    rw[bd (by omega)]
    omega
  ·right
   rw[if_neg (by simp;omega)]
   refine⟨_,rfl,?_⟩
   rw[List.take_of_length_le (by omega)]) (0,0,[]) ⟨0,by omega,rfl⟩
 rw[h1,h2]
theorem Split_eq {x:List UInt8} (hx:x.length<=50000):∃S m,ml x=some (S,m)/\ref28_Split x=some (S,m)/\((m.Code≠0/\S=[]/\l0 x=some ([],m))\/(m=⟨0,0,0⟩/\∃l,l0 x=some (l,⟨0,0,0⟩)/\S=segL x 0 (je x l++[([36],(x.length:Int))])/\CFs x 0 l/\d8 l<=60000)):=by
 obtain⟨l,m,hF,_,_,_,hc⟩:=File_one hx
 unfold ml ref28_Split
 rw[File_ref hx,hF,Option.bind_some,Option.bind_some]
 simp only
 by_cases h0:m.Code=0
 ·obtain⟨T,hr,hg,hcl,hm⟩:=File_shape hx hF h0
  subst hm
  have hT:=tokP_of hx hr
  have hsz:d8 l<=T.length - 1 - 0:=hg.sz
  have hlen:=hT.len
  have hC:=cl_cfs hx hr hcl hT.pos (aT_nat hT hT.pos).1
  have hC:CFs x 0 l:=hC
  have hs:d8 l<=60000:=by omega
  rw[if_neg (by simp),if_neg (by simp),ends_run hC hs,ref_run hC hs,Option.bind_some,Option.bind_some]
  simp only
  unfold pw ref28_Split_k2 sgm
  have hordF:=hC.ord
  have hlF:=endsF_len x l
  have hlo:=nz _ _ hordF
  have hle:jd 0 (je x l)<=(x.length:Int):=by
   by_cases h:je x l=[]
   ·rw[h];simp[jd]
   ·exact hlo.2 h
  rw[sub_cut hlo.1 hle (Int.le_refl _),Option.bind_some,appS_small (by rw[segL_len];simp;omega),Option.bind_some]
  refine⟨_,_,rfl,?_,.inr ⟨rfl,l,rfl,rfl,hC,hs⟩⟩
  rw[segL_app]
  rfl
 ·have hl:l=[]:=by
   rcases hc with⟨_,h⟩|⟨h,_⟩
   ·exact h
   ·exact absurd h h0
  subst hl
  rw[if_pos (by simpa using h0),if_pos (by simpa using h0)]
  exact⟨[],m,rfl,rfl,.inl ⟨h0,rfl,rfl⟩⟩
end Go.Proofs.YteablckbgpogiaaGreatDoor
set_option linter.unusedSectionVars false
set_option linter.unusedVariables false
set_option linter.unusedSimpArgs false
set_option maxHeartbeats 4000000
set_option maxRecDepth 100000
namespace Go.Proofs.YteablckbgpogiaaGreatDoor
open Go Go.Cn
theorem awake28 :law28_awake=some true:=by decide+kernel
theorem bcat_small {a b:List UInt8} (h:a.length+b.length<=1000000):bcat a b=some (a++b):=by
 unfold bcat
 rw[if_pos (by omega)]
def joinS (l:List ApiSegment):List UInt8:=l.flatMap (fun s=>s.Text)
theorem joinS_take (l:List ApiSegment) (i:Nat) (h:i<l.length):joinS (l.take (i+1))=joinS (l.take i)++l[i].Text:=by
 unfold joinS
 rw[List.take_add_one,List.getElem?_eq_getElem h,Option.toList_some,List.flatMap_append]
 simp
theorem joinS_take_le (l:List ApiSegment) (i:Nat):(joinS (l.take i)).length<=(joinS l).length:=by
 have:joinS l=joinS (l.take i)++joinS (l.drop i):=by
  unfold joinS
  rw[← List.flatMap_append,List.take_append_drop]
 rw[this,List.length_append]
 omega
theorem Join_eq {l:List ApiSegment} (hl:l.length<=1000000) (h:(joinS l).length<=400000):qh l=some (joinS l)/\ref28_Join l=some (joinS l):=by
 constructor
 ·unfold qh segment_Join_k1
  obtain⟨o,h1,h2⟩:=f0 (f:=fun s:Int × List UInt8=>l6 l s.1 s.2) (fun s=>∃i:Nat,i<=l.length/\s=((i:Int),joinS (l.take i))) (fun o=>o=joinS l) (fun s=>l.length - s.1.toNat) (by
   rintro _ ⟨i,hi,rfl⟩
   unfold l6
   by_cases hlt:i<l.length
   ·left
    have h3:=joinS_take_le l (i+1)
    rw[joinS_take l i hlt,List.length_append]at h3
    rw[if_pos (by simp[hlt])]
    simp only[pj hlt,Option.bind_some]
    rw[bcat_small (by omega),Option.bind_some,bd (by omega)]
    exact⟨_,rfl,⟨i+1,by omega,by rw[joinS_take l i hlt]⟩,by simp only;omega⟩
   ·right
    rw[if_neg (by simp;omega)]
    refine⟨_,rfl,?_⟩
    rw[List.take_of_length_le (by omega)]) (0,[]) ⟨0,by omega,rfl⟩
  rw[h1,h2]
  rfl
 ·unfold ref28_Join ref28_Join_k1
  obtain⟨o,h1,h2⟩:=f0 (f:=fun s:List UInt8 × Int=>ref28_Join_l2 l s.1 s.2) (fun s=>∃i:Nat,i<=l.length/\s=(joinS (l.take i),(i:Int))) (fun o=>o=joinS l) (fun s=>l.length - s.2.toNat) (by
   rintro _ ⟨i,hi,rfl⟩
   unfold ref28_Join_l2
   by_cases hlt:i<l.length
   ·left
    have h3:=joinS_take_le l (i+1)
    rw[joinS_take l i hlt,List.length_append]at h3
    rw[if_pos (by simp[hlt])]
    simp only[pj hlt,Option.bind_some]
    rw[n8 (by omega),Option.bind_some,bd (by omega)]
    exact⟨_,rfl,⟨i+1,by omega,by rw[joinS_take l i hlt]⟩,by simp only;omega⟩
   ·right
    rw[if_neg (by simp;omega)]
    refine⟨_,rfl,?_⟩
    rw[List.take_of_length_le (by omega)]) ([],0) ⟨0,by omega,rfl⟩
  rw[h1,h2]
  rfl
theorem join_segL (x:List UInt8):∀(E:List (List UInt8 × Int)) (a:Int),0<=a->ordL (x.length:Int) a E->joinS (segL x a E)=(x.drop a.toNat).take (jd a E - a).toNat
 | [],a,_,_=>by simp[joinS,segL,jd]
 |(k,b)::E,a,h0,⟨h1,h2,h3⟩=>by
  have ih:=join_segL x E b (by omega) h3
  have h4:=(nz E b h3).1
  unfold joinS at ih ⊢
  simp only[segL,List.flatMap_cons,jd]
  rw[ih]
  obtain⟨i,rfl⟩:∃i:Nat,a=(i:Int):=⟨a.toNat,by omega⟩
  obtain⟨j,rfl⟩:∃j:Nat,b=(j:Int):=⟨b.toNat,by omega⟩
  obtain⟨m,hm⟩:∃m:Nat,jd (j:Int) E=(m:Int):=⟨(jd (j:Int) E).toNat,by omega⟩
  rw[hm]at h4 ⊢
  have e1:((j:Int) - (i:Int)).toNat=j - i:=by omega
  have e2:((m:Int) - (j:Int)).toNat=m - j:=by omega
  have e3:((m:Int) - (i:Int)).toNat=m - i:=by omega
  rw[e1,e2,e3]
  simp only[Int.toNat_natCast]
  have e4:x.drop j=(x.drop i).drop (j - i):=by rw[List.drop_drop];congr 1;omega
  rw[e4,show m - i=(j - i)+(m - j)by omega,List.take_add]
theorem seg_facts {x:List UInt8} {l:List ApiNode} (hC:CFs x 0 l):joinS (segL x 0 (je x l++[([36],(x.length:Int))]))=x:=by
 have hordF:=hC.ord
 have hlo:=nz _ _ hordF
 have hle:jd 0 (je x l)<=(x.length:Int):=by
  by_cases h:je x l=[]
  ·rw[h];simp[jd]
  ·exact hlo.2 h
 rw[join_segL x _ 0 (Int.le_refl _) (by rw[ordL_app];exact⟨hordF,hle,Int.le_refl _,trivial⟩),lastL_snoc]
 simp
theorem many_eq {l:List ApiNode} (hs:d8 l<=60000) (x:List UInt8):iter (fun s:Int × Int=>gl l s.1 s.2) (1,0)=some (((je x l).length+1:Nat):Int):=by
 have hln:=ev l
 have hend:=endsF_len x l
 obtain⟨o,h1,h2⟩:=f0 (f:=fun s:Int × Int=>gl l s.1 s.2) (fun s=>∃i:Nat,i<=l.length/\s=((((je x (l.take i)).length+1:Nat):Int),(i:Int))) (fun o=>o=(((je x l).length+1:Nat):Int)) (fun s=>l.length - s.2.toNat) (by
  rintro _ ⟨i,hi,rfl⟩
  unfold gl
  by_cases hlt:i<l.length
  ·left
   have h3:=endsF_take_len x l i
   have hkl:=ev l[i].Kids
   have hns:=nsize_eq l[i]
   have hnm:=nsize_mem (List.getElem_mem hlt)
   have h4:(endsC (opC x l[i]) l[i]).length=l[i].Kids.length+2:=by simp[endsC]
   rw[if_pos (by simp[hlt])]
   simp only[pj hlt,Option.bind_some]
   rw[ie (n:=2+(l[i].Kids.length:Int)) (by omega) (by omega),ie (by omega) (by omega),bd (by omega)]
   refine⟨_,rfl,⟨i+1,by omega,?_⟩,by simp only;omega⟩
   rw[endsF_take x l i hlt,List.length_append,h4]
   congr 1
   omega
  ·right
   rw[if_neg (by simp;omega)]
   refine⟨_,rfl,?_⟩
   rw[List.take_of_length_le (by omega)]) (1,0) ⟨0,by omega,rfl⟩
 rw[h1,h2]
theorem law_SegmentBack (x:List UInt8):pc x=some true:=by
 unfold pc
 rw[awake28,Option.bind_some,if_neg (by simp)]
 by_cases hx:x.length<=2500
 ·rw[if_neg (by simp;omega)]
  obtain⟨S,m,hS,_,hc⟩:=Split_eq (x:=x) (by omega)
  rw[hS,Option.bind_some]
  simp only
  rcases hc with⟨h0,rfl,hF⟩|⟨rfl,l,hF,rfl,hC,hs⟩
  ·rw[File_ref (by omega),hF,Option.bind_some]
   simp only
   rw[if_pos (by simpa using h0),if_pos (by simp)]
   rfl
  ·rw[File_ref (by omega),hF,Option.bind_some]
   simp only
   rw[if_neg (by simp),many_eq hs x,Option.bind_some]
   unfold lw gm
   have hend:=endsF_len x l
   have hj:=seg_facts hC
   have hlen:(segL x 0 (je x l++[([36],(x.length:Int))])).length=(je x l).length+1:=by rw[segL_len];simp
   rw[if_pos (by simp),(Join_eq (by rw[hlen];omega) (by rw[hj];omega)).1,Option.bind_some,hj,if_pos (by simp),if_pos (by rw[hlen];simp)]
   have hlast:idx (segL x 0 (je x l++[([36],(x.length:Int))])) (w64 (((segL x 0 (je x l++[([36],(x.length:Int))])).length:Int) - 1))=some ⟨[36],(x.drop (jd 0 (je x l)).toNat).take ((x.length:Int) - jd 0 (je x l)).toNat⟩:=by
    rw[hlen,ie (by omega) (by omega),show(((je x l).length+1:Nat):Int) - 1=(((je x l).length:Nat):Int)by omega,segL_snoc]
    have hl2:(segL x 0 (je x l)).length=(je x l).length:=segL_len x _ _
    rw[pj (by simp[hl2])]
    congr 1
    simp[List.getElem_append_right,hl2]
   rw[hlast,Option.bind_some]
   rfl
 ·rw[if_pos (by simp;omega)]
end Go.Proofs.YteablckbgpogiaaGreatDoor
