/- What takes a member, a class, a file, in both texts. -/
import Derived.Test.YtackaijkmkollaaGreatDoorZY4
set_option linter.unusedSimpArgs false
set_option linter.unusedVariables false
set_option linter.unusedSectionVars false
set_option linter.unusedSectionVars false
set_option linter.unusedVariables false
set_option linter.unusedSimpArgs false
set_option maxHeartbeats 4000000
namespace Go.Proofs.YtackaijkmkollaaGreatDoor
open Go Go.Cn
section
variable {D:Dt} (V:Two D)
include V
theorem params_ok {i:Nat} (hi:i<D.T.length):LS D i (fm (D.p i)) (fm (D.p' i)):=by
 unfold fm LS
 have P0:=pFin V (s:=0) (fun l j=>LG D.x D.T l i j) (LR D)
 refine sw_met V P0 hi (Nat.le_refl _) (fun _ hi1=> ?_) (fun _=> ?_)
 ·exact ii (fun _=>sw_ok hi1 (by omega) (LG.widen V.t (LG.nil D.x D.T i) (Nat.le_refl _) (by omega) (by omega)) (fun _=>LR.nil)) (fun h=>by cases h)
 refine ii (fun h=>by cases h) (fun _=> ?_)
 refine sw_iter V P0 (I:=fun l j=>LG D.x D.T l i j) (J:=LR D) hi (LG.nil D.x D.T i) (fun _=>LR.nil) (by omega) (fun j l l' _ hj hl hr=> ?_)
 have P:=pFinS V (s:=0) (fun l j=>LG D.x D.T l i j) (LR D) P0 j
 have h1:=hl.le
 unfold fh ia dn ei i2 i3
 refine sw_value V P hj (Nat.le_refl _) (fun hj1 ty' hty=> ?_)
 refine sw_up V P (b':=j+1) ?_
 refine sw_name V P hj1 (Nat.le_refl _) (fun _ hj2 nm' hnm=> ?_)
 refine sw_up V P (b':=j+1+1) ?_
 refine gt V P (i:=j) (by omega) (Nat.le_of_lt hj2) (by omega) (fun z hz=> ?_)
 have hn:NG D.x D.T ⟨4,(D.tk (j+1)).Text,(D.tk j).Text,0,aT D.T j,eT D.T (j+1+1),(D.tk (j+1)).At,(D.tk j).At,[]⟩ j (j+1+1):=je V.t (LG.nil D.x D.T j) (Nat.le_refl _) (by omega) (by omega) (Nat.le_of_lt hj2) (by simp only[cl];omega) (At2.yes hj1 (by omega) (by omega)) (At2.yes hj (by omega) (by omega))
 have hl2:=LG.snoc V.t hl hn (Nat.le_refl _) (Nat.le_of_lt hj2)
 have h3:=hl2.sz
 have h4:=eg (l++[(⟨4,(D.tk (j+1)).Text,(D.tk j).Text,0,aT D.T j,eT D.T (j+1+1),(D.tk (j+1)).At,(D.tk j).At,[]⟩:ApiNode)])
 have hlen:=V.t.len
 refine sw_app V P (j+1+1) hj2 (Nat.le_refl _) (by simp only[List.length_append,List.length_cons,List.length_nil]at h4 ⊢;omega) (fun hkn=>⟨(hr (by omega)).len,rfl⟩) ?_
 have hrel:j+1+1<D.N->LR D (l++[(⟨4,(D.tk (j+1)).Text,(D.tk j).Text,0,aT D.T j,eT D.T (j+1+1),(D.tk (j+1)).At,(D.tk j).At,[]⟩:ApiNode)]) (l'++[({({z with Text:=nm'.Text,At:=nm'.At}:ApiNode)with Type_:=ty'.Text,TypeAt:=ty'.At}:ApiNode)]):=fun h=>by
  refine LR.append (hr (by omega)) (LR.one ?_)
  rw[hz (by omega)]
  dsimp only
  rw[(hnm (by omega)).2.1,(hty (by omega)).2.1]
  exact ja (by omega) (by omega) LR.nil (hnm.o (by omega)) (hty.o (by omega))
 refine sw_met V P hj2 (Nat.le_refl _) (fun _ hk1=> ?_) (fun _=> ?_)
 ·refine ii (fun _=> ?_) (fun h=>by cases h)
  exact sw_inr_ok hk1 (by omega) (LG.widen V.t hl2 (Nat.le_refl _) (by omega) (by omega)) (fun h=>hrel (by omega))
 ·refine ii (fun h=>by cases h) (fun _=> ?_)
  refine i9 V P hj2 (Nat.le_refl _) (fun _ hk1=> ?_)
  exact sw_inl hk1 (by omega) (by omega) (LG.widen V.t hl2 (Nat.le_refl _) (by omega) (by omega)) (fun h=>hrel (by omega))
theorem member_end {i q i0:Nat} {st:Bool} {kd:Int} {kids:List ApiNode} {z':ApiNode} {ty' nm':ApiToken} (hq:q<D.T.length) (h0:i<=i0) (hiq:i0+2<q+0) (hl:LG D.x D.T kids (i0+2) q) (hs:cl kids+1<=q - i) (hz:q<D.N+1->∃kids',z'=⟨kd,[],[],0,aT D.T' (i+D.k),eT D.T' (q+D.k), -1, -1,kids'⟩/\LR D kids kids') (hty:TR D i0 ty') (hnm:TR D (i0+1) nm'):SW (Fin' D 1 (fun n j=>NG D.x D.T n i j) (NR D)) q (cy st (D.tk (i0+1)) (D.tk i0) (D.p q) ⟨kd,[],[],0,aT D.T i,eT D.T q, -1, -1,kids⟩) (cy st nm' ty' (D.p' q) z'):=by
 unfold cy fi ic dn ei i2 i3
 refine ii (fun _=> ?_) (fun _=> ?_)
 all_goals
  refine sw_ok hq (Nat.le_refl _) (je V.t hl (by omega) (Nat.le_refl _) (by omega) (Nat.le_of_lt hq) hs (At2.yes (by omega) (by omega) (by omega)) (At2.yes (by omega) (by omega) (by omega))) (fun h=> ?_)
  obtain⟨kids',rfl,hk⟩:=hz h
  dsimp only
  rw[(hnm (by omega)).2.1,(hty (by omega)).2.1]
  exact ja (by omega) (by omega) hk (hnm.o (by omega)) (hty.o (by omega))
theorem member_j4_ok {i i0:Nat} {st:Bool} (h0:i<=i0) (hi:i0<D.T.length) (hty:isTy (D.tk i0)=true):SW (Fin' D 1 (fun n j=>NG D.x D.T n i j) (NR D)) (i0+1) (bt (D.p i) st (D.p i0)) (bt (D.p' i) st (D.p' i0)):=by
 have P0:=pFin V (s:=1) (fun n j=>NG D.x D.T n i j) (NR D)
 have hlen:=V.t.len
 have hi1:i0+1<D.T.length:=isTy_lt V.t hi (by rw[tk_eq V hi];exact hty)
 unfold bt
 refine sw_step V P0 hi (Nat.le_refl _) (fun ty' hty'=> ?_)
 refine sw_up V P0 (b':=i0+1+1) ?_
 refine sw_name V P0 hi1 (Nat.le_refl _) (fun _ hi2 nm' hnm=> ?_)
 refine sw_up V P0 (b':=i0+1+1+1) ?_
 refine sw_met V P0 hi2 (Nat.le_refl _) (fun _ hi3=>ii (fun _=> ?_) (fun h=>by cases h)) (fun _=>ii (fun h=>by cases h) (fun _=> ?_))
 ·refine ff V P0 (fun k=>k+1) (params_ok V hi3) (fun k hk=>⟨by omega,by omega,Nat.zero_le _⟩) (fun k l l' hk hbk hl hlr=> ?_)
  refine ff V P0 (fun k=>k) (block_ok V (d:=1) (by omega) hk) (fun k hk=>⟨by omega,by omega,by omega⟩) (fun q n n' hq hbq hn hnr=> ?_)
  have h1:=hn.lt
  have h3:ie n<=q - k:=hn.sz
  have h4:=hl.sz
  have h5:=eg l
  have hl2:=LG.snoc V.t hl hn (Nat.le_refl _) (Nat.le_of_lt hq)
  have h6:=hl2.sz
  refine sw_app V P0 (q - 1) (by omega) (by omega) (by simp;omega) (fun h=>⟨(hlr (by omega)).len,rfl⟩) ?_
  refine gt V P0 (i:=i) (by omega) (Nat.le_of_lt hq) (by omega) (fun z hz=> ?_)
  exact member_end V hq h0 (by omega) (LG.widen V.t hl2 (by omega) (Nat.le_refl _) (Nat.le_of_lt hq)) (by omega) (fun h=>⟨_,hz (by omega),LR.append (hlr (by omega)) (LR.one (hnr h))⟩) hty' hnm
 ·refine sw_eq V P0 i0 _ hi (by omega) (marks_eq _ _) (fun h=>by rw[marks_eq,isB_ag V hty' _ h]) ?_
  refine ii (fun _=>sw_fail V P0 (.inl rfl) hi2) (fun _=> ?_)
  refine i9 V P0 hi2 (by omega) (fun _ hi3=> ?_)
  refine gt V P0 (i:=i) (by omega) (Nat.le_of_lt hi3) (by omega) (fun z hz=> ?_)
  exact member_end V hi3 h0 (by omega) (LG.widen V.t (LG.nil D.x D.T (i0+2)) (Nat.le_refl _) (by omega) (Nat.le_of_lt hi3)) (by simp only[cl];omega) (fun h=>⟨_,hz (by omega),LR.nil⟩) hty' hnm
theorem member_ok {i:Nat} (hi:i<D.T.length):XB D i (bq (D.p i)) (bq (D.p' i)):=by
 have P0:=pFin V (s:=1) (fun n j=>NG D.x D.T n i j) (NR D)
 have hgo:∀{i0:Nat} {st:Bool},i<=i0->i0<D.T.length->SW (Fin' D 1 (fun n j=>NG D.x D.T n i j) (NR D)) (i0+1) ((bb (D.p i0)).bind fun x6=>(io x6).bind fun x7=>(if(!x7)=true then(bm (bn 120 (D.p i0)) (fun m10=>some (.bad m10)) fun x9=>bt (D.p i) st x9)else bt (D.p i) st (D.p i0))) ((bb (D.p' i0)).bind fun x6=>(io x6).bind fun x7=>(if(!x7)=true then(bm (bn 120 (D.p' i0)) (fun m10=>some (.bad m10)) fun x9=>bt (D.p' i) st x9)else bt (D.p' i) st (D.p' i0))):=fun {i0 st} h0 hi0=>by
  refine sw_now V P0 hi0 (Nat.le_refl _) (fun t' ht=> ?_)
  refine sw_eq V P0 i0 _ hi0 (Nat.le_refl _) (isType_eq _) (fun h=>by rw[isType_eq,isTy_ag V ht h]) ?_
  refine ii (fun _=>sw_fail V P0 (.inl rfl) hi0) (fun hc=> ?_)
  exact member_j4_ok V h0 hi0 (by simpa using hc)
 unfold bq XB
 refine sw_met V P0 hi (Nat.le_refl _) (fun _ hi1=> ?_) (fun _=> ?_)
 ·refine sw_up V P0 (b':=i+1+1) ?_
  exact hgo (by omega) hi1
 ·exact hgo (Nat.le_refl _) hi
def QC (D:Dt) (i:Nat) (n:ApiNode) (j:Nat):Prop:=NG D.x D.T n i j/\n.Kind=1
theorem class_ok {i:Nat} (hi:i<D.T.length):SW (Fin' D 1 (QC D i) (NR D)) (i+1) (ee (D.p i)) (ee (D.p' i)):=by
 have P0:=pFin V (s:=1) (QC D i) (NR D)
 have hlen:=V.t.len
 have hj5:∀{i0:Nat} {ab:Bool} {nm' su su':ApiToken},i+1<i0->i0<D.T.length->TR D (i+1) nm'->(ab=true->i+3<i0/\su=D.tk (i+3)/\TR D (i+3) su')->SW (Fin' D 1 (QC D i) (NR D)) (i0+1) (dc (D.p i) (D.tk (i+1)) ab (D.p i0) su) (dc (D.p' i) nm' ab (D.p' i0) su'):=fun {i0 ab nm' su su'} h0 hi0 hnm hsu=>by
  unfold dc
  refine i9 V P0 hi0 (Nat.le_refl _) (fun _ hi1=> ?_)
  refine sw_flow V (s:=1) (I:=fun l j=>LG D.x D.T l (i0+1) j) (J:=LR D) (by omega) ?_ (by omega) (fun j l l' hj hbj hl hr=> ?_) (fun _=>rfl) (fun _=>rfl)
  ·have P1:=pFinF V (s:=1) (fun l j=>LG D.x D.T l (i0+1) j) (LR D) (QC D i) (NR D)
   refine sw_iter V P1 (I:=fun l j=>LG D.x D.T l (i0+1) j) (J:=LR D) hi1 (LG.nil D.x D.T (i0+1)) (fun _=>LR.nil) (by omega) (fun j l l' hij hj hl hr=> ?_)
   have P:=pFinS V (s:=1) (fun l j=>LG D.x D.T l (i0+1) j) (LR D) P1 j
   unfold bx
   refine sw_met V P hj (Nat.le_refl _) (fun _ hj1=>ii (fun h=>by cases h) (fun _=> ?_)) (fun _=>ii (fun _=> ?_) (fun h=>by cases h))
   ·exact sw_next hj1 (Nat.le_refl _) (LG.widen V.t hl (Nat.le_refl _) (by omega) (Nat.le_of_lt hj1)) (fun h=>hr (by omega))
   ·refine ff V P (fun k=>k) (member_ok V hj) (fun k hk=>⟨by omega,by omega,by omega⟩) (fun k n n' hk hjk hn hnr=> ?_)
    have hl2:=LG.snoc V.t hl hn (Nat.le_refl _) (Nat.le_of_lt hk)
    have h3:=hl2.sz
    have h4:=eg (l++[n])
    refine sw_app V P (k - 1) (by omega) (by omega) (by simp at h4 ⊢;omega) (fun h=>⟨(hr (by omega)).len,rfl⟩) ?_
    exact sw_inl hk (by omega) (by omega) hl2 (fun h=>LR.append (hr (by omega)) (LR.one (hnr (by omega))))
  ·have h2:=hl.sz
   have hfin:∀{q:Nat} {ta ta':Int} {ty:List UInt8},At2 D.T i j ta ty->NG D.x D.T ⟨1,(D.tk (i+1)).Text,ty,0,aT D.T i,eT D.T j,(D.tk (i+1)).At,ta,l⟩ i j:=fun ht=>
    je V.t hl (by omega) (Nat.le_refl _) (by omega) (Nat.le_of_lt hj) (by omega) (At2.yes (by omega) (by omega) (by omega)) ht
   unfold fy f0 ev dn ei i2 i3
   refine gt V P0 (i:=i) (by omega) (Nat.le_of_lt hj) (by omega) (fun z hz=> ?_)
   refine ii (fun hab=> ?_) (fun hab=> ?_)
   ·obtain⟨s1,rfl,s2⟩:=hsu hab
    refine sw_ok hj (Nat.le_refl _) ⟨hfin (q:=0) (ta':=0) (At2.yes (by omega) (by omega) (by omega)),rfl⟩ (fun h=> ?_)
    rw[hz (by omega)]
    dsimp only
    rw[(hnm (by omega)).2.1,(s2 (by omega)).2.1]
    exact ja (by omega) (by omega) (hr h) (hnm.o (by omega)) (s2.o (by omega))
   ·refine sw_ok hj (Nat.le_refl _) ⟨hfin (q:=0) (ta':=0) .no,rfl⟩ (fun h=> ?_)
    rw[hz (by omega)]
    dsimp only
    rw[(hnm (by omega)).2.1]
    exact ja (by omega) (by omega) (hr h) (hnm.o (by omega)) oR_no
 unfold ee
 refine i9 V P0 hi (Nat.le_refl _) (fun _ hi1=> ?_)
 refine sw_up V P0 (b':=i+1+1) ?_
 refine sw_name V P0 hi1 (Nat.le_refl _) (fun _ hi2 nm' hnm=> ?_)
 refine sw_up V P0 (b':=i+1+1+1) ?_
 refine sw_met V P0 hi2 (Nat.le_refl _) (fun _ hi3=>ii (fun _=> ?_) (fun h=>by cases h)) (fun _=>ii (fun h=>by cases h) (fun _=> ?_))
 ·refine sw_up V P0 (b':=i+1+1+1+1) ?_
  refine sw_name V P0 hi3 (Nat.le_refl _) (fun _ hi4 su' hsu=> ?_)
  refine sw_up V P0 (b':=i+1+1+1+1+1) ?_
  exact hj5 (by omega) hi4 hnm (fun _=>⟨by omega,rfl,hsu⟩)
 ·exact hj5 (by omega) hi2 hnm (fun h=>by cases h)
end
end Go.Proofs.YtackaijkmkollaaGreatDoor
