/- What takes a statement, in both texts. -/
import Derived.Test.YtackaijkmkollaaGreatDoorZY3
set_option linter.unusedSimpArgs false
set_option linter.unusedVariables false
set_option linter.unusedSectionVars false
set_option linter.unusedSectionVars false
set_option linter.unusedVariables false
set_option linter.unusedSimpArgs false
set_option maxHeartbeats 4000000
namespace Go.Proofs.YtackaijkmkollaaGreatDoor
open Go Go.Cn
theorem ahead_lt {x:List UInt8} {T:List ApiToken} (hT:TokP x T) {i:Nat} (h:i+1<T.length):iq ⟨T,(i:Int)⟩ 1=some T[i+1]:=by
 have hl:=hT.len
 have e1:w64 ((T.length:Int) - 1)=((T.length - 1:Nat):Int):=by rw[i6 (by omega) (by omega)];omega
 unfold iq iz
 simp only[e1,ij (show i<=9000000000 by omega)]
 rw[if_neg (by omega),ix hT h,Option.bind_some]
def locB (t u:ApiToken):Bool:=isTy t&&(t.Kind != 1||u.Kind==1)
theorem isLocal_lt {x:List UInt8} {T:List ApiToken} (hT:TokP x T) {i:Nat} (h:i+1<T.length):cp ⟨T,(i:Int)⟩=some (locB (T.getD i cq) (T.getD (i+1) cq)):=by
 have e1:T.getD i cq=T[i]:=by simp[List.getD,show i<T.length by omega]
 have e2:T.getD (i+1) cq=T[i+1]:=by simp[List.getD,h]
 unfold cp dh locB
 rw[now_eq hT (by omega),Option.bind_some,isType_eq,Option.bind_some,ahead_lt hT h,e1,e2]
 cases isTy T[i]<;>cases T[i].Kind != 1<;>rfl
theorem isLocal_no {x:List UInt8} {T:List ApiToken} (hT:TokP x T) {i:Nat} (h:i<T.length) (hy:isTy (T.getD i cq)=false):cp ⟨T,(i:Int)⟩=some false:=by
 have e1:T.getD i cq=T[i]:=by simp[List.getD,h]
 unfold cp dh
 rw[e1]at hy
 rw[now_eq hT h,Option.bind_some,isType_eq,Option.bind_some,hy]
 rfl
section
variable {D:Dt} (V:Two D)
include V
theorem sw_to {s:Nat} {Ω:Type} {W:Nat->Ω->(Ω->Prop)->Prop} {bad:ParseWrong->Ω} (P:Pst D s W bad) {b i:Nat} {y y1 y2:Option Ω} (hi:i<D.T.length) (hb:i+s<=b) (he:i<D.N->y2=y1) (h:SW W b y y1):SW W b y y2:=by
 by_cases hn:i<D.N
 ·rw[he hn]
  exact h
 ·exact jy V P hi hn hb h
theorem sw_local {s:Nat} {Ω:Type} {W:Nat->Ω->(Ω->Prop)->Prop} {bad:ParseWrong->Ω} (P:Pst D s W bad) {b i:Nat} {F F':Bool->Option Ω} (hi:i<D.T.length) (hb:i+1+s<=b) (h:∀v,SW W b (F v) (F' v)):SW W b ((cp (D.p i)).bind F) ((cp (D.p' i)).bind F'):=by
 by_cases hlt:i+1<D.T.length
 ·refine sw_eq V P (i+1) _ hlt hb (isLocal_lt V.t hlt) (fun hn=> ?_) (h _)
  obtain⟨h1,k1,k2,_⟩:=ag_eq V (i:=i) (by omega)
  obtain⟨h2,l1,l2,_⟩:=ag_eq V (i:=i+1) hn
  have h3:i+D.k+1<D.T'.length:=by omega
  have e0:=isLocal_lt V.t' h3
  have a1:=V.ag i (by omega)
  have a2:=V.ag (i+1) hn
  rw[show i+1+D.k=i+D.k+1 by omega]at a2
  simp only[Dt.p']
  rw[e0]
  unfold locB
  rw[a1.1,a2.1]
  have e3:isTy (D.T'.getD (i+D.k) cq)=isTy (D.tk i):=isTy_ag V (i:=i) (fun _=>⟨a1.1,a1.2,rfl⟩) (by omega)
  rw[e3]
 ·have hk:D.T[i].Kind=5:=(V.t.last i hi).2 (by omega)
  have hy:isTy (D.tk i)=false:=by
   cases hc:isTy (D.tk i)
   ·rfl
   ·exact absurd (isTy_lt V.t hi (by rw[tk_eq V hi];exact hc)) hlt
  refine sw_eq V P i false hi (by omega) (isLocal_no V.t hi hy) (fun hn=> ?_) (h _)
  obtain⟨h1,_⟩:=ag_eq V hn
  have a1:=V.ag i hn
  refine isLocal_no V.t' h1 ?_
  rw[isTy_ag V (i:=i) (fun _=>⟨a1.1,a1.2,rfl⟩) hn]
  exact hy
theorem bracketed_ok {d i:Nat} (hd:d<=100) (hi:i<D.T.length):XS D i (cz (d:Int) (D.p i)) (cz (d:Int) (D.p' i)):=by
 unfold cz XS
 have P0:=pFin V (s:=0) (fun n j=>NG D.x D.T n i j) (NR D)
 refine i9 V P0 hi (by omega) (fun _ hi1=> ?_)
 refine ff V P0 (fun j=>j) (expression_ok V hd hi1) (fun j hj=>⟨by omega,Nat.le_refl _,Nat.zero_le _⟩) (fun j n n' hj hb hn hr=> ?_)
 refine i9 V P0 hj (Nat.le_refl _) (fun _ hj1=> ?_)
 exact sw_ok hj1 (by omega) (NG.widen V.t hn (by omega) (by omega) (Nat.le_of_lt hj1)) (fun h=>hr (by omega))
theorem local_ok {d i:Nat} (hd:d<=99) (hi:i<D.T.length):XS D i (fa (d:Int) (D.p i)) (fa (d:Int) (D.p' i)):=by
 unfold fa iw dn ei i2 i3 XS
 have P0:=pFin V (s:=0) (fun n j=>NG D.x D.T n i j) (NR D)
 refine sw_limit V P0 hi (fun _=> ?_)
 refine sw_value V P0 hi (by omega) (fun hi1 ty' hty=> ?_)
 refine sw_name V P0 hi1 (Nat.le_refl _) (fun _ hi2 nm' hnm=> ?_)
 refine sw_up V P0 (b':=i+1+1) ?_
 refine i9 V P0 hi2 (Nat.le_refl _) (fun _ hi3=> ?_)
 rw[ij (by omega)]
 refine ff V P0 (fun j=>j) (expression_ok V (d:=d+1) (by omega) hi3) (fun j hj=>⟨by omega,Nat.le_refl _,Nat.zero_le _⟩) (fun j n n' hj hb hn hr=> ?_)
 have h2:=hn.lt
 have h3:ie n<=j - (i+1+1+1):=hn.sz
 refine i9 V P0 hj (Nat.le_refl _) (fun _ hj1=> ?_)
 refine gt V P0 (i:=i) (by omega) (Nat.le_of_lt hj1) (by omega) (fun z hz=> ?_)
 refine sw_ok hj1 (by omega) (je V.t (LG.one V.t hn (Nat.le_of_lt hj)) (by omega) (by omega) (by omega) (Nat.le_of_lt hj1) (by simp only[cl];omega) (At2.yes hi1 (by omega) (by omega)) (At2.yes hi (by omega) (by omega))) (fun h=> ?_)
 rw[hz (by omega)]
 dsimp only
 rw[(hnm (by omega)).2.1,(hty (by omega)).2.1]
 exact ja (by omega) (by omega) (LR.one (hr (by omega))) (hnm.o (by omega)) (hty.o (by omega))
theorem back_ok {d i:Nat} (hd:d<=99) (hi:i<D.T.length):XS D i (gq (d:Int) (D.p i)) (gq (d:Int) (D.p' i)):=by
 unfold gq XS
 have P0:=pFin V (s:=0) (fun n j=>NG D.x D.T n i j) (NR D)
 refine i9 V P0 hi (by omega) (fun _ hi1=> ?_)
 refine sw_met V P0 hi1 (Nat.le_refl _) (fun _ hi2=>ii (fun _=> ?_) (fun h=>by cases h)) (fun _=>ii (fun h=>by cases h) (fun _=> ?_))
 ·refine gt V P0 (i:=i) (by omega) (Nat.le_of_lt hi2) (by omega) (fun z hz=> ?_)
  refine sw_ok hi2 (by omega) (je V.t (LG.nil D.x D.T i) (Nat.le_refl _) (by omega) (by omega) (Nat.le_of_lt hi2) (by simp only[cl];omega) .no .no) (fun h=> ?_)
  rw[hz (by omega)]
  exact ja (by omega) (by omega) LR.nil oR_no oR_no
 ·rw[ij (by omega)]
  refine ff V P0 (fun j=>j) (expression_ok V (d:=d+1) (by omega) hi1) (fun j hj=>⟨by omega,Nat.le_refl _,Nat.zero_le _⟩) (fun j n n' hj hb hn hr=> ?_)
  have h2:=hn.lt
  have h3:ie n<=j - (i+1):=hn.sz
  refine i9 V P0 hj (Nat.le_refl _) (fun _ hj1=> ?_)
  refine gt V P0 (i:=i) (by omega) (Nat.le_of_lt hj1) (by omega) (fun z hz=> ?_)
  refine sw_ok hj1 (by omega) (je V.t (LG.one V.t hn (Nat.le_of_lt hj)) (by omega) (by omega) (by omega) (Nat.le_of_lt hj1) (by simp only[cl];omega) .no .no) (fun h=> ?_)
  rw[hz (by omega)]
  exact ja (by omega) (by omega) (LR.one (hr (by omega))) oR_no oR_no
theorem show_ok {d i:Nat} (hd:d<=99) (hi:i<D.T.length):XS D i (gp (d:Int) (D.p i)) (gp (d:Int) (D.p' i)):=by
 unfold gp XS
 have P0:=pFin V (s:=0) (fun n j=>NG D.x D.T n i j) (NR D)
 refine i9 V P0 hi (by omega) (fun _ hi1=> ?_)
 rw[ij (by omega)]
 refine ff V P0 (fun j=>j) (bracketed_ok V (d:=d+1) (by omega) hi1) (fun j hj=>⟨by omega,Nat.le_refl _,Nat.zero_le _⟩) (fun j n n' hj hb hn hr=> ?_)
 have h2:=hn.lt
 have h3:ie n<=j - (i+1):=hn.sz
 refine i9 V P0 hj (Nat.le_refl _) (fun _ hj1=> ?_)
 refine gt V P0 (i:=i) (by omega) (Nat.le_of_lt hj1) (by omega) (fun z hz=> ?_)
 refine sw_ok hj1 (by omega) (je V.t (LG.one V.t hn (Nat.le_of_lt hj)) (by omega) (by omega) (by omega) (Nat.le_of_lt hj1) (by simp only[cl];omega) .no .no) (fun h=> ?_)
 rw[hz (by omega)]
 exact ja (by omega) (by omega) (LR.one (hr (by omega))) oR_no oR_no
theorem plain_ok {d i:Nat} (hd:d<=99) (hi:i<D.T.length):XS D i (f7 (d:Int) (D.p i)) (f7 (d:Int) (D.p' i)):=by
 unfold f7 fx XS
 have P0:=pFin V (s:=0) (fun n j=>NG D.x D.T n i j) (NR D)
 rw[ij (by omega)]
 have hend:∀{k:Int} {j:Nat} {l l':List ApiNode},j<D.T.length->i<j->LG D.x D.T l i j->cl l+1<=j+1 - i->(j<D.N->LR D l l')->SW (Fin' D 0 (fun n j=>NG D.x D.T n i j) (NR D)) j (bm (ay ([59]:List UInt8) (D.p j)) (fun m22=>some (PX.bad m22)) fun x20=>(parse_parser_made x20 k (i:Int) l).bind fun x21=>some (.ok (x21,x20))) (bm (ay ([59]:List UInt8) (D.p' j)) (fun m22=>some (PX.bad m22)) fun x20=>(parse_parser_made x20 k ((i+D.k:Nat):Int) l').bind fun x21=>some (.ok (x21,x20))):=fun {k j l l'} hj hij hl hs hr=>by
  refine i9 V P0 hj (Nat.le_refl _) (fun _ hj1=> ?_)
  refine gt V P0 (i:=i) (by omega) (Nat.le_of_lt hj1) (by omega) (fun z hz=> ?_)
  refine sw_ok hj1 (by omega) (je V.t hl (Nat.le_refl _) (by omega) (by omega) (Nat.le_of_lt hj1) hs .no .no) (fun h=> ?_)
  rw[hz (by omega)]
  exact ja (by omega) (by omega) (hr (by omega)) oR_no oR_no
 refine ff V P0 (fun j=>j) (expression_ok V (d:=d+1) (by omega) hi) (fun j hj=>⟨by omega,Nat.le_refl _,Nat.zero_le _⟩) (fun j n n' hj hb hn hr=> ?_)
 have h2:=hn.lt
 have h3:ie n<=j - i:=hn.sz
 refine sw_met V P0 hj (Nat.le_refl _) (fun _ hj1=>ii (fun _=> ?_) (fun h=>by cases h)) (fun _=>ii (fun h=>by cases h) (fun _=> ?_))
 ·refine ff V P0 (fun j=>j) (expression_ok V (d:=d+1) (by omega) hj1) (fun j hj=>⟨by omega,Nat.le_refl _,Nat.zero_le _⟩) (fun k m m' hk hbk hm hmr=> ?_)
  have h4:=hm.lt
  have h5:ie m<=k - (j+1):=hm.sz
  refine sw_app V P0 k hk (Nat.le_refl _) (by simp) (fun _=>⟨rfl,rfl⟩) ?_
  have hl2:=LG.snoc V.t (LG.one V.t hn (Nat.le_of_lt hj)) hm (by omega) (Nat.le_of_lt hk)
  exact hend hk (by omega) hl2 (by simp only[List.cons_append,List.nil_append,cl];omega) (fun h=>LR.two (hr (by omega)) (hmr (by omega)))
 ·exact hend hj (by omega) (LG.one V.t hn (Nat.le_of_lt hj)) (by simp only[cl];omega) (fun h=>LR.one (hr (by omega)))
end
def XB (D:Dt) (i:Nat) (y y':Option (PX ParseWrong (ApiNode × ParseParser))):Prop:=SW (Fin' D 1 (fun n j=>NG D.x D.T n i j) (NR D)) (i+1) y y'
def SpecS (D:Dt) (R:aw) (f:Nat):Prop:=
 (∀d i:Nat,d<=98->2 * (100 - d)<f->i<D.T.length->XB D i (R.1 (d:Int) (D.p i)) (R.1 (d:Int) (D.p' i)))/\
 (∀d i:Nat,d<=100->2 * (100 - d)+1<f->i<D.T.length->XS D i (R.2.1 (d:Int) (D.p i)) (R.2.1 (d:Int) (D.p' i)))/\
 (∀d i:Nat,d<=98->2 * (100 - d)<f->i<D.T.length->XS D i (R.2.2.1 (d:Int) (D.p i)) (R.2.2.1 (d:Int) (D.p' i)))/\
 (∀d i:Nat,d<=98->2 * (100 - d)<f->i<D.T.length->XS D i (R.2.2.2 (d:Int) (D.p i)) (R.2.2.2 (d:Int) (D.p' i)))
theorem stmt_tok {R:aw} {t t':ApiToken} (h1:t'.Kind=t.Kind) (h2:t'.Text=t.Text) (d:Int) (p:ParseParser) (m:SMap (Option Nat)):cu R t' d p m=cu R t d p m:=by
 unfold cu dk
 rw[h1,h2]
theorem begun_get {t:List UInt8}:mhas t (mset ([112,114,105,110,116]:List UInt8) (some 84) (mset ([114,101,116,117,114,110]:List UInt8) (some 83) (mset ([119,104,105,108,101]:List UInt8) (some 82) (mset ([105,102]:List UInt8) (some 81) (mset ([123]:List UInt8) (some 52) ([]:SMap (Option Nat)))))))=true->mget t none (mset ([112,114,105,110,116]:List UInt8) (some 84) (mset ([114,101,116,117,114,110]:List UInt8) (some 83) (mset ([119,104,105,108,101]:List UInt8) (some 82) (mset ([105,102]:List UInt8) (some 81) (mset ([123]:List UInt8) (some 52) ([]:SMap (Option Nat)))))))∈([some 52,some 81,some 82,some 83,some 84]:List (Option Nat)):=by
 have e:(mset ([112,114,105,110,116]:List UInt8) (some 84) (mset ([114,101,116,117,114,110]:List UInt8) (some 83) (mset ([119,104,105,108,101]:List UInt8) (some 82) (mset ([105,102]:List UInt8) (some 81) (mset ([123]:List UInt8) (some 52) ([]:SMap (Option Nat)))))))=[([123],some 52),([105,102],some 81),([119,104,105,108,101],some 82),([114,101,116,117,114,110],some 83),([112,114,105,110,116],some 84)]:=rfl
 rw[e]
 simp only[mhas,mget]
 intro h
 split
 ·simp
 split
 ·simp
 split
 ·simp
 split
 ·simp
 split
 ·simp
 ·simp_all
section
variable {D:Dt} (V:Two D)
include V
variable {R:aw} {f:Nat} (hR:SpecS D R f)
include hR
theorem block_step {d i:Nat} (hd:d<=98) (hf:2 * (100 - d)<f+1) (hi:i<D.T.length):XB D i (fc R (d:Int) (D.p i)) (fc R (d:Int) (D.p' i)):=by
 unfold fc iy XB
 have hlen:=V.t.len
 have P0:=pFin V (s:=1) (fun n j=>NG D.x D.T n i j) (NR D)
 refine i9 V P0 hi (Nat.le_refl _) (fun _ hi1=> ?_)
 refine sw_flow V (s:=1) (I:=fun l j=>LG D.x D.T l (i+1) j) (J:=LR D) (by omega) ?_ (by omega) (fun j l l' hj hbj hl hr=> ?_) (fun _=>rfl) (fun _=>rfl)
 ·have P1:=pFinF V (s:=1) (fun l j=>LG D.x D.T l (i+1) j) (LR D) (fun n j=>NG D.x D.T n i j) (NR D)
  refine sw_iter V P1 (I:=fun l j=>LG D.x D.T l (i+1) j) (J:=LR D) hi1 (LG.nil D.x D.T (i+1)) (fun _=>LR.nil) (by omega) (fun j l l' hij hj hl hr=> ?_)
  have P:=pFinS V (s:=1) (fun l j=>LG D.x D.T l (i+1) j) (LR D) P1 j
  unfold f1
  refine sw_met V P hj (Nat.le_refl _) (fun _ hj1=>ii (fun h=>by cases h) (fun _=> ?_)) (fun _=>ii (fun _=> ?_) (fun h=>by cases h))
  ·exact sw_next hj1 (Nat.le_refl _) (LG.widen V.t hl (Nat.le_refl _) (by omega) (Nat.le_of_lt hj1)) (fun h=>hr (by omega))
  ·refine sw_up V P (b':=j+2) ?_
   refine sw_local V P hj (Nat.le_refl _) (fun v=> ?_)
   have hgo:∀{k:Nat} {n n':ApiNode},k<D.T.length->j+1<=k->NG D.x D.T n j k->(k<D.N+0->NR D n n')->SW (FinS D 1 (fun l j=>LG D.x D.T l (i+1) j) (LR D) (FinF D 1 (fun l j=>LG D.x D.T l (i+1) j) (LR D) (fun n j=>NG D.x D.T n i j) (NR D)) j) (k+1) ((app 104 l [n]).bind fun x19=>some (.inl (D.p k,x19))) ((app 104 l' [n']).bind fun x19=>some (.inl (D.p' k,x19))):=fun {k n n'} hk hjk hn hnr=>by
    have hl2:=LG.snoc V.t hl hn (Nat.le_refl _) (Nat.le_of_lt hk)
    have h3:=hl2.sz
    have h4:=eg (l++[n])
    refine sw_app V P k hk (Nat.le_refl _) (by simp at h4 ⊢;omega) (fun h=>⟨(hr (by omega)).len,rfl⟩) ?_
    exact sw_inl hk (by omega) (Nat.le_refl _) hl2 (fun h=>LR.append (hr (by omega)) (LR.one (hnr (by omega))))
   rw[ij (by omega)]
   refine ii (fun _=> ?_) (fun _=> ?_)
   ·exact ff V P (fun k=>k+1) (local_ok V (d:=d+1) (by omega) hj) (fun k hk=>⟨by omega,by omega,Nat.zero_le _⟩) (fun k n n' hk hjk hn hnr=>hgo hk hjk hn hnr)
   ·exact ff V P (fun k=>k+1) (hR.2.1 (d+1) j (by omega) (by omega) hj) (fun k hk=>⟨by omega,by omega,Nat.zero_le _⟩) (fun k n n' hk hjk hn hnr=>hgo hk hjk hn hnr)
 ·have h2:=hl.sz
  refine gt V P0 (i:=i) (by omega) (Nat.le_of_lt hj) (by omega) (fun z hz=> ?_)
  refine sw_ok hj (Nat.le_refl _) (je V.t hl (by omega) (Nat.le_refl _) (by omega) (Nat.le_of_lt hj) (by omega) .no .no) (fun h=> ?_)
  rw[hz (by omega)]
  exact ja (by omega) (by omega) (hr h) oR_no oR_no
theorem branch_step {d i:Nat} (hd:d<=98) (hf:2 * (100 - d)<f+1) (hi:i<D.T.length):XS D i (ew R (d:Int) (D.p i)) (ew R (d:Int) (D.p' i)):=by
 unfold ew fj XS
 have P0:=pFin V (s:=0) (fun n j=>NG D.x D.T n i j) (NR D)
 refine i9 V P0 hi (by omega) (fun _ hi1=> ?_)
 rw[ij (by omega)]
 refine ff V P0 (fun j=>j) (bracketed_ok V (d:=d+1) (by omega) hi1) (fun j hj=>⟨by omega,Nat.le_refl _,Nat.zero_le _⟩) (fun j n n' hj hb hn hr=> ?_)
 refine ff V P0 (fun j=>j) (hR.2.1 (d+1) j (by omega) (by omega) hj) (fun j hj=>⟨by omega,Nat.le_refl _,Nat.zero_le _⟩) (fun k m m' hk hbk hm hmr=> ?_)
 have h1:=hn.lt
 have h2:=hm.lt
 have h3:ie n<=j - (i+1):=hn.sz
 have h4:ie m<=k - j:=hm.sz
 have hl2:=LG.snoc V.t (LG.one V.t hn (Nat.le_of_lt hj)) hm (Nat.le_refl _) (Nat.le_of_lt hk)
 refine sw_app V P0 k hk (Nat.le_refl _) (by simp) (fun _=>⟨rfl,rfl⟩) ?_
 refine sw_met V P0 hk (Nat.le_refl _) (fun _ hk1=>ii (fun _=> ?_) (fun h=>by cases h)) (fun _=>ii (fun h=>by cases h) (fun _=> ?_))
 ·refine ff V P0 (fun j=>j) (hR.2.1 (d+1) (k+1) (by omega) (by omega) hk1) (fun j hj=>⟨by omega,Nat.le_refl _,Nat.zero_le _⟩) (fun q u u' hq hbq hu hur=> ?_)
  have h5:=hu.lt
  have h6:ie u<=q - (k+1):=hu.sz
  have hl3:=LG.snoc V.t hl2 hu (by omega) (Nat.le_of_lt hq)
  refine sw_app V P0 q hq (Nat.le_refl _) (by simp) (fun _=>⟨rfl,rfl⟩) ?_
  refine gt V P0 (i:=i) (by omega) (Nat.le_of_lt hq) (by omega) (fun z hz=> ?_)
  refine sw_ok hq (Nat.le_refl _) (je V.t hl3 (by omega) (Nat.le_refl _) (by omega) (Nat.le_of_lt hq) (by simp only[List.cons_append,List.nil_append,cl];omega) .no .no) (fun h=> ?_)
  rw[hz (by omega)]
  exact ja (by omega) (by omega) (LR.append (LR.two (hr (by omega)) (hmr (by omega))) (LR.one (hur (by omega)))) oR_no oR_no
 ·refine gt V P0 (i:=i) (by omega) (Nat.le_of_lt hk) (by omega) (fun z hz=> ?_)
  refine sw_ok hk (Nat.le_refl _) (je V.t hl2 (by omega) (Nat.le_refl _) (by omega) (Nat.le_of_lt hk) (by simp only[List.cons_append,List.nil_append,cl];omega) .no .no) (fun h=> ?_)
  rw[hz (by omega)]
  exact ja (by omega) (by omega) (LR.two (hr (by omega)) (hmr (by omega))) oR_no oR_no
theorem loop_step {d i:Nat} (hd:d<=98) (hf:2 * (100 - d)<f+1) (hi:i<D.T.length):XS D i (fq R (d:Int) (D.p i)) (fq R (d:Int) (D.p' i)):=by
 unfold fq XS
 have P0:=pFin V (s:=0) (fun n j=>NG D.x D.T n i j) (NR D)
 refine i9 V P0 hi (by omega) (fun _ hi1=> ?_)
 rw[ij (by omega)]
 refine ff V P0 (fun j=>j) (bracketed_ok V (d:=d+1) (by omega) hi1) (fun j hj=>⟨by omega,Nat.le_refl _,Nat.zero_le _⟩) (fun j n n' hj hb hn hr=> ?_)
 refine ff V P0 (fun j=>j) (hR.2.1 (d+1) j (by omega) (by omega) hj) (fun j hj=>⟨by omega,Nat.le_refl _,Nat.zero_le _⟩) (fun k m m' hk hbk hm hmr=> ?_)
 have h1:=hn.lt
 have h2:=hm.lt
 have h3:ie n<=j - (i+1):=hn.sz
 have h4:ie m<=k - j:=hm.sz
 have hl2:=LG.snoc V.t (LG.one V.t hn (Nat.le_of_lt hj)) hm (Nat.le_refl _) (Nat.le_of_lt hk)
 refine gt V P0 (i:=i) (by omega) (Nat.le_of_lt hk) (by omega) (fun z hz=> ?_)
 refine sw_ok hk (Nat.le_refl _) (je V.t hl2 (by omega) (Nat.le_refl _) (by omega) (Nat.le_of_lt hk) (by simp only[List.cons_append,List.nil_append,cl];omega) .no .no) (fun h=> ?_)
 rw[hz (by omega)]
 exact ja (by omega) (by omega) (LR.two (hr (by omega)) (hmr (by omega))) oR_no oR_no
theorem statement_step {d i:Nat} (hd:d<=100) (hf:2 * (100 - d)+1<f+1) (hi:i<D.T.length):XS D i (dq R (d:Int) (D.p i)) (dq R (d:Int) (D.p' i)):=by
 unfold dq XS
 have P0:=pFin V (s:=0) (fun n j=>NG D.x D.T n i j) (NR D)
 refine sw_limit V P0 hi (fun hd60=> ?_)
 have hd60:d<=60:=by omega
 refine sw_now V P0 hi (by omega) (fun t' ht=> ?_)
 refine sw_eq V P0 i _ hi (by omega) rfl (fun _=>rfl) ?_
 refine sw_to V P0 hi (by omega) (fun h=>stmt_tok (ht h).1 (ht h).2.1 _ _ _) ?_
 have hpass:∀{y y':Option (PX ParseWrong (ApiNode × ParseParser))},XS D i y y'->SW (Fin' D 0 (fun n j=>NG D.x D.T n i j) (NR D)) (i+1) (bm y (fun m=>some (.bad m)) fun(a,b)=>some (.ok (a,b))) (bm y' (fun m=>some (.bad m)) fun(a,b)=>some (.ok (a,b))):=fun h=>
  ff V P0 (fun j=>j) h (fun j hj=>⟨by omega,Nat.le_refl _,Nat.zero_le _⟩) (fun j n n' hj hb hn hr=>sw_ok hj (Nat.le_refl _) hn hr)
 have hplain:=hpass (plain_ok V (d:=d) (by omega) hi)
 unfold cu dk
 refine ii (fun hm=>ii (fun _=> ?_) (fun _=>hplain)) (fun _=>ii (fun h=>by cases h) (fun _=>hplain))
 have hmem:=begun_get hm
 revert hmem
 generalize mget (D.tk i).Text none _=g
 intro hmem
 simp only[List.mem_cons,List.not_mem_nil,or_false]at hmem
 rcases hmem with rfl|rfl|rfl|rfl|rfl
 ·refine ff V P0 (fun j=>j) (hR.1 d i (by omega) (by omega) hi) (fun j hj=>⟨by omega,by omega,by omega⟩) (fun j n n' hj hb hn hr=>sw_ok hj (Nat.le_refl _) hn (fun h=>hr (by omega)))
 ·exact hpass (hR.2.2.1 d i (by omega) (by omega) hi)
 ·exact hpass (hR.2.2.2 d i (by omega) (by omega) hi)
 ·exact hpass (back_ok V (d:=d) (by omega) hi)
 ·exact hpass (show_ok V (d:=d) (by omega) hi)
omit hR in
theorem specS :∀f:Nat,SpecS D (cf f) f
 | 0=>⟨fun _ _ _ h=>absurd h (by omega),fun _ _ _ h=>absurd h (by omega),fun _ _ _ h=>absurd h (by omega),fun _ _ _ h=>absurd h (by omega)⟩
 |f+1=>⟨fun d i h1 h2 h3=>block_step V (specS f) h1 h2 h3,fun d i h1 h2 h3=>statement_step V (specS f) h1 h2 h3,fun d i h1 h2 h3=>branch_step V (specS f) h1 h2 h3,fun d i h1 h2 h3=>loop_step V (specS f) h1 h2 h3⟩
omit hR in
theorem block_ok {d i:Nat} (hd:d<=98) (hi:i<D.T.length):XB D i (j1 (d:Int) (D.p i)) (j1 (d:Int) (D.p' i)):=(specS V 1048576).1 d i hd (by omega) hi
end
end Go.Proofs.YtackaijkmkollaaGreatDoor
