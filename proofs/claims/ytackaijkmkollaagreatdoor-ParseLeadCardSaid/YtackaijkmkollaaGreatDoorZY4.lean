/- What takes a statement, in both texts. -/
import Derived.Test.YtackaijkmkollaaGreatDoorZY3
set_option linter.unusedSimpArgs false
set_option linter.unusedVariables false
set_option linter.unusedSectionVars false
set_option linter.unusedSectionVars false
set_option linter.unusedVariables false
set_option linter.unusedSimpArgs false
set_option maxHeartbeats 4000000
namespace Go.Proofs.YtackaijkmkollaaGreatDoor
open Go Go.Cn
theorem ahead_lt {x:List UInt8} {T:List ApiToken} (hT:TokP x T) {i:Nat} (h:i+1<T.length):il ⟨T,(i:Int)⟩ 1=some T[i+1]:=by
 have hl:=hT.len
 have e1:w64 ((T.length:Int) - 1)=((T.length - 1:Nat):Int):=by rw[je (by omega) (by omega)];omega
 unfold il iy
 simp only[e1,f0 (show i<=9000000000 by omega)]
 rw[if_neg (by omega),ix hT h,Option.bind_some]
def locB (t u:ApiToken):Bool:=isTy t&&(t.Kind != 1||u.Kind==1)
theorem isLocal_lt {x:List UInt8} {T:List ApiToken} (hT:TokP x T) {i:Nat} (h:i+1<T.length):co ⟨T,(i:Int)⟩=some (locB (T.getD i noTok) (T.getD (i+1) noTok)):=by
 have e1:T.getD i noTok=T[i]:=by simp[List.getD,show i<T.length by omega]
 have e2:T.getD (i+1) noTok=T[i+1]:=by simp[List.getD,h]
 unfold co db locB
 rw[now_eq hT (by omega),Option.bind_some,isType_eq,Option.bind_some,ahead_lt hT h,e1,e2]
 cases isTy T[i]<;>cases T[i].Kind != 1<;>rfl
theorem isLocal_no {x:List UInt8} {T:List ApiToken} (hT:TokP x T) {i:Nat} (h:i<T.length) (hy:isTy (T.getD i noTok)=false):co ⟨T,(i:Int)⟩=some false:=by
 have e1:T.getD i noTok=T[i]:=by simp[List.getD,h]
 unfold co db
 rw[e1]at hy
 rw[now_eq hT h,Option.bind_some,isType_eq,Option.bind_some,hy]
 rfl
section
variable {D:Dt} (V:Two D)
include V
theorem sw_to {s:Nat} {Ω:Type} {W:Nat->Ω->(Ω->Prop)->Prop} {bad:ParseWrong->Ω} (P:Pst D s W bad) {b i:Nat} {y y1 y2:Option Ω} (hi:i<D.T.length) (hb:i+s<=b) (he:i<D.N->y2=y1) (h:SW W b y y1):SW W b y y2:=by
 by_cases hn:i<D.N
 ·rw[he hn]
  exact h
 ·exact j1 V P hi hn hb h
theorem sw_local {s:Nat} {Ω:Type} {W:Nat->Ω->(Ω->Prop)->Prop} {bad:ParseWrong->Ω} (P:Pst D s W bad) {b i:Nat} {F F':Bool->Option Ω} (hi:i<D.T.length) (hb:i+1+s<=b) (h:∀v,SW W b (F v) (F' v)):SW W b ((co (D.p i)).bind F) ((co (D.p' i)).bind F'):=by
 by_cases hlt:i+1<D.T.length
 ·refine sw_eq V P (i+1) _ hlt hb (isLocal_lt V.t hlt) (fun hn=> ?_) (h _)
  obtain⟨h1,k1,k2,_⟩:=ag_eq V (i:=i) (by omega)
  obtain⟨h2,l1,l2,_⟩:=ag_eq V (i:=i+1) hn
  have h3:i+D.k+1<D.T'.length:=by omega
  have e0:=isLocal_lt V.t' h3
  have a1:=V.ag i (by omega)
  have a2:=V.ag (i+1) hn
  rw[show i+1+D.k=i+D.k+1 by omega]at a2
  simp only[Dt.p']
  rw[e0]
  unfold locB
  rw[a1.1,a2.1]
  have e3:isTy (D.T'.getD (i+D.k) noTok)=isTy (D.tk i):=isTy_ag V (i:=i) (fun _=>⟨a1.1,a1.2,rfl⟩) (by omega)
  rw[e3]
 ·have hk:D.T[i].Kind=5:=(V.t.last i hi).2 (by omega)
  have hy:isTy (D.tk i)=false:=by
   cases hc:isTy (D.tk i)
   ·rfl
   ·exact absurd (isTy_lt V.t hi (by rw[tk_eq V hi];exact hc)) hlt
  refine sw_eq V P i false hi (by omega) (isLocal_no V.t hi hy) (fun hn=> ?_) (h _)
  obtain⟨h1,_⟩:=ag_eq V hn
  have a1:=V.ag i hn
  refine isLocal_no V.t' h1 ?_
  rw[isTy_ag V (i:=i) (fun _=>⟨a1.1,a1.2,rfl⟩) hn]
  exact hy
theorem bracketed_ok {d i:Nat} (hd:d<=100) (hi:i<D.T.length):XS D i (cy (d:Int) (D.p i)) (cy (d:Int) (D.p' i)):=by
 unfold cy XS
 have P0:=pFin V (s:=0) (fun n j=>NG D.x D.T n i j) (NR D)
 refine jb V P0 hi (by omega) (fun _ hi1=> ?_)
 refine eu V P0 (fun j=>j) (expression_ok V hd hi1) (fun j hj=>⟨by omega,Nat.le_refl _,Nat.zero_le _⟩) (fun j n n' hj hb hn hr=> ?_)
 refine jb V P0 hj (Nat.le_refl _) (fun _ hj1=> ?_)
 exact sw_ok hj1 (by omega) (NG.widen V.t hn (by omega) (by omega) (Nat.le_of_lt hj1)) (fun h=>hr (by omega))
theorem local_ok {d i:Nat} (hd:d<=99) (hi:i<D.T.length):XS D i (en (d:Int) (D.p i)) (en (d:Int) (D.p' i)):=by
 unfold en ir dp ek iz i3 XS
 have P0:=pFin V (s:=0) (fun n j=>NG D.x D.T n i j) (NR D)
 refine sw_limit V P0 hi (fun _=> ?_)
 refine sw_value V P0 hi (by omega) (fun hi1 ty' hty=> ?_)
 refine sw_name V P0 hi1 (Nat.le_refl _) (fun _ hi2 nm' hnm=> ?_)
 refine sw_up V P0 (b':=i+1+1) ?_
 refine jb V P0 hi2 (Nat.le_refl _) (fun _ hi3=> ?_)
 rw[f0 (by omega)]
 refine eu V P0 (fun j=>j) (expression_ok V (d:=d+1) (by omega) hi3) (fun j hj=>⟨by omega,Nat.le_refl _,Nat.zero_le _⟩) (fun j n n' hj hb hn hr=> ?_)
 have h2:=hn.lt
 have h3:j8 n<=j - (i+1+1+1):=hn.sz
 refine jb V P0 hj (Nat.le_refl _) (fun _ hj1=> ?_)
 refine gk V P0 (i:=i) (by omega) (Nat.le_of_lt hj1) (by omega) (fun z hz=> ?_)
 refine sw_ok hj1 (by omega) (jg V.t (LG.one V.t hn (Nat.le_of_lt hj)) (by omega) (by omega) (by omega) (Nat.le_of_lt hj1) (by simp only[cz];omega) (At2.yes hi1 (by omega) (by omega)) (At2.yes hi (by omega) (by omega))) (fun h=> ?_)
 rw[hz (by omega)]
 dsimp only
 rw[(hnm (by omega)).2.1,(hty (by omega)).2.1]
 exact jc (by omega) (by omega) (LR.one (hr (by omega))) (hnm.o (by omega)) (hty.o (by omega))
theorem back_ok {d i:Nat} (hd:d<=99) (hi:i<D.T.length):XS D i (gi (d:Int) (D.p i)) (gi (d:Int) (D.p' i)):=by
 unfold gi XS
 have P0:=pFin V (s:=0) (fun n j=>NG D.x D.T n i j) (NR D)
 refine jb V P0 hi (by omega) (fun _ hi1=> ?_)
 refine sw_met V P0 hi1 (Nat.le_refl _) (fun _ hi2=>gw (fun _=> ?_) (fun h=>by cases h)) (fun _=>gw (fun h=>by cases h) (fun _=> ?_))
 ·refine gk V P0 (i:=i) (by omega) (Nat.le_of_lt hi2) (by omega) (fun z hz=> ?_)
  refine sw_ok hi2 (by omega) (jg V.t (LG.nil D.x D.T i) (Nat.le_refl _) (by omega) (by omega) (Nat.le_of_lt hi2) (by simp only[cz];omega) .no .no) (fun h=> ?_)
  rw[hz (by omega)]
  exact jc (by omega) (by omega) LR.nil oR_no oR_no
 ·rw[f0 (by omega)]
  refine eu V P0 (fun j=>j) (expression_ok V (d:=d+1) (by omega) hi1) (fun j hj=>⟨by omega,Nat.le_refl _,Nat.zero_le _⟩) (fun j n n' hj hb hn hr=> ?_)
  have h2:=hn.lt
  have h3:j8 n<=j - (i+1):=hn.sz
  refine jb V P0 hj (Nat.le_refl _) (fun _ hj1=> ?_)
  refine gk V P0 (i:=i) (by omega) (Nat.le_of_lt hj1) (by omega) (fun z hz=> ?_)
  refine sw_ok hj1 (by omega) (jg V.t (LG.one V.t hn (Nat.le_of_lt hj)) (by omega) (by omega) (by omega) (Nat.le_of_lt hj1) (by simp only[cz];omega) .no .no) (fun h=> ?_)
  rw[hz (by omega)]
  exact jc (by omega) (by omega) (LR.one (hr (by omega))) oR_no oR_no
theorem show_ok {d i:Nat} (hd:d<=99) (hi:i<D.T.length):XS D i (gh (d:Int) (D.p i)) (gh (d:Int) (D.p' i)):=by
 unfold gh XS
 have P0:=pFin V (s:=0) (fun n j=>NG D.x D.T n i j) (NR D)
 refine jb V P0 hi (by omega) (fun _ hi1=> ?_)
 rw[f0 (by omega)]
 refine eu V P0 (fun j=>j) (bracketed_ok V (d:=d+1) (by omega) hi1) (fun j hj=>⟨by omega,Nat.le_refl _,Nat.zero_le _⟩) (fun j n n' hj hb hn hr=> ?_)
 have h2:=hn.lt
 have h3:j8 n<=j - (i+1):=hn.sz
 refine jb V P0 hj (Nat.le_refl _) (fun _ hj1=> ?_)
 refine gk V P0 (i:=i) (by omega) (Nat.le_of_lt hj1) (by omega) (fun z hz=> ?_)
 refine sw_ok hj1 (by omega) (jg V.t (LG.one V.t hn (Nat.le_of_lt hj)) (by omega) (by omega) (by omega) (Nat.le_of_lt hj1) (by simp only[cz];omega) .no .no) (fun h=> ?_)
 rw[hz (by omega)]
 exact jc (by omega) (by omega) (LR.one (hr (by omega))) oR_no oR_no
theorem plain_ok {d i:Nat} (hd:d<=99) (hi:i<D.T.length):XS D i (fo (d:Int) (D.p i)) (fo (d:Int) (D.p' i)):=by
 unfold fo fi XS
 have P0:=pFin V (s:=0) (fun n j=>NG D.x D.T n i j) (NR D)
 rw[f0 (by omega)]
 have hend:∀{k:Int} {j:Nat} {l l':List ApiNode},j<D.T.length->i<j->LG D.x D.T l i j->cz l+1<=j+1 - i->(j<D.N->LR D l l')->SW (Fin' D 0 (fun n j=>NG D.x D.T n i j) (NR D)) j (bq (ay ([59]:List UInt8) (D.p j)) (fun m22=>some (PX.bad m22)) fun x20=>(parse_parser_made x20 k (i:Int) l).bind fun x21=>some (.ok (x21,x20))) (bq (ay ([59]:List UInt8) (D.p' j)) (fun m22=>some (PX.bad m22)) fun x20=>(parse_parser_made x20 k ((i+D.k:Nat):Int) l').bind fun x21=>some (.ok (x21,x20))):=fun {k j l l'} hj hij hl hs hr=>by
  refine jb V P0 hj (Nat.le_refl _) (fun _ hj1=> ?_)
  refine gk V P0 (i:=i) (by omega) (Nat.le_of_lt hj1) (by omega) (fun z hz=> ?_)
  refine sw_ok hj1 (by omega) (jg V.t hl (Nat.le_refl _) (by omega) (by omega) (Nat.le_of_lt hj1) hs .no .no) (fun h=> ?_)
  rw[hz (by omega)]
  exact jc (by omega) (by omega) (hr (by omega)) oR_no oR_no
 refine eu V P0 (fun j=>j) (expression_ok V (d:=d+1) (by omega) hi) (fun j hj=>⟨by omega,Nat.le_refl _,Nat.zero_le _⟩) (fun j n n' hj hb hn hr=> ?_)
 have h2:=hn.lt
 have h3:j8 n<=j - i:=hn.sz
 refine sw_met V P0 hj (Nat.le_refl _) (fun _ hj1=>gw (fun _=> ?_) (fun h=>by cases h)) (fun _=>gw (fun h=>by cases h) (fun _=> ?_))
 ·refine eu V P0 (fun j=>j) (expression_ok V (d:=d+1) (by omega) hj1) (fun j hj=>⟨by omega,Nat.le_refl _,Nat.zero_le _⟩) (fun k m m' hk hbk hm hmr=> ?_)
  have h4:=hm.lt
  have h5:j8 m<=k - (j+1):=hm.sz
  refine sw_app V P0 k hk (Nat.le_refl _) (by simp) (fun _=>⟨rfl,rfl⟩) ?_
  have hl2:=LG.snoc V.t (LG.one V.t hn (Nat.le_of_lt hj)) hm (by omega) (Nat.le_of_lt hk)
  exact hend hk (by omega) hl2 (by simp only[List.cons_append,List.nil_append,cz];omega) (fun h=>LR.two (hr (by omega)) (hmr (by omega)))
 ·exact hend hj (by omega) (LG.one V.t hn (Nat.le_of_lt hj)) (by simp only[cz];omega) (fun h=>LR.one (hr (by omega)))
end
def XB (D:Dt) (i:Nat) (y y':Option (PX ParseWrong (ApiNode × ParseParser))):Prop:=SW (Fin' D 1 (fun n j=>NG D.x D.T n i j) (NR D)) (i+1) y y'
def SpecS (D:Dt) (R:av) (f:Nat):Prop:=
 (∀d i:Nat,d<=98->2 * (100 - d)<f->i<D.T.length->XB D i (R.1 (d:Int) (D.p i)) (R.1 (d:Int) (D.p' i)))/\
 (∀d i:Nat,d<=100->2 * (100 - d)+1<f->i<D.T.length->XS D i (R.2.1 (d:Int) (D.p i)) (R.2.1 (d:Int) (D.p' i)))/\
 (∀d i:Nat,d<=98->2 * (100 - d)<f->i<D.T.length->XS D i (R.2.2.1 (d:Int) (D.p i)) (R.2.2.1 (d:Int) (D.p' i)))/\
 (∀d i:Nat,d<=98->2 * (100 - d)<f->i<D.T.length->XS D i (R.2.2.2 (d:Int) (D.p i)) (R.2.2.2 (d:Int) (D.p' i)))
theorem stmt_tok {R:av} {t t':ApiToken} (h1:t'.Kind=t.Kind) (h2:t'.Text=t.Text) (d:Int) (p:ParseParser) (m:SMap (Option Nat)):cr R t' d p m=cr R t d p m:=by
 unfold cr dh
 rw[h1,h2]
theorem begun_get {t:List UInt8}:mhas t (mset ([112,114,105,110,116]:List UInt8) (some 84) (mset ([114,101,116,117,114,110]:List UInt8) (some 83) (mset ([119,104,105,108,101]:List UInt8) (some 82) (mset ([105,102]:List UInt8) (some 81) (mset ([123]:List UInt8) (some 52) ([]:SMap (Option Nat)))))))=true->mget t none (mset ([112,114,105,110,116]:List UInt8) (some 84) (mset ([114,101,116,117,114,110]:List UInt8) (some 83) (mset ([119,104,105,108,101]:List UInt8) (some 82) (mset ([105,102]:List UInt8) (some 81) (mset ([123]:List UInt8) (some 52) ([]:SMap (Option Nat)))))))∈([some 52,some 81,some 82,some 83,some 84]:List (Option Nat)):=by
 have e:(mset ([112,114,105,110,116]:List UInt8) (some 84) (mset ([114,101,116,117,114,110]:List UInt8) (some 83) (mset ([119,104,105,108,101]:List UInt8) (some 82) (mset ([105,102]:List UInt8) (some 81) (mset ([123]:List UInt8) (some 52) ([]:SMap (Option Nat)))))))=[([123],some 52),([105,102],some 81),([119,104,105,108,101],some 82),([114,101,116,117,114,110],some 83),([112,114,105,110,116],some 84)]:=rfl
 rw[e]
 simp only[mhas,mget]
 intro h
 split
 ·simp
 split
 ·simp
 split
 ·simp
 split
 ·simp
 split
 ·simp
 ·simp_all
section
variable {D:Dt} (V:Two D)
include V
variable {R:av} {f:Nat} (hR:SpecS D R f)
include hR
theorem block_step {d i:Nat} (hd:d<=98) (hf:2 * (100 - d)<f+1) (hi:i<D.T.length):XB D i (eq R (d:Int) (D.p i)) (eq R (d:Int) (D.p' i)):=by
 unfold eq iw XB
 have hlen:=V.t.len
 have P0:=pFin V (s:=1) (fun n j=>NG D.x D.T n i j) (NR D)
 refine jb V P0 hi (Nat.le_refl _) (fun _ hi1=> ?_)
 refine sw_flow V (s:=1) (I:=fun l j=>LG D.x D.T l (i+1) j) (J:=LR D) (by omega) ?_ (by omega) (fun j l l' hj hbj hl hr=> ?_) (fun _=>rfl) (fun _=>rfl)
 ·have P1:=pFinF V (s:=1) (fun l j=>LG D.x D.T l (i+1) j) (LR D) (fun n j=>NG D.x D.T n i j) (NR D)
  refine sw_iter V P1 (I:=fun l j=>LG D.x D.T l (i+1) j) (J:=LR D) hi1 (LG.nil D.x D.T (i+1)) (fun _=>LR.nil) (by omega) (fun j l l' hij hj hl hr=> ?_)
  have P:=pFinS V (s:=1) (fun l j=>LG D.x D.T l (i+1) j) (LR D) P1 j
  unfold fm
  refine sw_met V P hj (Nat.le_refl _) (fun _ hj1=>gw (fun h=>by cases h) (fun _=> ?_)) (fun _=>gw (fun _=> ?_) (fun h=>by cases h))
  ·exact sw_next hj1 (Nat.le_refl _) (LG.widen V.t hl (Nat.le_refl _) (by omega) (Nat.le_of_lt hj1)) (fun h=>hr (by omega))
  ·refine sw_up V P (b':=j+2) ?_
   refine sw_local V P hj (Nat.le_refl _) (fun v=> ?_)
   have hgo:∀{k:Nat} {n n':ApiNode},k<D.T.length->j+1<=k->NG D.x D.T n j k->(k<D.N+0->NR D n n')->SW (FinS D 1 (fun l j=>LG D.x D.T l (i+1) j) (LR D) (FinF D 1 (fun l j=>LG D.x D.T l (i+1) j) (LR D) (fun n j=>NG D.x D.T n i j) (NR D)) j) (k+1) ((app 104 l [n]).bind fun x19=>some (.inl (D.p k,x19))) ((app 104 l' [n']).bind fun x19=>some (.inl (D.p' k,x19))):=fun {k n n'} hk hjk hn hnr=>by
    have hl2:=LG.snoc V.t hl hn (Nat.le_refl _) (Nat.le_of_lt hk)
    have h3:=hl2.sz
    have h4:=ge (l++[n])
    refine sw_app V P k hk (Nat.le_refl _) (by simp at h4 ⊢;omega) (fun h=>⟨(hr (by omega)).len,rfl⟩) ?_
    exact sw_inl hk (by omega) (Nat.le_refl _) hl2 (fun h=>LR.append (hr (by omega)) (LR.one (hnr (by omega))))
   rw[f0 (by omega)]
   refine gw (fun _=> ?_) (fun _=> ?_)
   ·exact eu V P (fun k=>k+1) (local_ok V (d:=d+1) (by omega) hj) (fun k hk=>⟨by omega,by omega,Nat.zero_le _⟩) (fun k n n' hk hjk hn hnr=>hgo hk hjk hn hnr)
   ·exact eu V P (fun k=>k+1) (hR.2.1 (d+1) j (by omega) (by omega) hj) (fun k hk=>⟨by omega,by omega,Nat.zero_le _⟩) (fun k n n' hk hjk hn hnr=>hgo hk hjk hn hnr)
 ·have h2:=hl.sz
  refine gk V P0 (i:=i) (by omega) (Nat.le_of_lt hj) (by omega) (fun z hz=> ?_)
  refine sw_ok hj (Nat.le_refl _) (jg V.t hl (by omega) (Nat.le_refl _) (by omega) (Nat.le_of_lt hj) (by omega) .no .no) (fun h=> ?_)
  rw[hz (by omega)]
  exact jc (by omega) (by omega) (hr h) oR_no oR_no
theorem branch_step {d i:Nat} (hd:d<=98) (hf:2 * (100 - d)<f+1) (hi:i<D.T.length):XS D i (ej R (d:Int) (D.p i)) (ej R (d:Int) (D.p' i)):=by
 unfold ej ey XS
 have P0:=pFin V (s:=0) (fun n j=>NG D.x D.T n i j) (NR D)
 refine jb V P0 hi (by omega) (fun _ hi1=> ?_)
 rw[f0 (by omega)]
 refine eu V P0 (fun j=>j) (bracketed_ok V (d:=d+1) (by omega) hi1) (fun j hj=>⟨by omega,Nat.le_refl _,Nat.zero_le _⟩) (fun j n n' hj hb hn hr=> ?_)
 refine eu V P0 (fun j=>j) (hR.2.1 (d+1) j (by omega) (by omega) hj) (fun j hj=>⟨by omega,Nat.le_refl _,Nat.zero_le _⟩) (fun k m m' hk hbk hm hmr=> ?_)
 have h1:=hn.lt
 have h2:=hm.lt
 have h3:j8 n<=j - (i+1):=hn.sz
 have h4:j8 m<=k - j:=hm.sz
 have hl2:=LG.snoc V.t (LG.one V.t hn (Nat.le_of_lt hj)) hm (Nat.le_refl _) (Nat.le_of_lt hk)
 refine sw_app V P0 k hk (Nat.le_refl _) (by simp) (fun _=>⟨rfl,rfl⟩) ?_
 refine sw_met V P0 hk (Nat.le_refl _) (fun _ hk1=>gw (fun _=> ?_) (fun h=>by cases h)) (fun _=>gw (fun h=>by cases h) (fun _=> ?_))
 ·refine eu V P0 (fun j=>j) (hR.2.1 (d+1) (k+1) (by omega) (by omega) hk1) (fun j hj=>⟨by omega,Nat.le_refl _,Nat.zero_le _⟩) (fun q u u' hq hbq hu hur=> ?_)
  have h5:=hu.lt
  have h6:j8 u<=q - (k+1):=hu.sz
  have hl3:=LG.snoc V.t hl2 hu (by omega) (Nat.le_of_lt hq)
  refine sw_app V P0 q hq (Nat.le_refl _) (by simp) (fun _=>⟨rfl,rfl⟩) ?_
  refine gk V P0 (i:=i) (by omega) (Nat.le_of_lt hq) (by omega) (fun z hz=> ?_)
  refine sw_ok hq (Nat.le_refl _) (jg V.t hl3 (by omega) (Nat.le_refl _) (by omega) (Nat.le_of_lt hq) (by simp only[List.cons_append,List.nil_append,cz];omega) .no .no) (fun h=> ?_)
  rw[hz (by omega)]
  exact jc (by omega) (by omega) (LR.append (LR.two (hr (by omega)) (hmr (by omega))) (LR.one (hur (by omega)))) oR_no oR_no
 ·refine gk V P0 (i:=i) (by omega) (Nat.le_of_lt hk) (by omega) (fun z hz=> ?_)
  refine sw_ok hk (Nat.le_refl _) (jg V.t hl2 (by omega) (Nat.le_refl _) (by omega) (Nat.le_of_lt hk) (by simp only[List.cons_append,List.nil_append,cz];omega) .no .no) (fun h=> ?_)
  rw[hz (by omega)]
  exact jc (by omega) (by omega) (LR.two (hr (by omega)) (hmr (by omega))) oR_no oR_no
theorem loop_step {d i:Nat} (hd:d<=98) (hf:2 * (100 - d)<f+1) (hi:i<D.T.length):XS D i (fc R (d:Int) (D.p i)) (fc R (d:Int) (D.p' i)):=by
 unfold fc XS
 have P0:=pFin V (s:=0) (fun n j=>NG D.x D.T n i j) (NR D)
 refine jb V P0 hi (by omega) (fun _ hi1=> ?_)
 rw[f0 (by omega)]
 refine eu V P0 (fun j=>j) (bracketed_ok V (d:=d+1) (by omega) hi1) (fun j hj=>⟨by omega,Nat.le_refl _,Nat.zero_le _⟩) (fun j n n' hj hb hn hr=> ?_)
 refine eu V P0 (fun j=>j) (hR.2.1 (d+1) j (by omega) (by omega) hj) (fun j hj=>⟨by omega,Nat.le_refl _,Nat.zero_le _⟩) (fun k m m' hk hbk hm hmr=> ?_)
 have h1:=hn.lt
 have h2:=hm.lt
 have h3:j8 n<=j - (i+1):=hn.sz
 have h4:j8 m<=k - j:=hm.sz
 have hl2:=LG.snoc V.t (LG.one V.t hn (Nat.le_of_lt hj)) hm (Nat.le_refl _) (Nat.le_of_lt hk)
 refine gk V P0 (i:=i) (by omega) (Nat.le_of_lt hk) (by omega) (fun z hz=> ?_)
 refine sw_ok hk (Nat.le_refl _) (jg V.t hl2 (by omega) (Nat.le_refl _) (by omega) (Nat.le_of_lt hk) (by simp only[List.cons_append,List.nil_append,cz];omega) .no .no) (fun h=> ?_)
 rw[hz (by omega)]
 exact jc (by omega) (by omega) (LR.two (hr (by omega)) (hmr (by omega))) oR_no oR_no
theorem statement_step {d i:Nat} (hd:d<=100) (hf:2 * (100 - d)+1<f+1) (hi:i<D.T.length):XS D i (dk R (d:Int) (D.p i)) (dk R (d:Int) (D.p' i)):=by
 unfold dk XS
 have P0:=pFin V (s:=0) (fun n j=>NG D.x D.T n i j) (NR D)
 refine sw_limit V P0 hi (fun hd60=> ?_)
 have hd60:d<=60:=by omega
 refine sw_now V P0 hi (by omega) (fun t' ht=> ?_)
 refine sw_eq V P0 i _ hi (by omega) rfl (fun _=>rfl) ?_
 refine sw_to V P0 hi (by omega) (fun h=>stmt_tok (ht h).1 (ht h).2.1 _ _ _) ?_
 have hpass:∀{y y':Option (PX ParseWrong (ApiNode × ParseParser))},XS D i y y'->SW (Fin' D 0 (fun n j=>NG D.x D.T n i j) (NR D)) (i+1) (bq y (fun m=>some (.bad m)) fun(a,b)=>some (.ok (a,b))) (bq y' (fun m=>some (.bad m)) fun(a,b)=>some (.ok (a,b))):=fun h=>
  eu V P0 (fun j=>j) h (fun j hj=>⟨by omega,Nat.le_refl _,Nat.zero_le _⟩) (fun j n n' hj hb hn hr=>sw_ok hj (Nat.le_refl _) hn hr)
 have hplain:=hpass (plain_ok V (d:=d) (by omega) hi)
 unfold cr dh
 refine gw (fun hm=>gw (fun _=> ?_) (fun _=>hplain)) (fun _=>gw (fun h=>by cases h) (fun _=>hplain))
 have hmem:=begun_get hm
 revert hmem
 generalize mget (D.tk i).Text none _=g
 intro hmem
 simp only[List.mem_cons,List.not_mem_nil,or_false]at hmem
 rcases hmem with rfl|rfl|rfl|rfl|rfl
 ·refine eu V P0 (fun j=>j) (hR.1 d i (by omega) (by omega) hi) (fun j hj=>⟨by omega,by omega,by omega⟩) (fun j n n' hj hb hn hr=>sw_ok hj (Nat.le_refl _) hn (fun h=>hr (by omega)))
 ·exact hpass (hR.2.2.1 d i (by omega) (by omega) hi)
 ·exact hpass (hR.2.2.2 d i (by omega) (by omega) hi)
 ·exact hpass (back_ok V (d:=d) (by omega) hi)
 ·exact hpass (show_ok V (d:=d) (by omega) hi)
omit hR in
theorem specS :∀f:Nat,SpecS D (cf f) f
 | 0=>⟨fun _ _ _ h=>absurd h (by omega),fun _ _ _ h=>absurd h (by omega),fun _ _ _ h=>absurd h (by omega),fun _ _ _ h=>absurd h (by omega)⟩
 |f+1=>⟨fun d i h1 h2 h3=>block_step V (specS f) h1 h2 h3,fun d i h1 h2 h3=>statement_step V (specS f) h1 h2 h3,fun d i h1 h2 h3=>branch_step V (specS f) h1 h2 h3,fun d i h1 h2 h3=>loop_step V (specS f) h1 h2 h3⟩
omit hR in
theorem block_ok {d i:Nat} (hd:d<=98) (hi:i<D.T.length):XB D i (j5 (d:Int) (D.p i)) (j5 (d:Int) (D.p' i)):=(specS V 1048576).1 d i hd (by omega) hi
end
end Go.Proofs.YtackaijkmkollaaGreatDoor
