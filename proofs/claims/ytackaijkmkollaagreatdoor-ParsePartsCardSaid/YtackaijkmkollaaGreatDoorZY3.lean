/- Where nodes stand, and what takes an expression, in both texts. -/
import Derived.Test.YtackaijkmkollaaGreatDoorZY2
set_option linter.unusedSimpArgs false
set_option linter.unusedVariables false
set_option linter.unusedSectionVars false
set_option linter.unusedSectionVars false
set_option linter.unusedVariables false
set_option linter.unusedSimpArgs false
set_option maxHeartbeats 4000000
namespace Go.Proofs.YtackaijkmkollaaGreatDoor
open Go Go.Cn
theorem chain_join {hi b : Int} {m : List ApiNode} : ∀ {l : List ApiNode} {lo a : Int}, chain lo a l -> chain b hi m -> a <= b -> a <= hi -> lo <= a \/ l ≠ [] \/ lo <= b -> chain lo hi (l ++ m)
  | [], lo, a, _, h2, h3, h4, h5 => chain_wide h2 (by rcases h5 with h | h | h
                                                      · omega
                                                      · exact absurd rfl h
                                                      · exact h) (Int.le_refl _)
  |y::r,lo,a,⟨c1,c2,c3,c4⟩,h2,h3,h4,_=>⟨c1,c2,by omega,chain_join c4 h2 h3 h4 (.inl c3)⟩
theorem app_small {bytes:Nat} {l m:List ApiNode} (h:l.length+m.length<=1000000/\bytes<=1000:=by omega):app bytes l m=some (l++m):=by
 unfold app
 have:(l.length+m.length) * bytes<=1000000 * 1000:=Nat.mul_le_mul h.1 h.2
 rw[if_pos ⟨by omega,by omega⟩]
structure NG (x:List UInt8) (T:List ApiToken) (n:ApiNode) (i j:Nat):Prop where
 lt:i<j
 gd:gd x n
 lo:aT T i<=n.From
 ft:n.From<=n.To
 hi:n.To<=eT T j
 sz:ie n<=j - i
structure LG (x:List UInt8) (T:List ApiToken) (l:List ApiNode) (i j:Nat):Prop where
 le:i<=j
 gd:gdL x l
 ch:chain (aT T i) (eT T j) l
 ne:l=[]\/i<j
 sz:cl l<=j - i
theorem LG.nil (x:List UInt8) (T:List ApiToken) (i:Nat):LG x T [] i i:=⟨Nat.le_refl _,trivial,trivial,.inl rfl,by simp[cl]⟩
section
variable {x:List UInt8} {T:List ApiToken} (hT:TokP x T)
include hT
theorem LG.snoc {l:List ApiNode} {n:ApiNode} {i j a b:Nat} (h:LG x T l i j) (hn:NG x T n a b) (hj:j<=a) (hb:b<=T.length):LG x T (l++[n]) i b:=by
 have h1:=h.le
 have h2:=hn.lt
 have ha:aT T i<=aT T a:=a_mono hT (by omega) (by omega)
 have hlo:=hn.lo
 refine⟨by omega,gdL_append h.gd ⟨hn.gd,trivial⟩,?_,.inr (by omega),?_⟩
 ·refine chain_snoc h.ch (by omega) ?_ hn.ft hn.hi ?_
  ·rcases h.ne with h3|h3
   ·exact .inl h3
   ·right
    have:=e_le hT (i:=j) (j:=a) (by omega) hj (by omega)
    omega
  ·rcases h.ne with h3|h3
   ·exact .inr h3
   ·exact .inl (e_mono hT (by omega) (by omega) hb)
 ·rw[nsizes_append]
  simp only[cl]
  have:=h.sz
  have:=hn.sz
  omega
theorem LG.one {n:ApiNode} {i j:Nat} (hn:NG x T n i j) (hj:j<=T.length):LG x T [n] i j:=LG.snoc hT (LG.nil x T i) hn (Nat.le_refl _) hj
theorem LG.widen {l:List ApiNode} {a b i j:Nat} (h:LG x T l a b) (hi:i<=a) (hb:b<=j) (hj:j<=T.length):LG x T l i j:=by
 have h1:=h.le
 have h5:=h.sz
 refine⟨by omega,h.gd,?_,?_,by omega⟩
 ·rcases h.ne with rfl|h3
  ·trivial
  ·exact chain_wide h.ch (a_mono hT hi (by omega)) (e_mono hT (by omega) hb hj)
 ·rcases h.ne with h3|h3
  ·exact .inl h3
  ·exact .inr (by omega)
theorem NG.widen {n:ApiNode} {a b i j:Nat} (h:NG x T n a b) (hi:i<=a) (hb:b<=j) (hj:j<=T.length):NG x T n i j:=by
 have h1:=h.lt
 have h2:=h.sz
 have h3:=a_mono hT hi (by omega)
 have h4:=e_mono hT (i:=b) (by omega) hb hj
 have h5:=h.lo
 have h6:=h.hi
 exact⟨by omega,h.gd,by omega,h.ft,by omega,by omega⟩
theorem LG.join {l m:List ApiNode} {i j a b:Nat} (h:LG x T l i j) (hm:LG x T m a b) (hj:j<=a) (hb:b<=T.length):LG x T (l++m) i b:=by
 have h1:=h.le
 have h2:=hm.le
 have h3:=h.sz
 have h4:=hm.sz
 refine⟨by omega,gdL_append h.gd hm.gd,?_,?_,by rw[nsizes_append];omega⟩
 ·rcases hm.ne with rfl|h5
  ·rw[List.append_nil]
   rcases h.ne with rfl|h6
   ·trivial
   ·exact chain_wide h.ch (Int.le_refl _) (e_mono hT (by omega) (by omega) hb)
  ·rcases h.ne with rfl|h6
   ·exact chain_wide hm.ch (a_mono hT (by omega) (by omega)) (Int.le_refl _)
   ·exact chain_join h.ch hm.ch (e_le hT (by omega) hj (by omega)) (e_mono hT (by omega) (by omega) hb) (.inr (.inr (a_mono hT (by omega) (by omega))))
 ·rcases hm.ne with rfl|h5
  ·rcases h.ne with rfl|h6
   ·exact .inl rfl
   ·exact .inr (by omega)
  ·exact .inr (by omega)
def At2 (T:List ApiToken) (i j:Nat) (at_:Int) (t:List UInt8):Prop:=at_= -1\/∃q,q<T.length/\i<=q/\q<j/\at_=(T.getD q cq).At/\t=(T.getD q cq).Text
theorem At2.gd {i j:Nat} {at_:Int} {t:List UInt8} (h:At2 T i j at_ t) (hj:j<=T.length):0<=at_->aT T i<=at_/\at_+(t.length:Int)<=eT T j/\(x.drop at_.toNat).take t.length=t:=by
 rcases h with rfl|⟨q,hq,h1,h2,rfl,rfl⟩
 ·intro h;omega
 ·intro _
  have e0:T.getD q cq=T[q]:=by simp[List.getD,hq]
  rw[e0]
  obtain⟨a,e1,e2,e3⟩:=hT.place q hq
  have h3:=a_mono hT h1 hq
  have h4:=e_mono hT (i:=q+1) (j:=j) (by omega) (by omega) hj
  rw[eT_eq hT hq]at h4
  rw[aT_eq hT hq]at h3
  refine⟨h3,h4,?_⟩
  rw[e1]
  exact e3
theorem je {l:List ApiNode} {a b i j:Nat} (h:LG x T l a b) (hi:i<=a) (hb:b<=j) (hij:i<j) (hj:j<=T.length) (hs:cl l+1<=j - i) {k nn at_ tat:Int} {t ty:List UInt8} (h1:At2 T i j at_ t) (h2:At2 T i j tat ty):
  NG x T ⟨k,t,ty,nn,aT T i,eT T j,at_,tat,l⟩ i j:=by
 have hl:=LG.widen hT h hi hb hj
 have h3:=aT_nat hT (i:=i) (by omega)
 refine⟨hij,?_,Int.le_refl _,a_le_e hT hij hj,Int.le_refl _,?_⟩
 ·rw[gd_eq]
  exact⟨⟨h3.1,e_len hT (by omega) hj,At2.gd hT h1 hj,At2.gd hT h2 hj,hl.ch⟩,hl.gd⟩
 ·rw[nsize_eq]
  have:=h.sz
  show 1+cl l<=_
  omega
omit hT in
theorem At2.no {i j:Nat} {t:List UInt8}:At2 T i j (-1) t:= .inl rfl
omit hT in
theorem At2.yes {i j q:Nat} (h:q<T.length) (h1:i<=q) (h2:q<j):At2 T i j (T.getD q cq).At (T.getD q cq).Text:= .inr ⟨q,h,h1,h2,rfl,rfl⟩
end
theorem binds_ok (t:ApiToken):∃b:Nat,ji t=some (b:Int)/\b<=6/\(0<b->t.Kind=4):=by
 have h:Ok (ji t) (fun v=>∃b:Nat,v=(b:Int)/\b<=6/\(0<b->t.Kind=4)):=by
  unfold ji ju gm jv i4
  refine ok_ite (fun _=>ok_some ⟨0,rfl,by omega,fun h=>by omega⟩) (fun hk=> ?_)
  have hk:t.Kind=4:=by simpa using hk
  repeat' (refine ok_ite (fun _=> ?_) (fun _=> ?_))
  all_goals first
   |exact ok_some ⟨0,rfl,by omega,fun _=>hk⟩
   |exact ok_some ⟨1,rfl,by omega,fun _=>hk⟩
   |exact ok_some ⟨2,rfl,by omega,fun _=>hk⟩
   |exact ok_some ⟨3,rfl,by omega,fun _=>hk⟩
   |exact ok_some ⟨4,rfl,by omega,fun _=>hk⟩
   |exact ok_some ⟨5,rfl,by omega,fun _=>hk⟩
   |exact ok_some ⟨6,rfl,by omega,fun _=>hk⟩
 obtain⟨v,hv,b,rfl,h1,h2⟩:=h
 exact⟨b,hv,h1,h2⟩
theorem binds_ag {t t':ApiToken} (h1:t'.Kind=t.Kind) (h2:t'.Text=t.Text):ji t'=ji t:=by
 unfold ji ju gm jv i4
 rw[h1,h2]
section
variable {D:Dt} (V:Two D)
def XS (D:Dt) (i:Nat) (y y':Option (PX ParseWrong (ApiNode × ParseParser))):Prop:=SW (Fin' D 0 (fun n j=>NG D.x D.T n i j) (NR D)) (i+1) y y'
def LS (D:Dt) (i:Nat) (y y':Option (PX ParseWrong ((List ApiNode) × ParseParser))):Prop:=SW (Fin' D 0 (fun l j=>LG D.x D.T l i j) (LR D)) i y y'
def SpecX (D:Dt) (R:am) (f:Nat):Prop:=
 (∀d l i:Nat,d<=100->l<=6->10 * (100 - d)+8 - l<f->i<D.T.length->XS D i (R.1 (d:Int) (l:Int) (D.p i)) (R.1 (d:Int) (l:Int) (D.p' i)))/\
 (∀d i:Nat,d<=100->10 * (100 - d)+1<f->i<D.T.length->XS D i (R.2.1 (d:Int) (D.p i)) (R.2.1 (d:Int) (D.p' i)))/\
 (∀d i:Nat,d<=100->10 * (100 - d)+10<f->i<D.T.length->XS D i (R.2.2.1 (d:Int) (D.p i)) (R.2.2.1 (d:Int) (D.p' i)))/\
 (∀d i:Nat,d<=100->10 * (100 - d)+9<f->i<D.T.length->LS D i (R.2.2.2 (d:Int) (D.p i)) (R.2.2.2 (d:Int) (D.p' i)))
omit V in
theorem ja {l l':List ApiNode} {i j:Nat} (hi:i<j) (hj:j<=D.N) {kd nn a a' ta ta':Int} {t ty:List UInt8} (hl:LR D l l') (h1:oR D a a') (h2:oR D ta ta'):NR D ⟨kd,t,ty,nn,aT D.T i,eT D.T j,a,ta,l⟩ ⟨kd,t,ty,nn,aT D.T' (i+D.k),eT D.T' (j+D.k),a',ta',l'⟩:=by
 rw[NR_eq]
 exact⟨⟨rfl,rfl,rfl,rfl,⟨i,by omega,rfl,rfl⟩,⟨j,by omega,hj,rfl,rfl⟩,h1,h2⟩,hl⟩
theorem oR_no :oR D (-1) (-1):= .inl ⟨rfl,rfl⟩
theorem TR.o {q:Nat} {t':ApiToken} (h:TR D q t') (hq:q<D.N):oR D (D.tk q).At t'.At:= .inr ⟨q,hq,rfl,(h hq).2.2⟩
include V
theorem sw_eq {s:Nat} {Ω:Type} {W:Nat->Ω->(Ω->Prop)->Prop} {bad:ParseWrong->Ω} (P:Pst D s W bad) {β:Type} {b:Nat} {y y':Option β} {F F':β->Option Ω} (i:Nat) (v:β) (hi:i<D.T.length) (hb:i+s<=b) (hy:y=some v) (hy':i<D.N->y'=some v) (h:SW W b (F v) (F' v)):SW W b (y.bind F) (y'.bind F'):=by
 subst hy
 by_cases hn:i<D.N
 ·rw[hy' hn]
  exact h
 ·exact jy V P hi hn hb h
theorem sw_app {s:Nat} {Ω:Type} {W:Nat->Ω->(Ω->Prop)->Prop} {bad:ParseWrong->Ω} (P:Pst D s W bad) {b:Nat} {F F':List ApiNode->Option Ω} {l m l' m':List ApiNode} (i:Nat) (hi:i<D.T.length) (hb:i+s<=b) (hs:l.length+m.length<=1000000) (hl:i<D.N->l'.length=l.length/\m'.length=m.length) (h:SW W b (F (l++m)) (F' (l'++m'))):SW W b ((app 104 l m).bind F) ((app 104 l' m').bind F'):=by
 rw[app_small ⟨hs,by omega⟩]
 by_cases hn:i<D.N
 ·obtain⟨h1,h2⟩:=hl hn
  rw[app_small ⟨by omega,by omega⟩]
  exact h
 ·exact jy V P hi hn hb h
variable {R:am} {f:Nat} (hR:SpecX D R f)
include hR
theorem expr_ok {d l i:Nat} (hd:d<=100) (hl:l<=6) (hf:10 * (100 - d)+8 - l<f+1) (hi:i<D.T.length):XS D i (dm R (d:Int) (l:Int) (D.p i)) (dm R (d:Int) (l:Int) (D.p' i)):=by
 unfold dm XS
 refine ff V (pFin V _ _) (fun j=>j) (hR.2.1 d i hd (by omega) hi) (fun j hj=>⟨hj,Nat.le_refl _,Nat.zero_le _⟩) (fun j n n' hj hb hn hr=> ?_)
 refine sw_iter V (pFin V _ _) (I:=fun n j=>NG D.x D.T n i j) (J:=NR D) hj hn hr (Nat.le_refl _) (fun j n n' _ hj hn hr=> ?_)
 have P:=pFinS V (s:=0) (fun n j=>NG D.x D.T n i j) (NR D) (pFin V (s:=0) (fun n j=>NG D.x D.T n i j) (NR D)) j
 unfold d8
 refine sw_now V P hj (Nat.le_refl _) (fun t' ht=> ?_)
 obtain⟨b,hb,hb6,hbk⟩:=binds_ok (D.tk j)
 refine sw_eq V P j (b:Int) hj (Nat.le_refl _) hb (fun hn=>by rw[binds_ag (ht hn).1 (ht hn).2.1];exact hb) ?_
 refine ii (fun hc=>sw_inr_ok hj (Nat.le_refl _) hn hr) (fun hc=> ?_)
 have hbl:l<b:=by simp at hc;omega
 have hj1:j+1<D.T.length:=ne_last V.t hj (by rw[tk_eq V hj,hbk (by omega)];decide)
 refine sw_step V P hj (Nat.le_refl _) (fun u' hu=> ?_)
 refine ff V P (fun k=>k) (hR.1 d b (j+1) hd hb6 (by omega) hj1) (fun k hk=>⟨by omega,Nat.le_refl _,Nat.zero_le _⟩) (fun k m m' hk hbk hm hmr=> ?_)
 have h1:=hn.lt
 have h2:=hm.lt
 refine gt V P (i:=i) (by omega) (Nat.le_of_lt hk) (by omega) (fun z hz=> ?_)
 refine sw_inl hk (by omega) (by omega) ?_ (fun hkn=> ?_)
 ·have hl2:=LG.snoc V.t (LG.one V.t hn (Nat.le_of_lt hj)) hm (by omega) (Nat.le_of_lt hk)
  have h3:ie n<=j - i:=hn.sz
  have h4:ie m<=k - (j+1):=hm.sz
  exact je V.t hl2 (Nat.le_refl i) (Nat.le_refl k) (by omega) (Nat.le_of_lt hk) (by simp only[List.cons_append,List.nil_append,cl];omega) .no .no
 ·rw[hz (by omega),(hu (by omega)).2.1]
  exact ja (by omega) (by omega) (LR.two (hr (by omega)) (hmr (by omega))) oR_no oR_no
theorem args_ok {d i:Nat} (hd:d<=100) (hf:10 * (100 - d)+9<f+1) (hi:i<D.T.length):LS D i (dr R (d:Int) (D.p i)) (dr R (d:Int) (D.p' i)):=by
 unfold dr LS
 have P0:=pFin V (s:=0) (fun l j=>LG D.x D.T l i j) (LR D)
 refine sw_met V P0 hi (by omega) (fun _ hi1=> ?_) (fun _=> ?_)
 ·exact ii (fun _=>sw_ok hi1 (by omega) (LG.widen V.t (LG.nil D.x D.T i) (Nat.le_refl _) (by omega) (by omega)) (fun _=>LR.nil)) (fun h=>by cases h)
 refine ii (fun h=>by cases h) (fun _=> ?_)
 refine sw_iter V P0 (I:=fun l j=>LG D.x D.T l i j) (J:=LR D) hi (LG.nil D.x D.T i) (fun _=>LR.nil) (by omega) (fun j l l' _ hj hl hr=> ?_)
 have P:=pFinS V (s:=0) (fun l j=>LG D.x D.T l i j) (LR D) P0 j
 have h1:=hl.le
 unfold ej
 refine ff V P (fun k=>k) (hR.1 d 0 j hd (by omega) (by omega) hj) (fun k hk=>⟨by omega,Nat.le_refl _,Nat.zero_le _⟩) (fun k n n' hk hbk hn hnr=> ?_)
 have h2:=hn.lt
 have hl2:=LG.snoc V.t hl hn (Nat.le_refl _) (Nat.le_of_lt hk)
 have h3:=hl2.sz
 have h4:=eg (l++[n])
 have hlen:=V.t.len
 refine sw_app V P k hk (Nat.le_refl _) (by simp at h4 ⊢;omega) (fun hkn=>⟨(hr (by omega)).len,rfl⟩) ?_
 refine sw_met V P hk (Nat.le_refl _) (fun _ hk1=> ?_) (fun _=> ?_)
 ·refine ii (fun _=> ?_) (fun h=>by cases h)
  exact sw_inr_ok hk1 (by omega) (LG.widen V.t hl2 (Nat.le_refl _) (by omega) (by omega)) (fun h=>LR.append (hr (by omega)) (LR.one (hnr (by omega))))
 ·refine ii (fun h=>by cases h) (fun _=> ?_)
  refine i9 V P hk (Nat.le_refl _) (fun _ hk1=> ?_)
  exact sw_inl hk1 (by omega) (by omega) (LG.widen V.t hl2 (Nat.le_refl _) (by omega) (by omega)) (fun h=>LR.append (hr (by omega)) (LR.one (hnr (by omega))))
theorem unary_ok {d i:Nat} (hd:d<=100) (hf:10 * (100 - d)+1<f+1) (hi:i<D.T.length):XS D i (fb R (d:Int) (D.p i)) (fb R (d:Int) (D.p' i)):=by
 unfold fb XS
 have P0:=pFin V (s:=0) (fun n j=>NG D.x D.T n i j) (NR D)
 refine sw_limit V P0 hi (fun hd60=> ?_)
 have hd60:d<=60:=by omega
 have hone:∀{k:Int} {j:Nat} {n n':ApiNode},j<D.T.length->NG D.x D.T n (i+1) j->(j<D.N+0->NR D n n')->SW (Fin' D 0 (fun n j=>NG D.x D.T n i j) (NR D)) j ((parse_parser_made (D.p j) k (i:Int) [n]).bind fun x12=>some (PX.ok (μ:=ParseWrong) (x12,D.p j))) ((parse_parser_made (D.p' j) k ((i+D.k:Nat):Int) [n']).bind fun x12=>some (PX.ok (μ:=ParseWrong) (x12,D.p' j))):=fun {k j n n'} hj hn hr=>by
  have h2:=hn.lt
  have h3:ie n<=j - (i+1):=hn.sz
  refine gt V P0 (i:=i) (by omega) (Nat.le_of_lt hj) (by omega) (fun z hz=> ?_)
  refine sw_ok hj (Nat.le_refl _) (je V.t (LG.one V.t hn (Nat.le_of_lt hj)) (by omega) (Nat.le_refl _) (by omega) (Nat.le_of_lt hj) (by simp only[cl];omega) .no .no) (fun h=> ?_)
  rw[hz (by omega)]
  exact ja (by omega) (by omega) (LR.one (hr h)) oR_no oR_no
 refine sw_met V P0 hi (by omega) (fun _ hi1=>ii (fun _=> ?_) (fun h=>by cases h)) (fun _=>ii (fun h=>by cases h) (fun _=> ?_))
 ·rw[ij (by omega)]
  refine ff V P0 (fun j=>j) (hR.2.1 (d+1) (i+1) (by omega) (by omega) hi1) (fun j hj=>⟨by omega,Nat.le_refl _,Nat.zero_le _⟩) (fun j n n' hj hb hn hr=> ?_)
  exact hone hj hn hr
 refine sw_met V P0 hi (by omega) (fun _ hi1=>ii (fun _=> ?_) (fun h=>by cases h)) (fun _=>ii (fun h=>by cases h) (fun _=> ?_))
 ·rw[ij (by omega)]
  refine ff V P0 (fun j=>j) (hR.2.1 (d+1) (i+1) (by omega) (by omega) hi1) (fun j hj=>⟨by omega,Nat.le_refl _,Nat.zero_le _⟩) (fun j n n' hj hb hn hr=> ?_)
  exact hone hj hn hr
 rw[ij (by omega)]
 refine ff V P0 (fun j=>j) (hR.2.2.1 (d+1) i (by omega) (by omega) hi) (fun j hj=>⟨by omega,Nat.le_refl _,Nat.zero_le _⟩) (fun j n n' hj hb hn hr=> ?_)
 refine sw_flow V (s:=0) (I:=fun n j=>NG D.x D.T n i j) (J:=NR D) (by omega) ?_ (by omega) (fun j n n' hj hbj hn hr=> ?_) (fun _=>rfl) (fun _=>rfl)
 ·have P1:=pFinF V (s:=0) (fun n j=>NG D.x D.T n i j) (NR D) (fun n j=>NG D.x D.T n i j) (NR D)
  refine sw_iter V P1 (I:=fun n j=>NG D.x D.T n i j) (J:=NR D) hj hn hr (Nat.le_refl _) (fun j n n' _ hj hn hr=> ?_)
  have P:=pFinS V (s:=0) (fun n j=>NG D.x D.T n i j) (NR D) P1 j
  have h1:=hn.lt
  have h0:ie n<=j - i:=hn.sz
  unfold fv
  refine sw_met V P hj (Nat.le_refl _) (fun _ hj1=>ii (fun _=> ?_) (fun h=>by cases h)) (fun _=>ii (fun h=>by cases h) (fun _=> ?_))
  ·refine sw_up V P (b':=j+1) ?_
   refine sw_name V P hj1 (Nat.le_refl _) (fun _ hj2 t' ht=> ?_)
   unfold iu fw dn ei
   refine sw_up V P (b':=j+1+1) ?_
   refine sw_met V P hj2 (Nat.le_refl _) (fun _ hj3=>ii (fun _=> ?_) (fun h=>by cases h)) (fun _=>ii (fun h=>by cases h) (fun _=> ?_))
   ·rw[ij (by omega)]
    refine ff V P (fun k=>k) (hR.2.2.2 (d+1) (j+1+1+1) (by omega) (by omega) hj3) (fun k hk=>⟨by omega,Nat.le_refl _,Nat.zero_le _⟩) (fun k l l' hk hjk hl hlr=> ?_)
    have h2:=hl.sz
    have h5:=eg l
    have hlen:=V.t.len
    refine sw_app V P k hk (Nat.le_refl _) (by simp;omega) (fun h=>⟨rfl,(hlr h).len⟩) ?_
    have hjoin:=LG.join V.t (LG.one V.t hn (Nat.le_of_lt hj)) hl (by omega) (Nat.le_of_lt hk)
    refine gt V P (i:=i) (by omega) (Nat.le_of_lt hk) (by omega) (fun z hz=> ?_)
    refine sw_inl hk (by omega) (Nat.le_refl _) (je V.t hjoin (Nat.le_refl _) (Nat.le_refl _) (by omega) (Nat.le_of_lt hk) (by rw[nsizes_append];simp only[cl];omega) (At2.yes hj1 (by omega) (by omega)) .no) (fun h=> ?_)
    rw[hz (by omega)]
    dsimp only
    rw[(ht (by omega)).2.1]
    exact ja (by omega) (by omega) (LR.append (LR.one (hr (by omega))) (hlr (by omega))) (ht.o (by omega)) oR_no
   ·refine gt V P (i:=i) (by omega) (Nat.le_of_lt hj2) (by omega) (fun z hz=> ?_)
    refine sw_inl hj2 (by omega) (Nat.le_refl _) (je V.t (LG.one V.t hn (Nat.le_of_lt hj)) (Nat.le_refl _) (by omega) (by omega) (Nat.le_of_lt hj2) (by simp only[cl];omega) (At2.yes hj1 (by omega) (by omega)) .no) (fun h=> ?_)
    rw[hz (by omega)]
    dsimp only
    rw[(ht (by omega)).2.1]
    exact ja (by omega) (by omega) (LR.one (hr (by omega))) (ht.o (by omega)) oR_no
  ·exact sw_next hj (Nat.le_refl _) hn hr
 ·exact sw_ok hj (Nat.le_refl _) hn hr
theorem primary_ok {d i:Nat} (hd:d<=100) (hf:10 * (100 - d)+10<f+1) (hi:i<D.T.length):XS D i (eh R (d:Int) (D.p i)) (eh R (d:Int) (D.p' i)):=by
 have hlen:=V.t.len
 have P0:=pFin V (s:=0) (fun n j=>NG D.x D.T n i j) (NR D)
 have hj2:SW (Fin' D 0 (fun n j=>NG D.x D.T n i j) (NR D)) (i+1) (dg R (D.p i) (d:Int)) (dg R (D.p' i) (d:Int)):=by
  unfold dg gh dn ei
  refine sw_met V P0 hi (by omega) (fun _ hi1=>ii (fun _=> ?_) (fun h=>by cases h)) (fun _=>ii (fun h=>by cases h) (fun _=> ?_))
  ·refine sw_name V P0 hi1 (Nat.le_refl _) (fun _ hi2 t' ht=> ?_)
   refine sw_up V P0 (b':=i+1+1+1) ?_
   refine i9 V P0 hi2 (by omega) (fun _ hi3=> ?_)
   refine i9 V P0 hi3 (by omega) (fun _ hi4=> ?_)
   refine sw_up V P0 (b':=i+1+1+1+1) ?_
   refine gt V P0 (i:=i) (by omega) (Nat.le_of_lt hi4) (by omega) (fun z hz=> ?_)
   refine sw_ok hi4 (Nat.le_refl _) (je V.t (LG.nil D.x D.T i) (Nat.le_refl _) (by omega) (by omega) (Nat.le_of_lt hi4) (by simp only[cl];omega) (At2.yes hi1 (by omega) (by omega)) .no) (fun h=> ?_)
   rw[hz (by omega)]
   dsimp only
   rw[(ht (by omega)).2.1]
   exact ja (by omega) (by omega) LR.nil (ht.o (by omega)) oR_no
  refine sw_met V P0 hi (by omega) (fun _ hi1=>ii (fun _=> ?_) (fun h=>by cases h)) (fun _=>ii (fun h=>by cases h) (fun _=> ?_))
  ·refine ff V P0 (fun k=>k) (hR.1 d 0 (i+1) hd (by omega) (by omega) hi1) (fun k hk=>⟨by omega,Nat.le_refl _,Nat.zero_le _⟩) (fun j n n' hj hbj hn hr=> ?_)
   refine i9 V P0 hj (Nat.le_refl _) (fun _ hj1=> ?_)
   exact sw_ok hj1 (by omega) (NG.widen V.t hn (by omega) (by omega) (Nat.le_of_lt hj1)) (fun h=>hr (by omega))
  ·exact sw_fail V P0 (.inl rfl) hi
 unfold eh XS
 refine sw_now V P0 hi (by omega) (fun t' ht=> ?_)
 have hmk:∀{k nn:Int} {t:List UInt8} {at_:Int},i+1<D.T.length->At2 D.T i (i+1) at_ t->NG D.x D.T ⟨k,t,[],nn,aT D.T i,eT D.T (i+1),at_, -1,[]⟩ i (i+1):=fun h1 h2=>
  je V.t (LG.nil D.x D.T i) (Nat.le_refl _) (by omega) (by omega) (Nat.le_of_lt h1) (by simp only[cl];omega) h2 .no
 have hmr:∀{k nn:Int} {t:List UInt8} {a a':Int},i+1<D.N+0->oR D a a'->NR D ⟨k,t,[],nn,aT D.T i,eT D.T (i+1),a, -1,[]⟩ ⟨k,t,[],nn,aT D.T' (i+D.k),eT D.T' (i+1+D.k),a', -1,[]⟩:=fun h h1=>
  ja (by omega) (by omega) LR.nil h1 oR_no
 refine sw_ite V P0 hi (by omega) (fun h=>by rw[(ht h).1]) (fun hk=> ?_) (fun hk=>sw_ite V P0 hi (by omega) (fun h=>by rw[(ht h).1]) (fun hk2=> ?_) (fun hk2=>sw_ite V P0 hi (by omega) (fun h=>by rw[(ht h).1]) (fun hk3=> ?_) (fun hk3=>hj2)))
 ·have hk:(D.tk i).Kind=2:=by simpa using hk
  have hi1:i+1<D.T.length:=ne_last V.t hi (by rw[tk_eq V hi];omega)
  obtain⟨v,b,hv⟩:=V.t.num i hi (by rw[tk_eq V hi];exact hk)
  rw[tk_eq V hi]at hv
  refine sw_step V P0 hi (by omega) (fun u' hu=> ?_)
  refine gt V P0 (i:=i) (by omega) (Nat.le_of_lt hi1) (by omega) (fun z hz=> ?_)
  refine sw_eq V P0 i (v,b) hi (by omega) hv (fun h=>by rw[(ht h).2.1];exact hv) ?_
  refine sw_ok hi1 (Nat.le_refl _) (hmk hi1 .no) (fun h=> ?_)
  rw[hz (by omega)]
  exact hmr h oR_no
 ·have hk2:(D.tk i).Kind=1:=by simpa using hk2
  have hi1:i+1<D.T.length:=ne_last V.t hi (by rw[tk_eq V hi];omega)
  refine sw_step V P0 hi (by omega) (fun u' hu=> ?_)
  unfold gg gf dn ei
  refine sw_met V P0 hi1 (Nat.le_refl _) (fun _ hi2=>ii (fun h=>by cases h) (fun _=> ?_)) (fun _=>ii (fun _=> ?_) (fun h=>by cases h))
  ·refine ff V P0 (fun k=>k) (hR.2.2.2 d (i+1+1) hd (by omega) hi2) (fun k hk=>⟨by omega,Nat.le_refl _,Nat.zero_le _⟩) (fun k l l' hk hjk hl hlr=> ?_)
   have h2:=hl.sz
   refine gt V P0 (i:=i) (by omega) (Nat.le_of_lt hk) (by omega) (fun z hz=> ?_)
   refine sw_ok hk (Nat.le_refl _) (je V.t hl (by omega) (Nat.le_refl _) (by omega) (Nat.le_of_lt hk) (by omega) (At2.yes hi (by omega) (by omega)) .no) (fun h=> ?_)
   rw[hz (by omega)]
   dsimp only
   rw[(ht (by omega)).2.1]
   exact ja (by omega) (by omega) (hlr (by omega)) (ht.o (by omega)) oR_no
  ·refine gt V P0 (i:=i) (by omega) (Nat.le_of_lt hi1) (by omega) (fun z hz=> ?_)
   refine sw_ok hi1 (Nat.le_refl _) (hmk hi1 (At2.yes hi (by omega) (by omega))) (fun h=> ?_)
   rw[hz (by omega)]
   dsimp only
   rw[(ht (by omega)).2.1]
   exact hmr h (ht.o (by omega))
 ·have hk3:(D.tk i).Kind=3:=by simpa using hk3
  have hi1:i+1<D.T.length:=ne_last V.t hi (by rw[tk_eq V hi];omega)
  refine sw_eq V P0 i _ hi (by omega) rfl (fun _=>rfl) ?_
  unfold ge
  refine sw_ite V P0 hi (by omega) (fun h=>by rw[(ht h).2.1]) (fun _=> ?_) (fun _=>hj2)
  refine sw_step V P0 hi (by omega) (fun u' hu=> ?_)
  by_cases hn:i<D.N
  ·rw[(ht hn).2.1]
   refine gt V P0 (i:=i) (by omega) (Nat.le_of_lt hi1) (by omega) (fun z hz=> ?_)
   refine sw_ok hi1 (Nat.le_refl _) (hmk hi1 .no) (fun h=> ?_)
   rw[hz (by omega)]
   exact hmr h oR_no
  ·refine jy V P0 hi hn (by omega) (gt V P0 (i:=i) (l':=[]) (F':=fun x33=>some (.ok (x33,D.p' (i+1)))) (by omega) (Nat.le_of_lt hi1) (by omega) (fun z hz=> ?_))
   exact sw_ok hi1 (Nat.le_refl _) (hmk hi1 .no) (fun h=>by omega)
omit hR in
theorem specX :∀f:Nat,SpecX D (bz f) f
 | 0=>⟨fun _ _ _ _ _ h=>absurd h (by omega),fun _ _ _ h=>absurd h (by omega),fun _ _ _ h=>absurd h (by omega),fun _ _ _ h=>absurd h (by omega)⟩
 |f+1=>⟨fun d l i h1 h2 h3 h4=>expr_ok V (specX f) h1 h2 h3 h4,fun d i h1 h2 h3=>unary_ok V (specX f) h1 h2 h3,fun d i h1 h2 h3=>primary_ok V (specX f) h1 h2 h3,fun d i h1 h2 h3=>args_ok V (specX f) h1 h2 h3⟩
omit hR in
theorem expression_ok {d i:Nat} (hd:d<=100) (hi:i<D.T.length):XS D i (ce (d:Int) 0 (D.p i)) (ce (d:Int) 0 (D.p' i)):=
 (specX V 1048576).1 d 0 i hd (by omega) (by omega) hi
end
end Go.Proofs.YtackaijkmkollaaGreatDoor
