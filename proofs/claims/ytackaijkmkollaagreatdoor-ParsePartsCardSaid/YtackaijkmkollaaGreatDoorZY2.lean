/- Two texts' tokens side by side, and what takes them: the rules. -/
import Derived.Test.YtackaijkmkollaaGreatDoorZY1
set_option linter.unusedSimpArgs false
set_option linter.unusedVariables false
set_option linter.unusedSectionVars false
set_option linter.unusedSectionVars false
set_option linter.unusedVariables false
set_option linter.unusedSimpArgs false
set_option maxHeartbeats 4000000
namespace Go.Proofs.YtackaijkmkollaaGreatDoor
open Go Go.Cn
structure Dt where
 x:List UInt8
 x':List UInt8
 T:List ApiToken
 T':List ApiToken
 N:Nat
 k:Nat
 full:Prop
namespace Dt
variable (D:Dt)
abbrev tk (i:Nat):ApiToken:=D.T.getD i cq
abbrev p (i:Nat):ParseParser:=⟨D.T,(i:Int)⟩
abbrev p' (i:Nat):ParseParser:=⟨D.T',((i+D.k:Nat):Int)⟩
end Dt
structure Two (D:Dt):Prop where
 t:TokP D.x D.T
 t':TokP D.x' D.T'
 le:D.N<=D.T.length
 le':D.N+D.k<=D.T'.length
 ag:∀i,i<D.N->(D.T'.getD (i+D.k) cq).Kind=(D.tk i).Kind/\(D.T'.getD (i+D.k) cq).Text=(D.tk i).Text
 all:D.full->D.N=D.T.length/\D.T'.length=D.N+D.k
def TR (D:Dt) (i:Nat) (t':ApiToken):Prop:=i<D.N->t'.Kind=(D.tk i).Kind/\t'.Text=(D.tk i).Text/\t'.At=aT D.T' (i+D.k)
def aR (D:Dt) (a a':Int):Prop:=∃i,i<D.N/\a=aT D.T i/\a'=aT D.T' (i+D.k)
def eR (D:Dt) (a a':Int):Prop:=∃j,0<j/\j<=D.N/\a=eT D.T j/\a'=eT D.T' (j+D.k)
def oR (D:Dt) (a a':Int):Prop:=(a= -1/\a'= -1)\/aR D a a'
mutual
def NR (D:Dt):ApiNode->ApiNode->Prop
 |⟨kd,t,y,n,f,to,a,ta,kids⟩,m=>(m.Kind=kd/\m.Text=t/\m.Type_=y/\m.N=n/\aR D f m.From/\eR D to m.To/\oR D a m.At/\oR D ta m.TypeAt)/\LR D kids m.Kids
def LR (D:Dt):List ApiNode->List ApiNode->Prop
 | [],m=>m=[]
 |n::l,m=>∃a b,m=a::b/\NR D n a/\LR D l b
end
theorem NR_eq (D:Dt) (n m:ApiNode):NR D n m↔((m.Kind=n.Kind/\m.Text=n.Text/\m.Type_=n.Type_/\m.N=n.N/\aR D n.From m.From/\eR D n.To m.To/\oR D n.At m.At/\oR D n.TypeAt m.TypeAt)/\LR D n.Kids m.Kids):=by
 cases n;simp[NR]
theorem LR.len {D:Dt}:∀{l m:List ApiNode},LR D l m->m.length=l.length
 | [],m,h=>by simp only[LR]at h;simp[h]
 |n::l,m,h=>by
  simp only[LR]at h
  obtain⟨a,b,rfl,_,h2⟩:=h
  simp[LR.len h2]
theorem LR.append {D:Dt}:∀{l m l2 m2:List ApiNode},LR D l m->LR D l2 m2->LR D (l++l2) (m++m2)
 | [],m,l2,m2,h,h2=>by simp only[LR]at h;subst h;exact h2
 |n::l,m,l2,m2,h,h2=>by
  simp only[LR]at h
  obtain⟨a,b,rfl,h3,h4⟩:=h
  exact⟨a,b++m2,rfl,h3,LR.append h4 h2⟩
theorem LR.nil {D:Dt}:LR D [] []:=rfl
theorem LR.one {D:Dt} {n m:ApiNode} (h:NR D n m):LR D [n] [m]:=⟨m,[],rfl,h,rfl⟩
theorem LR.two {D:Dt} {n m a b:ApiNode} (h:NR D n m) (h2:NR D a b):LR D [n,a] [m,b]:=⟨m,[b],rfl,h,b,[],rfl,h2,rfl⟩
def Fin' (D:Dt) (s:Nat) {α:Type} (Q:α->Nat->Prop) (Re:α->α->Prop) (b:Nat) (r:PX ParseWrong (α × ParseParser)) (Y:PX ParseWrong (α × ParseParser)->Prop):Prop:=
 match r with
 | .ok a=>∃j,a.2=D.p j/\j<D.T.length/\b<=j/\Q a.1 j/\(j<D.N+s->∃a',Y (.ok (a',D.p' j))/\Re a.1 a')
 | .bad m=>BadE D.x m/\(D.full->∃m',Y (.bad m')/\m'.m.Code=m.m.Code)
def FinS (D:Dt) (s:Nat) {α Ω:Type} (I:α->Nat->Prop) (J:α->α->Prop) (W:Nat->Ω->(Ω->Prop)->Prop) (j0:Nat) (b:Nat) (z:(ParseParser × α) ⊕ Ω) (Y:(ParseParser × α) ⊕ Ω->Prop):Prop:=
 match z with
 | .inl st=>∃j,st.1=D.p j/\I st.2 j/\j<D.T.length/\j0<j/\b<=j+s/\(j<D.N->∃a',Y (.inl (D.p' j,a'))/\J st.2 a')
 | .inr w=>W b w (fun v=>Y (.inr v))
def FinF (D:Dt) (s:Nat) {α β:Type} (I:α->Nat->Prop) (J:α->α->Prop) (Q:β->Nat->Prop) (Re:β->β->Prop) (b:Nat) (z:Flow (ParseParser × α) (PX ParseWrong (β × ParseParser))) (Y:Flow (ParseParser × α) (PX ParseWrong (β × ParseParser))->Prop):Prop:=
 match z with
 | .next st=>∃j,st.1=D.p j/\I st.2 j/\j<D.T.length/\b<=j/\(j<D.N+s->∃a',Y (.next (D.p' j,a'))/\J st.2 a')
 | .done r=>Fin' D s Q Re b r (fun v=>Y (.done v))
structure Pst (D:Dt) (s:Nat) {Ω:Type} (W:Nat->Ω->(Ω->Prop)->Prop) (bad:ParseWrong->Ω):Prop where
 mono:∀{b b' r Y},b<=b'->W b' r Y->W b r Y
 sub:∀{b r Y Y'},(∀v,Y v->Y' v)->W b r Y->W b r Y'
 away:∀{i b r Y Y'},i<D.T.length->¬i<D.N->i+s<=b->W b r Y->W b r Y'
 bad:∀{b m Y},BadE D.x m->(D.full->∃m',Y (bad m')/\m'.m.Code=m.m.Code)->W b (bad m) Y
def SW {Ω:Type} (W:Nat->Ω->(Ω->Prop)->Prop) (b:Nat) (y y':Option Ω):Prop:=∃r,y=some r/\W b r (fun v=>y'=some v)
section
variable {D:Dt} (V:Two D)
include V
theorem pFin {s:Nat} {α:Type} (Q:α->Nat->Prop) (Re:α->α->Prop):Pst D s (Fin' D s Q Re) PX.bad where
 mono {b b' r Y} h hw:=by
  cases r with
  |ok a=>obtain⟨j,h1,h2,h3,h4⟩:=hw;exact⟨j,h1,h2,by omega,h4⟩
  |bad m=>exact hw
 sub {b r Y Y'} h hw:=by
  cases r with
  |ok a=>obtain⟨j,h1,h2,h3,h4,h5⟩:=hw;exact⟨j,h1,h2,h3,h4,fun hj=>by obtain⟨a',e,hr⟩:=h5 hj;exact⟨a',h _ e,hr⟩⟩
  |bad m=>exact⟨hw.1,fun hf=>by obtain⟨m',e,hr⟩:=hw.2 hf;exact⟨m',h _ e,hr⟩⟩
 away {i b r Y Y'} hi hn hb hw:=by
  cases r with
  |ok a=>obtain⟨j,h1,h2,h3,h4,h5⟩:=hw;exact⟨j,h1,h2,h3,h4,fun hj=>by omega⟩
  |bad m=>exact⟨hw.1,fun hf=>by have:=(V.all hf).1;omega⟩
 bad {b m Y} h1 h2:=⟨h1,h2⟩
theorem pFinS {s:Nat} {α Ω:Type} (I:α->Nat->Prop) (J:α->α->Prop) {W:Nat->Ω->(Ω->Prop)->Prop} {bad:ParseWrong->Ω} (P:Pst D s W bad) (j0:Nat):Pst D s (FinS D s I J W j0) (fun m=> .inr (bad m)) where
 mono {b b' r Y} h hw:=by
  cases r with
  |inl a=>obtain⟨j,h1,h2,h3,h4,h5,h6⟩:=hw;exact⟨j,h1,h2,h3,h4,by omega,h6⟩
  |inr w=>exact P.mono h hw
 sub {b r Y Y'} h hw:=by
  cases r with
  |inl a=>obtain⟨j,h1,h2,h3,h4,h5,h6⟩:=hw;exact⟨j,h1,h2,h3,h4,h5,fun hj=>by obtain⟨a',e,hr⟩:=h6 hj;exact⟨a',h _ e,hr⟩⟩
  |inr w=>exact P.sub (fun v hv=>h _ hv) hw
 away {i b r Y Y'} hi hn hb hw:=by
  cases r with
  |inl a=>obtain⟨j,h1,h2,h3,h4,h5,h6⟩:=hw;exact⟨j,h1,h2,h3,h4,h5,fun hj=>by omega⟩
  |inr w=>exact P.away hi hn hb hw
 bad {b m Y} h1 h2:=P.bad h1 h2
theorem pFinF {s:Nat} {α β:Type} (I:α->Nat->Prop) (J:α->α->Prop) (Q:β->Nat->Prop) (Re:β->β->Prop):Pst D s (FinF D s I J Q Re) (fun m=> .done (.bad m)) where
 mono {b b' r Y} h hw:=by
  cases r with
  |next a=>obtain⟨j,h1,h2,h3,h4,h6⟩:=hw;exact⟨j,h1,h2,h3,by omega,h6⟩
  |done w=>exact(pFin V Q Re).mono (Y:=fun v=>Y (.done v)) h hw
 sub {b r Y Y'} h hw:=by
  cases r with
  |next a=>obtain⟨j,h1,h2,h3,h4,h6⟩:=hw;exact⟨j,h1,h2,h3,h4,fun hj=>by obtain⟨a',e,hr⟩:=h6 hj;exact⟨a',h _ e,hr⟩⟩
  |done w=>exact(pFin V Q Re).sub (Y:=fun v=>Y (.done v)) (fun v hv=>h _ hv) hw
 away {i b r Y Y'} hi hn hb hw:=by
  cases r with
  |next a=>obtain⟨j,h1,h2,h3,h4,h6⟩:=hw;exact⟨j,h1,h2,h3,h4,fun hj=>by omega⟩
  |done w=>exact(pFin V Q Re).away (Y:=fun v=>Y (.done v)) (Y':=fun v=>Y' (.done v)) hi hn hb hw
 bad {b m Y} h1 h2:=⟨h1,h2⟩
theorem tk_eq {i:Nat} (h:i<D.T.length):D.T[i]=D.tk i:=by simp[Dt.tk,List.getD,h]
theorem ag_eq {i:Nat} (h:i<D.N):∃h':i+D.k<D.T'.length,D.T'[i+D.k].Kind=(D.tk i).Kind/\D.T'[i+D.k].Text=(D.tk i).Text/\D.T'[i+D.k].At=aT D.T' (i+D.k):=by
 have h1:=V.le'
 have h':i+D.k<D.T'.length:=by omega
 have h2:=V.ag i h
 have e:D.T'.getD (i+D.k) cq=D.T'[i+D.k]:=by simp[List.getD,h']
 rw[e]at h2
 exact⟨h',h2.1,h2.2,(aT_eq V.t' h').symm⟩
theorem isB_ag {i:Nat} {t':ApiToken} (h:TR D i t') (s:List UInt8):i<D.N->isB t' s=isB (D.tk i) s:=fun hi=>by
 obtain⟨h1,h2,_⟩:=h hi
 unfold isB
 rw[h1,h2]
theorem isTy_ag {i:Nat} {t':ApiToken} (h:TR D i t'):i<D.N->isTy t'=isTy (D.tk i):=fun hi=>by
 obtain⟨h1,h2,_⟩:=h hi
 unfold isTy
 rw[isB_ag V h _ hi,isB_ag V h _ hi,isB_ag V h _ hi,h1]
theorem TR_tok {i:Nat} (h:i<D.N):∃h':i+D.k<D.T'.length,TR D i D.T'[i+D.k]:=by
 obtain⟨h',h2⟩:=ag_eq V h
 exact⟨h',fun _=>h2⟩
variable {s:Nat} {Ω:Type} {W:Nat->Ω->(Ω->Prop)->Prop} {bad:ParseWrong->Ω} (P:Pst D s W bad)
include P
theorem sw_up {b b':Nat} {y y':Option Ω} (h:SW W b' y y') (hb:b<=b':=by omega):SW W b y y':=by
 obtain⟨r,e,h⟩:=h
 exact⟨r,e,P.mono hb h⟩
theorem jy {i b:Nat} {y y1 y2:Option Ω} (hi:i<D.T.length) (hn:¬i<D.N) (hb:i+s<=b) (h:SW W b y y1):SW W b y y2:=by
 obtain⟨r,e,h⟩:=h
 exact⟨r,e,P.away hi hn hb h⟩
theorem sw_val {β:Type} {b:Nat} {y y':Option β} {F F':β->Option Ω} (i:Nat) (v:β) (Rv:β->Prop) (hi:i<D.T.length) (hb:i+s<=b) (hy:y=some v) (hy':i<D.N->∃v',y'=some v'/\Rv v') (h:∀v',(i<D.N->Rv v')->SW W b (F v) (F' v')):SW W b (y.bind F) (y'.bind F'):=by
 subst hy
 by_cases hn:i<D.N
 ·obtain⟨v',rfl,hv⟩:=hy' hn
  exact h v' (fun _=>hv)
 ·exact jy V P hi hn hb (h v (fun h=>absurd h hn))
theorem sw_now {b i:Nat} {F F':ApiToken->Option Ω} (hi:i<D.T.length) (hb:i+s<=b) (h:∀t',TR D i t'->SW W b (F (D.tk i)) (F' t')):SW W b ((bb (D.p i)).bind F) ((bb (D.p' i)).bind F'):=by
 refine sw_val V P i (D.tk i) (TR D i) hi hb (by rw[now_eq V.t hi,tk_eq V hi]) (fun hn=> ?_) (fun t' ht=>h t' (fun hn=>ht hn hn))
 obtain⟨h',ht⟩:=TR_tok V hn
 exact⟨_,now_eq V.t' h',ht⟩
theorem sw_step {b i:Nat} {F F':ApiToken × ParseParser->Option Ω} (hi:i<D.T.length) (hb:i+s<=b) (h:∀t',TR D i t'->SW W b (F (D.tk i,D.p (i+1))) (F' (t',D.p' (i+1)))):SW W b ((cg (D.p i)).bind F) ((cg (D.p' i)).bind F'):=by
 by_cases hn:i<D.N
 ·obtain⟨h',ht⟩:=TR_tok V hn
  rw[step_eq V.t hi,tk_eq V hi,step_eq V.t' h',Option.bind_some,Option.bind_some]
  have:=h _ ht
  simp only[Dt.p',Nat.add_right_comm i 1 D.k]at this
  exact this
 ·rw[step_eq V.t hi,tk_eq V hi,Option.bind_some]
  exact jy V P hi hn hb (h (D.tk i) (fun h=>absurd h hn))
theorem sw_ite {b i:Nat} {c c':Bool} {a a' d d':Option Ω} (hi:i<D.T.length) (hb:i+s<=b) (hc:i<D.N->c'=c) (h1:c=true->SW W b a a') (h2:c=false->SW W b d d'):SW W b (if c=true then a else d) (if c'=true then a' else d'):=by
 by_cases hn:i<D.N
 ·rw[hc hn]
  cases c
  ·exact h2 rfl
  ·exact h1 rfl
 ·cases c
  ·exact jy V P hi hn hb (h2 rfl)
  ·exact jy V P hi hn hb (h1 rfl)
omit V P in
theorem ii {b:Nat} {c:Bool} {a a' d d':Option Ω} (h1:c=true->SW W b a a') (h2:c=false->SW W b d d'):SW W b (if c=true then a else d) (if c=true then a' else d'):=by
 cases c
 ·exact h2 rfl
 ·exact h1 rfl
theorem sw_met {b i:Nat} {F F':Bool × ParseParser->Option Ω} {t:List UInt8} (hi:i<D.T.length) (hb:i+s<=b) (h1:isB (D.tk i) t=true->i+1<D.T.length->SW W b (F (true,D.p (i+1))) (F' (true,D.p' (i+1)))) (h2:isB (D.tk i) t=false->SW W b (F (false,D.p i)) (F' (false,D.p' i))):SW W b ((a4 t (D.p i)).bind F) ((a4 t (D.p' i)).bind F'):=by
 have e1:=met_eq V.t hi t
 rw[tk_eq V hi]at e1
 by_cases hn:i<D.N
 ·obtain⟨h',ht⟩:=TR_tok V hn
  have e2:=met_eq V.t' h' t
  rw[isB_ag V ht t hn]at e2
  simp only[Dt.p,Dt.p']
  rw[e1,e2]
  cases hB:isB (D.tk i) t with
  |false=>exact h2 hB
  |true=>
   have h3:=h1 hB (by rw[← tk_eq V hi]at hB;exact isB_lt V.t hi hB)
   simp only[Dt.p',Nat.add_right_comm i 1 D.k]at h3
   exact h3
 ·simp only[Dt.p]
  rw[e1]
  cases hB:isB (D.tk i) t with
  |false=>exact jy V P hi hn hb (h2 hB)
  |true=>exact jy V P hi hn hb (h1 hB (by rw[← tk_eq V hi]at hB;exact isB_lt V.t hi hB))
theorem sw_det {β:Type} {b:Nat} {y y':Option (PX ParseWrong β)} {F F':β->Option Ω} (i:Nat) (c:Bool) (v:β) (m:ParseWrong) (Rv:β->Prop) (hi:i<D.T.length) (hb:i+s<=b) (hy:y=some (if c=true then .ok v else .bad m)) (hm:BadE D.x m) (hy':i<D.N->∃v' m',y'=some (if c=true then .ok v' else .bad m')/\Rv v'/\m'.m.Code=m.m.Code) (h:c=true->∀v',(i<D.N->Rv v')->SW W b (F v) (F' v')):
  SW W b (bm y (fun m=>some (bad m)) F) (bm y' (fun m=>some (bad m)) F'):=by
 subst hy
 by_cases hn:i<D.N
 ·obtain⟨v',m',rfl,hv,hc⟩:=hy' hn
  cases c
  ·exact⟨bad m,rfl,P.bad hm (fun _=>⟨m',rfl,hc⟩)⟩
  ·exact h rfl v' (fun _=>hv)
 ·cases c
  ·exact⟨bad m,rfl,P.bad hm (fun hf=>by have:=(V.all hf).1;omega)⟩
  ·exact jy V P hi hn hb (h rfl v (fun h=>absurd h hn))
omit V P in
theorem fail_eq {x:List UInt8} {T:List ApiToken} (hT:TokP x T) {i:Nat} (h:i<T.length) (c:Int):bn c ⟨T,(i:Int)⟩=some (.bad ⟨⟨c,0,T[i].At⟩⟩):=by
 unfold bn
 rw[now_eq hT h,Option.bind_some]
omit V P in
theorem badE_at {x:List UInt8} {T:List ApiToken} (hT:TokP x T) {i:Nat} (h:i<T.length) {c:Int} (hc:c=120\/c=2):BadE x ⟨⟨c,0,T[i].At⟩⟩:=by
 have h1:=aT_nat hT h
 rw[aT_eq hT h]at h1
 exact⟨rfl,h1.1,(show T[i].At<=(x.length:Int)by omega),hc⟩
omit V P in
theorem need_eq {x:List UInt8} {T:List ApiToken} (hT:TokP x T) {i:Nat} (h:i<T.length) (t:List UInt8):ay t ⟨T,(i:Int)⟩=some (if isB T[i] t=true then .ok ⟨T,((i+1:Nat):Int)⟩else .bad ⟨⟨120,0,T[i].At⟩⟩):=by
 unfold ay
 rw[met_eq hT h,Option.bind_some]
 cases isB T[i] t
 ·simp only[Bool.false_eq_true,if_false,Bool.not_false,if_true]
  rw[fail_eq hT h]
  rfl
 ·rfl
omit V P in
theorem name_eq {x:List UInt8} {T:List ApiToken} (hT:TokP x T) {i:Nat} (h:i<T.length):ca ⟨T,(i:Int)⟩=some (if(T[i].Kind==1)=true then .ok (T[i],⟨T,((i+1:Nat):Int)⟩)else .bad ⟨⟨120,0,T[i].At⟩⟩):=by
 unfold ca ga
 rw[now_eq hT h,Option.bind_some]
 cases hk:T[i].Kind==1
 ·rw[if_pos (by simpa [bne] using hk),fail_eq hT h]
  rfl
 ·rw[if_neg (by simpa [bne] using hk),step_eq hT h]
  rfl
omit V P in
theorem value_eq {x:List UInt8} {T:List ApiToken} (hT:TokP x T) {i:Nat} (h:i<T.length):ec ⟨T,(i:Int)⟩=some (if(isTy T[i]&& !isB T[i] [118,111,105,100])=true then .ok (T[i],⟨T,((i+1:Nat):Int)⟩)else .bad ⟨⟨120,0,T[i].At⟩⟩):=by
 unfold ec fr fu
 rw[now_eq hT h,Option.bind_some,isType_eq,Option.bind_some,is_eq hT h,Option.bind_some,fail_eq hT h,step_eq hT h]
 cases isTy T[i]<;>cases isB T[i] [118,111,105,100]<;>rfl
theorem sw_fail {b i:Nat} {F F':ParseParser->Option Ω} {c:Int} (hc:c=120\/c=2) (hi:i<D.T.length):SW W b (bm (bn c (D.p i)) (fun m=>some (bad m)) F) (bm (bn c (D.p' i)) (fun m=>some (bad m)) F'):=by
 simp only[Dt.p]
 rw[fail_eq V.t hi]
 refine⟨_,rfl,P.bad (badE_at V.t hi hc) (fun hf=> ?_)⟩
 obtain⟨h1,h2⟩:=V.all hf
 obtain⟨h',_⟩:=TR_tok V (i:=i) (by omega)
 simp only[Dt.p']
 rw[fail_eq V.t' h']
 exact⟨_,rfl,rfl⟩
theorem i9 {b i:Nat} {F F':ParseParser->Option Ω} {t:List UInt8} (hi:i<D.T.length) (hb:i+s<=b) (h:isB (D.tk i) t=true->i+1<D.T.length->SW W b (F (D.p (i+1))) (F' (D.p' (i+1)))):SW W b (bm (ay t (D.p i)) (fun m=>some (bad m)) F) (bm (ay t (D.p' i)) (fun m=>some (bad m)) F'):=by
 refine sw_det V P i (isB (D.tk i) t) (D.p (i+1)) ⟨⟨120,0,D.T[i].At⟩⟩ (fun p=>p=D.p' (i+1)) hi hb (by rw[need_eq V.t hi,tk_eq V hi]) (badE_at V.t hi (.inl rfl)) (fun hn=> ?_) (fun hB v' hv=> ?_)
 ·obtain⟨h',ht⟩:=TR_tok V hn
  refine⟨_,⟨⟨120,0,D.T'[i+D.k].At⟩⟩,by rw[need_eq V.t' h',isB_ag V ht t hn],?_,rfl⟩
  simp only[Dt.p',Nat.add_right_comm i 1 D.k]
 ·have h3:=h hB (by rw[← tk_eq V hi]at hB;exact isB_lt V.t hi hB)
  by_cases hn:i<D.N
  ·obtain rfl:=hv hn
   exact h3
  ·exact jy V P hi hn hb h3
theorem sw_name {b i:Nat} {F F':ApiToken × ParseParser->Option Ω} (hi:i<D.T.length) (hb:i+s<=b) (h:(D.tk i).Kind=1->i+1<D.T.length->∀t',TR D i t'->SW W b (F (D.tk i,D.p (i+1))) (F' (t',D.p' (i+1)))):SW W b (bm (ca (D.p i)) (fun m=>some (bad m)) F) (bm (ca (D.p' i)) (fun m=>some (bad m)) F'):=by
 refine sw_det V P i ((D.tk i).Kind==1) (D.tk i,D.p (i+1)) ⟨⟨120,0,D.T[i].At⟩⟩ (fun p=>p.2=D.p' (i+1)/\TR D i p.1) hi hb (by rw[name_eq V.t hi,tk_eq V hi]) (badE_at V.t hi (.inl rfl)) (fun hn=> ?_) (fun hB v' hv=> ?_)
 ·obtain⟨h',ht⟩:=TR_tok V hn
  refine⟨_,⟨⟨120,0,D.T'[i+D.k].At⟩⟩,by rw[name_eq V.t' h',(ht hn).1],?_,rfl⟩
  simp only[Dt.p',Nat.add_right_comm i 1 D.k]
  exact⟨trivial,ht⟩
 ·have hB:(D.tk i).Kind=1:=by simpa using hB
  have hlt:i+1<D.T.length:=ne_last V.t hi (by rw[tk_eq V hi,hB];decide)
  by_cases hn:i<D.N
  ·obtain⟨t',p'⟩:=v'
   obtain⟨rfl,ht⟩:=hv hn
   exact h hB hlt t' ht
  ·exact jy V P hi hn hb (h hB hlt (D.tk i) (fun h=>absurd h hn))
theorem sw_value {b i:Nat} {F F':ApiToken × ParseParser->Option Ω} (hi:i<D.T.length) (hb:i+s<=b) (h:i+1<D.T.length->∀t',TR D i t'->SW W b (F (D.tk i,D.p (i+1))) (F' (t',D.p' (i+1)))):SW W b (bm (ec (D.p i)) (fun m=>some (bad m)) F) (bm (ec (D.p' i)) (fun m=>some (bad m)) F'):=by
 refine sw_det V P i (isTy (D.tk i)&& !isB (D.tk i) [118,111,105,100]) (D.tk i,D.p (i+1)) ⟨⟨120,0,D.T[i].At⟩⟩ (fun p=>p.2=D.p' (i+1)/\TR D i p.1) hi hb (by rw[value_eq V.t hi,tk_eq V hi]) (badE_at V.t hi (.inl rfl)) (fun hn=> ?_) (fun hB v' hv=> ?_)
 ·obtain⟨h',ht⟩:=TR_tok V hn
  refine⟨_,⟨⟨120,0,D.T'[i+D.k].At⟩⟩,by rw[value_eq V.t' h',isTy_ag V ht hn,isB_ag V ht _ hn],?_,rfl⟩
  simp only[Dt.p',Nat.add_right_comm i 1 D.k]
  exact⟨trivial,ht⟩
 ·have hB:isTy (D.tk i)=true:=by
   cases hc:isTy (D.tk i)
   ·rw[hc]at hB;simp at hB
   ·rfl
  have hlt:i+1<D.T.length:=isTy_lt V.t hi (by rw[tk_eq V hi];exact hB)
  by_cases hn:i<D.N
  ·obtain⟨t',p'⟩:=v'
   obtain⟨rfl,ht⟩:=hv hn
   exact h hlt t' ht
  ·exact jy V P hi hn hb (h hlt (D.tk i) (fun h=>absurd h hn))
theorem sw_limit {b i:Nat} {F F':ParseParser->Option Ω} {d:Int} (hi:i<D.T.length) (h:d<=60->SW W b (F (D.p i)) (F' (D.p' i))):SW W b (bm (ed d (D.p i)) (fun m=>some (bad m)) F) (bm (ed d (D.p' i)) (fun m=>some (bad m)) F'):=by
 unfold ed
 by_cases hd:d>60
 ·rw[if_pos (by simpa using hd),if_pos (by simpa using hd)]
  have h0:=sw_fail V P (b:=b) (F:=fun x5=>bm (some (.ok x5)) (fun m=>some (bad m)) F) (F':=fun x5=>bm (some (.ok x5)) (fun m=>some (bad m)) F') (c:=2) (.inr rfl) hi
  have hass:∀(y:Option (PX ParseWrong ParseParser)) (G:ParseParser->Option Ω),bm (bm y (fun m6=>some (.bad m6)) fun x5=>some (.ok x5)) (fun m=>some (bad m)) G=bm y (fun m=>some (bad m)) (fun x5=>bm (some (PX.ok (μ:=ParseWrong) x5)) (fun m=>some (bad m)) G):=by
   intro y G
   cases y with
   |none=>rfl
   |some r=>cases r<;>rfl
  rw[hass,hass]
  exact h0
 ·rw[if_neg (by simpa using hd),if_neg (by simpa using hd)]
  exact h (by omega)
theorem gt {b i j:Nat} {F F':ApiNode->Option Ω} {kd:Int} {l l':List ApiNode} (hij:i<j) (hj:j<=D.T.length) (hb:j+s<=b+1) (h:∀n',(j<=D.N->n'=⟨kd,[],[],0,aT D.T' (i+D.k),eT D.T' (j+D.k), -1, -1,l'⟩)->SW W b (F ⟨kd,[],[],0,aT D.T i,eT D.T j, -1, -1,l⟩) (F' n')):SW W b ((parse_parser_made (D.p j) kd (i:Int) l).bind F) ((parse_parser_made (D.p' j) kd ((i+D.k:Nat):Int) l').bind F'):=by
 refine sw_val V P (j - 1) _ (fun n'=>n'=⟨kd,[],[],0,aT D.T' (i+D.k),eT D.T' (j+D.k), -1, -1,l'⟩) (by omega) (by omega) (made_eq V.t (by omega) (by omega) hj kd l) (fun hn=> ?_) (fun n' hn'=>h n' (fun hjn=>hn' (by omega)))
 have h1:=V.le'
 exact⟨_,made_eq V.t' (by omega) (by omega) (by omega) kd l',rfl⟩
theorem ff {α:Type} {s1 b1 b:Nat} {Q:α->Nat->Prop} {Re:α->α->Prop} {y y':Option (PX ParseWrong (α × ParseParser))} {F F':α × ParseParser->Option Ω} (b2:Nat->Nat) (hy:SW (Fin' D s1 Q Re) b1 y y') (hb:∀j,b1<=j->b<=b2 j/\j+s<=b2 j+s1/\s1<=j) (h:∀j a a',j<D.T.length->b1<=j->Q a j->(j<D.N+s1->Re a a')->SW W (b2 j) (F (a,D.p j)) (F' (a',D.p' j))):
  SW W b (bm y (fun m=>some (bad m)) F) (bm y' (fun m=>some (bad m)) F'):=by
 obtain⟨r,rfl,hr⟩:=hy
 cases r with
 |bad m=>
  refine⟨bad m,rfl,P.bad hr.1 (fun hf=> ?_)⟩
  obtain⟨m',rfl,hc⟩:=hr.2 hf
  exact⟨m',rfl,hc⟩
 |ok a=>
  obtain⟨a,p⟩:=a
  obtain⟨j,rfl,h2,h3,h4,h5⟩:=hr
  obtain⟨h6,h7,h8⟩:=hb j h3
  by_cases hn:j<D.N+s1
  ·obtain⟨a',rfl,hre⟩:=h5 hn
   exact sw_up V P (h j a a' h2 h3 h4 (fun _=>hre)) h6
  ·exact sw_up V P (jy V P (i:=j - s1) (by omega) (by omega) (by omega) (h j a a h2 h3 h4 (fun h=>absurd h hn))) h6
theorem sw_iter {α:Type} {I:α->Nat->Prop} {J:α->α->Prop} {f f':ParseParser × α->Option ((ParseParser × α) ⊕ Ω)} {b j0:Nat} {a a':α} (hj0:j0<D.T.length) (h0:I a j0) (h0':j0<D.N->J a a') (hb:b<=j0+s)
  (h:∀j a a',j0<=j->j<D.T.length->I a j->(j<D.N->J a a')->SW (FinS D s I J W j) (j+s) (f (D.p j,a)) (f' (D.p' j,a'))):SW W b (iter f (D.p j0,a)) (iter f' (D.p' j0,a')):=by
 have H:∀(n j:Nat) (a a':α),D.T.length - j<=n->j0<=j->j<D.T.length->I a j->(j<D.N->J a a')->SW W (j+s) (iter f (D.p j,a)) (iter f' (D.p' j,a')):=by
  intro n
  induction n with
  |zero=>intro j a a' h1 h2 h3;omega
  |succ n ih=>
   intro j a a' h1 h2 h3 h4 h5
   obtain⟨z,hz,hW⟩:=h j a a' h2 h3 h4 h5
   cases z with
   |inr w=>
    rw[@iter_done noG _ _ _ _ _ hz]
    exact⟨w,rfl,P.sub (fun v hv=> @iter_done noG _ _ _ _ _ hv) hW⟩
   |inl st=>
    obtain⟨st1,st2⟩:=st
    obtain⟨j2,e,h6,h7,h8,h9,h10⟩:=hW
    simp only at e h6 h10
    subst e
    rw[@iter_next noG _ _ _ _ _ hz]
    by_cases hn:j2<D.N
    ·obtain⟨a2,e2,hJ⟩:=h10 hn
     rw[@iter_next noG _ _ _ _ _ e2]
     exact sw_up V P (ih j2 st2 a2 (by omega) (by omega) h7 h6 (fun _=>hJ))
    ·exact sw_up V P (jy V P h7 hn (Nat.le_refl _) (ih j2 st2 st2 (by omega) (by omega) h7 h6 (fun h=>absurd h hn)))
 exact sw_up V P (H _ j0 a a' (Nat.le_refl _) (Nat.le_refl _) hj0 h0 h0') hb
omit P in
theorem sw_flow {α β:Type} {I:α->Nat->Prop} {J:α->α->Prop} {Q:β->Nat->Prop} {Re:β->β->Prop} {b:Nat} {y y':Option (Flow (ParseParser × α) (PX ParseWrong (β × ParseParser)))} {K K':Flow (ParseParser × α) (PX ParseWrong (β × ParseParser))->Option (PX ParseWrong (β × ParseParser))} (hs:s<=1) (hy:SW (FinF D s I J Q Re) b y y') (hb1:s<=b)
  (h:∀j a a',j<D.T.length->b<=j->I a j->(j<D.N+s->J a a')->SW (Fin' D s Q Re) j (K (.next (D.p j,a))) (K' (.next (D.p' j,a'))))
  (h2:∀r,K (.done r)=some r) (h2':∀r,K' (.done r)=some r):SW (Fin' D s Q Re) b (y.bind K) (y'.bind K'):=by
 obtain⟨r,rfl,hr⟩:=hy
 cases r with
 |done r=>
  refine⟨r,h2 r,(pFin V Q Re).sub (Y:=fun v=>y'=some (.done v)) (fun v hv=> ?_) hr⟩
  rw[hv]
  exact h2' v
 |next st=>
  obtain⟨p,a⟩:=st
  obtain⟨j,e,h3,h4,h5,h6⟩:=hr
  simp only at e h3 h6
  subst e
  by_cases hn:j<D.N+s
  ·obtain⟨a',e,hJ⟩:=h6 hn
   rw[e]
   exact sw_up V (pFin V Q Re) (h j a a' h4 h5 h3 (fun _=>hJ))
  ·exact sw_up V (pFin V Q Re) (jy V (pFin V Q Re) (i:=j - s) (by omega) (by omega) (by omega) (h j a a h4 h5 h3 (fun h=>absurd h hn)))
omit V P in
theorem sw_ok {α:Type} {Q:α->Nat->Prop} {Re:α->α->Prop} {b j:Nat} {a a':α} (hj:j<D.T.length) (hb:b<=j) (hq:Q a j) (hr:j<D.N+s->Re a a'):SW (Fin' D s Q Re) b (some (.ok (a,D.p j))) (some (.ok (a',D.p' j))):=⟨_,rfl,j,rfl,hj,hb,hq,fun h=>⟨a',rfl,hr h⟩⟩
omit V P in
theorem sw_inr_ok {α γ:Type} {I:γ->Nat->Prop} {J:γ->γ->Prop} {Q:α->Nat->Prop} {Re:α->α->Prop} {j0 b j:Nat} {a a':α} (hj:j<D.T.length) (hb:b<=j) (hq:Q a j) (hr:j<D.N+s->Re a a'):SW (FinS D s I J (Fin' D s Q Re) j0) b (some (.inr (.ok (a,D.p j)))) (some (.inr (.ok (a',D.p' j)))):=⟨_,rfl,j,rfl,hj,hb,hq,fun h=>⟨a',rfl,hr h⟩⟩
omit V P in
theorem sw_inl {γ:Type} {I:γ->Nat->Prop} {J:γ->γ->Prop} {j0 b j:Nat} {a a':γ} (hj:j<D.T.length) (h0:j0<j) (hb:b<=j+s) (hq:I a j) (hr:j<D.N->J a a'):SW (FinS D s I J W j0) b (some (.inl (D.p j,a))) (some (.inl (D.p' j,a'))):=⟨_,rfl,j,rfl,hq,hj,h0,hb,fun h=>⟨a',rfl,hr h⟩⟩
omit V P in
theorem sw_next {α γ:Type} {I:γ->Nat->Prop} {J:γ->γ->Prop} {I2:γ->Nat->Prop} {J2:γ->γ->Prop} {Q:α->Nat->Prop} {Re:α->α->Prop} {j0 b j:Nat} {a a':γ} (hj:j<D.T.length) (hb:b<=j) (hq:I2 a j) (hr:j<D.N+s->J2 a a'):SW (FinS D s I J (FinF D s I2 J2 Q Re) j0) b (some (.inr (.next (D.p j,a)))) (some (.inr (.next (D.p' j,a')))):=⟨_,rfl,j,rfl,hq,hj,hb,fun h=>⟨a',rfl,hr h⟩⟩
end
end Go.Proofs.YtackaijkmkollaaGreatDoor
