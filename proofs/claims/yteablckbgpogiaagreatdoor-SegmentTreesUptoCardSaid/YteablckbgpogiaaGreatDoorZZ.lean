/- The program's files are the document's. -/
import Derived.Test.YteablckbgpogiaaGreatDoorZY
set_option linter.unusedSimpArgs false
set_option linter.unusedVariables false
set_option linter.unusedSectionVars false
set_option linter.unusedSectionVars false
set_option linter.unusedVariables false
set_option linter.unusedSimpArgs false
set_option maxHeartbeats 4000000
namespace Go.Proofs.YteablckbgpogiaaGreatDoor
open Go Go.Cn
structure TokW (T:List ApiToken):Prop where
 kind:∀i (h:i<T.length),T[i].Kind=1\/T[i].Kind=2\/T[i].Kind=3\/T[i].Kind=4\/T[i].Kind=5
 num:∀i (h:i<T.length),T[i].Kind=2->∃c l,T[i].Text=c::l/\(∀d∈c::l,dt d.toNat=true)/\valL 0 (c::l)<=2147483647
 word:∀i (h:i<T.length),T[i].Kind=3->kept.contains T[i].Text=true
 mark:∀i (h:i<T.length),T[i].Kind=4->kept.contains T[i].Text=false
 fin:∀i (h:i<T.length),T[i].Kind=5->T[i].Text=[]
def plainT (s:List UInt8):Bool:=match s with| []=>false|c::_=> !dt c.toNat
section
variable {x:List UInt8} {T:List ApiToken} (hT:TokP x T) (hW:TokW T)
include hT hW
theorem is_r {i:Nat} (h:i<T.length) {s:List UInt8} (hs:plainT s=true):bw T (i:Int) s=some (isB (T.getD i bo) s):=by
 have e0:T.getD i bo=T[i]:=by simp[List.getD,h]
 unfold bw q3
 rw[if_pos (by simp[h]),ix hT h,Option.bind_some,Option.bind_some,Option.bind_some,e0]
 unfold isB
 have hk:=hW.kind i h
 have hn:=hW.num i h
 by_cases ht:(T[i].Text==s)=true
 ·rw[if_pos ht,ht]
  have ht2:T[i].Text=s:=by simpa using ht
  rcases hk with hk|hk|hk|hk|hk
  ·rw[hk];rfl
  ·obtain⟨c,l,e,hd,_⟩:=hn hk
   rw[← ht2,e]at hs
   have:=hd c List.mem_cons_self
   simp[plainT,this]at hs
  ·rw[hk];rfl
  ·rw[hk];rfl
  ·rw[hk];rfl
 ·rw[if_neg ht]
  simp[ht]
theorem name_r {i:Nat} (h:i<T.length):gm T (i:Int)=some ((T.getD i bo).Kind==1):=by
 have e0:T.getD i bo=T[i]:=by simp[List.getD,h]
 unfold gm ref12_name_j1
 rw[if_pos (by simp[h]),ix hT h,Option.bind_some,e0]
theorem idx_r {i:Nat} (h:i<T.length):idx T (i:Int)=some (T.getD i bo):=by
 rw[ix hT h]
 simp[List.getD,h]
theorem made_r {i j:Nat} (hi:i<T.length) (h0:0<j) (hj:j<=T.length) (k:Int) (l:List ApiNode):dv T k (i:Int) (j:Int) l=some ⟨k,[],[],0,aT T i,eT T j, -1, -1,l⟩:=by
 have h1:=made_eq hT hi h0 hj k l
 unfold parse_parser_made at h1
 unfold dv ref12_made_j1 ref12_end ref12_end_j1
 simp only at h1
 cases e1:idx T (w64 ((j:Int) - 1))with
 |none=>rw[e1]at h1;cases h1
 |some a=>
  rw[e1]at h1
  cases e2:idx T (i:Int)with
  |none=>rw[e2]at h1;cases h1
  |some b=>
   rw[e2]at h1
   simp only[Option.bind_some]at h1 ⊢
   exact h1
theorem typed_r {i:Nat} (h:i+1<T.length) (n:ApiNode):o5 T n (i:Int)=some {{{{n with Type_:=(T.getD i bo).Text} with TypeAt:=(T.getD i bo).At} with Text:=(T.getD (i+1) bo).Text} with At:=(T.getD (i+1) bo).At}:=by
 have hl:=hT.len
 unfold o5
 rw[bh (by omega),idx_r hT hW (show i<T.length by omega),idx_r hT hW h]
 rfl
theorem end_r {j:Nat} (h0:0<j) (hj:j<=T.length):ref12_end T (j:Int)=some (eT T j):=by
 have h1:=made_r hT hW (i:=0) (j:=j) (by omega) h0 hj 0 []
 unfold dv ref12_made_j1 at h1
 cases e:ref12_end T (j:Int)with
 |none=>
  rw[e]at h1
  cases e2:idx T ((0:Nat):Int)with
  |none=>rw[e2]at h1;cases h1
  |some b=>rw[e2]at h1;cases h1
 |some v=>
  rw[e]at h1
  cases e2:idx T ((0:Nat):Int)with
  |none=>rw[e2]at h1;cases h1
  |some b=>
   rw[e2]at h1
   simp only[Option.bind_some,Option.some.injEq,ApiNode.mk.injEq]at h1
   rw[h1.2.2.2.2.2.1]
theorem isB_eq {i:Nat} (h:i<T.length) (s:List UInt8):isB T[i] s=isB (T.getD i bo) s:=by simp[List.getD,h]
end
theorem w2 {n:Nat} (h:n<=9000000000):w64 ((n:Int)+2)=((n+2:Nat):Int):=by rw[gt (by omega) (by omega)];rfl
theorem w3 {n:Nat} (h:n<=9000000000):w64 ((n:Int)+3)=((n+3:Nat):Int):=by rw[gt (by omega) (by omega)];rfl
theorem w4 {n:Nat} (h:n<=9000000000):w64 ((n:Int)+4)=((n+4:Nat):Int):=by rw[gt (by omega) (by omega)];rfl
def RG {Ω Ω':Type} (RO:Ω->Ω'->Prop) (y:Option Ω) (q:Option Ω'):Prop:=∀r,y=some r->∃r',q=some r'/\RO r r'
def RO (T:List ApiToken) {α:Type} (r:PX ParseWrong (α × ParseParser)) (r':α × Int × Ref12Wrong):Prop:=
 match r with
 | .ok a=>∃j:Nat,a.2=⟨T,(j:Int)⟩/\0<j/\j<T.length/\r'=(a.1,(j:Int),⟨-1,0⟩)
 | .bad m=>∃z x,∃k:Nat,k<T.length/\r'=(z,x,⟨(k:Int),m.m.Code⟩)/\m=⟨⟨m.m.Code,0,aT T k⟩⟩
def ROS (T:List ApiToken) {α Ω Ω':Type} (R:Ω->Ω'->Prop) (r:(ParseParser × α) ⊕ Ω) (r':(Int × α) ⊕ Ω'):Prop:=
 match r with
 | .inl st=>∃j:Nat,st.1=⟨T,(j:Int)⟩/\0<j/\j<T.length/\r'= .inl ((j:Int),st.2)
 | .inr w=>∃w',r'= .inr w'/\R w w'
def ROF (T:List ApiToken) {α β:Type} (e:Nat) (r:Flow (ParseParser × α) (PX ParseWrong (β × ParseParser))) (r':Flow (Int × α) (β × Int × Ref12Wrong)):Prop:=
 match r with
 | .next st=>∃j:Nat,st.1=⟨T,((j+e:Nat):Int)⟩/\0<j/\j+e<T.length/\r'= .next ((j:Int),st.2)
 | .done w=>∃w',r'= .done w'/\RO T w w'
def RB (T:List ApiToken) {Ω Ω' β:Type} (R:Ω->Ω'->Prop) (bad:ParseWrong->Ω) (lf:β × Int × Ref12Wrong->Ω'):Prop:=∀(c:Int) (k:Nat) (z:β) (x:Int),k<T.length->R (bad ⟨⟨c,0,aT T k⟩⟩) (lf (z,x,⟨(k:Int),c⟩))
theorem rbO (T:List ApiToken) {α:Type}:RB T (RO T (α:=α)) PX.bad id:=fun c k z x hk=>⟨z,x,k,hk,rfl,rfl⟩
theorem rbS {T:List ApiToken} {α Ω Ω' β:Type} {R:Ω->Ω'->Prop} {bad:ParseWrong->Ω} {lf:β × Int × Ref12Wrong->Ω'} (h:RB T R bad lf):RB T (ROS T (α:=α) R) (fun m=> .inr (bad m)) (fun v=> .inr (lf v)):=fun c k z x hk=>⟨_,rfl,h c k z x hk⟩
theorem rbF (T:List ApiToken) {α β:Type} (e:Nat):RB T (ROF T (α:=α) (β:=β) e) (fun m=> .done (.bad m)) (fun v=> .done v):=fun c k z x hk=>⟨_,rfl,z,x,k,hk,rfl,rfl⟩
section
variable {x:List UInt8} {T:List ApiToken} (hT:TokP x T) (hW:TokW T)
include hT hW
variable {Ω Ω' β:Type} {R:Ω->Ω'->Prop} {bad:ParseWrong->Ω} {lf:β × Int × Ref12Wrong->Ω'} (B:RB T R bad lf)
omit hT hW in
theorem i3 {a:Ω} {a':Ω'} (h:R a a'):RG R (some a) (some a'):=fun r hr=>by injection hr with hr;subst hr;exact⟨a',rfl,h⟩
omit hT hW in
theorem r_if {c:Bool} {a d:Option Ω} {a' d':Option Ω'} (h1:c=true->RG R a a') (h2:c=false->RG R d d'):RG R (if c=true then a else d) (if c=true then a' else d'):=by
 cases c
 ·exact h2 rfl
 ·exact h1 rfl
include B
theorem nk {α:Type} {y:Option (PX ParseWrong (α × ParseParser))} {q:Option (α × Int × Ref12Wrong)} {F:α × ParseParser->Option Ω} {K:α × Int × Ref12Wrong->Option Ω'} (hy:RG (RO T) y q) (hbad:∀z x w,0<=w.Place->∃z' x',K (z,x,w)=some (lf (z',x',w))) (hok:∀a (j:Nat),0<j->j<T.length->RG R (F (a,⟨T,(j:Int)⟩)) (K (a,(j:Int),⟨-1,0⟩))):RG R (cp y (fun m=>some (bad m)) F) (q.bind K):=by
 intro r hr
 cases y with
 |none=>cases hr
 |some v=>
  obtain⟨v',rfl,hv⟩:=hy v rfl
  cases v with
  |ok a=>
   obtain⟨a,p⟩:=a
   obtain⟨j,rfl,h0,hj,rfl⟩:=hv
   exact hok a j h0 hj r hr
  |bad m=>
   obtain⟨z,x,k,hk,rfl,hm⟩:=hv
   obtain⟨z',x',e⟩:=hbad z x ⟨(k:Int),m.m.Code⟩ (by simp)
   simp only[cp,Option.some.injEq]at hr
   subst hr
   refine⟨_,e,?_⟩
   have:=B m.m.Code k z' x' hk
   rw[← hm]at this
   exact this
omit B in
theorem r_met {i:Nat} {t:List UInt8} {F:Bool × ParseParser->Option Ω} {G:Bool->Option Ω'} (hi:i<T.length) (hs:plainT t=true) (h1:isB (T.getD i bo) t=true->i+1<T.length->RG R (F (true,⟨T,((i+1:Nat):Int)⟩)) (G true)) (h2:isB (T.getD i bo) t=false->RG R (F (false,⟨T,(i:Int)⟩)) (G false)):RG R ((bu t ⟨T,(i:Int)⟩).bind F) ((bw T (i:Int) t).bind G):=by
 rw[met_eq hT hi,is_r hT hW hi hs,isB_eq hT hW hi]
 cases hB:isB (T.getD i bo) t with
 |false=>exact h2 hB
 |true=>exact h1 hB (isB_lt hT hi (by rw[isB_eq hT hW hi];exact hB))
omit B in
theorem l_met {i:Nat} {t:List UInt8} {F:Bool × ParseParser->Option Ω} {q:Option Ω'} (hi:i<T.length) (h1:isB (T.getD i bo) t=true->i+1<T.length->RG R (F (true,⟨T,((i+1:Nat):Int)⟩)) q) (h2:isB (T.getD i bo) t=false->RG R (F (false,⟨T,(i:Int)⟩)) q):RG R ((bu t ⟨T,(i:Int)⟩).bind F) q:=by
 rw[met_eq hT hi,isB_eq hT hW hi]
 cases hB:isB (T.getD i bo) t with
 |false=>exact h2 hB
 |true=>exact h1 hB (isB_lt hT hi (by rw[isB_eq hT hW hi];exact hB))
omit B in
theorem q_is {i:Nat} {t:List UInt8} {y:Option Ω} {G:Bool->Option Ω'} {b:Bool} (hi:i<T.length) (hs:plainT t=true) (hb:isB (T.getD i bo) t=b) (h:RG R y (G b)):RG R y ((bw T (i:Int) t).bind G):=by
 rw[is_r hT hW hi hs,hb]
 exact h
theorem r_need {i:Nat} {t:List UInt8} {F:ParseParser->Option Ω} {G:Bool->Option Ω'} (hi:i<T.length) (hs:plainT t=true) (h1:isB (T.getD i bo) t=true->i+1<T.length->RG R (F ⟨T,((i+1:Nat):Int)⟩) (G true)) (h2:∃z x,G false=some (lf (z,x,⟨(i:Int),120⟩))):RG R (cp (bc t ⟨T,(i:Int)⟩) (fun m=>some (bad m)) F) ((bw T (i:Int) t).bind G):=by
 rw[need_eq hT hi,is_r hT hW hi hs,isB_eq hT hW hi]
 cases hB:isB (T.getD i bo) t with
 |false=>
  obtain⟨z,x,e⟩:=h2
  intro r hr
  simp only[cp,Bool.false_eq_true,if_false,Option.some.injEq]at hr
  subst hr
  refine⟨_,e,?_⟩
  have:=B 120 i z x hi
  rw[aT_eq hT hi]at this
  exact this
 |true=>exact h1 hB (isB_lt hT hi (by rw[isB_eq hT hW hi];exact hB))
theorem r_name {i:Nat} {F:ApiToken × ParseParser->Option Ω} {G:Bool->Option Ω'} (hi:i<T.length) (h1:(T.getD i bo).Kind=1->i+1<T.length->RG R (F (T.getD i bo,⟨T,((i+1:Nat):Int)⟩)) (G true)) (h2:∃z x,G false=some (lf (z,x,⟨(i:Int),120⟩))):RG R (cp (dm ⟨T,(i:Int)⟩) (fun m=>some (bad m)) F) ((gm T (i:Int)).bind G):=by
 have e0:T.getD i bo=T[i]:=by simp[List.getD,hi]
 rw[name_eq hT hi,name_r hT hW hi,e0]
 cases hB:T[i].Kind==1 with
 |false=>
  obtain⟨z,x,e⟩:=h2
  intro r hr
  simp only[cp,Bool.false_eq_true,if_false,Option.some.injEq]at hr
  subst hr
  refine⟨_,e,?_⟩
  have:=B 120 i z x hi
  rw[aT_eq hT hi]at this
  exact this
 |true=>
  have hk:T[i].Kind=1:=by simpa using hB
  rw[e0]at h1
  exact h1 hk (ne_last hT hi (by rw[hk];decide))
theorem r_fail {i:Nat} {c:Int} {F:ParseParser->Option Ω} {q:Option Ω'} (hi:i<T.length) (h:∃z x,q=some (lf (z,x,⟨(i:Int),c⟩))):RG R (cp (cj c ⟨T,(i:Int)⟩) (fun m=>some (bad m)) F) q:=by
 rw[fail_eq hT hi]
 intro r hr
 simp only[cp,Option.some.injEq]at hr
 subst hr
 obtain⟨z,x,e⟩:=h
 refine⟨_,e,?_⟩
 have:=B c i z x hi
 rw[aT_eq hT hi]at this
 exact this
omit B
theorem qe {i j:Nat} {k:Int} {l:List ApiNode} {F:ApiNode->Option Ω} {q:Option Ω'} (hi:i<T.length) (h0:0<j) (hj:j<=T.length) (h:RG R (F ⟨k,[],[],0,aT T i,eT T j, -1, -1,l⟩) q):RG R ((parse_parser_made ⟨T,(j:Int)⟩ k (i:Int) l).bind F) q:=by
 rw[made_eq hT hi h0 hj]
 exact h
theorem oq {i j:Nat} {k:Int} {l:List ApiNode} {y:Option Ω} {G:ApiNode->Option Ω'} (hi:i<T.length) (h0:0<j) (hj:j<=T.length) (h:RG R y (G ⟨k,[],[],0,aT T i,eT T j, -1, -1,l⟩)):RG R y ((dv T k (i:Int) (j:Int) l).bind G):=by
 rw[made_r hT hW hi h0 hj]
 exact h
theorem l_now {i:Nat} {F:ApiToken->Option Ω} {q:Option Ω'} (hi:i<T.length) (h:RG R (F (T.getD i bo)) q):RG R ((bi ⟨T,(i:Int)⟩).bind F) q:=by
 have e0:T.getD i bo=T[i]:=by simp[List.getD,hi]
 rw[now_eq hT hi,← e0]
 exact h
theorem l_step {i:Nat} {F:ApiToken × ParseParser->Option Ω} {q:Option Ω'} (hi:i<T.length) (h:RG R (F (T.getD i bo,⟨T,((i+1:Nat):Int)⟩)) q):RG R ((cz ⟨T,(i:Int)⟩).bind F) q:=by
 have e0:T.getD i bo=T[i]:=by simp[List.getD,hi]
 rw[step_eq hT hi,← e0]
 exact h
theorem q_idx {i:Nat} {y:Option Ω} {G:ApiToken->Option Ω'} (hi:i<T.length) (h:RG R y (G (T.getD i bo))):RG R y ((idx T (i:Int)).bind G):=by
 rw[idx_r hT hW hi]
 exact h
theorem q_name {i:Nat} {y:Option Ω} {G:Bool->Option Ω'} {b:Bool} (hi:i<T.length) (hb:((T.getD i bo).Kind==1)=b) (h:RG R y (G b)):RG R y ((gm T (i:Int)).bind G):=by
 rw[name_r hT hW hi,hb]
 exact h
theorem q_typed {i:Nat} {n:ApiNode} {y:Option Ω} {G:ApiNode->Option Ω'} (hi:i+1<T.length) (h:RG R y (G {{{{n with Type_:=(T.getD i bo).Text} with TypeAt:=(T.getD i bo).At} with Text:=(T.getD (i+1) bo).Text} with At:=(T.getD (i+1) bo).At})):RG R y ((o5 T n (i:Int)).bind G):=by
 rw[typed_r hT hW hi]
 exact h
omit hT hW in
theorem r_app {l m:List ApiNode} {F:List ApiNode->Option Ω} {G:List ApiNode->Option Ω'} (h:RG R (F (l++m)) (G (l++m))):RG R ((app 104 l m).bind F) ((app 104 l m).bind G):=by
 unfold app
 split
 ·exact h
 ·intro r hr;cases hr
omit hT hW in
theorem r_iter {α:Type} {f:ParseParser × α->Option ((ParseParser × α) ⊕ Ω)} {f':Int × α->Option ((Int × α) ⊕ Ω')} {j:Nat} {a:α} (h0:0<j) (hj:j<T.length) (h:∀(j:Nat) a,0<j->j<T.length->RG (ROS T R) (f (⟨T,(j:Int)⟩,a)) (f' ((j:Int),a))):RG R (iter f (⟨T,(j:Int)⟩,a)) (iter f' ((j:Int),a)):=by
 intro r hr
 obtain⟨n,hn⟩:= @bp noG _ _ _ _ _ hr
 clear hr
 induction n generalizing j a with
 |zero=>cases hn
 |succ n ih=>
  obtain⟨m,v,hm,hf,h1,h2⟩:= @bk noG _ _ _ _ _ _ hn
  obtain rfl:m=n:=by omega
  obtain⟨v',hf',hv⟩:=h j a h0 hj v hf
  cases v with
  |inl st=>
   obtain⟨p,b⟩:=st
   obtain⟨j2,rfl,h02,hj2,rfl⟩:=hv
   obtain⟨r',e,hr'⟩:=ih h02 hj2 (h1 _ rfl)
   exact⟨r',by rw[@np noG _ _ _ _ _ hf'];exact e,hr'⟩
  |inr w=>
   obtain⟨w',rfl,hw⟩:=hv
   have:=h2 _ rfl
   subst this
   exact⟨w', @ga noG _ _ _ _ _ hf',hw⟩
omit hT hW in
theorem r_flow {α β:Type} {e:Nat} {y:Option (Flow (ParseParser × α) (PX ParseWrong (β × ParseParser)))} {q:Option (Flow (Int × α) (β × Int × Ref12Wrong))} {K:Flow (ParseParser × α) (PX ParseWrong (β × ParseParser))->Option (PX ParseWrong (β × ParseParser))} {K':Flow (Int × α) (β × Int × Ref12Wrong)->Option (β × Int × Ref12Wrong)} (hy:RG (ROF T e) y q) (h:∀(j:Nat) a,0<j->j+e<T.length->RG (RO T) (K (.next (⟨T,((j+e:Nat):Int)⟩,a))) (K' (.next ((j:Int),a)))) (h2:∀r,K (.done r)=some r) (h2':∀r,K' (.done r)=some r):RG (RO T) (y.bind K) (q.bind K'):=by
 intro r hr
 cases y with
 |none=>cases hr
 |some v=>
  obtain⟨v',rfl,hv⟩:=hy v rfl
  cases v with
  |next st=>
   obtain⟨p,a⟩:=st
   obtain⟨j,rfl,h0,hj,rfl⟩:=hv
   exact h j a h0 hj r hr
  |done w=>
   obtain⟨w',rfl,hw⟩:=hv
   have hr:K (.done w)=some r:=hr
   rw[h2]at hr
   injection hr with hr
   subst hr
   exact⟨w',h2' w',hw⟩
end
theorem l_neg {Ω Ω':Type} {R:Ω->Ω'->Prop} {A E:Option Ω} {q:Option Ω'} (h:RG R E q):RG R (if false=true then A else E) q:=h
theorem l_pos {Ω Ω':Type} {R:Ω->Ω'->Prop} {A E:Option Ω} {q:Option Ω'} (h:RG R A q):RG R (if true=true then A else E) q:=h
theorem qb {Ω Ω':Type} {R:Ω->Ω'->Prop} {y:Option Ω} {A E:Option Ω'} (h:RG R y E):RG R y (if false=true then A else E):=h
theorem q_pos {Ω Ω':Type} {R:Ω->Ω'->Prop} {y:Option Ω} {A E:Option Ω'} (h:RG R y A):RG R y (if true=true then A else E):=h
theorem ro_ok {T:List ApiToken} {α:Type} {a:α} {j:Nat} (h0:0<j) (hj:j<T.length):RO T (.ok (a,⟨T,(j:Int)⟩)) (a,(j:Int),⟨-1,0⟩):=⟨j,rfl,h0,hj,rfl⟩
theorem ros_inl {T:List ApiToken} {α Ω Ω':Type} {R:Ω->Ω'->Prop} {a:α} {j:Nat} (h0:0<j) (hj:j<T.length):ROS T R (.inl (⟨T,(j:Int)⟩,a)) (.inl ((j:Int),a)):=⟨j,rfl,h0,hj,rfl⟩
theorem ros_inr {T:List ApiToken} {α Ω Ω':Type} {R:Ω->Ω'->Prop} {w:Ω} {w':Ω'} (h:R w w'):ROS T (α:=α) R (.inr w) (.inr w'):=⟨w',rfl,h⟩
theorem rof_next {T:List ApiToken} {α β:Type} {e j:Nat} {a:α} (h0:0<j) (hj:j+e<T.length):ROF T (β:=β) e (.next (⟨T,((j+e:Nat):Int)⟩,a)) (.next ((j:Int),a)):=⟨j,rfl,h0,hj,rfl⟩
end Go.Proofs.YteablckbgpogiaaGreatDoor
set_option linter.unusedSectionVars false
set_option linter.unusedVariables false
set_option linter.unusedSimpArgs false
set_option maxHeartbeats 4000000
namespace Go.Proofs.YteablckbgpogiaaGreatDoor
open Go Go.Cn
def opRows :List (List (List UInt8)):=[[[124,124]],[[38,38]],[[61,61],[33,61]],[[60],[60,61],[62],[62,61]],[[43],[45]],[[42],[47],[37]]]
def rowAny (B:List UInt8->Bool) (i:Nat):Bool:=(opRows.getD i []).any B
def bindsV (B:List UInt8->Bool):Int:=if rowAny B 0=true then 1 else if rowAny B 1=true then 2 else if rowAny B 2=true then 3 else if rowAny B 3=true then 4 else if rowAny B 4=true then 5 else if rowAny B 5=true then 6 else 0
theorem any_idx {α:Type} (B:α->Bool):∀(l:List α) (i:Nat),i<=l.length->(l.take i).any B=false->(∀h:i<l.length,B l[i]=false->(l.take (i+1)).any B=false)
 |l,i,hi,h,hlt,hB=>by
  rw[List.take_add_one,List.getElem?_eq_getElem hlt,List.any_append,h]
  simp[hB]
section
variable {x:List UInt8} {T:List ApiToken} (hT:TokP x T) (hW:TokW T)
include hT hW
theorem binds_row {j:Nat} (hj:j<T.length) {i:Nat} (hi:i<6):iter (fun s=>l0 (i:Int) T (j:Int) s) 0=some (if rowAny (isB (T.getD j bo)) i=true then .done (.inr (.done ((i+1:Nat):Int)))else .next ()):=by
 have hp:∀s∈(opRows.getD i []),plainT s=true:=by
  have:∀i:Fin 6,∀s∈(opRows.getD i.1 []),plainT s=true:=by decide
  exact this ⟨i,hi⟩
 have hr:idx opRows (i:Int)=some (opRows.getD i []):=by
  have:∀i:Fin 6,idx opRows (i.1:Int)=some (opRows.getD i.1 []):=by decide
  exact this ⟨i,hi⟩
 have hl:(opRows.getD i []).length<=4:=by
  have:∀i:Fin 6,(opRows.getD i.1 []).length<=4:=by decide
  exact this ⟨i,hi⟩
 unfold rowAny
 generalize opRows.getD i []=r at hp hr hl
 obtain⟨o,h1,h2⟩:=fk (f:=fun s:Int=>l0 (i:Int) T (j:Int) s) (fun s=>∃k:Nat,k<=r.length/\s=(k:Int)/\(r.take k).any (isB (T.getD j bo))=false) (fun o=>o=if r.any (isB (T.getD j bo))=true then .done (.inr (.done ((i+1:Nat):Int)))else .next ()) (fun s=>r.length - s.toNat) (by
  rintro _ ⟨k,hk,rfl,hn⟩
  unfold l0
  rw[show(idx ([([([124,124]:List UInt8)]:List (List UInt8)),([([38,38]:List UInt8)]:List (List UInt8)),([([61,61]:List UInt8),([33,61]:List UInt8)]:List (List UInt8)),([([60]:List UInt8),([60,61]:List UInt8),([62]:List UInt8),([62,61]:List UInt8)]:List (List UInt8)),([([43]:List UInt8),([45]:List UInt8)]:List (List UInt8)),([([42]:List UInt8),([47]:List UInt8),([37]:List UInt8)]:List (List UInt8))]:List (List (List UInt8))) (i:Int))=some r from hr,Option.bind_some,Option.bind_some]
  by_cases hlt:k<r.length
  ·rw[if_pos (by simp[hlt]),mu hlt,Option.bind_some,is_r hT hW hj (hp _ (List.getElem_mem hlt)),Option.bind_some]
   cases hB:isB (T.getD j bo) r[k]with
   |true=>
    right
    rw[if_pos rfl,bh (by omega)]
    refine⟨_,rfl,?_⟩
    rw[if_pos (List.any_eq_true.2 ⟨_,List.getElem_mem hlt,hB⟩)]
   |false=>
    left
    rw[if_neg (by simp)]
    refine⟨_,rfl,⟨k+1,by omega,bh (by omega),any_idx _ r k hk hn hlt hB⟩,?_⟩
    rw[bh (by omega)]
    omega
  ·right
   rw[if_neg (by simp;omega)]
   refine⟨_,rfl,?_⟩
   rw[List.take_of_length_le (by omega)]at hn
   rw[hn]
   rfl) 0 ⟨0,by omega,rfl,by simp⟩
 rw[h1,h2]
theorem binds_ref {j:Nat} (hj:j<T.length):ref12_binds T (j:Int)=some (bindsV (isB (T.getD j bo))):=by
 unfold ref12_binds
 generalize hB:isB (T.getD j bo)=B
 obtain⟨o,h1,h2⟩:=fk (f:=fun s:Int=>oa T (j:Int) s) (fun s=>∃i:Nat,i<=6/\s=(i:Int)/\∀k,k<i->rowAny B k=false) (fun o=>(o= .next ()/\∀k,k<6->rowAny B k=false)\/∃i:Nat,i<6/\o= .done ((i+1:Nat):Int)/\rowAny B i=true/\∀k,k<i->rowAny B k=false) (fun s=>6 - s.toNat) (by
  rintro _ ⟨i,hi,rfl,hn⟩
  unfold oa ref12_binds_k3
  by_cases hlt:i<6
  ·rw[if_pos (by simp;omega),binds_row hT hW hj hlt,hB,Option.bind_some]
   cases hr:rowAny B i with
   |true=>exact .inr ⟨_,rfl,.inr ⟨i,hlt,rfl,hr,hn⟩⟩
   |false=>
    left
    rw[if_neg (by simp)]
    simp only
    refine⟨_,rfl,⟨i+1,by omega,bh (by omega),fun k hk=> ?_⟩,?_⟩
    ·by_cases h:k=i
     ·rw[h];exact hr
     ·exact hn k (by omega)
    ·rw[bh (by omega)]
     omega
  ·right
   rw[if_neg (by simp;omega)]
   exact⟨_,rfl,.inl ⟨rfl,fun k hk=>hn k (by omega)⟩⟩) 0 ⟨0,by omega,rfl,fun k hk=>by omega⟩
 rw[h1,Option.bind_some]
 unfold bindsV
 rcases h2 with⟨rfl,h⟩|⟨i,hi,rfl,hr,hn⟩
 ·rw[h 0 (by omega),h 1 (by omega),h 2 (by omega),h 3 (by omega),h 4 (by omega),h 5 (by omega)]
  rfl
 ·match i,hi with
  | 0,_=>rw[hr];rfl
  | 1,_=>rw[hn 0 (by omega),hr];rfl
  | 2,_=>rw[hn 0 (by omega),hn 1 (by omega),hr];rfl
  | 3,_=>rw[hn 0 (by omega),hn 1 (by omega),hn 2 (by omega),hr];rfl
  | 4,_=>rw[hn 0 (by omega),hn 1 (by omega),hn 2 (by omega),hn 3 (by omega),hr];rfl
  | 5,_=>rw[hn 0 (by omega),hn 1 (by omega),hn 2 (by omega),hn 3 (by omega),hn 4 (by omega),hr];rfl
theorem binds_prog {j:Nat} (hj:j<T.length):f2 (T.getD j bo)=some (bindsV (isB (T.getD j bo))):=by
 have e0:T.getD j bo=T[j]:=by simp[List.getD,hj]
 have hw:=hW.word j hj
 rw[e0]
 generalize T[j]=t at hw
 unfold f2 l8 jl l9 kn bindsV rowAny opRows isB
 by_cases hk:t.Kind=4
 ·rw[if_neg (by simp[hk])]
  simp only[hk,beq_self_eq_true,Bool.true_or,Bool.and_true,List.getD_cons_zero,List.getD_cons_succ,List.any_cons,List.any_nil,Bool.or_false]
  generalize (t.Text==[124,124])=b1
  generalize (t.Text==[38,38])=b2
  generalize (t.Text==[61,61])=b3
  generalize (t.Text==[33,61])=b4
  generalize (t.Text==[60])=b5
  generalize (t.Text==[60,61])=b6
  generalize (t.Text==[62])=b7
  generalize (t.Text==[62,61])=b8
  generalize (t.Text==[43])=b9
  generalize (t.Text==[45])=b10
  generalize (t.Text==[42])=b11
  generalize (t.Text==[47])=b12
  generalize (t.Text==[37])=b13
  cases b1
  ·cases b2
   ·cases b3<;>cases b4
    ·cases b5<;>cases b6<;>cases b7<;>cases b8
     ·cases b9<;>cases b10
      ·cases b11<;>cases b12<;>cases b13<;>rfl
      all_goals rfl
     all_goals rfl
    all_goals rfl
   ·rfl
  ·rfl
 ·rw[if_pos (by simpa using hk)]
  have hk4:(t.Kind==4)=false:=by simpa using hk
  by_cases hk3:t.Kind=3
  ·have hkept:=hw hk3
   have hne:∀s:List UInt8,kept.contains s=false->(t.Text==s)=false:=fun s hs=>by
    cases h:t.Text==s with
    |false=>rfl
    |true=>
     have:t.Text=s:=by simpa using h
     rw[this,hs]at hkept
     cases hkept
   simp only[List.getD_cons_zero,List.getD_cons_succ,List.any_cons,List.any_nil,Bool.or_false,hne [124,124] (by decide),hne [38,38] (by decide),hne [61,61] (by decide),hne [33,61] (by decide),hne [60] (by decide),hne [60,61] (by decide),hne [62] (by decide),hne [62,61] (by decide),hne [43] (by decide),hne [45] (by decide),hne [42] (by decide),hne [47] (by decide),hne [37] (by decide),Bool.false_and,Bool.false_eq_true,if_false]
  ·have hk3:(t.Kind==3)=false:=by simpa using hk3
   simp only[hk4,hk3,Bool.or_false,Bool.and_false,List.getD_cons_zero,List.getD_cons_succ,List.any_cons,List.any_nil,Bool.false_eq_true,if_false]
omit hT hW in
theorem bindsV_le (B:List UInt8->Bool):∃b:Nat,bindsV B=(b:Int)/\b<=6:=by
 unfold bindsV
 repeat' split
 ·exact⟨1,rfl,by omega⟩
 ·exact⟨2,rfl,by omega⟩
 ·exact⟨3,rfl,by omega⟩
 ·exact⟨4,rfl,by omega⟩
 ·exact⟨5,rfl,by omega⟩
 ·exact⟨6,rfl,by omega⟩
 ·exact⟨0,rfl,by omega⟩
end
end Go.Proofs.YteablckbgpogiaaGreatDoor
set_option linter.unusedSectionVars false
set_option linter.unusedVariables false
set_option linter.unusedSimpArgs false
set_option maxHeartbeats 4000000
namespace Go.Proofs.YteablckbgpogiaaGreatDoor
open Go Go.Cn
section
variable (R:am) (d:Int) (p:ParseParser)
noncomputable def stepE (b:Int) (s:ParseParser × ApiNode):Option ((ParseParser × ApiNode) ⊕ (PX ParseWrong (ApiNode × ParseParser))):=(cz s.1).bind fun(x16,x17)=>(cp (R.1 d b x17) (fun m23=>some (.inr (.bad m23))) fun(x19,x20)=>(parse_parser_made x20 24 p.at_ ([s.2,x19]:List ApiNode)).bind fun x22=>some (.inl (x20,{x22 with Text:=x16.Text})))
noncomputable def turnM (m:Int) (s:ParseParser × ApiNode):Option ((ParseParser × ApiNode) ⊕ (PX ParseWrong (ApiNode × ParseParser))):=(bi s.1).bind fun x13=>(f2 x13).bind fun x14=>(if(x14==m)=true then stepE R d p m s else some (.inr (.ok (s.2,s.1))))
theorem l1_eq (l:Int) (s:ParseParser × ApiNode):bm R l d p s.1 s.2=(bi s.1).bind fun x13=>(f2 x13).bind fun x14=>(if(decide (x14<=l))=true then some (.inr (.ok (s.2,s.1)))else stepE R d p x14 s):=rfl
theorem stepE_inr {b:Int} {s:ParseParser × ApiNode} {o:PX ParseWrong (ApiNode × ParseParser)} (h:stepE R d p b s=some (.inr o)):∃e,o= .bad e:=by
 unfold stepE at h
 cases h1:cz s.1 with
 |none=>rw[h1]at h;cases h
 |some v=>
  obtain⟨v1,v2⟩:=v
  rw[h1,Option.bind_some]at h
  simp only at h
  cases h2:R.1 d b v2 with
  |none=>rw[h2]at h;cases h
  |some w=>
   rw[h2]at h
   cases w with
   |bad e=>
    simp only[cp,Option.some.injEq,Sum.inr.injEq]at h
    exact⟨e,h.symm⟩
   |ok a=>
    obtain⟨a1,a2⟩:=a
    simp only[cp]at h
    cases h3:parse_parser_made a2 24 p.at_ [s.2,a1]with
    |none=>rw[h3]at h;cases h
    |some n=>rw[h3,Option.bind_some]at h;cases h
theorem stepE_inl {b:Int} {s s':ParseParser × ApiNode} (h:stepE R d p b s=some (.inl s')):∃q n,R.1 d b q=some (.ok (n,s'.1)):=by
 unfold stepE at h
 cases h1:cz s.1 with
 |none=>rw[h1]at h;cases h
 |some v=>
  obtain⟨v1,v2⟩:=v
  rw[h1,Option.bind_some]at h
  simp only at h
  cases h2:R.1 d b v2 with
  |none=>rw[h2]at h;cases h
  |some w=>
   rw[h2]at h
   cases w with
   |bad e=>simp only[cp,Option.some.injEq]at h;cases h
   |ok a=>
    obtain⟨a1,a2⟩:=a
    simp only[cp]at h
    cases h3:parse_parser_made a2 24 p.at_ [s.2,a1]with
    |none=>rw[h3]at h;cases h
    |some n=>
     rw[h3,Option.bind_some]at h
     injection h with h
     injection h with h
     subst h
     exact⟨v2,a1,h2⟩
def EndOk :Prop:=∀(d l:Int) p n p',R.1 d l p=some (.ok (n,p'))->∃t b,bi p'=some t/\f2 t=some b/\b<=l
theorem split_loop (hE:EndOk R) (m:Int):∀(n:Nat) (s:ParseParser × ApiNode) r,ff (fun s=>bm R (m - 1) d p s.1 s.2) n s=some r->∃r',iter (fun s=>bm R m d p s.1 s.2) s=some r'/\(match r' with| .bad e=>r= .bad e| .ok a=>iter (turnM R d p m) (a.2,a.1)=some r):=by
 intro n
 induction n with
 |zero=>intro s r h;cases h
 |succ n ih=>
  intro s r h
  obtain⟨m',v,hm,hf,h1,h2⟩:= @bk noG _ _ _ _ _ _ h
  obtain rfl:m'=n:=by omega
  replace hf:bm R (m - 1) d p s.1 s.2=some v:=hf
  rw[l1_eq]at hf
  cases hn:bi s.1 with
  |none=>rw[hn]at hf;cases hf
  |some t=>
   rw[hn,Option.bind_some]at hf
   cases hb:f2 t with
   |none=>rw[hb]at hf;cases hf
   |some b=>
    rw[hb,Option.bind_some]at hf
    have em:(fun s:ParseParser × ApiNode=>bm R m d p s.1 s.2) s=if decide (b<=m)=true then some (.inr (.ok (s.2,s.1)))else stepE R d p b s:=by
     show bm R m d p s.1 s.2=_
     rw[l1_eq,hn,Option.bind_some,hb,Option.bind_some]
    have et:turnM R d p m s=if(b==m)=true then stepE R d p m s else some (.inr (.ok (s.2,s.1))):=by
     unfold turnM
     rw[hn,Option.bind_some,hb,Option.bind_some]
    by_cases hle:b<=m - 1
    ·rw[if_pos (by simpa using hle)]at hf
     injection hf with hf
     subst hf
     have:=h2 _ rfl
     subst this
     rw[if_pos (by simp;omega)]at em
     rw[if_neg (by simp;omega)]at et
     exact⟨_, @ga noG _ _ _ _ _ em, @ga noG _ _ _ _ _ et⟩
    ·rw[if_neg (by simpa using hle)]at hf
     by_cases hbm:b=m
     ·subst hbm
      rw[if_pos (by simp)]at em
      rw[if_pos (by simp),hf]at et
      refine⟨_, @ga noG _ _ _ _ _ em,?_⟩
      simp only
      cases v with
      |inr o=>
       have:=h2 _ rfl
       subst this
       exact @ga noG _ _ _ _ _ et
      |inl s'=>
       rw[@np noG _ _ _ _ _ et]
       obtain⟨q,n2,hq⟩:=stepE_inl R d p hf
       obtain⟨t',b',ht',hb',hle'⟩:=hE _ _ _ _ _ hq
       obtain⟨r',hr',hx⟩:=ih s' r (h1 _ rfl)
       have em':(fun s:ParseParser × ApiNode=>bm R b d p s.1 s.2) s'=some (.inr (.ok (s'.2,s'.1))):=by
        show bm R b d p s'.1 s'.2=_
        rw[l1_eq,ht',Option.bind_some,hb',Option.bind_some,if_pos (by simpa using hle')]
       rw[@ga noG _ _ _ _ _ em']at hr'
       injection hr' with hr'
       subst hr'
       exact hx
     ·rw[if_neg (by simp;omega),hf]at em
      cases v with
      |inr o=>
       have:=h2 _ rfl
       subst this
       obtain⟨e,rfl⟩:=stepE_inr R d p hf
       exact⟨_, @ga noG _ _ _ _ _ em,rfl⟩
      |inl s'=>
       rw[@np noG _ _ _ _ _ em]
       exact ih s' r (h1 _ rfl)
theorem loop_end (l:Int):∀(n:Nat) (s:ParseParser × ApiNode) nd p',ff (fun s=>bm R l d p s.1 s.2) n s=some (.ok (nd,p'))->∃t b,bi p'=some t/\f2 t=some b/\b<=l:=by
 intro n
 induction n with
 |zero=>intro s nd p' h;cases h
 |succ n ih=>
  intro s nd p' h
  obtain⟨m',v,hm,hf,h1,h2⟩:= @bk noG _ _ _ _ _ _ h
  obtain rfl:m'=n:=by omega
  replace hf:bm R l d p s.1 s.2=some v:=hf
  rw[l1_eq]at hf
  cases hn:bi s.1 with
  |none=>rw[hn]at hf;cases hf
  |some t=>
   rw[hn,Option.bind_some]at hf
   cases hb:f2 t with
   |none=>rw[hb]at hf;cases hf
   |some b=>
    rw[hb,Option.bind_some]at hf
    by_cases hle:b<=l
    ·rw[if_pos (by simpa using hle)]at hf
     injection hf with hf
     subst hf
     have:=h2 _ rfl
     injection this with this
     injection this with _ this
     subst this
     exact⟨t,b,hn,hb,hle⟩
    ·rw[if_neg (by simpa using hle)]at hf
     cases v with
     |inr o=>
      obtain⟨e,rfl⟩:=stepE_inr R d p hf
      have:=h2 _ rfl
      cases this
     |inl s'=>exact ih s' nd p' (h1 _ rfl)
theorem expr_end {l:Int} {nd:ApiNode} {p':ParseParser} (h:cl R d l p=some (.ok (nd,p'))):∃t b,bi p'=some t/\f2 t=some b/\b<=l:=by
 unfold cl at h
 cases h1:R.2.1 d p with
 |none=>rw[h1]at h;cases h
 |some v=>
  rw[h1]at h
  cases v with
  |bad e=>simp only[cp,Option.some.injEq]at h;cases h
  |ok a=>
   obtain⟨a1,a2⟩:=a
   simp only[cp]at h
   obtain⟨n,hn⟩:= @bp noG _ _ _ _ _ h
   exact loop_end R d p l n _ _ _ hn
theorem expr_split (hE:EndOk R) (m:Int) {r:PX ParseWrong (ApiNode × ParseParser)} (h:cl R d (m - 1) p=some r):(cp (cl R d m p) (fun e=>some (.bad e)) fun a=>iter (turnM R d p m) (a.2,a.1))=some r:=by
 unfold cl at h ⊢
 cases h1:R.2.1 d p with
 |none=>rw[h1]at h;cases h
 |some v=>
  rw[h1]at h
  cases v with
  |bad e=>exact h
  |ok a=>
   obtain⟨a1,a2⟩:=a
   simp only[cp]at h ⊢
   obtain⟨n,hn⟩:= @bp noG _ _ _ _ _ h
   obtain⟨r',hr',hx⟩:=split_loop R d p hE m n _ _ hn
   rw[hr']
   cases r' with
   |bad e=>rw[hx]
   |ok a=>exact hx
end
theorem endOk_at :∀f:Nat,EndOk (cq f)
 | 0=>fun d l p n p' h=>by cases h
 |f+1=>fun d l p n p' h=>expr_end (cq f) d p h
end Go.Proofs.YteablckbgpogiaaGreatDoor
set_option linter.unusedSectionVars false
set_option linter.unusedVariables false
set_option linter.unusedSimpArgs false
set_option maxHeartbeats 4000000
namespace Go.Proofs.YteablckbgpogiaaGreatDoor
open Go Go.Cn
theorem parseInt_val (c:UInt8) (l:List UInt8) (h:∀d∈c::l,dt d.toNat=true) (hl:(c::l).length<=281474976710656) (hb:valL 0 (c::l)<=2147483647):fc (c::l) 10 64=some ((valL 0 (c::l):Int),false):=by
 have hc:=h c List.mem_cons_self
 simp only[dt,Bool.and_eq_true,decide_eq_true_eq]at hc
 have h45:¬c.toNat=45:=by omega
 have h43:¬(c.toNat=43\/c.toNat=45):=by omega
 have e:(2:Nat) ^ 64 - 1=18446744073709551615:=by decide
 have hpu:Lib.parseUintB 64 (c::l)=Lib.parseUintM (2 ^ 64 - 1) 0 (c::l):=by
  unfold Lib.parseUintB
  rw[if_neg (by simp)]
 obtain⟨hp1,hp2⟩:=parseUintM_eq e (c::l) 0 h (Nat.zero_le _)
 generalize hv:valL 0 (c::l)=v at hp1 hp2 hb ⊢
 have e2:(2:Nat) ^ (64 - 1)=9223372036854775808:=by decide
 unfold fc
 rw[if_pos ⟨rfl,rfl,hl⟩]
 have hplain:=Lib.parseIntB_plain 64 c l (by omega) h45
 rw[hpu,e2]at hplain
 have hI:(v<9223372036854775808->Lib.parseIntB 64 (c::l)= .ok (v:Int))/\(¬v<9223372036854775808->Lib.parseIntB 64 (c::l)= .range):=by
  rw[hplain]
  constructor
  ·intro h2
   rw[hp1 (by omega)]
   show(if 9223372036854775808<=v then Lib.NumEnd.range else Lib.NumEnd.ok (v:Int))=_
   rw[if_neg (by omega)]
  ·intro h2
   by_cases h1:v<=2 ^ 64 - 1
   ·rw[hp1 h1]
    show(if 9223372036854775808<=v then Lib.NumEnd.range else Lib.NumEnd.ok (v:Int))=_
    rw[if_pos (by omega)]
   ·rw[hp2 h1]
    rfl
 rw[hI.1 (by omega)]
theorem bad_if {Ω' β:Type} {lf:β × Int × Ref12Wrong->Ω'} {w:Ref12Wrong} (hw:0<=w.Place) {z0:β} {x0:Int} {A E:Option Ω'} (hA:A=some (lf (z0,x0,w))):∃z' x',(if decide (w.Place≥0)=true then A else E)=some (lf (z',x',w)):=⟨z0,x0,by rw[if_pos (by simpa using hw)];exact hA⟩
theorem bad_ifF {α β γ:Type} {w:Ref12Wrong} (hw:0<=w.Place) {z0:β} {x0:Int} {A E:Option ((Int × α) ⊕ (Flow γ (β × Int × Ref12Wrong)))} (hA:A=some (.inr (.done (z0,x0,w)))):∃z' x',(if decide (w.Place≥0)=true then A else E)=some (.inr (.done (z',x',w))):=⟨z0,x0,by rw[if_pos (by simpa using hw)];exact hA⟩
theorem ok_if {Ω Ω':Type} {R:Ω->Ω'->Prop} {y:Option Ω} {A E:Option Ω'} (h:RG R y E):RG R y (if decide ((Ref12Wrong.mk (-1) 0).Place≥0)=true then A else E):=by
 rw[if_neg (by decide)]
 exact h
theorem RG.weak {Ω Ω':Type} {R:Ω->Ω'->Prop} {y y2:Option Ω} {q:Option Ω'} (h:∀r,y=some r->y2=some r) (h2:RG R y2 q):RG R y q:=fun r hr=>h2 r (h r hr)
def ROM (T:List ApiToken) (r:PX ParseWrong (ApiNode × ParseParser)) (r':Flow (Int × ApiNode) (ApiNode × Int × Ref12Wrong)):Prop:=
 match r with
 | .ok a=>∃j:Nat,a.2=⟨T,(j:Int)⟩/\0<j/\j<T.length/\r'= .next ((j:Int),a.1)
 | .bad m=>∃z x,∃k:Nat,k<T.length/\r'= .done (z,x,⟨(k:Int),m.m.Code⟩)/\m=⟨⟨m.m.Code,0,aT T k⟩⟩
theorem rbM (T:List ApiToken):RB T (ROM T) PX.bad (fun v:ApiNode × Int × Ref12Wrong=>Flow.done v):=fun c k z x hk=>⟨z,x,k,hk,rfl,rfl⟩
theorem r_loopM {T:List ApiToken} {y:Option (PX ParseWrong (ApiNode × ParseParser))} {q:Option (Flow (Int × ApiNode) (ApiNode × Int × Ref12Wrong))} {K':Flow (Int × ApiNode) (ApiNode × Int × Ref12Wrong)->Option (ApiNode × Int × Ref12Wrong)} (hy:RG (ROM T) y q) (h1:∀(j:Int) n,K' (.next (j,n))=some (n,j,⟨-1,0⟩)) (h2:∀r,K' (.done r)=some r):RG (RO T) y (q.bind K'):=by
 intro r hr
 obtain⟨v,rfl,hv⟩:=hy r hr
 cases r with
 |ok a=>
  obtain⟨j,h3,h0,hj,rfl⟩:=hv
  exact⟨_,h1 _ _,j,h3,h0,hj,rfl⟩
 |bad m=>
  obtain⟨z,x,k,hk,rfl,hm⟩:=hv
  exact⟨_,h2 _,z,x,k,hk,rfl,hm⟩
noncomputable def tailP (R:al) (x1:List ApiToken) (x2 x3:Int):Option (ApiNode × Int × Ref12Wrong):=(bw x1 x2 ([110,101,119]:List UInt8)).bind fun x36=>(if x36=true then(gm x1 (w64 (x2+1))).bind fun x38=>(if(!x38)=true then(cf (w64 (x2+1))).bind fun x40=>some ((ApiNode.mk 0 [] [] 0 0 0 0 0 []),0,x40)else(bw x1 (w64 (x2+2)) ([40]:List UInt8)).bind fun x41=>(if(!x41)=true then(cf (w64 (x2+2))).bind fun x43=>some ((ApiNode.mk 0 [] [] 0 0 0 0 0 []),0,x43)else(bw x1 (w64 (x2+3)) ([41]:List UInt8)).bind fun x44=>(if(!x44)=true then(cf (w64 (x2+3))).bind fun x46=>some ((ApiNode.mk 0 [] [] 0 0 0 0 0 []),0,x46)else(dv x1 21 x2 (w64 (x2+4)) []).bind fun x47=>(idx x1 (w64 (x2+1))).bind fun x49=>(idx x1 (w64 (x2+1))).bind fun x50=>(da).bind fun x51=>nt R x47 x49 x50 x2 x51)))else(bw x1 x2 ([40]:List UInt8)).bind fun x52=>(if x52=true then(R.1 x1 (w64 (x2+1)) x3).bind fun(x54,x55,x56)=>(if(decide (x56.Place≥0))=true then qv R x56 else(bw x1 x55 ([41]:List UInt8)).bind fun x60=>(if(!x60)=true then(cf x55).bind fun x62=>some ((ApiNode.mk 0 [] [] 0 0 0 0 0 []),0,x62)else(da).bind fun x63=>ns R x54 x55 x63))else(gm x1 x2).bind fun x64=>(if x64=true then(dv x1 17 x2 (w64 (x2+1)) []).bind fun x66=>(idx x1 x2).bind fun x68=>(idx x1 x2).bind fun x69=>(bw x1 (w64 (x2+1)) ([40]:List UInt8)).bind fun x70=>(if(!x70)=true then(da).bind fun x72=>nr R x66 x68 x69 x2 x72 else(R.2.2.2.2 x1 (w64 (x2+2)) x3).bind fun(x73,x74,x75)=>(if(decide (x75.Place≥0))=true then qu R x75 else(ref12_end x1 x74).bind fun x78=>(da).bind fun x79=>qa R x66 x68 x69 x73 x78 x74 x79))else(cf x2).bind fun x80=>some ((ApiNode.mk 0 [] [] 0 0 0 0 0 []),0,x80))))
structure SpecG (T:List ApiToken) (R:am):Prop where
 e:∀d l i g:Nat,d<=100->l<=6->i<T.length->20 * (100 - d)+13 - l<g->RG (RO T) (R.1 (d:Int) (l:Int) ⟨T,(i:Int)⟩) ((aw g).2.1 T (i:Int) (d:Int) ((l+1:Nat):Int))
 u:∀d i g:Nat,d<=100->i<T.length->20 * (100 - d)+5<g->RG (RO T) (R.2.1 (d:Int) ⟨T,(i:Int)⟩) ((aw g).2.2.1 T (i:Int) (d:Int))
 p:∀d i g:Nat,d<=100->i<T.length->20 * (100 - d)+17<g->RG (RO T) (R.2.2.1 (d:Int) ⟨T,(i:Int)⟩) ((aw g).2.2.2.1 T (i:Int) (d:Int))
 a:∀d i g:Nat,d<=100->0<i->i<T.length->20 * (100 - d)+16<g->RG (RO T) (R.2.2.2 (d:Int) ⟨T,(i:Int)⟩) ((aw g).2.2.2.2 T (i:Int) (d:Int))
section
variable {x:List UInt8} {T:List ApiToken} (hT:TokP x T) (hW:TokW T) {R:am} (hS:SpecG T R) (hE:EndOk R)
include hT hW hS
theorem expr_all {g d i:Nat} (hd:d<=100) (hi:i<T.length) (hg:20 * (100 - d)+15<g):RG (RO T) (R.1 (d:Int) 0 ⟨T,(i:Int)⟩) ((aw g).1 T (i:Int) (d:Int)):=by
 obtain⟨g,rfl⟩:∃g',g=g'+1:=⟨g - 1,by omega⟩
 show RG _ _ (ln (aw g) T (i:Int) (d:Int))
 unfold ln
 have h:=hS.e d 0 i g hd (by omega) hi (by omega)
 intro r hr
 obtain⟨r',e,hr'⟩:=h r hr
 refine⟨r',?_,hr'⟩
 have e:(aw g).2.1 T (i:Int) (d:Int) 1=some r':=e
 rw[e]
 rfl
include hE
theorem level_r {d i:Nat} (hd:d<=100) (hi:i<T.length):∀(k m g:Nat),m+k=7->1<=m->20 * (100 - d)+14 - m<g->RG (RO T) (cl R (d:Int) ((m:Int) - 1) ⟨T,(i:Int)⟩) ((aw g).2.1 T (i:Int) (d:Int) (m:Int)):=by
 intro k
 have hlen:=hT.len
 induction k with
 |zero=>
  intro m g hm _ hg
  obtain rfl:m=7:=by omega
  obtain⟨g,rfl⟩:∃g',g=g'+1:=⟨g - 1,by omega⟩
  show RG _ _ (ni (aw g) T (i:Int) (d:Int) 7)
  unfold ni cl
  rw[if_pos (by decide)]
  refine nk hT hW (rbO T) (hS.u d i g hd hi (by omega)) (fun z x w _=>⟨z,x,rfl⟩) (fun n j h0 hj=> ?_)
  obtain⟨b,hb,hb6⟩:=bindsV_le (isB (T.getD j bo))
  have e0:T.getD j bo=T[j]:=by simp[List.getD,hj]
  have e:(fun s:ParseParser × ApiNode=>bm R (((7:Nat):Int) - 1) (d:Int) ⟨T,(i:Int)⟩ s.1 s.2) (⟨T,(j:Int)⟩,n)=some (.inr (.ok (n,⟨T,(j:Int)⟩))):=by
   show bm R (((7:Nat):Int) - 1) (d:Int) ⟨T,(i:Int)⟩ ⟨T,(j:Int)⟩ n=_
   rw[l1_eq R (d:Int) ⟨T,(i:Int)⟩ _ (⟨T,(j:Int)⟩,n)]
   simp only
   rw[now_eq hT hj,Option.bind_some,← e0,binds_prog hT hW hj,Option.bind_some,hb,if_pos (by simp;omega)]
  simp only
  rw[@ga noG _ _ _ _ _ e]
  exact i3 (ro_ok h0 hj)
 |succ k ih=>
  intro m g hm h1 hg
  obtain⟨g,rfl⟩:∃g',g=g'+1:=⟨g - 1,by omega⟩
  show RG _ _ (ni (aw g) T (i:Int) (d:Int) (m:Int))
  refine RG.weak (fun r hr=>expr_split R (d:Int) ⟨T,(i:Int)⟩ hE (m:Int) hr) ?_
  unfold ni
  rw[if_neg (by simp;omega),bh (by omega)]
  have hih:=ih (m+1) g (by omega) (by omega) (by omega)
  rw[show((m+1:Nat):Int) - 1=(m:Int)by omega]at hih
  refine nk hT hW (rbO T) hih (fun z x w hw=>bad_if hw rfl) (fun n j h0 hj=>ok_if ?_)
  refine r_loopM ?_ (fun _ _=>rfl) (fun _=>rfl)
  refine r_iter h0 hj (fun j n h0 hj=> ?_)
  unfold turnM qi
  refine l_now hT hW hj ?_
  rw[binds_prog hT hW hj,binds_ref hT hW hj,Option.bind_some,Option.bind_some]
  obtain⟨b,hb,hb6⟩:=bindsV_le (isB (T.getD j bo))
  refine r_if (fun hc=> ?_) (fun hc=>i3 (ros_inr ⟨j,rfl,h0,hj,rfl⟩))
  have hbm:b=m:=by rw[hb]at hc;simp at hc;omega
  have hj1:j+1<T.length:=by
   obtain⟨b',e1,_,e2⟩:=binds_ok (T.getD j bo)
   rw[binds_prog hT hW hj,hb]at e1
   have hk:(T.getD j bo).Kind=4:=e2 (by injection e1 with e1;omega)
   have e0:T.getD j bo=T[j]:=by simp[List.getD,hj]
   rw[e0]at hk
   exact ne_last hT hj (by rw[hk];decide)
  unfold stepE
  refine l_step hT hW hj ?_
  rw[bh (by omega),bh (by omega)]
  refine nk hT hW (rbS (rbM T)) (hS.e d m (j+1) g hd (by omega) hj1 (by omega)) (fun z x w hw=>bad_ifF hw rfl) (fun n2 k h02 hk=>ok_if ?_)
  refine q_idx hT hW hj ?_
  refine qe hT hW hi h02 (Nat.le_of_lt hk) ?_
  refine oq hT hW hi h02 (Nat.le_of_lt hk) ?_
  exact i3 (ros_inl h02 hk)
omit hE
theorem args_r {g d i:Nat} (hd:d<=100) (h0:0<i) (hi:i<T.length) (hg:20 * (100 - d)+16<g):RG (RO T) (eh R (d:Int) ⟨T,(i:Int)⟩) ((aw g).2.2.2.2 T (i:Int) (d:Int)):=by
 have hlen:=hT.len
 obtain⟨g,rfl⟩:∃g',g=g'+1:=⟨g - 1,by omega⟩
 show RG _ _ (mr (aw g) T (i:Int) (d:Int))
 unfold eh mr
 refine r_met hT hW hi (by decide) (fun _ hi1=> ?_) (fun _=> ?_)
 ·refine r_if (fun _=> ?_) (fun h=>by cases h)
  rw[bh (by omega)]
  exact i3 (ro_ok (by omega) hi1)
 ·refine r_if (fun h=>by cases h) (fun _=> ?_)
  refine r_iter h0 hi (fun j l h0 hj=> ?_)
  unfold fx ll
  refine nk hT hW (rbS (rbO T)) (expr_all hT hW hS hd hj (by omega)) (fun z x w hw=>bad_if hw rfl) (fun n k h02 hk=>ok_if ?_)
  refine r_app ?_
  refine r_met hT hW hk (by decide) (fun _ hk1=> ?_) (fun _=> ?_)
  ·refine r_if (fun _=> ?_) (fun h=>by cases h)
   rw[bh (by omega)]
   exact i3 (ros_inr (ro_ok (by omega) hk1))
  ·refine r_if (fun h=>by cases h) (fun _=> ?_)
   refine r_need hT hW (rbS (rbO T)) hk (by decide) (fun _ hk1=> ?_) ⟨_,_,rfl⟩
   rw[if_neg (by simp),bh (by omega)]
   exact i3 (ros_inl (by omega) hk1)
theorem unary_r {g d i:Nat} (hd:d<=100) (hi:i<T.length) (hg:20 * (100 - d)+5<g):RG (RO T) (fy R (d:Int) ⟨T,(i:Int)⟩) ((aw g).2.2.1 T (i:Int) (d:Int)):=by
 have hlen:=hT.len
 obtain⟨g,rfl⟩:∃g',g=g'+1:=⟨g - 1,by omega⟩
 show RG _ _ (F_ref12_unary (aw g) T (i:Int) (d:Int))
 unfold fy F_ref12_unary ec
 by_cases hd60:d>60
 ·rw[if_pos (by simp;omega),if_pos (by simp;omega),fail_eq hT hi]
  intro r hr
  simp only[cp,Option.some.injEq]at hr
  subst hr
  refine⟨_,rfl,_,_,i,hi,rfl,?_⟩
  rw[aT_eq hT hi]
 ·rw[if_neg (by simp;omega),if_neg (by simp;omega)]
  simp only[cp]
  have hone:∀{k:Int},i+1<T.length->((T.getD i bo).Text==[45])=(k==23)->(k=22\/k=23)->RG (RO T) (cp (R.2.1 ((d+1:Nat):Int) ⟨T,((i+1:Nat):Int)⟩) (fun m13=>some (.bad m13)) fun(x9,x10)=>(parse_parser_made x10 k (i:Int) ([x9]:List ApiNode)).bind fun x12=>some (PX.ok (μ:=ParseWrong) (x12,x10))) (((aw g).2.2.1 T ((i+1:Nat):Int) ((d+1:Nat):Int)).bind fun(x12,x13,x14)=>(if(decide (x14.Place≥0))=true then ref12_unary_j1 (aw g) x14 else(idx T (i:Int)).bind fun x18=>(if(x18.Text==([45]:List UInt8))=true then lz (aw g) T (i:Int) x13 x12 23 else lz (aw g) T (i:Int) x13 x12 22))):=fun {k} hi1 hk hk2=>by
   refine nk hT hW (rbO T) (hS.u (d+1) (i+1) g (by omega) hi1 (by omega)) (fun z x w hw=>bad_if hw rfl) (fun n j h0 hj=>ok_if ?_)
   refine q_idx hT hW hi ?_
   refine qe hT hW hi h0 (Nat.le_of_lt hj) ?_
   rw[hk]
   unfold lz
   rcases hk2 with rfl|rfl
   ·rw[if_neg (by decide)]
    refine oq hT hW hi h0 (Nat.le_of_lt hj) ?_
    exact i3 (ro_ok h0 hj)
   ·rw[if_pos (by decide)]
    refine oq hT hW hi h0 (Nat.le_of_lt hj) ?_
    exact i3 (ro_ok h0 hj)
  refine r_met hT hW hi (by decide) (fun hB hi1=> ?_) (fun _=> ?_)
  ·refine r_if (fun _=> ?_) (fun h=>by cases h)
   unfold lw
   rw[if_pos rfl,bh (by omega),bh (by omega)]
   refine hone hi1 ?_ (.inl rfl)
   have:(T.getD i bo).Text=[33]:=by unfold isB at hB;simp at hB;exact hB.1
   rw[this]
   decide
  ·refine r_if (fun h=>by cases h) (fun _=> ?_)
   refine r_met hT hW hi (by decide) (fun hB hi1=> ?_) (fun _=> ?_)
   ·rw[if_pos rfl]
    unfold lw
    rw[if_pos rfl,bh (by omega),bh (by omega)]
    refine hone hi1 ?_ (.inr rfl)
    have:(T.getD i bo).Text=[45]:=by unfold isB at hB;simp at hB;exact hB.1
    rw[this]
    decide
   ·rw[if_neg (by simp)]
    unfold lw
    rw[if_neg (by simp),bh (by omega)]
    refine nk hT hW (rbO T) (hS.p (d+1) i g (by omega) hi (by omega)) (fun z x w hw=>bad_if hw rfl) (fun n j h0 hj=>ok_if ?_)
    refine r_flow (e:=0) ?_ (fun j n h0 hj=> ?_) (fun _=>rfl) (fun _=>rfl)
    ·refine r_iter h0 hj (fun j n h0 hj=> ?_)
     unfold iq qg
     refine r_met hT hW hj (by decide) (fun _ hj1=> ?_) (fun _=> ?_)
     ·refine r_if (fun _=> ?_) (fun h=>by cases h)
      rw[bh (by omega)]
      refine r_name hT hW (rbS (rbF T 0)) hj1 (fun _ hj2=> ?_) ⟨_,_,rfl⟩
      rw[if_neg (by simp),bh (by omega)]
      unfold jx ir di dj qh
      refine r_met hT hW hj2 (by decide) (fun _ hj3=> ?_) (fun _=> ?_)
      ·refine r_if (fun _=> ?_) (fun h=>by cases h)
       rw[bh (by omega),bh (by omega)]
       refine nk hT hW (rbS (rbF T 0)) (hS.a (d+1) (j+1+1+1) g (by omega) (by omega) hj3 (by omega)) (fun z x w hw=>bad_ifF hw rfl) (fun l k h02 hk=>ok_if ?_)
       refine r_app ?_
       refine qe hT hW hi h02 (Nat.le_of_lt hk) ?_
       refine oq hT hW hi h02 (Nat.le_of_lt hk) ?_
       rw[bh (by omega)]
       refine q_idx hT hW hj1 ?_
       refine q_idx hT hW hj1 ?_
       exact i3 (ros_inl h02 hk)
      ·refine r_if (fun h=>by cases h) (fun _=> ?_)
       refine qe hT hW hi (by omega) (Nat.le_of_lt hj2) ?_
       refine oq hT hW hi (by omega) (Nat.le_of_lt hj2) ?_
       rw[bh (by omega)]
       refine q_idx hT hW hj1 ?_
       refine q_idx hT hW hj1 ?_
       exact i3 (ros_inl (by omega) hj2)
     ·refine r_if (fun h=>by cases h) (fun _=> ?_)
      exact i3 (ros_inr (rof_next (e:=0) h0 hj))
    ·exact i3 (ro_ok h0 hj)
end
end Go.Proofs.YteablckbgpogiaaGreatDoor
set_option linter.unusedSectionVars false
set_option linter.unusedVariables false
set_option linter.unusedSimpArgs false
set_option maxHeartbeats 4000000
namespace Go.Proofs.YteablckbgpogiaaGreatDoor
open Go Go.Cn
theorem isB_off {t:ApiToken} {s:List UInt8} (h:t.Kind≠4) (h2:t.Kind≠3):isB t s=false:=by
 unfold isB
 have e1:(t.Kind==4)=false:=by simpa using h
 have e2:(t.Kind==3)=false:=by simpa using h2
 rw[e1,e2]
 simp
theorem isB_at {t:ApiToken} {s:List UInt8} (h:t.Kind=3) (ht:t.Text=s):isB t s=true:=by
 unfold isB
 rw[h,ht]
 simp
theorem isB_ne {t:ApiToken} {s u:List UInt8} (ht:t.Text=u) (hne:(u==s)=false):isB t s=false:=by
 unfold isB
 rw[ht,hne]
 rfl
theorem valL_snoc (l:List UInt8) (c:UInt8):valL 0 (l++[c])=10 * valL 0 l+(c.toNat - 48):=by
 unfold valL
 rw[List.foldl_append]
 rfl
theorem valL_mono (l m:List UInt8):valL 0 l<=valL 0 (l++m):=by
 have h:valL 0 (l++m)=valL (valL 0 l) m:=by unfold valL;rw[List.foldl_append]
 rw[h]
 exact valL_ge m _
section
variable {x:List UInt8} {T:List ApiToken} (hT:TokP x T) (hW:TokW T)
include hT hW
theorem digits_r {R':al} {i:Nat} (hi:i<T.length) (hd:∀c∈(T.getD i bo).Text,dt c.toNat=true) (hv:valL 0 (T.getD i bo).Text<=2147483647) (hlen:(T.getD i bo).Text.length<=60000) (n:ApiNode) (hn:n.N=0):iter (fun s=>j4 R' T (i:Int) s.1 s.2) (0,n)=some {n with N:=(valL 0 (T.getD i bo).Text:Int)}:=by
 have hix:=idx_r hT hW hi
 generalize T.getD i bo=t at hd hv hlen hix
 obtain⟨o,h1,h2⟩:=fk (f:=fun s:Int × ApiNode=>j4 R' T (i:Int) s.1 s.2) (fun s=>∃k:Nat,k<=t.Text.length/\s.1=(k:Int)/\s.2={n with N:=(valL 0 (t.Text.take k):Int)}) (fun o=>o={n with N:=(valL 0 t.Text:Int)}) (fun s=>t.Text.length - s.1.toNat) (by
  rintro⟨_,_⟩ ⟨k,hk,rfl,rfl⟩
  unfold j4
  rw[hix,Option.bind_some]
  by_cases hlt:k<t.Text.length
  ·left
   rw[if_pos (by simp[hlt]),Option.bind_some,ot hlt,Option.bind_some]
   have hdig:=hd _ (List.getElem_mem hlt)
   simp only[dt,Bool.and_eq_true,decide_eq_true_eq]at hdig
   have htk:t.Text.take (k+1)=t.Text.take k++[t.Text[k]]:=by
    rw[List.take_add_one,List.getElem?_eq_getElem hlt]
    rfl
   have hvk:valL 0 (t.Text.take (k+1))<=valL 0 t.Text:=by
    conv=>rhs;rw[← List.take_append_drop (k+1) t.Text]
    exact valL_mono _ _
   have hval:=valL_snoc (t.Text.take k) t.Text[k]
   rw[← htk]at hval
   refine⟨_,rfl,⟨k+1,by omega,bh (by omega),?_⟩,?_⟩
   ·have e1:IntKind.wrap .u8 ((t.Text[k].toNat:Int) - 48)=(t.Text[k].toNat:Int) - 48:=by
     unfold IntKind.wrap
     simp only[IntKind.bits,IntKind.signed]
     have h3:t.Text[k].toNat<256:=t.Text[k].toNat_lt
     simp
     omega
    simp only
    rw[e1,gt (n:=(t.Text[k].toNat:Int) - 48) (by omega) (by omega),gt (n:=10 * (valL 0 (t.Text.take k):Int)) (by omega) (by omega),gt (by omega) (by omega),hval]
    congr 1
    omega
   ·simp only
    rw[bh (by omega)]
    omega
  ·right
   rw[if_neg (by simp;omega)]
   refine⟨_,rfl,?_⟩
   rw[List.take_of_length_le (by omega)]) (0,n) ⟨0,by omega,rfl,by
    have:valL 0 ([]:List UInt8)=0:=rfl
    simp only[List.take_zero,this]
    cases n
    simp only at hn
    subst hn
    rfl⟩
 rw[h1,h2]
variable {R:am} (hS:SpecG T R)
include hS
theorem tail_r {g d i:Nat} (hd:d<=100) (hi:i<T.length) (hg:20 * (100 - d)+16<g) (hk:(T.getD i bo).Kind≠1):RG (RO T) (d8 R ⟨T,(i:Int)⟩ (d:Int)) (tailP (aw g) T (i:Int) (d:Int)):=by
 have hlen:=hT.len
 unfold d8 jd di dj tailP
 refine r_met hT hW hi (by decide) (fun _ hi1=> ?_) (fun _=> ?_)
 ·refine r_if (fun _=> ?_) (fun h=>by cases h)
  rw[bh (by omega),w2 (by omega),w3 (by omega),w4 (by omega)]
  refine r_name hT hW (rbO T) hi1 (fun _ hi2=> ?_) ⟨_,_,rfl⟩
  rw[if_neg (by simp)]
  refine r_need hT hW (rbO T) hi2 (by decide) (fun _ hi3=> ?_) ⟨_,_,rfl⟩
  rw[if_neg (by simp)]
  refine r_need hT hW (rbO T) hi3 (by decide) (fun _ hi4=> ?_) ⟨_,_,rfl⟩
  rw[if_neg (by simp)]
  refine qe hT hW hi (by omega) (Nat.le_of_lt hi4) ?_
  refine oq hT hW hi (by omega) (Nat.le_of_lt hi4) ?_
  refine q_idx hT hW hi1 ?_
  refine q_idx hT hW hi1 ?_
  unfold nt
  rw[w4 (by omega)]
  exact i3 (ro_ok (by omega) hi4)
 ·refine r_if (fun h=>by cases h) (fun _=> ?_)
  refine r_met hT hW hi (by decide) (fun _ hi1=> ?_) (fun _=> ?_)
  ·refine r_if (fun _=> ?_) (fun h=>by cases h)
   rw[bh (by omega)]
   refine nk hT hW (rbO T) (expr_all hT hW hS hd hi1 (by omega)) (fun z x w hw=>bad_if hw rfl) (fun n k h02 hk=>ok_if ?_)
   refine r_need hT hW (rbO T) hk (by decide) (fun _ hk1=> ?_) ⟨_,_,rfl⟩
   rw[if_neg (by simp)]
   unfold ns
   rw[bh (by omega)]
   exact i3 (ro_ok (by omega) hk1)
  ·refine r_if (fun h=>by cases h) (fun _=> ?_)
   refine q_name hT hW hi (b:=false) (by simpa using hk) ?_
   rw[if_neg (by simp)]
   exact r_fail hT hW (rbO T) hi ⟨_,_,rfl⟩
theorem primary_r {g d i:Nat} (hd:d<=100) (hi:i<T.length) (hg:20 * (100 - d)+17<g):RG (RO T) (ez R (d:Int) ⟨T,(i:Int)⟩) ((aw g).2.2.2.1 T (i:Int) (d:Int)):=by
 have hlen:=hT.len
 obtain⟨g,rfl⟩:∃g',g=g'+1:=⟨g - 1,by omega⟩
 show RG _ _ (pg (aw g) T (i:Int) (d:Int))
 have e0:T.getD i bo=T[i]:=by simp[List.getD,hi]
 unfold ez pg
 refine l_now hT hW hi ?_
 refine q_idx hT hW hi ?_
 have hlast:(T.getD i bo).Kind≠5->i+1<T.length:=fun h=>ne_last hT hi (by rw[← e0];exact h)
 refine r_if (fun hk=> ?_) (fun hk=> ?_)
 ·have hk:(T.getD i bo).Kind=2:=by simpa using hk
  have hi1:=hlast (by omega)
  obtain⟨c,l,e,hdg,hvl⟩:=hW.num i hi (by rw[← e0];exact hk)
  rw[← e0]at e
  have hln:(T.getD i bo).Text.length<=60000:=by
   obtain⟨a,_,h2,_⟩:=hT.place i hi
   have:=hT.bytes
   rw[e0]
   omega
  refine l_step hT hW hi ?_
  refine qe hT hW hi (by omega) (Nat.le_of_lt hi1) ?_
  have hp:fc (T.getD i bo).Text 10 64=some ((valL 0 (T.getD i bo).Text:Int),false):=by
   rw[e]at hln ⊢
   exact parseInt_val c l hdg (by omega) hvl
  rw[hp,Option.bind_some,bh (by omega)]
  refine oq hT hW hi (by omega) (Nat.le_of_lt hi1) ?_
  rw[digits_r hT hW hi (by rw[e];exact hdg) (by rw[e];exact hvl) hln _ rfl,Option.bind_some]
  unfold qt qx da
  rw[Option.bind_some,bh (by omega)]
  exact i3 (ro_ok (by omega) hi1)
 ·have hk2:(T.getD i bo).Kind≠2:=by simpa using hk
  by_cases hk1:(T.getD i bo).Kind=1
  ·have hi1:=hlast (by omega)
   rw[if_pos (by simpa using hk1)]
   have hoff:∀s,isB (T.getD i bo) s=false:=fun s=>isB_off (by omega) (by omega)
   refine l_step hT hW hi ?_
   unfold jc jb di dj
   refine q_is hT hW hi (by decide) (hoff _) ?_
   rw[if_neg (by simp)]
   refine q_is hT hW hi (by decide) (hoff _) ?_
   rw[if_neg (by simp)]
   refine q_is hT hW hi (by decide) (hoff _) ?_
   rw[if_neg (by simp)]
   refine q_is hT hW hi (by decide) (hoff _) ?_
   rw[if_neg (by simp)]
   refine q_is hT hW hi (by decide) (hoff _) ?_
   rw[if_neg (by simp)]
   refine q_is hT hW hi (by decide) (hoff _) ?_
   rw[if_neg (by simp)]
   refine q_name hT hW hi (b:=true) (by simpa using hk1) ?_
   rw[if_pos rfl,bh (by omega)]
   refine oq hT hW hi (by omega) (Nat.le_of_lt hi1) ?_
   refine q_idx hT hW hi ?_
   refine q_idx hT hW hi ?_
   refine r_met hT hW hi1 (by decide) (fun _ hi2=> ?_) (fun _=> ?_)
   ·refine r_if (fun h=>by cases h) (fun _=> ?_)
    rw[w2 (by omega)]
    refine nk hT hW (rbO T) (hS.a d (i+1+1) g hd (by omega) hi2 (by omega)) (fun z x w hw=>bad_if hw rfl) (fun l k h02 hk=>ok_if ?_)
    refine qe hT hW hi h02 (Nat.le_of_lt hk) ?_
    rw[end_r hT hW h02 (Nat.le_of_lt hk),Option.bind_some]
    exact i3 (ro_ok h02 hk)
   ·refine r_if (fun _=> ?_) (fun h=>by cases h)
    refine qe hT hW hi (by omega) (Nat.le_of_lt hi1) ?_
    unfold nr da
    rw[Option.bind_some,bh (by omega)]
    exact i3 (ro_ok (by omega) hi1)
  ·rw[if_neg (by simpa using hk1)]
   by_cases hk3:(T.getD i bo).Kind=3
   ·have hi1:=hlast (by omega)
    rw[if_pos (by simpa using hk3),show parse_words=some [([116,114,117,101],ApiNode.mk 14 [] [] 1 0 0 0 0 []),([102,97,108,115,101],ApiNode.mk 14 [] [] 0 0 0 0 0 []),([110,117,108,108],ApiNode.mk 15 [] [] 0 0 0 0 0 []),([116,104,105,115],ApiNode.mk 16 [] [] 0 0 0 0 0 [])]from rfl,Option.bind_some]
    unfold ja
    have hgo:∀{kd nn:Int},RG (RO T) ((cz ⟨T,(i:Int)⟩).bind fun(x31,x32)=>(parse_parser_made x32 kd (i:Int) []).bind fun x33=>some (PX.ok (μ:=ParseWrong) ({x33 with N:=nn},x32))) (some (⟨kd,[],[],nn,aT T i,eT T (i+1), -1, -1,[]⟩,((i+1:Nat):Int),⟨-1,0⟩)):=fun {kd nn}=>by
     refine l_step hT hW hi ?_
     refine qe hT hW hi (by omega) (Nat.le_of_lt hi1) ?_
     exact i3 (ro_ok (by omega) hi1)
    by_cases h1:(T.getD i bo).Text=[116,114,117,101]
    ·refine q_is hT hW hi (by decide) (isB_at hk3 h1) ?_
     refine q_pos ?_
     rw[bh (by omega),h1]
     refine oq hT hW hi (by omega) (Nat.le_of_lt hi1) ?_
     unfold qw da
     rw[Option.bind_some,bh (by omega)]
     exact hgo (kd:=14) (nn:=1)
    refine q_is hT hW hi (by decide) (b:=false) (by unfold isB;rw[show((T.getD i bo).Text==[116,114,117,101])=false by simpa using h1];rfl) ?_
    refine qb ?_
    by_cases h2:(T.getD i bo).Text=[102,97,108,115,101]
    ·refine q_is hT hW hi (by decide) (isB_at hk3 h2) ?_
     refine q_pos ?_
     rw[bh (by omega),h2]
     refine oq hT hW hi (by omega) (Nat.le_of_lt hi1) ?_
     exact hgo (kd:=14) (nn:=0)
    refine q_is hT hW hi (by decide) (b:=false) (by unfold isB;rw[show((T.getD i bo).Text==[102,97,108,115,101])=false by simpa using h2];rfl) ?_
    refine qb ?_
    by_cases h3:(T.getD i bo).Text=[110,117,108,108]
    ·refine q_is hT hW hi (by decide) (isB_at hk3 h3) ?_
     refine q_pos ?_
     rw[bh (by omega),h3]
     refine oq hT hW hi (by omega) (Nat.le_of_lt hi1) ?_
     exact hgo (kd:=15) (nn:=0)
    refine q_is hT hW hi (by decide) (b:=false) (by unfold isB;rw[show((T.getD i bo).Text==[110,117,108,108])=false by simpa using h3];rfl) ?_
    refine qb ?_
    by_cases h4:(T.getD i bo).Text=[116,104,105,115]
    ·refine q_is hT hW hi (by decide) (isB_at hk3 h4) ?_
     refine q_pos ?_
     rw[bh (by omega),h4]
     refine oq hT hW hi (by omega) (Nat.le_of_lt hi1) ?_
     exact hgo (kd:=16) (nn:=0)
    refine q_is hT hW hi (by decide) (b:=false) (by unfold isB;rw[show((T.getD i bo).Text==[116,104,105,115])=false by simpa using h4];rfl) ?_
    refine qb ?_
    have hno:mhas (T.getD i bo).Text ([([116,114,117,101],ApiNode.mk 14 [] [] 1 0 0 0 0 []),([102,97,108,115,101],ApiNode.mk 14 [] [] 0 0 0 0 0 []),([110,117,108,108],ApiNode.mk 15 [] [] 0 0 0 0 0 []),([116,104,105,115],ApiNode.mk 16 [] [] 0 0 0 0 0 [])]:SMap ApiNode)=false:=by
     simp only[mhas]
     rw[if_neg (fun h=>h1 h.symm),if_neg (fun h=>h2 h.symm),if_neg (fun h=>h3 h.symm),if_neg (fun h=>h4 h.symm)]
    rw[if_neg (by rw[hno];simp)]
    exact tail_r hT hW hS hd hi (by omega) hk1
   ·rw[if_neg (by simpa using hk3)]
    have hoff:∀s,kept.contains s=true->isB (T.getD i bo) s=false:=fun s hs=>by
     by_cases h4:(T.getD i bo).Kind=4
     ·unfold isB
      have hm:=hW.mark i hi (by rw[← e0];exact h4)
      rw[← e0]at hm
      cases hc:(T.getD i bo).Text==s with
      |false=>rfl
      |true=>
       have:(T.getD i bo).Text=s:=by simpa using hc
       rw[this,hs]at hm
       cases hm
     ·exact isB_off h4 hk3
    refine q_is hT hW hi (by decide) (hoff _ (by decide)) ?_
    rw[if_neg (by simp)]
    refine q_is hT hW hi (by decide) (hoff _ (by decide)) ?_
    rw[if_neg (by simp)]
    refine q_is hT hW hi (by decide) (hoff _ (by decide)) ?_
    rw[if_neg (by simp)]
    refine q_is hT hW hi (by decide) (hoff _ (by decide)) ?_
    rw[if_neg (by simp)]
    exact tail_r hT hW hS hd hi (by omega) hk1
omit hS in
theorem specG :∀f:Nat,SpecG T (cq f)
 | 0=>⟨fun _ _ _ _ _ _ _ _ r h=>(by cases h),fun _ _ _ _ _ _ r h=>(by cases h),fun _ _ _ _ _ _ r h=>(by cases h),fun _ _ _ _ _ _ _ r h=>(by cases h)⟩
 |f+1=>⟨fun d l i g h1 h2 h3 h4=>by
   have:=level_r hT hW (specG f) (endOk_at f) (d:=d) (i:=i) h1 h3 (6 - l) (l+1) g (by omega) (by omega) (by omega)
   rw[show((l+1:Nat):Int) - 1=(l:Int)by omega]at this
   exact this,fun d i g h1 h2 h3=>unary_r hT hW (specG f) h1 h2 h3,fun d i g h1 h2 h3=>primary_r hT hW (specG f) h1 h2 h3,fun d i g h1 h0 h2 h3=>args_r hT hW (specG f) h1 h0 h2 h3⟩
omit hS in
theorem expression_r {d i:Nat} (hd:d<=100) (hi:i<T.length):RG (RO T) (dg (d:Int) 0 ⟨T,(i:Int)⟩) (j5 T (i:Int) (d:Int)):=
 expr_all hT hW (specG hT hW 1048576) hd hi (by omega)
end
end Go.Proofs.YteablckbgpogiaaGreatDoor
set_option linter.unusedSectionVars false
set_option linter.unusedVariables false
set_option linter.unusedSimpArgs false
set_option maxHeartbeats 4000000
namespace Go.Proofs.YteablckbgpogiaaGreatDoor
open Go Go.Cn
theorem bindQ_ok {β Ω:Type} {a:β} {B:ParseWrong->Option Ω} {F:β->Option Ω}:cp (some (.ok a)) B F=F a:=rfl
theorem r_pass {T:List ApiToken} {y:Option (PX ParseWrong (ApiNode × ParseParser))} {q:Option (ApiNode × Int × Ref12Wrong)} (h:RG (RO T) y q):RG (RO T) (cp y (fun m=>some (.bad m)) fun(a,b)=>some (.ok (a,b))) (q.bind fun(a,b,c)=>some (a,b,c)):=by
 intro r hr
 cases y with
 |none=>cases hr
 |some v=>
  obtain⟨v',rfl,hv⟩:=h v rfl
  refine⟨v',rfl,?_⟩
  cases v with
  |ok a=>simp only[cp,Option.some.injEq]at hr;subst hr;exact hv
  |bad m=>simp only[cp,Option.some.injEq]at hr;subst hr;exact hv
noncomputable def localN (d:Int) (x5:ParseParser):Option (PX ParseWrong (ApiNode × ParseParser)):=cp (f6 x5) (fun m24=>some (.bad m24)) fun(x6,x7)=>(cp (dm x7) (fun m23=>some (.bad m23)) fun(x9,x10)=>(cp (bc ([61]:List UInt8) x10) (fun m22=>some (.bad m22)) fun x12=>(cp (dg (w64 (d+1)) 0 x12) (fun m21=>some (.bad m21)) fun(x13,x14)=>(cp (bc ([59]:List UInt8) x14) (fun m20=>some (.bad m20)) fun x16=>(parse_parser_made x16 6 x5.at_ ([x13]:List ApiNode)).bind fun x17=>(di x17 x9).bind fun x18=>(f1 x18 x6).bind fun x19=>gh x16 x19))))
theorem local_split (d:Int) (p:ParseParser):i9 d p=cp (ec d p) (fun m25=>some (.bad m25)) (fun x5=>localN d x5):=rfl
section
variable {x:List UInt8} {T:List ApiToken} (hT:TokP x T) (hW:TokW T)
include hT hW
theorem isB_text {i:Nat} (hi:i<T.length) {s:List UInt8} (hs:plainT s=true):isB (T.getD i bo) s=((T.getD i bo).Text==s&&(T.getD i bo).Kind != 1):=by
 have h1:=hW.kind i hi
 have h2:=hW.num i hi
 have h5:=hW.fin i hi
 have e0:T.getD i bo=T[i]:=by simp[List.getD,hi]
 rw[e0]
 unfold isB
 rcases h1 with h|h|h|h|h
 ·rw[h];simp
 ·obtain⟨c,l,e,hd,_⟩:=h2 h
  have hne:(T[i].Text==s)=false:=by
   cases hc:T[i].Text==s with
   |false=>rfl
   |true=>
    have:T[i].Text=s:=by simpa using hc
    rw[← this,e]at hs
    have:=hd c List.mem_cons_self
    simp[plainT,this]at hs
  rw[hne]
  rfl
 ·rw[h];simp
 ·rw[h];simp
 ·have hne:(T[i].Text==s)=false:=by
   rw[h5 h]
   cases s with
   |nil=>cases hs
   |cons c l=>rfl
  rw[hne]
  rfl
theorem bracketed_r {d i:Nat} (hd:d<=100) (hi:i<T.length):RG (RO T) (dy (d:Int) ⟨T,(i:Int)⟩) (mj T (i:Int) (d:Int)):=by
 have hlen:=hT.len
 unfold dy mj
 refine r_need hT hW (rbO T) hi (by decide) (fun _ hi1=> ?_) ⟨_,_,rfl⟩
 refine qb ?_
 rw[bh (by omega)]
 refine nk hT hW (rbO T) (expression_r hT hW hd hi1) (fun z x w hw=>bad_if hw rfl) (fun n k h02 hk=>ok_if ?_)
 refine r_need hT hW (rbO T) hk (by decide) (fun _ hk1=> ?_) ⟨_,_,rfl⟩
 refine qb ?_
 unfold ov
 rw[bh (by omega)]
 exact i3 (ro_ok (by omega) hk1)
theorem localN_r {d i:Nat} (hd:d<=99) (hi:i<T.length) (hty:isTy (T.getD i bo)=true) (hi1:i+1<T.length):RG (RO T) (localN (d:Int) ⟨T,(i:Int)⟩) (ref12_locals T (i:Int) (d:Int)):=by
 have hlen:=hT.len
 have e0:T.getD i bo=T[i]:=by simp[List.getD,hi]
 unfold localN gh di dj f1 fh ref12_locals
 rw[value_eq hT hi,← e0,hty,is_r hT hW hi (by decide),Option.bind_some]
 cases hv:isB (T.getD i bo) [118,111,105,100]with
 |true=>
  intro r hr
  simp only[cp,Bool.not_true,Bool.and_false,Bool.false_eq_true,if_false,Option.some.injEq]at hr
  subst hr
  refine⟨_,rfl,_,_,i,hi,rfl,?_⟩
  rw[e0,← aT_eq hT hi]
 |false=>
  simp only[bindQ_ok,Bool.not_false,Bool.and_true,if_true,Bool.false_eq_true,if_false]
  rw[bh (n:=i) (by omega),w2 (by omega),w3 (by omega)]
  refine r_name hT hW (rbO T) hi1 (fun _ hi2=> ?_) ⟨_,_,rfl⟩
  refine qb ?_
  refine r_need hT hW (rbO T) hi2 (by decide) (fun _ hi3=> ?_) ⟨_,_,rfl⟩
  refine qb ?_
  rw[bh (by omega)]
  refine nk hT hW (rbO T) (expression_r hT hW (d:=d+1) (by omega) hi3) (fun z x w hw=>bad_if hw rfl) (fun n k h02 hk=>ok_if ?_)
  refine r_need hT hW (rbO T) hk (by decide) (fun _ hk1=> ?_) ⟨_,_,rfl⟩
  refine qb ?_
  rw[bh (by omega)]
  refine qe hT hW hi (by omega) (Nat.le_of_lt hk1) ?_
  refine oq hT hW hi (by omega) (Nat.le_of_lt hk1) ?_
  refine q_typed hT hW hi1 ?_
  exact i3 (ro_ok (by omega) hk1)
theorem localN_tot {d i:Nat} (hd:d<=99) (hi:i<T.length):∃r,localN (d:Int) ⟨T,(i:Int)⟩=some r:=by
 have hlen:=hT.len
 have V:=Two.one hT
 unfold localN gh di dj f1 fh
 rw[value_eq hT hi]
 by_cases h1:(isTy T[i]&& !isB T[i] [118,111,105,100])=true
 ·rw[if_pos h1]
  simp only[cp]
  have hi1:i+1<T.length:=isTy_lt hT hi (by simp at h1;exact h1.1)
  rw[name_eq hT hi1]
  by_cases h2:(T[i+1].Kind==1)=true
  ·rw[if_pos h2]
   simp only
   have hi2:i+1+1<T.length:=ne_last hT hi1 (by simp at h2;rw[h2];decide)
   rw[need_eq hT hi2]
   by_cases h3:isB T[i+1+1] [61]=true
   ·rw[if_pos h3]
    simp only
    have hi3:i+1+1+1<T.length:=isB_lt hT hi2 h3
    rw[bh (by omega)]
    obtain⟨r,hr,hw⟩:=pw V (d:=d+1) (i:=i+1+1+1) (by omega) hi3
    have hr:dg ((d+1:Nat):Int) 0 ⟨T,((i+1+1+1:Nat):Int)⟩=some r:=hr
    rw[hr]
    cases r with
    |bad m=>exact⟨_,rfl⟩
    |ok a=>
     obtain⟨n,p⟩:=a
     obtain⟨j,e,hj,_⟩:=hw
     have e:p=⟨T,(j:Int)⟩:=e
     have hj:j<T.length:=hj
     subst e
     simp only
     rw[need_eq hT hj]
     by_cases h4:isB T[j] [59]=true
     ·rw[if_pos h4]
      simp only
      have hj1:j+1<T.length:=isB_lt hT hj h4
      rw[made_eq hT hi (by omega) (Nat.le_of_lt hj1)]
      exact⟨_,rfl⟩
     ·rw[if_neg h4]
      exact⟨_,rfl⟩
   ·rw[if_neg h3]
    exact⟨_,rfl⟩
  ·rw[if_neg h2]
   exact⟨_,rfl⟩
 ·rw[if_neg h1]
  exact⟨_,rfl⟩
theorem kind_r {i:Nat} (hi:i<T.length):ref12_kind T (i:Int)=some (isTy (T.getD i bo)):=by
 unfold ref12_kind nc isTy
 rw[name_r hT hW hi,is_r hT hW hi (by decide),is_r hT hW hi (by decide),is_r hT hW hi (by decide)]
 simp only[Option.bind_some]
 cases (T.getD i bo).Kind==1<;>cases isB (T.getD i bo) [105,110,116]<;>cases isB (T.getD i bo) [98,111,111,108,101,97,110]<;>cases isB (T.getD i bo) [118,111,105,100]<;>rfl
theorem local_eq {i:Nat} (hi:i<T.length):∃v,ei ⟨T,(i:Int)⟩=some v/\ref12_local T (i:Int)=some v/\(v=true->isTy (T.getD i bo)=true/\i+1<T.length):=by
 have hlen:=hT.len
 have e0:T.getD i bo=T[i]:=by simp[List.getD,hi]
 unfold ref12_local kj
 rw[name_r hT hW hi,is_r hT hW hi (by decide),is_r hT hW hi (by decide),is_r hT hW hi (by decide)]
 simp only[Option.bind_some]
 by_cases hlt:i+1<T.length
 ·rw[isLocal_lt hT hlt,bh (by omega),name_r hT hW hlt]
  unfold locB isTy
  have hoff:(T.getD i bo).Kind=1->∀s,isB (T.getD i bo) s=false:=fun h s=>isB_off (by omega) (by omega)
  by_cases hk:(T.getD i bo).Kind=1
  ·rw[hoff hk,hoff hk,hoff hk,hk]
   cases hk2:(T.getD (i+1) bo).Kind==1
   ·exact⟨false,rfl,rfl,fun h=>by cases h⟩
   ·exact⟨true,rfl,rfl,fun _=>⟨rfl,hlt⟩⟩
  ·have hk':((T.getD i bo).Kind==1)=false:=by simpa using hk
   have hk'':((T.getD i bo).Kind != 1)=true:=by simpa using hk
   rw[hk',hk'']
   cases isB (T.getD i bo) [105,110,116]<;>cases isB (T.getD i bo) [98,111,111,108,101,97,110]<;>cases isB (T.getD i bo) [118,111,105,100]<;>first|exact⟨false,rfl,rfl,fun h=>by cases h⟩|exact⟨true,rfl,rfl,fun _=>⟨rfl,hlt⟩⟩
 ·have hk:T[i].Kind=5:=(hT.last i hi).2 (by omega)
  rw[← e0]at hk
  have hoff:∀s,isB (T.getD i bo) s=false:=fun s=>isB_off (by omega) (by omega)
  have hty:isTy (T.getD i bo)=false:=by
   unfold isTy
   rw[hoff,hoff,hoff,hk]
   rfl
  rw[isLocal_no hT hi hty,hoff,hoff,hoff,hk]
  exact⟨false,rfl,rfl,fun h=>by cases h⟩
theorem back_r {d i:Nat} (hd:d<=99) (hi:i<T.length) (hB:isB (T.getD i bo) [114,101,116,117,114,110]=true):RG (RO T) (ip (d:Int) ⟨T,(i:Int)⟩) (o8 T (i:Int) (d:Int)):=by
 have hlen:=hT.len
 have e0:T.getD i bo=T[i]:=by simp[List.getD,hi]
 have hi1:i+1<T.length:=isB_lt hT hi (by rw[← e0];exact hB)
 have ht:(T.getD i bo).Text=[114,101,116,117,114,110]:=by unfold isB at hB;simp at hB;simpa using hB.1
 unfold ip o8
 refine q_is hT hW hi (by decide) (isB_ne ht (by decide)) ?_
 refine qb ?_
 rw[need_eq hT hi,← e0,hB,bh (n:=i) (by omega),w2 (by omega)]
 simp only[bindQ_ok,if_true]
 refine r_met hT hW hi1 (by decide) (fun _ hi2=> ?_) (fun _=> ?_)
 ·refine r_if (fun _=> ?_) (fun h=>by cases h)
  refine qe hT hW hi (by omega) (Nat.le_of_lt hi2) ?_
  refine oq hT hW hi (by omega) (Nat.le_of_lt hi2) ?_
  exact i3 (ro_ok (by omega) hi2)
 ·refine r_if (fun h=>by cases h) (fun _=> ?_)
  rw[bh (by omega)]
  refine nk hT hW (rbO T) (expression_r hT hW (d:=d+1) (by omega) hi1) (fun z x w hw=>bad_if hw rfl) (fun n k h02 hk=>ok_if ?_)
  refine r_need hT hW (rbO T) hk (by decide) (fun _ hk1=> ?_) ⟨_,_,rfl⟩
  refine qb ?_
  rw[bh (by omega)]
  refine qe hT hW hi (by omega) (Nat.le_of_lt hk1) ?_
  refine oq hT hW hi (by omega) (Nat.le_of_lt hk1) ?_
  exact i3 (ro_ok (by omega) hk1)
theorem show_r {d i:Nat} (hd:d<=99) (hi:i<T.length) (hB:isB (T.getD i bo) [112,114,105,110,116]=true):RG (RO T) (io (d:Int) ⟨T,(i:Int)⟩) (o8 T (i:Int) (d:Int)):=by
 have hlen:=hT.len
 have e0:T.getD i bo=T[i]:=by simp[List.getD,hi]
 have hi1:i+1<T.length:=isB_lt hT hi (by rw[← e0];exact hB)
 unfold io o8
 refine q_is hT hW hi (by decide) hB ?_
 refine q_pos ?_
 rw[need_eq hT hi,← e0,hB,bh (by omega),bh (by omega)]
 simp only[bindQ_ok,if_true]
 refine nk hT hW (rbO T) (bracketed_r hT hW (d:=d+1) (by omega) hi1) (fun z x w hw=>bad_if hw rfl) (fun n k h02 hk=>ok_if ?_)
 refine r_need hT hW (rbO T) hk (by decide) (fun _ hk1=> ?_) ⟨_,_,rfl⟩
 refine qb ?_
 rw[bh (by omega)]
 refine qe hT hW hi (by omega) (Nat.le_of_lt hk1) ?_
 refine oq hT hW hi (by omega) (Nat.le_of_lt hk1) ?_
 exact i3 (ro_ok (by omega) hk1)
end
structure SpecT (T:List ApiToken) (R:ay):Prop where
 b:∀d i g:Nat,d<=98->i<T.length->4 * (100 - d)+1<g->RG (RO T) (R.1 (d:Int) ⟨T,(i:Int)⟩) ((co g).1 T (i:Int) (d:Int))
 s:∀d i g:Nat,d<=100->i<T.length->4 * (100 - d)+3<g->RG (RO T) (R.2.1 (d:Int) ⟨T,(i:Int)⟩) ((co g).2.1 T (i:Int) (d:Int))
 f:∀d i g:Nat,d<=98->i<T.length->isB (T.getD i bo) [105,102]=true->4 * (100 - d)+2<g->RG (RO T) (R.2.2.1 (d:Int) ⟨T,(i:Int)⟩) ((co g).2.2 T (i:Int) (d:Int))
 w:∀d i g:Nat,d<=98->i<T.length->isB (T.getD i bo) [119,104,105,108,101]=true->4 * (100 - d)+2<g->RG (RO T) (R.2.2.2 (d:Int) ⟨T,(i:Int)⟩) ((co g).2.2 T (i:Int) (d:Int))
section
variable {x:List UInt8} {T:List ApiToken} (hT:TokP x T) (hW:TokW T) {R:ay} (hS:SpecT T R)
include hT hW hS
theorem block_r {g d i:Nat} (hd:d<=98) (hi:i<T.length) (hg:4 * (100 - d)+1<g):RG (RO T) (f0 R (d:Int) ⟨T,(i:Int)⟩) ((co g).1 T (i:Int) (d:Int)):=by
 have hlen:=hT.len
 obtain⟨g,rfl⟩:∃g',g=g'+1:=⟨g - 1,by omega⟩
 show RG _ _ (F_ref12_block (co g) T (i:Int) (d:Int))
 unfold f0 jy F_ref12_block ref12_block_k1
 refine r_need hT hW (rbO T) hi (by decide) (fun _ hi1=> ?_) ⟨_,_,rfl⟩
 refine qb ?_
 rw[bh (by omega)]
 refine r_flow (e:=1) ?_ (fun j l h0 hj=> ?_) (fun _=>rfl) (fun _=>rfl)
 ·refine r_iter (by omega) hi1 (fun j l h0 hj=> ?_)
  unfold iz ql
  refine r_met hT hW hj (by decide) (fun _ hj1=> ?_) (fun _=> ?_)
  ·refine r_if (fun h=>by cases h) (fun _=> ?_)
   exact i3 (ros_inr (rof_next (e:=1) h0 hj1))
  ·refine r_if (fun _=> ?_) (fun h=>by cases h)
   obtain⟨v,hv1,hv2,hv3⟩:=local_eq hT hW hj
   rw[hv1,hv2,Option.bind_some,Option.bind_some,bh (by omega)]
   have hgo:∀(n:ApiNode) (k:Nat),0<k->k<T.length->RG (ROS T (ROF T (β:=ApiNode) 1)) ((app 104 l [n]).bind fun x19=>some (.inl (⟨T,(k:Int)⟩,x19))) (kl (co g) l (k:Int) n (Ref12Wrong.mk (-1) 0)):=fun n k h02 hk=>by
    unfold kl
    refine ok_if (r_app ?_)
    exact i3 (ros_inl h02 hk)
   refine r_if (fun hvt=> ?_) (fun _=> ?_)
   ·obtain⟨hty,hj1⟩:=hv3 hvt
    rw[local_split]
    unfold ec
    by_cases hd1:d+1>60
    ·rw[if_pos (by simp;omega),fail_eq hT hj]
     obtain⟨r0,hr0⟩:=localN_tot hT hW (d:=d+1) (by omega) hj
     obtain⟨q0,hq0,_⟩:=localN_r hT hW (d:=d+1) (by omega) hj hty hj1 r0 hr0
     rw[hq0,Option.bind_some]
     simp only[cp]
     rw[if_pos (by simp;omega)]
     intro r hr
     injection hr with hr
     subst hr
     unfold kl
     rw[if_pos (by simp)]
     refine⟨_,rfl,_,rfl,_,rfl,_,_,j,hj,rfl,?_⟩
     rw[aT_eq hT hj]
    ·rw[if_neg (by simp;omega)]
     simp only[bindQ_ok]
     refine nk hT hW (rbS (rbF T 1)) (localN_r hT hW (d:=d+1) (by omega) hj hty hj1) (fun z x w hw=> ?_) (fun n k h02 hk=> ?_)
     ·simp only
      rw[if_neg (by simp;omega)]
      exact bad_ifF hw rfl
     ·simp only
      rw[if_neg (by simp;omega)]
      exact hgo n k h02 hk
   ·exact nk hT hW (rbS (rbF T 1)) (hS.s (d+1) j g (by omega) hj (by omega)) (fun z x w hw=>bad_ifF hw rfl) (fun n k h02 hk=>hgo n k h02 hk)
 ·simp only
  rw[bh (by omega)]
  refine qe hT hW hi (by omega) (Nat.le_of_lt hj) ?_
  refine oq hT hW hi (by omega) (Nat.le_of_lt hj) ?_
  exact i3 (ro_ok (by omega) hj)
theorem branch_r {g d i:Nat} (hd:d<=98) (hi:i<T.length) (hB:isB (T.getD i bo) [105,102]=true) (hg:4 * (100 - d)+2<g):RG (RO T) (fj R (d:Int) ⟨T,(i:Int)⟩) ((co g).2.2 T (i:Int) (d:Int)):=by
 have hlen:=hT.len
 have e0:T.getD i bo=T[i]:=by simp[List.getD,hi]
 have hi1:i+1<T.length:=isB_lt hT hi (by rw[← e0];exact hB)
 have ht:(T.getD i bo).Text=[105,102]:=by unfold isB at hB;simp at hB;simpa using hB.1
 obtain⟨g,rfl⟩:∃g',g=g'+1:=⟨g - 1,by omega⟩
 show RG _ _ (k7 (co g) T (i:Int) (d:Int))
 unfold fj ia k7
 rw[need_eq hT hi,← e0,hB,bh (by omega),bh (by omega)]
 simp only[bindQ_ok,if_true]
 refine nk hT hW (rbO T) (bracketed_r hT hW (d:=d+1) (by omega) hi1) (fun z x w hw=>bad_if hw rfl) (fun n k h02 hk=>ok_if ?_)
 refine nk hT hW (rbO T) (hS.s (d+1) k g (by omega) hk (by omega)) (fun z x w hw=>bad_if hw rfl) (fun m j h03 hj=>ok_if ?_)
 refine q_is hT hW hi (by decide) (isB_ne ht (by decide)) ?_
 refine qb ?_
 rw[app_small (l:=[n]) (m:=[m]) (by simp),Option.bind_some]
 unfold nu
 refine r_met hT hW hj (by decide) (fun _ hj1=> ?_) (fun _=> ?_)
 ·refine r_if (fun _=> ?_) (fun h=>by cases h)
  rw[bh (by omega)]
  refine nk hT hW (rbO T) (hS.s (d+1) (j+1) g (by omega) hj1 (by omega)) (fun z x w hw=>bad_if hw rfl) (fun u q h04 hq=>ok_if ?_)
  refine r_app ?_
  refine qe hT hW hi (by omega) (Nat.le_of_lt hq) ?_
  refine oq hT hW hi (by omega) (Nat.le_of_lt hq) ?_
  exact i3 (ro_ok (by omega) hq)
 ·refine r_if (fun h=>by cases h) (fun _=> ?_)
  refine qe hT hW hi (by omega) (Nat.le_of_lt hj) ?_
  refine oq hT hW hi (by omega) (Nat.le_of_lt hj) ?_
  exact i3 (ro_ok (by omega) hj)
theorem loop_r {g d i:Nat} (hd:d<=98) (hi:i<T.length) (hB:isB (T.getD i bo) [119,104,105,108,101]=true) (hg:4 * (100 - d)+2<g):RG (RO T) (ge R (d:Int) ⟨T,(i:Int)⟩) ((co g).2.2 T (i:Int) (d:Int)):=by
 have hlen:=hT.len
 have e0:T.getD i bo=T[i]:=by simp[List.getD,hi]
 have hi1:i+1<T.length:=isB_lt hT hi (by rw[← e0];exact hB)
 obtain⟨g,rfl⟩:∃g',g=g'+1:=⟨g - 1,by omega⟩
 show RG _ _ (k7 (co g) T (i:Int) (d:Int))
 unfold ge k7
 rw[need_eq hT hi,← e0,hB,bh (by omega),bh (by omega)]
 simp only[bindQ_ok,if_true]
 refine nk hT hW (rbO T) (bracketed_r hT hW (d:=d+1) (by omega) hi1) (fun z x w hw=>bad_if hw rfl) (fun n k h02 hk=>ok_if ?_)
 refine nk hT hW (rbO T) (hS.s (d+1) k g (by omega) hk (by omega)) (fun z x w hw=>bad_if hw rfl) (fun m j h03 hj=>ok_if ?_)
 refine q_is hT hW hi (by decide) hB ?_
 refine q_pos ?_
 refine qe hT hW hi (by omega) (Nat.le_of_lt hj) ?_
 refine oq hT hW hi (by omega) (Nat.le_of_lt hj) ?_
 exact i3 (ro_ok (by omega) hj)
omit hS in
theorem plain_r {R':bv} {d i:Nat} (hd:d<=99) (hi:i<T.length):RG (RO T) (gw (d:Int) ⟨T,(i:Int)⟩) (gv R' T (i:Int) (d:Int) false):=by
 have hlen:=hT.len
 unfold gw iu gv
 refine qb ?_
 rw[bh (by omega)]
 have hend:∀{k:Int} {j:Nat} {l:List ApiNode},0<j->j<T.length->RG (RO T) (cp (bc ([59]:List UInt8) ⟨T,(j:Int)⟩) (fun m22=>some (PX.bad m22)) fun x20=>(parse_parser_made x20 k (i:Int) l).bind fun x21=>some (.ok (x21,x20))) (j1 R' T (i:Int) (j:Int) k l):=fun {k j l} h0 hj=>by
  unfold j1
  refine r_need hT hW (rbO T) hj (by decide) (fun _ hj1=> ?_) ⟨_,_,rfl⟩
  refine qb ?_
  rw[bh (by omega)]
  refine qe hT hW hi (by omega) (Nat.le_of_lt hj1) ?_
  refine oq hT hW hi (by omega) (Nat.le_of_lt hj1) ?_
  exact i3 (ro_ok (by omega) hj1)
 refine nk hT hW (rbO T) (expression_r hT hW (d:=d+1) (by omega) hi) (fun z x w hw=>bad_if hw rfl) (fun n k h02 hk=>ok_if ?_)
 refine r_met hT hW hk (by decide) (fun _ hk1=> ?_) (fun _=> ?_)
 ·refine r_if (fun _=> ?_) (fun h=>by cases h)
  rw[bh (by omega)]
  refine nk hT hW (rbO T) (expression_r hT hW (d:=d+1) (by omega) hk1) (fun z x w hw=>bad_if hw rfl) (fun m j h03 hj=>ok_if ?_)
  refine r_app ?_
  exact hend h03 hj
 ·refine r_if (fun h=>by cases h) (fun _=> ?_)
  exact hend h02 hk
end
end Go.Proofs.YteablckbgpogiaaGreatDoor
set_option linter.unusedSectionVars false
set_option linter.unusedVariables false
set_option linter.unusedSimpArgs false
set_option maxHeartbeats 4000000
namespace Go.Proofs.YteablckbgpogiaaGreatDoor
open Go Go.Cn
theorem r_passL {T:List ApiToken} {y:Option (PX ParseWrong (ApiNode × ParseParser))} {q:Option (ApiNode × Int × Ref12Wrong)} (h:RG (RO T) y q):RG (RO T) (cp y (fun m=>some (.bad m)) fun(a,b)=>some (.ok (a,b))) q:=by
 refine RG.weak (fun r hr=> ?_) h
 cases y with
 |none=>cases hr
 |some v=>cases v<;>exact hr
section
variable {x:List UInt8} {T:List ApiToken} (hT:TokP x T) (hW:TokW T)
include hT hW
section
variable {R:ay} (hS:SpecT T R)
include hS
theorem statement_r {g d i:Nat} (hd:d<=100) (hi:i<T.length) (hg:4 * (100 - d)+3<g):RG (RO T) (eg R (d:Int) ⟨T,(i:Int)⟩) ((co g).2.1 T (i:Int) (d:Int)):=by
 have hlen:=hT.len
 obtain⟨g,rfl⟩:∃g',g=g'+1:=⟨g - 1,by omega⟩
 show RG _ _ (mq (co g) T (i:Int) (d:Int))
 unfold eg mq ec
 by_cases hd60:d>60
 ·rw[if_pos (by simp;omega),if_pos (by simp;omega),fail_eq hT hi]
  intro r hr
  simp only[cp,Option.some.injEq]at hr
  subst hr
  refine⟨_,rfl,_,_,i,hi,rfl,?_⟩
  rw[aT_eq hT hi]
 rw[if_neg (by simp;omega),if_neg (by simp;omega)]
 simp only[bindQ_ok]
 refine l_now hT hW hi ?_
 rw[show parse_begun=some [([123],some 93),([105,102],some 152),([119,104,105,108,101],some 153),([114,101,116,117,114,110],some 154),([112,114,105,110,116],some 155)]from rfl,Option.bind_some]
 have hpick:∀{s:List UInt8},plainT s=true->isB (T.getD i bo) s=true->(T.getD i bo).Text=s/\((T.getD i bo).Kind != 1)=true:=fun {s} hs hB=>by
  rw[isB_text hT hW hi hs]at hB
  simpa using hB
 unfold eb er
 cases h1:isB (T.getD i bo) [123]with
 |true=>
  obtain⟨ht,hk⟩:=hpick (by decide) h1
  refine q_is hT hW hi (by decide) h1 (q_pos ?_)
  rw[ht,hk,if_pos (by decide),if_pos rfl,if_pos (by decide)]
  exact r_pass (hS.b d i g (by omega) hi (by omega))
 |false=>
  refine q_is hT hW hi (by decide) h1 (qb ?_)
  cases h2:isB (T.getD i bo) [105,102]with
  |true=>
   obtain⟨ht,hk⟩:=hpick (by decide) h2
   refine q_is hT hW hi (by decide) h2 (q_pos ?_)
   unfold i8
   refine q_pos ?_
   rw[ht,hk,if_pos (by decide),if_pos rfl,if_neg (by decide),if_pos (by decide)]
   exact r_pass (hS.f d i g (by omega) hi h2 (by omega))
  |false=>
   refine q_is hT hW hi (by decide) h2 (qb ?_)
   cases h3:isB (T.getD i bo) [119,104,105,108,101]with
   |true=>
    obtain⟨ht,hk⟩:=hpick (by decide) h3
    refine q_is hT hW hi (by decide) h3 ?_
    unfold i8
    refine q_pos ?_
    rw[ht,hk,if_pos (by decide),if_pos rfl,if_neg (by decide),if_neg (by decide),if_pos (by decide)]
    exact r_pass (hS.w d i g (by omega) hi h3 (by omega))
   |false=>
    refine q_is hT hW hi (by decide) h3 ?_
    unfold i8
    refine qb ?_
    cases h4:isB (T.getD i bo) [114,101,116,117,114,110]with
    |true=>
     obtain⟨ht,hk⟩:=hpick (by decide) h4
     refine q_is hT hW hi (by decide) h4 (q_pos ?_)
     unfold gv
     refine q_pos ?_
     rw[ht,hk,if_pos (by decide),if_pos rfl,if_neg (by decide),if_neg (by decide),if_neg (by decide),if_pos (by decide)]
     exact r_pass (back_r hT hW (by omega) hi h4)
    |false=>
     refine q_is hT hW hi (by decide) h4 (qb ?_)
     cases h5:isB (T.getD i bo) [112,114,105,110,116]with
     |true=>
      obtain⟨ht,hk⟩:=hpick (by decide) h5
      refine q_is hT hW hi (by decide) h5 ?_
      unfold gv
      refine q_pos ?_
      rw[ht,hk,if_pos (by decide),if_pos rfl,if_neg (by decide),if_neg (by decide),if_neg (by decide),if_neg (by decide),if_pos (by decide)]
      exact r_pass (show_r hT hW (by omega) hi h5)
     |false=>
      refine q_is hT hW hi (by decide) h5 ?_
      have hplain:=r_passL (plain_r hT hW (R':=co g) (d:=d) (by omega) hi)
      rw[isB_text hT hW hi (by decide)]at h1 h2 h3 h4 h5
      cases hk:(T.getD i bo).Kind != 1 with
      |false=>
       simp only[Bool.false_eq_true,if_false,ite_self]
       exact hplain
      |true=>
       rw[hk]at h1 h2 h3 h4 h5
       simp only[Bool.and_true,beq_eq_false_iff_ne,ne_eq]at h1 h2 h3 h4 h5
       have hno:mhas (T.getD i bo).Text ([([123],some 93),([105,102],some 152),([119,104,105,108,101],some 153),([114,101,116,117,114,110],some 154),([112,114,105,110,116],some 155)]:SMap (Option Nat))=false:=by
        simp only[mhas]
        rw[if_neg (fun h=>h1 h.symm),if_neg (fun h=>h2 h.symm),if_neg (fun h=>h3 h.symm),if_neg (fun h=>h4 h.symm),if_neg (fun h=>h5 h.symm)]
       rw[hno]
       simp only[Bool.false_eq_true,if_false]
       exact hplain
end
theorem specT :∀f:Nat,SpecT T (d9 f)
 | 0=>⟨fun _ _ _ _ _ _ r h=>(by cases h),fun _ _ _ _ _ _ r h=>(by cases h),fun _ _ _ _ _ _ _ r h=>(by cases h),fun _ _ _ _ _ _ _ r h=>(by cases h)⟩
 |f+1=>⟨fun d i g h1 h2 h3=>block_r hT hW (specT f) h1 h2 h3,fun d i g h1 h2 h3=>statement_r hT hW (specT f) h1 h2 h3,fun d i g h1 h2 h3 h4=>branch_r hT hW (specT f) h1 h2 h3 h4,fun d i g h1 h2 h3 h4=>loop_r hT hW (specT f) h1 h2 h3 h4⟩
theorem params_r {i:Nat} (h0:0<i) (hi:i<T.length):RG (RO T) (gc ⟨T,(i:Int)⟩) (ref12_params T (i:Int)):=by
 have hlen:=hT.len
 unfold gc ref12_params
 refine r_met hT hW hi (by decide) (fun _ hi1=> ?_) (fun _=> ?_)
 ·refine r_if (fun _=> ?_) (fun h=>by cases h)
  rw[bh (by omega)]
  exact i3 (ro_ok (by omega) hi1)
 refine r_if (fun h=>by cases h) (fun _=> ?_)
 refine r_iter h0 hi (fun j l h0 hj=> ?_)
 have e0:T.getD j bo=T[j]:=by simp[List.getD,hj]
 have hbad:RG (ROS T (RO T)) (some (.inr (.bad ⟨⟨120,0,(T.getD j bo).At⟩⟩))) (k5 (j:Int) T l true):=by
  unfold k5
  refine q_pos ?_
  exact i3 (ros_inr ⟨_,_,j,hj,rfl,rfl⟩)
 unfold gy pc
 simp only
 rw[value_eq hT hj,← e0,kind_r hT hW hj,Option.bind_some]
 cases hty:isTy (T.getD j bo)with
 |false=>
  simp only[Bool.false_and,Bool.false_eq_true,if_false,Bool.not_false,if_true]
  exact hbad
 |true=>
  have hj1:j+1<T.length:=isTy_lt hT hj (by rw[← e0];exact hty)
  simp only[Bool.true_and,Bool.not_true,Bool.false_eq_true,if_false]
  rw[is_r hT hW hj (by decide),Option.bind_some]
  cases hv:isB (T.getD j bo) [118,111,105,100]with
  |true=>
   simp only[Bool.not_true,Bool.false_eq_true,if_false]
   exact hbad
  |false=>
   simp only[Bool.not_false,if_true,bindQ_ok]
   unfold k5 jh di dj f1 fh
   refine qb ?_
   rw[bh (by omega),w2 (by omega),w3 (by omega)]
   refine r_name hT hW (rbS (rbO T)) hj1 (fun _ hj2=> ?_) ⟨_,_,rfl⟩
   refine qb ?_
   refine qe hT hW hj (by omega) (Nat.le_of_lt hj2) ?_
   refine oq hT hW hj (by omega) (Nat.le_of_lt hj2) ?_
   refine q_typed hT hW hj1 ?_
   refine r_app ?_
   refine r_met hT hW hj2 (by decide) (fun _ hj3=> ?_) (fun _=> ?_)
   ·refine r_if (fun _=> ?_) (fun h=>by cases h)
    exact i3 (ros_inr (ro_ok (by omega) hj3))
   ·refine r_if (fun h=>by cases h) (fun _=> ?_)
    refine r_need hT hW (rbS (rbO T)) hj2 (by decide) (fun _ hj3=> ?_) ⟨_,_,rfl⟩
    refine qb ?_
    exact i3 (ros_inl (by omega) hj3)
theorem member_r {i:Nat} (hi:i<T.length):RG (RO T) (ef ⟨T,(i:Int)⟩) (ref12_member T (i:Int)):=by
 have hlen:=hT.len
 have hj3:∀{a q:Nat} {st:Bool} {kd:Int} {l:List ApiNode},a+1<T.length->0<q->q<T.length->RG (RO T) ((parse_parser_made ⟨T,(q:Int)⟩ kd (i:Int) l).bind fun x29=>c0 st (T.getD (a+1) bo) (T.getD a bo) ⟨T,(q:Int)⟩ x29) (mi T (i:Int) (a:Int) st (q:Int) kd l):=fun {a q st kd l} ha h0 hq=>by
  unfold mi c0 f3 gz di dj f1 fh pd ref12_member_j1
  refine qe hT hW hi h0 (Nat.le_of_lt hq) ?_
  refine oq hT hW hi h0 (Nat.le_of_lt hq) ?_
  refine q_typed hT hW ha ?_
  refine r_if (fun _=> ?_) (fun _=> ?_)
  ·exact i3 (ro_ok h0 hq)
  ·exact i3 (ro_ok h0 hq)
 have hgo:∀{a:Nat} {st:Bool},a<T.length->RG (RO T) ((bi ⟨T,(a:Int)⟩).bind fun x6=>(jf x6).bind fun x7=>(if(!x7)=true then(cp (cj 120 ⟨T,(a:Int)⟩) (fun m10=>some (.bad m10)) fun x9=>bl ⟨T,(i:Int)⟩ st x9)else bl ⟨T,(i:Int)⟩ st ⟨T,(a:Int)⟩)) (mh T (i:Int) st (a:Int)):=fun {a st} ha=>by
  unfold mh
  refine l_now hT hW ha ?_
  rw[isType_eq,Option.bind_some,kind_r hT hW ha,Option.bind_some]
  refine r_if (fun _=>r_fail hT hW (rbO T) ha ⟨_,_,rfl⟩) (fun hty=> ?_)
  have hty:isTy (T.getD a bo)=true:=by simpa using hty
  have e0:T.getD a bo=T[a]:=by simp[List.getD,ha]
  have ha1:a+1<T.length:=isTy_lt hT ha (by rw[← e0];exact hty)
  unfold bl
  refine l_step hT hW ha ?_
  rw[bh (by omega),w2 (by omega),bh (n:=a+2) (by omega)]
  refine r_name hT hW (rbO T) ha1 (fun _ ha2=> ?_) ⟨_,_,rfl⟩
  refine qb ?_
  have hpick:∀{s:List UInt8},isB (T.getD (a+1+1) bo) s=true->(T.getD (a+1+1) bo).Text=s:=fun {s} hB=>by
   unfold isB at hB
   simp at hB
   simpa using hB.1
  refine l_met hT hW ha2 (fun hB ha3=> ?_) (fun hB=> ?_)
  ·have ht:=hpick hB
   refine q_is hT hW ha2 (by decide) (isB_ne ht (by decide)) (qb ?_)
   refine q_is hT hW ha2 (by decide) hB (q_pos ?_)
   refine l_pos ?_
   refine nk hT hW (rbO T) (params_r hT hW (by omega) ha3) (fun z x w hw=>bad_if hw rfl) (fun l k h02 hk=>ok_if ?_)
   refine nk hT hW (rbO T) ((specT hT hW 1048576).b 1 k 1048576 (by omega) hk (by omega)) (fun z x w hw=>bad_if hw rfl) (fun n q h03 hq=>ok_if ?_)
   refine r_app ?_
   exact hj3 ha1 h03 hq
  ·refine l_neg ?_
   rw[marks_eq,Option.bind_some]
   cases hv:isB (T.getD a bo) [118,111,105,100]with
   |true=>
    refine l_pos ?_
    cases hs:isB (T.getD (a+1+1) bo) [59]with
    |true=>
     refine q_is hT hW ha2 (by decide) hs (q_pos ?_)
     refine q_is hT hW ha (by decide) hv (q_pos ?_)
     exact r_fail hT hW (rbO T) ha2 ⟨_,_,rfl⟩
    |false=>
     refine q_is hT hW ha2 (by decide) hs (qb ?_)
     refine q_is hT hW ha2 (by decide) hB (qb ?_)
     exact r_fail hT hW (rbO T) ha2 ⟨_,_,rfl⟩
   |false=>
    refine l_neg ?_
    refine r_need hT hW (rbO T) ha2 (by decide) (fun _ ha3=> ?_) ?_
    ·refine q_pos ?_
     refine q_is hT hW ha (by decide) hv (qb ?_)
     exact hj3 ha1 (by omega) ha3
    ·have e2:=is_r hT hW ha2 (s:=[40]) (by decide)
     rw[hB]at e2
     refine⟨ApiNode.mk 0 [] [] 0 0 0 0 0 [],0,?_⟩
     show((bw T ((a+1+1:Nat):Int) [40]).bind _)=_
     rw[e2]
     rfl
 unfold ef ref12_member
 refine r_met hT hW hi (by decide) (fun _ hi1=> ?_) (fun _=> ?_)
 ·refine q_pos ?_
  rw[bh (by omega)]
  exact hgo hi1
 ·refine qb ?_
  exact hgo hi
theorem class_r {i:Nat} (hi:i<T.length):RG (RO T) (ed ⟨T,(i:Int)⟩) (ref12_class T (i:Int)):=by
 have hlen:=hT.len
 have hj5:∀{a:Nat} {ab:Bool} {su:ApiToken} {sp:Int},i+1<T.length->a<T.length->(ab=true->∃k:Nat,sp=(k:Int)/\k<T.length/\su=T.getD k bo)->(ab=false->sp= -1)->RG (RO T) (dh ⟨T,(i:Int)⟩ (T.getD (i+1) bo) ab ⟨T,(a:Int)⟩ su) (n9 T (i:Int) (a:Int) sp):=fun {a ab su sp} hi1 ha hsu hsn=>by
  unfold dh n9
  refine r_need hT hW (rbO T) ha (by decide) (fun _ ha1=> ?_) ⟨_,_,rfl⟩
  refine qb ?_
  rw[bh (by omega)]
  refine r_flow (e:=1) ?_ (fun j l h0 hj=> ?_) (fun _=>rfl) (fun _=>rfl)
  ·refine r_iter (by omega) ha1 (fun j l h0 hj=> ?_)
   unfold gi qj
   refine r_met hT hW hj (by decide) (fun _ hj1=> ?_) (fun _=> ?_)
   ·refine r_if (fun h=>by cases h) (fun _=> ?_)
    exact i3 (ros_inr (rof_next (e:=1) h0 hj1))
   ·refine r_if (fun _=> ?_) (fun h=>by cases h)
    refine nk hT hW (rbS (rbF T 1)) (member_r hT hW hj) (fun z x w hw=>bad_ifF hw rfl) (fun n k h02 hk=>ok_if ?_)
    refine r_app ?_
    exact i3 (ros_inl h02 hk)
  ·unfold iw iy gk di dj f1 fh ref12_class_k3 qk ref12_class_j1
   simp only
   rw[bh (n:=j) (by omega),bh (n:=i) (by omega)]
   refine qe hT hW hi (by omega) (Nat.le_of_lt hj) ?_
   refine oq hT hW hi (by omega) (Nat.le_of_lt hj) ?_
   refine q_idx hT hW hi1 ?_
   refine q_idx hT hW hi1 ?_
   cases ab with
   |true=>
    obtain⟨k,rfl,hk,rfl⟩:=hsu rfl
    simp only[Option.bind_some,if_true]
    rw[if_pos (by simp)]
    refine q_idx hT hW hk ?_
    refine q_idx hT hW hk ?_
    exact i3 (ro_ok (by omega) hj)
   |false=>
    have hsp:=hsn rfl
    subst hsp
    simp only[Option.bind_some,Bool.false_eq_true,if_false]
    rw[if_neg (by decide)]
    exact i3 (ro_ok (by omega) hj)
 unfold ed ref12_class
 refine r_need hT hW (rbO T) hi (by decide) (fun _ hi1=> ?_) ⟨_,_,rfl⟩
 refine qb ?_
 rw[bh (n:=i) (by omega),w2 (by omega)]
 refine r_name hT hW (rbO T) hi1 (fun _ hi2=> ?_) ⟨_,_,rfl⟩
 refine qb ?_
 refine r_met hT hW hi2 (by decide) (fun _ hi3=> ?_) (fun _=> ?_)
 ·refine r_if (fun _=> ?_) (fun h=>by cases h)
  rw[bh (n:=i+2) (by omega),w2 (n:=i+2) (by omega)]
  refine r_name hT hW (rbO T) hi3 (fun _ hi4=> ?_) ⟨_,_,rfl⟩
  refine qb ?_
  exact hj5 hi1 hi4 (fun _=>⟨i+1+1+1,rfl,hi3,rfl⟩) (fun h=>by cases h)
 ·refine r_if (fun h=>by cases h) (fun _=> ?_)
  exact hj5 hi1 hi2 (fun h=>by cases h) (fun _=>rfl)
end
end Go.Proofs.YteablckbgpogiaaGreatDoor
set_option linter.unusedSectionVars false
set_option linter.unusedVariables false
set_option linter.unusedSimpArgs false
set_option maxHeartbeats 4000000
namespace Go.Proofs.YteablckbgpogiaaGreatDoor
open Go Go.Cn
theorem refDepth_at :∀(k:Nat) (x:ApiNode),qd x<=k->k<=1048576->j3 k x=some (q6 x:Int):=by
 intro k
 induction k with
 |zero=>intro x h _;have:=nsize_pos x;omega
 |succ k ih=>
  intro x hx hk
  show F_ref11_Depth (j3 k) x=_
  generalize hR:j3 k=R
  have hsz:=nsize_eq x
  have hlen:=fu x.Kids
  have hkid:∀y∈x.Kids,R y=some (q6 y:Int):=fun y hy=>by
   have:=nsize_mem hy
   rw[← hR]
   exact ih y (by omega) (by omega)
  have hdl:=depthL_le x.Kids
  unfold F_ref11_Depth
  have htake:∀i (h:i<x.Kids.length),j9 (x.Kids.take (i+1))=max (j9 (x.Kids.take i)) (q6 x.Kids[i]):=fun i h=>by
   rw[List.take_add_one,List.getElem?_eq_getElem h,Option.toList_some,depthL_append]
   simp[j9]
  obtain⟨o,h1,h2⟩:=fk (f:=fun s:Int × Int=>ob R x s.1 s.2) (fun s=>∃i:Nat,i<=x.Kids.length/\s.2=(i:Int)/\s.1=(j9 (x.Kids.take i):Int)) (fun o=>o=(j9 x.Kids:Int)) (fun s=>x.Kids.length - s.2.toNat) (by
   rintro⟨_,_⟩ ⟨i,hi,h1,h2⟩
   simp only at h1 h2
   subst h1 h2
   unfold ob
   by_cases hlt:i<x.Kids.length
   ·left
    rw[if_pos (by simp[hlt])]
    simp only[mu hlt,Option.bind_some,hkid _ (List.getElem_mem hlt)]
    refine⟨_,rfl,⟨i+1,by omega,by rw[gt (by omega) (by omega)];omega,?_⟩,?_⟩
    ·rw[htake i hlt]
     by_cases hc:(q6 x.Kids[i]:Int)>(j9 (x.Kids.take i):Int)
     ·simp only[if_pos hc];omega
     ·simp only[if_neg hc];omega
    ·simp only[gt (show -9223372036854775808<=(i:Int)+1 by omega) (by omega)]
     omega
   ·right
    rw[if_neg (by simp;omega)]
    refine⟨_,rfl,?_⟩
    rw[List.take_of_length_le (by omega)]) (0,0) ⟨0,by omega,rfl,by simp[j9]⟩
  rw[h1]
  subst h2
  simp only[Option.bind_some,ref11_Depth_k1]
  rw[gt (by omega) (by omega),depthN_eq]
  congr 1
  omega
theorem refDepth_eq {x:ApiNode} (hx:qd x<=1048576):ref11_Depth x=some (q6 x:Int):=refDepth_at 1048576 x hx (Nat.le_refl _)
def TW (t:ApiToken):Prop:=(t.Kind=1\/t.Kind=2\/t.Kind=3\/t.Kind=4\/t.Kind=5)/\(t.Kind=2->∃c l,t.Text=c::l/\(∀d∈c::l,dt d.toNat=true)/\valL 0 (c::l)<=2147483647)/\(t.Kind=3->kept.contains t.Text=true)/\(t.Kind=4->kept.contains t.Text=false)/\(t.Kind=5->t.Text=[])
theorem kept_head {c:UInt8} {l:List UInt8} (h:mb c.toNat=false):kept.contains (c::l)=false:=by
 rw[Bool.eq_false_iff]
 intro hc
 have hm:(c::l)∈kept:=by simpa using hc
 have key:∀w∈kept,∃d m,w=d::m/\mb d.toNat=true:=by
  intro w hw
  simp only[kept,List.mem_cons,List.not_mem_nil,or_false]at hw
  rcases hw with rfl|rfl|rfl|rfl|rfl|rfl|rfl|rfl|rfl|rfl|rfl|rfl|rfl|rfl|rfl|rfl<;>exact⟨_,_,rfl,by decide⟩
 obtain⟨d,m,e,hd⟩:=key _ hm
 injection e with e1 _
 rw[e1,hd]at h
 cases h
theorem tokL_TW {s:List UInt8} {d n a:Nat} {lead:List UInt8} (h:tokL s=(d,n,0)):TW ⟨(d:Int),s.take n,(a:Int),lead⟩:=by
 obtain⟨hn,hn2,_,_⟩:=mz h
 cases s with
 |nil=>cases h
 |cons c l=>
  rw[tokL_cons]at h
  obtain⟨m,hm⟩:∃m,n=m+1:=⟨n - 1,by omega⟩
  by_cases hd:dt c.toNat=true
  ·rw[if_pos hd]at h
   split at h
   ·cases h
   ·rename_i hc
    have hr:runL dt (c::l)=n:=by injection h with _ h;injection h
    have hd2:d=2:=by injection h with h _;omega
    have hall:=runL_all dt (c::l)
    rw[hr]at hall hc
    subst hd2
    simp only[Bool.or_eq_true,decide_eq_true_eq,not_or]at hc
    have hv:=hc.1
    rw[hm,List.take_succ_cons]at hall hv ⊢
    exact⟨.inr (.inl rfl),fun _=>⟨c,l.take m,rfl,hall,by omega⟩,fun h=>by simp only at h;omega,fun h=>by simp only at h;omega,fun h=>by simp only at h;omega⟩
  ·rw[if_neg hd]at h
   by_cases hl:mb c.toNat=true
   ·rw[if_pos hl]at h
    split at h
    ·cases h
    ·split at h
     ·rename_i hk
      have hr:runL nm (c::l)=n:=by injection h with _ h;injection h
      have hd2:d=3:=by injection h with h _;omega
      rw[hr]at hk
      subst hd2
      exact⟨.inr (.inr (.inl rfl)),fun h=>by simp only at h;omega,fun _=>hk,fun h=>by simp only at h;omega,fun h=>by simp only at h;omega⟩
     ·have hd2:d=1:=by injection h with h _;omega
      subst hd2
      exact⟨.inl rfl,fun h=>by simp only at h;omega,fun h=>by simp only at h;omega,fun h=>by simp only at h;omega,fun h=>by simp only at h;omega⟩
   ·rw[if_neg hl]at h
    split at h
    ·cases h
    ·have hd2:d=4:=by injection h with h _;omega
     subst hd2
     rw[hm,List.take_succ_cons]
     exact⟨.inr (.inr (.inr (.inl rfl))),fun h=>by simp only at h;omega,fun h=>by simp only at h;omega,fun _=>kept_head (by simpa using hl),fun h=>by simp only at h;omega⟩
theorem lexR_TW {a:Nat} {s:List UInt8} {l:List ApiToken} {p e:Nat} (h:LexR a s l p e):e=0->∀t∈l,TW t:=by
 induction h with
 |note a s k hg=>intro h;cases h
 |fin a s hg=>
  intro _ t ht
  rw[List.mem_singleton.1 ht]
  exact⟨.inr (.inr (.inr (.inr rfl))),fun h=>by simp only at h;omega,fun h=>by simp only at h;omega,fun h=>by simp only at h;omega,fun _=>rfl⟩
 |bad a s k e hg hk ht he=>exact fun h=>absurd h he
 |tok a s k d n l hg hk ht _ ih=>
  intro _ t hm
  rcases List.mem_cons.1 hm with rfl|hm
  ·exact tokL_TW ht
  ·exact ih rfl t hm
 |later a s k d n p e hg hk ht _ he ih=>exact fun h=>absurd h he
theorem tokW_of {a:Nat} {s:List UInt8} {l:List ApiToken} {p:Nat} (h:LexR a s l p 0):TokW l:=by
 have ht:=lexR_TW h rfl
 exact⟨fun i hi=>(ht _ (List.getElem_mem hi)).1,fun i hi=>(ht _ (List.getElem_mem hi)).2.1,fun i hi=>(ht _ (List.getElem_mem hi)).2.2.1,fun i hi=>(ht _ (List.getElem_mem hi)).2.2.2.1,fun i hi=>(ht _ (List.getElem_mem hi)).2.2.2.2⟩
def ROE (T:List ApiToken) (r:Flow (ParseParser × List ApiNode) (PX ParseWrong (List ApiNode × ParseParser))) (r':Flow (List ApiNode) (List ApiNode × ApiMistake)):Prop:=
 match r with
 | .next st=>r'= .next st.2
 | .done (.bad m)=>r'= .done ([],m.m)
 | .done (.ok _)=>False
theorem file_loop {x:List UInt8} {T:List ApiToken} (hT:TokP x T) (hW:TokW T):∀(n:Nat) (j:Nat) (l:List ApiNode) r,j<T.length->ff (fun s:ParseParser × List ApiNode=>d6 s.1 s.2) n (⟨T,(j:Int)⟩,l)=some r->∃r',iter (fun s:Int × List ApiNode=>ig T s.1 s.2) ((j:Int),l)=some r'/\ROE T r r':=by
 have hlen:=hT.len
 intro n
 induction n with
 |zero=>intro j l r _ h;cases h
 |succ n ih=>
  intro j l r hj h
  obtain⟨m',v,hm,hf,h1,h2⟩:= @bk noG _ _ _ _ _ _ h
  obtain rfl:m'=n:=by omega
  have hf:d6 ⟨T,(j:Int)⟩ l=some v:=hf
  have e0:T.getD j bo=T[j]:=by simp[List.getD,hj]
  unfold d6 at hf
  rw[now_eq hT hj,Option.bind_some]at hf
  by_cases hk:T[j].Kind=5
  ·rw[if_neg (by simp[hk])]at hf
   injection hf with hf
   subst hf
   have:=h2 _ rfl
   subst this
   have e:(fun s:Int × List ApiNode=>ig T s.1 s.2) ((j:Int),l)=some (.inr (.next l)):=by
    show ig T (j:Int) l=_
    unfold ig
    rw[ix hT hj,Option.bind_some,if_neg (by simp[hk])]
   exact⟨_, @ga noG _ _ _ _ _ e,rfl⟩
  ·rw[if_pos (by simpa using hk)]at hf
   have hc:=class_r hT hW hj
   have e:(fun s:Int × List ApiNode=>ig T s.1 s.2) ((j:Int),l)=(ref12_class T (j:Int)).bind fun(x15,x16,x17)=>(if(decide (x17.Place≥0))=true then(pq T x17).bind fun x21=>some (.inr (.done ([],x21)))else(app 104 l ([x15]:List ApiNode)).bind fun x22=>some (.inl (x16,x22))):=by
    show ig T (j:Int) l=_
    unfold ig
    rw[ix hT hj,Option.bind_some,if_pos (by simpa using hk)]
   cases hcl:ed ⟨T,(j:Int)⟩with
   |none=>rw[hcl]at hf;cases hf
   |some w=>
    obtain⟨w',hw',hro⟩:=hc w hcl
    rw[hcl]at hf
    rw[hw',Option.bind_some]at e
    cases w with
    |bad m=>
     obtain⟨z,x0,k,hkl,rfl,hmm⟩:=hro
     simp only[cp,Option.some.injEq]at hf
     subst hf
     have:=h2 _ rfl
     subst this
     have hmis:pq T ⟨(k:Int),m.m.Code⟩=some m.m:=by
      unfold pq qy
      have e1:w64 ((T.length:Int) - 1)=((T.length - 1:Nat):Int):=by rw[gt (by omega) (by omega)];omega
      simp only[e1]
      rw[if_neg (by omega),ix hT hkl,Option.bind_some,hmm]
      simp only[aT_eq hT hkl]
     simp only at e
     rw[if_pos (by simp),hmis]at e
     exact⟨_, @ga noG _ _ _ _ _ e,rfl⟩
    |ok a=>
     obtain⟨nd,p⟩:=a
     obtain⟨k,rfl,_,hkl,rfl⟩:=hro
     simp only[cp]at hf
     simp only at e
     rw[if_neg (by decide)]at e
     cases hap:app 104 l [nd]with
     |none=>rw[hap]at hf;cases hf
     |some l2=>
      rw[hap,Option.bind_some]at hf e
      injection hf with hf
      subst hf
      obtain⟨r',hr',hro⟩:=ih k l2 r hkl (h1 _ rfl)
      exact⟨r',by rw[@np noG _ _ _ _ _ e];exact hr',hro⟩
theorem deep_same {l:List ApiNode} {T:List ApiToken} (hs:ee l<=1000000) (hk:∀n∈l,n.Kind=1):∀(n i:Nat),l.length - i<=n->i<=l.length->(iter (fun s=>dk l T s) (i:Int)=some (.next ())/\iter (fun s=>dw l s) (i:Int)=some (.next ()))\/∃a,iter (fun s=>dk l T s) (i:Int)=some (.done (.ok ([],⟨2,0,a⟩)))/\iter (fun s=>dw l s) (i:Int)=some (.done ([],⟨2,0,a⟩)):=by
 have hln:=fu l
 intro n
 induction n with
 |zero=>
  intro i h1 h2
  left
  have e1:(fun s=>dk l T s) (i:Int)=some (.inr (.next ())):=by
   show dk l T (i:Int)=_
   unfold dk
   rw[if_neg (by simp;omega)]
  have e2:(fun s=>dw l s) (i:Int)=some (.inr (.next ())):=by
   show dw l (i:Int)=_
   unfold dw
   rw[if_neg (by simp;omega)]
  exact⟨@ga noG _ _ _ _ _ e1, @ga noG _ _ _ _ _ e2⟩
 |succ n ih=>
  intro i h1 h2
  by_cases hlt:i<l.length
  ·have hm:=List.getElem_mem hlt
   have h4:=nsize_mem hm
   have h5:=hk _ hm
   by_cases hd:q6 l[i]>200
   ·right
    have e1:(fun s=>dk l T s) (i:Int)=some (.inr (.done (.ok ([],⟨2,0,l[i].From⟩)))):=by
     show dk l T (i:Int)=_
     unfold dk ra parse_run_j3
     rw[if_pos (by simp[hlt]),mu hlt,Option.bind_some,Depth_eq (by omega),Option.bind_some,if_pos (by simp;omega),if_neg (by simp[h5])]
    have e2:(fun s=>dw l s) (i:Int)=some (.inr (.done ([],⟨2,0,l[i].From⟩))):=by
     show dw l (i:Int)=_
     unfold dw ref12_File_j3
     rw[if_pos (by simp[hlt]),mu hlt,Option.bind_some,refDepth_eq (by omega),Option.bind_some,if_pos (by simp;omega),Option.bind_some]
    exact⟨_, @ga noG _ _ _ _ _ e1, @ga noG _ _ _ _ _ e2⟩
   ·have e1:(fun s=>dk l T s) (i:Int)=some (.inl ((i+1:Nat):Int)):=by
     show dk l T (i:Int)=_
     unfold dk
     rw[if_pos (by simp[hlt]),mu hlt,Option.bind_some,Depth_eq (by omega),Option.bind_some,if_neg (by simp;omega),bh (by omega)]
    have e2:(fun s=>dw l s) (i:Int)=some (.inl ((i+1:Nat):Int)):=by
     show dw l (i:Int)=_
     unfold dw
     rw[if_pos (by simp[hlt]),mu hlt,Option.bind_some,refDepth_eq (by omega),Option.bind_some,if_neg (by simp;omega),bh (by omega)]
    rw[@np noG _ _ _ _ _ e1, @np noG _ _ _ _ _ e2]
    exact ih (i+1) (by omega) (by omega)
  ·obtain rfl:i=l.length:=by omega
   left
   have e1:(fun s=>dk l T s) (l.length:Int)=some (.inr (.next ())):=by
    show dk l T (l.length:Int)=_
    unfold dk
    rw[if_neg (by simp)]
   have e2:(fun s=>dw l s) (l.length:Int)=some (.inr (.next ())):=by
    show dw l (l.length:Int)=_
    unfold dw
    rw[if_neg (by simp)]
   exact⟨@ga noG _ _ _ _ _ e1, @ga noG _ _ _ _ _ e2⟩
theorem File_ref {x:List UInt8} (hx:x.length<=50000):ref12_File x=jj x:=by
  rw[parse_File_eq]
  unfold runF ref12_File
  rw[if_pos (by omega),ref03_Lex_eq x (by omega),Option.bind_some]
  by_cases he:(lexM x).2.2=0
  · obtain⟨T,hr,hI⟩:=lexI_ok he
    have hT:=tokP_of hx hr
    have hW:=tokW_of hr
    rw[hI]
    unfold runI
    simp only
    rw[if_neg (by simp),if_neg (by simp)]
    have hf:=file_ok (Two.one hT) [] (by simp)
    obtain⟨z,hz,hw⟩:=hf
    have hz:iter (fun s:ParseParser × List ApiNode=>d6 s.1 s.2) (⟨T,0⟩,[])=some z:=hz
    obtain⟨n,hn⟩:= @bp noG _ _ _ _ _ hz
    obtain⟨r',hr',hro⟩:=file_loop hT hW n 0 [] z hT.pos hn
    have hr':iter (fun s:Int × List ApiNode=>ig T s.1 s.2) (0,[])=some r':=hr'
    unfold li mn
    rw[hz,hr',Option.bind_some]
    cases z with
    | done w =>
      cases w with
      |ok a=>exact hro.elim
      |bad m=>
        have hro:r'= .done ([],m.m):=hro
        subst hro
        rfl
    |next st=>
      obtain⟨p,l⟩:=st
      have hro:r'= .next l:=hro
      subst hro
      obtain⟨j,e,⟨h1,h2⟩,h3,_,_⟩:=hw
      have h2:j+1=T.length:=h2
      have h1:LG x T l 0 j/\∀n∈l,n.Kind=1:=h1
      have e:p=⟨T,(j:Int)⟩:=e
      subst e
      obtain rfl:j=T.length - 1:=by omega
      obtain⟨t,ht,htk⟩:=now_last hT
      have hs:ee l<=T.length - 1 - 0:=h1.1.sz
      have hlen:=hT.len
      simp only[cp,Option.bind_some,ht]
      rw[if_neg (by simp[htk])]
      unfold ref12_File_k4 ref12_File_k1 js parse_run_k1
      rcases deep_same (T:=T) (show ee l<=1000000 by omega) h1.2 l.length 0 (by omega) (by omega)with⟨e1,e2⟩|⟨a,e1,e2⟩
      · have e1:iter (fun s=>dk l T s) 0=some (.next ()):=e1
        have e2:iter (fun s=>dw l s) 0=some (.next ()):=e2
        rw[e1,e2]
        rfl
      · have e1:iter (fun s=>dk l T s) 0=some (.done (.ok ([],⟨2,0,a⟩))):=e1
        have e2:iter (fun s=>dw l s) 0=some (.done ([],⟨2,0,a⟩)):=e2
        rw[e1,e2]
        rfl
  · unfold runI lexI
    simp only
    rw[if_pos (by simpa using he),if_pos (by simpa using he)]
    rfl
end Go.Proofs.YteablckbgpogiaaGreatDoor
