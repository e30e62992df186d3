/- What takes a file, in both texts; where a file's nodes stand. -/
import Derived.Test.YteablckbgpogiaaGreatDoorZL
import Derived.Test.YteablckbgpogiaaGreatDoorZT
set_option linter.unusedSimpArgs false
set_option linter.unusedVariables false
set_option linter.unusedSectionVars false
set_option linter.unusedSectionVars false
set_option maxRecDepth 100000
namespace Go.Proofs.YteablckbgpogiaaGreatDoor
open Go Go.Cn
noncomputable def runI (F:(ParseParser->Option (PX ParseWrong ((List ApiNode) × ParseParser)))) (x:List ApiToken × Int × Int):Option (PX ParseWrong ((List ApiNode) × ApiMistake)):=
 if(x.2.2 != 0)=true then some (.ok ([],(ApiMistake.mk x.2.2 0 x.2.1)))
 else cp (F (ParseParser.mk x.1 0)) (fun m27=>some (.bad m27)) fun(x10,x11)=>(bi x11).bind fun x12=>(if(x12.Kind != 5)=true then(cp (cj 120 x11) (fun m15=>some (.bad m15)) fun x14=>js x10 x.1 x14)else js x10 x.1 x11)
noncomputable def runF (F:(ParseParser->Option (PX ParseWrong ((List ApiNode) × ParseParser)))) (s:List UInt8):Option (List ApiNode × ApiMistake):=
 (if s.length<=1048576 then runI F (lexI s)else parse_runQ F s).bind fun x=>match x with| .ok a=>some a| .bad m=>some ([],m.m)
theorem parse_run_eq (F:(ParseParser->Option (PX ParseWrong ((List ApiNode) × ParseParser)))) (s:List UInt8):parse_run F s=runF F s:=by
 unfold parse_run runF
 congr 1
 by_cases h:s.length<=1048576
 ·rw[if_pos h]
  unfold parse_runQ runI
  rw[lex_Lex_eq s h,Option.bind_some]
 ·rw[if_neg h]
theorem bind_pair {α β:Type} (x:Option (α × β)):(x.bind fun(a,b)=>some (a,b))=x:=by
 cases x<;>rfl
theorem parse_File_eq (s:List UInt8):jj s=runF (fun p=>li p) s:=by
 unfold jj
 rw[parse_run_eq]
 exact bind_pair _
end Go.Proofs.YteablckbgpogiaaGreatDoor
set_option linter.unusedSectionVars false
set_option maxHeartbeats 4000000
namespace Go.Proofs.YteablckbgpogiaaGreatDoor
open Go Go.Cn
mutual
def qd :ApiNode->Nat
 |⟨_,_,_,_,_,_,_,_,kids⟩=>1+ee kids
def ee :List ApiNode->Nat
 | []=>0
 |n::l=>qd n+ee l
end
mutual
def flatN :ApiNode->List ApiNode
 |⟨k,t,y,n,a,b,c,d,kids⟩=>⟨k,t,y,n,a,b,c,d,kids⟩::flatL kids
def flatL :List ApiNode->List ApiNode
 | []=>[]
 |n::l=>flatN n++flatL l
end
theorem nsize_eq (x:ApiNode):qd x=1+ee x.Kids:=by cases x;simp[qd]
theorem nsize_pos (x:ApiNode):0<qd x:=by rw[nsize_eq];omega
theorem fu :∀l:List ApiNode,l.length<=ee l
 | []=>by simp[ee]
 |n::l=>by have:=fu l;have:=nsize_pos n;simp[ee];omega
theorem nsize_mem {x:ApiNode}:∀{l:List ApiNode},x∈l->qd x<=ee l
 |n::l,h=>by
  simp only[ee]
  rcases List.mem_cons.1 h with rfl|h
  ·omega
  ·have:=nsize_mem h;omega
mutual
theorem flatN_len :∀x:ApiNode,(flatN x).length=qd x
 |⟨_,_,_,_,_,_,_,_,kids⟩=>by simp[flatN,qd,flatL_len kids];omega
theorem flatL_len :∀l:List ApiNode,(flatL l).length=ee l
 | []=>by simp[flatL,ee]
 |n::l=>by simp[flatL,ee,flatN_len n,flatL_len l]
end
theorem mu {α:Type} {l:List α} {i:Nat} (h:i<l.length):idx l (i:Int)=some l[i]:=idx_nat h
theorem bh {n:Nat} (h:n<=9000000000):w64 ((n:Int)+1)=((n+1:Nat):Int):=by rw[gt (by omega) (by omega)];rfl
end Go.Proofs.YteablckbgpogiaaGreatDoor
set_option linter.unusedSectionVars false
set_option linter.unusedVariables false
set_option linter.unusedSimpArgs false
set_option maxHeartbeats 4000000
namespace Go.Proofs.YteablckbgpogiaaGreatDoor
open Go Go.Cn
def Ok {γ:Type} (y:Option γ) (R:γ->Prop):Prop:=∃g,y=some g/\R g
theorem ok_some {γ:Type} {g:γ} {R:γ->Prop} (h:R g):Ok (some g) R:=⟨g,rfl,h⟩
theorem ok_ite {γ:Type} {c:Bool} {a b:Option γ} {R:γ->Prop} (h1:c=true->Ok a R) (h2:c=false->Ok b R):Ok (if c=true then a else b) R:=by
 cases c
 ·simpa using h2 rfl
 ·simpa using h1 rfl
theorem Ok.mono {γ:Type} {y:Option γ} {R R':γ->Prop} (h:Ok y R) (k:∀g,R g->R' g):Ok y R':=by obtain⟨g,rfl,hg⟩:=h;exact⟨g,rfl,k g hg⟩
def BadE (x:List UInt8) (m:ParseWrong):Prop:=m.m.File=0/\0<=m.m.At/\m.m.At<=(x.length:Int)/\(m.m.Code=120\/m.m.Code=2)
def chain (lo hi:Int):List ApiNode->Prop
 | []=>True
 |y::r=>lo<=y.From/\y.From<=y.To/\y.To<=hi/\chain y.To hi r
mutual
def gd (x:List UInt8):ApiNode->Prop
 |⟨_,t,y,_,f,to,a,ta,kids⟩=>(0<=f/\to<=(x.length:Int)/\(0<=a->f<=a/\a+(t.length:Int)<=to/\(x.drop a.toNat).take t.length=t)/\(0<=ta->f<=ta/\ta+(y.length:Int)<=to/\(x.drop ta.toNat).take y.length=y)/\chain f to kids)/\gdL x kids
def gdL (x:List UInt8):List ApiNode->Prop
 | []=>True
 |n::l=>gd x n/\gdL x l
end
theorem gd_eq (x:List UInt8) (n:ApiNode):gd x n↔((0<=n.From/\n.To<=(x.length:Int)/\(0<=n.At->n.From<=n.At/\n.At+(n.Text.length:Int)<=n.To/\(x.drop n.At.toNat).take n.Text.length=n.Text)/\(0<=n.TypeAt->n.From<=n.TypeAt/\n.TypeAt+(n.Type_.length:Int)<=n.To/\(x.drop n.TypeAt.toNat).take n.Type_.length=n.Type_)/\chain n.From n.To n.Kids)/\gdL x n.Kids):=by
 cases n;simp[gd]
theorem gdL_append {x:List UInt8}:∀{l m:List ApiNode},gdL x l->gdL x m->gdL x (l++m)
 | [],_,_,h=>h
 |_::_,_,h,h2=>by
  simp only[List.cons_append,gdL]at h ⊢
  exact⟨h.1,gdL_append h.2 h2⟩
theorem nsizes_append :∀(l m:List ApiNode),ee (l++m)=ee l+ee m
 | [],m=>by simp[ee]
 |n::l,m=>by simp[ee,nsizes_append l m];omega
theorem chain_snoc {n:ApiNode} {hi:Int}:∀{l:List ApiNode} {lo m:Int},chain lo m l->lo<=n.From->(l=[]\/m<=n.From)->n.From<=n.To->n.To<=hi->m<=hi\/l=[]->chain lo hi (l++[n])
 | [],lo,m,_,h1,_,h3,h4,_=>⟨h1,h3,h4,trivial⟩
 |y::r,lo,m,⟨c1,c2,c3,c4⟩,h1,h2,h3,h4,h5=>by
  have h2:m<=n.From:=h2.resolve_left (by simp)
  have h5:m<=hi:=h5.resolve_right (by simp)
  exact⟨c1,c2,by omega,chain_snoc c4 (by omega) (.inr h2) h3 h4 (.inl h5)⟩
theorem chain_wide {lo' hi':Int}:∀{l:List ApiNode} {lo hi:Int},chain lo hi l->lo'<=lo->hi<=hi'->chain lo' hi' l
 | [],_,_,_,_,_=>trivial
 |y::r,lo,hi,⟨c1,c2,c3,c4⟩,h1,h2=>⟨by omega,c2,by omega,chain_wide c4 (Int.le_refl _) h2⟩
structure TokP (x:List UInt8) (T:List ApiToken):Prop where
 len:T.length<=60000
 pos:0<T.length
 last:∀i (h:i<T.length),T[i].Kind=5↔i+1=T.length
 bytes:x.length<=60000
 place:∀i (h:i<T.length),∃a:Nat,T[i].At=(a:Int)/\a+T[i].Text.length<=x.length/\(x.drop a).take T[i].Text.length=T[i].Text
 mono:∀i (h:i+1<T.length),T[i].At+(T[i].Text.length:Int)<=T[i+1].At
 num:∀i (h:i<T.length),T[i].Kind=2->∃v b,fc T[i].Text 10 64=some (v,b)
abbrev bo :ApiToken:=⟨0,[],0,[]⟩
def aT (T:List ApiToken) (i:Nat):Int:=(T.getD i bo).At
def eT (T:List ApiToken) (j:Nat):Int:=(T.getD (j - 1) bo).At+((T.getD (j - 1) bo).Text.length:Int)
def isB (t:ApiToken) (s:List UInt8):Bool:=(t.Text==s)&&(t.Kind==4||t.Kind==3)
def isTy (t:ApiToken):Bool:=t.Kind==1||isB t [105,110,116]||isB t [98,111,111,108,101,97,110]||isB t [118,111,105,100]
theorem marks_eq (t:ApiToken) (s:List UInt8):m9 t s=some (isB t s):=by
 unfold m9 oh isB
 cases t.Text==s<;>cases t.Kind==4<;>rfl
theorem isType_eq (t:ApiToken):jf t=some (isTy t):=by
 unfold jf k6 isTy
 simp only[marks_eq,Option.bind_some]
 cases t.Kind==1<;>cases isB t [105,110,116]<;>cases isB t [98,111,111,108,101,97,110]<;>rfl
section
variable {x:List UInt8} {T:List ApiToken} (hT:TokP x T)
include hT
theorem aT_eq {i:Nat} (h:i<T.length):aT T i=T[i].At:=by simp[aT,List.getD,h]
theorem eT_eq {j:Nat} (h:j<T.length):eT T (j+1)=T[j].At+(T[j].Text.length:Int):=by simp[eT,List.getD,h]
theorem aT_nat {i:Nat} (h:i<T.length):0<=aT T i/\aT T i<=eT T (i+1)/\eT T (i+1)<=(x.length:Int):=by
 obtain⟨a,h1,h2,_⟩:=hT.place i h
 rw[aT_eq hT h,eT_eq hT h,h1]
 omega
theorem e_le_a {i:Nat} (h:i+1<T.length):eT T (i+1)<=aT T (i+1):=by
 rw[eT_eq hT (by omega),aT_eq hT h]
 exact hT.mono i h
theorem a_mono {i:Nat}:∀{j:Nat},i<=j->j<T.length->aT T i<=aT T j
  | 0, h, _ => by obtain rfl : i = 0 := by omega
                  exact Int.le_refl _
  |j+1,h,hj=>by
    rcases Nat.lt_or_ge i (j+1)with h'|h'
    · have h1:=a_mono (i:=i) (j:=j) (by omega) (by omega)
      have h2:=(aT_nat hT (i:=j) (by omega)).2.1
      have h3:=e_le_a hT hj
      omega
    · obtain rfl:i=j+1:=by omega
      exact Int.le_refl _
theorem a_le_e {i j:Nat} (h:i<j) (hj:j<=T.length):aT T i<=eT T j:=by
 obtain⟨k,rfl⟩:∃k,j=k+1:=⟨j - 1,by omega⟩
 have h1:=a_mono hT (i:=i) (j:=k) (by omega) (by omega)
 have h2:=(aT_nat hT (i:=k) (by omega)).2.1
 omega
theorem e_le {i j:Nat} (h0:0<i) (h:i<=j) (hj:j<T.length):eT T i<=aT T j:=by
 obtain⟨k,rfl⟩:∃k,i=k+1:=⟨i - 1,by omega⟩
 have h1:=e_le_a hT (i:=k) (by omega)
 have h2:=a_mono hT (i:=k+1) (j:=j) h hj
 omega
theorem e_mono {i j:Nat} (h0:0<i) (h:i<=j) (hj:j<=T.length):eT T i<=eT T j:=by
 rcases Nat.lt_or_ge i j with h'|h'
 ·have h1:=e_le hT h0 (j:=j - 1) (by omega) (by omega)
  have h2:=a_le_e hT (i:=j - 1) (j:=j) (by omega) hj
  omega
 ·obtain rfl:i=j:=by omega
  exact Int.le_refl _
theorem e_len {j:Nat} (h0:0<j) (hj:j<=T.length):eT T j<=(x.length:Int):=by
 obtain⟨k,rfl⟩:∃k,j=k+1:=⟨j - 1,by omega⟩
 exact(aT_nat hT (i:=k) (by omega)).2.2
theorem ix {i:Nat} (h:i<T.length):idx T (i:Int)=some T[i]:=idx_nat h
theorem now_eq {i:Nat} (h:i<T.length):bi ⟨T,(i:Int)⟩=some T[i]:=by
 unfold bi nj
 simp only[ix hT h,Option.bind_some]
theorem is_eq {i:Nat} (h:i<T.length) (s:List UInt8):ml ⟨T,(i:Int)⟩ s=some (isB T[i] s):=by
 unfold ml
 rw[now_eq hT h,Option.bind_some,marks_eq,Option.bind_some]
theorem ne_last {i:Nat} (h:i<T.length) (hk:T[i].Kind≠5):i+1<T.length:=by
 have:=(hT.last i h).2
 rcases Nat.lt_or_ge (i+1) T.length with h'|h'
 ·exact h'
 ·exact absurd (this (by omega)) hk
theorem isB_lt {i:Nat} (h:i<T.length) {s:List UInt8} (hb:isB T[i] s=true):i+1<T.length:=by
 refine ne_last hT h (fun hk=> ?_)
 unfold isB at hb
 rw[hk]at hb
 simp at hb
theorem isTy_lt {i:Nat} (h:i<T.length) (hb:isTy T[i]=true):i+1<T.length:=by
 unfold isTy at hb
 simp only[Bool.or_eq_true,beq_iff_eq]at hb
 rcases hb with((hb|hb)|hb)|hb
 ·exact ne_last hT h (by omega)
 ·exact isB_lt hT h hb
 ·exact isB_lt hT h hb
 ·exact isB_lt hT h hb
theorem met_eq {i:Nat} (h:i<T.length) (s:List UInt8):bu s ⟨T,(i:Int)⟩=some (if isB T[i] s=true then(true,⟨T,((i+1:Nat):Int)⟩)else(false,⟨T,(i:Int)⟩)):=by
 unfold bu
 rw[is_eq hT h,Option.bind_some]
 have:=hT.len
 cases isB T[i] s
 ·rfl
 ·rw[if_neg (by simp),if_pos rfl,bh (by omega)]
theorem step_eq {i:Nat} (h:i<T.length):cz ⟨T,(i:Int)⟩=some (T[i],⟨T,((i+1:Nat):Int)⟩):=by
 unfold cz
 have:=hT.len
 rw[now_eq hT h,Option.bind_some,bh (by omega)]
theorem made_eq {i j:Nat} (hi:i<T.length) (h0:0<j) (hj:j<=T.length) (k:Int) (l:List ApiNode):parse_parser_made ⟨T,(j:Int)⟩ k (i:Int) l=some ⟨k,[],[],0,aT T i,eT T j, -1, -1,l⟩:=by
 have hl:=hT.len
 have hb:=hT.bytes
 obtain⟨m,rfl⟩:∃m,j=m+1:=⟨j - 1,by omega⟩
 have hm:m<T.length:=by omega
 have e:w64 (((m+1:Nat):Int) - 1)=(m:Int):=by rw[gt (by omega) (by omega)];omega
 unfold parse_parser_made
 simp only[e,ix hT hm,ix hT hi,Option.bind_some]
 have h1:=aT_nat hT hm
 rw[eT_eq hT hm]at h1 ⊢
 rw[aT_eq hT hi,gt (by omega) (by omega)]
end
end Go.Proofs.YteablckbgpogiaaGreatDoor
set_option linter.unusedSectionVars false
set_option linter.unusedVariables false
set_option linter.unusedSimpArgs false
set_option maxHeartbeats 4000000
namespace Go.Proofs.YteablckbgpogiaaGreatDoor
open Go Go.Cn
structure Dt where
 x:List UInt8
 x':List UInt8
 T:List ApiToken
 T':List ApiToken
 N:Nat
 k:Nat
 full:Prop
namespace Dt
variable (D:Dt)
abbrev tk (i:Nat):ApiToken:=D.T.getD i bo
abbrev p (i:Nat):ParseParser:=⟨D.T,(i:Int)⟩
abbrev p' (i:Nat):ParseParser:=⟨D.T',((i+D.k:Nat):Int)⟩
end Dt
structure Two (D:Dt):Prop where
 t:TokP D.x D.T
 t':TokP D.x' D.T'
 le:D.N<=D.T.length
 le':D.N+D.k<=D.T'.length
 ag:∀i,i<D.N->(D.T'.getD (i+D.k) bo).Kind=(D.tk i).Kind/\(D.T'.getD (i+D.k) bo).Text=(D.tk i).Text
 all:D.full->D.N=D.T.length/\D.T'.length=D.N+D.k
def TR (D:Dt) (i:Nat) (t':ApiToken):Prop:=i<D.N->t'.Kind=(D.tk i).Kind/\t'.Text=(D.tk i).Text/\t'.At=aT D.T' (i+D.k)
def aR (D:Dt) (a a':Int):Prop:=∃i,i<D.N/\a=aT D.T i/\a'=aT D.T' (i+D.k)
def eR (D:Dt) (a a':Int):Prop:=∃j,0<j/\j<=D.N/\a=eT D.T j/\a'=eT D.T' (j+D.k)
def oR (D:Dt) (a a':Int):Prop:=(a= -1/\a'= -1)\/aR D a a'
mutual
def NR (D:Dt):ApiNode->ApiNode->Prop
 |⟨kd,t,y,n,f,to,a,ta,kids⟩,m=>(m.Kind=kd/\m.Text=t/\m.Type_=y/\m.N=n/\aR D f m.From/\eR D to m.To/\oR D a m.At/\oR D ta m.TypeAt)/\LR D kids m.Kids
def LR (D:Dt):List ApiNode->List ApiNode->Prop
 | [],m=>m=[]
 |n::l,m=>∃a b,m=a::b/\NR D n a/\LR D l b
end
theorem NR_eq (D:Dt) (n m:ApiNode):NR D n m↔((m.Kind=n.Kind/\m.Text=n.Text/\m.Type_=n.Type_/\m.N=n.N/\aR D n.From m.From/\eR D n.To m.To/\oR D n.At m.At/\oR D n.TypeAt m.TypeAt)/\LR D n.Kids m.Kids):=by
 cases n;simp[NR]
theorem LR.len {D:Dt}:∀{l m:List ApiNode},LR D l m->m.length=l.length
 | [],m,h=>by simp only[LR]at h;simp[h]
 |n::l,m,h=>by
  simp only[LR]at h
  obtain⟨a,b,rfl,_,h2⟩:=h
  simp[LR.len h2]
theorem LR.append {D:Dt}:∀{l m l2 m2:List ApiNode},LR D l m->LR D l2 m2->LR D (l++l2) (m++m2)
 | [],m,l2,m2,h,h2=>by simp only[LR]at h;subst h;exact h2
 |n::l,m,l2,m2,h,h2=>by
  simp only[LR]at h
  obtain⟨a,b,rfl,h3,h4⟩:=h
  exact⟨a,b++m2,rfl,h3,LR.append h4 h2⟩
theorem LR.nil {D:Dt}:LR D [] []:=rfl
theorem LR.one {D:Dt} {n m:ApiNode} (h:NR D n m):LR D [n] [m]:=⟨m,[],rfl,h,rfl⟩
theorem LR.two {D:Dt} {n m a b:ApiNode} (h:NR D n m) (h2:NR D a b):LR D [n,a] [m,b]:=⟨m,[b],rfl,h,b,[],rfl,h2,rfl⟩
def Fin' (D:Dt) (s:Nat) {α:Type} (Q:α->Nat->Prop) (Re:α->α->Prop) (b:Nat) (r:PX ParseWrong (α × ParseParser)) (Y:PX ParseWrong (α × ParseParser)->Prop):Prop:=
 match r with
 | .ok a=>∃j,a.2=D.p j/\j<D.T.length/\b<=j/\Q a.1 j/\(j<D.N+s->∃a',Y (.ok (a',D.p' j))/\Re a.1 a')
 | .bad m=>BadE D.x m/\(D.full->∃m',Y (.bad m')/\m'.m.Code=m.m.Code)
def FinS (D:Dt) (s:Nat) {α Ω:Type} (I:α->Nat->Prop) (J:α->α->Prop) (W:Nat->Ω->(Ω->Prop)->Prop) (j0:Nat) (b:Nat) (z:(ParseParser × α) ⊕ Ω) (Y:(ParseParser × α) ⊕ Ω->Prop):Prop:=
 match z with
 | .inl st=>∃j,st.1=D.p j/\I st.2 j/\j<D.T.length/\j0<j/\b<=j+s/\(j<D.N->∃a',Y (.inl (D.p' j,a'))/\J st.2 a')
 | .inr w=>W b w (fun v=>Y (.inr v))
def FinF (D:Dt) (s:Nat) {α β:Type} (I:α->Nat->Prop) (J:α->α->Prop) (Q:β->Nat->Prop) (Re:β->β->Prop) (b:Nat) (z:Flow (ParseParser × α) (PX ParseWrong (β × ParseParser))) (Y:Flow (ParseParser × α) (PX ParseWrong (β × ParseParser))->Prop):Prop:=
 match z with
 | .next st=>∃j,st.1=D.p j/\I st.2 j/\j<D.T.length/\b<=j/\(j<D.N+s->∃a',Y (.next (D.p' j,a'))/\J st.2 a')
 | .done r=>Fin' D s Q Re b r (fun v=>Y (.done v))
structure Pst (D:Dt) (s:Nat) {Ω:Type} (W:Nat->Ω->(Ω->Prop)->Prop) (bad:ParseWrong->Ω):Prop where
 mono:∀{b b' r Y},b<=b'->W b' r Y->W b r Y
 sub:∀{b r Y Y'},(∀v,Y v->Y' v)->W b r Y->W b r Y'
 away:∀{i b r Y Y'},i<D.T.length->¬i<D.N->i+s<=b->W b r Y->W b r Y'
 bad:∀{b m Y},BadE D.x m->(D.full->∃m',Y (bad m')/\m'.m.Code=m.m.Code)->W b (bad m) Y
def SW {Ω:Type} (W:Nat->Ω->(Ω->Prop)->Prop) (b:Nat) (y y':Option Ω):Prop:=∃r,y=some r/\W b r (fun v=>y'=some v)
section
variable {D:Dt} (V:Two D)
include V
theorem pFin {s:Nat} {α:Type} (Q:α->Nat->Prop) (Re:α->α->Prop):Pst D s (Fin' D s Q Re) PX.bad where
 mono {b b' r Y} h hw:=by
  cases r with
  |ok a=>obtain⟨j,h1,h2,h3,h4⟩:=hw;exact⟨j,h1,h2,by omega,h4⟩
  |bad m=>exact hw
 sub {b r Y Y'} h hw:=by
  cases r with
  |ok a=>obtain⟨j,h1,h2,h3,h4,h5⟩:=hw;exact⟨j,h1,h2,h3,h4,fun hj=>by obtain⟨a',e,hr⟩:=h5 hj;exact⟨a',h _ e,hr⟩⟩
  |bad m=>exact⟨hw.1,fun hf=>by obtain⟨m',e,hr⟩:=hw.2 hf;exact⟨m',h _ e,hr⟩⟩
 away {i b r Y Y'} hi hn hb hw:=by
  cases r with
  |ok a=>obtain⟨j,h1,h2,h3,h4,h5⟩:=hw;exact⟨j,h1,h2,h3,h4,fun hj=>by omega⟩
  |bad m=>exact⟨hw.1,fun hf=>by have:=(V.all hf).1;omega⟩
 bad {b m Y} h1 h2:=⟨h1,h2⟩
theorem pFinS {s:Nat} {α Ω:Type} (I:α->Nat->Prop) (J:α->α->Prop) {W:Nat->Ω->(Ω->Prop)->Prop} {bad:ParseWrong->Ω} (P:Pst D s W bad) (j0:Nat):Pst D s (FinS D s I J W j0) (fun m=> .inr (bad m)) where
 mono {b b' r Y} h hw:=by
  cases r with
  |inl a=>obtain⟨j,h1,h2,h3,h4,h5,h6⟩:=hw;exact⟨j,h1,h2,h3,h4,by omega,h6⟩
  |inr w=>exact P.mono h hw
 sub {b r Y Y'} h hw:=by
  cases r with
  |inl a=>obtain⟨j,h1,h2,h3,h4,h5,h6⟩:=hw;exact⟨j,h1,h2,h3,h4,h5,fun hj=>by obtain⟨a',e,hr⟩:=h6 hj;exact⟨a',h _ e,hr⟩⟩
  |inr w=>exact P.sub (fun v hv=>h _ hv) hw
 away {i b r Y Y'} hi hn hb hw:=by
  cases r with
  |inl a=>obtain⟨j,h1,h2,h3,h4,h5,h6⟩:=hw;exact⟨j,h1,h2,h3,h4,h5,fun hj=>by omega⟩
  |inr w=>exact P.away hi hn hb hw
 bad {b m Y} h1 h2:=P.bad h1 h2
theorem pFinF {s:Nat} {α β:Type} (I:α->Nat->Prop) (J:α->α->Prop) (Q:β->Nat->Prop) (Re:β->β->Prop):Pst D s (FinF D s I J Q Re) (fun m=> .done (.bad m)) where
 mono {b b' r Y} h hw:=by
  cases r with
  |next a=>obtain⟨j,h1,h2,h3,h4,h6⟩:=hw;exact⟨j,h1,h2,h3,by omega,h6⟩
  |done w=>exact(pFin V Q Re).mono (Y:=fun v=>Y (.done v)) h hw
 sub {b r Y Y'} h hw:=by
  cases r with
  |next a=>obtain⟨j,h1,h2,h3,h4,h6⟩:=hw;exact⟨j,h1,h2,h3,h4,fun hj=>by obtain⟨a',e,hr⟩:=h6 hj;exact⟨a',h _ e,hr⟩⟩
  |done w=>exact(pFin V Q Re).sub (Y:=fun v=>Y (.done v)) (fun v hv=>h _ hv) hw
 away {i b r Y Y'} hi hn hb hw:=by
  cases r with
  |next a=>obtain⟨j,h1,h2,h3,h4,h6⟩:=hw;exact⟨j,h1,h2,h3,h4,fun hj=>by omega⟩
  |done w=>exact(pFin V Q Re).away (Y:=fun v=>Y (.done v)) (Y':=fun v=>Y' (.done v)) hi hn hb hw
 bad {b m Y} h1 h2:=⟨h1,h2⟩
theorem tk_eq {i:Nat} (h:i<D.T.length):D.T[i]=D.tk i:=by simp[Dt.tk,List.getD,h]
theorem ag_eq {i:Nat} (h:i<D.N):∃h':i+D.k<D.T'.length,D.T'[i+D.k].Kind=(D.tk i).Kind/\D.T'[i+D.k].Text=(D.tk i).Text/\D.T'[i+D.k].At=aT D.T' (i+D.k):=by
 have h1:=V.le'
 have h':i+D.k<D.T'.length:=by omega
 have h2:=V.ag i h
 have e:D.T'.getD (i+D.k) bo=D.T'[i+D.k]:=by simp[List.getD,h']
 rw[e]at h2
 exact⟨h',h2.1,h2.2,(aT_eq V.t' h').symm⟩
theorem isB_ag {i:Nat} {t':ApiToken} (h:TR D i t') (s:List UInt8):i<D.N->isB t' s=isB (D.tk i) s:=fun hi=>by
 obtain⟨h1,h2,_⟩:=h hi
 unfold isB
 rw[h1,h2]
theorem isTy_ag {i:Nat} {t':ApiToken} (h:TR D i t'):i<D.N->isTy t'=isTy (D.tk i):=fun hi=>by
 obtain⟨h1,h2,_⟩:=h hi
 unfold isTy
 rw[isB_ag V h _ hi,isB_ag V h _ hi,isB_ag V h _ hi,h1]
theorem TR_tok {i:Nat} (h:i<D.N):∃h':i+D.k<D.T'.length,TR D i D.T'[i+D.k]:=by
 obtain⟨h',h2⟩:=ag_eq V h
 exact⟨h',fun _=>h2⟩
variable {s:Nat} {Ω:Type} {W:Nat->Ω->(Ω->Prop)->Prop} {bad:ParseWrong->Ω} (P:Pst D s W bad)
include P
theorem sw_up {b b':Nat} {y y':Option Ω} (h:SW W b' y y') (hb:b<=b':=by omega):SW W b y y':=by
 obtain⟨r,e,h⟩:=h
 exact⟨r,e,P.mono hb h⟩
theorem om {i b:Nat} {y y1 y2:Option Ω} (hi:i<D.T.length) (hn:¬i<D.N) (hb:i+s<=b) (h:SW W b y y1):SW W b y y2:=by
 obtain⟨r,e,h⟩:=h
 exact⟨r,e,P.away hi hn hb h⟩
theorem sw_val {β:Type} {b:Nat} {y y':Option β} {F F':β->Option Ω} (i:Nat) (v:β) (Rv:β->Prop) (hi:i<D.T.length) (hb:i+s<=b) (hy:y=some v) (hy':i<D.N->∃v',y'=some v'/\Rv v') (h:∀v',(i<D.N->Rv v')->SW W b (F v) (F' v')):SW W b (y.bind F) (y'.bind F'):=by
 subst hy
 by_cases hn:i<D.N
 ·obtain⟨v',rfl,hv⟩:=hy' hn
  exact h v' (fun _=>hv)
 ·exact om V P hi hn hb (h v (fun h=>absurd h hn))
theorem sw_now {b i:Nat} {F F':ApiToken->Option Ω} (hi:i<D.T.length) (hb:i+s<=b) (h:∀t',TR D i t'->SW W b (F (D.tk i)) (F' t')):SW W b ((bi (D.p i)).bind F) ((bi (D.p' i)).bind F'):=by
 refine sw_val V P i (D.tk i) (TR D i) hi hb (by rw[now_eq V.t hi,tk_eq V hi]) (fun hn=> ?_) (fun t' ht=>h t' (fun hn=>ht hn hn))
 obtain⟨h',ht⟩:=TR_tok V hn
 exact⟨_,now_eq V.t' h',ht⟩
theorem sw_step {b i:Nat} {F F':ApiToken × ParseParser->Option Ω} (hi:i<D.T.length) (hb:i+s<=b) (h:∀t',TR D i t'->SW W b (F (D.tk i,D.p (i+1))) (F' (t',D.p' (i+1)))):SW W b ((cz (D.p i)).bind F) ((cz (D.p' i)).bind F'):=by
 by_cases hn:i<D.N
 ·obtain⟨h',ht⟩:=TR_tok V hn
  rw[step_eq V.t hi,tk_eq V hi,step_eq V.t' h',Option.bind_some,Option.bind_some]
  have:=h _ ht
  simp only[Dt.p',Nat.add_right_comm i 1 D.k]at this
  exact this
 ·rw[step_eq V.t hi,tk_eq V hi,Option.bind_some]
  exact om V P hi hn hb (h (D.tk i) (fun h=>absurd h hn))
theorem sw_ite {b i:Nat} {c c':Bool} {a a' d d':Option Ω} (hi:i<D.T.length) (hb:i+s<=b) (hc:i<D.N->c'=c) (h1:c=true->SW W b a a') (h2:c=false->SW W b d d'):SW W b (if c=true then a else d) (if c'=true then a' else d'):=by
 by_cases hn:i<D.N
 ·rw[hc hn]
  cases c
  ·exact h2 rfl
  ·exact h1 rfl
 ·cases c
  ·exact om V P hi hn hb (h2 rfl)
  ·exact om V P hi hn hb (h1 rfl)
omit V P in
theorem ji {b:Nat} {c:Bool} {a a' d d':Option Ω} (h1:c=true->SW W b a a') (h2:c=false->SW W b d d'):SW W b (if c=true then a else d) (if c=true then a' else d'):=by
 cases c
 ·exact h2 rfl
 ·exact h1 rfl
theorem oy {b i:Nat} {F F':Bool × ParseParser->Option Ω} {t:List UInt8} (hi:i<D.T.length) (hb:i+s<=b) (h1:isB (D.tk i) t=true->i+1<D.T.length->SW W b (F (true,D.p (i+1))) (F' (true,D.p' (i+1)))) (h2:isB (D.tk i) t=false->SW W b (F (false,D.p i)) (F' (false,D.p' i))):SW W b ((bu t (D.p i)).bind F) ((bu t (D.p' i)).bind F'):=by
 have e1:=met_eq V.t hi t
 rw[tk_eq V hi]at e1
 by_cases hn:i<D.N
 ·obtain⟨h',ht⟩:=TR_tok V hn
  have e2:=met_eq V.t' h' t
  rw[isB_ag V ht t hn]at e2
  simp only[Dt.p,Dt.p']
  rw[e1,e2]
  cases hB:isB (D.tk i) t with
  |false=>exact h2 hB
  |true=>
   have h3:=h1 hB (by rw[← tk_eq V hi]at hB;exact isB_lt V.t hi hB)
   simp only[Dt.p',Nat.add_right_comm i 1 D.k]at h3
   exact h3
 ·simp only[Dt.p]
  rw[e1]
  cases hB:isB (D.tk i) t with
  |false=>exact om V P hi hn hb (h2 hB)
  |true=>exact om V P hi hn hb (h1 hB (by rw[← tk_eq V hi]at hB;exact isB_lt V.t hi hB))
theorem sw_det {β:Type} {b:Nat} {y y':Option (PX ParseWrong β)} {F F':β->Option Ω} (i:Nat) (c:Bool) (v:β) (m:ParseWrong) (Rv:β->Prop) (hi:i<D.T.length) (hb:i+s<=b) (hy:y=some (if c=true then .ok v else .bad m)) (hm:BadE D.x m) (hy':i<D.N->∃v' m',y'=some (if c=true then .ok v' else .bad m')/\Rv v'/\m'.m.Code=m.m.Code) (h:c=true->∀v',(i<D.N->Rv v')->SW W b (F v) (F' v')):
  SW W b (cp y (fun m=>some (bad m)) F) (cp y' (fun m=>some (bad m)) F'):=by
 subst hy
 by_cases hn:i<D.N
 ·obtain⟨v',m',rfl,hv,hc⟩:=hy' hn
  cases c
  ·exact⟨bad m,rfl,P.bad hm (fun _=>⟨m',rfl,hc⟩)⟩
  ·exact h rfl v' (fun _=>hv)
 ·cases c
  ·exact⟨bad m,rfl,P.bad hm (fun hf=>by have:=(V.all hf).1;omega)⟩
  ·exact om V P hi hn hb (h rfl v (fun h=>absurd h hn))
omit V P in
theorem fail_eq {x:List UInt8} {T:List ApiToken} (hT:TokP x T) {i:Nat} (h:i<T.length) (c:Int):cj c ⟨T,(i:Int)⟩=some (.bad ⟨⟨c,0,T[i].At⟩⟩):=by
 unfold cj
 rw[now_eq hT h,Option.bind_some]
omit V P in
theorem badE_at {x:List UInt8} {T:List ApiToken} (hT:TokP x T) {i:Nat} (h:i<T.length) {c:Int} (hc:c=120\/c=2):BadE x ⟨⟨c,0,T[i].At⟩⟩:=by
 have h1:=aT_nat hT h
 rw[aT_eq hT h]at h1
 exact⟨rfl,h1.1,(show T[i].At<=(x.length:Int)by omega),hc⟩
omit V P in
theorem need_eq {x:List UInt8} {T:List ApiToken} (hT:TokP x T) {i:Nat} (h:i<T.length) (t:List UInt8):bc t ⟨T,(i:Int)⟩=some (if isB T[i] t=true then .ok ⟨T,((i+1:Nat):Int)⟩else .bad ⟨⟨120,0,T[i].At⟩⟩):=by
 unfold bc
 rw[met_eq hT h,Option.bind_some]
 cases isB T[i] t
 ·simp only[Bool.false_eq_true,if_false,Bool.not_false,if_true]
  rw[fail_eq hT h]
  rfl
 ·rfl
omit V P in
theorem name_eq {x:List UInt8} {T:List ApiToken} (hT:TokP x T) {i:Nat} (h:i<T.length):dm ⟨T,(i:Int)⟩=some (if(T[i].Kind==1)=true then .ok (T[i],⟨T,((i+1:Nat):Int)⟩)else .bad ⟨⟨120,0,T[i].At⟩⟩):=by
 unfold dm kb
 rw[now_eq hT h,Option.bind_some]
 cases hk:T[i].Kind==1
 ·rw[if_pos (by simpa [bne] using hk),fail_eq hT h]
  rfl
 ·rw[if_neg (by simpa [bne] using hk),step_eq hT h]
  rfl
omit V P in
theorem value_eq {x:List UInt8} {T:List ApiToken} (hT:TokP x T) {i:Nat} (h:i<T.length):f6 ⟨T,(i:Int)⟩=some (if(isTy T[i]&& !isB T[i] [118,111,105,100])=true then .ok (T[i],⟨T,((i+1:Nat):Int)⟩)else .bad ⟨⟨120,0,T[i].At⟩⟩):=by
 unfold f6 ju jv
 rw[now_eq hT h,Option.bind_some,isType_eq,Option.bind_some,is_eq hT h,Option.bind_some,fail_eq hT h,step_eq hT h]
 cases isTy T[i]<;>cases isB T[i] [118,111,105,100]<;>rfl
theorem sw_fail {b i:Nat} {F F':ParseParser->Option Ω} {c:Int} (hc:c=120\/c=2) (hi:i<D.T.length):SW W b (cp (cj c (D.p i)) (fun m=>some (bad m)) F) (cp (cj c (D.p' i)) (fun m=>some (bad m)) F'):=by
 simp only[Dt.p]
 rw[fail_eq V.t hi]
 refine⟨_,rfl,P.bad (badE_at V.t hi hc) (fun hf=> ?_)⟩
 obtain⟨h1,h2⟩:=V.all hf
 obtain⟨h',_⟩:=TR_tok V (i:=i) (by omega)
 simp only[Dt.p']
 rw[fail_eq V.t' h']
 exact⟨_,rfl,rfl⟩
theorem ks {b i:Nat} {F F':ParseParser->Option Ω} {t:List UInt8} (hi:i<D.T.length) (hb:i+s<=b) (h:isB (D.tk i) t=true->i+1<D.T.length->SW W b (F (D.p (i+1))) (F' (D.p' (i+1)))):SW W b (cp (bc t (D.p i)) (fun m=>some (bad m)) F) (cp (bc t (D.p' i)) (fun m=>some (bad m)) F'):=by
 refine sw_det V P i (isB (D.tk i) t) (D.p (i+1)) ⟨⟨120,0,D.T[i].At⟩⟩ (fun p=>p=D.p' (i+1)) hi hb (by rw[need_eq V.t hi,tk_eq V hi]) (badE_at V.t hi (.inl rfl)) (fun hn=> ?_) (fun hB v' hv=> ?_)
 ·obtain⟨h',ht⟩:=TR_tok V hn
  refine⟨_,⟨⟨120,0,D.T'[i+D.k].At⟩⟩,by rw[need_eq V.t' h',isB_ag V ht t hn],?_,rfl⟩
  simp only[Dt.p',Nat.add_right_comm i 1 D.k]
 ·have h3:=h hB (by rw[← tk_eq V hi]at hB;exact isB_lt V.t hi hB)
  by_cases hn:i<D.N
  ·obtain rfl:=hv hn
   exact h3
  ·exact om V P hi hn hb h3
theorem sw_name {b i:Nat} {F F':ApiToken × ParseParser->Option Ω} (hi:i<D.T.length) (hb:i+s<=b) (h:(D.tk i).Kind=1->i+1<D.T.length->∀t',TR D i t'->SW W b (F (D.tk i,D.p (i+1))) (F' (t',D.p' (i+1)))):SW W b (cp (dm (D.p i)) (fun m=>some (bad m)) F) (cp (dm (D.p' i)) (fun m=>some (bad m)) F'):=by
 refine sw_det V P i ((D.tk i).Kind==1) (D.tk i,D.p (i+1)) ⟨⟨120,0,D.T[i].At⟩⟩ (fun p=>p.2=D.p' (i+1)/\TR D i p.1) hi hb (by rw[name_eq V.t hi,tk_eq V hi]) (badE_at V.t hi (.inl rfl)) (fun hn=> ?_) (fun hB v' hv=> ?_)
 ·obtain⟨h',ht⟩:=TR_tok V hn
  refine⟨_,⟨⟨120,0,D.T'[i+D.k].At⟩⟩,by rw[name_eq V.t' h',(ht hn).1],?_,rfl⟩
  simp only[Dt.p',Nat.add_right_comm i 1 D.k]
  exact⟨trivial,ht⟩
 ·have hB:(D.tk i).Kind=1:=by simpa using hB
  have hlt:i+1<D.T.length:=ne_last V.t hi (by rw[tk_eq V hi,hB];decide)
  by_cases hn:i<D.N
  ·obtain⟨t',p'⟩:=v'
   obtain⟨rfl,ht⟩:=hv hn
   exact h hB hlt t' ht
  ·exact om V P hi hn hb (h hB hlt (D.tk i) (fun h=>absurd h hn))
theorem sw_value {b i:Nat} {F F':ApiToken × ParseParser->Option Ω} (hi:i<D.T.length) (hb:i+s<=b) (h:i+1<D.T.length->∀t',TR D i t'->SW W b (F (D.tk i,D.p (i+1))) (F' (t',D.p' (i+1)))):SW W b (cp (f6 (D.p i)) (fun m=>some (bad m)) F) (cp (f6 (D.p' i)) (fun m=>some (bad m)) F'):=by
 refine sw_det V P i (isTy (D.tk i)&& !isB (D.tk i) [118,111,105,100]) (D.tk i,D.p (i+1)) ⟨⟨120,0,D.T[i].At⟩⟩ (fun p=>p.2=D.p' (i+1)/\TR D i p.1) hi hb (by rw[value_eq V.t hi,tk_eq V hi]) (badE_at V.t hi (.inl rfl)) (fun hn=> ?_) (fun hB v' hv=> ?_)
 ·obtain⟨h',ht⟩:=TR_tok V hn
  refine⟨_,⟨⟨120,0,D.T'[i+D.k].At⟩⟩,by rw[value_eq V.t' h',isTy_ag V ht hn,isB_ag V ht _ hn],?_,rfl⟩
  simp only[Dt.p',Nat.add_right_comm i 1 D.k]
  exact⟨trivial,ht⟩
 ·have hB:isTy (D.tk i)=true:=by
   cases hc:isTy (D.tk i)
   ·rw[hc]at hB;simp at hB
   ·rfl
  have hlt:i+1<D.T.length:=isTy_lt V.t hi (by rw[tk_eq V hi];exact hB)
  by_cases hn:i<D.N
  ·obtain⟨t',p'⟩:=v'
   obtain⟨rfl,ht⟩:=hv hn
   exact h hlt t' ht
  ·exact om V P hi hn hb (h hlt (D.tk i) (fun h=>absurd h hn))
theorem sw_limit {b i:Nat} {F F':ParseParser->Option Ω} {d:Int} (hi:i<D.T.length) (h:d<=60->SW W b (F (D.p i)) (F' (D.p' i))):SW W b (cp (ec d (D.p i)) (fun m=>some (bad m)) F) (cp (ec d (D.p' i)) (fun m=>some (bad m)) F'):=by
 unfold ec
 by_cases hd:d>60
 ·rw[if_pos (by simpa using hd),if_pos (by simpa using hd)]
  have h0:=sw_fail V P (b:=b) (F:=fun x5=>cp (some (.ok x5)) (fun m=>some (bad m)) F) (F':=fun x5=>cp (some (.ok x5)) (fun m=>some (bad m)) F') (c:=2) (.inr rfl) hi
  have hass:∀(y:Option (PX ParseWrong ParseParser)) (G:ParseParser->Option Ω),cp (cp y (fun m6=>some (.bad m6)) fun x5=>some (.ok x5)) (fun m=>some (bad m)) G=cp y (fun m=>some (bad m)) (fun x5=>cp (some (PX.ok (μ:=ParseWrong) x5)) (fun m=>some (bad m)) G):=by
   intro y G
   cases y with
   |none=>rfl
   |some r=>cases r<;>rfl
  rw[hass,hass]
  exact h0
 ·rw[if_neg (by simpa using hd),if_neg (by simpa using hd)]
  exact h (by omega)
theorem jq {b i j:Nat} {F F':ApiNode->Option Ω} {kd:Int} {l l':List ApiNode} (hij:i<j) (hj:j<=D.T.length) (hb:j+s<=b+1) (h:∀n',(j<=D.N->n'=⟨kd,[],[],0,aT D.T' (i+D.k),eT D.T' (j+D.k), -1, -1,l'⟩)->SW W b (F ⟨kd,[],[],0,aT D.T i,eT D.T j, -1, -1,l⟩) (F' n')):SW W b ((parse_parser_made (D.p j) kd (i:Int) l).bind F) ((parse_parser_made (D.p' j) kd ((i+D.k:Nat):Int) l').bind F'):=by
 refine sw_val V P (j - 1) _ (fun n'=>n'=⟨kd,[],[],0,aT D.T' (i+D.k),eT D.T' (j+D.k), -1, -1,l'⟩) (by omega) (by omega) (made_eq V.t (by omega) (by omega) hj kd l) (fun hn=> ?_) (fun n' hn'=>h n' (fun hjn=>hn' (by omega)))
 have h1:=V.le'
 exact⟨_,made_eq V.t' (by omega) (by omega) (by omega) kd l',rfl⟩
theorem ic {α:Type} {s1 b1 b:Nat} {Q:α->Nat->Prop} {Re:α->α->Prop} {y y':Option (PX ParseWrong (α × ParseParser))} {F F':α × ParseParser->Option Ω} (b2:Nat->Nat) (hy:SW (Fin' D s1 Q Re) b1 y y') (hb:∀j,b1<=j->b<=b2 j/\j+s<=b2 j+s1/\s1<=j) (h:∀j a a',j<D.T.length->b1<=j->Q a j->(j<D.N+s1->Re a a')->SW W (b2 j) (F (a,D.p j)) (F' (a',D.p' j))):
  SW W b (cp y (fun m=>some (bad m)) F) (cp y' (fun m=>some (bad m)) F'):=by
 obtain⟨r,rfl,hr⟩:=hy
 cases r with
 |bad m=>
  refine⟨bad m,rfl,P.bad hr.1 (fun hf=> ?_)⟩
  obtain⟨m',rfl,hc⟩:=hr.2 hf
  exact⟨m',rfl,hc⟩
 |ok a=>
  obtain⟨a,p⟩:=a
  obtain⟨j,rfl,h2,h3,h4,h5⟩:=hr
  obtain⟨h6,h7,h8⟩:=hb j h3
  by_cases hn:j<D.N+s1
  ·obtain⟨a',rfl,hre⟩:=h5 hn
   exact sw_up V P (h j a a' h2 h3 h4 (fun _=>hre)) h6
  ·exact sw_up V P (om V P (i:=j - s1) (by omega) (by omega) (by omega) (h j a a h2 h3 h4 (fun h=>absurd h hn))) h6
theorem sw_iter {α:Type} {I:α->Nat->Prop} {J:α->α->Prop} {f f':ParseParser × α->Option ((ParseParser × α) ⊕ Ω)} {b j0:Nat} {a a':α} (hj0:j0<D.T.length) (h0:I a j0) (h0':j0<D.N->J a a') (hb:b<=j0+s)
  (h:∀j a a',j0<=j->j<D.T.length->I a j->(j<D.N->J a a')->SW (FinS D s I J W j) (j+s) (f (D.p j,a)) (f' (D.p' j,a'))):SW W b (iter f (D.p j0,a)) (iter f' (D.p' j0,a')):=by
 have H:∀(n j:Nat) (a a':α),D.T.length - j<=n->j0<=j->j<D.T.length->I a j->(j<D.N->J a a')->SW W (j+s) (iter f (D.p j,a)) (iter f' (D.p' j,a')):=by
  intro n
  induction n with
  |zero=>intro j a a' h1 h2 h3;omega
  |succ n ih=>
   intro j a a' h1 h2 h3 h4 h5
   obtain⟨z,hz,hW⟩:=h j a a' h2 h3 h4 h5
   cases z with
   |inr w=>
    rw[@ga noG _ _ _ _ _ hz]
    exact⟨w,rfl,P.sub (fun v hv=> @ga noG _ _ _ _ _ hv) hW⟩
   |inl st=>
    obtain⟨st1,st2⟩:=st
    obtain⟨j2,e,h6,h7,h8,h9,h10⟩:=hW
    simp only at e h6 h10
    subst e
    rw[@np noG _ _ _ _ _ hz]
    by_cases hn:j2<D.N
    ·obtain⟨a2,e2,hJ⟩:=h10 hn
     rw[@np noG _ _ _ _ _ e2]
     exact sw_up V P (ih j2 st2 a2 (by omega) (by omega) h7 h6 (fun _=>hJ))
    ·exact sw_up V P (om V P h7 hn (Nat.le_refl _) (ih j2 st2 st2 (by omega) (by omega) h7 h6 (fun h=>absurd h hn)))
 exact sw_up V P (H _ j0 a a' (Nat.le_refl _) (Nat.le_refl _) hj0 h0 h0') hb
omit P in
theorem sw_flow {α β:Type} {I:α->Nat->Prop} {J:α->α->Prop} {Q:β->Nat->Prop} {Re:β->β->Prop} {b:Nat} {y y':Option (Flow (ParseParser × α) (PX ParseWrong (β × ParseParser)))} {K K':Flow (ParseParser × α) (PX ParseWrong (β × ParseParser))->Option (PX ParseWrong (β × ParseParser))} (hs:s<=1) (hy:SW (FinF D s I J Q Re) b y y') (hb1:s<=b)
  (h:∀j a a',j<D.T.length->b<=j->I a j->(j<D.N+s->J a a')->SW (Fin' D s Q Re) j (K (.next (D.p j,a))) (K' (.next (D.p' j,a'))))
  (h2:∀r,K (.done r)=some r) (h2':∀r,K' (.done r)=some r):SW (Fin' D s Q Re) b (y.bind K) (y'.bind K'):=by
 obtain⟨r,rfl,hr⟩:=hy
 cases r with
 |done r=>
  refine⟨r,h2 r,(pFin V Q Re).sub (Y:=fun v=>y'=some (.done v)) (fun v hv=> ?_) hr⟩
  rw[hv]
  exact h2' v
 |next st=>
  obtain⟨p,a⟩:=st
  obtain⟨j,e,h3,h4,h5,h6⟩:=hr
  simp only at e h3 h6
  subst e
  by_cases hn:j<D.N+s
  ·obtain⟨a',e,hJ⟩:=h6 hn
   rw[e]
   exact sw_up V (pFin V Q Re) (h j a a' h4 h5 h3 (fun _=>hJ))
  ·exact sw_up V (pFin V Q Re) (om V (pFin V Q Re) (i:=j - s) (by omega) (by omega) (by omega) (h j a a h4 h5 h3 (fun h=>absurd h hn)))
omit V P in
theorem sw_ok {α:Type} {Q:α->Nat->Prop} {Re:α->α->Prop} {b j:Nat} {a a':α} (hj:j<D.T.length) (hb:b<=j) (hq:Q a j) (hr:j<D.N+s->Re a a'):SW (Fin' D s Q Re) b (some (.ok (a,D.p j))) (some (.ok (a',D.p' j))):=⟨_,rfl,j,rfl,hj,hb,hq,fun h=>⟨a',rfl,hr h⟩⟩
omit V P in
theorem sw_inr_ok {α γ:Type} {I:γ->Nat->Prop} {J:γ->γ->Prop} {Q:α->Nat->Prop} {Re:α->α->Prop} {j0 b j:Nat} {a a':α} (hj:j<D.T.length) (hb:b<=j) (hq:Q a j) (hr:j<D.N+s->Re a a'):SW (FinS D s I J (Fin' D s Q Re) j0) b (some (.inr (.ok (a,D.p j)))) (some (.inr (.ok (a',D.p' j)))):=⟨_,rfl,j,rfl,hj,hb,hq,fun h=>⟨a',rfl,hr h⟩⟩
omit V P in
theorem sw_inl {γ:Type} {I:γ->Nat->Prop} {J:γ->γ->Prop} {j0 b j:Nat} {a a':γ} (hj:j<D.T.length) (h0:j0<j) (hb:b<=j+s) (hq:I a j) (hr:j<D.N->J a a'):SW (FinS D s I J W j0) b (some (.inl (D.p j,a))) (some (.inl (D.p' j,a'))):=⟨_,rfl,j,rfl,hq,hj,h0,hb,fun h=>⟨a',rfl,hr h⟩⟩
omit V P in
theorem sw_next {α γ:Type} {I:γ->Nat->Prop} {J:γ->γ->Prop} {I2:γ->Nat->Prop} {J2:γ->γ->Prop} {Q:α->Nat->Prop} {Re:α->α->Prop} {j0 b j:Nat} {a a':γ} (hj:j<D.T.length) (hb:b<=j) (hq:I2 a j) (hr:j<D.N+s->J2 a a'):SW (FinS D s I J (FinF D s I2 J2 Q Re) j0) b (some (.inr (.next (D.p j,a)))) (some (.inr (.next (D.p' j,a')))):=⟨_,rfl,j,rfl,hq,hj,hb,fun h=>⟨a',rfl,hr h⟩⟩
end
end Go.Proofs.YteablckbgpogiaaGreatDoor
set_option linter.unusedSectionVars false
set_option linter.unusedVariables false
set_option linter.unusedSimpArgs false
set_option maxHeartbeats 4000000
namespace Go.Proofs.YteablckbgpogiaaGreatDoor
open Go Go.Cn
theorem chain_join {hi b : Int} {m : List ApiNode} : ∀ {l : List ApiNode} {lo a : Int}, chain lo a l -> chain b hi m -> a <= b -> a <= hi -> lo <= a \/ l ≠ [] \/ lo <= b -> chain lo hi (l ++ m)
  | [], lo, a, _, h2, h3, h4, h5 => chain_wide h2 (by rcases h5 with h | h | h
                                                      · omega
                                                      · exact absurd rfl h
                                                      · exact h) (Int.le_refl _)
  |y::r,lo,a,⟨c1,c2,c3,c4⟩,h2,h3,h4,_=>⟨c1,c2,by omega,chain_join c4 h2 h3 h4 (.inl c3)⟩
theorem app_small {bytes:Nat} {l m:List ApiNode} (h:l.length+m.length<=1000000/\bytes<=1000:=by omega):app bytes l m=some (l++m):=by
 unfold app
 have:(l.length+m.length) * bytes<=1000000 * 1000:=Nat.mul_le_mul h.1 h.2
 rw[if_pos ⟨by omega,by omega⟩]
structure NG (x:List UInt8) (T:List ApiToken) (n:ApiNode) (i j:Nat):Prop where
 lt:i<j
 gd:gd x n
 lo:aT T i<=n.From
 ft:n.From<=n.To
 hi:n.To<=eT T j
 sz:qd n<=j - i
structure LG (x:List UInt8) (T:List ApiToken) (l:List ApiNode) (i j:Nat):Prop where
 le:i<=j
 gd:gdL x l
 ch:chain (aT T i) (eT T j) l
 ne:l=[]\/i<j
 sz:ee l<=j - i
theorem LG.nil (x:List UInt8) (T:List ApiToken) (i:Nat):LG x T [] i i:=⟨Nat.le_refl _,trivial,trivial,.inl rfl,by simp[ee]⟩
section
variable {x:List UInt8} {T:List ApiToken} (hT:TokP x T)
include hT
theorem LG.snoc {l:List ApiNode} {n:ApiNode} {i j a b:Nat} (h:LG x T l i j) (hn:NG x T n a b) (hj:j<=a) (hb:b<=T.length):LG x T (l++[n]) i b:=by
 have h1:=h.le
 have h2:=hn.lt
 have ha:aT T i<=aT T a:=a_mono hT (by omega) (by omega)
 have hlo:=hn.lo
 refine⟨by omega,gdL_append h.gd ⟨hn.gd,trivial⟩,?_,.inr (by omega),?_⟩
 ·refine chain_snoc h.ch (by omega) ?_ hn.ft hn.hi ?_
  ·rcases h.ne with h3|h3
   ·exact .inl h3
   ·right
    have:=e_le hT (i:=j) (j:=a) (by omega) hj (by omega)
    omega
  ·rcases h.ne with h3|h3
   ·exact .inr h3
   ·exact .inl (e_mono hT (by omega) (by omega) hb)
 ·rw[nsizes_append]
  simp only[ee]
  have:=h.sz
  have:=hn.sz
  omega
theorem LG.one {n:ApiNode} {i j:Nat} (hn:NG x T n i j) (hj:j<=T.length):LG x T [n] i j:=LG.snoc hT (LG.nil x T i) hn (Nat.le_refl _) hj
theorem LG.widen {l:List ApiNode} {a b i j:Nat} (h:LG x T l a b) (hi:i<=a) (hb:b<=j) (hj:j<=T.length):LG x T l i j:=by
 have h1:=h.le
 have h5:=h.sz
 refine⟨by omega,h.gd,?_,?_,by omega⟩
 ·rcases h.ne with rfl|h3
  ·trivial
  ·exact chain_wide h.ch (a_mono hT hi (by omega)) (e_mono hT (by omega) hb hj)
 ·rcases h.ne with h3|h3
  ·exact .inl h3
  ·exact .inr (by omega)
theorem NG.widen {n:ApiNode} {a b i j:Nat} (h:NG x T n a b) (hi:i<=a) (hb:b<=j) (hj:j<=T.length):NG x T n i j:=by
 have h1:=h.lt
 have h2:=h.sz
 have h3:=a_mono hT hi (by omega)
 have h4:=e_mono hT (i:=b) (by omega) hb hj
 have h5:=h.lo
 have h6:=h.hi
 exact⟨by omega,h.gd,by omega,h.ft,by omega,by omega⟩
theorem LG.join {l m:List ApiNode} {i j a b:Nat} (h:LG x T l i j) (hm:LG x T m a b) (hj:j<=a) (hb:b<=T.length):LG x T (l++m) i b:=by
 have h1:=h.le
 have h2:=hm.le
 have h3:=h.sz
 have h4:=hm.sz
 refine⟨by omega,gdL_append h.gd hm.gd,?_,?_,by rw[nsizes_append];omega⟩
 ·rcases hm.ne with rfl|h5
  ·rw[List.append_nil]
   rcases h.ne with rfl|h6
   ·trivial
   ·exact chain_wide h.ch (Int.le_refl _) (e_mono hT (by omega) (by omega) hb)
  ·rcases h.ne with rfl|h6
   ·exact chain_wide hm.ch (a_mono hT (by omega) (by omega)) (Int.le_refl _)
   ·exact chain_join h.ch hm.ch (e_le hT (by omega) hj (by omega)) (e_mono hT (by omega) (by omega) hb) (.inr (.inr (a_mono hT (by omega) (by omega))))
 ·rcases hm.ne with rfl|h5
  ·rcases h.ne with rfl|h6
   ·exact .inl rfl
   ·exact .inr (by omega)
  ·exact .inr (by omega)
def At2 (T:List ApiToken) (i j:Nat) (at_:Int) (t:List UInt8):Prop:=at_= -1\/∃q,q<T.length/\i<=q/\q<j/\at_=(T.getD q bo).At/\t=(T.getD q bo).Text
theorem At2.gd {i j:Nat} {at_:Int} {t:List UInt8} (h:At2 T i j at_ t) (hj:j<=T.length):0<=at_->aT T i<=at_/\at_+(t.length:Int)<=eT T j/\(x.drop at_.toNat).take t.length=t:=by
 rcases h with rfl|⟨q,hq,h1,h2,rfl,rfl⟩
 ·intro h;omega
 ·intro _
  have e0:T.getD q bo=T[q]:=by simp[List.getD,hq]
  rw[e0]
  obtain⟨a,e1,e2,e3⟩:=hT.place q hq
  have h3:=a_mono hT h1 hq
  have h4:=e_mono hT (i:=q+1) (j:=j) (by omega) (by omega) hj
  rw[eT_eq hT hq]at h4
  rw[aT_eq hT hq]at h3
  refine⟨h3,h4,?_⟩
  rw[e1]
  exact e3
theorem lr {l:List ApiNode} {a b i j:Nat} (h:LG x T l a b) (hi:i<=a) (hb:b<=j) (hij:i<j) (hj:j<=T.length) (hs:ee l+1<=j - i) {k nn at_ tat:Int} {t ty:List UInt8} (h1:At2 T i j at_ t) (h2:At2 T i j tat ty):
  NG x T ⟨k,t,ty,nn,aT T i,eT T j,at_,tat,l⟩ i j:=by
 have hl:=LG.widen hT h hi hb hj
 have h3:=aT_nat hT (i:=i) (by omega)
 refine⟨hij,?_,Int.le_refl _,a_le_e hT hij hj,Int.le_refl _,?_⟩
 ·rw[gd_eq]
  exact⟨⟨h3.1,e_len hT (by omega) hj,At2.gd hT h1 hj,At2.gd hT h2 hj,hl.ch⟩,hl.gd⟩
 ·rw[nsize_eq]
  have:=h.sz
  show 1+ee l<=_
  omega
omit hT in
theorem At2.no {i j:Nat} {t:List UInt8}:At2 T i j (-1) t:= .inl rfl
omit hT in
theorem At2.yes {i j q:Nat} (h:q<T.length) (h1:i<=q) (h2:q<j):At2 T i j (T.getD q bo).At (T.getD q bo).Text:= .inr ⟨q,h,h1,h2,rfl,rfl⟩
end
theorem binds_ok (t:ApiToken):∃b:Nat,f2 t=some (b:Int)/\b<=6/\(0<b->t.Kind=4):=by
 have h:Ok (f2 t) (fun v=>∃b:Nat,v=(b:Int)/\b<=6/\(0<b->t.Kind=4)):=by
  unfold f2 l8 jl l9 kn
  refine ok_ite (fun _=>ok_some ⟨0,rfl,by omega,fun h=>by omega⟩) (fun hk=> ?_)
  have hk:t.Kind=4:=by simpa using hk
  repeat' (refine ok_ite (fun _=> ?_) (fun _=> ?_))
  all_goals first
   |exact ok_some ⟨0,rfl,by omega,fun _=>hk⟩
   |exact ok_some ⟨1,rfl,by omega,fun _=>hk⟩
   |exact ok_some ⟨2,rfl,by omega,fun _=>hk⟩
   |exact ok_some ⟨3,rfl,by omega,fun _=>hk⟩
   |exact ok_some ⟨4,rfl,by omega,fun _=>hk⟩
   |exact ok_some ⟨5,rfl,by omega,fun _=>hk⟩
   |exact ok_some ⟨6,rfl,by omega,fun _=>hk⟩
 obtain⟨v,hv,b,rfl,h1,h2⟩:=h
 exact⟨b,hv,h1,h2⟩
theorem binds_ag {t t':ApiToken} (h1:t'.Kind=t.Kind) (h2:t'.Text=t.Text):f2 t'=f2 t:=by
 unfold f2 l8 jl l9 kn
 rw[h1,h2]
section
variable {D:Dt} (V:Two D)
def XS (D:Dt) (i:Nat) (y y':Option (PX ParseWrong (ApiNode × ParseParser))):Prop:=SW (Fin' D 0 (fun n j=>NG D.x D.T n i j) (NR D)) (i+1) y y'
def LS (D:Dt) (i:Nat) (y y':Option (PX ParseWrong ((List ApiNode) × ParseParser))):Prop:=SW (Fin' D 0 (fun l j=>LG D.x D.T l i j) (LR D)) i y y'
def SpecX (D:Dt) (R:am) (f:Nat):Prop:=
 (∀d l i:Nat,d<=100->l<=6->10 * (100 - d)+8 - l<f->i<D.T.length->XS D i (R.1 (d:Int) (l:Int) (D.p i)) (R.1 (d:Int) (l:Int) (D.p' i)))/\
 (∀d i:Nat,d<=100->10 * (100 - d)+1<f->i<D.T.length->XS D i (R.2.1 (d:Int) (D.p i)) (R.2.1 (d:Int) (D.p' i)))/\
 (∀d i:Nat,d<=100->10 * (100 - d)+10<f->i<D.T.length->XS D i (R.2.2.1 (d:Int) (D.p i)) (R.2.2.1 (d:Int) (D.p' i)))/\
 (∀d i:Nat,d<=100->10 * (100 - d)+9<f->i<D.T.length->LS D i (R.2.2.2 (d:Int) (D.p i)) (R.2.2.2 (d:Int) (D.p' i)))
omit V in
theorem ku {l l':List ApiNode} {i j:Nat} (hi:i<j) (hj:j<=D.N) {kd nn a a' ta ta':Int} {t ty:List UInt8} (hl:LR D l l') (h1:oR D a a') (h2:oR D ta ta'):NR D ⟨kd,t,ty,nn,aT D.T i,eT D.T j,a,ta,l⟩ ⟨kd,t,ty,nn,aT D.T' (i+D.k),eT D.T' (j+D.k),a',ta',l'⟩:=by
 rw[NR_eq]
 exact⟨⟨rfl,rfl,rfl,rfl,⟨i,by omega,rfl,rfl⟩,⟨j,by omega,hj,rfl,rfl⟩,h1,h2⟩,hl⟩
theorem oR_no :oR D (-1) (-1):= .inl ⟨rfl,rfl⟩
theorem TR.o {q:Nat} {t':ApiToken} (h:TR D q t') (hq:q<D.N):oR D (D.tk q).At t'.At:= .inr ⟨q,hq,rfl,(h hq).2.2⟩
include V
theorem sw_eq {s:Nat} {Ω:Type} {W:Nat->Ω->(Ω->Prop)->Prop} {bad:ParseWrong->Ω} (P:Pst D s W bad) {β:Type} {b:Nat} {y y':Option β} {F F':β->Option Ω} (i:Nat) (v:β) (hi:i<D.T.length) (hb:i+s<=b) (hy:y=some v) (hy':i<D.N->y'=some v) (h:SW W b (F v) (F' v)):SW W b (y.bind F) (y'.bind F'):=by
 subst hy
 by_cases hn:i<D.N
 ·rw[hy' hn]
  exact h
 ·exact om V P hi hn hb h
theorem sw_app {s:Nat} {Ω:Type} {W:Nat->Ω->(Ω->Prop)->Prop} {bad:ParseWrong->Ω} (P:Pst D s W bad) {b:Nat} {F F':List ApiNode->Option Ω} {l m l' m':List ApiNode} (i:Nat) (hi:i<D.T.length) (hb:i+s<=b) (hs:l.length+m.length<=1000000) (hl:i<D.N->l'.length=l.length/\m'.length=m.length) (h:SW W b (F (l++m)) (F' (l'++m'))):SW W b ((app 104 l m).bind F) ((app 104 l' m').bind F'):=by
 rw[app_small ⟨hs,by omega⟩]
 by_cases hn:i<D.N
 ·obtain⟨h1,h2⟩:=hl hn
  rw[app_small ⟨by omega,by omega⟩]
  exact h
 ·exact om V P hi hn hb h
variable {R:am} {f:Nat} (hR:SpecX D R f)
include hR
theorem expr_ok {d l i:Nat} (hd:d<=100) (hl:l<=6) (hf:10 * (100 - d)+8 - l<f+1) (hi:i<D.T.length):XS D i (cl R (d:Int) (l:Int) (D.p i)) (cl R (d:Int) (l:Int) (D.p' i)):=by
 unfold cl XS
 refine ic V (pFin V _ _) (fun j=>j) (hR.2.1 d i hd (by omega) hi) (fun j hj=>⟨hj,Nat.le_refl _,Nat.zero_le _⟩) (fun j n n' hj hb hn hr=> ?_)
 refine sw_iter V (pFin V _ _) (I:=fun n j=>NG D.x D.T n i j) (J:=NR D) hj hn hr (Nat.le_refl _) (fun j n n' _ hj hn hr=> ?_)
 have P:=pFinS V (s:=0) (fun n j=>NG D.x D.T n i j) (NR D) (pFin V (s:=0) (fun n j=>NG D.x D.T n i j) (NR D)) j
 unfold bm
 refine sw_now V P hj (Nat.le_refl _) (fun t' ht=> ?_)
 obtain⟨b,hb,hb6,hbk⟩:=binds_ok (D.tk j)
 refine sw_eq V P j (b:Int) hj (Nat.le_refl _) hb (fun hn=>by rw[binds_ag (ht hn).1 (ht hn).2.1];exact hb) ?_
 refine ji (fun hc=>sw_inr_ok hj (Nat.le_refl _) hn hr) (fun hc=> ?_)
 have hbl:l<b:=by simp at hc;omega
 have hj1:j+1<D.T.length:=ne_last V.t hj (by rw[tk_eq V hj,hbk (by omega)];decide)
 refine sw_step V P hj (Nat.le_refl _) (fun u' hu=> ?_)
 refine ic V P (fun k=>k) (hR.1 d b (j+1) hd hb6 (by omega) hj1) (fun k hk=>⟨by omega,Nat.le_refl _,Nat.zero_le _⟩) (fun k m m' hk hbk hm hmr=> ?_)
 have h1:=hn.lt
 have h2:=hm.lt
 refine jq V P (i:=i) (by omega) (Nat.le_of_lt hk) (by omega) (fun z hz=> ?_)
 refine sw_inl hk (by omega) (by omega) ?_ (fun hkn=> ?_)
 ·have hl2:=LG.snoc V.t (LG.one V.t hn (Nat.le_of_lt hj)) hm (by omega) (Nat.le_of_lt hk)
  have h3:qd n<=j - i:=hn.sz
  have h4:qd m<=k - (j+1):=hm.sz
  exact lr V.t hl2 (Nat.le_refl i) (Nat.le_refl k) (by omega) (Nat.le_of_lt hk) (by simp only[List.cons_append,List.nil_append,ee];omega) .no .no
 ·rw[hz (by omega),(hu (by omega)).2.1]
  exact ku (by omega) (by omega) (LR.two (hr (by omega)) (hmr (by omega))) oR_no oR_no
theorem args_ok {d i:Nat} (hd:d<=100) (hf:10 * (100 - d)+9<f+1) (hi:i<D.T.length):LS D i (eh R (d:Int) (D.p i)) (eh R (d:Int) (D.p' i)):=by
 unfold eh LS
 have P0:=pFin V (s:=0) (fun l j=>LG D.x D.T l i j) (LR D)
 refine oy V P0 hi (by omega) (fun _ hi1=> ?_) (fun _=> ?_)
 ·exact ji (fun _=>sw_ok hi1 (by omega) (LG.widen V.t (LG.nil D.x D.T i) (Nat.le_refl _) (by omega) (by omega)) (fun _=>LR.nil)) (fun h=>by cases h)
 refine ji (fun h=>by cases h) (fun _=> ?_)
 refine sw_iter V P0 (I:=fun l j=>LG D.x D.T l i j) (J:=LR D) hi (LG.nil D.x D.T i) (fun _=>LR.nil) (by omega) (fun j l l' _ hj hl hr=> ?_)
 have P:=pFinS V (s:=0) (fun l j=>LG D.x D.T l i j) (LR D) P0 j
 have h1:=hl.le
 unfold fx
 refine ic V P (fun k=>k) (hR.1 d 0 j hd (by omega) (by omega) hj) (fun k hk=>⟨by omega,Nat.le_refl _,Nat.zero_le _⟩) (fun k n n' hk hbk hn hnr=> ?_)
 have h2:=hn.lt
 have hl2:=LG.snoc V.t hl hn (Nat.le_refl _) (Nat.le_of_lt hk)
 have h3:=hl2.sz
 have h4:=fu (l++[n])
 have hlen:=V.t.len
 refine sw_app V P k hk (Nat.le_refl _) (by simp at h4 ⊢;omega) (fun hkn=>⟨(hr (by omega)).len,rfl⟩) ?_
 refine oy V P hk (Nat.le_refl _) (fun _ hk1=> ?_) (fun _=> ?_)
 ·refine ji (fun _=> ?_) (fun h=>by cases h)
  exact sw_inr_ok hk1 (by omega) (LG.widen V.t hl2 (Nat.le_refl _) (by omega) (by omega)) (fun h=>LR.append (hr (by omega)) (LR.one (hnr (by omega))))
 ·refine ji (fun h=>by cases h) (fun _=> ?_)
  refine ks V P hk (Nat.le_refl _) (fun _ hk1=> ?_)
  exact sw_inl hk1 (by omega) (by omega) (LG.widen V.t hl2 (Nat.le_refl _) (by omega) (by omega)) (fun h=>LR.append (hr (by omega)) (LR.one (hnr (by omega))))
theorem unary_ok {d i:Nat} (hd:d<=100) (hf:10 * (100 - d)+1<f+1) (hi:i<D.T.length):XS D i (fy R (d:Int) (D.p i)) (fy R (d:Int) (D.p' i)):=by
 unfold fy XS
 have P0:=pFin V (s:=0) (fun n j=>NG D.x D.T n i j) (NR D)
 refine sw_limit V P0 hi (fun hd60=> ?_)
 have hd60:d<=60:=by omega
 have hone:∀{k:Int} {j:Nat} {n n':ApiNode},j<D.T.length->NG D.x D.T n (i+1) j->(j<D.N+0->NR D n n')->SW (Fin' D 0 (fun n j=>NG D.x D.T n i j) (NR D)) j ((parse_parser_made (D.p j) k (i:Int) [n]).bind fun x12=>some (PX.ok (μ:=ParseWrong) (x12,D.p j))) ((parse_parser_made (D.p' j) k ((i+D.k:Nat):Int) [n']).bind fun x12=>some (PX.ok (μ:=ParseWrong) (x12,D.p' j))):=fun {k j n n'} hj hn hr=>by
  have h2:=hn.lt
  have h3:qd n<=j - (i+1):=hn.sz
  refine jq V P0 (i:=i) (by omega) (Nat.le_of_lt hj) (by omega) (fun z hz=> ?_)
  refine sw_ok hj (Nat.le_refl _) (lr V.t (LG.one V.t hn (Nat.le_of_lt hj)) (by omega) (Nat.le_refl _) (by omega) (Nat.le_of_lt hj) (by simp only[ee];omega) .no .no) (fun h=> ?_)
  rw[hz (by omega)]
  exact ku (by omega) (by omega) (LR.one (hr h)) oR_no oR_no
 refine oy V P0 hi (by omega) (fun _ hi1=>ji (fun _=> ?_) (fun h=>by cases h)) (fun _=>ji (fun h=>by cases h) (fun _=> ?_))
 ·rw[bh (by omega)]
  refine ic V P0 (fun j=>j) (hR.2.1 (d+1) (i+1) (by omega) (by omega) hi1) (fun j hj=>⟨by omega,Nat.le_refl _,Nat.zero_le _⟩) (fun j n n' hj hb hn hr=> ?_)
  exact hone hj hn hr
 refine oy V P0 hi (by omega) (fun _ hi1=>ji (fun _=> ?_) (fun h=>by cases h)) (fun _=>ji (fun h=>by cases h) (fun _=> ?_))
 ·rw[bh (by omega)]
  refine ic V P0 (fun j=>j) (hR.2.1 (d+1) (i+1) (by omega) (by omega) hi1) (fun j hj=>⟨by omega,Nat.le_refl _,Nat.zero_le _⟩) (fun j n n' hj hb hn hr=> ?_)
  exact hone hj hn hr
 rw[bh (by omega)]
 refine ic V P0 (fun j=>j) (hR.2.2.1 (d+1) i (by omega) (by omega) hi) (fun j hj=>⟨by omega,Nat.le_refl _,Nat.zero_le _⟩) (fun j n n' hj hb hn hr=> ?_)
 refine sw_flow V (s:=0) (I:=fun n j=>NG D.x D.T n i j) (J:=NR D) (by omega) ?_ (by omega) (fun j n n' hj hbj hn hr=> ?_) (fun _=>rfl) (fun _=>rfl)
 ·have P1:=pFinF V (s:=0) (fun n j=>NG D.x D.T n i j) (NR D) (fun n j=>NG D.x D.T n i j) (NR D)
  refine sw_iter V P1 (I:=fun n j=>NG D.x D.T n i j) (J:=NR D) hj hn hr (Nat.le_refl _) (fun j n n' _ hj hn hr=> ?_)
  have P:=pFinS V (s:=0) (fun n j=>NG D.x D.T n i j) (NR D) P1 j
  have h1:=hn.lt
  have h0:qd n<=j - i:=hn.sz
  unfold iq
  refine oy V P hj (Nat.le_refl _) (fun _ hj1=>ji (fun _=> ?_) (fun h=>by cases h)) (fun _=>ji (fun h=>by cases h) (fun _=> ?_))
  ·refine sw_up V P (b':=j+1) ?_
   refine sw_name V P hj1 (Nat.le_refl _) (fun _ hj2 t' ht=> ?_)
   unfold jx ir di dj
   refine sw_up V P (b':=j+1+1) ?_
   refine oy V P hj2 (Nat.le_refl _) (fun _ hj3=>ji (fun _=> ?_) (fun h=>by cases h)) (fun _=>ji (fun h=>by cases h) (fun _=> ?_))
   ·rw[bh (by omega)]
    refine ic V P (fun k=>k) (hR.2.2.2 (d+1) (j+1+1+1) (by omega) (by omega) hj3) (fun k hk=>⟨by omega,Nat.le_refl _,Nat.zero_le _⟩) (fun k l l' hk hjk hl hlr=> ?_)
    have h2:=hl.sz
    have h5:=fu l
    have hlen:=V.t.len
    refine sw_app V P k hk (Nat.le_refl _) (by simp;omega) (fun h=>⟨rfl,(hlr h).len⟩) ?_
    have hjoin:=LG.join V.t (LG.one V.t hn (Nat.le_of_lt hj)) hl (by omega) (Nat.le_of_lt hk)
    refine jq V P (i:=i) (by omega) (Nat.le_of_lt hk) (by omega) (fun z hz=> ?_)
    refine sw_inl hk (by omega) (Nat.le_refl _) (lr V.t hjoin (Nat.le_refl _) (Nat.le_refl _) (by omega) (Nat.le_of_lt hk) (by rw[nsizes_append];simp only[ee];omega) (At2.yes hj1 (by omega) (by omega)) .no) (fun h=> ?_)
    rw[hz (by omega)]
    dsimp only
    rw[(ht (by omega)).2.1]
    exact ku (by omega) (by omega) (LR.append (LR.one (hr (by omega))) (hlr (by omega))) (ht.o (by omega)) oR_no
   ·refine jq V P (i:=i) (by omega) (Nat.le_of_lt hj2) (by omega) (fun z hz=> ?_)
    refine sw_inl hj2 (by omega) (Nat.le_refl _) (lr V.t (LG.one V.t hn (Nat.le_of_lt hj)) (Nat.le_refl _) (by omega) (by omega) (Nat.le_of_lt hj2) (by simp only[ee];omega) (At2.yes hj1 (by omega) (by omega)) .no) (fun h=> ?_)
    rw[hz (by omega)]
    dsimp only
    rw[(ht (by omega)).2.1]
    exact ku (by omega) (by omega) (LR.one (hr (by omega))) (ht.o (by omega)) oR_no
  ·exact sw_next hj (Nat.le_refl _) hn hr
 ·exact sw_ok hj (Nat.le_refl _) hn hr
theorem primary_ok {d i:Nat} (hd:d<=100) (hf:10 * (100 - d)+10<f+1) (hi:i<D.T.length):XS D i (ez R (d:Int) (D.p i)) (ez R (d:Int) (D.p' i)):=by
 have hlen:=V.t.len
 have P0:=pFin V (s:=0) (fun n j=>NG D.x D.T n i j) (NR D)
 have hj2:SW (Fin' D 0 (fun n j=>NG D.x D.T n i j) (NR D)) (i+1) (d8 R (D.p i) (d:Int)) (d8 R (D.p' i) (d:Int)):=by
  unfold d8 jd di dj
  refine oy V P0 hi (by omega) (fun _ hi1=>ji (fun _=> ?_) (fun h=>by cases h)) (fun _=>ji (fun h=>by cases h) (fun _=> ?_))
  ·refine sw_name V P0 hi1 (Nat.le_refl _) (fun _ hi2 t' ht=> ?_)
   refine sw_up V P0 (b':=i+1+1+1) ?_
   refine ks V P0 hi2 (by omega) (fun _ hi3=> ?_)
   refine ks V P0 hi3 (by omega) (fun _ hi4=> ?_)
   refine sw_up V P0 (b':=i+1+1+1+1) ?_
   refine jq V P0 (i:=i) (by omega) (Nat.le_of_lt hi4) (by omega) (fun z hz=> ?_)
   refine sw_ok hi4 (Nat.le_refl _) (lr V.t (LG.nil D.x D.T i) (Nat.le_refl _) (by omega) (by omega) (Nat.le_of_lt hi4) (by simp only[ee];omega) (At2.yes hi1 (by omega) (by omega)) .no) (fun h=> ?_)
   rw[hz (by omega)]
   dsimp only
   rw[(ht (by omega)).2.1]
   exact ku (by omega) (by omega) LR.nil (ht.o (by omega)) oR_no
  refine oy V P0 hi (by omega) (fun _ hi1=>ji (fun _=> ?_) (fun h=>by cases h)) (fun _=>ji (fun h=>by cases h) (fun _=> ?_))
  ·refine ic V P0 (fun k=>k) (hR.1 d 0 (i+1) hd (by omega) (by omega) hi1) (fun k hk=>⟨by omega,Nat.le_refl _,Nat.zero_le _⟩) (fun j n n' hj hbj hn hr=> ?_)
   refine ks V P0 hj (Nat.le_refl _) (fun _ hj1=> ?_)
   exact sw_ok hj1 (by omega) (NG.widen V.t hn (by omega) (by omega) (Nat.le_of_lt hj1)) (fun h=>hr (by omega))
  ·exact sw_fail V P0 (.inl rfl) hi
 unfold ez XS
 refine sw_now V P0 hi (by omega) (fun t' ht=> ?_)
 have hmk:∀{k nn:Int} {t:List UInt8} {at_:Int},i+1<D.T.length->At2 D.T i (i+1) at_ t->NG D.x D.T ⟨k,t,[],nn,aT D.T i,eT D.T (i+1),at_, -1,[]⟩ i (i+1):=fun h1 h2=>
  lr V.t (LG.nil D.x D.T i) (Nat.le_refl _) (by omega) (by omega) (Nat.le_of_lt h1) (by simp only[ee];omega) h2 .no
 have hmr:∀{k nn:Int} {t:List UInt8} {a a':Int},i+1<D.N+0->oR D a a'->NR D ⟨k,t,[],nn,aT D.T i,eT D.T (i+1),a, -1,[]⟩ ⟨k,t,[],nn,aT D.T' (i+D.k),eT D.T' (i+1+D.k),a', -1,[]⟩:=fun h h1=>
  ku (by omega) (by omega) LR.nil h1 oR_no
 refine sw_ite V P0 hi (by omega) (fun h=>by rw[(ht h).1]) (fun hk=> ?_) (fun hk=>sw_ite V P0 hi (by omega) (fun h=>by rw[(ht h).1]) (fun hk2=> ?_) (fun hk2=>sw_ite V P0 hi (by omega) (fun h=>by rw[(ht h).1]) (fun hk3=> ?_) (fun hk3=>hj2)))
 ·have hk:(D.tk i).Kind=2:=by simpa using hk
  have hi1:i+1<D.T.length:=ne_last V.t hi (by rw[tk_eq V hi];omega)
  obtain⟨v,b,hv⟩:=V.t.num i hi (by rw[tk_eq V hi];exact hk)
  rw[tk_eq V hi]at hv
  refine sw_step V P0 hi (by omega) (fun u' hu=> ?_)
  refine jq V P0 (i:=i) (by omega) (Nat.le_of_lt hi1) (by omega) (fun z hz=> ?_)
  refine sw_eq V P0 i (v,b) hi (by omega) hv (fun h=>by rw[(ht h).2.1];exact hv) ?_
  refine sw_ok hi1 (Nat.le_refl _) (hmk hi1 .no) (fun h=> ?_)
  rw[hz (by omega)]
  exact hmr h oR_no
 ·have hk2:(D.tk i).Kind=1:=by simpa using hk2
  have hi1:i+1<D.T.length:=ne_last V.t hi (by rw[tk_eq V hi];omega)
  refine sw_step V P0 hi (by omega) (fun u' hu=> ?_)
  unfold jc jb di dj
  refine oy V P0 hi1 (Nat.le_refl _) (fun _ hi2=>ji (fun h=>by cases h) (fun _=> ?_)) (fun _=>ji (fun _=> ?_) (fun h=>by cases h))
  ·refine ic V P0 (fun k=>k) (hR.2.2.2 d (i+1+1) hd (by omega) hi2) (fun k hk=>⟨by omega,Nat.le_refl _,Nat.zero_le _⟩) (fun k l l' hk hjk hl hlr=> ?_)
   have h2:=hl.sz
   refine jq V P0 (i:=i) (by omega) (Nat.le_of_lt hk) (by omega) (fun z hz=> ?_)
   refine sw_ok hk (Nat.le_refl _) (lr V.t hl (by omega) (Nat.le_refl _) (by omega) (Nat.le_of_lt hk) (by omega) (At2.yes hi (by omega) (by omega)) .no) (fun h=> ?_)
   rw[hz (by omega)]
   dsimp only
   rw[(ht (by omega)).2.1]
   exact ku (by omega) (by omega) (hlr (by omega)) (ht.o (by omega)) oR_no
  ·refine jq V P0 (i:=i) (by omega) (Nat.le_of_lt hi1) (by omega) (fun z hz=> ?_)
   refine sw_ok hi1 (Nat.le_refl _) (hmk hi1 (At2.yes hi (by omega) (by omega))) (fun h=> ?_)
   rw[hz (by omega)]
   dsimp only
   rw[(ht (by omega)).2.1]
   exact hmr h (ht.o (by omega))
 ·have hk3:(D.tk i).Kind=3:=by simpa using hk3
  have hi1:i+1<D.T.length:=ne_last V.t hi (by rw[tk_eq V hi];omega)
  refine sw_eq V P0 i _ hi (by omega) rfl (fun _=>rfl) ?_
  unfold ja
  refine sw_ite V P0 hi (by omega) (fun h=>by rw[(ht h).2.1]) (fun _=> ?_) (fun _=>hj2)
  refine sw_step V P0 hi (by omega) (fun u' hu=> ?_)
  by_cases hn:i<D.N
  ·rw[(ht hn).2.1]
   refine jq V P0 (i:=i) (by omega) (Nat.le_of_lt hi1) (by omega) (fun z hz=> ?_)
   refine sw_ok hi1 (Nat.le_refl _) (hmk hi1 .no) (fun h=> ?_)
   rw[hz (by omega)]
   exact hmr h oR_no
  ·refine om V P0 hi hn (by omega) (jq V P0 (i:=i) (l':=[]) (F':=fun x33=>some (.ok (x33,D.p' (i+1)))) (by omega) (Nat.le_of_lt hi1) (by omega) (fun z hz=> ?_))
   exact sw_ok hi1 (Nat.le_refl _) (hmk hi1 .no) (fun h=>by omega)
omit hR in
theorem specX :∀f:Nat,SpecX D (cq f) f
 | 0=>⟨fun _ _ _ _ _ h=>absurd h (by omega),fun _ _ _ h=>absurd h (by omega),fun _ _ _ h=>absurd h (by omega),fun _ _ _ h=>absurd h (by omega)⟩
 |f+1=>⟨fun d l i h1 h2 h3 h4=>expr_ok V (specX f) h1 h2 h3 h4,fun d i h1 h2 h3=>unary_ok V (specX f) h1 h2 h3,fun d i h1 h2 h3=>primary_ok V (specX f) h1 h2 h3,fun d i h1 h2 h3=>args_ok V (specX f) h1 h2 h3⟩
omit hR in
theorem pw {d i:Nat} (hd:d<=100) (hi:i<D.T.length):XS D i (dg (d:Int) 0 (D.p i)) (dg (d:Int) 0 (D.p' i)):=
 (specX V 1048576).1 d 0 i hd (by omega) (by omega) hi
end
end Go.Proofs.YteablckbgpogiaaGreatDoor
set_option linter.unusedSectionVars false
set_option linter.unusedVariables false
set_option linter.unusedSimpArgs false
set_option maxHeartbeats 4000000
namespace Go.Proofs.YteablckbgpogiaaGreatDoor
open Go Go.Cn
theorem ahead_lt {x:List UInt8} {T:List ApiToken} (hT:TokP x T) {i:Nat} (h:i+1<T.length):lm ⟨T,(i:Int)⟩ 1=some T[i+1]:=by
 have hl:=hT.len
 have e1:w64 ((T.length:Int) - 1)=((T.length - 1:Nat):Int):=by rw[gt (by omega) (by omega)];omega
 unfold lm lq
 simp only[e1,bh (show i<=9000000000 by omega)]
 rw[if_neg (by omega),ix hT h,Option.bind_some]
def locB (t u:ApiToken):Bool:=isTy t&&(t.Kind != 1||u.Kind==1)
theorem isLocal_lt {x:List UInt8} {T:List ApiToken} (hT:TokP x T) {i:Nat} (h:i+1<T.length):ei ⟨T,(i:Int)⟩=some (locB (T.getD i bo) (T.getD (i+1) bo)):=by
 have e1:T.getD i bo=T[i]:=by simp[List.getD,show i<T.length by omega]
 have e2:T.getD (i+1) bo=T[i+1]:=by simp[List.getD,h]
 unfold ei fm locB
 rw[now_eq hT (by omega),Option.bind_some,isType_eq,Option.bind_some,ahead_lt hT h,e1,e2]
 cases isTy T[i]<;>cases T[i].Kind != 1<;>rfl
theorem isLocal_no {x:List UInt8} {T:List ApiToken} (hT:TokP x T) {i:Nat} (h:i<T.length) (hy:isTy (T.getD i bo)=false):ei ⟨T,(i:Int)⟩=some false:=by
 have e1:T.getD i bo=T[i]:=by simp[List.getD,h]
 unfold ei fm
 rw[e1]at hy
 rw[now_eq hT h,Option.bind_some,isType_eq,Option.bind_some,hy]
 rfl
section
variable {D:Dt} (V:Two D)
include V
theorem sw_to {s:Nat} {Ω:Type} {W:Nat->Ω->(Ω->Prop)->Prop} {bad:ParseWrong->Ω} (P:Pst D s W bad) {b i:Nat} {y y1 y2:Option Ω} (hi:i<D.T.length) (hb:i+s<=b) (he:i<D.N->y2=y1) (h:SW W b y y1):SW W b y y2:=by
 by_cases hn:i<D.N
 ·rw[he hn]
  exact h
 ·exact om V P hi hn hb h
theorem sw_local {s:Nat} {Ω:Type} {W:Nat->Ω->(Ω->Prop)->Prop} {bad:ParseWrong->Ω} (P:Pst D s W bad) {b i:Nat} {F F':Bool->Option Ω} (hi:i<D.T.length) (hb:i+1+s<=b) (h:∀v,SW W b (F v) (F' v)):SW W b ((ei (D.p i)).bind F) ((ei (D.p' i)).bind F'):=by
 by_cases hlt:i+1<D.T.length
 ·refine sw_eq V P (i+1) _ hlt hb (isLocal_lt V.t hlt) (fun hn=> ?_) (h _)
  obtain⟨h1,k1,k2,_⟩:=ag_eq V (i:=i) (by omega)
  obtain⟨h2,l1,l2,_⟩:=ag_eq V (i:=i+1) hn
  have h3:i+D.k+1<D.T'.length:=by omega
  have e0:=isLocal_lt V.t' h3
  have a1:=V.ag i (by omega)
  have a2:=V.ag (i+1) hn
  rw[show i+1+D.k=i+D.k+1 by omega]at a2
  simp only[Dt.p']
  rw[e0]
  unfold locB
  rw[a1.1,a2.1]
  have e3:isTy (D.T'.getD (i+D.k) bo)=isTy (D.tk i):=isTy_ag V (i:=i) (fun _=>⟨a1.1,a1.2,rfl⟩) (by omega)
  rw[e3]
 ·have hk:D.T[i].Kind=5:=(V.t.last i hi).2 (by omega)
  have hy:isTy (D.tk i)=false:=by
   cases hc:isTy (D.tk i)
   ·rfl
   ·exact absurd (isTy_lt V.t hi (by rw[tk_eq V hi];exact hc)) hlt
  refine sw_eq V P i false hi (by omega) (isLocal_no V.t hi hy) (fun hn=> ?_) (h _)
  obtain⟨h1,_⟩:=ag_eq V hn
  have a1:=V.ag i hn
  refine isLocal_no V.t' h1 ?_
  rw[isTy_ag V (i:=i) (fun _=>⟨a1.1,a1.2,rfl⟩) hn]
  exact hy
theorem bracketed_ok {d i:Nat} (hd:d<=100) (hi:i<D.T.length):XS D i (dy (d:Int) (D.p i)) (dy (d:Int) (D.p' i)):=by
 unfold dy XS
 have P0:=pFin V (s:=0) (fun n j=>NG D.x D.T n i j) (NR D)
 refine ks V P0 hi (by omega) (fun _ hi1=> ?_)
 refine ic V P0 (fun j=>j) (pw V hd hi1) (fun j hj=>⟨by omega,Nat.le_refl _,Nat.zero_le _⟩) (fun j n n' hj hb hn hr=> ?_)
 refine ks V P0 hj (Nat.le_refl _) (fun _ hj1=> ?_)
 exact sw_ok hj1 (by omega) (NG.widen V.t hn (by omega) (by omega) (Nat.le_of_lt hj1)) (fun h=>hr (by omega))
theorem local_ok {d i:Nat} (hd:d<=99) (hi:i<D.T.length):XS D i (i9 (d:Int) (D.p i)) (i9 (d:Int) (D.p' i)):=by
 unfold i9 gh di dj f1 fh XS
 have P0:=pFin V (s:=0) (fun n j=>NG D.x D.T n i j) (NR D)
 refine sw_limit V P0 hi (fun _=> ?_)
 refine sw_value V P0 hi (by omega) (fun hi1 ty' hty=> ?_)
 refine sw_name V P0 hi1 (Nat.le_refl _) (fun _ hi2 nm' hnm=> ?_)
 refine sw_up V P0 (b':=i+1+1) ?_
 refine ks V P0 hi2 (Nat.le_refl _) (fun _ hi3=> ?_)
 rw[bh (by omega)]
 refine ic V P0 (fun j=>j) (pw V (d:=d+1) (by omega) hi3) (fun j hj=>⟨by omega,Nat.le_refl _,Nat.zero_le _⟩) (fun j n n' hj hb hn hr=> ?_)
 have h2:=hn.lt
 have h3:qd n<=j - (i+1+1+1):=hn.sz
 refine ks V P0 hj (Nat.le_refl _) (fun _ hj1=> ?_)
 refine jq V P0 (i:=i) (by omega) (Nat.le_of_lt hj1) (by omega) (fun z hz=> ?_)
 refine sw_ok hj1 (by omega) (lr V.t (LG.one V.t hn (Nat.le_of_lt hj)) (by omega) (by omega) (by omega) (Nat.le_of_lt hj1) (by simp only[ee];omega) (At2.yes hi1 (by omega) (by omega)) (At2.yes hi (by omega) (by omega))) (fun h=> ?_)
 rw[hz (by omega)]
 dsimp only
 rw[(hnm (by omega)).2.1,(hty (by omega)).2.1]
 exact ku (by omega) (by omega) (LR.one (hr (by omega))) (hnm.o (by omega)) (hty.o (by omega))
theorem back_ok {d i:Nat} (hd:d<=99) (hi:i<D.T.length):XS D i (ip (d:Int) (D.p i)) (ip (d:Int) (D.p' i)):=by
 unfold ip XS
 have P0:=pFin V (s:=0) (fun n j=>NG D.x D.T n i j) (NR D)
 refine ks V P0 hi (by omega) (fun _ hi1=> ?_)
 refine oy V P0 hi1 (Nat.le_refl _) (fun _ hi2=>ji (fun _=> ?_) (fun h=>by cases h)) (fun _=>ji (fun h=>by cases h) (fun _=> ?_))
 ·refine jq V P0 (i:=i) (by omega) (Nat.le_of_lt hi2) (by omega) (fun z hz=> ?_)
  refine sw_ok hi2 (by omega) (lr V.t (LG.nil D.x D.T i) (Nat.le_refl _) (by omega) (by omega) (Nat.le_of_lt hi2) (by simp only[ee];omega) .no .no) (fun h=> ?_)
  rw[hz (by omega)]
  exact ku (by omega) (by omega) LR.nil oR_no oR_no
 ·rw[bh (by omega)]
  refine ic V P0 (fun j=>j) (pw V (d:=d+1) (by omega) hi1) (fun j hj=>⟨by omega,Nat.le_refl _,Nat.zero_le _⟩) (fun j n n' hj hb hn hr=> ?_)
  have h2:=hn.lt
  have h3:qd n<=j - (i+1):=hn.sz
  refine ks V P0 hj (Nat.le_refl _) (fun _ hj1=> ?_)
  refine jq V P0 (i:=i) (by omega) (Nat.le_of_lt hj1) (by omega) (fun z hz=> ?_)
  refine sw_ok hj1 (by omega) (lr V.t (LG.one V.t hn (Nat.le_of_lt hj)) (by omega) (by omega) (by omega) (Nat.le_of_lt hj1) (by simp only[ee];omega) .no .no) (fun h=> ?_)
  rw[hz (by omega)]
  exact ku (by omega) (by omega) (LR.one (hr (by omega))) oR_no oR_no
theorem show_ok {d i:Nat} (hd:d<=99) (hi:i<D.T.length):XS D i (io (d:Int) (D.p i)) (io (d:Int) (D.p' i)):=by
 unfold io XS
 have P0:=pFin V (s:=0) (fun n j=>NG D.x D.T n i j) (NR D)
 refine ks V P0 hi (by omega) (fun _ hi1=> ?_)
 rw[bh (by omega)]
 refine ic V P0 (fun j=>j) (bracketed_ok V (d:=d+1) (by omega) hi1) (fun j hj=>⟨by omega,Nat.le_refl _,Nat.zero_le _⟩) (fun j n n' hj hb hn hr=> ?_)
 have h2:=hn.lt
 have h3:qd n<=j - (i+1):=hn.sz
 refine ks V P0 hj (Nat.le_refl _) (fun _ hj1=> ?_)
 refine jq V P0 (i:=i) (by omega) (Nat.le_of_lt hj1) (by omega) (fun z hz=> ?_)
 refine sw_ok hj1 (by omega) (lr V.t (LG.one V.t hn (Nat.le_of_lt hj)) (by omega) (by omega) (by omega) (Nat.le_of_lt hj1) (by simp only[ee];omega) .no .no) (fun h=> ?_)
 rw[hz (by omega)]
 exact ku (by omega) (by omega) (LR.one (hr (by omega))) oR_no oR_no
theorem plain_ok {d i:Nat} (hd:d<=99) (hi:i<D.T.length):XS D i (gw (d:Int) (D.p i)) (gw (d:Int) (D.p' i)):=by
 unfold gw iu XS
 have P0:=pFin V (s:=0) (fun n j=>NG D.x D.T n i j) (NR D)
 rw[bh (by omega)]
 have hend:∀{k:Int} {j:Nat} {l l':List ApiNode},j<D.T.length->i<j->LG D.x D.T l i j->ee l+1<=j+1 - i->(j<D.N->LR D l l')->SW (Fin' D 0 (fun n j=>NG D.x D.T n i j) (NR D)) j (cp (bc ([59]:List UInt8) (D.p j)) (fun m22=>some (PX.bad m22)) fun x20=>(parse_parser_made x20 k (i:Int) l).bind fun x21=>some (.ok (x21,x20))) (cp (bc ([59]:List UInt8) (D.p' j)) (fun m22=>some (PX.bad m22)) fun x20=>(parse_parser_made x20 k ((i+D.k:Nat):Int) l').bind fun x21=>some (.ok (x21,x20))):=fun {k j l l'} hj hij hl hs hr=>by
  refine ks V P0 hj (Nat.le_refl _) (fun _ hj1=> ?_)
  refine jq V P0 (i:=i) (by omega) (Nat.le_of_lt hj1) (by omega) (fun z hz=> ?_)
  refine sw_ok hj1 (by omega) (lr V.t hl (Nat.le_refl _) (by omega) (by omega) (Nat.le_of_lt hj1) hs .no .no) (fun h=> ?_)
  rw[hz (by omega)]
  exact ku (by omega) (by omega) (hr (by omega)) oR_no oR_no
 refine ic V P0 (fun j=>j) (pw V (d:=d+1) (by omega) hi) (fun j hj=>⟨by omega,Nat.le_refl _,Nat.zero_le _⟩) (fun j n n' hj hb hn hr=> ?_)
 have h2:=hn.lt
 have h3:qd n<=j - i:=hn.sz
 refine oy V P0 hj (Nat.le_refl _) (fun _ hj1=>ji (fun _=> ?_) (fun h=>by cases h)) (fun _=>ji (fun h=>by cases h) (fun _=> ?_))
 ·refine ic V P0 (fun j=>j) (pw V (d:=d+1) (by omega) hj1) (fun j hj=>⟨by omega,Nat.le_refl _,Nat.zero_le _⟩) (fun k m m' hk hbk hm hmr=> ?_)
  have h4:=hm.lt
  have h5:qd m<=k - (j+1):=hm.sz
  refine sw_app V P0 k hk (Nat.le_refl _) (by simp) (fun _=>⟨rfl,rfl⟩) ?_
  have hl2:=LG.snoc V.t (LG.one V.t hn (Nat.le_of_lt hj)) hm (by omega) (Nat.le_of_lt hk)
  exact hend hk (by omega) hl2 (by simp only[List.cons_append,List.nil_append,ee];omega) (fun h=>LR.two (hr (by omega)) (hmr (by omega)))
 ·exact hend hj (by omega) (LG.one V.t hn (Nat.le_of_lt hj)) (by simp only[ee];omega) (fun h=>LR.one (hr (by omega)))
end
def XB (D:Dt) (i:Nat) (y y':Option (PX ParseWrong (ApiNode × ParseParser))):Prop:=SW (Fin' D 1 (fun n j=>NG D.x D.T n i j) (NR D)) (i+1) y y'
def SpecS (D:Dt) (R:ay) (f:Nat):Prop:=
 (∀d i:Nat,d<=98->2 * (100 - d)<f->i<D.T.length->XB D i (R.1 (d:Int) (D.p i)) (R.1 (d:Int) (D.p' i)))/\
 (∀d i:Nat,d<=100->2 * (100 - d)+1<f->i<D.T.length->XS D i (R.2.1 (d:Int) (D.p i)) (R.2.1 (d:Int) (D.p' i)))/\
 (∀d i:Nat,d<=98->2 * (100 - d)<f->i<D.T.length->XS D i (R.2.2.1 (d:Int) (D.p i)) (R.2.2.1 (d:Int) (D.p' i)))/\
 (∀d i:Nat,d<=98->2 * (100 - d)<f->i<D.T.length->XS D i (R.2.2.2 (d:Int) (D.p i)) (R.2.2.2 (d:Int) (D.p' i)))
theorem stmt_tok {R:ay} {t t':ApiToken} (h1:t'.Kind=t.Kind) (h2:t'.Text=t.Text) (d:Int) (p:ParseParser) (m:SMap (Option Nat)):eb R t' d p m=eb R t d p m:=by
 unfold eb er
 rw[h1,h2]
theorem begun_get {t:List UInt8}:mhas t (mset ([112,114,105,110,116]:List UInt8) (some 155) (mset ([114,101,116,117,114,110]:List UInt8) (some 154) (mset ([119,104,105,108,101]:List UInt8) (some 153) (mset ([105,102]:List UInt8) (some 152) (mset ([123]:List UInt8) (some 93) ([]:SMap (Option Nat)))))))=true->mget t none (mset ([112,114,105,110,116]:List UInt8) (some 155) (mset ([114,101,116,117,114,110]:List UInt8) (some 154) (mset ([119,104,105,108,101]:List UInt8) (some 153) (mset ([105,102]:List UInt8) (some 152) (mset ([123]:List UInt8) (some 93) ([]:SMap (Option Nat)))))))∈([some 93,some 152,some 153,some 154,some 155]:List (Option Nat)):=by
 have e:(mset ([112,114,105,110,116]:List UInt8) (some 155) (mset ([114,101,116,117,114,110]:List UInt8) (some 154) (mset ([119,104,105,108,101]:List UInt8) (some 153) (mset ([105,102]:List UInt8) (some 152) (mset ([123]:List UInt8) (some 93) ([]:SMap (Option Nat)))))))=[([123],some 93),([105,102],some 152),([119,104,105,108,101],some 153),([114,101,116,117,114,110],some 154),([112,114,105,110,116],some 155)]:=rfl
 rw[e]
 simp only[mhas,mget]
 intro h
 split
 ·simp
 split
 ·simp
 split
 ·simp
 split
 ·simp
 split
 ·simp
 ·simp_all
section
variable {D:Dt} (V:Two D)
include V
variable {R:ay} {f:Nat} (hR:SpecS D R f)
include hR
theorem block_step {d i:Nat} (hd:d<=98) (hf:2 * (100 - d)<f+1) (hi:i<D.T.length):XB D i (f0 R (d:Int) (D.p i)) (f0 R (d:Int) (D.p' i)):=by
 unfold f0 jy XB
 have hlen:=V.t.len
 have P0:=pFin V (s:=1) (fun n j=>NG D.x D.T n i j) (NR D)
 refine ks V P0 hi (Nat.le_refl _) (fun _ hi1=> ?_)
 refine sw_flow V (s:=1) (I:=fun l j=>LG D.x D.T l (i+1) j) (J:=LR D) (by omega) ?_ (by omega) (fun j l l' hj hbj hl hr=> ?_) (fun _=>rfl) (fun _=>rfl)
 ·have P1:=pFinF V (s:=1) (fun l j=>LG D.x D.T l (i+1) j) (LR D) (fun n j=>NG D.x D.T n i j) (NR D)
  refine sw_iter V P1 (I:=fun l j=>LG D.x D.T l (i+1) j) (J:=LR D) hi1 (LG.nil D.x D.T (i+1)) (fun _=>LR.nil) (by omega) (fun j l l' hij hj hl hr=> ?_)
  have P:=pFinS V (s:=1) (fun l j=>LG D.x D.T l (i+1) j) (LR D) P1 j
  unfold iz
  refine oy V P hj (Nat.le_refl _) (fun _ hj1=>ji (fun h=>by cases h) (fun _=> ?_)) (fun _=>ji (fun _=> ?_) (fun h=>by cases h))
  ·exact sw_next hj1 (Nat.le_refl _) (LG.widen V.t hl (Nat.le_refl _) (by omega) (Nat.le_of_lt hj1)) (fun h=>hr (by omega))
  ·refine sw_up V P (b':=j+2) ?_
   refine sw_local V P hj (Nat.le_refl _) (fun v=> ?_)
   have hgo:∀{k:Nat} {n n':ApiNode},k<D.T.length->j+1<=k->NG D.x D.T n j k->(k<D.N+0->NR D n n')->SW (FinS D 1 (fun l j=>LG D.x D.T l (i+1) j) (LR D) (FinF D 1 (fun l j=>LG D.x D.T l (i+1) j) (LR D) (fun n j=>NG D.x D.T n i j) (NR D)) j) (k+1) ((app 104 l [n]).bind fun x19=>some (.inl (D.p k,x19))) ((app 104 l' [n']).bind fun x19=>some (.inl (D.p' k,x19))):=fun {k n n'} hk hjk hn hnr=>by
    have hl2:=LG.snoc V.t hl hn (Nat.le_refl _) (Nat.le_of_lt hk)
    have h3:=hl2.sz
    have h4:=fu (l++[n])
    refine sw_app V P k hk (Nat.le_refl _) (by simp at h4 ⊢;omega) (fun h=>⟨(hr (by omega)).len,rfl⟩) ?_
    exact sw_inl hk (by omega) (Nat.le_refl _) hl2 (fun h=>LR.append (hr (by omega)) (LR.one (hnr (by omega))))
   rw[bh (by omega)]
   refine ji (fun _=> ?_) (fun _=> ?_)
   ·exact ic V P (fun k=>k+1) (local_ok V (d:=d+1) (by omega) hj) (fun k hk=>⟨by omega,by omega,Nat.zero_le _⟩) (fun k n n' hk hjk hn hnr=>hgo hk hjk hn hnr)
   ·exact ic V P (fun k=>k+1) (hR.2.1 (d+1) j (by omega) (by omega) hj) (fun k hk=>⟨by omega,by omega,Nat.zero_le _⟩) (fun k n n' hk hjk hn hnr=>hgo hk hjk hn hnr)
 ·have h2:=hl.sz
  refine jq V P0 (i:=i) (by omega) (Nat.le_of_lt hj) (by omega) (fun z hz=> ?_)
  refine sw_ok hj (Nat.le_refl _) (lr V.t hl (by omega) (Nat.le_refl _) (by omega) (Nat.le_of_lt hj) (by omega) .no .no) (fun h=> ?_)
  rw[hz (by omega)]
  exact ku (by omega) (by omega) (hr h) oR_no oR_no
theorem branch_step {d i:Nat} (hd:d<=98) (hf:2 * (100 - d)<f+1) (hi:i<D.T.length):XS D i (fj R (d:Int) (D.p i)) (fj R (d:Int) (D.p' i)):=by
 unfold fj ia XS
 have P0:=pFin V (s:=0) (fun n j=>NG D.x D.T n i j) (NR D)
 refine ks V P0 hi (by omega) (fun _ hi1=> ?_)
 rw[bh (by omega)]
 refine ic V P0 (fun j=>j) (bracketed_ok V (d:=d+1) (by omega) hi1) (fun j hj=>⟨by omega,Nat.le_refl _,Nat.zero_le _⟩) (fun j n n' hj hb hn hr=> ?_)
 refine ic V P0 (fun j=>j) (hR.2.1 (d+1) j (by omega) (by omega) hj) (fun j hj=>⟨by omega,Nat.le_refl _,Nat.zero_le _⟩) (fun k m m' hk hbk hm hmr=> ?_)
 have h1:=hn.lt
 have h2:=hm.lt
 have h3:qd n<=j - (i+1):=hn.sz
 have h4:qd m<=k - j:=hm.sz
 have hl2:=LG.snoc V.t (LG.one V.t hn (Nat.le_of_lt hj)) hm (Nat.le_refl _) (Nat.le_of_lt hk)
 refine sw_app V P0 k hk (Nat.le_refl _) (by simp) (fun _=>⟨rfl,rfl⟩) ?_
 refine oy V P0 hk (Nat.le_refl _) (fun _ hk1=>ji (fun _=> ?_) (fun h=>by cases h)) (fun _=>ji (fun h=>by cases h) (fun _=> ?_))
 ·refine ic V P0 (fun j=>j) (hR.2.1 (d+1) (k+1) (by omega) (by omega) hk1) (fun j hj=>⟨by omega,Nat.le_refl _,Nat.zero_le _⟩) (fun q u u' hq hbq hu hur=> ?_)
  have h5:=hu.lt
  have h6:qd u<=q - (k+1):=hu.sz
  have hl3:=LG.snoc V.t hl2 hu (by omega) (Nat.le_of_lt hq)
  refine sw_app V P0 q hq (Nat.le_refl _) (by simp) (fun _=>⟨rfl,rfl⟩) ?_
  refine jq V P0 (i:=i) (by omega) (Nat.le_of_lt hq) (by omega) (fun z hz=> ?_)
  refine sw_ok hq (Nat.le_refl _) (lr V.t hl3 (by omega) (Nat.le_refl _) (by omega) (Nat.le_of_lt hq) (by simp only[List.cons_append,List.nil_append,ee];omega) .no .no) (fun h=> ?_)
  rw[hz (by omega)]
  exact ku (by omega) (by omega) (LR.append (LR.two (hr (by omega)) (hmr (by omega))) (LR.one (hur (by omega)))) oR_no oR_no
 ·refine jq V P0 (i:=i) (by omega) (Nat.le_of_lt hk) (by omega) (fun z hz=> ?_)
  refine sw_ok hk (Nat.le_refl _) (lr V.t hl2 (by omega) (Nat.le_refl _) (by omega) (Nat.le_of_lt hk) (by simp only[List.cons_append,List.nil_append,ee];omega) .no .no) (fun h=> ?_)
  rw[hz (by omega)]
  exact ku (by omega) (by omega) (LR.two (hr (by omega)) (hmr (by omega))) oR_no oR_no
theorem loop_step {d i:Nat} (hd:d<=98) (hf:2 * (100 - d)<f+1) (hi:i<D.T.length):XS D i (ge R (d:Int) (D.p i)) (ge R (d:Int) (D.p' i)):=by
 unfold ge XS
 have P0:=pFin V (s:=0) (fun n j=>NG D.x D.T n i j) (NR D)
 refine ks V P0 hi (by omega) (fun _ hi1=> ?_)
 rw[bh (by omega)]
 refine ic V P0 (fun j=>j) (bracketed_ok V (d:=d+1) (by omega) hi1) (fun j hj=>⟨by omega,Nat.le_refl _,Nat.zero_le _⟩) (fun j n n' hj hb hn hr=> ?_)
 refine ic V P0 (fun j=>j) (hR.2.1 (d+1) j (by omega) (by omega) hj) (fun j hj=>⟨by omega,Nat.le_refl _,Nat.zero_le _⟩) (fun k m m' hk hbk hm hmr=> ?_)
 have h1:=hn.lt
 have h2:=hm.lt
 have h3:qd n<=j - (i+1):=hn.sz
 have h4:qd m<=k - j:=hm.sz
 have hl2:=LG.snoc V.t (LG.one V.t hn (Nat.le_of_lt hj)) hm (Nat.le_refl _) (Nat.le_of_lt hk)
 refine jq V P0 (i:=i) (by omega) (Nat.le_of_lt hk) (by omega) (fun z hz=> ?_)
 refine sw_ok hk (Nat.le_refl _) (lr V.t hl2 (by omega) (Nat.le_refl _) (by omega) (Nat.le_of_lt hk) (by simp only[List.cons_append,List.nil_append,ee];omega) .no .no) (fun h=> ?_)
 rw[hz (by omega)]
 exact ku (by omega) (by omega) (LR.two (hr (by omega)) (hmr (by omega))) oR_no oR_no
theorem statement_step {d i:Nat} (hd:d<=100) (hf:2 * (100 - d)+1<f+1) (hi:i<D.T.length):XS D i (eg R (d:Int) (D.p i)) (eg R (d:Int) (D.p' i)):=by
 unfold eg XS
 have P0:=pFin V (s:=0) (fun n j=>NG D.x D.T n i j) (NR D)
 refine sw_limit V P0 hi (fun hd60=> ?_)
 have hd60:d<=60:=by omega
 refine sw_now V P0 hi (by omega) (fun t' ht=> ?_)
 refine sw_eq V P0 i _ hi (by omega) rfl (fun _=>rfl) ?_
 refine sw_to V P0 hi (by omega) (fun h=>stmt_tok (ht h).1 (ht h).2.1 _ _ _) ?_
 have hpass:∀{y y':Option (PX ParseWrong (ApiNode × ParseParser))},XS D i y y'->SW (Fin' D 0 (fun n j=>NG D.x D.T n i j) (NR D)) (i+1) (cp y (fun m=>some (.bad m)) fun(a,b)=>some (.ok (a,b))) (cp y' (fun m=>some (.bad m)) fun(a,b)=>some (.ok (a,b))):=fun h=>
  ic V P0 (fun j=>j) h (fun j hj=>⟨by omega,Nat.le_refl _,Nat.zero_le _⟩) (fun j n n' hj hb hn hr=>sw_ok hj (Nat.le_refl _) hn hr)
 have hplain:=hpass (plain_ok V (d:=d) (by omega) hi)
 unfold eb er
 refine ji (fun hm=>ji (fun _=> ?_) (fun _=>hplain)) (fun _=>ji (fun h=>by cases h) (fun _=>hplain))
 have hmem:=begun_get hm
 revert hmem
 generalize mget (D.tk i).Text none _=g
 intro hmem
 simp only[List.mem_cons,List.not_mem_nil,or_false]at hmem
 rcases hmem with rfl|rfl|rfl|rfl|rfl
 ·refine ic V P0 (fun j=>j) (hR.1 d i (by omega) (by omega) hi) (fun j hj=>⟨by omega,by omega,by omega⟩) (fun j n n' hj hb hn hr=>sw_ok hj (Nat.le_refl _) hn (fun h=>hr (by omega)))
 ·exact hpass (hR.2.2.1 d i (by omega) (by omega) hi)
 ·exact hpass (hR.2.2.2 d i (by omega) (by omega) hi)
 ·exact hpass (back_ok V (d:=d) (by omega) hi)
 ·exact hpass (show_ok V (d:=d) (by omega) hi)
omit hR in
theorem specS :∀f:Nat,SpecS D (d9 f) f
 | 0=>⟨fun _ _ _ h=>absurd h (by omega),fun _ _ _ h=>absurd h (by omega),fun _ _ _ h=>absurd h (by omega),fun _ _ _ h=>absurd h (by omega)⟩
 |f+1=>⟨fun d i h1 h2 h3=>block_step V (specS f) h1 h2 h3,fun d i h1 h2 h3=>statement_step V (specS f) h1 h2 h3,fun d i h1 h2 h3=>branch_step V (specS f) h1 h2 h3,fun d i h1 h2 h3=>loop_step V (specS f) h1 h2 h3⟩
omit hR in
theorem block_ok {d i:Nat} (hd:d<=98) (hi:i<D.T.length):XB D i (ow (d:Int) (D.p i)) (ow (d:Int) (D.p' i)):=(specS V 1048576).1 d i hd (by omega) hi
end
end Go.Proofs.YteablckbgpogiaaGreatDoor
set_option linter.unusedSectionVars false
set_option linter.unusedVariables false
set_option linter.unusedSimpArgs false
set_option maxHeartbeats 4000000
namespace Go.Proofs.YteablckbgpogiaaGreatDoor
open Go Go.Cn
section
variable {D:Dt} (V:Two D)
include V
theorem params_ok {i:Nat} (hi:i<D.T.length):LS D i (gc (D.p i)) (gc (D.p' i)):=by
 unfold gc LS
 have P0:=pFin V (s:=0) (fun l j=>LG D.x D.T l i j) (LR D)
 refine oy V P0 hi (Nat.le_refl _) (fun _ hi1=> ?_) (fun _=> ?_)
 ·exact ji (fun _=>sw_ok hi1 (by omega) (LG.widen V.t (LG.nil D.x D.T i) (Nat.le_refl _) (by omega) (by omega)) (fun _=>LR.nil)) (fun h=>by cases h)
 refine ji (fun h=>by cases h) (fun _=> ?_)
 refine sw_iter V P0 (I:=fun l j=>LG D.x D.T l i j) (J:=LR D) hi (LG.nil D.x D.T i) (fun _=>LR.nil) (by omega) (fun j l l' _ hj hl hr=> ?_)
 have P:=pFinS V (s:=0) (fun l j=>LG D.x D.T l i j) (LR D) P0 j
 have h1:=hl.le
 unfold gy jh di dj f1 fh
 refine sw_value V P hj (Nat.le_refl _) (fun hj1 ty' hty=> ?_)
 refine sw_up V P (b':=j+1) ?_
 refine sw_name V P hj1 (Nat.le_refl _) (fun _ hj2 nm' hnm=> ?_)
 refine sw_up V P (b':=j+1+1) ?_
 refine jq V P (i:=j) (by omega) (Nat.le_of_lt hj2) (by omega) (fun z hz=> ?_)
 have hn:NG D.x D.T ⟨4,(D.tk (j+1)).Text,(D.tk j).Text,0,aT D.T j,eT D.T (j+1+1),(D.tk (j+1)).At,(D.tk j).At,[]⟩ j (j+1+1):=lr V.t (LG.nil D.x D.T j) (Nat.le_refl _) (by omega) (by omega) (Nat.le_of_lt hj2) (by simp only[ee];omega) (At2.yes hj1 (by omega) (by omega)) (At2.yes hj (by omega) (by omega))
 have hl2:=LG.snoc V.t hl hn (Nat.le_refl _) (Nat.le_of_lt hj2)
 have h3:=hl2.sz
 have h4:=fu (l++[(⟨4,(D.tk (j+1)).Text,(D.tk j).Text,0,aT D.T j,eT D.T (j+1+1),(D.tk (j+1)).At,(D.tk j).At,[]⟩:ApiNode)])
 have hlen:=V.t.len
 refine sw_app V P (j+1+1) hj2 (Nat.le_refl _) (by simp only[List.length_append,List.length_cons,List.length_nil]at h4 ⊢;omega) (fun hkn=>⟨(hr (by omega)).len,rfl⟩) ?_
 have hrel:j+1+1<D.N->LR D (l++[(⟨4,(D.tk (j+1)).Text,(D.tk j).Text,0,aT D.T j,eT D.T (j+1+1),(D.tk (j+1)).At,(D.tk j).At,[]⟩:ApiNode)]) (l'++[({({z with Text:=nm'.Text,At:=nm'.At}:ApiNode)with Type_:=ty'.Text,TypeAt:=ty'.At}:ApiNode)]):=fun h=>by
  refine LR.append (hr (by omega)) (LR.one ?_)
  rw[hz (by omega)]
  dsimp only
  rw[(hnm (by omega)).2.1,(hty (by omega)).2.1]
  exact ku (by omega) (by omega) LR.nil (hnm.o (by omega)) (hty.o (by omega))
 refine oy V P hj2 (Nat.le_refl _) (fun _ hk1=> ?_) (fun _=> ?_)
 ·refine ji (fun _=> ?_) (fun h=>by cases h)
  exact sw_inr_ok hk1 (by omega) (LG.widen V.t hl2 (Nat.le_refl _) (by omega) (by omega)) (fun h=>hrel (by omega))
 ·refine ji (fun h=>by cases h) (fun _=> ?_)
  refine ks V P hj2 (Nat.le_refl _) (fun _ hk1=> ?_)
  exact sw_inl hk1 (by omega) (by omega) (LG.widen V.t hl2 (Nat.le_refl _) (by omega) (by omega)) (fun h=>hrel (by omega))
theorem member_end {i q i0:Nat} {st:Bool} {kd:Int} {kids:List ApiNode} {z':ApiNode} {ty' nm':ApiToken} (hq:q<D.T.length) (h0:i<=i0) (hiq:i0+2<q+0) (hl:LG D.x D.T kids (i0+2) q) (hs:ee kids+1<=q - i) (hz:q<D.N+1->∃kids',z'=⟨kd,[],[],0,aT D.T' (i+D.k),eT D.T' (q+D.k), -1, -1,kids'⟩/\LR D kids kids') (hty:TR D i0 ty') (hnm:TR D (i0+1) nm'):SW (Fin' D 1 (fun n j=>NG D.x D.T n i j) (NR D)) q (c0 st (D.tk (i0+1)) (D.tk i0) (D.p q) ⟨kd,[],[],0,aT D.T i,eT D.T q, -1, -1,kids⟩) (c0 st nm' ty' (D.p' q) z'):=by
 unfold c0 f3 gz di dj f1 fh
 refine ji (fun _=> ?_) (fun _=> ?_)
 all_goals
  refine sw_ok hq (Nat.le_refl _) (lr V.t hl (by omega) (Nat.le_refl _) (by omega) (Nat.le_of_lt hq) hs (At2.yes (by omega) (by omega) (by omega)) (At2.yes (by omega) (by omega) (by omega))) (fun h=> ?_)
  obtain⟨kids',rfl,hk⟩:=hz h
  dsimp only
  rw[(hnm (by omega)).2.1,(hty (by omega)).2.1]
  exact ku (by omega) (by omega) hk (hnm.o (by omega)) (hty.o (by omega))
theorem member_j4_ok {i i0:Nat} {st:Bool} (h0:i<=i0) (hi:i0<D.T.length) (hty:isTy (D.tk i0)=true):SW (Fin' D 1 (fun n j=>NG D.x D.T n i j) (NR D)) (i0+1) (bl (D.p i) st (D.p i0)) (bl (D.p' i) st (D.p' i0)):=by
 have P0:=pFin V (s:=1) (fun n j=>NG D.x D.T n i j) (NR D)
 have hlen:=V.t.len
 have hi1:i0+1<D.T.length:=isTy_lt V.t hi (by rw[tk_eq V hi];exact hty)
 unfold bl
 refine sw_step V P0 hi (Nat.le_refl _) (fun ty' hty'=> ?_)
 refine sw_up V P0 (b':=i0+1+1) ?_
 refine sw_name V P0 hi1 (Nat.le_refl _) (fun _ hi2 nm' hnm=> ?_)
 refine sw_up V P0 (b':=i0+1+1+1) ?_
 refine oy V P0 hi2 (Nat.le_refl _) (fun _ hi3=>ji (fun _=> ?_) (fun h=>by cases h)) (fun _=>ji (fun h=>by cases h) (fun _=> ?_))
 ·refine ic V P0 (fun k=>k+1) (params_ok V hi3) (fun k hk=>⟨by omega,by omega,Nat.zero_le _⟩) (fun k l l' hk hbk hl hlr=> ?_)
  refine ic V P0 (fun k=>k) (block_ok V (d:=1) (by omega) hk) (fun k hk=>⟨by omega,by omega,by omega⟩) (fun q n n' hq hbq hn hnr=> ?_)
  have h1:=hn.lt
  have h3:qd n<=q - k:=hn.sz
  have h4:=hl.sz
  have h5:=fu l
  have hl2:=LG.snoc V.t hl hn (Nat.le_refl _) (Nat.le_of_lt hq)
  have h6:=hl2.sz
  refine sw_app V P0 (q - 1) (by omega) (by omega) (by simp;omega) (fun h=>⟨(hlr (by omega)).len,rfl⟩) ?_
  refine jq V P0 (i:=i) (by omega) (Nat.le_of_lt hq) (by omega) (fun z hz=> ?_)
  exact member_end V hq h0 (by omega) (LG.widen V.t hl2 (by omega) (Nat.le_refl _) (Nat.le_of_lt hq)) (by omega) (fun h=>⟨_,hz (by omega),LR.append (hlr (by omega)) (LR.one (hnr h))⟩) hty' hnm
 ·refine sw_eq V P0 i0 _ hi (by omega) (marks_eq _ _) (fun h=>by rw[marks_eq,isB_ag V hty' _ h]) ?_
  refine ji (fun _=>sw_fail V P0 (.inl rfl) hi2) (fun _=> ?_)
  refine ks V P0 hi2 (by omega) (fun _ hi3=> ?_)
  refine jq V P0 (i:=i) (by omega) (Nat.le_of_lt hi3) (by omega) (fun z hz=> ?_)
  exact member_end V hi3 h0 (by omega) (LG.widen V.t (LG.nil D.x D.T (i0+2)) (Nat.le_refl _) (by omega) (Nat.le_of_lt hi3)) (by simp only[ee];omega) (fun h=>⟨_,hz (by omega),LR.nil⟩) hty' hnm
theorem member_ok {i:Nat} (hi:i<D.T.length):XB D i (ef (D.p i)) (ef (D.p' i)):=by
 have P0:=pFin V (s:=1) (fun n j=>NG D.x D.T n i j) (NR D)
 have hgo:∀{i0:Nat} {st:Bool},i<=i0->i0<D.T.length->SW (Fin' D 1 (fun n j=>NG D.x D.T n i j) (NR D)) (i0+1) ((bi (D.p i0)).bind fun x6=>(jf x6).bind fun x7=>(if(!x7)=true then(cp (cj 120 (D.p i0)) (fun m10=>some (.bad m10)) fun x9=>bl (D.p i) st x9)else bl (D.p i) st (D.p i0))) ((bi (D.p' i0)).bind fun x6=>(jf x6).bind fun x7=>(if(!x7)=true then(cp (cj 120 (D.p' i0)) (fun m10=>some (.bad m10)) fun x9=>bl (D.p' i) st x9)else bl (D.p' i) st (D.p' i0))):=fun {i0 st} h0 hi0=>by
  refine sw_now V P0 hi0 (Nat.le_refl _) (fun t' ht=> ?_)
  refine sw_eq V P0 i0 _ hi0 (Nat.le_refl _) (isType_eq _) (fun h=>by rw[isType_eq,isTy_ag V ht h]) ?_
  refine ji (fun _=>sw_fail V P0 (.inl rfl) hi0) (fun hc=> ?_)
  exact member_j4_ok V h0 hi0 (by simpa using hc)
 unfold ef XB
 refine oy V P0 hi (Nat.le_refl _) (fun _ hi1=> ?_) (fun _=> ?_)
 ·refine sw_up V P0 (b':=i+1+1) ?_
  exact hgo (by omega) hi1
 ·exact hgo (Nat.le_refl _) hi
def QC (D:Dt) (i:Nat) (n:ApiNode) (j:Nat):Prop:=NG D.x D.T n i j/\n.Kind=1
theorem class_ok {i:Nat} (hi:i<D.T.length):SW (Fin' D 1 (QC D i) (NR D)) (i+1) (ed (D.p i)) (ed (D.p' i)):=by
 have P0:=pFin V (s:=1) (QC D i) (NR D)
 have hlen:=V.t.len
 have hj5:∀{i0:Nat} {ab:Bool} {nm' su su':ApiToken},i+1<i0->i0<D.T.length->TR D (i+1) nm'->(ab=true->i+3<i0/\su=D.tk (i+3)/\TR D (i+3) su')->SW (Fin' D 1 (QC D i) (NR D)) (i0+1) (dh (D.p i) (D.tk (i+1)) ab (D.p i0) su) (dh (D.p' i) nm' ab (D.p' i0) su'):=fun {i0 ab nm' su su'} h0 hi0 hnm hsu=>by
  unfold dh
  refine ks V P0 hi0 (Nat.le_refl _) (fun _ hi1=> ?_)
  refine sw_flow V (s:=1) (I:=fun l j=>LG D.x D.T l (i0+1) j) (J:=LR D) (by omega) ?_ (by omega) (fun j l l' hj hbj hl hr=> ?_) (fun _=>rfl) (fun _=>rfl)
  ·have P1:=pFinF V (s:=1) (fun l j=>LG D.x D.T l (i0+1) j) (LR D) (QC D i) (NR D)
   refine sw_iter V P1 (I:=fun l j=>LG D.x D.T l (i0+1) j) (J:=LR D) hi1 (LG.nil D.x D.T (i0+1)) (fun _=>LR.nil) (by omega) (fun j l l' hij hj hl hr=> ?_)
   have P:=pFinS V (s:=1) (fun l j=>LG D.x D.T l (i0+1) j) (LR D) P1 j
   unfold gi
   refine oy V P hj (Nat.le_refl _) (fun _ hj1=>ji (fun h=>by cases h) (fun _=> ?_)) (fun _=>ji (fun _=> ?_) (fun h=>by cases h))
   ·exact sw_next hj1 (Nat.le_refl _) (LG.widen V.t hl (Nat.le_refl _) (by omega) (Nat.le_of_lt hj1)) (fun h=>hr (by omega))
   ·refine ic V P (fun k=>k) (member_ok V hj) (fun k hk=>⟨by omega,by omega,by omega⟩) (fun k n n' hk hjk hn hnr=> ?_)
    have hl2:=LG.snoc V.t hl hn (Nat.le_refl _) (Nat.le_of_lt hk)
    have h3:=hl2.sz
    have h4:=fu (l++[n])
    refine sw_app V P (k - 1) (by omega) (by omega) (by simp at h4 ⊢;omega) (fun h=>⟨(hr (by omega)).len,rfl⟩) ?_
    exact sw_inl hk (by omega) (by omega) hl2 (fun h=>LR.append (hr (by omega)) (LR.one (hnr (by omega))))
  ·have h2:=hl.sz
   have hfin:∀{q:Nat} {ta ta':Int} {ty:List UInt8},At2 D.T i j ta ty->NG D.x D.T ⟨1,(D.tk (i+1)).Text,ty,0,aT D.T i,eT D.T j,(D.tk (i+1)).At,ta,l⟩ i j:=fun ht=>
    lr V.t hl (by omega) (Nat.le_refl _) (by omega) (Nat.le_of_lt hj) (by omega) (At2.yes (by omega) (by omega) (by omega)) ht
   unfold iw iy gk di dj f1 fh
   refine jq V P0 (i:=i) (by omega) (Nat.le_of_lt hj) (by omega) (fun z hz=> ?_)
   refine ji (fun hab=> ?_) (fun hab=> ?_)
   ·obtain⟨s1,rfl,s2⟩:=hsu hab
    refine sw_ok hj (Nat.le_refl _) ⟨hfin (q:=0) (ta':=0) (At2.yes (by omega) (by omega) (by omega)),rfl⟩ (fun h=> ?_)
    rw[hz (by omega)]
    dsimp only
    rw[(hnm (by omega)).2.1,(s2 (by omega)).2.1]
    exact ku (by omega) (by omega) (hr h) (hnm.o (by omega)) (s2.o (by omega))
   ·refine sw_ok hj (Nat.le_refl _) ⟨hfin (q:=0) (ta':=0) .no,rfl⟩ (fun h=> ?_)
    rw[hz (by omega)]
    dsimp only
    rw[(hnm (by omega)).2.1]
    exact ku (by omega) (by omega) (hr h) (hnm.o (by omega)) oR_no
 unfold ed
 refine ks V P0 hi (Nat.le_refl _) (fun _ hi1=> ?_)
 refine sw_up V P0 (b':=i+1+1) ?_
 refine sw_name V P0 hi1 (Nat.le_refl _) (fun _ hi2 nm' hnm=> ?_)
 refine sw_up V P0 (b':=i+1+1+1) ?_
 refine oy V P0 hi2 (Nat.le_refl _) (fun _ hi3=>ji (fun _=> ?_) (fun h=>by cases h)) (fun _=>ji (fun h=>by cases h) (fun _=> ?_))
 ·refine sw_up V P0 (b':=i+1+1+1+1) ?_
  refine sw_name V P0 hi3 (Nat.le_refl _) (fun _ hi4 su' hsu=> ?_)
  refine sw_up V P0 (b':=i+1+1+1+1+1) ?_
  exact hj5 (by omega) hi4 hnm (fun _=>⟨by omega,rfl,hsu⟩)
 ·exact hj5 (by omega) hi2 hnm (fun h=>by cases h)
end
end Go.Proofs.YteablckbgpogiaaGreatDoor
set_option linter.unusedSectionVars false
set_option linter.unusedVariables false
set_option linter.unusedSimpArgs false
set_option maxHeartbeats 4000000
namespace Go.Proofs.YteablckbgpogiaaGreatDoor
open Go Go.Cn
theorem tokL_num {s:List UInt8} {n:Nat} (h:tokL s=(2,n,0)) (hs:s.length<=60000):∃v b,fc (s.take n) 10 64=some (v,b):=by
 obtain⟨hn,hn2,_,_⟩:=mz h
 cases s with
 |nil=>cases h
 |cons c l=>
  rw[tokL_cons]at h
  by_cases hd:dt c.toNat=true
  ·rw[if_pos hd]at h
   split at h
   ·cases h
   ·have hr:runL dt (c::l)=n:=by injection h with _ h;injection h
    have hall:=runL_all dt (c::l)
    rw[hr]at hall
    obtain⟨n,rfl⟩:∃m,n=m+1:=⟨n - 1,by omega⟩
    rw[List.take_succ_cons]at hall ⊢
    obtain⟨v,b,hv,_⟩:=parseInt_eq c (l.take n) hall (by simp only[List.length_cons,List.length_take]at hs ⊢;omega)
    exact⟨v,b,hv⟩
  ·rw[if_neg hd]at h
   split at h
   ·split at h
    ·cases h
    ·split at h
     ·injection h with h _;exact absurd h (by decide)
     ·injection h with h _;exact absurd h (by decide)
   ·split at h
    ·cases h
    ·injection h with h _;exact absurd h (by decide)
structure TP (x:List UInt8) (a:Nat) (l:List ApiToken):Prop where
 pos:0<l.length
 len:l.length<=x.length - a+1
 last:∀i (h:i<l.length),l[i].Kind=5↔i+1=l.length
 place:∀i (h:i<l.length),∃b:Nat,l[i].At=(b:Int)/\a<=b/\b+l[i].Text.length<=x.length/\(x.drop b).take l[i].Text.length=l[i].Text
 mono:∀i (h:i+1<l.length),l[i].At+(l[i].Text.length:Int)<=l[i+1].At
 num:∀i (h:i<l.length),l[i].Kind=2->∃v b,fc l[i].Text 10 64=some (v,b)
theorem lexR_TP (x:List UInt8) (hx:x.length<=60000) {a:Nat} {s:List UInt8} {l:List ApiToken} {p e:Nat} (h:LexR a s l p e):e=0->a<=x.length->s=x.drop a->TP x a l:=by
 induction h with
 |note a s k hg=>intro h;cases h
 |fin a s hg=>
  rintro _ ha rfl
  have hl:(x.drop a).length=x.length - a:=List.length_drop
  refine⟨by simp,by simp,fun i h=> ?_,fun i h=> ?_,fun i h=> ?_,fun i h=> ?_⟩
  ·obtain rfl:i=0:=by simpa using h
   simp
  ·obtain rfl:i=0:=by simpa using h
   exact⟨_,rfl,by omega,by simp;omega,by simp⟩
  ·simp at h
  ·obtain rfl:i=0:=by simpa using h
   intro h;simp at h
 |bad a s k e hg hk ht he=>exact fun h=>absurd h he
 |tok a s k d n l hg hk ht _ ih=>
  rintro _ ha rfl
  obtain⟨hn,hn2,h0,h5⟩:=mz ht
  rw[List.length_drop]at hk
  rw[List.drop_drop,List.length_drop]at hn2
  have ih:=ih rfl (by omega) (by rw[List.drop_drop,Nat.add_assoc])
  have e1:(((x.drop a).drop k).take n).length=n:=by rw[List.length_take,List.drop_drop,List.length_drop];omega
  have hp:=ih.pos
  have hlen:=ih.len
  refine⟨by simp,by simp only[List.length_cons];omega,fun i h=> ?_,fun i h=> ?_,fun i h=> ?_,fun i h=> ?_⟩
  ·cases i with
   |zero=>
    simp only[List.getElem_cons_zero,List.length_cons]
    constructor
    ·intro h;omega
    ·intro h;omega
   |succ i=>
    simp only[List.getElem_cons_succ,List.length_cons]
    rw[ih.last i (by simpa using h)]
    omega
  ·cases i with
   |zero=>
    simp only[List.getElem_cons_zero]
    exact⟨a+k,rfl,by omega,by rw[e1];omega,by rw[e1,List.drop_drop]⟩
   |succ i=>
    simp only[List.getElem_cons_succ]
    obtain⟨b,h1,h2,h3⟩:=ih.place i (by simpa using h)
    exact⟨b,h1,by omega,h3⟩
  ·cases i with
   |zero=>
    simp only[List.getElem_cons_zero,List.getElem_cons_succ]
    obtain⟨b,h1,h2,h3⟩:=ih.place 0 hp
    rw[h1,e1]
    omega
   |succ i=>
    simp only[List.getElem_cons_succ]
    exact ih.mono i (by simpa using h)
  ·cases i with
   |zero=>
    simp only[List.getElem_cons_zero]
    intro hd2
    obtain rfl:d=2:=by omega
    exact tokL_num ht (by rw[List.drop_drop,List.length_drop];omega)
   |succ i=>
    simp only[List.getElem_cons_succ]
    exact ih.num i (by simpa using h)
 |later a s k d n p e hg hk ht _ he ih=>exact fun h=>absurd h he
theorem tokP_of {x:List UInt8} {l:List ApiToken} {p:Nat} (hx:x.length<=50000) (h:LexR 0 x l p 0):TokP x l:=by
 have t:=lexR_TP x (by omega) h rfl (by omega) rfl
 have h1:=t.len
 exact⟨by omega,t.pos,t.last,by omega,fun i h=>by obtain⟨b,h1,_,h2⟩:=t.place i h;exact⟨b,h1,h2⟩,t.mono,t.num⟩
mutual
def q6 :ApiNode->Nat
 |⟨_,_,_,_,_,_,_,_,kids⟩=>1+j9 kids
def j9 :List ApiNode->Nat
 | []=>0
 |n::l=>max (q6 n) (j9 l)
end
theorem depthN_eq (x:ApiNode):q6 x=1+j9 x.Kids:=by cases x;simp[q6]
mutual
theorem depth_le :∀x:ApiNode,q6 x<=qd x
 |⟨_,_,_,_,_,_,_,_,kids⟩=>by
  have:=depthL_le kids
  simp only[q6,qd]
  omega
theorem depthL_le :∀l:List ApiNode,j9 l<=ee l
 | []=>Nat.le_refl _
 |n::l=>by
  have h1:=depth_le n
  have h2:=depthL_le l
  simp only[j9,ee]
  omega
end
theorem depthL_mem {x:ApiNode}:∀{l:List ApiNode},x∈l->q6 x<=j9 l
 |n::l,h=>by
  simp only[j9]
  rcases List.mem_cons.1 h with rfl|h
  ·omega
  ·have:=depthL_mem h;omega
theorem depthL_append :∀l m:List ApiNode,j9 (l++m)=max (j9 l) (j9 m)
 | [],m=>by simp[j9]
 |n::l,m=>by simp only[List.cons_append,j9,depthL_append l m];omega
theorem depth_at :∀(k:Nat) (x:ApiNode),qd x<=k->k<=1048576->kr k x=some (q6 x:Int):=by
 intro k
 induction k with
 |zero=>intro x h _;have:=nsize_pos x;omega
 |succ k ih=>
  intro x hx hk
  show F_node_Depth (kr k) x=_
  generalize hR:kr k=R
  have hsz:=nsize_eq x
  have hlen:=fu x.Kids
  have hkid:∀y∈x.Kids,R y=some (q6 y:Int):=fun y hy=>by
   have:=nsize_mem hy
   rw[← hR]
   exact ih y (by omega) (by omega)
  have hdl:=depthL_le x.Kids
  unfold F_node_Depth
  have htake:∀i (h:i<x.Kids.length),j9 (x.Kids.take (i+1))=max (j9 (x.Kids.take i)) (q6 x.Kids[i]):=fun i h=>by
   rw[List.take_add_one,List.getElem?_eq_getElem h,Option.toList_some,depthL_append]
   simp[j9]
  obtain⟨o,h1,h2⟩:=fk (f:=fun s:Int × Int=>pu R x s.1 s.2) (fun s=>∃i:Nat,i<=x.Kids.length/\s.2=(i:Int)/\s.1=(j9 (x.Kids.take i):Int)) (fun o=>o=(j9 x.Kids:Int)) (fun s=>x.Kids.length - s.2.toNat) (by
   rintro⟨_,_⟩ ⟨i,hi,h1,h2⟩
   simp only at h1 h2
   subst h1 h2
   unfold pu
   by_cases hlt:i<x.Kids.length
   ·left
    rw[if_pos (by simp[hlt])]
    simp only[mu hlt,Option.bind_some,hkid _ (List.getElem_mem hlt)]
    refine⟨_,rfl,⟨i+1,by omega,by rw[gt (by omega) (by omega)];omega,?_⟩,?_⟩
    ·rw[htake i hlt]
     by_cases hc:(q6 x.Kids[i]:Int)>(j9 (x.Kids.take i):Int)
     ·simp only[if_pos hc];omega
     ·simp only[if_neg hc];omega
    ·simp only[gt (show -9223372036854775808<=(i:Int)+1 by omega) (by omega)]
     omega
   ·right
    rw[if_neg (by simp;omega)]
    refine⟨_,rfl,?_⟩
    rw[List.take_of_length_le (by omega)]) (0,0) ⟨0,by omega,rfl,by simp[j9]⟩
  rw[h1]
  subst h2
  simp only[Option.bind_some,node_Depth_k1]
  rw[gt (by omega) (by omega),depthN_eq]
  congr 1
  omega
theorem Depth_eq {x:ApiNode} (hx:qd x<=1048576):node_Depth x=some (q6 x:Int):=depth_at 1048576 x hx (Nat.le_refl _)
end Go.Proofs.YteablckbgpogiaaGreatDoor
set_option linter.unusedSectionVars false
set_option linter.unusedVariables false
set_option linter.unusedSimpArgs false
set_option maxHeartbeats 4000000
namespace Go.Proofs.YteablckbgpogiaaGreatDoor
open Go Go.Cn
def FI (D:Dt) (l:List ApiNode) (j:Nat):Prop:=LG D.x D.T l 0 j/\∀n∈l,n.Kind=1
theorem sw_app' {D:Dt} (V:Two D) {s:Nat} {Ω:Type} {W:Nat->Ω->(Ω->Prop)->Prop} {bad:ParseWrong->Ω} (P:Pst D s W bad) {b:Nat} {F F':List ApiNode->Option Ω} {l m l' m':List ApiNode} (i:Nat) (hi:i<D.T.length) (hb:i+s<=b) (hs:l.length+m.length<=1000000) (hl:i<D.N->l'.length+m'.length<=1000000) (h:SW W b (F (l++m)) (F' (l'++m'))):SW W b ((app 104 l m).bind F) ((app 104 l' m').bind F'):=by
 rw[app_small ⟨hs,by omega⟩]
 by_cases hn:i<D.N
 ·rw[app_small ⟨hl hn,by omega⟩]
  exact h
 ·exact om V P hi hn hb h
theorem file_ok {D:Dt} (V:Two D) (pre:List ApiNode) (hpre:pre.length<=500000):SW (FinF D 0 (β:=List ApiNode) (fun l j=>FI D l j/\j+1=D.T.length) (fun l l'=>∃m,l'=pre++m/\LR D l m) (fun _ _=>False) (fun _ _=>False)) 0 (iter (fun s=>d6 s.1 s.2) (D.p 0,[])) (iter (fun s=>d6 s.1 s.2) (D.p' 0,pre)):=by
 have hlen:=V.t.len
 have P1:=pFinF V (s:=0) (β:=List ApiNode) (fun l j=>FI D l j/\j+1=D.T.length) (fun l l'=>∃m,l'=pre++m/\LR D l m) (fun _ _=>False) (fun _ _=>False)
 refine sw_iter V P1 (I:=FI D) (J:=fun l l'=>∃m,l'=pre++m/\LR D l m) V.t.pos ⟨LG.nil D.x D.T 0,fun n h=>by simp at h⟩ (fun _=>⟨[],by simp,LR.nil⟩) (by omega) (fun j l l' _ hj hl hr=> ?_)
 have P:=pFinS V (s:=0) (FI D) (fun l l'=>∃m,l'=pre++m/\LR D l m) P1 j
 unfold d6
 refine sw_now V P hj (Nat.le_refl _) (fun t' ht=> ?_)
 refine sw_ite V P hj (Nat.le_refl _) (fun h=>by rw[(ht h).1]) (fun hk=> ?_) (fun hk=> ?_)
 ·refine ic V P (fun k=>k) (class_ok V hj) (fun k hk=>⟨by omega,by omega,by omega⟩) (fun k n n' hk hjk hn hnr=> ?_)
  have hl2:=LG.snoc V.t hl.1 hn.1 (Nat.le_refl _) (Nat.le_of_lt hk)
  have h3:=hl2.sz
  have h4:=fu (l++[n])
  refine sw_app' V P k hk (Nat.le_refl _) (by simp at h4 ⊢;omega) (fun h=> ?_) ?_
  ·obtain⟨m,rfl,hm⟩:=hr (by omega)
   have:=hm.len
   simp only[List.length_append,List.length_cons,List.length_nil]at h4 ⊢
   omega
  ·refine sw_inl hk (by omega) (Nat.le_refl _) ⟨hl2,fun y hy=> ?_⟩ (fun h=> ?_)
   ·rcases List.mem_append.1 hy with hy|hy
    ·exact hl.2 y hy
    ·rw[List.mem_singleton.1 hy];exact hn.2
   ·obtain⟨m,rfl,hm⟩:=hr (by omega)
    exact⟨m++[n'],by rw[List.append_assoc],LR.append hm (LR.one (hnr (by omega)))⟩
 ·have hk:(D.tk j).Kind=5:=by simpa using hk
  have hj1:j+1=D.T.length:=(V.t.last j hj).1 (by rw[tk_eq V hj];exact hk)
  exact sw_next hj (Nat.le_refl _) ⟨hl,hj1⟩ hr
theorem gdL_mem {x:List UInt8} {n:ApiNode}:∀{l:List ApiNode},gdL x l->n∈l->gd x n
 |y::l,h,hn=>by
  simp only[gdL]at h
  rcases List.mem_cons.1 hn with rfl|hn
  ·exact h.1
  ·exact gdL_mem h.2 hn
theorem chain_mem {n:ApiNode} {hi:Int}:∀{l:List ApiNode} {lo:Int},chain lo hi l->n∈l->lo<=n.From/\n.From<=n.To/\n.To<=hi
 |y::l,lo,⟨h1,h2,h3,h4⟩,hn=>by
  rcases List.mem_cons.1 hn with rfl|hn
  ·exact⟨h1,h2,h3⟩
  ·obtain⟨a,b,c⟩:=chain_mem h4 hn
   exact⟨by omega,b,c⟩
def Dt.one (x:List UInt8) (T:List ApiToken):Dt:=⟨x,x,T,T,0,0,False⟩
theorem Two.one {x:List UInt8} {T:List ApiToken} (h:TokP x T):Two (Dt.one x T):=⟨h,h,Nat.zero_le _,Nat.zero_le _,fun i hi=>absurd hi (Nat.not_lt_zero i),fun h=>h.elim⟩
theorem deep_ok {l:List ApiNode} {T:List ApiToken} {p:ParseParser} (hT:0<T.length) (hs:ee l<=1000000) (hd:j9 l<=200):js l T p=some (.ok (l,⟨0,0,0⟩)):=by
 have hln:=fu l
 unfold js
 obtain⟨o,h1,h2⟩:=fk (f:=fun s:Int=>dk l T s) (fun s=>∃i:Nat,i<=l.length/\s=(i:Int)) (fun o=>o= .next ()) (fun s=>l.length - s.toNat) (by
  rintro _ ⟨i,hi,rfl⟩
  unfold dk
  by_cases hlt:i<l.length
  ·left
   rw[if_pos (by simp[hlt])]
   have hm:=List.getElem_mem hlt
   have h3:=depthL_mem hm
   have h4:=nsize_mem hm
   simp only[mu hlt,Option.bind_some,Depth_eq (show qd l[i]<=1048576 by omega)]
   rw[if_neg (by simp;omega)]
   refine⟨_,rfl,⟨i+1,by omega,bh (by omega)⟩,?_⟩
   rw[bh (by omega)]
   omega
  ·right
   rw[if_neg (by simp;omega)]
   exact⟨_,rfl,rfl⟩) 0 ⟨0,by omega,rfl⟩
 rw[h1]
 subst h2
 rfl
theorem deep_bad {l:List ApiNode} {T:List ApiToken} {p:ParseParser} (hT:0<T.length) (hs:ee l<=1000000) (hd:200<j9 l):∃a,js l T p=some (.ok ([],⟨2,0,a⟩))/\(a=T[0].At\/∃n∈l,a=n.From):=by
 have hln:=fu l
 have hex:∃i,∃h:i<l.length,q6 l[i]>200:=by
  clear hs hln
  induction l with
  |nil=>simp[j9]at hd
  |cons n l ih=>
   by_cases h:q6 n>200
   ·exact⟨0,by simp,h⟩
   ·obtain⟨i,hi,h2⟩:=ih (by simp only[j9]at hd;omega)
    exact⟨i+1,by simpa using hi,h2⟩
 obtain⟨q,hq,hdq⟩:=hex
 unfold js
 obtain⟨o,h1,h2⟩:=fk (f:=fun s:Int=>dk l T s) (fun s=>∃i:Nat,i<=q/\s=(i:Int)) (fun o=>∃a,o= .done (.ok ([],⟨2,0,a⟩))/\(a=T[0].At\/∃n∈l,a=n.From)) (fun s=>l.length - s.toNat) (by
  rintro _ ⟨i,hi,rfl⟩
  unfold dk ra parse_run_j3
  have hlt:i<l.length:=by omega
  rw[if_pos (by simp[hlt])]
  have hm:=List.getElem_mem hlt
  have h4:=nsize_mem hm
  have h5:=depth_le l[i]
  simp only[mu hlt,Option.bind_some,Depth_eq (show qd l[i]<=1048576 by omega)]
  by_cases hc:q6 l[i]>200
  ·right
   rw[if_pos (by simp;omega)]
   by_cases hk:(l[i].Kind != 1)=true
   ·rw[if_pos hk,show idx T 0=some T[0]from idx_nat (i:=0) hT,Option.bind_some]
    exact⟨_,rfl,_,rfl,.inl rfl⟩
   ·rw[if_neg hk]
    exact⟨_,rfl,_,rfl,.inr ⟨_,hm,rfl⟩⟩
  ·left
   have hne:i≠q:=fun h=>by subst h;exact hc hdq
   rw[if_neg (by simp;omega)]
   refine⟨_,rfl,⟨i+1,by omega,bh (by omega)⟩,?_⟩
   rw[bh (by omega)]
   omega) 0 ⟨0,by omega,rfl⟩
 rw[h1]
 obtain⟨a,rfl,ha⟩:=h2
 exact⟨a,rfl,ha⟩
theorem rule_ok {x:List UInt8} {T:List ApiToken} (hT:TokP x T):(∃l,li ⟨T,0⟩=some (.ok (l,⟨T,((T.length - 1:Nat):Int)⟩))/\LG x T l 0 (T.length - 1)/\∀n∈l,n.Kind=1)\/(∃m,li ⟨T,0⟩=some (.bad m)/\BadE x m):=by
 have h:=file_ok (Two.one hT) [] (by simp)
 obtain⟨z,hz,hw⟩:=h
 unfold li mn
 have hz:iter (fun s=>d6 s.1 s.2) (⟨T,0⟩,[])=some z:=hz
 rw[hz]
 cases z with
 |done r=>
  right
  cases r with
  |ok a=>obtain⟨j,_,_,_,h,_⟩:=hw;exact h.elim
  |bad m=>exact⟨m,rfl,hw.1⟩
 |next st=>
  left
  obtain⟨p,l⟩:=st
  obtain⟨j,e,⟨h1,h2⟩,h3,_,_⟩:=hw
  have h2:j+1=T.length:=h2
  have h1:LG x T l 0 j/\∀n∈l,n.Kind=1:=h1
  have e:p=⟨T,(j:Int)⟩:=e
  subst e
  obtain rfl:j=T.length - 1:=by omega
  exact⟨l,rfl,h1⟩
theorem now_last {x:List UInt8} {T:List ApiToken} (hT:TokP x T):∃t,bi ⟨T,((T.length - 1:Nat):Int)⟩=some t/\t.Kind=5:=by
 have hp:=hT.pos
 exact⟨_,now_eq hT (i:=T.length - 1) (by omega),(hT.last (T.length - 1) (by omega)).2 (by omega)⟩
theorem lexI_ok {x:List UInt8} (h:(lexM x).2.2=0):∃T,LexR 0 x T 0 0/\lexI x=(T,0,0):=by
 have hr:=lexM_rel x
 rw[h]at hr
 have h1:=(lexR_back hr rfl).1
 rw[h1]at hr
 exact⟨_,hr,by unfold lexI;rw[h,h1];rfl⟩
theorem File_one {x:List UInt8} (hx:x.length<=50000):∃l m,jj x=some (l,m)/\m.File=0/\0<=m.At/\m.At<=(x.length:Int)/\((m.Code≠0/\l=[])\/(m.Code=0/\∃T,LexR 0 x T 0 0/\LG x T l 0 (T.length - 1)/\(∀n∈l,n.Kind=1)/\j9 l<=200)):=by
 rw[parse_File_eq]
 unfold runF
 rw[if_pos (by omega)]
 by_cases he:(lexM x).2.2=0
 ·obtain⟨T,hr,hI⟩:=lexI_ok he
  have hT:=tokP_of hx hr
  rw[hI]
  unfold runI
  rw[if_neg (by simp)]
  rcases rule_ok hT with⟨l,e,h1,h2⟩|⟨m,e,h1⟩
  ·simp only
   rw[e]
   obtain⟨t,ht,hk⟩:=now_last hT
   have hs:=h1.sz
   have hl:=hT.len
   have hp:=hT.pos
   simp only[cp,ht,Option.bind_some]
   rw[if_neg (by simp[hk])]
   by_cases hd:j9 l<=200
   ·rw[deep_ok hp (by omega) hd]
    exact⟨l,_,rfl,rfl,Int.le_refl _,by simp,.inr ⟨rfl,T,hr,h1,h2,hd⟩⟩
   ·obtain⟨a,e2,ha⟩:=deep_bad (p:=⟨T,((T.length - 1:Nat):Int)⟩) hp (show ee l<=1000000 by omega) (by omega)
    rw[e2]
    refine⟨[],_,rfl,rfl,?_,?_,.inl ⟨(by decide:(2:Int)≠0),rfl⟩⟩
    all_goals
     have h3:=aT_nat hT hp
     rw[aT_eq hT hp]at h3
     rcases ha with rfl|⟨n,hn,rfl⟩
     ·simp only;omega
     ·have h4:=gdL_mem h1.gd hn
      rw[gd_eq]at h4
      have h5:=chain_mem h1.ch hn
      simp only
      omega
  ·simp only
   rw[e]
   exact⟨[],m.m,rfl,h1.1,h1.2.1,h1.2.2.1,.inl ⟨by rcases h1.2.2.2 with h|h<;>omega,rfl⟩⟩
 ·have hr:=lexR_err (lexM_rel x) he
  unfold runI lexI
  simp only
  rw[if_pos (by simpa using he)]
  exact⟨[],_,rfl,rfl,by simp,by simp only;omega,.inl ⟨by simpa using he,rfl⟩⟩
end Go.Proofs.YteablckbgpogiaaGreatDoor
