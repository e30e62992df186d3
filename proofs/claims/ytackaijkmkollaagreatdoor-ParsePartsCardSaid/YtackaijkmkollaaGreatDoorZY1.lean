/- What takes a text answers on every row of tokens, and where its nodes stand: the ground. -/
import Derived.Test.YtackaijkmkollaaGreatDoorZY0
import Derived.Test.YtackaijkmkollaaGreatDoorZQ1
set_option linter.unusedSimpArgs false
set_option linter.unusedVariables false
set_option linter.unusedSectionVars false
set_option linter.unusedSectionVars false
set_option linter.unusedVariables false
set_option linter.unusedSimpArgs false
set_option maxHeartbeats 4000000
namespace Go.Proofs.YtackaijkmkollaaGreatDoor
open Go Go.Cn
def Ok {γ:Type} (y:Option γ) (R:γ->Prop):Prop:=∃g,y=some g/\R g
theorem ok_some {γ:Type} {g:γ} {R:γ->Prop} (h:R g):Ok (some g) R:=⟨g,rfl,h⟩
theorem ok_ite {γ:Type} {c:Bool} {a b:Option γ} {R:γ->Prop} (h1:c=true->Ok a R) (h2:c=false->Ok b R):Ok (if c=true then a else b) R:=by
 cases c
 ·simpa using h2 rfl
 ·simpa using h1 rfl
theorem Ok.mono {γ:Type} {y:Option γ} {R R':γ->Prop} (h:Ok y R) (k:∀g,R g->R' g):Ok y R':=by obtain⟨g,rfl,hg⟩:=h;exact⟨g,rfl,k g hg⟩
def BadE (x:List UInt8) (m:ParseWrong):Prop:=m.m.File=0/\0<=m.m.At/\m.m.At<=(x.length:Int)/\(m.m.Code=120\/m.m.Code=2)
def chain (lo hi:Int):List ApiNode->Prop
 | []=>True
 |y::r=>lo<=y.From/\y.From<=y.To/\y.To<=hi/\chain y.To hi r
mutual
def gd (x:List UInt8):ApiNode->Prop
 |⟨_,t,y,_,f,to,a,ta,kids⟩=>(0<=f/\to<=(x.length:Int)/\(0<=a->f<=a/\a+(t.length:Int)<=to/\(x.drop a.toNat).take t.length=t)/\(0<=ta->f<=ta/\ta+(y.length:Int)<=to/\(x.drop ta.toNat).take y.length=y)/\chain f to kids)/\gdL x kids
def gdL (x:List UInt8):List ApiNode->Prop
 | []=>True
 |n::l=>gd x n/\gdL x l
end
theorem gd_eq (x:List UInt8) (n:ApiNode):gd x n↔((0<=n.From/\n.To<=(x.length:Int)/\(0<=n.At->n.From<=n.At/\n.At+(n.Text.length:Int)<=n.To/\(x.drop n.At.toNat).take n.Text.length=n.Text)/\(0<=n.TypeAt->n.From<=n.TypeAt/\n.TypeAt+(n.Type_.length:Int)<=n.To/\(x.drop n.TypeAt.toNat).take n.Type_.length=n.Type_)/\chain n.From n.To n.Kids)/\gdL x n.Kids):=by
 cases n;simp[gd]
theorem gdL_append {x:List UInt8}:∀{l m:List ApiNode},gdL x l->gdL x m->gdL x (l++m)
 | [],_,_,h=>h
 |_::_,_,h,h2=>by
  simp only[List.cons_append,gdL]at h ⊢
  exact⟨h.1,gdL_append h.2 h2⟩
theorem nsizes_append :∀(l m:List ApiNode),cl (l++m)=cl l+cl m
 | [],m=>by simp[cl]
 |n::l,m=>by simp[cl,nsizes_append l m];omega
theorem chain_snoc {n:ApiNode} {hi:Int}:∀{l:List ApiNode} {lo m:Int},chain lo m l->lo<=n.From->(l=[]\/m<=n.From)->n.From<=n.To->n.To<=hi->m<=hi\/l=[]->chain lo hi (l++[n])
 | [],lo,m,_,h1,_,h3,h4,_=>⟨h1,h3,h4,trivial⟩
 |y::r,lo,m,⟨c1,c2,c3,c4⟩,h1,h2,h3,h4,h5=>by
  have h2:m<=n.From:=h2.resolve_left (by simp)
  have h5:m<=hi:=h5.resolve_right (by simp)
  exact⟨c1,c2,by omega,chain_snoc c4 (by omega) (.inr h2) h3 h4 (.inl h5)⟩
theorem chain_wide {lo' hi':Int}:∀{l:List ApiNode} {lo hi:Int},chain lo hi l->lo'<=lo->hi<=hi'->chain lo' hi' l
 | [],_,_,_,_,_=>trivial
 |y::r,lo,hi,⟨c1,c2,c3,c4⟩,h1,h2=>⟨by omega,c2,by omega,chain_wide c4 (Int.le_refl _) h2⟩
structure TokP (x:List UInt8) (T:List ApiToken):Prop where
 len:T.length<=60000
 pos:0<T.length
 last:∀i (h:i<T.length),T[i].Kind=5↔i+1=T.length
 bytes:x.length<=60000
 place:∀i (h:i<T.length),∃a:Nat,T[i].At=(a:Int)/\a+T[i].Text.length<=x.length/\(x.drop a).take T[i].Text.length=T[i].Text
 mono:∀i (h:i+1<T.length),T[i].At+(T[i].Text.length:Int)<=T[i+1].At
 num:∀i (h:i<T.length),T[i].Kind=2->∃v b,ek T[i].Text 10 64=some (v,b)
abbrev cq :ApiToken:=⟨0,[],0,[]⟩
def aT (T:List ApiToken) (i:Nat):Int:=(T.getD i cq).At
def eT (T:List ApiToken) (j:Nat):Int:=(T.getD (j - 1) cq).At+((T.getD (j - 1) cq).Text.length:Int)
def isB (t:ApiToken) (s:List UInt8):Bool:=(t.Text==s)&&(t.Kind==4||t.Kind==3)
def isTy (t:ApiToken):Bool:=t.Kind==1||isB t [105,110,116]||isB t [98,111,111,108,101,97,110]||isB t [118,111,105,100]
theorem marks_eq (t:ApiToken) (s:List UInt8):jh t s=some (isB t s):=by
 unfold jh jt isB
 cases t.Text==s<;>cases t.Kind==4<;>rfl
theorem isType_eq (t:ApiToken):io t=some (isTy t):=by
 unfold io gw isTy
 simp only[marks_eq,Option.bind_some]
 cases t.Kind==1<;>cases isB t [105,110,116]<;>cases isB t [98,111,111,108,101,97,110]<;>rfl
section
variable {x:List UInt8} {T:List ApiToken} (hT:TokP x T)
include hT
theorem aT_eq {i:Nat} (h:i<T.length):aT T i=T[i].At:=by simp[aT,List.getD,h]
theorem eT_eq {j:Nat} (h:j<T.length):eT T (j+1)=T[j].At+(T[j].Text.length:Int):=by simp[eT,List.getD,h]
theorem aT_nat {i:Nat} (h:i<T.length):0<=aT T i/\aT T i<=eT T (i+1)/\eT T (i+1)<=(x.length:Int):=by
 obtain⟨a,h1,h2,_⟩:=hT.place i h
 rw[aT_eq hT h,eT_eq hT h,h1]
 omega
theorem e_le_a {i:Nat} (h:i+1<T.length):eT T (i+1)<=aT T (i+1):=by
 rw[eT_eq hT (by omega),aT_eq hT h]
 exact hT.mono i h
theorem a_mono {i:Nat}:∀{j:Nat},i<=j->j<T.length->aT T i<=aT T j
  | 0, h, _ => by obtain rfl : i = 0 := by omega
                  exact Int.le_refl _
  |j+1,h,hj=>by
    rcases Nat.lt_or_ge i (j+1)with h'|h'
    · have h1:=a_mono (i:=i) (j:=j) (by omega) (by omega)
      have h2:=(aT_nat hT (i:=j) (by omega)).2.1
      have h3:=e_le_a hT hj
      omega
    · obtain rfl:i=j+1:=by omega
      exact Int.le_refl _
theorem a_le_e {i j:Nat} (h:i<j) (hj:j<=T.length):aT T i<=eT T j:=by
 obtain⟨k,rfl⟩:∃k,j=k+1:=⟨j - 1,by omega⟩
 have h1:=a_mono hT (i:=i) (j:=k) (by omega) (by omega)
 have h2:=(aT_nat hT (i:=k) (by omega)).2.1
 omega
theorem e_le {i j:Nat} (h0:0<i) (h:i<=j) (hj:j<T.length):eT T i<=aT T j:=by
 obtain⟨k,rfl⟩:∃k,i=k+1:=⟨i - 1,by omega⟩
 have h1:=e_le_a hT (i:=k) (by omega)
 have h2:=a_mono hT (i:=k+1) (j:=j) h hj
 omega
theorem e_mono {i j:Nat} (h0:0<i) (h:i<=j) (hj:j<=T.length):eT T i<=eT T j:=by
 rcases Nat.lt_or_ge i j with h'|h'
 ·have h1:=e_le hT h0 (j:=j - 1) (by omega) (by omega)
  have h2:=a_le_e hT (i:=j - 1) (j:=j) (by omega) hj
  omega
 ·obtain rfl:i=j:=by omega
  exact Int.le_refl _
theorem e_len {j:Nat} (h0:0<j) (hj:j<=T.length):eT T j<=(x.length:Int):=by
 obtain⟨k,rfl⟩:∃k,j=k+1:=⟨j - 1,by omega⟩
 exact(aT_nat hT (i:=k) (by omega)).2.2
theorem ix {i:Nat} (h:i<T.length):idx T (i:Int)=some T[i]:=idx_nat h
theorem now_eq {i:Nat} (h:i<T.length):bb ⟨T,(i:Int)⟩=some T[i]:=by
 unfold bb jk
 simp only[ix hT h,Option.bind_some]
theorem is_eq {i:Nat} (h:i<T.length) (s:List UInt8):jb ⟨T,(i:Int)⟩ s=some (isB T[i] s):=by
 unfold jb
 rw[now_eq hT h,Option.bind_some,marks_eq,Option.bind_some]
theorem ne_last {i:Nat} (h:i<T.length) (hk:T[i].Kind≠5):i+1<T.length:=by
 have:=(hT.last i h).2
 rcases Nat.lt_or_ge (i+1) T.length with h'|h'
 ·exact h'
 ·exact absurd (this (by omega)) hk
theorem isB_lt {i:Nat} (h:i<T.length) {s:List UInt8} (hb:isB T[i] s=true):i+1<T.length:=by
 refine ne_last hT h (fun hk=> ?_)
 unfold isB at hb
 rw[hk]at hb
 simp at hb
theorem isTy_lt {i:Nat} (h:i<T.length) (hb:isTy T[i]=true):i+1<T.length:=by
 unfold isTy at hb
 simp only[Bool.or_eq_true,beq_iff_eq]at hb
 rcases hb with((hb|hb)|hb)|hb
 ·exact ne_last hT h (by omega)
 ·exact isB_lt hT h hb
 ·exact isB_lt hT h hb
 ·exact isB_lt hT h hb
theorem met_eq {i:Nat} (h:i<T.length) (s:List UInt8):a4 s ⟨T,(i:Int)⟩=some (if isB T[i] s=true then(true,⟨T,((i+1:Nat):Int)⟩)else(false,⟨T,(i:Int)⟩)):=by
 unfold a4
 rw[is_eq hT h,Option.bind_some]
 have:=hT.len
 cases isB T[i] s
 ·rfl
 ·rw[if_neg (by simp),if_pos rfl,ij (by omega)]
theorem step_eq {i:Nat} (h:i<T.length):cg ⟨T,(i:Int)⟩=some (T[i],⟨T,((i+1:Nat):Int)⟩):=by
 unfold cg
 have:=hT.len
 rw[now_eq hT h,Option.bind_some,ij (by omega)]
theorem made_eq {i j:Nat} (hi:i<T.length) (h0:0<j) (hj:j<=T.length) (k:Int) (l:List ApiNode):parse_parser_made ⟨T,(j:Int)⟩ k (i:Int) l=some ⟨k,[],[],0,aT T i,eT T j, -1, -1,l⟩:=by
 have hl:=hT.len
 have hb:=hT.bytes
 obtain⟨m,rfl⟩:∃m,j=m+1:=⟨j - 1,by omega⟩
 have hm:m<T.length:=by omega
 have e:w64 (((m+1:Nat):Int) - 1)=(m:Int):=by rw[i6 (by omega) (by omega)];omega
 unfold parse_parser_made
 simp only[e,ix hT hm,ix hT hi,Option.bind_some]
 have h1:=aT_nat hT hm
 rw[eT_eq hT hm]at h1 ⊢
 rw[aT_eq hT hi,i6 (by omega) (by omega)]
end
end Go.Proofs.YtackaijkmkollaaGreatDoor
