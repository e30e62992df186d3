/- The files in another order: each entity has as many uses. BindFiles. -/
import Derived.Test.YtcndghapmoaidaaGreatDoorZL
set_option linter.unusedSimpArgs false
set_option linter.unusedVariables false
set_option linter.unusedSectionVars false
set_option linter.unusedSectionVars false
set_option linter.unusedVariables false
set_option linter.unusedSimpArgs false
set_option maxRecDepth 100000
set_option maxHeartbeats 4000000
namespace Go.Proofs.YtcndghapmoaidaaGreatDoor
open Go Go.Cn
variable [Glob]
def ownM (st:Bool) (m:A9 × Bool):A9 × Int:=if m.2=true then(if(st&& !m.1.Static)=true then(alc,171)else(m.1,0))else(alc,170)
def anl (c:A9 × Bool):A9 × Int:=if c.2=true then(c.1,0)else(alc,170)
def aio (s:B6) (t:Bt):A9 × Int:=
 match s.Seen.reverse.find? (fun e=>e.Name==t)with
 |some e=>(e,0)
 |none=>if(has s.Table 2 s.Class t).2=true then ownM s.Static (has s.Table 2 s.Class t)else anl (cls s.Table t)
def memM (s:B6) (kind:Int) (n:B5) (ty:Bt):A9 × Int:=
 match n.Kids with
 | []=>(alc,180)
 |f::_=>if(f.Kind==17&&(aio s f.Text).2==0&&(aio s f.Text).1.Kind==1)=true then ownM true (has s.Table kind (aio s f.Text).1.Id n.Text)
  else if((cls s.Table ty).2&& !(ty==[]))=true then ownM false (has s.Table kind ty n.Text)else(alc,180)
def entW (s:B6) (n:B5) (ty:Bt):A9 × Int:=
 if n.Kind=17 then aio s n.Text else if n.Kind=19 then ownM s.Static (has s.Table 3 s.Class n.Text)else if n.Kind=21 then anl (cls s.Table n.Text)
 else if n.Kind=18 then memM s 2 n ty else if n.Kind=20 then memM s 3 n ty else(alc,0)
def ans (t:Bt):Bool:=t==[43]||t==[45]||t==[42]||t==[47]||t==[37]
def typW (s:B6) (n:B5) (e:A9 × Int):Bt:=
 if n.Kind=13\/n.Kind=23 then tInt else if n.Kind=14\/n.Kind=22 then anj else if n.Kind=15 then auu else if n.Kind=24 then(if ans n.Text=true then tInt else anj)
 else if n.Kind=16 then(if s.Static=true then[]else s.Class)else if e.2≠0 then[]else if n.Kind=21 then e.1.Id else if e.1.Kind=1 then[]else e.1.Type_
mutual
def typM (s:B6):B5->Bt
 |⟨k,t,y,n,a,b,c,d,kids⟩=>typW s ⟨k,t,y,n,a,b,c,d,kids⟩ (entW s ⟨k,t,y,n,a,b,c,d,kids⟩ (typF s kids))
def typF (s:B6):List B5->Bt
 | []=>[]
 |f::_=>typM s f
end
def entM (s:B6) (n:B5):A9 × Int:=entW s n (typF s n.Kids)
theorem ayk (s:B6) (n:B5):typM s n=typW s n (entM s n):=by cases n;rw[typM];rfl
theorem acu {s:B6} (hl:s.Table.length<=1000000) (id:Bt):jn s id=some (cls s.Table id):=by
 have h:=ir (l:=s.Table) (f:=fun k=>jt s id k) (isC id) (fun _ x=>(x,true)) om (fun i x hx=>by
  unfold jt nr isC
  rw[if_pos (gn hx),dw hx]
  simp only[Option.bind_some]
  cases h1:(x.Kind==1)<;>simp) (fun i hi=>by
  unfold jt
  rw[if_neg (gw hi)]) s.Table 0 rfl
 unfold jn
 rw[show((0:Nat):Int)=0 from rfl]at h
 rw[h,Option.bind_some]
 refine Eq.trans ?_ (congrArg some (afq id s.Table 0))
 cases kn (isC id) (fun _ x=>(x,true)) 0 s.Table<;>rfl
theorem agj (s:B6) (e:A9) (is:Bool):ld s e is=some (ownM s.Static (e,is)):=by
 unfold ld qp ownM
 cases is<;>cases s.Static<;>cases e.Static<;>rfl
theorem ah0 (s:B6) (c:A9 × Bool):ll s c.1 c.2=some (anl c):=by
 unfold ll anl
 cases c.2<;>rfl
theorem aox {α γ:Type} {l:List α} {f:Int->Option (Int ⊕ Flow Unit γ)} (p:α->Bool) (g:α->γ) (hl:l.length<=4000000000)
  (h1:∀(i:Nat) x,l[i]? =some x->f i=if p x=true then some (.inr (.done (g x)))else some (.inl (w64 ((i:Int) - 1)))) (h2:f (-1)=some (.inr (.next ()))):
  ∀(n:Nat),n<=l.length->iter f ((n:Int) - 1)=some (match (l.take n).reverse.find? p with|some x=> .done (g x)|none=> .next ())
 | 0,_=>c9 h2
 |n+1,hn=>by
  have hx:l[n]? =some l[n]:=List.getElem?_eq_getElem om
  have e:=h1 n _ hx
  rw[List.take_succ_eq_append_getElem om,List.reverse_append,List.reverse_cons,List.reverse_nil,List.nil_append,List.cons_append,List.nil_append]
  have e2:(((n+1:Nat):Int) - 1)=(n:Int):=by omega
  rw[e2]
  by_cases hp:p l[n]=true
  ·rw[if_pos hp]at e
   rw[List.find?_cons_of_pos hp]
   exact c9 e
  ·rw[if_neg hp,cu om om]at e
   rw[List.find?_cons_of_neg hp,f9 e]
   exact aox p g hl h1 h2 n om
theorem amq {s:B6} (hl:s.Table.length<=1000000) (hs:s.Seen.length<=1000000) (n:B5):ql s n=some (aio s n.Text):=by
 have hb:∃z,eo (yldX (fun(_:Unit) (a:Int × A9)=>jf n a.1 a.2)) s.Seen (.inl ())=some (s.Seen,z)/\(match z with| .inl _=>s.Seen.reverse.find? (fun e=>e.Name==n.Text)=none| .inr e=>s.Seen.reverse.find? (fun e=>e.Name==n.Text)=some e):=by
  have key:∀k:Nat,k<=s.Seen.length->∃o z,iter (fun t=>cm (yldX (fun(_:Unit) (a:Int × A9)=>jf n a.1 a.2)) s.Seen t.1 t.2) (((k:Int) - 1),.inl ())=some o/\(o= .next z\/o= .done (s.Seen,z))/\(match z with| .inl _=>(s.Seen.take k).reverse.find? (fun e=>e.Name==n.Text)=none| .inr e=>(s.Seen.take k).reverse.find? (fun e=>e.Name==n.Text)=some e):=by
   intro k
   induction k with
   |zero=>
    intro _
    refine⟨_,.inl (),c9 (o:= .next (.inl ())) ?_,.inl rfl,rfl⟩
    unfold cm
    rw[if_neg dcd]
   |succ k ih=>
    intro hk
    have hx:s.Seen[k]? =some s.Seen[k]:=List.getElem?_eq_getElem om
    have e2:(((k+1:Nat):Int) - 1)=(k:Int):=by omega
    rw[e2,List.take_succ_eq_append_getElem om,List.reverse_append,List.reverse_cons,List.reverse_nil,List.nil_append,List.cons_append,List.nil_append]
    have e:cm (yldX (fun(_:Unit) (a:Int × A9)=>jf n a.1 a.2)) s.Seen (k:Int) (.inl ())=if(s.Seen[k].Name==n.Text)=true then some (.inr (.done (s.Seen,.inr s.Seen[k])))else some (.inl (((k:Int) - 1),.inl ())):=by
     unfold cm yldX jf
     rw[if_pos sm,dw hx,cu om om]
     simp only[Option.bind_some]
     cases (s.Seen[k].Name==n.Text)<;>rfl
    by_cases hp:(s.Seen[k].Name==n.Text)=true
    ·rw[if_pos hp]at e
     refine⟨_,.inr s.Seen[k],c9 e,.inr rfl,?_⟩
     rw[List.find?_cons_of_pos (p:=fun e:A9=>e.Name==n.Text) hp]
    ·rw[if_neg hp]at e
     obtain⟨o,z,g1,g2,g3⟩:=ih om
     refine⟨o,z,(f9 (s':=(((k:Int) - 1),.inl ())) e).trans g1,g2,?_⟩
     rw[List.find?_cons_of_neg (p:=fun e:A9=>e.Name==n.Text) hp]
     exact g3
  obtain⟨o,z,g1,g2,g3⟩:=key s.Seen.length (Nat.le_refl _)
  rw[List.take_length]at g3
  refine⟨z,?_,g3⟩
  unfold eo fe
  rw[cu om om,g1,Option.bind_some]
  rcases g2 with rfl|rfl<;>rfl
 obtain⟨z,g1,g2⟩:=hb
 unfold ql ov
 rw[g1,Option.bind_some,ahy hl,acu hl]
 unfold aio
 cases z with
 |inr e=>
  dsimp only at g2 ⊢
  rw[g2]
 |inl _=>
  dsimp only at g2 ⊢
  rw[g2,Option.bind_some,Option.bind_some]
  dsimp only
  by_cases h:(has s.Table 2 s.Class n.Text).2=true
  ·rw[if_pos h,if_pos h,agj,Option.bind_some,← h]
  ·rw[if_neg h,if_neg h]
   rw[ah0 s (cls s.Table n.Text)]
   rfl
theorem aus {s:B6} (hl:s.Table.length<=1000000) (n:B5):ug s n=some (ownM s.Static (has s.Table 3 s.Class n.Text)):=by
 unfold ug s9
 rw[agn hl,Option.bind_some]
 dsimp only
 rw[agj]
 rfl
theorem auq {s:B6} (hl:s.Table.length<=1000000) (n:B5):uf s n=some (anl (cls s.Table n.Text)):=by
 unfold uf s8
 rw[acu hl,Option.bind_some]
 dsimp only
 rw[ah0 s (cls s.Table n.Text)]
 rfl
theorem cls_ex {l:List A9} {id:Bt} (h:(cls l id).2=true):(cls l id).1.Id=id:=(awa h).1
theorem aqh {s:B6} (hl:s.Table.length<=1000000) (hs:s.Seen.length<=1000000) {n:B5} {kind:Int} {fn:List A9->Bt->Bt->Option (A9 × Bool)} (hfn:∀id t,fn s.Table id t=some (has s.Table kind id t))
  {R:bh} (hR:∀f r,n.Kids=f::r->R.2.1 s f=some (typM s f)):nt R s n fn=some (memM s kind n (typF s n.Kids)):=by
 unfold nt memM
 cases hk:n.Kids with
 |nil=>rw[if_pos sm]
 |cons f r=>
  have e0:idx (f::r) (0:Int)=some f:=rfl
  rw[if_neg so,e0,Option.bind_some,amq hl hs,typF]
  have j4:kg R s f fn n=some (if((cls s.Table (typM s f)).2&& !((typM s f)==[]))=true then ownM false (has s.Table kind (typM s f) n.Text)else(alc,180)):=by
   unfold kg qa mq qb
   rw[hR f r hk,Option.bind_some,acu hl,Option.bind_some]
   dsimp only
   by_cases hc:(cls s.Table (typM s f)).2=true
   ·rw[cls_ex hc,hc,hfn,Option.bind_some]
    try dsimp only
    rw[agj]
    cases (typM s f==[])<;>rfl
   ·rw[Bool.eq_false_iff.2 hc]
    rfl
  dsimp only
  cases h17:(f.Kind==17)
  ·rw[if_neg sm,j4]
   rfl
  ·rw[if_pos rfl,Option.bind_some]
   try dsimp only
   unfold mo pz
   rw[hfn,Option.bind_some]
   dsimp only
   rw[agj,j4]
   cases h0:((aio s f.Text).2==0)
   ·rfl
   ·cases h1:((aio s f.Text).1.Kind==1)<;>rfl
theorem aot {l:List Bt} (hl:l.length<=4000000000) (x:Bt):fv l x=some (l.any (x== ·)):=by
 have h:=ir (l:=l) (f:=fun s=>ez l x s) (fun y=>x==y) (fun i _=>(i:Int)) hl (fun i y hy=>by
  unfold ez
  rw[if_pos (gn hy),dw hy]
  simp only[Option.bind_some]) (fun i hi=>by
  unfold ez
  rw[if_neg (gw hi)]) l 0 rfl
 unfold fv kl
 rw[show((0:Nat):Int)=0 from rfl]at h
 rw[h,Option.bind_some]
 have h2:=an6 (fun y=>x==y) l 0
 rw[← h2]
 unfold jo
 cases kn (fun y=>x==y) (fun i _=>(i:Int)) 0 l<;>rfl
theorem auo {s:B6} {n:B5} {R:bh} (hR:R.1 s n=some (entM s n)):qv R s n=some (typM s n):=by
 have ea:([([43]:Bt),([45]:Bt),([42]:Bt),([47]:Bt),([37]:Bt)]:List Bt).any (n.Text== ·)=ans n.Text:=by
  unfold ans
  simp only[List.any_cons,List.any_nil,Bool.or_false,Bool.or_assoc]
 rw[ayk]
 unfold qv ow ox typW
 rw[aot sm,ea,hR]
 simp only[Option.bind_some]
 by_cases h13:n.Kind=13
 ·simp[h13]
 by_cases h23:n.Kind=23
 ·simp[h23]
 by_cases h14:n.Kind=14
 ·simp[h14]
 by_cases h22:n.Kind=22
 ·simp[h22]
 by_cases h15:n.Kind=15
 ·simp[h15]
 by_cases h24:n.Kind=24
 ·simp[h24]
  cases ans n.Text<;>rfl
 by_cases h16:n.Kind=16
 ·simp[h16]
  cases s.Static<;>rfl
 simp[h13,h23,h14,h22,h15,h24,h16]
 by_cases h0:(entM s n).2=0
 ·rw[if_pos h0,if_pos h0]
  by_cases h21:n.Kind=21
  ·rw[if_pos h21,if_pos h21]
  ·rw[if_neg h21,if_neg h21]
   by_cases h1:(entM s n).1.Kind=1
   ·rw[if_pos h1,if_pos h1]
   ·rw[if_neg h1,if_neg h1]
 ·rw[if_neg h0,if_neg h0]
theorem aqi {s:B6} (hl:s.Table.length<=1000000) (hs:s.Seen.length<=1000000) {n:B5} {R:bh} (h1:n.Kind=18->R.2.2.1 s n=some (memM s 2 n (typF s n.Kids))) (h2:n.Kind=20->R.2.2.2.1 s n=some (memM s 3 n (typF s n.Kids))):
  nu R s n=some (entM s n):=by
 unfold nu entM entW
 rw[amq hl hs,aus hl,auq hl]
 by_cases h17:n.Kind=17
 ·rw[h17];rfl
 by_cases h19:n.Kind=19
 ·rw[h19];rfl
 by_cases h21:n.Kind=21
 ·rw[h21];rfl
 by_cases h18:n.Kind=18
 ·rw[h1 h18,h18];rfl
 by_cases h20:n.Kind=20
 ·rw[h2 h20,h20];rfl
 have hh:ghas n.Kind (gset 20 (some 69) (gset 18 (some 68) (gset 21 (some 67) (gset 19 (some 66) (gset 17 (some 65) ([]:GMap Int (Option Nat)))))))=false:=by
  simp[gset,ghas]
  refine⟨fun h=>h17 h.symm,fun h=>h19 h.symm,fun h=>h21 h.symm,fun h=>h18 h.symm,fun h=>h20 h.symm⟩
 rw[hh,if_pos (by rfl),if_neg h17,if_neg h19,if_neg h21,if_neg h18,if_neg h20]
theorem a1l :∀(k:Nat) (s:B6) (n:B5),s.Table.length<=1000000->s.Seen.length<=1000000->
  (4 * fi n<=k->(cr k).1 s n=some (entM s n))/\(4 * fi n+1<=k->(cr k).2.1 s n=some (typM s n))/\
  (4 * fi n<=k+1->(cr k).2.2.1 s n=some (memM s 2 n (typF s n.Kids))/\(cr k).2.2.2.1 s n=some (memM s 3 n (typF s n.Kids)))/\
  (4 * fi n<=k+2->∀kind fn,(∀id t,fn s.Table id t=some (has s.Table kind id t))->(cr k).2.2.2.2 s n fn=some (memM s kind n (typF s n.Kids))):=by
 intro k
 induction k with
 |zero=>
  intro s n _ _
  have:=ng n
  exact⟨fun h=>by omega,fun h=>by omega,fun h=>by omega,fun h=>by omega⟩
 |succ k ih=>
  intro s n hl hs
  obtain⟨i1,i2,i3,i4⟩:=ih s n hl hs
  refine⟨fun h=>?_,fun h=>?_,fun h=>⟨?_,?_⟩,fun h kind fn hfn=>?_⟩
  ·exact aqi hl hs (fun _=>(i3 om).1) fun _=>(i3 om).2
  ·exact auo (i1 om)
  ·show r4 (cr k) s n=_
   unfold r4
   rw[i4 om 2 vk (fun id t=>ahy hl id t)]
   rfl
  ·show mr (cr k) s n=_
   unfold mr
   rw[i4 om 3 uu (fun id t=>agn hl id t)]
   rfl
  ·refine aqh hl hs hfn fun f r hk=>?_
   have h1:=jk n
   rw[hk]at h1
   simp only[bz]at h1
   exact(ih s f hl hs).2.1 om
theorem aqn {s:B6} {n:B5} (hl:s.Table.length<=1000000) (hs:s.Seen.length<=1000000) (hn:fi n<=200000):u9 s n=some (entM s n):=(a1l 1048576 s n hl hs).1 om
end Go.Proofs.YtcndghapmoaidaaGreatDoor
set_option linter.unusedSectionVars false
set_option linter.unusedVariables false
set_option linter.unusedSimpArgs false
set_option maxRecDepth 100000
set_option maxHeartbeats 4000000
namespace Go.Proofs.YtcndghapmoaidaaGreatDoor
open Go Go.Cn
variable [Glob]
def rS (s:B6):C8:=C8.mk s.Table s.Class s.Static s.Seen
theorem akc {s:B6} (hl:s.Table.length<=1000000) (hs:s.Seen.length<=1000000) (t:Bt):sq (rS s) t=some (aio s t):=by
 have h:=aox (l:=s.Seen) (f:=fun k=>o0 (rS s) t k) (fun e=>e.Name==t) (fun e=>(e,(0:Int))) om (fun i x hx=>by
  unfold o0
  rw[if_pos sm]
  show(idx s.Seen i).bind _=_
  rw[dw hx,Option.bind_some]
  show(if(x.Name==t)=true then(idx s.Seen i).bind _ else _)=_
  rw[dw hx]
  rfl) (by
  unfold o0
  rw[if_neg dcd]) s.Seen.length (Nat.le_refl _)
 rw[List.take_length]at h
 unfold sq
 have e:w64 (((rS s).Seen.length:Int) - 1)=(s.Seen.length:Int) - 1:=cu (by unfold rS;simp only;omega) (by unfold rS;simp only;omega)
 rw[e,h,Option.bind_some]
 unfold aio
 cases s.Seen.reverse.find? (fun e=>e.Name==t)with
 |some e=>rfl
 |none=>
  dsimp only
  unfold abu um rS
  dsimp only
  rw[ant hl,Option.bind_some,oc om,Option.bind_some]
  unfold ownM anl
  rcases has s.Table 2 s.Class t with⟨a,b⟩
  rcases cls s.Table t with⟨c,d⟩
  dsimp only
  cases b<;>cases s.Static<;>cases a.Static<;>cases d<;>rfl
theorem ast {s:B6} (hl:s.Table.length<=1000000) (hs:s.Seen.length<=1000000) {n:B5} {kind:Int}
  {R:cb} (hR:∀f r,n.Kids=f::r->R.2.1 (rS s) f=some (typM s f)):ve R (rS s) n kind=some (memM s kind n (typF s n.Kids)):=by
 unfold ve memM
 cases hk:n.Kids with
 |nil=>rw[if_pos sm]
 |cons f r=>
  have e0:idx (f::r) (0:Int)=some f:=rfl
  rw[if_neg so,e0,Option.bind_some,akc hl hs,typF]
  have j4:o3 R (rS s) f kind n=some (if((cls s.Table (typM s f)).2&& !((typM s f)==[]))=true then ownM false (has s.Table kind (typM s f) n.Text)else(alc,180)):=by
   unfold o3 uo
   rw[hR f r hk,Option.bind_some]
   show(ms s.Table _).bind _=_
   have e3:(rS s).Table=s.Table:=rfl
   rw[oc om,Option.bind_some,e3,ant hl]
   unfold ownM
   rcases has s.Table kind (typM s f) n.Text with⟨a,b⟩
   rcases cls s.Table (typM s f)with⟨c,d⟩
   cases d<;>cases (typM s f==[])<;>cases b<;>rfl
  dsimp only
  cases h17:(f.Kind==17)
  ·rw[if_neg sm,j4]
   rfl
  ·rw[if_pos rfl,Option.bind_some]
   try dsimp only
   unfold un
   rw[j4]
   have e3:(rS s).Table=s.Table:=rfl
   rw[e3,ant hl]
   cases h0:((aio s f.Text).2==0)
   ·rfl
   ·cases h1:((aio s f.Text).1.Kind==1)
    ·rfl
    ·unfold ownM
     rcases has s.Table kind (aio s f.Text).1.Id n.Text with⟨a,b⟩
     rw[if_pos rfl,Option.bind_some]
     dsimp only
     cases b<;>cases a.Static<;>rfl
theorem asu {s:B6} (hl:s.Table.length<=1000000) (hs:s.Seen.length<=1000000) {n:B5} {R:cb} (h1:n.Kind=18->R.2.2 (rS s) n 2=some (memM s 2 n (typF s n.Kids))) (h2:n.Kind=20->R.2.2 (rS s) n 3=some (memM s 3 n (typF s n.Kids))):
  vf R (rS s) n=some (entM s n):=by
 unfold vf entM entW
 have e3:(rS s).Table=s.Table:=rfl
 have e4:(rS s).Class=s.Class:=rfl
 have e5:(rS s).Static=s.Static:=rfl
 rw[akc hl hs,e3,e4,e5,ant hl,oc om]
 by_cases h17:n.Kind=17
 ·rw[h17];rfl
 by_cases h19:n.Kind=19
 ·rw[if_neg (show ¬(n.Kind==17)=true by simp[h19]),if_pos (show(n.Kind==19)=true by simp[h19]),if_neg h17,if_pos h19]
  unfold uq ownM
  rcases has s.Table 3 s.Class n.Text with⟨a,b⟩
  rw[Option.bind_some]
  dsimp only
  cases b<;>cases s.Static<;>cases a.Static<;>rfl
 by_cases h21:n.Kind=21
 ·rw[h21]
  unfold anl
  cases (cls s.Table n.Text)with
  |mk a b=>cases b<;>rfl
 by_cases h18:n.Kind=18
 ·rw[h1 h18,h18];rfl
 by_cases h20:n.Kind=20
 ·rw[h2 h20,h20];rfl
 rw[if_neg (by simpa using h17),if_neg (by simpa using h19),if_neg (by simpa using h21),if_neg (by simpa using h18),if_neg (by simpa using h20),if_neg h17,if_neg h19,if_neg h21,if_neg h18,if_neg h20]
theorem axm {s:B6} {n:B5} (h17:n.Kind≠17) (h18:n.Kind≠18) (h19:n.Kind≠19) (h20:n.Kind≠20) (h21:n.Kind≠21):entM s n=(alc,0):=by
 unfold entM entW
 rw[if_neg h17,if_neg h19,if_neg h21,if_neg h18,if_neg h20]
theorem avp {s:B6} {n:B5} {R:cb} (hR:R.1 (rS s) n=some (entM s n)):zg R (rS s) n=some (typM s n):=by
 have e4:(rS s).Class=s.Class:=rfl
 have e5:(rS s).Static=s.Static:=rfl
 rw[ayk]
 unfold zg xm xn k6 k7 typW ans
 rw[hR,e4,e5]
 simp only[Option.bind_some]
 by_cases h13:n.Kind=13
 ·simp[h13]
 by_cases h23:n.Kind=23
 ·simp[h23]
 by_cases h14:n.Kind=14
 ·simp[h14]
 by_cases h22:n.Kind=22
 ·simp[h22]
 by_cases h15:n.Kind=15
 ·simp[h15]
 by_cases h24:n.Kind=24
 ·have c:∀v:Int,v≠24->¬((n.Kind==v)=true):=fun v hv=>by simp[h24];omega
  rw[if_neg (c 13 om),if_neg (by simp[h24]),if_neg (by simp[h24]),if_neg (by simp[h24]),if_neg (by simp[h24]),if_neg (by simp[h24]),if_pos (show(n.Kind==24)=true by simp[h24]),if_neg (show ¬(n.Kind=13\/n.Kind=23)by omega),if_neg (show ¬(n.Kind=14\/n.Kind=22)by omega),if_neg h15,if_pos h24]
  cases (n.Text==([43]:Bt))<;>cases (n.Text==([45]:Bt))<;>cases (n.Text==([42]:Bt))<;>cases (n.Text==([47]:Bt))<;>cases (n.Text==([37]:Bt))<;>rfl
 by_cases h16:n.Kind=16
 ·simp[h16]
  cases s.Static<;>rfl
 by_cases hx:n.Kind=17\/n.Kind=18\/n.Kind=19\/n.Kind=20\/n.Kind=21
 ·have key:∀b:Bool,b=true->(if b=true then(if((entM s n).2 != 0)=true then some []else if(n.Kind==21)=true then some (entM s n).1.Id else if((entM s n).1.Kind==1)=true then some []else some (entM s n).1.Type_)else some [])=some (if(entM s n).2≠0 then[]else if n.Kind=21 then(entM s n).1.Id else if(entM s n).1.Kind=1 then[]else(entM s n).1.Type_):=fun b hb=>by
   subst hb
   by_cases h0:(entM s n).2=0
   ·by_cases h21:n.Kind=21
    ·simp[h0,h21]
    ·by_cases h1:(entM s n).1.Kind=1<;>simp[h0,h21,h1]
   ·simp[h0]
  rw[if_neg (by simpa using h13),if_neg (by simpa using h23),if_neg (by simpa using h14),if_neg (by simpa using h22),if_neg (by simpa using h15),if_neg (by simpa using h16),if_neg (by simpa using h24),if_neg (show ¬(n.Kind=13\/n.Kind=23)by omega),if_neg (show ¬(n.Kind=14\/n.Kind=22)by omega),if_neg h15,if_neg h24,if_neg h16]
  rcases hx with h|h|h|h|h
  ·rw[if_pos (by simp[h])];exact key _ (by simp[h])
  ·rw[if_neg (by simp[h]),if_pos (by simp[h])];exact key _ (by simp[h])
  ·rw[if_neg (by simp[h]),if_neg (by simp[h]),if_pos (by simp[h])];exact key _ (by simp[h])
  ·rw[if_neg (by simp[h]),if_neg (by simp[h]),if_neg (by simp[h]),if_pos (by simp[h])];exact key _ (by simp[h])
  ·rw[if_neg (by simp[h]),if_neg (by simp[h]),if_neg (by simp[h]),if_neg (by simp[h])];exact key _ (by simp[h])
 ·have ho:=axm (s:=s) (n:=n) om om om om om
  rw[ho]
  have c:∀v:Int,n.Kind≠v->(n.Kind==v)=false:=fun v hv=>by simpa using hv
  rw[c 13 h13,c 23 h23,c 14 h14,c 22 h22,c 15 h15,c 24 h24,c 16 h16,c 17 om,c 18 om,c 19 om,c 20 om,c 21 om]
  rw[if_neg (show ¬(n.Kind=13\/n.Kind=23)by omega),if_neg (show ¬(n.Kind=14\/n.Kind=22)by omega),if_neg h15,if_neg h24,if_neg h16,if_neg (show ¬n.Kind=21 by omega)]
  rfl
theorem ref_all :∀(k:Nat) (s:B6) (n:B5),s.Table.length<=1000000->s.Seen.length<=1000000->
  (4 * fi n<=k->(lf k).1 (rS s) n=some (entM s n))/\(4 * fi n+1<=k->(lf k).2.1 (rS s) n=some (typM s n))/\
  (4 * fi n<=k+2->∀kind,(lf k).2.2 (rS s) n kind=some (memM s kind n (typF s n.Kids))):=by
 intro k
 induction k with
 |zero=>
  intro s n _ _
  have:=ng n
  exact⟨fun h=>by omega,fun h=>by omega,fun h=>by omega⟩
 |succ k ih=>
  intro s n hl hs
  obtain⟨i1,i2,i4⟩:=ih s n hl hs
  refine⟨fun h=>?_,fun h=>?_,fun h kind=>?_⟩
  ·exact asu hl hs (fun _=>i4 om 2) fun _=>i4 om 3
  ·exact avp (i1 om)
  ·refine ast hl hs fun f r hk=>?_
   have h1:=jk n
   rw[hk]at h1
   simp only[bz]at h1
   exact(ih s f hl hs).2.1 om
theorem ao6 {s:B6} {n:B5} (hl:s.Table.length<=1000000) (hs:s.Seen.length<=1000000) (hn:fi n<=200000):aeg (rS s) n=some (entM s n):=(ref_all 1048576 s n hl hs).1 om
end Go.Proofs.YtcndghapmoaidaaGreatDoor
set_option linter.unusedSectionVars false
set_option linter.unusedVariables false
set_option linter.unusedSimpArgs false
set_option maxRecDepth 100000
set_option maxHeartbeats 4000000
namespace Go.Proofs.YtcndghapmoaidaaGreatDoor
open Go Go.Cn
variable [Glob]
def amb (t:Bt):Bool:=t==tInt||t==anj||t==axz
def putW (w:B8) (at_:Int) (id:Bt):B8:=B8.mk (w.uses++[B7.mk w.file at_ id]) w.file w.method w.many
def yg (s:B6) (n:B5) (w:B8):B8 ⊕ B3:=
 if(decide (n.TypeAt<0)||amb n.Type_)=true then .inl w else if(cls s.Table n.Type_).2=true then .inl (putW w n.TypeAt (cls s.Table n.Type_).1.Id)else .inr (B3.mk 170 w.file n.TypeAt)
def va (s:B6) (n:B5) (w:B8):B8 ⊕ B3:=
 if(n.Kind==16&&s.Static)=true then .inr (B3.mk 171 w.file n.From)else if n.At<0 then .inl w else if n.Kind=1 then .inl (putW w n.At n.Text)else if n.Kind=2 then .inl (putW w n.At (ag8 s.Class n.Text))
 else if n.Kind=3 then .inl (putW w n.At (kh s.Class n.Text))else if decl n=true then .inl (putW w n.At (ag3 w.method w.many.toNat))else if(entM s n).2≠0 then .inr (B3.mk (entM s n).2 w.file n.At)else .inl (putW w n.At (entM s n).1.Id)
def n0 (isC:Bool) (c:Bt) (k:B5) (w:B8):B8:=if(isC&&k.Kind==3)=true then B8.mk w.uses w.file (kh c k.Text) 0 else w
def innS (s:B6) (x:B5):B6:=if(x.Kind==3)=true then {s with Static:=x.N==1} else s
def mg (x:B5) (w:B8):B8:=if decl x=true then B8.mk w.uses w.file w.method (w.many+1)else w
def locE (x:B5) (w:B8):A9:=A9.mk 4 (ag3 w.method w.many.toNat) x.Text w.method x.Type_ false [] w.file x.At
def outS (s:B6) (x:B5) (w:B8):B6:=if decl x=true then {s with Seen:=s.Seen++[locE x w]} else s
abbrev WM :=(B6 × B8) ⊕ B3
def finM (s:B6) (x:B5) (w:B8):WM->WM
 | .inr m=> .inr m
 | .inl p=> .inl (outS s x w,p.2)
mutual
def ki :B5->B6->B8->WM
 |⟨k,t,y,n,a,b,c,d,kids⟩,s,w=>
  match yg s ⟨k,t,y,n,a,b,c,d,kids⟩ w with
  | .inr m=> .inr m
  | .inl w=>if(k==18||k==20)=true then walkD kids ⟨k,t,y,n,a,b,c,d,kids⟩ s w else
   match va s ⟨k,t,y,n,a,b,c,d,kids⟩ w with
   | .inr m=> .inr m
   | .inl w=>finM s ⟨k,t,y,n,a,b,c,d,kids⟩ w (qw kids (k==1) s.Class (innS s ⟨k,t,y,n,a,b,c,d,kids⟩) (mg ⟨k,t,y,n,a,b,c,d,kids⟩ w))
def walkD :List B5->B5->B6->B8->WM
 | [],x,s,w=>match va s x w with
  | .inr m=> .inr m
  | .inl w=>finM s x w (.inl (innS s x,mg x w))
 |f::r,x,s,w=>match ki f s w with
  | .inr m=> .inr m
  | .inl p=>match va s x p.2 with
   | .inr m=> .inr m
   | .inl w=>finM s x w (qw r (x.Kind==1) s.Class (innS s x) (mg x w))
def qw :List B5->Bool->Bt->B6->B8->WM
 | [],_,_,s,w=> .inl (s,w)
 |k::r,isC,c,s,w=>match ki k s (n0 isC c k w)with
  | .inr m=> .inr m
  | .inl p=>qw r isC c p.1 p.2
end
def ut (x:B5) (s:B6) (w:B8):B8 ⊕ B3:=
 if(x.Kind==18||x.Kind==20)=true then(match x.Kids with| []=> .inl w|f::_=>match ki f s w with| .inr m=> .inr m| .inl p=> .inl p.2)else .inl w
def lq (x:B5):List B5:=if(x.Kind==18||x.Kind==20)=true then x.Kids.tail else x.Kids
theorem acf (x:B5) (s:B6) (w:B8):ki x s w=match yg s x w with
  | .inr m=> .inr m
  | .inl w=>match ut x s w with
   | .inr m=> .inr m
   | .inl w=>match va s x w with
    | .inr m=> .inr m
    | .inl w=>finM s x w (qw (lq x) (x.Kind==1) s.Class (innS s x) (mg x w)):=by
 obtain⟨k,t,y,n,a,b,c,d,kids⟩:=x
 rw[ki]
 unfold ut lq
 cases yg s ⟨k,t,y,n,a,b,c,d,kids⟩ w with
 |inr m=>rfl
 |inl w=>
  dsimp only
  by_cases hd:(k==18||k==20)=true
  ·rw[if_pos hd,if_pos hd,if_pos hd]
   cases kids with
   |nil=>
    rw[walkD]
    dsimp only
    cases va s ⟨k,t,y,n,a,b,c,d,[]⟩ w with
    |inr m=>rfl
    |inl w=>simp[qw]
   |cons f r=>
    rw[walkD]
    dsimp only
    cases ki f s w with
    |inr m=>rfl
    |inl p=>rfl
  ·rw[if_neg hd,if_neg hd,if_neg hd]
def gL (isC:Bool) (c:Bt):Nat->B6 × B8->B5->WM:=fun _ p k=>ki k p.1 (n0 isC c k p.2)
theorem an4 (isC:Bool) (c:Bt):∀(r:List B5) (i:Nat) (s:B6) (w:B8),qw r isC c s w=rowF (gL isC c) i r (s,w)
 | [],_,_,_=>by rw[qw];rfl
 |k::r,i,s,w=>by
  rw[qw]
  unfold rowF
  unfold gL
  dsimp only
  cases ki k s (n0 isC c k w)with
  |inr m=>rfl
  |inl p=>exact an4 isC c r (i+1) p.1 p.2
structure Pre (x:B5) (s:B6) (w:B8):Prop where
 okx:okB 1500 x
 tab:s.Table.length<=1000000
 cl:s.Class.length<=1500
 seen:s.Seen.length+fi x<=500000
 uses:w.uses.length+2 * fi x<=400000
 many:0<=w.many
 many2:w.many+fi x<=1000000
 meth:w.method.length<=4000
structure Inv (s0:B6) (w0:B8) (j u:Nat) (p:B6 × B8):Prop where
 tab:p.1.Table=s0.Table
 cl:p.1.Class=s0.Class
 seen:p.1.Seen.length<=s0.Seen.length+j
 uses:p.2.uses.length<=w0.uses.length+2 * u
 many:0<=p.2.many
 many2:p.2.many<=w0.many+u
 meth:p.2.method.length<=4000
 file:p.2.file=w0.file
def Post (x:B5) (s:B6) (w:B8):WM->Prop
 | .inl p=>Inv s w 1 (fi x) p
 | .inr m=>m.Code≠0
theorem ahe {s:B6} {x:B5} {w w':B8} (h:yg s x w= .inl w'):w'.uses.length<=w.uses.length+1/\w'.many=w.many/\w'.method=w.method/\w'.file=w.file:=by
 unfold yg at h
 split at h
 ·cases h;exact⟨by omega,rfl,rfl,rfl⟩
 ·split at h
  ·cases h;unfold putW;exact⟨by simp,rfl,rfl,rfl⟩
  ·cases h
theorem atz {s:B6} {x:B5} {w:B8} {m:B3} (h:yg s x w= .inr m):m.Code≠0:=by
 unfold yg at h
 split at h
 ·cases h
 ·split at h
  ·cases h
  ·cases h;exact(show(170:Int)≠0 by decide)
theorem att {s:B6} {x:B5} {w w':B8} (h:va s x w= .inl w'):w'.uses.length<=w.uses.length+1/\w'.many=w.many/\w'.method=w.method/\w'.file=w.file:=by
 have key:∀a i,(putW w a i).uses.length<=w.uses.length+1/\(putW w a i).many=w.many/\(putW w a i).method=w.method/\(putW w a i).file=w.file:=fun a i=>⟨by unfold putW;simp,rfl,rfl,rfl⟩
 unfold va at h
 repeat' split at h
 all_goals first
  |cases h;exact key _ _
  |cases h;exact⟨by omega,rfl,rfl,rfl⟩
  |cases h
theorem atu {s:B6} {x:B5} {w:B8} {m:B3} (h:va s x w= .inr m):m.Code≠0:=by
 unfold va at h
 repeat' split at h
 all_goals first
  |(cases h;assumption)
  |(cases h;exact(show(171:Int)≠0 by decide))
  |cases h
theorem at0 {n:Nat} (ih:∀x s w,fi x<=n->Pre x s w->Post x s w (ki x s w)) (isC:Bool) (c:Bt) (hc:c.length<=1500):∀(r:List B5) (s:B6) (w:B8),bz r<=n->okBL 1500 r->s.Table.length<=1000000->s.Class.length<=1500->s.Seen.length+bz r<=500000->w.uses.length+2 * bz r<=400000->0<=w.many->w.many+bz r<=1000000->w.method.length<=4000->
  match qw r isC c s w with| .inl p=>Inv s w r.length (bz r) p| .inr m=>m.Code≠0
 | [],s,w,_,_,_,_,_,_,h3,_,h5=>by rw[qw];exact⟨rfl,rfl,by simp,by simp,h3,by simp[bz],h5,rfl⟩
 |k::r,s,w,hn,hB,h1,h2,h3,h4,h5,h6,h7=>by
  simp only[bz,okBL]at hn hB h3 h4 h6
  have hk:=hB.1
  rw[adw]at hk
  have hm:=aig c k.Text
  have hs:(n0 isC c k w).uses=w.uses/\(n0 isC c k w).file=w.file/\0<=(n0 isC c k w).many/\(n0 isC c k w).many<=w.many/\(n0 isC c k w).method.length<=4000:=by
   unfold n0
   split
   ·exact⟨rfl,rfl,by simp,by simp;omega,by simp only;omega⟩
   ·exact⟨rfl,rfl,h5,by omega,h7⟩
  obtain⟨q1,q2,q3,q4,q5⟩:=hs
  have hp:=ih k s (n0 isC c k w) om ⟨hB.1,h1,h2,by omega,by rw[q1];omega,q3,by omega,q5⟩
  rw[qw]
  cases hw:ki k s (n0 isC c k w)with
  |inr m=>rw[hw]at hp;exact hp
  |inl p=>
   rw[hw]at hp
   have hp:Inv s (n0 isC c k w) 1 (fi k) p:=hp
   have g:=at0 ih isC c hc r p.1 p.2 om hB.2 (by rw[hp.tab];exact h1) (by rw[hp.cl];exact h2) (by have:=hp.seen;have:=ng k;omega) (by have:=hp.uses;rw[q1]at this;omega) hp.many (by have:=hp.many2;omega) hp.meth
   dsimp only
   cases hl:qw r isC c p.1 p.2 with
   |inr m=>rw[hl]at g;exact g
   |inl z=>
    rw[hl]at g
    have g:Inv p.1 p.2 r.length (bz r) z:=g
    refine⟨g.tab.trans hp.tab,g.cl.trans hp.cl,?_,?_,g.many,?_,g.meth,(g.file.trans hp.file).trans q2⟩
    ·have:=g.seen;have:=hp.seen;simp only[List.length_cons];omega
    ·have:=g.uses;have:=hp.uses;rw[q1]at this;simp only[bz];omega
    ·have:=g.many2;have:=hp.many2;simp only[bz];omega
theorem ac0 :∀(n:Nat) (x:B5) (s:B6) (w:B8),fi x<=n->Pre x s w->Post x s w (ki x s w):=by
 intro n
 induction n with
 |zero=>intro x _ _ h;have:=ng x;omega
 |succ n ih=>
  intro x s w hn hp
  have hs:=jk x
  have hB:=hp.okx
  rw[adw]at hB
  rw[acf]
  cases h1:yg s x w with
  |inr m=>exact atz h1
  |inl w1=>
   obtain⟨a1,a2,a3,a4⟩:=ahe h1
   dsimp only
   have hh:∃u,u+bz (lq x)<=bz x.Kids/\okBL 1500 (lq x)/\match ut x s w1 with| .inr m=>m.Code≠0| .inl w2=>w2.uses.length<=w1.uses.length+2 * u/\0<=w2.many/\w2.many<=w1.many+u/\w2.method.length<=4000/\w2.file=w1.file:=by
    have pm:=hp.many
    have pt:=hp.meth
    unfold ut lq
    by_cases hd:(x.Kind==18||x.Kind==20)=true
    ·rw[if_pos hd,if_pos hd]
     cases hk:x.Kids with
     |nil=>exact⟨0,by simp[bz],by simp[okBL],by omega,by omega,by omega,by rw[a3];exact pt,rfl⟩
     |cons f r=>
      rw[hk]at hs hB
      simp only[bz,okBL]at hs hB
      have g:=ih f s w1 om ⟨hB.2.1,hp.tab,hp.cl,by have:=hp.seen;omega,by have:=hp.uses;omega,by omega,by have:=hp.many2;omega,by rw[a3];exact pt⟩
      refine⟨fi f,by simp[bz],hB.2.2,?_⟩
      dsimp only
      cases hw:ki f s w1 with
      |inr m=>rw[hw]at g;exact g
      |inl p=>
       rw[hw]at g
       have g:Inv s w1 1 (fi f) p:=g
       exact⟨g.uses,g.many,g.many2,g.meth,g.file⟩
    ·rw[if_neg hd,if_neg hd]
     refine⟨0,by omega,hB.2,by omega,by omega,by omega,by rw[a3];exact pt,rfl⟩
   obtain⟨u,hu,hR,hh⟩:=hh
   cases h2:ut x s w1 with
   |inr m=>rw[h2]at hh;exact hh
   |inl w2=>
    rw[h2]at hh
    obtain⟨b1,b2,b3,b4,b5⟩:=hh
    dsimp only
    cases h3:va s x w2 with
    |inr m=>exact atu h3
    |inl w3=>
     obtain⟨c1,c2,c3,c4⟩:=att h3
     dsimp only
     have hb:(mg x w3).uses=w3.uses/\(mg x w3).file=w3.file/\(mg x w3).method=w3.method/\0<=(mg x w3).many/\(mg x w3).many<=w3.many+1:=by
      unfold mg
      split
      ·exact⟨rfl,rfl,rfl,by simp only;omega,by simp only;omega⟩
      ·exact⟨rfl,rfl,rfl,by omega,by omega⟩
     obtain⟨d1,d2,d3,d4,d5⟩:=hb
     have hi:(innS s x).Table=s.Table/\(innS s x).Class=s.Class/\(innS s x).Seen=s.Seen:=by
      unfold innS
      split<;>exact⟨rfl,rfl,rfl⟩
     obtain⟨e1,e2,e3⟩:=hi
     have pu:=hp.uses
     have ps:=hp.seen
     have pm:=hp.many2
     have g:=at0 ih (x.Kind==1) s.Class hp.cl (lq x) (innS s x) (mg x w3) om hR (by rw[e1];exact hp.tab) (by rw[e2];exact hp.cl) (by rw[e3];omega) (by rw[d1];omega) d4 om (by rw[d3,c3];exact b4)
     cases h4:qw (lq x) (x.Kind==1) s.Class (innS s x) (mg x w3)with
     |inr m=>rw[h4]at g;exact g
     |inl p=>
      rw[h4]at g
      have g:Inv (innS s x) (mg x w3) (lq x).length (bz (lq x)) p:=g
      have o1:(outS s x w3).Table=s.Table/\(outS s x w3).Class=s.Class/\(outS s x w3).Seen.length<=s.Seen.length+1:=by
       unfold outS
       split
       ·exact⟨rfl,rfl,by simp⟩
       ·exact⟨rfl,rfl,by omega⟩
      have g1:=g.uses
      have g2:=g.many2
      refine⟨o1.1,o1.2.1,o1.2.2,?_,g.many,?_,g.meth,?_⟩
      ·rw[d1]at g1;show p.2.uses.length<=_;omega
      ·show p.2.many<=_;omega
      ·show p.2.file=_;rw[g.file,d2,c4,b5,a4]
end Go.Proofs.YtcndghapmoaidaaGreatDoor
set_option linter.unusedSectionVars false
set_option linter.unusedVariables false
set_option linter.unusedSimpArgs false
set_option maxRecDepth 100000
set_option maxHeartbeats 4000000
namespace Go.Proofs.YtcndghapmoaidaaGreatDoor
open Go Go.Cn
variable [Glob]
def pxW {α:Type}:α ⊕ B3->PX B9 α
 | .inl w=> .ok w
 | .inr m=> .bad (B9.mk m)
def zM :B3:=B3.mk 0 0 0
def qS (w:B8):C7:=C7.mk w.uses zM w.file w.method w.many
def QE (m:B3) (q:C7):Prop:=q.M=m
theorem aow {w:B8} (h:w.uses.length<=1000000) (a:Int) (i:Bt):nm a i w=some (putW w a i):=by
 unfold nm
 rw[nz so so]
 rfl
theorem aqv {w:B8} (h:w.uses.length<=1000000) (a:Int) (i:Bt):kb a i (qS w)=some (qS (putW w a i)):=by
 unfold kb
 show(app 32 w.uses _).bind _=_
 rw[nz so so]
 rfl
theorem axg (t:Bt):([([105,110,116]:Bt),([98,111,111,108,101,97,110]:Bt),([118,111,105,100]:Bt)]:List Bt).any (t== ·)=amb t:=by
 unfold amb
 simp only[List.any_cons,List.any_nil,Bool.or_false,Bool.or_assoc]
theorem aur {s:B6} {x:B5} {w:B8} (hl:s.Table.length<=1000000) (h:w.uses.length<=1000000):rz s x w=some (pxW (yg s x w)):=by
 unfold rz
 rw[aot sm,axg,Option.bind_some]
 have j2:k9 w s x (decide (x.TypeAt<0)||amb x.Type_)=some (pxW (yg s x w)):=by
  unfold k9 rh yg
  by_cases hb:(decide (x.TypeAt<0)||amb x.Type_)=true
  ·rw[if_pos hb,if_pos hb];rfl
  ·rw[if_neg hb,if_neg hb,acu hl,Option.bind_some]
   dsimp only
   rw[ah0 s (cls s.Table x.Type_),Option.bind_some]
   unfold anl
   by_cases hc:(cls s.Table x.Type_).2=true
   ·rw[if_pos hc,if_pos hc]
    dsimp only
    unfold kz
    rw[if_neg dcd]
    show(nm x.TypeAt (cls s.Table x.Type_).1.Id w).bind _=_
    rw[aow h]
    rfl
   ·rw[if_neg hc,if_neg hc]
    rfl
 cases hd:decide (x.TypeAt<0)
 ·rw[hd,Bool.false_or]at j2;rw[if_neg sm];exact j2
 ·rw[hd,Bool.true_or]at j2;rw[if_pos rfl];exact j2
theorem avr {s:B6} {x:B5} {w:B8} (hl:s.Table.length<=1000000) (h:w.uses.length<=1000000):∃q,alw (rS s) x (qS w)=some q/\(match yg s x w with| .inl w'=>q=qS w'| .inr m=>QE m q):=by
 have j1:∃q,ux (qS w) (rS s) x (decide (x.TypeAt<0)||amb x.Type_)=some q/\(match yg s x w with| .inl w'=>q=qS w'| .inr m=>QE m q):=by
  unfold ux yg
  by_cases hb:(decide (x.TypeAt<0)||amb x.Type_)=true
  ·rw[if_pos hb,if_pos hb];exact⟨_,rfl,rfl⟩
  ·rw[if_neg hb,if_neg hb]
   have e3:(rS s).Table=s.Table:=rfl
   rw[e3,oc om,Option.bind_some]
   dsimp only
   by_cases hc:(cls s.Table x.Type_).2=true
   ·rw[if_neg (by rw[hc];decide),if_pos hc,aqv h]
    exact⟨_,rfl,rfl⟩
   ·rw[if_pos (by rw[Bool.eq_false_iff.2 hc];rfl),if_neg hc]
    exact⟨_,rfl,rfl⟩
 unfold alw
 cases hd:decide (x.TypeAt<0)
 ·rw[hd,Bool.false_or]at j1
  unfold amb at j1
  rw[if_neg sm]
  cases h1:(x.Type_==tInt)
  ·rw[h1,Bool.false_or]at j1
   rw[if_neg sm]
   cases h2:(x.Type_==anj)
   ·rw[h2,Bool.false_or]at j1;rw[if_neg sm];exact j1
   ·rw[h2,Bool.true_or]at j1;rw[if_pos rfl];exact j1
  ·rw[h1,Bool.true_or]at j1;rw[if_pos rfl];exact j1
 ·rw[hd,Bool.true_or]at j1;rw[if_pos rfl];exact j1
structure NPre (x:B5) (s:B6) (w:B8):Prop where
 okx:okB 1500 x
 size:fi x<=200000
 tab:s.Table.length<=1000000
 cl:s.Class.length<=1500
 seen:s.Seen.length<=1000000
 uses:w.uses.length<=1000000
 many:0<=w.many
 many2:w.many<=1000000
 meth:w.method.length<=4000
theorem NPre.loc {x:B5} {s:B6} {w:B8} (h:NPre x s w):ti w.method w.many=some (ag3 w.method w.many.toNat)/\o9 w.method w.many=some (ag3 w.method w.many.toNat):=by
 obtain⟨n,hn⟩:∃n:Nat,w.many=n:=⟨w.many.toNat,by have:=h.many;omega⟩
 have:=h.many2
 have:=h.meth
 rw[hn,Int.toNat_natCast]
 exact⟨aje om om,ajb om om⟩
theorem aup {s:B6} {x:B5} {w:B8} (hp:NPre x s w):ue s x w=some (pxW (va s x w)):=by
 have hB:=hp.okx
 rw[adw]at hB
 have hc:=hp.cl
 have hu:=hp.uses
 have ew:B8.mk w.uses w.file w.method w.many=w:=rfl
 have j3:(x.Kind==16&&s.Static)=false->l6 x s w.file w.method w.many w.uses=some (pxW (va s x w)):=fun h16=>by
  unfold l6 va tj
  rw[ew,h16,if_neg (show ¬(false=true)by simp),afc om,adn om]
  simp only[Option.bind_some]
  have j1:∀i,ij x i w.file w.method w.many w.uses=some (.ok (putW w x.At i)):=fun i=>by
   unfold ij
   rw[ew,aow om]
   rfl
  have j2:l7 w.method w.many x w.file w.uses s (decl x)=some (pxW (if decl x=true then .inl (putW w x.At (ag3 w.method w.many.toNat))else if(entM s x).2≠0 then .inr (B3.mk (entM s x).2 w.file x.At)else .inl (putW w x.At (entM s x).1.Id))):=by
   unfold l7
   rw[hp.loc.1,aqn hp.tab hp.seen (by have:=hp.size;omega),Option.bind_some,Option.bind_some,j1]
   dsimp only
   by_cases hd:decl x=true
   ·rw[if_pos hd,if_pos hd];rfl
   ·rw[if_neg hd,if_neg hd,ew]
    unfold kz
    by_cases h0:(entM s x).2=0
    ·rw[if_neg (by simp[h0]),if_neg (by simp[h0])]
     exact j1 _
    ·rw[if_pos (by simpa using h0),if_pos h0]
     rfl
  by_cases ha:x.At<0
  ·rw[if_pos (by simpa using ha),if_pos ha];rfl
  ·rw[if_neg (by simpa using ha),if_neg ha]
   by_cases h1:x.Kind=1
   ·rw[if_pos (by simp[h1]),if_pos h1,j1];rfl
   ·rw[if_neg (by simpa using h1),if_neg h1]
    by_cases h2:x.Kind=2
    ·rw[if_pos (by simp[h2]),if_pos h2,j1];rfl
    ·rw[if_neg (by simpa using h2),if_neg h2]
     by_cases h3:x.Kind=3
     ·rw[if_pos (by simp[h3]),if_pos h3,j1];rfl
     ·rw[if_neg (by simpa using h3),if_neg h3]
      have e:decl x=((x.Kind==4)||(x.Kind==6)):=rfl
      rw[← j2,e]
      cases (x.Kind==4)<;>rfl
 unfold ue ou
 cases h16:(x.Kind==16)
 ·rw[if_neg sm,if_neg sm]
  exact j3 (by rw[h16];rfl)
 ·rw[if_pos rfl]
  by_cases hs:s.Static=true
  ·rw[if_pos hs]
   unfold va
   rw[h16,hs,if_pos (by rfl)]
   rfl
  ·rw[if_neg hs]
   exact j3 (by rw[Bool.eq_false_iff.2 hs,Bool.and_false])
theorem avq {s:B6} {x:B5} {w:B8} (hp:NPre x s w):∃q,an8 (rS s) x (qS w)=some q/\(match va s x w with| .inl w'=>q=qS w'| .inr m=>QE m q):=by
  have hB:=hp.okx
  rw[adw]at hB
  have hc:=hp.cl
  have hu:=hp.uses
  have e4:(rS s).Class=s.Class:=rfl
  have e5:(rS s).Static=s.Static:=rfl
  have put:∀a i,kb a i (qS w)=some (qS (putW w a i)):=aqv om
  have j5:∃q,ad3 x (qS w) (rS s) (x.Kind==16&&s.Static)=some q/\(match va s x w with| .inl w'=>q=qS w'| .inr m=>QE m q):=by
    unfold ad3 amf ame va
    rw[e4,ajc om,adl om]
    simp only[Option.bind_some,put]
    by_cases h16:(x.Kind==16&&s.Static)=true
    · rw[if_pos h16,if_pos h16]
      exact⟨_,rfl,rfl⟩
    · rw[if_neg h16,if_neg h16]
      by_cases ha:x.At<0
      · rw[if_pos (by simpa using ha),if_pos ha];exact⟨_,rfl,rfl⟩
      · rw[if_neg (by simpa using ha),if_neg ha]
        by_cases h1:x.Kind=1
        · rw[if_pos (by simp[h1]),if_pos h1];exact⟨_,rfl,rfl⟩
        · rw[if_neg (by simpa using h1),if_neg h1]
          by_cases h2:x.Kind=2
          · rw[if_pos (by simp[h2]),if_pos h2];exact⟨_,rfl,rfl⟩
          · rw[if_neg (by simpa using h2),if_neg h2]
            by_cases h3:x.Kind=3
            · rw[if_pos (by simp[h3]),if_pos h3];exact⟨_,rfl,rfl⟩
            · rw[if_neg (by simpa using h3),if_neg h3]
              have j4:∃q,ad4 (qS w) x (rS s) (decl x)=some q/\(match (if decl x=true then .inl (putW w x.At (ag3 w.method w.many.toNat))else if(entM s x).2≠0 then .inr (B3.mk (entM s x).2 w.file x.At)else .inl (putW w x.At (entM s x).1.Id):B8 ⊕ B3)with| .inl w'=>q=qS w'| .inr m=>QE m q):=by
                unfold ad4 amd
                have el:o9 (qS w).Method (qS w).Many=some (ag3 w.method w.many.toNat):=hp.loc.2
                rw[el,ao6 hp.tab hp.seen (by have:=hp.size;omega)]
                simp only[Option.bind_some,put]
                by_cases hd:decl x=true
                · rw[if_pos hd,if_pos hd];exact⟨_,rfl,rfl⟩
                · rw[if_neg hd,if_neg hd]
                  by_cases h0:(entM s x).2=0
                  · rw[if_neg (by simp[h0]),if_neg (by simp[h0])];exact⟨_,rfl,rfl⟩
                  · rw[if_pos (by simpa using h0),if_pos h0];exact⟨_,rfl,rfl⟩
              have e:decl x=((x.Kind==4)||(x.Kind==6)):=rfl
              rw[e]at j4 ⊢
              cases h4:(x.Kind==4)
              · rw[h4,Bool.false_or]at j4;rw[if_neg (show ¬(false=true)by simp)];exact j4
              · rw[h4,Bool.true_or]at j4;exact j4
  unfold an8
  rw[e5]
  cases h16:(x.Kind==16)
  · rw[h16,Bool.false_and]at j5;rw[if_neg sm];exact j5
  · rw[h16,Bool.true_and]at j5;rw[if_pos rfl];exact j5
end Go.Proofs.YtcndghapmoaidaaGreatDoor
set_option linter.unusedSectionVars false
set_option linter.unusedVariables false
set_option linter.unusedSimpArgs false
set_option maxRecDepth 100000
set_option maxHeartbeats 4000000
namespace Go.Proofs.YtcndghapmoaidaaGreatDoor
open Go Go.Cn
variable [Glob]
structure LPre (r:List B5) (s:B6) (w:B8):Prop where
 okx:okBL 1500 r
 tab:s.Table.length<=1000000
 cl:s.Class.length<=1500
 seen:s.Seen.length+bz r<=500000
 uses:w.uses.length+2 * bz r<=400000
 many:0<=w.many
 many2:w.many+bz r<=1000000
 meth:w.method.length<=4000
theorem azd (isC:Bool) {c:Bt} (hc:c.length<=1500) {y:B5} (hy:okB 1500 y) {w:B8} (hm:w.method.length<=4000) (h0:0<=w.many):
  (n0 isC c y w).uses=w.uses/\(n0 isC c y w).file=w.file/\0<=(n0 isC c y w).many/\(n0 isC c y w).many<=w.many/\(n0 isC c y w).method.length<=4000:=by
 rw[adw]at hy
 have:=aig c y.Text
 unfold n0
 split
 ·exact⟨rfl,rfl,by simp,by simp;omega,by simp only;omega⟩
 ·exact⟨rfl,rfl,h0,by omega,hm⟩
theorem Inv.step {r:List B5} {s:B6} {w:B8} (hL:LPre r s w) {i:Nat} {y:B5} {p:B6 × B8} (hy:r[i]? =some y) (hi:Inv s w i (bz (r.take i)) p) (isC:Bool) {c:Bt} (hc:c.length<=1500):
  Pre y p.1 (n0 isC c y p.2)/\∀p',ki y p.1 (n0 isC c y p.2)= .inl p'->Inv s w (i+1) (bz (r.take (i+1))) p':=by
 have hB:=aab hL.okx (kw hy)
 obtain⟨q1,q2,q3,q4,q5⟩:=azd isC hc hB hi.meth hi.many
 obtain⟨t1,t2⟩:=ni hy
 have t3:=xr hy
 have a1:=hi.seen
 have a2:=hi.uses
 have a3:=hi.many2
 have b1:=hL.seen
 have b2:=hL.uses
 have b3:=hL.many2
 have hP:Pre y p.1 (n0 isC c y p.2):=⟨hB,by rw[hi.tab];exact hL.tab,by rw[hi.cl];exact hL.cl,by omega,by rw[q1];omega,q3,by omega,q5⟩
 refine⟨hP,fun p' e=>?_⟩
 have g:=ac0 (fi y) y p.1 (n0 isC c y p.2) (Nat.le_refl _) hP
 rw[e]at g
 have g:Inv p.1 (n0 isC c y p.2) 1 (fi y) p':=g
 refine⟨g.tab.trans hi.tab,g.cl.trans hi.cl,?_,?_,g.many,?_,g.meth,(g.file.trans q2).trans hi.file⟩
 ·have:=g.seen;omega
 ·have:=g.uses;rw[q1]at this;omega
 ·have:=g.many2;omega
theorem Inv.zero {r:List B5} {s:B6} {w:B8} (hL:LPre r s w):Inv s w 0 (bz (r.take 0)) (s,w):=⟨rfl,rfl,by simp,by simp,hL.many,by simp[bz],hL.meth,rfl⟩
theorem azu {k:Nat} (ih:∀x s w,fi x<=k->fi x<=100000->Pre x s w->bo k s x w=some (pxW (ki x s w))) {x:B5} {s0:B6} (hc:s0.Class.length<=1500) {r:List B5} (hr:bz r<=k) (hr2:bz r<=100000) {s:B6} {w:B8} (hL:LPre r s w):
  Ok (Fin' (fun o p=>o= .next (p.2.file,p.2.method,p.2.many,p.2.uses,p.1)) (fun o m=>o= .done (.bad (B9.mk m))) (rowF (gL (x.Kind==1) s0.Class) 0 r (s,w)))
   (iter (fun t=>iw (bo k) r x s0 t.1 t.2.1 t.2.2.1 t.2.2.2.1 t.2.2.2.2.1 t.2.2.2.2.2) (0,w.file,w.method,w.many,s,w.uses)):=by
 refine rowM (l:=r) (f:=fun t:Int × Int × Bt × Int × B6 × List B7=>iw (bo k) r x s0 t.1 t.2.1 t.2.2.1 t.2.2.2.1 t.2.2.2.2.1 t.2.2.2.2.2) (gL (x.Kind==1) s0.Class)
  (fun i t p=>t=((i:Int),p.2.file,p.2.method,p.2.many,p.1,p.2.uses)/\Inv s w i (bz (r.take i)) p) _ _ (fun i y t p hy h=>?_) (fun t p h=>?_) r 0 _ (s,w) rfl (Nat.zero_le _) ⟨rfl,Inv.zero hL⟩
 ·obtain⟨rfl,hi⟩:=h
  dsimp only
  obtain⟨hP,hN⟩:=hi.step hL hy (x.Kind==1) hc
  have t3:=xr hy
  have hsz:=aj4 hy
  have hB:=aab hL.okx (kw hy)
  rw[adw]at hB
  unfold iw
  rw[if_pos (gn hy),dw hy,Option.bind_some]
  have j5:Ok (Step (fun t p=>t=(((i+1:Nat):Int),p.2.file,p.2.method,p.2.many,p.1,p.2.uses)/\Inv s w (i+1) (bz (r.take (i+1))) p) (fun o m=>o= .done (.bad (B9.mk m))) (gL (x.Kind==1) s0.Class i p y)) (js (bo k) s0 y p.1 p.2.uses p.2.file i p.2.method p.2.many (x.Kind==1&&y.Kind==3)):=by
   have e:js (bo k) s0 y p.1 p.2.uses p.2.file i p.2.method p.2.many (x.Kind==1&&y.Kind==3)=anm (bo k p.1 y (n0 (x.Kind==1) s0.Class y p.2)) (fun m65=>some (.inr (.done (.bad m65)))) fun(x62,x63)=>some (.inl (w64 ((i:Int)+1),x63.file,x63.method,x63.many,x62,x63.uses)):=by
    unfold js np n0
    rw[adn om]
    cases (x.Kind==1&&y.Kind==3)<;>rfl
   rw[e,ih y p.1 _ om om hP,abv om]
   unfold gL
   cases hw:ki y p.1 (n0 (x.Kind==1) s0.Class y p.2)with
   |inr m=>exact .mk ⟨_,rfl,rfl⟩
   |inl p'=>exact .mk ⟨_,rfl,rfl,hN p' hw⟩
  cases h1:(x.Kind==1)
  ·rw[h1,Bool.false_and]at j5;rw[if_neg sm];exact j5
  ·rw[h1,Bool.true_and]at j5;rw[if_pos rfl];exact j5
 ·obtain⟨rfl,hi⟩:=h
  dsimp only
  unfold iw
  rw[if_neg (gw (Nat.le_refl _))]
  exact .mk ⟨_,rfl,rfl⟩
def HP (x:B5) (s:B6) (w1:B8) (u:Nat):B8 ⊕ B3->Prop
 | .inr m=>m.Code≠0
 | .inl w2=>w2.uses.length<=w1.uses.length+2 * u/\0<=w2.many/\w2.many<=w1.many+u/\w2.method.length<=4000/\w2.file=w1.file
theorem ane {x:B5} {s:B6} {w w1:B8} (hp:Pre x s w) (h1:yg s x w= .inl w1):∃u,u+bz (lq x)<=bz x.Kids/\okBL 1500 (lq x)/\HP x s w1 u (ut x s w1):=by
 obtain⟨a1,a2,a3,a4⟩:=ahe h1
 have hs:=jk x
 have hB:=hp.okx
 rw[adw]at hB
 have pm:=hp.many
 have pt:=hp.meth
 have pu:=hp.uses
 unfold ut lq
 by_cases hd:(x.Kind==18||x.Kind==20)=true
 ·rw[if_pos hd,if_pos hd]
  cases hk:x.Kids with
  |nil=>exact⟨0,by simp[bz],by simp[okBL],by omega,by omega,by omega,by rw[a3];exact pt,rfl⟩
  |cons f r=>
   rw[hk]at hs hB
   simp only[bz,okBL]at hs hB
   have g:=ac0 _ f s w1 (Nat.le_refl _) ⟨hB.2.1,hp.tab,hp.cl,by have:=hp.seen;omega,by omega,by omega,by have:=hp.many2;omega,by rw[a3];exact pt⟩
   refine⟨fi f,by simp[bz],hB.2.2,?_⟩
   dsimp only
   cases hw:ki f s w1 with
   |inr m=>rw[hw]at g;exact g
   |inl p=>
    rw[hw]at g
    have g:Inv s w1 1 (fi f) p:=g
    exact⟨g.uses,g.many,g.many2,g.meth,g.file⟩
 ·rw[if_neg hd,if_neg hd]
  exact⟨0,by omega,hB.2,by omega,by omega,by omega,by rw[a3];exact pt,rfl⟩
theorem at2 {x:B5} {s:B6} {w w1 w2 w3:B8} (hp:Pre x s w) (h1:yg s x w= .inl w1) (h2:ut x s w1= .inl w2) (h3:va s x w2= .inl w3):LPre (lq x) (innS s x) (mg x w3)/\NPre x s w3:=by
 obtain⟨a1,a2,a3,a4⟩:=ahe h1
 obtain⟨u,hu,hR,hh⟩:=ane hp h1
 rw[h2]at hh
 obtain⟨b1,b2,b3,b4,b5⟩:=hh
 obtain⟨c1,c2,c3,c4⟩:=att h3
 have hs:=jk x
 have pu:=hp.uses
 have ps:=hp.seen
 have pm:=hp.many2
 have hb:(mg x w3).uses=w3.uses/\(mg x w3).method=w3.method/\0<=(mg x w3).many/\(mg x w3).many<=w3.many+1:=by
  unfold mg
  split
  ·exact⟨rfl,rfl,by simp only;omega,by simp only;omega⟩
  ·exact⟨rfl,rfl,by omega,by omega⟩
 obtain⟨d1,d3,d4,d5⟩:=hb
 have hi:(innS s x).Table=s.Table/\(innS s x).Class=s.Class/\(innS s x).Seen=s.Seen:=by
  unfold innS
  split<;>exact⟨rfl,rfl,rfl⟩
 obtain⟨e1,e2,e3⟩:=hi
 exact⟨⟨hR,by rw[e1];exact hp.tab,by rw[e2];exact hp.cl,by rw[e3];omega,by rw[d1];omega,d4,by omega,by rw[d3,c3];exact b4⟩,
  ⟨hp.okx,by omega,hp.tab,hp.cl,by omega,by omega,by omega,by omega,by rw[c3];exact b4⟩⟩
theorem awm {x:B5} {s:B6} {w w1 w2:B8} (hp:Pre x s w) (h1:yg s x w= .inl w1) (h2:ut x s w1= .inl w2):NPre x s w2:=by
 obtain⟨a1,a2,a3,a4⟩:=ahe h1
 obtain⟨u,hu,hR,hh⟩:=ane hp h1
 rw[h2]at hh
 obtain⟨b1,b2,b3,b4,b5⟩:=hh
 have hs:=jk x
 have pu:=hp.uses
 have ps:=hp.seen
 have pm:=hp.many2
 exact⟨hp.okx,by omega,hp.tab,hp.cl,by omega,by omega,by omega,by omega,b4⟩
theorem at5 {x f:B5} {r:List B5} {s:B6} {w w1:B8} (hp:Pre x s w) (h1:yg s x w= .inl w1) (hk:x.Kids=f::r):Pre f s w1/\fi f<fi x:=by
 obtain⟨a1,a2,a3,a4⟩:=ahe h1
 have hs:=jk x
 have hB:=hp.okx
 rw[adw,hk]at hB
 rw[hk]at hs
 simp only[bz,okBL]at hs hB
 exact⟨⟨hB.2.1,hp.tab,hp.cl,by have:=hp.seen;omega,by have:=hp.uses;omega,by have:=hp.many;omega,by have:=hp.many2;omega,by rw[a3];exact hp.meth⟩,by omega⟩
theorem ay8 : ∀ (k : Nat) (x : B5) (s : B6) (w : B8), fi x <= k -> fi x <= 100000 -> Pre x s w -> bo k s x w = some (pxW (ki x s w)) := by
  intro k
  induction k with
  |zero=>intro x _ _ h;have:=ng x;omega
  |succ k ih=>
    intro x s w hx hx2 hp
    have hs:=jk x
    show oz (bo k) s x w=_
    unfold oz
    rw[aur hp.tab (by have:=hp.uses;omega),acf]
    cases h1:yg s x w with
    |inr m=>rfl
    |inl w1=>
      have j9:∀w2,ut x s w1= .inl w2->k8 (bo k) s x (lq x) w2.file w2.method w2.many w2.uses=some (pxW (match va s x w2 with
        | .inr m=> .inr m
        | .inl w=>finM s x w (qw (lq x) (x.Kind==1) s.Class (innS s x) (mg x w)))):=fun w2 h2=>by
        have hN:=awm hp h1 h2
        unfold k8
        have ew:B8.mk w2.uses w2.file w2.method w2.many=w2:=rfl
        rw[ew,aup hN]
        cases h3:va s x w2 with
        |inr m=>rfl
        |inl w3=>
          obtain⟨hL,hN3⟩:=at2 hp h1 h2 h3
          obtain⟨u,hu,_,_⟩:=ane hp h1
          show(if(x.Kind==4)=true then gr (bo k) w3 (lq x) x s true else gr (bo k) w3 (lq x) x s (x.Kind==6))=_
          have j8:gr (bo k) w3 (lq x) x s (decl x)=some (pxW (finM s x w3 (qw (lq x) (x.Kind==1) s.Class (innS s x) (mg x w3)))):=by
            have hmany:w64 (w3.many+1)=w3.many+1:=cu (by have:=hN3.many;omega) (by have:=hN3.many2;omega)
            have e:gr (bo k) w3 (lq x) x s (decl x)=jr (bo k) (lq x) x s w3 (decl x) (ag3 w3.method w3.many.toNat) (mg x w3).many (innS s x):=by
              unfold gr rg mg innS
              rw[hN3.loc.1,Option.bind_some,hmany]
              cases hd:decl x
              · cases (x.Kind==3)<;>rfl
              · have h3:(x.Kind==3)=false:=by
                  unfold decl at hd
                  simp at hd
                  simp
                  omega
                rw[h3]
                rfl
            rw[e]
            unfold jr
            have eb:(mg x w3).file=w3.file/\(mg x w3).method=w3.method/\(mg x w3).uses=w3.uses:=by
              unfold mg
              split<;>exact⟨rfl,rfl,rfl⟩
            obtain⟨o,e1,ho⟩:=azu ih (x:=x) (s0:=s) hp.cl (r:=lq x) om om hL
            rw[eb.1,eb.2.1,eb.2.2]at e1
            rw[e1,Option.bind_some,an4 _ _ _ 0]
            revert ho
            cases rowF (gL (x.Kind==1) s.Class) 0 (lq x) (innS s x,mg x w3)with
            |inr m=>rintro rfl;rfl
            |inl p=>
              rintro rfl
              dsimp only
              unfold rf nq ad0 finM outS
              cases decl x
              · rfl
              · rw[if_pos rfl,nz (by simp;have:=hN3.seen;omega) (by simp;have:=hN3.seen;omega),Option.bind_some,nz (by simp;have:=hN3.seen;omega) (by simp;have:=hN3.seen;omega)]
                rfl
          have e:decl x=((x.Kind==4)||(x.Kind==6)):=rfl
          refine Eq.trans ?_ j8
          rw[e]
          cases (x.Kind==4)<;>rfl
      show(if(x.Kind==18)=true then fh (bo k) x s w1 (decide ((x.Kids.length:Int)>0))else if(x.Kind==20)=true then fh (bo k) x s w1 (decide ((x.Kids.length:Int)>0))else fh (bo k) x s w1 false)=_
      dsimp only
      have j11:fh (bo k) x s w1 ((x.Kind==18||x.Kind==20)&&decide ((x.Kids.length:Int)>0))=some (pxW (match ut x s w1 with
          | .inr m=> .inr m
          | .inl w=>match va s x w with
            | .inr m=> .inr m
            | .inl w=>finM s x w (qw (lq x) (x.Kind==1) s.Class (innS s x) (mg x w)))):=by
        unfold fh
        by_cases hd:(x.Kind==18||x.Kind==20)=true
        · rw[hd,Bool.true_and]
          cases hk:x.Kids with
          |nil=>
            rw[if_neg sm]
            have e1:ut x s w1= .inl w1:=by
              unfold ut
              rw[if_pos hd,hk]
            have e2:lq x=[]:=by
              unfold lq
              rw[if_pos hd,hk]
              rfl
            have:=j9 w1 e1
            rw[e2]at this
            rw[this,e1,e2]
          |cons f r=>
            obtain⟨hf,hlt⟩:=at5 hp h1 hk
            have e0:idx (f::r) (0:Int)=some f:=rfl
            rw[if_pos (by simp<;>omega),e0,Option.bind_some,ih f s w1 om om hf]
            have e1:ut x s w1=match ki f s w1 with| .inr m=> .inr m| .inl p=> .inl p.2:=by
              unfold ut
              rw[if_pos hd,hk]
              try rfl
            have e2:lq x=r:=by
              unfold lq
              rw[if_pos hd,hk]
              rfl
            cases hw:ki f s w1 with
            |inr m=>
              rw[hw]at e1
              rw[e1]
              rfl
            |inl p=>
              rw[hw]at e1
              rw[e1]
              show mn (bo k) x s p.2=_
              unfold mn
              have es:subL x.Kids 1 (x.Kids.length:Int)=some (lq x):=by
                rw[hk,e2]
                unfold subL
                rw[if_pos so,Int.toNat_natCast,List.take_length]
                rfl
              rw[es,Option.bind_some]
              exact j9 p.2 e1
        · rw[Bool.eq_false_iff.2 hd,Bool.false_and,if_neg sm]
          have e1:ut x s w1= .inl w1:=by
            unfold ut
            rw[if_neg hd]
          have e2:lq x=x.Kids:=by
            unfold lq
            rw[if_neg hd]
          have:=j9 w1 e1
          rw[e1]
          rw[e2]at this ⊢
          exact this
      refine Eq.trans ?_ j11
      cases (x.Kind==18)<;>cases (x.Kind==20)<;>rfl
end Go.Proofs.YtcndghapmoaidaaGreatDoor
set_option linter.unusedSectionVars false
set_option linter.unusedVariables false
set_option linter.unusedSimpArgs false
set_option maxRecDepth 100000
set_option maxHeartbeats 4000000
namespace Go.Proofs.YtcndghapmoaidaaGreatDoor
open Go Go.Cn
variable [Glob]
def RefP :WM->C7 × C8->Prop
 | .inl p,r=>r=(qS p.2,rS p.1)
 | .inr m,r=>QE m r.1
theorem ax6 (w:B8):lg (qS w)=some false:=rfl
theorem ax7 {m:B3} {q:C7} (h:QE m q) (hm:m.Code≠0):lg q=some true:=by
 unfold lg
 rw[h]
 simpa using hm
theorem a00 {k:Nat} (ih:∀x s w,fi x<=k->fi x<=100000->Pre x s w->∃r,db k (rS s) x (qS w)=some r/\RefP (ki x s w) r) {x:B5} {s0:B6} (hc:s0.Class.length<=1500) {j:Nat} {r:List B5} (hj:x.Kids.drop j=r) (hj2:j<=x.Kids.length) (hr:bz r<=k) (hr2:bz r<=100000) (hlen:x.Kids.length<=1000000) {s:B6} {w:B8} (hL:LPre r s w):
  Ok (Fin' (fun o p=>o= .next (p.2.uses,zM,p.2.file,p.2.method,p.2.many,rS p.1)) (fun o m=>∃q,o= .done (q,rS s0)/\QE m q) (rowF (gL (x.Kind==1) s0.Class) j r (s,w)))
   (iter (fun t=>uw (db k) x (rS s0) t.1 t.2.1 t.2.2.1 t.2.2.2.1 t.2.2.2.2.1 t.2.2.2.2.2.1 t.2.2.2.2.2.2) ((j:Int),zM,w.file,w.method,w.many,rS s,w.uses)):=by
 have get:∀i y,j<=i->x.Kids[i]? =some y->r[i - j]? =some y:=fun i y h1 h2=>by
  rw[← hj,List.getElem?_drop,show j+(i - j)=i by omega]
  exact h2
 refine rowM (l:=x.Kids) (f:=fun t:Int × B3 × Int × Bt × Int × C8 × List B7=>uw (db k) x (rS s0) t.1 t.2.1 t.2.2.1 t.2.2.2.1 t.2.2.2.2.1 t.2.2.2.2.2.1 t.2.2.2.2.2.2) (gL (x.Kind==1) s0.Class)
  (fun i t p=>j<=i/\t=((i:Int),zM,p.2.file,p.2.method,p.2.many,rS p.1,p.2.uses)/\Inv s w (i - j) (bz (r.take (i - j))) p) _ _ (fun i y t p hy h=>?_) (fun t p h=>?_) r j _ (s,w) hj hj2 ⟨Nat.le_refl _,rfl,by rw[Nat.sub_self];exact Inv.zero hL⟩
 ·obtain⟨hij,rfl,hi⟩:=h
  dsimp only
  have hy':=get i y hij hy
  obtain⟨hP,hN⟩:=hi.step hL hy' (x.Kind==1) hc
  have t3:=mi hy
  have hsz:=aj4 hy'
  have hB:=aab hL.okx (kw hy')
  rw[adw]at hB
  unfold uw
  rw[if_pos (gn hy),dw hy,Option.bind_some]
  have j5:Ok (Step (fun t p=>j<=i+1/\t=(((i+1:Nat):Int),zM,p.2.file,p.2.method,p.2.many,rS p.1,p.2.uses)/\Inv s w (i+1 - j) (bz (r.take (i+1 - j))) p) (fun o m=>∃q,o= .done (q,rS s0)/\QE m q) (gL (x.Kind==1) s0.Class i p y)) (vn (db k) x i (rS s0) (rS p.1) p.2.uses zM p.2.file p.2.method p.2.many (x.Kind==1&&y.Kind==3)):=by
   have e:vn (db k) x i (rS s0) (rS p.1) p.2.uses zM p.2.file p.2.method p.2.many (x.Kind==1&&y.Kind==3)=(db k (rS p.1) y (qS (n0 (x.Kind==1) s0.Class y p.2))).bind fun(x490,x491)=>aez (db k) (rS s0) i x490 x491:=by
    unfold vn ai6 aey n0
    have e4:(rS s0).Class=s0.Class:=rfl
    rw[dw hy,e4]
    simp only[Option.bind_some]
    rw[adl om]
    cases (x.Kind==1&&y.Kind==3)<;>rfl
   obtain⟨⟨q,s'⟩,e2,hq⟩:=ih y p.1 _ om om hP
   have gp:=ac0 (fi y) y p.1 (n0 (x.Kind==1) s0.Class y p.2) (Nat.le_refl _) hP
   rw[e,e2,Option.bind_some]
   dsimp only
   unfold aez ake gL
   cases hw:ki y p.1 (n0 (x.Kind==1) s0.Class y p.2)with
   |inr m=>
    rw[hw]at hq gp
    have hq:QE m q:=hq
    rw[ax7 hq gp]
    exact .mk ⟨_,rfl,_,rfl,hq⟩
   |inl p'=>
    rw[hw]at hq
    have hq:(q,s')=(qS p'.2,rS p'.1):=hq
    injection hq with h1 h2
    subst h1 h2
    rw[ax6,Option.bind_some,if_neg sm,abv om]
    have:=hN p' hw
    rw[show i - j+1=i+1 - j by omega]at this
    exact .mk ⟨_,rfl,by omega,rfl,this⟩
  cases h1:(x.Kind==1)
  ·rw[h1,Bool.false_and]at j5;rw[if_neg sm];exact j5
  ·rw[h1,Bool.true_and]at j5;rw[if_pos rfl];exact j5
 ·obtain⟨_,rfl,hi⟩:=h
  dsimp only
  unfold uw
  rw[if_neg (gw (Nat.le_refl _))]
  exact .mk ⟨_,rfl,rfl⟩
theorem a0e :∀(k:Nat) (x:B5) (s:B6) (w:B8),fi x<=k->fi x<=100000->Pre x s w->∃r,db k (rS s) x (qS w)=some r/\RefP (ki x s w) r:=by
 intro k
 induction k with
 |zero=>intro x _ _ h;have:=ng x;omega
 |succ k ih=>
  intro x s w hx hx2 hp
  have hs:=jk x
  have hlen:=ke x.Kids
  show ∃r,ah2 (db k) (rS s) x (qS w)=some r/\_
  unfold ah2
  obtain⟨q1,e1,hq1⟩:=avr (s:=s) (x:=x) (w:=w) hp.tab (by have:=hp.uses;omega)
  rw[e1,Option.bind_some,acf]
  cases h1:yg s x w with
  |inr m=>
   rw[h1]at hq1
   rw[ax7 hq1 (atz h1),Option.bind_some,if_pos rfl]
   exact⟨_,rfl,hq1⟩
  |inl w1=>
   rw[h1]at hq1
   have hq1:q1=qS w1:=hq1
   subst hq1
   rw[ax6,Option.bind_some,if_neg sm]
   dsimp only
   obtain⟨u,hu,_,hh⟩:=ane hp h1
   have j18:∀(w2:B8) (j:Nat),ut x s w1= .inl w2->x.Kids.drop j=lq x->j<=x.Kids.length->∃r,vm (db k) (rS s) x j zM w2.file w2.method w2.many w2.uses=some r/\RefP (match va s x w2 with
    | .inr m=> .inr m
    | .inl w=>finM s x w (qw (lq x) (x.Kind==1) s.Class (innS s x) (mg x w))) r:=fun w2 j h2 hj hj2=>by
    have hN:=awm hp h1 h2
    unfold vm
    have ew:C7.mk w2.uses zM w2.file w2.method w2.many=qS w2:=rfl
    obtain⟨q2,e2,hq2⟩:=avq hN
    rw[ew,ax6,Option.bind_some,if_neg sm,e2,Option.bind_some]
    cases h3:va s x w2 with
    |inr m=>
     rw[h3]at hq2
     rw[ax7 hq2 (atu h3),Option.bind_some,if_pos rfl]
     exact⟨_,rfl,hq2⟩
    |inl w3=>
     rw[h3]at hq2
     have hq2:q2=qS w3:=hq2
     subst hq2
     obtain⟨hL,hN3⟩:=at2 hp h1 h2 h3
     rw[ax6,Option.bind_some,if_neg sm]
     dsimp only
     have hmany:w64 (w3.many+1)=w3.many+1:=cu (by have:=hN3.many;omega) (by have:=hN3.many2;omega)
     have j17:pa (db k) (qS w3) x (rS s) j (rS (innS s x))=aad (db k) x (rS s) j (qS w3) (rS (innS s x)) (ag3 w3.method w3.many.toNat) (mg x w3).many:=by
      unfold pa ai5 aex
      have el:o9 (qS w3).Method (qS w3).Many=some (ag3 w3.method w3.many.toNat):=hN3.loc.2
      have em:w64 ((qS w3).Many+1)=w3.many+1:=hmany
      rw[el,Option.bind_some,em]
      unfold mg
      have e:decl x=((x.Kind==4)||(x.Kind==6)):=rfl
      rw[e]
      cases (x.Kind==4)<;>cases (x.Kind==6)<;>rfl
     have e5:(if(x.Kind==3)=true then pa (db k) (qS w3) x (rS s) j ({rS s with Static:=x.N==1})else pa (db k) (qS w3) x (rS s) j (rS s))=pa (db k) (qS w3) x (rS s) j (rS (innS s x)):=by
      unfold innS
      cases (x.Kind==3)<;>rfl
     rw[e5,j17]
     unfold aad
     have eb:(mg x w3).file=w3.file/\(mg x w3).method=w3.method/\(mg x w3).uses=w3.uses:=by
      unfold mg
      split<;>exact⟨rfl,rfl,rfl⟩
     obtain⟨o,e6,ho⟩:=a00 ih (x:=x) (s0:=s) hp.cl (j:=j) (r:=lq x) hj hj2 om om om hL
     rw[eb.1,eb.2.1,eb.2.2]at e6
     have e6':iter (fun t=>uw (db k) x (rS s) t.1 t.2.1 t.2.2.1 t.2.2.2.1 t.2.2.2.2.1 t.2.2.2.2.2.1 t.2.2.2.2.2.2) ((j:Int),(qS w3).M,(qS w3).File,(qS w3).Method,(mg x w3).many,rS (innS s x),(qS w3).L)=some o:=e6
     rw[e6',Option.bind_some,an4 _ _ _ j]
     revert ho
     cases rowF (gL (x.Kind==1) s.Class) j (lq x) (innS s x,mg x w3)with
     |inr m=>rintro⟨q,rfl,hq⟩;exact⟨_,rfl,hq⟩
     |inl p=>
      rintro rfl
      dsimp only
      unfold akd
      have j6:∃r,aci (db k) (rS s) (ag3 w3.method w3.many.toNat) x (qS w3) p.2.uses zM p.2.file p.2.method p.2.many (decl x)=some r/\RefP (finM s x w3 (.inl p)) r:=by
       unfold aci agl akf finM outS
       have es:(rS s).Seen=s.Seen:=rfl
       cases decl x
       ·exact⟨_,rfl,rfl⟩
       ·rw[if_pos rfl,es,nz (by simp;have:=hN3.seen;omega) (by simp;have:=hN3.seen;omega),Option.bind_some,nz (by simp;have:=hN3.seen;omega) (by simp;have:=hN3.seen;omega)]
        exact⟨_,rfl,rfl⟩
      have e:decl x=((x.Kind==4)||(x.Kind==6)):=rfl
      rw[e]at j6
      cases h4:(x.Kind==4)
      ·rw[h4,Bool.false_or]at j6;rw[if_neg sm];exact j6
      ·rw[h4,Bool.true_or]at j6;rw[if_pos rfl];exact j6
   have j20:∃r,vl (db k) x (rS s) (qS w1) ((x.Kind==18||x.Kind==20)&&decide ((x.Kids.length:Int)>0))=some r/\RefP (match ut x s w1 with
     | .inr m=> .inr m
     | .inl w=>match va s x w with
      | .inr m=> .inr m
      | .inl w=>finM s x w (qw (lq x) (x.Kind==1) s.Class (innS s x) (mg x w))) r:=by
    unfold vl
    by_cases hd:(x.Kind==18||x.Kind==20)=true
    ·rw[hd,Bool.true_and]
     cases hk:x.Kids with
     |nil=>
      rw[if_neg sm]
      have e1:ut x s w1= .inl w1:=by
       unfold ut
       rw[if_pos hd,hk]
      have e2:lq x=[]:=by
       unfold lq
       rw[if_pos hd,hk]
       rfl
      have:=j18 w1 0 e1 (by rw[e2,hk];rfl) (Nat.zero_le _)
      rw[e1]
      exact this
     |cons f r=>
      obtain⟨hf,hlt⟩:=at5 hp h1 hk
      have e0:idx (f::r) (0:Int)=some f:=rfl
      obtain⟨⟨q,s'⟩,e3,hq⟩:=ih f s w1 om om hf
      have gp:=ac0 (fi f) f s w1 (Nat.le_refl _) hf
      rw[if_pos (by simp<;>omega),e0,Option.bind_some,e3,Option.bind_some]
      dsimp only
      have e1:ut x s w1=match ki f s w1 with| .inr m=> .inr m| .inl p=> .inl p.2:=by
       unfold ut
       rw[if_pos hd,hk]
       try rfl
      have e2:lq x=r:=by
       unfold lq
       rw[if_pos hd,hk]
       rfl
      unfold ai4
      cases hw:ki f s w1 with
      |inr m=>
       rw[hw]at e1 hq gp
       rw[e1]
       have hq:QE m q:=hq
       unfold vm
       have eq:C7.mk q.L q.M q.File q.Method q.Many=q:=rfl
       rw[eq,ax7 hq gp,Option.bind_some,if_pos rfl]
       exact⟨_,rfl,hq⟩
      |inl p=>
       rw[hw]at e1 hq
       have hq:(q,s')=(qS p.2,rS p.1):=hq
       injection hq with g1 g2
       subst g1 g2
       rw[e1]
       exact j18 p.2 1 e1 (by rw[hk,e2];rfl) (by rw[hk];simp)
    ·rw[Bool.eq_false_iff.2 hd,Bool.false_and,if_neg sm]
     have e1:ut x s w1= .inl w1:=by
      unfold ut
      rw[if_neg hd]
     have e2:lq x=x.Kids:=by
      unfold lq
      rw[if_neg hd]
     rw[e1]
     exact j18 w1 0 e1 (by rw[e2];rfl) (Nat.zero_le _)
   obtain⟨r,e7,hr⟩:=j20
   refine⟨r,Eq.trans ?_ e7,hr⟩
   cases (x.Kind==18)<;>cases (x.Kind==20)<;>rfl
end Go.Proofs.YtcndghapmoaidaaGreatDoor
set_option linter.unusedSectionVars false
set_option linter.unusedVariables false
set_option linter.unusedSimpArgs false
set_option maxRecDepth 100000
set_option maxHeartbeats 4000000
namespace Go.Proofs.YtcndghapmoaidaaGreatDoor
open Go Go.Cn
variable [Glob]
theorem am4 {α τ γ:Type} {g:Nat->τ->α->τ ⊕ γ} {l:List α} (I:Nat->τ->Prop) (h:∀i x t t',l[i]? =some x->I i t->g i t x= .inl t'->I (i+1) t'):∀(r:List α) (i:Nat) (t t':τ),l.drop i=r->i<=l.length->I i t->rowF g i r t= .inl t'->I l.length t'
 | [],i,t,t',hr,hi,hI,e=>by
  have:l.length<=i:=by
   have:=congrArg List.length hr
   rw[List.length_drop,List.length_nil]at this
   omega
  obtain rfl:i=l.length:=by omega
  cases e
  exact hI
 |x::r,i,t,t',hr,hi,hI,e=>by
  have hx:l[i]? =some x:=by
   have:=congrArg (fun z=>z[0]?) hr
   simpa using this
  have hr':l.drop (i+1)=r:=by
   have:=congrArg List.tail hr
   simpa using this
  unfold rowF at e
  cases hg:g i t x with
  |inl t2=>
   rw[hg]at e
   exact am4 I h r (i+1) t2 t' hr' (mi hx) (h i x t t2 hx hI hg) e
  |inr m=>rw[hg]at e;cases e
theorem ar6 {α τ γ:Type} {g:Nat->τ->α->τ ⊕ γ} (E:γ->Prop) (h:∀i x t m,g i t x= .inr m->E m):∀(r:List α) (i:Nat) (t:τ) (m:γ),rowF g i r t= .inr m->E m
 | [],_,_,_,e=>by cases e
 |x::r,i,t,m,e=>by
  unfold rowF at e
  cases hg:g i t x with
  |inl t2=>rw[hg]at e;exact ar6 E h r (i+1) t2 m e
  |inr m'=>rw[hg]at e;cases e;exact h i x t m hg
def EB (e:A9):Prop:=e.Params.length<=1500
theorem memX_EB {c:Bt} {f:Int} {l l':List A9} {k:B5} (hk:k.Kids.length<=1500) (hl:∀e∈l,EB e) (h:memX c f l k= .inl l'):∀e∈l',EB e:=by
 have hloc:∀e∈locs c f k,EB e:=by
  have key:∀(r:List B5) (l:List A9),(∀e∈l,EB e)->∀e∈r.foldl (locG (kh c k.Text) f) l,EB e:=by
   intro r
   induction r with
   |nil=>intro l h;exact h
   |cons x r ih=>
    intro l h
    refine ih _ fun e he=>?_
    unfold locG at he
    split at he
    ·rcases List.mem_append.1 he with he|he
     ·exact h e he
     ·rw[List.mem_singleton.1 he];exact(show([]:List Bt).length<=1500 by simp)
    ·exact h e he
  exact key _ _ fun _ h=>by cases h
 unfold memX at h
 split at h
 ·split at h
  ·cases h
  ·cases h
   intro e he
   rcases List.mem_append.1 he with he|he
   ·exact hl e he
   ·rw[List.mem_singleton.1 he];exact(show([]:List Bt).length<=1500 by simp)
 ·split at h
  ·split at h
   ·cases h
   ·split at h
    ·cases h
    ·cases h
     intro e he
     rcases List.mem_append.1 he with he|he
     ·exact hl e he
     ·rcases List.mem_cons.1 he with rfl|he
      ·have:=am7 k.Kids []
       exact(show(pars k).length<=1500 by unfold pars;simp at this;omega)
      ·exact hloc e he
  ·cases h;exact hl
theorem tabC_EB {f:Int} {l l':List A9} {c:B5} (hn:fi c<=1500) (hl:∀e∈l,EB e) (h:tabC f l c= .inl l'):∀e∈l',EB e:=by
 unfold tabC at h
 split at h
 ·split at h
  ·rename_i h2
   cases h
   unfold clsX at h2
   split at h2
   ·cases h2
   ·refine am4 (l:=c.Kids) (fun _ l=>∀e∈l,EB e) (fun i k t t' hk hI hg=>?_) c.Kids 0 _ _ rfl (Nat.zero_le _) (fun e he=>?_) h2
    ·have:=aj4 hk
     have:=ke k.Kids
     have:=jk k
     have:=jk c
     exact memX_EB om hI hg
    ·rcases List.mem_append.1 he with he|he
     ·exact hl e he
     ·rw[List.mem_singleton.1 he];exact(show([]:List Bt).length<=1500 by simp)
  ·cases h
 ·cases h;exact hl
abbrev ann (files:List (List B5)):Prop:=files.length<=6/\∀l∈files,apr 1500 l
theorem awe {files:List (List B5)} (hF:ann files) {l:List A9} (h:tab files= .inl l):l.length<=9000/\∀e∈l,EB e:=by
 have key:l.length<=1500 * files.length/\∀e∈l,EB e:=by
  unfold tab at h
  refine am4 (l:=files) (fun i (l:List A9)=>l.length<=1500 * i/\∀e∈l,EB e) (fun i file l0 l1 hf hI hg=>?_) files 0 _ _ rfl (Nat.zero_le _) ⟨Nat.zero_le _,fun _ h=>by cases h⟩ h
  obtain⟨hB,hN,_⟩:=hF.2 _ (kw hf)
  have g:=am4 (l:=file) (fun j (l:List A9)=>l.length<=l0.length+bz (file.take j)/\∀e∈l,EB e) (fun j c l l' hc hI hg=>by
   have hz:=ni hc
   have:=awf hg
   exact⟨by omega,tabC_EB om hI.2 hg⟩) file 0 _ _ rfl (Nat.zero_le _) ⟨by simp,hI.2⟩ hg
  rw[List.take_length]at g
  exact⟨by omega,g.2⟩
 have:=hF.1
 exact⟨by omega,key.2⟩
theorem ayn {files:List (List B5)} {m:B3} (h:tab files= .inr m):m.Code=150:=by
 unfold tab at h
 refine ar6 (fun m:B3=>m.Code=150) (fun i file l m hg=>?_) files 0 _ _ h
 refine ar6 (fun m:B3=>m.Code=150) (fun j c l m hg=>?_) file 0 _ _ hg
 unfold tabC at hg
 split at hg
 ·split at hg
  ·cases hg
  ·rename_i e _
   cases hg
   cases e<;>rfl
 ·cases hg
def useC (l:List A9) (w:B8) (c:B5):B8 ⊕ B3:=
 if(c.Kind==1)=true then(match ki c (B6.mk l c.Text false []) w with| .inl p=> .inl p.2| .inr m=> .inr m)else .inl w
def useF (l:List A9) (f:Nat) (w:B8) (file:List B5):B8 ⊕ B3:=rowF (fun _ w c=>useC l w c) 0 file (B8.mk w.uses f w.method w.many)
def ai0 (l:List A9) (files:List (List B5)):B8 ⊕ B3:=rowF (useF l) 0 files (B8.mk [] 0 [] 0)
structure WB (w:B8) (n:Nat):Prop where
 uses:w.uses.length<=2 * n
 many:0<=w.many
 many2:w.many<=n
 meth:w.method.length<=4000
theorem arm {l:List A9} (hl:l.length<=9000) {c:B5} (hc:okB 1500 c) (hn:fi c<=1500) {w:B8} {n:Nat} (hw:WB w n) (h9:n<=9000):Pre c (B6.mk l c.Text false []) w:=by
 have hB:=hc
 rw[adw]at hB
 have:=hw.uses
 have:=hw.many2
 exact⟨hc,by simp only;omega,hB.1.1,by simp only[List.length_nil];omega,by omega,hw.many,by omega,hw.meth⟩
theorem auy {l:List A9} (hl:l.length<=9000) {c:B5} (hc:okB 1500 c) (hn:fi c<=1500) {w w':B8} {n:Nat} (hw:WB w n) (h9:n<=9000) (h:useC l w c= .inl w'):WB w' (n+fi c):=by
 have hp:=arm hl hc hn hw h9
 unfold useC at h
 split at h
 ·have g:=ac0 _ c _ w (Nat.le_refl _) hp
  cases hx:ki c (B6.mk l c.Text false []) w with
  |inr m=>rw[hx]at h;cases h
  |inl p=>
   rw[hx]at h g
   cases h
   have g:Inv (B6.mk l c.Text false []) w 1 (fi c) p:=g
   have g1:=g.uses
   have g2:=g.many2
   have:=hw.uses
   have:=hw.many2
   exact⟨by omega,g.many,by omega,g.meth⟩
 ·cases h
  exact⟨by have:=hw.uses;omega,hw.many,by have:=hw.many2;omega,hw.meth⟩
theorem a0g {l:List A9} (hl:l.length<=9000) {c:B5} (hc:okB 1500 c) (hn:fi c<=1500) {w:B8} {m:B3} {n:Nat} (hw:WB w n) (h9:n<=9000) (h:useC l w c= .inr m):m.Code≠0:=by
 have hp:=arm hl hc hn hw h9
 unfold useC at h
 split at h
 ·have g:=ac0 _ c _ w (Nat.le_refl _) hp
  cases hx:ki c (B6.mk l c.Text false []) w with
  |inr m=>rw[hx]at h g;cases h;exact g
  |inl p=>rw[hx]at h;cases h
 ·cases h
theorem av2 {files:List (List B5)} (hF:ann files) {l:List A9} (hl:l.length<=9000):
    Ok (Fin' (fun o w=>o= .next (w.file,w.method,w.many,w.uses)/\WB w 9000) (fun o m=>o= .done (.bad (B9.mk m))) (ai0 l files)) (iter (fun s=>q8 files l s.1 s.2.1 s.2.2.1 s.2.2.2.1 s.2.2.2.2) (0,0,[],0,[])):=by
  refine rowM (l:=files) (f:=fun s:Int × Int × Bt × Int × List B7=>q8 files l s.1 s.2.1 s.2.2.1 s.2.2.2.1 s.2.2.2.2) (useF l)
    (fun i s w=>s=((i:Int),w.file,w.method,w.many,w.uses)/\WB w (1500 * i)) _ _ (fun i file s w hf h=>?_) (fun s w h=>?_) files 0 _ (B8.mk [] 0 [] 0) rfl (Nat.zero_le _) ⟨rfl,by simp,by simp,by simp,by simp⟩
  · obtain⟨rfl,hw⟩:=h
    have hi:=mi hf
    have h6:=hF.1
    obtain⟨hB,hN,_⟩:=hF.2 _ (kw hf)
    dsimp only
    unfold q8
    rw[if_pos (gn hf),dw hf,Option.bind_some]
    obtain⟨o,e1,ho⟩:=rowM (l:=file) (f:=fun s:Int × Int × Bt × Int × List B7=>tw file l s.1 s.2.1 s.2.2.1 s.2.2.2.1 s.2.2.2.2) (fun _ w c=>useC l w c)
      (fun j s w=>s=((j:Int),w.file,w.method,w.many,w.uses)/\WB w (1500 * i+bz (file.take j))) (fun o w=>o= .next (w.file,w.method,w.many,w.uses)/\WB w (1500 * (i+1))) (fun o m=>o= .done (.inr (.done (.bad (B9.mk m))))) (fun j c s w hc h=>by
        obtain⟨rfl,hw⟩:=h
        have hj:=xr hc
        have hz:=ni hc
        have hcB:=aab hB (kw hc)
        dsimp only
        unfold tw
        rw[if_pos (gn hc),dw hc,Option.bind_some]
        have nx:∀w',useC l w c= .inl w'->Ok (Step (fun s w=>s=(((j+1:Nat):Int),w.file,w.method,w.many,w.uses)/\WB w (1500 * i+bz (file.take (j+1)))) (fun o m=>o= .done (.inr (.done (.bad (B9.mk m))))) (useC l w c)) (yd j w'.file w'.method w'.many w'.uses c):=fun w' h1=>by
          have g:=auy hl hcB om hw om h1
          unfold yd
          rw[abv om,h1]
          rw[show 1500 * i+bz (file.take (j+1))=1500 * i+bz (file.take j)+fi c by omega]
          exact .mk ⟨_,rfl,rfl,g⟩
        by_cases h1:(c.Kind==1)=true
        · rw[if_pos h1]
          have hp:=arm hl hcB om hw om
          have ew:B8.mk w.uses w.file w.method w.many=w:=rfl
          have e2:ab3 (B6.mk l c.Text false []) c w=some (pxW (ki c (B6.mk l c.Text false []) w)):=ay8 1048576 c _ w om om hp
          rw[ew,e2]
          have eu:useC l w c=match ki c (B6.mk l c.Text false []) w with| .inl p=> .inl p.2| .inr m=> .inr m:=by
            unfold useC
            rw[if_pos h1]
            try (cases ki c (B6.mk l c.Text false []) w<;>rfl)
          cases hx:ki c (B6.mk l c.Text false []) w with
          |inr m=>
            rw[hx]at eu
            rw[eu]
            exact .mk ⟨_,rfl,rfl⟩
          |inl p=>
            rw[hx]at eu
            exact nx p.2 eu
        · rw[if_neg h1]
          refine nx w ?_
          unfold useC
          rw[if_neg h1]) (fun s w h=>by
        obtain⟨rfl,hw⟩:=h
        rw[List.take_length]at hw
        dsimp only
        unfold tw
        rw[if_neg (gw (Nat.le_refl _))]
        exact .mk ⟨_,rfl,rfl,by have:=hw.uses;omega,hw.many,by have:=hw.many2;omega,hw.meth⟩) file 0 (0,(i:Int),w.method,w.many,w.uses) (B8.mk w.uses i w.method w.many) rfl (Nat.zero_le _) ⟨rfl,by have:=hw.uses;simp only;omega,hw.many,by have:=hw.many2;simp only;omega,hw.meth⟩
    refine .bd ⟨o,e1,ho⟩ fun o ho=>?_
    unfold useF
    revert ho
    cases rowF (fun _ w c=>useC l w c) 0 file (B8.mk w.uses i w.method w.many)with
    |inl w'=>
      rintro⟨rfl,hw'⟩
      dsimp only
      unfold aec
      rw[abv om]
      exact .mk ⟨_,rfl,rfl,hw'⟩
    |inr m=>
      rintro rfl
      exact .mk ⟨_,rfl,rfl⟩
  · obtain⟨rfl,hw⟩:=h
    have h6:=hF.1
    dsimp only
    unfold q8
    rw[if_neg (gw (Nat.le_refl _))]
    exact .mk ⟨_,rfl,rfl,by have:=hw.uses;omega,hw.many,by have:=hw.many2;omega,hw.meth⟩
theorem axh {files:List (List B5)} (hF:ann files) {l:List A9} (hl:l.length<=9000):
    Ok (Fin' (fun o w=>o= .next (zM,w.file,w.method,w.many,w.uses)/\WB w 9000) (fun o m=>o= .done ([],m)) (ai0 l files)) (iter (fun s=>uy files l s.1 s.2.1 s.2.2.1 s.2.2.2.1 s.2.2.2.2.1 s.2.2.2.2.2) (0,zM,0,[],0,[])):=by
  refine rowM (l:=files) (f:=fun s:Int × B3 × Int × Bt × Int × List B7=>uy files l s.1 s.2.1 s.2.2.1 s.2.2.2.1 s.2.2.2.2.1 s.2.2.2.2.2) (useF l)
    (fun i s w=>s=((i:Int),zM,w.file,w.method,w.many,w.uses)/\WB w (1500 * i)) _ _ (fun i file s w hf h=>?_) (fun s w h=>?_) files 0 _ (B8.mk [] 0 [] 0) rfl (Nat.zero_le _) ⟨rfl,by simp,by simp,by simp,by simp⟩
  · obtain⟨rfl,hw⟩:=h
    have hi:=mi hf
    have h6:=hF.1
    obtain⟨hB,hN,_⟩:=hF.2 _ (kw hf)
    dsimp only
    unfold uy
    rw[if_pos (gn hf)]
    obtain⟨o,e1,ho⟩:=rowM (l:=file) (f:=fun s:Int × B3 × Int × Bt × Int × List B7=>acj files i l s.1 s.2.1 s.2.2.1 s.2.2.2.1 s.2.2.2.2.1 s.2.2.2.2.2) (fun _ w c=>useC l w c)
      (fun j s w=>s=((j:Int),zM,w.file,w.method,w.many,w.uses)/\WB w (1500 * i+bz (file.take j))) (fun o w=>o= .next (zM,w.file,w.method,w.many,w.uses)/\WB w (1500 * (i+1))) (fun o m=>o= .done (.inr (.done ([],m)))) (fun j c s w hc h=>by
        obtain⟨rfl,hw⟩:=h
        have hj:=xr hc
        have hz:=ni hc
        have hcB:=aab hB (kw hc)
        dsimp only
        unfold acj
        rw[dw hf]
        simp only[Option.bind_some]
        rw[if_pos (gn hc),dw hc]
        simp only[Option.bind_some]
        have nx:∀w',useC l w c= .inl w'->Ok (Step (fun s w=>s=(((j+1:Nat):Int),zM,w.file,w.method,w.many,w.uses)/\WB w (1500 * i+bz (file.take (j+1)))) (fun o m=>o= .done (.inr (.done ([],m)))) (useC l w c)) (ack j zM w'.file w'.method w'.many w'.uses):=fun w' h1=>by
          have g:=auy hl hcB om hw om h1
          unfold ack
          rw[abv om,h1]
          rw[show 1500 * i+bz (file.take (j+1))=1500 * i+bz (file.take j)+fi c by omega]
          exact .mk ⟨_,rfl,rfl,g⟩
        by_cases h1:c.Kind=1
        · rw[if_neg (show ¬(c.Kind != 1)=true by simp[h1])]
          have hp:=arm hl hcB om hw om
          obtain⟨⟨q,s'⟩,e2,hq⟩:=a0e 1048576 c _ w om om hp
          have e2':aqw (C8.mk l c.Text false []) c (C7.mk w.uses zM w.file w.method w.many)=some (q,s'):=e2
          rw[e2',Option.bind_some]
          have eu:useC l w c=match ki c (B6.mk l c.Text false []) w with| .inl p=> .inl p.2| .inr m=> .inr m:=by
            unfold useC
            rw[if_pos (show(c.Kind==1)=true by simp[h1])]
            try (cases ki c (B6.mk l c.Text false []) w<;>rfl)
          have gp:=ac0 _ c _ w (Nat.le_refl _) hp
          dsimp only
          unfold aki
          cases hx:ki c (B6.mk l c.Text false []) w with
          |inr m=>
            rw[hx]at eu hq gp
            have hq:QE m q:=hq
            rw[eu,ax7 hq gp,Option.bind_some,if_pos rfl]
            unfold akj
            exact .mk ⟨_,rfl,by rw[show q.M=m from hq]⟩
          |inl p=>
            rw[hx]at eu hq
            have hq:(q,s')=(qS p.2,rS p.1):=hq
            injection hq with g1 g2
            subst g1 g2
            rw[ax6,Option.bind_some,if_neg sm]
            exact nx p.2 eu
        · rw[if_pos (show(c.Kind != 1)=true by simpa using h1)]
          refine nx w ?_
          unfold useC
          rw[if_neg (show ¬(c.Kind==1)=true by simpa using h1)]) (fun s w h=>by
        obtain⟨rfl,hw⟩:=h
        rw[List.take_length]at hw
        dsimp only
        unfold acj
        rw[dw hf,Option.bind_some,if_neg (gw (Nat.le_refl _))]
        exact .mk ⟨_,rfl,rfl,by have:=hw.uses;omega,hw.many,by have:=hw.many2;omega,hw.meth⟩) file 0 (0,zM,(i:Int),w.method,w.many,w.uses) (B8.mk w.uses i w.method w.many) rfl (Nat.zero_le _) ⟨rfl,by have:=hw.uses;simp only;omega,hw.many,by have:=hw.many2;simp only;omega,hw.meth⟩
    refine .bd ⟨o,e1,ho⟩ fun o ho=>?_
    unfold useF
    revert ho
    cases rowF (fun _ w c=>useC l w c) 0 file (B8.mk w.uses i w.method w.many)with
    |inl w'=>
      rintro⟨rfl,hw'⟩
      dsimp only
      unfold akg
      rw[abv om]
      exact .mk ⟨_,rfl,rfl,hw'⟩
    |inr m=>
      rintro rfl
      exact .mk ⟨_,rfl,rfl⟩
  · obtain⟨rfl,hw⟩:=h
    have h6:=hF.1
    dsimp only
    unfold uy
    rw[if_neg (gw (Nat.le_refl _))]
    exact .mk ⟨_,rfl,rfl,by have:=hw.uses;omega,hw.many,by have:=hw.many2;omega,hw.meth⟩
def arj (files:List (List B5)) (r:List B7 × B3):Prop:=
 match tab files with
 | .inr m=>r=([],m)
 | .inl l=>if(xb l).Code≠0 then r=([],xb l)else match ai0 l files with
  | .inr m=>r=([],m)
  | .inl w=>r.2=zM/\Srt ltU r.1/\D5 ltU w.uses r.1/\WB w 9000
theorem ayj {files:List (List B5)} (hF:ann files):∃r,afp files=some r/\aqx files=some r/\arj files r:=by
 unfold afp al5 aqx arj
 rw[aqg hF.1 hF.2,ap2 hF.1 hF.2,Option.bind_some,Option.bind_some]
 cases ht:tab files with
 |inr m=>
  have:=ayn ht
  unfold tabR akk
  dsimp only
  rw[if_pos (by rw[this];rfl)]
  exact⟨_,rfl,by rw[if_pos (by rw[this];rfl)],rfl⟩
 |inl l=>
  obtain⟨hl,hE⟩:=awe hF ht
  have hE2:∀e∈l,e.Params.length<=4000000000:=fun e he=>by have:e.Params.length<=1500:=hE e he;omega
  unfold tabR
  dsimp only
  rw[if_neg sm,if_neg sm,auj om hE2,apz om hE2,Option.bind_some,Option.bind_some]
  by_cases hc:(xb l).Code=0
  ·rw[if_neg (by simp[hc]),if_neg (by simp[hc])]
   obtain⟨o,e1,ho⟩:=av2 hF hl
   obtain⟨o2,e2,ho2⟩:=axh hF hl
   have e2':iter (fun s=>uy files l s.1 s.2.1 s.2.2.1 s.2.2.2.1 s.2.2.2.2.1 s.2.2.2.2.2) (0,B3.mk 0 0 0,0,[],0,[])=some o2:=e2
   rw[e1,e2',Option.bind_some,Option.bind_some]
   revert ho ho2
   cases ai0 l files with
   |inr m=>
    rintro rfl rfl
    exact⟨_,rfl,rfl,by rw[if_neg (by simp[hc])]⟩
   |inl w=>
    rintro⟨rfl,hw⟩ ⟨rfl,_⟩
    obtain⟨Z,z1,z2,z3,z4⟩:=sort_eq (l:=w.uses) (by have:=hw.uses;omega)
    dsimp only
    unfold aed akh
    rw[z1,z2]
    exact⟨_,rfl,rfl,by rw[if_neg (by simp[hc])];exact⟨rfl,z3,z4,hw⟩⟩
  ·rw[if_pos (by simpa using hc),if_pos (by simpa using hc)]
   exact⟨_,rfl,rfl,by rw[if_pos hc]⟩
end Go.Proofs.YtcndghapmoaidaaGreatDoor
set_option linter.unusedSectionVars false
set_option linter.unusedVariables false
set_option linter.unusedSimpArgs false
set_option maxRecDepth 100000
set_option maxHeartbeats 4000000
namespace Go.Proofs.YtcndghapmoaidaaGreatDoor
open Go Go.Cn
variable [Glob]
theorem avu (texts:List Bt):Ok (fun r:List (List B5) × Bool=>r.2=true->r.1.length<=6/\∀f∈r.1,apr 1500 f) (abn texts):=by
 unfold abn za
 refine .dec (fun _=> .mk fun h=>by cases h) fun h6=> .bd (P:=air (fun l=>l.length<=6/\∀f∈l,apr 1500 f) (fun r=>r.2=false)) (.row (l:=texts) (fun i s=>s.length=i/\∀f∈s,apr 1500 f) om (fun i hi s h1=>?_) (fun i s hi h1=>?_) ⟨rfl,fun _ h=>by cases h⟩) fun z hz=>by
  cases z with
  |next l=>exact .mk fun _=>hz
  |done r=>exact .mk fun h=>by rw[show r.2=false from hz]at h;cases h
 ·dsimp only
  unfold qj
  rw[if_pos (len_lt hi),aeq hi,Option.bind_some]
  refine .dec (fun _=> .mk rfl) fun hl=>?_
  rw[Option.bind_some]
  refine .bd (File_ok (M:=1500) om om) ?_
  rintro⟨l,m⟩ hF
  refine .cond (fun _=> .mk rfl) fun hm=> .bd (app_ok so so) fun r hr=> .mk ⟨abv om,?_⟩
  have hF:=hF (by simpa using hm)
  subst hr
  refine⟨by simp[h1.1],fun f hf=>?_⟩
  rcases List.mem_append.1 hf with hf|hf
  ·exact h1.2 f hf
  ·obtain rfl:=List.mem_singleton.1 hf
   exact hF
 ·dsimp only
  unfold qj
  rw[if_neg (by simpa using hi)]
  exact .mk ⟨by omega,h1.2⟩
theorem av3 {α:Type} (p:α->Bool) {l:List α} {i:Nat} {x:α} (h:l[i]? =some x):(l.take (i+1)).filter p=(l.take i).filter p++(if p x=true then[x]else[]):=by
 obtain⟨hi,rfl⟩:=List.getElem?_eq_some_iff.1 h
 rw[List.take_succ_eq_append_getElem hi,List.filter_append]
 by_cases hp:p l[i]=true
 ·rw[List.filter_cons_of_pos hp,if_pos hp];rfl
 ·rw[List.filter_cons_of_neg hp,if_neg hp];rfl
theorem axj {α:Type} (p:α->Bool) (l:List α) (i:Nat):((l.take i).filter p).length<=i:=by
 have:=List.length_filter_le p (l.take i)
 rw[List.length_take]at this
 omega
theorem ara {l:List B7} (hl:l.length<=1000000) (id:Bt):ajh l id=some (l.filter fun u=>u.Id==id):=by
 unfold ajh aik
 obtain⟨o,e,rfl⟩:=rowK (l:=l) (f:=fun s:Int × List B7=>zq l id s.1 s.2) (fun i s=>s=((i:Int),(l.take i).filter fun u=>u.Id==id)) (fun o=>o=l.filter fun u=>u.Id==id) (fun i x s hx h=>by
  subst h
  have hi:=mi hx
  have hf:=axj (fun u:B7=>u.Id==id) l i
  dsimp only
  unfold zq afw
  rw[if_pos (gn hx),dw hx,Option.bind_some,nz so so,Option.bind_some,abv om,av3 _ hx]
  refine .cond (fun h=>?_) fun h=>?_
  ·rw[if_pos h];exact .mk ⟨_,rfl,rfl⟩
  ·rw[if_neg (by rw[h];simp),List.append_nil];exact .mk ⟨_,rfl,rfl⟩) (fun s h=>by
  subst h
  dsimp only
  unfold zq
  rw[if_neg (gw (Nat.le_refl _))]
  exact .mk ⟨_,rfl,by rw[List.take_length]⟩) (0,[]) sm
 exact(congrArg (fun z=>z.bind some) e).trans rfl
theorem arj.len {files:List (List B5)} {r:List B7 × B3} (h:arj files r):r.1.length<=18000:=by
 unfold arj at h
 cases ht:tab files with
 |inr m=>rw[ht]at h;have h:r=([],m):=h;rw[h];simp
 |inl l=>
  rw[ht]at h
  dsimp only at h
  split at h
  ·rw[h];simp
  ·cases hg:ai0 l files with
   |inr m=>rw[hg]at h;have h:r=([],m):=h;rw[h];simp
   |inl w=>
    rw[hg]at h
    obtain⟨_,_,h3,h4⟩:=h
    rw[h3.len]
    have:=h4.uses
    omega
end Go.Proofs.YtcndghapmoaidaaGreatDoor
set_option linter.unusedSectionVars false
set_option linter.unusedVariables false
set_option linter.unusedSimpArgs false
set_option maxRecDepth 100000
set_option maxHeartbeats 4000000
namespace Go.Proofs.YtcndghapmoaidaaGreatDoor
open Go Go.Cn
variable [Glob]
def catF {α β:Type} (E:Nat->α->List β):Nat->List α->List β
 |_,[]=>[]
 |i,x::r=>E i x++catF E (i+1) r
def allF {α:Type} (Q:Nat->α->Prop):Nat->List α->Prop
 |_,[]=>True
 |i,x::r=>Q i x/\allF Q (i+1) r
theorem am5 {α:Type} {γ:Type} {g:Nat->List A9->α->List A9 ⊕ γ} (E:Nat->α->List A9) (Q:Nat->α->Prop) (h:∀i t x t',g i t x= .inl t'↔twF t (E i x)=none/\Q i x/\t'=t++E i x):
  ∀(r:List α) (i:Nat) (t t':List A9),rowF g i r t= .inl t'↔twF t (catF E i r)=none/\allF Q i r/\t'=t++catF E i r
 | [],i,t,t'=>by
  have e:rowF g i [] t= .inl t:=rfl
  have e2:catF E i []=[]:=rfl
  have e3:twF t ([]:List A9)=none:=rfl
  rw[e,e2,e3,List.append_nil]
  exact⟨fun h=>by cases h;exact⟨rfl,trivial,rfl⟩,fun h=>by rw[h.2.2]⟩
 |x::r,i,t,t'=>by
  unfold rowF catF allF
  rw[aro]
  cases hg:g i t x with
  |inl t2=>
   obtain⟨h1,h2,rfl⟩:=(h i t x t2).1 hg
   dsimp only
   rw[am5 E Q h r (i+1) _ t',h1,List.append_assoc]
   exact⟨fun⟨a,b,c⟩=>⟨a,⟨h2,b⟩,c⟩,fun⟨a,b,c⟩=>⟨a,b.2,c⟩⟩
  |inr e=>
   dsimp only
   refine⟨fun h=>(by cases h),fun⟨a,b,c⟩=>?_⟩
   cases ht:twF t (E i x)with
   |some e=>rw[ht]at a;cases a
   |none=>
    have:=(h i t x (t++E i x)).2 ⟨ht,b.1,rfl⟩
    rw[hg]at this
    cases this
theorem arn (l:List A9):twF l []=none:=rfl
theorem am3 (l:List A9) (x:A9) (r:List A9):twF l (x::r)=if dup l x=true then some x else twF (l++[x]) r:=rfl
def entK (c:Bt) (f:Int) (k:B5):List A9:=if(k.Kind==2)=true then[xq c f k]else if(k.Kind==3)=true then aip c f k::locs c f k else[]
def az9 (k:B5):Prop:=k.Kind=3->agnN [] k=none
theorem a0z (c:Bt) (f:Int) (l:List A9) (k:B5) (l':List A9):memX c f l k= .inl l'↔twF l (entK c f k)=none/\az9 k/\l'=l++entK c f k:=by
 unfold memX entK az9
 by_cases h2:k.Kind=2
 ·have c2:(k.Kind==2)=true:=by simp[h2]
  rw[if_pos c2,if_pos c2,am3,arn]
  by_cases hd:dup l (xq c f k)=true
  ·rw[if_pos hd,if_pos hd]
   exact⟨fun h=>(by cases h),fun h=>(by cases h.1)⟩
  ·rw[if_neg hd,if_neg hd]
   exact⟨fun h=>(by cases h;exact⟨rfl,fun h3=>by omega,rfl⟩),fun h=>by rw[h.2.2]⟩
 ·have c2:¬(k.Kind==2)=true:=by simpa using h2
  rw[if_neg c2,if_neg c2]
  by_cases h3:k.Kind=3
  ·have c3:(k.Kind==3)=true:=by simp[h3]
   rw[if_pos c3,if_pos c3,am3]
   by_cases hd:dup l (aip c f k)=true
   ·rw[if_pos hd,if_pos hd]
    exact⟨fun h=>(by cases h),fun h=>(by cases h.1)⟩
   ·rw[if_neg hd,if_neg hd,alt _ _ (aj6 c f k)]
    cases agnN [] k with
    |some x=>exact⟨fun h=>(by cases h),fun h=>(by cases h.2.1 h3)⟩
    |none=>exact⟨fun h=>(by cases h;exact⟨rfl,fun _=>rfl,rfl⟩),fun h=>by rw[h.2.2]⟩
  ·have c3:¬(k.Kind==3)=true:=by simpa using h3
   rw[if_neg c3,if_neg c3,arn]
   exact⟨fun h=>(by cases h;exact⟨rfl,fun h=>absurd h h3,by simp⟩),fun h=>by rw[h.2.2];simp⟩
def entC (f:Int) (c:B5):List A9:=if(c.Kind==1)=true then si f c::catF (fun _ k=>entK c.Text f k) 0 c.Kids else[]
def ax2 (c:B5):Prop:=c.Kind=1->allF (fun _ k=>az9 k) 0 c.Kids
theorem a0l (f:Int) (l:List A9) (c:B5) (l':List A9):tabC f l c= .inl l'↔twF l (entC f c)=none/\ax2 c/\l'=l++entC f c:=by
 unfold tabC entC ax2
 by_cases h1:c.Kind=1
 ·have c1:(c.Kind==1)=true:=by simp[h1]
  rw[if_pos c1,if_pos c1]
  have hk:=am5 (fun _ k=>entK c.Text f k) (fun _ k=>az9 k) (fun _ t x t'=>a0z c.Text f t x t') c.Kids 0 (l++[si f c])
  unfold clsX
  rw[am3]
  by_cases hd:dup l (si f c)=true
  ·rw[if_pos hd,if_pos hd]
   exact⟨fun h=>(by cases h),fun h=>(by cases h.1)⟩
  ·rw[if_neg hd,if_neg hd]
   cases hr:rowF (fun _ l k=>memX c.Text f l k) 0 c.Kids (l++[si f c])with
   |inl t2=>
    obtain⟨a,b,rfl⟩:=(hk t2).1 hr
    rw[a]
    exact⟨fun h=>(by cases h;exact⟨rfl,fun _=>b,by simp⟩),fun h=>by rw[h.2.2];simp⟩
   |inr e=>
    refine⟨fun h=>(by cases h),fun⟨a,b,_⟩=>?_⟩
    have:=(hk _).2 ⟨a,b h1,rfl⟩
    rw[hr]at this
    cases this
 ·have c1:¬(c.Kind==1)=true:=by simpa using h1
  rw[if_neg c1,if_neg c1,arn]
  exact⟨fun h=>(by cases h;exact⟨rfl,fun h=>absurd h h1,by simp⟩),fun h=>by rw[h.2.2];simp⟩
def entA (files:List (List B5)):List A9:=catF (fun f file=>catF (fun _ c=>entC (f:Int) c) 0 file) 0 files
def arg (files:List (List B5)):Prop:=allF (fun _ file=>allF (fun _ c=>ax2 c) 0 file) 0 files
theorem tab_iff (files:List (List B5)) (l:List A9):tab files= .inl l↔twF [] (entA files)=none/\arg files/\l=entA files:=by
 have:=am5 (g:=fun(f:Nat) l file=>rowF (fun _ l c=>tabC (f:Int) l c) 0 file l) (fun f file=>catF (fun _ c=>entC (f:Int) c) 0 file) (fun _ file=>allF (fun _ c=>ax2 c) 0 file) (fun i t x t'=>am5 (fun _ c=>entC (i:Int) c) (fun _ c=>ax2 c) (fun _ t x t'=>a0l i t x t') x 0 t t') files 0 [] l
 exact this
def amt (x y:A9):Bool:=y.Kind != 4&&ata y x
theorem ay2 (l:List A9) (x y:A9):dup (l++[x]) y=(dup l y||amt x y):=by
 unfold dup amt
 rw[List.any_append]
 cases (y.Kind != 4)<;>simp
abbrev NoC (L:List A9):Prop:=L.Pairwise fun x y=>amt x y=false
theorem aym :∀(L pre:List A9),twF pre L=none↔(∀y∈L,dup pre y=false)/\NoC L
 | [],_=>by rw[arn];simp
 |x::r,pre=>by
  rw[am3]
  by_cases hd:dup pre x=true
  ·rw[if_pos hd]
   exact⟨fun h=>(by cases h),fun h=>by have:=h.1 x List.mem_cons_self;rw[hd]at this;cases this⟩
  ·rw[if_neg hd,aym r (pre++[x])]
   unfold NoC
   rw[List.pairwise_cons]
   constructor
   ·rintro⟨a,b⟩
    have a':∀y∈r,dup pre y=false/\amt x y=false:=fun y hy=>by
     have:=a y hy
     rw[ay2,Bool.or_eq_false_iff]at this
     exact this
    refine⟨fun y hy=>?_,fun y hy=>(a' y hy).2,b⟩
    rcases List.mem_cons.1 hy with rfl|hy
    ·exact Bool.eq_false_iff.2 hd
    ·exact(a' y hy).1
   ·rintro⟨a,b,c⟩
    refine⟨fun y hy=>?_,c⟩
    rw[ay2,a y (List.mem_cons_of_mem _ hy),b y hy]
    rfl
theorem axp {x y:A9} (h:amt x y=false):amt y x=false:=by
 cases hc:amt y x with
 |false=>rfl
 |true=>
  unfold amt ata at h hc
  simp only[Bool.and_eq_true,bne_iff_ne,beq_iff_eq]at hc
  obtain⟨h1,⟨h2,h3⟩,h4⟩:=hc
  rw[← h2,← h3,← h4]at h
  simp at h
  omega
theorem awd (files:List (List B5)) (l:List A9):tab files= .inl l↔NoC (entA files)/\arg files/\l=entA files:=by
 rw[tab_iff,aym]
 have:∀y∈entA files,dup [] y=false:=fun y _=>by unfold dup;simp
 exact⟨fun⟨a,b,c⟩=>⟨a.2,b,c⟩,fun⟨a,b,c⟩=>⟨⟨this,a⟩,b,c⟩⟩
def sg (e:A9):A9:={e with File:=0}
theorem sg_locs (c:Bt) (f:Int) (k:B5):(locs c f k).map sg=(locs c 0 k).map sg:=by
 have key:∀(r:List B5) (l l':List A9),l.map sg=l'.map sg->(r.foldl (locG (kh c k.Text) f) l).map sg=(r.foldl (locG (kh c k.Text) 0) l').map sg:=by
  intro r
  induction r with
  |nil=>intro l l' h;exact h
  |cons x r ih=>
   intro l l' h
   refine ih _ _ ?_
   have hl:l.length=l'.length:=by have:=congrArg List.length h;simpa using this
   unfold locG
   split
   ·rw[List.map_append,List.map_append,h,hl];rfl
   ·exact h
 exact key _ _ _ rfl
theorem sg_entK (c:Bt) (f:Int) (k:B5):(entK c f k).map sg=(entK c 0 k).map sg:=by
 unfold entK
 split
 ·rfl
 ·split
  ·rw[List.map_cons,List.map_cons,sg_locs];rfl
  ·rfl
theorem ar8 {α β γ:Type} (E E':Nat->α->List β) (s:β->γ) (h:∀i j x,(E i x).map s=(E' j x).map s):∀(r:List α) (i j:Nat),(catF E i r).map s=(catF E' j r).map s
 | [],_,_=>rfl
 |x::r,i,j=>by
  unfold catF
  rw[List.map_append,List.map_append,h i j,ar8 E E' s h r (i+1) (j+1)]
theorem sg_entC (f:Int) (c:B5):(entC f c).map sg=(entC 0 c).map sg:=by
 unfold entC
 split
 ·rw[List.map_cons,List.map_cons,ar8 _ _ sg (fun _ _ k=>sg_entK c.Text f k) c.Kids 0 0];rfl
 ·rfl
def plainF (file:List B5):List A9:=(catF (fun _ c=>entC 0 c) 0 file).map sg
theorem au0 :∀(files:List (List B5)) (i:Nat),(catF (fun f file=>catF (fun _ c=>entC (f:Int) c) 0 file) i files).map sg=files.flatMap plainF
 | [],_=>rfl
 |x::r,i=>by
  unfold catF
  rw[List.map_append,au0 r (i+1),List.flatMap_cons]
  congr 1
  exact ar8 _ _ sg (fun _ _ c=>sg_entC i c) x 0 0
theorem ayo (files:List (List B5)):((entA files.reverse).map sg).Perm ((entA files).map sg):=by
 unfold entA
 rw[au0,au0]
 exact(List.reverse_perm files).flatMap_right _
theorem NoC_sg {L:List A9}:NoC L↔NoC (L.map sg):=by
 unfold NoC
 rw[List.pairwise_map]
 rfl
theorem aw1 {L M:List A9} (h:(L.map sg).Perm (M.map sg)) (hL:NoC L):NoC M:=by
 rw[NoC_sg]at hL ⊢
 exact(h.pairwise_iff (fun {x y} h=>axp h)).1 hL
theorem al9 {α:Type} {Q:α->Prop}:∀(r:List α) (i:Nat),allF (fun _ x=>Q x) i r↔∀x∈r,Q x
 | [],_=>by unfold allF;simp
 |x::r,i=>by
  unfold allF
  rw[al9 r (i+1),List.forall_mem_cons]
theorem azp (files:List (List B5)):arg files.reverse↔arg files:=by
 unfold arg
 rw[al9,al9]
 simp only[List.mem_reverse]
theorem find_sg {L M:List A9} (h:(L.map sg).Perm (M.map sg)) (p:A9->Bool) (hp:∀e,p (sg e)=p e) (hu:L.Pairwise fun x y=>¬(p x=true/\p y=true)):(L.find? p).map sg=(M.find? p).map sg:=by
 have f:∀L:List A9,(L.find? p).map sg=((L.map sg).filter p).head? :=fun L=>by
  rw[List.filter_map,List.head?_map,← List.head?_filter]
  congr 2
  congr 1
  funext e
  exact(hp e).symm
 rw[f,f]
 have h1:=h.filter p
 have hl:((L.map sg).filter p).length<=1:=by
  have hq:((L.map sg).filter p).Pairwise fun _ _=>False:=by
   rw[List.pairwise_filter,List.pairwise_map]
   refine hu.imp fun {x y} h hx hy=>h ⟨?_,?_⟩
   ·rw[← hp];exact hx
   ·rw[← hp];exact hy
  have key:∀Z:List A9,Z.Pairwise (fun _ _=>False)->Z.length<=1:=fun Z hz=>by
   cases Z with
   |nil=>simp
   |cons a Z=>
    cases Z with
    |nil=>simp
    |cons b Z=>exact((List.pairwise_cons.1 hz).1 b List.mem_cons_self).elim
  exact key _ hq
 match h2:(L.map sg).filter p,hl with
 | [],_=>
  rw[h2]at h1
  rw[List.nil_perm.1 h1]
 | [a],_=>
  rw[h2]at h1
  rw[List.singleton_perm.1 h1]
 |a::b::l,hl=>simp at hl
end Go.Proofs.YtcndghapmoaidaaGreatDoor
set_option linter.unusedSectionVars false
set_option linter.unusedVariables false
set_option linter.unusedSimpArgs false
set_option maxRecDepth 100000
set_option maxHeartbeats 4000000
namespace Go.Proofs.YtcndghapmoaidaaGreatDoor
open Go Go.Cn
variable [Glob]
structure TR (T1 T2:List A9):Prop where
 perm:(T1.map sg).Perm (T2.map sg)
 noc:NoC T1
 ce:∀e∈T1,e.Kind=1->e.Owner=[]/\e.Name=e.Id
theorem TR.len {T1 T2:List A9} (h:TR T1 T2):T1.length=T2.length:=by
 have:=h.perm.length_eq
 simpa using this
structure SgE (a b:A9):Prop where
 kind:a.Kind=b.Kind
 id:a.Id=b.Id
 name:a.Name=b.Name
 owner:a.Owner=b.Owner
 type:a.Type_=b.Type_
 static:a.Static=b.Static
 params:a.Params=b.Params
 at_:a.At=b.At
theorem sgE {a b:A9} (h:sg a=sg b):SgE a b:=by
 unfold sg at h
 injection h
 constructor<;>assumption
theorem SgE.refl (a:A9):SgE a a:=⟨rfl,rfl,rfl,rfl,rfl,rfl,rfl,rfl⟩
variable {T1 T2:List A9}
theorem TR.find (h:TR T1 T2) (p:A9->Bool) (hp:∀e,p (sg e)=p e) (hu:∀x∈T1,∀y∈T1,p x=true->p y=true->amt x y=true):(T1.find? p).map sg=(T2.find? p).map sg:=
 find_sg h.perm p hp (h.noc.imp_of_mem fun {x y} hx hy hc hxy=>by
  rw[hu x hx y hy hxy.1 hxy.2]at hc
  cases hc)
theorem TR.cls (h:TR T1 T2) (id:Bt):(cls T1 id).2=(cls T2 id).2/\SgE (cls T1 id).1 (cls T2 id).1:=by
 have hf:=h.find (isC id) (fun e=>rfl) (fun x hx y hy h1 h2=>by
  unfold isC at h1 h2
  simp only[Bool.and_eq_true,beq_iff_eq]at h1 h2
  obtain⟨a1,a2⟩:=h.ce x hx h1.1
  obtain⟨b1,b2⟩:=h.ce y hy h2.1
  unfold amt ata
  rw[h1.1,h2.1,a1,b1,a2,b2,h1.2,h2.2]
  simp)
 unfold Go.Proofs.YtcndghapmoaidaaGreatDoor.cls
 cases h1:T1.find? (isC id)<;>cases h2:T2.find? (isC id)<;>rw[h1,h2]at hf
 ·exact⟨rfl,.refl _⟩
 ·cases hf
 ·cases hf
 ·exact⟨rfl,sgE (Option.some.inj hf)⟩
theorem TR.path (h:TR T1 T2):∀(n:Nat) (id:Bt) (told:List Bt),path T1 n id told=path T2 n id told
 | 0,_,_=>rfl
 |n+1,id,told=>by
  obtain⟨a,b⟩:=h.cls id
  unfold Go.Proofs.YtcndghapmoaidaaGreatDoor.path
  rw[a,b.type,h.path n]
theorem TR.below (h:TR T1 T2) (a b:Bt):below T1 a b=below T2 a b:=by
 unfold Go.Proofs.YtcndghapmoaidaaGreatDoor.below
 rw[h.len,h.path]
theorem aor {f g:Bt->Option A9} (h:∀a,(f a).map sg=(g a).map sg):∀l:List Bt,(l.findSome? f).map sg=(l.findSome? g).map sg
 | []=>rfl
 |a::l=>by
  rw[List.findSome?_cons,List.findSome?_cons]
  have:=h a
  cases h1:f a<;>cases h2:g a<;>rw[h1,h2]at this
  ·exact aor h l
  ·cases this
  ·cases this
  ·exact this
theorem TR.has (h:TR T1 T2) {kind:Int} (hk:kind≠4) (id name:Bt):(has T1 kind id name).2=(has T2 kind id name).2/\SgE (has T1 kind id name).1 (has T2 kind id name).1:=by
 have hf:=aor (f:=fun a=>T1.find? (ownP kind name a)) (g:=fun a=>T2.find? (ownP kind name a)) (fun a=>h.find (ownP kind name a) (fun e=>rfl) (fun x hx y hy h1 h2=>by
  unfold ownP at h1 h2
  simp only[Bool.and_eq_true,beq_iff_eq]at h1 h2
  unfold amt ata
  rw[h1.1.1,h2.1.1,h1.1.2,h2.1.2,h1.2,h2.2]
  simpa using hk)) (Go.Proofs.YtcndghapmoaidaaGreatDoor.path T1 (T1.length+1) id [])
 unfold Go.Proofs.YtcndghapmoaidaaGreatDoor.has
 rw[← h.len,← h.path]
 revert hf
 cases (Go.Proofs.YtcndghapmoaidaaGreatDoor.path T1 (T1.length+1) id []).findSome? (fun a=>T1.find? (ownP kind name a))<;>cases (Go.Proofs.YtcndghapmoaidaaGreatDoor.path T1 (T1.length+1) id []).findSome? (fun a=>T2.find? (ownP kind name a))<;>intro hf
 ·exact⟨rfl,.refl _⟩
 ·cases hf
 ·cases hf
 ·exact⟨rfl,sgE (Option.some.inj hf)⟩
theorem TR.wrong (h:TR T1 T2) {e1 e2:A9} (he:SgE e1 e2):ne T1 e1=ne T2 e2:=by
 obtain⟨c1,c2⟩:=h.cls e1.Type_
 obtain⟨o1,o2⟩:=h.cls e1.Owner
 obtain⟨f1,f2⟩:=h.has (kind:=2) dcd (Go.Proofs.YtcndghapmoaidaaGreatDoor.cls T1 e1.Owner).1.Type_ e1.Name
 obtain⟨m1,m2⟩:=h.has (kind:=3) dcd (Go.Proofs.YtcndghapmoaidaaGreatDoor.cls T1 e1.Owner).1.Type_ e1.Name
 unfold ne
 rw[f1,m1,m2.type,m2.static,m2.params,o2.type,c1,o1,h.below,he.kind,he.type,he.owner,he.id,he.name,he.static,he.params]
theorem aok :∀(l L:List A9) (i:Nat),((fin (B3.mk 0 0 0) (kn (fun e=>ne L e != 0) (fun _ e=>B3.mk (ne L e) e.File e.At) i l)).Code=0)↔∀e∈l,ne L e=0
 | [],_,_=>by unfold kn fin;simp
 |x::r,L,i=>by
  unfold kn
  by_cases hw:ne L x=0
  ·rw[if_neg (by simp[hw]),aok r L (i+1)]
   simp[hw]
  ·rw[if_pos (by simpa using hw)]
   refine⟨fun h=>absurd h hw,fun h=>absurd (h x List.mem_cons_self) hw⟩
theorem TR.check (h:TR T1 T2):(xb T1).Code=0↔(xb T2).Code=0:=by
 unfold xb
 rw[aok,aok]
 have key:∀(A B:List A9),(A.map sg).Perm (B.map sg)->(∀e1 e2,SgE e1 e2->e1∈A->e2∈B->ne T1 e1=ne T2 e2)->True:=fun _ _ _ _=>trivial
 constructor
 ·intro g e he
  obtain⟨e1,h1,h2⟩:=List.mem_map.1 (h.perm.mem_iff.2 (List.mem_map_of_mem (f:=sg) he))
  rw[← h.wrong (sgE h2)]
  exact g e1 h1
 ·intro g e he
  obtain⟨e1,h1,h2⟩:=List.mem_map.1 (h.perm.mem_iff.1 (List.mem_map_of_mem (f:=sg) he))
  rw[h.wrong (sgE h2.symm)]
  exact g e1 h1
structure SR (s1 s2:B6):Prop where
 tab:TR s1.Table s2.Table
 cl:s1.Class=s2.Class
 st:s1.Static=s2.Static
 seen:s1.Seen.map sg=s2.Seen.map sg
structure PR (a b:A9 × Int):Prop where
 e:SgE a.1 b.1
 c:a.2=b.2
theorem PR.refl (a:A9 × Int):PR a a:=⟨.refl _,rfl⟩
theorem am8 (st:Bool) {a b:A9 × Bool} (h1:a.2=b.2) (h2:SgE a.1 b.1):PR (ownM st a) (ownM st b):=by
 unfold ownM
 rw[h1,h2.static]
 split
 ·split
  ·exact .refl _
  ·exact⟨h2,rfl⟩
 ·exact .refl _
theorem atr {a b:A9 × Bool} (h1:a.2=b.2) (h2:SgE a.1 b.1):PR (anl a) (anl b):=by
 unfold anl
 rw[h1]
 split
 ·exact⟨h2,rfl⟩
 ·exact .refl _
theorem ajm (p:A9->Bool) (hp:∀e,p (sg e)=p e):∀L:List A9,(L.find? p).map sg=(L.map sg).find? p
 | []=>rfl
 |x::L=>by
  rw[List.map_cons]
  by_cases hx:p x=true
  ·rw[List.find?_cons_of_pos hx,List.find?_cons_of_pos (by rw[hp];exact hx)];rfl
  ·rw[List.find?_cons_of_neg hx,List.find?_cons_of_neg (by rw[hp];exact hx),ajm p hp L]
variable {s1 s2:B6}
theorem atv (h:SR s1 s2) (t:Bt):PR (aio s1 t) (aio s2 t):=by
 have hf:(s1.Seen.reverse.find? fun e=>e.Name==t).map sg=(s2.Seen.reverse.find? fun e=>e.Name==t).map sg:=by
  rw[ajm _ (fun e=>rfl),ajm _ (fun e=>rfl),List.map_reverse,List.map_reverse,h.seen]
 obtain⟨f1,f2⟩:=h.tab.has (kind:=2) dcd s1.Class t
 obtain⟨c1,c2⟩:=h.tab.cls t
 unfold aio
 rw[← h.cl,← h.st]
 revert hf
 cases s1.Seen.reverse.find? (fun e=>e.Name==t)<;>cases s2.Seen.reverse.find? (fun e=>e.Name==t)<;>intro hf
 ·dsimp only
  rw[f1]
  split
  ·exact am8 _ f1 f2
  ·exact atr c1 c2
 ·cases hf
 ·cases hf
 ·exact⟨sgE (Option.some.inj hf),rfl⟩
theorem awp (h:SR s1 s2) {kind:Int} (hk:kind≠4) (n:B5) (ty:Bt):PR (memM s1 kind n ty) (memM s2 kind n ty):=by
 unfold memM
 cases n.Kids with
 |nil=>exact .refl _
 |cons f r=>
  dsimp only
  have hn:=atv h f.Text
  obtain⟨c1,c2⟩:=h.tab.cls ty
  rw[hn.c,hn.e.kind,hn.e.id,c1]
  split
  ·exact am8 _ (h.tab.has hk _ _).1 (h.tab.has hk _ _).2
  ·split
   ·exact am8 _ (h.tab.has hk _ _).1 (h.tab.has hk _ _).2
   ·exact .refl _
theorem awx (h:SR s1 s2) (n:B5) (ty:Bt):PR (entW s1 n ty) (entW s2 n ty):=by
 unfold entW
 split
 ·exact atv h _
 ·split
  ·rw[h.st,h.cl];exact am8 _ (h.tab.has dcd _ _).1 (h.tab.has dcd _ _).2
  ·split
   ·exact atr (h.tab.cls _).1 (h.tab.cls _).2
   ·split
    ·exact awp h dcd _ _
    ·split
     ·exact awp h dcd _ _
     ·exact .refl _
theorem a0h (h:SR s1 s2) (n:B5) {a b:A9 × Int} (hp:PR a b):typW s1 n a=typW s2 n b:=by
 unfold typW
 rw[h.st,h.cl,hp.c,hp.e.id,hp.e.kind,hp.e.type]
mutual
theorem a0i (h:SR s1 s2):∀n:B5,typM s1 n=typM s2 n
 |⟨k,t,y,n,a,b,c,d,kids⟩=>by
  rw[typM,typM,awc h kids]
  exact a0h h _ (awx h _ _)
theorem awc (h:SR s1 s2):∀l:List B5,typF s1 l=typF s2 l
 | []=>by rw[typF,typF]
 |f::r=>by rw[typF,typF];exact a0i h f
end
theorem a1d (h:SR s1 s2) (n:B5):PR (entM s1 n) (entM s2 n):=by
 unfold entM
 rw[awc h]
 exact awx h n _
end Go.Proofs.YtcndghapmoaidaaGreatDoor
set_option linter.unusedSectionVars false
set_option linter.unusedVariables false
set_option linter.unusedSimpArgs false
set_option maxRecDepth 100000
set_option maxHeartbeats 4000000
namespace Go.Proofs.YtcndghapmoaidaaGreatDoor
open Go Go.Cn
variable [Glob]
def uc (u:B7):Int × Bt:=(u.At,u.Id)
structure UW (w1 w2 v1 v2:B8):Prop where
 ex:∃D1 D2,v1.uses=w1.uses++D1/\v2.uses=w2.uses++D2/\D1.map uc=D2.map uc
theorem UW.refl (w1 w2:B8):UW w1 w2 w1 w2:=⟨[],[],by simp,by simp,rfl⟩
theorem UW.trans {w1 w2 v1 v2 u1 u2:B8} (h:UW w1 w2 v1 v2) (k:UW v1 v2 u1 u2):UW w1 w2 u1 u2:=by
 obtain⟨D1,D2,h1,h2,h3⟩:=h.ex
 obtain⟨E1,E2,k1,k2,k3⟩:=k.ex
 exact⟨D1++E1,D2++E2,by rw[k1,h1,List.append_assoc],by rw[k2,h2,List.append_assoc],by rw[List.map_append,List.map_append,h3,k3]⟩
structure MM (w1 w2:B8):Prop where
 meth:w1.method=w2.method
 many:w1.many=w2.many
def WR (w1 w2:B8):B8 ⊕ B3->B8 ⊕ B3->Prop
 | .inl v1,.inl v2=>UW w1 w2 v1 v2/\(MM w1 w2->MM v1 v2)
 | .inr _,.inr _=>True
 |_,_=>False
theorem alh (w1 w2:B8) (a:Int) {i j:Bt} (h:i=j):WR w1 w2 (.inl (putW w1 a i)) (.inl (putW w2 a j)):=by
 subst h
 exact⟨⟨[_],[_],rfl,rfl,rfl⟩,fun h=>⟨h.meth,h.many⟩⟩
theorem WR.refl (w1 w2:B8):WR w1 w2 (.inl w1) (.inl w2):=⟨.refl _ _,id⟩
variable {s1 s2:B6}
theorem aof (h:SR s1 s2) (x:B5) (w1 w2:B8):WR w1 w2 (yg s1 x w1) (yg s2 x w2):=by
 obtain⟨c1,c2⟩:=h.tab.cls x.Type_
 unfold yg
 rw[c1]
 split
 ·exact .refl _ _
 ·split
  ·exact alh _ _ _ c2.id
  ·trivial
theorem aoc (h:SR s1 s2) (x:B5) (w1 w2:B8) (hm:MM w1 w2\/decl x=false):WR w1 w2 (va s1 x w1) (va s2 x w2):=by
  have he:=a1d h x
  unfold va
  rw[h.st,h.cl,he.c]
  split
  · trivial
  · split
    · exact .refl _ _
    · split
      · exact alh _ _ _ rfl
      · split
        · exact alh _ _ _ rfl
        · split
          · exact alh _ _ _ rfl
          · split
            · rename_i hd
              rcases hm with hm|hm
              · exact alh _ _ _ (by rw[hm.meth,hm.many])
              · rw[hm]at hd;cases hd
            · split
              · trivial
              · exact alh _ _ _ he.e.id
theorem a06 (h:SR s1 s2) (x:B5):SR (innS s1 x) (innS s2 x):=by
 unfold innS
 split
 ·exact⟨h.tab,h.cl,rfl,h.seen⟩
 ·exact h
theorem a0w (h:SR s1 s2) (x:B5) {w1 w2:B8} (hm:MM w1 w2):SR (outS s1 x w1) (outS s2 x w2):=by
 unfold outS
 split
 ·refine⟨h.tab,h.cl,h.st,?_⟩
  rw[List.map_append,List.map_append,h.seen]
  unfold locE
  rw[hm.meth,hm.many]
  rfl
 ·exact h
def WS (w1 w2:B8):WM->WM->Prop
 | .inl p1,.inl p2=>SR p1.1 p2.1/\UW w1 w2 p1.2 p2.2/\MM p1.2 p2.2
 | .inr _,.inr _=>True
 |_,_=>False
theorem az1 (x:B5) {w1 w2:B8} (hm:MM w1 w2):MM (mg x w1) (mg x w2)/\(mg x w1).uses=w1.uses/\(mg x w2).uses=w2.uses:=by
 unfold mg
 split
 ·exact⟨⟨hm.meth,by rw[hm.many]⟩,rfl,rfl⟩
 ·exact⟨hm,rfl,rfl⟩
theorem azc (isC:Bool) (c:Bt) (k:B5) {w1 w2:B8} (hm:MM w1 w2):MM (n0 isC c k w1) (n0 isC c k w2)/\(n0 isC c k w1).uses=w1.uses/\(n0 isC c k w2).uses=w2.uses:=by
 unfold n0
 split
 ·exact⟨⟨rfl,rfl⟩,rfl,rfl⟩
 ·exact⟨hm,rfl,rfl⟩
theorem UW.base {w1 w2 v1 v2 u1 u2:B8} (h:UW v1 v2 u1 u2) (h1:v1.uses=w1.uses) (h2:v2.uses=w2.uses):UW w1 w2 u1 u2:=by
 obtain⟨D1,D2,k1,k2,k3⟩:=h.ex
 exact⟨D1,D2,by rw[k1,h1],by rw[k2,h2],k3⟩
theorem atg {n:Nat} (ih:∀(x:B5) (s1 s2:B6) (w1 w2:B8),fi x<=n->SR s1 s2->MM w1 w2->WS w1 w2 (ki x s1 w1) (ki x s2 w2)) (isC:Bool) (c:Bt):
  ∀(r:List B5) (s1 s2:B6) (w1 w2:B8),bz r<=n->SR s1 s2->MM w1 w2->WS w1 w2 (qw r isC c s1 w1) (qw r isC c s2 w2)
 | [],s1,s2,w1,w2,_,h,hm=>by rw[qw,qw];exact⟨h,.refl _ _,hm⟩
 |k::r,s1,s2,w1,w2,hn,h,hm=>by
  simp only[bz]at hn
  obtain⟨m1,m2,m3⟩:=azc isC c k hm
  have g:=ih k s1 s2 _ _ om h m1
  rw[qw,qw]
  cases h1:ki k s1 (n0 isC c k w1)<;>cases h2:ki k s2 (n0 isC c k w2)<;>rw[h1,h2]at g
  ·rename_i p1 p2
   obtain⟨g1,g2,g3⟩:=g
   have g2:=g2.base m2 m3
   have q:=atg ih isC c r _ _ _ _ om g1 g3
   dsimp only
   cases h3:qw r isC c p1.1 p1.2<;>cases h4:qw r isC c p2.1 p2.2<;>rw[h3,h4]at q
   ·exact⟨q.1,g2.trans q.2.1,q.2.2⟩
   ·exact False.elim q
   ·exact False.elim q
   ·trivial
  ·exact False.elim g
  ·exact False.elim g
  ·trivial
theorem a0d :∀(n:Nat) (x:B5) (s1 s2:B6) (w1 w2:B8),fi x<=n->SR s1 s2->MM w1 w2->WS w1 w2 (ki x s1 w1) (ki x s2 w2):=by
 intro n
 induction n with
 |zero=>intro x _ _ _ _ h;have:=ng x;omega
 |succ n ih=>
  intro x s1 s2 w1 w2 hn h hm
  have hs:=jk x
  rw[acf,acf]
  have a:=aof h x w1 w2
  cases h1:yg s1 x w1<;>cases h2:yg s2 x w2<;>rw[h1,h2]at a
  ·rename_i v1 v2
   obtain⟨a1,a2⟩:=a
   have a2:=a2 hm
   dsimp only
   have b:WR v1 v2 (ut x s1 v1) (ut x s2 v2):=by
    unfold ut
    split
    ·cases hk:x.Kids with
     |nil=>exact .refl _ _
     |cons f r=>
      rw[hk]at hs
      simp only[bz]at hs
      have g:=ih f s1 s2 v1 v2 om h a2
      dsimp only
      cases h3:ki f s1 v1<;>cases h4:ki f s2 v2<;>rw[h3,h4]at g
      ·exact⟨g.2.1,fun _=>g.2.2⟩
      ·exact False.elim g
      ·exact False.elim g
      ·trivial
    ·exact .refl _ _
   cases h3:ut x s1 v1<;>cases h4:ut x s2 v2<;>rw[h3,h4]at b
   ·rename_i u1 u2
    obtain⟨b1,b2⟩:=b
    have b2:=b2 a2
    dsimp only
    have c:=aoc h x u1 u2 (.inl b2)
    cases h5:va s1 x u1<;>cases h6:va s2 x u2<;>rw[h5,h6]at c
    ·rename_i t1 t2
     obtain⟨c1,c2⟩:=c
     have c2:=c2 b2
     dsimp only
     obtain⟨d1,d2,d3⟩:=az1 x c2
     have hr:bz (lq x)<=n:=by
      have hp:bz (lq x)<=bz x.Kids:=by
       unfold lq
       split
       ·cases x.Kids with
        |nil=>simp[bz]
        |cons f r=>simp[bz]
       ·omega
      omega
     have q:=atg ih (x.Kind==1) s1.Class (lq x) _ _ _ _ hr (a06 h x) d1
     rw[← h.cl]
     cases h7:qw (lq x) (x.Kind==1) s1.Class (innS s1 x) (mg x t1)<;>cases h8:qw (lq x) (x.Kind==1) s1.Class (innS s2 x) (mg x t2)<;>rw[h7,h8]at q
     ·exact⟨a0w h x c2,((a1.trans b1).trans c1).trans (q.2.1.base d2 d3),q.2.2⟩
     ·exact False.elim q
     ·exact False.elim q
     ·trivial
    ·exact False.elim c
    ·exact False.elim c
    ·trivial
   ·exact False.elim b
   ·exact False.elim b
   ·trivial
  ·exact False.elim a
  ·exact False.elim a
  ·trivial
def WT (w1 w2:B8):WM->WM->Prop
 | .inl p1,.inl p2=>SR p1.1 p2.1/\UW w1 w2 p1.2 p2.2
 | .inr _,.inr _=>True
 |_,_=>False
theorem azy (h:SR s1 s2) {k:B5} (hk:k.Kind=2) (hk2:k.Kids=[]) (w1 w2:B8):WT w1 w2 (ki k s1 w1) (ki k s2 w2):=by
 have hd:decl k=false:=by unfold decl;simp[hk]
 have hh:∀s w,ut k s w= .inl w:=fun s w=>by unfold ut;rw[if_neg (by simp[hk])]
 have hr:lq k=[]:=by unfold lq;rw[if_neg (by simp[hk]),hk2]
 rw[acf,acf]
 have a:=aof h k w1 w2
 cases h1:yg s1 k w1<;>cases h2:yg s2 k w2<;>rw[h1,h2]at a
 ·rename_i v1 v2
  dsimp only
  rw[hh,hh]
  dsimp only
  have c:=aoc h k v1 v2 (.inr hd)
  cases h5:va s1 k v1<;>cases h6:va s2 k v2<;>rw[h5,h6]at c
  ·rename_i t1 t2
   dsimp only
   rw[hr,qw,qw]
   have e1:∀w,mg k w=w:=fun w=>by unfold mg;rw[if_neg (by rw[hd];simp)]
   have e2:∀s w,outS s k w=s:=fun s w=>by unfold outS;rw[if_neg (by rw[hd];simp)]
   unfold finM
   dsimp only
   rw[e1,e1,e2,e2]
   exact⟨h,a.1.trans c.1⟩
  ·exact False.elim c
  ·exact False.elim c
  ·trivial
 ·exact False.elim a
 ·exact False.elim a
 ·trivial
theorem aop (c:Bt):∀(r:List B5) (s1 s2:B6) (w1 w2:B8),(∀k∈r,memK k)->SR s1 s2->WT w1 w2 (qw r true c s1 w1) (qw r true c s2 w2)
 | [],s1,s2,w1,w2,_,h=>by rw[qw,qw];exact⟨h,.refl _ _⟩
 |k::r,s1,s2,w1,w2,hm,h=>by
  have g:WT w1 w2 (ki k s1 (n0 true c k w1)) (ki k s2 (n0 true c k w2)):=by
   rcases hm k List.mem_cons_self with h3|⟨h2,hk⟩
   ·have e:∀w,n0 true c k w=B8.mk w.uses w.file (kh c k.Text) 0:=fun w=>by unfold n0;rw[if_pos (by simp[h3])]
    rw[e,e]
    have:=a0d (fi k) k s1 s2 (B8.mk w1.uses w1.file (kh c k.Text) 0) (B8.mk w2.uses w2.file (kh c k.Text) 0) (Nat.le_refl _) h ⟨rfl,rfl⟩
    revert this
    cases ki k s1 (B8.mk w1.uses w1.file (kh c k.Text) 0)<;>cases ki k s2 (B8.mk w2.uses w2.file (kh c k.Text) 0)<;>intro this
    ·exact⟨this.1,this.2.1.base rfl rfl⟩
    ·exact False.elim this
    ·exact False.elim this
    ·trivial
   ·have e:∀w,n0 true c k w=w:=fun w=>by unfold n0;rw[if_neg (by simp[h2])]
    rw[e,e]
    exact azy h h2 hk w1 w2
  rw[qw,qw]
  cases h1:ki k s1 (n0 true c k w1)<;>cases h2:ki k s2 (n0 true c k w2)<;>rw[h1,h2]at g
  ·rename_i p1 p2
   have q:=aop c r p1.1 p2.1 p1.2 p2.2 (fun k hk=>hm k (List.mem_cons_of_mem _ hk)) g.1
   dsimp only
   cases h3:qw r true c p1.1 p1.2<;>cases h4:qw r true c p2.1 p2.2<;>rw[h3,h4]at q
   ·exact⟨q.1,g.2.trans q.2⟩
   ·exact False.elim q
   ·exact False.elim q
   ·trivial
  ·exact False.elim g
  ·exact False.elim g
  ·trivial
theorem at7 (h:SR s1 s2) {x:B5} (hx:x.Kind=1) (hm:∀k∈x.Kids,memK k) (w1 w2:B8):WT w1 w2 (ki x s1 w1) (ki x s2 w2):=by
 have hd:decl x=false:=by unfold decl;simp[hx]
 have hh:∀s w,ut x s w= .inl w:=fun s w=>by unfold ut;rw[if_neg (by simp[hx])]
 have hr:lq x=x.Kids:=by unfold lq;rw[if_neg (by simp[hx])]
 have hc:(x.Kind==1)=true:=by simp[hx]
 rw[acf,acf]
 have a:=aof h x w1 w2
 cases h1:yg s1 x w1<;>cases h2:yg s2 x w2<;>rw[h1,h2]at a
 ·rename_i v1 v2
  dsimp only
  rw[hh,hh]
  dsimp only
  have c:=aoc h x v1 v2 (.inr hd)
  cases h5:va s1 x v1<;>cases h6:va s2 x v2<;>rw[h5,h6]at c
  ·rename_i t1 t2
   dsimp only
   have e1:∀w,mg x w=w:=fun w=>by unfold mg;rw[if_neg (by rw[hd];simp)]
   have e2:∀s w,outS s x w=s:=fun s w=>by unfold outS;rw[if_neg (by rw[hd];simp)]
   have e3:∀s,innS s x=s:=fun s=>by unfold innS;rw[if_neg (by simp[hx])]
   rw[hr,hc,e1,e1,e3,e3,← h.cl]
   have q:=aop s1.Class x.Kids s1 s2 t1 t2 hm h
   cases h7:qw x.Kids true s1.Class s1 t1<;>cases h8:qw x.Kids true s1.Class s2 t2<;>rw[h7,h8]at q
   ·unfold finM
    dsimp only
    rw[e2,e2]
    exact⟨h,(a.1.trans c.1).trans q.2⟩
   ·exact False.elim q
   ·exact False.elim q
   ·trivial
  ·exact False.elim c
  ·exact False.elim c
  ·trivial
 ·exact False.elim a
 ·exact False.elim a
 ·trivial
end Go.Proofs.YtcndghapmoaidaaGreatDoor
set_option linter.unusedSectionVars false
set_option linter.unusedVariables false
set_option linter.unusedSimpArgs false
set_option maxRecDepth 100000
set_option maxHeartbeats 4000000
namespace Go.Proofs.YtcndghapmoaidaaGreatDoor
open Go Go.Cn
variable [Glob]
theorem ana {α β:Type} {E:Nat->α->List β} {y:β}:∀{r:List α} {i:Nat},y∈catF E i r->∃j x,x∈r/\y∈E j x
 |x::r,i,h=>by
  unfold catF at h
  rcases List.mem_append.1 h with h|h
  ·exact⟨i,x,List.mem_cons_self,h⟩
  ·obtain⟨j,z,h1,h2⟩:=ana h
   exact⟨j,z,List.mem_cons_of_mem _ h1,h2⟩
theorem ay4 (files:List (List B5)):∀e∈entA files,e.Kind=1->e.Owner=[]/\e.Name=e.Id:=by
 intro e he h1
 obtain⟨f,file,_,he⟩:=ana he
 obtain⟨_,c,_,he⟩:=ana he
 unfold entC at he
 split at he
 ·rcases List.mem_cons.1 he with rfl|he
  ·exact⟨rfl,rfl⟩
  ·obtain⟨_,k,_,he⟩:=ana he
   unfold entK at he
   split at he
   ·rw[List.mem_singleton.1 he]at h1
    exact absurd h1 (by unfold xq;simp)
   ·split at he
    ·rcases List.mem_cons.1 he with rfl|he
     ·exact absurd h1 (by unfold aip;simp)
     ·rw[aj6 _ _ _ e he]at h1
      cases h1
    ·cases he
 ·cases he
theorem TR.self {T:List A9} (hn:NoC T) (hc:∀e∈T,e.Kind=1->e.Owner=[]/\e.Name=e.Id):TR T T:=⟨.refl _,hn,hc⟩
theorem TR.turn {files:List (List B5)} (hn:NoC (entA files)):TR (entA files) (entA files.reverse):=⟨(ayo files).symm,hn,ay4 files⟩
def w0 :B8:=B8.mk [] 0 [] 0
def runC (T:List A9) (c:B5):WM:=ki c (B6.mk T c.Text false []) w0
def okc (T:List A9) (c:B5):Prop:=c.Kind=1->∃p,runC T c= .inl p
def ag4 (T:List A9) (c:B5):List (Int × Bt):=if c.Kind=1 then(match runC T c with| .inl p=>p.2.uses.map uc| .inr _=>[])else[]
theorem atk {T1 T2:List A9} (h:TR T1 T2) (c:Bt):SR (B6.mk T1 c false []) (B6.mk T2 c false []):=⟨h,rfl,rfl,rfl⟩
theorem UW.maps {w1 w2 v1 v2:B8} (h:UW w1 w2 v1 v2) (h2:w2.uses=[]):v1.uses.map uc=w1.uses.map uc++v2.uses.map uc:=by
 obtain⟨D1,D2,e1,e2,e3⟩:=h.ex
 rw[e1,e2,h2,List.nil_append,List.map_append,e3]
theorem asj {T1 T2:List A9} (h:TR T1 T2) {c:B5} (hm:∀k∈c.Kids,memK k):(okc T1 c↔okc T2 c)/\ag4 T1 c=ag4 T2 c:=by
 unfold okc ag4
 by_cases h1:c.Kind=1
 ·have g:=at7 (atk h c.Text) h1 hm w0 w0
  unfold runC
  rw[if_pos h1,if_pos h1]
  cases e1:ki c (B6.mk T1 c.Text false []) w0<;>cases e2:ki c (B6.mk T2 c.Text false []) w0<;>rw[e1,e2]at g
  ·refine⟨⟨fun _ _=>⟨_,rfl⟩,fun _ _=>⟨_,rfl⟩⟩,?_⟩
   have:=g.2.maps rfl
   exact this
  ·exact False.elim g
  ·exact False.elim g
  ·exact⟨⟨fun h=>(by obtain⟨p,hp⟩:=h h1;cases hp),fun h=>(by obtain⟨p,hp⟩:=h h1;cases hp)⟩,rfl⟩
 ·rw[if_neg h1,if_neg h1]
  exact⟨⟨fun _ h=>absurd h h1,fun _ h=>absurd h h1⟩,rfl⟩
theorem a0f {T:List A9} (h:TR T T) {c:B5} (hm:c.Kind=1->∀k∈c.Kids,memK k) (w:B8):
  match useC T w c with| .inl w'=>okc T c/\w'.uses.map uc=w.uses.map uc++ag4 T c| .inr _=>¬okc T c:=by
 unfold useC okc ag4
 by_cases h1:c.Kind=1
 ·have g:=at7 (atk h c.Text) h1 (hm h1) w w0
  unfold runC
  rw[if_pos (show(c.Kind==1)=true by simp[h1]),if_pos h1]
  cases e1:ki c (B6.mk T c.Text false []) w<;>cases e2:ki c (B6.mk T c.Text false []) w0<;>rw[e1,e2]at g
  ·exact⟨fun _=>⟨_,rfl⟩,g.2.maps rfl⟩
  ·exact False.elim g
  ·exact False.elim g
  ·rintro h
   obtain⟨p,hp⟩:=h h1
   cases hp
 ·rw[if_neg (show ¬(c.Kind==1)=true by simpa using h1),if_neg h1]
  exact⟨fun h=>absurd h h1,by simp⟩
theorem ar4 {α:Type} {g:Nat->B8->α->B8 ⊕ B3} (P:α->Prop) (E:α->List (Int × Bt)) (hg:∀i w x,match g i w x with| .inl w'=>P x/\w'.uses.map uc=w.uses.map uc++E x| .inr _=>¬P x):
  ∀(r:List α) (i:Nat) (w:B8),match rowF g i r w with| .inl w'=>(∀x∈r,P x)/\w'.uses.map uc=w.uses.map uc++r.flatMap E| .inr _=>¬∀x∈r,P x
 | [],_,w=>⟨fun _ h=>(by cases h),by simp⟩
 |x::r,i,w=>by
  have a:=hg i w x
  unfold rowF
  cases h1:g i w x with
  |inl w'=>
   rw[h1]at a
   have b:=ar4 P E hg r (i+1) w'
   dsimp only
   cases h2:rowF g (i+1) r w' with
   |inl w2=>
    rw[h2]at b
    refine⟨fun y hy=>?_,?_⟩
    ·rcases List.mem_cons.1 hy with rfl|hy
     ·exact a.1
     ·exact b.1 y hy
    ·rw[b.2,a.2,List.flatMap_cons,List.append_assoc]
   |inr m=>
    rw[h2]at b
    exact fun h=>b fun y hy=>h y (List.mem_cons_of_mem _ hy)
  |inr m=>
   rw[h1]at a
   exact fun h=>a (h x List.mem_cons_self)
theorem ar5 {α τ γ:Type} {g g':Nat->τ->α->τ ⊕ γ}:∀(r:List α) (i:Nat) (t:τ),(∀i t,∀x∈r,g i t x=g' i t x)->rowF g i r t=rowF g' i r t
 | [],_,_,_=>rfl
 |x::r,i,t,h=>by
  unfold rowF
  rw[h i t x List.mem_cons_self]
  cases g' i t x with
  |inl t'=>exact ar5 r (i+1) t' fun i t y hy=>h i t y (List.mem_cons_of_mem _ hy)
  |inr e=>rfl
def goodC (c:B5):Prop:=c.Kind=1->∀k∈c.Kids,memK k
theorem av1 {files:List (List B5)} (hF:ann files) {T:List A9} (h:TR T T):
  match ai0 T files with| .inl w=>(∀file∈files,∀c∈file,okc T c)/\w.uses.map uc=files.flatMap (fun file=>file.flatMap (ag4 T))| .inr _=>¬∀file∈files,∀c∈file,okc T c:=by
 classical
 have hgood:∀file∈files,∀c∈file,goodC c:=fun file hf c hc _=>((hF.2 _ hf).2.2 c hc).2.2
 let gC:B8->B5->B8 ⊕ B3:=fun w c=>if goodC c then useC T w c else(if okc T c then .inl (B8.mk (w.uses++(ag4 T c).map fun p=>B7.mk 0 p.1 p.2) w.file w.method w.many)else .inr (B3.mk 0 0 0))
 have hC:∀w c,match gC w c with| .inl w'=>okc T c/\w'.uses.map uc=w.uses.map uc++ag4 T c| .inr _=>¬okc T c:=fun w c=>by
  by_cases hg:goodC c
  ·simp only[gC,if_pos hg]
   exact a0f h hg w
  ·simp only[gC,if_neg hg]
   by_cases ho:okc T c
   ·simp only[if_pos ho]
    refine⟨ho,?_⟩
    rw[List.map_append,List.map_map]
    congr 1
    have:(uc ∘ fun p:Int × Bt=>B7.mk 0 p.1 p.2)=id:=by funext p;rfl
    rw[this,List.map_id]
   ·simp only[if_neg ho]
    exact ho
 have e:ai0 T files=rowF (fun f w file=>rowF (fun _ w c=>gC w c) 0 file (B8.mk w.uses f w.method w.many)) 0 files (B8.mk [] 0 [] 0):=by
  unfold ai0
  refine ar5 files 0 _ fun f w file hf=>?_
  unfold useF
  refine ar5 file 0 _ fun _ w c hc=>?_
  simp only[gC,if_pos (hgood file hf c hc)]
 rw[e]
 have:=ar4 (g:=fun f w file=>rowF (fun _ w c=>gC w c) 0 file (B8.mk w.uses f w.method w.many)) (fun file=>∀c∈file,okc T c) (fun file=>file.flatMap (ag4 T)) (fun f w file=>ar4 (g:=fun _ w c=>gC w c) (okc T) (ag4 T) (fun _ w c=>hC w c) file 0 (B8.mk w.uses f w.method w.many)) files 0 (B8.mk [] 0 [] 0)
 exact this
theorem ath {files:List (List B5)} (hF:ann files) {r:List B7 × B3} (hr:arj files r):
    (r.2.Code=0/\NoC (entA files)/\arg files/\(xb (entA files)).Code=0/\(∀file∈files,∀c∈file,okc (entA files) c)/\(r.1.map uc).Perm (files.flatMap fun file=>file.flatMap (ag4 (entA files))))\/
    (r.2.Code≠0/\r.1=[]/\¬(NoC (entA files)/\arg files/\(xb (entA files)).Code=0/\∀file∈files,∀c∈file,okc (entA files) c)):=by
  unfold arj at hr
  cases ht:tab files with
  |inr m=>
    rw[ht]at hr
    have hr:r=([],m):=hr
    right
    refine⟨by rw[hr];rw[ayn ht];decide,by rw[hr],fun⟨a,b,_⟩=>?_⟩
    rw[(awd files _).2 ⟨a,b,rfl⟩]at ht
    cases ht
  |inl l=>
    obtain⟨a,b,rfl⟩:=(awd files l).1 ht
    obtain⟨hl,_⟩:=awe hF ht
    rw[ht]at hr
    dsimp only at hr
    by_cases hc:(xb (entA files)).Code=0
    · rw [if_neg (by simp [hc])] at hr
      have g:=av1 hF (TR.self a (ay4 files))
      cases hg:ai0 (entA files) files with
      |inr m=>
        rw[hg]at hr g
        have hr:r=([],m):=hr
        right
        refine⟨?_,by rw[hr],fun⟨_,_,_,h⟩=>g h⟩
        rw[hr]
        unfold ai0 at hg
        have key:∀(fs:List (List B5)) (i n:Nat) (w:B8),(∀x∈fs,x∈files)->WB w n->n+1500 * fs.length<=9000->∀m,rowF (useF (entA files)) i fs w= .inr m->m.Code≠0:=by
          intro fs
          induction fs with
          |nil=>intro i n w _ _ _ m h;cases h
          |cons file fs ih=>
            intro i n w hs hw hn m h
            obtain⟨hB,hN,_⟩:=hF.2 file (hs _ List.mem_cons_self)
            simp only[List.length_cons]at hn
            have ax5:∀(r:List B5) (j n:Nat) (w:B8),okBL 1500 r->bz r<=1500->WB w n->n+bz r<=9000->(∀m,rowF (fun _ w c=>useC (entA files) w c) j r w= .inr m->m.Code≠0)/\∀w',rowF (fun _ w c=>useC (entA files) w c) j r w= .inl w'->WB w' (n+bz r):=by
              intro r
              induction r with
              |nil=>intro j n w _ _ hw _;exact⟨fun m h=>(by cases h),fun w' h=>(by cases h;simpa [bz] using hw)⟩
              |cons c r ih2=>
                intro j n w hB hN hw hn
                simp only[okBL,bz]at hB hN hn
                unfold rowF
                try dsimp only
                cases hu:useC (entA files) w c with
                |inr m'=>exact⟨fun m h=>(by cases h;exact a0g hl hB.1 om hw om hu),fun w' h=>(by cases h)⟩
                |inl w'=>
                  have g:=ih2 (j+1) (n+fi c) w' hB.2 om (auy hl hB.1 om hw om hu) om
                  refine⟨g.1,fun w2 h=>?_⟩
                  have:=g.2 w2 h
                  simp only[bz]
                  rwa [← Nat.add_assoc]
            unfold rowF at h
            have gi:=ax5 file 0 n (B8.mk w.uses i w.method w.many) hB hN ⟨hw.uses,hw.many,hw.many2,hw.meth⟩ om
            cases hu:useF (entA files) i w file with
            |inr m'=>rw[hu]at h;cases h;exact gi.1 _ hu
            |inl w'=>
              rw[hu]at h
              exact ih (i+1) _ w' (fun x hx=>hs x (List.mem_cons_of_mem _ hx)) (gi.2 w' hu) om m h
        have h6:=hF.1
        exact key files 0 0 _ (fun _ h=>h) ⟨by simp,by simp,by simp,by simp⟩ om m hg
      |inl w=>
        rw[hg]at hr g
        obtain⟨h1,h2,h3,h4⟩:=hr
        left
        refine⟨by rw[h1];rfl,a,b,hc,g.1,?_⟩
        rw[← g.2]
        exact(h3.perm.map uc).symm
    · rw[if_pos hc]at hr
      right
      exact⟨by rw[hr];exact hc,by rw[hr],fun⟨_,_,h,_⟩=>hc h⟩
theorem aum {α β:Type} (f:α->List β) (l:List α):(l.reverse.flatMap f).Perm (l.flatMap f):=(List.reverse_perm l).flatMap_right _
theorem ann.turn {files:List (List B5)} (h:ann files):ann files.reverse:=⟨by simpa using h.1,fun l hl=>h.2 l (by simpa using hl)⟩
theorem ay9 {files:List (List B5)} (hF:ann files) {r q:List B7 × B3} (hr:arj files r) (hq:arj files.reverse q):(r.2.Code=0↔q.2.Code=0)/\(r.1.map uc).Perm (q.1.map uc):=by
  have hm:∀file∈files,∀c∈file,∀k∈c.Kids,memK k:=fun file hf c hc=>((hF.2 _ hf).2.2 c hc).2.2
  have eq:NoC (entA files)->((NoC (entA files.reverse)/\arg files.reverse/\(xb (entA files.reverse)).Code=0/\∀file∈files.reverse,∀c∈file,okc (entA files.reverse) c)↔(NoC (entA files)/\arg files/\(xb (entA files)).Code=0/\∀file∈files,∀c∈file,okc (entA files) c)):=fun hn=>by
    have ht:=TR.turn hn
    have h1:NoC (entA files.reverse):=aw1 ht.perm hn
    rw[azp,← ht.check]
    have h2:(∀file∈files.reverse,∀c∈file,okc (entA files.reverse) c)↔∀file∈files,∀c∈file,okc (entA files) c:=
      ⟨fun h file hf c hc=>(asj ht (hm file hf c hc)).1.2 (h file (by simpa using hf) c hc),fun h file hf c hc=>(asj ht (hm file (by simpa using hf) c hc)).1.1 (h file (by simpa using hf) c hc)⟩
    rw[h2]
    exact⟨fun h=>⟨hn,h.2⟩,fun h=>⟨h1,h.2⟩⟩
  have hback:NoC (entA files.reverse)->NoC (entA files):=fun h=>aw1 (ayo files) h
  rcases ath hF hr with⟨a1,a2,a3,a4,a5,a6⟩|⟨a1,a2,a3⟩<;>rcases ath hF.turn hq with⟨b1,b2,b3,b4,b5,b6⟩|⟨b1,b2,b3⟩
  · refine⟨⟨fun _=>b1,fun _=>a1⟩,?_⟩
    have ht:=TR.turn a2
    refine a6.trans (List.Perm.trans ?_ b6.symm)
    refine List.Perm.trans ?_ (aum _ files).symm
    have e:files.flatMap (fun file=>file.flatMap (ag4 (entA files)))=files.flatMap (fun file=>file.flatMap (ag4 (entA files.reverse))):=by
      have key:∀fs:List (List B5),(∀x∈fs,x∈files)->fs.flatMap (fun file=>file.flatMap (ag4 (entA files)))=fs.flatMap (fun file=>file.flatMap (ag4 (entA files.reverse))):=by
        intro fs
        induction fs with
        |nil=>intro _;rfl
        |cons file fs ih=>
          intro hs
          rw[List.flatMap_cons,List.flatMap_cons,ih fun x hx=>hs x (List.mem_cons_of_mem _ hx)]
          congr 1
          have ax5:∀r:List B5,(∀c∈r,c∈file)->r.flatMap (ag4 (entA files))=r.flatMap (ag4 (entA files.reverse)):=by
            intro r
            induction r with
            |nil=>intro _;rfl
            |cons c r ih2=>
              intro hr
              rw[List.flatMap_cons,List.flatMap_cons,ih2 fun x hx=>hr x (List.mem_cons_of_mem _ hx),(asj ht (hm file (hs _ List.mem_cons_self) c (hr _ List.mem_cons_self))).2]
          exact ax5 file fun _ h=>h
      exact key files fun _ h=>h
    rw[e]
  · exact absurd ((eq a2).2 ⟨a2,a3,a4,a5⟩) b3
  · exact absurd ((eq (hback b2)).1 ⟨b2,b3,b4,b5⟩) a3
  · exact⟨⟨fun h=>absurd h a1,fun h=>absurd h b1⟩,by rw[a2,b2]⟩
theorem aom (x5:List (List B5)) (h6:x5.length<=6):∀(n:Nat) (out:List (List B5)),n<=x5.length->out.length+n<=6->iter (fun s=>je x5 s.1 s.2) (((n:Int) - 1),out)=some (out++(x5.take n).reverse)
 | 0,out,_,_=>by
  refine c9 ?_
  unfold je
  rw[if_neg sm,List.take_zero,List.reverse_nil,List.append_nil]
 |n+1,out,hn,ho=>by
  have hx:x5[n]? =some x5[n]:=List.getElem?_eq_getElem om
  have e:je x5 (((n+1:Nat):Int) - 1) out=some (.inl (((n:Int) - 1),out++[x5[n]])):=by
   unfold je
   rw[show(((n+1:Nat):Int) - 1)=(n:Int)by omega,if_pos sm,dw hx,Option.bind_some,nz so so,Option.bind_some,cu om om]
  rw[f9 (s':=(((n:Int) - 1),out++[x5[n]])) e,aom x5 h6 n _ om so,List.take_succ_eq_append_getElem om,List.reverse_append]
  simp
theorem as4 (texts:List Bt) (id:Bt):zb texts id=some true:=by
 unfold zb
 rw[awake17,Option.bind_some,if_neg sm]
 obtain⟨⟨files,ok⟩,e1,h1⟩:=avu texts
 rw[e1,Option.bind_some]
 dsimp only
 cases ok with
 |false=>rfl
 |true=>
  have hF:ann files:=h1 rfl
  have h6:=hF.1
  rw[if_neg sm,cu om om,aom files h6 files.length [] (Nat.le_refl _) so,Option.bind_some,List.take_length,List.nil_append]
  unfold sy l4
  obtain⟨⟨l,m⟩,e2,_,hU⟩:=ayj hF
  obtain⟨⟨k,o⟩,e3,_,hV⟩:=ayj hF.turn
  have hl:l.length<=18000:=hU.len
  have hk:k.length<=18000:=hV.len
  obtain⟨g1,g2⟩:=ay9 hF hU hV
  dsimp only at g1 g2
  have len:l.length=k.length:=by have:=g2.length_eq;simpa using this
  have fil:(l.filter fun u=>u.Id==id).length=(k.filter fun u=>u.Id==id).length:=by
   have key:∀L:List B7,(L.filter fun u=>u.Id==id).length=((L.map uc).filter fun p=>p.2==id).length:=fun L=>by
    rw[List.filter_map,List.length_map]
    rfl
   rw[key,key]
   exact(g2.filter _).length_eq
  rw[e2,e3,Option.bind_some]
  dsimp only
  rw[Option.bind_some]
  dsimp only
  have c:((m.Code==0)==(o.Code==0))=true:=by
   rw[beq_iff_eq,Bool.eq_iff_iff,beq_iff_eq,beq_iff_eq]
   exact g1
  rw[if_pos c,if_pos (by simp[len]),ara om,ara om,Option.bind_some,Option.bind_some,fil]
  simp
end Go.Proofs.YtcndghapmoaidaaGreatDoor
