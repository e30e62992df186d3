/- Whether the types are in order, however the classes lie in files. -/
import Derived.Test.YtcndghapmoaidaaGreatDoorZL
set_option linter.unusedSimpArgs false
set_option linter.unusedVariables false
set_option linter.unusedSectionVars false
set_option linter.unusedSectionVars false
set_option linter.unusedVariables false
set_option linter.unusedSimpArgs false
set_option maxRecDepth 100000
set_option maxHeartbeats 4000000
namespace Go.Proofs.YtcndghapmoaidaaGreatDoor
noncomputable section
open Go Go.Cn
variable [Glob]
def ownM (st:Bool) (m:B0 × Bool):B0 × Int:=if m.2=true then(if(st&& !m.1.Static)=true then(an0,171)else(m.1,0))else(an0,170)
def arv (c:B0 × Bool):B0 × Int:=if c.2=true then(c.1,0)else(an0,170)
def an2 (s:B7) (t:Bt):B0 × Int:=
 match s.Seen.reverse.find? (fun e=>e.Name==t)with
 |some e=>(e,0)
 |none=>if(has s.Table 2 s.Class t).2=true then ownM s.Static (has s.Table 2 s.Class t)else arv (cls s.Table t)
def memM (s:B7) (kind:Int) (n:B6) (ty:Bt):B0 × Int:=
 match n.Kids with
 | []=>(an0,180)
 |f::_=>if(f.Kind==17&&(an2 s f.Text).2==0&&(an2 s f.Text).1.Kind==1)=true then ownM true (has s.Table kind (an2 s f.Text).1.Id n.Text)
  else if((cls s.Table ty).2&& !(ty==[]))=true then ownM false (has s.Table kind ty n.Text)else(an0,180)
def entW (s:B7) (n:B6) (ty:Bt):B0 × Int:=
 if n.Kind=17 then an2 s n.Text else if n.Kind=19 then ownM s.Static (has s.Table 3 s.Class n.Text)else if n.Kind=21 then arv (cls s.Table n.Text)
 else if n.Kind=18 then memM s 2 n ty else if n.Kind=20 then memM s 3 n ty else(an0,0)
def ar8 (t:Bt):Bool:=t==[43]||t==[45]||t==[42]||t==[47]||t==[37]
def typW (s:B7) (n:B6) (e:B0 × Int):Bt:=
 if n.Kind=13\/n.Kind=23 then tInt else if n.Kind=14\/n.Kind=22 then apz else if n.Kind=15 then au7 else if n.Kind=24 then(if ar8 n.Text=true then tInt else apz)
 else if n.Kind=16 then(if s.Static=true then[]else s.Class)else if e.2≠0 then[]else if n.Kind=21 then e.1.Id else if e.1.Kind=1 then[]else e.1.Type_
mutual
def typM (s:B7):B6->Bt
 |⟨k,t,y,n,a,b,c,d,kids⟩=>typW s ⟨k,t,y,n,a,b,c,d,kids⟩ (entW s ⟨k,t,y,n,a,b,c,d,kids⟩ (typF s kids))
def typF (s:B7):List B6->Bt
 | []=>[]
 |f::_=>typM s f
end
def entM (s:B7) (n:B6):B0 × Int:=entW s n (typF s n.Kids)
theorem typM_eq (s:B7) (n:B6):typM s n=typW s n (entM s n):=by cases n;rw[typM];rfl
theorem ad7 {s:B7} (hl:s.Table.length<=1000000) (id:Bt):la s id=some (cls s.Table id):=by
 have h:=nz (l:=s.Table) (f:=fun k=>li s id k) (isC id) (fun _ x=>(x,true)) om (fun i x hx=>by
  unfold li pj isC
  rw[if_pos (ki hx),ib hx]
  simp only[Option.bind_some]
  cases h1:(x.Kind==1)<;>simp) (fun i hi=>by
  unfold li
  rw[if_neg (kj hi)]) s.Table 0 rfl
 unfold la
 rw[show((0:Nat):Int)=0 from rfl]at h
 rw[h,Option.bind_some]
 refine Eq.trans ?_ (congrArg some (ag2 id s.Table 0))
 cases qa (isC id) (fun _ x=>(x,true)) 0 s.Table<;>rfl
theorem ahr (s:B7) (e:B0) (is:Bool):nc s e is=some (ownM s.Static (e,is)):=by
 unfold nc sf ownM
 cases is<;>cases s.Static<;>cases e.Static<;>rfl
theorem ai5 (s:B7) (c:B0 × Bool):nf s c.1 c.2=some (arv c):=by
 unfold nf arv
 cases c.2<;>rfl
theorem amz {s:B7} (hl:s.Table.length<=1000000) (hs:s.Seen.length<=1000000) (n:B6):sb s n=some (an2 s n.Text):=by
 have hb:∃z,fe (yldX (fun(_:Unit) (a:Int × B0)=>ky n a.1 a.2)) s.Seen (.inl ())=some (s.Seen,z)/\(match z with| .inl _=>s.Seen.reverse.find? (fun e=>e.Name==n.Text)=none| .inr e=>s.Seen.reverse.find? (fun e=>e.Name==n.Text)=some e):=by
  have key:∀k:Nat,k<=s.Seen.length->∃o z,iter (fun t=>ct (yldX (fun(_:Unit) (a:Int × B0)=>ky n a.1 a.2)) s.Seen t.1 t.2) (((k:Int) - 1),.inl ())=some o/\(o= .next z\/o= .done (s.Seen,z))/\(match z with| .inl _=>(s.Seen.take k).reverse.find? (fun e=>e.Name==n.Text)=none| .inr e=>(s.Seen.take k).reverse.find? (fun e=>e.Name==n.Text)=some e):=by
   intro k
   induction k with
   |zero=>
    intro _
    refine⟨_,.inl (),dj (o:= .next (.inl ())) ?_,.inl rfl,rfl⟩
    unfold ct
    rw[if_neg dcd]
   |succ k ih=>
    intro hk
    have hx:s.Seen[k]? =some s.Seen[k]:=List.getElem?_eq_getElem om
    have e2:(((k+1:Nat):Int) - 1)=(k:Int):=by omega
    rw[e2,List.take_succ_eq_append_getElem om,List.reverse_append,List.reverse_cons,List.reverse_nil,List.nil_append,List.cons_append,List.nil_append]
    have e:ct (yldX (fun(_:Unit) (a:Int × B0)=>ky n a.1 a.2)) s.Seen (k:Int) (.inl ())=if(s.Seen[k].Name==n.Text)=true then some (.inr (.done (s.Seen,.inr s.Seen[k])))else some (.inl (((k:Int) - 1),.inl ())):=by
     unfold ct yldX ky
     rw[if_pos sm,ib hx,c9 om om]
     simp only[Option.bind_some]
     cases (s.Seen[k].Name==n.Text)<;>rfl
    by_cases hp:(s.Seen[k].Name==n.Text)=true
    ·rw[if_pos hp]at e
     refine⟨_,.inr s.Seen[k],dj e,.inr rfl,?_⟩
     rw[List.find?_cons_of_pos (p:=fun e:B0=>e.Name==n.Text) hp]
    ·rw[if_neg hp]at e
     obtain⟨o,z,g1,g2,g3⟩:=ih om
     refine⟨o,z,(g7 (s':=(((k:Int) - 1),.inl ())) e).trans g1,g2,?_⟩
     rw[List.find?_cons_of_neg (p:=fun e:B0=>e.Name==n.Text) hp]
     exact g3
  obtain⟨o,z,g1,g2,g3⟩:=key s.Seen.length (Nat.le_refl _)
  rw[List.take_length]at g3
  refine⟨z,?_,g3⟩
  unfold fe fu
  rw[c9 om om,g1,Option.bind_some]
  rcases g2 with rfl|rfl<;>rfl
 obtain⟨z,g1,g2⟩:=hb
 unfold sb qj
 rw[g1,Option.bind_some,ai3 hl,ad7 hl]
 unfold an2
 cases z with
 |inr e=>
  dsimp only at g2 ⊢
  rw[g2]
 |inl _=>
  dsimp only at g2 ⊢
  rw[g2,Option.bind_some,Option.bind_some]
  dsimp only
  by_cases h:(has s.Table 2 s.Class n.Text).2=true
  ·rw[if_pos h,if_pos h,ahr,Option.bind_some,← h]
  ·rw[if_neg h,if_neg h]
   rw[ai5 s (cls s.Table n.Text)]
   rfl
theorem au4 {s:B7} (hl:s.Table.length<=1000000) (n:B6):vw s n=some (ownM s.Static (has s.Table 3 s.Class n.Text)):=by
 unfold vw u6
 rw[ahv hl,Option.bind_some]
 dsimp only
 rw[ahr]
 rfl
theorem au2 {s:B7} (hl:s.Table.length<=1000000) (n:B6):vv s n=some (arv (cls s.Table n.Text)):=by
 unfold vv u5
 rw[ad7 hl,Option.bind_some]
 dsimp only
 rw[ai5 s (cls s.Table n.Text)]
 rfl
theorem cls_ex {l:List B0} {id:Bt} (h:(cls l id).2=true):(cls l id).1.Id=id:=(awi h).1
theorem aqr {s:B7} (hl:s.Table.length<=1000000) (hs:s.Seen.length<=1000000) {n:B6} {kind:Int} {fn:List B0->Bt->Bt->Option (B0 × Bool)} (hfn:∀id t,fn s.Table id t=some (has s.Table kind id t))
  {R:bj} (hR:∀f r,n.Kids=f::r->R.2.1 s f=some (typM s f)):pk R s n fn=some (memM s kind n (typF s n.Kids)):=by
 unfold pk memM
 cases hk:n.Kids with
 |nil=>rw[if_pos sm]
 |cons f r=>
  have e0:idx (f::r) (0:Int)=some f:=rfl
  rw[if_neg so,e0,Option.bind_some,amz hl hs,typF]
  have j4:md R s f fn n=some (if((cls s.Table (typM s f)).2&& !((typM s f)==[]))=true then ownM false (has s.Table kind (typM s f) n.Text)else(an0,180)):=by
   unfold md rm oj rn
   rw[hR f r hk,Option.bind_some,ad7 hl,Option.bind_some]
   dsimp only
   by_cases hc:(cls s.Table (typM s f)).2=true
   ·rw[cls_ex hc,hc,hfn,Option.bind_some]
    try dsimp only
    rw[ahr]
    cases (typM s f==[])<;>rfl
   ·rw[Bool.eq_false_iff.2 hc]
    rfl
  dsimp only
  cases h17:(f.Kind==17)
  ·rw[if_neg sm,j4]
   rfl
  ·rw[if_pos rfl,Option.bind_some]
   try dsimp only
   unfold oh rl
   rw[hfn,Option.bind_some]
   dsimp only
   rw[ahr,j4]
   cases h0:((an2 s f.Text).2==0)
   ·rfl
   ·cases h1:((an2 s f.Text).1.Kind==1)<;>rfl
theorem akk {l:List Bt} (hl:l.length<=4000000000) (x:Bt):fj l x=some (l.any (x== ·)):=by
 have h:=nz (l:=l) (f:=fun s=>fh l x s) (fun y=>x==y) (fun i _=>(i:Int)) hl (fun i y hy=>by
  unfold fh
  rw[if_pos (ki hy),ib hy]
  simp only[Option.bind_some]) (fun i hi=>by
  unfold fh
  rw[if_neg (kj hi)]) l 0 rfl
 unfold fj ml
 rw[show((0:Nat):Int)=0 from rfl]at h
 rw[h,Option.bind_some]
 have h2:=aoj (fun y=>x==y) l 0
 rw[← h2]
 unfold lb
 cases qa (fun y=>x==y) (fun i _=>(i:Int)) 0 l<;>rfl
theorem au0 {s:B7} {n:B6} {R:bj} (hR:R.1 s n=some (entM s n)):sk R s n=some (typM s n):=by
 have ea:([([43]:Bt),([45]:Bt),([42]:Bt),([47]:Bt),([37]:Bt)]:List Bt).any (n.Text== ·)=ar8 n.Text:=by
  unfold ar8
  simp only[List.any_cons,List.any_nil,Bool.or_false,Bool.or_assoc]
 rw[typM_eq]
 unfold sk qk ql typW
 rw[akk sm,ea,hR]
 simp only[Option.bind_some]
 by_cases h13:n.Kind=13
 ·simp[h13]
 by_cases h23:n.Kind=23
 ·simp[h23]
 by_cases h14:n.Kind=14
 ·simp[h14]
 by_cases h22:n.Kind=22
 ·simp[h22]
 by_cases h15:n.Kind=15
 ·simp[h15]
 by_cases h24:n.Kind=24
 ·simp[h24]
  cases ar8 n.Text<;>rfl
 by_cases h16:n.Kind=16
 ·simp[h16]
  cases s.Static<;>rfl
 simp[h13,h23,h14,h22,h15,h24,h16]
 by_cases h0:(entM s n).2=0
 ·rw[if_pos h0,if_pos h0]
  by_cases h21:n.Kind=21
  ·rw[if_pos h21,if_pos h21]
  ·rw[if_neg h21,if_neg h21]
   by_cases h1:(entM s n).1.Kind=1
   ·rw[if_pos h1,if_pos h1]
   ·rw[if_neg h1,if_neg h1]
 ·rw[if_neg h0,if_neg h0]
theorem aqs {s:B7} (hl:s.Table.length<=1000000) (hs:s.Seen.length<=1000000) {n:B6} {R:bj} (h1:n.Kind=18->R.2.2.1 s n=some (memM s 2 n (typF s n.Kids))) (h2:n.Kind=20->R.2.2.2.1 s n=some (memM s 3 n (typF s n.Kids))):
  pl R s n=some (entM s n):=by
 unfold pl entM entW
 rw[amz hl hs,au4 hl,au2 hl]
 by_cases h17:n.Kind=17
 ·rw[h17];rfl
 by_cases h19:n.Kind=19
 ·rw[h19];rfl
 by_cases h21:n.Kind=21
 ·rw[h21];rfl
 by_cases h18:n.Kind=18
 ·rw[h1 h18,h18];rfl
 by_cases h20:n.Kind=20
 ·rw[h2 h20,h20];rfl
 have hh:ghas n.Kind (gset 20 (some 69) (gset 18 (some 68) (gset 21 (some 67) (gset 19 (some 66) (gset 17 (some 65) ([]:GMap Int (Option Nat)))))))=false:=by
  simp[gset,ghas]
  refine⟨fun h=>h17 h.symm,fun h=>h19 h.symm,fun h=>h21 h.symm,fun h=>h18 h.symm,fun h=>h20 h.symm⟩
 rw[hh,if_pos (by rfl),if_neg h17,if_neg h19,if_neg h21,if_neg h18,if_neg h20]
theorem axa :∀(k:Nat) (s:B7) (n:B6),s.Table.length<=1000000->s.Seen.length<=1000000->
  (4 * eh n<=k->(c5 k).1 s n=some (entM s n))/\(4 * eh n+1<=k->(c5 k).2.1 s n=some (typM s n))/\
  (4 * eh n<=k+1->(c5 k).2.2.1 s n=some (memM s 2 n (typF s n.Kids))/\(c5 k).2.2.2.1 s n=some (memM s 3 n (typF s n.Kids)))/\
  (4 * eh n<=k+2->∀kind fn,(∀id t,fn s.Table id t=some (has s.Table kind id t))->(c5 k).2.2.2.2 s n fn=some (memM s kind n (typF s n.Kids))):=by
 intro k
 induction k with
 |zero=>
  intro s n _ _
  have:=o6 n
  exact⟨fun h=>by omega,fun h=>by omega,fun h=>by omega,fun h=>by omega⟩
 |succ k ih=>
  intro s n hl hs
  obtain⟨i1,i2,i3,i4⟩:=ih s n hl hs
  refine⟨fun h=>?_,fun h=>?_,fun h=>⟨?_,?_⟩,fun h kind fn hfn=>?_⟩
  ·exact aqs hl hs (fun _=>(i3 om).1) fun _=>(i3 om).2
  ·exact au0 (i1 om)
  ·show t8 (c5 k) s n=_
   unfold t8
   rw[i4 om 2 w4 (fun id t=>ai3 hl id t)]
   rfl
  ·show ol (c5 k) s n=_
   unfold ol
   rw[i4 om 3 wj (fun id t=>ahv hl id t)]
   rfl
  ·refine aqr hl hs hfn fun f r hk=>?_
   have h1:=ko n
   rw[hk]at h1
   simp only[cm]at h1
   exact(ih s f hl hs).2.1 om
theorem xq {s:B7} {n:B6} (hl:s.Table.length<=1000000) (hs:s.Seen.length<=1000000) (hn:eh n<=200000):sh s n=some (entM s n):=(axa 1048576 s n hl hs).1 om
theorem am0 {s:B7} {n:B6} (hl:s.Table.length<=1000000) (hs:s.Seen.length<=1000000) (hn:eh n<=200000):k8 s n=some (typM s n):=(axa 1048576 s n hl hs).2.1 om
end
end Go.Proofs.YtcndghapmoaidaaGreatDoor
set_option linter.unusedSectionVars false
set_option linter.unusedVariables false
set_option linter.unusedSimpArgs false
set_option maxRecDepth 100000
set_option maxHeartbeats 4000000
namespace Go.Proofs.YtcndghapmoaidaaGreatDoor
noncomputable section
open Go Go.Cn
variable [Glob]
end
end Go.Proofs.YtcndghapmoaidaaGreatDoor
set_option linter.unusedSectionVars false
set_option linter.unusedVariables false
set_option linter.unusedSimpArgs false
set_option maxRecDepth 100000
set_option maxHeartbeats 4000000
namespace Go.Proofs.YtcndghapmoaidaaGreatDoor
noncomputable section
open Go Go.Cn
variable [Glob]
def atq (t:Bt):Bool:=t==tInt||t==apz||t==aya
def putW (w:B9) (at_:Int) (id:Bt):B9:=B9.mk (w.uses++[B8.mk w.file at_ id]) w.file w.method w.many
def ac7 (s:B7) (n:B6) (w:B9):B9 ⊕ B4:=
 if(decide (n.TypeAt<0)||atq n.Type_)=true then .inl w else if(cls s.Table n.Type_).2=true then .inl (putW w n.TypeAt (cls s.Table n.Type_).1.Id)else .inr (B4.mk 170 w.file n.TypeAt)
def aaq (s:B7) (n:B6) (w:B9):B9 ⊕ B4:=
 if(n.Kind==16&&s.Static)=true then .inr (B4.mk 171 w.file n.From)else if n.At<0 then .inl w else if n.Kind=1 then .inl (putW w n.At n.Text)else if n.Kind=2 then .inl (putW w n.At (amb s.Class n.Text))
 else if n.Kind=3 then .inl (putW w n.At (rh s.Class n.Text))else if decl n=true then .inl (putW w n.At (am3 w.method w.many.toNat))else if(entM s n).2≠0 then .inr (B4.mk (entM s n).2 w.file n.At)else .inl (putW w n.At (entM s n).1.Id)
def rp (isC:Bool) (c:Bt) (k:B6) (w:B9):B9:=if(isC&&k.Kind==3)=true then B9.mk w.uses w.file (rh c k.Text) 0 else w
def innS (s:B7) (x:B6):B7:=if(x.Kind==3)=true then {s with Static:=x.N==1} else s
def sq (x:B6) (w:B9):B9:=if decl x=true then B9.mk w.uses w.file w.method (w.many+1)else w
def locE (x:B6) (w:B9):B0:=B0.mk 4 (am3 w.method w.many.toNat) x.Text w.method x.Type_ false [] w.file x.At
def outS (s:B7) (x:B6) (w:B9):B7:=if decl x=true then {s with Seen:=s.Seen++[locE x w]} else s
abbrev WM :=(B7 × B9) ⊕ B4
def finM (s:B7) (x:B6) (w:B9):WM->WM
 | .inr m=> .inr m
 | .inl p=> .inl (outS s x w,p.2)
mutual
def oo :B6->B7->B9->WM
 |⟨k,t,y,n,a,b,c,d,kids⟩,s,w=>
  match ac7 s ⟨k,t,y,n,a,b,c,d,kids⟩ w with
  | .inr m=> .inr m
  | .inl w=>if(k==18||k==20)=true then walkD kids ⟨k,t,y,n,a,b,c,d,kids⟩ s w else
   match aaq s ⟨k,t,y,n,a,b,c,d,kids⟩ w with
   | .inr m=> .inr m
   | .inl w=>finM s ⟨k,t,y,n,a,b,c,d,kids⟩ w (tm kids (k==1) s.Class (innS s ⟨k,t,y,n,a,b,c,d,kids⟩) (sq ⟨k,t,y,n,a,b,c,d,kids⟩ w))
def walkD :List B6->B6->B7->B9->WM
 | [],x,s,w=>match aaq s x w with
  | .inr m=> .inr m
  | .inl w=>finM s x w (.inl (innS s x,sq x w))
 |f::r,x,s,w=>match oo f s w with
  | .inr m=> .inr m
  | .inl p=>match aaq s x p.2 with
   | .inr m=> .inr m
   | .inl w=>finM s x w (tm r (x.Kind==1) s.Class (innS s x) (sq x w))
def tm :List B6->Bool->Bt->B7->B9->WM
 | [],_,_,s,w=> .inl (s,w)
 |k::r,isC,c,s,w=>match oo k s (rp isC c k w)with
  | .inr m=> .inr m
  | .inl p=>tm r isC c p.1 p.2
end
def aci (x:B6) (s:B7) (w:B9):B9 ⊕ B4:=
 if(x.Kind==18||x.Kind==20)=true then(match x.Kids with| []=> .inl w|f::_=>match oo f s w with| .inr m=> .inr m| .inl p=> .inl p.2)else .inl w
def rt (x:B6):List B6:=if(x.Kind==18||x.Kind==20)=true then x.Kids.tail else x.Kids
theorem ae8 (x:B6) (s:B7) (w:B9):oo x s w=match ac7 s x w with
  | .inr m=> .inr m
  | .inl w=>match aci x s w with
   | .inr m=> .inr m
   | .inl w=>match aaq s x w with
    | .inr m=> .inr m
    | .inl w=>finM s x w (tm (rt x) (x.Kind==1) s.Class (innS s x) (sq x w)):=by
 obtain⟨k,t,y,n,a,b,c,d,kids⟩:=x
 rw[oo]
 unfold aci rt
 cases ac7 s ⟨k,t,y,n,a,b,c,d,kids⟩ w with
 |inr m=>rfl
 |inl w=>
  dsimp only
  by_cases hd:(k==18||k==20)=true
  ·rw[if_pos hd,if_pos hd,if_pos hd]
   cases kids with
   |nil=>
    rw[walkD]
    dsimp only
    cases aaq s ⟨k,t,y,n,a,b,c,d,[]⟩ w with
    |inr m=>rfl
    |inl w=>simp[tm]
   |cons f r=>
    rw[walkD]
    dsimp only
    cases oo f s w with
    |inr m=>rfl
    |inl p=>rfl
  ·rw[if_neg hd,if_neg hd,if_neg hd]
def gL (isC:Bool) (c:Bt):Nat->B7 × B9->B6->WM:=fun _ p k=>oo k p.1 (rp isC c k p.2)
theorem atv (isC:Bool) (c:Bt):∀(r:List B6) (i:Nat) (s:B7) (w:B9),tm r isC c s w=rowF (gL isC c) i r (s,w)
 | [],_,_,_=>by rw[tm];rfl
 |k::r,i,s,w=>by
  rw[tm]
  unfold rowF
  unfold gL
  dsimp only
  cases oo k s (rp isC c k w)with
  |inr m=>rfl
  |inl p=>exact atv isC c r (i+1) p.1 p.2
structure Pre (x:B6) (s:B7) (w:B9):Prop where
 okx:okB 1500 x
 tab:s.Table.length<=1000000
 cl:s.Class.length<=1500
 seen:s.Seen.length+eh x<=500000
 uses:w.uses.length+2 * eh x<=400000
 many:0<=w.many
 many2:w.many+eh x<=1000000
 meth:w.method.length<=4000
structure Inv (s0:B7) (w0:B9) (j u:Nat) (p:B7 × B9):Prop where
 tab:p.1.Table=s0.Table
 cl:p.1.Class=s0.Class
 seen:p.1.Seen.length<=s0.Seen.length+j
 uses:p.2.uses.length<=w0.uses.length+2 * u
 many:0<=p.2.many
 many2:p.2.many<=w0.many+u
 meth:p.2.method.length<=4000
 file:p.2.file=w0.file
def Post (x:B6) (s:B7) (w:B9):WM->Prop
 | .inl p=>Inv s w 1 (eh x) p
 | .inr m=>m.Code≠0
theorem aim {s:B7} {x:B6} {w w':B9} (h:ac7 s x w= .inl w'):w'.uses.length<=w.uses.length+1/\w'.many=w.many/\w'.method=w.method/\w'.file=w.file:=by
 unfold ac7 at h
 split at h
 ·cases h;exact⟨by omega,rfl,rfl,rfl⟩
 ·split at h
  ·cases h;unfold putW;exact⟨by simp,rfl,rfl,rfl⟩
  ·cases h
theorem a0e {s:B7} {x:B6} {w:B9} {m:B4} (h:ac7 s x w= .inr m):m.Code≠0:=by
 unfold ac7 at h
 split at h
 ·cases h
 ·split at h
  ·cases h
  ·cases h;exact(show(170:Int)≠0 by decide)
theorem aua {s:B7} {x:B6} {w w':B9} (h:aaq s x w= .inl w'):w'.uses.length<=w.uses.length+1/\w'.many=w.many/\w'.method=w.method/\w'.file=w.file:=by
 have key:∀a i,(putW w a i).uses.length<=w.uses.length+1/\(putW w a i).many=w.many/\(putW w a i).method=w.method/\(putW w a i).file=w.file:=fun a i=>⟨by unfold putW;simp,rfl,rfl,rfl⟩
 unfold aaq at h
 repeat' split at h
 all_goals first
  |cases h;exact key _ _
  |cases h;exact⟨by omega,rfl,rfl,rfl⟩
  |cases h
theorem az8 {s:B7} {x:B6} {w:B9} {m:B4} (h:aaq s x w= .inr m):m.Code≠0:=by
 unfold aaq at h
 repeat' split at h
 all_goals first
  |(cases h;assumption)
  |(cases h;exact(show(171:Int)≠0 by decide))
  |cases h
theorem auf {n:Nat} (ih:∀x s w,eh x<=n->Pre x s w->Post x s w (oo x s w)) (isC:Bool) (c:Bt) (hc:c.length<=1500):∀(r:List B6) (s:B7) (w:B9),cm r<=n->okBL 1500 r->s.Table.length<=1000000->s.Class.length<=1500->s.Seen.length+cm r<=500000->w.uses.length+2 * cm r<=400000->0<=w.many->w.many+cm r<=1000000->w.method.length<=4000->
  match tm r isC c s w with| .inl p=>Inv s w r.length (cm r) p| .inr m=>m.Code≠0
 | [],s,w,_,_,_,_,_,_,h3,_,h5=>by rw[tm];exact⟨rfl,rfl,by simp,by simp,h3,by simp[cm],h5,rfl⟩
 |k::r,s,w,hn,hB,h1,h2,h3,h4,h5,h6,h7=>by
  simp only[cm,okBL]at hn hB h3 h4 h6
  have hk:=hB.1
  replace hk:=afy hk
  have hm:=amd c k.Text
  have hs:(rp isC c k w).uses=w.uses/\(rp isC c k w).file=w.file/\0<=(rp isC c k w).many/\(rp isC c k w).many<=w.many/\(rp isC c k w).method.length<=4000:=by
   unfold rp
   split
   ·exact⟨rfl,rfl,by simp,by simp;omega,by simp only;omega⟩
   ·exact⟨rfl,rfl,h5,by omega,h7⟩
  obtain⟨q1,q2,q3,q4,q5⟩:=hs
  have hp:=ih k s (rp isC c k w) om ⟨hB.1,h1,h2,by omega,by rw[q1];omega,q3,by omega,q5⟩
  rw[tm]
  cases hw:oo k s (rp isC c k w)with
  |inr m=>rw[hw]at hp;exact hp
  |inl p=>
   rw[hw]at hp
   have hp:Inv s (rp isC c k w) 1 (eh k) p:=hp
   have g:=auf ih isC c hc r p.1 p.2 om hB.2 (by rw[hp.tab];exact h1) (by rw[hp.cl];exact h2) (by have:=hp.seen;have:=o6 k;omega) (by have:=hp.uses;rw[q1]at this;omega) hp.many (by have:=hp.many2;omega) hp.meth
   dsimp only
   cases hl:tm r isC c p.1 p.2 with
   |inr m=>rw[hl]at g;exact g
   |inl z=>
    rw[hl]at g
    have g:Inv p.1 p.2 r.length (cm r) z:=g
    refine⟨g.tab.trans hp.tab,g.cl.trans hp.cl,?_,?_,g.many,?_,g.meth,(g.file.trans hp.file).trans q2⟩
    ·have:=g.seen;have:=hp.seen;simp only[List.length_cons];omega
    ·have:=g.uses;have:=hp.uses;rw[q1]at this;simp only[cm];omega
    ·have:=g.many2;have:=hp.many2;simp only[cm];omega
theorem akz :∀(n:Nat) (x:B6) (s:B7) (w:B9),eh x<=n->Pre x s w->Post x s w (oo x s w):=by
 intro n
 induction n with
 |zero=>intro x _ _ h;have:=o6 x;omega
 |succ n ih=>
  intro x s w hn hp
  have hs:=ko x
  have hB:=hp.okx
  replace hB:=afy hB
  rw[ae8]
  cases h1:ac7 s x w with
  |inr m=>exact a0e h1
  |inl w1=>
   obtain⟨a1,a2,a3,a4⟩:=aim h1
   dsimp only
   have hh:∃u,u+cm (rt x)<=cm x.Kids/\okBL 1500 (rt x)/\match aci x s w1 with| .inr m=>m.Code≠0| .inl w2=>w2.uses.length<=w1.uses.length+2 * u/\0<=w2.many/\w2.many<=w1.many+u/\w2.method.length<=4000/\w2.file=w1.file:=by
    have pm:=hp.many
    have pt:=hp.meth
    unfold aci rt
    by_cases hd:(x.Kind==18||x.Kind==20)=true
    ·rw[if_pos hd,if_pos hd]
     cases hk:x.Kids with
     |nil=>exact⟨0,by simp[cm],by simp[okBL],by omega,by omega,by omega,by rw[a3];exact pt,rfl⟩
     |cons f r=>
      rw[hk]at hs hB
      simp only[cm,okBL]at hs hB
      have g:=ih f s w1 om ⟨hB.2.1,hp.tab,hp.cl,by have:=hp.seen;omega,by have:=hp.uses;omega,by omega,by have:=hp.many2;omega,by rw[a3];exact pt⟩
      refine⟨eh f,by simp[cm],hB.2.2,?_⟩
      dsimp only
      cases hw:oo f s w1 with
      |inr m=>rw[hw]at g;exact g
      |inl p=>
       rw[hw]at g
       have g:Inv s w1 1 (eh f) p:=g
       exact⟨g.uses,g.many,g.many2,g.meth,g.file⟩
    ·rw[if_neg hd,if_neg hd]
     refine⟨0,by omega,hB.2,by omega,by omega,by omega,by rw[a3];exact pt,rfl⟩
   obtain⟨u,hu,hR,hh⟩:=hh
   cases h2:aci x s w1 with
   |inr m=>rw[h2]at hh;exact hh
   |inl w2=>
    rw[h2]at hh
    obtain⟨b1,b2,b3,b4,b5⟩:=hh
    dsimp only
    cases h3:aaq s x w2 with
    |inr m=>exact az8 h3
    |inl w3=>
     obtain⟨c1,c2,c3,c4⟩:=aua h3
     dsimp only
     have hb:(sq x w3).uses=w3.uses/\(sq x w3).file=w3.file/\(sq x w3).method=w3.method/\0<=(sq x w3).many/\(sq x w3).many<=w3.many+1:=by
      unfold sq
      split
      ·exact⟨rfl,rfl,rfl,by simp only;omega,by simp only;omega⟩
      ·exact⟨rfl,rfl,rfl,by omega,by omega⟩
     obtain⟨d1,d2,d3,d4,d5⟩:=hb
     have hi:(innS s x).Table=s.Table/\(innS s x).Class=s.Class/\(innS s x).Seen=s.Seen:=by
      unfold innS
      split<;>exact⟨rfl,rfl,rfl⟩
     obtain⟨e1,e2,e3⟩:=hi
     have pu:=hp.uses
     have ps:=hp.seen
     have pm:=hp.many2
     have g:=auf ih (x.Kind==1) s.Class hp.cl (rt x) (innS s x) (sq x w3) om hR (by rw[e1];exact hp.tab) (by rw[e2];exact hp.cl) (by rw[e3];omega) (by rw[d1];omega) d4 om (by rw[d3,c3];exact b4)
     cases h4:tm (rt x) (x.Kind==1) s.Class (innS s x) (sq x w3)with
     |inr m=>rw[h4]at g;exact g
     |inl p=>
      rw[h4]at g
      have g:Inv (innS s x) (sq x w3) (rt x).length (cm (rt x)) p:=g
      have o1:(outS s x w3).Table=s.Table/\(outS s x w3).Class=s.Class/\(outS s x w3).Seen.length<=s.Seen.length+1:=by
       unfold outS
       split
       ·exact⟨rfl,rfl,by simp⟩
       ·exact⟨rfl,rfl,by omega⟩
      have g1:=g.uses
      have g2:=g.many2
      refine⟨o1.1,o1.2.1,o1.2.2,?_,g.many,?_,g.meth,?_⟩
      ·rw[d1]at g1;show p.2.uses.length<=_;omega
      ·show p.2.many<=_;omega
      ·show p.2.file=_;rw[g.file,d2,c4,b5,a4]
end
end Go.Proofs.YtcndghapmoaidaaGreatDoor
set_option linter.unusedSectionVars false
set_option linter.unusedVariables false
set_option linter.unusedSimpArgs false
set_option maxRecDepth 100000
set_option maxHeartbeats 4000000
namespace Go.Proofs.YtcndghapmoaidaaGreatDoor
noncomputable section
open Go Go.Cn
variable [Glob]
def pxW {α:Type}:α ⊕ B4->PX C5 α
 | .inl w=> .ok w
 | .inr m=> .bad (C5.mk m)
def zM :B4:=B4.mk 0 0 0
theorem apa {w:B9} (h:w.uses.length<=1000000) (a:Int) (i:Bt):pb a i w=some (putW w a i):=by
 unfold pb
 rw[ze so so]
 rfl
theorem axt (t:Bt):([([105,110,116]:Bt),([98,111,111,108,101,97,110]:Bt),([118,111,105,100]:Bt)]:List Bt).any (t== ·)=atq t:=by
 unfold atq
 simp only[List.any_cons,List.any_nil,Bool.or_false,Bool.or_assoc]
theorem au3 {s:B7} {x:B6} {w:B9} (hl:s.Table.length<=1000000) (h:w.uses.length<=1000000):t7 s x w=some (pxW (ac7 s x w)):=by
 unfold t7
 rw[akk sm,axt,Option.bind_some]
 have j2:mz w s x (decide (x.TypeAt<0)||atq x.Type_)=some (pxW (ac7 s x w)):=by
  unfold mz tj ac7
  by_cases hb:(decide (x.TypeAt<0)||atq x.Type_)=true
  ·rw[if_pos hb,if_pos hb];rfl
  ·rw[if_neg hb,if_neg hb,ad7 hl,Option.bind_some]
   dsimp only
   rw[ai5 s (cls s.Table x.Type_),Option.bind_some]
   unfold arv
   by_cases hc:(cls s.Table x.Type_).2=true
   ·rw[if_pos hc,if_pos hc]
    dsimp only
    unfold mv
    rw[if_neg dcd]
    show(pb x.TypeAt (cls s.Table x.Type_).1.Id w).bind _=_
    rw[apa h]
    rfl
   ·rw[if_neg hc,if_neg hc]
    rfl
 cases hd:decide (x.TypeAt<0)
 ·rw[hd,Bool.false_or]at j2;rw[if_neg sm];exact j2
 ·rw[hd,Bool.true_or]at j2;rw[if_pos rfl];exact j2
structure NPre (x:B6) (s:B7) (w:B9):Prop where
 okx:okB 1500 x
 size:eh x<=200000
 tab:s.Table.length<=1000000
 cl:s.Class.length<=1500
 seen:s.Seen.length<=1000000
 uses:w.uses.length<=1000000
 many:0<=w.many
 many2:w.many<=1000000
 meth:w.method.length<=4000
theorem NPre.loc {x:B6} {s:B7} {w:B9} (h:NPre x s w):ve w.method w.many=some (am3 w.method w.many.toNat)/\aaz w.method w.many=some (am3 w.method w.many.toNat):=by
 obtain⟨n,hn⟩:∃n:Nat,w.many=n:=⟨w.many.toNat,by have:=h.many;omega⟩
 have:=h.many2
 have:=h.meth
 rw[hn,Int.toNat_natCast]
 exact⟨aj8 om om,aqe om om⟩
theorem au1 {s:B7} {x:B6} {w:B9} (hp:NPre x s w):vu s x w=some (pxW (aaq s x w)):=by
 have hB:=hp.okx
 replace hB:=afy hB
 have hc:=hp.cl
 have hu:=hp.uses
 have ew:B9.mk w.uses w.file w.method w.many=w:=rfl
 have j3:(x.Kind==16&&s.Static)=false->nq x s w.file w.method w.many w.uses=some (pxW (aaq s x w)):=fun h16=>by
  unfold nq aaq vf
  rw[ew,h16,if_neg (show ¬(false=true)by simp),ago om,aex om]
  simp only[Option.bind_some]
  have j1:∀i,jf x i w.file w.method w.many w.uses=some (.ok (putW w x.At i)):=fun i=>by
   unfold jf
   rw[ew,apa om]
   rfl
  have j2:nr w.method w.many x w.file w.uses s (decl x)=some (pxW (if decl x=true then .inl (putW w x.At (am3 w.method w.many.toNat))else if(entM s x).2≠0 then .inr (B4.mk (entM s x).2 w.file x.At)else .inl (putW w x.At (entM s x).1.Id))):=by
   unfold nr
   rw[hp.loc.1,xq hp.tab hp.seen (by have:=hp.size;omega),Option.bind_some,Option.bind_some,j1]
   dsimp only
   by_cases hd:decl x=true
   ·rw[if_pos hd,if_pos hd];rfl
   ·rw[if_neg hd,if_neg hd,ew]
    unfold mv
    by_cases h0:(entM s x).2=0
    ·rw[if_neg (by simp[h0]),if_neg (by simp[h0])]
     exact j1 _
    ·rw[if_pos (by simpa using h0),if_pos h0]
     rfl
  by_cases ha:x.At<0
  ·rw[if_pos (by simpa using ha),if_pos ha];rfl
  ·rw[if_neg (by simpa using ha),if_neg ha]
   by_cases h1:x.Kind=1
   ·rw[if_pos (by simp[h1]),if_pos h1,j1];rfl
   ·rw[if_neg (by simpa using h1),if_neg h1]
    by_cases h2:x.Kind=2
    ·rw[if_pos (by simp[h2]),if_pos h2,j1];rfl
    ·rw[if_neg (by simpa using h2),if_neg h2]
     by_cases h3:x.Kind=3
     ·rw[if_pos (by simp[h3]),if_pos h3,j1];rfl
     ·rw[if_neg (by simpa using h3),if_neg h3]
      have e:decl x=((x.Kind==4)||(x.Kind==6)):=rfl
      rw[← j2,e]
      cases (x.Kind==4)<;>rfl
 unfold vu qi
 cases h16:(x.Kind==16)
 ·rw[if_neg sm,if_neg sm]
  exact j3 (by rw[h16];rfl)
 ·rw[if_pos rfl]
  by_cases hs:s.Static=true
  ·rw[if_pos hs]
   unfold aaq
   rw[h16,hs,if_pos (by rfl)]
   rfl
  ·rw[if_neg hs]
   exact j3 (by rw[Bool.eq_false_iff.2 hs,Bool.and_false])
end
end Go.Proofs.YtcndghapmoaidaaGreatDoor
set_option linter.unusedSectionVars false
set_option linter.unusedVariables false
set_option linter.unusedSimpArgs false
set_option maxRecDepth 100000
set_option maxHeartbeats 4000000
namespace Go.Proofs.YtcndghapmoaidaaGreatDoor
noncomputable section
open Go Go.Cn
variable [Glob]
structure LPre (r:List B6) (s:B7) (w:B9):Prop where
 okx:okBL 1500 r
 tab:s.Table.length<=1000000
 cl:s.Class.length<=1500
 seen:s.Seen.length+cm r<=500000
 uses:w.uses.length+2 * cm r<=400000
 many:0<=w.many
 many2:w.many+cm r<=1000000
 meth:w.method.length<=4000
theorem azv (isC:Bool) {c:Bt} (hc:c.length<=1500) {y:B6} (hy:okB 1500 y) {w:B9} (hm:w.method.length<=4000) (h0:0<=w.many):
  (rp isC c y w).uses=w.uses/\(rp isC c y w).file=w.file/\0<=(rp isC c y w).many/\(rp isC c y w).many<=w.many/\(rp isC c y w).method.length<=4000:=by
 replace hy:=afy hy
 have:=amd c y.Text
 unfold rp
 split
 ·exact⟨rfl,rfl,by simp,by simp;omega,by simp only;omega⟩
 ·exact⟨rfl,rfl,h0,by omega,hm⟩
theorem Inv.step {r:List B6} {s:B7} {w:B9} (hL:LPre r s w) {i:Nat} {y:B6} {p:B7 × B9} (hy:r[i]? =some y) (hi:Inv s w i (cm (r.take i)) p) (isC:Bool) {c:Bt} (hc:c.length<=1500):
  Pre y p.1 (rp isC c y p.2)/\∀p',oo y p.1 (rp isC c y p.2)= .inl p'->Inv s w (i+1) (cm (r.take (i+1))) p':=by
 have hB:=ri hL.okx (jn hy)
 obtain⟨q1,q2,q3,q4,q5⟩:=azv isC hc hB hi.meth hi.many
 obtain⟨t1,t2⟩:=yp hy
 have t3:=yx hy
 have a1:=hi.seen
 have a2:=hi.uses
 have a3:=hi.many2
 have b1:=hL.seen
 have b2:=hL.uses
 have b3:=hL.many2
 have hP:Pre y p.1 (rp isC c y p.2):=⟨hB,by rw[hi.tab];exact hL.tab,by rw[hi.cl];exact hL.cl,by omega,by rw[q1];omega,q3,by omega,q5⟩
 refine⟨hP,fun p' e=>?_⟩
 have g:=akz (eh y) y p.1 (rp isC c y p.2) (Nat.le_refl _) hP
 rw[e]at g
 have g:Inv p.1 (rp isC c y p.2) 1 (eh y) p':=g
 refine⟨g.tab.trans hi.tab,g.cl.trans hi.cl,?_,?_,g.many,?_,g.meth,(g.file.trans q2).trans hi.file⟩
 ·have:=g.seen;omega
 ·have:=g.uses;rw[q1]at this;omega
 ·have:=g.many2;omega
theorem Inv.zero {r:List B6} {s:B7} {w:B9} (hL:LPre r s w):Inv s w 0 (cm (r.take 0)) (s,w):=⟨rfl,rfl,by simp,by simp,hL.many,by simp[cm],hL.meth,rfl⟩
theorem a0d {k:Nat} (ih:∀x s w,eh x<=k->eh x<=100000->Pre x s w->bx k s x w=some (pxW (oo x s w))) {x:B6} {s0:B7} (hc:s0.Class.length<=1500) {r:List B6} (hr:cm r<=k) (hr2:cm r<=100000) {s:B7} {w:B9} (hL:LPre r s w):
  Ok (Fin' (fun o p=>o= .next (p.2.file,p.2.method,p.2.many,p.2.uses,p.1)) (fun o m=>o= .done (.bad (C5.mk m))) (rowF (gL (x.Kind==1) s0.Class) 0 r (s,w)))
   (iter (fun t=>ju (bx k) r x s0 t.1 t.2.1 t.2.2.1 t.2.2.2.1 t.2.2.2.2.1 t.2.2.2.2.2) (0,w.file,w.method,w.many,s,w.uses)):=by
 refine rowM (l:=r) (f:=fun t:Int × Int × Bt × Int × B7 × List B8=>ju (bx k) r x s0 t.1 t.2.1 t.2.2.1 t.2.2.2.1 t.2.2.2.2.1 t.2.2.2.2.2) (gL (x.Kind==1) s0.Class)
  (fun i t p=>t=((i:Int),p.2.file,p.2.method,p.2.many,p.1,p.2.uses)/\Inv s w i (cm (r.take i)) p) _ _ (fun i y t p hy h=>?_) (fun t p h=>?_) r 0 _ (s,w) rfl (Nat.zero_le _) ⟨rfl,Inv.zero hL⟩
 ·obtain⟨rfl,hi⟩:=h
  dsimp only
  obtain⟨hP,hN⟩:=hi.step hL hy (x.Kind==1) hc
  have t3:=yx hy
  have hsz:=ack hy
  have hB:=ri hL.okx (jn hy)
  replace hB:=afy hB
  unfold ju
  rw[if_pos (ki hy),ib hy,Option.bind_some]
  have j5:Ok (Step (fun t p=>t=(((i+1:Nat):Int),p.2.file,p.2.method,p.2.many,p.1,p.2.uses)/\Inv s w (i+1) (cm (r.take (i+1))) p) (fun o m=>o= .done (.bad (C5.mk m))) (gL (x.Kind==1) s0.Class i p y)) (lh (bx k) s0 y p.1 p.2.uses p.2.file i p.2.method p.2.many (x.Kind==1&&y.Kind==3)):=by
   have e:lh (bx k) s0 y p.1 p.2.uses p.2.file i p.2.method p.2.many (x.Kind==1&&y.Kind==3)=l4 (bx k p.1 y (rp (x.Kind==1) s0.Class y p.2)) (fun m65=>some (.inr (.done (.bad m65)))) fun(x62,x63)=>some (.inl (w64 ((i:Int)+1),x63.file,x63.method,x63.many,x62,x63.uses)):=by
    unfold lh pg rp
    rw[aex om]
    cases (x.Kind==1&&y.Kind==3)<;>rfl
   rw[e,ih y p.1 _ om om hP,agu om]
   unfold gL
   cases hw:oo y p.1 (rp (x.Kind==1) s0.Class y p.2)with
   |inr m=>exact .mk ⟨_,rfl,rfl⟩
   |inl p'=>exact .mk ⟨_,rfl,rfl,hN p' hw⟩
  cases h1:(x.Kind==1)
  ·rw[h1,Bool.false_and]at j5;rw[if_neg sm];exact j5
  ·rw[h1,Bool.true_and]at j5;rw[if_pos rfl];exact j5
 ·obtain⟨rfl,hi⟩:=h
  dsimp only
  unfold ju
  rw[if_neg (kj (Nat.le_refl _))]
  exact .mk ⟨_,rfl,rfl⟩
def HP (x:B6) (s:B7) (w1:B9) (u:Nat):B9 ⊕ B4->Prop
 | .inr m=>m.Code≠0
 | .inl w2=>w2.uses.length<=w1.uses.length+2 * u/\0<=w2.many/\w2.many<=w1.many+u/\w2.method.length<=4000/\w2.file=w1.file
theorem asw {x:B6} {s:B7} {w w1:B9} (hp:Pre x s w) (h1:ac7 s x w= .inl w1):∃u,u+cm (rt x)<=cm x.Kids/\okBL 1500 (rt x)/\HP x s w1 u (aci x s w1):=by
 obtain⟨a1,a2,a3,a4⟩:=aim h1
 have hs:=ko x
 have hB:=hp.okx
 replace hB:=afy hB
 have pm:=hp.many
 have pt:=hp.meth
 have pu:=hp.uses
 unfold aci rt
 by_cases hd:(x.Kind==18||x.Kind==20)=true
 ·rw[if_pos hd,if_pos hd]
  cases hk:x.Kids with
  |nil=>exact⟨0,by simp[cm],by simp[okBL],by omega,by omega,by omega,by rw[a3];exact pt,rfl⟩
  |cons f r=>
   rw[hk]at hs hB
   simp only[cm,okBL]at hs hB
   have g:=akz _ f s w1 (Nat.le_refl _) ⟨hB.2.1,hp.tab,hp.cl,by have:=hp.seen;omega,by omega,by omega,by have:=hp.many2;omega,by rw[a3];exact pt⟩
   refine⟨eh f,by simp[cm],hB.2.2,?_⟩
   dsimp only
   cases hw:oo f s w1 with
   |inr m=>rw[hw]at g;exact g
   |inl p=>
    rw[hw]at g
    have g:Inv s w1 1 (eh f) p:=g
    exact⟨g.uses,g.many,g.many2,g.meth,g.file⟩
 ·rw[if_neg hd,if_neg hd]
  exact⟨0,by omega,hB.2,by omega,by omega,by omega,by rw[a3];exact pt,rfl⟩
theorem a0f {x:B6} {s:B7} {w w1 w2 w3:B9} (hp:Pre x s w) (h1:ac7 s x w= .inl w1) (h2:aci x s w1= .inl w2) (h3:aaq s x w2= .inl w3):LPre (rt x) (innS s x) (sq x w3)/\NPre x s w3:=by
 obtain⟨a1,a2,a3,a4⟩:=aim h1
 obtain⟨u,hu,hR,hh⟩:=asw hp h1
 rw[h2]at hh
 obtain⟨b1,b2,b3,b4,b5⟩:=hh
 obtain⟨c1,c2,c3,c4⟩:=aua h3
 have hs:=ko x
 have pu:=hp.uses
 have ps:=hp.seen
 have pm:=hp.many2
 have hb:(sq x w3).uses=w3.uses/\(sq x w3).method=w3.method/\0<=(sq x w3).many/\(sq x w3).many<=w3.many+1:=by
  unfold sq
  split
  ·exact⟨rfl,rfl,by simp only;omega,by simp only;omega⟩
  ·exact⟨rfl,rfl,by omega,by omega⟩
 obtain⟨d1,d3,d4,d5⟩:=hb
 have hi:(innS s x).Table=s.Table/\(innS s x).Class=s.Class/\(innS s x).Seen=s.Seen:=by
  unfold innS
  split<;>exact⟨rfl,rfl,rfl⟩
 obtain⟨e1,e2,e3⟩:=hi
 exact⟨⟨hR,by rw[e1];exact hp.tab,by rw[e2];exact hp.cl,by rw[e3];omega,by rw[d1];omega,d4,by omega,by rw[d3,c3];exact b4⟩,
  ⟨hp.okx,by omega,hp.tab,hp.cl,by omega,by omega,by omega,by omega,by rw[c3];exact b4⟩⟩
theorem a1m {x:B6} {s:B7} {w w1 w2:B9} (hp:Pre x s w) (h1:ac7 s x w= .inl w1) (h2:aci x s w1= .inl w2):NPre x s w2:=by
 obtain⟨a1,a2,a3,a4⟩:=aim h1
 obtain⟨u,hu,hR,hh⟩:=asw hp h1
 rw[h2]at hh
 obtain⟨b1,b2,b3,b4,b5⟩:=hh
 have hs:=ko x
 have pu:=hp.uses
 have ps:=hp.seen
 have pm:=hp.many2
 exact⟨hp.okx,by omega,hp.tab,hp.cl,by omega,by omega,by omega,by omega,b4⟩
theorem a0i {x f:B6} {r:List B6} {s:B7} {w w1:B9} (hp:Pre x s w) (h1:ac7 s x w= .inl w1) (hk:x.Kids=f::r):Pre f s w1/\eh f<eh x:=by
 obtain⟨a1,a2,a3,a4⟩:=aim h1
 have hs:=ko x
 have hB:=hp.okx
 replace hB:=afy hB
 rw[hk]at hB
 rw[hk]at hs
 simp only[cm,okBL]at hs hB
 exact⟨⟨hB.2.1,hp.tab,hp.cl,by have:=hp.seen;omega,by have:=hp.uses;omega,by have:=hp.many;omega,by have:=hp.many2;omega,by rw[a3];exact hp.meth⟩,by omega⟩
theorem azl : ∀ (k : Nat) (x : B6) (s : B7) (w : B9), eh x <= k -> eh x <= 100000 -> Pre x s w -> bx k s x w = some (pxW (oo x s w)) := by
  intro k
  induction k with
  |zero=>intro x _ _ h;have:=o6 x;omega
  |succ k ih=>
    intro x s w hx hx2 hp
    have hs:=ko x
    show qn (bx k) s x w=_
    unfold qn
    rw[au3 hp.tab (by have:=hp.uses;omega),ae8]
    cases h1:ac7 s x w with
    |inr m=>rfl
    |inl w1=>
      have j9:∀w2,aci x s w1= .inl w2->my (bx k) s x (rt x) w2.file w2.method w2.many w2.uses=some (pxW (match aaq s x w2 with
        | .inr m=> .inr m
        | .inl w=>finM s x w (tm (rt x) (x.Kind==1) s.Class (innS s x) (sq x w)))):=fun w2 h2=>by
        have hN:=a1m hp h1 h2
        unfold my
        have ew:B9.mk w2.uses w2.file w2.method w2.many=w2:=rfl
        rw[ew,au1 hN]
        cases h3:aaq s x w2 with
        |inr m=>rfl
        |inl w3=>
          obtain⟨hL,hN3⟩:=a0f hp h1 h2 h3
          obtain⟨u,hu,_,_⟩:=asw hp h1
          show(if(x.Kind==4)=true then iq (bx k) w3 (rt x) x s true else iq (bx k) w3 (rt x) x s (x.Kind==6))=_
          have j8:iq (bx k) w3 (rt x) x s (decl x)=some (pxW (finM s x w3 (tm (rt x) (x.Kind==1) s.Class (innS s x) (sq x w3)))):=by
            have hmany:w64 (w3.many+1)=w3.many+1:=c9 (by have:=hN3.many;omega) (by have:=hN3.many2;omega)
            have e:iq (bx k) w3 (rt x) x s (decl x)=lg (bx k) (rt x) x s w3 (decl x) (am3 w3.method w3.many.toNat) (sq x w3).many (innS s x):=by
              unfold iq ti sq innS
              rw[hN3.loc.1,Option.bind_some,hmany]
              cases hd:decl x
              · cases (x.Kind==3)<;>rfl
              · have h3:(x.Kind==3)=false:=by
                  unfold decl at hd
                  simp at hd
                  simp
                  omega
                rw[h3]
                rfl
            rw[e]
            unfold lg
            have eb:(sq x w3).file=w3.file/\(sq x w3).method=w3.method/\(sq x w3).uses=w3.uses:=by
              unfold sq
              split<;>exact⟨rfl,rfl,rfl⟩
            obtain⟨o,e1,ho⟩:=a0d ih (x:=x) (s0:=s) hp.cl (r:=rt x) om om hL
            rw[eb.1,eb.2.1,eb.2.2]at e1
            rw[e1,Option.bind_some,atv _ _ _ 0]
            revert ho
            cases rowF (gL (x.Kind==1) s.Class) 0 (rt x) (innS s x,sq x w3)with
            |inr m=>rintro rfl;rfl
            |inl p=>
              rintro rfl
              dsimp only
              unfold tg ph y6 finM outS
              cases decl x
              · rfl
              · rw[if_pos rfl,ze (by simp;have:=hN3.seen;omega) (by simp;have:=hN3.seen;omega),Option.bind_some,ze (by simp;have:=hN3.seen;omega) (by simp;have:=hN3.seen;omega)]
                rfl
          have e:decl x=((x.Kind==4)||(x.Kind==6)):=rfl
          refine Eq.trans ?_ j8
          rw[e]
          cases (x.Kind==4)<;>rfl
      show(if(x.Kind==18)=true then f5 (bx k) x s w1 (decide ((x.Kids.length:Int)>0))else if(x.Kind==20)=true then f5 (bx k) x s w1 (decide ((x.Kids.length:Int)>0))else f5 (bx k) x s w1 false)=_
      dsimp only
      have j11:f5 (bx k) x s w1 ((x.Kind==18||x.Kind==20)&&decide ((x.Kids.length:Int)>0))=some (pxW (match aci x s w1 with
          | .inr m=> .inr m
          | .inl w=>match aaq s x w with
            | .inr m=> .inr m
            | .inl w=>finM s x w (tm (rt x) (x.Kind==1) s.Class (innS s x) (sq x w)))):=by
        unfold f5
        by_cases hd:(x.Kind==18||x.Kind==20)=true
        · rw[hd,Bool.true_and]
          cases hk:x.Kids with
          |nil=>
            rw[if_neg sm]
            have e1:aci x s w1= .inl w1:=by
              unfold aci
              rw[if_pos hd,hk]
            have e2:rt x=[]:=by
              unfold rt
              rw[if_pos hd,hk]
              rfl
            have:=j9 w1 e1
            rw[e2]at this
            rw[this,e1,e2]
          |cons f r=>
            obtain⟨hf,hlt⟩:=a0i hp h1 hk
            have e0:idx (f::r) (0:Int)=some f:=rfl
            rw[if_pos (by simp<;>omega),e0,Option.bind_some,ih f s w1 om om hf]
            have e1:aci x s w1=match oo f s w1 with| .inr m=> .inr m| .inl p=> .inl p.2:=by
              unfold aci
              rw[if_pos hd,hk]
              try rfl
            have e2:rt x=r:=by
              unfold rt
              rw[if_pos hd,hk]
              rfl
            cases hw:oo f s w1 with
            |inr m=>
              rw[hw]at e1
              rw[e1]
              rfl
            |inl p=>
              rw[hw]at e1
              rw[e1]
              show og (bx k) x s p.2=_
              unfold og
              have es:subL x.Kids 1 (x.Kids.length:Int)=some (rt x):=by
                rw[hk,e2]
                unfold subL
                rw[if_pos so,Int.toNat_natCast,List.take_length]
                rfl
              rw[es,Option.bind_some]
              exact j9 p.2 e1
        · rw[Bool.eq_false_iff.2 hd,Bool.false_and,if_neg sm]
          have e1:aci x s w1= .inl w1:=by
            unfold aci
            rw[if_neg hd]
          have e2:rt x=x.Kids:=by
            unfold rt
            rw[if_neg hd]
          have:=j9 w1 e1
          rw[e1]
          rw[e2]at this ⊢
          exact this
      refine Eq.trans ?_ j11
      cases (x.Kind==18)<;>cases (x.Kind==20)<;>rfl
end
end Go.Proofs.YtcndghapmoaidaaGreatDoor
set_option linter.unusedSectionVars false
set_option linter.unusedVariables false
set_option linter.unusedSimpArgs false
set_option maxRecDepth 100000
set_option maxHeartbeats 4000000
namespace Go.Proofs.YtcndghapmoaidaaGreatDoor
noncomputable section
open Go Go.Cn
variable [Glob]
end
end Go.Proofs.YtcndghapmoaidaaGreatDoor
set_option linter.unusedSectionVars false
set_option linter.unusedVariables false
set_option linter.unusedSimpArgs false
set_option maxRecDepth 100000
set_option maxHeartbeats 4000000
namespace Go.Proofs.YtcndghapmoaidaaGreatDoor
noncomputable section
open Go Go.Cn
variable [Glob]
theorem anm {α τ γ:Type} {g:Nat->τ->α->τ ⊕ γ} {l:List α} (I:Nat->τ->Prop) (h:∀i x t t',l[i]? =some x->I i t->g i t x= .inl t'->I (i+1) t'):∀(r:List α) (i:Nat) (t t':τ),l.drop i=r->i<=l.length->I i t->rowF g i r t= .inl t'->I l.length t'
 | [],i,t,t',hr,hi,hI,e=>by
  have:l.length<=i:=by
   have:=congrArg List.length hr
   rw[List.length_drop,List.length_nil]at this
   omega
  obtain rfl:i=l.length:=by omega
  cases e
  exact hI
 |x::r,i,t,t',hr,hi,hI,e=>by
  have hx:l[i]? =some x:=by
   have:=congrArg (fun z=>z[0]?) hr
   simpa using this
  have hr':l.drop (i+1)=r:=by
   have:=congrArg List.tail hr
   simpa using this
  unfold rowF at e
  cases hg:g i t x with
  |inl t2=>
   rw[hg]at e
   exact anm I h r (i+1) t2 t' hr' (tp hx) (h i x t t2 hx hI hg) e
  |inr m=>rw[hg]at e;cases e
theorem asq {α τ γ:Type} {g:Nat->τ->α->τ ⊕ γ} (E:γ->Prop) (h:∀i x t m,g i t x= .inr m->E m):∀(r:List α) (i:Nat) (t:τ) (m:γ),rowF g i r t= .inr m->E m
 | [],_,_,_,e=>by cases e
 |x::r,i,t,m,e=>by
  unfold rowF at e
  cases hg:g i t x with
  |inl t2=>rw[hg]at e;exact asq E h r (i+1) t2 m e
  |inr m'=>rw[hg]at e;cases e;exact h i x t m hg
def EB (e:B0):Prop:=e.Params.length<=1500
theorem memX_EB {c:Bt} {f:Int} {l l':List B0} {k:B6} (hk:k.Kids.length<=1500) (hl:∀e∈l,EB e) (h:memX c f l k= .inl l'):∀e∈l',EB e:=by
 have hloc:∀e∈locs c f k,EB e:=by
  have key:∀(r:List B6) (l:List B0),(∀e∈l,EB e)->∀e∈r.foldl (locG (rh c k.Text) f) l,EB e:=by
   intro r
   induction r with
   |nil=>intro l h;exact h
   |cons x r ih=>
    intro l h
    refine ih _ fun e he=>?_
    unfold locG at he
    split at he
    ·rcases List.mem_append.1 he with he|he
     ·exact h e he
     ·rw[List.mem_singleton.1 he];exact(show([]:List Bt).length<=1500 by simp)
    ·exact h e he
  exact key _ _ fun _ h=>by cases h
 unfold memX at h
 split at h
 ·split at h
  ·cases h
  ·cases h
   intro e he
   rcases List.mem_append.1 he with he|he
   ·exact hl e he
   ·rw[List.mem_singleton.1 he];exact(show([]:List Bt).length<=1500 by simp)
 ·split at h
  ·split at h
   ·cases h
   ·split at h
    ·cases h
    ·cases h
     intro e he
     rcases List.mem_append.1 he with he|he
     ·exact hl e he
     ·rcases List.mem_cons.1 he with rfl|he
      ·have:=asr k.Kids []
       exact(show(pars k).length<=1500 by unfold pars;simp at this;omega)
      ·exact hloc e he
  ·cases h;exact hl
theorem tabC_EB {f:Int} {l l':List B0} {c:B6} (hn:eh c<=1500) (hl:∀e∈l,EB e) (h:tabC f l c= .inl l'):∀e∈l',EB e:=by
 unfold tabC at h
 split at h
 ·split at h
  ·rename_i h2
   cases h
   unfold clsX at h2
   split at h2
   ·cases h2
   ·refine anm (l:=c.Kids) (fun _ l=>∀e∈l,EB e) (fun i k t t' hk hI hg=>?_) c.Kids 0 _ _ rfl (Nat.zero_le _) (fun e he=>?_) h2
    ·have:=ack hk
     have:=mb k.Kids
     have:=ko k
     have:=ko c
     exact memX_EB om hI hg
    ·rcases List.mem_append.1 he with he|he
     ·exact hl e he
     ·rw[List.mem_singleton.1 he];exact(show([]:List Bt).length<=1500 by simp)
  ·cases h
 ·cases h;exact hl
theorem anl {files:List (List B6)} (hF:D7 files) {l:List B0} (h:tab files= .inl l):l.length<=9000/\∀e∈l,EB e:=by
 have key:l.length<=nsz (files.take files.length)/\∀e∈l,EB e:=by
  unfold tab at h
  refine anm (l:=files) (fun i (l:List B0)=>l.length<=nsz (files.take i)/\∀e∈l,EB e) (fun i file l0 l1 hf hI hg=>?_) files 0 _ _ rfl (Nat.zero_le _) ⟨Nat.zero_le _,fun _ h=>by cases h⟩ h
  obtain⟨hB,hC,_⟩:=hF.each _ (jn hf)
  have h6:=hF.six
  have h9:=hF.all
  have hN:=aji hf
  have g:=anm (l:=file) (fun j (l:List B0)=>l.length<=l0.length+cm (file.take j)/\∀e∈l,EB e) (fun j c l l' hc hI hg=>by
   have hz:=yp hc
   have hcN:=hC c (jn hc)
   have:=awm hg
   exact⟨by omega,tabC_EB om hI.2 hg⟩) file 0 _ _ rfl (Nat.zero_le _) ⟨by simp,hI.2⟩ hg
  rw[List.take_length]at g
  exact⟨by omega,g.2⟩
 have:=hF.all
 rw[List.take_length]at key
 exact⟨by omega,key.2⟩
theorem ay0 {files:List (List B6)} {m:B4} (h:tab files= .inr m):m.Code=150:=by
 unfold tab at h
 refine asq (fun m:B4=>m.Code=150) (fun i file l m hg=>?_) files 0 _ _ h
 refine asq (fun m:B4=>m.Code=150) (fun j c l m hg=>?_) file 0 _ _ hg
 unfold tabC at hg
 split at hg
 ·split at hg
  ·cases hg
  ·rename_i e _
   cases hg
   cases e<;>rfl
 ·cases hg
def useC (l:List B0) (w:B9) (c:B6):B9 ⊕ B4:=
 if(c.Kind==1)=true then(match oo c (B7.mk l c.Text false []) w with| .inl p=> .inl p.2| .inr m=> .inr m)else .inl w
def useF (l:List B0) (f:Nat) (w:B9) (file:List B6):B9 ⊕ B4:=rowF (fun _ w c=>useC l w c) 0 file (B9.mk w.uses f w.method w.many)
def aku (l:List B0) (files:List (List B6)):B9 ⊕ B4:=rowF (useF l) 0 files (B9.mk [] 0 [] 0)
structure WB (w:B9) (n:Nat):Prop where
 uses:w.uses.length<=2 * n
 many:0<=w.many
 many2:w.many<=n
 meth:w.method.length<=4000
theorem avc {l:List B0} (hl:l.length<=9000) {c:B6} (hc:okB 1500 c) (hn:eh c<=1500) {w:B9} {n:Nat} (hw:WB w n) (h9:n<=9000):Pre c (B7.mk l c.Text false []) w:=by
 have hB:=hc
 replace hB:=afy hB
 have:=hw.uses
 have:=hw.many2
 exact⟨hc,by simp only;omega,hB.1.1,by simp only[List.length_nil];omega,by omega,hw.many,by omega,hw.meth⟩
theorem ayw {l:List B0} (hl:l.length<=9000) {c:B6} (hc:okB 1500 c) (hn:eh c<=1500) {w w':B9} {n:Nat} (hw:WB w n) (h9:n<=9000) (h:useC l w c= .inl w'):WB w' (n+eh c):=by
 have hp:=avc hl hc hn hw h9
 unfold useC at h
 split at h
 ·have g:=akz _ c _ w (Nat.le_refl _) hp
  cases hx:oo c (B7.mk l c.Text false []) w with
  |inr m=>rw[hx]at h;cases h
  |inl p=>
   rw[hx]at h g
   cases h
   have g:Inv (B7.mk l c.Text false []) w 1 (eh c) p:=g
   have g1:=g.uses
   have g2:=g.many2
   have:=hw.uses
   have:=hw.many2
   exact⟨by omega,g.many,by omega,g.meth⟩
 ·cases h
  exact⟨by have:=hw.uses;omega,hw.many,by have:=hw.many2;omega,hw.meth⟩
theorem a00 {l:List B0} (hl:l.length<=9000) {c:B6} (hc:okB 1500 c) (hn:eh c<=1500) {w:B9} {m:B4} {n:Nat} (hw:WB w n) (h9:n<=9000) (h:useC l w c= .inr m):m.Code≠0:=by
 have hp:=avc hl hc hn hw h9
 unfold useC at h
 split at h
 ·have g:=akz _ c _ w (Nat.le_refl _) hp
  cases hx:oo c (B7.mk l c.Text false []) w with
  |inr m=>rw[hx]at h g;cases h;exact g
  |inl p=>rw[hx]at h;cases h
 ·cases h
theorem av8 {files:List (List B6)} (hF:D7 files) {l:List B0} (hl:l.length<=9000):
    Ok (Fin' (fun o w=>o= .next (w.file,w.method,w.many,w.uses)/\WB w 9000) (fun o m=>o= .done (.bad (C5.mk m))) (aku l files)) (iter (fun s=>sy files l s.1 s.2.1 s.2.2.1 s.2.2.2.1 s.2.2.2.2) (0,0,[],0,[])):=by
  refine rowM (l:=files) (f:=fun s:Int × Int × Bt × Int × List B8=>sy files l s.1 s.2.1 s.2.2.1 s.2.2.2.1 s.2.2.2.2) (useF l)
    (fun i s w=>s=((i:Int),w.file,w.method,w.many,w.uses)/\WB w (nsz (files.take i))) _ _ (fun i file s w hf h=>?_) (fun s w h=>?_) files 0 _ (B9.mk [] 0 [] 0) rfl (Nat.zero_le _) ⟨rfl,by simp,by simp,by simp,by simp⟩
  · obtain⟨rfl,hw⟩:=h
    have hi:=tp hf
    have h6:=hF.six
    obtain⟨hB,hC,_⟩:=hF.each _ (jn hf)
    have h6:=hF.six
    have h9:=hF.all
    have hN:=aji hf
    dsimp only
    unfold sy
    rw[if_pos (ki hf),ib hf,Option.bind_some]
    obtain⟨o,e1,ho⟩:=rowM (l:=file) (f:=fun s:Int × Int × Bt × Int × List B8=>vm file l s.1 s.2.1 s.2.2.1 s.2.2.2.1 s.2.2.2.2) (fun _ w c=>useC l w c)
      (fun j s w=>s=((j:Int),w.file,w.method,w.many,w.uses)/\WB w (nsz (files.take i)+cm (file.take j))) (fun o w=>o= .next (w.file,w.method,w.many,w.uses)/\WB w (nsz (files.take (i+1)))) (fun o m=>o= .done (.inr (.done (.bad (C5.mk m))))) (fun j c s w hc h=>by
        obtain⟨rfl,hw⟩:=h
        have hj:=yx hc
        have hz:=yp hc
        have hcB:=ri hB (jn hc)
        have hcN:=hC c (jn hc)
        dsimp only
        unfold vm
        rw[if_pos (ki hc),ib hc,Option.bind_some]
        have nx:∀w',useC l w c= .inl w'->Ok (Step (fun s w=>s=(((j+1:Nat):Int),w.file,w.method,w.many,w.uses)/\WB w (nsz (files.take i)+cm (file.take (j+1)))) (fun o m=>o= .done (.inr (.done (.bad (C5.mk m))))) (useC l w c)) (za j w'.file w'.method w'.many w'.uses c):=fun w' h1=>by
          have g:=ayw hl hcB om hw om h1
          unfold za
          rw[agu om,h1]
          rw[show nsz (files.take i)+cm (file.take (j+1))=nsz (files.take i)+cm (file.take j)+eh c by omega]
          exact .mk ⟨_,rfl,rfl,g⟩
        by_cases h1:(c.Kind==1)=true
        · rw[if_pos h1]
          have hp:=avc hl hcB om hw om
          have ew:B9.mk w.uses w.file w.method w.many=w:=rfl
          have e2:adi (B7.mk l c.Text false []) c w=some (pxW (oo c (B7.mk l c.Text false []) w)):=azl 1048576 c _ w om om hp
          rw[ew,e2]
          have eu:useC l w c=match oo c (B7.mk l c.Text false []) w with| .inl p=> .inl p.2| .inr m=> .inr m:=by
            unfold useC
            rw[if_pos h1]
            try (cases oo c (B7.mk l c.Text false []) w<;>rfl)
          cases hx:oo c (B7.mk l c.Text false []) w with
          |inr m=>
            rw[hx]at eu
            rw[eu]
            exact .mk ⟨_,rfl,rfl⟩
          |inl p=>
            rw[hx]at eu
            exact nx p.2 eu
        · rw[if_neg h1]
          refine nx w ?_
          unfold useC
          rw[if_neg h1]) (fun s w h=>by
        obtain⟨rfl,hw⟩:=h
        rw[List.take_length]at hw
        dsimp only
        unfold vm
        rw[if_neg (kj (Nat.le_refl _))]
        exact .mk ⟨_,rfl,rfl,by have:=hw.uses;omega,hw.many,by have:=hw.many2;omega,hw.meth⟩) file 0 (0,(i:Int),w.method,w.many,w.uses) (B9.mk w.uses i w.method w.many) rfl (Nat.zero_le _) ⟨rfl,by have:=hw.uses;simp only;omega,hw.many,by have:=hw.many2;simp only;omega,hw.meth⟩
    refine .bd ⟨o,e1,ho⟩ fun o ho=>?_
    unfold useF
    revert ho
    cases rowF (fun _ w c=>useC l w c) 0 file (B9.mk w.uses i w.method w.many)with
    |inl w'=>
      rintro⟨rfl,hw'⟩
      dsimp only
      unfold afj
      rw[agu om]
      exact .mk ⟨_,rfl,rfl,hw'⟩
    |inr m=>
      rintro rfl
      exact .mk ⟨_,rfl,rfl⟩
  · obtain⟨rfl,hw⟩:=h
    have h9:=hF.all
    rw[List.take_length]at hw
    dsimp only
    unfold sy
    rw[if_neg (kj (Nat.le_refl _))]
    exact .mk ⟨_,rfl,rfl,by have:=hw.uses;omega,hw.many,by have:=hw.many2;omega,hw.meth⟩
def au9 (files:List (List B6)) (r:List B8 × B4):Prop:=
 match tab files with
 | .inr m=>r=([],m)
 | .inl l=>if(adc l).Code≠0 then r=([],adc l)else match aku l files with
  | .inr m=>r=([],m)
  | .inl w=>r.2=zM/\Srt ltU r.1/\D6 ltU w.uses r.1/\WB w 9000
theorem azn {files:List (List B6)} (hF:D7 files):∃r,ak8 files=some r/\au9 files r:=by
 unfold ak8 aml au9
 rw[aj7 hF,Option.bind_some]
 cases ht:tab files with
 |inr m=>
  have:=ay0 ht
  unfold tabR
  dsimp only
  rw[if_pos (by rw[this];rfl)]
  exact⟨_,rfl,rfl⟩
 |inl l=>
  obtain⟨hl,hE⟩:=anl hF ht
  have hE2:∀e∈l,e.Params.length<=4000000000:=fun e he=>by have:e.Params.length<=1500:=hE e he;omega
  unfold tabR
  dsimp only
  rw[if_neg sm,aux om hE2,Option.bind_some]
  by_cases hc:(adc l).Code=0
  ·rw[if_neg (by simp[hc])]
   obtain⟨o,e1,ho⟩:=av8 hF hl
   rw[e1,Option.bind_some]
   revert ho
   cases aku l files with
   |inr m=>
    rintro rfl
    exact⟨_,rfl,by rw[if_neg (by simp[hc])]⟩
   |inl w=>
    rintro⟨rfl,hw⟩
    obtain⟨Z,z1,z3,z4⟩:=azx swoU cmpU (d:=w.uses) (by have:=hw.uses;omega)
    dsimp only
    unfold afk
    rw[z1]
    exact⟨_,rfl,by rw[if_neg (by simp[hc])];exact⟨rfl,z3,z4,hw⟩⟩
  ·rw[if_pos (by simpa using hc)]
   exact⟨_,rfl,by rw[if_pos hc]⟩
end
end Go.Proofs.YtcndghapmoaidaaGreatDoor
set_option linter.unusedSectionVars false
set_option linter.unusedVariables false
set_option linter.unusedSimpArgs false
set_option maxRecDepth 100000
set_option maxHeartbeats 4000000
namespace Go.Proofs.YtcndghapmoaidaaGreatDoor
noncomputable section
open Go Go.Cn
variable [Glob]
theorem au9.len {files:List (List B6)} {r:List B8 × B4} (h:au9 files r):r.1.length<=18000:=by
 unfold au9 at h
 cases ht:tab files with
 |inr m=>rw[ht]at h;have h:r=([],m):=h;rw[h];simp
 |inl l=>
  rw[ht]at h
  dsimp only at h
  split at h
  ·rw[h];simp
  ·cases hg:aku l files with
   |inr m=>rw[hg]at h;have h:r=([],m):=h;rw[h];simp
   |inl w=>
    rw[hg]at h
    obtain⟨_,_,h3,h4⟩:=h
    rw[h3.len]
    have:=h4.uses
    omega
end
end Go.Proofs.YtcndghapmoaidaaGreatDoor
set_option linter.unusedSectionVars false
set_option linter.unusedVariables false
set_option linter.unusedSimpArgs false
set_option maxRecDepth 100000
set_option maxHeartbeats 4000000
namespace Go.Proofs.YtcndghapmoaidaaGreatDoor
noncomputable section
open Go Go.Cn
variable [Glob]
def catF {α β:Type} (E:Nat->α->List β):Nat->List α->List β
 |_,[]=>[]
 |i,x::r=>E i x++catF E (i+1) r
def allF {α:Type} (Q:Nat->α->Prop):Nat->List α->Prop
 |_,[]=>True
 |i,x::r=>Q i x/\allF Q (i+1) r
theorem ann {α:Type} {γ:Type} {g:Nat->List B0->α->List B0 ⊕ γ} (E:Nat->α->List B0) (Q:Nat->α->Prop) (h:∀i t x t',g i t x= .inl t'↔twF t (E i x)=none/\Q i x/\t'=t++E i x):
  ∀(r:List α) (i:Nat) (t t':List B0),rowF g i r t= .inl t'↔twF t (catF E i r)=none/\allF Q i r/\t'=t++catF E i r
 | [],i,t,t'=>by
  have e:rowF g i [] t= .inl t:=rfl
  have e2:catF E i []=[]:=rfl
  have e3:twF t ([]:List B0)=none:=rfl
  rw[e,e2,e3,List.append_nil]
  exact⟨fun h=>by cases h;exact⟨rfl,trivial,rfl⟩,fun h=>by rw[h.2.2]⟩
 |x::r,i,t,t'=>by
  unfold rowF catF allF
  rw[ayy]
  cases hg:g i t x with
  |inl t2=>
   obtain⟨h1,h2,rfl⟩:=(h i t x t2).1 hg
   dsimp only
   rw[ann E Q h r (i+1) _ t',h1,List.append_assoc]
   exact⟨fun⟨a,b,c⟩=>⟨a,⟨h2,b⟩,c⟩,fun⟨a,b,c⟩=>⟨a,b.2,c⟩⟩
  |inr e=>
   dsimp only
   refine⟨fun h=>(by cases h),fun⟨a,b,c⟩=>?_⟩
   cases ht:twF t (E i x)with
   |some e=>rw[ht]at a;cases a
   |none=>
    have:=(h i t x (t++E i x)).2 ⟨ht,b.1,rfl⟩
    rw[hg]at this
    cases this
theorem ar4 (l:List B0):twF l []=none:=rfl
theorem anj (l:List B0) (x:B0) (r:List B0):twF l (x::r)=if dup l x=true then some x else twF (l++[x]) r:=rfl
def entK (c:Bt) (f:Int) (k:B6):List B0:=if(k.Kind==2)=true then[agw c f k]else if(k.Kind==3)=true then arw c f k::locs c f k else[]
def a0u (k:B6):Prop:=k.Kind=3->agnN [] k=none
theorem a1n (c:Bt) (f:Int) (l:List B0) (k:B6) (l':List B0):memX c f l k= .inl l'↔twF l (entK c f k)=none/\a0u k/\l'=l++entK c f k:=by
 unfold memX entK a0u
 by_cases h2:k.Kind=2
 ·have c2:(k.Kind==2)=true:=by simp[h2]
  rw[if_pos c2,if_pos c2,anj,ar4]
  by_cases hd:dup l (agw c f k)=true
  ·rw[if_pos hd,if_pos hd]
   exact⟨fun h=>(by cases h),fun h=>(by cases h.1)⟩
  ·rw[if_neg hd,if_neg hd]
   exact⟨fun h=>(by cases h;exact⟨rfl,fun h3=>by omega,rfl⟩),fun h=>by rw[h.2.2]⟩
 ·have c2:¬(k.Kind==2)=true:=by simpa using h2
  rw[if_neg c2,if_neg c2]
  by_cases h3:k.Kind=3
  ·have c3:(k.Kind==3)=true:=by simp[h3]
   rw[if_pos c3,if_pos c3,anj]
   by_cases hd:dup l (arw c f k)=true
   ·rw[if_pos hd,if_pos hd]
    exact⟨fun h=>(by cases h),fun h=>(by cases h.1)⟩
   ·rw[if_neg hd,if_neg hd,aq6 _ _ (aoo c f k)]
    cases agnN [] k with
    |some x=>exact⟨fun h=>(by cases h),fun h=>(by cases h.2.1 h3)⟩
    |none=>exact⟨fun h=>(by cases h;exact⟨rfl,fun _=>rfl,rfl⟩),fun h=>by rw[h.2.2]⟩
  ·have c3:¬(k.Kind==3)=true:=by simpa using h3
   rw[if_neg c3,if_neg c3,ar4]
   exact⟨fun h=>(by cases h;exact⟨rfl,fun h=>absurd h h3,by simp⟩),fun h=>by rw[h.2.2];simp⟩
def entC (f:Int) (c:B6):List B0:=if(c.Kind==1)=true then adn f c::catF (fun _ k=>entK c.Text f k) 0 c.Kids else[]
def atl (c:B6):Prop:=c.Kind=1->allF (fun _ k=>a0u k) 0 c.Kids
theorem a08 (f:Int) (l:List B0) (c:B6) (l':List B0):tabC f l c= .inl l'↔twF l (entC f c)=none/\atl c/\l'=l++entC f c:=by
 unfold tabC entC atl
 by_cases h1:c.Kind=1
 ·have c1:(c.Kind==1)=true:=by simp[h1]
  rw[if_pos c1,if_pos c1]
  have hk:=ann (fun _ k=>entK c.Text f k) (fun _ k=>a0u k) (fun _ t x t'=>a1n c.Text f t x t') c.Kids 0 (l++[adn f c])
  unfold clsX
  rw[anj]
  by_cases hd:dup l (adn f c)=true
  ·rw[if_pos hd,if_pos hd]
   exact⟨fun h=>(by cases h),fun h=>(by cases h.1)⟩
  ·rw[if_neg hd,if_neg hd]
   cases hr:rowF (fun _ l k=>memX c.Text f l k) 0 c.Kids (l++[adn f c])with
   |inl t2=>
    obtain⟨a,b,rfl⟩:=(hk t2).1 hr
    rw[a]
    exact⟨fun h=>(by cases h;exact⟨rfl,fun _=>b,by simp⟩),fun h=>by rw[h.2.2];simp⟩
   |inr e=>
    refine⟨fun h=>(by cases h),fun⟨a,b,_⟩=>?_⟩
    have:=(hk _).2 ⟨a,b h1,rfl⟩
    rw[hr]at this
    cases this
 ·have c1:¬(c.Kind==1)=true:=by simpa using h1
  rw[if_neg c1,if_neg c1,ar4]
  exact⟨fun h=>(by cases h;exact⟨rfl,fun h=>absurd h h1,by simp⟩),fun h=>by rw[h.2.2];simp⟩
def entA (files:List (List B6)):List B0:=catF (fun f file=>catF (fun _ c=>entC (f:Int) c) 0 file) 0 files
def au8 (files:List (List B6)):Prop:=allF (fun _ file=>allF (fun _ c=>atl c) 0 file) 0 files
theorem tab_iff (files:List (List B6)) (l:List B0):tab files= .inl l↔twF [] (entA files)=none/\au8 files/\l=entA files:=by
 have:=ann (g:=fun(f:Nat) l file=>rowF (fun _ l c=>tabC (f:Int) l c) 0 file l) (fun f file=>catF (fun _ c=>entC (f:Int) c) 0 file) (fun _ file=>allF (fun _ c=>atl c) 0 file) (fun i t x t'=>ann (fun _ c=>entC (i:Int) c) (fun _ c=>atl c) (fun _ t x t'=>a08 i t x t') x 0 t t') files 0 [] l
 exact this
def am4 (x y:B0):Bool:=y.Kind != 4&&ayb y x
theorem azj (l:List B0) (x y:B0):dup (l++[x]) y=(dup l y||am4 x y):=by
 unfold dup am4
 rw[List.any_append]
 cases (y.Kind != 4)<;>simp
abbrev NoC (L:List B0):Prop:=L.Pairwise fun x y=>am4 x y=false
theorem ayx :∀(L pre:List B0),twF pre L=none↔(∀y∈L,dup pre y=false)/\NoC L
 | [],_=>by rw[ar4];simp
 |x::r,pre=>by
  rw[anj]
  by_cases hd:dup pre x=true
  ·rw[if_pos hd]
   exact⟨fun h=>(by cases h),fun h=>by have:=h.1 x List.mem_cons_self;rw[hd]at this;cases this⟩
  ·rw[if_neg hd,ayx r (pre++[x])]
   unfold NoC
   rw[List.pairwise_cons]
   constructor
   ·rintro⟨a,b⟩
    have a':∀y∈r,dup pre y=false/\am4 x y=false:=fun y hy=>by
     have:=a y hy
     rw[azj,Bool.or_eq_false_iff]at this
     exact this
    refine⟨fun y hy=>?_,fun y hy=>(a' y hy).2,b⟩
    rcases List.mem_cons.1 hy with rfl|hy
    ·exact Bool.eq_false_iff.2 hd
    ·exact(a' y hy).1
   ·rintro⟨a,b,c⟩
    refine⟨fun y hy=>?_,c⟩
    rw[azj,a y (List.mem_cons_of_mem _ hy),b y hy]
    rfl
theorem ax1 {x y:B0} (h:am4 x y=false):am4 y x=false:=by
 cases hc:am4 y x with
 |false=>rfl
 |true=>
  unfold am4 ayb at h hc
  simp only[Bool.and_eq_true,bne_iff_ne,beq_iff_eq]at hc
  obtain⟨h1,⟨h2,h3⟩,h4⟩:=hc
  rw[← h2,← h3,← h4]at h
  simp at h
  omega
theorem ank (files:List (List B6)) (l:List B0):tab files= .inl l↔NoC (entA files)/\au8 files/\l=entA files:=by
 rw[tab_iff,ayx]
 have:∀y∈entA files,dup [] y=false:=fun y _=>by unfold dup;simp
 exact⟨fun⟨a,b,c⟩=>⟨a.2,b,c⟩,fun⟨a,b,c⟩=>⟨⟨this,a⟩,b,c⟩⟩
def sg (e:B0):B0:={e with File:=0}
theorem sg_locs (c:Bt) (f:Int) (k:B6):(locs c f k).map sg=(locs c 0 k).map sg:=by
 have key:∀(r:List B6) (l l':List B0),l.map sg=l'.map sg->(r.foldl (locG (rh c k.Text) f) l).map sg=(r.foldl (locG (rh c k.Text) 0) l').map sg:=by
  intro r
  induction r with
  |nil=>intro l l' h;exact h
  |cons x r ih=>
   intro l l' h
   refine ih _ _ ?_
   have hl:l.length=l'.length:=by have:=congrArg List.length h;simpa using this
   unfold locG
   split
   ·rw[List.map_append,List.map_append,h,hl];rfl
   ·exact h
 exact key _ _ _ rfl
theorem sg_entK (c:Bt) (f:Int) (k:B6):(entK c f k).map sg=(entK c 0 k).map sg:=by
 unfold entK
 split
 ·rfl
 ·split
  ·rw[List.map_cons,List.map_cons,sg_locs];rfl
  ·rfl
theorem ass {α β γ:Type} (E E':Nat->α->List β) (s:β->γ) (h:∀i j x,(E i x).map s=(E' j x).map s):∀(r:List α) (i j:Nat),(catF E i r).map s=(catF E' j r).map s
 | [],_,_=>rfl
 |x::r,i,j=>by
  unfold catF
  rw[List.map_append,List.map_append,h i j,ass E E' s h r (i+1) (j+1)]
theorem sg_entC (f:Int) (c:B6):(entC f c).map sg=(entC 0 c).map sg:=by
 unfold entC
 split
 ·rw[List.map_cons,List.map_cons,ass _ _ sg (fun _ _ k=>sg_entK c.Text f k) c.Kids 0 0];rfl
 ·rfl
def a2n (file:List B6):List B0:=(catF (fun _ c=>entC 0 c) 0 file).map sg
theorem ay2 :∀(files:List (List B6)) (i:Nat),(catF (fun f file=>catF (fun _ c=>entC (f:Int) c) 0 file) i files).map sg=files.flatMap a2n
 | [],_=>rfl
 |x::r,i=>by
  unfold catF
  rw[List.map_append,ay2 r (i+1),List.flatMap_cons]
  congr 1
  exact ass _ _ sg (fun _ _ c=>sg_entC i c) x 0 0
theorem NoC_sg {L:List B0}:NoC L↔NoC (L.map sg):=by
 unfold NoC
 rw[List.pairwise_map]
 rfl
theorem a2e {L M:List B0} (h:(L.map sg).Perm (M.map sg)) (hL:NoC L):NoC M:=by
 rw[NoC_sg]at hL ⊢
 exact(h.pairwise_iff (fun {x y} h=>ax1 h)).1 hL
theorem amm {α:Type} {Q:α->Prop}:∀(r:List α) (i:Nat),allF (fun _ x=>Q x) i r↔∀x∈r,Q x
 | [],_=>by unfold allF;simp
 |x::r,i=>by
  unfold allF
  rw[amm r (i+1),List.forall_mem_cons]
theorem find_sg {L M:List B0} (h:(L.map sg).Perm (M.map sg)) (p:B0->Bool) (hp:∀e,p (sg e)=p e) (hu:L.Pairwise fun x y=>¬(p x=true/\p y=true)):(L.find? p).map sg=(M.find? p).map sg:=by
 have f:∀L:List B0,(L.find? p).map sg=((L.map sg).filter p).head? :=fun L=>by
  rw[List.filter_map,List.head?_map,← List.head?_filter]
  congr 2
  congr 1
  funext e
  exact(hp e).symm
 rw[f,f]
 have h1:=h.filter p
 have hl:((L.map sg).filter p).length<=1:=by
  have hq:((L.map sg).filter p).Pairwise fun _ _=>False:=by
   rw[List.pairwise_filter,List.pairwise_map]
   refine hu.imp fun {x y} h hx hy=>h ⟨?_,?_⟩
   ·rw[← hp];exact hx
   ·rw[← hp];exact hy
  have key:∀Z:List B0,Z.Pairwise (fun _ _=>False)->Z.length<=1:=fun Z hz=>by
   cases Z with
   |nil=>simp
   |cons a Z=>
    cases Z with
    |nil=>simp
    |cons b Z=>exact((List.pairwise_cons.1 hz).1 b List.mem_cons_self).elim
  exact key _ hq
 match h2:(L.map sg).filter p,hl with
 | [],_=>
  rw[h2]at h1
  rw[List.nil_perm.1 h1]
 | [a],_=>
  rw[h2]at h1
  rw[List.singleton_perm.1 h1]
 |a::b::l,hl=>simp at hl
end
end Go.Proofs.YtcndghapmoaidaaGreatDoor
set_option linter.unusedSectionVars false
set_option linter.unusedVariables false
set_option linter.unusedSimpArgs false
set_option maxRecDepth 100000
set_option maxHeartbeats 4000000
namespace Go.Proofs.YtcndghapmoaidaaGreatDoor
noncomputable section
open Go Go.Cn
variable [Glob]
structure TR (T1 T2:List B0):Prop where
 perm:(T1.map sg).Perm (T2.map sg)
 noc:NoC T1
 ce:∀e∈T1,e.Kind=1->e.Owner=[]/\e.Name=e.Id
theorem TR.len {T1 T2:List B0} (h:TR T1 T2):T1.length=T2.length:=by
 have:=h.perm.length_eq
 simpa using this
structure SgE (a b:B0):Prop where
 kind:a.Kind=b.Kind
 id:a.Id=b.Id
 name:a.Name=b.Name
 owner:a.Owner=b.Owner
 type:a.Type_=b.Type_
 static:a.Static=b.Static
 params:a.Params=b.Params
 at_:a.At=b.At
theorem sgE {a b:B0} (h:sg a=sg b):SgE a b:=by
 unfold sg at h
 injection h
 constructor<;>assumption
theorem SgE.refl (a:B0):SgE a a:=⟨rfl,rfl,rfl,rfl,rfl,rfl,rfl,rfl⟩
variable {T1 T2:List B0}
theorem TR.find (h:TR T1 T2) (p:B0->Bool) (hp:∀e,p (sg e)=p e) (hu:∀x∈T1,∀y∈T1,p x=true->p y=true->am4 x y=true):(T1.find? p).map sg=(T2.find? p).map sg:=
 find_sg h.perm p hp (h.noc.imp_of_mem fun {x y} hx hy hc hxy=>by
  rw[hu x hx y hy hxy.1 hxy.2]at hc
  cases hc)
theorem TR.cls (h:TR T1 T2) (id:Bt):(cls T1 id).2=(cls T2 id).2/\SgE (cls T1 id).1 (cls T2 id).1:=by
 have hf:=h.find (isC id) (fun e=>rfl) (fun x hx y hy h1 h2=>by
  unfold isC at h1 h2
  simp only[Bool.and_eq_true,beq_iff_eq]at h1 h2
  obtain⟨a1,a2⟩:=h.ce x hx h1.1
  obtain⟨b1,b2⟩:=h.ce y hy h2.1
  unfold am4 ayb
  rw[h1.1,h2.1,a1,b1,a2,b2,h1.2,h2.2]
  simp)
 unfold Go.Proofs.YtcndghapmoaidaaGreatDoor.cls
 cases h1:T1.find? (isC id)<;>cases h2:T2.find? (isC id)<;>rw[h1,h2]at hf
 ·exact⟨rfl,.refl _⟩
 ·cases hf
 ·cases hf
 ·exact⟨rfl,sgE (Option.some.inj hf)⟩
theorem TR.path (h:TR T1 T2):∀(n:Nat) (id:Bt) (told:List Bt),path T1 n id told=path T2 n id told
 | 0,_,_=>rfl
 |n+1,id,told=>by
  obtain⟨a,b⟩:=h.cls id
  unfold Go.Proofs.YtcndghapmoaidaaGreatDoor.path
  rw[a,b.type,h.path n]
theorem TR.below (h:TR T1 T2) (a b:Bt):below T1 a b=below T2 a b:=by
 unfold Go.Proofs.YtcndghapmoaidaaGreatDoor.below
 rw[h.len,h.path]
theorem ao6 {f g:Bt->Option B0} (h:∀a,(f a).map sg=(g a).map sg):∀l:List Bt,(l.findSome? f).map sg=(l.findSome? g).map sg
 | []=>rfl
 |a::l=>by
  rw[List.findSome?_cons,List.findSome?_cons]
  have:=h a
  cases h1:f a<;>cases h2:g a<;>rw[h1,h2]at this
  ·exact ao6 h l
  ·cases this
  ·cases this
  ·exact this
theorem TR.has (h:TR T1 T2) {kind:Int} (hk:kind≠4) (id name:Bt):(has T1 kind id name).2=(has T2 kind id name).2/\SgE (has T1 kind id name).1 (has T2 kind id name).1:=by
 have hf:=ao6 (f:=fun a=>T1.find? (ownP kind name a)) (g:=fun a=>T2.find? (ownP kind name a)) (fun a=>h.find (ownP kind name a) (fun e=>rfl) (fun x hx y hy h1 h2=>by
  unfold ownP at h1 h2
  simp only[Bool.and_eq_true,beq_iff_eq]at h1 h2
  unfold am4 ayb
  rw[h1.1.1,h2.1.1,h1.1.2,h2.1.2,h1.2,h2.2]
  simpa using hk)) (Go.Proofs.YtcndghapmoaidaaGreatDoor.path T1 (T1.length+1) id [])
 unfold Go.Proofs.YtcndghapmoaidaaGreatDoor.has
 rw[← h.len,← h.path]
 revert hf
 cases (Go.Proofs.YtcndghapmoaidaaGreatDoor.path T1 (T1.length+1) id []).findSome? (fun a=>T1.find? (ownP kind name a))<;>cases (Go.Proofs.YtcndghapmoaidaaGreatDoor.path T1 (T1.length+1) id []).findSome? (fun a=>T2.find? (ownP kind name a))<;>intro hf
 ·exact⟨rfl,.refl _⟩
 ·cases hf
 ·cases hf
 ·exact⟨rfl,sgE (Option.some.inj hf)⟩
theorem TR.wrong (h:TR T1 T2) {e1 e2:B0} (he:SgE e1 e2):vb T1 e1=vb T2 e2:=by
 obtain⟨c1,c2⟩:=h.cls e1.Type_
 obtain⟨o1,o2⟩:=h.cls e1.Owner
 obtain⟨f1,f2⟩:=h.has (kind:=2) dcd (Go.Proofs.YtcndghapmoaidaaGreatDoor.cls T1 e1.Owner).1.Type_ e1.Name
 obtain⟨m1,m2⟩:=h.has (kind:=3) dcd (Go.Proofs.YtcndghapmoaidaaGreatDoor.cls T1 e1.Owner).1.Type_ e1.Name
 unfold vb
 rw[f1,m1,m2.type,m2.static,m2.params,o2.type,c1,o1,h.below,he.kind,he.type,he.owner,he.id,he.name,he.static,he.params]
theorem aow :∀(l L:List B0) (i:Nat),((fin (B4.mk 0 0 0) (qa (fun e=>vb L e != 0) (fun _ e=>B4.mk (vb L e) e.File e.At) i l)).Code=0)↔∀e∈l,vb L e=0
 | [],_,_=>by unfold qa fin;simp
 |x::r,L,i=>by
  unfold qa
  by_cases hw:vb L x=0
  ·rw[if_neg (by simp[hw]),aow r L (i+1)]
   simp[hw]
  ·rw[if_pos (by simpa using hw)]
   refine⟨fun h=>absurd h hw,fun h=>absurd (h x List.mem_cons_self) hw⟩
theorem TR.check (h:TR T1 T2):(adc T1).Code=0↔(adc T2).Code=0:=by
 unfold adc
 rw[aow,aow]
 have key:∀(A B:List B0),(A.map sg).Perm (B.map sg)->(∀e1 e2,SgE e1 e2->e1∈A->e2∈B->vb T1 e1=vb T2 e2)->True:=fun _ _ _ _=>trivial
 constructor
 ·intro g e he
  obtain⟨e1,h1,h2⟩:=List.mem_map.1 (h.perm.mem_iff.2 (List.mem_map_of_mem (f:=sg) he))
  rw[← h.wrong (sgE h2)]
  exact g e1 h1
 ·intro g e he
  obtain⟨e1,h1,h2⟩:=List.mem_map.1 (h.perm.mem_iff.1 (List.mem_map_of_mem (f:=sg) he))
  rw[h.wrong (sgE h2.symm)]
  exact g e1 h1
structure SR (s1 s2:B7):Prop where
 tab:TR s1.Table s2.Table
 cl:s1.Class=s2.Class
 st:s1.Static=s2.Static
 seen:s1.Seen.map sg=s2.Seen.map sg
structure PR (a b:B0 × Int):Prop where
 e:SgE a.1 b.1
 c:a.2=b.2
theorem PR.refl (a:B0 × Int):PR a a:=⟨.refl _,rfl⟩
theorem anp (st:Bool) {a b:B0 × Bool} (h1:a.2=b.2) (h2:SgE a.1 b.1):PR (ownM st a) (ownM st b):=by
 unfold ownM
 rw[h1,h2.static]
 split
 ·split
  ·exact .refl _
  ·exact⟨h2,rfl⟩
 ·exact .refl _
theorem at9 {a b:B0 × Bool} (h1:a.2=b.2) (h2:SgE a.1 b.1):PR (arv a) (arv b):=by
 unfold arv
 rw[h1]
 split
 ·exact⟨h2,rfl⟩
 ·exact .refl _
theorem akh (p:B0->Bool) (hp:∀e,p (sg e)=p e):∀L:List B0,(L.find? p).map sg=(L.map sg).find? p
 | []=>rfl
 |x::L=>by
  rw[List.map_cons]
  by_cases hx:p x=true
  ·rw[List.find?_cons_of_pos hx,List.find?_cons_of_pos (by rw[hp];exact hx)];rfl
  ·rw[List.find?_cons_of_neg hx,List.find?_cons_of_neg (by rw[hp];exact hx),akh p hp L]
variable {s1 s2:B7}
theorem aub (h:SR s1 s2) (t:Bt):PR (an2 s1 t) (an2 s2 t):=by
 have hf:(s1.Seen.reverse.find? fun e=>e.Name==t).map sg=(s2.Seen.reverse.find? fun e=>e.Name==t).map sg:=by
  rw[akh _ (fun e=>rfl),akh _ (fun e=>rfl),List.map_reverse,List.map_reverse,h.seen]
 obtain⟨f1,f2⟩:=h.tab.has (kind:=2) dcd s1.Class t
 obtain⟨c1,c2⟩:=h.tab.cls t
 unfold an2
 rw[← h.cl,← h.st]
 revert hf
 cases s1.Seen.reverse.find? (fun e=>e.Name==t)<;>cases s2.Seen.reverse.find? (fun e=>e.Name==t)<;>intro hf
 ·dsimp only
  rw[f1]
  split
  ·exact anp _ f1 f2
  ·exact at9 c1 c2
 ·cases hf
 ·cases hf
 ·exact⟨sgE (Option.some.inj hf),rfl⟩
theorem awx (h:SR s1 s2) {kind:Int} (hk:kind≠4) (n:B6) (ty:Bt):PR (memM s1 kind n ty) (memM s2 kind n ty):=by
 unfold memM
 cases n.Kids with
 |nil=>exact .refl _
 |cons f r=>
  dsimp only
  have hn:=aub h f.Text
  obtain⟨c1,c2⟩:=h.tab.cls ty
  rw[hn.c,hn.e.kind,hn.e.id,c1]
  split
  ·exact anp _ (h.tab.has hk _ _).1 (h.tab.has hk _ _).2
  ·split
   ·exact anp _ (h.tab.has hk _ _).1 (h.tab.has hk _ _).2
   ·exact .refl _
theorem aw8 (h:SR s1 s2) (n:B6) (ty:Bt):PR (entW s1 n ty) (entW s2 n ty):=by
 unfold entW
 split
 ·exact aub h _
 ·split
  ·rw[h.st,h.cl];exact anp _ (h.tab.has dcd _ _).1 (h.tab.has dcd _ _).2
  ·split
   ·exact at9 (h.tab.cls _).1 (h.tab.cls _).2
   ·split
    ·exact awx h dcd _ _
    ·split
     ·exact awx h dcd _ _
     ·exact .refl _
theorem a01 (h:SR s1 s2) (n:B6) {a b:B0 × Int} (hp:PR a b):typW s1 n a=typW s2 n b:=by
 unfold typW
 rw[h.st,h.cl,hp.c,hp.e.id,hp.e.kind,hp.e.type]
mutual
theorem awk (h:SR s1 s2):∀n:B6,typM s1 n=typM s2 n
 |⟨k,t,y,n,a,b,c,d,kids⟩=>by
  rw[typM,typM,awl h kids]
  exact a01 h _ (aw8 h _ _)
theorem awl (h:SR s1 s2):∀l:List B6,typF s1 l=typF s2 l
 | []=>by rw[typF,typF]
 |f::r=>by rw[typF,typF];exact awk h f
end
theorem as1 (h:SR s1 s2) (n:B6):PR (entM s1 n) (entM s2 n):=by
 unfold entM
 rw[awl h]
 exact aw8 h n _
end
end Go.Proofs.YtcndghapmoaidaaGreatDoor
set_option linter.unusedSectionVars false
set_option linter.unusedVariables false
set_option linter.unusedSimpArgs false
set_option maxRecDepth 100000
set_option maxHeartbeats 4000000
namespace Go.Proofs.YtcndghapmoaidaaGreatDoor
noncomputable section
open Go Go.Cn
variable [Glob]
def uc (u:B8):Int × Bt:=(u.At,u.Id)
structure UW (w1 w2 v1 v2:B9):Prop where
 ex:∃D1 D2,v1.uses=w1.uses++D1/\v2.uses=w2.uses++D2/\D1.map uc=D2.map uc
theorem UW.refl (w1 w2:B9):UW w1 w2 w1 w2:=⟨[],[],by simp,by simp,rfl⟩
theorem UW.trans {w1 w2 v1 v2 u1 u2:B9} (h:UW w1 w2 v1 v2) (k:UW v1 v2 u1 u2):UW w1 w2 u1 u2:=by
 obtain⟨D1,D2,h1,h2,h3⟩:=h.ex
 obtain⟨E1,E2,k1,k2,k3⟩:=k.ex
 exact⟨D1++E1,D2++E2,by rw[k1,h1,List.append_assoc],by rw[k2,h2,List.append_assoc],by rw[List.map_append,List.map_append,h3,k3]⟩
structure MM (w1 w2:B9):Prop where
 meth:w1.method=w2.method
 many:w1.many=w2.many
def WR (w1 w2:B9):B9 ⊕ B4->B9 ⊕ B4->Prop
 | .inl v1,.inl v2=>UW w1 w2 v1 v2/\(MM w1 w2->MM v1 v2)
 | .inr _,.inr _=>True
 |_,_=>False
theorem al2 (w1 w2:B9) (a:Int) {i j:Bt} (h:i=j):WR w1 w2 (.inl (putW w1 a i)) (.inl (putW w2 a j)):=by
 subst h
 exact⟨⟨[_],[_],rfl,rfl,rfl⟩,fun h=>⟨h.meth,h.many⟩⟩
theorem WR.refl (w1 w2:B9):WR w1 w2 (.inl w1) (.inl w2):=⟨.refl _ _,id⟩
variable {s1 s2:B7}
theorem aor (h:SR s1 s2) (x:B6) (w1 w2:B9):WR w1 w2 (ac7 s1 x w1) (ac7 s2 x w2):=by
 obtain⟨c1,c2⟩:=h.tab.cls x.Type_
 unfold ac7
 rw[c1]
 split
 ·exact .refl _ _
 ·split
  ·exact al2 _ _ _ c2.id
  ·trivial
theorem aon (h:SR s1 s2) (x:B6) (w1 w2:B9) (hm:MM w1 w2\/decl x=false):WR w1 w2 (aaq s1 x w1) (aaq s2 x w2):=by
  have he:=as1 h x
  unfold aaq
  rw[h.st,h.cl,he.c]
  split
  · trivial
  · split
    · exact .refl _ _
    · split
      · exact al2 _ _ _ rfl
      · split
        · exact al2 _ _ _ rfl
        · split
          · exact al2 _ _ _ rfl
          · split
            · rename_i hd
              rcases hm with hm|hm
              · exact al2 _ _ _ (by rw[hm.meth,hm.many])
              · rw[hm]at hd;cases hd
            · split
              · trivial
              · exact al2 _ _ _ he.e.id
theorem a1t (h:SR s1 s2) (x:B6):SR (innS s1 x) (innS s2 x):=by
 unfold innS
 split
 ·exact⟨h.tab,h.cl,rfl,h.seen⟩
 ·exact h
theorem a1j (h:SR s1 s2) (x:B6) {w1 w2:B9} (hm:MM w1 w2):SR (outS s1 x w1) (outS s2 x w2):=by
 unfold outS
 split
 ·refine⟨h.tab,h.cl,h.st,?_⟩
  rw[List.map_append,List.map_append,h.seen]
  unfold locE
  rw[hm.meth,hm.many]
  rfl
 ·exact h
def WS (w1 w2:B9):WM->WM->Prop
 | .inl p1,.inl p2=>SR p1.1 p2.1/\UW w1 w2 p1.2 p2.2/\MM p1.2 p2.2
 | .inr _,.inr _=>True
 |_,_=>False
theorem a0m (x:B6) {w1 w2:B9} (hm:MM w1 w2):MM (sq x w1) (sq x w2)/\(sq x w1).uses=w1.uses/\(sq x w2).uses=w2.uses:=by
 unfold sq
 split
 ·exact⟨⟨hm.meth,by rw[hm.many]⟩,rfl,rfl⟩
 ·exact⟨hm,rfl,rfl⟩
theorem azu (isC:Bool) (c:Bt) (k:B6) {w1 w2:B9} (hm:MM w1 w2):MM (rp isC c k w1) (rp isC c k w2)/\(rp isC c k w1).uses=w1.uses/\(rp isC c k w2).uses=w2.uses:=by
 unfold rp
 split
 ·exact⟨⟨rfl,rfl⟩,rfl,rfl⟩
 ·exact⟨hm,rfl,rfl⟩
theorem UW.base {w1 w2 v1 v2 u1 u2:B9} (h:UW v1 v2 u1 u2) (h1:v1.uses=w1.uses) (h2:v2.uses=w2.uses):UW w1 w2 u1 u2:=by
 obtain⟨D1,D2,k1,k2,k3⟩:=h.ex
 exact⟨D1,D2,by rw[k1,h1],by rw[k2,h2],k3⟩
theorem atw {n:Nat} (ih:∀(x:B6) (s1 s2:B7) (w1 w2:B9),eh x<=n->SR s1 s2->MM w1 w2->WS w1 w2 (oo x s1 w1) (oo x s2 w2)) (isC:Bool) (c:Bt):
  ∀(r:List B6) (s1 s2:B7) (w1 w2:B9),cm r<=n->SR s1 s2->MM w1 w2->WS w1 w2 (tm r isC c s1 w1) (tm r isC c s2 w2)
 | [],s1,s2,w1,w2,_,h,hm=>by rw[tm,tm];exact⟨h,.refl _ _,hm⟩
 |k::r,s1,s2,w1,w2,hn,h,hm=>by
  simp only[cm]at hn
  obtain⟨m1,m2,m3⟩:=azu isC c k hm
  have g:=ih k s1 s2 _ _ om h m1
  rw[tm,tm]
  cases h1:oo k s1 (rp isC c k w1)<;>cases h2:oo k s2 (rp isC c k w2)<;>rw[h1,h2]at g
  ·rename_i p1 p2
   obtain⟨g1,g2,g3⟩:=g
   have g2:=g2.base m2 m3
   have q:=atw ih isC c r _ _ _ _ om g1 g3
   dsimp only
   cases h3:tm r isC c p1.1 p1.2<;>cases h4:tm r isC c p2.1 p2.2<;>rw[h3,h4]at q
   ·exact⟨q.1,g2.trans q.2.1,q.2.2⟩
   ·exact False.elim q
   ·exact False.elim q
   ·trivial
  ·exact False.elim g
  ·exact False.elim g
  ·trivial
theorem a0y :∀(n:Nat) (x:B6) (s1 s2:B7) (w1 w2:B9),eh x<=n->SR s1 s2->MM w1 w2->WS w1 w2 (oo x s1 w1) (oo x s2 w2):=by
 intro n
 induction n with
 |zero=>intro x _ _ _ _ h;have:=o6 x;omega
 |succ n ih=>
  intro x s1 s2 w1 w2 hn h hm
  have hs:=ko x
  rw[ae8,ae8]
  have a:=aor h x w1 w2
  cases h1:ac7 s1 x w1<;>cases h2:ac7 s2 x w2<;>rw[h1,h2]at a
  ·rename_i v1 v2
   obtain⟨a1,a2⟩:=a
   have a2:=a2 hm
   dsimp only
   have b:WR v1 v2 (aci x s1 v1) (aci x s2 v2):=by
    unfold aci
    split
    ·cases hk:x.Kids with
     |nil=>exact .refl _ _
     |cons f r=>
      rw[hk]at hs
      simp only[cm]at hs
      have g:=ih f s1 s2 v1 v2 om h a2
      dsimp only
      cases h3:oo f s1 v1<;>cases h4:oo f s2 v2<;>rw[h3,h4]at g
      ·exact⟨g.2.1,fun _=>g.2.2⟩
      ·exact False.elim g
      ·exact False.elim g
      ·trivial
    ·exact .refl _ _
   cases h3:aci x s1 v1<;>cases h4:aci x s2 v2<;>rw[h3,h4]at b
   ·rename_i u1 u2
    obtain⟨b1,b2⟩:=b
    have b2:=b2 a2
    dsimp only
    have c:=aon h x u1 u2 (.inl b2)
    cases h5:aaq s1 x u1<;>cases h6:aaq s2 x u2<;>rw[h5,h6]at c
    ·rename_i t1 t2
     obtain⟨c1,c2⟩:=c
     have c2:=c2 b2
     dsimp only
     obtain⟨d1,d2,d3⟩:=a0m x c2
     have hr:cm (rt x)<=n:=by
      have hp:cm (rt x)<=cm x.Kids:=by
       unfold rt
       split
       ·cases x.Kids with
        |nil=>simp[cm]
        |cons f r=>simp[cm]
       ·omega
      omega
     have q:=atw ih (x.Kind==1) s1.Class (rt x) _ _ _ _ hr (a1t h x) d1
     rw[← h.cl]
     cases h7:tm (rt x) (x.Kind==1) s1.Class (innS s1 x) (sq x t1)<;>cases h8:tm (rt x) (x.Kind==1) s1.Class (innS s2 x) (sq x t2)<;>rw[h7,h8]at q
     ·exact⟨a1j h x c2,((a1.trans b1).trans c1).trans (q.2.1.base d2 d3),q.2.2⟩
     ·exact False.elim q
     ·exact False.elim q
     ·trivial
    ·exact False.elim c
    ·exact False.elim c
    ·trivial
   ·exact False.elim b
   ·exact False.elim b
   ·trivial
  ·exact False.elim a
  ·exact False.elim a
  ·trivial
def WT (w1 w2:B9):WM->WM->Prop
 | .inl p1,.inl p2=>SR p1.1 p2.1/\UW w1 w2 p1.2 p2.2
 | .inr _,.inr _=>True
 |_,_=>False
theorem a0j (h:SR s1 s2) {k:B6} (hk:k.Kind=2) (hk2:k.Kids=[]) (w1 w2:B9):WT w1 w2 (oo k s1 w1) (oo k s2 w2):=by
 have hd:decl k=false:=by unfold decl;simp[hk]
 have hh:∀s w,aci k s w= .inl w:=fun s w=>by unfold aci;rw[if_neg (by simp[hk])]
 have hr:rt k=[]:=by unfold rt;rw[if_neg (by simp[hk]),hk2]
 rw[ae8,ae8]
 have a:=aor h k w1 w2
 cases h1:ac7 s1 k w1<;>cases h2:ac7 s2 k w2<;>rw[h1,h2]at a
 ·rename_i v1 v2
  dsimp only
  rw[hh,hh]
  dsimp only
  have c:=aon h k v1 v2 (.inr hd)
  cases h5:aaq s1 k v1<;>cases h6:aaq s2 k v2<;>rw[h5,h6]at c
  ·rename_i t1 t2
   dsimp only
   rw[hr,tm,tm]
   have e1:∀w,sq k w=w:=fun w=>by unfold sq;rw[if_neg (by rw[hd];simp)]
   have e2:∀s w,outS s k w=s:=fun s w=>by unfold outS;rw[if_neg (by rw[hd];simp)]
   unfold finM
   dsimp only
   rw[e1,e1,e2,e2]
   exact⟨h,a.1.trans c.1⟩
  ·exact False.elim c
  ·exact False.elim c
  ·trivial
 ·exact False.elim a
 ·exact False.elim a
 ·trivial
theorem ao3 (c:Bt):∀(r:List B6) (s1 s2:B7) (w1 w2:B9),(∀k∈r,memK k)->SR s1 s2->WT w1 w2 (tm r true c s1 w1) (tm r true c s2 w2)
 | [],s1,s2,w1,w2,_,h=>by rw[tm,tm];exact⟨h,.refl _ _⟩
 |k::r,s1,s2,w1,w2,hm,h=>by
  have g:WT w1 w2 (oo k s1 (rp true c k w1)) (oo k s2 (rp true c k w2)):=by
   rcases hm k List.mem_cons_self with h3|⟨h2,hk⟩
   ·have e:∀w,rp true c k w=B9.mk w.uses w.file (rh c k.Text) 0:=fun w=>by unfold rp;rw[if_pos (by simp[h3])]
    rw[e,e]
    have:=a0y (eh k) k s1 s2 (B9.mk w1.uses w1.file (rh c k.Text) 0) (B9.mk w2.uses w2.file (rh c k.Text) 0) (Nat.le_refl _) h ⟨rfl,rfl⟩
    revert this
    cases oo k s1 (B9.mk w1.uses w1.file (rh c k.Text) 0)<;>cases oo k s2 (B9.mk w2.uses w2.file (rh c k.Text) 0)<;>intro this
    ·exact⟨this.1,this.2.1.base rfl rfl⟩
    ·exact False.elim this
    ·exact False.elim this
    ·trivial
   ·have e:∀w,rp true c k w=w:=fun w=>by unfold rp;rw[if_neg (by simp[h2])]
    rw[e,e]
    exact a0j h h2 hk w1 w2
  rw[tm,tm]
  cases h1:oo k s1 (rp true c k w1)<;>cases h2:oo k s2 (rp true c k w2)<;>rw[h1,h2]at g
  ·rename_i p1 p2
   have q:=ao3 c r p1.1 p2.1 p1.2 p2.2 (fun k hk=>hm k (List.mem_cons_of_mem _ hk)) g.1
   dsimp only
   cases h3:tm r true c p1.1 p1.2<;>cases h4:tm r true c p2.1 p2.2<;>rw[h3,h4]at q
   ·exact⟨q.1,g.2.trans q.2⟩
   ·exact False.elim q
   ·exact False.elim q
   ·trivial
  ·exact False.elim g
  ·exact False.elim g
  ·trivial
theorem aul (h:SR s1 s2) {x:B6} (hx:x.Kind=1) (hm:∀k∈x.Kids,memK k) (w1 w2:B9):WT w1 w2 (oo x s1 w1) (oo x s2 w2):=by
 have hd:decl x=false:=by unfold decl;simp[hx]
 have hh:∀s w,aci x s w= .inl w:=fun s w=>by unfold aci;rw[if_neg (by simp[hx])]
 have hr:rt x=x.Kids:=by unfold rt;rw[if_neg (by simp[hx])]
 have hc:(x.Kind==1)=true:=by simp[hx]
 rw[ae8,ae8]
 have a:=aor h x w1 w2
 cases h1:ac7 s1 x w1<;>cases h2:ac7 s2 x w2<;>rw[h1,h2]at a
 ·rename_i v1 v2
  dsimp only
  rw[hh,hh]
  dsimp only
  have c:=aon h x v1 v2 (.inr hd)
  cases h5:aaq s1 x v1<;>cases h6:aaq s2 x v2<;>rw[h5,h6]at c
  ·rename_i t1 t2
   dsimp only
   have e1:∀w,sq x w=w:=fun w=>by unfold sq;rw[if_neg (by rw[hd];simp)]
   have e2:∀s w,outS s x w=s:=fun s w=>by unfold outS;rw[if_neg (by rw[hd];simp)]
   have e3:∀s,innS s x=s:=fun s=>by unfold innS;rw[if_neg (by simp[hx])]
   rw[hr,hc,e1,e1,e3,e3,← h.cl]
   have q:=ao3 s1.Class x.Kids s1 s2 t1 t2 hm h
   cases h7:tm x.Kids true s1.Class s1 t1<;>cases h8:tm x.Kids true s1.Class s2 t2<;>rw[h7,h8]at q
   ·unfold finM
    dsimp only
    rw[e2,e2]
    exact⟨h,(a.1.trans c.1).trans q.2⟩
   ·exact False.elim q
   ·exact False.elim q
   ·trivial
  ·exact False.elim c
  ·exact False.elim c
  ·trivial
 ·exact False.elim a
 ·exact False.elim a
 ·trivial
end
end Go.Proofs.YtcndghapmoaidaaGreatDoor
set_option linter.unusedSectionVars false
set_option linter.unusedVariables false
set_option linter.unusedSimpArgs false
set_option maxRecDepth 100000
set_option maxHeartbeats 4000000
namespace Go.Proofs.YtcndghapmoaidaaGreatDoor
noncomputable section
open Go Go.Cn
variable [Glob]
theorem anr {α β:Type} {E:Nat->α->List β} {y:β}:∀{r:List α} {i:Nat},y∈catF E i r->∃j x,x∈r/\y∈E j x
 |x::r,i,h=>by
  unfold catF at h
  rcases List.mem_append.1 h with h|h
  ·exact⟨i,x,List.mem_cons_self,h⟩
  ·obtain⟨j,z,h1,h2⟩:=anr h
   exact⟨j,z,List.mem_cons_of_mem _ h1,h2⟩
theorem avu (files:List (List B6)):∀e∈entA files,e.Kind=1->e.Owner=[]/\e.Name=e.Id:=by
 intro e he h1
 obtain⟨f,file,_,he⟩:=anr he
 obtain⟨_,c,_,he⟩:=anr he
 unfold entC at he
 split at he
 ·rcases List.mem_cons.1 he with rfl|he
  ·exact⟨rfl,rfl⟩
  ·obtain⟨_,k,_,he⟩:=anr he
   unfold entK at he
   split at he
   ·rw[List.mem_singleton.1 he]at h1
    exact absurd h1 (by unfold agw;simp)
   ·split at he
    ·rcases List.mem_cons.1 he with rfl|he
     ·exact absurd h1 (by unfold arw;simp)
     ·rw[aoo _ _ _ e he]at h1
      cases h1
    ·cases he
 ·cases he
theorem TR.self {T:List B0} (hn:NoC T) (hc:∀e∈T,e.Kind=1->e.Owner=[]/\e.Name=e.Id):TR T T:=⟨.refl _,hn,hc⟩
theorem anz {P:B6->Prop} {files:List (List B6)}:(∀file∈files,∀c∈file,P c)↔∀c∈files.flatten,P c:=
 ⟨fun h c hc=>by obtain⟨l,h1,h2⟩:=List.mem_flatten.1 hc;exact h l h1 c h2,fun h l h1 c h2=>h c (List.mem_flatten.2 ⟨l,h1,h2⟩)⟩
theorem aum {α β:Type} (E:α->List β):∀(r:List α) (i:Nat),catF (fun _ x=>E x) i r=r.flatMap E
 | [],_=>rfl
 |x::r,i=>by unfold catF;rw[aum E r (i+1),List.flatMap_cons]
theorem amx {α β:Type} (E:α->List β):∀files:List (List α),files.flatMap (fun l=>l.flatMap E)=files.flatten.flatMap E
 | []=>rfl
 |l::r=>by rw[List.flatMap_cons,amx E r,List.flatten_cons,List.flatMap_append]
theorem ao4 {α β γ:Type} (E:α->List β) (g:β->γ):∀l:List α,(l.flatMap E).map g=l.flatMap fun x=>(E x).map g
 | []=>rfl
 |x::r=>by rw[List.flatMap_cons,List.flatMap_cons,List.map_append,ao4 E g r]
theorem ay1 (files:List (List B6)):(entA files).map sg=files.flatten.flatMap fun c=>(entC 0 c).map sg:=by
 unfold entA
 rw[ay2 files 0,← amx]
 congr 1
 funext l
 unfold a2n
 rw[aum,ao4]
structure Turn (A B:List (List B6)):Prop where
 fa:D7 A
 fb:D7 B
 perm:A.flatten.Perm B.flatten
theorem Turn.symm {A B:List (List B6)} (h:Turn A B):Turn B A:=⟨h.fb,h.fa,h.perm.symm⟩
theorem TR.turn {A B:List (List B6)} (h:Turn A B) (hn:NoC (entA A)):TR (entA A) (entA B):=by
 refine⟨?_,hn,avu A⟩
 rw[ay1,ay1]
 exact h.perm.flatMap_right _
theorem az7 (files:List (List B6)):au8 files↔∀c∈files.flatten,atl c:=by
 unfold au8
 rw[← anz,show allF (fun _ file=>allF (fun _ c=>atl c) 0 file) 0 files↔∀l∈files,allF (fun _ c=>atl c) 0 l from amm _ _]
 exact forall_congr' fun l=>forall_congr' fun _=>amm _ _
def w0 :B9:=B9.mk [] 0 [] 0
def runC (T:List B0) (c:B6):WM:=oo c (B7.mk T c.Text false []) w0
def okc (T:List B0) (c:B6):Prop:=c.Kind=1->∃p,runC T c= .inl p
def an3 (T:List B0) (c:B6):List (Int × Bt):=if c.Kind=1 then(match runC T c with| .inl p=>p.2.uses.map uc| .inr _=>[])else[]
theorem at0 {T1 T2:List B0} (h:TR T1 T2) (c:Bt):SR (B7.mk T1 c false []) (B7.mk T2 c false []):=⟨h,rfl,rfl,rfl⟩
theorem UW.maps {w1 w2 v1 v2:B9} (h:UW w1 w2 v1 v2) (h2:w2.uses=[]):v1.uses.map uc=w1.uses.map uc++v2.uses.map uc:=by
 obtain⟨D1,D2,e1,e2,e3⟩:=h.ex
 rw[e1,e2,h2,List.nil_append,List.map_append,e3]
theorem a16 {T1 T2:List B0} (h:TR T1 T2) {c:B6} (hm:∀k∈c.Kids,memK k):(okc T1 c↔okc T2 c)/\an3 T1 c=an3 T2 c:=by
 unfold okc an3
 by_cases h1:c.Kind=1
 ·have g:=aul (at0 h c.Text) h1 hm w0 w0
  unfold runC
  rw[if_pos h1,if_pos h1]
  cases e1:oo c (B7.mk T1 c.Text false []) w0<;>cases e2:oo c (B7.mk T2 c.Text false []) w0<;>rw[e1,e2]at g
  ·refine⟨⟨fun _ _=>⟨_,rfl⟩,fun _ _=>⟨_,rfl⟩⟩,?_⟩
   have:=g.2.maps rfl
   exact this
  ·exact False.elim g
  ·exact False.elim g
  ·exact⟨⟨fun h=>(by obtain⟨p,hp⟩:=h h1;cases hp),fun h=>(by obtain⟨p,hp⟩:=h h1;cases hp)⟩,rfl⟩
 ·rw[if_neg h1,if_neg h1]
  exact⟨⟨fun _ h=>absurd h h1,fun _ h=>absurd h h1⟩,rfl⟩
theorem a0z {T:List B0} (h:TR T T) {c:B6} (hm:c.Kind=1->∀k∈c.Kids,memK k) (w:B9):
  match useC T w c with| .inl w'=>okc T c/\w'.uses.map uc=w.uses.map uc++an3 T c| .inr _=>¬okc T c:=by
 unfold useC okc an3
 by_cases h1:c.Kind=1
 ·have g:=aul (at0 h c.Text) h1 (hm h1) w w0
  unfold runC
  rw[if_pos (show(c.Kind==1)=true by simp[h1]),if_pos h1]
  cases e1:oo c (B7.mk T c.Text false []) w<;>cases e2:oo c (B7.mk T c.Text false []) w0<;>rw[e1,e2]at g
  ·exact⟨fun _=>⟨_,rfl⟩,g.2.maps rfl⟩
  ·exact False.elim g
  ·exact False.elim g
  ·rintro h
   obtain⟨p,hp⟩:=h h1
   cases hp
 ·rw[if_neg (show ¬(c.Kind==1)=true by simpa using h1),if_neg h1]
  exact⟨fun h=>absurd h h1,by simp⟩
theorem aso {α:Type} {g:Nat->B9->α->B9 ⊕ B4} (P:α->Prop) (E:α->List (Int × Bt)) (hg:∀i w x,match g i w x with| .inl w'=>P x/\w'.uses.map uc=w.uses.map uc++E x| .inr _=>¬P x):
  ∀(r:List α) (i:Nat) (w:B9),match rowF g i r w with| .inl w'=>(∀x∈r,P x)/\w'.uses.map uc=w.uses.map uc++r.flatMap E| .inr _=>¬∀x∈r,P x
 | [],_,w=>⟨fun _ h=>(by cases h),by simp⟩
 |x::r,i,w=>by
  have a:=hg i w x
  unfold rowF
  cases h1:g i w x with
  |inl w'=>
   rw[h1]at a
   have b:=aso P E hg r (i+1) w'
   dsimp only
   cases h2:rowF g (i+1) r w' with
   |inl w2=>
    rw[h2]at b
    refine⟨fun y hy=>?_,?_⟩
    ·rcases List.mem_cons.1 hy with rfl|hy
     ·exact a.1
     ·exact b.1 y hy
    ·rw[b.2,a.2,List.flatMap_cons,List.append_assoc]
   |inr m=>
    rw[h2]at b
    exact fun h=>b fun y hy=>h y (List.mem_cons_of_mem _ hy)
  |inr m=>
   rw[h1]at a
   exact fun h=>a (h x List.mem_cons_self)
theorem asp {α τ γ:Type} {g g':Nat->τ->α->τ ⊕ γ}:∀(r:List α) (i:Nat) (t:τ),(∀i t,∀x∈r,g i t x=g' i t x)->rowF g i r t=rowF g' i r t
 | [],_,_,_=>rfl
 |x::r,i,t,h=>by
  unfold rowF
  rw[h i t x List.mem_cons_self]
  cases g' i t x with
  |inl t'=>exact asp r (i+1) t' fun i t y hy=>h i t y (List.mem_cons_of_mem _ hy)
  |inr e=>rfl
def goodC (c:B6):Prop:=c.Kind=1->∀k∈c.Kids,memK k
theorem av7 {files:List (List B6)} (hF:D7 files) {T:List B0} (h:TR T T):
  match aku T files with| .inl w=>(∀file∈files,∀c∈file,okc T c)/\w.uses.map uc=files.flatMap (fun file=>file.flatMap (an3 T))| .inr _=>¬∀file∈files,∀c∈file,okc T c:=by
 classical
 have hgood:∀file∈files,∀c∈file,goodC c:=fun file hf c hc _=>((hF.each _ hf).2.2 c hc).2.2
 let gC:B9->B6->B9 ⊕ B4:=fun w c=>if goodC c then useC T w c else(if okc T c then .inl (B9.mk (w.uses++(an3 T c).map fun p=>B8.mk 0 p.1 p.2) w.file w.method w.many)else .inr (B4.mk 0 0 0))
 have hC:∀w c,match gC w c with| .inl w'=>okc T c/\w'.uses.map uc=w.uses.map uc++an3 T c| .inr _=>¬okc T c:=fun w c=>by
  by_cases hg:goodC c
  ·simp only[gC,if_pos hg]
   exact a0z h hg w
  ·simp only[gC,if_neg hg]
   by_cases ho:okc T c
   ·simp only[if_pos ho]
    refine⟨ho,?_⟩
    rw[List.map_append,List.map_map]
    congr 1
    have:(uc ∘ fun p:Int × Bt=>B8.mk 0 p.1 p.2)=id:=by funext p;rfl
    rw[this,List.map_id]
   ·simp only[if_neg ho]
    exact ho
 have e:aku T files=rowF (fun f w file=>rowF (fun _ w c=>gC w c) 0 file (B9.mk w.uses f w.method w.many)) 0 files (B9.mk [] 0 [] 0):=by
  unfold aku
  refine asp files 0 _ fun f w file hf=>?_
  unfold useF
  refine asp file 0 _ fun _ w c hc=>?_
  simp only[gC,if_pos (hgood file hf c hc)]
 rw[e]
 have:=aso (g:=fun f w file=>rowF (fun _ w c=>gC w c) 0 file (B9.mk w.uses f w.method w.many)) (fun file=>∀c∈file,okc T c) (fun file=>file.flatMap (an3 T)) (fun f w file=>aso (g:=fun _ w c=>gC w c) (okc T) (an3 T) (fun _ w c=>hC w c) file 0 (B9.mk w.uses f w.method w.many)) files 0 (B9.mk [] 0 [] 0)
 exact this
theorem azm {files:List (List B6)} (hF:D7 files) {r:List B8 × B4} (hr:au9 files r):
    (r.2.Code=0/\NoC (entA files)/\au8 files/\(adc (entA files)).Code=0/\(∀file∈files,∀c∈file,okc (entA files) c)/\(r.1.map uc).Perm (files.flatMap fun file=>file.flatMap (an3 (entA files))))\/
    (r.2.Code≠0/\r.1=[]/\¬(NoC (entA files)/\au8 files/\(adc (entA files)).Code=0/\∀file∈files,∀c∈file,okc (entA files) c)):=by
  unfold au9 at hr
  cases ht:tab files with
  |inr m=>
    rw[ht]at hr
    have hr:r=([],m):=hr
    right
    refine⟨by rw[hr];rw[ay0 ht];decide,by rw[hr],fun⟨a,b,_⟩=>?_⟩
    rw[(ank files _).2 ⟨a,b,rfl⟩]at ht
    cases ht
  |inl l=>
    obtain⟨a,b,rfl⟩:=(ank files l).1 ht
    obtain⟨hl,_⟩:=anl hF ht
    rw[ht]at hr
    dsimp only at hr
    by_cases hc:(adc (entA files)).Code=0
    · rw [if_neg (by simp [hc])] at hr
      have g:=av7 hF (TR.self a (avu files))
      cases hg:aku (entA files) files with
      |inr m=>
        rw[hg]at hr g
        have hr:r=([],m):=hr
        right
        refine⟨?_,by rw[hr],fun⟨_,_,_,h⟩=>g h⟩
        rw[hr]
        unfold aku at hg
        have key:∀(fs:List (List B6)) (i n:Nat) (w:B9),(∀x∈fs,x∈files)->WB w n->n+nsz fs<=9000->∀m,rowF (useF (entA files)) i fs w= .inr m->m.Code≠0:=by
          intro fs
          induction fs with
          |nil=>intro i n w _ _ _ m h;cases h
          |cons file fs ih=>
            intro i n w hs hw hn m h
            obtain⟨hB,hN,_⟩:=hF.each file (hs _ List.mem_cons_self)
            simp only[nsz]at hn
            have inner:∀(r:List B6) (j n:Nat) (w:B9),okBL 1500 r->(∀c∈r,eh c<=1500)->WB w n->n+cm r<=9000->(∀m,rowF (fun _ w c=>useC (entA files) w c) j r w= .inr m->m.Code≠0)/\∀w',rowF (fun _ w c=>useC (entA files) w c) j r w= .inl w'->WB w' (n+cm r):=by
              intro r
              induction r with
              |nil=>intro j n w _ _ hw _;exact⟨fun m h=>(by cases h),fun w' h=>(by cases h;simpa [cm] using hw)⟩
              |cons c r ih2=>
                intro j n w hB hN hw hn
                simp only[okBL,cm]at hB hn
                have hc:=hN c List.mem_cons_self
                unfold rowF
                try dsimp only
                cases hu:useC (entA files) w c with
                |inr m'=>exact⟨fun m h=>(by cases h;exact a00 hl hB.1 om hw om hu),fun w' h=>(by cases h)⟩
                |inl w'=>
                  have g:=ih2 (j+1) (n+eh c) w' hB.2 (fun x hx=>hN x (List.mem_cons_of_mem _ hx)) (ayw hl hB.1 om hw om hu) om
                  refine⟨g.1,fun w2 h=>?_⟩
                  have:=g.2 w2 h
                  simp only[cm]
                  rwa [← Nat.add_assoc]
            unfold rowF at h
            have gi:=inner file 0 n (B9.mk w.uses i w.method w.many) hB hN ⟨hw.uses,hw.many,hw.many2,hw.meth⟩ om
            cases hu:useF (entA files) i w file with
            |inr m'=>rw[hu]at h;cases h;exact gi.1 _ hu
            |inl w'=>
              rw[hu]at h
              exact ih (i+1) _ w' (fun x hx=>hs x (List.mem_cons_of_mem _ hx)) (gi.2 w' hu) om m h
        have h9:=hF.all
        exact key files 0 0 _ (fun _ h=>h) ⟨by simp,by simp,by simp,by simp⟩ om m hg
      |inl w=>
        rw[hg]at hr g
        obtain⟨h1,h2,h3,h4⟩:=hr
        left
        refine⟨by rw[h1];rfl,a,b,hc,g.1,?_⟩
        rw[← g.2]
        exact(h3.perm.map uc).symm
    · rw[if_pos hc]at hr
      right
      exact⟨by rw[hr];exact hc,by rw[hr],fun⟨_,_,h,_⟩=>hc h⟩
theorem D7.mem {files:List (List B6)} (hF:D7 files):∀c∈files.flatten,∀k∈c.Kids,memK k:=
 anz.1 fun _ hf c hc=>((hF.each _ hf).2.2 c hc).2.2
def OkA (files:List (List B6)):Prop:=NoC (entA files)/\au8 files/\(adc (entA files)).Code=0/\∀file∈files,∀c∈file,okc (entA files) c
theorem OkA.turn {A B:List (List B6)} (h:Turn A B) (o:OkA A):OkA B:=by
 obtain⟨o1,o2,o3,o4⟩:=o
 have ht:=TR.turn h o1
 refine⟨a2e ht.perm o1,?_,by rw[← ht.check];exact o3,?_⟩
 ·rw[az7]at o2 ⊢
  exact fun c hc=>o2 c (h.perm.symm.subset hc)
 ·rw[anz]at o4 ⊢
  exact fun c hc=>(a16 ht (h.fb.mem c hc)).1.1 (o4 c (h.perm.symm.subset hc))
theorem av9 {α:Type} (l:List (List α)):l.flatten.Perm l.reverse.flatten:=(List.reverse_perm l).symm.flatten
theorem nsz_app (a b:List (List B6)):nsz (a++b)=nsz a+nsz b:=by
 induction a with
 |nil=>simp[nsz]
 |cons x r ih=>simp only[List.cons_append,nsz,ih];omega
theorem aza :∀l:List (List B6),nsz l.reverse=nsz l
 | []=>rfl
 |x::r=>by rw[List.reverse_cons,nsz_app,aza r];simp only[nsz];omega
theorem D7.turn {files:List (List B6)} (h:D7 files):Turn files files.reverse:=
 ⟨h,⟨by simpa using h.six,fun l hl=>h.each l (by simpa using hl),by rw[aza];exact h.all⟩,av9 files⟩
end
end Go.Proofs.YtcndghapmoaidaaGreatDoor
set_option linter.unusedSectionVars false
set_option linter.unusedVariables false
set_option linter.unusedSimpArgs false
set_option maxRecDepth 100000
set_option maxHeartbeats 4000000
namespace Go.Proofs.YtcndghapmoaidaaGreatDoor
noncomputable section
open Go Go.Cn
variable [Glob]
inductive Reach (l:List B0):Bt->Bt->Prop
 |self {a:Bt}:(cls l a).2=true->Reach l a a
 |up {a b:Bt}:(cls l a).2=true->Reach l (cls l a).1.Type_ b->Reach l a b
theorem Reach.trans {l:List B0} {a b c:Bt} (h:Reach l a b) (h2:Reach l b c):Reach l a c:=by
 induction h with
 |self _=>exact h2
 |up h _ ih=>exact .up h (ih h2)
theorem Reach.closed {l:List B0} {told:List Bt} (hy:∀y∈told,(cls l y).1.Type_∈told) {a x:Bt} (h:Reach l a x):a∈told->x∈told:=by
 induction h with
 |self _=>exact fun h=>h
 |up _ _ ih=>exact fun h=>ih (hy _ h)
section
variable {l:List B0} {n:Int} (hl:TabP n l)
include hl
end
theorem az5 (texts:List Bt):Ok (fun r:List (List B6) × Bool=>r.2=true->r.1.length<=6/\∀f∈r.1,ar1 1500 f) (acv texts):=by
 unfold acv aac
 refine .dec (fun _=> .mk fun h=>by cases h) fun h6=> .bd (P:=ajo (fun l=>l.length<=6/\∀f∈l,ar1 1500 f) (fun r=>r.2=false)) (.row (l:=texts) (fun i s=>s.length=i/\∀f∈s,ar1 1500 f) om (fun i hi s h1=>?_) (fun i s hi h1=>?_) ⟨rfl,fun _ h=>by cases h⟩) fun z hz=>by
  cases z with
  |next l=>exact .mk fun _=>hz
  |done r=>exact .mk fun h=>by rw[show r.2=false from hz]at h;cases h
 ·dsimp only
  unfold r9
  rw[if_pos (len_lt hi),afz hi,Option.bind_some]
  refine .dec (fun _=> .mk rfl) fun hl=>?_
  rw[Option.bind_some]
  refine .bd (File_ok (M:=1500) om om) ?_
  rintro⟨l,m⟩ hF
  refine .cond (fun _=> .mk rfl) fun hm=> .bd (app_ok so so) fun r hr=> .mk ⟨agu om,?_⟩
  have hF:=hF (by simpa using hm)
  subst hr
  refine⟨by simp[h1.1],fun f hf=>?_⟩
  rcases List.mem_append.1 hf with hf|hf
  ·exact h1.2 f hf
  ·obtain rfl:=List.mem_singleton.1 hf
   exact hF
 ·dsimp only
  unfold r9
  rw[if_neg (by simpa using hi)]
  exact .mk ⟨by omega,h1.2⟩
end
end Go.Proofs.YtcndghapmoaidaaGreatDoor
set_option linter.unusedSectionVars false
set_option linter.unusedVariables false
set_option linter.unusedSimpArgs false
set_option maxRecDepth 100000
set_option maxHeartbeats 4000000
namespace Go.Proofs.YtcndghapmoaidaaGreatDoor
noncomputable section
open Go Go.Cn
variable [Glob]
abbrev TQ :=PX D0 Unit
def Alike :TQ->TQ->Prop
 | .ok _,.ok _=>True
 | .bad m,.bad n=>m.m.Code≠0/\n.m.Code≠0
 |_,_=>False
def Two (a b:Option TQ):Prop:=∃x y,a=some x/\b=some y/\Alike x y
theorem Two.ok:Two (some (.ok ())) (some (.ok ())):=⟨_,_,rfl,rfl,trivial⟩
theorem Two.bq {a b k1 k2:Option TQ} (h:Two a b) (k:Two k1 k2):Two (l4 a (fun m=>some (.bad m)) fun _=>k1) (l4 b (fun m=>some (.bad m)) fun _=>k2):=by
 obtain⟨x,y,rfl,rfl,h⟩:=h
 cases x<;>cases y
 ·exact k
 ·exact h.elim
 ·exact h.elim
 ·exact⟨_,_,rfl,rfl,h⟩
theorem Two.end {a b:Option TQ} (h:Two a b):Two (l4 a (fun m=>some (.bad m)) fun _=>some (.ok ())) (l4 b (fun m=>some (.bad m)) fun _=>some (.ok ())):=h.bq .ok
theorem Two.cond {p q:Prop} [Decidable p] [Decidable q] {a b c d:Option TQ} (e:p↔q) (h1:p->Two a c) (h2:¬p->Two b d):Two (if p then a else b) (if q then c else d):=by
 by_cases h:p
 ·rw[if_pos h,if_pos (e.1 h)];exact h1 h
 ·rw[if_neg h,if_neg fun q=>h (e.2 q)];exact h2 h
def Sm {α:Type} (a b:Option α):Prop:=∃v,a=some v/\b=some v
theorem Two.sm {α:Type} {a b:Option α} {k1 k2:α->Option TQ} (h:Sm a b) (k:∀v,Two (k1 v) (k2 v)):Two (a.bind k1) (b.bind k2):=by
 obtain⟨v,rfl,rfl⟩:=h
 exact k v
structure CR (m:Nat) (c1 c2:C8):Prop where
 sc:SR c1.Scope c2.Scope
 kind:c1.kind=c2.kind
 tab:c1.Scope.Table.length<=9000
 seen:c1.Scope.Seen.length<=m
theorem CR.seen2 {m:Nat} {c1 c2:C8} (h:CR m c1 c2):c2.Scope.Seen.length<=m:=by
 have:=congrArg List.length h.sc.seen
 have:=h.seen
 simp only[List.length_map]at *
 omega
theorem CR.tab2 {m:Nat} {c1 c2:C8} (h:CR m c1 c2):c2.Scope.Table.length<=9000:=by
 rw[← h.sc.tab.len]
 exact h.tab
theorem aas (c1 c2:C8) (b:Bool) {code:Int} (at_:Int) (hc:code≠0):Two (du c1 b code at_) (du c2 b code at_):=by
 unfold du
 cases b
 ·exact⟨_,_,rfl,rfl,hc,hc⟩
 ·exact .ok
section
variable {m:Nat} {c1 c2:C8} (h:CR m c1 c2) (hm:m<=100000)
include h hm
theorem al0 {x:B6} (hx:eh x<=100000):Sm (k8 c1.Scope x) (k8 c2.Scope x):=by
 have:=h.tab;have:=h.tab2;have:=h.seen;have:=h.seen2
 rw[am0 om om om,am0 om om om,awk h.sc]
 exact⟨_,rfl,rfl⟩
theorem awo {x:B6} (hx:eh x<=100000):Sm (jv c1 x) (jv c2 x):=by
 have:=h.tab;have:=h.tab2;have:=h.seen;have:=h.seen2
 unfold jv lr
 rw[xq om om om,xq om om om,Option.bind_some,Option.bind_some]
 dsimp only
 rw[(as1 h.sc x).e.kind]
 split<;>exact⟨_,rfl,rfl⟩
omit hm in
theorem ayj (a b:Bt):Sm (o5 c1.Scope.Table a b) (o5 c2.Scope.Table a b):=by
 have:=h.tab;have:=h.tab2
 rw[vg om,vg om]
 refine⟨_,rfl,?_⟩
 unfold may
 rw[(h.sc.tab.cls a).1,(h.sc.tab.cls b).1,h.sc.tab.below]
omit hm in
theorem sm_op (o a b:Bt):Sm (jz c1.Scope.Table o a b) (jz c2.Scope.Table o a b):=by
 have ht:=h.tab
 obtain⟨r,e⟩:∃r,jz c1.Scope.Table o a b=some r:=by
  have i:∀{p:Prop} [Decidable p] {x y:Option Bt},(∃r,x=some r)->(∃r,y=some r)->∃r,(if p then x else y)=some r:=fun {p} _ {x y} h k=>by
   by_cases g:p
   ·rw[if_pos g];exact h
   ·rw[if_neg g];exact k
  unfold jz i5 j7 mr ms mt
  have o1:∀t,∃v,k9 t a b=some v:=fun t=>by
   unfold k9 mx
   split<;>exact⟨_,rfl⟩
  obtain⟨v1,e1⟩:=o1 [105,110,116]
  obtain⟨v2,e2⟩:=o1 [98,111,111,108,101,97,110]
  obtain⟨v3,e3⟩:=o1 [110,117,108,108]
  rw[vg om,vg om]
  simp only[Option.bind_some,e1,e2,e3]
  repeat' first|exact⟨_,rfl⟩|apply i
 refine⟨r,e,?_⟩
 rw[← e]
 have hq:∀a b,o5 c2.Scope.Table a b=o5 c1.Scope.Table a b:=fun a b=>by
  obtain⟨v,e1,e2⟩:=ayj h a b
  rw[e1,e2]
 unfold jz i5 j7 mr ms
 simp only[hq]
end
theorem ahg {x:B6} (h:1<=x.Kids.length):∃k,idx x.Kids 0=some k/\k∈x.Kids:=by
 cases hk:x.Kids with
 |nil=>rw[hk]at h;simp at h
 |cons a r=>exact⟨a,rfl,List.mem_cons_self⟩
theorem azd {x:B6} (h:2<=x.Kids.length):∃k r,x.Kids=k::r/\∃l,idx x.Kids 1=some l/\l∈x.Kids/\idx x.Kids 0=some k:=by
 cases hk:x.Kids with
 |nil=>rw[hk]at h;simp at h
 |cons a r=>
  cases r with
  |nil=>rw[hk]at h;simp at h
  |cons b r=>exact⟨a,_,rfl,b,rfl,by simp,rfl⟩
theorem ayz {x:B6} (h:1<=x.Kids.length):∃k r,x.Kids=k::r/\subL x.Kids 1 (x.Kids.length:Int)=some r:=by
 cases hk:x.Kids with
 |nil=>rw[hk]at h;simp at h
 |cons a r=>
  refine⟨a,r,rfl,?_⟩
  unfold subL
  rw[if_pos ⟨by omega,by simp;omega,by simp⟩]
  simp
def Stp {τ ρ:Type} (R:τ->τ->Prop) (a b:Option (τ ⊕ Flow ρ TQ)):Prop:=
 (∃s t,a=some (.inl s)/\b=some (.inl t)/\R s t)\/∃m n,a=some (.inr (.done (.bad m)))/\b=some (.inr (.done (.bad n)))/\m.m.Code≠0/\n.m.Code≠0
theorem Stp.bq {τ ρ:Type} {R:τ->τ->Prop} {a b:Option TQ} {k1 k2:Option (τ ⊕ Flow ρ TQ)} (h:Two a b) (k:Stp R k1 k2):Stp R (l4 a (fun m=>some (.inr (.done (.bad m)))) fun _=>k1) (l4 b (fun m=>some (.inr (.done (.bad m)))) fun _=>k2):=by
 obtain⟨x,y,rfl,rfl,h⟩:=h
 cases x<;>cases y
 ·exact k
 ·exact h.elim
 ·exact h.elim
 ·exact .inr ⟨_,_,rfl,rfl,h⟩
theorem Stp.sm {τ ρ α:Type} {R:τ->τ->Prop} {a b:Option α} {k1 k2:α->Option (τ ⊕ Flow ρ TQ)} (h:Sm a b) (k:∀v,Stp R (k1 v) (k2 v)):Stp R (a.bind k1) (b.bind k2):=by
 obtain⟨v,rfl,rfl⟩:=h
 exact k v
theorem Stp.go {τ ρ:Type} {R:τ->τ->Prop} {s t:τ} (h:R s t):Stp (ρ:=ρ) R (some (.inl s)) (some (.inl t)):= .inl ⟨_,_,rfl,rfl,h⟩
theorem an7 {α τ ρ:Type} {l:List α} {f1 f2:τ->Option (τ ⊕ Flow ρ TQ)} (I:Nat->τ->τ->Prop) (step:∀i x s t,l[i]? =some x->I i s t->Stp (I (i+1)) (f1 s) (f2 t))
  (fin:∀s t,I l.length s t->∃p q,f1 s=some (.inr (.next p))/\f2 t=some (.inr (.next q))):
  ∀(n i:Nat) (s t:τ),n+i=l.length->I i s t->∃o1 o2,iter f1 s=some o1/\iter f2 t=some o2/\((∃p q,o1= .next p/\o2= .next q)\/∃m n,o1= .done (.bad m)/\o2= .done (.bad n)/\m.m.Code≠0/\n.m.Code≠0)
 | 0,i,s,t,hn,h=>by
  obtain rfl:i=l.length:=by omega
  obtain⟨p,q,e1,e2⟩:=fin s t h
  exact⟨_,_,dj e1,dj e2,.inl ⟨_,_,rfl,rfl⟩⟩
 |n+1,i,s,t,hn,h=>by
  have hx:l[i]? =some l[i]:=List.getElem?_eq_getElem om
  rcases step i _ s t hx h with⟨s',t',e1,e2,h'⟩|⟨m,k,e1,e2,h'⟩
  ·rw[g7 e1,g7 e2]
   exact an7 I step fin n (i+1) s' t' om h'
  ·exact⟨_,_,dj e1,dj e2,.inr ⟨_,_,rfl,rfl,h'⟩⟩
abbrev okx (x:B6) (k:Nat):Prop:=okB 1500 x/\eh x<=1500/\2 * eh x<=k
structure EX (R:bk) (k:Nat):Prop where
 ex:∀{m:Nat} {c1 c2:C8} {x:B6} (b:Bool),CR m c1 c2->m<=100000->okx x k->Two (R.1 c1 x b) (R.1 c2 x b)
 want:∀{m:Nat} {c1 c2:C8} {x:B6} (w:List Bt),CR m c1 c2->m<=100000->okx x (k - 1)->w.length<=9->Two (R.2.1 c1 x w) (R.2.1 c2 x w)
 args:∀{m:Nat} {c1 c2:C8} {x:B6} (l:List B6),CR m c1 c2->m<=100000->eh x<=1500->okBL 1500 l->cm l<=1500->2 * cm l+1<=k->Two (R.2.2 c1 x l) (R.2.2 c2 x l)
theorem kid_ok {x k:B6} {n:Nat} (h:okB 1500 x) (hn:eh x<=1500) (h2:2 * eh x<=n+1) (hk:k∈x.Kids):okx k (n - 1):=by
 rw[akt]at h
 have:=aed hk
 have:=ko x
 exact⟨ri h.2.1 hk,by omega,by omega⟩
section
variable {R:bk} {k m:Nat} (hR:EX R k) {c1 c2:C8} (h:CR m c1 c2) (hm:m<=100000)
include hR h hm
theorem a02 {x:B6} (w:List Bt) (hx:okx x k) (hw:w.length<=9):Two (mf R c1 x w) (mf R c2 x w):=by
 unfold mf
 refine .bq (hR.ex false h hm hx) (.sm (al0 h hm (by have:=hx.2.1;omega)) fun v=>?_)
 rw[akk om]
 exact .end (aas _ _ _ _ dcd)
theorem a05 {x:B6} (l:List B6) (hx:eh x<=1500) (hl:okBL 1500 l) (hn:cm l<=1500) (hk:2 * cm l<=k):Two (i7 R c1 x l) (i7 R c2 x l):=by
 have hll:=mb l
 unfold i7
 obtain⟨o1,o2,e1,e2,ho⟩:=an7 (l:=l) (f1:=fk R l c1) (f2:=fk R l c2) (fun i s t=>s=(i:Int)/\t=(i:Int)) (fun i y s t hy hI=>by
  obtain⟨rfl,rfl⟩:=hI
  have:=ack hy
  have:=tp hy
  unfold fk
  rw[if_pos (ki hy),if_pos (ki hy),ib hy,Option.bind_some,Option.bind_some]
  refine .bq (hR.ex false h hm ⟨ri hl (jn hy),by omega,by omega⟩) ?_
  rw[agu om]
  exact .go ⟨rfl,rfl⟩) (fun s t hI=>by
  obtain⟨rfl,rfl⟩:=hI
  unfold fk
  rw[if_neg (kj (Nat.le_refl _)),if_neg (kj (Nat.le_refl _))]
  exact⟨_,_,rfl,rfl⟩) l.length 0 0 0 om ⟨rfl,rfl⟩
 rw[e1,e2,Option.bind_some,Option.bind_some]
 rcases ho with⟨p,q,rfl,rfl⟩|⟨a,b,rfl,rfl,ho⟩
 ·dsimp only
  unfold mj
  have t1:=h.tab;have t2:=h.tab2;have s1:=h.seen;have s2:=h.seen2
  rw[xq om om om,xq om om om,Option.bind_some,Option.bind_some]
  have hp:=(as1 h.sc x).e.params
  revert hp
  generalize entM c1.Scope x=a
  generalize entM c2.Scope x=b
  obtain⟨a,a'⟩:=a
  obtain⟨b,b'⟩:=b
  intro hp
  dsimp only at hp ⊢
  rw[hp]
  by_cases hq:((l.length:Int)==(b.Params.length:Int))=true
  ·refine .bq (aas _ _ _ _ dcd) ?_
   have hq:l.length=b.Params.length:=by have:=eq_of_beq hq;omega
   obtain⟨o1,o2,e1,e2,ho⟩:=an7 (l:=l) (f1:=fm R l c1 a) (f2:=fm R l c2 b) (fun i s t=>s=(i:Int)/\t=(i:Int)) (fun i y s t hy hI=>by
    obtain⟨rfl,rfl⟩:=hI
    have:=ack hy
    have:=tp hy
    have hb:b.Params[i]? =some b.Params[i]:=List.getElem?_eq_getElem om
    unfold fm
    rw[if_pos (ki hy),if_pos (ki hy),ib hy,Option.bind_some,Option.bind_some]
    refine .sm (al0 h hm om) fun v=>?_
    rw[hp,ib hb,Option.bind_some,Option.bind_some]
    refine .sm (ayj h _ _) fun v=> .bq (aas _ _ _ _ dcd) ?_
    rw[agu om]
    exact .go ⟨rfl,rfl⟩) (fun s t hI=>by
    obtain⟨rfl,rfl⟩:=hI
    unfold fm
    rw[if_neg (kj (Nat.le_refl _)),if_neg (kj (Nat.le_refl _))]
    exact⟨_,_,rfl,rfl⟩) l.length 0 0 0 om ⟨rfl,rfl⟩
   rw[e1,e2,Option.bind_some,Option.bind_some]
   rcases ho with⟨p,q,rfl,rfl⟩|⟨a,b,rfl,rfl,ho⟩
   ·exact .ok
   ·exact⟨_,_,rfl,rfl,ho⟩
  ·rw[Bool.eq_false_iff.2 hq]
   exact⟨_,_,rfl,rfl,by simp,by simp⟩
 ·exact⟨_,_,rfl,rfl,ho⟩
theorem two_exp {x:B6} (b:Bool) (hx:okB 1500 x) (hn:eh x<=1500) (h2:2 * eh x<=k+1):Two (io R c1 x b) (io R c2 x b):=by
 have kid:=fun {y:B6}=>kid_ok (k:=y) hx hn h2
 have hs:=ko x
 have hB:=hx
 rw[akt]at hB
 obtain⟨_,hB,hN⟩:=hB
 have up:∀{y:B6},okx y (k - 1)->okx y k:=fun h=>⟨h.1,h.2.1,by have:=h.2.2;omega⟩
 unfold io ma l9
 refine .cond Iff.rfl (fun _=> .cond Iff.rfl (fun _=> .end (aas _ _ _ _ dcd)) fun _=> .sm (awo h hm om) fun v=> .end (aas _ _ _ _ dcd)) fun _=> .cond Iff.rfl (fun e=>?_) fun _=> .cond Iff.rfl (fun e=>?_) fun _=> .cond Iff.rfl (fun e=>?_) fun _=> .cond Iff.rfl (fun e=>?_) fun _=> .cond Iff.rfl (fun e=>?_) fun _=> .cond Iff.rfl (fun e=>?_) fun _=> .ok
 ·obtain⟨y,e1,hy⟩:=ahg (x:=x) (by simpa [need,eq_of_beq e] using hN)
  rw[e1]
  exact .end (hR.ex true h hm (up (kid hy)))
 ·have hl:1<=x.Kids.length:=by simpa [need,eq_of_beq e] using hN
  obtain⟨y,e1,hy⟩:=ahg hl
  obtain⟨_,r,hk,e2⟩:=ayz hl
  rw[e1,e2]
  rw[hk]at hB hs
  simp only[cm,okBL]at hB hs
  exact .bq (hR.ex true h hm (up (kid hy))) (.end (hR.args r h hm om hB.2 om om))
 ·exact .end (hR.args x.Kids h hm om hB om om)
 ·obtain⟨y,e1,hy⟩:=ahg (x:=x) (by simpa [need,eq_of_beq e] using hN)
  rw[e1]
  exact .end (hR.want _ h hm (kid hy) sm)
 ·obtain⟨y,e1,hy⟩:=ahg (x:=x) (by simpa [need,eq_of_beq e] using hN)
  rw[e1]
  exact .end (hR.want _ h hm (kid hy) sm)
 ·obtain⟨a,r,hk,z,e2,hz,e1⟩:=azd (x:=x) (by simpa [need,eq_of_beq e] using hN)
  have ha:=kid (show a∈x.Kids by rw[hk];exact List.mem_cons_self)
  have hz:=kid hz
  rw[e1,e2]
  refine .bq (hR.ex false h hm (up ha)) (.bq (hR.ex false h hm (up hz)) (.sm (al0 h hm (by have:=ha.2.1;omega)) fun v=> .sm (al0 h hm (by have:=hz.2.1;omega)) fun w=> .sm (sm_op h _ _ _) fun o=> .end (aas _ _ _ _ dcd)))
end
theorem atr :∀k:Nat,EX (ep k) k
 | 0=>⟨fun {m c1 c2 x} b h hm hx=>absurd hx.2.2 (by have:=o6 x;omega),fun {m c1 c2 x} w h hm hx=>absurd hx.2.2 (by have:=o6 x;omega),fun l h hm _ _ _ hk=>absurd hk om⟩
 |k+1=>⟨fun b h hm hx=>two_exp (atr k) h hm b hx.1 hx.2.1 hx.2.2,fun w h hm hx hw=>a02 (atr k) h hm w hx hw,fun l h hm hx hl hn hk=>a05 (atr k) h hm l hx hl hn om⟩
end
end Go.Proofs.YtcndghapmoaidaaGreatDoor
set_option linter.unusedSectionVars false
set_option linter.unusedVariables false
set_option linter.unusedSimpArgs false
set_option maxRecDepth 100000
set_option maxHeartbeats 4000000
namespace Go.Proofs.YtcndghapmoaidaaGreatDoor
noncomputable section
open Go Go.Cn
variable [Glob]
section
variable {m:Nat} {c1 c2:C8} (h:CR m c1 c2) (hm:m<=100000)
include h hm
theorem ani {x:B6} (b:Bool) (hx:okB 1500 x) (hn:eh x<=1500):Two (jo c1 x b) (jo c2 x b):=(atr 1048576).ex b h hm ⟨hx,hn,by omega⟩
theorem atx {x:B6} (w:List Bt) (hx:okB 1500 x) (hn:eh x<=1500) (hw:w.length<=9):Two (qc c1 x w) (qc c2 x w):=(atr 1048576).want w h hm ⟨hx,hn,by omega⟩ hw
theorem asl {x:B6} (t:Bt) (hx:okB 1500 x) (hn:eh x<=1500):Two (kq c1 x t) (kq c2 x t):=by
 unfold kq
 exact .bq (ani h hm _ hx hn) (.sm (al0 h hm om) fun v=> .sm (ayj h _ _) fun w=> .end (aas _ _ _ _ dcd))
structure Kid (x y:B6):Prop where
 ok:okB 1500 y
 sz:eh y<=1500
 le:eh y<eh x
omit h hm in
theorem kid {x y:B6} (hx:okB 1500 x) (hn:eh x<=1500) (hy:y∈x.Kids):Kid x y:=by
 rw[akt]at hx
 have:=aed hy
 have:=ko x
 exact⟨ri hx.2.1 hy,by omega,by omega⟩
omit h hm in
theorem al3 {x:B6} (hx:okB 1500 x):need x.Kind<=x.Kids.length:=by
 rw[akt]at hx
 exact hx.2.2
theorem azp {x:B6} (hx:okB 1500 x) (hn:eh x<=1500) (e:x.Kind=6):Two (mw c1 x) (mw c2 x):=by
 obtain⟨y,e1,hy⟩:=ahg (x:=x) (by simpa [need,e] using al3 hx)
 have k:=kid hx hn hy
 unfold mw
 rw[e1]
 exact .end (asl h hm _ k.ok k.sz)
theorem two_set {x:B6} (hx:okB 1500 x) (hn:eh x<=1500) (e:x.Kind=7):Two (ox c1 x) (ox c2 x):=by
 obtain⟨a,r,hk,z,e2,hz,e1⟩:=azd (x:=x) (by simpa [need,e] using al3 hx)
 have ka:=kid hx hn (show a∈x.Kids by rw[hk];exact List.mem_cons_self)
 have kz:=kid hx hn hz
 have j:Two (ja c1 a x) (ja c2 a x):=by
  unfold ja
  simp only[e2,Option.bind_some]
  exact .bq (ani h hm _ ka.ok ka.sz) (.sm (al0 h hm (by have:=ka.sz;omega)) fun v=> .end (asl h hm _ kz.ok kz.sz))
 unfold ox
 rw[e1]
 exact .cond Iff.rfl (fun _=> .bq (aas _ _ _ _ dcd) j) fun _=> .cond Iff.rfl (fun _=> .sm (awo h hm (by have:=ka.sz;omega)) fun v=> .bq (aas _ _ _ _ dcd) j) fun _=> .bq (aas _ _ _ _ dcd) j
theorem two_do {x:B6} (hx:okB 1500 x) (hn:eh x<=1500) (e:x.Kind=8):Two (pv c1 x) (pv c2 x):=by
 obtain⟨y,e1,hy⟩:=ahg (x:=x) (by simpa [need,e] using al3 hx)
 have k:=kid hx hn hy
 unfold pv pd
 rw[e1]
 exact .cond Iff.rfl (fun _=> .bq (aas _ _ _ _ dcd) (.end (ani h hm _ k.ok k.sz))) fun _=> .bq (aas _ _ _ _ dcd) (.end (ani h hm _ k.ok k.sz))
theorem a04 {x:B6} (hx:okB 1500 x) (hn:eh x<=1500):Two (nk c1 x) (nk c2 x):=by
 unfold nk
 rw[h.kind]
 refine .cond Iff.rfl (fun _=> .end (aas _ _ _ _ dcd)) fun e=>?_
 obtain⟨y,e1,hy⟩:=ahg (x:=x) (by
  have:(x.Kids.length:Int)≠0:=by simpa using e
  omega)
 have k:=kid hx hn hy
 rw[e1]
 exact .end (asl h hm _ k.ok k.sz)
theorem a03 {x:B6} (hx:okB 1500 x) (hn:eh x<=1500) (e:x.Kind=12):Two (nj c1 x) (nj c2 x):=by
 obtain⟨y,e1,hy⟩:=ahg (x:=x) (by simpa [need,e] using al3 hx)
 have k:=kid hx hn hy
 unfold nj
 rw[e1]
 exact .end (atx h hm _ k.ok k.sz sm)
omit hm in
theorem ayv {x:B6} (hm:m<=100000):∃d1 d2,jd c1 x=some d1/\jd c2 x=some d2/\CR (m+1) d1 d2:=by
 have s1:=h.seen;have s2:=h.seen2
 unfold jd y6 qo
 rw[ze so so,ze so so,Option.bind_some,Option.bind_some,ze so so,ze so so]
 refine⟨_,_,rfl,rfl,⟨h.sc.tab,h.sc.cl,h.sc.st,?_⟩,h.kind,h.tab,by simp;omega⟩
 simp only[List.nil_append,List.map_append,h.sc.seen]
end
structure ST (R:bp) (k:Nat):Prop where
 st:∀{m:Nat} {c1 c2:C8} {x:B6},CR m c1 c2->m+eh x<=90000->okB 1500 x->eh x<=1500->2 * eh x<=k->Two (R.1 c1 x) (R.1 c2 x)
 gu:∀{m:Nat} {c1 c2:C8} {x:B6},CR m c1 c2->m+eh x<=90000->okB 1500 x->eh x<=1500->2 * eh x<=k+1->x.Kind=9\/x.Kind=10->Two (R.2.1 c1 x) (R.2.1 c2 x)
 bl:∀{m:Nat} {c1 c2:C8} {x:B6},CR m c1 c2->m+eh x<=90000->okB 1500 x->eh x<=1500->2 * eh x<=k+1->Two (R.2.2 c1 x) (R.2.2 c2 x)
section
variable {R:bp} {k m:Nat} (hR:ST R k) {c1 c2:C8} {x:B6} (h:CR m c1 c2) (hm:m+eh x<=90000) (hx:okB 1500 x) (hn:eh x<=1500)
include hR h hm hx hn
theorem azq (hk:2 * eh x<=k+2) (e:x.Kind=9\/x.Kind=10):Two (kf R c1 x) (kf R c2 x):=by
 have hs:=ko x
 have hl:1<=x.Kids.length:=by
  have:=al3 hx
  rcases e with e|e<;>simpa [need,e] using this
 obtain⟨y,e1,hy⟩:=ahg hl
 obtain⟨y',r,hkk,e2⟩:=ayz hl
 have kd:=kid hx hn hy
 unfold kf nu
 rw[e1,e2]
 refine .bq (atx h om _ kd.ok kd.sz sm) ?_
 have hB:=hx
 rw[akt,hkk]at hB
 rw[hkk]at hs
 simp only[cm,okBL]at hB hs
 have hll:=mb r
 rw[Option.bind_some,Option.bind_some]
 obtain⟨o1,o2,e1,e2,ho⟩:=an7 (l:=r) (f1:=fy R r c1) (f2:=fy R r c2) (fun i s t=>s=(i:Int)/\t=(i:Int)) (fun i y s t hy hI=>by
  obtain⟨rfl,rfl⟩:=hI
  have:=ack hy
  have:=tp hy
  unfold fy
  rw[if_pos (ki hy),if_pos (ki hy),ib hy,Option.bind_some,Option.bind_some]
  refine .bq (hR.st h om (ri hB.2.1.2 (jn hy)) om om) ?_
  rw[agu om]
  exact .go ⟨rfl,rfl⟩) (fun s t hI=>by
  obtain⟨rfl,rfl⟩:=hI
  unfold fy
  rw[if_neg (kj (Nat.le_refl _)),if_neg (kj (Nat.le_refl _))]
  exact⟨_,_,rfl,rfl⟩) r.length 0 0 0 om ⟨rfl,rfl⟩
 rw[e1,e2,Option.bind_some,Option.bind_some]
 rcases ho with⟨p,q,rfl,rfl⟩|⟨a,b,rfl,rfl,ho⟩
 ·exact .ok
 ·exact⟨_,_,rfl,rfl,ho⟩
theorem azr (hk:2 * eh x<=k+2):Two (lq R c1 x) (lq R c2 x):=by
 have hs:=ko x
 have hll:=mb x.Kids
 have hB:=hx
 rw[akt]at hB
 unfold lq
 obtain⟨o1,o2,e1,e2,ho⟩:=an7 (l:=x.Kids) (f1:=fun s:Int × C8=>ia R x s.1 s.2) (f2:=fun s:Int × C8=>ia R x s.1 s.2) (fun i s t=>s.1=(i:Int)/\t.1=(i:Int)/\CR (m+i) s.2 t.2) (fun i y s t hy hI=>by
  obtain⟨_,s⟩:=s
  obtain⟨_,t⟩:=t
  obtain⟨rfl,rfl,hI⟩:=hI
  dsimp only at hI
  have:=ack hy
  have:=tp hy
  have:=yx hy
  have:=yp hy
  dsimp only
  unfold ia mo
  rw[if_pos (ki hy),if_pos (ki hy),ib hy,Option.bind_some,Option.bind_some]
  refine .bq (hR.st hI om (ri hB.2.1 (jn hy)) om om) ?_
  by_cases h6:(y.Kind==6)=true
  ·rw[if_pos h6,if_pos h6]
   obtain⟨d1,d2,g1,g2,g3⟩:=ayv (x:=y) hI om
   rw[g1,g2,Option.bind_some,Option.bind_some,agu om]
   exact .go ⟨rfl,rfl,g3⟩
  ·rw[if_neg h6,if_neg h6,agu om]
   exact .go ⟨rfl,rfl,hI.sc,hI.kind,hI.tab,by have:=hI.seen;simp only;omega⟩) (fun s t hI=>by
  obtain⟨_,s⟩:=s
  obtain⟨_,t⟩:=t
  obtain⟨rfl,rfl,hI⟩:=hI
  dsimp only
  unfold ia
  rw[if_neg (kj (Nat.le_refl _)),if_neg (kj (Nat.le_refl _))]
  exact⟨_,_,rfl,rfl⟩) x.Kids.length 0 (0,c1) (0,c2) om ⟨rfl,rfl,h⟩
 rw[e1,e2,Option.bind_some,Option.bind_some]
 rcases ho with⟨p,q,rfl,rfl⟩|⟨a,b,rfl,rfl,ho⟩
 ·exact .ok
 ·exact⟨_,_,rfl,rfl,ho⟩
theorem azo (hk:2 * eh x<=k+1):Two (c6 R c1 x) (c6 R c2 x):=by
 have hm':m<=100000:=by omega
 by_cases e:x.Kind=6
 ·have:=azp h hm' hx hn e
  unfold c6
  rw[e]
  exact .end this
 by_cases e:x.Kind=7
 ·have:=two_set h hm' hx hn e
  unfold c6
  rw[e]
  exact .end this
 by_cases e:x.Kind=8
 ·have:=two_do h hm' hx hn e
  unfold c6
  rw[e]
  exact .end this
 by_cases e:x.Kind=9
 ·have:=hR.gu h hm hx hn hk (.inl e)
  unfold c6
  rw[e]
  exact .end this
 by_cases e:x.Kind=10
 ·have:=hR.gu h hm hx hn hk (.inr e)
  unfold c6
  rw[e]
  exact .end this
 by_cases e:x.Kind=11
 ·have:=a04 h hm' hx hn
  unfold c6
  rw[e]
  exact .end this
 by_cases e:x.Kind=12
 ·have:=a03 h hm' hx hn e
  unfold c6
  rw[e]
  exact .end this
 by_cases e:x.Kind=5
 ·have:=hR.bl h hm hx hn hk
  unfold c6
  rw[e]
  exact .end this
 have hg:ghas x.Kind (gset 5 (some 149) (gset 12 (some 148) (gset 11 (some 147) (gset 10 (some 146) (gset 9 (some 146) (gset 8 (some 145) (gset 7 (some 144) (gset 6 (some 143) ([]:GMap Int (Option Nat))))))))))=false:=by
  show ghas x.Kind [(6,some 143),(7,some 144),(8,some 145),(9,some 146),(10,some 146),(11,some 147),(12,some 148),(5,some 149)]=false
  simp only[ghas]
  repeat rw[if_neg om]
 unfold c6
 rw[hg,if_neg sm,if_neg sm]
 exact .ok
end
theorem awf :∀k:Nat,ST (f0 k) k
 | 0=>⟨fun {m c1 c2 x} h hm hx hn hk=>absurd hk (by have:=o6 x;omega),fun {m c1 c2 x} h hm hx hn hk _=>absurd hk (by have:=o6 x;omega),fun {m c1 c2 x} h hm hx hn hk=>absurd hk (by have:=o6 x;omega)⟩
 |k+1=>⟨fun h hm hx hn hk=>azo (awf k) h hm hx hn hk,fun h hm hx hn hk e=>azq (awf k) h hm hx hn hk e,fun h hm hx hn hk=>azr (awf k) h hm hx hn hk⟩
end
end Go.Proofs.YtcndghapmoaidaaGreatDoor
set_option linter.unusedSectionVars false
set_option linter.unusedVariables false
set_option linter.unusedSimpArgs false
set_option maxRecDepth 100000
set_option maxHeartbeats 4000000
namespace Go.Proofs.YtcndghapmoaidaaGreatDoor
noncomputable section
open Go Go.Cn
variable [Glob]
theorem ard {r:List B6} (hr:r.length<=1500):∀(n i:Nat) (c1 c2:C8),n+i=r.length->CR i c1 c2->∃d1 d2,iter (fun s=>gl r s.1 s.2) ((i:Int),c1)=some d1/\iter (fun s=>gl r s.1 s.2) ((i:Int),c2)=some d2/\CR 1500 d1 d2
 | 0,i,c1,c2,hn,h=>by
  have e:∀c,gl r (i:Int) c=some (.inr c):=fun c=>by
   unfold gl
   rw[if_neg (kj om)]
  exact⟨c1,c2,dj (e c1),dj (e c2),h.sc,h.kind,h.tab,by have:=h.seen;omega⟩
 |n+1,i,c1,c2,hn,h=>by
  have hx:r[i]? =some r[i]:=List.getElem?_eq_getElem om
  obtain⟨d1,d2,g1,g2,g3⟩:=ayv (x:=r[i]) h om
  have e:∀c d,jd c r[i]=some d->gl r (i:Int) c=some (.inl (((i+1:Nat):Int),d)):=fun c d e=>by
   unfold gl
   rw[if_pos (ki hx),ib hx,Option.bind_some,e,Option.bind_some,agu om]
  have q:∀c d,jd c r[i]=some d->iter (fun s:Int × C8=>gl r s.1 s.2) ((i:Int),c)=iter (fun s:Int × C8=>gl r s.1 s.2) (((i+1:Nat):Int),d):=fun c d h=>g7 (e c d h)
  rw[q c1 d1 g1,q c2 d2 g2]
  exact ard hr n (i+1) d1 d2 om g3
theorem aq5 {T1 T2:List B0} (h:TR T1 T2) (hl:T1.length<=9000) (c:Bt) (f1 f2:Int) {k:B6} (hk:okB 1500 k) (hn:eh k<=1500) (h3:k.Kind=3):Two (ss T1 c f1 k) (ss T2 c f2 k):=by
 have h1:1<=k.Kids.length:=by simpa [need,h3] using al3 hk
 have hs:=ko k
 have hll:=mb k.Kids
 unfold ss
 have es:subL k.Kids 0 (w64 ((k.Kids.length:Int) - 1))=some (k.Kids.take (k.Kids.length - 1)):=by
  rw[c9 om om]
  unfold subL
  rw[if_pos ⟨by omega,by omega,by omega⟩,show((k.Kids.length:Int) - 1).toNat=k.Kids.length - 1 by omega]
  rfl
 rw[es,Option.bind_some,Option.bind_some]
 obtain⟨d1,d2,g1,g2,g3⟩:=ard (r:=k.Kids.take (k.Kids.length - 1)) so (k.Kids.take (k.Kids.length - 1)).length 0 (C8.mk (B7.mk T1 c (k.N==1) []) k.Type_ f1) (C8.mk (B7.mk T2 c (k.N==1) []) k.Type_ f2) om ⟨⟨h,rfl,rfl,rfl⟩,rfl,hl,by simp⟩
 have hx:k.Kids[k.Kids.length - 1]? =some k.Kids[k.Kids.length - 1]:=List.getElem?_eq_getElem om
 have kd:=kid hk hn (jn hx)
 have ei:idx k.Kids (w64 ((k.Kids.length:Int) - 1))=some k.Kids[k.Kids.length - 1]:=by
  rw[c9 om om,show((k.Kids.length:Int) - 1)=((k.Kids.length - 1:Nat):Int)by omega,ib hx]
 have g1':iter (fun s=>gl (k.Kids.take (k.Kids.length - 1)) s.1 s.2) (0,C8.mk (B7.mk T1 c (k.N==1) []) k.Type_ f1)=some d1:=g1
 have g2':iter (fun s=>gl (k.Kids.take (k.Kids.length - 1)) s.1 s.2) (0,C8.mk (B7.mk T2 c (k.N==1) []) k.Type_ f2)=some d2:=g2
 rw[g1',g2',Option.bind_some,Option.bind_some]
 unfold zy
 rw[ei,Option.bind_some,Option.bind_some]
 exact .end ((awf 1048576).st g3 (by have:=kd.sz;omega) kd.ok kd.sz (by have:=kd.sz;omega))
def arx (T:List B0) (c:Bt) (k:B6):Prop:=ss T c 0 k=some (.ok ())
def MethP (good:Prop):TQ->Prop
 | .ok _=>good
 | .bad m=>m.m.Code≠0/\¬good
theorem axp {T:List B0} (h:TR T T) (hl:T.length<=9000) (c:Bt) (f:Int) {k:B6} (hk:okB 1500 k) (hn:eh k<=1500) (h3:k.Kind=3):Ok (MethP (arx T c k)) (ss T c f k):=by
 obtain⟨x,y,e1,e2,ha⟩:=aq5 h hl c f 0 hk hn h3
 refine⟨x,e1,?_⟩
 unfold arx
 cases x<;>cases y
 ·exact e2
 ·exact ha.elim
 ·exact ha.elim
 ·refine⟨ha.1,fun h=>?_⟩
  rw[e2]at h
  cases h
theorem a1w {T1 T2:List B0} (h:TR T1 T2) (hl:T1.length<=9000) (c:Bt) {k:B6} (hk:okB 1500 k) (hn:eh k<=1500) (h3:k.Kind=3):arx T1 c k↔arx T2 c k:=by
 obtain⟨x,y,e1,e2,ha⟩:=aq5 h hl c 0 0 hk hn h3
 unfold arx
 rw[e1,e2]
 cases x<;>cases y
 ·exact⟨fun _=>rfl,fun _=>rfl⟩
 ·exact ha.elim
 ·exact ha.elim
 ·exact⟨fun h=>(by cases h),fun h=>(by cases h)⟩
open Classical in
def axd (P:Prop):Unit ⊕ Unit:=if P then .inl ()else .inr ()
theorem akb {P:Prop} (h:P):axd P= .inl ():=if_pos h
theorem al5 {P:Prop} (h:¬P):axd P= .inr ():=if_neg h
theorem arb {α:Type} (P:α->Prop):∀(r:List α) (i:Nat),rowF (fun _ (_:Unit) x=>axd (P x)) i r ()=axd (∀x∈r,P x)
 | [],_=>by rw[akb fun _ h=>by cases h];rfl
 |x::r,i=>by
  unfold rowF
  by_cases h:P x
  ·rw[akb h]
   dsimp only
   rw[arb P r (i+1)]
   simp only[List.forall_mem_cons,h,true_and]
  ·rw[al5 h,al5 fun g=>h (g x List.mem_cons_self)]
theorem rowJ {α S ω:Type} {l:List α} {f:S->Option (S ⊕ ω)} (P:α->Prop) (R:Nat->S->Prop) (F Q:ω->Prop)
  (h1:∀i x s,l[i]? =some x->R i s->Ok (Step (fun s _=>R (i+1) s) (fun o _=>Q o) (axd (P x))) (f s))
  (h2:∀s,R l.length s->Ok (fun z=>∃o,z= .inr o/\F o) (f s)) (s:S) (h:R 0 s):Ok (fun o=>(F o/\∀x∈l,P x)\/(Q o/\¬∀x∈l,P x)) (iter f s):=by
 obtain⟨o,e,ho⟩:=rowM (l:=l) (f:=f) (fun _ (_:Unit) x=>axd (P x)) (fun i s _=>R i s) (fun o _=>F o) (fun o (_:Unit)=>Q o) (fun i x s _ hx hs=>h1 i x s hx hs) (fun s _ hs=>h2 s hs) l 0 s () rfl (Nat.zero_le _) h
 refine⟨o,e,?_⟩
 rw[arb]at ho
 by_cases g:∀x∈l,P x
 ·rw[akb g]at ho
  exact .inl ⟨ho,g⟩
 ·rw[al5 g]at ho
  exact .inr ⟨ho,g⟩
def ary (T:List B0) (c:B6):Prop:=∀k∈c.Kids,k.Kind=3->arx T c.Text k
def BadQ (q:PX D0 B4):Prop:=∃m,q= .bad m/\m.m.Code≠0
section
variable {T:List B0} (hT:TR T T) (hl:T.length<=9000) {i:Nat} (hi:i<=6)
include hT hl
theorem axs {c:B6} (hc:okB 1500 c) (hn:eh c<=1500):Ok (fun o=>(o= .next ()/\ary T c)\/((∃q,BadQ q/\o= .done (.inr (.done (.inr (.done q)))))/\¬ary T c)) (iter (fun s=>q7 c T i s) 0):=by
 have hs:=ko c
 rw[akt]at hc
 refine rowJ (fun k=>k.Kind=3->arx T c.Text k) (fun j s=>s=(j:Int)) _ _ (fun j k s hk h=>?_) (fun s h=>?_) 0 rfl
 ·subst h
  have:=ack hk
  have:=yx hk
  unfold q7 w6
  rw[if_pos (ki hk),ib hk,Option.bind_some,agu om]
  by_cases h3:k.Kind=3
  ·rw[if_pos (show(k.Kind==3)=true by simp[h3])]
   obtain⟨q,e,hq⟩:=axp hT hl c.Text (i:Int) (ri hc.2.1 (jn hk)) om h3
   rw[e]
   cases q with
   |ok a=>
    have hq:arx T c.Text k:=hq
    rw[akb fun _=>hq]
    exact .mk ⟨_,rfl,rfl⟩
   |bad m=>
    have hq:m.m.Code≠0/\¬arx T c.Text k:=hq
    rw[al5 fun h=>hq.2 (h h3)]
    exact .mk ⟨_,rfl,_,⟨m,rfl,hq.1⟩,rfl⟩
  ·rw[if_neg (show ¬(k.Kind==3)=true by simpa using h3),akb fun h=>absurd h h3]
   exact .mk ⟨_,rfl,rfl⟩
 ·subst h
  unfold q7
  rw[if_neg (kj (Nat.le_refl _))]
  exact .mk ⟨_,rfl,rfl⟩
theorem axx {file:List B6} (hf:FileG file) (hn:cm file<=9000):Ok (fun o=>(o= .next ()/\∀c∈file,ary T c)\/((∃q,BadQ q/\o= .done (.inr (.done q)))/\¬∀c∈file,ary T c)) (iter (fun s=>q8 file T i s) 0):=by
 refine rowJ (fun c=>ary T c) (fun j s=>s=(j:Int)) _ _ (fun j c s hc h=>?_) (fun s h=>?_) 0 rfl
 ·subst h
  have:=yx hc
  unfold q8 abd
  rw[if_pos (ki hc),ib hc,Option.bind_some,agu om]
  obtain⟨o,e,ho⟩:=axs (i:=i) hT hl (ri hf.1 (jn hc)) (hf.2.1 c (jn hc))
  rw[e,Option.bind_some]
  rcases ho with⟨rfl,hg⟩|⟨⟨q,hq,rfl⟩,hg⟩
  ·rw[akb hg]
   exact .mk ⟨_,rfl,rfl⟩
  ·rw[al5 hg]
   exact .mk ⟨_,rfl,_,hq,rfl⟩
 ·subst h
  unfold q8
  rw[if_neg (kj (Nat.le_refl _))]
  exact .mk ⟨_,rfl,rfl⟩
theorem awa {files:List (List B6)} (hF:D7 files):Ok (fun o=>(o= .next ()/\∀file∈files,∀c∈file,ary T c)\/((∃q,BadQ q/\o= .done q)/\¬∀file∈files,∀c∈file,ary T c)) (iter (fun s=>q9 files T s) 0):=by
 refine rowJ (fun file=>∀c∈file,ary T c) (fun j s=>s=(j:Int)) _ _ (fun j file s hf h=>?_) (fun s h=>?_) 0 rfl
 ·subst h
  have:=aji hf
  have:=hF.all
  have:=hF.six
  have:=tp hf
  unfold q9 abe
  rw[if_pos (ki hf),ib hf,Option.bind_some,agu om]
  obtain⟨o,e,ho⟩:=axx (i:=j) hT hl (hF.each _ (jn hf)) om
  rw[e,Option.bind_some]
  rcases ho with⟨rfl,hg⟩|⟨⟨q,hq,rfl⟩,hg⟩
  ·rw[akb hg]
   exact .mk ⟨_,rfl,rfl⟩
  ·rw[al5 hg]
   exact .mk ⟨_,rfl,_,hq,rfl⟩
 ·subst h
  unfold q9
  rw[if_neg (kj (Nat.le_refl _))]
  exact .mk ⟨_,rfl,rfl⟩
end
def Fine (files:List (List B6)):Prop:=OkA files/\∀file∈files,∀c∈file,ary (entA files) c
theorem amj {files:List (List B6)} (hF:D7 files):Ok (fun m:B4=>m.Code=0↔Fine files) (vd files):=by
 unfold vd ais
 obtain⟨⟨l,m⟩,e,hU⟩:=azn hF
 rw[e,Option.bind_some]
 dsimp only
 rcases azm hF hU with⟨a1,a⟩|⟨a1,_,a⟩
 ·have a1:m.Code=0:=a1
  obtain⟨b1,b2,b3,b4,_⟩:=a
  have ht:=(ank files _).2 ⟨b1,b2,rfl⟩
  rw[if_neg (by simp[a1]),aj7 hF,ht,Option.bind_some]
  unfold tabR
  dsimp only
  obtain⟨o,e,ho⟩:=awa (TR.self b1 (avu files)) (anl hF ht).1 hF
  rw[e,Option.bind_some]
  unfold abf
  rcases ho with⟨rfl,hg⟩|⟨⟨q,⟨n,rfl,hq⟩,rfl⟩,hg⟩
  ·exact .mk ⟨fun _=>⟨⟨b1,b2,b3,b4⟩,hg⟩,fun _=>rfl⟩
  ·exact .mk ⟨fun h=>absurd h hq,fun h=>absurd h.2 hg⟩
 ·have a1:m.Code≠0:=a1
  rw[if_pos (by simpa using a1)]
  exact .mk ⟨fun h=>absurd h a1,fun h=>absurd h.1 a⟩
theorem D7.len {files:List (List B6)} (hF:D7 files) (h:OkA files):(entA files).length<=9000:=(anl hF ((ank files _).2 ⟨h.1,h.2.1,rfl⟩)).1
theorem Fine.turn {A B:List (List B6)} (h:Turn A B) (f:Fine A):Fine B:=by
 refine⟨f.1.turn h,?_⟩
 have hf:=f.2
 rw[anz]at hf ⊢
 intro c hc k hk h3
 have hc':=h.perm.symm.subset hc
 obtain⟨l,h1,h2⟩:=List.mem_flatten.1 hc'
 obtain⟨g1,g2,_⟩:=h.fa.each l h1
 have g1:=ri g1 h2
 rw[akt]at g1
 have:=aed hk
 have:=ko c
 exact(a1w (TR.turn h f.1.1) (h.fa.len f.1) c.Text (ri g1.2.1 hk) (by have:=g2 c h2;omega) h3).1 (hf c hc' k hk h3)
end
end Go.Proofs.YtcndghapmoaidaaGreatDoor
set_option linter.unusedSectionVars false
set_option linter.unusedVariables false
set_option linter.unusedSimpArgs false
set_option maxRecDepth 100000
set_option maxHeartbeats 4000000
namespace Go.Proofs.YtcndghapmoaidaaGreatDoor
noncomputable section
open Go Go.Cn
variable [Glob]
theorem ay9 {M:Nat}:∀{l:List B6},(∀x∈l,okB M x)->okBL M l
 | [],_=>trivial
 |x::r,h=>⟨h x List.mem_cons_self,ay9 fun y hy=>h y (List.mem_cons_of_mem _ hy)⟩
theorem ao2 :∀l:List (List B6),cm l.flatten=nsz l
 | []=>rfl
 |x::r=>by rw[List.flatten_cons,ub,ao2 r];rfl
theorem arf :∀l:List B6,cm l.reverse=cm l
 | []=>rfl
 |x::r=>by rw[List.reverse_cons,ub,arf r];simp only[cm];omega
theorem D7.one {files:List (List B6)} (h:D7 files):Turn files [files.flatten.reverse]:=by
 have all:∀c∈files.flatten.reverse,okB 1500 c/\eh c<=1500/\CP c:=fun c hc=>by
  obtain⟨l,h1,h2⟩:=List.mem_flatten.1 (List.mem_reverse.1 hc)
  obtain⟨g1,g2,g3⟩:=h.each l h1
  exact⟨ri g1 h2,g2 c h2,g3 c h2⟩
 refine⟨h,⟨by simp,fun l hl=>?_,?_⟩,?_⟩
 ·rw[List.mem_singleton.1 hl]
  exact⟨ay9 fun c hc=>(all c hc).1,fun c hc=>(all c hc).2.1,fun c hc=>(all c hc).2.2⟩
 ·simp only[nsz,arf,ao2]
  exact h.all
 ·simpa using(List.reverse_perm files.flatten).symm
theorem aws {x4:List (List B6)} {i:Nat} {file:List B6} (hf:x4[i]? =some file):∀(n:Nat) (out:List B6),n<=file.length->out.length+n<=9000->iter (fun s:Int × List B6=>js x4 (i:Int) s.1 s.2) (((n:Int) - 1),out)=some (out++(file.take n).reverse)
 | 0,out,_,_=>by
  refine dj ?_
  unfold js
  rw[if_neg sm,List.take_zero,List.reverse_nil,List.append_nil]
 |n+1,out,hn,ho=>by
  have hx:file[n]? =some file[n]:=List.getElem?_eq_getElem om
  have e:js x4 (i:Int) (((n+1:Nat):Int) - 1) out=some (.inl (((n:Int) - 1),out++[file[n]])):=by
   unfold js
   rw[show(((n+1:Nat):Int) - 1)=(n:Int)by omega,if_pos sm,ib hf,Option.bind_some,ib hx,Option.bind_some,ze so so,Option.bind_some,c9 om om]
  rw[g7 (s':=(((n:Int) - 1),out++[file[n]])) e,aws hf n _ om so,List.take_succ_eq_append_getElem om,List.reverse_append]
  simp
theorem aox {x4:List (List B6)} (hF:D7 x4):∀(n:Nat) (a:List (List B6)) (b:List B6),n<=x4.length->a.length+n<=6->b.length+nsz (x4.take n)<=9000->
  iter (fun s:Int × List (List B6) × List B6=>jt x4 s.1 s.2.1 s.2.2) (((n:Int) - 1),a,b)=some (a++(x4.take n).reverse,b++(x4.take n).flatten.reverse)
 | 0,a,b,_,_,_=>by
  refine dj ?_
  unfold jt
  rw[if_neg sm,List.take_zero]
  simp
 |n+1,a,b,hn,ha,hb=>by
  have h6:=hF.six
  have hx:x4[n]? =some x4[n]:=List.getElem?_eq_getElem om
  have hz:=aji hx
  have hll:=mb x4[n]
  have e:jt x4 (((n+1:Nat):Int) - 1) a b=some (.inl (((n:Int) - 1),a++[x4[n]],b++x4[n].reverse)):=by
   unfold jt te
   rw[show(((n+1:Nat):Int) - 1)=(n:Int)by omega,if_pos sm,ib hx,Option.bind_some,ze so so,Option.bind_some,Option.bind_some,c9 (n:=(x4[n].length:Int) - 1) om om,aws hx x4[n].length b (Nat.le_refl _) om,Option.bind_some,List.take_length,c9 om om]
  rw[g7 (s':=(((n:Int) - 1),a++[x4[n]],b++x4[n].reverse)) e,aox hF n _ _ om so so,List.take_succ_eq_append_getElem om,List.reverse_append,List.flatten_append,List.reverse_append]
  simp
theorem aqn (texts:List Bt):yi texts=some true:=by
 unfold yi
 rw[awake18,Option.bind_some,if_neg sm]
 obtain⟨⟨files,ok⟩,e1,h1⟩:=az5 texts
 rw[e1,Option.bind_some]
 dsimp only
 cases ok with
 |false=>rfl
 |true=>
  have hF:D7 files:= .of (h1 rfl)
  have h6:=hF.six
  rw[if_neg sm,c9 om om,aox hF files.length [] [] (Nat.le_refl _) so (by rw[List.take_length];have:=hF.all;simpa using this),Option.bind_some,List.take_length,List.nil_append,List.nil_append]
  unfold tf pf
  obtain⟨m1,g1,f1⟩:=amj hF
  obtain⟨m2,g2,f2⟩:=amj hF.turn.fb
  obtain⟨m3,g3,f3⟩:=amj hF.one.fb
  have q:∀{A B:List (List B6)} {m n:B4},Turn A B->(m.Code=0↔Fine A)->(n.Code=0↔Fine B)->(m.Code==0)=(n.Code==0):=fun h a b=>by
   rw[Bool.eq_iff_iff,beq_iff_eq,beq_iff_eq,a,b]
   exact⟨Fine.turn h,Fine.turn h.symm⟩
  have q12:=q hF.turn f1 f2
  have q13:=q hF.one f1 f3
  dsimp only
  rw[g1,g2,g3,Option.bind_some,Option.bind_some,Option.bind_some,← q12,← q13]
  simp
end
end Go.Proofs.YtcndghapmoaidaaGreatDoor
