/- Two texts with the same tokens are the same files: ParseLead. -/
import Derived.Test.YtackaijkmkollaaGreatDoorZY8
import Derived.Test.YtackaijkmkollaaGreatDoorZL
set_option linter.unusedSimpArgs false
set_option linter.unusedVariables false
set_option linter.unusedSectionVars false
set_option linter.unusedSectionVars false
set_option linter.unusedVariables false
set_option linter.unusedSimpArgs false
set_option maxHeartbeats 4000000
namespace Go.Proofs.YtackaijkmkollaaGreatDoor
open Go Go.Cn
def noteL :List ApiToken->List UInt8
 | []=>[]
 |t::l=>32::(t.Text++10::noteL l)
def sameK :List ApiToken->List ApiToken->Prop
 | [],[]=>True
 |t::l,u::m=>u.Kind=t.Kind/\u.Text=t.Text/\sameK l m
 |_,_=>False
def GP (pre:List UInt8):Prop:=∀r k,GapR r k true->GapR (pre++r) (pre.length+k) true
theorem GP.space {c:UInt8} (h:j3 c.toNat=true) {pre:List UInt8} (hp:GP pre):GP (c::pre):=fun r k hk=>by
 have:=GapR.space c (pre++r) _ true h (hp r k hk)
 rw[List.cons_append,List.length_cons,show pre.length+1+k=1+(pre.length+k)by omega]
 exact this
theorem GP.nil:GP []:=fun r k hk=>by simpa using hk
theorem GP.note:GP [47,42,32,97,32,110,111,116,101,32,42,47]:=fun r k hk=>
 .note _ 8 k true (by simp[List.isPrefixOf]) (by simp[ez,List.isPrefixOf]) (by simpa using hk)
theorem lexR_noted {a:Nat} {s:List UInt8} {l:List ApiToken} {p e:Nat} (h:LexR a s l p e):e=0->∀pre,GP pre->∀b,∃m,LexR b (pre++noteL l) m 0 0/\sameK l m:=by
 induction h with
 |note a s k hg=>intro h;cases h
 |fin a s hg=>
  intro _ pre hp b
  have h1:GapR [32,10] 2 true:= .space 32 [10] 1 true (by decide) (.space 10 [] 0 true (by decide) .nil)
  have h2:=hp _ _ h1
  refine⟨_,.fin b (pre++noteL [_]) ?_,rfl,rfl,trivial⟩
  have e:pre++noteL [(⟨5,[],((a+s.length:Nat):Int),s⟩:ApiToken)]=pre++[32,10]:=by simp[noteL]
  rw[e]
  simpa using h2
 |bad a s k e hg hk ht he=>exact fun h=>absurd h he
 |tok a s k d n l hg hk ht _ ih=>
  intro _ pre hp b
  obtain⟨m,h1,h2⟩:=ih rfl [10] (GP.space (by decide) GP.nil) (b+(pre.length+1)+n)
  obtain⟨hn,hn2,h0,h5⟩:=ji ht
  obtain⟨c,q,hd,hs,hp1,hp2⟩:=gapR_next hg hk
  have ht2:=tokL_space ht 10 (by decide) (noteL l)
  have hlen:((s.drop k).take n).length=n:=by rw[List.length_take];omega
  have hg2:GapR (pre++noteL (⟨d,(s.drop k).take n,((a+k:Nat):Int),s.take k⟩::l)) (pre.length+1) true:=by
   refine hp _ 1 (.space 32 _ 0 true (by decide) ?_)
   rw[hd]
   obtain⟨n,rfl⟩:∃n',n=n'+1:=⟨n - 1,by omega⟩
   rw[List.take_succ_cons,List.cons_append]
   have key:∀x:UInt8,x≠10->[47,x].isPrefixOf (c::q)=false->[47,x].isPrefixOf (c::(q.take n++10::noteL l))=false:=by
    intro x hx h
    rw[pre2_false]at h ⊢
    intro y hy
    injection hy with e1 e2
    match n,q with
    | 0,q=>
     rw[List.take_zero,List.nil_append]at e2
     injection e2 with e3 e4
     exact hx e3.symm
    |n+1,[]=>
     rw[List.take_nil,List.nil_append]at e2
     injection e2 with e3 e4
     exact hx e3.symm
    |n+1,z::q=>
     rw[List.take_succ_cons,List.cons_append]at e2
     injection e2 with e3 e4
     exact h q (by rw[e1,e3])
   exact .stop c _ hs (key 47 (by decide) hp1) (key 42 (by decide) hp2)
  have e0:(pre++noteL (⟨d,(s.drop k).take n,((a+k:Nat):Int),s.take k⟩::l)).drop (pre.length+1)=(s.drop k).take n++10::noteL l:=by
   rw[← List.drop_drop,List.drop_left]
   rfl
  have h3:=LexR.tok b (pre++noteL (⟨d,(s.drop k).take n,((a+k:Nat):Int),s.take k⟩::l)) (pre.length+1) d n m hg2 (by simp only[noteL,List.length_append,List.length_cons];omega) (by rw[e0];exact ht2) (by
   rw[← List.drop_drop,e0,List.drop_append_of_le_length (by omega),List.drop_eq_nil_of_le (by omega)]
   exact h1)
  refine⟨_,h3,rfl,?_,h2⟩
  simp only
  rw[e0,List.take_append_of_le_length (by omega),List.take_of_length_le (by omega)]
 |later a s k d n p e hg hk ht hr he ih=>exact fun h=>absurd h he
theorem sameK_len :∀{l m:List ApiToken},sameK l m->m.length=l.length
 | [],[],_=>rfl
 |t::l,u::m,h=>by simp[sameK_len h.2.2]
 | [],_::_,h=>h.elim
 |_::_,[],h=>h.elim
theorem sameK_at :∀{l m:List ApiToken} {i:Nat},sameK l m->i<l.length->(m.getD i noTok).Kind=(l.getD i noTok).Kind/\(m.getD i noTok).Text=(l.getD i noTok).Text
 |t::l,u::m,0,h,_=>⟨h.1,h.2.1⟩
 |t::l,u::m,i+1,h,hi=>by
  have:=sameK_at (i:=i) h.2.2 (by simpa using hi)
  simpa using this
 | [],_,_,_,h=>by simp at h
 |_::_,[],_,h,_=>h.elim
theorem LR.at {D:Dt}:∀{l m:List ApiNode},LR D l m->∀i (h:i<l.length) (h':i<m.length),NR D l[i] m[i]
 |n::l,m,h,i,hi,hi'=>by
  simp only[LR]at h
  obtain⟨a,b,rfl,h1,h2⟩:=h
  cases i with
  |zero=>exact h1
  |succ i=>exact LR.at h2 i (by simpa using hi) (by simpa using hi')
mutual
theorem NR.depth {D:Dt}:∀{n m:ApiNode},NR D n m->depthN m=depthN n
 |⟨k,t,y,nn,a,b,c,d,kids⟩,m,h=>by
  rw[NR_eq]at h
  rw[depthN_eq m,depthN_eq ⟨k,t,y,nn,a,b,c,d,kids⟩,LR.depth h.2]
theorem LR.depth {D:Dt}:∀{l m:List ApiNode},LR D l m->i9 m=i9 l
 | [],m,h=>by simp only[LR]at h;subst h;rfl
 |n::l,m,h=>by
  simp only[LR]at h
  obtain⟨a,b,rfl,h1,h2⟩:=h
  simp only[i9]
  rw[NR.depth h1,LR.depth h2]
end
mutual
theorem NR.size {D:Dt}:∀{n m:ApiNode},NR D n m->j8 m=j8 n
 |⟨k,t,y,nn,a,b,c,d,kids⟩,m,h=>by
  rw[NR_eq]at h
  rw[nsize_eq m,nsize_eq ⟨k,t,y,nn,a,b,c,d,kids⟩,LR.size h.2]
theorem LR.size {D:Dt}:∀{l m:List ApiNode},LR D l m->cz m=cz l
 | [],m,h=>by simp only[LR]at h;subst h;rfl
 |n::l,m,h=>by
  simp only[LR]at h
  obtain⟨a,b,rfl,h1,h2⟩:=h
  simp only[cz]
  rw[NR.size h1,LR.size h2]
end
theorem same_at {D:Dt}:∀(k:Nat) (x y:ApiNode),NR D x y->j8 x<=k->k<=1048576->gf k x y=some true:=by
 intro k
 induction k with
 |zero=>intro x y _ h _;have:=nsize_pos x;omega
 |succ k ih=>
  intro x y hxy hx hk
  show F_ref11_Same (gf k) x y=_
  generalize hR:gf k=R
  have hsz:=nsize_eq x
  have hlen:=ge x.Kids
  rw[NR_eq]at hxy
  obtain⟨⟨h1,h2,h3,h4,_⟩,hl⟩:=hxy
  have hll:=hl.len
  have hkid:∀i (h:i<x.Kids.length) (h':i<y.Kids.length),R x.Kids[i] y.Kids[i]=some true:=fun i h h'=>by
   have:=nsize_mem (List.getElem_mem h)
   rw[← hR]
   exact ih _ _ (hl.at i h h') (by omega) (by omega)
  unfold F_ref11_Same
  rw[if_neg (by simp[h1]),if_neg (by simp[h2]),if_neg (by simp[h3]),if_neg (by simp[h4])]
  unfold ik
  rw[if_neg (by simp[hll])]
  obtain⟨o,h1,h2⟩:=gq (f:=fun s:Int=>kn R x y s) (fun s=>∃i:Nat,i<=x.Kids.length/\s=(i:Int)) (fun o=>o= .next ()) (fun s=>x.Kids.length - s.toNat) (by
   rintro _ ⟨i,hi,rfl⟩
   unfold kn ref11_Same_j3
   by_cases hlt:i<x.Kids.length
   ·left
    rw[if_pos (by simp[hlt])]
    have hlt':i<y.Kids.length:=by omega
    simp only[idx_lt hlt,idx_lt hlt',Option.bind_some,hkid i hlt hlt']
    refine⟨_,rfl,⟨i+1,by omega,f0 (by omega)⟩,?_⟩
    rw[f0 (by omega)]
    omega
   ·right
    rw[if_neg (by simp;omega)]
    exact⟨_,rfl,rfl⟩) 0 ⟨0,by omega,rfl⟩
  rw[h1]
  subst h2
  rfl
theorem File_two {D:Dt} (V:Two D) (hf:D.full) (hk:D.k=0) (hx:LexR 0 D.x D.T 0 0) (hx':LexR 0 D.x' D.T' 0 0) (hb:D.x.length<=50000) (hb':D.x'.length<=50000):∃l m l' m',ia D.x=some (l,m)/\ia D.x'=some (l',m')/\m.Code=m'.Code/\LR D l l'/\cz l<=60000:=by
  have hI:lexI D.x=(D.T,0,0):=by unfold lexI;rw[rel_lexM hx];rfl
  have hI':lexI D.x'=(D.T',0,0):=by unfold lexI;rw[rel_lexM hx'];rfl
  obtain⟨hN,hN'⟩:=V.all hf
  have hlen:=V.t.len
  have hlen':=V.t'.len
  rw[parse_File_eq,parse_File_eq]
  unfold runF
  rw[if_pos (by omega),if_pos (by omega),hI,hI']
  unfold runI
  rw[if_neg (by simp),if_neg (by simp)]
  simp only
  have h:=file_ok V [] (by simp)
  obtain⟨z,hz,hw⟩:=h
  have e1:(D.p 0:ParseParser)=⟨D.T,0⟩:=rfl
  have e2:(D.p' 0:ParseParser)=⟨D.T',0⟩:=by simp[Dt.p',hk]
  rw[e1]at hz
  rw[e2]at hw
  unfold parse_File_1 parse_File_1_k1
  rw[hz]
  cases z with
  | done r =>
    cases r with
    |ok a=>obtain⟨j,_,_,_,h,_⟩:=hw;exact h.elim
    |bad m=>
      obtain⟨_,h2⟩:=hw
      obtain⟨m',e,hc⟩:=h2 hf
      rw[e]
      exact⟨[],m.m,[],m'.m,rfl,rfl,hc.symm,rfl,by simp[cz]⟩
  |next st=>
    obtain⟨p,l⟩:=st
    obtain⟨j,e,⟨⟨h1,_⟩,h2⟩,h3,_,h4⟩:=hw
    obtain⟨l',e',m,hm,hlr⟩:=h4 (by omega)
    simp only at e hlr
    subst e
    have hm:l'=m:=by simpa using hm
    subst hm
    rw[e']
    obtain rfl:j=D.T.length - 1:=by omega
    obtain⟨t,ht,htk⟩:=now_last V.t
    obtain⟨t',ht',htk'⟩:=now_last V.t'
    have e3:(D.p' (D.T.length - 1):ParseParser)=⟨D.T',((D.T'.length - 1:Nat):Int)⟩:=by
      simp only[Dt.p',hk,hN',hN]
      rfl
    rw[e3]
    have hs:cz l<=_:=h1.sz
    have hs2:=hlr.size
    have hp:=V.t.pos
    have hp':=V.t'.pos
    simp only[bq,Option.bind_some,Dt.p,ht,ht']
    rw[if_neg (by simp[htk]),if_neg (by simp[htk'])]
    by_cases hd:i9 l<=200
    · rw[deep_ok hp (by omega) hd,deep_ok hp' (by omega) (by rw[hlr.depth];exact hd)]
      exact⟨l,_,l',_,rfl,rfl,rfl,hlr,by omega⟩
    · obtain⟨a,k1,_⟩:=deep_bad (p:=⟨D.T,((D.T.length - 1:Nat):Int)⟩) hp (show cz l<=1000000 by omega) (by omega)
      obtain⟨a',k2,_⟩:=deep_bad (p:=⟨D.T',((D.T'.length - 1:Nat):Int)⟩) hp' (show cz l'<=1000000 by omega) (by rw[hlr.depth];omega)
      rw[k1,k2]
      exact⟨[],_,[],_,rfl,rfl,rfl,rfl,by simp[cz]⟩
theorem noteL_len :∀l:List ApiToken,(noteL l).length=2 * l.length+(l.map (fun t=>t.Text.length)).sum
 | []=>rfl
 |t::l=>by simp[noteL,noteL_len l];omega
theorem lexR_sum {a:Nat} {s:List UInt8} {l:List ApiToken} {p e:Nat} (h:LexR a s l p e):e=0->(l.map (fun t=>t.Text.length)).sum<=s.length:=by
 induction h with
 |note a s k hg=>intro h;cases h
 |fin a s hg=>intro _;simp
 |bad a s k e hg hk ht he=>exact fun h=>absurd h he
 |tok a s k d n l hg hk ht _ ih=>
  intro _
  have:=ih rfl
  obtain⟨hn,hn2,h0,h5⟩:=ji ht
  simp only[List.length_drop]at hn2
  rw[List.length_drop]at this
  simp only[List.map_cons,List.sum_cons,List.length_take,List.length_drop]
  omega
 |later a s k d n p e hg hk ht hr he ih=>exact fun h=>absurd h he
theorem cat_small {a b:List UInt8} (h:a.length+b.length<=1000000):cat a b=some (a++b):=by
 unfold cat
 rw[if_pos (by omega)]
theorem lead_text {T:List ApiToken} (hT:T.length<=5000) (hs:(T.map (fun t=>t.Text.length)).sum<=5000):iter (fun s:List UInt8 × Int=>eo T s.1 s.2) (([47,42,32,97,32,110,111,116,101,32,42,47]:List UInt8),0)=some (([47,42,32,97,32,110,111,116,101,32,42,47]:List UInt8)++noteL T):=by
 have hcut:∀i (h:i<T.length),noteL (T.take (i+1))=noteL (T.take i)++(32::(T[i].Text++[10])):=by
  intro i h
  have key:∀(l m:List ApiToken),noteL (l++m)=noteL l++noteL m:=by
   intro l m
   induction l with
   |nil=>rfl
   |cons t l ih=>simp[noteL,ih]
  rw[List.take_add_one,List.getElem?_eq_getElem h,Option.toList_some,key]
  simp[noteL]
 have hle:∀i,(noteL (T.take i)).length<=15000:=by
  intro i
  rw[noteL_len]
  have h1:(T.take i).length<=T.length:=by rw[List.length_take];omega
  have h2:((T.take i).map (fun t=>t.Text.length)).sum<=(T.map (fun t=>t.Text.length)).sum:=by
   conv=>rhs;rw[← List.take_append_drop i T,List.map_append,List.sum_append]
   omega
  omega
 obtain⟨o,h1,h2⟩:=gq (f:=fun s:List UInt8 × Int=>eo T s.1 s.2) (fun s=>∃i:Nat,i<=T.length/\s.2=(i:Int)/\s.1=([47,42,32,97,32,110,111,116,101,32,42,47]:List UInt8)++noteL (T.take i)) (fun o=>o=([47,42,32,97,32,110,111,116,101,32,42,47]:List UInt8)++noteL T) (fun s=>T.length - s.2.toNat) (by
  rintro⟨_,_⟩ ⟨i,hi,rfl,rfl⟩
  unfold eo
  by_cases hlt:i<T.length
  ·left
   have h3:=hle i
   have h4:=hle (i+1)
   rw[hcut i hlt]at h4
   simp only[List.length_append,List.length_cons,List.length_nil]at h4
   rw[if_pos (by simp[hlt])]
   rw[cat_small (by simp only[List.length_append,List.length_cons,List.length_nil];omega),Option.bind_some,idx_lt hlt,Option.bind_some,cat_small (by simp only[List.length_append,List.length_cons,List.length_nil];omega),Option.bind_some,cat_small (by simp only[List.length_append,List.length_cons,List.length_nil];omega),Option.bind_some]
   refine⟨_,rfl,⟨i+1,by omega,f0 (by omega),?_⟩,?_⟩
   ·rw[hcut i hlt]
    simp
   ·simp only
    rw[f0 (by omega)]
    omega
  ·right
   rw[if_neg (by simp;omega)]
   refine⟨_,rfl,?_⟩
   rw[List.take_of_length_le (by omega)]) (([47,42,32,97,32,110,111,116,101,32,42,47]:List UInt8),0) ⟨0,by omega,rfl,by simp[noteL]⟩
 rw[h1,h2]
theorem law_ParseLead (x:List UInt8):law12_ParseLead x=some true:=by
 unfold law12_ParseLead law12_short
 rw[awake12,Option.bind_some,if_neg (by simp),Option.bind_some]
 by_cases hx:x.length<=2500
 ·rw[if_neg (by simp;omega),ref03_Lex_eq x (by omega),Option.bind_some]
  by_cases he:(lexM x).2.2=0
  ·obtain⟨T,hr,hI⟩:=lexI_ok he
   have hT:=tokP_of (by omega) hr
   have htp:=lexR_TP x (by omega) hr rfl (by omega) rfl
   have hln:=htp.len
   have hsum:=lexR_sum hr rfl
   rw[hI]
   simp only
   rw[if_neg (by simp),lead_text (by omega) (by omega),Option.bind_some]
   obtain⟨T',hr',hsame⟩:=lexR_noted hr rfl _ GP.note 0
   have hlen2:=noteL_len T
   have hb':(([47,42,32,97,32,110,111,116,101,32,42,47]:List UInt8)++noteL T).length<=50000:=by simp only[List.length_append,List.length_cons,List.length_nil];omega
   have hT':=tokP_of hb' hr'
   have hl':=sameK_len hsame
   let D:Dt:=⟨x,([47,42,32,97,32,110,111,116,101,32,42,47]:List UInt8)++noteL T,T,T',T.length,0,True⟩
   have V:Two D:=⟨hT,hT',Nat.le_refl _,by show T.length+0<=T'.length;omega,fun i hi=>sameK_at hsame hi,fun _=>⟨rfl,by show T'.length=T.length+0;omega⟩⟩
   obtain⟨l,m,l',m',hF,hF',hc,hlr,hsz⟩:=File_two V trivial rfl hr hr' (by show x.length<=50000;omega) hb'
   have hF:ia x=some (l,m):=hF
   unfold j6
   rw[hF,Option.bind_some]
   simp only
   have hF':ia (([47,42,32,97,32,110,111,116,101,32,42,47]:List UInt8)++noteL T)=some (l',m'):=hF'
   rw[hF',Option.bind_some]
   simp only
   have hll:=hlr.len
   have hln2:=ge l
   rw[if_neg (by simp[hc])]
   unfold im
   rw[if_neg (by simp[hll])]
   obtain⟨o,h1,h2⟩:=gq (f:=fun s:Int=>fq l l' s) (fun s=>∃i:Nat,i<=l.length/\s=(i:Int)) (fun o=>o= .next ()) (fun s=>l.length - s.toNat) (by
    rintro _ ⟨i,hi,rfl⟩
    unfold fq j7
    by_cases hlt:i<l.length
    ·left
     have hlt':i<l'.length:=by omega
     have hnm:=nsize_mem (List.getElem_mem hlt)
     rw[if_pos (by simp[hlt])]
     have hs:ref11_Same l[i] l'[i]=some true:=same_at 1048576 _ _ (hlr.at i hlt hlt') (by omega) (Nat.le_refl _)
     simp only[idx_lt hlt,idx_lt hlt',Option.bind_some,hs]
     refine⟨_,rfl,⟨i+1,by omega,f0 (by omega)⟩,?_⟩
     rw[f0 (by omega)]
     omega
    ·right
     rw[if_neg (by simp;omega)]
     exact⟨_,rfl,rfl⟩) 0 ⟨0,by omega,rfl⟩
   rw[h1]
   subst h2
   rfl
  ·unfold lexI
   simp only
   rw[if_pos (by simpa using he)]
 ·rw[if_pos (by simp;omega)]
end Go.Proofs.YtackaijkmkollaaGreatDoor
