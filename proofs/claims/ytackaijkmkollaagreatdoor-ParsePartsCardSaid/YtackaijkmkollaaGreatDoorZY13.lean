/- Files put one behind the other, and a member within a class: ParseParts. -/
import Derived.Test.YtackaijkmkollaaGreatDoorZY12
set_option linter.unusedSimpArgs false
set_option linter.unusedVariables false
set_option linter.unusedSectionVars false
set_option linter.unusedSectionVars false
set_option linter.unusedVariables false
set_option linter.unusedSimpArgs false
set_option maxHeartbeats 4000000
namespace Go.Proofs.YtackaijkmkollaaGreatDoor
open Go Go.Cn
theorem refDepth_at :∀(k:Nat) (x:ApiNode),ie x<=k->k<=1048576->f6 k x=some (i8 x:Int):=by
 intro k
 induction k with
 |zero=>intro x h _;have:=nsize_pos x;omega
 |succ k ih=>
  intro x hx hk
  show F_ref11_Depth (f6 k) x=_
  generalize hR:f6 k=R
  have hsz:=nsize_eq x
  have hlen:=eg x.Kids
  have hkid:∀y∈x.Kids,R y=some (i8 y:Int):=fun y hy=>by
   have:=nsize_mem hy
   rw[← hR]
   exact ih y (by omega) (by omega)
  have hdl:=depthL_le x.Kids
  unfold F_ref11_Depth
  have htake:∀i (h:i<x.Kids.length),eb (x.Kids.take (i+1))=max (eb (x.Kids.take i)) (i8 x.Kids[i]):=fun i h=>by
   rw[List.take_add_one,List.getElem?_eq_getElem h,Option.toList_some,depthL_append]
   simp[eb]
  obtain⟨o,h1,h2⟩:=ke (f:=fun s:Int × Int=>js R x s.1 s.2) (fun s=>∃i:Nat,i<=x.Kids.length/\s.2=(i:Int)/\s.1=(eb (x.Kids.take i):Int)) (fun o=>o=(eb x.Kids:Int)) (fun s=>x.Kids.length - s.2.toNat) (by
   rintro⟨_,_⟩ ⟨i,hi,h1,h2⟩
   simp only at h1 h2
   subst h1 h2
   unfold js
   by_cases hlt:i<x.Kids.length
   ·left
    rw[if_pos (by simp[hlt])]
    simp only[idx_lt hlt,Option.bind_some,hkid _ (List.getElem_mem hlt)]
    refine⟨_,rfl,⟨i+1,by omega,by rw[i6 (by omega) (by omega)];omega,?_⟩,?_⟩
    ·rw[htake i hlt]
     by_cases hc:(i8 x.Kids[i]:Int)>(eb (x.Kids.take i):Int)
     ·simp only[if_pos hc];omega
     ·simp only[if_neg hc];omega
    ·simp only[i6 (show -9223372036854775808<=(i:Int)+1 by omega) (by omega)]
     omega
   ·right
    rw[if_neg (by simp;omega)]
    refine⟨_,rfl,?_⟩
    rw[List.take_of_length_le (by omega)]) (0,0) ⟨0,by omega,rfl,by simp[eb]⟩
  rw[h1]
  subst h2
  simp only[Option.bind_some,ref11_Depth_k1]
  rw[i6 (by omega) (by omega),depthN_eq]
  congr 1
  omega
theorem refDepth_eq {x:ApiNode} (hx:ie x<=1048576):ref11_Depth x=some (i8 x:Int):=refDepth_at 1048576 x hx (Nat.le_refl _)
theorem aR_bd {D:Dt} (V:Two D) {a a':Int} (h:aR D a a'):0<=a/\a<=60000:=by
 obtain⟨i,hi,rfl,_⟩:=h
 have h1:=V.le
 have h2:=V.t.bytes
 have:=aT_nat V.t (i:=i) (by omega)
 omega
theorem eR_bd {D:Dt} (V:Two D) {a a':Int} (h:eR D a a'):0<=a/\a<=60000:=by
 obtain⟨j,h0,hj,rfl,_⟩:=h
 have h1:=V.le
 have h2:=V.t.bytes
 have:=aT_nat V.t (i:=j - 1) (by omega)
 rw[show j - 1+1=j by omega]at this
 omega
theorem oR_bd {D:Dt} (V:Two D) {a a':Int} (h:oR D a a'): -1<=a/\a<=60000:=by
 rcases h with⟨rfl,_⟩|h
 ·omega
 ·have:=aR_bd V h
  omega
theorem shift_at {D:Dt} (V:Two D) (d:Nat) (hd:d<=60000):∀(k:Nat) (x m:ApiNode),NR D x m->ie x<=900000->ie x<=k->k<=1048576->f3 k x (d:Int)=some (shN (d:Int) x):=by
 intro k
 induction k with
 |zero=>intro x m _ _ h _;have:=nsize_pos x;omega
 |succ k ih=>
  intro x m hxm hX hx hk
  show F_ref11_Shift (f3 k) x (d:Int)=_
  generalize hR:f3 k=R
  have hsz:=nsize_eq x
  have hlen:=eg x.Kids
  rw[NR_eq]at hxm
  obtain⟨⟨_,_,_,_,h5,h6,h7,h8⟩,hl⟩:=hxm
  have hll:=hl.len
  have hkid:∀i (h:i<x.Kids.length),R x.Kids[i] (d:Int)=some (shN (d:Int) x.Kids[i]):=fun i h=>by
   have:=nsize_mem (List.getElem_mem h)
   rw[← hR]
   exact ih _ _ (hl.at i h (by omega)) (by omega) (by omega) (by omega)
  have htake:∀i (h:i<x.Kids.length),shL (d:Int) (x.Kids.take (i+1))=shL (d:Int) (x.Kids.take i)++[shN (d:Int) x.Kids[i]]:=fun i h=>by
   rw[List.take_add_one,List.getElem?_eq_getElem h,Option.toList_some,shL_map,shL_map,List.map_append]
   rfl
  unfold F_ref11_Shift
  obtain⟨o,h1,h2⟩:=ke (f:=fun s:Int × List ApiNode=>jq R x (d:Int) s.1 s.2) (fun s=>∃i:Nat,i<=x.Kids.length/\s.1=(i:Int)/\s.2=shL (d:Int) (x.Kids.take i)) (fun o=>o=shL (d:Int) x.Kids) (fun s=>x.Kids.length - s.1.toNat) (by
   rintro⟨_,_⟩ ⟨i,hi,rfl,rfl⟩
   unfold jq
   by_cases hlt:i<x.Kids.length
   ·left
    rw[if_pos (by simp[hlt])]
    simp only[idx_lt hlt,Option.bind_some,hkid i hlt]
    rw[app_small (by rw[shL_map];simp only[List.length_map,List.length_take,List.length_cons,List.length_nil];omega)]
    refine⟨_,rfl,⟨i+1,by omega,ij (by omega),by rw[htake i hlt]⟩,?_⟩
    simp only
    rw[ij (by omega)]
    omega
   ·right
    rw[if_neg (by simp;omega)]
    refine⟨_,rfl,?_⟩
    rw[List.take_of_length_le (by omega)]) (0,[]) ⟨0,by omega,rfl,by simp[shL]⟩
  rw[h1,Option.bind_some]
  subst h2
  have b5:=aR_bd V h5
  have b6:=eR_bd V h6
  have b7:=oR_bd V h7
  have b8:=oR_bd V h8
  clear hl hll hkid htake h1 h5 h6 h7 h8 hR ih hsz hlen hx
  obtain⟨kd,t,y,nn,f,to,a,ta,kids⟩:=x
  simp only at b5 b6 b7 b8
  unfold ref11_Shift_k3 kr ks
  simp only[decide_eq_true_eq,shN]
  rw[i6 (n:=f+(d:Int)) (by omega) (by omega),i6 (n:=to+(d:Int)) (by omega) (by omega)]
  have ea:w64 (a+(d:Int))=a+(d:Int):=i6 (by omega) (by omega)
  have et:w64 (ta+(d:Int))=ta+(d:Int):=i6 (by omega) (by omega)
  rw[ea,et]
  by_cases ha:a≥0<;>by_cases ht:ta≥0
  ·rw[if_pos ha,if_pos ht,if_pos (show 0<=a from ha),if_pos (show 0<=ta from ht)]
  ·rw[if_pos ha,if_neg ht,if_pos (show 0<=a from ha),if_neg (show ¬0<=ta from ht)]
  ·rw[if_neg ha,if_pos ht,if_neg (show ¬0<=a from ha),if_pos (show 0<=ta from ht)]
  ·rw[if_neg ha,if_neg ht,if_neg (show ¬0<=a from ha),if_neg (show ¬0<=ta from ht)]
theorem isB_member {x:List UInt8} {T:List ApiToken} (hT:TokP x T) {n:ApiNode} {p:ParseParser} (h:bq ⟨T,0⟩=some (.ok (n,p))):isB (T.getD 0 cq) [125]=false:=by
 have hp:=hT.pos
 have g:T[0]=T.getD 0 cq:=by simp[List.getD,hp]
 by_cases hB:isB (T.getD 0 cq) [125]=true
 ·exfalso
  have hq:(T.getD 0 cq).Text=[125]/\((T.getD 0 cq).Kind=4\/(T.getD 0 cq).Kind=3):=by
   unfold isB at hB
   simpa using hB
  have hty:isTy (T.getD 0 cq)=false:=by
   unfold isTy isB
   rw[hq.1]
   rcases hq.2 with h|h<;>(rw[h];decide)
  have hs:isB (T.getD 0 cq) [115,116,97,116,105,99]=false:=by
   unfold isB
   rw[hq.1]
   rfl
  have e1:=met_eq hT (i:=0) hp [115,116,97,116,105,99]
  rw[g,if_neg (by rw[hs];decide)]at e1
  have e2:=now_eq hT (i:=0) hp
  have e3:=fail_eq hT (i:=0) hp 120
  unfold bq at h
  rw[show(⟨T,0⟩:ParseParser)=⟨T,((0:Nat):Int)⟩from rfl,e1,Option.bind_some]at h
  simp only at h
  rw[e2,Option.bind_some,isType_eq,Option.bind_some,g,hty,e3]at h
  simp[bm]at h
 ·simpa using hB
theorem law_parts_member (a name:List UInt8) (ha:a.length<=2500) (hn:nameL name=true):fp name a=some true:=by
 have hnl:name.length<=20:=by
  cases name with
  |nil=>cases hn
  |cons c l=>simpa using(tokL_name hn []).2.2
 unfold fp
 rw[cat_small (by simp;omega),Option.bind_some,cat_small (by simp;omega),Option.bind_some]
 obtain⟨n,m,hM,hok⟩:=Member_one (x:=a) (by omega)
 rw[hM,Option.bind_some]
 simp only
 rw[cat_small (by simp;omega),Option.bind_some,cat_small (by simp;omega),Option.bind_some]
 have hx:(headL name++a++[10,125]).length<=50000:=by simp[headL];omega
 by_cases hc:m.Code=0
 ·obtain⟨Ta,hra,hm,hg,hd⟩:=hok hc
  obtain⟨T,hr,hlen,k0,k1,k2,hA,k4⟩:=class_tokens hn hra
  have hTa:=tokP_of (by omega) hra
  have hT:=tokP_of hx hr
  have hpa:=hTa.pos
  have hla:=hTa.len
  have hlt:=hg.lt
  have hsz:=hg.sz
  let D:Dt:=⟨a,headL name++a++[10,125],Ta,T,Ta.length - 1,3,False⟩
  have V:Two D:=⟨hTa,hT,by show Ta.length - 1<=Ta.length;omega,by show Ta.length - 1+3<=T.length;omega,fun i hi=>by
   have hi:i<Ta.length - 1:=hi
   have:=hA i (by omega)
   exact⟨this.1,this.2.1⟩,fun h=>h.elim⟩
  obtain⟨r,hr2,hw⟩:=member_ok V (i:=0) hpa
  have hr2:bq ⟨Ta,0⟩=some r:=hr2
  rw[hm]at hr2
  injection hr2 with hr2
  subst hr2
  obtain⟨j,e,hj,_,_,hrel⟩:=hw
  have e:(⟨Ta,((Ta.length - 1:Nat):Int)⟩:ParseParser)=⟨Ta,(j:Int)⟩:=e
  injection e with _ e
  have hj:j<Ta.length:=hj
  obtain rfl:j=Ta.length - 1:=by omega
  obtain⟨n',hm',hnr⟩:=hrel (by show Ta.length - 1<Ta.length - 1+1;omega)
  have hm':bq ⟨T,3⟩=some (.ok (n',⟨T,((Ta.length - 1+3:Nat):Int)⟩)):=hm'
  have hsh:n'=shN ((headL name).length:Int) n:=NR.sh V (fun i hi=>by
   have hi:i<Ta.length - 1:=hi
   exact(hA i (by omega)).2.2) (fun j h0 hj=>by
   have hj:j<=Ta.length - 1:=hj
   have:=hA (j - 1) (by omega)
   exact eT_sh h0 this.2.2 this.2.1) hnr
  have hB:isB (T.getD 3 cq) [125]=false:=by
   have h1:=isB_member hTa hm
   have h2:=hA 0 (by omega)
   unfold isB at h1 ⊢
   rw[h2.1,h2.2.1]
   exact h1
  obtain⟨C,hit,hC⟩:=class_run hT (q:=Ta.length - 1) hlen k0 k1 k2 hB k4 hm'
  have hnsz:ie n'=ie n:=hnr.size
  have hnd:i8 n'=i8 n:=hnr.depth
  have hF':∀hd2:i8 n<200,eq (headL name++a++[10,125])=some ([C],⟨0,0,0⟩):=fun hd2=>by
   refine File_fwd hx hr hit ?_ ?_
   ·simp only[cl]
    rw[nsize_eq,hC]
    simp only[cl]
    omega
   ·simp only[eb]
    rw[depthN_eq,hC]
    simp only[eb]
    omega
  obtain⟨lc,mc,hF,_⟩:=File_one hx
  have e0:[99,108,97,115,115,32]++name++[123]++a++[10,125]=headL name++a++[10,125]:=rfl
  rw[e0,hF,Option.bind_some]
  simp only
  rw[if_neg (by simp[hc]),refDepth_eq (by omega),Option.bind_some]
  by_cases hd2:i8 n≥200
  ·rw[if_pos (by simp;omega)]
   rfl
  ·rw[if_neg (by simp;omega)]
   have:=hF' (by omega)
   rw[this]at hF
   injection hF with hF
   injection hF with h1 h2
   subst h1 h2
   rw[if_pos (by simp),if_pos (by simp)]
   have hs:ref11_Shift n ((headL name).length:Int)=some (shN ((headL name).length:Int) n):=by
    exact shift_at V (headL name).length (by simp[headL];omega) 1048576 n n' hnr (by omega) (by omega) (Nat.le_refl _)
   have e1:(([99,108,97,115,115,32]++name++[123]:List UInt8).length:Int)=((headL name).length:Int):=rfl
   rw[show idx [C] 0=some C from rfl,Option.bind_some,if_pos (by rw[hC];simp),Option.bind_some,show idx C.Kids 0=some n' by rw[hC];rfl,Option.bind_some,e1,hs,Option.bind_some,hsh,Exact_same (by rw[shN_size];omega),Option.bind_some]
   rfl
 ·obtain⟨lc,mc,hF,_⟩:=File_one hx
  have e0:[99,108,97,115,115,32]++name++[123]++a++[10,125]=headL name++a++[10,125]:=rfl
  rw[e0,hF,Option.bind_some]
  simp only
  rw[if_pos (by simpa using hc)]
theorem Exact_row {l r:List ApiNode} (hs:cl l<=60000):iter (fun s=>en l (l++r) s) 0=some (.next ()):=by
 have hln:=eg l
 obtain⟨o,h1,h2⟩:=ke (f:=fun s:Int=>en l (l++r) s) (fun s=>∃i:Nat,i<=l.length/\s=(i:Int)) (fun o=>o= .next ()) (fun s=>l.length - s.toNat) (by
  rintro _ ⟨i,hi,rfl⟩
  unfold en jm
  by_cases hlt:i<l.length
  ·left
   have hlt':i<(l++r).length:=by simp;omega
   have hg:(l++r)[i]=l[i]:=List.getElem_append_left hlt
   have hnm:=nsize_mem (List.getElem_mem hlt)
   rw[if_pos (by simp[hlt])]
   rw[idx_lt hlt',Option.bind_some,idx_lt hlt,Option.bind_some,hg,Exact_same (by omega),Option.bind_some]
   refine⟨_,rfl,⟨i+1,by omega,ij (by omega)⟩,?_⟩
   rw[ij (by omega)]
   omega
  ·right
   rw[if_neg (by simp;omega)]
   exact⟨_,rfl,rfl⟩) 0 ⟨0,by omega,rfl⟩
 rw[h1,h2]
theorem law_ParseParts (a b name:List UInt8):k5 a b name=some true:=by
 unfold k5 law12_short fo
 rw[awake12,Option.bind_some,if_neg (by simp),Option.bind_some,Option.bind_some]
 by_cases ha:a.length<=2500
 ·rw[if_neg (by simp;omega)]
  by_cases hb:b.length<=2500
  ·rw[if_neg (by simp;omega),ref03_Name_eq,Option.bind_some]
   cases hn:nameL name with
   |false=>rfl
   |true=>
    rw[if_neg (by simp)]
    have hj2:=law_parts_member a name ha hn
    obtain⟨l,m,hla,_,_,_,hl⟩:=File_one (x:=a) (by omega)
    obtain⟨k,o,hkb,_,_,_,hk⟩:=File_one (x:=b) (by omega)
    have hx:(a++[10]++b).length<=50000:=by simp;omega
    obtain⟨l2,m2,hF,_⟩:=File_one hx
    rw[hla,Option.bind_some]
    simp only
    rw[hkb,Option.bind_some]
    simp only
    rw[cat_small (by simp;omega),Option.bind_some,cat_small (by simp;omega),Option.bind_some,hF,Option.bind_some]
    simp only
    unfold gx
    by_cases hm:m.Code=0
    ·rw[if_pos (by simp[hm])]
     by_cases ho:o.Code=0
     ·rw[if_pos (by simp[ho])]
      have hj:=files_join (by omega) (by omega) hla hm hkb ho
      rw[show a++10::b=a++[10]++b by simp,hF]at hj
      injection hj with hj
      injection hj with h1 h2
      subst h1 h2
      obtain⟨T,hr,hg,_,_⟩:=(hl.resolve_left (fun h=>h.1 hm)).2
      obtain⟨T2,hr2,hg2,_,_⟩:=(hk.resolve_left (fun h=>h.1 ho)).2
      have e1:cl l<=T.length - 1 - 0:=hg.sz
      have e2:cl k<=T2.length - 1 - 0:=hg2.sz
      have t1:=(tokP_of (by omega) hr).len
      have t2:=(tokP_of (by omega) hr2).len
      have n1:=eg l
      have n2:=eg k
      have hln:((l++shL ((a.length:Int)+1) k).length:Int)=w64 ((l.length:Int)+(k.length:Int)):=by
       rw[i6 (by omega) (by omega),List.length_append,shL_map,List.length_map]
       omega
      rw[if_neg (by simp)]
      unfold gy jl
      rw[if_neg (by rw[hln];simp),Exact_row (by omega),Option.bind_some]
      exact hj2
     ·rw[if_neg (by simpa using ho)]
      exact hj2
    ·rw[if_neg (by simpa using hm),if_neg (by simp)]
     exact hj2
  ·rw[if_pos (by simp;omega)]
   rfl
 ·rw[if_pos (by simp;omega)]
  rfl
end Go.Proofs.YtackaijkmkollaaGreatDoor
