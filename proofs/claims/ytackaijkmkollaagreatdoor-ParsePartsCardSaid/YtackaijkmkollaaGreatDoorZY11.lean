/- Files put one behind the other. -/
import Derived.Test.YtackaijkmkollaaGreatDoorZY10
set_option linter.unusedSimpArgs false
set_option linter.unusedVariables false
set_option linter.unusedSectionVars false
set_option linter.unusedSectionVars false
set_option linter.unusedVariables false
set_option linter.unusedSimpArgs false
set_option maxHeartbeats 4000000
namespace Go.Proofs.YtackaijkmkollaaGreatDoor
open Go Go.Cn
theorem File_inv {x:List UInt8} {l:List ApiNode} {m:ApiMistake} (hx:x.length<=50000) (h:eq x=some (l,m)) (hc:m.Code=0):∃T,LexR 0 x T 0 0/\iter (fun s=>au s.1 s.2) (⟨T,0⟩,[])=some (.next (⟨T,((T.length - 1:Nat):Int)⟩,l))/\LG x T l 0 (T.length - 1)/\eb l<=200:=by
  rw[parse_File_eq]at h
  unfold runF at h
  rw[if_pos (by omega)]at h
  by_cases he:(lexM x).2.2=0
  · obtain⟨T,hr,hI⟩:=lexI_ok he
    have hT:=tokP_of hx hr
    rw[hI]at h
    unfold runI at h
    rw[if_neg (by simp)]at h
    have hf:=file_ok (Two.one hT) [] (by simp)
    obtain⟨z,hz,hw⟩:=hf
    simp only at h
    unfold ip jc at h
    have hz:iter (fun s=>au s.1 s.2) (⟨T,0⟩,[])=some z:=hz
    rw[hz]at h
    cases z with
    | done r =>
      cases r with
      |ok a=>obtain⟨j,_,_,_,h,_⟩:=hw;exact h.elim
      |bad m'=>
        obtain⟨h1,_⟩:=hw
        simp only[Option.bind_some,bm]at h
        injection h with h
        injection h with _ h
        subst h
        have:=h1.2.2.2
        omega
    |next st=>
      obtain⟨p,l2⟩:=st
      obtain⟨j,e,⟨h1,h2⟩,h3,_,_⟩:=hw
      have h2:j+1=T.length:=h2
      have h1:LG x T l2 0 j/\∀n∈l2,n.Kind=1:=h1
      have e:p=⟨T,(j:Int)⟩:=e
      subst e
      obtain rfl:j=T.length - 1:=by omega
      obtain⟨t,ht,htk⟩:=now_last hT
      have hs:cl l2<=_:=h1.1.sz
      have hlen:=hT.len
      have hp:=hT.pos
      simp only[bm,Option.bind_some,ht]at h
      rw[if_neg (by simp[htk])]at h
      by_cases hd:eb l2<=200
      · rw[deep_ok hp (by omega) hd]at h
        simp only[Option.bind_some]at h
        injection h with h
        injection h with h _
        subst h
        exact⟨T,hr,hz,h1.1,hd⟩
      · obtain⟨a,k1,_⟩:=deep_bad (p:=⟨T,((T.length - 1:Nat):Int)⟩) hp (show cl l2<=1000000 by omega) (by omega)
        rw[k1]at h
        simp only[Option.bind_some]at h
        injection h with h
        injection h with _ h
        subst h
        exact absurd hc (show ¬(2:Int)=0 by decide)
  · unfold runI lexI at h
    simp only at h
    rw[if_pos (by simpa using he)]at h
    simp only[Option.bind_some]at h
    injection h with h
    injection h with _ h
    subst h
    exact absurd hc (by simpa using he)
theorem File_fwd {x:List UInt8} {T:List ApiToken} {l:List ApiNode} (hx:x.length<=50000) (hr:LexR 0 x T 0 0) (hit:iter (fun s=>au s.1 s.2) (⟨T,0⟩,[])=some (.next (⟨T,((T.length - 1:Nat):Int)⟩,l))) (hs:cl l<=1000000) (hd:eb l<=200):eq x=some (l,⟨0,0,0⟩):=by
 have hI:lexI x=(T,0,0):=by unfold lexI;rw[rel_lexM hr];rfl
 have hT:=tokP_of hx hr
 obtain⟨t,ht,htk⟩:=now_last hT
 rw[parse_File_eq]
 unfold runF
 rw[if_pos (by omega),hI]
 unfold runI
 rw[if_neg (by simp)]
 simp only
 unfold ip jc
 rw[hit]
 simp only[bm,Option.bind_some,ht]
 rw[if_neg (by simp[htk]),deep_ok hT.pos hs hd]
 rfl
theorem file_upto {D:Dt} (V:Two D) (hN:D.N+1=D.T.length) (lout:List ApiNode):∀(n j:Nat) (l l':List ApiNode),D.N - j<=n->j<=D.N->LR D l l'->l.length<=j->iter (fun s=>au s.1 s.2) (D.p j,l)=some (.next (D.p D.N,lout))->∃lout',LR D lout lout'/\iter (fun s=>au s.1 s.2) (D.p' j,l')=iter (fun s=>au s.1 s.2) (D.p' D.N,lout'):=by
 intro n
 have hlen:=V.t.len
 have hdone:∀(l l':List ApiNode),LR D l l'->iter (fun s=>au s.1 s.2) (D.p D.N,l)=some (.next (D.p D.N,lout))->∃lout',LR D lout lout'/\iter (fun s=>au s.1 s.2) (D.p' D.N,l')=iter (fun s=>au s.1 s.2) (D.p' D.N,lout'):=fun l l' hlr h=>by
  have hk:(D.tk D.N).Kind=5:=by
   rw[← tk_eq V (i:=D.N) (by omega)]
   exact(V.t.last D.N (by omega)).2 hN
  have e:(fun s:ParseParser × List ApiNode=>au s.1 s.2) (D.p D.N,l)=some (.inr (.next (D.p D.N,l))):=by
   show au (D.p D.N) l=_
   unfold au
   rw[now_eq V.t (by omega),Option.bind_some,tk_eq V (by omega),if_neg (by rw[hk];decide)]
  rw[@iter_done noG _ _ _ _ _ e]at h
  injection h with h
  injection h with h
  injection h with _ h
  subst h
  exact⟨l',hlr,rfl⟩
 induction n with
 |zero=>
  intro j l l' h1 h2 hlr _ h
  obtain rfl:j=D.N:=by omega
  exact hdone l l' hlr h
 |succ n ih=>
  intro j l l' h1 h2 hlr hl h
  by_cases hj:j=D.N
  ·subst hj
   exact hdone l l' hlr h
  ·have hjN:j<D.N:=by omega
   have hjT:j<D.T.length:=by omega
   have hk:(D.tk j).Kind≠5:=fun hk=>by
    rw[← tk_eq V hjT]at hk
    have:=(V.t.last j hjT).1 hk
    omega
   obtain⟨hj',ht⟩:=TR_tok V hjN
   obtain⟨r,hr,hw⟩:=class_ok V hjT
   cases r with
   |bad m=>
    have e:(fun s:ParseParser × List ApiNode=>au s.1 s.2) (D.p j,l)=some (.inr (.done (.bad m))):=by
     show au (D.p j) l=_
     unfold au
     rw[now_eq V.t hjT,Option.bind_some,tk_eq V hjT,if_pos (by simpa using hk),hr]
     rfl
    rw[@iter_done noG _ _ _ _ _ e]at h
    injection h with h
    cases h
   |ok a=>
    obtain⟨nd,p⟩:=a
    obtain⟨k,e,hkT,hjk,hq,hrel⟩:=hw
    simp only at e hq hrel
    subst e
    obtain⟨nd',e',hnr⟩:=hrel (by omega)
    have hap:app 104 l [nd]=some (l++[nd]):=app_small (by simp;omega)
    have hap':app 104 l' [nd']=some (l'++[nd']):=app_small (by have:=hlr.len;simp;omega)
    have e1:(fun s:ParseParser × List ApiNode=>au s.1 s.2) (D.p j,l)=some (.inl (D.p k,l++[nd])):=by
     show au (D.p j) l=_
     unfold au
     rw[now_eq V.t hjT,Option.bind_some,tk_eq V hjT,if_pos (by simpa using hk),hr]
     simp only[bm]
     rw[hap]
     rfl
    have e2:(fun s:ParseParser × List ApiNode=>au s.1 s.2) (D.p' j,l')=some (.inl (D.p' k,l'++[nd'])):=by
     show au (D.p' j) l'=_
     unfold au
     rw[now_eq V.t' hj',Option.bind_some,if_pos (by rw[(ht hjN).1];simpa using hk),e']
     simp only[bm]
     rw[hap']
     rfl
    rw[@iter_next noG _ _ _ _ _ e1]at h
    rw[@iter_next noG _ _ _ _ _ e2]
    exact ih k _ _ (by omega) (by omega) (LR.append hlr (LR.one hnr)) (by simp;omega) h
theorem join_tokens {a b:List UInt8} {Ta Tb:List ApiToken} (ha:LexR 0 a Ta 0 0) (hb:LexR 0 b Tb 0 0):∃T,LexR 0 (a++10::b) T 0 0/\T.length=Ta.length - 1+Tb.length/\(∀i,i+1<Ta.length->(T.getD i cq).Kind=(Ta.getD i cq).Kind/\(T.getD i cq).Text=(Ta.getD i cq).Text/\(T.getD i cq).At=(Ta.getD i cq).At)/\(∀i,i<Tb.length->(T.getD (i+(Ta.length - 1)) cq).Kind=(Tb.getD i cq).Kind/\(T.getD (i+(Ta.length - 1)) cq).Text=(Tb.getD i cq).Text/\(T.getD (i+(Ta.length - 1)) cq).At=(Tb.getD i cq).At+((a.length:Int)+1)):=by
 obtain⟨m,h1,h2⟩:=lexR_move hb rfl (a.length+1)
 obtain⟨T,h3,h4⟩:=lexR_join ha b m rfl (by rw[Nat.zero_add];exact h1)
 have l1:=sameD_len h2
 have l2:=sameD_len h4
 have l0:Ta.dropLast.length=Ta.length - 1:=List.length_dropLast
 refine⟨T,h3,by rw[l2,List.length_append,l0,l1],fun i hi=> ?_,fun i hi=> ?_⟩
 ·have:=sameD_at (i:=i) h4 (by rw[List.length_append,l0];omega)
  rw[getD_left (by omega),getD_last hi]at this
  simpa using this
 ·have h5:=sameD_at (i:=Ta.dropLast.length+i) h4 (by rw[List.length_append];omega)
  rw[getD_right,l0,Nat.add_comm]at h5
  have h6:=sameD_at (i:=i) h2 hi
  rw[h5.1,h5.2.1,h5.2.2,h6.1,h6.2.1,h6.2.2]
  refine⟨rfl,rfl,by omega⟩
theorem files_join {a b:List UInt8} {l k:List ApiNode} {m o:ApiMistake} (ha:a.length<=20000) (hb:b.length<=20000) (hla:eq a=some (l,m)) (hm:m.Code=0) (hkb:eq b=some (k,o)) (ho:o.Code=0):eq (a++10::b)=some (l++shL ((a.length:Int)+1) k,⟨0,0,0⟩):=by
 obtain⟨Ta,hra,hia,hga,hda⟩:=File_inv (by omega) hla hm
 obtain⟨Tb,hrb,hib,hgb,hdb⟩:=File_inv (by omega) hkb ho
 obtain⟨T,hr,hlen,hA,hB⟩:=join_tokens hra hrb
 have hTa:=tokP_of (by omega) hra
 have hTb:=tokP_of (by omega) hrb
 have hx:(a++10::b).length<=50000:=by simp;omega
 have hT:=tokP_of hx hr
 have pa:=hTa.pos
 have pb:=hTb.pos
 have la:=hTa.len
 have lb:=hTb.len
 let Da:Dt:=⟨a,a++10::b,Ta,T,Ta.length - 1,0,False⟩
 have Va:Two Da:=⟨hTa,hT,by show Ta.length - 1<=Ta.length;omega,by show Ta.length - 1+0<=T.length;omega,fun i hi=>by
  have hi:i<Ta.length - 1:=hi
  have:=hA i (by omega)
  exact⟨this.1,this.2.1⟩,fun h=>h.elim⟩
 obtain⟨l',hlr,e1⟩:=file_upto Va (by show Ta.length - 1+1=Ta.length;omega) l _ 0 [] [] (Nat.le_refl _) (Nat.zero_le _) rfl (Nat.le_refl _) hia
 have hl':l'=l:=by
  have:=LR.sh Va (d:=0) (fun i hi=>by
   have hi:i<Ta.length - 1:=hi
   have:=(hA i (by omega)).2.2
   show(T.getD (i+0) cq).At=(Ta.getD i cq).At+0
   rw[Nat.add_zero,this,Int.add_zero]) (fun j h0 hj=>by
   have hj:j<=Ta.length - 1:=hj
   have:=hA (j - 1) (by omega)
   exact eT_sh h0 (by rw[Nat.add_zero,this.2.2,Int.add_zero]) (by rw[Nat.add_zero,this.2.1])) hlr
  rw[this,shL_zero]
 subst hl'
 let Db:Dt:=⟨b,a++10::b,Tb,T,Tb.length,Ta.length - 1,True⟩
 have Vb:Two Db:=⟨hTb,hT,Nat.le_refl _,by show Tb.length+(Ta.length - 1)<=T.length;omega,fun i hi=>by
  have:=hB i hi
  exact⟨this.1,this.2.1⟩,fun _=>⟨rfl,by show T.length=Tb.length+(Ta.length - 1);omega⟩⟩
 have hsa:=hga.sz
 have hsb:=hgb.sz
 have hln:=eg l'
 obtain⟨z,hz,hw⟩:=file_ok Vb l' (by omega)
 have hz:iter (fun s=>au s.1 s.2) (⟨Tb,0⟩,[])=some z:=hz
 rw[hib]at hz
 injection hz with hz
 subst hz
 obtain⟨j,e,_,hj,_,hrel⟩:=hw
 have e:(⟨Tb,((Tb.length - 1:Nat):Int)⟩:ParseParser)=⟨Tb,(j:Int)⟩:=e
 injection e with _ e
 have hj:j<Tb.length:=hj
 obtain rfl:j=Tb.length - 1:=by omega
 obtain⟨kk,e2,m',rfl,hkr⟩:=hrel hj
 have hk':m'=shL ((a.length:Int)+1) k:=LR.sh Vb (d:=(a.length:Int)+1) (fun i hi=>(hB i hi).2.2) (fun j h0 hj=>by
  have hj:j<=Tb.length:=hj
  have:=hB (j - 1) (by omega)
  exact eT_sh h0 this.2.2 this.2.1) hkr
 subst hk'
 refine File_fwd hx hr ?_ ?_ ?_
 ·have e1:iter (fun s=>au s.1 s.2) (⟨T,0⟩,[])=iter (fun s=>au s.1 s.2) (⟨T,((Ta.length - 1+0:Nat):Int)⟩,l'):=e1
  have e2:iter (fun s=>au s.1 s.2) (⟨T,((0+(Ta.length - 1):Nat):Int)⟩,l')=some (.next (⟨T,((Tb.length - 1+(Ta.length - 1):Nat):Int)⟩,l'++shL ((a.length:Int)+1) k)):=e2
  rw[e1,Nat.add_zero]
  rw[Nat.zero_add]at e2
  rw[e2,hlen,show Ta.length - 1+Tb.length - 1=Tb.length - 1+(Ta.length - 1)by omega]
 ·rw[nsizes_append,shL_size]
  omega
 ·have hd2:eb (shL ((a.length:Int)+1) k)=eb k:=hkr.depth
  rw[depthL_append,hd2]
  omega
end Go.Proofs.YtackaijkmkollaaGreatDoor
