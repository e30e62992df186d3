/- What takes a file, in both texts; where a file's nodes stand. -/
import Derived.Test.YtackaijkmkollaaGreatDoorZY6
set_option linter.unusedSimpArgs false
set_option linter.unusedVariables false
set_option linter.unusedSectionVars false
set_option linter.unusedSectionVars false
set_option linter.unusedVariables false
set_option linter.unusedSimpArgs false
set_option maxHeartbeats 4000000
namespace Go.Proofs.YtackaijkmkollaaGreatDoor
open Go Go.Cn
def FI (D:Dt) (l:List ApiNode) (j:Nat):Prop:=LG D.x D.T l 0 j/\∀n∈l,n.Kind=1
theorem sw_app' {D:Dt} (V:Two D) {s:Nat} {Ω:Type} {W:Nat->Ω->(Ω->Prop)->Prop} {bad:ParseWrong->Ω} (P:Pst D s W bad) {b:Nat} {F F':List ApiNode->Option Ω} {l m l' m':List ApiNode} (i:Nat) (hi:i<D.T.length) (hb:i+s<=b) (hs:l.length+m.length<=1000000) (hl:i<D.N->l'.length+m'.length<=1000000) (h:SW W b (F (l++m)) (F' (l'++m'))):SW W b ((app 104 l m).bind F) ((app 104 l' m').bind F'):=by
 rw[app_small ⟨hs,by omega⟩]
 by_cases hn:i<D.N
 ·rw[app_small ⟨hl hn,by omega⟩]
  exact h
 ·exact jy V P hi hn hb h
theorem file_ok {D:Dt} (V:Two D) (pre:List ApiNode) (hpre:pre.length<=500000):SW (FinF D 0 (β:=List ApiNode) (fun l j=>FI D l j/\j+1=D.T.length) (fun l l'=>∃m,l'=pre++m/\LR D l m) (fun _ _=>False) (fun _ _=>False)) 0 (iter (fun s=>au s.1 s.2) (D.p 0,[])) (iter (fun s=>au s.1 s.2) (D.p' 0,pre)):=by
 have hlen:=V.t.len
 have P1:=pFinF V (s:=0) (β:=List ApiNode) (fun l j=>FI D l j/\j+1=D.T.length) (fun l l'=>∃m,l'=pre++m/\LR D l m) (fun _ _=>False) (fun _ _=>False)
 refine sw_iter V P1 (I:=FI D) (J:=fun l l'=>∃m,l'=pre++m/\LR D l m) V.t.pos ⟨LG.nil D.x D.T 0,fun n h=>by simp at h⟩ (fun _=>⟨[],by simp,LR.nil⟩) (by omega) (fun j l l' _ hj hl hr=> ?_)
 have P:=pFinS V (s:=0) (FI D) (fun l l'=>∃m,l'=pre++m/\LR D l m) P1 j
 unfold au
 refine sw_now V P hj (Nat.le_refl _) (fun t' ht=> ?_)
 refine sw_ite V P hj (Nat.le_refl _) (fun h=>by rw[(ht h).1]) (fun hk=> ?_) (fun hk=> ?_)
 ·refine ff V P (fun k=>k) (class_ok V hj) (fun k hk=>⟨by omega,by omega,by omega⟩) (fun k n n' hk hjk hn hnr=> ?_)
  have hl2:=LG.snoc V.t hl.1 hn.1 (Nat.le_refl _) (Nat.le_of_lt hk)
  have h3:=hl2.sz
  have h4:=eg (l++[n])
  refine sw_app' V P k hk (Nat.le_refl _) (by simp at h4 ⊢;omega) (fun h=> ?_) ?_
  ·obtain⟨m,rfl,hm⟩:=hr (by omega)
   have:=hm.len
   simp only[List.length_append,List.length_cons,List.length_nil]at h4 ⊢
   omega
  ·refine sw_inl hk (by omega) (Nat.le_refl _) ⟨hl2,fun y hy=> ?_⟩ (fun h=> ?_)
   ·rcases List.mem_append.1 hy with hy|hy
    ·exact hl.2 y hy
    ·rw[List.mem_singleton.1 hy];exact hn.2
   ·obtain⟨m,rfl,hm⟩:=hr (by omega)
    exact⟨m++[n'],by rw[List.append_assoc],LR.append hm (LR.one (hnr (by omega)))⟩
 ·have hk:(D.tk j).Kind=5:=by simpa using hk
  have hj1:j+1=D.T.length:=(V.t.last j hj).1 (by rw[tk_eq V hj];exact hk)
  exact sw_next hj (Nat.le_refl _) ⟨hl,hj1⟩ hr
theorem gdL_mem {x:List UInt8} {n:ApiNode}:∀{l:List ApiNode},gdL x l->n∈l->gd x n
 |y::l,h,hn=>by
  simp only[gdL]at h
  rcases List.mem_cons.1 hn with rfl|hn
  ·exact h.1
  ·exact gdL_mem h.2 hn
theorem chain_mem {n:ApiNode} {hi:Int}:∀{l:List ApiNode} {lo:Int},chain lo hi l->n∈l->lo<=n.From/\n.From<=n.To/\n.To<=hi
 |y::l,lo,⟨h1,h2,h3,h4⟩,hn=>by
  rcases List.mem_cons.1 hn with rfl|hn
  ·exact⟨h1,h2,h3⟩
  ·obtain⟨a,b,c⟩:=chain_mem h4 hn
   exact⟨by omega,b,c⟩
def Dt.one (x:List UInt8) (T:List ApiToken):Dt:=⟨x,x,T,T,0,0,False⟩
theorem Two.one {x:List UInt8} {T:List ApiToken} (h:TokP x T):Two (Dt.one x T):=⟨h,h,Nat.zero_le _,Nat.zero_le _,fun i hi=>absurd hi (Nat.not_lt_zero i),fun h=>h.elim⟩
theorem deep_ok {l:List ApiNode} {T:List ApiToken} {p:ParseParser} (hT:0<T.length) (hs:cl l<=1000000) (hd:eb l<=200):gi l T p=some (.ok (l,⟨0,0,0⟩)):=by
 have hln:=eg l
 unfold gi
 obtain⟨o,h1,h2⟩:=ke (f:=fun s:Int=>jd l T s) (fun s=>∃i:Nat,i<=l.length/\s=(i:Int)) (fun o=>o= .next ()) (fun s=>l.length - s.toNat) (by
  rintro _ ⟨i,hi,rfl⟩
  unfold jd
  by_cases hlt:i<l.length
  ·left
   rw[if_pos (by simp[hlt])]
   have hm:=List.getElem_mem hlt
   have h3:=depthL_mem hm
   have h4:=nsize_mem hm
   simp only[idx_lt hlt,Option.bind_some,Depth_eq (show ie l[i]<=1048576 by omega)]
   rw[if_neg (by simp;omega)]
   refine⟨_,rfl,⟨i+1,by omega,ij (by omega)⟩,?_⟩
   rw[ij (by omega)]
   omega
  ·right
   rw[if_neg (by simp;omega)]
   exact⟨_,rfl,rfl⟩) 0 ⟨0,by omega,rfl⟩
 rw[h1]
 subst h2
 rfl
theorem deep_bad {l:List ApiNode} {T:List ApiToken} {p:ParseParser} (hT:0<T.length) (hs:cl l<=1000000) (hd:200<eb l):∃a,gi l T p=some (.ok ([],⟨2,0,a⟩))/\(a=T[0].At\/∃n∈l,a=n.From):=by
 have hln:=eg l
 have hex:∃i,∃h:i<l.length,i8 l[i]>200:=by
  clear hs hln
  induction l with
  |nil=>simp[eb]at hd
  |cons n l ih=>
   by_cases h:i8 n>200
   ·exact⟨0,by simp,h⟩
   ·obtain⟨i,hi,h2⟩:=ih (by simp only[eb]at hd;omega)
    exact⟨i+1,by simpa using hi,h2⟩
 obtain⟨q,hq,hdq⟩:=hex
 unfold gi
 obtain⟨o,h1,h2⟩:=ke (f:=fun s:Int=>jd l T s) (fun s=>∃i:Nat,i<=q/\s=(i:Int)) (fun o=>∃a,o= .done (.ok ([],⟨2,0,a⟩))/\(a=T[0].At\/∃n∈l,a=n.From)) (fun s=>l.length - s.toNat) (by
  rintro _ ⟨i,hi,rfl⟩
  unfold jd parse_run_j4 parse_run_j3
  have hlt:i<l.length:=by omega
  rw[if_pos (by simp[hlt])]
  have hm:=List.getElem_mem hlt
  have h4:=nsize_mem hm
  have h5:=depth_le l[i]
  simp only[idx_lt hlt,Option.bind_some,Depth_eq (show ie l[i]<=1048576 by omega)]
  by_cases hc:i8 l[i]>200
  ·right
   rw[if_pos (by simp;omega)]
   by_cases hk:(l[i].Kind != 1)=true
   ·rw[if_pos hk,show idx T 0=some T[0]from idx_nat (i:=0) hT,Option.bind_some]
    exact⟨_,rfl,_,rfl,.inl rfl⟩
   ·rw[if_neg hk]
    exact⟨_,rfl,_,rfl,.inr ⟨_,hm,rfl⟩⟩
  ·left
   have hne:i≠q:=fun h=>by subst h;exact hc hdq
   rw[if_neg (by simp;omega)]
   refine⟨_,rfl,⟨i+1,by omega,ij (by omega)⟩,?_⟩
   rw[ij (by omega)]
   omega) 0 ⟨0,by omega,rfl⟩
 rw[h1]
 obtain⟨a,rfl,ha⟩:=h2
 exact⟨a,rfl,ha⟩
theorem rule_ok {x:List UInt8} {T:List ApiToken} (hT:TokP x T):(∃l,ip ⟨T,0⟩=some (.ok (l,⟨T,((T.length - 1:Nat):Int)⟩))/\LG x T l 0 (T.length - 1)/\∀n∈l,n.Kind=1)\/(∃m,ip ⟨T,0⟩=some (.bad m)/\BadE x m):=by
 have h:=file_ok (Two.one hT) [] (by simp)
 obtain⟨z,hz,hw⟩:=h
 unfold ip jc
 have hz:iter (fun s=>au s.1 s.2) (⟨T,0⟩,[])=some z:=hz
 rw[hz]
 cases z with
 |done r=>
  right
  cases r with
  |ok a=>obtain⟨j,_,_,_,h,_⟩:=hw;exact h.elim
  |bad m=>exact⟨m,rfl,hw.1⟩
 |next st=>
  left
  obtain⟨p,l⟩:=st
  obtain⟨j,e,⟨h1,h2⟩,h3,_,_⟩:=hw
  have h2:j+1=T.length:=h2
  have h1:LG x T l 0 j/\∀n∈l,n.Kind=1:=h1
  have e:p=⟨T,(j:Int)⟩:=e
  subst e
  obtain rfl:j=T.length - 1:=by omega
  exact⟨l,rfl,h1⟩
theorem now_last {x:List UInt8} {T:List ApiToken} (hT:TokP x T):∃t,bb ⟨T,((T.length - 1:Nat):Int)⟩=some t/\t.Kind=5:=by
 have hp:=hT.pos
 exact⟨_,now_eq hT (i:=T.length - 1) (by omega),(hT.last (T.length - 1) (by omega)).2 (by omega)⟩
theorem lexI_ok {x:List UInt8} (h:(lexM x).2.2=0):∃T,LexR 0 x T 0 0/\lexI x=(T,0,0):=by
 have hr:=lexM_rel x
 rw[h]at hr
 have h1:=(lexR_back hr rfl).1
 rw[h1]at hr
 exact⟨_,hr,by unfold lexI;rw[h,h1];rfl⟩
theorem File_one {x:List UInt8} (hx:x.length<=50000):∃l m,eq x=some (l,m)/\m.File=0/\0<=m.At/\m.At<=(x.length:Int)/\((m.Code≠0/\l=[])\/(m.Code=0/\∃T,LexR 0 x T 0 0/\LG x T l 0 (T.length - 1)/\(∀n∈l,n.Kind=1)/\eb l<=200)):=by
 rw[parse_File_eq]
 unfold runF
 rw[if_pos (by omega)]
 by_cases he:(lexM x).2.2=0
 ·obtain⟨T,hr,hI⟩:=lexI_ok he
  have hT:=tokP_of hx hr
  rw[hI]
  unfold runI
  rw[if_neg (by simp)]
  rcases rule_ok hT with⟨l,e,h1,h2⟩|⟨m,e,h1⟩
  ·simp only
   rw[e]
   obtain⟨t,ht,hk⟩:=now_last hT
   have hs:=h1.sz
   have hl:=hT.len
   have hp:=hT.pos
   simp only[bm,ht,Option.bind_some]
   rw[if_neg (by simp[hk])]
   by_cases hd:eb l<=200
   ·rw[deep_ok hp (by omega) hd]
    exact⟨l,_,rfl,rfl,Int.le_refl _,by simp,.inr ⟨rfl,T,hr,h1,h2,hd⟩⟩
   ·obtain⟨a,e2,ha⟩:=deep_bad (p:=⟨T,((T.length - 1:Nat):Int)⟩) hp (show cl l<=1000000 by omega) (by omega)
    rw[e2]
    refine⟨[],_,rfl,rfl,?_,?_,.inl ⟨(by decide:(2:Int)≠0),rfl⟩⟩
    all_goals
     have h3:=aT_nat hT hp
     rw[aT_eq hT hp]at h3
     rcases ha with rfl|⟨n,hn,rfl⟩
     ·simp only;omega
     ·have h4:=gdL_mem h1.gd hn
      rw[gd_eq]at h4
      have h5:=chain_mem h1.ch hn
      simp only
      omega
  ·simp only
   rw[e]
   exact⟨[],m.m,rfl,h1.1,h1.2.1,h1.2.2.1,.inl ⟨by rcases h1.2.2.2 with h|h<;>omega,rfl⟩⟩
 ·have hr:=lexR_err (lexM_rel x) he
  unfold runI lexI
  simp only
  rw[if_pos (by simpa using he)]
  exact⟨[],_,rfl,rfl,by simp,by simp only;omega,.inl ⟨by simpa using he,rfl⟩⟩
end Go.Proofs.YtackaijkmkollaaGreatDoor
