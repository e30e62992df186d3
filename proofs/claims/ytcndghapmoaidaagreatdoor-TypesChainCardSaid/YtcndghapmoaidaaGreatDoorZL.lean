/- What may stand for something may stand for all that that may stand for: the law TypesChain in plain words. -/
import Derived.Test.YtcndghapmoaidaaGreatDoorZT
import Derived.Test.YtcndghapmoaidaaGreatDoorZK
set_option linter.unusedSimpArgs false
set_option linter.unusedVariables false
set_option linter.unusedSectionVars false
set_option linter.unusedSectionVars false
set_option maxRecDepth 1000000
namespace Go.Proofs.YtcndghapmoaidaaGreatDoor
open Go Go.Cn
theorem awake18 :law18_awake=some true:=by decide+kernel
end Go.Proofs.YtcndghapmoaidaaGreatDoor
set_option linter.unusedSectionVars false
set_option maxRecDepth 100000
namespace Go.Proofs.YtcndghapmoaidaaGreatDoor
open Go Go.Cn
variable [Glob]
theorem fu {n:Int} (h1: -9223372036854775808<=n) (h2:n<=9223372036854775807):w64 n=n:=by
 unfold w64 IntKind.wrap
 have e1:(2:Int) ^ (IntKind.i64.bits)=18446744073709551616:=rfl
 have e2:(2:Int) ^ (IntKind.i64.bits - 1)=9223372036854775808:=rfl
 have e3:IntKind.i64.signed=true:=rfl
 simp only[e1,e2,e3,Bool.true_and,decide_eq_true_eq]
 split<;>omega
theorem idx_get {α:Type} {l:List α} {i:Nat} {x:α} (h:l[i]? =some x):idx l i=some x:=by
 unfold idx
 rw[if_pos (by omega),Int.toNat_natCast,h]
def search {α γ:Type} (p:α->Bool) (g:Nat->α->γ):Nat->List α->Flow Unit γ
 |_,[]=> .next ()
 |i,x::r=>if p x=true then .done (g i x)else search p g (i+1) r
theorem iter_search {α γ:Type} {l:List α} {f:Int->Option (Int ⊕ Flow Unit γ)} (p:α->Bool) (g:Nat->α->γ) (hl:l.length<=4000000000)
  (h1:∀(i:Nat) x,l[i]? =some x->f i=if p x=true then some (.inr (.done (g i x)))else some (.inl (w64 ((i:Int)+1)))) (h2:∀i:Nat,l.length<=i->f i=some (.inr (.next ()))):∀(r:List α) (i:Nat),l.drop i=r->iter f (i:Int)=some (search p g i r)
 | [],i,h=>by
  have hi:l.length<=i:=by
   have:=congrArg List.length h
   simp at this
   omega
  exact iter_done (h2 i hi)
 |x::r,i,h=>by
  have hx:l[i]? =some x:=by
   have:=congrArg (fun z=>z[0]?) h
   simpa using this
  have hi:=(List.getElem?_eq_some_iff.1 hx).1
  have hr:l.drop (i+1)=r:=by
   have:=congrArg List.tail h
   simpa using this
  have e:=h1 i x hx
  unfold search
  by_cases hp:p x=true
  ·rw[if_pos hp]at e ⊢
   exact iter_done e
  ·rw[if_neg hp]at e ⊢
   rw[iter_next e,fu (by omega) (by omega)]
   exact iter_search p g hl h1 h2 r (i+1) hr
def fin {γ:Type} (d:γ):Flow Unit γ->γ
 | .next _=>d
 | .done r=>r
def isC (id:List UInt8) (e:ApiEntity):Bool:=e.Kind==1&&e.Id==id
abbrev zeroE :ApiEntity:=ApiEntity.mk 0 [] [] [] [] false [] 0 0
def cls (l:List ApiEntity) (id:List UInt8):ApiEntity × Bool:=match l.find? (isC id)with|some e=>(e,true)|none=>(zeroE,false)
theorem search_cls (id:List UInt8):∀(l:List ApiEntity) (i:Nat),fin (zeroE,false) (search (isC id) (fun _ x=>(x,true)) i l)=cls l id
 | [],_=>rfl
 |x::r,i=>by
  unfold search
  by_cases hp:isC id x=true
  ·rw[if_pos hp];unfold cls;rw[List.find?_cons_of_pos hp];rfl
  ·rw[if_neg hp]
   have h:=search_cls id r (i+1)
   unfold cls at h ⊢
   rw[List.find?_cons_of_neg hp]
   exact h
theorem len_pos {α:Type} {l:List α} {i:Nat} {x:α} (h:l[i]? =some x):decide ((i:Int)<(l.length:Int))=true:=by
 have:=(List.getElem?_eq_some_iff.1 h).1
 simpa using this
theorem len_neg {α:Type} {l:List α} {i:Nat} (h:l.length<=i):¬decide ((i:Int)<(l.length:Int))=true:=by
 simpa using h
theorem kin_class_eq {l:List ApiEntity} (hl:l.length<=4000000000) (id:List UInt8):kin_class l id=some (cls l id):=by
 have h:=iter_search (l:=l) (f:=fun s=>qn l id s) (isC id) (fun _ x=>(x,true)) hl (fun i x hx=>by
  unfold qn kin_class_j3 isC
  rw[if_pos (len_pos hx),idx_get hx]
  simp only[Option.bind_some]
  cases h1:(x.Kind==1)<;>simp) (fun i hi=>by
  unfold qn
  rw[if_neg (len_neg hi)]) l 0 rfl
 unfold kin_class
 rw[show((0:Nat):Int)=0 from rfl]at h
 rw[h,Option.bind_some]
 refine Eq.trans ?_ (congrArg some (search_cls id l 0))
 cases search (isC id) (fun _ x=>(x,true)) 0 l<;>rfl
theorem search_ge {α:Type} (p:α->Bool):∀(l:List α) (i:Nat),decide (fin (-1:Int) (search p (fun i _=>(i:Int)) i l)≥0)=l.any p
 | [],_=>rfl
 |x::r,i=>by
  unfold search
  by_cases hp:p x=true
  ·rw[if_pos hp,List.any_cons,hp,Bool.true_or]
   simp[fin]
  ·rw[if_neg hp,List.any_cons,Bool.eq_false_iff.2 hp,Bool.false_or]
   exact search_ge p r (i+1)
theorem types_class_eq {l:List ApiEntity} (hl:l.length<=4000000000) (id:List UInt8):types_class l id=some (cls l id).2:=by
 have hp:∀a0,n0 a0 id=some (isC id a0):=fun a0=>by
  unfold n0 oz isC
  cases h1:(a0.Kind==1)<;>simp
 have h:=iter_search (l:=l) (f:=fun s=>co l (fun a0=>n0 a0 id) s) (isC id) (fun i _=>(i:Int)) hl (fun i x hx=>by
  unfold co
  rw[if_pos (len_pos hx),idx_get hx]
  simp only[Option.bind_some,hp]) (fun i hi=>by
  unfold co
  rw[if_neg (len_neg hi)]) l 0 rfl
 unfold types_class dp ea
 rw[show((0:Nat):Int)=0 from rfl]at h
 rw[h,Option.bind_some]
 have h2:=search_ge (isC id) l 0
 have h3:(cls l id).2=l.any (isC id):=by
  unfold cls
  cases hf:l.find? (isC id)with
  |none=>
   have:=List.find?_eq_none.1 hf
   simp only
   symm
   rw[List.any_eq_false]
   exact this
  |some e=>exact(List.any_eq_true.2 ⟨e,List.mem_of_find?_eq_some hf,List.find?_some hf⟩).symm
 rw[h3,← h2]
 unfold dn
 cases search (isC id) (fun i _=>(i:Int)) 0 l<;>rfl
end Go.Proofs.YtcndghapmoaidaaGreatDoor
set_option linter.unusedSectionVars false
set_option maxRecDepth 100000
namespace Go.Proofs.YtcndghapmoaidaaGreatDoor
open Go Go.Cn
variable [Glob]
theorem nodup_le {β:Type} [DecidableEq β]:∀(a m:List β),a.Nodup->(∀x∈a,x∈m)->a.length<=m.length
 | [],_,_,_=>Nat.zero_le _
 |x::a,m,hn,hs=>by
  have hx:=hs x List.mem_cons_self
  have h1:=nodup_le a (m.erase x) (List.nodup_cons.1 hn).2 (fun y hy=>by
   refine(List.mem_erase_of_ne (fun e=> ?_)).2 (hs y (List.mem_cons_of_mem _ hy))
   exact(List.nodup_cons.1 hn).1 (e▸hy))
  rw[List.length_erase_of_mem hx]at h1
  have:=List.length_pos_of_mem hx
  simp only[List.length_cons]
  omega
theorem cls_id {l:List ApiEntity} {id:List UInt8} (h:(cls l id).2=true):(cls l id).1.Id=id/\(cls l id).1∈l:=by
 unfold cls at h ⊢
 cases hf:l.find? (isC id)with
 |none=>rw[hf]at h;cases h
 |some e=>
  have h1:=List.find?_some hf
  unfold isC at h1
  rw[Bool.and_eq_true]at h1
  exact⟨by simpa using h1.2,List.mem_of_find?_eq_some hf⟩
def path (l:List ApiEntity):Nat->List UInt8->List (List UInt8)->List (List UInt8)
 | 0,_,_=>[]
 |n+1,id,told=>if(cls l id).2=true then(if told.any (·==id)=true then[]else id::path l n (cls l id).1.Type_ (told++[id]))else[]
structure Told (l:List ApiEntity) (n:Nat) (told:List (List UInt8)):Prop where
 len:n+told.length=l.length+1
 nodup:told.Nodup
 sub:∀x∈told,x∈l.map ApiEntity.Id
theorem Told.pos {l:List ApiEntity} {n:Nat} {told:List (List UInt8)} (h:Told l n told):∃m,n=m+1:=by
 cases n with
 |succ n=>exact⟨n,rfl⟩
 |zero=>
  have:=nodup_le told _ h.nodup h.sub
  rw[List.length_map]at this
  have:=h.len
  omega
theorem any_mem {told:List (List UInt8)} {id:List UInt8}:told.any (·==id)=true↔id∈told:=by
 rw[List.any_eq_true]
 exact⟨fun⟨x,h1,h2⟩=>(by simpa using h2:x=id)▸h1,fun h=>⟨id,h,by simp⟩⟩
theorem Told.next {l:List ApiEntity} {n:Nat} {told:List (List UInt8)} {id:List UInt8} (h:Told l (n+1) told) (hc:(cls l id).2=true) (ht:¬told.any (·==id)=true):Told l n (told++[id]) where
 len:=by have:=h.len;simp;omega
 nodup:=by
  rw[List.nodup_append]
  refine⟨h.nodup,by simp,fun a ha b hb=> ?_⟩
  rw[List.mem_singleton.1 hb]
  exact fun e=>ht (any_mem.2 (e▸ha))
 sub:=fun x hx=>by
  rcases List.mem_append.1 hx with hx|hx
  ·exact h.sub x hx
  ·rw[List.mem_singleton.1 hx]
   obtain⟨h1,h2⟩:=cls_id hc
   exact List.mem_map.2 ⟨_,h2,h1⟩
theorem app_eq {α:Type} {n:Nat} {l m:List α} (h:(l.length+m.length) * n<=140737488355328) (h2:l.length+m.length<=140737488355328):app n l m=some (l++m):=by
 unfold app
 rw[if_pos ⟨h,by omega⟩]
theorem told0 (l:List ApiEntity):Told l (l.length+1) []:=⟨rfl,List.nodup_nil,fun _ h=>nomatch h⟩
def below (l:List ApiEntity) (id other:List UInt8):Bool:=(path l (l.length+1) id []).any (·==other)
theorem above_code {l:List ApiEntity} (hl:l.length<=1000000) (other:List UInt8):∀(n:Nat) (id:List UInt8) (told:List (List UInt8)) (m:SMap Bool),Told l n told->(∀k,mget k false m=told.any (·==k))->
  ∃i z,iter (fun s=>mj (yldX (fun(_:Unit) (a:ApiEntity)=>qo other a)) l s.1 s.2.1 s.2.2) (id,.inl (),m)=some (l,i,z)/\(match z with| .inl _=>false| .inr _=>true)=(path l n id told).any (·==other)
 | 0,_,_,_,h,_=>by obtain⟨m,hm⟩:=h.pos;cases hm
 |n+1,id,told,m,h,hm=>by
  have e:mj (yldX (fun(_:Unit) (a:ApiEntity)=>qo other a)) l id (.inl ()) m=
    if(cls l id).2=true then(if told.any (·==id)=true then some (.inr (l,id,.inl ()))else(if((cls l id).1.Id==other)=true then some (.inr (l,id,.inr (cls l id).1))else some (.inl ((cls l id).1.Type_,.inl (),mset id true m))))else some (.inr (l,id,.inl ())):=by
   unfold mj pp
   rw[kin_class_eq (by omega),hm]
   simp only[Option.bind_some,yldX,qo]
   cases (cls l id).2<;>cases told.any (·==id)<;>cases ((cls l id).1.Id==other)<;>rfl
  unfold path
  by_cases hc:(cls l id).2=true
  ·rw[if_pos hc]at e ⊢
   by_cases ht:told.any (·==id)=true
   ·rw[if_pos ht]at e ⊢
    exact⟨_,_,iter_done e,rfl⟩
   ·rw[if_neg ht]at e ⊢
    rw[(cls_id hc).1]at e
    by_cases ho:(id==other)=true
    ·rw[if_pos ho]at e
     exact⟨_,_,iter_done e,by rw[List.any_cons,ho];rfl⟩
    ·rw[if_neg ho]at e
     obtain⟨i,z,h1,h2⟩:=above_code hl other n (cls l id).1.Type_ (told++[id]) (mset id true m) (h.next hc ht) (fun k=>by
      rw[mget_mset,hm,List.any_append]
      by_cases hk:id=k
      ·rw[if_pos hk,hk];simp
      ·rw[if_neg hk]
       have:(id==k)=false:=by simpa using hk
       simp[this])
     refine⟨i,z,?_,?_⟩
     ·rw[iter_next (s':=((cls l id).1.Type_,.inl (),mset id true m)) e]
      exact h1
     ·rw[h2,List.any_cons,Bool.eq_false_iff.2 ho,Bool.false_or]
  ·rw[if_neg hc]at e ⊢
   exact⟨_,_,iter_done e,rfl⟩
theorem kin_Below_eq {l:List ApiEntity} (hl:l.length<=1000000) (id other:List UInt8):kin_Below l id other=some (below l id other):=by
 obtain⟨i,z,h1,h2⟩:=above_code hl other (l.length+1) id [] [] (told0 l) (fun k=>rfl)
 unfold kin_Below kin_above_1
 rw[h1,Option.bind_some]
 unfold below
 rw[← h2]
 cases z<;>rfl
abbrev tInt :List UInt8:=[105,110,116]
abbrev tBool :List UInt8:=[98,111,111,108,101,97,110]
abbrev tVoid :List UInt8:=[118,111,105,100]
abbrev tNull :List UInt8:=[110,117,108,108]
def may (l:List ApiEntity) (a b:List UInt8):Bool:=
 if(a==[]||a==tVoid)=true then false
 else if(a==b)=true then(cls l b).2||b==tInt||b==tBool
 else if(cls l b).2=false then false
 else if(a==tNull)=true then true
 else(cls l a).2&&below l a b
theorem uu {l:List ApiEntity} (hl:l.length<=1000000) (a b:List UInt8):gw l a b=some (may l a b):=by
 unfold gw types_May_j3 ut types_May_j2 may
 rw[types_class_eq (by omega),types_class_eq (by omega),kin_Below_eq hl]
 simp only[Option.bind_some]
 cases (a==([]:List UInt8))<;>cases (a==tVoid)<;>cases (a==b)<;>cases (cls l b).2<;>cases (b==tInt)<;>cases (b==tBool)<;>cases (a==tNull)<;>cases (cls l a).2<;>rfl
end Go.Proofs.YtcndghapmoaidaaGreatDoor
set_option linter.unusedSectionVars false
namespace Go.Cn
abbrev noG :Glob:=⟨fun _=>True,fun _ _ _ _=>trivial⟩
theorem iter_ind {σ ω:Type} {f:σ->Option (σ ⊕ ω)} (I:σ->Prop) (Q:ω->Prop) (m:σ->Nat)
  (h:∀s,I s->(∃s',f s=some (.inl s')/\I s'/\m s'<m s)\/(∃o,f s=some (.inr o)/\Q o)):∀s,I s->∃o,iter f s=some o/\Q o:=by
 have key:∀n s,m s<=n->I s->∃o,iter f s=some o/\Q o:=by
  intro n
  induction n with
  |zero=>
   intro s hm hs
   rcases h s hs with⟨s',_,_,h3⟩|⟨o,h1,h2⟩
   ·omega
   ·exact⟨o, @iter_done noG _ _ _ _ _ h1,h2⟩
  |succ n ih=>
   intro s hm hs
   rcases h s hs with⟨s',h1,h2,h3⟩|⟨o,h1,h2⟩
   ·obtain⟨o,h4,h5⟩:=ih s' (by omega) h2
    exact⟨o,by rw[@iter_next noG _ _ _ _ _ h1];exact h4,h5⟩
   ·exact⟨o, @iter_done noG _ _ _ _ _ h1,h2⟩
 exact fun s hs=>key (m s) s (Nat.le_refl _) hs
theorem idxS_nat {l:List UInt8} {i:Nat} (h:i<l.length):idxS l i=some (l[i].toNat:Int):=by
 unfold idxS
 simp[h]
theorem jf {α:Type} {l:List α} {i:Nat} (h:i<l.length):idx l i=some l[i]:=by
 unfold idx
 simp[h]
theorem sub_nat {l:List UInt8} {i j:Nat} (h:i<=j) (h2:j<=l.length):sub l i j=some ((l.take j).drop i):=by
 unfold sub
 simp[h,h2]
end Go.Cn
set_option linter.unusedSectionVars false
set_option linter.unusedVariables false
set_option linter.unusedSimpArgs false
set_option maxRecDepth 100000
set_option maxHeartbeats 4000000
namespace Go.Proofs.YtcndghapmoaidaaGreatDoor
open Go Go.Cn
variable [Glob]
def Ok {α:Type} (P:α->Prop) (o:Option α):Prop:=∃a,o=some a/\P a
section
variable {α β σ ω:Type} {P Q:α->Prop} {o:Option α}
theorem Ok.mk {a:α} (h:P a):Ok P (some a):=⟨a,rfl,h⟩
theorem Ok.bd {Q:β->Prop} {f:α->Option β} (h:Ok P o) (k:∀a,P a->Ok Q (f a)):Ok Q (o.bind f):=by
 obtain⟨a,rfl,ha⟩:=h
 exact k a ha
theorem Ok.weak (h:Ok P o) (k:∀a,P a->Q a):Ok Q o:=by
 obtain⟨a,rfl,ha⟩:=h
 exact⟨a,rfl,k a ha⟩
theorem Ok.dec {p:Prop} [Decidable p] {a b:Option α} (h1:p->Ok P a) (h2:¬p->Ok P b):Ok P (if decide p=true then a else b):=by
 by_cases h:p
 ·rw[if_pos (by simpa using h)];exact h1 h
 ·rw[if_neg (by simpa using h)];exact h2 h
theorem Ok.cond {c:Bool} {a b:Option α} (h1:c=true->Ok P a) (h2:c=false->Ok P b):Ok P (if c=true then a else b):=by
 cases c
 ·exact h2 rfl
 ·exact h1 rfl
theorem Ok.it {f:σ->Option (σ ⊕ ω)} {Q:ω->Prop} (I:σ->Prop) (m:σ->Nat) (h:∀s,I s->Ok (Sum.elim (fun s'=>I s'/\m s'<m s) Q) (f s)) {s:σ} (hs:I s):Ok Q (iter f s):=
 iter_ind I Q m (fun s hs=>by
  obtain⟨z,h1,h2⟩:=h s hs
  cases z with
  |inl s'=>exact .inl ⟨s',h1,h2⟩
  |inr w=>exact .inr ⟨w,h1,h2⟩) s hs
end
def FlowP {α β:Type} (A:α->Prop) (B:β->Prop):Flow α β->Prop
 | .next p=>A p
 | .done r=>B r
theorem idxS_ok {x:List UInt8} {i:Int} (h:0<=i) (h2:i<x.length):Ok (fun _=>True) (idxS x i):=by
 obtain⟨n,rfl⟩:∃n:Nat,i=n:=⟨i.toNat,by omega⟩
 exact⟨_,idxS_nat (by omega),trivial⟩
theorem idxS_eq {x:List UInt8} {i:Int} (h:0<=i) (h2:i<x.length):Ok (fun c=>idxS x i=some c) (idxS x i):=by
 obtain⟨c,hc,_⟩:=idxS_ok h h2
 exact⟨c,hc,hc⟩
theorem sub_ok {x:List UInt8} {i j:Nat} (h:i<=j) (h2:j<=x.length):Ok (fun s=>s=(x.take j).drop i) (sub x i j):=⟨_,sub_nat h h2,rfl⟩
theorem digit_ok (c:Int):Ok (fun _=>True) (ny c):=by
 unfold ny te
 split<;>exact .mk trivial
theorem letter_ok (c:Int):Ok (fun _=>True) (nw c):=by
 unfold nw gp
 repeat' split
 all_goals exact .mk trivial
theorem great_ok {s:List UInt8} (hs:s.length<=1000000):Ok (fun _=>True) (ref03_great s):=by
 unfold ref03_great ref03_great_k1
 refine .dec (fun _=> .mk trivial) fun _=> .bd (P:=fun _=>True) (.it (fun p:Int × Int=>0<=p.2/\p.2<=s.length) (fun p=>(s.length - p.2).toNat) ?_ ⟨by omega,by omega⟩) (fun _ _=> .mk trivial)
 rintro⟨n,i⟩ ⟨h1,h2⟩
 simp only at h1 h2 ⊢
 unfold tc
 refine .dec (fun h=> .bd (idxS_ok h1 h) fun _ _=> .mk ?_) fun _=> .mk trivial
 simp only[Sum.elim_inl]
 rw[fu (n:=i+1) (by omega) (by omega)]
 omega
theorem kept_ok {s:List UInt8}:Ok (fun _=>True) (ix s):=by
 unfold ix ref03_Kept_k1
 refine .bd (P:=fun _=>True) (.it (fun p:Int=>0<=p/\p<=16) (fun p=>(16 - p).toNat) ?_ ⟨by omega,by omega⟩) (fun z _=>by cases z<;>exact .mk trivial)
 rintro i ⟨h1,h2⟩
 unfold ref03_Kept_l2
 refine .dec (fun h=> ?_) fun _=> .mk trivial
 simp only[List.length_cons,List.length_nil]at h
 obtain⟨n,rfl⟩:∃n:Nat,i=n:=⟨i.toNat,by omega⟩
 rw[jf (by simp only[List.length_cons,List.length_nil];omega)]
 refine .cond (fun _=> .mk trivial) fun _=> .mk ?_
 simp only[Sum.elim_inl]
 rw[fu (by omega) (by omega)]
 omega
theorem one_ok {x:List UInt8} {n:Int} (h:0<=n) (hn:n<x.length):Ok (fun m:Int=>0<=m/\m<=1) (ref03_mark_k4 x n):=by
 unfold ref03_mark_k4 ref03_mark_k1
 refine .bd (P:=FlowP (fun _=>True) (fun r=>r=1)) (.it (fun p:Int=>0<=p/\p<=16) (fun p=>(16 - p).toNat) ?_ ⟨by omega,by omega⟩) (fun z hz=>by
  cases z with
  |next _=>exact .mk (by omega)
  |done r=>obtain rfl:r=1:=hz;exact .mk (by omega))
 rintro i ⟨h1,h2⟩
 unfold ref03_mark_l2 ref03_mark_j3
 refine .dec (fun hi=> .bd (idxS_ok h hn) fun _ _=> .bd (idxS_ok h1 hi) fun _ _=> .cond (fun _=> .mk rfl) fun _=> .mk ?_) fun _=> .mk trivial
 simp only[List.length_cons,List.length_nil,Sum.elim_inl]at hi ⊢
 rw[fu (by omega) (by omega)]
 omega
theorem mark_ok {x:List UInt8} {n:Nat} (hn:n<x.length) (hx:x.length<=1000000):Ok (fun m:Int=>0<=m/\n+m<=x.length) (ref03_mark x n):=by
 unfold ref03_mark
 refine .bd (P:=FlowP (fun _=>True) (fun r=>r=2/\n+2<=x.length)) (.it (fun p:Int=>0<=p/\p<=6) (fun p=>(6 - p).toNat) ?_ ⟨by omega,by omega⟩) (fun z hz=>by
  cases z with
  |next _=>exact(one_ok (by omega) (by omega)).weak fun m h=>by omega
  |done r=>obtain⟨rfl,h⟩:r=2/\n+2<=x.length:=hz;exact .mk (by omega))
 rintro i ⟨h1,h2⟩
 unfold ref03_mark_l5 ref03_mark_j7 ref03_mark_j6
 rw[fu (by omega) (by omega)]
 refine .dec (fun hi=> .dec (fun hl=> .bd (sub_ok (i:=n) (j:=n+2) (by omega) (by omega)) fun _ _=> ?_) fun _=> .mk trivial) fun _=> .cond (fun h=>by cases h) fun _=> .mk trivial
 simp only[List.length_cons,List.length_nil]at hi
 obtain⟨k,rfl⟩:∃n:Nat,i=n:=⟨i.toNat,by omega⟩
 rw[jf (by simp only[List.length_cons,List.length_nil];omega)]
 refine .cond (fun _=> .mk ⟨rfl,by omega⟩) fun _=> .mk ?_
 simp only[Sum.elim_inl]
 rw[fu (by omega) (by omega)]
 omega
abbrev BetP (x:List UInt8) (a s:Int):Int ⊕ Flow Int (Int × Bool)->Prop:=
 Sum.elim (fun s'=>(a<=s'/\s'<=x.length)/\(x.length - s').toNat<(x.length - s).toNat) (FlowP (fun p=>a<=p/\p<=x.length) (fun r:Int × Bool=>a<=r.1/\r.1<=x.length))
theorem between_j9_ok {x:List UInt8} {a s:Int} (ha:0<=a) (hx:x.length<=1000000) (h1:a<=s) (h:s+1<x.length) (hc:idxS x s=some 47):Ok (BetP x a s) (f2 s x false):=by
 unfold f2
 rw[if_neg (by simp),fu (by omega) (by omega),fu (by omega) (by omega)]
 refine .bd (idxS_ok (by omega) (by omega)) fun d _=> .cond (fun hd=> ?_) fun _=> ?_
 ·refine .bd (P:=fun p=>s<p/\p<=x.length) (.it (fun p:Int=>s<=p/\p<=x.length) (fun p=>(x.length - p).toNat) ?_ ⟨by omega,by omega⟩) fun p hp=> .mk (by simp only[BetP,Sum.elim_inl];omega)
  rintro p ⟨p1,p2⟩
  unfold o6 o8
  refine .dec (fun hp=> .bd (idxS_eq (by omega) hp) fun e he=> .cond (fun _=> .mk ?_) fun hn=> .mk ?_) fun hp=> .cond (fun h=>by cases h) fun _=> .mk ?_
  ·simp only[Sum.elim_inl]
   rw[fu (by omega) (by omega)]
   omega
  ·simp only[Sum.elim_inr]
   refine⟨?_,p2⟩
   rcases Int.lt_or_eq_of_le p1 with h|rfl
   ·exact h
   ·rw[hc]at he
    cases he
    simp at hn
  ·simp only[Sum.elim_inr]
   omega
 ·refine .bd (P:=fun p=>s+2<=p/\p<=x.length) (.it (fun p:Int=>s+2<=p/\p<=x.length) (fun p=>(x.length - p).toNat) ?_ ⟨by omega,by omega⟩) fun p hp=> ?_
  ·rintro p ⟨p1,p2⟩
   unfold o5 lh
   rw[fu (by omega) (by omega)]
   have g:p+1<x.length->Ok (Sum.elim (fun s'=>(s+2<=s'/\s'<=x.length)/\(x.length - s').toNat<(x.length - p).toNat) (fun p:Int=>s+2<=p/\p<=x.length)) (some (.inl (p+1))):=fun h=> .mk (by simp only[Sum.elim_inl];omega)
   refine .dec (fun hp=> .bd (idxS_ok (by omega) (by omega)) fun e _=> .cond (fun _=> .cond (fun _=>g hp) fun h=>by cases h) fun _=> .bd (idxS_ok (by omega) hp) fun e _=> .cond (fun _=>g hp) fun _=> .mk ⟨p1,p2⟩) fun _=> .cond (fun h=>by cases h) fun _=> .mk ⟨p1,p2⟩
  ·unfold tw
   rw[fu (by omega) (by omega),fu (by omega) (by omega)]
   refine .dec (fun _=> .mk ?_) fun _=> .mk ?_
   ·simp only[BetP,Sum.elim_inr,FlowP]
    omega
   ·simp only[BetP,Sum.elim_inl]
    omega
theorem between_ok {x:List UInt8} {a:Int} (ha:0<=a) (h2:a<=x.length) (hx:x.length<=1000000):Ok (fun r:Int × Bool=>a<=r.1/\r.1<=x.length) (ref03_between x a):=by
 unfold ref03_between tx
 refine .bd (P:=FlowP (fun p=>a<=p/\p<=x.length) (fun r:Int × Bool=>a<=r.1/\r.1<=x.length)) (.it (fun s:Int=>a<=s/\s<=x.length) (fun s=>(x.length - s).toNat) ?_ ⟨by omega,h2⟩) (fun z hz=>by cases z<;>exact .mk hz)
 rintro s ⟨h1,h2⟩
 unfold o7
 refine .dec (fun h=> .bd (idxS_eq (by omega) h) fun c hc=> ?_) fun _=> .mk ⟨h1,h2⟩
 have fwd:Ok (BetP x a s) (f5 s x c true):=by
  unfold f5
  rw[if_pos rfl]
  refine .mk ?_
  simp only[BetP,Sum.elim_inl]
  rw[fu (by omega) (by omega)]
  omega
 refine .cond (fun _=>fwd) fun _=> .cond (fun _=>fwd) fun _=> .cond (fun _=>fwd) fun _=> ?_
 generalize (c==13)=b
 cases b with
 |true=>exact fwd
 |false=>
 unfold f5
 rw[if_neg (by simp),fu (by omega) (by omega)]
 have out:Ok (BetP x a s) (f2 s x true):=by
  unfold f2
  rw[if_pos rfl]
  exact .mk ⟨h1,h2⟩
 refine .dec (fun _=>out) fun hl=> .cond (fun _=>out) fun h47=> .bd (idxS_ok (by omega) (by omega)) fun d _=> ?_
 have go:=between_j9_ok ha hx h1 (by omega) (by rw[hc];simpa using h47)
 refine .cond (fun _=> .bd (idxS_ok (by omega) (by omega)) fun d _=> ?_) fun _=>go
 generalize (d != 42)=b
 cases b
 ·exact go
 ·exact out
structure TokOk (x:List UInt8) (n:Nat) (k m:Int):Prop where
 one:1<=m
 fits:n+m<=x.length
 not5:k≠5
 kept:k=1->ix ((x.take (n+m.toNat)).drop n)=some false
theorem run_ok {x:List UInt8} {n:Nat} {f:Int->Option (Int ⊕ Int)} (hx:x.length<=1000000) (hn:n<x.length)
  (h1:∀m:Int,0<=m->n+m<x.length->Ok (fun z=>z= .inl (m+1)\/(0<m/\z= .inr m)) (f m)) (h2:∀m:Int,n+m=x.length->f m=some (.inr m)):Ok (fun m:Int=>1<=m/\n+m<=x.length) (iter f 0):=by
 refine .it (fun m:Int=>0<=m/\n+m<=x.length) (fun m=>(x.length - m).toNat) ?_ ⟨by omega,by omega⟩
 rintro m ⟨p1,p2⟩
 by_cases h:n+m<x.length
 ·refine(h1 m p1 h).weak fun z hz=> ?_
  rcases hz with rfl|⟨h0,rfl⟩
  ·simp only[Sum.elim_inl]
   omega
  ·simp only[Sum.elim_inr]
   omega
 ·rw[h2 m (by omega)]
  exact .mk (by simp only[Sum.elim_inr];omega)
theorem token_ok {x:List UInt8} {n:Nat} (hn:n<x.length) (hx:x.length<=1000000):Ok (fun r:Int × Int × Int=>r.2.2=0->TokOk x n r.1 r.2.1) (ref03_token x n):=by
 unfold ref03_token
 refine .bd (idxS_eq (by omega) (by omega)) fun c hc=> .bd (P:=fun b=>ny c=some b) ?_ fun b hb=> .cond (fun h=> ?_) fun h=> .bd (idxS_eq (by omega) (by omega)) fun c' hc'=> ?_
 ·obtain⟨b,hb,_⟩:=digit_ok c
  exact⟨b,hb,hb⟩
 ·subst h
  refine .bd (P:=fun m:Int=>1<=m/\n+m<=x.length) (run_ok hx hn (fun m h0 h=> ?_) fun m h=> ?_) fun m hm=> ?_
  ·unfold pn po
   rw[fu (by omega) (by omega),fu (by omega) (by omega)]
   rw[if_pos (by simpa using h)]
   refine .bd (idxS_eq (by omega) h) fun e he=> .bd (P:=fun b=>ny e=some b) ?_ fun b' hb'=> .cond (fun _=> .mk (.inl rfl)) fun hf=> .mk (.inr ⟨?_,rfl⟩)
   ·obtain⟨b,hb,_⟩:=digit_ok e
    exact⟨b,hb,hb⟩
   ·rcases Int.lt_or_eq_of_le h0 with h|rfl
    ·exact h
    ·rw[Int.add_zero,hc]at he
     cases he
     rw[hb]at hb'
     cases hb'
     cases hf
  ·unfold pn po
   rw[fu (by omega) (by omega),if_neg (by simp;omega)]
   rfl
  ·have hr:∀b,Ok (fun r:Int × Int × Int=>r.2.2=0->TokOk x n r.1 r.2.1) (mi m b):=fun b=>by
    unfold mi
    exact .cond (fun _=> .mk fun h=>by cases h) fun _=> .mk fun _=>⟨hm.1,hm.2,by simp,by simp⟩
   obtain⟨m,rfl⟩:∃k:Nat,m=k:=⟨m.toNat,by omega⟩
   unfold ref03_token_k2
   rw[fu (by omega) (by omega)]
   refine .bd (sub_ok (i:=n) (j:=n+m) (by omega) (by omega)) fun s hs=> .bd (great_ok ?_) fun g _=> .cond (fun _=>hr _) fun _=> .dec (fun _=> .bd (idxS_ok (by omega) (by omega)) fun _ _=>hr _) fun _=>hr _
   rw[hs]
   simp only[List.length_drop,List.length_take]
   omega
 ·refine .bd (P:=fun b=>nw c'=some b) ?_ fun b' hb'=> .cond (fun h=> ?_) fun h=> .bd (mark_ok hn hx) fun m hm=> .cond (fun _=> .mk fun h=>by cases h) fun h=> .mk fun _=>⟨?_,hm.2,by simp,by simp⟩
  ·obtain⟨b,hb,_⟩:=letter_ok c'
   exact⟨b,hb,hb⟩
  ·subst h
   refine .bd (P:=fun m:Int=>1<=m/\n+m<=x.length) (run_ok hx hn (fun m h0 h=> ?_) fun m h=> ?_) fun m hm=> ?_
   ·unfold pm mh
    rw[fu (by omega) (by omega),fu (by omega) (by omega)]
    rw[if_pos (by simpa using h)]
    refine .bd (idxS_eq (by omega) h) fun e he=> .bd (P:=fun b=>nw e=some b) ?_ fun b' hb2=> .cond (fun _=> .cond (fun _=> .mk (.inl rfl)) fun h=>by cases h) fun hf=> .bd (idxS_ok (by omega) h) fun e' _=> .bd (digit_ok _) fun b _=> .cond (fun _=> .mk (.inl rfl)) fun _=> .mk (.inr ⟨?_,rfl⟩)
    ·obtain⟨b,hb,_⟩:=letter_ok e
     exact⟨b,hb,hb⟩
    ·rcases Int.lt_or_eq_of_le h0 with h|rfl
     ·exact h
     ·rw[Int.add_zero,hc']at he
      cases he
      rw[hb']at hb2
      cases hb2
      cases hf
   ·unfold pm mh
    rw[fu (by omega) (by omega),if_neg (by simp;omega)]
    rfl
   ·obtain⟨m,rfl⟩:∃k:Nat,m=k:=⟨m.toNat,by omega⟩
    unfold ref03_token_k5
    rw[fu (by omega) (by omega)]
    refine .dec (fun _=> .mk fun h=>by cases h) fun _=> .bd (sub_ok (i:=n) (j:=n+m) (by omega) (by omega)) fun s hs=> ?_
    obtain⟨b,hb,_⟩:=kept_ok (s:=s)
    rw[hb]
    subst hs
    exact .cond (fun _=> .mk fun _=>⟨hm.1,hm.2,by simp,by simp⟩) fun h=> .mk fun _=>⟨hm.1,hm.2,by simp,fun _=>by rw[← h,Int.toNat_natCast];exact hb⟩
  ·have:m≠0:=by simpa using h
   have:=hm.1
   show 1<=m
   omega
structure ToksN (M:Nat) (T:List ApiToken):Prop where
 len:T.length<=M+1
 pos:0<T.length
 last:∀i (h:i<T.length),T[i].Kind=5↔i+1=T.length
 txt:∀i (h:i<T.length),T[i].Text.length<=M
 kept:∀i (h:i<T.length),T[i].Kind=1->T[i].Text≠[]/\ix T[i].Text=some false
theorem Lex_ok {x:List UInt8} (hx:x.length<=1000000):Ok (fun r:List ApiToken × Int × Int=>r.2.2=0->ToksN x.length r.1) (ref03_Lex x):=by
 unfold ref03_Lex
 rw[if_neg (by simp;omega)]
 refine .it (fun s:Int × List ApiToken=>0<=s.1/\s.1<=x.length/\s.2.length<=s.1/\∀t∈s.2,t.Kind≠5/\t.Text.length<=x.length/\(t.Kind=1->t.Text≠[]/\ix t.Text=some false)) (fun s=>(x.length - s.1).toNat) ?_ ⟨by simp,by simp,by simp,fun t ht=>by cases ht⟩
 rintro⟨a,l⟩ ⟨h1,h2,h3,h4⟩
 simp only at h1 h2 h3 h4 ⊢
 unfold ref03_Lex_l1
 refine .bd (between_ok h1 h2 hx) ?_
 rintro⟨p,b⟩ ⟨p1,p2⟩
 simp only at p1 p2 ⊢
 obtain⟨p,rfl⟩:∃k:Nat,p=k:=⟨p.toNat,by omega⟩
 obtain⟨a,rfl⟩:∃k:Nat,a=k:=⟨a.toNat,by omega⟩
 refine .cond (fun _=> .mk fun h=>by cases h) fun _=> .cond (fun he=> .bd (sub_ok (by omega) (by omega)) fun s hs=> ?_) fun hne=> .bd (token_ok ?_ hx) ?_
 ·rw[app_eq (by simp only[List.length_cons,List.length_nil];omega) (by simp only[List.length_cons,List.length_nil];omega)]
  refine .mk fun _=>⟨?_,?_,fun i h=> ?_,fun i h=> ?_,fun i h=> ?_⟩
  ·simp only[List.length_append,List.length_cons,List.length_nil]
   omega
  ·simp
  ·simp only[List.length_append,List.length_cons,List.length_nil]at h ⊢
   rcases Nat.lt_or_ge i l.length with hi|hi
   ·rw[List.getElem_append_left hi]
    have:=(h4 _ (List.getElem_mem hi)).1
    omega
   ·rw[List.getElem_append_right hi]
    simp
    omega
  ·rcases Nat.lt_or_ge i l.length with hi|hi
   ·rw[List.getElem_append_left hi]
    exact(h4 _ (List.getElem_mem hi)).2.1
   ·rw[List.getElem_append_right hi]
    simp
  ·rcases Nat.lt_or_ge i l.length with hi|hi
   ·rw[List.getElem_append_left hi]
    exact(h4 _ (List.getElem_mem hi)).2.2
   ·rw[List.getElem_append_right hi]
    simp
 ·have:(p:Int)≠x.length:=by simpa using hne
  omega
 ·rintro⟨k,m,e⟩ hk
  simp only at hk ⊢
  refine .cond (fun he=> .mk fun h=>by simp[show e=0 from h]at he) fun he=> ?_
  have g:=hk (by simpa using he)
  have g1:=g.one
  have g2:=g.fits
  obtain⟨m,rfl⟩:∃k:Nat,m=k:=⟨m.toNat,by omega⟩
  rw[fu (by omega) (by omega)]
  refine .bd (sub_ok (i:=p) (j:=p+m) (by omega) (by omega)) fun s hs=> .bd (sub_ok (by omega) (by omega)) fun s2 _=> ?_
  rw[app_eq (by simp only[List.length_cons,List.length_nil];omega) (by simp only[List.length_cons,List.length_nil];omega)]
  unfold ref03_Lex_j2
  rw[fu (by omega) (by omega)]
  refine .mk ?_
  simp only[Sum.elim_inl,List.length_append,List.length_cons,List.length_nil]
  refine⟨⟨by omega,by omega,by omega,fun t ht=> ?_⟩,by omega⟩
  rcases List.mem_append.1 ht with ht|ht
  ·exact h4 t ht
  ·obtain rfl:t=_:=by simpa using ht
   have hl:s.length=m:=by rw[hs,List.length_drop,List.length_take];omega
   refine⟨g.not5,by simp only;omega,fun h=>⟨fun h0=> ?_,?_⟩⟩
   ·simp only at h0
    rw[h0]at hl
    simp at hl
    omega
   ·have:=g.kept h
    rw[Int.toNat_natCast,← hs]at this
    exact this
end Go.Proofs.YtcndghapmoaidaaGreatDoor
set_option linter.unusedSectionVars false
set_option linter.unusedVariables false
set_option linter.unusedSimpArgs false
set_option maxRecDepth 100000
set_option maxHeartbeats 4000000
namespace Go.Proofs.YtcndghapmoaidaaGreatDoor
open Go Go.Cn
variable [Glob]
mutual
def nsize :ApiNode->Nat
 |⟨_,_,_,_,_,_,_,_,kids⟩=>1+fk kids
def fk :List ApiNode->Nat
 | []=>0
 |n::l=>nsize n+fk l
end
mutual
def okB (M:Nat):ApiNode->Prop
 |⟨_,t,y,_,_,_,_,_,kids⟩=>(t.length<=M/\y.length<=M)/\okBL M kids
def okBL (M:Nat):List ApiNode->Prop
 | []=>True
 |n::l=>okB M n/\okBL M l
end
theorem nsize_eq (x:ApiNode):nsize x=1+fk x.Kids:=by cases x;simp[nsize]
theorem nsize_pos (x:ApiNode):0<nsize x:=by rw[nsize_eq];omega
theorem m0 :∀l:List ApiNode,l.length<=fk l
 | []=>by simp[fk]
 |n::l=>by have:=m0 l;have:=nsize_pos n;simp[fk];omega
theorem okBL_app {M:Nat}:∀{l m:List ApiNode},okBL M (l++m)↔okBL M l/\okBL M m
 | [],_=>by simp[okBL]
 |_::_,_=>by simp[okBL,okBL_app,and_assoc]
theorem nsizes_app :∀(l m:List ApiNode),fk (l++m)=fk l+fk m
 | [],m=>by simp[fk]
 |n::l,m=>by simp[fk,nsizes_app l m];omega
abbrev t0 (M:Nat) (T:List ApiToken) (i:Int):ApiNode × Int × Ref12Wrong->Prop:=fun r=>r.2.2.Place<0->i<r.2.1/\r.2.1<T.length/\okB M r.1/\(nsize r.1:Int)+i<=r.2.1
abbrev ListP (M:Nat) (T:List ApiToken) (i:Int):List ApiNode × Int × Ref12Wrong->Prop:=fun r=>r.2.2.Place<0->i<r.2.1/\r.2.1<T.length/\okBL M r.1/\(fk r.1:Int)+i<=r.2.1
section
variable {α β:Type} {P Q:β->Prop}
theorem Ok.tt {a b:Option β} (h:Ok P a):Ok P (if true=true then a else b):=h
theorem Ok.ff {a b:Option β} (h:Ok P b):Ok P (if false=true then a else b):=h
theorem Ok.isT {A:Prop} {o:Option Bool} {f:Bool->Option β} (h:Ok (fun b=>b=true->A) o) (k1:A->Ok Q (f true)) (k2:Ok Q (f false)):Ok Q (o.bind f):=by
 obtain⟨b,rfl,h⟩:=h
 cases b
 ·exact k2
 ·exact k1 (h rfl)
theorem Ok.node {M:Nat} {T:List ApiToken} {i:Int} {o:Option (ApiNode × Int × Ref12Wrong)} {f:ApiNode × Int × Ref12Wrong->Option β} (h:Ok (t0 M T i) o) (k1:∀n j w,w.Place≥0->Ok Q (f (n,j,w))) (k2:∀n j w,w.Place<0->i<j->j<T.length->okB M n->(nsize n:Int)+i<=j->Ok Q (f (n,j,w))):Ok Q (o.bind f):=by
 obtain⟨⟨n,j,w⟩,rfl,h⟩:=h
 rcases Int.lt_or_le w.Place 0 with hw|hw
 ·exact k2 _ _ _ hw (h hw).1 (h hw).2.1 (h hw).2.2.1 (h hw).2.2.2
 ·exact k1 _ _ _ hw
theorem Ok.list {M:Nat} {T:List ApiToken} {i:Int} {o:Option (List ApiNode × Int × Ref12Wrong)} {f:List ApiNode × Int × Ref12Wrong->Option β} (h:Ok (ListP M T i) o) (k1:∀n j w,w.Place≥0->Ok Q (f (n,j,w))) (k2:∀n j w,w.Place<0->i<j->j<T.length->okBL M n->(fk n:Int)+i<=j->Ok Q (f (n,j,w))):Ok Q (o.bind f):=by
 obtain⟨⟨n,j,w⟩,rfl,h⟩:=h
 rcases Int.lt_or_le w.Place 0 with hw|hw
 ·exact k2 _ _ _ hw (h hw).1 (h hw).2.1 (h hw).2.2.1 (h hw).2.2.2
 ·exact k1 _ _ _ hw
theorem Ok.syn {i:Int} {f:Ref12Wrong->Option β} (k:Ok Q (f (Ref12Wrong.mk i 120))):Ok Q ((cp i).bind f):=k
theorem Ok.fine {f:Ref12Wrong->Option β} (k:Ok Q (f (Ref12Wrong.mk (-1) 0))):Ok Q (de.bind f):=k
theorem Ok.app {l m:List ApiNode} {f:List ApiNode->Option β} (h:fk l+fk m<=9000000) (k:Ok Q (f (l++m))):Ok Q ((app 104 l m).bind f):=by
 have:=m0 l
 have:=m0 m
 rw[app_eq (by omega) (by omega)]
 exact k
variable {M:Nat} {T:List ApiToken} (hT:ToksN M T)
include hT
theorem Ok.tok {i:Int} {f:ApiToken->Option β} (h:0<=i) (h2:i<T.length) (k:∀t,t.Text.length<=M->(t.Kind=1->t.Text≠[]/\ix t.Text=some false)->(t.Kind≠5->i+1<T.length)->Ok Q (f t)):Ok Q ((idx T i).bind f):=by
 obtain⟨n,rfl⟩:∃n:Nat,i=n:=⟨i.toNat,by omega⟩
 have hn:n<T.length:=by omega
 rw[jf hn]
 refine k _ (hT.txt n hn) (hT.kept n hn) fun h5=> ?_
 have:=(hT.last n hn).2
 rcases Nat.lt_or_ge (n+1) T.length with h|h
 ·omega
 ·exact absurd (this (by omega)) h5
theorem is_ok {i:Int} (h:0<=i) (s:List UInt8):Ok (fun b=>b=true->i+1<T.length) (cn T i s):=by
 unfold cn ub
 refine .dec (fun h2=> .tok hT h h2 fun t _ _ h5=> .cond (fun _=> .tok hT h h2 fun t _ _ _=> .cond (fun _=> .tok hT h h2 fun t _ _ h5=> .mk fun hk=>h5 (by simpa using hk)) fun _=> .mk (by simp)) fun _=> .mk (by simp)) fun _=> .mk (by simp)
theorem name_ok {i:Int} (h:0<=i):Ok (fun b=>b=true->i+1<T.length) (gx T i):=by
 unfold gx rl
 refine .dec (fun h2=> .tok hT h h2 fun t _ _ h5=> .mk fun hk=>h5 ?_) fun _=> .mk (by simp)
 rw[beq_iff_eq]at hk
 omega
variable (hM:M<=60000)
include hM
theorem Ok.end {j:Int} {f:Int->Option β} (h1:1<=j) (h2:j<=T.length) (k:∀b,Ok Q (f b)):Ok Q ((ref12_end T j).bind f):=by
 have:=hT.len
 unfold ref12_end ref12_end_j1
 rw[fu (by omega) (by omega)]
 exact .bd (P:=fun _=>True) (.tok hT (by omega) (by omega) fun _ _ _ _=> .tok hT (by omega) (by omega) fun _ _ _ _=> .mk trivial) fun b _=>k b
theorem Ok.made {q i j:Int} {l:List ApiNode} {f:ApiNode->Option β} (h:0<=i) (h2:i<T.length) (h1:1<=j) (h3:j<=T.length) (k:∀a b,Ok Q (f ⟨q,[],[],0,a,b, -1, -1,l⟩)):Ok Q ((dv T q i j l).bind f):=by
 unfold dv ref12_made_j1
 refine .bd (P:=fun n=>∃a b,n=⟨q,[],[],0,a,b, -1, -1,l⟩) (.tok hT h h2 fun _ _ _ _=> .end hT hM h1 h3 fun _=> .mk ⟨_,_,rfl⟩) ?_
 rintro _ ⟨a,b,rfl⟩
 exact k a b
theorem Ok.typed {i:Int} {x:ApiNode} {f:ApiNode->Option β} (h:0<=i) (h2:i+1<T.length) (k:∀s t a b,s.length<=M->t.length<=M->Ok Q (f {{{{x with Type_:=s} with TypeAt:=a} with Text:=t} with At:=b})):Ok Q ((ua T x i).bind f):=by
 have:=hT.len
 unfold ua
 rw[fu (by omega) (by omega)]
 refine .bd (P:=fun n=>∃s t a b,s.length<=M/\t.length<=M/\n={{{{x with Type_:=s} with TypeAt:=a} with Text:=t} with At:=b}) (.tok hT h (by omega) fun t1 h1 _ _=> .tok hT h (by omega) fun t2 _ _ _=> .tok hT (by omega) (by omega) fun t3 h3 _ _=> .tok hT (by omega) (by omega) fun t4 _ _ _=> .mk ⟨_,_,_,_,h1,h3,rfl⟩) ?_
 rintro _ ⟨s,t,a,b,g1,g2,rfl⟩
 exact k s t a b g1 g2
end
theorem leaf {P:Prop} (h:P:=by
  (try dsimp only[t0,ListP,Sum.elim_inl,Sum.elim_inr,FlowP])
  (try intro hw)
  first
  |omega
  | ((try simp only [okB, okBL, okBL_app, nsize, fk, nsizes_app, List.length_nil, Int.natCast_add])
     (repeat' apply And.intro)<;>first|assumption|omega|trivial)):P:=h
section
variable {M:Nat} {T:List ApiToken} (hT:ToksN M T) (hM:M<=60000)
include hT hM
theorem binds_ok {i:Int} (h:0<=i):Ok (fun b:Int=>b≠0->i+1<T.length) (ref12_binds T i):=by
 unfold ref12_binds ref12_binds_k1
 refine .bd (P:=FlowP (fun _=>True) (fun _=>i+1<T.length)) (.it (fun p:Int=>0<=p/\p<=6) (fun p=>(6 - p).toNat) ?_ ⟨by omega,by omega⟩) (fun z hz=>by
  cases z with
  |next _=>exact .mk fun h=>absurd rfl h
  |done r=>exact .mk fun _=>hz)
 rintro p ⟨p1,p2⟩
 unfold s9
 refine .dec (fun hp=> ?_) fun _=> .mk trivial
 simp only[List.length_cons,List.length_nil]at hp
 refine .bd (P:=FlowP (fun _=>True) (fun z=>i+1<T.length/\∃r,z= .inr (.done r))) (.it (fun q:Int=>0<=q/\q<=4) (fun q=>(4 - q).toNat) ?_ ⟨by omega,by omega⟩) (fun z hz=>by
  cases z with
  |next _=>exact .mk (by simp only[Sum.elim_inl];rw[fu (by omega) (by omega)];omega)
  |done r=>obtain⟨h,r,rfl⟩:=hz;exact .mk h)
 rintro q ⟨q1,q2⟩
 unfold s8
 have hrow:∀p:Nat,p<6->∃row,idx [[([124,124]:List UInt8)],[[38,38]],[[61,61],[33,61]],[[60],[60,61],[62],[62,61]],[[43],[45]],[[42],[47],[37]]] (p:Int)=some row/\row.length<=4:=fun p hp=>by
  match p with
  | 0| 1| 2| 3| 4| 5=>exact⟨_,rfl,by decide⟩
  |n+6=>omega
 obtain⟨row,hr,hl⟩:=hrow p.toNat (by omega)
 rw[Int.toNat_of_nonneg p1]at hr
 rw[hr]
 simp only[Option.bind_some]
 refine .dec (fun h4=> ?_) fun _=> .mk trivial
 obtain⟨n,rfl⟩:∃n:Nat,q=n:=⟨q.toNat,by omega⟩
 rw[jf (by omega)]
 refine .isT (is_ok hT h _) (fun g=> .tt (.mk ⟨g,_,rfl⟩)) (.ff (.mk ?_))
 simp only[Sum.elim_inl]
 rw[fu (by omega) (by omega)]
 omega
end
structure Good (M:Nat) (T:List ApiToken) (R:ay) (m:Nat):Prop where
 expr:∀{i d:Int},0<=i->i<T.length->16 * (T.length - i)+9<=m->Ok (t0 M T i) (R.1 T i d)
 level:∀{i d l:Int},0<=i->i<T.length->1<=l->l<=7->16 * (T.length - i)+9<=m+l->Ok (t0 M T i) (R.2.1 T i d l)
 unary:∀{i d:Int},0<=i->i<T.length->16 * (T.length - i)+1<=m->Ok (t0 M T i) (R.2.2.1 T i d)
 prim:∀{i d:Int},0<=i->i<T.length->16 * (T.length - i)<=m->Ok (t0 M T i) (R.2.2.2.1 T i d)
 args:∀{i d:Int},0<=i->i<T.length->16 * (T.length - i)+10<=m->Ok (ListP M T i) (R.2.2.2.2 T i d)
theorem go {P:Prop} (h:P:=by
 repeat' first
 |exact leaf
 |simp(disch:=omega) only[fu]
 |refine Ok.tt ?_
 |refine Ok.ff ?_
 |(refine Ok.dec (fun _=> ?_) (fun _=> ?_)<;>try (exfalso;omega))
 |refine Ok.cond (fun _=> ?_) (fun _=> ?_)
 |refine Ok.syn ?_
 |refine Ok.fine ?_
 |refine Ok.mk ?_
 |refine Ok.app (by simp only[nsize,fk,nsizes_app];omega) ?_
 |refine Ok.isT (is_ok hT (by omega) _) (fun _=> ?_) ?_
 |refine Ok.isT (name_ok hT (by omega)) (fun _=> ?_) ?_
 |refine Ok.tok hT (by omega) (by omega) (fun _ _ _ _=> ?_)
 |refine Ok.made hT hM (by omega) (by omega) (by omega) (by omega) (fun _ _=> ?_)
 |refine Ok.end hT hM (by omega) (by omega) (fun _=> ?_)
 |refine Ok.typed hT hM (by omega) (by omega) (fun _ _ _ _ _ _=> ?_)
 |refine Ok.node (hG.expr (by omega) (by omega) (by omega)) (fun _ _ _ _=> ?_) (fun _ _ _ _ _ _ _ _=> ?_)
 |refine Ok.node (hG.level (by omega) (by omega) (by omega) (by omega) (by omega)) (fun _ _ _ _=> ?_) (fun _ _ _ _ _ _ _ _=> ?_)
 |refine Ok.node (hG.unary (by omega) (by omega) (by omega)) (fun _ _ _ _=> ?_) (fun _ _ _ _ _ _ _ _=> ?_)
 |refine Ok.node (hG.prim (by omega) (by omega) (by omega)) (fun _ _ _ _=> ?_) (fun _ _ _ _ _ _ _ _=> ?_)
 |refine Ok.list (hG.args (by omega) (by omega) (by omega)) (fun _ _ _ _=> ?_) (fun _ _ _ _ _ _ _ _=> ?_)
 |refine Ok.node (expression_ok hT hM (by omega) (by omega)) (fun _ _ _ _=> ?_) (fun _ _ _ _ _ _ _ _=> ?_)
 |refine Ok.node (bracketed_ok hT hM (by omega) (by omega)) (fun _ _ _ _=> ?_) (fun _ _ _ _ _ _ _ _=> ?_)
 |refine Ok.node (locals_ok hT hM (by omega) (by omega)) (fun _ _ _ _=> ?_) (fun _ _ _ _ _ _ _ _=> ?_)
 |refine Ok.node (simple_ok hT hM (by omega) (by omega)) (fun _ _ _ _=> ?_) (fun _ _ _ _ _ _ _ _=> ?_)
 |refine Ok.node (block_ok hT hM (by omega) (by omega)) (fun _ _ _ _=> ?_) (fun _ _ _ _ _ _ _ _=> ?_)
 |refine Ok.node (hS.block (by omega) (by omega) (by omega)) (fun _ _ _ _=> ?_) (fun _ _ _ _ _ _ _ _=> ?_)
 |refine Ok.node (hS.stmt (by omega) (by omega) (by omega)) (fun _ _ _ _=> ?_) (fun _ _ _ _ _ _ _ _=> ?_)
 |refine Ok.node (hS.guard (by omega) (by omega) (by omega)) (fun _ _ _ _=> ?_) (fun _ _ _ _ _ _ _ _=> ?_)
 |refine Ok.list (params_ok hT hM (by omega) (by omega)) (fun _ _ _ _=> ?_) (fun _ _ _ _ _ _ _ _=> ?_)
 |refine Ok.isT (kind_ok hT (by omega)) (fun _=> ?_) ?_):P:=h
section
variable {M:Nat} {T:List ApiToken} (hT:ToksN M T) (hM:M<=60000) {R:ay} {m:Nat} (hG:Good M T R m)
include hT hM hG
theorem expression_good {i d:Int} (h:0<=i) (hi:i<T.length) (hm:16 * (T.length - i)+9<=m+1):Ok (t0 M T i) (lp R T i d):=by
 have:=hT.len
 unfold lp
 exact go
theorem level_good {i d l:Int} (h:0<=i) (hi:i<T.length) (h1:1<=l) (h7:l<=7) (hm:16 * (T.length - i)+9<=m+1+l):Ok (t0 M T i) (F_ref12_level R T i d l):=by
 have:=hT.len
 unfold F_ref12_level ref12_level_j1 ref12_level_k3 ref12_level_j2
 refine .dec (fun _=>go) fun _=> ?_
 rw[fu (by omega) (by omega)]
 refine Ok.node (hG.level h hi (by omega) (by omega) (by omega)) (fun _ _ _ _=>go) (fun n j w hw g1 g2 g3 g4=> .dec (fun _=>go) fun _=> ?_)
 refine .bd (P:=FlowP (fun p=>t0 M T i (p.2,p.1,⟨-1,0⟩)) (t0 M T i)) (.it (fun s:Int × ApiNode=>i<s.1/\s.1<T.length/\okB M s.2/\(nsize s.2:Int)+i<=s.1) (fun s=>(T.length - s.1).toNat) ?_ ⟨g1,g2,g3,g4⟩) (fun z hz=>by cases z<;>exact .mk hz)
 rintro⟨k,x⟩ ⟨q1,q2,q3,q4⟩
 dsimp only at q1 q2 q3 q4
 unfold sx ref12_level_j5
 dsimp only
 refine .bd (binds_ok hT hM (by omega)) fun b hb=> .cond (fun e=> ?_) fun _=> .mk fun _=>⟨q1,q2,q3,q4⟩
 have:=hb (by rw[beq_iff_eq]at e;omega)
 exact go
theorem unary_tail {i d:Int} (h:0<=i) (hi:i<T.length) (hm:16 * (T.length - i)+1<=m+1) (b:Bool) (hb:b=true->i+1<T.length):Ok (t0 M T i) (pj R T i d b):=by
 have:=hT.len
 unfold pj ref12_unary_j1 sw ref12_unary_j3 ref12_unary_k5 ref12_unary_j4
 refine .cond (fun e=> ?_) fun _=> .node (hG.prim h hi (by omega)) (fun _ _ _ _=>go) fun n j w hw g1 g2 g3 g4=> .dec (fun _=>go) fun _=> ?_
 ·have:=hb e
  exact go
 refine .bd (P:=FlowP (fun p=>t0 M T i (p.2,p.1,⟨-1,0⟩)) (t0 M T i)) (.it (fun s:Int × ApiNode=>i<s.1/\s.1<T.length/\okB M s.2/\(nsize s.2:Int)+i<=s.1) (fun s=>(T.length - s.1).toNat) ?_ ⟨g1,g2,g3,g4⟩) (fun z hz=>by cases z<;>exact .mk hz)
 rintro⟨k,x⟩ ⟨q1,q2,q3,q4⟩
 dsimp only at q1 q2 q3 q4
 unfold su ref12_unary_j8 sv
 dsimp only
 exact go
theorem unary_good {i d:Int} (h:0<=i) (hi:i<T.length) (hm:16 * (T.length - i)+1<=m+1):Ok (t0 M T i) (F_ref12_unary R T i d):=by
 unfold F_ref12_unary
 exact .dec (fun _=>go) fun _=> .isT (is_ok hT h _) (fun g=> .tt (unary_tail hT hM hG h hi hm _ fun _=>g)) (.ff (.bd (is_ok hT h _) fun b hb=>unary_tail hT hM hG h hi hm b hb))
theorem args_good {i d:Int} (h:0<=i) (hi:i<T.length) (hm:16 * (T.length - i)+10<=m+1):Ok (ListP M T i) (nq R T i d):=by
 have:=hT.len
 unfold nq
 refine .isT (is_ok hT h _) (fun _=>go) (.ff (.it (fun s:Int × List ApiNode=>i<=s.1/\s.1<T.length/\okBL M s.2/\(fk s.2:Int)+i<=s.1) (fun s=>(T.length - s.1).toNat) ?_ ⟨by simp,hi,by simp[okBL],by simp[fk]⟩))
 rintro⟨k,x⟩ ⟨q1,q2,q3,q4⟩
 dsimp only at q1 q2 q3 q4
 unfold lm qc
 dsimp only
 exact go
theorem prim_good {i d:Int} (h:0<=i) (hi:i<T.length) (hm:16 * (T.length - i)<=m+1):Ok (t0 M T i) (q6 R T i d):=by
 have:=hT.len
 unfold q6 tg tp tn tm tl tk tj ti rn
 refine .tok hT h hi fun t g1 _ g5=> .cond (fun e=> ?_) fun _=>go
 have:=g5 (by rw[beq_iff_eq]at e;omega)
 rw[fu (n:=i+1) (by omega) (by omega)]
 refine .made hT hM h hi (by omega) (by omega) fun a b=> .bd (P:=fun x=>okB M x/\nsize x=1) (.it (fun s:Int × ApiNode=>0<=s.1/\s.1<=M/\okB M s.2/\nsize s.2=1) (fun s=>(M - s.1).toNat) ?_ ⟨by simp,by simp,by simp[okB,okBL],by simp[nsize,fk]⟩) fun x hx=> .fine (.mk fun _=>⟨by simp only;omega,by simp only;omega,hx.1,by simp only[hx.2];omega⟩)
 rintro⟨k,x⟩ ⟨q1,q2,q3,q4⟩
 dsimp only at q1 q2 q3 q4
 unfold o3
 dsimp only
 obtain⟨n,rfl⟩:∃n:Nat,i=n:=⟨i.toNat,by omega⟩
 have hn:n<T.length:=by omega
 have ht:=hT.txt n hn
 rw[jf hn]
 simp only[Option.bind_some]
 refine .dec (fun hk=> .bd (idxS_ok q1 hk) fun _ _=> .mk ?_) fun _=> .mk ⟨q3,q4⟩
 rw[fu (n:=k+1) (by omega) (by omega)]
 cases x
 simp only[okB,nsize]at q3 q4 ⊢
 exact⟨⟨by omega,by omega,q3,q4⟩,by omega⟩
end
section
variable {M:Nat} {T:List ApiToken} (hT:ToksN M T) (hM:M<=60000)
include hT hM
theorem good_at :∀(m n:Nat),m<n->Good M T (d4 n) m:=by
 intro m
 induction m with
 |zero=>
  intro n hn
  exact⟨fun _ _ _=>by omega,fun _ _ _ _ _=>by omega,fun _ _ _=>by omega,fun _ _ _=>by omega,fun _ _ _=>by omega⟩
 |succ m ih=>
  intro n hn
  obtain⟨n,rfl⟩:∃k,n=k+1:=⟨n - 1,by omega⟩
  have hG:=ih n (by omega)
  exact⟨fun h hi hm=>expression_good hT hM hG h hi hm,fun h hi h1 h7 hm=>level_good hT hM hG h hi h1 h7 hm,fun h hi hm=>unary_good hT hM hG h hi hm,fun h hi hm=>prim_good hT hM hG h hi hm,fun h hi hm=>args_good hT hM hG h hi hm⟩
theorem expression_ok {i d:Int} (h:0<=i) (hi:i<T.length):Ok (t0 M T i) (jx T i d):=
 (good_at hT hM 1000000 1048576 (by omega)).expr h hi (by have:=hT.len;omega)
end
end Go.Proofs.YtcndghapmoaidaaGreatDoor
set_option linter.unusedSectionVars false
set_option linter.unusedVariables false
set_option linter.unusedSimpArgs false
set_option maxRecDepth 100000
set_option maxHeartbeats 4000000
namespace Go.Proofs.YtcndghapmoaidaaGreatDoor
open Go Go.Cn
variable [Glob]
section
variable {M:Nat} {T:List ApiToken} (hT:ToksN M T)
include hT
theorem kind_ok {i:Int} (h:0<=i):Ok (fun b=>b=true->i+1<T.length) (ref12_kind T i):=by
 unfold ref12_kind oa
 exact .isT (name_ok hT h) (fun g=> .tt (.mk fun _=>g)) (.ff (.isT (is_ok hT h _) (fun g=> .tt (.mk fun _=>g)) (.ff (.isT (is_ok hT h _) (fun g=> .tt (.mk fun _=>g)) (.ff (.bd (is_ok hT h _) fun _ g=> .mk g))))))
theorem local_ok {i:Int} (h:0<=i) (hi:i<T.length) (hM:M<=60000):Ok (fun _=>True) (ref12_local T i):=by
 have:=hT.len
 unfold ref12_local kc
 rw[fu (by omega) (by omega)]
 exact .bd (is_ok hT h _) fun _ _=> .cond (fun _=> .mk trivial) fun _=> .bd (is_ok hT h _) fun _ _=> .cond (fun _=> .mk trivial) fun _=> .bd (is_ok hT h _) fun _ _=> .cond (fun _=> .mk trivial) fun _=> .bd (name_ok hT h) fun _ _=> .cond (fun _=> .bd (name_ok hT (by omega)) fun _ _=> .mk trivial) fun _=> .mk trivial
variable (hM:M<=60000)
include hM
theorem bracketed_ok {i d:Int} (h:0<=i) (hi:i<T.length):Ok (t0 M T i) (ni T i d):=by
 have:=hT.len
 unfold ni qb qa
 exact go
theorem locals_ok {i d:Int} (h:0<=i) (hi:i<T.length):Ok (t0 M T i) (ref12_locals T i d):=by
 have:=hT.len
 unfold ref12_locals ref12_locals_j1
 exact go
theorem simple_ok {i d:Int} (h:0<=i) (hi:i+1<T.length):Ok (t0 M T i) (ref12_simple T i d):=by
 have:=hT.len
 unfold ref12_simple ref12_simple_j1 ref12_simple_j2
 exact go
theorem params_ok {i:Int} (h:0<=i) (hi:i<T.length):Ok (ListP M T i) (ref12_params T i):=by
 have:=hT.len
 unfold ref12_params
 refine .isT (is_ok hT h _) (fun _=>go) (.ff (.it (fun s:Int × List ApiNode=>i<=s.1/\s.1<T.length/\okBL M s.2/\(fk s.2:Int)+i<=s.1) (fun s=>(T.length - s.1).toNat) ?_ ⟨by simp,hi,by simp[okBL],by simp[fk]⟩))
 rintro⟨k,x⟩ ⟨q1,q2,q3,q4⟩
 dsimp only at q1 q2 q3 q4
 unfold qv qw
 dsimp only
 refine .isT (kind_ok hT (by omega)) (fun _=> .ff (.bd (is_ok hT (by omega) _) fun _ _=>go)) (.tt go)
end
structure GoodS (M:Nat) (T:List ApiToken) (R:cc) (m:Nat):Prop where
 block:∀{i d:Int},0<=i->i<T.length->4 * (T.length - i)<=m->Ok (t0 M T i) (R.1 T i d)
 stmt:∀{i d:Int},0<=i->i<T.length->4 * (T.length - i)+1<=m->Ok (t0 M T i) (R.2.1 T i d)
 guard:∀{i d:Int},0<=i->i+1<T.length->4 * (T.length - i)<=m->Ok (t0 M T i) (R.2.2 T i d)
section
variable {M:Nat} {T:List ApiToken} (hT:ToksN M T) (hM:M<=60000) {R:cc} {m:Nat} (hS:GoodS M T R m)
include hT hM hS
theorem guarded_good {i d:Int} (h:0<=i) (hi:i+1<T.length) (hm:4 * (T.length - i)<=m+1):Ok (t0 M T i) (q7 R T i d):=by
 have:=hT.len
 unfold q7 tv tu o4 tr
 exact go
theorem statement_j4_good {i d:Int} (h:0<=i) (hi:i<T.length) (b:Bool) (hb:b=true->i+1<T.length):Ok (t0 M T i) (jm R T i d b):=by
 have:=hT.len
 unfold jm p9 ll p8
 refine .cond (fun e=> ?_) fun _=>go
 have:=hb e
 exact go
theorem statement_j5_good {i d:Int} (h:0<=i) (hi:i<T.length) (hm:4 * (T.length - i)+1<=m+1) (b:Bool) (hb:b=true->i+1<T.length):Ok (t0 M T i) (jl R T i d b):=by
 have:=hT.len
 unfold jl
 refine .cond (fun e=> ?_) fun _=> .isT (is_ok hT h _) (fun g=> .tt (statement_j4_good hT hM hS h hi _ fun _=>g)) (.ff (.bd (is_ok hT h _) fun b hb=>statement_j4_good hT hM hS h hi b hb))
 have:=hb e
 exact go
theorem statement_good {i d:Int} (h:0<=i) (hi:i<T.length) (hm:4 * (T.length - i)+1<=m+1):Ok (t0 M T i) (np R T i d):=by
 have:=hT.len
 unfold np
 exact .dec (fun _=>go) fun _=> .isT (is_ok hT h _) (fun _=> .tt go) (.ff (.isT (is_ok hT h _) (fun g=> .tt (statement_j5_good hT hM hS h hi hm _ fun _=>g)) (.ff (.bd (is_ok hT h _) fun b hb=>statement_j5_good hT hM hS h hi hm b hb))))
theorem block_good {i d:Int} (h:0<=i) (hi:i<T.length) (hm:4 * (T.length - i)<=m+1):Ok (t0 M T i) (F_ref12_block R T i d):=by
 have:=hT.len
 unfold F_ref12_block ref12_block_k1
 refine .isT (is_ok hT h _) (fun g=> .ff ?_) (.tt go)
 rw[fu (by omega) (by omega)]
 refine .bd (P:=FlowP (fun p:Int × List ApiNode=>p.1+1<T.length/\i<p.1/\okBL M p.2/\(fk p.2:Int)+i+1<=p.1) (t0 M T i)) (.it (fun s:Int × List ApiNode=>i<s.1/\s.1<T.length/\okBL M s.2/\(fk s.2:Int)+i+1<=s.1) (fun s=>(T.length - s.1).toNat) ?_ ⟨by simp only;omega,g,by simp[okBL],by simp[fk]⟩) (fun z hz=> ?_)
 ·rintro⟨k,x⟩ ⟨q1,q2,q3,q4⟩
  dsimp only at q1 q2 q3 q4
  unfold s7 pl ref12_block_j3
  dsimp only
  refine .isT (is_ok hT (by omega) _) (fun _=> .ff (.mk ⟨by assumption,q1,q3,q4⟩)) (.tt (.bd (local_ok hT (by omega) q2 hM) fun _ _=> .cond (fun _=> ?_) fun _=>go))
  refine .node (locals_ok hT hM (by omega) (by omega)) (fun _ _ _ _=>go) fun _ _ _ _ _ _ _ _=>go
 ·cases z with
  |done r=>exact .mk hz
  |next p=>
   obtain⟨g1,g2,g3,g4⟩:=hz
   dsimp only
   exact go
end
section
variable {M:Nat} {T:List ApiToken} (hT:ToksN M T) (hM:M<=60000)
include hT hM
theorem goodS_at :∀(m n:Nat),m<n->GoodS M T (jn n) m:=by
 intro m
 induction m with
 |zero=>
  intro n hn
  exact⟨fun _ _ _=>by omega,fun _ _ _=>by omega,fun _ _ _=>by omega⟩
 |succ m ih=>
  intro n hn
  obtain⟨n,rfl⟩:∃k,n=k+1:=⟨n - 1,by omega⟩
  have hS:=ih n (by omega)
  exact⟨fun h hi hm=>block_good hT hM hS h hi hm,fun h hi hm=>statement_good hT hM hS h hi hm,fun h hi hm=>guarded_good hT hM hS h hi hm⟩
theorem block_ok {i d:Int} (h:0<=i) (hi:i<T.length):Ok (t0 M T i) (ref12_block T i d):=
 (goodS_at hT hM 1000000 1048576 (by omega)).block h hi (by have:=hT.len;omega)
theorem member_j6_ok {i a:Int} (b:Bool) (h:0<=i) (hi:i<=a) (ha:a<T.length):Ok (t0 M T i) (nh T i b a):=by
 have:=hT.len
 unfold nh qx qy ref12_member_j1 ref12_member_j4 ref12_member_j5
 exact go
theorem member_ok {i:Int} (h:0<=i) (hi:i<T.length):Ok (t0 M T i) (ref12_member T i):=by
 have:=hT.len
 unfold ref12_member
 rw[fu (by omega) (by omega)]
 exact .isT (is_ok hT h _) (fun g=> .tt (member_j6_ok hT hM _ h (by omega) g)) (.ff (member_j6_ok hT hM _ h (by omega) hi))
end
end Go.Proofs.YtcndghapmoaidaaGreatDoor
set_option linter.unusedSectionVars false
set_option linter.unusedVariables false
set_option linter.unusedSimpArgs false
set_option maxRecDepth 100000
set_option maxHeartbeats 4000000
namespace Go.Proofs.YtcndghapmoaidaaGreatDoor
open Go Go.Cn
variable [Glob]
def CP (n:ApiNode):Prop:=n.Kind=1/\n.Text≠[]/\ix n.Text=some false
abbrev ClassP (M:Nat) (T:List ApiToken) (i:Int):ApiNode × Int × Ref12Wrong->Prop:=fun r=>r.2.2.Place<0->(i<r.2.1/\r.2.1<T.length/\okB M r.1/\(nsize r.1:Int)+i<=r.2.1)/\CP r.1
section
variable {M:Nat} {T:List ApiToken} (hT:ToksN M T) (hM:M<=60000)
include hT hM
theorem class_k3_ok {i:Nat} {s j:Int} {l:List ApiNode} (hi:i+1<T.length) (hk:T[i+1].Kind=1) (hs:s<T.length) (g1:i<j) (g2:j+1<T.length) (hl:okBL M l) (hn:(fk l:Int)+i+1<=j):Ok (ClassP M T i) (s5 T i s j l):=by
 have:=hT.len
 unfold s5 s6 ref12_class_j1
 rw[fu (n:=j+1) (by omega) (by omega),fu (n:=(i:Int)+1) (by omega) (by omega)]
 refine .made hT hM (by omega) (by omega) (by omega) (by omega) fun a b=> ?_
 have e:idx T ((i:Int)+1)=some T[i+1]:=jf hi
 have h1:=hT.txt _ hi
 have h2:=hT.kept _ hi hk
 rw[e]
 simp only[Option.bind_some]
 refine .dec (fun _=> .tok hT (by omega) hs fun t _ _ _=> .tok hT (by omega) hs fun _ _ _ _=> .fine (.mk fun _=>⟨leaf,rfl,h2⟩)) fun _=> .fine (.mk fun _=>⟨leaf,rfl,h2⟩)
theorem class_j6_ok {i:Nat} {s a:Int} (hi:i+1<T.length) (hk:T[i+1].Kind=1) (hs:s<T.length) (ha:i<a):Ok (ClassP M T i) (pk T i a s):=by
 have:=hT.len
 unfold pk
 refine .isT (is_ok hT (by omega) _) (fun g=> .ff ?_) (.tt (.syn (.mk fun h=>absurd h (by simp only;omega))))
 rw[fu (by omega) (by omega)]
 refine .bd (P:=FlowP (fun p:Int × List ApiNode=>p.1+1<T.length/\i<p.1/\okBL M p.2/\(fk p.2:Int)+i+1<=p.1) (ClassP M T i)) (.it (fun s:Int × List ApiNode=>i<s.1/\s.1<T.length/\okBL M s.2/\(fk s.2:Int)+i+1<=s.1) (fun s=>(T.length - s.1).toNat) ?_ ⟨by simp only;omega,g,by simp[okBL],by simp[fk];omega⟩) (fun z hz=> ?_)
 ·rintro⟨k,x⟩ ⟨q1,q2,q3,q4⟩
  dsimp only at q1 q2 q3 q4
  unfold sy ref12_class_j5
  dsimp only
  refine .isT (is_ok hT (by omega) _) (fun _=> .ff (.mk ⟨by assumption,q1,q3,q4⟩)) (.tt (.node (member_ok hT hM (by omega) q2) (fun _ _ w hw=> .dec (fun _=> .mk fun h=> ?_) fun _=>go) fun _ _ _ _ _ _ _ _=> .dec (fun h=>absurd h (by simp only;omega)) fun _=>go))
  simp only at h
  omega
 ·cases z with
  |done r=>exact .mk hz
  |next p=>
   obtain⟨g1,g2,g3,g4⟩:=hz
   exact class_k3_ok hT hM hi hk hs g2 g1 g3 g4
theorem name_kind {n:Nat} (h:n<T.length):Ok (fun b=>b=true->n+1<T.length/\T[n].Kind=1) (gx T n):=by
 obtain⟨b,hb,h2⟩:=name_ok hT (show(0:Int)<=n by omega)
 refine⟨b,hb,fun e=>⟨by have:=h2 e;omega,?_⟩⟩
 unfold gx rl at hb
 rw[if_pos (by simpa using h),jf h]at hb
 simp only[Option.bind_some,Option.some.injEq]at hb
 subst hb
 simpa using e
theorem class_ok {i:Nat} (hi:i+1<T.length):Ok (ClassP M T i) (ref12_class T i):=by
 have:=hT.len
 have bad:∀p:Int,0<=p->Ok (ClassP M T i) ((cp p).bind fun w=>some ((ApiNode.mk 0 [] [] 0 0 0 0 0 []),0,w)):=fun p hp=> .syn (.mk fun h=>by simp only at h;omega)
 unfold ref12_class
 have e1:w64 ((i:Int)+1)=((i+1:Nat):Int):=by rw[fu (by omega) (by omega)];rfl
 rw[e1,fu (n:=(i:Int)+2) (by omega) (by omega),fu (n:=(i:Int)+2+1) (by omega) (by omega),fu (n:=(i:Int)+2+2) (by omega) (by omega)]
 exact .isT (is_ok hT (by omega) _) (fun _=> .ff (.isT (name_kind hT hM hi) (fun g=> .ff (.isT (is_ok hT (by omega) _) (fun g2=> .tt (.isT (name_ok hT (by omega)) (fun _=> .ff (class_j6_ok hT hM hi g.2 (by omega) (by omega))) (.tt (bad _ (by omega))))) (.ff (class_j6_ok hT hM hi g.2 (by omega) (by omega))))) (.tt (bad _ (by omega))))) (.tt (bad _ (by omega)))
theorem mistake_ok {w:Ref12Wrong} (hw:w.Place≥0):Ok (fun _=>True) (ref12_mistake T w):=by
 have:=hT.len
 have:=hT.pos
 unfold ref12_mistake tq
 rw[fu (by omega) (by omega)]
 exact .tok hT (by split<;>omega) (by split<;>omega) fun _ _ _ _=> .mk trivial
end
theorem nsize_mem {x:ApiNode}:∀{l:List ApiNode},x∈l->nsize x<=fk l
 |n::l,h=>by
  simp only[fk]
  rcases List.mem_cons.1 h with rfl|h
  ·omega
  ·have:=nsize_mem h;omega
theorem depth_at :∀(k:Nat) (x:ApiNode),nsize x<=k->k<=1048576->Ok (fun _=>True) (ln k x):=by
 intro k
 induction k with
 |zero=>intro x h;have:=nsize_pos x;omega
 |succ k ih=>
  intro x hx hk
  show Ok _ (F_ref11_Depth (ln k) x)
  have hl:=m0 x.Kids
  have hs:=nsize_eq x
  unfold F_ref11_Depth ref11_Depth_k1
  refine .bd (P:=fun _=>True) (.it (fun s:Int × Int=>0<=s.2/\s.2<=x.Kids.length) (fun s=>(x.Kids.length - s.2).toNat) ?_ ⟨by simp,by simp⟩) fun _ _=> .mk trivial
  rintro⟨v,i⟩ ⟨h1,h2⟩
  dsimp only at h1 h2
  unfold ta
  refine .dec (fun h=> ?_) fun _=> .mk trivial
  obtain⟨i,rfl⟩:∃n:Nat,i=n:=⟨i.toNat,by omega⟩
  have hi:i<x.Kids.length:=by simpa using h
  have:=nsize_mem (List.getElem_mem hi)
  dsimp only
  rw[jf hi,Option.bind_some]
  refine .bd (ih x.Kids[i] (by omega) (by omega)) fun _ _=> .mk ?_
  simp only[Sum.elim_inl]
  rw[fu (by omega) (by omega)]
  omega
def FileP (M:Nat) (l:List ApiNode):Prop:=okBL M l/\fk l<=M/\∀c∈l,CP c
theorem File_ok {x:List UInt8} {M:Nat} (hM:x.length<=M) (hx:M<=60000):Ok (fun r:List ApiNode × ApiMistake=>r.2.Code=0->FileP M r.1) (ref12_File x):=by
 unfold ref12_File
 refine .bd (Lex_ok (by omega)) ?_
 rintro⟨T,p,e⟩ hT
 refine .cond (fun h=> .mk fun h2=>by simp only at h2;simp[h2]at h) fun h=> ?_
 have hT:=hT (by simpa using h)
 have hT:ToksN M T:=⟨by have:=hT.len;simp only at this;omega,hT.pos,hT.last,fun i h=>Nat.le_trans (hT.txt i h) hM,hT.kept⟩
 have hlen:=hT.len
 have hpos:=hT.pos
 refine .bd (P:=FlowP (FileP M) (fun r:List ApiNode × ApiMistake=>r.2.Code=0->FileP M r.1)) (.it (fun s:Int × List ApiNode=>0<=s.1/\s.1<T.length/\okBL M s.2/\(fk s.2:Int)<=s.1/\∀c∈s.2,CP c) (fun s=>(T.length - s.1).toNat) ?_ ⟨by simp,by simp only;omega,by simp[okBL],by simp[fk],fun _ h=>by cases h⟩) fun z hz=> ?_
 ·rintro⟨k,l⟩ ⟨q1,q2,q3,q4,q5⟩
  dsimp only at q1 q2 q3 q4 q5
  unfold ref12_File_l5
  refine .tok hT q1 q2 fun t _ _ h5=> .cond (fun hk=> ?_) fun _=> .mk ⟨q3,by simp only;omega,q5⟩
  have:=h5 (by simpa using hk)
  obtain⟨k,rfl⟩:∃n:Nat,k=n:=⟨k.toNat,by omega⟩
  refine .bd (class_ok hT hx (i:=k) (by omega)) ?_
  rintro⟨n,j,w⟩ g
  refine .dec (fun hw=> .bd (mistake_ok hT hx hw) fun m _=> ?_) fun hw=> ?_
  ·exact .mk fun _=>⟨by simp[okBL],by simp[fk],fun _ h=>by cases h⟩
  ·obtain⟨⟨g1,g2,g3,g4⟩,g5⟩:=g (by simp only;omega)
   dsimp only at g1 g2 g3 g4 g5
   refine .app (by simp only[fk];omega) (.mk ⟨⟨by simp only;omega,g2,okBL_app.2 ⟨q3,g3,trivial⟩,by simp only[nsizes_app,fk];omega,fun c hc=> ?_⟩,by simp only;omega⟩)
   rcases List.mem_append.1 hc with hc|hc
   ·exact q5 c hc
   ·obtain rfl:c=n:=by simpa using hc
    exact g5
 ·cases z with
  |done r=>exact .mk hz
  |next l=>
   have hz:FileP M l:=hz
   have hl:=m0 l
   have hm:=hz.2.1
   dsimp only
   unfold ref12_File_k4 ref12_File_k1
   refine .bd (P:=FlowP (fun _=>True) (fun r:List ApiNode × ApiMistake=>r.2.Code≠0)) (.it (fun i:Int=>0<=i/\i<=l.length) (fun i=>(l.length - i).toNat) ?_ ⟨by simp,by simp⟩) fun z h2=> ?_
   ·rintro i ⟨h1,h2⟩
    unfold ref12_File_l2 ref12_File_j3
    refine .dec (fun h=> ?_) fun _=> .mk trivial
    obtain⟨i,rfl⟩:∃n:Nat,i=n:=⟨i.toNat,by omega⟩
    have hi:i<l.length:=by omega
    have:=nsize_mem (List.getElem_mem hi)
    rw[jf hi,Option.bind_some]
    refine .bd (depth_at 1048576 l[i] (by omega) (Nat.le_refl _)) fun d _=> .dec (fun _=> .mk (by simp[FlowP])) fun _=> .mk ?_
    simp only[Sum.elim_inl]
    rw[fu (by omega) (by omega)]
    omega
   ·cases z with
    |next _=>exact .mk fun _=>hz
    |done r=>exact .mk fun h=>absurd h h2
end Go.Proofs.YtcndghapmoaidaaGreatDoor
set_option linter.unusedSectionVars false
set_option linter.unusedVariables false
set_option linter.unusedSimpArgs false
set_option maxRecDepth 100000
set_option maxHeartbeats 4000000
namespace Go.Proofs.YtcndghapmoaidaaGreatDoor
open Go Go.Cn
variable [Glob]
theorem cat_ok {a b:List UInt8} (h:a.length+b.length<=9000000000):Ok (fun s=>s=a++b) (cat a b):=by
 unfold cat
 rw[if_pos (by omega)]
 exact .mk rfl
theorem app_ok {α:Type} {n:Nat} {l m:List α} (h:(l.length+m.length) * n<=140737488355328) (h2:l.length+m.length<=140737488355328):Ok (fun s=>s=l++m) (app n l m):=⟨_,app_eq h h2,rfl⟩
theorem digits_ok {n:Int} (h:n<=1000000000):Ok (fun s=>s.length<=1000000001) (ref15_digits n):=by
 unfold ref15_digits
 refine .it (fun s:Int × List UInt8=>0<=s.1/\s.1+s.2.length<=1000000000) (fun s=>s.1.toNat) ?_ ⟨by simp only;split<;>omega,by simp only[List.length_nil];split<;>omega⟩
 rintro⟨n,s⟩ ⟨h1,h2⟩
 dsimp only at h1 h2
 unfold qt
 have e:Int.tdiv n 10=n / 10:=Int.tdiv_eq_ediv_of_nonneg h1
 rw[fu (n:=Int.tdiv n 10) (by omega) (by omega),e]
 refine .bd (cat_ok (by simp[strOf];omega)) fun t ht=> .cond (fun _=> .mk ?_) fun h=> .mk ?_
 ·simp only[Sum.elim_inr,ht,List.length_append,strOf,List.length_map,List.length_cons,List.length_nil]
  omega
 ·have:n / 10≠0:=by simpa using h
  simp only[Sum.elim_inl,ht,List.length_append,strOf,List.length_map,List.length_cons,List.length_nil]
  omega
theorem Field_ok {a b:List UInt8} (h:a.length+b.length<=8000000000):Ok (fun s=>s.length=a.length+b.length+1) (ref15_Field a b):=by
 unfold ref15_Field
 refine .bd (cat_ok (by simp;omega)) fun s hs=> .bd (cat_ok (by subst hs;simp;omega)) fun t ht=> .mk ?_
 subst ht hs
 simp
 omega
theorem Method_ok {a b:List UInt8} (h:a.length+b.length<=8000000000):Ok (fun s=>s.length=a.length+b.length+3) (ref15_Method a b):=by
 unfold ref15_Method
 refine .bd (cat_ok (by simp;omega)) fun s hs=> .bd (cat_ok (by subst hs;simp;omega)) fun t ht=> .bd (cat_ok (by subst ht hs;simp;omega)) fun u hu=> .mk ?_
 subst hu ht hs
 simp
 omega
theorem Local_ok {a:List UInt8} {n:Int} (h:a.length<=1000000000) (hn:n<=1000000000):Ok (fun _=>True) (ref15_Local a n):=by
 unfold ref15_Local
 exact .bd (cat_ok (by simp;omega)) fun s hs=> .bd (digits_ok hn) fun t ht=> .bd (cat_ok (by subst hs;simp;omega)) fun _ _=> .mk trivial
theorem Ok.row {α σ ω:Type} {l:List α} {f:Int × σ->Option ((Int × σ) ⊕ ω)} {Q:ω->Prop} (I:Nat->σ->Prop) (hl:l.length<=1000000000)
  (h1:∀(i:Nat) (h:i<l.length) s,I i s->Ok (Sum.elim (fun p=>p.1=((i+1:Nat):Int)/\I (i+1) p.2) Q) (f ((i:Int),s))) (h2:∀(i:Nat) s,¬(i:Int)<l.length->I l.length s->Ok (Sum.elim (fun _=>False) Q) (f ((i:Int),s))) {s:σ} (hs:I 0 s):Ok Q (iter f (0,s)):=by
 refine .it (fun p:Int × σ=>∃i:Nat,p.1=i/\i<=l.length/\I i p.2) (fun p=>l.length - p.1.toNat) ?_ ⟨0,rfl,Nat.zero_le _,hs⟩
 rintro⟨_,s⟩ ⟨i,rfl,hi,hI⟩
 dsimp only at hI
 by_cases h:i<l.length
 ·refine(h1 i h s hI).weak fun z hz=> ?_
  cases z with
  |inr w=>exact hz
  |inl p=>
   obtain⟨a,s'⟩:=p
   obtain⟨rfl,hp⟩:=hz
   simp only[Sum.elim_inl]
   exact⟨⟨i+1,rfl,h,hp⟩,by rw[Int.toNat_natCast,Int.toNat_natCast];omega⟩
 ·obtain rfl:i=l.length:=by omega
  refine(h2 _ s (by omega) hI).weak fun z hz=> ?_
  cases z with
  |inr w=>exact hz
  |inl p=>exact absurd hz id
theorem w64_n {n:Nat} (h:n<=9000000000000):w64 ((n:Int)+1)=((n+1:Nat):Int):=by rw[fu (by omega) (by omega)];rfl
theorem len_lt {α:Type} {l:List α} {i:Nat} (h:i<l.length):decide ((i:Int)<(l.length:Int))=true:=by simpa using h
theorem All_at :∀(k:Nat) (x:ApiNode),nsize x<=k->k<=1048576->Ok (fun l=>l.length=nsize x) (o9 k x 0):=by
 intro k
 induction k with
 |zero=>intro x h;have:=nsize_pos x;omega
 |succ k ih=>
  intro x hx hk
  show Ok _ (F_ref11_All (o9 k) x 0)
  have hl:=m0 x.Kids
  have hs:=nsize_eq x
  unfold F_ref11_All ref11_All_j4
  refine .cond (fun _=> .tt (.bd (app_ok (by simp) (by simp)) fun l h=> ?_)) fun h=>by simp at h
  unfold ref11_All_j3 ref11_All_k1
  refine .bd (.row (l:=x.Kids) (fun i (s:List ApiNode)=>s.length=1+fk (x.Kids.take i)) (by omega) (fun i hi s h1=> ?_) (fun i s hi h1=> ?_) (by subst h;simp[fk])) fun _ h=> .mk h
  ·dsimp only
   unfold uv
   have hm:=nsize_mem (List.getElem_mem hi)
   have ht:fk (x.Kids.take (i+1))=fk (x.Kids.take i)+nsize x.Kids[i]:=by rw[List.take_succ_eq_append_getElem hi,nsizes_app];simp[fk]
   have hd:fk (x.Kids.take i)+fk (x.Kids.drop i)=fk x.Kids:=by rw[← nsizes_app,List.take_append_drop]
   rw[if_pos (len_lt hi),jf hi,Option.bind_some]
   refine .bd (ih x.Kids[i] (by omega) (by omega)) fun m hm=> .bd (app_ok (by omega) (by omega)) fun r hr=> .mk ⟨w64_n (by omega),?_⟩
   subst hr
   simp only[List.length_append]
   omega
  ·dsimp only
   unfold uv
   rw[if_neg (by simpa using hi)]
   refine .mk ?_
   simp only[Sum.elim_inr,h1,hs,List.take_length]
theorem okBL_mem {M:Nat} {x:ApiNode}:∀{l:List ApiNode},okBL M l->x∈l->okB M x
 |n::l,h,hx=>by
  simp only[okBL]at h
  rcases List.mem_cons.1 hx with rfl|hx
  ·exact h.1
  ·exact okBL_mem h.2 hx
theorem okB_eq (M:Nat) (x:ApiNode):okB M x=((x.Text.length<=M/\x.Type_.length<=M)/\okBL M x.Kids):=by cases x;simp[okB]
theorem member_rows {c:List UInt8} {f:Int} {k:ApiNode} {M:Nat} (hM:M<=100000) (hc:c.length<=M) (hk:okB M k) (hs:nsize k<=M):Ok (fun l=>l.length<=M+1/\∀e∈l,e.Kind≠1) (ref15_member c f k):=by
 have hl:=m0 k.Kids
 have hn:=nsize_eq k
 rw[okB_eq]at hk
 unfold ref15_member
 refine .cond (fun _=> .bd (Field_ok (by omega)) fun _ _=> .mk ⟨by simp,fun e he=> ?_⟩) fun _=> .bd (Method_ok (by omega)) fun id hid=> .bd (All_at 1048576 k (by omega) (Nat.le_refl _)) fun all hall=> .bd (P:=fun l=>l.length<=M/\∀e∈l,e.Kind=4) (.row (l:=all) (fun i (s:List ApiEntity)=>s.length<=i/\∀e∈s,e.Kind=4) (by omega) (fun i hi s h1=> ?_) (fun i s hi h1=> ?_) ⟨Nat.le_refl _,fun _ h=>by cases h⟩) fun locals hL=> ?_
 ·obtain rfl:e=_:=by simpa using he
  simp
 ·have skip:Ok (Sum.elim (fun p=>p.1=((i+1:Nat):Int)/\p.2.length<=i+1/\∀e∈p.2,e.Kind=4) fun l:List ApiEntity=>l.length<=M/\∀e∈l,e.Kind=4) (jg id s all[i] f i false):=by
   unfold jg nf
   rw[if_neg (by simp)]
   exact .mk ⟨w64_n (by omega),by simp only;omega,h1.2⟩
  have take:Ok (Sum.elim (fun p=>p.1=((i+1:Nat):Int)/\p.2.length<=i+1/\∀e∈p.2,e.Kind=4) fun l:List ApiEntity=>l.length<=M/\∀e∈l,e.Kind=4) (jg id s all[i] f i true):=by
   unfold jg nf
   rw[if_pos rfl]
   refine .bd (Local_ok (by omega) (by omega)) fun _ _=> .bd (app_ok (by simp;omega) (by simp;omega)) fun r hr=> .mk ⟨w64_n (by omega),?_⟩
   subst hr
   refine⟨by simp;omega,fun e he=> ?_⟩
   rcases List.mem_append.1 he with he|he
   ·exact h1.2 e he
   ·obtain rfl:e=_:=by simpa using he
    rfl
  dsimp only
  unfold nd
  rw[if_pos (len_lt hi),jf hi,Option.bind_some]
  refine .cond (fun _=>take) fun _=> ?_
  cases (all[i].Kind==6)
  ·exact skip
  ·exact take
 ·dsimp only
  unfold nd
  rw[if_neg (by simpa using hi)]
  exact .mk ⟨by omega,h1.2⟩
 ·unfold ref15_member_k4 ref15_member_k1
  refine .bd (P:=fun l=>l.length<=M) (.row (l:=k.Kids) (fun i (s:List (List UInt8))=>s.length<=i) (by omega) (fun i hi s h1=> ?_) (fun i s hi h1=> ?_) (Nat.le_refl _)) fun ps _=> .bd (app_ok (by simp;omega) (by simp;omega)) fun r hr=> .mk ?_
  ·dsimp only
   unfold ne qp
   rw[if_pos (len_lt hi),jf hi,Option.bind_some]
   refine .cond (fun _=> ?_) fun _=> .mk ⟨w64_n (by omega),by simp only;omega⟩
   rw[Option.bind_some]
   refine .bd (app_ok (by simp;omega) (by simp;omega)) fun r hr=> .mk ⟨w64_n (by omega),?_⟩
   subst hr
   simp
   omega
  ·dsimp only
   unfold ne
   rw[if_neg (by simpa using hi)]
   exact .mk (by simp only[Sum.elim_inr];omega)
  ·subst hr
   refine⟨by simp;omega,fun e he=> ?_⟩
   rcases List.mem_append.1 he with he|he
   ·obtain rfl:e=_:=by simpa using he
    simp
   ·rw[hL.2 e he]
    decide
end Go.Proofs.YtcndghapmoaidaaGreatDoor
set_option linter.unusedSectionVars false
set_option linter.unusedVariables false
set_option linter.unusedSimpArgs false
set_option maxRecDepth 100000
set_option maxHeartbeats 4000000
namespace Go.Proofs.YtcndghapmoaidaaGreatDoor
open Go Go.Cn
variable [Glob]
theorem take_sizes {l:List ApiNode} {i:Nat} (hi:i<l.length):i+nsize l[i]<=fk l:=by
 have h1:fk (l.take i)+fk (l.drop i)=fk l:=by rw[← nsizes_app,List.take_append_drop]
 rw[List.drop_eq_getElem_cons hi]at h1
 simp only[fk]at h1
 have h2:=m0 (l.take i)
 rw[List.length_take]at h2
 omega
theorem again_at :∀(k:Nat) (x:ApiNode) (own:List (List UInt8)),nsize x<=k->k<=1048576->own.length+nsize x<=3000000->Ok (fun _=>True) (gm k x own):=by
 intro k
 induction k with
 |zero=>intro x _ h;have:=nsize_pos x;omega
 |succ k ih=>
  intro x own hx hk ho
  show Ok _ (F_ref15_again (gm k) x own)
  have hl:=m0 x.Kids
  have hs:=nsize_eq x
  unfold F_ref15_again ref15_again_k1
  refine .bd (P:=fun _=>True) (.it (fun s:List (List UInt8) × Int=>0<=s.2/\s.2<=x.Kids.length/\(s.1.length:Int)<=own.length+s.2) (fun s=>(x.Kids.length - s.2).toNat) ?_ ⟨by simp,by simp,by simp⟩) fun z _=>by cases z<;>exact .mk trivial
  rintro⟨s,i⟩ ⟨h1,h2,h3⟩
  dsimp only at h1 h2 h3
  unfold sr
  refine .dec (fun h=> ?_) fun _=> .mk trivial
  obtain⟨i,rfl⟩:∃n:Nat,i=n:=⟨i.toNat,by omega⟩
  have hi:i<x.Kids.length:=by omega
  have ht:=take_sizes hi
  dsimp only
  rw[jf hi,Option.bind_some]
  generalize hq:x.Kids[i]=q at ht
  have j5:Ok (Sum.elim (fun s':List (List UInt8) × Int=>(0<=s'.2/\s'.2<=x.Kids.length/\(s'.1.length:Int)<=own.length+s'.2)/\(x.Kids.length - s'.2).toNat<(x.Kids.length - ((s,(i:Int)):List (List UInt8) × Int).2).toNat) fun _=>True) (pe (gm k) q s i):=by
   have j4:∀y b,Ok (Sum.elim (fun s':List (List UInt8) × Int=>(0<=s'.2/\s'.2<=x.Kids.length/\(s'.1.length:Int)<=own.length+s'.2)/\(x.Kids.length - s'.2).toNat<(x.Kids.length - ((s,(i:Int)):List (List UInt8) × Int).2).toNat) fun _=>True) (pf (gm k) s q i y b):=fun y b=>by
    unfold pf ss
    rw[w64_n (by omega)]
    refine .cond (fun _=> .bd (app_ok (by simp;omega) (by simp;omega)) fun r hr=> .bd (app_ok (by subst hr;simp;omega) (by subst hr;simp;omega)) fun u hu=> .mk ?_) fun _=> .mk ?_
    ·subst hu hr
     simp
     omega
    ·simp
     omega
   unfold pe
   refine .bd (ih q s (by omega) (by omega) (by omega)) ?_
   rintro⟨y,b,o⟩ _
   exact .cond (fun _=> .mk trivial) fun _=> .cond (fun _=>j4 _ _) fun _=>j4 _ _
  have j9:∀b,Ok (Sum.elim (fun s':List (List UInt8) × Int=>(0<=s'.2/\s'.2<=x.Kids.length/\(s'.1.length:Int)<=own.length+s'.2)/\(x.Kids.length - s'.2).toNat<(x.Kids.length - ((s,(i:Int)):List (List UInt8) × Int).2).toNat) fun _=>True) (pd (gm k) s q i b):=fun b=>by
   unfold pd ref15_again_k6
   refine .cond (fun _=> ?_) fun _=>j5
   refine .bd (P:=FlowP (fun _=>True) (fun r=>∃a,r= .inr a)) (.it (fun a:Int=>0<=a/\a<=s.length) (fun a=>(s.length - a).toNat) ?_ ⟨by simp,by simp⟩) fun z hz=> ?_
   ·rintro a ⟨a1,a2⟩
    unfold sq ref15_again_j8
    refine .dec (fun h=> ?_) fun _=> .mk trivial
    obtain⟨a,rfl⟩:∃n:Nat,a=n:=⟨a.toNat,by omega⟩
    rw[jf (by omega),Option.bind_some,w64_n (by omega)]
    refine .cond (fun _=> .mk ⟨_,rfl⟩) fun _=> .mk ?_
    simp only[Sum.elim_inl]
    omega
   ·cases z with
    |next _=>exact j5
    |done r=>obtain⟨a,rfl⟩:=hz;exact .mk trivial
  exact .cond (fun _=>j9 _) fun _=>j9 _
theorem twice_ok {l:List ApiEntity} (hl:l.length<=900000000000):Ok (fun r:Int=>r<l.length) (ref15_twice l):=by
 unfold ref15_twice ref15_twice_k1
 refine .bd (P:=FlowP (fun _=>True) (fun r:Int=>r<l.length)) (.it (fun a:Int=>0<=a/\a<=l.length) (fun a=>(l.length - a).toNat) ?_ ⟨by omega,by omega⟩) fun z hz=>by
  cases z with
  |next _=>exact .mk (by omega)
  |done r=>exact .mk hz
 rintro i ⟨h1,h2⟩
 unfold sn ref15_twice_k3
 refine .dec (fun hi=> ?_) fun _=> .mk trivial
 obtain⟨i,rfl⟩:∃n:Nat,i=n:=⟨i.toNat,by omega⟩
 refine .bd (P:=FlowP (fun _=>True) (fun z=>z= .inr (.done (i:Int)))) (.it (fun a:Int=>0<=a/\a<=i) (fun a=>(i - a).toNat) ?_ ⟨by omega,by omega⟩) fun z hz=> ?_
 ·rintro k ⟨k1,k2⟩
  unfold sm mc
  have nx:k<i->Ok (Sum.elim (fun s':Int=>(0<=s'/\s'<=i)/\(i - s').toNat<(i - k).toNat) (FlowP (fun _:Unit=>True) fun z:Int ⊕ Flow Unit Int=>z= .inr (.done (i:Int)))) (if false=true then some (.inr (.done (.inr (.done (i:Int)))))else some (.inl (w64 (k+1)))):=fun h=>by
   rw[fu (by omega) (by omega)]
   exact .ff (.mk (by simp only[Sum.elim_inl];omega))
  refine .dec (fun hk=> ?_) fun _=> .mk trivial
  obtain⟨k,rfl⟩:∃n:Nat,k=n:=⟨k.toNat,by omega⟩
  have e1:=jf (l:=l) (i:=i) (by omega)
  have e2:=jf (l:=l) (i:=k) (by omega)
  simp only[e1,e2,Option.bind_some]
  refine .cond (fun _=> .cond (fun _=> .cond (fun _=> ?_) fun _=>nx hk) fun _=>nx hk) fun _=>nx hk
  generalize (l[i].Name==l[k].Name)=b
  cases b with
  |true=>exact .tt (.mk rfl)
  |false=>exact nx hk
 ·cases z with
  |next _=>exact .mk (by simp only[Sum.elim_inl];rw[w64_n (by omega)];omega)
  |done r=>
   obtain rfl:r=_:=hz
   exact .mk hi
def TabP (n:Int) (l:List ApiEntity):Prop:=(l.length:Int)<=n/\∀e∈l,e.Kind=1->e.Id≠[]/\ix e.Id=some false
theorem TabP.app {N:Int} {l m:List ApiEntity} {k:Nat} (h:TabP N l) (h1:m.length<=k) (h2:∀e∈m,e.Kind=1->e.Id≠[]/\ix e.Id=some false):TabP (N+k) (l++m):=by
 refine⟨?_,fun e he=> ?_⟩
 ·have:=h.1
  rw[List.length_append]
  omega
 ·rcases List.mem_append.1 he with he|he
  ·exact h.2 e he
  ·exact h2 e he
def BadD (r:List ApiEntity × ApiMistake):Prop:=r.2.Code=150
def BadC (q:(Int × List ApiEntity) ⊕ Flow (List ApiEntity) (List ApiEntity × ApiMistake)):Prop:=∃r,q= .inr (.done r)/\BadD r
def BadK (q:(Int × List ApiEntity) ⊕ Flow (List ApiEntity) ((Int × List ApiEntity) ⊕ Flow (List ApiEntity) (List ApiEntity × ApiMistake))):Prop:=∃r,q= .inr (.done r)/\BadC r
theorem kids_ok {f:Int} {c:ApiNode} {N:Int} {l:List ApiEntity} (hN2:N<=30000000000) (hc:okB 1500 c) (hs:nsize c<=1500) (hl:TabP N l):
  Ok (FlowP (TabP (N+2251500)) BadK) (iter (fun s=>md c f s.1 s.2) (0,l)):=by
 have hk:=m0 c.Kids
 have hn:=nsize_eq c
 rw[okB_eq]at hc
 refine .row (l:=c.Kids) (fun i s=>TabP (N+1501 * i) s) (by omega) (fun i hi s h1=> ?_) (fun i s hi h1=> ?_) (by simpa using hl)
 ·dsimp only
  unfold md
  rw[if_pos (len_lt hi),jf hi,Option.bind_some]
  have hm:=nsize_mem (List.getElem_mem hi)
  have hkid:=okBL_mem hc.2 (List.getElem_mem hi)
  generalize c.Kids[i]=k at hm hkid
  have j9:∀s',TabP (N+1501 * ((i+1:Nat):Int)) s'->Ok (Sum.elim (fun p=>p.1=((i+1:Nat):Int)/\TabP (N+1501 * ((i+1:Nat):Int)) p.2) (FlowP (TabP (N+2251500)) BadK)) (mg i s' k):=fun s' h=>by
   unfold mg
   exact .mk ⟨w64_n (by omega),h⟩
  have j12:∀b,Ok (Sum.elim (fun p=>p.1=((i+1:Nat):Int)/\TabP (N+1501 * ((i+1:Nat):Int)) p.2) (FlowP (TabP (N+2251500)) BadK)) (ng i s k c f b):=fun b=>by
   have hlen:=h1.1
   unfold ng qu ref15_Table_j10
   refine .cond (fun _=>j9 _ ⟨by omega,h1.2⟩) fun _=> .bd (member_rows (by omega) hc.1.1 hkid (by omega)) fun m hm=> .bd (app_ok (by omega) (by omega)) fun r hr=> ?_
   have hr2:TabP (N+1501 * ((i+1:Nat):Int)) r:=by
    subst hr
    have:=h1.app (k:=1501) hm.1 fun e he h=>absurd h (hm.2 e he)
    exact⟨by have:=this.1;omega,this.2⟩
   have hlen2:=hr2.1
   refine .bd (twice_ok (by omega)) fun t _=> .dec (fun _=>j9 _ hr2) fun _=> .bd (again_at 1048576 k [] (by omega) (Nat.le_refl _) (by simp;omega)) ?_
   rintro⟨y,b,o⟩ _
   exact .cond (fun _=> .cond (fun _=> .mk ⟨_,rfl,_,rfl,rfl⟩) fun _=>j9 _ hr2) fun _=> .ff (j9 _ hr2)
  exact .cond (fun _=>j12 _) fun _=>j12 _
 ·dsimp only
  unfold md
  rw[if_neg (by simpa using hi)]
  exact .mk ⟨by have:=h1.1;omega,h1.2⟩
theorem classes_ok {files:List (List ApiNode)} {i:Nat} (hi:i<files.length) (hF:FileP 1500 files[i]) {N:Int} {l:List ApiEntity} (hN2:N<=20000000000) (hl:TabP N l):
  Ok (FlowP (TabP (N+3400000000)) BadC) (iter (fun s=>mf files i s.1 s.2) (0,l)):=by
 have hk:=m0 files[i]
 have hn:=hF.2.1
 refine .row (l:=files[i]) (fun j s=>TabP (N+2251501 * j) s) (by omega) (fun j hj s h1=> ?_) (fun j s hj h1=> ?_) (by simpa using hl)
 ·dsimp only
  unfold mf
  rw[jf hi,Option.bind_some,if_pos (len_lt hj),Option.bind_some,jf hj,Option.bind_some]
  have hm:=nsize_mem (List.getElem_mem hj)
  have hc:=okBL_mem hF.1 (List.getElem_mem hj)
  have hC:=hF.2.2 _ (List.getElem_mem hj)
  generalize files[i][j]=c at hm hc hC
  have hlen:=h1.1
  have j5:∀s',TabP (N+2251501 * ((j+1:Nat):Int)) s'->Ok (Sum.elim (fun p=>p.1=((j+1:Nat):Int)/\TabP (N+2251501 * ((j+1:Nat):Int)) p.2) (FlowP (TabP (N+3400000000)) BadC)) (ph j s' c):=fun s' h=>by
   unfold ph
   exact .mk ⟨w64_n (by omega),h⟩
  refine .cond (fun _=>j5 _ ⟨by omega,h1.2⟩) fun _=> .bd (app_ok (by simp;omega) (by simp;omega)) fun r hr=> ?_
  have hr2:TabP (N+2251501 * j+1) r:=by
   subst hr
   exact h1.app (k:=1) (by simp) fun e he _=>by
    obtain rfl:e=_:=by simpa using he
    exact hC.2
  refine .bd (kids_ok (f:=i) (by omega) hc (by omega) hr2) fun z hz=> ?_
  cases z with
  |done r=>exact hz.elim fun w hw=>by obtain⟨rfl,h⟩:=hw;exact .mk h
  |next s'=>
   have hz:TabP _ s':=hz
   have h5:=hz.1
   dsimp only
   unfold ref15_Table_k7 ref15_Table_j6
   refine .bd (twice_ok (by omega)) fun t ht=> .dec (fun h0=> ?_) fun _=>j5 _ ⟨by omega,hz.2⟩
   obtain⟨t,rfl⟩:∃n:Nat,t=n:=⟨t.toNat,by omega⟩
   rw[jf (by omega),Option.bind_some,Option.bind_some]
   exact .mk ⟨_,rfl,rfl⟩
 ·dsimp only
  unfold mf
  rw[jf hi,Option.bind_some,if_neg (by simpa using hj)]
  exact .mk ⟨by have:=h1.1;omega,h1.2⟩
theorem Table_ok {files:List (List ApiNode)} (h6:files.length<=6) (hF:∀l∈files,FileP 1500 l):Ok (fun r:List ApiEntity × ApiMistake=>r.2.Code=0->TabP 30000000000 r.1) (ref15_Table files):=by
 unfold ref15_Table ref15_Table_k1
 refine .bd (P:=FlowP (TabP 30000000000) BadD) (.row (l:=files) (fun j s=>TabP (3400000000 * j) s) (by omega) (fun i hi s h1=> ?_) (fun i s hi h1=> ?_) ⟨by simp,fun _ h=>by cases h⟩) fun z hz=> ?_
 ·dsimp only
  unfold pg ref15_Table_k3
  rw[if_pos (len_lt hi)]
  refine .bd (classes_ok hi (hF _ (List.getElem_mem hi)) (by omega) h1) fun z hz=> ?_
  cases z with
  |done r=>exact hz.elim fun w hw=>by obtain⟨rfl,h⟩:=hw;exact .mk h
  |next s'=>exact .mk ⟨w64_n (by omega),by have:=hz.1;simp only;omega,hz.2⟩
 ·dsimp only
  unfold pg
  rw[if_neg (by simpa using hi)]
  exact .mk ⟨by have:=h1.1;omega,h1.2⟩
 ·cases z with
  |next s=>exact .mk fun _=>hz
  |done r=>exact .mk fun h=>absurd (h.symm.trans hz) (by decide)
end Go.Proofs.YtcndghapmoaidaaGreatDoor
set_option linter.unusedSectionVars false
set_option linter.unusedVariables false
set_option linter.unusedSimpArgs false
set_option maxRecDepth 100000
set_option maxHeartbeats 4000000
namespace Go.Proofs.YtcndghapmoaidaaGreatDoor
open Go Go.Cn
variable [Glob]
inductive Reach (l:List ApiEntity):List UInt8->List UInt8->Prop
 |self {a:List UInt8}:(cls l a).2=true->Reach l a a
 |up {a b:List UInt8}:(cls l a).2=true->Reach l (cls l a).1.Type_ b->Reach l a b
theorem Reach.trans {l:List ApiEntity} {a b c:List UInt8} (h:Reach l a b) (h2:Reach l b c):Reach l a c:=by
 induction h with
 |self _=>exact h2
 |up h _ ih=>exact .up h (ih h2)
theorem path_reach (l:List ApiEntity):∀(n:Nat) (id:List UInt8) (told:List (List UInt8)) (x:List UInt8),x∈path l n id told->Reach l id x
 | 0,_,_,_,h=>by cases h
 |n+1,id,told,x,h=>by
  unfold path at h
  split at h
  ·rename_i hc
   split at h
   ·cases h
   ·rcases List.mem_cons.1 h with rfl|h
    ·exact .self hc
    ·exact .up hc (path_reach l n _ _ x h)
  ·cases h
theorem Reach.closed {l:List ApiEntity} {told:List (List UInt8)} (hy:∀y∈told,(cls l y).1.Type_∈told) {a x:List UInt8} (h:Reach l a x):a∈told->x∈told:=by
 induction h with
 |self _=>exact fun h=>h
 |up _ _ ih=>exact fun h=>ih (hy _ h)
theorem reach_path {l:List ApiEntity} {x:List UInt8}:∀(n:Nat) (id:List UInt8) (told:List (List UInt8)),Told l n told->(∀y∈told,(cls l y).1.Type_∈told\/(cls l y).1.Type_=id)->Reach l id x->x∈told\/x∈path l n id told
 | 0,_,_,h,_,_=>by obtain⟨m,hm⟩:=h.pos;cases hm
 |n+1,id,told,h,hy,hr=>by
  by_cases ht:told.any (·==id)=true
  ·have hid:=any_mem.1 ht
   exact .inl (hr.closed (fun y h=>(hy y h).elim (fun h=>h) fun h=>h▸hid) hid)
  ·have go:(cls l id).2=true->(x=id\/Reach l (cls l id).1.Type_ x)->x∈told\/x∈path l (n+1) id told:=fun hc hx=>by
    unfold path
    rw[if_pos hc,if_neg ht]
    rcases hx with rfl|hx
    ·exact .inr List.mem_cons_self
    ·have hy2:∀y∈told++[id],(cls l y).1.Type_∈told++[id]\/(cls l y).1.Type_=(cls l id).1.Type_:=fun y hm=>by
      rcases List.mem_append.1 hm with hm|hm
      ·rcases hy y hm with h|h
       ·exact .inl (List.mem_append_left _ h)
       ·exact .inl (h▸List.mem_append_right _ List.mem_cons_self)
      ·rw[List.mem_singleton.1 hm]
       exact .inr rfl
     rcases reach_path n _ (told++[id]) (h.next hc ht) hy2 hx with h|h
     ·rcases List.mem_append.1 h with h|h
      ·exact .inl h
      ·rw[List.mem_singleton.1 h]
       exact .inr List.mem_cons_self
     ·exact .inr (List.mem_cons_of_mem _ h)
   cases hr with
   |self hc=>exact go hc (.inl rfl)
   |up hc hr=>exact go hc (.inr hr)
theorem below_reach {l:List ApiEntity} {a b:List UInt8}:below l a b=true↔Reach l a b:=by
 unfold below
 rw[any_mem]
 refine⟨path_reach l _ _ _ _,fun h=> ?_⟩
 rcases reach_path (l.length+1) a [] (told0 l) (fun y hy=>by cases hy) h with h|h
 ·cases h
 ·exact h
theorem cls_mem {l:List ApiEntity} {id:List UInt8}:(cls l id).2=true↔∃e∈l,e.Kind=1/\e.Id=id:=by
 unfold cls
 cases h:l.find? (isC id)with
 |none=>
  have:=List.find?_eq_none.1 h
  refine⟨fun h=>by simp at h,fun⟨e,he,h1,h2⟩=>absurd (this e he) ?_⟩
  simp[isC,h1,h2]
 |some e=>
  have h1:=List.find?_some h
  simp only[isC,Bool.and_eq_true,beq_iff_eq]at h1
  exact⟨fun _=>⟨e,List.mem_of_find?_eq_some h,h1.1,h1.2⟩,fun _=>rfl⟩
theorem kept_words :ix tInt=some true/\ix tBool=some true/\ix tVoid=some true/\ix tNull=some true:=by decide+kernel
section
variable {l:List ApiEntity} {n:Int} (hl:TabP n l)
include hl
theorem cls_ne {id:List UInt8} (h:(cls l id).2=true):id≠[]/\id≠tInt/\id≠tVoid/\id≠tNull:=by
 obtain⟨e,he,h1,h2⟩:=cls_mem.1 h
 obtain⟨h3,h4⟩:=hl.2 e he h1
 rw[h2]at h3 h4
 obtain⟨k1,k2,k3,k4⟩:=kept_words
 refine⟨h3,?_,?_,?_⟩<;>rintro rfl
 ·rw[k1]at h4;cases h4
 ·rw[k3]at h4;cases h4
 ·rw[k4]at h4;cases h4
theorem cls_no {id:List UInt8} (h:id=[]\/id=tInt\/id=tVoid\/id=tNull):(cls l id).2=false:=by
 cases hc:(cls l id).2 with
 |false=>rfl
 |true=>
  obtain⟨h1,h2,h3,h4⟩:=cls_ne hl hc
  rcases h with h|h|h|h<;>contradiction
theorem may_trans {a b c:List UInt8} (h1:may l a b=true) (h2:may l b c=true):may l a c=true:=by
 by_cases hab:a=b
 ·rw[hab];exact h2
 by_cases hbc:b=c
 ·rw[← hbc];exact h1
 unfold may at h1 h2 ⊢
 rw[if_neg (show ¬(a==b)=true by simpa using hab)]at h1
 rw[if_neg (show ¬(b==c)=true by simpa using hbc)]at h2
 cases ha:(a==[]||a==tVoid)with
 |true=>rw[ha]at h1;simp at h1
 |false=>
 rw[ha]at h1
 cases hb:(cls l b).2 with
 |false=>rw[hb]at h1;simp at h1
 |true=>
 obtain⟨b1,b2,b3,b4⟩:=cls_ne hl hb
 rw[hb]at h1 h2
 cases hc:(cls l c).2 with
 |false=>rw[hc]at h2;simp at h2
 |true=>
 rw[hc]at h2
 have e1:(b==[]||b==tVoid)=false:=by simp[b1,b3]
 have e2:(b==tNull)=false:=by simpa using b4
 rw[e1,e2]at h2
 simp only[Bool.false_eq_true,if_false,Bool.true_and]at h1 h2 ⊢
 simp only[Bool.true_eq_false,if_false]at h1 h2
 by_cases hac:(a==c)=true
 ·rw[if_pos hac];rfl
 ·rw[if_neg hac]
  simp only[Bool.true_eq_false,if_false]
  by_cases hn:(a==tNull)=true
  ·rw[if_pos hn]
  ·rw[if_neg hn]at h1 ⊢
   rw[Bool.and_eq_true]at h1 ⊢
   exact⟨h1.1,below_reach.2 ((below_reach.1 h1.2).trans (below_reach.1 h2))⟩
theorem may_class {id:List UInt8} (h:(cls l id).2=true):may l id id=true/\may l tNull id=true/\may l tInt id=false/\may l id tInt=false:=by
 obtain⟨h1,h2,h3,h4⟩:=cls_ne hl h
 have e1:(id==[])=false:=by simpa using h1
 have e2:(id==tInt)=false:=by simpa using h2
 have e3:(id==tVoid)=false:=by simpa using h3
 have e4:(tNull==id)=false:=by simpa using Ne.symm h4
 have e5:(tInt==id)=false:=by simpa using Ne.symm h2
 have e6:=cls_no hl (id:=tInt) (by simp)
 unfold may
 rw[e1,e2,e3,e4,e5,h,e6]
 simp
theorem may_words :may l tInt tInt=true/\may l tVoid tVoid=false/\may l tNull tNull=false:=by
 have e6:=cls_no hl (id:=tInt) (by simp)
 have e7:=cls_no hl (id:=tNull) (by simp)
 unfold may
 rw[e6,e7]
 exact⟨rfl,rfl,rfl⟩
end
theorem op_null {l:List ApiEntity} (hl:l.length<=1000000):ma l [61,61] tNull tNull=some tBool:=by
 unfold ma gz i7 nl nm kf g0 jv kn
 rw[uu hl]
 generalize may l tNull tNull=m
 cases m<;>rfl
theorem parsed_ok (texts:List (List UInt8)):Ok (fun r:List (List ApiNode) × Bool=>r.2=true->r.1.length<=6/\∀f∈r.1,FileP 1500 f) (law18_parsed texts):=by
 unfold law18_parsed law18_parsed_k1
 refine .dec (fun _=> .mk fun h=>by cases h) fun h6=> .bd (P:=FlowP (fun l=>l.length<=6/\∀f∈l,FileP 1500 f) (fun r=>r.2=false)) (.row (l:=texts) (fun i s=>s.length=i/\∀f∈s,FileP 1500 f) (by omega) (fun i hi s h1=> ?_) (fun i s hi h1=> ?_) ⟨rfl,fun _ h=>by cases h⟩) fun z hz=>by
  cases z with
  |next l=>exact .mk fun _=>hz
  |done r=>exact .mk fun h=>by rw[show r.2=false from hz]at h;cases h
 ·dsimp only
  unfold nj
  rw[if_pos (len_lt hi),jf hi,Option.bind_some]
  refine .dec (fun _=> .mk rfl) fun hl=> ?_
  rw[Option.bind_some]
  refine .bd (File_ok (M:=1500) (by omega) (by omega)) ?_
  rintro⟨l,m⟩ hF
  refine .cond (fun _=> .mk rfl) fun hm=> .bd (app_ok (by simp;omega) (by simp;omega)) fun r hr=> .mk ⟨w64_n (by omega),?_⟩
  have hF:=hF (by simpa using hm)
  subst hr
  refine⟨by simp[h1.1],fun f hf=> ?_⟩
  rcases List.mem_append.1 hf with hf|hf
  ·exact h1.2 f hf
  ·obtain rfl:=List.mem_singleton.1 hf
   exact hF
 ·dsimp only
  unfold nj
  rw[if_neg (by simpa using hi)]
  exact .mk ⟨by omega,h1.2⟩
theorem law_TypesChain (texts names:List (List UInt8)):pa texts names=some true:=by
 have key:Ok (fun b=>b=true) (pa texts names):=by
  unfold pa kr ku i8
  rw[awake18,Option.bind_some]
  refine .ff (.bd (parsed_ok texts) ?_)
  rintro⟨files,ok⟩ hp
  refine .cond (fun _=> .tt (.mk rfl)) fun hok=> .dec (fun _=> .mk rfl) fun hn=> ?_
  obtain⟨h6,hF⟩:=hp (by simpa using hok)
  dsimp only at h6 hF
  refine .bd (Table_ok h6 hF) ?_
  rintro⟨l,m⟩ hl
  refine .cond (fun _=> .tt (.mk rfl)) fun hm=> .dec (fun _=> .mk rfl) fun h100=> ?_
  have hl:=hl (by simpa using hm)
  dsimp only at hl h100 ⊢
  have e0:idx names 0=some names[0]:=jf (l:=names) (i:=0) (by omega)
  have e1:idx names 1=some names[1]:=jf (l:=names) (i:=1) (by omega)
  have e2:idx names 2=some names[2]:=jf (l:=names) (i:=2) (by omega)
  have hl0:l.length<=1000000:=by omega
  have step:∀k:Nat,k<l.length->el l k=some (.inl ((k+1:Nat):Int)):=fun k hk=>by
   unfold el f0
   rw[if_pos (len_lt hk),jf hk,w64_n (by omega)]
   simp only[Option.bind_some,uu hl0]
   by_cases h1:(l[k].Kind==1)=true
   ·obtain⟨g1,g2,g3,g4⟩:=may_class hl (cls_mem.2 ⟨l[k],List.getElem_mem hk,by simpa using h1,rfl⟩)
    rw[if_pos h1,g1,g2,g3,g4]
    rfl
   ·rw[if_neg h1]
    rfl
  have loop:Ok (FlowP (fun _=>True) fun _=>False) (iter (fun s=>el l s) 0):=by
   refine .it (fun k:Int=>0<=k/\k<=l.length) (fun k=>(l.length - k).toNat) ?_ ⟨by omega,by omega⟩
   rintro k ⟨k1,k2⟩
   obtain⟨k,rfl⟩:∃n:Nat,k=n:=⟨k.toNat,by omega⟩
   by_cases hk:k<l.length
   ·rw[step k hk]
    exact .mk (by simp only[Sum.elim_inl];omega)
   ·unfold el
    rw[if_neg (by simpa using hk)]
    exact .mk trivial
  have rest:Ok (fun b=>b=true) ((iter (fun s=>el l s) 0).bind fun z=>match z with| .next p=>kq l| .done r=>some r):=by
   refine .bd loop fun z hz=> ?_
   cases z with
   |done r=>exact hz.elim
   |next _=>
    obtain⟨g1,g2,g3⟩:=may_words hl
    dsimp only
    unfold kq gv
    rw[uu hl0,uu hl0,uu hl0,g1,g2,g3,op_null hl0]
    exact .mk rfl
  rw[e0,e1,e2]
  simp only[Option.bind_some,uu hl0]
  refine .cond (fun h1=> .cond (fun h2=> ?_) fun _=> .ff rest) fun _=> .ff rest
  rw[may_trans hl h1 h2]
  exact .ff rest
 obtain⟨b,h,rfl⟩:=key
 exact h
end Go.Proofs.YtcndghapmoaidaaGreatDoor
