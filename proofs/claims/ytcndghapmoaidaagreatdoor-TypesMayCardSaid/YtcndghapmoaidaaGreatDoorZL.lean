/- What operators make is the document's; the law TypesMay in plain words. -/
import Derived.Test.YtcndghapmoaidaaGreatDoorZT
set_option linter.unusedSimpArgs false
set_option linter.unusedVariables false
set_option linter.unusedSectionVars false
set_option linter.unusedSectionVars false
set_option maxRecDepth 1000000
namespace Go.Proofs.YtcndghapmoaidaaGreatDoor
open Go Go.Cn
theorem awake18 :law18_awake=some true:=by decide+kernel
end Go.Proofs.YtcndghapmoaidaaGreatDoor
set_option linter.unusedSectionVars false
set_option maxRecDepth 100000
namespace Go.Proofs.YtcndghapmoaidaaGreatDoor
open Go Go.Cn
variable [Glob]
theorem w64_id {n:Int} (h1: -9223372036854775808<=n) (h2:n<=9223372036854775807):w64 n=n:=by
 unfold w64 IntKind.wrap
 have e1:(2:Int) ^ (IntKind.i64.bits)=18446744073709551616:=rfl
 have e2:(2:Int) ^ (IntKind.i64.bits - 1)=9223372036854775808:=rfl
 have e3:IntKind.i64.signed=true:=rfl
 simp only[e1,e2,e3,Bool.true_and,decide_eq_true_eq]
 split<;>omega
theorem idx_get {α:Type} {l:List α} {i:Nat} {x:α} (h:l[i]? =some x):idx l i=some x:=by
 unfold idx
 rw[if_pos (by omega),Int.toNat_natCast,h]
def search {α γ:Type} (p:α->Bool) (g:Nat->α->γ):Nat->List α->Flow Unit γ
 |_,[]=> .next ()
 |i,x::r=>if p x=true then .done (g i x)else search p g (i+1) r
theorem re {α γ:Type} {l:List α} {f:Int->Option (Int ⊕ Flow Unit γ)} (p:α->Bool) (g:Nat->α->γ) (hl:l.length<=4000000000)
  (h1:∀(i:Nat) x,l[i]? =some x->f i=if p x=true then some (.inr (.done (g i x)))else some (.inl (w64 ((i:Int)+1)))) (h2:∀i:Nat,l.length<=i->f i=some (.inr (.next ()))):∀(r:List α) (i:Nat),l.drop i=r->iter f (i:Int)=some (search p g i r)
 | [],i,h=>by
  have hi:l.length<=i:=by
   have:=congrArg List.length h
   simp at this
   omega
  exact oz (h2 i hi)
 |x::r,i,h=>by
  have hx:l[i]? =some x:=by
   have:=congrArg (fun z=>z[0]?) h
   simpa using this
  have hi:=(List.getElem?_eq_some_iff.1 hx).1
  have hr:l.drop (i+1)=r:=by
   have:=congrArg List.tail h
   simpa using this
  have e:=h1 i x hx
  unfold search
  by_cases hp:p x=true
  ·rw[if_pos hp]at e ⊢
   exact oz e
  ·rw[if_neg hp]at e ⊢
   rw[iter_next e,w64_id (by omega) (by omega)]
   exact re p g hl h1 h2 r (i+1) hr
def fin {γ:Type} (d:γ):Flow Unit γ->γ
 | .next _=>d
 | .done r=>r
def isC (id:List UInt8) (e:ApiEntity):Bool:=e.Kind==1&&e.Id==id
abbrev zeroE :ApiEntity:=ApiEntity.mk 0 [] [] [] [] false [] 0 0
def cls (l:List ApiEntity) (id:List UInt8):ApiEntity × Bool:=match l.find? (isC id)with|some e=>(e,true)|none=>(zeroE,false)
theorem search_cls (id:List UInt8):∀(l:List ApiEntity) (i:Nat),fin (zeroE,false) (search (isC id) (fun _ x=>(x,true)) i l)=cls l id
 | [],_=>rfl
 |x::r,i=>by
  unfold search
  by_cases hp:isC id x=true
  ·rw[if_pos hp];unfold cls;rw[List.find?_cons_of_pos hp];rfl
  ·rw[if_neg hp]
   have h:=search_cls id r (i+1)
   unfold cls at h ⊢
   rw[List.find?_cons_of_neg hp]
   exact h
theorem len_pos {α:Type} {l:List α} {i:Nat} {x:α} (h:l[i]? =some x):decide ((i:Int)<(l.length:Int))=true:=by
 have:=(List.getElem?_eq_some_iff.1 h).1
 simpa using this
theorem len_neg {α:Type} {l:List α} {i:Nat} (h:l.length<=i):¬decide ((i:Int)<(l.length:Int))=true:=by
 simpa using h
theorem kin_class_eq {l:List ApiEntity} (hl:l.length<=4000000000) (id:List UInt8):kin_class l id=some (cls l id):=by
 have h:=re (l:=l) (f:=fun s=>o4 l id s) (isC id) (fun _ x=>(x,true)) hl (fun i x hx=>by
  unfold o4 kin_class_j3 isC
  rw[if_pos (len_pos hx),idx_get hx]
  simp only[Option.bind_some]
  cases h1:(x.Kind==1)<;>simp) (fun i hi=>by
  unfold o4
  rw[if_neg (len_neg hi)]) l 0 rfl
 unfold kin_class
 rw[show((0:Nat):Int)=0 from rfl]at h
 rw[h,Option.bind_some]
 refine Eq.trans ?_ (congrArg some (search_cls id l 0))
 cases search (isC id) (fun _ x=>(x,true)) 0 l<;>rfl
theorem ref16_class_eq {l:List ApiEntity} (hl:l.length<=4000000000) (id:List UInt8):ref16_class l id=some (cls l id):=by
 have h:=re (l:=l) (f:=fun s=>lm l id s) (isC id) (fun _ x=>(x,true)) hl (fun i x hx=>by
  unfold lm qp isC
  rw[if_pos (len_pos hx),idx_get hx]
  simp only[Option.bind_some]
  cases h1:(x.Kind==1)<;>simp) (fun i hi=>by
  unfold lm
  rw[if_neg (len_neg hi)]) l 0 rfl
 unfold ref16_class
 rw[show((0:Nat):Int)=0 from rfl]at h
 rw[h,Option.bind_some]
 refine Eq.trans ?_ (congrArg some (search_cls id l 0))
 cases search (isC id) (fun _ x=>(x,true)) 0 l<;>rfl
theorem ref17_ClassOf_eq {l:List ApiEntity} (hl:l.length<=4000000000) (id:List UInt8):pl l id=some (cls l id):=by
 have h:=re (l:=l) (f:=fun s=>jl l id s) (isC id) (fun _ x=>(x,true)) hl (fun i x hx=>by
  unfold jl nq isC
  rw[if_pos (len_pos hx),idx_get hx]
  simp only[Option.bind_some]
  cases h1:(x.Kind==1)<;>simp) (fun i hi=>by
  unfold jl
  rw[if_neg (len_neg hi)]) l 0 rfl
 unfold pl
 rw[show((0:Nat):Int)=0 from rfl]at h
 rw[h,Option.bind_some]
 refine Eq.trans ?_ (congrArg some (search_cls id l 0))
 cases search (isC id) (fun _ x=>(x,true)) 0 l<;>rfl
theorem search_ge {α:Type} (p:α->Bool):∀(l:List α) (i:Nat),decide (fin (-1:Int) (search p (fun i _=>(i:Int)) i l)≥0)=l.any p
 | [],_=>rfl
 |x::r,i=>by
  unfold search
  by_cases hp:p x=true
  ·rw[if_pos hp,List.any_cons,hp,Bool.true_or]
   simp[fin]
  ·rw[if_neg hp,List.any_cons,Bool.eq_false_iff.2 hp,Bool.false_or]
   exact search_ge p r (i+1)
theorem types_class_eq {l:List ApiEntity} (hl:l.length<=4000000000) (id:List UInt8):types_class l id=some (cls l id).2:=by
 have hp:∀a0,mx a0 id=some (isC id a0):=fun a0=>by
  unfold mx nn isC
  cases h1:(a0.Kind==1)<;>simp
 have h:=re (l:=l) (f:=fun s=>cu l (fun a0=>mx a0 id) s) (isC id) (fun i _=>(i:Int)) hl (fun i x hx=>by
  unfold cu
  rw[if_pos (len_pos hx),idx_get hx]
  simp only[Option.bind_some,hp]) (fun i hi=>by
  unfold cu
  rw[if_neg (len_neg hi)]) l 0 rfl
 unfold types_class dv ee
 rw[show((0:Nat):Int)=0 from rfl]at h
 rw[h,Option.bind_some]
 have h2:=search_ge (isC id) l 0
 have h3:(cls l id).2=l.any (isC id):=by
  unfold cls
  cases hf:l.find? (isC id)with
  |none=>
   have:=List.find?_eq_none.1 hf
   simp only
   symm
   rw[List.any_eq_false]
   exact this
  |some e=>exact(List.any_eq_true.2 ⟨e,List.mem_of_find?_eq_some hf,List.find?_some hf⟩).symm
 rw[h3,← h2]
 unfold du
 cases search (isC id) (fun i _=>(i:Int)) 0 l<;>rfl
theorem in_search (x:List UInt8):∀(l:List (List UInt8)) (i:Nat),fin false (search (fun y=>y==x) (fun _ _=>true) i l)=l.any (·==x)
 | [],_=>rfl
 |y::r,i=>by
  unfold search
  by_cases hp:(y==x)=true
  ·rw[if_pos hp,List.any_cons,hp,Bool.true_or];rfl
  ·rw[if_neg hp,List.any_cons,Bool.eq_false_iff.2 hp,Bool.false_or]
   exact in_search x r (i+1)
theorem ref16_in_eq {l:List (List UInt8)} (hl:l.length<=4000000000) (x:List UInt8):ref16_in l x=some (l.any (·==x)):=by
 have h:=re (l:=l) (f:=fun s=>rd l x s) (fun y=>y==x) (fun _ _=>true) hl (fun i y hy=>by
  unfold rd
  rw[if_pos (len_pos hy),idx_get hy]
  simp only[Option.bind_some]) (fun i hi=>by
  unfold rd
  rw[if_neg (len_neg hi)]) l 0 rfl
 unfold ref16_in
 rw[show((0:Nat):Int)=0 from rfl]at h
 rw[h,Option.bind_some,← in_search x l 0]
 cases search (fun y=>y==x) (fun _ _=>true) 0 l<;>rfl
theorem ref18_in_eq {l:List (List UInt8)} (hl:l.length<=4000000000) (x:List UInt8):ref18_in x l=some (l.any (·==x)):=by
 have h:=re (l:=l) (f:=fun s=>rc l x s) (fun y=>y==x) (fun _ _=>true) hl (fun i y hy=>by
  unfold rc
  rw[if_pos (len_pos hy),idx_get hy]
  simp only[Option.bind_some]) (fun i hi=>by
  unfold rc
  rw[if_neg (len_neg hi)]) l 0 rfl
 unfold ref18_in
 rw[show((0:Nat):Int)=0 from rfl]at h
 rw[h,Option.bind_some,← in_search x l 0]
 cases search (fun y=>y==x) (fun _ _=>true) 0 l<;>rfl
end Go.Proofs.YtcndghapmoaidaaGreatDoor
set_option linter.unusedSectionVars false
set_option maxRecDepth 100000
namespace Go.Proofs.YtcndghapmoaidaaGreatDoor
open Go Go.Cn
variable [Glob]
theorem nodup_le {β:Type} [DecidableEq β]:∀(a m:List β),a.Nodup->(∀x∈a,x∈m)->a.length<=m.length
 | [],_,_,_=>Nat.zero_le _
 |x::a,m,hn,hs=>by
  have hx:=hs x List.mem_cons_self
  have h1:=nodup_le a (m.erase x) (List.nodup_cons.1 hn).2 (fun y hy=>by
   refine(List.mem_erase_of_ne (fun e=> ?_)).2 (hs y (List.mem_cons_of_mem _ hy))
   exact(List.nodup_cons.1 hn).1 (e▸hy))
  rw[List.length_erase_of_mem hx]at h1
  have:=List.length_pos_of_mem hx
  simp only[List.length_cons]
  omega
theorem cls_id {l:List ApiEntity} {id:List UInt8} (h:(cls l id).2=true):(cls l id).1.Id=id/\(cls l id).1∈l:=by
 unfold cls at h ⊢
 cases hf:l.find? (isC id)with
 |none=>rw[hf]at h;cases h
 |some e=>
  have h1:=List.find?_some hf
  unfold isC at h1
  rw[Bool.and_eq_true]at h1
  exact⟨by simpa using h1.2,List.mem_of_find?_eq_some hf⟩
def path (l:List ApiEntity):Nat->List UInt8->List (List UInt8)->List (List UInt8)
 | 0,_,_=>[]
 |n+1,id,told=>if(cls l id).2=true then(if told.any (·==id)=true then[]else id::path l n (cls l id).1.Type_ (told++[id]))else[]
structure Told (l:List ApiEntity) (n:Nat) (told:List (List UInt8)):Prop where
 len:n+told.length=l.length+1
 nodup:told.Nodup
 sub:∀x∈told,x∈l.map ApiEntity.Id
theorem Told.pos {l:List ApiEntity} {n:Nat} {told:List (List UInt8)} (h:Told l n told):∃m,n=m+1:=by
 cases n with
 |succ n=>exact⟨n,rfl⟩
 |zero=>
  have:=nodup_le told _ h.nodup h.sub
  rw[List.length_map]at this
  have:=h.len
  omega
theorem any_mem {told:List (List UInt8)} {id:List UInt8}:told.any (·==id)=true↔id∈told:=by
 rw[List.any_eq_true]
 exact⟨fun⟨x,h1,h2⟩=>(by simpa using h2:x=id)▸h1,fun h=>⟨id,h,by simp⟩⟩
theorem Told.next {l:List ApiEntity} {n:Nat} {told:List (List UInt8)} {id:List UInt8} (h:Told l (n+1) told) (hc:(cls l id).2=true) (ht:¬told.any (·==id)=true):Told l n (told++[id]) where
 len:=by have:=h.len;simp;omega
 nodup:=by
  rw[List.nodup_append]
  refine⟨h.nodup,by simp,fun a ha b hb=> ?_⟩
  rw[List.mem_singleton.1 hb]
  exact fun e=>ht (any_mem.2 (e▸ha))
 sub:=fun x hx=>by
  rcases List.mem_append.1 hx with hx|hx
  ·exact h.sub x hx
  ·rw[List.mem_singleton.1 hx]
   obtain⟨h1,h2⟩:=cls_id hc
   exact List.mem_map.2 ⟨_,h2,h1⟩
theorem app_eq {α:Type} {n:Nat} {l m:List α} (h:(l.length+m.length) * n<=140737488355328) (h2:l.length+m.length<=140737488355328):app n l m=some (l++m):=by
 unfold app
 rw[if_pos ⟨h,by omega⟩]
theorem above_ref {l:List ApiEntity} (hl:l.length<=1000000):∀(n:Nat) (id:List UInt8) (out:List (List UInt8)),Told l n out->
  iter (fun s=>ln l s.1 s.2) (id,out)=some (out++path l n id out)
 | 0,_,_,h=>by obtain⟨m,hm⟩:=h.pos;cases hm
 |n+1,id,out,h=>by
  have hlen:out.length<=1000000:=by have:=h.len;omega
  have e:ln l id out=if(cls l id).2=true then(if out.any (·==id)=true then some (.inr out)else some (.inl ((cls l id).1.Type_,out++[id])))else some (.inr out):=by
   unfold ln qt
   rw[ref16_class_eq (by omega),ref16_in_eq (by omega),app_eq (by simp;omega) (by simp;omega)]
   simp only[Option.bind_some]
   cases (cls l id).2<;>cases out.any (·==id)<;>rfl
  unfold path
  by_cases hc:(cls l id).2=true
  ·rw[if_pos hc]at e ⊢
   by_cases ht:out.any (·==id)=true
   ·rw[if_pos ht]at e ⊢
    rw[List.append_nil]
    exact oz e
   ·rw[if_neg ht]at e ⊢
    rw[iter_next (s':=((cls l id).1.Type_,out++[id])) e,above_ref hl n _ _ (h.next hc ht),List.append_assoc]
    rfl
  ·rw[if_neg hc]at e ⊢
   rw[List.append_nil]
   exact oz e
theorem told0 (l:List ApiEntity):Told l (l.length+1) []:=⟨rfl,List.nodup_nil,fun _ h=>nomatch h⟩
def below (l:List ApiEntity) (id other:List UInt8):Bool:=(path l (l.length+1) id []).any (·==other)
theorem path_len (l:List ApiEntity):∀(n:Nat) (id:List UInt8) (told:List (List UInt8)),(path l n id told).length<=n
 | 0,_,_=>Nat.le_refl _
 |n+1,id,told=>by
  unfold path
  split
  ·split
   ·exact Nat.zero_le _
   ·have:=path_len l n (cls l id).1.Type_ (told++[id])
    simp only[List.length_cons]
    omega
  ·exact Nat.zero_le _
theorem ref16_Below_eq {l:List ApiEntity} (hl:l.length<=1000000) (id other:List UInt8):ref16_Below l id other=some (below l id other):=by
 unfold ref16_Below ref16_Above
 rw[above_ref hl _ id [] (told0 l),Option.bind_some,ref16_in_eq (by have:=path_len l (l.length+1) id [];simp only[List.nil_append];omega)]
 rfl
theorem above_code {l:List ApiEntity} (hl:l.length<=1000000) (other:List UInt8):∀(n:Nat) (id:List UInt8) (told:List (List UInt8)) (m:SMap Bool),Told l n told->(∀k,mget k false m=told.any (·==k))->
  ∃i z,iter (fun s=>lq (yldX (fun(_:Unit) (a:ApiEntity)=>o5 other a)) l s.1 s.2.1 s.2.2) (id,.inl (),m)=some (l,i,z)/\(match z with| .inl _=>false| .inr _=>true)=(path l n id told).any (·==other)
 | 0,_,_,_,h,_=>by obtain⟨m,hm⟩:=h.pos;cases hm
 |n+1,id,told,m,h,hm=>by
  have e:lq (yldX (fun(_:Unit) (a:ApiEntity)=>o5 other a)) l id (.inl ()) m=
    if(cls l id).2=true then(if told.any (·==id)=true then some (.inr (l,id,.inl ()))else(if((cls l id).1.Id==other)=true then some (.inr (l,id,.inr (cls l id).1))else some (.inl ((cls l id).1.Type_,.inl (),mset id true m))))else some (.inr (l,id,.inl ())):=by
   unfold lq nw
   rw[kin_class_eq (by omega),hm]
   simp only[Option.bind_some,yldX,o5]
   cases (cls l id).2<;>cases told.any (·==id)<;>cases ((cls l id).1.Id==other)<;>rfl
  unfold path
  by_cases hc:(cls l id).2=true
  ·rw[if_pos hc]at e ⊢
   by_cases ht:told.any (·==id)=true
   ·rw[if_pos ht]at e ⊢
    exact⟨_,_,oz e,rfl⟩
   ·rw[if_neg ht]at e ⊢
    rw[(cls_id hc).1]at e
    by_cases ho:(id==other)=true
    ·rw[if_pos ho]at e
     exact⟨_,_,oz e,by rw[List.any_cons,ho];rfl⟩
    ·rw[if_neg ho]at e
     obtain⟨i,z,h1,h2⟩:=above_code hl other n (cls l id).1.Type_ (told++[id]) (mset id true m) (h.next hc ht) (fun k=>by
      rw[mget_mset,hm,List.any_append]
      by_cases hk:id=k
      ·rw[if_pos hk,hk];simp
      ·rw[if_neg hk]
       have:(id==k)=false:=by simpa using hk
       simp[this])
     refine⟨i,z,?_,?_⟩
     ·rw[iter_next (s':=((cls l id).1.Type_,.inl (),mset id true m)) e]
      exact h1
     ·rw[h2,List.any_cons,Bool.eq_false_iff.2 ho,Bool.false_or]
  ·rw[if_neg hc]at e ⊢
   exact⟨_,_,oz e,rfl⟩
theorem kin_Below_eq {l:List ApiEntity} (hl:l.length<=1000000) (id other:List UInt8):kin_Below l id other=some (below l id other):=by
 obtain⟨i,z,h1,h2⟩:=above_code hl other (l.length+1) id [] [] (told0 l) (fun k=>rfl)
 unfold kin_Below kin_above_1
 rw[h1,Option.bind_some]
 unfold below
 rw[← h2]
 cases z<;>rfl
abbrev tInt :List UInt8:=[105,110,116]
abbrev tBool :List UInt8:=[98,111,111,108,101,97,110]
abbrev tVoid :List UInt8:=[118,111,105,100]
abbrev tNull :List UInt8:=[110,117,108,108]
def may (l:List ApiEntity) (a b:List UInt8):Bool:=
 if(a==[]||a==tVoid)=true then false
 else if(a==b)=true then(cls l b).2||b==tInt||b==tBool
 else if(cls l b).2=false then false
 else if(a==tNull)=true then true
 else(cls l a).2&&below l a b
theorem types_May_eq {l:List ApiEntity} (hl:l.length<=1000000) (a b:List UInt8):oy l a b=some (may l a b):=by
 unfold oy types_May_j3 r5 types_May_j2 may
 rw[types_class_eq (by omega),types_class_eq (by omega),kin_Below_eq hl]
 simp only[Option.bind_some]
 cases (a==([]:List UInt8))<;>cases (a==tVoid)<;>cases (a==b)<;>cases (cls l b).2<;>cases (b==tInt)<;>cases (b==tBool)<;>cases (a==tNull)<;>cases (cls l a).2<;>rfl
theorem ref18_May_eq {l:List ApiEntity} (hl:l.length<=1000000) (a b:List UInt8):ref18_May l a b=some (may l a b):=by
 unfold ref18_May ref18_May_j3 o3 r6 may
 rw[ref17_ClassOf_eq (by omega),ref17_ClassOf_eq (by omega),ref16_Below_eq hl]
 simp only[Option.bind_some]
 by_cases hab:(a==b)=true
 ·have:a=b:=by simpa using hab
  subst this
  cases (a==([]:List UInt8))<;>cases (a==tVoid)<;>cases (cls l a).2<;>cases h1:(a==tInt)<;>cases h2:(a==tBool)<;>cases (a==tNull)<;>simp_all
 ·rw[Bool.eq_false_iff.2 hab]
  cases (a==([]:List UInt8))<;>cases (a==tVoid)<;>cases (cls l b).2<;>cases (a==tNull)<;>cases (cls l a).2<;>rfl
end Go.Proofs.YtcndghapmoaidaaGreatDoor
set_option linter.unusedSectionVars false
set_option maxRecDepth 100000
set_option maxHeartbeats 4000000
namespace Go.Proofs.YtcndghapmoaidaaGreatDoor
open Go Go.Cn
variable [Glob]
def opsAll :List (List UInt8):=[[43],[45],[42],[47],[37],[60],[60,61],[62],[62,61],[38,38],[124,124],[61,61],[33,61]]
theorem Operator_eq {l:List ApiEntity} (hl:l.length<=1000000) (op a b:List UInt8):∃r,lk l op a b=some r/\qo l op a b=some r:=by
 unfold lk gu i0 mh mi jz gv jk j7
 unfold qo mj ml mn cj
 rw[types_May_eq hl,types_May_eq hl,ref18_May_eq hl,ref18_May_eq hl,ref18_in_eq (by decide),ref18_in_eq (by decide),ref18_in_eq (by decide),ref18_in_eq (by decide)]
 simp only[Option.bind_some,List.any_cons,List.any_nil,Bool.or_false]
 by_cases hop:op∈opsAll
 ·generalize (a==tInt)=ai
  generalize (b==tInt)=bi
  generalize (a==tBool)=ab
  generalize (b==tBool)=bb
  generalize (a==tNull)=an
  generalize (b==tNull)=bn
  generalize may l a b=m1
  generalize may l b a=m2
  unfold opsAll at hop
  simp only[List.mem_cons,List.not_mem_nil,or_false]at hop
  rcases hop with rfl|rfl|rfl|rfl|rfl|rfl|rfl|rfl|rfl|rfl|rfl|rfl|rfl<;>
   cases ai<;>cases bi<;>cases ab<;>cases bb<;>cases an<;>cases bn<;>cases m1<;>cases m2<;>exact⟨_,rfl,rfl⟩
 ·unfold opsAll at hop
  simp only[List.mem_cons,List.not_mem_nil,or_false,not_or]at hop
  obtain⟨h1,h2,h3,h4,h5,h6,h7,h8,h9,h10,h11,h12,h13⟩:=hop
  have f:∀{c:List UInt8},¬op=c->(op==c)=false/\(c==op)=false:=fun h=>⟨by simpa using h,by simpa using fun e=>h e.symm⟩
  rw[(f h1).1,(f h2).1,(f h3).1,(f h4).1,(f h5).1,(f h6).1,(f h7).1,(f h8).1,(f h9).1,(f h10).1,(f h11).1,(f h12).1,(f h13).1,
   (f h1).2,(f h2).2,(f h3).2,(f h4).2,(f h5).2,(f h6).2,(f h7).2,(f h8).2,(f h9).2,(f h10).2,(f h11).2,(f h12).2,(f h13).2]
  cases (a==tInt)<;>cases (b==tInt)<;>cases (a==tBool)<;>cases (b==tBool)<;>exact⟨_,rfl,rfl⟩
theorem inner {l:List ApiEntity} {names:List (List UInt8)} (hl:l.length<=60) (i:Nat) (hi:i<names.length):∀(d k:Nat),d=names.length - k->iter (fun s=>el names (i:Int) l s.1 s.2) (true,(k:Int))=some true
 | 0,k,hd=>by
  refine oz ?_
  show el names (i:Int) l true (k:Int)=_
  unfold el i3
  rw[if_neg (by simp;omega)]
  rfl
 |d+1,k,hd=>by
  by_cases h9:k<9
  ·have hk:k<names.length:=by omega
   have e1:=idx_get (List.getElem?_eq_getElem hi)
   have e2:=idx_get (List.getElem?_eq_getElem hk)
   have e3:idx names 0=some (names[0]'(by omega)):=by
    have:=idx_get (l:=names) (i:=0) (List.getElem?_eq_getElem (by omega))
    simpa using this
   obtain⟨r,g1,g2⟩:=Operator_eq (l:=l) (by omega) (names[0]'(by omega)) names[i] names[k]
   have e:el names (i:Int) l true (k:Int)=some (.inl (true,((k+1:Nat):Int))):=by
    unfold el i3
    rw[if_pos (by simpa using hk),if_pos (by simp;omega),if_pos rfl,e1,e2,e3]
    simp only[Option.bind_some]
    rw[types_May_eq (by omega),ref18_May_eq (by omega)]
    simp only[Option.bind_some]
    rw[if_pos (by simp),g1,g2]
    simp only[Option.bind_some]
    rw[w64_id (by omega) (by omega)]
    simp
   rw[iter_next (s':=(true,((k+1:Nat):Int))) e]
   exact inner hl i hi d (k+1) (by omega)
  ·refine oz ?_
   show el names (i:Int) l true (k:Int)=_
   unfold el i3
   have h:decide ((k:Int)<9)=false:=by simp;omega
   rw[h]
   split<;>rfl
theorem outer {l:List ApiEntity} {names:List (List UInt8)} (hl:l.length<=60):∀(d i:Nat),d=names.length - i->iter (fun s=>em names l s.1 s.2) (true,(i:Int))=some true
 | 0,i,hd=>by
  refine oz ?_
  show em names l true (i:Int)=_
  unfold em i1
  rw[if_neg (by simp;omega)]
  rfl
 |d+1,i,hd=>by
  by_cases h9:i<9
  ·have hi:i<names.length:=by omega
   have e:em names l true (i:Int)=some (.inl (true,((i+1:Nat):Int))):=by
    unfold em i1 po
    rw[if_pos (by simpa using hi),if_pos (by simp;omega)]
    have:=inner hl i hi (names.length - 1) 1 rfl
    rw[show(((1:Nat):Int))=1 from rfl]at this
    rw[this]
    simp only[Option.bind_some]
    rw[w64_id (by omega) (by omega)]
    rfl
   rw[iter_next (s':=(true,((i+1:Nat):Int))) e]
   exact outer hl d (i+1) (by omega)
  ·refine oz ?_
   show em names l true (i:Int)=_
   unfold em i1
   have h:decide ((i:Int)<9)=false:=by simp;omega
   rw[h]
   split<;>rfl
theorem law_TypesMay (l:List ApiEntity) (names:List (List UInt8)):law18_TypesMay l names=some true:=by
 unfold law18_TypesMay mo pp
 rw[awake18]
 simp only[Option.bind_some,Bool.not_true,Bool.false_eq_true,if_false,if_true]
 by_cases hl:l.length<=60
 ·rw[if_neg (by simp;omega)]
  by_cases hn:names.length<3
  ·rw[if_pos (by simp;omega)]
  ·rw[if_neg (by simp;omega)]
   have:=outer hl (names:=names) (names.length - 1) 1 rfl
   rw[show(((1:Nat):Int))=1 from rfl]at this
   rw[this]
   rfl
 ·rw[if_pos (by simp;omega)]
end Go.Proofs.YtcndghapmoaidaaGreatDoor
