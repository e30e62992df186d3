/- Whose each name of any files is, is the document's: BindUses. -/
import Derived.Test.YtcndghapmoaidaaGreatDoorZT
import Derived.Test.YtcndghapmoaidaaGreatDoorZK
set_option linter.unusedSimpArgs false
set_option linter.unusedVariables false
set_option linter.unusedSectionVars false
set_option linter.unusedSectionVars false
set_option maxRecDepth 1000000
namespace Go.Proofs.YtcndghapmoaidaaGreatDoor
open Go Go.Cn
theorem awake17 :ahd=some true:=by decide+kernel
end Go.Proofs.YtcndghapmoaidaaGreatDoor
set_option linter.unusedSectionVars false
set_option maxRecDepth 100000
namespace Go.Proofs.YtcndghapmoaidaaGreatDoor
open Go Go.Cn
variable [Glob]
theorem c5 {n:Int} (h1: -9223372036854775808<=n) (h2:n<=9223372036854775807):w64 n=n:=by
 unfold w64 IntKind.wrap
 have e1:(2:Int) ^ (IntKind.i64.bits)=18446744073709551616:=rfl
 have e2:(2:Int) ^ (IntKind.i64.bits - 1)=9223372036854775808:=rfl
 have e3:IntKind.i64.signed=true:=rfl
 simp only[e1,e2,e3,Bool.true_and,decide_eq_true_eq]
 split<;>omega
theorem ei {α:Type} {l:List α} {i:Nat} {x:α} (h:l[i]? =some x):idx l i=some x:=by
 unfold idx
 rw[if_pos om,Int.toNat_natCast,h]
def lg {α γ:Type} (p:α->Bool) (g:Nat->α->γ):Nat->List α->Flow Unit γ
 |_,[]=> .next ()
 |i,x::r=>if p x=true then .done (g i x)else lg p g (i+1) r
theorem ir {α γ:Type} {l:List α} {f:Int->Option (Int ⊕ Flow Unit γ)} (p:α->Bool) (g:Nat->α->γ) (hl:l.length<=4000000000)
  (h1:∀(i:Nat) x,l[i]? =some x->f i=if p x=true then some (.inr (.done (g i x)))else some (.inl (w64 ((i:Int)+1)))) (h2:∀i:Nat,l.length<=i->f i=some (.inr (.next ()))):∀(r:List α) (i:Nat),l.drop i=r->iter f (i:Int)=some (lg p g i r)
 | [],i,h=>by
  have hi:l.length<=i:=by
   have:=congrArg List.length h
   simp at this
   omega
  exact dn (h2 i hi)
 |x::r,i,h=>by
  have hx:l[i]? =some x:=by
   have:=congrArg (fun z=>z[0]?) h
   simpa using this
  have hi:=(List.getElem?_eq_some_iff.1 hx).1
  have hr:l.drop (i+1)=r:=by
   have:=congrArg List.tail h
   simpa using this
  have e:=h1 i x hx
  unfold lg
  by_cases hp:p x=true
  ·rw[if_pos hp]at e ⊢
   exact dn e
  ·rw[if_neg hp]at e ⊢
   rw[gv e,c5 om om]
   exact ir p g hl h1 h2 r (i+1) hr
def fin {γ:Type} (d:γ):Flow Unit γ->γ
 | .next _=>d
 | .done r=>r
def isC (id:Bt) (e:A9):Bool:=e.Kind==1&&e.Id==id
abbrev alu :A9:=A9.mk 0 [] [] [] [] false [] 0 0
def cls (l:List A9) (id:Bt):A9 × Bool:=match l.find? (isC id)with|some e=>(e,true)|none=>(alu,false)
theorem agu (id:Bt):∀(l:List A9) (i:Nat),fin (alu,false) (lg (isC id) (fun _ x=>(x,true)) i l)=cls l id
 | [],_=>rfl
 |x::r,i=>by
  unfold lg
  by_cases hp:isC id x=true
  ·rw[if_pos hp];unfold cls;rw[List.find?_cons_of_pos hp];rfl
  ·rw[if_neg hp]
   have h:=agu id r (i+1)
   unfold cls at h ⊢
   rw[List.find?_cons_of_neg hp]
   exact h
theorem gm {α:Type} {l:List α} {i:Nat} {x:α} (h:l[i]? =some x):decide ((i:Int)<(l.length:Int))=true:=by
 have:=(List.getElem?_eq_some_iff.1 h).1
 simpa using this
theorem gt {α:Type} {l:List α} {i:Nat} (h:l.length<=i):¬decide ((i:Int)<(l.length:Int))=true:=by
 simpa using h
theorem aiv {l:List A9} (hl:l.length<=4000000000) (id:Bt):adv l id=some (cls l id):=by
 have h:=ir (l:=l) (f:=fun s=>um l id s) (isC id) (fun _ x=>(x,true)) hl (fun i x hx=>by
  unfold um aca isC
  rw[if_pos (gm hx),ei hx]
  simp only[Option.bind_some]
  cases h1:(x.Kind==1)<;>simp) (fun i hi=>by
  unfold um
  rw[if_neg (gt hi)]) l 0 rfl
 unfold adv
 rw[show((0:Nat):Int)=0 from rfl]at h
 rw[h,Option.bind_some]
 refine Eq.trans ?_ (congrArg some (agu id l 0))
 cases lg (isC id) (fun _ x=>(x,true)) 0 l<;>rfl
theorem ajw {l:List A9} (hl:l.length<=4000000000) (id:Bt):x0 l id=some (cls l id):=by
 have h:=ir (l:=l) (f:=fun s=>qa l id s) (isC id) (fun _ x=>(x,true)) hl (fun i x hx=>by
  unfold qa wh isC
  rw[if_pos (gm hx),ei hx]
  simp only[Option.bind_some]
  cases h1:(x.Kind==1)<;>simp) (fun i hi=>by
  unfold qa
  rw[if_neg (gt hi)]) l 0 rfl
 unfold x0
 rw[show((0:Nat):Int)=0 from rfl]at h
 rw[h,Option.bind_some]
 refine Eq.trans ?_ (congrArg some (agu id l 0))
 cases lg (isC id) (fun _ x=>(x,true)) 0 l<;>rfl
theorem xc {l:List A9} (hl:l.length<=4000000000) (id:Bt):na l id=some (cls l id):=by
 have h:=ir (l:=l) (f:=fun s=>mj l id s) (isC id) (fun _ x=>(x,true)) hl (fun i x hx=>by
  unfold mj sg isC
  rw[if_pos (gm hx),ei hx]
  simp only[Option.bind_some]
  cases h1:(x.Kind==1)<;>simp) (fun i hi=>by
  unfold mj
  rw[if_neg (gt hi)]) l 0 rfl
 unfold na
 rw[show((0:Nat):Int)=0 from rfl]at h
 rw[h,Option.bind_some]
 refine Eq.trans ?_ (congrArg some (agu id l 0))
 cases lg (isC id) (fun _ x=>(x,true)) 0 l<;>rfl
theorem atg {α:Type} (p:α->Bool):∀(l:List α) (i:Nat),decide (fin (-1:Int) (lg p (fun i _=>(i:Int)) i l)≥0)=l.any p
 | [],_=>rfl
 |x::r,i=>by
  unfold lg
  by_cases hp:p x=true
  ·rw[if_pos hp,List.any_cons,hp,Bool.true_or]
   simp[fin]
  ·rw[if_neg hp,List.any_cons,Bool.eq_false_iff.2 hp,Bool.false_or]
   exact atg p r (i+1)
theorem aty (x:Bt):∀(l:List Bt) (i:Nat),fin false (lg (fun y=>y==x) (fun _ _=>true) i l)=l.any (·==x)
 | [],_=>rfl
 |y::r,i=>by
  unfold lg
  by_cases hp:(y==x)=true
  ·rw[if_pos hp,List.any_cons,hp,Bool.true_or];rfl
  ·rw[if_neg hp,List.any_cons,Bool.eq_false_iff.2 hp,Bool.false_or]
   exact aty x r (i+1)
theorem aop {l:List Bt} (hl:l.length<=4000000000) (x:Bt):ajb l x=some (l.any (·==x)):=by
 have h:=ir (l:=l) (f:=fun s=>xz l x s) (fun y=>y==x) (fun _ _=>true) hl (fun i y hy=>by
  unfold xz
  rw[if_pos (gm hy),ei hy]
  simp only[Option.bind_some]) (fun i hi=>by
  unfold xz
  rw[if_neg (gt hi)]) l 0 rfl
 unfold ajb
 rw[show((0:Nat):Int)=0 from rfl]at h
 rw[h,Option.bind_some,← aty x l 0]
 cases lg (fun y=>y==x) (fun _ _=>true) 0 l<;>rfl
end Go.Proofs.YtcndghapmoaidaaGreatDoor
set_option linter.unusedSectionVars false
set_option maxRecDepth 100000
namespace Go.Proofs.YtcndghapmoaidaaGreatDoor
open Go Go.Cn
variable [Glob]
theorem av7 {β:Type} [DecidableEq β]:∀(a m:List β),a.Nodup->(∀x∈a,x∈m)->a.length<=m.length
 | [],_,_,_=>Nat.zero_le _
 |x::a,m,hn,hs=>by
  have hx:=hs x List.mem_cons_self
  have h1:=av7 a (m.erase x) (List.nodup_cons.1 hn).2 (fun y hy=>by
   refine(List.mem_erase_of_ne (fun e=>?_)).2 (hs y (List.mem_cons_of_mem _ hy))
   exact(List.nodup_cons.1 hn).1 (e▸hy))
  rw[List.length_erase_of_mem hx]at h1
  have:=List.length_pos_of_mem hx
  simp only[List.length_cons]
  omega
theorem avz {l:List A9} {id:Bt} (h:(cls l id).2=true):(cls l id).1.Id=id/\(cls l id).1∈l:=by
 unfold cls at h ⊢
 cases hf:l.find? (isC id)with
 |none=>rw[hf]at h;cases h
 |some e=>
  have h1:=List.find?_some hf
  unfold isC at h1
  rw[Bool.and_eq_true]at h1
  exact⟨by simpa using h1.2,List.mem_of_find?_eq_some hf⟩
def path (l:List A9):Nat->Bt->List Bt->List Bt
 | 0,_,_=>[]
 |n+1,id,told=>if(cls l id).2=true then(if told.any (·==id)=true then[]else id::path l n (cls l id).1.Type_ (told++[id]))else[]
structure Told (l:List A9) (n:Nat) (told:List Bt):Prop where
 len:n+told.length=l.length+1
 nodup:told.Nodup
 sub:∀x∈told,x∈l.map A9.Id
theorem Told.pos {l:List A9} {n:Nat} {told:List Bt} (h:Told l n told):∃m,n=m+1:=by
 cases n with
 |succ n=>exact⟨n,rfl⟩
 |zero=>
  have:=av7 told _ h.nodup h.sub
  rw[List.length_map]at this
  have:=h.len
  omega
theorem any_mem {told:List Bt} {id:Bt}:told.any (·==id)=true↔id∈told:=by
 rw[List.any_eq_true]
 exact⟨fun⟨x,h1,h2⟩=>(by simpa using h2:x=id)▸h1,fun h=>⟨id,h,by simp⟩⟩
theorem Told.next {l:List A9} {n:Nat} {told:List Bt} {id:Bt} (h:Told l (n+1) told) (hc:(cls l id).2=true) (ht:¬told.any (·==id)=true):Told l n (told++[id]) where
 len:=by have:=h.len;simp;omega
 nodup:=by
  rw[List.nodup_append]
  refine⟨h.nodup,by simp,fun a ha b hb=>?_⟩
  rw[List.mem_singleton.1 hb]
  exact fun e=>ht (any_mem.2 (e▸ha))
 sub:=fun x hx=>by
  rcases List.mem_append.1 hx with hx|hx
  ·exact h.sub x hx
  ·rw[List.mem_singleton.1 hx]
   obtain⟨h1,h2⟩:=avz hc
   exact List.mem_map.2 ⟨_,h2,h1⟩
theorem oj {α:Type} {n:Nat} {l m:List α} (h:(l.length+m.length) * n<=140737488355328) (h2:l.length+m.length<=140737488355328):app n l m=some (l++m):=by
 unfold app
 rw[if_pos ⟨h,by omega⟩]
theorem aon {l:List A9} (hl:l.length<=1000000):∀(n:Nat) (id:Bt) (out:List Bt),Told l n out->
  iter (fun s=>qc l s.1 s.2) (id,out)=some (out++path l n id out)
 | 0,_,_,h=>by obtain⟨m,hm⟩:=h.pos;cases hm
 |n+1,id,out,h=>by
  have hlen:out.length<=1000000:=by have:=h.len;omega
  have e:qc l id out=if(cls l id).2=true then(if out.any (·==id)=true then some (.inr out)else some (.inl ((cls l id).1.Type_,out++[id])))else some (.inr out):=by
   unfold qc wi
   rw[ajw om,aop om,oj so so]
   simp only[Option.bind_some]
   cases (cls l id).2<;>cases out.any (·==id)<;>rfl
  unfold path
  by_cases hc:(cls l id).2=true
  ·rw[if_pos hc]at e ⊢
   by_cases ht:out.any (·==id)=true
   ·rw[if_pos ht]at e ⊢
    rw[List.append_nil]
    exact dn e
   ·rw[if_neg ht]at e ⊢
    rw[gv (s':=((cls l id).1.Type_,out++[id])) e,aon hl n _ _ (h.next hc ht),List.append_assoc]
    rfl
  ·rw[if_neg hc]at e ⊢
   rw[List.append_nil]
   exact dn e
theorem azi (l:List A9):Told l (l.length+1) []:=⟨rfl,List.nodup_nil,fun _ h=>nomatch h⟩
def below (l:List A9) (id other:Bt):Bool:=(path l (l.length+1) id []).any (·==other)
theorem ar4 (l:List A9):∀(n:Nat) (id:Bt) (told:List Bt),(path l n id told).length<=n
 | 0,_,_=>Nat.le_refl _
 |n+1,id,told=>by
  unfold path
  split
  ·split
   ·exact Nat.zero_le _
   ·have:=ar4 l n (cls l id).1.Type_ (told++[id])
    simp only[List.length_cons]
    omega
  ·exact Nat.zero_le _
theorem ap1 {l:List A9} (hl:l.length<=1000000) (id other:Bt):ad2 l id other=some (below l id other):=by
 unfold ad2 aan
 rw[aon hl _ id [] (azi l),Option.bind_some,aop (by have:=ar4 l (l.length+1) id [];simp only[List.nil_append];omega)]
 rfl
theorem arf {l:List A9} (hl:l.length<=1000000) (other:Bt):∀(n:Nat) (id:Bt) (told:List Bt) (m:SMap Bool),Told l n told->(∀k,mget k false m=told.any (·==k))->
    ∃i z,iter (fun s=>kg (yldX (fun(_:Unit) (a:A9)=>uo other a)) l s.1 s.2.1 s.2.2) (id,.inl (),m)=some (l,i,z)/\(match z with| .inl _=>false| .inr _=>true)=(path l n id told).any (·==other)
  | 0,_,_,_,h,_=>by obtain⟨m,hm⟩:=h.pos;cases hm
  |n+1,id,told,m,h,hm=>by
    have e:kg (yldX (fun(_:Unit) (a:A9)=>uo other a)) l id (.inl ()) m=
        if(cls l id).2=true then(if told.any (·==id)=true then some (.inr (l,id,.inl ()))else(if((cls l id).1.Id==other)=true then some (.inr (l,id,.inr (cls l id).1))else some (.inl ((cls l id).1.Type_,.inl (),mset id true m))))else some (.inr (l,id,.inl ())):=by
      unfold kg qk
      rw[aiv om,hm]
      simp only[Option.bind_some,yldX,uo]
      cases (cls l id).2<;>cases told.any (·==id)<;>cases ((cls l id).1.Id==other)<;>rfl
    unfold path
    by_cases hc:(cls l id).2=true
    · rw[if_pos hc]at e ⊢
      by_cases ht:told.any (·==id)=true
      · rw[if_pos ht]at e ⊢
        exact⟨_,_,dn e,rfl⟩
      · rw[if_neg ht]at e ⊢
        rw[(avz hc).1]at e
        by_cases ho:(id==other)=true
        · rw[if_pos ho]at e
          exact⟨_,_,dn e,by rw[List.any_cons,ho];rfl⟩
        · rw[if_neg ho]at e
          obtain⟨i,z,h1,h2⟩:=arf hl other n (cls l id).1.Type_ (told++[id]) (mset id true m) (h.next hc ht) (fun k=>by
            rw[akv,hm,List.any_append]
            by_cases hk:id=k
            · rw[if_pos hk,hk];simp
            · rw[if_neg hk]
              have:(id==k)=false:=by simpa using hk
              simp[this])
          refine⟨i,z,?_,?_⟩
          · rw[gv (s':=((cls l id).1.Type_,.inl (),mset id true m)) e]
            exact h1
          · rw[h2,List.any_cons,Bool.eq_false_iff.2 ho,Bool.false_or]
    · rw[if_neg hc]at e ⊢
      exact⟨_,_,dn e,rfl⟩
theorem aui {l:List A9} (hl:l.length<=1000000) (id other:Bt):aim l id other=some (below l id other):=by
 obtain⟨i,z,h1,h2⟩:=arf hl other (l.length+1) id [] [] (azi l) (fun k=>rfl)
 unfold aim aar
 rw[h1,Option.bind_some]
 unfold below
 rw[← h2]
 cases z<;>rfl
abbrev tInt :Bt:=[105,110,116]
abbrev axf :Bt:=[98,111,111,108,101,97,110]
abbrev tVoid :Bt:=[118,111,105,100]
abbrev tNull :Bt:=[110,117,108,108]
def may (l:List A9) (a b:Bt):Bool:=
 if(a==[]||a==tVoid)=true then false
 else if(a==b)=true then(cls l b).2||b==tInt||b==axf
 else if(cls l b).2=false then false
 else if(a==tNull)=true then true
 else(cls l a).2&&below l a b
end Go.Proofs.YtcndghapmoaidaaGreatDoor
set_option linter.unusedSectionVars false
set_option maxRecDepth 100000
set_option maxHeartbeats 4000000
namespace Go.Proofs.YtcndghapmoaidaaGreatDoor
open Go Go.Cn
variable [Glob]
end Go.Proofs.YtcndghapmoaidaaGreatDoor
set_option linter.unusedSectionVars false
set_option maxRecDepth 100000
set_option maxHeartbeats 4000000
namespace Go.Proofs.YtcndghapmoaidaaGreatDoor
open Go Go.Cn
variable [Glob]
def ownP (kind:Int) (name id:Bt) (e:A9):Bool:=e.Kind==kind&&e.Owner==id&&e.Name==name
def has (l:List A9) (kind:Int) (id name:Bt):A9 × Bool:=
 match (path l (l.length+1) id []).findSome? (fun a=>l.find? (ownP kind name a))with|some e=>(e,true)|none=>(alu,false)
theorem ami (kind:Int) (name id:Bt) {γ:Type} (g:A9->γ):∀(l:List A9) (i:Nat),lg (ownP kind name id) (fun _ x=>g x) i l=match l.find? (ownP kind name id)with|some e=> .done (g e)|none=> .next ()
 | [],_=>rfl
 |x::r,i=>by
  unfold lg
  by_cases hp:ownP kind name id x=true
  ·rw[if_pos hp,List.find?_cons_of_pos hp]
  ·rw[if_neg hp,List.find?_cons_of_neg hp];exact ami kind name id g r (i+1)
theorem atw {α γ:Type} {l:List α} {f:Int->Option (Int ⊕ Flow Unit γ)} (q:α->Option γ) (hl:l.length<=4000000000)
  (h1:∀(i:Nat) x,l[i]? =some x->f i=match q x with|some r=>some (.inr (.done r))|none=>some (.inl (w64 ((i:Int)+1)))) (h2:∀i:Nat,l.length<=i->f i=some (.inr (.next ()))):
  ∀(r:List α) (i:Nat),l.drop i=r->iter f (i:Int)=some (match r.findSome? q with|some r=> .done r|none=> .next ())
 | [],i,h=>by
  have hi:l.length<=i:=by
   have:=congrArg List.length h
   simp at this
   omega
  exact dn (h2 i hi)
 |x::r,i,h=>by
  have hx:l[i]? =some x:=by
   have:=congrArg (fun z=>z[0]?) h
   simpa using this
  have hi:=(List.getElem?_eq_some_iff.1 hx).1
  have hr:l.drop (i+1)=r:=by
   have:=congrArg List.tail h
   simpa using this
  have e:=h1 i x hx
  cases hq:q x with
  |some z=>
   rw[hq]at e
   rw[List.findSome?_cons,hq]
   exact dn e
  |none=>
   rw[hq]at e
   rw[List.findSome?_cons,hq,gv e,c5 om om]
   exact atw q hl h1 h2 r (i+1) hr
theorem an1 {l:List A9} (hl:l.length<=1000000) (kind:Int) (id name:Bt):wa l kind id name=some (has l kind id name):=by
 have hp:=ar4 l (l.length+1) id []
 have hin:∀(i:Nat) (a:Bt),(path l (l.length+1) id [])[i]? =some a->
   iter (fun s=>rl l kind (path l (l.length+1) id []) (i:Int) name s) 0=some (match l.find? (ownP kind name a)with|some e=> .done (.inr (.done (e,true)))|none=> .next ()):=fun i a ha=>by
  have h:=ir (l:=l) (f:=fun s=>rl l kind (path l (l.length+1) id []) (i:Int) name s) (ownP kind name a) (fun _ x=>((.inr (.done (x,true))):(Int) ⊕ (Flow Unit (A9 × Bool)))) om (fun k x hx=>by
   unfold rl yv ownP
   rw[if_pos (gm hx),ei hx,ei ha]
   simp only[Option.bind_some]
   cases (x.Kind==kind)<;>cases (x.Owner==a)<;>simp) (fun k hk=>by
   unfold rl
   rw[if_neg (gt hk)]) l 0 rfl
  rw[ami]at h
  exact h
 have h:=atw (l:=path l (l.length+1) id []) (f:=fun s=>ui (path l (l.length+1) id []) l kind name s) (fun a=>(l.find? (ownP kind name a)).map fun e=>(e,true)) om (fun i a ha=>by
  unfold ui ae6
  rw[if_pos (gm ha),hin i a ha]
  simp only[Option.bind_some]
  cases l.find? (ownP kind name a)<;>rfl) (fun i hi=>by
  unfold ui
  rw[if_neg (gt hi)]) (path l (l.length+1) id []) 0 rfl
 unfold wa aan
 rw[aon hl _ id [] (azi l),Option.bind_some,List.nil_append]
 rw[show((0:Nat):Int)=0 from rfl]at h
 rw[h,Option.bind_some]
 unfold has ae7
 have e:∀p:List Bt,p.findSome? (fun a=>(l.find? (ownP kind name a)).map fun e=>(e,true))=(p.findSome? fun a=>l.find? (ownP kind name a)).map fun e=>(e,true):=by
  intro p
  induction p with
  |nil=>rfl
  |cons a p ih=>
   rw[List.findSome?_cons,List.findSome?_cons]
   cases l.find? (ownP kind name a)<;>simp[ih]
 rw[e]
 cases (path l (l.length+1) id []).findSome? (fun a=>l.find? (ownP kind name a))<;>rfl
theorem at3 {l:List A9} (hl:l.length<=1000000) (kind:Int) (name:Bt) (is:A9->Option Bool) (his:∀e,is e=some (e.Kind==kind&&e.Name==name)):∀(n:Nat) (id:Bt) (told:List Bt) (m:SMap Bool),Told l n told->(∀k,mget k false m=told.any (·==k))->
    ∃i z,iter (fun s=>kg (yldX (fun(_:Unit) (a:A9)=>yo l is a)) l s.1 s.2.1 s.2.2) (id,.inl (),m)=some (l,i,z)/\(match z with| .inl _=>none| .inr y=>some y.1)=(path l n id told).findSome? (fun a=>l.find? (ownP kind name a))
  | 0,_,_,_,h,_=>by obtain⟨m,hm⟩:=h.pos;cases hm
  |n+1,id,told,m,h,hm=>by
    have hr:∀c:A9,yo l is c=some (match l.find? (ownP kind name c.Id)with|some e=>(false,.inr (e,c))|none=>(true,.inl ())):=fun c=>by
      have h:=ir (l:=l) (f:=fun s=>aai l c is s) (ownP kind name c.Id) (fun _ x=>((false,.inr (x,c)):Bool × ((Unit) ⊕ (A9 × A9)))) om (fun k x hx=>by
        unfold aai ag1 ownP
        rw[if_pos (gm hx),ei hx]
        simp only[Option.bind_some,his]
        cases (x.Kind==kind)<;>cases (x.Owner==c.Id)<;>simp) (fun k hk=>by
        unfold aai
        rw[if_neg (gt hk)]) l 0 rfl
      rw[ami,show((0:Nat):Int)=0 from rfl]at h
      unfold yo
      rw[h,Option.bind_some]
      cases l.find? (ownP kind name c.Id)<;>rfl
    have e:kg (yldX (fun(_:Unit) (a:A9)=>yo l is a)) l id (.inl ()) m=
        if(cls l id).2=true then(if told.any (·==id)=true then some (.inr (l,id,.inl ()))else(match l.find? (ownP kind name (cls l id).1.Id)with|some e=>some (.inr (l,id,.inr (e,(cls l id).1)))|none=>some (.inl ((cls l id).1.Type_,.inl (),mset id true m))))else some (.inr (l,id,.inl ())):=by
      unfold kg qk
      rw[aiv om,hm]
      simp only[Option.bind_some,yldX,hr]
      cases (cls l id).2<;>cases told.any (·==id)<;>cases l.find? (ownP kind name (cls l id).1.Id)<;>rfl
    unfold path
    by_cases hc:(cls l id).2=true
    · rw[if_pos hc]at e ⊢
      by_cases ht:told.any (·==id)=true
      · rw[if_pos ht]at e ⊢
        exact⟨_,_,dn e,rfl⟩
      · rw[if_neg ht]at e ⊢
        rw[(avz hc).1]at e
        rw[List.findSome?_cons]
        cases hf:l.find? (ownP kind name id)with
        |some x=>
          rw[hf]at e
          exact⟨_,_,dn e,rfl⟩
        |none=>
          rw[hf]at e
          obtain⟨i,z,h1,h2⟩:=at3 hl kind name is his n (cls l id).1.Type_ (told++[id]) (mset id true m) (h.next hc ht) (fun k=>by
            rw[akv,hm,List.any_append]
            by_cases hk:id=k
            · rw[if_pos hk,hk];simp
            · rw[if_neg hk]
              have:(id==k)=false:=by simpa using hk
              simp[this])
          exact⟨i,z,(gv (s':=((cls l id).1.Type_,.inl (),mset id true m)) e).trans h1,h2⟩
    · rw[if_neg hc]at e ⊢
      exact⟨_,_,dn e,rfl⟩
theorem aq3 {l:List A9} (hl:l.length<=1000000) (kind:Int) (id name:Bt) (is:A9->Option Bool) (his:∀e,is e=some (e.Kind==kind&&e.Name==name)):al5 l id is=some (has l kind id name):=by
 obtain⟨i,z,h1,h2⟩:=at3 hl kind name is his (l.length+1) id [] [] (azi l) (fun k=>rfl)
 unfold al5 aar
 rw[h1,Option.bind_some]
 unfold has ag0 agz
 rw[← h2]
 cases z<;>rfl
theorem aix {l:List A9} (hl:l.length<=1000000) (id name:Bt):wb l id name=some (has l 2 id name):=by
 unfold wb
 rw[aq3 hl 2 id name _ (fun e=>by unfold aea w4;cases (e.Kind==2)<;>rfl)]
 rfl
theorem ahn {l:List A9} (hl:l.length<=1000000) (id name:Bt):vg l id name=some (has l 3 id name):=by
 unfold vg
 rw[aq3 hl 3 id name _ (fun e=>by unfold acb uz;cases (e.Kind==3)<;>rfl)]
 rfl
end Go.Proofs.YtcndghapmoaidaaGreatDoor
set_option linter.unusedSectionVars false
set_option maxRecDepth 100000
set_option maxHeartbeats 4000000
namespace Go.Proofs.YtcndghapmoaidaaGreatDoor
open Go Go.Cn
variable [Glob]
theorem amv {α:Type} (p:α->Bool) (b d:Bool):∀(l:List α) (i:Nat),fin d (lg p (fun _ _=>b) i l)=if l.any p=true then b else d
 | [],_=>rfl
 |x::r,i=>by
  unfold lg
  by_cases hp:p x=true
  ·rw[if_pos hp,List.any_cons,hp,Bool.true_or,if_pos rfl];rfl
  ·rw[if_neg hp,List.any_cons,Bool.eq_false_iff.2 hp,Bool.false_or];exact amv p b d r (i+1)
theorem auu :∀(x y:List Bt),x.length=y.length->((x.zip y).any fun p=> !(p.1==p.2))= !decide (x=y)
 | [],[],_=>rfl
 |a::x,b::y,h=>by
  rw[List.zip_cons_cons,List.any_cons,auu x y (by simpa using h)]
  by_cases hab:a=b
  ·by_cases hxy:x=y<;>simp[hab,hxy]
  ·simp[hab]
 | [],_::_,h=>by simp at h
 |_::_,[],h=>by simp at h
theorem al0 {x y:List Bt} {i:Nat} {p:Bt × Bt} (h:(x.zip y)[i]? =some p):x[i]? =some p.1/\y[i]? =some p.2:=by
 rw[List.getElem?_zip_eq_some]at h
 exact h
theorem ao6 {x y:List Bt} (hx:x.length<=4000000000):jh x y=some (decide (x=y)):=by
 unfold jh
 by_cases hl:x.length=y.length
 ·rw[if_neg (by simp[hl])]
  have hz:(x.zip y).length=x.length:=by rw[List.length_zip];omega
  have h:=ir (l:=x.zip y) (f:=fun s=>fi x y s) (fun p=> !(p.1==p.2)) (fun _ _=>false) om (fun i p hp=>by
   unfold fi ju
   rw[if_pos (gm (al0 hp).1),ei (al0 hp).1,ei (al0 hp).2]
   rfl) (fun i hi=>by
   unfold fi
   rw[if_neg (gt om)]) (x.zip y) 0 rfl
  rw[show((0:Nat):Int)=0 from rfl]at h
  rw[h,Option.bind_some]
  have h2:=amv (fun p:Bt × Bt=> !(p.1==p.2)) false true (x.zip y) 0
  rw[auu x y hl]at h2
  have h3:fin true (lg (fun p:Bt × Bt=> !(p.1==p.2)) (fun _ _=>false) 0 (x.zip y))=decide (x=y):=by
   rw[h2]
   cases decide (x=y)<;>rfl
  rw[← h3]
  cases lg (fun p:Bt × Bt=> !(p.1==p.2)) (fun _ _=>false) 0 (x.zip y)<;>rfl
 ·rw[if_pos (by simpa using fun h=>hl (by exact_mod_cast h))]
  have:x≠y:=fun e=>hl (by rw[e])
  simp[this]
theorem apa {x y:List Bt} (hx:x.length<=4000000000):aby x y=some (decide (x=y)):=by
 unfold aby
 by_cases hl:x.length=y.length
 ·rw[if_neg (by simp[hl])]
  have hz:(x.zip y).length=x.length:=by rw[List.length_zip];omega
  have h:=ir (l:=x.zip y) (f:=fun s=>nt x y s) (fun p=> !(p.1==p.2)) (fun _ _=>false) om (fun i p hp=>by
   unfold nt zo
   rw[if_pos (gm (al0 hp).1),ei (al0 hp).1,ei (al0 hp).2]
   rfl) (fun i hi=>by
   unfold nt
   rw[if_neg (gt om)]) (x.zip y) 0 rfl
  rw[show((0:Nat):Int)=0 from rfl]at h
  rw[h,Option.bind_some]
  have h2:=amv (fun p:Bt × Bt=> !(p.1==p.2)) false true (x.zip y) 0
  rw[auu x y hl]at h2
  have h3:fin true (lg (fun p:Bt × Bt=> !(p.1==p.2)) (fun _ _=>false) 0 (x.zip y))=decide (x=y):=by
   rw[h2]
   cases decide (x=y)<;>rfl
  rw[← h3]
  cases lg (fun p:Bt × Bt=> !(p.1==p.2)) (fun _ _=>false) 0 (x.zip y)<;>rfl
 ·rw[if_pos (by simpa using fun h=>hl (by exact_mod_cast h))]
  have:x≠y:=fun e=>hl (by rw[e])
  simp[this]
theorem has_mem {l:List A9} {kind:Int} {id name:Bt} (h:(has l kind id name).2=true):(has l kind id name).1∈l:=by
 unfold has at h ⊢
 cases hf:(path l (l.length+1) id []).findSome? (fun a=>l.find? (ownP kind name a))with
 |none=>rw[hf]at h;cases h
 |some e=>
  obtain⟨a,_,h2⟩:=List.exists_of_findSome?_eq_some hf
  exact List.mem_of_find?_eq_some h2
def y4 (l:List A9) (e:A9):Int:=
 if(e.Kind==1)=true then(if(!(e.Type_==[])&&(!(cls l e.Type_).2||below l e.Type_ e.Id))=true then 160 else 0)
 else if(cls l e.Owner).2=false then 0
 else if(e.Kind==2)=true then(if(has l 2 (cls l e.Owner).1.Type_ e.Name).2=true then 162 else 0)
 else if(e.Kind==3)=true then(if((has l 3 (cls l e.Owner).1.Type_ e.Name).2&& !((has l 3 (cls l e.Owner).1.Type_ e.Name).1.Type_==e.Type_&&(has l 3 (cls l e.Owner).1.Type_ e.Name).1.Static==e.Static&&decide ((has l 3 (cls l e.Owner).1.Type_ e.Name).1.Params=e.Params)))=true then 161 else 0)
 else 0
theorem ave :alu.Params.length<=4000000000:=by decide
theorem aq4 {l:List A9} (hp:∀e∈l,e.Params.length<=4000000000) (kind:Int) (id name:Bt):(has l kind id name).1.Params.length<=4000000000:=by
 by_cases h:(has l kind id name).2=true
 ·exact hp _ (has_mem h)
 ·unfold has at h ⊢
  cases hf:(path l (l.length+1) id []).findSome? (fun a=>l.find? (ownP kind name a))with
  |none=>exact ave
  |some e=>rw[hf]at h;exact absurd rfl h
theorem aud {l:List A9} (hl:l.length<=1000000) (hp:∀e∈l,e.Params.length<=4000000000) (e:A9):aik l e=some (y4 l e):=by
 unfold aik ab8 yw ab9 ul akw yx y4
 have hl':l.length<=4000000000:=by omega
 simp only[aiv hl',aui hl,aix hl,ahn hl,Option.bind_some,ao6 (aq4 hp _ _ _)]
 by_cases h1:(e.Kind==1)=true
 ·have:(e.Kind != 1)=false:=by simpa using h1
  rw[this]
  rw[if_pos h1]
  cases (e.Type_==([]:Bt))<;>cases (cls l e.Type_).2<;>cases below l e.Type_ e.Id<;>simp[h1]
 ·have:(e.Kind != 1)=true:=by simpa using h1
  rw[this,if_neg h1]
  by_cases h2:(e.Kind==2)=true
  ·cases (cls l e.Owner).2<;>cases (has l 2 (cls l e.Owner).1.Type_ e.Name).2<;>simp[h1,h2]
  ·by_cases h3:(e.Kind==3)=true
   ·cases (cls l e.Owner).2<;>cases (has l 3 (cls l e.Owner).1.Type_ e.Name).2<;>cases ((has l 3 (cls l e.Owner).1.Type_ e.Name).1.Type_==e.Type_)<;>cases ((has l 3 (cls l e.Owner).1.Type_ e.Name).1.Static==e.Static)<;>cases decide ((has l 3 (cls l e.Owner).1.Type_ e.Name).1.Params=e.Params)<;>simp[h1,h2,h3]
   ·cases (cls l e.Owner).2<;>simp[h1,h2,h3]
theorem apx {l:List A9} (hl:l.length<=1000000) (hp:∀e∈l,e.Params.length<=4000000000) (e:A9):ad0 l e=some (y4 l e):=by
 unfold ad0 sy pz sx y4
 have hl':l.length<=4000000000:=by omega
 simp only[ajw hl',ap1 hl,an1 hl,Option.bind_some,apa (aq4 hp _ _ _)]
 by_cases h1:(e.Kind==1)=true
 ·rw[if_pos h1,if_pos h1]
  cases (e.Type_==([]:Bt))<;>cases (cls l e.Type_).2<;>cases below l e.Type_ e.Id<;>simp
 ·rw[if_neg h1,if_neg h1]
  by_cases h2:(e.Kind==2)=true
  ·cases (cls l e.Owner).2<;>cases (has l 2 (cls l e.Owner).1.Type_ e.Name).2<;>simp[h2]
  ·by_cases h3:(e.Kind==3)=true
   ·cases (cls l e.Owner).2<;>cases (has l 3 (cls l e.Owner).1.Type_ e.Name).2<;>cases ((has l 3 (cls l e.Owner).1.Type_ e.Name).1.Type_==e.Type_)<;>cases ((has l 3 (cls l e.Owner).1.Type_ e.Name).1.Static==e.Static)<;>cases decide ((has l 3 (cls l e.Owner).1.Type_ e.Name).1.Params=e.Params)<;>simp[h2,h3]
   ·cases (cls l e.Owner).2<;>simp[h2,h3]
def aj6 (l:List A9):B3:=fin (B3.mk 0 0 0) (lg (fun e=>y4 l e != 0) (fun _ e=>B3.mk (y4 l e) e.File e.At) 0 l)
theorem aug {l:List A9} (hl:l.length<=1000000) (hp:∀e∈l,e.Params.length<=4000000000):ail l=some (aj6 l):=by
 have h:=ir (l:=l) (f:=fun s=>un l s) (fun e=>y4 l e != 0) (fun _ e=>B3.mk (y4 l e) e.File e.At) om (fun i x hx=>by
  unfold un
  rw[if_pos (gm hx),ei hx]
  simp only[Option.bind_some,aud hl hp]) (fun i hi=>by
  unfold un
  rw[if_neg (gt hi)]) l 0 rfl
 unfold ail aj6
 rw[show((0:Nat):Int)=0 from rfl]at h
 rw[h,Option.bind_some]
 cases lg (fun e=>y4 l e != 0) (fun _ e=>B3.mk (y4 l e) e.File e.At) 0 l<;>rfl
theorem apz {l:List A9} (hl:l.length<=1000000) (hp:∀e∈l,e.Params.length<=4000000000):ad1 l=some (aj6 l):=by
 have h:=ir (l:=l) (f:=fun s=>qb l s) (fun e=>y4 l e != 0) (fun _ e=>B3.mk (y4 l e) e.File e.At) om (fun i x hx=>by
  unfold qb aay
  rw[if_pos (gm hx),ei hx]
  simp only[Option.bind_some,apx hl hp]) (fun i hi=>by
  unfold qb
  rw[if_neg (gt hi)]) l 0 rfl
 unfold ad1 aj6
 rw[show((0:Nat):Int)=0 from rfl]at h
 rw[h,Option.bind_some]
 cases lg (fun e=>y4 l e != 0) (fun _ e=>B3.mk (y4 l e) e.File e.At) 0 l<;>rfl
end Go.Proofs.YtcndghapmoaidaaGreatDoor
set_option linter.unusedSectionVars false
namespace Go.Cn
abbrev noG :Glob:=⟨fun _=>True,fun _ _ _ _=>trivial⟩
theorem az8 {σ ω:Type} {f:σ->Option (σ ⊕ ω)} (I:σ->Prop) (Q:ω->Prop) (m:σ->Nat)
  (h:∀s,I s->(∃s',f s=some (.inl s')/\I s'/\m s'<m s)\/(∃o,f s=some (.inr o)/\Q o)):∀s,I s->∃o,iter f s=some o/\Q o:=by
 have key:∀n s,m s<=n->I s->∃o,iter f s=some o/\Q o:=by
  intro n
  induction n with
  |zero=>
   intro s hm hs
   rcases h s hs with⟨s',_,_,h3⟩|⟨o,h1,h2⟩
   ·omega
   ·exact⟨o, @dn noG _ _ _ _ _ h1,h2⟩
  |succ n ih=>
   intro s hm hs
   rcases h s hs with⟨s',h1,h2,h3⟩|⟨o,h1,h2⟩
   ·obtain⟨o,h4,h5⟩:=ih s' om h2
    exact⟨o,by rw[@gv noG _ _ _ _ _ h1];exact h4,h5⟩
   ·exact⟨o, @dn noG _ _ _ _ _ h1,h2⟩
 exact fun s hs=>key (m s) s (Nat.le_refl _) hs
theorem az9 {l:Bt} {i:Nat} (h:i<l.length):idxS l i=some (l[i].toNat:Int):=by
 unfold idxS
 simp[h]
theorem afs {α:Type} {l:List α} {i:Nat} (h:i<l.length):idx l i=some l[i]:=by
 unfold idx
 simp[h]
theorem sub_nat {l:Bt} {i j:Nat} (h:i<=j) (h2:j<=l.length):sub l i j=some ((l.take j).drop i):=by
 unfold sub
 simp[h,h2]
end Go.Cn
set_option linter.unusedSectionVars false
set_option linter.unusedVariables false
set_option linter.unusedSimpArgs false
set_option maxRecDepth 100000
set_option maxHeartbeats 4000000
namespace Go.Proofs.YtcndghapmoaidaaGreatDoor
open Go Go.Cn
variable [Glob]
def Ok {α:Type} (P:α->Prop) (o:Option α):Prop:=∃a,o=some a/\P a
section
variable {α β σ ω:Type} {P Q:α->Prop} {o:Option α}
theorem Ok.mk {a:α} (h:P a):Ok P (some a):=⟨a,rfl,h⟩
theorem Ok.bd {Q:β->Prop} {f:α->Option β} (h:Ok P o) (k:∀a,P a->Ok Q (f a)):Ok Q (o.bind f):=by
 obtain⟨a,rfl,ha⟩:=h
 exact k a ha
theorem Ok.weak (h:Ok P o) (k:∀a,P a->Q a):Ok Q o:=by
 obtain⟨a,rfl,ha⟩:=h
 exact⟨a,rfl,k a ha⟩
theorem Ok.dec {p:Prop} [Decidable p] {a b:Option α} (h1:p->Ok P a) (h2:¬p->Ok P b):Ok P (if decide p=true then a else b):=by
 by_cases h:p
 ·rw[if_pos (by simpa using h)];exact h1 h
 ·rw[if_neg (by simpa using h)];exact h2 h
theorem Ok.cond {c:Bool} {a b:Option α} (h1:c=true->Ok P a) (h2:c=false->Ok P b):Ok P (if c=true then a else b):=by
 cases c
 ·exact h2 rfl
 ·exact h1 rfl
theorem Ok.it {f:σ->Option (σ ⊕ ω)} {Q:ω->Prop} (I:σ->Prop) (m:σ->Nat) (h:∀s,I s->Ok (Sum.elim (fun s'=>I s'/\m s'<m s) Q) (f s)) {s:σ} (hs:I s):Ok Q (iter f s):=
 az8 I Q m (fun s hs=>by
  obtain⟨z,h1,h2⟩:=h s hs
  cases z with
  |inl s'=>exact .inl ⟨s',h1,h2⟩
  |inr w=>exact .inr ⟨w,h1,h2⟩) s hs
end
def ajk {α β:Type} (A:α->Prop) (B:β->Prop):Flow α β->Prop
 | .next p=>A p
 | .done r=>B r
theorem acl {x:Bt} {i:Int} (h:0<=i) (h2:i<x.length):Ok (fun _=>True) (idxS x i):=by
 obtain⟨n,rfl⟩:∃n:Nat,i=n:=⟨i.toNat,by omega⟩
 exact⟨_,az9 om,trivial⟩
theorem al6 {x:Bt} {i:Int} (h:0<=i) (h2:i<x.length):Ok (fun c=>idxS x i=some c) (idxS x i):=by
 obtain⟨c,hc,_⟩:=acl h h2
 exact⟨c,hc,hc⟩
theorem aqo {x:Bt} {i j:Nat} (h:i<=j) (h2:j<=x.length):Ok (fun s=>s=(x.take j).drop i) (sub x i j):=⟨_,sub_nat h h2,rfl⟩
theorem asd (c:Int):Ok (fun _=>True) (rz c):=by
 unfold rz wz
 split<;>exact .mk trivial
theorem att (c:Int):Ok (fun _=>True) (rn c):=by
 unfold rn jq
 repeat' split
 all_goals exact .mk trivial
theorem a0a {s:Bt} (hs:s.length<=1000000):Ok (fun _=>True) (ad7 s):=by
 unfold ad7 abm
 refine .dec (fun _=> .mk trivial) fun _=> .bd (P:=fun _=>True) (.it (fun p:Int × Int=>0<=p.2/\p.2<=s.length) (fun p=>(s.length - p.2).toNat) ?_ ⟨by omega,by omega⟩) (fun _ _=> .mk trivial)
 rintro⟨n,i⟩ ⟨h1,h2⟩
 simp only at h1 h2 ⊢
 unfold wy
 refine .dec (fun h=> .bd (acl h1 h) fun _ _=> .mk ?_) fun _=> .mk trivial
 simp only[Sum.elim_inl]
 rw[c5 (n:=i+1) om om]
 omega
theorem kept_ok {s:Bt}:Ok (fun _=>True) (oo s):=by
 unfold oo adl
 refine .bd (P:=fun _=>True) (.it (fun p:Int=>0<=p/\p<=16) (fun p=>(16 - p).toNat) ?_ ⟨by omega,by omega⟩) (fun z _=>by cases z<;>exact .mk trivial)
 rintro i ⟨h1,h2⟩
 unfold zf
 refine .dec (fun h=>?_) fun _=> .mk trivial
 simp only[List.length_cons,List.length_nil]at h
 obtain⟨n,rfl⟩:∃n:Nat,i=n:=⟨i.toNat,by omega⟩
 rw[afs (by simp only[List.length_cons,List.length_nil];omega)]
 refine .cond (fun _=> .mk trivial) fun _=> .mk ?_
 simp only[Sum.elim_inl]
 rw[c5 om om]
 omega
theorem one_ok {x:Bt} {n:Int} (h:0<=n) (hn:n<x.length):Ok (fun m:Int=>0<=m/\m<=1) (zc x n):=by
 unfold zc adi
 refine .bd (P:=ajk (fun _=>True) (fun r=>r=1)) (.it (fun p:Int=>0<=p/\p<=16) (fun p=>(16 - p).toNat) ?_ ⟨by omega,by omega⟩) (fun z hz=>by
  cases z with
  |next _=>exact .mk om
  |done r=>obtain rfl:r=1:=hz;exact .mk om)
 rintro i ⟨h1,h2⟩
 unfold zb adk
 refine .dec (fun hi=> .bd (acl h hn) fun _ _=> .bd (acl h1 hi) fun _ _=> .cond (fun _=> .mk rfl) fun _=> .mk ?_) fun _=> .mk trivial
 simp only[List.length_cons,List.length_nil,Sum.elim_inl]at hi ⊢
 rw[c5 om om]
 omega
theorem mark_ok {x:Bt} {n:Nat} (hn:n<x.length) (hx:x.length<=1000000):Ok (fun m:Int=>0<=m/\n+m<=x.length) (agy x n):=by
 unfold agy
 refine .bd (P:=ajk (fun _=>True) (fun r=>r=2/\n+2<=x.length)) (.it (fun p:Int=>0<=p/\p<=6) (fun p=>(6 - p).toNat) ?_ ⟨by omega,by omega⟩) (fun z hz=>by
  cases z with
  |next _=>exact(one_ok om om).weak fun m h=>by omega
  |done r=>obtain⟨rfl,h⟩:r=2/\n+2<=x.length:=hz;exact .mk om)
 rintro i ⟨h1,h2⟩
 unfold za zd adj
 rw[c5 om om]
 refine .dec (fun hi=> .dec (fun hl=> .bd (aqo (i:=n) (j:=n+2) om om) fun _ _=>?_) fun _=> .mk trivial) fun _=> .cond (fun h=>by cases h) fun _=> .mk trivial
 simp only[List.length_cons,List.length_nil]at hi
 obtain⟨k,rfl⟩:∃n:Nat,i=n:=⟨i.toNat,by omega⟩
 rw[afs (by simp only[List.length_cons,List.length_nil];omega)]
 refine .cond (fun _=> .mk ⟨rfl,by omega⟩) fun _=> .mk ?_
 simp only[Sum.elim_inl]
 rw[c5 om om]
 omega
abbrev BetP (x:Bt) (a s:Int):Int ⊕ Flow Int (Int × Bool)->Prop:=
 Sum.elim (fun s'=>(a<=s'/\s'<=x.length)/\(x.length - s').toNat<(x.length - s).toNat) (ajk (fun p=>a<=p/\p<=x.length) (fun r:Int × Bool=>a<=r.1/\r.1<=x.length))
theorem as5 {x:Bt} {a s:Int} (ha:0<=a) (hx:x.length<=1000000) (h1:a<=s) (h:s+1<x.length) (hc:idxS x s=some 47):Ok (BetP x a s) (ja s x false):=by
 unfold ja
 rw[if_neg sm,c5 om om,c5 om om]
 refine .bd (acl om om) fun d _=> .cond (fun hd=>?_) fun _=>?_
 ·refine .bd (P:=fun p=>s<p/\p<=x.length) (.it (fun p:Int=>s<=p/\p<=x.length) (fun p=>(x.length - p).toNat) ?_ ⟨by omega,by omega⟩) fun p hp=> .mk (by simp only[BetP,Sum.elim_inl];omega)
  rintro p ⟨p1,p2⟩
  unfold sk sn
  refine .dec (fun hp=> .bd (al6 om hp) fun e he=> .cond (fun _=> .mk ?_) fun hn=> .mk ?_) fun hp=> .cond (fun h=>by cases h) fun _=> .mk ?_
  ·simp only[Sum.elim_inl]
   rw[c5 om om]
   omega
  ·simp only[Sum.elim_inr]
   refine⟨?_,p2⟩
   rcases Int.lt_or_eq_of_le p1 with h|rfl
   ·exact h
   ·rw[hc]at he
    cases he
    simp at hn
  ·simp only[Sum.elim_inr]
   omega
 ·refine .bd (P:=fun p=>s+2<=p/\p<=x.length) (.it (fun p:Int=>s+2<=p/\p<=x.length) (fun p=>(x.length - p).toNat) ?_ ⟨by omega,by omega⟩) fun p hp=>?_
  ·rintro p ⟨p1,p2⟩
   unfold sj ot
   rw[c5 om om]
   have g:p+1<x.length->Ok (Sum.elim (fun s'=>(s+2<=s'/\s'<=x.length)/\(x.length - s').toNat<(x.length - p).toNat) (fun p:Int=>s+2<=p/\p<=x.length)) (some (.inl (p+1))):=fun h=> .mk (by simp only[Sum.elim_inl];omega)
   refine .dec (fun hp=> .bd (acl om om) fun e _=> .cond (fun _=> .cond (fun _=>g hp) fun h=>by cases h) fun _=> .bd (acl om hp) fun e _=> .cond (fun _=>g hp) fun _=> .mk ⟨p1,p2⟩) fun _=> .cond (fun h=>by cases h) fun _=> .mk ⟨p1,p2⟩
  ·unfold xp
   rw[c5 om om,c5 om om]
   refine .dec (fun _=> .mk ?_) fun _=> .mk ?_
   ·simp only[BetP,Sum.elim_inr,ajk]
    omega
   ·simp only[BetP,Sum.elim_inl]
    omega
theorem axa {x:Bt} {a:Int} (ha:0<=a) (h2:a<=x.length) (hx:x.length<=1000000):Ok (fun r:Int × Bool=>a<=r.1/\r.1<=x.length) (ze x a):=by
 unfold ze xq
 refine .bd (P:=ajk (fun p=>a<=p/\p<=x.length) (fun r:Int × Bool=>a<=r.1/\r.1<=x.length)) (.it (fun s:Int=>a<=s/\s<=x.length) (fun s=>(x.length - s).toNat) ?_ ⟨by omega,h2⟩) (fun z hz=>by cases z<;>exact .mk hz)
 rintro s ⟨h1,h2⟩
 unfold sl
 refine .dec (fun h=> .bd (al6 om h) fun c hc=>?_) fun _=> .mk ⟨h1,h2⟩
 have fwd:Ok (BetP x a s) (jc s x c true):=by
  unfold jc
  rw[if_pos rfl]
  refine .mk ?_
  simp only[BetP,Sum.elim_inl]
  rw[c5 om om]
  omega
 refine .cond (fun _=>fwd) fun _=> .cond (fun _=>fwd) fun _=> .cond (fun _=>fwd) fun _=>?_
 generalize (c==13)=b
 cases b with
 |true=>exact fwd
 |false=>
 unfold jc
 rw[if_neg sm,c5 om om]
 have out:Ok (BetP x a s) (ja s x true):=by
  unfold ja
  rw[if_pos rfl]
  exact .mk ⟨h1,h2⟩
 refine .dec (fun _=>out) fun hl=> .cond (fun _=>out) fun h47=> .bd (acl om om) fun d _=>?_
 have go:=as5 ha hx h1 om (by rw[hc];simpa using h47)
 refine .cond (fun _=> .bd (acl om om) fun d _=>?_) fun _=>go
 generalize (d != 42)=b
 cases b
 ·exact go
 ·exact out
structure TokOk (x:Bt) (n:Nat) (k m:Int):Prop where
 one:1<=m
 fits:n+m<=x.length
 not5:k≠5
 kept:k=1->oo ((x.take (n+m.toNat)).drop n)=some false
theorem a0u {x:Bt} {n:Nat} {f:Int->Option (Int ⊕ Int)} (hx:x.length<=1000000) (hn:n<x.length)
  (h1:∀m:Int,0<=m->n+m<x.length->Ok (fun z=>z= .inl (m+1)\/(0<m/\z= .inr m)) (f m)) (h2:∀m:Int,n+m=x.length->f m=some (.inr m)):Ok (fun m:Int=>1<=m/\n+m<=x.length) (iter f 0):=by
 refine .it (fun m:Int=>0<=m/\n+m<=x.length) (fun m=>(x.length - m).toNat) ?_ ⟨by omega,by omega⟩
 rintro m ⟨p1,p2⟩
 by_cases h:n+m<x.length
 ·refine(h1 m p1 h).weak fun z hz=>?_
  rcases hz with rfl|⟨h0,rfl⟩
  ·simp only[Sum.elim_inl]
   omega
  ·simp only[Sum.elim_inr]
   omega
 ·rw[h2 m om]
  exact .mk (by simp only[Sum.elim_inr];omega)
theorem azp {x:Bt} {n:Nat} (hn:n<x.length) (hx:x.length<=1000000):Ok (fun r:Int × Int × Int=>r.2.2=0->TokOk x n r.1 r.2.1) (ad6 x n):=by
 unfold ad6
 refine .bd (al6 om om) fun c hc=> .bd (P:=fun b=>rz c=some b) ?_ fun b hb=> .cond (fun h=>?_) fun h=> .bd (al6 om om) fun c' hc'=>?_
 ·obtain⟨b,hb,_⟩:=asd c
  exact⟨b,hb,hb⟩
 ·subst h
  refine .bd (P:=fun m:Int=>1<=m/\n+m<=x.length) (a0u hx hn (fun m h0 h=>?_) fun m h=>?_) fun m hm=>?_
  ·unfold te tf
   rw[c5 om om,c5 om om]
   rw[if_pos (by simpa using h)]
   refine .bd (al6 om h) fun e he=> .bd (P:=fun b=>rz e=some b) ?_ fun b' hb'=> .cond (fun _=> .mk (.inl rfl)) fun hf=> .mk (.inr ⟨?_,rfl⟩)
   ·obtain⟨b,hb,_⟩:=asd e
    exact⟨b,hb,hb⟩
   ·rcases Int.lt_or_eq_of_le h0 with h|rfl
    ·exact h
    ·rw[Int.add_zero,hc]at he
     cases he
     rw[hb]at hb'
     cases hb'
     cases hf
  ·unfold te tf
   rw[c5 om om,if_neg so]
   rfl
  ·have hr:∀b,Ok (fun r:Int × Int × Int=>r.2.2=0->TokOk x n r.1 r.2.1) (qj m b):=fun b=>by
    unfold qj
    exact .cond (fun _=> .mk fun h=>by cases h) fun _=> .mk fun _=>⟨hm.1,hm.2,by simp,by simp⟩
   obtain⟨m,rfl⟩:∃k:Nat,m=k:=⟨m.toNat,by omega⟩
   unfold abl
   rw[c5 om om]
   refine .bd (aqo (i:=n) (j:=n+m) om om) fun s hs=> .bd (a0a ?_) fun g _=> .cond (fun _=>hr _) fun _=> .dec (fun _=> .bd (acl om om) fun _ _=>hr _) fun _=>hr _
   rw[hs]
   simp only[List.length_drop,List.length_take]
   omega
 ·refine .bd (P:=fun b=>rn c'=some b) ?_ fun b' hb'=> .cond (fun h=>?_) fun h=> .bd (mark_ok hn hx) fun m hm=> .cond (fun _=> .mk fun h=>by cases h) fun h=> .mk fun _=>⟨?_,hm.2,by simp,by simp⟩
  ·obtain⟨b,hb,_⟩:=att c'
   exact⟨b,hb,hb⟩
  ·subst h
   refine .bd (P:=fun m:Int=>1<=m/\n+m<=x.length) (a0u hx hn (fun m h0 h=>?_) fun m h=>?_) fun m hm=>?_
   ·unfold tc qi
    rw[c5 om om,c5 om om]
    rw[if_pos (by simpa using h)]
    refine .bd (al6 om h) fun e he=> .bd (P:=fun b=>rn e=some b) ?_ fun b' hb2=> .cond (fun _=> .cond (fun _=> .mk (.inl rfl)) fun h=>by cases h) fun hf=> .bd (acl om h) fun e' _=> .bd (asd _) fun b _=> .cond (fun _=> .mk (.inl rfl)) fun _=> .mk (.inr ⟨?_,rfl⟩)
    ·obtain⟨b,hb,_⟩:=att e
     exact⟨b,hb,hb⟩
    ·rcases Int.lt_or_eq_of_le h0 with h|rfl
     ·exact h
     ·rw[Int.add_zero,hc']at he
      cases he
      rw[hb']at hb2
      cases hb2
      cases hf
   ·unfold tc qi
    rw[c5 om om,if_neg so]
    rfl
   ·obtain⟨m,rfl⟩:∃k:Nat,m=k:=⟨m.toNat,by omega⟩
    unfold abk
    rw[c5 om om]
    refine .dec (fun _=> .mk fun h=>by cases h) fun _=> .bd (aqo (i:=n) (j:=n+m) om om) fun s hs=>?_
    obtain⟨b,hb,_⟩:=kept_ok (s:=s)
    rw[hb]
    subst hs
    exact .cond (fun _=> .mk fun _=>⟨hm.1,hm.2,by simp,by simp⟩) fun h=> .mk fun _=>⟨hm.1,hm.2,by simp,fun _=>by rw[← h,Int.toNat_natCast];exact hb⟩
  ·have:m≠0:=by simpa using h
   have:=hm.1
   show 1<=m
   omega
structure ToksN (M:Nat) (T:List C5):Prop where
 len:T.length<=M+1
 pos:0<T.length
 last:∀i (h:i<T.length),T[i].Kind=5↔i+1=T.length
 txt:∀i (h:i<T.length),T[i].Text.length<=M
 kept:∀i (h:i<T.length),T[i].Kind=1->T[i].Text≠[]/\oo T[i].Text=some false
theorem Lex_ok {x:Bt} (hx:x.length<=1000000):Ok (fun r:List C5 × Int × Int=>r.2.2=0->ToksN x.length r.1) (aii x):=by
 unfold aii
 rw[if_neg so]
 refine .it (fun s:Int × List C5=>0<=s.1/\s.1<=x.length/\s.2.length<=s.1/\∀t∈s.2,t.Kind≠5/\t.Text.length<=x.length/\(t.Kind=1->t.Text≠[]/\oo t.Text=some false)) (fun s=>(x.length - s.1).toNat) ?_ ⟨by simp,by simp,by simp,fun t ht=>by cases ht⟩
 rintro⟨a,l⟩ ⟨h1,h2,h3,h4⟩
 simp only at h1 h2 h3 h4 ⊢
 unfold ab6
 refine .bd (axa h1 h2 hx) ?_
 rintro⟨p,b⟩ ⟨p1,p2⟩
 simp only at p1 p2 ⊢
 obtain⟨p,rfl⟩:∃k:Nat,p=k:=⟨p.toNat,by omega⟩
 obtain⟨a,rfl⟩:∃k:Nat,a=k:=⟨a.toNat,by omega⟩
 refine .cond (fun _=> .mk fun h=>by cases h) fun _=> .cond (fun he=> .bd (aqo om om) fun s hs=>?_) fun hne=> .bd (azp ?_ hx) ?_
 ·rw[oj (by simp only[List.length_cons,List.length_nil];omega) (by simp only[List.length_cons,List.length_nil];omega)]
  refine .mk fun _=>⟨?_,?_,fun i h=>?_,fun i h=>?_,fun i h=>?_⟩
  ·simp only[List.length_append,List.length_cons,List.length_nil]
   omega
  ·simp
  ·simp only[List.length_append,List.length_cons,List.length_nil]at h ⊢
   rcases Nat.lt_or_ge i l.length with hi|hi
   ·rw[List.getElem_append_left hi]
    have:=(h4 _ (List.getElem_mem hi)).1
    omega
   ·rw[List.getElem_append_right hi]
    simp
    omega
  ·rcases Nat.lt_or_ge i l.length with hi|hi
   ·rw[List.getElem_append_left hi]
    exact(h4 _ (List.getElem_mem hi)).2.1
   ·rw[List.getElem_append_right hi]
    simp
  ·rcases Nat.lt_or_ge i l.length with hi|hi
   ·rw[List.getElem_append_left hi]
    exact(h4 _ (List.getElem_mem hi)).2.2
   ·rw[List.getElem_append_right hi]
    simp
 ·have:(p:Int)≠x.length:=by simpa using hne
  omega
 ·rintro⟨k,m,e⟩ hk
  simp only at hk ⊢
  refine .cond (fun he=> .mk fun h=>by simp[show e=0 from h]at he) fun he=>?_
  have g:=hk (by simpa using he)
  have g1:=g.one
  have g2:=g.fits
  obtain⟨m,rfl⟩:∃k:Nat,m=k:=⟨m.toNat,by omega⟩
  rw[c5 om om]
  refine .bd (aqo (i:=p) (j:=p+m) om om) fun s hs=> .bd (aqo om om) fun s2 _=>?_
  rw[oj (by simp only[List.length_cons,List.length_nil];omega) (by simp only[List.length_cons,List.length_nil];omega)]
  unfold afa
  rw[c5 om om]
  refine .mk ?_
  simp only[Sum.elim_inl,List.length_append,List.length_cons,List.length_nil]
  refine⟨⟨by omega,by omega,by omega,fun t ht=>?_⟩,by omega⟩
  rcases List.mem_append.1 ht with ht|ht
  ·exact h4 t ht
  ·obtain rfl:t=_:=by simpa using ht
   have hl:s.length=m:=by rw[hs,List.length_drop,List.length_take];omega
   refine⟨g.not5,by simp only;omega,fun h=>⟨fun h0=>?_,?_⟩⟩
   ·simp only at h0
    rw[h0]at hl
    simp at hl
    omega
   ·have:=g.kept h
    rw[Int.toNat_natCast,← hs]at this
    exact this
end Go.Proofs.YtcndghapmoaidaaGreatDoor
set_option linter.unusedSectionVars false
set_option linter.unusedVariables false
set_option linter.unusedSimpArgs false
set_option maxRecDepth 100000
set_option maxHeartbeats 4000000
namespace Go.Proofs.YtcndghapmoaidaaGreatDoor
open Go Go.Cn
variable [Glob]
mutual
def gk :B5->Nat
 |⟨_,_,_,_,_,_,_,_,kids⟩=>1+ce kids
def ce :List B5->Nat
 | []=>0
 |n::l=>gk n+ce l
end
mutual
def okB (M:Nat):B5->Prop
 |⟨_,t,y,_,_,_,_,_,kids⟩=>(t.length<=M/\y.length<=M)/\okBL M kids
def okBL (M:Nat):List B5->Prop
 | []=>True
 |n::l=>okB M n/\okBL M l
end
theorem kc (x:B5):gk x=1+ce x.Kids:=by cases x;simp[gk]
theorem ow (x:B5):0<gk x:=by rw[kc];omega
theorem ko :∀l:List B5,l.length<=ce l
 | []=>by simp[ce]
 |n::l=>by have:=ko l;have:=ow n;simp[ce];omega
theorem ar5 {M:Nat}:∀{l m:List B5},okBL M (l++m)↔okBL M l/\okBL M m
 | [],_=>by simp[okBL]
 |_::_,_=>by simp[okBL,ar5,and_assoc]
theorem ads :∀(l m:List B5),ce (l++m)=ce l+ce m
 | [],m=>by simp[ce]
 |n::l,m=>by simp[ce,ads l m];omega
abbrev xr (M:Nat) (T:List C5) (i:Int):B5 × Int × C6->Prop:=fun r=>r.2.2.Place<0->i<r.2.1/\r.2.1<T.length/\okB M r.1/\(gk r.1:Int)+i<=r.2.1
abbrev axn (M:Nat) (T:List C5) (i:Int):List B5 × Int × C6->Prop:=fun r=>r.2.2.Place<0->i<r.2.1/\r.2.1<T.length/\okBL M r.1/\(ce r.1:Int)+i<=r.2.1
section
variable {α β:Type} {P Q:β->Prop}
theorem Ok.tt {a b:Option β} (h:Ok P a):Ok P (if true=true then a else b):=h
theorem Ok.ff {a b:Option β} (h:Ok P b):Ok P (if false=true then a else b):=h
theorem Ok.isT {A:Prop} {o:Option Bool} {f:Bool->Option β} (h:Ok (fun b=>b=true->A) o) (k1:A->Ok Q (f true)) (k2:Ok Q (f false)):Ok Q (o.bind f):=by
 obtain⟨b,rfl,h⟩:=h
 cases b
 ·exact k2
 ·exact k1 (h rfl)
theorem Ok.node {M:Nat} {T:List C5} {i:Int} {o:Option (B5 × Int × C6)} {f:B5 × Int × C6->Option β} (h:Ok (xr M T i) o) (k1:∀n j w,w.Place≥0->Ok Q (f (n,j,w))) (k2:∀n j w,w.Place<0->i<j->j<T.length->okB M n->(gk n:Int)+i<=j->Ok Q (f (n,j,w))):Ok Q (o.bind f):=by
 obtain⟨⟨n,j,w⟩,rfl,h⟩:=h
 rcases Int.lt_or_le w.Place 0 with hw|hw
 ·exact k2 _ _ _ hw (h hw).1 (h hw).2.1 (h hw).2.2.1 (h hw).2.2.2
 ·exact k1 _ _ _ hw
theorem Ok.list {M:Nat} {T:List C5} {i:Int} {o:Option (List B5 × Int × C6)} {f:List B5 × Int × C6->Option β} (h:Ok (axn M T i) o) (k1:∀n j w,w.Place≥0->Ok Q (f (n,j,w))) (k2:∀n j w,w.Place<0->i<j->j<T.length->okBL M n->(ce n:Int)+i<=j->Ok Q (f (n,j,w))):Ok Q (o.bind f):=by
 obtain⟨⟨n,j,w⟩,rfl,h⟩:=h
 rcases Int.lt_or_le w.Place 0 with hw|hw
 ·exact k2 _ _ _ hw (h hw).1 (h hw).2.1 (h hw).2.2.1 (h hw).2.2.2
 ·exact k1 _ _ _ hw
theorem Ok.syn {i:Int} {f:C6->Option β} (k:Ok Q (f (C6.mk i 120))):Ok Q ((c6 i).bind f):=k
theorem Ok.fine {f:C6->Option β} (k:Ok Q (f (C6.mk (-1) 0))):Ok Q (en.bind f):=k
theorem Ok.app {l m:List B5} {f:List B5->Option β} (h:ce l+ce m<=9000000) (k:Ok Q (f (l++m))):Ok Q ((app 104 l m).bind f):=by
 have:=ko l
 have:=ko m
 rw[oj om om]
 exact k
variable {M:Nat} {T:List C5} (hT:ToksN M T)
include hT
theorem Ok.tok {i:Int} {f:C5->Option β} (h:0<=i) (h2:i<T.length) (k:∀t,t.Text.length<=M->(t.Kind=1->t.Text≠[]/\oo t.Text=some false)->(t.Kind≠5->i+1<T.length)->Ok Q (f t)):Ok Q ((idx T i).bind f):=by
 obtain⟨n,rfl⟩:∃n:Nat,i=n:=⟨i.toNat,by omega⟩
 have hn:n<T.length:=by omega
 rw[afs hn]
 refine k _ (hT.txt n hn) (hT.kept n hn) fun h5=>?_
 have:=(hT.last n hn).2
 rcases Nat.lt_or_ge (n+1) T.length with h|h
 ·omega
 ·exact absurd (this om) h5
theorem ach {i:Int} (h:0<=i) (s:Bt):Ok (fun b=>b=true->i+1<T.length) (cz T i s):=by
 unfold cz yb
 refine .dec (fun h2=> .tok hT h h2 fun t _ _ h5=> .cond (fun _=> .tok hT h h2 fun t _ _ _=> .cond (fun _=> .tok hT h h2 fun t _ _ h5=> .mk fun hk=>h5 (by simpa using hk)) fun _=> .mk sm) fun _=> .mk sm) fun _=> .mk sm
theorem al4 {i:Int} (h:0<=i):Ok (fun b=>b=true->i+1<T.length) (j0 T i):=by
 unfold j0 vk
 refine .dec (fun h2=> .tok hT h h2 fun t _ _ h5=> .mk fun hk=>h5 ?_) fun _=> .mk sm
 rw[beq_iff_eq]at hk
 omega
variable (hM:M<=60000)
include hM
theorem Ok.end {j:Int} {f:Int->Option β} (h1:1<=j) (h2:j<=T.length) (k:∀b,Ok Q (f b)):Ok Q ((agp T j).bind f):=by
 have:=hT.len
 unfold agp ae8
 rw[c5 om om]
 exact .bd (P:=fun _=>True) (.tok hT om om fun _ _ _ _=> .tok hT om om fun _ _ _ _=> .mk trivial) fun b _=>k b
theorem Ok.made {q i j:Int} {l:List B5} {f:B5->Option β} (h:0<=i) (h2:i<T.length) (h1:1<=j) (h3:j<=T.length) (k:∀a b,Ok Q (f ⟨q,[],[],0,a,b, -1, -1,l⟩)):Ok Q ((fx T q i j l).bind f):=by
 unfold fx ade
 refine .bd (P:=fun n=>∃a b,n=⟨q,[],[],0,a,b, -1, -1,l⟩) (.tok hT h h2 fun _ _ _ _=> .end hT hM h1 h3 fun _=> .mk ⟨_,_,rfl⟩) ?_
 rintro _ ⟨a,b,rfl⟩
 exact k a b
theorem Ok.typed {i:Int} {x:B5} {f:B5->Option β} (h:0<=i) (h2:i+1<T.length) (k:∀s t a b,s.length<=M->t.length<=M->Ok Q (f {{{{x with Type_:=s} with TypeAt:=a} with Text:=t} with At:=b})):Ok Q ((ya T x i).bind f):=by
 have:=hT.len
 unfold ya
 rw[c5 om om]
 refine .bd (P:=fun n=>∃s t a b,s.length<=M/\t.length<=M/\n={{{{x with Type_:=s} with TypeAt:=a} with Text:=t} with At:=b}) (.tok hT h om fun t1 h1 _ _=> .tok hT h om fun t2 _ _ _=> .tok hT om om fun t3 h3 _ _=> .tok hT om om fun t4 _ _ _=> .mk ⟨_,_,_,_,h1,h3,rfl⟩) ?_
 rintro _ ⟨s,t,a,b,g1,g2,rfl⟩
 exact k s t a b g1 g2
end
theorem leaf {P:Prop} (h:P:=by
  (try dsimp only[xr,axn,Sum.elim_inl,Sum.elim_inr,ajk])
  (try intro hw)
  first
  |omega
  | ((try simp only [okB, okBL, ar5, gk, ce, ads, List.length_nil, Int.natCast_add])
     (repeat' apply And.intro)<;>first|assumption|omega|trivial)):P:=h
section
variable {M:Nat} {T:List C5} (hT:ToksN M T) (hM:M<=60000)
include hT hM
theorem a0n {i:Int} (h:0<=i):Ok (fun b:Int=>b≠0->i+1<T.length) (ad5 T i):=by
 unfold ad5 abi
 refine .bd (P:=ajk (fun _=>True) (fun _=>i+1<T.length)) (.it (fun p:Int=>0<=p/\p<=6) (fun p=>(6 - p).toNat) ?_ ⟨by omega,by omega⟩) (fun z hz=>by
  cases z with
  |next _=>exact .mk fun h=>absurd rfl h
  |done r=>exact .mk fun _=>hz)
 rintro p ⟨p1,p2⟩
 unfold ww
 refine .dec (fun hp=>?_) fun _=> .mk trivial
 simp only[List.length_cons,List.length_nil]at hp
 refine .bd (P:=ajk (fun _=>True) (fun z=>i+1<T.length/\∃r,z= .inr (.done r))) (.it (fun q:Int=>0<=q/\q<=4) (fun q=>(4 - q).toNat) ?_ ⟨by omega,by omega⟩) (fun z hz=>by
  cases z with
  |next _=>exact .mk (by simp only[Sum.elim_inl];rw[c5 om om];omega)
  |done r=>obtain⟨h,r,rfl⟩:=hz;exact .mk h)
 rintro q ⟨q1,q2⟩
 unfold wv
 have hrow:∀p:Nat,p<6->∃row,idx [[([124,124]:Bt)],[[38,38]],[[61,61],[33,61]],[[60],[60,61],[62],[62,61]],[[43],[45]],[[42],[47],[37]]] (p:Int)=some row/\row.length<=4:=fun p hp=>by
  match p with
  | 0| 1| 2| 3| 4| 5=>exact⟨_,rfl,by decide⟩
  |n+6=>omega
 obtain⟨row,hr,hl⟩:=hrow p.toNat om
 rw[Int.toNat_of_nonneg p1]at hr
 rw[hr]
 simp only[Option.bind_some]
 refine .dec (fun h4=>?_) fun _=> .mk trivial
 obtain⟨n,rfl⟩:∃n:Nat,q=n:=⟨q.toNat,by omega⟩
 rw[afs om]
 refine .isT (ach hT h _) (fun g=> .tt (.mk ⟨g,_,rfl⟩)) (.ff (.mk ?_))
 simp only[Sum.elim_inl]
 rw[c5 om om]
 omega
end
structure Good (M:Nat) (T:List C5) (R:ax) (m:Nat):Prop where
 expr:∀{i d:Int},0<=i->i<T.length->16 * (T.length - i)+9<=m->Ok (xr M T i) (R.1 T i d)
 level:∀{i d l:Int},0<=i->i<T.length->1<=l->l<=7->16 * (T.length - i)+9<=m+l->Ok (xr M T i) (R.2.1 T i d l)
 unary:∀{i d:Int},0<=i->i<T.length->16 * (T.length - i)+1<=m->Ok (xr M T i) (R.2.2.1 T i d)
 prim:∀{i d:Int},0<=i->i<T.length->16 * (T.length - i)<=m->Ok (xr M T i) (R.2.2.2.1 T i d)
 args:∀{i d:Int},0<=i->i<T.length->16 * (T.length - i)+10<=m->Ok (axn M T i) (R.2.2.2.2 T i d)
theorem go {P:Prop} (h:P:=by
 repeat' first
 |exact leaf
 |simp(disch:=omega) only[c5]
 |refine Ok.tt ?_
 |refine Ok.ff ?_
 |(refine Ok.dec (fun _=>?_) (fun _=>?_)<;>try (exfalso;omega))
 |refine Ok.cond (fun _=>?_) (fun _=>?_)
 |refine Ok.syn ?_
 |refine Ok.fine ?_
 |refine Ok.mk ?_
 |refine Ok.app (by simp only[gk,ce,ads];omega) ?_
 |refine Ok.isT (ach hT om _) (fun _=>?_) ?_
 |refine Ok.isT (al4 hT om) (fun _=>?_) ?_
 |refine Ok.tok hT om om (fun _ _ _ _=>?_)
 |refine Ok.made hT hM om om om om (fun _ _=>?_)
 |refine Ok.end hT hM om om (fun _=>?_)
 |refine Ok.typed hT hM om om (fun _ _ _ _ _ _=>?_)
 |refine Ok.node (hG.expr om om om) (fun _ _ _ _=>?_) (fun _ _ _ _ _ _ _ _=>?_)
 |refine Ok.node (hG.level om om om om om) (fun _ _ _ _=>?_) (fun _ _ _ _ _ _ _ _=>?_)
 |refine Ok.node (hG.unary om om om) (fun _ _ _ _=>?_) (fun _ _ _ _ _ _ _ _=>?_)
 |refine Ok.node (hG.prim om om om) (fun _ _ _ _=>?_) (fun _ _ _ _ _ _ _ _=>?_)
 |refine Ok.list (hG.args om om om) (fun _ _ _ _=>?_) (fun _ _ _ _ _ _ _ _=>?_)
 |refine Ok.node (asz hT hM om om) (fun _ _ _ _=>?_) (fun _ _ _ _ _ _ _ _=>?_)
 |refine Ok.node (aum hT hM om om) (fun _ _ _ _=>?_) (fun _ _ _ _ _ _ _ _=>?_)
 |refine Ok.node (atr hT hM om om) (fun _ _ _ _=>?_) (fun _ _ _ _ _ _ _ _=>?_)
 |refine Ok.node (ayp hT hM om om) (fun _ _ _ _=>?_) (fun _ _ _ _ _ _ _ _=>?_)
 |refine Ok.node (a0m hT hM om om) (fun _ _ _ _=>?_) (fun _ _ _ _ _ _ _ _=>?_)
 |refine Ok.node (hS.block om om om) (fun _ _ _ _=>?_) (fun _ _ _ _ _ _ _ _=>?_)
 |refine Ok.node (hS.stmt om om om) (fun _ _ _ _=>?_) (fun _ _ _ _ _ _ _ _=>?_)
 |refine Ok.node (hS.guard om om om) (fun _ _ _ _=>?_) (fun _ _ _ _ _ _ _ _=>?_)
 |refine Ok.list (ayz hT hM om om) (fun _ _ _ _=>?_) (fun _ _ _ _ _ _ _ _=>?_)
 |refine Ok.isT (aya hT om) (fun _=>?_) ?_):P:=h
section
variable {M:Nat} {T:List C5} (hT:ToksN M T) (hM:M<=60000) {R:ax} {m:Nat} (hG:Good M T R m)
include hT hM hG
theorem apm {i d:Int} (h:0<=i) (hi:i<T.length) (hm:16 * (T.length - i)+9<=m+1):Ok (xr M T i) (pg R T i d):=by
 have:=hT.len
 unfold pg
 exact go
theorem awx {i d l:Int} (h:0<=i) (hi:i<T.length) (h1:1<=l) (h7:l<=7) (hm:16 * (T.length - i)+9<=m+1+l):Ok (xr M T i) (zj R T i d l):=by
 have:=hT.len
 unfold zj abd aba abc
 refine .dec (fun _=>go) fun _=>?_
 rw[c5 om om]
 refine Ok.node (hG.level h hi om om om) (fun _ _ _ _=>go) (fun n j w hw g1 g2 g3 g4=> .dec (fun _=>go) fun _=>?_)
 refine .bd (P:=ajk (fun p=>xr M T i (p.2,p.1,⟨-1,0⟩)) (xr M T i)) (.it (fun s:Int × B5=>i<s.1/\s.1<T.length/\okB M s.2/\(gk s.2:Int)+i<=s.1) (fun s=>(T.length - s.1).toNat) ?_ ⟨g1,g2,g3,g4⟩) (fun z hz=>by cases z<;>exact .mk hz)
 rintro⟨k,x⟩ ⟨q1,q2,q3,q4⟩
 dsimp only at q1 q2 q3 q4
 unfold wo abb
 dsimp only
 refine .bd (a0n hT hM om) fun b hb=> .cond (fun e=>?_) fun _=> .mk fun _=>⟨q1,q2,q3,q4⟩
 have:=hb (by rw[beq_iff_eq]at e;omega)
 exact go
theorem aqr {i d:Int} (h:0<=i) (hi:i<T.length) (hm:16 * (T.length - i)+1<=m+1) (b:Bool) (hb:b=true->i+1<T.length):Ok (xr M T i) (s8 R T i d b):=by
 have:=hT.len
 unfold s8 aa9 wn aa8 aa5 aa7
 refine .cond (fun e=>?_) fun _=> .node (hG.prim h hi om) (fun _ _ _ _=>go) fun n j w hw g1 g2 g3 g4=> .dec (fun _=>go) fun _=>?_
 ·have:=hb e
  exact go
 refine .bd (P:=ajk (fun p=>xr M T i (p.2,p.1,⟨-1,0⟩)) (xr M T i)) (.it (fun s:Int × B5=>i<s.1/\s.1<T.length/\okB M s.2/\(gk s.2:Int)+i<=s.1) (fun s=>(T.length - s.1).toNat) ?_ ⟨g1,g2,g3,g4⟩) (fun z hz=>by cases z<;>exact .mk hz)
 rintro⟨k,x⟩ ⟨q1,q2,q3,q4⟩
 dsimp only at q1 q2 q3 q4
 unfold wl aa6 wm
 dsimp only
 exact go
theorem awo {i d:Int} (h:0<=i) (hi:i<T.length) (hm:16 * (T.length - i)+1<=m+1):Ok (xr M T i) (zi R T i d):=by
 unfold zi
 exact .dec (fun _=>go) fun _=> .isT (ach hT h _) (fun g=> .tt (aqr hT hM hG h hi hm _ fun _=>g)) (.ff (.bd (ach hT h _) fun b hb=>aqr hT hM hG h hi hm b hb))
theorem aze {i d:Int} (h:0<=i) (hi:i<T.length) (hm:16 * (T.length - i)+10<=m+1):Ok (axn M T i) (rj R T i d):=by
 have:=hT.len
 unfold rj
 refine .isT (ach hT h _) (fun _=>go) (.ff (.it (fun s:Int × List B5=>i<=s.1/\s.1<T.length/\okBL M s.2/\(ce s.2:Int)+i<=s.1) (fun s=>(T.length - s.1).toNat) ?_ ⟨by simp,hi,by simp[okBL],by simp[ce]⟩))
 rintro⟨k,x⟩ ⟨q1,q2,q3,q4⟩
 dsimp only at q1 q2 q3 q4
 unfold o7 tw
 dsimp only
 exact go
theorem ayx {i d:Int} (h:0<=i) (hi:i<T.length) (hm:16 * (T.length - i)<=m+1):Ok (xr M T i) (u7 R T i d):=by
 have:=hT.len
 unfold u7 xd xk xj xi xh xg xf xe vm
 refine .tok hT h hi fun t g1 _ g5=> .cond (fun e=>?_) fun _=>go
 have:=g5 (by rw[beq_iff_eq]at e;omega)
 rw[c5 (n:=i+1) om om]
 refine .made hT hM h hi om om fun a b=> .bd (P:=fun x=>okB M x/\gk x=1) (.it (fun s:Int × B5=>0<=s.1/\s.1<=M/\okB M s.2/\gk s.2=1) (fun s=>(M - s.1).toNat) ?_ ⟨by simp,by simp,by simp[okB,okBL],by simp[gk,ce]⟩) fun x hx=> .fine (.mk fun _=>⟨by simp only;omega,by simp only;omega,hx.1,by simp only[hx.2];omega⟩)
 rintro⟨k,x⟩ ⟨q1,q2,q3,q4⟩
 dsimp only at q1 q2 q3 q4
 unfold sh
 dsimp only
 obtain⟨n,rfl⟩:∃n:Nat,i=n:=⟨i.toNat,by omega⟩
 have hn:n<T.length:=by omega
 have ht:=hT.txt n hn
 rw[afs hn]
 simp only[Option.bind_some]
 refine .dec (fun hk=> .bd (acl q1 hk) fun _ _=> .mk ?_) fun _=> .mk ⟨q3,q4⟩
 rw[c5 (n:=k+1) om om]
 cases x
 simp only[okB,gk]at q3 q4 ⊢
 exact⟨⟨by omega,by omega,q3,q4⟩,by omega⟩
end
section
variable {M:Nat} {T:List C5} (hT:ToksN M T) (hM:M<=60000)
include hT hM
theorem good_at :∀(m n:Nat),m<n->Good M T (ga n) m:=by
 intro m
 induction m with
 |zero=>
  intro n hn
  exact⟨fun _ _ _=>by omega,fun _ _ _ _ _=>by omega,fun _ _ _=>by omega,fun _ _ _=>by omega,fun _ _ _=>by omega⟩
 |succ m ih=>
  intro n hn
  obtain⟨n,rfl⟩:∃k,n=k+1:=⟨n - 1,by omega⟩
  have hG:=ih n om
  exact⟨fun h hi hm=>apm hT hM hG h hi hm,fun h hi h1 h7 hm=>awx hT hM hG h hi h1 h7 hm,fun h hi hm=>awo hT hM hG h hi hm,fun h hi hm=>ayx hT hM hG h hi hm,fun h hi hm=>aze hT hM hG h hi hm⟩
theorem asz {i d:Int} (h:0<=i) (hi:i<T.length):Ok (xr M T i) (ml T i d):=
 (good_at hT hM 1000000 1048576 om).expr h hi (by have:=hT.len;omega)
end
end Go.Proofs.YtcndghapmoaidaaGreatDoor
set_option linter.unusedSectionVars false
set_option linter.unusedVariables false
set_option linter.unusedSimpArgs false
set_option maxRecDepth 100000
set_option maxHeartbeats 4000000
namespace Go.Proofs.YtcndghapmoaidaaGreatDoor
open Go Go.Cn
variable [Glob]
section
variable {M:Nat} {T:List C5} (hT:ToksN M T)
include hT
theorem aya {i:Int} (h:0<=i):Ok (fun b=>b=true->i+1<T.length) (adq T i):=by
 unfold adq r6
 exact .isT (al4 hT h) (fun g=> .tt (.mk fun _=>g)) (.ff (.isT (ach hT h _) (fun g=> .tt (.mk fun _=>g)) (.ff (.isT (ach hT h _) (fun g=> .tt (.mk fun _=>g)) (.ff (.bd (ach hT h _) fun _ g=> .mk g))))))
theorem az4 {i:Int} (h:0<=i) (hi:i<T.length) (hM:M<=60000):Ok (fun _=>True) (ad3 T i):=by
 have:=hT.len
 unfold ad3 ni
 rw[c5 om om]
 exact .bd (ach hT h _) fun _ _=> .cond (fun _=> .mk trivial) fun _=> .bd (ach hT h _) fun _ _=> .cond (fun _=> .mk trivial) fun _=> .bd (ach hT h _) fun _ _=> .cond (fun _=> .mk trivial) fun _=> .bd (al4 hT h) fun _ _=> .cond (fun _=> .bd (al4 hT om) fun _ _=> .mk trivial) fun _=> .mk trivial
variable (hM:M<=60000)
include hM
theorem aum {i d:Int} (h:0<=i) (hi:i<T.length):Ok (xr M T i) (rc T i d):=by
 have:=hT.len
 unfold rc tu tr
 exact go
theorem atr {i d:Int} (h:0<=i) (hi:i<T.length):Ok (xr M T i) (ab3 T i d):=by
 have:=hT.len
 unfold ab3 zy
 exact go
theorem ayp {i d:Int} (h:0<=i) (hi:i+1<T.length):Ok (xr M T i) (ab0 T i d):=by
 have:=hT.len
 unfold ab0 zt zs
 exact go
theorem ayz {i:Int} (h:0<=i) (hi:i<T.length):Ok (axn M T i) (ab1 T i):=by
 have:=hT.len
 unfold ab1
 refine .isT (ach hT h _) (fun _=>go) (.ff (.it (fun s:Int × List B5=>i<=s.1/\s.1<T.length/\okBL M s.2/\(ce s.2:Int)+i<=s.1) (fun s=>(T.length - s.1).toNat) ?_ ⟨by simp,hi,by simp[okBL],by simp[ce]⟩))
 rintro⟨k,x⟩ ⟨q1,q2,q3,q4⟩
 dsimp only at q1 q2 q3 q4
 unfold uv uw
 dsimp only
 refine .isT (aya hT om) (fun _=> .ff (.bd (ach hT om _) fun _ _=>go)) (.tt go)
end
structure GoodS (M:Nat) (T:List C5) (R:bx) (m:Nat):Prop where
 block:∀{i d:Int},0<=i->i<T.length->4 * (T.length - i)<=m->Ok (xr M T i) (R.1 T i d)
 stmt:∀{i d:Int},0<=i->i<T.length->4 * (T.length - i)+1<=m->Ok (xr M T i) (R.2.1 T i d)
 guard:∀{i d:Int},0<=i->i+1<T.length->4 * (T.length - i)<=m->Ok (xr M T i) (R.2.2 T i d)
section
variable {M:Nat} {T:List C5} (hT:ToksN M T) (hM:M<=60000) {R:bx} {m:Nat} (hS:GoodS M T R m)
include hT hM hS
theorem auj {i d:Int} (h:0<=i) (hi:i+1<T.length) (hm:4 * (T.length - i)<=m+1):Ok (xr M T i) (u9 R T i d):=by
 have:=hT.len
 unfold u9 xo xn si xm
 exact go
theorem ag8 {i d:Int} (h:0<=i) (hi:i<T.length) (b:Bool) (hb:b=true->i+1<T.length):Ok (xr M T i) (mb R T i d b):=by
 have:=hT.len
 unfold mb tq o6 tp
 refine .cond (fun e=>?_) fun _=>go
 have:=hb e
 exact go
theorem ag7 {i d:Int} (h:0<=i) (hi:i<T.length) (hm:4 * (T.length - i)+1<=m+1) (b:Bool) (hb:b=true->i+1<T.length):Ok (xr M T i) (ma R T i d b):=by
 have:=hT.len
 unfold ma
 refine .cond (fun e=>?_) fun _=> .isT (ach hT h _) (fun g=> .tt (ag8 hT hM hS h hi _ fun _=>g)) (.ff (.bd (ach hT h _) fun b hb=>ag8 hT hM hS h hi b hb))
 have:=hb e
 exact go
theorem apt {i d:Int} (h:0<=i) (hi:i<T.length) (hm:4 * (T.length - i)+1<=m+1):Ok (xr M T i) (ri R T i d):=by
 have:=hT.len
 unfold ri
 exact .dec (fun _=>go) fun _=> .isT (ach hT h _) (fun _=> .tt go) (.ff (.isT (ach hT h _) (fun g=> .tt (ag7 hT hM hS h hi hm _ fun _=>g)) (.ff (.bd (ach hT h _) fun b hb=>ag7 hT hM hS h hi hm b hb))))
theorem aw6 {i d:Int} (h:0<=i) (hi:i<T.length) (hm:4 * (T.length - i)<=m+1):Ok (xr M T i) (zk R T i d):=by
 have:=hT.len
 unfold zk abg
 refine .isT (ach hT h _) (fun g=> .ff ?_) (.tt go)
 rw[c5 om om]
 refine .bd (P:=ajk (fun p:Int × List B5=>p.1+1<T.length/\i<p.1/\okBL M p.2/\(ce p.2:Int)+i+1<=p.1) (xr M T i)) (.it (fun s:Int × List B5=>i<s.1/\s.1<T.length/\okBL M s.2/\(ce s.2:Int)+i+1<=s.1) (fun s=>(T.length - s.1).toNat) ?_ ⟨by simp only;omega,g,by simp[okBL],by simp[ce]⟩) (fun z hz=>?_)
 ·rintro⟨k,x⟩ ⟨q1,q2,q3,q4⟩
  dsimp only at q1 q2 q3 q4
  unfold wu ta abh
  dsimp only
  refine .isT (ach hT om _) (fun _=> .ff (.mk ⟨by assumption,q1,q3,q4⟩)) (.tt (.bd (az4 hT om q2 hM) fun _ _=> .cond (fun _=>?_) fun _=>go))
  refine .node (atr hT hM om om) (fun _ _ _ _=>go) fun _ _ _ _ _ _ _ _=>go
 ·cases z with
  |done r=>exact .mk hz
  |next p=>
   obtain⟨g1,g2,g3,g4⟩:=hz
   dsimp only
   exact go
end
section
variable {M:Nat} {T:List C5} (hT:ToksN M T) (hM:M<=60000)
include hT hM
theorem a0b :∀(m n:Nat),m<n->GoodS M T (mc n) m:=by
 intro m
 induction m with
 |zero=>
  intro n hn
  exact⟨fun _ _ _=>by omega,fun _ _ _=>by omega,fun _ _ _=>by omega⟩
 |succ m ih=>
  intro n hn
  obtain⟨n,rfl⟩:∃k,n=k+1:=⟨n - 1,by omega⟩
  have hS:=ih n om
  exact⟨fun h hi hm=>aw6 hT hM hS h hi hm,fun h hi hm=>apt hT hM hS h hi hm,fun h hi hm=>auj hT hM hS h hi hm⟩
theorem a0m {i d:Int} (h:0<=i) (hi:i<T.length):Ok (xr M T i) (aka T i d):=
 (a0b hT hM 1000000 1048576 om).block h hi (by have:=hT.len;omega)
theorem am3 {i a:Int} (b:Bool) (h:0<=i) (hi:i<=a) (ha:a<T.length):Ok (xr M T i) (rb T i b a):=by
 have:=hT.len
 unfold rb ux uy zx zw zu
 exact go
theorem ay3 {i:Int} (h:0<=i) (hi:i<T.length):Ok (xr M T i) (ab2 T i):=by
 have:=hT.len
 unfold ab2
 rw[c5 om om]
 exact .isT (ach hT h _) (fun g=> .tt (am3 hT hM _ h om g)) (.ff (am3 hT hM _ h om hi))
end
end Go.Proofs.YtcndghapmoaidaaGreatDoor
set_option linter.unusedSectionVars false
set_option linter.unusedVariables false
set_option linter.unusedSimpArgs false
set_option maxRecDepth 100000
set_option maxHeartbeats 4000000
namespace Go.Proofs.YtcndghapmoaidaaGreatDoor
open Go Go.Cn
variable [Glob]
def CP (n:B5):Prop:=n.Kind=1/\n.Text≠[]/\oo n.Text=some false
abbrev ate (M:Nat) (T:List C5) (i:Int):B5 × Int × C6->Prop:=fun r=>r.2.2.Place<0->(i<r.2.1/\r.2.1<T.length/\okB M r.1/\(gk r.1:Int)+i<=r.2.1)/\CP r.1
section
variable {M:Nat} {T:List C5} (hT:ToksN M T) (hM:M<=60000)
include hT hM
theorem avu {i:Nat} {s j:Int} {l:List B5} (hi:i+1<T.length) (hk:T[i+1].Kind=1) (hs:s<T.length) (g1:i<j) (g2:j+1<T.length) (hl:okBL M l) (hn:(ce l:Int)+i+1<=j):Ok (ate M T i) (ws T i s j l):=by
 have:=hT.len
 unfold ws wt abf
 rw[c5 (n:=j+1) om om,c5 (n:=(i:Int)+1) om om]
 refine .made hT hM om om om om fun a b=>?_
 have e:idx T ((i:Int)+1)=some T[i+1]:=afs hi
 have h1:=hT.txt _ hi
 have h2:=hT.kept _ hi hk
 rw[e]
 simp only[Option.bind_some]
 refine .dec (fun _=> .tok hT om hs fun t _ _ _=> .tok hT om hs fun _ _ _ _=> .fine (.mk fun _=>⟨leaf,rfl,h2⟩)) fun _=> .fine (.mk fun _=>⟨leaf,rfl,h2⟩)
theorem aov {i:Nat} {s a:Int} (hi:i+1<T.length) (hk:T[i+1].Kind=1) (hs:s<T.length) (ha:i<a):Ok (ate M T i) (s9 T i a s):=by
 have:=hT.len
 unfold s9
 refine .isT (ach hT om _) (fun g=> .ff ?_) (.tt (.syn (.mk fun h=>absurd h (by simp only;omega))))
 rw[c5 om om]
 refine .bd (P:=ajk (fun p:Int × List B5=>p.1+1<T.length/\i<p.1/\okBL M p.2/\(ce p.2:Int)+i+1<=p.1) (ate M T i)) (.it (fun s:Int × List B5=>i<s.1/\s.1<T.length/\okBL M s.2/\(ce s.2:Int)+i+1<=s.1) (fun s=>(T.length - s.1).toNat) ?_ ⟨by simp only;omega,g,by simp[okBL],by simp[ce];omega⟩) (fun z hz=>?_)
 ·rintro⟨k,x⟩ ⟨q1,q2,q3,q4⟩
  dsimp only at q1 q2 q3 q4
  unfold wr abe
  dsimp only
  refine .isT (ach hT om _) (fun _=> .ff (.mk ⟨by assumption,q1,q3,q4⟩)) (.tt (.node (ay3 hT hM om q2) (fun _ _ w hw=> .dec (fun _=> .mk fun h=>?_) fun _=>go) fun _ _ _ _ _ _ _ _=> .dec (fun h=>absurd h (by simp only;omega)) fun _=>go))
  simp only at h
  omega
 ·cases z with
  |done r=>exact .mk hz
  |next p=>
   obtain⟨g1,g2,g3,g4⟩:=hz
   exact avu hT hM hi hk hs g2 g1 g3 g4
theorem ay1 {n:Nat} (h:n<T.length):Ok (fun b=>b=true->n+1<T.length/\T[n].Kind=1) (j0 T n):=by
 obtain⟨b,hb,h2⟩:=al4 hT (show(0:Int)<=n by omega)
 refine⟨b,hb,fun e=>⟨by have:=h2 e;omega,?_⟩⟩
 unfold j0 vk at hb
 rw[if_pos (by simpa using h),afs h]at hb
 simp only[Option.bind_some,Option.some.injEq]at hb
 subst hb
 simpa using e
theorem a0j {i:Nat} (hi:i+1<T.length):Ok (ate M T i) (ad4 T i):=by
 have:=hT.len
 have bad:∀p:Int,0<=p->Ok (ate M T i) ((c6 p).bind fun w=>some ((B5.mk 0 [] [] 0 0 0 0 0 []),0,w)):=fun p hp=> .syn (.mk fun h=>by simp only at h;omega)
 unfold ad4
 have e1:w64 ((i:Int)+1)=((i+1:Nat):Int):=by rw[c5 om om];rfl
 rw[e1,c5 (n:=(i:Int)+2) om om,c5 (n:=(i:Int)+2+1) om om,c5 (n:=(i:Int)+2+2) om om]
 exact .isT (ach hT om _) (fun _=> .ff (.isT (ay1 hT hM hi) (fun g=> .ff (.isT (ach hT om _) (fun g2=> .tt (.isT (al4 hT om) (fun _=> .ff (aov hT hM hi g.2 om om)) (.tt (bad _ om)))) (.ff (aov hT hM hi g.2 om om)))) (.tt (bad _ om)))) (.tt (bad _ om))
theorem aww {w:C6} (hw:w.Place≥0):Ok (fun _=>True) (y7 T w):=by
 have:=hT.len
 have:=hT.pos
 unfold y7 xl
 rw[c5 om om]
 exact .tok hT (by split<;>omega) (by split<;>omega) fun _ _ _ _=> .mk trivial
end
theorem akt {x:B5}:∀{l:List B5},x∈l->gk x<=ce l
 |n::l,h=>by
  simp only[ce]
  rcases List.mem_cons.1 h with rfl|h
  ·omega
  ·have:=akt h;omega
theorem a0i :∀(k:Nat) (x:B5),gk x<=k->k<=1048576->Ok (fun _=>True) (o8 k x):=by
 intro k
 induction k with
 |zero=>intro x h;have:=ow x;omega
 |succ k ih=>
  intro x hx hk
  show Ok _ (zl (o8 k) x)
  have hl:=ko x.Kids
  have hs:=kc x
  unfold zl abj
  refine .bd (P:=fun _=>True) (.it (fun s:Int × Int=>0<=s.2/\s.2<=x.Kids.length) (fun s=>(x.Kids.length - s.2).toNat) ?_ ⟨by simp,by simp⟩) fun _ _=> .mk trivial
  rintro⟨v,i⟩ ⟨h1,h2⟩
  dsimp only at h1 h2
  unfold wx
  refine .dec (fun h=>?_) fun _=> .mk trivial
  obtain⟨i,rfl⟩:∃n:Nat,i=n:=⟨i.toNat,by omega⟩
  have hi:i<x.Kids.length:=by simpa using h
  have:=akt (List.getElem_mem hi)
  dsimp only
  rw[afs hi,Option.bind_some]
  refine .bd (ih x.Kids[i] om om) fun _ _=> .mk ?_
  simp only[Sum.elim_inl]
  rw[c5 om om]
  omega
def apr (M:Nat) (l:List B5):Prop:=okBL M l/\ce l<=M/\∀c∈l,CP c
theorem File_ok {x:Bt} {M:Nat} (hM:x.length<=M) (hx:M<=60000):Ok (fun r:List B5 × B3=>r.2.Code=0->apr M r.1) (adr x):=by
 unfold adr
 refine .bd (Lex_ok om) ?_
 rintro⟨T,p,e⟩ hT
 refine .cond (fun h=> .mk fun h2=>by simp only at h2;simp[h2]at h) fun h=>?_
 have hT:=hT (by simpa using h)
 have hT:ToksN M T:=⟨by have:=hT.len;simp only at this;omega,hT.pos,hT.last,fun i h=>Nat.le_trans (hT.txt i h) hM,hT.kept⟩
 have hlen:=hT.len
 have hpos:=hT.pos
 refine .bd (P:=ajk (apr M) (fun r:List B5 × B3=>r.2.Code=0->apr M r.1)) (.it (fun s:Int × List B5=>0<=s.1/\s.1<T.length/\okBL M s.2/\(ce s.2:Int)<=s.1/\∀c∈s.2,CP c) (fun s=>(T.length - s.1).toNat) ?_ ⟨by simp,by simp only;omega,by simp[okBL],by simp[ce],fun _ h=>by cases h⟩) fun z hz=>?_
 ·rintro⟨k,l⟩ ⟨q1,q2,q3,q4,q5⟩
  dsimp only at q1 q2 q3 q4 q5
  unfold y8
  refine .tok hT q1 q2 fun t _ _ h5=> .cond (fun hk=>?_) fun _=> .mk ⟨q3,by simp only;omega,q5⟩
  have:=h5 (by simpa using hk)
  obtain⟨k,rfl⟩:∃n:Nat,k=n:=⟨k.toNat,by omega⟩
  refine .bd (a0j hT hx (i:=k) om) ?_
  rintro⟨n,j,w⟩ g
  refine .dec (fun hw=> .bd (aww hT hx hw) fun m _=>?_) fun hw=>?_
  ·exact .mk fun _=>⟨by simp[okBL],by simp[ce],fun _ h=>by cases h⟩
  ·obtain⟨⟨g1,g2,g3,g4⟩,g5⟩:=g (by simp only;omega)
   dsimp only at g1 g2 g3 g4 g5
   refine .app (by simp only[ce];omega) (.mk ⟨⟨by simp only;omega,g2,ar5.2 ⟨q3,g3,trivial⟩,by simp only[ads,ce];omega,fun c hc=>?_⟩,by simp only;omega⟩)
   rcases List.mem_append.1 hc with hc|hc
   ·exact q5 c hc
   ·obtain rfl:c=n:=by simpa using hc
    exact g5
 ·cases z with
  |done r=>exact .mk hz
  |next l=>
   have hz:apr M l:=hz
   have hl:=ko l
   have hm:=hz.2.1
   dsimp only
   unfold adf adg
   refine .bd (P:=ajk (fun _=>True) (fun r:List B5 × B3=>r.2.Code≠0)) (.it (fun i:Int=>0<=i/\i<=l.length) (fun i=>(l.length - i).toNat) ?_ ⟨by simp,by simp⟩) fun z h2=>?_
   ·rintro i ⟨h1,h2⟩
    unfold y9 adh
    refine .dec (fun h=>?_) fun _=> .mk trivial
    obtain⟨i,rfl⟩:∃n:Nat,i=n:=⟨i.toNat,by omega⟩
    have hi:i<l.length:=by omega
    have:=akt (List.getElem_mem hi)
    rw[afs hi,Option.bind_some]
    refine .bd (a0i 1048576 l[i] om (Nat.le_refl _)) fun d _=> .dec (fun _=> .mk (by simp[ajk])) fun _=> .mk ?_
    simp only[Sum.elim_inl]
    rw[c5 om om]
    omega
   ·cases z with
    |next _=>exact .mk fun _=>hz
    |done r=>exact .mk fun h=>absurd h h2
end Go.Proofs.YtcndghapmoaidaaGreatDoor
set_option linter.unusedSectionVars false
set_option linter.unusedVariables false
set_option linter.unusedSimpArgs false
set_option maxRecDepth 100000
set_option maxHeartbeats 4000000
namespace Go.Proofs.YtcndghapmoaidaaGreatDoor
open Go Go.Cn
variable [Glob]
theorem cat_ok {a b:Bt} (h:a.length+b.length<=9000000000):Ok (fun s=>s=a++b) (cat a b):=by
 unfold cat
 rw[if_pos om]
 exact .mk rfl
theorem app_ok {α:Type} {n:Nat} {l m:List α} (h:(l.length+m.length) * n<=140737488355328) (h2:l.length+m.length<=140737488355328):Ok (fun s=>s=l++m) (app n l m):=⟨_,oj h h2,rfl⟩
theorem Ok.row {α σ ω:Type} {l:List α} {f:Int × σ->Option ((Int × σ) ⊕ ω)} {Q:ω->Prop} (I:Nat->σ->Prop) (hl:l.length<=1000000000)
  (h1:∀(i:Nat) (h:i<l.length) s,I i s->Ok (Sum.elim (fun p=>p.1=((i+1:Nat):Int)/\I (i+1) p.2) Q) (f ((i:Int),s))) (h2:∀(i:Nat) s,¬(i:Int)<l.length->I l.length s->Ok (Sum.elim (fun _=>False) Q) (f ((i:Int),s))) {s:σ} (hs:I 0 s):Ok Q (iter f (0,s)):=by
 refine .it (fun p:Int × σ=>∃i:Nat,p.1=i/\i<=l.length/\I i p.2) (fun p=>l.length - p.1.toNat) ?_ ⟨0,rfl,Nat.zero_le _,hs⟩
 rintro⟨_,s⟩ ⟨i,rfl,hi,hI⟩
 dsimp only at hI
 by_cases h:i<l.length
 ·refine(h1 i h s hI).weak fun z hz=>?_
  cases z with
  |inr w=>exact hz
  |inl p=>
   obtain⟨a,s'⟩:=p
   obtain⟨rfl,hp⟩:=hz
   simp only[Sum.elim_inl]
   exact⟨⟨i+1,rfl,h,hp⟩,by rw[Int.toNat_natCast,Int.toNat_natCast];omega⟩
 ·obtain rfl:i=l.length:=by omega
  refine(h2 _ s om hI).weak fun z hz=>?_
  cases z with
  |inr w=>exact hz
  |inl p=>exact absurd hz id
theorem aae {n:Nat} (h:n<=9000000000000):w64 ((n:Int)+1)=((n+1:Nat):Int):=by rw[c5 om om];rfl
theorem len_lt {α:Type} {l:List α} {i:Nat} (h:i<l.length):decide ((i:Int)<(l.length:Int))=true:=by simpa using h
theorem aau {M:Nat} {x:B5}:∀{l:List B5},okBL M l->x∈l->okB M x
 |n::l,h,hx=>by
  simp only[okBL]at h
  rcases List.mem_cons.1 hx with rfl|hx
  ·exact h.1
  ·exact aau h.2 hx
theorem aex (M:Nat) (x:B5):okB M x=((x.Text.length<=M/\x.Type_.length<=M)/\okBL M x.Kids):=by cases x;simp[okB]
end Go.Proofs.YtcndghapmoaidaaGreatDoor
set_option linter.unusedSectionVars false
set_option linter.unusedVariables false
set_option linter.unusedSimpArgs false
set_option maxRecDepth 100000
set_option maxHeartbeats 4000000
namespace Go.Proofs.YtcndghapmoaidaaGreatDoor
open Go Go.Cn
variable [Glob]
def TabP (n:Int) (l:List A9):Prop:=(l.length:Int)<=n/\∀e∈l,e.Kind=1->e.Id≠[]/\oo e.Id=some false
theorem TabP.app {N:Int} {l m:List A9} {k:Nat} (h:TabP N l) (h1:m.length<=k) (h2:∀e∈m,e.Kind=1->e.Id≠[]/\oo e.Id=some false):TabP (N+k) (l++m):=by
 refine⟨?_,fun e he=>?_⟩
 ·have:=h.1
  rw[List.length_append]
  omega
 ·rcases List.mem_append.1 he with he|he
  ·exact h.2 e he
  ·exact h2 e he
end Go.Proofs.YtcndghapmoaidaaGreatDoor
set_option linter.unusedSectionVars false
set_option linter.unusedVariables false
namespace Go.Proofs.YtcndghapmoaidaaGreatDoor
open Go Go.Cn
structure Swo {α:Type} (lt:α->α->Bool):Prop where
 asym:∀{x y},lt x y=true->lt y x=false
 ntr:∀{x y z},lt x y=false->lt y z=false->lt x z=false
section
variable {α:Type} {lt:α->α->Bool}
theorem Swo.irr (h:Swo lt) (x:α):lt x x=false:=by
 cases hx:lt x x with
 |false=>rfl
 |true=>rw[h.asym hx]at hx;cases hx
theorem Swo.lt_le (h:Swo lt) {x y z:α} (h1:lt x y=true) (h2:lt z y=false):lt x z=true:=by
 cases hx:lt x z with
 |true=>rfl
 |false=>rw[h.ntr hx h2]at h1;cases h1
theorem Swo.le_lt (h:Swo lt) {x y z:α} (h1:lt y x=false) (h2:lt y z=true):lt x z=true:=by
 cases hx:lt x z with
 |true=>rfl
 |false=>rw[h.ntr h1 hx]at h2;cases h2
def eqv (lt:α->α->Bool) (k x:α):Bool:= !lt k x&& !lt x k
abbrev Srt (lt:α->α->Bool) (L:List α):Prop:=L.Pairwise fun x y=>lt y x=false
structure D4 (lt:α->α->Bool) (X Z:List α):Prop where
 perm:X.Perm Z
 cls:∀k,X.filter (eqv lt k)=Z.filter (eqv lt k)
theorem D4.refl (X:List α):D4 lt X X:=⟨.refl _,fun _=>rfl⟩
theorem D4.trans {X Y Z:List α} (h:D4 lt X Y) (k:D4 lt Y Z):D4 lt X Z:=⟨h.perm.trans k.perm,fun x=>(h.cls x).trans (k.cls x)⟩
theorem D4.symm {X Y:List α} (h:D4 lt X Y):D4 lt Y X:=⟨h.perm.symm,fun x=>(h.cls x).symm⟩
theorem D4.app {X Y X' Y':List α} (h:D4 lt X X') (k:D4 lt Y Y'):D4 lt (X++Y) (X'++Y'):=⟨h.perm.append k.perm,fun x=>by rw[List.filter_append,List.filter_append,h.cls,k.cls]⟩
theorem D4.len {X Z:List α} (h:D4 lt X Z):Z.length=X.length:=h.perm.length_eq.symm
theorem D4.turn (ho:Swo lt) {X Y:List α} (h:∀x∈X,∀y∈Y,lt y x=true):D4 lt (X++Y) (Y++X):=by
  refine⟨List.perm_append_comm,fun k=>?_⟩
  rw[List.filter_append,List.filter_append]
  by_cases hx:X.filter (eqv lt k)=[]
  · rw[hx,List.append_nil];rfl
  · by_cases hy:Y.filter (eqv lt k)=[]
    · rw[hy,List.append_nil];rfl
    · exfalso
      obtain⟨x,hx⟩:=List.exists_mem_of_ne_nil _ hx
      obtain⟨y,hy⟩:=List.exists_mem_of_ne_nil _ hy
      rw[List.mem_filter]at hx hy
      unfold eqv at hx hy
      have h1:=h x hx.1 y hy.1
      simp only[Bool.and_eq_true,Bool.not_eq_true']at hx hy
      rw[ho.ntr hy.2.2 hx.2.1]at h1
      cases h1
theorem afq {X Y:List α}:Srt lt (X++Y)↔Srt lt X/\Srt lt Y/\∀x∈X,∀y∈Y,lt y x=false:=List.pairwise_append
theorem a0e (ho:Swo lt) (x:α):eqv lt x x=true:=by unfold eqv;rw[ho.irr];rfl
theorem D4.one (ho:Swo lt):∀{X Z:List α},Srt lt X->Srt lt Z->D4 lt X Z->X=Z
 | [],Z,_,_,h=>by have:=h.len;cases Z with|nil=>rfl|cons _ _=>simp at this
 |a::X,[],_,_,h=>by have:=h.len;simp at this
 |a::X,b::Z,h1,h2,h=>by
  have hb:b∈a::X:=h.perm.mem_iff.2 List.mem_cons_self
  have ha:a∈b::Z:=h.perm.mem_iff.1 List.mem_cons_self
  have hab:lt b a=false:=by
   rcases List.mem_cons.1 hb with rfl|hb
   ·exact ho.irr _
   ·exact(List.pairwise_cons.1 h1).1 _ hb
  have hba:lt a b=false:=by
   rcases List.mem_cons.1 ha with rfl|ha
   ·exact ho.irr _
   ·exact(List.pairwise_cons.1 h2).1 _ ha
  have e:=h.cls a
  have e2:eqv lt a b=true:=by unfold eqv;rw[hab,hba];rfl
  rw[List.filter_cons_of_pos (a0e ho a),List.filter_cons_of_pos e2]at e
  obtain rfl:a=b:=(List.cons.inj e).1
  congr 1
  refine D4.one ho (List.pairwise_cons.1 h1).2 (List.pairwise_cons.1 h2).2 ⟨(List.perm_cons a).1 h.perm,fun k=>?_⟩
  have:=h.cls k
  by_cases hk:eqv lt k a=true
  ·rw[List.filter_cons_of_pos hk,List.filter_cons_of_pos hk]at this
   exact(List.cons.inj this).2
  ·rwa [List.filter_cons_of_neg hk,List.filter_cons_of_neg hk]at this
theorem arj (ho:Swo lt) {A B:List α} {x:α} (h:Srt lt (A++B)) (h1:∀a∈A.getLast?,lt x a=false) (h2:∀b∈B,lt x b=true):Srt lt (A++x::B):=by
 obtain⟨hA,hB,hAB⟩:=afq.1 h
 refine afq.2 ⟨hA,List.pairwise_cons.2 ⟨fun b hb=>ho.asym (h2 b hb),hB⟩,fun a ha y hy=>?_⟩
 rcases List.mem_cons.1 hy with rfl|hy
 ·rcases List.eq_nil_or_concat A with rfl|⟨A',c,rfl⟩
  ·cases ha
  ·have hc:=h1 c sm
   rw[List.concat_eq_append]at ha hA
   rcases List.mem_append.1 ha with ha|ha
   ·exact ho.ntr hc ((afq.1 hA).2.2 a ha c sm)
   ·rw[List.mem_singleton.1 ha];exact hc
 ·exact hAB a ha y hy
theorem D4.put (ho:Swo lt) {A B:List α} {x:α} (h2:∀b∈B,lt x b=true):D4 lt (A++B++[x]) (A++x::B):=by
 rw[List.append_assoc]
 refine(D4.refl A).app (D4.turn ho fun b hb y hy=>?_)
 rw[List.mem_singleton.1 hy]
 exact h2 b hb
inductive Blk (lt:α->α->Bool) (n:Nat):List α->Prop
 |short {L:List α}:L.length<=n->Srt lt L->Blk lt n L
 |more {X L:List α}:X.length=n->Srt lt X->Blk lt n L->Blk lt n (X++L)
theorem Blk.srt {n:Nat} {L:List α} (h:Blk lt n L) (hl:L.length<=n):Srt lt L:=by
 cases h with
 |short _ h=>exact h
 | @more X L hx hs _=>
  rw[List.length_append]at hl
  obtain rfl:L=[]:=List.eq_nil_of_length_eq_zero om
  rwa [List.append_nil]
theorem Blk.cut {n:Nat} {L:List α} (h:Blk lt n L) (hl:n<=L.length):∃X R,L=X++R/\X.length=n/\Srt lt X/\Blk lt n R:=by
 cases h with
 |short h hs=>exact⟨L,[],by simp,by omega,hs,.short sm .nil⟩
 | @more X L hx hs hb=>exact⟨X,L,rfl,hx,hs,hb⟩
inductive Full (lt:α->α->Bool) (n:Nat):List α->Prop
 |nil:Full lt n []
 |more {P X:List α}:Full lt n P->X.length=n->Srt lt X->Full lt n (P++X)
theorem Full.blk {n:Nat} {P R:List α} (h:Full lt n P) (hR:Blk lt n R):Blk lt n (P++R):=by
 induction h generalizing R with
 |nil=>exact hR
 |more _ h1 h2 ih=>
  rw[List.append_assoc]
  exact ih (.more h1 h2 hR)
end
end Go.Proofs.YtcndghapmoaidaaGreatDoor
set_option linter.unusedSectionVars false
set_option linter.unusedVariables false
set_option linter.unusedSimpArgs false
set_option maxRecDepth 100000
set_option maxHeartbeats 4000000
namespace Go.Proofs.YtcndghapmoaidaaGreatDoor
open Go Go.Cn
variable [Glob]
section
variable {α:Type} {A B:List α} {u x y:α} {i:Int}
theorem ah6 (h:i=A.length):idx (A++x::B) i=some x:=by
 subst h
 exact ei sm
theorem aro (h:i=A.length+1):idx (A++u::x::B) i=some x:=by
 rw[List.append_cons]
 exact ah6 (by simp[h])
theorem anv (h:i=A.length):List.set (A++x::B) (Int.toNat i) y=A++y::B:=by
 subst h
 simp
theorem auy (h:i=A.length+1):List.set (A++u::x::B) (Int.toNat i) y=A++u::y::B:=by
 rw[List.append_cons,anv (by simp[h]),← List.append_cons]
end
section
variable {lt:B7->B7->Bool} {c:B7->B7->Option Int} (ho:Swo lt) (hc:∀x y,∃n:Int,c x y=some n/\decide (n<0)=lt x y)
include ho hc
theorem awc :∀(n:Nat) (P S1 S2 Q:List B7) (x:B7),S1.length=n->P.length+n+S2.length+Q.length<=1000000000->Srt lt (S1++S2)->(∀b∈S2,lt x b=true)->
  ∃S,iter (fun s=>cq P.length c s.1 s.2) (((P.length+n:Nat):Int),P++(S1++x::S2)++Q)=some (P++S++Q)/\Srt lt S/\D4 lt (S1++S2++[x]) S
 | 0,P,S1,S2,Q,x,hn,hl,hs,h2=>by
  obtain rfl:=List.eq_nil_of_length_eq_zero hn
  refine⟨x::S2,dn ?_,arj ho (A:=[]) hs (fun _ h=>by cases h) h2,D4.put ho (A:=[]) h2⟩
  unfold cq dt
  rw[if_neg sm,if_neg sm]
  rfl
 |n+1,P,S1,S2,Q,x,hn,hl,hs,h2=>by
  obtain⟨S1,u,rfl⟩:∃S u,S1=S++[u]:=by
   rcases List.eq_nil_or_concat S1 with rfl|⟨S,u,rfl⟩
   ·simp at hn
   ·exact⟨S,u,List.concat_eq_append ..⟩
  have hn:S1.length=n:=by simpa using hn
  obtain⟨r,hr,hr2⟩:=hc x u
  have ed:P++(S1++[u]++x::S2)++Q=(P++S1)++u::x::(S2++Q):=by simp
  have e:cq P.length c ((P.length+(n+1):Nat):Int) ((P++S1)++u::x::(S2++Q))=if lt x u=true then some (.inl (((P.length+n:Nat):Int),(P++S1)++x::u::(S2++Q)))else some (.inr ((P++S1)++u::x::(S2++Q))):=by
   unfold cq dt
   rw[if_pos so,c5 om om,aro so,Option.bind_some,ah6 so,Option.bind_some,hr,Option.bind_some,hr2]
   rw[Option.bind_some,Option.bind_some,Option.bind_some,auy so,ah6 so,Option.bind_some,anv so]
   split
   ·congr 3
    omega
   ·rfl
  rw[ed]
  by_cases hx:lt x u=true
  ·rw[if_pos hx]at e
   rw[gv (s':=(((P.length+n:Nat):Int),(P++S1)++x::u::(S2++Q))) e]
   obtain⟨S,g1,g2,g3⟩:=awc n P S1 (u::S2) Q x hn so (by simpa using hs) (fun b hb=>by
    rcases List.mem_cons.1 hb with rfl|hb
    ·exact hx
    ·exact h2 b hb)
   refine⟨S,?_,g2,?_⟩
   ·rw[← g1];congr 1;simp
   ·have:S1++[u]++S2++[x]=S1++u::S2++[x]:=by simp
    rw[this]
    exact g3
  ·rw[if_neg hx]at e
   refine⟨S1++[u]++x::S2,?_,arj ho hs (fun a ha=>?_) h2,D4.put ho h2⟩
   ·rw[dn e];simp
   ·obtain rfl:u=a:=by simpa using ha
    exact Bool.eq_false_iff.2 hx
theorem awb :∀(R S P Q:List B7),P.length+S.length+R.length+Q.length<=1000000000->Srt lt S->
  ∃Z,iter (fun s=>cg ((P.length+S.length+R.length:Nat):Int) P.length c s.1 s.2) (((P.length+S.length:Nat):Int),P++(S++R)++Q)=some (P++Z++Q)/\Srt lt Z/\D4 lt (S++R) Z
 | [],S,P,Q,hl,hs=>by
  refine⟨S,dn ?_,hs,by rw[List.append_nil];exact .refl _⟩
  unfold cg
  rw[if_neg sm,List.append_nil]
 |x::R,S,P,Q,hl,hs=>by
  simp only[List.length_cons]at hl
  obtain⟨S',g1,g2,g3⟩:=awc ho hc S.length P S [] (R++Q) x rfl so (by simpa using hs) (fun _ h=>by cases h)
  have hS:=g3.len
  simp only[List.append_nil,List.length_append,List.length_cons,List.length_nil]at hS
  obtain⟨Z,k1,k2,k3⟩:=awb R S' P Q om g2
  refine⟨Z,?_,k2,?_⟩
  ·have e:cg ((P.length+S.length+(R.length+1):Nat):Int) P.length c ((P.length+S.length:Nat):Int) (P++(S++x::R)++Q)=some (.inl (((P.length+S'.length:Nat):Int),P++(S'++R)++Q)):=by
    unfold cg gh
    have e1:P++(S++x::R)++Q=P++(S++[x])++(R++Q):=by simp
    rw[if_pos so,e1,g1,Option.bind_some,c5 om om]
    congr 3
    ·omega
    ·simp
   rw[List.length_cons,gv (s':=(((P.length+S'.length:Nat):Int),P++(S'++R)++Q)) e,← k1]
   congr 3
   funext s
   congr 1
   omega
  ·have e1:S++x::R=S++[]++[x]++R:=by simp
   rw[e1]
   exact(g3.app (.refl R)).trans k3
theorem am7 {P X Q:List B7} {a b:Int} (ha:a=P.length) (hb:b=P.length+X.length) (hl:P.length+X.length+Q.length<=1000000000):
  ∃Z,eh a b c (P++X++Q)=some (P++Z++Q)/\Srt lt Z/\D4 lt X Z:=by
 subst ha hb
 unfold eh gi
 rw[c5 om om]
 cases X with
 |nil=>
  refine⟨[],?_,.nil,.refl _⟩
  rw[dn (o:=P++[]++Q) (by
   unfold cg
   rw[if_neg so])]
  rfl
 |cons x R=>
  simp only[List.length_cons]at hl
  obtain⟨Z,k1,k2,k3⟩:=awb ho hc R [x] P Q so sm
  refine⟨Z,?_,k2,k3⟩
  have e1:((P.length:Int)+((x::R).length:Nat))=((P.length+[x].length+R.length:Nat):Int):=by simp;omega
  have e2:((P.length:Int)+1)=((P.length+[x].length:Nat):Int):=by simp
  rw[e1,e2]
  exact(congrArg (fun z=>z.bind some) k1).trans rfl
end
theorem atf {c:B7->B7->Option Int}:∀(U V P M Q:List B7) (n i a b:Nat),U.length=V.length->n=i+U.length->a+i=P.length->b+i=P.length+U.length+M.length->P.length+U.length+M.length+V.length+Q.length<=1000000000->
  iter (fun s=>dg n b a s.1 s.2) ((i:Int),P++U++M++V++Q)=some (P++V++M++U++Q)
 | [],[],P,M,Q,n,i,a,b,h,hn,ha,hb,hl=>dn (by
  unfold dg
  simp only[List.length_nil]at hn
  rw[if_neg so])
 | [],_::_,P,M,Q,n,i,a,b,h,hn,ha,hb,hl=>by simp at h
 |_::_,[],P,M,Q,n,i,a,b,h,hn,ha,hb,hl=>by simp at h
 |u::U,v::V,P,M,Q,n,i,a,b,h,hn,ha,hb,hl=>by
  simp only[List.length_cons]at h hn hb hl
  have e:dg n b a (i:Int) (P++u::U++M++v::V++Q)=some (.inl (((i+1:Nat):Int),(P++[v])++U++(M++[u])++V++Q)):=by
   have e1:P++u::U++M++v::V++Q=P++u::(U++M++v::V++Q):=by simp
   have e2:∀w,P++w::(U++M++v::V++Q)=(P++w::(U++M))++v::(V++Q):=fun w=>by simp
   unfold dg
   rw[if_pos so,c5 (n:=(b:Int)+i) om om,c5 (n:=(a:Int)+i) om om,c5 om om,e1]
   rw[show idx (P++u::(U++M++v::V++Q)) ((b:Int)+i)=some v by rw[e2];exact ah6 so]
   rw[Option.bind_some,ah6 om,Option.bind_some,Option.bind_some,anv om,e2,ah6 so,Option.bind_some,anv so]
   simp
  rw[gv (s':=(((i+1:Nat):Int),(P++[v])++U++(M++[u])++V++Q)) e,atf (c:=c) U V (P++[v]) (M++[u]) Q n (i+1) a b om om so so so]
  simp
theorem aux {c:B7->B7->Option Int} {P U M V Q:List B7} {a b n:Int} (h:U.length=V.length) (hn:n=U.length) (ha:a=P.length) (hb:b=P.length+U.length+M.length) (hl:P.length+U.length+M.length+V.length+Q.length<=1000000000):
  eg a b n c (P++U++M++V++Q)=some (P++V++M++U++Q):=by
 subst hn ha hb
 unfold eg ie
 have:=atf (c:=c) U V P M Q U.length 0 P.length (P.length+U.length+M.length) h om om om hl
 exact(congrArg (fun z=>z.bind some) this).trans rfl
theorem aod {c:B7->B7->Option Int}:∀(n:Nat) (P A B Q:List B7) (m:Nat),A.length+B.length<=n->A≠[]->B≠[]->m=P.length+A.length->P.length+A.length+B.length+Q.length<=1000000000->
  (iter (fun s=>cw m c s.1 s.2.1 s.2.2) ((A.length:Int),(B.length:Int),P++A++B++Q)).bind (fun p=>gq m c p.1 p.2)=some (P++B++A++Q)
 | 0,P,A,B,Q,m,hn,hA,hB,hm,hl=>absurd (List.eq_nil_of_length_eq_zero om) hA
 |n+1,P,A,B,Q,m,hn,hA,hB,hm,hl=>by
  have pA:=List.length_pos_iff.2 hA
  have pB:=List.length_pos_iff.2 hB
  rcases Nat.lt_trichotomy A.length B.length with h|h|h
  ·obtain⟨B1,B2,rfl,hB2⟩:∃B1 B2,B=B1++B2/\B2.length=A.length:=⟨B.take (B.length - A.length),B.drop (B.length - A.length),(List.take_append_drop ..).symm,by rw[List.length_drop];omega⟩
   rw[List.length_append]at *
   have sw:=aux (c:=c) (P:=P) (U:=A) (M:=B1) (V:=B2) (Q:=Q) (a:=(m:Int) - A.length) (b:=(m:Int)+((B1.length+B2.length:Nat):Int) - A.length) (n:=A.length) hB2.symm rfl om om om
   have e:cw m c (A.length:Int) ((B1.length+B2.length:Nat):Int) (P++A++(B1++B2)++Q)=some (.inl ((B2.length:Int),(B1.length:Int),P++B2++B1++(A++Q))):=by
    have e1:P++A++(B1++B2)++Q=P++A++B1++B2++Q:=by simp
    unfold cw
    rw[if_pos so,if_neg so,c5 (n:=(m:Int) - A.length) om om,c5 (n:=(m:Int)+((B1.length+B2.length:Nat):Int)) om om,c5 (n:=(m:Int)+((B1.length+B2.length:Nat):Int) - A.length) om om,e1,sw,Option.bind_some,c5 om om]
    congr 3
    ·omega
    ·congr 1
     ·omega
     ·simp
   rw[gv (s':=((B2.length:Int),(B1.length:Int),P++B2++B1++(A++Q))) e]
   rw[aod n P B2 B1 (A++Q) m om (fun h=>by rw[h]at hB2;simp at hB2;omega) (fun h'=>by rw[h']at h;simp at h;omega) om so]
   simp
  ·rw[dn (o:=((A.length:Int),P++A++B++Q)) (by
    unfold cw
    rw[if_neg (by simp[h])])]
   rw[Option.bind_some]
   unfold gq
   have sw:=aux (c:=c) (P:=P) (U:=A) (M:=[]) (V:=B) (Q:=Q) (a:=(m:Int) - A.length) (b:=(m:Int)) (n:=A.length) h rfl om so so
   simp only[List.append_nil]at sw
   rw[c5 om om]
   simp only[sw,Option.bind_some]
  ·obtain⟨A1,A2,rfl,hA1⟩:∃A1 A2,A=A1++A2/\A1.length=B.length:=⟨A.take B.length,A.drop B.length,(List.take_append_drop ..).symm,by rw[List.length_take];omega⟩
   rw[List.length_append]at *
   have sw:=aux (c:=c) (P:=P) (U:=A1) (M:=A2) (V:=B) (Q:=Q) (a:=(m:Int) - ((A1.length+A2.length:Nat):Int)) (b:=(m:Int)) (n:=B.length) hA1 om om om om
   have e:cw m c ((A1.length+A2.length:Nat):Int) (B.length:Int) (P++(A1++A2)++B++Q)=some (.inl ((A2.length:Int),(A1.length:Int),(P++B)++A2++A1++Q)):=by
    have e1:P++(A1++A2)++B++Q=P++A1++A2++B++Q:=by simp
    unfold cw
    rw[if_pos so,if_pos so,c5 (n:=(m:Int) - ((A1.length+A2.length:Nat):Int)) om om,e1,sw,Option.bind_some,c5 om om]
    congr 3
    ·omega
    ·congr 1
     omega
   rw[gv (s':=((A2.length:Int),(A1.length:Int),(P++B)++A2++A1++Q)) e]
   rw[aod n (P++B) A2 A1 Q m om (fun h'=>by rw[h']at h;simp at h;omega) (fun h=>by rw[h]at hA1;simp at hA1;omega) so so]
   simp
theorem turn_ok {c:B7->B7->Option Int} {P A B Q:List B7} {a m b:Int} (ha:a=P.length) (hm:m=P.length+A.length) (hb:b=P.length+A.length+B.length) (hA:A≠[]) (hB:B≠[]) (hl:P.length+A.length+B.length+Q.length<=1000000000):
  il a m b c (P++A++B++Q)=some (P++B++A++Q):=by
 subst ha hb
 obtain⟨m,rfl⟩:∃k:Nat,m=k:=⟨m.toNat,by omega⟩
 unfold il
 rw[c5 om om,c5 om om,show(m:Int) - P.length=A.length by omega,show(P.length:Int)+A.length+B.length - m=B.length by omega]
 exact aod _ P A B Q m (Nat.le_refl _) hA hB om hl
end Go.Proofs.YtcndghapmoaidaaGreatDoor
set_option linter.unusedSectionVars false
set_option linter.unusedVariables false
set_option linter.unusedSimpArgs false
set_option maxRecDepth 100000
set_option maxHeartbeats 4000000
namespace Go.Proofs.YtcndghapmoaidaaGreatDoor
open Go Go.Cn
variable [Glob]
theorem al7 {i j:Nat} (h:i+j<=4000000000):w64 (Int.fdiv (IntKind.wrap .u64 (w64 ((i:Int)+j))) 2)=(((i+j) / 2:Nat):Int):=by
 rw[c5 (n:=(i:Int)+j) om om]
 have e:IntKind.wrap .u64 ((i:Int)+j)=(i:Int)+j:=by
  unfold IntKind.wrap
  have e1:(2:Int) ^ (IntKind.u64.bits)=18446744073709551616:=rfl
  have e3:IntKind.u64.signed=false:=rfl
  simp only[e1,e3,Bool.false_and]
  rw[if_neg sm]
  omega
 rw[e,Int.fdiv_eq_ediv_of_nonneg _ om,c5 om om]
 omega
theorem aoa {f:Int × Int->Option ((Int × Int) ⊕ Int)} (t:Nat->Bool) (lo hi:Nat)
  (hf:∀i j:Nat,lo<=i->i<j->j<=hi->f ((i:Int),(j:Int))=some (.inl (if t ((i+j) / 2)=true then((((i+j) / 2+1:Nat):Int),(j:Int))else((i:Int),(((i+j) / 2:Nat):Int)))))
  (hd:∀i:Nat,f ((i:Int),(i:Int))=some (.inr (i:Int))) (mono:∀h h',lo<=h->h<=h'->h'<hi->t h'=true->t h=true):∀(n i j:Nat),j - i<=n->lo<=i->i<=j->j<=hi->(∀h,lo<=h->h<i->t h=true)->(∀h,j<=h->h<hi->t h=false)->
  ∃r:Nat,iter f ((i:Int),(j:Int))=some (r:Int)/\lo<=r/\r<=hi/\(∀h,lo<=h->h<r->t h=true)/\(∀h,r<=h->h<hi->t h=false)
 | 0,i,j,hn,h1,h2,h3,hT,hF=>by
  obtain rfl:i=j:=by omega
  exact⟨i,dn (hd i),h1,h3,hT,hF⟩
 |n+1,i,j,hn,h1,h2,h3,hT,hF=>by
  rcases Nat.lt_or_ge i j with h|h
  ·have e:=hf i j h1 h h3
   by_cases ht:t ((i+j) / 2)=true
   ·rw[if_pos ht]at e
    rw[gv e]
    refine aoa t lo hi hf hd mono n _ j om om om h3 (fun h' g1 g2=>?_) hF
    exact mono h' ((i+j) / 2) g1 om om ht
   ·rw[if_neg ht]at e
    rw[gv e]
    refine aoa t lo hi hf hd mono n i _ om h1 om om hT (fun h' g1 g2=>?_)
    cases hh:t h' with
    |false=>rfl
    |true=>exact absurd (mono _ h' om g1 g2 hh) ht
  ·obtain rfl:i=j:=by omega
   exact⟨i,dn (hd i),h1,h3,hT,hF⟩
theorem au5 {α:Type} {P X R:List α} {i:Nat} (h:i<X.length):idx (P++X++R) ((P.length+i:Nat):Int)=some X[i]:=by
 refine ei ?_
 rw[List.append_assoc,List.getElem?_append_right om,Nat.add_sub_cancel_left,List.getElem?_append_left h,List.getElem?_eq_getElem h]
theorem ano {α:Type} {d P X R:List α} {i k:Nat} (hd:d=P++X++R) (h:i<X.length) (hk:k=P.length+i):idx d ((k:Nat):Int)=some X[i]:=by
 subst hd hk
 exact au5 h
theorem ah7 {α:Type} {lt:α->α->Bool} (ho:Swo lt) {X:List α} (h:Srt lt X) {i j:Nat} (hij:i<=j) (hj:j<X.length):lt X[j] (X[i]'om)=false:=by
 rcases Nat.lt_or_eq_of_le hij with hij|rfl
 ·exact List.pairwise_iff_getElem.1 h i j om hj hij
 ·exact ho.irr _
theorem am4 {α:Type} {X:List α} {n:Nat} {x:α} (h:x∈X.take n):∃i,∃h:i<X.length,i<n/\x=X[i]:=by
 obtain⟨i,hi,rfl⟩:=List.mem_iff_getElem.1 h
 rw[List.length_take]at hi
 exact⟨i,by omega,by omega,by rw[List.getElem_take]⟩
theorem am5 {α:Type} {X:List α} {n:Nat} {x:α} (h:x∈X.drop n):∃i,∃h:i<X.length,n<=i/\x=X[i]:=by
 obtain⟨i,hi,rfl⟩:=List.mem_iff_getElem.1 h
 rw[List.length_drop]at hi
 exact⟨n+i,by omega,by omega,by rw[List.getElem_drop]⟩
section
variable {R:ar}
theorem a0s :∀(Y A B:List B7) (x:B7) (k:Nat),k=A.length+Y.length->A.length+Y.length+B.length<=1000000000->
  iter (fun s=>dl R ((k+1:Nat):Int) s.1 s.2) ((A.length:Int),A++x::(Y++B))=some (A++Y++x::B)
 | [],A,B,x,k,hk,hl=>by
  rw[dn (o:=A++x::B) (by
   unfold dl
   rw[c5 om om,if_neg (by simp;simp at hk;omega)]
   rfl)]
  simp
 |y::Y,A,B,x,k,hk,hl=>by
  simp only[List.length_cons]at hk hl
  have e:dl R ((k+1:Nat):Int) A.length (A++x::(y::Y++B))=some (.inl (((A++[y]).length:Int),(A++[y])++x::(Y++B))):=by
   unfold dl
   rw[c5 (n:=((k+1:Nat):Int) - 1) om om,if_pos so,c5 om om,List.cons_append,aro om,Option.bind_some,ah6 om,Option.bind_some,Option.bind_some,anv om,aro om,Option.bind_some,auy om]
   simp
  rw[gv (s':=(((A++[y]).length:Int),(A++[y])++x::(Y++B))) e,a0s Y (A++[y]) B x k so so]
  simp
theorem av2 :∀(n:Nat) (X A B:List B7) (y:B7),X.length=n->A.length+X.length+B.length<=1000000000->
  iter (fun s=>dj R A.length s.1 s.2) (((A.length+n:Nat):Int),A++X++y::B)=some (A++y::(X++B))
 | 0,X,A,B,y,hn,hl=>by
  obtain rfl:=List.eq_nil_of_length_eq_zero hn
  rw[dn (o:=A++y::B) (by
   unfold dj
   rw[if_neg sm,List.append_nil])]
  rfl
 |n+1,X,A,B,y,hn,hl=>by
  obtain⟨X,x,rfl⟩:∃S u,X=S++[u]:=by
   rcases List.eq_nil_or_concat X with rfl|⟨S,u,rfl⟩
   ·simp at hn
   ·exact⟨S,u,List.concat_eq_append ..⟩
  have hn:X.length=n:=by simpa using hn
  simp only[List.length_append,List.length_cons,List.length_nil]at hl
  have e:dj R A.length ((A.length+(n+1):Nat):Int) (A++(X++[x])++y::B)=some (.inl (((A.length+n:Nat):Int),A++X++y::(x::B))):=by
   unfold dj
   have e1:A++(X++[x])++y::B=(A++X)++x::y::B:=by simp
   rw[if_pos so,c5 om om,e1,ah6 so,Option.bind_some,aro so,Option.bind_some,Option.bind_some,auy so,ah6 so,Option.bind_some,anv so]
   congr 3
   omega
  rw[gv (s':=(((A.length+n:Nat):Int),A++X++y::(x::B))) e,av2 n X A (x::B) y hn so]
  simp
end
section
variable {lt:B7->B7->Bool} {c:B7->B7->Option Int} (ho:Swo lt) (hc:∀x y,∃n:Int,c x y=some n/\decide (n<0)=lt x y)
include ho hc
theorem sym_one {R:ar} {P Y Q:List B7} {x:B7} (hl:P.length+1+Y.length+Q.length<=1000000000) (hY:Srt lt Y):
  ∃Z,(iter (fun s=>dk R (P++[x]++Y++Q) P.length c s.1 s.2) (((P.length+1:Nat):Int),((P.length+1+Y.length:Nat):Int))).bind (fun p=>gc R P.length (P++[x]++Y++Q) p)=some (P++Z++Q)/\Srt lt Z/\D4 lt ([x]++Y) Z:=by
 obtain⟨r,h1,h2,h3,h4,h5⟩:=aoa (f:=fun s=>dk R (P++[x]++Y++Q) P.length c s.1 s.2) (fun h=>lt (Y.getD (h - (P.length+1)) x) x) (P.length+1) (P.length+1+Y.length) (fun i j g1 g2 g3=>by
   dsimp only
   unfold dk ip
   rw[al7 om,if_pos (by simpa using g2)]
   have hk:(i+j) / 2 - (P.length+1)<Y.length:=by omega
   have e:idx (P++[x]++Y++Q) (((i+j) / 2:Nat):Int)=some Y[(i+j) / 2 - (P.length+1)]:=ano (P:=P++[x]) rfl hk so
   have e2:idx (P++[x]++Y++Q) P.length=some x:=by
    have:=au5 (P:=P) (X:=[x]) (R:=Y++Q) (i:=0) sm
    simpa using this
   obtain⟨n,hn,hn2⟩:=hc Y[(i+j) / 2 - (P.length+1)] x
   rw[e,Option.bind_some,e2,Option.bind_some,hn,Option.bind_some,hn2,List.getD_eq_getElem?_getD,List.getElem?_eq_getElem hk,Option.getD_some,c5 om om]
   split<;>rfl) (fun i=>by
   dsimp only
   unfold dk
   rw[if_neg sm]) (fun h h' g1 g2 g3 g4=>by
   try dsimp only at g4 ⊢
   rw[List.getD_eq_getElem?_getD,List.getElem?_eq_getElem om,Option.getD_some]at g4 ⊢
   exact ho.le_lt (ah7 ho hY (show h - (P.length+1)<=h' - (P.length+1)by omega) om) g4) Y.length (P.length+1) (P.length+1+Y.length) om om om om (fun _ _ _=>by omega) (fun _ _ _=>by omega)
 rw[h1,Option.bind_some]
 unfold gc io
 obtain⟨Y1,Y2,e0,hY1⟩:∃Y1 Y2,Y=Y1++Y2/\Y1.length=r - (P.length+1):=⟨Y.take (r - (P.length+1)),Y.drop (r - (P.length+1)),(List.take_append_drop ..).symm,by rw[List.length_take];omega⟩
 have m1:∀y∈Y1,lt y x=true:=fun y hy=>by
  obtain⟨i,hi,rfl⟩:=List.mem_iff_getElem.1 hy
  have:=h4 (P.length+1+i) om om
  rw[Nat.add_sub_cancel_left,List.getD_eq_getElem?_getD,e0,List.getElem?_append_left hi,List.getElem?_eq_getElem hi]at this
  exact this
 have m2:∀y∈Y2,lt y x=false:=fun y hy=>by
  obtain⟨i,hi,rfl⟩:=List.mem_iff_getElem.1 hy
  have hy2:Y.length=Y1.length+Y2.length:=by rw[e0,List.length_append]
  have:=h5 (P.length+1+(Y1.length+i)) om om
  rw[Nat.add_sub_cancel_left,List.getD_eq_getElem?_getD,e0,List.getElem?_append_right om,Nat.add_sub_cancel_left,List.getElem?_eq_getElem hi]at this
  exact this
 subst e0
 rw[List.length_append]at *
 have g:=a0s (R:=R) Y1 P (Y2++Q) x (r - 1) om so
 rw[show r - 1+1=r by omega]at g
 refine⟨Y1++x::Y2,?_,?_,?_⟩
 ·have e1:P++[x]++(Y1++Y2)++Q=P++x::(Y1++(Y2++Q)):=by simp
  rw[e1]
  refine(congrArg (fun z=>z.bind some) g).trans ?_
  simp
 ·obtain⟨s1,s2,s3⟩:=afq.1 hY
  refine afq.2 ⟨s1,List.pairwise_cons.2 ⟨fun y hy=>m2 y hy,s2⟩,fun a ha y hy=>?_⟩
  rcases List.mem_cons.1 hy with rfl|hy
  ·exact ho.asym (m1 a ha)
  ·exact s3 a ha y hy
 ·have e1:[x]++(Y1++Y2)=[x]++Y1++Y2:=by simp
  have e2:Y1++x::Y2=Y1++[x]++Y2:=by simp
  rw[e1,e2]
  refine(D4.turn ho fun a ha y hy=>?_).app (.refl Y2)
  rw[List.mem_singleton.1 ha]
  exact m1 y hy
theorem azr {R:ar} {P X Q:List B7} {y:B7} (hl:P.length+1+X.length+Q.length<=1000000000) (hX:Srt lt X):
  ∃Z,(iter (fun s=>di R (P++X++[y]++Q) ((P.length+X.length:Nat):Int) c s.1 s.2) ((P.length:Int),((P.length+X.length:Nat):Int))).bind (fun p=>gb R ((P.length+X.length:Nat):Int) (P++X++[y]++Q) p)=some (P++Z++Q)/\Srt lt Z/\D4 lt (X++[y]) Z:=by
 obtain⟨r,h1,h2,h3,h4,h5⟩:=aoa (f:=fun s=>di R (P++X++[y]++Q) ((P.length+X.length:Nat):Int) c s.1 s.2) (fun h=> !lt y (X.getD (h - P.length) y)) P.length (P.length+X.length) (fun i j g1 g2 g3=>by
   dsimp only
   unfold di ic
   rw[al7 om,if_pos (by simpa using g2)]
   have hk:(i+j) / 2 - P.length<X.length:=by omega
   have e:idx (P++X++[y]++Q) (((i+j) / 2:Nat):Int)=some X[(i+j) / 2 - P.length]:=ano (P:=P) (R:=[y]++Q) sm hk om
   have e2:idx (P++X++[y]++Q) ((P.length+X.length:Nat):Int)=some y:=by
    have:=au5 (P:=P++X) (X:=[y]) (R:=Q) (i:=0) sm
    simpa using this
   obtain⟨n,hn,hn2⟩:=hc y X[(i+j) / 2 - P.length]
   rw[e2,Option.bind_some,e,Option.bind_some,hn,Option.bind_some,hn2,List.getD_eq_getElem?_getD,List.getElem?_eq_getElem hk,Option.getD_some,c5 om om]
   split<;>rfl) (fun i=>by
   dsimp only
   unfold di
   rw[if_neg sm]) (fun h h' g1 g2 g3 g4=>by
   try dsimp only at g4 ⊢
   rw[List.getD_eq_getElem?_getD,List.getElem?_eq_getElem om,Option.getD_some,Bool.not_eq_true']at g4 ⊢
   exact ho.ntr g4 (ah7 ho hX (show h - P.length<=h' - P.length by omega) om)) X.length P.length (P.length+X.length) om om om om (fun _ _ _=>by omega) (fun _ _ _=>by omega)
 rw[h1,Option.bind_some]
 unfold gb im
 obtain⟨X1,X2,e0,hX1⟩:∃Y1 Y2,X=Y1++Y2/\Y1.length=r - P.length:=⟨X.take (r - P.length),X.drop (r - P.length),(List.take_append_drop ..).symm,by rw[List.length_take];omega⟩
 have m1:∀x∈X1,lt y x=false:=fun x hx=>by
  obtain⟨i,hi,rfl⟩:=List.mem_iff_getElem.1 hx
  have:=h4 (P.length+i) om om
  rw[Nat.add_sub_cancel_left,List.getD_eq_getElem?_getD,e0,List.getElem?_append_left hi,List.getElem?_eq_getElem hi]at this
  simpa using this
 have m2:∀x∈X2,lt y x=true:=fun x hx=>by
  obtain⟨i,hi,rfl⟩:=List.mem_iff_getElem.1 hx
  have hy2:X.length=X1.length+X2.length:=by rw[e0,List.length_append]
  have:=h5 (P.length+(X1.length+i)) om om
  rw[Nat.add_sub_cancel_left,List.getD_eq_getElem?_getD,e0,List.getElem?_append_right om,Nat.add_sub_cancel_left,List.getElem?_eq_getElem hi]at this
  simpa using this
 subst e0
 rw[List.length_append]at *
 have g:=av2 (R:=R) X2.length X2 (P++X1) Q y rfl so
 refine⟨X1++y::X2,?_,arj ho hX (fun a ha=>m1 a (List.mem_of_getLast? ha)) m2,D4.put ho m2⟩
 have e1:P++(X1++X2)++[y]++Q=P++X1++X2++y::Q:=by simp
 have e2:((P++X1).length:Int)=r:=by simp;omega
 have e3:(((P++X1).length+X2.length:Nat):Int)=((P.length+(X1.length+X2.length):Nat):Int):=by simp;omega
 rw[e2,e3]at g
 rw[e1]
 refine(congrArg (fun z=>z.bind some) g).trans ?_
 simp
end
end Go.Proofs.YtcndghapmoaidaaGreatDoor
set_option linter.unusedSectionVars false
set_option linter.unusedVariables false
set_option linter.unusedSimpArgs false
set_option maxRecDepth 100000
set_option maxHeartbeats 4000000
namespace Go.Proofs.YtcndghapmoaidaaGreatDoor
open Go Go.Cn
variable [Glob]
section
variable {lt:B7->B7->Bool} {c:B7->B7->Option Int} (ho:Swo lt) (hc:∀x y,∃n:Int,c x y=some n/\decide (n<0)=lt x y)
include ho hc
theorem sym_cut {R:ar} {P X Y Q:List B7} {a m b:Nat} (ha:a=P.length) (hm:m=a+X.length) (hb:b=m+Y.length) (hl:b+Q.length<=1000000000) (hX:Srt lt X) (hY:Srt lt Y) {lo hi:Nat}
  (hlo:if m>(a+b) / 2 then lo=(a+b) / 2+m - b/\hi=(a+b) / 2 else lo=a/\hi=m) (h2:a+2<=b):
  ∃s X1 X2 Y1 Y2,iter (fun s=>de R (P++X++Y++Q) a b m c s.1 s.2) ((lo:Int),(hi:Int))=some ((s:Nat):Int)/\X=X1++X2/\Y=Y1++Y2/\s=a+X1.length/\s+Y1.length=(a+b) / 2/\
   (∀x∈X1,∀y∈Y2,lt y x=false)/\(∀x∈X2,∀y∈Y1,lt y x=true):=by
 have f1:a<=lo/\lo<=hi/\hi<=m/\hi<=(a+b) / 2:=by split at hlo<;>omega
 obtain⟨z,hz⟩:∃z,z∈X++Y:=List.exists_mem_of_ne_nil _ (fun h=>by have:=congrArg List.length h;rw[List.length_append,List.length_nil]at this;omega)
 have gx:∀i,(h0:a<=i)->(h:i<m)->idx (P++X++Y++Q) ((i:Nat):Int)=some (X[i - a]'om):=fun i h1 h=>ano (P:=P) (R:=Y++Q) sm om om
 have gy:∀i,(h0:m<=i)->(h:i<b)->idx (P++X++Y++Q) ((i:Nat):Int)=some (Y[i - m]'om):=fun i h1 h=>ano (P:=P++X) rfl om so
 have dx:∀i,(h0:a<=i)->(h:i<m)->X.getD (i - a) z=X[i - a]'om:=fun i h1 h=>by rw[List.getD_eq_getElem?_getD,List.getElem?_eq_getElem om,Option.getD_some]
 have dy:∀i,(h0:m<=i)->(h:i<b)->Y.getD (i - m) z=Y[i - m]'om:=fun i h1 h=>by rw[List.getD_eq_getElem?_getD,List.getElem?_eq_getElem om,Option.getD_some]
 have pc:∀i,lo<=i->i<hi->m<=(a+b) / 2+m - 1 - i/\(a+b) / 2+m - 1 - i<b:=fun i h1 h2=>by split at hlo<;>omega
 obtain⟨s,h1,h3,h4,h5,h6⟩:=aoa (f:=fun s=>de R (P++X++Y++Q) a b m c s.1 s.2) (fun i=> !lt (Y.getD ((a+b) / 2+m - 1 - i - m) z) (X.getD (i - a) z)) lo hi (fun i j g1 g2 g3=>by
   dsimp only
   unfold de ib
   have p:=pc ((i+j) / 2) om om
   rw[al7 (i:=a) om,al7 (i:=i) om,if_pos (by simpa using g2),c5 (n:=(((a+b) / 2:Nat):Int)+m) om om,c5 (n:=(((a+b) / 2:Nat):Int)+m - 1) om om,c5 (n:=(((a+b) / 2:Nat):Int)+m - 1 - (((i+j) / 2:Nat):Int)) om om]
   rw[show(((a+b) / 2:Nat):Int)+m - 1 - (((i+j) / 2:Nat):Int)=(((a+b) / 2+m - 1 - (i+j) / 2:Nat):Int)by omega,gy _ p.1 p.2,Option.bind_some,gx _ om om,Option.bind_some,dx _ om om,dy _ p.1 p.2]
   obtain⟨n,hn,hn2⟩:=hc (Y[(a+b) / 2+m - 1 - (i+j) / 2 - m]'om) (X[(i+j) / 2 - a]'om)
   rw[hn,Option.bind_some,hn2,c5 om om]
   split<;>rfl) (fun i=>by
   dsimp only
   unfold de
   rw[if_neg sm]) (fun h h' g1 g2 g3 g4=>by
   have p:=pc h om om
   have p':=pc h' om om
   try dsimp only at g4 ⊢
   rw[dx _ om om,dy _ p'.1 p'.2,Bool.not_eq_true']at g4
   rw[dx _ om om,dy _ p.1 p.2,Bool.not_eq_true']
   exact ho.ntr (ho.ntr (ah7 ho hY (show(a+b) / 2+m - 1 - h' - m<=(a+b) / 2+m - 1 - h - m by omega) om) g4) (ah7 ho hX (show h - a<=h' - a by omega) om)) (hi - lo) lo hi om om om om (fun _ _ _=>by omega) (fun _ _ _=>by omega)
 have hs:s<=m/\a<=s/\s<=(a+b) / 2/\(a+b) / 2+m - s<=b:=by split at hlo<;>omega
 refine⟨s,X.take (s - a),X.drop (s - a),Y.take ((a+b) / 2 - s),Y.drop ((a+b) / 2 - s),h1,(List.take_append_drop ..).symm,(List.take_append_drop ..).symm,by rw[List.length_take];omega,by rw[List.length_take];omega,fun x hx y hy=>?_,fun x hx y hy=>?_⟩
 ·obtain⟨i,hi',hin,rfl⟩:=am4 hx
  obtain⟨j,hj,hjn,rfl⟩:=am5 hy
  have hs0:lo<s:=by
   rcases Nat.lt_or_eq_of_le h3 with h|rfl
   ·exact h
   ·exfalso
    split at hlo<;>omega
  have t:=h5 (s - 1) om om
  have p:=pc (s - 1) om om
  try dsimp only at t
  rw[dx _ om om,dy _ p.1 p.2,Bool.not_eq_true']at t
  exact ho.ntr (ho.ntr (ah7 ho hY (show(a+b) / 2+m - 1 - (s - 1) - m<=j by omega) hj) t) (ah7 ho hX (show i<=s - 1 - a by omega) om)
 ·obtain⟨i,hi',hin,rfl⟩:=am5 hx
  obtain⟨j,hj,hjn,rfl⟩:=am4 hy
  have hs0:s<hi:=by
   rcases Nat.lt_or_eq_of_le h4 with h|rfl
   ·exact h
   ·exfalso
    split at hlo<;>omega
  have t:=h6 s om hs0
  have p:=pc s om hs0
  try dsimp only at t
  rw[dx _ om om,dy _ p.1 p.2,Bool.not_eq_false']at t
  exact ho.le_lt (ah7 ho hY (show j<=(a+b) / 2+m - 1 - s - m by omega) om) (ho.lt_le t (ah7 ho hX (show s - a<=i by omega) hi'))
theorem avw :∀(k:Nat) (P X Y Q:List B7) (a m b:Nat),X.length+Y.length<=k->X≠[]->Y≠[]->a=P.length->m=a+X.length->b=m+Y.length->b+Q.length<=1000000000->Srt lt X->Srt lt Y->
  ∃Z,bv k a m b c (P++X++Y++Q)=some (P++Z++Q)/\Srt lt Z/\D4 lt (X++Y) Z
 | 0,P,X,Y,Q,a,m,b,hk,hX0,hY0,ha,hm,hb,hl,hX,hY=>absurd (List.eq_nil_of_length_eq_zero om) hX0
 |k+1,P,X,Y,Q,a,m,b,hk,hX0,hY0,ha,hm,hb,hl,hX,hY=>by
  have pX:=List.length_pos_iff.2 hX0
  have pY:=List.length_pos_iff.2 hY0
  show ∃Z,gl (bv k) a m b c (P++X++Y++Q)=some (P++Z++Q)/\Srt lt Z/\D4 lt (X++Y) Z
  unfold gl
  rw[c5 (n:=(m:Int) - a) om om,c5 (n:=(b:Int) - m) om om]
  by_cases h1:X.length=1
  ·obtain⟨x,rfl⟩:=List.length_eq_one_iff.1 h1
   rw[if_pos (by simp at hm ⊢;omega)]
   have:=sym_one ho hc (R:=bv k) (P:=P) (Y:=Y) (Q:=Q) (x:=x) (by simp at hm;omega) hY
   simp only[List.length_cons,List.length_nil]at hm
   rw[show P.length+1=m by omega,show m+Y.length=b by omega,← ha]at this
   exact this
  by_cases h2:Y.length=1
  ·obtain⟨y,rfl⟩:=List.length_eq_one_iff.1 h2
   simp only[List.length_cons,List.length_nil]at hb
   rw[if_neg so,if_pos so]
   have:=azr ho hc (R:=bv k) (P:=P) (X:=X) (Q:=Q) (y:=y) om hX
   rw[show P.length+X.length=m by omega,← ha]at this
   exact this
  rw[if_neg so,if_neg so,al7 om]
  have hq:(a+b) / 2<=b/\a+1<=(a+b) / 2/\(a+b) / 2+1<=b:=by omega
  have cut:∀lo hi:Nat,(if m>(a+b) / 2 then lo=(a+b) / 2+m - b/\hi=(a+b) / 2 else lo=a/\hi=m)->∃Z,eo (bv k) (P++X++Y++Q) a b m c lo hi=some (P++Z++Q)/\Srt lt Z/\D4 lt (X++Y) Z:=fun lo hi hlo=>by
   obtain⟨s,X1,X2,Y1,Y2,g1,rfl,rfl,g2,g3,g4,g5⟩:=sym_cut ho hc (R:=bv k) ha hm hb hl hX hY hlo om
   simp only[List.length_append]at hk hm hb pX pY h1 h2
   obtain⟨sX1,sX2,sX⟩:=afq.1 hX
   obtain⟨sY1,sY2,sY⟩:=afq.1 hY
   unfold eo
   rw[g1,Option.bind_some]
   generalize hq':(a+b) / 2=q at *
   have eq1:w64 (Int.fdiv (IntKind.wrap .u64 (w64 ((a:Int)+b))) 2)=(q:Int):=by rw[al7 om,hq']
   have eq2:w64 (w64 ((q:Int)+m) - s)=((q+m - s:Nat):Int):=by rw[c5 (n:=(q:Int)+m) om om,c5 om om];omega
   have last:∀Z1,Srt lt Z1->D4 lt (X1++Y1) Z1->∃Z,ev (bv k) a b m s c (P++Z1++X2++Y2++Q)=some (P++Z++Q)/\Srt lt Z/\D4 lt (X1++X2++(Y1++Y2)) Z:=fun Z1 w1 w2=>by
    have hZ1:=w2.len
    rw[List.length_append]at hZ1
    have fin:∀Z2,Srt lt Z2->D4 lt (X2++Y2) Z2->Srt lt (Z1++Z2)/\D4 lt (X1++X2++(Y1++Y2)) (Z1++Z2):=fun Z2 v1 v2=>by
     refine⟨afq.2 ⟨w1,v1,fun x hx y hy=>?_⟩,?_⟩
     ·have hx:=w2.perm.mem_iff.2 hx
      have hy:=v2.perm.mem_iff.2 hy
      rcases List.mem_append.1 hx with hx|hx<;>rcases List.mem_append.1 hy with hy|hy
      ·exact sX x hx y hy
      ·exact g4 x hx y hy
      ·exact ho.asym (g5 y hy x hx)
      ·exact sY x hx y hy
     ·have t:D4 lt (X2++Y1) (Y1++X2):=D4.turn ho fun x hx y hy=>g5 x hx y hy
      have e1:X1++X2++(Y1++Y2)=X1++(X2++Y1)++Y2:=by simp
      have e2:X1++(Y1++X2)++Y2=(X1++Y1)++(X2++Y2):=by simp
      rw[e1]
      refine(((D4.refl X1).app t).app (.refl Y2)).trans ?_
      rw[e2]
      exact w2.app v2
    unfold ev fw
    rw[eq1,eq2]
    by_cases hX2:X2=[]
    ·subst hX2
     simp only[List.length_nil]at hm
     obtain⟨f1,f2⟩:=fin Y2 sY2 (.refl _)
     refine⟨Z1++Y2,?_,f1,f2⟩
     rw[if_neg so,if_neg sm]
     simp
    by_cases hY2:Y2=[]
    ·subst hY2
     simp only[List.length_nil]at hb
     obtain⟨f1,f2⟩:=fin X2 sX2 (by rw[List.append_nil];exact .refl _)
     refine⟨Z1++X2,?_,f1,f2⟩
     have:decide (((q+m - s:Nat):Int)<(b:Int))=false:=by simp;omega
     rw[this]
     simp
    have pX2:=List.length_pos_iff.2 hX2
    have pY2:=List.length_pos_iff.2 hY2
    rw[if_pos so,if_pos so]
    obtain⟨Z2,v1,v2,v3⟩:=avw k (P++Z1) X2 Y2 Q q (q+m - s) b om hX2 hY2 so om om hl sX2 sY2
    obtain⟨f1,f2⟩:=fin Z2 v2 v3
    refine⟨Z1++Z2,?_,f1,f2⟩
    rw[v1]
    simp
   have mid:∃Z,ep (bv k) a s b c m (P++(X1++Y1)++X2++Y2++Q)=some (P++Z++Q)/\Srt lt Z/\D4 lt (X1++X2++(Y1++Y2)) Z:=by
    unfold ep fv
    rw[eq1]
    by_cases hX1:X1=[]
    ·subst hX1
     simp only[List.length_nil]at g2
     rw[if_neg so,if_neg sm]
     exact last Y1 sY1 (.refl _)
    by_cases hY1:Y1=[]
    ·subst hY1
     simp only[List.length_nil]at g3
     have:decide ((s:Int)<(q:Int))=false:=by simp;omega
     simp only[this,Bool.false_eq_true,if_false,ite_self]
     have:=last X1 sX1 (by rw[List.append_nil];exact .refl _)
     rw[List.append_nil]
     exact this
    have pX1:=List.length_pos_iff.2 hX1
    have pY1:=List.length_pos_iff.2 hY1
    rw[if_pos so,if_pos so]
    obtain⟨Z1,v1,v2,v3⟩:=avw k P X1 Y1 (X2++Y2++Q) a s q om hX1 hY1 ha om om so sX1 sY1
    have e1:P++(X1++Y1)++X2++Y2++Q=P++X1++Y1++(X2++Y2++Q):=by simp
    rw[e1,v1,Option.bind_some]
    obtain⟨Z,u1,u2,u3⟩:=last Z1 v2 v3
    refine⟨Z,?_,u2,u3⟩
    rw[← u1]
    simp
   unfold ia fu
   rw[eq1,eq2]
   by_cases hX2:X2=[]
   ·subst hX2
    simp only[List.length_nil]at hm
    rw[if_neg so,if_neg sm]
    obtain⟨Z,u1,u2,u3⟩:=mid
    refine⟨Z,?_,u2,u3⟩
    rw[← u1]
    simp
   by_cases hY1:Y1=[]
   ·subst hY1
    simp only[List.length_nil]at g3
    have:decide ((m:Int)<((q+m - s:Nat):Int))=false:=by simp;omega
    simp only[this,Bool.false_eq_true,if_false,ite_self]
    obtain⟨Z,u1,u2,u3⟩:=mid
    refine⟨Z,?_,u2,u3⟩
    refine Eq.trans ?_ u1
    simp
   have pX2:=List.length_pos_iff.2 hX2
   have pY1:=List.length_pos_iff.2 hY1
   rw[if_pos so,if_pos so]
   have e1:P++(X1++X2)++(Y1++Y2)++Q=(P++X1)++X2++Y1++(Y2++Q):=by simp
   rw[e1,turn_ok so so so hX2 hY1 so,Option.bind_some]
   obtain⟨Z,u1,u2,u3⟩:=mid
   refine⟨Z,?_,u2,u3⟩
   rw[← u1]
   simp
  by_cases hmq:m>(a+b) / 2
  ·rw[if_pos (decide_eq_true om),c5 (n:=(((a+b) / 2:Nat):Int)+m) om om,c5 (n:=(((a+b) / 2:Nat):Int)+m - b) om om,show(((a+b) / 2:Nat):Int)+m - b=(((a+b) / 2+m - b:Nat):Int)by omega]
   exact cut _ _ (by rw[if_pos hmq];exact⟨rfl,rfl⟩)
  ·rw[if_neg (by rw[decide_eq_true_eq];omega)]
   exact cut _ _ (by rw[if_neg hmq];exact⟨rfl,rfl⟩)
end
end Go.Proofs.YtcndghapmoaidaaGreatDoor
set_option linter.unusedSectionVars false
set_option linter.unusedVariables false
set_option linter.unusedSimpArgs false
set_option maxRecDepth 100000
set_option maxHeartbeats 4000000
namespace Go.Proofs.YtcndghapmoaidaaGreatDoor
open Go Go.Cn
variable [Glob]
theorem a04 {α:Type} {R:List α} {n:Nat} (h:n<=R.length):∃X R',R=X++R'/\X.length=n:=⟨R.take n,R.drop n,(List.take_append_drop ..).symm,by rw[List.length_take];omega⟩
section
variable {lt:B7->B7->Bool} {c:B7->B7->Option Int} (ho:Swo lt) (hc:∀x y,∃n:Int,c x y=some n/\decide (n<0)=lt x y)
include ho hc
theorem awp :∀(k:Nat) (P R:List B7),R.length<=k->P.length+R.length<=1000000->Full lt 20 P->
  ∃P' R',iter (fun s=>cu ((P.length+R.length:Nat):Int) c s.1 s.2.1 s.2.2) ((P.length:Int),((P.length+20:Nat):Int),P++R)=some ((P'.length:Int),P'++R')/\Full lt 20 P'/\D4 lt (P++R) (P'++R'):=by
 intro k
 induction k with
 |zero=>
  intro P R hk hl hP
  refine⟨P,R,dn ?_,hP,.refl _⟩
  unfold cu
  rw[if_neg so]
 |succ k ih=>
  intro P R hk hl hP
  by_cases h:20<=R.length
  ·obtain⟨X,R',rfl,hX⟩:=a04 h
   rw[List.length_append]at *
   obtain⟨Z,g1,g2,g3⟩:=am7 ho hc (P:=P) (X:=X) (Q:=R') (a:=(P.length:Int)) (b:=((P.length+20:Nat):Int)) rfl om om
   have hZ:=g3.len
   obtain⟨P',R2,k1,k2,k3⟩:=ih (P++Z) R' om so (.more hP om g2)
   refine⟨P',R2,?_,k2,?_⟩
   ·have e:cu ((P.length+(X.length+R'.length):Nat):Int) c P.length ((P.length+20:Nat):Int) (P++(X++R'))=some (.inl (((P++Z).length:Int),(((P++Z).length+20:Nat):Int),(P++Z)++R')):=by
     unfold cu
     rw[if_pos so,← List.append_assoc,g1,Option.bind_some,c5 om om]
     congr 3
     ·simp;omega
     ·congr 1
      simp;omega
    rw[gv (s':=(((P++Z).length:Int),(((P++Z).length+20:Nat):Int),(P++Z)++R')) e,← k1]
    congr 3
    funext s
    congr 1
    simp
    omega
   ·rw[← List.append_assoc]
    exact(((D4.refl P).app g3).app (.refl R')).trans k3
  ·refine⟨P,R,dn ?_,hP,.refl _⟩
   unfold cu
   rw[if_neg so]
theorem ayy {bs:Nat} (hb:1<=bs) (hb2:bs<=1000000):∀(k:Nat) (P R:List B7),R.length<=k->P.length+R.length<=1000000->Full lt (2 * bs) P->Blk lt bs R->
  ∃P' R',iter (fun s=>dc ((P.length+R.length:Nat):Int) bs c s.1 s.2.1 s.2.2) ((P.length:Int),((P.length+2 * bs:Nat):Int),P++R)=some ((P'.length:Int),P'++R')/\Full lt (2 * bs) P'/\Blk lt bs R'/\R'.length<2 * bs/\D4 lt (P++R) (P'++R'):=by
 intro k
 induction k with
 |zero=>
  intro P R hk hl hP hR
  refine⟨P,R,dn ?_,hP,hR,by omega,.refl _⟩
  unfold dc
  rw[if_neg so]
 |succ k ih=>
  intro P R hk hl hP hR
  by_cases h:2 * bs<=R.length
  ·obtain⟨X,R1,rfl,hX,sX,hR1⟩:=hR.cut om
   rw[List.length_append]at h
   obtain⟨Y,R2,rfl,hY,sY,hR2⟩:=hR1.cut om
   simp only[List.length_append]at *
   obtain⟨Z,g1,g2,g3⟩:=avw ho hc 1048576 P X Y R2 P.length (P.length+bs) (P.length+2 * bs) om (fun h=>by rw[h]at hX;simp at hX;omega) (fun h=>by rw[h]at hY;simp at hY;omega) rfl om om om sX sY
   have hZ:=g3.len
   rw[List.length_append]at hZ
   obtain⟨P',R',k1,k2,k3,k4,k5⟩:=ih (P++Z) R2 om so (.more hP om g2) hR2
   refine⟨P',R',?_,k2,k3,k4,?_⟩
   ·have e:dc ((P.length+(X.length+(Y.length+R2.length)):Nat):Int) bs c P.length ((P.length+2 * bs:Nat):Int) (P++(X++(Y++R2)))=some (.inl (((P++Z).length:Int),(((P++Z).length+2 * bs:Nat):Int),(P++Z)++R2)):=by
     have e1:P++(X++(Y++R2))=P++X++Y++R2:=by simp
     have e2:gw (P.length:Int) ((P.length:Int)+bs) ((P.length+2 * bs:Nat):Int) c (P++X++Y++R2)=some (P++Z++R2):=g1
     unfold dc
     rw[if_pos (decide_eq_true om),e1,c5 (n:=(P.length:Int)+bs) om om,e2,Option.bind_some,c5 (n:=2 * (bs:Int)) om om,c5 om om]
     congr 3
     ·simp;omega
     ·congr 1
      simp;omega
    rw[gv (s':=(((P++Z).length:Int),(((P++Z).length+2 * bs:Nat):Int),(P++Z)++R2)) e,← k1]
    congr 3
    funext s
    congr 1
    simp
    omega
   ·have e1:P++(X++(Y++R2))=P++(X++Y)++R2:=by simp
    rw[e1]
    exact(((D4.refl P).app g3).app (.refl R2)).trans k5
  ·refine⟨P,R,dn ?_,hP,hR,by omega,.refl _⟩
   unfold dc
   rw[if_neg so]
theorem az0 {bs:Nat} (hb:1<=bs) (hb2:bs<=1000000) {P R:List B7} (hl:P.length+R.length<=1000000) (hP:Full lt (2 * bs) P) (hR:Blk lt bs R) (h:R.length<2 * bs):
  ∃Z,fo bs ((P.length+R.length:Nat):Int) c P.length (P++R)=some (.inl (((2 * bs:Nat):Int),Z))/\Blk lt (2 * bs) Z/\D4 lt (P++R) Z:=by
 unfold fo gn
 rw[c5 (n:=(P.length:Int)+bs) om om,c5 om om,show(bs:Int) * 2=((2 * bs:Nat):Int)by omega]
 by_cases h1:bs<R.length
 ·obtain⟨X,Y,rfl,hX,sX,hY⟩:=hR.cut om
  simp only[List.length_append]at *
  obtain⟨Z,g1,g2,g3⟩:=avw ho hc 1048576 P X Y [] P.length (P.length+bs) (P.length+(X.length+Y.length)) om (fun h=>by rw[h]at hX;simp at hX;omega) (fun h=>by rw[h]at h1;simp at h1;omega) rfl om om so sX (hY.srt om)
  have hZ:=g3.len
  rw[List.length_append]at hZ
  simp only[List.append_nil]at g1
  have e2:gw (P.length:Int) ((P.length:Int)+bs) ((P.length+(X.length+Y.length):Nat):Int) c (P++X++Y)=some (P++Z):=g1
  refine⟨P++Z,?_,hP.blk (.short om g2),(D4.refl P).app g3⟩
  rw[if_pos (decide_eq_true om),← List.append_assoc,e2]
  rfl
 ·refine⟨P++R,?_,hP.blk (.short om (hR.srt om)),.refl _⟩
  rw[if_neg (by rw[decide_eq_true_eq];omega)]
theorem passes :∀(k bs:Nat) (d:List B7),d.length<=bs+k->1<=bs->bs<=1000000->d.length<=500000->Blk lt bs d->
  ∃Z,iter (fun s=>cv d.length c s.1 s.2) ((bs:Int),d)=some Z/\Srt lt Z/\D4 lt d Z:=by
 intro k
 induction k with
 |zero=>
  intro bs d hk hb hb2 hl hd
  refine⟨d,dn ?_,hd.srt om,.refl _⟩
  unfold cv
  rw[if_neg (by rw[decide_eq_true_eq];omega)]
 |succ k ih=>
  intro bs d hk hb hb2 hl hd
  by_cases h:bs<d.length
  ·obtain⟨P,R,g1,g2,g3,g4,g5⟩:=ayy ho hc hb hb2 d.length [] d (Nat.le_refl _) so .nil hd
   have hlen:=g5.len
   rw[List.length_append]at hlen
   simp only[List.length_nil,Nat.zero_add,List.nil_append]at g1 hlen g5
   obtain⟨Z,u1,u2,u3⟩:=az0 ho hc hb hb2 om g2 g3 g4
   rw[hlen]at u1
   have hZ:=u3.len
   rw[List.length_append]at hZ
   obtain⟨Z2,v1,v2,v3⟩:=ih (2 * bs) Z om om om om u2
   refine⟨Z2,?_,v2,(g5.trans u3).trans v3⟩
   have e:cv d.length c bs d=some (.inl (((2 * bs:Nat):Int),Z)):=by
    unfold cv
    rw[if_pos (decide_eq_true om),c5 (n:=2 * (bs:Int)) om om]
    have e1:(2 * (bs:Int))=((2 * bs:Nat):Int):=by omega
    rw[e1]
    exact(congrArg (fun z=>z.bind fun p=>fo bs d.length c p.1 p.2) g1).trans u1
   rw[gv (s':=(((2 * bs:Nat):Int),Z)) e,← v1]
   congr 3
   funext s
   congr 1
   omega
  ·refine⟨d,dn ?_,hd.srt om,.refl _⟩
   unfold cv
   rw[if_neg (by rw[decide_eq_true_eq];omega)]
theorem ayo {d:List B7} (hl:d.length<=500000):∃Z,d6 c d=some Z/\Srt lt Z/\D4 lt d Z:=by
 obtain⟨P,R,g1,g2,g3⟩:=awp ho hc d.length [] d (Nat.le_refl _) so .nil
 have hlen:=g3.len
 rw[List.length_append]at hlen
 simp only[List.length_nil,Nat.zero_add,List.nil_append]at g1 hlen g3
 obtain⟨Z,u1,u2,u3⟩:=am7 ho hc (P:=P) (X:=R) (Q:=[]) (a:=(P.length:Int)) (b:=(d.length:Int)) rfl om so
 simp only[List.append_nil]at u1
 have hZ:=u3.len
 have hB:Blk lt 20 (P++Z):=by
  refine g2.blk ?_
  by_cases h:Z.length<=20
  ·exact .short h u2
  ·have:∀(k:Nat) (L:List B7),L.length<=k->Srt lt L->Blk lt 20 L:=by
    intro k
    induction k with
    |zero=>intro L h hs;exact .short om hs
    |succ k ih=>
     intro L h hs
     by_cases h2:20<L.length
     ·obtain⟨X,R',rfl,hX⟩:=a04 (show 20<=L.length by omega)
      rw[List.length_append]at h
      exact .more hX (afq.1 hs).1 (ih R' om (afq.1 hs).2.1)
     ·exact .short om hs
   exact this _ _ (Nat.le_refl _) u2
 have hlen2:(P++Z).length=d.length:=by rw[List.length_append];omega
 obtain⟨Z2,v1,v2,v3⟩:=passes ho hc d.length 20 (P++Z) om om om om hB
 rw[hlen2]at v1
 refine⟨Z2,?_,v2,(g3.trans ((D4.refl P).app u3)).trans v3⟩
 have e:ik d.length c d=some Z2:=by
  unfold ik
  have e1:(iter (fun s=>cu d.length c s.1 s.2.1 s.2.2) (0,20,d))=some ((P.length:Int),P++R):=g1
  rw[e1,Option.bind_some]
  unfold je
  have e2:iter (fun s=>cv d.length c s.1 s.2) (20,P++Z)=some Z2:=v1
  dsimp only
  rw[u1,Option.bind_some,e2]
  rfl
 unfold d6
 rw[e]
 rfl
end
def ltU (x y:B7):Bool:=decide (x.File<y.File)||(decide (x.File=y.File)&&decide (x.At<y.At))
theorem swoU :Swo ltU:=by
 constructor
 ·intro x y h
  unfold ltU at *
  simp at *
  omega
 ·intro x y z h k
  unfold ltU at *
  simp at *
  omega
theorem aq7 (x y:Int):re x y=some (if x<y then -1 else if x>y then 1 else 0):=by
 unfold re zg
 have h:∀x:Int,(x != x)=false:=fun x=>by simp
 simp only[h,Option.bind_some,Bool.false_eq_true,if_false,decide_eq_true_eq]
 by_cases h1:x<y
 ·rw[if_pos h1,if_pos h1]
 ·rw[if_neg h1,if_neg h1]
  by_cases h2:x>y
  ·rw[if_pos h2,if_pos h2]
  ·rw[if_neg h2,if_neg h2]
theorem or_eq (x y:Int):ag2 [x,y]=some (if x=0 then y else x):=by
 unfold ag2 adm
 have h0:idx [x,y] (0:Int)=some x:=rfl
 have h1:idx [x,y] (1:Int)=some y:=rfl
 have w0:w64 (0+1)=1:=c5 om om
 have w1:w64 (1+1)=2:=c5 om om
 by_cases hx:x=0
 ·have e0:ii [x,y] 0=some (.inl 1):=by
   unfold ii
   rw[if_pos sm,h0,Option.bind_some,if_neg (by simp[hx]),w0]
  rw[gv e0,if_pos hx]
  by_cases hy:y=0
  ·have e1:ii [x,y] 1=some (.inl 2):=by
    unfold ii
    rw[if_pos sm,h1,Option.bind_some,if_neg (by simp[hy]),w1]
   have e2:ii [x,y] 2=some (.inr (.next ())):=by
    unfold ii
    rw[if_neg sm]
   rw[gv e1,dn e2,hy]
   rfl
  ·have e1:ii [x,y] 1=some (.inr (.done y)):=by
    unfold ii
    rw[if_pos sm,h1,Option.bind_some,if_pos (by simp[hy])]
   rw[dn e1]
   rfl
 ·have e0:ii [x,y] 0=some (.inr (.done x)):=by
   unfold ii
   rw[if_pos sm,h0,Option.bind_some,if_pos (by simp[hx])]
  rw[dn e0,if_neg hx]
  rfl
theorem cmpU (x y:B7):∃n:Int,yd x y=some n/\decide (n<0)=ltU x y:=by
 unfold yd abr
 rw[aq7,aq7,Option.bind_some,Option.bind_some,or_eq]
 refine⟨_,rfl,?_⟩
 unfold ltU
 rcases Int.lt_trichotomy x.File y.File with h|h|h
 ·rw[if_pos h];simp[h]
 ·rw[if_neg (show ¬x.File<y.File by omega),if_neg (show ¬x.File>y.File by omega),if_pos rfl]
  rcases Int.lt_trichotomy x.At y.At with h2|h2|h2
  ·rw[if_pos h2];simp[h,h2]
  ·rw[if_neg (show ¬x.At<y.At by omega),if_neg (show ¬x.At>y.At by omega)];simp[h,h2]
  ·rw[if_neg (show ¬x.At<y.At by omega),if_pos h2];simp;omega
 ·rw[if_neg (show ¬x.File<y.File by omega),if_pos h];simp;omega
theorem sort_in (x1:List B7) (i:Nat) (x:B7) (hx:x1[i]? =some x):∀(n:Nat) (A B:List B7),A.length=n->n<=1000000000->(∀b∈B,ltU x b=true)->
  ∃A' B',A++B=A'++B'/\iter (fun s=>oy (A++B) x1 i s) (n:Int)=some (A'.length:Int)/\(∀a∈A'.getLast?,ltU x a=false)/\(∀b∈B',ltU x b=true):=by
 intro n
 induction n with
 |zero=>
  intro A B hn hl hB
  obtain rfl:=List.eq_nil_of_length_eq_zero hn
  refine⟨[],B,rfl,dn ?_,fun _ h=>(by cases h),hB⟩
  unfold oy o0
  rw[if_neg sm]
  rfl
 |succ n ih=>
  intro A B hn hl hB
  obtain⟨A,u,rfl⟩:∃S u,A=S++[u]:=by
   rcases List.eq_nil_or_concat A with rfl|⟨S,u,rfl⟩
   ·simp at hn
   ·exact⟨S,u,List.concat_eq_append ..⟩
  have hn:A.length=n:=by simpa using hn
  have e1:A++[u]++B=A++u::B:=by simp
  have e:oy (A++[u]++B) x1 i ((n+1:Nat):Int)=if ltU x u=true then some (.inl (n:Int))else some (.inr ((n+1:Nat):Int)):=by
   unfold oy o0 ltU
   rw[if_pos sm,c5 om om,e1,ah6 om,ei hx]
   simp only[Option.bind_some]
   rw[show((n+1:Nat):Int) - 1=(n:Int)by omega]
   rcases Int.lt_trichotomy u.File x.File with h|h|h
   ·rw[if_neg so,if_neg so,if_neg sm,if_neg so]
   ·rw[if_neg so,if_pos (by simp[h])]
    by_cases h2:u.At>x.At
    ·rw[if_pos (by simpa using h2),if_pos (by simp[h];omega)]
    ·rw[if_neg (by simpa using h2),if_neg (by simp[h];omega)]
   ·rw[if_pos (by simpa using h),if_pos trivial,if_pos so]
  by_cases hu:ltU x u=true
  ·rw[if_pos hu]at e
   rw[gv e]
   obtain⟨A',B',g1,g2,g3,g4⟩:=ih A (u::B) hn om (fun b hb=>by
    rcases List.mem_cons.1 hb with rfl|hb
    ·exact hu
    ·exact hB b hb)
   exact⟨A',B',by rw[e1];exact g1,by rw[e1];exact g2,g3,g4⟩
  ·rw[if_neg hu]at e
   refine⟨A++[u],B,rfl,?_,fun a ha=>?_,hB⟩
   ·rw[dn e]
    simp[hn]
   ·obtain rfl:u=a:=by simpa using ha
    exact Bool.eq_false_iff.2 hu
theorem av3 :∀(r x1:List B7) (i:Nat) (out:List B7),x1.drop i=r->x1.length<=500000->i<=x1.length->Srt ltU out->D4 ltU (x1.take i) out->
  ∃Z,iter (fun s=>oz x1 s.1 s.2) ((i:Int),out)=some Z/\Srt ltU Z/\D4 ltU x1 Z
 | [],x1,i,out,hr,hl,hi,h1,h2=>by
  have hi:x1.length<=i:=by
   have:=congrArg List.length hr
   rw[List.length_drop,List.length_nil]at this
   omega
  refine⟨out,dn ?_,h1,by rwa [List.take_of_length_le hi]at h2⟩
  unfold oz
  rw[if_neg (by simpa using hi)]
 |x::r,x1,i,out,hr,hl,hi,h1,h2=>by
  have hx:x1[i]? =some x:=by
   have:=congrArg (fun z=>z[0]?) hr
   simpa using this
  have hi:=(List.getElem?_eq_some_iff.1 hx).1
  have hr':x1.drop (i+1)=r:=by
   have:=congrArg List.tail hr
   simpa using this
  have hlen:=h2.len
  rw[List.length_take]at hlen
  obtain⟨A,B,g1,g2,g3,g4⟩:=sort_in x1 i x hx out.length out [] rfl om (fun _ h=>by cases h)
  rw[List.append_nil]at g1 g2
  subst g1
  rw[List.length_append]at hlen
  have e:oz x1 i (A++B)=some (.inl (((i+1:Nat):Int),A++x::B)):=by
   unfold oz ac9
   rw[if_pos (gm hx),g2,Option.bind_some]
   have s1:subL (A++B) 0 A.length=some A:=by
    unfold subL
    rw[if_pos so]
    simp
   have s2:subL (A++B) A.length ((A++B).length:Int)=some B:=by
    unfold subL
    rw[if_pos so,Int.toNat_natCast,Int.toNat_natCast,List.take_length,List.drop_left]
   rw[s1,Option.bind_some,oj so so,Option.bind_some,ei hx,Option.bind_some,oj so so,Option.bind_some,s2,Option.bind_some,oj so so,Option.bind_some,aae om]
   simp
  rw[gv (s':=(((i+1:Nat):Int),A++x::B)) e]
  refine av3 r x1 (i+1) _ hr' hl hi (arj swoU h1 g3 g4) ?_
  have e2:x1.take (i+1)=x1.take i++[x]:=by
   rw[List.take_succ_eq_append_getElem hi]
   congr 1
   rw[List.getElem?_eq_getElem hi]at hx
   exact congrArg (fun z=>[z]) (Option.some.inj hx)
  rw[e2]
  exact(h2.app (.refl [x])).trans (D4.put swoU g4)
theorem sort_eq {l:List B7} (hl:l.length<=500000):∃Z,d6 yd l=some Z/\agx l=some Z/\Srt ltU Z/\D4 ltU l Z:=by
 obtain⟨Z,g1,g2,g3⟩:=ayo swoU cmpU hl
 obtain⟨Y,k1,k2,k3⟩:=av3 l l 0 [] rfl hl om .nil (.refl _)
 obtain rfl:Z=Y:=D4.one swoU g2 k2 (g3.symm.trans k3)
 refine⟨Z,g1,?_,g2,g3⟩
 unfold agx ada
 exact(congrArg (fun z=>z.bind some) k1).trans rfl
end Go.Proofs.YtcndghapmoaidaaGreatDoor
set_option linter.unusedSectionVars false
set_option linter.unusedVariables false
set_option linter.unusedSimpArgs false
set_option maxRecDepth 100000
set_option maxHeartbeats 4000000
namespace Go.Proofs.YtcndghapmoaidaaGreatDoor
open Go Go.Cn
variable [Glob]
def rowF {α τ γ:Type} (g:Nat->τ->α->τ ⊕ γ):Nat->List α->τ->τ ⊕ γ
 |_,[],t=> .inl t
 |i,x::r,t=>match g i t x with| .inl t'=>rowF g (i+1) r t'| .inr e=> .inr e
abbrev Step {τ γ S ω:Type} (R:S->τ->Prop) (Q:ω->γ->Prop):τ ⊕ γ->S ⊕ ω->Prop
 | .inl t',z=>∃s',z= .inl s'/\R s' t'
 | .inr e,z=>∃o,z= .inr o/\Q o e
abbrev Fin' {τ γ ω:Type} (F:ω->τ->Prop) (Q:ω->γ->Prop):τ ⊕ γ->ω->Prop
 | .inl t,o=>F o t
 | .inr e,o=>Q o e
theorem rowM {α τ γ S ω:Type} {l:List α} {f:S->Option (S ⊕ ω)} (g:Nat->τ->α->τ ⊕ γ) (R:Nat->S->τ->Prop) (F:ω->τ->Prop) (Q:ω->γ->Prop)
  (h1:∀i x s t,l[i]? =some x->R i s t->Ok (Step (R (i+1)) Q (g i t x)) (f s))
  (h2:∀s t,R l.length s t->Ok (fun z=>∃o,z= .inr o/\F o t) (f s)):∀(r:List α) (i:Nat) s t,l.drop i=r->i<=l.length->R i s t->Ok (Fin' F Q (rowF g i r t)) (iter f s)
 | [],i,s,t,hr,hi,h=>by
  have hi':l.length<=i:=by
   have:=congrArg List.length hr
   rw[List.length_drop,List.length_nil]at this
   omega
  obtain rfl:i=l.length:=by omega
  obtain⟨_,e,o,rfl,ho⟩:=h2 s t h
  exact⟨o,dn e,ho⟩
 |x::r,i,s,t,hr,hi,h=>by
  have hx:l[i]? =some x:=by
   have:=congrArg (fun z=>z[0]?) hr
   simpa using this
  have hi:=(List.getElem?_eq_some_iff.1 hx).1
  have hr':l.drop (i+1)=r:=by
   have:=congrArg List.tail hr
   simpa using this
  obtain⟨z,e,hz⟩:=h1 i x s t hx h
  unfold rowF
  cases hg:g i t x with
  |inl t'=>
   rw[hg]at hz
   obtain⟨s',rfl,hs'⟩:=hz
   rw[gv e]
   exact rowM g R F Q h1 h2 r (i+1) s' t' hr' hi hs'
  |inr e'=>
   rw[hg]at hz
   obtain⟨o,rfl,ho⟩:=hz
   exact⟨o,dn e,ho⟩
mutual
def z9 :B5->List B5
 |⟨k,t,y,n,a,b,c,d,kids⟩=>⟨k,t,y,n,a,b,c,d,kids⟩::flatL kids
def flatL :List B5->List B5
 | []=>[]
 |n::l=>z9 n++flatL l
end
theorem asa (x:B5):z9 x=x::flatL x.Kids:=by cases x;simp[z9]
mutual
theorem ain :∀x:B5,(z9 x).length=gk x
 |⟨_,_,_,_,_,_,_,_,kids⟩=>by simp[z9,gk,agt kids];omega
theorem agt :∀l:List B5,(flatL l).length=ce l
 | []=>by simp[flatL,ce]
 |n::l=>by simp[flatL,ce,ain n,agt l]
end
theorem at0 :∀l m:List B5,flatL (l++m)=flatL l++flatL m
 | [],m=>by simp[flatL]
 |n::l,m=>by simp[flatL,at0 l m]
theorem aq5 {l:List B5} {i:Nat} {x:B5} (h:l[i]? =some x):flatL (l.take (i+1))=flatL (l.take i)++z9 x:=by
 obtain⟨hi,rfl⟩:=List.getElem?_eq_some_iff.1 h
 rw[List.take_succ_eq_append_getElem hi,at0]
 simp[flatL]
theorem nq {l:List B5} {i:Nat} {x:B5} (h:l[i]? =some x):ce (l.take (i+1))=ce (l.take i)+gk x/\ce (l.take i)+gk x<=ce l:=by
 obtain⟨hi,rfl⟩:=List.getElem?_eq_some_iff.1 h
 have e:ce (l.take (i+1))=ce (l.take i)+gk l[i]:=by rw[List.take_succ_eq_append_getElem hi,ads];simp[ce]
 refine⟨e,?_⟩
 rw[← e]
 have:ce (l.take (i+1))+ce (l.drop (i+1))=ce l:=by rw[← ads,List.take_append_drop]
 omega
theorem k9 {α:Type} {l:List α} {i:Nat} {x:α} (h:l[i]? =some x):x∈l:=List.mem_of_getElem? h
theorem rowK {α S ω:Type} {l:List α} {f:S->Option (S ⊕ ω)} (R:Nat->S->Prop) (F:ω->Prop)
  (h1:∀i x s,l[i]? =some x->R i s->Ok (fun z=>∃s',z= .inl s'/\R (i+1) s') (f s)) (h2:∀s,R l.length s->Ok (fun z=>∃o,z= .inr o/\F o) (f s)) (s:S) (h:R 0 s):Ok F (iter f s):=by
 obtain⟨o,e,ho⟩:=rowM (τ:=Unit) (γ:=Empty) (l:=l) (f:=f) (fun _ _ _=> .inl ()) (fun i s _=>R i s) (fun o _=>F o) (fun _ _=>False) (fun i x s _ hx hs=>h1 i x s hx hs) (fun s _ hs=>h2 s hs) l 0 s () rfl (Nat.zero_le _) h
 refine⟨o,e,?_⟩
 have:∀(r:List α) i,rowF (τ:=Unit) (γ:=Empty) (fun _ _ _=> .inl ()) i r ()= .inl ():=by
  intro r
  induction r with
  |nil=>intro i;rfl
  |cons x r ih=>intro i;unfold rowF;exact ih _
 rw[this]at ho
 exact ho
theorem all_at :∀(k:Nat) (x:B5),gk x<=k->gk x<=1000000->ou k x 0=some (z9 x):=by
 intro k
 induction k with
 |zero=>intro x h;have:=ow x;omega
 |succ k ih=>
  intro x hx hk
  show aef (ou k) x 0=_
  have hs:=kc x
  have hl:=ko x.Kids
  unfold aef
  rw[if_pos (show((0:Int)==0)=true from rfl)]
  unfold ab4
  rw[if_pos rfl,oj sm sm,Option.bind_some]
  unfold ab5 ae9
  obtain⟨o,e,rfl⟩:=rowK (l:=x.Kids) (f:=fun s:Int × List B5=>uk (ou k) x 0 s.1 s.2) (fun i s=>s=((i:Int),x::flatL (x.Kids.take i))) (fun o=>o=z9 x) (fun i y s hy h=>by
   subst h
   have hn:=nq hy
   dsimp only
   unfold uk
   rw[if_pos (gm hy),ei hy,Option.bind_some,ih y om om,Option.bind_some,oj (by simp[agt,ain];omega) (by simp[agt,ain];omega),Option.bind_some,aae (by have:=(List.getElem?_eq_some_iff.1 hy).1;omega)]
   exact .mk ⟨_,rfl,by rw[aq5 hy];simp⟩) (fun s h=>by
   subst h
   dsimp only
   unfold uk
   rw[if_neg (gt (Nat.le_refl _))]
   exact .mk ⟨_,rfl,by rw[List.take_length,asa]⟩) (0,[]++[x]) (by simp[flatL])
  exact(congrArg (fun z=>z.bind some) e).trans rfl
theorem at6 {x:B5} (h:gk x<=1000000):aog x 0=some (z9 x):=all_at 1048576 x om h
theorem walk_at (yld:List B5->B5->Option (Bool × List B5)) (hy:∀s a,s.length<=1000000->yld s a=some (true,s++[a])):∀(k:Nat) (x:B5) (s:List B5),gk x<=k->s.length+gk x<=1000000->mn yld k x s=some (true,s++z9 x):=by
 intro k
 induction k with
 |zero=>intro x s h;have:=ow x;omega
 |succ k ih=>
  intro x s hx hk
  show aeg yld (mn yld k) x s=_
  have hs:=kc x
  have hl:=ko x.Kids
  unfold aeg
  rw[hy s x om,Option.bind_some]
  dsimp only
  rw[if_neg sm]
  obtain⟨o,e,rfl⟩:=rowK (l:=x.Kids) (f:=fun t:Int × List B5=>rp yld (mn yld k) x t.1 t.2) (fun i t=>t=((i:Int),s++x::flatL (x.Kids.take i))) (fun o=>o= .next (s++z9 x)) (fun i y t hy h=>by
   subst h
   have hn:=nq hy
   dsimp only
   unfold rp
   rw[if_pos (gm hy),ei hy,Option.bind_some,ih y _ om (by simp[agt];omega),Option.bind_some]
   dsimp only
   rw[if_neg sm,aae (by have:=(List.getElem?_eq_some_iff.1 hy).1;omega)]
   exact .mk ⟨_,rfl,by rw[aq5 hy];simp⟩) (fun t h=>by
   subst h
   dsimp only
   unfold rp
   rw[if_neg (gt (Nat.le_refl _))]
   exact .mk ⟨_,rfl,by rw[List.take_length,asa]⟩) (0,s++[x]) (by simp[flatL])
  have e':iter (fun t=>rp yld (mn yld k) x t.1 t.2) (0,s++[x])=some (.next (s++z9 x)):=e
  rw[e',Option.bind_some]
  rfl
theorem avp {x:B5} (h:gk x<=1000000):akm x 0=some (z9 x):=by
 unfold akm afc aoi
 rw[walk_at _ (fun s a hs=>?_) 1048576 x [] om (by simpa using h)]
 ·simp
 ·unfold ad8 ad9
  rw[if_pos (by rfl),if_pos rfl,oj so so,Option.bind_some,ah6 rfl,Option.bind_some,anv rfl]
abbrev zeroN :B5:=B5.mk 0 [] [] 0 0 0 0 0 []
def decl (x:B5):Bool:=x.Kind==4||x.Kind==6
mutual
def agnN (own:List Bt):B5->Option B5
 |⟨_,_,_,_,_,_,_,_,kids⟩=>agnL own kids
def agnL (own:List Bt):List B5->Option B5
 | []=>none
 |k::r=>if(decl k&&own.any (·==k.Text))=true then some k else match agnN own k with|some x=>some x|none=>agnL (if decl k=true then own++[k.Text]else own) r
end
theorem ayg (own:List Bt) (x:B5):agnN own x=agnL own x.Kids:=by cases x;simp[agnN]
def agnG :Nat->List Bt->B5->List Bt ⊕ B5:=fun _ own k=>
 if(decl k&&own.any (·==k.Text))=true then .inr k else match agnN own k with|some x=> .inr x|none=> .inl (if decl k=true then own++[k.Text]else own)
theorem asf :∀(l:List B5) (i:Nat) (own:List Bt),agnL own l=match rowF agnG i l own with| .inl _=>none| .inr x=>some x
 | [],_,own=>by simp[agnL,rowF]
 |k::r,i,own=>by
  unfold agnL rowF agnG
  by_cases h:(decl k&&own.any (·==k.Text))=true
  ·rw[if_pos h,if_pos h]
  ·rw[if_neg h,if_neg h]
   cases agnN own k with
   |some x=>rfl
   |none=>exact asf r (i+1) _
end Go.Proofs.YtcndghapmoaidaaGreatDoor
set_option linter.unusedSectionVars false
set_option linter.unusedVariables false
set_option linter.unusedSimpArgs false
set_option maxRecDepth 100000
set_option maxHeartbeats 4000000
namespace Go.Proofs.YtcndghapmoaidaaGreatDoor
open Go Go.Cn
variable [Glob]
theorem amj {α γ:Type} (p:α->Bool) (b:γ):∀(l:List α) (i:Nat),lg p (fun _ _=>b) i l=if l.any p=true then .done b else .next ()
 | [],_=>rfl
 |x::r,i=>by
  unfold lg
  by_cases hp:p x=true
  ·rw[if_pos hp,List.any_cons,hp,Bool.true_or,if_pos rfl]
  ·rw[if_neg hp,List.any_cons,Bool.eq_false_iff.2 hp,Bool.false_or];exact amj p b r (i+1)
theorem k7 {α:Type} {l:List α} {i:Nat} {x:α} (h:l[i]? =some x):i<l.length:=(List.getElem?_eq_some_iff.1 h).1
theorem aku {l:List B5} {i:Nat} {x:B5} (h:l[i]? =some x):gk x<=ce l:=akt (k9 h)
theorem azo :∀(k:Nat) (x:B5) (own:List Bt) (m:SMap Bool),gk x<=k->gk x<=1000000->(∀t,mget t false m=own.any (·==t))->
  jl k x m=some (match agnN own x with|some y=>(y,true)|none=>(zeroN,false)):=by
 intro k
 induction k with
 |zero=>intro x _ _ h;have:=ow x;omega
 |succ k ih=>
  intro x own m hx hk hm
  show zm (jl k) x m=_
  have hs:=kc x
  have hl:=ko x.Kids
  unfold zm aml
  rw[Option.bind_some]
  obtain⟨o,e,ho⟩:=rowM (l:=x.Kids) (f:=fun s:Int × SMap Bool=>nj (jl k) x s.1 s.2) agnG (fun i s own=>s.1=(i:Int)/\∀t,mget t false s.2=own.any (·==t)) (fun o _=>∃p,o= .next p) (fun o e=>o= .done (e,true)) (fun i y s own hy h=>by
   obtain⟨s1,s2⟩:=s
   obtain⟨rfl,hm⟩:=h
   dsimp only at hm ⊢
   have hi:=k7 hy
   have hn:=aku hy
   have f:Ok (Step (fun s own=>s.1=((i+1:Nat):Int)/\∀t,mget t false s.2=own.any (·==t)) (fun o e=>o= .done (e,true)) (agnG i own y)) (tg (jl k) y s2 i (decl y)):=by
    unfold tg w5 w6 agnG
    rw[ih y own s2 om om hm,aae om,hm]
    cases decl y
    ·simp only[Bool.false_eq_true,if_false,Bool.false_and,Option.bind_some]
     cases agnN own y with
     |some z=>exact .mk ⟨_,rfl,rfl⟩
     |none=>exact .mk ⟨_,rfl,rfl,hm⟩
    ·simp only[if_true,Bool.true_and,Option.bind_some]
     refine .cond (fun h=>?_) fun h=>?_
     ·rw[if_pos h]
      exact .mk ⟨_,rfl,rfl⟩
     ·rw[if_neg (by rw[h];simp)]
      cases agnN own y with
      |some z=>exact .mk ⟨_,rfl,rfl⟩
      |none=>
       refine .mk ⟨_,rfl,rfl,fun t=>?_⟩
       dsimp only
       rw[akv,hm,List.any_append]
       by_cases ht:y.Text=t
       ·rw[if_pos ht,ht];simp
       ·rw[if_neg ht]
        have:(y.Text==t)=false:=by simpa using ht
        simp[this]
   unfold nj
   rw[if_pos (gm hy),ei hy,Option.bind_some]
   have e:decl y=((y.Kind==4)||(y.Kind==6)):=rfl
   rw[e]at f
   cases h4:(y.Kind==4)
   ·rw[h4,Bool.false_or]at f;rw[if_neg sm];exact f
   ·rw[h4,Bool.true_or]at f;rw[if_pos rfl];exact f) (fun s own h=>by
   obtain⟨s1,s2⟩:=s
   obtain⟨rfl,hm⟩:=h
   dsimp only
   unfold nj
   rw[if_neg (gt (Nat.le_refl _))]
   exact .mk ⟨_,rfl,_,rfl⟩) x.Kids 0 (0,m) own rfl (Nat.zero_le _) ⟨rfl,hm⟩
  have e':iter (fun s=>nj (jl k) x s.1 s.2) (0,m)=some o:=e
  rw[e',Option.bind_some,ayg,asf x.Kids 0 own]
  revert ho
  cases rowF agnG 0 x.Kids own with
  |inl t=>rintro⟨p,rfl⟩;rfl
  |inr y=>rintro rfl;rfl
theorem a0q :∀(k:Nat) (x:B5) (own:List Bt),gk x<=k->own.length+gk x<=1000000->
  ∃o,gr k x own=some (match agnN own x with|some y=>(y,true,o)|none=>(zeroN,false,o)):=by
 intro k
 induction k with
 |zero=>intro x _ h;have:=ow x;omega
 |succ k ih=>
  intro x own hx hk
  show ∃o,zh (gr k) x own=_
  have hs:=kc x
  have hl:=ko x.Kids
  unfold zh
  obtain⟨o,e,ho⟩:=rowM (l:=x.Kids) (f:=fun s:List Bt × Int=>nf (gr k) x s.1 s.2) agnG (fun i s w=>s=(w,(i:Int))/\w.length<=own.length+i) (fun o _=>∃p,o= .next p) (fun o e=>o= .done (e,true,[])) (fun i y s w hy h=>by
   obtain⟨rfl,hw⟩:=h
   dsimp only
   have hi:=k7 hy
   have hn:=nq hy
   have hn2:i<=ce (x.Kids.take i):=by
    have:=ko (x.Kids.take i)
    rw[List.length_take]at this
    omega
   obtain⟨o,ho⟩:=ih y w om om
   have j5:agnN w y=none\/(∃z,agnN w y=some z)->Ok (Step (fun s w=>s=(w,((i+1:Nat):Int))/\w.length<=own.length+(i+1)) (fun o e=>o= .done (e,true,[])) (match agnN w y with|some x=> .inr x|none=> .inl (if decl y=true then w++[y.Text]else w))) (s6 (gr k) y w i):=fun _=>by
    unfold s6 wj wk
    rw[ho,Option.bind_some,oj so so,Option.bind_some,oj so so,Option.bind_some,aae om]
    cases agnN w y with
    |some z=>exact .mk ⟨_,rfl,rfl⟩
    |none=>
     dsimp only
     have e:decl y=((y.Kind==4)||(y.Kind==6)):=rfl
     rw[e]
     cases (y.Kind==4)<;>cases (y.Kind==6)<;>exact .mk ⟨_,rfl,rfl,by simp;omega⟩
   have j5:=j5 (by cases agnN w y;exact .inl rfl;exact .inr ⟨_,rfl⟩)
   have f:Ok (Step (fun s w=>s=(w,((i+1:Nat):Int))/\w.length<=own.length+(i+1)) (fun o e=>o= .done (e,true,[])) (agnG i w y)) (s5 (gr k) w y i (decl y)):=by
    unfold s5 aa1 agnG
    cases hd:decl y<;>rw[hd]at j5
    ·simp only[Bool.false_eq_true,if_false,Bool.false_and]
     exact j5
    ·simp only[if_true,Bool.true_and]
     have hs:=ir (l:=w) (f:=fun s=>qf (gr k) w y s) (fun t=>t==y.Text) (fun _ _=>(.inr (.done (y,true,[])):((List Bt) × Int) ⊕ (Flow (List Bt) (B5 × Bool × (List Bt))))) om (fun q t ht=>by
      unfold qf aa2
      rw[if_pos (gm ht),ei ht]
      rfl) (fun q hq=>by
      unfold qf
      rw[if_neg (gt hq)]) w 0 rfl
     rw[show((0:Nat):Int)=0 from rfl,amj]at hs
     rw[hs,Option.bind_some]
     by_cases h:w.any (fun t=>t==y.Text)=true
     ·rw[if_pos h,if_pos h]
      exact .mk ⟨_,rfl,rfl⟩
     ·rw[if_neg h,if_neg h]
      exact j5
   unfold nf
   rw[if_pos (gm hy),ei hy,Option.bind_some]
   have e:decl y=((y.Kind==4)||(y.Kind==6)):=rfl
   rw[e]at f
   cases h4:(y.Kind==4)
   ·rw[h4,Bool.false_or]at f;rw[if_neg sm];exact f
   ·rw[h4,Bool.true_or]at f;rw[if_pos rfl];exact f) (fun s w h=>by
   obtain⟨rfl,hw⟩:=h
   dsimp only
   unfold nf
   rw[if_neg (gt (Nat.le_refl _))]
   exact .mk ⟨_,rfl,_,rfl⟩) x.Kids 0 (own,0) own rfl (Nat.zero_le _) ⟨rfl,by omega⟩
  have e':iter (fun s=>nf (gr k) x s.1 s.2) (own,0)=some o:=e
  rw[e',Option.bind_some,ayg,asf x.Kids 0 own]
  revert ho
  cases rowF agnG 0 x.Kids own with
  |inl t=>rintro⟨p,rfl⟩;exact⟨_,rfl⟩
  |inr y=>rintro rfl;exact⟨_,rfl⟩
theorem a0h {u:Nat} (h:u<=9223372036854775807):apn [IntKind.wrap .u8 (w64 (48+(Int.tmod (u:Int) 10)))]=[UInt8.ofNat (48+u % 10)]:=by
 have e:Int.tmod (u:Int) 10=((u % 10:Nat):Int):=by
  rw[Int.tmod_eq_emod_of_nonneg om]
  omega
 have w:IntKind.wrap .u8 (48+((u % 10:Nat):Int))=48+((u % 10:Nat):Int):=by
  unfold IntKind.wrap
  have e1:(2:Int) ^ (IntKind.u8.bits)=256:=rfl
  have e3:IntKind.u8.signed=false:=rfl
  simp only[e1,e3,Bool.false_and]
  rw[if_neg sm]
  omega
 rw[e,c5 om om,w]
 unfold apn
 simp only[List.map_cons,List.map_nil]
 congr 2
theorem catB {a b:Bt} (h:a.length+b.length<=9000000000):cat a b=some (a++b):=by
 obtain⟨_,e,rfl⟩:=cat_ok h
 exact e
theorem ava :∀(k u:Nat),u<10 ^ k->0<k->(Lib.decDigits u).length<=k
 | 0,_,_,h=>absurd h (Nat.lt_irrefl _)
 |k+1,u,h,_=>by
  rw[Lib.decDigits]
  by_cases hu:u<10
  ·rw[dif_pos hu];simp
  ·rw[dif_neg hu]
   rw[Nat.pow_succ]at h
   have hk:0<k:=by
    rcases Nat.eq_zero_or_pos k with rfl|hk
    ·simp at h;omega
    ·exact hk
   have:=ava k (u / 10) om hk
   simp
   omega
theorem as1 :∀(k u:Nat) (acc:Bt),u<10 ^ k->0<k->acc.length+k<=1000->u<=9223372036854775807->
  iter (fun s=>nu s.1 s.2) ((u:Int),acc)=some (Lib.decDigits u++acc):=by
 intro k
 induction k with
 |zero=>intro u acc _ h;exact absurd h (Nat.lt_irrefl _)
 |succ k ih=>
  intro u acc hk _ ha hu
  have e:Int.tdiv (u:Int) 10=((u / 10:Nat):Int):=by
   rw[Int.tdiv_eq_ediv_of_nonneg om]
   omega
  have step:nu (u:Int) acc=if u<10 then some (.inr ([UInt8.ofNat (48+u % 10)]++acc))else some (.inl (((u / 10:Nat):Int),[UInt8.ofNat (48+u % 10)]++acc)):=by
   unfold nu
   rw[a0h hu,catB (by simp only[List.length_cons,List.length_nil];omega),e,c5 om om,Option.bind_some]
   by_cases h10:u<10
   ·rw[if_pos so,if_pos h10]
   ·rw[if_neg so,if_neg h10]
  by_cases h10:u<10
  ·rw[if_pos h10]at step
   rw[dn step,Lib.decDigits,dif_pos h10,Nat.mod_eq_of_lt h10]
  ·rw[if_neg h10]at step
   rw[Nat.pow_succ]at hk
   have hk0:0<k:=by
    rcases Nat.eq_zero_or_pos k with rfl|hk0
    ·simp at hk;omega
    ·exact hk0
   rw[gv (s':=(((u / 10:Nat):Int),[UInt8.ofNat (48+u % 10)]++acc)) step,ih (u / 10) _ om hk0 (by simp only[List.length_append,List.length_cons,List.length_nil];omega) om,Lib.decDigits.eq_1 u,dif_neg h10,List.append_assoc]
theorem a0g {u:Nat} (h:u<=9223372036854775807):abz u=some (Lib.decDigits u):=by
 unfold abz
 rw[if_neg sm,as1 20 u [] om om sm h,List.append_nil]
def ah4 (m:Bt) (n:Nat):Bt:=m++[35]++Lib.decDigits n
def aif (c n:Bt):Bt:=c++[46]++n
def nm (c n:Bt):Bt:=c++[46]++n++[40,41]
theorem aj0 {m:Bt} {n:Nat} (hm:m.length<=1000000000) (hn:n<=1000000000):pq m n=some (ah4 m n):=by
 have:=ava 20 n om om
 unfold pq ah4
 rw[catB so,Option.bind_some,a0g om,Option.bind_some,catB so]
 rfl
theorem aj4 {m:Bt} {n:Nat} (hm:m.length<=1000000000) (hn:n<=1000000000):uf m n=some (ah4 m n):=by
 have:=ava 20 n om om
 unfold uf aez pk k6 ah4
 rw[catB so,Option.bind_some,if_neg (show ¬(0:Int)>(n:Int)by omega),if_pos ⟨rfl,by omega,by omega⟩]
 have e:Lib.itoa (n:Int)=Lib.decDigits n:=by
  unfold Lib.itoa
  rw[if_neg om,Int.toNat_natCast]
 rw[e]
 simp only[Option.bind_some]
 rw[catB so]
 rfl
theorem aj2 {a b:Bt} (h:a.length+b.length<=8000000000):aaq a b=some (aif a b):=by
 unfold aaq aif
 rw[catB so,Option.bind_some,catB so]
 rfl
theorem aga {a b:Bt} (h:a.length+b.length<=8000000000):yc a b=some (aif a b):=by
 unfold yc aif
 rw[catB so,Option.bind_some,catB so]
 rfl
theorem aek {a b:Bt} (h:a.length+b.length<=8000000000):uj a b=some (nm a b):=by
 unfold uj nm
 rw[catB so,Option.bind_some,catB so,Option.bind_some,catB so]
 rfl
theorem aem {a b:Bt} (h:a.length+b.length<=8000000000):uq a b=some (nm a b):=by
 unfold uq nm
 rw[aga h,Option.bind_some]
 unfold aif
 rw[catB so]
 rfl
end Go.Proofs.YtcndghapmoaidaaGreatDoor
set_option linter.unusedSectionVars false
set_option linter.unusedVariables false
set_option linter.unusedSimpArgs false
set_option maxRecDepth 100000
set_option maxHeartbeats 4000000
namespace Go.Proofs.YtcndghapmoaidaaGreatDoor
open Go Go.Cn
variable [Glob]
def azj (e x:A9):Bool:=x.Kind==e.Kind&&x.Owner==e.Owner&&x.Name==e.Name
def dup (l:List A9) (e:A9):Bool:=e.Kind != 4&&l.any (azj e)
def yi (f:Int) (c:B5):A9:=A9.mk 1 c.Text c.Text [] c.Type_ false [] f c.At
def abu (c:Bt) (f:Int) (k:B5):A9:=A9.mk 2 (aif c k.Text) k.Text c k.Type_ (k.N==1) [] f k.At
def parG (ps:List Bt) (x:B5):List Bt:=if(x.Kind==4)=true then ps++[x.Type_]else ps
def pars (k:B5):List Bt:=k.Kids.foldl parG []
def alx (c:Bt) (f:Int) (k:B5):A9:=A9.mk 3 (nm c k.Text) k.Text c k.Type_ (k.N==1) (pars k) f k.At
def locG (m:Bt) (f:Int) (l:List A9) (x:B5):List A9:=if decl x=true then l++[A9.mk 4 (ah4 m l.length) x.Text m x.Type_ false [] f x.At]else l
def locs (c:Bt) (f:Int) (k:B5):List A9:=(z9 k).foldl (locG (nm c k.Text) f) []
abbrev Bad :=A9 ⊕ B5
def memX (c:Bt) (f:Int) (l:List A9) (k:B5):List A9 ⊕ Bad:=
 if(k.Kind==2)=true then(if dup l (abu c f k)=true then .inr (.inl (abu c f k))else .inl (l++[abu c f k]))
 else if(k.Kind==3)=true then(if dup l (alx c f k)=true then .inr (.inl (alx c f k))else match agnN [] k with|some x=> .inr (.inr x)|none=> .inl (l++alx c f k::locs c f k))
 else .inl l
def clsX (f:Int) (l:List A9) (c:B5):List A9 ⊕ Bad:=
 if dup l (yi f c)=true then .inr (.inl (yi f c))else rowF (fun _ l k=>memX c.Text f l k) 0 c.Kids (l++[yi f c])
def mist (f:Int):Bad->B3
 | .inl e=>B3.mk 150 e.File e.At
 | .inr x=>B3.mk 150 f x.At
def tabC (f:Int) (l:List A9) (c:B5):List A9 ⊕ B3:=
 if(c.Kind==1)=true then(match clsX f l c with| .inl l'=> .inl l'| .inr e=> .inr (mist f e))else .inl l
def tab (files:List (List B5)):List A9 ⊕ B3:=rowF (fun f l file=>rowF (fun _ l c=>tabC f l c) 0 file l) 0 files []
def tabR :List A9 ⊕ B3->List A9 × B3
 | .inl l=>(l,B3.mk 0 0 0)
 | .inr m=>([],m)
theorem aje {α β:Type} (g:β->α->β) (b:β) {l:List α} {i:Nat} {x:α} (h:l[i]? =some x):(l.take (i+1)).foldl g b=g ((l.take i).foldl g b) x:=by
 obtain⟨hi,rfl⟩:=List.getElem?_eq_some_iff.1 h
 rw[List.take_succ_eq_append_getElem hi,List.foldl_append]
 rfl
theorem akn (m:Bt) (f:Int):∀(r:List B5) (l:List A9),(r.foldl (locG m f) l).length<=l.length+r.length
 | [],l=>by simp
 |x::r,l=>by
  have:=akn m f r (locG m f l x)
  have h2:(locG m f l x).length<=l.length+1:=by
   unfold locG
   split<;>simp
  simp only[List.foldl_cons,List.length_cons]
  omega
theorem ats (m:Bt) (f:Int):∀(r:List B5) (l:List A9),(∀e∈l,e.Kind=4)->∀e∈r.foldl (locG m f) l,e.Kind=4
 | [],l,h=>h
 |x::r,l,h=>ats m f r _ fun e he=>by
  unfold locG at he
  split at he
  ·rcases List.mem_append.1 he with he|he
   ·exact h e he
   ·rw[List.mem_singleton.1 he]
  ·exact h e he
theorem atq (c:Bt) (f:Int) (k:B5):∀e∈locs c f k,e.Kind=4:=ats _ _ _ _ fun _ h=>by cases h
theorem ar6 {c:Bt} {f:Int} {k:B5} (h:decl k=false):(locs c f k).length+1<=gk k:=by
 unfold locs
 rw[asa,List.foldl_cons]
 have e:locG (nm c k.Text) f [] k=[]:=by
  unfold locG
  rw[if_neg (by rw[h];simp)]
 have:=akn (nm c k.Text) f (flatL k.Kids) []
 rw[e,kc k]
 rw[agt]at this
 simp only[List.length_nil]at this
 omega
theorem anm :∀(r:List B5) (ps:List Bt),(r.foldl parG ps).length<=ps.length+r.length
 | [],l=>by simp
 |x::r,l=>by
  have:=anm r (parG l x)
  have h2:(parG l x).length<=l.length+1:=by
   unfold parG
   split<;>simp
  simp only[List.foldl_cons,List.length_cons]
  omega
theorem atz {κ β:Type} [DecidableEq κ] (k j:κ) (z v:β):∀m:GMap κ β,gget k z (gset j v m)=if j=k then v else gget k z m
  | []=>by
    unfold gset gget
    split<;>rfl
  | (a, b) :: m => by
    unfold gset
    by_cases ha:a=j
    · rw[if_pos ha]
      unfold gget
      subst ha
      split<;>rfl
    · rw[if_neg ha]
      unfold gget
      by_cases hk:a=k
      · subst hk
        rw[if_pos rfl,if_pos rfl,if_neg (fun e=>ha e.symm)]
      · rw[if_neg hk,if_neg hk,atz k j z v m]
def Kn (known:GMap B0 Bool) (l:List A9):Prop:=∀k:B0,k.kind≠4->gget k false known=l.any fun x=>x.Kind==k.kind&&x.Owner==k.owner&&x.Name==k.name
theorem Kn.nil:Kn [] []:=fun _ _=>rfl
theorem Kn.put {known:GMap B0 Bool} {l:List A9} (h:Kn known l) (e:A9):Kn (gset (B0.mk e.Kind e.Owner e.Name) true known) (l++[e]):=fun k hk=>by
 rw[atz,h k hk,List.any_append]
 obtain⟨k1,k2,k3⟩:=k
 by_cases he:B0.mk e.Kind e.Owner e.Name=B0.mk k1 k2 k3
 ·rw[if_pos he]
  injection he with a1 a2 a3
  simp[a1,a2,a3]
 ·rw[if_neg he]
  have:(e.Kind==k1&&e.Owner==k2&&e.Name==k3)=false:=by
   rw[Bool.eq_false_iff]
   intro h
   rw[Bool.and_eq_true,Bool.and_eq_true]at h
   obtain⟨⟨a1,a2⟩,a3⟩:=h
   exact he (by rw[show e.Kind=k1 by simpa using a1,show e.Owner=k2 by simpa using a2,show e.Name=k3 by simpa using a3])
  simp[this]
theorem Kn.locals {known:GMap B0 Bool} {l m:List A9} (h:Kn known l) (hm:∀e∈m,e.Kind=4):Kn known (l++m):=fun k hk=>by
 rw[h k hk,List.any_append]
 have:(m.any fun x=>x.Kind==k.kind&&x.Owner==k.owner&&x.Name==k.name)=false:=by
  rw[List.any_eq_false]
  intro e he h
  rw[Bool.and_eq_true,Bool.and_eq_true]at h
  have:=hm e he
  have:e.Kind=k.kind:=by simpa using h.1.1
  omega
 rw[this,Bool.or_false]
theorem axr {t:B4} {e:A9} (hk:Kn t.known t.l) (h4:e.Kind≠4) (hl:t.l.length<=1000000000):
  nv e t=some (if dup t.l e=true then(false,B4.mk t.l t.known (B3.mk 150 e.File e.At))else(true,B4.mk (t.l++[e]) (gset (B0.mk e.Kind e.Owner e.Name) true t.known) t.m)):=by
 unfold nv tx tz t6 ov
 rw[hk _ h4,oj so so]
 have:dup t.l e=t.l.any fun x=>x.Kind==e.Kind&&x.Owner==e.Owner&&x.Name==e.Name:=by
  unfold dup
  have:(e.Kind != 4)=true:=by simpa using h4
  rw[this,Bool.true_and]
  rfl
 rw[this]
 split<;>rfl
theorem az5 {x:B5} {l:List A9} {e:A9} (he:e.Id.length<=1000000000) (hl:l.length<=1000000000):mr x l e=some (l++[A9.mk 4 (ah4 e.Id l.length) x.Text e.Id x.Type_ false [] e.File x.At],e):=by
 unfold mr
 rw[aj4 he hl,Option.bind_some,oj so so]
 rfl
abbrev TabP' (l':List A9) (t:B4):Prop:=t.l=l'/\Kn t.known l'
abbrev MP (f:Int):List A9 ⊕ Bad->Bool × B4->Prop
 | .inl l,r=>r.1=true/\TabP' l r.2
 | .inr e,r=>r.1=false/\r.2.m=mist f e
theorem ajd (c n:Bt):(nm c n).length=c.length+n.length+3:=by unfold nm;simp;omega
theorem ay2 {c:Bt} {f:Int} {k:B5} {t:B4} {e:A9} (he:e=A9.mk 2 e.Id k.Text c k.Type_ (k.N==1) [] f k.At) (hk:k.Kind=3) (hn:gk k<=1000000) (hc:c.length+k.Text.length<=100000000) (hK:Kn t.known t.l) (hl:t.l.length<=100000000):
    Ok (MP f (memX c f t.l k)) (o9 k t e):=by
  have hs:=kc k
  have hkl:=ko k.Kids
  have hm:=ajd c k.Text
  have hd:decl k=false:=by unfold decl;simp[hk]
  have hll:=ar6 (c:=c) (f:=f) hd
  unfold o9
  rw[he]
  dsimp only
  rw[aem om,Option.bind_some,avp hn,Option.bind_some]
  have hf:=ain k
  obtain⟨o,e1,rfl⟩:=rowK (l:=z9 k) (f:=fun s:Int × Int × Bt × Bt × Bt × Bt × Bool × Int × Int × List Bt × List A9=>i6 (z9 k) s.1 s.2.1 s.2.2.1 s.2.2.2.1 s.2.2.2.2.1 s.2.2.2.2.2.1 s.2.2.2.2.2.2.1 s.2.2.2.2.2.2.2.1 s.2.2.2.2.2.2.2.2.1 s.2.2.2.2.2.2.2.2.2.1 s.2.2.2.2.2.2.2.2.2.2)
    (fun i s=>s=((i:Int),3,nm c k.Text,k.Text,c,k.Type_,(k.N==1),f,k.At,[],((z9 k).take i).foldl (locG (nm c k.Text) f) [])) (fun o=>o=([],3,nm c k.Text,k.Text,c,k.Type_,(k.N==1),f,k.At,locs c f k)) (fun i x s hx h=>by
      subst h
      have hi:=k7 hx
      have hlen:=akn (nm c k.Text) f ((z9 k).take i) []
      rw[List.length_take,List.length_nil]at hlen
      dsimp only
      unfold i6
      rw[if_pos (gm hx),ei hx,Option.bind_some]
      have f8:Ok (fun z=>∃s',z= .inl s'/\s'=(((i+1:Nat):Int),(3:Int),nm c k.Text,k.Text,c,k.Type_,(k.N==1),f,k.At,([]:List Bt),((z9 k).take (i+1)).foldl (locG (nm c k.Text) f) [])) (kb x (((z9 k).take i).foldl (locG (nm c k.Text) f) []) 3 (nm c k.Text) k.Text c k.Type_ (k.N==1) [] f k.At i (decl x)):=by
        unfold kb lz
        rw[az5 (by simp only;omega) om,Option.bind_some,aae om,aje _ _ hx]
        unfold locG
        cases decl x
        · rw[if_neg sm,if_neg sm]
          exact .mk ⟨_,rfl,rfl⟩
        · rw[if_pos rfl,if_pos rfl]
          exact .mk ⟨_,rfl,rfl⟩
      have e:decl x=((x.Kind==4)||(x.Kind==6)):=rfl
      rw[e]at f8
      cases h4:(x.Kind==4)
      · rw[h4,Bool.false_or]at f8;rw[if_neg sm];exact f8
      · rw[h4,Bool.true_or]at f8;rw[if_pos rfl];exact f8) (fun s h=>by
      subst h
      dsimp only
      unfold i6
      rw[if_neg (gt (Nat.le_refl _))]
      exact .mk ⟨_,rfl,by rw[List.take_length];rfl⟩) (0,3,nm c k.Text,k.Text,c,k.Type_,(k.N==1),f,k.At,[],[]) rfl
  refine .bd ⟨_,e1,rfl⟩ fun o ho=>?_
  subst ho
  dsimp only
  unfold pl
  obtain⟨o,e2,rfl⟩:=rowK (l:=k.Kids) (f:=fun s:Int × List Bt=>i7 k s.1 s.2) (fun i s=>s=((i:Int),(k.Kids.take i).foldl parG [])) (fun o=>o=pars k) (fun i x s hx h=>by
      subst h
      have hi:=k7 hx
      have hlen:=anm (k.Kids.take i) []
      rw[List.length_take,List.length_nil]at hlen
      dsimp only
      unfold i7 l4
      rw[if_pos (gm hx),ei hx,Option.bind_some,oj so so,Option.bind_some,aae om,aje _ _ hx]
      unfold parG
      refine .cond (fun h=>?_) fun h=>?_
      · rw[if_pos h];exact .mk ⟨_,rfl,rfl⟩
      · rw[if_neg (by rw[h];simp)];exact .mk ⟨_,rfl,rfl⟩) (fun s h=>by
      subst h
      dsimp only
      unfold i7
      rw[if_neg (gt (Nat.le_refl _))]
      exact .mk ⟨_,rfl,by rw[List.take_length];rfl⟩) (0,[]) rfl
  refine .bd ⟨_,e2,rfl⟩ fun o ho=>?_
  subst ho
  unfold pn po memX
  rw[axr hK sm om,Option.bind_some,if_neg (by simp[hk]),if_pos (by simp[hk])]
  have ee:A9.mk 3 (nm c k.Text) k.Text c k.Type_ (k.N==1) (pars k) f k.At=alx c f k:=rfl
  rw[ee]
  by_cases hdup:dup t.l (alx c f k)=true
  · rw[if_pos hdup,if_pos hdup]
    exact .mk ⟨rfl,rfl⟩
  · rw[if_neg hdup,if_neg hdup]
    dsimp only
    rw[if_neg sm,oj so so,Option.bind_some]
    unfold akb
    rw[azo 1048576 k [] [] om hn (fun _=>rfl),Option.bind_some]
    have hK2:=(hK.put (alx c f k)).locals (atq c f k)
    rw[List.append_assoc]at hK2
    cases agnN [] k with
    |some x=>
      dsimp only
      rw[if_pos rfl]
      unfold ov
      exact .mk ⟨rfl,rfl⟩
    |none=>
      dsimp only
      rw[if_neg sm,List.append_assoc]
      exact .mk ⟨rfl,rfl,hK2⟩
end Go.Proofs.YtcndghapmoaidaaGreatDoor
set_option linter.unusedSectionVars false
set_option linter.unusedVariables false
set_option linter.unusedSimpArgs false
set_option maxRecDepth 100000
set_option maxHeartbeats 4000000
namespace Go.Proofs.YtcndghapmoaidaaGreatDoor
open Go Go.Cn
variable [Glob]
theorem yk {l:List B5} {i:Nat} {x:B5} (h:l[i]? =some x):i<=ce (l.take i)/\i<l.length/\l.length<=ce l:=by
 have h1:=ko (l.take i)
 have h2:=k7 h
 rw[List.length_take]at h1
 exact⟨by omega,h2,ko l⟩
theorem awa {c:Bt} {f:Int} {l l':List A9} {k:B5} (h:memX c f l k= .inl l'):l'.length<=l.length+gk k:=by
  unfold memX at h
  have hp:=ow k
  split at h
  · split at h
    · cases h
    · cases h;simp;omega
  · split at h
    · rename_i h3
      split at h
      · cases h
      · split at h
        · cases h
        · cases h
          have hd : decl k = false := by unfold decl; have : k.Kind = 3 := by simpa using h3
                                         simp[this]
          have:=ar6 (c:=c) (f:=f) hd
          simp
          omega
    · cases h;omega
theorem a0k {f:Int} {c:B5} {t:B4} (hn:gk c<=1000000) (hc:okB 1500 c) (hK:Kn t.known t.l) (hl:t.l.length<=10000000):Ok (MP f (clsX f t.l c)) (rg f c t):=by
  have hs:=kc c
  rw[aex]at hc
  unfold rg ug
  rw[Option.bind_some]
  have ee:A9.mk 1 c.Text c.Text [] c.Type_ false [] f c.At=yi f c:=rfl
  rw[ee,axr hK (by unfold yi;simp) om,Option.bind_some]
  unfold clsX
  by_cases hd:dup t.l (yi f c)=true
  · rw[if_pos hd,if_pos hd]
    dsimp only
    unfold ms
    rw[if_pos (by rfl)]
    exact .mk ⟨rfl,rfl⟩
  · rw[if_neg hd,if_neg hd]
    dsimp only
    unfold ms
    rw[if_neg sm]
    dsimp only
    obtain⟨o,e1,ho⟩:=rowM (l:=c.Kids) (f:=fun s:Int × B3 × GMap B0 Bool × List A9=>ji c f s.1 s.2.1 s.2.2.1 s.2.2.2) (fun _ l k=>memX c.Text f l k)
      (fun i s l=>s.1=(i:Int)/\s.2.2.2=l/\Kn s.2.2.1 l/\l.length<=t.l.length+1+ce (c.Kids.take i)) (fun o l=>∃m known,o= .next (m,l,known)/\Kn known l) (fun o e=>∃t,o= .done (false,t)/\t.m=mist f e) (fun i k s l hk h=>by
        obtain⟨_,m,known,_⟩:=s
        obtain⟨rfl,rfl,hKn,hlen⟩:=h
        dsimp only at hKn hlen ⊢
        rename_i l
        have hi:=yk hk
        have hz:=nq hk
        have hkB:=aau hc.2 (k9 hk)
        rw[aex]at hkB
        have nx:∀(m':B3) (known':GMap B0 Bool) (l':List A9),memX c.Text f l k= .inl l'->Kn known' l'->Ok (Step (fun s l=>s.1=((i+1:Nat):Int)/\s.2.2.2=l/\Kn s.2.2.1 l/\l.length<=t.l.length+1+ce (c.Kids.take (i+1))) (fun o e=>∃t,o= .done (false,t)/\t.m=mist f e) (memX c.Text f l k)) (jk i false m' known' l'):=fun m' known' l' h1 h2=>by
          have:=awa h1
          unfold jk
          rw[if_neg sm,aae om,h1]
          exact .mk ⟨_,rfl,rfl,rfl,h2,by omega⟩
        unfold ji ug
        rw[if_pos (gm hk),ei hk,Option.bind_some,aga om,Option.bind_some,Option.bind_some]
        unfold qw
        have ef:A9.mk 2 (aif c.Text k.Text) k.Text c.Text k.Type_ (k.N==1) [] f k.At=abu c.Text f k:=rfl
        rw[ef]
        refine .cond (fun h2=>?_) fun h2=>?_
        · rw[axr hKn (by unfold abu;simp) (by simp only;omega),Option.bind_some]
          have em:memX c.Text f l k=if dup l (abu c.Text f k)=true then .inr (.inl (abu c.Text f k))else .inl (l++[abu c.Text f k]):=by
            unfold memX
            rw[if_pos h2]
          by_cases hd2:dup l (abu c.Text f k)=true
          · rw[if_pos hd2]
            dsimp only
            unfold jj
            rw[if_pos (by rfl),em,if_pos hd2]
            exact .mk ⟨_,rfl,_,rfl,rfl⟩
          · rw[if_neg hd2]
            dsimp only
            unfold jj
            have h3:(k.Kind==3)=false:=by
              have:k.Kind=2:=by simpa using h2
              simp[this]
            rw[if_neg sm,if_neg (by rw[h3];simp)]
            exact nx _ _ _ (by rw[em,if_neg hd2]) (hKn.put _)
        · unfold jj
          rw[if_neg sm]
          refine .cond (fun h3=>?_) fun h3=>?_
          · refine .bd (ay2 (f:=f) (c:=c.Text) (k:=k) (t:=B4.mk l known m) (e:=abu c.Text f k) rfl (by simpa using h3) om om hKn (by simp only;omega)) ?_
            rintro⟨b,t'⟩ hb
            dsimp only at hb ⊢
            cases hx:memX c.Text f l k with
            |inl l'=>
              rw[hx]at hb
              obtain⟨h1,h2,h4⟩:=hb
              dsimp only at h1 h2 h4
              subst h1 h2
              have:=nx t'.m t'.known t'.l hx h4
              rw[hx]at this
              exact this
            |inr e=>
              rw[hx]at hb
              obtain⟨h1,h2⟩:=hb
              dsimp only at h1 h2
              subst h1
              unfold jk
              rw[if_pos (by rfl)]
              exact .mk ⟨_,rfl,_,rfl,h2⟩
          · refine nx m known l ?_ hKn
            unfold memX
            rw[if_neg (by rw[h2];simp),if_neg (by rw[h3];simp)]) (fun s l h=>by
        obtain⟨_,m,known,_⟩:=s
        obtain⟨rfl,rfl,hKn,hlen⟩:=h
        dsimp only
        unfold ji
        rw[if_neg (gt (Nat.le_refl _))]
        exact .mk ⟨_,rfl,_,_,rfl,hKn⟩) c.Kids 0 (0,t.m,gset (B0.mk (yi f c).Kind (yi f c).Owner (yi f c).Name) true t.known,t.l++[yi f c]) (t.l++[yi f c]) rfl (Nat.zero_le _) ⟨rfl,rfl,hK.put _,by simp[ce]⟩
    refine .bd ⟨o,e1,ho⟩ fun o ho=>?_
    revert ho
    cases rowF (fun _ l k=>memX c.Text f l k) 0 c.Kids (t.l++[yi f c])with
    |inl l=>
      rintro⟨m,known,rfl,hKn⟩
      exact .mk ⟨rfl,rfl,hKn⟩
    |inr e=>
      rintro⟨t,rfl,h⟩
      exact .mk ⟨rfl,h⟩
theorem awi {f:Int} {l l':List A9} {c:B5} (h:clsX f l c= .inl l'):l'.length<=l.length+gk c:=by
 unfold clsX at h
 split at h
 ·cases h
 ·have key:∀(r:List B5) (i:Nat) (l l':List A9),rowF (fun _ l k=>memX c.Text f l k) i r l= .inl l'->l'.length<=l.length+ce r:=by
   intro r
   induction r with
   |nil=>intro i l l' h;cases h;simp[ce]
   |cons x r ih=>
    intro i l l' h
    unfold rowF at h
    cases hx:memX c.Text f l x with
    |inl l2=>
     rw[hx]at h
     have:=ih _ _ _ h
     have:=awa hx
     simp only[ce]
     omega
    |inr e=>rw[hx]at h;cases h
  have:=key _ _ _ _ h
  rw[kc c]
  simp at this
  omega
theorem av1 {f:Int} {l l':List A9} {c:B5} (h:tabC f l c= .inl l'):l'.length<=l.length+gk c:=by
 unfold tabC at h
 split at h
 ·split at h
  ·rename_i h2
   cases h
   exact awi h2
  ·cases h
 ·cases h;omega
theorem aqf {files:List (List B5)} (h6:files.length<=6) (hF:∀l∈files,apr 1500 l):aec files=some (tabR (tab files)):=by
  unfold aec
  obtain⟨o,e1,ho⟩:=rowM (l:=files) (f:=fun s:Int × GMap B0 Bool × B3 × List A9=>nk files s.1 s.2.1 s.2.2.1 s.2.2.2) (fun f l file=>rowF (fun _ l c=>tabC f l c) 0 file l)
    (fun i s l=>s.1=(i:Int)/\s.2.2.2=l/\Kn s.2.1 l/\l.length<=1500 * i) (fun o l=>∃known m,o= .next (known,m,l)) (fun o e=>o= .done ([],e)) (fun i file s l hf h=>by
      obtain⟨_,known,m,_⟩:=s
      obtain⟨rfl,rfl,hKn,hlen⟩:=h
      dsimp only at hKn hlen ⊢
      rename_i l0
      have hi:=k7 hf
      obtain⟨hB,hN,_⟩:=hF _ (k9 hf)
      unfold nk
      rw[if_pos (gm hf),ei hf,Option.bind_some]
      obtain⟨o,e1,ho⟩:=rowM (l:=file) (f:=fun s:Int × GMap B0 Bool × B3 × List A9=>qm file i s.1 s.2.1 s.2.2.1 s.2.2.2) (fun _ l c=>tabC (i:Int) l c)
        (fun j s l=>s.1=(j:Int)/\s.2.2.2=l/\Kn s.2.1 l/\l.length<=l0.length+ce (file.take j)) (fun o l=>∃known m,o= .next (known,m,l)/\Kn known l/\l.length<=l0.length+ce file) (fun o e=>o= .done (.inr (.done ([],e)))) (fun j c s l hc h=>by
          obtain⟨_,known,m,_⟩:=s
          obtain⟨rfl,rfl,hKn,hlen⟩:=h
          dsimp only at hKn hlen ⊢
          rename_i l
          have hj:=yk hc
          have hz:=nq hc
          have hcB:=aau hB (k9 hc)
          unfold qm
          rw[if_pos (gm hc),ei hc,Option.bind_some]
          have nx:∀(m':B3) (known':GMap B0 Bool) (l':List A9),tabC i l c= .inl l'->Kn known' l'->Ok (Step (fun s l=>s.1=((j+1:Nat):Int)/\s.2.2.2=l/\Kn s.2.1 l/\l.length<=l0.length+ce (file.take (j+1))) (fun o e=>o= .done (.inr (.done ([],e)))) (tabC i l c)) (qn j false m' known' l'):=fun m' known' l' h1 h2=>by
            have:=av1 h1
            unfold qn
            rw[if_neg sm,aae om,h1]
            exact .mk ⟨_,rfl,rfl,rfl,h2,by omega⟩
          refine .cond (fun h1=>?_) fun h1=>?_
          · refine .bd (a0k (f:=i) (c:=c) (t:=B4.mk l known m) om hcB hKn (by simp only;omega)) ?_
            rintro⟨b,t'⟩ hb
            dsimp only at hb ⊢
            have et:tabC i l c=match clsX i l c with| .inl l'=> .inl l'| .inr e=> .inr (mist i e):=by
              unfold tabC
              rw[if_pos h1]
              try (cases clsX i l c<;>rfl)
            cases hx:clsX i l c with
            |inl l'=>
              rw[hx]at hb et
              obtain⟨h1,h2,h4⟩:=hb
              dsimp only at h1 h2 h4 et
              subst h1 h2
              exact nx t'.m t'.known t'.l et h4
            |inr e=>
              rw[hx]at hb et
              obtain⟨h1,h2⟩:=hb
              dsimp only at h1 h2 et
              subst h1
              unfold qn abp
              rw[if_pos (by rfl),et,h2]
              exact .mk ⟨_,rfl,rfl⟩
          · refine nx m known l ?_ hKn
            unfold tabC
            rw[if_neg (by rw[h1];simp)]) (fun s l h=>by
          obtain⟨_,known,m,_⟩:=s
          obtain⟨rfl,rfl,hKn,hlen⟩:=h
          rw[List.take_length]at hlen
          dsimp only
          unfold qm
          rw[if_neg (gt (Nat.le_refl _))]
          exact .mk ⟨_,rfl,_,_,rfl,hKn,hlen⟩) file 0 (0,known,m,l0) l0 rfl (Nat.zero_le _) ⟨rfl,rfl,hKn,by omega⟩
      refine .bd ⟨o,e1,ho⟩ fun o ho=>?_
      revert ho
      cases rowF (fun _ l c=>tabC (i:Int) l c) 0 file l0 with
      |inl l=>
        rintro⟨known,m,rfl,hKn,hl⟩
        dsimp only
        unfold abo
        rw[aae om]
        exact .mk ⟨_,rfl,rfl,rfl,hKn,by omega⟩
      |inr e=>
        rintro rfl
        exact .mk ⟨_,rfl,rfl⟩) (fun s l h=>by
      obtain⟨_,known,m,_⟩:=s
      obtain⟨rfl,rfl,hKn,hlen⟩:=h
      dsimp only
      unfold nk
      rw[if_neg (gt (Nat.le_refl _))]
      exact .mk ⟨_,rfl,_,_,rfl⟩) files 0 (0,([]:GMap B0 Bool),(B3.mk 0 0 0),[]) [] rfl (Nat.zero_le _) ⟨rfl,rfl,Kn.nil,Nat.le_refl _⟩
  have e':iter (fun s=>nk files s.1 s.2.1 s.2.2.1 s.2.2.2) (0,([]:GMap B0 Bool),(B3.mk 0 0 0),[])=some o:=e1
  rw[e',Option.bind_some]
  unfold tab
  revert ho
  cases rowF (fun(f:Nat) (l:List A9) (file:List B5)=>rowF (fun _ l c=>tabC f l c) 0 file l) 0 files []with
  |inl l=>rintro⟨known,m,rfl⟩;rfl
  |inr e=>rintro rfl;rfl
end Go.Proofs.YtcndghapmoaidaaGreatDoor
set_option linter.unusedSectionVars false
set_option linter.unusedVariables false
set_option linter.unusedSimpArgs false
set_option maxRecDepth 100000
set_option maxHeartbeats 4000000
namespace Go.Proofs.YtcndghapmoaidaaGreatDoor
open Go Go.Cn
variable [Glob]
def twF (pre:List A9):List A9->Option A9
 | []=>none
 |x::r=>if dup pre x=true then some x else twF (pre++[x]) r
theorem auw :∀(l:List A9) (pre m:List A9),twF pre (l++m)=match twF pre l with|some e=>some e|none=>twF (pre++l) m
 | [],pre,m=>by simp[twF]
 |x::l,pre,m=>by
  show(if dup pre x=true then some x else twF (pre++[x]) (l++m))=match (if dup pre x=true then some x else twF (pre++[x]) l)with|some e=>some e|none=>twF (pre++x::l) m
  by_cases h:dup pre x=true
  ·rw[if_pos h,if_pos h]
  ·rw[if_neg h,if_neg h,auw l (pre++[x]) m]
   cases twF (pre++[x]) l<;>simp
theorem aqs :∀(m pre:List A9),(∀e∈m,e.Kind=4)->twF pre m=none
 | [],_,_=>rfl
 |x::m,pre,h=>by
  unfold twF
  have:dup pre x=false:=by
   unfold dup
   simp[h x List.mem_cons_self]
  rw[this,if_neg sm]
  exact aqs m _ fun e he=>h e (List.mem_cons_of_mem _ he)
theorem ax1 {l m:List A9} {e:A9} (h:twF [] l=some e):twF [] (l++m)=some e:=by rw[auw,h]
theorem anz {l m:List A9} (h:twF [] l=none):twF [] (l++m)=twF l m:=by rw[auw,h];rfl
theorem amh {l:List A9} (hl:l.length<=1000000000):∃t:Int,aao l=some t/\((t= -1/\twF [] l=none)\/∃(i:Nat) (e:A9),t=i/\l[i]? =some e/\twF [] l=some e):=by
 unfold aao aa0
 obtain⟨o,e1,ho⟩:=rowM (l:=l) (f:=fun s:Int=>ne l s) (γ:=Nat × A9) (fun i (_:Unit) x=>if dup (l.take i) x=true then .inr (i,x)else .inl ()) (fun i s _=>s=(i:Int)) (fun o _=>o= .next ()) (fun o p=>o= .done (p.1:Int)/\l[p.1]? =some p.2) (fun i x s _ hx h=>by
  subst h
  have hi:=k7 hx
  unfold ne aaz
  rw[if_pos (gm hx)]
  have hs:=ir (l:=l.take i) (f:=fun s=>qd i l s) (fun y=>x.Kind != 4&&azj x y) (fun _ _=>(.inr (.done (i:Int)):(Int) ⊕ (Flow Unit Int))) (by rw[List.length_take];omega) (fun q y hy=>by
   have hq:q<i:=by
    have:=k7 hy
    rw[List.length_take]at this
    omega
   have hy':l[q]? =some y:=by rwa [List.getElem?_take_of_lt hq]at hy
   unfold qd qe azj
   rw[if_pos (by simpa using hq),ei hx,ei hy']
   simp only[Option.bind_some]
   have c1:(x.Kind==y.Kind)=(y.Kind==x.Kind):=by rw[Bool.eq_iff_iff];simp;exact⟨Eq.symm,Eq.symm⟩
   have c2:(x.Owner==y.Owner)=(y.Owner==x.Owner):=by rw[Bool.eq_iff_iff];simp;exact⟨Eq.symm,Eq.symm⟩
   have c3:(x.Name==y.Name)=(y.Name==x.Name):=by rw[Bool.eq_iff_iff];simp;exact⟨Eq.symm,Eq.symm⟩
   rw[c1,c2,c3]
   cases (x.Kind != 4)<;>cases (y.Kind==x.Kind)<;>cases (y.Owner==x.Owner)<;>cases (y.Name==x.Name)<;>rfl) (fun q hq=>by
   rw[List.length_take]at hq
   unfold qd
   rw[if_neg so]) (l.take i) 0 rfl
  rw[show((0:Nat):Int)=0 from rfl,amj]at hs
  rw[hs,Option.bind_some]
  have ed:((l.take i).any fun y=>x.Kind != 4&&azj x y)=dup (l.take i) x:=by
   unfold dup
   cases (x.Kind != 4)<;>simp
  rw[ed]
  by_cases hd:dup (l.take i) x=true
  ·rw[if_pos hd,if_pos hd]
   exact .mk ⟨_,rfl,rfl,hx⟩
  ·rw[if_neg hd,if_neg hd]
   dsimp only
   rw[aae om]
   exact .mk ⟨_,rfl,rfl⟩) (fun s _ h=>by
  subst h
  unfold ne
  rw[if_neg (gt (Nat.le_refl _))]
  exact .mk ⟨_,rfl,rfl⟩) l 0 0 () rfl (Nat.zero_le _) rfl
 have e':iter (fun s=>ne l s) 0=some o:=e1
 rw[e',Option.bind_some]
 have key:∀(r:List A9) (i:Nat),l.drop i=r->match rowF (γ:=Nat × A9) (fun i (_:Unit) x=>if dup (l.take i) x=true then .inr (i,x)else .inl ()) i r ()with| .inl _=>twF (l.take i) r=none| .inr p=>twF (l.take i) r=some p.2:=by
  intro r
  induction r with
  |nil=>intro i _;rfl
  |cons x r ih=>
   intro i h
   have hx:l[i]? =some x:=by
    have:=congrArg (fun z=>z[0]?) h
    simpa using this
   have hr:l.drop (i+1)=r:=by
    have:=congrArg List.tail h
    simpa using this
   have ht:l.take (i+1)=l.take i++[x]:=by
    obtain⟨hi,rfl⟩:=List.getElem?_eq_some_iff.1 hx
    exact List.take_succ_eq_append_getElem hi
   unfold rowF twF
   by_cases hd:dup (l.take i) x=true
   ·rw[if_pos hd,if_pos hd]
   ·rw[if_neg hd,if_neg hd]
    have:=ih (i+1) hr
    rw[ht]at this
    exact this
 have key:=key l 0 rfl
 rw[List.take_zero]at key
 revert ho key
 cases rowF (γ:=Nat × A9) (fun i (_:Unit) x=>if dup (l.take i) x=true then .inr (i,x)else .inl ()) 0 l ()with
 |inl _=>rintro rfl h;exact⟨_,rfl,.inl ⟨rfl,h⟩⟩
 |inr p=>rintro⟨rfl,h1⟩ h;exact⟨_,rfl,.inr ⟨p.1,p.2,rfl,h1,h⟩⟩
theorem at9 {c:Bt} {f:Int} {k:B5} (hk:k.Kind=2) (hc:c.length+k.Text.length<=100000000):rm c f k=some [abu c f k]:=by
 unfold rm
 rw[if_pos (by simp[hk]),aj2 om]
 rfl
theorem avq {c:Bt} {f:Int} {k:B5} (hk:k.Kind≠2) (hn:gk k<=1000000) (hc:c.length+k.Text.length<=100000000):rm c f k=some (alx c f k::locs c f k):=by
  have hs:=kc k
  have hkl:=ko k.Kids
  have hm:=ajd c k.Text
  have hf:=ain k
  unfold rm
  rw[if_neg (by simpa using hk),aek om,Option.bind_some,at6 hn,Option.bind_some]
  obtain⟨o,e1,rfl⟩:=rowK (l:=z9 k) (f:=fun s:Int × List A9=>lm (z9 k) (nm c k.Text) f s.1 s.2)
    (fun i s=>s=((i:Int),((z9 k).take i).foldl (locG (nm c k.Text) f) [])) (fun o=>o=locs c f k) (fun i x s hx h=>by
      subst h
      have hi:=k7 hx
      have hlen:=akn (nm c k.Text) f ((z9 k).take i) []
      rw[List.length_take,List.length_nil]at hlen
      dsimp only
      unfold lm
      rw[if_pos (gm hx),ei hx,Option.bind_some]
      have f8:Ok (fun z=>∃s',z= .inl s'/\s'=(((i+1:Nat):Int),((z9 k).take (i+1)).foldl (locG (nm c k.Text) f) [])) (q9 (nm c k.Text) (((z9 k).take i).foldl (locG (nm c k.Text) f) []) x f i (decl x)):=by
        unfold q9 ut
        rw[aj0 om om,Option.bind_some,oj so so,Option.bind_some,aae om,aje _ _ hx]
        unfold locG
        cases decl x
        · rw[if_neg sm,if_neg sm]
          exact .mk ⟨_,rfl,rfl⟩
        · rw[if_pos rfl,if_pos rfl]
          exact .mk ⟨_,rfl,rfl⟩
      have e:decl x=((x.Kind==4)||(x.Kind==6)):=rfl
      rw[e]at f8
      cases h4:(x.Kind==4)
      · rw[h4,Bool.false_or]at f8;rw[if_neg sm];exact f8
      · rw[h4,Bool.true_or]at f8;rw[if_pos rfl];exact f8) (fun s h=>by
      subst h
      dsimp only
      unfold lm
      rw[if_neg (gt (Nat.le_refl _))]
      exact .mk ⟨_,rfl,by rw[List.take_length];rfl⟩) (0,[]) rfl
  have e1':iter (fun s=>lm (z9 k) (nm c k.Text) f s.1 s.2) (0,[])=some (locs c f k):=e1
  rw[e1',Option.bind_some]
  unfold zp zq
  obtain⟨o,e2,rfl⟩:=rowK (l:=k.Kids) (f:=fun s:Int × List Bt=>ln k s.1 s.2) (fun i s=>s=((i:Int),(k.Kids.take i).foldl parG [])) (fun o=>o=pars k) (fun i x s hx h=>by
      subst h
      have hi:=k7 hx
      have hlen:=anm (k.Kids.take i) []
      rw[List.length_take,List.length_nil]at hlen
      dsimp only
      unfold ln uu
      rw[if_pos (gm hx),ei hx,Option.bind_some,Option.bind_some,oj so so,Option.bind_some,aae om,aje _ _ hx]
      unfold parG
      refine .cond (fun h=>?_) fun h=>?_
      · rw[if_pos h];exact .mk ⟨_,rfl,rfl⟩
      · rw[if_neg (by rw[h];simp)];exact .mk ⟨_,rfl,rfl⟩) (fun s h=>by
      subst h
      dsimp only
      unfold ln
      rw[if_neg (gt (Nat.le_refl _))]
      exact .mk ⟨_,rfl,by rw[List.take_length];rfl⟩) (0,[]) rfl
  have e2':iter (fun s=>ln k s.1 s.2) (0,[])=some (pars k):=e2
  have hll:=akn (nm c k.Text) f (z9 k) []
  unfold locs
  rw[e2',Option.bind_some,oj (by simp at hll ⊢;omega) (by simp at hll ⊢;omega)]
  rfl
def refG (c:Bt) (f:Int):List A9 ⊕ A9->B5->(List A9 ⊕ A9) ⊕ B5
 | .inr e,_=> .inl (.inr e)
 | .inl l,k=>match memX c f l k with
  | .inl l'=> .inl (.inl l')
  | .inr (.inl e)=> .inl (.inr e)
  | .inr (.inr x)=> .inr x
theorem aof (c:Bt) (f:Int) (e:A9):∀(r:List B5) (i:Nat),rowF (fun _ t k=>refG c f t k) i r (.inr e)= .inl (.inr e)
 | [],_=>rfl
 |x::r,i=>by
  unfold rowF
  exact aof c f e r (i+1)
theorem av4 (c:Bt) (f:Int):∀(r:List B5) (i:Nat) (l:List A9),rowF (fun _ t k=>refG c f t k) i r (.inl l)=match rowF (fun _ l k=>memX c f l k) i r l with| .inl l'=> .inl (.inl l')| .inr (.inl e)=> .inl (.inr e)| .inr (.inr x)=> .inr x
 | [],_,_=>rfl
 |x::r,i,l=>by
  unfold rowF
  unfold refG
  dsimp only
  cases memX c f l x with
  |inl l'=>exact av4 c f r (i+1) l'
  |inr b=>
   cases b with
   |inl e=>exact aof c f e r (i+1)
   |inr y=>rfl
def RT (s:List A9):List A9 ⊕ A9->Prop
 | .inl l=>s=l/\twF [] s=none
 | .inr e=>twF [] s=some e
theorem a00 {f:Int} {c:B5} {l0:List A9} {t0:List A9 ⊕ A9} (hn:gk c<=1000000) (hc:okB 1500 c) (h0:RT l0 t0) (hl:l0.length<=10000000):
    Ok (Fin' (fun o t=>∃s,o= .next s/\RT s t/\s.length<=l0.length+ce c.Kids) (fun o x=>o= .done (.inr (.done (.inr (.done ([],B3.mk 150 f x.At)))))) (rowF (fun _ t k=>refG c.Text f t k) 0 c.Kids t0)) (iter (fun s=>lj c f s.1 s.2) (0,l0)):=by
  have hs:=kc c
  rw[aex]at hc
  refine rowM (l:=c.Kids) (f:=fun s:Int × List A9=>lj c f s.1 s.2) (fun _ t k=>refG c.Text f t k) (fun i s t=>s.1=(i:Int)/\RT s.2 t/\s.2.length<=l0.length+ce (c.Kids.take i)) _ _ (fun i k s t hk h=>?_) (fun s t h=>?_) c.Kids 0 (0,l0) t0 rfl (Nat.zero_le _) ⟨rfl,h0,by simp⟩
  · obtain⟨_,s⟩:=s
    obtain⟨rfl,hR,hlen⟩:=h
    dsimp only at hR hlen ⊢
    have hi:=yk hk
    have hz:=nq hk
    have hkB:=aau hc.2 (k9 hk)
    rw[aex]at hkB
    have hp:=ow k
    have nx:∀s' t',refG c.Text f t k= .inl t'->RT s' t'->s'.length<=s.length+gk k->Ok (Step (fun s t=>s.1=((i+1:Nat):Int)/\RT s.2 t/\s.2.length<=l0.length+ce (c.Kids.take (i+1))) (fun o x=>o= .done (.inr (.done (.inr (.done ([],B3.mk 150 f x.At)))))) (refG c.Text f t k)) (qh i s' k):=fun s' t' h1 h2 h3=>by
      unfold qh
      rw[aae om,h1]
      exact .mk ⟨_,rfl,rfl,h2,by dsimp only;omega⟩
    unfold lj
    rw[if_pos (gm hk),ei hk,Option.bind_some]
    have j12 : Ok (Step (fun s t => s.1 = ((i + 1 : Nat) : Int) /\ RT s.2 t /\ s.2.length <= l0.length + ce (c.Kids.take (i + 1))) (fun o x => o = .done (.inr (.done (.inr (.done ([], B3.mk 150 f x.At)))))) (refG c.Text f t k)) (ra i s k c f (k.Kind != 2 && k.Kind != 3)) := by
      unfold ra
      refine .cond (fun h=>?_) fun h=>?_
      · rw[Bool.and_eq_true]at h
        have h2:¬(k.Kind==2)=true:=by simpa using h.1
        have h3:¬(k.Kind==3)=true:=by simpa using h.2
        refine nx s t ?_ hR om
        cases t with
        |inr e=>rfl
        |inl l=>
          unfold refG memX
          dsimp only
          rw[if_neg h2,if_neg h3]
      ·
        have hm:∃m,rm c.Text f k=some m/\m.length<=gk k/\(k.Kind=2->m=[abu c.Text f k])/\(k.Kind=3->m=alx c.Text f k::locs c.Text f k)/\(k.Kind=2\/k.Kind=3):=by
          by_cases h2:k.Kind=2
          · exact⟨_,at9 h2 om,by simp;omega,fun _=>rfl,fun h=>by omega,.inl h2⟩
          · have h3:k.Kind=3:=by simpa [h2] using h
            have hd:decl k=false:=by unfold decl;simp[h3]
            have:=ar6 (c:=c.Text) (f:=f) hd
            exact⟨_,avq h2 om om,by simp;omega,fun h=>absurd h h2,fun _=>rfl,.inr h3⟩
        obtain⟨m,e1,m1,m2,m3,m4⟩:=hm
        obtain⟨w,e2,hw⟩:=amh (l:=s++m) so
        rw[e1,Option.bind_some,oj om om,Option.bind_some,e2,Option.bind_some]
        rcases hw with⟨rfl,hw⟩|⟨q,e,rfl,_,hw⟩
        ·
          rw[if_neg sm]
          have hs0:twF [] s=none:=by
            cases hq:twF [] s with
            |none=>rfl
            |some e=>rw[ax1 hq]at hw;cases hw
          cases t with
          |inr e=>rw[show twF [] s=some e from hR]at hs0;cases hs0
          |inl l=>
            obtain⟨rfl,_⟩:s=l/\_:=hR
            obtain⟨o,e3⟩:=a0q 1048576 k [] om so
            have e3':aj9 k []=some (match agnN [] k with|some y=>(y,true,o)|none=>(zeroN,false,o)):=e3
            rw[e3',Option.bind_some]
            rw[anz hs0]at hw
            by_cases h2:k.Kind=2
            · rw[m2 h2]at hw ⊢
              have hd:dup s (abu c.Text f k)=false:=by
                unfold twF at hw
                cases hq:dup s (abu c.Text f k)with
                |false=>rfl
                |true=>rw[hq,if_pos rfl]at hw;cases hw
              have er:refG c.Text f (.inl s) k= .inl (.inl (s++[abu c.Text f k])):=by
                unfold refG memX
                dsimp only
                rw[if_pos (by simp[h2]),hd,if_neg sm]
              have:(k.Kind==3)=false:=by simp[h2]
              have g:=nx (s++[abu c.Text f k]) _ er ⟨rfl,by rw[anz hs0];exact hw⟩ so
              cases agnN [] k with
              |some y=>
                dsimp only
                rw[this,if_neg sm]
                unfold lp
                rw[if_neg sm]
                exact g
              |none=>
                dsimp only
                rw[this,if_neg sm]
                unfold lp
                rw[if_neg sm]
                exact g
            · have h3:k.Kind=3:=by omega
              rw[m3 h3]at hw m1 ⊢
              have hd:dup s (alx c.Text f k)=false:=by
                unfold twF at hw
                cases hq:dup s (alx c.Text f k)with
                |false=>rfl
                |true=>rw[hq,if_pos rfl]at hw;cases hw
              have em:memX c.Text f s k=match agnN [] k with|some x=> .inr (.inr x)|none=> .inl (s++alx c.Text f k::locs c.Text f k):=by
                unfold memX
                rw[if_neg (by simp[h3]),if_pos (by simp[h3]),hd,if_neg sm]
                try (cases agnN [] k<;>rfl)
              have ek:(k.Kind==3)=true:=by simp[h3]
              cases hq:agnN [] k with
              |some y=>
                rw[hq]at em
                have er:refG c.Text f (.inl s) k= .inr y:=by
                  unfold refG
                  dsimp only
                  rw[em]
                dsimp only
                rw[if_pos ek]
                unfold lp zr
                rw[if_pos (by rfl),er]
                exact .mk ⟨_,rfl,rfl⟩
              |none=>
                rw[hq]at em
                have er:refG c.Text f (.inl s) k= .inl (.inl (s++alx c.Text f k::locs c.Text f k)):=by
                  unfold refG
                  dsimp only
                  rw[em]
                dsimp only
                rw[if_pos ek]
                unfold lp
                rw[if_neg sm]
                exact nx _ _ er ⟨rfl,by rw[anz hs0];exact hw⟩ (by rw[List.length_append];omega)
        ·
          rw[if_pos sm]
          have:∃t',refG c.Text f t k= .inl t'/\RT (s++m) t':=by
            cases t with
            |inr e'=>exact⟨.inr e',rfl,ax1 hR⟩
            |inl l=>
              obtain⟨rfl,hs0⟩:s=l/\_:=hR
              refine⟨.inr e,?_,hw⟩
              rw[anz hs0]at hw
              rcases m4 with h2|h3
              · rw[m2 h2]at hw
                unfold twF at hw
                by_cases hd:dup s (abu c.Text f k)=true
                · rw[if_pos hd]at hw
                  cases hw
                  unfold refG memX
                  dsimp only
                  rw[if_pos (by simp[h2]),hd,if_pos rfl]
                · rw[if_neg hd]at hw
                  cases hw
              · rw[m3 h3]at hw
                unfold twF at hw
                by_cases hd:dup s (alx c.Text f k)=true
                · rw[if_pos hd]at hw
                  cases hw
                  unfold refG memX
                  dsimp only
                  rw[if_neg (by simp[h3]),if_pos (by simp[h3]),hd,if_pos rfl]
                · rw[if_neg hd,aqs _ _ (atq _ _ _)]at hw
                  cases hw
          obtain⟨t',h1,h2⟩:=this
          exact nx _ t' h1 h2 so
    cases h2:(k.Kind != 2)
    · rw[h2,Bool.false_and]at j12;rw[if_neg sm];exact j12
    · rw[h2,Bool.true_and]at j12;rw[if_pos rfl];exact j12
  · obtain⟨_,s⟩:=s
    obtain⟨rfl,hR,hlen⟩:=h
    rw[List.take_length]at hlen
    dsimp only
    unfold lj
    rw[if_neg (gt (Nat.le_refl _))]
    exact .mk ⟨_,rfl,_,rfl,hR,hlen⟩
end Go.Proofs.YtcndghapmoaidaaGreatDoor
set_option linter.unusedSectionVars false
set_option linter.unusedVariables false
set_option linter.unusedSimpArgs false
set_option maxRecDepth 100000
set_option maxHeartbeats 4000000
namespace Go.Proofs.YtcndghapmoaidaaGreatDoor
open Go Go.Cn
variable [Glob]
theorem class15 {f:Int} {c:B5} {l:List A9} (hn:gk c<=1000000) (hc:okB 1500 c) (h0:twF [] l=none) (hl:l.length<=1000000) (j:Int):
  Ok (fun z=>match clsX f l c with
   | .inl l'=>z= .inl (w64 (j+1),l')/\twF [] l'=none
   | .inr e=>z= .inr (.done (.inr (.done ([],mist f e))))) ((app 120 l ([A9.mk 1 c.Text c.Text [] c.Type_ false [] f c.At]:List A9)).bind fun x22=>(iter (fun s=>lj c f s.1 s.2) (0,x22)).bind fun z=>match z with| .next p=>nh j c p| .done r=>some r):=by
 have ee:A9.mk 1 c.Text c.Text [] c.Type_ false [] f c.At=yi f c:=rfl
 have hs:=kc c
 rw[ee,oj so so,Option.bind_some]
 have bad:∀(s:List A9) (e:A9),twF [] s=some e->s.length<=100000000->nh j c s=some (.inr (.done (.inr (.done ([],mist f (.inl e)))))):=fun s e h hl=>by
  obtain⟨w,e2,hw⟩:=amh (l:=s) om
  unfold nh aa4
  rw[e2,Option.bind_some]
  rcases hw with⟨_,hw⟩|⟨q,e',rfl,hq,hw⟩
  ·rw[h]at hw;cases hw
  ·rw[h]at hw
   cases hw
   rw[if_pos sm,ei hq]
   rfl
 have good:∀(s:List A9),twF [] s=none->s.length<=100000000->nh j c s=some (.inl (w64 (j+1),s)):=fun s h hl=>by
  obtain⟨w,e2,hw⟩:=amh (l:=s) om
  unfold nh s7
  rw[e2,Option.bind_some]
  rcases hw with⟨rfl,hw⟩|⟨q,e',rfl,hq,hw⟩
  ·rw[if_neg sm]
  ·rw[h]at hw;cases hw
 have e1:twF [] (l++[yi f c])=if dup l (yi f c)=true then some (yi f c)else none:=by
  rw[anz h0]
  unfold twF twF
  rfl
 unfold clsX
 by_cases hd:dup l (yi f c)=true
 ·rw[if_pos hd]at e1
  refine .bd (a00 (t0:= .inr (yi f c)) hn hc e1 so) fun o ho=>?_
  rw[aof]at ho
  obtain⟨s,rfl,hR,hlen⟩:=ho
  rw[if_pos hd]
  dsimp only
  rw[bad s _ hR (by simp at hlen;omega)]
  exact .mk rfl
 ·rw[if_neg hd]at e1
  refine .bd (a00 (t0:= .inl (l++[yi f c])) hn hc ⟨rfl,e1⟩ so) fun o ho=>?_
  rw[av4]at ho
  rw[if_neg hd]
  revert ho
  cases rowF (fun _ l k=>memX c.Text f l k) 0 c.Kids (l++[yi f c])with
  |inl l'=>
   rintro⟨s,rfl,⟨rfl,hR⟩,hlen⟩
   dsimp only
   rw[good s hR (by simp at hlen;omega)]
   exact .mk ⟨rfl,hR⟩
  |inr b=>
   cases b with
   |inl e=>
    rintro⟨s,rfl,hR,hlen⟩
    dsimp only
    rw[bad s e hR (by simp at hlen;omega)]
    exact .mk rfl
   |inr x=>
    rintro rfl
    exact .mk rfl
theorem ap3 {files:List (List B5)} (h6:files.length<=6) (hF:∀l∈files,apr 1500 l):aap files=some (tabR (tab files)):=by
  unfold aap
  obtain⟨o,e1,ho⟩:=rowM (l:=files) (f:=fun s:Int × List A9=>ng files s.1 s.2) (fun f l file=>rowF (fun _ l c=>tabC f l c) 0 file l)
    (fun i s l=>s=((i:Int),l)/\twF [] l=none/\l.length<=1500 * i) (fun o l=>o= .next l) (fun o e=>o= .done ([],e)) (fun i file s l0 hf h=>by
      obtain⟨rfl,h0,hlen⟩:=h
      have hi:=k7 hf
      obtain⟨hB,hN,_⟩:=hF _ (k9 hf)
      dsimp only
      unfold ng
      rw[if_pos (gm hf)]
      obtain⟨o,e1,ho⟩:=rowM (l:=file) (f:=fun s:Int × List A9=>qg files i s.1 s.2) (fun _ l c=>tabC (i:Int) l c)
        (fun j s l=>s=((j:Int),l)/\twF [] l=none/\l.length<=l0.length+ce (file.take j)) (fun o l=>o= .next l/\twF [] l=none/\l.length<=l0.length+ce file) (fun o e=>o= .done (.inr (.done ([],e)))) (fun j c s l hc h=>by
          obtain⟨rfl,h0,hlen⟩:=h
          have hj:=yk hc
          have hz:=nq hc
          have hcB:=aau hB (k9 hc)
          dsimp only
          unfold qg
          rw[ei hf,Option.bind_some,if_pos (gm hc),Option.bind_some,ei hc,Option.bind_some]
          unfold tabC
          by_cases h1:c.Kind=1
          · rw[if_neg (show ¬(c.Kind != 1)=true by simp[h1]),if_pos (show(c.Kind==1)=true by simp[h1])]
            obtain⟨z,e2,hz2⟩:=class15 (f:=(i:Int)) (c:=c) (l:=l) om hcB h0 om (j:Int)
            refine⟨z,e2,?_⟩
            revert hz2
            cases hx:clsX i l c with
            |inl l'=>
              rintro⟨rfl,h2⟩
              have:=awi hx
              rw[aae om]
              exact⟨_,rfl,rfl,h2,by omega⟩
            |inr e=>
              rintro rfl
              exact⟨_,rfl,rfl⟩
          · rw[if_pos (show(c.Kind != 1)=true by simpa using h1),if_neg (show ¬(c.Kind==1)=true by simpa using h1)]
            unfold s7
            rw[aae om]
            exact .mk ⟨_,rfl,rfl,h0,by omega⟩) (fun s l h=>by
          obtain⟨rfl,h0,hlen⟩:=h
          rw[List.take_length]at hlen
          dsimp only
          unfold qg
          rw[ei hf,Option.bind_some,if_neg (gt (Nat.le_refl _))]
          exact .mk ⟨_,rfl,rfl,h0,hlen⟩) file 0 (0,l0) l0 rfl (Nat.zero_le _) ⟨rfl,h0,by omega⟩
      refine .bd ⟨o,e1,ho⟩ fun o ho=>?_
      revert ho
      cases rowF (fun _ l c=>tabC (i:Int) l c) 0 file l0 with
      |inl l=>
        rintro⟨rfl,h1,hl⟩
        dsimp only
        unfold aa3
        rw[aae om]
        exact .mk ⟨_,rfl,rfl,h1,by omega⟩
      |inr e=>
        rintro rfl
        exact .mk ⟨_,rfl,rfl⟩) (fun s l h=>by
      obtain⟨rfl,h0,hlen⟩:=h
      dsimp only
      unfold ng
      rw[if_neg (gt (Nat.le_refl _))]
      exact .mk ⟨_,rfl,rfl⟩) files 0 (0,[]) [] rfl (Nat.zero_le _) ⟨rfl,rfl,Nat.le_refl _⟩
  have e':iter (fun s=>ng files s.1 s.2) (0,[])=some o:=e1
  rw[e',Option.bind_some]
  unfold tab
  revert ho
  cases rowF (fun(f:Nat) (l:List A9) (file:List B5)=>rowF (fun _ l c=>tabC f l c) 0 file l) 0 files []with
  |inl l=>rintro rfl;rfl
  |inr e=>rintro rfl;rfl
end Go.Proofs.YtcndghapmoaidaaGreatDoor
set_option linter.unusedSectionVars false
set_option linter.unusedVariables false
set_option linter.unusedSimpArgs false
set_option maxRecDepth 100000
set_option maxHeartbeats 4000000
namespace Go.Proofs.YtcndghapmoaidaaGreatDoor
open Go Go.Cn
variable [Glob]
def ownM (st:Bool) (m:A9 × Bool):A9 × Int:=if m.2=true then(if(st&& !m.1.Static)=true then(alu,171)else(m.1,0))else(alu,170)
def as6 (c:A9 × Bool):A9 × Int:=if c.2=true then(c.1,0)else(alu,170)
def alw (s:B6) (t:Bt):A9 × Int:=
 match s.Seen.reverse.find? (fun e=>e.Name==t)with
 |some e=>(e,0)
 |none=>if(has s.Table 2 s.Class t).2=true then ownM s.Static (has s.Table 2 s.Class t)else as6 (cls s.Table t)
def memM (s:B6) (kind:Int) (n:B5) (ty:Bt):A9 × Int:=
 match n.Kids with
 | []=>(alu,180)
 |f::_=>if(f.Kind==17&&(alw s f.Text).2==0&&(alw s f.Text).1.Kind==1)=true then ownM true (has s.Table kind (alw s f.Text).1.Id n.Text)
  else if((cls s.Table ty).2&& !(ty==[]))=true then ownM false (has s.Table kind ty n.Text)else(alu,180)
def entW (s:B6) (n:B5) (ty:Bt):A9 × Int:=
 if n.Kind=17 then alw s n.Text else if n.Kind=19 then ownM s.Static (has s.Table 3 s.Class n.Text)else if n.Kind=21 then as6 (cls s.Table n.Text)
 else if n.Kind=18 then memM s 2 n ty else if n.Kind=20 then memM s 3 n ty else(alu,0)
def an0 (t:Bt):Bool:=t==[43]||t==[45]||t==[42]||t==[47]||t==[37]
def typW (s:B6) (n:B5) (e:A9 × Int):Bt:=
 if n.Kind=13\/n.Kind=23 then tInt else if n.Kind=14\/n.Kind=22 then axf else if n.Kind=15 then tNull else if n.Kind=24 then(if an0 n.Text=true then tInt else axf)
 else if n.Kind=16 then(if s.Static=true then[]else s.Class)else if e.2≠0 then[]else if n.Kind=21 then e.1.Id else if e.1.Kind=1 then[]else e.1.Type_
mutual
def typM (s:B6):B5->Bt
 |⟨k,t,y,n,a,b,c,d,kids⟩=>typW s ⟨k,t,y,n,a,b,c,d,kids⟩ (entW s ⟨k,t,y,n,a,b,c,d,kids⟩ (typF s kids))
def typF (s:B6):List B5->Bt
 | []=>[]
 |f::_=>typM s f
end
def entM (s:B6) (n:B5):A9 × Int:=entW s n (typF s n.Kids)
theorem ax0 (s:B6) (n:B5):typM s n=typW s n (entM s n):=by cases n;rw[typM];rfl
theorem adn {s:B6} (hl:s.Table.length<=1000000) (id:Bt):js s id=some (cls s.Table id):=by
 have h:=ir (l:=s.Table) (f:=fun k=>jz s id k) (isC id) (fun _ x=>(x,true)) om (fun i x hx=>by
  unfold jz oc isC
  rw[if_pos (gm hx),ei hx]
  simp only[Option.bind_some]
  cases h1:(x.Kind==1)<;>simp) (fun i hi=>by
  unfold jz
  rw[if_neg (gt hi)]) s.Table 0 rfl
 unfold js
 rw[show((0:Nat):Int)=0 from rfl]at h
 rw[h,Option.bind_some]
 refine Eq.trans ?_ (congrArg some (agu id s.Table 0))
 cases lg (isC id) (fun _ x=>(x,true)) 0 s.Table<;>rfl
theorem ahg (s:B6) (e:A9) (is:Bool):lk s e is=some (ownM s.Static (e,is)):=by
 unfold lk rh ownM
 cases is<;>cases s.Static<;>cases e.Static<;>rfl
theorem aiz (s:B6) (c:A9 × Bool):lq s c.1 c.2=some (as6 c):=by
 unfold lq as6
 cases c.2<;>rfl
theorem aoy {α γ:Type} {l:List α} {f:Int->Option (Int ⊕ Flow Unit γ)} (p:α->Bool) (g:α->γ) (hl:l.length<=4000000000)
  (h1:∀(i:Nat) x,l[i]? =some x->f i=if p x=true then some (.inr (.done (g x)))else some (.inl (w64 ((i:Int) - 1)))) (h2:f (-1)=some (.inr (.next ()))):
  ∀(n:Nat),n<=l.length->iter f ((n:Int) - 1)=some (match (l.take n).reverse.find? p with|some x=> .done (g x)|none=> .next ())
 | 0,_=>dn h2
 |n+1,hn=>by
  have hx:l[n]? =some l[n]:=List.getElem?_eq_getElem om
  have e:=h1 n _ hx
  rw[List.take_succ_eq_append_getElem om,List.reverse_append,List.reverse_cons,List.reverse_nil,List.nil_append,List.cons_append,List.nil_append]
  have e2:(((n+1:Nat):Int) - 1)=(n:Int):=by omega
  rw[e2]
  by_cases hp:p l[n]=true
  ·rw[if_pos hp]at e
   rw[List.find?_cons_of_pos hp]
   exact dn e
  ·rw[if_neg hp,c5 om om]at e
   rw[List.find?_cons_of_neg hp,gv e]
   exact aoy p g hl h1 h2 n om
theorem am8 {s:B6} (hl:s.Table.length<=1000000) (hs:s.Seen.length<=1000000) (n:B5):rf s n=some (alw s n.Text):=by
 have hb:∃z,fb (yldX (fun(_:Unit) (a:Int × A9)=>jm n a.1 a.2)) s.Seen (.inl ())=some (s.Seen,z)/\(match z with| .inl _=>s.Seen.reverse.find? (fun e=>e.Name==n.Text)=none| .inr e=>s.Seen.reverse.find? (fun e=>e.Name==n.Text)=some e):=by
  have key:∀k:Nat,k<=s.Seen.length->∃o z,iter (fun t=>cf (yldX (fun(_:Unit) (a:Int × A9)=>jm n a.1 a.2)) s.Seen t.1 t.2) (((k:Int) - 1),.inl ())=some o/\(o= .next z\/o= .done (s.Seen,z))/\(match z with| .inl _=>(s.Seen.take k).reverse.find? (fun e=>e.Name==n.Text)=none| .inr e=>(s.Seen.take k).reverse.find? (fun e=>e.Name==n.Text)=some e):=by
   intro k
   induction k with
   |zero=>
    intro _
    refine⟨_,.inl (),dn (o:= .next (.inl ())) ?_,.inl rfl,rfl⟩
    unfold cf
    rw[if_neg dcd]
   |succ k ih=>
    intro hk
    have hx:s.Seen[k]? =some s.Seen[k]:=List.getElem?_eq_getElem om
    have e2:(((k+1:Nat):Int) - 1)=(k:Int):=by omega
    rw[e2,List.take_succ_eq_append_getElem om,List.reverse_append,List.reverse_cons,List.reverse_nil,List.nil_append,List.cons_append,List.nil_append]
    have e:cf (yldX (fun(_:Unit) (a:Int × A9)=>jm n a.1 a.2)) s.Seen (k:Int) (.inl ())=if(s.Seen[k].Name==n.Text)=true then some (.inr (.done (s.Seen,.inr s.Seen[k])))else some (.inl (((k:Int) - 1),.inl ())):=by
     unfold cf yldX jm
     rw[if_pos sm,ei hx,c5 om om]
     simp only[Option.bind_some]
     cases (s.Seen[k].Name==n.Text)<;>rfl
    by_cases hp:(s.Seen[k].Name==n.Text)=true
    ·rw[if_pos hp]at e
     refine⟨_,.inr s.Seen[k],dn e,.inr rfl,?_⟩
     rw[List.find?_cons_of_pos (p:=fun e:A9=>e.Name==n.Text) hp]
    ·rw[if_neg hp]at e
     obtain⟨o,z,g1,g2,g3⟩:=ih om
     refine⟨o,z,(gv (s':=(((k:Int) - 1),.inl ())) e).trans g1,g2,?_⟩
     rw[List.find?_cons_of_neg (p:=fun e:A9=>e.Name==n.Text) hp]
     exact g3
  obtain⟨o,z,g1,g2,g3⟩:=key s.Seen.length (Nat.le_refl _)
  rw[List.take_length]at g3
  refine⟨z,?_,g3⟩
  unfold fb fq
  rw[c5 om om,g1,Option.bind_some]
  rcases g2 with rfl|rfl<;>rfl
 obtain⟨z,g1,g2⟩:=hb
 unfold rf pb
 rw[g1,Option.bind_some,aix hl,adn hl]
 unfold alw
 cases z with
 |inr e=>
  dsimp only at g2 ⊢
  rw[g2]
 |inl _=>
  dsimp only at g2 ⊢
  rw[g2,Option.bind_some,Option.bind_some]
  dsimp only
  by_cases h:(has s.Table 2 s.Class n.Text).2=true
  ·rw[if_pos h,if_pos h,ahg,Option.bind_some,← h]
  ·rw[if_neg h,if_neg h]
   rw[aiz s (cls s.Table n.Text)]
   rfl
theorem aur {s:B6} (hl:s.Table.length<=1000000) (n:B5):u6 s n=some (ownM s.Static (has s.Table 3 s.Class n.Text)):=by
 unfold u6 t8
 rw[ahn hl,Option.bind_some]
 dsimp only
 rw[ahg]
 rfl
theorem aup {s:B6} (hl:s.Table.length<=1000000) (n:B5):u5 s n=some (as6 (cls s.Table n.Text)):=by
 unfold u5 t7
 rw[adn hl,Option.bind_some]
 dsimp only
 rw[aiz s (cls s.Table n.Text)]
 rfl
theorem cls_ex {l:List A9} {id:Bt} (h:(cls l id).2=true):(cls l id).1.Id=id:=(avz h).1
theorem aqg {s:B6} (hl:s.Table.length<=1000000) (hs:s.Seen.length<=1000000) {n:B5} {kind:Int} {fn:List A9->Bt->Bt->Option (A9 × Bool)} (hfn:∀id t,fn s.Table id t=some (has s.Table kind id t))
  {R:bl} (hR:∀f r,n.Kids=f::r->R.2.1 s f=some (typM s f)):od R s n fn=some (memM s kind n (typF s n.Kids)):=by
 unfold od memM
 cases hk:n.Kids with
 |nil=>rw[if_pos sm]
 |cons f r=>
  have e0:idx (f::r) (0:Int)=some f:=rfl
  rw[if_neg so,e0,Option.bind_some,am8 hl hs,typF]
  have j4:ku R s f fn n=some (if((cls s.Table (typM s f)).2&& !((typM s f)==[]))=true then ownM false (has s.Table kind (typM s f) n.Text)else(alu,180)):=by
   unfold ku qy mv qz
   rw[hR f r hk,Option.bind_some,adn hl,Option.bind_some]
   dsimp only
   by_cases hc:(cls s.Table (typM s f)).2=true
   ·rw[cls_ex hc,hc,hfn,Option.bind_some]
    try dsimp only
    rw[ahg]
    cases (typM s f==[])<;>rfl
   ·rw[Bool.eq_false_iff.2 hc]
    rfl
  dsimp only
  cases h17:(f.Kind==17)
  ·rw[if_neg sm,j4]
   rfl
  ·rw[if_pos rfl,Option.bind_some]
   try dsimp only
   unfold mu qx
   rw[hfn,Option.bind_some]
   dsimp only
   rw[ahg,j4]
   cases h0:((alw s f.Text).2==0)
   ·rfl
   ·cases h1:((alw s f.Text).1.Kind==1)<;>rfl
theorem aou {l:List Bt} (hl:l.length<=4000000000) (x:Bt):f5 l x=some (l.any (x== ·)):=by
 have h:=ir (l:=l) (f:=fun s=>fh l x s) (fun y=>x==y) (fun i _=>(i:Int)) hl (fun i y hy=>by
  unfold fh
  rw[if_pos (gm hy),ei hy]
  simp only[Option.bind_some]) (fun i hi=>by
  unfold fh
  rw[if_neg (gt hi)]) l 0 rfl
 unfold f5 kz
 rw[show((0:Nat):Int)=0 from rfl]at h
 rw[h,Option.bind_some]
 have h2:=atg (fun y=>x==y) l 0
 rw[← h2]
 unfold jt
 cases lg (fun y=>x==y) (fun i _=>(i:Int)) 0 l<;>rfl
theorem aun {s:B6} {n:B5} {R:bl} (hR:R.1 s n=some (entM s n)):rk R s n=some (typM s n):=by
 have ea:([([43]:Bt),([45]:Bt),([42]:Bt),([47]:Bt),([37]:Bt)]:List Bt).any (n.Text== ·)=an0 n.Text:=by
  unfold an0
  simp only[List.any_cons,List.any_nil,Bool.or_false,Bool.or_assoc]
 rw[ax0]
 unfold rk pd pe typW
 rw[aou sm,ea,hR]
 simp only[Option.bind_some]
 by_cases h13:n.Kind=13
 ·simp[h13]
 by_cases h23:n.Kind=23
 ·simp[h23]
 by_cases h14:n.Kind=14
 ·simp[h14]
 by_cases h22:n.Kind=22
 ·simp[h22]
 by_cases h15:n.Kind=15
 ·simp[h15]
 by_cases h24:n.Kind=24
 ·simp[h24]
  cases an0 n.Text<;>rfl
 by_cases h16:n.Kind=16
 ·simp[h16]
  cases s.Static<;>rfl
 simp[h13,h23,h14,h22,h15,h24,h16]
 by_cases h0:(entM s n).2=0
 ·rw[if_pos h0,if_pos h0]
  by_cases h21:n.Kind=21
  ·rw[if_pos h21,if_pos h21]
  ·rw[if_neg h21,if_neg h21]
   by_cases h1:(entM s n).1.Kind=1
   ·rw[if_pos h1,if_pos h1]
   ·rw[if_neg h1,if_neg h1]
 ·rw[if_neg h0,if_neg h0]
theorem aqh {s:B6} (hl:s.Table.length<=1000000) (hs:s.Seen.length<=1000000) {n:B5} {R:bl} (h1:n.Kind=18->R.2.2.1 s n=some (memM s 2 n (typF s n.Kids))) (h2:n.Kind=20->R.2.2.2.1 s n=some (memM s 3 n (typF s n.Kids))):
  oe R s n=some (entM s n):=by
 unfold oe entM entW
 rw[am8 hl hs,aur hl,aup hl]
 by_cases h17:n.Kind=17
 ·rw[h17];rfl
 by_cases h19:n.Kind=19
 ·rw[h19];rfl
 by_cases h21:n.Kind=21
 ·rw[h21];rfl
 by_cases h18:n.Kind=18
 ·rw[h1 h18,h18];rfl
 by_cases h20:n.Kind=20
 ·rw[h2 h20,h20];rfl
 have hh:ghas n.Kind (gset 20 (some 69) (gset 18 (some 68) (gset 21 (some 67) (gset 19 (some 66) (gset 17 (some 65) ([]:GMap Int (Option Nat)))))))=false:=by
  simp[gset,ghas]
  refine⟨fun h=>h17 h.symm,fun h=>h19 h.symm,fun h=>h21 h.symm,fun h=>h18 h.symm,fun h=>h20 h.symm⟩
 rw[hh,if_pos (by rfl),if_neg h17,if_neg h19,if_neg h21,if_neg h18,if_neg h20]
theorem a0o :∀(k:Nat) (s:B6) (n:B5),s.Table.length<=1000000->s.Seen.length<=1000000->
  (4 * gk n<=k->(co k).1 s n=some (entM s n))/\(4 * gk n+1<=k->(co k).2.1 s n=some (typM s n))/\
  (4 * gk n<=k+1->(co k).2.2.1 s n=some (memM s 2 n (typF s n.Kids))/\(co k).2.2.2.1 s n=some (memM s 3 n (typF s n.Kids)))/\
  (4 * gk n<=k+2->∀kind fn,(∀id t,fn s.Table id t=some (has s.Table kind id t))->(co k).2.2.2.2 s n fn=some (memM s kind n (typF s n.Kids))):=by
 intro k
 induction k with
 |zero=>
  intro s n _ _
  have:=ow n
  exact⟨fun h=>by omega,fun h=>by omega,fun h=>by omega,fun h=>by omega⟩
 |succ k ih=>
  intro s n hl hs
  obtain⟨i1,i2,i3,i4⟩:=ih s n hl hs
  refine⟨fun h=>?_,fun h=>?_,fun h=>⟨?_,?_⟩,fun h kind fn hfn=>?_⟩
  ·exact aqh hl hs (fun _=>(i3 om).1) fun _=>(i3 om).2
  ·exact aun (i1 om)
  ·show sr (co k) s n=_
   unfold sr
   rw[i4 om 2 wb (fun id t=>aix hl id t)]
   rfl
  ·show my (co k) s n=_
   unfold my
   rw[i4 om 3 vg (fun id t=>ahn hl id t)]
   rfl
  ·refine aqg hl hs hfn fun f r hk=>?_
   have h1:=kc n
   rw[hk]at h1
   simp only[ce]at h1
   exact(ih s f hl hs).2.1 om
theorem aqm {s:B6} {n:B5} (hl:s.Table.length<=1000000) (hs:s.Seen.length<=1000000) (hn:gk n<=200000):vo s n=some (entM s n):=(a0o 1048576 s n hl hs).1 om
end Go.Proofs.YtcndghapmoaidaaGreatDoor
set_option linter.unusedSectionVars false
set_option linter.unusedVariables false
set_option linter.unusedSimpArgs false
set_option maxRecDepth 100000
set_option maxHeartbeats 4000000
namespace Go.Proofs.YtcndghapmoaidaaGreatDoor
open Go Go.Cn
variable [Glob]
def rS (s:B6):C8:=C8.mk s.Table s.Class s.Static s.Seen
theorem ak1 {s:B6} (hl:s.Table.length<=1000000) (hs:s.Seen.length<=1000000) (t:Bt):l9 (rS s) t=some (alw s t):=by
 have h:=aoy (l:=s.Seen) (f:=fun k=>i5 (rS s) t k) (fun e=>e.Name==t) (fun e=>(e,(0:Int))) om (fun i x hx=>by
  unfold i5
  rw[if_pos sm]
  show(idx s.Seen i).bind _=_
  rw[ei hx,Option.bind_some]
  show(if(x.Name==t)=true then(idx s.Seen i).bind _ else _)=_
  rw[ei hx]
  rfl) (by
  unfold i5
  rw[if_neg dcd]) s.Seen.length (Nat.le_refl _)
 rw[List.take_length]at h
 unfold l9
 have e:w64 (((rS s).Seen.length:Int) - 1)=(s.Seen.length:Int) - 1:=c5 (by unfold rS;simp only;omega) (by unfold rS;simp only;omega)
 rw[e,h,Option.bind_some]
 unfold alw
 cases s.Seen.reverse.find? (fun e=>e.Name==t)with
 |some e=>rfl
 |none=>
  dsimp only
  unfold pj lr rS
  dsimp only
  rw[an1 hl,Option.bind_some,xc om,Option.bind_some]
  unfold ownM as6
  rcases has s.Table 2 s.Class t with⟨a,b⟩
  rcases cls s.Table t with⟨c,d⟩
  dsimp only
  cases b<;>cases s.Static<;>cases a.Static<;>cases d<;>rfl
theorem aso {s:B6} (hl:s.Table.length<=1000000) (hs:s.Seen.length<=1000000) {n:B5} {kind:Int}
  {R:bp} (hR:∀f r,n.Kids=f::r->R.2.1 (rS s) f=some (typM s f)):mw R (rS s) n kind=some (memM s kind n (typF s n.Kids)):=by
 unfold mw memM
 cases hk:n.Kids with
 |nil=>rw[if_pos sm]
 |cons f r=>
  have e0:idx (f::r) (0:Int)=some f:=rfl
  rw[if_neg so,e0,Option.bind_some,ak1 hl hs,typF]
  have j4:ka R (rS s) f kind n=some (if((cls s.Table (typM s f)).2&& !((typM s f)==[]))=true then ownM false (has s.Table kind (typM s f) n.Text)else(alu,180)):=by
   unfold ka lv
   rw[hR f r hk,Option.bind_some]
   show(na s.Table _).bind _=_
   have e3:(rS s).Table=s.Table:=rfl
   rw[xc om,Option.bind_some,e3,an1 hl]
   unfold ownM
   rcases has s.Table kind (typM s f) n.Text with⟨a,b⟩
   rcases cls s.Table (typM s f)with⟨c,d⟩
   cases d<;>cases (typM s f==[])<;>cases b<;>rfl
  dsimp only
  cases h17:(f.Kind==17)
  ·rw[if_neg sm,j4]
   rfl
  ·rw[if_pos rfl,Option.bind_some]
   try dsimp only
   unfold lu
   rw[j4]
   have e3:(rS s).Table=s.Table:=rfl
   rw[e3,an1 hl]
   cases h0:((alw s f.Text).2==0)
   ·rfl
   ·cases h1:((alw s f.Text).1.Kind==1)
    ·rfl
    ·unfold ownM
     rcases has s.Table kind (alw s f.Text).1.Id n.Text with⟨a,b⟩
     rw[if_pos rfl,Option.bind_some]
     dsimp only
     cases b<;>cases a.Static<;>rfl
theorem asp {s:B6} (hl:s.Table.length<=1000000) (hs:s.Seen.length<=1000000) {n:B5} {R:bp} (h1:n.Kind=18->R.2.2 (rS s) n 2=some (memM s 2 n (typF s n.Kids))) (h2:n.Kind=20->R.2.2 (rS s) n 3=some (memM s 3 n (typF s n.Kids))):
  mx R (rS s) n=some (entM s n):=by
 unfold mx entM entW
 have e3:(rS s).Table=s.Table:=rfl
 have e4:(rS s).Class=s.Class:=rfl
 have e5:(rS s).Static=s.Static:=rfl
 rw[ak1 hl hs,e3,e4,e5,an1 hl,xc om]
 by_cases h17:n.Kind=17
 ·rw[h17];rfl
 by_cases h19:n.Kind=19
 ·rw[if_neg (show ¬(n.Kind==17)=true by simp[h19]),if_pos (show(n.Kind==19)=true by simp[h19]),if_neg h17,if_pos h19]
  unfold lw ownM
  rcases has s.Table 3 s.Class n.Text with⟨a,b⟩
  rw[Option.bind_some]
  dsimp only
  cases b<;>cases s.Static<;>cases a.Static<;>rfl
 by_cases h21:n.Kind=21
 ·rw[h21]
  unfold as6
  cases (cls s.Table n.Text)with
  |mk a b=>cases b<;>rfl
 by_cases h18:n.Kind=18
 ·rw[h1 h18,h18];rfl
 by_cases h20:n.Kind=20
 ·rw[h2 h20,h20];rfl
 rw[if_neg (by simpa using h17),if_neg (by simpa using h19),if_neg (by simpa using h21),if_neg (by simpa using h18),if_neg (by simpa using h20),if_neg h17,if_neg h19,if_neg h21,if_neg h18,if_neg h20]
theorem aw2 {s:B6} {n:B5} (h17:n.Kind≠17) (h18:n.Kind≠18) (h19:n.Kind≠19) (h20:n.Kind≠20) (h21:n.Kind≠21):entM s n=(alu,0):=by
 unfold entM entW
 rw[if_neg h17,if_neg h19,if_neg h21,if_neg h18,if_neg h20]
theorem avg {s:B6} {n:B5} {R:bp} (hR:R.1 (rS s) n=some (entM s n)):pf R (rS s) n=some (typM s n):=by
 have e4:(rS s).Class=s.Class:=rfl
 have e5:(rS s).Static=s.Static:=rfl
 rw[ax0]
 unfold pf ny nz iy iz typW an0
 rw[hR,e4,e5]
 simp only[Option.bind_some]
 by_cases h13:n.Kind=13
 ·simp[h13]
 by_cases h23:n.Kind=23
 ·simp[h23]
 by_cases h14:n.Kind=14
 ·simp[h14]
 by_cases h22:n.Kind=22
 ·simp[h22]
 by_cases h15:n.Kind=15
 ·simp[h15]
 by_cases h24:n.Kind=24
 ·have c:∀v:Int,v≠24->¬((n.Kind==v)=true):=fun v hv=>by simp[h24];omega
  rw[if_neg (c 13 om),if_neg (by simp[h24]),if_neg (by simp[h24]),if_neg (by simp[h24]),if_neg (by simp[h24]),if_neg (by simp[h24]),if_pos (show(n.Kind==24)=true by simp[h24]),if_neg (show ¬(n.Kind=13\/n.Kind=23)by omega),if_neg (show ¬(n.Kind=14\/n.Kind=22)by omega),if_neg h15,if_pos h24]
  cases (n.Text==([43]:Bt))<;>cases (n.Text==([45]:Bt))<;>cases (n.Text==([42]:Bt))<;>cases (n.Text==([47]:Bt))<;>cases (n.Text==([37]:Bt))<;>rfl
 by_cases h16:n.Kind=16
 ·simp[h16]
  cases s.Static<;>rfl
 by_cases hx:n.Kind=17\/n.Kind=18\/n.Kind=19\/n.Kind=20\/n.Kind=21
 ·have key:∀b:Bool,b=true->(if b=true then(if((entM s n).2 != 0)=true then some []else if(n.Kind==21)=true then some (entM s n).1.Id else if((entM s n).1.Kind==1)=true then some []else some (entM s n).1.Type_)else some [])=some (if(entM s n).2≠0 then[]else if n.Kind=21 then(entM s n).1.Id else if(entM s n).1.Kind=1 then[]else(entM s n).1.Type_):=fun b hb=>by
   subst hb
   by_cases h0:(entM s n).2=0
   ·by_cases h21:n.Kind=21
    ·simp[h0,h21]
    ·by_cases h1:(entM s n).1.Kind=1<;>simp[h0,h21,h1]
   ·simp[h0]
  rw[if_neg (by simpa using h13),if_neg (by simpa using h23),if_neg (by simpa using h14),if_neg (by simpa using h22),if_neg (by simpa using h15),if_neg (by simpa using h16),if_neg (by simpa using h24),if_neg (show ¬(n.Kind=13\/n.Kind=23)by omega),if_neg (show ¬(n.Kind=14\/n.Kind=22)by omega),if_neg h15,if_neg h24,if_neg h16]
  rcases hx with h|h|h|h|h
  ·rw[if_pos (by simp[h])];exact key _ (by simp[h])
  ·rw[if_neg (by simp[h]),if_pos (by simp[h])];exact key _ (by simp[h])
  ·rw[if_neg (by simp[h]),if_neg (by simp[h]),if_pos (by simp[h])];exact key _ (by simp[h])
  ·rw[if_neg (by simp[h]),if_neg (by simp[h]),if_neg (by simp[h]),if_pos (by simp[h])];exact key _ (by simp[h])
  ·rw[if_neg (by simp[h]),if_neg (by simp[h]),if_neg (by simp[h]),if_neg (by simp[h])];exact key _ (by simp[h])
 ·have ho:=aw2 (s:=s) (n:=n) om om om om om
  rw[ho]
  have c:∀v:Int,n.Kind≠v->(n.Kind==v)=false:=fun v hv=>by simpa using hv
  rw[c 13 h13,c 23 h23,c 14 h14,c 22 h22,c 15 h15,c 24 h24,c 16 h16,c 17 om,c 18 om,c 19 om,c 20 om,c 21 om]
  rw[if_neg (show ¬(n.Kind=13\/n.Kind=23)by omega),if_neg (show ¬(n.Kind=14\/n.Kind=22)by omega),if_neg h15,if_neg h24,if_neg h16,if_neg (show ¬n.Kind=21 by omega)]
  rfl
theorem ref_all :∀(k:Nat) (s:B6) (n:B5),s.Table.length<=1000000->s.Seen.length<=1000000->
  (4 * gk n<=k->(fm k).1 (rS s) n=some (entM s n))/\(4 * gk n+1<=k->(fm k).2.1 (rS s) n=some (typM s n))/\
  (4 * gk n<=k+2->∀kind,(fm k).2.2 (rS s) n kind=some (memM s kind n (typF s n.Kids))):=by
 intro k
 induction k with
 |zero=>
  intro s n _ _
  have:=ow n
  exact⟨fun h=>by omega,fun h=>by omega,fun h=>by omega⟩
 |succ k ih=>
  intro s n hl hs
  obtain⟨i1,i2,i4⟩:=ih s n hl hs
  refine⟨fun h=>?_,fun h=>?_,fun h kind=>?_⟩
  ·exact asp hl hs (fun _=>i4 om 2) fun _=>i4 om 3
  ·exact avg (i1 om)
  ·refine aso hl hs fun f r hk=>?_
   have h1:=kc n
   rw[hk]at h1
   simp only[ce]at h1
   exact(ih s f hl hs).2.1 om
theorem ao8 {s:B6} {n:B5} (hl:s.Table.length<=1000000) (hs:s.Seen.length<=1000000) (hn:gk n<=200000):z6 (rS s) n=some (entM s n):=(ref_all 1048576 s n hl hs).1 om
end Go.Proofs.YtcndghapmoaidaaGreatDoor
set_option linter.unusedSectionVars false
set_option linter.unusedVariables false
set_option linter.unusedSimpArgs false
set_option maxRecDepth 100000
set_option maxHeartbeats 4000000
namespace Go.Proofs.YtcndghapmoaidaaGreatDoor
open Go Go.Cn
variable [Glob]
def am0 (t:Bt):Bool:=t==tInt||t==axf||t==tVoid
def putW (w:B8) (at_:Int) (id:Bt):B8:=B8.mk (w.uses++[B7.mk w.file at_ id]) w.file w.method w.many
def agj (s:B6) (n:B5) (w:B8):B8 ⊕ B3:=
 if(decide (n.TypeAt<0)||am0 n.Type_)=true then .inl w else if(cls s.Table n.Type_).2=true then .inl (putW w n.TypeAt (cls s.Table n.Type_).1.Id)else .inr (B3.mk 170 w.file n.TypeAt)
def acz (s:B6) (n:B5) (w:B8):B8 ⊕ B3:=
 if(n.Kind==16&&s.Static)=true then .inr (B3.mk 171 w.file n.From)else if n.At<0 then .inl w else if n.Kind=1 then .inl (putW w n.At n.Text)else if n.Kind=2 then .inl (putW w n.At (aif s.Class n.Text))
 else if n.Kind=3 then .inl (putW w n.At (nm s.Class n.Text))else if decl n=true then .inl (putW w n.At (ah4 w.method w.many.toNat))else if(entM s n).2≠0 then .inr (B3.mk (entM s n).2 w.file n.At)else .inl (putW w n.At (entM s n).1.Id)
def y3 (isC:Bool) (c:Bt) (k:B5) (w:B8):B8:=if(isC&&k.Kind==3)=true then B8.mk w.uses w.file (nm c k.Text) 0 else w
def innS (s:B6) (x:B5):B6:=if(x.Kind==3)=true then {s with Static:=x.N==1} else s
def ru (x:B5) (w:B8):B8:=if decl x=true then B8.mk w.uses w.file w.method (w.many+1)else w
def locE (x:B5) (w:B8):A9:=A9.mk 4 (ah4 w.method w.many.toNat) x.Text w.method x.Type_ false [] w.file x.At
def outS (s:B6) (x:B5) (w:B8):B6:=if decl x=true then {s with Seen:=s.Seen++[locE x w]} else s
abbrev WM :=(B6 × B8) ⊕ B3
def finM (s:B6) (x:B5) (w:B8):WM->WM
 | .inr m=> .inr m
 | .inl p=> .inl (outS s x w,p.2)
mutual
def vp :B5->B6->B8->WM
 |⟨k,t,y,n,a,b,c,d,kids⟩,s,w=>
  match agj s ⟨k,t,y,n,a,b,c,d,kids⟩ w with
  | .inr m=> .inr m
  | .inl w=>if(k==18||k==20)=true then walkD kids ⟨k,t,y,n,a,b,c,d,kids⟩ s w else
   match acz s ⟨k,t,y,n,a,b,c,d,kids⟩ w with
   | .inr m=> .inr m
   | .inl w=>finM s ⟨k,t,y,n,a,b,c,d,kids⟩ w (ahy kids (k==1) s.Class (innS s ⟨k,t,y,n,a,b,c,d,kids⟩) (ru ⟨k,t,y,n,a,b,c,d,kids⟩ w))
def walkD :List B5->B5->B6->B8->WM
 | [],x,s,w=>match acz s x w with
  | .inr m=> .inr m
  | .inl w=>finM s x w (.inl (innS s x,ru x w))
 |f::r,x,s,w=>match vp f s w with
  | .inr m=> .inr m
  | .inl p=>match acz s x p.2 with
   | .inr m=> .inr m
   | .inl w=>finM s x w (ahy r (x.Kind==1) s.Class (innS s x) (ru x w))
def ahy :List B5->Bool->Bt->B6->B8->WM
 | [],_,_,s,w=> .inl (s,w)
 |k::r,isC,c,s,w=>match vp k s (y3 isC c k w)with
  | .inr m=> .inr m
  | .inl p=>ahy r isC c p.1 p.2
end
def aci (x:B5) (s:B6) (w:B8):B8 ⊕ B3:=
 if(x.Kind==18||x.Kind==20)=true then(match x.Kids with| []=> .inl w|f::_=>match vp f s w with| .inr m=> .inr m| .inl p=> .inl p.2)else .inl w
def qp (x:B5):List B5:=if(x.Kind==18||x.Kind==20)=true then x.Kids.tail else x.Kids
theorem ar0 (x:B5) (s:B6) (w:B8):vp x s w=match agj s x w with
  | .inr m=> .inr m
  | .inl w=>match aci x s w with
   | .inr m=> .inr m
   | .inl w=>match acz s x w with
    | .inr m=> .inr m
    | .inl w=>finM s x w (ahy (qp x) (x.Kind==1) s.Class (innS s x) (ru x w)):=by
 obtain⟨k,t,y,n,a,b,c,d,kids⟩:=x
 rw[vp]
 unfold aci qp
 cases agj s ⟨k,t,y,n,a,b,c,d,kids⟩ w with
 |inr m=>rfl
 |inl w=>
  dsimp only
  by_cases hd:(k==18||k==20)=true
  ·rw[if_pos hd,if_pos hd,if_pos hd]
   cases kids with
   |nil=>
    rw[walkD]
    dsimp only
    cases acz s ⟨k,t,y,n,a,b,c,d,[]⟩ w with
    |inr m=>rfl
    |inl w=>simp[ahy]
   |cons f r=>
    rw[walkD]
    dsimp only
    cases vp f s w with
    |inr m=>rfl
    |inl p=>rfl
  ·rw[if_neg hd,if_neg hd,if_neg hd]
def gL (isC:Bool) (c:Bt):Nat->B6 × B8->B5->WM:=fun _ p k=>vp k p.1 (y3 isC c k p.2)
theorem aoc (isC:Bool) (c:Bt):∀(r:List B5) (i:Nat) (s:B6) (w:B8),ahy r isC c s w=rowF (gL isC c) i r (s,w)
 | [],_,_,_=>by rw[ahy];rfl
 |k::r,i,s,w=>by
  rw[ahy]
  unfold rowF
  unfold gL
  dsimp only
  cases vp k s (y3 isC c k w)with
  |inr m=>rfl
  |inl p=>exact aoc isC c r (i+1) p.1 p.2
structure Pre (x:B5) (s:B6) (w:B8):Prop where
 okx:okB 1500 x
 tab:s.Table.length<=1000000
 cl:s.Class.length<=1500
 seen:s.Seen.length+gk x<=500000
 uses:w.uses.length+2 * gk x<=400000
 many:0<=w.many
 many2:w.many+gk x<=1000000
 meth:w.method.length<=4000
structure Inv (s0:B6) (w0:B8) (j u:Nat) (p:B6 × B8):Prop where
 tab:p.1.Table=s0.Table
 cl:p.1.Class=s0.Class
 seen:p.1.Seen.length<=s0.Seen.length+j
 uses:p.2.uses.length<=w0.uses.length+2 * u
 many:0<=p.2.many
 many2:p.2.many<=w0.many+u
 meth:p.2.method.length<=4000
 file:p.2.file=w0.file
def Post (x:B5) (s:B6) (w:B8):WM->Prop
 | .inl p=>Inv s w 1 (gk x) p
 | .inr m=>m.Code≠0
theorem aij {s:B6} {x:B5} {w w':B8} (h:agj s x w= .inl w'):w'.uses.length<=w.uses.length+1/\w'.many=w.many/\w'.method=w.method/\w'.file=w.file:=by
 unfold agj at h
 split at h
 ·cases h;exact⟨by omega,rfl,rfl,rfl⟩
 ·split at h
  ·cases h;unfold putW;exact⟨by simp,rfl,rfl,rfl⟩
  ·cases h
theorem atu {s:B6} {x:B5} {w:B8} {m:B3} (h:agj s x w= .inr m):m.Code≠0:=by
 unfold agj at h
 split at h
 ·cases h
 ·split at h
  ·cases h
  ·cases h;exact(show(170:Int)≠0 by decide)
theorem atn {s:B6} {x:B5} {w w':B8} (h:acz s x w= .inl w'):w'.uses.length<=w.uses.length+1/\w'.many=w.many/\w'.method=w.method/\w'.file=w.file:=by
 have key:∀a i,(putW w a i).uses.length<=w.uses.length+1/\(putW w a i).many=w.many/\(putW w a i).method=w.method/\(putW w a i).file=w.file:=fun a i=>⟨by unfold putW;simp,rfl,rfl,rfl⟩
 unfold acz at h
 repeat' split at h
 all_goals first
  |cases h;exact key _ _
  |cases h;exact⟨by omega,rfl,rfl,rfl⟩
  |cases h
theorem ato {s:B6} {x:B5} {w:B8} {m:B3} (h:acz s x w= .inr m):m.Code≠0:=by
 unfold acz at h
 repeat' split at h
 all_goals first
  |(cases h;assumption)
  |(cases h;exact(show(171:Int)≠0 by decide))
  |cases h
theorem atv {n:Nat} (ih:∀x s w,gk x<=n->Pre x s w->Post x s w (vp x s w)) (isC:Bool) (c:Bt) (hc:c.length<=1500):∀(r:List B5) (s:B6) (w:B8),ce r<=n->okBL 1500 r->s.Table.length<=1000000->s.Class.length<=1500->s.Seen.length+ce r<=500000->w.uses.length+2 * ce r<=400000->0<=w.many->w.many+ce r<=1000000->w.method.length<=4000->
  match ahy r isC c s w with| .inl p=>Inv s w r.length (ce r) p| .inr m=>m.Code≠0
 | [],s,w,_,_,_,_,_,_,h3,_,h5=>by rw[ahy];exact⟨rfl,rfl,by simp,by simp,h3,by simp[ce],h5,rfl⟩
 |k::r,s,w,hn,hB,h1,h2,h3,h4,h5,h6,h7=>by
  simp only[ce,okBL]at hn hB h3 h4 h6
  have hk:=hB.1
  rw[aex]at hk
  have hm:=ajd c k.Text
  have hs:(y3 isC c k w).uses=w.uses/\(y3 isC c k w).file=w.file/\0<=(y3 isC c k w).many/\(y3 isC c k w).many<=w.many/\(y3 isC c k w).method.length<=4000:=by
   unfold y3
   split
   ·exact⟨rfl,rfl,by simp,by simp;omega,by simp only;omega⟩
   ·exact⟨rfl,rfl,h5,by omega,h7⟩
  obtain⟨q1,q2,q3,q4,q5⟩:=hs
  have hp:=ih k s (y3 isC c k w) om ⟨hB.1,h1,h2,by omega,by rw[q1];omega,q3,by omega,q5⟩
  rw[ahy]
  cases hw:vp k s (y3 isC c k w)with
  |inr m=>rw[hw]at hp;exact hp
  |inl p=>
   rw[hw]at hp
   have hp:Inv s (y3 isC c k w) 1 (gk k) p:=hp
   have g:=atv ih isC c hc r p.1 p.2 om hB.2 (by rw[hp.tab];exact h1) (by rw[hp.cl];exact h2) (by have:=hp.seen;have:=ow k;omega) (by have:=hp.uses;rw[q1]at this;omega) hp.many (by have:=hp.many2;omega) hp.meth
   dsimp only
   cases hl:ahy r isC c p.1 p.2 with
   |inr m=>rw[hl]at g;exact g
   |inl z=>
    rw[hl]at g
    have g:Inv p.1 p.2 r.length (ce r) z:=g
    refine⟨g.tab.trans hp.tab,g.cl.trans hp.cl,?_,?_,g.many,?_,g.meth,(g.file.trans hp.file).trans q2⟩
    ·have:=g.seen;have:=hp.seen;simp only[List.length_cons];omega
    ·have:=g.uses;have:=hp.uses;rw[q1]at this;simp only[ce];omega
    ·have:=g.many2;have:=hp.many2;simp only[ce];omega
theorem ago :∀(n:Nat) (x:B5) (s:B6) (w:B8),gk x<=n->Pre x s w->Post x s w (vp x s w):=by
 intro n
 induction n with
 |zero=>intro x _ _ h;have:=ow x;omega
 |succ n ih=>
  intro x s w hn hp
  have hs:=kc x
  have hB:=hp.okx
  rw[aex]at hB
  rw[ar0]
  cases h1:agj s x w with
  |inr m=>exact atu h1
  |inl w1=>
   obtain⟨a1,a2,a3,a4⟩:=aij h1
   dsimp only
   have hh:∃u,u+ce (qp x)<=ce x.Kids/\okBL 1500 (qp x)/\match aci x s w1 with| .inr m=>m.Code≠0| .inl w2=>w2.uses.length<=w1.uses.length+2 * u/\0<=w2.many/\w2.many<=w1.many+u/\w2.method.length<=4000/\w2.file=w1.file:=by
    have pm:=hp.many
    have pt:=hp.meth
    unfold aci qp
    by_cases hd:(x.Kind==18||x.Kind==20)=true
    ·rw[if_pos hd,if_pos hd]
     cases hk:x.Kids with
     |nil=>exact⟨0,by simp[ce],by simp[okBL],by omega,by omega,by omega,by rw[a3];exact pt,rfl⟩
     |cons f r=>
      rw[hk]at hs hB
      simp only[ce,okBL]at hs hB
      have g:=ih f s w1 om ⟨hB.2.1,hp.tab,hp.cl,by have:=hp.seen;omega,by have:=hp.uses;omega,by omega,by have:=hp.many2;omega,by rw[a3];exact pt⟩
      refine⟨gk f,by simp[ce],hB.2.2,?_⟩
      dsimp only
      cases hw:vp f s w1 with
      |inr m=>rw[hw]at g;exact g
      |inl p=>
       rw[hw]at g
       have g:Inv s w1 1 (gk f) p:=g
       exact⟨g.uses,g.many,g.many2,g.meth,g.file⟩
    ·rw[if_neg hd,if_neg hd]
     refine⟨0,by omega,hB.2,by omega,by omega,by omega,by rw[a3];exact pt,rfl⟩
   obtain⟨u,hu,hR,hh⟩:=hh
   cases h2:aci x s w1 with
   |inr m=>rw[h2]at hh;exact hh
   |inl w2=>
    rw[h2]at hh
    obtain⟨b1,b2,b3,b4,b5⟩:=hh
    dsimp only
    cases h3:acz s x w2 with
    |inr m=>exact ato h3
    |inl w3=>
     obtain⟨c1,c2,c3,c4⟩:=atn h3
     dsimp only
     have hb:(ru x w3).uses=w3.uses/\(ru x w3).file=w3.file/\(ru x w3).method=w3.method/\0<=(ru x w3).many/\(ru x w3).many<=w3.many+1:=by
      unfold ru
      split
      ·exact⟨rfl,rfl,rfl,by simp only;omega,by simp only;omega⟩
      ·exact⟨rfl,rfl,rfl,by omega,by omega⟩
     obtain⟨d1,d2,d3,d4,d5⟩:=hb
     have hi:(innS s x).Table=s.Table/\(innS s x).Class=s.Class/\(innS s x).Seen=s.Seen:=by
      unfold innS
      split<;>exact⟨rfl,rfl,rfl⟩
     obtain⟨e1,e2,e3⟩:=hi
     have pu:=hp.uses
     have ps:=hp.seen
     have pm:=hp.many2
     have g:=atv ih (x.Kind==1) s.Class hp.cl (qp x) (innS s x) (ru x w3) om hR (by rw[e1];exact hp.tab) (by rw[e2];exact hp.cl) (by rw[e3];omega) (by rw[d1];omega) d4 om (by rw[d3,c3];exact b4)
     cases h4:ahy (qp x) (x.Kind==1) s.Class (innS s x) (ru x w3)with
     |inr m=>rw[h4]at g;exact g
     |inl p=>
      rw[h4]at g
      have g:Inv (innS s x) (ru x w3) (qp x).length (ce (qp x)) p:=g
      have o1:(outS s x w3).Table=s.Table/\(outS s x w3).Class=s.Class/\(outS s x w3).Seen.length<=s.Seen.length+1:=by
       unfold outS
       split
       ·exact⟨rfl,rfl,by simp⟩
       ·exact⟨rfl,rfl,by omega⟩
      have g1:=g.uses
      have g2:=g.many2
      refine⟨o1.1,o1.2.1,o1.2.2,?_,g.many,?_,g.meth,?_⟩
      ·rw[d1]at g1;show p.2.uses.length<=_;omega
      ·show p.2.many<=_;omega
      ·show p.2.file=_;rw[g.file,d2,c4,b5,a4]
end Go.Proofs.YtcndghapmoaidaaGreatDoor
set_option linter.unusedSectionVars false
set_option linter.unusedVariables false
set_option linter.unusedSimpArgs false
set_option maxRecDepth 100000
set_option maxHeartbeats 4000000
namespace Go.Proofs.YtcndghapmoaidaaGreatDoor
open Go Go.Cn
variable [Glob]
def pxW {α:Type}:α ⊕ B3->PX B9 α
 | .inl w=> .ok w
 | .inr m=> .bad (B9.mk m)
def zM :B3:=B3.mk 0 0 0
def qS (w:B8):C7:=C7.mk w.uses zM w.file w.method w.many
def QE (m:B3) (q:C7):Prop:=q.M=m
theorem aox {w:B8} (h:w.uses.length<=1000000) (a:Int) (i:Bt):nw a i w=some (putW w a i):=by
 unfold nw
 rw[oj so so]
 rfl
theorem aqw {w:B8} (h:w.uses.length<=1000000) (a:Int) (i:Bt):iu a i (qS w)=some (qS (putW w a i)):=by
 unfold iu
 show(app 32 w.uses _).bind _=_
 rw[oj so so]
 rfl
theorem awy (t:Bt):([([105,110,116]:Bt),([98,111,111,108,101,97,110]:Bt),([118,111,105,100]:Bt)]:List Bt).any (t== ·)=am0 t:=by
 unfold am0
 simp only[List.any_cons,List.any_nil,Bool.or_false,Bool.or_assoc]
theorem auq {s:B6} {x:B5} {w:B8} (hl:s.Table.length<=1000000) (h:w.uses.length<=1000000):sq s x w=some (pxW (agj s x w)):=by
 unfold sq
 rw[aou sm,awy,Option.bind_some]
 have j2:ld w s x (decide (x.TypeAt<0)||am0 x.Type_)=some (pxW (agj s x w)):=by
  unfold ld sa agj
  by_cases hb:(decide (x.TypeAt<0)||am0 x.Type_)=true
  ·rw[if_pos hb,if_pos hb];rfl
  ·rw[if_neg hb,if_neg hb,adn hl,Option.bind_some]
   dsimp only
   rw[aiz s (cls s.Table x.Type_),Option.bind_some]
   unfold as6
   by_cases hc:(cls s.Table x.Type_).2=true
   ·rw[if_pos hc,if_pos hc]
    dsimp only
    unfold la
    rw[if_neg dcd]
    show(nw x.TypeAt (cls s.Table x.Type_).1.Id w).bind _=_
    rw[aox h]
    rfl
   ·rw[if_neg hc,if_neg hc]
    rfl
 cases hd:decide (x.TypeAt<0)
 ·rw[hd,Bool.false_or]at j2;rw[if_neg sm];exact j2
 ·rw[hd,Bool.true_or]at j2;rw[if_pos rfl];exact j2
theorem avi {s:B6} {x:B5} {w:B8} (hl:s.Table.length<=1000000) (h:w.uses.length<=1000000):∃q,agv (rS s) x (qS w)=some q/\(match agj s x w with| .inl w'=>q=qS w'| .inr m=>QE m q):=by
 have j1:∃q,ox (qS w) (rS s) x (decide (x.TypeAt<0)||am0 x.Type_)=some q/\(match agj s x w with| .inl w'=>q=qS w'| .inr m=>QE m q):=by
  unfold ox agj
  by_cases hb:(decide (x.TypeAt<0)||am0 x.Type_)=true
  ·rw[if_pos hb,if_pos hb];exact⟨_,rfl,rfl⟩
  ·rw[if_neg hb,if_neg hb]
   have e3:(rS s).Table=s.Table:=rfl
   rw[e3,xc om,Option.bind_some]
   dsimp only
   by_cases hc:(cls s.Table x.Type_).2=true
   ·rw[if_neg (by rw[hc];decide),if_pos hc,aqw h]
    exact⟨_,rfl,rfl⟩
   ·rw[if_pos (by rw[Bool.eq_false_iff.2 hc];rfl),if_neg hc]
    exact⟨_,rfl,rfl⟩
 unfold agv
 cases hd:decide (x.TypeAt<0)
 ·rw[hd,Bool.false_or]at j1
  unfold am0 at j1
  rw[if_neg sm]
  cases h1:(x.Type_==tInt)
  ·rw[h1,Bool.false_or]at j1
   rw[if_neg sm]
   cases h2:(x.Type_==axf)
   ·rw[h2,Bool.false_or]at j1;rw[if_neg sm];exact j1
   ·rw[h2,Bool.true_or]at j1;rw[if_pos rfl];exact j1
  ·rw[h1,Bool.true_or]at j1;rw[if_pos rfl];exact j1
 ·rw[hd,Bool.true_or]at j1;rw[if_pos rfl];exact j1
structure NPre (x:B5) (s:B6) (w:B8):Prop where
 okx:okB 1500 x
 size:gk x<=200000
 tab:s.Table.length<=1000000
 cl:s.Class.length<=1500
 seen:s.Seen.length<=1000000
 uses:w.uses.length<=1000000
 many:0<=w.many
 many2:w.many<=1000000
 meth:w.method.length<=4000
theorem NPre.loc {x:B5} {s:B6} {w:B8} (h:NPre x s w):uf w.method w.many=some (ah4 w.method w.many.toNat)/\pq w.method w.many=some (ah4 w.method w.many.toNat):=by
 obtain⟨n,hn⟩:∃n:Nat,w.many=n:=⟨w.many.toNat,by have:=h.many;omega⟩
 have:=h.many2
 have:=h.meth
 rw[hn,Int.toNat_natCast]
 exact⟨aj4 om om,aj0 om om⟩
theorem auo {s:B6} {x:B5} {w:B8} (hp:NPre x s w):u4 s x w=some (pxW (acz s x w)):=by
 have hB:=hp.okx
 rw[aex]at hB
 have hc:=hp.cl
 have hu:=hp.uses
 have ew:B8.mk w.uses w.file w.method w.many=w:=rfl
 have j3:(x.Kind==16&&s.Static)=false->md x s w.file w.method w.many w.uses=some (pxW (acz s x w)):=fun h16=>by
  unfold md acz ug
  rw[ew,h16,if_neg (show ¬(false=true)by simp),aga om,aem om]
  simp only[Option.bind_some]
  have j1:∀i,ij x i w.file w.method w.many w.uses=some (.ok (putW w x.At i)):=fun i=>by
   unfold ij
   rw[ew,aox om]
   rfl
  have j2:mf w.method w.many x w.file w.uses s (decl x)=some (pxW (if decl x=true then .inl (putW w x.At (ah4 w.method w.many.toNat))else if(entM s x).2≠0 then .inr (B3.mk (entM s x).2 w.file x.At)else .inl (putW w x.At (entM s x).1.Id))):=by
   unfold mf
   rw[hp.loc.1,aqm hp.tab hp.seen (by have:=hp.size;omega),Option.bind_some,Option.bind_some,j1]
   dsimp only
   by_cases hd:decl x=true
   ·rw[if_pos hd,if_pos hd];rfl
   ·rw[if_neg hd,if_neg hd,ew]
    unfold la
    by_cases h0:(entM s x).2=0
    ·rw[if_neg (by simp[h0]),if_neg (by simp[h0])]
     exact j1 _
    ·rw[if_pos (by simpa using h0),if_pos h0]
     rfl
  by_cases ha:x.At<0
  ·rw[if_pos (by simpa using ha),if_pos ha];rfl
  ·rw[if_neg (by simpa using ha),if_neg ha]
   by_cases h1:x.Kind=1
   ·rw[if_pos (by simp[h1]),if_pos h1,j1];rfl
   ·rw[if_neg (by simpa using h1),if_neg h1]
    by_cases h2:x.Kind=2
    ·rw[if_pos (by simp[h2]),if_pos h2,j1];rfl
    ·rw[if_neg (by simpa using h2),if_neg h2]
     by_cases h3:x.Kind=3
     ·rw[if_pos (by simp[h3]),if_pos h3,j1];rfl
     ·rw[if_neg (by simpa using h3),if_neg h3]
      have e:decl x=((x.Kind==4)||(x.Kind==6)):=rfl
      rw[← j2,e]
      cases (x.Kind==4)<;>rfl
 unfold u4 pa
 cases h16:(x.Kind==16)
 ·rw[if_neg sm,if_neg sm]
  exact j3 (by rw[h16];rfl)
 ·rw[if_pos rfl]
  by_cases hs:s.Static=true
  ·rw[if_pos hs]
   unfold acz
   rw[h16,hs,if_pos (by rfl)]
   rfl
  ·rw[if_neg hs]
   exact j3 (by rw[Bool.eq_false_iff.2 hs,Bool.and_false])
theorem avh {s:B6} {x:B5} {w:B8} (hp:NPre x s w):∃q,aih (rS s) x (qS w)=some q/\(match acz s x w with| .inl w'=>q=qS w'| .inr m=>QE m q):=by
  have hB:=hp.okx
  rw[aex]at hB
  have hc:=hp.cl
  have hu:=hp.uses
  have e4:(rS s).Class=s.Class:=rfl
  have e5:(rS s).Static=s.Static:=rfl
  have put:∀a i,iu a i (qS w)=some (qS (putW w a i)):=aqw om
  have j5:∃q,ys x (qS w) (rS s) (x.Kind==16&&s.Static)=some q/\(match acz s x w with| .inl w'=>q=qS w'| .inr m=>QE m q):=by
    unfold ys ae5 ae4 acz
    rw[e4,aj2 om,aek om]
    simp only[Option.bind_some,put]
    by_cases h16:(x.Kind==16&&s.Static)=true
    · rw[if_pos h16,if_pos h16]
      exact⟨_,rfl,rfl⟩
    · rw[if_neg h16,if_neg h16]
      by_cases ha:x.At<0
      · rw[if_pos (by simpa using ha),if_pos ha];exact⟨_,rfl,rfl⟩
      · rw[if_neg (by simpa using ha),if_neg ha]
        by_cases h1:x.Kind=1
        · rw[if_pos (by simp[h1]),if_pos h1];exact⟨_,rfl,rfl⟩
        · rw[if_neg (by simpa using h1),if_neg h1]
          by_cases h2:x.Kind=2
          · rw[if_pos (by simp[h2]),if_pos h2];exact⟨_,rfl,rfl⟩
          · rw[if_neg (by simpa using h2),if_neg h2]
            by_cases h3:x.Kind=3
            · rw[if_pos (by simp[h3]),if_pos h3];exact⟨_,rfl,rfl⟩
            · rw[if_neg (by simpa using h3),if_neg h3]
              have j4:∃q,yt (qS w) x (rS s) (decl x)=some q/\(match (if decl x=true then .inl (putW w x.At (ah4 w.method w.many.toNat))else if(entM s x).2≠0 then .inr (B3.mk (entM s x).2 w.file x.At)else .inl (putW w x.At (entM s x).1.Id):B8 ⊕ B3)with| .inl w'=>q=qS w'| .inr m=>QE m q):=by
                unfold yt ae3
                have el:pq (qS w).Method (qS w).Many=some (ah4 w.method w.many.toNat):=hp.loc.2
                rw[el,ao8 hp.tab hp.seen (by have:=hp.size;omega)]
                simp only[Option.bind_some,put]
                by_cases hd:decl x=true
                · rw[if_pos hd,if_pos hd];exact⟨_,rfl,rfl⟩
                · rw[if_neg hd,if_neg hd]
                  by_cases h0:(entM s x).2=0
                  · rw[if_neg (by simp[h0]),if_neg (by simp[h0])];exact⟨_,rfl,rfl⟩
                  · rw[if_pos (by simpa using h0),if_pos h0];exact⟨_,rfl,rfl⟩
              have e:decl x=((x.Kind==4)||(x.Kind==6)):=rfl
              rw[e]at j4 ⊢
              cases h4:(x.Kind==4)
              · rw[h4,Bool.false_or]at j4;rw[if_neg (show ¬(false=true)by simp)];exact j4
              · rw[h4,Bool.true_or]at j4;exact j4
  unfold aih
  rw[e5]
  cases h16:(x.Kind==16)
  · rw[h16,Bool.false_and]at j5;rw[if_neg sm];exact j5
  · rw[h16,Bool.true_and]at j5;rw[if_pos rfl];exact j5
end Go.Proofs.YtcndghapmoaidaaGreatDoor
set_option linter.unusedSectionVars false
set_option linter.unusedVariables false
set_option linter.unusedSimpArgs false
set_option maxRecDepth 100000
set_option maxHeartbeats 4000000
namespace Go.Proofs.YtcndghapmoaidaaGreatDoor
open Go Go.Cn
variable [Glob]
structure LPre (r:List B5) (s:B6) (w:B8):Prop where
 okx:okBL 1500 r
 tab:s.Table.length<=1000000
 cl:s.Class.length<=1500
 seen:s.Seen.length+ce r<=500000
 uses:w.uses.length+2 * ce r<=400000
 many:0<=w.many
 many2:w.many+ce r<=1000000
 meth:w.method.length<=4000
theorem aym (isC:Bool) {c:Bt} (hc:c.length<=1500) {y:B5} (hy:okB 1500 y) {w:B8} (hm:w.method.length<=4000) (h0:0<=w.many):
  (y3 isC c y w).uses=w.uses/\(y3 isC c y w).file=w.file/\0<=(y3 isC c y w).many/\(y3 isC c y w).many<=w.many/\(y3 isC c y w).method.length<=4000:=by
 rw[aex]at hy
 have:=ajd c y.Text
 unfold y3
 split
 ·exact⟨rfl,rfl,by simp,by simp;omega,by simp only;omega⟩
 ·exact⟨rfl,rfl,h0,by omega,hm⟩
theorem Inv.step {r:List B5} {s:B6} {w:B8} (hL:LPre r s w) {i:Nat} {y:B5} {p:B6 × B8} (hy:r[i]? =some y) (hi:Inv s w i (ce (r.take i)) p) (isC:Bool) {c:Bt} (hc:c.length<=1500):
  Pre y p.1 (y3 isC c y p.2)/\∀p',vp y p.1 (y3 isC c y p.2)= .inl p'->Inv s w (i+1) (ce (r.take (i+1))) p':=by
 have hB:=aau hL.okx (k9 hy)
 obtain⟨q1,q2,q3,q4,q5⟩:=aym isC hc hB hi.meth hi.many
 obtain⟨t1,t2⟩:=nq hy
 have t3:=yk hy
 have a1:=hi.seen
 have a2:=hi.uses
 have a3:=hi.many2
 have b1:=hL.seen
 have b2:=hL.uses
 have b3:=hL.many2
 have hP:Pre y p.1 (y3 isC c y p.2):=⟨hB,by rw[hi.tab];exact hL.tab,by rw[hi.cl];exact hL.cl,by omega,by rw[q1];omega,q3,by omega,q5⟩
 refine⟨hP,fun p' e=>?_⟩
 have g:=ago (gk y) y p.1 (y3 isC c y p.2) (Nat.le_refl _) hP
 rw[e]at g
 have g:Inv p.1 (y3 isC c y p.2) 1 (gk y) p':=g
 refine⟨g.tab.trans hi.tab,g.cl.trans hi.cl,?_,?_,g.many,?_,g.meth,(g.file.trans q2).trans hi.file⟩
 ·have:=g.seen;omega
 ·have:=g.uses;rw[q1]at this;omega
 ·have:=g.many2;omega
theorem Inv.zero {r:List B5} {s:B6} {w:B8} (hL:LPre r s w):Inv s w 0 (ce (r.take 0)) (s,w):=⟨rfl,rfl,by simp,by simp,hL.many,by simp[ce],hL.meth,rfl⟩
theorem ay5 {k:Nat} (ih:∀x s w,gk x<=k->gk x<=100000->Pre x s w->bq k s x w=some (pxW (vp x s w))) {x:B5} {s0:B6} (hc:s0.Class.length<=1500) {r:List B5} (hr:ce r<=k) (hr2:ce r<=100000) {s:B6} {w:B8} (hL:LPre r s w):
  Ok (Fin' (fun o p=>o= .next (p.2.file,p.2.method,p.2.many,p.2.uses,p.1)) (fun o m=>o= .done (.bad (B9.mk m))) (rowF (gL (x.Kind==1) s0.Class) 0 r (s,w)))
   (iter (fun t=>i0 (bq k) r x s0 t.1 t.2.1 t.2.2.1 t.2.2.2.1 t.2.2.2.2.1 t.2.2.2.2.2) (0,w.file,w.method,w.many,s,w.uses)):=by
 refine rowM (l:=r) (f:=fun t:Int × Int × Bt × Int × B6 × List B7=>i0 (bq k) r x s0 t.1 t.2.1 t.2.2.1 t.2.2.2.1 t.2.2.2.2.1 t.2.2.2.2.2) (gL (x.Kind==1) s0.Class)
  (fun i t p=>t=((i:Int),p.2.file,p.2.method,p.2.many,p.1,p.2.uses)/\Inv s w i (ce (r.take i)) p) _ _ (fun i y t p hy h=>?_) (fun t p h=>?_) r 0 _ (s,w) rfl (Nat.zero_le _) ⟨rfl,Inv.zero hL⟩
 ·obtain⟨rfl,hi⟩:=h
  dsimp only
  obtain⟨hP,hN⟩:=hi.step hL hy (x.Kind==1) hc
  have t3:=yk hy
  have hsz:=aku hy
  have hB:=aau hL.okx (k9 hy)
  rw[aex]at hB
  unfold i0
  rw[if_pos (gm hy),ei hy,Option.bind_some]
  have j5:Ok (Step (fun t p=>t=(((i+1:Nat):Int),p.2.file,p.2.method,p.2.many,p.1,p.2.uses)/\Inv s w (i+1) (ce (r.take (i+1))) p) (fun o m=>o= .done (.bad (B9.mk m))) (gL (x.Kind==1) s0.Class i p y)) (jy (bq k) s0 y p.1 p.2.uses p.2.file i p.2.method p.2.many (x.Kind==1&&y.Kind==3)):=by
   have e:jy (bq k) s0 y p.1 p.2.uses p.2.file i p.2.method p.2.many (x.Kind==1&&y.Kind==3)=anu (bq k p.1 y (y3 (x.Kind==1) s0.Class y p.2)) (fun m65=>some (.inr (.done (.bad m65)))) fun(x62,x63)=>some (.inl (w64 ((i:Int)+1),x63.file,x63.method,x63.many,x62,x63.uses)):=by
    unfold jy oa y3
    rw[aem om]
    cases (x.Kind==1&&y.Kind==3)<;>rfl
   rw[e,ih y p.1 _ om om hP,aae om]
   unfold gL
   cases hw:vp y p.1 (y3 (x.Kind==1) s0.Class y p.2)with
   |inr m=>exact .mk ⟨_,rfl,rfl⟩
   |inl p'=>exact .mk ⟨_,rfl,rfl,hN p' hw⟩
  cases h1:(x.Kind==1)
  ·rw[h1,Bool.false_and]at j5;rw[if_neg sm];exact j5
  ·rw[h1,Bool.true_and]at j5;rw[if_pos rfl];exact j5
 ·obtain⟨rfl,hi⟩:=h
  dsimp only
  unfold i0
  rw[if_neg (gt (Nat.le_refl _))]
  exact .mk ⟨_,rfl,rfl⟩
def HP (x:B5) (s:B6) (w1:B8) (u:Nat):B8 ⊕ B3->Prop
 | .inr m=>m.Code≠0
 | .inl w2=>w2.uses.length<=w1.uses.length+2 * u/\0<=w2.many/\w2.many<=w1.many+u/\w2.method.length<=4000/\w2.file=w1.file
theorem anp {x:B5} {s:B6} {w w1:B8} (hp:Pre x s w) (h1:agj s x w= .inl w1):∃u,u+ce (qp x)<=ce x.Kids/\okBL 1500 (qp x)/\HP x s w1 u (aci x s w1):=by
 obtain⟨a1,a2,a3,a4⟩:=aij h1
 have hs:=kc x
 have hB:=hp.okx
 rw[aex]at hB
 have pm:=hp.many
 have pt:=hp.meth
 have pu:=hp.uses
 unfold aci qp
 by_cases hd:(x.Kind==18||x.Kind==20)=true
 ·rw[if_pos hd,if_pos hd]
  cases hk:x.Kids with
  |nil=>exact⟨0,by simp[ce],by simp[okBL],by omega,by omega,by omega,by rw[a3];exact pt,rfl⟩
  |cons f r=>
   rw[hk]at hs hB
   simp only[ce,okBL]at hs hB
   have g:=ago _ f s w1 (Nat.le_refl _) ⟨hB.2.1,hp.tab,hp.cl,by have:=hp.seen;omega,by omega,by omega,by have:=hp.many2;omega,by rw[a3];exact pt⟩
   refine⟨gk f,by simp[ce],hB.2.2,?_⟩
   dsimp only
   cases hw:vp f s w1 with
   |inr m=>rw[hw]at g;exact g
   |inl p=>
    rw[hw]at g
    have g:Inv s w1 1 (gk f) p:=g
    exact⟨g.uses,g.many,g.many2,g.meth,g.file⟩
 ·rw[if_neg hd,if_neg hd]
  exact⟨0,by omega,hB.2,by omega,by omega,by omega,by rw[a3];exact pt,rfl⟩
theorem atx {x:B5} {s:B6} {w w1 w2 w3:B8} (hp:Pre x s w) (h1:agj s x w= .inl w1) (h2:aci x s w1= .inl w2) (h3:acz s x w2= .inl w3):LPre (qp x) (innS s x) (ru x w3)/\NPre x s w3:=by
 obtain⟨a1,a2,a3,a4⟩:=aij h1
 obtain⟨u,hu,hR,hh⟩:=anp hp h1
 rw[h2]at hh
 obtain⟨b1,b2,b3,b4,b5⟩:=hh
 obtain⟨c1,c2,c3,c4⟩:=atn h3
 have hs:=kc x
 have pu:=hp.uses
 have ps:=hp.seen
 have pm:=hp.many2
 have hb:(ru x w3).uses=w3.uses/\(ru x w3).method=w3.method/\0<=(ru x w3).many/\(ru x w3).many<=w3.many+1:=by
  unfold ru
  split
  ·exact⟨rfl,rfl,by simp only;omega,by simp only;omega⟩
  ·exact⟨rfl,rfl,by omega,by omega⟩
 obtain⟨d1,d3,d4,d5⟩:=hb
 have hi:(innS s x).Table=s.Table/\(innS s x).Class=s.Class/\(innS s x).Seen=s.Seen:=by
  unfold innS
  split<;>exact⟨rfl,rfl,rfl⟩
 obtain⟨e1,e2,e3⟩:=hi
 exact⟨⟨hR,by rw[e1];exact hp.tab,by rw[e2];exact hp.cl,by rw[e3];omega,by rw[d1];omega,d4,by omega,by rw[d3,c3];exact b4⟩,
  ⟨hp.okx,by omega,hp.tab,hp.cl,by omega,by omega,by omega,by omega,by rw[c3];exact b4⟩⟩
theorem av8 {x:B5} {s:B6} {w w1 w2:B8} (hp:Pre x s w) (h1:agj s x w= .inl w1) (h2:aci x s w1= .inl w2):NPre x s w2:=by
 obtain⟨a1,a2,a3,a4⟩:=aij h1
 obtain⟨u,hu,hR,hh⟩:=anp hp h1
 rw[h2]at hh
 obtain⟨b1,b2,b3,b4,b5⟩:=hh
 have hs:=kc x
 have pu:=hp.uses
 have ps:=hp.seen
 have pm:=hp.many2
 exact⟨hp.okx,by omega,hp.tab,hp.cl,by omega,by omega,by omega,by omega,b4⟩
theorem at1 {x f:B5} {r:List B5} {s:B6} {w w1:B8} (hp:Pre x s w) (h1:agj s x w= .inl w1) (hk:x.Kids=f::r):Pre f s w1/\gk f<gk x:=by
 obtain⟨a1,a2,a3,a4⟩:=aij h1
 have hs:=kc x
 have hB:=hp.okx
 rw[aex,hk]at hB
 rw[hk]at hs
 simp only[ce,okBL]at hs hB
 exact⟨⟨hB.2.1,hp.tab,hp.cl,by have:=hp.seen;omega,by have:=hp.uses;omega,by have:=hp.many;omega,by have:=hp.many2;omega,by rw[a3];exact hp.meth⟩,by omega⟩
theorem ayj : ∀ (k : Nat) (x : B5) (s : B6) (w : B8), gk x <= k -> gk x <= 100000 -> Pre x s w -> bq k s x w = some (pxW (vp x s w)) := by
  intro k
  induction k with
  |zero=>intro x _ _ h;have:=ow x;omega
  |succ k ih=>
    intro x s w hx hx2 hp
    have hs:=kc x
    show ph (bq k) s x w=_
    unfold ph
    rw[auq hp.tab (by have:=hp.uses;omega),ar0]
    cases h1:agj s x w with
    |inr m=>rfl
    |inl w1=>
      have j9:∀w2,aci x s w1= .inl w2->lc (bq k) s x (qp x) w2.file w2.method w2.many w2.uses=some (pxW (match acz s x w2 with
        | .inr m=> .inr m
        | .inl w=>finM s x w (ahy (qp x) (x.Kind==1) s.Class (innS s x) (ru x w)))):=fun w2 h2=>by
        have hN:=av8 hp h1 h2
        unfold lc
        have ew:B8.mk w2.uses w2.file w2.method w2.many=w2:=rfl
        rw[ew,auo hN]
        cases h3:acz s x w2 with
        |inr m=>rfl
        |inl w3=>
          obtain⟨hL,hN3⟩:=atx hp h1 h2 h3
          obtain⟨u,hu,_,_⟩:=anp hp h1
          show(if(x.Kind==4)=true then g7 (bq k) w3 (qp x) x s true else g7 (bq k) w3 (qp x) x s (x.Kind==6))=_
          have j8:g7 (bq k) w3 (qp x) x s (decl x)=some (pxW (finM s x w3 (ahy (qp x) (x.Kind==1) s.Class (innS s x) (ru x w3)))):=by
            have hmany:w64 (w3.many+1)=w3.many+1:=c5 (by have:=hN3.many;omega) (by have:=hN3.many2;omega)
            have e:g7 (bq k) w3 (qp x) x s (decl x)=jx (bq k) (qp x) x s w3 (decl x) (ah4 w3.method w3.many.toNat) (ru x w3).many (innS s x):=by
              unfold g7 r9 ru innS
              rw[hN3.loc.1,Option.bind_some,hmany]
              cases hd:decl x
              · cases (x.Kind==3)<;>rfl
              · have h3:(x.Kind==3)=false:=by
                  unfold decl at hd
                  simp at hd
                  simp
                  omega
                rw[h3]
                rfl
            rw[e]
            unfold jx
            have eb:(ru x w3).file=w3.file/\(ru x w3).method=w3.method/\(ru x w3).uses=w3.uses:=by
              unfold ru
              split<;>exact⟨rfl,rfl,rfl⟩
            obtain⟨o,e1,ho⟩:=ay5 ih (x:=x) (s0:=s) hp.cl (r:=qp x) om om hL
            rw[eb.1,eb.2.1,eb.2.2]at e1
            rw[e1,Option.bind_some,aoc _ _ _ 0]
            revert ho
            cases rowF (gL (x.Kind==1) s.Class) 0 (qp x) (innS s x,ru x w3)with
            |inr m=>rintro rfl;rfl
            |inl p=>
              rintro rfl
              dsimp only
              unfold r8 ob ae0 finM outS
              cases decl x
              · rfl
              · rw[if_pos rfl,oj (by simp;have:=hN3.seen;omega) (by simp;have:=hN3.seen;omega),Option.bind_some,oj (by simp;have:=hN3.seen;omega) (by simp;have:=hN3.seen;omega)]
                rfl
          have e:decl x=((x.Kind==4)||(x.Kind==6)):=rfl
          refine Eq.trans ?_ j8
          rw[e]
          cases (x.Kind==4)<;>rfl
      show(if(x.Kind==18)=true then ft (bq k) x s w1 (decide ((x.Kids.length:Int)>0))else if(x.Kind==20)=true then ft (bq k) x s w1 (decide ((x.Kids.length:Int)>0))else ft (bq k) x s w1 false)=_
      dsimp only
      have j11:ft (bq k) x s w1 ((x.Kind==18||x.Kind==20)&&decide ((x.Kids.length:Int)>0))=some (pxW (match aci x s w1 with
          | .inr m=> .inr m
          | .inl w=>match acz s x w with
            | .inr m=> .inr m
            | .inl w=>finM s x w (ahy (qp x) (x.Kind==1) s.Class (innS s x) (ru x w)))):=by
        unfold ft
        by_cases hd:(x.Kind==18||x.Kind==20)=true
        · rw[hd,Bool.true_and]
          cases hk:x.Kids with
          |nil=>
            rw[if_neg sm]
            have e1:aci x s w1= .inl w1:=by
              unfold aci
              rw[if_pos hd,hk]
            have e2:qp x=[]:=by
              unfold qp
              rw[if_pos hd,hk]
              rfl
            have:=j9 w1 e1
            rw[e2]at this
            rw[this,e1,e2]
          |cons f r=>
            obtain⟨hf,hlt⟩:=at1 hp h1 hk
            have e0:idx (f::r) (0:Int)=some f:=rfl
            rw[if_pos (by simp<;>omega),e0,Option.bind_some,ih f s w1 om om hf]
            have e1:aci x s w1=match vp f s w1 with| .inr m=> .inr m| .inl p=> .inl p.2:=by
              unfold aci
              rw[if_pos hd,hk]
              try rfl
            have e2:qp x=r:=by
              unfold qp
              rw[if_pos hd,hk]
              rfl
            cases hw:vp f s w1 with
            |inr m=>
              rw[hw]at e1
              rw[e1]
              rfl
            |inl p=>
              rw[hw]at e1
              rw[e1]
              show mt (bq k) x s p.2=_
              unfold mt
              have es:subL x.Kids 1 (x.Kids.length:Int)=some (qp x):=by
                rw[hk,e2]
                unfold subL
                rw[if_pos so,Int.toNat_natCast,List.take_length]
                rfl
              rw[es,Option.bind_some]
              exact j9 p.2 e1
        · rw[Bool.eq_false_iff.2 hd,Bool.false_and,if_neg sm]
          have e1:aci x s w1= .inl w1:=by
            unfold aci
            rw[if_neg hd]
          have e2:qp x=x.Kids:=by
            unfold qp
            rw[if_neg hd]
          have:=j9 w1 e1
          rw[e1]
          rw[e2]at this ⊢
          exact this
      refine Eq.trans ?_ j11
      cases (x.Kind==18)<;>cases (x.Kind==20)<;>rfl
end Go.Proofs.YtcndghapmoaidaaGreatDoor
set_option linter.unusedSectionVars false
set_option linter.unusedVariables false
set_option linter.unusedSimpArgs false
set_option maxRecDepth 100000
set_option maxHeartbeats 4000000
namespace Go.Proofs.YtcndghapmoaidaaGreatDoor
open Go Go.Cn
variable [Glob]
def RefP :WM->C7 × C8->Prop
 | .inl p,r=>r=(qS p.2,rS p.1)
 | .inr m,r=>QE m r.1
theorem axj (w:B8):jp (qS w)=some false:=rfl
theorem axk {m:B3} {q:C7} (h:QE m q) (hm:m.Code≠0):jp q=some true:=by
 unfold jp
 rw[h]
 simpa using hm
theorem az3 {k:Nat} (ih:∀x s w,gk x<=k->gk x<=100000->Pre x s w->∃r,ct k (rS s) x (qS w)=some r/\RefP (vp x s w) r) {x:B5} {s0:B6} (hc:s0.Class.length<=1500) {j:Nat} {r:List B5} (hj:x.Kids.drop j=r) (hj2:j<=x.Kids.length) (hr:ce r<=k) (hr2:ce r<=100000) (hlen:x.Kids.length<=1000000) {s:B6} {w:B8} (hL:LPre r s w):
  Ok (Fin' (fun o p=>o= .next (p.2.uses,zM,p.2.file,p.2.method,p.2.many,rS p.1)) (fun o m=>∃q,o= .done (q,rS s0)/\QE m q) (rowF (gL (x.Kind==1) s0.Class) j r (s,w)))
   (iter (fun t=>mz (ct k) x (rS s0) t.1 t.2.1 t.2.2.1 t.2.2.2.1 t.2.2.2.2.1 t.2.2.2.2.2.1 t.2.2.2.2.2.2) ((j:Int),zM,w.file,w.method,w.many,rS s,w.uses)):=by
 have get:∀i y,j<=i->x.Kids[i]? =some y->r[i - j]? =some y:=fun i y h1 h2=>by
  rw[← hj,List.getElem?_drop,show j+(i - j)=i by omega]
  exact h2
 refine rowM (l:=x.Kids) (f:=fun t:Int × B3 × Int × Bt × Int × C8 × List B7=>mz (ct k) x (rS s0) t.1 t.2.1 t.2.2.1 t.2.2.2.1 t.2.2.2.2.1 t.2.2.2.2.2.1 t.2.2.2.2.2.2) (gL (x.Kind==1) s0.Class)
  (fun i t p=>j<=i/\t=((i:Int),zM,p.2.file,p.2.method,p.2.many,rS p.1,p.2.uses)/\Inv s w (i - j) (ce (r.take (i - j))) p) _ _ (fun i y t p hy h=>?_) (fun t p h=>?_) r j _ (s,w) hj hj2 ⟨Nat.le_refl _,rfl,by rw[Nat.sub_self];exact Inv.zero hL⟩
 ·obtain⟨hij,rfl,hi⟩:=h
  dsimp only
  have hy':=get i y hij hy
  obtain⟨hP,hN⟩:=hi.step hL hy' (x.Kind==1) hc
  have t3:=k7 hy
  have hsz:=aku hy'
  have hB:=aau hL.okx (k9 hy')
  rw[aex]at hB
  unfold mz
  rw[if_pos (gm hy),ei hy,Option.bind_some]
  have j5:Ok (Step (fun t p=>j<=i+1/\t=(((i+1:Nat):Int),zM,p.2.file,p.2.method,p.2.many,rS p.1,p.2.uses)/\Inv s w (i+1 - j) (ce (r.take (i+1 - j))) p) (fun o m=>∃q,o= .done (q,rS s0)/\QE m q) (gL (x.Kind==1) s0.Class i p y)) (pw (ct k) x i (rS s0) (rS p.1) p.2.uses zM p.2.file p.2.method p.2.many (x.Kind==1&&y.Kind==3)):=by
   have e:pw (ct k) x i (rS s0) (rS p.1) p.2.uses zM p.2.file p.2.method p.2.many (x.Kind==1&&y.Kind==3)=(ct k (rS p.1) y (qS (y3 (x.Kind==1) s0.Class y p.2))).bind fun(x490,x491)=>wg (ct k) (rS s0) i x490 x491:=by
    unfold pw aax we y3
    have e4:(rS s0).Class=s0.Class:=rfl
    rw[ei hy,e4]
    simp only[Option.bind_some]
    rw[aek om]
    cases (x.Kind==1&&y.Kind==3)<;>rfl
   obtain⟨⟨q,s'⟩,e2,hq⟩:=ih y p.1 _ om om hP
   have gp:=ago (gk y) y p.1 (y3 (x.Kind==1) s0.Class y p.2) (Nat.le_refl _) hP
   rw[e,e2,Option.bind_some]
   dsimp only
   unfold wg ac2 gL
   cases hw:vp y p.1 (y3 (x.Kind==1) s0.Class y p.2)with
   |inr m=>
    rw[hw]at hq gp
    have hq:QE m q:=hq
    rw[axk hq gp]
    exact .mk ⟨_,rfl,_,rfl,hq⟩
   |inl p'=>
    rw[hw]at hq
    have hq:(q,s')=(qS p'.2,rS p'.1):=hq
    injection hq with h1 h2
    subst h1 h2
    rw[axj,Option.bind_some,if_neg sm,aae om]
    have:=hN p' hw
    rw[show i - j+1=i+1 - j by omega]at this
    exact .mk ⟨_,rfl,by omega,rfl,this⟩
  cases h1:(x.Kind==1)
  ·rw[h1,Bool.false_and]at j5;rw[if_neg sm];exact j5
  ·rw[h1,Bool.true_and]at j5;rw[if_pos rfl];exact j5
 ·obtain⟨_,rfl,hi⟩:=h
  dsimp only
  unfold mz
  rw[if_neg (gt (Nat.le_refl _))]
  exact .mk ⟨_,rfl,rfl⟩
theorem azn :∀(k:Nat) (x:B5) (s:B6) (w:B8),gk x<=k->gk x<=100000->Pre x s w->∃r,ct k (rS s) x (qS w)=some r/\RefP (vp x s w) r:=by
 intro k
 induction k with
 |zero=>intro x _ _ h;have:=ow x;omega
 |succ k ih=>
  intro x s w hx hx2 hp
  have hs:=kc x
  have hlen:=ko x.Kids
  show ∃r,acd (ct k) (rS s) x (qS w)=some r/\_
  unfold acd
  obtain⟨q1,e1,hq1⟩:=avi (s:=s) (x:=x) (w:=w) hp.tab (by have:=hp.uses;omega)
  rw[e1,Option.bind_some,ar0]
  cases h1:agj s x w with
  |inr m=>
   rw[h1]at hq1
   rw[axk hq1 (atu h1),Option.bind_some,if_pos rfl]
   exact⟨_,rfl,hq1⟩
  |inl w1=>
   rw[h1]at hq1
   have hq1:q1=qS w1:=hq1
   subst hq1
   rw[axj,Option.bind_some,if_neg sm]
   dsimp only
   obtain⟨u,hu,_,hh⟩:=anp hp h1
   have j18:∀(w2:B8) (j:Nat),aci x s w1= .inl w2->x.Kids.drop j=qp x->j<=x.Kids.length->∃r,pv (ct k) (rS s) x j zM w2.file w2.method w2.many w2.uses=some r/\RefP (match acz s x w2 with
    | .inr m=> .inr m
    | .inl w=>finM s x w (ahy (qp x) (x.Kind==1) s.Class (innS s x) (ru x w))) r:=fun w2 j h2 hj hj2=>by
    have hN:=av8 hp h1 h2
    unfold pv
    have ew:C7.mk w2.uses zM w2.file w2.method w2.many=qS w2:=rfl
    obtain⟨q2,e2,hq2⟩:=avh hN
    rw[ew,axj,Option.bind_some,if_neg sm,e2,Option.bind_some]
    cases h3:acz s x w2 with
    |inr m=>
     rw[h3]at hq2
     rw[axk hq2 (ato h3),Option.bind_some,if_pos rfl]
     exact⟨_,rfl,hq2⟩
    |inl w3=>
     rw[h3]at hq2
     have hq2:q2=qS w3:=hq2
     subst hq2
     obtain⟨hL,hN3⟩:=atx hp h1 h2 h3
     rw[axj,Option.bind_some,if_neg sm]
     dsimp only
     have hmany:w64 (w3.many+1)=w3.many+1:=c5 (by have:=hN3.many;omega) (by have:=hN3.many2;omega)
     have j17:li (ct k) (qS w3) x (rS s) j (rS (innS s x))=sv (ct k) x (rS s) j (qS w3) (rS (innS s x)) (ah4 w3.method w3.many.toNat) (ru x w3).many:=by
      unfold li aaw wd
      have el:pq (qS w3).Method (qS w3).Many=some (ah4 w3.method w3.many.toNat):=hN3.loc.2
      have em:w64 ((qS w3).Many+1)=w3.many+1:=hmany
      rw[el,Option.bind_some,em]
      unfold ru
      have e:decl x=((x.Kind==4)||(x.Kind==6)):=rfl
      rw[e]
      cases (x.Kind==4)<;>cases (x.Kind==6)<;>rfl
     have e5:(if(x.Kind==3)=true then li (ct k) (qS w3) x (rS s) j ({rS s with Static:=x.N==1})else li (ct k) (qS w3) x (rS s) j (rS s))=li (ct k) (qS w3) x (rS s) j (rS (innS s x)):=by
      unfold innS
      cases (x.Kind==3)<;>rfl
     rw[e5,j17]
     unfold sv
     have eb:(ru x w3).file=w3.file/\(ru x w3).method=w3.method/\(ru x w3).uses=w3.uses:=by
      unfold ru
      split<;>exact⟨rfl,rfl,rfl⟩
     obtain⟨o,e6,ho⟩:=az3 ih (x:=x) (s0:=s) hp.cl (j:=j) (r:=qp x) hj hj2 om om om hL
     rw[eb.1,eb.2.1,eb.2.2]at e6
     have e6':iter (fun t=>mz (ct k) x (rS s) t.1 t.2.1 t.2.2.1 t.2.2.2.1 t.2.2.2.2.1 t.2.2.2.2.2.1 t.2.2.2.2.2.2) ((j:Int),(qS w3).M,(qS w3).File,(qS w3).Method,(ru x w3).many,rS (innS s x),(qS w3).L)=some o:=e6
     rw[e6',Option.bind_some,aoc _ _ _ j]
     revert ho
     cases rowF (gL (x.Kind==1) s.Class) j (qp x) (innS s x,ru x w3)with
     |inr m=>rintro⟨q,rfl,hq⟩;exact⟨_,rfl,hq⟩
     |inl p=>
      rintro rfl
      dsimp only
      unfold ac1
      have j6:∃r,vi (ct k) (rS s) (ah4 w3.method w3.many.toNat) x (qS w3) p.2.uses zM p.2.file p.2.method p.2.many (decl x)=some r/\RefP (finM s x w3 (.inl p)) r:=by
       unfold vi y6 ac3 finM outS
       have es:(rS s).Seen=s.Seen:=rfl
       cases decl x
       ·exact⟨_,rfl,rfl⟩
       ·rw[if_pos rfl,es,oj (by simp;have:=hN3.seen;omega) (by simp;have:=hN3.seen;omega),Option.bind_some,oj (by simp;have:=hN3.seen;omega) (by simp;have:=hN3.seen;omega)]
        exact⟨_,rfl,rfl⟩
      have e:decl x=((x.Kind==4)||(x.Kind==6)):=rfl
      rw[e]at j6
      cases h4:(x.Kind==4)
      ·rw[h4,Bool.false_or]at j6;rw[if_neg sm];exact j6
      ·rw[h4,Bool.true_or]at j6;rw[if_pos rfl];exact j6
   have j20:∃r,pr (ct k) x (rS s) (qS w1) ((x.Kind==18||x.Kind==20)&&decide ((x.Kids.length:Int)>0))=some r/\RefP (match aci x s w1 with
     | .inr m=> .inr m
     | .inl w=>match acz s x w with
      | .inr m=> .inr m
      | .inl w=>finM s x w (ahy (qp x) (x.Kind==1) s.Class (innS s x) (ru x w))) r:=by
    unfold pr
    by_cases hd:(x.Kind==18||x.Kind==20)=true
    ·rw[hd,Bool.true_and]
     cases hk:x.Kids with
     |nil=>
      rw[if_neg sm]
      have e1:aci x s w1= .inl w1:=by
       unfold aci
       rw[if_pos hd,hk]
      have e2:qp x=[]:=by
       unfold qp
       rw[if_pos hd,hk]
       rfl
      have:=j18 w1 0 e1 (by rw[e2,hk];rfl) (Nat.zero_le _)
      rw[e1]
      exact this
     |cons f r=>
      obtain⟨hf,hlt⟩:=at1 hp h1 hk
      have e0:idx (f::r) (0:Int)=some f:=rfl
      obtain⟨⟨q,s'⟩,e3,hq⟩:=ih f s w1 om om hf
      have gp:=ago (gk f) f s w1 (Nat.le_refl _) hf
      rw[if_pos (by simp<;>omega),e0,Option.bind_some,e3,Option.bind_some]
      dsimp only
      have e1:aci x s w1=match vp f s w1 with| .inr m=> .inr m| .inl p=> .inl p.2:=by
       unfold aci
       rw[if_pos hd,hk]
       try rfl
      have e2:qp x=r:=by
       unfold qp
       rw[if_pos hd,hk]
       rfl
      unfold aav
      cases hw:vp f s w1 with
      |inr m=>
       rw[hw]at e1 hq gp
       rw[e1]
       have hq:QE m q:=hq
       unfold pv
       have eq:C7.mk q.L q.M q.File q.Method q.Many=q:=rfl
       rw[eq,axk hq gp,Option.bind_some,if_pos rfl]
       exact⟨_,rfl,hq⟩
      |inl p=>
       rw[hw]at e1 hq
       have hq:(q,s')=(qS p.2,rS p.1):=hq
       injection hq with g1 g2
       subst g1 g2
       rw[e1]
       exact j18 p.2 1 e1 (by rw[hk,e2];rfl) (by rw[hk];simp)
    ·rw[Bool.eq_false_iff.2 hd,Bool.false_and,if_neg sm]
     have e1:aci x s w1= .inl w1:=by
      unfold aci
      rw[if_neg hd]
     have e2:qp x=x.Kids:=by
      unfold qp
      rw[if_neg hd]
     rw[e1]
     exact j18 w1 0 e1 (by rw[e2];rfl) (Nat.zero_le _)
   obtain⟨r,e7,hr⟩:=j20
   refine⟨r,Eq.trans ?_ e7,hr⟩
   cases (x.Kind==18)<;>cases (x.Kind==20)<;>rfl
end Go.Proofs.YtcndghapmoaidaaGreatDoor
set_option linter.unusedSectionVars false
set_option linter.unusedVariables false
set_option linter.unusedSimpArgs false
set_option maxRecDepth 100000
set_option maxHeartbeats 4000000
namespace Go.Proofs.YtcndghapmoaidaaGreatDoor
open Go Go.Cn
variable [Glob]
theorem anl {α τ γ:Type} {g:Nat->τ->α->τ ⊕ γ} {l:List α} (I:Nat->τ->Prop) (h:∀i x t t',l[i]? =some x->I i t->g i t x= .inl t'->I (i+1) t'):∀(r:List α) (i:Nat) (t t':τ),l.drop i=r->i<=l.length->I i t->rowF g i r t= .inl t'->I l.length t'
 | [],i,t,t',hr,hi,hI,e=>by
  have:l.length<=i:=by
   have:=congrArg List.length hr
   rw[List.length_drop,List.length_nil]at this
   omega
  obtain rfl:i=l.length:=by omega
  cases e
  exact hI
 |x::r,i,t,t',hr,hi,hI,e=>by
  have hx:l[i]? =some x:=by
   have:=congrArg (fun z=>z[0]?) hr
   simpa using this
  have hr':l.drop (i+1)=r:=by
   have:=congrArg List.tail hr
   simpa using this
  unfold rowF at e
  cases hg:g i t x with
  |inl t2=>
   rw[hg]at e
   exact anl I h r (i+1) t2 t' hr' (k7 hx) (h i x t t2 hx hI hg) e
  |inr m=>rw[hg]at e;cases e
theorem ar3 {α τ γ:Type} {g:Nat->τ->α->τ ⊕ γ} (E:γ->Prop) (h:∀i x t m,g i t x= .inr m->E m):∀(r:List α) (i:Nat) (t:τ) (m:γ),rowF g i r t= .inr m->E m
 | [],_,_,_,e=>by cases e
 |x::r,i,t,m,e=>by
  unfold rowF at e
  cases hg:g i t x with
  |inl t2=>rw[hg]at e;exact ar3 E h r (i+1) t2 m e
  |inr m'=>rw[hg]at e;cases e;exact h i x t m hg
def EB (e:A9):Prop:=e.Params.length<=1500
theorem memX_EB {c:Bt} {f:Int} {l l':List A9} {k:B5} (hk:k.Kids.length<=1500) (hl:∀e∈l,EB e) (h:memX c f l k= .inl l'):∀e∈l',EB e:=by
 have hloc:∀e∈locs c f k,EB e:=by
  have key:∀(r:List B5) (l:List A9),(∀e∈l,EB e)->∀e∈r.foldl (locG (nm c k.Text) f) l,EB e:=by
   intro r
   induction r with
   |nil=>intro l h;exact h
   |cons x r ih=>
    intro l h
    refine ih _ fun e he=>?_
    unfold locG at he
    split at he
    ·rcases List.mem_append.1 he with he|he
     ·exact h e he
     ·rw[List.mem_singleton.1 he];exact(show([]:List Bt).length<=1500 by simp)
    ·exact h e he
  exact key _ _ fun _ h=>by cases h
 unfold memX at h
 split at h
 ·split at h
  ·cases h
  ·cases h
   intro e he
   rcases List.mem_append.1 he with he|he
   ·exact hl e he
   ·rw[List.mem_singleton.1 he];exact(show([]:List Bt).length<=1500 by simp)
 ·split at h
  ·split at h
   ·cases h
   ·split at h
    ·cases h
    ·cases h
     intro e he
     rcases List.mem_append.1 he with he|he
     ·exact hl e he
     ·rcases List.mem_cons.1 he with rfl|he
      ·have:=anm k.Kids []
       exact(show(pars k).length<=1500 by unfold pars;simp at this;omega)
      ·exact hloc e he
  ·cases h;exact hl
theorem tabC_EB {f:Int} {l l':List A9} {c:B5} (hn:gk c<=1500) (hl:∀e∈l,EB e) (h:tabC f l c= .inl l'):∀e∈l',EB e:=by
 unfold tabC at h
 split at h
 ·split at h
  ·rename_i h2
   cases h
   unfold clsX at h2
   split at h2
   ·cases h2
   ·refine anl (l:=c.Kids) (fun _ l=>∀e∈l,EB e) (fun i k t t' hk hI hg=>?_) c.Kids 0 _ _ rfl (Nat.zero_le _) (fun e he=>?_) h2
    ·have:=aku hk
     have:=ko k.Kids
     have:=kc k
     have:=kc c
     exact memX_EB om hI hg
    ·rcases List.mem_append.1 he with he|he
     ·exact hl e he
     ·rw[List.mem_singleton.1 he];exact(show([]:List Bt).length<=1500 by simp)
  ·cases h
 ·cases h;exact hl
abbrev axo (files:List (List B5)):Prop:=files.length<=6/\∀l∈files,apr 1500 l
theorem azq {files:List (List B5)} (hF:axo files) {l:List A9} (h:tab files= .inl l):l.length<=9000/\∀e∈l,EB e:=by
 have key:l.length<=1500 * files.length/\∀e∈l,EB e:=by
  unfold tab at h
  refine anl (l:=files) (fun i (l:List A9)=>l.length<=1500 * i/\∀e∈l,EB e) (fun i file l0 l1 hf hI hg=>?_) files 0 _ _ rfl (Nat.zero_le _) ⟨Nat.zero_le _,fun _ h=>by cases h⟩ h
  obtain⟨hB,hN,_⟩:=hF.2 _ (k9 hf)
  have g:=anl (l:=file) (fun j (l:List A9)=>l.length<=l0.length+ce (file.take j)/\∀e∈l,EB e) (fun j c l l' hc hI hg=>by
   have hz:=nq hc
   have:=av1 hg
   exact⟨by omega,tabC_EB om hI.2 hg⟩) file 0 _ _ rfl (Nat.zero_le _) ⟨by simp,hI.2⟩ hg
  rw[List.take_length]at g
  exact⟨by omega,g.2⟩
 have:=hF.1
 exact⟨by omega,key.2⟩
theorem tab_bad {files:List (List B5)} {m:B3} (h:tab files= .inr m):m.Code=150:=by
 unfold tab at h
 refine ar3 (fun m:B3=>m.Code=150) (fun i file l m hg=>?_) files 0 _ _ h
 refine ar3 (fun m:B3=>m.Code=150) (fun j c l m hg=>?_) file 0 _ _ hg
 unfold tabC at hg
 split at hg
 ·split at hg
  ·cases hg
  ·rename_i e _
   cases hg
   cases e<;>rfl
 ·cases hg
def useC (l:List A9) (w:B8) (c:B5):B8 ⊕ B3:=
 if(c.Kind==1)=true then(match vp c (B6.mk l c.Text false []) w with| .inl p=> .inl p.2| .inr m=> .inr m)else .inl w
def useF (l:List A9) (f:Nat) (w:B8) (file:List B5):B8 ⊕ B3:=rowF (fun _ w c=>useC l w c) 0 file (B8.mk w.uses f w.method w.many)
def atc (l:List A9) (files:List (List B5)):B8 ⊕ B3:=rowF (useF l) 0 files (B8.mk [] 0 [] 0)
structure WB (w:B8) (n:Nat):Prop where
 uses:w.uses.length<=2 * n
 many:0<=w.many
 many2:w.many<=n
 meth:w.method.length<=4000
theorem auv {l:List A9} (hl:l.length<=9000) {c:B5} (hc:okB 1500 c) (hn:gk c<=1500) {w:B8} {n:Nat} (hw:WB w n) (h9:n<=9000):Pre c (B6.mk l c.Text false []) w:=by
 have hB:=hc
 rw[aex]at hB
 have:=hw.uses
 have:=hw.many2
 exact⟨hc,by simp only;omega,hB.1.1,by simp only[List.length_nil];omega,by omega,hw.many,by omega,hw.meth⟩
theorem axz {l:List A9} (hl:l.length<=9000) {c:B5} (hc:okB 1500 c) (hn:gk c<=1500) {w w':B8} {n:Nat} (hw:WB w n) (h9:n<=9000) (h:useC l w c= .inl w'):WB w' (n+gk c):=by
 have hp:=auv hl hc hn hw h9
 unfold useC at h
 split at h
 ·have g:=ago _ c _ w (Nat.le_refl _) hp
  cases hx:vp c (B6.mk l c.Text false []) w with
  |inr m=>rw[hx]at h;cases h
  |inl p=>
   rw[hx]at h g
   cases h
   have g:Inv (B6.mk l c.Text false []) w 1 (gk c) p:=g
   have g1:=g.uses
   have g2:=g.many2
   have:=hw.uses
   have:=hw.many2
   exact⟨by omega,g.many,by omega,g.meth⟩
 ·cases h
  exact⟨by have:=hw.uses;omega,hw.many,by have:=hw.many2;omega,hw.meth⟩
theorem avt {files:List (List B5)} (hF:axo files) {l:List A9} (hl:l.length<=9000):
    Ok (Fin' (fun o w=>o= .next (w.file,w.method,w.many,w.uses)/\WB w 9000) (fun o m=>o= .done (.bad (B9.mk m))) (atc l files)) (iter (fun s=>rt files l s.1 s.2.1 s.2.2.1 s.2.2.2.1 s.2.2.2.2) (0,0,[],0,[])):=by
  refine rowM (l:=files) (f:=fun s:Int × Int × Bt × Int × List B7=>rt files l s.1 s.2.1 s.2.2.1 s.2.2.2.1 s.2.2.2.2) (useF l)
    (fun i s w=>s=((i:Int),w.file,w.method,w.many,w.uses)/\WB w (1500 * i)) _ _ (fun i file s w hf h=>?_) (fun s w h=>?_) files 0 _ (B8.mk [] 0 [] 0) rfl (Nat.zero_le _) ⟨rfl,by simp,by simp,by simp,by simp⟩
  · obtain⟨rfl,hw⟩:=h
    have hi:=k7 hf
    have h6:=hF.1
    obtain⟨hB,hN,_⟩:=hF.2 _ (k9 hf)
    dsimp only
    unfold rt
    rw[if_pos (gm hf),ei hf,Option.bind_some]
    obtain⟨o,e1,ho⟩:=rowM (l:=file) (f:=fun s:Int × Int × Bt × Int × List B7=>ur file l s.1 s.2.1 s.2.2.1 s.2.2.2.1 s.2.2.2.2) (fun _ w c=>useC l w c)
      (fun j s w=>s=((j:Int),w.file,w.method,w.many,w.uses)/\WB w (1500 * i+ce (file.take j))) (fun o w=>o= .next (w.file,w.method,w.many,w.uses)/\WB w (1500 * (i+1))) (fun o m=>o= .done (.inr (.done (.bad (B9.mk m))))) (fun j c s w hc h=>by
        obtain⟨rfl,hw⟩:=h
        have hj:=yk hc
        have hz:=nq hc
        have hcB:=aau hB (k9 hc)
        dsimp only
        unfold ur
        rw[if_pos (gm hc),ei hc,Option.bind_some]
        have nx:∀w',useC l w c= .inl w'->Ok (Step (fun s w=>s=(((j+1:Nat):Int),w.file,w.method,w.many,w.uses)/\WB w (1500 * i+ce (file.take (j+1)))) (fun o m=>o= .done (.inr (.done (.bad (B9.mk m))))) (useC l w c)) (yz j w'.file w'.method w'.many w'.uses c):=fun w' h1=>by
          have g:=axz hl hcB om hw om h1
          unfold yz
          rw[aae om,h1]
          rw[show 1500 * i+ce (file.take (j+1))=1500 * i+ce (file.take j)+gk c by omega]
          exact .mk ⟨_,rfl,rfl,g⟩
        by_cases h1:(c.Kind==1)=true
        · rw[if_pos h1]
          have hp:=auv hl hcB om hw om
          have ew:B8.mk w.uses w.file w.method w.many=w:=rfl
          have e2:aco (B6.mk l c.Text false []) c w=some (pxW (vp c (B6.mk l c.Text false []) w)):=ayj 1048576 c _ w om om hp
          rw[ew,e2]
          have eu:useC l w c=match vp c (B6.mk l c.Text false []) w with| .inl p=> .inl p.2| .inr m=> .inr m:=by
            unfold useC
            rw[if_pos h1]
            try (cases vp c (B6.mk l c.Text false []) w<;>rfl)
          cases hx:vp c (B6.mk l c.Text false []) w with
          |inr m=>
            rw[hx]at eu
            rw[eu]
            exact .mk ⟨_,rfl,rfl⟩
          |inl p=>
            rw[hx]at eu
            exact nx p.2 eu
        · rw[if_neg h1]
          refine nx w ?_
          unfold useC
          rw[if_neg h1]) (fun s w h=>by
        obtain⟨rfl,hw⟩:=h
        rw[List.take_length]at hw
        dsimp only
        unfold ur
        rw[if_neg (gt (Nat.le_refl _))]
        exact .mk ⟨_,rfl,rfl,by have:=hw.uses;omega,hw.many,by have:=hw.many2;omega,hw.meth⟩) file 0 (0,(i:Int),w.method,w.many,w.uses) (B8.mk w.uses i w.method w.many) rfl (Nat.zero_le _) ⟨rfl,by have:=hw.uses;simp only;omega,hw.many,by have:=hw.many2;simp only;omega,hw.meth⟩
    refine .bd ⟨o,e1,ho⟩ fun o ho=>?_
    unfold useF
    revert ho
    cases rowF (fun _ w c=>useC l w c) 0 file (B8.mk w.uses i w.method w.many)with
    |inl w'=>
      rintro⟨rfl,hw'⟩
      dsimp only
      unfold afd
      rw[aae om]
      exact .mk ⟨_,rfl,rfl,hw'⟩
    |inr m=>
      rintro rfl
      exact .mk ⟨_,rfl,rfl⟩
  · obtain⟨rfl,hw⟩:=h
    have h6:=hF.1
    dsimp only
    unfold rt
    rw[if_neg (gt (Nat.le_refl _))]
    exact .mk ⟨_,rfl,rfl,by have:=hw.uses;omega,hw.many,by have:=hw.many2;omega,hw.meth⟩
theorem awz {files:List (List B5)} (hF:axo files) {l:List A9} (hl:l.length<=9000):
    Ok (Fin' (fun o w=>o= .next (zM,w.file,w.method,w.many,w.uses)/\WB w 9000) (fun o m=>o= .done ([],m)) (atc l files)) (iter (fun s=>m0 files l s.1 s.2.1 s.2.2.1 s.2.2.2.1 s.2.2.2.2.1 s.2.2.2.2.2) (0,zM,0,[],0,[])):=by
  refine rowM (l:=files) (f:=fun s:Int × B3 × Int × Bt × Int × List B7=>m0 files l s.1 s.2.1 s.2.2.1 s.2.2.2.1 s.2.2.2.2.1 s.2.2.2.2.2) (useF l)
    (fun i s w=>s=((i:Int),zM,w.file,w.method,w.many,w.uses)/\WB w (1500 * i)) _ _ (fun i file s w hf h=>?_) (fun s w h=>?_) files 0 _ (B8.mk [] 0 [] 0) rfl (Nat.zero_le _) ⟨rfl,by simp,by simp,by simp,by simp⟩
  · obtain⟨rfl,hw⟩:=h
    have hi:=k7 hf
    have h6:=hF.1
    obtain⟨hB,hN,_⟩:=hF.2 _ (k9 hf)
    dsimp only
    unfold m0
    rw[if_pos (gm hf)]
    obtain⟨o,e1,ho⟩:=rowM (l:=file) (f:=fun s:Int × B3 × Int × Bt × Int × List B7=>r5 files i l s.1 s.2.1 s.2.2.1 s.2.2.2.1 s.2.2.2.2.1 s.2.2.2.2.2) (fun _ w c=>useC l w c)
      (fun j s w=>s=((j:Int),zM,w.file,w.method,w.many,w.uses)/\WB w (1500 * i+ce (file.take j))) (fun o w=>o= .next (zM,w.file,w.method,w.many,w.uses)/\WB w (1500 * (i+1))) (fun o m=>o= .done (.inr (.done ([],m)))) (fun j c s w hc h=>by
        obtain⟨rfl,hw⟩:=h
        have hj:=yk hc
        have hz:=nq hc
        have hcB:=aau hB (k9 hc)
        dsimp only
        unfold r5
        rw[ei hf]
        simp only[Option.bind_some]
        rw[if_pos (gm hc),ei hc]
        simp only[Option.bind_some]
        have nx:∀w',useC l w c= .inl w'->Ok (Step (fun s w=>s=(((j+1:Nat):Int),zM,w.file,w.method,w.many,w.uses)/\WB w (1500 * i+ce (file.take (j+1)))) (fun o m=>o= .done (.inr (.done ([],m)))) (useC l w c)) (vj j zM w'.file w'.method w'.many w'.uses):=fun w' h1=>by
          have g:=axz hl hcB om hw om h1
          unfold vj
          rw[aae om,h1]
          rw[show 1500 * i+ce (file.take (j+1))=1500 * i+ce (file.take j)+gk c by omega]
          exact .mk ⟨_,rfl,rfl,g⟩
        by_cases h1:c.Kind=1
        · rw[if_neg (show ¬(c.Kind != 1)=true by simp[h1])]
          have hp:=auv hl hcB om hw om
          obtain⟨⟨q,s'⟩,e2,hq⟩:=azn 1048576 c _ w om om hp
          have e2':amk (C8.mk l c.Text false []) c (C7.mk w.uses zM w.file w.method w.many)=some (q,s'):=e2
          rw[e2',Option.bind_some]
          have eu:useC l w c=match vp c (B6.mk l c.Text false []) w with| .inl p=> .inl p.2| .inr m=> .inr m:=by
            unfold useC
            rw[if_pos (show(c.Kind==1)=true by simp[h1])]
            try (cases vp c (B6.mk l c.Text false []) w<;>rfl)
          have gp:=ago _ c _ w (Nat.le_refl _) hp
          dsimp only
          unfold ac6
          cases hx:vp c (B6.mk l c.Text false []) w with
          |inr m=>
            rw[hx]at eu hq gp
            have hq:QE m q:=hq
            rw[eu,axk hq gp,Option.bind_some,if_pos rfl]
            unfold ac7
            exact .mk ⟨_,rfl,by rw[show q.M=m from hq]⟩
          |inl p=>
            rw[hx]at eu hq
            have hq:(q,s')=(qS p.2,rS p.1):=hq
            injection hq with g1 g2
            subst g1 g2
            rw[axj,Option.bind_some,if_neg sm]
            exact nx p.2 eu
        · rw[if_pos (show(c.Kind != 1)=true by simpa using h1)]
          refine nx w ?_
          unfold useC
          rw[if_neg (show ¬(c.Kind==1)=true by simpa using h1)]) (fun s w h=>by
        obtain⟨rfl,hw⟩:=h
        rw[List.take_length]at hw
        dsimp only
        unfold r5
        rw[ei hf,Option.bind_some,if_neg (gt (Nat.le_refl _))]
        exact .mk ⟨_,rfl,rfl,by have:=hw.uses;omega,hw.many,by have:=hw.many2;omega,hw.meth⟩) file 0 (0,zM,(i:Int),w.method,w.many,w.uses) (B8.mk w.uses i w.method w.many) rfl (Nat.zero_le _) ⟨rfl,by have:=hw.uses;simp only;omega,hw.many,by have:=hw.many2;simp only;omega,hw.meth⟩
    refine .bd ⟨o,e1,ho⟩ fun o ho=>?_
    unfold useF
    revert ho
    cases rowF (fun _ w c=>useC l w c) 0 file (B8.mk w.uses i w.method w.many)with
    |inl w'=>
      rintro⟨rfl,hw'⟩
      dsimp only
      unfold ac4
      rw[aae om]
      exact .mk ⟨_,rfl,rfl,hw'⟩
    |inr m=>
      rintro rfl
      exact .mk ⟨_,rfl,rfl⟩
  · obtain⟨rfl,hw⟩:=h
    have h6:=hF.1
    dsimp only
    unfold m0
    rw[if_neg (gt (Nat.le_refl _))]
    exact .mk ⟨_,rfl,rfl,by have:=hw.uses;omega,hw.many,by have:=hw.many2;omega,hw.meth⟩
def axm (files:List (List B5)) (r:List B7 × B3):Prop:=
 match tab files with
 | .inr m=>r=([],m)
 | .inl l=>if(aj6 l).Code≠0 then r=([],aj6 l)else match atc l files with
  | .inr m=>r=([],m)
  | .inl w=>r.2=zM/\Srt ltU r.1/\D4 ltU w.uses r.1/\WB w 9000
theorem uses_eq {files:List (List B5)} (hF:axo files):∃r,aip files=some r/\agw files=some r/\axm files r:=by
 unfold aip amt agw axm
 rw[aqf hF.1 hF.2,ap3 hF.1 hF.2,Option.bind_some,Option.bind_some]
 cases ht:tab files with
 |inr m=>
  have:=tab_bad ht
  unfold tabR ac8
  dsimp only
  rw[if_pos (by rw[this];rfl)]
  exact⟨_,rfl,by rw[if_pos (by rw[this];rfl)],rfl⟩
 |inl l=>
  obtain⟨hl,hE⟩:=azq hF ht
  have hE2:∀e∈l,e.Params.length<=4000000000:=fun e he=>by have:e.Params.length<=1500:=hE e he;omega
  unfold tabR
  dsimp only
  rw[if_neg sm,if_neg sm,aug om hE2,apz om hE2,Option.bind_some,Option.bind_some]
  by_cases hc:(aj6 l).Code=0
  ·rw[if_neg (by simp[hc]),if_neg (by simp[hc])]
   obtain⟨o,e1,ho⟩:=avt hF hl
   obtain⟨o2,e2,ho2⟩:=awz hF hl
   have e2':iter (fun s=>m0 files l s.1 s.2.1 s.2.2.1 s.2.2.2.1 s.2.2.2.2.1 s.2.2.2.2.2) (0,B3.mk 0 0 0,0,[],0,[])=some o2:=e2
   rw[e1,e2',Option.bind_some,Option.bind_some]
   revert ho ho2
   cases atc l files with
   |inr m=>
    rintro rfl rfl
    exact⟨_,rfl,rfl,by rw[if_neg (by simp[hc])]⟩
   |inl w=>
    rintro⟨rfl,hw⟩ ⟨rfl,_⟩
    obtain⟨Z,z1,z2,z3,z4⟩:=sort_eq (l:=w.uses) (by have:=hw.uses;omega)
    dsimp only
    unfold afe ac5
    rw[z1,z2]
    exact⟨_,rfl,rfl,by rw[if_neg (by simp[hc])];exact⟨rfl,z3,z4,hw⟩⟩
  ·rw[if_pos (by simpa using hc),if_pos (by simpa using hc)]
   exact⟨_,rfl,rfl,by rw[if_pos hc]⟩
end Go.Proofs.YtcndghapmoaidaaGreatDoor
set_option linter.unusedSectionVars false
set_option linter.unusedVariables false
set_option linter.unusedSimpArgs false
set_option maxRecDepth 100000
set_option maxHeartbeats 4000000
namespace Go.Proofs.YtcndghapmoaidaaGreatDoor
open Go Go.Cn
variable [Glob]
theorem avn (texts:List Bt):Ok (fun r:List (List B5) × Bool=>r.2=true->r.1.length<=6/\∀f∈r.1,apr 1500 f) (ab7 texts):=by
 unfold ab7 zz
 refine .dec (fun _=> .mk fun h=>by cases h) fun h6=> .bd (P:=ajk (fun l=>l.length<=6/\∀f∈l,apr 1500 f) (fun r=>r.2=false)) (.row (l:=texts) (fun i s=>s.length=i/\∀f∈s,apr 1500 f) om (fun i hi s h1=>?_) (fun i s hi h1=>?_) ⟨rfl,fun _ h=>by cases h⟩) fun z hz=>by
  cases z with
  |next l=>exact .mk fun _=>hz
  |done r=>exact .mk fun h=>by rw[show r.2=false from hz]at h;cases h
 ·dsimp only
  unfold rd
  rw[if_pos (len_lt hi),afs hi,Option.bind_some]
  refine .dec (fun _=> .mk rfl) fun hl=>?_
  rw[Option.bind_some]
  refine .bd (File_ok (M:=1500) om om) ?_
  rintro⟨l,m⟩ hF
  refine .cond (fun _=> .mk rfl) fun hm=> .bd (app_ok so so) fun r hr=> .mk ⟨aae om,?_⟩
  have hF:=hF (by simpa using hm)
  subst hr
  refine⟨by simp[h1.1],fun f hf=>?_⟩
  rcases List.mem_append.1 hf with hf|hf
  ·exact h1.2 f hf
  ·obtain rfl:=List.mem_singleton.1 hf
   exact hF
 ·dsimp only
  unfold rd
  rw[if_neg (by simpa using hi)]
  exact .mk ⟨by omega,h1.2⟩
def atM (l:List B7) (f a:Int):Bt × Bool:=match l.find? (fun u=>u.File==f&&u.At==a)with|some u=>(u.Id,true)|none=>([],false)
theorem aoe (f a:Int):∀(l:List B7) (i:Nat),fin ([],false) (lg (fun u=>u.File==f&&u.At==a) (fun _ u=>(u.Id,true)) i l)=atM l f a
 | [],_=>rfl
 |x::r,i=>by
  unfold lg atM
  by_cases hp:(x.File==f&&x.At==a)=true
  ·rw[if_pos hp,List.find?_cons_of_pos (p:=fun u:B7=>u.File==f&&u.At==a) hp];rfl
  ·rw[if_neg hp,List.find?_cons_of_neg (p:=fun u:B7=>u.File==f&&u.At==a) hp]
   exact aoe f a r (i+1)
theorem aw9 {l:List B7} (hl:l.length<=1000000) (f a:Int):amf l f a=some (atM l f a):=by
 have h:=ir (l:=l) (f:=fun s=>aal l f a s) (fun u=>u.File==f&&u.At==a) (fun _ u=>(u.Id,true)) om (fun i x hx=>by
  unfold aal ag4
  rw[if_pos (gm hx),ei hx]
  simp only[Option.bind_some]
  cases (x.File==f)<;>simp) (fun i hi=>by
  unfold aal
  rw[if_neg (gt hi)]) l 0 rfl
 unfold amf
 rw[show((0:Nat):Int)=0 from rfl]at h
 rw[h,Option.bind_some]
 refine Eq.trans ?_ (congrArg some (aoe f a l 0))
 cases lg (fun u:B7=>u.File==f&&u.At==a) (fun _ u=>(u.Id,true)) 0 l<;>rfl
theorem avm {l:List B7} (hl:l.length<=1000000) (f a:Int):akj l f a=some (atM l f a):=by
 have h:=ir (l:=l) (f:=fun s=>xy l f a s) (fun u=>u.File==f&&u.At==a) (fun _ u=>(u.Id,true)) om (fun i x hx=>by
  unfold xy adz
  rw[if_pos (gm hx),ei hx]
  simp only[Option.bind_some]
  cases (x.File==f)<;>simp) (fun i hi=>by
  unfold xy
  rw[if_neg (gt hi)]) l 0 rfl
 unfold akj
 rw[show((0:Nat):Int)=0 from rfl]at h
 rw[h,Option.bind_some]
 refine Eq.trans ?_ (congrArg some (aoe f a l 0))
 cases lg (fun u:B7=>u.File==f&&u.At==a) (fun _ u=>(u.Id,true)) 0 l<;>rfl
theorem aos {α:Type} (p:α->Bool) {l:List α} {i:Nat} {x:α} (h:l[i]? =some x):(l.take (i+1)).filter p=(l.take i).filter p++(if p x=true then[x]else[]):=by
 obtain⟨hi,rfl⟩:=List.getElem?_eq_some_iff.1 h
 rw[List.take_succ_eq_append_getElem hi,List.filter_append]
 by_cases hp:p l[i]=true
 ·rw[List.filter_cons_of_pos hp,if_pos hp];rfl
 ·rw[List.filter_cons_of_neg hp,if_neg hp];rfl
theorem aq6 {α:Type} (p:α->Bool) (l:List α) (i:Nat):((l.take i).filter p).length<=i:=by
 have:=List.length_filter_le p (l.take i)
 rw[List.length_take]at this
 omega
theorem aw8 {l:List B7} (hl:l.length<=1000000) (id:Bt):ame l id=some (l.filter fun u=>u.Id==id):=by
 unfold ame ajh
 obtain⟨o,e,rfl⟩:=rowK (l:=l) (f:=fun s:Int × List B7=>aak l id s.1 s.2) (fun i s=>s=((i:Int),(l.take i).filter fun u=>u.Id==id)) (fun o=>o=l.filter fun u=>u.Id==id) (fun i x s hx h=>by
  subst h
  have hi:=k7 hx
  have hf:=aq6 (fun u:B7=>u.Id==id) l i
  dsimp only
  unfold aak ag3
  rw[if_pos (gm hx),ei hx,Option.bind_some,oj so so,Option.bind_some,aae om,aos _ hx]
  refine .cond (fun h=>?_) fun h=>?_
  ·rw[if_pos h];exact .mk ⟨_,rfl,rfl⟩
  ·rw[if_neg (by rw[h];simp),List.append_nil];exact .mk ⟨_,rfl,rfl⟩) (fun s h=>by
  subst h
  dsimp only
  unfold aak
  rw[if_neg (gt (Nat.le_refl _))]
  exact .mk ⟨_,rfl,by rw[List.take_length]⟩) (0,[]) sm
 exact(congrArg (fun z=>z.bind some) e).trans rfl
theorem avk {l:List B7} (hl:l.length<=1000000) (id:Bt):aki l id=some (l.filter fun u=>u.Id==id):=by
 unfold aki ahc
 obtain⟨o,e,rfl⟩:=rowK (l:=l) (f:=fun s:Int × List B7=>xx l id s.1 s.2) (fun i s=>s=((i:Int),(l.take i).filter fun u=>u.Id==id)) (fun o=>o=l.filter fun u=>u.Id==id) (fun i x s hx h=>by
  subst h
  have hi:=k7 hx
  have hf:=aq6 (fun u:B7=>u.Id==id) l i
  dsimp only
  unfold xx ady
  rw[if_pos (gm hx),ei hx,Option.bind_some,Option.bind_some,oj so so,Option.bind_some,aae om,aos _ hx]
  refine .cond (fun h=>?_) fun h=>?_
  ·rw[if_pos h];exact .mk ⟨_,rfl,rfl⟩
  ·rw[if_neg (by rw[h];simp),List.append_nil];exact .mk ⟨_,rfl,rfl⟩) (fun s h=>by
  subst h
  dsimp only
  unfold xx
  rw[if_neg (gt (Nat.le_refl _))]
  exact .mk ⟨_,rfl,by rw[List.take_length]⟩) (0,[]) sm
 exact(congrArg (fun z=>z.bind some) e).trans rfl
theorem ak3 {l:List B7} (hl:l.length<=1000000):adp l l=some true:=by
 unfold adp adb
 rw[if_neg sm]
 obtain⟨o,e,rfl⟩:=rowK (l:=l) (f:=fun s:Int=>o3 l l s) (fun i s=>s=(i:Int)) (fun o=>o= .next ()) (fun i x s hx h=>by
  subst h
  have hi:=k7 hx
  unfold o3 adc
  rw[if_pos (gm hx),ei hx,Option.bind_some,Option.bind_some,if_neg sm,aae om]
  exact .mk ⟨_,rfl,rfl⟩) (fun s h=>by
  subst h
  unfold o3
  rw[if_neg (gt (Nat.le_refl _))]
  exact .mk ⟨_,rfl,rfl⟩) 0 rfl
 have e':iter (fun s=>o3 l l s) 0=some (.next ()):=e
 rw[e']
 rfl
theorem axm.len {files:List (List B5)} {r:List B7 × B3} (h:axm files r):r.1.length<=18000:=by
 unfold axm at h
 cases ht:tab files with
 |inr m=>rw[ht]at h;have h:r=([],m):=h;rw[h];simp
 |inl l=>
  rw[ht]at h
  dsimp only at h
  split at h
  ·rw[h];simp
  ·cases hg:atc l files with
   |inr m=>rw[hg]at h;have h:r=([],m):=h;rw[h];simp
   |inl w=>
    rw[hg]at h
    obtain⟨_,_,h3,h4⟩:=h
    rw[h3.len]
    have:=h4.uses
    omega
theorem aub (texts:List Bt) (id:Bt) (at_:Int):abn texts id at_=some true:=by
 unfold abn j7
 rw[awake17,Option.bind_some,if_neg sm]
 obtain⟨⟨files,ok⟩,e1,h1⟩:=avn texts
 rw[e1,Option.bind_some]
 dsimp only
 cases ok with
 |false=>rfl
 |true=>
  have hF:axo files:=h1 rfl
  rw[if_neg sm]
  obtain⟨⟨l,m⟩,e2,e3,hU⟩:=uses_eq hF
  have hl:l.length<=18000:=hU.len
  have hf:=List.length_filter_le (fun u:B7=>u.Id==id) l
  rw[e2,e3,Option.bind_some,Option.bind_some]
  dsimp only
  rw[aw9 om,avm om,Option.bind_some,Option.bind_some]
  try dsimp only
  rw[if_pos sm,ak3 om,Option.bind_some,if_pos rfl,if_pos sm,if_pos sm,aw8 om,avk om,Option.bind_some,Option.bind_some,ak3 om]
  rfl
end Go.Proofs.YtcndghapmoaidaaGreatDoor
