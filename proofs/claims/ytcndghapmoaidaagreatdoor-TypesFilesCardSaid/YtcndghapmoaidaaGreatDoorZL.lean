/- The document's table is the plain one: files. -/
import Derived.Test.YtcndghapmoaidaaGreatDoorZT
import Derived.Test.YtcndghapmoaidaaGreatDoorZK
set_option linter.unusedSimpArgs false
set_option linter.unusedVariables false
set_option linter.unusedSectionVars false
set_option linter.unusedSectionVars false
set_option maxRecDepth 1000000
namespace Go.Proofs.YtcndghapmoaidaaGreatDoor
open Go Go.Cn
theorem awake18 :aho=some true:=by decide+kernel
end Go.Proofs.YtcndghapmoaidaaGreatDoor
set_option linter.unusedSectionVars false
set_option maxRecDepth 100000
namespace Go.Proofs.YtcndghapmoaidaaGreatDoor
open Go Go.Cn
variable [Glob]
theorem c9 {n:Int} (h1: -9223372036854775808<=n) (h2:n<=9223372036854775807):w64 n=n:=by
 unfold w64 IntKind.wrap
 have e1:(2:Int) ^ (IntKind.i64.bits)=18446744073709551616:=rfl
 have e2:(2:Int) ^ (IntKind.i64.bits - 1)=9223372036854775808:=rfl
 have e3:IntKind.i64.signed=true:=rfl
 simp only[e1,e2,e3,Bool.true_and,decide_eq_true_eq]
 split<;>omega
theorem ib {α:Type} {l:List α} {i:Nat} {x:α} (h:l[i]? =some x):idx l i=some x:=by
 unfold idx
 rw[if_pos om,Int.toNat_natCast,h]
def qa {α γ:Type} (p:α->Bool) (g:Nat->α->γ):Nat->List α->Flow Unit γ
 |_,[]=> .next ()
 |i,x::r=>if p x=true then .done (g i x)else qa p g (i+1) r
theorem nz {α γ:Type} {l:List α} {f:Int->Option (Int ⊕ Flow Unit γ)} (p:α->Bool) (g:Nat->α->γ) (hl:l.length<=4000000000)
  (h1:∀(i:Nat) x,l[i]? =some x->f i=if p x=true then some (.inr (.done (g i x)))else some (.inl (w64 ((i:Int)+1)))) (h2:∀i:Nat,l.length<=i->f i=some (.inr (.next ()))):∀(r:List α) (i:Nat),l.drop i=r->iter f (i:Int)=some (qa p g i r)
 | [],i,h=>by
  have hi:l.length<=i:=by
   have:=congrArg List.length h
   simp at this
   omega
  exact dj (h2 i hi)
 |x::r,i,h=>by
  have hx:l[i]? =some x:=by
   have:=congrArg (fun z=>z[0]?) h
   simpa using this
  have hi:=(List.getElem?_eq_some_iff.1 hx).1
  have hr:l.drop (i+1)=r:=by
   have:=congrArg List.tail h
   simpa using this
  have e:=h1 i x hx
  unfold qa
  by_cases hp:p x=true
  ·rw[if_pos hp]at e ⊢
   exact dj e
  ·rw[if_neg hp]at e ⊢
   rw[g7 e,c9 om om]
   exact nz p g hl h1 h2 r (i+1) hr
def fin {γ:Type} (d:γ):Flow Unit γ->γ
 | .next _=>d
 | .done r=>r
def isC (id:Bt) (e:B0):Bool:=e.Kind==1&&e.Id==id
abbrev an0 :B0:=B0.mk 0 [] [] [] [] false [] 0 0
def cls (l:List B0) (id:Bt):B0 × Bool:=match l.find? (isC id)with|some e=>(e,true)|none=>(an0,false)
theorem ag2 (id:Bt):∀(l:List B0) (i:Nat),fin (an0,false) (qa (isC id) (fun _ x=>(x,true)) i l)=cls l id
 | [],_=>rfl
 |x::r,i=>by
  unfold qa
  by_cases hp:isC id x=true
  ·rw[if_pos hp];unfold cls;rw[List.find?_cons_of_pos hp];rfl
  ·rw[if_neg hp]
   have h:=ag2 id r (i+1)
   unfold cls at h ⊢
   rw[List.find?_cons_of_neg hp]
   exact h
theorem ki {α:Type} {l:List α} {i:Nat} {x:α} (h:l[i]? =some x):decide ((i:Int)<(l.length:Int))=true:=by
 have:=(List.getElem?_eq_some_iff.1 h).1
 simpa using this
theorem kj {α:Type} {l:List α} {i:Nat} (h:l.length<=i):¬decide ((i:Int)<(l.length:Int))=true:=by
 simpa using h
theorem ai1 {l:List B0} (hl:l.length<=4000000000) (id:Bt):aee l id=some (cls l id):=by
 have h:=nz (l:=l) (f:=fun s=>vi l id s) (isC id) (fun _ x=>(x,true)) hl (fun i x hx=>by
  unfold vi acy isC
  rw[if_pos (ki hx),ib hx]
  simp only[Option.bind_some]
  cases h1:(x.Kind==1)<;>simp) (fun i hi=>by
  unfold vi
  rw[if_neg (kj hi)]) l 0 rfl
 unfold aee
 rw[show((0:Nat):Int)=0 from rfl]at h
 rw[h,Option.bind_some]
 refine Eq.trans ?_ (congrArg some (ag2 id l 0))
 cases qa (isC id) (fun _ x=>(x,true)) 0 l<;>rfl
theorem ap9 {l:List B0} (hl:l.length<=4000000000) (id:Bt):akc l id=some (cls l id):=by
 have h:=nz (l:=l) (f:=fun s=>abg l id s) (isC id) (fun _ x=>(x,true)) hl (fun i x hx=>by
  unfold abg af5 isC
  rw[if_pos (ki hx),ib hx]
  simp only[Option.bind_some]
  cases h1:(x.Kind==1)<;>simp) (fun i hi=>by
  unfold abg
  rw[if_neg (kj hi)]) l 0 rfl
 unfold akc
 rw[show((0:Nat):Int)=0 from rfl]at h
 rw[h,Option.bind_some]
 refine Eq.trans ?_ (congrArg some (ag2 id l 0))
 cases qa (isC id) (fun _ x=>(x,true)) 0 l<;>rfl
theorem ah4 {l:List B0} (hl:l.length<=4000000000) (id:Bt):adx l id=some (cls l id):=by
 have h:=nz (l:=l) (f:=fun s=>xu l id s) (isC id) (fun _ x=>(x,true)) hl (fun i x hx=>by
  unfold xu adf isC
  rw[if_pos (ki hx),ib hx]
  simp only[Option.bind_some]
  cases h1:(x.Kind==1)<;>simp) (fun i hi=>by
  unfold xu
  rw[if_neg (kj hi)]) l 0 rfl
 unfold adx
 rw[show((0:Nat):Int)=0 from rfl]at h
 rw[h,Option.bind_some]
 refine Eq.trans ?_ (congrArg some (ag2 id l 0))
 cases qa (isC id) (fun _ x=>(x,true)) 0 l<;>rfl
theorem aoj {α:Type} (p:α->Bool):∀(l:List α) (i:Nat),decide (fin (-1:Int) (qa p (fun i _=>(i:Int)) i l)≥0)=l.any p
 | [],_=>rfl
 |x::r,i=>by
  unfold qa
  by_cases hp:p x=true
  ·rw[if_pos hp,List.any_cons,hp,Bool.true_or]
   simp[fin]
  ·rw[if_neg hp,List.any_cons,Bool.eq_false_iff.2 hp,Bool.false_or]
   exact aoj p r (i+1)
theorem aj0 {l:List B0} (hl:l.length<=4000000000) (id:Bt):aax l id=some (cls l id).2:=by
 have hp:∀a0,s8 a0 id=some (isC id a0):=fun a0=>by
  unfold s8 tq isC
  cases h1:(a0.Kind==1)<;>simp
 have h:=nz (l:=l) (f:=fun s=>dg l (fun a0=>s8 a0 id) s) (isC id) (fun i _=>(i:Int)) hl (fun i x hx=>by
  unfold dg
  rw[if_pos (ki hx),ib hx]
  simp only[Option.bind_some,hp]) (fun i hi=>by
  unfold dg
  rw[if_neg (kj hi)]) l 0 rfl
 unfold aax fx gw
 rw[show((0:Nat):Int)=0 from rfl]at h
 rw[h,Option.bind_some]
 have h2:=aoj (isC id) l 0
 have h3:(cls l id).2=l.any (isC id):=by
  unfold cls
  cases hf:l.find? (isC id)with
  |none=>
   have:=List.find?_eq_none.1 hf
   simp only
   symm
   rw[List.any_eq_false]
   exact this
  |some e=>exact(List.any_eq_true.2 ⟨e,List.mem_of_find?_eq_some hf,List.find?_some hf⟩).symm
 rw[h3,← h2]
 unfold fw
 cases qa (isC id) (fun i _=>(i:Int)) 0 l<;>rfl
theorem aos (x:Bt):∀(l:List Bt) (i:Nat),fin false (qa (fun y=>y==x) (fun _ _=>true) i l)=l.any (·==x)
 | [],_=>rfl
 |y::r,i=>by
  unfold qa
  by_cases hp:(y==x)=true
  ·rw[if_pos hp,List.any_cons,hp,Bool.true_or];rfl
  ·rw[if_neg hp,List.any_cons,Bool.eq_false_iff.2 hp,Bool.false_or]
   exact aos x r (i+1)
theorem aoy {l:List Bt} (hl:l.length<=4000000000) (x:Bt):ano l x=some (l.any (·==x)):=by
 have h:=nz (l:=l) (f:=fun s=>ahm l x s) (fun y=>y==x) (fun _ _=>true) hl (fun i y hy=>by
  unfold ahm
  rw[if_pos (ki hy),ib hy]
  simp only[Option.bind_some]) (fun i hi=>by
  unfold ahm
  rw[if_neg (kj hi)]) l 0 rfl
 unfold ano
 rw[show((0:Nat):Int)=0 from rfl]at h
 rw[h,Option.bind_some,← aos x l 0]
 cases qa (fun y=>y==x) (fun _ _=>true) 0 l<;>rfl
theorem ahl {l:List Bt} (hl:l.length<=4000000000) (x:Bt):ajh x l=some (l.any (·==x)):=by
 have h:=nz (l:=l) (f:=fun s=>ahk l x s) (fun y=>y==x) (fun _ _=>true) hl (fun i y hy=>by
  unfold ahk
  rw[if_pos (ki hy),ib hy]
  simp only[Option.bind_some]) (fun i hi=>by
  unfold ahk
  rw[if_neg (kj hi)]) l 0 rfl
 unfold ajh
 rw[show((0:Nat):Int)=0 from rfl]at h
 rw[h,Option.bind_some,← aos x l 0]
 cases qa (fun y=>y==x) (fun _ _=>true) 0 l<;>rfl
end Go.Proofs.YtcndghapmoaidaaGreatDoor
set_option linter.unusedSectionVars false
set_option maxRecDepth 100000
namespace Go.Proofs.YtcndghapmoaidaaGreatDoor
open Go Go.Cn
variable [Glob]
theorem awu {β:Type} [DecidableEq β]:∀(a m:List β),a.Nodup->(∀x∈a,x∈m)->a.length<=m.length
 | [],_,_,_=>Nat.zero_le _
 |x::a,m,hn,hs=>by
  have hx:=hs x List.mem_cons_self
  have h1:=awu a (m.erase x) (List.nodup_cons.1 hn).2 (fun y hy=>by
   refine(List.mem_erase_of_ne (fun e=>?_)).2 (hs y (List.mem_cons_of_mem _ hy))
   exact(List.nodup_cons.1 hn).1 (e▸hy))
  rw[List.length_erase_of_mem hx]at h1
  have:=List.length_pos_of_mem hx
  simp only[List.length_cons]
  omega
theorem awi {l:List B0} {id:Bt} (h:(cls l id).2=true):(cls l id).1.Id=id/\(cls l id).1∈l:=by
 unfold cls at h ⊢
 cases hf:l.find? (isC id)with
 |none=>rw[hf]at h;cases h
 |some e=>
  have h1:=List.find?_some hf
  unfold isC at h1
  rw[Bool.and_eq_true]at h1
  exact⟨by simpa using h1.2,List.mem_of_find?_eq_some hf⟩
def path (l:List B0):Nat->Bt->List Bt->List Bt
 | 0,_,_=>[]
 |n+1,id,told=>if(cls l id).2=true then(if told.any (·==id)=true then[]else id::path l n (cls l id).1.Type_ (told++[id]))else[]
structure Told (l:List B0) (n:Nat) (told:List Bt):Prop where
 len:n+told.length=l.length+1
 nodup:told.Nodup
 sub:∀x∈told,x∈l.map B0.Id
theorem Told.pos {l:List B0} {n:Nat} {told:List Bt} (h:Told l n told):∃m,n=m+1:=by
 cases n with
 |succ n=>exact⟨n,rfl⟩
 |zero=>
  have:=awu told _ h.nodup h.sub
  rw[List.length_map]at this
  have:=h.len
  omega
theorem any_mem {told:List Bt} {id:Bt}:told.any (·==id)=true↔id∈told:=by
 rw[List.any_eq_true]
 exact⟨fun⟨x,h1,h2⟩=>(by simpa using h2:x=id)▸h1,fun h=>⟨id,h,by simp⟩⟩
theorem Told.next {l:List B0} {n:Nat} {told:List Bt} {id:Bt} (h:Told l (n+1) told) (hc:(cls l id).2=true) (ht:¬told.any (·==id)=true):Told l n (told++[id]) where
 len:=by have:=h.len;simp;omega
 nodup:=by
  rw[List.nodup_append]
  refine⟨h.nodup,by simp,fun a ha b hb=>?_⟩
  rw[List.mem_singleton.1 hb]
  exact fun e=>ht (any_mem.2 (e▸ha))
 sub:=fun x hx=>by
  rcases List.mem_append.1 hx with hx|hx
  ·exact h.sub x hx
  ·rw[List.mem_singleton.1 hx]
   obtain⟨h1,h2⟩:=awi hc
   exact List.mem_map.2 ⟨_,h2,h1⟩
theorem ze {α:Type} {n:Nat} {l m:List α} (h:(l.length+m.length) * n<=140737488355328) (h2:l.length+m.length<=140737488355328):app n l m=some (l++m):=by
 unfold app
 rw[if_pos ⟨h,by omega⟩]
theorem aun {l:List B0} (hl:l.length<=1000000):∀(n:Nat) (id:Bt) (out:List Bt),Told l n out->
  iter (fun s=>abh l s.1 s.2) (id,out)=some (out++path l n id out)
 | 0,_,_,h=>by obtain⟨m,hm⟩:=h.pos;cases hm
 |n+1,id,out,h=>by
  have hlen:out.length<=1000000:=by have:=h.len;omega
  have e:abh l id out=if(cls l id).2=true then(if out.any (·==id)=true then some (.inr out)else some (.inl ((cls l id).1.Type_,out++[id])))else some (.inr out):=by
   unfold abh af6
   rw[ap9 om,aoy om,ze so so]
   simp only[Option.bind_some]
   cases (cls l id).2<;>cases out.any (·==id)<;>rfl
  unfold path
  by_cases hc:(cls l id).2=true
  ·rw[if_pos hc]at e ⊢
   by_cases ht:out.any (·==id)=true
   ·rw[if_pos ht]at e ⊢
    rw[List.append_nil]
    exact dj e
   ·rw[if_neg ht]at e ⊢
    rw[g7 (s':=((cls l id).1.Type_,out++[id])) e,aun hl n _ _ (h.next hc ht),List.append_assoc]
    rfl
  ·rw[if_neg hc]at e ⊢
   rw[List.append_nil]
   exact dj e
theorem told0 (l:List B0):Told l (l.length+1) []:=⟨rfl,List.nodup_nil,fun _ h=>nomatch h⟩
def below (l:List B0) (id other:Bt):Bool:=(path l (l.length+1) id []).any (·==other)
theorem awr (l:List B0):∀(n:Nat) (id:Bt) (told:List Bt),(path l n id told).length<=n
 | 0,_,_=>Nat.le_refl _
 |n+1,id,told=>by
  unfold path
  split
  ·split
   ·exact Nat.zero_le _
   ·have:=awr l n (cls l id).1.Type_ (told++[id])
    simp only[List.length_cons]
    omega
  ·exact Nat.zero_le _
theorem aqa {l:List B0} (hl:l.length<=1000000) (id other:Bt):akd l id other=some (below l id other):=by
 unfold akd aoz
 rw[aun hl _ id [] (told0 l),Option.bind_some,aoy (by have:=awr l (l.length+1) id [];simp only[List.nil_append];omega)]
 rfl
theorem aru {l:List B0} (hl:l.length<=1000000) (other:Bt):∀(n:Nat) (id:Bt) (told:List Bt) (m:SMap Bool),Told l n told->(∀k,mget k false m=told.any (·==k))->
    ∃i z,iter (fun s=>lw (yldX (fun(_:Unit) (a:B0)=>vk other a)) l s.1 s.2.1 s.2.2) (id,.inl (),m)=some (l,i,z)/\(match z with| .inl _=>false| .inr _=>true)=(path l n id told).any (·==other)
  | 0,_,_,_,h,_=>by obtain⟨m,hm⟩:=h.pos;cases hm
  |n+1,id,told,m,h,hm=>by
    have e:lw (yldX (fun(_:Unit) (a:B0)=>vk other a)) l id (.inl ()) m=
        if(cls l id).2=true then(if told.any (·==id)=true then some (.inr (l,id,.inl ()))else(if((cls l id).1.Id==other)=true then some (.inr (l,id,.inr (cls l id).1))else some (.inl ((cls l id).1.Type_,.inl (),mset id true m))))else some (.inr (l,id,.inl ())):=by
      unfold lw rd
      rw[ai1 om,hm]
      simp only[Option.bind_some,yldX,vk]
      cases (cls l id).2<;>cases told.any (·==id)<;>cases ((cls l id).1.Id==other)<;>rfl
    unfold path
    by_cases hc:(cls l id).2=true
    · rw[if_pos hc]at e ⊢
      by_cases ht:told.any (·==id)=true
      · rw[if_pos ht]at e ⊢
        exact⟨_,_,dj e,rfl⟩
      · rw[if_neg ht]at e ⊢
        rw[(awi hc).1]at e
        by_cases ho:(id==other)=true
        · rw[if_pos ho]at e
          exact⟨_,_,dj e,by rw[List.any_cons,ho];rfl⟩
        · rw[if_neg ho]at e
          obtain⟨i,z,h1,h2⟩:=aru hl other n (cls l id).1.Type_ (told++[id]) (mset id true m) (h.next hc ht) (fun k=>by
            rw[ak3,hm,List.any_append]
            by_cases hk:id=k
            · rw[if_pos hk,hk];simp
            · rw[if_neg hk]
              have:(id==k)=false:=by simpa using hk
              simp[this])
          refine⟨i,z,?_,?_⟩
          · rw[g7 (s':=((cls l id).1.Type_,.inl (),mset id true m)) e]
            exact h1
          · rw[h2,List.any_cons,Bool.eq_false_iff.2 ho,Bool.false_or]
    · rw[if_neg hc]at e ⊢
      exact⟨_,_,dj e,rfl⟩
theorem amv {l:List B0} (hl:l.length<=1000000) (id other:Bt):ag1 l id other=some (below l id other):=by
 obtain⟨i,z,h1,h2⟩:=aru hl other (l.length+1) id [] [] (told0 l) (fun k=>rfl)
 unfold ag1 aa0
 rw[h1,Option.bind_some]
 unfold below
 rw[← h2]
 cases z<;>rfl
abbrev tInt :Bt:=[105,110,116]
abbrev apz :Bt:=[98,111,111,108,101,97,110]
abbrev aya :Bt:=[118,111,105,100]
abbrev au7 :Bt:=[110,117,108,108]
def may (l:List B0) (a b:Bt):Bool:=
 if(a==[]||a==aya)=true then false
 else if(a==b)=true then(cls l b).2||b==tInt||b==apz
 else if(cls l b).2=false then false
 else if(a==au7)=true then true
 else(cls l a).2&&below l a b
theorem vg {l:List B0} (hl:l.length<=1000000) (a b:Bt):o5 l a b=some (may l a b):=by
 unfold o5 acl y5 acm may
 rw[aj0 om,aj0 om,amv hl]
 simp only[Option.bind_some]
 cases (a==([]:Bt))<;>cases (a==aya)<;>cases (a==b)<;>cases (cls l b).2<;>cases (b==tInt)<;>cases (b==apz)<;>cases (a==au7)<;>cases (cls l a).2<;>rfl
theorem aiu {l:List B0} (hl:l.length<=1000000) (a b:Bt):aij l a b=some (may l a b):=by
 unfold aij ait acp afb may
 rw[ah4 om,ah4 om,aqa hl]
 simp only[Option.bind_some]
 by_cases hab:(a==b)=true
 ·have:a=b:=by simpa using hab
  subst this
  cases (a==([]:Bt))<;>cases (a==aya)<;>cases (cls l a).2<;>cases h1:(a==tInt)<;>cases h2:(a==apz)<;>cases (a==au7)<;>simp_all
 ·rw[Bool.eq_false_iff.2 hab]
  cases (a==([]:Bt))<;>cases (a==aya)<;>cases (cls l b).2<;>cases (a==au7)<;>cases (cls l a).2<;>rfl
end Go.Proofs.YtcndghapmoaidaaGreatDoor
set_option linter.unusedSectionVars false
set_option maxRecDepth 100000
set_option maxHeartbeats 4000000
namespace Go.Proofs.YtcndghapmoaidaaGreatDoor
open Go Go.Cn
variable [Glob]
def ayo :List Bt:=[[43],[45],[42],[47],[37],[60],[60,61],[62],[62,61],[38,38],[124,124],[61,61],[33,61]]
theorem awd {l:List B0} (hl:l.length<=1000000) (op a b:Bt):∃r,jz l op a b=some r/\af4 l op a b=some r:=by
 unfold jz i5 j7 mr ms mt ll k9 mx
 unfold af4 aa6 aa7 aa8 cu
 rw[vg hl,vg hl,aiu hl,aiu hl,ahl dcd,ahl dcd,ahl dcd,ahl dcd]
 simp only[Option.bind_some,List.any_cons,List.any_nil,Bool.or_false]
 by_cases hop:op∈ayo
 ·generalize (a==tInt)=ai
  generalize (b==tInt)=bi
  generalize (a==apz)=ab
  generalize (b==apz)=bb
  generalize (a==au7)=an
  generalize (b==au7)=bn
  generalize may l a b=m1
  generalize may l b a=m2
  unfold ayo at hop
  simp only[List.mem_cons,List.not_mem_nil,or_false]at hop
  rcases hop with rfl|rfl|rfl|rfl|rfl|rfl|rfl|rfl|rfl|rfl|rfl|rfl|rfl<;>
   cases ai<;>cases bi<;>cases ab<;>cases bb<;>cases an<;>cases bn<;>cases m1<;>cases m2<;>exact⟨_,rfl,rfl⟩
 ·unfold ayo at hop
  simp only[List.mem_cons,List.not_mem_nil,or_false,not_or]at hop
  obtain⟨h1,h2,h3,h4,h5,h6,h7,h8,h9,h10,h11,h12,h13⟩:=hop
  have f:∀{c:Bt},¬op=c->(op==c)=false/\(c==op)=false:=fun h=>⟨by simpa using h,by simpa using fun e=>h e.symm⟩
  rw[(f h1).1,(f h2).1,(f h3).1,(f h4).1,(f h5).1,(f h6).1,(f h7).1,(f h8).1,(f h9).1,(f h10).1,(f h11).1,(f h12).1,(f h13).1,
   (f h1).2,(f h2).2,(f h3).2,(f h4).2,(f h5).2,(f h6).2,(f h7).2,(f h8).2,(f h9).2,(f h10).2,(f h11).2,(f h12).2,(f h13).2]
  cases (a==tInt)<;>cases (b==tInt)<;>cases (a==apz)<;>cases (b==apz)<;>exact⟨_,rfl,rfl⟩
theorem inner {l:List B0} {names:List Bt} (hl:l.length<=60) (i:Nat) (hi:i<names.length):∀(d k:Nat),d=names.length - k->iter (fun s=>mu names (i:Int) l s.1 s.2) (true,(k:Int))=some true
 | 0,k,hd=>by
  refine dj ?_
  show mu names (i:Int) l true (k:Int)=_
  unfold mu sd
  rw[if_neg so]
  rfl
 |d+1,k,hd=>by
  by_cases h9:k<9
  ·have hk:k<names.length:=by omega
   have e1:=ib (List.getElem?_eq_getElem hi)
   have e2:=ib (List.getElem?_eq_getElem hk)
   have e3:idx names 0=some (names[0]'om):=by
    have:=ib (l:=names) (i:=0) (List.getElem?_eq_getElem om)
    simpa using this
   obtain⟨r,g1,g2⟩:=awd (l:=l) om (names[0]'om) names[i] names[k]
   have e:mu names (i:Int) l true (k:Int)=some (.inl (true,((k+1:Nat):Int))):=by
    unfold mu sd
    rw[if_pos (by simpa using hk),if_pos so,if_pos rfl,e1,e2,e3]
    simp only[Option.bind_some]
    rw[vg om,aiu om]
    simp only[Option.bind_some]
    rw[if_pos sm,g1,g2]
    simp only[Option.bind_some]
    rw[c9 om om]
    simp
   rw[g7 (s':=(true,((k+1:Nat):Int))) e]
   exact inner hl i hi d (k+1) om
  ·refine dj ?_
   show mu names (i:Int) l true (k:Int)=_
   unfold mu sd
   have h:decide ((k:Int)<9)=false:=by simp;omega
   rw[h]
   split<;>rfl
end Go.Proofs.YtcndghapmoaidaaGreatDoor
set_option linter.unusedSectionVars false
set_option maxRecDepth 100000
set_option maxHeartbeats 4000000
namespace Go.Proofs.YtcndghapmoaidaaGreatDoor
open Go Go.Cn
variable [Glob]
def ownP (kind:Int) (name id:Bt) (e:B0):Bool:=e.Kind==kind&&e.Owner==id&&e.Name==name
def has (l:List B0) (kind:Int) (id name:Bt):B0 × Bool:=
 match (path l (l.length+1) id []).findSome? (fun a=>l.find? (ownP kind name a))with|some e=>(e,true)|none=>(an0,false)
theorem aq8 (kind:Int) (name id:Bt) {γ:Type} (g:B0->γ):∀(l:List B0) (i:Nat),qa (ownP kind name id) (fun _ x=>g x) i l=match l.find? (ownP kind name id)with|some e=> .done (g e)|none=> .next ()
 | [],_=>rfl
 |x::r,i=>by
  unfold qa
  by_cases hp:ownP kind name id x=true
  ·rw[if_pos hp,List.find?_cons_of_pos hp]
  ·rw[if_neg hp,List.find?_cons_of_neg hp];exact aq8 kind name id g r (i+1)
theorem auo {l:List B0} (hl:l.length<=1000000) (kind:Int) (name:Bt) (is:B0->Option Bool) (his:∀e,is e=some (e.Kind==kind&&e.Name==name)):∀(n:Nat) (id:Bt) (told:List Bt) (m:SMap Bool),Told l n told->(∀k,mget k false m=told.any (·==k))->
    ∃i z,iter (fun s=>lw (yldX (fun(_:Unit) (a:B0)=>y0 l is a)) l s.1 s.2.1 s.2.2) (id,.inl (),m)=some (l,i,z)/\(match z with| .inl _=>none| .inr y=>some y.1)=(path l n id told).findSome? (fun a=>l.find? (ownP kind name a))
  | 0,_,_,_,h,_=>by obtain⟨m,hm⟩:=h.pos;cases hm
  |n+1,id,told,m,h,hm=>by
    have hr:∀c:B0,y0 l is c=some (match l.find? (ownP kind name c.Id)with|some e=>(false,.inr (e,c))|none=>(true,.inl ())):=fun c=>by
      have h:=nz (l:=l) (f:=fun s=>aaw l c is s) (ownP kind name c.Id) (fun _ x=>((false,.inr (x,c)):Bool × ((Unit) ⊕ (B0 × B0)))) om (fun k x hx=>by
        unfold aaw ag6 ownP
        rw[if_pos (ki hx),ib hx]
        simp only[Option.bind_some,his]
        cases (x.Kind==kind)<;>cases (x.Owner==c.Id)<;>simp) (fun k hk=>by
        unfold aaw
        rw[if_neg (kj hk)]) l 0 rfl
      rw[aq8,show((0:Nat):Int)=0 from rfl]at h
      unfold y0
      rw[h,Option.bind_some]
      cases l.find? (ownP kind name c.Id)<;>rfl
    have e:lw (yldX (fun(_:Unit) (a:B0)=>y0 l is a)) l id (.inl ()) m=
        if(cls l id).2=true then(if told.any (·==id)=true then some (.inr (l,id,.inl ()))else(match l.find? (ownP kind name (cls l id).1.Id)with|some e=>some (.inr (l,id,.inr (e,(cls l id).1)))|none=>some (.inl ((cls l id).1.Type_,.inl (),mset id true m))))else some (.inr (l,id,.inl ())):=by
      unfold lw rd
      rw[ai1 om,hm]
      simp only[Option.bind_some,yldX,hr]
      cases (cls l id).2<;>cases told.any (·==id)<;>cases l.find? (ownP kind name (cls l id).1.Id)<;>rfl
    unfold path
    by_cases hc:(cls l id).2=true
    · rw[if_pos hc]at e ⊢
      by_cases ht:told.any (·==id)=true
      · rw[if_pos ht]at e ⊢
        exact⟨_,_,dj e,rfl⟩
      · rw[if_neg ht]at e ⊢
        rw[(awi hc).1]at e
        rw[List.findSome?_cons]
        cases hf:l.find? (ownP kind name id)with
        |some x=>
          rw[hf]at e
          exact⟨_,_,dj e,rfl⟩
        |none=>
          rw[hf]at e
          obtain⟨i,z,h1,h2⟩:=auo hl kind name is his n (cls l id).1.Type_ (told++[id]) (mset id true m) (h.next hc ht) (fun k=>by
            rw[ak3,hm,List.any_append]
            by_cases hk:id=k
            · rw[if_pos hk,hk];simp
            · rw[if_neg hk]
              have:(id==k)=false:=by simpa using hk
              simp[this])
          exact⟨i,z,(g7 (s':=((cls l id).1.Type_,.inl (),mset id true m)) e).trans h1,h2⟩
    · rw[if_neg hc]at e ⊢
      exact⟨_,_,dj e,rfl⟩
theorem arj {l:List B0} (hl:l.length<=1000000) (kind:Int) (id name:Bt) (is:B0->Option Bool) (his:∀e,is e=some (e.Kind==kind&&e.Name==name)):al4 l id is=some (has l kind id name):=by
 obtain⟨i,z,h1,h2⟩:=auo hl kind name is his (l.length+1) id [] [] (told0 l) (fun k=>rfl)
 unfold al4 aa0
 rw[h1,Option.bind_some]
 unfold has ag5 ag4
 rw[← h2]
 cases z<;>rfl
theorem ai3 {l:List B0} (hl:l.length<=1000000) (id name:Bt):w4 l id name=some (has l 2 id name):=by
 unfold w4
 rw[arj hl 2 id name _ (fun e=>by unfold aen xn;cases (e.Kind==2)<;>rfl)]
 rfl
theorem ahv {l:List B0} (hl:l.length<=1000000) (id name:Bt):wj l id name=some (has l 3 id name):=by
 unfold wj
 rw[arj hl 3 id name _ (fun e=>by unfold acz vt;cases (e.Kind==3)<;>rfl)]
 rfl
end Go.Proofs.YtcndghapmoaidaaGreatDoor
set_option linter.unusedSectionVars false
set_option maxRecDepth 100000
set_option maxHeartbeats 4000000
namespace Go.Proofs.YtcndghapmoaidaaGreatDoor
open Go Go.Cn
variable [Glob]
theorem art {α:Type} (p:α->Bool) (b d:Bool):∀(l:List α) (i:Nat),fin d (qa p (fun _ _=>b) i l)=if l.any p=true then b else d
 | [],_=>rfl
 |x::r,i=>by
  unfold qa
  by_cases hp:p x=true
  ·rw[if_pos hp,List.any_cons,hp,Bool.true_or,if_pos rfl];rfl
  ·rw[if_neg hp,List.any_cons,Bool.eq_false_iff.2 hp,Bool.false_or];exact art p b d r (i+1)
theorem ayu :∀(x y:List Bt),x.length=y.length->((x.zip y).any fun p=> !(p.1==p.2))= !decide (x=y)
 | [],[],_=>rfl
 |a::x,b::y,h=>by
  rw[List.zip_cons_cons,List.any_cons,ayu x y (by simpa using h)]
  by_cases hab:a=b
  ·by_cases hxy:x=y<;>simp[hab,hxy]
  ·simp[hab]
 | [],_::_,h=>by simp at h
 |_::_,[],h=>by simp at h
theorem avb {x y:List Bt} {i:Nat} {p:Bt × Bt} (h:(x.zip y)[i]? =some p):x[i]? =some p.1/\y[i]? =some p.2:=by
 rw[List.getElem?_zip_eq_some]at h
 exact h
theorem apl {x y:List Bt} (hx:x.length<=4000000000):kh x y=some (decide (x=y)):=by
 unfold kh
 by_cases hl:x.length=y.length
 ·rw[if_neg (by simp[hl])]
  have hz:(x.zip y).length=x.length:=by rw[List.length_zip];omega
  have h:=nz (l:=x.zip y) (f:=fun s=>fi x y s) (fun p=> !(p.1==p.2)) (fun _ _=>false) om (fun i p hp=>by
   unfold fi lc
   rw[if_pos (ki (avb hp).1),ib (avb hp).1,ib (avb hp).2]
   rfl) (fun i hi=>by
   unfold fi
   rw[if_neg (kj om)]) (x.zip y) 0 rfl
  rw[show((0:Nat):Int)=0 from rfl]at h
  rw[h,Option.bind_some]
  have h2:=art (fun p:Bt × Bt=> !(p.1==p.2)) false true (x.zip y) 0
  rw[ayu x y hl]at h2
  have h3:fin true (qa (fun p:Bt × Bt=> !(p.1==p.2)) (fun _ _=>false) 0 (x.zip y))=decide (x=y):=by
   rw[h2]
   cases decide (x=y)<;>rfl
  rw[← h3]
  cases qa (fun p:Bt × Bt=> !(p.1==p.2)) (fun _ _=>false) 0 (x.zip y)<;>rfl
 ·rw[if_pos (by simpa using fun h=>hl (by exact_mod_cast h))]
  have:x≠y:=fun e=>hl (by rw[e])
  simp[this]
theorem has_mem {l:List B0} {kind:Int} {id name:Bt} (h:(has l kind id name).2=true):(has l kind id name).1∈l:=by
 unfold has at h ⊢
 cases hf:(path l (l.length+1) id []).findSome? (fun a=>l.find? (ownP kind name a))with
 |none=>rw[hf]at h;cases h
 |some e=>
  obtain⟨a,_,h2⟩:=List.exists_of_findSome?_eq_some hf
  exact List.mem_of_find?_eq_some h2
def vb (l:List B0) (e:B0):Int:=
 if(e.Kind==1)=true then(if(!(e.Type_==[])&&(!(cls l e.Type_).2||below l e.Type_ e.Id))=true then 160 else 0)
 else if(cls l e.Owner).2=false then 0
 else if(e.Kind==2)=true then(if(has l 2 (cls l e.Owner).1.Type_ e.Name).2=true then 162 else 0)
 else if(e.Kind==3)=true then(if((has l 3 (cls l e.Owner).1.Type_ e.Name).2&& !((has l 3 (cls l e.Owner).1.Type_ e.Name).1.Type_==e.Type_&&(has l 3 (cls l e.Owner).1.Type_ e.Name).1.Static==e.Static&&decide ((has l 3 (cls l e.Owner).1.Type_ e.Name).1.Params=e.Params)))=true then 161 else 0)
 else 0
theorem avx :an0.Params.length<=4000000000:=by decide
theorem axu {l:List B0} (hp:∀e∈l,e.Params.length<=4000000000) (kind:Int) (id name:Bt):(has l kind id name).1.Params.length<=4000000000:=by
 by_cases h:(has l kind id name).2=true
 ·exact hp _ (has_mem h)
 ·unfold has at h ⊢
  cases hf:(path l (l.length+1) id []).findSome? (fun a=>l.find? (ownP kind name a))with
  |none=>exact avx
  |some e=>rw[hf]at h;exact absurd rfl h
theorem auu {l:List B0} (hl:l.length<=1000000) (hp:∀e∈l,e.Params.length<=4000000000) (e:B0):ain l e=some (vb l e):=by
 unfold ain acw y7 acx vh ak4 y8 vb
 have hl':l.length<=4000000000:=by omega
 simp only[ai1 hl',amv hl,ai3 hl,ahv hl,Option.bind_some,apl (axu hp _ _ _)]
 by_cases h1:(e.Kind==1)=true
 ·have:(e.Kind != 1)=false:=by simpa using h1
  rw[this]
  rw[if_pos h1]
  cases (e.Type_==([]:Bt))<;>cases (cls l e.Type_).2<;>cases below l e.Type_ e.Id<;>simp[h1]
 ·have:(e.Kind != 1)=true:=by simpa using h1
  rw[this,if_neg h1]
  by_cases h2:(e.Kind==2)=true
  ·cases (cls l e.Owner).2<;>cases (has l 2 (cls l e.Owner).1.Type_ e.Name).2<;>simp[h1,h2]
  ·by_cases h3:(e.Kind==3)=true
   ·cases (cls l e.Owner).2<;>cases (has l 3 (cls l e.Owner).1.Type_ e.Name).2<;>cases ((has l 3 (cls l e.Owner).1.Type_ e.Name).1.Type_==e.Type_)<;>cases ((has l 3 (cls l e.Owner).1.Type_ e.Name).1.Static==e.Static)<;>cases decide ((has l 3 (cls l e.Owner).1.Type_ e.Name).1.Params=e.Params)<;>simp[h1,h2,h3]
   ·cases (cls l e.Owner).2<;>simp[h1,h2,h3]
def adc (l:List B0):B4:=fin (B4.mk 0 0 0) (qa (fun e=>vb l e != 0) (fun _ e=>B4.mk (vb l e) e.File e.At) 0 l)
theorem aux {l:List B0} (hl:l.length<=1000000) (hp:∀e∈l,e.Params.length<=4000000000):aio l=some (adc l):=by
 have h:=nz (l:=l) (f:=fun s=>vj l s) (fun e=>vb l e != 0) (fun _ e=>B4.mk (vb l e) e.File e.At) om (fun i x hx=>by
  unfold vj
  rw[if_pos (ki hx),ib hx]
  simp only[Option.bind_some,auu hl hp]) (fun i hi=>by
  unfold vj
  rw[if_neg (kj hi)]) l 0 rfl
 unfold aio adc
 rw[show((0:Nat):Int)=0 from rfl]at h
 rw[h,Option.bind_some]
 cases qa (fun e=>vb l e != 0) (fun _ e=>B4.mk (vb l e) e.File e.At) 0 l<;>rfl
end Go.Proofs.YtcndghapmoaidaaGreatDoor
set_option linter.unusedSectionVars false
namespace Go.Cn
abbrev noG :Glob:=⟨fun _=>True,fun _ _ _ _=>trivial⟩
theorem a1s {σ ω:Type} {f:σ->Option (σ ⊕ ω)} (I:σ->Prop) (Q:ω->Prop) (m:σ->Nat)
  (h:∀s,I s->(∃s',f s=some (.inl s')/\I s'/\m s'<m s)\/(∃o,f s=some (.inr o)/\Q o)):∀s,I s->∃o,iter f s=some o/\Q o:=by
 have key:∀n s,m s<=n->I s->∃o,iter f s=some o/\Q o:=by
  intro n
  induction n with
  |zero=>
   intro s hm hs
   rcases h s hs with⟨s',_,_,h3⟩|⟨o,h1,h2⟩
   ·omega
   ·exact⟨o, @dj noG _ _ _ _ _ h1,h2⟩
  |succ n ih=>
   intro s hm hs
   rcases h s hs with⟨s',h1,h2,h3⟩|⟨o,h1,h2⟩
   ·obtain⟨o,h4,h5⟩:=ih s' om h2
    exact⟨o,by rw[@g7 noG _ _ _ _ _ h1];exact h4,h5⟩
   ·exact⟨o, @dj noG _ _ _ _ _ h1,h2⟩
 exact fun s hs=>key (m s) s (Nat.le_refl _) hs
theorem a1u {l:Bt} {i:Nat} (h:i<l.length):idxS l i=some (l[i].toNat:Int):=by
 unfold idxS
 simp[h]
theorem afz {α:Type} {l:List α} {i:Nat} (h:i<l.length):idx l i=some l[i]:=by
 unfold idx
 simp[h]
theorem sub_nat {l:Bt} {i j:Nat} (h:i<=j) (h2:j<=l.length):sub l i j=some ((l.take j).drop i):=by
 unfold sub
 simp[h,h2]
end Go.Cn
set_option linter.unusedSectionVars false
set_option linter.unusedVariables false
set_option linter.unusedSimpArgs false
set_option maxRecDepth 100000
set_option maxHeartbeats 4000000
namespace Go.Proofs.YtcndghapmoaidaaGreatDoor
open Go Go.Cn
variable [Glob]
def Ok {α:Type} (P:α->Prop) (o:Option α):Prop:=∃a,o=some a/\P a
section
variable {α β σ ω:Type} {P Q:α->Prop} {o:Option α}
theorem Ok.mk {a:α} (h:P a):Ok P (some a):=⟨a,rfl,h⟩
theorem Ok.bd {Q:β->Prop} {f:α->Option β} (h:Ok P o) (k:∀a,P a->Ok Q (f a)):Ok Q (o.bind f):=by
 obtain⟨a,rfl,ha⟩:=h
 exact k a ha
theorem Ok.weak (h:Ok P o) (k:∀a,P a->Q a):Ok Q o:=by
 obtain⟨a,rfl,ha⟩:=h
 exact⟨a,rfl,k a ha⟩
theorem Ok.dec {p:Prop} [Decidable p] {a b:Option α} (h1:p->Ok P a) (h2:¬p->Ok P b):Ok P (if decide p=true then a else b):=by
 by_cases h:p
 ·rw[if_pos (by simpa using h)];exact h1 h
 ·rw[if_neg (by simpa using h)];exact h2 h
theorem Ok.cond {c:Bool} {a b:Option α} (h1:c=true->Ok P a) (h2:c=false->Ok P b):Ok P (if c=true then a else b):=by
 cases c
 ·exact h2 rfl
 ·exact h1 rfl
theorem Ok.it {f:σ->Option (σ ⊕ ω)} {Q:ω->Prop} (I:σ->Prop) (m:σ->Nat) (h:∀s,I s->Ok (Sum.elim (fun s'=>I s'/\m s'<m s) Q) (f s)) {s:σ} (hs:I s):Ok Q (iter f s):=
 a1s I Q m (fun s hs=>by
  obtain⟨z,h1,h2⟩:=h s hs
  cases z with
  |inl s'=>exact .inl ⟨s',h1,h2⟩
  |inr w=>exact .inr ⟨w,h1,h2⟩) s hs
end
def ajo {α β:Type} (A:α->Prop) (B:β->Prop):Flow α β->Prop
 | .next p=>A p
 | .done r=>B r
theorem ada {x:Bt} {i:Int} (h:0<=i) (h2:i<x.length):Ok (fun _=>True) (idxS x i):=by
 obtain⟨n,rfl⟩:∃n:Nat,i=n:=⟨i.toNat,by omega⟩
 exact⟨_,a1u om,trivial⟩
theorem al6 {x:Bt} {i:Int} (h:0<=i) (h2:i<x.length):Ok (fun c=>idxS x i=some c) (idxS x i):=by
 obtain⟨c,hc,_⟩:=ada h h2
 exact⟨c,hc,hc⟩
theorem aqy {x:Bt} {i j:Nat} (h:i<=j) (h2:j<=x.length):Ok (fun s=>s=(x.take j).drop i) (sub x i j):=⟨_,sub_nat h h2,rfl⟩
theorem as2 (c:Int):Ok (fun _=>True) (s6 c):=by
 unfold s6 xm
 split<;>exact .mk trivial
theorem aue (c:Int):Ok (fun _=>True) (sv c):=by
 unfold sv k7
 repeat' split
 all_goals exact .mk trivial
theorem a1v {s:Bt} (hs:s.length<=1000000):Ok (fun _=>True) (aek s):=by
 unfold aek acd
 refine .dec (fun _=> .mk trivial) fun _=> .bd (P:=fun _=>True) (.it (fun p:Int × Int=>0<=p.2/\p.2<=s.length) (fun p=>(s.length - p.2).toNat) ?_ ⟨by omega,by omega⟩) (fun _ _=> .mk trivial)
 rintro⟨n,i⟩ ⟨h1,h2⟩
 simp only at h1 h2 ⊢
 unfold xl
 refine .dec (fun h=> .bd (ada h1 h) fun _ _=> .mk ?_) fun _=> .mk trivial
 simp only[Sum.elim_inl]
 rw[c9 (n:=i+1) om om]
 omega
theorem kept_ok {s:Bt}:Ok (fun _=>True) (pq s):=by
 unfold pq ad5
 refine .bd (P:=fun _=>True) (.it (fun p:Int=>0<=p/\p<=16) (fun p=>(16 - p).toNat) ?_ ⟨by omega,by omega⟩) (fun z _=>by cases z<;>exact .mk trivial)
 rintro i ⟨h1,h2⟩
 unfold zq
 refine .dec (fun h=>?_) fun _=> .mk trivial
 simp only[List.length_cons,List.length_nil]at h
 obtain⟨n,rfl⟩:∃n:Nat,i=n:=⟨i.toNat,by omega⟩
 rw[afz (by simp only[List.length_cons,List.length_nil];omega)]
 refine .cond (fun _=> .mk trivial) fun _=> .mk ?_
 simp only[Sum.elim_inl]
 rw[c9 om om]
 omega
theorem one_ok {x:Bt} {n:Int} (h:0<=n) (hn:n<x.length):Ok (fun m:Int=>0<=m/\m<=1) (zn x n):=by
 unfold zn ad2
 refine .bd (P:=ajo (fun _=>True) (fun r=>r=1)) (.it (fun p:Int=>0<=p/\p<=16) (fun p=>(16 - p).toNat) ?_ ⟨by omega,by omega⟩) (fun z hz=>by
  cases z with
  |next _=>exact .mk om
  |done r=>obtain rfl:r=1:=hz;exact .mk om)
 rintro i ⟨h1,h2⟩
 unfold zm ad4
 refine .dec (fun hi=> .bd (ada h hn) fun _ _=> .bd (ada h1 hi) fun _ _=> .cond (fun _=> .mk rfl) fun _=> .mk ?_) fun _=> .mk trivial
 simp only[List.length_cons,List.length_nil,Sum.elim_inl]at hi ⊢
 rw[c9 om om]
 omega
theorem mark_ok {x:Bt} {n:Nat} (hn:n<x.length) (hx:x.length<=1000000):Ok (fun m:Int=>0<=m/\n+m<=x.length) (ag3 x n):=by
 unfold ag3
 refine .bd (P:=ajo (fun _=>True) (fun r=>r=2/\n+2<=x.length)) (.it (fun p:Int=>0<=p/\p<=6) (fun p=>(6 - p).toNat) ?_ ⟨by omega,by omega⟩) (fun z hz=>by
  cases z with
  |next _=>exact(one_ok om om).weak fun m h=>by omega
  |done r=>obtain⟨rfl,h⟩:r=2/\n+2<=x.length:=hz;exact .mk om)
 rintro i ⟨h1,h2⟩
 unfold zl zo ad3
 rw[c9 om om]
 refine .dec (fun hi=> .dec (fun hl=> .bd (aqy (i:=n) (j:=n+2) om om) fun _ _=>?_) fun _=> .mk trivial) fun _=> .cond (fun h=>by cases h) fun _=> .mk trivial
 simp only[List.length_cons,List.length_nil]at hi
 obtain⟨k,rfl⟩:∃n:Nat,i=n:=⟨i.toNat,by omega⟩
 rw[afz (by simp only[List.length_cons,List.length_nil];omega)]
 refine .cond (fun _=> .mk ⟨rfl,by omega⟩) fun _=> .mk ?_
 simp only[Sum.elim_inl]
 rw[c9 om om]
 omega
abbrev BetP (x:Bt) (a s:Int):Int ⊕ Flow Int (Int × Bool)->Prop:=
 Sum.elim (fun s'=>(a<=s'/\s'<=x.length)/\(x.length - s').toNat<(x.length - s).toNat) (ajo (fun p=>a<=p/\p<=x.length) (fun r:Int × Bool=>a<=r.1/\r.1<=x.length))
theorem atk {x:Bt} {a s:Int} (ha:0<=a) (hx:x.length<=1000000) (h1:a<=s) (h:s+1<x.length) (hc:idxS x s=some 47):Ok (BetP x a s) (j0 s x false):=by
 unfold j0
 rw[if_neg sm,c9 om om,c9 om om]
 refine .bd (ada om om) fun d _=> .cond (fun hd=>?_) fun _=>?_
 ·refine .bd (P:=fun p=>s<p/\p<=x.length) (.it (fun p:Int=>s<=p/\p<=x.length) (fun p=>(x.length - p).toNat) ?_ ⟨by omega,by omega⟩) fun p hp=> .mk (by simp only[BetP,Sum.elim_inl];omega)
  rintro p ⟨p1,p2⟩
  unfold tz t6
  refine .dec (fun hp=> .bd (al6 om hp) fun e he=> .cond (fun _=> .mk ?_) fun hn=> .mk ?_) fun hp=> .cond (fun h=>by cases h) fun _=> .mk ?_
  ·simp only[Sum.elim_inl]
   rw[c9 om om]
   omega
  ·simp only[Sum.elim_inr]
   refine⟨?_,p2⟩
   rcases Int.lt_or_eq_of_le p1 with h|rfl
   ·exact h
   ·rw[hc]at he
    cases he
    simp at hn
  ·simp only[Sum.elim_inr]
   omega
 ·refine .bd (P:=fun p=>s+2<=p/\p<=x.length) (.it (fun p:Int=>s+2<=p/\p<=x.length) (fun p=>(x.length - p).toNat) ?_ ⟨by omega,by omega⟩) fun p hp=>?_
  ·rintro p ⟨p1,p2⟩
   unfold tx pw
   rw[c9 om om]
   have g:p+1<x.length->Ok (Sum.elim (fun s'=>(s+2<=s'/\s'<=x.length)/\(x.length - s').toNat<(x.length - p).toNat) (fun p:Int=>s+2<=p/\p<=x.length)) (some (.inl (p+1))):=fun h=> .mk (by simp only[Sum.elim_inl];omega)
   refine .dec (fun hp=> .bd (ada om om) fun e _=> .cond (fun _=> .cond (fun _=>g hp) fun h=>by cases h) fun _=> .bd (ada om hp) fun e _=> .cond (fun _=>g hp) fun _=> .mk ⟨p1,p2⟩) fun _=> .cond (fun h=>by cases h) fun _=> .mk ⟨p1,p2⟩
  ·unfold yg
   rw[c9 om om,c9 om om]
   refine .dec (fun _=> .mk ?_) fun _=> .mk ?_
   ·simp only[BetP,Sum.elim_inr,ajo]
    omega
   ·simp only[BetP,Sum.elim_inl]
    omega
theorem ax5 {x:Bt} {a:Int} (ha:0<=a) (h2:a<=x.length) (hx:x.length<=1000000):Ok (fun r:Int × Bool=>a<=r.1/\r.1<=x.length) (zp x a):=by
 unfold zp yh
 refine .bd (P:=ajo (fun p=>a<=p/\p<=x.length) (fun r:Int × Bool=>a<=r.1/\r.1<=x.length)) (.it (fun s:Int=>a<=s/\s<=x.length) (fun s=>(x.length - s).toNat) ?_ ⟨by omega,h2⟩) (fun z hz=>by cases z<;>exact .mk hz)
 rintro s ⟨h1,h2⟩
 unfold t0
 refine .dec (fun h=> .bd (al6 om h) fun c hc=>?_) fun _=> .mk ⟨h1,h2⟩
 have fwd:Ok (BetP x a s) (kc s x c true):=by
  unfold kc
  rw[if_pos rfl]
  refine .mk ?_
  simp only[BetP,Sum.elim_inl]
  rw[c9 om om]
  omega
 refine .cond (fun _=>fwd) fun _=> .cond (fun _=>fwd) fun _=> .cond (fun _=>fwd) fun _=>?_
 generalize (c==13)=b
 cases b with
 |true=>exact fwd
 |false=>
 unfold kc
 rw[if_neg sm,c9 om om]
 have out:Ok (BetP x a s) (j0 s x true):=by
  unfold j0
  rw[if_pos rfl]
  exact .mk ⟨h1,h2⟩
 refine .dec (fun _=>out) fun hl=> .cond (fun _=>out) fun h47=> .bd (ada om om) fun d _=>?_
 have go:=atk ha hx h1 om (by rw[hc];simpa using h47)
 refine .cond (fun _=> .bd (ada om om) fun d _=>?_) fun _=>go
 generalize (d != 42)=b
 cases b
 ·exact go
 ·exact out
structure TokOk (x:Bt) (n:Nat) (k m:Int):Prop where
 one:1<=m
 fits:n+m<=x.length
 not5:k≠5
 kept:k=1->pq ((x.take (n+m.toNat)).drop n)=some false
theorem a2h {x:Bt} {n:Nat} {f:Int->Option (Int ⊕ Int)} (hx:x.length<=1000000) (hn:n<x.length)
  (h1:∀m:Int,0<=m->n+m<x.length->Ok (fun z=>z= .inl (m+1)\/(0<m/\z= .inr m)) (f m)) (h2:∀m:Int,n+m=x.length->f m=some (.inr m)):Ok (fun m:Int=>1<=m/\n+m<=x.length) (iter f 0):=by
 refine .it (fun m:Int=>0<=m/\n+m<=x.length) (fun m=>(x.length - m).toNat) ?_ ⟨by omega,by omega⟩
 rintro m ⟨p1,p2⟩
 by_cases h:n+m<x.length
 ·refine(h1 m p1 h).weak fun z hz=>?_
  rcases hz with rfl|⟨h0,rfl⟩
  ·simp only[Sum.elim_inl]
   omega
  ·simp only[Sum.elim_inr]
   omega
 ·rw[h2 m om]
  exact .mk (by simp only[Sum.elim_inr];omega)
theorem a07 {x:Bt} {n:Nat} (hn:n<x.length) (hx:x.length<=1000000):Ok (fun r:Int × Int × Int=>r.2.2=0->TokOk x n r.1 r.2.1) (aej x n):=by
 unfold aej
 refine .bd (al6 om om) fun c hc=> .bd (P:=fun b=>s6 c=some b) ?_ fun b hb=> .cond (fun h=>?_) fun h=> .bd (al6 om om) fun c' hc'=>?_
 ·obtain⟨b,hb,_⟩:=as2 c
  exact⟨b,hb,hb⟩
 ·subst h
  refine .bd (P:=fun m:Int=>1<=m/\n+m<=x.length) (a2h hx hn (fun m h0 h=>?_) fun m h=>?_) fun m hm=>?_
  ·unfold uj uk
   rw[c9 om om,c9 om om]
   rw[if_pos (by simpa using h)]
   refine .bd (al6 om h) fun e he=> .bd (P:=fun b=>s6 e=some b) ?_ fun b' hb'=> .cond (fun _=> .mk (.inl rfl)) fun hf=> .mk (.inr ⟨?_,rfl⟩)
   ·obtain⟨b,hb,_⟩:=as2 e
    exact⟨b,hb,hb⟩
   ·rcases Int.lt_or_eq_of_le h0 with h|rfl
    ·exact h
    ·rw[Int.add_zero,hc]at he
     cases he
     rw[hb]at hb'
     cases hb'
     cases hf
  ·unfold uj uk
   rw[c9 om om,if_neg so]
   rfl
  ·have hr:∀b,Ok (fun r:Int × Int × Int=>r.2.2=0->TokOk x n r.1 r.2.1) (rc m b):=fun b=>by
    unfold rc
    exact .cond (fun _=> .mk fun h=>by cases h) fun _=> .mk fun _=>⟨hm.1,hm.2,by simp,by simp⟩
   obtain⟨m,rfl⟩:∃k:Nat,m=k:=⟨m.toNat,by omega⟩
   unfold acb
   rw[c9 om om]
   refine .bd (aqy (i:=n) (j:=n+m) om om) fun s hs=> .bd (a1v ?_) fun g _=> .cond (fun _=>hr _) fun _=> .dec (fun _=> .bd (ada om om) fun _ _=>hr _) fun _=>hr _
   rw[hs]
   simp only[List.length_drop,List.length_take]
   omega
 ·refine .bd (P:=fun b=>sv c'=some b) ?_ fun b' hb'=> .cond (fun h=>?_) fun h=> .bd (mark_ok hn hx) fun m hm=> .cond (fun _=> .mk fun h=>by cases h) fun h=> .mk fun _=>⟨?_,hm.2,by simp,by simp⟩
  ·obtain⟨b,hb,_⟩:=aue c'
   exact⟨b,hb,hb⟩
  ·subst h
   refine .bd (P:=fun m:Int=>1<=m/\n+m<=x.length) (a2h hx hn (fun m h0 h=>?_) fun m h=>?_) fun m hm=>?_
   ·unfold ui rb
    rw[c9 om om,c9 om om]
    rw[if_pos (by simpa using h)]
    refine .bd (al6 om h) fun e he=> .bd (P:=fun b=>sv e=some b) ?_ fun b' hb2=> .cond (fun _=> .cond (fun _=> .mk (.inl rfl)) fun h=>by cases h) fun hf=> .bd (ada om h) fun e' _=> .bd (as2 _) fun b _=> .cond (fun _=> .mk (.inl rfl)) fun _=> .mk (.inr ⟨?_,rfl⟩)
    ·obtain⟨b,hb,_⟩:=aue e
     exact⟨b,hb,hb⟩
    ·rcases Int.lt_or_eq_of_le h0 with h|rfl
     ·exact h
     ·rw[Int.add_zero,hc']at he
      cases he
      rw[hb']at hb2
      cases hb2
      cases hf
   ·unfold ui rb
    rw[c9 om om,if_neg so]
    rfl
   ·obtain⟨m,rfl⟩:∃k:Nat,m=k:=⟨m.toNat,by omega⟩
    unfold aca
    rw[c9 om om]
    refine .dec (fun _=> .mk fun h=>by cases h) fun _=> .bd (aqy (i:=n) (j:=n+m) om om) fun s hs=>?_
    obtain⟨b,hb,_⟩:=kept_ok (s:=s)
    rw[hb]
    subst hs
    exact .cond (fun _=> .mk fun _=>⟨hm.1,hm.2,by simp,by simp⟩) fun h=> .mk fun _=>⟨hm.1,hm.2,by simp,fun _=>by rw[← h,Int.toNat_natCast];exact hb⟩
  ·have:m≠0:=by simpa using h
   have:=hm.1
   show 1<=m
   omega
structure ToksN (M:Nat) (T:List C6):Prop where
 len:T.length<=M+1
 pos:0<T.length
 last:∀i (h:i<T.length),T[i].Kind=5↔i+1=T.length
 txt:∀i (h:i<T.length),T[i].Text.length<=M
 kept:∀i (h:i<T.length),T[i].Kind=1->T[i].Text≠[]/\pq T[i].Text=some false
theorem Lex_ok {x:Bt} (hx:x.length<=1000000):Ok (fun r:List C6 × Int × Int=>r.2.2=0->ToksN x.length r.1) (aik x):=by
 unfold aik
 rw[if_neg so]
 refine .it (fun s:Int × List C6=>0<=s.1/\s.1<=x.length/\s.2.length<=s.1/\∀t∈s.2,t.Kind≠5/\t.Text.length<=x.length/\(t.Kind=1->t.Text≠[]/\pq t.Text=some false)) (fun s=>(x.length - s.1).toNat) ?_ ⟨by simp,by simp,by simp,fun t ht=>by cases ht⟩
 rintro⟨a,l⟩ ⟨h1,h2,h3,h4⟩
 simp only at h1 h2 h3 h4 ⊢
 unfold acu
 refine .bd (ax5 h1 h2 hx) ?_
 rintro⟨p,b⟩ ⟨p1,p2⟩
 simp only at p1 p2 ⊢
 obtain⟨p,rfl⟩:∃k:Nat,p=k:=⟨p.toNat,by omega⟩
 obtain⟨a,rfl⟩:∃k:Nat,a=k:=⟨a.toNat,by omega⟩
 refine .cond (fun _=> .mk fun h=>by cases h) fun _=> .cond (fun he=> .bd (aqy om om) fun s hs=>?_) fun hne=> .bd (a07 ?_ hx) ?_
 ·rw[ze (by simp only[List.length_cons,List.length_nil];omega) (by simp only[List.length_cons,List.length_nil];omega)]
  refine .mk fun _=>⟨?_,?_,fun i h=>?_,fun i h=>?_,fun i h=>?_⟩
  ·simp only[List.length_append,List.length_cons,List.length_nil]
   omega
  ·simp
  ·simp only[List.length_append,List.length_cons,List.length_nil]at h ⊢
   rcases Nat.lt_or_ge i l.length with hi|hi
   ·rw[List.getElem_append_left hi]
    have:=(h4 _ (List.getElem_mem hi)).1
    omega
   ·rw[List.getElem_append_right hi]
    simp
    omega
  ·rcases Nat.lt_or_ge i l.length with hi|hi
   ·rw[List.getElem_append_left hi]
    exact(h4 _ (List.getElem_mem hi)).2.1
   ·rw[List.getElem_append_right hi]
    simp
  ·rcases Nat.lt_or_ge i l.length with hi|hi
   ·rw[List.getElem_append_left hi]
    exact(h4 _ (List.getElem_mem hi)).2.2
   ·rw[List.getElem_append_right hi]
    simp
 ·have:(p:Int)≠x.length:=by simpa using hne
  omega
 ·rintro⟨k,m,e⟩ hk
  simp only at hk ⊢
  refine .cond (fun he=> .mk fun h=>by simp[show e=0 from h]at he) fun he=>?_
  have g:=hk (by simpa using he)
  have g1:=g.one
  have g2:=g.fits
  obtain⟨m,rfl⟩:∃k:Nat,m=k:=⟨m.toNat,by omega⟩
  rw[c9 om om]
  refine .bd (aqy (i:=p) (j:=p+m) om om) fun s hs=> .bd (aqy om om) fun s2 _=>?_
  rw[ze (by simp only[List.length_cons,List.length_nil];omega) (by simp only[List.length_cons,List.length_nil];omega)]
  unfold afg
  rw[c9 om om]
  refine .mk ?_
  simp only[Sum.elim_inl,List.length_append,List.length_cons,List.length_nil]
  refine⟨⟨by omega,by omega,by omega,fun t ht=>?_⟩,by omega⟩
  rcases List.mem_append.1 ht with ht|ht
  ·exact h4 t ht
  ·obtain rfl:t=_:=by simpa using ht
   have hl:s.length=m:=by rw[hs,List.length_drop,List.length_take];omega
   refine⟨g.not5,by simp only;omega,fun h=>⟨fun h0=>?_,?_⟩⟩
   ·simp only at h0
    rw[h0]at hl
    simp at hl
    omega
   ·have:=g.kept h
    rw[Int.toNat_natCast,← hs]at this
    exact this
end Go.Proofs.YtcndghapmoaidaaGreatDoor
set_option linter.unusedSectionVars false
set_option linter.unusedVariables false
set_option linter.unusedSimpArgs false
set_option maxRecDepth 100000
set_option maxHeartbeats 4000000
namespace Go.Proofs.YtcndghapmoaidaaGreatDoor
open Go Go.Cn
variable [Glob]
mutual
def eh :B6->Nat
 |⟨_,_,_,_,_,_,_,_,kids⟩=>1+cm kids
def cm :List B6->Nat
 | []=>0
 |n::l=>eh n+cm l
end
def need (k:Int):Nat:=if k=7\/k=24 then 2 else if k=3\/k=6\/k=8\/k=9\/k=10\/k=12\/k=18\/k=20\/k=22\/k=23 then 1 else 0
mutual
def okB (M:Nat):B6->Prop
 |⟨k,t,y,_,_,_,_,_,kids⟩=>(t.length<=M/\y.length<=M)/\okBL M kids/\need k<=kids.length
def okBL (M:Nat):List B6->Prop
 | []=>True
 |n::l=>okB M n/\okBL M l
end
theorem ko (x:B6):eh x=1+cm x.Kids:=by cases x;simp[eh]
theorem o6 (x:B6):0<eh x:=by rw[ko];omega
theorem mb :∀l:List B6,l.length<=cm l
 | []=>by simp[cm]
 |n::l=>by have:=mb l;have:=o6 n;simp[cm];omega
theorem anq {M:Nat}:∀{l m:List B6},okBL M (l++m)↔okBL M l/\okBL M m
 | [],_=>by simp[okBL]
 |_::_,_=>by simp[okBL,anq,and_assoc]
theorem ub :∀(l m:List B6),cm (l++m)=cm l+cm m
 | [],m=>by simp[cm]
 |n::l,m=>by simp[cm,ub l m];omega
abbrev wy (M:Nat) (T:List C6) (i:Int):B6 × Int × C7->Prop:=fun r=>r.2.2.Place<0->i<r.2.1/\r.2.1<T.length/\okB M r.1/\(eh r.1:Int)+i<=r.2.1
abbrev ayi (M:Nat) (T:List C6) (i:Int):List B6 × Int × C7->Prop:=fun r=>r.2.2.Place<0->i<r.2.1/\r.2.1<T.length/\okBL M r.1/\(cm r.1:Int)+i<=r.2.1
section
variable {α β:Type} {P Q:β->Prop}
theorem Ok.tt {a b:Option β} (h:Ok P a):Ok P (if true=true then a else b):=h
theorem Ok.ff {a b:Option β} (h:Ok P b):Ok P (if false=true then a else b):=h
theorem Ok.isT {A:Prop} {o:Option Bool} {f:Bool->Option β} (h:Ok (fun b=>b=true->A) o) (k1:A->Ok Q (f true)) (k2:Ok Q (f false)):Ok Q (o.bind f):=by
 obtain⟨b,rfl,h⟩:=h
 cases b
 ·exact k2
 ·exact k1 (h rfl)
theorem Ok.node {M:Nat} {T:List C6} {i:Int} {o:Option (B6 × Int × C7)} {f:B6 × Int × C7->Option β} (h:Ok (wy M T i) o) (k1:∀n j w,w.Place≥0->Ok Q (f (n,j,w))) (k2:∀n j w,w.Place<0->i<j->j<T.length->okB M n->(eh n:Int)+i<=j->Ok Q (f (n,j,w))):Ok Q (o.bind f):=by
 obtain⟨⟨n,j,w⟩,rfl,h⟩:=h
 rcases Int.lt_or_le w.Place 0 with hw|hw
 ·exact k2 _ _ _ hw (h hw).1 (h hw).2.1 (h hw).2.2.1 (h hw).2.2.2
 ·exact k1 _ _ _ hw
theorem Ok.list {M:Nat} {T:List C6} {i:Int} {o:Option (List B6 × Int × C7)} {f:List B6 × Int × C7->Option β} (h:Ok (ayi M T i) o) (k1:∀n j w,w.Place≥0->Ok Q (f (n,j,w))) (k2:∀n j w,w.Place<0->i<j->j<T.length->okBL M n->(cm n:Int)+i<=j->Ok Q (f (n,j,w))):Ok Q (o.bind f):=by
 obtain⟨⟨n,j,w⟩,rfl,h⟩:=h
 rcases Int.lt_or_le w.Place 0 with hw|hw
 ·exact k2 _ _ _ hw (h hw).1 (h hw).2.1 (h hw).2.2.1 (h hw).2.2.2
 ·exact k1 _ _ _ hw
theorem Ok.syn {i:Int} {f:C7->Option β} (k:Ok Q (f (C7.mk i 120))):Ok Q ((dh i).bind f):=k
theorem Ok.fine {f:C7->Option β} (k:Ok Q (f (C7.mk (-1) 0))):Ok Q (ez.bind f):=k
theorem Ok.app {l m:List B6} {f:List B6->Option β} (h:cm l+cm m<=9000000) (k:Ok Q (f (l++m))):Ok Q ((app 104 l m).bind f):=by
 have:=mb l
 have:=mb m
 rw[ze om om]
 exact k
variable {M:Nat} {T:List C6} (hT:ToksN M T)
include hT
theorem Ok.tok {i:Int} {f:C6->Option β} (h:0<=i) (h2:i<T.length) (k:∀t,t.Text.length<=M->(t.Kind=1->t.Text≠[]/\pq t.Text=some false)->(t.Kind≠5->i+1<T.length)->Ok Q (f t)):Ok Q ((idx T i).bind f):=by
 obtain⟨n,rfl⟩:∃n:Nat,i=n:=⟨i.toNat,by omega⟩
 have hn:n<T.length:=by omega
 rw[afz hn]
 refine k _ (hT.txt n hn) (hT.kept n hn) fun h5=>?_
 have:=(hT.last n hn).2
 rcases Nat.lt_or_ge (n+1) T.length with h|h
 ·omega
 ·exact absurd (this om) h5
theorem aar {i:Int} (h:0<=i) (s:Bt):Ok (fun b=>b=true->i+1<T.length) (de T i s):=by
 unfold de yo
 refine .dec (fun h2=> .tok hT h h2 fun t _ _ h5=> .cond (fun _=> .tok hT h h2 fun t _ _ _=> .cond (fun _=> .tok hT h h2 fun t _ _ h5=> .mk fun hk=>h5 (by simpa using hk)) fun _=> .mk sm) fun _=> .mk sm) fun _=> .mk sm
theorem aka {i:Int} (h:0<=i):Ok (fun b=>b=true->i+1<T.length) (lj T i):=by
 unfold lj wk
 refine .dec (fun h2=> .tok hT h h2 fun t _ _ h5=> .mk fun hk=>h5 ?_) fun _=> .mk sm
 rw[beq_iff_eq]at hk
 omega
variable (hM:M<=60000)
include hM
theorem Ok.end {j:Int} {f:Int->Option β} (h1:1<=j) (h2:j<=T.length) (k:∀b,Ok Q (f b)):Ok Q ((agz T j).bind f):=by
 have:=hT.len
 unfold agz afc
 rw[c9 om om]
 exact .bd (P:=fun _=>True) (.tok hT om om fun _ _ _ _=> .tok hT om om fun _ _ _ _=> .mk trivial) fun b _=>k b
theorem Ok.made {q i j:Int} {l:List B6} {f:B6->Option β} (h:0<=i) (h2:i<T.length) (h1:1<=j) (h3:j<=T.length) (k:∀a b,Ok Q (f ⟨q,[],[],0,a,b, -1, -1,l⟩)):Ok Q ((gc T q i j l).bind f):=by
 unfold gc ady
 refine .bd (P:=fun n=>∃a b,n=⟨q,[],[],0,a,b, -1, -1,l⟩) (.tok hT h h2 fun _ _ _ _=> .end hT hM h1 h3 fun _=> .mk ⟨_,_,rfl⟩) ?_
 rintro _ ⟨a,b,rfl⟩
 exact k a b
theorem Ok.typed {i:Int} {x:B6} {f:B6->Option β} (h:0<=i) (h2:i+1<T.length) (k:∀s t a b,s.length<=M->t.length<=M->Ok Q (f {{{{x with Type_:=s} with TypeAt:=a} with Text:=t} with At:=b})):Ok Q ((yn T x i).bind f):=by
 have:=hT.len
 unfold yn
 rw[c9 om om]
 refine .bd (P:=fun n=>∃s t a b,s.length<=M/\t.length<=M/\n={{{{x with Type_:=s} with TypeAt:=a} with Text:=t} with At:=b}) (.tok hT h om fun t1 h1 _ _=> .tok hT h om fun t2 _ _ _=> .tok hT om om fun t3 h3 _ _=> .tok hT om om fun t4 _ _ _=> .mk ⟨_,_,_,_,h1,h3,rfl⟩) ?_
 rintro _ ⟨s,t,a,b,g1,g2,rfl⟩
 exact k s t a b g1 g2
end
theorem leaf {P:Prop} (h:P:=by
  (try dsimp only[wy,ayi,Sum.elim_inl,Sum.elim_inr,ajo])
  (try intro hw)
  first
  |omega
  | ((try simp only [okB, okBL, anq, eh, cm, ub, List.length_nil, Int.natCast_add])
     (repeat' apply And.intro)<;>first|assumption|omega|trivial|(simp[need];done)|(simp[need];omega))):P:=h
section
variable {M:Nat} {T:List C6} (hT:ToksN M T) (hM:M<=60000)
include hT hM
theorem a2b {i:Int} (h:0<=i):Ok (fun b:Int=>b≠0->i+1<T.length) (aei T i):=by
 unfold aei ab8
 refine .bd (P:=ajo (fun _=>True) (fun _=>i+1<T.length)) (.it (fun p:Int=>0<=p/\p<=6) (fun p=>(6 - p).toNat) ?_ ⟨by omega,by omega⟩) (fun z hz=>by
  cases z with
  |next _=>exact .mk fun h=>absurd rfl h
  |done r=>exact .mk fun _=>hz)
 rintro p ⟨p1,p2⟩
 unfold xj
 refine .dec (fun hp=>?_) fun _=> .mk trivial
 simp only[List.length_cons,List.length_nil]at hp
 refine .bd (P:=ajo (fun _=>True) (fun z=>i+1<T.length/\∃r,z= .inr (.done r))) (.it (fun q:Int=>0<=q/\q<=4) (fun q=>(4 - q).toNat) ?_ ⟨by omega,by omega⟩) (fun z hz=>by
  cases z with
  |next _=>exact .mk (by simp only[Sum.elim_inl];rw[c9 om om];omega)
  |done r=>obtain⟨h,r,rfl⟩:=hz;exact .mk h)
 rintro q ⟨q1,q2⟩
 unfold xi
 have hrow:∀p:Nat,p<6->∃row,idx [[([124,124]:Bt)],[[38,38]],[[61,61],[33,61]],[[60],[60,61],[62],[62,61]],[[43],[45]],[[42],[47],[37]]] (p:Int)=some row/\row.length<=4:=fun p hp=>by
  match p with
  | 0| 1| 2| 3| 4| 5=>exact⟨_,rfl,by decide⟩
  |n+6=>omega
 obtain⟨row,hr,hl⟩:=hrow p.toNat om
 rw[Int.toNat_of_nonneg p1]at hr
 rw[hr]
 simp only[Option.bind_some]
 refine .dec (fun h4=>?_) fun _=> .mk trivial
 obtain⟨n,rfl⟩:∃n:Nat,q=n:=⟨q.toNat,by omega⟩
 rw[afz om]
 refine .isT (aar hT h _) (fun g=> .tt (.mk ⟨g,_,rfl⟩)) (.ff (.mk ?_))
 simp only[Sum.elim_inl]
 rw[c9 om om]
 omega
end
structure Good (M:Nat) (T:List C6) (R:ax) (m:Nat):Prop where
 expr:∀{i d:Int},0<=i->i<T.length->16 * (T.length - i)+9<=m->Ok (wy M T i) (R.1 T i d)
 level:∀{i d l:Int},0<=i->i<T.length->1<=l->l<=7->16 * (T.length - i)+9<=m+l->Ok (wy M T i) (R.2.1 T i d l)
 unary:∀{i d:Int},0<=i->i<T.length->16 * (T.length - i)+1<=m->Ok (wy M T i) (R.2.2.1 T i d)
 prim:∀{i d:Int},0<=i->i<T.length->16 * (T.length - i)<=m->Ok (wy M T i) (R.2.2.2.1 T i d)
 args:∀{i d:Int},0<=i->i<T.length->16 * (T.length - i)+10<=m->Ok (ayi M T i) (R.2.2.2.2 T i d)
theorem go {P:Prop} (h:P:=by
 repeat' first
 |exact leaf
 |simp(disch:=omega) only[c9]
 |refine Ok.tt ?_
 |refine Ok.ff ?_
 |(refine Ok.dec (fun _=>?_) (fun _=>?_)<;>try (exfalso;omega))
 |refine Ok.cond (fun _=>?_) (fun _=>?_)
 |refine Ok.syn ?_
 |refine Ok.fine ?_
 |refine Ok.mk ?_
 |refine Ok.app (by simp only[eh,cm,ub];omega) ?_
 |refine Ok.isT (aar hT om _) (fun _=>?_) ?_
 |refine Ok.isT (aka hT om) (fun _=>?_) ?_
 |refine Ok.tok hT om om (fun _ _ _ _=>?_)
 |refine Ok.made hT hM om om om om (fun _ _=>?_)
 |refine Ok.end hT hM om om (fun _=>?_)
 |refine Ok.typed hT hM om om (fun _ _ _ _ _ _=>?_)
 |refine Ok.node (hG.expr om om om) (fun _ _ _ _=>?_) (fun _ _ _ _ _ _ _ _=>?_)
 |refine Ok.node (hG.level om om om om om) (fun _ _ _ _=>?_) (fun _ _ _ _ _ _ _ _=>?_)
 |refine Ok.node (hG.unary om om om) (fun _ _ _ _=>?_) (fun _ _ _ _ _ _ _ _=>?_)
 |refine Ok.node (hG.prim om om om) (fun _ _ _ _=>?_) (fun _ _ _ _ _ _ _ _=>?_)
 |refine Ok.list (hG.args om om om) (fun _ _ _ _=>?_) (fun _ _ _ _ _ _ _ _=>?_)
 |refine Ok.node (ald hT hM om om) (fun _ _ _ _=>?_) (fun _ _ _ _ _ _ _ _=>?_)
 |refine Ok.node (amy hT hM om om) (fun _ _ _ _=>?_) (fun _ _ _ _ _ _ _ _=>?_)
 |refine Ok.node (aop hT hM om om) (fun _ _ _ _=>?_) (fun _ _ _ _ _ _ _ _=>?_)
 |refine Ok.node (atz hT hM om om) (fun _ _ _ _=>?_) (fun _ _ _ _ _ _ _ _=>?_)
 |refine Ok.node (aw9 hT hM om om) (fun _ _ _ _=>?_) (fun _ _ _ _ _ _ _ _=>?_)
 |refine Ok.node (hS.block om om om) (fun _ _ _ _=>?_) (fun _ _ _ _ _ _ _ _=>?_)
 |refine Ok.node (hS.stmt om om om) (fun _ _ _ _=>?_) (fun _ _ _ _ _ _ _ _=>?_)
 |refine Ok.node (hS.guard om om om) (fun _ _ _ _=>?_) (fun _ _ _ _ _ _ _ _=>?_)
 |refine Ok.list (at8 hT hM om om) (fun _ _ _ _=>?_) (fun _ _ _ _ _ _ _ _=>?_)
 |refine Ok.isT (avn hT om) (fun _=>?_) ?_):P:=h
section
variable {M:Nat} {T:List C6} (hT:ToksN M T) (hM:M<=60000) {R:ax} {m:Nat} (hG:Good M T R m)
include hT hM hG
theorem apy {i d:Int} (h:0<=i) (hi:i<T.length) (hm:16 * (T.length - i)+9<=m+1):Ok (wy M T i) (qm R T i d):=by
 have:=hT.len
 unfold qm
 exact go
theorem axr {i d l:Int} (h:0<=i) (hi:i<T.length) (h1:1<=l) (h7:l<=7) (hm:16 * (T.length - i)+9<=m+1+l):Ok (wy M T i) (zt R T i d l):=by
 have:=hT.len
 unfold zt ab3 ab0 ab2
 refine .dec (fun _=>go) fun _=>?_
 rw[c9 om om]
 refine Ok.node (hG.level h hi om om om) (fun _ _ _ _=>go) (fun n j w hw g1 g2 g3 g4=> .dec (fun _=>go) fun _=>?_)
 refine .bd (P:=ajo (fun p=>wy M T i (p.2,p.1,⟨-1,0⟩)) (wy M T i)) (.it (fun s:Int × B6=>i<s.1/\s.1<T.length/\okB M s.2/\(eh s.2:Int)+i<=s.1) (fun s=>(T.length - s.1).toNat) ?_ ⟨g1,g2,g3,g4⟩) (fun z hz=>by cases z<;>exact .mk hz)
 rintro⟨k,x⟩ ⟨q1,q2,q3,q4⟩
 dsimp only at q1 q2 q3 q4
 unfold xd ab1
 dsimp only
 refine .bd (a2b hT hM om) fun b hb=> .cond (fun e=>?_) fun _=> .mk fun _=>⟨q1,q2,q3,q4⟩
 have:=hb (by rw[beq_iff_eq]at e;omega)
 exact go
theorem aq4 {i d:Int} (h:0<=i) (hi:i<T.length) (hm:16 * (T.length - i)+1<=m+1) (b:Bool) (hb:b=true->i+1<T.length):Ok (wy M T i) (uf R T i d b):=by
 have:=hT.len
 unfold uf abz xc aby abv abx
 refine .cond (fun e=>?_) fun _=> .node (hG.prim h hi om) (fun _ _ _ _=>go) fun n j w hw g1 g2 g3 g4=> .dec (fun _=>go) fun _=>?_
 ·have:=hb e
  exact go
 refine .bd (P:=ajo (fun p=>wy M T i (p.2,p.1,⟨-1,0⟩)) (wy M T i)) (.it (fun s:Int × B6=>i<s.1/\s.1<T.length/\okB M s.2/\(eh s.2:Int)+i<=s.1) (fun s=>(T.length - s.1).toNat) ?_ ⟨g1,g2,g3,g4⟩) (fun z hz=>by cases z<;>exact .mk hz)
 rintro⟨k,x⟩ ⟨q1,q2,q3,q4⟩
 dsimp only at q1 q2 q3 q4
 unfold xa abw xb
 dsimp only
 exact go
theorem axg {i d:Int} (h:0<=i) (hi:i<T.length) (hm:16 * (T.length - i)+1<=m+1):Ok (wy M T i) (zs R T i d):=by
 unfold zs
 exact .dec (fun _=>go) fun _=> .isT (aar hT h _) (fun g=> .tt (aq4 hT hM hG h hi hm _ fun _=>g)) (.ff (.bd (aar hT h _) fun b hb=>aq4 hT hM hG h hi hm b hb))
theorem a0p {i d:Int} (h:0<=i) (hi:i<T.length) (hm:16 * (T.length - i)+10<=m+1):Ok (ayi M T i) (sj R T i d):=by
 have:=hT.len
 unfold sj
 refine .isT (aar hT h _) (fun _=>go) (.ff (.it (fun s:Int × List B6=>i<=s.1/\s.1<T.length/\okBL M s.2/\(cm s.2:Int)+i<=s.1) (fun s=>(T.length - s.1).toNat) ?_ ⟨by simp,hi,by simp[okBL],by simp[cm]⟩))
 rintro⟨k,x⟩ ⟨q1,q2,q3,q4⟩
 dsimp only at q1 q2 q3 q4
 unfold qf ux
 dsimp only
 exact go
theorem az3 {i d:Int} (h:0<=i) (hi:i<T.length) (hm:16 * (T.length - i)<=m+1):Ok (wy M T i) (vz R T i d):=by
 have:=hT.len
 unfold vz xv yb ya x0 xz xy xx xw wm
 refine .tok hT h hi fun t g1 _ g5=> .cond (fun e=>?_) fun _=>go
 have:=g5 (by rw[beq_iff_eq]at e;omega)
 rw[c9 (n:=i+1) om om]
 refine .made hT hM h hi om om fun a b=> .bd (P:=fun x=>okB M x/\eh x=1) (.it (fun s:Int × B6=>0<=s.1/\s.1<=M/\okB M s.2/\eh s.2=1) (fun s=>(M - s.1).toNat) ?_ ⟨by simp,by simp,by simp[okB,okBL,need],by simp[eh,cm]⟩) fun x hx=> .fine (.mk fun _=>⟨by simp only;omega,by simp only;omega,hx.1,by simp only[hx.2];omega⟩)
 rintro⟨k,x⟩ ⟨q1,q2,q3,q4⟩
 dsimp only at q1 q2 q3 q4
 unfold tu
 dsimp only
 obtain⟨n,rfl⟩:∃n:Nat,i=n:=⟨i.toNat,by omega⟩
 have hn:n<T.length:=by omega
 have ht:=hT.txt n hn
 rw[afz hn]
 simp only[Option.bind_some]
 refine .dec (fun hk=> .bd (ada q1 hk) fun _ _=> .mk ?_) fun _=> .mk ⟨q3,q4⟩
 rw[c9 (n:=k+1) om om]
 cases x
 simp only[okB,eh]at q3 q4 ⊢
 exact⟨⟨by omega,by omega,q3,q4⟩,by omega⟩
end
section
variable {M:Nat} {T:List C6} (hT:ToksN M T) (hM:M<=60000)
include hT hM
theorem good_at :∀(m n:Nat),m<n->Good M T (gn n) m:=by
 intro m
 induction m with
 |zero=>
  intro n hn
  exact⟨fun _ _ _=>by omega,fun _ _ _ _ _=>by omega,fun _ _ _=>by omega,fun _ _ _=>by omega,fun _ _ _=>by omega⟩
 |succ m ih=>
  intro n hn
  obtain⟨n,rfl⟩:∃k,n=k+1:=⟨n - 1,by omega⟩
  have hG:=ih n om
  exact⟨fun h hi hm=>apy hT hM hG h hi hm,fun h hi h1 h7 hm=>axr hT hM hG h hi h1 h7 hm,fun h hi hm=>axg hT hM hG h hi hm,fun h hi hm=>az3 hT hM hG h hi hm,fun h hi hm=>a0p hT hM hG h hi hm⟩
theorem ald {i d:Int} (h:0<=i) (hi:i<T.length):Ok (wy M T i) (n0 T i d):=
 (good_at hT hM 1000000 1048576 om).expr h hi (by have:=hT.len;omega)
end
end Go.Proofs.YtcndghapmoaidaaGreatDoor
set_option linter.unusedSectionVars false
set_option linter.unusedVariables false
set_option linter.unusedSimpArgs false
set_option maxRecDepth 100000
set_option maxHeartbeats 4000000
namespace Go.Proofs.YtcndghapmoaidaaGreatDoor
open Go Go.Cn
variable [Glob]
section
variable {M:Nat} {T:List C6} (hT:ToksN M T)
include hT
theorem avn {i:Int} (h:0<=i):Ok (fun b=>b=true->i+1<T.length) (ad9 T i):=by
 unfold ad9 s9
 exact .isT (aka hT h) (fun g=> .tt (.mk fun _=>g)) (.ff (.isT (aar hT h _) (fun g=> .tt (.mk fun _=>g)) (.ff (.isT (aar hT h _) (fun g=> .tt (.mk fun _=>g)) (.ff (.bd (aar hT h _) fun _ g=> .mk g))))))
theorem a1o {i:Int} (h:0<=i) (hi:i<T.length) (hM:M<=60000):Ok (fun _=>True) (aeg T i):=by
 have:=hT.len
 unfold aeg ot
 rw[c9 om om]
 exact .bd (aar hT h _) fun _ _=> .cond (fun _=> .mk trivial) fun _=> .bd (aar hT h _) fun _ _=> .cond (fun _=> .mk trivial) fun _=> .bd (aar hT h _) fun _ _=> .cond (fun _=> .mk trivial) fun _=> .bd (aka hT h) fun _ _=> .cond (fun _=> .bd (aka hT om) fun _ _=> .mk trivial) fun _=> .mk trivial
variable (hM:M<=60000)
include hM
theorem amy {i d:Int} (h:0<=i) (hi:i<T.length):Ok (wy M T i) (r8 T i d):=by
 have:=hT.len
 unfold r8 uw uv
 exact go
theorem aop {i d:Int} (h:0<=i) (hi:i<T.length):Ok (wy M T i) (act T i d):=by
 have:=hT.len
 unfold act aab
 exact go
theorem atz {i d:Int} (h:0<=i) (hi:i+1<T.length):Ok (wy M T i) (acr T i d):=by
 have:=hT.len
 unfold acr aaa z9
 exact go
theorem at8 {i:Int} (h:0<=i) (hi:i<T.length):Ok (ayi M T i) (acs T i):=by
 have:=hT.len
 unfold acs
 refine .isT (aar hT h _) (fun _=>go) (.ff (.it (fun s:Int × List B6=>i<=s.1/\s.1<T.length/\okBL M s.2/\(cm s.2:Int)+i<=s.1) (fun s=>(T.length - s.1).toNat) ?_ ⟨by simp,hi,by simp[okBL],by simp[cm]⟩))
 rintro⟨k,x⟩ ⟨q1,q2,q3,q4⟩
 dsimp only at q1 q2 q3 q4
 unfold vn vo
 dsimp only
 refine .isT (avn hT om) (fun _=> .ff (.bd (aar hT om _) fun _ _=>go)) (.tt go)
end
structure GoodS (M:Nat) (T:List C6) (R:co) (m:Nat):Prop where
 block:∀{i d:Int},0<=i->i<T.length->4 * (T.length - i)<=m->Ok (wy M T i) (R.1 T i d)
 stmt:∀{i d:Int},0<=i->i<T.length->4 * (T.length - i)+1<=m->Ok (wy M T i) (R.2.1 T i d)
 guard:∀{i d:Int},0<=i->i+1<T.length->4 * (T.length - i)<=m->Ok (wy M T i) (R.2.2 T i d)
section
variable {M:Nat} {T:List C6} (hT:ToksN M T) (hM:M<=60000) {R:co} {m:Nat} (hS:GoodS M T R m)
include hT hM hS
theorem auy {i d:Int} (h:0<=i) (hi:i+1<T.length) (hm:4 * (T.length - i)<=m+1):Ok (wy M T i) (wa R T i d):=by
 have:=hT.len
 unfold wa yf ye tw yd
 exact go
theorem ahc {i d:Int} (h:0<=i) (hi:i<T.length) (b:Bool) (hb:b=true->i+1<T.length):Ok (wy M T i) (nn R T i d b):=by
 have:=hT.len
 unfold nn uu qe ut
 refine .cond (fun e=>?_) fun _=>go
 have:=hb e
 exact go
theorem ahb {i d:Int} (h:0<=i) (hi:i<T.length) (hm:4 * (T.length - i)+1<=m+1) (b:Bool) (hb:b=true->i+1<T.length):Ok (wy M T i) (nm R T i d b):=by
 have:=hT.len
 unfold nm
 refine .cond (fun e=>?_) fun _=> .isT (aar hT h _) (fun g=> .tt (ahc hT hM hS h hi _ fun _=>g)) (.ff (.bd (aar hT h _) fun b hb=>ahc hT hM hS h hi b hb))
 have:=hb e
 exact go
theorem ap5 {i d:Int} (h:0<=i) (hi:i<T.length) (hm:4 * (T.length - i)+1<=m+1):Ok (wy M T i) (si R T i d):=by
 have:=hT.len
 unfold si
 exact .dec (fun _=>go) fun _=> .isT (aar hT h _) (fun _=> .tt go) (.ff (.isT (aar hT h _) (fun g=> .tt (ahb hT hM hS h hi hm _ fun _=>g)) (.ff (.bd (aar hT h _) fun b hb=>ahb hT hM hS h hi hm b hb))))
theorem ax3 {i d:Int} (h:0<=i) (hi:i<T.length) (hm:4 * (T.length - i)<=m+1):Ok (wy M T i) (zu R T i d):=by
 have:=hT.len
 unfold zu ab6
 refine .isT (aar hT h _) (fun g=> .ff ?_) (.tt go)
 rw[c9 om om]
 refine .bd (P:=ajo (fun p:Int × List B6=>p.1+1<T.length/\i<p.1/\okBL M p.2/\(cm p.2:Int)+i+1<=p.1) (wy M T i)) (.it (fun s:Int × List B6=>i<s.1/\s.1<T.length/\okBL M s.2/\(cm s.2:Int)+i+1<=s.1) (fun s=>(T.length - s.1).toNat) ?_ ⟨by simp only;omega,g,by simp[okBL],by simp[cm]⟩) (fun z hz=>?_)
 ·rintro⟨k,x⟩ ⟨q1,q2,q3,q4⟩
  dsimp only at q1 q2 q3 q4
  unfold xh uh ab7
  dsimp only
  refine .isT (aar hT om _) (fun _=> .ff (.mk ⟨by assumption,q1,q3,q4⟩)) (.tt (.bd (a1o hT om q2 hM) fun _ _=> .cond (fun _=>?_) fun _=>go))
  refine .node (aop hT hM om om) (fun _ _ _ _=>go) fun _ _ _ _ _ _ _ _=>go
 ·cases z with
  |done r=>exact .mk hz
  |next p=>
   obtain⟨g1,g2,g3,g4⟩:=hz
   dsimp only
   exact go
end
section
variable {M:Nat} {T:List C6} (hT:ToksN M T) (hM:M<=60000)
include hT hM
theorem a1x :∀(m n:Nat),m<n->GoodS M T (np n) m:=by
 intro m
 induction m with
 |zero=>
  intro n hn
  exact⟨fun _ _ _=>by omega,fun _ _ _=>by omega,fun _ _ _=>by omega⟩
 |succ m ih=>
  intro n hn
  obtain⟨n,rfl⟩:∃k,n=k+1:=⟨n - 1,by omega⟩
  have hS:=ih n om
  exact⟨fun h hi hm=>ax3 hT hM hS h hi hm,fun h hi hm=>ap5 hT hM hS h hi hm,fun h hi hm=>auy hT hM hS h hi hm⟩
theorem aw9 {i d:Int} (h:0<=i) (hi:i<T.length):Ok (wy M T i) (akg T i d):=
 (a1x hT hM 1000000 1048576 om).block h hi (by have:=hT.len;omega)
theorem amq {i a:Int} (b:Bool) (h:0<=i) (hi:i<=a) (ha:a<T.length):Ok (wy M T i) (ne T i b a):=by
 have:=hT.len
 unfold ne r6 r7 vr vq vp
 exact go
theorem a0b {i:Int} (h:0<=i) (hi:i<T.length):Ok (wy M T i) (su T i):=by
 have:=hT.len
 unfold su
 rw[c9 om om]
 exact .isT (aar hT h _) (fun g=> .tt (amq hT hM _ h om g)) (.ff (amq hT hM _ h om hi))
end
def memK (k:B6):Prop:=k.Kind=3\/(k.Kind=2/\k.Kids=[])
theorem leafM {P:Prop} (h:P:=by
 (try dsimp only[Sum.elim_inl,Sum.elim_inr])
 intro hw
 first
 |(exfalso;omega)
 |exact Or.inl rfl
 |exact Or.inr ⟨rfl,rfl⟩):P:=h
theorem goM {P:Prop} (h:P:=by
 repeat' first
 |exact leafM
 |simp(disch:=omega) only[c9]
 |refine Ok.tt ?_
 |refine Ok.ff ?_
 |(refine Ok.dec (fun _=>?_) (fun _=>?_)<;>try (exfalso;omega))
 |refine Ok.cond (fun _=>?_) (fun _=>?_)
 |refine Ok.syn ?_
 |refine Ok.fine ?_
 |refine Ok.mk ?_
 |refine Ok.app (by simp only[eh,cm,ub];omega) ?_
 |refine Ok.isT (aar hT om _) (fun _=>?_) ?_
 |refine Ok.isT (aka hT om) (fun _=>?_) ?_
 |refine Ok.tok hT om om (fun _ _ _ _=>?_)
 |refine Ok.made hT hM om om om om (fun _ _=>?_)
 |refine Ok.end hT hM om om (fun _=>?_)
 |refine Ok.typed hT hM om om (fun _ _ _ _ _ _=>?_)
 |refine Ok.node (hG.expr om om om) (fun _ _ _ _=>?_) (fun _ _ _ _ _ _ _ _=>?_)
 |refine Ok.node (hG.level om om om om om) (fun _ _ _ _=>?_) (fun _ _ _ _ _ _ _ _=>?_)
 |refine Ok.node (hG.unary om om om) (fun _ _ _ _=>?_) (fun _ _ _ _ _ _ _ _=>?_)
 |refine Ok.node (hG.prim om om om) (fun _ _ _ _=>?_) (fun _ _ _ _ _ _ _ _=>?_)
 |refine Ok.list (hG.args om om om) (fun _ _ _ _=>?_) (fun _ _ _ _ _ _ _ _=>?_)
 |refine Ok.node (ald hT hM om om) (fun _ _ _ _=>?_) (fun _ _ _ _ _ _ _ _=>?_)
 |refine Ok.node (amy hT hM om om) (fun _ _ _ _=>?_) (fun _ _ _ _ _ _ _ _=>?_)
 |refine Ok.node (aop hT hM om om) (fun _ _ _ _=>?_) (fun _ _ _ _ _ _ _ _=>?_)
 |refine Ok.node (atz hT hM om om) (fun _ _ _ _=>?_) (fun _ _ _ _ _ _ _ _=>?_)
 |refine Ok.node (aw9 hT hM om om) (fun _ _ _ _=>?_) (fun _ _ _ _ _ _ _ _=>?_)
 |refine Ok.node (hS.block om om om) (fun _ _ _ _=>?_) (fun _ _ _ _ _ _ _ _=>?_)
 |refine Ok.node (hS.stmt om om om) (fun _ _ _ _=>?_) (fun _ _ _ _ _ _ _ _=>?_)
 |refine Ok.node (hS.guard om om om) (fun _ _ _ _=>?_) (fun _ _ _ _ _ _ _ _=>?_)
 |refine Ok.list (at8 hT hM om om) (fun _ _ _ _=>?_) (fun _ _ _ _ _ _ _ _=>?_)
 |refine Ok.isT (avn hT om) (fun _=>?_) ?_):P:=h
section
variable {M:Nat} {T:List C6} (hT:ToksN M T) (hM:M<=60000)
include hT hM
theorem alb {i a:Int} (b:Bool) (h:0<=i) (hi:i<=a) (ha:a<T.length):Ok (fun r:B6 × Int × C7=>r.2.2.Place<0->memK r.1) (ne T i b a):=by
 have:=hT.len
 unfold ne r6 r7 vr vq vp
 exact goM
theorem axq {i:Int} (h:0<=i) (hi:i<T.length):Ok (fun r:B6 × Int × C7=>r.2.2.Place<0->memK r.1) (su T i):=by
 have:=hT.len
 unfold su
 rw[c9 om om]
 exact .isT (aar hT h _) (fun g=> .tt (alb hT hM _ h om g)) (.ff (alb hT hM _ h om hi))
theorem av4 {i:Int} (h:0<=i) (hi:i<T.length):Ok (fun r:B6 × Int × C7=>wy M T i r/\(r.2.2.Place<0->memK r.1)) (su T i):=by
 obtain⟨a,h1,h2⟩:=a0b hT hM h hi
 obtain⟨b,h3,h4⟩:=axq hT hM h hi
 rw[h1]at h3
 cases h3
 exact⟨a,h1,h2,h4⟩
end
end Go.Proofs.YtcndghapmoaidaaGreatDoor
set_option linter.unusedSectionVars false
set_option linter.unusedVariables false
set_option linter.unusedSimpArgs false
set_option maxRecDepth 100000
set_option maxHeartbeats 4000000
namespace Go.Proofs.YtcndghapmoaidaaGreatDoor
open Go Go.Cn
variable [Glob]
def CP (n:B6):Prop:=n.Kind=1/\(n.Text≠[]/\pq n.Text=some false)/\∀k∈n.Kids,memK k
abbrev atu (M:Nat) (T:List C6) (i:Int):B6 × Int × C7->Prop:=fun r=>r.2.2.Place<0->(i<r.2.1/\r.2.1<T.length/\okB M r.1/\(eh r.1:Int)+i<=r.2.1)/\CP r.1
section
variable {M:Nat} {T:List C6} (hT:ToksN M T) (hM:M<=60000)
include hT hM
theorem awb {i:Nat} {s j:Int} {l:List B6} (hi:i+1<T.length) (hk:T[i+1].Kind=1) (hs:s<T.length) (g1:i<j) (g2:j+1<T.length) (hl:okBL M l) (hn:(cm l:Int)+i+1<=j) (hm:∀k∈l,memK k):Ok (atu M T i) (xf T i s j l):=by
 have:=hT.len
 unfold xf xg ab5
 rw[c9 (n:=j+1) om om,c9 (n:=(i:Int)+1) om om]
 refine .made hT hM om om om om fun a b=>?_
 have e:idx T ((i:Int)+1)=some T[i+1]:=afz hi
 have h1:=hT.txt _ hi
 have h2:=hT.kept _ hi hk
 rw[e]
 simp only[Option.bind_some]
 refine .dec (fun _=> .tok hT om hs fun t _ _ _=> .tok hT om hs fun _ _ _ _=> .fine (.mk fun _=>⟨leaf,rfl,h2,hm⟩)) fun _=> .fine (.mk fun _=>⟨leaf,rfl,h2,hm⟩)
theorem ao8 {i:Nat} {s a:Int} (hi:i+1<T.length) (hk:T[i+1].Kind=1) (hs:s<T.length) (ha:i<a):Ok (atu M T i) (ug T i a s):=by
 have:=hT.len
 unfold ug
 refine .isT (aar hT om _) (fun g=> .ff ?_) (.tt (.syn (.mk fun h=>absurd h (by simp only;omega))))
 rw[c9 om om]
 refine .bd (P:=ajo (fun p:Int × List B6=>p.1+1<T.length/\i<p.1/\okBL M p.2/\(cm p.2:Int)+i+1<=p.1/\∀k∈p.2,memK k) (atu M T i)) (.it (fun s:Int × List B6=>i<s.1/\s.1<T.length/\okBL M s.2/\(cm s.2:Int)+i+1<=s.1/\∀k∈s.2,memK k) (fun s=>(T.length - s.1).toNat) ?_ ⟨by simp only;omega,g,by simp[okBL],by simp[cm];omega,fun _ h=>by cases h⟩) (fun z hz=>?_)
 ·rintro⟨k,x⟩ ⟨q1,q2,q3,q4,q5⟩
  dsimp only at q1 q2 q3 q4 q5
  unfold xe ab4
  dsimp only
  refine .isT (aar hT om _) (fun _=> .ff (.mk ⟨by assumption,q1,q3,q4,q5⟩)) (.tt (.bd (av4 hT hM om q2) ?_))
  rintro⟨nd,j,w⟩ ⟨r1,r2⟩
  dsimp only at r1 r2 ⊢
  refine .dec (fun hw=> .mk fun h=>?_) fun hw=>?_
  ·simp only at h
   omega
  ·obtain⟨t1,t2,t3,t4⟩:=r1 (by simp only;omega)
   have r2:=r2 om
   dsimp only at t1 t2 t3 t4
   refine .app (by simp only[cm];omega) (.mk ?_)
   simp only[Sum.elim_inl]
   refine⟨⟨by omega,t2,anq.2 ⟨q3,t3,trivial⟩,by simp only[ub,cm];omega,fun c hc=>?_⟩,by omega⟩
   rcases List.mem_append.1 hc with hc|hc
   ·exact q5 c hc
   ·obtain rfl:c=nd:=by simpa using hc
    exact r2
 ·cases z with
  |done r=>exact .mk hz
  |next p=>
   obtain⟨g1,g2,g3,g4,g5⟩:=hz
   exact awb hT hM hi hk hs g2 g1 g3 g4 g5
theorem az9 {n:Nat} (h:n<T.length):Ok (fun b=>b=true->n+1<T.length/\T[n].Kind=1) (lj T n):=by
 obtain⟨b,hb,h2⟩:=aka hT (show(0:Int)<=n by omega)
 refine⟨b,hb,fun e=>⟨by have:=h2 e;omega,?_⟩⟩
 unfold lj wk at hb
 rw[if_pos (by simpa using h),afz h]at hb
 simp only[Option.bind_some,Option.some.injEq]at hb
 subst hb
 simpa using e
theorem a18 {i:Nat} (hi:i+1<T.length):Ok (atu M T i) (aeh T i):=by
 have:=hT.len
 have bad:∀p:Int,0<=p->Ok (atu M T i) ((dh p).bind fun w=>some ((B6.mk 0 [] [] 0 0 0 0 0 []),0,w)):=fun p hp=> .syn (.mk fun h=>by simp only at h;omega)
 unfold aeh
 have e1:w64 ((i:Int)+1)=((i+1:Nat):Int):=by rw[c9 om om];rfl
 rw[e1,c9 (n:=(i:Int)+2) om om,c9 (n:=(i:Int)+2+1) om om,c9 (n:=(i:Int)+2+2) om om]
 exact .isT (aar hT om _) (fun _=> .ff (.isT (az9 hT hM hi) (fun g=> .ff (.isT (aar hT om _) (fun g2=> .tt (.isT (aka hT om) (fun _=> .ff (ao8 hT hM hi g.2 om om)) (.tt (bad _ om)))) (.ff (ao8 hT hM hi g.2 om om)))) (.tt (bad _ om)))) (.tt (bad _ om))
theorem axo {w:C7} (hw:w.Place≥0):Ok (fun _=>True) (zi T w):=by
 have:=hT.len
 have:=hT.pos
 unfold zi yc
 rw[c9 om om]
 exact .tok hT (by split<;>omega) (by split<;>omega) fun _ _ _ _=> .mk trivial
end
theorem aed {x:B6}:∀{l:List B6},x∈l->eh x<=cm l
 |n::l,h=>by
  simp only[cm]
  rcases List.mem_cons.1 h with rfl|h
  ·omega
  ·have:=aed h;omega
theorem a15 :∀(k:Nat) (x:B6),eh x<=k->k<=1048576->Ok (fun _=>True) (qg k x):=by
 intro k
 induction k with
 |zero=>intro x h;have:=o6 x;omega
 |succ k ih=>
  intro x hx hk
  show Ok _ (zw (qg k) x)
  have hl:=mb x.Kids
  have hs:=ko x
  unfold zw ab9
  refine .bd (P:=fun _=>True) (.it (fun s:Int × Int=>0<=s.2/\s.2<=x.Kids.length) (fun s=>(x.Kids.length - s.2).toNat) ?_ ⟨by simp,by simp⟩) fun _ _=> .mk trivial
  rintro⟨v,i⟩ ⟨h1,h2⟩
  dsimp only at h1 h2
  unfold xk
  refine .dec (fun h=>?_) fun _=> .mk trivial
  obtain⟨i,rfl⟩:∃n:Nat,i=n:=⟨i.toNat,by omega⟩
  have hi:i<x.Kids.length:=by simpa using h
  have:=aed (List.getElem_mem hi)
  dsimp only
  rw[afz hi,Option.bind_some]
  refine .bd (ih x.Kids[i] om om) fun _ _=> .mk ?_
  simp only[Sum.elim_inl]
  rw[c9 om om]
  omega
def ar1 (M:Nat) (l:List B6):Prop:=okBL M l/\cm l<=M/\∀c∈l,CP c
theorem File_ok {x:Bt} {M:Nat} (hM:x.length<=M) (hx:M<=60000):Ok (fun r:List B6 × B4=>r.2.Code=0->ar1 M r.1) (aav x):=by
 unfold aav
 refine .bd (Lex_ok om) ?_
 rintro⟨T,p,e⟩ hT
 refine .cond (fun h=> .mk fun h2=>by simp only at h2;simp[h2]at h) fun h=>?_
 have hT:=hT (by simpa using h)
 have hT:ToksN M T:=⟨by have:=hT.len;simp only at this;omega,hT.pos,hT.last,fun i h=>Nat.le_trans (hT.txt i h) hM,hT.kept⟩
 have hlen:=hT.len
 have hpos:=hT.pos
 refine .bd (P:=ajo (ar1 M) (fun r:List B6 × B4=>r.2.Code=0->ar1 M r.1)) (.it (fun s:Int × List B6=>0<=s.1/\s.1<T.length/\okBL M s.2/\(cm s.2:Int)<=s.1/\∀c∈s.2,CP c) (fun s=>(T.length - s.1).toNat) ?_ ⟨by simp,by simp only;omega,by simp[okBL],by simp[cm],fun _ h=>by cases h⟩) fun z hz=>?_
 ·rintro⟨k,l⟩ ⟨q1,q2,q3,q4,q5⟩
  dsimp only at q1 q2 q3 q4 q5
  unfold zj
  refine .tok hT q1 q2 fun t _ _ h5=> .cond (fun hk=>?_) fun _=> .mk ⟨q3,by simp only;omega,q5⟩
  have:=h5 (by simpa using hk)
  obtain⟨k,rfl⟩:∃n:Nat,k=n:=⟨k.toNat,by omega⟩
  refine .bd (a18 hT hx (i:=k) om) ?_
  rintro⟨n,j,w⟩ g
  refine .dec (fun hw=> .bd (axo hT hx hw) fun m _=>?_) fun hw=>?_
  ·exact .mk fun _=>⟨by simp[okBL],by simp[cm],fun _ h=>by cases h⟩
  ·obtain⟨⟨g1,g2,g3,g4⟩,g5⟩:=g (by simp only;omega)
   dsimp only at g1 g2 g3 g4 g5
   refine .app (by simp only[cm];omega) (.mk ⟨⟨by simp only;omega,g2,anq.2 ⟨q3,g3,trivial⟩,by simp only[ub,cm];omega,fun c hc=>?_⟩,by simp only;omega⟩)
   rcases List.mem_append.1 hc with hc|hc
   ·exact q5 c hc
   ·obtain rfl:c=n:=by simpa using hc
    exact g5
 ·cases z with
  |done r=>exact .mk hz
  |next l=>
   have hz:ar1 M l:=hz
   have hl:=mb l
   have hm:=hz.2.1
   dsimp only
   unfold adz ad0
   refine .bd (P:=ajo (fun _=>True) (fun r:List B6 × B4=>r.2.Code≠0)) (.it (fun i:Int=>0<=i/\i<=l.length) (fun i=>(l.length - i).toNat) ?_ ⟨by simp,by simp⟩) fun z h2=>?_
   ·rintro i ⟨h1,h2⟩
    unfold zk ad1
    refine .dec (fun h=>?_) fun _=> .mk trivial
    obtain⟨i,rfl⟩:∃n:Nat,i=n:=⟨i.toNat,by omega⟩
    have hi:i<l.length:=by omega
    have:=aed (List.getElem_mem hi)
    rw[afz hi,Option.bind_some]
    refine .bd (a15 1048576 l[i] om (Nat.le_refl _)) fun d _=> .dec (fun _=> .mk (by simp[ajo])) fun _=> .mk ?_
    simp only[Sum.elim_inl]
    rw[c9 om om]
    omega
   ·cases z with
    |next _=>exact .mk fun _=>hz
    |done r=>exact .mk fun h=>absurd h h2
end Go.Proofs.YtcndghapmoaidaaGreatDoor
set_option linter.unusedSectionVars false
set_option linter.unusedVariables false
set_option linter.unusedSimpArgs false
set_option maxRecDepth 100000
set_option maxHeartbeats 4000000
namespace Go.Proofs.YtcndghapmoaidaaGreatDoor
open Go Go.Cn
variable [Glob]
theorem cat_ok {a b:Bt} (h:a.length+b.length<=9000000000):Ok (fun s=>s=a++b) (cat a b):=by
 unfold cat
 rw[if_pos om]
 exact .mk rfl
theorem app_ok {α:Type} {n:Nat} {l m:List α} (h:(l.length+m.length) * n<=140737488355328) (h2:l.length+m.length<=140737488355328):Ok (fun s=>s=l++m) (app n l m):=⟨_,ze h h2,rfl⟩
theorem Ok.row {α σ ω:Type} {l:List α} {f:Int × σ->Option ((Int × σ) ⊕ ω)} {Q:ω->Prop} (I:Nat->σ->Prop) (hl:l.length<=1000000000)
  (h1:∀(i:Nat) (h:i<l.length) s,I i s->Ok (Sum.elim (fun p=>p.1=((i+1:Nat):Int)/\I (i+1) p.2) Q) (f ((i:Int),s))) (h2:∀(i:Nat) s,¬(i:Int)<l.length->I l.length s->Ok (Sum.elim (fun _=>False) Q) (f ((i:Int),s))) {s:σ} (hs:I 0 s):Ok Q (iter f (0,s)):=by
 refine .it (fun p:Int × σ=>∃i:Nat,p.1=i/\i<=l.length/\I i p.2) (fun p=>l.length - p.1.toNat) ?_ ⟨0,rfl,Nat.zero_le _,hs⟩
 rintro⟨_,s⟩ ⟨i,rfl,hi,hI⟩
 dsimp only at hI
 by_cases h:i<l.length
 ·refine(h1 i h s hI).weak fun z hz=>?_
  cases z with
  |inr w=>exact hz
  |inl p=>
   obtain⟨a,s'⟩:=p
   obtain⟨rfl,hp⟩:=hz
   simp only[Sum.elim_inl]
   exact⟨⟨i+1,rfl,h,hp⟩,by rw[Int.toNat_natCast,Int.toNat_natCast];omega⟩
 ·obtain rfl:i=l.length:=by omega
  refine(h2 _ s om hI).weak fun z hz=>?_
  cases z with
  |inr w=>exact hz
  |inl p=>exact absurd hz id
theorem agu {n:Nat} (h:n<=9000000000000):w64 ((n:Int)+1)=((n+1:Nat):Int):=by rw[c9 om om];rfl
theorem len_lt {α:Type} {l:List α} {i:Nat} (h:i<l.length):decide ((i:Int)<(l.length:Int))=true:=by simpa using h
theorem ri {M:Nat} {x:B6}:∀{l:List B6},okBL M l->x∈l->okB M x
 |n::l,h,hx=>by
  simp only[okBL]at h
  rcases List.mem_cons.1 hx with rfl|hx
  ·exact h.1
  ·exact ri h.2 hx
theorem akt (M:Nat) (x:B6):okB M x=((x.Text.length<=M/\x.Type_.length<=M)/\okBL M x.Kids/\need x.Kind<=x.Kids.length):=by cases x;simp[okB]
theorem afy {M:Nat} {x:B6} (h:okB M x):(x.Text.length<=M/\x.Type_.length<=M)/\okBL M x.Kids:=by
 rw[akt]at h
 exact⟨h.1,h.2.1⟩
end Go.Proofs.YtcndghapmoaidaaGreatDoor
set_option linter.unusedSectionVars false
set_option linter.unusedVariables false
set_option linter.unusedSimpArgs false
set_option maxRecDepth 100000
set_option maxHeartbeats 4000000
namespace Go.Proofs.YtcndghapmoaidaaGreatDoor
open Go Go.Cn
variable [Glob]
def TabP (n:Int) (l:List B0):Prop:=(l.length:Int)<=n/\∀e∈l,e.Kind=1->e.Id≠[]/\pq e.Id=some false
theorem TabP.app {N:Int} {l m:List B0} {k:Nat} (h:TabP N l) (h1:m.length<=k) (h2:∀e∈m,e.Kind=1->e.Id≠[]/\pq e.Id=some false):TabP (N+k) (l++m):=by
 refine⟨?_,fun e he=>?_⟩
 ·have:=h.1
  rw[List.length_append]
  omega
 ·rcases List.mem_append.1 he with he|he
  ·exact h.2 e he
  ·exact h2 e he
end Go.Proofs.YtcndghapmoaidaaGreatDoor
set_option linter.unusedSectionVars false
set_option linter.unusedVariables false
namespace Go.Proofs.YtcndghapmoaidaaGreatDoor
open Go Go.Cn
structure Swo {α:Type} (lt:α->α->Bool):Prop where
 asym:∀{x y},lt x y=true->lt y x=false
 ntr:∀{x y z},lt x y=false->lt y z=false->lt x z=false
section
variable {α:Type} {lt:α->α->Bool}
theorem Swo.irr (h:Swo lt) (x:α):lt x x=false:=by
 cases hx:lt x x with
 |false=>rfl
 |true=>rw[h.asym hx]at hx;cases hx
theorem Swo.lt_le (h:Swo lt) {x y z:α} (h1:lt x y=true) (h2:lt z y=false):lt x z=true:=by
 cases hx:lt x z with
 |true=>rfl
 |false=>rw[h.ntr hx h2]at h1;cases h1
theorem Swo.le_lt (h:Swo lt) {x y z:α} (h1:lt y x=false) (h2:lt y z=true):lt x z=true:=by
 cases hx:lt x z with
 |true=>rfl
 |false=>rw[h.ntr h1 hx]at h2;cases h2
def eqv (lt:α->α->Bool) (k x:α):Bool:= !lt k x&& !lt x k
abbrev Srt (lt:α->α->Bool) (L:List α):Prop:=L.Pairwise fun x y=>lt y x=false
structure D6 (lt:α->α->Bool) (X Z:List α):Prop where
 perm:X.Perm Z
 cls:∀k,X.filter (eqv lt k)=Z.filter (eqv lt k)
theorem D6.refl (X:List α):D6 lt X X:=⟨.refl _,fun _=>rfl⟩
theorem D6.trans {X Y Z:List α} (h:D6 lt X Y) (k:D6 lt Y Z):D6 lt X Z:=⟨h.perm.trans k.perm,fun x=>(h.cls x).trans (k.cls x)⟩
theorem D6.symm {X Y:List α} (h:D6 lt X Y):D6 lt Y X:=⟨h.perm.symm,fun x=>(h.cls x).symm⟩
theorem D6.app {X Y X' Y':List α} (h:D6 lt X X') (k:D6 lt Y Y'):D6 lt (X++Y) (X'++Y'):=⟨h.perm.append k.perm,fun x=>by rw[List.filter_append,List.filter_append,h.cls,k.cls]⟩
theorem D6.len {X Z:List α} (h:D6 lt X Z):Z.length=X.length:=h.perm.length_eq.symm
theorem D6.turn (ho:Swo lt) {X Y:List α} (h:∀x∈X,∀y∈Y,lt y x=true):D6 lt (X++Y) (Y++X):=by
  refine⟨List.perm_append_comm,fun k=>?_⟩
  rw[List.filter_append,List.filter_append]
  by_cases hx:X.filter (eqv lt k)=[]
  · rw[hx,List.append_nil];rfl
  · by_cases hy:Y.filter (eqv lt k)=[]
    · rw[hy,List.append_nil];rfl
    · exfalso
      obtain⟨x,hx⟩:=List.exists_mem_of_ne_nil _ hx
      obtain⟨y,hy⟩:=List.exists_mem_of_ne_nil _ hy
      rw[List.mem_filter]at hx hy
      unfold eqv at hx hy
      have h1:=h x hx.1 y hy.1
      simp only[Bool.and_eq_true,Bool.not_eq_true']at hx hy
      rw[ho.ntr hy.2.2 hx.2.1]at h1
      cases h1
theorem afw {X Y:List α}:Srt lt (X++Y)↔Srt lt X/\Srt lt Y/\∀x∈X,∀y∈Y,lt y x=false:=List.pairwise_append
theorem a12 (ho:Swo lt) (x:α):eqv lt x x=true:=by unfold eqv;rw[ho.irr];rfl
theorem D6.one (ho:Swo lt):∀{X Z:List α},Srt lt X->Srt lt Z->D6 lt X Z->X=Z
 | [],Z,_,_,h=>by have:=h.len;cases Z with|nil=>rfl|cons _ _=>simp at this
 |a::X,[],_,_,h=>by have:=h.len;simp at this
 |a::X,b::Z,h1,h2,h=>by
  have hb:b∈a::X:=h.perm.mem_iff.2 List.mem_cons_self
  have ha:a∈b::Z:=h.perm.mem_iff.1 List.mem_cons_self
  have hab:lt b a=false:=by
   rcases List.mem_cons.1 hb with rfl|hb
   ·exact ho.irr _
   ·exact(List.pairwise_cons.1 h1).1 _ hb
  have hba:lt a b=false:=by
   rcases List.mem_cons.1 ha with rfl|ha
   ·exact ho.irr _
   ·exact(List.pairwise_cons.1 h2).1 _ ha
  have e:=h.cls a
  have e2:eqv lt a b=true:=by unfold eqv;rw[hab,hba];rfl
  rw[List.filter_cons_of_pos (a12 ho a),List.filter_cons_of_pos e2]at e
  obtain rfl:a=b:=(List.cons.inj e).1
  congr 1
  refine D6.one ho (List.pairwise_cons.1 h1).2 (List.pairwise_cons.1 h2).2 ⟨(List.perm_cons a).1 h.perm,fun k=>?_⟩
  have:=h.cls k
  by_cases hk:eqv lt k a=true
  ·rw[List.filter_cons_of_pos hk,List.filter_cons_of_pos hk]at this
   exact(List.cons.inj this).2
  ·rwa [List.filter_cons_of_neg hk,List.filter_cons_of_neg hk]at this
theorem ave (ho:Swo lt) {A B:List α} {x:α} (h:Srt lt (A++B)) (h1:∀a∈A.getLast?,lt x a=false) (h2:∀b∈B,lt x b=true):Srt lt (A++x::B):=by
 obtain⟨hA,hB,hAB⟩:=afw.1 h
 refine afw.2 ⟨hA,List.pairwise_cons.2 ⟨fun b hb=>ho.asym (h2 b hb),hB⟩,fun a ha y hy=>?_⟩
 rcases List.mem_cons.1 hy with rfl|hy
 ·rcases List.eq_nil_or_concat A with rfl|⟨A',c,rfl⟩
  ·cases ha
  ·have hc:=h1 c sm
   rw[List.concat_eq_append]at ha hA
   rcases List.mem_append.1 ha with ha|ha
   ·exact ho.ntr hc ((afw.1 hA).2.2 a ha c sm)
   ·rw[List.mem_singleton.1 ha];exact hc
 ·exact hAB a ha y hy
theorem D6.put (ho:Swo lt) {A B:List α} {x:α} (h2:∀b∈B,lt x b=true):D6 lt (A++B++[x]) (A++x::B):=by
 rw[List.append_assoc]
 refine(D6.refl A).app (D6.turn ho fun b hb y hy=>?_)
 rw[List.mem_singleton.1 hy]
 exact h2 b hb
inductive Blk (lt:α->α->Bool) (n:Nat):List α->Prop
 |short {L:List α}:L.length<=n->Srt lt L->Blk lt n L
 |more {X L:List α}:X.length=n->Srt lt X->Blk lt n L->Blk lt n (X++L)
theorem Blk.srt {n:Nat} {L:List α} (h:Blk lt n L) (hl:L.length<=n):Srt lt L:=by
 cases h with
 |short _ h=>exact h
 | @more X L hx hs _=>
  rw[List.length_append]at hl
  obtain rfl:L=[]:=List.eq_nil_of_length_eq_zero om
  rwa [List.append_nil]
theorem Blk.cut {n:Nat} {L:List α} (h:Blk lt n L) (hl:n<=L.length):∃X R,L=X++R/\X.length=n/\Srt lt X/\Blk lt n R:=by
 cases h with
 |short h hs=>exact⟨L,[],by simp,by omega,hs,.short sm .nil⟩
 | @more X L hx hs hb=>exact⟨X,L,rfl,hx,hs,hb⟩
inductive Full (lt:α->α->Bool) (n:Nat):List α->Prop
 |nil:Full lt n []
 |more {P X:List α}:Full lt n P->X.length=n->Srt lt X->Full lt n (P++X)
theorem Full.blk {n:Nat} {P R:List α} (h:Full lt n P) (hR:Blk lt n R):Blk lt n (P++R):=by
 induction h generalizing R with
 |nil=>exact hR
 |more _ h1 h2 ih=>
  rw[List.append_assoc]
  exact ih (.more h1 h2 hR)
end
end Go.Proofs.YtcndghapmoaidaaGreatDoor
set_option linter.unusedSectionVars false
set_option linter.unusedVariables false
set_option linter.unusedSimpArgs false
set_option maxRecDepth 100000
set_option maxHeartbeats 4000000
namespace Go.Proofs.YtcndghapmoaidaaGreatDoor
open Go Go.Cn
variable [Glob]
section
variable {α:Type} {A B:List α} {u x y:α} {i:Int}
theorem ajy (h:i=A.length):idx (A++x::B) i=some x:=by
 subst h
 exact ib sm
theorem ar9 (h:i=A.length+1):idx (A++u::x::B) i=some x:=by
 rw[List.append_cons]
 exact ajy (by simp[h])
theorem an4 (h:i=A.length):List.set (A++x::B) (Int.toNat i) y=A++y::B:=by
 subst h
 simp
theorem avf (h:i=A.length+1):List.set (A++u::x::B) (Int.toNat i) y=A++u::y::B:=by
 rw[List.append_cons,an4 (by simp[h]),← List.append_cons]
end
section
variable {lt:B8->B8->Bool} {c:B8->B8->Option Int} (ho:Swo lt) (hc:∀x y,∃n:Int,c x y=some n/\decide (n<0)=lt x y)
include ho hc
theorem aw0 :∀(n:Nat) (P S1 S2 Q:List B8) (x:B8),S1.length=n->P.length+n+S2.length+Q.length<=1000000000->Srt lt (S1++S2)->(∀b∈S2,lt x b=true)->
  ∃S,iter (fun s=>c7 P.length c s.1 s.2) (((P.length+n:Nat):Int),P++(S1++x::S2)++Q)=some (P++S++Q)/\Srt lt S/\D6 lt (S1++S2++[x]) S
 | 0,P,S1,S2,Q,x,hn,hl,hs,h2=>by
  obtain rfl:=List.eq_nil_of_length_eq_zero hn
  refine⟨x::S2,dj ?_,ave ho (A:=[]) hs (fun _ h=>by cases h) h2,D6.put ho (A:=[]) h2⟩
  unfold c7 d7
  rw[if_neg sm,if_neg sm]
  rfl
 |n+1,P,S1,S2,Q,x,hn,hl,hs,h2=>by
  obtain⟨S1,u,rfl⟩:∃S u,S1=S++[u]:=by
   rcases List.eq_nil_or_concat S1 with rfl|⟨S,u,rfl⟩
   ·simp at hn
   ·exact⟨S,u,List.concat_eq_append ..⟩
  have hn:S1.length=n:=by simpa using hn
  obtain⟨r,hr,hr2⟩:=hc x u
  have ed:P++(S1++[u]++x::S2)++Q=(P++S1)++u::x::(S2++Q):=by simp
  have e:c7 P.length c ((P.length+(n+1):Nat):Int) ((P++S1)++u::x::(S2++Q))=if lt x u=true then some (.inl (((P.length+n:Nat):Int),(P++S1)++x::u::(S2++Q)))else some (.inr ((P++S1)++u::x::(S2++Q))):=by
   unfold c7 d7
   rw[if_pos so,c9 om om,ar9 so,Option.bind_some,ajy so,Option.bind_some,hr,Option.bind_some,hr2]
   rw[Option.bind_some,Option.bind_some,Option.bind_some,avf so,ajy so,Option.bind_some,an4 so]
   split
   ·congr 3
    omega
   ·rfl
  rw[ed]
  by_cases hx:lt x u=true
  ·rw[if_pos hx]at e
   rw[g7 (s':=(((P.length+n:Nat):Int),(P++S1)++x::u::(S2++Q))) e]
   obtain⟨S,g1,g2,g3⟩:=aw0 n P S1 (u::S2) Q x hn so (by simpa using hs) (fun b hb=>by
    rcases List.mem_cons.1 hb with rfl|hb
    ·exact hx
    ·exact h2 b hb)
   refine⟨S,?_,g2,?_⟩
   ·rw[← g1];congr 1;simp
   ·have:S1++[u]++S2++[x]=S1++u::S2++[x]:=by simp
    rw[this]
    exact g3
  ·rw[if_neg hx]at e
   refine⟨S1++[u]++x::S2,?_,ave ho hs (fun a ha=>?_) h2,D6.put ho h2⟩
   ·rw[dj e];simp
   ·obtain rfl:u=a:=by simpa using ha
    exact Bool.eq_false_iff.2 hx
theorem awz :∀(R S P Q:List B8),P.length+S.length+R.length+Q.length<=1000000000->Srt lt S->
  ∃Z,iter (fun s=>cv ((P.length+S.length+R.length:Nat):Int) P.length c s.1 s.2) (((P.length+S.length:Nat):Int),P++(S++R)++Q)=some (P++Z++Q)/\Srt lt Z/\D6 lt (S++R) Z
 | [],S,P,Q,hl,hs=>by
  refine⟨S,dj ?_,hs,by rw[List.append_nil];exact .refl _⟩
  unfold cv
  rw[if_neg sm,List.append_nil]
 |x::R,S,P,Q,hl,hs=>by
  simp only[List.length_cons]at hl
  obtain⟨S',g1,g2,g3⟩:=aw0 ho hc S.length P S [] (R++Q) x rfl so (by simpa using hs) (fun _ h=>by cases h)
  have hS:=g3.len
  simp only[List.append_nil,List.length_append,List.length_cons,List.length_nil]at hS
  obtain⟨Z,k1,k2,k3⟩:=awz R S' P Q om g2
  refine⟨Z,?_,k2,?_⟩
  ·have e:cv ((P.length+S.length+(R.length+1):Nat):Int) P.length c ((P.length+S.length:Nat):Int) (P++(S++x::R)++Q)=some (.inl (((P.length+S'.length:Nat):Int),P++(S'++R)++Q)):=by
    unfold cv gt
    have e1:P++(S++x::R)++Q=P++(S++[x])++(R++Q):=by simp
    rw[if_pos so,e1,g1,Option.bind_some,c9 om om]
    congr 3
    ·omega
    ·simp
   rw[List.length_cons,g7 (s':=(((P.length+S'.length:Nat):Int),P++(S'++R)++Q)) e,← k1]
   congr 3
   funext s
   congr 1
   omega
  ·have e1:S++x::R=S++[]++[x]++R:=by simp
   rw[e1]
   exact(g3.app (.refl R)).trans k3
theorem amw {P X Q:List B8} {a b:Int} (ha:a=P.length) (hb:b=P.length+X.length) (hl:P.length+X.length+Q.length<=1000000000):
  ∃Z,er a b c (P++X++Q)=some (P++Z++Q)/\Srt lt Z/\D6 lt X Z:=by
 subst ha hb
 unfold er gv
 rw[c9 om om]
 cases X with
 |nil=>
  refine⟨[],?_,.nil,.refl _⟩
  rw[dj (o:=P++[]++Q) (by
   unfold cv
   rw[if_neg so])]
  rfl
 |cons x R=>
  simp only[List.length_cons]at hl
  obtain⟨Z,k1,k2,k3⟩:=awz ho hc R [x] P Q so sm
  refine⟨Z,?_,k2,k3⟩
  have e1:((P.length:Int)+((x::R).length:Nat))=((P.length+[x].length+R.length:Nat):Int):=by simp;omega
  have e2:((P.length:Int)+1)=((P.length+[x].length:Nat):Int):=by simp
  rw[e1,e2]
  exact(congrArg (fun z=>z.bind some) k1).trans rfl
end
theorem aty {c:B8->B8->Option Int}:∀(U V P M Q:List B8) (n i a b:Nat),U.length=V.length->n=i+U.length->a+i=P.length->b+i=P.length+U.length+M.length->P.length+U.length+M.length+V.length+Q.length<=1000000000->
  iter (fun s=>dn n b a s.1 s.2) ((i:Int),P++U++M++V++Q)=some (P++V++M++U++Q)
 | [],[],P,M,Q,n,i,a,b,h,hn,ha,hb,hl=>dj (by
  unfold dn
  simp only[List.length_nil]at hn
  rw[if_neg so])
 | [],_::_,P,M,Q,n,i,a,b,h,hn,ha,hb,hl=>by simp at h
 |_::_,[],P,M,Q,n,i,a,b,h,hn,ha,hb,hl=>by simp at h
 |u::U,v::V,P,M,Q,n,i,a,b,h,hn,ha,hb,hl=>by
  simp only[List.length_cons]at h hn hb hl
  have e:dn n b a (i:Int) (P++u::U++M++v::V++Q)=some (.inl (((i+1:Nat):Int),(P++[v])++U++(M++[u])++V++Q)):=by
   have e1:P++u::U++M++v::V++Q=P++u::(U++M++v::V++Q):=by simp
   have e2:∀w,P++w::(U++M++v::V++Q)=(P++w::(U++M))++v::(V++Q):=fun w=>by simp
   unfold dn
   rw[if_pos so,c9 (n:=(b:Int)+i) om om,c9 (n:=(a:Int)+i) om om,c9 om om,e1]
   rw[show idx (P++u::(U++M++v::V++Q)) ((b:Int)+i)=some v by rw[e2];exact ajy so]
   rw[Option.bind_some,ajy om,Option.bind_some,Option.bind_some,an4 om,e2,ajy so,Option.bind_some,an4 so]
   simp
  rw[g7 (s':=(((i+1:Nat):Int),(P++[v])++U++(M++[u])++V++Q)) e,aty (c:=c) U V (P++[v]) (M++[u]) Q n (i+1) a b om om so so so]
  simp
theorem avd {c:B8->B8->Option Int} {P U M V Q:List B8} {a b n:Int} (h:U.length=V.length) (hn:n=U.length) (ha:a=P.length) (hb:b=P.length+U.length+M.length) (hl:P.length+U.length+M.length+V.length+Q.length<=1000000000):
  eo a b n c (P++U++M++V++Q)=some (P++V++M++U++Q):=by
 subst hn ha hb
 unfold eo iz
 have:=aty (c:=c) U V P M Q U.length 0 P.length (P.length+U.length+M.length) h om om om hl
 exact(congrArg (fun z=>z.bind some) this).trans rfl
theorem aoi {c:B8->B8->Option Int}:∀(n:Nat) (P A B Q:List B8) (m:Nat),A.length+B.length<=n->A≠[]->B≠[]->m=P.length+A.length->P.length+A.length+B.length+Q.length<=1000000000->
  (iter (fun s=>dc m c s.1 s.2.1 s.2.2) ((A.length:Int),(B.length:Int),P++A++B++Q)).bind (fun p=>ij m c p.1 p.2)=some (P++B++A++Q)
 | 0,P,A,B,Q,m,hn,hA,hB,hm,hl=>absurd (List.eq_nil_of_length_eq_zero om) hA
 |n+1,P,A,B,Q,m,hn,hA,hB,hm,hl=>by
  have pA:=List.length_pos_iff.2 hA
  have pB:=List.length_pos_iff.2 hB
  rcases Nat.lt_trichotomy A.length B.length with h|h|h
  ·obtain⟨B1,B2,rfl,hB2⟩:∃B1 B2,B=B1++B2/\B2.length=A.length:=⟨B.take (B.length - A.length),B.drop (B.length - A.length),(List.take_append_drop ..).symm,by rw[List.length_drop];omega⟩
   rw[List.length_append]at *
   have sw:=avd (c:=c) (P:=P) (U:=A) (M:=B1) (V:=B2) (Q:=Q) (a:=(m:Int) - A.length) (b:=(m:Int)+((B1.length+B2.length:Nat):Int) - A.length) (n:=A.length) hB2.symm rfl om om om
   have e:dc m c (A.length:Int) ((B1.length+B2.length:Nat):Int) (P++A++(B1++B2)++Q)=some (.inl ((B2.length:Int),(B1.length:Int),P++B2++B1++(A++Q))):=by
    have e1:P++A++(B1++B2)++Q=P++A++B1++B2++Q:=by simp
    unfold dc
    rw[if_pos so,if_neg so,c9 (n:=(m:Int) - A.length) om om,c9 (n:=(m:Int)+((B1.length+B2.length:Nat):Int)) om om,c9 (n:=(m:Int)+((B1.length+B2.length:Nat):Int) - A.length) om om,e1,sw,Option.bind_some,c9 om om]
    congr 3
    ·omega
    ·congr 1
     ·omega
     ·simp
   rw[g7 (s':=((B2.length:Int),(B1.length:Int),P++B2++B1++(A++Q))) e]
   rw[aoi n P B2 B1 (A++Q) m om (fun h=>by rw[h]at hB2;simp at hB2;omega) (fun h'=>by rw[h']at h;simp at h;omega) om so]
   simp
  ·rw[dj (o:=((A.length:Int),P++A++B++Q)) (by
    unfold dc
    rw[if_neg (by simp[h])])]
   rw[Option.bind_some]
   unfold ij
   have sw:=avd (c:=c) (P:=P) (U:=A) (M:=[]) (V:=B) (Q:=Q) (a:=(m:Int) - A.length) (b:=(m:Int)) (n:=A.length) h rfl om so so
   simp only[List.append_nil]at sw
   rw[c9 om om]
   simp only[sw,Option.bind_some]
  ·obtain⟨A1,A2,rfl,hA1⟩:∃A1 A2,A=A1++A2/\A1.length=B.length:=⟨A.take B.length,A.drop B.length,(List.take_append_drop ..).symm,by rw[List.length_take];omega⟩
   rw[List.length_append]at *
   have sw:=avd (c:=c) (P:=P) (U:=A1) (M:=A2) (V:=B) (Q:=Q) (a:=(m:Int) - ((A1.length+A2.length:Nat):Int)) (b:=(m:Int)) (n:=B.length) hA1 om om om om
   have e:dc m c ((A1.length+A2.length:Nat):Int) (B.length:Int) (P++(A1++A2)++B++Q)=some (.inl ((A2.length:Int),(A1.length:Int),(P++B)++A2++A1++Q)):=by
    have e1:P++(A1++A2)++B++Q=P++A1++A2++B++Q:=by simp
    unfold dc
    rw[if_pos so,if_pos so,c9 (n:=(m:Int) - ((A1.length+A2.length:Nat):Int)) om om,e1,sw,Option.bind_some,c9 om om]
    congr 3
    ·omega
    ·congr 1
     omega
   rw[g7 (s':=((A2.length:Int),(A1.length:Int),(P++B)++A2++A1++Q)) e]
   rw[aoi n (P++B) A2 A1 Q m om (fun h'=>by rw[h']at h;simp at h;omega) (fun h=>by rw[h]at hA1;simp at hA1;omega) so so]
   simp
theorem turn_ok {c:B8->B8->Option Int} {P A B Q:List B8} {a m b:Int} (ha:a=P.length) (hm:m=P.length+A.length) (hb:b=P.length+A.length+B.length) (hA:A≠[]) (hB:B≠[]) (hl:P.length+A.length+B.length+Q.length<=1000000000):
  jh a m b c (P++A++B++Q)=some (P++B++A++Q):=by
 subst ha hb
 obtain⟨m,rfl⟩:∃k:Nat,m=k:=⟨m.toNat,by omega⟩
 unfold jh
 rw[c9 om om,c9 om om,show(m:Int) - P.length=A.length by omega,show(P.length:Int)+A.length+B.length - m=B.length by omega]
 exact aoi _ P A B Q m (Nat.le_refl _) hA hB om hl
end Go.Proofs.YtcndghapmoaidaaGreatDoor
set_option linter.unusedSectionVars false
set_option linter.unusedVariables false
set_option linter.unusedSimpArgs false
set_option maxRecDepth 100000
set_option maxHeartbeats 4000000
namespace Go.Proofs.YtcndghapmoaidaaGreatDoor
open Go Go.Cn
variable [Glob]
theorem al7 {i j:Nat} (h:i+j<=4000000000):w64 (Int.fdiv (IntKind.wrap .u64 (w64 ((i:Int)+j))) 2)=(((i+j) / 2:Nat):Int):=by
 rw[c9 (n:=(i:Int)+j) om om]
 have e:IntKind.wrap .u64 ((i:Int)+j)=(i:Int)+j:=by
  unfold IntKind.wrap
  have e1:(2:Int) ^ (IntKind.u64.bits)=18446744073709551616:=rfl
  have e3:IntKind.u64.signed=false:=rfl
  simp only[e1,e3,Bool.false_and]
  rw[if_neg sm]
  omega
 rw[e,Int.fdiv_eq_ediv_of_nonneg _ om,c9 om om]
 omega
theorem aof {f:Int × Int->Option ((Int × Int) ⊕ Int)} (t:Nat->Bool) (lo hi:Nat)
  (hf:∀i j:Nat,lo<=i->i<j->j<=hi->f ((i:Int),(j:Int))=some (.inl (if t ((i+j) / 2)=true then((((i+j) / 2+1:Nat):Int),(j:Int))else((i:Int),(((i+j) / 2:Nat):Int)))))
  (hd:∀i:Nat,f ((i:Int),(i:Int))=some (.inr (i:Int))) (mono:∀h h',lo<=h->h<=h'->h'<hi->t h'=true->t h=true):∀(n i j:Nat),j - i<=n->lo<=i->i<=j->j<=hi->(∀h,lo<=h->h<i->t h=true)->(∀h,j<=h->h<hi->t h=false)->
  ∃r:Nat,iter f ((i:Int),(j:Int))=some (r:Int)/\lo<=r/\r<=hi/\(∀h,lo<=h->h<r->t h=true)/\(∀h,r<=h->h<hi->t h=false)
 | 0,i,j,hn,h1,h2,h3,hT,hF=>by
  obtain rfl:i=j:=by omega
  exact⟨i,dj (hd i),h1,h3,hT,hF⟩
 |n+1,i,j,hn,h1,h2,h3,hT,hF=>by
  rcases Nat.lt_or_ge i j with h|h
  ·have e:=hf i j h1 h h3
   by_cases ht:t ((i+j) / 2)=true
   ·rw[if_pos ht]at e
    rw[g7 e]
    refine aof t lo hi hf hd mono n _ j om om om h3 (fun h' g1 g2=>?_) hF
    exact mono h' ((i+j) / 2) g1 om om ht
   ·rw[if_neg ht]at e
    rw[g7 e]
    refine aof t lo hi hf hd mono n i _ om h1 om om hT (fun h' g1 g2=>?_)
    cases hh:t h' with
    |false=>rfl
    |true=>exact absurd (mono _ h' om g1 g2 hh) ht
  ·obtain rfl:i=j:=by omega
   exact⟨i,dj (hd i),h1,h3,hT,hF⟩
theorem avp {α:Type} {P X R:List α} {i:Nat} (h:i<X.length):idx (P++X++R) ((P.length+i:Nat):Int)=some X[i]:=by
 refine ib ?_
 rw[List.append_assoc,List.getElem?_append_right om,Nat.add_sub_cancel_left,List.getElem?_append_left h,List.getElem?_eq_getElem h]
theorem ant {α:Type} {d P X R:List α} {i k:Nat} (hd:d=P++X++R) (h:i<X.length) (hk:k=P.length+i):idx d ((k:Nat):Int)=some X[i]:=by
 subst hd hk
 exact avp h
theorem aie {α:Type} {lt:α->α->Bool} (ho:Swo lt) {X:List α} (h:Srt lt X) {i j:Nat} (hij:i<=j) (hj:j<X.length):lt X[j] (X[i]'om)=false:=by
 rcases Nat.lt_or_eq_of_le hij with hij|rfl
 ·exact List.pairwise_iff_getElem.1 h i j om hj hij
 ·exact ho.irr _
theorem amr {α:Type} {X:List α} {n:Nat} {x:α} (h:x∈X.take n):∃i,∃h:i<X.length,i<n/\x=X[i]:=by
 obtain⟨i,hi,rfl⟩:=List.mem_iff_getElem.1 h
 rw[List.length_take]at hi
 exact⟨i,by omega,by omega,by rw[List.getElem_take]⟩
theorem ams {α:Type} {X:List α} {n:Nat} {x:α} (h:x∈X.drop n):∃i,∃h:i<X.length,n<=i/\x=X[i]:=by
 obtain⟨i,hi,rfl⟩:=List.mem_iff_getElem.1 h
 rw[List.length_drop]at hi
 exact⟨n+i,by omega,by omega,by rw[List.getElem_drop]⟩
section
variable {R:am}
theorem a2f :∀(Y A B:List B8) (x:B8) (k:Nat),k=A.length+Y.length->A.length+Y.length+B.length<=1000000000->
  iter (fun s=>dt R ((k+1:Nat):Int) s.1 s.2) ((A.length:Int),A++x::(Y++B))=some (A++Y++x::B)
 | [],A,B,x,k,hk,hl=>by
  rw[dj (o:=A++x::B) (by
   unfold dt
   rw[c9 om om,if_neg (by simp;simp at hk;omega)]
   rfl)]
  simp
 |y::Y,A,B,x,k,hk,hl=>by
  simp only[List.length_cons]at hk hl
  have e:dt R ((k+1:Nat):Int) A.length (A++x::(y::Y++B))=some (.inl (((A++[y]).length:Int),(A++[y])++x::(Y++B))):=by
   unfold dt
   rw[c9 (n:=((k+1:Nat):Int) - 1) om om,if_pos so,c9 om om,List.cons_append,ar9 om,Option.bind_some,ajy om,Option.bind_some,Option.bind_some,an4 om,ar9 om,Option.bind_some,avf om]
   simp
  rw[g7 (s':=(((A++[y]).length:Int),(A++[y])++x::(Y++B))) e,a2f Y (A++[y]) B x k so so]
  simp
theorem awn :∀(n:Nat) (X A B:List B8) (y:B8),X.length=n->A.length+X.length+B.length<=1000000000->
  iter (fun s=>dq R A.length s.1 s.2) (((A.length+n:Nat):Int),A++X++y::B)=some (A++y::(X++B))
 | 0,X,A,B,y,hn,hl=>by
  obtain rfl:=List.eq_nil_of_length_eq_zero hn
  rw[dj (o:=A++y::B) (by
   unfold dq
   rw[if_neg sm,List.append_nil])]
  rfl
 |n+1,X,A,B,y,hn,hl=>by
  obtain⟨X,x,rfl⟩:∃S u,X=S++[u]:=by
   rcases List.eq_nil_or_concat X with rfl|⟨S,u,rfl⟩
   ·simp at hn
   ·exact⟨S,u,List.concat_eq_append ..⟩
  have hn:X.length=n:=by simpa using hn
  simp only[List.length_append,List.length_cons,List.length_nil]at hl
  have e:dq R A.length ((A.length+(n+1):Nat):Int) (A++(X++[x])++y::B)=some (.inl (((A.length+n:Nat):Int),A++X++y::(x::B))):=by
   unfold dq
   have e1:A++(X++[x])++y::B=(A++X)++x::y::B:=by simp
   rw[if_pos so,c9 om om,e1,ajy so,Option.bind_some,ar9 so,Option.bind_some,Option.bind_some,avf so,ajy so,Option.bind_some,an4 so]
   congr 3
   omega
  rw[g7 (s':=(((A.length+n:Nat):Int),A++X++y::(x::B))) e,awn n X A (x::B) y hn so]
  simp
end
section
variable {lt:B8->B8->Bool} {c:B8->B8->Option Int} (ho:Swo lt) (hc:∀x y,∃n:Int,c x y=some n/\decide (n<0)=lt x y)
include ho hc
theorem sym_one {R:am} {P Y Q:List B8} {x:B8} (hl:P.length+1+Y.length+Q.length<=1000000000) (hY:Srt lt Y):
  ∃Z,(iter (fun s=>dr R (P++[x]++Y++Q) P.length c s.1 s.2) (((P.length+1:Nat):Int),((P.length+1+Y.length:Nat):Int))).bind (fun p=>gq R P.length (P++[x]++Y++Q) p)=some (P++Z++Q)/\Srt lt Z/\D6 lt ([x]++Y) Z:=by
 obtain⟨r,h1,h2,h3,h4,h5⟩:=aof (f:=fun s=>dr R (P++[x]++Y++Q) P.length c s.1 s.2) (fun h=>lt (Y.getD (h - (P.length+1)) x) x) (P.length+1) (P.length+1+Y.length) (fun i j g1 g2 g3=>by
   dsimp only
   unfold dr jk
   rw[al7 om,if_pos (by simpa using g2)]
   have hk:(i+j) / 2 - (P.length+1)<Y.length:=by omega
   have e:idx (P++[x]++Y++Q) (((i+j) / 2:Nat):Int)=some Y[(i+j) / 2 - (P.length+1)]:=ant (P:=P++[x]) rfl hk so
   have e2:idx (P++[x]++Y++Q) P.length=some x:=by
    have:=avp (P:=P) (X:=[x]) (R:=Y++Q) (i:=0) sm
    simpa using this
   obtain⟨n,hn,hn2⟩:=hc Y[(i+j) / 2 - (P.length+1)] x
   rw[e,Option.bind_some,e2,Option.bind_some,hn,Option.bind_some,hn2,List.getD_eq_getElem?_getD,List.getElem?_eq_getElem hk,Option.getD_some,c9 om om]
   split<;>rfl) (fun i=>by
   dsimp only
   unfold dr
   rw[if_neg sm]) (fun h h' g1 g2 g3 g4=>by
   try dsimp only at g4 ⊢
   rw[List.getD_eq_getElem?_getD,List.getElem?_eq_getElem om,Option.getD_some]at g4 ⊢
   exact ho.le_lt (aie ho hY (show h - (P.length+1)<=h' - (P.length+1)by omega) om) g4) Y.length (P.length+1) (P.length+1+Y.length) om om om om (fun _ _ _=>by omega) (fun _ _ _=>by omega)
 rw[h1,Option.bind_some]
 unfold gq jj
 obtain⟨Y1,Y2,e0,hY1⟩:∃Y1 Y2,Y=Y1++Y2/\Y1.length=r - (P.length+1):=⟨Y.take (r - (P.length+1)),Y.drop (r - (P.length+1)),(List.take_append_drop ..).symm,by rw[List.length_take];omega⟩
 have m1:∀y∈Y1,lt y x=true:=fun y hy=>by
  obtain⟨i,hi,rfl⟩:=List.mem_iff_getElem.1 hy
  have:=h4 (P.length+1+i) om om
  rw[Nat.add_sub_cancel_left,List.getD_eq_getElem?_getD,e0,List.getElem?_append_left hi,List.getElem?_eq_getElem hi]at this
  exact this
 have m2:∀y∈Y2,lt y x=false:=fun y hy=>by
  obtain⟨i,hi,rfl⟩:=List.mem_iff_getElem.1 hy
  have hy2:Y.length=Y1.length+Y2.length:=by rw[e0,List.length_append]
  have:=h5 (P.length+1+(Y1.length+i)) om om
  rw[Nat.add_sub_cancel_left,List.getD_eq_getElem?_getD,e0,List.getElem?_append_right om,Nat.add_sub_cancel_left,List.getElem?_eq_getElem hi]at this
  exact this
 subst e0
 rw[List.length_append]at *
 have g:=a2f (R:=R) Y1 P (Y2++Q) x (r - 1) om so
 rw[show r - 1+1=r by omega]at g
 refine⟨Y1++x::Y2,?_,?_,?_⟩
 ·have e1:P++[x]++(Y1++Y2)++Q=P++x::(Y1++(Y2++Q)):=by simp
  rw[e1]
  refine(congrArg (fun z=>z.bind some) g).trans ?_
  simp
 ·obtain⟨s1,s2,s3⟩:=afw.1 hY
  refine afw.2 ⟨s1,List.pairwise_cons.2 ⟨fun y hy=>m2 y hy,s2⟩,fun a ha y hy=>?_⟩
  rcases List.mem_cons.1 hy with rfl|hy
  ·exact ho.asym (m1 a ha)
  ·exact s3 a ha y hy
 ·have e1:[x]++(Y1++Y2)=[x]++Y1++Y2:=by simp
  have e2:Y1++x::Y2=Y1++[x]++Y2:=by simp
  rw[e1,e2]
  refine(D6.turn ho fun a ha y hy=>?_).app (.refl Y2)
  rw[List.mem_singleton.1 ha]
  exact m1 y hy
theorem a09 {R:am} {P X Q:List B8} {y:B8} (hl:P.length+1+X.length+Q.length<=1000000000) (hX:Srt lt X):
  ∃Z,(iter (fun s=>dp R (P++X++[y]++Q) ((P.length+X.length:Nat):Int) c s.1 s.2) ((P.length:Int),((P.length+X.length:Nat):Int))).bind (fun p=>gp R ((P.length+X.length:Nat):Int) (P++X++[y]++Q) p)=some (P++Z++Q)/\Srt lt Z/\D6 lt (X++[y]) Z:=by
 obtain⟨r,h1,h2,h3,h4,h5⟩:=aof (f:=fun s=>dp R (P++X++[y]++Q) ((P.length+X.length:Nat):Int) c s.1 s.2) (fun h=> !lt y (X.getD (h - P.length) y)) P.length (P.length+X.length) (fun i j g1 g2 g3=>by
   dsimp only
   unfold dp iy
   rw[al7 om,if_pos (by simpa using g2)]
   have hk:(i+j) / 2 - P.length<X.length:=by omega
   have e:idx (P++X++[y]++Q) (((i+j) / 2:Nat):Int)=some X[(i+j) / 2 - P.length]:=ant (P:=P) (R:=[y]++Q) sm hk om
   have e2:idx (P++X++[y]++Q) ((P.length+X.length:Nat):Int)=some y:=by
    have:=avp (P:=P++X) (X:=[y]) (R:=Q) (i:=0) sm
    simpa using this
   obtain⟨n,hn,hn2⟩:=hc y X[(i+j) / 2 - P.length]
   rw[e2,Option.bind_some,e,Option.bind_some,hn,Option.bind_some,hn2,List.getD_eq_getElem?_getD,List.getElem?_eq_getElem hk,Option.getD_some,c9 om om]
   split<;>rfl) (fun i=>by
   dsimp only
   unfold dp
   rw[if_neg sm]) (fun h h' g1 g2 g3 g4=>by
   try dsimp only at g4 ⊢
   rw[List.getD_eq_getElem?_getD,List.getElem?_eq_getElem om,Option.getD_some,Bool.not_eq_true']at g4 ⊢
   exact ho.ntr g4 (aie ho hX (show h - P.length<=h' - P.length by omega) om)) X.length P.length (P.length+X.length) om om om om (fun _ _ _=>by omega) (fun _ _ _=>by omega)
 rw[h1,Option.bind_some]
 unfold gp ji
 obtain⟨X1,X2,e0,hX1⟩:∃Y1 Y2,X=Y1++Y2/\Y1.length=r - P.length:=⟨X.take (r - P.length),X.drop (r - P.length),(List.take_append_drop ..).symm,by rw[List.length_take];omega⟩
 have m1:∀x∈X1,lt y x=false:=fun x hx=>by
  obtain⟨i,hi,rfl⟩:=List.mem_iff_getElem.1 hx
  have:=h4 (P.length+i) om om
  rw[Nat.add_sub_cancel_left,List.getD_eq_getElem?_getD,e0,List.getElem?_append_left hi,List.getElem?_eq_getElem hi]at this
  simpa using this
 have m2:∀x∈X2,lt y x=true:=fun x hx=>by
  obtain⟨i,hi,rfl⟩:=List.mem_iff_getElem.1 hx
  have hy2:X.length=X1.length+X2.length:=by rw[e0,List.length_append]
  have:=h5 (P.length+(X1.length+i)) om om
  rw[Nat.add_sub_cancel_left,List.getD_eq_getElem?_getD,e0,List.getElem?_append_right om,Nat.add_sub_cancel_left,List.getElem?_eq_getElem hi]at this
  simpa using this
 subst e0
 rw[List.length_append]at *
 have g:=awn (R:=R) X2.length X2 (P++X1) Q y rfl so
 refine⟨X1++y::X2,?_,ave ho hX (fun a ha=>m1 a (List.mem_of_getLast? ha)) m2,D6.put ho m2⟩
 have e1:P++(X1++X2)++[y]++Q=P++X1++X2++y::Q:=by simp
 have e2:((P++X1).length:Int)=r:=by simp;omega
 have e3:(((P++X1).length+X2.length:Nat):Int)=((P.length+(X1.length+X2.length):Nat):Int):=by simp;omega
 rw[e2,e3]at g
 rw[e1]
 refine(congrArg (fun z=>z.bind some) g).trans ?_
 simp
end
end Go.Proofs.YtcndghapmoaidaaGreatDoor
set_option linter.unusedSectionVars false
set_option linter.unusedVariables false
set_option linter.unusedSimpArgs false
set_option maxRecDepth 100000
set_option maxHeartbeats 4000000
namespace Go.Proofs.YtcndghapmoaidaaGreatDoor
open Go Go.Cn
variable [Glob]
section
variable {lt:B8->B8->Bool} {c:B8->B8->Option Int} (ho:Swo lt) (hc:∀x y,∃n:Int,c x y=some n/\decide (n<0)=lt x y)
include ho hc
theorem sym_cut {R:am} {P X Y Q:List B8} {a m b:Nat} (ha:a=P.length) (hm:m=a+X.length) (hb:b=m+Y.length) (hl:b+Q.length<=1000000000) (hX:Srt lt X) (hY:Srt lt Y) {lo hi:Nat}
  (hlo:if m>(a+b) / 2 then lo=(a+b) / 2+m - b/\hi=(a+b) / 2 else lo=a/\hi=m) (h2:a+2<=b):
  ∃s X1 X2 Y1 Y2,iter (fun s=>dm R (P++X++Y++Q) a b m c s.1 s.2) ((lo:Int),(hi:Int))=some ((s:Nat):Int)/\X=X1++X2/\Y=Y1++Y2/\s=a+X1.length/\s+Y1.length=(a+b) / 2/\
   (∀x∈X1,∀y∈Y2,lt y x=false)/\(∀x∈X2,∀y∈Y1,lt y x=true):=by
 have f1:a<=lo/\lo<=hi/\hi<=m/\hi<=(a+b) / 2:=by split at hlo<;>omega
 obtain⟨z,hz⟩:∃z,z∈X++Y:=List.exists_mem_of_ne_nil _ (fun h=>by have:=congrArg List.length h;rw[List.length_append,List.length_nil]at this;omega)
 have gx:∀i,(h0:a<=i)->(h:i<m)->idx (P++X++Y++Q) ((i:Nat):Int)=some (X[i - a]'om):=fun i h1 h=>ant (P:=P) (R:=Y++Q) sm om om
 have gy:∀i,(h0:m<=i)->(h:i<b)->idx (P++X++Y++Q) ((i:Nat):Int)=some (Y[i - m]'om):=fun i h1 h=>ant (P:=P++X) rfl om so
 have dx:∀i,(h0:a<=i)->(h:i<m)->X.getD (i - a) z=X[i - a]'om:=fun i h1 h=>by rw[List.getD_eq_getElem?_getD,List.getElem?_eq_getElem om,Option.getD_some]
 have dy:∀i,(h0:m<=i)->(h:i<b)->Y.getD (i - m) z=Y[i - m]'om:=fun i h1 h=>by rw[List.getD_eq_getElem?_getD,List.getElem?_eq_getElem om,Option.getD_some]
 have pc:∀i,lo<=i->i<hi->m<=(a+b) / 2+m - 1 - i/\(a+b) / 2+m - 1 - i<b:=fun i h1 h2=>by split at hlo<;>omega
 obtain⟨s,h1,h3,h4,h5,h6⟩:=aof (f:=fun s=>dm R (P++X++Y++Q) a b m c s.1 s.2) (fun i=> !lt (Y.getD ((a+b) / 2+m - 1 - i - m) z) (X.getD (i - a) z)) lo hi (fun i j g1 g2 g3=>by
   dsimp only
   unfold dm ix
   have p:=pc ((i+j) / 2) om om
   rw[al7 (i:=a) om,al7 (i:=i) om,if_pos (by simpa using g2),c9 (n:=(((a+b) / 2:Nat):Int)+m) om om,c9 (n:=(((a+b) / 2:Nat):Int)+m - 1) om om,c9 (n:=(((a+b) / 2:Nat):Int)+m - 1 - (((i+j) / 2:Nat):Int)) om om]
   rw[show(((a+b) / 2:Nat):Int)+m - 1 - (((i+j) / 2:Nat):Int)=(((a+b) / 2+m - 1 - (i+j) / 2:Nat):Int)by omega,gy _ p.1 p.2,Option.bind_some,gx _ om om,Option.bind_some,dx _ om om,dy _ p.1 p.2]
   obtain⟨n,hn,hn2⟩:=hc (Y[(a+b) / 2+m - 1 - (i+j) / 2 - m]'om) (X[(i+j) / 2 - a]'om)
   rw[hn,Option.bind_some,hn2,c9 om om]
   split<;>rfl) (fun i=>by
   dsimp only
   unfold dm
   rw[if_neg sm]) (fun h h' g1 g2 g3 g4=>by
   have p:=pc h om om
   have p':=pc h' om om
   try dsimp only at g4 ⊢
   rw[dx _ om om,dy _ p'.1 p'.2,Bool.not_eq_true']at g4
   rw[dx _ om om,dy _ p.1 p.2,Bool.not_eq_true']
   exact ho.ntr (ho.ntr (aie ho hY (show(a+b) / 2+m - 1 - h' - m<=(a+b) / 2+m - 1 - h - m by omega) om) g4) (aie ho hX (show h - a<=h' - a by omega) om)) (hi - lo) lo hi om om om om (fun _ _ _=>by omega) (fun _ _ _=>by omega)
 have hs:s<=m/\a<=s/\s<=(a+b) / 2/\(a+b) / 2+m - s<=b:=by split at hlo<;>omega
 refine⟨s,X.take (s - a),X.drop (s - a),Y.take ((a+b) / 2 - s),Y.drop ((a+b) / 2 - s),h1,(List.take_append_drop ..).symm,(List.take_append_drop ..).symm,by rw[List.length_take];omega,by rw[List.length_take];omega,fun x hx y hy=>?_,fun x hx y hy=>?_⟩
 ·obtain⟨i,hi',hin,rfl⟩:=amr hx
  obtain⟨j,hj,hjn,rfl⟩:=ams hy
  have hs0:lo<s:=by
   rcases Nat.lt_or_eq_of_le h3 with h|rfl
   ·exact h
   ·exfalso
    split at hlo<;>omega
  have t:=h5 (s - 1) om om
  have p:=pc (s - 1) om om
  try dsimp only at t
  rw[dx _ om om,dy _ p.1 p.2,Bool.not_eq_true']at t
  exact ho.ntr (ho.ntr (aie ho hY (show(a+b) / 2+m - 1 - (s - 1) - m<=j by omega) hj) t) (aie ho hX (show i<=s - 1 - a by omega) om)
 ·obtain⟨i,hi',hin,rfl⟩:=ams hx
  obtain⟨j,hj,hjn,rfl⟩:=amr hy
  have hs0:s<hi:=by
   rcases Nat.lt_or_eq_of_le h4 with h|rfl
   ·exact h
   ·exfalso
    split at hlo<;>omega
  have t:=h6 s om hs0
  have p:=pc s om hs0
  try dsimp only at t
  rw[dx _ om om,dy _ p.1 p.2,Bool.not_eq_false']at t
  exact ho.le_lt (aie ho hY (show j<=(a+b) / 2+m - 1 - s - m by omega) om) (ho.lt_le t (aie ho hX (show s - a<=i by omega) hi'))
theorem awe :∀(k:Nat) (P X Y Q:List B8) (a m b:Nat),X.length+Y.length<=k->X≠[]->Y≠[]->a=P.length->m=a+X.length->b=m+Y.length->b+Q.length<=1000000000->Srt lt X->Srt lt Y->
  ∃Z,cj k a m b c (P++X++Y++Q)=some (P++Z++Q)/\Srt lt Z/\D6 lt (X++Y) Z
 | 0,P,X,Y,Q,a,m,b,hk,hX0,hY0,ha,hm,hb,hl,hX,hY=>absurd (List.eq_nil_of_length_eq_zero om) hX0
 |k+1,P,X,Y,Q,a,m,b,hk,hX0,hY0,ha,hm,hb,hl,hX,hY=>by
  have pX:=List.length_pos_iff.2 hX0
  have pY:=List.length_pos_iff.2 hY0
  show ∃Z,g8 (cj k) a m b c (P++X++Y++Q)=some (P++Z++Q)/\Srt lt Z/\D6 lt (X++Y) Z
  unfold g8
  rw[c9 (n:=(m:Int) - a) om om,c9 (n:=(b:Int) - m) om om]
  by_cases h1:X.length=1
  ·obtain⟨x,rfl⟩:=List.length_eq_one_iff.1 h1
   rw[if_pos (by simp at hm ⊢;omega)]
   have:=sym_one ho hc (R:=cj k) (P:=P) (Y:=Y) (Q:=Q) (x:=x) (by simp at hm;omega) hY
   simp only[List.length_cons,List.length_nil]at hm
   rw[show P.length+1=m by omega,show m+Y.length=b by omega,← ha]at this
   exact this
  by_cases h2:Y.length=1
  ·obtain⟨y,rfl⟩:=List.length_eq_one_iff.1 h2
   simp only[List.length_cons,List.length_nil]at hb
   rw[if_neg so,if_pos so]
   have:=a09 ho hc (R:=cj k) (P:=P) (X:=X) (Q:=Q) (y:=y) om hX
   rw[show P.length+X.length=m by omega,← ha]at this
   exact this
  rw[if_neg so,if_neg so,al7 om]
  have hq:(a+b) / 2<=b/\a+1<=(a+b) / 2/\(a+b) / 2+1<=b:=by omega
  have cut:∀lo hi:Nat,(if m>(a+b) / 2 then lo=(a+b) / 2+m - b/\hi=(a+b) / 2 else lo=a/\hi=m)->∃Z,e7 (cj k) (P++X++Y++Q) a b m c lo hi=some (P++Z++Q)/\Srt lt Z/\D6 lt (X++Y) Z:=fun lo hi hlo=>by
   obtain⟨s,X1,X2,Y1,Y2,g1,rfl,rfl,g2,g3,g4,g5⟩:=sym_cut ho hc (R:=cj k) ha hm hb hl hX hY hlo om
   simp only[List.length_append]at hk hm hb pX pY h1 h2
   obtain⟨sX1,sX2,sX⟩:=afw.1 hX
   obtain⟨sY1,sY2,sY⟩:=afw.1 hY
   unfold e7
   rw[g1,Option.bind_some]
   generalize hq':(a+b) / 2=q at *
   have eq1:w64 (Int.fdiv (IntKind.wrap .u64 (w64 ((a:Int)+b))) 2)=(q:Int):=by rw[al7 om,hq']
   have eq2:w64 (w64 ((q:Int)+m) - s)=((q+m - s:Nat):Int):=by rw[c9 (n:=(q:Int)+m) om om,c9 om om];omega
   have last:∀Z1,Srt lt Z1->D6 lt (X1++Y1) Z1->∃Z,fc (cj k) a b m s c (P++Z1++X2++Y2++Q)=some (P++Z++Q)/\Srt lt Z/\D6 lt (X1++X2++(Y1++Y2)) Z:=fun Z1 w1 w2=>by
    have hZ1:=w2.len
    rw[List.length_append]at hZ1
    have fin:∀Z2,Srt lt Z2->D6 lt (X2++Y2) Z2->Srt lt (Z1++Z2)/\D6 lt (X1++X2++(Y1++Y2)) (Z1++Z2):=fun Z2 v1 v2=>by
     refine⟨afw.2 ⟨w1,v1,fun x hx y hy=>?_⟩,?_⟩
     ·have hx:=w2.perm.mem_iff.2 hx
      have hy:=v2.perm.mem_iff.2 hy
      rcases List.mem_append.1 hx with hx|hx<;>rcases List.mem_append.1 hy with hy|hy
      ·exact sX x hx y hy
      ·exact g4 x hx y hy
      ·exact ho.asym (g5 y hy x hx)
      ·exact sY x hx y hy
     ·have t:D6 lt (X2++Y1) (Y1++X2):=D6.turn ho fun x hx y hy=>g5 x hx y hy
      have e1:X1++X2++(Y1++Y2)=X1++(X2++Y1)++Y2:=by simp
      have e2:X1++(Y1++X2)++Y2=(X1++Y1)++(X2++Y2):=by simp
      rw[e1]
      refine(((D6.refl X1).app t).app (.refl Y2)).trans ?_
      rw[e2]
      exact w2.app v2
    unfold fc f9
    rw[eq1,eq2]
    by_cases hX2:X2=[]
    ·subst hX2
     simp only[List.length_nil]at hm
     obtain⟨f1,f2⟩:=fin Y2 sY2 (.refl _)
     refine⟨Z1++Y2,?_,f1,f2⟩
     rw[if_neg so,if_neg sm]
     simp
    by_cases hY2:Y2=[]
    ·subst hY2
     simp only[List.length_nil]at hb
     obtain⟨f1,f2⟩:=fin X2 sX2 (by rw[List.append_nil];exact .refl _)
     refine⟨Z1++X2,?_,f1,f2⟩
     have:decide (((q+m - s:Nat):Int)<(b:Int))=false:=by simp;omega
     rw[this]
     simp
    have pX2:=List.length_pos_iff.2 hX2
    have pY2:=List.length_pos_iff.2 hY2
    rw[if_pos so,if_pos so]
    obtain⟨Z2,v1,v2,v3⟩:=awe k (P++Z1) X2 Y2 Q q (q+m - s) b om hX2 hY2 so om om hl sX2 sY2
    obtain⟨f1,f2⟩:=fin Z2 v2 v3
    refine⟨Z1++Z2,?_,f1,f2⟩
    rw[v1]
    simp
   have mid:∃Z,e8 (cj k) a s b c m (P++(X1++Y1)++X2++Y2++Q)=some (P++Z++Q)/\Srt lt Z/\D6 lt (X1++X2++(Y1++Y2)) Z:=by
    unfold e8 f7
    rw[eq1]
    by_cases hX1:X1=[]
    ·subst hX1
     simp only[List.length_nil]at g2
     rw[if_neg so,if_neg sm]
     exact last Y1 sY1 (.refl _)
    by_cases hY1:Y1=[]
    ·subst hY1
     simp only[List.length_nil]at g3
     have:decide ((s:Int)<(q:Int))=false:=by simp;omega
     simp only[this,Bool.false_eq_true,if_false,ite_self]
     have:=last X1 sX1 (by rw[List.append_nil];exact .refl _)
     rw[List.append_nil]
     exact this
    have pX1:=List.length_pos_iff.2 hX1
    have pY1:=List.length_pos_iff.2 hY1
    rw[if_pos so,if_pos so]
    obtain⟨Z1,v1,v2,v3⟩:=awe k P X1 Y1 (X2++Y2++Q) a s q om hX1 hY1 ha om om so sX1 sY1
    have e1:P++(X1++Y1)++X2++Y2++Q=P++X1++Y1++(X2++Y2++Q):=by simp
    rw[e1,v1,Option.bind_some]
    obtain⟨Z,u1,u2,u3⟩:=last Z1 v2 v3
    refine⟨Z,?_,u2,u3⟩
    rw[← u1]
    simp
   unfold iw f6
   rw[eq1,eq2]
   by_cases hX2:X2=[]
   ·subst hX2
    simp only[List.length_nil]at hm
    rw[if_neg so,if_neg sm]
    obtain⟨Z,u1,u2,u3⟩:=mid
    refine⟨Z,?_,u2,u3⟩
    rw[← u1]
    simp
   by_cases hY1:Y1=[]
   ·subst hY1
    simp only[List.length_nil]at g3
    have:decide ((m:Int)<((q+m - s:Nat):Int))=false:=by simp;omega
    simp only[this,Bool.false_eq_true,if_false,ite_self]
    obtain⟨Z,u1,u2,u3⟩:=mid
    refine⟨Z,?_,u2,u3⟩
    refine Eq.trans ?_ u1
    simp
   have pX2:=List.length_pos_iff.2 hX2
   have pY1:=List.length_pos_iff.2 hY1
   rw[if_pos so,if_pos so]
   have e1:P++(X1++X2)++(Y1++Y2)++Q=(P++X1)++X2++Y1++(Y2++Q):=by simp
   rw[e1,turn_ok so so so hX2 hY1 so,Option.bind_some]
   obtain⟨Z,u1,u2,u3⟩:=mid
   refine⟨Z,?_,u2,u3⟩
   rw[← u1]
   simp
  by_cases hmq:m>(a+b) / 2
  ·rw[if_pos (decide_eq_true om),c9 (n:=(((a+b) / 2:Nat):Int)+m) om om,c9 (n:=(((a+b) / 2:Nat):Int)+m - b) om om,show(((a+b) / 2:Nat):Int)+m - b=(((a+b) / 2+m - b:Nat):Int)by omega]
   exact cut _ _ (by rw[if_pos hmq];exact⟨rfl,rfl⟩)
  ·rw[if_neg (by rw[decide_eq_true_eq];omega)]
   exact cut _ _ (by rw[if_neg hmq];exact⟨rfl,rfl⟩)
end
end Go.Proofs.YtcndghapmoaidaaGreatDoor
set_option linter.unusedSectionVars false
set_option linter.unusedVariables false
set_option linter.unusedSimpArgs false
set_option maxRecDepth 100000
set_option maxHeartbeats 4000000
namespace Go.Proofs.YtcndghapmoaidaaGreatDoor
open Go Go.Cn
variable [Glob]
theorem a2t {α:Type} {R:List α} {n:Nat} (h:n<=R.length):∃X R',R=X++R'/\X.length=n:=⟨R.take n,R.drop n,(List.take_append_drop ..).symm,by rw[List.length_take];omega⟩
section
variable {lt:B8->B8->Bool} {c:B8->B8->Option Int} (ho:Swo lt) (hc:∀x y,∃n:Int,c x y=some n/\decide (n<0)=lt x y)
include ho hc
theorem axh :∀(k:Nat) (P R:List B8),R.length<=k->P.length+R.length<=1000000->Full lt 20 P->
  ∃P' R',iter (fun s=>da ((P.length+R.length:Nat):Int) c s.1 s.2.1 s.2.2) ((P.length:Int),((P.length+20:Nat):Int),P++R)=some ((P'.length:Int),P'++R')/\Full lt 20 P'/\D6 lt (P++R) (P'++R'):=by
 intro k
 induction k with
 |zero=>
  intro P R hk hl hP
  refine⟨P,R,dj ?_,hP,.refl _⟩
  unfold da
  rw[if_neg so]
 |succ k ih=>
  intro P R hk hl hP
  by_cases h:20<=R.length
  ·obtain⟨X,R',rfl,hX⟩:=a2t h
   rw[List.length_append]at *
   obtain⟨Z,g1,g2,g3⟩:=amw ho hc (P:=P) (X:=X) (Q:=R') (a:=(P.length:Int)) (b:=((P.length+20:Nat):Int)) rfl om om
   have hZ:=g3.len
   obtain⟨P',R2,k1,k2,k3⟩:=ih (P++Z) R' om so (.more hP om g2)
   refine⟨P',R2,?_,k2,?_⟩
   ·have e:da ((P.length+(X.length+R'.length):Nat):Int) c P.length ((P.length+20:Nat):Int) (P++(X++R'))=some (.inl (((P++Z).length:Int),(((P++Z).length+20:Nat):Int),(P++Z)++R')):=by
     unfold da
     rw[if_pos so,← List.append_assoc,g1,Option.bind_some,c9 om om]
     congr 3
     ·simp;omega
     ·congr 1
      simp;omega
    rw[g7 (s':=(((P++Z).length:Int),(((P++Z).length+20:Nat):Int),(P++Z)++R')) e,← k1]
    congr 3
    funext s
    congr 1
    simp
    omega
   ·rw[← List.append_assoc]
    exact(((D6.refl P).app g3).app (.refl R')).trans k3
  ·refine⟨P,R,dj ?_,hP,.refl _⟩
   unfold da
   rw[if_neg so]
theorem az4 {bs:Nat} (hb:1<=bs) (hb2:bs<=1000000):∀(k:Nat) (P R:List B8),R.length<=k->P.length+R.length<=1000000->Full lt (2 * bs) P->Blk lt bs R->
  ∃P' R',iter (fun s=>dl ((P.length+R.length:Nat):Int) bs c s.1 s.2.1 s.2.2) ((P.length:Int),((P.length+2 * bs:Nat):Int),P++R)=some ((P'.length:Int),P'++R')/\Full lt (2 * bs) P'/\Blk lt bs R'/\R'.length<2 * bs/\D6 lt (P++R) (P'++R'):=by
 intro k
 induction k with
 |zero=>
  intro P R hk hl hP hR
  refine⟨P,R,dj ?_,hP,hR,by omega,.refl _⟩
  unfold dl
  rw[if_neg so]
 |succ k ih=>
  intro P R hk hl hP hR
  by_cases h:2 * bs<=R.length
  ·obtain⟨X,R1,rfl,hX,sX,hR1⟩:=hR.cut om
   rw[List.length_append]at h
   obtain⟨Y,R2,rfl,hY,sY,hR2⟩:=hR1.cut om
   simp only[List.length_append]at *
   obtain⟨Z,g1,g2,g3⟩:=awe ho hc 1048576 P X Y R2 P.length (P.length+bs) (P.length+2 * bs) om (fun h=>by rw[h]at hX;simp at hX;omega) (fun h=>by rw[h]at hY;simp at hY;omega) rfl om om om sX sY
   have hZ:=g3.len
   rw[List.length_append]at hZ
   obtain⟨P',R',k1,k2,k3,k4,k5⟩:=ih (P++Z) R2 om so (.more hP om g2) hR2
   refine⟨P',R',?_,k2,k3,k4,?_⟩
   ·have e:dl ((P.length+(X.length+(Y.length+R2.length)):Nat):Int) bs c P.length ((P.length+2 * bs:Nat):Int) (P++(X++(Y++R2)))=some (.inl (((P++Z).length:Int),(((P++Z).length+2 * bs:Nat):Int),(P++Z)++R2)):=by
     have e1:P++(X++(Y++R2))=P++X++Y++R2:=by simp
     have e2:il (P.length:Int) ((P.length:Int)+bs) ((P.length+2 * bs:Nat):Int) c (P++X++Y++R2)=some (P++Z++R2):=g1
     unfold dl
     rw[if_pos (decide_eq_true om),e1,c9 (n:=(P.length:Int)+bs) om om,e2,Option.bind_some,c9 (n:=2 * (bs:Int)) om om,c9 om om]
     congr 3
     ·simp;omega
     ·congr 1
      simp;omega
    rw[g7 (s':=(((P++Z).length:Int),(((P++Z).length+2 * bs:Nat):Int),(P++Z)++R2)) e,← k1]
    congr 3
    funext s
    congr 1
    simp
    omega
   ·have e1:P++(X++(Y++R2))=P++(X++Y)++R2:=by simp
    rw[e1]
    exact(((D6.refl P).app g3).app (.refl R2)).trans k5
  ·refine⟨P,R,dj ?_,hP,hR,by omega,.refl _⟩
   unfold dl
   rw[if_neg so]
theorem a1i {bs:Nat} (hb:1<=bs) (hb2:bs<=1000000) {P R:List B8} (hl:P.length+R.length<=1000000) (hP:Full lt (2 * bs) P) (hR:Blk lt bs R) (h:R.length<2 * bs):
  ∃Z,ft bs ((P.length+R.length:Nat):Int) c P.length (P++R)=some (.inl (((2 * bs:Nat):Int),Z))/\Blk lt (2 * bs) Z/\D6 lt (P++R) Z:=by
 unfold ft ii
 rw[c9 (n:=(P.length:Int)+bs) om om,c9 om om,show(bs:Int) * 2=((2 * bs:Nat):Int)by omega]
 by_cases h1:bs<R.length
 ·obtain⟨X,Y,rfl,hX,sX,hY⟩:=hR.cut om
  simp only[List.length_append]at *
  obtain⟨Z,g1,g2,g3⟩:=awe ho hc 1048576 P X Y [] P.length (P.length+bs) (P.length+(X.length+Y.length)) om (fun h=>by rw[h]at hX;simp at hX;omega) (fun h=>by rw[h]at h1;simp at h1;omega) rfl om om so sX (hY.srt om)
  have hZ:=g3.len
  rw[List.length_append]at hZ
  simp only[List.append_nil]at g1
  have e2:il (P.length:Int) ((P.length:Int)+bs) ((P.length+(X.length+Y.length):Nat):Int) c (P++X++Y)=some (P++Z):=g1
  refine⟨P++Z,?_,hP.blk (.short om g2),(D6.refl P).app g3⟩
  rw[if_pos (decide_eq_true om),← List.append_assoc,e2]
  rfl
 ·refine⟨P++R,?_,hP.blk (.short om (hR.srt om)),.refl _⟩
  rw[if_neg (by rw[decide_eq_true_eq];omega)]
theorem passes :∀(k bs:Nat) (d:List B8),d.length<=bs+k->1<=bs->bs<=1000000->d.length<=500000->Blk lt bs d->
  ∃Z,iter (fun s=>db d.length c s.1 s.2) ((bs:Int),d)=some Z/\Srt lt Z/\D6 lt d Z:=by
 intro k
 induction k with
 |zero=>
  intro bs d hk hb hb2 hl hd
  refine⟨d,dj ?_,hd.srt om,.refl _⟩
  unfold db
  rw[if_neg (by rw[decide_eq_true_eq];omega)]
 |succ k ih=>
  intro bs d hk hb hb2 hl hd
  by_cases h:bs<d.length
  ·obtain⟨P,R,g1,g2,g3,g4,g5⟩:=az4 ho hc hb hb2 d.length [] d (Nat.le_refl _) so .nil hd
   have hlen:=g5.len
   rw[List.length_append]at hlen
   simp only[List.length_nil,Nat.zero_add,List.nil_append]at g1 hlen g5
   obtain⟨Z,u1,u2,u3⟩:=a1i ho hc hb hb2 om g2 g3 g4
   rw[hlen]at u1
   have hZ:=u3.len
   rw[List.length_append]at hZ
   obtain⟨Z2,v1,v2,v3⟩:=ih (2 * bs) Z om om om om u2
   refine⟨Z2,?_,v2,(g5.trans u3).trans v3⟩
   have e:db d.length c bs d=some (.inl (((2 * bs:Nat):Int),Z)):=by
    unfold db
    rw[if_pos (decide_eq_true om),c9 (n:=2 * (bs:Int)) om om]
    have e1:(2 * (bs:Int))=((2 * bs:Nat):Int):=by omega
    rw[e1]
    exact(congrArg (fun z=>z.bind fun p=>ft bs d.length c p.1 p.2) g1).trans u1
   rw[g7 (s':=(((2 * bs:Nat):Int),Z)) e,← v1]
   congr 3
   funext s
   congr 1
   omega
  ·refine⟨d,dj ?_,hd.srt om,.refl _⟩
   unfold db
   rw[if_neg (by rw[decide_eq_true_eq];omega)]
theorem azx {d:List B8} (hl:d.length<=500000):∃Z,fp c d=some Z/\Srt lt Z/\D6 lt d Z:=by
 obtain⟨P,R,g1,g2,g3⟩:=axh ho hc d.length [] d (Nat.le_refl _) so .nil
 have hlen:=g3.len
 rw[List.length_append]at hlen
 simp only[List.length_nil,Nat.zero_add,List.nil_append]at g1 hlen g3
 obtain⟨Z,u1,u2,u3⟩:=amw ho hc (P:=P) (X:=R) (Q:=[]) (a:=(P.length:Int)) (b:=(d.length:Int)) rfl om so
 simp only[List.append_nil]at u1
 have hZ:=u3.len
 have hB:Blk lt 20 (P++Z):=by
  refine g2.blk ?_
  by_cases h:Z.length<=20
  ·exact .short h u2
  ·have:∀(k:Nat) (L:List B8),L.length<=k->Srt lt L->Blk lt 20 L:=by
    intro k
    induction k with
    |zero=>intro L h hs;exact .short om hs
    |succ k ih=>
     intro L h hs
     by_cases h2:20<L.length
     ·obtain⟨X,R',rfl,hX⟩:=a2t (show 20<=L.length by omega)
      rw[List.length_append]at h
      exact .more hX (afw.1 hs).1 (ih R' om (afw.1 hs).2.1)
     ·exact .short om hs
   exact this _ _ (Nat.le_refl _) u2
 have hlen2:(P++Z).length=d.length:=by rw[List.length_append];omega
 obtain⟨Z2,v1,v2,v3⟩:=passes ho hc d.length 20 (P++Z) om om om om hB
 rw[hlen2]at v1
 refine⟨Z2,?_,v2,(g3.trans ((D6.refl P).app u3)).trans v3⟩
 have e:jg d.length c d=some Z2:=by
  unfold jg
  have e1:(iter (fun s=>da d.length c s.1 s.2.1 s.2.2) (0,20,d))=some ((P.length:Int),P++R):=g1
  rw[e1,Option.bind_some]
  unfold kg
  have e2:iter (fun s=>db d.length c s.1 s.2) (20,P++Z)=some Z2:=v1
  dsimp only
  rw[u1,Option.bind_some,e2]
  rfl
 unfold fp
 rw[e]
 rfl
end
def ltU (x y:B8):Bool:=decide (x.File<y.File)||(decide (x.File=y.File)&&decide (x.At<y.At))
theorem swoU :Swo ltU:=by
 constructor
 ·intro x y h
  unfold ltU at *
  simp at *
  omega
 ·intro x y z h k
  unfold ltU at *
  simp at *
  omega
theorem arn (x y:Int):sa x y=some (if x<y then -1 else if x>y then 1 else 0):=by
 unfold sa zr
 have h:∀x:Int,(x != x)=false:=fun x=>by simp
 simp only[h,Option.bind_some,Bool.false_eq_true,if_false,decide_eq_true_eq]
 by_cases h1:x<y
 ·rw[if_pos h1,if_pos h1]
 ·rw[if_neg h1,if_neg h1]
  by_cases h2:x>y
  ·rw[if_pos h2,if_pos h2]
  ·rw[if_neg h2,if_neg h2]
theorem or_eq (x y:Int):ag7 [x,y]=some (if x=0 then y else x):=by
 unfold ag7 ad6
 have h0:idx [x,y] (0:Int)=some x:=rfl
 have h1:idx [x,y] (1:Int)=some y:=rfl
 have w0:w64 (0+1)=1:=c9 om om
 have w1:w64 (1+1)=2:=c9 om om
 by_cases hx:x=0
 ·have e0:jc [x,y] 0=some (.inl 1):=by
   unfold jc
   rw[if_pos sm,h0,Option.bind_some,if_neg (by simp[hx]),w0]
  rw[g7 e0,if_pos hx]
  by_cases hy:y=0
  ·have e1:jc [x,y] 1=some (.inl 2):=by
    unfold jc
    rw[if_pos sm,h1,Option.bind_some,if_neg (by simp[hy]),w1]
   have e2:jc [x,y] 2=some (.inr (.next ())):=by
    unfold jc
    rw[if_neg sm]
   rw[g7 e1,dj e2,hy]
   rfl
  ·have e1:jc [x,y] 1=some (.inr (.done y)):=by
    unfold jc
    rw[if_pos sm,h1,Option.bind_some,if_pos (by simp[hy])]
   rw[dj e1]
   rfl
 ·have e0:jc [x,y] 0=some (.inr (.done x)):=by
   unfold jc
   rw[if_pos sm,h0,Option.bind_some,if_pos (by simp[hx])]
  rw[dj e0,if_neg hx]
  rfl
theorem cmpU (x y:B8):∃n:Int,aa2 x y=some n/\decide (n<0)=ltU x y:=by
 unfold aa2 ach
 rw[arn,arn,Option.bind_some,Option.bind_some,or_eq]
 refine⟨_,rfl,?_⟩
 unfold ltU
 rcases Int.lt_trichotomy x.File y.File with h|h|h
 ·rw[if_pos h];simp[h]
 ·rw[if_neg (show ¬x.File<y.File by omega),if_neg (show ¬x.File>y.File by omega),if_pos rfl]
  rcases Int.lt_trichotomy x.At y.At with h2|h2|h2
  ·rw[if_pos h2];simp[h,h2]
  ·rw[if_neg (show ¬x.At<y.At by omega),if_neg (show ¬x.At>y.At by omega)];simp[h,h2]
  ·rw[if_neg (show ¬x.At<y.At by omega),if_pos h2];simp;omega
 ·rw[if_neg (show ¬x.File<y.File by omega),if_pos h];simp;omega
end Go.Proofs.YtcndghapmoaidaaGreatDoor
set_option linter.unusedSectionVars false
set_option linter.unusedVariables false
set_option linter.unusedSimpArgs false
set_option maxRecDepth 100000
set_option maxHeartbeats 4000000
namespace Go.Proofs.YtcndghapmoaidaaGreatDoor
open Go Go.Cn
variable [Glob]
def rowF {α τ γ:Type} (g:Nat->τ->α->τ ⊕ γ):Nat->List α->τ->τ ⊕ γ
 |_,[],t=> .inl t
 |i,x::r,t=>match g i t x with| .inl t'=>rowF g (i+1) r t'| .inr e=> .inr e
abbrev Step {τ γ S ω:Type} (R:S->τ->Prop) (Q:ω->γ->Prop):τ ⊕ γ->S ⊕ ω->Prop
 | .inl t',z=>∃s',z= .inl s'/\R s' t'
 | .inr e,z=>∃o,z= .inr o/\Q o e
abbrev Fin' {τ γ ω:Type} (F:ω->τ->Prop) (Q:ω->γ->Prop):τ ⊕ γ->ω->Prop
 | .inl t,o=>F o t
 | .inr e,o=>Q o e
theorem rowM {α τ γ S ω:Type} {l:List α} {f:S->Option (S ⊕ ω)} (g:Nat->τ->α->τ ⊕ γ) (R:Nat->S->τ->Prop) (F:ω->τ->Prop) (Q:ω->γ->Prop)
  (h1:∀i x s t,l[i]? =some x->R i s t->Ok (Step (R (i+1)) Q (g i t x)) (f s))
  (h2:∀s t,R l.length s t->Ok (fun z=>∃o,z= .inr o/\F o t) (f s)):∀(r:List α) (i:Nat) s t,l.drop i=r->i<=l.length->R i s t->Ok (Fin' F Q (rowF g i r t)) (iter f s)
 | [],i,s,t,hr,hi,h=>by
  have hi':l.length<=i:=by
   have:=congrArg List.length hr
   rw[List.length_drop,List.length_nil]at this
   omega
  obtain rfl:i=l.length:=by omega
  obtain⟨_,e,o,rfl,ho⟩:=h2 s t h
  exact⟨o,dj e,ho⟩
 |x::r,i,s,t,hr,hi,h=>by
  have hx:l[i]? =some x:=by
   have:=congrArg (fun z=>z[0]?) hr
   simpa using this
  have hi:=(List.getElem?_eq_some_iff.1 hx).1
  have hr':l.drop (i+1)=r:=by
   have:=congrArg List.tail hr
   simpa using this
  obtain⟨z,e,hz⟩:=h1 i x s t hx h
  unfold rowF
  cases hg:g i t x with
  |inl t'=>
   rw[hg]at hz
   obtain⟨s',rfl,hs'⟩:=hz
   rw[g7 e]
   exact rowM g R F Q h1 h2 r (i+1) s' t' hr' hi hs'
  |inr e'=>
   rw[hg]at hz
   obtain⟨o,rfl,ho⟩:=hz
   exact⟨o,dj e,ho⟩
mutual
def aic :B6->List B6
 |⟨k,t,y,n,a,b,c,d,kids⟩=>⟨k,t,y,n,a,b,c,d,kids⟩::flatL kids
def flatL :List B6->List B6
 | []=>[]
 |n::l=>aic n++flatL l
end
theorem aw4 (x:B6):aic x=x::flatL x.Kids:=by cases x;simp[aic]
mutual
theorem aui :∀x:B6,(aic x).length=eh x
 |⟨_,_,_,_,_,_,_,_,kids⟩=>by simp[aic,eh,ak6 kids];omega
theorem ak6 :∀l:List B6,(flatL l).length=cm l
 | []=>by simp[flatL,cm]
 |n::l=>by simp[flatL,cm,aui n,ak6 l]
end
theorem auj :∀l m:List B6,flatL (l++m)=flatL l++flatL m
 | [],m=>by simp[flatL]
 |n::l,m=>by simp[flatL,auj l m]
theorem axw {l:List B6} {i:Nat} {x:B6} (h:l[i]? =some x):flatL (l.take (i+1))=flatL (l.take i)++aic x:=by
 obtain⟨hi,rfl⟩:=List.getElem?_eq_some_iff.1 h
 rw[List.take_succ_eq_append_getElem hi,auj]
 simp[flatL]
theorem yp {l:List B6} {i:Nat} {x:B6} (h:l[i]? =some x):cm (l.take (i+1))=cm (l.take i)+eh x/\cm (l.take i)+eh x<=cm l:=by
 obtain⟨hi,rfl⟩:=List.getElem?_eq_some_iff.1 h
 have e:cm (l.take (i+1))=cm (l.take i)+eh l[i]:=by rw[List.take_succ_eq_append_getElem hi,ub];simp[cm]
 refine⟨e,?_⟩
 rw[← e]
 have:cm (l.take (i+1))+cm (l.drop (i+1))=cm l:=by rw[← ub,List.take_append_drop]
 omega
theorem jn {α:Type} {l:List α} {i:Nat} {x:α} (h:l[i]? =some x):x∈l:=List.mem_of_getElem? h
theorem rowK {α S ω:Type} {l:List α} {f:S->Option (S ⊕ ω)} (R:Nat->S->Prop) (F:ω->Prop)
  (h1:∀i x s,l[i]? =some x->R i s->Ok (fun z=>∃s',z= .inl s'/\R (i+1) s') (f s)) (h2:∀s,R l.length s->Ok (fun z=>∃o,z= .inr o/\F o) (f s)) (s:S) (h:R 0 s):Ok F (iter f s):=by
 obtain⟨o,e,ho⟩:=rowM (τ:=Unit) (γ:=Empty) (l:=l) (f:=f) (fun _ _ _=> .inl ()) (fun i s _=>R i s) (fun o _=>F o) (fun _ _=>False) (fun i x s _ hx hs=>h1 i x s hx hs) (fun s _ hs=>h2 s hs) l 0 s () rfl (Nat.zero_le _) h
 refine⟨o,e,?_⟩
 have:∀(r:List α) i,rowF (τ:=Unit) (γ:=Empty) (fun _ _ _=> .inl ()) i r ()= .inl ():=by
  intro r
  induction r with
  |nil=>intro i;rfl
  |cons x r ih=>intro i;unfold rowF;exact ih _
 rw[this]at ho
 exact ho
theorem walk_at (yld:List B6->B6->Option (Bool × List B6)) (hy:∀s a,s.length<=1000000->yld s a=some (true,s++[a])):∀(k:Nat) (x:B6) (s:List B6),eh x<=k->s.length+eh x<=1000000->oa yld k x s=some (true,s++aic x):=by
 intro k
 induction k with
 |zero=>intro x s h;have:=o6 x;omega
 |succ k ih=>
  intro x s hx hk
  show aer yld (oa yld k) x s=_
  have hs:=ko x
  have hl:=mb x.Kids
  unfold aer
  rw[hy s x om,Option.bind_some]
  dsimp only
  rw[if_neg sm]
  obtain⟨o,e,rfl⟩:=rowK (l:=x.Kids) (f:=fun t:Int × List B6=>sx yld (oa yld k) x t.1 t.2) (fun i t=>t=((i:Int),s++x::flatL (x.Kids.take i))) (fun o=>o= .next (s++aic x)) (fun i y t hy h=>by
   subst h
   have hn:=yp hy
   dsimp only
   unfold sx
   rw[if_pos (ki hy),ib hy,Option.bind_some,ih y _ om (by simp[ak6];omega),Option.bind_some]
   dsimp only
   rw[if_neg sm,agu (by have:=(List.getElem?_eq_some_iff.1 hy).1;omega)]
   exact .mk ⟨_,rfl,by rw[axw hy];simp⟩) (fun t h=>by
   subst h
   dsimp only
   unfold sx
   rw[if_neg (kj (Nat.le_refl _))]
   exact .mk ⟨_,rfl,by rw[List.take_length,aw4]⟩) (0,s++[x]) (by simp[flatL])
  have e':iter (fun t=>sx yld (oa yld k) x t.1 t.2) (0,s++[x])=some (.next (s++aic x)):=e
  rw[e',Option.bind_some]
  rfl
theorem av3 {x:B6} (h:eh x<=1000000):akx x 0=some (aic x):=by
 unfold akx afi aom
 rw[walk_at _ (fun s a hs=>?_) 1048576 x [] om (by simpa using h)]
 ·simp
 ·unfold ael aem
  rw[if_pos (by rfl),if_pos rfl,ze so so,Option.bind_some,ajy rfl,Option.bind_some,an4 rfl]
abbrev zeroN :B6:=B6.mk 0 [] [] 0 0 0 0 0 []
def decl (x:B6):Bool:=x.Kind==4||x.Kind==6
mutual
def agnN (own:List Bt):B6->Option B6
 |⟨_,_,_,_,_,_,_,_,kids⟩=>agnL own kids
def agnL (own:List Bt):List B6->Option B6
 | []=>none
 |k::r=>if(decl k&&own.any (·==k.Text))=true then some k else match agnN own k with|some x=>some x|none=>agnL (if decl k=true then own++[k.Text]else own) r
end
theorem agnN_eq (own:List Bt) (x:B6):agnN own x=agnL own x.Kids:=by cases x;simp[agnN]
def agnG :Nat->List Bt->B6->List Bt ⊕ B6:=fun _ own k=>
 if(decl k&&own.any (·==k.Text))=true then .inr k else match agnN own k with|some x=> .inr x|none=> .inl (if decl k=true then own++[k.Text]else own)
theorem axb :∀(l:List B6) (i:Nat) (own:List Bt),agnL own l=match rowF agnG i l own with| .inl _=>none| .inr x=>some x
 | [],_,own=>by simp[agnL,rowF]
 |k::r,i,own=>by
  unfold agnL rowF agnG
  by_cases h:(decl k&&own.any (·==k.Text))=true
  ·rw[if_pos h,if_pos h]
  ·rw[if_neg h,if_neg h]
   cases agnN own k with
   |some x=>rfl
   |none=>exact axb r (i+1) _
end Go.Proofs.YtcndghapmoaidaaGreatDoor
set_option linter.unusedSectionVars false
set_option linter.unusedVariables false
set_option linter.unusedSimpArgs false
set_option maxRecDepth 100000
set_option maxHeartbeats 4000000
namespace Go.Proofs.YtcndghapmoaidaaGreatDoor
open Go Go.Cn
variable [Glob]
theorem tp {α:Type} {l:List α} {i:Nat} {x:α} (h:l[i]? =some x):i<l.length:=(List.getElem?_eq_some_iff.1 h).1
theorem ack {l:List B6} {i:Nat} {x:B6} (h:l[i]? =some x):eh x<=cm l:=aed (jn h)
theorem a06 :∀(k:Nat) (x:B6) (own:List Bt) (m:SMap Bool),eh x<=k->eh x<=1000000->(∀t,mget t false m=own.any (·==t))->
  kw k x m=some (match agnN own x with|some y=>(y,true)|none=>(zeroN,false)):=by
 intro k
 induction k with
 |zero=>intro x _ _ h;have:=o6 x;omega
 |succ k ih=>
  intro x own m hx hk hm
  show zx (kw k) x m=_
  have hs:=ko x
  have hl:=mb x.Kids
  unfold zx ame
  rw[Option.bind_some]
  obtain⟨o,e,ho⟩:=rowM (l:=x.Kids) (f:=fun s:Int × SMap Bool=>ov (kw k) x s.1 s.2) agnG (fun i s own=>s.1=(i:Int)/\∀t,mget t false s.2=own.any (·==t)) (fun o _=>∃p,o= .next p) (fun o e=>o= .done (e,true)) (fun i y s own hy h=>by
   obtain⟨s1,s2⟩:=s
   obtain⟨rfl,hm⟩:=h
   dsimp only at hm ⊢
   have hi:=tp hy
   have hn:=ack hy
   have f:Ok (Step (fun s own=>s.1=((i+1:Nat):Int)/\∀t,mget t false s.2=own.any (·==t)) (fun o e=>o= .done (e,true)) (agnG i own y)) (ul (kw k) y s2 i (decl y)):=by
    unfold ul xo xp agnG
    rw[ih y own s2 om om hm,agu om,hm]
    cases decl y
    ·simp only[Bool.false_eq_true,if_false,Bool.false_and,Option.bind_some]
     cases agnN own y with
     |some z=>exact .mk ⟨_,rfl,rfl⟩
     |none=>exact .mk ⟨_,rfl,rfl,hm⟩
    ·simp only[if_true,Bool.true_and,Option.bind_some]
     refine .cond (fun h=>?_) fun h=>?_
     ·rw[if_pos h]
      exact .mk ⟨_,rfl,rfl⟩
     ·rw[if_neg (by rw[h];simp)]
      cases agnN own y with
      |some z=>exact .mk ⟨_,rfl,rfl⟩
      |none=>
       refine .mk ⟨_,rfl,rfl,fun t=>?_⟩
       dsimp only
       rw[ak3,hm,List.any_append]
       by_cases ht:y.Text=t
       ·rw[if_pos ht,ht];simp
       ·rw[if_neg ht]
        have:(y.Text==t)=false:=by simpa using ht
        simp[this]
   unfold ov
   rw[if_pos (ki hy),ib hy,Option.bind_some]
   have e:decl y=((y.Kind==4)||(y.Kind==6)):=rfl
   rw[e]at f
   cases h4:(y.Kind==4)
   ·rw[h4,Bool.false_or]at f;rw[if_neg sm];exact f
   ·rw[h4,Bool.true_or]at f;rw[if_pos rfl];exact f) (fun s own h=>by
   obtain⟨s1,s2⟩:=s
   obtain⟨rfl,hm⟩:=h
   dsimp only
   unfold ov
   rw[if_neg (kj (Nat.le_refl _))]
   exact .mk ⟨_,rfl,_,rfl⟩) x.Kids 0 (0,m) own rfl (Nat.zero_le _) ⟨rfl,hm⟩
  have e':iter (fun s=>ov (kw k) x s.1 s.2) (0,m)=some o:=e
  rw[e',Option.bind_some,agnN_eq,axb x.Kids 0 own]
  revert ho
  cases rowF agnG 0 x.Kids own with
  |inl t=>rintro⟨p,rfl⟩;rfl
  |inr y=>rintro rfl;rfl
theorem a14 {u:Nat} (h:u<=9223372036854775807):ap0 [IntKind.wrap .u8 (w64 (48+(Int.tmod (u:Int) 10)))]=[UInt8.ofNat (48+u % 10)]:=by
 have e:Int.tmod (u:Int) 10=((u % 10:Nat):Int):=by
  rw[Int.tmod_eq_emod_of_nonneg om]
  omega
 have w:IntKind.wrap .u8 (48+((u % 10:Nat):Int))=48+((u % 10:Nat):Int):=by
  unfold IntKind.wrap
  have e1:(2:Int) ^ (IntKind.u8.bits)=256:=rfl
  have e3:IntKind.u8.signed=false:=rfl
  simp only[e1,e3,Bool.false_and]
  rw[if_neg sm]
  omega
 rw[e,c9 om om,w]
 unfold ap0
 simp only[List.map_cons,List.map_nil]
 congr 2
theorem catB {a b:Bt} (h:a.length+b.length<=9000000000):cat a b=some (a++b):=by
 obtain⟨_,e,rfl⟩:=cat_ok h
 exact e
theorem avs :∀(k u:Nat),u<10 ^ k->0<k->(Lib.decDigits u).length<=k
 | 0,_,_,h=>absurd h (Nat.lt_irrefl _)
 |k+1,u,h,_=>by
  rw[Lib.decDigits]
  by_cases hu:u<10
  ·rw[dif_pos hu];simp
  ·rw[dif_neg hu]
   rw[Nat.pow_succ]at h
   have hk:0<k:=by
    rcases Nat.eq_zero_or_pos k with rfl|hk
    ·simp at h;omega
    ·exact hk
   have:=avs k (u / 10) om hk
   simp
   omega
theorem atg :∀(k u:Nat) (acc:Bt),u<10 ^ k->0<k->acc.length+k<=1000->u<=9223372036854775807->
  iter (fun s=>o9 s.1 s.2) ((u:Int),acc)=some (Lib.decDigits u++acc):=by
 intro k
 induction k with
 |zero=>intro u acc _ h;exact absurd h (Nat.lt_irrefl _)
 |succ k ih=>
  intro u acc hk _ ha hu
  have e:Int.tdiv (u:Int) 10=((u / 10:Nat):Int):=by
   rw[Int.tdiv_eq_ediv_of_nonneg om]
   omega
  have step:o9 (u:Int) acc=if u<10 then some (.inr ([UInt8.ofNat (48+u % 10)]++acc))else some (.inl (((u / 10:Nat):Int),[UInt8.ofNat (48+u % 10)]++acc)):=by
   unfold o9
   rw[a14 hu,catB (by simp only[List.length_cons,List.length_nil];omega),e,c9 om om,Option.bind_some]
   by_cases h10:u<10
   ·rw[if_pos so,if_pos h10]
   ·rw[if_neg so,if_neg h10]
  by_cases h10:u<10
  ·rw[if_pos h10]at step
   rw[dj step,Lib.decDigits,dif_pos h10,Nat.mod_eq_of_lt h10]
  ·rw[if_neg h10]at step
   rw[Nat.pow_succ]at hk
   have hk0:0<k:=by
    rcases Nat.eq_zero_or_pos k with rfl|hk0
    ·simp at hk;omega
    ·exact hk0
   rw[g7 (s':=(((u / 10:Nat):Int),[UInt8.ofNat (48+u % 10)]++acc)) step,ih (u / 10) _ om hk0 (by simp only[List.length_append,List.length_cons,List.length_nil];omega) om,Lib.decDigits.eq_1 u,dif_neg h10,List.append_assoc]
theorem a13 {u:Nat} (h:u<=9223372036854775807):acq u=some (Lib.decDigits u):=by
 unfold acq
 rw[if_neg sm,atg 20 u [] om om sm h,List.append_nil]
def am3 (m:Bt) (n:Nat):Bt:=m++[35]++Lib.decDigits n
def amb (c n:Bt):Bt:=c++[46]++n
def rh (c n:Bt):Bt:=c++[46]++n++[40,41]
theorem aqe {m:Bt} {n:Nat} (hm:m.length<=1000000000) (hn:n<=1000000000):aaz m n=some (am3 m n):=by
 have:=avs 20 n om om
 unfold aaz am3
 rw[catB so,Option.bind_some,a13 om,Option.bind_some,catB so]
 rfl
theorem aj8 {m:Bt} {n:Nat} (hm:m.length<=1000000000) (hn:n<=1000000000):ve m n=some (am3 m n):=by
 have:=avs 20 n om om
 unfold ve afa qt mn am3
 rw[catB so,Option.bind_some,if_neg (show ¬(0:Int)>(n:Int)by omega),if_pos ⟨rfl,by omega,by omega⟩]
 have e:Lib.itoa (n:Int)=Lib.decDigits n:=by
  unfold Lib.itoa
  rw[if_neg om,Int.toNat_natCast]
 rw[e]
 simp only[Option.bind_some]
 rw[catB so]
 rfl
theorem ago {a b:Bt} (h:a.length+b.length<=8000000000):yq a b=some (amb a b):=by
 unfold yq amb
 rw[catB so,Option.bind_some,catB so]
 rfl
theorem aex {a b:Bt} (h:a.length+b.length<=8000000000):vl a b=some (rh a b):=by
 unfold vl rh
 rw[ago h,Option.bind_some]
 unfold amb
 rw[catB so]
 rfl
end Go.Proofs.YtcndghapmoaidaaGreatDoor
set_option linter.unusedSectionVars false
set_option linter.unusedVariables false
set_option linter.unusedSimpArgs false
set_option maxRecDepth 100000
set_option maxHeartbeats 4000000
namespace Go.Proofs.YtcndghapmoaidaaGreatDoor
open Go Go.Cn
variable [Glob]
def ayb (e x:B0):Bool:=x.Kind==e.Kind&&x.Owner==e.Owner&&x.Name==e.Name
def dup (l:List B0) (e:B0):Bool:=e.Kind != 4&&l.any (ayb e)
def adn (f:Int) (c:B6):B0:=B0.mk 1 c.Text c.Text [] c.Type_ false [] f c.At
def agw (c:Bt) (f:Int) (k:B6):B0:=B0.mk 2 (amb c k.Text) k.Text c k.Type_ (k.N==1) [] f k.At
def parG (ps:List Bt) (x:B6):List Bt:=if(x.Kind==4)=true then ps++[x.Type_]else ps
def pars (k:B6):List Bt:=k.Kids.foldl parG []
def arw (c:Bt) (f:Int) (k:B6):B0:=B0.mk 3 (rh c k.Text) k.Text c k.Type_ (k.N==1) (pars k) f k.At
def locG (m:Bt) (f:Int) (l:List B0) (x:B6):List B0:=if decl x=true then l++[B0.mk 4 (am3 m l.length) x.Text m x.Type_ false [] f x.At]else l
def locs (c:Bt) (f:Int) (k:B6):List B0:=(aic k).foldl (locG (rh c k.Text) f) []
abbrev Bad :=B0 ⊕ B6
def memX (c:Bt) (f:Int) (l:List B0) (k:B6):List B0 ⊕ Bad:=
 if(k.Kind==2)=true then(if dup l (agw c f k)=true then .inr (.inl (agw c f k))else .inl (l++[agw c f k]))
 else if(k.Kind==3)=true then(if dup l (arw c f k)=true then .inr (.inl (arw c f k))else match agnN [] k with|some x=> .inr (.inr x)|none=> .inl (l++arw c f k::locs c f k))
 else .inl l
def clsX (f:Int) (l:List B0) (c:B6):List B0 ⊕ Bad:=
 if dup l (adn f c)=true then .inr (.inl (adn f c))else rowF (fun _ l k=>memX c.Text f l k) 0 c.Kids (l++[adn f c])
def mist (f:Int):Bad->B4
 | .inl e=>B4.mk 150 e.File e.At
 | .inr x=>B4.mk 150 f x.At
def tabC (f:Int) (l:List B0) (c:B6):List B0 ⊕ B4:=
 if(c.Kind==1)=true then(match clsX f l c with| .inl l'=> .inl l'| .inr e=> .inr (mist f e))else .inl l
def tab (files:List (List B6)):List B0 ⊕ B4:=rowF (fun f l file=>rowF (fun _ l c=>tabC f l c) 0 file l) 0 files []
def tabR :List B0 ⊕ B4->List B0 × B4
 | .inl l=>(l,B4.mk 0 0 0)
 | .inr m=>([],m)
theorem ark {α β:Type} (g:β->α->β) (b:β) {l:List α} {i:Nat} {x:α} (h:l[i]? =some x):(l.take (i+1)).foldl g b=g ((l.take i).foldl g b) x:=by
 obtain⟨hi,rfl⟩:=List.getElem?_eq_some_iff.1 h
 rw[List.take_succ_eq_append_getElem hi,List.foldl_append]
 rfl
theorem ast (m:Bt) (f:Int):∀(r:List B6) (l:List B0),(r.foldl (locG m f) l).length<=l.length+r.length
 | [],l=>by simp
 |x::r,l=>by
  have:=ast m f r (locG m f l x)
  have h2:(locG m f l x).length<=l.length+1:=by
   unfold locG
   split<;>simp
  simp only[List.foldl_cons,List.length_cons]
  omega
theorem aud (m:Bt) (f:Int):∀(r:List B6) (l:List B0),(∀e∈l,e.Kind=4)->∀e∈r.foldl (locG m f) l,e.Kind=4
 | [],l,h=>h
 |x::r,l,h=>aud m f r _ fun e he=>by
  unfold locG at he
  split at he
  ·rcases List.mem_append.1 he with he|he
   ·exact h e he
   ·rw[List.mem_singleton.1 he]
  ·exact h e he
theorem aoo (c:Bt) (f:Int) (k:B6):∀e∈locs c f k,e.Kind=4:=aud _ _ _ _ fun _ h=>by cases h
theorem awy {c:Bt} {f:Int} {k:B6} (h:decl k=false):(locs c f k).length+1<=eh k:=by
 unfold locs
 rw[aw4,List.foldl_cons]
 have e:locG (rh c k.Text) f [] k=[]:=by
  unfold locG
  rw[if_neg (by rw[h];simp)]
 have:=ast (rh c k.Text) f (flatL k.Kids) []
 rw[e,ko k]
 rw[ak6]at this
 simp only[List.length_nil]at this
 omega
theorem asr :∀(r:List B6) (ps:List Bt),(r.foldl parG ps).length<=ps.length+r.length
 | [],l=>by simp
 |x::r,l=>by
  have:=asr r (parG l x)
  have h2:(parG l x).length<=l.length+1:=by
   unfold parG
   split<;>simp
  simp only[List.foldl_cons,List.length_cons]
  omega
theorem aug {κ β:Type} [DecidableEq κ] (k j:κ) (z v:β):∀m:GMap κ β,gget k z (gset j v m)=if j=k then v else gget k z m
  | []=>by
    unfold gset gget
    split<;>rfl
  | (a, b) :: m => by
    unfold gset
    by_cases ha:a=j
    · rw[if_pos ha]
      unfold gget
      subst ha
      split<;>rfl
    · rw[if_neg ha]
      unfold gget
      by_cases hk:a=k
      · subst hk
        rw[if_pos rfl,if_pos rfl,if_neg (fun e=>ha e.symm)]
      · rw[if_neg hk,if_neg hk,aug k j z v m]
def Kn (known:GMap B3 Bool) (l:List B0):Prop:=∀k:B3,k.kind≠4->gget k false known=l.any fun x=>x.Kind==k.kind&&x.Owner==k.owner&&x.Name==k.name
theorem Kn.nil:Kn [] []:=fun _ _=>rfl
theorem Kn.put {known:GMap B3 Bool} {l:List B0} (h:Kn known l) (e:B0):Kn (gset (B3.mk e.Kind e.Owner e.Name) true known) (l++[e]):=fun k hk=>by
 rw[aug,h k hk,List.any_append]
 obtain⟨k1,k2,k3⟩:=k
 by_cases he:B3.mk e.Kind e.Owner e.Name=B3.mk k1 k2 k3
 ·rw[if_pos he]
  injection he with a1 a2 a3
  simp[a1,a2,a3]
 ·rw[if_neg he]
  have:(e.Kind==k1&&e.Owner==k2&&e.Name==k3)=false:=by
   rw[Bool.eq_false_iff]
   intro h
   rw[Bool.and_eq_true,Bool.and_eq_true]at h
   obtain⟨⟨a1,a2⟩,a3⟩:=h
   exact he (by rw[show e.Kind=k1 by simpa using a1,show e.Owner=k2 by simpa using a2,show e.Name=k3 by simpa using a3])
  simp[this]
theorem Kn.locals {known:GMap B3 Bool} {l m:List B0} (h:Kn known l) (hm:∀e∈m,e.Kind=4):Kn known (l++m):=fun k hk=>by
 rw[h k hk,List.any_append]
 have:(m.any fun x=>x.Kind==k.kind&&x.Owner==k.owner&&x.Name==k.name)=false:=by
  rw[List.any_eq_false]
  intro e he h
  rw[Bool.and_eq_true,Bool.and_eq_true]at h
  have:=hm e he
  have:e.Kind=k.kind:=by simpa using h.1.1
  omega
 rw[this,Bool.or_false]
theorem aym {t:B5} {e:B0} (hk:Kn t.known t.l) (h4:e.Kind≠4) (hl:t.l.length<=1000000000):
  pa e t=some (if dup t.l e=true then(false,B5.mk t.l t.known (B4.mk 150 e.File e.At))else(true,B5.mk (t.l++[e]) (gset (B3.mk e.Kind e.Owner e.Name) true t.known) t.m)):=by
 unfold pa uy uz u4 pz
 rw[hk _ h4,ze so so]
 have:dup t.l e=t.l.any fun x=>x.Kind==e.Kind&&x.Owner==e.Owner&&x.Name==e.Name:=by
  unfold dup
  have:(e.Kind != 4)=true:=by simpa using h4
  rw[this,Bool.true_and]
  rfl
 rw[this]
 split<;>rfl
theorem a1p {x:B6} {l:List B0} {e:B0} (he:e.Id.length<=1000000000) (hl:l.length<=1000000000):od x l e=some (l++[B0.mk 4 (am3 e.Id l.length) x.Text e.Id x.Type_ false [] e.File x.At],e):=by
 unfold od
 rw[aj8 he hl,Option.bind_some,ze so so]
 rfl
abbrev TabP' (l':List B0) (t:B5):Prop:=t.l=l'/\Kn t.known l'
abbrev MP (f:Int):List B0 ⊕ Bad->Bool × B5->Prop
 | .inl l,r=>r.1=true/\TabP' l r.2
 | .inr e,r=>r.1=false/\r.2.m=mist f e
theorem amd (c n:Bt):(rh c n).length=c.length+n.length+3:=by unfold rh;simp;omega
theorem a0a {c:Bt} {f:Int} {k:B6} {t:B5} {e:B0} (he:e=B0.mk 2 e.Id k.Text c k.Type_ (k.N==1) [] f k.At) (hk:k.Kind=3) (hn:eh k<=1000000) (hc:c.length+k.Text.length<=100000000) (hK:Kn t.known t.l) (hl:t.l.length<=100000000):
    Ok (MP f (memX c f t.l k)) (qh k t e):=by
  have hs:=ko k
  have hkl:=mb k.Kids
  have hm:=amd c k.Text
  have hd:decl k=false:=by unfold decl;simp[hk]
  have hll:=awy (c:=c) (f:=f) hd
  unfold qh
  rw[he]
  dsimp only
  rw[aex om,Option.bind_some,av3 hn,Option.bind_some]
  have hf:=aui k
  obtain⟨o,e1,rfl⟩:=rowK (l:=aic k) (f:=fun s:Int × Int × Bt × Bt × Bt × Bt × Bool × Int × Int × List Bt × List B0=>jx (aic k) s.1 s.2.1 s.2.2.1 s.2.2.2.1 s.2.2.2.2.1 s.2.2.2.2.2.1 s.2.2.2.2.2.2.1 s.2.2.2.2.2.2.2.1 s.2.2.2.2.2.2.2.2.1 s.2.2.2.2.2.2.2.2.2.1 s.2.2.2.2.2.2.2.2.2.2)
    (fun i s=>s=((i:Int),3,rh c k.Text,k.Text,c,k.Type_,(k.N==1),f,k.At,[],((aic k).take i).foldl (locG (rh c k.Text) f) [])) (fun o=>o=([],3,rh c k.Text,k.Text,c,k.Type_,(k.N==1),f,k.At,locs c f k)) (fun i x s hx h=>by
      subst h
      have hi:=tp hx
      have hlen:=ast (rh c k.Text) f ((aic k).take i) []
      rw[List.length_take,List.length_nil]at hlen
      dsimp only
      unfold jx
      rw[if_pos (ki hx),ib hx,Option.bind_some]
      have f8:Ok (fun z=>∃s',z= .inl s'/\s'=(((i+1:Nat):Int),(3:Int),rh c k.Text,k.Text,c,k.Type_,(k.N==1),f,k.At,([]:List Bt),((aic k).take (i+1)).foldl (locG (rh c k.Text) f) [])) (lp x (((aic k).take i).foldl (locG (rh c k.Text) f) []) 3 (rh c k.Text) k.Text c k.Type_ (k.N==1) [] f k.At i (decl x)):=by
        unfold lp ng
        rw[a1p (by simp only;omega) om,Option.bind_some,agu om,ark _ _ hx]
        unfold locG
        cases decl x
        · rw[if_neg sm,if_neg sm]
          exact .mk ⟨_,rfl,rfl⟩
        · rw[if_pos rfl,if_pos rfl]
          exact .mk ⟨_,rfl,rfl⟩
      have e:decl x=((x.Kind==4)||(x.Kind==6)):=rfl
      rw[e]at f8
      cases h4:(x.Kind==4)
      · rw[h4,Bool.false_or]at f8;rw[if_neg sm];exact f8
      · rw[h4,Bool.true_or]at f8;rw[if_pos rfl];exact f8) (fun s h=>by
      subst h
      dsimp only
      unfold jx
      rw[if_neg (kj (Nat.le_refl _))]
      exact .mk ⟨_,rfl,by rw[List.take_length];rfl⟩) (0,3,rh c k.Text,k.Text,c,k.Type_,(k.N==1),f,k.At,[],[]) rfl
  refine .bd ⟨_,e1,rfl⟩ fun o ho=>?_
  subst ho
  dsimp only
  unfold qu
  obtain⟨o,e2,rfl⟩:=rowK (l:=k.Kids) (f:=fun s:Int × List Bt=>jy k s.1 s.2) (fun i s=>s=((i:Int),(k.Kids.take i).foldl parG [])) (fun o=>o=pars k) (fun i x s hx h=>by
      subst h
      have hi:=tp hx
      have hlen:=asr (k.Kids.take i) []
      rw[List.length_take,List.length_nil]at hlen
      dsimp only
      unfold jy nh
      rw[if_pos (ki hx),ib hx,Option.bind_some,ze so so,Option.bind_some,agu om,ark _ _ hx]
      unfold parG
      refine .cond (fun h=>?_) fun h=>?_
      · rw[if_pos h];exact .mk ⟨_,rfl,rfl⟩
      · rw[if_neg (by rw[h];simp)];exact .mk ⟨_,rfl,rfl⟩) (fun s h=>by
      subst h
      dsimp only
      unfold jy
      rw[if_neg (kj (Nat.le_refl _))]
      exact .mk ⟨_,rfl,by rw[List.take_length];rfl⟩) (0,[]) rfl
  refine .bd ⟨_,e2,rfl⟩ fun o ho=>?_
  subst ho
  unfold qv qw memX
  rw[aym hK sm om,Option.bind_some,if_neg (by simp[hk]),if_pos (by simp[hk])]
  have ee:B0.mk 3 (rh c k.Text) k.Text c k.Type_ (k.N==1) (pars k) f k.At=arw c f k:=rfl
  rw[ee]
  by_cases hdup:dup t.l (arw c f k)=true
  · rw[if_pos hdup,if_pos hdup]
    exact .mk ⟨rfl,rfl⟩
  · rw[if_neg hdup,if_neg hdup]
    dsimp only
    rw[if_neg sm,ze so so,Option.bind_some]
    unfold akj
    rw[a06 1048576 k [] [] om hn (fun _=>rfl),Option.bind_some]
    have hK2:=(hK.put (arw c f k)).locals (aoo c f k)
    rw[List.append_assoc]at hK2
    cases agnN [] k with
    |some x=>
      dsimp only
      rw[if_pos rfl]
      unfold pz
      exact .mk ⟨rfl,rfl⟩
    |none=>
      dsimp only
      rw[if_neg sm,List.append_assoc]
      exact .mk ⟨rfl,rfl,hK2⟩
end Go.Proofs.YtcndghapmoaidaaGreatDoor
set_option linter.unusedSectionVars false
set_option linter.unusedVariables false
set_option linter.unusedSimpArgs false
set_option maxRecDepth 100000
set_option maxHeartbeats 4000000
namespace Go.Proofs.YtcndghapmoaidaaGreatDoor
open Go Go.Cn
variable [Glob]
theorem yx {l:List B6} {i:Nat} {x:B6} (h:l[i]? =some x):i<=cm (l.take i)/\i<l.length/\l.length<=cm l:=by
 have h1:=mb (l.take i)
 have h2:=tp h
 rw[List.length_take]at h1
 exact⟨by omega,h2,mb l⟩
theorem aww {c:Bt} {f:Int} {l l':List B0} {k:B6} (h:memX c f l k= .inl l'):l'.length<=l.length+eh k:=by
  unfold memX at h
  have hp:=o6 k
  split at h
  · split at h
    · cases h
    · cases h;simp;omega
  · split at h
    · rename_i h3
      split at h
      · cases h
      · split at h
        · cases h
        · cases h
          have hd : decl k = false := by unfold decl; have : k.Kind = 3 := by simpa using h3
                                         simp[this]
          have:=awy (c:=c) (f:=f) hd
          simp
          omega
    · cases h;omega
theorem a19 {f:Int} {c:B6} {t:B5} (hn:eh c<=1000000) (hc:okB 1500 c) (hK:Kn t.known t.l) (hl:t.l.length<=10000000):Ok (MP f (clsX f t.l c)) (se f c t):=by
  have hs:=ko c
  replace hc:=afy hc
  unfold se vf
  rw[Option.bind_some]
  have ee:B0.mk 1 c.Text c.Text [] c.Type_ false [] f c.At=adn f c:=rfl
  rw[ee,aym hK (by unfold adn;simp) om,Option.bind_some]
  unfold clsX
  by_cases hd:dup t.l (adn f c)=true
  · rw[if_pos hd,if_pos hd]
    dsimp only
    unfold oe
    rw[if_pos (by rfl)]
    exact .mk ⟨rfl,rfl⟩
  · rw[if_neg hd,if_neg hd]
    dsimp only
    unfold oe
    rw[if_neg sm]
    dsimp only
    obtain⟨o,e1,ho⟩:=rowM (l:=c.Kids) (f:=fun s:Int × B4 × GMap B3 Bool × List B0=>kl c f s.1 s.2.1 s.2.2.1 s.2.2.2) (fun _ l k=>memX c.Text f l k)
      (fun i s l=>s.1=(i:Int)/\s.2.2.2=l/\Kn s.2.2.1 l/\l.length<=t.l.length+1+cm (c.Kids.take i)) (fun o l=>∃m known,o= .next (m,l,known)/\Kn known l) (fun o e=>∃t,o= .done (false,t)/\t.m=mist f e) (fun i k s l hk h=>by
        obtain⟨_,m,known,_⟩:=s
        obtain⟨rfl,rfl,hKn,hlen⟩:=h
        dsimp only at hKn hlen ⊢
        rename_i l
        have hi:=yx hk
        have hz:=yp hk
        have hkB:=ri hc.2 (jn hk)
        replace hkB:=afy hkB
        have nx:∀(m':B4) (known':GMap B3 Bool) (l':List B0),memX c.Text f l k= .inl l'->Kn known' l'->Ok (Step (fun s l=>s.1=((i+1:Nat):Int)/\s.2.2.2=l/\Kn s.2.2.1 l/\l.length<=t.l.length+1+cm (c.Kids.take (i+1))) (fun o e=>∃t,o= .done (false,t)/\t.m=mist f e) (memX c.Text f l k)) (kn i false m' known' l'):=fun m' known' l' h1 h2=>by
          have:=aww h1
          unfold kn
          rw[if_neg sm,agu om,h1]
          exact .mk ⟨_,rfl,rfl,rfl,h2,by omega⟩
        unfold kl vf
        rw[if_pos (ki hk),ib hk,Option.bind_some,ago om,Option.bind_some,Option.bind_some]
        unfold rk
        have ef:B0.mk 2 (amb c.Text k.Text) k.Text c.Text k.Type_ (k.N==1) [] f k.At=agw c.Text f k:=rfl
        rw[ef]
        refine .cond (fun h2=>?_) fun h2=>?_
        · rw[aym hKn (by unfold agw;simp) (by simp only;omega),Option.bind_some]
          have em:memX c.Text f l k=if dup l (agw c.Text f k)=true then .inr (.inl (agw c.Text f k))else .inl (l++[agw c.Text f k]):=by
            unfold memX
            rw[if_pos h2]
          by_cases hd2:dup l (agw c.Text f k)=true
          · rw[if_pos hd2]
            dsimp only
            unfold km
            rw[if_pos (by rfl),em,if_pos hd2]
            exact .mk ⟨_,rfl,_,rfl,rfl⟩
          · rw[if_neg hd2]
            dsimp only
            unfold km
            have h3:(k.Kind==3)=false:=by
              have:k.Kind=2:=by simpa using h2
              simp[this]
            rw[if_neg sm,if_neg (by rw[h3];simp)]
            exact nx _ _ _ (by rw[em,if_neg hd2]) (hKn.put _)
        · unfold km
          rw[if_neg sm]
          refine .cond (fun h3=>?_) fun h3=>?_
          · refine .bd (a0a (f:=f) (c:=c.Text) (k:=k) (t:=B5.mk l known m) (e:=agw c.Text f k) rfl (by simpa using h3) om om hKn (by simp only;omega)) ?_
            rintro⟨b,t'⟩ hb
            dsimp only at hb ⊢
            cases hx:memX c.Text f l k with
            |inl l'=>
              rw[hx]at hb
              obtain⟨h1,h2,h4⟩:=hb
              dsimp only at h1 h2 h4
              subst h1 h2
              have:=nx t'.m t'.known t'.l hx h4
              rw[hx]at this
              exact this
            |inr e=>
              rw[hx]at hb
              obtain⟨h1,h2⟩:=hb
              dsimp only at h1 h2
              subst h1
              unfold kn
              rw[if_pos (by rfl)]
              exact .mk ⟨_,rfl,_,rfl,h2⟩
          · refine nx m known l ?_ hKn
            unfold memX
            rw[if_neg (by rw[h2];simp),if_neg (by rw[h3];simp)]) (fun s l h=>by
        obtain⟨_,m,known,_⟩:=s
        obtain⟨rfl,rfl,hKn,hlen⟩:=h
        dsimp only
        unfold kl
        rw[if_neg (kj (Nat.le_refl _))]
        exact .mk ⟨_,rfl,_,_,rfl,hKn⟩) c.Kids 0 (0,t.m,gset (B3.mk (adn f c).Kind (adn f c).Owner (adn f c).Name) true t.known,t.l++[adn f c]) (t.l++[adn f c]) rfl (Nat.zero_le _) ⟨rfl,rfl,hK.put _,by simp[cm]⟩
    refine .bd ⟨o,e1,ho⟩ fun o ho=>?_
    revert ho
    cases rowF (fun _ l k=>memX c.Text f l k) 0 c.Kids (t.l++[adn f c])with
    |inl l=>
      rintro⟨m,known,rfl,hKn⟩
      exact .mk ⟨rfl,rfl,hKn⟩
    |inr e=>
      rintro⟨t,rfl,h⟩
      exact .mk ⟨rfl,h⟩
theorem a17 {f:Int} {l l':List B0} {c:B6} (h:clsX f l c= .inl l'):l'.length<=l.length+eh c:=by
 unfold clsX at h
 split at h
 ·cases h
 ·have key:∀(r:List B6) (i:Nat) (l l':List B0),rowF (fun _ l k=>memX c.Text f l k) i r l= .inl l'->l'.length<=l.length+cm r:=by
   intro r
   induction r with
   |nil=>intro i l l' h;cases h;simp[cm]
   |cons x r ih=>
    intro i l l' h
    unfold rowF at h
    cases hx:memX c.Text f l x with
    |inl l2=>
     rw[hx]at h
     have:=ih _ _ _ h
     have:=aww hx
     simp only[cm]
     omega
    |inr e=>rw[hx]at h;cases h
  have:=key _ _ _ _ h
  rw[ko c]
  simp at this
  omega
theorem awm {f:Int} {l l':List B0} {c:B6} (h:tabC f l c= .inl l'):l'.length<=l.length+eh c:=by
 unfold tabC at h
 split at h
 ·split at h
  ·rename_i h2
   cases h
   exact a17 h2
  ·cases h
 ·cases h;omega
def FileG (l:List B6):Prop:=okBL 1500 l/\(∀c∈l,eh c<=1500)/\∀c∈l,CP c
def nsz :List (List B6)->Nat
 | []=>0
 |l::r=>cm l+nsz r
structure D7 (files:List (List B6)):Prop where
 six:files.length<=6
 each:∀l∈files,FileG l
 all:nsz files<=9000
theorem aji :∀{l:List (List B6)} {i:Nat} {x:List B6},l[i]? =some x->nsz (l.take (i+1))=nsz (l.take i)+cm x/\nsz (l.take (i+1))<=nsz l
 | [],_,_,h=>by simp at h
 |y::l,0,x,h=>by
  simp only[List.getElem?_cons_zero,Option.some.injEq]at h
  subst h
  simp[nsz]
 |y::l,i+1,x,h=>by
  have:=aji (l:=l) (i:=i) (x:=x) (by simpa using h)
  simp only[List.take_succ_cons,nsz]
  omega
theorem awt :∀{l:List B6} {c:B6},c∈l->eh c<=cm l
 |y::l,c,h=>by
  simp only[cm]
  rcases List.mem_cons.1 h with rfl|h
  ·omega
  ·have:=awt h
   omega
theorem D7.of {files:List (List B6)} (h:files.length<=6/\∀l∈files,ar1 1500 l):D7 files:=by
 refine⟨h.1,fun l hl=>?_,?_⟩
 ·obtain⟨a,b,c⟩:=h.2 l hl
  exact⟨a,fun x hx=>by have:=awt hx;omega,c⟩
 ·have key:∀fs:List (List B6),(∀l∈fs,ar1 1500 l)->nsz fs<=1500 * fs.length:=by
   intro fs
   induction fs with
   |nil=>intro _;simp[nsz]
   |cons l r ih=>
    intro h
    have a:=(h l List.mem_cons_self).2.1
    have b:=ih fun x hx=>h x (List.mem_cons_of_mem _ hx)
    simp only[nsz,List.length_cons]
    omega
  have:=key files h.2
  omega
theorem aj7 {files:List (List B6)} (hF:D7 files):aa1 files=some (tabR (tab files)):=by
  unfold aa1
  obtain⟨o,e1,ho⟩:=rowM (l:=files) (f:=fun s:Int × GMap B3 Bool × B4 × List B0=>ow files s.1 s.2.1 s.2.2.1 s.2.2.2) (fun f l file=>rowF (fun _ l c=>tabC f l c) 0 file l)
    (fun i s l=>s.1=(i:Int)/\s.2.2.2=l/\Kn s.2.1 l/\l.length<=nsz (files.take i)) (fun o l=>∃known m,o= .next (known,m,l)) (fun o e=>o= .done ([],e)) (fun i file s l hf h=>by
      obtain⟨_,known,m,_⟩:=s
      obtain⟨rfl,rfl,hKn,hlen⟩:=h
      dsimp only at hKn hlen ⊢
      rename_i l0
      have hi:=tp hf
      obtain⟨hB,hC,_⟩:=hF.each _ (jn hf)
      have h6:=hF.six
      have h9:=hF.all
      have hN:=aji hf
      unfold ow
      rw[if_pos (ki hf),ib hf,Option.bind_some]
      obtain⟨o,e1,ho⟩:=rowM (l:=file) (f:=fun s:Int × GMap B3 Bool × B4 × List B0=>rf file i s.1 s.2.1 s.2.2.1 s.2.2.2) (fun _ l c=>tabC (i:Int) l c)
        (fun j s l=>s.1=(j:Int)/\s.2.2.2=l/\Kn s.2.1 l/\l.length<=l0.length+cm (file.take j)) (fun o l=>∃known m,o= .next (known,m,l)/\Kn known l/\l.length<=l0.length+cm file) (fun o e=>o= .done (.inr (.done ([],e)))) (fun j c s l hc h=>by
          obtain⟨_,known,m,_⟩:=s
          obtain⟨rfl,rfl,hKn,hlen⟩:=h
          dsimp only at hKn hlen ⊢
          rename_i l
          have hj:=yx hc
          have hz:=yp hc
          have hcB:=ri hB (jn hc)
          have hcN:=hC c (jn hc)
          unfold rf
          rw[if_pos (ki hc),ib hc,Option.bind_some]
          have nx:∀(m':B4) (known':GMap B3 Bool) (l':List B0),tabC i l c= .inl l'->Kn known' l'->Ok (Step (fun s l=>s.1=((j+1:Nat):Int)/\s.2.2.2=l/\Kn s.2.1 l/\l.length<=l0.length+cm (file.take (j+1))) (fun o e=>o= .done (.inr (.done ([],e)))) (tabC i l c)) (rg j false m' known' l'):=fun m' known' l' h1 h2=>by
            have:=awm h1
            unfold rg
            rw[if_neg sm,agu om,h1]
            exact .mk ⟨_,rfl,rfl,rfl,h2,by omega⟩
          refine .cond (fun h1=>?_) fun h1=>?_
          · refine .bd (a19 (f:=i) (c:=c) (t:=B5.mk l known m) om hcB hKn (by simp only;omega)) ?_
            rintro⟨b,t'⟩ hb
            dsimp only at hb ⊢
            have et:tabC i l c=match clsX i l c with| .inl l'=> .inl l'| .inr e=> .inr (mist i e):=by
              unfold tabC
              rw[if_pos h1]
              try (cases clsX i l c<;>rfl)
            cases hx:clsX i l c with
            |inl l'=>
              rw[hx]at hb et
              obtain⟨h1,h2,h4⟩:=hb
              dsimp only at h1 h2 h4 et
              subst h1 h2
              exact nx t'.m t'.known t'.l et h4
            |inr e=>
              rw[hx]at hb et
              obtain⟨h1,h2⟩:=hb
              dsimp only at h1 h2 et
              subst h1
              unfold rg acf
              rw[if_pos (by rfl),et,h2]
              exact .mk ⟨_,rfl,rfl⟩
          · refine nx m known l ?_ hKn
            unfold tabC
            rw[if_neg (by rw[h1];simp)]) (fun s l h=>by
          obtain⟨_,known,m,_⟩:=s
          obtain⟨rfl,rfl,hKn,hlen⟩:=h
          rw[List.take_length]at hlen
          dsimp only
          unfold rf
          rw[if_neg (kj (Nat.le_refl _))]
          exact .mk ⟨_,rfl,_,_,rfl,hKn,hlen⟩) file 0 (0,known,m,l0) l0 rfl (Nat.zero_le _) ⟨rfl,rfl,hKn,by omega⟩
      refine .bd ⟨o,e1,ho⟩ fun o ho=>?_
      revert ho
      cases rowF (fun _ l c=>tabC (i:Int) l c) 0 file l0 with
      |inl l=>
        rintro⟨known,m,rfl,hKn,hl⟩
        dsimp only
        unfold ace
        rw[agu om]
        exact .mk ⟨_,rfl,rfl,rfl,hKn,by omega⟩
      |inr e=>
        rintro rfl
        exact .mk ⟨_,rfl,rfl⟩) (fun s l h=>by
      obtain⟨_,known,m,_⟩:=s
      obtain⟨rfl,rfl,hKn,hlen⟩:=h
      dsimp only
      unfold ow
      rw[if_neg (kj (Nat.le_refl _))]
      exact .mk ⟨_,rfl,_,_,rfl⟩) files 0 (0,([]:GMap B3 Bool),(B4.mk 0 0 0),[]) [] rfl (Nat.zero_le _) ⟨rfl,rfl,Kn.nil,Nat.le_refl _⟩
  have e':iter (fun s=>ow files s.1 s.2.1 s.2.2.1 s.2.2.2) (0,([]:GMap B3 Bool),(B4.mk 0 0 0),[])=some o:=e1
  rw[e',Option.bind_some]
  unfold tab
  revert ho
  cases rowF (fun(f:Nat) (l:List B0) (file:List B6)=>rowF (fun _ l c=>tabC f l c) 0 file l) 0 files []with
  |inl l=>rintro⟨known,m,rfl⟩;rfl
  |inr e=>rintro rfl;rfl
end Go.Proofs.YtcndghapmoaidaaGreatDoor
set_option linter.unusedSectionVars false
set_option linter.unusedVariables false
set_option linter.unusedSimpArgs false
set_option maxRecDepth 100000
set_option maxHeartbeats 4000000
namespace Go.Proofs.YtcndghapmoaidaaGreatDoor
open Go Go.Cn
variable [Glob]
def twF (pre:List B0):List B0->Option B0
 | []=>none
 |x::r=>if dup pre x=true then some x else twF (pre++[x]) r
theorem ayy :∀(l:List B0) (pre m:List B0),twF pre (l++m)=match twF pre l with|some e=>some e|none=>twF (pre++l) m
 | [],pre,m=>by simp[twF]
 |x::l,pre,m=>by
  show(if dup pre x=true then some x else twF (pre++[x]) (l++m))=match (if dup pre x=true then some x else twF (pre++[x]) l)with|some e=>some e|none=>twF (pre++x::l) m
  by_cases h:dup pre x=true
  ·rw[if_pos h,if_pos h]
  ·rw[if_neg h,if_neg h,ayy l (pre++[x]) m]
   cases twF (pre++[x]) l<;>simp
theorem aq6 :∀(m pre:List B0),(∀e∈m,e.Kind=4)->twF pre m=none
 | [],_,_=>rfl
 |x::m,pre,h=>by
  unfold twF
  have:dup pre x=false:=by
   unfold dup
   simp[h x List.mem_cons_self]
  rw[this,if_neg sm]
  exact aq6 m _ fun e he=>h e (List.mem_cons_of_mem _ he)
end Go.Proofs.YtcndghapmoaidaaGreatDoor
set_option linter.unusedSectionVars false
set_option linter.unusedVariables false
set_option linter.unusedSimpArgs false
set_option maxRecDepth 100000
set_option maxHeartbeats 4000000
namespace Go.Proofs.YtcndghapmoaidaaGreatDoor
open Go Go.Cn
variable [Glob]
end Go.Proofs.YtcndghapmoaidaaGreatDoor
