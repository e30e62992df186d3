/- The document's table is the plain one: files. -/
import Derived.Test.YtcndghapmoaidaaGreatDoorZT
import Derived.Test.YtcndghapmoaidaaGreatDoorZK
set_option linter.unusedSimpArgs false
set_option linter.unusedVariables false
set_option linter.unusedSectionVars false
set_option linter.unusedSectionVars false
set_option maxRecDepth 1000000
namespace Go.Proofs.YtcndghapmoaidaaGreatDoor
open Go Go.Cn
theorem awake17 :agh=some true:=by decide+kernel
end Go.Proofs.YtcndghapmoaidaaGreatDoor
set_option linter.unusedSectionVars false
set_option maxRecDepth 100000
namespace Go.Proofs.YtcndghapmoaidaaGreatDoor
open Go Go.Cn
variable [Glob]
theorem cu {n:Int} (h1: -9223372036854775808<=n) (h2:n<=9223372036854775807):w64 n=n:=by
 unfold w64 IntKind.wrap
 have e1:(2:Int) ^ (IntKind.i64.bits)=18446744073709551616:=rfl
 have e2:(2:Int) ^ (IntKind.i64.bits - 1)=9223372036854775808:=rfl
 have e3:IntKind.i64.signed=true:=rfl
 simp only[e1,e2,e3,Bool.true_and,decide_eq_true_eq]
 split<;>omega
theorem dw {α:Type} {l:List α} {i:Nat} {x:α} (h:l[i]? =some x):idx l i=some x:=by
 unfold idx
 rw[if_pos om,Int.toNat_natCast,h]
def kn {α γ:Type} (p:α->Bool) (g:Nat->α->γ):Nat->List α->Flow Unit γ
 |_,[]=> .next ()
 |i,x::r=>if p x=true then .done (g i x)else kn p g (i+1) r
theorem ir {α γ:Type} {l:List α} {f:Int->Option (Int ⊕ Flow Unit γ)} (p:α->Bool) (g:Nat->α->γ) (hl:l.length<=4000000000)
  (h1:∀(i:Nat) x,l[i]? =some x->f i=if p x=true then some (.inr (.done (g i x)))else some (.inl (w64 ((i:Int)+1)))) (h2:∀i:Nat,l.length<=i->f i=some (.inr (.next ()))):∀(r:List α) (i:Nat),l.drop i=r->iter f (i:Int)=some (kn p g i r)
 | [],i,h=>by
  have hi:l.length<=i:=by
   have:=congrArg List.length h
   simp at this
   omega
  exact c9 (h2 i hi)
 |x::r,i,h=>by
  have hx:l[i]? =some x:=by
   have:=congrArg (fun z=>z[0]?) h
   simpa using this
  have hi:=(List.getElem?_eq_some_iff.1 hx).1
  have hr:l.drop (i+1)=r:=by
   have:=congrArg List.tail h
   simpa using this
  have e:=h1 i x hx
  unfold kn
  by_cases hp:p x=true
  ·rw[if_pos hp]at e ⊢
   exact c9 e
  ·rw[if_neg hp]at e ⊢
   rw[f9 e,cu om om]
   exact ir p g hl h1 h2 r (i+1) hr
def fin {γ:Type} (d:γ):Flow Unit γ->γ
 | .next _=>d
 | .done r=>r
def isC (id:Bt) (e:A9):Bool:=e.Kind==1&&e.Id==id
abbrev alc :A9:=A9.mk 0 [] [] [] [] false [] 0 0
def cls (l:List A9) (id:Bt):A9 × Bool:=match l.find? (isC id)with|some e=>(e,true)|none=>(alc,false)
theorem afq (id:Bt):∀(l:List A9) (i:Nat),fin (alc,false) (kn (isC id) (fun _ x=>(x,true)) i l)=cls l id
 | [],_=>rfl
 |x::r,i=>by
  unfold kn
  by_cases hp:isC id x=true
  ·rw[if_pos hp];unfold cls;rw[List.find?_cons_of_pos hp];rfl
  ·rw[if_neg hp]
   have h:=afq id r (i+1)
   unfold cls at h ⊢
   rw[List.find?_cons_of_neg hp]
   exact h
theorem gn {α:Type} {l:List α} {i:Nat} {x:α} (h:l[i]? =some x):decide ((i:Int)<(l.length:Int))=true:=by
 have:=(List.getElem?_eq_some_iff.1 h).1
 simpa using this
theorem gw {α:Type} {l:List α} {i:Nat} (h:l.length<=i):¬decide ((i:Int)<(l.length:Int))=true:=by
 simpa using h
theorem ahw {l:List A9} (hl:l.length<=4000000000) (id:Bt):ac1 l id=some (cls l id):=by
 have h:=ir (l:=l) (f:=fun s=>tp l id s) (isC id) (fun _ x=>(x,true)) hl (fun i x hx=>by
  unfold tp abq isC
  rw[if_pos (gn hx),dw hx]
  simp only[Option.bind_some]
  cases h1:(x.Kind==1)<;>simp) (fun i hi=>by
  unfold tp
  rw[if_neg (gw hi)]) l 0 rfl
 unfold ac1
 rw[show((0:Nat):Int)=0 from rfl]at h
 rw[h,Option.bind_some]
 refine Eq.trans ?_ (congrArg some (afq id l 0))
 cases kn (isC id) (fun _ x=>(x,true)) 0 l<;>rfl
theorem ai7 {l:List A9} (hl:l.length<=4000000000) (id:Bt):ac4 l id=some (cls l id):=by
 have h:=ir (l:=l) (f:=fun s=>aag l id s) (isC id) (fun _ x=>(x,true)) hl (fun i x hx=>by
  unfold aag ae0 isC
  rw[if_pos (gn hx),dw hx]
  simp only[Option.bind_some]
  cases h1:(x.Kind==1)<;>simp) (fun i hi=>by
  unfold aag
  rw[if_neg (gw hi)]) l 0 rfl
 unfold ac4
 rw[show((0:Nat):Int)=0 from rfl]at h
 rw[h,Option.bind_some]
 refine Eq.trans ?_ (congrArg some (afq id l 0))
 cases kn (isC id) (fun _ x=>(x,true)) 0 l<;>rfl
theorem oc {l:List A9} (hl:l.length<=4000000000) (id:Bt):ms l id=some (cls l id):=by
 have h:=ir (l:=l) (f:=fun s=>wn l id s) (isC id) (fun _ x=>(x,true)) hl (fun i x hx=>by
  unfold wn ab1 isC
  rw[if_pos (gn hx),dw hx]
  simp only[Option.bind_some]
  cases h1:(x.Kind==1)<;>simp) (fun i hi=>by
  unfold wn
  rw[if_neg (gw hi)]) l 0 rfl
 unfold ms
 rw[show((0:Nat):Int)=0 from rfl]at h
 rw[h,Option.bind_some]
 refine Eq.trans ?_ (congrArg some (afq id l 0))
 cases kn (isC id) (fun _ x=>(x,true)) 0 l<;>rfl
theorem an6 {α:Type} (p:α->Bool):∀(l:List α) (i:Nat),decide (fin (-1:Int) (kn p (fun i _=>(i:Int)) i l)≥0)=l.any p
 | [],_=>rfl
 |x::r,i=>by
  unfold kn
  by_cases hp:p x=true
  ·rw[if_pos hp,List.any_cons,hp,Bool.true_or]
   simp[fin]
  ·rw[if_neg hp,List.any_cons,Bool.eq_false_iff.2 hp,Bool.false_or]
   exact an6 p r (i+1)
theorem ai1 {l:List A9} (hl:l.length<=4000000000) (id:Bt):aga l id=some (cls l id).2:=by
 have hp:∀a0,acg a0 id=some (isC id a0):=fun a0=>by
  unfold acg abz isC
  cases h1:(a0.Kind==1)<;>simp
 have h:=ir (l:=l) (f:=fun s=>fg l (fun a0=>acg a0 id) s) (isC id) (fun i _=>(i:Int)) hl (fun i x hx=>by
  unfold fg
  rw[if_pos (gn hx),dw hx]
  simp only[Option.bind_some,hp]) (fun i hi=>by
  unfold fg
  rw[if_neg (gw hi)]) l 0 rfl
 unfold aga kq l9
 rw[show((0:Nat):Int)=0 from rfl]at h
 rw[h,Option.bind_some]
 have h2:=an6 (isC id) l 0
 have h3:(cls l id).2=l.any (isC id):=by
  unfold cls
  cases hf:l.find? (isC id)with
  |none=>
   have:=List.find?_eq_none.1 hf
   simp only
   symm
   rw[List.any_eq_false]
   exact this
  |some e=>exact(List.any_eq_true.2 ⟨e,List.mem_of_find?_eq_some hf,List.find?_some hf⟩).symm
 rw[h3,← h2]
 unfold ko
 cases kn (isC id) (fun i _=>(i:Int)) 0 l<;>rfl
theorem aog (x:Bt):∀(l:List Bt) (i:Nat),fin false (kn (fun y=>y==x) (fun _ _=>true) i l)=l.any (·==x)
 | [],_=>rfl
 |y::r,i=>by
  unfold kn
  by_cases hp:(y==x)=true
  ·rw[if_pos hp,List.any_cons,hp,Bool.true_or];rfl
  ·rw[if_neg hp,List.any_cons,Bool.eq_false_iff.2 hp,Bool.false_or]
   exact aog x r (i+1)
theorem aon {l:List Bt} (hl:l.length<=4000000000) (x:Bt):am6 l x=some (l.any (·==x)):=by
 have h:=ir (l:=l) (f:=fun s=>agd l x s) (fun y=>y==x) (fun _ _=>true) hl (fun i y hy=>by
  unfold agd
  rw[if_pos (gn hy),dw hy]
  simp only[Option.bind_some]) (fun i hi=>by
  unfold agd
  rw[if_neg (gw hi)]) l 0 rfl
 unfold am6
 rw[show((0:Nat):Int)=0 from rfl]at h
 rw[h,Option.bind_some,← aog x l 0]
 cases kn (fun y=>y==x) (fun _ _=>true) 0 l<;>rfl
theorem agc {l:List Bt} (hl:l.length<=4000000000) (x:Bt):aie x l=some (l.any (·==x)):=by
 have h:=ir (l:=l) (f:=fun s=>agb l x s) (fun y=>y==x) (fun _ _=>true) hl (fun i y hy=>by
  unfold agb
  rw[if_pos (gn hy),dw hy]
  simp only[Option.bind_some]) (fun i hi=>by
  unfold agb
  rw[if_neg (gw hi)]) l 0 rfl
 unfold aie
 rw[show((0:Nat):Int)=0 from rfl]at h
 rw[h,Option.bind_some,← aog x l 0]
 cases kn (fun y=>y==x) (fun _ _=>true) 0 l<;>rfl
end Go.Proofs.YtcndghapmoaidaaGreatDoor
set_option linter.unusedSectionVars false
set_option maxRecDepth 100000
namespace Go.Proofs.YtcndghapmoaidaaGreatDoor
open Go Go.Cn
variable [Glob]
theorem awl {β:Type} [DecidableEq β]:∀(a m:List β),a.Nodup->(∀x∈a,x∈m)->a.length<=m.length
 | [],_,_,_=>Nat.zero_le _
 |x::a,m,hn,hs=>by
  have hx:=hs x List.mem_cons_self
  have h1:=awl a (m.erase x) (List.nodup_cons.1 hn).2 (fun y hy=>by
   refine(List.mem_erase_of_ne (fun e=>?_)).2 (hs y (List.mem_cons_of_mem _ hy))
   exact(List.nodup_cons.1 hn).1 (e▸hy))
  rw[List.length_erase_of_mem hx]at h1
  have:=List.length_pos_of_mem hx
  simp only[List.length_cons]
  omega
theorem awa {l:List A9} {id:Bt} (h:(cls l id).2=true):(cls l id).1.Id=id/\(cls l id).1∈l:=by
 unfold cls at h ⊢
 cases hf:l.find? (isC id)with
 |none=>rw[hf]at h;cases h
 |some e=>
  have h1:=List.find?_some hf
  unfold isC at h1
  rw[Bool.and_eq_true]at h1
  exact⟨by simpa using h1.2,List.mem_of_find?_eq_some hf⟩
def path (l:List A9):Nat->Bt->List Bt->List Bt
 | 0,_,_=>[]
 |n+1,id,told=>if(cls l id).2=true then(if told.any (·==id)=true then[]else id::path l n (cls l id).1.Type_ (told++[id]))else[]
structure Told (l:List A9) (n:Nat) (told:List Bt):Prop where
 len:n+told.length=l.length+1
 nodup:told.Nodup
 sub:∀x∈told,x∈l.map A9.Id
theorem Told.pos {l:List A9} {n:Nat} {told:List Bt} (h:Told l n told):∃m,n=m+1:=by
 cases n with
 |succ n=>exact⟨n,rfl⟩
 |zero=>
  have:=awl told _ h.nodup h.sub
  rw[List.length_map]at this
  have:=h.len
  omega
theorem any_mem {told:List Bt} {id:Bt}:told.any (·==id)=true↔id∈told:=by
 rw[List.any_eq_true]
 exact⟨fun⟨x,h1,h2⟩=>(by simpa using h2:x=id)▸h1,fun h=>⟨id,h,by simp⟩⟩
theorem Told.next {l:List A9} {n:Nat} {told:List Bt} {id:Bt} (h:Told l (n+1) told) (hc:(cls l id).2=true) (ht:¬told.any (·==id)=true):Told l n (told++[id]) where
 len:=by have:=h.len;simp;omega
 nodup:=by
  rw[List.nodup_append]
  refine⟨h.nodup,by simp,fun a ha b hb=>?_⟩
  rw[List.mem_singleton.1 hb]
  exact fun e=>ht (any_mem.2 (e▸ha))
 sub:=fun x hx=>by
  rcases List.mem_append.1 hx with hx|hx
  ·exact h.sub x hx
  ·rw[List.mem_singleton.1 hx]
   obtain⟨h1,h2⟩:=awa hc
   exact List.mem_map.2 ⟨_,h2,h1⟩
theorem nz {α:Type} {n:Nat} {l m:List α} (h:(l.length+m.length) * n<=140737488355328) (h2:l.length+m.length<=140737488355328):app n l m=some (l++m):=by
 unfold app
 rw[if_pos ⟨h,by omega⟩]
theorem aol {l:List A9} (hl:l.length<=1000000):∀(n:Nat) (id:Bt) (out:List Bt),Told l n out->
  iter (fun s=>aai l s.1 s.2) (id,out)=some (out++path l n id out)
 | 0,_,_,h=>by obtain⟨m,hm⟩:=h.pos;cases hm
 |n+1,id,out,h=>by
  have hlen:out.length<=1000000:=by have:=h.len;omega
  have e:aai l id out=if(cls l id).2=true then(if out.any (·==id)=true then some (.inr out)else some (.inl ((cls l id).1.Type_,out++[id])))else some (.inr out):=by
   unfold aai ae2
   rw[ai7 om,aon om,nz so so]
   simp only[Option.bind_some]
   cases (cls l id).2<;>cases out.any (·==id)<;>rfl
  unfold path
  by_cases hc:(cls l id).2=true
  ·rw[if_pos hc]at e ⊢
   by_cases ht:out.any (·==id)=true
   ·rw[if_pos ht]at e ⊢
    rw[List.append_nil]
    exact c9 e
   ·rw[if_neg ht]at e ⊢
    rw[f9 (s':=((cls l id).1.Type_,out++[id])) e,aol hl n _ _ (h.next hc ht),List.append_assoc]
    rfl
  ·rw[if_neg hc]at e ⊢
   rw[List.append_nil]
   exact c9 e
theorem az8 (l:List A9):Told l (l.length+1) []:=⟨rfl,List.nodup_nil,fun _ h=>nomatch h⟩
def below (l:List A9) (id other:Bt):Bool:=(path l (l.length+1) id []).any (·==other)
theorem ar7 (l:List A9):∀(n:Nat) (id:Bt) (told:List Bt),(path l n id told).length<=n
 | 0,_,_=>Nat.le_refl _
 |n+1,id,told=>by
  unfold path
  split
  ·split
   ·exact Nat.zero_le _
   ·have:=ar7 l n (cls l id).1.Type_ (told++[id])
    simp only[List.length_cons]
    omega
  ·exact Nat.zero_le _
theorem ai9 {l:List A9} (hl:l.length<=1000000) (id other:Bt):age l id other=some (below l id other):=by
 unfold age agf
 rw[aol hl _ id [] (az8 l),Option.bind_some,aon (by have:=ar7 l (l.length+1) id [];simp only[List.nil_append];omega)]
 rfl
theorem arf {l:List A9} (hl:l.length<=1000000) (other:Bt):∀(n:Nat) (id:Bt) (told:List Bt) (m:SMap Bool),Told l n told->(∀k,mget k false m=told.any (·==k))->
    ∃i z,iter (fun s=>j0 (yldX (fun(_:Unit) (a:A9)=>tr other a)) l s.1 s.2.1 s.2.2) (id,.inl (),m)=some (l,i,z)/\(match z with| .inl _=>false| .inr _=>true)=(path l n id told).any (·==other)
  | 0,_,_,_,h,_=>by obtain⟨m,hm⟩:=h.pos;cases hm
  |n+1,id,told,m,h,hm=>by
    have e:j0 (yldX (fun(_:Unit) (a:A9)=>tr other a)) l id (.inl ()) m=
        if(cls l id).2=true then(if told.any (·==id)=true then some (.inr (l,id,.inl ()))else(if((cls l id).1.Id==other)=true then some (.inr (l,id,.inr (cls l id).1))else some (.inl ((cls l id).1.Type_,.inl (),mset id true m))))else some (.inr (l,id,.inl ())):=by
      unfold j0 pk
      rw[ahw om,hm]
      simp only[Option.bind_some,yldX,tr]
      cases (cls l id).2<;>cases told.any (·==id)<;>cases ((cls l id).1.Id==other)<;>rfl
    unfold path
    by_cases hc:(cls l id).2=true
    · rw[if_pos hc]at e ⊢
      by_cases ht:told.any (·==id)=true
      · rw[if_pos ht]at e ⊢
        exact⟨_,_,c9 e,rfl⟩
      · rw[if_neg ht]at e ⊢
        rw[(awa hc).1]at e
        by_cases ho:(id==other)=true
        · rw[if_pos ho]at e
          exact⟨_,_,c9 e,by rw[List.any_cons,ho];rfl⟩
        · rw[if_neg ho]at e
          obtain⟨i,z,h1,h2⟩:=arf hl other n (cls l id).1.Type_ (told++[id]) (mset id true m) (h.next hc ht) (fun k=>by
            rw[aj5,hm,List.any_append]
            by_cases hk:id=k
            · rw[if_pos hk,hk];simp
            · rw[if_neg hk]
              have:(id==k)=false:=by simpa using hk
              simp[this])
          refine⟨i,z,?_,?_⟩
          · rw[f9 (s':=((cls l id).1.Type_,.inl (),mset id true m)) e]
            exact h1
          · rw[h2,List.any_cons,Bool.eq_false_iff.2 ho,Bool.false_or]
    · rw[if_neg hc]at e ⊢
      exact⟨_,_,c9 e,rfl⟩
theorem amn {l:List A9} (hl:l.length<=1000000) (id other:Bt):afm l id other=some (below l id other):=by
 obtain⟨i,z,h1,h2⟩:=arf hl other (l.length+1) id [] [] (az8 l) (fun k=>rfl)
 unfold afm zw
 rw[h1,Option.bind_some]
 unfold below
 rw[← h2]
 cases z<;>rfl
abbrev tInt :Bt:=[105,110,116]
abbrev anj :Bt:=[98,111,111,108,101,97,110]
abbrev axz :Bt:=[118,111,105,100]
abbrev auu :Bt:=[110,117,108,108]
def may (l:List A9) (a b:Bt):Bool:=
 if(a==[]||a==axz)=true then false
 else if(a==b)=true then(cls l b).2||b==tInt||b==anj
 else if(cls l b).2=false then false
 else if(a==auu)=true then true
 else(cls l a).2&&below l a b
theorem ahn {l:List A9} (hl:l.length<=1000000) (a b:Bt):ag9 l a b=some (may l a b):=by
 unfold ag9 ahl adx ahm may
 rw[ai1 om,ai1 om,amn hl]
 simp only[Option.bind_some]
 cases (a==([]:Bt))<;>cases (a==axz)<;>cases (a==b)<;>cases (cls l b).2<;>cases (b==tInt)<;>cases (b==anj)<;>cases (a==auu)<;>cases (cls l a).2<;>rfl
theorem ahr {l:List A9} (hl:l.length<=1000000) (a b:Bt):ahb l a b=some (may l a b):=by
 unfold ahb ahq abe ad2 may
 rw[oc om,oc om,ai9 hl]
 simp only[Option.bind_some]
 by_cases hab:(a==b)=true
 ·have:a=b:=by simpa using hab
  subst this
  cases (a==([]:Bt))<;>cases (a==axz)<;>cases (cls l a).2<;>cases h1:(a==tInt)<;>cases h2:(a==anj)<;>cases (a==auu)<;>simp_all
 ·rw[Bool.eq_false_iff.2 hab]
  cases (a==([]:Bt))<;>cases (a==axz)<;>cases (cls l b).2<;>cases (a==auu)<;>cases (cls l a).2<;>rfl
end Go.Proofs.YtcndghapmoaidaaGreatDoor
set_option linter.unusedSectionVars false
set_option maxRecDepth 100000
set_option maxHeartbeats 4000000
namespace Go.Proofs.YtcndghapmoaidaaGreatDoor
open Go Go.Cn
variable [Glob]
def ayd :List Bt:=[[43],[45],[42],[47],[37],[60],[60,61],[62],[62,61],[38,38],[124,124],[61,61],[33,61]]
theorem av6 {l:List A9} (hl:l.length<=1000000) (op a b:Bt):∃r,aet l op a b=some r/\aew l op a b=some r:=by
 unfold aet na qm zx zy u5 nc rk xj
 unfold aew z5 z6 z7 cn
 rw[ahn hl,ahn hl,ahr hl,ahr hl,agc dcd,agc dcd,agc dcd,agc dcd]
 simp only[Option.bind_some,List.any_cons,List.any_nil,Bool.or_false]
 by_cases hop:op∈ayd
 ·generalize (a==tInt)=ai
  generalize (b==tInt)=bi
  generalize (a==anj)=ab
  generalize (b==anj)=bb
  generalize (a==auu)=an
  generalize (b==auu)=bn
  generalize may l a b=m1
  generalize may l b a=m2
  unfold ayd at hop
  simp only[List.mem_cons,List.not_mem_nil,or_false]at hop
  rcases hop with rfl|rfl|rfl|rfl|rfl|rfl|rfl|rfl|rfl|rfl|rfl|rfl|rfl<;>
   cases ai<;>cases bi<;>cases ab<;>cases bb<;>cases an<;>cases bn<;>cases m1<;>cases m2<;>exact⟨_,rfl,rfl⟩
 ·unfold ayd at hop
  simp only[List.mem_cons,List.not_mem_nil,or_false,not_or]at hop
  obtain⟨h1,h2,h3,h4,h5,h6,h7,h8,h9,h10,h11,h12,h13⟩:=hop
  have f:∀{c:Bt},¬op=c->(op==c)=false/\(c==op)=false:=fun h=>⟨by simpa using h,by simpa using fun e=>h e.symm⟩
  rw[(f h1).1,(f h2).1,(f h3).1,(f h4).1,(f h5).1,(f h6).1,(f h7).1,(f h8).1,(f h9).1,(f h10).1,(f h11).1,(f h12).1,(f h13).1,
   (f h1).2,(f h2).2,(f h3).2,(f h4).2,(f h5).2,(f h6).2,(f h7).2,(f h8).2,(f h9).2,(f h10).2,(f h11).2,(f h12).2,(f h13).2]
  cases (a==tInt)<;>cases (b==tInt)<;>cases (a==anj)<;>cases (b==anj)<;>exact⟨_,rfl,rfl⟩
theorem ax5 {l:List A9} {names:List Bt} (hl:l.length<=60) (i:Nat) (hi:i<names.length):∀(d k:Nat),d=names.length - k->iter (fun s=>ky names (i:Int) l s.1 s.2) (true,(k:Int))=some true
 | 0,k,hd=>by
  refine c9 ?_
  show ky names (i:Int) l true (k:Int)=_
  unfold ky qn
  rw[if_neg so]
  rfl
 |d+1,k,hd=>by
  by_cases h9:k<9
  ·have hk:k<names.length:=by omega
   have e1:=dw (List.getElem?_eq_getElem hi)
   have e2:=dw (List.getElem?_eq_getElem hk)
   have e3:idx names 0=some (names[0]'om):=by
    have:=dw (l:=names) (i:=0) (List.getElem?_eq_getElem om)
    simpa using this
   obtain⟨r,g1,g2⟩:=av6 (l:=l) om (names[0]'om) names[i] names[k]
   have e:ky names (i:Int) l true (k:Int)=some (.inl (true,((k+1:Nat):Int))):=by
    unfold ky qn
    rw[if_pos (by simpa using hk),if_pos so,if_pos rfl,e1,e2,e3]
    simp only[Option.bind_some]
    rw[ahn om,ahr om]
    simp only[Option.bind_some]
    rw[if_pos sm,g1,g2]
    simp only[Option.bind_some]
    rw[cu om om]
    simp
   rw[f9 (s':=(true,((k+1:Nat):Int))) e]
   exact ax5 hl i hi d (k+1) om
  ·refine c9 ?_
   show ky names (i:Int) l true (k:Int)=_
   unfold ky qn
   have h:decide ((k:Int)<9)=false:=by simp;omega
   rw[h]
   split<;>rfl
end Go.Proofs.YtcndghapmoaidaaGreatDoor
set_option linter.unusedSectionVars false
set_option maxRecDepth 100000
set_option maxHeartbeats 4000000
namespace Go.Proofs.YtcndghapmoaidaaGreatDoor
open Go Go.Cn
variable [Glob]
def ownP (kind:Int) (name id:Bt) (e:A9):Bool:=e.Kind==kind&&e.Owner==id&&e.Name==name
def has (l:List A9) (kind:Int) (id name:Bt):A9 × Bool:=
 match (path l (l.length+1) id []).findSome? (fun a=>l.find? (ownP kind name a))with|some e=>(e,true)|none=>(alc,false)
theorem alu (kind:Int) (name id:Bt) {γ:Type} (g:A9->γ):∀(l:List A9) (i:Nat),kn (ownP kind name id) (fun _ x=>g x) i l=match l.find? (ownP kind name id)with|some e=> .done (g e)|none=> .next ()
 | [],_=>rfl
 |x::r,i=>by
  unfold kn
  by_cases hp:ownP kind name id x=true
  ·rw[if_pos hp,List.find?_cons_of_pos hp]
  ·rw[if_neg hp,List.find?_cons_of_neg hp];exact alu kind name id g r (i+1)
theorem at1 {α γ:Type} {l:List α} {f:Int->Option (Int ⊕ Flow Unit γ)} (q:α->Option γ) (hl:l.length<=4000000000)
  (h1:∀(i:Nat) x,l[i]? =some x->f i=match q x with|some r=>some (.inr (.done r))|none=>some (.inl (w64 ((i:Int)+1)))) (h2:∀i:Nat,l.length<=i->f i=some (.inr (.next ()))):
  ∀(r:List α) (i:Nat),l.drop i=r->iter f (i:Int)=some (match r.findSome? q with|some r=> .done r|none=> .next ())
 | [],i,h=>by
  have hi:l.length<=i:=by
   have:=congrArg List.length h
   simp at this
   omega
  exact c9 (h2 i hi)
 |x::r,i,h=>by
  have hx:l[i]? =some x:=by
   have:=congrArg (fun z=>z[0]?) h
   simpa using this
  have hi:=(List.getElem?_eq_some_iff.1 hx).1
  have hr:l.drop (i+1)=r:=by
   have:=congrArg List.tail h
   simpa using this
  have e:=h1 i x hx
  cases hq:q x with
  |some z=>
   rw[hq]at e
   rw[List.findSome?_cons,hq]
   exact c9 e
  |none=>
   rw[hq]at e
   rw[List.findSome?_cons,hq,f9 e,cu om om]
   exact at1 q hl h1 h2 r (i+1) hr
theorem ant {l:List A9} (hl:l.length<=1000000) (kind:Int) (id name:Bt):abc l kind id name=some (has l kind id name):=by
 have hp:=ar7 l (l.length+1) id []
 have hin:∀(i:Nat) (a:Bt),(path l (l.length+1) id [])[i]? =some a->
   iter (fun s=>abf l kind (path l (l.length+1) id []) (i:Int) name s) 0=some (match l.find? (ownP kind name a)with|some e=> .done (.inr (.done (e,true)))|none=> .next ()):=fun i a ha=>by
  have h:=ir (l:=l) (f:=fun s=>abf l kind (path l (l.length+1) id []) (i:Int) name s) (ownP kind name a) (fun _ x=>((.inr (.done (x,true))):(Int) ⊕ (Flow Unit (A9 × Bool)))) om (fun k x hx=>by
   unfold abf ad6 ownP
   rw[if_pos (gn hx),dw hx,dw ha]
   simp only[Option.bind_some]
   cases (x.Kind==kind)<;>cases (x.Owner==a)<;>simp) (fun k hk=>by
   unfold abf
   rw[if_neg (gw hk)]) l 0 rfl
  rw[alu]at h
  exact h
 have h:=at1 (l:=path l (l.length+1) id []) (f:=fun s=>ad5 (path l (l.length+1) id []) l kind name s) (fun a=>(l.find? (ownP kind name a)).map fun e=>(e,true)) om (fun i a ha=>by
  unfold ad5 amg
  rw[if_pos (gn ha),hin i a ha]
  simp only[Option.bind_some]
  cases l.find? (ownP kind name a)<;>rfl) (fun i hi=>by
  unfold ad5
  rw[if_neg (gw hi)]) (path l (l.length+1) id []) 0 rfl
 unfold abc agf
 rw[aol hl _ id [] (az8 l),Option.bind_some,List.nil_append]
 rw[show((0:Nat):Int)=0 from rfl]at h
 rw[h,Option.bind_some]
 unfold has amh
 have e:∀p:List Bt,p.findSome? (fun a=>(l.find? (ownP kind name a)).map fun e=>(e,true))=(p.findSome? fun a=>l.find? (ownP kind name a)).map fun e=>(e,true):=by
  intro p
  induction p with
  |nil=>rfl
  |cons a p ih=>
   rw[List.findSome?_cons,List.findSome?_cons]
   cases l.find? (ownP kind name a)<;>simp[ih]
 rw[e]
 cases (path l (l.length+1) id []).findSome? (fun a=>l.find? (ownP kind name a))<;>rfl
theorem at8 {l:List A9} (hl:l.length<=1000000) (kind:Int) (name:Bt) (is:A9->Option Bool) (his:∀e,is e=some (e.Kind==kind&&e.Name==name)):∀(n:Nat) (id:Bt) (told:List Bt) (m:SMap Bool),Told l n told->(∀k,mget k false m=told.any (·==k))->
    ∃i z,iter (fun s=>j0 (yldX (fun(_:Unit) (a:A9)=>xx l is a)) l s.1 s.2.1 s.2.2) (id,.inl (),m)=some (l,i,z)/\(match z with| .inl _=>none| .inr y=>some y.1)=(path l n id told).findSome? (fun a=>l.find? (ownP kind name a))
  | 0,_,_,_,h,_=>by obtain⟨m,hm⟩:=h.pos;cases hm
  |n+1,id,told,m,h,hm=>by
    have hr:∀c:A9,xx l is c=some (match l.find? (ownP kind name c.Id)with|some e=>(false,.inr (e,c))|none=>(true,.inl ())):=fun c=>by
      have h:=ir (l:=l) (f:=fun s=>zp l c is s) (ownP kind name c.Id) (fun _ x=>((false,.inr (x,c)):Bool × ((Unit) ⊕ (A9 × A9)))) om (fun k x hx=>by
        unfold zp afu ownP
        rw[if_pos (gn hx),dw hx]
        simp only[Option.bind_some,his]
        cases (x.Kind==kind)<;>cases (x.Owner==c.Id)<;>simp) (fun k hk=>by
        unfold zp
        rw[if_neg (gw hk)]) l 0 rfl
      rw[alu,show((0:Nat):Int)=0 from rfl]at h
      unfold xx
      rw[h,Option.bind_some]
      cases l.find? (ownP kind name c.Id)<;>rfl
    have e:j0 (yldX (fun(_:Unit) (a:A9)=>xx l is a)) l id (.inl ()) m=
        if(cls l id).2=true then(if told.any (·==id)=true then some (.inr (l,id,.inl ()))else(match l.find? (ownP kind name (cls l id).1.Id)with|some e=>some (.inr (l,id,.inr (e,(cls l id).1)))|none=>some (.inl ((cls l id).1.Type_,.inl (),mset id true m))))else some (.inr (l,id,.inl ())):=by
      unfold j0 pk
      rw[ahw om,hm]
      simp only[Option.bind_some,yldX,hr]
      cases (cls l id).2<;>cases told.any (·==id)<;>cases l.find? (ownP kind name (cls l id).1.Id)<;>rfl
    unfold path
    by_cases hc:(cls l id).2=true
    · rw[if_pos hc]at e ⊢
      by_cases ht:told.any (·==id)=true
      · rw[if_pos ht]at e ⊢
        exact⟨_,_,c9 e,rfl⟩
      · rw[if_neg ht]at e ⊢
        rw[(awa hc).1]at e
        rw[List.findSome?_cons]
        cases hf:l.find? (ownP kind name id)with
        |some x=>
          rw[hf]at e
          exact⟨_,_,c9 e,rfl⟩
        |none=>
          rw[hf]at e
          obtain⟨i,z,h1,h2⟩:=at8 hl kind name is his n (cls l id).1.Type_ (told++[id]) (mset id true m) (h.next hc ht) (fun k=>by
            rw[aj5,hm,List.any_append]
            by_cases hk:id=k
            · rw[if_pos hk,hk];simp
            · rw[if_neg hk]
              have:(id==k)=false:=by simpa using hk
              simp[this])
          exact⟨i,z,(f9 (s':=((cls l id).1.Type_,.inl (),mset id true m)) e).trans h1,h2⟩
    · rw[if_neg hc]at e ⊢
      exact⟨_,_,c9 e,rfl⟩
theorem aq4 {l:List A9} (hl:l.length<=1000000) (kind:Int) (id name:Bt) (is:A9->Option Bool) (his:∀e,is e=some (e.Kind==kind&&e.Name==name)):ali l id is=some (has l kind id name):=by
 obtain⟨i,z,h1,h2⟩:=at8 hl kind name is his (l.length+1) id [] [] (az8 l) (fun k=>rfl)
 unfold ali zw
 rw[h1,Option.bind_some]
 unfold has aft afs
 rw[← h2]
 cases z<;>rfl
theorem ahy {l:List A9} (hl:l.length<=1000000) (id name:Bt):vk l id name=some (has l 2 id name):=by
 unfold vk
 rw[aq4 hl 2 id name _ (fun e=>by unfold adc wi;cases (e.Kind==2)<;>rfl)]
 rfl
theorem agn {l:List A9} (hl:l.length<=1000000) (id name:Bt):uu l id name=some (has l 3 id name):=by
 unfold uu
 rw[aq4 hl 3 id name _ (fun e=>by unfold abr ud;cases (e.Kind==3)<;>rfl)]
 rfl
end Go.Proofs.YtcndghapmoaidaaGreatDoor
set_option linter.unusedSectionVars false
set_option maxRecDepth 100000
set_option maxHeartbeats 4000000
namespace Go.Proofs.YtcndghapmoaidaaGreatDoor
open Go Go.Cn
variable [Glob]
theorem al8 {α:Type} (p:α->Bool) (b d:Bool):∀(l:List α) (i:Nat),fin d (kn p (fun _ _=>b) i l)=if l.any p=true then b else d
 | [],_=>rfl
 |x::r,i=>by
  unfold kn
  by_cases hp:p x=true
  ·rw[if_pos hp,List.any_cons,hp,Bool.true_or,if_pos rfl];rfl
  ·rw[if_neg hp,List.any_cons,Bool.eq_false_iff.2 hp,Bool.false_or];exact al8 p b d r (i+1)
theorem aux :∀(x y:List Bt),x.length=y.length->((x.zip y).any fun p=> !(p.1==p.2))= !decide (x=y)
 | [],[],_=>rfl
 |a::x,b::y,h=>by
  rw[List.zip_cons_cons,List.any_cons,aux x y (by simpa using h)]
  by_cases hab:a=b
  ·by_cases hxy:x=y<;>simp[hab,hxy]
  ·simp[hab]
 | [],_::_,h=>by simp at h
 |_::_,[],h=>by simp at h
theorem ale {x y:List Bt} {i:Nat} {p:Bt × Bt} (h:(x.zip y)[i]? =some p):x[i]? =some p.1/\y[i]? =some p.2:=by
 rw[List.getElem?_zip_eq_some]at h
 exact h
theorem ao4 {x y:List Bt} (hx:x.length<=4000000000):i8 x y=some (decide (x=y)):=by
 unfold i8
 by_cases hl:x.length=y.length
 ·rw[if_neg (by simp[hl])]
  have hz:(x.zip y).length=x.length:=by rw[List.length_zip];omega
  have h:=ir (l:=x.zip y) (f:=fun s=>e8 x y s) (fun p=> !(p.1==p.2)) (fun _ _=>false) om (fun i p hp=>by
   unfold e8 jp
   rw[if_pos (gn (ale hp).1),dw (ale hp).1,dw (ale hp).2]
   rfl) (fun i hi=>by
   unfold e8
   rw[if_neg (gw om)]) (x.zip y) 0 rfl
  rw[show((0:Nat):Int)=0 from rfl]at h
  rw[h,Option.bind_some]
  have h2:=al8 (fun p:Bt × Bt=> !(p.1==p.2)) false true (x.zip y) 0
  rw[aux x y hl]at h2
  have h3:fin true (kn (fun p:Bt × Bt=> !(p.1==p.2)) (fun _ _=>false) 0 (x.zip y))=decide (x=y):=by
   rw[h2]
   cases decide (x=y)<;>rfl
  rw[← h3]
  cases kn (fun p:Bt × Bt=> !(p.1==p.2)) (fun _ _=>false) 0 (x.zip y)<;>rfl
 ·rw[if_pos (by simpa using fun h=>hl (by exact_mod_cast h))]
  have:x≠y:=fun e=>hl (by rw[e])
  simp[this]
theorem ao8 {x y:List Bt} (hx:x.length<=4000000000):ahs x y=some (decide (x=y)):=by
 unfold ahs
 by_cases hl:x.length=y.length
 ·rw[if_neg (by simp[hl])]
  have hz:(x.zip y).length=x.length:=by rw[List.length_zip];omega
  have h:=ir (l:=x.zip y) (f:=fun s=>y3 x y s) (fun p=> !(p.1==p.2)) (fun _ _=>false) om (fun i p hp=>by
   unfold y3 ah5
   rw[if_pos (gn (ale hp).1),dw (ale hp).1,dw (ale hp).2]
   rfl) (fun i hi=>by
   unfold y3
   rw[if_neg (gw om)]) (x.zip y) 0 rfl
  rw[show((0:Nat):Int)=0 from rfl]at h
  rw[h,Option.bind_some]
  have h2:=al8 (fun p:Bt × Bt=> !(p.1==p.2)) false true (x.zip y) 0
  rw[aux x y hl]at h2
  have h3:fin true (kn (fun p:Bt × Bt=> !(p.1==p.2)) (fun _ _=>false) 0 (x.zip y))=decide (x=y):=by
   rw[h2]
   cases decide (x=y)<;>rfl
  rw[← h3]
  cases kn (fun p:Bt × Bt=> !(p.1==p.2)) (fun _ _=>false) 0 (x.zip y)<;>rfl
 ·rw[if_pos (by simpa using fun h=>hl (by exact_mod_cast h))]
  have:x≠y:=fun e=>hl (by rw[e])
  simp[this]
theorem has_mem {l:List A9} {kind:Int} {id name:Bt} (h:(has l kind id name).2=true):(has l kind id name).1∈l:=by
 unfold has at h ⊢
 cases hf:(path l (l.length+1) id []).findSome? (fun a=>l.find? (ownP kind name a))with
 |none=>rw[hf]at h;cases h
 |some e=>
  obtain⟨a,_,h2⟩:=List.exists_of_findSome?_eq_some hf
  exact List.mem_of_find?_eq_some h2
def ne (l:List A9) (e:A9):Int:=
 if(e.Kind==1)=true then(if(!(e.Type_==[])&&(!(cls l e.Type_).2||below l e.Type_ e.Id))=true then 160 else 0)
 else if(cls l e.Owner).2=false then 0
 else if(e.Kind==2)=true then(if(has l 2 (cls l e.Owner).1.Type_ e.Name).2=true then 162 else 0)
 else if(e.Kind==3)=true then(if((has l 3 (cls l e.Owner).1.Type_ e.Name).2&& !((has l 3 (cls l e.Owner).1.Type_ e.Name).1.Type_==e.Type_&&(has l 3 (cls l e.Owner).1.Type_ e.Name).1.Static==e.Static&&decide ((has l 3 (cls l e.Owner).1.Type_ e.Name).1.Params=e.Params)))=true then 161 else 0)
 else 0
theorem avn :alc.Params.length<=4000000000:=by decide
theorem aq5 {l:List A9} (hp:∀e∈l,e.Params.length<=4000000000) (kind:Int) (id name:Bt):(has l kind id name).1.Params.length<=4000000000:=by
 by_cases h:(has l kind id name).2=true
 ·exact hp _ (has_mem h)
 ·unfold has at h ⊢
  cases hf:(path l (l.length+1) id []).findSome? (fun a=>l.find? (ownP kind name a))with
  |none=>exact avn
  |some e=>rw[hf]at h;exact absurd rfl h
theorem aug {l:List A9} (hl:l.length<=1000000) (hp:∀e∈l,e.Params.length<=4000000000) (e:A9):ahf l e=some (ne l e):=by
 unfold ahf abo ya abp tn aj7 yb ne
 have hl':l.length<=4000000000:=by omega
 simp only[ahw hl',amn hl,ahy hl,agn hl,Option.bind_some,ao4 (aq5 hp _ _ _)]
 by_cases h1:(e.Kind==1)=true
 ·have:(e.Kind != 1)=false:=by simpa using h1
  rw[this]
  rw[if_pos h1]
  cases (e.Type_==([]:Bt))<;>cases (cls l e.Type_).2<;>cases below l e.Type_ e.Id<;>simp[h1]
 ·have:(e.Kind != 1)=true:=by simpa using h1
  rw[this,if_neg h1]
  by_cases h2:(e.Kind==2)=true
  ·cases (cls l e.Owner).2<;>cases (has l 2 (cls l e.Owner).1.Type_ e.Name).2<;>simp[h1,h2]
  ·by_cases h3:(e.Kind==3)=true
   ·cases (cls l e.Owner).2<;>cases (has l 3 (cls l e.Owner).1.Type_ e.Name).2<;>cases ((has l 3 (cls l e.Owner).1.Type_ e.Name).1.Type_==e.Type_)<;>cases ((has l 3 (cls l e.Owner).1.Type_ e.Name).1.Static==e.Static)<;>cases decide ((has l 3 (cls l e.Owner).1.Type_ e.Name).1.Params=e.Params)<;>simp[h1,h2,h3]
   ·cases (cls l e.Owner).2<;>simp[h1,h2,h3]
theorem apw {l:List A9} (hl:l.length<=1000000) (hp:∀e∈l,e.Params.length<=4000000000) (e:A9):aji l e=some (ne l e):=by
 unfold aji aaf vo aae ne
 have hl':l.length<=4000000000:=by omega
 simp only[ai7 hl',ai9 hl,ant hl,Option.bind_some,ao8 (aq5 hp _ _ _)]
 by_cases h1:(e.Kind==1)=true
 ·rw[if_pos h1,if_pos h1]
  cases (e.Type_==([]:Bt))<;>cases (cls l e.Type_).2<;>cases below l e.Type_ e.Id<;>simp
 ·rw[if_neg h1,if_neg h1]
  by_cases h2:(e.Kind==2)=true
  ·cases (cls l e.Owner).2<;>cases (has l 2 (cls l e.Owner).1.Type_ e.Name).2<;>simp[h2]
  ·by_cases h3:(e.Kind==3)=true
   ·cases (cls l e.Owner).2<;>cases (has l 3 (cls l e.Owner).1.Type_ e.Name).2<;>cases ((has l 3 (cls l e.Owner).1.Type_ e.Name).1.Type_==e.Type_)<;>cases ((has l 3 (cls l e.Owner).1.Type_ e.Name).1.Static==e.Static)<;>cases decide ((has l 3 (cls l e.Owner).1.Type_ e.Name).1.Params=e.Params)<;>simp[h2,h3]
   ·cases (cls l e.Owner).2<;>simp[h2,h3]
def xb (l:List A9):B3:=fin (B3.mk 0 0 0) (kn (fun e=>ne l e != 0) (fun _ e=>B3.mk (ne l e) e.File e.At) 0 l)
theorem auj {l:List A9} (hl:l.length<=1000000) (hp:∀e∈l,e.Params.length<=4000000000):ahg l=some (xb l):=by
 have h:=ir (l:=l) (f:=fun s=>tq l s) (fun e=>ne l e != 0) (fun _ e=>B3.mk (ne l e) e.File e.At) om (fun i x hx=>by
  unfold tq
  rw[if_pos (gn hx),dw hx]
  simp only[Option.bind_some,aug hl hp]) (fun i hi=>by
  unfold tq
  rw[if_neg (gw hi)]) l 0 rfl
 unfold ahg xb
 rw[show((0:Nat):Int)=0 from rfl]at h
 rw[h,Option.bind_some]
 cases kn (fun e=>ne l e != 0) (fun _ e=>B3.mk (ne l e) e.File e.At) 0 l<;>rfl
theorem apz {l:List A9} (hl:l.length<=1000000) (hp:∀e∈l,e.Params.length<=4000000000):ajj l=some (xb l):=by
 have h:=ir (l:=l) (f:=fun s=>aah l s) (fun e=>ne l e != 0) (fun _ e=>B3.mk (ne l e) e.File e.At) om (fun i x hx=>by
  unfold aah ai8
  rw[if_pos (gn hx),dw hx]
  simp only[Option.bind_some,apw hl hp]) (fun i hi=>by
  unfold aah
  rw[if_neg (gw hi)]) l 0 rfl
 unfold ajj xb
 rw[show((0:Nat):Int)=0 from rfl]at h
 rw[h,Option.bind_some]
 cases kn (fun e=>ne l e != 0) (fun _ e=>B3.mk (ne l e) e.File e.At) 0 l<;>rfl
end Go.Proofs.YtcndghapmoaidaaGreatDoor
set_option linter.unusedSectionVars false
namespace Go.Cn
abbrev noG :Glob:=⟨fun _=>True,fun _ _ _ _=>trivial⟩
theorem a05 {σ ω:Type} {f:σ->Option (σ ⊕ ω)} (I:σ->Prop) (Q:ω->Prop) (m:σ->Nat)
  (h:∀s,I s->(∃s',f s=some (.inl s')/\I s'/\m s'<m s)\/(∃o,f s=some (.inr o)/\Q o)):∀s,I s->∃o,iter f s=some o/\Q o:=by
 have key:∀n s,m s<=n->I s->∃o,iter f s=some o/\Q o:=by
  intro n
  induction n with
  |zero=>
   intro s hm hs
   rcases h s hs with⟨s',_,_,h3⟩|⟨o,h1,h2⟩
   ·omega
   ·exact⟨o, @c9 noG _ _ _ _ _ h1,h2⟩
  |succ n ih=>
   intro s hm hs
   rcases h s hs with⟨s',h1,h2,h3⟩|⟨o,h1,h2⟩
   ·obtain⟨o,h4,h5⟩:=ih s' om h2
    exact⟨o,by rw[@f9 noG _ _ _ _ _ h1];exact h4,h5⟩
   ·exact⟨o, @c9 noG _ _ _ _ _ h1,h2⟩
 exact fun s hs=>key (m s) s (Nat.le_refl _) hs
theorem a07 {l:Bt} {i:Nat} (h:i<l.length):idxS l i=some (l[i].toNat:Int):=by
 unfold idxS
 simp[h]
theorem aeq {α:Type} {l:List α} {i:Nat} (h:i<l.length):idx l i=some l[i]:=by
 unfold idx
 simp[h]
theorem sub_nat {l:Bt} {i j:Nat} (h:i<=j) (h2:j<=l.length):sub l i j=some ((l.take j).drop i):=by
 unfold sub
 simp[h,h2]
end Go.Cn
set_option linter.unusedSectionVars false
set_option linter.unusedVariables false
set_option linter.unusedSimpArgs false
set_option maxRecDepth 100000
set_option maxHeartbeats 4000000
namespace Go.Proofs.YtcndghapmoaidaaGreatDoor
open Go Go.Cn
variable [Glob]
def Ok {α:Type} (P:α->Prop) (o:Option α):Prop:=∃a,o=some a/\P a
section
variable {α β σ ω:Type} {P Q:α->Prop} {o:Option α}
theorem Ok.mk {a:α} (h:P a):Ok P (some a):=⟨a,rfl,h⟩
theorem Ok.bd {Q:β->Prop} {f:α->Option β} (h:Ok P o) (k:∀a,P a->Ok Q (f a)):Ok Q (o.bind f):=by
 obtain⟨a,rfl,ha⟩:=h
 exact k a ha
theorem Ok.weak (h:Ok P o) (k:∀a,P a->Q a):Ok Q o:=by
 obtain⟨a,rfl,ha⟩:=h
 exact⟨a,rfl,k a ha⟩
theorem Ok.dec {p:Prop} [Decidable p] {a b:Option α} (h1:p->Ok P a) (h2:¬p->Ok P b):Ok P (if decide p=true then a else b):=by
 by_cases h:p
 ·rw[if_pos (by simpa using h)];exact h1 h
 ·rw[if_neg (by simpa using h)];exact h2 h
theorem Ok.cond {c:Bool} {a b:Option α} (h1:c=true->Ok P a) (h2:c=false->Ok P b):Ok P (if c=true then a else b):=by
 cases c
 ·exact h2 rfl
 ·exact h1 rfl
theorem Ok.it {f:σ->Option (σ ⊕ ω)} {Q:ω->Prop} (I:σ->Prop) (m:σ->Nat) (h:∀s,I s->Ok (Sum.elim (fun s'=>I s'/\m s'<m s) Q) (f s)) {s:σ} (hs:I s):Ok Q (iter f s):=
 a05 I Q m (fun s hs=>by
  obtain⟨z,h1,h2⟩:=h s hs
  cases z with
  |inl s'=>exact .inl ⟨s',h1,h2⟩
  |inr w=>exact .inr ⟨w,h1,h2⟩) s hs
end
def air {α β:Type} (A:α->Prop) (B:β->Prop):Flow α β->Prop
 | .next p=>A p
 | .done r=>B r
theorem aby {x:Bt} {i:Int} (h:0<=i) (h2:i<x.length):Ok (fun _=>True) (idxS x i):=by
 obtain⟨n,rfl⟩:∃n:Nat,i=n:=⟨i.toNat,by omega⟩
 exact⟨_,a07 om,trivial⟩
theorem alj {x:Bt} {i:Int} (h:0<=i) (h2:i<x.length):Ok (fun c=>idxS x i=some c) (idxS x i):=by
 obtain⟨c,hc,_⟩:=aby h h2
 exact⟨c,hc,hc⟩
theorem aqp {x:Bt} {i j:Nat} (h:i<=j) (h2:j<=x.length):Ok (fun s=>s=(x.take j).drop i) (sub x i j):=⟨_,sub_nat h h2,rfl⟩
theorem asi (c:Int):Ok (fun _=>True) (rc c):=by
 unfold rc wh
 split<;>exact .mk trivial
theorem aty (c:Int):Ok (fun _=>True) (q6 c):=by
 unfold q6 jj
 repeat' split
 all_goals exact .mk trivial
theorem a08 {s:Bt} (hs:s.length<=1000000):Ok (fun _=>True) (ac9 s):=by
 unfold ac9 aa6
 refine .dec (fun _=> .mk trivial) fun _=> .bd (P:=fun _=>True) (.it (fun p:Int × Int=>0<=p.2/\p.2<=s.length) (fun p=>(s.length - p.2).toNat) ?_ ⟨by omega,by omega⟩) (fun _ _=> .mk trivial)
 rintro⟨n,i⟩ ⟨h1,h2⟩
 simp only at h1 h2 ⊢
 unfold wg
 refine .dec (fun h=> .bd (aby h1 h) fun _ _=> .mk ?_) fun _=> .mk trivial
 simp only[Sum.elim_inl]
 rw[cu (n:=i+1) om om]
 omega
theorem kept_ok {s:Bt}:Ok (fun _=>True) (oa s):=by
 unfold oa acs
 refine .bd (P:=fun _=>True) (.it (fun p:Int=>0<=p/\p<=16) (fun p=>(16 - p).toNat) ?_ ⟨by omega,by omega⟩) (fun z _=>by cases z<;>exact .mk trivial)
 rintro i ⟨h1,h2⟩
 unfold yt
 refine .dec (fun h=>?_) fun _=> .mk trivial
 simp only[List.length_cons,List.length_nil]at h
 obtain⟨n,rfl⟩:∃n:Nat,i=n:=⟨i.toNat,by omega⟩
 rw[aeq (by simp only[List.length_cons,List.length_nil];omega)]
 refine .cond (fun _=> .mk trivial) fun _=> .mk ?_
 simp only[Sum.elim_inl]
 rw[cu om om]
 omega
theorem one_ok {x:Bt} {n:Int} (h:0<=n) (hn:n<x.length):Ok (fun m:Int=>0<=m/\m<=1) (yq x n):=by
 unfold yq acp
 refine .bd (P:=air (fun _=>True) (fun r=>r=1)) (.it (fun p:Int=>0<=p/\p<=16) (fun p=>(16 - p).toNat) ?_ ⟨by omega,by omega⟩) (fun z hz=>by
  cases z with
  |next _=>exact .mk om
  |done r=>obtain rfl:r=1:=hz;exact .mk om)
 rintro i ⟨h1,h2⟩
 unfold yp acr
 refine .dec (fun hi=> .bd (aby h hn) fun _ _=> .bd (aby h1 hi) fun _ _=> .cond (fun _=> .mk rfl) fun _=> .mk ?_) fun _=> .mk trivial
 simp only[List.length_cons,List.length_nil,Sum.elim_inl]at hi ⊢
 rw[cu om om]
 omega
theorem mark_ok {x:Bt} {n:Nat} (hn:n<x.length) (hx:x.length<=1000000):Ok (fun m:Int=>0<=m/\n+m<=x.length) (afr x n):=by
 unfold afr
 refine .bd (P:=air (fun _=>True) (fun r=>r=2/\n+2<=x.length)) (.it (fun p:Int=>0<=p/\p<=6) (fun p=>(6 - p).toNat) ?_ ⟨by omega,by omega⟩) (fun z hz=>by
  cases z with
  |next _=>exact(one_ok om om).weak fun m h=>by omega
  |done r=>obtain⟨rfl,h⟩:r=2/\n+2<=x.length:=hz;exact .mk om)
 rintro i ⟨h1,h2⟩
 unfold yo yr acq
 rw[cu om om]
 refine .dec (fun hi=> .dec (fun hl=> .bd (aqp (i:=n) (j:=n+2) om om) fun _ _=>?_) fun _=> .mk trivial) fun _=> .cond (fun h=>by cases h) fun _=> .mk trivial
 simp only[List.length_cons,List.length_nil]at hi
 obtain⟨k,rfl⟩:∃n:Nat,i=n:=⟨i.toNat,by omega⟩
 rw[aeq (by simp only[List.length_cons,List.length_nil];omega)]
 refine .cond (fun _=> .mk ⟨rfl,by omega⟩) fun _=> .mk ?_
 simp only[Sum.elim_inl]
 rw[cu om om]
 omega
abbrev BetP (x:Bt) (a s:Int):Int ⊕ Flow Int (Int × Bool)->Prop:=
 Sum.elim (fun s'=>(a<=s'/\s'<=x.length)/\(x.length - s').toNat<(x.length - s).toNat) (air (fun p=>a<=p/\p<=x.length) (fun r:Int × Bool=>a<=r.1/\r.1<=x.length))
theorem as9 {x:Bt} {a s:Int} (ha:0<=a) (hx:x.length<=1000000) (h1:a<=s) (h:s+1<x.length) (hc:idxS x s=some 47):Ok (BetP x a s) (iz s x false):=by
 unfold iz
 rw[if_neg sm,cu om om,cu om om]
 refine .bd (aby om om) fun d _=> .cond (fun hd=>?_) fun _=>?_
 ·refine .bd (P:=fun p=>s<p/\p<=x.length) (.it (fun p:Int=>s<=p/\p<=x.length) (fun p=>(x.length - p).toNat) ?_ ⟨by omega,by omega⟩) fun p hp=> .mk (by simp only[BetP,Sum.elim_inl];omega)
  rintro p ⟨p1,p2⟩
  unfold rt rv
  refine .dec (fun hp=> .bd (alj om hp) fun e he=> .cond (fun _=> .mk ?_) fun hn=> .mk ?_) fun hp=> .cond (fun h=>by cases h) fun _=> .mk ?_
  ·simp only[Sum.elim_inl]
   rw[cu om om]
   omega
  ·simp only[Sum.elim_inr]
   refine⟨?_,p2⟩
   rcases Int.lt_or_eq_of_le p1 with h|rfl
   ·exact h
   ·rw[hc]at he
    cases he
    simp at hn
  ·simp only[Sum.elim_inr]
   omega
 ·refine .bd (P:=fun p=>s+2<=p/\p<=x.length) (.it (fun p:Int=>s+2<=p/\p<=x.length) (fun p=>(x.length - p).toNat) ?_ ⟨by omega,by omega⟩) fun p hp=>?_
  ·rintro p ⟨p1,p2⟩
   unfold rp od
   rw[cu om om]
   have g:p+1<x.length->Ok (Sum.elim (fun s'=>(s+2<=s'/\s'<=x.length)/\(x.length - s').toNat<(x.length - p).toNat) (fun p:Int=>s+2<=p/\p<=x.length)) (some (.inl (p+1))):=fun h=> .mk (by simp only[Sum.elim_inl];omega)
   refine .dec (fun hp=> .bd (aby om om) fun e _=> .cond (fun _=> .cond (fun _=>g hp) fun h=>by cases h) fun _=> .bd (aby om hp) fun e _=> .cond (fun _=>g hp) fun _=> .mk ⟨p1,p2⟩) fun _=> .cond (fun h=>by cases h) fun _=> .mk ⟨p1,p2⟩
  ·unfold w6
   rw[cu om om,cu om om]
   refine .dec (fun _=> .mk ?_) fun _=> .mk ?_
   ·simp only[BetP,Sum.elim_inr,air]
    omega
   ·simp only[BetP,Sum.elim_inl]
    omega
theorem axu {x:Bt} {a:Int} (ha:0<=a) (h2:a<=x.length) (hx:x.length<=1000000):Ok (fun r:Int × Bool=>a<=r.1/\r.1<=x.length) (ys x a):=by
 unfold ys w7
 refine .bd (P:=air (fun p=>a<=p/\p<=x.length) (fun r:Int × Bool=>a<=r.1/\r.1<=x.length)) (.it (fun s:Int=>a<=s/\s<=x.length) (fun s=>(x.length - s).toNat) ?_ ⟨by omega,h2⟩) (fun z hz=>by cases z<;>exact .mk hz)
 rintro s ⟨h1,h2⟩
 unfold ru
 refine .dec (fun h=> .bd (alj om h) fun c hc=>?_) fun _=> .mk ⟨h1,h2⟩
 have fwd:Ok (BetP x a s) (i5 s x c true):=by
  unfold i5
  rw[if_pos rfl]
  refine .mk ?_
  simp only[BetP,Sum.elim_inl]
  rw[cu om om]
  omega
 refine .cond (fun _=>fwd) fun _=> .cond (fun _=>fwd) fun _=> .cond (fun _=>fwd) fun _=>?_
 generalize (c==13)=b
 cases b with
 |true=>exact fwd
 |false=>
 unfold i5
 rw[if_neg sm,cu om om]
 have out:Ok (BetP x a s) (iz s x true):=by
  unfold iz
  rw[if_pos rfl]
  exact .mk ⟨h1,h2⟩
 refine .dec (fun _=>out) fun hl=> .cond (fun _=>out) fun h47=> .bd (aby om om) fun d _=>?_
 have go:=as9 ha hx h1 om (by rw[hc];simpa using h47)
 refine .cond (fun _=> .bd (aby om om) fun d _=>?_) fun _=>go
 generalize (d != 42)=b
 cases b
 ·exact go
 ·exact out
structure TokOk (x:Bt) (n:Nat) (k m:Int):Prop where
 one:1<=m
 fits:n+m<=x.length
 not5:k≠5
 kept:k=1->oa ((x.take (n+m.toNat)).drop n)=some false
theorem a1r {x:Bt} {n:Nat} {f:Int->Option (Int ⊕ Int)} (hx:x.length<=1000000) (hn:n<x.length)
  (h1:∀m:Int,0<=m->n+m<x.length->Ok (fun z=>z= .inl (m+1)\/(0<m/\z= .inr m)) (f m)) (h2:∀m:Int,n+m=x.length->f m=some (.inr m)):Ok (fun m:Int=>1<=m/\n+m<=x.length) (iter f 0):=by
 refine .it (fun m:Int=>0<=m/\n+m<=x.length) (fun m=>(x.length - m).toNat) ?_ ⟨by omega,by omega⟩
 rintro m ⟨p1,p2⟩
 by_cases h:n+m<x.length
 ·refine(h1 m p1 h).weak fun z hz=>?_
  rcases hz with rfl|⟨h0,rfl⟩
  ·simp only[Sum.elim_inl]
   omega
  ·simp only[Sum.elim_inr]
   omega
 ·rw[h2 m om]
  exact .mk (by simp only[Sum.elim_inr];omega)
theorem a0k {x:Bt} {n:Nat} (hn:n<x.length) (hx:x.length<=1000000):Ok (fun r:Int × Int × Int=>r.2.2=0->TokOk x n r.1 r.2.1) (ac8 x n):=by
 unfold ac8
 refine .bd (alj om om) fun c hc=> .bd (P:=fun b=>rc c=some b) ?_ fun b hb=> .cond (fun h=>?_) fun h=> .bd (alj om om) fun c' hc'=>?_
 ·obtain⟨b,hb,_⟩:=asi c
  exact⟨b,hb,hb⟩
 ·subst h
  refine .bd (P:=fun m:Int=>1<=m/\n+m<=x.length) (a1r hx hn (fun m h0 h=>?_) fun m h=>?_) fun m hm=>?_
  ·unfold se sf
   rw[cu om om,cu om om]
   rw[if_pos (by simpa using h)]
   refine .bd (alj om h) fun e he=> .bd (P:=fun b=>rc e=some b) ?_ fun b' hb'=> .cond (fun _=> .mk (.inl rfl)) fun hf=> .mk (.inr ⟨?_,rfl⟩)
   ·obtain⟨b,hb,_⟩:=asi e
    exact⟨b,hb,hb⟩
   ·rcases Int.lt_or_eq_of_le h0 with h|rfl
    ·exact h
    ·rw[Int.add_zero,hc]at he
     cases he
     rw[hb]at hb'
     cases hb'
     cases hf
  ·unfold se sf
   rw[cu om om,if_neg so]
   rfl
  ·have hr:∀b,Ok (fun r:Int × Int × Int=>r.2.2=0->TokOk x n r.1 r.2.1) (pj m b):=fun b=>by
    unfold pj
    exact .cond (fun _=> .mk fun h=>by cases h) fun _=> .mk fun _=>⟨hm.1,hm.2,by simp,by simp⟩
   obtain⟨m,rfl⟩:∃k:Nat,m=k:=⟨m.toNat,by omega⟩
   unfold aa5
   rw[cu om om]
   refine .bd (aqp (i:=n) (j:=n+m) om om) fun s hs=> .bd (a08 ?_) fun g _=> .cond (fun _=>hr _) fun _=> .dec (fun _=> .bd (aby om om) fun _ _=>hr _) fun _=>hr _
   rw[hs]
   simp only[List.length_drop,List.length_take]
   omega
 ·refine .bd (P:=fun b=>q6 c'=some b) ?_ fun b' hb'=> .cond (fun h=>?_) fun h=> .bd (mark_ok hn hx) fun m hm=> .cond (fun _=> .mk fun h=>by cases h) fun h=> .mk fun _=>⟨?_,hm.2,by simp,by simp⟩
  ·obtain⟨b,hb,_⟩:=aty c'
   exact⟨b,hb,hb⟩
  ·subst h
   refine .bd (P:=fun m:Int=>1<=m/\n+m<=x.length) (a1r hx hn (fun m h0 h=>?_) fun m h=>?_) fun m hm=>?_
   ·unfold sd ph
    rw[cu om om,cu om om]
    rw[if_pos (by simpa using h)]
    refine .bd (alj om h) fun e he=> .bd (P:=fun b=>q6 e=some b) ?_ fun b' hb2=> .cond (fun _=> .cond (fun _=> .mk (.inl rfl)) fun h=>by cases h) fun hf=> .bd (aby om h) fun e' _=> .bd (asi _) fun b _=> .cond (fun _=> .mk (.inl rfl)) fun _=> .mk (.inr ⟨?_,rfl⟩)
    ·obtain⟨b,hb,_⟩:=aty e
     exact⟨b,hb,hb⟩
    ·rcases Int.lt_or_eq_of_le h0 with h|rfl
     ·exact h
     ·rw[Int.add_zero,hc']at he
      cases he
      rw[hb']at hb2
      cases hb2
      cases hf
   ·unfold sd ph
    rw[cu om om,if_neg so]
    rfl
   ·obtain⟨m,rfl⟩:∃k:Nat,m=k:=⟨m.toNat,by omega⟩
    unfold aa4
    rw[cu om om]
    refine .dec (fun _=> .mk fun h=>by cases h) fun _=> .bd (aqp (i:=n) (j:=n+m) om om) fun s hs=>?_
    obtain⟨b,hb,_⟩:=kept_ok (s:=s)
    rw[hb]
    subst hs
    exact .cond (fun _=> .mk fun _=>⟨hm.1,hm.2,by simp,by simp⟩) fun h=> .mk fun _=>⟨hm.1,hm.2,by simp,fun _=>by rw[← h,Int.toNat_natCast];exact hb⟩
  ·have:m≠0:=by simpa using h
   have:=hm.1
   show 1<=m
   omega
structure ToksN (M:Nat) (T:List C5):Prop where
 len:T.length<=M+1
 pos:0<T.length
 last:∀i (h:i<T.length),T[i].Kind=5↔i+1=T.length
 txt:∀i (h:i<T.length),T[i].Text.length<=M
 kept:∀i (h:i<T.length),T[i].Kind=1->T[i].Text≠[]/\oa T[i].Text=some false
theorem Lex_ok {x:Bt} (hx:x.length<=1000000):Ok (fun r:List C5 × Int × Int=>r.2.2=0->ToksN x.length r.1) (ahc x):=by
 unfold ahc
 rw[if_neg so]
 refine .it (fun s:Int × List C5=>0<=s.1/\s.1<=x.length/\s.2.length<=s.1/\∀t∈s.2,t.Kind≠5/\t.Text.length<=x.length/\(t.Kind=1->t.Text≠[]/\oa t.Text=some false)) (fun s=>(x.length - s.1).toNat) ?_ ⟨by simp,by simp,by simp,fun t ht=>by cases ht⟩
 rintro⟨a,l⟩ ⟨h1,h2,h3,h4⟩
 simp only at h1 h2 h3 h4 ⊢
 unfold abm
 refine .bd (axu h1 h2 hx) ?_
 rintro⟨p,b⟩ ⟨p1,p2⟩
 simp only at p1 p2 ⊢
 obtain⟨p,rfl⟩:∃k:Nat,p=k:=⟨p.toNat,by omega⟩
 obtain⟨a,rfl⟩:∃k:Nat,a=k:=⟨a.toNat,by omega⟩
 refine .cond (fun _=> .mk fun h=>by cases h) fun _=> .cond (fun he=> .bd (aqp om om) fun s hs=>?_) fun hne=> .bd (a0k ?_ hx) ?_
 ·rw[nz (by simp only[List.length_cons,List.length_nil];omega) (by simp only[List.length_cons,List.length_nil];omega)]
  refine .mk fun _=>⟨?_,?_,fun i h=>?_,fun i h=>?_,fun i h=>?_⟩
  ·simp only[List.length_append,List.length_cons,List.length_nil]
   omega
  ·simp
  ·simp only[List.length_append,List.length_cons,List.length_nil]at h ⊢
   rcases Nat.lt_or_ge i l.length with hi|hi
   ·rw[List.getElem_append_left hi]
    have:=(h4 _ (List.getElem_mem hi)).1
    omega
   ·rw[List.getElem_append_right hi]
    simp
    omega
  ·rcases Nat.lt_or_ge i l.length with hi|hi
   ·rw[List.getElem_append_left hi]
    exact(h4 _ (List.getElem_mem hi)).2.1
   ·rw[List.getElem_append_right hi]
    simp
  ·rcases Nat.lt_or_ge i l.length with hi|hi
   ·rw[List.getElem_append_left hi]
    exact(h4 _ (List.getElem_mem hi)).2.2
   ·rw[List.getElem_append_right hi]
    simp
 ·have:(p:Int)≠x.length:=by simpa using hne
  omega
 ·rintro⟨k,m,e⟩ hk
  simp only at hk ⊢
  refine .cond (fun he=> .mk fun h=>by simp[show e=0 from h]at he) fun he=>?_
  have g:=hk (by simpa using he)
  have g1:=g.one
  have g2:=g.fits
  obtain⟨m,rfl⟩:∃k:Nat,m=k:=⟨m.toNat,by omega⟩
  rw[cu om om]
  refine .bd (aqp (i:=p) (j:=p+m) om om) fun s hs=> .bd (aqp om om) fun s2 _=>?_
  rw[nz (by simp only[List.length_cons,List.length_nil];omega) (by simp only[List.length_cons,List.length_nil];omega)]
  unfold ad9
  rw[cu om om]
  refine .mk ?_
  simp only[Sum.elim_inl,List.length_append,List.length_cons,List.length_nil]
  refine⟨⟨by omega,by omega,by omega,fun t ht=>?_⟩,by omega⟩
  rcases List.mem_append.1 ht with ht|ht
  ·exact h4 t ht
  ·obtain rfl:t=_:=by simpa using ht
   have hl:s.length=m:=by rw[hs,List.length_drop,List.length_take];omega
   refine⟨g.not5,by simp only;omega,fun h=>⟨fun h0=>?_,?_⟩⟩
   ·simp only at h0
    rw[h0]at hl
    simp at hl
    omega
   ·have:=g.kept h
    rw[Int.toNat_natCast,← hs]at this
    exact this
end Go.Proofs.YtcndghapmoaidaaGreatDoor
set_option linter.unusedSectionVars false
set_option linter.unusedVariables false
set_option linter.unusedSimpArgs false
set_option maxRecDepth 100000
set_option maxHeartbeats 4000000
namespace Go.Proofs.YtcndghapmoaidaaGreatDoor
open Go Go.Cn
variable [Glob]
mutual
def fi :B5->Nat
 |⟨_,_,_,_,_,_,_,_,kids⟩=>1+bz kids
def bz :List B5->Nat
 | []=>0
 |n::l=>fi n+bz l
end
mutual
def okB (M:Nat):B5->Prop
 |⟨_,t,y,_,_,_,_,_,kids⟩=>(t.length<=M/\y.length<=M)/\okBL M kids
def okBL (M:Nat):List B5->Prop
 | []=>True
 |n::l=>okB M n/\okBL M l
end
theorem jk (x:B5):fi x=1+bz x.Kids:=by cases x;simp[fi]
theorem ng (x:B5):0<fi x:=by rw[jk];omega
theorem ke :∀l:List B5,l.length<=bz l
 | []=>by simp[bz]
 |n::l=>by have:=ke l;have:=ng n;simp[bz];omega
theorem am9 {M:Nat}:∀{l m:List B5},okBL M (l++m)↔okBL M l/\okBL M m
 | [],_=>by simp[okBL]
 |_::_,_=>by simp[okBL,am9,and_assoc]
theorem xu :∀(l m:List B5),bz (l++m)=bz l+bz m
 | [],m=>by simp[bz]
 |n::l,m=>by simp[bz,xu l m];omega
abbrev vi (M:Nat) (T:List C5) (i:Int):B5 × Int × C6->Prop:=fun r=>r.2.2.Place<0->i<r.2.1/\r.2.1<T.length/\okB M r.1/\(fi r.1:Int)+i<=r.2.1
abbrev ax8 (M:Nat) (T:List C5) (i:Int):List B5 × Int × C6->Prop:=fun r=>r.2.2.Place<0->i<r.2.1/\r.2.1<T.length/\okBL M r.1/\(bz r.1:Int)+i<=r.2.1
section
variable {α β:Type} {P Q:β->Prop}
theorem Ok.tt {a b:Option β} (h:Ok P a):Ok P (if true=true then a else b):=h
theorem Ok.ff {a b:Option β} (h:Ok P b):Ok P (if false=true then a else b):=h
theorem Ok.isT {A:Prop} {o:Option Bool} {f:Bool->Option β} (h:Ok (fun b=>b=true->A) o) (k1:A->Ok Q (f true)) (k2:Ok Q (f false)):Ok Q (o.bind f):=by
 obtain⟨b,rfl,h⟩:=h
 cases b
 ·exact k2
 ·exact k1 (h rfl)
theorem Ok.node {M:Nat} {T:List C5} {i:Int} {o:Option (B5 × Int × C6)} {f:B5 × Int × C6->Option β} (h:Ok (vi M T i) o) (k1:∀n j w,w.Place≥0->Ok Q (f (n,j,w))) (k2:∀n j w,w.Place<0->i<j->j<T.length->okB M n->(fi n:Int)+i<=j->Ok Q (f (n,j,w))):Ok Q (o.bind f):=by
 obtain⟨⟨n,j,w⟩,rfl,h⟩:=h
 rcases Int.lt_or_le w.Place 0 with hw|hw
 ·exact k2 _ _ _ hw (h hw).1 (h hw).2.1 (h hw).2.2.1 (h hw).2.2.2
 ·exact k1 _ _ _ hw
theorem Ok.list {M:Nat} {T:List C5} {i:Int} {o:Option (List B5 × Int × C6)} {f:List B5 × Int × C6->Option β} (h:Ok (ax8 M T i) o) (k1:∀n j w,w.Place≥0->Ok Q (f (n,j,w))) (k2:∀n j w,w.Place<0->i<j->j<T.length->okBL M n->(bz n:Int)+i<=j->Ok Q (f (n,j,w))):Ok Q (o.bind f):=by
 obtain⟨⟨n,j,w⟩,rfl,h⟩:=h
 rcases Int.lt_or_le w.Place 0 with hw|hw
 ·exact k2 _ _ _ hw (h hw).1 (h hw).2.1 (h hw).2.2.1 (h hw).2.2.2
 ·exact k1 _ _ _ hw
theorem Ok.syn {i:Int} {f:C6->Option β} (k:Ok Q (f (C6.mk i 120))):Ok Q ((c7 i).bind f):=k
theorem Ok.fine {f:C6->Option β} (k:Ok Q (f (C6.mk (-1) 0))):Ok Q (eh.bind f):=k
theorem Ok.app {l m:List B5} {f:List B5->Option β} (h:bz l+bz m<=9000000) (k:Ok Q (f (l++m))):Ok Q ((app 104 l m).bind f):=by
 have:=ke l
 have:=ke m
 rw[nz om om]
 exact k
variable {M:Nat} {T:List C5} (hT:ToksN M T)
include hT
theorem Ok.tok {i:Int} {f:C5->Option β} (h:0<=i) (h2:i<T.length) (k:∀t,t.Text.length<=M->(t.Kind=1->t.Text≠[]/\oa t.Text=some false)->(t.Kind≠5->i+1<T.length)->Ok Q (f t)):Ok Q ((idx T i).bind f):=by
 obtain⟨n,rfl⟩:∃n:Nat,i=n:=⟨i.toNat,by omega⟩
 have hn:n<T.length:=by omega
 rw[aeq hn]
 refine k _ (hT.txt n hn) (hT.kept n hn) fun h5=>?_
 have:=(hT.last n hn).2
 rcases Nat.lt_or_ge (n+1) T.length with h|h
 ·omega
 ·exact absurd (this om) h5
theorem zm {i:Int} (h:0<=i) (s:Bt):Ok (fun b=>b=true->i+1<T.length) (c6 T i s):=by
 unfold c6 xf
 refine .dec (fun h2=> .tok hT h h2 fun t _ _ h5=> .cond (fun _=> .tok hT h h2 fun t _ _ _=> .cond (fun _=> .tok hT h h2 fun t _ _ h5=> .mk fun hk=>h5 (by simpa using hk)) fun _=> .mk sm) fun _=> .mk sm) fun _=> .mk sm
theorem ajf {i:Int} (h:0<=i):Ok (fun b=>b=true->i+1<T.length) (ju T i):=by
 unfold ju u4
 refine .dec (fun h2=> .tok hT h h2 fun t _ _ h5=> .mk fun hk=>h5 ?_) fun _=> .mk sm
 rw[beq_iff_eq]at hk
 omega
variable (hM:M<=60000)
include hM
theorem Ok.end {j:Int} {f:Int->Option β} (h1:1<=j) (h2:j<=T.length) (k:∀b,Ok Q (f b)):Ok Q ((afk T j).bind f):=by
 have:=hT.len
 unfold afk ad7
 rw[cu om om]
 exact .bd (P:=fun _=>True) (.tok hT om om fun _ _ _ _=> .tok hT om om fun _ _ _ _=> .mk trivial) fun b _=>k b
theorem Ok.made {q i j:Int} {l:List B5} {f:B5->Option β} (h:0<=i) (h2:i<T.length) (h1:1<=j) (h3:j<=T.length) (k:∀a b,Ok Q (f ⟨q,[],[],0,a,b, -1, -1,l⟩)):Ok Q ((fq T q i j l).bind f):=by
 unfold fq acl
 refine .bd (P:=fun n=>∃a b,n=⟨q,[],[],0,a,b, -1, -1,l⟩) (.tok hT h h2 fun _ _ _ _=> .end hT hM h1 h3 fun _=> .mk ⟨_,_,rfl⟩) ?_
 rintro _ ⟨a,b,rfl⟩
 exact k a b
theorem Ok.typed {i:Int} {x:B5} {f:B5->Option β} (h:0<=i) (h2:i+1<T.length) (k:∀s t a b,s.length<=M->t.length<=M->Ok Q (f {{{{x with Type_:=s} with TypeAt:=a} with Text:=t} with At:=b})):Ok Q ((xe T x i).bind f):=by
 have:=hT.len
 unfold xe
 rw[cu om om]
 refine .bd (P:=fun n=>∃s t a b,s.length<=M/\t.length<=M/\n={{{{x with Type_:=s} with TypeAt:=a} with Text:=t} with At:=b}) (.tok hT h om fun t1 h1 _ _=> .tok hT h om fun t2 _ _ _=> .tok hT om om fun t3 h3 _ _=> .tok hT om om fun t4 _ _ _=> .mk ⟨_,_,_,_,h1,h3,rfl⟩) ?_
 rintro _ ⟨s,t,a,b,g1,g2,rfl⟩
 exact k s t a b g1 g2
end
theorem leaf {P:Prop} (h:P:=by
  (try dsimp only[vi,ax8,Sum.elim_inl,Sum.elim_inr,air])
  (try intro hw)
  first
  |omega
  | ((try simp only [okB, okBL, am9, fi, bz, xu, List.length_nil, Int.natCast_add])
     (repeat' apply And.intro)<;>first|assumption|omega|trivial)):P:=h
section
variable {M:Nat} {T:List C5} (hT:ToksN M T) (hM:M<=60000)
include hT hM
theorem a1k {i:Int} (h:0<=i):Ok (fun b:Int=>b≠0->i+1<T.length) (ac7 T i):=by
 unfold ac7 aa2
 refine .bd (P:=air (fun _=>True) (fun _=>i+1<T.length)) (.it (fun p:Int=>0<=p/\p<=6) (fun p=>(6 - p).toNat) ?_ ⟨by omega,by omega⟩) (fun z hz=>by
  cases z with
  |next _=>exact .mk fun h=>absurd rfl h
  |done r=>exact .mk fun _=>hz)
 rintro p ⟨p1,p2⟩
 unfold wd
 refine .dec (fun hp=>?_) fun _=> .mk trivial
 simp only[List.length_cons,List.length_nil]at hp
 refine .bd (P:=air (fun _=>True) (fun z=>i+1<T.length/\∃r,z= .inr (.done r))) (.it (fun q:Int=>0<=q/\q<=4) (fun q=>(4 - q).toNat) ?_ ⟨by omega,by omega⟩) (fun z hz=>by
  cases z with
  |next _=>exact .mk (by simp only[Sum.elim_inl];rw[cu om om];omega)
  |done r=>obtain⟨h,r,rfl⟩:=hz;exact .mk h)
 rintro q ⟨q1,q2⟩
 unfold wc
 have hrow:∀p:Nat,p<6->∃row,idx [[([124,124]:Bt)],[[38,38]],[[61,61],[33,61]],[[60],[60,61],[62],[62,61]],[[43],[45]],[[42],[47],[37]]] (p:Int)=some row/\row.length<=4:=fun p hp=>by
  match p with
  | 0| 1| 2| 3| 4| 5=>exact⟨_,rfl,by decide⟩
  |n+6=>omega
 obtain⟨row,hr,hl⟩:=hrow p.toNat om
 rw[Int.toNat_of_nonneg p1]at hr
 rw[hr]
 simp only[Option.bind_some]
 refine .dec (fun h4=>?_) fun _=> .mk trivial
 obtain⟨n,rfl⟩:∃n:Nat,q=n:=⟨q.toNat,by omega⟩
 rw[aeq om]
 refine .isT (zm hT h _) (fun g=> .tt (.mk ⟨g,_,rfl⟩)) (.ff (.mk ?_))
 simp only[Sum.elim_inl]
 rw[cu om om]
 omega
end
structure Good (M:Nat) (T:List C5) (R:av) (m:Nat):Prop where
 expr:∀{i d:Int},0<=i->i<T.length->16 * (T.length - i)+9<=m->Ok (vi M T i) (R.1 T i d)
 level:∀{i d l:Int},0<=i->i<T.length->1<=l->l<=7->16 * (T.length - i)+9<=m+l->Ok (vi M T i) (R.2.1 T i d l)
 unary:∀{i d:Int},0<=i->i<T.length->16 * (T.length - i)+1<=m->Ok (vi M T i) (R.2.2.1 T i d)
 prim:∀{i d:Int},0<=i->i<T.length->16 * (T.length - i)<=m->Ok (vi M T i) (R.2.2.2.1 T i d)
 args:∀{i d:Int},0<=i->i<T.length->16 * (T.length - i)+10<=m->Ok (ax8 M T i) (R.2.2.2.2 T i d)
theorem go {P:Prop} (h:P:=by
 repeat' first
 |exact leaf
 |simp(disch:=omega) only[cu]
 |refine Ok.tt ?_
 |refine Ok.ff ?_
 |(refine Ok.dec (fun _=>?_) (fun _=>?_)<;>try (exfalso;omega))
 |refine Ok.cond (fun _=>?_) (fun _=>?_)
 |refine Ok.syn ?_
 |refine Ok.fine ?_
 |refine Ok.mk ?_
 |refine Ok.app (by simp only[fi,bz,xu];omega) ?_
 |refine Ok.isT (zm hT om _) (fun _=>?_) ?_
 |refine Ok.isT (ajf hT om) (fun _=>?_) ?_
 |refine Ok.tok hT om om (fun _ _ _ _=>?_)
 |refine Ok.made hT hM om om om om (fun _ _=>?_)
 |refine Ok.end hT hM om om (fun _=>?_)
 |refine Ok.typed hT hM om om (fun _ _ _ _ _ _=>?_)
 |refine Ok.node (hG.expr om om om) (fun _ _ _ _=>?_) (fun _ _ _ _ _ _ _ _=>?_)
 |refine Ok.node (hG.level om om om om om) (fun _ _ _ _=>?_) (fun _ _ _ _ _ _ _ _=>?_)
 |refine Ok.node (hG.unary om om om) (fun _ _ _ _=>?_) (fun _ _ _ _ _ _ _ _=>?_)
 |refine Ok.node (hG.prim om om om) (fun _ _ _ _=>?_) (fun _ _ _ _ _ _ _ _=>?_)
 |refine Ok.list (hG.args om om om) (fun _ _ _ _=>?_) (fun _ _ _ _ _ _ _ _=>?_)
 |refine Ok.node (akr hT hM om om) (fun _ _ _ _=>?_) (fun _ _ _ _ _ _ _ _=>?_)
 |refine Ok.node (amp hT hM om om) (fun _ _ _ _=>?_) (fun _ _ _ _ _ _ _ _=>?_)
 |refine Ok.node (aod hT hM om om) (fun _ _ _ _=>?_) (fun _ _ _ _ _ _ _ _=>?_)
 |refine Ok.node (atj hT hM om om) (fun _ _ _ _=>?_) (fun _ _ _ _ _ _ _ _=>?_)
 |refine Ok.node (awz hT hM om om) (fun _ _ _ _=>?_) (fun _ _ _ _ _ _ _ _=>?_)
 |refine Ok.node (hS.block om om om) (fun _ _ _ _=>?_) (fun _ _ _ _ _ _ _ _=>?_)
 |refine Ok.node (hS.stmt om om om) (fun _ _ _ _=>?_) (fun _ _ _ _ _ _ _ _=>?_)
 |refine Ok.node (hS.guard om om om) (fun _ _ _ _=>?_) (fun _ _ _ _ _ _ _ _=>?_)
 |refine Ok.list (atq hT hM om om) (fun _ _ _ _=>?_) (fun _ _ _ _ _ _ _ _=>?_)
 |refine Ok.isT (au8 hT om) (fun _=>?_) ?_):P:=h
section
variable {M:Nat} {T:List C5} (hT:ToksN M T) (hM:M<=60000) {R:av} {m:Nat} (hG:Good M T R m)
include hT hM hG
theorem apl {i d:Int} (h:0<=i) (hi:i<T.length) (hm:16 * (T.length - i)+9<=m+1):Ok (vi M T i) (oy R T i d):=by
 have:=hT.len
 unfold oy
 exact go
theorem axf {i d l:Int} (h:0<=i) (hi:i<T.length) (h1:1<=l) (h7:l<=7) (hm:16 * (T.length - i)+9<=m+1+l):Ok (vi M T i) (yx R T i d l):=by
 have:=hT.len
 unfold yx aax aau aaw
 refine .dec (fun _=>go) fun _=>?_
 rw[cu om om]
 refine Ok.node (hG.level h hi om om om) (fun _ _ _ _=>go) (fun n j w hw g1 g2 g3 g4=> .dec (fun _=>go) fun _=>?_)
 refine .bd (P:=air (fun p=>vi M T i (p.2,p.1,⟨-1,0⟩)) (vi M T i)) (.it (fun s:Int × B5=>i<s.1/\s.1<T.length/\okB M s.2/\(fi s.2:Int)+i<=s.1) (fun s=>(T.length - s.1).toNat) ?_ ⟨g1,g2,g3,g4⟩) (fun z hz=>by cases z<;>exact .mk hz)
 rintro⟨k,x⟩ ⟨q1,q2,q3,q4⟩
 dsimp only at q1 q2 q3 q4
 unfold vv aav
 dsimp only
 refine .bd (a1k hT hM om) fun b hb=> .cond (fun e=>?_) fun _=> .mk fun _=>⟨q1,q2,q3,q4⟩
 have:=hb (by rw[beq_iff_eq]at e;omega)
 exact go
theorem aqs {i d:Int} (h:0<=i) (hi:i<T.length) (hm:16 * (T.length - i)+1<=m+1) (b:Bool) (hb:b=true->i+1<T.length):Ok (vi M T i) (sa R T i d b):=by
 have:=hT.len
 unfold sa aat vu aas aap aar
 refine .cond (fun e=>?_) fun _=> .node (hG.prim h hi om) (fun _ _ _ _=>go) fun n j w hw g1 g2 g3 g4=> .dec (fun _=>go) fun _=>?_
 ·have:=hb e
  exact go
 refine .bd (P:=air (fun p=>vi M T i (p.2,p.1,⟨-1,0⟩)) (vi M T i)) (.it (fun s:Int × B5=>i<s.1/\s.1<T.length/\okB M s.2/\(fi s.2:Int)+i<=s.1) (fun s=>(T.length - s.1).toNat) ?_ ⟨g1,g2,g3,g4⟩) (fun z hz=>by cases z<;>exact .mk hz)
 rintro⟨k,x⟩ ⟨q1,q2,q3,q4⟩
 dsimp only at q1 q2 q3 q4
 unfold vr aaq vt
 dsimp only
 exact go
theorem aw4 {i d:Int} (h:0<=i) (hi:i<T.length) (hm:16 * (T.length - i)+1<=m+1):Ok (vi M T i) (yw R T i d):=by
 unfold yw
 exact .dec (fun _=>go) fun _=> .isT (zm hT h _) (fun g=> .tt (aqs hT hM hG h hi hm _ fun _=>g)) (.ff (.bd (zm hT h _) fun b hb=>aqs hT hM hG h hi hm b hb))
theorem az4 {i d:Int} (h:0<=i) (hi:i<T.length) (hm:16 * (T.length - i)+10<=m+1):Ok (ax8 M T i) (qu R T i d):=by
 have:=hT.len
 unfold qu
 refine .isT (zm hT h _) (fun _=>go) (.ff (.it (fun s:Int × List B5=>i<=s.1/\s.1<T.length/\okBL M s.2/\(bz s.2:Int)+i<=s.1) (fun s=>(T.length - s.1).toNat) ?_ ⟨by simp,hi,by simp[okBL],by simp[bz]⟩))
 rintro⟨k,x⟩ ⟨q1,q2,q3,q4⟩
 dsimp only at q1 q2 q3 q4
 unfold oo sx
 dsimp only
 exact go
theorem azn {i d:Int} (h:0<=i) (hi:i<T.length) (hm:16 * (T.length - i)<=m+1):Ok (vi M T i) (uh R T i d):=by
 have:=hT.len
 unfold uh wo wx ww wv wu wt ws wr u6
 refine .tok hT h hi fun t g1 _ g5=> .cond (fun e=>?_) fun _=>go
 have:=g5 (by rw[beq_iff_eq]at e;omega)
 rw[cu (n:=i+1) om om]
 refine .made hT hM h hi om om fun a b=> .bd (P:=fun x=>okB M x/\fi x=1) (.it (fun s:Int × B5=>0<=s.1/\s.1<=M/\okB M s.2/\fi s.2=1) (fun s=>(M - s.1).toNat) ?_ ⟨by simp,by simp,by simp[okB,okBL],by simp[fi,bz]⟩) fun x hx=> .fine (.mk fun _=>⟨by simp only;omega,by simp only;omega,hx.1,by simp only[hx.2];omega⟩)
 rintro⟨k,x⟩ ⟨q1,q2,q3,q4⟩
 dsimp only at q1 q2 q3 q4
 unfold rm
 dsimp only
 obtain⟨n,rfl⟩:∃n:Nat,i=n:=⟨i.toNat,by omega⟩
 have hn:n<T.length:=by omega
 have ht:=hT.txt n hn
 rw[aeq hn]
 simp only[Option.bind_some]
 refine .dec (fun hk=> .bd (aby q1 hk) fun _ _=> .mk ?_) fun _=> .mk ⟨q3,q4⟩
 rw[cu (n:=k+1) om om]
 cases x
 simp only[okB,fi]at q3 q4 ⊢
 exact⟨⟨by omega,by omega,q3,q4⟩,by omega⟩
end
section
variable {M:Nat} {T:List C5} (hT:ToksN M T) (hM:M<=60000)
include hT hM
theorem good_at :∀(m n:Nat),m<n->Good M T (fy n) m:=by
 intro m
 induction m with
 |zero=>
  intro n hn
  exact⟨fun _ _ _=>by omega,fun _ _ _ _ _=>by omega,fun _ _ _=>by omega,fun _ _ _=>by omega,fun _ _ _=>by omega⟩
 |succ m ih=>
  intro n hn
  obtain⟨n,rfl⟩:∃k,n=k+1:=⟨n - 1,by omega⟩
  have hG:=ih n om
  exact⟨fun h hi hm=>apl hT hM hG h hi hm,fun h hi h1 h7 hm=>axf hT hM hG h hi h1 h7 hm,fun h hi hm=>aw4 hT hM hG h hi hm,fun h hi hm=>azn hT hM hG h hi hm,fun h hi hm=>az4 hT hM hG h hi hm⟩
theorem akr {i d:Int} (h:0<=i) (hi:i<T.length):Ok (vi M T i) (mc T i d):=
 (good_at hT hM 1000000 1048576 om).expr h hi (by have:=hT.len;omega)
end
end Go.Proofs.YtcndghapmoaidaaGreatDoor
set_option linter.unusedSectionVars false
set_option linter.unusedVariables false
set_option linter.unusedSimpArgs false
set_option maxRecDepth 100000
set_option maxHeartbeats 4000000
namespace Go.Proofs.YtcndghapmoaidaaGreatDoor
open Go Go.Cn
variable [Glob]
section
variable {M:Nat} {T:List C5} (hT:ToksN M T)
include hT
theorem au8 {i:Int} (h:0<=i):Ok (fun b=>b=true->i+1<T.length) (acw T i):=by
 unfold acw re
 exact .isT (ajf hT h) (fun g=> .tt (.mk fun _=>g)) (.ff (.isT (zm hT h _) (fun g=> .tt (.mk fun _=>g)) (.ff (.isT (zm hT h _) (fun g=> .tt (.mk fun _=>g)) (.ff (.bd (zm hT h _) fun _ g=> .mk g))))))
theorem a01 {i:Int} (h:0<=i) (hi:i<T.length) (hM:M<=60000):Ok (fun _=>True) (ac5 T i):=by
 have:=hT.len
 unfold ac5 my
 rw[cu om om]
 exact .bd (zm hT h _) fun _ _=> .cond (fun _=> .mk trivial) fun _=> .bd (zm hT h _) fun _ _=> .cond (fun _=> .mk trivial) fun _=> .bd (zm hT h _) fun _ _=> .cond (fun _=> .mk trivial) fun _=> .bd (ajf hT h) fun _ _=> .cond (fun _=> .bd (ajf hT om) fun _ _=> .mk trivial) fun _=> .mk trivial
variable (hM:M<=60000)
include hM
theorem amp {i d:Int} (h:0<=i) (hi:i<T.length):Ok (vi M T i) (qi T i d):=by
 have:=hT.len
 unfold qi sv su
 exact go
theorem aod {i d:Int} (h:0<=i) (hi:i<T.length):Ok (vi M T i) (abj T i d):=by
 have:=hT.len
 unfold abj y9
 exact go
theorem atj {i d:Int} (h:0<=i) (hi:i+1<T.length):Ok (vi M T i) (abh T i d):=by
 have:=hT.len
 unfold abh y8 y7
 exact go
theorem atq {i:Int} (h:0<=i) (hi:i<T.length):Ok (ax8 M T i) (abi T i):=by
 have:=hT.len
 unfold abi
 refine .isT (zm hT h _) (fun _=>go) (.ff (.it (fun s:Int × List B5=>i<=s.1/\s.1<T.length/\okBL M s.2/\(bz s.2:Int)+i<=s.1) (fun s=>(T.length - s.1).toNat) ?_ ⟨by simp,hi,by simp[okBL],by simp[bz]⟩))
 rintro⟨k,x⟩ ⟨q1,q2,q3,q4⟩
 dsimp only at q1 q2 q3 q4
 unfold t6 t7
 dsimp only
 refine .isT (au8 hT om) (fun _=> .ff (.bd (zm hT om _) fun _ _=>go)) (.tt go)
end
structure GoodS (M:Nat) (T:List C5) (R:cf) (m:Nat):Prop where
 block:∀{i d:Int},0<=i->i<T.length->4 * (T.length - i)<=m->Ok (vi M T i) (R.1 T i d)
 stmt:∀{i d:Int},0<=i->i<T.length->4 * (T.length - i)+1<=m->Ok (vi M T i) (R.2.1 T i d)
 guard:∀{i d:Int},0<=i->i+1<T.length->4 * (T.length - i)<=m->Ok (vi M T i) (R.2.2 T i d)
section
variable {M:Nat} {T:List C5} (hT:ToksN M T) (hM:M<=60000) {R:cf} {m:Nat} (hS:GoodS M T R m)
include hT hM hS
theorem aul {i d:Int} (h:0<=i) (hi:i+1<T.length) (hm:4 * (T.length - i)<=m+1):Ok (vi M T i) (ui R T i d):=by
 have:=hT.len
 unfold ui w5 w4 rn wz
 exact go
theorem af0 {i d:Int} (h:0<=i) (hi:i<T.length) (b:Bool) (hb:b=true->i+1<T.length):Ok (vi M T i) (lw R T i d b):=by
 have:=hT.len
 unfold lw ss ol sr
 refine .cond (fun e=>?_) fun _=>go
 have:=hb e
 exact go
theorem afz {i d:Int} (h:0<=i) (hi:i<T.length) (hm:4 * (T.length - i)+1<=m+1) (b:Bool) (hb:b=true->i+1<T.length):Ok (vi M T i) (lv R T i d b):=by
 have:=hT.len
 unfold lv
 refine .cond (fun e=>?_) fun _=> .isT (zm hT h _) (fun g=> .tt (af0 hT hM hS h hi _ fun _=>g)) (.ff (.bd (zm hT h _) fun b hb=>af0 hT hM hS h hi b hb))
 have:=hb e
 exact go
theorem apt {i d:Int} (h:0<=i) (hi:i<T.length) (hm:4 * (T.length - i)+1<=m+1):Ok (vi M T i) (qt R T i d):=by
 have:=hT.len
 unfold qt
 exact .dec (fun _=>go) fun _=> .isT (zm hT h _) (fun _=> .tt go) (.ff (.isT (zm hT h _) (fun g=> .tt (afz hT hM hS h hi hm _ fun _=>g)) (.ff (.bd (zm hT h _) fun b hb=>afz hT hM hS h hi hm b hb))))
theorem axr {i d:Int} (h:0<=i) (hi:i<T.length) (hm:4 * (T.length - i)<=m+1):Ok (vi M T i) (yy R T i d):=by
 have:=hT.len
 unfold yy aa0
 refine .isT (zm hT h _) (fun g=> .ff ?_) (.tt go)
 rw[cu om om]
 refine .bd (P:=air (fun p:Int × List B5=>p.1+1<T.length/\i<p.1/\okBL M p.2/\(bz p.2:Int)+i+1<=p.1) (vi M T i)) (.it (fun s:Int × List B5=>i<s.1/\s.1<T.length/\okBL M s.2/\(bz s.2:Int)+i+1<=s.1) (fun s=>(T.length - s.1).toNat) ?_ ⟨by simp only;omega,g,by simp[okBL],by simp[bz]⟩) (fun z hz=>?_)
 ·rintro⟨k,x⟩ ⟨q1,q2,q3,q4⟩
  dsimp only at q1 q2 q3 q4
  unfold wb sc aa1
  dsimp only
  refine .isT (zm hT om _) (fun _=> .ff (.mk ⟨by assumption,q1,q3,q4⟩)) (.tt (.bd (a01 hT om q2 hM) fun _ _=> .cond (fun _=>?_) fun _=>go))
  refine .node (aod hT hM om om) (fun _ _ _ _=>go) fun _ _ _ _ _ _ _ _=>go
 ·cases z with
  |done r=>exact .mk hz
  |next p=>
   obtain⟨g1,g2,g3,g4⟩:=hz
   dsimp only
   exact go
end
section
variable {M:Nat} {T:List C5} (hT:ToksN M T) (hM:M<=60000)
include hT hM
theorem a09 :∀(m n:Nat),m<n->GoodS M T (lz n) m:=by
 intro m
 induction m with
 |zero=>
  intro n hn
  exact⟨fun _ _ _=>by omega,fun _ _ _=>by omega,fun _ _ _=>by omega⟩
 |succ m ih=>
  intro n hn
  obtain⟨n,rfl⟩:∃k,n=k+1:=⟨n - 1,by omega⟩
  have hS:=ih n om
  exact⟨fun h hi hm=>axr hT hM hS h hi hm,fun h hi hm=>apt hT hM hS h hi hm,fun h hi hm=>aul hT hM hS h hi hm⟩
theorem awz {i d:Int} (h:0<=i) (hi:i<T.length):Ok (vi M T i) (ajl T i d):=
 (a09 hT hM 1000000 1048576 om).block h hi (by have:=hT.len;omega)
theorem amj {i a:Int} (b:Bool) (h:0<=i) (hi:i<=a) (ha:a<T.length):Ok (vi M T i) (lk T i b a):=by
 have:=hT.len
 unfold lk qg qh ub ua t8
 exact go
theorem azs {i:Int} (h:0<=i) (hi:i<T.length):Ok (vi M T i) (qz T i):=by
 have:=hT.len
 unfold qz
 rw[cu om om]
 exact .isT (zm hT h _) (fun g=> .tt (amj hT hM _ h om g)) (.ff (amj hT hM _ h om hi))
end
def memK (k:B5):Prop:=k.Kind=3\/(k.Kind=2/\k.Kids=[])
theorem leafM {P:Prop} (h:P:=by
 (try dsimp only[Sum.elim_inl,Sum.elim_inr])
 intro hw
 first
 |(exfalso;omega)
 |exact Or.inl rfl
 |exact Or.inr ⟨rfl,rfl⟩):P:=h
theorem goM {P:Prop} (h:P:=by
 repeat' first
 |exact leafM
 |simp(disch:=omega) only[cu]
 |refine Ok.tt ?_
 |refine Ok.ff ?_
 |(refine Ok.dec (fun _=>?_) (fun _=>?_)<;>try (exfalso;omega))
 |refine Ok.cond (fun _=>?_) (fun _=>?_)
 |refine Ok.syn ?_
 |refine Ok.fine ?_
 |refine Ok.mk ?_
 |refine Ok.app (by simp only[fi,bz,xu];omega) ?_
 |refine Ok.isT (zm hT om _) (fun _=>?_) ?_
 |refine Ok.isT (ajf hT om) (fun _=>?_) ?_
 |refine Ok.tok hT om om (fun _ _ _ _=>?_)
 |refine Ok.made hT hM om om om om (fun _ _=>?_)
 |refine Ok.end hT hM om om (fun _=>?_)
 |refine Ok.typed hT hM om om (fun _ _ _ _ _ _=>?_)
 |refine Ok.node (hG.expr om om om) (fun _ _ _ _=>?_) (fun _ _ _ _ _ _ _ _=>?_)
 |refine Ok.node (hG.level om om om om om) (fun _ _ _ _=>?_) (fun _ _ _ _ _ _ _ _=>?_)
 |refine Ok.node (hG.unary om om om) (fun _ _ _ _=>?_) (fun _ _ _ _ _ _ _ _=>?_)
 |refine Ok.node (hG.prim om om om) (fun _ _ _ _=>?_) (fun _ _ _ _ _ _ _ _=>?_)
 |refine Ok.list (hG.args om om om) (fun _ _ _ _=>?_) (fun _ _ _ _ _ _ _ _=>?_)
 |refine Ok.node (akr hT hM om om) (fun _ _ _ _=>?_) (fun _ _ _ _ _ _ _ _=>?_)
 |refine Ok.node (amp hT hM om om) (fun _ _ _ _=>?_) (fun _ _ _ _ _ _ _ _=>?_)
 |refine Ok.node (aod hT hM om om) (fun _ _ _ _=>?_) (fun _ _ _ _ _ _ _ _=>?_)
 |refine Ok.node (atj hT hM om om) (fun _ _ _ _=>?_) (fun _ _ _ _ _ _ _ _=>?_)
 |refine Ok.node (awz hT hM om om) (fun _ _ _ _=>?_) (fun _ _ _ _ _ _ _ _=>?_)
 |refine Ok.node (hS.block om om om) (fun _ _ _ _=>?_) (fun _ _ _ _ _ _ _ _=>?_)
 |refine Ok.node (hS.stmt om om om) (fun _ _ _ _=>?_) (fun _ _ _ _ _ _ _ _=>?_)
 |refine Ok.node (hS.guard om om om) (fun _ _ _ _=>?_) (fun _ _ _ _ _ _ _ _=>?_)
 |refine Ok.list (atq hT hM om om) (fun _ _ _ _=>?_) (fun _ _ _ _ _ _ _ _=>?_)
 |refine Ok.isT (au8 hT om) (fun _=>?_) ?_):P:=h
section
variable {M:Nat} {T:List C5} (hT:ToksN M T) (hM:M<=60000)
include hT hM
theorem akp {i a:Int} (b:Bool) (h:0<=i) (hi:i<=a) (ha:a<T.length):Ok (fun r:B5 × Int × C6=>r.2.2.Place<0->memK r.1) (lk T i b a):=by
 have:=hT.len
 unfold lk qg qh ub ua t8
 exact goM
theorem axe {i:Int} (h:0<=i) (hi:i<T.length):Ok (fun r:B5 × Int × C6=>r.2.2.Place<0->memK r.1) (qz T i):=by
 have:=hT.len
 unfold qz
 rw[cu om om]
 exact .isT (zm hT h _) (fun g=> .tt (akp hT hM _ h om g)) (.ff (akp hT hM _ h om hi))
theorem avy {i:Int} (h:0<=i) (hi:i<T.length):Ok (fun r:B5 × Int × C6=>vi M T i r/\(r.2.2.Place<0->memK r.1)) (qz T i):=by
 obtain⟨a,h1,h2⟩:=azs hT hM h hi
 obtain⟨b,h3,h4⟩:=axe hT hM h hi
 rw[h1]at h3
 cases h3
 exact⟨a,h1,h2,h4⟩
end
end Go.Proofs.YtcndghapmoaidaaGreatDoor
set_option linter.unusedSectionVars false
set_option linter.unusedVariables false
set_option linter.unusedSimpArgs false
set_option maxRecDepth 100000
set_option maxHeartbeats 4000000
namespace Go.Proofs.YtcndghapmoaidaaGreatDoor
open Go Go.Cn
variable [Glob]
def CP (n:B5):Prop:=n.Kind=1/\(n.Text≠[]/\oa n.Text=some false)/\∀k∈n.Kids,memK k
abbrev atf (M:Nat) (T:List C5) (i:Int):B5 × Int × C6->Prop:=fun r=>r.2.2.Place<0->(i<r.2.1/\r.2.1<T.length/\okB M r.1/\(fi r.1:Int)+i<=r.2.1)/\CP r.1
section
variable {M:Nat} {T:List C5} (hT:ToksN M T) (hM:M<=60000)
include hT hM
theorem av4 {i:Nat} {s j:Int} {l:List B5} (hi:i+1<T.length) (hk:T[i+1].Kind=1) (hs:s<T.length) (g1:i<j) (g2:j+1<T.length) (hl:okBL M l) (hn:(bz l:Int)+i+1<=j) (hm:∀k∈l,memK k):Ok (atf M T i) (vz T i s j l):=by
 have:=hT.len
 unfold vz wa aaz
 rw[cu (n:=j+1) om om,cu (n:=(i:Int)+1) om om]
 refine .made hT hM om om om om fun a b=>?_
 have e:idx T ((i:Int)+1)=some T[i+1]:=aeq hi
 have h1:=hT.txt _ hi
 have h2:=hT.kept _ hi hk
 rw[e]
 simp only[Option.bind_some]
 refine .dec (fun _=> .tok hT om hs fun t _ _ _=> .tok hT om hs fun _ _ _ _=> .fine (.mk fun _=>⟨leaf,rfl,h2,hm⟩)) fun _=> .fine (.mk fun _=>⟨leaf,rfl,h2,hm⟩)
theorem aou {i:Nat} {s a:Int} (hi:i+1<T.length) (hk:T[i+1].Kind=1) (hs:s<T.length) (ha:i<a):Ok (atf M T i) (sb T i a s):=by
 have:=hT.len
 unfold sb
 refine .isT (zm hT om _) (fun g=> .ff ?_) (.tt (.syn (.mk fun h=>absurd h (by simp only;omega))))
 rw[cu om om]
 refine .bd (P:=air (fun p:Int × List B5=>p.1+1<T.length/\i<p.1/\okBL M p.2/\(bz p.2:Int)+i+1<=p.1/\∀k∈p.2,memK k) (atf M T i)) (.it (fun s:Int × List B5=>i<s.1/\s.1<T.length/\okBL M s.2/\(bz s.2:Int)+i+1<=s.1/\∀k∈s.2,memK k) (fun s=>(T.length - s.1).toNat) ?_ ⟨by simp only;omega,g,by simp[okBL],by simp[bz];omega,fun _ h=>by cases h⟩) (fun z hz=>?_)
 ·rintro⟨k,x⟩ ⟨q1,q2,q3,q4,q5⟩
  dsimp only at q1 q2 q3 q4 q5
  unfold vw aay
  dsimp only
  refine .isT (zm hT om _) (fun _=> .ff (.mk ⟨by assumption,q1,q3,q4,q5⟩)) (.tt (.bd (avy hT hM om q2) ?_))
  rintro⟨nd,j,w⟩ ⟨r1,r2⟩
  dsimp only at r1 r2 ⊢
  refine .dec (fun hw=> .mk fun h=>?_) fun hw=>?_
  ·simp only at h
   omega
  ·obtain⟨t1,t2,t3,t4⟩:=r1 (by simp only;omega)
   have r2:=r2 om
   dsimp only at t1 t2 t3 t4
   refine .app (by simp only[bz];omega) (.mk ?_)
   simp only[Sum.elim_inl]
   refine⟨⟨by omega,t2,am9.2 ⟨q3,t3,trivial⟩,by simp only[xu,bz];omega,fun c hc=>?_⟩,by omega⟩
   rcases List.mem_append.1 hc with hc|hc
   ·exact q5 c hc
   ·obtain rfl:c=nd:=by simpa using hc
    exact r2
 ·cases z with
  |done r=>exact .mk hz
  |next p=>
   obtain⟨g1,g2,g3,g4,g5⟩:=hz
   exact av4 hT hM hi hk hs g2 g1 g3 g4 g5
theorem azq {n:Nat} (h:n<T.length):Ok (fun b=>b=true->n+1<T.length/\T[n].Kind=1) (ju T n):=by
 obtain⟨b,hb,h2⟩:=ajf hT (show(0:Int)<=n by omega)
 refine⟨b,hb,fun e=>⟨by have:=h2 e;omega,?_⟩⟩
 unfold ju u4 at hb
 rw[if_pos (by simpa using h),aeq h]at hb
 simp only[Option.bind_some,Option.some.injEq]at hb
 subst hb
 simpa using e
theorem a1h {i:Nat} (hi:i+1<T.length):Ok (atf M T i) (ac6 T i):=by
 have:=hT.len
 have bad:∀p:Int,0<=p->Ok (atf M T i) ((c7 p).bind fun w=>some ((B5.mk 0 [] [] 0 0 0 0 0 []),0,w)):=fun p hp=> .syn (.mk fun h=>by simp only at h;omega)
 unfold ac6
 have e1:w64 ((i:Int)+1)=((i+1:Nat):Int):=by rw[cu om om];rfl
 rw[e1,cu (n:=(i:Int)+2) om om,cu (n:=(i:Int)+2+1) om om,cu (n:=(i:Int)+2+2) om om]
 exact .isT (zm hT om _) (fun _=> .ff (.isT (azq hT hM hi) (fun g=> .ff (.isT (zm hT om _) (fun g2=> .tt (.isT (ajf hT om) (fun _=> .ff (aou hT hM hi g.2 om om)) (.tt (bad _ om)))) (.ff (aou hT hM hi g.2 om om)))) (.tt (bad _ om)))) (.tt (bad _ om))
theorem axd {w:C6} (hw:w.Place≥0):Ok (fun _=>True) (yk T w):=by
 have:=hT.len
 have:=hT.pos
 unfold yk wy
 rw[cu om om]
 exact .tok hT (by split<;>omega) (by split<;>omega) fun _ _ _ _=> .mk trivial
end
theorem aj3 {x:B5}:∀{l:List B5},x∈l->fi x<=bz l
 |n::l,h=>by
  simp only[bz]
  rcases List.mem_cons.1 h with rfl|h
  ·omega
  ·have:=aj3 h;omega
theorem a1g :∀(k:Nat) (x:B5),fi x<=k->k<=1048576->Ok (fun _=>True) (oq k x):=by
 intro k
 induction k with
 |zero=>intro x h;have:=ng x;omega
 |succ k ih=>
  intro x hx hk
  show Ok _ (yz (oq k) x)
  have hl:=ke x.Kids
  have hs:=jk x
  unfold yz aa3
  refine .bd (P:=fun _=>True) (.it (fun s:Int × Int=>0<=s.2/\s.2<=x.Kids.length) (fun s=>(x.Kids.length - s.2).toNat) ?_ ⟨by simp,by simp⟩) fun _ _=> .mk trivial
  rintro⟨v,i⟩ ⟨h1,h2⟩
  dsimp only at h1 h2
  unfold we
  refine .dec (fun h=>?_) fun _=> .mk trivial
  obtain⟨i,rfl⟩:∃n:Nat,i=n:=⟨i.toNat,by omega⟩
  have hi:i<x.Kids.length:=by simpa using h
  have:=aj3 (List.getElem_mem hi)
  dsimp only
  rw[aeq hi,Option.bind_some]
  refine .bd (ih x.Kids[i] om om) fun _ _=> .mk ?_
  simp only[Sum.elim_inl]
  rw[cu om om]
  omega
def apr (M:Nat) (l:List B5):Prop:=okBL M l/\bz l<=M/\∀c∈l,CP c
theorem File_ok {x:Bt} {M:Nat} (hM:x.length<=M) (hx:M<=60000):Ok (fun r:List B5 × B3=>r.2.Code=0->apr M r.1) (acx x):=by
 unfold acx
 refine .bd (Lex_ok om) ?_
 rintro⟨T,p,e⟩ hT
 refine .cond (fun h=> .mk fun h2=>by simp only at h2;simp[h2]at h) fun h=>?_
 have hT:=hT (by simpa using h)
 have hT:ToksN M T:=⟨by have:=hT.len;simp only at this;omega,hT.pos,hT.last,fun i h=>Nat.le_trans (hT.txt i h) hM,hT.kept⟩
 have hlen:=hT.len
 have hpos:=hT.pos
 refine .bd (P:=air (apr M) (fun r:List B5 × B3=>r.2.Code=0->apr M r.1)) (.it (fun s:Int × List B5=>0<=s.1/\s.1<T.length/\okBL M s.2/\(bz s.2:Int)<=s.1/\∀c∈s.2,CP c) (fun s=>(T.length - s.1).toNat) ?_ ⟨by simp,by simp only;omega,by simp[okBL],by simp[bz],fun _ h=>by cases h⟩) fun z hz=>?_
 ·rintro⟨k,l⟩ ⟨q1,q2,q3,q4,q5⟩
  dsimp only at q1 q2 q3 q4 q5
  unfold ym
  refine .tok hT q1 q2 fun t _ _ h5=> .cond (fun hk=>?_) fun _=> .mk ⟨q3,by simp only;omega,q5⟩
  have:=h5 (by simpa using hk)
  obtain⟨k,rfl⟩:∃n:Nat,k=n:=⟨k.toNat,by omega⟩
  refine .bd (a1h hT hx (i:=k) om) ?_
  rintro⟨n,j,w⟩ g
  refine .dec (fun hw=> .bd (axd hT hx hw) fun m _=>?_) fun hw=>?_
  ·exact .mk fun _=>⟨by simp[okBL],by simp[bz],fun _ h=>by cases h⟩
  ·obtain⟨⟨g1,g2,g3,g4⟩,g5⟩:=g (by simp only;omega)
   dsimp only at g1 g2 g3 g4 g5
   refine .app (by simp only[bz];omega) (.mk ⟨⟨by simp only;omega,g2,am9.2 ⟨q3,g3,trivial⟩,by simp only[xu,bz];omega,fun c hc=>?_⟩,by simp only;omega⟩)
   rcases List.mem_append.1 hc with hc|hc
   ·exact q5 c hc
   ·obtain rfl:c=n:=by simpa using hc
    exact g5
 ·cases z with
  |done r=>exact .mk hz
  |next l=>
   have hz:apr M l:=hz
   have hl:=ke l
   have hm:=hz.2.1
   dsimp only
   unfold acm acn
   refine .bd (P:=air (fun _=>True) (fun r:List B5 × B3=>r.2.Code≠0)) (.it (fun i:Int=>0<=i/\i<=l.length) (fun i=>(l.length - i).toNat) ?_ ⟨by simp,by simp⟩) fun z h2=>?_
   ·rintro i ⟨h1,h2⟩
    unfold yn aco
    refine .dec (fun h=>?_) fun _=> .mk trivial
    obtain⟨i,rfl⟩:∃n:Nat,i=n:=⟨i.toNat,by omega⟩
    have hi:i<l.length:=by omega
    have:=aj3 (List.getElem_mem hi)
    rw[aeq hi,Option.bind_some]
    refine .bd (a1g 1048576 l[i] om (Nat.le_refl _)) fun d _=> .dec (fun _=> .mk (by simp[air])) fun _=> .mk ?_
    simp only[Sum.elim_inl]
    rw[cu om om]
    omega
   ·cases z with
    |next _=>exact .mk fun _=>hz
    |done r=>exact .mk fun h=>absurd h h2
end Go.Proofs.YtcndghapmoaidaaGreatDoor
set_option linter.unusedSectionVars false
set_option linter.unusedVariables false
set_option linter.unusedSimpArgs false
set_option maxRecDepth 100000
set_option maxHeartbeats 4000000
namespace Go.Proofs.YtcndghapmoaidaaGreatDoor
open Go Go.Cn
variable [Glob]
theorem cat_ok {a b:Bt} (h:a.length+b.length<=9000000000):Ok (fun s=>s=a++b) (cat a b):=by
 unfold cat
 rw[if_pos om]
 exact .mk rfl
theorem app_ok {α:Type} {n:Nat} {l m:List α} (h:(l.length+m.length) * n<=140737488355328) (h2:l.length+m.length<=140737488355328):Ok (fun s=>s=l++m) (app n l m):=⟨_,nz h h2,rfl⟩
theorem Ok.row {α σ ω:Type} {l:List α} {f:Int × σ->Option ((Int × σ) ⊕ ω)} {Q:ω->Prop} (I:Nat->σ->Prop) (hl:l.length<=1000000000)
  (h1:∀(i:Nat) (h:i<l.length) s,I i s->Ok (Sum.elim (fun p=>p.1=((i+1:Nat):Int)/\I (i+1) p.2) Q) (f ((i:Int),s))) (h2:∀(i:Nat) s,¬(i:Int)<l.length->I l.length s->Ok (Sum.elim (fun _=>False) Q) (f ((i:Int),s))) {s:σ} (hs:I 0 s):Ok Q (iter f (0,s)):=by
 refine .it (fun p:Int × σ=>∃i:Nat,p.1=i/\i<=l.length/\I i p.2) (fun p=>l.length - p.1.toNat) ?_ ⟨0,rfl,Nat.zero_le _,hs⟩
 rintro⟨_,s⟩ ⟨i,rfl,hi,hI⟩
 dsimp only at hI
 by_cases h:i<l.length
 ·refine(h1 i h s hI).weak fun z hz=>?_
  cases z with
  |inr w=>exact hz
  |inl p=>
   obtain⟨a,s'⟩:=p
   obtain⟨rfl,hp⟩:=hz
   simp only[Sum.elim_inl]
   exact⟨⟨i+1,rfl,h,hp⟩,by rw[Int.toNat_natCast,Int.toNat_natCast];omega⟩
 ·obtain rfl:i=l.length:=by omega
  refine(h2 _ s om hI).weak fun z hz=>?_
  cases z with
  |inr w=>exact hz
  |inl p=>exact absurd hz id
theorem abv {n:Nat} (h:n<=9000000000000):w64 ((n:Int)+1)=((n+1:Nat):Int):=by rw[cu om om];rfl
theorem len_lt {α:Type} {l:List α} {i:Nat} (h:i<l.length):decide ((i:Int)<(l.length:Int))=true:=by simpa using h
theorem aab {M:Nat} {x:B5}:∀{l:List B5},okBL M l->x∈l->okB M x
 |n::l,h,hx=>by
  simp only[okBL]at h
  rcases List.mem_cons.1 hx with rfl|hx
  ·exact h.1
  ·exact aab h.2 hx
theorem adw (M:Nat) (x:B5):okB M x=((x.Text.length<=M/\x.Type_.length<=M)/\okBL M x.Kids):=by cases x;simp[okB]
end Go.Proofs.YtcndghapmoaidaaGreatDoor
set_option linter.unusedSectionVars false
set_option linter.unusedVariables false
set_option linter.unusedSimpArgs false
set_option maxRecDepth 100000
set_option maxHeartbeats 4000000
namespace Go.Proofs.YtcndghapmoaidaaGreatDoor
open Go Go.Cn
variable [Glob]
def TabP (n:Int) (l:List A9):Prop:=(l.length:Int)<=n/\∀e∈l,e.Kind=1->e.Id≠[]/\oa e.Id=some false
theorem TabP.app {N:Int} {l m:List A9} {k:Nat} (h:TabP N l) (h1:m.length<=k) (h2:∀e∈m,e.Kind=1->e.Id≠[]/\oa e.Id=some false):TabP (N+k) (l++m):=by
 refine⟨?_,fun e he=>?_⟩
 ·have:=h.1
  rw[List.length_append]
  omega
 ·rcases List.mem_append.1 he with he|he
  ·exact h.2 e he
  ·exact h2 e he
end Go.Proofs.YtcndghapmoaidaaGreatDoor
set_option linter.unusedSectionVars false
set_option linter.unusedVariables false
namespace Go.Proofs.YtcndghapmoaidaaGreatDoor
open Go Go.Cn
structure Swo {α:Type} (lt:α->α->Bool):Prop where
 asym:∀{x y},lt x y=true->lt y x=false
 ntr:∀{x y z},lt x y=false->lt y z=false->lt x z=false
section
variable {α:Type} {lt:α->α->Bool}
theorem Swo.irr (h:Swo lt) (x:α):lt x x=false:=by
 cases hx:lt x x with
 |false=>rfl
 |true=>rw[h.asym hx]at hx;cases hx
theorem Swo.lt_le (h:Swo lt) {x y z:α} (h1:lt x y=true) (h2:lt z y=false):lt x z=true:=by
 cases hx:lt x z with
 |true=>rfl
 |false=>rw[h.ntr hx h2]at h1;cases h1
theorem Swo.le_lt (h:Swo lt) {x y z:α} (h1:lt y x=false) (h2:lt y z=true):lt x z=true:=by
 cases hx:lt x z with
 |true=>rfl
 |false=>rw[h.ntr h1 hx]at h2;cases h2
def eqv (lt:α->α->Bool) (k x:α):Bool:= !lt k x&& !lt x k
abbrev Srt (lt:α->α->Bool) (L:List α):Prop:=L.Pairwise fun x y=>lt y x=false
structure D5 (lt:α->α->Bool) (X Z:List α):Prop where
 perm:X.Perm Z
 cls:∀k,X.filter (eqv lt k)=Z.filter (eqv lt k)
theorem D5.refl (X:List α):D5 lt X X:=⟨.refl _,fun _=>rfl⟩
theorem D5.trans {X Y Z:List α} (h:D5 lt X Y) (k:D5 lt Y Z):D5 lt X Z:=⟨h.perm.trans k.perm,fun x=>(h.cls x).trans (k.cls x)⟩
theorem D5.symm {X Y:List α} (h:D5 lt X Y):D5 lt Y X:=⟨h.perm.symm,fun x=>(h.cls x).symm⟩
theorem D5.app {X Y X' Y':List α} (h:D5 lt X X') (k:D5 lt Y Y'):D5 lt (X++Y) (X'++Y'):=⟨h.perm.append k.perm,fun x=>by rw[List.filter_append,List.filter_append,h.cls,k.cls]⟩
theorem D5.len {X Z:List α} (h:D5 lt X Z):Z.length=X.length:=h.perm.length_eq.symm
theorem D5.turn (ho:Swo lt) {X Y:List α} (h:∀x∈X,∀y∈Y,lt y x=true):D5 lt (X++Y) (Y++X):=by
  refine⟨List.perm_append_comm,fun k=>?_⟩
  rw[List.filter_append,List.filter_append]
  by_cases hx:X.filter (eqv lt k)=[]
  · rw[hx,List.append_nil];rfl
  · by_cases hy:Y.filter (eqv lt k)=[]
    · rw[hy,List.append_nil];rfl
    · exfalso
      obtain⟨x,hx⟩:=List.exists_mem_of_ne_nil _ hx
      obtain⟨y,hy⟩:=List.exists_mem_of_ne_nil _ hy
      rw[List.mem_filter]at hx hy
      unfold eqv at hx hy
      have h1:=h x hx.1 y hy.1
      simp only[Bool.and_eq_true,Bool.not_eq_true']at hx hy
      rw[ho.ntr hy.2.2 hx.2.1]at h1
      cases h1
theorem aeo {X Y:List α}:Srt lt (X++Y)↔Srt lt X/\Srt lt Y/\∀x∈X,∀y∈Y,lt y x=false:=List.pairwise_append
theorem a1c (ho:Swo lt) (x:α):eqv lt x x=true:=by unfold eqv;rw[ho.irr];rfl
theorem D5.one (ho:Swo lt):∀{X Z:List α},Srt lt X->Srt lt Z->D5 lt X Z->X=Z
 | [],Z,_,_,h=>by have:=h.len;cases Z with|nil=>rfl|cons _ _=>simp at this
 |a::X,[],_,_,h=>by have:=h.len;simp at this
 |a::X,b::Z,h1,h2,h=>by
  have hb:b∈a::X:=h.perm.mem_iff.2 List.mem_cons_self
  have ha:a∈b::Z:=h.perm.mem_iff.1 List.mem_cons_self
  have hab:lt b a=false:=by
   rcases List.mem_cons.1 hb with rfl|hb
   ·exact ho.irr _
   ·exact(List.pairwise_cons.1 h1).1 _ hb
  have hba:lt a b=false:=by
   rcases List.mem_cons.1 ha with rfl|ha
   ·exact ho.irr _
   ·exact(List.pairwise_cons.1 h2).1 _ ha
  have e:=h.cls a
  have e2:eqv lt a b=true:=by unfold eqv;rw[hab,hba];rfl
  rw[List.filter_cons_of_pos (a1c ho a),List.filter_cons_of_pos e2]at e
  obtain rfl:a=b:=(List.cons.inj e).1
  congr 1
  refine D5.one ho (List.pairwise_cons.1 h1).2 (List.pairwise_cons.1 h2).2 ⟨(List.perm_cons a).1 h.perm,fun k=>?_⟩
  have:=h.cls k
  by_cases hk:eqv lt k a=true
  ·rw[List.filter_cons_of_pos hk,List.filter_cons_of_pos hk]at this
   exact(List.cons.inj this).2
  ·rwa [List.filter_cons_of_neg hk,List.filter_cons_of_neg hk]at this
theorem arp (ho:Swo lt) {A B:List α} {x:α} (h:Srt lt (A++B)) (h1:∀a∈A.getLast?,lt x a=false) (h2:∀b∈B,lt x b=true):Srt lt (A++x::B):=by
 obtain⟨hA,hB,hAB⟩:=aeo.1 h
 refine aeo.2 ⟨hA,List.pairwise_cons.2 ⟨fun b hb=>ho.asym (h2 b hb),hB⟩,fun a ha y hy=>?_⟩
 rcases List.mem_cons.1 hy with rfl|hy
 ·rcases List.eq_nil_or_concat A with rfl|⟨A',c,rfl⟩
  ·cases ha
  ·have hc:=h1 c sm
   rw[List.concat_eq_append]at ha hA
   rcases List.mem_append.1 ha with ha|ha
   ·exact ho.ntr hc ((aeo.1 hA).2.2 a ha c sm)
   ·rw[List.mem_singleton.1 ha];exact hc
 ·exact hAB a ha y hy
theorem D5.put (ho:Swo lt) {A B:List α} {x:α} (h2:∀b∈B,lt x b=true):D5 lt (A++B++[x]) (A++x::B):=by
 rw[List.append_assoc]
 refine(D5.refl A).app (D5.turn ho fun b hb y hy=>?_)
 rw[List.mem_singleton.1 hy]
 exact h2 b hb
inductive Blk (lt:α->α->Bool) (n:Nat):List α->Prop
 |short {L:List α}:L.length<=n->Srt lt L->Blk lt n L
 |more {X L:List α}:X.length=n->Srt lt X->Blk lt n L->Blk lt n (X++L)
theorem Blk.srt {n:Nat} {L:List α} (h:Blk lt n L) (hl:L.length<=n):Srt lt L:=by
 cases h with
 |short _ h=>exact h
 | @more X L hx hs _=>
  rw[List.length_append]at hl
  obtain rfl:L=[]:=List.eq_nil_of_length_eq_zero om
  rwa [List.append_nil]
theorem Blk.cut {n:Nat} {L:List α} (h:Blk lt n L) (hl:n<=L.length):∃X R,L=X++R/\X.length=n/\Srt lt X/\Blk lt n R:=by
 cases h with
 |short h hs=>exact⟨L,[],by simp,by omega,hs,.short sm .nil⟩
 | @more X L hx hs hb=>exact⟨X,L,rfl,hx,hs,hb⟩
inductive Full (lt:α->α->Bool) (n:Nat):List α->Prop
 |nil:Full lt n []
 |more {P X:List α}:Full lt n P->X.length=n->Srt lt X->Full lt n (P++X)
theorem Full.blk {n:Nat} {P R:List α} (h:Full lt n P) (hR:Blk lt n R):Blk lt n (P++R):=by
 induction h generalizing R with
 |nil=>exact hR
 |more _ h1 h2 ih=>
  rw[List.append_assoc]
  exact ih (.more h1 h2 hR)
end
end Go.Proofs.YtcndghapmoaidaaGreatDoor
set_option linter.unusedSectionVars false
set_option linter.unusedVariables false
set_option linter.unusedSimpArgs false
set_option maxRecDepth 100000
set_option maxHeartbeats 4000000
namespace Go.Proofs.YtcndghapmoaidaaGreatDoor
open Go Go.Cn
variable [Glob]
section
variable {α:Type} {A B:List α} {u x y:α} {i:Int}
theorem ag6 (h:i=A.length):idx (A++x::B) i=some x:=by
 subst h
 exact dw sm
theorem arv (h:i=A.length+1):idx (A++u::x::B) i=some x:=by
 rw[List.append_cons]
 exact ag6 (by simp[h])
theorem ano (h:i=A.length):List.set (A++x::B) (Int.toNat i) y=A++y::B:=by
 subst h
 simp
theorem au1 (h:i=A.length+1):List.set (A++u::x::B) (Int.toNat i) y=A++u::y::B:=by
 rw[List.append_cons,ano (by simp[h]),← List.append_cons]
end
section
variable {lt:B7->B7->Bool} {c:B7->B7->Option Int} (ho:Swo lt) (hc:∀x y,∃n:Int,c x y=some n/\decide (n<0)=lt x y)
include ho hc
theorem awr :∀(n:Nat) (P S1 S2 Q:List B7) (x:B7),S1.length=n->P.length+n+S2.length+Q.length<=1000000000->Srt lt (S1++S2)->(∀b∈S2,lt x b=true)->
  ∃S,iter (fun s=>ct P.length c s.1 s.2) (((P.length+n:Nat):Int),P++(S1++x::S2)++Q)=some (P++S++Q)/\Srt lt S/\D5 lt (S1++S2++[x]) S
 | 0,P,S1,S2,Q,x,hn,hl,hs,h2=>by
  obtain rfl:=List.eq_nil_of_length_eq_zero hn
  refine⟨x::S2,c9 ?_,arp ho (A:=[]) hs (fun _ h=>by cases h) h2,D5.put ho (A:=[]) h2⟩
  unfold ct dm
  rw[if_neg sm,if_neg sm]
  rfl
 |n+1,P,S1,S2,Q,x,hn,hl,hs,h2=>by
  obtain⟨S1,u,rfl⟩:∃S u,S1=S++[u]:=by
   rcases List.eq_nil_or_concat S1 with rfl|⟨S,u,rfl⟩
   ·simp at hn
   ·exact⟨S,u,List.concat_eq_append ..⟩
  have hn:S1.length=n:=by simpa using hn
  obtain⟨r,hr,hr2⟩:=hc x u
  have ed:P++(S1++[u]++x::S2)++Q=(P++S1)++u::x::(S2++Q):=by simp
  have e:ct P.length c ((P.length+(n+1):Nat):Int) ((P++S1)++u::x::(S2++Q))=if lt x u=true then some (.inl (((P.length+n:Nat):Int),(P++S1)++x::u::(S2++Q)))else some (.inr ((P++S1)++u::x::(S2++Q))):=by
   unfold ct dm
   rw[if_pos so,cu om om,arv so,Option.bind_some,ag6 so,Option.bind_some,hr,Option.bind_some,hr2]
   rw[Option.bind_some,Option.bind_some,Option.bind_some,au1 so,ag6 so,Option.bind_some,ano so]
   split
   ·congr 3
    omega
   ·rfl
  rw[ed]
  by_cases hx:lt x u=true
  ·rw[if_pos hx]at e
   rw[f9 (s':=(((P.length+n:Nat):Int),(P++S1)++x::u::(S2++Q))) e]
   obtain⟨S,g1,g2,g3⟩:=awr n P S1 (u::S2) Q x hn so (by simpa using hs) (fun b hb=>by
    rcases List.mem_cons.1 hb with rfl|hb
    ·exact hx
    ·exact h2 b hb)
   refine⟨S,?_,g2,?_⟩
   ·rw[← g1];congr 1;simp
   ·have:S1++[u]++S2++[x]=S1++u::S2++[x]:=by simp
    rw[this]
    exact g3
  ·rw[if_neg hx]at e
   refine⟨S1++[u]++x::S2,?_,arp ho hs (fun a ha=>?_) h2,D5.put ho h2⟩
   ·rw[c9 e];simp
   ·obtain rfl:u=a:=by simpa using ha
    exact Bool.eq_false_iff.2 hx
theorem awq :∀(R S P Q:List B7),P.length+S.length+R.length+Q.length<=1000000000->Srt lt S->
  ∃Z,iter (fun s=>co ((P.length+S.length+R.length:Nat):Int) P.length c s.1 s.2) (((P.length+S.length:Nat):Int),P++(S++R)++Q)=some (P++Z++Q)/\Srt lt Z/\D5 lt (S++R) Z
 | [],S,P,Q,hl,hs=>by
  refine⟨S,c9 ?_,hs,by rw[List.append_nil];exact .refl _⟩
  unfold co
  rw[if_neg sm,List.append_nil]
 |x::R,S,P,Q,hl,hs=>by
  simp only[List.length_cons]at hl
  obtain⟨S',g1,g2,g3⟩:=awr ho hc S.length P S [] (R++Q) x rfl so (by simpa using hs) (fun _ h=>by cases h)
  have hS:=g3.len
  simp only[List.append_nil,List.length_append,List.length_cons,List.length_nil]at hS
  obtain⟨Z,k1,k2,k3⟩:=awq R S' P Q om g2
  refine⟨Z,?_,k2,?_⟩
  ·have e:co ((P.length+S.length+(R.length+1):Nat):Int) P.length c ((P.length+S.length:Nat):Int) (P++(S++x::R)++Q)=some (.inl (((P.length+S'.length:Nat):Int),P++(S'++R)++Q)):=by
    unfold co f5
    have e1:P++(S++x::R)++Q=P++(S++[x])++(R++Q):=by simp
    rw[if_pos so,e1,g1,Option.bind_some,cu om om]
    congr 3
    ·omega
    ·simp
   rw[List.length_cons,f9 (s':=(((P.length+S'.length:Nat):Int),P++(S'++R)++Q)) e,← k1]
   congr 3
   funext s
   congr 1
   omega
  ·have e1:S++x::R=S++[]++[x]++R:=by simp
   rw[e1]
   exact(g3.app (.refl R)).trans k3
theorem amo {P X Q:List B7} {a b:Int} (ha:a=P.length) (hb:b=P.length+X.length) (hl:P.length+X.length+Q.length<=1000000000):
  ∃Z,d9 a b c (P++X++Q)=some (P++Z++Q)/\Srt lt Z/\D5 lt X Z:=by
 subst ha hb
 unfold d9 f7
 rw[cu om om]
 cases X with
 |nil=>
  refine⟨[],?_,.nil,.refl _⟩
  rw[c9 (o:=P++[]++Q) (by
   unfold co
   rw[if_neg so])]
  rfl
 |cons x R=>
  simp only[List.length_cons]at hl
  obtain⟨Z,k1,k2,k3⟩:=awq ho hc R [x] P Q so sm
  refine⟨Z,?_,k2,k3⟩
  have e1:((P.length:Int)+((x::R).length:Nat))=((P.length+[x].length+R.length:Nat):Int):=by simp;omega
  have e2:((P.length:Int)+1)=((P.length+[x].length:Nat):Int):=by simp
  rw[e1,e2]
  exact(congrArg (fun z=>z.bind some) k1).trans rfl
end
theorem ati {c:B7->B7->Option Int}:∀(U V P M Q:List B7) (n i a b:Nat),U.length=V.length->n=i+U.length->a+i=P.length->b+i=P.length+U.length+M.length->P.length+U.length+M.length+V.length+Q.length<=1000000000->
  iter (fun s=>dg n b a s.1 s.2) ((i:Int),P++U++M++V++Q)=some (P++V++M++U++Q)
 | [],[],P,M,Q,n,i,a,b,h,hn,ha,hb,hl=>c9 (by
  unfold dg
  simp only[List.length_nil]at hn
  rw[if_neg so])
 | [],_::_,P,M,Q,n,i,a,b,h,hn,ha,hb,hl=>by simp at h
 |_::_,[],P,M,Q,n,i,a,b,h,hn,ha,hb,hl=>by simp at h
 |u::U,v::V,P,M,Q,n,i,a,b,h,hn,ha,hb,hl=>by
  simp only[List.length_cons]at h hn hb hl
  have e:dg n b a (i:Int) (P++u::U++M++v::V++Q)=some (.inl (((i+1:Nat):Int),(P++[v])++U++(M++[u])++V++Q)):=by
   have e1:P++u::U++M++v::V++Q=P++u::(U++M++v::V++Q):=by simp
   have e2:∀w,P++w::(U++M++v::V++Q)=(P++w::(U++M))++v::(V++Q):=fun w=>by simp
   unfold dg
   rw[if_pos so,cu (n:=(b:Int)+i) om om,cu (n:=(a:Int)+i) om om,cu om om,e1]
   rw[show idx (P++u::(U++M++v::V++Q)) ((b:Int)+i)=some v by rw[e2];exact ag6 so]
   rw[Option.bind_some,ag6 om,Option.bind_some,Option.bind_some,ano om,e2,ag6 so,Option.bind_some,ano so]
   simp
  rw[f9 (s':=(((i+1:Nat):Int),(P++[v])++U++(M++[u])++V++Q)) e,ati (c:=c) U V (P++[v]) (M++[u]) Q n (i+1) a b om om so so so]
  simp
theorem auz {c:B7->B7->Option Int} {P U M V Q:List B7} {a b n:Int} (h:U.length=V.length) (hn:n=U.length) (ha:a=P.length) (hb:b=P.length+U.length+M.length) (hl:P.length+U.length+M.length+V.length+Q.length<=1000000000):
  d8 a b n c (P++U++M++V++Q)=some (P++V++M++U++Q):=by
 subst hn ha hb
 unfold d8 ib
 have:=ati (c:=c) U V P M Q U.length 0 P.length (P.length+U.length+M.length) h om om om hl
 exact(congrArg (fun z=>z.bind some) this).trans rfl
theorem an5 {c:B7->B7->Option Int}:∀(n:Nat) (P A B Q:List B7) (m:Nat),A.length+B.length<=n->A≠[]->B≠[]->m=P.length+A.length->P.length+A.length+B.length+Q.length<=1000000000->
  (iter (fun s=>cz m c s.1 s.2.1 s.2.2) ((A.length:Int),(B.length:Int),P++A++B++Q)).bind (fun p=>ge m c p.1 p.2)=some (P++B++A++Q)
 | 0,P,A,B,Q,m,hn,hA,hB,hm,hl=>absurd (List.eq_nil_of_length_eq_zero om) hA
 |n+1,P,A,B,Q,m,hn,hA,hB,hm,hl=>by
  have pA:=List.length_pos_iff.2 hA
  have pB:=List.length_pos_iff.2 hB
  rcases Nat.lt_trichotomy A.length B.length with h|h|h
  ·obtain⟨B1,B2,rfl,hB2⟩:∃B1 B2,B=B1++B2/\B2.length=A.length:=⟨B.take (B.length - A.length),B.drop (B.length - A.length),(List.take_append_drop ..).symm,by rw[List.length_drop];omega⟩
   rw[List.length_append]at *
   have sw:=auz (c:=c) (P:=P) (U:=A) (M:=B1) (V:=B2) (Q:=Q) (a:=(m:Int) - A.length) (b:=(m:Int)+((B1.length+B2.length:Nat):Int) - A.length) (n:=A.length) hB2.symm rfl om om om
   have e:cz m c (A.length:Int) ((B1.length+B2.length:Nat):Int) (P++A++(B1++B2)++Q)=some (.inl ((B2.length:Int),(B1.length:Int),P++B2++B1++(A++Q))):=by
    have e1:P++A++(B1++B2)++Q=P++A++B1++B2++Q:=by simp
    unfold cz
    rw[if_pos so,if_neg so,cu (n:=(m:Int) - A.length) om om,cu (n:=(m:Int)+((B1.length+B2.length:Nat):Int)) om om,cu (n:=(m:Int)+((B1.length+B2.length:Nat):Int) - A.length) om om,e1,sw,Option.bind_some,cu om om]
    congr 3
    ·omega
    ·congr 1
     ·omega
     ·simp
   rw[f9 (s':=((B2.length:Int),(B1.length:Int),P++B2++B1++(A++Q))) e]
   rw[an5 n P B2 B1 (A++Q) m om (fun h=>by rw[h]at hB2;simp at hB2;omega) (fun h'=>by rw[h']at h;simp at h;omega) om so]
   simp
  ·rw[c9 (o:=((A.length:Int),P++A++B++Q)) (by
    unfold cz
    rw[if_neg (by simp[h])])]
   rw[Option.bind_some]
   unfold ge
   have sw:=auz (c:=c) (P:=P) (U:=A) (M:=[]) (V:=B) (Q:=Q) (a:=(m:Int) - A.length) (b:=(m:Int)) (n:=A.length) h rfl om so so
   simp only[List.append_nil]at sw
   rw[cu om om]
   simp only[sw,Option.bind_some]
  ·obtain⟨A1,A2,rfl,hA1⟩:∃A1 A2,A=A1++A2/\A1.length=B.length:=⟨A.take B.length,A.drop B.length,(List.take_append_drop ..).symm,by rw[List.length_take];omega⟩
   rw[List.length_append]at *
   have sw:=auz (c:=c) (P:=P) (U:=A1) (M:=A2) (V:=B) (Q:=Q) (a:=(m:Int) - ((A1.length+A2.length:Nat):Int)) (b:=(m:Int)) (n:=B.length) hA1 om om om om
   have e:cz m c ((A1.length+A2.length:Nat):Int) (B.length:Int) (P++(A1++A2)++B++Q)=some (.inl ((A2.length:Int),(A1.length:Int),(P++B)++A2++A1++Q)):=by
    have e1:P++(A1++A2)++B++Q=P++A1++A2++B++Q:=by simp
    unfold cz
    rw[if_pos so,if_pos so,cu (n:=(m:Int) - ((A1.length+A2.length:Nat):Int)) om om,e1,sw,Option.bind_some,cu om om]
    congr 3
    ·omega
    ·congr 1
     omega
   rw[f9 (s':=((A2.length:Int),(A1.length:Int),(P++B)++A2++A1++Q)) e]
   rw[an5 n (P++B) A2 A1 Q m om (fun h'=>by rw[h']at h;simp at h;omega) (fun h=>by rw[h]at hA1;simp at hA1;omega) so so]
   simp
theorem turn_ok {c:B7->B7->Option Int} {P A B Q:List B7} {a m b:Int} (ha:a=P.length) (hm:m=P.length+A.length) (hb:b=P.length+A.length+B.length) (hA:A≠[]) (hB:B≠[]) (hl:P.length+A.length+B.length+Q.length<=1000000000):
  il a m b c (P++A++B++Q)=some (P++B++A++Q):=by
 subst ha hb
 obtain⟨m,rfl⟩:∃k:Nat,m=k:=⟨m.toNat,by omega⟩
 unfold il
 rw[cu om om,cu om om,show(m:Int) - P.length=A.length by omega,show(P.length:Int)+A.length+B.length - m=B.length by omega]
 exact an5 _ P A B Q m (Nat.le_refl _) hA hB om hl
end Go.Proofs.YtcndghapmoaidaaGreatDoor
set_option linter.unusedSectionVars false
set_option linter.unusedVariables false
set_option linter.unusedSimpArgs false
set_option maxRecDepth 100000
set_option maxHeartbeats 4000000
namespace Go.Proofs.YtcndghapmoaidaaGreatDoor
open Go Go.Cn
variable [Glob]
theorem alk {i j:Nat} (h:i+j<=4000000000):w64 (Int.fdiv (IntKind.wrap .u64 (w64 ((i:Int)+j))) 2)=(((i+j) / 2:Nat):Int):=by
 rw[cu (n:=(i:Int)+j) om om]
 have e:IntKind.wrap .u64 ((i:Int)+j)=(i:Int)+j:=by
  unfold IntKind.wrap
  have e1:(2:Int) ^ (IntKind.u64.bits)=18446744073709551616:=rfl
  have e3:IntKind.u64.signed=false:=rfl
  simp only[e1,e3,Bool.false_and]
  rw[if_neg sm]
  omega
 rw[e,Int.fdiv_eq_ediv_of_nonneg _ om,cu om om]
 omega
theorem an2 {f:Int × Int->Option ((Int × Int) ⊕ Int)} (t:Nat->Bool) (lo hi:Nat)
  (hf:∀i j:Nat,lo<=i->i<j->j<=hi->f ((i:Int),(j:Int))=some (.inl (if t ((i+j) / 2)=true then((((i+j) / 2+1:Nat):Int),(j:Int))else((i:Int),(((i+j) / 2:Nat):Int)))))
  (hd:∀i:Nat,f ((i:Int),(i:Int))=some (.inr (i:Int))) (mono:∀h h',lo<=h->h<=h'->h'<hi->t h'=true->t h=true):∀(n i j:Nat),j - i<=n->lo<=i->i<=j->j<=hi->(∀h,lo<=h->h<i->t h=true)->(∀h,j<=h->h<hi->t h=false)->
  ∃r:Nat,iter f ((i:Int),(j:Int))=some (r:Int)/\lo<=r/\r<=hi/\(∀h,lo<=h->h<r->t h=true)/\(∀h,r<=h->h<hi->t h=false)
 | 0,i,j,hn,h1,h2,h3,hT,hF=>by
  obtain rfl:i=j:=by omega
  exact⟨i,c9 (hd i),h1,h3,hT,hF⟩
 |n+1,i,j,hn,h1,h2,h3,hT,hF=>by
  rcases Nat.lt_or_ge i j with h|h
  ·have e:=hf i j h1 h h3
   by_cases ht:t ((i+j) / 2)=true
   ·rw[if_pos ht]at e
    rw[f9 e]
    refine an2 t lo hi hf hd mono n _ j om om om h3 (fun h' g1 g2=>?_) hF
    exact mono h' ((i+j) / 2) g1 om om ht
   ·rw[if_neg ht]at e
    rw[f9 e]
    refine an2 t lo hi hf hd mono n i _ om h1 om om hT (fun h' g1 g2=>?_)
    cases hh:t h' with
    |false=>rfl
    |true=>exact absurd (mono _ h' om g1 g2 hh) ht
  ·obtain rfl:i=j:=by omega
   exact⟨i,c9 (hd i),h1,h3,hT,hF⟩
theorem ava {α:Type} {P X R:List α} {i:Nat} (h:i<X.length):idx (P++X++R) ((P.length+i:Nat):Int)=some X[i]:=by
 refine dw ?_
 rw[List.append_assoc,List.getElem?_append_right om,Nat.add_sub_cancel_left,List.getElem?_append_left h,List.getElem?_eq_getElem h]
theorem anc {α:Type} {d P X R:List α} {i k:Nat} (hd:d=P++X++R) (h:i<X.length) (hk:k=P.length+i):idx d ((k:Nat):Int)=some X[i]:=by
 subst hd hk
 exact ava h
theorem ag7 {α:Type} {lt:α->α->Bool} (ho:Swo lt) {X:List α} (h:Srt lt X) {i j:Nat} (hij:i<=j) (hj:j<X.length):lt X[j] (X[i]'om)=false:=by
 rcases Nat.lt_or_eq_of_le hij with hij|rfl
 ·exact List.pairwise_iff_getElem.1 h i j om hj hij
 ·exact ho.irr _
theorem amk {α:Type} {X:List α} {n:Nat} {x:α} (h:x∈X.take n):∃i,∃h:i<X.length,i<n/\x=X[i]:=by
 obtain⟨i,hi,rfl⟩:=List.mem_iff_getElem.1 h
 rw[List.length_take]at hi
 exact⟨i,by omega,by omega,by rw[List.getElem_take]⟩
theorem aml {α:Type} {X:List α} {n:Nat} {x:α} (h:x∈X.drop n):∃i,∃h:i<X.length,n<=i/\x=X[i]:=by
 obtain⟨i,hi,rfl⟩:=List.mem_iff_getElem.1 h
 rw[List.length_drop]at hi
 exact⟨n+i,by omega,by omega,by rw[List.getElem_drop]⟩
section
variable {R:ao}
theorem a1p :∀(Y A B:List B7) (x:B7) (k:Nat),k=A.length+Y.length->A.length+Y.length+B.length<=1000000000->
  iter (fun s=>dk R ((k+1:Nat):Int) s.1 s.2) ((A.length:Int),A++x::(Y++B))=some (A++Y++x::B)
 | [],A,B,x,k,hk,hl=>by
  rw[c9 (o:=A++x::B) (by
   unfold dk
   rw[cu om om,if_neg (by simp;simp at hk;omega)]
   rfl)]
  simp
 |y::Y,A,B,x,k,hk,hl=>by
  simp only[List.length_cons]at hk hl
  have e:dk R ((k+1:Nat):Int) A.length (A++x::(y::Y++B))=some (.inl (((A++[y]).length:Int),(A++[y])++x::(Y++B))):=by
   unfold dk
   rw[cu (n:=((k+1:Nat):Int) - 1) om om,if_pos so,cu om om,List.cons_append,arv om,Option.bind_some,ag6 om,Option.bind_some,Option.bind_some,ano om,arv om,Option.bind_some,au1 om]
   simp
  rw[f9 (s':=(((A++[y]).length:Int),(A++[y])++x::(Y++B))) e,a1p Y (A++[y]) B x k so so]
  simp
theorem awg :∀(n:Nat) (X A B:List B7) (y:B7),X.length=n->A.length+X.length+B.length<=1000000000->
  iter (fun s=>di R A.length s.1 s.2) (((A.length+n:Nat):Int),A++X++y::B)=some (A++y::(X++B))
 | 0,X,A,B,y,hn,hl=>by
  obtain rfl:=List.eq_nil_of_length_eq_zero hn
  rw[c9 (o:=A++y::B) (by
   unfold di
   rw[if_neg sm,List.append_nil])]
  rfl
 |n+1,X,A,B,y,hn,hl=>by
  obtain⟨X,x,rfl⟩:∃S u,X=S++[u]:=by
   rcases List.eq_nil_or_concat X with rfl|⟨S,u,rfl⟩
   ·simp at hn
   ·exact⟨S,u,List.concat_eq_append ..⟩
  have hn:X.length=n:=by simpa using hn
  simp only[List.length_append,List.length_cons,List.length_nil]at hl
  have e:di R A.length ((A.length+(n+1):Nat):Int) (A++(X++[x])++y::B)=some (.inl (((A.length+n:Nat):Int),A++X++y::(x::B))):=by
   unfold di
   have e1:A++(X++[x])++y::B=(A++X)++x::y::B:=by simp
   rw[if_pos so,cu om om,e1,ag6 so,Option.bind_some,arv so,Option.bind_some,Option.bind_some,au1 so,ag6 so,Option.bind_some,ano so]
   congr 3
   omega
  rw[f9 (s':=(((A.length+n:Nat):Int),A++X++y::(x::B))) e,awg n X A (x::B) y hn so]
  simp
end
section
variable {lt:B7->B7->Bool} {c:B7->B7->Option Int} (ho:Swo lt) (hc:∀x y,∃n:Int,c x y=some n/\decide (n<0)=lt x y)
include ho hc
theorem sym_one {R:ao} {P Y Q:List B7} {x:B7} (hl:P.length+1+Y.length+Q.length<=1000000000) (hY:Srt lt Y):
  ∃Z,(iter (fun s=>dj R (P++[x]++Y++Q) P.length c s.1 s.2) (((P.length+1:Nat):Int),((P.length+1+Y.length:Nat):Int))).bind (fun p=>f3 R P.length (P++[x]++Y++Q) p)=some (P++Z++Q)/\Srt lt Z/\D5 lt ([x]++Y) Z:=by
 obtain⟨r,h1,h2,h3,h4,h5⟩:=an2 (f:=fun s=>dj R (P++[x]++Y++Q) P.length c s.1 s.2) (fun h=>lt (Y.getD (h - (P.length+1)) x) x) (P.length+1) (P.length+1+Y.length) (fun i j g1 g2 g3=>by
   dsimp only
   unfold dj ip
   rw[alk om,if_pos (by simpa using g2)]
   have hk:(i+j) / 2 - (P.length+1)<Y.length:=by omega
   have e:idx (P++[x]++Y++Q) (((i+j) / 2:Nat):Int)=some Y[(i+j) / 2 - (P.length+1)]:=anc (P:=P++[x]) rfl hk so
   have e2:idx (P++[x]++Y++Q) P.length=some x:=by
    have:=ava (P:=P) (X:=[x]) (R:=Y++Q) (i:=0) sm
    simpa using this
   obtain⟨n,hn,hn2⟩:=hc Y[(i+j) / 2 - (P.length+1)] x
   rw[e,Option.bind_some,e2,Option.bind_some,hn,Option.bind_some,hn2,List.getD_eq_getElem?_getD,List.getElem?_eq_getElem hk,Option.getD_some,cu om om]
   split<;>rfl) (fun i=>by
   dsimp only
   unfold dj
   rw[if_neg sm]) (fun h h' g1 g2 g3 g4=>by
   try dsimp only at g4 ⊢
   rw[List.getD_eq_getElem?_getD,List.getElem?_eq_getElem om,Option.getD_some]at g4 ⊢
   exact ho.le_lt (ag7 ho hY (show h - (P.length+1)<=h' - (P.length+1)by omega) om) g4) Y.length (P.length+1) (P.length+1+Y.length) om om om om (fun _ _ _=>by omega) (fun _ _ _=>by omega)
 rw[h1,Option.bind_some]
 unfold f3 io
 obtain⟨Y1,Y2,e0,hY1⟩:∃Y1 Y2,Y=Y1++Y2/\Y1.length=r - (P.length+1):=⟨Y.take (r - (P.length+1)),Y.drop (r - (P.length+1)),(List.take_append_drop ..).symm,by rw[List.length_take];omega⟩
 have m1:∀y∈Y1,lt y x=true:=fun y hy=>by
  obtain⟨i,hi,rfl⟩:=List.mem_iff_getElem.1 hy
  have:=h4 (P.length+1+i) om om
  rw[Nat.add_sub_cancel_left,List.getD_eq_getElem?_getD,e0,List.getElem?_append_left hi,List.getElem?_eq_getElem hi]at this
  exact this
 have m2:∀y∈Y2,lt y x=false:=fun y hy=>by
  obtain⟨i,hi,rfl⟩:=List.mem_iff_getElem.1 hy
  have hy2:Y.length=Y1.length+Y2.length:=by rw[e0,List.length_append]
  have:=h5 (P.length+1+(Y1.length+i)) om om
  rw[Nat.add_sub_cancel_left,List.getD_eq_getElem?_getD,e0,List.getElem?_append_right om,Nat.add_sub_cancel_left,List.getElem?_eq_getElem hi]at this
  exact this
 subst e0
 rw[List.length_append]at *
 have g:=a1p (R:=R) Y1 P (Y2++Q) x (r - 1) om so
 rw[show r - 1+1=r by omega]at g
 refine⟨Y1++x::Y2,?_,?_,?_⟩
 ·have e1:P++[x]++(Y1++Y2)++Q=P++x::(Y1++(Y2++Q)):=by simp
  rw[e1]
  refine(congrArg (fun z=>z.bind some) g).trans ?_
  simp
 ·obtain⟨s1,s2,s3⟩:=aeo.1 hY
  refine aeo.2 ⟨s1,List.pairwise_cons.2 ⟨fun y hy=>m2 y hy,s2⟩,fun a ha y hy=>?_⟩
  rcases List.mem_cons.1 hy with rfl|hy
  ·exact ho.asym (m1 a ha)
  ·exact s3 a ha y hy
 ·have e1:[x]++(Y1++Y2)=[x]++Y1++Y2:=by simp
  have e2:Y1++x::Y2=Y1++[x]++Y2:=by simp
  rw[e1,e2]
  refine(D5.turn ho fun a ha y hy=>?_).app (.refl Y2)
  rw[List.mem_singleton.1 ha]
  exact m1 y hy
theorem a0m {R:ao} {P X Q:List B7} {y:B7} (hl:P.length+1+X.length+Q.length<=1000000000) (hX:Srt lt X):
  ∃Z,(iter (fun s=>dh R (P++X++[y]++Q) ((P.length+X.length:Nat):Int) c s.1 s.2) ((P.length:Int),((P.length+X.length:Nat):Int))).bind (fun p=>f0 R ((P.length+X.length:Nat):Int) (P++X++[y]++Q) p)=some (P++Z++Q)/\Srt lt Z/\D5 lt (X++[y]) Z:=by
 obtain⟨r,h1,h2,h3,h4,h5⟩:=an2 (f:=fun s=>dh R (P++X++[y]++Q) ((P.length+X.length:Nat):Int) c s.1 s.2) (fun h=> !lt y (X.getD (h - P.length) y)) P.length (P.length+X.length) (fun i j g1 g2 g3=>by
   dsimp only
   unfold dh ia
   rw[alk om,if_pos (by simpa using g2)]
   have hk:(i+j) / 2 - P.length<X.length:=by omega
   have e:idx (P++X++[y]++Q) (((i+j) / 2:Nat):Int)=some X[(i+j) / 2 - P.length]:=anc (P:=P) (R:=[y]++Q) sm hk om
   have e2:idx (P++X++[y]++Q) ((P.length+X.length:Nat):Int)=some y:=by
    have:=ava (P:=P++X) (X:=[y]) (R:=Q) (i:=0) sm
    simpa using this
   obtain⟨n,hn,hn2⟩:=hc y X[(i+j) / 2 - P.length]
   rw[e2,Option.bind_some,e,Option.bind_some,hn,Option.bind_some,hn2,List.getD_eq_getElem?_getD,List.getElem?_eq_getElem hk,Option.getD_some,cu om om]
   split<;>rfl) (fun i=>by
   dsimp only
   unfold dh
   rw[if_neg sm]) (fun h h' g1 g2 g3 g4=>by
   try dsimp only at g4 ⊢
   rw[List.getD_eq_getElem?_getD,List.getElem?_eq_getElem om,Option.getD_some,Bool.not_eq_true']at g4 ⊢
   exact ho.ntr g4 (ag7 ho hX (show h - P.length<=h' - P.length by omega) om)) X.length P.length (P.length+X.length) om om om om (fun _ _ _=>by omega) (fun _ _ _=>by omega)
 rw[h1,Option.bind_some]
 unfold f0 im
 obtain⟨X1,X2,e0,hX1⟩:∃Y1 Y2,X=Y1++Y2/\Y1.length=r - P.length:=⟨X.take (r - P.length),X.drop (r - P.length),(List.take_append_drop ..).symm,by rw[List.length_take];omega⟩
 have m1:∀x∈X1,lt y x=false:=fun x hx=>by
  obtain⟨i,hi,rfl⟩:=List.mem_iff_getElem.1 hx
  have:=h4 (P.length+i) om om
  rw[Nat.add_sub_cancel_left,List.getD_eq_getElem?_getD,e0,List.getElem?_append_left hi,List.getElem?_eq_getElem hi]at this
  simpa using this
 have m2:∀x∈X2,lt y x=true:=fun x hx=>by
  obtain⟨i,hi,rfl⟩:=List.mem_iff_getElem.1 hx
  have hy2:X.length=X1.length+X2.length:=by rw[e0,List.length_append]
  have:=h5 (P.length+(X1.length+i)) om om
  rw[Nat.add_sub_cancel_left,List.getD_eq_getElem?_getD,e0,List.getElem?_append_right om,Nat.add_sub_cancel_left,List.getElem?_eq_getElem hi]at this
  simpa using this
 subst e0
 rw[List.length_append]at *
 have g:=awg (R:=R) X2.length X2 (P++X1) Q y rfl so
 refine⟨X1++y::X2,?_,arp ho hX (fun a ha=>m1 a (List.mem_of_getLast? ha)) m2,D5.put ho m2⟩
 have e1:P++(X1++X2)++[y]++Q=P++X1++X2++y::Q:=by simp
 have e2:((P++X1).length:Int)=r:=by simp;omega
 have e3:(((P++X1).length+X2.length:Nat):Int)=((P.length+(X1.length+X2.length):Nat):Int):=by simp;omega
 rw[e2,e3]at g
 rw[e1]
 refine(congrArg (fun z=>z.bind some) g).trans ?_
 simp
end
end Go.Proofs.YtcndghapmoaidaaGreatDoor
set_option linter.unusedSectionVars false
set_option linter.unusedVariables false
set_option linter.unusedSimpArgs false
set_option maxRecDepth 100000
set_option maxHeartbeats 4000000
namespace Go.Proofs.YtcndghapmoaidaaGreatDoor
open Go Go.Cn
variable [Glob]
section
variable {lt:B7->B7->Bool} {c:B7->B7->Option Int} (ho:Swo lt) (hc:∀x y,∃n:Int,c x y=some n/\decide (n<0)=lt x y)
include ho hc
theorem sym_cut {R:ao} {P X Y Q:List B7} {a m b:Nat} (ha:a=P.length) (hm:m=a+X.length) (hb:b=m+Y.length) (hl:b+Q.length<=1000000000) (hX:Srt lt X) (hY:Srt lt Y) {lo hi:Nat}
  (hlo:if m>(a+b) / 2 then lo=(a+b) / 2+m - b/\hi=(a+b) / 2 else lo=a/\hi=m) (h2:a+2<=b):
  ∃s X1 X2 Y1 Y2,iter (fun s=>de R (P++X++Y++Q) a b m c s.1 s.2) ((lo:Int),(hi:Int))=some ((s:Nat):Int)/\X=X1++X2/\Y=Y1++Y2/\s=a+X1.length/\s+Y1.length=(a+b) / 2/\
   (∀x∈X1,∀y∈Y2,lt y x=false)/\(∀x∈X2,∀y∈Y1,lt y x=true):=by
 have f1:a<=lo/\lo<=hi/\hi<=m/\hi<=(a+b) / 2:=by split at hlo<;>omega
 obtain⟨z,hz⟩:∃z,z∈X++Y:=List.exists_mem_of_ne_nil _ (fun h=>by have:=congrArg List.length h;rw[List.length_append,List.length_nil]at this;omega)
 have gx:∀i,(h0:a<=i)->(h:i<m)->idx (P++X++Y++Q) ((i:Nat):Int)=some (X[i - a]'om):=fun i h1 h=>anc (P:=P) (R:=Y++Q) sm om om
 have gy:∀i,(h0:m<=i)->(h:i<b)->idx (P++X++Y++Q) ((i:Nat):Int)=some (Y[i - m]'om):=fun i h1 h=>anc (P:=P++X) rfl om so
 have dx:∀i,(h0:a<=i)->(h:i<m)->X.getD (i - a) z=X[i - a]'om:=fun i h1 h=>by rw[List.getD_eq_getElem?_getD,List.getElem?_eq_getElem om,Option.getD_some]
 have dy:∀i,(h0:m<=i)->(h:i<b)->Y.getD (i - m) z=Y[i - m]'om:=fun i h1 h=>by rw[List.getD_eq_getElem?_getD,List.getElem?_eq_getElem om,Option.getD_some]
 have pc:∀i,lo<=i->i<hi->m<=(a+b) / 2+m - 1 - i/\(a+b) / 2+m - 1 - i<b:=fun i h1 h2=>by split at hlo<;>omega
 obtain⟨s,h1,h3,h4,h5,h6⟩:=an2 (f:=fun s=>de R (P++X++Y++Q) a b m c s.1 s.2) (fun i=> !lt (Y.getD ((a+b) / 2+m - 1 - i - m) z) (X.getD (i - a) z)) lo hi (fun i j g1 g2 g3=>by
   dsimp only
   unfold de g8
   have p:=pc ((i+j) / 2) om om
   rw[alk (i:=a) om,alk (i:=i) om,if_pos (by simpa using g2),cu (n:=(((a+b) / 2:Nat):Int)+m) om om,cu (n:=(((a+b) / 2:Nat):Int)+m - 1) om om,cu (n:=(((a+b) / 2:Nat):Int)+m - 1 - (((i+j) / 2:Nat):Int)) om om]
   rw[show(((a+b) / 2:Nat):Int)+m - 1 - (((i+j) / 2:Nat):Int)=(((a+b) / 2+m - 1 - (i+j) / 2:Nat):Int)by omega,gy _ p.1 p.2,Option.bind_some,gx _ om om,Option.bind_some,dx _ om om,dy _ p.1 p.2]
   obtain⟨n,hn,hn2⟩:=hc (Y[(a+b) / 2+m - 1 - (i+j) / 2 - m]'om) (X[(i+j) / 2 - a]'om)
   rw[hn,Option.bind_some,hn2,cu om om]
   split<;>rfl) (fun i=>by
   dsimp only
   unfold de
   rw[if_neg sm]) (fun h h' g1 g2 g3 g4=>by
   have p:=pc h om om
   have p':=pc h' om om
   try dsimp only at g4 ⊢
   rw[dx _ om om,dy _ p'.1 p'.2,Bool.not_eq_true']at g4
   rw[dx _ om om,dy _ p.1 p.2,Bool.not_eq_true']
   exact ho.ntr (ho.ntr (ag7 ho hY (show(a+b) / 2+m - 1 - h' - m<=(a+b) / 2+m - 1 - h - m by omega) om) g4) (ag7 ho hX (show h - a<=h' - a by omega) om)) (hi - lo) lo hi om om om om (fun _ _ _=>by omega) (fun _ _ _=>by omega)
 have hs:s<=m/\a<=s/\s<=(a+b) / 2/\(a+b) / 2+m - s<=b:=by split at hlo<;>omega
 refine⟨s,X.take (s - a),X.drop (s - a),Y.take ((a+b) / 2 - s),Y.drop ((a+b) / 2 - s),h1,(List.take_append_drop ..).symm,(List.take_append_drop ..).symm,by rw[List.length_take];omega,by rw[List.length_take];omega,fun x hx y hy=>?_,fun x hx y hy=>?_⟩
 ·obtain⟨i,hi',hin,rfl⟩:=amk hx
  obtain⟨j,hj,hjn,rfl⟩:=aml hy
  have hs0:lo<s:=by
   rcases Nat.lt_or_eq_of_le h3 with h|rfl
   ·exact h
   ·exfalso
    split at hlo<;>omega
  have t:=h5 (s - 1) om om
  have p:=pc (s - 1) om om
  try dsimp only at t
  rw[dx _ om om,dy _ p.1 p.2,Bool.not_eq_true']at t
  exact ho.ntr (ho.ntr (ag7 ho hY (show(a+b) / 2+m - 1 - (s - 1) - m<=j by omega) hj) t) (ag7 ho hX (show i<=s - 1 - a by omega) om)
 ·obtain⟨i,hi',hin,rfl⟩:=aml hx
  obtain⟨j,hj,hjn,rfl⟩:=amk hy
  have hs0:s<hi:=by
   rcases Nat.lt_or_eq_of_le h4 with h|rfl
   ·exact h
   ·exfalso
    split at hlo<;>omega
  have t:=h6 s om hs0
  have p:=pc s om hs0
  try dsimp only at t
  rw[dx _ om om,dy _ p.1 p.2,Bool.not_eq_false']at t
  exact ho.le_lt (ag7 ho hY (show j<=(a+b) / 2+m - 1 - s - m by omega) om) (ho.lt_le t (ag7 ho hX (show s - a<=i by omega) hi'))
theorem av7 :∀(k:Nat) (P X Y Q:List B7) (a m b:Nat),X.length+Y.length<=k->X≠[]->Y≠[]->a=P.length->m=a+X.length->b=m+Y.length->b+Q.length<=1000000000->Srt lt X->Srt lt Y->
  ∃Z,bx k a m b c (P++X++Y++Q)=some (P++Z++Q)/\Srt lt Z/\D5 lt (X++Y) Z
 | 0,P,X,Y,Q,a,m,b,hk,hX0,hY0,ha,hm,hb,hl,hX,hY=>absurd (List.eq_nil_of_length_eq_zero om) hX0
 |k+1,P,X,Y,Q,a,m,b,hk,hX0,hY0,ha,hm,hb,hl,hX,hY=>by
  have pX:=List.length_pos_iff.2 hX0
  have pY:=List.length_pos_iff.2 hY0
  show ∃Z,gb (bx k) a m b c (P++X++Y++Q)=some (P++Z++Q)/\Srt lt Z/\D5 lt (X++Y) Z
  unfold gb
  rw[cu (n:=(m:Int) - a) om om,cu (n:=(b:Int) - m) om om]
  by_cases h1:X.length=1
  ·obtain⟨x,rfl⟩:=List.length_eq_one_iff.1 h1
   rw[if_pos (by simp at hm ⊢;omega)]
   have:=sym_one ho hc (R:=bx k) (P:=P) (Y:=Y) (Q:=Q) (x:=x) (by simp at hm;omega) hY
   simp only[List.length_cons,List.length_nil]at hm
   rw[show P.length+1=m by omega,show m+Y.length=b by omega,← ha]at this
   exact this
  by_cases h2:Y.length=1
  ·obtain⟨y,rfl⟩:=List.length_eq_one_iff.1 h2
   simp only[List.length_cons,List.length_nil]at hb
   rw[if_neg so,if_pos so]
   have:=a0m ho hc (R:=bx k) (P:=P) (X:=X) (Q:=Q) (y:=y) om hX
   rw[show P.length+X.length=m by omega,← ha]at this
   exact this
  rw[if_neg so,if_neg so,alk om]
  have hq:(a+b) / 2<=b/\a+1<=(a+b) / 2/\(a+b) / 2+1<=b:=by omega
  have cut:∀lo hi:Nat,(if m>(a+b) / 2 then lo=(a+b) / 2+m - b/\hi=(a+b) / 2 else lo=a/\hi=m)->∃Z,ei (bx k) (P++X++Y++Q) a b m c lo hi=some (P++Z++Q)/\Srt lt Z/\D5 lt (X++Y) Z:=fun lo hi hlo=>by
   obtain⟨s,X1,X2,Y1,Y2,g1,rfl,rfl,g2,g3,g4,g5⟩:=sym_cut ho hc (R:=bx k) ha hm hb hl hX hY hlo om
   simp only[List.length_append]at hk hm hb pX pY h1 h2
   obtain⟨sX1,sX2,sX⟩:=aeo.1 hX
   obtain⟨sY1,sY2,sY⟩:=aeo.1 hY
   unfold ei
   rw[g1,Option.bind_some]
   generalize hq':(a+b) / 2=q at *
   have eq1:w64 (Int.fdiv (IntKind.wrap .u64 (w64 ((a:Int)+b))) 2)=(q:Int):=by rw[alk om,hq']
   have eq2:w64 (w64 ((q:Int)+m) - s)=((q+m - s:Nat):Int):=by rw[cu (n:=(q:Int)+m) om om,cu om om];omega
   have last:∀Z1,Srt lt Z1->D5 lt (X1++Y1) Z1->∃Z,en (bx k) a b m s c (P++Z1++X2++Y2++Q)=some (P++Z++Q)/\Srt lt Z/\D5 lt (X1++X2++(Y1++Y2)) Z:=fun Z1 w1 w2=>by
    have hZ1:=w2.len
    rw[List.length_append]at hZ1
    have fin:∀Z2,Srt lt Z2->D5 lt (X2++Y2) Z2->Srt lt (Z1++Z2)/\D5 lt (X1++X2++(Y1++Y2)) (Z1++Z2):=fun Z2 v1 v2=>by
     refine⟨aeo.2 ⟨w1,v1,fun x hx y hy=>?_⟩,?_⟩
     ·have hx:=w2.perm.mem_iff.2 hx
      have hy:=v2.perm.mem_iff.2 hy
      rcases List.mem_append.1 hx with hx|hx<;>rcases List.mem_append.1 hy with hy|hy
      ·exact sX x hx y hy
      ·exact g4 x hx y hy
      ·exact ho.asym (g5 y hy x hx)
      ·exact sY x hx y hy
     ·have t:D5 lt (X2++Y1) (Y1++X2):=D5.turn ho fun x hx y hy=>g5 x hx y hy
      have e1:X1++X2++(Y1++Y2)=X1++(X2++Y1)++Y2:=by simp
      have e2:X1++(Y1++X2)++Y2=(X1++Y1)++(X2++Y2):=by simp
      rw[e1]
      refine(((D5.refl X1).app t).app (.refl Y2)).trans ?_
      rw[e2]
      exact w2.app v2
    unfold en fm
    rw[eq1,eq2]
    by_cases hX2:X2=[]
    ·subst hX2
     simp only[List.length_nil]at hm
     obtain⟨f1,f2⟩:=fin Y2 sY2 (.refl _)
     refine⟨Z1++Y2,?_,f1,f2⟩
     rw[if_neg so,if_neg sm]
     simp
    by_cases hY2:Y2=[]
    ·subst hY2
     simp only[List.length_nil]at hb
     obtain⟨f1,f2⟩:=fin X2 sX2 (by rw[List.append_nil];exact .refl _)
     refine⟨Z1++X2,?_,f1,f2⟩
     have:decide (((q+m - s:Nat):Int)<(b:Int))=false:=by simp;omega
     rw[this]
     simp
    have pX2:=List.length_pos_iff.2 hX2
    have pY2:=List.length_pos_iff.2 hY2
    rw[if_pos so,if_pos so]
    obtain⟨Z2,v1,v2,v3⟩:=av7 k (P++Z1) X2 Y2 Q q (q+m - s) b om hX2 hY2 so om om hl sX2 sY2
    obtain⟨f1,f2⟩:=fin Z2 v2 v3
    refine⟨Z1++Z2,?_,f1,f2⟩
    rw[v1]
    simp
   have mid:∃Z,ej (bx k) a s b c m (P++(X1++Y1)++X2++Y2++Q)=some (P++Z++Q)/\Srt lt Z/\D5 lt (X1++X2++(Y1++Y2)) Z:=by
    unfold ej fk
    rw[eq1]
    by_cases hX1:X1=[]
    ·subst hX1
     simp only[List.length_nil]at g2
     rw[if_neg so,if_neg sm]
     exact last Y1 sY1 (.refl _)
    by_cases hY1:Y1=[]
    ·subst hY1
     simp only[List.length_nil]at g3
     have:decide ((s:Int)<(q:Int))=false:=by simp;omega
     simp only[this,Bool.false_eq_true,if_false,ite_self]
     have:=last X1 sX1 (by rw[List.append_nil];exact .refl _)
     rw[List.append_nil]
     exact this
    have pX1:=List.length_pos_iff.2 hX1
    have pY1:=List.length_pos_iff.2 hY1
    rw[if_pos so,if_pos so]
    obtain⟨Z1,v1,v2,v3⟩:=av7 k P X1 Y1 (X2++Y2++Q) a s q om hX1 hY1 ha om om so sX1 sY1
    have e1:P++(X1++Y1)++X2++Y2++Q=P++X1++Y1++(X2++Y2++Q):=by simp
    rw[e1,v1,Option.bind_some]
    obtain⟨Z,u1,u2,u3⟩:=last Z1 v2 v3
    refine⟨Z,?_,u2,u3⟩
    rw[← u1]
    simp
   unfold g7 fj
   rw[eq1,eq2]
   by_cases hX2:X2=[]
   ·subst hX2
    simp only[List.length_nil]at hm
    rw[if_neg so,if_neg sm]
    obtain⟨Z,u1,u2,u3⟩:=mid
    refine⟨Z,?_,u2,u3⟩
    rw[← u1]
    simp
   by_cases hY1:Y1=[]
   ·subst hY1
    simp only[List.length_nil]at g3
    have:decide ((m:Int)<((q+m - s:Nat):Int))=false:=by simp;omega
    simp only[this,Bool.false_eq_true,if_false,ite_self]
    obtain⟨Z,u1,u2,u3⟩:=mid
    refine⟨Z,?_,u2,u3⟩
    refine Eq.trans ?_ u1
    simp
   have pX2:=List.length_pos_iff.2 hX2
   have pY1:=List.length_pos_iff.2 hY1
   rw[if_pos so,if_pos so]
   have e1:P++(X1++X2)++(Y1++Y2)++Q=(P++X1)++X2++Y1++(Y2++Q):=by simp
   rw[e1,turn_ok so so so hX2 hY1 so,Option.bind_some]
   obtain⟨Z,u1,u2,u3⟩:=mid
   refine⟨Z,?_,u2,u3⟩
   rw[← u1]
   simp
  by_cases hmq:m>(a+b) / 2
  ·rw[if_pos (decide_eq_true om),cu (n:=(((a+b) / 2:Nat):Int)+m) om om,cu (n:=(((a+b) / 2:Nat):Int)+m - b) om om,show(((a+b) / 2:Nat):Int)+m - b=(((a+b) / 2+m - b:Nat):Int)by omega]
   exact cut _ _ (by rw[if_pos hmq];exact⟨rfl,rfl⟩)
  ·rw[if_neg (by rw[decide_eq_true_eq];omega)]
   exact cut _ _ (by rw[if_neg hmq];exact⟨rfl,rfl⟩)
end
end Go.Proofs.YtcndghapmoaidaaGreatDoor
set_option linter.unusedSectionVars false
set_option linter.unusedVariables false
set_option linter.unusedSimpArgs false
set_option maxRecDepth 100000
set_option maxHeartbeats 4000000
namespace Go.Proofs.YtcndghapmoaidaaGreatDoor
open Go Go.Cn
variable [Glob]
theorem a11 {α:Type} {R:List α} {n:Nat} (h:n<=R.length):∃X R',R=X++R'/\X.length=n:=⟨R.take n,R.drop n,(List.take_append_drop ..).symm,by rw[List.length_take];omega⟩
section
variable {lt:B7->B7->Bool} {c:B7->B7->Option Int} (ho:Swo lt) (hc:∀x y,∃n:Int,c x y=some n/\decide (n<0)=lt x y)
include ho hc
theorem aw5 :∀(k:Nat) (P R:List B7),R.length<=k->P.length+R.length<=1000000->Full lt 20 P->
  ∃P' R',iter (fun s=>cv ((P.length+R.length:Nat):Int) c s.1 s.2.1 s.2.2) ((P.length:Int),((P.length+20:Nat):Int),P++R)=some ((P'.length:Int),P'++R')/\Full lt 20 P'/\D5 lt (P++R) (P'++R'):=by
 intro k
 induction k with
 |zero=>
  intro P R hk hl hP
  refine⟨P,R,c9 ?_,hP,.refl _⟩
  unfold cv
  rw[if_neg so]
 |succ k ih=>
  intro P R hk hl hP
  by_cases h:20<=R.length
  ·obtain⟨X,R',rfl,hX⟩:=a11 h
   rw[List.length_append]at *
   obtain⟨Z,g1,g2,g3⟩:=amo ho hc (P:=P) (X:=X) (Q:=R') (a:=(P.length:Int)) (b:=((P.length+20:Nat):Int)) rfl om om
   have hZ:=g3.len
   obtain⟨P',R2,k1,k2,k3⟩:=ih (P++Z) R' om so (.more hP om g2)
   refine⟨P',R2,?_,k2,?_⟩
   ·have e:cv ((P.length+(X.length+R'.length):Nat):Int) c P.length ((P.length+20:Nat):Int) (P++(X++R'))=some (.inl (((P++Z).length:Int),(((P++Z).length+20:Nat):Int),(P++Z)++R')):=by
     unfold cv
     rw[if_pos so,← List.append_assoc,g1,Option.bind_some,cu om om]
     congr 3
     ·simp;omega
     ·congr 1
      simp;omega
    rw[f9 (s':=(((P++Z).length:Int),(((P++Z).length+20:Nat):Int),(P++Z)++R')) e,← k1]
    congr 3
    funext s
    congr 1
    simp
    omega
   ·rw[← List.append_assoc]
    exact(((D5.refl P).app g3).app (.refl R')).trans k3
  ·refine⟨P,R,c9 ?_,hP,.refl _⟩
   unfold cv
   rw[if_neg so]
theorem azo {bs:Nat} (hb:1<=bs) (hb2:bs<=1000000):∀(k:Nat) (P R:List B7),R.length<=k->P.length+R.length<=1000000->Full lt (2 * bs) P->Blk lt bs R->
  ∃P' R',iter (fun s=>dc ((P.length+R.length:Nat):Int) bs c s.1 s.2.1 s.2.2) ((P.length:Int),((P.length+2 * bs:Nat):Int),P++R)=some ((P'.length:Int),P'++R')/\Full lt (2 * bs) P'/\Blk lt bs R'/\R'.length<2 * bs/\D5 lt (P++R) (P'++R'):=by
 intro k
 induction k with
 |zero=>
  intro P R hk hl hP hR
  refine⟨P,R,c9 ?_,hP,hR,by omega,.refl _⟩
  unfold dc
  rw[if_neg so]
 |succ k ih=>
  intro P R hk hl hP hR
  by_cases h:2 * bs<=R.length
  ·obtain⟨X,R1,rfl,hX,sX,hR1⟩:=hR.cut om
   rw[List.length_append]at h
   obtain⟨Y,R2,rfl,hY,sY,hR2⟩:=hR1.cut om
   simp only[List.length_append]at *
   obtain⟨Z,g1,g2,g3⟩:=av7 ho hc 1048576 P X Y R2 P.length (P.length+bs) (P.length+2 * bs) om (fun h=>by rw[h]at hX;simp at hX;omega) (fun h=>by rw[h]at hY;simp at hY;omega) rfl om om om sX sY
   have hZ:=g3.len
   rw[List.length_append]at hZ
   obtain⟨P',R',k1,k2,k3,k4,k5⟩:=ih (P++Z) R2 om so (.more hP om g2) hR2
   refine⟨P',R',?_,k2,k3,k4,?_⟩
   ·have e:dc ((P.length+(X.length+(Y.length+R2.length)):Nat):Int) bs c P.length ((P.length+2 * bs:Nat):Int) (P++(X++(Y++R2)))=some (.inl (((P++Z).length:Int),(((P++Z).length+2 * bs:Nat):Int),(P++Z)++R2)):=by
     have e1:P++(X++(Y++R2))=P++X++Y++R2:=by simp
     have e2:gl (P.length:Int) ((P.length:Int)+bs) ((P.length+2 * bs:Nat):Int) c (P++X++Y++R2)=some (P++Z++R2):=g1
     unfold dc
     rw[if_pos (decide_eq_true om),e1,cu (n:=(P.length:Int)+bs) om om,e2,Option.bind_some,cu (n:=2 * (bs:Int)) om om,cu om om]
     congr 3
     ·simp;omega
     ·congr 1
      simp;omega
    rw[f9 (s':=(((P++Z).length:Int),(((P++Z).length+2 * bs:Nat):Int),(P++Z)++R2)) e,← k1]
    congr 3
    funext s
    congr 1
    simp
    omega
   ·have e1:P++(X++(Y++R2))=P++(X++Y)++R2:=by simp
    rw[e1]
    exact(((D5.refl P).app g3).app (.refl R2)).trans k5
  ·refine⟨P,R,c9 ?_,hP,hR,by omega,.refl _⟩
   unfold dc
   rw[if_neg so]
theorem a0v {bs:Nat} (hb:1<=bs) (hb2:bs<=1000000) {P R:List B7} (hl:P.length+R.length<=1000000) (hP:Full lt (2 * bs) P) (hR:Blk lt bs R) (h:R.length<2 * bs):
  ∃Z,fc bs ((P.length+R.length:Nat):Int) c P.length (P++R)=some (.inl (((2 * bs:Nat):Int),Z))/\Blk lt (2 * bs) Z/\D5 lt (P++R) Z:=by
 unfold fc gc
 rw[cu (n:=(P.length:Int)+bs) om om,cu om om,show(bs:Int) * 2=((2 * bs:Nat):Int)by omega]
 by_cases h1:bs<R.length
 ·obtain⟨X,Y,rfl,hX,sX,hY⟩:=hR.cut om
  simp only[List.length_append]at *
  obtain⟨Z,g1,g2,g3⟩:=av7 ho hc 1048576 P X Y [] P.length (P.length+bs) (P.length+(X.length+Y.length)) om (fun h=>by rw[h]at hX;simp at hX;omega) (fun h=>by rw[h]at h1;simp at h1;omega) rfl om om so sX (hY.srt om)
  have hZ:=g3.len
  rw[List.length_append]at hZ
  simp only[List.append_nil]at g1
  have e2:gl (P.length:Int) ((P.length:Int)+bs) ((P.length+(X.length+Y.length):Nat):Int) c (P++X++Y)=some (P++Z):=g1
  refine⟨P++Z,?_,hP.blk (.short om g2),(D5.refl P).app g3⟩
  rw[if_pos (decide_eq_true om),← List.append_assoc,e2]
  rfl
 ·refine⟨P++R,?_,hP.blk (.short om (hR.srt om)),.refl _⟩
  rw[if_neg (by rw[decide_eq_true_eq];omega)]
theorem passes :∀(k bs:Nat) (d:List B7),d.length<=bs+k->1<=bs->bs<=1000000->d.length<=500000->Blk lt bs d->
  ∃Z,iter (fun s=>cw d.length c s.1 s.2) ((bs:Int),d)=some Z/\Srt lt Z/\D5 lt d Z:=by
 intro k
 induction k with
 |zero=>
  intro bs d hk hb hb2 hl hd
  refine⟨d,c9 ?_,hd.srt om,.refl _⟩
  unfold cw
  rw[if_neg (by rw[decide_eq_true_eq];omega)]
 |succ k ih=>
  intro bs d hk hb hb2 hl hd
  by_cases h:bs<d.length
  ·obtain⟨P,R,g1,g2,g3,g4,g5⟩:=azo ho hc hb hb2 d.length [] d (Nat.le_refl _) so .nil hd
   have hlen:=g5.len
   rw[List.length_append]at hlen
   simp only[List.length_nil,Nat.zero_add,List.nil_append]at g1 hlen g5
   obtain⟨Z,u1,u2,u3⟩:=a0v ho hc hb hb2 om g2 g3 g4
   rw[hlen]at u1
   have hZ:=u3.len
   rw[List.length_append]at hZ
   obtain⟨Z2,v1,v2,v3⟩:=ih (2 * bs) Z om om om om u2
   refine⟨Z2,?_,v2,(g5.trans u3).trans v3⟩
   have e:cw d.length c bs d=some (.inl (((2 * bs:Nat):Int),Z)):=by
    unfold cw
    rw[if_pos (decide_eq_true om),cu (n:=2 * (bs:Int)) om om]
    have e1:(2 * (bs:Int))=((2 * bs:Nat):Int):=by omega
    rw[e1]
    exact(congrArg (fun z=>z.bind fun p=>fc bs d.length c p.1 p.2) g1).trans u1
   rw[f9 (s':=(((2 * bs:Nat):Int),Z)) e,← v1]
   congr 3
   funext s
   congr 1
   omega
  ·refine⟨d,c9 ?_,hd.srt om,.refl _⟩
   unfold cw
   rw[if_neg (by rw[decide_eq_true_eq];omega)]
theorem azf {d:List B7} (hl:d.length<=500000):∃Z,dq c d=some Z/\Srt lt Z/\D5 lt d Z:=by
 obtain⟨P,R,g1,g2,g3⟩:=aw5 ho hc d.length [] d (Nat.le_refl _) so .nil
 have hlen:=g3.len
 rw[List.length_append]at hlen
 simp only[List.length_nil,Nat.zero_add,List.nil_append]at g1 hlen g3
 obtain⟨Z,u1,u2,u3⟩:=amo ho hc (P:=P) (X:=R) (Q:=[]) (a:=(P.length:Int)) (b:=(d.length:Int)) rfl om so
 simp only[List.append_nil]at u1
 have hZ:=u3.len
 have hB:Blk lt 20 (P++Z):=by
  refine g2.blk ?_
  by_cases h:Z.length<=20
  ·exact .short h u2
  ·have:∀(k:Nat) (L:List B7),L.length<=k->Srt lt L->Blk lt 20 L:=by
    intro k
    induction k with
    |zero=>intro L h hs;exact .short om hs
    |succ k ih=>
     intro L h hs
     by_cases h2:20<L.length
     ·obtain⟨X,R',rfl,hX⟩:=a11 (show 20<=L.length by omega)
      rw[List.length_append]at h
      exact .more hX (aeo.1 hs).1 (ih R' om (aeo.1 hs).2.1)
     ·exact .short om hs
   exact this _ _ (Nat.le_refl _) u2
 have hlen2:(P++Z).length=d.length:=by rw[List.length_append];omega
 obtain⟨Z2,v1,v2,v3⟩:=passes ho hc d.length 20 (P++Z) om om om om hB
 rw[hlen2]at v1
 refine⟨Z2,?_,v2,(g3.trans ((D5.refl P).app u3)).trans v3⟩
 have e:ik d.length c d=some Z2:=by
  unfold ik
  have e1:(iter (fun s=>cv d.length c s.1 s.2.1 s.2.2) (0,20,d))=some ((P.length:Int),P++R):=g1
  rw[e1,Option.bind_some]
  unfold i7
  have e2:iter (fun s=>cw d.length c s.1 s.2) (20,P++Z)=some Z2:=v1
  dsimp only
  rw[u1,Option.bind_some,e2]
  rfl
 unfold dq
 rw[e]
 rfl
end
def ltU (x y:B7):Bool:=decide (x.File<y.File)||(decide (x.File=y.File)&&decide (x.At<y.At))
theorem swoU :Swo ltU:=by
 constructor
 ·intro x y h
  unfold ltU at *
  simp at *
  omega
 ·intro x y z h k
  unfold ltU at *
  simp at *
  omega
theorem aq8 (x y:Int):qk x y=some (if x<y then -1 else if x>y then 1 else 0):=by
 unfold qk yu
 have h:∀x:Int,(x != x)=false:=fun x=>by simp
 simp only[h,Option.bind_some,Bool.false_eq_true,if_false,decide_eq_true_eq]
 by_cases h1:x<y
 ·rw[if_pos h1,if_pos h1]
 ·rw[if_neg h1,if_neg h1]
  by_cases h2:x>y
  ·rw[if_pos h2,if_pos h2]
  ·rw[if_neg h2,if_neg h2]
theorem or_eq (x y:Int):afv [x,y]=some (if x=0 then y else x):=by
 unfold afv act
 have h0:idx [x,y] (0:Int)=some x:=rfl
 have h1:idx [x,y] (1:Int)=some y:=rfl
 have w0:w64 (0+1)=1:=cu om om
 have w1:w64 (1+1)=2:=cu om om
 by_cases hx:x=0
 ·have e0:ii [x,y] 0=some (.inl 1):=by
   unfold ii
   rw[if_pos sm,h0,Option.bind_some,if_neg (by simp[hx]),w0]
  rw[f9 e0,if_pos hx]
  by_cases hy:y=0
  ·have e1:ii [x,y] 1=some (.inl 2):=by
    unfold ii
    rw[if_pos sm,h1,Option.bind_some,if_neg (by simp[hy]),w1]
   have e2:ii [x,y] 2=some (.inr (.next ())):=by
    unfold ii
    rw[if_neg sm]
   rw[f9 e1,c9 e2,hy]
   rfl
  ·have e1:ii [x,y] 1=some (.inr (.done y)):=by
    unfold ii
    rw[if_pos sm,h1,Option.bind_some,if_pos (by simp[hy])]
   rw[c9 e1]
   rfl
 ·have e0:ii [x,y] 0=some (.inr (.done x)):=by
   unfold ii
   rw[if_pos sm,h0,Option.bind_some,if_pos (by simp[hx])]
  rw[c9 e0,if_neg hx]
  rfl
theorem cmpU (x y:B7):∃n:Int,xh x y=some n/\decide (n<0)=ltU x y:=by
 unfold xh aba
 rw[aq8,aq8,Option.bind_some,Option.bind_some,or_eq]
 refine⟨_,rfl,?_⟩
 unfold ltU
 rcases Int.lt_trichotomy x.File y.File with h|h|h
 ·rw[if_pos h];simp[h]
 ·rw[if_neg (show ¬x.File<y.File by omega),if_neg (show ¬x.File>y.File by omega),if_pos rfl]
  rcases Int.lt_trichotomy x.At y.At with h2|h2|h2
  ·rw[if_pos h2];simp[h,h2]
  ·rw[if_neg (show ¬x.At<y.At by omega),if_neg (show ¬x.At>y.At by omega)];simp[h,h2]
  ·rw[if_neg (show ¬x.At<y.At by omega),if_pos h2];simp;omega
 ·rw[if_neg (show ¬x.File<y.File by omega),if_pos h];simp;omega
theorem sort_in (x1:List B7) (i:Nat) (x:B7) (hx:x1[i]? =some x):∀(n:Nat) (A B:List B7),A.length=n->n<=1000000000->(∀b∈B,ltU x b=true)->
  ∃A' B',A++B=A'++B'/\iter (fun s=>yi (A++B) x1 i s) (n:Int)=some (A'.length:Int)/\(∀a∈A'.getLast?,ltU x a=false)/\(∀b∈B',ltU x b=true):=by
 intro n
 induction n with
 |zero=>
  intro A B hn hl hB
  obtain rfl:=List.eq_nil_of_length_eq_zero hn
  refine⟨[],B,rfl,c9 ?_,fun _ h=>(by cases h),hB⟩
  unfold yi uz
  rw[if_neg sm]
  rfl
 |succ n ih=>
  intro A B hn hl hB
  obtain⟨A,u,rfl⟩:∃S u,A=S++[u]:=by
   rcases List.eq_nil_or_concat A with rfl|⟨S,u,rfl⟩
   ·simp at hn
   ·exact⟨S,u,List.concat_eq_append ..⟩
  have hn:A.length=n:=by simpa using hn
  have e1:A++[u]++B=A++u::B:=by simp
  have e:yi (A++[u]++B) x1 i ((n+1:Nat):Int)=if ltU x u=true then some (.inl (n:Int))else some (.inr ((n+1:Nat):Int)):=by
   unfold yi uz ltU
   rw[if_pos sm,cu om om,e1,ag6 om,dw hx]
   simp only[Option.bind_some]
   rw[show((n+1:Nat):Int) - 1=(n:Int)by omega]
   rcases Int.lt_trichotomy u.File x.File with h|h|h
   ·rw[if_neg so,if_neg so,if_neg sm,if_neg so]
   ·rw[if_neg so,if_pos (by simp[h])]
    by_cases h2:u.At>x.At
    ·rw[if_pos (by simpa using h2),if_pos (by simp[h];omega)]
    ·rw[if_neg (by simpa using h2),if_neg (by simp[h];omega)]
   ·rw[if_pos (by simpa using h),if_pos trivial,if_pos so]
  by_cases hu:ltU x u=true
  ·rw[if_pos hu]at e
   rw[f9 e]
   obtain⟨A',B',g1,g2,g3,g4⟩:=ih A (u::B) hn om (fun b hb=>by
    rcases List.mem_cons.1 hb with rfl|hb
    ·exact hu
    ·exact hB b hb)
   exact⟨A',B',by rw[e1];exact g1,by rw[e1];exact g2,g3,g4⟩
  ·rw[if_neg hu]at e
   refine⟨A++[u],B,rfl,?_,fun a ha=>?_,hB⟩
   ·rw[c9 e]
    simp[hn]
   ·obtain rfl:u=a:=by simpa using ha
    exact Bool.eq_false_iff.2 hu
theorem awh :∀(r x1:List B7) (i:Nat) (out:List B7),x1.drop i=r->x1.length<=500000->i<=x1.length->Srt ltU out->D5 ltU (x1.take i) out->
  ∃Z,iter (fun s=>yj x1 s.1 s.2) ((i:Int),out)=some Z/\Srt ltU Z/\D5 ltU x1 Z
 | [],x1,i,out,hr,hl,hi,h1,h2=>by
  have hi:x1.length<=i:=by
   have:=congrArg List.length hr
   rw[List.length_drop,List.length_nil]at this
   omega
  refine⟨out,c9 ?_,h1,by rwa [List.take_of_length_le hi]at h2⟩
  unfold yj
  rw[if_neg (by simpa using hi)]
 |x::r,x1,i,out,hr,hl,hi,h1,h2=>by
  have hx:x1[i]? =some x:=by
   have:=congrArg (fun z=>z[0]?) hr
   simpa using this
  have hi:=(List.getElem?_eq_some_iff.1 hx).1
  have hr':x1.drop (i+1)=r:=by
   have:=congrArg List.tail hr
   simpa using this
  have hlen:=h2.len
  rw[List.length_take]at hlen
  obtain⟨A,B,g1,g2,g3,g4⟩:=sort_in x1 i x hx out.length out [] rfl om (fun _ h=>by cases h)
  rw[List.append_nil]at g1 g2
  subst g1
  rw[List.length_append]at hlen
  have e:yj x1 i (A++B)=some (.inl (((i+1:Nat):Int),A++x::B)):=by
   unfold yj akl
   rw[if_pos (gn hx),g2,Option.bind_some]
   have s1:subL (A++B) 0 A.length=some A:=by
    unfold subL
    rw[if_pos so]
    simp
   have s2:subL (A++B) A.length ((A++B).length:Int)=some B:=by
    unfold subL
    rw[if_pos so,Int.toNat_natCast,Int.toNat_natCast,List.take_length,List.drop_left]
   rw[s1,Option.bind_some,nz so so,Option.bind_some,dw hx,Option.bind_some,nz so so,Option.bind_some,s2,Option.bind_some,nz so so,Option.bind_some,abv om]
   simp
  rw[f9 (s':=(((i+1:Nat):Int),A++x::B)) e]
  refine awh r x1 (i+1) _ hr' hl hi (arp swoU h1 g3 g4) ?_
  have e2:x1.take (i+1)=x1.take i++[x]:=by
   rw[List.take_succ_eq_append_getElem hi]
   congr 1
   rw[List.getElem?_eq_getElem hi]at hx
   exact congrArg (fun z=>[z]) (Option.some.inj hx)
  rw[e2]
  exact(h2.app (.refl [x])).trans (D5.put swoU g4)
theorem sort_eq {l:List B7} (hl:l.length<=500000):∃Z,dq xh l=some Z/\alx l=some Z/\Srt ltU Z/\D5 ltU l Z:=by
 obtain⟨Z,g1,g2,g3⟩:=azf swoU cmpU hl
 obtain⟨Y,k1,k2,k3⟩:=awh l l 0 [] rfl hl om .nil (.refl _)
 obtain rfl:Z=Y:=D5.one swoU g2 k2 (g3.symm.trans k3)
 refine⟨Z,g1,?_,g2,g3⟩
 unfold alx akm
 exact(congrArg (fun z=>z.bind some) k1).trans rfl
end Go.Proofs.YtcndghapmoaidaaGreatDoor
set_option linter.unusedSectionVars false
set_option linter.unusedVariables false
set_option linter.unusedSimpArgs false
set_option maxRecDepth 100000
set_option maxHeartbeats 4000000
namespace Go.Proofs.YtcndghapmoaidaaGreatDoor
open Go Go.Cn
variable [Glob]
def rowF {α τ γ:Type} (g:Nat->τ->α->τ ⊕ γ):Nat->List α->τ->τ ⊕ γ
 |_,[],t=> .inl t
 |i,x::r,t=>match g i t x with| .inl t'=>rowF g (i+1) r t'| .inr e=> .inr e
abbrev Step {τ γ S ω:Type} (R:S->τ->Prop) (Q:ω->γ->Prop):τ ⊕ γ->S ⊕ ω->Prop
 | .inl t',z=>∃s',z= .inl s'/\R s' t'
 | .inr e,z=>∃o,z= .inr o/\Q o e
abbrev Fin' {τ γ ω:Type} (F:ω->τ->Prop) (Q:ω->γ->Prop):τ ⊕ γ->ω->Prop
 | .inl t,o=>F o t
 | .inr e,o=>Q o e
theorem rowM {α τ γ S ω:Type} {l:List α} {f:S->Option (S ⊕ ω)} (g:Nat->τ->α->τ ⊕ γ) (R:Nat->S->τ->Prop) (F:ω->τ->Prop) (Q:ω->γ->Prop)
  (h1:∀i x s t,l[i]? =some x->R i s t->Ok (Step (R (i+1)) Q (g i t x)) (f s))
  (h2:∀s t,R l.length s t->Ok (fun z=>∃o,z= .inr o/\F o t) (f s)):∀(r:List α) (i:Nat) s t,l.drop i=r->i<=l.length->R i s t->Ok (Fin' F Q (rowF g i r t)) (iter f s)
 | [],i,s,t,hr,hi,h=>by
  have hi':l.length<=i:=by
   have:=congrArg List.length hr
   rw[List.length_drop,List.length_nil]at this
   omega
  obtain rfl:i=l.length:=by omega
  obtain⟨_,e,o,rfl,ho⟩:=h2 s t h
  exact⟨o,c9 e,ho⟩
 |x::r,i,s,t,hr,hi,h=>by
  have hx:l[i]? =some x:=by
   have:=congrArg (fun z=>z[0]?) hr
   simpa using this
  have hi:=(List.getElem?_eq_some_iff.1 hx).1
  have hr':l.drop (i+1)=r:=by
   have:=congrArg List.tail hr
   simpa using this
  obtain⟨z,e,hz⟩:=h1 i x s t hx h
  unfold rowF
  cases hg:g i t x with
  |inl t'=>
   rw[hg]at hz
   obtain⟨s',rfl,hs'⟩:=hz
   rw[f9 e]
   exact rowM g R F Q h1 h2 r (i+1) s' t' hr' hi hs'
  |inr e'=>
   rw[hg]at hz
   obtain⟨o,rfl,ho⟩:=hz
   exact⟨o,c9 e,ho⟩
mutual
def zh :B5->List B5
 |⟨k,t,y,n,a,b,c,d,kids⟩=>⟨k,t,y,n,a,b,c,d,kids⟩::flatL kids
def flatL :List B5->List B5
 | []=>[]
 |n::l=>zh n++flatL l
end
theorem asd (x:B5):zh x=x::flatL x.Kids:=by cases x;simp[zh]
mutual
theorem ahh :∀x:B5,(zh x).length=fi x
 |⟨_,_,_,_,_,_,_,_,kids⟩=>by simp[zh,fi,afo kids];omega
theorem afo :∀l:List B5,(flatL l).length=bz l
 | []=>by simp[flatL,bz]
 |n::l=>by simp[flatL,bz,ahh n,afo l]
end
theorem at4 :∀l m:List B5,flatL (l++m)=flatL l++flatL m
 | [],m=>by simp[flatL]
 |n::l,m=>by simp[flatL,at4 l m]
theorem aq7 {l:List B5} {i:Nat} {x:B5} (h:l[i]? =some x):flatL (l.take (i+1))=flatL (l.take i)++zh x:=by
 obtain⟨hi,rfl⟩:=List.getElem?_eq_some_iff.1 h
 rw[List.take_succ_eq_append_getElem hi,at4]
 simp[flatL]
theorem ni {l:List B5} {i:Nat} {x:B5} (h:l[i]? =some x):bz (l.take (i+1))=bz (l.take i)+fi x/\bz (l.take i)+fi x<=bz l:=by
 obtain⟨hi,rfl⟩:=List.getElem?_eq_some_iff.1 h
 have e:bz (l.take (i+1))=bz (l.take i)+fi l[i]:=by rw[List.take_succ_eq_append_getElem hi,xu];simp[bz]
 refine⟨e,?_⟩
 rw[← e]
 have:bz (l.take (i+1))+bz (l.drop (i+1))=bz l:=by rw[← xu,List.take_append_drop]
 omega
theorem kw {α:Type} {l:List α} {i:Nat} {x:α} (h:l[i]? =some x):x∈l:=List.mem_of_getElem? h
theorem rowK {α S ω:Type} {l:List α} {f:S->Option (S ⊕ ω)} (R:Nat->S->Prop) (F:ω->Prop)
  (h1:∀i x s,l[i]? =some x->R i s->Ok (fun z=>∃s',z= .inl s'/\R (i+1) s') (f s)) (h2:∀s,R l.length s->Ok (fun z=>∃o,z= .inr o/\F o) (f s)) (s:S) (h:R 0 s):Ok F (iter f s):=by
 obtain⟨o,e,ho⟩:=rowM (τ:=Unit) (γ:=Empty) (l:=l) (f:=f) (fun _ _ _=> .inl ()) (fun i s _=>R i s) (fun o _=>F o) (fun _ _=>False) (fun i x s _ hx hs=>h1 i x s hx hs) (fun s _ hs=>h2 s hs) l 0 s () rfl (Nat.zero_le _) h
 refine⟨o,e,?_⟩
 have:∀(r:List α) i,rowF (τ:=Unit) (γ:=Empty) (fun _ _ _=> .inl ()) i r ()= .inl ():=by
  intro r
  induction r with
  |nil=>intro i;rfl
  |cons x r ih=>intro i;unfold rowF;exact ih _
 rw[this]at ho
 exact ho
theorem all_at :∀(k:Nat) (x:B5),fi x<=k->fi x<=1000000->oe k x 0=some (zh x):=by
 intro k
 induction k with
 |zero=>intro x h;have:=ng x;omega
 |succ k ih=>
  intro x hx hk
  show adi (oe k) x 0=_
  have hs:=jk x
  have hl:=ke x.Kids
  unfold adi
  rw[if_pos (show((0:Int)==0)=true from rfl)]
  unfold abk
  rw[if_pos rfl,nz sm sm,Option.bind_some]
  unfold abl ad8
  obtain⟨o,e,rfl⟩:=rowK (l:=x.Kids) (f:=fun s:Int × List B5=>tm (oe k) x 0 s.1 s.2) (fun i s=>s=((i:Int),x::flatL (x.Kids.take i))) (fun o=>o=zh x) (fun i y s hy h=>by
   subst h
   have hn:=ni hy
   dsimp only
   unfold tm
   rw[if_pos (gn hy),dw hy,Option.bind_some,ih y om om,Option.bind_some,nz (by simp[afo,ahh];omega) (by simp[afo,ahh];omega),Option.bind_some,abv (by have:=(List.getElem?_eq_some_iff.1 hy).1;omega)]
   exact .mk ⟨_,rfl,by rw[aq7 hy];simp⟩) (fun s h=>by
   subst h
   dsimp only
   unfold tm
   rw[if_neg (gw (Nat.le_refl _))]
   exact .mk ⟨_,rfl,by rw[List.take_length,asd]⟩) (0,[]++[x]) (by simp[flatL])
  exact(congrArg (fun z=>z.bind some) e).trans rfl
theorem aua {x:B5} (h:fi x<=1000000):an9 x 0=some (zh x):=all_at 1048576 x om h
theorem walk_at (yld:List B5->B5->Option (Bool × List B5)) (hy:∀s a,s.length<=1000000->yld s a=some (true,s++[a])):∀(k:Nat) (x:B5) (s:List B5),fi x<=k->s.length+fi x<=1000000->md yld k x s=some (true,s++zh x):=by
 intro k
 induction k with
 |zero=>intro x s h;have:=ng x;omega
 |succ k ih=>
  intro x s hx hk
  show adj yld (md yld k) x s=_
  have hs:=jk x
  have hl:=ke x.Kids
  unfold adj
  rw[hy s x om,Option.bind_some]
  dsimp only
  rw[if_neg sm]
  obtain⟨o,e,rfl⟩:=rowK (l:=x.Kids) (f:=fun t:Int × List B5=>q7 yld (md yld k) x t.1 t.2) (fun i t=>t=((i:Int),s++x::flatL (x.Kids.take i))) (fun o=>o= .next (s++zh x)) (fun i y t hy h=>by
   subst h
   have hn:=ni hy
   dsimp only
   unfold q7
   rw[if_pos (gn hy),dw hy,Option.bind_some,ih y _ om (by simp[afo];omega),Option.bind_some]
   dsimp only
   rw[if_neg sm,abv (by have:=(List.getElem?_eq_some_iff.1 hy).1;omega)]
   exact .mk ⟨_,rfl,by rw[aq7 hy];simp⟩) (fun t h=>by
   subst h
   dsimp only
   unfold q7
   rw[if_neg (gw (Nat.le_refl _))]
   exact .mk ⟨_,rfl,by rw[List.take_length,asd]⟩) (0,s++[x]) (by simp[flatL])
  have e':iter (fun t=>q7 yld (md yld k) x t.1 t.2) (0,s++[x])=some (.next (s++zh x)):=e
  rw[e',Option.bind_some]
  rfl
theorem avw {x:B5} (h:fi x<=1000000):ajx x 0=some (zh x):=by
 unfold ajx aeb aob
 rw[walk_at _ (fun s a hs=>?_) 1048576 x [] om (by simpa using h)]
 ·simp
 ·unfold ada adb
  rw[if_pos (by rfl),if_pos rfl,nz so so,Option.bind_some,ag6 rfl,Option.bind_some,ano rfl]
abbrev zeroN :B5:=B5.mk 0 [] [] 0 0 0 0 0 []
def decl (x:B5):Bool:=x.Kind==4||x.Kind==6
mutual
def agnN (own:List Bt):B5->Option B5
 |⟨_,_,_,_,_,_,_,_,kids⟩=>agnL own kids
def agnL (own:List Bt):List B5->Option B5
 | []=>none
 |k::r=>if(decl k&&own.any (·==k.Text))=true then some k else match agnN own k with|some x=>some x|none=>agnL (if decl k=true then own++[k.Text]else own) r
end
theorem ay5 (own:List Bt) (x:B5):agnN own x=agnL own x.Kids:=by cases x;simp[agnN]
def agnG :Nat->List Bt->B5->List Bt ⊕ B5:=fun _ own k=>
 if(decl k&&own.any (·==k.Text))=true then .inr k else match agnN own k with|some x=> .inr x|none=> .inl (if decl k=true then own++[k.Text]else own)
theorem asl :∀(l:List B5) (i:Nat) (own:List Bt),agnL own l=match rowF agnG i l own with| .inl _=>none| .inr x=>some x
 | [],_,own=>by simp[agnL,rowF]
 |k::r,i,own=>by
  unfold agnL rowF agnG
  by_cases h:(decl k&&own.any (·==k.Text))=true
  ·rw[if_pos h,if_pos h]
  ·rw[if_neg h,if_neg h]
   cases agnN own k with
   |some x=>rfl
   |none=>exact asl r (i+1) _
end Go.Proofs.YtcndghapmoaidaaGreatDoor
set_option linter.unusedSectionVars false
set_option linter.unusedVariables false
set_option linter.unusedSimpArgs false
set_option maxRecDepth 100000
set_option maxHeartbeats 4000000
namespace Go.Proofs.YtcndghapmoaidaaGreatDoor
open Go Go.Cn
variable [Glob]
theorem alv {α γ:Type} (p:α->Bool) (b:γ):∀(l:List α) (i:Nat),kn p (fun _ _=>b) i l=if l.any p=true then .done b else .next ()
 | [],_=>rfl
 |x::r,i=>by
  unfold kn
  by_cases hp:p x=true
  ·rw[if_pos hp,List.any_cons,hp,Bool.true_or,if_pos rfl]
  ·rw[if_neg hp,List.any_cons,Bool.eq_false_iff.2 hp,Bool.false_or];exact alv p b r (i+1)
theorem mi {α:Type} {l:List α} {i:Nat} {x:α} (h:l[i]? =some x):i<l.length:=(List.getElem?_eq_some_iff.1 h).1
theorem aj4 {l:List B5} {i:Nat} {x:B5} (h:l[i]? =some x):fi x<=bz l:=aj3 (kw h)
theorem a0j :∀(k:Nat) (x:B5) (own:List Bt) (m:SMap Bool),fi x<=k->fi x<=1000000->(∀t,mget t false m=own.any (·==t))->
  jd k x m=some (match agnN own x with|some y=>(y,true)|none=>(zeroN,false)):=by
 intro k
 induction k with
 |zero=>intro x _ _ h;have:=ng x;omega
 |succ k ih=>
  intro x own m hx hk hm
  show y0 (jd k) x m=_
  have hs:=jk x
  have hl:=ke x.Kids
  unfold y0 aly
  rw[Option.bind_some]
  obtain⟨o,e,ho⟩:=rowM (l:=x.Kids) (f:=fun s:Int × SMap Bool=>mz (jd k) x s.1 s.2) agnG (fun i s own=>s.1=(i:Int)/\∀t,mget t false s.2=own.any (·==t)) (fun o _=>∃p,o= .next p) (fun o e=>o= .done (e,true)) (fun i y s own hy h=>by
   obtain⟨s1,s2⟩:=s
   obtain⟨rfl,hm⟩:=h
   dsimp only at hm ⊢
   have hi:=mi hy
   have hn:=aj4 hy
   have f:Ok (Step (fun s own=>s.1=((i+1:Nat):Int)/\∀t,mget t false s.2=own.any (·==t)) (fun o e=>o= .done (e,true)) (agnG i own y)) (sh (jd k) y s2 i (decl y)):=by
    unfold sh wj wk agnG
    rw[ih y own s2 om om hm,abv om,hm]
    cases decl y
    ·simp only[Bool.false_eq_true,if_false,Bool.false_and,Option.bind_some]
     cases agnN own y with
     |some z=>exact .mk ⟨_,rfl,rfl⟩
     |none=>exact .mk ⟨_,rfl,rfl,hm⟩
    ·simp only[if_true,Bool.true_and,Option.bind_some]
     refine .cond (fun h=>?_) fun h=>?_
     ·rw[if_pos h]
      exact .mk ⟨_,rfl,rfl⟩
     ·rw[if_neg (by rw[h];simp)]
      cases agnN own y with
      |some z=>exact .mk ⟨_,rfl,rfl⟩
      |none=>
       refine .mk ⟨_,rfl,rfl,fun t=>?_⟩
       dsimp only
       rw[aj5,hm,List.any_append]
       by_cases ht:y.Text=t
       ·rw[if_pos ht,ht];simp
       ·rw[if_neg ht]
        have:(y.Text==t)=false:=by simpa using ht
        simp[this]
   unfold mz
   rw[if_pos (gn hy),dw hy,Option.bind_some]
   have e:decl y=((y.Kind==4)||(y.Kind==6)):=rfl
   rw[e]at f
   cases h4:(y.Kind==4)
   ·rw[h4,Bool.false_or]at f;rw[if_neg sm];exact f
   ·rw[h4,Bool.true_or]at f;rw[if_pos rfl];exact f) (fun s own h=>by
   obtain⟨s1,s2⟩:=s
   obtain⟨rfl,hm⟩:=h
   dsimp only
   unfold mz
   rw[if_neg (gw (Nat.le_refl _))]
   exact .mk ⟨_,rfl,_,rfl⟩) x.Kids 0 (0,m) own rfl (Nat.zero_le _) ⟨rfl,hm⟩
  have e':iter (fun s=>mz (jd k) x s.1 s.2) (0,m)=some o:=e
  rw[e',Option.bind_some,ay5,asl x.Kids 0 own]
  revert ho
  cases rowF agnG 0 x.Kids own with
  |inl t=>rintro⟨p,rfl⟩;rfl
  |inr y=>rintro rfl;rfl
theorem a1n :∀(k:Nat) (x:B5) (own:List Bt),fi x<=k->own.length+fi x<=1000000->
  ∃o,gh k x own=some (match agnN own x with|some y=>(y,true,o)|none=>(zeroN,false,o)):=by
 intro k
 induction k with
 |zero=>intro x _ h;have:=ng x;omega
 |succ k ih=>
  intro x own hx hk
  show ∃o,yv (gh k) x own=_
  have hs:=jk x
  have hl:=ke x.Kids
  unfold yv
  obtain⟨o,e,ho⟩:=rowM (l:=x.Kids) (f:=fun s:List Bt × Int=>mv (gh k) x s.1 s.2) agnG (fun i s w=>s=(w,(i:Int))/\w.length<=own.length+i) (fun o _=>∃p,o= .next p) (fun o e=>o= .done (e,true,[])) (fun i y s w hy h=>by
   obtain⟨rfl,hw⟩:=h
   dsimp only
   have hi:=mi hy
   have hn:=ni hy
   have hn2:i<=bz (x.Kids.take i):=by
    have:=ke (x.Kids.take i)
    rw[List.length_take]at this
    omega
   obtain⟨o,ho⟩:=ih y w om om
   have j5:agnN w y=none\/(∃z,agnN w y=some z)->Ok (Step (fun s w=>s=(w,((i+1:Nat):Int))/\w.length<=own.length+(i+1)) (fun o e=>o= .done (e,true,[])) (match agnN w y with|some x=> .inr x|none=> .inl (if decl y=true then w++[y.Text]else w))) (r8 (gh k) y w i):=fun _=>by
    unfold r8 vp vq
    rw[ho,Option.bind_some,nz so so,Option.bind_some,nz so so,Option.bind_some,abv om]
    cases agnN w y with
    |some z=>exact .mk ⟨_,rfl,rfl⟩
    |none=>
     dsimp only
     have e:decl y=((y.Kind==4)||(y.Kind==6)):=rfl
     rw[e]
     cases (y.Kind==4)<;>cases (y.Kind==6)<;>exact .mk ⟨_,rfl,rfl,by simp;omega⟩
   have j5:=j5 (by cases agnN w y;exact .inl rfl;exact .inr ⟨_,rfl⟩)
   have f:Ok (Step (fun s w=>s=(w,((i+1:Nat):Int))/\w.length<=own.length+(i+1)) (fun o e=>o= .done (e,true,[])) (agnG i w y)) (r7 (gh k) w y i (decl y)):=by
    unfold r7 aal agnG
    cases hd:decl y<;>rw[hd]at j5
    ·simp only[Bool.false_eq_true,if_false,Bool.false_and]
     exact j5
    ·simp only[if_true,Bool.true_and]
     have hs:=ir (l:=w) (f:=fun s=>pe (gh k) w y s) (fun t=>t==y.Text) (fun _ _=>(.inr (.done (y,true,[])):((List Bt) × Int) ⊕ (Flow (List Bt) (B5 × Bool × (List Bt))))) om (fun q t ht=>by
      unfold pe aam
      rw[if_pos (gn ht),dw ht]
      rfl) (fun q hq=>by
      unfold pe
      rw[if_neg (gw hq)]) w 0 rfl
     rw[show((0:Nat):Int)=0 from rfl,alv]at hs
     rw[hs,Option.bind_some]
     by_cases h:w.any (fun t=>t==y.Text)=true
     ·rw[if_pos h,if_pos h]
      exact .mk ⟨_,rfl,rfl⟩
     ·rw[if_neg h,if_neg h]
      exact j5
   unfold mv
   rw[if_pos (gn hy),dw hy,Option.bind_some]
   have e:decl y=((y.Kind==4)||(y.Kind==6)):=rfl
   rw[e]at f
   cases h4:(y.Kind==4)
   ·rw[h4,Bool.false_or]at f;rw[if_neg sm];exact f
   ·rw[h4,Bool.true_or]at f;rw[if_pos rfl];exact f) (fun s w h=>by
   obtain⟨rfl,hw⟩:=h
   dsimp only
   unfold mv
   rw[if_neg (gw (Nat.le_refl _))]
   exact .mk ⟨_,rfl,_,rfl⟩) x.Kids 0 (own,0) own rfl (Nat.zero_le _) ⟨rfl,by omega⟩
  have e':iter (fun s=>mv (gh k) x s.1 s.2) (own,0)=some o:=e
  rw[e',Option.bind_some,ay5,asl x.Kids 0 own]
  revert ho
  cases rowF agnG 0 x.Kids own with
  |inl t=>rintro⟨p,rfl⟩;exact⟨_,rfl⟩
  |inr y=>rintro rfl;exact⟨_,rfl⟩
theorem a1f {u:Nat} (h:u<=9223372036854775807):apm [IntKind.wrap .u8 (w64 (48+(Int.tmod (u:Int) 10)))]=[UInt8.ofNat (48+u % 10)]:=by
 have e:Int.tmod (u:Int) 10=((u % 10:Nat):Int):=by
  rw[Int.tmod_eq_emod_of_nonneg om]
  omega
 have w:IntKind.wrap .u8 (48+((u % 10:Nat):Int))=48+((u % 10:Nat):Int):=by
  unfold IntKind.wrap
  have e1:(2:Int) ^ (IntKind.u8.bits)=256:=rfl
  have e3:IntKind.u8.signed=false:=rfl
  simp only[e1,e3,Bool.false_and]
  rw[if_neg sm]
  omega
 rw[e,cu om om,w]
 unfold apm
 simp only[List.map_cons,List.map_nil]
 congr 2
theorem catB {a b:Bt} (h:a.length+b.length<=9000000000):cat a b=some (a++b):=by
 obtain⟨_,e,rfl⟩:=cat_ok h
 exact e
theorem avh :∀(k u:Nat),u<10 ^ k->0<k->(Lib.decDigits u).length<=k
 | 0,_,_,h=>absurd h (Nat.lt_irrefl _)
 |k+1,u,h,_=>by
  rw[Lib.decDigits]
  by_cases hu:u<10
  ·rw[dif_pos hu];simp
  ·rw[dif_neg hu]
   rw[Nat.pow_succ]at h
   have hk:0<k:=by
    rcases Nat.eq_zero_or_pos k with rfl|hk
    ·simp at h;omega
    ·exact hk
   have:=avh k (u / 10) om hk
   simp
   omega
theorem as5 :∀(k u:Nat) (acc:Bt),u<10 ^ k->0<k->acc.length+k<=1000->u<=9223372036854775807->
  iter (fun s=>nk s.1 s.2) ((u:Int),acc)=some (Lib.decDigits u++acc):=by
 intro k
 induction k with
 |zero=>intro u acc _ h;exact absurd h (Nat.lt_irrefl _)
 |succ k ih=>
  intro u acc hk _ ha hu
  have e:Int.tdiv (u:Int) 10=((u / 10:Nat):Int):=by
   rw[Int.tdiv_eq_ediv_of_nonneg om]
   omega
  have step:nk (u:Int) acc=if u<10 then some (.inr ([UInt8.ofNat (48+u % 10)]++acc))else some (.inl (((u / 10:Nat):Int),[UInt8.ofNat (48+u % 10)]++acc)):=by
   unfold nk
   rw[a1f hu,catB (by simp only[List.length_cons,List.length_nil];omega),e,cu om om,Option.bind_some]
   by_cases h10:u<10
   ·rw[if_pos so,if_pos h10]
   ·rw[if_neg so,if_neg h10]
  by_cases h10:u<10
  ·rw[if_pos h10]at step
   rw[c9 step,Lib.decDigits,dif_pos h10,Nat.mod_eq_of_lt h10]
  ·rw[if_neg h10]at step
   rw[Nat.pow_succ]at hk
   have hk0:0<k:=by
    rcases Nat.eq_zero_or_pos k with rfl|hk0
    ·simp at hk;omega
    ·exact hk0
   rw[f9 (s':=(((u / 10:Nat):Int),[UInt8.ofNat (48+u % 10)]++acc)) step,ih (u / 10) _ om hk0 (by simp only[List.length_append,List.length_cons,List.length_nil];omega) om,Lib.decDigits.eq_1 u,dif_neg h10,List.append_assoc]
theorem a1e {u:Nat} (h:u<=9223372036854775807):abg u=some (Lib.decDigits u):=by
 unfold abg
 rw[if_neg sm,as5 20 u [] om om sm h,List.append_nil]
def ag3 (m:Bt) (n:Nat):Bt:=m++[35]++Lib.decDigits n
def ag8 (c n:Bt):Bt:=c++[46]++n
def kh (c n:Bt):Bt:=c++[46]++n++[40,41]
theorem ajb {m:Bt} {n:Nat} (hm:m.length<=1000000000) (hn:n<=1000000000):o9 m n=some (ag3 m n):=by
 have:=avh 20 n om om
 unfold o9 ag3
 rw[catB so,Option.bind_some,a1e om,Option.bind_some,catB so]
 rfl
theorem aje {m:Bt} {n:Nat} (hm:m.length<=1000000000) (hn:n<=1000000000):ti m n=some (ag3 m n):=by
 have:=avh 20 n om om
 unfold ti adz o4 km ag3
 rw[catB so,Option.bind_some,if_neg (show ¬(0:Int)>(n:Int)by omega),if_pos ⟨rfl,by omega,by omega⟩]
 have e:Lib.itoa (n:Int)=Lib.decDigits n:=by
  unfold Lib.itoa
  rw[if_neg om,Int.toNat_natCast]
 rw[e]
 simp only[Option.bind_some]
 rw[catB so]
 rfl
theorem ajc {a b:Bt} (h:a.length+b.length<=8000000000):zu a b=some (ag8 a b):=by
 unfold zu ag8
 rw[catB so,Option.bind_some,catB so]
 rfl
theorem afc {a b:Bt} (h:a.length+b.length<=8000000000):xg a b=some (ag8 a b):=by
 unfold xg ag8
 rw[catB so,Option.bind_some,catB so]
 rfl
theorem adl {a b:Bt} (h:a.length+b.length<=8000000000):tl a b=some (kh a b):=by
 unfold tl kh
 rw[catB so,Option.bind_some,catB so,Option.bind_some,catB so]
 rfl
theorem adn {a b:Bt} (h:a.length+b.length<=8000000000):tu a b=some (kh a b):=by
 unfold tu kh
 rw[afc h,Option.bind_some]
 unfold ag8
 rw[catB so]
 rfl
end Go.Proofs.YtcndghapmoaidaaGreatDoor
set_option linter.unusedSectionVars false
set_option linter.unusedVariables false
set_option linter.unusedSimpArgs false
set_option maxRecDepth 100000
set_option maxHeartbeats 4000000
namespace Go.Proofs.YtcndghapmoaidaaGreatDoor
open Go Go.Cn
variable [Glob]
def ata (e x:A9):Bool:=x.Kind==e.Kind&&x.Owner==e.Owner&&x.Name==e.Name
def dup (l:List A9) (e:A9):Bool:=e.Kind != 4&&l.any (ata e)
def si (f:Int) (c:B5):A9:=A9.mk 1 c.Text c.Text [] c.Type_ false [] f c.At
def xq (c:Bt) (f:Int) (k:B5):A9:=A9.mk 2 (ag8 c k.Text) k.Text c k.Type_ (k.N==1) [] f k.At
def parG (ps:List Bt) (x:B5):List Bt:=if(x.Kind==4)=true then ps++[x.Type_]else ps
def pars (k:B5):List Bt:=k.Kids.foldl parG []
def aip (c:Bt) (f:Int) (k:B5):A9:=A9.mk 3 (kh c k.Text) k.Text c k.Type_ (k.N==1) (pars k) f k.At
def locG (m:Bt) (f:Int) (l:List A9) (x:B5):List A9:=if decl x=true then l++[A9.mk 4 (ag3 m l.length) x.Text m x.Type_ false [] f x.At]else l
def locs (c:Bt) (f:Int) (k:B5):List A9:=(zh k).foldl (locG (kh c k.Text) f) []
abbrev Bad :=A9 ⊕ B5
def memX (c:Bt) (f:Int) (l:List A9) (k:B5):List A9 ⊕ Bad:=
 if(k.Kind==2)=true then(if dup l (xq c f k)=true then .inr (.inl (xq c f k))else .inl (l++[xq c f k]))
 else if(k.Kind==3)=true then(if dup l (aip c f k)=true then .inr (.inl (aip c f k))else match agnN [] k with|some x=> .inr (.inr x)|none=> .inl (l++aip c f k::locs c f k))
 else .inl l
def clsX (f:Int) (l:List A9) (c:B5):List A9 ⊕ Bad:=
 if dup l (si f c)=true then .inr (.inl (si f c))else rowF (fun _ l k=>memX c.Text f l k) 0 c.Kids (l++[si f c])
def mist (f:Int):Bad->B3
 | .inl e=>B3.mk 150 e.File e.At
 | .inr x=>B3.mk 150 f x.At
def tabC (f:Int) (l:List A9) (c:B5):List A9 ⊕ B3:=
 if(c.Kind==1)=true then(match clsX f l c with| .inl l'=> .inl l'| .inr e=> .inr (mist f e))else .inl l
def tab (files:List (List B5)):List A9 ⊕ B3:=rowF (fun f l file=>rowF (fun _ l c=>tabC f l c) 0 file l) 0 files []
def tabR :List A9 ⊕ B3->List A9 × B3
 | .inl l=>(l,B3.mk 0 0 0)
 | .inr m=>([],m)
theorem aih {α β:Type} (g:β->α->β) (b:β) {l:List α} {i:Nat} {x:α} (h:l[i]? =some x):(l.take (i+1)).foldl g b=g ((l.take i).foldl g b) x:=by
 obtain⟨hi,rfl⟩:=List.getElem?_eq_some_iff.1 h
 rw[List.take_succ_eq_append_getElem hi,List.foldl_append]
 rfl
theorem ajy (m:Bt) (f:Int):∀(r:List B5) (l:List A9),(r.foldl (locG m f) l).length<=l.length+r.length
 | [],l=>by simp
 |x::r,l=>by
  have:=ajy m f r (locG m f l x)
  have h2:(locG m f l x).length<=l.length+1:=by
   unfold locG
   split<;>simp
  simp only[List.foldl_cons,List.length_cons]
  omega
theorem atx (m:Bt) (f:Int):∀(r:List B5) (l:List A9),(∀e∈l,e.Kind=4)->∀e∈r.foldl (locG m f) l,e.Kind=4
 | [],l,h=>h
 |x::r,l,h=>atx m f r _ fun e he=>by
  unfold locG at he
  split at he
  ·rcases List.mem_append.1 he with he|he
   ·exact h e he
   ·rw[List.mem_singleton.1 he]
  ·exact h e he
theorem aj6 (c:Bt) (f:Int) (k:B5):∀e∈locs c f k,e.Kind=4:=atx _ _ _ _ fun _ h=>by cases h
theorem ar9 {c:Bt} {f:Int} {k:B5} (h:decl k=false):(locs c f k).length+1<=fi k:=by
 unfold locs
 rw[asd,List.foldl_cons]
 have e:locG (kh c k.Text) f [] k=[]:=by
  unfold locG
  rw[if_neg (by rw[h];simp)]
 have:=ajy (kh c k.Text) f (flatL k.Kids) []
 rw[e,jk k]
 rw[afo]at this
 simp only[List.length_nil]at this
 omega
theorem am7 :∀(r:List B5) (ps:List Bt),(r.foldl parG ps).length<=ps.length+r.length
 | [],l=>by simp
 |x::r,l=>by
  have:=am7 r (parG l x)
  have h2:(parG l x).length<=l.length+1:=by
   unfold parG
   split<;>simp
  simp only[List.foldl_cons,List.length_cons]
  omega
theorem at3 {κ β:Type} [DecidableEq κ] (k j:κ) (z v:β):∀m:GMap κ β,gget k z (gset j v m)=if j=k then v else gget k z m
  | []=>by
    unfold gset gget
    split<;>rfl
  | (a, b) :: m => by
    unfold gset
    by_cases ha:a=j
    · rw[if_pos ha]
      unfold gget
      subst ha
      split<;>rfl
    · rw[if_neg ha]
      unfold gget
      by_cases hk:a=k
      · subst hk
        rw[if_pos rfl,if_pos rfl,if_neg (fun e=>ha e.symm)]
      · rw[if_neg hk,if_neg hk,at3 k j z v m]
def Kn (known:GMap B0 Bool) (l:List A9):Prop:=∀k:B0,k.kind≠4->gget k false known=l.any fun x=>x.Kind==k.kind&&x.Owner==k.owner&&x.Name==k.name
theorem Kn.nil:Kn [] []:=fun _ _=>rfl
theorem Kn.put {known:GMap B0 Bool} {l:List A9} (h:Kn known l) (e:A9):Kn (gset (B0.mk e.Kind e.Owner e.Name) true known) (l++[e]):=fun k hk=>by
 rw[at3,h k hk,List.any_append]
 obtain⟨k1,k2,k3⟩:=k
 by_cases he:B0.mk e.Kind e.Owner e.Name=B0.mk k1 k2 k3
 ·rw[if_pos he]
  injection he with a1 a2 a3
  simp[a1,a2,a3]
 ·rw[if_neg he]
  have:(e.Kind==k1&&e.Owner==k2&&e.Name==k3)=false:=by
   rw[Bool.eq_false_iff]
   intro h
   rw[Bool.and_eq_true,Bool.and_eq_true]at h
   obtain⟨⟨a1,a2⟩,a3⟩:=h
   exact he (by rw[show e.Kind=k1 by simpa using a1,show e.Owner=k2 by simpa using a2,show e.Name=k3 by simpa using a3])
  simp[this]
theorem Kn.locals {known:GMap B0 Bool} {l m:List A9} (h:Kn known l) (hm:∀e∈m,e.Kind=4):Kn known (l++m):=fun k hk=>by
 rw[h k hk,List.any_append]
 have:(m.any fun x=>x.Kind==k.kind&&x.Owner==k.owner&&x.Name==k.name)=false:=by
  rw[List.any_eq_false]
  intro e he h
  rw[Bool.and_eq_true,Bool.and_eq_true]at h
  have:=hm e he
  have:e.Kind=k.kind:=by simpa using h.1.1
  omega
 rw[this,Bool.or_false]
theorem ayb {t:B4} {e:A9} (hk:Kn t.known t.l) (h4:e.Kind≠4) (hl:t.l.length<=1000000000):
  nl e t=some (if dup t.l e=true then(false,B4.mk t.l t.known (B3.mk 150 e.File e.At))else(true,B4.mk (t.l++[e]) (gset (B0.mk e.Kind e.Owner e.Name) true t.known) t.m)):=by
 unfold nl s5 s6 s7 og
 rw[hk _ h4,nz so so]
 have:dup t.l e=t.l.any fun x=>x.Kind==e.Kind&&x.Owner==e.Owner&&x.Name==e.Name:=by
  unfold dup
  have:(e.Kind != 4)=true:=by simpa using h4
  rw[this,Bool.true_and]
  rfl
 rw[this]
 split<;>rfl
theorem a02 {x:B5} {l:List A9} {e:A9} (he:e.Id.length<=1000000000) (hl:l.length<=1000000000):mj x l e=some (l++[A9.mk 4 (ag3 e.Id l.length) x.Text e.Id x.Type_ false [] e.File x.At],e):=by
 unfold mj
 rw[aje he hl,Option.bind_some,nz so so]
 rfl
abbrev TabP' (l':List A9) (t:B4):Prop:=t.l=l'/\Kn t.known l'
abbrev MP (f:Int):List A9 ⊕ Bad->Bool × B4->Prop
 | .inl l,r=>r.1=true/\TabP' l r.2
 | .inr e,r=>r.1=false/\r.2.m=mist f e
theorem aig (c n:Bt):(kh c n).length=c.length+n.length+3:=by unfold kh;simp;omega
theorem azr {c:Bt} {f:Int} {k:B5} {t:B4} {e:A9} (he:e=A9.mk 2 e.Id k.Text c k.Type_ (k.N==1) [] f k.At) (hk:k.Kind=3) (hn:fi k<=1000000) (hc:c.length+k.Text.length<=100000000) (hK:Kn t.known t.l) (hl:t.l.length<=100000000):
    Ok (MP f (memX c f t.l k)) (ot k t e):=by
  have hs:=jk k
  have hkl:=ke k.Kids
  have hm:=aig c k.Text
  have hd:decl k=false:=by unfold decl;simp[hk]
  have hll:=ar9 (c:=c) (f:=f) hd
  unfold ot
  rw[he]
  dsimp only
  rw[adn om,Option.bind_some,avw hn,Option.bind_some]
  have hf:=ahh k
  obtain⟨o,e1,rfl⟩:=rowK (l:=zh k) (f:=fun s:Int × Int × Bt × Bt × Bt × Bt × Bool × Int × Int × List Bt × List A9=>ix (zh k) s.1 s.2.1 s.2.2.1 s.2.2.2.1 s.2.2.2.2.1 s.2.2.2.2.2.1 s.2.2.2.2.2.2.1 s.2.2.2.2.2.2.2.1 s.2.2.2.2.2.2.2.2.1 s.2.2.2.2.2.2.2.2.2.1 s.2.2.2.2.2.2.2.2.2.2)
    (fun i s=>s=((i:Int),3,kh c k.Text,k.Text,c,k.Type_,(k.N==1),f,k.At,[],((zh k).take i).foldl (locG (kh c k.Text) f) [])) (fun o=>o=([],3,kh c k.Text,k.Text,c,k.Type_,(k.N==1),f,k.At,locs c f k)) (fun i x s hx h=>by
      subst h
      have hi:=mi hx
      have hlen:=ajy (kh c k.Text) f ((zh k).take i) []
      rw[List.length_take,List.length_nil]at hlen
      dsimp only
      unfold ix
      rw[if_pos (gn hx),dw hx,Option.bind_some]
      have f8:Ok (fun z=>∃s',z= .inl s'/\s'=(((i+1:Nat):Int),(3:Int),kh c k.Text,k.Text,c,k.Type_,(k.N==1),f,k.At,([]:List Bt),((zh k).take (i+1)).foldl (locG (kh c k.Text) f) [])) (jx x (((zh k).take i).foldl (locG (kh c k.Text) f) []) 3 (kh c k.Text) k.Text c k.Type_ (k.N==1) [] f k.At i (decl x)):=by
        unfold jx lm
        rw[a02 (by simp only;omega) om,Option.bind_some,abv om,aih _ _ hx]
        unfold locG
        cases decl x
        · rw[if_neg sm,if_neg sm]
          exact .mk ⟨_,rfl,rfl⟩
        · rw[if_pos rfl,if_pos rfl]
          exact .mk ⟨_,rfl,rfl⟩
      have e:decl x=((x.Kind==4)||(x.Kind==6)):=rfl
      rw[e]at f8
      cases h4:(x.Kind==4)
      · rw[h4,Bool.false_or]at f8;rw[if_neg sm];exact f8
      · rw[h4,Bool.true_or]at f8;rw[if_pos rfl];exact f8) (fun s h=>by
      subst h
      dsimp only
      unfold ix
      rw[if_neg (gw (Nat.le_refl _))]
      exact .mk ⟨_,rfl,by rw[List.take_length];rfl⟩) (0,3,kh c k.Text,k.Text,c,k.Type_,(k.N==1),f,k.At,[],[]) rfl
  refine .bd ⟨_,e1,rfl⟩ fun o ho=>?_
  subst ho
  dsimp only
  unfold o5
  obtain⟨o,e2,rfl⟩:=rowK (l:=k.Kids) (f:=fun s:Int × List Bt=>iy k s.1 s.2) (fun i s=>s=((i:Int),(k.Kids.take i).foldl parG [])) (fun o=>o=pars k) (fun i x s hx h=>by
      subst h
      have hi:=mi hx
      have hlen:=am7 (k.Kids.take i) []
      rw[List.length_take,List.length_nil]at hlen
      dsimp only
      unfold iy ln
      rw[if_pos (gn hx),dw hx,Option.bind_some,nz so so,Option.bind_some,abv om,aih _ _ hx]
      unfold parG
      refine .cond (fun h=>?_) fun h=>?_
      · rw[if_pos h];exact .mk ⟨_,rfl,rfl⟩
      · rw[if_neg (by rw[h];simp)];exact .mk ⟨_,rfl,rfl⟩) (fun s h=>by
      subst h
      dsimp only
      unfold iy
      rw[if_neg (gw (Nat.le_refl _))]
      exact .mk ⟨_,rfl,by rw[List.take_length];rfl⟩) (0,[]) rfl
  refine .bd ⟨_,e2,rfl⟩ fun o ho=>?_
  subst ho
  unfold o6 o7 memX
  rw[ayb hK sm om,Option.bind_some,if_neg (by simp[hk]),if_pos (by simp[hk])]
  have ee:A9.mk 3 (kh c k.Text) k.Text c k.Type_ (k.N==1) (pars k) f k.At=aip c f k:=rfl
  rw[ee]
  by_cases hdup:dup t.l (aip c f k)=true
  · rw[if_pos hdup,if_pos hdup]
    exact .mk ⟨rfl,rfl⟩
  · rw[if_neg hdup,if_neg hdup]
    dsimp only
    rw[if_neg sm,nz so so,Option.bind_some]
    unfold ajo
    rw[a0j 1048576 k [] [] om hn (fun _=>rfl),Option.bind_some]
    have hK2:=(hK.put (aip c f k)).locals (aj6 c f k)
    rw[List.append_assoc]at hK2
    cases agnN [] k with
    |some x=>
      dsimp only
      rw[if_pos rfl]
      unfold og
      exact .mk ⟨rfl,rfl⟩
    |none=>
      dsimp only
      rw[if_neg sm,List.append_assoc]
      exact .mk ⟨rfl,rfl,hK2⟩
end Go.Proofs.YtcndghapmoaidaaGreatDoor
set_option linter.unusedSectionVars false
set_option linter.unusedVariables false
set_option linter.unusedSimpArgs false
set_option maxRecDepth 100000
set_option maxHeartbeats 4000000
namespace Go.Proofs.YtcndghapmoaidaaGreatDoor
open Go Go.Cn
variable [Glob]
theorem xr {l:List B5} {i:Nat} {x:B5} (h:l[i]? =some x):i<=bz (l.take i)/\i<l.length/\l.length<=bz l:=by
 have h1:=ke (l.take i)
 have h2:=mi h
 rw[List.length_take]at h1
 exact⟨by omega,h2,ke l⟩
theorem awo {c:Bt} {f:Int} {l l':List A9} {k:B5} (h:memX c f l k= .inl l'):l'.length<=l.length+fi k:=by
  unfold memX at h
  have hp:=ng k
  split at h
  · split at h
    · cases h
    · cases h;simp;omega
  · split at h
    · rename_i h3
      split at h
      · cases h
      · split at h
        · cases h
        · cases h
          have hd : decl k = false := by unfold decl; have : k.Kind = 3 := by simpa using h3
                                         simp[this]
          have:=ar9 (c:=c) (f:=f) hd
          simp
          omega
    · cases h;omega
theorem a1i {f:Int} {c:B5} {t:B4} (hn:fi c<=1000000) (hc:okB 1500 c) (hK:Kn t.known t.l) (hl:t.l.length<=10000000):Ok (MP f (clsX f t.l c)) (qo f c t):=by
  have hs:=jk c
  rw[adw]at hc
  unfold qo tj
  rw[Option.bind_some]
  have ee:A9.mk 1 c.Text c.Text [] c.Type_ false [] f c.At=si f c:=rfl
  rw[ee,ayb hK (by unfold si;simp) om,Option.bind_some]
  unfold clsX
  by_cases hd:dup t.l (si f c)=true
  · rw[if_pos hd,if_pos hd]
    dsimp only
    unfold ml
    rw[if_pos (by rfl)]
    exact .mk ⟨rfl,rfl⟩
  · rw[if_neg hd,if_neg hd]
    dsimp only
    unfold ml
    rw[if_neg sm]
    dsimp only
    obtain⟨o,e1,ho⟩:=rowM (l:=c.Kids) (f:=fun s:Int × B3 × GMap B0 Bool × List A9=>ja c f s.1 s.2.1 s.2.2.1 s.2.2.2) (fun _ l k=>memX c.Text f l k)
      (fun i s l=>s.1=(i:Int)/\s.2.2.2=l/\Kn s.2.2.1 l/\l.length<=t.l.length+1+bz (c.Kids.take i)) (fun o l=>∃m known,o= .next (m,l,known)/\Kn known l) (fun o e=>∃t,o= .done (false,t)/\t.m=mist f e) (fun i k s l hk h=>by
        obtain⟨_,m,known,_⟩:=s
        obtain⟨rfl,rfl,hKn,hlen⟩:=h
        dsimp only at hKn hlen ⊢
        rename_i l
        have hi:=xr hk
        have hz:=ni hk
        have hkB:=aab hc.2 (kw hk)
        rw[adw]at hkB
        have nx:∀(m':B3) (known':GMap B0 Bool) (l':List A9),memX c.Text f l k= .inl l'->Kn known' l'->Ok (Step (fun s l=>s.1=((i+1:Nat):Int)/\s.2.2.2=l/\Kn s.2.2.1 l/\l.length<=t.l.length+1+bz (c.Kids.take (i+1))) (fun o e=>∃t,o= .done (false,t)/\t.m=mist f e) (memX c.Text f l k)) (jc i false m' known' l'):=fun m' known' l' h1 h2=>by
          have:=awo h1
          unfold jc
          rw[if_neg sm,abv om,h1]
          exact .mk ⟨_,rfl,rfl,rfl,h2,by omega⟩
        unfold ja tj
        rw[if_pos (gn hk),dw hk,Option.bind_some,afc om,Option.bind_some,Option.bind_some]
        unfold pw
        have ef:A9.mk 2 (ag8 c.Text k.Text) k.Text c.Text k.Type_ (k.N==1) [] f k.At=xq c.Text f k:=rfl
        rw[ef]
        refine .cond (fun h2=>?_) fun h2=>?_
        · rw[ayb hKn (by unfold xq;simp) (by simp only;omega),Option.bind_some]
          have em:memX c.Text f l k=if dup l (xq c.Text f k)=true then .inr (.inl (xq c.Text f k))else .inl (l++[xq c.Text f k]):=by
            unfold memX
            rw[if_pos h2]
          by_cases hd2:dup l (xq c.Text f k)=true
          · rw[if_pos hd2]
            dsimp only
            unfold jb
            rw[if_pos (by rfl),em,if_pos hd2]
            exact .mk ⟨_,rfl,_,rfl,rfl⟩
          · rw[if_neg hd2]
            dsimp only
            unfold jb
            have h3:(k.Kind==3)=false:=by
              have:k.Kind=2:=by simpa using h2
              simp[this]
            rw[if_neg sm,if_neg (by rw[h3];simp)]
            exact nx _ _ _ (by rw[em,if_neg hd2]) (hKn.put _)
        · unfold jb
          rw[if_neg sm]
          refine .cond (fun h3=>?_) fun h3=>?_
          · refine .bd (azr (f:=f) (c:=c.Text) (k:=k) (t:=B4.mk l known m) (e:=xq c.Text f k) rfl (by simpa using h3) om om hKn (by simp only;omega)) ?_
            rintro⟨b,t'⟩ hb
            dsimp only at hb ⊢
            cases hx:memX c.Text f l k with
            |inl l'=>
              rw[hx]at hb
              obtain⟨h1,h2,h4⟩:=hb
              dsimp only at h1 h2 h4
              subst h1 h2
              have:=nx t'.m t'.known t'.l hx h4
              rw[hx]at this
              exact this
            |inr e=>
              rw[hx]at hb
              obtain⟨h1,h2⟩:=hb
              dsimp only at h1 h2
              subst h1
              unfold jc
              rw[if_pos (by rfl)]
              exact .mk ⟨_,rfl,_,rfl,h2⟩
          · refine nx m known l ?_ hKn
            unfold memX
            rw[if_neg (by rw[h2];simp),if_neg (by rw[h3];simp)]) (fun s l h=>by
        obtain⟨_,m,known,_⟩:=s
        obtain⟨rfl,rfl,hKn,hlen⟩:=h
        dsimp only
        unfold ja
        rw[if_neg (gw (Nat.le_refl _))]
        exact .mk ⟨_,rfl,_,_,rfl,hKn⟩) c.Kids 0 (0,t.m,gset (B0.mk (si f c).Kind (si f c).Owner (si f c).Name) true t.known,t.l++[si f c]) (t.l++[si f c]) rfl (Nat.zero_le _) ⟨rfl,rfl,hK.put _,by simp[bz]⟩
    refine .bd ⟨o,e1,ho⟩ fun o ho=>?_
    revert ho
    cases rowF (fun _ l k=>memX c.Text f l k) 0 c.Kids (t.l++[si f c])with
    |inl l=>
      rintro⟨m,known,rfl,hKn⟩
      exact .mk ⟨rfl,rfl,hKn⟩
    |inr e=>
      rintro⟨t,rfl,h⟩
      exact .mk ⟨rfl,h⟩
theorem awy {f:Int} {l l':List A9} {c:B5} (h:clsX f l c= .inl l'):l'.length<=l.length+fi c:=by
 unfold clsX at h
 split at h
 ·cases h
 ·have key:∀(r:List B5) (i:Nat) (l l':List A9),rowF (fun _ l k=>memX c.Text f l k) i r l= .inl l'->l'.length<=l.length+bz r:=by
   intro r
   induction r with
   |nil=>intro i l l' h;cases h;simp[bz]
   |cons x r ih=>
    intro i l l' h
    unfold rowF at h
    cases hx:memX c.Text f l x with
    |inl l2=>
     rw[hx]at h
     have:=ih _ _ _ h
     have:=awo hx
     simp only[bz]
     omega
    |inr e=>rw[hx]at h;cases h
  have:=key _ _ _ _ h
  rw[jk c]
  simp at this
  omega
theorem awf {f:Int} {l l':List A9} {c:B5} (h:tabC f l c= .inl l'):l'.length<=l.length+fi c:=by
 unfold tabC at h
 split at h
 ·split at h
  ·rename_i h2
   cases h
   exact awy h2
  ·cases h
 ·cases h;omega
theorem aqg {files:List (List B5)} (h6:files.length<=6) (hF:∀l∈files,apr 1500 l):adf files=some (tabR (tab files)):=by
  unfold adf
  obtain⟨o,e1,ho⟩:=rowM (l:=files) (f:=fun s:Int × GMap B0 Bool × B3 × List A9=>m0 files s.1 s.2.1 s.2.2.1 s.2.2.2) (fun f l file=>rowF (fun _ l c=>tabC f l c) 0 file l)
    (fun i s l=>s.1=(i:Int)/\s.2.2.2=l/\Kn s.2.1 l/\l.length<=1500 * i) (fun o l=>∃known m,o= .next (known,m,l)) (fun o e=>o= .done ([],e)) (fun i file s l hf h=>by
      obtain⟨_,known,m,_⟩:=s
      obtain⟨rfl,rfl,hKn,hlen⟩:=h
      dsimp only at hKn hlen ⊢
      rename_i l0
      have hi:=mi hf
      obtain⟨hB,hN,_⟩:=hF _ (kw hf)
      unfold m0
      rw[if_pos (gn hf),dw hf,Option.bind_some]
      obtain⟨o,e1,ho⟩:=rowM (l:=file) (f:=fun s:Int × GMap B0 Bool × B3 × List A9=>pn file i s.1 s.2.1 s.2.2.1 s.2.2.2) (fun _ l c=>tabC (i:Int) l c)
        (fun j s l=>s.1=(j:Int)/\s.2.2.2=l/\Kn s.2.1 l/\l.length<=l0.length+bz (file.take j)) (fun o l=>∃known m,o= .next (known,m,l)/\Kn known l/\l.length<=l0.length+bz file) (fun o e=>o= .done (.inr (.done ([],e)))) (fun j c s l hc h=>by
          obtain⟨_,known,m,_⟩:=s
          obtain⟨rfl,rfl,hKn,hlen⟩:=h
          dsimp only at hKn hlen ⊢
          rename_i l
          have hj:=xr hc
          have hz:=ni hc
          have hcB:=aab hB (kw hc)
          unfold pn
          rw[if_pos (gn hc),dw hc,Option.bind_some]
          have nx:∀(m':B3) (known':GMap B0 Bool) (l':List A9),tabC i l c= .inl l'->Kn known' l'->Ok (Step (fun s l=>s.1=((j+1:Nat):Int)/\s.2.2.2=l/\Kn s.2.1 l/\l.length<=l0.length+bz (file.take (j+1))) (fun o e=>o= .done (.inr (.done ([],e)))) (tabC i l c)) (po j false m' known' l'):=fun m' known' l' h1 h2=>by
            have:=awf h1
            unfold po
            rw[if_neg sm,abv om,h1]
            exact .mk ⟨_,rfl,rfl,rfl,h2,by omega⟩
          refine .cond (fun h1=>?_) fun h1=>?_
          · refine .bd (a1i (f:=i) (c:=c) (t:=B4.mk l known m) om hcB hKn (by simp only;omega)) ?_
            rintro⟨b,t'⟩ hb
            dsimp only at hb ⊢
            have et:tabC i l c=match clsX i l c with| .inl l'=> .inl l'| .inr e=> .inr (mist i e):=by
              unfold tabC
              rw[if_pos h1]
              try (cases clsX i l c<;>rfl)
            cases hx:clsX i l c with
            |inl l'=>
              rw[hx]at hb et
              obtain⟨h1,h2,h4⟩:=hb
              dsimp only at h1 h2 h4 et
              subst h1 h2
              exact nx t'.m t'.known t'.l et h4
            |inr e=>
              rw[hx]at hb et
              obtain⟨h1,h2⟩:=hb
              dsimp only at h1 h2 et
              subst h1
              unfold po aa8
              rw[if_pos (by rfl),et,h2]
              exact .mk ⟨_,rfl,rfl⟩
          · refine nx m known l ?_ hKn
            unfold tabC
            rw[if_neg (by rw[h1];simp)]) (fun s l h=>by
          obtain⟨_,known,m,_⟩:=s
          obtain⟨rfl,rfl,hKn,hlen⟩:=h
          rw[List.take_length]at hlen
          dsimp only
          unfold pn
          rw[if_neg (gw (Nat.le_refl _))]
          exact .mk ⟨_,rfl,_,_,rfl,hKn,hlen⟩) file 0 (0,known,m,l0) l0 rfl (Nat.zero_le _) ⟨rfl,rfl,hKn,by omega⟩
      refine .bd ⟨o,e1,ho⟩ fun o ho=>?_
      revert ho
      cases rowF (fun _ l c=>tabC (i:Int) l c) 0 file l0 with
      |inl l=>
        rintro⟨known,m,rfl,hKn,hl⟩
        dsimp only
        unfold aa7
        rw[abv om]
        exact .mk ⟨_,rfl,rfl,rfl,hKn,by omega⟩
      |inr e=>
        rintro rfl
        exact .mk ⟨_,rfl,rfl⟩) (fun s l h=>by
      obtain⟨_,known,m,_⟩:=s
      obtain⟨rfl,rfl,hKn,hlen⟩:=h
      dsimp only
      unfold m0
      rw[if_neg (gw (Nat.le_refl _))]
      exact .mk ⟨_,rfl,_,_,rfl⟩) files 0 (0,([]:GMap B0 Bool),(B3.mk 0 0 0),[]) [] rfl (Nat.zero_le _) ⟨rfl,rfl,Kn.nil,Nat.le_refl _⟩
  have e':iter (fun s=>m0 files s.1 s.2.1 s.2.2.1 s.2.2.2) (0,([]:GMap B0 Bool),(B3.mk 0 0 0),[])=some o:=e1
  rw[e',Option.bind_some]
  unfold tab
  revert ho
  cases rowF (fun(f:Nat) (l:List A9) (file:List B5)=>rowF (fun _ l c=>tabC f l c) 0 file l) 0 files []with
  |inl l=>rintro⟨known,m,rfl⟩;rfl
  |inr e=>rintro rfl;rfl
end Go.Proofs.YtcndghapmoaidaaGreatDoor
set_option linter.unusedSectionVars false
set_option linter.unusedVariables false
set_option linter.unusedSimpArgs false
set_option maxRecDepth 100000
set_option maxHeartbeats 4000000
namespace Go.Proofs.YtcndghapmoaidaaGreatDoor
open Go Go.Cn
variable [Glob]
def twF (pre:List A9):List A9->Option A9
 | []=>none
 |x::r=>if dup pre x=true then some x else twF (pre++[x]) r
theorem aro :∀(l:List A9) (pre m:List A9),twF pre (l++m)=match twF pre l with|some e=>some e|none=>twF (pre++l) m
 | [],pre,m=>by simp[twF]
 |x::l,pre,m=>by
  show(if dup pre x=true then some x else twF (pre++[x]) (l++m))=match (if dup pre x=true then some x else twF (pre++[x]) l)with|some e=>some e|none=>twF (pre++x::l) m
  by_cases h:dup pre x=true
  ·rw[if_pos h,if_pos h]
  ·rw[if_neg h,if_neg h,aro l (pre++[x]) m]
   cases twF (pre++[x]) l<;>simp
theorem alt :∀(m pre:List A9),(∀e∈m,e.Kind=4)->twF pre m=none
 | [],_,_=>rfl
 |x::m,pre,h=>by
  unfold twF
  have:dup pre x=false:=by
   unfold dup
   simp[h x List.mem_cons_self]
  rw[this,if_neg sm]
  exact alt m _ fun e he=>h e (List.mem_cons_of_mem _ he)
theorem ayl {l m:List A9} {e:A9} (h:twF [] l=some e):twF [] (l++m)=some e:=by rw[aro,h]
theorem anr {l m:List A9} (h:twF [] l=none):twF [] (l++m)=twF l m:=by rw[aro,h];rfl
theorem als {l:List A9} (hl:l.length<=1000000000):∃t:Int,zs l=some t/\((t= -1/\twF [] l=none)\/∃(i:Nat) (e:A9),t=i/\l[i]? =some e/\twF [] l=some e):=by
 unfold zs aak
 obtain⟨o,e1,ho⟩:=rowM (l:=l) (f:=fun s:Int=>mu l s) (γ:=Nat × A9) (fun i (_:Unit) x=>if dup (l.take i) x=true then .inr (i,x)else .inl ()) (fun i s _=>s=(i:Int)) (fun o _=>o= .next ()) (fun o p=>o= .done (p.1:Int)/\l[p.1]? =some p.2) (fun i x s _ hx h=>by
  subst h
  have hi:=mi hx
  unfold mu aaj
  rw[if_pos (gn hx)]
  have hs:=ir (l:=l.take i) (f:=fun s=>pb i l s) (fun y=>x.Kind != 4&&ata x y) (fun _ _=>(.inr (.done (i:Int)):(Int) ⊕ (Flow Unit Int))) (by rw[List.length_take];omega) (fun q y hy=>by
   have hq:q<i:=by
    have:=mi hy
    rw[List.length_take]at this
    omega
   have hy':l[q]? =some y:=by rwa [List.getElem?_take_of_lt hq]at hy
   unfold pb pd ata
   rw[if_pos (by simpa using hq),dw hx,dw hy']
   simp only[Option.bind_some]
   have c1:(x.Kind==y.Kind)=(y.Kind==x.Kind):=by rw[Bool.eq_iff_iff];simp;exact⟨Eq.symm,Eq.symm⟩
   have c2:(x.Owner==y.Owner)=(y.Owner==x.Owner):=by rw[Bool.eq_iff_iff];simp;exact⟨Eq.symm,Eq.symm⟩
   have c3:(x.Name==y.Name)=(y.Name==x.Name):=by rw[Bool.eq_iff_iff];simp;exact⟨Eq.symm,Eq.symm⟩
   rw[c1,c2,c3]
   cases (x.Kind != 4)<;>cases (y.Kind==x.Kind)<;>cases (y.Owner==x.Owner)<;>cases (y.Name==x.Name)<;>rfl) (fun q hq=>by
   rw[List.length_take]at hq
   unfold pb
   rw[if_neg so]) (l.take i) 0 rfl
  rw[show((0:Nat):Int)=0 from rfl,alv]at hs
  rw[hs,Option.bind_some]
  have ed:((l.take i).any fun y=>x.Kind != 4&&ata x y)=dup (l.take i) x:=by
   unfold dup
   cases (x.Kind != 4)<;>simp
  rw[ed]
  by_cases hd:dup (l.take i) x=true
  ·rw[if_pos hd,if_pos hd]
   exact .mk ⟨_,rfl,rfl,hx⟩
  ·rw[if_neg hd,if_neg hd]
   dsimp only
   rw[abv om]
   exact .mk ⟨_,rfl,rfl⟩) (fun s _ h=>by
  subst h
  unfold mu
  rw[if_neg (gw (Nat.le_refl _))]
  exact .mk ⟨_,rfl,rfl⟩) l 0 0 () rfl (Nat.zero_le _) rfl
 have e':iter (fun s=>mu l s) 0=some o:=e1
 rw[e',Option.bind_some]
 have key:∀(r:List A9) (i:Nat),l.drop i=r->match rowF (γ:=Nat × A9) (fun i (_:Unit) x=>if dup (l.take i) x=true then .inr (i,x)else .inl ()) i r ()with| .inl _=>twF (l.take i) r=none| .inr p=>twF (l.take i) r=some p.2:=by
  intro r
  induction r with
  |nil=>intro i _;rfl
  |cons x r ih=>
   intro i h
   have hx:l[i]? =some x:=by
    have:=congrArg (fun z=>z[0]?) h
    simpa using this
   have hr:l.drop (i+1)=r:=by
    have:=congrArg List.tail h
    simpa using this
   have ht:l.take (i+1)=l.take i++[x]:=by
    obtain⟨hi,rfl⟩:=List.getElem?_eq_some_iff.1 hx
    exact List.take_succ_eq_append_getElem hi
   unfold rowF twF
   by_cases hd:dup (l.take i) x=true
   ·rw[if_pos hd,if_pos hd]
   ·rw[if_neg hd,if_neg hd]
    have:=ih (i+1) hr
    rw[ht]at this
    exact this
 have key:=key l 0 rfl
 rw[List.take_zero]at key
 revert ho key
 cases rowF (γ:=Nat × A9) (fun i (_:Unit) x=>if dup (l.take i) x=true then .inr (i,x)else .inl ()) 0 l ()with
 |inl _=>rintro rfl h;exact⟨_,rfl,.inl ⟨rfl,h⟩⟩
 |inr p=>rintro⟨rfl,h1⟩ h;exact⟨_,rfl,.inr ⟨p.1,p.2,rfl,h1,h⟩⟩
theorem aud {c:Bt} {f:Int} {k:B5} (hk:k.Kind=2) (hc:c.length+k.Text.length<=100000000):qy c f k=some [xq c f k]:=by
 unfold qy
 rw[if_pos (by simp[hk]),ajc om]
 rfl
theorem avx {c:Bt} {f:Int} {k:B5} (hk:k.Kind≠2) (hn:fi k<=1000000) (hc:c.length+k.Text.length<=100000000):qy c f k=some (aip c f k::locs c f k):=by
  have hs:=jk k
  have hkl:=ke k.Kids
  have hm:=aig c k.Text
  have hf:=ahh k
  unfold qy
  rw[if_neg (by simpa using hk),adl om,Option.bind_some,aua hn,Option.bind_some]
  obtain⟨o,e1,rfl⟩:=rowK (l:=zh k) (f:=fun s:Int × List A9=>lh (zh k) (kh c k.Text) f s.1 s.2)
    (fun i s=>s=((i:Int),((zh k).take i).foldl (locG (kh c k.Text) f) [])) (fun o=>o=locs c f k) (fun i x s hx h=>by
      subst h
      have hi:=mi hx
      have hlen:=ajy (kh c k.Text) f ((zh k).take i) []
      rw[List.length_take,List.length_nil]at hlen
      dsimp only
      unfold lh
      rw[if_pos (gn hx),dw hx,Option.bind_some]
      have f8:Ok (fun z=>∃s',z= .inl s'/\s'=(((i+1:Nat):Int),((zh k).take (i+1)).foldl (locG (kh c k.Text) f) [])) (qe (kh c k.Text) (((zh k).take i).foldl (locG (kh c k.Text) f) []) x f i (decl x)):=by
        unfold qe tx
        rw[ajb om om,Option.bind_some,nz so so,Option.bind_some,abv om,aih _ _ hx]
        unfold locG
        cases decl x
        · rw[if_neg sm,if_neg sm]
          exact .mk ⟨_,rfl,rfl⟩
        · rw[if_pos rfl,if_pos rfl]
          exact .mk ⟨_,rfl,rfl⟩
      have e:decl x=((x.Kind==4)||(x.Kind==6)):=rfl
      rw[e]at f8
      cases h4:(x.Kind==4)
      · rw[h4,Bool.false_or]at f8;rw[if_neg sm];exact f8
      · rw[h4,Bool.true_or]at f8;rw[if_pos rfl];exact f8) (fun s h=>by
      subst h
      dsimp only
      unfold lh
      rw[if_neg (gw (Nat.le_refl _))]
      exact .mk ⟨_,rfl,by rw[List.take_length];rfl⟩) (0,[]) rfl
  have e1':iter (fun s=>lh (zh k) (kh c k.Text) f s.1 s.2) (0,[])=some (locs c f k):=e1
  rw[e1',Option.bind_some]
  unfold y4 y5
  obtain⟨o,e2,rfl⟩:=rowK (l:=k.Kids) (f:=fun s:Int × List Bt=>li k s.1 s.2) (fun i s=>s=((i:Int),(k.Kids.take i).foldl parG [])) (fun o=>o=pars k) (fun i x s hx h=>by
      subst h
      have hi:=mi hx
      have hlen:=am7 (k.Kids.take i) []
      rw[List.length_take,List.length_nil]at hlen
      dsimp only
      unfold li tz
      rw[if_pos (gn hx),dw hx,Option.bind_some,Option.bind_some,nz so so,Option.bind_some,abv om,aih _ _ hx]
      unfold parG
      refine .cond (fun h=>?_) fun h=>?_
      · rw[if_pos h];exact .mk ⟨_,rfl,rfl⟩
      · rw[if_neg (by rw[h];simp)];exact .mk ⟨_,rfl,rfl⟩) (fun s h=>by
      subst h
      dsimp only
      unfold li
      rw[if_neg (gw (Nat.le_refl _))]
      exact .mk ⟨_,rfl,by rw[List.take_length];rfl⟩) (0,[]) rfl
  have e2':iter (fun s=>li k s.1 s.2) (0,[])=some (pars k):=e2
  have hll:=ajy (kh c k.Text) f (zh k) []
  unfold locs
  rw[e2',Option.bind_some,nz (by simp at hll ⊢;omega) (by simp at hll ⊢;omega)]
  rfl
def refG (c:Bt) (f:Int):List A9 ⊕ A9->B5->(List A9 ⊕ A9) ⊕ B5
 | .inr e,_=> .inl (.inr e)
 | .inl l,k=>match memX c f l k with
  | .inl l'=> .inl (.inl l')
  | .inr (.inl e)=> .inl (.inr e)
  | .inr (.inr x)=> .inr x
theorem an7 (c:Bt) (f:Int) (e:A9):∀(r:List B5) (i:Nat),rowF (fun _ t k=>refG c f t k) i r (.inr e)= .inl (.inr e)
 | [],_=>rfl
 |x::r,i=>by
  unfold rowF
  exact an7 c f e r (i+1)
theorem awi (c:Bt) (f:Int):∀(r:List B5) (i:Nat) (l:List A9),rowF (fun _ t k=>refG c f t k) i r (.inl l)=match rowF (fun _ l k=>memX c f l k) i r l with| .inl l'=> .inl (.inl l')| .inr (.inl e)=> .inl (.inr e)| .inr (.inr x)=> .inr x
 | [],_,_=>rfl
 |x::r,i,l=>by
  unfold rowF
  unfold refG
  dsimp only
  cases memX c f l x with
  |inl l'=>exact awi c f r (i+1) l'
  |inr b=>
   cases b with
   |inl e=>exact an7 c f e r (i+1)
   |inr y=>rfl
def RT (s:List A9):List A9 ⊕ A9->Prop
 | .inl l=>s=l/\twF [] s=none
 | .inr e=>twF [] s=some e
theorem a1x {f:Int} {c:B5} {l0:List A9} {t0:List A9 ⊕ A9} (hn:fi c<=1000000) (hc:okB 1500 c) (h0:RT l0 t0) (hl:l0.length<=10000000):
    Ok (Fin' (fun o t=>∃s,o= .next s/\RT s t/\s.length<=l0.length+bz c.Kids) (fun o x=>o= .done (.inr (.done (.inr (.done ([],B3.mk 150 f x.At)))))) (rowF (fun _ t k=>refG c.Text f t k) 0 c.Kids t0)) (iter (fun s=>lc c f s.1 s.2) (0,l0)):=by
  have hs:=jk c
  rw[adw]at hc
  refine rowM (l:=c.Kids) (f:=fun s:Int × List A9=>lc c f s.1 s.2) (fun _ t k=>refG c.Text f t k) (fun i s t=>s.1=(i:Int)/\RT s.2 t/\s.2.length<=l0.length+bz (c.Kids.take i)) _ _ (fun i k s t hk h=>?_) (fun s t h=>?_) c.Kids 0 (0,l0) t0 rfl (Nat.zero_le _) ⟨rfl,h0,by simp⟩
  · obtain⟨_,s⟩:=s
    obtain⟨rfl,hR,hlen⟩:=h
    dsimp only at hR hlen ⊢
    have hi:=xr hk
    have hz:=ni hk
    have hkB:=aab hc.2 (kw hk)
    rw[adw]at hkB
    have hp:=ng k
    have nx:∀s' t',refG c.Text f t k= .inl t'->RT s' t'->s'.length<=s.length+fi k->Ok (Step (fun s t=>s.1=((i+1:Nat):Int)/\RT s.2 t/\s.2.length<=l0.length+bz (c.Kids.take (i+1))) (fun o x=>o= .done (.inr (.done (.inr (.done ([],B3.mk 150 f x.At)))))) (refG c.Text f t k)) (pg i s' k):=fun s' t' h1 h2 h3=>by
      unfold pg
      rw[abv om,h1]
      exact .mk ⟨_,rfl,rfl,h2,by dsimp only;omega⟩
    unfold lc
    rw[if_pos (gn hk),dw hk,Option.bind_some]
    have j12 : Ok (Step (fun s t => s.1 = ((i + 1 : Nat) : Int) /\ RT s.2 t /\ s.2.length <= l0.length + bz (c.Kids.take (i + 1))) (fun o x => o = .done (.inr (.done (.inr (.done ([], B3.mk 150 f x.At)))))) (refG c.Text f t k)) (qf i s k c f (k.Kind != 2 && k.Kind != 3)) := by
      unfold qf
      refine .cond (fun h=>?_) fun h=>?_
      · rw[Bool.and_eq_true]at h
        have h2:¬(k.Kind==2)=true:=by simpa using h.1
        have h3:¬(k.Kind==3)=true:=by simpa using h.2
        refine nx s t ?_ hR om
        cases t with
        |inr e=>rfl
        |inl l=>
          unfold refG memX
          dsimp only
          rw[if_neg h2,if_neg h3]
      ·
        have hm:∃m,qy c.Text f k=some m/\m.length<=fi k/\(k.Kind=2->m=[xq c.Text f k])/\(k.Kind=3->m=aip c.Text f k::locs c.Text f k)/\(k.Kind=2\/k.Kind=3):=by
          by_cases h2:k.Kind=2
          · exact⟨_,aud h2 om,by simp;omega,fun _=>rfl,fun h=>by omega,.inl h2⟩
          · have h3:k.Kind=3:=by simpa [h2] using h
            have hd:decl k=false:=by unfold decl;simp[h3]
            have:=ar9 (c:=c.Text) (f:=f) hd
            exact⟨_,avx h2 om om,by simp;omega,fun h=>absurd h h2,fun _=>rfl,.inr h3⟩
        obtain⟨m,e1,m1,m2,m3,m4⟩:=hm
        obtain⟨w,e2,hw⟩:=als (l:=s++m) so
        rw[e1,Option.bind_some,nz om om,Option.bind_some,e2,Option.bind_some]
        rcases hw with⟨rfl,hw⟩|⟨q,e,rfl,_,hw⟩
        ·
          rw[if_neg sm]
          have hs0:twF [] s=none:=by
            cases hq:twF [] s with
            |none=>rfl
            |some e=>rw[ayl hq]at hw;cases hw
          cases t with
          |inr e=>rw[show twF [] s=some e from hR]at hs0;cases hs0
          |inl l=>
            obtain⟨rfl,_⟩:s=l/\_:=hR
            obtain⟨o,e3⟩:=a1n 1048576 k [] om so
            have e3':ajk k []=some (match agnN [] k with|some y=>(y,true,o)|none=>(zeroN,false,o)):=e3
            rw[e3',Option.bind_some]
            rw[anr hs0]at hw
            by_cases h2:k.Kind=2
            · rw[m2 h2]at hw ⊢
              have hd:dup s (xq c.Text f k)=false:=by
                unfold twF at hw
                cases hq:dup s (xq c.Text f k)with
                |false=>rfl
                |true=>rw[hq,if_pos rfl]at hw;cases hw
              have er:refG c.Text f (.inl s) k= .inl (.inl (s++[xq c.Text f k])):=by
                unfold refG memX
                dsimp only
                rw[if_pos (by simp[h2]),hd,if_neg sm]
              have:(k.Kind==3)=false:=by simp[h2]
              have g:=nx (s++[xq c.Text f k]) _ er ⟨rfl,by rw[anr hs0];exact hw⟩ so
              cases agnN [] k with
              |some y=>
                dsimp only
                rw[this,if_neg sm]
                unfold lj
                rw[if_neg sm]
                exact g
              |none=>
                dsimp only
                rw[this,if_neg sm]
                unfold lj
                rw[if_neg sm]
                exact g
            · have h3:k.Kind=3:=by omega
              rw[m3 h3]at hw m1 ⊢
              have hd:dup s (aip c.Text f k)=false:=by
                unfold twF at hw
                cases hq:dup s (aip c.Text f k)with
                |false=>rfl
                |true=>rw[hq,if_pos rfl]at hw;cases hw
              have em:memX c.Text f s k=match agnN [] k with|some x=> .inr (.inr x)|none=> .inl (s++aip c.Text f k::locs c.Text f k):=by
                unfold memX
                rw[if_neg (by simp[h3]),if_pos (by simp[h3]),hd,if_neg sm]
                try (cases agnN [] k<;>rfl)
              have ek:(k.Kind==3)=true:=by simp[h3]
              cases hq:agnN [] k with
              |some y=>
                rw[hq]at em
                have er:refG c.Text f (.inl s) k= .inr y:=by
                  unfold refG
                  dsimp only
                  rw[em]
                dsimp only
                rw[if_pos ek]
                unfold lj y6
                rw[if_pos (by rfl),er]
                exact .mk ⟨_,rfl,rfl⟩
              |none=>
                rw[hq]at em
                have er:refG c.Text f (.inl s) k= .inl (.inl (s++aip c.Text f k::locs c.Text f k)):=by
                  unfold refG
                  dsimp only
                  rw[em]
                dsimp only
                rw[if_pos ek]
                unfold lj
                rw[if_neg sm]
                exact nx _ _ er ⟨rfl,by rw[anr hs0];exact hw⟩ (by rw[List.length_append];omega)
        ·
          rw[if_pos sm]
          have:∃t',refG c.Text f t k= .inl t'/\RT (s++m) t':=by
            cases t with
            |inr e'=>exact⟨.inr e',rfl,ayl hR⟩
            |inl l=>
              obtain⟨rfl,hs0⟩:s=l/\_:=hR
              refine⟨.inr e,?_,hw⟩
              rw[anr hs0]at hw
              rcases m4 with h2|h3
              · rw[m2 h2]at hw
                unfold twF at hw
                by_cases hd:dup s (xq c.Text f k)=true
                · rw[if_pos hd]at hw
                  cases hw
                  unfold refG memX
                  dsimp only
                  rw[if_pos (by simp[h2]),hd,if_pos rfl]
                · rw[if_neg hd]at hw
                  cases hw
              · rw[m3 h3]at hw
                unfold twF at hw
                by_cases hd:dup s (aip c.Text f k)=true
                · rw[if_pos hd]at hw
                  cases hw
                  unfold refG memX
                  dsimp only
                  rw[if_neg (by simp[h3]),if_pos (by simp[h3]),hd,if_pos rfl]
                · rw[if_neg hd,alt _ _ (aj6 _ _ _)]at hw
                  cases hw
          obtain⟨t',h1,h2⟩:=this
          exact nx _ t' h1 h2 so
    cases h2:(k.Kind != 2)
    · rw[h2,Bool.false_and]at j12;rw[if_neg sm];exact j12
    · rw[h2,Bool.true_and]at j12;rw[if_pos rfl];exact j12
  · obtain⟨_,s⟩:=s
    obtain⟨rfl,hR,hlen⟩:=h
    rw[List.take_length]at hlen
    dsimp only
    unfold lc
    rw[if_neg (gw (Nat.le_refl _))]
    exact .mk ⟨_,rfl,_,rfl,hR,hlen⟩
end Go.Proofs.YtcndghapmoaidaaGreatDoor
set_option linter.unusedSectionVars false
set_option linter.unusedVariables false
set_option linter.unusedSimpArgs false
set_option maxRecDepth 100000
set_option maxHeartbeats 4000000
namespace Go.Proofs.YtcndghapmoaidaaGreatDoor
open Go Go.Cn
variable [Glob]
theorem class15 {f:Int} {c:B5} {l:List A9} (hn:fi c<=1000000) (hc:okB 1500 c) (h0:twF [] l=none) (hl:l.length<=1000000) (j:Int):
  Ok (fun z=>match clsX f l c with
   | .inl l'=>z= .inl (w64 (j+1),l')/\twF [] l'=none
   | .inr e=>z= .inr (.done (.inr (.done ([],mist f e))))) ((app 120 l ([A9.mk 1 c.Text c.Text [] c.Type_ false [] f c.At]:List A9)).bind fun x22=>(iter (fun s=>lc c f s.1 s.2) (0,x22)).bind fun z=>match z with| .next p=>mx j c p| .done r=>some r):=by
 have ee:A9.mk 1 c.Text c.Text [] c.Type_ false [] f c.At=si f c:=rfl
 have hs:=jk c
 rw[ee,nz so so,Option.bind_some]
 have bad:∀(s:List A9) (e:A9),twF [] s=some e->s.length<=100000000->mx j c s=some (.inr (.done (.inr (.done ([],mist f (.inl e)))))):=fun s e h hl=>by
  obtain⟨w,e2,hw⟩:=als (l:=s) om
  unfold mx aao
  rw[e2,Option.bind_some]
  rcases hw with⟨_,hw⟩|⟨q,e',rfl,hq,hw⟩
  ·rw[h]at hw;cases hw
  ·rw[h]at hw
   cases hw
   rw[if_pos sm,dw hq]
   rfl
 have good:∀(s:List A9),twF [] s=none->s.length<=100000000->mx j c s=some (.inl (w64 (j+1),s)):=fun s h hl=>by
  obtain⟨w,e2,hw⟩:=als (l:=s) om
  unfold mx r9
  rw[e2,Option.bind_some]
  rcases hw with⟨rfl,hw⟩|⟨q,e',rfl,hq,hw⟩
  ·rw[if_neg sm]
  ·rw[h]at hw;cases hw
 have e1:twF [] (l++[si f c])=if dup l (si f c)=true then some (si f c)else none:=by
  rw[anr h0]
  unfold twF twF
  rfl
 unfold clsX
 by_cases hd:dup l (si f c)=true
 ·rw[if_pos hd]at e1
  refine .bd (a1x (t0:= .inr (si f c)) hn hc e1 so) fun o ho=>?_
  rw[an7]at ho
  obtain⟨s,rfl,hR,hlen⟩:=ho
  rw[if_pos hd]
  dsimp only
  rw[bad s _ hR (by simp at hlen;omega)]
  exact .mk rfl
 ·rw[if_neg hd]at e1
  refine .bd (a1x (t0:= .inl (l++[si f c])) hn hc ⟨rfl,e1⟩ so) fun o ho=>?_
  rw[awi]at ho
  rw[if_neg hd]
  revert ho
  cases rowF (fun _ l k=>memX c.Text f l k) 0 c.Kids (l++[si f c])with
  |inl l'=>
   rintro⟨s,rfl,⟨rfl,hR⟩,hlen⟩
   dsimp only
   rw[good s hR (by simp at hlen;omega)]
   exact .mk ⟨rfl,hR⟩
  |inr b=>
   cases b with
   |inl e=>
    rintro⟨s,rfl,hR,hlen⟩
    dsimp only
    rw[bad s e hR (by simp at hlen;omega)]
    exact .mk rfl
   |inr x=>
    rintro rfl
    exact .mk rfl
theorem ap2 {files:List (List B5)} (h6:files.length<=6) (hF:∀l∈files,apr 1500 l):zt files=some (tabR (tab files)):=by
  unfold zt
  obtain⟨o,e1,ho⟩:=rowM (l:=files) (f:=fun s:Int × List A9=>mw files s.1 s.2) (fun f l file=>rowF (fun _ l c=>tabC f l c) 0 file l)
    (fun i s l=>s=((i:Int),l)/\twF [] l=none/\l.length<=1500 * i) (fun o l=>o= .next l) (fun o e=>o= .done ([],e)) (fun i file s l0 hf h=>by
      obtain⟨rfl,h0,hlen⟩:=h
      have hi:=mi hf
      obtain⟨hB,hN,_⟩:=hF _ (kw hf)
      dsimp only
      unfold mw
      rw[if_pos (gn hf)]
      obtain⟨o,e1,ho⟩:=rowM (l:=file) (f:=fun s:Int × List A9=>pf files i s.1 s.2) (fun _ l c=>tabC (i:Int) l c)
        (fun j s l=>s=((j:Int),l)/\twF [] l=none/\l.length<=l0.length+bz (file.take j)) (fun o l=>o= .next l/\twF [] l=none/\l.length<=l0.length+bz file) (fun o e=>o= .done (.inr (.done ([],e)))) (fun j c s l hc h=>by
          obtain⟨rfl,h0,hlen⟩:=h
          have hj:=xr hc
          have hz:=ni hc
          have hcB:=aab hB (kw hc)
          dsimp only
          unfold pf
          rw[dw hf,Option.bind_some,if_pos (gn hc),Option.bind_some,dw hc,Option.bind_some]
          unfold tabC
          by_cases h1:c.Kind=1
          · rw[if_neg (show ¬(c.Kind != 1)=true by simp[h1]),if_pos (show(c.Kind==1)=true by simp[h1])]
            obtain⟨z,e2,hz2⟩:=class15 (f:=(i:Int)) (c:=c) (l:=l) om hcB h0 om (j:Int)
            refine⟨z,e2,?_⟩
            revert hz2
            cases hx:clsX i l c with
            |inl l'=>
              rintro⟨rfl,h2⟩
              have:=awy hx
              rw[abv om]
              exact⟨_,rfl,rfl,h2,by omega⟩
            |inr e=>
              rintro rfl
              exact⟨_,rfl,rfl⟩
          · rw[if_pos (show(c.Kind != 1)=true by simpa using h1),if_neg (show ¬(c.Kind==1)=true by simpa using h1)]
            unfold r9
            rw[abv om]
            exact .mk ⟨_,rfl,rfl,h0,by omega⟩) (fun s l h=>by
          obtain⟨rfl,h0,hlen⟩:=h
          rw[List.take_length]at hlen
          dsimp only
          unfold pf
          rw[dw hf,Option.bind_some,if_neg (gw (Nat.le_refl _))]
          exact .mk ⟨_,rfl,rfl,h0,hlen⟩) file 0 (0,l0) l0 rfl (Nat.zero_le _) ⟨rfl,h0,by omega⟩
      refine .bd ⟨o,e1,ho⟩ fun o ho=>?_
      revert ho
      cases rowF (fun _ l c=>tabC (i:Int) l c) 0 file l0 with
      |inl l=>
        rintro⟨rfl,h1,hl⟩
        dsimp only
        unfold aan
        rw[abv om]
        exact .mk ⟨_,rfl,rfl,h1,by omega⟩
      |inr e=>
        rintro rfl
        exact .mk ⟨_,rfl,rfl⟩) (fun s l h=>by
      obtain⟨rfl,h0,hlen⟩:=h
      dsimp only
      unfold mw
      rw[if_neg (gw (Nat.le_refl _))]
      exact .mk ⟨_,rfl,rfl⟩) files 0 (0,[]) [] rfl (Nat.zero_le _) ⟨rfl,rfl,Nat.le_refl _⟩
  have e':iter (fun s=>mw files s.1 s.2) (0,[])=some o:=e1
  rw[e',Option.bind_some]
  unfold tab
  revert ho
  cases rowF (fun(f:Nat) (l:List A9) (file:List B5)=>rowF (fun _ l c=>tabC f l c) 0 file l) 0 files []with
  |inl l=>rintro rfl;rfl
  |inr e=>rintro rfl;rfl
end Go.Proofs.YtcndghapmoaidaaGreatDoor
