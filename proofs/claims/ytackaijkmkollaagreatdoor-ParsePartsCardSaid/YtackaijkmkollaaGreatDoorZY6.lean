/- A text's tokens are as the parser leans on them; how deep nodes go. -/
import Derived.Test.YtackaijkmkollaaGreatDoorZY5
set_option linter.unusedSimpArgs false
set_option linter.unusedVariables false
set_option linter.unusedSectionVars false
set_option linter.unusedSectionVars false
set_option linter.unusedVariables false
set_option linter.unusedSimpArgs false
set_option maxHeartbeats 4000000
namespace Go.Proofs.YtackaijkmkollaaGreatDoor
open Go Go.Cn
theorem tokL_num {s:List UInt8} {n:Nat} (h:tokL s=(2,n,0)) (hs:s.length<=60000):∃v b,ek (s.take n) 10 64=some (v,b):=by
 obtain⟨hn,hn2,_,_⟩:=ky h
 cases s with
 |nil=>cases h
 |cons c l=>
  rw[tokL_cons]at h
  by_cases hd:dz c.toNat=true
  ·rw[if_pos hd]at h
   split at h
   ·cases h
   ·have hr:runL dz (c::l)=n:=by injection h with _ h;injection h
    have hall:=runL_all dz (c::l)
    rw[hr]at hall
    obtain⟨n,rfl⟩:∃m,n=m+1:=⟨n - 1,by omega⟩
    rw[List.take_succ_cons]at hall ⊢
    obtain⟨v,b,hv,_⟩:=parseInt_eq c (l.take n) hall (by simp only[List.length_cons,List.length_take]at hs ⊢;omega)
    exact⟨v,b,hv⟩
  ·rw[if_neg hd]at h
   split at h
   ·split at h
    ·cases h
    ·split at h
     ·injection h with h _;exact absurd h (by decide)
     ·injection h with h _;exact absurd h (by decide)
   ·split at h
    ·cases h
    ·injection h with h _;exact absurd h (by decide)
structure TP (x:List UInt8) (a:Nat) (l:List ApiToken):Prop where
 pos:0<l.length
 len:l.length<=x.length - a+1
 last:∀i (h:i<l.length),l[i].Kind=5↔i+1=l.length
 place:∀i (h:i<l.length),∃b:Nat,l[i].At=(b:Int)/\a<=b/\b+l[i].Text.length<=x.length/\(x.drop b).take l[i].Text.length=l[i].Text
 mono:∀i (h:i+1<l.length),l[i].At+(l[i].Text.length:Int)<=l[i+1].At
 num:∀i (h:i<l.length),l[i].Kind=2->∃v b,ek l[i].Text 10 64=some (v,b)
theorem lexR_TP (x:List UInt8) (hx:x.length<=60000) {a:Nat} {s:List UInt8} {l:List ApiToken} {p e:Nat} (h:LexR a s l p e):e=0->a<=x.length->s=x.drop a->TP x a l:=by
 induction h with
 |note a s k hg=>intro h;cases h
 |fin a s hg=>
  rintro _ ha rfl
  have hl:(x.drop a).length=x.length - a:=List.length_drop
  refine⟨by simp,by simp,fun i h=> ?_,fun i h=> ?_,fun i h=> ?_,fun i h=> ?_⟩
  ·obtain rfl:i=0:=by simpa using h
   simp
  ·obtain rfl:i=0:=by simpa using h
   exact⟨_,rfl,by omega,by simp;omega,by simp⟩
  ·simp at h
  ·obtain rfl:i=0:=by simpa using h
   intro h;simp at h
 |bad a s k e hg hk ht he=>exact fun h=>absurd h he
 |tok a s k d n l hg hk ht _ ih=>
  rintro _ ha rfl
  obtain⟨hn,hn2,h0,h5⟩:=ky ht
  rw[List.length_drop]at hk
  rw[List.drop_drop,List.length_drop]at hn2
  have ih:=ih rfl (by omega) (by rw[List.drop_drop,Nat.add_assoc])
  have e1:(((x.drop a).drop k).take n).length=n:=by rw[List.length_take,List.drop_drop,List.length_drop];omega
  have hp:=ih.pos
  have hlen:=ih.len
  refine⟨by simp,by simp only[List.length_cons];omega,fun i h=> ?_,fun i h=> ?_,fun i h=> ?_,fun i h=> ?_⟩
  ·cases i with
   |zero=>
    simp only[List.getElem_cons_zero,List.length_cons]
    constructor
    ·intro h;omega
    ·intro h;omega
   |succ i=>
    simp only[List.getElem_cons_succ,List.length_cons]
    rw[ih.last i (by simpa using h)]
    omega
  ·cases i with
   |zero=>
    simp only[List.getElem_cons_zero]
    exact⟨a+k,rfl,by omega,by rw[e1];omega,by rw[e1,List.drop_drop]⟩
   |succ i=>
    simp only[List.getElem_cons_succ]
    obtain⟨b,h1,h2,h3⟩:=ih.place i (by simpa using h)
    exact⟨b,h1,by omega,h3⟩
  ·cases i with
   |zero=>
    simp only[List.getElem_cons_zero,List.getElem_cons_succ]
    obtain⟨b,h1,h2,h3⟩:=ih.place 0 hp
    rw[h1,e1]
    omega
   |succ i=>
    simp only[List.getElem_cons_succ]
    exact ih.mono i (by simpa using h)
  ·cases i with
   |zero=>
    simp only[List.getElem_cons_zero]
    intro hd2
    obtain rfl:d=2:=by omega
    exact tokL_num ht (by rw[List.drop_drop,List.length_drop];omega)
   |succ i=>
    simp only[List.getElem_cons_succ]
    exact ih.num i (by simpa using h)
 |later a s k d n p e hg hk ht _ he ih=>exact fun h=>absurd h he
theorem tokP_of {x:List UInt8} {l:List ApiToken} {p:Nat} (hx:x.length<=50000) (h:LexR 0 x l p 0):TokP x l:=by
 have t:=lexR_TP x (by omega) h rfl (by omega) rfl
 have h1:=t.len
 exact⟨by omega,t.pos,t.last,by omega,fun i h=>by obtain⟨b,h1,_,h2⟩:=t.place i h;exact⟨b,h1,h2⟩,t.mono,t.num⟩
mutual
def i8 :ApiNode->Nat
 |⟨_,_,_,_,_,_,_,_,kids⟩=>1+eb kids
def eb :List ApiNode->Nat
 | []=>0
 |n::l=>max (i8 n) (eb l)
end
theorem depthN_eq (x:ApiNode):i8 x=1+eb x.Kids:=by cases x;simp[i8]
mutual
theorem depth_le :∀x:ApiNode,i8 x<=ie x
 |⟨_,_,_,_,_,_,_,_,kids⟩=>by
  have:=depthL_le kids
  simp only[i8,ie]
  omega
theorem depthL_le :∀l:List ApiNode,eb l<=cl l
 | []=>Nat.le_refl _
 |n::l=>by
  have h1:=depth_le n
  have h2:=depthL_le l
  simp only[eb,cl]
  omega
end
theorem depthL_mem {x:ApiNode}:∀{l:List ApiNode},x∈l->i8 x<=eb l
 |n::l,h=>by
  simp only[eb]
  rcases List.mem_cons.1 h with rfl|h
  ·omega
  ·have:=depthL_mem h;omega
theorem depthL_append :∀l m:List ApiNode,eb (l++m)=max (eb l) (eb m)
 | [],m=>by simp[eb]
 |n::l,m=>by simp only[List.cons_append,eb,depthL_append l m];omega
theorem depth_at :∀(k:Nat) (x:ApiNode),ie x<=k->k<=1048576->gn k x=some (i8 x:Int):=by
 intro k
 induction k with
 |zero=>intro x h _;have:=nsize_pos x;omega
 |succ k ih=>
  intro x hx hk
  show F_node_Depth (gn k) x=_
  generalize hR:gn k=R
  have hsz:=nsize_eq x
  have hlen:=eg x.Kids
  have hkid:∀y∈x.Kids,R y=some (i8 y:Int):=fun y hy=>by
   have:=nsize_mem hy
   rw[← hR]
   exact ih y (by omega) (by omega)
  have hdl:=depthL_le x.Kids
  unfold F_node_Depth
  have htake:∀i (h:i<x.Kids.length),eb (x.Kids.take (i+1))=max (eb (x.Kids.take i)) (i8 x.Kids[i]):=fun i h=>by
   rw[List.take_add_one,List.getElem?_eq_getElem h,Option.toList_some,depthL_append]
   simp[eb]
  obtain⟨o,h1,h2⟩:=ke (f:=fun s:Int × Int=>kj R x s.1 s.2) (fun s=>∃i:Nat,i<=x.Kids.length/\s.2=(i:Int)/\s.1=(eb (x.Kids.take i):Int)) (fun o=>o=(eb x.Kids:Int)) (fun s=>x.Kids.length - s.2.toNat) (by
   rintro⟨_,_⟩ ⟨i,hi,h1,h2⟩
   simp only at h1 h2
   subst h1 h2
   unfold kj
   by_cases hlt:i<x.Kids.length
   ·left
    rw[if_pos (by simp[hlt])]
    simp only[idx_lt hlt,Option.bind_some,hkid _ (List.getElem_mem hlt)]
    refine⟨_,rfl,⟨i+1,by omega,by rw[i6 (by omega) (by omega)];omega,?_⟩,?_⟩
    ·rw[htake i hlt]
     by_cases hc:(i8 x.Kids[i]:Int)>(eb (x.Kids.take i):Int)
     ·simp only[if_pos hc];omega
     ·simp only[if_neg hc];omega
    ·simp only[i6 (show -9223372036854775808<=(i:Int)+1 by omega) (by omega)]
     omega
   ·right
    rw[if_neg (by simp;omega)]
    refine⟨_,rfl,?_⟩
    rw[List.take_of_length_le (by omega)]) (0,0) ⟨0,by omega,rfl,by simp[eb]⟩
  rw[h1]
  subst h2
  simp only[Option.bind_some,node_Depth_k1]
  rw[i6 (by omega) (by omega),depthN_eq]
  congr 1
  omega
theorem Depth_eq {x:ApiNode} (hx:ie x<=1048576):node_Depth x=some (i8 x:Int):=depth_at 1048576 x hx (Nat.le_refl _)
end Go.Proofs.YtackaijkmkollaaGreatDoor
