/- Trees of nodes, in plain Lean: their size, and all of their parts. -/
import Derived.Test.YtackaijkmkollaaGreatDoorZT
import Derived.Test.YtackaijkmkollaaGreatDoorZL
set_option linter.unusedSimpArgs false
set_option linter.unusedVariables false
set_option linter.unusedSectionVars false
set_option linter.unusedSectionVars false
set_option maxHeartbeats 4000000
namespace Go.Proofs.YtackaijkmkollaaGreatDoor
open Go Go.Cn
mutual
def jh :ApiNode->Nat
 |⟨_,_,_,_,_,_,_,_,kids⟩=>1+db kids
def db :List ApiNode->Nat
 | []=>0
 |n::l=>jh n+db l
end
mutual
def flatN :ApiNode->List ApiNode
 |⟨k,t,y,n,a,b,c,d,kids⟩=>⟨k,t,y,n,a,b,c,d,kids⟩::flatL kids
def flatL :List ApiNode->List ApiNode
 | []=>[]
 |n::l=>flatN n++flatL l
end
theorem nsize_eq (x:ApiNode):jh x=1+db x.Kids:=by cases x;simp[jh]
theorem nsize_pos (x:ApiNode):0<jh x:=by rw[nsize_eq];omega
theorem flatL_map :∀l:List ApiNode,flatL l=l.flatMap flatN
 | []=>by simp[flatL]
 |n::l=>by simp[flatL,flatL_map l]
theorem flatN_eq (x:ApiNode):flatN x=x::flatL x.Kids:=by cases x;simp[flatN]
theorem fm :∀l:List ApiNode,l.length<=db l
 | []=>by simp[db]
 |n::l=>by have:=fm l;have:=nsize_pos n;simp[db];omega
theorem nsize_mem {x:ApiNode}:∀{l:List ApiNode},x∈l->jh x<=db l
 |n::l,h=>by
  simp only[db]
  rcases List.mem_cons.1 h with rfl|h
  ·omega
  ·have:=nsize_mem h;omega
mutual
theorem flatN_len :∀x:ApiNode,(flatN x).length=jh x
 |⟨_,_,_,_,_,_,_,_,kids⟩=>by simp[flatN,jh,flatL_len kids];omega
theorem flatL_len :∀l:List ApiNode,(flatL l).length=db l
 | []=>by simp[flatL,db]
 |n::l=>by simp[flatL,db,flatN_len n,flatL_len l]
end
theorem idx_lt {α:Type} {l:List α} {i:Nat} (h:i<l.length):idx l (i:Int)=some l[i]:=idx_nat h
theorem all_at :∀(k:Nat) (x:ApiNode),jh x<=k->k<=1048576->gu k x 0=some (flatN x):=by
 intro k
 induction k with
 |zero=>intro x h _;have:=nsize_pos x;omega
 |succ k ih=>
  intro x hx hk
  show F_ref11_All (gu k) x 0=_
  generalize hR:gu k=R
  have hsz:=nsize_eq x
  have hlen:=fm x.Kids
  have hkid:∀y∈x.Kids,R y 0=some (flatN y):=fun y hy=>by
   have:=nsize_mem hy
   rw[← hR]
   exact ih y (by omega) (by omega)
  unfold F_ref11_All
  rw[if_pos (show((0:Int)==0)=true from rfl)]
  unfold ref11_All_j4
  rw[if_pos rfl]
  have happ:∀(a b:List ApiNode),a.length+b.length<=1048576->app 104 a b=some (a++b):=fun a b h=>by
   unfold app
   rw[if_pos ⟨by omega,by omega⟩]
  rw[happ [] [x] (by simp)]
  simp only[Option.bind_some,List.nil_append]
  unfold ref11_All_j3
  have hpre:∀i,i<=x.Kids.length->(flatL (x.Kids.take i)).length<=db x.Kids:=fun i hi=>by
   rw[← flatL_len x.Kids]
   conv=>rhs;rw[← List.take_append_drop i x.Kids]
   rw[flatL_map,flatL_map,List.flatMap_append,List.length_append]
   omega
  have htake:∀i (h:i<x.Kids.length),flatL (x.Kids.take (i+1))=flatL (x.Kids.take i)++flatN x.Kids[i]:=fun i h=>by
   rw[List.take_add_one,List.getElem?_eq_getElem h,flatL_map,flatL_map,List.flatMap_append]
   simp
  obtain⟨o,h1,h2⟩:=iter_ind (f:=fun s:Int × List ApiNode=>kb R x 0 s.1 s.2) (fun s=>∃i:Nat,i<=x.Kids.length/\s.1=(i:Int)/\s.2=x::flatL (x.Kids.take i)) (fun o=>o=flatN x) (fun s=>x.Kids.length - s.1.toNat) (by
   rintro⟨_,_⟩ ⟨i,hi,h1,h2⟩
   simp only at h1 h2
   subst h1 h2
   unfold kb
   by_cases hlt:i<x.Kids.length
   ·left
    rw[if_pos (by simp[hlt])]
    have h3:=hpre (i+1) (by omega)
    rw[htake i hlt,List.length_append]at h3
    simp only[idx_lt hlt,Option.bind_some,hkid _ (List.getElem_mem hlt)]
    rw[happ _ _ (by simp;omega)]
    refine⟨_,rfl,⟨i+1,by omega,by rw[jy (by omega) (by omega)];omega,?_⟩,?_⟩
    ·rw[htake i hlt]
     rfl
    ·simp only[jy (show -9223372036854775808<=(i:Int)+1 by omega) (by omega)]
     omega
   ·right
    rw[if_neg (by simp;omega)]
    refine⟨_,rfl,?_⟩
    rw[List.take_of_length_le (by omega),← flatN_eq]) (0,[x]) ⟨0,by omega,rfl,by simp[flatL]⟩
  rw[h1]
  subst h2
  rfl
theorem gc {n:Nat} (h:n<=9000000000):w64 ((n:Int)+1)=((n+1:Nat):Int):=by rw[jy (by omega) (by omega)];rfl
end Go.Proofs.YtackaijkmkollaaGreatDoor
