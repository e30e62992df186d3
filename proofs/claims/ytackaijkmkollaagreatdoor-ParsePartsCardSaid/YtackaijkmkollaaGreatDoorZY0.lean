/- Trees of nodes, in plain Lean: their size, and all of their parts. -/
import Derived.Test.YtackaijkmkollaaGreatDoorZT
import Derived.Test.YtackaijkmkollaaGreatDoorZL
set_option linter.unusedSimpArgs false
set_option linter.unusedVariables false
set_option linter.unusedSectionVars false
set_option linter.unusedSectionVars false
set_option maxHeartbeats 4000000
namespace Go.Proofs.YtackaijkmkollaaGreatDoor
open Go Go.Cn
mutual
def ie :ApiNode->Nat
 |⟨_,_,_,_,_,_,_,_,kids⟩=>1+cl kids
def cl :List ApiNode->Nat
 | []=>0
 |n::l=>ie n+cl l
end
mutual
def flatN :ApiNode->List ApiNode
 |⟨k,t,y,n,a,b,c,d,kids⟩=>⟨k,t,y,n,a,b,c,d,kids⟩::flatL kids
def flatL :List ApiNode->List ApiNode
 | []=>[]
 |n::l=>flatN n++flatL l
end
theorem nsize_eq (x:ApiNode):ie x=1+cl x.Kids:=by cases x;simp[ie]
theorem nsize_pos (x:ApiNode):0<ie x:=by rw[nsize_eq];omega
theorem flatN_eq (x:ApiNode):flatN x=x::flatL x.Kids:=by cases x;simp[flatN]
theorem eg :∀l:List ApiNode,l.length<=cl l
 | []=>by simp[cl]
 |n::l=>by have:=eg l;have:=nsize_pos n;simp[cl];omega
theorem nsize_mem {x:ApiNode}:∀{l:List ApiNode},x∈l->ie x<=cl l
 |n::l,h=>by
  simp only[cl]
  rcases List.mem_cons.1 h with rfl|h
  ·omega
  ·have:=nsize_mem h;omega
mutual
theorem flatN_len :∀x:ApiNode,(flatN x).length=ie x
 |⟨_,_,_,_,_,_,_,_,kids⟩=>by simp[flatN,ie,flatL_len kids];omega
theorem flatL_len :∀l:List ApiNode,(flatL l).length=cl l
 | []=>by simp[flatL,cl]
 |n::l=>by simp[flatL,cl,flatN_len n,flatL_len l]
end
theorem idx_lt {α:Type} {l:List α} {i:Nat} (h:i<l.length):idx l (i:Int)=some l[i]:=idx_nat h
theorem exact_at :∀(k:Nat) (x:ApiNode),ie x<=k->k<=1048576->f4 k x x=some true:=by
 intro k
 induction k with
 |zero=>intro x h _;have:=nsize_pos x;omega
 |succ k ih=>
  intro x hx hk
  show F_ref11_Exact (f4 k) x x=_
  generalize hR:f4 k=R
  have hsz:=nsize_eq x
  have hlen:=eg x.Kids
  have hkid:∀y∈x.Kids,R y y=some true:=fun y hy=>by
   have:=nsize_mem hy
   rw[← hR]
   exact ih y (by omega) (by omega)
  unfold F_ref11_Exact
  simp only[bne_self_eq_false,beq_self_eq_true,Bool.not_true,Bool.false_eq_true,if_false]
  unfold dy
  simp only[Bool.false_eq_true,if_false]
  obtain⟨o,h1,h2⟩:=ke (f:=fun s:Int=>jr R x x s) (fun s=>∃i:Nat,i<=x.Kids.length/\s=(i:Int)) (fun o=>o= .next ()) (fun s=>x.Kids.length - s.toNat) (by
   rintro _ ⟨i,hi,rfl⟩
   unfold jr ref11_Exact_j3
   by_cases hlt:i<x.Kids.length
   ·left
    rw[if_pos (by simp[hlt])]
    simp only[idx_lt hlt,Option.bind_some,hkid _ (List.getElem_mem hlt)]
    refine⟨_,rfl,⟨i+1,by omega,by rw[i6 (by omega) (by omega)];omega⟩,?_⟩
    simp only[i6 (show -9223372036854775808<=(i:Int)+1 by omega) (by omega)]
    omega
   ·right
    rw[if_neg (by simp;omega)]
    exact⟨_,rfl,rfl⟩) 0 ⟨0,by omega,rfl⟩
  rw[h1]
  subst h2
  rfl
theorem Exact_same {x:ApiNode} (hx:ie x<=1048576):ref11_Exact x x=some true:=exact_at 1048576 x hx (Nat.le_refl _)
theorem ij {n:Nat} (h:n<=9000000000):w64 ((n:Int)+1)=((n+1:Nat):Int):=by rw[i6 (by omega) (by omega)];rfl
end Go.Proofs.YtackaijkmkollaaGreatDoor
