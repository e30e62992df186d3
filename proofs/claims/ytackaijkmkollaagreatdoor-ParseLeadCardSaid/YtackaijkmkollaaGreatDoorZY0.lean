/- Trees of nodes, in plain Lean: their size, and all of their parts. -/
import Derived.Test.YtackaijkmkollaaGreatDoorZT
import Derived.Test.YtackaijkmkollaaGreatDoorZL
set_option linter.unusedSimpArgs false
set_option linter.unusedVariables false
set_option linter.unusedSectionVars false
set_option linter.unusedSectionVars false
set_option maxHeartbeats 4000000
namespace Go.Proofs.YtackaijkmkollaaGreatDoor
open Go Go.Cn
mutual
def j8 :ApiNode->Nat
 |⟨_,_,_,_,_,_,_,_,kids⟩=>1+cz kids
def cz :List ApiNode->Nat
 | []=>0
 |n::l=>j8 n+cz l
end
mutual
def flatN :ApiNode->List ApiNode
 |⟨k,t,y,n,a,b,c,d,kids⟩=>⟨k,t,y,n,a,b,c,d,kids⟩::flatL kids
def flatL :List ApiNode->List ApiNode
 | []=>[]
 |n::l=>flatN n++flatL l
end
theorem nsize_eq (x:ApiNode):j8 x=1+cz x.Kids:=by cases x;simp[j8]
theorem nsize_pos (x:ApiNode):0<j8 x:=by rw[nsize_eq];omega
theorem flatN_eq (x:ApiNode):flatN x=x::flatL x.Kids:=by cases x;simp[flatN]
theorem ge :∀l:List ApiNode,l.length<=cz l
 | []=>by simp[cz]
 |n::l=>by have:=ge l;have:=nsize_pos n;simp[cz];omega
theorem nsize_mem {x:ApiNode}:∀{l:List ApiNode},x∈l->j8 x<=cz l
 |n::l,h=>by
  simp only[cz]
  rcases List.mem_cons.1 h with rfl|h
  ·omega
  ·have:=nsize_mem h;omega
mutual
theorem flatN_len :∀x:ApiNode,(flatN x).length=j8 x
 |⟨_,_,_,_,_,_,_,_,kids⟩=>by simp[flatN,j8,flatL_len kids];omega
theorem flatL_len :∀l:List ApiNode,(flatL l).length=cz l
 | []=>by simp[flatL,cz]
 |n::l=>by simp[flatL,cz,flatN_len n,flatL_len l]
end
theorem idx_lt {α:Type} {l:List α} {i:Nat} (h:i<l.length):idx l (i:Int)=some l[i]:=idx_nat h
theorem f0 {n:Nat} (h:n<=9000000000):w64 ((n:Int)+1)=((n+1:Nat):Int):=by rw[je (by omega) (by omega)];rfl
end Go.Proofs.YtackaijkmkollaaGreatDoor
