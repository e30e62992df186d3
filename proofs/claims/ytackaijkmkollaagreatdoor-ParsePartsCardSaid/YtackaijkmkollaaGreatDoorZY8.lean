/- Where nodes stand is where they tell: ParsePlaces. -/
import Derived.Test.YtackaijkmkollaaGreatDoorZY7
set_option linter.unusedSimpArgs false
set_option linter.unusedVariables false
set_option linter.unusedSectionVars false
set_option linter.unusedSectionVars false
set_option linter.unusedVariables false
set_option linter.unusedSimpArgs false
set_option maxHeartbeats 4000000
namespace Go.Proofs.YtackaijkmkollaaGreatDoor
open Go Go.Cn
mutual
theorem gd_flat {x:List UInt8} {y:ApiNode}:∀{n:ApiNode},gd x n->y∈flatN n->gd x y
 |⟨k,t,ty,nn,a,b,c,d,kids⟩,h,hy=>by
  rw[flatN_eq]at hy
  rcases List.mem_cons.1 hy with rfl|hy
  ·exact h
  ·exact gdL_flat (by rw[gd_eq]at h;exact h.2) hy
theorem gdL_flat {x:List UInt8} {y:ApiNode}:∀{l:List ApiNode},gdL x l->y∈flatL l->gd x y
 | [],_,hy=>by simp[flatL]at hy
 |n::l,h,hy=>by
  simp only[gdL]at h
  simp only[flatL]at hy
  rcases List.mem_append.1 hy with hy|hy
  ·exact gd_flat h.1 hy
  ·exact gdL_flat h.2 hy
end
mutual
theorem nsize_flat {y:ApiNode}:∀{n:ApiNode},y∈flatN n->ie y<=ie n
 |⟨k,t,ty,nn,a,b,c,d,kids⟩,hy=>by
  rw[flatN_eq]at hy
  rcases List.mem_cons.1 hy with rfl|hy
  ·exact Nat.le_refl _
  ·have:=nsizes_flat hy
   rw[nsize_eq ⟨k,t,ty,nn,a,b,c,d,kids⟩]
   omega
theorem nsizes_flat {y:ApiNode}:∀{l:List ApiNode},y∈flatL l->ie y<=cl l
 | [],hy=>by simp[flatL]at hy
 |n::l,hy=>by
  simp only[flatL]at hy
  simp only[cl]
  rcases List.mem_append.1 hy with hy|hy
  ·have:=nsize_flat hy;omega
  ·have:=nsizes_flat hy;omega
end
end Go.Proofs.YtackaijkmkollaaGreatDoor
