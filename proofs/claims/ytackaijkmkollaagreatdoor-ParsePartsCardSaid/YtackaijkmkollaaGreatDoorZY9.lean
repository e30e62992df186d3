/- Two texts with the same tokens are the same files: ParseLead. -/
import Derived.Test.YtackaijkmkollaaGreatDoorZY8
import Derived.Test.YtackaijkmkollaaGreatDoorZL
set_option linter.unusedSimpArgs false
set_option linter.unusedVariables false
set_option linter.unusedSectionVars false
set_option linter.unusedSectionVars false
set_option linter.unusedVariables false
set_option linter.unusedSimpArgs false
set_option maxHeartbeats 4000000
namespace Go.Proofs.YtackaijkmkollaaGreatDoor
open Go Go.Cn
def GP (pre:List UInt8):Prop:=∀r k,GapR r k true->GapR (pre++r) (pre.length+k) true
theorem GP.space {c:UInt8} (h:j3 c.toNat=true) {pre:List UInt8} (hp:GP pre):GP (c::pre):=fun r k hk=>by
 have:=GapR.space c (pre++r) _ true h (hp r k hk)
 rw[List.cons_append,List.length_cons,show pre.length+1+k=1+(pre.length+k)by omega]
 exact this
theorem GP.nil:GP []:=fun r k hk=>by simpa using hk
theorem GP.note:GP [47,42,32,97,32,110,111,116,101,32,42,47]:=fun r k hk=>
 .note _ 8 k true (by simp[List.isPrefixOf]) (by simp[jg,List.isPrefixOf]) (by simpa using hk)
theorem LR.at {D:Dt}:∀{l m:List ApiNode},LR D l m->∀i (h:i<l.length) (h':i<m.length),NR D l[i] m[i]
 |n::l,m,h,i,hi,hi'=>by
  simp only[LR]at h
  obtain⟨a,b,rfl,h1,h2⟩:=h
  cases i with
  |zero=>exact h1
  |succ i=>exact LR.at h2 i (by simpa using hi) (by simpa using hi')
mutual
theorem NR.depth {D:Dt}:∀{n m:ApiNode},NR D n m->i8 m=i8 n
 |⟨k,t,y,nn,a,b,c,d,kids⟩,m,h=>by
  rw[NR_eq]at h
  rw[depthN_eq m,depthN_eq ⟨k,t,y,nn,a,b,c,d,kids⟩,LR.depth h.2]
theorem LR.depth {D:Dt}:∀{l m:List ApiNode},LR D l m->eb m=eb l
 | [],m,h=>by simp only[LR]at h;subst h;rfl
 |n::l,m,h=>by
  simp only[LR]at h
  obtain⟨a,b,rfl,h1,h2⟩:=h
  simp only[eb]
  rw[NR.depth h1,LR.depth h2]
end
mutual
theorem NR.size {D:Dt}:∀{n m:ApiNode},NR D n m->ie m=ie n
 |⟨k,t,y,nn,a,b,c,d,kids⟩,m,h=>by
  rw[NR_eq]at h
  rw[nsize_eq m,nsize_eq ⟨k,t,y,nn,a,b,c,d,kids⟩,LR.size h.2]
theorem LR.size {D:Dt}:∀{l m:List ApiNode},LR D l m->cl m=cl l
 | [],m,h=>by simp only[LR]at h;subst h;rfl
 |n::l,m,h=>by
  simp only[LR]at h
  obtain⟨a,b,rfl,h1,h2⟩:=h
  simp only[cl]
  rw[NR.size h1,LR.size h2]
end
theorem cat_small {a b:List UInt8} (h:a.length+b.length<=1000000):cat a b=some (a++b):=by
 unfold cat
 rw[if_pos (by omega)]
end Go.Proofs.YtackaijkmkollaaGreatDoor
