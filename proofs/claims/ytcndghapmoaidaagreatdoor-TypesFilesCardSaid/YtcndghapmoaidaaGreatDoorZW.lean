/- What the start of a call gives: the program's variables; what is read as entities. -/
import Derived.Test.YtcndghapmoaidaaGreatDoorRows
import Derived.WalkKit
import Derived.LaidLaws
import Derived.Deep.DeepHandedRow
import Derived.Test.YtcndghapmoaidaaGreatDoorZX
import Derived.Test.YtcndghapmoaidaaGreatDoorZJ
import Derived.Stop.LaidErr
set_option linter.unusedSimpArgs false
set_option linter.unusedVariables false
set_option linter.unusedSectionVars false
set_option maxRecDepth 100000
namespace Go.Proofs.YtcndghapmoaidaaGreatDoor
noncomputable section
open Go
def put (h:Array Obj) (g:Nat) (c:Array Value):Array Obj:=h.modify g fun
 | .cells _ t frozen=> .cells c t frozen
 |o=>o
def aoq (os:Os):World:=
 let w0:=World.holding Tryz.prog os ⟨#[], #[],[]⟩
 {w0 with heap:=(put (put (put w0.heap 1 #[.int .u8 0,.int .u8 1,.int .u8 28,.int .u8 2,.int .u8 29,.int .u8 14,.int .u8 24,.int .u8 3,.int .u8 30,.int .u8 22,.int .u8 20,.int .u8 15,.int .u8 25,.int .u8 17,.int .u8 4,.int .u8 8,.int .u8 31,.int .u8 27,.int .u8 13,.int .u8 23,.int .u8 21,.int .u8 19,.int .u8 16,.int .u8 7,.int .u8 26,.int .u8 12,.int .u8 18,.int .u8 6,.int .u8 11,.int .u8 5,.int .u8 10,.int .u8 9]) 2 #[.int .u8 0,.int .u8 1,.int .u8 56,.int .u8 2,.int .u8 57,.int .u8 49,.int .u8 28,.int .u8 3,.int .u8 61,.int .u8 58,.int .u8 42,.int .u8 50,.int .u8 38,.int .u8 29,.int .u8 17,.int .u8 4,.int .u8 62,.int .u8 47,.int .u8 59,.int .u8 36,.int .u8 45,.int .u8 43,.int .u8 51,.int .u8 22,.int .u8 53,.int .u8 39,.int .u8 33,.int .u8 30,.int .u8 24,.int .u8 18,.int .u8 12,.int .u8 5,.int .u8 63,.int .u8 55,.int .u8 48,.int .u8 27,.int .u8 60,.int .u8 41,.int .u8 37,.int .u8 16,.int .u8 46,.int .u8 35,.int .u8 44,.int .u8 21,.int .u8 52,.int .u8 32,.int .u8 23,.int .u8 11,.int .u8 54,.int .u8 26,.int .u8 40,.int .u8 15,.int .u8 34,.int .u8 20,.int .u8 31,.int .u8 10,.int .u8 25,.int .u8 14,.int .u8 19,.int .u8 9,.int .u8 13,.int .u8 8,.int .u8 7,.int .u8 6]) 0 #[.int .u64 1,.int .u64 10,.int .u64 100,.int .u64 1000,.int .u64 10000,.int .u64 100000,.int .u64 1000000,.int .u64 10000000,.int .u64 100000000,.int .u64 1000000000,.int .u64 10000000000,.int .u64 100000000000,.int .u64 1000000000000,.int .u64 10000000000000,.int .u64 100000000000000,.int .u64 1000000000000000,.int .u64 10000000000000000,.int .u64 100000000000000000,.int .u64 1000000000000000000,.int .u64 10000000000000000000])}
end
end Go.Proofs.YtcndghapmoaidaaGreatDoor
set_option linter.unusedSectionVars false
set_option maxRecDepth 100000
set_option maxHeartbeats 4000000
namespace Go.Proofs.YtcndghapmoaidaaGreatDoor
noncomputable section
open Go Go.Cn
class Known where
 it:Prop
theorem gt0 :(Tryz.prog.globals[0]?).map (·.type)=some 218:=by kernel_rfl
theorem a1h :PlainT Tryz.prog 218:= .arr 218 20 210 Tryz.underlying218 (by kernel_rfl) (.int 210 .u64 Tryz.underlying210)
theorem a1g {W:World} {r:List (String × DataW Unit)} (h:laidMet Tryz.prog (("internal/strconv.uint64pow10",Rows.laid_internal_strconv_uint64pow10)::r) W):0<W.heap.size/\∃T fz,W.heap[0]? =some (.cells (Lib.pow10Tab.map fun z=>Value.int .u64 z).toArray T fz):=by
 obtain⟨ps,⟨g',t',cs,fuel,p,q,hg',ht',hvar,hd,_,_⟩,_⟩:=h
 obtain rfl:=Option.some.inj (g4.symm.trans hg')
 obtain rfl:=Option.some.inj (gt0.symm.trans ht')
 have hc:cs.toList=Lib.pow10Tab.map fun z=>Value.int .u64 z:=(azs a1h _ _ _ hd).trans (show arz (Rows.laid_internal_strconv_uint64pow10 (H:=Unit))=Lib.pow10Tab.map (fun z=>Value.int .u64 z)by kernel_rfl)
 unfold World.var? at hvar
 rw[g4,Option.bind_some]at hvar
 split at hvar
 ·rename_i c T fz ho
  obtain rfl:=Option.some.inj hvar
  refine⟨(Array.getElem?_eq_some_iff.1 ho).1,T,fz,?_⟩
  rw[ho,← hc]
 ·cases hvar
theorem azw {W:World} {d1 d2:String × DataW Unit} {r:List (String × DataW Unit)} (h:laidMet Tryz.prog (d1::d2::("internal/strconv.uint64pow10",Rows.laid_internal_strconv_uint64pow10)::r) W) (hs:W.ShapedOpen Tryz.prog):
  theGlob.ok ⟨W,fun b=>b<W.heap.size⟩:=a1g h.tail.tail
end
end Go.Proofs.YtcndghapmoaidaaGreatDoor
