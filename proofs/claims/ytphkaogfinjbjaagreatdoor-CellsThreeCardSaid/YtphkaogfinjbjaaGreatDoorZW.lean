/- What the start of a call gives, for arguments that are arrays. -/
import Derived.Test.YtphkaogfinjbjaaGreatDoorRows
import Derived.WalkKit
import Derived.LaidLaws
import Derived.Deep.DeepHandedRow
import Derived.Test.YtphkaogfinjbjaaGreatDoorZX
import Derived.Test.YtphkaogfinjbjaaGreatDoorZJ
import Derived.Stop.LaidErr
import Derived.OpenShut
set_option linter.unusedSimpArgs false
set_option linter.unusedVariables false
set_option linter.unusedSectionVars false
set_option maxRecDepth 100000
namespace Go.Proofs.YtphkaogfinjbjaaGreatDoor
open Go
noncomputable def low:Nat:=(World.holding Tryz.prog default ⟨#[], #[],[]⟩).heap.size
def put (h:Array Obj) (g:Nat) (c:Array Value):Array Obj:=h.modify g fun
 | .cells _ t frozen=> .cells c t frozen
 |o=>o
noncomputable def laidWorld (os:Os):World:=
 let w0:=World.holding Tryz.prog os ⟨#[.cells #[.string ⟨#[118,97,108,117,101,32,111,117,116,32,111,102,32,114,97,110,103,101]⟩] 187,.cells #[.string ⟨#[105,110,118,97,108,105,100,32,115,121,110,116,97,120]⟩] 187], #[],[]⟩
 {w0 with heap:=(put (put (put (put (put (put w0.heap 5 #[.int .u8 0,.int .u8 1,.int .u8 28,.int .u8 2,.int .u8 29,.int .u8 14,.int .u8 24,.int .u8 3,.int .u8 30,.int .u8 22,.int .u8 20,.int .u8 15,.int .u8 25,.int .u8 17,.int .u8 4,.int .u8 8,.int .u8 31,.int .u8 27,.int .u8 13,.int .u8 23,.int .u8 21,.int .u8 19,.int .u8 16,.int .u8 7,.int .u8 26,.int .u8 12,.int .u8 18,.int .u8 6,.int .u8 11,.int .u8 5,.int .u8 10,.int .u8 9]) 6 #[.int .u8 0,.int .u8 1,.int .u8 56,.int .u8 2,.int .u8 57,.int .u8 49,.int .u8 28,.int .u8 3,.int .u8 61,.int .u8 58,.int .u8 42,.int .u8 50,.int .u8 38,.int .u8 29,.int .u8 17,.int .u8 4,.int .u8 62,.int .u8 47,.int .u8 59,.int .u8 36,.int .u8 45,.int .u8 43,.int .u8 51,.int .u8 22,.int .u8 53,.int .u8 39,.int .u8 33,.int .u8 30,.int .u8 24,.int .u8 18,.int .u8 12,.int .u8 5,.int .u8 63,.int .u8 55,.int .u8 48,.int .u8 27,.int .u8 60,.int .u8 41,.int .u8 37,.int .u8 16,.int .u8 46,.int .u8 35,.int .u8 44,.int .u8 21,.int .u8 52,.int .u8 32,.int .u8 23,.int .u8 11,.int .u8 54,.int .u8 26,.int .u8 40,.int .u8 15,.int .u8 34,.int .u8 20,.int .u8 31,.int .u8 10,.int .u8 25,.int .u8 14,.int .u8 19,.int .u8 9,.int .u8 13,.int .u8 8,.int .u8 7,.int .u8 6]) 4 #[.int .u64 1,.int .u64 10,.int .u64 100,.int .u64 1000,.int .u64 10000,.int .u64 100000,.int .u64 1000000,.int .u64 10000000,.int .u64 100000000,.int .u64 1000000000,.int .u64 10000000000,.int .u64 100000000000,.int .u64 1000000000000,.int .u64 10000000000000,.int .u64 100000000000000,.int .u64 1000000000000000,.int .u64 10000000000000000,.int .u64 100000000000000000,.int .u64 1000000000000000000,.int .u64 10000000000000000000]) 0 #[.string ⟨#[99,108,97,115,115]⟩,.string ⟨#[101,120,116,101,110,100,115]⟩,.string ⟨#[115,116,97,116,105,99]⟩,.string ⟨#[118,111,105,100]⟩,.string ⟨#[105,110,116]⟩,.string ⟨#[98,111,111,108,101,97,110]⟩,.string ⟨#[105,102]⟩,.string ⟨#[101,108,115,101]⟩,.string ⟨#[119,104,105,108,101]⟩,.string ⟨#[114,101,116,117,114,110]⟩,.string ⟨#[112,114,105,110,116]⟩,.string ⟨#[116,114,117,101]⟩,.string ⟨#[102,97,108,115,101]⟩,.string ⟨#[110,117,108,108]⟩,.string ⟨#[116,104,105,115]⟩,.string ⟨#[110,101,119]⟩]) 3 #[.iface 185 (.pointer (some ⟨low,0,none⟩))]) 2 #[.iface 185 (.pointer (some ⟨low+1,0,none⟩))])}
end Go.Proofs.YtphkaogfinjbjaaGreatDoor
set_option linter.unusedSectionVars false
set_option maxRecDepth 100000
namespace Go.Proofs.YtphkaogfinjbjaaGreatDoor
open Go Go.Cn
abbrev noGlob :Glob:=⟨fun _=>True,fun _ _ _ _=>trivial⟩
theorem g0 :Tryz.prog.globalNamed "concordat/lex.kept"=some 0:=by kernel_rfl
theorem g4 :Tryz.prog.globalNamed "strconv.ErrRange"=some 3:=by kernel_rfl
theorem gt0 :(Tryz.prog.globals[0]?).map (·.type)=some 165:=by kernel_rfl
theorem gt4 :(Tryz.prog.globals[3]?).map (·.type)=some 126:=by kernel_rfl
theorem cells9 :Tryz.prog.cellsOf 9=1:=by kernel_rfl
theorem keptCells {W:World} {r:List (String × DataW Unit)} (h:laidMet Tryz.prog (("concordat/lex.kept",Rows.laid_concordat_lex_kept)::r) W):GCells ⟨W,fun b=>b<W.heap.size⟩ 0 cellsKept:=by
 obtain⟨ps,⟨g',t',cs,fuel,p,q,hg',ht',hvar,hd,_,_⟩,_⟩:=h
 obtain rfl:=Option.some.inj (g0.symm.trans hg')
 obtain rfl:=Option.some.inj (gt0.symm.trans ht')
 refine @GCells.of noGlob _ _ _ (fun j v hj=> ?_) (Nat.zero_lt_succ _)
 rw[World.var?_cell g0 hvar j]
 have hk:∃l,kept[j]? =some l/\v= .string ⟨l.toArray⟩:=by
  have e:cellsKept=kept.map fun l=>Value.string ⟨l.toArray⟩:=rfl
  rw[e,List.getElem?_map]at hj
  cases hl:kept[j]? with
  |none=>rw[hl]at hj;cases hj
  |some l=>rw[hl]at hj;exact⟨l,rfl,(Option.some.inj hj).symm⟩
 obtain⟨l,hl,rfl⟩:=hk
 have:=arr_strs (L:=kept) Tryz.underlying165 Tryz.underlying9 cells9 hd j l hl
 simpa using this
theorem startGlob {W:World} {d1 d2 d3 d5:String × DataW Unit} {r:List (String × DataW Unit)} (h:laidMet Tryz.prog (d1::d2::d3::("strconv.ErrRange",Rows.laid_strconv_ErrRange)::d5::("concordat/lex.kept",Rows.laid_concordat_lex_kept)::r) W) (hs:W.ShapedOpen Tryz.prog):
  (@theGlob ⟨False⟩).ok ⟨W,fun b=>b<W.heap.size⟩:=by
 refine⟨keptCells h.tail.tail.tail.tail.tail,fun h'=>h'.elim,?_,?_⟩
 ·obtain⟨m,hm⟩:=Tryz.laysM143.s1_3 W hs
  refine⟨m, @GCells.of noGlob _ _ _ (fun j v hj=> ?_) (Nat.zero_lt_succ _)⟩
  match j,hj with
  | 0,hj=>obtain rfl:=Option.some.inj hj;exact hm
 ·obtain⟨ps,⟨g',t',cs,fuel,p,q,hg',ht',hvar,hd,_,_⟩,_⟩:=h.tail.tail.tail
  obtain rfl:=Option.some.inj (g4.symm.trans hg')
  obtain rfl:=Option.some.inj (gt4.symm.trans ht')
  have hcs:∃u v,cs.toList=[.iface u v]:=by
   cases fuel with
   |zero=>simp[DataW.trod]at hd
   |succ n=>
    rw[DataW.trod_step]at hd
    unfold DataW.trodStep at hd
    rw[show Tryz.prog.underlying 126=_ from Tryz.underlying126]at hd
    split at hd<;>first|exact⟨_,_,by assumption⟩|simp_all [Rows.laid_strconv_ErrRange]
  obtain⟨u,v,hcs⟩:=hcs
  refine⟨u,v, @GCells.of noGlob _ _ _ (fun j x hj=> ?_) (Nat.zero_lt_succ _)⟩
  rw[World.var?_cell g4 hvar j]
  have:cs[j]? =cs.toList[j]? :=by simp
  rw[this,hcs]
  exact hj
end Go.Proofs.YtphkaogfinjbjaaGreatDoor
set_option linter.unusedSectionVars false
namespace Go.Cn
open Go.RowKit (Below)
variable [Glob]
theorem rowC_of {α:Type} {R:Rp α} {s:St}:∀{n:Nat} {cs:List Value},cs.length=n * R.size->(∀i,i<n->∃a,R.c s a ((cs.drop (i * R.size)).take R.size))->∃l:List α,l.length=n/\rowC R s l cs
 | 0,cs,h,_=>⟨[],rfl,by rw[Nat.zero_mul]at h;exact List.eq_nil_of_length_eq_zero h⟩
 |n+1,cs,h,k=>by
  have e:(n+1) * R.size=n * R.size+R.size:=Nat.succ_mul ..
  obtain⟨a,ha⟩:=k 0 (Nat.zero_lt_succ _)
  rw[Nat.zero_mul,List.drop_zero]at ha
  obtain⟨l,h1,h2⟩:=rowC_of (R:=R) (s:=s) (n:=n) (cs:=cs.drop R.size) (by rw[List.length_drop];omega) (fun i hi=>by
   obtain⟨b,hb⟩:=k (i+1) (Nat.succ_lt_succ hi)
   rw[List.drop_drop,show R.size+i * R.size=(i+1) * R.size by rw[Nat.succ_mul,Nat.add_comm]]
   exact⟨b,hb⟩)
  exact⟨a::l,by rw[List.length_cons,h1],cs.take R.size,cs.drop R.size,(List.take_append_drop ..).symm,ha,h2⟩
theorem opens_arr {P:Program} {t e:TypeId} {n:Nat} {α:Type} {R:Rp α} (hc:P.cellsOf t=n * R.size) (ht:P.underlying t=some (.array n e)) (he:Opens P e R):Opens P t (aq n R):=⟨hc,fun H enc s sp hd fuel cs x hs h=>by
 obtain⟨xs,m,rfl,_,hl,hxl,hxs⟩:=DataW.trod_array ht h
 obtain⟨l,h1,h2⟩:=rowC_of (R:=R) (s:=s) (n:=n) (cs:=cs) (by rw[hl,hc]) (fun i hi=>by
  have h3:=hxs i hi
  rw[he.1,show xs[i]? =some (xs[i]'(by omega))by simp[hxl,hi]]at h3
  exact he.2 H enc s sp hd m _ _ hs h3)
 exact⟨l,h1,h2⟩⟩
theorem arg_ofA {P:Program} {t e:TypeId} {n:Nat} {α:Type} {R:Rp α} {s:St} {v:Value} {H:Type} {enc:TypeId × Value->H} {sp:Nat->Bool} {hd:Bool} {x:DataW H} {ps:List MemPlace} {r:Reach} {b0:Nat} (ho:Opens P t R) (hagg:R.agg=true) (ht:P.underlying t=some (.array n e))
  (hs:AllF s) (hval:Value.okWide P s.w r b0 t v) (h:DataW.Trod enc P s.w 0 sp hd t v x ps):∃a:α,(R.val a).p s v:=by
 obtain⟨fuel,hf⟩:=h
 obtain⟨a,ha⟩:=ho.2 H enc s sp hd fuel _ _ hs hf
 obtain⟨c,rfl⟩:∃c,v= .agg c:=by
  unfold Value.okWide at hval
  rw[ht]at hval
  obtain⟨c,h1,_⟩:=hval
  exact⟨c,h1⟩
 exact⟨a,R.spec.2 ⟨_,ha,by rw[hagg];simp[Value.cells,pack]⟩⟩
end Go.Cn
