/- A tree that is read: its texts' bulk, and its numbers. -/
import Derived.Test.YtgkcoicaopilhaaGreatDoorRows
import Derived.WalkKit
import Derived.LaidLaws
import Derived.Deep.DeepHandedRow
import Derived.Test.YtgkcoicaopilhaaGreatDoorZX
import Derived.Test.YtgkcoicaopilhaaGreatDoorZQ
import Derived.Test.YtgkcoicaopilhaaGreatDoorZJ
import Derived.Stop.LaidErr
set_option linter.unusedSimpArgs false
set_option linter.unusedVariables false
set_option linter.unusedSectionVars false
set_option maxRecDepth 100000
namespace Go.Proofs.YtgkcoicaopilhaaGreatDoor
open Go
noncomputable def low:Nat:=(World.holding Tryz.prog default ⟨#[], #[],[]⟩).heap.size
def put (h:Array Obj) (g:Nat) (c:Array Value):Array Obj:=h.modify g fun
 | .cells _ t frozen=> .cells c t frozen
 |o=>o
noncomputable def laidWorld (os:Os):World:=
 let w0:=World.holding Tryz.prog os ⟨#[.cells #[.string ⟨#[118,97,108,117,101,32,111,117,116,32,111,102,32,114,97,110,103,101]⟩] 153,.cells #[.string ⟨#[105,110,118,97,108,105,100,32,115,121,110,116,97,120]⟩] 153], #[],[]⟩
 {w0 with heap:=(put (put (put (put (put (put w0.heap 5 #[.int .u8 0,.int .u8 1,.int .u8 28,.int .u8 2,.int .u8 29,.int .u8 14,.int .u8 24,.int .u8 3,.int .u8 30,.int .u8 22,.int .u8 20,.int .u8 15,.int .u8 25,.int .u8 17,.int .u8 4,.int .u8 8,.int .u8 31,.int .u8 27,.int .u8 13,.int .u8 23,.int .u8 21,.int .u8 19,.int .u8 16,.int .u8 7,.int .u8 26,.int .u8 12,.int .u8 18,.int .u8 6,.int .u8 11,.int .u8 5,.int .u8 10,.int .u8 9]) 6 #[.int .u8 0,.int .u8 1,.int .u8 56,.int .u8 2,.int .u8 57,.int .u8 49,.int .u8 28,.int .u8 3,.int .u8 61,.int .u8 58,.int .u8 42,.int .u8 50,.int .u8 38,.int .u8 29,.int .u8 17,.int .u8 4,.int .u8 62,.int .u8 47,.int .u8 59,.int .u8 36,.int .u8 45,.int .u8 43,.int .u8 51,.int .u8 22,.int .u8 53,.int .u8 39,.int .u8 33,.int .u8 30,.int .u8 24,.int .u8 18,.int .u8 12,.int .u8 5,.int .u8 63,.int .u8 55,.int .u8 48,.int .u8 27,.int .u8 60,.int .u8 41,.int .u8 37,.int .u8 16,.int .u8 46,.int .u8 35,.int .u8 44,.int .u8 21,.int .u8 52,.int .u8 32,.int .u8 23,.int .u8 11,.int .u8 54,.int .u8 26,.int .u8 40,.int .u8 15,.int .u8 34,.int .u8 20,.int .u8 31,.int .u8 10,.int .u8 25,.int .u8 14,.int .u8 19,.int .u8 9,.int .u8 13,.int .u8 8,.int .u8 7,.int .u8 6]) 4 #[.int .u64 1,.int .u64 10,.int .u64 100,.int .u64 1000,.int .u64 10000,.int .u64 100000,.int .u64 1000000,.int .u64 10000000,.int .u64 100000000,.int .u64 1000000000,.int .u64 10000000000,.int .u64 100000000000,.int .u64 1000000000000,.int .u64 10000000000000,.int .u64 100000000000000,.int .u64 1000000000000000,.int .u64 10000000000000000,.int .u64 100000000000000000,.int .u64 1000000000000000000,.int .u64 10000000000000000000]) 0 #[.string ⟨#[99,108,97,115,115]⟩,.string ⟨#[101,120,116,101,110,100,115]⟩,.string ⟨#[115,116,97,116,105,99]⟩,.string ⟨#[118,111,105,100]⟩,.string ⟨#[105,110,116]⟩,.string ⟨#[98,111,111,108,101,97,110]⟩,.string ⟨#[105,102]⟩,.string ⟨#[101,108,115,101]⟩,.string ⟨#[119,104,105,108,101]⟩,.string ⟨#[114,101,116,117,114,110]⟩,.string ⟨#[112,114,105,110,116]⟩,.string ⟨#[116,114,117,101]⟩,.string ⟨#[102,97,108,115,101]⟩,.string ⟨#[110,117,108,108]⟩,.string ⟨#[116,104,105,115]⟩,.string ⟨#[110,101,119]⟩]) 3 #[.iface 151 (.pointer (some ⟨low,0,none⟩))]) 2 #[.iface 151 (.pointer (some ⟨low+1,0,none⟩))])}
end Go.Proofs.YtgkcoicaopilhaaGreatDoor
set_option maxRecDepth 100000
set_option maxHeartbeats 4000000
namespace Go.Proofs.YtgkcoicaopilhaaGreatDoor
open Go Go.Cn
theorem cells22 :Tryz.prog.cellsOf 22=1:=by kernel_rfl
theorem cells24 :Tryz.prog.cellsOf 24=9:=by kernel_rfl
theorem opNode :Opens Tryz.prog 24 ab:=by
 unfold ab
 refine opens_fix (by kernel_rfl) Tryz.underlying24 (fun R ys=> ?_) (fun k h=> ?_)
 ·exact⟨ApiNode.mk (ys ⟨0,show 0<9 by decide⟩) (ys ⟨1,show 1<9 by decide⟩) (ys ⟨2,show 2<9 by decide⟩) (ys ⟨3,show 3<9 by decide⟩) (ys ⟨4,show 4<9 by decide⟩) (ys ⟨5,show 5<9 by decide⟩) (ys ⟨6,show 6<9 by decide⟩) (ys ⟨7,show 7<9 by decide⟩) (ys ⟨8,show 8<9 by decide⟩),
   fun⟨i,hi⟩=>by match i,hi with| 0,_=>rfl| 1,_=>rfl| 2,_=>rfl| 3,_=>rfl| 4,_=>rfl| 5,_=>rfl| 6,_=>rfl| 7,_=>rfl| 8,_=>rfl|n+9,hi=>exact absurd (show n+9<9 from hi) (by omega)⟩
 ·have oi:OpensN k Tryz.prog 3 (Rp.int .i64):=(opens_int (by kernel_rfl) Tryz.underlying3).n k
  have o2:OpensN k Tryz.prog 2 (Rp.int .i64):=(opens_int (by kernel_rfl) Tryz.underlying2).n k
  have os:OpensN k Tryz.prog 9 ak:=(opens_str (by kernel_rfl) Tryz.underlying9).n k
  exact⟨rfl,oi,rfl,os,rfl,os,rfl,o2,rfl,oi,rfl,oi,rfl,oi,rfl,oi,rfl,(opensN_list (by kernel_rfl) Tryz.underlying22 h (Nat.zero_lt_succ _)).down (Nat.le_succ _),trivial⟩
abbrev noGlob :Glob:=⟨fun _=>True,fun _ _ _ _=>trivial⟩
theorem g0 :Tryz.prog.globalNamed "concordat/lex.kept"=some 0:=by kernel_rfl
theorem g3 :Tryz.prog.globalNamed "strconv.ErrRange"=some 3:=by kernel_rfl
theorem gt0 :(Tryz.prog.globals[0]?).map (·.type)=some 116:=by kernel_rfl
theorem gt3 :(Tryz.prog.globals[3]?).map (·.type)=some 97:=by kernel_rfl
theorem gt4 :(Tryz.prog.globals[4]?).map (·.type)=some 164:=by kernel_rfl
theorem cells9 :Tryz.prog.cellsOf 9=1:=by kernel_rfl
theorem keptCells {W:World} {r:List (String × DataW Unit)} (h:laidMet Tryz.prog (("concordat/lex.kept",Rows.laid_concordat_lex_kept)::r) W):GCells ⟨W,fun b=>b<W.heap.size⟩ 0 cellsKept:=by
 obtain⟨ps,⟨g',t',cs,fuel,p,q,hg',ht',hvar,hd,_,_⟩,_⟩:=h
 obtain rfl:=Option.some.inj (g0.symm.trans hg')
 obtain rfl:=Option.some.inj (gt0.symm.trans ht')
 refine @GCells.of noGlob _ _ _ (fun j v hj=> ?_) (Nat.zero_lt_succ _)
 rw[World.var?_cell g0 hvar j]
 have hk:∃l,kept[j]? =some l/\v= .string ⟨l.toArray⟩:=by
  have e:cellsKept=kept.map fun l=>Value.string ⟨l.toArray⟩:=rfl
  rw[e,List.getElem?_map]at hj
  cases hl:kept[j]? with
  |none=>rw[hl]at hj;cases hj
  |some l=>rw[hl]at hj;exact⟨l,rfl,(Option.some.inj hj).symm⟩
 obtain⟨l,hl,rfl⟩:=hk
 have:=arr_strs (L:=kept) Tryz.underlying116 Tryz.underlying9 cells9 hd j l hl
 simpa using this
theorem plainPow :PlainT Tryz.prog 164:= .arr 164 20 126 Tryz.underlying164 (by kernel_rfl) (.int 126 .u64 Tryz.underlying126)
theorem powCells {W:World} {r:List (String × DataW Unit)} (h:laidMet Tryz.prog (("internal/strconv.uint64pow10",Rows.laid_internal_strconv_uint64pow10)::r) W):4<W.heap.size/\∃T fz,W.heap[4]? =some (.cells (Lib.pow10Tab.map fun z=>Value.int .u64 z).toArray T fz):=by
 obtain⟨ps,⟨g',t',cs,fuel,p,q,hg',ht',hvar,hd,_,_⟩,_⟩:=h
 obtain rfl:=Option.some.inj (g4.symm.trans hg')
 obtain rfl:=Option.some.inj (gt4.symm.trans ht')
 have hc:cs.toList=Lib.pow10Tab.map fun z=>Value.int .u64 z:=(trod_flat plainPow _ _ _ hd).trans (show flatD (Rows.laid_internal_strconv_uint64pow10 (H:=Unit))=Lib.pow10Tab.map (fun z=>Value.int .u64 z)by kernel_rfl)
 unfold World.var? at hvar
 rw[g4,Option.bind_some]at hvar
 split at hvar
 ·rename_i c T fz ho
  obtain rfl:=Option.some.inj hvar
  refine⟨(Array.getElem?_eq_some_iff.1 ho).1,T,fz,?_⟩
  rw[ho,← hc]
 ·cases hvar
theorem startGlob {W:World} {d1 d2 d5:String × DataW Unit} {r:List (String × DataW Unit)} (h:laidMet Tryz.prog (d1::d2::("internal/strconv.uint64pow10",Rows.laid_internal_strconv_uint64pow10)::("strconv.ErrRange",Rows.laid_strconv_ErrRange)::d5::("concordat/lex.kept",Rows.laid_concordat_lex_kept)::r) W) (hs:W.ShapedOpen Tryz.prog):
  theGlob.ok ⟨W,fun b=>b<W.heap.size⟩:=by
 refine⟨keptCells h.tail.tail.tail.tail.tail,?_,?_,powCells h.tail.tail⟩
 ·obtain⟨m,hm⟩:=Tryz.laysM143.s1_3 W hs
  refine⟨m, @GCells.of noGlob _ _ _ (fun j v hj=> ?_) (Nat.zero_lt_succ _)⟩
  match j,hj with
  | 0,hj=>obtain rfl:=Option.some.inj hj;exact hm
 ·obtain⟨ps,⟨g',t',cs,fuel,p,q,hg',ht',hvar,hd,_,_⟩,_⟩:=h.tail.tail.tail
  obtain rfl:=Option.some.inj (g3.symm.trans hg')
  obtain rfl:=Option.some.inj (gt3.symm.trans ht')
  have hcs:∃u v,cs.toList=[.iface u v]:=by
   cases fuel with
   |zero=>simp[DataW.trod]at hd
   |succ n=>
    rw[DataW.trod_step]at hd
    unfold DataW.trodStep at hd
    rw[show Tryz.prog.underlying 97=_ from Tryz.underlying97]at hd
    split at hd<;>first|exact⟨_,_,by assumption⟩|simp_all [Rows.laid_strconv_ErrRange]
  obtain⟨u,v,hcs⟩:=hcs
  refine⟨u,v, @GCells.of noGlob _ _ _ (fun j x hj=> ?_) (Nat.zero_lt_succ _)⟩
  rw[World.var?_cell g3 hvar j]
  have:cs[j]? =cs.toList[j]? :=by simp
  rw[this,hcs]
  exact hj
end Go.Proofs.YtgkcoicaopilhaaGreatDoor
set_option linter.unusedSectionVars false
set_option maxRecDepth 100000
set_option maxHeartbeats 4000000
namespace Go.Proofs.YtgkcoicaopilhaaGreatDoor
open Go Go.Cn
theorem cells2 :Tryz.prog.cellsOf 2=1:=by kernel_rfl
theorem all_all {H:Type}:∀(l:List ApiNode) (es:List (DataW H × List MemPlace)),l.length=es.length->(∀(i:Nat) a e,l[i]? =some a->es[i]? =some e->fo a<=Rows.uptoBulk e.1/\tsum a<=Rows.uptoBulk e.1/\okN a)->j3 l<=Rows.uptoBulkAll (es.map (·.1))/\tsumL l<=Rows.uptoBulkAll (es.map (·.1))/\okL l
 | [],[],_,_=>by simp[j3,tsumL,okL]
 |a::l,e::es,hl,h=>by
  simp only[List.map_cons,Rows.uptoBulkAll,j3,tsumL,okL]
  obtain⟨a1,a2,a3⟩:=h 0 a e rfl rfl
  obtain⟨b1,b2,b3⟩:=all_all l es (by simpa using hl) (fun i a e h3 h4=>h (i+1) a e h3 h4)
  exact⟨by omega,by omega,a3,b3⟩
 | [],_::_,hl,_=>by simp at hl
 |_::_,[],hl,_=>by simp at hl
theorem node_all {s:St} (hs:AllF s) {H:Type} {enc:TypeId × Value->H} {sp:Nat->Bool} {hd:Bool}:∀(k fuel:Nat),fuel<k->∀(a:ApiNode) (cs:List Value) (x:DataW H × List MemPlace),ab.c s a cs->DataW.trod enc Tryz.prog s.w 0 sp hd fuel 24 cs=some x->fo a<=Rows.uptoBulk x.1/\tsum a<=Rows.uptoBulk x.1/\okN a:=by
 intro k
 induction k with
 |zero=>intro fuel h;exact absurd h (Nat.not_lt_zero _)
 |succ k ih=>
  intro fuel hfk a cs x ha h
  obtain⟨xs,n,rfl,rfl,hl,hxl,hxs⟩:=DataW.trod_struct Tryz.underlying24 h
  rw[al]at ha
  obtain⟨_,_,rfl,rfl,_,_,rfl,rfl,_,_,rfl,rfl,_,_,rfl,rfl,_,_,rfl,rfl,_,_,rfl,rfl,_,_,rfl,rfl,_,_,rfl,rfl,c8,_,rfl,hk,rfl⟩:=ha
  obtain⟨v,rfl,hk⟩:=hk
  replace hk:lstP ab a.Kids s v:=hk
  replace hxl:xs.length=9:=hxl
  obtain⟨x0,x1,x2,x3,x4,x5,x6,x7,x8,rfl⟩:∃x0 x1 x2 x3 x4 x5 x6 x7 x8,xs=[x0,x1,x2,x3,x4,x5,x6,x7,x8]:=by
   match xs,hxl with
   | [y0,y1,y2,y3,y4,y5,y6,y7,y8],_=>exact⟨y0,y1,y2,y3,y4,y5,y6,y7,y8,rfl⟩
  have h1:=hxs 1 _ rfl
  have h2:=hxs 2 _ rfl
  have h3:=hxs 3 _ rfl
  have h8:=hxs 8 _ rfl
  replace h1:DataW.trod enc Tryz.prog s.w 0 sp hd n 9 (([Value.string ⟨a.Text.toArray⟩]++_).take (Tryz.prog.cellsOf 9))=some x1:=h1
  replace h2:DataW.trod enc Tryz.prog s.w 0 sp hd n 9 (([Value.string ⟨a.Type_.toArray⟩]++_).take (Tryz.prog.cellsOf 9))=some x2:=h2
  replace h3:DataW.trod enc Tryz.prog s.w 0 sp hd n 2 (([Value.int .i64 a.N]++_).take (Tryz.prog.cellsOf 2))=some x3:=h3
  replace h8:DataW.trod enc Tryz.prog s.w 0 sp hd n 22 (([v]++[]).take (Tryz.prog.cellsOf 22))=some x8:=h8
  rw[cells9]at h1 h2
  rw[cells2]at h3
  rw[cells22]at h8
  replace h1:DataW.trod enc Tryz.prog s.w 0 sp hd n 9 [Value.string ⟨a.Text.toArray⟩]=some x1:=h1
  replace h2:DataW.trod enc Tryz.prog s.w 0 sp hd n 9 [Value.string ⟨a.Type_.toArray⟩]=some x2:=h2
  replace h3:DataW.trod enc Tryz.prog s.w 0 sp hd n 2 [Value.int .i64 a.N]=some x3:=h3
  replace h8:DataW.trod enc Tryz.prog s.w 0 sp hd n 22 [v]=some x8:=h8
  have b1:Rows.uptoBulk x1.1=a.Text.length+1:=by
   obtain⟨z,e1,rfl,_⟩:=DataW.trod_string Tryz.underlying9 h1
   injection e1 with e1 _
   injection e1 with e1
   rw[← e1]
   simp[Rows.uptoBulk]
  have b2:Rows.uptoBulk x2.1=a.Type_.length+1:=by
   obtain⟨z,e1,rfl,_⟩:=DataW.trod_string Tryz.underlying9 h2
   injection e1 with e1 _
   injection e1 with e1
   rw[← e1]
   simp[Rows.uptoBulk]
  have b3: -9223372036854775808<=a.N/\a.N<=9223372036854775807:=by
   obtain⟨z,e1,rfl,e2⟩:=DataW.trod_int Tryz.underlying2 h3
   injection e1 with e1 _
   injection e1 with _ e1
   rw[← e1]at e2
   simpa [Lit.wf,IntKind.min,IntKind.max,IntKind.signed,IntKind.bits] using e2
  have hb:Rows.uptoBulkAll (([x0,x1,x2,x3,x4,x5,x6,x7,x8]:List (DataW H × List MemPlace)).map (·.1))≥a.Text.length+a.Type_.length+Rows.uptoBulk x8.1:=by
   simp only[List.map_cons,List.map_nil,Rows.uptoBulkAll]
   omega
  rw[ix,tsum_eq,okN_eq]
  simp only[Rows.uptoBulk]
  suffices hsuf:j3 a.Kids<=Rows.uptoBulk x8.1/\tsumL a.Kids<=Rows.uptoBulk x8.1/\okL a.Kids from⟨by omega,by omega,b3,hsuf.2.2⟩
  obtain⟨ad,cap,hv,_,hrow⟩:=hk
  rcases DataW.trod_slice Tryz.underlying22 h8 with⟨hn,_⟩|⟨ad2,len,cap2,elems,rest,n2,rfl,hn,hx8,_,_,_,hel,hall,_,_⟩
  ·obtain rfl:v= .slice none 0 0:=by simpa using hn
   have hz:a.Kids.length=0:=by injection hv with _ h2 _;exact h2.symm
   rw[List.eq_nil_of_length_eq_zero hz]
   simp[j3,tsumL,okL]
  ·obtain rfl:v= .slice (some ad2) len cap2:=by simpa using hn
   injection hv with hv1 hv2 hv3
   subst hv1 hv2
   rw[hx8]
   simp only[Rows.uptoBulk]
   suffices hsum:j3 a.Kids<=Rows.uptoBulkAll (elems.map (·.1))/\tsumL a.Kids<=Rows.uptoBulkAll (elems.map (·.1))/\okL a.Kids from⟨by omega,by omega,hsum.2.2⟩
   refine all_all _ _ hel.symm (fun i y e hy he=> ?_)
   rcases hrow with hnil|⟨ad3,had,hsp,hrow⟩
   ·rw[hnil]at hy;simp at hy
   ·obtain rfl:=Option.some.inj had
    obtain⟨ci,h1,h2⟩:=hrow i y hy
    have hi:=(List.getElem?_eq_some_iff.1 hy).1
    have h3:=hall i hi
    rw[he,Option.bind_eq_some_iff]at h3
    obtain⟨ci',h4,h5⟩:=h3
    rw[cells24]at h4
    have hadd:ad2.add (i * 9)=⟨ad2.block,ad2.off+i * ab.size,none⟩:=by
     have hs9:ab.size=9:=rfl
     rw[hs9]
     obtain⟨b0,o0,sp0⟩:=ad2
     obtain rfl:sp0=none:=hsp
     unfold Addr.add
     split
     ·rename_i h'
      simp only[h',Nat.add_zero]
     ·rfl
    obtain⟨g1,g2⟩:=lies_of_cells hs h4 (by decide)
    have hlen:ci.length=9:=ab.len h1
    have hcc:ci'=ci:=by
     refine List.ext_getElem? (fun j=> ?_)
     rcases Nat.lt_or_ge j 9 with hj|hj
     ·have e1:=g2.cell (j:=j) (List.getElem?_eq_getElem (by omega))
      rw[hadd]at e1
      have e2:=h2.cell (j:=j) (List.getElem?_eq_getElem (by omega))
      rw[List.getElem?_eq_getElem (by omega),List.getElem?_eq_getElem (by omega),← e1,← e2]
     ·rw[List.getElem?_eq_none (by omega),List.getElem?_eq_none (by omega)]
    subst hcc
    exact ih n2 (by omega) y ci' e h1 h5
end Go.Proofs.YtgkcoicaopilhaaGreatDoor
