/- What is read as files; the bulk of files that are read. -/
import Derived.Test.YteablckbgpogiaaGreatDoorRows
import Derived.WalkKit
import Derived.LaidLaws
import Derived.Deep.DeepHandedRow
import Derived.Test.YteablckbgpogiaaGreatDoorZX
import Derived.Test.YteablckbgpogiaaGreatDoorZJ
import Derived.Stop.LaidErr
import Derived.Test.YteablckbgpogiaaGreatDoorZV
set_option linter.unusedSimpArgs false
set_option linter.unusedVariables false
set_option linter.unusedSectionVars false
set_option maxRecDepth 100000
namespace Go.Proofs.YteablckbgpogiaaGreatDoor
open Go
noncomputable def low:Nat:=(World.holding Tryz.prog default ⟨#[], #[],[]⟩).heap.size
def put (h:Array Obj) (g:Nat) (c:Array Value):Array Obj:=h.modify g fun
 | .cells _ t frozen=> .cells c t frozen
 |o=>o
noncomputable def laidWorld (os:Os):World:=
 let w0:=World.holding Tryz.prog os ⟨#[.cells #[.string ⟨#[118,97,108,117,101,32,111,117,116,32,111,102,32,114,97,110,103,101]⟩] 182,.cells #[.string ⟨#[105,110,118,97,108,105,100,32,115,121,110,116,97,120]⟩] 182], #[],[]⟩
 {w0 with heap:=(put (put (put (put (put (put (put (put w0.heap 7 #[.int .u8 0,.int .u8 1,.int .u8 28,.int .u8 2,.int .u8 29,.int .u8 14,.int .u8 24,.int .u8 3,.int .u8 30,.int .u8 22,.int .u8 20,.int .u8 15,.int .u8 25,.int .u8 17,.int .u8 4,.int .u8 8,.int .u8 31,.int .u8 27,.int .u8 13,.int .u8 23,.int .u8 21,.int .u8 19,.int .u8 16,.int .u8 7,.int .u8 26,.int .u8 12,.int .u8 18,.int .u8 6,.int .u8 11,.int .u8 5,.int .u8 10,.int .u8 9]) 8 #[.int .u8 0,.int .u8 1,.int .u8 56,.int .u8 2,.int .u8 57,.int .u8 49,.int .u8 28,.int .u8 3,.int .u8 61,.int .u8 58,.int .u8 42,.int .u8 50,.int .u8 38,.int .u8 29,.int .u8 17,.int .u8 4,.int .u8 62,.int .u8 47,.int .u8 59,.int .u8 36,.int .u8 45,.int .u8 43,.int .u8 51,.int .u8 22,.int .u8 53,.int .u8 39,.int .u8 33,.int .u8 30,.int .u8 24,.int .u8 18,.int .u8 12,.int .u8 5,.int .u8 63,.int .u8 55,.int .u8 48,.int .u8 27,.int .u8 60,.int .u8 41,.int .u8 37,.int .u8 16,.int .u8 46,.int .u8 35,.int .u8 44,.int .u8 21,.int .u8 52,.int .u8 32,.int .u8 23,.int .u8 11,.int .u8 54,.int .u8 26,.int .u8 40,.int .u8 15,.int .u8 34,.int .u8 20,.int .u8 31,.int .u8 10,.int .u8 25,.int .u8 14,.int .u8 19,.int .u8 9,.int .u8 13,.int .u8 8,.int .u8 7,.int .u8 6]) 6 #[.int .u64 1,.int .u64 10,.int .u64 100,.int .u64 1000,.int .u64 10000,.int .u64 100000,.int .u64 1000000,.int .u64 10000000,.int .u64 100000000,.int .u64 1000000000,.int .u64 10000000000,.int .u64 100000000000,.int .u64 1000000000000,.int .u64 10000000000000,.int .u64 100000000000000,.int .u64 1000000000000000,.int .u64 10000000000000000,.int .u64 100000000000000000,.int .u64 1000000000000000000,.int .u64 10000000000000000000]) 5 #[.int .u8 128,.int .u8 191,.int .u8 160,.int .u8 191,.int .u8 128,.int .u8 159,.int .u8 144,.int .u8 191,.int .u8 128,.int .u8 143,.int .u8 0,.int .u8 0,.int .u8 0,.int .u8 0,.int .u8 0,.int .u8 0,.int .u8 0,.int .u8 0,.int .u8 0,.int .u8 0,.int .u8 0,.int .u8 0,.int .u8 0,.int .u8 0,.int .u8 0,.int .u8 0,.int .u8 0,.int .u8 0,.int .u8 0,.int .u8 0,.int .u8 0,.int .u8 0]) 0 #[.string ⟨#[99,108,97,115,115]⟩,.string ⟨#[101,120,116,101,110,100,115]⟩,.string ⟨#[115,116,97,116,105,99]⟩,.string ⟨#[118,111,105,100]⟩,.string ⟨#[105,110,116]⟩,.string ⟨#[98,111,111,108,101,97,110]⟩,.string ⟨#[105,102]⟩,.string ⟨#[101,108,115,101]⟩,.string ⟨#[119,104,105,108,101]⟩,.string ⟨#[114,101,116,117,114,110]⟩,.string ⟨#[112,114,105,110,116]⟩,.string ⟨#[116,114,117,101]⟩,.string ⟨#[102,97,108,115,101]⟩,.string ⟨#[110,117,108,108]⟩,.string ⟨#[116,104,105,115]⟩,.string ⟨#[110,101,119]⟩]) 4 (Go.Pinned.utf8FirstZ.map fun n:Nat=>Value.int .u8 (n:Int)).toArray) 3 #[.iface 180 (.pointer (some ⟨low,0,none⟩))]) 2 #[.iface 180 (.pointer (some ⟨low+1,0,none⟩))])}
end Go.Proofs.YteablckbgpogiaaGreatDoor
set_option linter.unusedSectionVars false
set_option maxRecDepth 100000
namespace Go.Proofs.YteablckbgpogiaaGreatDoor
open Go Go.Cn
abbrev noGlob :Glob:=⟨fun _=>True,fun _ _ _ _=>trivial⟩
theorem g0 :Tryz.prog.globalNamed "concordat/lex.kept"=some 0:=by kernel_rfl
theorem g4 :Tryz.prog.globalNamed "strconv.ErrRange"=some 3:=by kernel_rfl
theorem gt0 :(Tryz.prog.globals[0]?).map (·.type)=some 138:=by kernel_rfl
theorem gt4 :(Tryz.prog.globals[3]?).map (·.type)=some 62:=by kernel_rfl
theorem cells9 :Tryz.prog.cellsOf 9=1:=by kernel_rfl
theorem keptCells {W:World} {r:List (String × DataW Unit)} (h:laidMet Tryz.prog (("concordat/lex.kept",Rows.laid_concordat_lex_kept)::r) W):GCells ⟨W,fun b=>b<W.heap.size⟩ 0 cellsKept:=by
 obtain⟨ps,⟨g',t',cs,fuel,p,q,hg',ht',hvar,hd,_,_⟩,_⟩:=h
 obtain rfl:=Option.some.inj (g0.symm.trans hg')
 obtain rfl:=Option.some.inj (gt0.symm.trans ht')
 refine @GCells.of noGlob _ _ _ (fun j v hj=> ?_) (Nat.zero_lt_succ _)
 rw[World.var?_cell g0 hvar j]
 have hk:∃l,kept[j]? =some l/\v= .string ⟨l.toArray⟩:=by
  have e:cellsKept=kept.map fun l=>Value.string ⟨l.toArray⟩:=rfl
  rw[e,List.getElem?_map]at hj
  cases hl:kept[j]? with
  |none=>rw[hl]at hj;cases hj
  |some l=>rw[hl]at hj;exact⟨l,rfl,(Option.some.inj hj).symm⟩
 obtain⟨l,hl,rfl⟩:=hk
 have:=arr_strs (L:=kept) Tryz.underlying138 Tryz.underlying9 cells9 hd j l hl
 simpa using this
theorem startGlob {W:World} {d1 d2 d3 d4 d5:String × DataW Unit} {r:List (String × DataW Unit)} (h:laidMet Tryz.prog (d1::d2::d3::d4::("strconv.ErrRange",Rows.laid_strconv_ErrRange)::d5::("concordat/lex.kept",Rows.laid_concordat_lex_kept)::r) W) (hs:W.ShapedOpen Tryz.prog):
  (@theGlob ⟨False⟩).ok ⟨W,fun b=>b<W.heap.size⟩:=by
 refine⟨keptCells h.tail.tail.tail.tail.tail.tail,fun h'=>h'.elim,?_,?_⟩
 ·obtain⟨m,hm⟩:=Tryz.laysM143.s1_3 W hs
  refine⟨m, @GCells.of noGlob _ _ _ (fun j v hj=> ?_) (Nat.zero_lt_succ _)⟩
  match j,hj with
  | 0,hj=>obtain rfl:=Option.some.inj hj;exact hm
 ·obtain⟨ps,⟨g',t',cs,fuel,p,q,hg',ht',hvar,hd,_,_⟩,_⟩:=h.tail.tail.tail.tail
  obtain rfl:=Option.some.inj (g4.symm.trans hg')
  obtain rfl:=Option.some.inj (gt4.symm.trans ht')
  have hcs:∃u v,cs.toList=[.iface u v]:=by
   cases fuel with
   |zero=>simp[DataW.trod]at hd
   |succ n=>
    rw[DataW.trod_step]at hd
    unfold DataW.trodStep at hd
    rw[show Tryz.prog.underlying 62=_ from Tryz.underlying62]at hd
    split at hd<;>first|exact⟨_,_,by assumption⟩|simp_all [Rows.laid_strconv_ErrRange]
  obtain⟨u,v,hcs⟩:=hcs
  refine⟨u,v, @GCells.of noGlob _ _ _ (fun j x hj=> ?_) (Nat.zero_lt_succ _)⟩
  rw[World.var?_cell g4 hvar j]
  have:cs[j]? =cs.toList[j]? :=by simp
  rw[this,hcs]
  exact hj
end Go.Proofs.YteablckbgpogiaaGreatDoor
set_option linter.unusedSectionVars false
set_option maxRecDepth 100000
set_option maxHeartbeats 4000000
namespace Go.Proofs.YteablckbgpogiaaGreatDoor
open Go Go.Cn
variable [Glob]
theorem opFile :Opens Tryz.prog 50 (fr fApiFile):=opens_strct (by kernel_rfl) Tryz.underlying50 ⟨rfl,opens_str (by kernel_rfl) Tryz.underlying9,rfl,opens_str (by kernel_rfl) Tryz.underlying9,trivial⟩
 (fun ys=>⟨ApiFile.mk (ys ⟨0,show 0<2 by decide⟩) (ys ⟨1,show 1<2 by decide⟩),fun⟨i,hi⟩=>by match i,hi with| 0,_=>rfl| 1,_=>rfl|n+2,hi=>exact absurd (show n+2<2 from hi) (by omega)⟩)
theorem cells50 :Tryz.prog.cellsOf 50=2:=by kernel_rfl
theorem file_bulk {s:St} {H:Type} {enc:TypeId × Value->H} {sp:Nat->Bool} {hd:Bool} {fuel:Nat} {a:ApiFile} {cs:List Value} {x:DataW H × List MemPlace} (ha:(fr fApiFile).c s a cs) (h:DataW.trod enc Tryz.prog s.w 0 sp hd fuel 50 cs=some x):
  a.Text.length+a.Path.length+1<=Rows.uptoBulk x.1:=by
 obtain⟨xs,n,rfl,rfl,hl,hxl,hxs⟩:=DataW.trod_struct Tryz.underlying50 h
 obtain⟨_,_,rfl,rfl,_,_,rfl,rfl,rfl⟩:=ha
 replace hxl:xs.length=2:=hxl
 obtain⟨x0,x1,rfl⟩:∃x0 x1,xs=[x0,x1]:=by
  match xs,hxl with
  | [y0,y1],_=>exact⟨y0,y1,rfl⟩
 have h0:=hxs 0 _ rfl
 have h1:=hxs 1 _ rfl
 replace h0:DataW.trod enc Tryz.prog s.w 0 sp hd n 9 (([Value.string ⟨a.Path.toArray⟩]++_).take (Tryz.prog.cellsOf 9))=some x0:=h0
 replace h1:DataW.trod enc Tryz.prog s.w 0 sp hd n 9 (([Value.string ⟨a.Text.toArray⟩]++[]).take (Tryz.prog.cellsOf 9))=some x1:=h1
 rw[cells9]at h0 h1
 replace h0:DataW.trod enc Tryz.prog s.w 0 sp hd n 9 [Value.string ⟨a.Path.toArray⟩]=some x0:=h0
 replace h1:DataW.trod enc Tryz.prog s.w 0 sp hd n 9 [Value.string ⟨a.Text.toArray⟩]=some x1:=h1
 have b0:Rows.uptoBulk x0.1=a.Path.length+1:=by
  obtain⟨z,e1,rfl,_⟩:=DataW.trod_string Tryz.underlying9 h0
  injection e1 with e1 _
  injection e1 with e1
  rw[← e1]
  simp[Rows.uptoBulk]
 have b1:Rows.uptoBulk x1.1=a.Text.length+1:=by
  obtain⟨z,e1,rfl,_⟩:=DataW.trod_string Tryz.underlying9 h1
  injection e1 with e1 _
  injection e1 with e1
  rw[← e1]
  simp[Rows.uptoBulk]
 simp only[Rows.uptoBulk,List.map_cons,List.map_nil,Rows.uptoBulkAll]
 omega
theorem files_all {H:Type}:∀(l:List ApiFile) (es:List (DataW H × List MemPlace)),l.length=es.length->(∀(i:Nat) a e,l[i]? =some a->es[i]? =some e->a.Text.length+a.Path.length+1<=Rows.uptoBulk e.1)->fsum l<=Rows.uptoBulkAll (es.map (·.1))
 | [],[],_,_=>by simp[fsum]
 |a::l,e::es,hl,h=>by
  have h1:=h 0 a e rfl rfl
  have h2:=files_all l es (by simpa using hl) (fun i a e h3 h4=>h (i+1) a e h3 h4)
  simp only[List.map_cons,Rows.uptoBulkAll,fsum,List.sum_cons]at h2 ⊢
  omega
 | [],_::_,hl,_=>by simp at hl
 |_::_,[],hl,_=>by simp at hl
theorem files_bulk {s:St} (hs:AllF s) {H:Type} {enc:TypeId × Value->H} {sp:Nat->Bool} {hd:Bool} {fuel:Nat} {a:List ApiFile} {v:Value} {x:DataW H × List MemPlace} (ha:lstP (fr fApiFile) a s v) (h:DataW.trod enc Tryz.prog s.w 0 sp hd fuel 40 [v]=some x):
  fsum a<=Rows.uptoBulk x.1:=by
 obtain⟨ad,cap,hv,_,hrow⟩:=ha
 rcases DataW.trod_slice Tryz.underlying40 h with⟨hn,_⟩|⟨ad2,len,cap2,elems,rest,n2,rfl,hn,hx8,_,_,_,hel,hall,_,_⟩
 ·obtain rfl:v= .slice none 0 0:=by simpa using hn
  have hz:a.length=0:=by injection hv with _ h2 _;exact h2.symm
  rw[List.eq_nil_of_length_eq_zero hz]
  simp[fsum]
 ·obtain rfl:v= .slice (some ad2) len cap2:=by simpa using hn
  injection hv with hv1 hv2 hv3
  subst hv1 hv2
  rw[hx8]
  simp only[Rows.uptoBulk]
  suffices hsum:fsum a<=Rows.uptoBulkAll (elems.map (·.1))by omega
  refine files_all _ _ hel.symm (fun i y e hy he=> ?_)
  rcases hrow with hnil|⟨ad3,had,hsp,hrow⟩
  ·rw[hnil]at hy;simp at hy
  ·obtain rfl:=Option.some.inj had
   obtain⟨ci,h1,h2⟩:=hrow i y hy
   have hi:=(List.getElem?_eq_some_iff.1 hy).1
   have h3:=hall i hi
   rw[he,Option.bind_eq_some_iff]at h3
   obtain⟨ci',h4,h5⟩:=h3
   rw[cells50]at h4
   have hadd:ad2.add (i * 2)=⟨ad2.block,ad2.off+i * (fr fApiFile).size,none⟩:=by
    have hs9:(fr fApiFile).size=2:=rfl
    rw[hs9]
    obtain⟨b0,o0,sp0⟩:=ad2
    obtain rfl:sp0=none:=hsp
    unfold Addr.add
    split
    ·rename_i h'
     simp only[h',Nat.add_zero]
    ·rfl
   obtain⟨g1,g2⟩:=lies_of_cells hs h4 (by decide)
   have hlen:ci.length=2:=(fr fApiFile).len h1
   have hcc:ci'=ci:=by
    refine List.ext_getElem? (fun j=> ?_)
    rcases Nat.lt_or_ge j 2 with hj|hj
    ·have e1:=g2.cell (j:=j) (List.getElem?_eq_getElem (by omega))
     rw[hadd]at e1
     have e2:=h2.cell (j:=j) (List.getElem?_eq_getElem (by omega))
     rw[List.getElem?_eq_getElem (by omega),List.getElem?_eq_getElem (by omega),← e1,← e2]
    ·rw[List.getElem?_eq_none (by omega),List.getElem?_eq_none (by omega)]
   subst hcc
   exact file_bulk h1 h5
end Go.Proofs.YteablckbgpogiaaGreatDoor
