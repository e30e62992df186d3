/- Contracts of the library, and what is proved by hand (printed by wip/gen/gen.py). -/
import Derived.Test.YtgkcoicaopilhaaGreatDoorZH
import Derived.Test.YtgkcoicaopilhaaGreatDoorZJ
import Derived.Test.YtgkcoicaopilhaaGreatDoorLay
import Derived.Lib.ConvBytes
import Derived.Lib.AtoiErrMem
import Derived.Lib.AppendIntMem
import Derived.Test.YtgkcoicaopilhaaGreatDoorZT
set_option linter.unusedSimpArgs false
set_option linter.unusedVariables false
set_option linter.unusedSectionVars false
set_option linter.unusedSectionVars false
set_option maxRecDepth 100000
set_option maxHeartbeats 4000000
namespace Go.Proofs.YtgkcoicaopilhaaGreatDoor
open Go Go.Cn
theorem gKept :∀s,Glob.ok s->RowAt am s ⟨0,0,none⟩ kept:=fun _ h=>GCells.row (R:=am) h.1 (rowC_flat (R:=am) (fun l=>[.string ⟨l.toArray⟩]) (fun _ _=>rfl))
theorem allP2 {s:St} {p q:Pr} {vs:List Value} (h:AllP s [p,q] vs):∃v u,vs=[v,u]/\p.p s v/\q.p s u:=by
 match vs,h with
 | [v,u],h=>exact⟨v,u,rfl,h.1,h.2.1⟩
theorem allP3 {s:St} {p q r:Pr} {vs:List Value} (h:AllP s [p,q,r] vs):∃v u t,vs=[v,u,t]/\p.p s v/\q.p s u/\r.p s t:=by
 match vs,h with
 | [v,u,t],h=>exact⟨v,u,t,rfl,h.1,h.2.1,h.2.2.1⟩
theorem strings_IndexByte_ok (x:List UInt8) (c r:Int) (h:strings_IndexByte x c=some r):FnP Tryz.prog 105 [ai x,Pr.u8 c] (Pr.i64 r):=by
 refine fn_same en105 (fun s vs hs ha=> ?_)
 obtain⟨v,u,rfl,h1,h2⟩:=allP2 ha
 obtain rfl:v= .string (bs x):=h1
 obtain rfl:u= .int .u8 c:=h2
 refine(Tryz.strings_IndexByte (bs x) c s.w).mono ?_
 rintro e w' ⟨rfl,rfl⟩
 obtain rfl:=Option.some.inj h
 exact⟨_,rfl,rfl,rfl⟩
theorem strings_Index_ok (x y:List UInt8) (r:Int) (h:strings_Index x y=some r):FnP Tryz.prog 77 [ai x,ai y] (Pr.i64 r):=by
 refine fn_same en77 (fun s vs hs ha=> ?_)
 obtain⟨v,u,rfl,h1,h2⟩:=allP2 ha
 obtain rfl:v= .string (bs x):=h1
 obtain rfl:u= .string (bs y):=h2
 unfold strings_Index at h
 split at h
 ·rename_i hlt
  obtain⟨m,hm⟩:=hs.glob.2.1
  have hc:=hm.lies.cell (j:=0) rfl
  have ha:(⟨1,0,none⟩:Addr).add 0=⟨1,0,none⟩:=by simp[Addr.add]
  rw[ha]at hc
  refine(Tryz.strings_Index (bs x) (bs y) m s.w (by simpa [bs,ByteArray.size] using hlt) hc).mono ?_
  rintro e w' ⟨rfl,rfl⟩
  obtain rfl:=Option.some.inj h
  exact⟨_,rfl,rfl,rfl⟩
 cases h
theorem strconv_ParseInt_ok (x:List UInt8) (b k:Int) (r:Int × Bool) (h:j7 x b k=some r):FnP Tryz.prog 79 [ai x,Pr.i64 b,Pr.i64 k] (bh [Pr.i64 r.1,Pr.err r.2]):=by
 refine fn_below en79 (fun s vs hs ha=> ?_)
 obtain⟨v,u,t,rfl,h1,h2,h3⟩:=allP3 ha
 obtain rfl:v= .string (bs x):=h1
 obtain rfl:u= .int .i64 b:=h2
 obtain rfl:t= .int .i64 k:=h3
 unfold j7 at h
 split at h
 ·rename_i hc
  obtain⟨rfl,rfl,hlen⟩:=hc
  have hsz:(bs x).size=x.length:=by simp[bs,ByteArray.size]
  have hdl:(bs x).data.toList=x:=by simp[bs]
  cases hp:Lib.parseIntB 64 x with
  |ok v=>
   rw[hp]at h
   obtain rfl:=Option.some.inj h
   refine(Tryz.strconv_ParseInt_ok (bs x) (by rw[hsz];omega) v (by rw[hdl];exact hp) s.w).mono ?_
   rintro e w' ⟨rfl,hw⟩
   refine⟨_,rfl,?_,fun F'=>⟨[_,_],rfl,rfl,rfl,trivial⟩⟩
   rcases hw with rfl|⟨t,rfl⟩
   ·exact Go.RowKit.Below.refl _ _
   exact Lib.bytesWorld_below _ _ _
  |range=>
   rw[hp]at h
   obtain rfl:=Option.some.inj h
   obtain⟨te,pe,hg⟩:=hs.glob.2.2.1
   have hc:=hg.lies.cell (j:=0) rfl
   have ha:(⟨3,0,none⟩:Addr).add 0=⟨3,0,none⟩:=by simp[Addr.add]
   rw[ha]at hc
   refine(Tryz.strconv_ParseInt_range (bs x) (by rw[hsz];exact hlen) (by rw[hdl];exact hp) (.iface te pe) s.w hc (.inr ⟨te,pe,rfl⟩)).mono ?_
   rintro e w' ⟨N,rfl,_,_,hb⟩
   rw[hdl]
   exact⟨_,rfl,hb,fun F'=>⟨[_,_],rfl,rfl,⟨_,_,rfl⟩,trivial⟩⟩
  |_=>rw[hp]at h;cases h
 cases h
theorem strings_Join_ok (x:List (List UInt8)) (y r:List UInt8) (h:strings_Join x y=some r):FnP Tryz.prog 71 [aj am x,ai y] (ai r):=by
 refine fn_below en71 (fun s vs hs ha=> ?_)
 obtain⟨v,u,rfl,h1,h2⟩:=allP2 ha
 obtain rfl:u= .string (bs y):=h2
 obtain⟨a,cap,rfl,⟨hcap,hnil⟩,hrow⟩:=h1
 unfold strings_Join at h
 split at h
 ·rename_i hc
  obtain⟨hl,hlen⟩:=hc
  obtain rfl:=Option.some.inj h
  have hmap:(x.map bs).map (·.data.toList)=x:=by
   rw[List.map_map]
   conv=>rhs;rw[← List.map_id x]
   congr 1
  have fin:∀e w',e=Ending.returned (.string ⟨(Lib.join ((x.map bs).map (·.data.toList)) (bs y).data.toList).toArray⟩)/\Go.RowKit.Below s.w.heap.size s.w w'->∃v',e= .returned v'/\Go.RowKit.Below s.w.heap.size s.w w'/\∀F',(ai (Lib.join x y)).p ⟨w',F'⟩ v':=by
   rintro e w' ⟨rfl,hw⟩
   refine⟨_,rfl,hw,fun F'=> ?_⟩
   rw[hmap]
   have:(bs y).data.toList=y:=by simp[bs]
   rw[this]
   rfl
  rcases hrow with rfl|⟨ad,rfl,hsp,hrow⟩
  ·refine(Tryz.strings_Join_none a cap (bs y) s.w).mono ?_
   rintro e w' ⟨rfl,rfl⟩
   exact⟨_,rfl,Go.RowKit.Below.refl _ _,fun F'=>rfl⟩
  cases x with
  |nil=>
   refine(Tryz.strings_Join_none (some ad) cap (bs y) s.w).mono ?_
   rintro e w' ⟨rfl,rfl⟩
   exact⟨_,rfl,Go.RowKit.Below.refl _ _,fun F'=>rfl⟩
  |cons x0 x1=>
   obtain⟨bk,o,sp⟩:=ad
   obtain rfl:sp=none:=hsp
   have hbk:bk<s.w.heap.size:=by
    obtain⟨cs,_,h2⟩:=hrow 0 x0 rfl
    exact hs.lt _ h2.2.1
   have hcells:∀(j:Nat) z,((x0::x1).map bs)[j]? =some z->s.w.cell? ⟨bk,o+j,none⟩=some (.string z):=by
    intro j z hj
    rw[List.getElem?_map]at hj
    cases hl:(x0::x1)[j]? with
    |none=>rw[hl]at hj;cases hj
    |some q=>
     rw[hl]at hj
     obtain rfl:=Option.some.inj hj
     obtain⟨cs,h1,h2⟩:=hrow j q hl
     obtain rfl:cs=[.string (bs q)]:=h1
     have:=h2.cell (j:=0) rfl
     have ha:((⟨bk,o+j * am.size,none⟩:Addr).add 0)=⟨bk,o+j,none⟩:=by simp[Addr.add,am,Rp.lit]
     rw[ha]at this
     exact this
   have hy:(bs y).data.toList=y:=by simp[bs]
   have hj:=Tryz.strings_Join bk o cap ((x0::x1).map bs) (bs y) s.w hcells hbk (by rw[List.length_map];exact hl) (by rw[List.length_map];exact hcap) (by rw[hmap,hy];exact hlen)
   rw[List.length_map]at hj
   exact hj.mono fin
 cases h
theorem g4 :Tryz.prog.globalNamed "internal/strconv.uint64pow10"=some 4:=by kernel_rfl
theorem internal_strconv_FormatInt_ok (n b:Int) (r:List UInt8) (h:fh n b=some r):FnP Tryz.prog 151 [Pr.i64 n,Pr.i64 b] (ai r):=by
 refine fn_below en151 (fun s vs hs ha=> ?_)
 obtain⟨v,u,rfl,h1,h2⟩:=allP2 ha
 obtain rfl:v= .int .i64 n:=h1
 obtain rfl:u= .int .i64 b:=h2
 unfold fh at h
 split at h
 ·rename_i hc
  obtain⟨rfl,h1,h2⟩:=hc
  obtain rfl:=Option.some.inj h
  obtain⟨hF,T,fz,hp⟩:=hs.glob.2.2.2
  refine(Tryz.internal_strconv_FormatInt_10 n h1 h2 s.w ?_).mono ?_
  ·unfold Lib.TabIs World.var?
   rw[g4]
   simp[hp]
  rintro e w' ⟨rfl,k,os,rfl⟩
  exact⟨_,rfl,Lib.below_grow _ _ (Nat.le_refl _) k os,fun F'=>rfl⟩
 cases h
theorem w64_same {n:Int} (h1: -9223372036854775808<=n) (h2:n<=9223372036854775807):w64 n=n:=by
 unfold w64 IntKind.wrap
 have e1:(2:Int) ^ (IntKind.i64.bits)=18446744073709551616:=rfl
 have e2:(2:Int) ^ (IntKind.i64.bits - 1)=9223372036854775808:=rfl
 have e3:IntKind.i64.signed=true:=rfl
 simp only[e1,e2,e3,Bool.true_and,decide_eq_true_eq]
 split<;>omega
def erMap (l:List (List UInt8)):SMap Bool:=l.foldl (fun m k=>mset k (!(k==[])) m) []
theorem erMap_snoc (l:List (List UInt8)) (k:List UInt8):erMap (l++[k])=mset k (!(k==[])) (erMap l):=by simp[erMap]
theorem erMap_get (k:List UInt8):∀(l:List (List UInt8)) (m:SMap Bool),mget k false (l.foldl (fun m k=>mset k (!(k==[])) m) m)=if k∈l then !(k==[])else mget k false m
 | [],m=>rfl
 |j::l,m=>by
  simp only[List.foldl_cons,List.mem_cons]
  rw[erMap_get k l,mget_mset]
  by_cases hj:j=k
  ·subst hj
   by_cases hl:j∈l<;>simp[hl]
  ·have hkj:¬k=j:=fun e=>hj e.symm
   simp[hj,hkj]
theorem erMap_eq (l:List (List UInt8)) (k:List UInt8):(if mget k false (erMap l)=true then([95]:List UInt8)else k)=(if k∈l/\k≠[]then[95]else k):=by
 unfold erMap
 rw[erMap_get]
 by_cases h:k∈l<;>by_cases hk:k=[]<;>simp[h,hk,mget]
theorem ty72 :TyOK Tryz.prog 72 1 false:=⟨Tryz.sizeOf72,Tryz.isAgg72⟩
theorem en47 :Cn.Enters Tryz.prog 47:=⟨_,Tryz.func47,by decide,rfl⟩
theorem shape_eraser_1_ok (k:List UInt8) (m:SMap Bool):FnP Tryz.prog 47 [ai k,bj (Rp.mapS Rp.bool) m] (ai (if mget k false m=true then[95]else k)):=by
 refine bo (n:=8) (rs:=[3]) Tryz.func47 rfl Tryz.ntmps47 ⟨by decide,Tryz.results47⟩ (by decide) (fun s0=> ?_)
 refine W_rs ?_
 refine rq (out:=ai []) ae ?_
 refine a5 ?_
 refine W_rs ?_
 refine rq (out:=Pr.mapS Rp.bool m) (c5 (R:=Rp.mapS Rp.bool) (a:=m) ty72) ?_
 refine rq (out:=ai k) ag ?_
 refine rq (out:=Pr.bool (mget k false m)) (qMapGetS (R:=Rp.bool) (m:=m) (kx:=k) (z:=false) Tryz.underlying72 Tryz.underlying9 Tryz.zeroValue4 (fun _=>rfl)) ?_
 refine ao (b:=mget k false m) rfl (fun hc=> ?_) (fun hc=> ?_)
 ·refine W_rs ?_
  refine rq (out:=ai [95]) ae ?_
  refine a6 ⟨rfl,?_⟩
  rw[if_pos hc]
  exact aa
 refine au ?_
 refine W_rs ?_
 refine rq (out:=ai k) ag ?_
 refine rq (out:=ai k) ae ?_
 refine a6 ⟨rfl,?_⟩
 rw[if_neg (by rw[hc];decide)]
 exact aa
theorem shape_eraser_ok (x0:List (List UInt8)) (r:((List UInt8)->Option (List UInt8))) (h:shape_eraser x0=some r):FnP Tryz.prog 27 [aj am x0] (Pr.pfn Tryz.prog (spec48 r)):=by
 unfold shape_eraser at h
 split at h
 case isFalse=>cases h
 rename_i hlen
 have hr:∀k y,r k=some y->y=(if mget k false (erMap x0)=true then[95]else k):=by
  intro k y hy
  rw[erMap_eq]
  obtain rfl:=Option.some.inj h
  exact(Option.some.inj hy).symm
 clear h
 refine bo (n:=19) (rs:=[2]) Tryz.func27 rfl Tryz.ntmps27 ⟨by decide,Tryz.results27⟩ (by decide) (fun s0=> ?_)
 refine W_rs ?_
 refine rq (out:=Pr.is .nilFunc) ae ?_
 refine W_rs ?_
 refine rMakeMap Rp.bool (fun b6=> ?_)
 refine cb (R:=Rp.mapO) (z:=none) Tryz.zeroValue72 (fun _=>rfl) (fun b3=> ?_)
 refine aq (R:=Rp.mapO) (R':=Rp.mapO) (a:=none) (y:=some b6) 1 Tryz.sizeOf72 (Upd.refl _) ?_
 refine a5 ?_
 refine W_rs ?_
 refine rq (out:=aj am x0) ag ?_
 refine rq (out:=Pr.i64 (x0.length:Int)) (fi rfl Tryz.underlying25) ?_
 refine rq (out:=Pr.i64 0) ag ?_
 refine az ?_
 refine du 0 (fun e C=>At [(3,ap b3 0)] [Own.smap b6 Rp.bool (erMap x0),Own.box b3 Rp.mapO (some b6)] e C) ?_ ?_
 ·rintro e C hat1
  refine W_at hat1 ?_
  clear hat1
  refine W_relMap 3 ?_
  refine W_rs ?_
  refine rq (out:=Pr.clo 47 [] [bj (Rp.mapS Rp.bool) (erMap x0)]) qMakeFunc ?_
  refine rq (out:=Pr.clo 47 [] [bj (Rp.mapS Rp.bool) (erMap x0)]) ae ?_
  refine a6 ⟨rfl,clo_pfn en47 ?_⟩
  rintro args res ⟨k,y,rfl,rfl,hy⟩
  obtain rfl:=hr k y hy
  exact shape_eraser_1_ok k (erMap x0)
 refine eh (fun m e C=>∃i:Nat,i+m=x0.length+1/\0<m/\At [(3,ap b3 0),(7,aj am x0),(8,Pr.i64 (x0.length:Int)),(9,Pr.i64 (i:Int))] [Own.smap b6 Rp.bool (erMap (x0.take i)),Own.box b3 Rp.mapO (some b6)] e C) (x0.length+1) ⟨0,by omega,by omega,⟨⟨aa,aa,aa,aa,trivial⟩,Pick.refl _⟩⟩ ?_
 rintro m e C ⟨i,him,hm,hat⟩
 refine W_at hat ?_
 clear hat
 refine W_rs ?_
 refine rq (out:=Pr.bool (decide ((i:Int)<(x0.length:Int)))) qInt ?_
 refine a5 ?_
 refine ao (b:=decide ((i:Int)<(x0.length:Int))) rfl (fun hc=> ?_) (fun hc=> ?_)
 ·have hi:i<x0.length:=by have:=of_decide_eq_true hc;omega
  obtain⟨k,hk⟩:∃k,x0[i]? =some k:=⟨x0[i],by simp[hi]⟩
  have hidx:idx x0 (i:Int)=some k:=by simp[idx,hk]
  refine au ?_
  refine a5 ?_
  refine az ?_
  refine W_rs ?_
  refine rq (out:=bj am k) (ef (R:=am) (l:=x0) Tryz.underlying25 Tryz.sizeOf9 hidx) ?_
  refine rq (out:=ai k) (c5 (R:=am) (a:=k) ty9) ?_
  refine rq (out:=ai k) ae ?_
  refine W_r ?_
  refine rq (out:=Pr.mp b6) (a8 (R:=Rp.mapO) (a:=some b6) (R':=Rp.mapO) 1 ty72 (Sub.refl _)) ?_
  refine rq (out:=ai k) ag ?_
  refine rq (out:=ai k) ag ?_
  refine rq (out:=Pr.bool (!(k==[]))) qStr ?_
  refine rMapSet 0 (R:=Rp.bool) (m:=erMap (x0.take i)) (kx:=k) (v:= !(k==[])) Tryz.underlying72 Tryz.underlying9 ?_
  refine W_r ?_
  refine rq (out:=Pr.i64 (w64 ((i:Int)+1))) qInt ?_
  refine rq (out:=Pr.i64 (w64 ((i:Int)+1))) ag ?_
  have hw:w64 ((i:Int)+1)=((i+1:Nat):Int):=by rw[w64_same (by omega) (by omega)];omega
  rw[hw]
  refine⟨m - 1,by omega,i+1,by omega,by omega,⟨⟨aa,aa,aa,aa,trivial⟩,?_⟩⟩
  have ht:erMap (x0.take (i+1))=mset k (!(k==[])) (erMap (x0.take i)):=by
   rw[← erMap_snoc,List.take_add_one,hk]
   rfl
  rw[ht]
  exact Pick.refl _
 have hi:x0.length<=i:=by have:=of_decide_eq_false hc;omega
 refine dg ?_
 have ht:x0.take i=x0:=List.take_of_length_le hi
 rw[ht]
 exact⟨⟨aa,trivial⟩,Pick.refl _⟩
theorem idxN {α:Type} {l:List α} {z:Int} {i:Nat} {a:α} (hz:z=(i:Int)) (h:l[i]? =some a):idx l z=some a:=by subst hz;simp[idx,h]
theorem _root_.Go.Cn.Grid.set {α:Type} [Glob] {R:Rp α} {e5 e:TypeId} {v5:Value} {xs:List Slc} {L:List (List α)} {pos:Nat->Nat} {lo:Nat} {C:Ctx} (h:Grid R e5 e v5 xs L pos lo C) {i:Nat} {x:Slc} {l':List α} (hi:i<L.length) (hx:xs[i]? =some x) (hlt:pos i<C.length) (h0:pos i≠0)
  (hinj:∀k,lo<=k->k<L.length->pos k=pos i->k=i):Grid R e5 e v5 xs (L.set i l') pos lo (C.set (pos i) (Own.vec (slc x) R l' e)) where
 top:=by rw[List.getElem?_set_ne h0];exact h.top
 len:=by rw[List.length_set];exact h.len
 row:=fun k hk hl=>by
  rw[List.length_set]at hl
  by_cases hki:k=i
  ·subst hki
   exact⟨x,l',hx,by simp[hi],by simp[hlt]⟩
  ·obtain⟨x',l,g1,g2,g3⟩:=h.row k hk hl
   exact⟨x',l,g1,by rw[List.getElem?_set_ne (Ne.symm hki)];exact g2,by rw[List.getElem?_set_ne (fun e=>hki (hinj k hk hl e.symm))];exact g3⟩
theorem _root_.Go.Cn.Grid.as {α:Type} [Glob] {R:Rp α} {e5 e:TypeId} {v5:Value} {xs:List Slc} {L L':List (List α)} {pos:Nat->Nat} {lo:Nat} {C:Ctx} (h:Grid R e5 e v5 xs L pos lo C) (he:L=L'):Grid R e5 e v5 xs L' pos lo C:=he▸h
def base (k:IntKind) (a b:List Int) (I:Nat):List (List Int):=List.replicate I (List.replicate (b.length+1) 0)++(eg k a b).drop I
theorem base_len (k:IntKind) (a b:List Int) {I:Nat} (h:I<=a.length):(base k a b I).length=a.length+1:=by
 have:=(lcsRows_lens k a b).1
 simp[base,this];omega
theorem base_at (k:IntKind) (a b:List Int) {I j:Nat} (h:I<=j):(base k a b I)[j]? =(eg k a b)[j]? :=by
 unfold base
 rw[List.getElem?_append_right (by simpa using h),List.getElem?_drop]
 simp;congr 1;omega
theorem base_set (k:IntKind) (a b:List Int) {i:Nat} {l:List Int} (h:(eg k a b)[i]? =some l):(base k a b (i+1)).set i l=base k a b i:=by
 have hi:=(List.getElem?_eq_some_iff.1 h).1
 have hl:(eg k a b)[i]=l:=(List.getElem?_eq_some_iff.1 h).2
 unfold base
 rw[List.replicate_succ',List.append_assoc,List.set_append_right _ _ (by simp),List.drop_eq_getElem_cons hi,hl]
 simp
theorem el136 :ElOK Tryz.prog 136 138 1 24:=⟨Tryz.underlying136,⟨Tryz.t138,_,rfl,rfl,rfl,rfl,rfl⟩,by decide⟩
theorem el138 :ElOK Tryz.prog 138 21 1 4:=⟨Tryz.underlying138,⟨Tryz.t21,_,rfl,rfl,rfl,rfl,rfl⟩,by decide⟩
theorem lcs_left_ok (a b:List Int) (r:List (List Int)) (h:lcs_left a b=some r):FnP Tryz.prog 126 [aj (Rp.int .i64) a,aj (Rp.int .i64) b] (aj (a9 (Rp.int .i32)) r):=by
 unfold lcs_left at h
 split at h
 case isFalse=>cases h
 rename_i hab
 obtain⟨ha,hb⟩:=hab
 obtain rfl:=Option.some.inj h
 clear h
 have hmk:∀(n k:Nat),n<=100000->k<=24->mkLen k (w64 ((n:Int)+1))=some (n+1):=by
  intro n k hn hk
  rw[w64_same (by omega) (by omega)]
  unfold mkLen
  have:(k:Int) * ((n:Int)+1)<=24 * ((n:Int)+1):=Int.mul_le_mul_of_nonneg_right (by omega) (by omega)
  rw[if_pos ⟨by omega,by omega,by omega⟩]
  simp
 refine bo (n:=90) (rs:=[4]) Tryz.func126 rfl Tryz.ntmps126 ⟨by decide,Tryz.results126⟩ (by decide) (fun s0=> ?_)
 refine W_rs ?_
 refine rq (out:=Pr.is (.slice none 0 0)) ae ?_
 refine W_rs ?_
 refine rq (out:=aj (Rp.int .i64) a) ag ?_
 refine rq (out:=Pr.i64 (a.length:Int)) (fi rfl Tryz.underlying71) ?_
 refine rq (out:=Pr.i64 (w64 ((a.length:Int)+1))) qInt ?_
 refine rMake (R:=f7) (z:=(none,0,0)) el136 Tryz.zeroValue138 (fun _=>rfl) (hmk _ _ ha (by omega)) (fun v5=> ?_)
 refine rq (out:=Pr.is v5) ae ?_
 have hx0:(List.replicate (a.length+1) ((none,0,0):Slc))[a.length]? =some (none,0,0):=by simp
 refine W_rs ?_
 refine rq (out:=Pr.is v5) ag ?_
 refine rq (out:=aj (Rp.int .i64) a) ag ?_
 refine rq (out:=Pr.i64 (a.length:Int)) (fi rfl Tryz.underlying71) ?_
 refine rq (out:=aj (Rp.int .i64) b) ag ?_
 refine rq (out:=Pr.i64 (b.length:Int)) (fi rfl Tryz.underlying71) ?_
 refine rq (out:=Pr.i64 (w64 ((b.length:Int)+1))) qInt ?_
 refine rMake (R:=Rp.int .i32) (z:=0) el138 Tryz.zeroValue21 (fun _=>rfl) (hmk _ _ hb (by omega)) (fun v=> ?_)
 refine rSl 1 rfl (fun x hx=> ?_)
 subst hx
 refine rq (out:=nq v5 (Int.toNat (a.length:Int) * f7.size)) (qIdxV 0 (R:=f7) (l:=List.replicate (a.length+1) ((none,0,0):Slc)) Tryz.underlying136 Tryz.sizeOf138 (idxN rfl hx0)) ?_
 refine rStoreE (R:=f7) (R':=f7) (l:=List.replicate (a.length+1) ((none,0,0):Slc)) (a:=(none,0,0)) (y:=x) (o:=0) 0 Tryz.sizeOf138 (Upd.refl _) (idxN rfl hx0) rfl ?_
 have hG0:Grid (Rp.int .i32) 138 21 v5 ((List.replicate (a.length+1) ((none,0,0):Slc)).set a.length x) (base .i32 a b a.length) (fun i=>a.length - i+1) a.length [Own.vec v5 f7 ((List.replicate (a.length+1) ((none,0,0):Slc)).set a.length x) 138,Own.vec (slc x) (Rp.int .i32) (List.replicate (b.length+1) 0) 21]:=by
  have hbl:=base_len .i32 a b (Nat.le_refl a.length)
  refine⟨rfl,by rw[List.length_set,List.length_replicate,hbl],fun i h1 h2=> ?_⟩
  obtain rfl:i=a.length:=by omega
  refine⟨x,(List.replicate (b.length+1) 0),List.getElem?_set_self (by simp),?_,?_⟩
  ·rw[base_at _ _ _ (Nat.le_refl _)]
   have h0:(eg .i32 a b)[a.length]? =((eg .i32 a b).drop a.length)[0]? :=by simp
   rw[h0,lcsRows_drop _ _ _ _ (Nat.le_refl _),List.drop_length]
   rfl
  simp
 refine a5 ?_
 refine W_rs ?_
 refine rq (out:=aj (Rp.int .i64) a) ag ?_
 refine rq (out:=Pr.i64 (a.length:Int)) (fi rfl Tryz.underlying71) ?_
 refine rq (out:=Pr.i64 (w64 ((a.length:Int) - 1))) qInt ?_
 refine rq (out:=Pr.i64 (w64 ((a.length:Int) - 1))) ae ?_
 refine az ?_
 refine du 0 (fun e C=>Chk [(5,Pr.is v5)] e/\∃xs,Grid (Rp.int .i32) 138 21 v5 xs (base .i32 a b 0) (fun i=>a.length - i+1) 0 C) ?_ ?_
 ·rintro e C ⟨hchk,xs,hG⟩
  refine W_at (C':=C) ⟨hchk,Pick.refl C⟩ ?_
  clear hchk
  refine W_relGrid 5 hG aa ?_
  refine W_rs ?_
  refine rq (out:=aj (a9 (Rp.int .i32)) (base .i32 a b 0)) ag ?_
  refine rq (out:=aj (a9 (Rp.int .i32)) (base .i32 a b 0)) ae ?_
  have hb0:base .i32 a b 0=eg .i32 a b:=by simp[base]
  rw[hb0]
  exact a6 ⟨rfl,aa⟩
 refine eh (fun m e C=>∃I,m=I/\I<=a.length/\∃zi:Int,zi=(I:Int) - 1/\Chk [(0,aj (Rp.int .i64) a),(1,aj (Rp.int .i64) b),(5,Pr.is v5),(6,Pr.i64 zi)] e/\∃xs,Grid (Rp.int .i32) 138 21 v5 xs (base .i32 a b I) (fun i=>a.length - i+1) I C/\C.length=a.length - I+2) a.length ⟨a.length,rfl,Nat.le_refl _,_,w64_same (by omega) (by omega),⟨aa,aa,aa,aa,trivial⟩,_,hG0,by simp⟩ ?_
 clear hG0
 rintro m e C ⟨I,rfl,hI,zi,hzi,hchk,xs,hG,hcl⟩
 refine W_at (C':=C) ⟨hchk,Pick.refl C⟩ ?_
 clear hchk
 refine a5 ?_
 refine W_rs ?_
 refine rq (out:=Pr.i64 zi) ag ?_
 refine rq (out:=Pr.bool (decide (zi≥0))) qInt ?_
 refine ao (b:=decide (zi≥0)) rfl (fun hc=> ?_) (fun hc=> ?_)
 ·obtain⟨i,rfl⟩:∃i0,m=i0+1:=⟨m - 1,by have:=of_decide_eq_true hc;omega⟩
  obtain rfl:zi=(i:Int):=by rw[hzi];omega
  obtain⟨x,hx⟩:∃x,a[i]? =some x:=⟨a[i],List.getElem?_eq_getElem (by omega)⟩
  obtain⟨nxt,hnx,hnl,hrow⟩:=lcsRows_at .i32 (b:=b) hx
  refine au ?_
  refine a5 ?_
  refine az ?_
  have hcl1:C.length=a.length - i+1:=by omega
  have hxl:xs.length=a.length+1:=by rw[hG.len];exact base_len _ _ _ hI
  obtain⟨x0,hx0⟩:∃x,xs[i]? =some x:=⟨xs[i],List.getElem?_eq_getElem (by omega)⟩
  refine W_rs ?_
  refine rq (out:=Pr.is v5) ag ?_
  refine rq (out:=Pr.i64 (i:Int)) ag ?_
  refine rq (out:=aj (Rp.int .i64) b) ag ?_
  refine rq (out:=Pr.i64 (b.length:Int)) (fi rfl Tryz.underlying71) ?_
  refine rq (out:=Pr.i64 (w64 ((b.length:Int)+1))) qInt ?_
  refine rMake (R:=Rp.int .i32) (z:=0) el138 Tryz.zeroValue21 (fun _=>rfl) (hmk _ _ hb (by omega)) (fun v=> ?_)
  have hnew:(C++[Own.vec v (Rp.int .i32) (List.replicate (b.length+1) 0) 21])[C.length]? =some (Own.vec v (Rp.int .i32) (List.replicate (b.length+1) 0) 21):=by simp
  have htop2:(C++[Own.vec v (Rp.int .i32) (List.replicate (b.length+1) 0) 21])[0]? =some (Own.vec v5 f7 xs 138):=by rw[List.getElem?_append_left (by omega)];exact hG.top
  refine rSl C.length hnew (fun xn hxn=> ?_)
  subst hxn
  refine rq (out:=nq v5 (Int.toNat (i:Int) * f7.size)) (qIdxV 0 (R:=f7) (l:=xs) Tryz.underlying136 Tryz.sizeOf138 (idxN rfl hx0) (hi:=htop2)) ?_
  refine rStoreE (R:=f7) (R':=f7) (l:=xs) (a:=x0) (y:=xn) (o:=0) 0 Tryz.sizeOf138 (Upd.refl _) (idxN rfl hx0) rfl ?_ (hi:=htop2)
  have hG2:Grid (Rp.int .i32) 138 21 v5 (xs.set i xn) ((base .i32 a b (i+1)).set i (part .i32 x b nxt b.length)) (fun i=>a.length - i+1) i ((C++[Own.vec (slc xn) (Rp.int .i32) (List.replicate (b.length+1) 0) 21]).set 0 (Own.vec v5 f7 (xs.set i xn) 138)):=by
   refine⟨List.getElem?_set_self (by simp),by rw[List.length_set,List.length_set];exact hG.len,fun k h1 h2=> ?_⟩
   rw[List.length_set,base_len _ _ _ hI]at h2
   by_cases hki:k=i
   ·subst hki
    refine⟨xn,_,List.getElem?_set_self (by omega),List.getElem?_set_self (by rw[base_len _ _ _ hI];omega),?_⟩
    rw[List.getElem?_set_ne (by omega),part_end]
    have:a.length - k+1=C.length:=by omega
    show(C++_)[a.length - k+1]? =_
    rw[this]
    exact hnew
   obtain⟨x',l,g1,g2,g3⟩:=hG.row k (by omega) (by rw[base_len _ _ _ hI];omega)
   refine⟨x',l,by rw[List.getElem?_set_ne (Ne.symm hki)];exact g1,by rw[List.getElem?_set_ne (Ne.symm hki)];exact g2,?_⟩
   have g3:C[a.length - k+1]? =_:=g3
   show(List.set _ _ _)[a.length - k+1]? =_
   rw[List.getElem?_set_ne (by omega),List.getElem?_append_left (by omega)]
   exact g3
  have hcl2:((C++[Own.vec (slc xn) (Rp.int .i32) (List.replicate (b.length+1) 0) 21]).set 0 (Own.vec v5 f7 (xs.set i xn) 138)).length=a.length - i+2:=by rw[List.length_set,List.length_append,hcl1];rfl
  refine W_rs ?_
  refine rq (out:=aj (Rp.int .i64) b) ag ?_
  refine rq (out:=Pr.i64 (b.length:Int)) (fi rfl Tryz.underlying71) ?_
  refine rq (out:=Pr.i64 (w64 ((b.length:Int) - 1))) qInt ?_
  refine rq (out:=Pr.i64 (w64 ((b.length:Int) - 1))) ae ?_
  refine az ?_
  have hzj0:w64 ((b.length:Int) - 1)=(b.length:Int) - 1:=w64_same (by omega) (by omega)
  have hlo:i<=i:=Nat.le_refl _
  have hpl:a.length - i+1<a.length - i+2:=by omega
  have hp0':∀i:Nat,a.length - i+1≠0:=fun i=>Nat.succ_ne_zero _
  refine du 2 (fun e C=>Chk [(0,aj (Rp.int .i64) a),(1,aj (Rp.int .i64) b),(5,Pr.is v5),(6,Pr.i64 (i:Int))] e/\∃xs,Grid (Rp.int .i32) 138 21 v5 xs (base .i32 a b i) (fun i=>a.length - i+1) i C/\C.length=a.length - i+2) ?_ ?_
  ·rintro e C ⟨hchk,xs,hG,hcl⟩
   refine W_at (C':=C) ⟨hchk,Pick.refl C⟩ ?_
   clear hchk
   refine W_r ?_
   refine rq (out:=Pr.i64 (i:Int)) ag ?_
   refine rq (out:=Pr.i64 (w64 ((i:Int) - 1))) qInt ?_
   refine rq (out:=Pr.i64 (w64 ((i:Int) - 1))) ae ?_
   exact⟨i,by omega,i,rfl,by omega,_,w64_same (by omega) (by omega),⟨aa,aa,aa,aa,trivial⟩,xs,hG,hcl⟩
  refine eh (fun m e C=>∃j,m=j/\j<=b.length/\∃zj:Int,zj=(j:Int) - 1/\Chk [(0,aj (Rp.int .i64) a),(1,aj (Rp.int .i64) b),(5,Pr.is v5),(6,Pr.i64 (i:Int)),(7,Pr.i64 zj)] e/\∃xs,Grid (Rp.int .i32) 138 21 v5 xs ((base .i32 a b (i+1)).set i (part .i32 x b nxt j)) (fun i=>a.length - i+1) i C/\C.length=a.length - i+2) b.length ⟨b.length,rfl,Nat.le_refl _,_,hzj0,⟨aa,aa,aa,aa,aa,trivial⟩,_,hG2,hcl2⟩ ?_
  clear hG hcl hG2 hcl2 hcl1 hnew htop2 hxl hx0 x0 xs
  rintro m e C ⟨j,rfl,hjm,zj,hzj,hchk,xs,hG,hcl⟩
  refine W_at (C':=C) ⟨hchk,Pick.refl C⟩ ?_
  clear hchk
  refine a5 ?_
  refine W_rs ?_
  refine rq (out:=Pr.i64 zj) ag ?_
  refine rq (out:=Pr.bool (decide (zj≥0))) qInt ?_
  refine ao (b:=decide (zj≥0)) rfl (fun hc=> ?_) (fun hc=> ?_)
  ·obtain⟨j,rfl⟩:∃j0,m=j0+1:=⟨m - 1,by have:=of_decide_eq_true hc;omega⟩
   obtain rfl:zj=(j:Int):=by rw[hzj];omega
   obtain⟨y,hy⟩:∃y,b[j]? =some y:=⟨b[j],List.getElem?_eq_getElem (by omega)⟩
   obtain⟨n0,n1,r1,hn0,hn1,hp0,hp1,hstep⟩:=part_step (k:= .i32) (x:=x) (b:=b) (nxt:=nxt) hnl hy
   have hLl:((base .i32 a b (i+1)).set i (part .i32 x b nxt (j+1))).length=a.length+1:=by rw[List.length_set];exact base_len _ _ _ (by omega)
   obtain⟨xi,li,hxi,hli,hCi⟩:=hG.row i hlo (by omega)
   obtain rfl:li=part .i32 x b nxt (j+1):=by rw[List.getElem?_set_self (by rw[base_len _ _ _ (by omega)];omega)]at hli;exact(Option.some.inj hli).symm
   obtain⟨x1,l1,hx1,hl1,hC1⟩:=hG.row (i+1) (by omega) (by omega)
   obtain rfl:l1=nxt:=by rw[List.getElem?_set_ne (by omega),base_at _ _ _ (Nat.le_refl _),hnx]at hl1;exact(Option.some.inj hl1).symm
   have hix:idx a (i:Int)=some x:=idxN rfl hx
   have hjy:idx b (j:Int)=some y:=idxN rfl hy
   have hwi:w64 ((i:Int)+1)=((i+1:Nat):Int):=by rw[w64_same (by omega) (by omega)];omega
   have hwj:w64 ((j:Int)+1)=((j+1:Nat):Int):=by rw[w64_same (by omega) (by omega)];omega
   have hvi:idx xs (i:Int)=some xi:=idxN rfl hxi
   have hvi1:idx xs (w64 ((i:Int)+1))=some x1:=idxN hwi hx1
   have hr1:idx l1 (w64 ((j:Int)+1))=some n1:=idxN hwj hn1
   have hr0:idx l1 (j:Int)=some n0:=idxN rfl hn0
   have hq0:idx (part .i32 x b l1 (j+1)) (j:Int)=some 0:=idxN rfl hp0
   have hq1:idx (part .i32 x b l1 (j+1)) (w64 ((j:Int)+1))=some r1:=idxN hwj hp1
   refine au ?_
   refine a5 ?_
   refine az ?_
   refine a5 ?_
   refine jm 9 hmx (by kernel_rfl) (by kernel_rfl) ?_
   refine qq (out:=aj (Rp.int .i64) a) ag ?_
   refine qq (out:=Pr.i64 (i:Int)) ag ?_
   refine qq (out:=bj (Rp.int .i64) x) (ef (R:=Rp.int .i64) (l:=a) Tryz.underlying71 Tryz.sizeOf3 hix) ?_
   refine qq (out:=Pr.i64 x) (c5 (R:=Rp.int .i64) (a:=x) ty3) ?_
   refine qq (out:=aj (Rp.int .i64) b) ag ?_
   refine qq (out:=Pr.i64 (j:Int)) ag ?_
   refine qq (out:=bj (Rp.int .i64) y) (ef (R:=Rp.int .i64) (l:=b) Tryz.underlying71 Tryz.sizeOf3 hjy) ?_
   refine qq (out:=Pr.i64 y) (c5 (R:=Rp.int .i64) (a:=y) ty3) ?_
   refine qq (out:=Pr.bool (x==y)) qInt ?_
   refine ao (b:=x==y) rfl (fun hxy=> ?_) (fun hxy=> ?_)
   ·refine jm 16 hmx (by kernel_rfl) (by kernel_rfl) ?_
    refine qq (out:=Pr.is v5) ag ?_
    refine qq (out:=Pr.i64 (i:Int)) ag ?_
    refine qq (out:=nq v5 (Int.toNat ((i:Int)) * f7.size)) (qIdxV 0 (R:=f7) (l:=xs) Tryz.underlying136 Tryz.sizeOf138 hvi (hi:=hG.top)) ?_
    refine qq (out:=Pr.is (slc xi)) (qLoadV (R:=f7) (R':=f7) (l:=xs) (a:=xi) (o:=0) 0 ty138 (Sub.refl _) (Nat.le_of_ble_eq_true rfl) hvi rfl (hi:=hG.top)) ?_
    refine qq (out:=Pr.i64 (j:Int)) ag ?_
    refine qq (out:=Pr.is v5) ag ?_
    refine qq (out:=Pr.i64 (i:Int)) ag ?_
    refine qq (out:=Pr.i64 (w64 ((i:Int)+1))) qInt ?_
    refine qq (out:=nq v5 (Int.toNat (w64 ((i:Int)+1)) * f7.size)) (qIdxV 0 (R:=f7) (l:=xs) Tryz.underlying136 Tryz.sizeOf138 hvi1 (hi:=hG.top)) ?_
    refine qq (out:=Pr.is (slc x1)) (qLoadV (R:=f7) (R':=f7) (l:=xs) (a:=x1) (o:=0) 0 ty138 (Sub.refl _) (Nat.le_of_ble_eq_true rfl) hvi1 rfl (hi:=hG.top)) ?_
    refine qq (out:=Pr.i64 (j:Int)) ag ?_
    refine qq (out:=Pr.i64 (w64 ((j:Int)+1))) qInt ?_
    refine qq (out:=nq (slc x1) (Int.toNat (w64 ((j:Int)+1)) * ((Rp.int .i32)).size)) (qIdxV (a.length - (i+1)+1) (R:=(Rp.int .i32)) (l:=l1) Tryz.underlying138 Tryz.sizeOf21 hr1 (hi:=hC1)) ?_
    refine qq (out:=Pr.int .i32 n1) (qLoadV (R:=(Rp.int .i32)) (R':=(Rp.int .i32)) (l:=l1) (a:=n1) (o:=0) (a.length - (i+1)+1) ty21 (Sub.refl _) (Nat.le_of_ble_eq_true rfl) hr1 rfl (hi:=hC1)) ?_
    refine qq (out:=Pr.int .i32 (IntKind.wrap .i32 (n1+1))) qInt ?_
    refine qq (out:=nq (slc xi) (Int.toNat (j:Int) * ((Rp.int .i32)).size)) (qIdxV (a.length - i+1) (R:=(Rp.int .i32)) (l:=part .i32 x b l1 (j+1)) Tryz.underlying138 Tryz.sizeOf21 hq0 (hi:=hCi)) ?_
    refine rStoreE (R:=(Rp.int .i32)) (R':=(Rp.int .i32)) (l:=part .i32 x b l1 (j+1)) (a:=0) (y:=IntKind.wrap .i32 (n1+1)) (o:=0) (a.length - i+1) Tryz.sizeOf21 (Upd.refl _) hq0 rfl ?_ (hi:=hCi)
    refine W_r ?_
    refine rq (out:=Pr.i64 (j:Int)) ag ?_
    refine rq (out:=Pr.i64 (w64 ((j:Int) - 1))) qInt ?_
    refine rq (out:=Pr.i64 (w64 ((j:Int) - 1))) ae ?_
    refine⟨j,by omega,j,rfl,by omega,_,w64_same (by omega) (by omega),⟨aa,aa,aa,aa,aa,trivial⟩,xs,(hG.set (by omega) hxi (by rw[hcl];exact hpl) (hp0' i) (fun k h1 h2 h3=>by have h3:a.length - k+1=a.length - i+1:=h3;rw[hLl]at h2;omega)).as ?_,by rw[List.length_set];exact hcl⟩
    rw[List.set_set]
    have hs:(part .i32 x b l1 (j+1)).set (Int.toNat (j:Int)) (IntKind.wrap .i32 (n1+1))=part .i32 x b l1 j:=by rw[← hstep,if_pos hxy];simp
    exact congrArg _ hs
   refine jm 23 hmx (by kernel_rfl) (by kernel_rfl) ?_
   refine qq (out:=Pr.is v5) ag ?_
   refine qq (out:=Pr.i64 (i:Int)) ag ?_
   refine qq (out:=nq v5 (Int.toNat ((i:Int)) * f7.size)) (qIdxV 0 (R:=f7) (l:=xs) Tryz.underlying136 Tryz.sizeOf138 hvi (hi:=hG.top)) ?_
   refine qq (out:=Pr.is (slc xi)) (qLoadV (R:=f7) (R':=f7) (l:=xs) (a:=xi) (o:=0) 0 ty138 (Sub.refl _) (Nat.le_of_ble_eq_true rfl) hvi rfl (hi:=hG.top)) ?_
   refine qq (out:=Pr.i64 (j:Int)) ag ?_
   refine qq (out:=Pr.is v5) ag ?_
   refine qq (out:=Pr.i64 (i:Int)) ag ?_
   refine qq (out:=Pr.i64 (w64 ((i:Int)+1))) qInt ?_
   refine qq (out:=nq v5 (Int.toNat (w64 ((i:Int)+1)) * f7.size)) (qIdxV 0 (R:=f7) (l:=xs) Tryz.underlying136 Tryz.sizeOf138 hvi1 (hi:=hG.top)) ?_
   refine qq (out:=Pr.is (slc x1)) (qLoadV (R:=f7) (R':=f7) (l:=xs) (a:=x1) (o:=0) 0 ty138 (Sub.refl _) (Nat.le_of_ble_eq_true rfl) hvi1 rfl (hi:=hG.top)) ?_
   refine qq (out:=Pr.i64 (j:Int)) ag ?_
   refine qq (out:=nq (slc x1) (Int.toNat ((j:Int)) * ((Rp.int .i32)).size)) (qIdxV (a.length - (i+1)+1) (R:=(Rp.int .i32)) (l:=l1) Tryz.underlying138 Tryz.sizeOf21 hr0 (hi:=hC1)) ?_
   refine qq (out:=Pr.int .i32 n0) (qLoadV (R:=(Rp.int .i32)) (R':=(Rp.int .i32)) (l:=l1) (a:=n0) (o:=0) (a.length - (i+1)+1) ty21 (Sub.refl _) (Nat.le_of_ble_eq_true rfl) hr0 rfl (hi:=hC1)) ?_
   refine qq (out:=Pr.is v5) ag ?_
   refine qq (out:=Pr.i64 (i:Int)) ag ?_
   refine qq (out:=nq v5 (Int.toNat ((i:Int)) * f7.size)) (qIdxV 0 (R:=f7) (l:=xs) Tryz.underlying136 Tryz.sizeOf138 hvi (hi:=hG.top)) ?_
   refine qq (out:=Pr.is (slc xi)) (qLoadV (R:=f7) (R':=f7) (l:=xs) (a:=xi) (o:=0) 0 ty138 (Sub.refl _) (Nat.le_of_ble_eq_true rfl) hvi rfl (hi:=hG.top)) ?_
   refine qq (out:=Pr.i64 (j:Int)) ag ?_
   refine qq (out:=Pr.i64 (w64 ((j:Int)+1))) qInt ?_
   refine qq (out:=nq (slc xi) (Int.toNat (w64 ((j:Int)+1)) * ((Rp.int .i32)).size)) (qIdxV (a.length - i+1) (R:=(Rp.int .i32)) (l:=part .i32 x b l1 (j+1)) Tryz.underlying138 Tryz.sizeOf21 hq1 (hi:=hCi)) ?_
   refine qq (out:=Pr.int .i32 r1) (qLoadV (R:=(Rp.int .i32)) (R':=(Rp.int .i32)) (l:=part .i32 x b l1 (j+1)) (a:=r1) (o:=0) (a.length - i+1) ty21 (Sub.refl _) (Nat.le_of_ble_eq_true rfl) hq1 rfl (hi:=hCi)) ?_
   refine qq (out:=Pr.int .i32 (if r1>n0 then r1 else n0)) (qMax (a:=n0) (b:=r1)) ?_
   refine qq (out:=nq (slc xi) (Int.toNat (j:Int) * ((Rp.int .i32)).size)) (qIdxV (a.length - i+1) (R:=(Rp.int .i32)) (l:=part .i32 x b l1 (j+1)) Tryz.underlying138 Tryz.sizeOf21 hq0 (hi:=hCi)) ?_
   refine rStoreE (R:=(Rp.int .i32)) (R':=(Rp.int .i32)) (l:=part .i32 x b l1 (j+1)) (a:=0) (y:=if r1>n0 then r1 else n0) (o:=0) (a.length - i+1) Tryz.sizeOf21 (Upd.refl _) hq0 rfl ?_ (hi:=hCi)
   refine W_r ?_
   refine rq (out:=Pr.i64 (j:Int)) ag ?_
   refine rq (out:=Pr.i64 (w64 ((j:Int) - 1))) qInt ?_
   refine rq (out:=Pr.i64 (w64 ((j:Int) - 1))) ae ?_
   refine⟨j,by omega,j,rfl,by omega,_,w64_same (by omega) (by omega),⟨aa,aa,aa,aa,aa,trivial⟩,xs,(hG.set (by omega) hxi (by rw[hcl];exact hpl) (hp0' i) (fun k h1 h2 h3=>by have h3:a.length - k+1=a.length - i+1:=h3;rw[hLl]at h2;omega)).as ?_,by rw[List.length_set];exact hcl⟩
   rw[List.set_set]
   have hs:(part .i32 x b l1 (j+1)).set (Int.toNat (j:Int)) (if r1>n0 then r1 else n0)=part .i32 x b l1 j:=by rw[← hstep,if_neg (c:=(x==y)=true) (by rw[hxy];decide)];simp
   exact congrArg _ hs
  obtain rfl:m=0:=by have:=of_decide_eq_false hc;omega
  refine dg ?_
  refine⟨⟨aa,aa,aa,aa,trivial⟩,xs,hG.as ?_,hcl⟩
  rw[part_zero]
  exact base_set _ _ _ hrow
 obtain rfl:m=0:=by have:=of_decide_eq_false hc;omega
 refine dg ?_
 exact⟨⟨aa,trivial⟩,xs,hG⟩
end Go.Proofs.YtgkcoicaopilhaaGreatDoor
