/- Contracts of the library, and what is proved by hand (printed by wip/gen/gen.py). -/
import Derived.Test.YtphkaogfinjbjaaGreatDoorZH
import Derived.Test.YtphkaogfinjbjaaGreatDoorZJ
import Derived.Test.YtphkaogfinjbjaaGreatDoorLay
import Derived.Lib.ConvBytes
import Derived.Lib.AtoiErrMem
import Derived.Test.YtphkaogfinjbjaaGreatDoorZT
set_option linter.unusedSimpArgs false
set_option linter.unusedVariables false
set_option linter.unusedSectionVars false
set_option linter.unusedSectionVars false
set_option maxRecDepth 100000
set_option maxHeartbeats 4000000
namespace Go.Proofs.YtphkaogfinjbjaaGreatDoor
open Go Go.Cn
variable [Known]
theorem Builder_copyCheck_ok (b:Nat) (v:Value):FnC Tryz.prog 94 [ap b 0] [Own.bld 124 b v] (fun q C'=>q=bn []/\C'=[Own.bld 124 b v]):=by
 refine fnc_intro (n:=20) (rs:=[]) Tryz.func94 rfl Tryz.ntmps94 ⟨by decide,Tryz.results94⟩ (by decide) (fun s0=> ?_)
 refine W_bld (fun p hp=> ?_)
 rcases hp with rfl|rfl
 ·refine W_rs ?_
  refine rq (out:=ap b 0) ag ?_
  refine rq (out:=ap b 0) qNilP ?_
  refine rq (out:=ap b 0) (ax fld124_0) ?_
  refine rq (out:=Pr.is (.pointer none)) (qLoadB0 Tryz.isAgg121) ?_
  refine rq (out:=Pr.bool true) (qPtrNil (q:=none) Tryz.underlying121) ?_
  refine au (b:=true) rfl (fun _=> ?_) (fun h=>nomatch h)
  refine W_toBld (B:=124) (b:=b) (v:=v) (.inr rfl) ?_
  refine W_r ?_
  refine rq (out:=ap b 0) ag ?_
  refine rq (out:=ap b 0) ag ?_
  refine rq (out:=ap b 0) (qToUnsafe Tryz.underlying121 Tryz.underlying160 (show Tryz.prog.info? 124=some Tryz.t124 from rfl) (by decide)) ?_
  refine rq (out:=ap b 0) (qNoEscape Tryz.func115 (by kernel_rfl) (by kernel_rfl) (by kernel_rfl) (by kernel_rfl)) ?_
  refine rq (out:=ap b 0) (qFromUnsafe Tryz.underlying160 Tryz.underlying121 (show Tryz.prog.info? 124=some Tryz.t124 from rfl) (by kernel_rfl)) ?_
  refine rq (out:=ap b 0) qNilP ?_
  refine rq (out:=ap b 0) (ax fld124_0) ?_
  refine rStoreB0 Tryz.sizeOf121 ?_
  exact⟨rfl,.inr rfl,_,aa,rfl,rfl⟩
 refine W_rs ?_
 refine rq (out:=ap b 0) ag ?_
 refine rq (out:=ap b 0) qNilP ?_
 refine rq (out:=ap b 0) (ax fld124_0) ?_
 refine rq (out:=ap b 0) (qLoadB0 Tryz.isAgg121) ?_
 refine rq (out:=Pr.bool false) (qPtrNil (q:=some ⟨b,0,none⟩) Tryz.underlying121) ?_
 refine au (b:=false) rfl (fun h=>nomatch h) (fun _=> ?_)
 refine W_rs ?_
 refine rq (out:=ap b 0) ag ?_
 refine rq (out:=ap b 0) qNilP ?_
 refine rq (out:=ap b 0) (ax fld124_0) ?_
 refine rq (out:=ap b 0) (qLoadB0 Tryz.isAgg121) ?_
 refine rq (out:=ap b 0) ag ?_
 refine rq (out:=Pr.bool false) (qPtrSame Tryz.underlying121 (show Tryz.prog.info? 124=some Tryz.t124 from rfl)) ?_
 refine au (b:=false) rfl (fun h=>nomatch h) (fun _=> ?_)
 refine W_bldp (.inr rfl) ?_
 refine av ?_
 exact⟨.inr rfl,_,aa,rfl,rfl⟩
theorem Builder_WriteString_ok (b:Nat) (v:Value) (l m z:List UInt8) (h:bcat l m=some z):FnC Tryz.prog 80 [ap b 0,aj m] [Own.bld 124 b v,Own.vec v en l 5] (fun q C'=>∃v',q=bn [Pr.i64 m.length,Pr.is .nilIface]/\C'=[Own.bld 124 b v',Own.vec v' en z 5]):=by
 obtain⟨h2,rfl⟩:=bcat_some h
 refine fnc_intro (n:=19) (rs:=[4,5]) Tryz.func80 rfl Tryz.ntmps80 ⟨by decide,Tryz.results80⟩ (by decide) (fun s0=> ?_)
 refine W_rs ?_
 refine rq (out:=Pr.i64 0) ae ?_
 refine rq (out:=Pr.is .nilIface) ae ?_
 refine W_rs ?_
 refine rq (out:=ap b 0) ag ?_
 refine rCallC [0] (Builder_copyCheck_ok b v) (fun q C' hq=> ?_)
 obtain⟨rfl,rfl⟩:=hq
 refine W_rs ?_
 refine rq (out:=ap b 0) ag ?_
 refine rq (out:=ap b 0) ag ?_
 refine rq (out:=ap b 0) qNilP ?_
 refine rq (out:=ap b 1) (ax fld124_1) ?_
 refine rq (out:=Pr.is v) (qLoadB 0 Tryz.isAgg122) ?_
 refine rq (out:=aj m) ag ?_
 refine rAppendS 1 (l:=l) (m:=m) el122 Tryz.underlying9 h2 (fun v'=> ?_)
 refine rq (out:=ap b 0) qNilP ?_
 refine rq (out:=ap b 1) (ax fld124_1) ?_
 refine rStoreB 0 1 (l:=l++m) (R:=en) (e:=5) Tryz.sizeOf122 ?_
 refine W_rs ?_
 refine rq (out:=aj m) ag ?_
 refine rq (out:=Pr.i64 (m.length:Int)) (qLenS rfl Tryz.underlying9) ?_
 refine rq (out:=Pr.i64 (m.length:Int)) ae ?_
 refine rq (out:=Pr.is .nilIface) ae ?_
 exact bb ⟨.inl rfl,_,aa,_,rfl,rfl⟩
theorem cells5 :Tryz.prog.cellsOf 5=1:=by kernel_rfl
theorem Builder_String_ok (b:Nat) (v:Value) (l:List UInt8):FnC Tryz.prog 81 [ap b 0] [Own.bld 124 b v,Own.vec v en l 5] (fun q C'=>q=aj l/\C'=[]):=by
 refine fnc_intro (n:=14) (rs:=[2]) Tryz.func81 rfl Tryz.ntmps81 ⟨by decide,Tryz.results81⟩ (by decide) (fun s0=> ?_)
 refine W_rs ?_
 refine rq (out:=aj []) ae ?_
 refine aw ?_
 refine ei 10 hmx (by kernel_rfl) (by kernel_rfl) ?_
 refine qq (out:=ap b 0) ag ?_
 refine qq (out:=ap b 0) qNilP ?_
 refine qq (out:=ap b 1) (ax fld124_1) ?_
 refine qq (out:=Pr.is v) (qLoadB 0 Tryz.isAgg122) ?_
 refine qq (out:=Pr.sd v) (qSliceData 1 (l:=l) (e:=5) Tryz.underlying141) ?_
 refine qq (out:=ap b 0) ag ?_
 refine qq (out:=ap b 0) qNilP ?_
 refine qq (out:=ap b 1) (ax fld124_1) ?_
 refine qq (out:=Pr.is v) (qLoadB 0 Tryz.isAgg122) ?_
 refine qq (out:=Pr.i64 (l.length:Int)) (qLenV 1 rfl Tryz.underlying122) ?_
 refine rUnsafeString 1 (l:=l) Tryz.underlying141 cells5 ?_
 refine rq (out:=aj l) ae ?_
 refine W_drop (C':=[]) (List.nil_sublist _) ?_
 exact bb ⟨.inl rfl,_,aa,rfl,rfl⟩
theorem gKept :∀s,Glob.ok s->RowAt ab s ⟨0,0,none⟩ kept:=fun _ h=>GCells.row (R:=ab) h.1 (rowC_flat (R:=ab) (fun l=>[.string ⟨l.toArray⟩]) (fun _ _=>rfl))
theorem allP2 {s:St} {p q:Pr} {vs:List Value} (h:AllP s [p,q] vs):∃v u,vs=[v,u]/\p.p s v/\q.p s u:=by
 match vs,h with
 | [v,u],h=>exact⟨v,u,rfl,h.1,h.2.1⟩
theorem allP3 {s:St} {p q r:Pr} {vs:List Value} (h:AllP s [p,q,r] vs):∃v u t,vs=[v,u,t]/\p.p s v/\q.p s u/\r.p s t:=by
 match vs,h with
 | [v,u,t],h=>exact⟨v,u,t,rfl,h.1,h.2.1,h.2.2.1⟩
theorem strings_IndexByte_ok (x:List UInt8) (c r:Int) (h:strings_IndexByte x c=some r):FnP Tryz.prog 117 [aj x,Pr.u8 c] (Pr.i64 r):=by
 refine fn_same en117 (fun s vs hs ha=> ?_)
 obtain⟨v,u,rfl,h1,h2⟩:=allP2 ha
 obtain rfl:v= .string (bs x):=h1
 obtain rfl:u= .int .u8 c:=h2
 refine(Tryz.strings_IndexByte (bs x) c s.w).mono ?_
 rintro e w' ⟨rfl,rfl⟩
 obtain rfl:=Option.some.inj h
 exact⟨_,rfl,rfl,rfl⟩
theorem strings_Index_ok (x y:List UInt8) (r:Int) (h:strings_Index x y=some r):FnP Tryz.prog 108 [aj x,aj y] (Pr.i64 r):=by
 refine fn_same en108 (fun s vs hs ha=> ?_)
 obtain⟨v,u,rfl,h1,h2⟩:=allP2 ha
 obtain rfl:v= .string (bs x):=h1
 obtain rfl:u= .string (bs y):=h2
 unfold strings_Index at h
 split at h
 ·rename_i hlt
  obtain⟨m,hm⟩:=hs.glob.2.2.1
  have hc:=hm.lies.cell (j:=0) rfl
  have ha:(⟨1,0,none⟩:Addr).add 0=⟨1,0,none⟩:=by simp[Addr.add]
  rw[ha]at hc
  refine(Tryz.strings_Index (bs x) (bs y) m s.w (by simpa [bs,ByteArray.size] using hlt) hc).mono ?_
  rintro e w' ⟨rfl,rfl⟩
  obtain rfl:=Option.some.inj h
  exact⟨_,rfl,rfl,rfl⟩
 cases h
theorem strconv_ParseInt_ok (x:List UInt8) (b k:Int) (r:Int × Bool) (h:jv x b k=some r):FnP Tryz.prog 110 [aj x,Pr.i64 b,Pr.i64 k] (bn [Pr.i64 r.1,Pr.err r.2]):=by
 refine fn_below en110 (fun s vs hs ha=> ?_)
 obtain⟨v,u,t,rfl,h1,h2,h3⟩:=allP3 ha
 obtain rfl:v= .string (bs x):=h1
 obtain rfl:u= .int .i64 b:=h2
 obtain rfl:t= .int .i64 k:=h3
 unfold jv at h
 split at h
 ·rename_i hc
  obtain⟨rfl,rfl,hlen⟩:=hc
  have hsz:(bs x).size=x.length:=by simp[bs,ByteArray.size]
  have hdl:(bs x).data.toList=x:=by simp[bs]
  cases hp:Lib.parseIntB 64 x with
  |ok v=>
   rw[hp]at h
   obtain rfl:=Option.some.inj h
   refine(Tryz.strconv_ParseInt_ok (bs x) (by rw[hsz];omega) v (by rw[hdl];exact hp) s.w).mono ?_
   rintro e w' ⟨rfl,hw⟩
   refine⟨_,rfl,?_,fun F'=>⟨[_,_],rfl,rfl,rfl,trivial⟩⟩
   rcases hw with rfl|⟨t,rfl⟩
   ·exact Go.RowKit.Below.refl _ _
   exact Lib.bytesWorld_below _ _ _
  |range=>
   rw[hp]at h
   obtain rfl:=Option.some.inj h
   obtain⟨te,pe,hg⟩:=hs.glob.2.2.2
   have hc:=hg.lies.cell (j:=0) rfl
   have ha:(⟨3,0,none⟩:Addr).add 0=⟨3,0,none⟩:=by simp[Addr.add]
   rw[ha]at hc
   refine(Tryz.strconv_ParseInt_range (bs x) (by rw[hsz];exact hlen) (by rw[hdl];exact hp) (.iface te pe) s.w hc (.inr ⟨te,pe,rfl⟩)).mono ?_
   rintro e w' ⟨N,rfl,_,_,hb⟩
   rw[hdl]
   exact⟨_,rfl,hb,fun F'=>⟨[_,_],rfl,rfl,⟨_,_,rfl⟩,trivial⟩⟩
  |_=>rw[hp]at h;cases h
 cases h
theorem strings_Join_ok (x:List (List UInt8)) (y r:List UInt8) (h:strings_Join x y=some r):FnP Tryz.prog 90 [af ab x,aj y] (aj r):=by
 refine fn_below en90 (fun s vs hs ha=> ?_)
 obtain⟨v,u,rfl,h1,h2⟩:=allP2 ha
 obtain rfl:u= .string (bs y):=h2
 obtain⟨a,cap,rfl,⟨hcap,hnil⟩,hrow⟩:=h1
 unfold strings_Join at h
 split at h
 ·rename_i hc
  obtain⟨hl,hlen⟩:=hc
  obtain rfl:=Option.some.inj h
  have hmap:(x.map bs).map (·.data.toList)=x:=by
   rw[List.map_map]
   conv=>rhs;rw[← List.map_id x]
   congr 1
  have fin:∀e w',e=Ending.returned (.string ⟨(Lib.join ((x.map bs).map (·.data.toList)) (bs y).data.toList).toArray⟩)/\Go.RowKit.Below s.w.heap.size s.w w'->∃v',e= .returned v'/\Go.RowKit.Below s.w.heap.size s.w w'/\∀F',(aj (Lib.join x y)).p ⟨w',F'⟩ v':=by
   rintro e w' ⟨rfl,hw⟩
   refine⟨_,rfl,hw,fun F'=> ?_⟩
   rw[hmap]
   have:(bs y).data.toList=y:=by simp[bs]
   rw[this]
   rfl
  rcases hrow with rfl|⟨ad,rfl,hsp,hrow⟩
  ·refine(Tryz.strings_Join_none a cap (bs y) s.w).mono ?_
   rintro e w' ⟨rfl,rfl⟩
   exact⟨_,rfl,Go.RowKit.Below.refl _ _,fun F'=>rfl⟩
  cases x with
  |nil=>
   refine(Tryz.strings_Join_none (some ad) cap (bs y) s.w).mono ?_
   rintro e w' ⟨rfl,rfl⟩
   exact⟨_,rfl,Go.RowKit.Below.refl _ _,fun F'=>rfl⟩
  |cons x0 x1=>
   obtain⟨bk,o,sp⟩:=ad
   obtain rfl:sp=none:=hsp
   have hbk:bk<s.w.heap.size:=by
    obtain⟨cs,_,h2⟩:=hrow 0 x0 rfl
    exact hs.lt _ h2.2.1
   have hcells:∀(j:Nat) z,((x0::x1).map bs)[j]? =some z->s.w.cell? ⟨bk,o+j,none⟩=some (.string z):=by
    intro j z hj
    rw[List.getElem?_map]at hj
    cases hl:(x0::x1)[j]? with
    |none=>rw[hl]at hj;cases hj
    |some q=>
     rw[hl]at hj
     obtain rfl:=Option.some.inj hj
     obtain⟨cs,h1,h2⟩:=hrow j q hl
     obtain rfl:cs=[.string (bs q)]:=h1
     have:=h2.cell (j:=0) rfl
     have ha:((⟨bk,o+j * ab.size,none⟩:Addr).add 0)=⟨bk,o+j,none⟩:=by simp[Addr.add,ab,Rp.lit]
     rw[ha]at this
     exact this
   have hy:(bs y).data.toList=y:=by simp[bs]
   have hj:=Tryz.strings_Join bk o cap ((x0::x1).map bs) (bs y) s.w hcells hbk (by rw[List.length_map];exact hl) (by rw[List.length_map];exact hcap) (by rw[hmap,hy];exact hlen)
   rw[List.length_map]at hj
   exact hj.mono fin
 cases h
theorem g8 {n:Int} (h1: -9223372036854775808<=n) (h2:n<=9223372036854775807):w64 n=n:=by
 unfold w64 IntKind.wrap
 have e1:(2:Int) ^ (IntKind.i64.bits)=18446744073709551616:=rfl
 have e2:(2:Int) ^ (IntKind.i64.bits - 1)=9223372036854775808:=rfl
 have e3:IntKind.i64.signed=true:=rfl
 simp only[e1,e2,e3,Bool.true_and,decide_eq_true_eq]
 split<;>omega
theorem slices_Clone_ok (x1 r:List (List UInt8)) (h:ji x1=some r):FnC Tryz.prog 38 [af ab x1] [] (fun q C'=>∃u0,q=Pr.is u0/\C'=[Own.vec u0 ab r 9]):=by
 refine fj (n:=8) (rs:=[2]) Tryz.func38 rfl Tryz.ntmps38 ⟨by decide,Tryz.results38⟩ (by decide) (fun s0=> ?_)
 unfold ji at h
 refine W_rs ?_
 refine rq (out:=Pr.is (.slice none 0 0)) ae ?_
 refine aw ?_
 refine W_rs ?_
 refine rq (out:=af ab x1) ag ?_
 refine rq (out:=Pr.nilq x1) (qNilL (R:=ab) Tryz.underlying33) ?_
 refine W_condN (l:=x1) (fun hl=> ?_) ?_
 ·subst hl
  refine W_rs ?_
  refine rq (out:=Pr.is (.slice none 0 0)) ae ?_
  refine W_nil [2] ab 9 (fun v2=> ?_) ⟨rfl,trivial⟩
  obtain rfl:=Option.some.inj h
  exact bb ⟨.inl rfl,_,Pick.refl _,_,aa,v2,rfl,rfl⟩
 refine av ?_
 refine W_rs ?_
 refine rBuild0 (R:=ab) el33 (fun v5=> ?_)
 refine rq (out:=af ab x1) ag ?_
 refine cu 0 el33 h (fun v7=> ?_)
 refine rq (out:=Pr.is v7) ae ?_
 exact bb ⟨.inl rfl,_,Pick.refl _,_,aa,v7,rfl,rfl⟩
theorem slices_Grow_ok (x1:Int) (r:List (List UInt8)) (h:slices_Grow x1=some r):FnC Tryz.prog 46 [Pr.is (.slice none 0 0),Pr.i64 x1] [] (fun q C'=>∃u0,q=Pr.is u0/\C'=[Own.vec u0 ab r 9]):=by
 refine fj (n:=27) (rs:=[4]) Tryz.func46 rfl Tryz.ntmps46 ⟨by decide,Tryz.results46⟩ (by decide) (fun s0=> ?_)
 unfold slices_Grow at h
 split at h
 ·rename_i hc
  obtain rfl:=Option.some.inj h
  refine W_rs ?_
  refine rq (out:=Pr.is (.slice none 0 0)) ae ?_
  refine aw ?_
  refine W_rs ?_
  refine rq (out:=Pr.i64 x1) ag ?_
  refine rq (out:=Pr.bool (decide (x1<0))) qInt ?_
  refine au (b:=decide (x1<0)) rfl (fun hc1=>absurd hc1 (by simp;omega)) (fun hc1=> ?_)
  refine av ?_
  refine aw ?_
  refine W_rs ?_
  refine rq (out:=Pr.i64 x1) ag ?_
  refine rq (out:=Pr.is (.slice none 0 0)) ag ?_
  refine rq (out:=Pr.i64 0) (qCapN rfl Tryz.underlying33) ?_
  refine rq (out:=Pr.is (.slice none 0 0)) ag ?_
  refine rq (out:=Pr.i64 0) (qLenN rfl Tryz.underlying33) ?_
  refine rq (out:=Pr.i64 (w64 (0 - 0))) qInt ?_
  refine rq (out:=Pr.i64 (w64 (x1 - (w64 (0 - 0))))) qInt ?_
  refine rq (out:=Pr.i64 (w64 (x1 - (w64 (0 - 0))))) ae ?_
  have hw:w64 (x1 - (w64 (0 - 0)))=x1:=by rw[show w64 (0 - 0)=0 from rfl,Int.sub_zero];exact g8 (by omega) (by omega)
  rw[hw]
  refine W_rs ?_
  refine rq (out:=Pr.i64 x1) ag ?_
  refine rq (out:=Pr.bool (decide (x1>0))) qInt ?_
  refine au (b:=decide (x1>0)) rfl (fun hc2=> ?_) (fun hc2=> ?_)
  ·obtain⟨m,rfl⟩:∃m:Nat,x1=m:=⟨x1.toNat,by omega⟩
   have hm:0<m:=by simpa using hc2
   refine W_vec ab 9 ?_
   refine W_r ?_
   refine rq (out:=Pr.is (.slice none 0 0)) ag ?_
   refine rq (out:=Pr.is (.slice none 0 0)) ag ?_
   refine rq (out:=Pr.i64 0) (qCapN rfl Tryz.underlying33) ?_
   refine rq (out:=Pr.is (.slice none 0 0)) (qHeadK (hi:=0) Tryz.underlying33 Tryz.sizeOf9 (Nat.le_refl _)) ?_
   refine rq (out:=Pr.i64 (m:Int)) ag ?_
   refine rGrowNil 0 (R:=ab) el33 Tryz.underlying3 hm (by omega) (by omega) (fun g cap hcap=> ?_)
   refine rq (out:=Pr.is (.slice none 0 0)) ag ?_
   refine rq (out:=Pr.i64 0) (qLenN rfl Tryz.underlying33) ?_
   refine rq (out:=Pr.is (.slice (some ⟨g,0,none⟩) 0 cap)) (qHeadK (hi:=0) Tryz.underlying33 Tryz.sizeOf9 (Nat.zero_le _)) ?_
   refine rq (out:=Pr.is (.slice (some ⟨g,0,none⟩) 0 cap)) ae ?_
   refine W_rs ?_
   refine rq (out:=Pr.is (.slice (some ⟨g,0,none⟩) 0 cap)) ag ?_
   refine rq (out:=Pr.is (.slice (some ⟨g,0,none⟩) 0 cap)) ae ?_
   exact bb ⟨.inl rfl,_,Pick.refl _,_,aa,.slice (some ⟨g,0,none⟩) 0 cap,rfl,rfl⟩
  refine av ?_
  refine W_rs ?_
  refine rq (out:=Pr.is (.slice none 0 0)) ag ?_
  refine rq (out:=Pr.is (.slice none 0 0)) ae ?_
  refine W_nil [4] ab 9 (fun v2=> ?_) ⟨rfl,trivial⟩
  exact bb ⟨.inl rfl,_,Pick.refl _,_,aa,v2,rfl,rfl⟩
 cases h
theorem idxN {α:Type} {l:List α} {z:Int} {i:Nat} {a:α} (hz:z=(i:Int)) (h:l[i]? =some a):idx l z=some a:=by subst hz;simp[idx,h]
theorem _root_.Go.Cn.Grid.set {α:Type} [Glob] {R:Rp α} {e5 e:TypeId} {v5:Value} {xs:List Slc} {L:List (List α)} {pos:Nat->Nat} {lo:Nat} {C:Ctx} (h:Grid R e5 e v5 xs L pos lo C) {i:Nat} {x:Slc} {l':List α} (hi:i<L.length) (hx:xs[i]? =some x) (hlt:pos i<C.length) (h0:pos i≠0)
  (hinj:∀k,lo<=k->k<L.length->pos k=pos i->k=i):Grid R e5 e v5 xs (L.set i l') pos lo (C.set (pos i) (Own.vec (slc x) R l' e)) where
 top:=by rw[List.getElem?_set_ne h0];exact h.top
 len:=by rw[List.length_set];exact h.len
 row:=fun k hk hl=>by
  rw[List.length_set]at hl
  by_cases hki:k=i
  ·subst hki
   exact⟨x,l',hx,by simp[hi],by simp[hlt]⟩
  ·obtain⟨x',l,g1,g2,g3⟩:=h.row k hk hl
   exact⟨x',l,g1,by rw[List.getElem?_set_ne (Ne.symm hki)];exact g2,by rw[List.getElem?_set_ne (fun e=>hki (hinj k hk hl e.symm))];exact g3⟩
theorem _root_.Go.Cn.Grid.as {α:Type} [Glob] {R:Rp α} {e5 e:TypeId} {v5:Value} {xs:List Slc} {L L':List (List α)} {pos:Nat->Nat} {lo:Nat} {C:Ctx} (h:Grid R e5 e v5 xs L pos lo C) (he:L=L'):Grid R e5 e v5 xs L' pos lo C:=he▸h
def base (k:IntKind) (a b:List Int) (I:Nat):List (List Int):=List.replicate I (List.replicate (b.length+1) 0)++(dw k a b).drop I
theorem base_len (k:IntKind) (a b:List Int) {I:Nat} (h:I<=a.length):(base k a b I).length=a.length+1:=by
 have:=(lcsRows_lens k a b).1
 simp[base,this];omega
theorem base_at (k:IntKind) (a b:List Int) {I j:Nat} (h:I<=j):(base k a b I)[j]? =(dw k a b)[j]? :=by
 unfold base
 rw[List.getElem?_append_right (by simpa using h),List.getElem?_drop]
 simp;congr 1;omega
theorem base_set (k:IntKind) (a b:List Int) {i:Nat} {l:List Int} (h:(dw k a b)[i]? =some l):(base k a b (i+1)).set i l=base k a b i:=by
 have hi:=(List.getElem?_eq_some_iff.1 h).1
 have hl:(dw k a b)[i]=l:=(List.getElem?_eq_some_iff.1 h).2
 unfold base
 rw[List.replicate_succ',List.append_assoc,List.set_append_right _ _ (by simp),List.drop_eq_getElem_cons hi,hl]
 simp
theorem base_same (k:IntKind) (a b:List Int) {i:Nat}:(base k a b (i+1)).set i (List.replicate (b.length+1) 0)=base k a b (i+1):=by
 unfold base
 rw[List.replicate_succ',List.append_assoc,List.set_append_right _ _ (by simp)]
 simp
theorem ref05_table_ok (a b:List Int) (r:List (List Int)) (h:ref05_table a b=some r):FnP Tryz.prog 76 [af (Rp.int .i64) a,af (Rp.int .i64) b] (af (ai (Rp.int .i64)) r):=by
 unfold ref05_table at h
 split at h
 case isFalse=>cases h
 rename_i hab
 obtain⟨ha,hb⟩:=hab
 obtain rfl:=Option.some.inj h
 clear h
 have hmk:∀(n k:Nat),n<=100000->k<=24->mkLen k (w64 ((n:Int)+1))=some (n+1):=by
  intro n k hn hk
  rw[g8 (by omega) (by omega)]
  unfold mkLen
  have:(k:Int) * ((n:Int)+1)<=24 * ((n:Int)+1):=Int.mul_le_mul_of_nonneg_right (by omega) (by omega)
  rw[if_pos ⟨by omega,by omega,by omega⟩]
  simp
 have hinj0:∀i k:Nat,k+1=i+1->k=i:=fun i k h=>by omega
 refine a7 (n:=89) (rs:=[4]) Tryz.func76 rfl Tryz.ntmps76 ⟨by decide,Tryz.results76⟩ (by decide) (fun s0=> ?_)
 refine W_rs ?_
 refine rq (out:=Pr.is (.slice none 0 0)) ae ?_
 refine W_rs ?_
 refine rq (out:=af (Rp.int .i64) a) ag ?_
 refine rq (out:=Pr.i64 (a.length:Int)) (cl rfl Tryz.underlying90) ?_
 refine rq (out:=Pr.i64 (w64 ((a.length:Int)+1))) qInt ?_
 refine rMake (R:=cw) (z:=(none,0,0)) el87 Tryz.zeroValue90 (fun _=>rfl) (hmk _ _ ha (by omega)) (fun v5=> ?_)
 refine rq (out:=Pr.is v5) ae ?_
 refine aw ?_
 refine W_rs ?_
 refine rq (out:=Pr.i64 0) ae ?_
 refine ar ?_
 refine bp 0 (fun e C=>Chk [(0,af (Rp.int .i64) a),(1,af (Rp.int .i64) b),(5,Pr.is v5)] e/\∃xs,Grid (Rp.int .i64) 90 3 v5 xs (base .i64 a b a.length) (fun i=>i+1) 0 C/\C.length=a.length+2) ?_ ?_
 ·rintro e C ⟨hchk,xs,hG,hcl⟩
  refine W_at (C':=C) ⟨hchk,Pick.refl C⟩ ?_
  clear hchk
  refine aw ?_
  refine W_rs ?_
  refine rq (out:=af (Rp.int .i64) a) ag ?_
  refine rq (out:=Pr.i64 (a.length:Int)) (cl rfl Tryz.underlying90) ?_
  refine rq (out:=Pr.i64 (w64 ((a.length:Int) - 1))) qInt ?_
  refine rq (out:=Pr.i64 (w64 ((a.length:Int) - 1))) ae ?_
  refine ar ?_
  refine bp 2 (fun e C=>Chk [(5,Pr.is v5)] e/\∃xs,Grid (Rp.int .i64) 90 3 v5 xs (base .i64 a b 0) (fun i=>i+1) 0 C) ?_ ?_
  ·rintro e C ⟨hchk,xs,hG⟩
   refine W_at (C':=C) ⟨hchk,Pick.refl C⟩ ?_
   clear hchk
   refine W_relGrid 5 hG aa ?_
   refine W_rs ?_
   refine rq (out:=af (ai (Rp.int .i64)) (base .i64 a b 0)) ag ?_
   refine rq (out:=af (ai (Rp.int .i64)) (base .i64 a b 0)) ae ?_
   have hb0:base .i64 a b 0=dw .i64 a b:=by simp[base]
   rw[hb0]
   exact bb ⟨rfl,aa⟩
  refine cd (fun m e C=>∃I,m=I/\I<=a.length/\∃zi:Int,zi=(I:Int) - 1/\Chk [(0,af (Rp.int .i64) a),(1,af (Rp.int .i64) b),(5,Pr.is v5),(7,Pr.i64 zi)] e/\∃xs,Grid (Rp.int .i64) 90 3 v5 xs (base .i64 a b I) (fun i=>i+1) 0 C/\C.length=a.length+2) a.length ⟨a.length,rfl,Nat.le_refl _,_,g8 (by omega) (by omega),⟨aa,aa,aa,aa,trivial⟩,xs,hG,hcl⟩ ?_
  clear hG hcl xs
  rintro m e C ⟨I,rfl,hI,zi,hzi,hchk,xs,hG,hcl⟩
  refine W_at (C':=C) ⟨hchk,Pick.refl C⟩ ?_
  clear hchk
  refine aw ?_
  refine W_rs ?_
  refine rq (out:=Pr.i64 zi) ag ?_
  refine rq (out:=Pr.bool (decide (zi≥0))) qInt ?_
  refine au (b:=decide (zi≥0)) rfl (fun hc=> ?_) (fun hc=> ?_)
  ·obtain⟨i,rfl⟩:∃i0,m=i0+1:=⟨m - 1,by have:=of_decide_eq_true hc;omega⟩
   obtain rfl:zi=(i:Int):=by rw[hzi];omega
   obtain⟨x,hx⟩:∃x,a[i]? =some x:=⟨a[i],List.getElem?_eq_getElem (by omega)⟩
   obtain⟨nxt,hnx,hnl,hrow⟩:=lcsRows_at .i64 (b:=b) hx
   refine av ?_
   refine aw ?_
   refine ar ?_
   refine W_rs ?_
   refine rq (out:=af (Rp.int .i64) b) ag ?_
   refine rq (out:=Pr.i64 (b.length:Int)) (cl rfl Tryz.underlying90) ?_
   refine rq (out:=Pr.i64 (w64 ((b.length:Int) - 1))) qInt ?_
   refine rq (out:=Pr.i64 (w64 ((b.length:Int) - 1))) ae ?_
   refine ar ?_
   have hzj0:w64 ((b.length:Int) - 1)=(b.length:Int) - 1:=g8 (by omega) (by omega)
   replace hG:=hG.as (base_same .i64 a b (i:=i)).symm
   rw[← part_end (k:= .i64) (x:=x) (b:=b) (nxt:=nxt)]at hG
   have hlo:0<=i:=Nat.zero_le _
   have hpl:i+1<a.length+2:=by omega
   have hp0':∀i:Nat,i+1≠0:=fun i=>Nat.succ_ne_zero i
   have hinj:∀k,0<=k->k<((base .i64 a b (i+1)).set i [0]).length->k+1=i+1->k=i:=fun k _ _ h=>by omega
   refine bp 4 (fun e C=>Chk [(0,af (Rp.int .i64) a),(1,af (Rp.int .i64) b),(5,Pr.is v5),(7,Pr.i64 (i:Int))] e/\∃xs,Grid (Rp.int .i64) 90 3 v5 xs (base .i64 a b i) (fun i=>i+1) 0 C/\C.length=a.length+2) ?_ ?_
   ·rintro e C ⟨hchk,xs,hG,hcl⟩
    refine W_at (C':=C) ⟨hchk,Pick.refl C⟩ ?_
    clear hchk
    refine W_r ?_
    refine rq (out:=Pr.i64 (i:Int)) ag ?_
    refine rq (out:=Pr.i64 (w64 ((i:Int) - 1))) qInt ?_
    refine rq (out:=Pr.i64 (w64 ((i:Int) - 1))) ae ?_
    exact⟨i,by omega,i,rfl,by omega,_,g8 (by omega) (by omega),⟨aa,aa,aa,aa,trivial⟩,xs,hG,hcl⟩
   refine cd (fun m e C=>∃j,m=j/\j<=b.length/\∃zj:Int,zj=(j:Int) - 1/\Chk [(0,af (Rp.int .i64) a),(1,af (Rp.int .i64) b),(5,Pr.is v5),(7,Pr.i64 (i:Int)),(8,Pr.i64 zj)] e/\∃xs,Grid (Rp.int .i64) 90 3 v5 xs ((base .i64 a b (i+1)).set i (part .i64 x b nxt j)) (fun i=>i+1) 0 C/\C.length=a.length+2) b.length ⟨b.length,rfl,Nat.le_refl _,_,hzj0,⟨aa,aa,aa,aa,aa,trivial⟩,xs,hG,hcl⟩ ?_
   clear hG hcl xs
   rintro m e C ⟨j,rfl,hjm,zj,hzj,hchk,xs,hG,hcl⟩
   refine W_at (C':=C) ⟨hchk,Pick.refl C⟩ ?_
   clear hchk
   refine aw ?_
   refine W_rs ?_
   refine rq (out:=Pr.i64 zj) ag ?_
   refine rq (out:=Pr.bool (decide (zj≥0))) qInt ?_
   refine au (b:=decide (zj≥0)) rfl (fun hc=> ?_) (fun hc=> ?_)
   ·obtain⟨j,rfl⟩:∃j0,m=j0+1:=⟨m - 1,by have:=of_decide_eq_true hc;omega⟩
    obtain rfl:zj=(j:Int):=by rw[hzj];omega
    obtain⟨y,hy⟩:∃y,b[j]? =some y:=⟨b[j],List.getElem?_eq_getElem (by omega)⟩
    obtain⟨n0,n1,r1,hn0,hn1,hp0,hp1,hstep⟩:=part_step (k:= .i64) (x:=x) (b:=b) (nxt:=nxt) hnl hy
    have hLl:((base .i64 a b (i+1)).set i (part .i64 x b nxt (j+1))).length=a.length+1:=by rw[List.length_set];exact base_len _ _ _ (by omega)
    obtain⟨xi,li,hxi,hli,hCi⟩:=hG.row i hlo (by omega)
    obtain rfl:li=part .i64 x b nxt (j+1):=by rw[List.getElem?_set_self (by rw[base_len _ _ _ (by omega)];omega)]at hli;exact(Option.some.inj hli).symm
    obtain⟨x1,l1,hx1,hl1,hC1⟩:=hG.row (i+1) (by omega) (by omega)
    obtain rfl:l1=nxt:=by rw[List.getElem?_set_ne (by omega),base_at _ _ _ (Nat.le_refl _),hnx]at hl1;exact(Option.some.inj hl1).symm
    have hix:idx a (i:Int)=some x:=idxN rfl hx
    have hjy:idx b (j:Int)=some y:=idxN rfl hy
    have hwi:w64 ((i:Int)+1)=((i+1:Nat):Int):=by rw[g8 (by omega) (by omega)];omega
    have hwj:w64 ((j:Int)+1)=((j+1:Nat):Int):=by rw[g8 (by omega) (by omega)];omega
    have hvi:idx xs (i:Int)=some xi:=idxN rfl hxi
    have hvi1:idx xs (w64 ((i:Int)+1))=some x1:=idxN hwi hx1
    have hr1:idx l1 (w64 ((j:Int)+1))=some n1:=idxN hwj hn1
    have hr0:idx l1 (j:Int)=some n0:=idxN rfl hn0
    have hq0:idx (part .i64 x b l1 (j+1)) (j:Int)=some 0:=idxN rfl hp0
    have hq1:idx (part .i64 x b l1 (j+1)) (w64 ((j:Int)+1))=some r1:=idxN hwj hp1
    refine av ?_
    refine aw ?_
    refine ar ?_
    refine aw ?_
    refine ei 9 hmx (by kernel_rfl) (by kernel_rfl) ?_
    refine qq (out:=af (Rp.int .i64) a) ag ?_
    refine qq (out:=Pr.i64 (i:Int)) ag ?_
    refine qq (out:=a5 (Rp.int .i64) x) (cr (R:=Rp.int .i64) (l:=a) Tryz.underlying90 Tryz.sizeOf3 hix) ?_
    refine qq (out:=Pr.i64 x) (bl (R:=Rp.int .i64) (a:=x) ty3) ?_
    refine qq (out:=af (Rp.int .i64) b) ag ?_
    refine qq (out:=Pr.i64 (j:Int)) ag ?_
    refine qq (out:=a5 (Rp.int .i64) y) (cr (R:=Rp.int .i64) (l:=b) Tryz.underlying90 Tryz.sizeOf3 hjy) ?_
    refine qq (out:=Pr.i64 y) (bl (R:=Rp.int .i64) (a:=y) ty3) ?_
    refine qq (out:=Pr.bool (x==y)) qInt ?_
    refine au (b:=x==y) rfl (fun hxy=> ?_) (fun hxy=> ?_)
    ·refine ei 16 hmx (by kernel_rfl) (by kernel_rfl) ?_
     refine qq (out:=Pr.is v5) ag ?_
     refine qq (out:=Pr.i64 (i:Int)) ag ?_
     refine qq (out:=cb v5 (Int.toNat ((i:Int)) * cw.size)) (jb 0 (R:=cw) (l:=xs) Tryz.underlying87 Tryz.sizeOf90 hvi (hi:=hG.top)) ?_
     refine qq (out:=Pr.is (slc xi)) (jg (R:=cw) (R':=cw) (l:=xs) (a:=xi) (o:=0) 0 ty90 (Sub.refl _) (Nat.le_of_ble_eq_true rfl) hvi rfl (hi:=hG.top)) ?_
     refine qq (out:=Pr.i64 (j:Int)) ag ?_
     refine qq (out:=Pr.is v5) ag ?_
     refine qq (out:=Pr.i64 (i:Int)) ag ?_
     refine qq (out:=Pr.i64 (w64 ((i:Int)+1))) qInt ?_
     refine qq (out:=cb v5 (Int.toNat (w64 ((i:Int)+1)) * cw.size)) (jb 0 (R:=cw) (l:=xs) Tryz.underlying87 Tryz.sizeOf90 hvi1 (hi:=hG.top)) ?_
     refine qq (out:=Pr.is (slc x1)) (jg (R:=cw) (R':=cw) (l:=xs) (a:=x1) (o:=0) 0 ty90 (Sub.refl _) (Nat.le_of_ble_eq_true rfl) hvi1 rfl (hi:=hG.top)) ?_
     refine qq (out:=Pr.i64 (j:Int)) ag ?_
     refine qq (out:=Pr.i64 (w64 ((j:Int)+1))) qInt ?_
     refine qq (out:=cb (slc x1) (Int.toNat (w64 ((j:Int)+1)) * ((Rp.int .i64)).size)) (jb (i+1+1) (R:=(Rp.int .i64)) (l:=l1) Tryz.underlying90 Tryz.sizeOf3 hr1 (hi:=hC1)) ?_
     refine qq (out:=Pr.int .i64 n1) (jg (R:=(Rp.int .i64)) (R':=(Rp.int .i64)) (l:=l1) (a:=n1) (o:=0) (i+1+1) ty3 (Sub.refl _) (Nat.le_of_ble_eq_true rfl) hr1 rfl (hi:=hC1)) ?_
     refine qq (out:=Pr.int .i64 (w64 (n1+1))) qInt ?_
     refine qq (out:=cb (slc xi) (Int.toNat (j:Int) * ((Rp.int .i64)).size)) (jb (i+1) (R:=(Rp.int .i64)) (l:=part .i64 x b l1 (j+1)) Tryz.underlying90 Tryz.sizeOf3 hq0 (hi:=hCi)) ?_
     refine k5 (R:=(Rp.int .i64)) (R':=(Rp.int .i64)) (l:=part .i64 x b l1 (j+1)) (a:=0) (y:=w64 (n1+1)) (o:=0) (i+1) Tryz.sizeOf3 (Upd.refl _) hq0 rfl ?_ (hi:=hCi)
     refine W_r ?_
     refine rq (out:=Pr.i64 (j:Int)) ag ?_
     refine rq (out:=Pr.i64 (w64 ((j:Int) - 1))) qInt ?_
     refine rq (out:=Pr.i64 (w64 ((j:Int) - 1))) ae ?_
     refine⟨j,by omega,j,rfl,by omega,_,g8 (by omega) (by omega),⟨aa,aa,aa,aa,aa,trivial⟩,xs,(hG.set (by omega) hxi (by rw[hcl];exact hpl) (hp0' i) (fun k _ _ h=>by omega)).as ?_,by rw[List.length_set];exact hcl⟩
     rw[List.set_set]
     have hs:(part .i64 x b l1 (j+1)).set (Int.toNat (j:Int)) (w64 (n1+1))=part .i64 x b l1 j:=by rw[← hstep,if_pos hxy];simp
     exact congrArg _ hs
    refine ei 23 hmx (by kernel_rfl) (by kernel_rfl) ?_
    refine qq (out:=Pr.is v5) ag ?_
    refine qq (out:=Pr.i64 (i:Int)) ag ?_
    refine qq (out:=cb v5 (Int.toNat ((i:Int)) * cw.size)) (jb 0 (R:=cw) (l:=xs) Tryz.underlying87 Tryz.sizeOf90 hvi (hi:=hG.top)) ?_
    refine qq (out:=Pr.is (slc xi)) (jg (R:=cw) (R':=cw) (l:=xs) (a:=xi) (o:=0) 0 ty90 (Sub.refl _) (Nat.le_of_ble_eq_true rfl) hvi rfl (hi:=hG.top)) ?_
    refine qq (out:=Pr.i64 (j:Int)) ag ?_
    refine qq (out:=Pr.is v5) ag ?_
    refine qq (out:=Pr.i64 (i:Int)) ag ?_
    refine qq (out:=Pr.i64 (w64 ((i:Int)+1))) qInt ?_
    refine qq (out:=cb v5 (Int.toNat (w64 ((i:Int)+1)) * cw.size)) (jb 0 (R:=cw) (l:=xs) Tryz.underlying87 Tryz.sizeOf90 hvi1 (hi:=hG.top)) ?_
    refine qq (out:=Pr.is (slc x1)) (jg (R:=cw) (R':=cw) (l:=xs) (a:=x1) (o:=0) 0 ty90 (Sub.refl _) (Nat.le_of_ble_eq_true rfl) hvi1 rfl (hi:=hG.top)) ?_
    refine qq (out:=Pr.i64 (j:Int)) ag ?_
    refine qq (out:=cb (slc x1) (Int.toNat ((j:Int)) * ((Rp.int .i64)).size)) (jb (i+1+1) (R:=(Rp.int .i64)) (l:=l1) Tryz.underlying90 Tryz.sizeOf3 hr0 (hi:=hC1)) ?_
    refine qq (out:=Pr.int .i64 n0) (jg (R:=(Rp.int .i64)) (R':=(Rp.int .i64)) (l:=l1) (a:=n0) (o:=0) (i+1+1) ty3 (Sub.refl _) (Nat.le_of_ble_eq_true rfl) hr0 rfl (hi:=hC1)) ?_
    refine qq (out:=Pr.is v5) ag ?_
    refine qq (out:=Pr.i64 (i:Int)) ag ?_
    refine qq (out:=cb v5 (Int.toNat ((i:Int)) * cw.size)) (jb 0 (R:=cw) (l:=xs) Tryz.underlying87 Tryz.sizeOf90 hvi (hi:=hG.top)) ?_
    refine qq (out:=Pr.is (slc xi)) (jg (R:=cw) (R':=cw) (l:=xs) (a:=xi) (o:=0) 0 ty90 (Sub.refl _) (Nat.le_of_ble_eq_true rfl) hvi rfl (hi:=hG.top)) ?_
    refine qq (out:=Pr.i64 (j:Int)) ag ?_
    refine qq (out:=Pr.i64 (w64 ((j:Int)+1))) qInt ?_
    refine qq (out:=cb (slc xi) (Int.toNat (w64 ((j:Int)+1)) * ((Rp.int .i64)).size)) (jb (i+1) (R:=(Rp.int .i64)) (l:=part .i64 x b l1 (j+1)) Tryz.underlying90 Tryz.sizeOf3 hq1 (hi:=hCi)) ?_
    refine qq (out:=Pr.int .i64 r1) (jg (R:=(Rp.int .i64)) (R':=(Rp.int .i64)) (l:=part .i64 x b l1 (j+1)) (a:=r1) (o:=0) (i+1) ty3 (Sub.refl _) (Nat.le_of_ble_eq_true rfl) hq1 rfl (hi:=hCi)) ?_
    refine qq (out:=Pr.int .i64 (if r1>n0 then r1 else n0)) (qMax (a:=n0) (b:=r1)) ?_
    refine qq (out:=cb (slc xi) (Int.toNat (j:Int) * ((Rp.int .i64)).size)) (jb (i+1) (R:=(Rp.int .i64)) (l:=part .i64 x b l1 (j+1)) Tryz.underlying90 Tryz.sizeOf3 hq0 (hi:=hCi)) ?_
    refine k5 (R:=(Rp.int .i64)) (R':=(Rp.int .i64)) (l:=part .i64 x b l1 (j+1)) (a:=0) (y:=if r1>n0 then r1 else n0) (o:=0) (i+1) Tryz.sizeOf3 (Upd.refl _) hq0 rfl ?_ (hi:=hCi)
    refine W_r ?_
    refine rq (out:=Pr.i64 (j:Int)) ag ?_
    refine rq (out:=Pr.i64 (w64 ((j:Int) - 1))) qInt ?_
    refine rq (out:=Pr.i64 (w64 ((j:Int) - 1))) ae ?_
    refine⟨j,by omega,j,rfl,by omega,_,g8 (by omega) (by omega),⟨aa,aa,aa,aa,aa,trivial⟩,xs,(hG.set (by omega) hxi (by rw[hcl];exact hpl) (hp0' i) (fun k _ _ h=>by omega)).as ?_,by rw[List.length_set];exact hcl⟩
    rw[List.set_set]
    have hs:(part .i64 x b l1 (j+1)).set (Int.toNat (j:Int)) (if r1>n0 then r1 else n0)=part .i64 x b l1 j:=by rw[← hstep,if_neg (c:=(x==y)=true) (by rw[hxy];decide)];simp
    exact congrArg _ hs
   obtain rfl:m=0:=by have:=of_decide_eq_false hc;omega
   refine bw ?_
   refine⟨⟨aa,aa,aa,aa,trivial⟩,xs,hG.as ?_,hcl⟩
   rw[part_zero]
   exact base_set _ _ _ hrow
  obtain rfl:m=0:=by have:=of_decide_eq_false hc;omega
  refine bw ?_
  exact⟨⟨aa,trivial⟩,xs,hG⟩
 refine cd (fun m e C=>∃k,k+m=a.length+1/\Chk [(0,af (Rp.int .i64) a),(1,af (Rp.int .i64) b),(5,Pr.is v5),(6,Pr.i64 (k:Int))] e/\C.length=k+1/\∃xs,C[0]? =some (Own.vec v5 cw xs 90)/\xs.length=a.length+1/\∀i,i<k->∃x,xs[i]? =some x/\C[i+1]? =some (Own.vec (slc x) (Rp.int .i64) (List.replicate (b.length+1) 0) 3)) (a.length+1) ⟨0,by omega,⟨aa,aa,aa,aa,trivial⟩,rfl,_,rfl,by simp,fun i hi=>absurd hi (Nat.not_lt_zero _)⟩ ?_
 rintro m e C ⟨k,hkm,hchk,hcl,xs,htop,hxl,hrows⟩
 refine W_at (C':=C) ⟨hchk,Pick.refl C⟩ ?_
 clear hchk
 refine aw ?_
 refine W_rs ?_
 refine rq (out:=Pr.i64 (k:Int)) ag ?_
 refine rq (out:=af (Rp.int .i64) a) ag ?_
 refine rq (out:=Pr.i64 (a.length:Int)) (cl rfl Tryz.underlying90) ?_
 refine rq (out:=Pr.bool (decide ((k:Int)<=(a.length:Int)))) qInt ?_
 refine au (b:=decide ((k:Int)<=(a.length:Int))) rfl (fun hc=> ?_) (fun hc=> ?_)
 ·have hk:k<=a.length:=by have:=of_decide_eq_true hc;omega
  obtain⟨x0,hx0⟩:∃x,xs[k]? =some x:=⟨xs[k],List.getElem?_eq_getElem (by omega)⟩
  have hw:w64 ((k:Int)+1)=((k+1:Nat):Int):=by rw[g8 (by omega) (by omega)];omega
  refine av ?_
  refine aw ?_
  refine ar ?_
  refine W_r ?_
  refine rq (out:=Pr.is v5) ag ?_
  refine rq (out:=Pr.i64 (k:Int)) ag ?_
  refine rq (out:=af (Rp.int .i64) b) ag ?_
  refine rq (out:=Pr.i64 (b.length:Int)) (cl rfl Tryz.underlying90) ?_
  refine rq (out:=Pr.i64 (w64 ((b.length:Int)+1))) qInt ?_
  refine rMake (R:=Rp.int .i64) (z:=0) el90 Tryz.zeroValue3 (fun _=>rfl) (hmk _ _ hb (by omega)) (fun v=> ?_)
  have hnew:(C++[Own.vec v (Rp.int .i64) (List.replicate (b.length+1) 0) 3])[C.length]? =some (Own.vec v (Rp.int .i64) (List.replicate (b.length+1) 0) 3):=by simp
  have htop2:(C++[Own.vec v (Rp.int .i64) (List.replicate (b.length+1) 0) 3])[0]? =some (Own.vec v5 cw xs 90):=by rw[List.getElem?_append_left (by omega)];exact htop
  refine rSl C.length hnew (fun x hx=> ?_)
  subst hx
  refine rq (out:=cb v5 (Int.toNat (k:Int) * cw.size)) (jb 0 (R:=cw) (l:=xs) Tryz.underlying87 Tryz.sizeOf90 (idxN rfl hx0) (hi:=htop2)) ?_
  refine k5 (R:=cw) (R':=cw) (l:=xs) (a:=x0) (y:=x) (o:=0) 0 Tryz.sizeOf90 (Upd.refl _) (idxN rfl hx0) rfl ?_ (hi:=htop2)
  refine W_r ?_
  refine rq (out:=Pr.i64 (k:Int)) ag ?_
  refine rq (out:=Pr.i64 (w64 ((k:Int)+1))) qInt ?_
  refine rq (out:=Pr.i64 (w64 ((k:Int)+1))) ae ?_
  rw[hw]
  refine⟨m - 1,by omega,k+1,by omega,⟨aa,aa,aa,aa,trivial⟩,by simp;omega,xs.set k x,?_,by simp;exact hxl,fun i hi=> ?_⟩
  ·rw[List.getElem?_set_self (by simp)]
   rfl
  by_cases hik:i=k
  ·subst hik
   refine⟨x,List.getElem?_set_self (by omega),?_⟩
   rw[List.getElem?_set_ne (by omega),← hcl]
   exact hnew
  obtain⟨x',h1,h2⟩:=hrows i (by omega)
  refine⟨x',by rw[List.getElem?_set_ne (fun e=>hik e.symm)];exact h1,?_⟩
  rw[List.getElem?_set_ne (by omega),List.getElem?_append_left (by omega)]
  exact h2
 have hk:k=a.length+1:=by have:=of_decide_eq_false hc;omega
 subst hk
 refine bw ?_
 have hbl:=base_len .i64 a b (Nat.le_refl a.length)
 refine⟨⟨aa,aa,aa,trivial⟩,xs,⟨htop,by rw[hxl,hbl],fun i _ hi=> ?_⟩,hcl⟩
 obtain⟨x,h1,h2⟩:=hrows i (by omega)
 refine⟨x,_,h1,?_,h2⟩
 have hz:base .i64 a b a.length=List.replicate (a.length+1) (List.replicate (b.length+1) 0):=by
  unfold base
  rw[lcsRows_drop _ _ _ _ (Nat.le_refl _),List.drop_length]
  exact List.replicate_succ'.symm
 rw[hz,List.getElem?_replicate,if_pos (by omega)]
theorem el150 :ElOK Tryz.prog 150 152 1 24:=⟨Tryz.underlying150,⟨Tryz.t152,_,rfl,rfl,rfl,rfl,rfl⟩,by decide⟩
theorem el152 :ElOK Tryz.prog 152 21 1 4:=⟨Tryz.underlying152,⟨Tryz.t21,_,rfl,rfl,rfl,rfl,rfl⟩,by decide⟩
theorem lcs_left_ok (a b:List Int) (r:List (List Int)) (h:lcs_left a b=some r):FnP Tryz.prog 103 [af (Rp.int .i64) a,af (Rp.int .i64) b] (af (ai (Rp.int .i32)) r):=by
 unfold lcs_left at h
 split at h
 case isFalse=>cases h
 rename_i hab
 obtain⟨ha,hb⟩:=hab
 obtain rfl:=Option.some.inj h
 clear h
 have hmk:∀(n k:Nat),n<=100000->k<=24->mkLen k (w64 ((n:Int)+1))=some (n+1):=by
  intro n k hn hk
  rw[g8 (by omega) (by omega)]
  unfold mkLen
  have:(k:Int) * ((n:Int)+1)<=24 * ((n:Int)+1):=Int.mul_le_mul_of_nonneg_right (by omega) (by omega)
  rw[if_pos ⟨by omega,by omega,by omega⟩]
  simp
 refine a7 (n:=90) (rs:=[4]) Tryz.func103 rfl Tryz.ntmps103 ⟨by decide,Tryz.results103⟩ (by decide) (fun s0=> ?_)
 refine W_rs ?_
 refine rq (out:=Pr.is (.slice none 0 0)) ae ?_
 refine W_rs ?_
 refine rq (out:=af (Rp.int .i64) a) ag ?_
 refine rq (out:=Pr.i64 (a.length:Int)) (cl rfl Tryz.underlying90) ?_
 refine rq (out:=Pr.i64 (w64 ((a.length:Int)+1))) qInt ?_
 refine rMake (R:=cw) (z:=(none,0,0)) el150 Tryz.zeroValue152 (fun _=>rfl) (hmk _ _ ha (by omega)) (fun v5=> ?_)
 refine rq (out:=Pr.is v5) ae ?_
 have hx0:(List.replicate (a.length+1) ((none,0,0):Slc))[a.length]? =some (none,0,0):=by simp
 refine W_rs ?_
 refine rq (out:=Pr.is v5) ag ?_
 refine rq (out:=af (Rp.int .i64) a) ag ?_
 refine rq (out:=Pr.i64 (a.length:Int)) (cl rfl Tryz.underlying90) ?_
 refine rq (out:=af (Rp.int .i64) b) ag ?_
 refine rq (out:=Pr.i64 (b.length:Int)) (cl rfl Tryz.underlying90) ?_
 refine rq (out:=Pr.i64 (w64 ((b.length:Int)+1))) qInt ?_
 refine rMake (R:=Rp.int .i32) (z:=0) el152 Tryz.zeroValue21 (fun _=>rfl) (hmk _ _ hb (by omega)) (fun v=> ?_)
 refine rSl 1 rfl (fun x hx=> ?_)
 subst hx
 refine rq (out:=cb v5 (Int.toNat (a.length:Int) * cw.size)) (jb 0 (R:=cw) (l:=List.replicate (a.length+1) ((none,0,0):Slc)) Tryz.underlying150 Tryz.sizeOf152 (idxN rfl hx0)) ?_
 refine k5 (R:=cw) (R':=cw) (l:=List.replicate (a.length+1) ((none,0,0):Slc)) (a:=(none,0,0)) (y:=x) (o:=0) 0 Tryz.sizeOf152 (Upd.refl _) (idxN rfl hx0) rfl ?_
 have hG0:Grid (Rp.int .i32) 152 21 v5 ((List.replicate (a.length+1) ((none,0,0):Slc)).set a.length x) (base .i32 a b a.length) (fun i=>a.length - i+1) a.length [Own.vec v5 cw ((List.replicate (a.length+1) ((none,0,0):Slc)).set a.length x) 152,Own.vec (slc x) (Rp.int .i32) (List.replicate (b.length+1) 0) 21]:=by
  have hbl:=base_len .i32 a b (Nat.le_refl a.length)
  refine⟨rfl,by rw[List.length_set,List.length_replicate,hbl],fun i h1 h2=> ?_⟩
  obtain rfl:i=a.length:=by omega
  refine⟨x,(List.replicate (b.length+1) 0),List.getElem?_set_self (by simp),?_,?_⟩
  ·rw[base_at _ _ _ (Nat.le_refl _)]
   have h0:(dw .i32 a b)[a.length]? =((dw .i32 a b).drop a.length)[0]? :=by simp
   rw[h0,lcsRows_drop _ _ _ _ (Nat.le_refl _),List.drop_length]
   rfl
  simp
 refine aw ?_
 refine W_rs ?_
 refine rq (out:=af (Rp.int .i64) a) ag ?_
 refine rq (out:=Pr.i64 (a.length:Int)) (cl rfl Tryz.underlying90) ?_
 refine rq (out:=Pr.i64 (w64 ((a.length:Int) - 1))) qInt ?_
 refine rq (out:=Pr.i64 (w64 ((a.length:Int) - 1))) ae ?_
 refine ar ?_
 refine bp 0 (fun e C=>Chk [(5,Pr.is v5)] e/\∃xs,Grid (Rp.int .i32) 152 21 v5 xs (base .i32 a b 0) (fun i=>a.length - i+1) 0 C) ?_ ?_
 ·rintro e C ⟨hchk,xs,hG⟩
  refine W_at (C':=C) ⟨hchk,Pick.refl C⟩ ?_
  clear hchk
  refine W_relGrid 5 hG aa ?_
  refine W_rs ?_
  refine rq (out:=af (ai (Rp.int .i32)) (base .i32 a b 0)) ag ?_
  refine rq (out:=af (ai (Rp.int .i32)) (base .i32 a b 0)) ae ?_
  have hb0:base .i32 a b 0=dw .i32 a b:=by simp[base]
  rw[hb0]
  exact bb ⟨rfl,aa⟩
 refine cd (fun m e C=>∃I,m=I/\I<=a.length/\∃zi:Int,zi=(I:Int) - 1/\Chk [(0,af (Rp.int .i64) a),(1,af (Rp.int .i64) b),(5,Pr.is v5),(6,Pr.i64 zi)] e/\∃xs,Grid (Rp.int .i32) 152 21 v5 xs (base .i32 a b I) (fun i=>a.length - i+1) I C/\C.length=a.length - I+2) a.length ⟨a.length,rfl,Nat.le_refl _,_,g8 (by omega) (by omega),⟨aa,aa,aa,aa,trivial⟩,_,hG0,by simp⟩ ?_
 clear hG0
 rintro m e C ⟨I,rfl,hI,zi,hzi,hchk,xs,hG,hcl⟩
 refine W_at (C':=C) ⟨hchk,Pick.refl C⟩ ?_
 clear hchk
 refine aw ?_
 refine W_rs ?_
 refine rq (out:=Pr.i64 zi) ag ?_
 refine rq (out:=Pr.bool (decide (zi≥0))) qInt ?_
 refine au (b:=decide (zi≥0)) rfl (fun hc=> ?_) (fun hc=> ?_)
 ·obtain⟨i,rfl⟩:∃i0,m=i0+1:=⟨m - 1,by have:=of_decide_eq_true hc;omega⟩
  obtain rfl:zi=(i:Int):=by rw[hzi];omega
  obtain⟨x,hx⟩:∃x,a[i]? =some x:=⟨a[i],List.getElem?_eq_getElem (by omega)⟩
  obtain⟨nxt,hnx,hnl,hrow⟩:=lcsRows_at .i32 (b:=b) hx
  refine av ?_
  refine aw ?_
  refine ar ?_
  have hcl1:C.length=a.length - i+1:=by omega
  have hxl:xs.length=a.length+1:=by rw[hG.len];exact base_len _ _ _ hI
  obtain⟨x0,hx0⟩:∃x,xs[i]? =some x:=⟨xs[i],List.getElem?_eq_getElem (by omega)⟩
  refine W_rs ?_
  refine rq (out:=Pr.is v5) ag ?_
  refine rq (out:=Pr.i64 (i:Int)) ag ?_
  refine rq (out:=af (Rp.int .i64) b) ag ?_
  refine rq (out:=Pr.i64 (b.length:Int)) (cl rfl Tryz.underlying90) ?_
  refine rq (out:=Pr.i64 (w64 ((b.length:Int)+1))) qInt ?_
  refine rMake (R:=Rp.int .i32) (z:=0) el152 Tryz.zeroValue21 (fun _=>rfl) (hmk _ _ hb (by omega)) (fun v=> ?_)
  have hnew:(C++[Own.vec v (Rp.int .i32) (List.replicate (b.length+1) 0) 21])[C.length]? =some (Own.vec v (Rp.int .i32) (List.replicate (b.length+1) 0) 21):=by simp
  have htop2:(C++[Own.vec v (Rp.int .i32) (List.replicate (b.length+1) 0) 21])[0]? =some (Own.vec v5 cw xs 152):=by rw[List.getElem?_append_left (by omega)];exact hG.top
  refine rSl C.length hnew (fun xn hxn=> ?_)
  subst hxn
  refine rq (out:=cb v5 (Int.toNat (i:Int) * cw.size)) (jb 0 (R:=cw) (l:=xs) Tryz.underlying150 Tryz.sizeOf152 (idxN rfl hx0) (hi:=htop2)) ?_
  refine k5 (R:=cw) (R':=cw) (l:=xs) (a:=x0) (y:=xn) (o:=0) 0 Tryz.sizeOf152 (Upd.refl _) (idxN rfl hx0) rfl ?_ (hi:=htop2)
  have hG2:Grid (Rp.int .i32) 152 21 v5 (xs.set i xn) ((base .i32 a b (i+1)).set i (part .i32 x b nxt b.length)) (fun i=>a.length - i+1) i ((C++[Own.vec (slc xn) (Rp.int .i32) (List.replicate (b.length+1) 0) 21]).set 0 (Own.vec v5 cw (xs.set i xn) 152)):=by
   refine⟨List.getElem?_set_self (by simp),by rw[List.length_set,List.length_set];exact hG.len,fun k h1 h2=> ?_⟩
   rw[List.length_set,base_len _ _ _ hI]at h2
   by_cases hki:k=i
   ·subst hki
    refine⟨xn,_,List.getElem?_set_self (by omega),List.getElem?_set_self (by rw[base_len _ _ _ hI];omega),?_⟩
    rw[List.getElem?_set_ne (by omega),part_end]
    have:a.length - k+1=C.length:=by omega
    show(C++_)[a.length - k+1]? =_
    rw[this]
    exact hnew
   obtain⟨x',l,g1,g2,g3⟩:=hG.row k (by omega) (by rw[base_len _ _ _ hI];omega)
   refine⟨x',l,by rw[List.getElem?_set_ne (Ne.symm hki)];exact g1,by rw[List.getElem?_set_ne (Ne.symm hki)];exact g2,?_⟩
   have g3:C[a.length - k+1]? =_:=g3
   show(List.set _ _ _)[a.length - k+1]? =_
   rw[List.getElem?_set_ne (by omega),List.getElem?_append_left (by omega)]
   exact g3
  have hcl2:((C++[Own.vec (slc xn) (Rp.int .i32) (List.replicate (b.length+1) 0) 21]).set 0 (Own.vec v5 cw (xs.set i xn) 152)).length=a.length - i+2:=by rw[List.length_set,List.length_append,hcl1];rfl
  refine W_rs ?_
  refine rq (out:=af (Rp.int .i64) b) ag ?_
  refine rq (out:=Pr.i64 (b.length:Int)) (cl rfl Tryz.underlying90) ?_
  refine rq (out:=Pr.i64 (w64 ((b.length:Int) - 1))) qInt ?_
  refine rq (out:=Pr.i64 (w64 ((b.length:Int) - 1))) ae ?_
  refine ar ?_
  have hzj0:w64 ((b.length:Int) - 1)=(b.length:Int) - 1:=g8 (by omega) (by omega)
  have hlo:i<=i:=Nat.le_refl _
  have hpl:a.length - i+1<a.length - i+2:=by omega
  have hp0':∀i:Nat,a.length - i+1≠0:=fun i=>Nat.succ_ne_zero _
  refine bp 2 (fun e C=>Chk [(0,af (Rp.int .i64) a),(1,af (Rp.int .i64) b),(5,Pr.is v5),(6,Pr.i64 (i:Int))] e/\∃xs,Grid (Rp.int .i32) 152 21 v5 xs (base .i32 a b i) (fun i=>a.length - i+1) i C/\C.length=a.length - i+2) ?_ ?_
  ·rintro e C ⟨hchk,xs,hG,hcl⟩
   refine W_at (C':=C) ⟨hchk,Pick.refl C⟩ ?_
   clear hchk
   refine W_r ?_
   refine rq (out:=Pr.i64 (i:Int)) ag ?_
   refine rq (out:=Pr.i64 (w64 ((i:Int) - 1))) qInt ?_
   refine rq (out:=Pr.i64 (w64 ((i:Int) - 1))) ae ?_
   exact⟨i,by omega,i,rfl,by omega,_,g8 (by omega) (by omega),⟨aa,aa,aa,aa,trivial⟩,xs,hG,hcl⟩
  refine cd (fun m e C=>∃j,m=j/\j<=b.length/\∃zj:Int,zj=(j:Int) - 1/\Chk [(0,af (Rp.int .i64) a),(1,af (Rp.int .i64) b),(5,Pr.is v5),(6,Pr.i64 (i:Int)),(7,Pr.i64 zj)] e/\∃xs,Grid (Rp.int .i32) 152 21 v5 xs ((base .i32 a b (i+1)).set i (part .i32 x b nxt j)) (fun i=>a.length - i+1) i C/\C.length=a.length - i+2) b.length ⟨b.length,rfl,Nat.le_refl _,_,hzj0,⟨aa,aa,aa,aa,aa,trivial⟩,_,hG2,hcl2⟩ ?_
  clear hG hcl hG2 hcl2 hcl1 hnew htop2 hxl hx0 x0 xs
  rintro m e C ⟨j,rfl,hjm,zj,hzj,hchk,xs,hG,hcl⟩
  refine W_at (C':=C) ⟨hchk,Pick.refl C⟩ ?_
  clear hchk
  refine aw ?_
  refine W_rs ?_
  refine rq (out:=Pr.i64 zj) ag ?_
  refine rq (out:=Pr.bool (decide (zj≥0))) qInt ?_
  refine au (b:=decide (zj≥0)) rfl (fun hc=> ?_) (fun hc=> ?_)
  ·obtain⟨j,rfl⟩:∃j0,m=j0+1:=⟨m - 1,by have:=of_decide_eq_true hc;omega⟩
   obtain rfl:zj=(j:Int):=by rw[hzj];omega
   obtain⟨y,hy⟩:∃y,b[j]? =some y:=⟨b[j],List.getElem?_eq_getElem (by omega)⟩
   obtain⟨n0,n1,r1,hn0,hn1,hp0,hp1,hstep⟩:=part_step (k:= .i32) (x:=x) (b:=b) (nxt:=nxt) hnl hy
   have hLl:((base .i32 a b (i+1)).set i (part .i32 x b nxt (j+1))).length=a.length+1:=by rw[List.length_set];exact base_len _ _ _ (by omega)
   obtain⟨xi,li,hxi,hli,hCi⟩:=hG.row i hlo (by omega)
   obtain rfl:li=part .i32 x b nxt (j+1):=by rw[List.getElem?_set_self (by rw[base_len _ _ _ (by omega)];omega)]at hli;exact(Option.some.inj hli).symm
   obtain⟨x1,l1,hx1,hl1,hC1⟩:=hG.row (i+1) (by omega) (by omega)
   obtain rfl:l1=nxt:=by rw[List.getElem?_set_ne (by omega),base_at _ _ _ (Nat.le_refl _),hnx]at hl1;exact(Option.some.inj hl1).symm
   have hix:idx a (i:Int)=some x:=idxN rfl hx
   have hjy:idx b (j:Int)=some y:=idxN rfl hy
   have hwi:w64 ((i:Int)+1)=((i+1:Nat):Int):=by rw[g8 (by omega) (by omega)];omega
   have hwj:w64 ((j:Int)+1)=((j+1:Nat):Int):=by rw[g8 (by omega) (by omega)];omega
   have hvi:idx xs (i:Int)=some xi:=idxN rfl hxi
   have hvi1:idx xs (w64 ((i:Int)+1))=some x1:=idxN hwi hx1
   have hr1:idx l1 (w64 ((j:Int)+1))=some n1:=idxN hwj hn1
   have hr0:idx l1 (j:Int)=some n0:=idxN rfl hn0
   have hq0:idx (part .i32 x b l1 (j+1)) (j:Int)=some 0:=idxN rfl hp0
   have hq1:idx (part .i32 x b l1 (j+1)) (w64 ((j:Int)+1))=some r1:=idxN hwj hp1
   refine av ?_
   refine aw ?_
   refine ar ?_
   refine aw ?_
   refine ei 9 hmx (by kernel_rfl) (by kernel_rfl) ?_
   refine qq (out:=af (Rp.int .i64) a) ag ?_
   refine qq (out:=Pr.i64 (i:Int)) ag ?_
   refine qq (out:=a5 (Rp.int .i64) x) (cr (R:=Rp.int .i64) (l:=a) Tryz.underlying90 Tryz.sizeOf3 hix) ?_
   refine qq (out:=Pr.i64 x) (bl (R:=Rp.int .i64) (a:=x) ty3) ?_
   refine qq (out:=af (Rp.int .i64) b) ag ?_
   refine qq (out:=Pr.i64 (j:Int)) ag ?_
   refine qq (out:=a5 (Rp.int .i64) y) (cr (R:=Rp.int .i64) (l:=b) Tryz.underlying90 Tryz.sizeOf3 hjy) ?_
   refine qq (out:=Pr.i64 y) (bl (R:=Rp.int .i64) (a:=y) ty3) ?_
   refine qq (out:=Pr.bool (x==y)) qInt ?_
   refine au (b:=x==y) rfl (fun hxy=> ?_) (fun hxy=> ?_)
   ·refine ei 16 hmx (by kernel_rfl) (by kernel_rfl) ?_
    refine qq (out:=Pr.is v5) ag ?_
    refine qq (out:=Pr.i64 (i:Int)) ag ?_
    refine qq (out:=cb v5 (Int.toNat ((i:Int)) * cw.size)) (jb 0 (R:=cw) (l:=xs) Tryz.underlying150 Tryz.sizeOf152 hvi (hi:=hG.top)) ?_
    refine qq (out:=Pr.is (slc xi)) (jg (R:=cw) (R':=cw) (l:=xs) (a:=xi) (o:=0) 0 ty152 (Sub.refl _) (Nat.le_of_ble_eq_true rfl) hvi rfl (hi:=hG.top)) ?_
    refine qq (out:=Pr.i64 (j:Int)) ag ?_
    refine qq (out:=Pr.is v5) ag ?_
    refine qq (out:=Pr.i64 (i:Int)) ag ?_
    refine qq (out:=Pr.i64 (w64 ((i:Int)+1))) qInt ?_
    refine qq (out:=cb v5 (Int.toNat (w64 ((i:Int)+1)) * cw.size)) (jb 0 (R:=cw) (l:=xs) Tryz.underlying150 Tryz.sizeOf152 hvi1 (hi:=hG.top)) ?_
    refine qq (out:=Pr.is (slc x1)) (jg (R:=cw) (R':=cw) (l:=xs) (a:=x1) (o:=0) 0 ty152 (Sub.refl _) (Nat.le_of_ble_eq_true rfl) hvi1 rfl (hi:=hG.top)) ?_
    refine qq (out:=Pr.i64 (j:Int)) ag ?_
    refine qq (out:=Pr.i64 (w64 ((j:Int)+1))) qInt ?_
    refine qq (out:=cb (slc x1) (Int.toNat (w64 ((j:Int)+1)) * ((Rp.int .i32)).size)) (jb (a.length - (i+1)+1) (R:=(Rp.int .i32)) (l:=l1) Tryz.underlying152 Tryz.sizeOf21 hr1 (hi:=hC1)) ?_
    refine qq (out:=Pr.int .i32 n1) (jg (R:=(Rp.int .i32)) (R':=(Rp.int .i32)) (l:=l1) (a:=n1) (o:=0) (a.length - (i+1)+1) ty21 (Sub.refl _) (Nat.le_of_ble_eq_true rfl) hr1 rfl (hi:=hC1)) ?_
    refine qq (out:=Pr.int .i32 (IntKind.wrap .i32 (n1+1))) qInt ?_
    refine qq (out:=cb (slc xi) (Int.toNat (j:Int) * ((Rp.int .i32)).size)) (jb (a.length - i+1) (R:=(Rp.int .i32)) (l:=part .i32 x b l1 (j+1)) Tryz.underlying152 Tryz.sizeOf21 hq0 (hi:=hCi)) ?_
    refine k5 (R:=(Rp.int .i32)) (R':=(Rp.int .i32)) (l:=part .i32 x b l1 (j+1)) (a:=0) (y:=IntKind.wrap .i32 (n1+1)) (o:=0) (a.length - i+1) Tryz.sizeOf21 (Upd.refl _) hq0 rfl ?_ (hi:=hCi)
    refine W_r ?_
    refine rq (out:=Pr.i64 (j:Int)) ag ?_
    refine rq (out:=Pr.i64 (w64 ((j:Int) - 1))) qInt ?_
    refine rq (out:=Pr.i64 (w64 ((j:Int) - 1))) ae ?_
    refine⟨j,by omega,j,rfl,by omega,_,g8 (by omega) (by omega),⟨aa,aa,aa,aa,aa,trivial⟩,xs,(hG.set (by omega) hxi (by rw[hcl];exact hpl) (hp0' i) (fun k h1 h2 h3=>by have h3:a.length - k+1=a.length - i+1:=h3;rw[hLl]at h2;omega)).as ?_,by rw[List.length_set];exact hcl⟩
    rw[List.set_set]
    have hs:(part .i32 x b l1 (j+1)).set (Int.toNat (j:Int)) (IntKind.wrap .i32 (n1+1))=part .i32 x b l1 j:=by rw[← hstep,if_pos hxy];simp
    exact congrArg _ hs
   refine ei 23 hmx (by kernel_rfl) (by kernel_rfl) ?_
   refine qq (out:=Pr.is v5) ag ?_
   refine qq (out:=Pr.i64 (i:Int)) ag ?_
   refine qq (out:=cb v5 (Int.toNat ((i:Int)) * cw.size)) (jb 0 (R:=cw) (l:=xs) Tryz.underlying150 Tryz.sizeOf152 hvi (hi:=hG.top)) ?_
   refine qq (out:=Pr.is (slc xi)) (jg (R:=cw) (R':=cw) (l:=xs) (a:=xi) (o:=0) 0 ty152 (Sub.refl _) (Nat.le_of_ble_eq_true rfl) hvi rfl (hi:=hG.top)) ?_
   refine qq (out:=Pr.i64 (j:Int)) ag ?_
   refine qq (out:=Pr.is v5) ag ?_
   refine qq (out:=Pr.i64 (i:Int)) ag ?_
   refine qq (out:=Pr.i64 (w64 ((i:Int)+1))) qInt ?_
   refine qq (out:=cb v5 (Int.toNat (w64 ((i:Int)+1)) * cw.size)) (jb 0 (R:=cw) (l:=xs) Tryz.underlying150 Tryz.sizeOf152 hvi1 (hi:=hG.top)) ?_
   refine qq (out:=Pr.is (slc x1)) (jg (R:=cw) (R':=cw) (l:=xs) (a:=x1) (o:=0) 0 ty152 (Sub.refl _) (Nat.le_of_ble_eq_true rfl) hvi1 rfl (hi:=hG.top)) ?_
   refine qq (out:=Pr.i64 (j:Int)) ag ?_
   refine qq (out:=cb (slc x1) (Int.toNat ((j:Int)) * ((Rp.int .i32)).size)) (jb (a.length - (i+1)+1) (R:=(Rp.int .i32)) (l:=l1) Tryz.underlying152 Tryz.sizeOf21 hr0 (hi:=hC1)) ?_
   refine qq (out:=Pr.int .i32 n0) (jg (R:=(Rp.int .i32)) (R':=(Rp.int .i32)) (l:=l1) (a:=n0) (o:=0) (a.length - (i+1)+1) ty21 (Sub.refl _) (Nat.le_of_ble_eq_true rfl) hr0 rfl (hi:=hC1)) ?_
   refine qq (out:=Pr.is v5) ag ?_
   refine qq (out:=Pr.i64 (i:Int)) ag ?_
   refine qq (out:=cb v5 (Int.toNat ((i:Int)) * cw.size)) (jb 0 (R:=cw) (l:=xs) Tryz.underlying150 Tryz.sizeOf152 hvi (hi:=hG.top)) ?_
   refine qq (out:=Pr.is (slc xi)) (jg (R:=cw) (R':=cw) (l:=xs) (a:=xi) (o:=0) 0 ty152 (Sub.refl _) (Nat.le_of_ble_eq_true rfl) hvi rfl (hi:=hG.top)) ?_
   refine qq (out:=Pr.i64 (j:Int)) ag ?_
   refine qq (out:=Pr.i64 (w64 ((j:Int)+1))) qInt ?_
   refine qq (out:=cb (slc xi) (Int.toNat (w64 ((j:Int)+1)) * ((Rp.int .i32)).size)) (jb (a.length - i+1) (R:=(Rp.int .i32)) (l:=part .i32 x b l1 (j+1)) Tryz.underlying152 Tryz.sizeOf21 hq1 (hi:=hCi)) ?_
   refine qq (out:=Pr.int .i32 r1) (jg (R:=(Rp.int .i32)) (R':=(Rp.int .i32)) (l:=part .i32 x b l1 (j+1)) (a:=r1) (o:=0) (a.length - i+1) ty21 (Sub.refl _) (Nat.le_of_ble_eq_true rfl) hq1 rfl (hi:=hCi)) ?_
   refine qq (out:=Pr.int .i32 (if r1>n0 then r1 else n0)) (qMax (a:=n0) (b:=r1)) ?_
   refine qq (out:=cb (slc xi) (Int.toNat (j:Int) * ((Rp.int .i32)).size)) (jb (a.length - i+1) (R:=(Rp.int .i32)) (l:=part .i32 x b l1 (j+1)) Tryz.underlying152 Tryz.sizeOf21 hq0 (hi:=hCi)) ?_
   refine k5 (R:=(Rp.int .i32)) (R':=(Rp.int .i32)) (l:=part .i32 x b l1 (j+1)) (a:=0) (y:=if r1>n0 then r1 else n0) (o:=0) (a.length - i+1) Tryz.sizeOf21 (Upd.refl _) hq0 rfl ?_ (hi:=hCi)
   refine W_r ?_
   refine rq (out:=Pr.i64 (j:Int)) ag ?_
   refine rq (out:=Pr.i64 (w64 ((j:Int) - 1))) qInt ?_
   refine rq (out:=Pr.i64 (w64 ((j:Int) - 1))) ae ?_
   refine⟨j,by omega,j,rfl,by omega,_,g8 (by omega) (by omega),⟨aa,aa,aa,aa,aa,trivial⟩,xs,(hG.set (by omega) hxi (by rw[hcl];exact hpl) (hp0' i) (fun k h1 h2 h3=>by have h3:a.length - k+1=a.length - i+1:=h3;rw[hLl]at h2;omega)).as ?_,by rw[List.length_set];exact hcl⟩
   rw[List.set_set]
   have hs:(part .i32 x b l1 (j+1)).set (Int.toNat (j:Int)) (if r1>n0 then r1 else n0)=part .i32 x b l1 j:=by rw[← hstep,if_neg (c:=(x==y)=true) (by rw[hxy];decide)];simp
   exact congrArg _ hs
  obtain rfl:m=0:=by have:=of_decide_eq_false hc;omega
  refine bw ?_
  refine⟨⟨aa,aa,aa,aa,trivial⟩,xs,hG.as ?_,hcl⟩
  rw[part_zero]
  exact base_set _ _ _ hrow
 obtain rfl:m=0:=by have:=of_decide_eq_false hc;omega
 refine bw ?_
 exact⟨⟨aa,trivial⟩,xs,hG⟩
end Go.Proofs.YtphkaogfinjbjaaGreatDoor
