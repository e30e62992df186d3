/- What allocations make. -/
import Derived.Test.YteablckbgpogiaaGreatDoorZH
import Derived.Test.YteablckbgpogiaaGreatDoorZJ
import Derived.Test.YteablckbgpogiaaGreatDoorLay
import Derived.Lib.ConvBytes
import Derived.Lib.AtoiErrMem
set_option linter.unusedSimpArgs false
set_option linter.unusedVariables false
set_option linter.unusedSectionVars false
set_option linter.unusedSectionVars false
set_option maxRecDepth 100000
set_option maxHeartbeats 4000000
namespace Go.Proofs.YteablckbgpogiaaGreatDoor
open Go Go.Cn
variable [Known]
theorem Builder_copyCheck_ok (b:Nat) (v:Value):FnC Tryz.prog 46 [aj b 0] [Own.bld 60 b v] (fun q C'=>q=ce []/\C'=[Own.bld 60 b v]):=by
 refine fnc_intro (n:=20) (rs:=[]) Tryz.func46 rfl Tryz.ntmps46 ⟨by decide,Tryz.results46⟩ (by decide) (fun s0=> ?_)
 refine W_bld (fun p hp=> ?_)
 rcases hp with rfl|rfl
 ·refine W_rs ?_
  refine rq (out:=aj b 0) jn ?_
  refine rq (out:=aj b 0) qNilP ?_
  refine rq (out:=aj b 0) (av fld60_0) ?_
  refine rq (out:=Pr.is (.pointer none)) (qLoadB0 Tryz.isAgg57) ?_
  refine rq (out:=Pr.bool true) (qPtrNil (q:=none) Tryz.underlying57) ?_
  refine W_cond (b:=true) rfl (fun _=> ?_) (fun h=>nomatch h)
  refine W_toBld (B:=60) (b:=b) (v:=v) (.inr rfl) ?_
  refine W_r ?_
  refine rq (out:=aj b 0) jn ?_
  refine rq (out:=aj b 0) jn ?_
  refine rq (out:=aj b 0) (qToUnsafe Tryz.underlying57 Tryz.underlying108 (show Tryz.prog.info? 60=some Tryz.t60 from rfl) (by decide)) ?_
  refine rq (out:=aj b 0) (qNoEscape Tryz.func71 (by kernel_rfl) (by kernel_rfl) (by kernel_rfl) (by kernel_rfl)) ?_
  refine rq (out:=aj b 0) (qFromUnsafe Tryz.underlying108 Tryz.underlying57 (show Tryz.prog.info? 60=some Tryz.t60 from rfl) (by kernel_rfl)) ?_
  refine rq (out:=aj b 0) qNilP ?_
  refine rq (out:=aj b 0) (av fld60_0) ?_
  refine rStoreB0 Tryz.sizeOf57 ?_
  exact⟨rfl,.inr rfl,_,aa,rfl,rfl⟩
 refine W_rs ?_
 refine rq (out:=aj b 0) jn ?_
 refine rq (out:=aj b 0) qNilP ?_
 refine rq (out:=aj b 0) (av fld60_0) ?_
 refine rq (out:=aj b 0) (qLoadB0 Tryz.isAgg57) ?_
 refine rq (out:=Pr.bool false) (qPtrNil (q:=some ⟨b,0,none⟩) Tryz.underlying57) ?_
 refine W_cond (b:=false) rfl (fun h=>nomatch h) (fun _=> ?_)
 refine W_rs ?_
 refine rq (out:=aj b 0) jn ?_
 refine rq (out:=aj b 0) qNilP ?_
 refine rq (out:=aj b 0) (av fld60_0) ?_
 refine rq (out:=aj b 0) (qLoadB0 Tryz.isAgg57) ?_
 refine rq (out:=aj b 0) jn ?_
 refine rq (out:=Pr.bool false) (qPtrSame Tryz.underlying57 (show Tryz.prog.info? 60=some Tryz.t60 from rfl)) ?_
 refine W_cond (b:=false) rfl (fun h=>nomatch h) (fun _=> ?_)
 refine W_bldp (.inr rfl) ?_
 refine ar ?_
 exact⟨.inr rfl,_,aa,rfl,rfl⟩
theorem Builder_WriteString_ok (b:Nat) (v:Value) (l m z:List UInt8) (h:bcat l m=some z):FnC Tryz.prog 28 [aj b 0,ba m] [Own.bld 60 b v,Own.vec v i2 l 5] (fun q C'=>∃v',q=ce [Pr.i64 m.length,Pr.is .nilIface]/\C'=[Own.bld 60 b v',Own.vec v' i2 z 5]):=by
 obtain⟨h2,rfl⟩:=bcat_some h
 refine fnc_intro (n:=19) (rs:=[4,5]) Tryz.func28 rfl Tryz.ntmps28 ⟨by decide,Tryz.results28⟩ (by decide) (fun s0=> ?_)
 refine W_rs ?_
 refine rq (out:=Pr.i64 0) el ?_
 refine rq (out:=Pr.is .nilIface) el ?_
 refine W_rs ?_
 refine rq (out:=aj b 0) jn ?_
 refine jp [0] (Builder_copyCheck_ok b v) (fun q C' hq=> ?_)
 obtain⟨rfl,rfl⟩:=hq
 refine W_rs ?_
 refine rq (out:=aj b 0) jn ?_
 refine rq (out:=aj b 0) jn ?_
 refine rq (out:=aj b 0) qNilP ?_
 refine rq (out:=aj b 1) (av fld60_1) ?_
 refine rq (out:=Pr.is v) (qLoadB 0 Tryz.isAgg58) ?_
 refine rq (out:=ba m) jn ?_
 refine rAppendS 1 (l:=l) (m:=m) el58 Tryz.underlying9 h2 (fun v'=> ?_)
 refine rq (out:=aj b 0) qNilP ?_
 refine rq (out:=aj b 1) (av fld60_1) ?_
 refine rStoreB 0 1 (l:=l++m) (R:=i2) (e:=5) Tryz.sizeOf58 ?_
 refine W_rs ?_
 refine rq (out:=ba m) jn ?_
 refine rq (out:=Pr.i64 (m.length:Int)) (ol rfl Tryz.underlying9) ?_
 refine rq (out:=Pr.i64 (m.length:Int)) el ?_
 refine rq (out:=Pr.is .nilIface) el ?_
 exact ax ⟨.inl rfl,_,aa,_,rfl,rfl⟩
theorem cells5 :Tryz.prog.cellsOf 5=1:=by kernel_rfl
theorem Builder_String_ok (b:Nat) (v:Value) (l:List UInt8):FnC Tryz.prog 29 [aj b 0] [Own.bld 60 b v,Own.vec v i2 l 5] (fun q C'=>q=ba l/\C'=[]):=by
 refine fnc_intro (n:=14) (rs:=[2]) Tryz.func29 rfl Tryz.ntmps29 ⟨by decide,Tryz.results29⟩ (by decide) (fun s0=> ?_)
 refine W_rs ?_
 refine rq (out:=ba []) el ?_
 refine az ?_
 refine ib 10 hmx (by kernel_rfl) (by kernel_rfl) ?_
 refine qq (out:=aj b 0) jn ?_
 refine qq (out:=aj b 0) qNilP ?_
 refine qq (out:=aj b 1) (av fld60_1) ?_
 refine qq (out:=Pr.is v) (qLoadB 0 Tryz.isAgg58) ?_
 refine qq (out:=Pr.sd v) (qSliceData 1 (l:=l) (e:=5) Tryz.underlying88) ?_
 refine qq (out:=aj b 0) jn ?_
 refine qq (out:=aj b 0) qNilP ?_
 refine qq (out:=aj b 1) (av fld60_1) ?_
 refine qq (out:=Pr.is v) (qLoadB 0 Tryz.isAgg58) ?_
 refine qq (out:=Pr.i64 (l.length:Int)) (qLenV 1 rfl Tryz.underlying58) ?_
 refine rUnsafeString 1 (l:=l) Tryz.underlying88 cells5 ?_
 refine rq (out:=ba l) el ?_
 refine W_drop (C':=[]) (List.nil_sublist _) ?_
 exact ax ⟨.inl rfl,_,aa,rfl,rfl⟩
theorem gKept :∀s,Glob.ok s->RowAt ct s ⟨0,0,none⟩ kept:=fun _ h=>GCells.row (R:=ct) h.1 (rowC_flat (R:=ct) (fun l=>[.string ⟨l.toArray⟩]) (fun _ _=>rfl))
theorem allP2 {s:St} {p q:Pr} {vs:List Value} (h:AllP s [p,q] vs):∃v u,vs=[v,u]/\p.p s v/\q.p s u:=by
 match vs,h with
 | [v,u],h=>exact⟨v,u,rfl,h.1,h.2.1⟩
theorem allP3 {s:St} {p q r:Pr} {vs:List Value} (h:AllP s [p,q,r] vs):∃v u t,vs=[v,u,t]/\p.p s v/\q.p s u/\r.p s t:=by
 match vs,h with
 | [v,u,t],h=>exact⟨v,u,t,rfl,h.1,h.2.1,h.2.2.1⟩
theorem strings_IndexByte_ok (x:List UInt8) (c r:Int) (h:strings_IndexByte x c=some r):FnP Tryz.prog 128 [ba x,Pr.u8 c] (Pr.i64 r):=by
 refine fn_same en128 (fun s vs hs ha=> ?_)
 obtain⟨v,u,rfl,h1,h2⟩:=allP2 ha
 obtain rfl:v= .string (bs x):=h1
 obtain rfl:u= .int .u8 c:=h2
 refine(Tryz.strings_IndexByte (bs x) c s.w).mono ?_
 rintro e w' ⟨rfl,rfl⟩
 obtain rfl:=Option.some.inj h
 exact⟨_,rfl,rfl,rfl⟩
theorem strings_Index_ok (x y:List UInt8) (r:Int) (h:strings_Index x y=some r):FnP Tryz.prog 102 [ba x,ba y] (Pr.i64 r):=by
 refine fn_same en102 (fun s vs hs ha=> ?_)
 obtain⟨v,u,rfl,h1,h2⟩:=allP2 ha
 obtain rfl:v= .string (bs x):=h1
 obtain rfl:u= .string (bs y):=h2
 unfold strings_Index at h
 split at h
 ·rename_i hlt
  obtain⟨m,hm⟩:=hs.glob.2.2.1
  have hc:=hm.lies.cell (j:=0) rfl
  have ha:(⟨1,0,none⟩:Addr).add 0=⟨1,0,none⟩:=by simp[Addr.add]
  rw[ha]at hc
  refine(Tryz.strings_Index (bs x) (bs y) m s.w (by simpa [bs,ByteArray.size] using hlt) hc).mono ?_
  rintro e w' ⟨rfl,rfl⟩
  obtain rfl:=Option.some.inj h
  exact⟨_,rfl,rfl,rfl⟩
 cases h
theorem strconv_ParseInt_ok (x:List UInt8) (b k:Int) (r:Int × Bool) (h:fc x b k=some r):FnP Tryz.prog 104 [ba x,Pr.i64 b,Pr.i64 k] (ce [Pr.i64 r.1,Pr.err r.2]):=by
 refine fn_below en104 (fun s vs hs ha=> ?_)
 obtain⟨v,u,t,rfl,h1,h2,h3⟩:=allP3 ha
 obtain rfl:v= .string (bs x):=h1
 obtain rfl:u= .int .i64 b:=h2
 obtain rfl:t= .int .i64 k:=h3
 unfold fc at h
 split at h
 ·rename_i hc
  obtain⟨rfl,rfl,hlen⟩:=hc
  have hsz:(bs x).size=x.length:=by simp[bs,ByteArray.size]
  have hdl:(bs x).data.toList=x:=by simp[bs]
  cases hp:Lib.parseIntB 64 x with
  |ok v=>
   rw[hp]at h
   obtain rfl:=Option.some.inj h
   refine(Tryz.strconv_ParseInt_ok (bs x) (by rw[hsz];omega) v (by rw[hdl];exact hp) s.w).mono ?_
   rintro e w' ⟨rfl,hw⟩
   refine⟨_,rfl,?_,fun F'=>⟨[_,_],rfl,rfl,rfl,trivial⟩⟩
   rcases hw with rfl|⟨t,rfl⟩
   ·exact Go.RowKit.Below.refl _ _
   exact Lib.bytesWorld_below _ _ _
  |range=>
   rw[hp]at h
   obtain rfl:=Option.some.inj h
   obtain⟨te,pe,hg⟩:=hs.glob.2.2.2
   have hc:=hg.lies.cell (j:=0) rfl
   have ha:(⟨3,0,none⟩:Addr).add 0=⟨3,0,none⟩:=by simp[Addr.add]
   rw[ha]at hc
   refine(Tryz.strconv_ParseInt_range (bs x) (by rw[hsz];exact hlen) (by rw[hdl];exact hp) (.iface te pe) s.w hc (.inr ⟨te,pe,rfl⟩)).mono ?_
   rintro e w' ⟨N,rfl,_,_,hb⟩
   rw[hdl]
   exact⟨_,rfl,hb,fun F'=>⟨[_,_],rfl,rfl,⟨_,_,rfl⟩,trivial⟩⟩
  |_=>rw[hp]at h;cases h
 cases h
def fo (m:ParseWrong):Value:= .iface 100 (.agg #[.int .i64 m.m.Code,.int .i64 m.m.File,.int .i64 m.m.At])
theorem wrong_plain (m:ParseWrong):∀s v,(Pr.ifc 100 ((im).val m)).p s v->(∃t u,v= .iface t u)/\v=fo m:=by
 rintro s v ⟨u,rfl,hu⟩
 refine⟨⟨_,_,rfl⟩,?_⟩
 obtain⟨cs,hc,rfl⟩:=(im).spec.1 hu
 obtain⟨c1,r1,rfl,h1,hr⟩:=hc
 obtain⟨d1,e1,rfl,g1,d2,e2,rfl,g2,d3,e3,rfl,g3,hn⟩:=h1
 have g1:d1=[.int .i64 m.m.Code]:=g1
 have g2:d2=[.int .i64 m.m.File]:=g2
 have g3:d3=[.int .i64 m.m.At]:=g3
 have hn:e3=[]:=hn
 have hr:r1=[]:=hr
 subst g1 g2 g3 hn hr
 rfl
section
variable {env:Env} {C:Ctx} {ty:TypeId} {pos:String} {after:Array Edge} {gd:Option (Nat × Bool)} {d:Option Nat}
theorem qMade (i:Nat) {x1:ParseParser} {b:Nat} {x2 x3:Int} {l:List ApiNode} {r:ApiNode} {p a c z:Operand} {tys:Array TypeId} (h:parse_parser_made x1 x2 x3 l=some r) (hz:(env.op z).le (ap rApiNode l))
  (hi:C[i]? =some (Own.box b ae x1):=by exact rfl) (hp:env.op p=aj b 0:=by exact rfl) (ha:env.op a=Pr.i64 x2:=by exact rfl) (hc:env.op c=Pr.i64 x3:=by exact rfl):
  Q Tryz.prog C ⟨d,.call ⟨.value (.func 67), #[p,a,c,z],tys⟩,ty,pos,after,gd⟩ env (rApiNode.val r):=by
 obtain⟨x6,h6,h⟩:=af h
 obtain⟨x8,h8,h⟩:=af h
 obtain rfl:=Option.some.inj h
 refine qCallH i (R:=ae) (x:=x1) (R':=rApiNode) (l:=l) (res:=fun hd=>(HN.rApiNode).val (HN.ApiNode.mk x2 [] [] 0 x8.At (w64 (x6.At+(x6.Text.length:Int))) (-1) (-1) hd)) (fun hd=>HN.parse_parser_made_ok x1 x2 x3 hd _ ?_) hz (fun s t hd u h1 h2=> ?_) hi hp ha hc
 ·unfold HN.parse_parser_made HN.parse_parser_made_j2 HN.parse_parser_made_j1
  rw[h6,Option.bind_some,h8,Option.bind_some]
 ·obtain⟨cs,hcs,hu⟩:=(HN.rApiNode).spec.1 h1
  refine rApiNode.spec.2 ⟨cs,?_,hu⟩
  rw[au]
  have hcs:catC s (HN.ApiNode.mk x2 [] [] 0 x8.At (w64 (x6.At+(x6.Text.length:Int))) (-1) (-1) hd) HN.fApiNode cs:=hcs
  show catC t _ fApiNode cs
  obtain⟨c1,r1,e1,g1,c2,r2,e2,g2,c3,r3,e3,g3,c4,r4,e4,g4,c5,r5,e5,g5,c6,r6,e6,g6,c7,r7,e7,g7,c8,r8,e8,g8,c9,r9,e9,g9,g⟩:=hcs
  refine⟨c1,r1,e1,g1,c2,r2,e2,g2,c3,r3,e3,g3,c4,r4,e4,g4,c5,r5,e5,g5,c6,r6,e6,g6,c7,r7,e7,g7,c8,r8,e8,g8,c9,r9,e9,?_,g⟩
  exact⟨_,g9,h2⟩
end
theorem strings_HasSuffix_ok (x y:List UInt8) (r:Bool) (h:strings_HasSuffix x y=some r):FnP Tryz.prog 30 [ba x,ba y] (Pr.bool r):=by
 refine fn_same en30 (fun s vs hs ha=> ?_)
 obtain⟨v,u,rfl,h1,h2⟩:=allP2 ha
 obtain rfl:v= .string (bs x):=h1
 obtain rfl:u= .string (bs y):=h2
 unfold strings_HasSuffix at h
 split at h
 ·rename_i hlt
  refine(Tryz.strings_HasSuffix (bs x) (bs y) s.w (by simpa [bs,ByteArray.size] using hlt)).mono ?_
  rintro e w' ⟨rfl,rfl⟩
  obtain rfl:=Option.some.inj h
  exact⟨_,rfl,rfl,rfl⟩
 cases h
theorem strings_Trim_ok (x y r:List UInt8) (h:strings_Trim x y=some r):FnP Tryz.prog 95 [ba x,ba y] (ba r):=by
 refine fn_below en95 (fun s vs hs ha=> ?_)
 obtain⟨v,u,rfl,h1,h2⟩:=allP2 ha
 obtain rfl:v= .string (bs x):=h1
 obtain rfl:u= .string (bs y):=h2
 unfold strings_Trim at h
 split at h
 ·rename_i hc
  obtain⟨hx,hlt,hall⟩:=hc
  have hall2:y.all (fun b=>decide (b.toNat<128))=true:=hall
  refine(Tryz.strings_Trim_set (bs x) (bs y) s.w (by simpa [bs,ByteArray.size] using hx) (by simpa [bs,ByteArray.size] using hlt) (fun j b hj=> ?_)).mono ?_
  ·have hm:b∈y:=by
    have:(bs y).data.toList=y:=by simp[bs]
    rw[this]at hj
    exact List.mem_of_getElem? hj
   exact of_decide_eq_true (List.all_eq_true.1 hall2 b hm)
  rintro e w' ⟨rfl,hb⟩
  obtain rfl:=Option.some.inj h
  refine⟨_,rfl,hb,fun F'=> ?_⟩
  show _=_
  simp[bs]
 cases h
end Go.Proofs.YteablckbgpogiaaGreatDoor
set_option linter.unusedSectionVars false
set_option maxRecDepth 100000
namespace Go.Proofs.YteablckbgpogiaaGreatDoor
open Go Go.Cn
variable [Known]
theorem al3 :AlK Tryz.prog 3 (Rp.int .i64) (0):=alK Tryz.zeroValue3 (fun _=>rfl)
theorem al48 :AlK Tryz.prog 48 (rApiNode) (ApiNode.mk 0 [] [] 0 0 0 0 0 []):=alK Tryz.zeroValue48 (fun _=>(by rw[au];exact⟨_,⟨_,_,rfl,rfl,⟨_,_,rfl,rfl,⟨_,_,rfl,rfl,⟨_,_,rfl,rfl,⟨_,_,rfl,rfl,⟨_,_,rfl,rfl,⟨_,_,rfl,rfl,⟨_,_,rfl,rfl,⟨_,_,rfl,⟨_,rfl,none,0,rfl,⟨Nat.le_refl _,fun _=>rfl⟩,.inl rfl⟩,rfl⟩⟩⟩⟩⟩⟩⟩⟩⟩,rfl⟩))
theorem al74 :AlK Tryz.prog 74 (ah) (ApiToken.mk 0 [] 0 []):=alK Tryz.zeroValue74 (fun _=>⟨_,⟨_,_,rfl,rfl,⟨_,_,rfl,rfl,⟨_,_,rfl,rfl,⟨_,_,rfl,rfl,rfl⟩⟩⟩⟩,rfl⟩)
theorem al28 :AlK Tryz.prog 28 (ai) (ApiMistake.mk 0 0 0):=alK Tryz.zeroValue28 (fun _=>⟨_,⟨_,_,rfl,rfl,⟨_,_,rfl,rfl,⟨_,_,rfl,rfl,rfl⟩⟩⟩,rfl⟩)
theorem al25 :AlK Tryz.prog 25 (a6) (ApiSegment.mk [] []):=alK Tryz.zeroValue25 (fun _=>⟨_,⟨_,_,rfl,rfl,⟨_,_,rfl,rfl,rfl⟩⟩,rfl⟩)
theorem al50 :AlK Tryz.prog 50 (en) (ApiFile.mk [] []):=alK Tryz.zeroValue50 (fun _=>⟨_,⟨_,_,rfl,rfl,⟨_,_,rfl,rfl,rfl⟩⟩,rfl⟩)
theorem al76 :AlK Tryz.prog 76 (ac) (Ref12Wrong.mk 0 0):=alK Tryz.zeroValue76 (fun _=>⟨_,⟨_,_,rfl,rfl,⟨_,_,rfl,rfl,rfl⟩⟩,rfl⟩)
end Go.Proofs.YteablckbgpogiaaGreatDoor
