/- The code comes to what these functions say (printed by wip/gen/gen.py). -/
import Derived.Test.YtgkcoicaopilhaaGreatDoorZP
import Derived.Test.YtgkcoicaopilhaaGreatDoorZT
set_option linter.unusedSimpArgs false
set_option linter.unusedVariables false
set_option linter.unusedSectionVars false
set_option linter.unusedSectionVars false
set_option maxRecDepth 100000
set_option maxHeartbeats 4000000
namespace Go.Proofs.YtgkcoicaopilhaaGreatDoor
open Go Go.Cn
def fu (R:cd):Prop:=(∀(x1:ApiNode) (x2:Int) (x3:List UInt8) (r:(List UInt8)),R.1 x1 x2 x3=some r->FnP Tryz.prog 50 [(ab).val x1,Pr.i64 x2,ah x3] (ah r))/\(∀(x1:List ApiNode) (x2:List UInt8) (r:(List UInt8)),R.2.1 x1 x2=some r->FnP Tryz.prog 72 [ai ab x1,ah x2] (ah r))/\(∀(x1:ApiNode) (x2:List UInt8) (r:(List UInt8)),R.2.2.1 x1 x2=some r->FnP Tryz.prog 98 [(ab).val x1,ah x2] (ah r))/\(∀(x1:ApiNode) (x2:List UInt8) (r:(List UInt8)),R.2.2.2 x1 x2=some r->FnP Tryz.prog 112 [(ab).val x1,ah x2] (ah r))
theorem F_print_belongs_step (R:cd) (ih:fu R) (x1:ApiNode) (x2:Int) (x3:List UInt8) (r:(List UInt8)) (h:i4 R x1 x2 x3=some r):FnP Tryz.prog 50 [(ab).val x1,Pr.i64 x2,ah x3] (ah r):=by
 refine bd (n:=39) (rs:=[6]) Tryz.func50 rfl Tryz.ntmps50 ⟨by decide,Tryz.results50⟩ (by decide) (fun s0=> ?_)
 unfold i4 at h
 refine W_rs ?_
 refine rBox (R:=ab) (a:=x1) rfl (fun b4=> ?_)
 refine rq (out:=ah []) ae ?_
 refine a4 ?_
 refine av ?_
 refine W_rs ?_
 refine rq (out:=Pr.i64 x2) ag ?_
 refine rq (out:=aq b4 8) (au c8) ?_
 refine rq (out:=ai ab x1.Kids) (a6 (R:=ab) (a:=x1) (R':=ap ab) 0 ty22 ay) ?_
 refine rq (out:=Pr.i64 (x1.Kids.length:Int)) (dc rfl Tryz.underlying22) ?_
 refine rq (out:=Pr.bool (decide (x2≥(x1.Kids.length:Int)))) qInt ?_
 refine rq (out:=Pr.bool (decide (x2≥(x1.Kids.length:Int)))) ae ?_
 refine al (b:=decide (x2≥(x1.Kids.length:Int))) rfl (fun hc5=> ?_) (fun hc5=> ?_)
 ·replace h:=iteT hc5 h
  refine W_rs ?_
  refine rq (out:=ah x3) ag ?_
  obtain⟨x6,hx6,h⟩:=af h
  refine rq (out:=ah x6) (o9 (ih.2.1 [] x3 _ hx6) ⟨dn _,aa,trivial⟩) ?_
  refine rq (out:=ah x6) ae ?_
  obtain rfl:=Option.some.inj h
  exact a5 ⟨rfl,aa⟩
 replace h:=iteF hc5 h
 refine W_rs ?_
 refine rq (out:=aq b4 8) (au c8) ?_
 refine rq (out:=ai ab x1.Kids) (a6 (R:=ab) (a:=x1) (R':=ap ab) 0 ty22 ay) ?_
 refine rq (out:=Pr.i64 x2) ag ?_
 obtain⟨x7,hx7,h⟩:=af h
 refine rq (out:=a8 ab x7) (c6 (R:=ab) (l:=x1.Kids) Tryz.underlying22 Tryz.sizeOf24 hx7) ?_
 refine rq (out:=a8 (Rp.int .i64) x7.Kind) (ee (R:=ab) (a:=x7) f8 bv) ?_
 refine rq (out:=Pr.i64 x7.Kind) (bp (R:=Rp.int .i64) (a:=x7.Kind) ty3) ?_
 refine rq (out:=Pr.bool (x7.Kind==5)) qInt ?_
 refine rq (out:=Pr.bool (x7.Kind==5)) ae ?_
 refine al (b:=x7.Kind==5) rfl (fun hc8=> ?_) (fun hc8=> ?_)
 ·replace h:=iteT hc8 h
  refine W_rs ?_
  refine rq (out:=aq b4 8) (au c8) ?_
  refine rq (out:=ai ab x1.Kids) (a6 (R:=ab) (a:=x1) (R':=ap ab) 0 ty22 ay) ?_
  refine rq (out:=Pr.i64 x2) ag ?_
  obtain⟨x9,hx9,h⟩:=af h
  refine rq (out:=a8 ab x9) (c6 (R:=ab) (l:=x1.Kids) Tryz.underlying22 Tryz.sizeOf24 hx9) ?_
  refine rq (out:=a8 (ap ab) x9.Kids) (ee (R:=ab) (a:=x9) c8 ay) ?_
  refine rq (out:=ai ab x9.Kids) (bp (R:=ap ab) (a:=x9.Kids) ty22) ?_
  refine rq (out:=ah x3) ag ?_
  obtain⟨x10,hx10,h⟩:=af h
  refine rq (out:=ah x10) (ax (ih.2.1 x9.Kids x3 _ hx10)) ?_
  refine rq (out:=ah x10) ae ?_
  obtain rfl:=Option.some.inj h
  exact a5 ⟨rfl,aa⟩
 replace h:=iteF hc8 h
 refine ar ?_
 refine W_rs ?_
 refine rq (out:=aq b4 8) (au c8) ?_
 refine rq (out:=ai ab x1.Kids) (a6 (R:=ab) (a:=x1) (R':=ap ab) 0 ty22 ay) ?_
 refine rq (out:=Pr.i64 x2) ag ?_
 refine rq (out:=Pr.i64 x2) ag ?_
 refine rq (out:=Pr.i64 (w64 (x2+1))) qInt ?_
 obtain⟨x11,hx11,h⟩:=af h
 refine rq (out:=ai ab x11) (qLSubLH Tryz.underlying22 Tryz.sizeOf24 hx11) ?_
 refine rq (out:=ah x3) ag ?_
 obtain⟨x12,hx12,h⟩:=af h
 refine rq (out:=ah x12) (ax (ih.2.1 x11 x3 _ hx12)) ?_
 refine rq (out:=ah x12) ae ?_
 obtain rfl:=Option.some.inj h
 exact a5 ⟨rfl,aa⟩
theorem F_print_block_step (R:cd) (ih:fu R) (x1:List ApiNode) (x2:List UInt8) (r:(List UInt8)) (h:ng R x1 x2=some r):FnP Tryz.prog 72 [ai ab x1,ah x2] (ah r):=by
 refine bd (n:=25) (rs:=[4]) Tryz.func72 rfl Tryz.ntmps72 ⟨by decide,Tryz.results72⟩ (by decide) (fun s0=> ?_)
 unfold ng at h
 refine W_rs ?_
 refine rq (out:=ah []) ae ?_
 refine W_rs ?_
 refine rq (out:=ah ([123,10]:List UInt8)) ae ?_
 refine a4 ?_
 refine W_rs ?_
 refine rq (out:=ai ab x1) ag ?_
 refine rq (out:=Pr.i64 (x1.length:Int)) (dc rfl Tryz.underlying22) ?_
 refine rq (out:=Pr.i64 0) ag ?_
 refine av ?_
 obtain⟨z2l,hz2,h⟩:=af h
 obtain⟨n2,hN2⟩:=bj hz2
 clear hz2
 refine ct 0 (fun e C=>∃(x3:List UInt8),print_block_k1 R x2 x3=some r/\At [(1,ah x2),(5,ah x3)] [] e C) ?_ ?_
 ·rintro e C ⟨x3,h,hat1⟩
  refine W_at hat1 ?_
  clear hat1
  unfold print_block_k1 at h
  refine W_rs ?_
  refine rq (out:=ah x3) ag ?_
  refine rq (out:=ah x2) ag ?_
  obtain⟨x13,hx13,h⟩:=af h
  refine rq (out:=ah x13) (cm hx13) ?_
  obtain⟨x14,hx14,h⟩:=af h
  refine rq (out:=ah x14) (cm hx14) ?_
  refine rq (out:=ah x14) ae ?_
  obtain rfl:=Option.some.inj h
  exact a5 ⟨rfl,aa⟩
 refine dg (fun m e C=>∃(x3:List UInt8),∃(x4:Int),d4 (fun s=>ii R x1 x2 s.1 s.2) m (x3,x4)=some z2l/\At [(1,ah x2),(5,ah x3),(8,ai ab x1),(9,Pr.i64 (x1.length:Int)),(10,Pr.i64 x4)] [] e C) n2 ⟨([123,10]:List UInt8),0,hN2,⟨⟨aa,aa,aa,aa,aa,trivial⟩,Pick.refl _⟩⟩ ?_
 clear hN2
 rintro m e C ⟨x3,x4,hN2,hatl2⟩
 refine W_at hatl2 ?_
 clear hatl2
 obtain⟨m2,w2l,rfl,h2l,hn2,ho2⟩:=bg hN2
 clear hN2
 replace h2l:ii R x1 x2 x3 x4=some w2l:=h2l
 unfold ii at h2l
 refine W_rs ?_
 refine rq (out:=Pr.bool (decide (x4<(x1.length:Int)))) qInt ?_
 refine a4 ?_
 refine al (b:=decide (x4<(x1.length:Int))) rfl (fun hc7=> ?_) (fun hc7=> ?_)
 ·replace h2l:=iteT hc7 h2l
  refine ar ?_
  refine a4 ?_
  refine av ?_
  refine W_rs ?_
  obtain⟨x8,hx8,h2l⟩:=af h2l
  refine rq (out:=a8 ab x8) (c6 (R:=ab) (l:=x1) Tryz.underlying22 Tryz.sizeOf24 hx8) ?_
  refine rq (out:=(ab).val x8) (bp (R:=ab) (a:=x8) ty24) ?_
  refine cg (R:=ab) (z:=(ApiNode.mk 0 [] [] 0 0 0 0 0 [])) Tryz.zeroValue24 (fun _=>(by rw[ao];exact⟨_,⟨_,_,rfl,rfl,⟨_,_,rfl,rfl,⟨_,_,rfl,rfl,⟨_,_,rfl,rfl,⟨_,_,rfl,rfl,⟨_,_,rfl,rfl,⟨_,_,rfl,rfl,⟨_,_,rfl,rfl,⟨_,_,rfl,⟨_,rfl,none,0,rfl,⟨Nat.le_refl _,fun _=>rfl⟩,.inl rfl⟩,rfl⟩⟩⟩⟩⟩⟩⟩⟩⟩,rfl⟩)) (fun b9=> ?_)
  refine az (R:=ab) (R':=ab) (a:=(ApiNode.mk 0 [] [] 0 0 0 0 0 [])) (y:=x8) 0 Tryz.sizeOf24 (Upd.refl _) ?_
  refine W_r ?_
  refine rq (out:=ah x3) ag ?_
  refine rq (out:=(ab).val x8) (a6 (R:=ab) (a:=x8) (R':=ab) 0 ty24 (Sub.refl _)) ?_
  refine rq (out:=ah x2) ag ?_
  obtain⟨x10,hx10,h2l⟩:=af h2l
  refine rq (out:=ah x10) (cm hx10) ?_
  obtain⟨x11,hx11,h2l⟩:=af h2l
  refine rq (out:=ah x11) (ax (ih.2.2.1 x8 x10 _ hx11)) ?_
  obtain⟨x12,hx12,h2l⟩:=af h2l
  refine rq (out:=ah x12) (cm hx12) ?_
  refine rq (out:=ah x12) ae ?_
  refine W_r ?_
  refine rq (out:=Pr.i64 (w64 (x4+1))) qInt ?_
  refine rq (out:=Pr.i64 (w64 (x4+1))) ag ?_
  exact⟨m2,Nat.lt_succ_self _,x12,w64 (x4+1),hn2 _ (Option.some.inj h2l).symm,⟨⟨aa,aa,aa,aa,aa,trivial⟩,Pick.of [] rfl⟩⟩
 replace h2l:=iteF hc7 h2l
 refine cr ?_
 obtain rfl:=ho2 _ (Option.some.inj h2l).symm
 exact⟨x3,h,⟨⟨aa,aa,trivial⟩,Pick.refl _⟩⟩
theorem F_print_Statement_step (R:cd) (ih:fu R) (x1:ApiNode) (x2:List UInt8) (r:(List UInt8)) (h:kf R x1 x2=some r):FnP Tryz.prog 98 [(ab).val x1,ah x2] (ah r):=by
 refine bd (n:=15) (rs:=[4]) Tryz.func98 rfl Tryz.ntmps98 ⟨by decide,Tryz.results98⟩ (by decide) (fun s0=> ?_)
 unfold kf at h
 refine W_rs ?_
 refine rBox (R:=ab) (a:=x1) rfl (fun b3=> ?_)
 refine rq (out:=ah []) ae ?_
 refine W_rs ?_
 refine rq (out:=(ab).val x1) (a6 (R:=ab) (a:=x1) (R':=ab) 0 ty24 (Sub.refl _)) ?_
 refine rq (out:=ah x2) ag ?_
 obtain⟨x4,hx4,h⟩:=af h
 refine rq (out:=ah x4) (ax (ih.2.2.2 x1 x2 _ hx4)) ?_
 refine rq (out:=ah x4) ae ?_
 refine a4 ?_
 refine W_rs ?_
 refine rq (out:=ah x4) ag ?_
 refine rq (out:=Pr.bool (x4==[])) qStr ?_
 refine al (b:=x4==[]) rfl (fun hc5=> ?_) (fun hc5=> ?_)
 ·replace h:=iteT hc5 h
  refine W_rs ?_
  refine rq (out:=ah []) ae ?_
  obtain rfl:=Option.some.inj h
  exact a5 ⟨rfl,aa⟩
 replace h:=iteF hc5 h
 refine ar ?_
 refine W_rs ?_
 refine rq (out:=ah x2) ag ?_
 refine rq (out:=ah x4) ag ?_
 obtain⟨x6,hx6,h⟩:=af h
 refine rq (out:=ah x6) (cm hx6) ?_
 obtain⟨x7,hx7,h⟩:=af h
 refine rq (out:=ah x7) (cm hx7) ?_
 refine rq (out:=ah x7) ae ?_
 obtain rfl:=Option.some.inj h
 exact a5 ⟨rfl,aa⟩
theorem F_print_line_step (R:cd) (ih:fu R) (x1:ApiNode) (x2:List UInt8) (r:(List UInt8)) (h:el R x1 x2=some r):FnP Tryz.prog 112 [(ab).val x1,ah x2] (ah r):=by
 refine bd (n:=84) (rs:=[4]) Tryz.func112 rfl Tryz.ntmps112 ⟨by decide,Tryz.results112⟩ (by decide) (fun s0=> ?_)
 unfold el at h
 refine W_rs ?_
 refine rBox (R:=ab) (a:=x1) rfl (fun b3=> ?_)
 refine rq (out:=ah []) ae ?_
 refine W_rs ?_
 refine rq (out:=(ab).val x1) (a6 (R:=ab) (a:=x1) (R':=ab) 0 ty24 (Sub.refl _)) ?_
 obtain⟨x4,hx4,h⟩:=af h
 refine rq (out:=ah x4) (ax (print_kid_ok x1 0 0 _ hx4)) ?_
 refine rq (out:=ah x4) ae ?_
 refine a4 ?_
 refine W_rs ?_
 refine rq (out:=aq b3 0) (au f8) ?_
 refine rq (out:=Pr.i64 x1.Kind) (a6 (R:=ab) (a:=x1) (R':=Rp.int .i64) 0 ty3 bv) ?_
 refine av ?_
 refine W_rs ?_
 refine rq (out:=Pr.bool (x1.Kind==6)) qInt ?_
 refine rq (out:=Pr.bool (x1.Kind==6)) ae ?_
 refine al (b:=x1.Kind==6) rfl (fun hc5=> ?_) (fun hc5=> ?_)
 ·replace h:=iteT hc5 h
  refine W_rs ?_
  refine rq (out:=aq b3 2) (au oq) ?_
  refine rq (out:=ah x1.Type_) (a6 (R:=ab) (a:=x1) (R':=ak) 0 ty9 d9) ?_
  obtain⟨x6,hx6,h⟩:=af h
  refine rq (out:=ah x6) (cm hx6) ?_
  refine rq (out:=aq b3 1) (au eu) ?_
  refine rq (out:=ah x1.Text) (a6 (R:=ab) (a:=x1) (R':=ak) 0 ty9 bq) ?_
  obtain⟨x7,hx7,h⟩:=af h
  refine rq (out:=ah x7) (cm hx7) ?_
  obtain⟨x8,hx8,h⟩:=af h
  refine rq (out:=ah x8) (cm hx8) ?_
  refine rq (out:=ah x4) ag ?_
  obtain⟨x9,hx9,h⟩:=af h
  refine rq (out:=ah x9) (cm hx9) ?_
  obtain⟨x10,hx10,h⟩:=af h
  refine rq (out:=ah x10) (cm hx10) ?_
  refine rq (out:=ah x10) ae ?_
  obtain rfl:=Option.some.inj h
  exact a5 ⟨rfl,aa⟩
 replace h:=iteF hc5 h
 refine W_rs ?_
 refine rq (out:=Pr.bool (x1.Kind==7)) qInt ?_
 refine rq (out:=Pr.bool (x1.Kind==7)) ae ?_
 refine al (b:=x1.Kind==7) rfl (fun hc11=> ?_) (fun hc11=> ?_)
 ·replace h:=iteT hc11 h
  refine W_rs ?_
  refine rq (out:=ah x4) ag ?_
  obtain⟨x12,hx12,h⟩:=af h
  refine rq (out:=ah x12) (cm hx12) ?_
  refine rq (out:=(ab).val x1) (a6 (R:=ab) (a:=x1) (R':=ab) 0 ty24 (Sub.refl _)) ?_
  obtain⟨x13,hx13,h⟩:=af h
  refine rq (out:=ah x13) (ax (print_kid_ok x1 1 0 _ hx13)) ?_
  obtain⟨x14,hx14,h⟩:=af h
  refine rq (out:=ah x14) (cm hx14) ?_
  obtain⟨x15,hx15,h⟩:=af h
  refine rq (out:=ah x15) (cm hx15) ?_
  refine rq (out:=ah x15) ae ?_
  obtain rfl:=Option.some.inj h
  exact a5 ⟨rfl,aa⟩
 replace h:=iteF hc11 h
 refine W_rs ?_
 refine rq (out:=Pr.bool (x1.Kind==8)) qInt ?_
 refine rq (out:=Pr.bool (x1.Kind==8)) ae ?_
 refine al (b:=x1.Kind==8) rfl (fun hc16=> ?_) (fun hc16=> ?_)
 ·replace h:=iteT hc16 h
  refine W_rs ?_
  refine rq (out:=ah x4) ag ?_
  obtain⟨x17,hx17,h⟩:=af h
  refine rq (out:=ah x17) (cm hx17) ?_
  refine rq (out:=ah x17) ae ?_
  obtain rfl:=Option.some.inj h
  exact a5 ⟨rfl,aa⟩
 replace h:=iteF hc16 h
 refine W_rs ?_
 refine rq (out:=Pr.bool (x1.Kind==11)) qInt ?_
 refine rq (out:=Pr.bool (x1.Kind==11)) ae ?_
 refine al (b:=x1.Kind==11) rfl (fun hc18=> ?_) (fun hc18=> ?_)
 ·replace h:=iteT hc18 h
  refine a4 ?_
  refine W_rs ?_
  refine rq (out:=aq b3 8) (au c8) ?_
  refine rq (out:=ai ab x1.Kids) (a6 (R:=ab) (a:=x1) (R':=ap ab) 0 ty22 ay) ?_
  refine rq (out:=Pr.i64 (x1.Kids.length:Int)) (dc rfl Tryz.underlying22) ?_
  refine rq (out:=Pr.bool (decide ((x1.Kids.length:Int)>0))) qInt ?_
  refine al (b:=decide ((x1.Kids.length:Int)>0)) rfl (fun hc19=> ?_) (fun hc19=> ?_)
  ·replace h:=iteT hc19 h
   refine W_rs ?_
   refine rq (out:=ah x4) ag ?_
   obtain⟨x20,hx20,h⟩:=af h
   refine rq (out:=ah x20) (cm hx20) ?_
   obtain⟨x21,hx21,h⟩:=af h
   refine rq (out:=ah x21) (cm hx21) ?_
   refine rq (out:=ah x21) ae ?_
   obtain rfl:=Option.some.inj h
   exact a5 ⟨rfl,aa⟩
  replace h:=iteF hc19 h
  refine ar ?_
  refine W_rs ?_
  refine rq (out:=ah ([114,101,116,117,114,110,59]:List UInt8)) ae ?_
  obtain rfl:=Option.some.inj h
  exact a5 ⟨rfl,aa⟩
 replace h:=iteF hc18 h
 refine W_rs ?_
 refine rq (out:=Pr.bool (x1.Kind==12)) qInt ?_
 refine rq (out:=Pr.bool (x1.Kind==12)) ae ?_
 refine al (b:=x1.Kind==12) rfl (fun hc22=> ?_) (fun hc22=> ?_)
 ·replace h:=iteT hc22 h
  refine W_rs ?_
  refine rq (out:=ah x4) ag ?_
  obtain⟨x23,hx23,h⟩:=af h
  refine rq (out:=ah x23) (cm hx23) ?_
  obtain⟨x24,hx24,h⟩:=af h
  refine rq (out:=ah x24) (cm hx24) ?_
  refine rq (out:=ah x24) ae ?_
  obtain rfl:=Option.some.inj h
  exact a5 ⟨rfl,aa⟩
 replace h:=iteF hc22 h
 refine W_rs ?_
 refine rq (out:=Pr.bool (x1.Kind==10)) qInt ?_
 refine rq (out:=Pr.bool (x1.Kind==10)) ae ?_
 refine al (b:=x1.Kind==10) rfl (fun hc25=> ?_) (fun hc25=> ?_)
 ·replace h:=iteT hc25 h
  refine W_rs ?_
  refine rq (out:=ah x4) ag ?_
  obtain⟨x26,hx26,h⟩:=af h
  refine rq (out:=ah x26) (cm hx26) ?_
  obtain⟨x27,hx27,h⟩:=af h
  refine rq (out:=ah x27) (cm hx27) ?_
  refine rq (out:=(ab).val x1) (a6 (R:=ab) (a:=x1) (R':=ab) 0 ty24 (Sub.refl _)) ?_
  refine rq (out:=ah x2) ag ?_
  obtain⟨x28,hx28,h⟩:=af h
  refine rq (out:=ah x28) (ax (ih.1 x1 1 x2 _ hx28)) ?_
  obtain⟨x29,hx29,h⟩:=af h
  refine rq (out:=ah x29) (cm hx29) ?_
  refine rq (out:=ah x29) ae ?_
  obtain rfl:=Option.some.inj h
  exact a5 ⟨rfl,aa⟩
 replace h:=iteF hc25 h
 refine W_rs ?_
 refine rq (out:=Pr.bool (x1.Kind==9)) qInt ?_
 refine rq (out:=Pr.bool (x1.Kind==9)) ae ?_
 refine al (b:=x1.Kind==9) rfl (fun hc30=> ?_) (fun hc30=> ?_)
 ·replace h:=iteT hc30 h
  refine W_rs ?_
  refine rq (out:=ah x4) ag ?_
  obtain⟨x31,hx31,h⟩:=af h
  refine rq (out:=ah x31) (cm hx31) ?_
  obtain⟨x32,hx32,h⟩:=af h
  refine rq (out:=ah x32) (cm hx32) ?_
  refine rq (out:=(ab).val x1) (a6 (R:=ab) (a:=x1) (R':=ab) 0 ty24 (Sub.refl _)) ?_
  refine rq (out:=ah x2) ag ?_
  obtain⟨x33,hx33,h⟩:=af h
  refine rq (out:=ah x33) (ax (ih.1 x1 1 x2 _ hx33)) ?_
  obtain⟨x34,hx34,h⟩:=af h
  refine rq (out:=ah x34) (cm hx34) ?_
  refine rq (out:=ah x34) ae ?_
  refine ba (fun e C=>∃(x39:List UInt8),print_line_j1 R x39=some r/\At [(6,ah x39)] [Own.box b3 ab x1] e C) ?_ ?_
  ·rintro e C ⟨x39,h,hat1⟩
   refine W_at hat1 ?_
   clear hat1
   unfold print_line_j1 at h
   refine W_rs ?_
   refine rq (out:=ah x39) ag ?_
   refine rq (out:=ah x39) ae ?_
   obtain rfl:=Option.some.inj h
   exact a5 ⟨rfl,aa⟩
  refine W_rs ?_
  refine rq (out:=aq b3 8) (au c8) ?_
  refine rq (out:=ai ab x1.Kids) (a6 (R:=ab) (a:=x1) (R':=ap ab) 0 ty22 ay) ?_
  refine rq (out:=Pr.i64 (x1.Kids.length:Int)) (dc rfl Tryz.underlying22) ?_
  refine rq (out:=Pr.bool (decide ((x1.Kids.length:Int)>2))) qInt ?_
  refine al (b:=decide ((x1.Kids.length:Int)>2)) rfl (fun hc35=> ?_) (fun hc35=> ?_)
  ·replace h:=iteT hc35 h
   refine W_r ?_
   refine rq (out:=ah x34) ag ?_
   refine rq (out:=(ab).val x1) (a6 (R:=ab) (a:=x1) (R':=ab) 0 ty24 (Sub.refl _)) ?_
   refine rq (out:=ah x2) ag ?_
   obtain⟨x36,hx36,h⟩:=af h
   refine rq (out:=ah x36) (ax (ih.1 x1 2 x2 _ hx36)) ?_
   obtain⟨x37,hx37,h⟩:=af h
   refine rq (out:=ah x37) (cm hx37) ?_
   obtain⟨x38,hx38,h⟩:=af h
   refine rq (out:=ah x38) (cm hx38) ?_
   refine rq (out:=ah x38) ae ?_
   exact⟨x38,h,⟨⟨aa,trivial⟩,Pick.refl _⟩⟩
  replace h:=iteF hc35 h
  refine ar ?_
  exact⟨x34,h,⟨⟨aa,trivial⟩,Pick.refl _⟩⟩
 replace h:=iteF hc30 h
 refine W_rs ?_
 refine rq (out:=Pr.bool (x1.Kind==5)) qInt ?_
 refine rq (out:=Pr.bool (x1.Kind==5)) ae ?_
 refine al (b:=x1.Kind==5) rfl (fun hc40=> ?_) (fun hc40=> ?_)
 ·replace h:=iteT hc40 h
  refine W_rs ?_
  refine rq (out:=aq b3 8) (au c8) ?_
  refine rq (out:=ai ab x1.Kids) (a6 (R:=ab) (a:=x1) (R':=ap ab) 0 ty22 ay) ?_
  refine rq (out:=ah x2) ag ?_
  obtain⟨x41,hx41,h⟩:=af h
  refine rq (out:=ah x41) (ax (ih.2.1 x1.Kids x2 _ hx41)) ?_
  refine rq (out:=ah x41) ae ?_
  obtain rfl:=Option.some.inj h
  exact a5 ⟨rfl,aa⟩
 replace h:=iteF hc40 h
 refine ar ?_
 refine W_rs ?_
 refine rq (out:=ah []) ae ?_
 obtain rfl:=Option.some.inj h
 exact a5 ⟨rfl,aa⟩
theorem rec_print_belongs_ok :∀n,fu (cb n):=by
 intro n
 induction n with
 |zero=>exact⟨(fun x1 x2 x3 r h=>nomatch (show none=some r from h)),(fun x1 x2 r h=>nomatch (show none=some r from h)),(fun x1 x2 r h=>nomatch (show none=some r from h)),(fun x1 x2 r h=>nomatch (show none=some r from h))⟩
 |succ n ih=>exact⟨(fun x1 x2 x3 r h=>F_print_belongs_step (cb n) ih x1 x2 x3 r h),(fun x1 x2 r h=>F_print_block_step (cb n) ih x1 x2 r h),(fun x1 x2 r h=>F_print_Statement_step (cb n) ih x1 x2 r h),(fun x1 x2 r h=>F_print_line_step (cb n) ih x1 x2 r h)⟩
theorem print_belongs_ok (x1:ApiNode) (x2:Int) (x3:List UInt8) (r:(List UInt8)) (h:print_belongs x1 x2 x3=some r):FnP Tryz.prog 50 [(ab).val x1,Pr.i64 x2,ah x3] (ah r):=(rec_print_belongs_ok 1048576).1 x1 x2 x3 r h
theorem print_Member_ok (x1:ApiNode) (r:(List UInt8)) (h:kj x1=some r):FnP Tryz.prog 30 [(ab).val x1] (ah r):=by
 refine bd (n:=46) (rs:=[2]) Tryz.func30 rfl Tryz.ntmps30 ⟨by decide,Tryz.results30⟩ (by decide) (fun s0=> ?_)
 unfold kj at h
 refine W_rs ?_
 refine rBox (R:=ab) (a:=x1) rfl (fun b2=> ?_)
 refine rq (out:=ah []) ae ?_
 refine W_rs ?_
 refine rq (out:=ah ([32,32]:List UInt8)) ae ?_
 refine ba (fun e C=>∃(x5:List UInt8),j4 x1 x5=some r/\At [(1,aq b2 0),(3,ah x5)] [Own.box b2 ab x1] e C) ?_ ?_
 ·rintro e C ⟨x5,h,hat1⟩
  refine W_at hat1 ?_
  clear hat1
  unfold j4 at h
  refine W_rs ?_
  refine rq (out:=ah x5) ag ?_
  refine rq (out:=aq b2 2) (au oq) ?_
  refine rq (out:=ah x1.Type_) (a6 (R:=ab) (a:=x1) (R':=ak) 0 ty9 d9) ?_
  obtain⟨x6,hx6,h⟩:=af h
  refine rq (out:=ah x6) (cm hx6) ?_
  refine rq (out:=aq b2 1) (au eu) ?_
  refine rq (out:=ah x1.Text) (a6 (R:=ab) (a:=x1) (R':=ak) 0 ty9 bq) ?_
  obtain⟨x7,hx7,h⟩:=af h
  refine rq (out:=ah x7) (cm hx7) ?_
  obtain⟨x8,hx8,h⟩:=af h
  refine rq (out:=ah x8) (cm hx8) ?_
  refine rq (out:=ah x8) ae ?_
  refine a4 ?_
  refine W_rs ?_
  refine rq (out:=aq b2 0) (au f8) ?_
  refine rq (out:=Pr.i64 x1.Kind) (a6 (R:=ab) (a:=x1) (R':=Rp.int .i64) 0 ty3 bv) ?_
  refine av ?_
  refine W_rs ?_
  refine rq (out:=Pr.bool (x1.Kind==2)) qInt ?_
  refine rq (out:=Pr.bool (x1.Kind==2)) ae ?_
  refine al (b:=x1.Kind==2) rfl (fun hc9=> ?_) (fun hc9=> ?_)
  ·replace h:=iteT hc9 h
   refine W_rs ?_
   refine rq (out:=ah x8) ag ?_
   obtain⟨x10,hx10,h⟩:=af h
   refine rq (out:=ah x10) (cm hx10) ?_
   refine rq (out:=ah x10) ae ?_
   obtain rfl:=Option.some.inj h
   exact a5 ⟨rfl,aa⟩
  replace h:=iteF hc9 h
  refine W_rs ?_
  refine rq (out:=Pr.bool (x1.Kind==3)) qInt ?_
  refine rq (out:=Pr.bool (x1.Kind==3)) ae ?_
  refine al (b:=x1.Kind==3) rfl (fun hc11=> ?_) (fun hc11=> ?_)
  ·replace h:=iteT hc11 h
   refine W_rs ?_
   refine rq (out:=aq b2 8) (au c8) ?_
   refine rq (out:=ai ab x1.Kids) (a6 (R:=ab) (a:=x1) (R':=ap ab) 0 ty22 ay) ?_
   refine rq (out:=Pr.i64 (x1.Kids.length:Int)) (dc rfl Tryz.underlying22) ?_
   refine rq (out:=Pr.i64 (w64 ((x1.Kids.length:Int) - 1))) qInt ?_
   refine rq (out:=Pr.i64 (if(w64 ((x1.Kids.length:Int) - 1))>0 then(w64 ((x1.Kids.length:Int) - 1))else 0)) (qMax (a:=0) (b:=w64 ((x1.Kids.length:Int) - 1))) ?_
   refine rq (out:=Pr.i64 (if(w64 ((x1.Kids.length:Int) - 1))>0 then(w64 ((x1.Kids.length:Int) - 1))else 0)) ae ?_
   refine W_rs ?_
   refine rq (out:=aq b2 8) (au c8) ?_
   refine rq (out:=ai ab x1.Kids) (a6 (R:=ab) (a:=x1) (R':=ap ab) 0 ty22 ay) ?_
   refine rq (out:=Pr.i64 (if(w64 ((x1.Kids.length:Int) - 1))>0 then(w64 ((x1.Kids.length:Int) - 1))else 0)) ag ?_
   obtain⟨x12,hx12,h⟩:=af h
   refine rq (out:=ai ab x12) (qLSubH Tryz.underlying22 Tryz.sizeOf24 hx12) ?_
   obtain⟨x13,hx13,h⟩:=af h
   refine rq (out:=ah x13) (o9 (print_list_ok x12 l5 _ hx13) ⟨aa,(is_pfn en49 (fun _ _ hs=>by obtain⟨a0,r,rfl,rfl,hr⟩:=hs;exact print_Member_1_ok a0 r hr)),trivial⟩) ?_
   refine rq (out:=ah x13) ae ?_
   refine W_rs ?_
   refine rq (out:=ah x8) ag ?_
   refine rq (out:=ah x13) ag ?_
   obtain⟨x14,hx14,h⟩:=af h
   refine rq (out:=ah x14) (cm hx14) ?_
   obtain⟨x15,hx15,h⟩:=af h
   refine rq (out:=ah x15) (cm hx15) ?_
   refine rq (out:=(ab).val x1) (a6 (R:=ab) (a:=x1) (R':=ab) 0 ty24 (Sub.refl _)) ?_
   refine rq (out:=Pr.i64 (if(w64 ((x1.Kids.length:Int) - 1))>0 then(w64 ((x1.Kids.length:Int) - 1))else 0)) ag ?_
   obtain⟨x16,hx16,h⟩:=af h
   refine rq (out:=ah x16) (ax (print_belongs_ok x1 (if(w64 ((x1.Kids.length:Int) - 1))>0 then(w64 ((x1.Kids.length:Int) - 1))else 0) ([32,32]:List UInt8) _ hx16)) ?_
   obtain⟨x17,hx17,h⟩:=af h
   refine rq (out:=ah x17) (cm hx17) ?_
   obtain⟨x18,hx18,h⟩:=af h
   refine rq (out:=ah x18) (cm hx18) ?_
   refine rq (out:=ah x18) ae ?_
   obtain rfl:=Option.some.inj h
   exact a5 ⟨rfl,aa⟩
  replace h:=iteF hc11 h
  refine ar ?_
  refine W_rs ?_
  refine rq (out:=ah []) ae ?_
  obtain rfl:=Option.some.inj h
  exact a5 ⟨rfl,aa⟩
 refine W_rs ?_
 refine rq (out:=aq b2 3) (au fld24_3) ?_
 refine rq (out:=Pr.i64 x1.N) (a6 (R:=ab) (a:=x1) (R':=Rp.int .i64) 0 ty2 jd) ?_
 refine rq (out:=Pr.bool (x1.N==1)) qInt ?_
 refine al (b:=x1.N==1) rfl (fun hc3=> ?_) (fun hc3=> ?_)
 ·replace h:=iteT hc3 h
  refine W_r ?_
  refine rq (out:=ah ([32,32]:List UInt8)) ag ?_
  obtain⟨x4,hx4,h⟩:=af h
  refine rq (out:=ah x4) (cm hx4) ?_
  refine rq (out:=ah x4) ae ?_
  exact⟨x4,h,⟨⟨aa,aa,trivial⟩,Pick.refl _⟩⟩
 replace h:=iteF hc3 h
 refine ar ?_
 exact⟨([32,32]:List UInt8),h,⟨⟨aa,aa,trivial⟩,Pick.refl _⟩⟩
theorem print_Class_ok (x1:ApiNode) (r:(List UInt8)) (h:print_Class x1=some r):FnP Tryz.prog 29 [(ab).val x1] (ah r):=by
 refine bd (n:=33) (rs:=[2]) Tryz.func29 rfl Tryz.ntmps29 ⟨by decide,Tryz.results29⟩ (by decide) (fun s0=> ?_)
 unfold print_Class at h
 refine W_rs ?_
 refine rBox (R:=ab) (a:=x1) rfl (fun b2=> ?_)
 refine rq (out:=ah []) ae ?_
 refine W_rs ?_
 refine rq (out:=aq b2 1) (au eu) ?_
 refine rq (out:=ah x1.Text) (a6 (R:=ab) (a:=x1) (R':=ak) 0 ty9 bq) ?_
 obtain⟨x3,hx3,h⟩:=af h
 refine rq (out:=ah x3) (cm hx3) ?_
 refine rq (out:=ah x3) ae ?_
 refine ba (fun e C=>∃(x7:List UInt8),l6 x1 x7=some r/\At [(1,aq b2 0),(3,ah x7)] [Own.box b2 ab x1] e C) ?_ ?_
 ·rintro e C ⟨x7,h,hat3⟩
  refine W_at hat3 ?_
  clear hat3
  unfold l6 at h
  refine W_rs ?_
  refine rq (out:=ah x7) ag ?_
  obtain⟨x8,hx8,h⟩:=af h
  refine rq (out:=ah x8) (cm hx8) ?_
  refine rq (out:=ah x8) ae ?_
  refine a4 ?_
  refine W_rs ?_
  refine rq (out:=aq b2 8) (au c8) ?_
  refine rq (out:=ai ab x1.Kids) (a6 (R:=ab) (a:=x1) (R':=ap ab) 0 ty22 ay) ?_
  refine rq (out:=Pr.i64 (x1.Kids.length:Int)) (dc rfl Tryz.underlying22) ?_
  refine rq (out:=Pr.i64 0) ag ?_
  refine av ?_
  obtain⟨z2l,hz2,h⟩:=af h
  obtain⟨n2,hN2⟩:=bj hz2
  clear hz2
  refine ct 0 (fun e C=>∃(x9:List UInt8),print_Class_k1 x9=some r/\At [(3,ah x9)] [Own.box b2 ab x1] e C) ?_ ?_
  ·rintro e C ⟨x9,h,hat1⟩
   refine W_at hat1 ?_
   clear hat1
   unfold print_Class_k1 at h
   refine W_rs ?_
   refine rq (out:=ah x9) ag ?_
   obtain⟨x18,hx18,h⟩:=af h
   refine rq (out:=ah x18) (cm hx18) ?_
   refine rq (out:=ah x18) ae ?_
   obtain rfl:=Option.some.inj h
   exact a5 ⟨rfl,aa⟩
  refine dg (fun m e C=>∃(x9:List UInt8),∃(x10:Int),d4 (fun s=>ij x1 s.1 s.2) m (x9,x10)=some z2l/\At [(3,ah x9),(20,ai ab x1.Kids),(21,Pr.i64 (x1.Kids.length:Int)),(22,Pr.i64 x10)] [Own.box b2 ab x1] e C) n2 ⟨x8,0,hN2,⟨⟨aa,aa,aa,aa,trivial⟩,Pick.refl _⟩⟩ ?_
  clear hN2
  rintro m e C ⟨x9,x10,hN2,hatl2⟩
  refine W_at hatl2 ?_
  clear hatl2
  obtain⟨m2,w2l,rfl,h2l,hn2,ho2⟩:=bg hN2
  clear hN2
  replace h2l:ij x1 x9 x10=some w2l:=h2l
  unfold ij at h2l
  refine W_rs ?_
  refine rq (out:=Pr.bool (decide (x10<(x1.Kids.length:Int)))) qInt ?_
  refine a4 ?_
  refine al (b:=decide (x10<(x1.Kids.length:Int))) rfl (fun hc13=> ?_) (fun hc13=> ?_)
  ·replace h2l:=iteT hc13 h2l
   refine ar ?_
   refine a4 ?_
   refine av ?_
   refine W_rs ?_
   obtain⟨x14,hx14,h2l⟩:=af h2l
   refine rq (out:=a8 ab x14) (c6 (R:=ab) (l:=x1.Kids) Tryz.underlying22 Tryz.sizeOf24 hx14) ?_
   refine rq (out:=(ab).val x14) (bp (R:=ab) (a:=x14) ty24) ?_
   refine cg (R:=ab) (z:=(ApiNode.mk 0 [] [] 0 0 0 0 0 [])) Tryz.zeroValue24 (fun _=>(by rw[ao];exact⟨_,⟨_,_,rfl,rfl,⟨_,_,rfl,rfl,⟨_,_,rfl,rfl,⟨_,_,rfl,rfl,⟨_,_,rfl,rfl,⟨_,_,rfl,rfl,⟨_,_,rfl,rfl,⟨_,_,rfl,rfl,⟨_,_,rfl,⟨_,rfl,none,0,rfl,⟨Nat.le_refl _,fun _=>rfl⟩,.inl rfl⟩,rfl⟩⟩⟩⟩⟩⟩⟩⟩⟩,rfl⟩)) (fun b15=> ?_)
   refine az (R:=ab) (R':=ab) (a:=(ApiNode.mk 0 [] [] 0 0 0 0 0 [])) (y:=x14) 1 Tryz.sizeOf24 (Upd.refl _) ?_
   refine W_r ?_
   refine rq (out:=ah x9) ag ?_
   refine rq (out:=(ab).val x14) (a6 (R:=ab) (a:=x14) (R':=ab) 1 ty24 (Sub.refl _)) ?_
   obtain⟨x16,hx16,h2l⟩:=af h2l
   refine rq (out:=ah x16) (ax (print_Member_ok x14 _ hx16)) ?_
   obtain⟨x17,hx17,h2l⟩:=af h2l
   refine rq (out:=ah x17) (cm hx17) ?_
   refine rq (out:=ah x17) ae ?_
   refine W_r ?_
   refine rq (out:=Pr.i64 (w64 (x10+1))) qInt ?_
   refine rq (out:=Pr.i64 (w64 (x10+1))) ag ?_
   exact⟨m2,Nat.lt_succ_self _,x17,w64 (x10+1),hn2 _ (Option.some.inj h2l).symm,⟨⟨aa,aa,aa,aa,trivial⟩,Pick.of [0] rfl⟩⟩
  replace h2l:=iteF hc13 h2l
  refine cr ?_
  obtain rfl:=ho2 _ (Option.some.inj h2l).symm
  exact⟨x9,h,⟨⟨aa,trivial⟩,Pick.refl _⟩⟩
 refine W_rs ?_
 refine rq (out:=aq b2 2) (au oq) ?_
 refine rq (out:=ah x1.Type_) (a6 (R:=ab) (a:=x1) (R':=ak) 0 ty9 d9) ?_
 refine rq (out:=Pr.bool (!(x1.Type_==[]))) qStr ?_
 refine al (b:= !(x1.Type_==[])) rfl (fun hc4=> ?_) (fun hc4=> ?_)
 ·replace h:=iteT hc4 h
  refine W_r ?_
  refine rq (out:=ah x3) ag ?_
  refine rq (out:=aq b2 2) (au oq) ?_
  refine rq (out:=ah x1.Type_) (a6 (R:=ab) (a:=x1) (R':=ak) 0 ty9 d9) ?_
  obtain⟨x5,hx5,h⟩:=af h
  refine rq (out:=ah x5) (cm hx5) ?_
  obtain⟨x6,hx6,h⟩:=af h
  refine rq (out:=ah x6) (cm hx6) ?_
  refine rq (out:=ah x6) ae ?_
  exact⟨x6,h,⟨⟨aa,aa,trivial⟩,Pick.refl _⟩⟩
 replace h:=iteF hc4 h
 refine ar ?_
 exact⟨x3,h,⟨⟨aa,aa,trivial⟩,Pick.refl _⟩⟩
theorem shape_Of_ok (x1:ApiNode) (x2:List (List UInt8)) (r:(List UInt8)) (h:shape_Of x1 x2=some r):FnP Tryz.prog 12 [(ab).val x1,ai ak x2] (ah r):=by
 refine bd (n:=20) (rs:=[4]) Tryz.func12 rfl Tryz.ntmps12 ⟨by decide,Tryz.results12⟩ (by decide) (fun s0=> ?_)
 unfold shape_Of at h
 refine W_rs ?_
 refine rBox (R:=ab) (a:=x1) rfl (fun b3=> ?_)
 refine rq (out:=ah []) ae ?_
 refine W_rs ?_
 refine rq (out:=(ab).val x1) (a6 (R:=ab) (a:=x1) (R':=ab) 0 ty24 (Sub.refl _)) ?_
 refine rq (out:=ai ak x2) ag ?_
 obtain⟨x4,hx4,h⟩:=af h
 refine rq (out:=(ab).val x4) (ax (shape_Erase_ok x1 x2 _ hx4)) ?_
 refine cg (R:=ab) (z:=(ApiNode.mk 0 [] [] 0 0 0 0 0 [])) Tryz.zeroValue24 (fun _=>(by rw[ao];exact⟨_,⟨_,_,rfl,rfl,⟨_,_,rfl,rfl,⟨_,_,rfl,rfl,⟨_,_,rfl,rfl,⟨_,_,rfl,rfl,⟨_,_,rfl,rfl,⟨_,_,rfl,rfl,⟨_,_,rfl,rfl,⟨_,_,rfl,⟨_,rfl,none,0,rfl,⟨Nat.le_refl _,fun _=>rfl⟩,.inl rfl⟩,rfl⟩⟩⟩⟩⟩⟩⟩⟩⟩,rfl⟩)) (fun b5=> ?_)
 refine az (R:=ab) (R':=ab) (a:=(ApiNode.mk 0 [] [] 0 0 0 0 0 [])) (y:=x4) 1 Tryz.sizeOf24 (Upd.refl _) ?_
 refine a4 ?_
 refine W_rs ?_
 refine rq (out:=aq b3 0) (au f8) ?_
 refine rq (out:=Pr.i64 x1.Kind) (a6 (R:=ab) (a:=x1) (R':=Rp.int .i64) 0 ty3 bv) ?_
 refine av ?_
 refine W_rs ?_
 refine rq (out:=Pr.bool (x1.Kind==1)) qInt ?_
 refine rq (out:=Pr.bool (x1.Kind==1)) ae ?_
 refine al (b:=x1.Kind==1) rfl (fun hc6=> ?_) (fun hc6=> ?_)
 ·replace h:=iteT hc6 h
  refine W_rs ?_
  refine rq (out:=(ab).val x4) (a6 (R:=ab) (a:=x4) (R':=ab) 1 ty24 (Sub.refl _)) ?_
  obtain⟨x7,hx7,h⟩:=af h
  refine rq (out:=ah x7) (ax (print_Class_ok x4 _ hx7)) ?_
  refine rq (out:=ah x7) ae ?_
  obtain rfl:=Option.some.inj h
  exact a5 ⟨rfl,aa⟩
 replace h:=iteF hc6 h
 refine ba (fun e C=>∃(x9:Bool),shape_Of_j1 x4 x9=some r/\At [(5,aq b5 0),(15,Pr.bool x9)] [Own.box b3 ab x1,Own.box b5 ab x4] e C) ?_ ?_
 ·rintro e C ⟨x9,h,hat1⟩
  refine W_at hat1 ?_
  clear hat1
  unfold shape_Of_j1 at h
  refine al (b:=x9) rfl (fun hc10=> ?_) (fun hc10=> ?_)
  ·replace h:=iteT hc10 h
   refine W_rs ?_
   refine rq (out:=(ab).val x4) (a6 (R:=ab) (a:=x4) (R':=ab) 1 ty24 (Sub.refl _)) ?_
   obtain⟨x11,hx11,h⟩:=af h
   refine rq (out:=ah x11) (ax (print_Member_ok x4 _ hx11)) ?_
   refine rq (out:=ah x11) ae ?_
   obtain rfl:=Option.some.inj h
   exact a5 ⟨rfl,aa⟩
  replace h:=iteF hc10 h
  refine ar ?_
  refine W_rs ?_
  refine rq (out:=ah []) ae ?_
  obtain rfl:=Option.some.inj h
  exact a5 ⟨rfl,aa⟩
 refine W_rs ?_
 refine rq (out:=Pr.bool (x1.Kind==2)) qInt ?_
 refine rq (out:=Pr.bool (x1.Kind==2)) ae ?_
 refine al (b:=x1.Kind==2) rfl (fun hc8=> ?_) (fun hc8=> ?_)
 ·replace h:=iteT hc8 h
  refine ar ?_
  exact⟨x1.Kind==2,h,⟨⟨aa,aa,trivial⟩,Pick.refl _⟩⟩
 replace h:=iteF hc8 h
 refine W_r ?_
 refine rq (out:=Pr.bool (x1.Kind==3)) qInt ?_
 refine rq (out:=Pr.bool (x1.Kind==3)) ae ?_
 exact⟨x1.Kind==3,h,⟨⟨aa,aa,trivial⟩,Pick.refl _⟩⟩
theorem lex_Lex_1_ok (x1 x2 x3:Int) (x5:List ApiToken) (x8:List UInt8) (x10:Int) (b4:Nat) (v6:Value) (b7 b9:Nat) (r:(List ApiToken) × (List UInt8) × Int) (h:lex_Lex_1 x1 x2 x3 x5 x8 x10=some r):FnC Tryz.prog 52 [Pr.i64 x1,Pr.i64 x2,Pr.i64 x3,aq b4 0,aq b7 0,aq b9 0] [Own.cell b4 (Pr.is v6),Own.vec v6 aj x5 56,Own.box b7 ak x8,Own.box b9 (Rp.int .i64) x10] (fun q C'=>∃w0,q=bl []/\C'=[Own.cell b4 (Pr.is w0),Own.vec w0 aj r.1 56,Own.box b7 ak r.2.1,Own.box b9 (Rp.int .i64) r.2.2]):=by
 refine fnc_introP (n:=38) (rs:=[]) Tryz.func52 rfl Tryz.ntmps52 ⟨by decide,Tryz.results52⟩ (by decide) (fun s0=> ?_)
 unfold lex_Lex_1 at h
 refine ba (fun e C=>∃(x13:List ApiToken),∃(v14:Value),lex_Lex_1_j1 x8 x10 x2 x3 x13=some r/\At [(1,Pr.i64 x2),(2,Pr.i64 x3),(5,aq b9 0)] [Own.cell b4 (Pr.is v14),Own.vec v14 aj x13 56,Own.box b7 ak x8,Own.box b9 (Rp.int .i64) x10] e C) ?_ ?_
 ·rintro e C ⟨x13,v14,h,hat1⟩
  refine W_at hat1 ?_
  clear hat1
  unfold lex_Lex_1_j1 at h
  refine W_r ?_
  refine rq (out:=Pr.i64 x10) (a6 (R:=Rp.int .i64) (a:=x10) (R':=Rp.int .i64) 3 ty3 (Sub.refl _)) ?_
  refine rq (out:=Pr.i64 x2) ag ?_
  refine rq (out:=Pr.i64 x3) ag ?_
  refine rq (out:=Pr.i64 (w64 (x2+x3))) qInt ?_
  refine rq (out:=Pr.i64 (w64 (x10+(w64 (x2+x3))))) qInt ?_
  refine az (R:=Rp.int .i64) (R':=Rp.int .i64) (a:=x10) (y:=w64 (x10+(w64 (x2+x3)))) 3 Tryz.sizeOf3 (Upd.refl _) ?_
  obtain rfl:=Option.some.inj h
  exact⟨.inr rfl,_,Pick.refl _,_,aa,v14,rfl,rfl⟩
 refine eh 23 hmx (by kernel_rfl) (by kernel_rfl) ?_
 refine qq (out:=Pr.is v6) (qLoadP 0 Tryz.isAgg52) ?_
 refine qq (out:=Pr.i64 x1) ag ?_
 refine qq (out:=ah x8) (a6 (R:=ak) (a:=x8) (R':=ak) 2 ty9 (Sub.refl _)) ?_
 refine qq (out:=Pr.i64 x10) (a6 (R:=Rp.int .i64) (a:=x10) (R':=Rp.int .i64) 3 ty3 (Sub.refl _)) ?_
 refine qq (out:=Pr.i64 x2) ag ?_
 refine qq (out:=Pr.i64 (w64 (x10+x2))) qInt ?_
 refine qq (out:=Pr.i64 x10) (a6 (R:=Rp.int .i64) (a:=x10) (R':=Rp.int .i64) 3 ty3 (Sub.refl _)) ?_
 refine qq (out:=Pr.i64 x2) ag ?_
 refine qq (out:=Pr.i64 (w64 (x10+x2))) qInt ?_
 refine qq (out:=Pr.i64 x3) ag ?_
 refine qq (out:=Pr.i64 (w64 ((w64 (x10+x2))+x3))) qInt ?_
 obtain⟨x11,hx11,h⟩:=af h
 refine qq (out:=ah x11) (qSubLH Tryz.underlying9 hx11) ?_
 refine qq (out:=Pr.i64 x10) (a6 (R:=Rp.int .i64) (a:=x10) (R':=Rp.int .i64) 3 ty3 (Sub.refl _)) ?_
 refine qq (out:=Pr.i64 x2) ag ?_
 refine qq (out:=Pr.i64 (w64 (x10+x2))) qInt ?_
 refine qq (out:=ah x8) (a6 (R:=ak) (a:=x8) (R':=ak) 2 ty9 (Sub.refl _)) ?_
 refine qq (out:=Pr.i64 x10) (a6 (R:=Rp.int .i64) (a:=x10) (R':=Rp.int .i64) 3 ty3 (Sub.refl _)) ?_
 refine qq (out:=Pr.i64 x10) (a6 (R:=Rp.int .i64) (a:=x10) (R':=Rp.int .i64) 3 ty3 (Sub.refl _)) ?_
 refine qq (out:=Pr.i64 x2) ag ?_
 refine qq (out:=Pr.i64 (w64 (x10+x2))) qInt ?_
 obtain⟨x12,hx12,h⟩:=af h
 refine qq (out:=ah x12) (qSubLH Tryz.underlying9 hx12) ?_
 refine qq (out:=(aj).val (ApiToken.mk x1 x11 (w64 (x10+x2)) x12)) (qBuild st56 ⟨(ApiToken.mk x1 [] 0 []),⟨_,rfl,rfl,fun j fd hj hf=>by match j,hj with| 0,h=>exact absurd rfl h| 1,_=>cases hf;rfl| 2,_=>cases hf;rfl| 3,_=>cases hf;rfl|_+4,_=>cases hf⟩,⟨(ApiToken.mk x1 x11 0 []),⟨_,rfl,rfl,fun j fd hj hf=>by match j,hj with| 0,_=>cases hf;rfl| 1,h=>exact absurd rfl h| 2,_=>cases hf;rfl| 3,_=>cases hf;rfl|_+4,_=>cases hf⟩,⟨(ApiToken.mk x1 x11 (w64 (x10+x2)) []),⟨_,rfl,rfl,fun j fd hj hf=>by match j,hj with| 0,_=>cases hf;rfl| 1,_=>cases hf;rfl| 2,h=>exact absurd rfl h| 3,_=>cases hf;rfl|_+4,_=>cases hf⟩,⟨(ApiToken.mk x1 x11 (w64 (x10+x2)) x12),⟨_,rfl,rfl,fun j fd hj hf=>by match j,hj with| 0,_=>cases hf;rfl| 1,_=>cases hf;rfl| 2,_=>cases hf;rfl| 3,h=>exact absurd rfl h|_+4,_=>cases hf⟩,rfl⟩⟩⟩⟩) ?_
 refine qq (out:=ai aj ([(ApiToken.mk x1 x11 (w64 (x10+x2)) x12)]:List ApiToken)) (cf (R:=aj) (a:=(ApiToken.mk x1 x11 (w64 (x10+x2)) x12)) el52 (Nat.le_of_ble_eq_true rfl)) ?_
 obtain⟨x13,hx13,h⟩:=af h
 refine f3 1 el52 hx13 (fun v14=> ?_)
 refine rStoreV 0 1 Tryz.sizeOf52 ?_
 exact⟨x13,v14,h,⟨⟨aa,aa,aa,trivial⟩,Pick.refl _⟩⟩
theorem internal_stringslite_HasPrefix_ok (x1 x2:List UInt8) (r:Bool) (h:e7 x1 x2=some r):FnP Tryz.prog 100 [ah x1,ah x2] (Pr.bool r):=by
 refine bd (n:=18) (rs:=[4]) Tryz.func100 rfl Tryz.ntmps100 ⟨by decide,Tryz.results100⟩ (by decide) (fun s0=> ?_)
 unfold e7 at h
 refine W_rs ?_
 refine rq (out:=Pr.bool false) ae ?_
 refine ba (fun e C=>∃(x5:Bool),da x5=some r/\At [(4,Pr.bool x5)] [] e C) ?_ ?_
 ·rintro e C ⟨x5,h,hat1⟩
  refine W_at hat1 ?_
  clear hat1
  unfold da at h
  obtain rfl:=Option.some.inj h
  exact a5 ⟨rfl,aa⟩
 refine W_r ?_
 refine rq (out:=ah x1) ag ?_
 refine rq (out:=Pr.i64 (x1.length:Int)) (qLenS rfl Tryz.underlying9) ?_
 refine rq (out:=ah x2) ag ?_
 refine rq (out:=Pr.i64 (x2.length:Int)) (qLenS rfl Tryz.underlying9) ?_
 refine rq (out:=Pr.bool (decide ((x1.length:Int)≥(x2.length:Int)))) qInt ?_
 refine rq (out:=Pr.bool (decide ((x1.length:Int)≥(x2.length:Int)))) ag ?_
 rcases cc h with⟨hc3,h⟩|⟨hc3,h⟩
 ·refine rqg hc3 (out:=ah x1) ag ?_
  refine rqg hc3 (out:=ah x2) ag ?_
  refine rqg hc3 (out:=Pr.i64 (x2.length:Int)) (qLenS rfl Tryz.underlying9) ?_
  obtain⟨x4,hx4,h⟩:=af h
  refine rqg hc3 (out:=ah x4) (qSubH Tryz.underlying9 hx4) ?_
  refine rqg hc3 (out:=ah x2) ag ?_
  refine rqg hc3 (out:=Pr.bool (x4==x2)) qStr ?_
  refine rq (out:=Pr.bool (x4==x2)) (cj hc3) ?_
  refine rq (out:=Pr.bool (x4==x2)) ae ?_
  exact⟨x4==x2,h,⟨⟨aa,trivial⟩,Pick.refl _⟩⟩
 refine rno (neT hc3) ?_
 refine rno (neT hc3) ?_
 refine rno (neT hc3) ?_
 refine rno (neT hc3) ?_
 refine rno (neT hc3) ?_
 refine rno (neT hc3) ?_
 refine rq (out:=Pr.bool false) (bx hc3) ?_
 refine rq (out:=Pr.bool false) ae ?_
 exact⟨false,h,⟨⟨aa,trivial⟩,Pick.refl _⟩⟩
theorem nj (x1 x2:List UInt8) (r:Bool) (h:fg x1 x2=some r):FnP Tryz.prog 74 [ah x1,ah x2] (Pr.bool r):=by
 refine bd (n:=8) (rs:=[4]) Tryz.func74 rfl Tryz.ntmps74 ⟨by decide,Tryz.results74⟩ (by decide) (fun s0=> ?_)
 unfold fg at h
 refine W_rs ?_
 refine rq (out:=Pr.bool false) ae ?_
 refine W_rs ?_
 refine rq (out:=ah x1) ag ?_
 refine rq (out:=ah x2) ag ?_
 obtain⟨x3,hx3,h⟩:=af h
 refine rq (out:=Pr.bool x3) (ax (internal_stringslite_HasPrefix_ok x1 x2 _ hx3)) ?_
 refine rq (out:=Pr.bool x3) ae ?_
 obtain rfl:=Option.some.inj h
 exact a5 ⟨rfl,aa⟩
theorem lex_run_ok (x1:List UInt8) (x2:(Int->Option Bool)) (r:Int) (h:lex_run x1 x2=some r):FnP Tryz.prog 75 [ah x1,Pr.pfn Tryz.prog (spec94 x2)] (Pr.i64 r):=by
 refine bd (n:=21) (rs:=[4]) Tryz.func75 rfl Tryz.ntmps75 ⟨by decide,Tryz.results75⟩ (by decide) (fun s0=> ?_)
 unfold lex_run at h
 refine W_rs ?_
 refine rq (out:=Pr.i64 0) ae ?_
 refine a4 ?_
 refine W_rs ?_
 refine rq (out:=ah x1) ag ?_
 refine rq (out:=Pr.i64 (x1.length:Int)) (qLenS rfl Tryz.underlying9) ?_
 refine rq (out:=Pr.i64 0) ag ?_
 refine av ?_
 obtain⟨z2l,hz2,h⟩:=af h
 obtain⟨n2,hN2⟩:=bj hz2
 clear hz2
 refine ct 0 (fun e C=>lex_run_k1 x1=some r/\At [(0,ah x1)] [] e C) ?_ ?_
 ·rintro e C ⟨h,hat1⟩
  refine W_at hat1 ?_
  clear hat1
  unfold lex_run_k1 at h
  refine W_rs ?_
  refine rq (out:=ah x1) ag ?_
  refine rq (out:=Pr.i64 (x1.length:Int)) (qLenS rfl Tryz.underlying9) ?_
  refine rq (out:=Pr.i64 (x1.length:Int)) ae ?_
  obtain rfl:=Option.some.inj h
  exact a5 ⟨rfl,aa⟩
 refine dg (fun m e C=>∃(x3:Int),d4 (fun s=>lex_run_l2 x1 x2 s) m x3=some z2l/\At [(0,ah x1),(1,Pr.pfn Tryz.prog (spec94 x2)),(7,Pr.i64 (x1.length:Int)),(8,Pr.i64 x3)] [] e C) n2 ⟨0,hN2,⟨⟨aa,aa,aa,aa,trivial⟩,Pick.refl _⟩⟩ ?_
 clear hN2
 rintro m e C ⟨x3,hN2,hatl2⟩
 refine W_at hatl2 ?_
 clear hatl2
 obtain⟨m2,w2l,rfl,h2l,hn2,ho2⟩:=bg hN2
 clear hN2
 replace h2l:lex_run_l2 x1 x2 x3=some w2l:=h2l
 unfold lex_run_l2 at h2l
 refine W_rs ?_
 refine rq (out:=Pr.bool (decide (x3<(x1.length:Int)))) qInt ?_
 refine a4 ?_
 refine al (b:=decide (x3<(x1.length:Int))) rfl (fun hc5=> ?_) (fun hc5=> ?_)
 ·replace h2l:=iteT hc5 h2l
  refine ar ?_
  refine a4 ?_
  refine av ?_
  refine W_rs ?_
  refine rq (out:=Pr.i64 x3) ag ?_
  refine rq (out:=Pr.i64 x3) ae ?_
  refine W_rs ?_
  refine rq (out:=Pr.pfn Tryz.prog (spec94 x2)) ag ?_
  refine rq (out:=ah x1) ag ?_
  refine rq (out:=Pr.i64 x3) ag ?_
  obtain⟨x6,hx6,h2l⟩:=af h2l
  refine rq (out:=Pr.u8 x6) (qIdxS Tryz.underlying9 hx6) ?_
  obtain⟨x7,hx7,h2l⟩:=af h2l
  refine rq (out:=Pr.bool x7) (qCallP (spec:=spec94 x2) ⟨_,_,rfl,rfl,hx7⟩) ?_
  refine rq (out:=Pr.bool (!x7)) qNot ?_
  refine al (b:= !x7) rfl (fun hc8=> ?_) (fun hc8=> ?_)
  ·replace h2l:=iteT hc8 h2l
   refine W_rs ?_
   refine rq (out:=Pr.i64 x3) ag ?_
   refine rq (out:=Pr.i64 x3) ae ?_
   obtain rfl:=ho2 _ (Option.some.inj h2l).symm
   replace h:some x3=some r:=h
   obtain rfl:=Option.some.inj h
   exact a5 ⟨rfl,aa⟩
  replace h2l:=iteF hc8 h2l
  refine ar ?_
  refine W_r ?_
  refine rq (out:=Pr.i64 (w64 (x3+1))) qInt ?_
  refine rq (out:=Pr.i64 (w64 (x3+1))) ag ?_
  exact⟨m2,Nat.lt_succ_self _,w64 (x3+1),hn2 _ (Option.some.inj h2l).symm,⟨⟨aa,aa,aa,aa,trivial⟩,Pick.refl _⟩⟩
 replace h2l:=iteF hc5 h2l
 refine cr ?_
 obtain rfl:=ho2 _ (Option.some.inj h2l).symm
 exact⟨h,⟨⟨aa,trivial⟩,Pick.refl _⟩⟩
end Go.Proofs.YtgkcoicaopilhaaGreatDoor
