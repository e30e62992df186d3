/- The code comes to what these functions say (printed by wip/gen/gen.py). -/
import Derived.Test.YtgkcoicaopilhaaGreatDoorZP7
import Derived.Test.YtgkcoicaopilhaaGreatDoorZT
set_option linter.unusedSimpArgs false
set_option linter.unusedVariables false
set_option linter.unusedSectionVars false
set_option linter.unusedSectionVars false
set_option maxRecDepth 100000
set_option maxHeartbeats 4000000
namespace Go.Proofs.YtgkcoicaopilhaaGreatDoor
open Go Go.Cn
theorem ref13_Member_ok (x1:ApiNode) (r:(List UInt8)) (h:kh x1=some r):FnP Tryz.prog 32 [(ab).val x1] (ah r):=by
 refine bd (n:=67) (rs:=[2]) Tryz.func32 rfl Tryz.ntmps32 ⟨by decide,Tryz.results32⟩ (by decide) (fun s0=> ?_)
 unfold kh at h
 refine W_rs ?_
 refine rBox (R:=ab) (a:=x1) rfl (fun b2=> ?_)
 refine rq (out:=ah []) ae ?_
 refine W_rs ?_
 refine rq (out:=ah ([32,32]:List UInt8)) ae ?_
 refine ba (fun e C=>∃(x5:List UInt8),ju x1 x5=some r/\At [(1,aq b2 0),(3,ah x5)] [Own.box b2 ab x1] e C) ?_ ?_
 ·rintro e C ⟨x5,h,hat4⟩
  refine W_at hat4 ?_
  clear hat4
  unfold ju at h
  refine W_rs ?_
  refine rq (out:=ah x5) ag ?_
  refine rq (out:=aq b2 2) (au oq) ?_
  refine rq (out:=ah x1.Type_) (a6 (R:=ab) (a:=x1) (R':=ak) 0 ty9 d9) ?_
  obtain⟨x6,hx6,h⟩:=af h
  refine rq (out:=ah x6) (cm hx6) ?_
  obtain⟨x7,hx7,h⟩:=af h
  refine rq (out:=ah x7) (cm hx7) ?_
  refine rq (out:=aq b2 1) (au eu) ?_
  refine rq (out:=ah x1.Text) (a6 (R:=ab) (a:=x1) (R':=ak) 0 ty9 bq) ?_
  obtain⟨x8,hx8,h⟩:=af h
  refine rq (out:=ah x8) (cm hx8) ?_
  refine rq (out:=ah x8) ae ?_
  refine a4 ?_
  refine W_rs ?_
  refine rq (out:=aq b2 0) (au f8) ?_
  refine rq (out:=Pr.i64 x1.Kind) (a6 (R:=ab) (a:=x1) (R':=Rp.int .i64) 0 ty3 bv) ?_
  refine rq (out:=Pr.bool (x1.Kind==2)) qInt ?_
  refine al (b:=x1.Kind==2) rfl (fun hc9=> ?_) (fun hc9=> ?_)
  ·replace h:=iteT hc9 h
   refine W_rs ?_
   refine rq (out:=ah x8) ag ?_
   obtain⟨x10,hx10,h⟩:=af h
   refine rq (out:=ah x10) (cm hx10) ?_
   refine rq (out:=ah x10) ae ?_
   obtain rfl:=Option.some.inj h
   exact a5 ⟨rfl,aa⟩
  replace h:=iteF hc9 h
  refine ar ?_
  refine a4 ?_
  refine W_rs ?_
  refine rq (out:=aq b2 0) (au f8) ?_
  refine rq (out:=Pr.i64 x1.Kind) (a6 (R:=ab) (a:=x1) (R':=Rp.int .i64) 0 ty3 bv) ?_
  refine rq (out:=Pr.bool (x1.Kind != 3)) qInt ?_
  refine al (b:=x1.Kind != 3) rfl (fun hc11=> ?_) (fun hc11=> ?_)
  ·replace h:=iteT hc11 h
   refine W_rs ?_
   refine rq (out:=ah []) ae ?_
   obtain rfl:=Option.some.inj h
   exact a5 ⟨rfl,aa⟩
  replace h:=iteF hc11 h
  refine ar ?_
  refine W_rs ?_
  refine rq (out:=ah x8) ag ?_
  obtain⟨x12,hx12,h⟩:=af h
  refine rq (out:=ah x12) (cm hx12) ?_
  refine rq (out:=ah x12) ae ?_
  refine a4 ?_
  refine W_rs ?_
  refine rq (out:=Pr.i64 0) ae ?_
  refine av ?_
  obtain⟨z2l,hz2,h⟩:=af h
  obtain⟨n2,hN2⟩:=bj hz2
  clear hz2
  refine ct 0 (fun e C=>∃(x13:List UInt8),ref13_Member_k1 x1 x13=some r/\At [(1,aq b2 0),(3,ah x13)] [Own.box b2 ab x1] e C) ?_ ?_
  ·rintro e C ⟨x13,h,hat1⟩
   refine W_at hat1 ?_
   clear hat1
   unfold ref13_Member_k1 at h
   refine W_rs ?_
   refine rq (out:=ah x13) ag ?_
   obtain⟨x26,hx26,h⟩:=af h
   refine rq (out:=ah x26) (cm hx26) ?_
   refine rq (out:=(ab).val x1) (a6 (R:=ab) (a:=x1) (R':=ab) 0 ty24 (Sub.refl _)) ?_
   refine rq (out:=aq b2 8) (au c8) ?_
   refine rq (out:=ai ab x1.Kids) (a6 (R:=ab) (a:=x1) (R':=ap ab) 0 ty22 ay) ?_
   refine rq (out:=Pr.i64 (x1.Kids.length:Int)) (dc rfl Tryz.underlying22) ?_
   refine rq (out:=Pr.i64 (w64 ((x1.Kids.length:Int) - 1))) qInt ?_
   refine rq (out:=Pr.i64 (if(w64 ((x1.Kids.length:Int) - 1))>0 then(w64 ((x1.Kids.length:Int) - 1))else 0)) (qMax (a:=0) (b:=w64 ((x1.Kids.length:Int) - 1))) ?_
   obtain⟨x27,hx27,h⟩:=af h
   refine rq (out:=ah x27) (ax (ref13_belongs_ok x1 (if(w64 ((x1.Kids.length:Int) - 1))>0 then(w64 ((x1.Kids.length:Int) - 1))else 0) ([32,32]:List UInt8) _ hx27)) ?_
   obtain⟨x28,hx28,h⟩:=af h
   refine rq (out:=ah x28) (cm hx28) ?_
   obtain⟨x29,hx29,h⟩:=af h
   refine rq (out:=ah x29) (cm hx29) ?_
   refine rq (out:=ah x29) ae ?_
   obtain rfl:=Option.some.inj h
   exact a5 ⟨rfl,aa⟩
  refine dg (fun m e C=>∃(x13:List UInt8),∃(x14:Int),d4 (fun s=>ge x1 s.1 s.2) m (x13,x14)=some z2l/\At [(1,aq b2 0),(3,ah x13),(4,Pr.i64 x14)] [Own.box b2 ab x1] e C) n2 ⟨x12,0,hN2,⟨⟨aa,aa,aa,trivial⟩,Pick.refl _⟩⟩ ?_
  clear hN2
  rintro m e C ⟨x13,x14,hN2,hatl2⟩
  refine W_at hatl2 ?_
  clear hatl2
  obtain⟨m2,w2l,rfl,h2l,hn2,ho2⟩:=bg hN2
  clear hN2
  replace h2l:ge x1 x13 x14=some w2l:=h2l
  unfold ge at h2l
  refine a4 ?_
  refine W_rs ?_
  refine rq (out:=Pr.i64 x14) ag ?_
  refine rq (out:=Pr.i64 (w64 (x14+1))) qInt ?_
  refine rq (out:=aq b2 8) (au c8) ?_
  refine rq (out:=ai ab x1.Kids) (a6 (R:=ab) (a:=x1) (R':=ap ab) 0 ty22 ay) ?_
  refine rq (out:=Pr.i64 (x1.Kids.length:Int)) (dc rfl Tryz.underlying22) ?_
  refine rq (out:=Pr.bool (decide ((w64 (x14+1))<(x1.Kids.length:Int)))) qInt ?_
  refine al (b:=decide ((w64 (x14+1))<(x1.Kids.length:Int))) rfl (fun hc17=> ?_) (fun hc17=> ?_)
  ·replace h2l:=iteT hc17 h2l
   refine ar ?_
   refine a4 ?_
   refine av ?_
   refine ba (fun e C=>∃(x20:List UInt8),mu x1 x14 x20=some w2l/\At [(1,aq b2 0),(3,ah x20),(4,Pr.i64 x14)] [Own.box b2 ab x1] e C) ?_ ?_
   ·rintro e C ⟨x20,h2l,hat3⟩
    refine W_at hat3 ?_
    clear hat3
    unfold mu at h2l
    refine eh 17 hmx (by kernel_rfl) (by kernel_rfl) ?_
    refine qq (out:=ah x20) ag ?_
    refine qq (out:=aq b2 8) (au c8) ?_
    refine qq (out:=ai ab x1.Kids) (a6 (R:=ab) (a:=x1) (R':=ap ab) 0 ty22 ay) ?_
    refine qq (out:=Pr.i64 x14) ag ?_
    obtain⟨x21,hx21,h2l⟩:=af h2l
    refine qq (out:=a8 ab x21) (c6 (R:=ab) (l:=x1.Kids) Tryz.underlying22 Tryz.sizeOf24 hx21) ?_
    refine qq (out:=a8 ak x21.Type_) (ee (R:=ab) (a:=x21) oq d9) ?_
    refine qq (out:=ah x21.Type_) (bp (R:=ak) (a:=x21.Type_) ty9) ?_
    obtain⟨x22,hx22,h2l⟩:=af h2l
    refine qq (out:=ah x22) (cm hx22) ?_
    obtain⟨x23,hx23,h2l⟩:=af h2l
    refine qq (out:=ah x23) (cm hx23) ?_
    refine qq (out:=aq b2 8) (au c8) ?_
    refine qq (out:=ai ab x1.Kids) (a6 (R:=ab) (a:=x1) (R':=ap ab) 0 ty22 ay) ?_
    refine qq (out:=Pr.i64 x14) ag ?_
    obtain⟨x24,hx24,h2l⟩:=af h2l
    refine qq (out:=a8 ab x24) (c6 (R:=ab) (l:=x1.Kids) Tryz.underlying22 Tryz.sizeOf24 hx24) ?_
    refine qq (out:=a8 ak x24.Text) (ee (R:=ab) (a:=x24) eu bq) ?_
    refine qq (out:=ah x24.Text) (bp (R:=ak) (a:=x24.Text) ty9) ?_
    obtain⟨x25,hx25,h2l⟩:=af h2l
    refine qq (out:=ah x25) (cm hx25) ?_
    refine qq (out:=ah x25) ae ?_
    refine W_r ?_
    refine rq (out:=Pr.i64 x14) ag ?_
    refine rq (out:=Pr.i64 (w64 (x14+1))) qInt ?_
    refine rq (out:=Pr.i64 (w64 (x14+1))) ae ?_
    exact⟨m2,Nat.lt_succ_self _,x25,w64 (x14+1),hn2 _ (Option.some.inj h2l).symm,⟨⟨aa,aa,aa,trivial⟩,Pick.refl _⟩⟩
   refine W_rs ?_
   refine rq (out:=Pr.i64 x14) ag ?_
   refine rq (out:=Pr.bool (decide (x14>0))) qInt ?_
   refine al (b:=decide (x14>0)) rfl (fun hc18=> ?_) (fun hc18=> ?_)
   ·replace h2l:=iteT hc18 h2l
    refine W_r ?_
    refine rq (out:=ah x13) ag ?_
    obtain⟨x19,hx19,h2l⟩:=af h2l
    refine rq (out:=ah x19) (cm hx19) ?_
    refine rq (out:=ah x19) ae ?_
    exact⟨x19,h2l,⟨⟨aa,aa,aa,trivial⟩,Pick.refl _⟩⟩
   replace h2l:=iteF hc18 h2l
   refine ar ?_
   exact⟨x13,h2l,⟨⟨aa,aa,aa,trivial⟩,Pick.refl _⟩⟩
  replace h2l:=iteF hc17 h2l
  refine cr ?_
  obtain rfl:=ho2 _ (Option.some.inj h2l).symm
  exact⟨x13,h,⟨⟨aa,aa,trivial⟩,Pick.refl _⟩⟩
 refine W_rs ?_
 refine rq (out:=aq b2 3) (au fld24_3) ?_
 refine rq (out:=Pr.i64 x1.N) (a6 (R:=ab) (a:=x1) (R':=Rp.int .i64) 0 ty2 jd) ?_
 refine rq (out:=Pr.bool (x1.N==1)) qInt ?_
 refine al (b:=x1.N==1) rfl (fun hc3=> ?_) (fun hc3=> ?_)
 ·replace h:=iteT hc3 h
  refine W_r ?_
  refine rq (out:=ah ([32,32]:List UInt8)) ag ?_
  obtain⟨x4,hx4,h⟩:=af h
  refine rq (out:=ah x4) (cm hx4) ?_
  refine rq (out:=ah x4) ae ?_
  exact⟨x4,h,⟨⟨aa,aa,trivial⟩,Pick.refl _⟩⟩
 replace h:=iteF hc3 h
 refine ar ?_
 exact⟨([32,32]:List UInt8),h,⟨⟨aa,aa,trivial⟩,Pick.refl _⟩⟩
theorem ref13_Class_ok (x1:ApiNode) (r:(List UInt8)) (h:ref13_Class x1=some r):FnP Tryz.prog 31 [(ab).val x1] (ah r):=by
 refine bd (n:=35) (rs:=[2]) Tryz.func31 rfl Tryz.ntmps31 ⟨by decide,Tryz.results31⟩ (by decide) (fun s0=> ?_)
 unfold ref13_Class at h
 refine W_rs ?_
 refine rBox (R:=ab) (a:=x1) rfl (fun b2=> ?_)
 refine rq (out:=ah []) ae ?_
 refine W_rs ?_
 refine rq (out:=aq b2 1) (au eu) ?_
 refine rq (out:=ah x1.Text) (a6 (R:=ab) (a:=x1) (R':=ak) 0 ty9 bq) ?_
 obtain⟨x3,hx3,h⟩:=af h
 refine rq (out:=ah x3) (cm hx3) ?_
 refine rq (out:=ah x3) ae ?_
 refine ba (fun e C=>∃(x7:List UInt8),lk x1 x7=some r/\At [(1,aq b2 0),(3,ah x7)] [Own.box b2 ab x1] e C) ?_ ?_
 ·rintro e C ⟨x7,h,hat3⟩
  refine W_at hat3 ?_
  clear hat3
  unfold lk at h
  refine W_rs ?_
  refine rq (out:=ah x7) ag ?_
  obtain⟨x8,hx8,h⟩:=af h
  refine rq (out:=ah x8) (cm hx8) ?_
  refine rq (out:=ah x8) ae ?_
  refine a4 ?_
  refine W_rs ?_
  refine rq (out:=Pr.i64 0) ae ?_
  refine av ?_
  obtain⟨z2l,hz2,h⟩:=af h
  obtain⟨n2,hN2⟩:=bj hz2
  clear hz2
  refine ct 0 (fun e C=>∃(x9:List UInt8),ref13_Class_k1 x9=some r/\At [(3,ah x9)] [Own.box b2 ab x1] e C) ?_ ?_
  ·rintro e C ⟨x9,h,hat1⟩
   refine W_at hat1 ?_
   clear hat1
   unfold ref13_Class_k1 at h
   refine W_rs ?_
   refine rq (out:=ah x9) ag ?_
   obtain⟨x17,hx17,h⟩:=af h
   refine rq (out:=ah x17) (cm hx17) ?_
   refine rq (out:=ah x17) ae ?_
   obtain rfl:=Option.some.inj h
   exact a5 ⟨rfl,aa⟩
  refine dg (fun m e C=>∃(x9:List UInt8),∃(x10:Int),d4 (fun s=>g8 x1 s.1 s.2) m (x9,x10)=some z2l/\At [(1,aq b2 0),(3,ah x9),(4,Pr.i64 x10)] [Own.box b2 ab x1] e C) n2 ⟨x8,0,hN2,⟨⟨aa,aa,aa,trivial⟩,Pick.refl _⟩⟩ ?_
  clear hN2
  rintro m e C ⟨x9,x10,hN2,hatl2⟩
  refine W_at hatl2 ?_
  clear hatl2
  obtain⟨m2,w2l,rfl,h2l,hn2,ho2⟩:=bg hN2
  clear hN2
  replace h2l:g8 x1 x9 x10=some w2l:=h2l
  unfold g8 at h2l
  refine a4 ?_
  refine W_rs ?_
  refine rq (out:=Pr.i64 x10) ag ?_
  refine rq (out:=aq b2 8) (au c8) ?_
  refine rq (out:=ai ab x1.Kids) (a6 (R:=ab) (a:=x1) (R':=ap ab) 0 ty22 ay) ?_
  refine rq (out:=Pr.i64 (x1.Kids.length:Int)) (dc rfl Tryz.underlying22) ?_
  refine rq (out:=Pr.bool (decide (x10<(x1.Kids.length:Int)))) qInt ?_
  refine al (b:=decide (x10<(x1.Kids.length:Int))) rfl (fun hc13=> ?_) (fun hc13=> ?_)
  ·replace h2l:=iteT hc13 h2l
   refine ar ?_
   refine a4 ?_
   refine av ?_
   refine W_r ?_
   refine rq (out:=ah x9) ag ?_
   refine rq (out:=aq b2 8) (au c8) ?_
   refine rq (out:=ai ab x1.Kids) (a6 (R:=ab) (a:=x1) (R':=ap ab) 0 ty22 ay) ?_
   refine rq (out:=Pr.i64 x10) ag ?_
   obtain⟨x14,hx14,h2l⟩:=af h2l
   refine rq (out:=a8 ab x14) (c6 (R:=ab) (l:=x1.Kids) Tryz.underlying22 Tryz.sizeOf24 hx14) ?_
   refine rq (out:=(ab).val x14) (bp (R:=ab) (a:=x14) ty24) ?_
   obtain⟨x15,hx15,h2l⟩:=af h2l
   refine rq (out:=ah x15) (ax (ref13_Member_ok x14 _ hx15)) ?_
   obtain⟨x16,hx16,h2l⟩:=af h2l
   refine rq (out:=ah x16) (cm hx16) ?_
   refine rq (out:=ah x16) ae ?_
   refine W_r ?_
   refine rq (out:=Pr.i64 x10) ag ?_
   refine rq (out:=Pr.i64 (w64 (x10+1))) qInt ?_
   refine rq (out:=Pr.i64 (w64 (x10+1))) ae ?_
   exact⟨m2,Nat.lt_succ_self _,x16,w64 (x10+1),hn2 _ (Option.some.inj h2l).symm,⟨⟨aa,aa,aa,trivial⟩,Pick.refl _⟩⟩
  replace h2l:=iteF hc13 h2l
  refine cr ?_
  obtain rfl:=ho2 _ (Option.some.inj h2l).symm
  exact⟨x9,h,⟨⟨aa,trivial⟩,Pick.refl _⟩⟩
 refine W_rs ?_
 refine rq (out:=aq b2 2) (au oq) ?_
 refine rq (out:=ah x1.Type_) (a6 (R:=ab) (a:=x1) (R':=ak) 0 ty9 d9) ?_
 refine rq (out:=Pr.bool (!(x1.Type_==[]))) qStr ?_
 refine al (b:= !(x1.Type_==[])) rfl (fun hc4=> ?_) (fun hc4=> ?_)
 ·replace h:=iteT hc4 h
  refine W_r ?_
  refine rq (out:=ah x3) ag ?_
  obtain⟨x5,hx5,h⟩:=af h
  refine rq (out:=ah x5) (cm hx5) ?_
  refine rq (out:=aq b2 2) (au oq) ?_
  refine rq (out:=ah x1.Type_) (a6 (R:=ab) (a:=x1) (R':=ak) 0 ty9 d9) ?_
  obtain⟨x6,hx6,h⟩:=af h
  refine rq (out:=ah x6) (cm hx6) ?_
  refine rq (out:=ah x6) ae ?_
  exact⟨x6,h,⟨⟨aa,aa,trivial⟩,Pick.refl _⟩⟩
 replace h:=iteF hc4 h
 refine ar ?_
 exact⟨x3,h,⟨⟨aa,aa,trivial⟩,Pick.refl _⟩⟩
theorem ref14_Of_ok (x1:ApiNode) (x2:List (List UInt8)) (r:(List UInt8)) (h:ref14_Of x1 x2=some r):FnP Tryz.prog 13 [(ab).val x1,ai ak x2] (ah r):=by
 refine bd (n:=24) (rs:=[4]) Tryz.func13 rfl Tryz.ntmps13 ⟨by decide,Tryz.results13⟩ (by decide) (fun s0=> ?_)
 unfold ref14_Of at h
 refine W_rs ?_
 refine rBox (R:=ab) (a:=x1) rfl (fun b3=> ?_)
 refine rq (out:=ah []) ae ?_
 refine W_rs ?_
 refine rq (out:=(ab).val x1) (a6 (R:=ab) (a:=x1) (R':=ab) 0 ty24 (Sub.refl _)) ?_
 refine rq (out:=ai ak x2) ag ?_
 obtain⟨x4,hx4,h⟩:=af h
 refine rq (out:=(ab).val x4) (ax (ref14_Erase_ok x1 x2 _ hx4)) ?_
 refine cg (R:=ab) (z:=(ApiNode.mk 0 [] [] 0 0 0 0 0 [])) Tryz.zeroValue24 (fun _=>(by rw[ao];exact⟨_,⟨_,_,rfl,rfl,⟨_,_,rfl,rfl,⟨_,_,rfl,rfl,⟨_,_,rfl,rfl,⟨_,_,rfl,rfl,⟨_,_,rfl,rfl,⟨_,_,rfl,rfl,⟨_,_,rfl,rfl,⟨_,_,rfl,⟨_,rfl,none,0,rfl,⟨Nat.le_refl _,fun _=>rfl⟩,.inl rfl⟩,rfl⟩⟩⟩⟩⟩⟩⟩⟩⟩,rfl⟩)) (fun b5=> ?_)
 refine az (R:=ab) (R':=ab) (a:=(ApiNode.mk 0 [] [] 0 0 0 0 0 [])) (y:=x4) 1 Tryz.sizeOf24 (Upd.refl _) ?_
 refine a4 ?_
 refine W_rs ?_
 refine rq (out:=aq b3 0) (au f8) ?_
 refine rq (out:=Pr.i64 x1.Kind) (a6 (R:=ab) (a:=x1) (R':=Rp.int .i64) 0 ty3 bv) ?_
 refine rq (out:=Pr.bool (x1.Kind==1)) qInt ?_
 refine al (b:=x1.Kind==1) rfl (fun hc6=> ?_) (fun hc6=> ?_)
 ·replace h:=iteT hc6 h
  refine W_rs ?_
  refine rq (out:=(ab).val x4) (a6 (R:=ab) (a:=x4) (R':=ab) 1 ty24 (Sub.refl _)) ?_
  obtain⟨x7,hx7,h⟩:=af h
  refine rq (out:=ah x7) (ax (ref13_Class_ok x4 _ hx7)) ?_
  refine rq (out:=ah x7) ae ?_
  obtain rfl:=Option.some.inj h
  exact a5 ⟨rfl,aa⟩
 replace h:=iteF hc6 h
 refine ar ?_
 refine a4 ?_
 refine ba (fun e C=>∃(x9:Bool),ref14_Of_j1 x4 x9=some r/\At [(5,aq b5 0),(21,Pr.bool x9)] [Own.box b3 ab x1,Own.box b5 ab x4] e C) ?_ ?_
 ·rintro e C ⟨x9,h,hat1⟩
  refine W_at hat1 ?_
  clear hat1
  unfold ref14_Of_j1 at h
  refine al (b:=x9) rfl (fun hc10=> ?_) (fun hc10=> ?_)
  ·replace h:=iteT hc10 h
   refine W_rs ?_
   refine rq (out:=(ab).val x4) (a6 (R:=ab) (a:=x4) (R':=ab) 1 ty24 (Sub.refl _)) ?_
   obtain⟨x11,hx11,h⟩:=af h
   refine rq (out:=ah x11) (ax (ref13_Member_ok x4 _ hx11)) ?_
   refine rq (out:=ah x11) ae ?_
   obtain rfl:=Option.some.inj h
   exact a5 ⟨rfl,aa⟩
  replace h:=iteF hc10 h
  refine ar ?_
  refine W_rs ?_
  refine rq (out:=ah []) ae ?_
  obtain rfl:=Option.some.inj h
  exact a5 ⟨rfl,aa⟩
 refine W_r ?_
 refine rq (out:=aq b3 0) (au f8) ?_
 refine rq (out:=Pr.i64 x1.Kind) (a6 (R:=ab) (a:=x1) (R':=Rp.int .i64) 0 ty3 bv) ?_
 refine rq (out:=Pr.bool (x1.Kind==2)) qInt ?_
 refine rq (out:=Pr.bool (x1.Kind==2)) ag ?_
 rcases cc h with⟨hc8,h⟩|⟨hc8,h⟩
 ·refine rno (neF hc8) ?_
  refine rno (neF hc8) ?_
  refine rno (neF hc8) ?_
  refine rq (out:=Pr.bool true) (cj hc8) ?_
  exact⟨true,h,⟨⟨aa,aa,trivial⟩,Pick.refl _⟩⟩
 refine rqg hc8 (out:=aq b3 0) (au f8) ?_
 refine rqg hc8 (out:=Pr.i64 x1.Kind) (a6 (R:=ab) (a:=x1) (R':=Rp.int .i64) 0 ty3 bv) ?_
 refine rqg hc8 (out:=Pr.bool (x1.Kind==3)) qInt ?_
 refine rq (out:=Pr.bool (x1.Kind==3)) (bx hc8) ?_
 exact⟨x1.Kind==3,h,⟨⟨aa,aa,trivial⟩,Pick.refl _⟩⟩
theorem ref04_Texts_ok (x1:List ApiToken) (r:(List (List UInt8))) (h:ref04_Texts x1=some r):FnP Tryz.prog 35 [ai aj x1] (ai ak r):=by
 refine bd (n:=26) (rs:=[2]) Tryz.func35 rfl Tryz.ntmps35 ⟨by decide,Tryz.results35⟩ (by decide) (fun s0=> ?_)
 unfold ref04_Texts at h
 refine W_rs ?_
 refine rq (out:=Pr.is (.slice none 0 0)) ae ?_
 refine W_rs ?_
 refine rq (out:=Pr.is (.slice none 0 0)) ae ?_
 refine a4 ?_
 refine W_rs ?_
 refine rq (out:=Pr.i64 0) ae ?_
 refine av ?_
 obtain⟨z2l,hz2,h⟩:=af h
 obtain⟨n2,hN2⟩:=bj hz2
 clear hz2
 refine ct 0 (fun e C=>∃(x4:List (List UInt8)),∃(v2:Value),ref04_Texts_k1 x4=some r/\At [(3,Pr.is v2)] [Own.vec v2 ak x4 9] e C) ?_ ?_
 ·rintro e C ⟨x4,v2,h,hat1⟩
  refine W_at hat1 ?_
  clear hat1
  unfold ref04_Texts_k1 at h
  refine W_rs ?_
  refine rq (out:=Pr.is v2) ag ?_
  refine rq (out:=Pr.is v2) ae ?_
  refine W_rel 0 [2] ?_ rfl ⟨rfl,trivial⟩
  obtain rfl:=Option.some.inj h
  exact a5 ⟨rfl,aa⟩
 refine W_nil [3] ak 9 (fun v16=> ?_) ⟨rfl,trivial⟩
 refine dg (fun m e C=>∃(x3:Int),∃(x4:List (List UInt8)),∃(v2:Value),d4 (fun s=>ig x1 s.1 s.2) m (x3,x4)=some z2l/\At [(0,ai aj x1),(3,Pr.is v2),(4,Pr.i64 x3)] [Own.vec v2 ak x4 9] e C) n2 ⟨0,[],v16,hN2,⟨⟨aa,aa,aa,trivial⟩,Pick.refl _⟩⟩ ?_
 clear hN2
 rintro m e C ⟨x3,x4,v2,hN2,hatl2⟩
 refine W_at hatl2 ?_
 clear hatl2
 obtain⟨m2,w2l,rfl,h2l,hn2,ho2⟩:=bg hN2
 clear hN2
 replace h2l:ig x1 x3 x4=some w2l:=h2l
 unfold ig at h2l
 refine a4 ?_
 refine W_rs ?_
 refine rq (out:=Pr.i64 x3) ag ?_
 refine rq (out:=ai aj x1) ag ?_
 refine rq (out:=Pr.i64 (x1.length:Int)) (dc rfl Tryz.underlying52) ?_
 refine rq (out:=Pr.bool (decide (x3<(x1.length:Int)))) qInt ?_
 refine al (b:=decide (x3<(x1.length:Int))) rfl (fun hc8=> ?_) (fun hc8=> ?_)
 ·replace h2l:=iteT hc8 h2l
  refine ar ?_
  refine ba (fun e C=>∃(x15:List (List UInt8)),∃(v14:Value),nq x3 x15=some w2l/\At [(0,ai aj x1),(3,Pr.is v14),(4,Pr.i64 x3)] [Own.vec v14 ak x15 9] e C) ?_ ?_
  ·rintro e C ⟨x15,v14,h2l,hat3⟩
   refine W_at hat3 ?_
   clear hat3
   unfold nq at h2l
   refine W_r ?_
   refine rq (out:=Pr.i64 x3) ag ?_
   refine rq (out:=Pr.i64 (w64 (x3+1))) qInt ?_
   refine rq (out:=Pr.i64 (w64 (x3+1))) ae ?_
   exact⟨m2,Nat.lt_succ_self _,w64 (x3+1),x15,v14,hn2 _ (Option.some.inj h2l).symm,⟨⟨aa,aa,aa,trivial⟩,Pick.refl _⟩⟩
  refine av ?_
  refine W_rs ?_
  refine rq (out:=ai aj x1) ag ?_
  refine rq (out:=Pr.i64 x3) ag ?_
  obtain⟨x9,hx9,h2l⟩:=af h2l
  refine rq (out:=a8 aj x9) (c6 (R:=aj) (l:=x1) Tryz.underlying52 Tryz.sizeOf56 hx9) ?_
  refine rq (out:=a8 (Rp.int .i64) x9.Kind) (ee (R:=aj) (a:=x9) fld56_0 i9) ?_
  refine rq (out:=Pr.i64 x9.Kind) (bp (R:=Rp.int .i64) (a:=x9.Kind) ty3) ?_
  refine rq (out:=Pr.bool (x9.Kind != 5)) qInt ?_
  refine al (b:=x9.Kind != 5) rfl (fun hc10=> ?_) (fun hc10=> ?_)
  ·replace h2l:=iteT hc10 h2l
   refine W_r ?_
   refine rq (out:=Pr.is v2) ag ?_
   refine rq (out:=ai aj x1) ag ?_
   refine rq (out:=Pr.i64 x3) ag ?_
   obtain⟨x11,hx11,h2l⟩:=af h2l
   refine rq (out:=a8 aj x11) (c6 (R:=aj) (l:=x1) Tryz.underlying52 Tryz.sizeOf56 hx11) ?_
   refine rq (out:=a8 ak x11.Text) (ee (R:=aj) (a:=x11) fld56_1 dp) ?_
   refine rq (out:=ah x11.Text) (bp (R:=ak) (a:=x11.Text) ty9) ?_
   refine rq (out:=ai ak ([x11.Text]:List (List UInt8))) (cf (R:=ak) (a:=x11.Text) el25 (Nat.le_of_ble_eq_true rfl)) ?_
   obtain⟨x12,hx12,h2l⟩:=af h2l
   refine f3 0 el25 hx12 (fun v13=> ?_)
   refine rq (out:=Pr.is v13) ae ?_
   exact⟨x12,v13,h2l,⟨⟨aa,aa,aa,trivial⟩,Pick.refl _⟩⟩
  replace h2l:=iteF hc10 h2l
  refine ar ?_
  exact⟨x4,v2,h2l,⟨⟨aa,aa,aa,trivial⟩,Pick.refl _⟩⟩
 replace h2l:=iteF hc8 h2l
 refine cr ?_
 obtain rfl:=ho2 _ (Option.some.inj h2l).symm
 exact⟨x4,v2,h,⟨⟨aa,trivial⟩,Pick.refl _⟩⟩
theorem ref14_Tokens_ok (x1:ApiNode) (x2:List (List UInt8)) (r:(List (List UInt8))) (h:mn x1 x2=some r):FnP Tryz.prog 16 [(ab).val x1,ai ak x2] (ai ak r):=by
 refine bd (n:=20) (rs:=[4]) Tryz.func16 rfl Tryz.ntmps16 ⟨by decide,Tryz.results16⟩ (by decide) (fun s0=> ?_)
 unfold mn at h
 refine W_rs ?_
 refine rBox (R:=ab) (a:=x1) rfl (fun b3=> ?_)
 refine rq (out:=Pr.is (.slice none 0 0)) ae ?_
 refine W_rs ?_
 refine rq (out:=(ab).val x1) (a6 (R:=ab) (a:=x1) (R':=ab) 0 ty24 (Sub.refl _)) ?_
 refine rq (out:=ai ak x2) ag ?_
 obtain⟨x4,hx4,h⟩:=af h
 refine rq (out:=ah x4) (ax (ref14_Of_ok x1 x2 _ hx4)) ?_
 obtain⟨⟨x5,x6,x7⟩,hx5,h⟩:=af h
 refine rq (out:=bl [ai aj x5,Pr.i64 x6,Pr.i64 x7]) (ax (ref03_Lex_ok x4 _ hx5)) ?_
 refine rq (out:=bl [ai aj x5,Pr.i64 x6,Pr.i64 x7]) ag ?_
 refine rq (out:=ai aj x5) aw ?_
 refine rq (out:=Pr.i64 x6) aw ?_
 refine rq (out:=Pr.i64 x7) aw ?_
 refine rq (out:=ai aj x5) ae ?_
 refine rq (out:=Pr.i64 x6) ae ?_
 refine rq (out:=Pr.i64 x7) ae ?_
 refine a4 ?_
 refine W_rs ?_
 refine rq (out:=Pr.i64 x7) ag ?_
 refine rq (out:=Pr.bool (x7 != 0)) qInt ?_
 refine al (b:=x7 != 0) rfl (fun hc8=> ?_) (fun hc8=> ?_)
 ·replace h:=iteT hc8 h
  refine W_rs ?_
  refine rq (out:=Pr.is (.slice none 0 0)) ae ?_
  obtain rfl:=Option.some.inj h
  exact a5 ⟨rfl,dn _⟩
 replace h:=iteF hc8 h
 refine ar ?_
 refine W_rs ?_
 refine rq (out:=ai aj x5) ag ?_
 obtain⟨x9,hx9,h⟩:=af h
 refine rq (out:=ai ak x9) (ax (ref04_Texts_ok x5 _ hx9)) ?_
 refine rq (out:=ai ak x9) ae ?_
 obtain rfl:=Option.some.inj h
 exact a5 ⟨rfl,aa⟩
theorem ref05_Numbers_ok (x1:List (List (List UInt8))) (r:(List (List Int))) (h:kz x1=some r):FnP Tryz.prog 45 [ai (ap ak) x1] (ai (ap (Rp.int .i64)) r):=by
 refine bd (n:=67) (rs:=[2]) Tryz.func45 rfl Tryz.ntmps45 ⟨by decide,Tryz.results45⟩ (by decide) (fun s0=> ?_)
 unfold kz at h
 refine W_rs ?_
 refine rq (out:=Pr.is (.slice none 0 0)) ae ?_
 refine W_rs ?_
 refine rq (out:=Pr.is (.slice none 0 0)) ae ?_
 refine W_rs ?_
 refine rq (out:=Pr.is (.slice none 0 0)) ae ?_
 refine a4 ?_
 refine W_rs ?_
 refine rq (out:=Pr.i64 0) ae ?_
 refine av ?_
 obtain⟨z2l,hz2,h⟩:=af h
 obtain⟨n2,hN2⟩:=bj hz2
 clear hz2
 refine ct 0 (fun e C=>∃(x6:List (List Int)),∃(v3:Value),oj x6=some r/\At [(4,Pr.is v3)] [Own.vec v3 (ap (Rp.int .i64)) x6 71] e C) ?_ ?_
 ·rintro e C ⟨x6,v3,h,hat1⟩
  refine W_at hat1 ?_
  clear hat1
  unfold oj at h
  refine W_rs ?_
  refine rq (out:=Pr.is v3) ag ?_
  refine rq (out:=Pr.is v3) ae ?_
  refine W_rel 0 [2] ?_ rfl ⟨rfl,trivial⟩
  obtain rfl:=Option.some.inj h
  exact a5 ⟨rfl,aa⟩
 refine W_nil [3] ak 9 (fun v45=> ?_) ⟨rfl,trivial⟩
 refine W_nil [4] (ap (Rp.int .i64)) 71 (fun v46=> ?_) ⟨rfl,trivial⟩
 refine dg (fun m e C=>∃(x4:Int),∃(x5:List (List UInt8)),∃(x6:List (List Int)),∃(v2:Value),∃(v3:Value),d4 (fun s=>fp x1 s.1 s.2.1 s.2.2) m (x4,x5,x6)=some z2l/\At [(0,ai (ap ak) x1),(3,Pr.is v2),(4,Pr.is v3),(5,Pr.i64 x4)] [Own.vec v2 ak x5 9,Own.vec v3 (ap (Rp.int .i64)) x6 71] e C) n2 ⟨0,[],[],v45,v46,hN2,⟨⟨aa,aa,aa,aa,trivial⟩,Pick.refl _⟩⟩ ?_
 clear hN2
 rintro m e C ⟨x4,x5,x6,v2,v3,hN2,hatl2⟩
 refine W_at hatl2 ?_
 clear hatl2
 obtain⟨m2,w2l,rfl,h2l,hn2,ho2⟩:=bg hN2
 clear hN2
 replace h2l:fp x1 x4 x5 x6=some w2l:=h2l
 unfold fp at h2l
 refine a4 ?_
 refine W_rs ?_
 refine rq (out:=Pr.i64 x4) ag ?_
 refine rq (out:=ai (ap ak) x1) ag ?_
 refine rq (out:=Pr.i64 (x1.length:Int)) (dc rfl Tryz.underlying69) ?_
 refine rq (out:=Pr.bool (decide (x4<(x1.length:Int)))) qInt ?_
 refine al (b:=decide (x4<(x1.length:Int))) rfl (fun hc12=> ?_) (fun hc12=> ?_)
 ·replace h2l:=iteT hc12 h2l
  refine ar ?_
  refine a4 ?_
  refine av ?_
  refine W_rs ?_
  refine rq (out:=Pr.is (.slice none 0 0)) ae ?_
  refine a4 ?_
  refine W_rs ?_
  refine rq (out:=Pr.i64 0) ae ?_
  refine av ?_
  obtain⟨z4l,hz4,h2l⟩:=af h2l
  obtain⟨n4,hN4⟩:=bj hz4
  clear hz4
  refine ct 2 (fun e C=>∃(x16:List (List UInt8)),∃(x17:List Int),∃(v13:Value),∃(v14:Value),oi x6 x4 x16 x17=some w2l/\At [(0,ai (ap ak) x1),(3,Pr.is v13),(4,Pr.is v3),(5,Pr.i64 x4),(6,Pr.is v14)] [Own.vec v13 ak x16 9,Own.vec v3 (ap (Rp.int .i64)) x6 71,Own.vec v14 (Rp.int .i64) x17 3] e C) ?_ ?_
  ·rintro e C ⟨x16,x17,v13,v14,h2l,hat3⟩
   refine W_at hat3 ?_
   clear hat3
   unfold oi at h2l
   refine W_r ?_
   refine rq (out:=Pr.is v3) ag ?_
   refine rq (out:=Pr.is v14) ag ?_
   refine rRel 2 [6,63] ?_ rfl ⟨rfl,rfl,trivial⟩
   refine rq (out:=ai (ap (Rp.int .i64)) ([x17]:List (List Int))) (cf (R:=ap (Rp.int .i64)) (a:=x17) el67 (Nat.le_of_ble_eq_true rfl)) ?_
   obtain⟨x42,hx42,h2l⟩:=af h2l
   refine f3 1 el67 hx42 (fun v43=> ?_)
   refine rq (out:=Pr.is v43) ae ?_
   refine W_r ?_
   refine rq (out:=Pr.i64 x4) ag ?_
   refine rq (out:=Pr.i64 (w64 (x4+1))) qInt ?_
   refine rq (out:=Pr.i64 (w64 (x4+1))) ae ?_
   exact⟨m2,Nat.lt_succ_self _,w64 (x4+1),x16,x42,v13,v43,hn2 _ (Option.some.inj h2l).symm,⟨⟨aa,aa,aa,aa,trivial⟩,Pick.refl _⟩⟩
  refine W_nil [6] (Rp.int .i64) 3 (fun v44=> ?_) ⟨rfl,trivial⟩
  refine dg (fun m e C=>∃(x15:Int),∃(x16:List (List UInt8)),∃(x17:List Int),∃(v13:Value),∃(v14:Value),d4 (fun s=>fc x1 x4 s.1 s.2.1 s.2.2) m (x15,x16,x17)=some z4l/\At [(0,ai (ap ak) x1),(3,Pr.is v13),(4,Pr.is v3),(5,Pr.i64 x4),(6,Pr.is v14),(7,Pr.i64 x15)] [Own.vec v13 ak x16 9,Own.vec v3 (ap (Rp.int .i64)) x6 71,Own.vec v14 (Rp.int .i64) x17 3] e C) n4 ⟨0,x5,[],v2,v44,hN4,⟨⟨aa,aa,aa,aa,aa,aa,trivial⟩,Pick.refl _⟩⟩ ?_
  clear hN4
  rintro m e C ⟨x15,x16,x17,v13,v14,hN4,hatl4⟩
  refine W_at hatl4 ?_
  clear hatl4
  obtain⟨m4,w4l,rfl,h4l,hn4,ho4⟩:=bg hN4
  clear hN4
  replace h4l:fc x1 x4 x15 x16 x17=some w4l:=h4l
  unfold fc at h4l
  refine a4 ?_
  refine W_rs ?_
  refine rq (out:=Pr.i64 x15) ag ?_
  refine rq (out:=ai (ap ak) x1) ag ?_
  refine rq (out:=Pr.i64 x4) ag ?_
  obtain⟨x23,hx23,h4l⟩:=af h4l
  refine rq (out:=a8 (ap ak) x23) (c6 (R:=ap ak) (l:=x1) Tryz.underlying69 Tryz.sizeOf25 hx23) ?_
  refine rq (out:=ai ak x23) (bp (R:=ap ak) (a:=x23) ty25) ?_
  refine rq (out:=Pr.i64 (x23.length:Int)) (dc rfl Tryz.underlying25) ?_
  refine rq (out:=Pr.bool (decide (x15<(x23.length:Int)))) qInt ?_
  refine al (b:=decide (x15<(x23.length:Int))) rfl (fun hc24=> ?_) (fun hc24=> ?_)
  ·replace h4l:=iteT hc24 h4l
   refine ar ?_
   refine a4 ?_
   refine av ?_
   refine W_rs ?_
   refine rq (out:=Pr.i64 0) ae ?_
   refine a4 ?_
   refine av ?_
   obtain⟨z7l,hz7,h4l⟩:=af h4l
   obtain⟨n7,hN7⟩:=bj hz7
   clear hz7
   refine ct 4 (fun e C=>∃(x25:Int),oh x16 x1 x4 x15 x17 x25=some w4l/\At [(0,ai (ap ak) x1),(3,Pr.is v13),(4,Pr.is v3),(5,Pr.i64 x4),(6,Pr.is v14),(7,Pr.i64 x15),(8,Pr.i64 x25)] [Own.vec v13 ak x16 9,Own.vec v3 (ap (Rp.int .i64)) x6 71,Own.vec v14 (Rp.int .i64) x17 3] e C) ?_ ?_
   ·rintro e C ⟨x25,h4l,hat6⟩
    refine W_at hat6 ?_
    clear hat6
    unfold oh at h4l
    refine ba (fun e C=>∃(x39:List (List UInt8)),∃(v38:Value),k8 x17 x25 x15 x39=some w4l/\At [(0,ai (ap ak) x1),(3,Pr.is v38),(4,Pr.is v3),(5,Pr.i64 x4),(6,Pr.is v14),(7,Pr.i64 x15),(8,Pr.i64 x25)] [Own.vec v38 ak x39 9,Own.vec v3 (ap (Rp.int .i64)) x6 71,Own.vec v14 (Rp.int .i64) x17 3] e C) ?_ ?_
    ·rintro e C ⟨x39,v38,h4l,hat5⟩
     refine W_at hat5 ?_
     clear hat5
     unfold k8 at h4l
     refine W_r ?_
     refine rq (out:=Pr.is v14) ag ?_
     refine rq (out:=Pr.i64 x25) ag ?_
     refine rq (out:=ai (Rp.int .i64) ([x25]:List Int)) (cf (R:=Rp.int .i64) (a:=x25) el71 (Nat.le_of_ble_eq_true rfl)) ?_
     obtain⟨x40,hx40,h4l⟩:=af h4l
     refine f3 2 el71 hx40 (fun v41=> ?_)
     refine rq (out:=Pr.is v41) ae ?_
     refine W_r ?_
     refine rq (out:=Pr.i64 x15) ag ?_
     refine rq (out:=Pr.i64 (w64 (x15+1))) qInt ?_
     refine rq (out:=Pr.i64 (w64 (x15+1))) ae ?_
     exact⟨m4,Nat.lt_succ_self _,w64 (x15+1),x39,x40,v38,v41,hn4 _ (Option.some.inj h4l).symm,⟨⟨aa,aa,aa,aa,aa,aa,trivial⟩,Pick.refl _⟩⟩
    refine W_rs ?_
    refine rq (out:=Pr.i64 x25) ag ?_
    refine rq (out:=Pr.is v13) ag ?_
    refine rq (out:=Pr.i64 (x16.length:Int)) (qLenV 0 rfl Tryz.underlying25) ?_
    refine rq (out:=Pr.bool (x25==(x16.length:Int))) qInt ?_
    refine al (b:=x25==(x16.length:Int)) rfl (fun hc33=> ?_) (fun hc33=> ?_)
    ·replace h4l:=iteT hc33 h4l
     refine W_r ?_
     refine rq (out:=Pr.is v13) ag ?_
     refine rq (out:=ai (ap ak) x1) ag ?_
     refine rq (out:=Pr.i64 x4) ag ?_
     obtain⟨x34,hx34,h4l⟩:=af h4l
     refine rq (out:=a8 (ap ak) x34) (c6 (R:=ap ak) (l:=x1) Tryz.underlying69 Tryz.sizeOf25 hx34) ?_
     refine rq (out:=ai ak x34) (bp (R:=ap ak) (a:=x34) ty25) ?_
     refine rq (out:=Pr.i64 x15) ag ?_
     obtain⟨x35,hx35,h4l⟩:=af h4l
     refine rq (out:=a8 ak x35) (c6 (R:=ak) (l:=x34) Tryz.underlying25 Tryz.sizeOf9 hx35) ?_
     refine rq (out:=ah x35) (bp (R:=ak) (a:=x35) ty9) ?_
     refine rq (out:=ai ak ([x35]:List (List UInt8))) (cf (R:=ak) (a:=x35) el25 (Nat.le_of_ble_eq_true rfl)) ?_
     obtain⟨x36,hx36,h4l⟩:=af h4l
     refine f3 0 el25 hx36 (fun v37=> ?_)
     refine rq (out:=Pr.is v37) ae ?_
     exact⟨x36,v37,h4l,⟨⟨aa,aa,aa,aa,aa,aa,aa,trivial⟩,Pick.refl _⟩⟩
    replace h4l:=iteF hc33 h4l
    refine ar ?_
    exact⟨x16,v13,h4l,⟨⟨aa,aa,aa,aa,aa,aa,aa,trivial⟩,Pick.refl _⟩⟩
   refine dg (fun m e C=>∃(x25:Int),d4 (fun s=>ep x16 x1 x4 x15 s) m x25=some z7l/\At [(0,ai (ap ak) x1),(3,Pr.is v13),(4,Pr.is v3),(5,Pr.i64 x4),(6,Pr.is v14),(7,Pr.i64 x15),(8,Pr.i64 x25)] [Own.vec v13 ak x16 9,Own.vec v3 (ap (Rp.int .i64)) x6 71,Own.vec v14 (Rp.int .i64) x17 3] e C) n7 ⟨0,hN7,⟨⟨aa,aa,aa,aa,aa,aa,aa,trivial⟩,Pick.refl _⟩⟩ ?_
   clear hN7
   rintro m e C ⟨x25,hN7,hatl7⟩
   refine W_at hatl7 ?_
   clear hatl7
   obtain⟨m7,w7l,rfl,h7l,hn7,ho7⟩:=bg hN7
   clear hN7
   replace h7l:ep x16 x1 x4 x15 x25=some w7l:=h7l
   unfold ep at h7l
   refine a4 ?_
   refine ba (fun e C=>∃(x31:Bool),gt x25 x31=some w7l/\At [(0,ai (ap ak) x1),(3,Pr.is v13),(4,Pr.is v3),(5,Pr.i64 x4),(6,Pr.is v14),(7,Pr.i64 x15),(8,Pr.i64 x25),(41,Pr.bool x31)] [Own.vec v13 ak x16 9,Own.vec v3 (ap (Rp.int .i64)) x6 71,Own.vec v14 (Rp.int .i64) x17 3] e C) ?_ ?_
   ·rintro e C ⟨x31,h7l,hat8⟩
    refine W_at hat8 ?_
    clear hat8
    unfold gt at h7l
    refine al (b:=x31) rfl (fun hc32=> ?_) (fun hc32=> ?_)
    ·replace h7l:=iteT hc32 h7l
     refine ar ?_
     refine av ?_
     refine W_r ?_
     refine rq (out:=Pr.i64 x25) ag ?_
     refine rq (out:=Pr.i64 (w64 (x25+1))) qInt ?_
     refine rq (out:=Pr.i64 (w64 (x25+1))) ae ?_
     exact⟨m7,Nat.lt_succ_self _,w64 (x25+1),hn7 _ (Option.some.inj h7l).symm,⟨⟨aa,aa,aa,aa,aa,aa,aa,trivial⟩,Pick.refl _⟩⟩
    replace h7l:=iteF hc32 h7l
    refine cr ?_
    obtain rfl:=ho7 _ (Option.some.inj h7l).symm
    exact⟨x25,h4l,⟨⟨aa,aa,aa,aa,aa,aa,aa,trivial⟩,Pick.refl _⟩⟩
   refine eh 18 hmx (by kernel_rfl) (by kernel_rfl) ?_
   refine qq (out:=Pr.i64 x25) ag ?_
   refine qq (out:=Pr.is v13) ag ?_
   refine qq (out:=Pr.i64 (x16.length:Int)) (qLenV 0 rfl Tryz.underlying25) ?_
   refine qq (out:=Pr.bool (decide (x25<(x16.length:Int)))) qInt ?_
   refine qq (out:=Pr.bool (decide (x25<(x16.length:Int)))) ag ?_
   rcases cc h7l with⟨hc27,h7l⟩|⟨hc27,h7l⟩
   ·refine qqg hc27 (out:=Pr.is v13) ag ?_
    refine qqg hc27 (out:=Pr.i64 x25) ag ?_
    obtain⟨x28,hx28,h7l⟩:=af h7l
    refine qqg hc27 (out:=f7 v13 (Int.toNat x25 * (ak).size)) (nk 0 (R:=ak) (l:=x16) Tryz.underlying25 Tryz.sizeOf9 hx28) ?_
    refine qqg hc27 (out:=ah x28) (qLoadV (R:=ak) (R':=ak) (l:=x16) (a:=x28) (o:=0) 0 ty9 (Sub.refl _) (Nat.le_of_ble_eq_true rfl) hx28 rfl) ?_
    refine qqg hc27 (out:=ai (ap ak) x1) ag ?_
    refine qqg hc27 (out:=Pr.i64 x4) ag ?_
    obtain⟨x29,hx29,h7l⟩:=af h7l
    refine qqg hc27 (out:=a8 (ap ak) x29) (c6 (R:=ap ak) (l:=x1) Tryz.underlying69 Tryz.sizeOf25 hx29) ?_
    refine qqg hc27 (out:=ai ak x29) (bp (R:=ap ak) (a:=x29) ty25) ?_
    refine qqg hc27 (out:=Pr.i64 x15) ag ?_
    obtain⟨x30,hx30,h7l⟩:=af h7l
    refine qqg hc27 (out:=a8 ak x30) (c6 (R:=ak) (l:=x29) Tryz.underlying25 Tryz.sizeOf9 hx30) ?_
    refine qqg hc27 (out:=ah x30) (bp (R:=ak) (a:=x30) ty9) ?_
    refine qqg hc27 (out:=Pr.bool (!(x28==x30))) qStr ?_
    refine qq (out:=Pr.bool (!(x28==x30))) (cj hc27) ?_
    exact⟨!(x28==x30),h7l,⟨⟨aa,aa,aa,aa,aa,aa,aa,aa,trivial⟩,Pick.refl _⟩⟩
   refine qqno (neT hc27) ?_
   refine qqno (neT hc27) ?_
   refine qqno (neT hc27) ?_
   refine qqno (neT hc27) ?_
   refine qqno (neT hc27) ?_
   refine qqno (neT hc27) ?_
   refine qqno (neT hc27) ?_
   refine qqno (neT hc27) ?_
   refine qqno (neT hc27) ?_
   refine qqno (neT hc27) ?_
   refine qqno (neT hc27) ?_
   refine qqno (neT hc27) ?_
   refine qq (out:=Pr.bool false) (bx hc27) ?_
   exact⟨false,h7l,⟨⟨aa,aa,aa,aa,aa,aa,aa,aa,trivial⟩,Pick.refl _⟩⟩
  replace h4l:=iteF hc24 h4l
  refine cr ?_
  obtain rfl:=ho4 _ (Option.some.inj h4l).symm
  exact⟨x16,x17,v13,v14,h2l,⟨⟨aa,aa,aa,aa,aa,trivial⟩,Pick.refl _⟩⟩
 replace h2l:=iteF hc12 h2l
 refine cr ?_
 obtain rfl:=ho2 _ (Option.some.inj h2l).symm
 exact⟨x6,v3,h,⟨⟨aa,trivial⟩,Pick.of [1] rfl⟩⟩
theorem ref05_Match_ok (x1 x2:List Int) (r:(List Int)) (h:ov x1 x2=some r):FnP Tryz.prog 94 [ai (Rp.int .i64) x1,ai (Rp.int .i64) x2] (ai (Rp.int .i64) r):=by
 refine bd (n:=158) (rs:=[4]) Tryz.func94 rfl Tryz.ntmps94 ⟨by decide,Tryz.results94⟩ (by decide) (fun s0=> ?_)
 unfold ov at h
 refine W_rs ?_
 refine rq (out:=Pr.is (.slice none 0 0)) ae ?_
 refine W_rs ?_
 refine rq (out:=Pr.is (.slice none 0 0)) ae ?_
 refine a4 ?_
 refine W_rs ?_
 refine rq (out:=Pr.i64 0) ae ?_
 refine av ?_
 obtain⟨z14l,hz14,h⟩:=af h
 obtain⟨n14,hN14⟩:=bj hz14
 clear hz14
 refine ct 0 (fun e C=>∃(x5:List Int),∃(v3:Value),mw x1 x2 x5=some r/\At [(0,ai (Rp.int .i64) x1),(1,ai (Rp.int .i64) x2),(5,Pr.is v3)] [Own.vec v3 (Rp.int .i64) x5 3] e C) ?_ ?_
 ·rintro e C ⟨x5,v3,h,hat13⟩
  refine W_at hat13 ?_
  clear hat13
  unfold mw at h
  refine a4 ?_
  refine ba (fun e C=>∃(x13:Bool),iy x1 x2 x5 x13=some r/\At [(0,ai (Rp.int .i64) x1),(1,ai (Rp.int .i64) x2),(5,Pr.is v3),(28,Pr.bool x13)] [Own.vec v3 (Rp.int .i64) x5 3] e C) ?_ ?_
  ·rintro e C ⟨x13,h,hat12⟩
   refine W_at hat12 ?_
   clear hat12
   unfold iy at h
   refine al (b:=x13) rfl (fun hc14=> ?_) (fun hc14=> ?_)
   ·replace h:=iteT hc14 h
    refine W_rs ?_
    refine rq (out:=Pr.i64 0) ae ?_
    refine a4 ?_
    refine av ?_
    obtain⟨z5l,hz5,h⟩:=af h
    obtain⟨n5,hN5⟩:=bj hz5
    clear hz5
    refine ct 2 (fun e C=>∃(x15:Int),∃(x16:List Int),ref05_Match_k4 x1 x2 x15 x16=some r/\At [(0,ai (Rp.int .i64) x1),(1,ai (Rp.int .i64) x2),(5,Pr.is v3),(7,Pr.i64 x15)] [Own.vec v3 (Rp.int .i64) x16 3] e C) ?_ ?_
    ·rintro e C ⟨x15,x16,h,hat4⟩
     refine W_at hat4 ?_
     clear hat4
     unfold ref05_Match_k4 at h
     refine W_rs ?_
     refine rq (out:=Pr.i64 0) ae ?_
     refine a4 ?_
     refine av ?_
     obtain⟨z2l,hz2,h⟩:=af h
     obtain⟨n2,hN2⟩:=bj hz2
     clear hz2
     refine ct 4 (fun e C=>∃(x30:List Int),ref05_Match_k1 x30=some r/\At [(5,Pr.is v3)] [Own.vec v3 (Rp.int .i64) x30 3] e C) ?_ ?_
     ·rintro e C ⟨x30,h,hat1⟩
      refine W_at hat1 ?_
      clear hat1
      unfold ref05_Match_k1 at h
      refine W_rs ?_
      refine rq (out:=Pr.is v3) ag ?_
      refine rq (out:=Pr.is v3) ae ?_
      refine W_rel 0 [4] ?_ rfl ⟨rfl,trivial⟩
      obtain rfl:=Option.some.inj h
      exact a5 ⟨rfl,aa⟩
     refine dg (fun m e C=>∃(x29:Int),∃(x30:List Int),d4 (fun s=>ie x1 x15 x2 s.1 s.2) m (x29,x30)=some z2l/\At [(0,ai (Rp.int .i64) x1),(1,ai (Rp.int .i64) x2),(5,Pr.is v3),(7,Pr.i64 x15),(8,Pr.i64 x29)] [Own.vec v3 (Rp.int .i64) x30 3] e C) n2 ⟨0,x16,hN2,⟨⟨aa,aa,aa,aa,aa,trivial⟩,Pick.refl _⟩⟩ ?_
     clear hN2
     rintro m e C ⟨x29,x30,hN2,hatl2⟩
     refine W_at hatl2 ?_
     clear hatl2
     obtain⟨m2,w2l,rfl,h2l,hn2,ho2⟩:=bg hN2
     clear hN2
     replace h2l:ie x1 x15 x2 x29 x30=some w2l:=h2l
     unfold ie at h2l
     refine a4 ?_
     refine ba (fun e C=>∃(x40:Bool),jo x30 x1 x29 x2 x40=some w2l/\At [(0,ai (Rp.int .i64) x1),(1,ai (Rp.int .i64) x2),(5,Pr.is v3),(7,Pr.i64 x15),(8,Pr.i64 x29),(88,Pr.bool x40)] [Own.vec v3 (Rp.int .i64) x30 3] e C) ?_ ?_
     ·rintro e C ⟨x40,h2l,hat3⟩
      refine W_at hat3 ?_
      clear hat3
      unfold jo at h2l
      refine al (b:=x40) rfl (fun hc41=> ?_) (fun hc41=> ?_)
      ·replace h2l:=iteT hc41 h2l
       refine ar ?_
       refine av ?_
       refine W_rs ?_
       refine rq (out:=Pr.is v3) ag ?_
       refine rq (out:=ai (Rp.int .i64) x1) ag ?_
       refine rq (out:=Pr.i64 (x1.length:Int)) (dc rfl Tryz.underlying71) ?_
       refine rq (out:=Pr.i64 (w64 ((x1.length:Int) - 1))) qInt ?_
       refine rq (out:=Pr.i64 x29) ag ?_
       refine rq (out:=Pr.i64 (w64 ((w64 ((x1.length:Int) - 1)) - x29))) qInt ?_
       refine rq (out:=ai (Rp.int .i64) x2) ag ?_
       refine rq (out:=Pr.i64 (x2.length:Int)) (dc rfl Tryz.underlying71) ?_
       refine rq (out:=Pr.i64 (w64 ((x2.length:Int) - 1))) qInt ?_
       refine rq (out:=Pr.i64 x29) ag ?_
       refine rq (out:=Pr.i64 (w64 ((w64 ((x2.length:Int) - 1)) - x29))) qInt ?_
       obtain⟨x42,hx42,h2l⟩:=af h2l
       refine rq (out:=f7 v3 (Int.toNat (w64 ((w64 ((x1.length:Int) - 1)) - x29)) * (Rp.int .i64).size)) (nk 0 (R:=Rp.int .i64) (l:=x30) Tryz.underlying71 Tryz.sizeOf3 hx42) ?_
       refine om (R:=Rp.int .i64) (R':=Rp.int .i64) (l:=x30) (a:=x42) (y:=w64 ((w64 ((x2.length:Int) - 1)) - x29)) (o:=0) 0 Tryz.sizeOf3 (Upd.refl _) hx42 rfl ?_
       refine W_r ?_
       refine rq (out:=Pr.i64 x29) ag ?_
       refine rq (out:=Pr.i64 (w64 (x29+1))) qInt ?_
       refine rq (out:=Pr.i64 (w64 (x29+1))) ae ?_
       exact⟨m2,Nat.lt_succ_self _,w64 (x29+1),(List.set x30 (Int.toNat (w64 ((w64 ((x1.length:Int) - 1)) - x29))) (w64 ((w64 ((x2.length:Int) - 1)) - x29))),hn2 _ (Option.some.inj h2l).symm,⟨⟨aa,aa,aa,aa,aa,trivial⟩,Pick.refl _⟩⟩
      replace h2l:=iteF hc41 h2l
      refine cr ?_
      obtain rfl:=ho2 _ (Option.some.inj h2l).symm
      exact⟨x30,h,⟨⟨aa,trivial⟩,Pick.refl _⟩⟩
     refine eh 33 hmx (by kernel_rfl) (by kernel_rfl) ?_
     refine qq (out:=Pr.i64 x29) ag ?_
     refine qq (out:=ai (Rp.int .i64) x1) ag ?_
     refine qq (out:=Pr.i64 (x1.length:Int)) (dc rfl Tryz.underlying71) ?_
     refine qq (out:=Pr.i64 x15) ag ?_
     refine qq (out:=Pr.i64 (w64 ((x1.length:Int) - x15))) qInt ?_
     refine qq (out:=Pr.bool (decide (x29<(w64 ((x1.length:Int) - x15))))) qInt ?_
     refine qq (out:=Pr.bool (decide (x29<(w64 ((x1.length:Int) - x15))))) ag ?_
     rcases cc h2l with⟨hc33,h2l⟩|⟨hc33,h2l⟩
     ·refine qqg hc33 (out:=Pr.i64 x29) ag ?_
      refine qqg hc33 (out:=ai (Rp.int .i64) x2) ag ?_
      refine qqg hc33 (out:=Pr.i64 (x2.length:Int)) (dc rfl Tryz.underlying71) ?_
      refine qqg hc33 (out:=Pr.i64 x15) ag ?_
      refine qqg hc33 (out:=Pr.i64 (w64 ((x2.length:Int) - x15))) qInt ?_
      refine qqg hc33 (out:=Pr.bool (decide (x29<(w64 ((x2.length:Int) - x15))))) qInt ?_
      refine qq (out:=Pr.bool (decide (x29<(w64 ((x2.length:Int) - x15))))) (cj hc33) ?_
      refine qq (out:=Pr.bool (decide (x29<(w64 ((x2.length:Int) - x15))))) ag ?_
      rcases cc h2l with⟨hc34,h2l⟩|⟨hc34,h2l⟩
      ·refine qqg hc34 (out:=ai (Rp.int .i64) x1) ag ?_
       refine qqg hc34 (out:=ai (Rp.int .i64) x1) ag ?_
       refine qqg hc34 (out:=Pr.i64 (x1.length:Int)) (dc rfl Tryz.underlying71) ?_
       refine qqg hc34 (out:=Pr.i64 (w64 ((x1.length:Int) - 1))) qInt ?_
       refine qqg hc34 (out:=Pr.i64 x29) ag ?_
       refine qqg hc34 (out:=Pr.i64 (w64 ((w64 ((x1.length:Int) - 1)) - x29))) qInt ?_
       obtain⟨x35,hx35,h2l⟩:=af h2l
       refine qqg hc34 (out:=a8 (Rp.int .i64) x35) (c6 (R:=Rp.int .i64) (l:=x1) Tryz.underlying71 Tryz.sizeOf3 hx35) ?_
       refine qqg hc34 (out:=Pr.i64 x35) (bp (R:=Rp.int .i64) (a:=x35) ty3) ?_
       refine qqg hc34 (out:=ai (Rp.int .i64) x2) ag ?_
       refine qqg hc34 (out:=ai (Rp.int .i64) x2) ag ?_
       refine qqg hc34 (out:=Pr.i64 (x2.length:Int)) (dc rfl Tryz.underlying71) ?_
       refine qqg hc34 (out:=Pr.i64 (w64 ((x2.length:Int) - 1))) qInt ?_
       refine qqg hc34 (out:=Pr.i64 x29) ag ?_
       refine qqg hc34 (out:=Pr.i64 (w64 ((w64 ((x2.length:Int) - 1)) - x29))) qInt ?_
       obtain⟨x36,hx36,h2l⟩:=af h2l
       refine qqg hc34 (out:=a8 (Rp.int .i64) x36) (c6 (R:=Rp.int .i64) (l:=x2) Tryz.underlying71 Tryz.sizeOf3 hx36) ?_
       refine qqg hc34 (out:=Pr.i64 x36) (bp (R:=Rp.int .i64) (a:=x36) ty3) ?_
       refine qqg hc34 (out:=Pr.bool (x35==x36)) qInt ?_
       refine qq (out:=Pr.bool (x35==x36)) (cj hc34) ?_
       exact⟨x35==x36,h2l,⟨⟨aa,aa,aa,aa,aa,aa,trivial⟩,Pick.refl _⟩⟩
      refine qqno (neT hc34) ?_
      refine qqno (neT hc34) ?_
      refine qqno (neT hc34) ?_
      refine qqno (neT hc34) ?_
      refine qqno (neT hc34) ?_
      refine qqno (neT hc34) ?_
      refine qqno (neT hc34) ?_
      refine qqno (neT hc34) ?_
      refine qqno (neT hc34) ?_
      refine qqno (neT hc34) ?_
      refine qqno (neT hc34) ?_
      refine qqno (neT hc34) ?_
      refine qqno (neT hc34) ?_
      refine qqno (neT hc34) ?_
      refine qqno (neT hc34) ?_
      refine qqno (neT hc34) ?_
      refine qqno (neT hc34) ?_
      refine qq (out:=Pr.bool false) (bx hc34) ?_
      exact⟨false,h2l,⟨⟨aa,aa,aa,aa,aa,aa,trivial⟩,Pick.refl _⟩⟩
     refine qqno (neT hc33) ?_
     refine qqno (neT hc33) ?_
     refine qqno (neT hc33) ?_
     refine qqno (neT hc33) ?_
     refine qqno (neT hc33) ?_
     refine qqno (neT hc33) ?_
     refine qq (out:=Pr.bool false) (bx hc33) ?_
     refine qq (out:=Pr.bool false) ag ?_
     have hc37:false=false:=rfl
     refine qqno (neT hc37) ?_
     refine qqno (neT hc37) ?_
     refine qqno (neT hc37) ?_
     refine qqno (neT hc37) ?_
     refine qqno (neT hc37) ?_
     refine qqno (neT hc37) ?_
     refine qqno (neT hc37) ?_
     refine qqno (neT hc37) ?_
     refine qqno (neT hc37) ?_
     refine qqno (neT hc37) ?_
     refine qqno (neT hc37) ?_
     refine qqno (neT hc37) ?_
     refine qqno (neT hc37) ?_
     refine qqno (neT hc37) ?_
     refine qqno (neT hc37) ?_
     refine qqno (neT hc37) ?_
     refine qqno (neT hc37) ?_
     refine qq (out:=Pr.bool false) (bx hc37) ?_
     exact⟨false,h2l,⟨⟨aa,aa,aa,aa,aa,aa,trivial⟩,Pick.refl _⟩⟩
    refine dg (fun m e C=>∃(x15:Int),∃(x16:List Int),d4 (fun s=>lw x1 x2 s.1 s.2) m (x15,x16)=some z5l/\At [(0,ai (Rp.int .i64) x1),(1,ai (Rp.int .i64) x2),(5,Pr.is v3),(7,Pr.i64 x15)] [Own.vec v3 (Rp.int .i64) x16 3] e C) n5 ⟨0,x5,hN5,⟨⟨aa,aa,aa,aa,trivial⟩,Pick.refl _⟩⟩ ?_
    clear hN5
    rintro m e C ⟨x15,x16,hN5,hatl5⟩
    refine W_at hatl5 ?_
    clear hatl5
    obtain⟨m5,w5l,rfl,h5l,hn5,ho5⟩:=bg hN5
    clear hN5
    replace h5l:lw x1 x2 x15 x16=some w5l:=h5l
    unfold lw at h5l
    refine a4 ?_
    refine ba (fun e C=>∃(x26:Bool),lx x16 x15 x26=some w5l/\At [(0,ai (Rp.int .i64) x1),(1,ai (Rp.int .i64) x2),(5,Pr.is v3),(7,Pr.i64 x15),(49,Pr.bool x26)] [Own.vec v3 (Rp.int .i64) x16 3] e C) ?_ ?_
    ·rintro e C ⟨x26,h5l,hat6⟩
     refine W_at hat6 ?_
     clear hat6
     unfold lx at h5l
     refine al (b:=x26) rfl (fun hc27=> ?_) (fun hc27=> ?_)
     ·replace h5l:=iteT hc27 h5l
      refine ar ?_
      refine av ?_
      refine W_rs ?_
      refine rq (out:=Pr.is v3) ag ?_
      refine rq (out:=Pr.i64 x15) ag ?_
      refine rq (out:=Pr.i64 x15) ag ?_
      obtain⟨x28,hx28,h5l⟩:=af h5l
      refine rq (out:=f7 v3 (Int.toNat x15 * (Rp.int .i64).size)) (nk 0 (R:=Rp.int .i64) (l:=x16) Tryz.underlying71 Tryz.sizeOf3 hx28) ?_
      refine om (R:=Rp.int .i64) (R':=Rp.int .i64) (l:=x16) (a:=x28) (y:=x15) (o:=0) 0 Tryz.sizeOf3 (Upd.refl _) hx28 rfl ?_
      refine W_r ?_
      refine rq (out:=Pr.i64 x15) ag ?_
      refine rq (out:=Pr.i64 (w64 (x15+1))) qInt ?_
      refine rq (out:=Pr.i64 (w64 (x15+1))) ae ?_
      exact⟨m5,Nat.lt_succ_self _,w64 (x15+1),(List.set x16 (Int.toNat x15) x15),hn5 _ (Option.some.inj h5l).symm,⟨⟨aa,aa,aa,aa,trivial⟩,Pick.refl _⟩⟩
     replace h5l:=iteF hc27 h5l
     refine cr ?_
     obtain rfl:=ho5 _ (Option.some.inj h5l).symm
     exact⟨x15,x16,h,⟨⟨aa,aa,aa,aa,trivial⟩,Pick.refl _⟩⟩
    refine eh 21 hmx (by kernel_rfl) (by kernel_rfl) ?_
    refine qq (out:=Pr.i64 x15) ag ?_
    refine qq (out:=ai (Rp.int .i64) x1) ag ?_
    refine qq (out:=Pr.i64 (x1.length:Int)) (dc rfl Tryz.underlying71) ?_
    refine qq (out:=Pr.bool (decide (x15<(x1.length:Int)))) qInt ?_
    refine qq (out:=Pr.bool (decide (x15<(x1.length:Int)))) ag ?_
    rcases cc h5l with⟨hc19,h5l⟩|⟨hc19,h5l⟩
    ·refine qqg hc19 (out:=Pr.i64 x15) ag ?_
     refine qqg hc19 (out:=ai (Rp.int .i64) x2) ag ?_
     refine qqg hc19 (out:=Pr.i64 (x2.length:Int)) (dc rfl Tryz.underlying71) ?_
     refine qqg hc19 (out:=Pr.bool (decide (x15<(x2.length:Int)))) qInt ?_
     refine qq (out:=Pr.bool (decide (x15<(x2.length:Int)))) (cj hc19) ?_
     refine qq (out:=Pr.bool (decide (x15<(x2.length:Int)))) ag ?_
     rcases cc h5l with⟨hc20,h5l⟩|⟨hc20,h5l⟩
     ·refine qqg hc20 (out:=ai (Rp.int .i64) x1) ag ?_
      refine qqg hc20 (out:=Pr.i64 x15) ag ?_
      obtain⟨x21,hx21,h5l⟩:=af h5l
      refine qqg hc20 (out:=a8 (Rp.int .i64) x21) (c6 (R:=Rp.int .i64) (l:=x1) Tryz.underlying71 Tryz.sizeOf3 hx21) ?_
      refine qqg hc20 (out:=Pr.i64 x21) (bp (R:=Rp.int .i64) (a:=x21) ty3) ?_
      refine qqg hc20 (out:=ai (Rp.int .i64) x2) ag ?_
      refine qqg hc20 (out:=Pr.i64 x15) ag ?_
      obtain⟨x22,hx22,h5l⟩:=af h5l
      refine qqg hc20 (out:=a8 (Rp.int .i64) x22) (c6 (R:=Rp.int .i64) (l:=x2) Tryz.underlying71 Tryz.sizeOf3 hx22) ?_
      refine qqg hc20 (out:=Pr.i64 x22) (bp (R:=Rp.int .i64) (a:=x22) ty3) ?_
      refine qqg hc20 (out:=Pr.bool (x21==x22)) qInt ?_
      refine qq (out:=Pr.bool (x21==x22)) (cj hc20) ?_
      exact⟨x21==x22,h5l,⟨⟨aa,aa,aa,aa,aa,trivial⟩,Pick.refl _⟩⟩
     refine qqno (neT hc20) ?_
     refine qqno (neT hc20) ?_
     refine qqno (neT hc20) ?_
     refine qqno (neT hc20) ?_
     refine qqno (neT hc20) ?_
     refine qqno (neT hc20) ?_
     refine qqno (neT hc20) ?_
     refine qqno (neT hc20) ?_
     refine qqno (neT hc20) ?_
     refine qq (out:=Pr.bool false) (bx hc20) ?_
     exact⟨false,h5l,⟨⟨aa,aa,aa,aa,aa,trivial⟩,Pick.refl _⟩⟩
    refine qqno (neT hc19) ?_
    refine qqno (neT hc19) ?_
    refine qqno (neT hc19) ?_
    refine qqno (neT hc19) ?_
    refine qq (out:=Pr.bool false) (bx hc19) ?_
    refine qq (out:=Pr.bool false) ag ?_
    have hc23:false=false:=rfl
    refine qqno (neT hc23) ?_
    refine qqno (neT hc23) ?_
    refine qqno (neT hc23) ?_
    refine qqno (neT hc23) ?_
    refine qqno (neT hc23) ?_
    refine qqno (neT hc23) ?_
    refine qqno (neT hc23) ?_
    refine qqno (neT hc23) ?_
    refine qqno (neT hc23) ?_
    refine qq (out:=Pr.bool false) (bx hc23) ?_
    exact⟨false,h5l,⟨⟨aa,aa,aa,aa,aa,trivial⟩,Pick.refl _⟩⟩
   replace h:=iteF hc14 h
   refine ar ?_
   refine W_rs ?_
   refine rq (out:=ai (Rp.int .i64) x1) ag ?_
   refine rq (out:=ai (Rp.int .i64) x2) ag ?_
   obtain⟨x43,hx43,h⟩:=af h
   refine rq (out:=ai (ap (Rp.int .i64)) x43) (ax (ref05_table_ok x1 x2 _ hx43)) ?_
   refine rq (out:=ai (ap (Rp.int .i64)) x43) ae ?_
   refine W_rs ?_
   refine rq (out:=Pr.i64 0) ae ?_
   refine W_rs ?_
   refine rq (out:=Pr.i64 0) ae ?_
   refine a4 ?_
   refine av ?_
   obtain⟨z8l,hz8,h⟩:=af h
   obtain⟨n8,hN8⟩:=bj hz8
   clear hz8
   refine ct 6 (fun e C=>∃(x46:List Int),ref05_Match_k7 x46=some r/\At [(5,Pr.is v3)] [Own.vec v3 (Rp.int .i64) x46 3] e C) ?_ ?_
   ·rintro e C ⟨x46,h,hat7⟩
    refine W_at hat7 ?_
    clear hat7
    unfold ref05_Match_k7 at h
    refine W_rs ?_
    refine rq (out:=Pr.is v3) ag ?_
    refine rq (out:=Pr.is v3) ae ?_
    refine W_rel 0 [4] ?_ rfl ⟨rfl,trivial⟩
    obtain rfl:=Option.some.inj h
    exact a5 ⟨rfl,aa⟩
   refine dg (fun m e C=>∃(x44:Int),∃(x45:Int),∃(x46:List Int),d4 (fun s=>ref05_Match_l8 x1 x2 x43 s.1 s.2.1 s.2.2) m (x44,x45,x46)=some z8l/\At [(0,ai (Rp.int .i64) x1),(1,ai (Rp.int .i64) x2),(5,Pr.is v3),(9,ai (ap (Rp.int .i64)) x43),(10,Pr.i64 x44),(11,Pr.i64 x45)] [Own.vec v3 (Rp.int .i64) x46 3] e C) n8 ⟨0,0,x5,hN8,⟨⟨aa,aa,aa,aa,aa,aa,trivial⟩,Pick.refl _⟩⟩ ?_
   clear hN8
   rintro m e C ⟨x44,x45,x46,hN8,hatl8⟩
   refine W_at hatl8 ?_
   clear hatl8
   obtain⟨m8,w8l,rfl,h8l,hn8,ho8⟩:=bg hN8
   clear hN8
   replace h8l:ref05_Match_l8 x1 x2 x43 x44 x45 x46=some w8l:=h8l
   unfold ref05_Match_l8 at h8l
   refine a4 ?_
   refine ba (fun e C=>∃(x51:Bool),ref05_Match_j11 x1 x44 x2 x45 x46 x43 x51=some w8l/\At [(0,ai (Rp.int .i64) x1),(1,ai (Rp.int .i64) x2),(5,Pr.is v3),(9,ai (ap (Rp.int .i64)) x43),(10,Pr.i64 x44),(11,Pr.i64 x45),(116,Pr.bool x51)] [Own.vec v3 (Rp.int .i64) x46 3] e C) ?_ ?_
   ·rintro e C ⟨x51,h8l,hat11⟩
    refine W_at hat11 ?_
    clear hat11
    unfold ref05_Match_j11 at h8l
    refine al (b:=x51) rfl (fun hc52=> ?_) (fun hc52=> ?_)
    ·replace h8l:=iteT hc52 h8l
     refine ar ?_
     refine av ?_
     refine av ?_
     refine ba (fun e C=>∃(x53:Int),∃(x54:Int),ref05_Match_j10 x46 x44 x45 x43 x53 x54=some w8l/\At [(0,ai (Rp.int .i64) x1),(1,ai (Rp.int .i64) x2),(5,Pr.is v3),(9,ai (ap (Rp.int .i64)) x43),(10,Pr.i64 x44),(11,Pr.i64 x45),(119,Pr.bool (x53==x54))] [Own.vec v3 (Rp.int .i64) x46 3] e C) ?_ ?_
     ·rintro e C ⟨x53,x54,h8l,hat10⟩
      refine W_at hat10 ?_
      clear hat10
      unfold ref05_Match_j10 at h8l
      refine al (b:=x53==x54) rfl (fun hc55=> ?_) (fun hc55=> ?_)
      ·replace h8l:=iteT hc55 h8l
       refine W_rs ?_
       refine rq (out:=Pr.is v3) ag ?_
       refine rq (out:=Pr.i64 x44) ag ?_
       refine rq (out:=Pr.i64 x45) ag ?_
       obtain⟨x56,hx56,h8l⟩:=af h8l
       refine rq (out:=f7 v3 (Int.toNat x44 * (Rp.int .i64).size)) (nk 0 (R:=Rp.int .i64) (l:=x46) Tryz.underlying71 Tryz.sizeOf3 hx56) ?_
       refine om (R:=Rp.int .i64) (R':=Rp.int .i64) (l:=x46) (a:=x56) (y:=x45) (o:=0) 0 Tryz.sizeOf3 (Upd.refl _) hx56 rfl ?_
       refine W_rs ?_
       refine rq (out:=Pr.i64 x44) ag ?_
       refine rq (out:=Pr.i64 (w64 (x44+1))) qInt ?_
       refine rq (out:=Pr.i64 (w64 (x44+1))) ae ?_
       refine W_r ?_
       refine rq (out:=Pr.i64 x45) ag ?_
       refine rq (out:=Pr.i64 (w64 (x45+1))) qInt ?_
       refine rq (out:=Pr.i64 (w64 (x45+1))) ae ?_
       exact⟨m8,Nat.lt_succ_self _,w64 (x44+1),w64 (x45+1),(List.set x46 (Int.toNat x44) x45),hn8 _ (Option.some.inj h8l).symm,⟨⟨aa,aa,aa,aa,aa,aa,trivial⟩,Pick.refl _⟩⟩
      replace h8l:=iteF hc55 h8l
      refine ba (fun e C=>∃(x58:Int),∃(x60:Int),ref05_Match_j9 x44 x45 x46 x58 x60=some w8l/\At [(0,ai (Rp.int .i64) x1),(1,ai (Rp.int .i64) x2),(5,Pr.is v3),(9,ai (ap (Rp.int .i64)) x43),(10,Pr.i64 x44),(11,Pr.i64 x45),(137,Pr.bool (decide (x58≥x60)))] [Own.vec v3 (Rp.int .i64) x46 3] e C) ?_ ?_
      ·rintro e C ⟨x58,x60,h8l,hat9⟩
       refine W_at hat9 ?_
       clear hat9
       unfold ref05_Match_j9 at h8l
       refine al (b:=decide (x58≥x60)) rfl (fun hc61=> ?_) (fun hc61=> ?_)
       ·replace h8l:=iteT hc61 h8l
        refine W_r ?_
        refine rq (out:=Pr.i64 x44) ag ?_
        refine rq (out:=Pr.i64 (w64 (x44+1))) qInt ?_
        refine rq (out:=Pr.i64 (w64 (x44+1))) ae ?_
        exact⟨m8,Nat.lt_succ_self _,w64 (x44+1),x45,x46,hn8 _ (Option.some.inj h8l).symm,⟨⟨aa,aa,aa,aa,aa,aa,trivial⟩,Pick.refl _⟩⟩
       replace h8l:=iteF hc61 h8l
       refine W_r ?_
       refine rq (out:=Pr.i64 x45) ag ?_
       refine rq (out:=Pr.i64 (w64 (x45+1))) qInt ?_
       refine rq (out:=Pr.i64 (w64 (x45+1))) ae ?_
       exact⟨m8,Nat.lt_succ_self _,x44,w64 (x45+1),x46,hn8 _ (Option.some.inj h8l).symm,⟨⟨aa,aa,aa,aa,aa,aa,trivial⟩,Pick.refl _⟩⟩
      refine eh 18 hmx (by kernel_rfl) (by kernel_rfl) ?_
      refine qq (out:=ai (ap (Rp.int .i64)) x43) ag ?_
      refine qq (out:=Pr.i64 x44) ag ?_
      refine qq (out:=Pr.i64 (w64 (x44+1))) qInt ?_
      obtain⟨x57,hx57,h8l⟩:=af h8l
      refine qq (out:=a8 (ap (Rp.int .i64)) x57) (c6 (R:=ap (Rp.int .i64)) (l:=x43) Tryz.underlying67 Tryz.sizeOf71 hx57) ?_
      refine qq (out:=ai (Rp.int .i64) x57) (bp (R:=ap (Rp.int .i64)) (a:=x57) ty71) ?_
      refine qq (out:=Pr.i64 x45) ag ?_
      obtain⟨x58,hx58,h8l⟩:=af h8l
      refine qq (out:=a8 (Rp.int .i64) x58) (c6 (R:=Rp.int .i64) (l:=x57) Tryz.underlying71 Tryz.sizeOf3 hx58) ?_
      refine qq (out:=Pr.i64 x58) (bp (R:=Rp.int .i64) (a:=x58) ty3) ?_
      refine qq (out:=ai (ap (Rp.int .i64)) x43) ag ?_
      refine qq (out:=Pr.i64 x44) ag ?_
      obtain⟨x59,hx59,h8l⟩:=af h8l
      refine qq (out:=a8 (ap (Rp.int .i64)) x59) (c6 (R:=ap (Rp.int .i64)) (l:=x43) Tryz.underlying67 Tryz.sizeOf71 hx59) ?_
      refine qq (out:=ai (Rp.int .i64) x59) (bp (R:=ap (Rp.int .i64)) (a:=x59) ty71) ?_
      refine qq (out:=Pr.i64 x45) ag ?_
      refine qq (out:=Pr.i64 (w64 (x45+1))) qInt ?_
      obtain⟨x60,hx60,h8l⟩:=af h8l
      refine qq (out:=a8 (Rp.int .i64) x60) (c6 (R:=Rp.int .i64) (l:=x59) Tryz.underlying71 Tryz.sizeOf3 hx60) ?_
      refine qq (out:=Pr.i64 x60) (bp (R:=Rp.int .i64) (a:=x60) ty3) ?_
      refine qq (out:=Pr.bool (decide (x58≥x60))) qInt ?_
      refine qq (out:=Pr.bool (decide (x58≥x60))) ae ?_
      exact⟨x58,x60,h8l,⟨⟨aa,aa,aa,aa,aa,aa,aa,trivial⟩,Pick.refl _⟩⟩
     refine eh 10 hmx (by kernel_rfl) (by kernel_rfl) ?_
     refine qq (out:=ai (Rp.int .i64) x1) ag ?_
     refine qq (out:=Pr.i64 x44) ag ?_
     obtain⟨x53,hx53,h8l⟩:=af h8l
     refine qq (out:=a8 (Rp.int .i64) x53) (c6 (R:=Rp.int .i64) (l:=x1) Tryz.underlying71 Tryz.sizeOf3 hx53) ?_
     refine qq (out:=Pr.i64 x53) (bp (R:=Rp.int .i64) (a:=x53) ty3) ?_
     refine qq (out:=ai (Rp.int .i64) x2) ag ?_
     refine qq (out:=Pr.i64 x45) ag ?_
     obtain⟨x54,hx54,h8l⟩:=af h8l
     refine qq (out:=a8 (Rp.int .i64) x54) (c6 (R:=Rp.int .i64) (l:=x2) Tryz.underlying71 Tryz.sizeOf3 hx54) ?_
     refine qq (out:=Pr.i64 x54) (bp (R:=Rp.int .i64) (a:=x54) ty3) ?_
     refine qq (out:=Pr.bool (x53==x54)) qInt ?_
     refine qq (out:=Pr.bool (x53==x54)) ae ?_
     exact⟨x53,x54,h8l,⟨⟨aa,aa,aa,aa,aa,aa,aa,trivial⟩,Pick.refl _⟩⟩
    replace h8l:=iteF hc52 h8l
    refine cr ?_
    obtain rfl:=ho8 _ (Option.some.inj h8l).symm
    exact⟨x46,h,⟨⟨aa,trivial⟩,Pick.refl _⟩⟩
   refine W_r ?_
   refine rq (out:=Pr.i64 x44) ag ?_
   refine rq (out:=ai (Rp.int .i64) x1) ag ?_
   refine rq (out:=Pr.i64 (x1.length:Int)) (dc rfl Tryz.underlying71) ?_
   refine rq (out:=Pr.bool (decide (x44<(x1.length:Int)))) qInt ?_
   refine rq (out:=Pr.bool (decide (x44<(x1.length:Int)))) ag ?_
   rcases cc h8l with⟨hc50,h8l⟩|⟨hc50,h8l⟩
   ·refine rqg hc50 (out:=Pr.i64 x45) ag ?_
    refine rqg hc50 (out:=ai (Rp.int .i64) x2) ag ?_
    refine rqg hc50 (out:=Pr.i64 (x2.length:Int)) (dc rfl Tryz.underlying71) ?_
    refine rqg hc50 (out:=Pr.bool (decide (x45<(x2.length:Int)))) qInt ?_
    refine rq (out:=Pr.bool (decide (x45<(x2.length:Int)))) (cj hc50) ?_
    exact⟨decide (x45<(x2.length:Int)),h8l,⟨⟨aa,aa,aa,aa,aa,aa,aa,trivial⟩,Pick.refl _⟩⟩
   refine rno (neT hc50) ?_
   refine rno (neT hc50) ?_
   refine rno (neT hc50) ?_
   refine rno (neT hc50) ?_
   refine rq (out:=Pr.bool false) (bx hc50) ?_
   exact⟨false,h8l,⟨⟨aa,aa,aa,aa,aa,aa,aa,trivial⟩,Pick.refl _⟩⟩
  refine W_r ?_
  refine rq (out:=ai (Rp.int .i64) x1) ag ?_
  refine rq (out:=Pr.i64 (x1.length:Int)) (dc rfl Tryz.underlying71) ?_
  refine rq (out:=Pr.bool (decide ((x1.length:Int)>2000))) qInt ?_
  refine rq (out:=Pr.bool (decide ((x1.length:Int)>2000))) ag ?_
  rcases cc h with⟨hc12,h⟩|⟨hc12,h⟩
  ·refine rno (neF hc12) ?_
   refine rno (neF hc12) ?_
   refine rno (neF hc12) ?_
   refine rq (out:=Pr.bool true) (cj hc12) ?_
   exact⟨true,h,⟨⟨aa,aa,aa,aa,trivial⟩,Pick.refl _⟩⟩
  refine rqg hc12 (out:=ai (Rp.int .i64) x2) ag ?_
  refine rqg hc12 (out:=Pr.i64 (x2.length:Int)) (dc rfl Tryz.underlying71) ?_
  refine rqg hc12 (out:=Pr.bool (decide ((x2.length:Int)>2000))) qInt ?_
  refine rq (out:=Pr.bool (decide ((x2.length:Int)>2000))) (bx hc12) ?_
  exact⟨decide ((x2.length:Int)>2000),h,⟨⟨aa,aa,aa,aa,trivial⟩,Pick.refl _⟩⟩
 refine W_nil [5] (Rp.int .i64) 3 (fun v62=> ?_) ⟨rfl,trivial⟩
 refine dg (fun m e C=>∃(x4:Int),∃(x5:List Int),∃(v3:Value),d4 (fun s=>fi x1 s.1 s.2) m (x4,x5)=some z14l/\At [(0,ai (Rp.int .i64) x1),(1,ai (Rp.int .i64) x2),(5,Pr.is v3),(6,Pr.i64 x4)] [Own.vec v3 (Rp.int .i64) x5 3] e C) n14 ⟨0,[],v62,hN14,⟨⟨aa,aa,aa,aa,trivial⟩,Pick.refl _⟩⟩ ?_
 clear hN14
 rintro m e C ⟨x4,x5,v3,hN14,hatl14⟩
 refine W_at hatl14 ?_
 clear hatl14
 obtain⟨m14,w14l,rfl,h14l,hn14,ho14⟩:=bg hN14
 clear hN14
 replace h14l:fi x1 x4 x5=some w14l:=h14l
 unfold fi at h14l
 refine a4 ?_
 refine W_rs ?_
 refine rq (out:=Pr.i64 x4) ag ?_
 refine rq (out:=ai (Rp.int .i64) x1) ag ?_
 refine rq (out:=Pr.i64 (x1.length:Int)) (dc rfl Tryz.underlying71) ?_
 refine rq (out:=Pr.bool (decide (x4<(x1.length:Int)))) qInt ?_
 refine al (b:=decide (x4<(x1.length:Int))) rfl (fun hc9=> ?_) (fun hc9=> ?_)
 ·replace h14l:=iteT hc9 h14l
  refine ar ?_
  refine a4 ?_
  refine av ?_
  refine W_r ?_
  refine rq (out:=Pr.is v3) ag ?_
  refine rq (out:=ai (Rp.int .i64) ([(-1)]:List Int)) (cf (R:=Rp.int .i64) (a:=(-1)) el71 (Nat.le_of_ble_eq_true rfl)) ?_
  obtain⟨x10,hx10,h14l⟩:=af h14l
  refine f3 0 el71 hx10 (fun v11=> ?_)
  refine rq (out:=Pr.is v11) ae ?_
  refine W_r ?_
  refine rq (out:=Pr.i64 x4) ag ?_
  refine rq (out:=Pr.i64 (w64 (x4+1))) qInt ?_
  refine rq (out:=Pr.i64 (w64 (x4+1))) ae ?_
  exact⟨m14,Nat.lt_succ_self _,w64 (x4+1),x10,v11,hn14 _ (Option.some.inj h14l).symm,⟨⟨aa,aa,aa,aa,trivial⟩,Pick.refl _⟩⟩
 replace h14l:=iteF hc9 h14l
 refine cr ?_
 obtain rfl:=ho14 _ (Option.some.inj h14l).symm
 exact⟨x5,v3,h,⟨⟨aa,aa,aa,trivial⟩,Pick.refl _⟩⟩
theorem ref05_Length_ok (x1 x2:List Int) (r:Int) (h:ref05_Length x1 x2=some r):FnP Tryz.prog 70 [ai (Rp.int .i64) x1,ai (Rp.int .i64) x2] (Pr.i64 r):=by
 refine bd (n:=25) (rs:=[4]) Tryz.func70 rfl Tryz.ntmps70 ⟨by decide,Tryz.results70⟩ (by decide) (fun s0=> ?_)
 unfold ref05_Length at h
 refine W_rs ?_
 refine rq (out:=Pr.i64 0) ae ?_
 refine W_rs ?_
 refine rq (out:=ai (Rp.int .i64) x1) ag ?_
 refine rq (out:=ai (Rp.int .i64) x2) ag ?_
 obtain⟨x3,hx3,h⟩:=af h
 refine rq (out:=ai (Rp.int .i64) x3) (ax (ref05_Match_ok x1 x2 _ hx3)) ?_
 refine rq (out:=ai (Rp.int .i64) x3) ae ?_
 refine W_rs ?_
 refine rq (out:=Pr.i64 0) ae ?_
 refine a4 ?_
 refine W_rs ?_
 refine rq (out:=Pr.i64 0) ae ?_
 refine av ?_
 obtain⟨z2l,hz2,h⟩:=af h
 obtain⟨n2,hN2⟩:=bj hz2
 clear hz2
 refine ct 0 (fun e C=>∃(x4:Int),ref05_Length_k1 x4=some r/\At [(6,Pr.i64 x4)] [] e C) ?_ ?_
 ·rintro e C ⟨x4,h,hat1⟩
  refine W_at hat1 ?_
  clear hat1
  unfold ref05_Length_k1 at h
  refine W_rs ?_
  refine rq (out:=Pr.i64 x4) ag ?_
  refine rq (out:=Pr.i64 x4) ae ?_
  obtain rfl:=Option.some.inj h
  exact a5 ⟨rfl,aa⟩
 refine dg (fun m e C=>∃(x4:Int),∃(x5:Int),d4 (fun s=>gf x3 s.1 s.2) m (x4,x5)=some z2l/\At [(5,ai (Rp.int .i64) x3),(6,Pr.i64 x4),(7,Pr.i64 x5)] [] e C) n2 ⟨0,0,hN2,⟨⟨aa,aa,aa,trivial⟩,Pick.refl _⟩⟩ ?_
 clear hN2
 rintro m e C ⟨x4,x5,hN2,hatl2⟩
 refine W_at hatl2 ?_
 clear hatl2
 obtain⟨m2,w2l,rfl,h2l,hn2,ho2⟩:=bg hN2
 clear hN2
 replace h2l:gf x3 x4 x5=some w2l:=h2l
 unfold gf at h2l
 refine a4 ?_
 refine W_rs ?_
 refine rq (out:=Pr.i64 x5) ag ?_
 refine rq (out:=ai (Rp.int .i64) x3) ag ?_
 refine rq (out:=Pr.i64 (x3.length:Int)) (dc rfl Tryz.underlying71) ?_
 refine rq (out:=Pr.bool (decide (x5<(x3.length:Int)))) qInt ?_
 refine al (b:=decide (x5<(x3.length:Int))) rfl (fun hc8=> ?_) (fun hc8=> ?_)
 ·replace h2l:=iteT hc8 h2l
  refine ar ?_
  refine ba (fun e C=>∃(x11:Int),mx x5 x11=some w2l/\At [(5,ai (Rp.int .i64) x3),(6,Pr.i64 x11),(7,Pr.i64 x5)] [] e C) ?_ ?_
  ·rintro e C ⟨x11,h2l,hat3⟩
   refine W_at hat3 ?_
   clear hat3
   unfold mx at h2l
   refine W_r ?_
   refine rq (out:=Pr.i64 x5) ag ?_
   refine rq (out:=Pr.i64 (w64 (x5+1))) qInt ?_
   refine rq (out:=Pr.i64 (w64 (x5+1))) ae ?_
   exact⟨m2,Nat.lt_succ_self _,x11,w64 (x5+1),hn2 _ (Option.some.inj h2l).symm,⟨⟨aa,aa,aa,trivial⟩,Pick.refl _⟩⟩
  refine av ?_
  refine W_rs ?_
  refine rq (out:=ai (Rp.int .i64) x3) ag ?_
  refine rq (out:=Pr.i64 x5) ag ?_
  obtain⟨x9,hx9,h2l⟩:=af h2l
  refine rq (out:=a8 (Rp.int .i64) x9) (c6 (R:=Rp.int .i64) (l:=x3) Tryz.underlying71 Tryz.sizeOf3 hx9) ?_
  refine rq (out:=Pr.i64 x9) (bp (R:=Rp.int .i64) (a:=x9) ty3) ?_
  refine rq (out:=Pr.bool (decide (x9≥0))) qInt ?_
  refine al (b:=decide (x9≥0)) rfl (fun hc10=> ?_) (fun hc10=> ?_)
  ·replace h2l:=iteT hc10 h2l
   refine W_r ?_
   refine rq (out:=Pr.i64 x4) ag ?_
   refine rq (out:=Pr.i64 (w64 (x4+1))) qInt ?_
   refine rq (out:=Pr.i64 (w64 (x4+1))) ae ?_
   exact⟨w64 (x4+1),h2l,⟨⟨aa,aa,aa,trivial⟩,Pick.refl _⟩⟩
  replace h2l:=iteF hc10 h2l
  refine ar ?_
  exact⟨x4,h2l,⟨⟨aa,aa,aa,trivial⟩,Pick.refl _⟩⟩
 replace h2l:=iteF hc8 h2l
 refine cr ?_
 obtain rfl:=ho2 _ (Option.some.inj h2l).symm
 exact⟨x4,h,⟨⟨aa,trivial⟩,Pick.refl _⟩⟩
theorem ref05_Percent_ok (x1 x2:List Int) (r:Int) (h:nd x1 x2=some r):FnP Tryz.prog 46 [ai (Rp.int .i64) x1,ai (Rp.int .i64) x2] (Pr.i64 r):=by
 refine bd (n:=21) (rs:=[4]) Tryz.func46 rfl Tryz.ntmps46 ⟨by decide,Tryz.results46⟩ (by decide) (fun s0=> ?_)
 unfold nd at h
 refine W_rs ?_
 refine rq (out:=Pr.i64 0) ae ?_
 refine a4 ?_
 refine W_rs ?_
 refine rq (out:=ai (Rp.int .i64) x1) ag ?_
 refine rq (out:=Pr.i64 (x1.length:Int)) (dc rfl Tryz.underlying71) ?_
 refine rq (out:=ai (Rp.int .i64) x2) ag ?_
 refine rq (out:=Pr.i64 (x2.length:Int)) (dc rfl Tryz.underlying71) ?_
 refine rq (out:=Pr.i64 (w64 ((x1.length:Int)+(x2.length:Int)))) qInt ?_
 refine rq (out:=Pr.bool ((w64 ((x1.length:Int)+(x2.length:Int)))==0)) qInt ?_
 refine al (b:=(w64 ((x1.length:Int)+(x2.length:Int)))==0) rfl (fun hc3=> ?_) (fun hc3=> ?_)
 ·replace h:=iteT hc3 h
  refine W_rs ?_
  refine rq (out:=Pr.i64 100) ae ?_
  obtain rfl:=Option.some.inj h
  exact a5 ⟨rfl,aa⟩
 replace h:=iteF hc3 h
 refine ar ?_
 refine W_rs ?_
 refine rq (out:=ai (Rp.int .i64) x1) ag ?_
 refine rq (out:=ai (Rp.int .i64) x2) ag ?_
 obtain⟨x4,hx4,h⟩:=af h
 refine rq (out:=Pr.i64 x4) (ax (ref05_Length_ok x1 x2 _ hx4)) ?_
 refine rq (out:=Pr.i64 (w64 (200 * x4))) qInt ?_
 refine rq (out:=ai (Rp.int .i64) x1) ag ?_
 refine rq (out:=Pr.i64 (x1.length:Int)) (dc rfl Tryz.underlying71) ?_
 refine rq (out:=ai (Rp.int .i64) x2) ag ?_
 refine rq (out:=Pr.i64 (x2.length:Int)) (dc rfl Tryz.underlying71) ?_
 refine rq (out:=Pr.i64 (w64 ((x1.length:Int)+(x2.length:Int)))) qInt ?_
 obtain⟨_,hx5,h⟩:=af h
 refine rq (out:=Pr.i64 (w64 (Int.tdiv (w64 (200 * x4)) (w64 ((x1.length:Int)+(x2.length:Int)))))) (qDiv (nz_some hx5)) ?_
 refine rq (out:=Pr.i64 (w64 (Int.tdiv (w64 (200 * x4)) (w64 ((x1.length:Int)+(x2.length:Int)))))) ae ?_
 obtain rfl:=Option.some.inj h
 exact a5 ⟨rfl,aa⟩
end Go.Proofs.YtgkcoicaopilhaaGreatDoor
