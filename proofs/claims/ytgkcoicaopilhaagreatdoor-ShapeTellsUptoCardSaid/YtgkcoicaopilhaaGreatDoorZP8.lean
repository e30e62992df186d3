/- The code comes to what these functions say (printed by wip/gen/gen.py). -/
import Derived.Test.YtgkcoicaopilhaaGreatDoorZP7
import Derived.Test.YtgkcoicaopilhaaGreatDoorZT
set_option linter.unusedSimpArgs false
set_option linter.unusedVariables false
set_option linter.unusedSectionVars false
set_option linter.unusedSectionVars false
set_option maxRecDepth 100000
set_option maxHeartbeats 4000000
namespace Go.Proofs.YtgkcoicaopilhaaGreatDoor
open Go Go.Cn
theorem ref13_Member_ok (x1:ApiNode) (r:(List UInt8)) (h:jc x1=some r):FnP Tryz.prog 32 [(ab).val x1] (ah r):=by
 refine ba (n:=67) (rs:=[2]) Tryz.func32 rfl Tryz.ntmps32 ⟨by decide,Tryz.results32⟩ (by decide) (fun s0=> ?_)
 unfold jc at h
 refine W_rs ?_
 refine rBox (R:=ab) (a:=x1) rfl (fun b2=> ?_)
 refine rq (out:=ah []) ae ?_
 refine W_rs ?_
 refine rq (out:=ah ([32,32]:List UInt8)) ae ?_
 refine a8 (fun e C=>∃(x5:List UInt8),i2 x1 x5=some r/\At [(1,ao b2 0),(3,ah x5)] [Own.box b2 ab x1] e C) ?_ ?_
 ·rintro e C ⟨x5,h,hat4⟩
  refine W_at hat4 ?_
  clear hat4
  unfold i2 at h
  refine W_rs ?_
  refine rq (out:=ah x5) ag ?_
  refine rq (out:=ao b2 2) (aq kf) ?_
  refine rq (out:=ah x1.Type_) (aw (R:=ab) (a:=x1) (R':=ak) 0 ty9 dk) ?_
  obtain⟨x6,hx6,h⟩:=af h
  refine rq (out:=ah x6) (cf hx6) ?_
  obtain⟨x7,hx7,h⟩:=af h
  refine rq (out:=ah x7) (cf hx7) ?_
  refine rq (out:=ao b2 1) (aq eb) ?_
  refine rq (out:=ah x1.Text) (aw (R:=ab) (a:=x1) (R':=ak) 0 ty9 bn) ?_
  obtain⟨x8,hx8,h⟩:=af h
  refine rq (out:=ah x8) (cf hx8) ?_
  refine rq (out:=ah x8) ae ?_
  refine a6 ?_
  refine W_rs ?_
  refine rq (out:=ao b2 0) (aq ff) ?_
  refine rq (out:=Pr.i64 x1.Kind) (aw (R:=ab) (a:=x1) (R':=Rp.int .i64) 0 ty3 bp) ?_
  refine rq (out:=Pr.bool (x1.Kind==2)) qInt ?_
  refine am (b:=x1.Kind==2) rfl (fun hc9=> ?_) (fun hc9=> ?_)
  ·replace h:=iteT hc9 h
   refine W_rs ?_
   refine rq (out:=ah x8) ag ?_
   obtain⟨x10,hx10,h⟩:=af h
   refine rq (out:=ah x10) (cf hx10) ?_
   refine rq (out:=ah x10) ae ?_
   obtain rfl:=Option.some.inj h
   exact a4 ⟨rfl,aa⟩
  replace h:=iteF hc9 h
  refine au ?_
  refine a6 ?_
  refine W_rs ?_
  refine rq (out:=ao b2 0) (aq ff) ?_
  refine rq (out:=Pr.i64 x1.Kind) (aw (R:=ab) (a:=x1) (R':=Rp.int .i64) 0 ty3 bp) ?_
  refine rq (out:=Pr.bool (x1.Kind != 3)) qInt ?_
  refine am (b:=x1.Kind != 3) rfl (fun hc11=> ?_) (fun hc11=> ?_)
  ·replace h:=iteT hc11 h
   refine W_rs ?_
   refine rq (out:=ah []) ae ?_
   obtain rfl:=Option.some.inj h
   exact a4 ⟨rfl,aa⟩
  replace h:=iteF hc11 h
  refine au ?_
  refine W_rs ?_
  refine rq (out:=ah x8) ag ?_
  obtain⟨x12,hx12,h⟩:=af h
  refine rq (out:=ah x12) (cf hx12) ?_
  refine rq (out:=ah x12) ae ?_
  refine a6 ?_
  refine W_rs ?_
  refine rq (out:=Pr.i64 0) ae ?_
  refine a5 ?_
  obtain⟨z2l,hz2,h⟩:=af h
  obtain⟨n2,hN2⟩:=bo hz2
  clear hz2
  refine c6 0 (fun e C=>∃(x13:List UInt8),ref13_Member_k1 x1 x13=some r/\At [(1,ao b2 0),(3,ah x13)] [Own.box b2 ab x1] e C) ?_ ?_
  ·rintro e C ⟨x13,h,hat1⟩
   refine W_at hat1 ?_
   clear hat1
   unfold ref13_Member_k1 at h
   refine W_rs ?_
   refine rq (out:=ah x13) ag ?_
   obtain⟨x26,hx26,h⟩:=af h
   refine rq (out:=ah x26) (cf hx26) ?_
   refine rq (out:=(ab).val x1) (aw (R:=ab) (a:=x1) (R':=ab) 0 ty24 (Sub.refl _)) ?_
   refine rq (out:=ao b2 8) (aq cp) ?_
   refine rq (out:=aj ab x1.Kids) (aw (R:=ab) (a:=x1) (R':=ax ab) 0 ty22 ar) ?_
   refine rq (out:=Pr.i64 (x1.Kids.length:Int)) (dz rfl Tryz.underlying22) ?_
   refine rq (out:=Pr.i64 (w64 ((x1.Kids.length:Int) - 1))) qInt ?_
   refine rq (out:=Pr.i64 (if(w64 ((x1.Kids.length:Int) - 1))>0 then(w64 ((x1.Kids.length:Int) - 1))else 0)) (qMax (a:=0) (b:=w64 ((x1.Kids.length:Int) - 1))) ?_
   obtain⟨x27,hx27,h⟩:=af h
   refine rq (out:=ah x27) (av (ref13_belongs_ok x1 (if(w64 ((x1.Kids.length:Int) - 1))>0 then(w64 ((x1.Kids.length:Int) - 1))else 0) ([32,32]:List UInt8) _ hx27)) ?_
   obtain⟨x28,hx28,h⟩:=af h
   refine rq (out:=ah x28) (cf hx28) ?_
   obtain⟨x29,hx29,h⟩:=af h
   refine rq (out:=ah x29) (cf hx29) ?_
   refine rq (out:=ah x29) ae ?_
   obtain rfl:=Option.some.inj h
   exact a4 ⟨rfl,aa⟩
  refine dp (fun m e C=>∃(x13:List UInt8),∃(x14:Int),d9 (fun s=>fv x1 s.1 s.2) m (x13,x14)=some z2l/\At [(1,ao b2 0),(3,ah x13),(4,Pr.i64 x14)] [Own.box b2 ab x1] e C) n2 ⟨x12,0,hN2,⟨⟨aa,aa,aa,trivial⟩,Pick.refl _⟩⟩ ?_
  clear hN2
  rintro m e C ⟨x13,x14,hN2,hatl2⟩
  refine W_at hatl2 ?_
  clear hatl2
  obtain⟨m2,w2l,rfl,h2l,hn2,ho2⟩:=bg hN2
  clear hN2
  replace h2l:fv x1 x13 x14=some w2l:=h2l
  unfold fv at h2l
  refine a6 ?_
  refine W_rs ?_
  refine rq (out:=Pr.i64 x14) ag ?_
  refine rq (out:=Pr.i64 (w64 (x14+1))) qInt ?_
  refine rq (out:=ao b2 8) (aq cp) ?_
  refine rq (out:=aj ab x1.Kids) (aw (R:=ab) (a:=x1) (R':=ax ab) 0 ty22 ar) ?_
  refine rq (out:=Pr.i64 (x1.Kids.length:Int)) (dz rfl Tryz.underlying22) ?_
  refine rq (out:=Pr.bool (decide ((w64 (x14+1))<(x1.Kids.length:Int)))) qInt ?_
  refine am (b:=decide ((w64 (x14+1))<(x1.Kids.length:Int))) rfl (fun hc17=> ?_) (fun hc17=> ?_)
  ·replace h2l:=iteT hc17 h2l
   refine au ?_
   refine a6 ?_
   refine a5 ?_
   refine a8 (fun e C=>∃(x20:List UInt8),km x1 x14 x20=some w2l/\At [(1,ao b2 0),(3,ah x20),(4,Pr.i64 x14)] [Own.box b2 ab x1] e C) ?_ ?_
   ·rintro e C ⟨x20,h2l,hat3⟩
    refine W_at hat3 ?_
    clear hat3
    unfold km at h2l
    refine fa 17 hmx (by kernel_rfl) (by kernel_rfl) ?_
    refine qq (out:=ah x20) ag ?_
    refine qq (out:=ao b2 8) (aq cp) ?_
    refine qq (out:=aj ab x1.Kids) (aw (R:=ab) (a:=x1) (R':=ax ab) 0 ty22 ar) ?_
    refine qq (out:=Pr.i64 x14) ag ?_
    obtain⟨x21,hx21,h2l⟩:=af h2l
    refine qq (out:=bb ab x21) (dl (R:=ab) (l:=x1.Kids) Tryz.underlying22 Tryz.sizeOf24 hx21) ?_
    refine qq (out:=bb ak x21.Type_) (ea (R:=ab) (a:=x21) kf dk) ?_
    refine qq (out:=ah x21.Type_) (cd (R:=ak) (a:=x21.Type_) ty9) ?_
    obtain⟨x22,hx22,h2l⟩:=af h2l
    refine qq (out:=ah x22) (cf hx22) ?_
    obtain⟨x23,hx23,h2l⟩:=af h2l
    refine qq (out:=ah x23) (cf hx23) ?_
    refine qq (out:=ao b2 8) (aq cp) ?_
    refine qq (out:=aj ab x1.Kids) (aw (R:=ab) (a:=x1) (R':=ax ab) 0 ty22 ar) ?_
    refine qq (out:=Pr.i64 x14) ag ?_
    obtain⟨x24,hx24,h2l⟩:=af h2l
    refine qq (out:=bb ab x24) (dl (R:=ab) (l:=x1.Kids) Tryz.underlying22 Tryz.sizeOf24 hx24) ?_
    refine qq (out:=bb ak x24.Text) (ea (R:=ab) (a:=x24) eb bn) ?_
    refine qq (out:=ah x24.Text) (cd (R:=ak) (a:=x24.Text) ty9) ?_
    obtain⟨x25,hx25,h2l⟩:=af h2l
    refine qq (out:=ah x25) (cf hx25) ?_
    refine qq (out:=ah x25) ae ?_
    refine W_r ?_
    refine rq (out:=Pr.i64 x14) ag ?_
    refine rq (out:=Pr.i64 (w64 (x14+1))) qInt ?_
    refine rq (out:=Pr.i64 (w64 (x14+1))) ae ?_
    exact⟨m2,Nat.lt_succ_self _,x25,w64 (x14+1),hn2 _ (Option.some.inj h2l).symm,⟨⟨aa,aa,aa,trivial⟩,Pick.refl _⟩⟩
   refine W_rs ?_
   refine rq (out:=Pr.i64 x14) ag ?_
   refine rq (out:=Pr.bool (decide (x14>0))) qInt ?_
   refine am (b:=decide (x14>0)) rfl (fun hc18=> ?_) (fun hc18=> ?_)
   ·replace h2l:=iteT hc18 h2l
    refine W_r ?_
    refine rq (out:=ah x13) ag ?_
    obtain⟨x19,hx19,h2l⟩:=af h2l
    refine rq (out:=ah x19) (cf hx19) ?_
    refine rq (out:=ah x19) ae ?_
    exact⟨x19,h2l,⟨⟨aa,aa,aa,trivial⟩,Pick.refl _⟩⟩
   replace h2l:=iteF hc18 h2l
   refine au ?_
   exact⟨x13,h2l,⟨⟨aa,aa,aa,trivial⟩,Pick.refl _⟩⟩
  replace h2l:=iteF hc17 h2l
  refine cy ?_
  obtain rfl:=ho2 _ (Option.some.inj h2l).symm
  exact⟨x13,h,⟨⟨aa,aa,trivial⟩,Pick.refl _⟩⟩
 refine W_rs ?_
 refine rq (out:=ao b2 3) (aq fld24_3) ?_
 refine rq (out:=Pr.i64 x1.N) (aw (R:=ab) (a:=x1) (R':=Rp.int .i64) 0 ty2 ft) ?_
 refine rq (out:=Pr.bool (x1.N==1)) qInt ?_
 refine am (b:=x1.N==1) rfl (fun hc3=> ?_) (fun hc3=> ?_)
 ·replace h:=iteT hc3 h
  refine W_r ?_
  refine rq (out:=ah ([32,32]:List UInt8)) ag ?_
  obtain⟨x4,hx4,h⟩:=af h
  refine rq (out:=ah x4) (cf hx4) ?_
  refine rq (out:=ah x4) ae ?_
  exact⟨x4,h,⟨⟨aa,aa,trivial⟩,Pick.refl _⟩⟩
 replace h:=iteF hc3 h
 refine au ?_
 exact⟨([32,32]:List UInt8),h,⟨⟨aa,aa,trivial⟩,Pick.refl _⟩⟩
theorem ref13_Class_ok (x1:ApiNode) (r:(List UInt8)) (h:ref13_Class x1=some r):FnP Tryz.prog 31 [(ab).val x1] (ah r):=by
 refine ba (n:=35) (rs:=[2]) Tryz.func31 rfl Tryz.ntmps31 ⟨by decide,Tryz.results31⟩ (by decide) (fun s0=> ?_)
 unfold ref13_Class at h
 refine W_rs ?_
 refine rBox (R:=ab) (a:=x1) rfl (fun b2=> ?_)
 refine rq (out:=ah []) ae ?_
 refine W_rs ?_
 refine rq (out:=ao b2 1) (aq eb) ?_
 refine rq (out:=ah x1.Text) (aw (R:=ab) (a:=x1) (R':=ak) 0 ty9 bn) ?_
 obtain⟨x3,hx3,h⟩:=af h
 refine rq (out:=ah x3) (cf hx3) ?_
 refine rq (out:=ah x3) ae ?_
 refine a8 (fun e C=>∃(x7:List UInt8),jr x1 x7=some r/\At [(1,ao b2 0),(3,ah x7)] [Own.box b2 ab x1] e C) ?_ ?_
 ·rintro e C ⟨x7,h,hat3⟩
  refine W_at hat3 ?_
  clear hat3
  unfold jr at h
  refine W_rs ?_
  refine rq (out:=ah x7) ag ?_
  obtain⟨x8,hx8,h⟩:=af h
  refine rq (out:=ah x8) (cf hx8) ?_
  refine rq (out:=ah x8) ae ?_
  refine a6 ?_
  refine W_rs ?_
  refine rq (out:=Pr.i64 0) ae ?_
  refine a5 ?_
  obtain⟨z2l,hz2,h⟩:=af h
  obtain⟨n2,hN2⟩:=bo hz2
  clear hz2
  refine c6 0 (fun e C=>∃(x9:List UInt8),ref13_Class_k1 x9=some r/\At [(3,ah x9)] [Own.box b2 ab x1] e C) ?_ ?_
  ·rintro e C ⟨x9,h,hat1⟩
   refine W_at hat1 ?_
   clear hat1
   unfold ref13_Class_k1 at h
   refine W_rs ?_
   refine rq (out:=ah x9) ag ?_
   obtain⟨x17,hx17,h⟩:=af h
   refine rq (out:=ah x17) (cf hx17) ?_
   refine rq (out:=ah x17) ae ?_
   obtain rfl:=Option.some.inj h
   exact a4 ⟨rfl,aa⟩
  refine dp (fun m e C=>∃(x9:List UInt8),∃(x10:Int),d9 (fun s=>gb x1 s.1 s.2) m (x9,x10)=some z2l/\At [(1,ao b2 0),(3,ah x9),(4,Pr.i64 x10)] [Own.box b2 ab x1] e C) n2 ⟨x8,0,hN2,⟨⟨aa,aa,aa,trivial⟩,Pick.refl _⟩⟩ ?_
  clear hN2
  rintro m e C ⟨x9,x10,hN2,hatl2⟩
  refine W_at hatl2 ?_
  clear hatl2
  obtain⟨m2,w2l,rfl,h2l,hn2,ho2⟩:=bg hN2
  clear hN2
  replace h2l:gb x1 x9 x10=some w2l:=h2l
  unfold gb at h2l
  refine a6 ?_
  refine W_rs ?_
  refine rq (out:=Pr.i64 x10) ag ?_
  refine rq (out:=ao b2 8) (aq cp) ?_
  refine rq (out:=aj ab x1.Kids) (aw (R:=ab) (a:=x1) (R':=ax ab) 0 ty22 ar) ?_
  refine rq (out:=Pr.i64 (x1.Kids.length:Int)) (dz rfl Tryz.underlying22) ?_
  refine rq (out:=Pr.bool (decide (x10<(x1.Kids.length:Int)))) qInt ?_
  refine am (b:=decide (x10<(x1.Kids.length:Int))) rfl (fun hc13=> ?_) (fun hc13=> ?_)
  ·replace h2l:=iteT hc13 h2l
   refine au ?_
   refine a6 ?_
   refine a5 ?_
   refine W_r ?_
   refine rq (out:=ah x9) ag ?_
   refine rq (out:=ao b2 8) (aq cp) ?_
   refine rq (out:=aj ab x1.Kids) (aw (R:=ab) (a:=x1) (R':=ax ab) 0 ty22 ar) ?_
   refine rq (out:=Pr.i64 x10) ag ?_
   obtain⟨x14,hx14,h2l⟩:=af h2l
   refine rq (out:=bb ab x14) (dl (R:=ab) (l:=x1.Kids) Tryz.underlying22 Tryz.sizeOf24 hx14) ?_
   refine rq (out:=(ab).val x14) (cd (R:=ab) (a:=x14) ty24) ?_
   obtain⟨x15,hx15,h2l⟩:=af h2l
   refine rq (out:=ah x15) (av (ref13_Member_ok x14 _ hx15)) ?_
   obtain⟨x16,hx16,h2l⟩:=af h2l
   refine rq (out:=ah x16) (cf hx16) ?_
   refine rq (out:=ah x16) ae ?_
   refine W_r ?_
   refine rq (out:=Pr.i64 x10) ag ?_
   refine rq (out:=Pr.i64 (w64 (x10+1))) qInt ?_
   refine rq (out:=Pr.i64 (w64 (x10+1))) ae ?_
   exact⟨m2,Nat.lt_succ_self _,x16,w64 (x10+1),hn2 _ (Option.some.inj h2l).symm,⟨⟨aa,aa,aa,trivial⟩,Pick.refl _⟩⟩
  replace h2l:=iteF hc13 h2l
  refine cy ?_
  obtain rfl:=ho2 _ (Option.some.inj h2l).symm
  exact⟨x9,h,⟨⟨aa,trivial⟩,Pick.refl _⟩⟩
 refine W_rs ?_
 refine rq (out:=ao b2 2) (aq kf) ?_
 refine rq (out:=ah x1.Type_) (aw (R:=ab) (a:=x1) (R':=ak) 0 ty9 dk) ?_
 refine rq (out:=Pr.bool (!(x1.Type_==[]))) qStr ?_
 refine am (b:= !(x1.Type_==[])) rfl (fun hc4=> ?_) (fun hc4=> ?_)
 ·replace h:=iteT hc4 h
  refine W_r ?_
  refine rq (out:=ah x3) ag ?_
  obtain⟨x5,hx5,h⟩:=af h
  refine rq (out:=ah x5) (cf hx5) ?_
  refine rq (out:=ao b2 2) (aq kf) ?_
  refine rq (out:=ah x1.Type_) (aw (R:=ab) (a:=x1) (R':=ak) 0 ty9 dk) ?_
  obtain⟨x6,hx6,h⟩:=af h
  refine rq (out:=ah x6) (cf hx6) ?_
  refine rq (out:=ah x6) ae ?_
  exact⟨x6,h,⟨⟨aa,aa,trivial⟩,Pick.refl _⟩⟩
 replace h:=iteF hc4 h
 refine au ?_
 exact⟨x3,h,⟨⟨aa,aa,trivial⟩,Pick.refl _⟩⟩
theorem ref14_Of_ok (x1:ApiNode) (x2:List (List UInt8)) (r:(List UInt8)) (h:ref14_Of x1 x2=some r):FnP Tryz.prog 13 [(ab).val x1,aj ak x2] (ah r):=by
 refine ba (n:=24) (rs:=[4]) Tryz.func13 rfl Tryz.ntmps13 ⟨by decide,Tryz.results13⟩ (by decide) (fun s0=> ?_)
 unfold ref14_Of at h
 refine W_rs ?_
 refine rBox (R:=ab) (a:=x1) rfl (fun b3=> ?_)
 refine rq (out:=ah []) ae ?_
 refine W_rs ?_
 refine rq (out:=(ab).val x1) (aw (R:=ab) (a:=x1) (R':=ab) 0 ty24 (Sub.refl _)) ?_
 refine rq (out:=aj ak x2) ag ?_
 obtain⟨x4,hx4,h⟩:=af h
 refine rq (out:=(ab).val x4) (av (ref14_Erase_ok x1 x2 _ hx4)) ?_
 refine cb (R:=ab) (z:=(ApiNode.mk 0 [] [] 0 0 0 0 0 [])) Tryz.zeroValue24 (fun _=>(by rw[al];exact⟨_,⟨_,_,rfl,rfl,⟨_,_,rfl,rfl,⟨_,_,rfl,rfl,⟨_,_,rfl,rfl,⟨_,_,rfl,rfl,⟨_,_,rfl,rfl,⟨_,_,rfl,rfl,⟨_,_,rfl,rfl,⟨_,_,rfl,⟨_,rfl,none,0,rfl,⟨Nat.le_refl _,fun _=>rfl⟩,.inl rfl⟩,rfl⟩⟩⟩⟩⟩⟩⟩⟩⟩,rfl⟩)) (fun b5=> ?_)
 refine az (R:=ab) (R':=ab) (a:=(ApiNode.mk 0 [] [] 0 0 0 0 0 [])) (y:=x4) 1 Tryz.sizeOf24 (Upd.refl _) ?_
 refine a6 ?_
 refine W_rs ?_
 refine rq (out:=ao b3 0) (aq ff) ?_
 refine rq (out:=Pr.i64 x1.Kind) (aw (R:=ab) (a:=x1) (R':=Rp.int .i64) 0 ty3 bp) ?_
 refine rq (out:=Pr.bool (x1.Kind==1)) qInt ?_
 refine am (b:=x1.Kind==1) rfl (fun hc6=> ?_) (fun hc6=> ?_)
 ·replace h:=iteT hc6 h
  refine W_rs ?_
  refine rq (out:=(ab).val x4) (aw (R:=ab) (a:=x4) (R':=ab) 1 ty24 (Sub.refl _)) ?_
  obtain⟨x7,hx7,h⟩:=af h
  refine rq (out:=ah x7) (av (ref13_Class_ok x4 _ hx7)) ?_
  refine rq (out:=ah x7) ae ?_
  obtain rfl:=Option.some.inj h
  exact a4 ⟨rfl,aa⟩
 replace h:=iteF hc6 h
 refine au ?_
 refine a6 ?_
 refine a8 (fun e C=>∃(x9:Bool),ref14_Of_j1 x4 x9=some r/\At [(5,ao b5 0),(21,Pr.bool x9)] [Own.box b3 ab x1,Own.box b5 ab x4] e C) ?_ ?_
 ·rintro e C ⟨x9,h,hat1⟩
  refine W_at hat1 ?_
  clear hat1
  unfold ref14_Of_j1 at h
  refine am (b:=x9) rfl (fun hc10=> ?_) (fun hc10=> ?_)
  ·replace h:=iteT hc10 h
   refine W_rs ?_
   refine rq (out:=(ab).val x4) (aw (R:=ab) (a:=x4) (R':=ab) 1 ty24 (Sub.refl _)) ?_
   obtain⟨x11,hx11,h⟩:=af h
   refine rq (out:=ah x11) (av (ref13_Member_ok x4 _ hx11)) ?_
   refine rq (out:=ah x11) ae ?_
   obtain rfl:=Option.some.inj h
   exact a4 ⟨rfl,aa⟩
  replace h:=iteF hc10 h
  refine au ?_
  refine W_rs ?_
  refine rq (out:=ah []) ae ?_
  obtain rfl:=Option.some.inj h
  exact a4 ⟨rfl,aa⟩
 refine W_r ?_
 refine rq (out:=ao b3 0) (aq ff) ?_
 refine rq (out:=Pr.i64 x1.Kind) (aw (R:=ab) (a:=x1) (R':=Rp.int .i64) 0 ty3 bp) ?_
 refine rq (out:=Pr.bool (x1.Kind==2)) qInt ?_
 refine rq (out:=Pr.bool (x1.Kind==2)) ag ?_
 rcases bv h with⟨hc8,h⟩|⟨hc8,h⟩
 ·refine rno (neF hc8) ?_
  refine rno (neF hc8) ?_
  refine rno (neF hc8) ?_
  refine rq (out:=Pr.bool true) (bi hc8) ?_
  exact⟨true,h,⟨⟨aa,aa,trivial⟩,Pick.refl _⟩⟩
 refine rqg hc8 (out:=ao b3 0) (aq ff) ?_
 refine rqg hc8 (out:=Pr.i64 x1.Kind) (aw (R:=ab) (a:=x1) (R':=Rp.int .i64) 0 ty3 bp) ?_
 refine rqg hc8 (out:=Pr.bool (x1.Kind==3)) qInt ?_
 refine rq (out:=Pr.bool (x1.Kind==3)) (bu hc8) ?_
 exact⟨x1.Kind==3,h,⟨⟨aa,aa,trivial⟩,Pick.refl _⟩⟩
theorem ref01_Same_ok (x1 x2:List (List UInt8)) (r:Bool) (h:ref01_Same x1 x2=some r):FnP Tryz.prog 14 [aj ak x1,aj ak x2] (Pr.bool r):=by
 refine ba (n:=26) (rs:=[4]) Tryz.func14 rfl Tryz.ntmps14 ⟨by decide,Tryz.results14⟩ (by decide) (fun s0=> ?_)
 unfold ref01_Same at h
 refine W_rs ?_
 refine rq (out:=Pr.bool false) ae ?_
 refine a6 ?_
 refine W_rs ?_
 refine rq (out:=aj ak x1) ag ?_
 refine rq (out:=Pr.i64 (x1.length:Int)) (dz rfl Tryz.underlying25) ?_
 refine rq (out:=aj ak x2) ag ?_
 refine rq (out:=Pr.i64 (x2.length:Int)) (dz rfl Tryz.underlying25) ?_
 refine rq (out:=Pr.bool ((x1.length:Int) != (x2.length:Int))) qInt ?_
 refine am (b:=(x1.length:Int) != (x2.length:Int)) rfl (fun hc3=> ?_) (fun hc3=> ?_)
 ·replace h:=iteT hc3 h
  refine W_rs ?_
  refine rq (out:=Pr.bool false) ae ?_
  obtain rfl:=Option.some.inj h
  exact a4 ⟨rfl,aa⟩
 replace h:=iteF hc3 h
 refine au ?_
 refine a6 ?_
 refine W_rs ?_
 refine rq (out:=Pr.i64 0) ae ?_
 refine a5 ?_
 obtain⟨z2l,hz2,h⟩:=af h
 obtain⟨n2,hN2⟩:=bo hz2
 clear hz2
 refine c6 0 (fun e C=>ref01_Same_k1=some r/\At [] [] e C) ?_ ?_
 ·rintro e C ⟨h,hat1⟩
  refine W_at hat1 ?_
  clear hat1
  unfold ref01_Same_k1 at h
  refine W_rs ?_
  refine rq (out:=Pr.bool true) ae ?_
  obtain rfl:=Option.some.inj h
  exact a4 ⟨rfl,aa⟩
 refine dp (fun m e C=>∃(x4:Int),d9 (fun s=>fk x1 x2 s) m x4=some z2l/\At [(0,aj ak x1),(1,aj ak x2),(5,Pr.i64 x4)] [] e C) n2 ⟨0,hN2,⟨⟨aa,aa,aa,trivial⟩,Pick.refl _⟩⟩ ?_
 clear hN2
 rintro m e C ⟨x4,hN2,hatl2⟩
 refine W_at hatl2 ?_
 clear hatl2
 obtain⟨m2,w2l,rfl,h2l,hn2,ho2⟩:=bg hN2
 clear hN2
 replace h2l:fk x1 x2 x4=some w2l:=h2l
 unfold fk at h2l
 refine a6 ?_
 refine W_rs ?_
 refine rq (out:=Pr.i64 x4) ag ?_
 refine rq (out:=aj ak x1) ag ?_
 refine rq (out:=Pr.i64 (x1.length:Int)) (dz rfl Tryz.underlying25) ?_
 refine rq (out:=Pr.bool (decide (x4<(x1.length:Int)))) qInt ?_
 refine am (b:=decide (x4<(x1.length:Int))) rfl (fun hc6=> ?_) (fun hc6=> ?_)
 ·replace h2l:=iteT hc6 h2l
  refine au ?_
  refine a6 ?_
  refine a5 ?_
  refine a8 (fun e C=>∃(x7:List UInt8),∃(x8:List UInt8),ref01_Same_j3 x4 x7 x8=some w2l/\At [(0,aj ak x1),(1,aj ak x2),(5,Pr.i64 x4),(25,Pr.bool (!(x7==x8)))] [] e C) ?_ ?_
  ·rintro e C ⟨x7,x8,h2l,hat3⟩
   refine W_at hat3 ?_
   clear hat3
   unfold ref01_Same_j3 at h2l
   refine am (b:= !(x7==x8)) rfl (fun hc9=> ?_) (fun hc9=> ?_)
   ·replace h2l:=iteT hc9 h2l
    refine W_rs ?_
    refine rq (out:=Pr.bool false) ae ?_
    obtain rfl:=ho2 _ (Option.some.inj h2l).symm
    replace h:some false=some r:=h
    obtain rfl:=Option.some.inj h
    exact a4 ⟨rfl,aa⟩
   replace h2l:=iteF hc9 h2l
   refine au ?_
   refine W_r ?_
   refine rq (out:=Pr.i64 x4) ag ?_
   refine rq (out:=Pr.i64 (w64 (x4+1))) qInt ?_
   refine rq (out:=Pr.i64 (w64 (x4+1))) ae ?_
   exact⟨m2,Nat.lt_succ_self _,w64 (x4+1),hn2 _ (Option.some.inj h2l).symm,⟨⟨aa,aa,aa,trivial⟩,Pick.refl _⟩⟩
  refine fa 9 hmx (by kernel_rfl) (by kernel_rfl) ?_
  refine qq (out:=aj ak x1) ag ?_
  refine qq (out:=Pr.i64 x4) ag ?_
  obtain⟨x7,hx7,h2l⟩:=af h2l
  refine qq (out:=bb ak x7) (dl (R:=ak) (l:=x1) Tryz.underlying25 Tryz.sizeOf9 hx7) ?_
  refine qq (out:=ah x7) (cd (R:=ak) (a:=x7) ty9) ?_
  refine qq (out:=aj ak x2) ag ?_
  refine qq (out:=Pr.i64 x4) ag ?_
  obtain⟨x8,hx8,h2l⟩:=af h2l
  refine qq (out:=bb ak x8) (dl (R:=ak) (l:=x2) Tryz.underlying25 Tryz.sizeOf9 hx8) ?_
  refine qq (out:=ah x8) (cd (R:=ak) (a:=x8) ty9) ?_
  refine qq (out:=Pr.bool (!(x7==x8))) qStr ?_
  exact⟨x7,x8,h2l,⟨⟨aa,aa,aa,aa,trivial⟩,Pick.refl _⟩⟩
 replace h2l:=iteF hc6 h2l
 refine cy ?_
 obtain rfl:=ho2 _ (Option.some.inj h2l).symm
 exact⟨h,⟨trivial,Pick.refl _⟩⟩
theorem ref04_Texts_ok (x1:List ApiToken) (r:(List (List UInt8))) (h:ref04_Texts x1=some r):FnP Tryz.prog 35 [aj ai x1] (aj ak r):=by
 refine ba (n:=26) (rs:=[2]) Tryz.func35 rfl Tryz.ntmps35 ⟨by decide,Tryz.results35⟩ (by decide) (fun s0=> ?_)
 unfold ref04_Texts at h
 refine W_rs ?_
 refine rq (out:=Pr.is (.slice none 0 0)) ae ?_
 refine W_rs ?_
 refine rq (out:=Pr.is (.slice none 0 0)) ae ?_
 refine a6 ?_
 refine W_rs ?_
 refine rq (out:=Pr.i64 0) ae ?_
 refine a5 ?_
 obtain⟨z2l,hz2,h⟩:=af h
 obtain⟨n2,hN2⟩:=bo hz2
 clear hz2
 refine c6 0 (fun e C=>∃(x4:List (List UInt8)),∃(v2:Value),ref04_Texts_k1 x4=some r/\At [(3,Pr.is v2)] [Own.vec v2 ak x4 9] e C) ?_ ?_
 ·rintro e C ⟨x4,v2,h,hat1⟩
  refine W_at hat1 ?_
  clear hat1
  unfold ref04_Texts_k1 at h
  refine W_rs ?_
  refine rq (out:=Pr.is v2) ag ?_
  refine rq (out:=Pr.is v2) ae ?_
  refine W_rel 0 [2] ?_ rfl ⟨rfl,trivial⟩
  obtain rfl:=Option.some.inj h
  exact a4 ⟨rfl,aa⟩
 refine W_nil [3] ak 9 (fun v16=> ?_) ⟨rfl,trivial⟩
 refine dp (fun m e C=>∃(x3:Int),∃(x4:List (List UInt8)),∃(v2:Value),d9 (fun s=>gf x1 s.1 s.2) m (x3,x4)=some z2l/\At [(0,aj ai x1),(3,Pr.is v2),(4,Pr.i64 x3)] [Own.vec v2 ak x4 9] e C) n2 ⟨0,[],v16,hN2,⟨⟨aa,aa,aa,trivial⟩,Pick.refl _⟩⟩ ?_
 clear hN2
 rintro m e C ⟨x3,x4,v2,hN2,hatl2⟩
 refine W_at hatl2 ?_
 clear hatl2
 obtain⟨m2,w2l,rfl,h2l,hn2,ho2⟩:=bg hN2
 clear hN2
 replace h2l:gf x1 x3 x4=some w2l:=h2l
 unfold gf at h2l
 refine a6 ?_
 refine W_rs ?_
 refine rq (out:=Pr.i64 x3) ag ?_
 refine rq (out:=aj ai x1) ag ?_
 refine rq (out:=Pr.i64 (x1.length:Int)) (dz rfl Tryz.underlying52) ?_
 refine rq (out:=Pr.bool (decide (x3<(x1.length:Int)))) qInt ?_
 refine am (b:=decide (x3<(x1.length:Int))) rfl (fun hc8=> ?_) (fun hc8=> ?_)
 ·replace h2l:=iteT hc8 h2l
  refine au ?_
  refine a8 (fun e C=>∃(x15:List (List UInt8)),∃(v14:Value),k3 x3 x15=some w2l/\At [(0,aj ai x1),(3,Pr.is v14),(4,Pr.i64 x3)] [Own.vec v14 ak x15 9] e C) ?_ ?_
  ·rintro e C ⟨x15,v14,h2l,hat3⟩
   refine W_at hat3 ?_
   clear hat3
   unfold k3 at h2l
   refine W_r ?_
   refine rq (out:=Pr.i64 x3) ag ?_
   refine rq (out:=Pr.i64 (w64 (x3+1))) qInt ?_
   refine rq (out:=Pr.i64 (w64 (x3+1))) ae ?_
   exact⟨m2,Nat.lt_succ_self _,w64 (x3+1),x15,v14,hn2 _ (Option.some.inj h2l).symm,⟨⟨aa,aa,aa,trivial⟩,Pick.refl _⟩⟩
  refine a5 ?_
  refine W_rs ?_
  refine rq (out:=aj ai x1) ag ?_
  refine rq (out:=Pr.i64 x3) ag ?_
  obtain⟨x9,hx9,h2l⟩:=af h2l
  refine rq (out:=bb ai x9) (dl (R:=ai) (l:=x1) Tryz.underlying52 Tryz.sizeOf56 hx9) ?_
  refine rq (out:=bb (Rp.int .i64) x9.Kind) (ea (R:=ai) (a:=x9) fld56_0 ic) ?_
  refine rq (out:=Pr.i64 x9.Kind) (cd (R:=Rp.int .i64) (a:=x9.Kind) ty3) ?_
  refine rq (out:=Pr.bool (x9.Kind != 5)) qInt ?_
  refine am (b:=x9.Kind != 5) rfl (fun hc10=> ?_) (fun hc10=> ?_)
  ·replace h2l:=iteT hc10 h2l
   refine W_r ?_
   refine rq (out:=Pr.is v2) ag ?_
   refine rq (out:=aj ai x1) ag ?_
   refine rq (out:=Pr.i64 x3) ag ?_
   obtain⟨x11,hx11,h2l⟩:=af h2l
   refine rq (out:=bb ai x11) (dl (R:=ai) (l:=x1) Tryz.underlying52 Tryz.sizeOf56 hx11) ?_
   refine rq (out:=bb ak x11.Text) (ea (R:=ai) (a:=x11) fld56_1 dg) ?_
   refine rq (out:=ah x11.Text) (cd (R:=ak) (a:=x11.Text) ty9) ?_
   refine rq (out:=aj ak ([x11.Text]:List (List UInt8))) (cm (R:=ak) (a:=x11.Text) el25 (Nat.le_of_ble_eq_true rfl)) ?_
   obtain⟨x12,hx12,h2l⟩:=af h2l
   refine g7 0 el25 hx12 (fun v13=> ?_)
   refine rq (out:=Pr.is v13) ae ?_
   exact⟨x12,v13,h2l,⟨⟨aa,aa,aa,trivial⟩,Pick.refl _⟩⟩
  replace h2l:=iteF hc10 h2l
  refine au ?_
  exact⟨x4,v2,h2l,⟨⟨aa,aa,aa,trivial⟩,Pick.refl _⟩⟩
 replace h2l:=iteF hc8 h2l
 refine cy ?_
 obtain rfl:=ho2 _ (Option.some.inj h2l).symm
 exact⟨x4,v2,h,⟨⟨aa,trivial⟩,Pick.refl _⟩⟩
theorem ref14_Tokens_ok (x1:ApiNode) (x2:List (List UInt8)) (r:(List (List UInt8))) (h:ref14_Tokens x1 x2=some r):FnP Tryz.prog 16 [(ab).val x1,aj ak x2] (aj ak r):=by
 refine ba (n:=20) (rs:=[4]) Tryz.func16 rfl Tryz.ntmps16 ⟨by decide,Tryz.results16⟩ (by decide) (fun s0=> ?_)
 unfold ref14_Tokens at h
 refine W_rs ?_
 refine rBox (R:=ab) (a:=x1) rfl (fun b3=> ?_)
 refine rq (out:=Pr.is (.slice none 0 0)) ae ?_
 refine W_rs ?_
 refine rq (out:=(ab).val x1) (aw (R:=ab) (a:=x1) (R':=ab) 0 ty24 (Sub.refl _)) ?_
 refine rq (out:=aj ak x2) ag ?_
 obtain⟨x4,hx4,h⟩:=af h
 refine rq (out:=ah x4) (av (ref14_Of_ok x1 x2 _ hx4)) ?_
 obtain⟨⟨x5,x6,x7⟩,hx5,h⟩:=af h
 refine rq (out:=bj [aj ai x5,Pr.i64 x6,Pr.i64 x7]) (av (ref03_Lex_ok x4 _ hx5)) ?_
 refine rq (out:=bj [aj ai x5,Pr.i64 x6,Pr.i64 x7]) ag ?_
 refine rq (out:=aj ai x5) ay ?_
 refine rq (out:=Pr.i64 x6) ay ?_
 refine rq (out:=Pr.i64 x7) ay ?_
 refine rq (out:=aj ai x5) ae ?_
 refine rq (out:=Pr.i64 x6) ae ?_
 refine rq (out:=Pr.i64 x7) ae ?_
 refine a6 ?_
 refine W_rs ?_
 refine rq (out:=Pr.i64 x7) ag ?_
 refine rq (out:=Pr.bool (x7 != 0)) qInt ?_
 refine am (b:=x7 != 0) rfl (fun hc8=> ?_) (fun hc8=> ?_)
 ·replace h:=iteT hc8 h
  refine W_rs ?_
  refine rq (out:=Pr.is (.slice none 0 0)) ae ?_
  obtain rfl:=Option.some.inj h
  exact a4 ⟨rfl,de _⟩
 replace h:=iteF hc8 h
 refine au ?_
 refine W_rs ?_
 refine rq (out:=aj ai x5) ag ?_
 obtain⟨x9,hx9,h⟩:=af h
 refine rq (out:=aj ak x9) (av (ref04_Texts_ok x5 _ hx9)) ?_
 refine rq (out:=aj ak x9) ae ?_
 obtain rfl:=Option.some.inj h
 exact a4 ⟨rfl,aa⟩
theorem law14_ShapeTells_ok (x1:ApiNode) (x2:List (List UInt8)) (r:Bool) (h:lc x1 x2=some r):FnP Tryz.prog 3 [(ab).val x1,aj ak x2] (Pr.bool r):=by
 refine ba (n:=44) (rs:=[4]) Tryz.func3 rfl Tryz.ntmps3 ⟨by decide,Tryz.results3⟩ (by decide) (fun s0=> ?_)
 unfold lc at h
 refine W_rs ?_
 refine rBox (R:=ab) (a:=x1) rfl (fun b3=> ?_)
 refine rq (out:=Pr.bool false) ae ?_
 refine W_rs ?_
 obtain⟨x4,hx4,h⟩:=af h
 refine rq (out:=Pr.bool x4) (av (law14_awake_ok _ hx4)) ?_
 refine rq (out:=Pr.bool x4) ae ?_
 refine a6 ?_
 refine W_rs ?_
 refine rq (out:=Pr.bool x4) ag ?_
 refine rq (out:=Pr.bool (!x4)) qNot ?_
 refine am (b:= !x4) rfl (fun hc5=> ?_) (fun hc5=> ?_)
 ·replace h:=iteT hc5 h
  refine W_rs ?_
  refine rq (out:=Pr.bool false) ae ?_
  obtain rfl:=Option.some.inj h
  exact a4 ⟨rfl,aa⟩
 replace h:=iteF hc5 h
 refine au ?_
 refine W_rs ?_
 refine rq (out:=(ab).val x1) (aw (R:=ab) (a:=x1) (R':=ab) 0 ty24 (Sub.refl _)) ?_
 obtain⟨x6,hx6,h⟩:=af h
 refine rq (out:=Pr.bool x6) (av (law14_few_ok x1 _ hx6)) ?_
 refine rq (out:=Pr.bool x6) ae ?_
 refine a6 ?_
 refine a8 (fun e C=>∃(x8:Bool),gy x1 x2 x8=some r/\At [(1,aj ak x2),(2,ao b3 0),(18,Pr.bool x8)] [Own.box b3 ab x1] e C) ?_ ?_
 ·rintro e C ⟨x8,h,hat2⟩
  refine W_at hat2 ?_
  clear hat2
  unfold gy at h
  refine am (b:=x8) rfl (fun hc9=> ?_) (fun hc9=> ?_)
  ·replace h:=iteT hc9 h
   refine W_rs ?_
   refine rq (out:=Pr.bool true) ae ?_
   obtain rfl:=Option.some.inj h
   exact a4 ⟨rfl,aa⟩
  replace h:=iteF hc9 h
  refine au ?_
  refine a8 (fun e C=>∃(x24:Bool),gz x24=some r/\At [(4,Pr.bool x24)] [Own.box b3 ab x1] e C) ?_ ?_
  ·rintro e C ⟨x24,h,hat1⟩
   refine W_at hat1 ?_
   clear hat1
   unfold gz at h
   obtain rfl:=Option.some.inj h
   exact a4 ⟨rfl,aa⟩
  refine fa 26 hmx (by kernel_rfl) (by kernel_rfl) ?_
  refine qq (out:=(ab).val x1) (aw (R:=ab) (a:=x1) (R':=ab) 0 ty24 (Sub.refl _)) ?_
  refine qq (out:=aj ak x2) ag ?_
  obtain⟨x10,hx10,h⟩:=af h
  refine qq (out:=(ab).val x10) (av (shape_Erase_ok x1 x2 _ hx10)) ?_
  refine qq (out:=(ab).val x1) (aw (R:=ab) (a:=x1) (R':=ab) 0 ty24 (Sub.refl _)) ?_
  refine qq (out:=aj ak x2) ag ?_
  obtain⟨x11,hx11,h⟩:=af h
  refine qq (out:=(ab).val x11) (av (ref14_Erase_ok x1 x2 _ hx11)) ?_
  obtain⟨x12,hx12,h⟩:=af h
  refine qq (out:=Pr.bool x12) (av (ref11_Exact_ok x10 x11 _ hx12)) ?_
  refine qq (out:=Pr.bool x12) ag ?_
  rcases bv h with⟨hc13,h⟩|⟨hc13,h⟩
  ·refine qqg hc13 (out:=(ab).val x1) (aw (R:=ab) (a:=x1) (R':=ab) 0 ty24 (Sub.refl _)) ?_
   refine qqg hc13 (out:=aj ak x2) ag ?_
   obtain⟨x14,hx14,h⟩:=af h
   refine qqg hc13 (out:=ah x14) (av (shape_Of_ok x1 x2 _ hx14)) ?_
   refine qqg hc13 (out:=(ab).val x1) (aw (R:=ab) (a:=x1) (R':=ab) 0 ty24 (Sub.refl _)) ?_
   refine qqg hc13 (out:=aj ak x2) ag ?_
   obtain⟨x15,hx15,h⟩:=af h
   refine qqg hc13 (out:=ah x15) (av (ref14_Of_ok x1 x2 _ hx15)) ?_
   refine qqg hc13 (out:=Pr.bool (x14==x15)) qStr ?_
   refine qq (out:=Pr.bool (x14==x15)) (bi hc13) ?_
   refine qq (out:=Pr.bool (x14==x15)) ag ?_
   rcases bv h with⟨hc16,h⟩|⟨hc16,h⟩
   ·refine qqg hc16 (out:=(ab).val x1) (aw (R:=ab) (a:=x1) (R':=ab) 0 ty24 (Sub.refl _)) ?_
    refine qqg hc16 (out:=aj ak x2) ag ?_
    obtain⟨x17,hx17,h⟩:=af h
    refine qqg hc16 (out:=aj ak x17) (av (i1 x1 x2 _ hx17)) ?_
    refine qqg hc16 (out:=(ab).val x1) (aw (R:=ab) (a:=x1) (R':=ab) 0 ty24 (Sub.refl _)) ?_
    refine qqg hc16 (out:=aj ak x2) ag ?_
    obtain⟨x18,hx18,h⟩:=af h
    refine qqg hc16 (out:=aj ak x18) (av (ref14_Tokens_ok x1 x2 _ hx18)) ?_
    obtain⟨x19,hx19,h⟩:=af h
    refine qqg hc16 (out:=Pr.bool x19) (av (ref01_Same_ok x17 x18 _ hx19)) ?_
    refine qq (out:=Pr.bool x19) (bi hc16) ?_
    refine qq (out:=Pr.bool x19) ae ?_
    exact⟨x19,h,⟨⟨aa,trivial⟩,Pick.refl _⟩⟩
   refine qqno (neT hc16) ?_
   refine qqno (neT hc16) ?_
   refine qqno (neT hc16) ?_
   refine qqno (neT hc16) ?_
   refine qqno (neT hc16) ?_
   refine qqno (neT hc16) ?_
   refine qqno (neT hc16) ?_
   refine qq (out:=Pr.bool false) (bu hc16) ?_
   refine qq (out:=Pr.bool false) ae ?_
   exact⟨false,h,⟨⟨aa,trivial⟩,Pick.refl _⟩⟩
  refine qqno (neT hc13) ?_
  refine qqno (neT hc13) ?_
  refine qqno (neT hc13) ?_
  refine qqno (neT hc13) ?_
  refine qqno (neT hc13) ?_
  refine qqno (neT hc13) ?_
  refine qqno (neT hc13) ?_
  refine qq (out:=Pr.bool false) (bu hc13) ?_
  refine qq (out:=Pr.bool false) ag ?_
  have hc20:false=false:=rfl
  refine qqno (neT hc20) ?_
  refine qqno (neT hc20) ?_
  refine qqno (neT hc20) ?_
  refine qqno (neT hc20) ?_
  refine qqno (neT hc20) ?_
  refine qqno (neT hc20) ?_
  refine qqno (neT hc20) ?_
  refine qq (out:=Pr.bool false) (bu hc20) ?_
  refine qq (out:=Pr.bool false) ae ?_
  exact⟨false,h,⟨⟨aa,trivial⟩,Pick.refl _⟩⟩
 refine W_r ?_
 refine rq (out:=Pr.bool x6) ag ?_
 refine rq (out:=Pr.bool (!x6)) qNot ?_
 refine rq (out:=Pr.bool (!x6)) ag ?_
 rcases bv h with⟨hc7,h⟩|⟨hc7,h⟩
 ·refine rno (neF hc7) ?_
  refine rno (neF hc7) ?_
  refine rno (neF hc7) ?_
  refine rq (out:=Pr.bool true) (bi hc7) ?_
  exact⟨true,h,⟨⟨aa,aa,aa,trivial⟩,Pick.refl _⟩⟩
 refine rqg hc7 (out:=aj ak x2) ag ?_
 refine rqg hc7 (out:=Pr.i64 (x2.length:Int)) (dz rfl Tryz.underlying25) ?_
 refine rqg hc7 (out:=Pr.bool (decide ((x2.length:Int)>10))) qInt ?_
 refine rq (out:=Pr.bool (decide ((x2.length:Int)>10))) (bu hc7) ?_
 exact⟨decide ((x2.length:Int)>10),h,⟨⟨aa,aa,aa,trivial⟩,Pick.refl _⟩⟩
end Go.Proofs.YtgkcoicaopilhaaGreatDoor
