/- The code comes to what these functions say (printed by wip/gen/gen.py). -/
import Derived.Test.YtphkaogfinjbjaaGreatDoorZP1
import Derived.Test.YtphkaogfinjbjaaGreatDoorZT
set_option linter.unusedSimpArgs false
set_option linter.unusedVariables false
set_option linter.unusedSectionVars false
set_option linter.unusedSectionVars false
set_option maxRecDepth 100000
set_option maxHeartbeats 4000000
namespace Go.Proofs.YtphkaogfinjbjaaGreatDoor
open Go Go.Cn
variable [Known]
theorem lcs_Numbers_ok (x1:List (List (List UInt8))) (r:(List (List Int))) (h:lcs_Numbers x1=some r):FnP Tryz.prog 64 [ae (aj af) x1] (ae (aj (Rp.int .i64)) r):=by
 refine a8 (n:=49) (rs:=[2]) Tryz.func64 rfl Tryz.ntmps64 ⟨by decide,Tryz.results64⟩ (by decide) (fun s0=> ?_)
 unfold lcs_Numbers at h
 refine W_rs ?_
 refine rq (out:=Pr.is (.slice none 0 0)) ab ?_
 refine W_rs ?_
 refine rMakeMap (Rp.int .i64) (fun b2=> ?_)
 refine rq (out:=Pr.mp b2) ab ?_
 refine W_rs ?_
 refine rq (out:=Pr.is (.slice none 0 0)) ab ?_
 refine ax ?_
 refine W_rs ?_
 refine rq (out:=ae (aj af) x1) ag ?_
 refine rq (out:=Pr.i64 (x1.length:Int)) (cj rfl Tryz.underlying78) ?_
 refine rq (out:=Pr.i64 0) ag ?_
 refine aq ?_
 obtain⟨z2l,hz2,h⟩:=ah h
 obtain⟨n2,hN2⟩:=a4 hz2
 clear hz2
 refine bp 0 (fun e C=>∃(x5:SMap Int),∃(x6:List (List Int)),∃(v3:Value),lcs_Numbers_k1 x5 x6=some r/\At [(4,Pr.is v3)] [Own.smap b2 (Rp.int .i64) x5,Own.vec v3 (aj (Rp.int .i64)) x6 90] e C) ?_ ?_
 ·rintro e C ⟨x5,x6,v3,h,hat1⟩
  refine W_at hat1 ?_
  clear hat1
  unfold lcs_Numbers_k1 at h
  refine W_rs ?_
  refine rq (out:=Pr.is v3) ag ?_
  refine rq (out:=Pr.is v3) ab ?_
  refine mq 1 [2] ?_ rfl ⟨rfl,trivial⟩
  obtain rfl:=Option.some.inj h
  exact a9 ⟨rfl,aa⟩
 refine pk [4] (aj (Rp.int .i64)) 90 (fun v31=> ?_) ⟨rfl,trivial⟩
 refine cg (fun m e C=>∃(x4:Int),∃(x5:SMap Int),∃(x6:List (List Int)),∃(v3:Value),cv (fun s=>ia x1 s.1 s.2.1 s.2.2) m (x4,x5,x6)=some z2l/\At [(3,Pr.mp b2),(4,Pr.is v3),(13,ae (aj af) x1),(14,Pr.i64 (x1.length:Int)),(15,Pr.i64 x4)] [Own.smap b2 (Rp.int .i64) x5,Own.vec v3 (aj (Rp.int .i64)) x6 90] e C) n2 ⟨0,([]:SMap Int),[],v31,hN2,⟨⟨aa,aa,aa,aa,aa,trivial⟩,Pick.refl _⟩⟩ ?_
 clear hN2
 rintro m e C ⟨x4,x5,x6,v3,hN2,hatl2⟩
 refine W_at hatl2 ?_
 clear hatl2
 obtain⟨m2,w2l,rfl,h2l,hn2,ho2⟩:=ay hN2
 clear hN2
 replace h2l:ia x1 x4 x5 x6=some w2l:=h2l
 unfold ia at h2l
 refine W_rs ?_
 refine rq (out:=Pr.bool (decide (x4<(x1.length:Int)))) qInt ?_
 refine ax ?_
 refine ar (b:=decide (x4<(x1.length:Int))) rfl (fun hc11=> ?_) (fun hc11=> ?_)
 ·replace h2l:=iteT hc11 h2l
  refine av ?_
  refine ax ?_
  refine aq ?_
  refine W_rs ?_
  obtain⟨x12,hx12,h2l⟩:=ah h2l
  refine rq (out:=a5 (aj af) x12) (co (R:=aj af) (l:=x1) Tryz.underlying78 Tryz.sizeOf33 hx12) ?_
  refine rq (out:=ae af x12) (bh (R:=aj af) (a:=x12) ty33) ?_
  refine rq (out:=ae af x12) ab ?_
  refine W_rs ?_
  refine rq (out:=Pr.is (.slice none 0 0)) ab ?_
  refine ax ?_
  refine W_rs ?_
  refine rq (out:=ae af x12) ag ?_
  refine rq (out:=Pr.i64 (x12.length:Int)) (cj rfl Tryz.underlying33) ?_
  refine rq (out:=Pr.i64 0) ag ?_
  refine aq ?_
  obtain⟨z4l,hz4,h2l⟩:=ah h2l
  obtain⟨n4,hN4⟩:=a4 hz4
  clear hz4
  refine bp 2 (fun e C=>∃(x15:SMap Int),∃(x16:List Int),∃(v13:Value),lcs_Numbers_k3 x6 x4 x15 x16=some w2l/\At [(3,Pr.mp b2),(4,Pr.is v3),(7,Pr.is v13),(13,ae (aj af) x1),(14,Pr.i64 (x1.length:Int)),(15,Pr.i64 x4)] [Own.smap b2 (Rp.int .i64) x15,Own.vec v3 (aj (Rp.int .i64)) x6 90,Own.vec v13 (Rp.int .i64) x16 3] e C) ?_ ?_
  ·rintro e C ⟨x15,x16,v13,h2l,hat3⟩
   refine W_at hat3 ?_
   clear hat3
   unfold lcs_Numbers_k3 at h2l
   refine W_r ?_
   refine rq (out:=Pr.is v3) ag ?_
   refine rq (out:=Pr.is v13) ag ?_
   refine rRel 2 [7,44] ?_ rfl ⟨rfl,rfl,trivial⟩
   refine rq (out:=ae (aj (Rp.int .i64)) ([x16]:List (List Int))) (bb (R:=aj (Rp.int .i64)) (a:=x16) el87 (Nat.le_of_ble_eq_true rfl)) ?_
   obtain⟨x28,hx28,h2l⟩:=ah h2l
   refine ci 1 el87 hx28 (fun v29=> ?_)
   refine rq (out:=Pr.is v29) ab ?_
   refine W_r ?_
   refine rq (out:=Pr.i64 (w64 (x4+1))) qInt ?_
   refine rq (out:=Pr.i64 (w64 (x4+1))) ag ?_
   exact⟨m2,Nat.lt_succ_self _,w64 (x4+1),x15,x28,v29,hn2 _ (Option.some.inj h2l).symm,⟨⟨aa,aa,aa,aa,aa,trivial⟩,Pick.refl _⟩⟩
  refine pk [7] (Rp.int .i64) 3 (fun v30=> ?_) ⟨rfl,trivial⟩
  refine cg (fun m e C=>∃(x14:Int),∃(x15:SMap Int),∃(x16:List Int),∃(v13:Value),cv (fun s=>f6 x12 s.1 s.2.1 s.2.2) m (x14,x15,x16)=some z4l/\At [(3,Pr.mp b2),(4,Pr.is v3),(7,Pr.is v13),(13,ae (aj af) x1),(14,Pr.i64 (x1.length:Int)),(15,Pr.i64 x4),(19,ae af x12),(20,Pr.i64 (x12.length:Int)),(21,Pr.i64 x14)] [Own.smap b2 (Rp.int .i64) x15,Own.vec v3 (aj (Rp.int .i64)) x6 90,Own.vec v13 (Rp.int .i64) x16 3] e C) n4 ⟨0,x5,[],v30,hN4,⟨⟨aa,aa,aa,aa,aa,aa,aa,aa,aa,trivial⟩,Pick.refl _⟩⟩ ?_
  clear hN4
  rintro m e C ⟨x14,x15,x16,v13,hN4,hatl4⟩
  refine W_at hatl4 ?_
  clear hatl4
  obtain⟨m4,w4l,rfl,h4l,hn4,ho4⟩:=ay hN4
  clear hN4
  replace h4l:f6 x12 x14 x15 x16=some w4l:=h4l
  unfold f6 at h4l
  refine W_rs ?_
  refine rq (out:=Pr.bool (decide (x14<(x12.length:Int)))) qInt ?_
  refine ax ?_
  refine ar (b:=decide (x14<(x12.length:Int))) rfl (fun hc21=> ?_) (fun hc21=> ?_)
  ·replace h4l:=iteT hc21 h4l
   refine av ?_
   refine ax ?_
   refine aq ?_
   refine W_rs ?_
   obtain⟨x22,hx22,h4l⟩:=ah h4l
   refine rq (out:=a5 af x22) (co (R:=af) (l:=x12) Tryz.underlying33 Tryz.sizeOf9 hx22) ?_
   refine rq (out:=ak x22) (bh (R:=af) (a:=x22) ty9) ?_
   refine rq (out:=ak x22) ab ?_
   refine W_rs ?_
   refine rq (out:=Pr.mp b2) ag ?_
   refine rq (out:=ak x22) ag ?_
   refine rq (out:=bi [Pr.i64 (mget x22 0 x15),Pr.bool (mhas x22 x15)]) (qMapGet2 (R:=Rp.int .i64) (m:=x15) (kx:=x22) (z:=0) 0 Tryz.underlying111 Tryz.underlying9 Tryz.zeroValue3 (fun _=>rfl)) ?_
   refine rq (out:=bi [Pr.i64 (mget x22 0 x15),Pr.bool (mhas x22 x15)]) ag ?_
   refine rq (out:=Pr.i64 (mget x22 0 x15)) a6 ?_
   refine rq (out:=Pr.bool (mhas x22 x15)) a6 ?_
   refine rq (out:=Pr.i64 (mget x22 0 x15)) ab ?_
   refine rq (out:=Pr.bool (mhas x22 x15)) ab ?_
   refine bd (fun e C=>∃(x24:Int),∃(x25:SMap Int),ll x16 x14 x24 x25=some w4l/\At [(3,Pr.mp b2),(4,Pr.is v3),(7,Pr.is v13),(10,Pr.i64 x24),(13,ae (aj af) x1),(14,Pr.i64 (x1.length:Int)),(15,Pr.i64 x4),(19,ae af x12),(20,Pr.i64 (x12.length:Int)),(21,Pr.i64 x14)] [Own.smap b2 (Rp.int .i64) x25,Own.vec v3 (aj (Rp.int .i64)) x6 90,Own.vec v13 (Rp.int .i64) x16 3] e C) ?_ ?_
   ·rintro e C ⟨x24,x25,h4l,hat5⟩
    refine W_at hat5 ?_
    clear hat5
    unfold ll at h4l
    refine W_r ?_
    refine rq (out:=Pr.is v13) ag ?_
    refine rq (out:=Pr.i64 x24) ag ?_
    refine rq (out:=ae (Rp.int .i64) ([x24]:List Int)) (bb (R:=Rp.int .i64) (a:=x24) el90 (Nat.le_of_ble_eq_true rfl)) ?_
    obtain⟨x26,hx26,h4l⟩:=ah h4l
    refine ci 2 el90 hx26 (fun v27=> ?_)
    refine rq (out:=Pr.is v27) ab ?_
    refine W_r ?_
    refine rq (out:=Pr.i64 (w64 (x14+1))) qInt ?_
    refine rq (out:=Pr.i64 (w64 (x14+1))) ag ?_
    exact⟨m4,Nat.lt_succ_self _,w64 (x14+1),x25,x26,v27,hn4 _ (Option.some.inj h4l).symm,⟨⟨aa,aa,aa,aa,aa,aa,aa,aa,aa,trivial⟩,Pick.refl _⟩⟩
   refine W_rs ?_
   refine rq (out:=Pr.bool (mhas x22 x15)) ag ?_
   refine rq (out:=Pr.bool (!(mhas x22 x15))) qNot ?_
   refine ar (b:= !(mhas x22 x15)) rfl (fun hc23=> ?_) (fun hc23=> ?_)
   ·replace h4l:=iteT hc23 h4l
    refine W_rs ?_
    refine rq (out:=Pr.mp b2) ag ?_
    refine rq (out:=Pr.i64 (x15.length:Int)) (qMapLen 0 rfl Tryz.underlying111) ?_
    refine rq (out:=Pr.i64 (x15.length:Int)) ab ?_
    refine W_r ?_
    refine rq (out:=Pr.mp b2) ag ?_
    refine rq (out:=ak x22) ag ?_
    refine rq (out:=Pr.i64 (x15.length:Int)) ag ?_
    refine rMapSet (R:=Rp.int .i64) (m:=x15) (kx:=x22) (v:=(x15.length:Int)) 0 Tryz.underlying111 Tryz.underlying9 ?_
    exact⟨(x15.length:Int),(mset x22 (x15.length:Int) x15),h4l,⟨⟨aa,aa,aa,aa,aa,aa,aa,aa,aa,aa,trivial⟩,Pick.refl _⟩⟩
   replace h4l:=iteF hc23 h4l
   refine av ?_
   exact⟨(mget x22 0 x15),x15,h4l,⟨⟨aa,aa,aa,aa,aa,aa,aa,aa,aa,aa,trivial⟩,Pick.refl _⟩⟩
  replace h4l:=iteF hc21 h4l
  refine cb ?_
  obtain rfl:=ho4 _ (Option.some.inj h4l).symm
  exact⟨x15,x16,v13,h2l,⟨⟨aa,aa,aa,aa,aa,aa,trivial⟩,Pick.refl _⟩⟩
 replace h2l:=iteF hc11 h2l
 refine cb ?_
 obtain rfl:=ho2 _ (Option.some.inj h2l).symm
 exact⟨x5,x6,v3,h,⟨⟨aa,trivial⟩,Pick.refl _⟩⟩
theorem lcs_none_ok (x1:Int) (r:(List Int)) (h:lcs_none x1=some r):FnC Tryz.prog 101 [Pr.i64 x1] [] (fun q C'=>∃u0,q=Pr.is u0/\C'=[Own.vec u0 (Rp.int .i64) r 3]):=by
 refine fj (n:=16) (rs:=[2]) Tryz.func101 rfl Tryz.ntmps101 ⟨by decide,Tryz.results101⟩ (by decide) (fun s0=> ?_)
 unfold lcs_none at h
 refine W_rs ?_
 refine rq (out:=Pr.is (.slice none 0 0)) ab ?_
 refine W_rs ?_
 refine rq (out:=Pr.i64 x1) ag ?_
 obtain⟨x2,hx2,h⟩:=ah h
 refine rMake (R:=Rp.int .i64) (z:=0) el90 Tryz.zeroValue3 (fun _=>rfl) hx2 (fun v3=> ?_)
 refine rq (out:=Pr.is v3) ab ?_
 refine ax ?_
 refine W_rs ?_
 refine rq (out:=Pr.i64 x1) ag ?_
 refine rq (out:=Pr.i64 0) ag ?_
 refine aq ?_
 obtain⟨z2l,hz2,h⟩:=ah h
 obtain⟨n2,hN2⟩:=a4 hz2
 clear hz2
 refine bp 0 (fun e C=>∃(x5:List Int),lcs_none_k1 x5=some r/\At [(3,Pr.is v3)] [Own.vec v3 (Rp.int .i64) x5 3] e C) ?_ ?_
 ·rintro e C ⟨x5,h,hat1⟩
  refine W_at hat1 ?_
  clear hat1
  unfold lcs_none_k1 at h
  refine W_rs ?_
  refine rq (out:=Pr.is v3) ag ?_
  refine rq (out:=Pr.is v3) ab ?_
  obtain rfl:=Option.some.inj h
  exact a9 ⟨.inl rfl,_,Pick.refl _,_,(aa),v3,rfl,rfl⟩
 refine cg (fun m e C=>∃(x4:Int),∃(x5:List Int),cv (fun s=>j5 x1 s.1 s.2) m (x4,x5)=some z2l/\At [(3,Pr.is v3),(7,Pr.i64 x1),(8,Pr.i64 x4)] [Own.vec v3 (Rp.int .i64) x5 3] e C) n2 ⟨0,(List.replicate x2 0),hN2,⟨⟨aa,aa,aa,trivial⟩,Pick.refl _⟩⟩ ?_
 clear hN2
 rintro m e C ⟨x4,x5,hN2,hatl2⟩
 refine W_at hatl2 ?_
 clear hatl2
 obtain⟨m2,w2l,rfl,h2l,hn2,ho2⟩:=ay hN2
 clear hN2
 replace h2l:j5 x1 x4 x5=some w2l:=h2l
 unfold j5 at h2l
 refine W_rs ?_
 refine rq (out:=Pr.bool (decide (x4<x1))) qInt ?_
 refine ax ?_
 refine ar (b:=decide (x4<x1)) rfl (fun hc8=> ?_) (fun hc8=> ?_)
 ·replace h2l:=iteT hc8 h2l
  refine av ?_
  refine ax ?_
  refine aq ?_
  refine W_rs ?_
  refine rq (out:=Pr.i64 x4) ag ?_
  refine rq (out:=Pr.i64 x4) ab ?_
  refine W_r ?_
  refine rq (out:=Pr.is v3) ag ?_
  refine rq (out:=Pr.i64 x4) ag ?_
  obtain⟨x9,hx9,h2l⟩:=ah h2l
  refine rq (out:=cf v3 (Int.toNat x4 * (Rp.int .i64).size)) (ie 0 (R:=Rp.int .i64) (l:=x5) Tryz.underlying90 Tryz.sizeOf3 hx9) ?_
  refine lv (R:=Rp.int .i64) (R':=Rp.int .i64) (l:=x5) (a:=x9) (y:=(-1)) (o:=0) 0 Tryz.sizeOf3 (Upd.refl _) hx9 rfl ?_
  refine W_r ?_
  refine rq (out:=Pr.i64 (w64 (x4+1))) qInt ?_
  refine rq (out:=Pr.i64 (w64 (x4+1))) ag ?_
  exact⟨m2,Nat.lt_succ_self _,w64 (x4+1),(List.set x5 (Int.toNat x4) (-1)),hn2 _ (Option.some.inj h2l).symm,⟨⟨aa,aa,aa,trivial⟩,Pick.refl _⟩⟩
 replace h2l:=iteF hc8 h2l
 refine cb ?_
 obtain rfl:=ho2 _ (Option.some.inj h2l).symm
 exact⟨x5,h,⟨⟨aa,trivial⟩,Pick.refl _⟩⟩
theorem lcs_ends_ok (x1 x2 x4:List Int) (v3:Value) (r:Int × Int × (List Int)) (h:lcs_ends x1 x2 x4=some r):FnC Tryz.prog 102 [ae (Rp.int .i64) x1,ae (Rp.int .i64) x2,Pr.is v3] [Own.vec v3 (Rp.int .i64) x4 3] (fun q C'=>q=bi [Pr.i64 r.1,Pr.i64 r.2.1]/\C'=[Own.vec v3 (Rp.int .i64) r.2.2 3]):=by
 refine fj (n:=84) (rs:=[6,7]) Tryz.func102 rfl Tryz.ntmps102 ⟨by decide,Tryz.results102⟩ (by decide) (fun s0=> ?_)
 unfold lcs_ends at h
 refine W_rs ?_
 refine rq (out:=Pr.i64 0) ab ?_
 refine rq (out:=Pr.i64 0) ab ?_
 refine W_rs ?_
 refine rq (out:=Pr.i64 0) ab ?_
 refine ax ?_
 refine aq ?_
 obtain⟨z7l,hz7,h⟩:=ah h
 obtain⟨n7,hN7⟩:=a4 hz7
 clear hz7
 refine bp 0 (fun e C=>∃(x5:Int),∃(x6:List Int),lcs_ends_k6 x2 x1 x5 x6=some r/\At [(0,ae (Rp.int .i64) x1),(1,ae (Rp.int .i64) x2),(2,Pr.is v3),(8,Pr.i64 x5)] [Own.vec v3 (Rp.int .i64) x6 3] e C) ?_ ?_
 ·rintro e C ⟨x5,x6,h,hat6⟩
  refine W_at hat6 ?_
  clear hat6
  unfold lcs_ends_k6 at h
  refine W_rs ?_
  refine rq (out:=Pr.i64 0) ab ?_
  refine ax ?_
  refine aq ?_
  obtain⟨z4l,hz4,h⟩:=ah h
  obtain⟨n4,hN4⟩:=a4 hz4
  clear hz4
  refine bp 2 (fun e C=>∃(x15:Int),lcs_ends_k3 x1 x2 x6 x5 x15=some r/\At [(0,ae (Rp.int .i64) x1),(1,ae (Rp.int .i64) x2),(2,Pr.is v3),(8,Pr.i64 x5),(9,Pr.i64 x15)] [Own.vec v3 (Rp.int .i64) x6 3] e C) ?_ ?_
  ·rintro e C ⟨x15,h,hat3⟩
   refine W_at hat3 ?_
   clear hat3
   unfold lcs_ends_k3 at h
   refine ax ?_
   refine W_rs ?_
   refine rq (out:=Pr.i64 x15) ag ?_
   refine rq (out:=Pr.i64 0) ag ?_
   refine aq ?_
   obtain⟨z2l,hz2,h⟩:=ah h
   obtain⟨n2,hN2⟩:=a4 hz2
   clear hz2
   refine bp 4 (fun e C=>∃(x23:List Int),lcs_ends_k1 x5 x15 x23=some r/\At [(2,Pr.is v3),(8,Pr.i64 x5),(9,Pr.i64 x15)] [Own.vec v3 (Rp.int .i64) x23 3] e C) ?_ ?_
   ·rintro e C ⟨x23,h,hat1⟩
    refine W_at hat1 ?_
    clear hat1
    unfold lcs_ends_k1 at h
    refine W_rs ?_
    refine rq (out:=Pr.i64 x5) ag ?_
    refine rq (out:=Pr.i64 x15) ag ?_
    refine rq (out:=Pr.i64 x5) ab ?_
    refine rq (out:=Pr.i64 x15) ab ?_
    obtain rfl:=Option.some.inj h
    exact a9 ⟨.inl rfl,_,Pick.refl _,_,(aa),rfl,rfl⟩
   refine cg (fun m e C=>∃(x22:Int),∃(x23:List Int),cv (fun s=>lcs_ends_l2 x15 x1 x2 s.1 s.2) m (x22,x23)=some z2l/\At [(0,ae (Rp.int .i64) x1),(1,ae (Rp.int .i64) x2),(2,Pr.is v3),(8,Pr.i64 x5),(9,Pr.i64 x15),(65,Pr.i64 x15),(66,Pr.i64 x22)] [Own.vec v3 (Rp.int .i64) x23 3] e C) n2 ⟨0,x6,hN2,⟨⟨aa,aa,aa,aa,aa,aa,aa,trivial⟩,Pick.refl _⟩⟩ ?_
   clear hN2
   rintro m e C ⟨x22,x23,hN2,hatl2⟩
   refine W_at hatl2 ?_
   clear hatl2
   obtain⟨m2,w2l,rfl,h2l,hn2,ho2⟩:=ay hN2
   clear hN2
   replace h2l:lcs_ends_l2 x15 x1 x2 x22 x23=some w2l:=h2l
   unfold lcs_ends_l2 at h2l
   refine W_rs ?_
   refine rq (out:=Pr.bool (decide (x22<x15))) qInt ?_
   refine ax ?_
   refine ar (b:=decide (x22<x15)) rfl (fun hc26=> ?_) (fun hc26=> ?_)
   ·replace h2l:=iteT hc26 h2l
    refine av ?_
    refine ax ?_
    refine aq ?_
    refine W_rs ?_
    refine rq (out:=Pr.i64 x22) ag ?_
    refine rq (out:=Pr.i64 x22) ab ?_
    refine W_r ?_
    refine rq (out:=Pr.is v3) ag ?_
    refine rq (out:=ae (Rp.int .i64) x1) ag ?_
    refine rq (out:=Pr.i64 (x1.length:Int)) (cj rfl Tryz.underlying90) ?_
    refine rq (out:=Pr.i64 (w64 ((x1.length:Int) - 1))) qInt ?_
    refine rq (out:=Pr.i64 x22) ag ?_
    refine rq (out:=Pr.i64 (w64 ((w64 ((x1.length:Int) - 1)) - x22))) qInt ?_
    refine rq (out:=ae (Rp.int .i64) x2) ag ?_
    refine rq (out:=Pr.i64 (x2.length:Int)) (cj rfl Tryz.underlying90) ?_
    refine rq (out:=Pr.i64 (w64 ((x2.length:Int) - 1))) qInt ?_
    refine rq (out:=Pr.i64 x22) ag ?_
    refine rq (out:=Pr.i64 (w64 ((w64 ((x2.length:Int) - 1)) - x22))) qInt ?_
    obtain⟨x27,hx27,h2l⟩:=ah h2l
    refine rq (out:=cf v3 (Int.toNat (w64 ((w64 ((x1.length:Int) - 1)) - x22)) * (Rp.int .i64).size)) (ie 0 (R:=Rp.int .i64) (l:=x23) Tryz.underlying90 Tryz.sizeOf3 hx27) ?_
    refine lv (R:=Rp.int .i64) (R':=Rp.int .i64) (l:=x23) (a:=x27) (y:=w64 ((w64 ((x2.length:Int) - 1)) - x22)) (o:=0) 0 Tryz.sizeOf3 (Upd.refl _) hx27 rfl ?_
    refine W_r ?_
    refine rq (out:=Pr.i64 (w64 (x22+1))) qInt ?_
    refine rq (out:=Pr.i64 (w64 (x22+1))) ag ?_
    exact⟨m2,Nat.lt_succ_self _,w64 (x22+1),(List.set x23 (Int.toNat (w64 ((w64 ((x1.length:Int) - 1)) - x22))) (w64 ((w64 ((x2.length:Int) - 1)) - x22))),hn2 _ (Option.some.inj h2l).symm,⟨⟨aa,aa,aa,aa,aa,aa,aa,trivial⟩,Pick.refl _⟩⟩
   replace h2l:=iteF hc26 h2l
   refine cb ?_
   obtain rfl:=ho2 _ (Option.some.inj h2l).symm
   exact⟨x23,h,⟨⟨aa,aa,aa,trivial⟩,Pick.refl _⟩⟩
  refine cg (fun m e C=>∃(x15:Int),cv (fun s=>lcs_ends_l4 x2 x1 x5 s) m x15=some z4l/\At [(0,ae (Rp.int .i64) x1),(1,ae (Rp.int .i64) x2),(2,Pr.is v3),(8,Pr.i64 x5),(9,Pr.i64 x15)] [Own.vec v3 (Rp.int .i64) x6 3] e C) n4 ⟨0,hN4,⟨⟨aa,aa,aa,aa,aa,trivial⟩,Pick.refl _⟩⟩ ?_
  clear hN4
  rintro m e C ⟨x15,hN4,hatl4⟩
  refine W_at hatl4 ?_
  clear hatl4
  obtain⟨m4,w4l,rfl,h4l,hn4,ho4⟩:=ay hN4
  clear hN4
  replace h4l:lcs_ends_l4 x2 x1 x5 x15=some w4l:=h4l
  unfold lcs_ends_l4 at h4l
  refine ax ?_
  refine bd (fun e C=>∃(x20:Bool),lcs_ends_j5 x15 x20=some w4l/\At [(0,ae (Rp.int .i64) x1),(1,ae (Rp.int .i64) x2),(2,Pr.is v3),(8,Pr.i64 x5),(9,Pr.i64 x15),(62,Pr.bool x20)] [Own.vec v3 (Rp.int .i64) x6 3] e C) ?_ ?_
  ·rintro e C ⟨x20,h4l,hat5⟩
   refine W_at hat5 ?_
   clear hat5
   unfold lcs_ends_j5 at h4l
   refine ar (b:=x20) rfl (fun hc21=> ?_) (fun hc21=> ?_)
   ·replace h4l:=iteT hc21 h4l
    refine av ?_
    refine aq ?_
    refine W_r ?_
    refine rq (out:=Pr.i64 x15) ag ?_
    refine rq (out:=Pr.i64 (w64 (x15+1))) qInt ?_
    refine rq (out:=Pr.i64 (w64 (x15+1))) ab ?_
    exact⟨m4,Nat.lt_succ_self _,w64 (x15+1),hn4 _ (Option.some.inj h4l).symm,⟨⟨aa,aa,aa,aa,aa,trivial⟩,Pick.refl _⟩⟩
   replace h4l:=iteF hc21 h4l
   refine cb ?_
   obtain rfl:=ho4 _ (Option.some.inj h4l).symm
   exact⟨x15,h,⟨⟨aa,aa,aa,aa,aa,trivial⟩,Pick.refl _⟩⟩
  refine ea 28 hmx (by kernel_rfl) (by kernel_rfl) ?_
  refine qq (out:=Pr.i64 x15) ag ?_
  refine qq (out:=ae (Rp.int .i64) x1) ag ?_
  refine qq (out:=Pr.i64 (x1.length:Int)) (cj rfl Tryz.underlying90) ?_
  refine qq (out:=ae (Rp.int .i64) x2) ag ?_
  refine qq (out:=Pr.i64 (x2.length:Int)) (cj rfl Tryz.underlying90) ?_
  refine qq (out:=Pr.i64 (if(x2.length:Int)<(x1.length:Int)then(x2.length:Int)else(x1.length:Int))) (qMin (a:=(x1.length:Int)) (b:=(x2.length:Int))) ?_
  refine qq (out:=Pr.i64 x5) ag ?_
  refine qq (out:=Pr.i64 (w64 ((if(x2.length:Int)<(x1.length:Int)then(x2.length:Int)else(x1.length:Int)) - x5))) qInt ?_
  refine qq (out:=Pr.bool (decide (x15<(w64 ((if(x2.length:Int)<(x1.length:Int)then(x2.length:Int)else(x1.length:Int)) - x5))))) qInt ?_
  refine qq (out:=Pr.bool (decide (x15<(w64 ((if(x2.length:Int)<(x1.length:Int)then(x2.length:Int)else(x1.length:Int)) - x5))))) ag ?_
  rcases bj h4l with⟨hc17,h4l⟩|⟨hc17,h4l⟩
  ·refine qqg hc17 (out:=ae (Rp.int .i64) x1) ag ?_
   refine qqg hc17 (out:=ae (Rp.int .i64) x1) ag ?_
   refine qqg hc17 (out:=Pr.i64 (x1.length:Int)) (cj rfl Tryz.underlying90) ?_
   refine qqg hc17 (out:=Pr.i64 (w64 ((x1.length:Int) - 1))) qInt ?_
   refine qqg hc17 (out:=Pr.i64 x15) ag ?_
   refine qqg hc17 (out:=Pr.i64 (w64 ((w64 ((x1.length:Int) - 1)) - x15))) qInt ?_
   obtain⟨x18,hx18,h4l⟩:=ah h4l
   refine qqg hc17 (out:=a5 (Rp.int .i64) x18) (co (R:=Rp.int .i64) (l:=x1) Tryz.underlying90 Tryz.sizeOf3 hx18) ?_
   refine qqg hc17 (out:=Pr.i64 x18) (bh (R:=Rp.int .i64) (a:=x18) ty3) ?_
   refine qqg hc17 (out:=ae (Rp.int .i64) x2) ag ?_
   refine qqg hc17 (out:=ae (Rp.int .i64) x2) ag ?_
   refine qqg hc17 (out:=Pr.i64 (x2.length:Int)) (cj rfl Tryz.underlying90) ?_
   refine qqg hc17 (out:=Pr.i64 (w64 ((x2.length:Int) - 1))) qInt ?_
   refine qqg hc17 (out:=Pr.i64 x15) ag ?_
   refine qqg hc17 (out:=Pr.i64 (w64 ((w64 ((x2.length:Int) - 1)) - x15))) qInt ?_
   obtain⟨x19,hx19,h4l⟩:=ah h4l
   refine qqg hc17 (out:=a5 (Rp.int .i64) x19) (co (R:=Rp.int .i64) (l:=x2) Tryz.underlying90 Tryz.sizeOf3 hx19) ?_
   refine qqg hc17 (out:=Pr.i64 x19) (bh (R:=Rp.int .i64) (a:=x19) ty3) ?_
   refine qqg hc17 (out:=Pr.bool (x18==x19)) qInt ?_
   refine qq (out:=Pr.bool (x18==x19)) (bv hc17) ?_
   exact⟨x18==x19,h4l,⟨⟨aa,aa,aa,aa,aa,aa,trivial⟩,Pick.refl _⟩⟩
  refine qqno (neT hc17) ?_
  refine qqno (neT hc17) ?_
  refine qqno (neT hc17) ?_
  refine qqno (neT hc17) ?_
  refine qqno (neT hc17) ?_
  refine qqno (neT hc17) ?_
  refine qqno (neT hc17) ?_
  refine qqno (neT hc17) ?_
  refine qqno (neT hc17) ?_
  refine qqno (neT hc17) ?_
  refine qqno (neT hc17) ?_
  refine qqno (neT hc17) ?_
  refine qqno (neT hc17) ?_
  refine qqno (neT hc17) ?_
  refine qqno (neT hc17) ?_
  refine qqno (neT hc17) ?_
  refine qqno (neT hc17) ?_
  refine qq (out:=Pr.bool false) (a7 hc17) ?_
  exact⟨false,h4l,⟨⟨aa,aa,aa,aa,aa,aa,trivial⟩,Pick.refl _⟩⟩
 refine cg (fun m e C=>∃(x5:Int),∃(x6:List Int),cv (fun s=>lcs_ends_l7 x2 x1 s.1 s.2) m (x5,x6)=some z7l/\At [(0,ae (Rp.int .i64) x1),(1,ae (Rp.int .i64) x2),(2,Pr.is v3),(8,Pr.i64 x5)] [Own.vec v3 (Rp.int .i64) x6 3] e C) n7 ⟨0,x4,hN7,⟨⟨aa,aa,aa,aa,trivial⟩,Pick.refl _⟩⟩ ?_
 clear hN7
 rintro m e C ⟨x5,x6,hN7,hatl7⟩
 refine W_at hatl7 ?_
 clear hatl7
 obtain⟨m7,w7l,rfl,h7l,hn7,ho7⟩:=ay hN7
 clear hN7
 replace h7l:lcs_ends_l7 x2 x1 x5 x6=some w7l:=h7l
 unfold lcs_ends_l7 at h7l
 refine ax ?_
 refine bd (fun e C=>∃(x12:Bool),lcs_ends_j8 x6 x5 x12=some w7l/\At [(0,ae (Rp.int .i64) x1),(1,ae (Rp.int .i64) x2),(2,Pr.is v3),(8,Pr.i64 x5),(28,Pr.bool x12)] [Own.vec v3 (Rp.int .i64) x6 3] e C) ?_ ?_
 ·rintro e C ⟨x12,h7l,hat8⟩
  refine W_at hat8 ?_
  clear hat8
  unfold lcs_ends_j8 at h7l
  refine ar (b:=x12) rfl (fun hc13=> ?_) (fun hc13=> ?_)
  ·replace h7l:=iteT hc13 h7l
   refine av ?_
   refine aq ?_
   refine W_rs ?_
   refine rq (out:=Pr.is v3) ag ?_
   refine rq (out:=Pr.i64 x5) ag ?_
   refine rq (out:=Pr.i64 x5) ag ?_
   obtain⟨x14,hx14,h7l⟩:=ah h7l
   refine rq (out:=cf v3 (Int.toNat x5 * (Rp.int .i64).size)) (ie 0 (R:=Rp.int .i64) (l:=x6) Tryz.underlying90 Tryz.sizeOf3 hx14) ?_
   refine lv (R:=Rp.int .i64) (R':=Rp.int .i64) (l:=x6) (a:=x14) (y:=x5) (o:=0) 0 Tryz.sizeOf3 (Upd.refl _) hx14 rfl ?_
   refine W_r ?_
   refine rq (out:=Pr.i64 x5) ag ?_
   refine rq (out:=Pr.i64 (w64 (x5+1))) qInt ?_
   refine rq (out:=Pr.i64 (w64 (x5+1))) ab ?_
   exact⟨m7,Nat.lt_succ_self _,w64 (x5+1),(List.set x6 (Int.toNat x5) x5),hn7 _ (Option.some.inj h7l).symm,⟨⟨aa,aa,aa,aa,trivial⟩,Pick.refl _⟩⟩
  replace h7l:=iteF hc13 h7l
  refine cb ?_
  obtain rfl:=ho7 _ (Option.some.inj h7l).symm
  exact⟨x5,x6,h,⟨⟨aa,aa,aa,aa,trivial⟩,Pick.refl _⟩⟩
 refine ea 18 hmx (by kernel_rfl) (by kernel_rfl) ?_
 refine qq (out:=Pr.i64 x5) ag ?_
 refine qq (out:=ae (Rp.int .i64) x1) ag ?_
 refine qq (out:=Pr.i64 (x1.length:Int)) (cj rfl Tryz.underlying90) ?_
 refine qq (out:=ae (Rp.int .i64) x2) ag ?_
 refine qq (out:=Pr.i64 (x2.length:Int)) (cj rfl Tryz.underlying90) ?_
 refine qq (out:=Pr.i64 (if(x2.length:Int)<(x1.length:Int)then(x2.length:Int)else(x1.length:Int))) (qMin (a:=(x1.length:Int)) (b:=(x2.length:Int))) ?_
 refine qq (out:=Pr.bool (decide (x5<(if(x2.length:Int)<(x1.length:Int)then(x2.length:Int)else(x1.length:Int))))) qInt ?_
 refine qq (out:=Pr.bool (decide (x5<(if(x2.length:Int)<(x1.length:Int)then(x2.length:Int)else(x1.length:Int))))) ag ?_
 rcases bj h7l with⟨hc9,h7l⟩|⟨hc9,h7l⟩
 ·refine qqg hc9 (out:=ae (Rp.int .i64) x1) ag ?_
  refine qqg hc9 (out:=Pr.i64 x5) ag ?_
  obtain⟨x10,hx10,h7l⟩:=ah h7l
  refine qqg hc9 (out:=a5 (Rp.int .i64) x10) (co (R:=Rp.int .i64) (l:=x1) Tryz.underlying90 Tryz.sizeOf3 hx10) ?_
  refine qqg hc9 (out:=Pr.i64 x10) (bh (R:=Rp.int .i64) (a:=x10) ty3) ?_
  refine qqg hc9 (out:=ae (Rp.int .i64) x2) ag ?_
  refine qqg hc9 (out:=Pr.i64 x5) ag ?_
  obtain⟨x11,hx11,h7l⟩:=ah h7l
  refine qqg hc9 (out:=a5 (Rp.int .i64) x11) (co (R:=Rp.int .i64) (l:=x2) Tryz.underlying90 Tryz.sizeOf3 hx11) ?_
  refine qqg hc9 (out:=Pr.i64 x11) (bh (R:=Rp.int .i64) (a:=x11) ty3) ?_
  refine qqg hc9 (out:=Pr.bool (x10==x11)) qInt ?_
  refine qq (out:=Pr.bool (x10==x11)) (bv hc9) ?_
  exact⟨x10==x11,h7l,⟨⟨aa,aa,aa,aa,aa,trivial⟩,Pick.refl _⟩⟩
 refine qqno (neT hc9) ?_
 refine qqno (neT hc9) ?_
 refine qqno (neT hc9) ?_
 refine qqno (neT hc9) ?_
 refine qqno (neT hc9) ?_
 refine qqno (neT hc9) ?_
 refine qqno (neT hc9) ?_
 refine qqno (neT hc9) ?_
 refine qqno (neT hc9) ?_
 refine qq (out:=Pr.bool false) (a7 hc9) ?_
 exact⟨false,h7l,⟨⟨aa,aa,aa,aa,aa,trivial⟩,Pick.refl _⟩⟩
theorem lcs_Match_ok (x1 x2:List Int) (r:(List Int)) (h:lcs_Match x1 x2=some r):FnP Tryz.prog 86 [ae (Rp.int .i64) x1,ae (Rp.int .i64) x2] (ae (Rp.int .i64) r):=by
 refine a8 (n:=79) (rs:=[4]) Tryz.func86 rfl Tryz.ntmps86 ⟨by decide,Tryz.results86⟩ (by decide) (fun s0=> ?_)
 unfold lcs_Match at h
 refine W_rs ?_
 refine rq (out:=Pr.is (.slice none 0 0)) ab ?_
 refine W_rs ?_
 refine rq (out:=ae (Rp.int .i64) x1) ag ?_
 refine rq (out:=Pr.i64 (x1.length:Int)) (cj rfl Tryz.underlying90) ?_
 obtain⟨x3,hx3,h⟩:=ah h
 refine pb [] (lcs_none_ok (x1.length:Int) _ hx3) (fun q C' hq=> ?_)
 obtain⟨v4,rfl,rfl⟩:=hq
 refine rq (out:=Pr.is v4) ab ?_
 refine ax ?_
 refine bd (fun e C=>∃(x6:Bool),ph x1 x2 x3 x6=some r/\At [(0,ae (Rp.int .i64) x1),(1,ae (Rp.int .i64) x2),(5,Pr.is v4),(19,Pr.bool x6)] [Own.vec v4 (Rp.int .i64) x3 3] e C) ?_ ?_
 ·rintro e C ⟨x6,h,hat6⟩
  refine W_at hat6 ?_
  clear hat6
  unfold ph at h
  refine ar (b:=x6) rfl (fun hc7=> ?_) (fun hc7=> ?_)
  ·replace h:=iteT hc7 h
   refine W_rs ?_
   refine rq (out:=ae (Rp.int .i64) x1) ag ?_
   refine rq (out:=ae (Rp.int .i64) x2) ag ?_
   refine rq (out:=Pr.is v4) ag ?_
   obtain⟨⟨x8,x9,x10⟩,hx8,h⟩:=ah h
   refine pb [0] (lcs_ends_ok x1 x2 x3 v4 _ hx8) (fun q C' hq=> ?_)
   obtain⟨rfl,rfl⟩:=hq
   refine W_rs ?_
   refine rq (out:=Pr.is v4) ag ?_
   refine rq (out:=Pr.is v4) ab ?_
   refine mq 0 [4] ?_ rfl ⟨rfl,trivial⟩
   obtain rfl:=Option.some.inj h
   exact a9 ⟨rfl,aa⟩
  replace h:=iteF hc7 h
  refine av ?_
  refine W_rs ?_
  refine rq (out:=ae (Rp.int .i64) x1) ag ?_
  refine rq (out:=ae (Rp.int .i64) x2) ag ?_
  obtain⟨x11,hx11,h⟩:=ah h
  refine rq (out:=ae (aj (Rp.int .i32)) x11) (bq (lcs_left_ok x1 x2 _ hx11)) ?_
  refine rq (out:=ae (aj (Rp.int .i32)) x11) ab ?_
  refine ax ?_
  refine W_rs ?_
  refine rq (out:=Pr.i64 0) ab ?_
  refine rq (out:=Pr.i64 0) ab ?_
  refine aq ?_
  obtain⟨z2l,hz2,h⟩:=ah h
  obtain⟨n2,hN2⟩:=a4 hz2
  clear hz2
  refine bp 0 (fun e C=>∃(x14:List Int),lcs_Match_k1 x14=some r/\At [(5,Pr.is v4)] [Own.vec v4 (Rp.int .i64) x14 3] e C) ?_ ?_
  ·rintro e C ⟨x14,h,hat1⟩
   refine W_at hat1 ?_
   clear hat1
   unfold lcs_Match_k1 at h
   refine W_rs ?_
   refine rq (out:=Pr.is v4) ag ?_
   refine rq (out:=Pr.is v4) ab ?_
   refine mq 0 [4] ?_ rfl ⟨rfl,trivial⟩
   obtain rfl:=Option.some.inj h
   exact a9 ⟨rfl,aa⟩
  refine cg (fun m e C=>∃(x12:Int),∃(x13:Int),∃(x14:List Int),cv (fun s=>f9 x1 x2 x11 s.1 s.2.1 s.2.2) m (x12,x13,x14)=some z2l/\At [(0,ae (Rp.int .i64) x1),(1,ae (Rp.int .i64) x2),(5,Pr.is v4),(6,ae (aj (Rp.int .i32)) x11),(7,Pr.i64 x12),(8,Pr.i64 x13)] [Own.vec v4 (Rp.int .i64) x14 3] e C) n2 ⟨0,0,x3,hN2,⟨⟨aa,aa,aa,aa,aa,aa,trivial⟩,Pick.refl _⟩⟩ ?_
  clear hN2
  rintro m e C ⟨x12,x13,x14,hN2,hatl2⟩
  refine W_at hatl2 ?_
  clear hatl2
  obtain⟨m2,w2l,rfl,h2l,hn2,ho2⟩:=ay hN2
  clear hN2
  replace h2l:f9 x1 x2 x11 x12 x13 x14=some w2l:=h2l
  unfold f9 at h2l
  refine ax ?_
  refine bd (fun e C=>∃(x19:Bool),jx x1 x12 x2 x13 x14 x11 x19=some w2l/\At [(0,ae (Rp.int .i64) x1),(1,ae (Rp.int .i64) x2),(5,Pr.is v4),(6,ae (aj (Rp.int .i32)) x11),(7,Pr.i64 x12),(8,Pr.i64 x13),(37,Pr.bool x19)] [Own.vec v4 (Rp.int .i64) x14 3] e C) ?_ ?_
  ·rintro e C ⟨x19,h2l,hat5⟩
   refine W_at hat5 ?_
   clear hat5
   unfold jx at h2l
   refine ar (b:=x19) rfl (fun hc20=> ?_) (fun hc20=> ?_)
   ·replace h2l:=iteT hc20 h2l
    refine av ?_
    refine aq ?_
    refine aq ?_
    refine bd (fun e C=>∃(x21:Int),∃(x22:Int),jy x14 x12 x13 x11 x21 x22=some w2l/\At [(0,ae (Rp.int .i64) x1),(1,ae (Rp.int .i64) x2),(5,Pr.is v4),(6,ae (aj (Rp.int .i32)) x11),(7,Pr.i64 x12),(8,Pr.i64 x13),(40,Pr.bool (x21==x22))] [Own.vec v4 (Rp.int .i64) x14 3] e C) ?_ ?_
    ·rintro e C ⟨x21,x22,h2l,hat4⟩
     refine W_at hat4 ?_
     clear hat4
     unfold jy at h2l
     refine ar (b:=x21==x22) rfl (fun hc23=> ?_) (fun hc23=> ?_)
     ·replace h2l:=iteT hc23 h2l
      refine W_rs ?_
      refine rq (out:=Pr.is v4) ag ?_
      refine rq (out:=Pr.i64 x12) ag ?_
      refine rq (out:=Pr.i64 x13) ag ?_
      obtain⟨x24,hx24,h2l⟩:=ah h2l
      refine rq (out:=cf v4 (Int.toNat x12 * (Rp.int .i64).size)) (ie 0 (R:=Rp.int .i64) (l:=x14) Tryz.underlying90 Tryz.sizeOf3 hx24) ?_
      refine lv (R:=Rp.int .i64) (R':=Rp.int .i64) (l:=x14) (a:=x24) (y:=x13) (o:=0) 0 Tryz.sizeOf3 (Upd.refl _) hx24 rfl ?_
      refine W_r ?_
      refine rq (out:=Pr.i64 x12) ag ?_
      refine rq (out:=Pr.i64 (w64 (x12+1))) qInt ?_
      refine rq (out:=Pr.i64 x13) ag ?_
      refine rq (out:=Pr.i64 (w64 (x13+1))) qInt ?_
      refine rq (out:=Pr.i64 (w64 (x12+1))) ab ?_
      refine rq (out:=Pr.i64 (w64 (x13+1))) ab ?_
      exact⟨m2,Nat.lt_succ_self _,w64 (x12+1),w64 (x13+1),(List.set x14 (Int.toNat x12) x13),hn2 _ (Option.some.inj h2l).symm,⟨⟨aa,aa,aa,aa,aa,aa,trivial⟩,Pick.refl _⟩⟩
     replace h2l:=iteF hc23 h2l
     refine bd (fun e C=>∃(x26:Int),∃(x28:Int),jz x12 x13 x14 x26 x28=some w2l/\At [(0,ae (Rp.int .i64) x1),(1,ae (Rp.int .i64) x2),(5,Pr.is v4),(6,ae (aj (Rp.int .i32)) x11),(7,Pr.i64 x12),(8,Pr.i64 x13),(58,Pr.bool (decide (x26≥x28)))] [Own.vec v4 (Rp.int .i64) x14 3] e C) ?_ ?_
     ·rintro e C ⟨x26,x28,h2l,hat3⟩
      refine W_at hat3 ?_
      clear hat3
      unfold jz at h2l
      refine ar (b:=decide (x26≥x28)) rfl (fun hc29=> ?_) (fun hc29=> ?_)
      ·replace h2l:=iteT hc29 h2l
       refine W_r ?_
       refine rq (out:=Pr.i64 x12) ag ?_
       refine rq (out:=Pr.i64 (w64 (x12+1))) qInt ?_
       refine rq (out:=Pr.i64 (w64 (x12+1))) ab ?_
       exact⟨m2,Nat.lt_succ_self _,w64 (x12+1),x13,x14,hn2 _ (Option.some.inj h2l).symm,⟨⟨aa,aa,aa,aa,aa,aa,trivial⟩,Pick.refl _⟩⟩
      replace h2l:=iteF hc29 h2l
      refine W_r ?_
      refine rq (out:=Pr.i64 x13) ag ?_
      refine rq (out:=Pr.i64 (w64 (x13+1))) qInt ?_
      refine rq (out:=Pr.i64 (w64 (x13+1))) ab ?_
      exact⟨m2,Nat.lt_succ_self _,x12,w64 (x13+1),x14,hn2 _ (Option.some.inj h2l).symm,⟨⟨aa,aa,aa,aa,aa,aa,trivial⟩,Pick.refl _⟩⟩
     refine ea 18 hmx (by kernel_rfl) (by kernel_rfl) ?_
     refine qq (out:=ae (aj (Rp.int .i32)) x11) ag ?_
     refine qq (out:=Pr.i64 x12) ag ?_
     refine qq (out:=Pr.i64 (w64 (x12+1))) qInt ?_
     obtain⟨x25,hx25,h2l⟩:=ah h2l
     refine qq (out:=a5 (aj (Rp.int .i32)) x25) (co (R:=aj (Rp.int .i32)) (l:=x11) Tryz.underlying150 Tryz.sizeOf152 hx25) ?_
     refine qq (out:=ae (Rp.int .i32) x25) (bh (R:=aj (Rp.int .i32)) (a:=x25) ty152) ?_
     refine qq (out:=Pr.i64 x13) ag ?_
     obtain⟨x26,hx26,h2l⟩:=ah h2l
     refine qq (out:=a5 (Rp.int .i32) x26) (co (R:=Rp.int .i32) (l:=x25) Tryz.underlying152 Tryz.sizeOf21 hx26) ?_
     refine qq (out:=Pr.int .i32 x26) (bh (R:=Rp.int .i32) (a:=x26) ty21) ?_
     refine qq (out:=ae (aj (Rp.int .i32)) x11) ag ?_
     refine qq (out:=Pr.i64 x12) ag ?_
     obtain⟨x27,hx27,h2l⟩:=ah h2l
     refine qq (out:=a5 (aj (Rp.int .i32)) x27) (co (R:=aj (Rp.int .i32)) (l:=x11) Tryz.underlying150 Tryz.sizeOf152 hx27) ?_
     refine qq (out:=ae (Rp.int .i32) x27) (bh (R:=aj (Rp.int .i32)) (a:=x27) ty152) ?_
     refine qq (out:=Pr.i64 x13) ag ?_
     refine qq (out:=Pr.i64 (w64 (x13+1))) qInt ?_
     obtain⟨x28,hx28,h2l⟩:=ah h2l
     refine qq (out:=a5 (Rp.int .i32) x28) (co (R:=Rp.int .i32) (l:=x27) Tryz.underlying152 Tryz.sizeOf21 hx28) ?_
     refine qq (out:=Pr.int .i32 x28) (bh (R:=Rp.int .i32) (a:=x28) ty21) ?_
     refine qq (out:=Pr.bool (decide (x26≥x28))) qInt ?_
     refine qq (out:=Pr.bool (decide (x26≥x28))) ab ?_
     exact⟨x26,x28,h2l,⟨⟨aa,aa,aa,aa,aa,aa,aa,trivial⟩,Pick.refl _⟩⟩
    refine ea 10 hmx (by kernel_rfl) (by kernel_rfl) ?_
    refine qq (out:=ae (Rp.int .i64) x1) ag ?_
    refine qq (out:=Pr.i64 x12) ag ?_
    obtain⟨x21,hx21,h2l⟩:=ah h2l
    refine qq (out:=a5 (Rp.int .i64) x21) (co (R:=Rp.int .i64) (l:=x1) Tryz.underlying90 Tryz.sizeOf3 hx21) ?_
    refine qq (out:=Pr.i64 x21) (bh (R:=Rp.int .i64) (a:=x21) ty3) ?_
    refine qq (out:=ae (Rp.int .i64) x2) ag ?_
    refine qq (out:=Pr.i64 x13) ag ?_
    obtain⟨x22,hx22,h2l⟩:=ah h2l
    refine qq (out:=a5 (Rp.int .i64) x22) (co (R:=Rp.int .i64) (l:=x2) Tryz.underlying90 Tryz.sizeOf3 hx22) ?_
    refine qq (out:=Pr.i64 x22) (bh (R:=Rp.int .i64) (a:=x22) ty3) ?_
    refine qq (out:=Pr.bool (x21==x22)) qInt ?_
    refine qq (out:=Pr.bool (x21==x22)) ab ?_
    exact⟨x21,x22,h2l,⟨⟨aa,aa,aa,aa,aa,aa,aa,trivial⟩,Pick.refl _⟩⟩
   replace h2l:=iteF hc20 h2l
   refine cb ?_
   obtain rfl:=ho2 _ (Option.some.inj h2l).symm
   exact⟨x14,h,⟨⟨aa,trivial⟩,Pick.refl _⟩⟩
  refine W_r ?_
  refine rq (out:=Pr.i64 x12) ag ?_
  refine rq (out:=ae (Rp.int .i64) x1) ag ?_
  refine rq (out:=Pr.i64 (x1.length:Int)) (cj rfl Tryz.underlying90) ?_
  refine rq (out:=Pr.bool (decide (x12<(x1.length:Int)))) qInt ?_
  refine rq (out:=Pr.bool (decide (x12<(x1.length:Int)))) ag ?_
  rcases bj h2l with⟨hc18,h2l⟩|⟨hc18,h2l⟩
  ·refine rqg hc18 (out:=Pr.i64 x13) ag ?_
   refine rqg hc18 (out:=ae (Rp.int .i64) x2) ag ?_
   refine rqg hc18 (out:=Pr.i64 (x2.length:Int)) (cj rfl Tryz.underlying90) ?_
   refine rqg hc18 (out:=Pr.bool (decide (x13<(x2.length:Int)))) qInt ?_
   refine rq (out:=Pr.bool (decide (x13<(x2.length:Int)))) (bv hc18) ?_
   exact⟨decide (x13<(x2.length:Int)),h2l,⟨⟨aa,aa,aa,aa,aa,aa,aa,trivial⟩,Pick.refl _⟩⟩
  refine rno (neT hc18) ?_
  refine rno (neT hc18) ?_
  refine rno (neT hc18) ?_
  refine rno (neT hc18) ?_
  refine rq (out:=Pr.bool false) (a7 hc18) ?_
  exact⟨false,h2l,⟨⟨aa,aa,aa,aa,aa,aa,aa,trivial⟩,Pick.refl _⟩⟩
 refine W_r ?_
 refine rq (out:=ae (Rp.int .i64) x1) ag ?_
 refine rq (out:=Pr.i64 (x1.length:Int)) (cj rfl Tryz.underlying90) ?_
 refine rq (out:=Pr.bool (decide ((x1.length:Int)>2000))) qInt ?_
 refine rq (out:=Pr.bool (decide ((x1.length:Int)>2000))) ag ?_
 rcases bj h with⟨hc5,h⟩|⟨hc5,h⟩
 ·refine rno (neF hc5) ?_
  refine rno (neF hc5) ?_
  refine rno (neF hc5) ?_
  refine rq (out:=Pr.bool true) (bv hc5) ?_
  exact⟨true,h,⟨⟨aa,aa,aa,aa,trivial⟩,Pick.refl _⟩⟩
 refine rqg hc5 (out:=ae (Rp.int .i64) x2) ag ?_
 refine rqg hc5 (out:=Pr.i64 (x2.length:Int)) (cj rfl Tryz.underlying90) ?_
 refine rqg hc5 (out:=Pr.bool (decide ((x2.length:Int)>2000))) qInt ?_
 refine rq (out:=Pr.bool (decide ((x2.length:Int)>2000))) (a7 hc5) ?_
 exact⟨decide ((x2.length:Int)>2000),h,⟨⟨aa,aa,aa,aa,trivial⟩,Pick.refl _⟩⟩
theorem diff3_chunks_1_1_ok (x2 x4:Diff3Ends) (x6 x8:List Int) (b1 b3 b5 b7:Nat) (r:Int × Diff3Ends × Diff3Ends × (List Int) × (List Int)) (h:ko x2 x4 x6 x8=some r):FnC Tryz.prog 87 [ap b1 0,ap b3 0,ap b5 0,ap b7 0] [Own.box b1 am x2,Own.box b3 am x4,Own.box b5 (aj (Rp.int .i64)) x6,Own.box b7 (aj (Rp.int .i64)) x8] (fun q C'=>q=Pr.i64 r.1/\C'=[Own.box b1 am r.2.1,Own.box b3 am r.2.2.1,Own.box b5 (aj (Rp.int .i64)) r.2.2.2.1,Own.box b7 (aj (Rp.int .i64)) r.2.2.2.2]):=by
 refine fj (n:=44) (rs:=[4]) Tryz.func87 rfl Tryz.ntmps87 ⟨by decide,Tryz.results87⟩ (by decide) (fun s0=> ?_)
 unfold ko at h
 refine W_rs ?_
 refine rq (out:=Pr.i64 0) ab ?_
 refine W_rs ?_
 refine rq (out:=Pr.i64 0) ab ?_
 refine ax ?_
 refine aq ?_
 obtain⟨z2l,hz2,h⟩:=ah h
 obtain⟨n2,hN2⟩:=a4 hz2
 clear hz2
 refine bp 0 (fun e C=>∃(x9:Int),kc x2 x4 x6 x8 x9=some r/\At [(0,ap b1 0),(1,ap b3 0),(2,ap b5 0),(3,ap b7 0),(5,Pr.i64 x9)] [Own.box b1 am x2,Own.box b3 am x4,Own.box b5 (aj (Rp.int .i64)) x6,Own.box b7 (aj (Rp.int .i64)) x8] e C) ?_ ?_
 ·rintro e C ⟨x9,h,hat1⟩
  refine W_at hat1 ?_
  clear hat1
  unfold kc at h
  refine W_rs ?_
  refine rq (out:=Pr.i64 x9) ag ?_
  refine rq (out:=Pr.i64 x9) ab ?_
  obtain rfl:=Option.some.inj h
  exact a9 ⟨.inl rfl,_,Pick.refl _,_,(aa),rfl,rfl⟩
 refine cg (fun m e C=>∃(x9:Int),cv (fun s=>db x2 x4 x6 x8 s) m x9=some z2l/\At [(0,ap b1 0),(1,ap b3 0),(2,ap b5 0),(3,ap b7 0),(5,Pr.i64 x9)] [Own.box b1 am x2,Own.box b3 am x4,Own.box b5 (aj (Rp.int .i64)) x6,Own.box b7 (aj (Rp.int .i64)) x8] e C) n2 ⟨0,hN2,⟨⟨aa,aa,aa,aa,aa,trivial⟩,Pick.refl _⟩⟩ ?_
 clear hN2
 rintro m e C ⟨x9,hN2,hatl2⟩
 refine W_at hatl2 ?_
 clear hatl2
 obtain⟨m2,w2l,rfl,h2l,hn2,ho2⟩:=ay hN2
 clear hN2
 replace h2l:db x2 x4 x6 x8 x9=some w2l:=h2l
 unfold db at h2l
 refine ax ?_
 refine bd (fun e C=>∃(x17:Bool),dl x9 x17=some w2l/\At [(0,ap b1 0),(1,ap b3 0),(2,ap b5 0),(3,ap b7 0),(5,Pr.i64 x9),(40,Pr.bool x17)] [Own.box b1 am x2,Own.box b3 am x4,Own.box b5 (aj (Rp.int .i64)) x6,Own.box b7 (aj (Rp.int .i64)) x8] e C) ?_ ?_
 ·rintro e C ⟨x17,h2l,hat3⟩
  refine W_at hat3 ?_
  clear hat3
  unfold dl at h2l
  refine ar (b:=x17) rfl (fun hc18=> ?_) (fun hc18=> ?_)
  ·replace h2l:=iteT hc18 h2l
   refine av ?_
   refine aq ?_
   refine W_r ?_
   refine rq (out:=Pr.i64 x9) ag ?_
   refine rq (out:=Pr.i64 (w64 (x9+1))) qInt ?_
   refine rq (out:=Pr.i64 (w64 (x9+1))) ab ?_
   exact⟨m2,Nat.lt_succ_self _,w64 (x9+1),hn2 _ (Option.some.inj h2l).symm,⟨⟨aa,aa,aa,aa,aa,trivial⟩,Pick.refl _⟩⟩
  replace h2l:=iteF hc18 h2l
  refine cb ?_
  obtain rfl:=ho2 _ (Option.some.inj h2l).symm
  exact⟨x9,h,⟨⟨aa,aa,aa,aa,aa,trivial⟩,Pick.refl _⟩⟩
 refine ea 35 hmx (by kernel_rfl) (by kernel_rfl) ?_
 refine qq (out:=ap b1 0) (az fld117_0) ?_
 refine qq (out:=Pr.i64 x2.o) (bg (R:=am) (a:=x2) (R':=Rp.int .i64) 0 ty3 ed) ?_
 refine qq (out:=Pr.i64 x9) ag ?_
 refine qq (out:=Pr.i64 (w64 (x2.o+x9))) qInt ?_
 refine qq (out:=ap b3 0) (az fld117_0) ?_
 refine qq (out:=Pr.i64 x4.o) (bg (R:=am) (a:=x4) (R':=Rp.int .i64) 1 ty3 ed) ?_
 refine qq (out:=Pr.bool (decide ((w64 (x2.o+x9))<x4.o))) qInt ?_
 refine qq (out:=Pr.bool (decide ((w64 (x2.o+x9))<x4.o))) ag ?_
 rcases bj h2l with⟨hc11,h2l⟩|⟨hc11,h2l⟩
 ·refine qqg hc11 (out:=ae (Rp.int .i64) x6) (bg (R:=aj (Rp.int .i64)) (a:=x6) (R':=aj (Rp.int .i64)) 2 ty90 (Sub.refl _)) ?_
  refine qqg hc11 (out:=ap b1 0) (az fld117_0) ?_
  refine qqg hc11 (out:=Pr.i64 x2.o) (bg (R:=am) (a:=x2) (R':=Rp.int .i64) 0 ty3 ed) ?_
  refine qqg hc11 (out:=Pr.i64 x9) ag ?_
  refine qqg hc11 (out:=Pr.i64 (w64 (x2.o+x9))) qInt ?_
  obtain⟨x12,hx12,h2l⟩:=ah h2l
  refine qqg hc11 (out:=a5 (Rp.int .i64) x12) (co (R:=Rp.int .i64) (l:=x6) Tryz.underlying90 Tryz.sizeOf3 hx12) ?_
  refine qqg hc11 (out:=Pr.i64 x12) (bh (R:=Rp.int .i64) (a:=x12) ty3) ?_
  refine qqg hc11 (out:=ap b1 1) (az fld117_1) ?_
  refine qqg hc11 (out:=Pr.i64 x2.a) (bg (R:=am) (a:=x2) (R':=Rp.int .i64) 0 ty3 kz) ?_
  refine qqg hc11 (out:=Pr.i64 x9) ag ?_
  refine qqg hc11 (out:=Pr.i64 (w64 (x2.a+x9))) qInt ?_
  refine qqg hc11 (out:=Pr.bool (x12==(w64 (x2.a+x9)))) qInt ?_
  refine qq (out:=Pr.bool (x12==(w64 (x2.a+x9)))) (bv hc11) ?_
  refine qq (out:=Pr.bool (x12==(w64 (x2.a+x9)))) ag ?_
  rcases bj h2l with⟨hc13,h2l⟩|⟨hc13,h2l⟩
  ·refine qqg hc13 (out:=ae (Rp.int .i64) x8) (bg (R:=aj (Rp.int .i64)) (a:=x8) (R':=aj (Rp.int .i64)) 3 ty90 (Sub.refl _)) ?_
   refine qqg hc13 (out:=ap b1 0) (az fld117_0) ?_
   refine qqg hc13 (out:=Pr.i64 x2.o) (bg (R:=am) (a:=x2) (R':=Rp.int .i64) 0 ty3 ed) ?_
   refine qqg hc13 (out:=Pr.i64 x9) ag ?_
   refine qqg hc13 (out:=Pr.i64 (w64 (x2.o+x9))) qInt ?_
   obtain⟨x14,hx14,h2l⟩:=ah h2l
   refine qqg hc13 (out:=a5 (Rp.int .i64) x14) (co (R:=Rp.int .i64) (l:=x8) Tryz.underlying90 Tryz.sizeOf3 hx14) ?_
   refine qqg hc13 (out:=Pr.i64 x14) (bh (R:=Rp.int .i64) (a:=x14) ty3) ?_
   refine qqg hc13 (out:=ap b1 2) (az fld117_2) ?_
   refine qqg hc13 (out:=Pr.i64 x2.b) (bg (R:=am) (a:=x2) (R':=Rp.int .i64) 0 ty3 ky) ?_
   refine qqg hc13 (out:=Pr.i64 x9) ag ?_
   refine qqg hc13 (out:=Pr.i64 (w64 (x2.b+x9))) qInt ?_
   refine qqg hc13 (out:=Pr.bool (x14==(w64 (x2.b+x9)))) qInt ?_
   refine qq (out:=Pr.bool (x14==(w64 (x2.b+x9)))) (bv hc13) ?_
   exact⟨x14==(w64 (x2.b+x9)),h2l,⟨⟨aa,aa,aa,aa,aa,aa,trivial⟩,Pick.refl _⟩⟩
  refine qqno (neT hc13) ?_
  refine qqno (neT hc13) ?_
  refine qqno (neT hc13) ?_
  refine qqno (neT hc13) ?_
  refine qqno (neT hc13) ?_
  refine qqno (neT hc13) ?_
  refine qqno (neT hc13) ?_
  refine qqno (neT hc13) ?_
  refine qqno (neT hc13) ?_
  refine qqno (neT hc13) ?_
  refine qqno (neT hc13) ?_
  refine qqno (neT hc13) ?_
  refine qq (out:=Pr.bool false) (a7 hc13) ?_
  exact⟨false,h2l,⟨⟨aa,aa,aa,aa,aa,aa,trivial⟩,Pick.refl _⟩⟩
 refine qqno (neT hc11) ?_
 refine qqno (neT hc11) ?_
 refine qqno (neT hc11) ?_
 refine qqno (neT hc11) ?_
 refine qqno (neT hc11) ?_
 refine qqno (neT hc11) ?_
 refine qqno (neT hc11) ?_
 refine qqno (neT hc11) ?_
 refine qqno (neT hc11) ?_
 refine qqno (neT hc11) ?_
 refine qqno (neT hc11) ?_
 refine qqno (neT hc11) ?_
 refine qq (out:=Pr.bool false) (a7 hc11) ?_
 refine qq (out:=Pr.bool false) ag ?_
 have hc15:false=false:=rfl
 refine qqno (neT hc15) ?_
 refine qqno (neT hc15) ?_
 refine qqno (neT hc15) ?_
 refine qqno (neT hc15) ?_
 refine qqno (neT hc15) ?_
 refine qqno (neT hc15) ?_
 refine qqno (neT hc15) ?_
 refine qqno (neT hc15) ?_
 refine qqno (neT hc15) ?_
 refine qqno (neT hc15) ?_
 refine qqno (neT hc15) ?_
 refine qqno (neT hc15) ?_
 refine qq (out:=Pr.bool false) (a7 hc15) ?_
 exact⟨false,h2l,⟨⟨aa,aa,aa,aa,aa,aa,trivial⟩,Pick.refl _⟩⟩
theorem diff3_chunks_1_2_ok (x2 x4:Diff3Ends) (x6 x8:List Int) (b1 b3 b5 b7:Nat) (r:Diff3Ends × Diff3Ends × Diff3Ends × (List Int) × (List Int)) (h:km x2 x4 x6 x8=some r):FnC Tryz.prog 88 [ap b1 0,ap b3 0,ap b5 0,ap b7 0] [Own.box b1 am x2,Own.box b3 am x4,Own.box b5 (aj (Rp.int .i64)) x6,Own.box b7 (aj (Rp.int .i64)) x8] (fun q C'=>q=(am).val r.1/\C'=[Own.box b1 am r.2.1,Own.box b3 am r.2.2.1,Own.box b5 (aj (Rp.int .i64)) r.2.2.2.1,Own.box b7 (aj (Rp.int .i64)) r.2.2.2.2]):=by
 refine fnc_introR (n:=37) (rs:=[.cell 4 117]) Tryz.func88 rfl Tryz.ntmps88 Tryz.results88 (by decide) (fun s0=> ?_)
 unfold km at h
 refine W_rs ?_
 refine np (R:=am) (z:=(Diff3Ends.mk 0 0 0)) Tryz.zeroValue117 (fun _=>⟨_,⟨_,_,rfl,rfl,⟨_,_,rfl,rfl,⟨_,_,rfl,rfl,rfl⟩⟩⟩,rfl⟩) (fun b9=> ?_)
 refine ax ?_
 refine W_rs ?_
 refine rq (out:=ap b1 0) (az fld117_0) ?_
 refine rq (out:=Pr.i64 x2.o) (bg (R:=am) (a:=x2) (R':=Rp.int .i64) 0 ty3 ed) ?_
 refine rq (out:=Pr.i64 x2.o) ab ?_
 refine aq ?_
 obtain⟨z2l,hz2,h⟩:=ah h
 obtain⟨n2,hN2⟩:=a4 hz2
 clear hz2
 refine bp 0 (fun e C=>pa x4 x2 x6 x8=some r/\At [(0,ap b1 0),(1,ap b3 0),(2,ap b5 0),(3,ap b7 0),(4,ap b9 0)] [Own.box b1 am x2,Own.box b3 am x4,Own.box b5 (aj (Rp.int .i64)) x6,Own.box b7 (aj (Rp.int .i64)) x8,Own.box b9 am (Diff3Ends.mk 0 0 0)] e C) ?_ ?_
 ·rintro e C ⟨h,hat1⟩
  refine W_at hat1 ?_
  clear hat1
  unfold pa at h
  refine W_rs ?_
  refine rq (out:=(am).val x4) (bg (R:=am) (a:=x4) (R':=am) 1 ty117 (Sub.refl _)) ?_
  refine en (R:=am) (R':=am) (a:=(Diff3Ends.mk 0 0 0)) (y:=x4) 4 Tryz.sizeOf117 (Upd.refl _) ?_
  obtain rfl:=Option.some.inj h
  exact a9 ⟨.inl rfl,[(am).val x4],⟨yBox 4 ty117 aa,trivial⟩,_,Pick.of [0,1,2,3] rfl,rfl,rfl⟩
 refine cg (fun m e C=>∃(x10:Int),cv (fun s=>da x4 x6 x8 x2 s) m x10=some z2l/\At [(0,ap b1 0),(1,ap b3 0),(2,ap b5 0),(3,ap b7 0),(4,ap b9 0),(5,Pr.i64 x10)] [Own.box b1 am x2,Own.box b3 am x4,Own.box b5 (aj (Rp.int .i64)) x6,Own.box b7 (aj (Rp.int .i64)) x8,Own.box b9 am (Diff3Ends.mk 0 0 0)] e C) n2 ⟨x2.o,hN2,⟨⟨aa,aa,aa,aa,aa,aa,trivial⟩,Pick.refl _⟩⟩ ?_
 clear hN2
 rintro m e C ⟨x10,hN2,hatl2⟩
 refine W_at hatl2 ?_
 clear hatl2
 obtain⟨m2,w2l,rfl,h2l,hn2,ho2⟩:=ay hN2
 clear hN2
 replace h2l:da x4 x6 x8 x2 x10=some w2l:=h2l
 unfold da at h2l
 refine ax ?_
 refine W_rs ?_
 refine rq (out:=Pr.i64 x10) ag ?_
 refine rq (out:=ap b3 0) (az fld117_0) ?_
 refine rq (out:=Pr.i64 x4.o) (bg (R:=am) (a:=x4) (R':=Rp.int .i64) 1 ty3 ed) ?_
 refine rq (out:=Pr.bool (decide (x10<x4.o))) qInt ?_
 refine ar (b:=decide (x10<x4.o)) rfl (fun hc12=> ?_) (fun hc12=> ?_)
 ·replace h2l:=iteT hc12 h2l
  refine av ?_
  refine ax ?_
  refine aq ?_
  refine bd (fun e C=>∃(x16:Bool),fw x6 x10 x8 x2 x4 x16=some w2l/\At [(0,ap b1 0),(1,ap b3 0),(2,ap b5 0),(3,ap b7 0),(4,ap b9 0),(5,Pr.i64 x10),(25,Pr.bool x16)] [Own.box b1 am x2,Own.box b3 am x4,Own.box b5 (aj (Rp.int .i64)) x6,Own.box b7 (aj (Rp.int .i64)) x8,Own.box b9 am (Diff3Ends.mk 0 0 0)] e C) ?_ ?_
  ·rintro e C ⟨x16,h2l,hat4⟩
   refine W_at hat4 ?_
   clear hat4
   unfold fw at h2l
   refine ar (b:=x16) rfl (fun hc17=> ?_) (fun hc17=> ?_)
   ·replace h2l:=iteT hc17 h2l
    refine bd (fun e C=>∃(x18:Int),∃(x19:Int),kb x10 x2 x4 x6 x8 x18 x19=some w2l/\At [(0,ap b1 0),(1,ap b3 0),(2,ap b5 0),(3,ap b7 0),(4,ap b9 0)] [Own.box b1 am x2,Own.box b3 am x4,Own.box b5 (aj (Rp.int .i64)) x6,Own.box b7 (aj (Rp.int .i64)) x8,Own.box b9 am (Diff3Ends.mk x10 x18 x19)] e C) ?_ ?_
    ·rintro e C ⟨x18,x19,h2l,hat3⟩
     refine W_at hat3 ?_
     clear hat3
     unfold kb at h2l
     obtain rfl:=ho2 _ (Option.some.inj h2l).symm
     replace h:some ((Diff3Ends.mk x10 x18 x19),x2,x4,x6,x8)=some r:=h
     obtain rfl:=Option.some.inj h
     exact a9 ⟨.inl rfl,[(am).val (Diff3Ends.mk x10 x18 x19)],⟨yBox 4 ty117 aa,trivial⟩,_,Pick.of [0,1,2,3] rfl,rfl,rfl⟩
    refine ea 10 hmx (by kernel_rfl) (by kernel_rfl) ?_
    refine qq (out:=Pr.i64 x10) ag ?_
    refine qq (out:=ae (Rp.int .i64) x6) (bg (R:=aj (Rp.int .i64)) (a:=x6) (R':=aj (Rp.int .i64)) 2 ty90 (Sub.refl _)) ?_
    refine qq (out:=Pr.i64 x10) ag ?_
    obtain⟨x18,hx18,h2l⟩:=ah h2l
    refine qq (out:=a5 (Rp.int .i64) x18) (co (R:=Rp.int .i64) (l:=x6) Tryz.underlying90 Tryz.sizeOf3 hx18) ?_
    refine qq (out:=Pr.i64 x18) (bh (R:=Rp.int .i64) (a:=x18) ty3) ?_
    refine qq (out:=ae (Rp.int .i64) x8) (bg (R:=aj (Rp.int .i64)) (a:=x8) (R':=aj (Rp.int .i64)) 3 ty90 (Sub.refl _)) ?_
    refine qq (out:=Pr.i64 x10) ag ?_
    obtain⟨x19,hx19,h2l⟩:=ah h2l
    refine qq (out:=a5 (Rp.int .i64) x19) (co (R:=Rp.int .i64) (l:=x8) Tryz.underlying90 Tryz.sizeOf3 hx19) ?_
    refine qq (out:=Pr.i64 x19) (bh (R:=Rp.int .i64) (a:=x19) ty3) ?_
    refine qq (out:=(am).val (Diff3Ends.mk x10 x18 x19)) (iv st117 ⟨(Diff3Ends.mk x10 0 0),⟨_,rfl,rfl,fun j fd hj hf=>by match j,hj with| 0,h=>exact absurd rfl h| 1,_=>cases hf;rfl| 2,_=>cases hf;rfl|_+3,_=>cases hf⟩,⟨(Diff3Ends.mk x10 x18 0),⟨_,rfl,rfl,fun j fd hj hf=>by match j,hj with| 0,_=>cases hf;rfl| 1,h=>exact absurd rfl h| 2,_=>cases hf;rfl|_+3,_=>cases hf⟩,⟨(Diff3Ends.mk x10 x18 x19),⟨_,rfl,rfl,fun j fd hj hf=>by match j,hj with| 0,_=>cases hf;rfl| 1,_=>cases hf;rfl| 2,h=>exact absurd rfl h|_+3,_=>cases hf⟩,rfl⟩⟩⟩) ?_
    refine en (R:=am) (R':=am) (a:=(Diff3Ends.mk 0 0 0)) (y:=(Diff3Ends.mk x10 x18 x19)) 4 Tryz.sizeOf117 (Upd.refl _) ?_
    exact⟨x18,x19,h2l,⟨⟨aa,aa,aa,aa,aa,trivial⟩,Pick.refl _⟩⟩
   replace h2l:=iteF hc17 h2l
   refine av ?_
   refine W_r ?_
   refine rq (out:=Pr.i64 x10) ag ?_
   refine rq (out:=Pr.i64 (w64 (x10+1))) qInt ?_
   refine rq (out:=Pr.i64 (w64 (x10+1))) ab ?_
   exact⟨m2,Nat.lt_succ_self _,w64 (x10+1),hn2 _ (Option.some.inj h2l).symm,⟨⟨aa,aa,aa,aa,aa,aa,trivial⟩,Pick.refl _⟩⟩
  refine W_r ?_
  refine rq (out:=ae (Rp.int .i64) x6) (bg (R:=aj (Rp.int .i64)) (a:=x6) (R':=aj (Rp.int .i64)) 2 ty90 (Sub.refl _)) ?_
  refine rq (out:=Pr.i64 x10) ag ?_
  obtain⟨x13,hx13,h2l⟩:=ah h2l
  refine rq (out:=a5 (Rp.int .i64) x13) (co (R:=Rp.int .i64) (l:=x6) Tryz.underlying90 Tryz.sizeOf3 hx13) ?_
  refine rq (out:=Pr.i64 x13) (bh (R:=Rp.int .i64) (a:=x13) ty3) ?_
  refine rq (out:=Pr.bool (decide (x13≥0))) qInt ?_
  refine rq (out:=Pr.bool (decide (x13≥0))) ag ?_
  rcases bj h2l with⟨hc14,h2l⟩|⟨hc14,h2l⟩
  ·refine rqg hc14 (out:=ae (Rp.int .i64) x8) (bg (R:=aj (Rp.int .i64)) (a:=x8) (R':=aj (Rp.int .i64)) 3 ty90 (Sub.refl _)) ?_
   refine rqg hc14 (out:=Pr.i64 x10) ag ?_
   obtain⟨x15,hx15,h2l⟩:=ah h2l
   refine rqg hc14 (out:=a5 (Rp.int .i64) x15) (co (R:=Rp.int .i64) (l:=x8) Tryz.underlying90 Tryz.sizeOf3 hx15) ?_
   refine rqg hc14 (out:=Pr.i64 x15) (bh (R:=Rp.int .i64) (a:=x15) ty3) ?_
   refine rqg hc14 (out:=Pr.bool (decide (x15≥0))) qInt ?_
   refine rq (out:=Pr.bool (decide (x15≥0))) (bv hc14) ?_
   exact⟨decide (x15≥0),h2l,⟨⟨aa,aa,aa,aa,aa,aa,aa,trivial⟩,Pick.refl _⟩⟩
  refine rno (neT hc14) ?_
  refine rno (neT hc14) ?_
  refine rno (neT hc14) ?_
  refine rno (neT hc14) ?_
  refine rno (neT hc14) ?_
  refine rq (out:=Pr.bool false) (a7 hc14) ?_
  exact⟨false,h2l,⟨⟨aa,aa,aa,aa,aa,aa,aa,trivial⟩,Pick.refl _⟩⟩
 replace h2l:=iteF hc12 h2l
 refine cb ?_
 obtain rfl:=ho2 _ (Option.some.inj h2l).symm
 exact⟨h,⟨⟨aa,aa,aa,aa,aa,trivial⟩,Pick.refl _⟩⟩
theorem diff3_chunks_1_ok {σ:Type} (yld:σ->(Diff3Ends × Diff3Ends)->Option (Bool × σ)) (Y:YI σ) (l:Nat) (hY:YOK Tryz.prog Y l (fun a=>[(am).val a.1,(am).val a.2]) yld) (x2 x4 x6:List Int) (x7:σ) (b1 b3 b5:Nat) (v8:List Nat) (r:(List Int) × (List Int) × (List Int) × (σ)) (h:diff3_chunks_1 yld x2 x4 x6 x7=some r):FnC Tryz.prog 85 ([]++[Pr.yl l]++[ap b1 0,ap b3 0,ap b5 0]) ([Own.box b1 (aj (Rp.int .i64)) x2,Own.box b3 (aj (Rp.int .i64)) x4,Own.box b5 (aj (Rp.int .i64)) x6]++[Own.grp Y x7 v8]) (fun _ C'=>∃w9,C'=[Own.box b1 (aj (Rp.int .i64)) r.1,Own.box b3 (aj (Rp.int .i64)) r.2.1,Own.box b5 (aj (Rp.int .i64)) r.2.2.1]++[Own.grp Y r.2.2.2 w9]):=by
 refine fj (n:=57) (rs:=[]) Tryz.func85 rfl Tryz.ntmps85 ⟨by decide,Tryz.results85⟩ (by decide) (fun s0=> ?_)
 unfold diff3_chunks_1 at h
 refine bd (fun e C=>∃(x9:List Int),∃(x10:List Int),∃(b11:Nat),∃(b12:Nat),nh yld x2 x4 x6 x7 x9 x10=some r/\At [(0,Pr.yl l),(1,ap b1 0),(2,ap b3 0),(3,ap b5 0),(5,ap b11 0),(6,ap b12 0)] [Own.box b1 (aj (Rp.int .i64)) x2,Own.box b3 (aj (Rp.int .i64)) x4,Own.box b5 (aj (Rp.int .i64)) x6,Own.grp Y x7 v8,Own.box b11 (aj (Rp.int .i64)) x9,Own.box b12 (aj (Rp.int .i64)) x10] e C) ?_ ?_
 ·rintro e C ⟨x9,x10,b11,b12,h,hat5⟩
  refine W_at hat5 ?_
  clear hat5
  unfold nh at h
  refine bd (fun e C=>∃(b13:Nat),∃(b14:Nat),ni yld x2 x4 x6 x7 x9 x10=some r/\At [(0,Pr.yl l),(1,ap b1 0),(2,ap b3 0),(3,ap b5 0),(5,ap b11 0),(6,ap b12 0),(7,ap b13 0),(8,ap b14 0)] [Own.box b1 (aj (Rp.int .i64)) x2,Own.box b3 (aj (Rp.int .i64)) x4,Own.box b5 (aj (Rp.int .i64)) x6,Own.grp Y x7 v8,Own.box b11 (aj (Rp.int .i64)) x9,Own.box b12 (aj (Rp.int .i64)) x10,Own.box b13 am (Diff3Ends.mk 0 0 0),Own.box b14 am (Diff3Ends.mk (x2.length:Int) (x4.length:Int) (x6.length:Int))] e C) ?_ ?_
  ·rintro e C ⟨b13,b14,h,hat4⟩
   refine W_at hat4 ?_
   clear hat4
   unfold ni at h
   refine W_rs ?_
   refine rq (out:=em 87 [] [ap b13 0,ap b14 0,ap b11 0,ap b12 0]) ii ?_
   refine rq (out:=em 87 [] [ap b13 0,ap b14 0,ap b11 0,ap b12 0]) ab ?_
   refine W_rs ?_
   refine rq (out:=em 88 [] [ap b13 0,ap b14 0,ap b11 0,ap b12 0]) ii ?_
   refine rq (out:=em 88 [] [ap b13 0,ap b14 0,ap b11 0,ap b12 0]) ab ?_
   refine aq ?_
   obtain⟨z2l,hz2,h⟩:=ah h
   obtain⟨n2,hN2⟩:=a4 hz2
   clear hz2
   refine bp 0 (fun e C=>∃(x15:σ),∃(x17:List Int),∃(x18:List Int),∃(x19:Diff3Ends),∃(x20:Diff3Ends),∃(v16:List Nat),diff3_chunks_1_k1 yld x2 x4 x6 x15 x17 x18 x19 x20=some r/\At [] [Own.box b1 (aj (Rp.int .i64)) x2,Own.box b3 (aj (Rp.int .i64)) x4,Own.box b5 (aj (Rp.int .i64)) x6,Own.grp Y x15 v16,Own.box b11 (aj (Rp.int .i64)) x17,Own.box b12 (aj (Rp.int .i64)) x18,Own.box b13 am x19,Own.box b14 am x20] e C) ?_ ?_
   ·rintro e C ⟨x15,x17,x18,x19,x20,v16,h,hat1⟩
    unfold diff3_chunks_1_k1 at h
    obtain rfl:=Option.some.inj h
    exact⟨.inr rfl,_,(Pick.trans hat1.2 (Pick.of [0,1,2,3] rfl)),_,aa,v16,rfl⟩
   refine cg (fun m e C=>∃(x15:σ),∃(x17:List Int),∃(x18:List Int),∃(x19:Diff3Ends),∃(x20:Diff3Ends),∃(v16:List Nat),cv (fun s=>ep yld x2 x4 x6 s.1 s.2.1 s.2.2.1 s.2.2.2.1 s.2.2.2.2) m (x15,x17,x18,x19,x20)=some z2l/\At [(0,Pr.yl l),(1,ap b1 0),(2,ap b3 0),(3,ap b5 0),(7,ap b13 0),(8,ap b14 0),(9,em 87 [] [ap b13 0,ap b14 0,ap b11 0,ap b12 0]),(10,em 88 [] [ap b13 0,ap b14 0,ap b11 0,ap b12 0])] [Own.box b1 (aj (Rp.int .i64)) x2,Own.box b3 (aj (Rp.int .i64)) x4,Own.box b5 (aj (Rp.int .i64)) x6,Own.grp Y x15 v16,Own.box b11 (aj (Rp.int .i64)) x17,Own.box b12 (aj (Rp.int .i64)) x18,Own.box b13 am x19,Own.box b14 am x20] e C) n2 ⟨x7,x9,x10,(Diff3Ends.mk 0 0 0),(Diff3Ends.mk (x2.length:Int) (x4.length:Int) (x6.length:Int)),v8,hN2,⟨⟨aa,aa,aa,aa,aa,aa,aa,aa,trivial⟩,Pick.refl _⟩⟩ ?_
   clear hN2
   rintro m e C ⟨x15,x17,x18,x19,x20,v16,hN2,hatl2⟩
   refine W_at hatl2 ?_
   clear hatl2
   obtain⟨m2,w2l,rfl,h2l,hn2,ho2⟩:=ay hN2
   clear hN2
   replace h2l:ep yld x2 x4 x6 x15 x17 x18 x19 x20=some w2l:=h2l
   unfold ep at h2l
   refine ax ?_
   refine W_rs ?_
   refine rq (out:=(am).val x19) (bg (R:=am) (a:=x19) (R':=am) 6 ty117 (Sub.refl _)) ?_
   refine rq (out:=(am).val x20) (bg (R:=am) (a:=x20) (R':=am) 7 ty117 (Sub.refl _)) ?_
   refine rq (out:=Pr.bool (!decide (x19=x20))) (qStNe (a:=x19) (b:=x20) eqDiff3Ends (by decide) rfl eqgDiff3Ends) ?_
   refine ar (b:= !decide (x19=x20)) rfl (fun hc27=> ?_) (fun hc27=> ?_)
   ·replace h2l:=iteT hc27 h2l
    refine av ?_
    refine aq ?_
    refine W_rs ?_
    refine rq (out:=em 88 [] [ap b13 0,ap b14 0,ap b11 0,ap b12 0]) ag ?_
    obtain⟨⟨x28,x29,x30,x31,x32⟩,hx28,h2l⟩:=ah h2l
    refine rCallK [6,7,4,5] (diff3_chunks_1_2_ok x19 x20 x17 x18 b13 b14 b11 b12 _ hx28) (fun q C' hq=> ?_)
    obtain⟨rfl,rfl⟩:=hq
    refine np (R:=am) (z:=(Diff3Ends.mk 0 0 0)) Tryz.zeroValue117 (fun _=>⟨_,⟨_,_,rfl,rfl,⟨_,_,rfl,rfl,⟨_,_,rfl,rfl,rfl⟩⟩⟩,rfl⟩) (fun b33=> ?_)
    refine en (R:=am) (R':=am) (a:=(Diff3Ends.mk 0 0 0)) (y:=x28) 8 Tryz.sizeOf117 (Upd.refl _) ?_
    refine bd (fun e C=>∃(x40:Diff3Ends),∃(x35:Diff3Ends),∃(x36:Diff3Ends),∃(x37:List Int),∃(x38:List Int),jq yld x15 x2 x4 x6 x40 x35 x36 x37 x38=some w2l/\At [(0,Pr.yl l),(1,ap b1 0),(2,ap b3 0),(3,ap b5 0),(7,ap b13 0),(8,ap b14 0),(9,em 87 [] [ap b13 0,ap b14 0,ap b11 0,ap b12 0]),(10,em 88 [] [ap b13 0,ap b14 0,ap b11 0,ap b12 0]),(11,ap b33 0)] [Own.box b13 am x35,Own.box b14 am x36,Own.box b11 (aj (Rp.int .i64)) x37,Own.box b12 (aj (Rp.int .i64)) x38,Own.box b1 (aj (Rp.int .i64)) x2,Own.box b3 (aj (Rp.int .i64)) x4,Own.box b5 (aj (Rp.int .i64)) x6,Own.grp Y x15 v16,Own.box b33 am x40] e C) ?_ ?_
    ·rintro e C ⟨x40,x35,x36,x37,x38,h2l,hat3⟩
     refine W_at hat3 ?_
     clear hat3
     unfold jq at h2l
     refine ax ?_
     refine W_rs ?_
     refine rq (out:=Pr.yl l) ag ?_
     refine rq (out:=(am).val x35) (bg (R:=am) (a:=x35) (R':=am) 0 ty117 (Sub.refl _)) ?_
     refine rq (out:=(am).val x40) (bg (R:=am) (a:=x40) (R':=am) 8 ty117 (Sub.refl _)) ?_
     obtain⟨⟨x41,x42⟩,hx41,h2l⟩:=ah h2l
     refine rYield 7 (a:=(x35,x40)) hY hx41 (fun v43=> ?_)
     refine rq (out:=Pr.bool (!x41)) qNot ?_
     refine ar (b:= !x41) rfl (fun hc44=> ?_) (fun hc44=> ?_)
     ·replace h2l:=iteT hc44 h2l
      obtain rfl:=ho2 _ (Option.some.inj h2l).symm
      replace h:some (x2,x4,x6,x42)=some r:=h
      obtain rfl:=Option.some.inj h
      exact a9 ⟨.inl rfl,_,Pick.of [5,6,7,0] rfl,_,aa,v43,rfl⟩
     replace h2l:=iteF hc44 h2l
     refine av ?_
     refine W_r ?_
     refine rq (out:=(am).val x40) (bg (R:=am) (a:=x40) (R':=am) 8 ty117 (Sub.refl _)) ?_
     refine en (R:=am) (R':=am) (a:=x35) (y:=x40) 1 Tryz.sizeOf117 (Upd.refl _) ?_
     exact⟨m2,Nat.lt_succ_self _,x42,x37,x38,x40,x36,v43,hn2 _ (Option.some.inj h2l).symm,⟨⟨aa,aa,aa,aa,aa,aa,aa,aa,trivial⟩,Pick.of [5,6,7,0,3,4,1,2] rfl⟩⟩
    refine W_rs ?_
    refine rq (out:=em 87 [] [ap b13 0,ap b14 0,ap b11 0,ap b12 0]) ag ?_
    obtain⟨⟨x34,x35,x36,x37,x38⟩,hx34,h2l⟩:=ah h2l
    refine rCallK [0,1,2,3] (diff3_chunks_1_1_ok x29 x30 x31 x32 b13 b14 b11 b12 _ hx34) (fun q C' hq=> ?_)
    obtain⟨rfl,rfl⟩:=hq
    refine rq (out:=Pr.i64 x34) ab ?_
    refine W_rs ?_
    refine rq (out:=Pr.i64 x34) ag ?_
    refine rq (out:=Pr.bool (decide (x34>0))) qInt ?_
    refine ar (b:=decide (x34>0)) rfl (fun hc39=> ?_) (fun hc39=> ?_)
    ·replace h2l:=iteT hc39 h2l
     refine W_r ?_
     refine rq (out:=ap b13 0) (az fld117_0) ?_
     refine rq (out:=Pr.i64 x35.o) (bg (R:=am) (a:=x35) (R':=Rp.int .i64) 0 ty3 ed) ?_
     refine rq (out:=Pr.i64 x34) ag ?_
     refine rq (out:=Pr.i64 (w64 (x35.o+x34))) qInt ?_
     refine rq (out:=ap b13 1) (az fld117_1) ?_
     refine rq (out:=Pr.i64 x35.a) (bg (R:=am) (a:=x35) (R':=Rp.int .i64) 0 ty3 kz) ?_
     refine rq (out:=Pr.i64 x34) ag ?_
     refine rq (out:=Pr.i64 (w64 (x35.a+x34))) qInt ?_
     refine rq (out:=ap b13 2) (az fld117_2) ?_
     refine rq (out:=Pr.i64 x35.b) (bg (R:=am) (a:=x35) (R':=Rp.int .i64) 0 ty3 ky) ?_
     refine rq (out:=Pr.i64 x34) ag ?_
     refine rq (out:=Pr.i64 (w64 (x35.b+x34))) qInt ?_
     refine rq (out:=(am).val (Diff3Ends.mk (w64 (x35.o+x34)) (w64 (x35.a+x34)) (w64 (x35.b+x34)))) (iv st117 ⟨(Diff3Ends.mk (w64 (x35.o+x34)) 0 0),⟨_,rfl,rfl,fun j fd hj hf=>by match j,hj with| 0,h=>exact absurd rfl h| 1,_=>cases hf;rfl| 2,_=>cases hf;rfl|_+3,_=>cases hf⟩,⟨(Diff3Ends.mk (w64 (x35.o+x34)) (w64 (x35.a+x34)) 0),⟨_,rfl,rfl,fun j fd hj hf=>by match j,hj with| 0,_=>cases hf;rfl| 1,h=>exact absurd rfl h| 2,_=>cases hf;rfl|_+3,_=>cases hf⟩,⟨(Diff3Ends.mk (w64 (x35.o+x34)) (w64 (x35.a+x34)) (w64 (x35.b+x34))),⟨_,rfl,rfl,fun j fd hj hf=>by match j,hj with| 0,_=>cases hf;rfl| 1,_=>cases hf;rfl| 2,h=>exact absurd rfl h|_+3,_=>cases hf⟩,rfl⟩⟩⟩) ?_
     refine en (R:=am) (R':=am) (a:=x28) (y:=(Diff3Ends.mk (w64 (x35.o+x34)) (w64 (x35.a+x34)) (w64 (x35.b+x34)))) 8 Tryz.sizeOf117 (Upd.refl _) ?_
     exact⟨(Diff3Ends.mk (w64 (x35.o+x34)) (w64 (x35.a+x34)) (w64 (x35.b+x34))),x35,x36,x37,x38,h2l,⟨⟨aa,aa,aa,aa,aa,aa,aa,aa,aa,trivial⟩,Pick.refl _⟩⟩
    replace h2l:=iteF hc39 h2l
    refine av ?_
    exact⟨x28,x35,x36,x37,x38,h2l,⟨⟨aa,aa,aa,aa,aa,aa,aa,aa,aa,trivial⟩,Pick.refl _⟩⟩
   replace h2l:=iteF hc27 h2l
   refine cb ?_
   obtain rfl:=ho2 _ (Option.some.inj h2l).symm
   exact⟨x15,x17,x18,x19,x20,v16,h,⟨trivial,Pick.refl _⟩⟩
  refine W_drawG 2 (fun B S=>[Own.box b1 (aj (Rp.int .i64)) x2,Own.box b3 (aj (Rp.int .i64)) x4,Own.box b5 (aj (Rp.int .i64)) x6,Own.grp Y x7 v8,Own.box b11 (aj (Rp.int .i64)) x9,Own.box b12 (aj (Rp.int .i64)) x10,(cond (S 10) (Own.box (B 8) am (Diff3Ends.mk 0 0 0)) (cond (S 8) (Own.box (B 8) am (Diff3Ends.mk 0 0 0)) Own.nil)),(cond (S 11) (Own.box (B 9) am (Diff3Ends.mk (x2.length:Int) (x4.length:Int) (x6.length:Int))) (cond (S 9) (Own.box (B 9) am (Diff3Ends.mk 0 0 0)) Own.nil))]) (fun B=>[Own.box b1 (aj (Rp.int .i64)) x2,Own.box b3 (aj (Rp.int .i64)) x4,Own.box b5 (aj (Rp.int .i64)) x6,Own.grp Y x7 v8,Own.box b11 (aj (Rp.int .i64)) x9,Own.box b12 (aj (Rp.int .i64)) x10,Own.box (B 8) am (Diff3Ends.mk 0 0 0),Own.box (B 9) am (Diff3Ends.mk (x2.length:Int) (x4.length:Int) (x6.length:Int))]) [(am).val (Diff3Ends.mk 0 0 0),ae (Rp.int .i64) x2,Pr.i64 (x2.length:Int),ae (Rp.int .i64) x4,Pr.i64 (x4.length:Int),ae (Rp.int .i64) x6,Pr.i64 (x6.length:Int),(am).val (Diff3Ends.mk (x2.length:Int) (x4.length:Int) (x6.length:Int)),.any,.any,.any,.any] (fun k=>([0,0,0,0,0,0,0,0,2,2,1,1]:List Nat).getD k 0) hmx (by kernel_rfl) (by kernel_rfl) (fun _=>rfl) (fun B S S' h=>by show([Own.box b1 (aj (Rp.int .i64)) x2,Own.box b3 (aj (Rp.int .i64)) x4,Own.box b5 (aj (Rp.int .i64)) x6,Own.grp Y x7 v8,Own.box b11 (aj (Rp.int .i64)) x9,Own.box b12 (aj (Rp.int .i64)) x10,(cond (S 10) (Own.box (B 8) am (Diff3Ends.mk 0 0 0)) (cond (S 8) (Own.box (B 8) am (Diff3Ends.mk 0 0 0)) Own.nil)),(cond (S 11) (Own.box (B 9) am (Diff3Ends.mk (x2.length:Int) (x4.length:Int) (x6.length:Int))) (cond (S 9) (Own.box (B 9) am (Diff3Ends.mk 0 0 0)) Own.nil))]:Ctx)=[Own.box b1 (aj (Rp.int .i64)) x2,Own.box b3 (aj (Rp.int .i64)) x4,Own.box b5 (aj (Rp.int .i64)) x6,Own.grp Y x7 v8,Own.box b11 (aj (Rp.int .i64)) x9,Own.box b12 (aj (Rp.int .i64)) x10,(cond (S' 10) (Own.box (B 8) am (Diff3Ends.mk 0 0 0)) (cond (S' 8) (Own.box (B 8) am (Diff3Ends.mk 0 0 0)) Own.nil)),(cond (S' 11) (Own.box (B 9) am (Diff3Ends.mk (x2.length:Int) (x4.length:Int) (x6.length:Int))) (cond (S' 9) (Own.box (B 9) am (Diff3Ends.mk 0 0 0)) Own.nil))];simp only[h 8 (Nat.le_of_ble_eq_true (by kernel_rfl)),h 9 (Nat.le_of_ble_eq_true (by kernel_rfl)),h 10 (Nat.le_of_ble_eq_true (by kernel_rfl)),h 11 (Nat.le_of_ble_eq_true (by kernel_rfl))]) (fun _=>rfl) (fun B=> ?_)
  refine gq1 (fun S hK=>(iv st117 rfl)) ?_
  refine gq1 (fun S hK=>(bg (R:=aj (Rp.int .i64)) (a:=x2) (R':=aj (Rp.int .i64)) 0 ty90 (Sub.refl _) (hi:=rfl))) ?_
  refine gq1 (fun S hK=>(cj rfl Tryz.underlying90)) ?_
  refine gq1 (fun S hK=>(bg (R:=aj (Rp.int .i64)) (a:=x4) (R':=aj (Rp.int .i64)) 1 ty90 (Sub.refl _) (hi:=rfl))) ?_
  refine gq1 (fun S hK=>(cj rfl Tryz.underlying90)) ?_
  refine gq1 (fun S hK=>(bg (R:=aj (Rp.int .i64)) (a:=x6) (R':=aj (Rp.int .i64)) 2 ty90 (Sub.refl _) (hi:=rfl))) ?_
  refine gq1 (fun S hK=>(cj rfl Tryz.underlying90)) ?_
  refine gq1 (fun S hK=>(iv st117 ⟨(Diff3Ends.mk (x2.length:Int) 0 0),⟨_,rfl,rfl,fun j fd hj hf=>by match j,hj with| 0,h=>exact absurd rfl h| 1,_=>cases hf;rfl| 2,_=>cases hf;rfl|_+3,_=>cases hf⟩,⟨(Diff3Ends.mk (x2.length:Int) (x4.length:Int) 0),⟨_,rfl,rfl,fun j fd hj hf=>by match j,hj with| 0,_=>cases hf;rfl| 1,h=>exact absurd rfl h| 2,_=>cases hf;rfl|_+3,_=>cases hf⟩,⟨(Diff3Ends.mk (x2.length:Int) (x4.length:Int) (x6.length:Int)),⟨_,rfl,rfl,fun j fd hj hf=>by match j,hj with| 0,_=>cases hf;rfl| 1,_=>cases hf;rfl| 2,h=>exact absurd rfl h|_+3,_=>cases hf⟩,rfl⟩⟩⟩)) ?_
  refine gqA (fun S hK=>⟨fun B' hB=>by show([Own.box b1 (aj (Rp.int .i64)) x2,Own.box b3 (aj (Rp.int .i64)) x4,Own.box b5 (aj (Rp.int .i64)) x6,Own.grp Y x7 v8,Own.box b11 (aj (Rp.int .i64)) x9,Own.box b12 (aj (Rp.int .i64)) x10,(cond (S 10) (Own.box (B' 8) am (Diff3Ends.mk 0 0 0)) (cond (S 8) (Own.box (B' 8) am (Diff3Ends.mk 0 0 0)) Own.nil)),(cond (S 11) (Own.box (B' 9) am (Diff3Ends.mk (x2.length:Int) (x4.length:Int) (x6.length:Int))) (cond (S 9) (Own.box (B' 9) am (Diff3Ends.mk 0 0 0)) Own.nil))]:Ctx)=[Own.box b1 (aj (Rp.int .i64)) x2,Own.box b3 (aj (Rp.int .i64)) x4,Own.box b5 (aj (Rp.int .i64)) x6,Own.grp Y x7 v8,Own.box b11 (aj (Rp.int .i64)) x9,Own.box b12 (aj (Rp.int .i64)) x10,(cond (S 10) (Own.box (B 8) am (Diff3Ends.mk 0 0 0)) (cond (S 8) (Own.box (B 8) am (Diff3Ends.mk 0 0 0)) Own.nil)),(cond (S 11) (Own.box (B 9) am (Diff3Ends.mk (x2.length:Int) (x4.length:Int) (x6.length:Int))) (cond (S 9) (Own.box (B 9) am (Diff3Ends.mk 0 0 0)) Own.nil))];simp only[hK.me,hK.F 10 (by kernel_rfl),hB 9 (by decide),cond_false],fun s ρ hg _=>sAlloc (R:=am) (z:=(Diff3Ends.mk 0 0 0)) 6 Tryz.zeroValue117 (fun _=>⟨_,⟨_,_,rfl,rfl,⟨_,_,rfl,rfl,⟨_,_,rfl,rfl,rfl⟩⟩⟩,rfl⟩) (congrArg some ((condF (hK.F 10 (by kernel_rfl)) _ _).trans (condF (hK.me) _ _))) (fun b=>by show([Own.box b1 (aj (Rp.int .i64)) x2,Own.box b3 (aj (Rp.int .i64)) x4,Own.box b5 (aj (Rp.int .i64)) x6,Own.grp Y x7 v8,Own.box b11 (aj (Rp.int .i64)) x9,Own.box b12 (aj (Rp.int .i64)) x10,(cond (S 10) (Own.box b am (Diff3Ends.mk 0 0 0)) (Own.box b am (Diff3Ends.mk 0 0 0))),(cond (S 11) (Own.box (B 9) am (Diff3Ends.mk (x2.length:Int) (x4.length:Int) (x6.length:Int))) (cond (S 9) (Own.box (B 9) am (Diff3Ends.mk 0 0 0)) Own.nil))]:Ctx)=_;rw[hK.F 10 (by kernel_rfl)];rfl) s ρ hg⟩) ?_
  refine gqA (fun S hK=>⟨fun B' hB=>by show([Own.box b1 (aj (Rp.int .i64)) x2,Own.box b3 (aj (Rp.int .i64)) x4,Own.box b5 (aj (Rp.int .i64)) x6,Own.grp Y x7 v8,Own.box b11 (aj (Rp.int .i64)) x9,Own.box b12 (aj (Rp.int .i64)) x10,(cond (S 10) (Own.box (B' 8) am (Diff3Ends.mk 0 0 0)) (cond (S 8) (Own.box (B' 8) am (Diff3Ends.mk 0 0 0)) Own.nil)),(cond (S 11) (Own.box (B' 9) am (Diff3Ends.mk (x2.length:Int) (x4.length:Int) (x6.length:Int))) (cond (S 9) (Own.box (B' 9) am (Diff3Ends.mk 0 0 0)) Own.nil))]:Ctx)=[Own.box b1 (aj (Rp.int .i64)) x2,Own.box b3 (aj (Rp.int .i64)) x4,Own.box b5 (aj (Rp.int .i64)) x6,Own.grp Y x7 v8,Own.box b11 (aj (Rp.int .i64)) x9,Own.box b12 (aj (Rp.int .i64)) x10,(cond (S 10) (Own.box (B 8) am (Diff3Ends.mk 0 0 0)) (cond (S 8) (Own.box (B 8) am (Diff3Ends.mk 0 0 0)) Own.nil)),(cond (S 11) (Own.box (B 9) am (Diff3Ends.mk (x2.length:Int) (x4.length:Int) (x6.length:Int))) (cond (S 9) (Own.box (B 9) am (Diff3Ends.mk 0 0 0)) Own.nil))];simp only[hK.me,hK.F 11 (by kernel_rfl),hB 8 (by decide),cond_false],fun s ρ hg _=>sAlloc (R:=am) (z:=(Diff3Ends.mk 0 0 0)) 7 Tryz.zeroValue117 (fun _=>⟨_,⟨_,_,rfl,rfl,⟨_,_,rfl,rfl,⟨_,_,rfl,rfl,rfl⟩⟩⟩,rfl⟩) (congrArg some ((condF (hK.F 11 (by kernel_rfl)) _ _).trans (condF (hK.me) _ _))) (fun b=>by show([Own.box b1 (aj (Rp.int .i64)) x2,Own.box b3 (aj (Rp.int .i64)) x4,Own.box b5 (aj (Rp.int .i64)) x6,Own.grp Y x7 v8,Own.box b11 (aj (Rp.int .i64)) x9,Own.box b12 (aj (Rp.int .i64)) x10,(cond (S 10) (Own.box (B 8) am (Diff3Ends.mk 0 0 0)) (cond (S 8) (Own.box (B 8) am (Diff3Ends.mk 0 0 0)) Own.nil)),(cond (S 11) (Own.box b am (Diff3Ends.mk (x2.length:Int) (x4.length:Int) (x6.length:Int))) (Own.box b am (Diff3Ends.mk 0 0 0)))]:Ctx)=_;rw[hK.F 11 (by kernel_rfl)];rfl) s ρ hg⟩) ?_
  refine gqS (fun S hK=>SStep.as (sStore (R:=am) (R':=am) (a:=(Diff3Ends.mk 0 0 0)) (y:=(Diff3Ends.mk 0 0 0)) 6 Tryz.sizeOf117 (Upd.refl _) (congrArg some ((condF (hK.me) _ _).trans (condT (hK.T 8 (by kernel_rfl)) _ _)))) (by show(_:Ctx)=[Own.box b1 (aj (Rp.int .i64)) x2,Own.box b3 (aj (Rp.int .i64)) x4,Own.box b5 (aj (Rp.int .i64)) x6,Own.grp Y x7 v8,Own.box b11 (aj (Rp.int .i64)) x9,Own.box b12 (aj (Rp.int .i64)) x10,Own.box (B 8) am (Diff3Ends.mk 0 0 0),(cond (S 11) (Own.box (B 9) am (Diff3Ends.mk (x2.length:Int) (x4.length:Int) (x6.length:Int))) (cond (S 9) (Own.box (B 9) am (Diff3Ends.mk 0 0 0)) Own.nil))];rfl)) ?_
  refine gqS (fun S hK=>SStep.as (sStore (R:=am) (R':=am) (a:=(Diff3Ends.mk 0 0 0)) (y:=(Diff3Ends.mk (x2.length:Int) (x4.length:Int) (x6.length:Int))) 7 Tryz.sizeOf117 (Upd.refl _) (congrArg some ((condF (hK.me) _ _).trans (condT (hK.T 9 (by kernel_rfl)) _ _)))) (by show(_:Ctx)=[Own.box b1 (aj (Rp.int .i64)) x2,Own.box b3 (aj (Rp.int .i64)) x4,Own.box b5 (aj (Rp.int .i64)) x6,Own.grp Y x7 v8,Own.box b11 (aj (Rp.int .i64)) x9,Own.box b12 (aj (Rp.int .i64)) x10,(cond (S 10) (Own.box (B 8) am (Diff3Ends.mk 0 0 0)) (cond (S 8) (Own.box (B 8) am (Diff3Ends.mk 0 0 0)) Own.nil)),Own.box (B 9) am (Diff3Ends.mk (x2.length:Int) (x4.length:Int) (x6.length:Int))];rfl)) ?_
  exact⟨(B 8),(B 9),h,⟨⟨aa,aa,aa,aa,aa,aa,aa,aa,trivial⟩,Pick.refl _⟩⟩
 obtain⟨x9,hx9,h⟩:=ah h
 obtain⟨x10,hx10,h⟩:=ah h
 refine W_drawG 2 (fun B S=>[Own.box b1 (aj (Rp.int .i64)) x2,Own.box b3 (aj (Rp.int .i64)) x4,Own.box b5 (aj (Rp.int .i64)) x6,Own.grp Y x7 v8,(cond (S 8) (Own.box (B 6) (aj (Rp.int .i64)) x9) (cond (S 6) (Own.box (B 6) (aj (Rp.int .i64)) []) Own.nil)),(cond (S 9) (Own.box (B 7) (aj (Rp.int .i64)) x10) (cond (S 7) (Own.box (B 7) (aj (Rp.int .i64)) []) Own.nil))]) (fun B=>[Own.box b1 (aj (Rp.int .i64)) x2,Own.box b3 (aj (Rp.int .i64)) x4,Own.box b5 (aj (Rp.int .i64)) x6,Own.grp Y x7 v8,Own.box (B 6) (aj (Rp.int .i64)) x9,Own.box (B 7) (aj (Rp.int .i64)) x10]) [ae (Rp.int .i64) x2,ae (Rp.int .i64) x4,ae (Rp.int .i64) x9,ae (Rp.int .i64) x2,ae (Rp.int .i64) x6,ae (Rp.int .i64) x10,.any,.any,.any,.any] (fun k=>([0,0,0,0,0,0,2,2,1,1]:List Nat).getD k 0) hmx (by kernel_rfl) (by kernel_rfl) (fun _=>rfl) (fun B S S' h=>by show([Own.box b1 (aj (Rp.int .i64)) x2,Own.box b3 (aj (Rp.int .i64)) x4,Own.box b5 (aj (Rp.int .i64)) x6,Own.grp Y x7 v8,(cond (S 8) (Own.box (B 6) (aj (Rp.int .i64)) x9) (cond (S 6) (Own.box (B 6) (aj (Rp.int .i64)) []) Own.nil)),(cond (S 9) (Own.box (B 7) (aj (Rp.int .i64)) x10) (cond (S 7) (Own.box (B 7) (aj (Rp.int .i64)) []) Own.nil))]:Ctx)=[Own.box b1 (aj (Rp.int .i64)) x2,Own.box b3 (aj (Rp.int .i64)) x4,Own.box b5 (aj (Rp.int .i64)) x6,Own.grp Y x7 v8,(cond (S' 8) (Own.box (B 6) (aj (Rp.int .i64)) x9) (cond (S' 6) (Own.box (B 6) (aj (Rp.int .i64)) []) Own.nil)),(cond (S' 9) (Own.box (B 7) (aj (Rp.int .i64)) x10) (cond (S' 7) (Own.box (B 7) (aj (Rp.int .i64)) []) Own.nil))];simp only[h 6 (Nat.le_of_ble_eq_true (by kernel_rfl)),h 7 (Nat.le_of_ble_eq_true (by kernel_rfl)),h 8 (Nat.le_of_ble_eq_true (by kernel_rfl)),h 9 (Nat.le_of_ble_eq_true (by kernel_rfl))]) (fun _=>rfl) (fun B=> ?_)
 refine gq1 (fun S hK=>(bg (R:=aj (Rp.int .i64)) (a:=x2) (R':=aj (Rp.int .i64)) 0 ty90 (Sub.refl _) (hi:=rfl))) ?_
 refine gq1 (fun S hK=>(bg (R:=aj (Rp.int .i64)) (a:=x4) (R':=aj (Rp.int .i64)) 1 ty90 (Sub.refl _) (hi:=rfl))) ?_
 refine gq1 (fun S hK=>(bq (lcs_Match_ok x2 x4 _ hx9))) ?_
 refine gq1 (fun S hK=>(bg (R:=aj (Rp.int .i64)) (a:=x2) (R':=aj (Rp.int .i64)) 0 ty90 (Sub.refl _) (hi:=rfl))) ?_
 refine gq1 (fun S hK=>(bg (R:=aj (Rp.int .i64)) (a:=x6) (R':=aj (Rp.int .i64)) 2 ty90 (Sub.refl _) (hi:=rfl))) ?_
 refine gq1 (fun S hK=>(bq (lcs_Match_ok x2 x6 _ hx10))) ?_
 refine gqA (fun S hK=>⟨fun B' hB=>by show([Own.box b1 (aj (Rp.int .i64)) x2,Own.box b3 (aj (Rp.int .i64)) x4,Own.box b5 (aj (Rp.int .i64)) x6,Own.grp Y x7 v8,(cond (S 8) (Own.box (B' 6) (aj (Rp.int .i64)) x9) (cond (S 6) (Own.box (B' 6) (aj (Rp.int .i64)) []) Own.nil)),(cond (S 9) (Own.box (B' 7) (aj (Rp.int .i64)) x10) (cond (S 7) (Own.box (B' 7) (aj (Rp.int .i64)) []) Own.nil))]:Ctx)=[Own.box b1 (aj (Rp.int .i64)) x2,Own.box b3 (aj (Rp.int .i64)) x4,Own.box b5 (aj (Rp.int .i64)) x6,Own.grp Y x7 v8,(cond (S 8) (Own.box (B 6) (aj (Rp.int .i64)) x9) (cond (S 6) (Own.box (B 6) (aj (Rp.int .i64)) []) Own.nil)),(cond (S 9) (Own.box (B 7) (aj (Rp.int .i64)) x10) (cond (S 7) (Own.box (B 7) (aj (Rp.int .i64)) []) Own.nil))];simp only[hK.me,hK.F 8 (by kernel_rfl),hB 7 (by decide),cond_false],fun s ρ hg _=>sAlloc (R:=aj (Rp.int .i64)) (z:=[]) 4 Tryz.zeroValue90 (fun _=>⟨none,0,rfl,⟨Nat.le_refl _,fun _=>rfl⟩,.inl rfl⟩) (congrArg some ((condF (hK.F 8 (by kernel_rfl)) _ _).trans (condF (hK.me) _ _))) (fun b=>by show([Own.box b1 (aj (Rp.int .i64)) x2,Own.box b3 (aj (Rp.int .i64)) x4,Own.box b5 (aj (Rp.int .i64)) x6,Own.grp Y x7 v8,(cond (S 8) (Own.box b (aj (Rp.int .i64)) x9) (Own.box b (aj (Rp.int .i64)) [])),(cond (S 9) (Own.box (B 7) (aj (Rp.int .i64)) x10) (cond (S 7) (Own.box (B 7) (aj (Rp.int .i64)) []) Own.nil))]:Ctx)=_;rw[hK.F 8 (by kernel_rfl)];rfl) s ρ hg⟩) ?_
 refine gqA (fun S hK=>⟨fun B' hB=>by show([Own.box b1 (aj (Rp.int .i64)) x2,Own.box b3 (aj (Rp.int .i64)) x4,Own.box b5 (aj (Rp.int .i64)) x6,Own.grp Y x7 v8,(cond (S 8) (Own.box (B' 6) (aj (Rp.int .i64)) x9) (cond (S 6) (Own.box (B' 6) (aj (Rp.int .i64)) []) Own.nil)),(cond (S 9) (Own.box (B' 7) (aj (Rp.int .i64)) x10) (cond (S 7) (Own.box (B' 7) (aj (Rp.int .i64)) []) Own.nil))]:Ctx)=[Own.box b1 (aj (Rp.int .i64)) x2,Own.box b3 (aj (Rp.int .i64)) x4,Own.box b5 (aj (Rp.int .i64)) x6,Own.grp Y x7 v8,(cond (S 8) (Own.box (B 6) (aj (Rp.int .i64)) x9) (cond (S 6) (Own.box (B 6) (aj (Rp.int .i64)) []) Own.nil)),(cond (S 9) (Own.box (B 7) (aj (Rp.int .i64)) x10) (cond (S 7) (Own.box (B 7) (aj (Rp.int .i64)) []) Own.nil))];simp only[hK.me,hK.F 9 (by kernel_rfl),hB 6 (by decide),cond_false],fun s ρ hg _=>sAlloc (R:=aj (Rp.int .i64)) (z:=[]) 5 Tryz.zeroValue90 (fun _=>⟨none,0,rfl,⟨Nat.le_refl _,fun _=>rfl⟩,.inl rfl⟩) (congrArg some ((condF (hK.F 9 (by kernel_rfl)) _ _).trans (condF (hK.me) _ _))) (fun b=>by show([Own.box b1 (aj (Rp.int .i64)) x2,Own.box b3 (aj (Rp.int .i64)) x4,Own.box b5 (aj (Rp.int .i64)) x6,Own.grp Y x7 v8,(cond (S 8) (Own.box (B 6) (aj (Rp.int .i64)) x9) (cond (S 6) (Own.box (B 6) (aj (Rp.int .i64)) []) Own.nil)),(cond (S 9) (Own.box b (aj (Rp.int .i64)) x10) (Own.box b (aj (Rp.int .i64)) []))]:Ctx)=_;rw[hK.F 9 (by kernel_rfl)];rfl) s ρ hg⟩) ?_
 refine gqS (fun S hK=>SStep.as (sStore (R:=aj (Rp.int .i64)) (R':=aj (Rp.int .i64)) (a:=[]) (y:=x9) 4 Tryz.sizeOf90 (Upd.refl _) (congrArg some ((condF (hK.me) _ _).trans (condT (hK.T 6 (by kernel_rfl)) _ _)))) (by show(_:Ctx)=[Own.box b1 (aj (Rp.int .i64)) x2,Own.box b3 (aj (Rp.int .i64)) x4,Own.box b5 (aj (Rp.int .i64)) x6,Own.grp Y x7 v8,Own.box (B 6) (aj (Rp.int .i64)) x9,(cond (S 9) (Own.box (B 7) (aj (Rp.int .i64)) x10) (cond (S 7) (Own.box (B 7) (aj (Rp.int .i64)) []) Own.nil))];rfl)) ?_
 refine gqS (fun S hK=>SStep.as (sStore (R:=aj (Rp.int .i64)) (R':=aj (Rp.int .i64)) (a:=[]) (y:=x10) 5 Tryz.sizeOf90 (Upd.refl _) (congrArg some ((condF (hK.me) _ _).trans (condT (hK.T 7 (by kernel_rfl)) _ _)))) (by show(_:Ctx)=[Own.box b1 (aj (Rp.int .i64)) x2,Own.box b3 (aj (Rp.int .i64)) x4,Own.box b5 (aj (Rp.int .i64)) x6,Own.grp Y x7 v8,(cond (S 8) (Own.box (B 6) (aj (Rp.int .i64)) x9) (cond (S 6) (Own.box (B 6) (aj (Rp.int .i64)) []) Own.nil)),Own.box (B 7) (aj (Rp.int .i64)) x10];rfl)) ?_
 exact⟨x9,x10,(B 6),(B 7),h,⟨⟨aa,aa,aa,aa,aa,aa,trivial⟩,Pick.refl _⟩⟩
theorem diff3_chunks_ok (x1 x2 x3:List Int):FnC Tryz.prog 74 [ae (Rp.int .i64) x1,ae (Rp.int .i64) x2,ae (Rp.int .i64) x3] [] (fun q C'=>∃b4 b5 b6,q=em 85 [] [ap b4 0,ap b5 0,ap b6 0]/\C'=[Own.box b4 (aj (Rp.int .i64)) x1,Own.box b5 (aj (Rp.int .i64)) x2,Own.box b6 (aj (Rp.int .i64)) x3]):=by
 refine fj (n:=8) (rs:=[6]) Tryz.func74 rfl Tryz.ntmps74 ⟨by decide,Tryz.results74⟩ (by decide) (fun s0=> ?_)
 refine W_rs ?_
 refine rBox (R:=aj (Rp.int .i64)) (a:=x1) rfl (fun b4=> ?_)
 refine rBox (R:=aj (Rp.int .i64)) (a:=x2) rfl (fun b5=> ?_)
 refine rBox (R:=aj (Rp.int .i64)) (a:=x3) rfl (fun b6=> ?_)
 refine rq (out:=Pr.is .nilFunc) ab ?_
 refine W_rs ?_
 refine rq (out:=em 85 [] [ap b4 0,ap b5 0,ap b6 0]) ii ?_
 refine rq (out:=em 85 [] [ap b4 0,ap b5 0,ap b6 0]) ab ?_
 exact a9 ⟨.inl rfl,_,Pick.refl _,_,aa,b4,b5,b6,rfl,rfl⟩
theorem ke (x1 x2:List Int) (r:Bool) (h:d9 x1 x2=some r):FnP Tryz.prog 89 [ae (Rp.int .i64) x1,ae (Rp.int .i64) x2] (Pr.bool r):=by
 refine a8 (n:=26) (rs:=[4]) Tryz.func89 rfl Tryz.ntmps89 ⟨by decide,Tryz.results89⟩ (by decide) (fun s0=> ?_)
 unfold d9 at h
 refine W_rs ?_
 refine rq (out:=Pr.bool false) ab ?_
 refine ax ?_
 refine W_rs ?_
 refine rq (out:=ae (Rp.int .i64) x1) ag ?_
 refine rq (out:=Pr.i64 (x1.length:Int)) (cj rfl Tryz.underlying90) ?_
 refine rq (out:=ae (Rp.int .i64) x2) ag ?_
 refine rq (out:=Pr.i64 (x2.length:Int)) (cj rfl Tryz.underlying90) ?_
 refine rq (out:=Pr.bool ((x1.length:Int) != (x2.length:Int))) qInt ?_
 refine ar (b:=(x1.length:Int) != (x2.length:Int)) rfl (fun hc3=> ?_) (fun hc3=> ?_)
 ·replace h:=iteT hc3 h
  refine W_rs ?_
  refine rq (out:=Pr.bool false) ab ?_
  obtain rfl:=Option.some.inj h
  exact a9 ⟨rfl,aa⟩
 replace h:=iteF hc3 h
 refine av ?_
 refine ax ?_
 refine W_rs ?_
 refine rq (out:=ae (Rp.int .i64) x1) ag ?_
 refine rq (out:=Pr.i64 (x1.length:Int)) (cj rfl Tryz.underlying90) ?_
 refine rq (out:=Pr.i64 0) ag ?_
 refine aq ?_
 obtain⟨z2l,hz2,h⟩:=ah h
 obtain⟨n2,hN2⟩:=a4 hz2
 clear hz2
 refine bp 0 (fun e C=>gw=some r/\At [] [] e C) ?_ ?_
 ·rintro e C ⟨h,hat1⟩
  refine W_at hat1 ?_
  clear hat1
  unfold gw at h
  refine W_rs ?_
  refine rq (out:=Pr.bool true) ab ?_
  obtain rfl:=Option.some.inj h
  exact a9 ⟨rfl,aa⟩
 refine cg (fun m e C=>∃(x4:Int),cv (fun s=>cu x1 x2 s) m x4=some z2l/\At [(0,ae (Rp.int .i64) x1),(1,ae (Rp.int .i64) x2),(12,Pr.i64 (x1.length:Int)),(13,Pr.i64 x4)] [] e C) n2 ⟨0,hN2,⟨⟨aa,aa,aa,aa,trivial⟩,Pick.refl _⟩⟩ ?_
 clear hN2
 rintro m e C ⟨x4,hN2,hatl2⟩
 refine W_at hatl2 ?_
 clear hatl2
 obtain⟨m2,w2l,rfl,h2l,hn2,ho2⟩:=ay hN2
 clear hN2
 replace h2l:cu x1 x2 x4=some w2l:=h2l
 unfold cu at h2l
 refine W_rs ?_
 refine rq (out:=Pr.bool (decide (x4<(x1.length:Int)))) qInt ?_
 refine ax ?_
 refine ar (b:=decide (x4<(x1.length:Int))) rfl (fun hc6=> ?_) (fun hc6=> ?_)
 ·replace h2l:=iteT hc6 h2l
  refine av ?_
  refine ax ?_
  refine aq ?_
  refine W_rs ?_
  refine rq (out:=Pr.i64 x4) ag ?_
  refine rq (out:=Pr.i64 x4) ab ?_
  refine bd (fun e C=>∃(x7:Int),∃(x8:Int),fh x4 x7 x8=some w2l/\At [(0,ae (Rp.int .i64) x1),(1,ae (Rp.int .i64) x2),(12,Pr.i64 (x1.length:Int)),(13,Pr.i64 x4),(24,Pr.bool (x7 != x8))] [] e C) ?_ ?_
  ·rintro e C ⟨x7,x8,h2l,hat3⟩
   refine W_at hat3 ?_
   clear hat3
   unfold fh at h2l
   refine ar (b:=x7 != x8) rfl (fun hc9=> ?_) (fun hc9=> ?_)
   ·replace h2l:=iteT hc9 h2l
    refine W_rs ?_
    refine rq (out:=Pr.bool false) ab ?_
    obtain rfl:=ho2 _ (Option.some.inj h2l).symm
    replace h:some false=some r:=h
    obtain rfl:=Option.some.inj h
    exact a9 ⟨rfl,aa⟩
   replace h2l:=iteF hc9 h2l
   refine av ?_
   refine W_r ?_
   refine rq (out:=Pr.i64 (w64 (x4+1))) qInt ?_
   refine rq (out:=Pr.i64 (w64 (x4+1))) ag ?_
   exact⟨m2,Nat.lt_succ_self _,w64 (x4+1),hn2 _ (Option.some.inj h2l).symm,⟨⟨aa,aa,aa,aa,trivial⟩,Pick.refl _⟩⟩
  refine ea 9 hmx (by kernel_rfl) (by kernel_rfl) ?_
  refine qq (out:=ae (Rp.int .i64) x1) ag ?_
  refine qq (out:=Pr.i64 x4) ag ?_
  obtain⟨x7,hx7,h2l⟩:=ah h2l
  refine qq (out:=a5 (Rp.int .i64) x7) (co (R:=Rp.int .i64) (l:=x1) Tryz.underlying90 Tryz.sizeOf3 hx7) ?_
  refine qq (out:=Pr.i64 x7) (bh (R:=Rp.int .i64) (a:=x7) ty3) ?_
  refine qq (out:=ae (Rp.int .i64) x2) ag ?_
  refine qq (out:=Pr.i64 x4) ag ?_
  obtain⟨x8,hx8,h2l⟩:=ah h2l
  refine qq (out:=a5 (Rp.int .i64) x8) (co (R:=Rp.int .i64) (l:=x2) Tryz.underlying90 Tryz.sizeOf3 hx8) ?_
  refine qq (out:=Pr.i64 x8) (bh (R:=Rp.int .i64) (a:=x8) ty3) ?_
  refine qq (out:=Pr.bool (x7 != x8)) qInt ?_
  exact⟨x7,x8,h2l,⟨⟨aa,aa,aa,aa,aa,trivial⟩,Pick.refl _⟩⟩
 replace h2l:=iteF hc6 h2l
 refine cb ?_
 obtain rfl:=ho2 _ (Option.some.inj h2l).symm
 exact⟨h,⟨trivial,Pick.refl _⟩⟩
theorem diff3_kind_ok (x1 x2 x3:List Int) (r:Int) (h:diff3_kind x1 x2 x3=some r):FnP Tryz.prog 75 [ae (Rp.int .i64) x1,ae (Rp.int .i64) x2,ae (Rp.int .i64) x3] (Pr.i64 r):=by
 refine a8 (n:=36) (rs:=[6]) Tryz.func75 rfl Tryz.ntmps75 ⟨by decide,Tryz.results75⟩ (by decide) (fun s0=> ?_)
 unfold diff3_kind at h
 refine W_rs ?_
 refine rq (out:=Pr.i64 0) ab ?_
 refine W_rs ?_
 refine rq (out:=ae (Rp.int .i64) x1) ag ?_
 refine rq (out:=ae (Rp.int .i64) x2) ag ?_
 obtain⟨x4,hx4,h⟩:=ah h
 refine rq (out:=Pr.bool x4) (bq (ke x1 x2 _ hx4)) ?_
 refine rq (out:=Pr.bool (!x4)) qNot ?_
 refine rq (out:=ae (Rp.int .i64) x1) ag ?_
 refine rq (out:=ae (Rp.int .i64) x3) ag ?_
 obtain⟨x5,hx5,h⟩:=ah h
 refine rq (out:=Pr.bool x5) (bq (ke x1 x3 _ hx5)) ?_
 refine rq (out:=Pr.bool (!x5)) qNot ?_
 refine rq (out:=Pr.bool (!x4)) ab ?_
 refine rq (out:=Pr.bool (!x5)) ab ?_
 refine ax ?_
 refine aq ?_
 refine bd (fun e C=>∃(x11:Bool),ne x4 x5 x11=some r/\At [(7,Pr.bool (!x4)),(8,Pr.bool (!x5)),(17,Pr.bool x11)] [] e C) ?_ ?_
 ·rintro e C ⟨x11,h,hat2⟩
  refine W_at hat2 ?_
  clear hat2
  unfold ne at h
  refine ar (b:=x11) rfl (fun hc12=> ?_) (fun hc12=> ?_)
  ·replace h:=iteT hc12 h
   refine W_rs ?_
   refine rq (out:=Pr.i64 3) ab ?_
   obtain rfl:=Option.some.inj h
   exact a9 ⟨rfl,aa⟩
  replace h:=iteF hc12 h
  refine bd (fun e C=>∃(x14:Bool),diff3_kind_j1 x4 x5 x14=some r/\At [(7,Pr.bool (!x4)),(8,Pr.bool (!x5)),(27,Pr.bool x14)] [] e C) ?_ ?_
  ·rintro e C ⟨x14,h,hat1⟩
   refine W_at hat1 ?_
   clear hat1
   unfold diff3_kind_j1 at h
   refine ar (b:=x14) rfl (fun hc15=> ?_) (fun hc15=> ?_)
   ·replace h:=iteT hc15 h
    refine W_rs ?_
    refine rq (out:=Pr.i64 4) ab ?_
    obtain rfl:=Option.some.inj h
    exact a9 ⟨rfl,aa⟩
   replace h:=iteF hc15 h
   refine W_rs ?_
   refine rq (out:=Pr.bool (!x4)) ag ?_
   refine rq (out:=Pr.bool (!x4)) ab ?_
   refine ar (b:= !x4) rfl (fun hc16=> ?_) (fun hc16=> ?_)
   ·replace h:=iteT hc16 h
    refine W_rs ?_
    refine rq (out:=Pr.i64 1) ab ?_
    obtain rfl:=Option.some.inj h
    exact a9 ⟨rfl,aa⟩
   replace h:=iteF hc16 h
   refine W_rs ?_
   refine rq (out:=Pr.bool (!x5)) ag ?_
   refine rq (out:=Pr.bool (!x5)) ab ?_
   refine ar (b:= !x5) rfl (fun hc17=> ?_) (fun hc17=> ?_)
   ·replace h:=iteT hc17 h
    refine W_rs ?_
    refine rq (out:=Pr.i64 2) ab ?_
    obtain rfl:=Option.some.inj h
    exact a9 ⟨rfl,aa⟩
   replace h:=iteF hc17 h
   refine av ?_
   refine W_rs ?_
   refine rq (out:=Pr.i64 0) ab ?_
   obtain rfl:=Option.some.inj h
   exact a9 ⟨rfl,aa⟩
  refine W_r ?_
  refine rq (out:=Pr.bool (!x4)) ag ?_
  refine rq (out:=Pr.bool (!x4)) ag ?_
  rcases bj h with⟨hc13,h⟩|⟨hc13,h⟩
  ·refine rqg hc13 (out:=Pr.bool (!x5)) ag ?_
   refine rq (out:=Pr.bool (!x5)) (bv hc13) ?_
   refine rq (out:=Pr.bool (!x5)) ab ?_
   exact⟨!x5,h,⟨⟨aa,aa,aa,trivial⟩,Pick.refl _⟩⟩
  refine rno (neT hc13) ?_
  refine rq (out:=Pr.bool false) (a7 hc13) ?_
  refine rq (out:=Pr.bool false) ab ?_
  exact⟨false,h,⟨⟨aa,aa,aa,trivial⟩,Pick.refl _⟩⟩
 refine W_r ?_
 refine rq (out:=Pr.bool (!x4)) ag ?_
 refine rq (out:=Pr.bool (!x4)) ag ?_
 rcases bj h with⟨hc6,h⟩|⟨hc6,h⟩
 ·refine rqg hc6 (out:=Pr.bool (!x5)) ag ?_
  refine rq (out:=Pr.bool (!x5)) (bv hc6) ?_
  refine rq (out:=Pr.bool (!x5)) ag ?_
  rcases bj h with⟨hc7,h⟩|⟨hc7,h⟩
  ·refine rqg hc7 (out:=ae (Rp.int .i64) x2) ag ?_
   refine rqg hc7 (out:=ae (Rp.int .i64) x3) ag ?_
   obtain⟨x8,hx8,h⟩:=ah h
   refine rqg hc7 (out:=Pr.bool x8) (bq (ke x2 x3 _ hx8)) ?_
   refine rq (out:=Pr.bool x8) (bv hc7) ?_
   refine rq (out:=Pr.bool x8) ab ?_
   exact⟨x8,h,⟨⟨aa,aa,aa,trivial⟩,Pick.refl _⟩⟩
  refine rno (neT hc7) ?_
  refine rno (neT hc7) ?_
  refine rno (neT hc7) ?_
  refine rq (out:=Pr.bool false) (a7 hc7) ?_
  refine rq (out:=Pr.bool false) ab ?_
  exact⟨false,h,⟨⟨aa,aa,aa,trivial⟩,Pick.refl _⟩⟩
 refine rno (neT hc6) ?_
 refine rq (out:=Pr.bool false) (a7 hc6) ?_
 refine rq (out:=Pr.bool false) ag ?_
 have hc9:false=false:=rfl
 refine rno (neT hc9) ?_
 refine rno (neT hc9) ?_
 refine rno (neT hc9) ?_
 refine rq (out:=Pr.bool false) (a7 hc9) ?_
 refine rq (out:=Pr.bool false) ab ?_
 exact⟨false,h,⟨⟨aa,aa,aa,trivial⟩,Pick.refl _⟩⟩
theorem diff3_Chunks_ok (x1 x2 x3:List Int) (r:(List ApiChunk)) (h:diff3_Chunks x1 x2 x3=some r):FnP Tryz.prog 65 [ae (Rp.int .i64) x1,ae (Rp.int .i64) x2,ae (Rp.int .i64) x3] (ae ao r):=by
 refine a8 (n:=55) (rs:=[6]) Tryz.func65 rfl Tryz.ntmps65 ⟨by decide,Tryz.results65⟩ (by decide) (fun s0=> ?_)
 unfold diff3_Chunks at h
 refine W_rs ?_
 refine rBox (R:=aj (Rp.int .i64)) (a:=x1) rfl (fun b4=> ?_)
 refine rBox (R:=aj (Rp.int .i64)) (a:=x2) rfl (fun b5=> ?_)
 refine rBox (R:=aj (Rp.int .i64)) (a:=x3) rfl (fun b6=> ?_)
 refine rq (out:=Pr.is (.slice none 0 0)) ab ?_
 refine W_rs ?_
 refine rAllocC Tryz.zeroValue66 rfl rfl (fun b7=> ?_)
 refine W_rs2 ?_
 refine W_r ?_
 refine rq (out:=ae (Rp.int .i64) x1) (bg (R:=aj (Rp.int .i64)) (a:=x1) (R':=aj (Rp.int .i64)) 0 ty90 (Sub.refl _)) ?_
 refine rq (out:=ae (Rp.int .i64) x2) (bg (R:=aj (Rp.int .i64)) (a:=x2) (R':=aj (Rp.int .i64)) 1 ty90 (Sub.refl _)) ?_
 refine rq (out:=ae (Rp.int .i64) x3) (bg (R:=aj (Rp.int .i64)) (a:=x3) (R':=aj (Rp.int .i64)) 2 ty90 (Sub.refl _)) ?_
 refine pb [] (diff3_chunks_ok x1 x2 x3) (fun q C' hq=> ?_)
 obtain⟨b8,b9,b10,rfl,rfl⟩:=hq
 refine⟨rfl,?_⟩
 obtain⟨⟨x25,x26,x27,x28⟩,hx29,h⟩:=ah h
 refine WR_vec ao 71 ?_
 refine W_range [0,1,2] (fun(s:(List ApiChunk)) C=>∃(v13:Value),C=[Own.box b4 (aj (Rp.int .i64)) x1,Own.box b5 (aj (Rp.int .i64)) x2,Own.box b6 (aj (Rp.int .i64)) x3,Own.cell b7 (Pr.is v13),Own.vec v13 ao s 71]) (encs:=(fun(a:Diff3Ends × Diff3Ends)=>[(am).val a.1,(am).val a.2])) (yld:=(fun(s:(List ApiChunk)) (a:Diff3Ends × Diff3Ends)=>jp x1 x2 x3 s a.1 a.2)) (st0:=[]) (stF:=x28) (Ccap':=[Own.box b8 (aj (Rp.int .i64)) x25,Own.box b9 (aj (Rp.int .i64)) x26,Own.box b10 (aj (Rp.int .i64)) x27]) (fun l Y L hY=>diff3_chunks_1_ok _ Y l hY x1 x2 x3 [] b8 b9 b10 L _ hx29) ⟨(.slice none 0 0),rfl⟩ (fun _=>rfl) ?_ ?_ (fun _ _ _ h=>h.1)
 ·rintro l x14 ⟨x11,x12⟩ ⟨rb1,rs1⟩ C T s0 ⟨v13,rfl⟩ hy1
  replace hy1:jp x1 x2 x3 x14 x11 x12=some (rb1,rs1):=hy1
  unfold jp at hy1
  refine W_rs ?_
  refine np (R:=am) (z:=(Diff3Ends.mk 0 0 0)) Tryz.zeroValue117 (fun _=>⟨_,⟨_,_,rfl,rfl,⟨_,_,rfl,rfl,⟨_,_,rfl,rfl,rfl⟩⟩⟩,rfl⟩) (fun b17=> ?_)
  refine en (R:=am) (R':=am) (a:=(Diff3Ends.mk 0 0 0)) (y:=x11) 5 Tryz.sizeOf117 (Upd.refl _) ?_
  refine W_r ?_
  refine np (R:=am) (z:=(Diff3Ends.mk 0 0 0)) Tryz.zeroValue117 (fun _=>⟨_,⟨_,_,rfl,rfl,⟨_,_,rfl,rfl,⟨_,_,rfl,rfl,rfl⟩⟩⟩,rfl⟩) (fun b18=> ?_)
  refine en (R:=am) (R':=am) (a:=(Diff3Ends.mk 0 0 0)) (y:=x12) 6 Tryz.sizeOf117 (Upd.refl _) ?_
  refine⟨rfl,fun T s0=> ?_⟩
  refine W_pickK ?_
  refine aq ?_
  refine ea 37 hmx (by kernel_rfl) (by kernel_rfl) ?_
  refine qq (out:=Pr.is v13) (qLoadP 3 Tryz.isAgg66) ?_
  refine qq (out:=ae (Rp.int .i64) x1) (bg (R:=aj (Rp.int .i64)) (a:=x1) (R':=aj (Rp.int .i64)) 0 ty90 (Sub.refl _)) ?_
  refine qq (out:=ap b17 0) (az fld117_0) ?_
  refine qq (out:=Pr.i64 x11.o) (bg (R:=am) (a:=x11) (R':=Rp.int .i64) 5 ty3 ed) ?_
  refine qq (out:=ap b18 0) (az fld117_0) ?_
  refine qq (out:=Pr.i64 x12.o) (bg (R:=am) (a:=x12) (R':=Rp.int .i64) 6 ty3 ed) ?_
  obtain⟨x19,hx19,hy1⟩:=ah hy1
  refine qq (out:=ae (Rp.int .i64) x19) (lw Tryz.underlying90 Tryz.sizeOf3 hx19) ?_
  refine qq (out:=ae (Rp.int .i64) x2) (bg (R:=aj (Rp.int .i64)) (a:=x2) (R':=aj (Rp.int .i64)) 1 ty90 (Sub.refl _)) ?_
  refine qq (out:=ap b17 1) (az fld117_1) ?_
  refine qq (out:=Pr.i64 x11.a) (bg (R:=am) (a:=x11) (R':=Rp.int .i64) 5 ty3 kz) ?_
  refine qq (out:=ap b18 1) (az fld117_1) ?_
  refine qq (out:=Pr.i64 x12.a) (bg (R:=am) (a:=x12) (R':=Rp.int .i64) 6 ty3 kz) ?_
  obtain⟨x20,hx20,hy1⟩:=ah hy1
  refine qq (out:=ae (Rp.int .i64) x20) (lw Tryz.underlying90 Tryz.sizeOf3 hx20) ?_
  refine qq (out:=ae (Rp.int .i64) x3) (bg (R:=aj (Rp.int .i64)) (a:=x3) (R':=aj (Rp.int .i64)) 2 ty90 (Sub.refl _)) ?_
  refine qq (out:=ap b17 2) (az fld117_2) ?_
  refine qq (out:=Pr.i64 x11.b) (bg (R:=am) (a:=x11) (R':=Rp.int .i64) 5 ty3 ky) ?_
  refine qq (out:=ap b18 2) (az fld117_2) ?_
  refine qq (out:=Pr.i64 x12.b) (bg (R:=am) (a:=x12) (R':=Rp.int .i64) 6 ty3 ky) ?_
  obtain⟨x21,hx21,hy1⟩:=ah hy1
  refine qq (out:=ae (Rp.int .i64) x21) (lw Tryz.underlying90 Tryz.sizeOf3 hx21) ?_
  obtain⟨x22,hx22,hy1⟩:=ah hy1
  refine qq (out:=Pr.i64 x22) (bq (diff3_kind_ok x19 x20 x21 _ hx22)) ?_
  refine qq (out:=ap b17 0) (az fld117_0) ?_
  refine qq (out:=Pr.i64 x11.o) (bg (R:=am) (a:=x11) (R':=Rp.int .i64) 5 ty3 ed) ?_
  refine qq (out:=ap b18 0) (az fld117_0) ?_
  refine qq (out:=Pr.i64 x12.o) (bg (R:=am) (a:=x12) (R':=Rp.int .i64) 6 ty3 ed) ?_
  refine qq (out:=(l0).val (ApiSpan.mk x11.o x12.o)) (iv st69 ⟨(ApiSpan.mk x11.o 0),⟨_,rfl,rfl,fun j fd hj hf=>by match j,hj with| 0,h=>exact absurd rfl h| 1,_=>cases hf;rfl|_+2,_=>cases hf⟩,⟨(ApiSpan.mk x11.o x12.o),⟨_,rfl,rfl,fun j fd hj hf=>by match j,hj with| 0,_=>cases hf;rfl| 1,h=>exact absurd rfl h|_+2,_=>cases hf⟩,rfl⟩⟩) ?_
  refine qq (out:=ap b17 1) (az fld117_1) ?_
  refine qq (out:=Pr.i64 x11.a) (bg (R:=am) (a:=x11) (R':=Rp.int .i64) 5 ty3 kz) ?_
  refine qq (out:=ap b18 1) (az fld117_1) ?_
  refine qq (out:=Pr.i64 x12.a) (bg (R:=am) (a:=x12) (R':=Rp.int .i64) 6 ty3 kz) ?_
  refine qq (out:=(l0).val (ApiSpan.mk x11.a x12.a)) (iv st69 ⟨(ApiSpan.mk x11.a 0),⟨_,rfl,rfl,fun j fd hj hf=>by match j,hj with| 0,h=>exact absurd rfl h| 1,_=>cases hf;rfl|_+2,_=>cases hf⟩,⟨(ApiSpan.mk x11.a x12.a),⟨_,rfl,rfl,fun j fd hj hf=>by match j,hj with| 0,_=>cases hf;rfl| 1,h=>exact absurd rfl h|_+2,_=>cases hf⟩,rfl⟩⟩) ?_
  refine qq (out:=ap b17 2) (az fld117_2) ?_
  refine qq (out:=Pr.i64 x11.b) (bg (R:=am) (a:=x11) (R':=Rp.int .i64) 5 ty3 ky) ?_
  refine qq (out:=ap b18 2) (az fld117_2) ?_
  refine qq (out:=Pr.i64 x12.b) (bg (R:=am) (a:=x12) (R':=Rp.int .i64) 6 ty3 ky) ?_
  refine qq (out:=(l0).val (ApiSpan.mk x11.b x12.b)) (iv st69 ⟨(ApiSpan.mk x11.b 0),⟨_,rfl,rfl,fun j fd hj hf=>by match j,hj with| 0,h=>exact absurd rfl h| 1,_=>cases hf;rfl|_+2,_=>cases hf⟩,⟨(ApiSpan.mk x11.b x12.b),⟨_,rfl,rfl,fun j fd hj hf=>by match j,hj with| 0,_=>cases hf;rfl| 1,h=>exact absurd rfl h|_+2,_=>cases hf⟩,rfl⟩⟩) ?_
  refine qq (out:=(ao).val (ApiChunk.mk x22 (ApiSpan.mk x11.o x12.o) (ApiSpan.mk x11.a x12.a) (ApiSpan.mk x11.b x12.b))) (iv st71 ⟨(ApiChunk.mk x22 (ApiSpan.mk 0 0) (ApiSpan.mk 0 0) (ApiSpan.mk 0 0)),⟨_,rfl,rfl,fun j fd hj hf=>by match j,hj with| 0,h=>exact absurd rfl h| 1,_=>cases hf;rfl| 2,_=>cases hf;rfl| 3,_=>cases hf;rfl|_+4,_=>cases hf⟩,⟨(ApiChunk.mk x22 (ApiSpan.mk x11.o x12.o) (ApiSpan.mk 0 0) (ApiSpan.mk 0 0)),⟨_,rfl,rfl,fun j fd hj hf=>by match j,hj with| 0,_=>cases hf;rfl| 1,h=>exact absurd rfl h| 2,_=>cases hf;rfl| 3,_=>cases hf;rfl|_+4,_=>cases hf⟩,⟨(ApiChunk.mk x22 (ApiSpan.mk x11.o x12.o) (ApiSpan.mk x11.a x12.a) (ApiSpan.mk 0 0)),⟨_,rfl,rfl,fun j fd hj hf=>by match j,hj with| 0,_=>cases hf;rfl| 1,_=>cases hf;rfl| 2,h=>exact absurd rfl h| 3,_=>cases hf;rfl|_+4,_=>cases hf⟩,⟨(ApiChunk.mk x22 (ApiSpan.mk x11.o x12.o) (ApiSpan.mk x11.a x12.a) (ApiSpan.mk x11.b x12.b)),⟨_,rfl,rfl,fun j fd hj hf=>by match j,hj with| 0,_=>cases hf;rfl| 1,_=>cases hf;rfl| 2,_=>cases hf;rfl| 3,h=>exact absurd rfl h|_+4,_=>cases hf⟩,rfl⟩⟩⟩⟩) ?_
  refine qq (out:=ae ao ([(ApiChunk.mk x22 (ApiSpan.mk x11.o x12.o) (ApiSpan.mk x11.a x12.a) (ApiSpan.mk x11.b x12.b))]:List ApiChunk)) (bb (R:=ao) (a:=(ApiChunk.mk x22 (ApiSpan.mk x11.o x12.o) (ApiSpan.mk x11.a x12.a) (ApiSpan.mk x11.b x12.b))) el66 (Nat.le_of_ble_eq_true rfl)) ?_
  obtain⟨x23,hx23,hy1⟩:=ah hy1
  refine ci 4 el66 hx23 (fun v24=> ?_)
  refine rStoreV 3 4 Tryz.sizeOf66 ?_
  obtain⟨rfl,rfl⟩:=Prod.mk.inj (Option.some.inj hy1)
  exact⟨_,Pick.of [0,1,2,3,4] rfl,rfl,rfl,v24,rfl⟩
 rintro D C' T s0 ⟨v13,rfl⟩
 refine W_rs ?_
 refine rq (out:=Pr.is v13) (qLoadP 6 Tryz.isAgg66) ?_
 refine rq (out:=Pr.is v13) ab ?_
 refine mq 7 [6] ?_ rfl ⟨rfl,trivial⟩
 obtain rfl:=Option.some.inj h
 exact a9 ⟨rfl,aa⟩
theorem diff3_Parts_ok (x1 x2 x3:List (List UInt8)) (r:(List ApiChunk)) (h:o8 x1 x2 x3=some r):FnP Tryz.prog 53 [ae af x1,ae af x2,ae af x3] (ae ao r):=by
 refine a8 (n:=23) (rs:=[6]) Tryz.func53 rfl Tryz.ntmps53 ⟨by decide,Tryz.results53⟩ (by decide) (fun s0=> ?_)
 unfold o8 at h
 refine W_rs ?_
 refine rq (out:=Pr.is (.slice none 0 0)) ab ?_
 refine W_rs ?_
 refine rq (out:=ae af x1) ag ?_
 refine rq (out:=ae af x2) ag ?_
 refine rq (out:=ae af x3) ag ?_
 refine rq (out:=ae (aj af) ([x1,x2,x3]:List (List (List UInt8)))) (fu (R:=aj af) (ls:=([x1,x2,x3]:List (List (List UInt8)))) el78 (Nat.le_of_ble_eq_true rfl) ⟨rfl,rfl⟩ ⟨rfl,rfl,rfl,trivial⟩) ?_
 obtain⟨x4,hx4,h⟩:=ah h
 refine rq (out:=ae (aj (Rp.int .i64)) x4) (bq (lcs_Numbers_ok ([x1,x2,x3]:List (List (List UInt8))) _ hx4)) ?_
 refine rq (out:=ae (aj (Rp.int .i64)) x4) ab ?_
 refine bd (fun e C=>∃(x8:List ApiChunk),oh x8=some r/\At [(6,ae ao x8)] [] e C) ?_ ?_
 ·rintro e C ⟨x8,h,hat1⟩
  refine W_at hat1 ?_
  clear hat1
  unfold oh at h
  obtain rfl:=Option.some.inj h
  exact a9 ⟨rfl,aa⟩
 refine ea 11 hmx (by kernel_rfl) (by kernel_rfl) ?_
 refine qq (out:=ae (aj (Rp.int .i64)) x4) ag ?_
 obtain⟨x5,hx5,h⟩:=ah h
 refine qq (out:=a5 (aj (Rp.int .i64)) x5) (co (R:=aj (Rp.int .i64)) (l:=x4) Tryz.underlying87 Tryz.sizeOf90 hx5) ?_
 refine qq (out:=ae (Rp.int .i64) x5) (bh (R:=aj (Rp.int .i64)) (a:=x5) ty90) ?_
 refine qq (out:=ae (aj (Rp.int .i64)) x4) ag ?_
 obtain⟨x6,hx6,h⟩:=ah h
 refine qq (out:=a5 (aj (Rp.int .i64)) x6) (co (R:=aj (Rp.int .i64)) (l:=x4) Tryz.underlying87 Tryz.sizeOf90 hx6) ?_
 refine qq (out:=ae (Rp.int .i64) x6) (bh (R:=aj (Rp.int .i64)) (a:=x6) ty90) ?_
 refine qq (out:=ae (aj (Rp.int .i64)) x4) ag ?_
 obtain⟨x7,hx7,h⟩:=ah h
 refine qq (out:=a5 (aj (Rp.int .i64)) x7) (co (R:=aj (Rp.int .i64)) (l:=x4) Tryz.underlying87 Tryz.sizeOf90 hx7) ?_
 refine qq (out:=ae (Rp.int .i64) x7) (bh (R:=aj (Rp.int .i64)) (a:=x7) ty90) ?_
 obtain⟨x8,hx8,h⟩:=ah h
 refine qq (out:=ae ao x8) (bq (diff3_Chunks_ok x5 x6 x7 _ hx8)) ?_
 refine qq (out:=ae ao x8) ab ?_
 exact⟨x8,h,⟨⟨aa,trivial⟩,Pick.refl _⟩⟩
theorem weave_parts_ok (x1 x2 x3:List (List UInt8)) (r:(List ApiPart)) (h:oz x1 x2 x3=some r):FnP Tryz.prog 78 [ae af x1,ae af x2,ae af x3] (ae al r):=by
 refine a8 (n:=123) (rs:=[6]) Tryz.func78 rfl Tryz.ntmps78 ⟨by decide,Tryz.results78⟩ (by decide) (fun s0=> ?_)
 unfold oz at h
 refine W_rs ?_
 refine rq (out:=Pr.is (.slice none 0 0)) ab ?_
 refine W_scope ?_
 refine W_rs ?_
 refine rq (out:=Pr.is (.slice none 0 0)) ab ?_
 refine ax ?_
 refine W_label ?_
 refine ax ?_
 refine W_rs ?_
 refine rq (out:=ae af x1) ag ?_
 refine rq (out:=ae af x2) ag ?_
 refine rq (out:=ae af x3) ag ?_
 obtain⟨x4,hx4,h⟩:=ah h
 refine rq (out:=ae ao x4) (bq (diff3_Parts_ok x1 x2 x3 _ hx4)) ?_
 refine rq (out:=Pr.i64 (x4.length:Int)) (cj rfl Tryz.underlying66) ?_
 refine rq (out:=Pr.i64 0) ag ?_
 refine aq ?_
 obtain⟨z2l,hz2,h⟩:=ah h
 obtain⟨n2,hN2⟩:=a4 hz2
 clear hz2
 refine bp 0 (fun e C=>∃(x7:List ApiPart),∃(v5:Value),weave_parts_k1 x7=some r/\At [(7,Pr.is v5)] [Own.vec v5 al x7 95] e C) ?_ ?_
 ·rintro e C ⟨x7,v5,h,hat1⟩
  refine W_at hat1 ?_
  clear hat1
  unfold weave_parts_k1 at h
  refine W_rs ?_
  refine rq (out:=Pr.is v5) ag ?_
  refine rq (out:=Pr.is v5) ab ?_
  refine mq 0 [6] ?_ rfl ⟨rfl,trivial⟩
  obtain rfl:=Option.some.inj h
  exact a9 ⟨rfl,aa⟩
 refine pk [7] al 95 (fun v39=> ?_) ⟨rfl,trivial⟩
 refine cg (fun m e C=>∃(x6:Int),∃(x7:List ApiPart),∃(v5:Value),cv (fun s=>gx x4 x1 x2 x3 s.1 s.2) m (x6,x7)=some z2l/\At [(0,ae af x1),(1,ae af x2),(2,ae af x3),(7,Pr.is v5),(16,ae ao x4),(17,Pr.i64 (x4.length:Int)),(18,Pr.i64 x6)] [Own.vec v5 al x7 95] e C) n2 ⟨0,[],v39,hN2,⟨⟨aa,aa,aa,aa,aa,aa,aa,trivial⟩,Pick.refl _⟩⟩ ?_
 clear hN2
 rintro m e C ⟨x6,x7,v5,hN2,hatl2⟩
 refine W_at hatl2 ?_
 clear hatl2
 obtain⟨m2,w2l,rfl,h2l,hn2,ho2⟩:=ay hN2
 clear hN2
 replace h2l:gx x4 x1 x2 x3 x6 x7=some w2l:=h2l
 unfold gx at h2l
 refine W_rs ?_
 refine rq (out:=Pr.bool (decide (x6<(x4.length:Int)))) qInt ?_
 refine ax ?_
 refine ar (b:=decide (x6<(x4.length:Int))) rfl (fun hc11=> ?_) (fun hc11=> ?_)
 ·replace h2l:=iteT hc11 h2l
  refine av ?_
  refine bd (fun e C=>∃(x38:List ApiPart),∃(x12:ApiChunk),∃(x23:ApiPart),∃(v37:Value),∃(b13:Nat),∃(b20:Nat),kw x6 x38 x12 x23=some w2l/\At [(0,ae af x1),(1,ae af x2),(2,ae af x3),(7,Pr.is v37),(16,ae ao x4),(17,Pr.i64 (x4.length:Int)),(18,Pr.i64 x6)] [Own.vec v37 al x38 95,Own.box b13 ao x12,Own.box b20 al x23] e C) ?_ ?_
  ·rintro e C ⟨x38,x12,x23,v37,b13,b20,h2l,hat3⟩
   refine W_at hat3 ?_
   clear hat3
   unfold kw at h2l
   refine W_r ?_
   refine rq (out:=Pr.i64 (w64 (x6+1))) qInt ?_
   refine rq (out:=Pr.i64 (w64 (x6+1))) ag ?_
   exact⟨m2,Nat.lt_succ_self _,w64 (x6+1),x38,v37,hn2 _ (Option.some.inj h2l).symm,⟨⟨aa,aa,aa,aa,aa,aa,aa,trivial⟩,Pick.of [0] rfl⟩⟩
  refine aq ?_
  refine W_rs ?_
  obtain⟨x12,hx12,h2l⟩:=ah h2l
  refine rq (out:=a5 ao x12) (co (R:=ao) (l:=x4) Tryz.underlying66 Tryz.sizeOf71 hx12) ?_
  refine rq (out:=(ao).val x12) (bh (R:=ao) (a:=x12) ty71) ?_
  refine np (R:=ao) (z:=(ApiChunk.mk 0 (ApiSpan.mk 0 0) (ApiSpan.mk 0 0) (ApiSpan.mk 0 0))) Tryz.zeroValue71 (fun _=>⟨_,⟨_,_,rfl,rfl,⟨_,_,rfl,⟨_,_,rfl,rfl,⟨_,_,rfl,rfl,rfl⟩⟩,⟨_,_,rfl,⟨_,_,rfl,rfl,⟨_,_,rfl,rfl,rfl⟩⟩,⟨_,_,rfl,⟨_,_,rfl,rfl,⟨_,_,rfl,rfl,rfl⟩⟩,rfl⟩⟩⟩⟩,rfl⟩) (fun b13=> ?_)
  refine en (R:=ao) (R':=ao) (a:=(ApiChunk.mk 0 (ApiSpan.mk 0 0) (ApiSpan.mk 0 0) (ApiSpan.mk 0 0))) (y:=x12) 1 Tryz.sizeOf71 (Upd.refl _) ?_
  refine bd (fun e C=>∃(x15:List UInt8),∃(x17:List UInt8),∃(x19:List UInt8),∃(b20:Nat),weave_parts_j7 x12 x7 x6 x15 x17 x19=some w2l/\At [(0,ae af x1),(1,ae af x2),(2,ae af x3),(7,Pr.is v5),(9,ap b13 0),(10,ap b20 0),(16,ae ao x4),(17,Pr.i64 (x4.length:Int)),(18,Pr.i64 x6)] [Own.vec v5 al x7 95,Own.box b13 ao x12,Own.box b20 al (ApiPart.mk (x12.Kind==4) x15 x17 x19)] e C) ?_ ?_
  ·rintro e C ⟨x15,x17,x19,b20,h2l,hat7⟩
   refine W_at hat7 ?_
   clear hat7
   unfold weave_parts_j7 at h2l
   refine bd (fun e C=>∃(x23:ApiPart),jh x7 x6 x12 x23=some w2l/\At [(0,ae af x1),(1,ae af x2),(2,ae af x3),(7,Pr.is v5),(10,ap b20 0),(16,ae ao x4),(17,Pr.i64 (x4.length:Int)),(18,Pr.i64 x6)] [Own.vec v5 al x7 95,Own.box b13 ao x12,Own.box b20 al x23] e C) ?_ ?_
   ·rintro e C ⟨x23,h2l,hat6⟩
    refine W_at hat6 ?_
    clear hat6
    unfold jh at h2l
    refine ax ?_
    refine W_rs ?_
    refine rq (out:=Pr.is v5) ag ?_
    refine rq (out:=Pr.i64 (x7.length:Int)) (qLenV 0 rfl Tryz.underlying80) ?_
    refine rq (out:=Pr.i64 (x7.length:Int)) ab ?_
    refine bd (fun e C=>∃(x29:Bool),gy x7 x23 x6 x12 x29=some w2l/\At [(0,ae af x1),(1,ae af x2),(2,ae af x3),(7,Pr.is v5),(10,ap b20 0),(11,Pr.i64 (x7.length:Int)),(16,ae ao x4),(17,Pr.i64 (x4.length:Int)),(18,Pr.i64 x6),(82,Pr.bool x29)] [Own.vec v5 al x7 95,Own.box b13 ao x12,Own.box b20 al x23] e C) ?_ ?_
    ·rintro e C ⟨x29,h2l,hat5⟩
     refine W_at hat5 ?_
     clear hat5
     unfold gy at h2l
     refine ar (b:=x29) rfl (fun hc30=> ?_) (fun hc30=> ?_)
     ·replace h2l:=iteT hc30 h2l
      refine W_rs ?_
      refine rq (out:=Pr.is v5) ag ?_
      refine rq (out:=Pr.i64 (x7.length:Int)) ag ?_
      refine rq (out:=Pr.i64 (w64 ((x7.length:Int) - 1))) qInt ?_
      obtain⟨x31,hx31,h2l⟩:=ah h2l
      refine rq (out:=cf v5 (Int.toNat (w64 ((x7.length:Int) - 1)) * (al).size)) (ie 0 (R:=al) (l:=x7) Tryz.underlying80 Tryz.sizeOf95 hx31) ?_
      refine rq (out:=cf v5 (Int.toNat (w64 ((x7.length:Int) - 1)) * (al).size)) ab ?_
      refine bd (fun e C=>∃(x32:List UInt8),∃(x33:List UInt8),∃(x34:List UInt8),weave_parts_j4 x6 x7 x31 x12 x23 x32 x33 x34=some w2l/\At [(0,ae af x1),(1,ae af x2),(2,ae af x3),(7,Pr.is v5),(16,ae ao x4),(17,Pr.i64 (x4.length:Int)),(18,Pr.i64 x6)] [Own.vec v5 al (List.set x7 (Int.toNat (w64 ((x7.length:Int) - 1))) (ApiPart.mk x31.Clash x32 x33 x34)) 95,Own.box b13 ao x12,Own.box b20 al x23] e C) ?_ ?_
      ·rintro e C ⟨x32,x33,x34,h2l,hat4⟩
       refine W_at hat4 ?_
       clear hat4
       unfold weave_parts_j4 at h2l
       refine cb ?_
       exact⟨(List.set x7 (Int.toNat (w64 ((x7.length:Int) - 1))) (ApiPart.mk x31.Clash x32 x33 x34)),x12,x23,v5,b13,b20,h2l,⟨⟨aa,aa,aa,aa,aa,aa,aa,trivial⟩,Pick.refl _⟩⟩
      obtain⟨x32,hx32,h2l⟩:=ah h2l
      obtain⟨x33,hx33,h2l⟩:=ah h2l
      obtain⟨x34,hx34,h2l⟩:=ah h2l
      refine W_drawG 0 (fun B S=>[Own.vec v5 al (List.set x7 (Int.toNat (w64 ((x7.length:Int) - 1))) (ApiPart.mk x31.Clash (cond (S 26) x32 x31.O) (cond (S 29) x33 x31.A) (cond (S 32) x34 x31.B))) 95,Own.box b13 ao x12,Own.box b20 al x23]) (fun B=>[Own.vec v5 al (List.set x7 (Int.toNat (w64 ((x7.length:Int) - 1))) (ApiPart.mk x31.Clash x32 x33 x34)) 95,Own.box b13 ao x12,Own.box b20 al x23]) [cf v5 (Int.toNat (w64 ((x7.length:Int) - 1)) * (al).size),cf v5 (Int.toNat (w64 ((x7.length:Int) - 1)) * (al).size),cf v5 (Int.toNat (w64 ((x7.length:Int) - 1)) * (al).size),cf v5 (Int.toNat (w64 ((x7.length:Int) - 1)) * (al).size),cf v5 (Int.toNat (w64 ((x7.length:Int) - 1)) * (al).size),cf v5 ((Int.toNat (w64 ((x7.length:Int) - 1)) * (al).size)+1),ak x31.O,ap b20 1,ak x23.O,ak x32,cf v5 (Int.toNat (w64 ((x7.length:Int) - 1)) * (al).size),cf v5 (Int.toNat (w64 ((x7.length:Int) - 1)) * (al).size),cf v5 ((Int.toNat (w64 ((x7.length:Int) - 1)) * (al).size)+2),ak x31.A,ap b20 2,ak x23.A,ak x33,cf v5 (Int.toNat (w64 ((x7.length:Int) - 1)) * (al).size),cf v5 (Int.toNat (w64 ((x7.length:Int) - 1)) * (al).size),cf v5 ((Int.toNat (w64 ((x7.length:Int) - 1)) * (al).size)+3),ak x31.B,ap b20 3,ak x23.B,ak x34,cf v5 (Int.toNat (w64 ((x7.length:Int) - 1)) * (al).size),cf v5 ((Int.toNat (w64 ((x7.length:Int) - 1)) * (al).size)+1),.any,cf v5 (Int.toNat (w64 ((x7.length:Int) - 1)) * (al).size),cf v5 ((Int.toNat (w64 ((x7.length:Int) - 1)) * (al).size)+2),.any,cf v5 (Int.toNat (w64 ((x7.length:Int) - 1)) * (al).size),cf v5 ((Int.toNat (w64 ((x7.length:Int) - 1)) * (al).size)+3),.any] (fun k=>([0,0,0,0,0,0,0,0,0,0,0,0,0,0,0,0,0,0,0,0,0,0,0,0,0,0,1,0,0,1,0,0,1]:List Nat).getD k 0) hmx (by kernel_rfl) (by kernel_rfl) (fun B=>congrArg (fun L=>([Own.vec v5 al L 95,Own.box b13 ao x12,Own.box b20 al x23]:Ctx)) (set_idx hx31)) (fun B S S' h=>by show([Own.vec v5 al (List.set x7 (Int.toNat (w64 ((x7.length:Int) - 1))) (ApiPart.mk x31.Clash (cond (S 26) x32 x31.O) (cond (S 29) x33 x31.A) (cond (S 32) x34 x31.B))) 95,Own.box b13 ao x12,Own.box b20 al x23]:Ctx)=[Own.vec v5 al (List.set x7 (Int.toNat (w64 ((x7.length:Int) - 1))) (ApiPart.mk x31.Clash (cond (S' 26) x32 x31.O) (cond (S' 29) x33 x31.A) (cond (S' 32) x34 x31.B))) 95,Own.box b13 ao x12,Own.box b20 al x23];simp only[h 26 (Nat.le_of_ble_eq_true (by kernel_rfl)),h 29 (Nat.le_of_ble_eq_true (by kernel_rfl)),h 32 (Nat.le_of_ble_eq_true (by kernel_rfl))]) (fun _=>rfl) (fun B=> ?_)
      refine gq1 (fun S hK=>ag) ?_
      refine gq1 (fun S hK=>ag) ?_
      refine gq1 (fun S hK=>ag) ?_
      refine gq1 (fun S hK=>ag) ?_
      refine gq1 (fun S hK=>qNilV) ?_
      refine gq1 (fun S hK=>(qFieldV fld95_1)) ?_
      refine gq1 (fun S hK=>(ig (R:=al) (R':=af) (l:=(List.set x7 (Int.toNat (w64 ((x7.length:Int) - 1))) (ApiPart.mk x31.Clash (cond (S 26) x32 x31.O) (cond (S 29) x33 x31.A) (cond (S 32) x34 x31.B)))) (a:=(ApiPart.mk x31.Clash (cond (S 26) x32 x31.O) (cond (S 29) x33 x31.A) (cond (S 32) x34 x31.B))) (o:=1) 0 ty9 subApiPart_O (Nat.le_of_ble_eq_true rfl) (idx_set hx31 _) rfl).as (congrArg ak (condF (hK.F 26 (by kernel_rfl)) _ _))) ?_
      refine gq1 (fun S hK=>(az fld95_1)) ?_
      refine gq1 (fun S hK=>(bg (R:=al) (a:=x23) (R':=af) 2 ty9 subApiPart_O (hi:=rfl))) ?_
      refine gq1 (fun S hK=>(qCat' hx32)) ?_
      refine gq1 (fun S hK=>ag) ?_
      refine gq1 (fun S hK=>qNilV) ?_
      refine gq1 (fun S hK=>(qFieldV fld95_2)) ?_
      refine gq1 (fun S hK=>(ig (R:=al) (R':=af) (l:=(List.set x7 (Int.toNat (w64 ((x7.length:Int) - 1))) (ApiPart.mk x31.Clash (cond (S 26) x32 x31.O) (cond (S 29) x33 x31.A) (cond (S 32) x34 x31.B)))) (a:=(ApiPart.mk x31.Clash (cond (S 26) x32 x31.O) (cond (S 29) x33 x31.A) (cond (S 32) x34 x31.B))) (o:=2) 0 ty9 js (Nat.le_of_ble_eq_true rfl) (idx_set hx31 _) rfl).as (congrArg ak (condF (hK.F 29 (by kernel_rfl)) _ _))) ?_
      refine gq1 (fun S hK=>(az fld95_2)) ?_
      refine gq1 (fun S hK=>(bg (R:=al) (a:=x23) (R':=af) 2 ty9 js (hi:=rfl))) ?_
      refine gq1 (fun S hK=>(qCat' hx33)) ?_
      refine gq1 (fun S hK=>ag) ?_
      refine gq1 (fun S hK=>qNilV) ?_
      refine gq1 (fun S hK=>(qFieldV fld95_3)) ?_
      refine gq1 (fun S hK=>(ig (R:=al) (R':=af) (l:=(List.set x7 (Int.toNat (w64 ((x7.length:Int) - 1))) (ApiPart.mk x31.Clash (cond (S 26) x32 x31.O) (cond (S 29) x33 x31.A) (cond (S 32) x34 x31.B)))) (a:=(ApiPart.mk x31.Clash (cond (S 26) x32 x31.O) (cond (S 29) x33 x31.A) (cond (S 32) x34 x31.B))) (o:=3) 0 ty9 md (Nat.le_of_ble_eq_true rfl) (idx_set hx31 _) rfl).as (congrArg ak (condF (hK.F 32 (by kernel_rfl)) _ _))) ?_
      refine gq1 (fun S hK=>(az fld95_3)) ?_
      refine gq1 (fun S hK=>(bg (R:=al) (a:=x23) (R':=af) 2 ty9 md (hi:=rfl))) ?_
      refine gq1 (fun S hK=>(qCat' hx34)) ?_
      refine gq1 (fun S hK=>qNilV) ?_
      refine gq1 (fun S hK=>(qFieldV fld95_1)) ?_
      refine gqS (fun S hK=>SStep.as (sStoreE (R:=al) (R':=af) (l:=(List.set x7 (Int.toNat (w64 ((x7.length:Int) - 1))) (ApiPart.mk x31.Clash (cond (S 26) x32 x31.O) (cond (S 29) x33 x31.A) (cond (S 32) x34 x31.B)))) (a:=(ApiPart.mk x31.Clash (cond (S 26) x32 x31.O) (cond (S 29) x33 x31.A) (cond (S 32) x34 x31.B))) (y:=x32) (o:=1) 0 Tryz.sizeOf9 updApiPart_O (idx_set hx31 _) rfl) (congrArg (fun L=>([Own.vec v5 al L 95,Own.box b13 ao x12,Own.box b20 al x23]:Ctx)) (List.set_set ..))) ?_
      refine gq1 (fun S hK=>qNilV) ?_
      refine gq1 (fun S hK=>(qFieldV fld95_2)) ?_
      refine gqS (fun S hK=>SStep.as (sStoreE (R:=al) (R':=af) (l:=(List.set x7 (Int.toNat (w64 ((x7.length:Int) - 1))) (ApiPart.mk x31.Clash (cond (S 26) x32 x31.O) (cond (S 29) x33 x31.A) (cond (S 32) x34 x31.B)))) (a:=(ApiPart.mk x31.Clash (cond (S 26) x32 x31.O) (cond (S 29) x33 x31.A) (cond (S 32) x34 x31.B))) (y:=x33) (o:=2) 0 Tryz.sizeOf9 updApiPart_A (idx_set hx31 _) rfl) (congrArg (fun L=>([Own.vec v5 al L 95,Own.box b13 ao x12,Own.box b20 al x23]:Ctx)) (List.set_set ..))) ?_
      refine gq1 (fun S hK=>qNilV) ?_
      refine gq1 (fun S hK=>(qFieldV fld95_3)) ?_
      refine gqS (fun S hK=>SStep.as (sStoreE (R:=al) (R':=af) (l:=(List.set x7 (Int.toNat (w64 ((x7.length:Int) - 1))) (ApiPart.mk x31.Clash (cond (S 26) x32 x31.O) (cond (S 29) x33 x31.A) (cond (S 32) x34 x31.B)))) (a:=(ApiPart.mk x31.Clash (cond (S 26) x32 x31.O) (cond (S 29) x33 x31.A) (cond (S 32) x34 x31.B))) (y:=x34) (o:=3) 0 Tryz.sizeOf9 updApiPart_B (idx_set hx31 _) rfl) (congrArg (fun L=>([Own.vec v5 al L 95,Own.box b13 ao x12,Own.box b20 al x23]:Ctx)) (List.set_set ..))) ?_
      exact⟨x32,x33,x34,h2l,⟨⟨aa,aa,aa,aa,aa,aa,aa,trivial⟩,Pick.refl _⟩⟩
     replace h2l:=iteF hc30 h2l
     refine av ?_
     refine W_r ?_
     refine rq (out:=Pr.is v5) ag ?_
     refine rq (out:=(al).val x23) (bg (R:=al) (a:=x23) (R':=al) 2 ty95 (Sub.refl _)) ?_
     refine rq (out:=ae al ([x23]:List ApiPart)) (bb (R:=al) (a:=x23) el80 (Nat.le_of_ble_eq_true rfl)) ?_
     obtain⟨x35,hx35,h2l⟩:=ah h2l
     refine ci 0 el80 hx35 (fun v36=> ?_)
     refine rq (out:=Pr.is v36) ab ?_
     exact⟨x35,x12,x23,v36,b13,b20,h2l,⟨⟨aa,aa,aa,aa,aa,aa,aa,trivial⟩,Pick.refl _⟩⟩
    refine W_r ?_
    refine rq (out:=ap b20 0) (az fld95_0) ?_
    refine rq (out:=Pr.bool x23.Clash) (bg (R:=al) (a:=x23) (R':=Rp.bool) 2 ty4 ir) ?_
    refine rq (out:=Pr.bool (!x23.Clash)) qNot ?_
    refine rq (out:=Pr.bool (!x23.Clash)) ag ?_
    rcases bj h2l with⟨hc24,h2l⟩|⟨hc24,h2l⟩
    ·refine rqg hc24 (out:=Pr.i64 (x7.length:Int)) ag ?_
     refine rqg hc24 (out:=Pr.bool (decide ((x7.length:Int)>0))) qInt ?_
     refine rq (out:=Pr.bool (decide ((x7.length:Int)>0))) (bv hc24) ?_
     refine rq (out:=Pr.bool (decide ((x7.length:Int)>0))) ag ?_
     rcases bj h2l with⟨hc25,h2l⟩|⟨hc25,h2l⟩
     ·refine rqg hc25 (out:=Pr.is v5) ag ?_
      refine rqg hc25 (out:=Pr.i64 (x7.length:Int)) ag ?_
      refine rqg hc25 (out:=Pr.i64 (w64 ((x7.length:Int) - 1))) qInt ?_
      obtain⟨x26,hx26,h2l⟩:=ah h2l
      refine rqg hc25 (out:=cf v5 (Int.toNat (w64 ((x7.length:Int) - 1)) * (al).size)) (ie 0 (R:=al) (l:=x7) Tryz.underlying80 Tryz.sizeOf95 hx26) ?_
      refine rqg hc25 (out:=cf v5 ((Int.toNat (w64 ((x7.length:Int) - 1)) * (al).size)+0)) (qFieldV fld95_0) ?_
      refine rqg hc25 (out:=Pr.bool x26.Clash) (ig (R:=al) (R':=Rp.bool) (l:=x7) (a:=x26) (o:=0) 0 ty4 ir (Nat.le_of_ble_eq_true rfl) hx26 rfl) ?_
      refine rqg hc25 (out:=Pr.bool (!x26.Clash)) qNot ?_
      refine rq (out:=Pr.bool (!x26.Clash)) (bv hc25) ?_
      exact⟨!x26.Clash,h2l,⟨⟨aa,aa,aa,aa,aa,aa,aa,aa,aa,aa,trivial⟩,Pick.refl _⟩⟩
     refine rno (neT hc25) ?_
     refine rno (neT hc25) ?_
     refine rno (neT hc25) ?_
     refine rno (neT hc25) ?_
     refine rno (neT hc25) ?_
     refine rno (neT hc25) ?_
     refine rno (neT hc25) ?_
     refine rq (out:=Pr.bool false) (a7 hc25) ?_
     exact⟨false,h2l,⟨⟨aa,aa,aa,aa,aa,aa,aa,aa,aa,aa,trivial⟩,Pick.refl _⟩⟩
    refine rno (neT hc24) ?_
    refine rno (neT hc24) ?_
    refine rq (out:=Pr.bool false) (a7 hc24) ?_
    refine rq (out:=Pr.bool false) ag ?_
    have hc27:false=false:=rfl
    refine rno (neT hc27) ?_
    refine rno (neT hc27) ?_
    refine rno (neT hc27) ?_
    refine rno (neT hc27) ?_
    refine rno (neT hc27) ?_
    refine rno (neT hc27) ?_
    refine rno (neT hc27) ?_
    refine rq (out:=Pr.bool false) (a7 hc27) ?_
    exact⟨false,h2l,⟨⟨aa,aa,aa,aa,aa,aa,aa,aa,aa,aa,trivial⟩,Pick.refl _⟩⟩
   refine W_rs ?_
   refine rq (out:=ap b13 0) (az fld71_0) ?_
   refine rq (out:=Pr.i64 x12.Kind) (bg (R:=ao) (a:=x12) (R':=Rp.int .i64) 1 ty3 eg) ?_
   refine aq ?_
   refine W_rs ?_
   refine rq (out:=Pr.bool (x12.Kind==4)) qInt ?_
   refine rq (out:=Pr.bool (x12.Kind==4)) ab ?_
   refine ar (b:=x12.Kind==4) rfl (fun hc21=> ?_) (fun hc21=> ?_)
   ·replace h2l:=iteT hc21 h2l
    refine av ?_
    exact⟨(ApiPart.mk (x12.Kind==4) x15 x17 x19),h2l,⟨⟨aa,aa,aa,aa,aa,aa,aa,aa,trivial⟩,Pick.refl _⟩⟩
   replace h2l:=iteF hc21 h2l
   refine W_rs ?_
   refine rq (out:=Pr.bool (x12.Kind==2)) qInt ?_
   refine rq (out:=Pr.bool (x12.Kind==2)) ab ?_
   refine ar (b:=x12.Kind==2) rfl (fun hc22=> ?_) (fun hc22=> ?_)
   ·replace h2l:=iteT hc22 h2l
    refine W_r ?_
    refine rq (out:=ap b20 3) (az fld95_3) ?_
    refine rq (out:=ak ((ApiPart.mk (x12.Kind==4) x15 x17 x19).B)) (bg (R:=al) (a:=(ApiPart.mk (x12.Kind==4) x15 x17 x19)) (R':=af) 2 ty9 md) ?_
    refine rq (out:=ap b20 2) (az fld95_2) ?_
    refine en (R:=al) (R':=af) (a:=(ApiPart.mk (x12.Kind==4) x15 x17 x19)) (y:=(ApiPart.mk (x12.Kind==4) x15 x17 x19).B) 2 Tryz.sizeOf9 updApiPart_A ?_
    exact⟨{(ApiPart.mk (x12.Kind==4) x15 x17 x19)with A:=(ApiPart.mk (x12.Kind==4) x15 x17 x19).B},h2l,⟨⟨aa,aa,aa,aa,aa,aa,aa,aa,trivial⟩,Pick.refl _⟩⟩
   replace h2l:=iteF hc22 h2l
   refine W_r ?_
   refine rq (out:=ap b20 2) (az fld95_2) ?_
   refine rq (out:=ak ((ApiPart.mk (x12.Kind==4) x15 x17 x19).A)) (bg (R:=al) (a:=(ApiPart.mk (x12.Kind==4) x15 x17 x19)) (R':=af) 2 ty9 js) ?_
   refine rq (out:=ap b20 3) (az fld95_3) ?_
   refine en (R:=al) (R':=af) (a:=(ApiPart.mk (x12.Kind==4) x15 x17 x19)) (y:=(ApiPart.mk (x12.Kind==4) x15 x17 x19).A) 2 Tryz.sizeOf9 updApiPart_B ?_
   exact⟨{(ApiPart.mk (x12.Kind==4) x15 x17 x19)with B:=(ApiPart.mk (x12.Kind==4) x15 x17 x19).A},h2l,⟨⟨aa,aa,aa,aa,aa,aa,aa,aa,trivial⟩,Pick.refl _⟩⟩
  obtain⟨x14,hx14,h2l⟩:=ah h2l
  obtain⟨x15,hx15,h2l⟩:=ah h2l
  obtain⟨x16,hx16,h2l⟩:=ah h2l
  obtain⟨x17,hx17,h2l⟩:=ah h2l
  obtain⟨x18,hx18,h2l⟩:=ah h2l
  obtain⟨x19,hx19,h2l⟩:=ah h2l
  refine W_drawG 1 (fun B S=>[Own.vec v5 al x7 95,Own.box b13 ao x12,(cond (S 32) (Own.box (B 31) al (ApiPart.mk (x12.Kind==4) x15 x17 x19)) (cond (S 31) (Own.box (B 31) al (ApiPart.mk false [] [] [])) Own.nil))]) (fun B=>[Own.vec v5 al x7 95,Own.box b13 ao x12,Own.box (B 31) al (ApiPart.mk (x12.Kind==4) x15 x17 x19)]) [ap b13 0,Pr.i64 x12.Kind,Pr.bool (x12.Kind==4),ae af x1,ap b13 1,ap b13 1,Pr.i64 x12.O.From,ap b13 1,ap b13 2,Pr.i64 x12.O.To,ae af x14,ak x15,ae af x2,ap b13 3,ap b13 3,Pr.i64 x12.A.From,ap b13 3,ap b13 4,Pr.i64 x12.A.To,ae af x16,ak x17,ae af x3,ap b13 5,ap b13 5,Pr.i64 x12.B.From,ap b13 5,ap b13 6,Pr.i64 x12.B.To,ae af x18,ak x19,(al).val (ApiPart.mk (x12.Kind==4) x15 x17 x19),.any,.any] (fun k=>([0,0,0,0,0,0,0,0,0,0,0,0,0,0,0,0,0,0,0,0,0,0,0,0,0,0,0,0,0,0,0,2,1]:List Nat).getD k 0) hmx (by kernel_rfl) (by kernel_rfl) (fun _=>rfl) (fun B S S' h=>by show([Own.vec v5 al x7 95,Own.box b13 ao x12,(cond (S 32) (Own.box (B 31) al (ApiPart.mk (x12.Kind==4) x15 x17 x19)) (cond (S 31) (Own.box (B 31) al (ApiPart.mk false [] [] [])) Own.nil))]:Ctx)=[Own.vec v5 al x7 95,Own.box b13 ao x12,(cond (S' 32) (Own.box (B 31) al (ApiPart.mk (x12.Kind==4) x15 x17 x19)) (cond (S' 31) (Own.box (B 31) al (ApiPart.mk false [] [] [])) Own.nil))];simp only[h 31 (Nat.le_of_ble_eq_true (by kernel_rfl)),h 32 (Nat.le_of_ble_eq_true (by kernel_rfl))]) (fun _=>rfl) (fun B=> ?_)
  refine gq1 (fun S hK=>(az fld71_0)) ?_
  refine gq1 (fun S hK=>(bg (R:=ao) (a:=x12) (R':=Rp.int .i64) 1 ty3 eg (hi:=rfl))) ?_
  refine gq1 (fun S hK=>qInt) ?_
  refine gq1 (fun S hK=>ag) ?_
  refine gq1 (fun S hK=>(az fld71_1)) ?_
  refine gq1 (fun S hK=>(az fld69_0)) ?_
  refine gq1 (fun S hK=>(bg (R:=ao) (a:=x12) (R':=Rp.int .i64) 1 ty3 (i7.trans c8 (Nat.le_of_ble_eq_true rfl)) (hi:=rfl))) ?_
  refine gq1 (fun S hK=>(az fld71_1)) ?_
  refine gq1 (fun S hK=>(az fld69_1)) ?_
  refine gq1 (fun S hK=>(bg (R:=ao) (a:=x12) (R':=Rp.int .i64) 1 ty3 (i7.trans dq (Nat.le_of_ble_eq_true rfl)) (hi:=rfl))) ?_
  refine gq1 (fun S hK=>(lw Tryz.underlying33 Tryz.sizeOf9 hx14)) ?_
  refine gq1 (fun S hK=>(bq (strings_Join_ok x14 [] _ hx15))) ?_
  refine gq1 (fun S hK=>ag) ?_
  refine gq1 (fun S hK=>(az fld71_2)) ?_
  refine gq1 (fun S hK=>(az fld69_0)) ?_
  refine gq1 (fun S hK=>(bg (R:=ao) (a:=x12) (R':=Rp.int .i64) 1 ty3 (f0.trans c8 (Nat.le_of_ble_eq_true rfl)) (hi:=rfl))) ?_
  refine gq1 (fun S hK=>(az fld71_2)) ?_
  refine gq1 (fun S hK=>(az fld69_1)) ?_
  refine gq1 (fun S hK=>(bg (R:=ao) (a:=x12) (R':=Rp.int .i64) 1 ty3 (f0.trans dq (Nat.le_of_ble_eq_true rfl)) (hi:=rfl))) ?_
  refine gq1 (fun S hK=>(lw Tryz.underlying33 Tryz.sizeOf9 hx16)) ?_
  refine gq1 (fun S hK=>(bq (strings_Join_ok x16 [] _ hx17))) ?_
  refine gq1 (fun S hK=>ag) ?_
  refine gq1 (fun S hK=>(az fld71_3)) ?_
  refine gq1 (fun S hK=>(az fld69_0)) ?_
  refine gq1 (fun S hK=>(bg (R:=ao) (a:=x12) (R':=Rp.int .i64) 1 ty3 (fy.trans c8 (Nat.le_of_ble_eq_true rfl)) (hi:=rfl))) ?_
  refine gq1 (fun S hK=>(az fld71_3)) ?_
  refine gq1 (fun S hK=>(az fld69_1)) ?_
  refine gq1 (fun S hK=>(bg (R:=ao) (a:=x12) (R':=Rp.int .i64) 1 ty3 (fy.trans dq (Nat.le_of_ble_eq_true rfl)) (hi:=rfl))) ?_
  refine gq1 (fun S hK=>(lw Tryz.underlying33 Tryz.sizeOf9 hx18)) ?_
  refine gq1 (fun S hK=>(bq (strings_Join_ok x18 [] _ hx19))) ?_
  refine gq1 (fun S hK=>(iv st95 ⟨(ApiPart.mk (x12.Kind==4) [] [] []),⟨_,rfl,rfl,fun j fd hj hf=>by match j,hj with| 0,h=>exact absurd rfl h| 1,_=>cases hf;rfl| 2,_=>cases hf;rfl| 3,_=>cases hf;rfl|_+4,_=>cases hf⟩,⟨(ApiPart.mk (x12.Kind==4) x15 [] []),⟨_,rfl,rfl,fun j fd hj hf=>by match j,hj with| 0,_=>cases hf;rfl| 1,h=>exact absurd rfl h| 2,_=>cases hf;rfl| 3,_=>cases hf;rfl|_+4,_=>cases hf⟩,⟨(ApiPart.mk (x12.Kind==4) x15 x17 []),⟨_,rfl,rfl,fun j fd hj hf=>by match j,hj with| 0,_=>cases hf;rfl| 1,_=>cases hf;rfl| 2,h=>exact absurd rfl h| 3,_=>cases hf;rfl|_+4,_=>cases hf⟩,⟨(ApiPart.mk (x12.Kind==4) x15 x17 x19),⟨_,rfl,rfl,fun j fd hj hf=>by match j,hj with| 0,_=>cases hf;rfl| 1,_=>cases hf;rfl| 2,_=>cases hf;rfl| 3,h=>exact absurd rfl h|_+4,_=>cases hf⟩,rfl⟩⟩⟩⟩)) ?_
  refine gqA (fun S hK=>⟨fun B' hB=>by show([Own.vec v5 al x7 95,Own.box b13 ao x12,(cond (S 32) (Own.box (B' 31) al (ApiPart.mk (x12.Kind==4) x15 x17 x19)) (cond (S 31) (Own.box (B' 31) al (ApiPart.mk false [] [] [])) Own.nil))]:Ctx)=[Own.vec v5 al x7 95,Own.box b13 ao x12,(cond (S 32) (Own.box (B 31) al (ApiPart.mk (x12.Kind==4) x15 x17 x19)) (cond (S 31) (Own.box (B 31) al (ApiPart.mk false [] [] [])) Own.nil))];simp only[hK.me,hK.F 32 (by kernel_rfl),cond_false],fun s ρ hg _=>sAlloc (R:=al) (z:=(ApiPart.mk false [] [] [])) 2 Tryz.zeroValue95 (fun _=>⟨_,⟨_,_,rfl,rfl,⟨_,_,rfl,rfl,⟨_,_,rfl,rfl,⟨_,_,rfl,rfl,rfl⟩⟩⟩⟩,rfl⟩) (congrArg some ((condF (hK.F 32 (by kernel_rfl)) _ _).trans (condF (hK.me) _ _))) (fun b=>by show([Own.vec v5 al x7 95,Own.box b13 ao x12,(cond (S 32) (Own.box b al (ApiPart.mk (x12.Kind==4) x15 x17 x19)) (Own.box b al (ApiPart.mk false [] [] [])))]:Ctx)=_;rw[hK.F 32 (by kernel_rfl)];rfl) s ρ hg⟩) ?_
  refine gqS (fun S hK=>SStep.as (sStore (R:=al) (R':=al) (a:=(ApiPart.mk false [] [] [])) (y:=(ApiPart.mk (x12.Kind==4) x15 x17 x19)) 2 Tryz.sizeOf95 (Upd.refl _) (congrArg some ((condF (hK.me) _ _).trans (condT (hK.T 31 (by kernel_rfl)) _ _)))) (by show(_:Ctx)=[Own.vec v5 al x7 95,Own.box b13 ao x12,Own.box (B 31) al (ApiPart.mk (x12.Kind==4) x15 x17 x19)];rfl)) ?_
  exact⟨x15,x17,x19,(B 31),h2l,⟨⟨aa,aa,aa,aa,aa,aa,aa,aa,aa,trivial⟩,Pick.refl _⟩⟩
 replace h2l:=iteF hc11 h2l
 refine cb ?_
 obtain rfl:=ho2 _ (Option.some.inj h2l).symm
 exact⟨x7,v5,h,⟨⟨aa,trivial⟩,Pick.refl _⟩⟩
theorem weave_apart_ok (x1:(Unit->Option ((List (List UInt8)) × Bool))) (x2:(Unit->Option ((List (List UInt8)) × Bool))) (x3:(Unit->Option ((List (List UInt8)) × Bool))) (r:(List ApiPart) × Bool) (h:weave_apart x1 x2 x3=some r):FnP Tryz.prog 68 [io Tryz.prog (nk x1),io Tryz.prog (nk x2),io Tryz.prog (nk x3)] (bi [ae al r.1,Pr.bool r.2]):=by
 refine a8 (n:=41) (rs:=[6,7]) Tryz.func68 rfl Tryz.ntmps68 ⟨by decide,Tryz.results68⟩ (by decide) (fun s0=> ?_)
 unfold weave_apart at h
 refine W_rs ?_
 refine rq (out:=Pr.is (.slice none 0 0)) ab ?_
 refine rq (out:=Pr.bool false) ab ?_
 refine W_rs ?_
 refine np (R:=aw 3 (aj af)) (z:=(List.replicate 3 [])) Tryz.zeroValue34 (fun _=>⟨_,⟨rfl,⟨[Value.slice none 0 0],_,rfl,⟨_,rfl,none,0,rfl,⟨Nat.le_refl _,fun _=>rfl⟩,.inl rfl⟩,⟨[Value.slice none 0 0],_,rfl,⟨_,rfl,none,0,rfl,⟨Nat.le_refl _,fun _=>rfl⟩,.inl rfl⟩,⟨[Value.slice none 0 0],_,rfl,⟨_,rfl,none,0,rfl,⟨Nat.le_refl _,fun _=>rfl⟩,.inl rfl⟩,rfl⟩⟩⟩⟩,rfl⟩) (fun b4=> ?_)
 refine ax ?_
 refine W_rs ?_
 refine rq (out:=io Tryz.prog (nk x1)) ag ?_
 refine rq (out:=io Tryz.prog (nk x2)) ag ?_
 refine rq (out:=io Tryz.prog (nk x3)) ag ?_
 refine rq (out:=ae (Rp.fn (fun x=>io Tryz.prog (nk x)) pfn_one) ([x1,x2,x3]:List (Unit->Option ((List (List UInt8)) × Bool)))) (fu (R:=Rp.fn (fun x=>io Tryz.prog (nk x)) pfn_one) (ls:=([x1,x2,x3]:List (Unit->Option ((List (List UInt8)) × Bool)))) el120 (Nat.le_of_ble_eq_true rfl) ⟨rfl,rfl⟩ ⟨rfl,rfl,rfl,trivial⟩) ?_
 refine rq (out:=Pr.i64 (([x1,x2,x3]:List (Unit->Option ((List (List UInt8)) × Bool))).length:Int)) (cj rfl Tryz.underlying120) ?_
 refine rq (out:=Pr.i64 0) ag ?_
 refine aq ?_
 obtain⟨z2l,hz2,h⟩:=ah h
 obtain⟨n2,hN2⟩:=a4 hz2
 clear hz2
 refine bp 0 (fun e C=>∃(x6:List (List (List UInt8))),weave_apart_k1 x6=some r/\At [(8,ap b4 0)] [Own.box b4 (aw 3 (aj af)) x6] e C) ?_ ?_
 ·rintro e C ⟨x6,h,hat1⟩
  refine W_at hat1 ?_
  clear hat1
  unfold weave_apart_k1 at h
  refine W_rs ?_
  obtain⟨x15,hx15,h⟩:=ah h
  refine rq (out:=ap b4 (x15 * 1)) (qIdxP Tryz.underlying34 Tryz.sizeOf33 hx15) ?_
  refine rq (out:=ae af (List.getD x6 x15 [])) (bg (R:=aw 3 (aj af)) (a:=x6) (R':=aj af) 0 ty33 (Sub.arr [] (l4 hx15))) ?_
  obtain⟨x16,hx16,h⟩:=ah h
  refine rq (out:=ap b4 (x16 * 1)) (qIdxP Tryz.underlying34 Tryz.sizeOf33 hx16) ?_
  refine rq (out:=ae af (List.getD x6 x16 [])) (bg (R:=aw 3 (aj af)) (a:=x6) (R':=aj af) 0 ty33 (Sub.arr [] (l4 hx16))) ?_
  obtain⟨x17,hx17,h⟩:=ah h
  refine rq (out:=ap b4 (x17 * 1)) (qIdxP Tryz.underlying34 Tryz.sizeOf33 hx17) ?_
  refine rq (out:=ae af (List.getD x6 x17 [])) (bg (R:=aw 3 (aj af)) (a:=x6) (R':=aj af) 0 ty33 (Sub.arr [] (l4 hx17))) ?_
  obtain⟨x18,hx18,h⟩:=ah h
  refine rq (out:=ae al x18) (bq (weave_parts_ok (List.getD x6 x15 []) (List.getD x6 x16 []) (List.getD x6 x17 []) _ hx18)) ?_
  refine rq (out:=ae al x18) ab ?_
  refine rq (out:=Pr.bool true) ab ?_
  obtain rfl:=Option.some.inj h
  exact a9 ⟨rfl,aa⟩
 refine cg (fun m e C=>∃(x5:Int),∃(x6:List (List (List UInt8))),cv (fun s=>dv x1 x2 x3 s.1 s.2) m (x5,x6)=some z2l/\At [(8,ap b4 0),(16,ae (Rp.fn (fun x=>io Tryz.prog (nk x)) pfn_one) ([x1,x2,x3]:List (Unit->Option ((List (List UInt8)) × Bool)))),(17,Pr.i64 (([x1,x2,x3]:List (Unit->Option ((List (List UInt8)) × Bool))).length:Int)),(18,Pr.i64 x5)] [Own.box b4 (aw 3 (aj af)) x6] e C) n2 ⟨0,(List.replicate 3 []),hN2,⟨⟨aa,aa,aa,aa,trivial⟩,Pick.refl _⟩⟩ ?_
 clear hN2
 rintro m e C ⟨x5,x6,hN2,hatl2⟩
 refine W_at hatl2 ?_
 clear hatl2
 obtain⟨m2,w2l,rfl,h2l,hn2,ho2⟩:=ay hN2
 clear hN2
 replace h2l:dv x1 x2 x3 x5 x6=some w2l:=h2l
 unfold dv at h2l
 refine W_rs ?_
 refine rq (out:=Pr.bool (decide (x5<(([x1,x2,x3]:List (Unit->Option ((List (List UInt8)) × Bool))).length:Int)))) qInt ?_
 refine ax ?_
 refine ar (b:=decide (x5<(([x1,x2,x3]:List (Unit->Option ((List (List UInt8)) × Bool))).length:Int))) rfl (fun hc9=> ?_) (fun hc9=> ?_)
 ·replace h2l:=iteT hc9 h2l
  refine av ?_
  refine ax ?_
  refine aq ?_
  refine W_rs ?_
  refine rq (out:=Pr.i64 x5) ag ?_
  obtain⟨x10,hx10,h2l⟩:=ah h2l
  refine rq (out:=a5 (Rp.fn (fun x=>io Tryz.prog (nk x)) pfn_one) x10) (co (R:=Rp.fn (fun x=>io Tryz.prog (nk x)) pfn_one) (l:=([x1,x2,x3]:List (Unit->Option ((List (List UInt8)) × Bool)))) Tryz.underlying120 Tryz.sizeOf101 hx10) ?_
  refine rq (out:=io Tryz.prog (nk x10)) (bh (R:=Rp.fn (fun x=>io Tryz.prog (nk x)) pfn_one) (a:=x10) ty101) ?_
  refine rq (out:=Pr.i64 x5) ab ?_
  refine rq (out:=io Tryz.prog (nk x10)) ab ?_
  refine W_rs ?_
  refine rq (out:=io Tryz.prog (nk x10)) ag ?_
  obtain⟨⟨x11,x12⟩,hx11,h2l⟩:=ah h2l
  refine rq (out:=bi [ae af x11,Pr.bool x12]) (qCallP (spec:=nk x10) ⟨_,rfl,rfl,hx11⟩) ?_
  refine rq (out:=bi [ae af x11,Pr.bool x12]) ag ?_
  refine rq (out:=ae af x11) a6 ?_
  refine rq (out:=Pr.bool x12) a6 ?_
  refine rq (out:=ae af x11) ab ?_
  refine rq (out:=Pr.bool x12) ab ?_
  refine ax ?_
  refine W_rs ?_
  refine rq (out:=Pr.bool x12) ag ?_
  refine rq (out:=Pr.bool (!x12)) qNot ?_
  refine ar (b:= !x12) rfl (fun hc13=> ?_) (fun hc13=> ?_)
  ·replace h2l:=iteT hc13 h2l
   refine W_rs ?_
   refine rq (out:=Pr.is (.slice none 0 0)) ab ?_
   refine rq (out:=Pr.bool false) ab ?_
   obtain rfl:=ho2 _ (Option.some.inj h2l).symm
   replace h:some ([],false)=some r:=h
   obtain rfl:=Option.some.inj h
   exact a9 ⟨rfl,tup_le ⟨ft _,aa,trivial⟩⟩
  replace h2l:=iteF hc13 h2l
  refine av ?_
  refine W_r ?_
  refine rq (out:=Pr.i64 x5) ag ?_
  refine rq (out:=ae af x11) ag ?_
  obtain⟨x14,hx14,h2l⟩:=ah h2l
  refine rq (out:=ap b4 (x14 * 1)) (qIdxP Tryz.underlying34 Tryz.sizeOf33 hx14) ?_
  refine en (R:=aw 3 (aj af)) (R':=aj af) (a:=x6) (y:=x11) 0 Tryz.sizeOf33 (Upd.arr (l4 hx14)) ?_
  refine W_r ?_
  refine rq (out:=Pr.i64 (w64 (x5+1))) qInt ?_
  refine rq (out:=Pr.i64 (w64 (x5+1))) ag ?_
  exact⟨m2,Nat.lt_succ_self _,w64 (x5+1),(List.set x6 x14 x11),hn2 _ (Option.some.inj h2l).symm,⟨⟨aa,aa,aa,aa,trivial⟩,Pick.refl _⟩⟩
 replace h2l:=iteF hc9 h2l
 refine cb ?_
 obtain rfl:=ho2 _ (Option.some.inj h2l).symm
 exact⟨x6,h,⟨⟨aa,trivial⟩,Pick.refl _⟩⟩
theorem mn (x1:List UInt8) (r:(List (List UInt8)) × Bool) (h:c9 x1=some r):FnP Tryz.prog 69 [ak x1] (bi [ae af r.1,Pr.bool r.2]):=by
 refine a8 (n:=34) (rs:=[2,3]) Tryz.func69 rfl Tryz.ntmps69 ⟨by decide,Tryz.results69⟩ (by decide) (fun s0=> ?_)
 unfold c9 at h
 refine W_rs ?_
 refine rq (out:=Pr.is (.slice none 0 0)) ab ?_
 refine rq (out:=Pr.bool false) ab ?_
 refine W_rs ?_
 refine rq (out:=ak x1) ag ?_
 obtain⟨⟨x2,x3,x4⟩,hx2,h⟩:=ah h
 refine rq (out:=bi [ae bo x2,Pr.i64 x3,Pr.i64 x4]) (bq (lex_Lex_ok x1 _ hx2)) ?_
 refine rq (out:=bi [ae bo x2,Pr.i64 x3,Pr.i64 x4]) ag ?_
 refine rq (out:=ae bo x2) a6 ?_
 refine rq (out:=Pr.i64 x3) a6 ?_
 refine rq (out:=Pr.i64 x4) a6 ?_
 refine rq (out:=ae bo x2) ab ?_
 refine rq (out:=Pr.i64 x3) ab ?_
 refine rq (out:=Pr.i64 x4) ab ?_
 refine ax ?_
 refine W_rs ?_
 refine rq (out:=Pr.i64 x4) ag ?_
 refine rq (out:=Pr.bool (x4 != 0)) qInt ?_
 refine ar (b:=x4 != 0) rfl (fun hc5=> ?_) (fun hc5=> ?_)
 ·replace h:=iteT hc5 h
  refine W_rs ?_
  refine rq (out:=Pr.is (.slice none 0 0)) ab ?_
  refine rq (out:=Pr.bool false) ab ?_
  obtain rfl:=Option.some.inj h
  exact a9 ⟨rfl,tup_le ⟨ft _,aa,trivial⟩⟩
 replace h:=iteF hc5 h
 refine av ?_
 refine W_rs ?_
 refine rq (out:=Pr.is (.slice none 0 0)) ab ?_
 refine ax ?_
 refine W_rs ?_
 refine rq (out:=ae bo x2) ag ?_
 refine rq (out:=Pr.i64 (x2.length:Int)) (cj rfl Tryz.underlying104) ?_
 refine rq (out:=Pr.i64 0) ag ?_
 refine aq ?_
 obtain⟨z2l,hz2,h⟩:=ah h
 obtain⟨n2,hN2⟩:=a4 hz2
 clear hz2
 refine bp 0 (fun e C=>∃(x8:List (List UInt8)),∃(v6:Value),jf x8=some r/\At [(7,Pr.is v6)] [Own.vec v6 af x8 9] e C) ?_ ?_
 ·rintro e C ⟨x8,v6,h,hat1⟩
  refine W_at hat1 ?_
  clear hat1
  unfold jf at h
  refine W_rs ?_
  refine rq (out:=Pr.is v6) ag ?_
  refine rq (out:=Pr.is v6) ab ?_
  refine rq (out:=Pr.bool true) ab ?_
  refine mq 0 [2] ?_ rfl ⟨rfl,trivial⟩
  obtain rfl:=Option.some.inj h
  exact a9 ⟨rfl,aa⟩
 refine pk [7] af 9 (fun v18=> ?_) ⟨rfl,trivial⟩
 refine cg (fun m e C=>∃(x7:Int),∃(x8:List (List UInt8)),∃(v6:Value),cv (fun s=>cz x2 s.1 s.2) m (x7,x8)=some z2l/\At [(7,Pr.is v6),(18,ae bo x2),(19,Pr.i64 (x2.length:Int)),(20,Pr.i64 x7)] [Own.vec v6 af x8 9] e C) n2 ⟨0,[],v18,hN2,⟨⟨aa,aa,aa,aa,trivial⟩,Pick.refl _⟩⟩ ?_
 clear hN2
 rintro m e C ⟨x7,x8,v6,hN2,hatl2⟩
 refine W_at hatl2 ?_
 clear hatl2
 obtain⟨m2,w2l,rfl,h2l,hn2,ho2⟩:=ay hN2
 clear hN2
 replace h2l:cz x2 x7 x8=some w2l:=h2l
 unfold cz at h2l
 refine W_rs ?_
 refine rq (out:=Pr.bool (decide (x7<(x2.length:Int)))) qInt ?_
 refine ax ?_
 refine ar (b:=decide (x7<(x2.length:Int))) rfl (fun hc12=> ?_) (fun hc12=> ?_)
 ·replace h2l:=iteT hc12 h2l
  refine av ?_
  refine ax ?_
  refine aq ?_
  refine W_rs ?_
  obtain⟨x13,hx13,h2l⟩:=ah h2l
  refine rq (out:=a5 bo x13) (co (R:=bo) (l:=x2) Tryz.underlying104 Tryz.sizeOf109 hx13) ?_
  refine rq (out:=(bo).val x13) (bh (R:=bo) (a:=x13) ty109) ?_
  refine np (R:=bo) (z:=(ApiToken.mk 0 [] 0 [])) Tryz.zeroValue109 (fun _=>⟨_,⟨_,_,rfl,rfl,⟨_,_,rfl,rfl,⟨_,_,rfl,rfl,⟨_,_,rfl,rfl,rfl⟩⟩⟩⟩,rfl⟩) (fun b14=> ?_)
  refine en (R:=bo) (R':=bo) (a:=(ApiToken.mk 0 [] 0 [])) (y:=x13) 1 Tryz.sizeOf109 (Upd.refl _) ?_
  refine W_r ?_
  refine rq (out:=Pr.is v6) ag ?_
  refine rq (out:=ap b14 3) (az fld109_3) ?_
  refine rq (out:=ak x13.Lead) (bg (R:=bo) (a:=x13) (R':=af) 1 ty9 subApiToken_Lead) ?_
  refine rq (out:=ap b14 1) (az fld109_1) ?_
  refine rq (out:=ak x13.Text) (bg (R:=bo) (a:=x13) (R':=af) 1 ty9 subApiToken_Text) ?_
  obtain⟨x15,hx15,h2l⟩:=ah h2l
  refine rq (out:=ak x15) (qCat' hx15) ?_
  refine rq (out:=ae af ([x15]:List (List UInt8))) (bb (R:=af) (a:=x15) el33 (Nat.le_of_ble_eq_true rfl)) ?_
  obtain⟨x16,hx16,h2l⟩:=ah h2l
  refine ci 0 el33 hx16 (fun v17=> ?_)
  refine rq (out:=Pr.is v17) ab ?_
  refine W_r ?_
  refine rq (out:=Pr.i64 (w64 (x7+1))) qInt ?_
  refine rq (out:=Pr.i64 (w64 (x7+1))) ag ?_
  exact⟨m2,Nat.lt_succ_self _,w64 (x7+1),x16,v17,hn2 _ (Option.some.inj h2l).symm,⟨⟨aa,aa,aa,aa,trivial⟩,Pick.of [0] rfl⟩⟩
 replace h2l:=iteF hc12 h2l
 refine cb ?_
 obtain rfl:=ho2 _ (Option.some.inj h2l).symm
 exact⟨x8,v6,h,⟨⟨aa,trivial⟩,Pick.refl _⟩⟩
theorem weave_Tokens_ok (x1 x2 x3:List UInt8) (r:(List ApiPart) × Bool) (h:weave_Tokens x1 x2 x3=some r):FnP Tryz.prog 58 [ak x1,ak x2,ak x3] (bi [ae al r.1,Pr.bool r.2]):=by
 refine a8 (n:=17) (rs:=[6,7]) Tryz.func58 rfl Tryz.ntmps58 ⟨by decide,Tryz.results58⟩ (by decide) (fun s0=> ?_)
 unfold weave_Tokens at h
 refine W_rs ?_
 refine rq (out:=Pr.is (.slice none 0 0)) ab ?_
 refine rq (out:=Pr.bool false) ab ?_
 refine W_rs ?_
 refine rq (out:=ak x1) ag ?_
 refine rq (out:=em 69 [ak x1] []) ii ?_
 refine rq (out:=ak x2) ag ?_
 refine rq (out:=em 69 [ak x2] []) ii ?_
 refine rq (out:=ak x3) ag ?_
 refine rq (out:=em 69 [ak x3] []) ii ?_
 obtain⟨⟨x4,x5⟩,hx4,h⟩:=ah h
 refine rq (out:=bi [ae al x4,Pr.bool x5]) (qCall' (weave_apart_ok (fun _=>c9 x1) (fun _=>c9 x2) (fun _=>c9 x3) _ hx4) ⟨(clo_pfn en69 (fun _ _ hs=>by obtain⟨r,rfl,rfl,hr⟩:=hs;exact mn x1 r hr)),(clo_pfn en69 (fun _ _ hs=>by obtain⟨r,rfl,rfl,hr⟩:=hs;exact mn x2 r hr)),(clo_pfn en69 (fun _ _ hs=>by obtain⟨r,rfl,rfl,hr⟩:=hs;exact mn x3 r hr)),trivial⟩) ?_
 refine rq (out:=ae al x4) a6 ?_
 refine rq (out:=Pr.bool x5) a6 ?_
 refine rq (out:=ae al x4) ab ?_
 refine rq (out:=Pr.bool x5) ab ?_
 obtain rfl:=Option.some.inj h
 exact a9 ⟨rfl,aa⟩
theorem weave_Side_ok (x1:List ApiPart) (x2:Int) (r:(List UInt8)) (h:weave_Side x1 x2=some r):FnP Tryz.prog 70 [ae al x1,Pr.i64 x2] (ak r):=by
 refine a8 (n:=32) (rs:=[4]) Tryz.func70 rfl Tryz.ntmps70 ⟨by decide,Tryz.results70⟩ (by decide) (fun s0=> ?_)
 unfold weave_Side at h
 refine W_rs ?_
 refine rq (out:=ak []) ab ?_
 refine ax ?_
 refine bd (fun e C=>∃(x4:Bool),my x1 x2 x4=some r/\At [(0,ae al x1),(1,Pr.i64 x2),(13,Pr.bool x4)] [] e C) ?_ ?_
 ·rintro e C ⟨x4,h,hat3⟩
  refine W_at hat3 ?_
  clear hat3
  unfold my at h
  refine ar (b:=x4) rfl (fun hc5=> ?_) (fun hc5=> ?_)
  ·replace h:=iteT hc5 h
   refine W_rs ?_
   refine rq (out:=ak []) ab ?_
   obtain rfl:=Option.some.inj h
   exact a9 ⟨rfl,aa⟩
  replace h:=iteF hc5 h
  refine av ?_
  refine W_rs ?_
  refine rAllocB (e:=5) Tryz.zeroValue124 (fun b6=> ?_)
  refine ax ?_
  refine W_rs ?_
  refine rq (out:=ae al x1) ag ?_
  refine rq (out:=Pr.i64 (x1.length:Int)) (cj rfl Tryz.underlying80) ?_
  refine rq (out:=Pr.i64 0) ag ?_
  refine aq ?_
  obtain⟨z2l,hz2,h⟩:=ah h
  obtain⟨n2,hN2⟩:=a4 hz2
  clear hz2
  refine bp 0 (fun e C=>∃(x9:List UInt8),∃(v8:Value),weave_Side_k1 x9=some r/\At [(5,ap b6 0)] [Own.bld 124 b6 v8,Own.vec v8 er x9 5] e C) ?_ ?_
  ·rintro e C ⟨x9,v8,h,hat1⟩
   refine W_at hat1 ?_
   clear hat1
   unfold weave_Side_k1 at h
   refine W_rs ?_
   refine pb [0,1] (Builder_String_ok b6 v8 x9) (fun q C' hq=> ?_)
   obtain⟨rfl,rfl⟩:=hq
   refine rq (out:=ak x9) ab ?_
   obtain rfl:=Option.some.inj h
   exact a9 ⟨rfl,aa⟩
  refine cg (fun m e C=>∃(x7:Int),∃(x9:List UInt8),∃(v8:Value),cv (fun s=>i6 x1 x2 s.1 s.2) m (x7,x9)=some z2l/\At [(1,Pr.i64 x2),(5,ap b6 0),(14,ae al x1),(15,Pr.i64 (x1.length:Int)),(16,Pr.i64 x7)] [Own.bld 124 b6 v8,Own.vec v8 er x9 5] e C) n2 ⟨0,[],(.slice none 0 0),hN2,⟨⟨aa,aa,aa,aa,aa,trivial⟩,Pick.refl _⟩⟩ ?_
  clear hN2
  rintro m e C ⟨x7,x9,v8,hN2,hatl2⟩
  refine W_at hatl2 ?_
  clear hatl2
  obtain⟨m2,w2l,rfl,h2l,hn2,ho2⟩:=ay hN2
  clear hN2
  replace h2l:i6 x1 x2 x7 x9=some w2l:=h2l
  unfold i6 at h2l
  refine W_rs ?_
  refine rq (out:=Pr.bool (decide (x7<(x1.length:Int)))) qInt ?_
  refine ax ?_
  refine ar (b:=decide (x7<(x1.length:Int))) rfl (fun hc13=> ?_) (fun hc13=> ?_)
  ·replace h2l:=iteT hc13 h2l
   refine av ?_
   refine ax ?_
   refine aq ?_
   refine W_rs ?_
   obtain⟨x14,hx14,h2l⟩:=ah h2l
   refine rq (out:=a5 al x14) (co (R:=al) (l:=x1) Tryz.underlying80 Tryz.sizeOf95 hx14) ?_
   refine rq (out:=(al).val x14) (bh (R:=al) (a:=x14) ty95) ?_
   refine np (R:=al) (z:=(ApiPart.mk false [] [] [])) Tryz.zeroValue95 (fun _=>⟨_,⟨_,_,rfl,rfl,⟨_,_,rfl,rfl,⟨_,_,rfl,rfl,⟨_,_,rfl,rfl,rfl⟩⟩⟩⟩,rfl⟩) (fun b15=> ?_)
   refine en (R:=al) (R':=al) (a:=(ApiPart.mk false [] [] [])) (y:=x14) 2 Tryz.sizeOf95 (Upd.refl _) ?_
   refine W_r ?_
   refine rq (out:=ap b15 1) (az fld95_1) ?_
   refine rq (out:=ak x14.O) (bg (R:=al) (a:=x14) (R':=af) 2 ty9 subApiPart_O) ?_
   refine rq (out:=ap b15 2) (az fld95_2) ?_
   refine rq (out:=ak x14.A) (bg (R:=al) (a:=x14) (R':=af) 2 ty9 js) ?_
   refine rq (out:=ap b15 3) (az fld95_3) ?_
   refine rq (out:=ak x14.B) (bg (R:=al) (a:=x14) (R':=af) 2 ty9 md) ?_
   refine rq (out:=(aw 3 af).val ([x14.O,x14.A,x14.B]:List (List UInt8))) (qBuildA (R:=af) (ls:=([x14.O,x14.A,x14.B]:List (List UInt8))) Tryz.underlying31 Tryz.zeroValue31 rfl Tryz.sizeOf9 (by decide) ⟨rfl,rfl⟩ ⟨rfl,rfl,rfl,trivial⟩) ?_
   refine rq (out:=Pr.i64 x2) ag ?_
   obtain⟨x16,hx16,h2l⟩:=ah h2l
   refine rq (out:=ak x16) (qIdxArr (R:=af) (l:=([x14.O,x14.A,x14.B]:List (List UInt8))) Tryz.underlying31 Tryz.sizeOf9 Tryz.isAgg9 hx16) ?_
   obtain⟨x17,hx17,h2l⟩:=ah h2l
   refine pb [0,1] (Builder_WriteString_ok b6 v8 x9 x16 _ hx17) (fun q C' hq=> ?_)
   obtain⟨v18,rfl,rfl⟩:=hq
   refine W_r ?_
   refine rq (out:=Pr.i64 (w64 (x7+1))) qInt ?_
   refine rq (out:=Pr.i64 (w64 (x7+1))) ag ?_
   exact⟨m2,Nat.lt_succ_self _,w64 (x7+1),x17,v18,hn2 _ (Option.some.inj h2l).symm,⟨⟨aa,aa,aa,aa,aa,trivial⟩,Pick.of [0,1] rfl⟩⟩
  replace h2l:=iteF hc13 h2l
  refine cb ?_
  obtain rfl:=ho2 _ (Option.some.inj h2l).symm
  exact⟨x9,v8,h,⟨⟨aa,trivial⟩,Pick.refl _⟩⟩
 refine W_r ?_
 refine rq (out:=Pr.i64 x2) ag ?_
 refine rq (out:=Pr.bool (decide (x2<0))) qInt ?_
 refine rq (out:=Pr.bool (decide (x2<0))) ag ?_
 rcases bj h with⟨hc3,h⟩|⟨hc3,h⟩
 ·refine rno (neF hc3) ?_
  refine rno (neF hc3) ?_
  refine rq (out:=Pr.bool true) (bv hc3) ?_
  exact⟨true,h,⟨⟨aa,aa,aa,trivial⟩,Pick.refl _⟩⟩
 refine rqg hc3 (out:=Pr.i64 x2) ag ?_
 refine rqg hc3 (out:=Pr.bool (decide (x2>2))) qInt ?_
 refine rq (out:=Pr.bool (decide (x2>2))) (a7 hc3) ?_
 exact⟨decide (x2>2),h,⟨⟨aa,aa,aa,trivial⟩,Pick.refl _⟩⟩
theorem weave_Join_ok (x1:List ApiPart) (r:(List UInt8) × Bool) (h:weave_Join x1=some r):FnP Tryz.prog 59 [ae al x1] (bi [ak r.1,Pr.bool r.2]):=by
 refine a8 (n:=17) (rs:=[2,3]) Tryz.func59 rfl Tryz.ntmps59 ⟨by decide,Tryz.results59⟩ (by decide) (fun s0=> ?_)
 unfold weave_Join at h
 refine W_rs ?_
 refine rq (out:=ak []) ab ?_
 refine rq (out:=Pr.bool false) ab ?_
 refine ax ?_
 refine W_rs ?_
 refine rq (out:=ae al x1) ag ?_
 refine rq (out:=Pr.i64 (x1.length:Int)) (cj rfl Tryz.underlying80) ?_
 refine rq (out:=Pr.i64 0) ag ?_
 refine aq ?_
 obtain⟨z2l,hz2,h⟩:=ah h
 obtain⟨n2,hN2⟩:=a4 hz2
 clear hz2
 refine bp 0 (fun e C=>weave_Join_k1 x1=some r/\At [(0,ae al x1)] [] e C) ?_ ?_
 ·rintro e C ⟨h,hat1⟩
  refine W_at hat1 ?_
  clear hat1
  unfold weave_Join_k1 at h
  refine W_rs ?_
  refine rq (out:=ae al x1) ag ?_
  obtain⟨x8,hx8,h⟩:=ah h
  refine rq (out:=ak x8) (bq (weave_Side_ok x1 1 _ hx8)) ?_
  refine rq (out:=ak x8) ab ?_
  refine rq (out:=Pr.bool true) ab ?_
  obtain rfl:=Option.some.inj h
  exact a9 ⟨rfl,aa⟩
 refine cg (fun m e C=>∃(x2:Int),cv (fun s=>gt x1 s) m x2=some z2l/\At [(0,ae al x1),(6,ae al x1),(7,Pr.i64 (x1.length:Int)),(8,Pr.i64 x2)] [] e C) n2 ⟨0,hN2,⟨⟨aa,aa,aa,aa,trivial⟩,Pick.refl _⟩⟩ ?_
 clear hN2
 rintro m e C ⟨x2,hN2,hatl2⟩
 refine W_at hatl2 ?_
 clear hatl2
 obtain⟨m2,w2l,rfl,h2l,hn2,ho2⟩:=ay hN2
 clear hN2
 replace h2l:gt x1 x2=some w2l:=h2l
 unfold gt at h2l
 refine W_rs ?_
 refine rq (out:=Pr.bool (decide (x2<(x1.length:Int)))) qInt ?_
 refine ax ?_
 refine ar (b:=decide (x2<(x1.length:Int))) rfl (fun hc4=> ?_) (fun hc4=> ?_)
 ·replace h2l:=iteT hc4 h2l
  refine av ?_
  refine ax ?_
  refine aq ?_
  refine W_rs ?_
  obtain⟨x5,hx5,h2l⟩:=ah h2l
  refine rq (out:=a5 al x5) (co (R:=al) (l:=x1) Tryz.underlying80 Tryz.sizeOf95 hx5) ?_
  refine rq (out:=(al).val x5) (bh (R:=al) (a:=x5) ty95) ?_
  refine np (R:=al) (z:=(ApiPart.mk false [] [] [])) Tryz.zeroValue95 (fun _=>⟨_,⟨_,_,rfl,rfl,⟨_,_,rfl,rfl,⟨_,_,rfl,rfl,⟨_,_,rfl,rfl,rfl⟩⟩⟩⟩,rfl⟩) (fun b6=> ?_)
  refine en (R:=al) (R':=al) (a:=(ApiPart.mk false [] [] [])) (y:=x5) 0 Tryz.sizeOf95 (Upd.refl _) ?_
  refine W_rs ?_
  refine rq (out:=ap b6 0) (az fld95_0) ?_
  refine rq (out:=Pr.bool x5.Clash) (bg (R:=al) (a:=x5) (R':=Rp.bool) 0 ty4 ir) ?_
  refine ar (b:=x5.Clash) rfl (fun hc7=> ?_) (fun hc7=> ?_)
  ·replace h2l:=iteT hc7 h2l
   refine W_rs ?_
   refine rq (out:=ak []) ab ?_
   refine rq (out:=Pr.bool false) ab ?_
   obtain rfl:=ho2 _ (Option.some.inj h2l).symm
   replace h:some ([],false)=some r:=h
   obtain rfl:=Option.some.inj h
   exact a9 ⟨rfl,aa⟩
  replace h2l:=iteF hc7 h2l
  refine av ?_
  refine W_r ?_
  refine rq (out:=Pr.i64 (w64 (x2+1))) qInt ?_
  refine rq (out:=Pr.i64 (w64 (x2+1))) ag ?_
  exact⟨m2,Nat.lt_succ_self _,w64 (x2+1),hn2 _ (Option.some.inj h2l).symm,⟨⟨aa,aa,aa,aa,trivial⟩,Pick.of [] rfl⟩⟩
 replace h2l:=iteF hc4 h2l
 refine cb ?_
 obtain rfl:=ho2 _ (Option.some.inj h2l).symm
 exact⟨h,⟨⟨aa,trivial⟩,Pick.refl _⟩⟩
theorem lines_all_1_ok {σ:Type} (yld:σ->(Int × (List UInt8))->Option (Bool × σ)) (Y:YI σ) (l:Nat) (hY:YOK Tryz.prog Y l (fun a=>[Pr.i64 a.1,ak a.2]) yld) (x2:List UInt8) (x3:σ) (b1:Nat) (v4:List Nat) (r:(List UInt8) × (σ)) (h:lines_all_1 yld x2 x3=some r):FnC Tryz.prog 116 ([]++[Pr.yl l]++[ap b1 0]) ([Own.box b1 af x2]++[Own.grp Y x3 v4]) (fun _ C'=>∃w9,C'=[Own.box b1 af r.1]++[Own.grp Y r.2 w9]):=by
 refine fj (n:=33) (rs:=[]) Tryz.func116 rfl Tryz.ntmps116 ⟨by decide,Tryz.results116⟩ (by decide) (fun s0=> ?_)
 unfold lines_all_1 at h
 refine W_rs ?_
 refine rq (out:=Pr.i64 0) ab ?_
 refine aq ?_
 obtain⟨z2l,hz2,h⟩:=ah h
 obtain⟨n2,hN2⟩:=a4 hz2
 clear hz2
 refine bp 0 (fun e C=>∃(x6:σ),∃(v7:List Nat),lines_all_1_k1 yld x2 x6=some r/\At [] [Own.box b1 af x2,Own.grp Y x6 v7] e C) ?_ ?_
 ·rintro e C ⟨x6,v7,h,hat1⟩
  unfold lines_all_1_k1 at h
  obtain rfl:=Option.some.inj h
  exact⟨.inr rfl,_,(Pick.trans hat1.2 (Pick.refl _)),_,aa,v7,rfl⟩
 refine cg (fun m e C=>∃(x5:Int),∃(x6:σ),∃(v7:List Nat),cv (fun s=>ev yld x2 s.1 s.2) m (x5,x6)=some z2l/\At [(0,Pr.yl l),(1,ap b1 0),(3,Pr.i64 x5)] [Own.box b1 af x2,Own.grp Y x6 v7] e C) n2 ⟨0,x3,v4,hN2,⟨⟨aa,aa,aa,trivial⟩,Pick.refl _⟩⟩ ?_
 clear hN2
 rintro m e C ⟨x5,x6,v7,hN2,hatl2⟩
 refine W_at hatl2 ?_
 clear hatl2
 obtain⟨m2,w2l,rfl,h2l,hn2,ho2⟩:=ay hN2
 clear hN2
 replace h2l:ev yld x2 x5 x6=some w2l:=h2l
 unfold ev at h2l
 refine ax ?_
 refine W_rs ?_
 refine rq (out:=Pr.i64 x5) ag ?_
 refine rq (out:=ak x2) (bg (R:=af) (a:=x2) (R':=af) 0 ty9 (Sub.refl _)) ?_
 refine rq (out:=Pr.i64 (x2.length:Int)) (qLenS rfl Tryz.underlying9) ?_
 refine rq (out:=Pr.bool (decide (x5<(x2.length:Int)))) qInt ?_
 refine ar (b:=decide (x5<(x2.length:Int))) rfl (fun hc11=> ?_) (fun hc11=> ?_)
 ·replace h2l:=iteT hc11 h2l
  refine av ?_
  refine aq ?_
  refine W_rs ?_
  refine rq (out:=ak x2) (bg (R:=af) (a:=x2) (R':=af) 0 ty9 (Sub.refl _)) ?_
  refine rq (out:=Pr.i64 x5) ag ?_
  obtain⟨x12,hx12,h2l⟩:=ah h2l
  refine rq (out:=ak x12) (qSubL Tryz.underlying9 hx12) ?_
  obtain⟨x13,hx13,h2l⟩:=ah h2l
  refine rq (out:=Pr.i64 x13) (bq (strings_IndexByte_ok x12 10 _ hx13)) ?_
  refine rq (out:=Pr.i64 (w64 (x13+1))) qInt ?_
  refine rq (out:=Pr.i64 (w64 (x13+1))) ab ?_
  refine bd (fun e C=>∃(x15:Int),lj yld x2 x5 x6 x15=some w2l/\At [(0,Pr.yl l),(1,ap b1 0),(3,Pr.i64 x5),(4,Pr.i64 x15)] [Own.box b1 af x2,Own.grp Y x6 v7] e C) ?_ ?_
  ·rintro e C ⟨x15,h2l,hat3⟩
   refine W_at hat3 ?_
   clear hat3
   unfold lj at h2l
   refine ax ?_
   refine W_rs ?_
   refine rq (out:=Pr.yl l) ag ?_
   refine rq (out:=Pr.i64 x5) ag ?_
   refine rq (out:=ak x2) (bg (R:=af) (a:=x2) (R':=af) 0 ty9 (Sub.refl _)) ?_
   refine rq (out:=Pr.i64 x5) ag ?_
   refine rq (out:=Pr.i64 x5) ag ?_
   refine rq (out:=Pr.i64 x15) ag ?_
   refine rq (out:=Pr.i64 (w64 (x5+x15))) qInt ?_
   obtain⟨x16,hx16,h2l⟩:=ah h2l
   refine rq (out:=ak x16) (qSubLH Tryz.underlying9 hx16) ?_
   obtain⟨⟨x17,x18⟩,hx17,h2l⟩:=ah h2l
   refine rYield 1 (a:=(x5,x16)) hY hx17 (fun v19=> ?_)
   refine rq (out:=Pr.bool (!x17)) qNot ?_
   refine ar (b:= !x17) rfl (fun hc20=> ?_) (fun hc20=> ?_)
   ·replace h2l:=iteT hc20 h2l
    obtain rfl:=ho2 _ (Option.some.inj h2l).symm
    replace h:some (x2,x18)=some r:=h
    obtain rfl:=Option.some.inj h
    exact a9 ⟨.inl rfl,_,Pick.of [1,0] rfl,_,aa,v19,rfl⟩
   replace h2l:=iteF hc20 h2l
   refine av ?_
   refine W_r ?_
   refine rq (out:=Pr.i64 x5) ag ?_
   refine rq (out:=Pr.i64 x15) ag ?_
   refine rq (out:=Pr.i64 (w64 (x5+x15))) qInt ?_
   refine rq (out:=Pr.i64 (w64 (x5+x15))) ab ?_
   exact⟨m2,Nat.lt_succ_self _,w64 (x5+x15),x18,v19,hn2 _ (Option.some.inj h2l).symm,⟨⟨aa,aa,aa,trivial⟩,Pick.of [1,0] rfl⟩⟩
  refine W_rs ?_
  refine rq (out:=Pr.i64 (w64 (x13+1))) ag ?_
  refine rq (out:=Pr.bool ((w64 (x13+1))==0)) qInt ?_
  refine ar (b:=(w64 (x13+1))==0) rfl (fun hc14=> ?_) (fun hc14=> ?_)
  ·replace h2l:=iteT hc14 h2l
   refine W_r ?_
   refine rq (out:=ak x2) (bg (R:=af) (a:=x2) (R':=af) 0 ty9 (Sub.refl _)) ?_
   refine rq (out:=Pr.i64 (x2.length:Int)) (qLenS rfl Tryz.underlying9) ?_
   refine rq (out:=Pr.i64 x5) ag ?_
   refine rq (out:=Pr.i64 (w64 ((x2.length:Int) - x5))) qInt ?_
   refine rq (out:=Pr.i64 (w64 ((x2.length:Int) - x5))) ab ?_
   exact⟨w64 ((x2.length:Int) - x5),h2l,⟨⟨aa,aa,aa,aa,trivial⟩,Pick.refl _⟩⟩
  replace h2l:=iteF hc14 h2l
  refine av ?_
  exact⟨w64 (x13+1),h2l,⟨⟨aa,aa,aa,aa,trivial⟩,Pick.refl _⟩⟩
 replace h2l:=iteF hc11 h2l
 refine cb ?_
 obtain rfl:=ho2 _ (Option.some.inj h2l).symm
 exact⟨x6,v7,h,⟨trivial,Pick.refl _⟩⟩
theorem lines_all_ok (x1:List UInt8):FnC Tryz.prog 95 [ak x1] [] (fun q C'=>∃b2,q=em 116 [] [ap b2 0]/\C'=[Own.box b2 af x1]):=by
 refine fj (n:=4) (rs:=[2]) Tryz.func95 rfl Tryz.ntmps95 ⟨by decide,Tryz.results95⟩ (by decide) (fun s0=> ?_)
 refine W_rs ?_
 refine rBox (R:=af) (a:=x1) rfl (fun b2=> ?_)
 refine rq (out:=Pr.is .nilFunc) ab ?_
 refine W_rs ?_
 refine rq (out:=em 116 [] [ap b2 0]) ii ?_
 refine rq (out:=em 116 [] [ap b2 0]) ab ?_
 exact a9 ⟨.inl rfl,_,Pick.refl _,_,aa,b2,rfl,rfl⟩
theorem lines_Split_ok (x1:List UInt8) (r:(List (List UInt8))) (h:lines_Split x1=some r):FnP Tryz.prog 82 [ak x1] (ae af r):=by
 refine a8 (n:=15) (rs:=[2]) Tryz.func82 rfl Tryz.ntmps82 ⟨by decide,Tryz.results82⟩ (by decide) (fun s0=> ?_)
 unfold lines_Split at h
 refine W_rs ?_
 refine rq (out:=Pr.is (.slice none 0 0)) ab ?_
 refine W_rs ?_
 refine rAllocC Tryz.zeroValue33 rfl rfl (fun b2=> ?_)
 refine W_rs2 ?_
 refine W_r ?_
 refine rq (out:=ak x1) ag ?_
 refine pb [] (lines_all_ok x1) (fun q C' hq=> ?_)
 obtain⟨b3,rfl,rfl⟩:=hq
 refine⟨rfl,?_⟩
 obtain⟨⟨x12,x13⟩,hx14,h⟩:=ah h
 refine WR_vec af 9 ?_
 refine W_range [0] (fun(s:(List (List UInt8))) C=>∃(v6:Value),C=[Own.cell b2 (Pr.is v6),Own.vec v6 af s 9]) (encs:=(fun(a:Int × (List UInt8))=>[Pr.i64 a.1,ak a.2])) (yld:=(fun(s:(List (List UInt8))) (a:Int × (List UInt8))=>f5 s a.1 a.2)) (st0:=[]) (stF:=x13) (Ccap':=[Own.box b3 af x12]) (fun l Y L hY=>lines_all_1_ok _ Y l hY x1 [] b3 L _ hx14) ⟨(.slice none 0 0),rfl⟩ (fun _=>rfl) ?_ ?_ (fun _ _ _ h=>h.1)
 ·rintro l x7 ⟨x4,x5⟩ ⟨rb1,rs1⟩ C T s0 ⟨v6,rfl⟩ hy1
  replace hy1:f5 x7 x4 x5=some (rb1,rs1):=hy1
  unfold f5 at hy1
  refine W_r ?_
  refine rq (out:=ak x5) ab ?_
  refine⟨rfl,fun T s0=> ?_⟩
  refine W_pickK ?_
  refine aq ?_
  refine W_r ?_
  refine rq (out:=Pr.is v6) (qLoadP 0 Tryz.isAgg33) ?_
  refine rq (out:=ak x5) ag ?_
  refine rq (out:=ae af ([x5]:List (List UInt8))) (bb (R:=af) (a:=x5) el33 (Nat.le_of_ble_eq_true rfl)) ?_
  obtain⟨x10,hx10,hy1⟩:=ah hy1
  refine ci 1 el33 hx10 (fun v11=> ?_)
  refine rStoreV 0 1 Tryz.sizeOf33 ?_
  obtain⟨rfl,rfl⟩:=Prod.mk.inj (Option.some.inj hy1)
  exact⟨_,Pick.refl _,rfl,rfl,v11,rfl⟩
 rintro D C' T s0 ⟨v6,rfl⟩
 refine W_rs ?_
 refine rq (out:=Pr.is v6) (qLoadP 1 Tryz.isAgg33) ?_
 refine rq (out:=Pr.is v6) ab ?_
 refine mq 2 [2] ?_ rfl ⟨rfl,trivial⟩
 obtain rfl:=Option.some.inj h
 exact a9 ⟨rfl,aa⟩
theorem mo (x1:List UInt8) (r:(List (List UInt8)) × Bool) (h:dg x1=some r):FnP Tryz.prog 71 [ak x1] (bi [ae af r.1,Pr.bool r.2]):=by
 refine a8 (n:=6) (rs:=[2,3]) Tryz.func71 rfl Tryz.ntmps71 ⟨by decide,Tryz.results71⟩ (by decide) (fun s0=> ?_)
 unfold dg at h
 refine W_rs ?_
 refine rq (out:=Pr.is (.slice none 0 0)) ab ?_
 refine rq (out:=Pr.bool false) ab ?_
 refine W_rs ?_
 refine rq (out:=ak x1) ag ?_
 obtain⟨x2,hx2,h⟩:=ah h
 refine rq (out:=ae af x2) (bq (lines_Split_ok x1 _ hx2)) ?_
 refine rq (out:=ae af x2) ab ?_
 refine rq (out:=Pr.bool true) ab ?_
 obtain rfl:=Option.some.inj h
 exact a9 ⟨rfl,aa⟩
theorem weave_Lines_ok (x1 x2 x3:List UInt8) (r:(List ApiPart)) (h:weave_Lines x1 x2 x3=some r):FnP Tryz.prog 60 [ak x1,ak x2,ak x3] (ae al r):=by
 refine a8 (n:=20) (rs:=[6]) Tryz.func60 rfl Tryz.ntmps60 ⟨by decide,Tryz.results60⟩ (by decide) (fun s0=> ?_)
 unfold weave_Lines at h
 refine W_rs ?_
 refine rq (out:=Pr.is (.slice none 0 0)) ab ?_
 refine W_rs ?_
 refine rq (out:=ak x1) ag ?_
 refine rq (out:=em 71 [ak x1] []) ii ?_
 refine rq (out:=ak x2) ag ?_
 refine rq (out:=em 71 [ak x2] []) ii ?_
 refine rq (out:=ak x3) ag ?_
 refine rq (out:=em 71 [ak x3] []) ii ?_
 obtain⟨⟨x4,x5⟩,hx4,h⟩:=ah h
 refine rq (out:=bi [ae al x4,Pr.bool x5]) (qCall' (weave_apart_ok (fun _=>dg x1) (fun _=>dg x2) (fun _=>dg x3) _ hx4) ⟨(clo_pfn en71 (fun _ _ hs=>by obtain⟨r,rfl,rfl,hr⟩:=hs;exact mo x1 r hr)),(clo_pfn en71 (fun _ _ hs=>by obtain⟨r,rfl,rfl,hr⟩:=hs;exact mo x2 r hr)),(clo_pfn en71 (fun _ _ hs=>by obtain⟨r,rfl,rfl,hr⟩:=hs;exact mo x3 r hr)),trivial⟩) ?_
 refine rq (out:=bi [ae al x4,Pr.bool x5]) ag ?_
 refine rq (out:=ae al x4) a6 ?_
 refine rq (out:=Pr.bool x5) a6 ?_
 refine rq (out:=ae al x4) ab ?_
 refine rq (out:=Pr.bool x5) ab ?_
 refine W_rs ?_
 refine rq (out:=ae al x4) ag ?_
 refine rq (out:=ae al x4) ab ?_
 obtain rfl:=Option.some.inj h
 exact a9 ⟨rfl,aa⟩
theorem weave_Text_ok (x1 x2 x3:List UInt8) (r:(List UInt8) × Bool) (h:weave_Text x1 x2 x3=some r):FnP Tryz.prog 47 [ak x1,ak x2,ak x3] (bi [ak r.1,Pr.bool r.2]):=by
 refine a8 (n:=47) (rs:=[6,7]) Tryz.func47 rfl Tryz.ntmps47 ⟨by decide,Tryz.results47⟩ (by decide) (fun s0=> ?_)
 unfold weave_Text at h
 refine W_rs ?_
 refine rq (out:=ak []) ab ?_
 refine rq (out:=Pr.bool false) ab ?_
 refine ax ?_
 refine aq ?_
 refine W_rs ?_
 refine rq (out:=ak x2) ag ?_
 refine rq (out:=ak x1) ag ?_
 refine rq (out:=Pr.bool (x2==x1)) qStr ?_
 refine rq (out:=Pr.bool (x2==x1)) ab ?_
 refine ar (b:=x2==x1) rfl (fun hc4=> ?_) (fun hc4=> ?_)
 ·replace h:=iteT hc4 h
  refine W_rs ?_
  refine rq (out:=ak x3) ag ?_
  refine rq (out:=ak x3) ab ?_
  refine rq (out:=Pr.bool true) ab ?_
  obtain rfl:=Option.some.inj h
  exact a9 ⟨rfl,aa⟩
 replace h:=iteF hc4 h
 refine bd (fun e C=>∃(x6:Bool),i5 x2 x1 x3 x6=some r/\At [(0,ak x1),(1,ak x2),(2,ak x3),(17,Pr.bool x6)] [] e C) ?_ ?_
 ·rintro e C ⟨x6,h,hat2⟩
  refine W_at hat2 ?_
  clear hat2
  unfold i5 at h
  refine ar (b:=x6) rfl (fun hc7=> ?_) (fun hc7=> ?_)
  ·replace h:=iteT hc7 h
   refine W_rs ?_
   refine rq (out:=ak x2) ag ?_
   refine rq (out:=ak x2) ab ?_
   refine rq (out:=Pr.bool true) ab ?_
   obtain rfl:=Option.some.inj h
   exact a9 ⟨rfl,aa⟩
  replace h:=iteF hc7 h
  refine av ?_
  refine bd (fun e C=>mx x1 x2 x3=some r/\At [(0,ak x1),(1,ak x2),(2,ak x3)] [] e C) ?_ ?_
  ·rintro e C ⟨h,hat1⟩
   refine W_at hat1 ?_
   clear hat1
   unfold mx at h
   refine W_rs ?_
   refine rq (out:=ak x1) ag ?_
   refine rq (out:=ak x2) ag ?_
   refine rq (out:=ak x3) ag ?_
   obtain⟨x14,hx14,h⟩:=ah h
   refine rq (out:=ae al x14) (bq (weave_Lines_ok x1 x2 x3 _ hx14)) ?_
   obtain⟨⟨x15,x16⟩,hx15,h⟩:=ah h
   refine rq (out:=bi [ak x15,Pr.bool x16]) (bq (weave_Join_ok x14 _ hx15)) ?_
   refine rq (out:=ak x15) a6 ?_
   refine rq (out:=Pr.bool x16) a6 ?_
   refine rq (out:=ak x15) ab ?_
   refine rq (out:=Pr.bool x16) ab ?_
   obtain rfl:=Option.some.inj h
   exact a9 ⟨rfl,aa⟩
  refine W_rs ?_
  refine rq (out:=ak x1) ag ?_
  refine rq (out:=ak x2) ag ?_
  refine rq (out:=ak x3) ag ?_
  obtain⟨⟨x8,x9⟩,hx8,h⟩:=ah h
  refine rq (out:=bi [ae al x8,Pr.bool x9]) (bq (weave_Tokens_ok x1 x2 x3 _ hx8)) ?_
  refine rq (out:=bi [ae al x8,Pr.bool x9]) ag ?_
  refine rq (out:=ae al x8) a6 ?_
  refine rq (out:=Pr.bool x9) a6 ?_
  refine rq (out:=ae al x8) ab ?_
  refine rq (out:=Pr.bool x9) ab ?_
  refine W_rs ?_
  refine rq (out:=Pr.bool x9) ag ?_
  refine ar (b:=x9) rfl (fun hc10=> ?_) (fun hc10=> ?_)
  ·replace h:=iteT hc10 h
   refine W_rs ?_
   refine rq (out:=ae al x8) ag ?_
   obtain⟨⟨x11,x12⟩,hx11,h⟩:=ah h
   refine rq (out:=bi [ak x11,Pr.bool x12]) (bq (weave_Join_ok x8 _ hx11)) ?_
   refine rq (out:=bi [ak x11,Pr.bool x12]) ag ?_
   refine rq (out:=ak x11) a6 ?_
   refine rq (out:=Pr.bool x12) a6 ?_
   refine rq (out:=ak x11) ab ?_
   refine rq (out:=Pr.bool x12) ab ?_
   refine W_rs ?_
   refine rq (out:=Pr.bool x12) ag ?_
   refine ar (b:=x12) rfl (fun hc13=> ?_) (fun hc13=> ?_)
   ·replace h:=iteT hc13 h
    refine W_rs ?_
    refine rq (out:=ak x11) ag ?_
    refine rq (out:=ak x11) ab ?_
    refine rq (out:=Pr.bool true) ab ?_
    obtain rfl:=Option.some.inj h
    exact a9 ⟨rfl,aa⟩
   replace h:=iteF hc13 h
   refine av ?_
   exact⟨h,⟨⟨aa,aa,aa,trivial⟩,Pick.refl _⟩⟩
  replace h:=iteF hc10 h
  refine av ?_
  exact⟨h,⟨⟨aa,aa,aa,trivial⟩,Pick.refl _⟩⟩
 refine W_rs ?_
 refine rq (out:=ak x3) ag ?_
 refine rq (out:=ak x1) ag ?_
 refine rq (out:=Pr.bool (x3==x1)) qStr ?_
 refine rq (out:=Pr.bool (x3==x1)) ab ?_
 refine ar (b:=x3==x1) rfl (fun hc5=> ?_) (fun hc5=> ?_)
 ·replace h:=iteT hc5 h
  refine av ?_
  exact⟨x3==x1,h,⟨⟨aa,aa,aa,aa,trivial⟩,Pick.refl _⟩⟩
 replace h:=iteF hc5 h
 refine W_r ?_
 refine rq (out:=ak x2) ag ?_
 refine rq (out:=ak x3) ag ?_
 refine rq (out:=Pr.bool (x2==x3)) qStr ?_
 refine rq (out:=Pr.bool (x2==x3)) ab ?_
 exact⟨x2==x3,h,⟨⟨aa,aa,aa,aa,trivial⟩,Pick.refl _⟩⟩
end Go.Proofs.YtphkaogfinjbjaaGreatDoor
