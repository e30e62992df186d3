/- The code comes to what these functions say (printed by wip/gen/gen.py). -/
import Derived.Test.YtphkaogfinjbjaaGreatDoorZP1
import Derived.Test.YtphkaogfinjbjaaGreatDoorZT
set_option linter.unusedSimpArgs false
set_option linter.unusedVariables false
set_option linter.unusedSectionVars false
set_option linter.unusedSectionVars false
set_option maxRecDepth 100000
set_option maxHeartbeats 4000000
namespace Go.Proofs.YtphkaogfinjbjaaGreatDoor
open Go Go.Cn
variable [Known]
theorem lcs_Numbers_ok (x1:List (List (List UInt8))) (r:(List (List Int))) (h:lcs_Numbers x1=some r):FnP Tryz.prog 64 [af (ai ab) x1] (af (ai (Rp.int .i64)) r):=by
 refine a7 (n:=49) (rs:=[2]) Tryz.func64 rfl Tryz.ntmps64 ⟨by decide,Tryz.results64⟩ (by decide) (fun s0=> ?_)
 unfold lcs_Numbers at h
 refine W_rs ?_
 refine rq (out:=Pr.is (.slice none 0 0)) ae ?_
 refine W_rs ?_
 refine rMakeMap (Rp.int .i64) (fun b2=> ?_)
 refine rq (out:=Pr.mp b2) ae ?_
 refine W_rs ?_
 refine rq (out:=Pr.is (.slice none 0 0)) ae ?_
 refine aw ?_
 refine W_rs ?_
 refine rq (out:=af (ai ab) x1) ag ?_
 refine rq (out:=Pr.i64 (x1.length:Int)) (cl rfl Tryz.underlying78) ?_
 refine rq (out:=Pr.i64 0) ag ?_
 refine ar ?_
 obtain⟨z2l,hz2,h⟩:=ah h
 obtain⟨n2,hN2⟩:=a4 hz2
 clear hz2
 refine bp 0 (fun e C=>∃(x5:SMap Int),∃(x6:List (List Int)),∃(v3:Value),lcs_Numbers_k1 x5 x6=some r/\At [(4,Pr.is v3)] [Own.smap b2 (Rp.int .i64) x5,Own.vec v3 (ai (Rp.int .i64)) x6 90] e C) ?_ ?_
 ·rintro e C ⟨x5,x6,v3,h,hat1⟩
  refine W_at hat1 ?_
  clear hat1
  unfold lcs_Numbers_k1 at h
  refine W_rs ?_
  refine rq (out:=Pr.is v3) ag ?_
  refine rq (out:=Pr.is v3) ae ?_
  refine W_rel 1 [2] ?_ rfl ⟨rfl,trivial⟩
  obtain rfl:=Option.some.inj h
  exact bb ⟨rfl,aa⟩
 refine W_nil [4] (ai (Rp.int .i64)) 90 (fun v31=> ?_) ⟨rfl,trivial⟩
 refine cd (fun m e C=>∃(x4:Int),∃(x5:SMap Int),∃(x6:List (List Int)),∃(v3:Value),cz (fun s=>gr x1 s.1 s.2.1 s.2.2) m (x4,x5,x6)=some z2l/\At [(3,Pr.mp b2),(4,Pr.is v3),(13,af (ai ab) x1),(14,Pr.i64 (x1.length:Int)),(15,Pr.i64 x4)] [Own.smap b2 (Rp.int .i64) x5,Own.vec v3 (ai (Rp.int .i64)) x6 90] e C) n2 ⟨0,([]:SMap Int),[],v31,hN2,⟨⟨aa,aa,aa,aa,aa,trivial⟩,Pick.refl _⟩⟩ ?_
 clear hN2
 rintro m e C ⟨x4,x5,x6,v3,hN2,hatl2⟩
 refine W_at hatl2 ?_
 clear hatl2
 obtain⟨m2,w2l,rfl,h2l,hn2,ho2⟩:=ay hN2
 clear hN2
 replace h2l:gr x1 x4 x5 x6=some w2l:=h2l
 unfold gr at h2l
 refine W_rs ?_
 refine rq (out:=Pr.bool (decide (x4<(x1.length:Int)))) qInt ?_
 refine aw ?_
 refine au (b:=decide (x4<(x1.length:Int))) rfl (fun hc11=> ?_) (fun hc11=> ?_)
 ·replace h2l:=iteT hc11 h2l
  refine av ?_
  refine aw ?_
  refine ar ?_
  refine W_rs ?_
  obtain⟨x12,hx12,h2l⟩:=ah h2l
  refine rq (out:=a5 (ai ab) x12) (cr (R:=ai ab) (l:=x1) Tryz.underlying78 Tryz.sizeOf33 hx12) ?_
  refine rq (out:=af ab x12) (bl (R:=ai ab) (a:=x12) ty33) ?_
  refine rq (out:=af ab x12) ae ?_
  refine W_rs ?_
  refine rq (out:=Pr.is (.slice none 0 0)) ae ?_
  refine aw ?_
  refine W_rs ?_
  refine rq (out:=af ab x12) ag ?_
  refine rq (out:=Pr.i64 (x12.length:Int)) (cl rfl Tryz.underlying33) ?_
  refine rq (out:=Pr.i64 0) ag ?_
  refine ar ?_
  obtain⟨z4l,hz4,h2l⟩:=ah h2l
  obtain⟨n4,hN4⟩:=a4 hz4
  clear hz4
  refine bp 2 (fun e C=>∃(x15:SMap Int),∃(x16:List Int),∃(v13:Value),lcs_Numbers_k3 x6 x4 x15 x16=some w2l/\At [(3,Pr.mp b2),(4,Pr.is v3),(7,Pr.is v13),(13,af (ai ab) x1),(14,Pr.i64 (x1.length:Int)),(15,Pr.i64 x4)] [Own.smap b2 (Rp.int .i64) x15,Own.vec v3 (ai (Rp.int .i64)) x6 90,Own.vec v13 (Rp.int .i64) x16 3] e C) ?_ ?_
  ·rintro e C ⟨x15,x16,v13,h2l,hat3⟩
   refine W_at hat3 ?_
   clear hat3
   unfold lcs_Numbers_k3 at h2l
   refine W_r ?_
   refine rq (out:=Pr.is v3) ag ?_
   refine rq (out:=Pr.is v13) ag ?_
   refine rRel 2 [7,44] ?_ rfl ⟨rfl,rfl,trivial⟩
   refine rq (out:=af (ai (Rp.int .i64)) ([x16]:List (List Int))) (bh (R:=ai (Rp.int .i64)) (a:=x16) el87 (Nat.le_of_ble_eq_true rfl)) ?_
   obtain⟨x28,hx28,h2l⟩:=ah h2l
   refine cu 1 el87 hx28 (fun v29=> ?_)
   refine rq (out:=Pr.is v29) ae ?_
   refine W_r ?_
   refine rq (out:=Pr.i64 (w64 (x4+1))) qInt ?_
   refine rq (out:=Pr.i64 (w64 (x4+1))) ag ?_
   exact⟨m2,Nat.lt_succ_self _,w64 (x4+1),x15,x28,v29,hn2 _ (Option.some.inj h2l).symm,⟨⟨aa,aa,aa,aa,aa,trivial⟩,Pick.refl _⟩⟩
  refine W_nil [7] (Rp.int .i64) 3 (fun v30=> ?_) ⟨rfl,trivial⟩
  refine cd (fun m e C=>∃(x14:Int),∃(x15:SMap Int),∃(x16:List Int),∃(v13:Value),cz (fun s=>fv x12 s.1 s.2.1 s.2.2) m (x14,x15,x16)=some z4l/\At [(3,Pr.mp b2),(4,Pr.is v3),(7,Pr.is v13),(13,af (ai ab) x1),(14,Pr.i64 (x1.length:Int)),(15,Pr.i64 x4),(19,af ab x12),(20,Pr.i64 (x12.length:Int)),(21,Pr.i64 x14)] [Own.smap b2 (Rp.int .i64) x15,Own.vec v3 (ai (Rp.int .i64)) x6 90,Own.vec v13 (Rp.int .i64) x16 3] e C) n4 ⟨0,x5,[],v30,hN4,⟨⟨aa,aa,aa,aa,aa,aa,aa,aa,aa,trivial⟩,Pick.refl _⟩⟩ ?_
  clear hN4
  rintro m e C ⟨x14,x15,x16,v13,hN4,hatl4⟩
  refine W_at hatl4 ?_
  clear hatl4
  obtain⟨m4,w4l,rfl,h4l,hn4,ho4⟩:=ay hN4
  clear hN4
  replace h4l:fv x12 x14 x15 x16=some w4l:=h4l
  unfold fv at h4l
  refine W_rs ?_
  refine rq (out:=Pr.bool (decide (x14<(x12.length:Int)))) qInt ?_
  refine aw ?_
  refine au (b:=decide (x14<(x12.length:Int))) rfl (fun hc21=> ?_) (fun hc21=> ?_)
  ·replace h4l:=iteT hc21 h4l
   refine av ?_
   refine aw ?_
   refine ar ?_
   refine W_rs ?_
   obtain⟨x22,hx22,h4l⟩:=ah h4l
   refine rq (out:=a5 ab x22) (cr (R:=ab) (l:=x12) Tryz.underlying33 Tryz.sizeOf9 hx22) ?_
   refine rq (out:=aj x22) (bl (R:=ab) (a:=x22) ty9) ?_
   refine rq (out:=aj x22) ae ?_
   refine W_rs ?_
   refine rq (out:=Pr.mp b2) ag ?_
   refine rq (out:=aj x22) ag ?_
   refine rq (out:=bn [Pr.i64 (mget x22 0 x15),Pr.bool (mhas x22 x15)]) (qMapGet2 (R:=Rp.int .i64) (m:=x15) (kx:=x22) (z:=0) 0 Tryz.underlying111 Tryz.underlying9 Tryz.zeroValue3 (fun _=>rfl)) ?_
   refine rq (out:=bn [Pr.i64 (mget x22 0 x15),Pr.bool (mhas x22 x15)]) ag ?_
   refine rq (out:=Pr.i64 (mget x22 0 x15)) a6 ?_
   refine rq (out:=Pr.bool (mhas x22 x15)) a6 ?_
   refine rq (out:=Pr.i64 (mget x22 0 x15)) ae ?_
   refine rq (out:=Pr.bool (mhas x22 x15)) ae ?_
   refine bg (fun e C=>∃(x24:Int),∃(x25:SMap Int),kv x16 x14 x24 x25=some w4l/\At [(3,Pr.mp b2),(4,Pr.is v3),(7,Pr.is v13),(10,Pr.i64 x24),(13,af (ai ab) x1),(14,Pr.i64 (x1.length:Int)),(15,Pr.i64 x4),(19,af ab x12),(20,Pr.i64 (x12.length:Int)),(21,Pr.i64 x14)] [Own.smap b2 (Rp.int .i64) x25,Own.vec v3 (ai (Rp.int .i64)) x6 90,Own.vec v13 (Rp.int .i64) x16 3] e C) ?_ ?_
   ·rintro e C ⟨x24,x25,h4l,hat5⟩
    refine W_at hat5 ?_
    clear hat5
    unfold kv at h4l
    refine W_r ?_
    refine rq (out:=Pr.is v13) ag ?_
    refine rq (out:=Pr.i64 x24) ag ?_
    refine rq (out:=af (Rp.int .i64) ([x24]:List Int)) (bh (R:=Rp.int .i64) (a:=x24) el90 (Nat.le_of_ble_eq_true rfl)) ?_
    obtain⟨x26,hx26,h4l⟩:=ah h4l
    refine cu 2 el90 hx26 (fun v27=> ?_)
    refine rq (out:=Pr.is v27) ae ?_
    refine W_r ?_
    refine rq (out:=Pr.i64 (w64 (x14+1))) qInt ?_
    refine rq (out:=Pr.i64 (w64 (x14+1))) ag ?_
    exact⟨m4,Nat.lt_succ_self _,w64 (x14+1),x25,x26,v27,hn4 _ (Option.some.inj h4l).symm,⟨⟨aa,aa,aa,aa,aa,aa,aa,aa,aa,trivial⟩,Pick.refl _⟩⟩
   refine W_rs ?_
   refine rq (out:=Pr.bool (mhas x22 x15)) ag ?_
   refine rq (out:=Pr.bool (!(mhas x22 x15))) qNot ?_
   refine au (b:= !(mhas x22 x15)) rfl (fun hc23=> ?_) (fun hc23=> ?_)
   ·replace h4l:=iteT hc23 h4l
    refine W_rs ?_
    refine rq (out:=Pr.mp b2) ag ?_
    refine rq (out:=Pr.i64 (x15.length:Int)) (qMapLen 0 rfl Tryz.underlying111) ?_
    refine rq (out:=Pr.i64 (x15.length:Int)) ae ?_
    refine W_r ?_
    refine rq (out:=Pr.mp b2) ag ?_
    refine rq (out:=aj x22) ag ?_
    refine rq (out:=Pr.i64 (x15.length:Int)) ag ?_
    refine rMapSet (R:=Rp.int .i64) (m:=x15) (kx:=x22) (v:=(x15.length:Int)) 0 Tryz.underlying111 Tryz.underlying9 ?_
    exact⟨(x15.length:Int),(mset x22 (x15.length:Int) x15),h4l,⟨⟨aa,aa,aa,aa,aa,aa,aa,aa,aa,aa,trivial⟩,Pick.refl _⟩⟩
   replace h4l:=iteF hc23 h4l
   refine av ?_
   exact⟨(mget x22 0 x15),x15,h4l,⟨⟨aa,aa,aa,aa,aa,aa,aa,aa,aa,aa,trivial⟩,Pick.refl _⟩⟩
  replace h4l:=iteF hc21 h4l
  refine bw ?_
  obtain rfl:=ho4 _ (Option.some.inj h4l).symm
  exact⟨x15,x16,v13,h2l,⟨⟨aa,aa,aa,aa,aa,aa,trivial⟩,Pick.refl _⟩⟩
 replace h2l:=iteF hc11 h2l
 refine bw ?_
 obtain rfl:=ho2 _ (Option.some.inj h2l).symm
 exact⟨x5,x6,v3,h,⟨⟨aa,trivial⟩,Pick.refl _⟩⟩
theorem lcs_none_ok (x1:Int) (r:(List Int)) (h:lcs_none x1=some r):FnC Tryz.prog 101 [Pr.i64 x1] [] (fun q C'=>∃u0,q=Pr.is u0/\C'=[Own.vec u0 (Rp.int .i64) r 3]):=by
 refine fj (n:=16) (rs:=[2]) Tryz.func101 rfl Tryz.ntmps101 ⟨by decide,Tryz.results101⟩ (by decide) (fun s0=> ?_)
 unfold lcs_none at h
 refine W_rs ?_
 refine rq (out:=Pr.is (.slice none 0 0)) ae ?_
 refine W_rs ?_
 refine rq (out:=Pr.i64 x1) ag ?_
 obtain⟨x2,hx2,h⟩:=ah h
 refine rMake (R:=Rp.int .i64) (z:=0) el90 Tryz.zeroValue3 (fun _=>rfl) hx2 (fun v3=> ?_)
 refine rq (out:=Pr.is v3) ae ?_
 refine aw ?_
 refine W_rs ?_
 refine rq (out:=Pr.i64 x1) ag ?_
 refine rq (out:=Pr.i64 0) ag ?_
 refine ar ?_
 obtain⟨z2l,hz2,h⟩:=ah h
 obtain⟨n2,hN2⟩:=a4 hz2
 clear hz2
 refine bp 0 (fun e C=>∃(x5:List Int),lcs_none_k1 x5=some r/\At [(3,Pr.is v3)] [Own.vec v3 (Rp.int .i64) x5 3] e C) ?_ ?_
 ·rintro e C ⟨x5,h,hat1⟩
  refine W_at hat1 ?_
  clear hat1
  unfold lcs_none_k1 at h
  refine W_rs ?_
  refine rq (out:=Pr.is v3) ag ?_
  refine rq (out:=Pr.is v3) ae ?_
  obtain rfl:=Option.some.inj h
  exact bb ⟨.inl rfl,_,Pick.refl _,_,(aa),v3,rfl,rfl⟩
 refine cd (fun m e C=>∃(x4:Int),∃(x5:List Int),cz (fun s=>jm x1 s.1 s.2) m (x4,x5)=some z2l/\At [(3,Pr.is v3),(7,Pr.i64 x1),(8,Pr.i64 x4)] [Own.vec v3 (Rp.int .i64) x5 3] e C) n2 ⟨0,(List.replicate x2 0),hN2,⟨⟨aa,aa,aa,trivial⟩,Pick.refl _⟩⟩ ?_
 clear hN2
 rintro m e C ⟨x4,x5,hN2,hatl2⟩
 refine W_at hatl2 ?_
 clear hatl2
 obtain⟨m2,w2l,rfl,h2l,hn2,ho2⟩:=ay hN2
 clear hN2
 replace h2l:jm x1 x4 x5=some w2l:=h2l
 unfold jm at h2l
 refine W_rs ?_
 refine rq (out:=Pr.bool (decide (x4<x1))) qInt ?_
 refine aw ?_
 refine au (b:=decide (x4<x1)) rfl (fun hc8=> ?_) (fun hc8=> ?_)
 ·replace h2l:=iteT hc8 h2l
  refine av ?_
  refine aw ?_
  refine ar ?_
  refine W_rs ?_
  refine rq (out:=Pr.i64 x4) ag ?_
  refine rq (out:=Pr.i64 x4) ae ?_
  refine W_r ?_
  refine rq (out:=Pr.is v3) ag ?_
  refine rq (out:=Pr.i64 x4) ag ?_
  obtain⟨x9,hx9,h2l⟩:=ah h2l
  refine rq (out:=cb v3 (Int.toNat x4 * (Rp.int .i64).size)) (jb 0 (R:=Rp.int .i64) (l:=x5) Tryz.underlying90 Tryz.sizeOf3 hx9) ?_
  refine k5 (R:=Rp.int .i64) (R':=Rp.int .i64) (l:=x5) (a:=x9) (y:=(-1)) (o:=0) 0 Tryz.sizeOf3 (Upd.refl _) hx9 rfl ?_
  refine W_r ?_
  refine rq (out:=Pr.i64 (w64 (x4+1))) qInt ?_
  refine rq (out:=Pr.i64 (w64 (x4+1))) ag ?_
  exact⟨m2,Nat.lt_succ_self _,w64 (x4+1),(List.set x5 (Int.toNat x4) (-1)),hn2 _ (Option.some.inj h2l).symm,⟨⟨aa,aa,aa,trivial⟩,Pick.refl _⟩⟩
 replace h2l:=iteF hc8 h2l
 refine bw ?_
 obtain rfl:=ho2 _ (Option.some.inj h2l).symm
 exact⟨x5,h,⟨⟨aa,trivial⟩,Pick.refl _⟩⟩
theorem lcs_ends_ok (x1 x2 x4:List Int) (v3:Value) (r:Int × Int × (List Int)) (h:lcs_ends x1 x2 x4=some r):FnC Tryz.prog 102 [af (Rp.int .i64) x1,af (Rp.int .i64) x2,Pr.is v3] [Own.vec v3 (Rp.int .i64) x4 3] (fun q C'=>q=bn [Pr.i64 r.1,Pr.i64 r.2.1]/\C'=[Own.vec v3 (Rp.int .i64) r.2.2 3]):=by
 refine fj (n:=84) (rs:=[6,7]) Tryz.func102 rfl Tryz.ntmps102 ⟨by decide,Tryz.results102⟩ (by decide) (fun s0=> ?_)
 unfold lcs_ends at h
 refine W_rs ?_
 refine rq (out:=Pr.i64 0) ae ?_
 refine rq (out:=Pr.i64 0) ae ?_
 refine W_rs ?_
 refine rq (out:=Pr.i64 0) ae ?_
 refine aw ?_
 refine ar ?_
 obtain⟨z7l,hz7,h⟩:=ah h
 obtain⟨n7,hN7⟩:=a4 hz7
 clear hz7
 refine bp 0 (fun e C=>∃(x5:Int),∃(x6:List Int),lcs_ends_k6 x2 x1 x5 x6=some r/\At [(0,af (Rp.int .i64) x1),(1,af (Rp.int .i64) x2),(2,Pr.is v3),(8,Pr.i64 x5)] [Own.vec v3 (Rp.int .i64) x6 3] e C) ?_ ?_
 ·rintro e C ⟨x5,x6,h,hat6⟩
  refine W_at hat6 ?_
  clear hat6
  unfold lcs_ends_k6 at h
  refine W_rs ?_
  refine rq (out:=Pr.i64 0) ae ?_
  refine aw ?_
  refine ar ?_
  obtain⟨z4l,hz4,h⟩:=ah h
  obtain⟨n4,hN4⟩:=a4 hz4
  clear hz4
  refine bp 2 (fun e C=>∃(x15:Int),lcs_ends_k3 x1 x2 x6 x5 x15=some r/\At [(0,af (Rp.int .i64) x1),(1,af (Rp.int .i64) x2),(2,Pr.is v3),(8,Pr.i64 x5),(9,Pr.i64 x15)] [Own.vec v3 (Rp.int .i64) x6 3] e C) ?_ ?_
  ·rintro e C ⟨x15,h,hat3⟩
   refine W_at hat3 ?_
   clear hat3
   unfold lcs_ends_k3 at h
   refine aw ?_
   refine W_rs ?_
   refine rq (out:=Pr.i64 x15) ag ?_
   refine rq (out:=Pr.i64 0) ag ?_
   refine ar ?_
   obtain⟨z2l,hz2,h⟩:=ah h
   obtain⟨n2,hN2⟩:=a4 hz2
   clear hz2
   refine bp 4 (fun e C=>∃(x23:List Int),lcs_ends_k1 x5 x15 x23=some r/\At [(2,Pr.is v3),(8,Pr.i64 x5),(9,Pr.i64 x15)] [Own.vec v3 (Rp.int .i64) x23 3] e C) ?_ ?_
   ·rintro e C ⟨x23,h,hat1⟩
    refine W_at hat1 ?_
    clear hat1
    unfold lcs_ends_k1 at h
    refine W_rs ?_
    refine rq (out:=Pr.i64 x5) ag ?_
    refine rq (out:=Pr.i64 x15) ag ?_
    refine rq (out:=Pr.i64 x5) ae ?_
    refine rq (out:=Pr.i64 x15) ae ?_
    obtain rfl:=Option.some.inj h
    exact bb ⟨.inl rfl,_,Pick.refl _,_,(aa),rfl,rfl⟩
   refine cd (fun m e C=>∃(x22:Int),∃(x23:List Int),cz (fun s=>lcs_ends_l2 x15 x1 x2 s.1 s.2) m (x22,x23)=some z2l/\At [(0,af (Rp.int .i64) x1),(1,af (Rp.int .i64) x2),(2,Pr.is v3),(8,Pr.i64 x5),(9,Pr.i64 x15),(65,Pr.i64 x15),(66,Pr.i64 x22)] [Own.vec v3 (Rp.int .i64) x23 3] e C) n2 ⟨0,x6,hN2,⟨⟨aa,aa,aa,aa,aa,aa,aa,trivial⟩,Pick.refl _⟩⟩ ?_
   clear hN2
   rintro m e C ⟨x22,x23,hN2,hatl2⟩
   refine W_at hatl2 ?_
   clear hatl2
   obtain⟨m2,w2l,rfl,h2l,hn2,ho2⟩:=ay hN2
   clear hN2
   replace h2l:lcs_ends_l2 x15 x1 x2 x22 x23=some w2l:=h2l
   unfold lcs_ends_l2 at h2l
   refine W_rs ?_
   refine rq (out:=Pr.bool (decide (x22<x15))) qInt ?_
   refine aw ?_
   refine au (b:=decide (x22<x15)) rfl (fun hc26=> ?_) (fun hc26=> ?_)
   ·replace h2l:=iteT hc26 h2l
    refine av ?_
    refine aw ?_
    refine ar ?_
    refine W_rs ?_
    refine rq (out:=Pr.i64 x22) ag ?_
    refine rq (out:=Pr.i64 x22) ae ?_
    refine W_r ?_
    refine rq (out:=Pr.is v3) ag ?_
    refine rq (out:=af (Rp.int .i64) x1) ag ?_
    refine rq (out:=Pr.i64 (x1.length:Int)) (cl rfl Tryz.underlying90) ?_
    refine rq (out:=Pr.i64 (w64 ((x1.length:Int) - 1))) qInt ?_
    refine rq (out:=Pr.i64 x22) ag ?_
    refine rq (out:=Pr.i64 (w64 ((w64 ((x1.length:Int) - 1)) - x22))) qInt ?_
    refine rq (out:=af (Rp.int .i64) x2) ag ?_
    refine rq (out:=Pr.i64 (x2.length:Int)) (cl rfl Tryz.underlying90) ?_
    refine rq (out:=Pr.i64 (w64 ((x2.length:Int) - 1))) qInt ?_
    refine rq (out:=Pr.i64 x22) ag ?_
    refine rq (out:=Pr.i64 (w64 ((w64 ((x2.length:Int) - 1)) - x22))) qInt ?_
    obtain⟨x27,hx27,h2l⟩:=ah h2l
    refine rq (out:=cb v3 (Int.toNat (w64 ((w64 ((x1.length:Int) - 1)) - x22)) * (Rp.int .i64).size)) (jb 0 (R:=Rp.int .i64) (l:=x23) Tryz.underlying90 Tryz.sizeOf3 hx27) ?_
    refine k5 (R:=Rp.int .i64) (R':=Rp.int .i64) (l:=x23) (a:=x27) (y:=w64 ((w64 ((x2.length:Int) - 1)) - x22)) (o:=0) 0 Tryz.sizeOf3 (Upd.refl _) hx27 rfl ?_
    refine W_r ?_
    refine rq (out:=Pr.i64 (w64 (x22+1))) qInt ?_
    refine rq (out:=Pr.i64 (w64 (x22+1))) ag ?_
    exact⟨m2,Nat.lt_succ_self _,w64 (x22+1),(List.set x23 (Int.toNat (w64 ((w64 ((x1.length:Int) - 1)) - x22))) (w64 ((w64 ((x2.length:Int) - 1)) - x22))),hn2 _ (Option.some.inj h2l).symm,⟨⟨aa,aa,aa,aa,aa,aa,aa,trivial⟩,Pick.refl _⟩⟩
   replace h2l:=iteF hc26 h2l
   refine bw ?_
   obtain rfl:=ho2 _ (Option.some.inj h2l).symm
   exact⟨x23,h,⟨⟨aa,aa,aa,trivial⟩,Pick.refl _⟩⟩
  refine cd (fun m e C=>∃(x15:Int),cz (fun s=>lcs_ends_l4 x2 x1 x5 s) m x15=some z4l/\At [(0,af (Rp.int .i64) x1),(1,af (Rp.int .i64) x2),(2,Pr.is v3),(8,Pr.i64 x5),(9,Pr.i64 x15)] [Own.vec v3 (Rp.int .i64) x6 3] e C) n4 ⟨0,hN4,⟨⟨aa,aa,aa,aa,aa,trivial⟩,Pick.refl _⟩⟩ ?_
  clear hN4
  rintro m e C ⟨x15,hN4,hatl4⟩
  refine W_at hatl4 ?_
  clear hatl4
  obtain⟨m4,w4l,rfl,h4l,hn4,ho4⟩:=ay hN4
  clear hN4
  replace h4l:lcs_ends_l4 x2 x1 x5 x15=some w4l:=h4l
  unfold lcs_ends_l4 at h4l
  refine aw ?_
  refine bg (fun e C=>∃(x20:Bool),lcs_ends_j5 x15 x20=some w4l/\At [(0,af (Rp.int .i64) x1),(1,af (Rp.int .i64) x2),(2,Pr.is v3),(8,Pr.i64 x5),(9,Pr.i64 x15),(62,Pr.bool x20)] [Own.vec v3 (Rp.int .i64) x6 3] e C) ?_ ?_
  ·rintro e C ⟨x20,h4l,hat5⟩
   refine W_at hat5 ?_
   clear hat5
   unfold lcs_ends_j5 at h4l
   refine au (b:=x20) rfl (fun hc21=> ?_) (fun hc21=> ?_)
   ·replace h4l:=iteT hc21 h4l
    refine av ?_
    refine ar ?_
    refine W_r ?_
    refine rq (out:=Pr.i64 x15) ag ?_
    refine rq (out:=Pr.i64 (w64 (x15+1))) qInt ?_
    refine rq (out:=Pr.i64 (w64 (x15+1))) ae ?_
    exact⟨m4,Nat.lt_succ_self _,w64 (x15+1),hn4 _ (Option.some.inj h4l).symm,⟨⟨aa,aa,aa,aa,aa,trivial⟩,Pick.refl _⟩⟩
   replace h4l:=iteF hc21 h4l
   refine bw ?_
   obtain rfl:=ho4 _ (Option.some.inj h4l).symm
   exact⟨x15,h,⟨⟨aa,aa,aa,aa,aa,trivial⟩,Pick.refl _⟩⟩
  refine ei 28 hmx (by kernel_rfl) (by kernel_rfl) ?_
  refine qq (out:=Pr.i64 x15) ag ?_
  refine qq (out:=af (Rp.int .i64) x1) ag ?_
  refine qq (out:=Pr.i64 (x1.length:Int)) (cl rfl Tryz.underlying90) ?_
  refine qq (out:=af (Rp.int .i64) x2) ag ?_
  refine qq (out:=Pr.i64 (x2.length:Int)) (cl rfl Tryz.underlying90) ?_
  refine qq (out:=Pr.i64 (if(x2.length:Int)<(x1.length:Int)then(x2.length:Int)else(x1.length:Int))) (qMin (a:=(x1.length:Int)) (b:=(x2.length:Int))) ?_
  refine qq (out:=Pr.i64 x5) ag ?_
  refine qq (out:=Pr.i64 (w64 ((if(x2.length:Int)<(x1.length:Int)then(x2.length:Int)else(x1.length:Int)) - x5))) qInt ?_
  refine qq (out:=Pr.bool (decide (x15<(w64 ((if(x2.length:Int)<(x1.length:Int)then(x2.length:Int)else(x1.length:Int)) - x5))))) qInt ?_
  refine qq (out:=Pr.bool (decide (x15<(w64 ((if(x2.length:Int)<(x1.length:Int)then(x2.length:Int)else(x1.length:Int)) - x5))))) ag ?_
  rcases bc h4l with⟨hc17,h4l⟩|⟨hc17,h4l⟩
  ·refine qqg hc17 (out:=af (Rp.int .i64) x1) ag ?_
   refine qqg hc17 (out:=af (Rp.int .i64) x1) ag ?_
   refine qqg hc17 (out:=Pr.i64 (x1.length:Int)) (cl rfl Tryz.underlying90) ?_
   refine qqg hc17 (out:=Pr.i64 (w64 ((x1.length:Int) - 1))) qInt ?_
   refine qqg hc17 (out:=Pr.i64 x15) ag ?_
   refine qqg hc17 (out:=Pr.i64 (w64 ((w64 ((x1.length:Int) - 1)) - x15))) qInt ?_
   obtain⟨x18,hx18,h4l⟩:=ah h4l
   refine qqg hc17 (out:=a5 (Rp.int .i64) x18) (cr (R:=Rp.int .i64) (l:=x1) Tryz.underlying90 Tryz.sizeOf3 hx18) ?_
   refine qqg hc17 (out:=Pr.i64 x18) (bl (R:=Rp.int .i64) (a:=x18) ty3) ?_
   refine qqg hc17 (out:=af (Rp.int .i64) x2) ag ?_
   refine qqg hc17 (out:=af (Rp.int .i64) x2) ag ?_
   refine qqg hc17 (out:=Pr.i64 (x2.length:Int)) (cl rfl Tryz.underlying90) ?_
   refine qqg hc17 (out:=Pr.i64 (w64 ((x2.length:Int) - 1))) qInt ?_
   refine qqg hc17 (out:=Pr.i64 x15) ag ?_
   refine qqg hc17 (out:=Pr.i64 (w64 ((w64 ((x2.length:Int) - 1)) - x15))) qInt ?_
   obtain⟨x19,hx19,h4l⟩:=ah h4l
   refine qqg hc17 (out:=a5 (Rp.int .i64) x19) (cr (R:=Rp.int .i64) (l:=x2) Tryz.underlying90 Tryz.sizeOf3 hx19) ?_
   refine qqg hc17 (out:=Pr.i64 x19) (bl (R:=Rp.int .i64) (a:=x19) ty3) ?_
   refine qqg hc17 (out:=Pr.bool (x18==x19)) qInt ?_
   refine qq (out:=Pr.bool (x18==x19)) (bo hc17) ?_
   exact⟨x18==x19,h4l,⟨⟨aa,aa,aa,aa,aa,aa,trivial⟩,Pick.refl _⟩⟩
  refine qqno (neT hc17) ?_
  refine qqno (neT hc17) ?_
  refine qqno (neT hc17) ?_
  refine qqno (neT hc17) ?_
  refine qqno (neT hc17) ?_
  refine qqno (neT hc17) ?_
  refine qqno (neT hc17) ?_
  refine qqno (neT hc17) ?_
  refine qqno (neT hc17) ?_
  refine qqno (neT hc17) ?_
  refine qqno (neT hc17) ?_
  refine qqno (neT hc17) ?_
  refine qqno (neT hc17) ?_
  refine qqno (neT hc17) ?_
  refine qqno (neT hc17) ?_
  refine qqno (neT hc17) ?_
  refine qqno (neT hc17) ?_
  refine qq (out:=Pr.bool false) (az hc17) ?_
  exact⟨false,h4l,⟨⟨aa,aa,aa,aa,aa,aa,trivial⟩,Pick.refl _⟩⟩
 refine cd (fun m e C=>∃(x5:Int),∃(x6:List Int),cz (fun s=>lcs_ends_l7 x2 x1 s.1 s.2) m (x5,x6)=some z7l/\At [(0,af (Rp.int .i64) x1),(1,af (Rp.int .i64) x2),(2,Pr.is v3),(8,Pr.i64 x5)] [Own.vec v3 (Rp.int .i64) x6 3] e C) n7 ⟨0,x4,hN7,⟨⟨aa,aa,aa,aa,trivial⟩,Pick.refl _⟩⟩ ?_
 clear hN7
 rintro m e C ⟨x5,x6,hN7,hatl7⟩
 refine W_at hatl7 ?_
 clear hatl7
 obtain⟨m7,w7l,rfl,h7l,hn7,ho7⟩:=ay hN7
 clear hN7
 replace h7l:lcs_ends_l7 x2 x1 x5 x6=some w7l:=h7l
 unfold lcs_ends_l7 at h7l
 refine aw ?_
 refine bg (fun e C=>∃(x12:Bool),lcs_ends_j8 x6 x5 x12=some w7l/\At [(0,af (Rp.int .i64) x1),(1,af (Rp.int .i64) x2),(2,Pr.is v3),(8,Pr.i64 x5),(28,Pr.bool x12)] [Own.vec v3 (Rp.int .i64) x6 3] e C) ?_ ?_
 ·rintro e C ⟨x12,h7l,hat8⟩
  refine W_at hat8 ?_
  clear hat8
  unfold lcs_ends_j8 at h7l
  refine au (b:=x12) rfl (fun hc13=> ?_) (fun hc13=> ?_)
  ·replace h7l:=iteT hc13 h7l
   refine av ?_
   refine ar ?_
   refine W_rs ?_
   refine rq (out:=Pr.is v3) ag ?_
   refine rq (out:=Pr.i64 x5) ag ?_
   refine rq (out:=Pr.i64 x5) ag ?_
   obtain⟨x14,hx14,h7l⟩:=ah h7l
   refine rq (out:=cb v3 (Int.toNat x5 * (Rp.int .i64).size)) (jb 0 (R:=Rp.int .i64) (l:=x6) Tryz.underlying90 Tryz.sizeOf3 hx14) ?_
   refine k5 (R:=Rp.int .i64) (R':=Rp.int .i64) (l:=x6) (a:=x14) (y:=x5) (o:=0) 0 Tryz.sizeOf3 (Upd.refl _) hx14 rfl ?_
   refine W_r ?_
   refine rq (out:=Pr.i64 x5) ag ?_
   refine rq (out:=Pr.i64 (w64 (x5+1))) qInt ?_
   refine rq (out:=Pr.i64 (w64 (x5+1))) ae ?_
   exact⟨m7,Nat.lt_succ_self _,w64 (x5+1),(List.set x6 (Int.toNat x5) x5),hn7 _ (Option.some.inj h7l).symm,⟨⟨aa,aa,aa,aa,trivial⟩,Pick.refl _⟩⟩
  replace h7l:=iteF hc13 h7l
  refine bw ?_
  obtain rfl:=ho7 _ (Option.some.inj h7l).symm
  exact⟨x5,x6,h,⟨⟨aa,aa,aa,aa,trivial⟩,Pick.refl _⟩⟩
 refine ei 18 hmx (by kernel_rfl) (by kernel_rfl) ?_
 refine qq (out:=Pr.i64 x5) ag ?_
 refine qq (out:=af (Rp.int .i64) x1) ag ?_
 refine qq (out:=Pr.i64 (x1.length:Int)) (cl rfl Tryz.underlying90) ?_
 refine qq (out:=af (Rp.int .i64) x2) ag ?_
 refine qq (out:=Pr.i64 (x2.length:Int)) (cl rfl Tryz.underlying90) ?_
 refine qq (out:=Pr.i64 (if(x2.length:Int)<(x1.length:Int)then(x2.length:Int)else(x1.length:Int))) (qMin (a:=(x1.length:Int)) (b:=(x2.length:Int))) ?_
 refine qq (out:=Pr.bool (decide (x5<(if(x2.length:Int)<(x1.length:Int)then(x2.length:Int)else(x1.length:Int))))) qInt ?_
 refine qq (out:=Pr.bool (decide (x5<(if(x2.length:Int)<(x1.length:Int)then(x2.length:Int)else(x1.length:Int))))) ag ?_
 rcases bc h7l with⟨hc9,h7l⟩|⟨hc9,h7l⟩
 ·refine qqg hc9 (out:=af (Rp.int .i64) x1) ag ?_
  refine qqg hc9 (out:=Pr.i64 x5) ag ?_
  obtain⟨x10,hx10,h7l⟩:=ah h7l
  refine qqg hc9 (out:=a5 (Rp.int .i64) x10) (cr (R:=Rp.int .i64) (l:=x1) Tryz.underlying90 Tryz.sizeOf3 hx10) ?_
  refine qqg hc9 (out:=Pr.i64 x10) (bl (R:=Rp.int .i64) (a:=x10) ty3) ?_
  refine qqg hc9 (out:=af (Rp.int .i64) x2) ag ?_
  refine qqg hc9 (out:=Pr.i64 x5) ag ?_
  obtain⟨x11,hx11,h7l⟩:=ah h7l
  refine qqg hc9 (out:=a5 (Rp.int .i64) x11) (cr (R:=Rp.int .i64) (l:=x2) Tryz.underlying90 Tryz.sizeOf3 hx11) ?_
  refine qqg hc9 (out:=Pr.i64 x11) (bl (R:=Rp.int .i64) (a:=x11) ty3) ?_
  refine qqg hc9 (out:=Pr.bool (x10==x11)) qInt ?_
  refine qq (out:=Pr.bool (x10==x11)) (bo hc9) ?_
  exact⟨x10==x11,h7l,⟨⟨aa,aa,aa,aa,aa,trivial⟩,Pick.refl _⟩⟩
 refine qqno (neT hc9) ?_
 refine qqno (neT hc9) ?_
 refine qqno (neT hc9) ?_
 refine qqno (neT hc9) ?_
 refine qqno (neT hc9) ?_
 refine qqno (neT hc9) ?_
 refine qqno (neT hc9) ?_
 refine qqno (neT hc9) ?_
 refine qqno (neT hc9) ?_
 refine qq (out:=Pr.bool false) (az hc9) ?_
 exact⟨false,h7l,⟨⟨aa,aa,aa,aa,aa,trivial⟩,Pick.refl _⟩⟩
theorem lcs_Match_ok (x1 x2:List Int) (r:(List Int)) (h:lcs_Match x1 x2=some r):FnP Tryz.prog 86 [af (Rp.int .i64) x1,af (Rp.int .i64) x2] (af (Rp.int .i64) r):=by
 refine a7 (n:=79) (rs:=[4]) Tryz.func86 rfl Tryz.ntmps86 ⟨by decide,Tryz.results86⟩ (by decide) (fun s0=> ?_)
 unfold lcs_Match at h
 refine W_rs ?_
 refine rq (out:=Pr.is (.slice none 0 0)) ae ?_
 refine W_rs ?_
 refine rq (out:=af (Rp.int .i64) x1) ag ?_
 refine rq (out:=Pr.i64 (x1.length:Int)) (cl rfl Tryz.underlying90) ?_
 obtain⟨x3,hx3,h⟩:=ah h
 refine rCallC [] (lcs_none_ok (x1.length:Int) _ hx3) (fun q C' hq=> ?_)
 obtain⟨v4,rfl,rfl⟩:=hq
 refine rq (out:=Pr.is v4) ae ?_
 refine aw ?_
 refine bg (fun e C=>∃(x6:Bool),oc x1 x2 x3 x6=some r/\At [(0,af (Rp.int .i64) x1),(1,af (Rp.int .i64) x2),(5,Pr.is v4),(19,Pr.bool x6)] [Own.vec v4 (Rp.int .i64) x3 3] e C) ?_ ?_
 ·rintro e C ⟨x6,h,hat6⟩
  refine W_at hat6 ?_
  clear hat6
  unfold oc at h
  refine au (b:=x6) rfl (fun hc7=> ?_) (fun hc7=> ?_)
  ·replace h:=iteT hc7 h
   refine W_rs ?_
   refine rq (out:=af (Rp.int .i64) x1) ag ?_
   refine rq (out:=af (Rp.int .i64) x2) ag ?_
   refine rq (out:=Pr.is v4) ag ?_
   obtain⟨⟨x8,x9,x10⟩,hx8,h⟩:=ah h
   refine rCallC [0] (lcs_ends_ok x1 x2 x3 v4 _ hx8) (fun q C' hq=> ?_)
   obtain⟨rfl,rfl⟩:=hq
   refine W_rs ?_
   refine rq (out:=Pr.is v4) ag ?_
   refine rq (out:=Pr.is v4) ae ?_
   refine W_rel 0 [4] ?_ rfl ⟨rfl,trivial⟩
   obtain rfl:=Option.some.inj h
   exact bb ⟨rfl,aa⟩
  replace h:=iteF hc7 h
  refine av ?_
  refine W_rs ?_
  refine rq (out:=af (Rp.int .i64) x1) ag ?_
  refine rq (out:=af (Rp.int .i64) x2) ag ?_
  obtain⟨x11,hx11,h⟩:=ah h
  refine rq (out:=af (ai (Rp.int .i32)) x11) (br (lcs_left_ok x1 x2 _ hx11)) ?_
  refine rq (out:=af (ai (Rp.int .i32)) x11) ae ?_
  refine aw ?_
  refine W_rs ?_
  refine rq (out:=Pr.i64 0) ae ?_
  refine rq (out:=Pr.i64 0) ae ?_
  refine ar ?_
  obtain⟨z2l,hz2,h⟩:=ah h
  obtain⟨n2,hN2⟩:=a4 hz2
  clear hz2
  refine bp 0 (fun e C=>∃(x14:List Int),lcs_Match_k1 x14=some r/\At [(5,Pr.is v4)] [Own.vec v4 (Rp.int .i64) x14 3] e C) ?_ ?_
  ·rintro e C ⟨x14,h,hat1⟩
   refine W_at hat1 ?_
   clear hat1
   unfold lcs_Match_k1 at h
   refine W_rs ?_
   refine rq (out:=Pr.is v4) ag ?_
   refine rq (out:=Pr.is v4) ae ?_
   refine W_rel 0 [4] ?_ rfl ⟨rfl,trivial⟩
   obtain rfl:=Option.some.inj h
   exact bb ⟨rfl,aa⟩
  refine cd (fun m e C=>∃(x12:Int),∃(x13:Int),∃(x14:List Int),cz (fun s=>fy x1 x2 x11 s.1 s.2.1 s.2.2) m (x12,x13,x14)=some z2l/\At [(0,af (Rp.int .i64) x1),(1,af (Rp.int .i64) x2),(5,Pr.is v4),(6,af (ai (Rp.int .i32)) x11),(7,Pr.i64 x12),(8,Pr.i64 x13)] [Own.vec v4 (Rp.int .i64) x14 3] e C) n2 ⟨0,0,x3,hN2,⟨⟨aa,aa,aa,aa,aa,aa,trivial⟩,Pick.refl _⟩⟩ ?_
  clear hN2
  rintro m e C ⟨x12,x13,x14,hN2,hatl2⟩
  refine W_at hatl2 ?_
  clear hatl2
  obtain⟨m2,w2l,rfl,h2l,hn2,ho2⟩:=ay hN2
  clear hN2
  replace h2l:fy x1 x2 x11 x12 x13 x14=some w2l:=h2l
  unfold fy at h2l
  refine aw ?_
  refine bg (fun e C=>∃(x19:Bool),jj x1 x12 x2 x13 x14 x11 x19=some w2l/\At [(0,af (Rp.int .i64) x1),(1,af (Rp.int .i64) x2),(5,Pr.is v4),(6,af (ai (Rp.int .i32)) x11),(7,Pr.i64 x12),(8,Pr.i64 x13),(37,Pr.bool x19)] [Own.vec v4 (Rp.int .i64) x14 3] e C) ?_ ?_
  ·rintro e C ⟨x19,h2l,hat5⟩
   refine W_at hat5 ?_
   clear hat5
   unfold jj at h2l
   refine au (b:=x19) rfl (fun hc20=> ?_) (fun hc20=> ?_)
   ·replace h2l:=iteT hc20 h2l
    refine av ?_
    refine ar ?_
    refine ar ?_
    refine bg (fun e C=>∃(x21:Int),∃(x22:Int),jk x14 x12 x13 x11 x21 x22=some w2l/\At [(0,af (Rp.int .i64) x1),(1,af (Rp.int .i64) x2),(5,Pr.is v4),(6,af (ai (Rp.int .i32)) x11),(7,Pr.i64 x12),(8,Pr.i64 x13),(40,Pr.bool (x21==x22))] [Own.vec v4 (Rp.int .i64) x14 3] e C) ?_ ?_
    ·rintro e C ⟨x21,x22,h2l,hat4⟩
     refine W_at hat4 ?_
     clear hat4
     unfold jk at h2l
     refine au (b:=x21==x22) rfl (fun hc23=> ?_) (fun hc23=> ?_)
     ·replace h2l:=iteT hc23 h2l
      refine W_rs ?_
      refine rq (out:=Pr.is v4) ag ?_
      refine rq (out:=Pr.i64 x12) ag ?_
      refine rq (out:=Pr.i64 x13) ag ?_
      obtain⟨x24,hx24,h2l⟩:=ah h2l
      refine rq (out:=cb v4 (Int.toNat x12 * (Rp.int .i64).size)) (jb 0 (R:=Rp.int .i64) (l:=x14) Tryz.underlying90 Tryz.sizeOf3 hx24) ?_
      refine k5 (R:=Rp.int .i64) (R':=Rp.int .i64) (l:=x14) (a:=x24) (y:=x13) (o:=0) 0 Tryz.sizeOf3 (Upd.refl _) hx24 rfl ?_
      refine W_r ?_
      refine rq (out:=Pr.i64 x12) ag ?_
      refine rq (out:=Pr.i64 (w64 (x12+1))) qInt ?_
      refine rq (out:=Pr.i64 x13) ag ?_
      refine rq (out:=Pr.i64 (w64 (x13+1))) qInt ?_
      refine rq (out:=Pr.i64 (w64 (x12+1))) ae ?_
      refine rq (out:=Pr.i64 (w64 (x13+1))) ae ?_
      exact⟨m2,Nat.lt_succ_self _,w64 (x12+1),w64 (x13+1),(List.set x14 (Int.toNat x12) x13),hn2 _ (Option.some.inj h2l).symm,⟨⟨aa,aa,aa,aa,aa,aa,trivial⟩,Pick.refl _⟩⟩
     replace h2l:=iteF hc23 h2l
     refine bg (fun e C=>∃(x26:Int),∃(x28:Int),jl x12 x13 x14 x26 x28=some w2l/\At [(0,af (Rp.int .i64) x1),(1,af (Rp.int .i64) x2),(5,Pr.is v4),(6,af (ai (Rp.int .i32)) x11),(7,Pr.i64 x12),(8,Pr.i64 x13),(58,Pr.bool (decide (x26≥x28)))] [Own.vec v4 (Rp.int .i64) x14 3] e C) ?_ ?_
     ·rintro e C ⟨x26,x28,h2l,hat3⟩
      refine W_at hat3 ?_
      clear hat3
      unfold jl at h2l
      refine au (b:=decide (x26≥x28)) rfl (fun hc29=> ?_) (fun hc29=> ?_)
      ·replace h2l:=iteT hc29 h2l
       refine W_r ?_
       refine rq (out:=Pr.i64 x12) ag ?_
       refine rq (out:=Pr.i64 (w64 (x12+1))) qInt ?_
       refine rq (out:=Pr.i64 (w64 (x12+1))) ae ?_
       exact⟨m2,Nat.lt_succ_self _,w64 (x12+1),x13,x14,hn2 _ (Option.some.inj h2l).symm,⟨⟨aa,aa,aa,aa,aa,aa,trivial⟩,Pick.refl _⟩⟩
      replace h2l:=iteF hc29 h2l
      refine W_r ?_
      refine rq (out:=Pr.i64 x13) ag ?_
      refine rq (out:=Pr.i64 (w64 (x13+1))) qInt ?_
      refine rq (out:=Pr.i64 (w64 (x13+1))) ae ?_
      exact⟨m2,Nat.lt_succ_self _,x12,w64 (x13+1),x14,hn2 _ (Option.some.inj h2l).symm,⟨⟨aa,aa,aa,aa,aa,aa,trivial⟩,Pick.refl _⟩⟩
     refine ei 18 hmx (by kernel_rfl) (by kernel_rfl) ?_
     refine qq (out:=af (ai (Rp.int .i32)) x11) ag ?_
     refine qq (out:=Pr.i64 x12) ag ?_
     refine qq (out:=Pr.i64 (w64 (x12+1))) qInt ?_
     obtain⟨x25,hx25,h2l⟩:=ah h2l
     refine qq (out:=a5 (ai (Rp.int .i32)) x25) (cr (R:=ai (Rp.int .i32)) (l:=x11) Tryz.underlying150 Tryz.sizeOf152 hx25) ?_
     refine qq (out:=af (Rp.int .i32) x25) (bl (R:=ai (Rp.int .i32)) (a:=x25) ty152) ?_
     refine qq (out:=Pr.i64 x13) ag ?_
     obtain⟨x26,hx26,h2l⟩:=ah h2l
     refine qq (out:=a5 (Rp.int .i32) x26) (cr (R:=Rp.int .i32) (l:=x25) Tryz.underlying152 Tryz.sizeOf21 hx26) ?_
     refine qq (out:=Pr.int .i32 x26) (bl (R:=Rp.int .i32) (a:=x26) ty21) ?_
     refine qq (out:=af (ai (Rp.int .i32)) x11) ag ?_
     refine qq (out:=Pr.i64 x12) ag ?_
     obtain⟨x27,hx27,h2l⟩:=ah h2l
     refine qq (out:=a5 (ai (Rp.int .i32)) x27) (cr (R:=ai (Rp.int .i32)) (l:=x11) Tryz.underlying150 Tryz.sizeOf152 hx27) ?_
     refine qq (out:=af (Rp.int .i32) x27) (bl (R:=ai (Rp.int .i32)) (a:=x27) ty152) ?_
     refine qq (out:=Pr.i64 x13) ag ?_
     refine qq (out:=Pr.i64 (w64 (x13+1))) qInt ?_
     obtain⟨x28,hx28,h2l⟩:=ah h2l
     refine qq (out:=a5 (Rp.int .i32) x28) (cr (R:=Rp.int .i32) (l:=x27) Tryz.underlying152 Tryz.sizeOf21 hx28) ?_
     refine qq (out:=Pr.int .i32 x28) (bl (R:=Rp.int .i32) (a:=x28) ty21) ?_
     refine qq (out:=Pr.bool (decide (x26≥x28))) qInt ?_
     refine qq (out:=Pr.bool (decide (x26≥x28))) ae ?_
     exact⟨x26,x28,h2l,⟨⟨aa,aa,aa,aa,aa,aa,aa,trivial⟩,Pick.refl _⟩⟩
    refine ei 10 hmx (by kernel_rfl) (by kernel_rfl) ?_
    refine qq (out:=af (Rp.int .i64) x1) ag ?_
    refine qq (out:=Pr.i64 x12) ag ?_
    obtain⟨x21,hx21,h2l⟩:=ah h2l
    refine qq (out:=a5 (Rp.int .i64) x21) (cr (R:=Rp.int .i64) (l:=x1) Tryz.underlying90 Tryz.sizeOf3 hx21) ?_
    refine qq (out:=Pr.i64 x21) (bl (R:=Rp.int .i64) (a:=x21) ty3) ?_
    refine qq (out:=af (Rp.int .i64) x2) ag ?_
    refine qq (out:=Pr.i64 x13) ag ?_
    obtain⟨x22,hx22,h2l⟩:=ah h2l
    refine qq (out:=a5 (Rp.int .i64) x22) (cr (R:=Rp.int .i64) (l:=x2) Tryz.underlying90 Tryz.sizeOf3 hx22) ?_
    refine qq (out:=Pr.i64 x22) (bl (R:=Rp.int .i64) (a:=x22) ty3) ?_
    refine qq (out:=Pr.bool (x21==x22)) qInt ?_
    refine qq (out:=Pr.bool (x21==x22)) ae ?_
    exact⟨x21,x22,h2l,⟨⟨aa,aa,aa,aa,aa,aa,aa,trivial⟩,Pick.refl _⟩⟩
   replace h2l:=iteF hc20 h2l
   refine bw ?_
   obtain rfl:=ho2 _ (Option.some.inj h2l).symm
   exact⟨x14,h,⟨⟨aa,trivial⟩,Pick.refl _⟩⟩
  refine W_r ?_
  refine rq (out:=Pr.i64 x12) ag ?_
  refine rq (out:=af (Rp.int .i64) x1) ag ?_
  refine rq (out:=Pr.i64 (x1.length:Int)) (cl rfl Tryz.underlying90) ?_
  refine rq (out:=Pr.bool (decide (x12<(x1.length:Int)))) qInt ?_
  refine rq (out:=Pr.bool (decide (x12<(x1.length:Int)))) ag ?_
  rcases bc h2l with⟨hc18,h2l⟩|⟨hc18,h2l⟩
  ·refine rqg hc18 (out:=Pr.i64 x13) ag ?_
   refine rqg hc18 (out:=af (Rp.int .i64) x2) ag ?_
   refine rqg hc18 (out:=Pr.i64 (x2.length:Int)) (cl rfl Tryz.underlying90) ?_
   refine rqg hc18 (out:=Pr.bool (decide (x13<(x2.length:Int)))) qInt ?_
   refine rq (out:=Pr.bool (decide (x13<(x2.length:Int)))) (bo hc18) ?_
   exact⟨decide (x13<(x2.length:Int)),h2l,⟨⟨aa,aa,aa,aa,aa,aa,aa,trivial⟩,Pick.refl _⟩⟩
  refine rno (neT hc18) ?_
  refine rno (neT hc18) ?_
  refine rno (neT hc18) ?_
  refine rno (neT hc18) ?_
  refine rq (out:=Pr.bool false) (az hc18) ?_
  exact⟨false,h2l,⟨⟨aa,aa,aa,aa,aa,aa,aa,trivial⟩,Pick.refl _⟩⟩
 refine W_r ?_
 refine rq (out:=af (Rp.int .i64) x1) ag ?_
 refine rq (out:=Pr.i64 (x1.length:Int)) (cl rfl Tryz.underlying90) ?_
 refine rq (out:=Pr.bool (decide ((x1.length:Int)>2000))) qInt ?_
 refine rq (out:=Pr.bool (decide ((x1.length:Int)>2000))) ag ?_
 rcases bc h with⟨hc5,h⟩|⟨hc5,h⟩
 ·refine rno (neF hc5) ?_
  refine rno (neF hc5) ?_
  refine rno (neF hc5) ?_
  refine rq (out:=Pr.bool true) (bo hc5) ?_
  exact⟨true,h,⟨⟨aa,aa,aa,aa,trivial⟩,Pick.refl _⟩⟩
 refine rqg hc5 (out:=af (Rp.int .i64) x2) ag ?_
 refine rqg hc5 (out:=Pr.i64 (x2.length:Int)) (cl rfl Tryz.underlying90) ?_
 refine rqg hc5 (out:=Pr.bool (decide ((x2.length:Int)>2000))) qInt ?_
 refine rq (out:=Pr.bool (decide ((x2.length:Int)>2000))) (az hc5) ?_
 exact⟨decide ((x2.length:Int)>2000),h,⟨⟨aa,aa,aa,aa,trivial⟩,Pick.refl _⟩⟩
theorem diff3_chunks_1_1_ok (x2 x4:Diff3Ends) (x6 x8:List Int) (b1 b3 b5 b7:Nat) (r:Int × Diff3Ends × Diff3Ends × (List Int) × (List Int)) (h:j7 x2 x4 x6 x8=some r):FnC Tryz.prog 87 [ap b1 0,ap b3 0,ap b5 0,ap b7 0] [Own.box b1 am x2,Own.box b3 am x4,Own.box b5 (ai (Rp.int .i64)) x6,Own.box b7 (ai (Rp.int .i64)) x8] (fun q C'=>q=Pr.i64 r.1/\C'=[Own.box b1 am r.2.1,Own.box b3 am r.2.2.1,Own.box b5 (ai (Rp.int .i64)) r.2.2.2.1,Own.box b7 (ai (Rp.int .i64)) r.2.2.2.2]):=by
 refine fj (n:=44) (rs:=[4]) Tryz.func87 rfl Tryz.ntmps87 ⟨by decide,Tryz.results87⟩ (by decide) (fun s0=> ?_)
 unfold j7 at h
 refine W_rs ?_
 refine rq (out:=Pr.i64 0) ae ?_
 refine W_rs ?_
 refine rq (out:=Pr.i64 0) ae ?_
 refine aw ?_
 refine ar ?_
 obtain⟨z2l,hz2,h⟩:=ah h
 obtain⟨n2,hN2⟩:=a4 hz2
 clear hz2
 refine bp 0 (fun e C=>∃(x9:Int),jt x2 x4 x6 x8 x9=some r/\At [(0,ap b1 0),(1,ap b3 0),(2,ap b5 0),(3,ap b7 0),(5,Pr.i64 x9)] [Own.box b1 am x2,Own.box b3 am x4,Own.box b5 (ai (Rp.int .i64)) x6,Own.box b7 (ai (Rp.int .i64)) x8] e C) ?_ ?_
 ·rintro e C ⟨x9,h,hat1⟩
  refine W_at hat1 ?_
  clear hat1
  unfold jt at h
  refine W_rs ?_
  refine rq (out:=Pr.i64 x9) ag ?_
  refine rq (out:=Pr.i64 x9) ae ?_
  obtain rfl:=Option.some.inj h
  exact bb ⟨.inl rfl,_,Pick.refl _,_,(aa),rfl,rfl⟩
 refine cd (fun m e C=>∃(x9:Int),cz (fun s=>c8 x2 x4 x6 x8 s) m x9=some z2l/\At [(0,ap b1 0),(1,ap b3 0),(2,ap b5 0),(3,ap b7 0),(5,Pr.i64 x9)] [Own.box b1 am x2,Own.box b3 am x4,Own.box b5 (ai (Rp.int .i64)) x6,Own.box b7 (ai (Rp.int .i64)) x8] e C) n2 ⟨0,hN2,⟨⟨aa,aa,aa,aa,aa,trivial⟩,Pick.refl _⟩⟩ ?_
 clear hN2
 rintro m e C ⟨x9,hN2,hatl2⟩
 refine W_at hatl2 ?_
 clear hatl2
 obtain⟨m2,w2l,rfl,h2l,hn2,ho2⟩:=ay hN2
 clear hN2
 replace h2l:c8 x2 x4 x6 x8 x9=some w2l:=h2l
 unfold c8 at h2l
 refine aw ?_
 refine bg (fun e C=>∃(x17:Bool),dj x9 x17=some w2l/\At [(0,ap b1 0),(1,ap b3 0),(2,ap b5 0),(3,ap b7 0),(5,Pr.i64 x9),(40,Pr.bool x17)] [Own.box b1 am x2,Own.box b3 am x4,Own.box b5 (ai (Rp.int .i64)) x6,Own.box b7 (ai (Rp.int .i64)) x8] e C) ?_ ?_
 ·rintro e C ⟨x17,h2l,hat3⟩
  refine W_at hat3 ?_
  clear hat3
  unfold dj at h2l
  refine au (b:=x17) rfl (fun hc18=> ?_) (fun hc18=> ?_)
  ·replace h2l:=iteT hc18 h2l
   refine av ?_
   refine ar ?_
   refine W_r ?_
   refine rq (out:=Pr.i64 x9) ag ?_
   refine rq (out:=Pr.i64 (w64 (x9+1))) qInt ?_
   refine rq (out:=Pr.i64 (w64 (x9+1))) ae ?_
   exact⟨m2,Nat.lt_succ_self _,w64 (x9+1),hn2 _ (Option.some.inj h2l).symm,⟨⟨aa,aa,aa,aa,aa,trivial⟩,Pick.refl _⟩⟩
  replace h2l:=iteF hc18 h2l
  refine bw ?_
  obtain rfl:=ho2 _ (Option.some.inj h2l).symm
  exact⟨x9,h,⟨⟨aa,aa,aa,aa,aa,trivial⟩,Pick.refl _⟩⟩
 refine ei 35 hmx (by kernel_rfl) (by kernel_rfl) ?_
 refine qq (out:=ap b1 0) (ax fld117_0) ?_
 refine qq (out:=Pr.i64 x2.o) (a9 (R:=am) (a:=x2) (R':=Rp.int .i64) 0 ty3 d8) ?_
 refine qq (out:=Pr.i64 x9) ag ?_
 refine qq (out:=Pr.i64 (w64 (x2.o+x9))) qInt ?_
 refine qq (out:=ap b3 0) (ax fld117_0) ?_
 refine qq (out:=Pr.i64 x4.o) (a9 (R:=am) (a:=x4) (R':=Rp.int .i64) 1 ty3 d8) ?_
 refine qq (out:=Pr.bool (decide ((w64 (x2.o+x9))<x4.o))) qInt ?_
 refine qq (out:=Pr.bool (decide ((w64 (x2.o+x9))<x4.o))) ag ?_
 rcases bc h2l with⟨hc11,h2l⟩|⟨hc11,h2l⟩
 ·refine qqg hc11 (out:=af (Rp.int .i64) x6) (a9 (R:=ai (Rp.int .i64)) (a:=x6) (R':=ai (Rp.int .i64)) 2 ty90 (Sub.refl _)) ?_
  refine qqg hc11 (out:=ap b1 0) (ax fld117_0) ?_
  refine qqg hc11 (out:=Pr.i64 x2.o) (a9 (R:=am) (a:=x2) (R':=Rp.int .i64) 0 ty3 d8) ?_
  refine qqg hc11 (out:=Pr.i64 x9) ag ?_
  refine qqg hc11 (out:=Pr.i64 (w64 (x2.o+x9))) qInt ?_
  obtain⟨x12,hx12,h2l⟩:=ah h2l
  refine qqg hc11 (out:=a5 (Rp.int .i64) x12) (cr (R:=Rp.int .i64) (l:=x6) Tryz.underlying90 Tryz.sizeOf3 hx12) ?_
  refine qqg hc11 (out:=Pr.i64 x12) (bl (R:=Rp.int .i64) (a:=x12) ty3) ?_
  refine qqg hc11 (out:=ap b1 1) (ax fld117_1) ?_
  refine qqg hc11 (out:=Pr.i64 x2.a) (a9 (R:=am) (a:=x2) (R':=Rp.int .i64) 0 ty3 kg) ?_
  refine qqg hc11 (out:=Pr.i64 x9) ag ?_
  refine qqg hc11 (out:=Pr.i64 (w64 (x2.a+x9))) qInt ?_
  refine qqg hc11 (out:=Pr.bool (x12==(w64 (x2.a+x9)))) qInt ?_
  refine qq (out:=Pr.bool (x12==(w64 (x2.a+x9)))) (bo hc11) ?_
  refine qq (out:=Pr.bool (x12==(w64 (x2.a+x9)))) ag ?_
  rcases bc h2l with⟨hc13,h2l⟩|⟨hc13,h2l⟩
  ·refine qqg hc13 (out:=af (Rp.int .i64) x8) (a9 (R:=ai (Rp.int .i64)) (a:=x8) (R':=ai (Rp.int .i64)) 3 ty90 (Sub.refl _)) ?_
   refine qqg hc13 (out:=ap b1 0) (ax fld117_0) ?_
   refine qqg hc13 (out:=Pr.i64 x2.o) (a9 (R:=am) (a:=x2) (R':=Rp.int .i64) 0 ty3 d8) ?_
   refine qqg hc13 (out:=Pr.i64 x9) ag ?_
   refine qqg hc13 (out:=Pr.i64 (w64 (x2.o+x9))) qInt ?_
   obtain⟨x14,hx14,h2l⟩:=ah h2l
   refine qqg hc13 (out:=a5 (Rp.int .i64) x14) (cr (R:=Rp.int .i64) (l:=x8) Tryz.underlying90 Tryz.sizeOf3 hx14) ?_
   refine qqg hc13 (out:=Pr.i64 x14) (bl (R:=Rp.int .i64) (a:=x14) ty3) ?_
   refine qqg hc13 (out:=ap b1 2) (ax fld117_2) ?_
   refine qqg hc13 (out:=Pr.i64 x2.b) (a9 (R:=am) (a:=x2) (R':=Rp.int .i64) 0 ty3 kf) ?_
   refine qqg hc13 (out:=Pr.i64 x9) ag ?_
   refine qqg hc13 (out:=Pr.i64 (w64 (x2.b+x9))) qInt ?_
   refine qqg hc13 (out:=Pr.bool (x14==(w64 (x2.b+x9)))) qInt ?_
   refine qq (out:=Pr.bool (x14==(w64 (x2.b+x9)))) (bo hc13) ?_
   exact⟨x14==(w64 (x2.b+x9)),h2l,⟨⟨aa,aa,aa,aa,aa,aa,trivial⟩,Pick.refl _⟩⟩
  refine qqno (neT hc13) ?_
  refine qqno (neT hc13) ?_
  refine qqno (neT hc13) ?_
  refine qqno (neT hc13) ?_
  refine qqno (neT hc13) ?_
  refine qqno (neT hc13) ?_
  refine qqno (neT hc13) ?_
  refine qqno (neT hc13) ?_
  refine qqno (neT hc13) ?_
  refine qqno (neT hc13) ?_
  refine qqno (neT hc13) ?_
  refine qqno (neT hc13) ?_
  refine qq (out:=Pr.bool false) (az hc13) ?_
  exact⟨false,h2l,⟨⟨aa,aa,aa,aa,aa,aa,trivial⟩,Pick.refl _⟩⟩
 refine qqno (neT hc11) ?_
 refine qqno (neT hc11) ?_
 refine qqno (neT hc11) ?_
 refine qqno (neT hc11) ?_
 refine qqno (neT hc11) ?_
 refine qqno (neT hc11) ?_
 refine qqno (neT hc11) ?_
 refine qqno (neT hc11) ?_
 refine qqno (neT hc11) ?_
 refine qqno (neT hc11) ?_
 refine qqno (neT hc11) ?_
 refine qqno (neT hc11) ?_
 refine qq (out:=Pr.bool false) (az hc11) ?_
 refine qq (out:=Pr.bool false) ag ?_
 have hc15:false=false:=rfl
 refine qqno (neT hc15) ?_
 refine qqno (neT hc15) ?_
 refine qqno (neT hc15) ?_
 refine qqno (neT hc15) ?_
 refine qqno (neT hc15) ?_
 refine qqno (neT hc15) ?_
 refine qqno (neT hc15) ?_
 refine qqno (neT hc15) ?_
 refine qqno (neT hc15) ?_
 refine qqno (neT hc15) ?_
 refine qqno (neT hc15) ?_
 refine qqno (neT hc15) ?_
 refine qq (out:=Pr.bool false) (az hc15) ?_
 exact⟨false,h2l,⟨⟨aa,aa,aa,aa,aa,aa,trivial⟩,Pick.refl _⟩⟩
theorem diff3_chunks_1_2_ok (x2 x4:Diff3Ends) (x6 x8:List Int) (b1 b3 b5 b7:Nat) (r:Diff3Ends × Diff3Ends × Diff3Ends × (List Int) × (List Int)) (h:j6 x2 x4 x6 x8=some r):FnC Tryz.prog 88 [ap b1 0,ap b3 0,ap b5 0,ap b7 0] [Own.box b1 am x2,Own.box b3 am x4,Own.box b5 (ai (Rp.int .i64)) x6,Own.box b7 (ai (Rp.int .i64)) x8] (fun q C'=>q=(am).val r.1/\C'=[Own.box b1 am r.2.1,Own.box b3 am r.2.2.1,Own.box b5 (ai (Rp.int .i64)) r.2.2.2.1,Own.box b7 (ai (Rp.int .i64)) r.2.2.2.2]):=by
 refine fnc_introR (n:=37) (rs:=[.cell 4 117]) Tryz.func88 rfl Tryz.ntmps88 Tryz.results88 (by decide) (fun s0=> ?_)
 unfold j6 at h
 refine W_rs ?_
 refine ml (R:=am) (z:=(Diff3Ends.mk 0 0 0)) Tryz.zeroValue117 (fun _=>⟨_,⟨_,_,rfl,rfl,⟨_,_,rfl,rfl,⟨_,_,rfl,rfl,rfl⟩⟩⟩,rfl⟩) (fun b9=> ?_)
 refine aw ?_
 refine W_rs ?_
 refine rq (out:=ap b1 0) (ax fld117_0) ?_
 refine rq (out:=Pr.i64 x2.o) (a9 (R:=am) (a:=x2) (R':=Rp.int .i64) 0 ty3 d8) ?_
 refine rq (out:=Pr.i64 x2.o) ae ?_
 refine ar ?_
 obtain⟨z2l,hz2,h⟩:=ah h
 obtain⟨n2,hN2⟩:=a4 hz2
 clear hz2
 refine bp 0 (fun e C=>nz x4 x2 x6 x8=some r/\At [(0,ap b1 0),(1,ap b3 0),(2,ap b5 0),(3,ap b7 0),(4,ap b9 0)] [Own.box b1 am x2,Own.box b3 am x4,Own.box b5 (ai (Rp.int .i64)) x6,Own.box b7 (ai (Rp.int .i64)) x8,Own.box b9 am (Diff3Ends.mk 0 0 0)] e C) ?_ ?_
 ·rintro e C ⟨h,hat1⟩
  refine W_at hat1 ?_
  clear hat1
  unfold nz at h
  refine W_rs ?_
  refine rq (out:=(am).val x4) (a9 (R:=am) (a:=x4) (R':=am) 1 ty117 (Sub.refl _)) ?_
  refine ek (R:=am) (R':=am) (a:=(Diff3Ends.mk 0 0 0)) (y:=x4) 4 Tryz.sizeOf117 (Upd.refl _) ?_
  obtain rfl:=Option.some.inj h
  exact bb ⟨.inl rfl,[(am).val x4],⟨yBox 4 ty117 aa,trivial⟩,_,Pick.of [0,1,2,3] rfl,rfl,rfl⟩
 refine cd (fun m e C=>∃(x10:Int),cz (fun s=>c7 x4 x6 x8 x2 s) m x10=some z2l/\At [(0,ap b1 0),(1,ap b3 0),(2,ap b5 0),(3,ap b7 0),(4,ap b9 0),(5,Pr.i64 x10)] [Own.box b1 am x2,Own.box b3 am x4,Own.box b5 (ai (Rp.int .i64)) x6,Own.box b7 (ai (Rp.int .i64)) x8,Own.box b9 am (Diff3Ends.mk 0 0 0)] e C) n2 ⟨x2.o,hN2,⟨⟨aa,aa,aa,aa,aa,aa,trivial⟩,Pick.refl _⟩⟩ ?_
 clear hN2
 rintro m e C ⟨x10,hN2,hatl2⟩
 refine W_at hatl2 ?_
 clear hatl2
 obtain⟨m2,w2l,rfl,h2l,hn2,ho2⟩:=ay hN2
 clear hN2
 replace h2l:c7 x4 x6 x8 x2 x10=some w2l:=h2l
 unfold c7 at h2l
 refine aw ?_
 refine W_rs ?_
 refine rq (out:=Pr.i64 x10) ag ?_
 refine rq (out:=ap b3 0) (ax fld117_0) ?_
 refine rq (out:=Pr.i64 x4.o) (a9 (R:=am) (a:=x4) (R':=Rp.int .i64) 1 ty3 d8) ?_
 refine rq (out:=Pr.bool (decide (x10<x4.o))) qInt ?_
 refine au (b:=decide (x10<x4.o)) rfl (fun hc12=> ?_) (fun hc12=> ?_)
 ·replace h2l:=iteT hc12 h2l
  refine av ?_
  refine aw ?_
  refine ar ?_
  refine bg (fun e C=>∃(x16:Bool),fo x6 x10 x8 x2 x4 x16=some w2l/\At [(0,ap b1 0),(1,ap b3 0),(2,ap b5 0),(3,ap b7 0),(4,ap b9 0),(5,Pr.i64 x10),(25,Pr.bool x16)] [Own.box b1 am x2,Own.box b3 am x4,Own.box b5 (ai (Rp.int .i64)) x6,Own.box b7 (ai (Rp.int .i64)) x8,Own.box b9 am (Diff3Ends.mk 0 0 0)] e C) ?_ ?_
  ·rintro e C ⟨x16,h2l,hat4⟩
   refine W_at hat4 ?_
   clear hat4
   unfold fo at h2l
   refine au (b:=x16) rfl (fun hc17=> ?_) (fun hc17=> ?_)
   ·replace h2l:=iteT hc17 h2l
    refine bg (fun e C=>∃(x18:Int),∃(x19:Int),js x10 x2 x4 x6 x8 x18 x19=some w2l/\At [(0,ap b1 0),(1,ap b3 0),(2,ap b5 0),(3,ap b7 0),(4,ap b9 0)] [Own.box b1 am x2,Own.box b3 am x4,Own.box b5 (ai (Rp.int .i64)) x6,Own.box b7 (ai (Rp.int .i64)) x8,Own.box b9 am (Diff3Ends.mk x10 x18 x19)] e C) ?_ ?_
    ·rintro e C ⟨x18,x19,h2l,hat3⟩
     refine W_at hat3 ?_
     clear hat3
     unfold js at h2l
     obtain rfl:=ho2 _ (Option.some.inj h2l).symm
     replace h:some ((Diff3Ends.mk x10 x18 x19),x2,x4,x6,x8)=some r:=h
     obtain rfl:=Option.some.inj h
     exact bb ⟨.inl rfl,[(am).val (Diff3Ends.mk x10 x18 x19)],⟨yBox 4 ty117 aa,trivial⟩,_,Pick.of [0,1,2,3] rfl,rfl,rfl⟩
    refine ei 10 hmx (by kernel_rfl) (by kernel_rfl) ?_
    refine qq (out:=Pr.i64 x10) ag ?_
    refine qq (out:=af (Rp.int .i64) x6) (a9 (R:=ai (Rp.int .i64)) (a:=x6) (R':=ai (Rp.int .i64)) 2 ty90 (Sub.refl _)) ?_
    refine qq (out:=Pr.i64 x10) ag ?_
    obtain⟨x18,hx18,h2l⟩:=ah h2l
    refine qq (out:=a5 (Rp.int .i64) x18) (cr (R:=Rp.int .i64) (l:=x6) Tryz.underlying90 Tryz.sizeOf3 hx18) ?_
    refine qq (out:=Pr.i64 x18) (bl (R:=Rp.int .i64) (a:=x18) ty3) ?_
    refine qq (out:=af (Rp.int .i64) x8) (a9 (R:=ai (Rp.int .i64)) (a:=x8) (R':=ai (Rp.int .i64)) 3 ty90 (Sub.refl _)) ?_
    refine qq (out:=Pr.i64 x10) ag ?_
    obtain⟨x19,hx19,h2l⟩:=ah h2l
    refine qq (out:=a5 (Rp.int .i64) x19) (cr (R:=Rp.int .i64) (l:=x8) Tryz.underlying90 Tryz.sizeOf3 hx19) ?_
    refine qq (out:=Pr.i64 x19) (bl (R:=Rp.int .i64) (a:=x19) ty3) ?_
    refine qq (out:=(am).val (Diff3Ends.mk x10 x18 x19)) (ja st117 ⟨(Diff3Ends.mk x10 0 0),⟨_,rfl,rfl,fun j fd hj hf=>by match j,hj with| 0,h=>exact absurd rfl h| 1,_=>cases hf;rfl| 2,_=>cases hf;rfl|_+3,_=>cases hf⟩,⟨(Diff3Ends.mk x10 x18 0),⟨_,rfl,rfl,fun j fd hj hf=>by match j,hj with| 0,_=>cases hf;rfl| 1,h=>exact absurd rfl h| 2,_=>cases hf;rfl|_+3,_=>cases hf⟩,⟨(Diff3Ends.mk x10 x18 x19),⟨_,rfl,rfl,fun j fd hj hf=>by match j,hj with| 0,_=>cases hf;rfl| 1,_=>cases hf;rfl| 2,h=>exact absurd rfl h|_+3,_=>cases hf⟩,rfl⟩⟩⟩) ?_
    refine ek (R:=am) (R':=am) (a:=(Diff3Ends.mk 0 0 0)) (y:=(Diff3Ends.mk x10 x18 x19)) 4 Tryz.sizeOf117 (Upd.refl _) ?_
    exact⟨x18,x19,h2l,⟨⟨aa,aa,aa,aa,aa,trivial⟩,Pick.refl _⟩⟩
   replace h2l:=iteF hc17 h2l
   refine av ?_
   refine W_r ?_
   refine rq (out:=Pr.i64 x10) ag ?_
   refine rq (out:=Pr.i64 (w64 (x10+1))) qInt ?_
   refine rq (out:=Pr.i64 (w64 (x10+1))) ae ?_
   exact⟨m2,Nat.lt_succ_self _,w64 (x10+1),hn2 _ (Option.some.inj h2l).symm,⟨⟨aa,aa,aa,aa,aa,aa,trivial⟩,Pick.refl _⟩⟩
  refine W_r ?_
  refine rq (out:=af (Rp.int .i64) x6) (a9 (R:=ai (Rp.int .i64)) (a:=x6) (R':=ai (Rp.int .i64)) 2 ty90 (Sub.refl _)) ?_
  refine rq (out:=Pr.i64 x10) ag ?_
  obtain⟨x13,hx13,h2l⟩:=ah h2l
  refine rq (out:=a5 (Rp.int .i64) x13) (cr (R:=Rp.int .i64) (l:=x6) Tryz.underlying90 Tryz.sizeOf3 hx13) ?_
  refine rq (out:=Pr.i64 x13) (bl (R:=Rp.int .i64) (a:=x13) ty3) ?_
  refine rq (out:=Pr.bool (decide (x13≥0))) qInt ?_
  refine rq (out:=Pr.bool (decide (x13≥0))) ag ?_
  rcases bc h2l with⟨hc14,h2l⟩|⟨hc14,h2l⟩
  ·refine rqg hc14 (out:=af (Rp.int .i64) x8) (a9 (R:=ai (Rp.int .i64)) (a:=x8) (R':=ai (Rp.int .i64)) 3 ty90 (Sub.refl _)) ?_
   refine rqg hc14 (out:=Pr.i64 x10) ag ?_
   obtain⟨x15,hx15,h2l⟩:=ah h2l
   refine rqg hc14 (out:=a5 (Rp.int .i64) x15) (cr (R:=Rp.int .i64) (l:=x8) Tryz.underlying90 Tryz.sizeOf3 hx15) ?_
   refine rqg hc14 (out:=Pr.i64 x15) (bl (R:=Rp.int .i64) (a:=x15) ty3) ?_
   refine rqg hc14 (out:=Pr.bool (decide (x15≥0))) qInt ?_
   refine rq (out:=Pr.bool (decide (x15≥0))) (bo hc14) ?_
   exact⟨decide (x15≥0),h2l,⟨⟨aa,aa,aa,aa,aa,aa,aa,trivial⟩,Pick.refl _⟩⟩
  refine rno (neT hc14) ?_
  refine rno (neT hc14) ?_
  refine rno (neT hc14) ?_
  refine rno (neT hc14) ?_
  refine rno (neT hc14) ?_
  refine rq (out:=Pr.bool false) (az hc14) ?_
  exact⟨false,h2l,⟨⟨aa,aa,aa,aa,aa,aa,aa,trivial⟩,Pick.refl _⟩⟩
 replace h2l:=iteF hc12 h2l
 refine bw ?_
 obtain rfl:=ho2 _ (Option.some.inj h2l).symm
 exact⟨h,⟨⟨aa,aa,aa,aa,aa,trivial⟩,Pick.refl _⟩⟩
theorem diff3_chunks_1_ok {σ:Type} (yld:σ->(Diff3Ends × Diff3Ends)->Option (Bool × σ)) (Y:YI σ) (l:Nat) (hY:YOK Tryz.prog Y l (fun a=>[(am).val a.1,(am).val a.2]) yld) (x2 x4 x6:List Int) (x7:σ) (b1 b3 b5:Nat) (v8:List Nat) (r:(List Int) × (List Int) × (List Int) × (σ)) (h:diff3_chunks_1 yld x2 x4 x6 x7=some r):FnC Tryz.prog 85 ([]++[Pr.yl l]++[ap b1 0,ap b3 0,ap b5 0]) ([Own.box b1 (ai (Rp.int .i64)) x2,Own.box b3 (ai (Rp.int .i64)) x4,Own.box b5 (ai (Rp.int .i64)) x6]++[Own.grp Y x7 v8]) (fun _ C'=>∃w9,C'=[Own.box b1 (ai (Rp.int .i64)) r.1,Own.box b3 (ai (Rp.int .i64)) r.2.1,Own.box b5 (ai (Rp.int .i64)) r.2.2.1]++[Own.grp Y r.2.2.2 w9]):=by
 refine fj (n:=57) (rs:=[]) Tryz.func85 rfl Tryz.ntmps85 ⟨by decide,Tryz.results85⟩ (by decide) (fun s0=> ?_)
 unfold diff3_chunks_1 at h
 refine bg (fun e C=>∃(x9:List Int),∃(x10:List Int),∃(b11:Nat),∃(b12:Nat),md yld x2 x4 x6 x7 x9 x10=some r/\At [(0,Pr.yl l),(1,ap b1 0),(2,ap b3 0),(3,ap b5 0),(5,ap b11 0),(6,ap b12 0)] [Own.box b1 (ai (Rp.int .i64)) x2,Own.box b3 (ai (Rp.int .i64)) x4,Own.box b5 (ai (Rp.int .i64)) x6,Own.grp Y x7 v8,Own.box b11 (ai (Rp.int .i64)) x9,Own.box b12 (ai (Rp.int .i64)) x10] e C) ?_ ?_
 ·rintro e C ⟨x9,x10,b11,b12,h,hat5⟩
  refine W_at hat5 ?_
  clear hat5
  unfold md at h
  refine bg (fun e C=>∃(b13:Nat),∃(b14:Nat),mf yld x2 x4 x6 x7 x9 x10=some r/\At [(0,Pr.yl l),(1,ap b1 0),(2,ap b3 0),(3,ap b5 0),(5,ap b11 0),(6,ap b12 0),(7,ap b13 0),(8,ap b14 0)] [Own.box b1 (ai (Rp.int .i64)) x2,Own.box b3 (ai (Rp.int .i64)) x4,Own.box b5 (ai (Rp.int .i64)) x6,Own.grp Y x7 v8,Own.box b11 (ai (Rp.int .i64)) x9,Own.box b12 (ai (Rp.int .i64)) x10,Own.box b13 am (Diff3Ends.mk 0 0 0),Own.box b14 am (Diff3Ends.mk (x2.length:Int) (x4.length:Int) (x6.length:Int))] e C) ?_ ?_
  ·rintro e C ⟨b13,b14,h,hat4⟩
   refine W_at hat4 ?_
   clear hat4
   unfold mf at h
   refine W_rs ?_
   refine rq (out:=ej 87 [] [ap b13 0,ap b14 0,ap b11 0,ap b12 0]) gu ?_
   refine rq (out:=ej 87 [] [ap b13 0,ap b14 0,ap b11 0,ap b12 0]) ae ?_
   refine W_rs ?_
   refine rq (out:=ej 88 [] [ap b13 0,ap b14 0,ap b11 0,ap b12 0]) gu ?_
   refine rq (out:=ej 88 [] [ap b13 0,ap b14 0,ap b11 0,ap b12 0]) ae ?_
   refine ar ?_
   obtain⟨z2l,hz2,h⟩:=ah h
   obtain⟨n2,hN2⟩:=a4 hz2
   clear hz2
   refine bp 0 (fun e C=>∃(x15:σ),∃(x17:List Int),∃(x18:List Int),∃(x19:Diff3Ends),∃(x20:Diff3Ends),∃(v16:List Nat),diff3_chunks_1_k1 yld x2 x4 x6 x15 x17 x18 x19 x20=some r/\At [] [Own.box b1 (ai (Rp.int .i64)) x2,Own.box b3 (ai (Rp.int .i64)) x4,Own.box b5 (ai (Rp.int .i64)) x6,Own.grp Y x15 v16,Own.box b11 (ai (Rp.int .i64)) x17,Own.box b12 (ai (Rp.int .i64)) x18,Own.box b13 am x19,Own.box b14 am x20] e C) ?_ ?_
   ·rintro e C ⟨x15,x17,x18,x19,x20,v16,h,hat1⟩
    unfold diff3_chunks_1_k1 at h
    obtain rfl:=Option.some.inj h
    exact⟨.inr rfl,_,(Pick.trans hat1.2 (Pick.of [0,1,2,3] rfl)),_,aa,v16,rfl⟩
   refine cd (fun m e C=>∃(x15:σ),∃(x17:List Int),∃(x18:List Int),∃(x19:Diff3Ends),∃(x20:Diff3Ends),∃(v16:List Nat),cz (fun s=>em yld x2 x4 x6 s.1 s.2.1 s.2.2.1 s.2.2.2.1 s.2.2.2.2) m (x15,x17,x18,x19,x20)=some z2l/\At [(0,Pr.yl l),(1,ap b1 0),(2,ap b3 0),(3,ap b5 0),(7,ap b13 0),(8,ap b14 0),(9,ej 87 [] [ap b13 0,ap b14 0,ap b11 0,ap b12 0]),(10,ej 88 [] [ap b13 0,ap b14 0,ap b11 0,ap b12 0])] [Own.box b1 (ai (Rp.int .i64)) x2,Own.box b3 (ai (Rp.int .i64)) x4,Own.box b5 (ai (Rp.int .i64)) x6,Own.grp Y x15 v16,Own.box b11 (ai (Rp.int .i64)) x17,Own.box b12 (ai (Rp.int .i64)) x18,Own.box b13 am x19,Own.box b14 am x20] e C) n2 ⟨x7,x9,x10,(Diff3Ends.mk 0 0 0),(Diff3Ends.mk (x2.length:Int) (x4.length:Int) (x6.length:Int)),v8,hN2,⟨⟨aa,aa,aa,aa,aa,aa,aa,aa,trivial⟩,Pick.refl _⟩⟩ ?_
   clear hN2
   rintro m e C ⟨x15,x17,x18,x19,x20,v16,hN2,hatl2⟩
   refine W_at hatl2 ?_
   clear hatl2
   obtain⟨m2,w2l,rfl,h2l,hn2,ho2⟩:=ay hN2
   clear hN2
   replace h2l:em yld x2 x4 x6 x15 x17 x18 x19 x20=some w2l:=h2l
   unfold em at h2l
   refine aw ?_
   refine W_rs ?_
   refine rq (out:=(am).val x19) (a9 (R:=am) (a:=x19) (R':=am) 6 ty117 (Sub.refl _)) ?_
   refine rq (out:=(am).val x20) (a9 (R:=am) (a:=x20) (R':=am) 7 ty117 (Sub.refl _)) ?_
   refine rq (out:=Pr.bool (!decide (x19=x20))) (qStNe (a:=x19) (b:=x20) eqDiff3Ends (by decide) rfl eqgDiff3Ends) ?_
   refine au (b:= !decide (x19=x20)) rfl (fun hc27=> ?_) (fun hc27=> ?_)
   ·replace h2l:=iteT hc27 h2l
    refine av ?_
    refine ar ?_
    refine W_rs ?_
    refine rq (out:=ej 88 [] [ap b13 0,ap b14 0,ap b11 0,ap b12 0]) ag ?_
    obtain⟨⟨x28,x29,x30,x31,x32⟩,hx28,h2l⟩:=ah h2l
    refine rCallK [6,7,4,5] (diff3_chunks_1_2_ok x19 x20 x17 x18 b13 b14 b11 b12 _ hx28) (fun q C' hq=> ?_)
    obtain⟨rfl,rfl⟩:=hq
    refine ml (R:=am) (z:=(Diff3Ends.mk 0 0 0)) Tryz.zeroValue117 (fun _=>⟨_,⟨_,_,rfl,rfl,⟨_,_,rfl,rfl,⟨_,_,rfl,rfl,rfl⟩⟩⟩,rfl⟩) (fun b33=> ?_)
    refine ek (R:=am) (R':=am) (a:=(Diff3Ends.mk 0 0 0)) (y:=x28) 8 Tryz.sizeOf117 (Upd.refl _) ?_
    refine bg (fun e C=>∃(x40:Diff3Ends),∃(x35:Diff3Ends),∃(x36:Diff3Ends),∃(x37:List Int),∃(x38:List Int),je yld x15 x2 x4 x6 x40 x35 x36 x37 x38=some w2l/\At [(0,Pr.yl l),(1,ap b1 0),(2,ap b3 0),(3,ap b5 0),(7,ap b13 0),(8,ap b14 0),(9,ej 87 [] [ap b13 0,ap b14 0,ap b11 0,ap b12 0]),(10,ej 88 [] [ap b13 0,ap b14 0,ap b11 0,ap b12 0]),(11,ap b33 0)] [Own.box b13 am x35,Own.box b14 am x36,Own.box b11 (ai (Rp.int .i64)) x37,Own.box b12 (ai (Rp.int .i64)) x38,Own.box b1 (ai (Rp.int .i64)) x2,Own.box b3 (ai (Rp.int .i64)) x4,Own.box b5 (ai (Rp.int .i64)) x6,Own.grp Y x15 v16,Own.box b33 am x40] e C) ?_ ?_
    ·rintro e C ⟨x40,x35,x36,x37,x38,h2l,hat3⟩
     refine W_at hat3 ?_
     clear hat3
     unfold je at h2l
     refine aw ?_
     refine W_rs ?_
     refine rq (out:=Pr.yl l) ag ?_
     refine rq (out:=(am).val x35) (a9 (R:=am) (a:=x35) (R':=am) 0 ty117 (Sub.refl _)) ?_
     refine rq (out:=(am).val x40) (a9 (R:=am) (a:=x40) (R':=am) 8 ty117 (Sub.refl _)) ?_
     obtain⟨⟨x41,x42⟩,hx41,h2l⟩:=ah h2l
     refine rYield 7 (a:=(x35,x40)) hY hx41 (fun v43=> ?_)
     refine rq (out:=Pr.bool (!x41)) qNot ?_
     refine au (b:= !x41) rfl (fun hc44=> ?_) (fun hc44=> ?_)
     ·replace h2l:=iteT hc44 h2l
      obtain rfl:=ho2 _ (Option.some.inj h2l).symm
      replace h:some (x2,x4,x6,x42)=some r:=h
      obtain rfl:=Option.some.inj h
      exact bb ⟨.inl rfl,_,Pick.of [5,6,7,0] rfl,_,aa,v43,rfl⟩
     replace h2l:=iteF hc44 h2l
     refine av ?_
     refine W_r ?_
     refine rq (out:=(am).val x40) (a9 (R:=am) (a:=x40) (R':=am) 8 ty117 (Sub.refl _)) ?_
     refine ek (R:=am) (R':=am) (a:=x35) (y:=x40) 1 Tryz.sizeOf117 (Upd.refl _) ?_
     exact⟨m2,Nat.lt_succ_self _,x42,x37,x38,x40,x36,v43,hn2 _ (Option.some.inj h2l).symm,⟨⟨aa,aa,aa,aa,aa,aa,aa,aa,trivial⟩,Pick.of [5,6,7,0,3,4,1,2] rfl⟩⟩
    refine W_rs ?_
    refine rq (out:=ej 87 [] [ap b13 0,ap b14 0,ap b11 0,ap b12 0]) ag ?_
    obtain⟨⟨x34,x35,x36,x37,x38⟩,hx34,h2l⟩:=ah h2l
    refine rCallK [0,1,2,3] (diff3_chunks_1_1_ok x29 x30 x31 x32 b13 b14 b11 b12 _ hx34) (fun q C' hq=> ?_)
    obtain⟨rfl,rfl⟩:=hq
    refine rq (out:=Pr.i64 x34) ae ?_
    refine W_rs ?_
    refine rq (out:=Pr.i64 x34) ag ?_
    refine rq (out:=Pr.bool (decide (x34>0))) qInt ?_
    refine au (b:=decide (x34>0)) rfl (fun hc39=> ?_) (fun hc39=> ?_)
    ·replace h2l:=iteT hc39 h2l
     refine W_r ?_
     refine rq (out:=ap b13 0) (ax fld117_0) ?_
     refine rq (out:=Pr.i64 x35.o) (a9 (R:=am) (a:=x35) (R':=Rp.int .i64) 0 ty3 d8) ?_
     refine rq (out:=Pr.i64 x34) ag ?_
     refine rq (out:=Pr.i64 (w64 (x35.o+x34))) qInt ?_
     refine rq (out:=ap b13 1) (ax fld117_1) ?_
     refine rq (out:=Pr.i64 x35.a) (a9 (R:=am) (a:=x35) (R':=Rp.int .i64) 0 ty3 kg) ?_
     refine rq (out:=Pr.i64 x34) ag ?_
     refine rq (out:=Pr.i64 (w64 (x35.a+x34))) qInt ?_
     refine rq (out:=ap b13 2) (ax fld117_2) ?_
     refine rq (out:=Pr.i64 x35.b) (a9 (R:=am) (a:=x35) (R':=Rp.int .i64) 0 ty3 kf) ?_
     refine rq (out:=Pr.i64 x34) ag ?_
     refine rq (out:=Pr.i64 (w64 (x35.b+x34))) qInt ?_
     refine rq (out:=(am).val (Diff3Ends.mk (w64 (x35.o+x34)) (w64 (x35.a+x34)) (w64 (x35.b+x34)))) (ja st117 ⟨(Diff3Ends.mk (w64 (x35.o+x34)) 0 0),⟨_,rfl,rfl,fun j fd hj hf=>by match j,hj with| 0,h=>exact absurd rfl h| 1,_=>cases hf;rfl| 2,_=>cases hf;rfl|_+3,_=>cases hf⟩,⟨(Diff3Ends.mk (w64 (x35.o+x34)) (w64 (x35.a+x34)) 0),⟨_,rfl,rfl,fun j fd hj hf=>by match j,hj with| 0,_=>cases hf;rfl| 1,h=>exact absurd rfl h| 2,_=>cases hf;rfl|_+3,_=>cases hf⟩,⟨(Diff3Ends.mk (w64 (x35.o+x34)) (w64 (x35.a+x34)) (w64 (x35.b+x34))),⟨_,rfl,rfl,fun j fd hj hf=>by match j,hj with| 0,_=>cases hf;rfl| 1,_=>cases hf;rfl| 2,h=>exact absurd rfl h|_+3,_=>cases hf⟩,rfl⟩⟩⟩) ?_
     refine ek (R:=am) (R':=am) (a:=x28) (y:=(Diff3Ends.mk (w64 (x35.o+x34)) (w64 (x35.a+x34)) (w64 (x35.b+x34)))) 8 Tryz.sizeOf117 (Upd.refl _) ?_
     exact⟨(Diff3Ends.mk (w64 (x35.o+x34)) (w64 (x35.a+x34)) (w64 (x35.b+x34))),x35,x36,x37,x38,h2l,⟨⟨aa,aa,aa,aa,aa,aa,aa,aa,aa,trivial⟩,Pick.refl _⟩⟩
    replace h2l:=iteF hc39 h2l
    refine av ?_
    exact⟨x28,x35,x36,x37,x38,h2l,⟨⟨aa,aa,aa,aa,aa,aa,aa,aa,aa,trivial⟩,Pick.refl _⟩⟩
   replace h2l:=iteF hc27 h2l
   refine bw ?_
   obtain rfl:=ho2 _ (Option.some.inj h2l).symm
   exact⟨x15,x17,x18,x19,x20,v16,h,⟨trivial,Pick.refl _⟩⟩
  refine W_drawG 2 (fun B S=>[Own.box b1 (ai (Rp.int .i64)) x2,Own.box b3 (ai (Rp.int .i64)) x4,Own.box b5 (ai (Rp.int .i64)) x6,Own.grp Y x7 v8,Own.box b11 (ai (Rp.int .i64)) x9,Own.box b12 (ai (Rp.int .i64)) x10,(cond (S 10) (Own.box (B 8) am (Diff3Ends.mk 0 0 0)) (cond (S 8) (Own.box (B 8) am (Diff3Ends.mk 0 0 0)) Own.nil)),(cond (S 11) (Own.box (B 9) am (Diff3Ends.mk (x2.length:Int) (x4.length:Int) (x6.length:Int))) (cond (S 9) (Own.box (B 9) am (Diff3Ends.mk 0 0 0)) Own.nil))]) (fun B=>[Own.box b1 (ai (Rp.int .i64)) x2,Own.box b3 (ai (Rp.int .i64)) x4,Own.box b5 (ai (Rp.int .i64)) x6,Own.grp Y x7 v8,Own.box b11 (ai (Rp.int .i64)) x9,Own.box b12 (ai (Rp.int .i64)) x10,Own.box (B 8) am (Diff3Ends.mk 0 0 0),Own.box (B 9) am (Diff3Ends.mk (x2.length:Int) (x4.length:Int) (x6.length:Int))]) [(am).val (Diff3Ends.mk 0 0 0),af (Rp.int .i64) x2,Pr.i64 (x2.length:Int),af (Rp.int .i64) x4,Pr.i64 (x4.length:Int),af (Rp.int .i64) x6,Pr.i64 (x6.length:Int),(am).val (Diff3Ends.mk (x2.length:Int) (x4.length:Int) (x6.length:Int)),.any,.any,.any,.any] (fun k=>([0,0,0,0,0,0,0,0,2,2,1,1]:List Nat).getD k 0) hmx (by kernel_rfl) (by kernel_rfl) (fun _=>rfl) (fun B S S' h=>by show([Own.box b1 (ai (Rp.int .i64)) x2,Own.box b3 (ai (Rp.int .i64)) x4,Own.box b5 (ai (Rp.int .i64)) x6,Own.grp Y x7 v8,Own.box b11 (ai (Rp.int .i64)) x9,Own.box b12 (ai (Rp.int .i64)) x10,(cond (S 10) (Own.box (B 8) am (Diff3Ends.mk 0 0 0)) (cond (S 8) (Own.box (B 8) am (Diff3Ends.mk 0 0 0)) Own.nil)),(cond (S 11) (Own.box (B 9) am (Diff3Ends.mk (x2.length:Int) (x4.length:Int) (x6.length:Int))) (cond (S 9) (Own.box (B 9) am (Diff3Ends.mk 0 0 0)) Own.nil))]:Ctx)=[Own.box b1 (ai (Rp.int .i64)) x2,Own.box b3 (ai (Rp.int .i64)) x4,Own.box b5 (ai (Rp.int .i64)) x6,Own.grp Y x7 v8,Own.box b11 (ai (Rp.int .i64)) x9,Own.box b12 (ai (Rp.int .i64)) x10,(cond (S' 10) (Own.box (B 8) am (Diff3Ends.mk 0 0 0)) (cond (S' 8) (Own.box (B 8) am (Diff3Ends.mk 0 0 0)) Own.nil)),(cond (S' 11) (Own.box (B 9) am (Diff3Ends.mk (x2.length:Int) (x4.length:Int) (x6.length:Int))) (cond (S' 9) (Own.box (B 9) am (Diff3Ends.mk 0 0 0)) Own.nil))];simp only[h 8 (Nat.le_of_ble_eq_true (by kernel_rfl)),h 9 (Nat.le_of_ble_eq_true (by kernel_rfl)),h 10 (Nat.le_of_ble_eq_true (by kernel_rfl)),h 11 (Nat.le_of_ble_eq_true (by kernel_rfl))]) (fun _=>rfl) (fun B=> ?_)
  refine gq1 (fun S hK=>(ja st117 rfl)) ?_
  refine gq1 (fun S hK=>(a9 (R:=ai (Rp.int .i64)) (a:=x2) (R':=ai (Rp.int .i64)) 0 ty90 (Sub.refl _) (hi:=rfl))) ?_
  refine gq1 (fun S hK=>(cl rfl Tryz.underlying90)) ?_
  refine gq1 (fun S hK=>(a9 (R:=ai (Rp.int .i64)) (a:=x4) (R':=ai (Rp.int .i64)) 1 ty90 (Sub.refl _) (hi:=rfl))) ?_
  refine gq1 (fun S hK=>(cl rfl Tryz.underlying90)) ?_
  refine gq1 (fun S hK=>(a9 (R:=ai (Rp.int .i64)) (a:=x6) (R':=ai (Rp.int .i64)) 2 ty90 (Sub.refl _) (hi:=rfl))) ?_
  refine gq1 (fun S hK=>(cl rfl Tryz.underlying90)) ?_
  refine gq1 (fun S hK=>(ja st117 ⟨(Diff3Ends.mk (x2.length:Int) 0 0),⟨_,rfl,rfl,fun j fd hj hf=>by match j,hj with| 0,h=>exact absurd rfl h| 1,_=>cases hf;rfl| 2,_=>cases hf;rfl|_+3,_=>cases hf⟩,⟨(Diff3Ends.mk (x2.length:Int) (x4.length:Int) 0),⟨_,rfl,rfl,fun j fd hj hf=>by match j,hj with| 0,_=>cases hf;rfl| 1,h=>exact absurd rfl h| 2,_=>cases hf;rfl|_+3,_=>cases hf⟩,⟨(Diff3Ends.mk (x2.length:Int) (x4.length:Int) (x6.length:Int)),⟨_,rfl,rfl,fun j fd hj hf=>by match j,hj with| 0,_=>cases hf;rfl| 1,_=>cases hf;rfl| 2,h=>exact absurd rfl h|_+3,_=>cases hf⟩,rfl⟩⟩⟩)) ?_
  refine gqA (fun S hK=>⟨fun B' hB=>by show([Own.box b1 (ai (Rp.int .i64)) x2,Own.box b3 (ai (Rp.int .i64)) x4,Own.box b5 (ai (Rp.int .i64)) x6,Own.grp Y x7 v8,Own.box b11 (ai (Rp.int .i64)) x9,Own.box b12 (ai (Rp.int .i64)) x10,(cond (S 10) (Own.box (B' 8) am (Diff3Ends.mk 0 0 0)) (cond (S 8) (Own.box (B' 8) am (Diff3Ends.mk 0 0 0)) Own.nil)),(cond (S 11) (Own.box (B' 9) am (Diff3Ends.mk (x2.length:Int) (x4.length:Int) (x6.length:Int))) (cond (S 9) (Own.box (B' 9) am (Diff3Ends.mk 0 0 0)) Own.nil))]:Ctx)=[Own.box b1 (ai (Rp.int .i64)) x2,Own.box b3 (ai (Rp.int .i64)) x4,Own.box b5 (ai (Rp.int .i64)) x6,Own.grp Y x7 v8,Own.box b11 (ai (Rp.int .i64)) x9,Own.box b12 (ai (Rp.int .i64)) x10,(cond (S 10) (Own.box (B 8) am (Diff3Ends.mk 0 0 0)) (cond (S 8) (Own.box (B 8) am (Diff3Ends.mk 0 0 0)) Own.nil)),(cond (S 11) (Own.box (B 9) am (Diff3Ends.mk (x2.length:Int) (x4.length:Int) (x6.length:Int))) (cond (S 9) (Own.box (B 9) am (Diff3Ends.mk 0 0 0)) Own.nil))];simp only[hK.me,hK.F 10 (by kernel_rfl),hB 9 (by decide),cond_false],fun s ρ hg _=>sAlloc (R:=am) (z:=(Diff3Ends.mk 0 0 0)) 6 Tryz.zeroValue117 (fun _=>⟨_,⟨_,_,rfl,rfl,⟨_,_,rfl,rfl,⟨_,_,rfl,rfl,rfl⟩⟩⟩,rfl⟩) (congrArg some ((condF (hK.F 10 (by kernel_rfl)) _ _).trans (condF (hK.me) _ _))) (fun b=>by show([Own.box b1 (ai (Rp.int .i64)) x2,Own.box b3 (ai (Rp.int .i64)) x4,Own.box b5 (ai (Rp.int .i64)) x6,Own.grp Y x7 v8,Own.box b11 (ai (Rp.int .i64)) x9,Own.box b12 (ai (Rp.int .i64)) x10,(cond (S 10) (Own.box b am (Diff3Ends.mk 0 0 0)) (Own.box b am (Diff3Ends.mk 0 0 0))),(cond (S 11) (Own.box (B 9) am (Diff3Ends.mk (x2.length:Int) (x4.length:Int) (x6.length:Int))) (cond (S 9) (Own.box (B 9) am (Diff3Ends.mk 0 0 0)) Own.nil))]:Ctx)=_;rw[hK.F 10 (by kernel_rfl)];rfl) s ρ hg⟩) ?_
  refine gqA (fun S hK=>⟨fun B' hB=>by show([Own.box b1 (ai (Rp.int .i64)) x2,Own.box b3 (ai (Rp.int .i64)) x4,Own.box b5 (ai (Rp.int .i64)) x6,Own.grp Y x7 v8,Own.box b11 (ai (Rp.int .i64)) x9,Own.box b12 (ai (Rp.int .i64)) x10,(cond (S 10) (Own.box (B' 8) am (Diff3Ends.mk 0 0 0)) (cond (S 8) (Own.box (B' 8) am (Diff3Ends.mk 0 0 0)) Own.nil)),(cond (S 11) (Own.box (B' 9) am (Diff3Ends.mk (x2.length:Int) (x4.length:Int) (x6.length:Int))) (cond (S 9) (Own.box (B' 9) am (Diff3Ends.mk 0 0 0)) Own.nil))]:Ctx)=[Own.box b1 (ai (Rp.int .i64)) x2,Own.box b3 (ai (Rp.int .i64)) x4,Own.box b5 (ai (Rp.int .i64)) x6,Own.grp Y x7 v8,Own.box b11 (ai (Rp.int .i64)) x9,Own.box b12 (ai (Rp.int .i64)) x10,(cond (S 10) (Own.box (B 8) am (Diff3Ends.mk 0 0 0)) (cond (S 8) (Own.box (B 8) am (Diff3Ends.mk 0 0 0)) Own.nil)),(cond (S 11) (Own.box (B 9) am (Diff3Ends.mk (x2.length:Int) (x4.length:Int) (x6.length:Int))) (cond (S 9) (Own.box (B 9) am (Diff3Ends.mk 0 0 0)) Own.nil))];simp only[hK.me,hK.F 11 (by kernel_rfl),hB 8 (by decide),cond_false],fun s ρ hg _=>sAlloc (R:=am) (z:=(Diff3Ends.mk 0 0 0)) 7 Tryz.zeroValue117 (fun _=>⟨_,⟨_,_,rfl,rfl,⟨_,_,rfl,rfl,⟨_,_,rfl,rfl,rfl⟩⟩⟩,rfl⟩) (congrArg some ((condF (hK.F 11 (by kernel_rfl)) _ _).trans (condF (hK.me) _ _))) (fun b=>by show([Own.box b1 (ai (Rp.int .i64)) x2,Own.box b3 (ai (Rp.int .i64)) x4,Own.box b5 (ai (Rp.int .i64)) x6,Own.grp Y x7 v8,Own.box b11 (ai (Rp.int .i64)) x9,Own.box b12 (ai (Rp.int .i64)) x10,(cond (S 10) (Own.box (B 8) am (Diff3Ends.mk 0 0 0)) (cond (S 8) (Own.box (B 8) am (Diff3Ends.mk 0 0 0)) Own.nil)),(cond (S 11) (Own.box b am (Diff3Ends.mk (x2.length:Int) (x4.length:Int) (x6.length:Int))) (Own.box b am (Diff3Ends.mk 0 0 0)))]:Ctx)=_;rw[hK.F 11 (by kernel_rfl)];rfl) s ρ hg⟩) ?_
  refine gqS (fun S hK=>SStep.as (sStore (R:=am) (R':=am) (a:=(Diff3Ends.mk 0 0 0)) (y:=(Diff3Ends.mk 0 0 0)) 6 Tryz.sizeOf117 (Upd.refl _) (congrArg some ((condF (hK.me) _ _).trans (condT (hK.T 8 (by kernel_rfl)) _ _)))) (by show(_:Ctx)=[Own.box b1 (ai (Rp.int .i64)) x2,Own.box b3 (ai (Rp.int .i64)) x4,Own.box b5 (ai (Rp.int .i64)) x6,Own.grp Y x7 v8,Own.box b11 (ai (Rp.int .i64)) x9,Own.box b12 (ai (Rp.int .i64)) x10,Own.box (B 8) am (Diff3Ends.mk 0 0 0),(cond (S 11) (Own.box (B 9) am (Diff3Ends.mk (x2.length:Int) (x4.length:Int) (x6.length:Int))) (cond (S 9) (Own.box (B 9) am (Diff3Ends.mk 0 0 0)) Own.nil))];rfl)) ?_
  refine gqS (fun S hK=>SStep.as (sStore (R:=am) (R':=am) (a:=(Diff3Ends.mk 0 0 0)) (y:=(Diff3Ends.mk (x2.length:Int) (x4.length:Int) (x6.length:Int))) 7 Tryz.sizeOf117 (Upd.refl _) (congrArg some ((condF (hK.me) _ _).trans (condT (hK.T 9 (by kernel_rfl)) _ _)))) (by show(_:Ctx)=[Own.box b1 (ai (Rp.int .i64)) x2,Own.box b3 (ai (Rp.int .i64)) x4,Own.box b5 (ai (Rp.int .i64)) x6,Own.grp Y x7 v8,Own.box b11 (ai (Rp.int .i64)) x9,Own.box b12 (ai (Rp.int .i64)) x10,(cond (S 10) (Own.box (B 8) am (Diff3Ends.mk 0 0 0)) (cond (S 8) (Own.box (B 8) am (Diff3Ends.mk 0 0 0)) Own.nil)),Own.box (B 9) am (Diff3Ends.mk (x2.length:Int) (x4.length:Int) (x6.length:Int))];rfl)) ?_
  exact⟨(B 8),(B 9),h,⟨⟨aa,aa,aa,aa,aa,aa,aa,aa,trivial⟩,Pick.refl _⟩⟩
 obtain⟨x9,hx9,h⟩:=ah h
 obtain⟨x10,hx10,h⟩:=ah h
 refine W_drawG 2 (fun B S=>[Own.box b1 (ai (Rp.int .i64)) x2,Own.box b3 (ai (Rp.int .i64)) x4,Own.box b5 (ai (Rp.int .i64)) x6,Own.grp Y x7 v8,(cond (S 8) (Own.box (B 6) (ai (Rp.int .i64)) x9) (cond (S 6) (Own.box (B 6) (ai (Rp.int .i64)) []) Own.nil)),(cond (S 9) (Own.box (B 7) (ai (Rp.int .i64)) x10) (cond (S 7) (Own.box (B 7) (ai (Rp.int .i64)) []) Own.nil))]) (fun B=>[Own.box b1 (ai (Rp.int .i64)) x2,Own.box b3 (ai (Rp.int .i64)) x4,Own.box b5 (ai (Rp.int .i64)) x6,Own.grp Y x7 v8,Own.box (B 6) (ai (Rp.int .i64)) x9,Own.box (B 7) (ai (Rp.int .i64)) x10]) [af (Rp.int .i64) x2,af (Rp.int .i64) x4,af (Rp.int .i64) x9,af (Rp.int .i64) x2,af (Rp.int .i64) x6,af (Rp.int .i64) x10,.any,.any,.any,.any] (fun k=>([0,0,0,0,0,0,2,2,1,1]:List Nat).getD k 0) hmx (by kernel_rfl) (by kernel_rfl) (fun _=>rfl) (fun B S S' h=>by show([Own.box b1 (ai (Rp.int .i64)) x2,Own.box b3 (ai (Rp.int .i64)) x4,Own.box b5 (ai (Rp.int .i64)) x6,Own.grp Y x7 v8,(cond (S 8) (Own.box (B 6) (ai (Rp.int .i64)) x9) (cond (S 6) (Own.box (B 6) (ai (Rp.int .i64)) []) Own.nil)),(cond (S 9) (Own.box (B 7) (ai (Rp.int .i64)) x10) (cond (S 7) (Own.box (B 7) (ai (Rp.int .i64)) []) Own.nil))]:Ctx)=[Own.box b1 (ai (Rp.int .i64)) x2,Own.box b3 (ai (Rp.int .i64)) x4,Own.box b5 (ai (Rp.int .i64)) x6,Own.grp Y x7 v8,(cond (S' 8) (Own.box (B 6) (ai (Rp.int .i64)) x9) (cond (S' 6) (Own.box (B 6) (ai (Rp.int .i64)) []) Own.nil)),(cond (S' 9) (Own.box (B 7) (ai (Rp.int .i64)) x10) (cond (S' 7) (Own.box (B 7) (ai (Rp.int .i64)) []) Own.nil))];simp only[h 6 (Nat.le_of_ble_eq_true (by kernel_rfl)),h 7 (Nat.le_of_ble_eq_true (by kernel_rfl)),h 8 (Nat.le_of_ble_eq_true (by kernel_rfl)),h 9 (Nat.le_of_ble_eq_true (by kernel_rfl))]) (fun _=>rfl) (fun B=> ?_)
 refine gq1 (fun S hK=>(a9 (R:=ai (Rp.int .i64)) (a:=x2) (R':=ai (Rp.int .i64)) 0 ty90 (Sub.refl _) (hi:=rfl))) ?_
 refine gq1 (fun S hK=>(a9 (R:=ai (Rp.int .i64)) (a:=x4) (R':=ai (Rp.int .i64)) 1 ty90 (Sub.refl _) (hi:=rfl))) ?_
 refine gq1 (fun S hK=>(br (lcs_Match_ok x2 x4 _ hx9))) ?_
 refine gq1 (fun S hK=>(a9 (R:=ai (Rp.int .i64)) (a:=x2) (R':=ai (Rp.int .i64)) 0 ty90 (Sub.refl _) (hi:=rfl))) ?_
 refine gq1 (fun S hK=>(a9 (R:=ai (Rp.int .i64)) (a:=x6) (R':=ai (Rp.int .i64)) 2 ty90 (Sub.refl _) (hi:=rfl))) ?_
 refine gq1 (fun S hK=>(br (lcs_Match_ok x2 x6 _ hx10))) ?_
 refine gqA (fun S hK=>⟨fun B' hB=>by show([Own.box b1 (ai (Rp.int .i64)) x2,Own.box b3 (ai (Rp.int .i64)) x4,Own.box b5 (ai (Rp.int .i64)) x6,Own.grp Y x7 v8,(cond (S 8) (Own.box (B' 6) (ai (Rp.int .i64)) x9) (cond (S 6) (Own.box (B' 6) (ai (Rp.int .i64)) []) Own.nil)),(cond (S 9) (Own.box (B' 7) (ai (Rp.int .i64)) x10) (cond (S 7) (Own.box (B' 7) (ai (Rp.int .i64)) []) Own.nil))]:Ctx)=[Own.box b1 (ai (Rp.int .i64)) x2,Own.box b3 (ai (Rp.int .i64)) x4,Own.box b5 (ai (Rp.int .i64)) x6,Own.grp Y x7 v8,(cond (S 8) (Own.box (B 6) (ai (Rp.int .i64)) x9) (cond (S 6) (Own.box (B 6) (ai (Rp.int .i64)) []) Own.nil)),(cond (S 9) (Own.box (B 7) (ai (Rp.int .i64)) x10) (cond (S 7) (Own.box (B 7) (ai (Rp.int .i64)) []) Own.nil))];simp only[hK.me,hK.F 8 (by kernel_rfl),hB 7 (by decide),cond_false],fun s ρ hg _=>sAlloc (R:=ai (Rp.int .i64)) (z:=[]) 4 Tryz.zeroValue90 (fun _=>⟨none,0,rfl,⟨Nat.le_refl _,fun _=>rfl⟩,.inl rfl⟩) (congrArg some ((condF (hK.F 8 (by kernel_rfl)) _ _).trans (condF (hK.me) _ _))) (fun b=>by show([Own.box b1 (ai (Rp.int .i64)) x2,Own.box b3 (ai (Rp.int .i64)) x4,Own.box b5 (ai (Rp.int .i64)) x6,Own.grp Y x7 v8,(cond (S 8) (Own.box b (ai (Rp.int .i64)) x9) (Own.box b (ai (Rp.int .i64)) [])),(cond (S 9) (Own.box (B 7) (ai (Rp.int .i64)) x10) (cond (S 7) (Own.box (B 7) (ai (Rp.int .i64)) []) Own.nil))]:Ctx)=_;rw[hK.F 8 (by kernel_rfl)];rfl) s ρ hg⟩) ?_
 refine gqA (fun S hK=>⟨fun B' hB=>by show([Own.box b1 (ai (Rp.int .i64)) x2,Own.box b3 (ai (Rp.int .i64)) x4,Own.box b5 (ai (Rp.int .i64)) x6,Own.grp Y x7 v8,(cond (S 8) (Own.box (B' 6) (ai (Rp.int .i64)) x9) (cond (S 6) (Own.box (B' 6) (ai (Rp.int .i64)) []) Own.nil)),(cond (S 9) (Own.box (B' 7) (ai (Rp.int .i64)) x10) (cond (S 7) (Own.box (B' 7) (ai (Rp.int .i64)) []) Own.nil))]:Ctx)=[Own.box b1 (ai (Rp.int .i64)) x2,Own.box b3 (ai (Rp.int .i64)) x4,Own.box b5 (ai (Rp.int .i64)) x6,Own.grp Y x7 v8,(cond (S 8) (Own.box (B 6) (ai (Rp.int .i64)) x9) (cond (S 6) (Own.box (B 6) (ai (Rp.int .i64)) []) Own.nil)),(cond (S 9) (Own.box (B 7) (ai (Rp.int .i64)) x10) (cond (S 7) (Own.box (B 7) (ai (Rp.int .i64)) []) Own.nil))];simp only[hK.me,hK.F 9 (by kernel_rfl),hB 6 (by decide),cond_false],fun s ρ hg _=>sAlloc (R:=ai (Rp.int .i64)) (z:=[]) 5 Tryz.zeroValue90 (fun _=>⟨none,0,rfl,⟨Nat.le_refl _,fun _=>rfl⟩,.inl rfl⟩) (congrArg some ((condF (hK.F 9 (by kernel_rfl)) _ _).trans (condF (hK.me) _ _))) (fun b=>by show([Own.box b1 (ai (Rp.int .i64)) x2,Own.box b3 (ai (Rp.int .i64)) x4,Own.box b5 (ai (Rp.int .i64)) x6,Own.grp Y x7 v8,(cond (S 8) (Own.box (B 6) (ai (Rp.int .i64)) x9) (cond (S 6) (Own.box (B 6) (ai (Rp.int .i64)) []) Own.nil)),(cond (S 9) (Own.box b (ai (Rp.int .i64)) x10) (Own.box b (ai (Rp.int .i64)) []))]:Ctx)=_;rw[hK.F 9 (by kernel_rfl)];rfl) s ρ hg⟩) ?_
 refine gqS (fun S hK=>SStep.as (sStore (R:=ai (Rp.int .i64)) (R':=ai (Rp.int .i64)) (a:=[]) (y:=x9) 4 Tryz.sizeOf90 (Upd.refl _) (congrArg some ((condF (hK.me) _ _).trans (condT (hK.T 6 (by kernel_rfl)) _ _)))) (by show(_:Ctx)=[Own.box b1 (ai (Rp.int .i64)) x2,Own.box b3 (ai (Rp.int .i64)) x4,Own.box b5 (ai (Rp.int .i64)) x6,Own.grp Y x7 v8,Own.box (B 6) (ai (Rp.int .i64)) x9,(cond (S 9) (Own.box (B 7) (ai (Rp.int .i64)) x10) (cond (S 7) (Own.box (B 7) (ai (Rp.int .i64)) []) Own.nil))];rfl)) ?_
 refine gqS (fun S hK=>SStep.as (sStore (R:=ai (Rp.int .i64)) (R':=ai (Rp.int .i64)) (a:=[]) (y:=x10) 5 Tryz.sizeOf90 (Upd.refl _) (congrArg some ((condF (hK.me) _ _).trans (condT (hK.T 7 (by kernel_rfl)) _ _)))) (by show(_:Ctx)=[Own.box b1 (ai (Rp.int .i64)) x2,Own.box b3 (ai (Rp.int .i64)) x4,Own.box b5 (ai (Rp.int .i64)) x6,Own.grp Y x7 v8,(cond (S 8) (Own.box (B 6) (ai (Rp.int .i64)) x9) (cond (S 6) (Own.box (B 6) (ai (Rp.int .i64)) []) Own.nil)),Own.box (B 7) (ai (Rp.int .i64)) x10];rfl)) ?_
 exact⟨x9,x10,(B 6),(B 7),h,⟨⟨aa,aa,aa,aa,aa,aa,trivial⟩,Pick.refl _⟩⟩
theorem diff3_chunks_ok (x1 x2 x3:List Int):FnC Tryz.prog 74 [af (Rp.int .i64) x1,af (Rp.int .i64) x2,af (Rp.int .i64) x3] [] (fun q C'=>∃b4 b5 b6,q=ej 85 [] [ap b4 0,ap b5 0,ap b6 0]/\C'=[Own.box b4 (ai (Rp.int .i64)) x1,Own.box b5 (ai (Rp.int .i64)) x2,Own.box b6 (ai (Rp.int .i64)) x3]):=by
 refine fj (n:=8) (rs:=[6]) Tryz.func74 rfl Tryz.ntmps74 ⟨by decide,Tryz.results74⟩ (by decide) (fun s0=> ?_)
 refine W_rs ?_
 refine rBox (R:=ai (Rp.int .i64)) (a:=x1) rfl (fun b4=> ?_)
 refine rBox (R:=ai (Rp.int .i64)) (a:=x2) rfl (fun b5=> ?_)
 refine rBox (R:=ai (Rp.int .i64)) (a:=x3) rfl (fun b6=> ?_)
 refine rq (out:=Pr.is .nilFunc) ae ?_
 refine W_rs ?_
 refine rq (out:=ej 85 [] [ap b4 0,ap b5 0,ap b6 0]) gu ?_
 refine rq (out:=ej 85 [] [ap b4 0,ap b5 0,ap b6 0]) ae ?_
 exact bb ⟨.inl rfl,_,Pick.refl _,_,aa,b4,b5,b6,rfl,rfl⟩
theorem ju (x1 x2:List Int) (r:Bool) (h:dz x1 x2=some r):FnP Tryz.prog 89 [af (Rp.int .i64) x1,af (Rp.int .i64) x2] (Pr.bool r):=by
 refine a7 (n:=26) (rs:=[4]) Tryz.func89 rfl Tryz.ntmps89 ⟨by decide,Tryz.results89⟩ (by decide) (fun s0=> ?_)
 unfold dz at h
 refine W_rs ?_
 refine rq (out:=Pr.bool false) ae ?_
 refine aw ?_
 refine W_rs ?_
 refine rq (out:=af (Rp.int .i64) x1) ag ?_
 refine rq (out:=Pr.i64 (x1.length:Int)) (cl rfl Tryz.underlying90) ?_
 refine rq (out:=af (Rp.int .i64) x2) ag ?_
 refine rq (out:=Pr.i64 (x2.length:Int)) (cl rfl Tryz.underlying90) ?_
 refine rq (out:=Pr.bool ((x1.length:Int) != (x2.length:Int))) qInt ?_
 refine au (b:=(x1.length:Int) != (x2.length:Int)) rfl (fun hc3=> ?_) (fun hc3=> ?_)
 ·replace h:=iteT hc3 h
  refine W_rs ?_
  refine rq (out:=Pr.bool false) ae ?_
  obtain rfl:=Option.some.inj h
  exact bb ⟨rfl,aa⟩
 replace h:=iteF hc3 h
 refine av ?_
 refine aw ?_
 refine W_rs ?_
 refine rq (out:=af (Rp.int .i64) x1) ag ?_
 refine rq (out:=Pr.i64 (x1.length:Int)) (cl rfl Tryz.underlying90) ?_
 refine rq (out:=Pr.i64 0) ag ?_
 refine ar ?_
 obtain⟨z2l,hz2,h⟩:=ah h
 obtain⟨n2,hN2⟩:=a4 hz2
 clear hz2
 refine bp 0 (fun e C=>gk=some r/\At [] [] e C) ?_ ?_
 ·rintro e C ⟨h,hat1⟩
  refine W_at hat1 ?_
  clear hat1
  unfold gk at h
  refine W_rs ?_
  refine rq (out:=Pr.bool true) ae ?_
  obtain rfl:=Option.some.inj h
  exact bb ⟨rfl,aa⟩
 refine cd (fun m e C=>∃(x4:Int),cz (fun s=>cn x1 x2 s) m x4=some z2l/\At [(0,af (Rp.int .i64) x1),(1,af (Rp.int .i64) x2),(12,Pr.i64 (x1.length:Int)),(13,Pr.i64 x4)] [] e C) n2 ⟨0,hN2,⟨⟨aa,aa,aa,aa,trivial⟩,Pick.refl _⟩⟩ ?_
 clear hN2
 rintro m e C ⟨x4,hN2,hatl2⟩
 refine W_at hatl2 ?_
 clear hatl2
 obtain⟨m2,w2l,rfl,h2l,hn2,ho2⟩:=ay hN2
 clear hN2
 replace h2l:cn x1 x2 x4=some w2l:=h2l
 unfold cn at h2l
 refine W_rs ?_
 refine rq (out:=Pr.bool (decide (x4<(x1.length:Int)))) qInt ?_
 refine aw ?_
 refine au (b:=decide (x4<(x1.length:Int))) rfl (fun hc6=> ?_) (fun hc6=> ?_)
 ·replace h2l:=iteT hc6 h2l
  refine av ?_
  refine aw ?_
  refine ar ?_
  refine W_rs ?_
  refine rq (out:=Pr.i64 x4) ag ?_
  refine rq (out:=Pr.i64 x4) ae ?_
  refine bg (fun e C=>∃(x7:Int),∃(x8:Int),e6 x4 x7 x8=some w2l/\At [(0,af (Rp.int .i64) x1),(1,af (Rp.int .i64) x2),(12,Pr.i64 (x1.length:Int)),(13,Pr.i64 x4),(24,Pr.bool (x7 != x8))] [] e C) ?_ ?_
  ·rintro e C ⟨x7,x8,h2l,hat3⟩
   refine W_at hat3 ?_
   clear hat3
   unfold e6 at h2l
   refine au (b:=x7 != x8) rfl (fun hc9=> ?_) (fun hc9=> ?_)
   ·replace h2l:=iteT hc9 h2l
    refine W_rs ?_
    refine rq (out:=Pr.bool false) ae ?_
    obtain rfl:=ho2 _ (Option.some.inj h2l).symm
    replace h:some false=some r:=h
    obtain rfl:=Option.some.inj h
    exact bb ⟨rfl,aa⟩
   replace h2l:=iteF hc9 h2l
   refine av ?_
   refine W_r ?_
   refine rq (out:=Pr.i64 (w64 (x4+1))) qInt ?_
   refine rq (out:=Pr.i64 (w64 (x4+1))) ag ?_
   exact⟨m2,Nat.lt_succ_self _,w64 (x4+1),hn2 _ (Option.some.inj h2l).symm,⟨⟨aa,aa,aa,aa,trivial⟩,Pick.refl _⟩⟩
  refine ei 9 hmx (by kernel_rfl) (by kernel_rfl) ?_
  refine qq (out:=af (Rp.int .i64) x1) ag ?_
  refine qq (out:=Pr.i64 x4) ag ?_
  obtain⟨x7,hx7,h2l⟩:=ah h2l
  refine qq (out:=a5 (Rp.int .i64) x7) (cr (R:=Rp.int .i64) (l:=x1) Tryz.underlying90 Tryz.sizeOf3 hx7) ?_
  refine qq (out:=Pr.i64 x7) (bl (R:=Rp.int .i64) (a:=x7) ty3) ?_
  refine qq (out:=af (Rp.int .i64) x2) ag ?_
  refine qq (out:=Pr.i64 x4) ag ?_
  obtain⟨x8,hx8,h2l⟩:=ah h2l
  refine qq (out:=a5 (Rp.int .i64) x8) (cr (R:=Rp.int .i64) (l:=x2) Tryz.underlying90 Tryz.sizeOf3 hx8) ?_
  refine qq (out:=Pr.i64 x8) (bl (R:=Rp.int .i64) (a:=x8) ty3) ?_
  refine qq (out:=Pr.bool (x7 != x8)) qInt ?_
  exact⟨x7,x8,h2l,⟨⟨aa,aa,aa,aa,aa,trivial⟩,Pick.refl _⟩⟩
 replace h2l:=iteF hc6 h2l
 refine bw ?_
 obtain rfl:=ho2 _ (Option.some.inj h2l).symm
 exact⟨h,⟨trivial,Pick.refl _⟩⟩
theorem diff3_kind_ok (x1 x2 x3:List Int) (r:Int) (h:diff3_kind x1 x2 x3=some r):FnP Tryz.prog 75 [af (Rp.int .i64) x1,af (Rp.int .i64) x2,af (Rp.int .i64) x3] (Pr.i64 r):=by
 refine a7 (n:=36) (rs:=[6]) Tryz.func75 rfl Tryz.ntmps75 ⟨by decide,Tryz.results75⟩ (by decide) (fun s0=> ?_)
 unfold diff3_kind at h
 refine W_rs ?_
 refine rq (out:=Pr.i64 0) ae ?_
 refine W_rs ?_
 refine rq (out:=af (Rp.int .i64) x1) ag ?_
 refine rq (out:=af (Rp.int .i64) x2) ag ?_
 obtain⟨x4,hx4,h⟩:=ah h
 refine rq (out:=Pr.bool x4) (br (ju x1 x2 _ hx4)) ?_
 refine rq (out:=Pr.bool (!x4)) qNot ?_
 refine rq (out:=af (Rp.int .i64) x1) ag ?_
 refine rq (out:=af (Rp.int .i64) x3) ag ?_
 obtain⟨x5,hx5,h⟩:=ah h
 refine rq (out:=Pr.bool x5) (br (ju x1 x3 _ hx5)) ?_
 refine rq (out:=Pr.bool (!x5)) qNot ?_
 refine rq (out:=Pr.bool (!x4)) ae ?_
 refine rq (out:=Pr.bool (!x5)) ae ?_
 refine aw ?_
 refine ar ?_
 refine bg (fun e C=>∃(x11:Bool),l9 x4 x5 x11=some r/\At [(7,Pr.bool (!x4)),(8,Pr.bool (!x5)),(17,Pr.bool x11)] [] e C) ?_ ?_
 ·rintro e C ⟨x11,h,hat2⟩
  refine W_at hat2 ?_
  clear hat2
  unfold l9 at h
  refine au (b:=x11) rfl (fun hc12=> ?_) (fun hc12=> ?_)
  ·replace h:=iteT hc12 h
   refine W_rs ?_
   refine rq (out:=Pr.i64 3) ae ?_
   obtain rfl:=Option.some.inj h
   exact bb ⟨rfl,aa⟩
  replace h:=iteF hc12 h
  refine bg (fun e C=>∃(x14:Bool),diff3_kind_j1 x4 x5 x14=some r/\At [(7,Pr.bool (!x4)),(8,Pr.bool (!x5)),(27,Pr.bool x14)] [] e C) ?_ ?_
  ·rintro e C ⟨x14,h,hat1⟩
   refine W_at hat1 ?_
   clear hat1
   unfold diff3_kind_j1 at h
   refine au (b:=x14) rfl (fun hc15=> ?_) (fun hc15=> ?_)
   ·replace h:=iteT hc15 h
    refine W_rs ?_
    refine rq (out:=Pr.i64 4) ae ?_
    obtain rfl:=Option.some.inj h
    exact bb ⟨rfl,aa⟩
   replace h:=iteF hc15 h
   refine W_rs ?_
   refine rq (out:=Pr.bool (!x4)) ag ?_
   refine rq (out:=Pr.bool (!x4)) ae ?_
   refine au (b:= !x4) rfl (fun hc16=> ?_) (fun hc16=> ?_)
   ·replace h:=iteT hc16 h
    refine W_rs ?_
    refine rq (out:=Pr.i64 1) ae ?_
    obtain rfl:=Option.some.inj h
    exact bb ⟨rfl,aa⟩
   replace h:=iteF hc16 h
   refine W_rs ?_
   refine rq (out:=Pr.bool (!x5)) ag ?_
   refine rq (out:=Pr.bool (!x5)) ae ?_
   refine au (b:= !x5) rfl (fun hc17=> ?_) (fun hc17=> ?_)
   ·replace h:=iteT hc17 h
    refine W_rs ?_
    refine rq (out:=Pr.i64 2) ae ?_
    obtain rfl:=Option.some.inj h
    exact bb ⟨rfl,aa⟩
   replace h:=iteF hc17 h
   refine av ?_
   refine W_rs ?_
   refine rq (out:=Pr.i64 0) ae ?_
   obtain rfl:=Option.some.inj h
   exact bb ⟨rfl,aa⟩
  refine W_r ?_
  refine rq (out:=Pr.bool (!x4)) ag ?_
  refine rq (out:=Pr.bool (!x4)) ag ?_
  rcases bc h with⟨hc13,h⟩|⟨hc13,h⟩
  ·refine rqg hc13 (out:=Pr.bool (!x5)) ag ?_
   refine rq (out:=Pr.bool (!x5)) (bo hc13) ?_
   refine rq (out:=Pr.bool (!x5)) ae ?_
   exact⟨!x5,h,⟨⟨aa,aa,aa,trivial⟩,Pick.refl _⟩⟩
  refine rno (neT hc13) ?_
  refine rq (out:=Pr.bool false) (az hc13) ?_
  refine rq (out:=Pr.bool false) ae ?_
  exact⟨false,h,⟨⟨aa,aa,aa,trivial⟩,Pick.refl _⟩⟩
 refine W_r ?_
 refine rq (out:=Pr.bool (!x4)) ag ?_
 refine rq (out:=Pr.bool (!x4)) ag ?_
 rcases bc h with⟨hc6,h⟩|⟨hc6,h⟩
 ·refine rqg hc6 (out:=Pr.bool (!x5)) ag ?_
  refine rq (out:=Pr.bool (!x5)) (bo hc6) ?_
  refine rq (out:=Pr.bool (!x5)) ag ?_
  rcases bc h with⟨hc7,h⟩|⟨hc7,h⟩
  ·refine rqg hc7 (out:=af (Rp.int .i64) x2) ag ?_
   refine rqg hc7 (out:=af (Rp.int .i64) x3) ag ?_
   obtain⟨x8,hx8,h⟩:=ah h
   refine rqg hc7 (out:=Pr.bool x8) (br (ju x2 x3 _ hx8)) ?_
   refine rq (out:=Pr.bool x8) (bo hc7) ?_
   refine rq (out:=Pr.bool x8) ae ?_
   exact⟨x8,h,⟨⟨aa,aa,aa,trivial⟩,Pick.refl _⟩⟩
  refine rno (neT hc7) ?_
  refine rno (neT hc7) ?_
  refine rno (neT hc7) ?_
  refine rq (out:=Pr.bool false) (az hc7) ?_
  refine rq (out:=Pr.bool false) ae ?_
  exact⟨false,h,⟨⟨aa,aa,aa,trivial⟩,Pick.refl _⟩⟩
 refine rno (neT hc6) ?_
 refine rq (out:=Pr.bool false) (az hc6) ?_
 refine rq (out:=Pr.bool false) ag ?_
 have hc9:false=false:=rfl
 refine rno (neT hc9) ?_
 refine rno (neT hc9) ?_
 refine rno (neT hc9) ?_
 refine rq (out:=Pr.bool false) (az hc9) ?_
 refine rq (out:=Pr.bool false) ae ?_
 exact⟨false,h,⟨⟨aa,aa,aa,trivial⟩,Pick.refl _⟩⟩
theorem diff3_Chunks_ok (x1 x2 x3:List Int) (r:(List ApiChunk)) (h:diff3_Chunks x1 x2 x3=some r):FnP Tryz.prog 65 [af (Rp.int .i64) x1,af (Rp.int .i64) x2,af (Rp.int .i64) x3] (af ao r):=by
 refine a7 (n:=55) (rs:=[6]) Tryz.func65 rfl Tryz.ntmps65 ⟨by decide,Tryz.results65⟩ (by decide) (fun s0=> ?_)
 unfold diff3_Chunks at h
 refine W_rs ?_
 refine rBox (R:=ai (Rp.int .i64)) (a:=x1) rfl (fun b4=> ?_)
 refine rBox (R:=ai (Rp.int .i64)) (a:=x2) rfl (fun b5=> ?_)
 refine rBox (R:=ai (Rp.int .i64)) (a:=x3) rfl (fun b6=> ?_)
 refine rq (out:=Pr.is (.slice none 0 0)) ae ?_
 refine W_rs ?_
 refine rAllocC Tryz.zeroValue66 rfl rfl (fun b7=> ?_)
 refine W_rs2 ?_
 refine W_r ?_
 refine rq (out:=af (Rp.int .i64) x1) (a9 (R:=ai (Rp.int .i64)) (a:=x1) (R':=ai (Rp.int .i64)) 0 ty90 (Sub.refl _)) ?_
 refine rq (out:=af (Rp.int .i64) x2) (a9 (R:=ai (Rp.int .i64)) (a:=x2) (R':=ai (Rp.int .i64)) 1 ty90 (Sub.refl _)) ?_
 refine rq (out:=af (Rp.int .i64) x3) (a9 (R:=ai (Rp.int .i64)) (a:=x3) (R':=ai (Rp.int .i64)) 2 ty90 (Sub.refl _)) ?_
 refine rCallC [] (diff3_chunks_ok x1 x2 x3) (fun q C' hq=> ?_)
 obtain⟨b8,b9,b10,rfl,rfl⟩:=hq
 refine⟨rfl,?_⟩
 obtain⟨⟨x25,x26,x27,x28⟩,hx29,h⟩:=ah h
 refine WR_vec ao 71 ?_
 refine W_range [0,1,2] (fun(s:(List ApiChunk)) C=>∃(v13:Value),C=[Own.box b4 (ai (Rp.int .i64)) x1,Own.box b5 (ai (Rp.int .i64)) x2,Own.box b6 (ai (Rp.int .i64)) x3,Own.cell b7 (Pr.is v13),Own.vec v13 ao s 71]) (encs:=(fun(a:Diff3Ends × Diff3Ends)=>[(am).val a.1,(am).val a.2])) (yld:=(fun(s:(List ApiChunk)) (a:Diff3Ends × Diff3Ends)=>jd x1 x2 x3 s a.1 a.2)) (st0:=[]) (stF:=x28) (Ccap':=[Own.box b8 (ai (Rp.int .i64)) x25,Own.box b9 (ai (Rp.int .i64)) x26,Own.box b10 (ai (Rp.int .i64)) x27]) (fun l Y L hY=>diff3_chunks_1_ok _ Y l hY x1 x2 x3 [] b8 b9 b10 L _ hx29) ⟨(.slice none 0 0),rfl⟩ (fun _=>rfl) ?_ ?_ (fun _ _ _ h=>h.1)
 ·rintro l x14 ⟨x11,x12⟩ ⟨rb1,rs1⟩ C T s0 ⟨v13,rfl⟩ hy1
  replace hy1:jd x1 x2 x3 x14 x11 x12=some (rb1,rs1):=hy1
  unfold jd at hy1
  refine W_rs ?_
  refine ml (R:=am) (z:=(Diff3Ends.mk 0 0 0)) Tryz.zeroValue117 (fun _=>⟨_,⟨_,_,rfl,rfl,⟨_,_,rfl,rfl,⟨_,_,rfl,rfl,rfl⟩⟩⟩,rfl⟩) (fun b17=> ?_)
  refine ek (R:=am) (R':=am) (a:=(Diff3Ends.mk 0 0 0)) (y:=x11) 5 Tryz.sizeOf117 (Upd.refl _) ?_
  refine W_r ?_
  refine ml (R:=am) (z:=(Diff3Ends.mk 0 0 0)) Tryz.zeroValue117 (fun _=>⟨_,⟨_,_,rfl,rfl,⟨_,_,rfl,rfl,⟨_,_,rfl,rfl,rfl⟩⟩⟩,rfl⟩) (fun b18=> ?_)
  refine ek (R:=am) (R':=am) (a:=(Diff3Ends.mk 0 0 0)) (y:=x12) 6 Tryz.sizeOf117 (Upd.refl _) ?_
  refine⟨rfl,fun T s0=> ?_⟩
  refine W_pickK ?_
  refine ar ?_
  refine ei 37 hmx (by kernel_rfl) (by kernel_rfl) ?_
  refine qq (out:=Pr.is v13) (qLoadP 3 Tryz.isAgg66) ?_
  refine qq (out:=af (Rp.int .i64) x1) (a9 (R:=ai (Rp.int .i64)) (a:=x1) (R':=ai (Rp.int .i64)) 0 ty90 (Sub.refl _)) ?_
  refine qq (out:=ap b17 0) (ax fld117_0) ?_
  refine qq (out:=Pr.i64 x11.o) (a9 (R:=am) (a:=x11) (R':=Rp.int .i64) 5 ty3 d8) ?_
  refine qq (out:=ap b18 0) (ax fld117_0) ?_
  refine qq (out:=Pr.i64 x12.o) (a9 (R:=am) (a:=x12) (R':=Rp.int .i64) 6 ty3 d8) ?_
  obtain⟨x19,hx19,hy1⟩:=ah hy1
  refine qq (out:=af (Rp.int .i64) x19) (k6 Tryz.underlying90 Tryz.sizeOf3 hx19) ?_
  refine qq (out:=af (Rp.int .i64) x2) (a9 (R:=ai (Rp.int .i64)) (a:=x2) (R':=ai (Rp.int .i64)) 1 ty90 (Sub.refl _)) ?_
  refine qq (out:=ap b17 1) (ax fld117_1) ?_
  refine qq (out:=Pr.i64 x11.a) (a9 (R:=am) (a:=x11) (R':=Rp.int .i64) 5 ty3 kg) ?_
  refine qq (out:=ap b18 1) (ax fld117_1) ?_
  refine qq (out:=Pr.i64 x12.a) (a9 (R:=am) (a:=x12) (R':=Rp.int .i64) 6 ty3 kg) ?_
  obtain⟨x20,hx20,hy1⟩:=ah hy1
  refine qq (out:=af (Rp.int .i64) x20) (k6 Tryz.underlying90 Tryz.sizeOf3 hx20) ?_
  refine qq (out:=af (Rp.int .i64) x3) (a9 (R:=ai (Rp.int .i64)) (a:=x3) (R':=ai (Rp.int .i64)) 2 ty90 (Sub.refl _)) ?_
  refine qq (out:=ap b17 2) (ax fld117_2) ?_
  refine qq (out:=Pr.i64 x11.b) (a9 (R:=am) (a:=x11) (R':=Rp.int .i64) 5 ty3 kf) ?_
  refine qq (out:=ap b18 2) (ax fld117_2) ?_
  refine qq (out:=Pr.i64 x12.b) (a9 (R:=am) (a:=x12) (R':=Rp.int .i64) 6 ty3 kf) ?_
  obtain⟨x21,hx21,hy1⟩:=ah hy1
  refine qq (out:=af (Rp.int .i64) x21) (k6 Tryz.underlying90 Tryz.sizeOf3 hx21) ?_
  obtain⟨x22,hx22,hy1⟩:=ah hy1
  refine qq (out:=Pr.i64 x22) (br (diff3_kind_ok x19 x20 x21 _ hx22)) ?_
  refine qq (out:=ap b17 0) (ax fld117_0) ?_
  refine qq (out:=Pr.i64 x11.o) (a9 (R:=am) (a:=x11) (R':=Rp.int .i64) 5 ty3 d8) ?_
  refine qq (out:=ap b18 0) (ax fld117_0) ?_
  refine qq (out:=Pr.i64 x12.o) (a9 (R:=am) (a:=x12) (R':=Rp.int .i64) 6 ty3 d8) ?_
  refine qq (out:=(k8).val (ApiSpan.mk x11.o x12.o)) (ja st69 ⟨(ApiSpan.mk x11.o 0),⟨_,rfl,rfl,fun j fd hj hf=>by match j,hj with| 0,h=>exact absurd rfl h| 1,_=>cases hf;rfl|_+2,_=>cases hf⟩,⟨(ApiSpan.mk x11.o x12.o),⟨_,rfl,rfl,fun j fd hj hf=>by match j,hj with| 0,_=>cases hf;rfl| 1,h=>exact absurd rfl h|_+2,_=>cases hf⟩,rfl⟩⟩) ?_
  refine qq (out:=ap b17 1) (ax fld117_1) ?_
  refine qq (out:=Pr.i64 x11.a) (a9 (R:=am) (a:=x11) (R':=Rp.int .i64) 5 ty3 kg) ?_
  refine qq (out:=ap b18 1) (ax fld117_1) ?_
  refine qq (out:=Pr.i64 x12.a) (a9 (R:=am) (a:=x12) (R':=Rp.int .i64) 6 ty3 kg) ?_
  refine qq (out:=(k8).val (ApiSpan.mk x11.a x12.a)) (ja st69 ⟨(ApiSpan.mk x11.a 0),⟨_,rfl,rfl,fun j fd hj hf=>by match j,hj with| 0,h=>exact absurd rfl h| 1,_=>cases hf;rfl|_+2,_=>cases hf⟩,⟨(ApiSpan.mk x11.a x12.a),⟨_,rfl,rfl,fun j fd hj hf=>by match j,hj with| 0,_=>cases hf;rfl| 1,h=>exact absurd rfl h|_+2,_=>cases hf⟩,rfl⟩⟩) ?_
  refine qq (out:=ap b17 2) (ax fld117_2) ?_
  refine qq (out:=Pr.i64 x11.b) (a9 (R:=am) (a:=x11) (R':=Rp.int .i64) 5 ty3 kf) ?_
  refine qq (out:=ap b18 2) (ax fld117_2) ?_
  refine qq (out:=Pr.i64 x12.b) (a9 (R:=am) (a:=x12) (R':=Rp.int .i64) 6 ty3 kf) ?_
  refine qq (out:=(k8).val (ApiSpan.mk x11.b x12.b)) (ja st69 ⟨(ApiSpan.mk x11.b 0),⟨_,rfl,rfl,fun j fd hj hf=>by match j,hj with| 0,h=>exact absurd rfl h| 1,_=>cases hf;rfl|_+2,_=>cases hf⟩,⟨(ApiSpan.mk x11.b x12.b),⟨_,rfl,rfl,fun j fd hj hf=>by match j,hj with| 0,_=>cases hf;rfl| 1,h=>exact absurd rfl h|_+2,_=>cases hf⟩,rfl⟩⟩) ?_
  refine qq (out:=(ao).val (ApiChunk.mk x22 (ApiSpan.mk x11.o x12.o) (ApiSpan.mk x11.a x12.a) (ApiSpan.mk x11.b x12.b))) (ja st71 ⟨(ApiChunk.mk x22 (ApiSpan.mk 0 0) (ApiSpan.mk 0 0) (ApiSpan.mk 0 0)),⟨_,rfl,rfl,fun j fd hj hf=>by match j,hj with| 0,h=>exact absurd rfl h| 1,_=>cases hf;rfl| 2,_=>cases hf;rfl| 3,_=>cases hf;rfl|_+4,_=>cases hf⟩,⟨(ApiChunk.mk x22 (ApiSpan.mk x11.o x12.o) (ApiSpan.mk 0 0) (ApiSpan.mk 0 0)),⟨_,rfl,rfl,fun j fd hj hf=>by match j,hj with| 0,_=>cases hf;rfl| 1,h=>exact absurd rfl h| 2,_=>cases hf;rfl| 3,_=>cases hf;rfl|_+4,_=>cases hf⟩,⟨(ApiChunk.mk x22 (ApiSpan.mk x11.o x12.o) (ApiSpan.mk x11.a x12.a) (ApiSpan.mk 0 0)),⟨_,rfl,rfl,fun j fd hj hf=>by match j,hj with| 0,_=>cases hf;rfl| 1,_=>cases hf;rfl| 2,h=>exact absurd rfl h| 3,_=>cases hf;rfl|_+4,_=>cases hf⟩,⟨(ApiChunk.mk x22 (ApiSpan.mk x11.o x12.o) (ApiSpan.mk x11.a x12.a) (ApiSpan.mk x11.b x12.b)),⟨_,rfl,rfl,fun j fd hj hf=>by match j,hj with| 0,_=>cases hf;rfl| 1,_=>cases hf;rfl| 2,_=>cases hf;rfl| 3,h=>exact absurd rfl h|_+4,_=>cases hf⟩,rfl⟩⟩⟩⟩) ?_
  refine qq (out:=af ao ([(ApiChunk.mk x22 (ApiSpan.mk x11.o x12.o) (ApiSpan.mk x11.a x12.a) (ApiSpan.mk x11.b x12.b))]:List ApiChunk)) (bh (R:=ao) (a:=(ApiChunk.mk x22 (ApiSpan.mk x11.o x12.o) (ApiSpan.mk x11.a x12.a) (ApiSpan.mk x11.b x12.b))) el66 (Nat.le_of_ble_eq_true rfl)) ?_
  obtain⟨x23,hx23,hy1⟩:=ah hy1
  refine cu 4 el66 hx23 (fun v24=> ?_)
  refine rStoreV 3 4 Tryz.sizeOf66 ?_
  obtain⟨rfl,rfl⟩:=Prod.mk.inj (Option.some.inj hy1)
  exact⟨_,Pick.of [0,1,2,3,4] rfl,rfl,rfl,v24,rfl⟩
 rintro D C' T s0 ⟨v13,rfl⟩
 refine W_rs ?_
 refine rq (out:=Pr.is v13) (qLoadP 6 Tryz.isAgg66) ?_
 refine rq (out:=Pr.is v13) ae ?_
 refine W_rel 7 [6] ?_ rfl ⟨rfl,trivial⟩
 obtain rfl:=Option.some.inj h
 exact bb ⟨rfl,aa⟩
theorem diff3_Parts_ok (x1 x2 x3:List (List UInt8)) (r:(List ApiChunk)) (h:nw x1 x2 x3=some r):FnP Tryz.prog 53 [af ab x1,af ab x2,af ab x3] (af ao r):=by
 refine a7 (n:=23) (rs:=[6]) Tryz.func53 rfl Tryz.ntmps53 ⟨by decide,Tryz.results53⟩ (by decide) (fun s0=> ?_)
 unfold nw at h
 refine W_rs ?_
 refine rq (out:=Pr.is (.slice none 0 0)) ae ?_
 refine W_rs ?_
 refine rq (out:=af ab x1) ag ?_
 refine rq (out:=af ab x2) ag ?_
 refine rq (out:=af ab x3) ag ?_
 refine rq (out:=af (ai ab) ([x1,x2,x3]:List (List (List UInt8)))) (fm (R:=ai ab) (ls:=([x1,x2,x3]:List (List (List UInt8)))) el78 (Nat.le_of_ble_eq_true rfl) ⟨rfl,rfl⟩ ⟨rfl,rfl,rfl,trivial⟩) ?_
 obtain⟨x4,hx4,h⟩:=ah h
 refine rq (out:=af (ai (Rp.int .i64)) x4) (br (lcs_Numbers_ok ([x1,x2,x3]:List (List (List UInt8))) _ hx4)) ?_
 refine rq (out:=af (ai (Rp.int .i64)) x4) ae ?_
 refine bg (fun e C=>∃(x8:List ApiChunk),na x8=some r/\At [(6,af ao x8)] [] e C) ?_ ?_
 ·rintro e C ⟨x8,h,hat1⟩
  refine W_at hat1 ?_
  clear hat1
  unfold na at h
  obtain rfl:=Option.some.inj h
  exact bb ⟨rfl,aa⟩
 refine ei 11 hmx (by kernel_rfl) (by kernel_rfl) ?_
 refine qq (out:=af (ai (Rp.int .i64)) x4) ag ?_
 obtain⟨x5,hx5,h⟩:=ah h
 refine qq (out:=a5 (ai (Rp.int .i64)) x5) (cr (R:=ai (Rp.int .i64)) (l:=x4) Tryz.underlying87 Tryz.sizeOf90 hx5) ?_
 refine qq (out:=af (Rp.int .i64) x5) (bl (R:=ai (Rp.int .i64)) (a:=x5) ty90) ?_
 refine qq (out:=af (ai (Rp.int .i64)) x4) ag ?_
 obtain⟨x6,hx6,h⟩:=ah h
 refine qq (out:=a5 (ai (Rp.int .i64)) x6) (cr (R:=ai (Rp.int .i64)) (l:=x4) Tryz.underlying87 Tryz.sizeOf90 hx6) ?_
 refine qq (out:=af (Rp.int .i64) x6) (bl (R:=ai (Rp.int .i64)) (a:=x6) ty90) ?_
 refine qq (out:=af (ai (Rp.int .i64)) x4) ag ?_
 obtain⟨x7,hx7,h⟩:=ah h
 refine qq (out:=a5 (ai (Rp.int .i64)) x7) (cr (R:=ai (Rp.int .i64)) (l:=x4) Tryz.underlying87 Tryz.sizeOf90 hx7) ?_
 refine qq (out:=af (Rp.int .i64) x7) (bl (R:=ai (Rp.int .i64)) (a:=x7) ty90) ?_
 obtain⟨x8,hx8,h⟩:=ah h
 refine qq (out:=af ao x8) (br (diff3_Chunks_ok x5 x6 x7 _ hx8)) ?_
 refine qq (out:=af ao x8) ae ?_
 exact⟨x8,h,⟨⟨aa,trivial⟩,Pick.refl _⟩⟩
theorem weave_parts_ok (x1 x2 x3:List (List UInt8)) (r:(List ApiPart)) (h:np x1 x2 x3=some r):FnP Tryz.prog 78 [af ab x1,af ab x2,af ab x3] (af al r):=by
 refine a7 (n:=123) (rs:=[6]) Tryz.func78 rfl Tryz.ntmps78 ⟨by decide,Tryz.results78⟩ (by decide) (fun s0=> ?_)
 unfold np at h
 refine W_rs ?_
 refine rq (out:=Pr.is (.slice none 0 0)) ae ?_
 refine W_scope ?_
 refine W_rs ?_
 refine rq (out:=Pr.is (.slice none 0 0)) ae ?_
 refine aw ?_
 refine W_label ?_
 refine aw ?_
 refine W_rs ?_
 refine rq (out:=af ab x1) ag ?_
 refine rq (out:=af ab x2) ag ?_
 refine rq (out:=af ab x3) ag ?_
 obtain⟨x4,hx4,h⟩:=ah h
 refine rq (out:=af ao x4) (br (diff3_Parts_ok x1 x2 x3 _ hx4)) ?_
 refine rq (out:=Pr.i64 (x4.length:Int)) (cl rfl Tryz.underlying66) ?_
 refine rq (out:=Pr.i64 0) ag ?_
 refine ar ?_
 obtain⟨z2l,hz2,h⟩:=ah h
 obtain⟨n2,hN2⟩:=a4 hz2
 clear hz2
 refine bp 0 (fun e C=>∃(x7:List ApiPart),∃(v5:Value),weave_parts_k1 x7=some r/\At [(7,Pr.is v5)] [Own.vec v5 al x7 95] e C) ?_ ?_
 ·rintro e C ⟨x7,v5,h,hat1⟩
  refine W_at hat1 ?_
  clear hat1
  unfold weave_parts_k1 at h
  refine W_rs ?_
  refine rq (out:=Pr.is v5) ag ?_
  refine rq (out:=Pr.is v5) ae ?_
  refine W_rel 0 [6] ?_ rfl ⟨rfl,trivial⟩
  obtain rfl:=Option.some.inj h
  exact bb ⟨rfl,aa⟩
 refine W_nil [7] al 95 (fun v39=> ?_) ⟨rfl,trivial⟩
 refine cd (fun m e C=>∃(x6:Int),∃(x7:List ApiPart),∃(v5:Value),cz (fun s=>gl x4 x1 x2 x3 s.1 s.2) m (x6,x7)=some z2l/\At [(0,af ab x1),(1,af ab x2),(2,af ab x3),(7,Pr.is v5),(16,af ao x4),(17,Pr.i64 (x4.length:Int)),(18,Pr.i64 x6)] [Own.vec v5 al x7 95] e C) n2 ⟨0,[],v39,hN2,⟨⟨aa,aa,aa,aa,aa,aa,aa,trivial⟩,Pick.refl _⟩⟩ ?_
 clear hN2
 rintro m e C ⟨x6,x7,v5,hN2,hatl2⟩
 refine W_at hatl2 ?_
 clear hatl2
 obtain⟨m2,w2l,rfl,h2l,hn2,ho2⟩:=ay hN2
 clear hN2
 replace h2l:gl x4 x1 x2 x3 x6 x7=some w2l:=h2l
 unfold gl at h2l
 refine W_rs ?_
 refine rq (out:=Pr.bool (decide (x6<(x4.length:Int)))) qInt ?_
 refine aw ?_
 refine au (b:=decide (x6<(x4.length:Int))) rfl (fun hc11=> ?_) (fun hc11=> ?_)
 ·replace h2l:=iteT hc11 h2l
  refine av ?_
  refine bg (fun e C=>∃(x38:List ApiPart),∃(x12:ApiChunk),∃(x23:ApiPart),∃(v37:Value),∃(b13:Nat),∃(b20:Nat),ke x6 x38 x12 x23=some w2l/\At [(0,af ab x1),(1,af ab x2),(2,af ab x3),(7,Pr.is v37),(16,af ao x4),(17,Pr.i64 (x4.length:Int)),(18,Pr.i64 x6)] [Own.vec v37 al x38 95,Own.box b13 ao x12,Own.box b20 al x23] e C) ?_ ?_
  ·rintro e C ⟨x38,x12,x23,v37,b13,b20,h2l,hat3⟩
   refine W_at hat3 ?_
   clear hat3
   unfold ke at h2l
   refine W_r ?_
   refine rq (out:=Pr.i64 (w64 (x6+1))) qInt ?_
   refine rq (out:=Pr.i64 (w64 (x6+1))) ag ?_
   exact⟨m2,Nat.lt_succ_self _,w64 (x6+1),x38,v37,hn2 _ (Option.some.inj h2l).symm,⟨⟨aa,aa,aa,aa,aa,aa,aa,trivial⟩,Pick.of [0] rfl⟩⟩
  refine ar ?_
  refine W_rs ?_
  obtain⟨x12,hx12,h2l⟩:=ah h2l
  refine rq (out:=a5 ao x12) (cr (R:=ao) (l:=x4) Tryz.underlying66 Tryz.sizeOf71 hx12) ?_
  refine rq (out:=(ao).val x12) (bl (R:=ao) (a:=x12) ty71) ?_
  refine ml (R:=ao) (z:=(ApiChunk.mk 0 (ApiSpan.mk 0 0) (ApiSpan.mk 0 0) (ApiSpan.mk 0 0))) Tryz.zeroValue71 (fun _=>⟨_,⟨_,_,rfl,rfl,⟨_,_,rfl,⟨_,_,rfl,rfl,⟨_,_,rfl,rfl,rfl⟩⟩,⟨_,_,rfl,⟨_,_,rfl,rfl,⟨_,_,rfl,rfl,rfl⟩⟩,⟨_,_,rfl,⟨_,_,rfl,rfl,⟨_,_,rfl,rfl,rfl⟩⟩,rfl⟩⟩⟩⟩,rfl⟩) (fun b13=> ?_)
  refine ek (R:=ao) (R':=ao) (a:=(ApiChunk.mk 0 (ApiSpan.mk 0 0) (ApiSpan.mk 0 0) (ApiSpan.mk 0 0))) (y:=x12) 1 Tryz.sizeOf71 (Upd.refl _) ?_
  refine bg (fun e C=>∃(x15:List UInt8),∃(x17:List UInt8),∃(x19:List UInt8),∃(b20:Nat),weave_parts_j7 x12 x7 x6 x15 x17 x19=some w2l/\At [(0,af ab x1),(1,af ab x2),(2,af ab x3),(7,Pr.is v5),(9,ap b13 0),(10,ap b20 0),(16,af ao x4),(17,Pr.i64 (x4.length:Int)),(18,Pr.i64 x6)] [Own.vec v5 al x7 95,Own.box b13 ao x12,Own.box b20 al (ApiPart.mk (x12.Kind==4) x15 x17 x19)] e C) ?_ ?_
  ·rintro e C ⟨x15,x17,x19,b20,h2l,hat7⟩
   refine W_at hat7 ?_
   clear hat7
   unfold weave_parts_j7 at h2l
   refine bg (fun e C=>∃(x23:ApiPart),i4 x7 x6 x12 x23=some w2l/\At [(0,af ab x1),(1,af ab x2),(2,af ab x3),(7,Pr.is v5),(10,ap b20 0),(16,af ao x4),(17,Pr.i64 (x4.length:Int)),(18,Pr.i64 x6)] [Own.vec v5 al x7 95,Own.box b13 ao x12,Own.box b20 al x23] e C) ?_ ?_
   ·rintro e C ⟨x23,h2l,hat6⟩
    refine W_at hat6 ?_
    clear hat6
    unfold i4 at h2l
    refine aw ?_
    refine W_rs ?_
    refine rq (out:=Pr.is v5) ag ?_
    refine rq (out:=Pr.i64 (x7.length:Int)) (qLenV 0 rfl Tryz.underlying80) ?_
    refine rq (out:=Pr.i64 (x7.length:Int)) ae ?_
    refine bg (fun e C=>∃(x29:Bool),gm x7 x23 x6 x12 x29=some w2l/\At [(0,af ab x1),(1,af ab x2),(2,af ab x3),(7,Pr.is v5),(10,ap b20 0),(11,Pr.i64 (x7.length:Int)),(16,af ao x4),(17,Pr.i64 (x4.length:Int)),(18,Pr.i64 x6),(82,Pr.bool x29)] [Own.vec v5 al x7 95,Own.box b13 ao x12,Own.box b20 al x23] e C) ?_ ?_
    ·rintro e C ⟨x29,h2l,hat5⟩
     refine W_at hat5 ?_
     clear hat5
     unfold gm at h2l
     refine au (b:=x29) rfl (fun hc30=> ?_) (fun hc30=> ?_)
     ·replace h2l:=iteT hc30 h2l
      refine W_rs ?_
      refine rq (out:=Pr.is v5) ag ?_
      refine rq (out:=Pr.i64 (x7.length:Int)) ag ?_
      refine rq (out:=Pr.i64 (w64 ((x7.length:Int) - 1))) qInt ?_
      obtain⟨x31,hx31,h2l⟩:=ah h2l
      refine rq (out:=cb v5 (Int.toNat (w64 ((x7.length:Int) - 1)) * (al).size)) (jb 0 (R:=al) (l:=x7) Tryz.underlying80 Tryz.sizeOf95 hx31) ?_
      refine rq (out:=cb v5 (Int.toNat (w64 ((x7.length:Int) - 1)) * (al).size)) ae ?_
      refine bg (fun e C=>∃(x32:List UInt8),∃(x33:List UInt8),∃(x34:List UInt8),weave_parts_j4 x6 x7 x31 x12 x23 x32 x33 x34=some w2l/\At [(0,af ab x1),(1,af ab x2),(2,af ab x3),(7,Pr.is v5),(16,af ao x4),(17,Pr.i64 (x4.length:Int)),(18,Pr.i64 x6)] [Own.vec v5 al (List.set x7 (Int.toNat (w64 ((x7.length:Int) - 1))) (ApiPart.mk x31.Clash x32 x33 x34)) 95,Own.box b13 ao x12,Own.box b20 al x23] e C) ?_ ?_
      ·rintro e C ⟨x32,x33,x34,h2l,hat4⟩
       refine W_at hat4 ?_
       clear hat4
       unfold weave_parts_j4 at h2l
       refine bw ?_
       exact⟨(List.set x7 (Int.toNat (w64 ((x7.length:Int) - 1))) (ApiPart.mk x31.Clash x32 x33 x34)),x12,x23,v5,b13,b20,h2l,⟨⟨aa,aa,aa,aa,aa,aa,aa,trivial⟩,Pick.refl _⟩⟩
      obtain⟨x32,hx32,h2l⟩:=ah h2l
      obtain⟨x33,hx33,h2l⟩:=ah h2l
      obtain⟨x34,hx34,h2l⟩:=ah h2l
      refine W_drawG 0 (fun B S=>[Own.vec v5 al (List.set x7 (Int.toNat (w64 ((x7.length:Int) - 1))) (ApiPart.mk x31.Clash (cond (S 26) x32 x31.O) (cond (S 29) x33 x31.A) (cond (S 32) x34 x31.B))) 95,Own.box b13 ao x12,Own.box b20 al x23]) (fun B=>[Own.vec v5 al (List.set x7 (Int.toNat (w64 ((x7.length:Int) - 1))) (ApiPart.mk x31.Clash x32 x33 x34)) 95,Own.box b13 ao x12,Own.box b20 al x23]) [cb v5 (Int.toNat (w64 ((x7.length:Int) - 1)) * (al).size),cb v5 (Int.toNat (w64 ((x7.length:Int) - 1)) * (al).size),cb v5 (Int.toNat (w64 ((x7.length:Int) - 1)) * (al).size),cb v5 (Int.toNat (w64 ((x7.length:Int) - 1)) * (al).size),cb v5 (Int.toNat (w64 ((x7.length:Int) - 1)) * (al).size),cb v5 ((Int.toNat (w64 ((x7.length:Int) - 1)) * (al).size)+1),aj x31.O,ap b20 1,aj x23.O,aj x32,cb v5 (Int.toNat (w64 ((x7.length:Int) - 1)) * (al).size),cb v5 (Int.toNat (w64 ((x7.length:Int) - 1)) * (al).size),cb v5 ((Int.toNat (w64 ((x7.length:Int) - 1)) * (al).size)+2),aj x31.A,ap b20 2,aj x23.A,aj x33,cb v5 (Int.toNat (w64 ((x7.length:Int) - 1)) * (al).size),cb v5 (Int.toNat (w64 ((x7.length:Int) - 1)) * (al).size),cb v5 ((Int.toNat (w64 ((x7.length:Int) - 1)) * (al).size)+3),aj x31.B,ap b20 3,aj x23.B,aj x34,cb v5 (Int.toNat (w64 ((x7.length:Int) - 1)) * (al).size),cb v5 ((Int.toNat (w64 ((x7.length:Int) - 1)) * (al).size)+1),.any,cb v5 (Int.toNat (w64 ((x7.length:Int) - 1)) * (al).size),cb v5 ((Int.toNat (w64 ((x7.length:Int) - 1)) * (al).size)+2),.any,cb v5 (Int.toNat (w64 ((x7.length:Int) - 1)) * (al).size),cb v5 ((Int.toNat (w64 ((x7.length:Int) - 1)) * (al).size)+3),.any] (fun k=>([0,0,0,0,0,0,0,0,0,0,0,0,0,0,0,0,0,0,0,0,0,0,0,0,0,0,1,0,0,1,0,0,1]:List Nat).getD k 0) hmx (by kernel_rfl) (by kernel_rfl) (fun B=>congrArg (fun L=>([Own.vec v5 al L 95,Own.box b13 ao x12,Own.box b20 al x23]:Ctx)) (set_idx hx31)) (fun B S S' h=>by show([Own.vec v5 al (List.set x7 (Int.toNat (w64 ((x7.length:Int) - 1))) (ApiPart.mk x31.Clash (cond (S 26) x32 x31.O) (cond (S 29) x33 x31.A) (cond (S 32) x34 x31.B))) 95,Own.box b13 ao x12,Own.box b20 al x23]:Ctx)=[Own.vec v5 al (List.set x7 (Int.toNat (w64 ((x7.length:Int) - 1))) (ApiPart.mk x31.Clash (cond (S' 26) x32 x31.O) (cond (S' 29) x33 x31.A) (cond (S' 32) x34 x31.B))) 95,Own.box b13 ao x12,Own.box b20 al x23];simp only[h 26 (Nat.le_of_ble_eq_true (by kernel_rfl)),h 29 (Nat.le_of_ble_eq_true (by kernel_rfl)),h 32 (Nat.le_of_ble_eq_true (by kernel_rfl))]) (fun _=>rfl) (fun B=> ?_)
      refine gq1 (fun S hK=>ag) ?_
      refine gq1 (fun S hK=>ag) ?_
      refine gq1 (fun S hK=>ag) ?_
      refine gq1 (fun S hK=>ag) ?_
      refine gq1 (fun S hK=>qNilV) ?_
      refine gq1 (fun S hK=>(qFieldV fld95_1)) ?_
      refine gq1 (fun S hK=>(jg (R:=al) (R':=ab) (l:=(List.set x7 (Int.toNat (w64 ((x7.length:Int) - 1))) (ApiPart.mk x31.Clash (cond (S 26) x32 x31.O) (cond (S 29) x33 x31.A) (cond (S 32) x34 x31.B)))) (a:=(ApiPart.mk x31.Clash (cond (S 26) x32 x31.O) (cond (S 29) x33 x31.A) (cond (S 32) x34 x31.B))) (o:=1) 0 ty9 subApiPart_O (Nat.le_of_ble_eq_true rfl) (idx_set hx31 _) rfl).as (congrArg aj (condF (hK.F 26 (by kernel_rfl)) _ _))) ?_
      refine gq1 (fun S hK=>(ax fld95_1)) ?_
      refine gq1 (fun S hK=>(a9 (R:=al) (a:=x23) (R':=ab) 2 ty9 subApiPart_O (hi:=rfl))) ?_
      refine gq1 (fun S hK=>(qCat' hx32)) ?_
      refine gq1 (fun S hK=>ag) ?_
      refine gq1 (fun S hK=>qNilV) ?_
      refine gq1 (fun S hK=>(qFieldV fld95_2)) ?_
      refine gq1 (fun S hK=>(jg (R:=al) (R':=ab) (l:=(List.set x7 (Int.toNat (w64 ((x7.length:Int) - 1))) (ApiPart.mk x31.Clash (cond (S 26) x32 x31.O) (cond (S 29) x33 x31.A) (cond (S 32) x34 x31.B)))) (a:=(ApiPart.mk x31.Clash (cond (S 26) x32 x31.O) (cond (S 29) x33 x31.A) (cond (S 32) x34 x31.B))) (o:=2) 0 ty9 jh (Nat.le_of_ble_eq_true rfl) (idx_set hx31 _) rfl).as (congrArg aj (condF (hK.F 29 (by kernel_rfl)) _ _))) ?_
      refine gq1 (fun S hK=>(ax fld95_2)) ?_
      refine gq1 (fun S hK=>(a9 (R:=al) (a:=x23) (R':=ab) 2 ty9 jh (hi:=rfl))) ?_
      refine gq1 (fun S hK=>(qCat' hx33)) ?_
      refine gq1 (fun S hK=>ag) ?_
      refine gq1 (fun S hK=>qNilV) ?_
      refine gq1 (fun S hK=>(qFieldV fld95_3)) ?_
      refine gq1 (fun S hK=>(jg (R:=al) (R':=ab) (l:=(List.set x7 (Int.toNat (w64 ((x7.length:Int) - 1))) (ApiPart.mk x31.Clash (cond (S 26) x32 x31.O) (cond (S 29) x33 x31.A) (cond (S 32) x34 x31.B)))) (a:=(ApiPart.mk x31.Clash (cond (S 26) x32 x31.O) (cond (S 29) x33 x31.A) (cond (S 32) x34 x31.B))) (o:=3) 0 ty9 lh (Nat.le_of_ble_eq_true rfl) (idx_set hx31 _) rfl).as (congrArg aj (condF (hK.F 32 (by kernel_rfl)) _ _))) ?_
      refine gq1 (fun S hK=>(ax fld95_3)) ?_
      refine gq1 (fun S hK=>(a9 (R:=al) (a:=x23) (R':=ab) 2 ty9 lh (hi:=rfl))) ?_
      refine gq1 (fun S hK=>(qCat' hx34)) ?_
      refine gq1 (fun S hK=>qNilV) ?_
      refine gq1 (fun S hK=>(qFieldV fld95_1)) ?_
      refine gqS (fun S hK=>SStep.as (sStoreE (R:=al) (R':=ab) (l:=(List.set x7 (Int.toNat (w64 ((x7.length:Int) - 1))) (ApiPart.mk x31.Clash (cond (S 26) x32 x31.O) (cond (S 29) x33 x31.A) (cond (S 32) x34 x31.B)))) (a:=(ApiPart.mk x31.Clash (cond (S 26) x32 x31.O) (cond (S 29) x33 x31.A) (cond (S 32) x34 x31.B))) (y:=x32) (o:=1) 0 Tryz.sizeOf9 updApiPart_O (idx_set hx31 _) rfl) (congrArg (fun L=>([Own.vec v5 al L 95,Own.box b13 ao x12,Own.box b20 al x23]:Ctx)) (List.set_set ..))) ?_
      refine gq1 (fun S hK=>qNilV) ?_
      refine gq1 (fun S hK=>(qFieldV fld95_2)) ?_
      refine gqS (fun S hK=>SStep.as (sStoreE (R:=al) (R':=ab) (l:=(List.set x7 (Int.toNat (w64 ((x7.length:Int) - 1))) (ApiPart.mk x31.Clash (cond (S 26) x32 x31.O) (cond (S 29) x33 x31.A) (cond (S 32) x34 x31.B)))) (a:=(ApiPart.mk x31.Clash (cond (S 26) x32 x31.O) (cond (S 29) x33 x31.A) (cond (S 32) x34 x31.B))) (y:=x33) (o:=2) 0 Tryz.sizeOf9 updApiPart_A (idx_set hx31 _) rfl) (congrArg (fun L=>([Own.vec v5 al L 95,Own.box b13 ao x12,Own.box b20 al x23]:Ctx)) (List.set_set ..))) ?_
      refine gq1 (fun S hK=>qNilV) ?_
      refine gq1 (fun S hK=>(qFieldV fld95_3)) ?_
      refine gqS (fun S hK=>SStep.as (sStoreE (R:=al) (R':=ab) (l:=(List.set x7 (Int.toNat (w64 ((x7.length:Int) - 1))) (ApiPart.mk x31.Clash (cond (S 26) x32 x31.O) (cond (S 29) x33 x31.A) (cond (S 32) x34 x31.B)))) (a:=(ApiPart.mk x31.Clash (cond (S 26) x32 x31.O) (cond (S 29) x33 x31.A) (cond (S 32) x34 x31.B))) (y:=x34) (o:=3) 0 Tryz.sizeOf9 updApiPart_B (idx_set hx31 _) rfl) (congrArg (fun L=>([Own.vec v5 al L 95,Own.box b13 ao x12,Own.box b20 al x23]:Ctx)) (List.set_set ..))) ?_
      exact⟨x32,x33,x34,h2l,⟨⟨aa,aa,aa,aa,aa,aa,aa,trivial⟩,Pick.refl _⟩⟩
     replace h2l:=iteF hc30 h2l
     refine av ?_
     refine W_r ?_
     refine rq (out:=Pr.is v5) ag ?_
     refine rq (out:=(al).val x23) (a9 (R:=al) (a:=x23) (R':=al) 2 ty95 (Sub.refl _)) ?_
     refine rq (out:=af al ([x23]:List ApiPart)) (bh (R:=al) (a:=x23) el80 (Nat.le_of_ble_eq_true rfl)) ?_
     obtain⟨x35,hx35,h2l⟩:=ah h2l
     refine cu 0 el80 hx35 (fun v36=> ?_)
     refine rq (out:=Pr.is v36) ae ?_
     exact⟨x35,x12,x23,v36,b13,b20,h2l,⟨⟨aa,aa,aa,aa,aa,aa,aa,trivial⟩,Pick.refl _⟩⟩
    refine W_r ?_
    refine rq (out:=ap b20 0) (ax fld95_0) ?_
    refine rq (out:=Pr.bool x23.Clash) (a9 (R:=al) (a:=x23) (R':=Rp.bool) 2 ty4 ig) ?_
    refine rq (out:=Pr.bool (!x23.Clash)) qNot ?_
    refine rq (out:=Pr.bool (!x23.Clash)) ag ?_
    rcases bc h2l with⟨hc24,h2l⟩|⟨hc24,h2l⟩
    ·refine rqg hc24 (out:=Pr.i64 (x7.length:Int)) ag ?_
     refine rqg hc24 (out:=Pr.bool (decide ((x7.length:Int)>0))) qInt ?_
     refine rq (out:=Pr.bool (decide ((x7.length:Int)>0))) (bo hc24) ?_
     refine rq (out:=Pr.bool (decide ((x7.length:Int)>0))) ag ?_
     rcases bc h2l with⟨hc25,h2l⟩|⟨hc25,h2l⟩
     ·refine rqg hc25 (out:=Pr.is v5) ag ?_
      refine rqg hc25 (out:=Pr.i64 (x7.length:Int)) ag ?_
      refine rqg hc25 (out:=Pr.i64 (w64 ((x7.length:Int) - 1))) qInt ?_
      obtain⟨x26,hx26,h2l⟩:=ah h2l
      refine rqg hc25 (out:=cb v5 (Int.toNat (w64 ((x7.length:Int) - 1)) * (al).size)) (jb 0 (R:=al) (l:=x7) Tryz.underlying80 Tryz.sizeOf95 hx26) ?_
      refine rqg hc25 (out:=cb v5 ((Int.toNat (w64 ((x7.length:Int) - 1)) * (al).size)+0)) (qFieldV fld95_0) ?_
      refine rqg hc25 (out:=Pr.bool x26.Clash) (jg (R:=al) (R':=Rp.bool) (l:=x7) (a:=x26) (o:=0) 0 ty4 ig (Nat.le_of_ble_eq_true rfl) hx26 rfl) ?_
      refine rqg hc25 (out:=Pr.bool (!x26.Clash)) qNot ?_
      refine rq (out:=Pr.bool (!x26.Clash)) (bo hc25) ?_
      exact⟨!x26.Clash,h2l,⟨⟨aa,aa,aa,aa,aa,aa,aa,aa,aa,aa,trivial⟩,Pick.refl _⟩⟩
     refine rno (neT hc25) ?_
     refine rno (neT hc25) ?_
     refine rno (neT hc25) ?_
     refine rno (neT hc25) ?_
     refine rno (neT hc25) ?_
     refine rno (neT hc25) ?_
     refine rno (neT hc25) ?_
     refine rq (out:=Pr.bool false) (az hc25) ?_
     exact⟨false,h2l,⟨⟨aa,aa,aa,aa,aa,aa,aa,aa,aa,aa,trivial⟩,Pick.refl _⟩⟩
    refine rno (neT hc24) ?_
    refine rno (neT hc24) ?_
    refine rq (out:=Pr.bool false) (az hc24) ?_
    refine rq (out:=Pr.bool false) ag ?_
    have hc27:false=false:=rfl
    refine rno (neT hc27) ?_
    refine rno (neT hc27) ?_
    refine rno (neT hc27) ?_
    refine rno (neT hc27) ?_
    refine rno (neT hc27) ?_
    refine rno (neT hc27) ?_
    refine rno (neT hc27) ?_
    refine rq (out:=Pr.bool false) (az hc27) ?_
    exact⟨false,h2l,⟨⟨aa,aa,aa,aa,aa,aa,aa,aa,aa,aa,trivial⟩,Pick.refl _⟩⟩
   refine W_rs ?_
   refine rq (out:=ap b13 0) (ax fld71_0) ?_
   refine rq (out:=Pr.i64 x12.Kind) (a9 (R:=ao) (a:=x12) (R':=Rp.int .i64) 1 ty3 eb) ?_
   refine ar ?_
   refine W_rs ?_
   refine rq (out:=Pr.bool (x12.Kind==4)) qInt ?_
   refine rq (out:=Pr.bool (x12.Kind==4)) ae ?_
   refine au (b:=x12.Kind==4) rfl (fun hc21=> ?_) (fun hc21=> ?_)
   ·replace h2l:=iteT hc21 h2l
    refine av ?_
    exact⟨(ApiPart.mk (x12.Kind==4) x15 x17 x19),h2l,⟨⟨aa,aa,aa,aa,aa,aa,aa,aa,trivial⟩,Pick.refl _⟩⟩
   replace h2l:=iteF hc21 h2l
   refine W_rs ?_
   refine rq (out:=Pr.bool (x12.Kind==2)) qInt ?_
   refine rq (out:=Pr.bool (x12.Kind==2)) ae ?_
   refine au (b:=x12.Kind==2) rfl (fun hc22=> ?_) (fun hc22=> ?_)
   ·replace h2l:=iteT hc22 h2l
    refine W_r ?_
    refine rq (out:=ap b20 3) (ax fld95_3) ?_
    refine rq (out:=aj ((ApiPart.mk (x12.Kind==4) x15 x17 x19).B)) (a9 (R:=al) (a:=(ApiPart.mk (x12.Kind==4) x15 x17 x19)) (R':=ab) 2 ty9 lh) ?_
    refine rq (out:=ap b20 2) (ax fld95_2) ?_
    refine ek (R:=al) (R':=ab) (a:=(ApiPart.mk (x12.Kind==4) x15 x17 x19)) (y:=(ApiPart.mk (x12.Kind==4) x15 x17 x19).B) 2 Tryz.sizeOf9 updApiPart_A ?_
    exact⟨{(ApiPart.mk (x12.Kind==4) x15 x17 x19)with A:=(ApiPart.mk (x12.Kind==4) x15 x17 x19).B},h2l,⟨⟨aa,aa,aa,aa,aa,aa,aa,aa,trivial⟩,Pick.refl _⟩⟩
   replace h2l:=iteF hc22 h2l
   refine W_r ?_
   refine rq (out:=ap b20 2) (ax fld95_2) ?_
   refine rq (out:=aj ((ApiPart.mk (x12.Kind==4) x15 x17 x19).A)) (a9 (R:=al) (a:=(ApiPart.mk (x12.Kind==4) x15 x17 x19)) (R':=ab) 2 ty9 jh) ?_
   refine rq (out:=ap b20 3) (ax fld95_3) ?_
   refine ek (R:=al) (R':=ab) (a:=(ApiPart.mk (x12.Kind==4) x15 x17 x19)) (y:=(ApiPart.mk (x12.Kind==4) x15 x17 x19).A) 2 Tryz.sizeOf9 updApiPart_B ?_
   exact⟨{(ApiPart.mk (x12.Kind==4) x15 x17 x19)with B:=(ApiPart.mk (x12.Kind==4) x15 x17 x19).A},h2l,⟨⟨aa,aa,aa,aa,aa,aa,aa,aa,trivial⟩,Pick.refl _⟩⟩
  obtain⟨x14,hx14,h2l⟩:=ah h2l
  obtain⟨x15,hx15,h2l⟩:=ah h2l
  obtain⟨x16,hx16,h2l⟩:=ah h2l
  obtain⟨x17,hx17,h2l⟩:=ah h2l
  obtain⟨x18,hx18,h2l⟩:=ah h2l
  obtain⟨x19,hx19,h2l⟩:=ah h2l
  refine W_drawG 1 (fun B S=>[Own.vec v5 al x7 95,Own.box b13 ao x12,(cond (S 32) (Own.box (B 31) al (ApiPart.mk (x12.Kind==4) x15 x17 x19)) (cond (S 31) (Own.box (B 31) al (ApiPart.mk false [] [] [])) Own.nil))]) (fun B=>[Own.vec v5 al x7 95,Own.box b13 ao x12,Own.box (B 31) al (ApiPart.mk (x12.Kind==4) x15 x17 x19)]) [ap b13 0,Pr.i64 x12.Kind,Pr.bool (x12.Kind==4),af ab x1,ap b13 1,ap b13 1,Pr.i64 x12.O.From,ap b13 1,ap b13 2,Pr.i64 x12.O.To,af ab x14,aj x15,af ab x2,ap b13 3,ap b13 3,Pr.i64 x12.A.From,ap b13 3,ap b13 4,Pr.i64 x12.A.To,af ab x16,aj x17,af ab x3,ap b13 5,ap b13 5,Pr.i64 x12.B.From,ap b13 5,ap b13 6,Pr.i64 x12.B.To,af ab x18,aj x19,(al).val (ApiPart.mk (x12.Kind==4) x15 x17 x19),.any,.any] (fun k=>([0,0,0,0,0,0,0,0,0,0,0,0,0,0,0,0,0,0,0,0,0,0,0,0,0,0,0,0,0,0,0,2,1]:List Nat).getD k 0) hmx (by kernel_rfl) (by kernel_rfl) (fun _=>rfl) (fun B S S' h=>by show([Own.vec v5 al x7 95,Own.box b13 ao x12,(cond (S 32) (Own.box (B 31) al (ApiPart.mk (x12.Kind==4) x15 x17 x19)) (cond (S 31) (Own.box (B 31) al (ApiPart.mk false [] [] [])) Own.nil))]:Ctx)=[Own.vec v5 al x7 95,Own.box b13 ao x12,(cond (S' 32) (Own.box (B 31) al (ApiPart.mk (x12.Kind==4) x15 x17 x19)) (cond (S' 31) (Own.box (B 31) al (ApiPart.mk false [] [] [])) Own.nil))];simp only[h 31 (Nat.le_of_ble_eq_true (by kernel_rfl)),h 32 (Nat.le_of_ble_eq_true (by kernel_rfl))]) (fun _=>rfl) (fun B=> ?_)
  refine gq1 (fun S hK=>(ax fld71_0)) ?_
  refine gq1 (fun S hK=>(a9 (R:=ao) (a:=x12) (R':=Rp.int .i64) 1 ty3 eb (hi:=rfl))) ?_
  refine gq1 (fun S hK=>qInt) ?_
  refine gq1 (fun S hK=>ag) ?_
  refine gq1 (fun S hK=>(ax fld71_1)) ?_
  refine gq1 (fun S hK=>(ax fld69_0)) ?_
  refine gq1 (fun S hK=>(a9 (R:=ao) (a:=x12) (R':=Rp.int .i64) 1 ty3 (iq.trans c5 (Nat.le_of_ble_eq_true rfl)) (hi:=rfl))) ?_
  refine gq1 (fun S hK=>(ax fld71_1)) ?_
  refine gq1 (fun S hK=>(ax fld69_1)) ?_
  refine gq1 (fun S hK=>(a9 (R:=ao) (a:=x12) (R':=Rp.int .i64) 1 ty3 (iq.trans dp (Nat.le_of_ble_eq_true rfl)) (hi:=rfl))) ?_
  refine gq1 (fun S hK=>(k6 Tryz.underlying33 Tryz.sizeOf9 hx14)) ?_
  refine gq1 (fun S hK=>(br (strings_Join_ok x14 [] _ hx15))) ?_
  refine gq1 (fun S hK=>ag) ?_
  refine gq1 (fun S hK=>(ax fld71_2)) ?_
  refine gq1 (fun S hK=>(ax fld69_0)) ?_
  refine gq1 (fun S hK=>(a9 (R:=ao) (a:=x12) (R':=Rp.int .i64) 1 ty3 (fr.trans c5 (Nat.le_of_ble_eq_true rfl)) (hi:=rfl))) ?_
  refine gq1 (fun S hK=>(ax fld71_2)) ?_
  refine gq1 (fun S hK=>(ax fld69_1)) ?_
  refine gq1 (fun S hK=>(a9 (R:=ao) (a:=x12) (R':=Rp.int .i64) 1 ty3 (fr.trans dp (Nat.le_of_ble_eq_true rfl)) (hi:=rfl))) ?_
  refine gq1 (fun S hK=>(k6 Tryz.underlying33 Tryz.sizeOf9 hx16)) ?_
  refine gq1 (fun S hK=>(br (strings_Join_ok x16 [] _ hx17))) ?_
  refine gq1 (fun S hK=>ag) ?_
  refine gq1 (fun S hK=>(ax fld71_3)) ?_
  refine gq1 (fun S hK=>(ax fld69_0)) ?_
  refine gq1 (fun S hK=>(a9 (R:=ao) (a:=x12) (R':=Rp.int .i64) 1 ty3 (fq.trans c5 (Nat.le_of_ble_eq_true rfl)) (hi:=rfl))) ?_
  refine gq1 (fun S hK=>(ax fld71_3)) ?_
  refine gq1 (fun S hK=>(ax fld69_1)) ?_
  refine gq1 (fun S hK=>(a9 (R:=ao) (a:=x12) (R':=Rp.int .i64) 1 ty3 (fq.trans dp (Nat.le_of_ble_eq_true rfl)) (hi:=rfl))) ?_
  refine gq1 (fun S hK=>(k6 Tryz.underlying33 Tryz.sizeOf9 hx18)) ?_
  refine gq1 (fun S hK=>(br (strings_Join_ok x18 [] _ hx19))) ?_
  refine gq1 (fun S hK=>(ja st95 ⟨(ApiPart.mk (x12.Kind==4) [] [] []),⟨_,rfl,rfl,fun j fd hj hf=>by match j,hj with| 0,h=>exact absurd rfl h| 1,_=>cases hf;rfl| 2,_=>cases hf;rfl| 3,_=>cases hf;rfl|_+4,_=>cases hf⟩,⟨(ApiPart.mk (x12.Kind==4) x15 [] []),⟨_,rfl,rfl,fun j fd hj hf=>by match j,hj with| 0,_=>cases hf;rfl| 1,h=>exact absurd rfl h| 2,_=>cases hf;rfl| 3,_=>cases hf;rfl|_+4,_=>cases hf⟩,⟨(ApiPart.mk (x12.Kind==4) x15 x17 []),⟨_,rfl,rfl,fun j fd hj hf=>by match j,hj with| 0,_=>cases hf;rfl| 1,_=>cases hf;rfl| 2,h=>exact absurd rfl h| 3,_=>cases hf;rfl|_+4,_=>cases hf⟩,⟨(ApiPart.mk (x12.Kind==4) x15 x17 x19),⟨_,rfl,rfl,fun j fd hj hf=>by match j,hj with| 0,_=>cases hf;rfl| 1,_=>cases hf;rfl| 2,_=>cases hf;rfl| 3,h=>exact absurd rfl h|_+4,_=>cases hf⟩,rfl⟩⟩⟩⟩)) ?_
  refine gqA (fun S hK=>⟨fun B' hB=>by show([Own.vec v5 al x7 95,Own.box b13 ao x12,(cond (S 32) (Own.box (B' 31) al (ApiPart.mk (x12.Kind==4) x15 x17 x19)) (cond (S 31) (Own.box (B' 31) al (ApiPart.mk false [] [] [])) Own.nil))]:Ctx)=[Own.vec v5 al x7 95,Own.box b13 ao x12,(cond (S 32) (Own.box (B 31) al (ApiPart.mk (x12.Kind==4) x15 x17 x19)) (cond (S 31) (Own.box (B 31) al (ApiPart.mk false [] [] [])) Own.nil))];simp only[hK.me,hK.F 32 (by kernel_rfl),cond_false],fun s ρ hg _=>sAlloc (R:=al) (z:=(ApiPart.mk false [] [] [])) 2 Tryz.zeroValue95 (fun _=>⟨_,⟨_,_,rfl,rfl,⟨_,_,rfl,rfl,⟨_,_,rfl,rfl,⟨_,_,rfl,rfl,rfl⟩⟩⟩⟩,rfl⟩) (congrArg some ((condF (hK.F 32 (by kernel_rfl)) _ _).trans (condF (hK.me) _ _))) (fun b=>by show([Own.vec v5 al x7 95,Own.box b13 ao x12,(cond (S 32) (Own.box b al (ApiPart.mk (x12.Kind==4) x15 x17 x19)) (Own.box b al (ApiPart.mk false [] [] [])))]:Ctx)=_;rw[hK.F 32 (by kernel_rfl)];rfl) s ρ hg⟩) ?_
  refine gqS (fun S hK=>SStep.as (sStore (R:=al) (R':=al) (a:=(ApiPart.mk false [] [] [])) (y:=(ApiPart.mk (x12.Kind==4) x15 x17 x19)) 2 Tryz.sizeOf95 (Upd.refl _) (congrArg some ((condF (hK.me) _ _).trans (condT (hK.T 31 (by kernel_rfl)) _ _)))) (by show(_:Ctx)=[Own.vec v5 al x7 95,Own.box b13 ao x12,Own.box (B 31) al (ApiPart.mk (x12.Kind==4) x15 x17 x19)];rfl)) ?_
  exact⟨x15,x17,x19,(B 31),h2l,⟨⟨aa,aa,aa,aa,aa,aa,aa,aa,aa,trivial⟩,Pick.refl _⟩⟩
 replace h2l:=iteF hc11 h2l
 refine bw ?_
 obtain rfl:=ho2 _ (Option.some.inj h2l).symm
 exact⟨x7,v5,h,⟨⟨aa,trivial⟩,Pick.refl _⟩⟩
theorem weave_apart_ok (x1:(Unit->Option ((List (List UInt8)) × Bool))) (x2:(Unit->Option ((List (List UInt8)) × Bool))) (x3:(Unit->Option ((List (List UInt8)) × Bool))) (r:(List ApiPart) × Bool) (h:weave_apart x1 x2 x3=some r):FnP Tryz.prog 68 [ia Tryz.prog (mh x1),ia Tryz.prog (mh x2),ia Tryz.prog (mh x3)] (bn [af al r.1,Pr.bool r.2]):=by
 refine a7 (n:=41) (rs:=[6,7]) Tryz.func68 rfl Tryz.ntmps68 ⟨by decide,Tryz.results68⟩ (by decide) (fun s0=> ?_)
 unfold weave_apart at h
 refine W_rs ?_
 refine rq (out:=Pr.is (.slice none 0 0)) ae ?_
 refine rq (out:=Pr.bool false) ae ?_
 refine W_rs ?_
 refine ml (R:=aq 3 (ai ab)) (z:=(List.replicate 3 [])) Tryz.zeroValue34 (fun _=>⟨_,⟨rfl,⟨[Value.slice none 0 0],_,rfl,⟨_,rfl,none,0,rfl,⟨Nat.le_refl _,fun _=>rfl⟩,.inl rfl⟩,⟨[Value.slice none 0 0],_,rfl,⟨_,rfl,none,0,rfl,⟨Nat.le_refl _,fun _=>rfl⟩,.inl rfl⟩,⟨[Value.slice none 0 0],_,rfl,⟨_,rfl,none,0,rfl,⟨Nat.le_refl _,fun _=>rfl⟩,.inl rfl⟩,rfl⟩⟩⟩⟩,rfl⟩) (fun b4=> ?_)
 refine aw ?_
 refine W_rs ?_
 refine rq (out:=ia Tryz.prog (mh x1)) ag ?_
 refine rq (out:=ia Tryz.prog (mh x2)) ag ?_
 refine rq (out:=ia Tryz.prog (mh x3)) ag ?_
 refine rq (out:=af (Rp.fn (fun x=>ia Tryz.prog (mh x)) pfn_one) ([x1,x2,x3]:List (Unit->Option ((List (List UInt8)) × Bool)))) (fm (R:=Rp.fn (fun x=>ia Tryz.prog (mh x)) pfn_one) (ls:=([x1,x2,x3]:List (Unit->Option ((List (List UInt8)) × Bool)))) el120 (Nat.le_of_ble_eq_true rfl) ⟨rfl,rfl⟩ ⟨rfl,rfl,rfl,trivial⟩) ?_
 refine rq (out:=Pr.i64 (([x1,x2,x3]:List (Unit->Option ((List (List UInt8)) × Bool))).length:Int)) (cl rfl Tryz.underlying120) ?_
 refine rq (out:=Pr.i64 0) ag ?_
 refine ar ?_
 obtain⟨z2l,hz2,h⟩:=ah h
 obtain⟨n2,hN2⟩:=a4 hz2
 clear hz2
 refine bp 0 (fun e C=>∃(x6:List (List (List UInt8))),weave_apart_k1 x6=some r/\At [(8,ap b4 0)] [Own.box b4 (aq 3 (ai ab)) x6] e C) ?_ ?_
 ·rintro e C ⟨x6,h,hat1⟩
  refine W_at hat1 ?_
  clear hat1
  unfold weave_apart_k1 at h
  refine W_rs ?_
  obtain⟨x15,hx15,h⟩:=ah h
  refine rq (out:=ap b4 (x15 * 1)) (nm Tryz.underlying34 Tryz.sizeOf33 hx15) ?_
  refine rq (out:=af ab (List.getD x6 x15 [])) (a9 (R:=aq 3 (ai ab)) (a:=x6) (R':=ai ab) 0 ty33 (Sub.arr [] (di hx15))) ?_
  obtain⟨x16,hx16,h⟩:=ah h
  refine rq (out:=ap b4 (x16 * 1)) (nm Tryz.underlying34 Tryz.sizeOf33 hx16) ?_
  refine rq (out:=af ab (List.getD x6 x16 [])) (a9 (R:=aq 3 (ai ab)) (a:=x6) (R':=ai ab) 0 ty33 (Sub.arr [] (di hx16))) ?_
  obtain⟨x17,hx17,h⟩:=ah h
  refine rq (out:=ap b4 (x17 * 1)) (nm Tryz.underlying34 Tryz.sizeOf33 hx17) ?_
  refine rq (out:=af ab (List.getD x6 x17 [])) (a9 (R:=aq 3 (ai ab)) (a:=x6) (R':=ai ab) 0 ty33 (Sub.arr [] (di hx17))) ?_
  obtain⟨x18,hx18,h⟩:=ah h
  refine rq (out:=af al x18) (br (weave_parts_ok (List.getD x6 x15 []) (List.getD x6 x16 []) (List.getD x6 x17 []) _ hx18)) ?_
  refine rq (out:=af al x18) ae ?_
  refine rq (out:=Pr.bool true) ae ?_
  obtain rfl:=Option.some.inj h
  exact bb ⟨rfl,aa⟩
 refine cd (fun m e C=>∃(x5:Int),∃(x6:List (List (List UInt8))),cz (fun s=>dt x1 x2 x3 s.1 s.2) m (x5,x6)=some z2l/\At [(8,ap b4 0),(16,af (Rp.fn (fun x=>ia Tryz.prog (mh x)) pfn_one) ([x1,x2,x3]:List (Unit->Option ((List (List UInt8)) × Bool)))),(17,Pr.i64 (([x1,x2,x3]:List (Unit->Option ((List (List UInt8)) × Bool))).length:Int)),(18,Pr.i64 x5)] [Own.box b4 (aq 3 (ai ab)) x6] e C) n2 ⟨0,(List.replicate 3 []),hN2,⟨⟨aa,aa,aa,aa,trivial⟩,Pick.refl _⟩⟩ ?_
 clear hN2
 rintro m e C ⟨x5,x6,hN2,hatl2⟩
 refine W_at hatl2 ?_
 clear hatl2
 obtain⟨m2,w2l,rfl,h2l,hn2,ho2⟩:=ay hN2
 clear hN2
 replace h2l:dt x1 x2 x3 x5 x6=some w2l:=h2l
 unfold dt at h2l
 refine W_rs ?_
 refine rq (out:=Pr.bool (decide (x5<(([x1,x2,x3]:List (Unit->Option ((List (List UInt8)) × Bool))).length:Int)))) qInt ?_
 refine aw ?_
 refine au (b:=decide (x5<(([x1,x2,x3]:List (Unit->Option ((List (List UInt8)) × Bool))).length:Int))) rfl (fun hc9=> ?_) (fun hc9=> ?_)
 ·replace h2l:=iteT hc9 h2l
  refine av ?_
  refine aw ?_
  refine ar ?_
  refine W_rs ?_
  refine rq (out:=Pr.i64 x5) ag ?_
  obtain⟨x10,hx10,h2l⟩:=ah h2l
  refine rq (out:=a5 (Rp.fn (fun x=>ia Tryz.prog (mh x)) pfn_one) x10) (cr (R:=Rp.fn (fun x=>ia Tryz.prog (mh x)) pfn_one) (l:=([x1,x2,x3]:List (Unit->Option ((List (List UInt8)) × Bool)))) Tryz.underlying120 Tryz.sizeOf101 hx10) ?_
  refine rq (out:=ia Tryz.prog (mh x10)) (bl (R:=Rp.fn (fun x=>ia Tryz.prog (mh x)) pfn_one) (a:=x10) ty101) ?_
  refine rq (out:=Pr.i64 x5) ae ?_
  refine rq (out:=ia Tryz.prog (mh x10)) ae ?_
  refine W_rs ?_
  refine rq (out:=ia Tryz.prog (mh x10)) ag ?_
  obtain⟨⟨x11,x12⟩,hx11,h2l⟩:=ah h2l
  refine rq (out:=bn [af ab x11,Pr.bool x12]) (qCallP (spec:=mh x10) ⟨_,rfl,rfl,hx11⟩) ?_
  refine rq (out:=bn [af ab x11,Pr.bool x12]) ag ?_
  refine rq (out:=af ab x11) a6 ?_
  refine rq (out:=Pr.bool x12) a6 ?_
  refine rq (out:=af ab x11) ae ?_
  refine rq (out:=Pr.bool x12) ae ?_
  refine aw ?_
  refine W_rs ?_
  refine rq (out:=Pr.bool x12) ag ?_
  refine rq (out:=Pr.bool (!x12)) qNot ?_
  refine au (b:= !x12) rfl (fun hc13=> ?_) (fun hc13=> ?_)
  ·replace h2l:=iteT hc13 h2l
   refine W_rs ?_
   refine rq (out:=Pr.is (.slice none 0 0)) ae ?_
   refine rq (out:=Pr.bool false) ae ?_
   obtain rfl:=ho2 _ (Option.some.inj h2l).symm
   replace h:some ([],false)=some r:=h
   obtain rfl:=Option.some.inj h
   exact bb ⟨rfl,tup_le ⟨fk _,aa,trivial⟩⟩
  replace h2l:=iteF hc13 h2l
  refine av ?_
  refine W_r ?_
  refine rq (out:=Pr.i64 x5) ag ?_
  refine rq (out:=af ab x11) ag ?_
  obtain⟨x14,hx14,h2l⟩:=ah h2l
  refine rq (out:=ap b4 (x14 * 1)) (nm Tryz.underlying34 Tryz.sizeOf33 hx14) ?_
  refine ek (R:=aq 3 (ai ab)) (R':=ai ab) (a:=x6) (y:=x11) 0 Tryz.sizeOf33 (Upd.arr (di hx14)) ?_
  refine W_r ?_
  refine rq (out:=Pr.i64 (w64 (x5+1))) qInt ?_
  refine rq (out:=Pr.i64 (w64 (x5+1))) ag ?_
  exact⟨m2,Nat.lt_succ_self _,w64 (x5+1),(List.set x6 x14 x11),hn2 _ (Option.some.inj h2l).symm,⟨⟨aa,aa,aa,aa,trivial⟩,Pick.refl _⟩⟩
 replace h2l:=iteF hc9 h2l
 refine bw ?_
 obtain rfl:=ho2 _ (Option.some.inj h2l).symm
 exact⟨x6,h,⟨⟨aa,trivial⟩,Pick.refl _⟩⟩
theorem lr (x1:List UInt8) (r:(List (List UInt8)) × Bool) (h:c6 x1=some r):FnP Tryz.prog 69 [aj x1] (bn [af ab r.1,Pr.bool r.2]):=by
 refine a7 (n:=34) (rs:=[2,3]) Tryz.func69 rfl Tryz.ntmps69 ⟨by decide,Tryz.results69⟩ (by decide) (fun s0=> ?_)
 unfold c6 at h
 refine W_rs ?_
 refine rq (out:=Pr.is (.slice none 0 0)) ae ?_
 refine rq (out:=Pr.bool false) ae ?_
 refine W_rs ?_
 refine rq (out:=aj x1) ag ?_
 obtain⟨⟨x2,x3,x4⟩,hx2,h⟩:=ah h
 refine rq (out:=bn [af bi x2,Pr.i64 x3,Pr.i64 x4]) (br (lex_Lex_ok x1 _ hx2)) ?_
 refine rq (out:=bn [af bi x2,Pr.i64 x3,Pr.i64 x4]) ag ?_
 refine rq (out:=af bi x2) a6 ?_
 refine rq (out:=Pr.i64 x3) a6 ?_
 refine rq (out:=Pr.i64 x4) a6 ?_
 refine rq (out:=af bi x2) ae ?_
 refine rq (out:=Pr.i64 x3) ae ?_
 refine rq (out:=Pr.i64 x4) ae ?_
 refine aw ?_
 refine W_rs ?_
 refine rq (out:=Pr.i64 x4) ag ?_
 refine rq (out:=Pr.bool (x4 != 0)) qInt ?_
 refine au (b:=x4 != 0) rfl (fun hc5=> ?_) (fun hc5=> ?_)
 ·replace h:=iteT hc5 h
  refine W_rs ?_
  refine rq (out:=Pr.is (.slice none 0 0)) ae ?_
  refine rq (out:=Pr.bool false) ae ?_
  obtain rfl:=Option.some.inj h
  exact bb ⟨rfl,tup_le ⟨fk _,aa,trivial⟩⟩
 replace h:=iteF hc5 h
 refine av ?_
 refine W_rs ?_
 refine rq (out:=Pr.is (.slice none 0 0)) ae ?_
 refine aw ?_
 refine W_rs ?_
 refine rq (out:=af bi x2) ag ?_
 refine rq (out:=Pr.i64 (x2.length:Int)) (cl rfl Tryz.underlying104) ?_
 refine rq (out:=Pr.i64 0) ag ?_
 refine ar ?_
 obtain⟨z2l,hz2,h⟩:=ah h
 obtain⟨n2,hN2⟩:=a4 hz2
 clear hz2
 refine bp 0 (fun e C=>∃(x8:List (List UInt8)),∃(v6:Value),iy x8=some r/\At [(7,Pr.is v6)] [Own.vec v6 ab x8 9] e C) ?_ ?_
 ·rintro e C ⟨x8,v6,h,hat1⟩
  refine W_at hat1 ?_
  clear hat1
  unfold iy at h
  refine W_rs ?_
  refine rq (out:=Pr.is v6) ag ?_
  refine rq (out:=Pr.is v6) ae ?_
  refine rq (out:=Pr.bool true) ae ?_
  refine W_rel 0 [2] ?_ rfl ⟨rfl,trivial⟩
  obtain rfl:=Option.some.inj h
  exact bb ⟨rfl,aa⟩
 refine W_nil [7] ab 9 (fun v18=> ?_) ⟨rfl,trivial⟩
 refine cd (fun m e C=>∃(x7:Int),∃(x8:List (List UInt8)),∃(v6:Value),cz (fun s=>cq x2 s.1 s.2) m (x7,x8)=some z2l/\At [(7,Pr.is v6),(18,af bi x2),(19,Pr.i64 (x2.length:Int)),(20,Pr.i64 x7)] [Own.vec v6 ab x8 9] e C) n2 ⟨0,[],v18,hN2,⟨⟨aa,aa,aa,aa,trivial⟩,Pick.refl _⟩⟩ ?_
 clear hN2
 rintro m e C ⟨x7,x8,v6,hN2,hatl2⟩
 refine W_at hatl2 ?_
 clear hatl2
 obtain⟨m2,w2l,rfl,h2l,hn2,ho2⟩:=ay hN2
 clear hN2
 replace h2l:cq x2 x7 x8=some w2l:=h2l
 unfold cq at h2l
 refine W_rs ?_
 refine rq (out:=Pr.bool (decide (x7<(x2.length:Int)))) qInt ?_
 refine aw ?_
 refine au (b:=decide (x7<(x2.length:Int))) rfl (fun hc12=> ?_) (fun hc12=> ?_)
 ·replace h2l:=iteT hc12 h2l
  refine av ?_
  refine aw ?_
  refine ar ?_
  refine W_rs ?_
  obtain⟨x13,hx13,h2l⟩:=ah h2l
  refine rq (out:=a5 bi x13) (cr (R:=bi) (l:=x2) Tryz.underlying104 Tryz.sizeOf109 hx13) ?_
  refine rq (out:=(bi).val x13) (bl (R:=bi) (a:=x13) ty109) ?_
  refine ml (R:=bi) (z:=(ApiToken.mk 0 [] 0 [])) Tryz.zeroValue109 (fun _=>⟨_,⟨_,_,rfl,rfl,⟨_,_,rfl,rfl,⟨_,_,rfl,rfl,⟨_,_,rfl,rfl,rfl⟩⟩⟩⟩,rfl⟩) (fun b14=> ?_)
  refine ek (R:=bi) (R':=bi) (a:=(ApiToken.mk 0 [] 0 [])) (y:=x13) 1 Tryz.sizeOf109 (Upd.refl _) ?_
  refine W_r ?_
  refine rq (out:=Pr.is v6) ag ?_
  refine rq (out:=ap b14 3) (ax fld109_3) ?_
  refine rq (out:=aj x13.Lead) (a9 (R:=bi) (a:=x13) (R':=ab) 1 ty9 subApiToken_Lead) ?_
  refine rq (out:=ap b14 1) (ax fld109_1) ?_
  refine rq (out:=aj x13.Text) (a9 (R:=bi) (a:=x13) (R':=ab) 1 ty9 subApiToken_Text) ?_
  obtain⟨x15,hx15,h2l⟩:=ah h2l
  refine rq (out:=aj x15) (qCat' hx15) ?_
  refine rq (out:=af ab ([x15]:List (List UInt8))) (bh (R:=ab) (a:=x15) el33 (Nat.le_of_ble_eq_true rfl)) ?_
  obtain⟨x16,hx16,h2l⟩:=ah h2l
  refine cu 0 el33 hx16 (fun v17=> ?_)
  refine rq (out:=Pr.is v17) ae ?_
  refine W_r ?_
  refine rq (out:=Pr.i64 (w64 (x7+1))) qInt ?_
  refine rq (out:=Pr.i64 (w64 (x7+1))) ag ?_
  exact⟨m2,Nat.lt_succ_self _,w64 (x7+1),x16,v17,hn2 _ (Option.some.inj h2l).symm,⟨⟨aa,aa,aa,aa,trivial⟩,Pick.of [0] rfl⟩⟩
 replace h2l:=iteF hc12 h2l
 refine bw ?_
 obtain rfl:=ho2 _ (Option.some.inj h2l).symm
 exact⟨x8,v6,h,⟨⟨aa,trivial⟩,Pick.refl _⟩⟩
theorem weave_Tokens_ok (x1 x2 x3:List UInt8) (r:(List ApiPart) × Bool) (h:weave_Tokens x1 x2 x3=some r):FnP Tryz.prog 58 [aj x1,aj x2,aj x3] (bn [af al r.1,Pr.bool r.2]):=by
 refine a7 (n:=17) (rs:=[6,7]) Tryz.func58 rfl Tryz.ntmps58 ⟨by decide,Tryz.results58⟩ (by decide) (fun s0=> ?_)
 unfold weave_Tokens at h
 refine W_rs ?_
 refine rq (out:=Pr.is (.slice none 0 0)) ae ?_
 refine rq (out:=Pr.bool false) ae ?_
 refine W_rs ?_
 refine rq (out:=aj x1) ag ?_
 refine rq (out:=ej 69 [aj x1] []) gu ?_
 refine rq (out:=aj x2) ag ?_
 refine rq (out:=ej 69 [aj x2] []) gu ?_
 refine rq (out:=aj x3) ag ?_
 refine rq (out:=ej 69 [aj x3] []) gu ?_
 obtain⟨⟨x4,x5⟩,hx4,h⟩:=ah h
 refine rq (out:=bn [af al x4,Pr.bool x5]) (qCall' (weave_apart_ok (fun _=>c6 x1) (fun _=>c6 x2) (fun _=>c6 x3) _ hx4) ⟨(clo_pfn en69 (fun _ _ hs=>by obtain⟨r,rfl,rfl,hr⟩:=hs;exact lr x1 r hr)),(clo_pfn en69 (fun _ _ hs=>by obtain⟨r,rfl,rfl,hr⟩:=hs;exact lr x2 r hr)),(clo_pfn en69 (fun _ _ hs=>by obtain⟨r,rfl,rfl,hr⟩:=hs;exact lr x3 r hr)),trivial⟩) ?_
 refine rq (out:=af al x4) a6 ?_
 refine rq (out:=Pr.bool x5) a6 ?_
 refine rq (out:=af al x4) ae ?_
 refine rq (out:=Pr.bool x5) ae ?_
 obtain rfl:=Option.some.inj h
 exact bb ⟨rfl,aa⟩
theorem weave_Side_ok (x1:List ApiPart) (x2:Int) (r:(List UInt8)) (h:weave_Side x1 x2=some r):FnP Tryz.prog 70 [af al x1,Pr.i64 x2] (aj r):=by
 refine a7 (n:=32) (rs:=[4]) Tryz.func70 rfl Tryz.ntmps70 ⟨by decide,Tryz.results70⟩ (by decide) (fun s0=> ?_)
 unfold weave_Side at h
 refine W_rs ?_
 refine rq (out:=aj []) ae ?_
 refine aw ?_
 refine bg (fun e C=>∃(x4:Bool),l0 x1 x2 x4=some r/\At [(0,af al x1),(1,Pr.i64 x2),(13,Pr.bool x4)] [] e C) ?_ ?_
 ·rintro e C ⟨x4,h,hat3⟩
  refine W_at hat3 ?_
  clear hat3
  unfold l0 at h
  refine au (b:=x4) rfl (fun hc5=> ?_) (fun hc5=> ?_)
  ·replace h:=iteT hc5 h
   refine W_rs ?_
   refine rq (out:=aj []) ae ?_
   obtain rfl:=Option.some.inj h
   exact bb ⟨rfl,aa⟩
  replace h:=iteF hc5 h
  refine av ?_
  refine W_rs ?_
  refine rAllocB (e:=5) Tryz.zeroValue124 (fun b6=> ?_)
  refine aw ?_
  refine W_rs ?_
  refine rq (out:=af al x1) ag ?_
  refine rq (out:=Pr.i64 (x1.length:Int)) (cl rfl Tryz.underlying80) ?_
  refine rq (out:=Pr.i64 0) ag ?_
  refine ar ?_
  obtain⟨z2l,hz2,h⟩:=ah h
  obtain⟨n2,hN2⟩:=a4 hz2
  clear hz2
  refine bp 0 (fun e C=>∃(x9:List UInt8),∃(v8:Value),weave_Side_k1 x9=some r/\At [(5,ap b6 0)] [Own.bld 124 b6 v8,Own.vec v8 en x9 5] e C) ?_ ?_
  ·rintro e C ⟨x9,v8,h,hat1⟩
   refine W_at hat1 ?_
   clear hat1
   unfold weave_Side_k1 at h
   refine W_rs ?_
   refine rCallC [0,1] (Builder_String_ok b6 v8 x9) (fun q C' hq=> ?_)
   obtain⟨rfl,rfl⟩:=hq
   refine rq (out:=aj x9) ae ?_
   obtain rfl:=Option.some.inj h
   exact bb ⟨rfl,aa⟩
  refine cd (fun m e C=>∃(x7:Int),∃(x9:List UInt8),∃(v8:Value),cz (fun s=>ip x1 x2 s.1 s.2) m (x7,x9)=some z2l/\At [(1,Pr.i64 x2),(5,ap b6 0),(14,af al x1),(15,Pr.i64 (x1.length:Int)),(16,Pr.i64 x7)] [Own.bld 124 b6 v8,Own.vec v8 en x9 5] e C) n2 ⟨0,[],(.slice none 0 0),hN2,⟨⟨aa,aa,aa,aa,aa,trivial⟩,Pick.refl _⟩⟩ ?_
  clear hN2
  rintro m e C ⟨x7,x9,v8,hN2,hatl2⟩
  refine W_at hatl2 ?_
  clear hatl2
  obtain⟨m2,w2l,rfl,h2l,hn2,ho2⟩:=ay hN2
  clear hN2
  replace h2l:ip x1 x2 x7 x9=some w2l:=h2l
  unfold ip at h2l
  refine W_rs ?_
  refine rq (out:=Pr.bool (decide (x7<(x1.length:Int)))) qInt ?_
  refine aw ?_
  refine au (b:=decide (x7<(x1.length:Int))) rfl (fun hc13=> ?_) (fun hc13=> ?_)
  ·replace h2l:=iteT hc13 h2l
   refine av ?_
   refine aw ?_
   refine ar ?_
   refine W_rs ?_
   obtain⟨x14,hx14,h2l⟩:=ah h2l
   refine rq (out:=a5 al x14) (cr (R:=al) (l:=x1) Tryz.underlying80 Tryz.sizeOf95 hx14) ?_
   refine rq (out:=(al).val x14) (bl (R:=al) (a:=x14) ty95) ?_
   refine ml (R:=al) (z:=(ApiPart.mk false [] [] [])) Tryz.zeroValue95 (fun _=>⟨_,⟨_,_,rfl,rfl,⟨_,_,rfl,rfl,⟨_,_,rfl,rfl,⟨_,_,rfl,rfl,rfl⟩⟩⟩⟩,rfl⟩) (fun b15=> ?_)
   refine ek (R:=al) (R':=al) (a:=(ApiPart.mk false [] [] [])) (y:=x14) 2 Tryz.sizeOf95 (Upd.refl _) ?_
   refine W_r ?_
   refine rq (out:=ap b15 1) (ax fld95_1) ?_
   refine rq (out:=aj x14.O) (a9 (R:=al) (a:=x14) (R':=ab) 2 ty9 subApiPart_O) ?_
   refine rq (out:=ap b15 2) (ax fld95_2) ?_
   refine rq (out:=aj x14.A) (a9 (R:=al) (a:=x14) (R':=ab) 2 ty9 jh) ?_
   refine rq (out:=ap b15 3) (ax fld95_3) ?_
   refine rq (out:=aj x14.B) (a9 (R:=al) (a:=x14) (R':=ab) 2 ty9 lh) ?_
   refine rq (out:=(aq 3 ab).val ([x14.O,x14.A,x14.B]:List (List UInt8))) (qBuildA (R:=ab) (ls:=([x14.O,x14.A,x14.B]:List (List UInt8))) Tryz.underlying31 Tryz.zeroValue31 rfl Tryz.sizeOf9 (by decide) ⟨rfl,rfl⟩ ⟨rfl,rfl,rfl,trivial⟩) ?_
   refine rq (out:=Pr.i64 x2) ag ?_
   obtain⟨x16,hx16,h2l⟩:=ah h2l
   refine rq (out:=aj x16) (qIdxArr (R:=ab) (l:=([x14.O,x14.A,x14.B]:List (List UInt8))) Tryz.underlying31 Tryz.sizeOf9 Tryz.isAgg9 hx16) ?_
   obtain⟨x17,hx17,h2l⟩:=ah h2l
   refine rCallC [0,1] (Builder_WriteString_ok b6 v8 x9 x16 _ hx17) (fun q C' hq=> ?_)
   obtain⟨v18,rfl,rfl⟩:=hq
   refine W_r ?_
   refine rq (out:=Pr.i64 (w64 (x7+1))) qInt ?_
   refine rq (out:=Pr.i64 (w64 (x7+1))) ag ?_
   exact⟨m2,Nat.lt_succ_self _,w64 (x7+1),x17,v18,hn2 _ (Option.some.inj h2l).symm,⟨⟨aa,aa,aa,aa,aa,trivial⟩,Pick.of [0,1] rfl⟩⟩
  replace h2l:=iteF hc13 h2l
  refine bw ?_
  obtain rfl:=ho2 _ (Option.some.inj h2l).symm
  exact⟨x9,v8,h,⟨⟨aa,trivial⟩,Pick.refl _⟩⟩
 refine W_r ?_
 refine rq (out:=Pr.i64 x2) ag ?_
 refine rq (out:=Pr.bool (decide (x2<0))) qInt ?_
 refine rq (out:=Pr.bool (decide (x2<0))) ag ?_
 rcases bc h with⟨hc3,h⟩|⟨hc3,h⟩
 ·refine rno (neF hc3) ?_
  refine rno (neF hc3) ?_
  refine rq (out:=Pr.bool true) (bo hc3) ?_
  exact⟨true,h,⟨⟨aa,aa,aa,trivial⟩,Pick.refl _⟩⟩
 refine rqg hc3 (out:=Pr.i64 x2) ag ?_
 refine rqg hc3 (out:=Pr.bool (decide (x2>2))) qInt ?_
 refine rq (out:=Pr.bool (decide (x2>2))) (az hc3) ?_
 exact⟨decide (x2>2),h,⟨⟨aa,aa,aa,trivial⟩,Pick.refl _⟩⟩
theorem weave_Join_ok (x1:List ApiPart) (r:(List UInt8) × Bool) (h:weave_Join x1=some r):FnP Tryz.prog 59 [af al x1] (bn [aj r.1,Pr.bool r.2]):=by
 refine a7 (n:=17) (rs:=[2,3]) Tryz.func59 rfl Tryz.ntmps59 ⟨by decide,Tryz.results59⟩ (by decide) (fun s0=> ?_)
 unfold weave_Join at h
 refine W_rs ?_
 refine rq (out:=aj []) ae ?_
 refine rq (out:=Pr.bool false) ae ?_
 refine aw ?_
 refine W_rs ?_
 refine rq (out:=af al x1) ag ?_
 refine rq (out:=Pr.i64 (x1.length:Int)) (cl rfl Tryz.underlying80) ?_
 refine rq (out:=Pr.i64 0) ag ?_
 refine ar ?_
 obtain⟨z2l,hz2,h⟩:=ah h
 obtain⟨n2,hN2⟩:=a4 hz2
 clear hz2
 refine bp 0 (fun e C=>weave_Join_k1 x1=some r/\At [(0,af al x1)] [] e C) ?_ ?_
 ·rintro e C ⟨h,hat1⟩
  refine W_at hat1 ?_
  clear hat1
  unfold weave_Join_k1 at h
  refine W_rs ?_
  refine rq (out:=af al x1) ag ?_
  obtain⟨x8,hx8,h⟩:=ah h
  refine rq (out:=aj x8) (br (weave_Side_ok x1 1 _ hx8)) ?_
  refine rq (out:=aj x8) ae ?_
  refine rq (out:=Pr.bool true) ae ?_
  obtain rfl:=Option.some.inj h
  exact bb ⟨rfl,aa⟩
 refine cd (fun m e C=>∃(x2:Int),cz (fun s=>gh x1 s) m x2=some z2l/\At [(0,af al x1),(6,af al x1),(7,Pr.i64 (x1.length:Int)),(8,Pr.i64 x2)] [] e C) n2 ⟨0,hN2,⟨⟨aa,aa,aa,aa,trivial⟩,Pick.refl _⟩⟩ ?_
 clear hN2
 rintro m e C ⟨x2,hN2,hatl2⟩
 refine W_at hatl2 ?_
 clear hatl2
 obtain⟨m2,w2l,rfl,h2l,hn2,ho2⟩:=ay hN2
 clear hN2
 replace h2l:gh x1 x2=some w2l:=h2l
 unfold gh at h2l
 refine W_rs ?_
 refine rq (out:=Pr.bool (decide (x2<(x1.length:Int)))) qInt ?_
 refine aw ?_
 refine au (b:=decide (x2<(x1.length:Int))) rfl (fun hc4=> ?_) (fun hc4=> ?_)
 ·replace h2l:=iteT hc4 h2l
  refine av ?_
  refine aw ?_
  refine ar ?_
  refine W_rs ?_
  obtain⟨x5,hx5,h2l⟩:=ah h2l
  refine rq (out:=a5 al x5) (cr (R:=al) (l:=x1) Tryz.underlying80 Tryz.sizeOf95 hx5) ?_
  refine rq (out:=(al).val x5) (bl (R:=al) (a:=x5) ty95) ?_
  refine ml (R:=al) (z:=(ApiPart.mk false [] [] [])) Tryz.zeroValue95 (fun _=>⟨_,⟨_,_,rfl,rfl,⟨_,_,rfl,rfl,⟨_,_,rfl,rfl,⟨_,_,rfl,rfl,rfl⟩⟩⟩⟩,rfl⟩) (fun b6=> ?_)
  refine ek (R:=al) (R':=al) (a:=(ApiPart.mk false [] [] [])) (y:=x5) 0 Tryz.sizeOf95 (Upd.refl _) ?_
  refine W_rs ?_
  refine rq (out:=ap b6 0) (ax fld95_0) ?_
  refine rq (out:=Pr.bool x5.Clash) (a9 (R:=al) (a:=x5) (R':=Rp.bool) 0 ty4 ig) ?_
  refine au (b:=x5.Clash) rfl (fun hc7=> ?_) (fun hc7=> ?_)
  ·replace h2l:=iteT hc7 h2l
   refine W_rs ?_
   refine rq (out:=aj []) ae ?_
   refine rq (out:=Pr.bool false) ae ?_
   obtain rfl:=ho2 _ (Option.some.inj h2l).symm
   replace h:some ([],false)=some r:=h
   obtain rfl:=Option.some.inj h
   exact bb ⟨rfl,aa⟩
  replace h2l:=iteF hc7 h2l
  refine av ?_
  refine W_r ?_
  refine rq (out:=Pr.i64 (w64 (x2+1))) qInt ?_
  refine rq (out:=Pr.i64 (w64 (x2+1))) ag ?_
  exact⟨m2,Nat.lt_succ_self _,w64 (x2+1),hn2 _ (Option.some.inj h2l).symm,⟨⟨aa,aa,aa,aa,trivial⟩,Pick.of [] rfl⟩⟩
 replace h2l:=iteF hc4 h2l
 refine bw ?_
 obtain rfl:=ho2 _ (Option.some.inj h2l).symm
 exact⟨h,⟨⟨aa,trivial⟩,Pick.refl _⟩⟩
theorem lines_all_1_ok {σ:Type} (yld:σ->(Int × (List UInt8))->Option (Bool × σ)) (Y:YI σ) (l:Nat) (hY:YOK Tryz.prog Y l (fun a=>[Pr.i64 a.1,aj a.2]) yld) (x2:List UInt8) (x3:σ) (b1:Nat) (v4:List Nat) (r:(List UInt8) × (σ)) (h:lines_all_1 yld x2 x3=some r):FnC Tryz.prog 116 ([]++[Pr.yl l]++[ap b1 0]) ([Own.box b1 ab x2]++[Own.grp Y x3 v4]) (fun _ C'=>∃w9,C'=[Own.box b1 ab r.1]++[Own.grp Y r.2 w9]):=by
 refine fj (n:=33) (rs:=[]) Tryz.func116 rfl Tryz.ntmps116 ⟨by decide,Tryz.results116⟩ (by decide) (fun s0=> ?_)
 unfold lines_all_1 at h
 refine W_rs ?_
 refine rq (out:=Pr.i64 0) ae ?_
 refine ar ?_
 obtain⟨z2l,hz2,h⟩:=ah h
 obtain⟨n2,hN2⟩:=a4 hz2
 clear hz2
 refine bp 0 (fun e C=>∃(x6:σ),∃(v7:List Nat),lines_all_1_k1 yld x2 x6=some r/\At [] [Own.box b1 ab x2,Own.grp Y x6 v7] e C) ?_ ?_
 ·rintro e C ⟨x6,v7,h,hat1⟩
  unfold lines_all_1_k1 at h
  obtain rfl:=Option.some.inj h
  exact⟨.inr rfl,_,(Pick.trans hat1.2 (Pick.refl _)),_,aa,v7,rfl⟩
 refine cd (fun m e C=>∃(x5:Int),∃(x6:σ),∃(v7:List Nat),cz (fun s=>ep yld x2 s.1 s.2) m (x5,x6)=some z2l/\At [(0,Pr.yl l),(1,ap b1 0),(3,Pr.i64 x5)] [Own.box b1 ab x2,Own.grp Y x6 v7] e C) n2 ⟨0,x3,v4,hN2,⟨⟨aa,aa,aa,trivial⟩,Pick.refl _⟩⟩ ?_
 clear hN2
 rintro m e C ⟨x5,x6,v7,hN2,hatl2⟩
 refine W_at hatl2 ?_
 clear hatl2
 obtain⟨m2,w2l,rfl,h2l,hn2,ho2⟩:=ay hN2
 clear hN2
 replace h2l:ep yld x2 x5 x6=some w2l:=h2l
 unfold ep at h2l
 refine aw ?_
 refine W_rs ?_
 refine rq (out:=Pr.i64 x5) ag ?_
 refine rq (out:=aj x2) (a9 (R:=ab) (a:=x2) (R':=ab) 0 ty9 (Sub.refl _)) ?_
 refine rq (out:=Pr.i64 (x2.length:Int)) (qLenS rfl Tryz.underlying9) ?_
 refine rq (out:=Pr.bool (decide (x5<(x2.length:Int)))) qInt ?_
 refine au (b:=decide (x5<(x2.length:Int))) rfl (fun hc11=> ?_) (fun hc11=> ?_)
 ·replace h2l:=iteT hc11 h2l
  refine av ?_
  refine ar ?_
  refine W_rs ?_
  refine rq (out:=aj x2) (a9 (R:=ab) (a:=x2) (R':=ab) 0 ty9 (Sub.refl _)) ?_
  refine rq (out:=Pr.i64 x5) ag ?_
  obtain⟨x12,hx12,h2l⟩:=ah h2l
  refine rq (out:=aj x12) (qSubL Tryz.underlying9 hx12) ?_
  obtain⟨x13,hx13,h2l⟩:=ah h2l
  refine rq (out:=Pr.i64 x13) (br (strings_IndexByte_ok x12 10 _ hx13)) ?_
  refine rq (out:=Pr.i64 (w64 (x13+1))) qInt ?_
  refine rq (out:=Pr.i64 (w64 (x13+1))) ae ?_
  refine bg (fun e C=>∃(x15:Int),kr yld x2 x5 x6 x15=some w2l/\At [(0,Pr.yl l),(1,ap b1 0),(3,Pr.i64 x5),(4,Pr.i64 x15)] [Own.box b1 ab x2,Own.grp Y x6 v7] e C) ?_ ?_
  ·rintro e C ⟨x15,h2l,hat3⟩
   refine W_at hat3 ?_
   clear hat3
   unfold kr at h2l
   refine aw ?_
   refine W_rs ?_
   refine rq (out:=Pr.yl l) ag ?_
   refine rq (out:=Pr.i64 x5) ag ?_
   refine rq (out:=aj x2) (a9 (R:=ab) (a:=x2) (R':=ab) 0 ty9 (Sub.refl _)) ?_
   refine rq (out:=Pr.i64 x5) ag ?_
   refine rq (out:=Pr.i64 x5) ag ?_
   refine rq (out:=Pr.i64 x15) ag ?_
   refine rq (out:=Pr.i64 (w64 (x5+x15))) qInt ?_
   obtain⟨x16,hx16,h2l⟩:=ah h2l
   refine rq (out:=aj x16) (qSubLH Tryz.underlying9 hx16) ?_
   obtain⟨⟨x17,x18⟩,hx17,h2l⟩:=ah h2l
   refine rYield 1 (a:=(x5,x16)) hY hx17 (fun v19=> ?_)
   refine rq (out:=Pr.bool (!x17)) qNot ?_
   refine au (b:= !x17) rfl (fun hc20=> ?_) (fun hc20=> ?_)
   ·replace h2l:=iteT hc20 h2l
    obtain rfl:=ho2 _ (Option.some.inj h2l).symm
    replace h:some (x2,x18)=some r:=h
    obtain rfl:=Option.some.inj h
    exact bb ⟨.inl rfl,_,Pick.of [1,0] rfl,_,aa,v19,rfl⟩
   replace h2l:=iteF hc20 h2l
   refine av ?_
   refine W_r ?_
   refine rq (out:=Pr.i64 x5) ag ?_
   refine rq (out:=Pr.i64 x15) ag ?_
   refine rq (out:=Pr.i64 (w64 (x5+x15))) qInt ?_
   refine rq (out:=Pr.i64 (w64 (x5+x15))) ae ?_
   exact⟨m2,Nat.lt_succ_self _,w64 (x5+x15),x18,v19,hn2 _ (Option.some.inj h2l).symm,⟨⟨aa,aa,aa,trivial⟩,Pick.of [1,0] rfl⟩⟩
  refine W_rs ?_
  refine rq (out:=Pr.i64 (w64 (x13+1))) ag ?_
  refine rq (out:=Pr.bool ((w64 (x13+1))==0)) qInt ?_
  refine au (b:=(w64 (x13+1))==0) rfl (fun hc14=> ?_) (fun hc14=> ?_)
  ·replace h2l:=iteT hc14 h2l
   refine W_r ?_
   refine rq (out:=aj x2) (a9 (R:=ab) (a:=x2) (R':=ab) 0 ty9 (Sub.refl _)) ?_
   refine rq (out:=Pr.i64 (x2.length:Int)) (qLenS rfl Tryz.underlying9) ?_
   refine rq (out:=Pr.i64 x5) ag ?_
   refine rq (out:=Pr.i64 (w64 ((x2.length:Int) - x5))) qInt ?_
   refine rq (out:=Pr.i64 (w64 ((x2.length:Int) - x5))) ae ?_
   exact⟨w64 ((x2.length:Int) - x5),h2l,⟨⟨aa,aa,aa,aa,trivial⟩,Pick.refl _⟩⟩
  replace h2l:=iteF hc14 h2l
  refine av ?_
  exact⟨w64 (x13+1),h2l,⟨⟨aa,aa,aa,aa,trivial⟩,Pick.refl _⟩⟩
 replace h2l:=iteF hc11 h2l
 refine bw ?_
 obtain rfl:=ho2 _ (Option.some.inj h2l).symm
 exact⟨x6,v7,h,⟨trivial,Pick.refl _⟩⟩
theorem lines_all_ok (x1:List UInt8):FnC Tryz.prog 95 [aj x1] [] (fun q C'=>∃b2,q=ej 116 [] [ap b2 0]/\C'=[Own.box b2 ab x1]):=by
 refine fj (n:=4) (rs:=[2]) Tryz.func95 rfl Tryz.ntmps95 ⟨by decide,Tryz.results95⟩ (by decide) (fun s0=> ?_)
 refine W_rs ?_
 refine rBox (R:=ab) (a:=x1) rfl (fun b2=> ?_)
 refine rq (out:=Pr.is .nilFunc) ae ?_
 refine W_rs ?_
 refine rq (out:=ej 116 [] [ap b2 0]) gu ?_
 refine rq (out:=ej 116 [] [ap b2 0]) ae ?_
 exact bb ⟨.inl rfl,_,Pick.refl _,_,aa,b2,rfl,rfl⟩
theorem lines_Split_ok (x1:List UInt8) (r:(List (List UInt8))) (h:lines_Split x1=some r):FnP Tryz.prog 82 [aj x1] (af ab r):=by
 refine a7 (n:=15) (rs:=[2]) Tryz.func82 rfl Tryz.ntmps82 ⟨by decide,Tryz.results82⟩ (by decide) (fun s0=> ?_)
 unfold lines_Split at h
 refine W_rs ?_
 refine rq (out:=Pr.is (.slice none 0 0)) ae ?_
 refine W_rs ?_
 refine rAllocC Tryz.zeroValue33 rfl rfl (fun b2=> ?_)
 refine W_rs2 ?_
 refine W_r ?_
 refine rq (out:=aj x1) ag ?_
 refine rCallC [] (lines_all_ok x1) (fun q C' hq=> ?_)
 obtain⟨b3,rfl,rfl⟩:=hq
 refine⟨rfl,?_⟩
 obtain⟨⟨x12,x13⟩,hx14,h⟩:=ah h
 refine WR_vec ab 9 ?_
 refine W_range [0] (fun(s:(List (List UInt8))) C=>∃(v6:Value),C=[Own.cell b2 (Pr.is v6),Own.vec v6 ab s 9]) (encs:=(fun(a:Int × (List UInt8))=>[Pr.i64 a.1,aj a.2])) (yld:=(fun(s:(List (List UInt8))) (a:Int × (List UInt8))=>fu s a.1 a.2)) (st0:=[]) (stF:=x13) (Ccap':=[Own.box b3 ab x12]) (fun l Y L hY=>lines_all_1_ok _ Y l hY x1 [] b3 L _ hx14) ⟨(.slice none 0 0),rfl⟩ (fun _=>rfl) ?_ ?_ (fun _ _ _ h=>h.1)
 ·rintro l x7 ⟨x4,x5⟩ ⟨rb1,rs1⟩ C T s0 ⟨v6,rfl⟩ hy1
  replace hy1:fu x7 x4 x5=some (rb1,rs1):=hy1
  unfold fu at hy1
  refine W_r ?_
  refine rq (out:=aj x5) ae ?_
  refine⟨rfl,fun T s0=> ?_⟩
  refine W_pickK ?_
  refine ar ?_
  refine W_r ?_
  refine rq (out:=Pr.is v6) (qLoadP 0 Tryz.isAgg33) ?_
  refine rq (out:=aj x5) ag ?_
  refine rq (out:=af ab ([x5]:List (List UInt8))) (bh (R:=ab) (a:=x5) el33 (Nat.le_of_ble_eq_true rfl)) ?_
  obtain⟨x10,hx10,hy1⟩:=ah hy1
  refine cu 1 el33 hx10 (fun v11=> ?_)
  refine rStoreV 0 1 Tryz.sizeOf33 ?_
  obtain⟨rfl,rfl⟩:=Prod.mk.inj (Option.some.inj hy1)
  exact⟨_,Pick.refl _,rfl,rfl,v11,rfl⟩
 rintro D C' T s0 ⟨v6,rfl⟩
 refine W_rs ?_
 refine rq (out:=Pr.is v6) (qLoadP 1 Tryz.isAgg33) ?_
 refine rq (out:=Pr.is v6) ae ?_
 refine W_rel 2 [2] ?_ rfl ⟨rfl,trivial⟩
 obtain rfl:=Option.some.inj h
 exact bb ⟨rfl,aa⟩
theorem lu (x1:List UInt8) (r:(List (List UInt8)) × Bool) (h:dc x1=some r):FnP Tryz.prog 71 [aj x1] (bn [af ab r.1,Pr.bool r.2]):=by
 refine a7 (n:=6) (rs:=[2,3]) Tryz.func71 rfl Tryz.ntmps71 ⟨by decide,Tryz.results71⟩ (by decide) (fun s0=> ?_)
 unfold dc at h
 refine W_rs ?_
 refine rq (out:=Pr.is (.slice none 0 0)) ae ?_
 refine rq (out:=Pr.bool false) ae ?_
 refine W_rs ?_
 refine rq (out:=aj x1) ag ?_
 obtain⟨x2,hx2,h⟩:=ah h
 refine rq (out:=af ab x2) (br (lines_Split_ok x1 _ hx2)) ?_
 refine rq (out:=af ab x2) ae ?_
 refine rq (out:=Pr.bool true) ae ?_
 obtain rfl:=Option.some.inj h
 exact bb ⟨rfl,aa⟩
theorem weave_Lines_ok (x1 x2 x3:List UInt8) (r:(List ApiPart)) (h:weave_Lines x1 x2 x3=some r):FnP Tryz.prog 60 [aj x1,aj x2,aj x3] (af al r):=by
 refine a7 (n:=20) (rs:=[6]) Tryz.func60 rfl Tryz.ntmps60 ⟨by decide,Tryz.results60⟩ (by decide) (fun s0=> ?_)
 unfold weave_Lines at h
 refine W_rs ?_
 refine rq (out:=Pr.is (.slice none 0 0)) ae ?_
 refine W_rs ?_
 refine rq (out:=aj x1) ag ?_
 refine rq (out:=ej 71 [aj x1] []) gu ?_
 refine rq (out:=aj x2) ag ?_
 refine rq (out:=ej 71 [aj x2] []) gu ?_
 refine rq (out:=aj x3) ag ?_
 refine rq (out:=ej 71 [aj x3] []) gu ?_
 obtain⟨⟨x4,x5⟩,hx4,h⟩:=ah h
 refine rq (out:=bn [af al x4,Pr.bool x5]) (qCall' (weave_apart_ok (fun _=>dc x1) (fun _=>dc x2) (fun _=>dc x3) _ hx4) ⟨(clo_pfn en71 (fun _ _ hs=>by obtain⟨r,rfl,rfl,hr⟩:=hs;exact lu x1 r hr)),(clo_pfn en71 (fun _ _ hs=>by obtain⟨r,rfl,rfl,hr⟩:=hs;exact lu x2 r hr)),(clo_pfn en71 (fun _ _ hs=>by obtain⟨r,rfl,rfl,hr⟩:=hs;exact lu x3 r hr)),trivial⟩) ?_
 refine rq (out:=bn [af al x4,Pr.bool x5]) ag ?_
 refine rq (out:=af al x4) a6 ?_
 refine rq (out:=Pr.bool x5) a6 ?_
 refine rq (out:=af al x4) ae ?_
 refine rq (out:=Pr.bool x5) ae ?_
 refine W_rs ?_
 refine rq (out:=af al x4) ag ?_
 refine rq (out:=af al x4) ae ?_
 obtain rfl:=Option.some.inj h
 exact bb ⟨rfl,aa⟩
theorem weave_Text_ok (x1 x2 x3:List UInt8) (r:(List UInt8) × Bool) (h:weave_Text x1 x2 x3=some r):FnP Tryz.prog 47 [aj x1,aj x2,aj x3] (bn [aj r.1,Pr.bool r.2]):=by
 refine a7 (n:=47) (rs:=[6,7]) Tryz.func47 rfl Tryz.ntmps47 ⟨by decide,Tryz.results47⟩ (by decide) (fun s0=> ?_)
 unfold weave_Text at h
 refine W_rs ?_
 refine rq (out:=aj []) ae ?_
 refine rq (out:=Pr.bool false) ae ?_
 refine aw ?_
 refine ar ?_
 refine W_rs ?_
 refine rq (out:=aj x2) ag ?_
 refine rq (out:=aj x1) ag ?_
 refine rq (out:=Pr.bool (x2==x1)) qStr ?_
 refine rq (out:=Pr.bool (x2==x1)) ae ?_
 refine au (b:=x2==x1) rfl (fun hc4=> ?_) (fun hc4=> ?_)
 ·replace h:=iteT hc4 h
  refine W_rs ?_
  refine rq (out:=aj x3) ag ?_
  refine rq (out:=aj x3) ae ?_
  refine rq (out:=Pr.bool true) ae ?_
  obtain rfl:=Option.some.inj h
  exact bb ⟨rfl,aa⟩
 replace h:=iteF hc4 h
 refine bg (fun e C=>∃(x6:Bool),io x2 x1 x3 x6=some r/\At [(0,aj x1),(1,aj x2),(2,aj x3),(17,Pr.bool x6)] [] e C) ?_ ?_
 ·rintro e C ⟨x6,h,hat2⟩
  refine W_at hat2 ?_
  clear hat2
  unfold io at h
  refine au (b:=x6) rfl (fun hc7=> ?_) (fun hc7=> ?_)
  ·replace h:=iteT hc7 h
   refine W_rs ?_
   refine rq (out:=aj x2) ag ?_
   refine rq (out:=aj x2) ae ?_
   refine rq (out:=Pr.bool true) ae ?_
   obtain rfl:=Option.some.inj h
   exact bb ⟨rfl,aa⟩
  replace h:=iteF hc7 h
  refine av ?_
  refine bg (fun e C=>lz x1 x2 x3=some r/\At [(0,aj x1),(1,aj x2),(2,aj x3)] [] e C) ?_ ?_
  ·rintro e C ⟨h,hat1⟩
   refine W_at hat1 ?_
   clear hat1
   unfold lz at h
   refine W_rs ?_
   refine rq (out:=aj x1) ag ?_
   refine rq (out:=aj x2) ag ?_
   refine rq (out:=aj x3) ag ?_
   obtain⟨x14,hx14,h⟩:=ah h
   refine rq (out:=af al x14) (br (weave_Lines_ok x1 x2 x3 _ hx14)) ?_
   obtain⟨⟨x15,x16⟩,hx15,h⟩:=ah h
   refine rq (out:=bn [aj x15,Pr.bool x16]) (br (weave_Join_ok x14 _ hx15)) ?_
   refine rq (out:=aj x15) a6 ?_
   refine rq (out:=Pr.bool x16) a6 ?_
   refine rq (out:=aj x15) ae ?_
   refine rq (out:=Pr.bool x16) ae ?_
   obtain rfl:=Option.some.inj h
   exact bb ⟨rfl,aa⟩
  refine W_rs ?_
  refine rq (out:=aj x1) ag ?_
  refine rq (out:=aj x2) ag ?_
  refine rq (out:=aj x3) ag ?_
  obtain⟨⟨x8,x9⟩,hx8,h⟩:=ah h
  refine rq (out:=bn [af al x8,Pr.bool x9]) (br (weave_Tokens_ok x1 x2 x3 _ hx8)) ?_
  refine rq (out:=bn [af al x8,Pr.bool x9]) ag ?_
  refine rq (out:=af al x8) a6 ?_
  refine rq (out:=Pr.bool x9) a6 ?_
  refine rq (out:=af al x8) ae ?_
  refine rq (out:=Pr.bool x9) ae ?_
  refine W_rs ?_
  refine rq (out:=Pr.bool x9) ag ?_
  refine au (b:=x9) rfl (fun hc10=> ?_) (fun hc10=> ?_)
  ·replace h:=iteT hc10 h
   refine W_rs ?_
   refine rq (out:=af al x8) ag ?_
   obtain⟨⟨x11,x12⟩,hx11,h⟩:=ah h
   refine rq (out:=bn [aj x11,Pr.bool x12]) (br (weave_Join_ok x8 _ hx11)) ?_
   refine rq (out:=bn [aj x11,Pr.bool x12]) ag ?_
   refine rq (out:=aj x11) a6 ?_
   refine rq (out:=Pr.bool x12) a6 ?_
   refine rq (out:=aj x11) ae ?_
   refine rq (out:=Pr.bool x12) ae ?_
   refine W_rs ?_
   refine rq (out:=Pr.bool x12) ag ?_
   refine au (b:=x12) rfl (fun hc13=> ?_) (fun hc13=> ?_)
   ·replace h:=iteT hc13 h
    refine W_rs ?_
    refine rq (out:=aj x11) ag ?_
    refine rq (out:=aj x11) ae ?_
    refine rq (out:=Pr.bool true) ae ?_
    obtain rfl:=Option.some.inj h
    exact bb ⟨rfl,aa⟩
   replace h:=iteF hc13 h
   refine av ?_
   exact⟨h,⟨⟨aa,aa,aa,trivial⟩,Pick.refl _⟩⟩
  replace h:=iteF hc10 h
  refine av ?_
  exact⟨h,⟨⟨aa,aa,aa,trivial⟩,Pick.refl _⟩⟩
 refine W_rs ?_
 refine rq (out:=aj x3) ag ?_
 refine rq (out:=aj x1) ag ?_
 refine rq (out:=Pr.bool (x3==x1)) qStr ?_
 refine rq (out:=Pr.bool (x3==x1)) ae ?_
 refine au (b:=x3==x1) rfl (fun hc5=> ?_) (fun hc5=> ?_)
 ·replace h:=iteT hc5 h
  refine av ?_
  exact⟨x3==x1,h,⟨⟨aa,aa,aa,aa,trivial⟩,Pick.refl _⟩⟩
 replace h:=iteF hc5 h
 refine W_r ?_
 refine rq (out:=aj x2) ag ?_
 refine rq (out:=aj x3) ag ?_
 refine rq (out:=Pr.bool (x2==x3)) qStr ?_
 refine rq (out:=Pr.bool (x2==x3)) ae ?_
 exact⟨x2==x3,h,⟨⟨aa,aa,aa,aa,trivial⟩,Pick.refl _⟩⟩
end Go.Proofs.YtphkaogfinjbjaaGreatDoor
