/- The code comes to what these functions say (printed by wip/gen/gen.py). -/
import Derived.Test.YtphkaogfinjbjaaGreatDoorZX
import Derived.Test.YtphkaogfinjbjaaGreatDoorZT
set_option linter.unusedSimpArgs false
set_option linter.unusedVariables false
set_option linter.unusedSectionVars false
set_option linter.unusedSectionVars false
set_option maxRecDepth 100000
set_option maxHeartbeats 4000000
namespace Go.Proofs.YtphkaogfinjbjaaGreatDoor
open Go Go.Cn
variable [Known]
theorem mc (x1:List (List UInt8)) (r:(List (List UInt8))) (h:kc x1=some r):FnP Tryz.prog 26 [af ab x1] (af ab r):=by
 refine a7 (n:=26) (rs:=[2]) Tryz.func26 rfl Tryz.ntmps26 ⟨by decide,Tryz.results26⟩ (by decide) (fun s0=> ?_)
 unfold kc at h
 refine W_rs ?_
 refine rq (out:=Pr.is (.slice none 0 0)) ae ?_
 refine W_rs ?_
 refine rMakeMap Rp.bool (fun b2=> ?_)
 refine rq (out:=Pr.mp b2) ae ?_
 refine W_rs ?_
 refine rq (out:=Pr.is (.slice none 0 0)) ae ?_
 refine aw ?_
 refine W_rs ?_
 refine rq (out:=af ab x1) ag ?_
 refine rq (out:=Pr.i64 (x1.length:Int)) (cl rfl Tryz.underlying33) ?_
 refine rq (out:=Pr.i64 0) ag ?_
 refine ar ?_
 obtain⟨z2l,hz2,h⟩:=ah h
 obtain⟨n2,hN2⟩:=a4 hz2
 clear hz2
 refine bp 0 (fun e C=>∃(x5:SMap Bool),∃(x6:List (List UInt8)),∃(v3:Value),cells_once_k1 x5 x6=some r/\At [(4,Pr.is v3)] [Own.smap b2 Rp.bool x5,Own.vec v3 ab x6 9] e C) ?_ ?_
 ·rintro e C ⟨x5,x6,v3,h,hat1⟩
  refine W_at hat1 ?_
  clear hat1
  unfold cells_once_k1 at h
  refine W_rs ?_
  refine rq (out:=Pr.is v3) ag ?_
  refine rq (out:=Pr.is v3) ae ?_
  refine W_rel 1 [2] ?_ rfl ⟨rfl,trivial⟩
  obtain rfl:=Option.some.inj h
  exact bb ⟨rfl,aa⟩
 refine W_nil [4] ab 9 (fun v18=> ?_) ⟨rfl,trivial⟩
 refine cd (fun m e C=>∃(x4:Int),∃(x5:SMap Bool),∃(x6:List (List UInt8)),∃(v3:Value),cz (fun s=>ix x1 s.1 s.2.1 s.2.2) m (x4,x5,x6)=some z2l/\At [(3,Pr.mp b2),(4,Pr.is v3),(8,af ab x1),(9,Pr.i64 (x1.length:Int)),(10,Pr.i64 x4)] [Own.smap b2 Rp.bool x5,Own.vec v3 ab x6 9] e C) n2 ⟨0,([]:SMap Bool),[],v18,hN2,⟨⟨aa,aa,aa,aa,aa,trivial⟩,Pick.refl _⟩⟩ ?_
 clear hN2
 rintro m e C ⟨x4,x5,x6,v3,hN2,hatl2⟩
 refine W_at hatl2 ?_
 clear hatl2
 obtain⟨m2,w2l,rfl,h2l,hn2,ho2⟩:=ay hN2
 clear hN2
 replace h2l:ix x1 x4 x5 x6=some w2l:=h2l
 unfold ix at h2l
 refine W_rs ?_
 refine rq (out:=Pr.bool (decide (x4<(x1.length:Int)))) qInt ?_
 refine aw ?_
 refine au (b:=decide (x4<(x1.length:Int))) rfl (fun hc11=> ?_) (fun hc11=> ?_)
 ·replace h2l:=iteT hc11 h2l
  refine av ?_
  refine aw ?_
  refine ar ?_
  refine W_rs ?_
  obtain⟨x12,hx12,h2l⟩:=ah h2l
  refine rq (out:=a5 ab x12) (cr (R:=ab) (l:=x1) Tryz.underlying33 Tryz.sizeOf9 hx12) ?_
  refine rq (out:=aj x12) (bl (R:=ab) (a:=x12) ty9) ?_
  refine rq (out:=aj x12) ae ?_
  refine bg (fun e C=>∃(x17:List (List UInt8)),∃(v16:Value),cells_once_j3 x4 x12 x5 x17=some w2l/\At [(3,Pr.mp b2),(4,Pr.is v16),(6,aj x12),(8,af ab x1),(9,Pr.i64 (x1.length:Int)),(10,Pr.i64 x4)] [Own.smap b2 Rp.bool x5,Own.vec v16 ab x17 9] e C) ?_ ?_
  ·rintro e C ⟨x17,v16,h2l,hat3⟩
   refine W_at hat3 ?_
   clear hat3
   unfold cells_once_j3 at h2l
   refine W_r ?_
   refine rq (out:=Pr.mp b2) ag ?_
   refine rq (out:=aj x12) ag ?_
   refine rMapSet (R:=Rp.bool) (m:=x5) (kx:=x12) (v:=true) 0 Tryz.underlying77 Tryz.underlying9 ?_
   refine W_r ?_
   refine rq (out:=Pr.i64 (w64 (x4+1))) qInt ?_
   refine rq (out:=Pr.i64 (w64 (x4+1))) ag ?_
   exact⟨m2,Nat.lt_succ_self _,w64 (x4+1),(mset x12 true x5),x17,v16,hn2 _ (Option.some.inj h2l).symm,⟨⟨aa,aa,aa,aa,aa,trivial⟩,Pick.refl _⟩⟩
  refine W_rs ?_
  refine rq (out:=Pr.mp b2) ag ?_
  refine rq (out:=aj x12) ag ?_
  refine rq (out:=Pr.bool (mget x12 false x5)) (qMapGet (R:=Rp.bool) (m:=x5) (kx:=x12) (z:=false) 0 Tryz.underlying77 Tryz.underlying9 Tryz.zeroValue4 (fun _=>rfl)) ?_
  refine rq (out:=Pr.bool (!(mget x12 false x5))) qNot ?_
  refine au (b:= !(mget x12 false x5)) rfl (fun hc13=> ?_) (fun hc13=> ?_)
  ·replace h2l:=iteT hc13 h2l
   refine W_r ?_
   refine rq (out:=Pr.is v3) ag ?_
   refine rq (out:=aj x12) ag ?_
   refine rq (out:=af ab ([x12]:List (List UInt8))) (bh (R:=ab) (a:=x12) el33 (Nat.le_of_ble_eq_true rfl)) ?_
   obtain⟨x14,hx14,h2l⟩:=ah h2l
   refine cu 1 el33 hx14 (fun v15=> ?_)
   refine rq (out:=Pr.is v15) ae ?_
   exact⟨x14,v15,h2l,⟨⟨aa,aa,aa,aa,aa,aa,trivial⟩,Pick.refl _⟩⟩
  replace h2l:=iteF hc13 h2l
  refine av ?_
  exact⟨x6,v3,h2l,⟨⟨aa,aa,aa,aa,aa,aa,trivial⟩,Pick.refl _⟩⟩
 replace h2l:=iteF hc11 h2l
 refine bw ?_
 obtain rfl:=ho2 _ (Option.some.inj h2l).symm
 exact⟨x5,x6,v3,h,⟨⟨aa,trivial⟩,Pick.refl _⟩⟩
theorem cells_keys_ok (x1:List (List ApiSegment)) (r:(List (List UInt8))) (h:cells_keys x1=some r):FnP Tryz.prog 24 [af (ai ak) x1] (af ab r):=by
 refine a7 (n:=29) (rs:=[2]) Tryz.func24 rfl Tryz.ntmps24 ⟨by decide,Tryz.results24⟩ (by decide) (fun s0=> ?_)
 unfold cells_keys at h
 refine W_rs ?_
 refine rq (out:=Pr.is (.slice none 0 0)) ae ?_
 refine W_rs ?_
 refine rq (out:=Pr.is (.slice none 0 0)) ae ?_
 refine aw ?_
 refine W_rs ?_
 refine rq (out:=af (ai ak) x1) ag ?_
 refine rq (out:=Pr.i64 (x1.length:Int)) (cl rfl Tryz.underlying73) ?_
 refine rq (out:=Pr.i64 0) ag ?_
 refine ar ?_
 obtain⟨z2l,hz2,h⟩:=ah h
 obtain⟨n2,hN2⟩:=a4 hz2
 clear hz2
 refine bp 0 (fun e C=>∃(x4:List (List UInt8)),∃(v2:Value),cells_keys_k1 x4=some r/\At [(3,Pr.is v2)] [Own.vec v2 ab x4 9] e C) ?_ ?_
 ·rintro e C ⟨x4,v2,h,hat1⟩
  refine W_at hat1 ?_
  clear hat1
  unfold cells_keys_k1 at h
  refine W_rs ?_
  refine rq (out:=Pr.is v2) ag ?_
  obtain⟨x21,hx21,h⟩:=ah h
  refine rRel 0 [3,27] ?_ rfl ⟨rfl,rfl,trivial⟩
  refine rq (out:=af ab x21) (br (mc x4 _ hx21)) ?_
  refine rq (out:=af ab x21) ae ?_
  obtain rfl:=Option.some.inj h
  exact bb ⟨rfl,aa⟩
 refine W_nil [3] ab 9 (fun v22=> ?_) ⟨rfl,trivial⟩
 refine cd (fun m e C=>∃(x3:Int),∃(x4:List (List UInt8)),∃(v2:Value),cz (fun s=>cells_keys_l2 x1 s.1 s.2) m (x3,x4)=some z2l/\At [(3,Pr.is v2),(8,af (ai ak) x1),(9,Pr.i64 (x1.length:Int)),(10,Pr.i64 x3)] [Own.vec v2 ab x4 9] e C) n2 ⟨0,[],v22,hN2,⟨⟨aa,aa,aa,aa,trivial⟩,Pick.refl _⟩⟩ ?_
 clear hN2
 rintro m e C ⟨x3,x4,v2,hN2,hatl2⟩
 refine W_at hatl2 ?_
 clear hatl2
 obtain⟨m2,w2l,rfl,h2l,hn2,ho2⟩:=ay hN2
 clear hN2
 replace h2l:cells_keys_l2 x1 x3 x4=some w2l:=h2l
 unfold cells_keys_l2 at h2l
 refine W_rs ?_
 refine rq (out:=Pr.bool (decide (x3<(x1.length:Int)))) qInt ?_
 refine aw ?_
 refine au (b:=decide (x3<(x1.length:Int))) rfl (fun hc8=> ?_) (fun hc8=> ?_)
 ·replace h2l:=iteT hc8 h2l
  refine av ?_
  refine aw ?_
  refine ar ?_
  refine W_rs ?_
  obtain⟨x9,hx9,h2l⟩:=ah h2l
  refine rq (out:=a5 (ai ak) x9) (cr (R:=ai ak) (l:=x1) Tryz.underlying73 Tryz.sizeOf22 hx9) ?_
  refine rq (out:=af ak x9) (bl (R:=ai ak) (a:=x9) ty22) ?_
  refine rq (out:=af ak x9) ae ?_
  refine W_rs ?_
  refine rq (out:=af ak x9) ag ?_
  refine rq (out:=Pr.i64 (x9.length:Int)) (cl rfl Tryz.underlying22) ?_
  refine rq (out:=Pr.i64 0) ag ?_
  refine ar ?_
  obtain⟨z4l,hz4,h2l⟩:=ah h2l
  obtain⟨n4,hN4⟩:=a4 hz4
  clear hz4
  refine bp 2 (fun e C=>∃(x12:List (List UInt8)),∃(v10:Value),cells_keys_k3 x3 x12=some w2l/\At [(3,Pr.is v10),(8,af (ai ak) x1),(9,Pr.i64 (x1.length:Int)),(10,Pr.i64 x3)] [Own.vec v10 ab x12 9] e C) ?_ ?_
  ·rintro e C ⟨x12,v10,h2l,hat3⟩
   refine W_at hat3 ?_
   clear hat3
   unfold cells_keys_k3 at h2l
   refine W_r ?_
   refine rq (out:=Pr.i64 (w64 (x3+1))) qInt ?_
   refine rq (out:=Pr.i64 (w64 (x3+1))) ag ?_
   exact⟨m2,Nat.lt_succ_self _,w64 (x3+1),x12,v10,hn2 _ (Option.some.inj h2l).symm,⟨⟨aa,aa,aa,aa,trivial⟩,Pick.refl _⟩⟩
  refine cd (fun m e C=>∃(x11:Int),∃(x12:List (List UInt8)),∃(v10:Value),cz (fun s=>cells_keys_l4 x9 s.1 s.2) m (x11,x12)=some z4l/\At [(3,Pr.is v10),(8,af (ai ak) x1),(9,Pr.i64 (x1.length:Int)),(10,Pr.i64 x3),(14,af ak x9),(15,Pr.i64 (x9.length:Int)),(16,Pr.i64 x11)] [Own.vec v10 ab x12 9] e C) n4 ⟨0,x4,v2,hN4,⟨⟨aa,aa,aa,aa,aa,aa,aa,trivial⟩,Pick.refl _⟩⟩ ?_
  clear hN4
  rintro m e C ⟨x11,x12,v10,hN4,hatl4⟩
  refine W_at hatl4 ?_
  clear hatl4
  obtain⟨m4,w4l,rfl,h4l,hn4,ho4⟩:=ay hN4
  clear hN4
  replace h4l:cells_keys_l4 x9 x11 x12=some w4l:=h4l
  unfold cells_keys_l4 at h4l
  refine W_rs ?_
  refine rq (out:=Pr.bool (decide (x11<(x9.length:Int)))) qInt ?_
  refine aw ?_
  refine au (b:=decide (x11<(x9.length:Int))) rfl (fun hc16=> ?_) (fun hc16=> ?_)
  ·replace h4l:=iteT hc16 h4l
   refine av ?_
   refine aw ?_
   refine ar ?_
   refine W_rs ?_
   obtain⟨x17,hx17,h4l⟩:=ah h4l
   refine rq (out:=a5 ak x17) (cr (R:=ak) (l:=x9) Tryz.underlying22 Tryz.sizeOf38 hx17) ?_
   refine rq (out:=(ak).val x17) (bl (R:=ak) (a:=x17) ty38) ?_
   refine ml (R:=ak) (z:=(ApiSegment.mk [] [])) Tryz.zeroValue38 (fun _=>⟨_,⟨_,_,rfl,rfl,⟨_,_,rfl,rfl,rfl⟩⟩,rfl⟩) (fun b18=> ?_)
   refine ek (R:=ak) (R':=ak) (a:=(ApiSegment.mk [] [])) (y:=x17) 1 Tryz.sizeOf38 (Upd.refl _) ?_
   refine W_r ?_
   refine rq (out:=Pr.is v10) ag ?_
   refine rq (out:=ap b18 0) (ax fld38_0) ?_
   refine rq (out:=aj x17.Key) (a9 (R:=ak) (a:=x17) (R':=ab) 1 ty9 subApiSegment_Key) ?_
   refine rq (out:=af ab ([x17.Key]:List (List UInt8))) (bh (R:=ab) (a:=x17.Key) el33 (Nat.le_of_ble_eq_true rfl)) ?_
   obtain⟨x19,hx19,h4l⟩:=ah h4l
   refine cu 0 el33 hx19 (fun v20=> ?_)
   refine rq (out:=Pr.is v20) ae ?_
   refine W_r ?_
   refine rq (out:=Pr.i64 (w64 (x11+1))) qInt ?_
   refine rq (out:=Pr.i64 (w64 (x11+1))) ag ?_
   exact⟨m4,Nat.lt_succ_self _,w64 (x11+1),x19,v20,hn4 _ (Option.some.inj h4l).symm,⟨⟨aa,aa,aa,aa,aa,aa,aa,trivial⟩,Pick.of [0] rfl⟩⟩
  replace h4l:=iteF hc16 h4l
  refine bw ?_
  obtain rfl:=ho4 _ (Option.some.inj h4l).symm
  exact⟨x12,v10,h2l,⟨⟨aa,aa,aa,aa,trivial⟩,Pick.refl _⟩⟩
 replace h2l:=iteF hc8 h2l
 refine bw ?_
 obtain rfl:=ho2 _ (Option.some.inj h2l).symm
 exact⟨x4,v2,h,⟨⟨aa,trivial⟩,Pick.refl _⟩⟩
theorem cells_of_ok (x1:List UInt8) (x2:Bool) (r:(List (List UInt8))) (h:cells_of x1 x2=some r):FnP Tryz.prog 33 [aj x1,Pr.bool x2] ((aq 2 ab).val r):=by
 refine fn_introR (n:=10) (rs:=[.cell 4 56]) Tryz.func33 rfl Tryz.ntmps33 Tryz.results33 (by decide) (fun s0=> ?_)
 unfold cells_of at h
 refine W_rs ?_
 refine ml (R:=aq 2 ab) (z:=(List.replicate 2 [])) Tryz.zeroValue56 (fun _=>⟨_,⟨rfl,⟨_,_,rfl,rfl,⟨_,_,rfl,rfl,rfl⟩⟩⟩,rfl⟩) (fun b3=> ?_)
 refine aw ?_
 refine W_rs ?_
 refine rq (out:=Pr.bool x2) ag ?_
 refine rq (out:=Pr.bool (!x2)) qNot ?_
 refine au (b:= !x2) rfl (fun hc4=> ?_) (fun hc4=> ?_)
 ·replace h:=iteT hc4 h
  refine W_rs ?_
  refine rq (out:=(aq 2 ab).val (List.replicate 2 [])) (qBuildZ (R:=ab) (z:=(List.replicate 2 [])) Tryz.underlying56 Tryz.zeroValue56 (fun _=>⟨_,⟨rfl,⟨_,_,rfl,rfl,⟨_,_,rfl,rfl,rfl⟩⟩⟩,rfl⟩) Tryz.sizeOf9) ?_
  refine ek (R:=aq 2 ab) (R':=aq 2 ab) (a:=(List.replicate 2 [])) (y:=(List.replicate 2 [])) 0 Tryz.sizeOf56 (Upd.refl _) ?_
  obtain rfl:=Option.some.inj h
  exact bb ⟨rfl,[(aq 2 ab).val (List.replicate 2 [])],⟨yBox 0 ty56 aa,trivial⟩,aa⟩
 replace h:=iteF hc4 h
 refine av ?_
 refine W_rs ?_
 refine rq (out:=aj x1) ag ?_
 refine rq (out:=(aq 2 ab).val ([([116,104,101,114,101]:List UInt8),x1]:List (List UInt8))) (qBuildA (R:=ab) (ls:=([([116,104,101,114,101]:List UInt8),x1]:List (List UInt8))) Tryz.underlying56 Tryz.zeroValue56 rfl Tryz.sizeOf9 (by decide) ⟨rfl,rfl⟩ ⟨rfl,rfl,trivial⟩) ?_
 refine ek (R:=aq 2 ab) (R':=aq 2 ab) (a:=(List.replicate 2 [])) (y:=([([116,104,101,114,101]:List UInt8),x1]:List (List UInt8))) 0 Tryz.sizeOf56 (Upd.refl _) ?_
 obtain rfl:=Option.some.inj h
 exact bb ⟨rfl,[(aq 2 ab).val ([([116,104,101,114,101]:List UInt8),x1]:List (List UInt8))],⟨yBox 0 ty56 aa,trivial⟩,aa⟩
theorem jf {σ:Type} (yld:σ->(Int × ApiSegment)->Option (Bool × σ)) (Y:YI σ) (l:Nat) (hY:YOK Tryz.prog Y l (fun a=>[Pr.i64 a.1,(ak).val a.2]) yld) (x2:List ApiSegment) (x3:σ) (b1:Nat) (v4:List Nat) (r:(List ApiSegment) × (σ)) (h:dn yld x2 x3=some r):FnC Tryz.prog 57 ([]++[Pr.yl l]++[ap b1 0]) ([Own.box b1 (ai ak) x2]++[Own.grp Y x3 v4]) (fun _ C'=>∃w9,C'=[Own.box b1 (ai ak) r.1]++[Own.grp Y r.2 w9]):=by
 refine fj (n:=19) (rs:=[]) Tryz.func57 rfl Tryz.ntmps57 ⟨by decide,Tryz.results57⟩ (by decide) (fun s0=> ?_)
 unfold dn at h
 refine W_rs ?_
 refine rq (out:=af ak x2) (a9 (R:=ai ak) (a:=x2) (R':=ai ak) 0 ty22 (Sub.refl _)) ?_
 refine rq (out:=Pr.i64 (x2.length:Int)) (cl rfl Tryz.underlying22) ?_
 refine rq (out:=Pr.i64 (w64 ((x2.length:Int) - 1))) qInt ?_
 refine rq (out:=Pr.i64 (w64 ((x2.length:Int) - 1))) ae ?_
 refine ar ?_
 obtain⟨z2l,hz2,h⟩:=ah h
 obtain⟨n2,hN2⟩:=a4 hz2
 clear hz2
 refine bp 0 (fun e C=>∃(x6:σ),∃(v7:List Nat),dg yld x2 x6=some r/\At [] [Own.box b1 (ai ak) x2,Own.grp Y x6 v7] e C) ?_ ?_
 ·rintro e C ⟨x6,v7,h,hat1⟩
  unfold dg at h
  obtain rfl:=Option.some.inj h
  exact⟨.inr rfl,_,(Pick.trans hat1.2 (Pick.refl _)),_,aa,v7,rfl⟩
 refine cd (fun m e C=>∃(x5:Int),∃(x6:σ),∃(v7:List Nat),cz (fun s=>cj yld x2 s.1 s.2) m (x5,x6)=some z2l/\At [(0,Pr.yl l),(1,ap b1 0),(3,Pr.i64 x5)] [Own.box b1 (ai ak) x2,Own.grp Y x6 v7] e C) n2 ⟨w64 ((x2.length:Int) - 1),x3,v4,hN2,⟨⟨aa,aa,aa,trivial⟩,Pick.refl _⟩⟩ ?_
 clear hN2
 rintro m e C ⟨x5,x6,v7,hN2,hatl2⟩
 refine W_at hatl2 ?_
 clear hatl2
 obtain⟨m2,w2l,rfl,h2l,hn2,ho2⟩:=ay hN2
 clear hN2
 replace h2l:cj yld x2 x5 x6=some w2l:=h2l
 unfold cj at h2l
 refine aw ?_
 refine W_rs ?_
 refine rq (out:=Pr.i64 x5) ag ?_
 refine rq (out:=Pr.bool (decide (x5≥0))) qInt ?_
 refine au (b:=decide (x5≥0)) rfl (fun hc11=> ?_) (fun hc11=> ?_)
 ·replace h2l:=iteT hc11 h2l
  refine av ?_
  refine aw ?_
  refine ar ?_
  refine W_rs ?_
  refine rq (out:=Pr.yl l) ag ?_
  refine rq (out:=Pr.i64 x5) ag ?_
  refine rq (out:=af ak x2) (a9 (R:=ai ak) (a:=x2) (R':=ai ak) 0 ty22 (Sub.refl _)) ?_
  refine rq (out:=Pr.i64 x5) ag ?_
  obtain⟨x12,hx12,h2l⟩:=ah h2l
  refine rq (out:=a5 ak x12) (cr (R:=ak) (l:=x2) Tryz.underlying22 Tryz.sizeOf38 hx12) ?_
  refine rq (out:=(ak).val x12) (bl (R:=ak) (a:=x12) ty38) ?_
  obtain⟨⟨x13,x14⟩,hx13,h2l⟩:=ah h2l
  refine rYield 1 (a:=(x5,x12)) hY hx13 (fun v15=> ?_)
  refine rq (out:=Pr.bool (!x13)) qNot ?_
  refine au (b:= !x13) rfl (fun hc16=> ?_) (fun hc16=> ?_)
  ·replace h2l:=iteT hc16 h2l
   obtain rfl:=ho2 _ (Option.some.inj h2l).symm
   replace h:some (x2,x14)=some r:=h
   obtain rfl:=Option.some.inj h
   exact bb ⟨.inl rfl,_,Pick.of [1,0] rfl,_,aa,v15,rfl⟩
  replace h2l:=iteF hc16 h2l
  refine av ?_
  refine W_r ?_
  refine rq (out:=Pr.i64 x5) ag ?_
  refine rq (out:=Pr.i64 (w64 (x5 - 1))) qInt ?_
  refine rq (out:=Pr.i64 (w64 (x5 - 1))) ae ?_
  exact⟨m2,Nat.lt_succ_self _,w64 (x5 - 1),x14,v15,hn2 _ (Option.some.inj h2l).symm,⟨⟨aa,aa,aa,trivial⟩,Pick.of [1,0] rfl⟩⟩
 replace h2l:=iteF hc11 h2l
 refine bw ?_
 obtain rfl:=ho2 _ (Option.some.inj h2l).symm
 exact⟨x6,v7,h,⟨trivial,Pick.refl _⟩⟩
theorem j9 (x1:List ApiSegment):FnC Tryz.prog 45 [af ak x1] [] (fun q C'=>∃b2,q=ej 57 [] [ap b2 0]/\C'=[Own.box b2 (ai ak) x1]):=by
 refine fj (n:=4) (rs:=[2]) Tryz.func45 rfl Tryz.ntmps45 ⟨by decide,Tryz.results45⟩ (by decide) (fun s0=> ?_)
 refine W_rs ?_
 refine rBox (R:=ai ak) (a:=x1) rfl (fun b2=> ?_)
 refine rq (out:=Pr.is .nilFunc) ae ?_
 refine W_rs ?_
 refine rq (out:=ej 57 [] [ap b2 0]) gu ?_
 refine rq (out:=ej 57 [] [ap b2 0]) ae ?_
 exact bb ⟨.inl rfl,_,Pick.refl _,_,aa,b2,rfl,rfl⟩
theorem cells_table_ok (x1:List ApiSegment) (r:(SMap (List (List UInt8)))) (h:cells_table x1=some r):FnP Tryz.prog 25 [af ak x1] (eq (aq 2 ab) r):=by
 refine a7 (n:=18) (rs:=[2]) Tryz.func25 rfl Tryz.ntmps25 ⟨by decide,Tryz.results25⟩ (by decide) (fun s0=> ?_)
 unfold cells_table at h
 refine W_rs ?_
 refine rq (out:=Pr.is (.map none)) ae ?_
 refine W_rs ?_
 refine rMakeMap (aq 2 ab) (fun b2=> ?_)
 refine ml (R:=Rp.mapO) (z:=none) Tryz.zeroValue51 (fun _=>rfl) (fun b3=> ?_)
 refine ek (R:=Rp.mapO) (R':=Rp.mapO) (a:=none) (y:=(some b2)) 1 Tryz.sizeOf51 (Upd.refl _) ?_
 refine W_rs2 ?_
 refine W_r ?_
 refine rq (out:=af ak x1) ag ?_
 refine rCallC [] (j9 x1) (fun q C' hq=> ?_)
 obtain⟨b4,rfl,rfl⟩:=hq
 refine⟨rfl,?_⟩
 obtain⟨⟨x11,x12⟩,hx13,h⟩:=ah h
 refine W_range [0] (fun(s:(SMap (List (List UInt8)))) C=>C=[Own.smap b2 (aq 2 ab) s,Own.box b3 Rp.mapO (some b2)]) (encs:=(fun(a:Int × ApiSegment)=>[Pr.i64 a.1,(ak).val a.2])) (yld:=(fun(s:(SMap (List (List UInt8)))) (a:Int × ApiSegment)=>cells_table_r1 s a.1 a.2)) (st0:=([]:SMap (List (List UInt8)))) (stF:=x12) (Ccap':=[Own.box b4 (ai ak) x11]) (fun l Y L hY=>jf _ Y l hY x1 ([]:SMap (List (List UInt8))) b4 L _ hx13) rfl (fun _=>rfl) ?_ ?_ (fun _ _ _ h=>h.1)
 ·rintro l x7 ⟨x5,x6⟩ ⟨rb1,rs1⟩ C T s0 rfl hy1
  replace hy1:cells_table_r1 x7 x5 x6=some (rb1,rs1):=hy1
  unfold cells_table_r1 at hy1
  refine W_r ?_
  refine ml (R:=ak) (z:=(ApiSegment.mk [] [])) Tryz.zeroValue38 (fun _=>⟨_,⟨_,_,rfl,rfl,⟨_,_,rfl,rfl,rfl⟩⟩,rfl⟩) (fun b9=> ?_)
  refine ek (R:=ak) (R':=ak) (a:=(ApiSegment.mk [] [])) (y:=x6) 2 Tryz.sizeOf38 (Upd.refl _) ?_
  refine⟨rfl,fun T s0=> ?_⟩
  refine W_pickK ?_
  refine ar ?_
  refine ei 6 hmx (by kernel_rfl) (by kernel_rfl) ?_
  refine qq (out:=Pr.mp b2) (a9 (R:=Rp.mapO) (a:=(some b2)) (R':=Rp.mapO) 1 ty51 (Sub.refl _)) ?_
  refine qq (out:=ap b9 0) (ax fld38_0) ?_
  refine qq (out:=aj x6.Key) (a9 (R:=ak) (a:=x6) (R':=ab) 2 ty9 subApiSegment_Key) ?_
  refine qq (out:=ap b9 1) (ax fld38_1) ?_
  refine qq (out:=aj x6.Text) (a9 (R:=ak) (a:=x6) (R':=ab) 2 ty9 k9) ?_
  obtain⟨x10,hx10,hy1⟩:=ah hy1
  refine qq (out:=(aq 2 ab).val x10) (br (cells_of_ok x6.Text true _ hx10)) ?_
  refine rMapSet (R:=aq 2 ab) (m:=x7) (kx:=x6.Key) (v:=x10) 0 Tryz.underlying51 Tryz.underlying9 ?_
  obtain⟨rfl,rfl⟩:=Prod.mk.inj (Option.some.inj hy1)
  exact⟨_,Pick.of [0,1] rfl,rfl,rfl,rfl⟩
 rintro D C' T s0 rfl
 refine W_rs ?_
 refine rq (out:=Pr.mp b2) (a9 (R:=Rp.mapO) (a:=(some b2)) (R':=Rp.mapO) 2 ty51 (Sub.refl _)) ?_
 refine rq (out:=Pr.mp b2) ae ?_
 refine W_relM 1 [2] ?_ rfl ⟨rfl,trivial⟩
 obtain rfl:=Option.some.inj h
 exact bb ⟨rfl,aa⟩
theorem gz (x1:List (List UInt8)) (r:Bool) (h:ff x1=some r):FnP Tryz.prog 28 [(aq 2 ab).val x1] (Pr.bool r):=by
 refine a7 (n:=6) (rs:=[2]) Tryz.func28 rfl Tryz.ntmps28 ⟨by decide,Tryz.results28⟩ (by decide) (fun s0=> ?_)
 unfold ff at h
 refine W_rs ?_
 refine rBox (R:=aq 2 ab) (a:=x1) rfl (fun b2=> ?_)
 refine rq (out:=Pr.bool false) ae ?_
 refine W_rs ?_
 obtain⟨x3,hx3,h⟩:=ah h
 refine rq (out:=ap b2 (x3 * 1)) (nm Tryz.underlying56 Tryz.sizeOf9 hx3) ?_
 refine rq (out:=aj (List.getD x1 x3 [])) (a9 (R:=aq 2 ab) (a:=x1) (R':=ab) 0 ty9 (Sub.arr [] (di hx3))) ?_
 refine rq (out:=Pr.bool ((List.getD x1 x3 [])==([116,104,101,114,101]:List UInt8))) qStr ?_
 refine rq (out:=Pr.bool ((List.getD x1 x3 [])==([116,104,101,114,101]:List UInt8))) ae ?_
 obtain rfl:=Option.some.inj h
 exact bb ⟨rfl,aa⟩
theorem slices_Index_string_string_ok (x1:List (List UInt8)) (x2:List UInt8) (r:Int) (h:dx x1 x2=some r):FnP Tryz.prog 52 [af ab x1,aj x2] (Pr.i64 r):=by
 refine a7 (n:=19) (rs:=[4]) Tryz.func52 rfl Tryz.ntmps52 ⟨by decide,Tryz.results52⟩ (by decide) (fun s0=> ?_)
 unfold dx at h
 refine W_rs ?_
 refine rq (out:=Pr.i64 0) ae ?_
 refine aw ?_
 refine W_rs ?_
 refine rq (out:=af ab x1) ag ?_
 refine rq (out:=Pr.i64 (x1.length:Int)) (cl rfl Tryz.underlying33) ?_
 refine rq (out:=Pr.i64 0) ag ?_
 refine ar ?_
 obtain⟨z2l,hz2,h⟩:=ah h
 obtain⟨n2,hN2⟩:=a4 hz2
 clear hz2
 refine bp 0 (fun e C=>ef=some r/\At [] [] e C) ?_ ?_
 ·rintro e C ⟨h,hat1⟩
  refine W_at hat1 ?_
  clear hat1
  unfold ef at h
  refine W_rs ?_
  refine rq (out:=Pr.i64 (-1)) ae ?_
  obtain rfl:=Option.some.inj h
  exact bb ⟨rfl,aa⟩
 refine cd (fun m e C=>∃(x3:Int),cz (fun s=>c4 x1 x2 s) m x3=some z2l/\At [(0,af ab x1),(1,aj x2),(7,Pr.i64 (x1.length:Int)),(8,Pr.i64 x3)] [] e C) n2 ⟨0,hN2,⟨⟨aa,aa,aa,aa,trivial⟩,Pick.refl _⟩⟩ ?_
 clear hN2
 rintro m e C ⟨x3,hN2,hatl2⟩
 refine W_at hatl2 ?_
 clear hatl2
 obtain⟨m2,w2l,rfl,h2l,hn2,ho2⟩:=ay hN2
 clear hN2
 replace h2l:c4 x1 x2 x3=some w2l:=h2l
 unfold c4 at h2l
 refine W_rs ?_
 refine rq (out:=Pr.bool (decide (x3<(x1.length:Int)))) qInt ?_
 refine aw ?_
 refine au (b:=decide (x3<(x1.length:Int))) rfl (fun hc5=> ?_) (fun hc5=> ?_)
 ·replace h2l:=iteT hc5 h2l
  refine av ?_
  refine aw ?_
  refine ar ?_
  refine W_rs ?_
  refine rq (out:=Pr.i64 x3) ag ?_
  refine rq (out:=Pr.i64 x3) ae ?_
  refine W_rs ?_
  refine rq (out:=aj x2) ag ?_
  refine rq (out:=af ab x1) ag ?_
  refine rq (out:=Pr.i64 x3) ag ?_
  obtain⟨x6,hx6,h2l⟩:=ah h2l
  refine rq (out:=a5 ab x6) (cr (R:=ab) (l:=x1) Tryz.underlying33 Tryz.sizeOf9 hx6) ?_
  refine rq (out:=aj x6) (bl (R:=ab) (a:=x6) ty9) ?_
  refine rq (out:=Pr.bool (x2==x6)) qStr ?_
  refine au (b:=x2==x6) rfl (fun hc7=> ?_) (fun hc7=> ?_)
  ·replace h2l:=iteT hc7 h2l
   refine W_rs ?_
   refine rq (out:=Pr.i64 x3) ag ?_
   refine rq (out:=Pr.i64 x3) ae ?_
   obtain rfl:=ho2 _ (Option.some.inj h2l).symm
   replace h:some x3=some r:=h
   obtain rfl:=Option.some.inj h
   exact bb ⟨rfl,aa⟩
  replace h2l:=iteF hc7 h2l
  refine av ?_
  refine W_r ?_
  refine rq (out:=Pr.i64 (w64 (x3+1))) qInt ?_
  refine rq (out:=Pr.i64 (w64 (x3+1))) ag ?_
  exact⟨m2,Nat.lt_succ_self _,w64 (x3+1),hn2 _ (Option.some.inj h2l).symm,⟨⟨aa,aa,aa,aa,trivial⟩,Pick.refl _⟩⟩
 replace h2l:=iteF hc5 h2l
 refine bw ?_
 obtain rfl:=ho2 _ (Option.some.inj h2l).symm
 exact⟨h,⟨trivial,Pick.refl _⟩⟩
theorem da (x1:List (List UInt8)) (x2:List UInt8) (r:Bool) (h:bq x1 x2=some r):FnP Tryz.prog 40 [af ab x1,aj x2] (Pr.bool r):=by
 refine a7 (n:=9) (rs:=[4]) Tryz.func40 rfl Tryz.ntmps40 ⟨by decide,Tryz.results40⟩ (by decide) (fun s0=> ?_)
 unfold bq at h
 refine W_rs ?_
 refine rq (out:=Pr.bool false) ae ?_
 refine W_rs ?_
 refine rq (out:=af ab x1) ag ?_
 refine rq (out:=aj x2) ag ?_
 obtain⟨x3,hx3,h⟩:=ah h
 refine rq (out:=Pr.i64 x3) (br (slices_Index_string_string_ok x1 x2 _ hx3)) ?_
 refine rq (out:=Pr.bool (decide (x3≥0))) qInt ?_
 refine rq (out:=Pr.bool (decide (x3≥0))) ae ?_
 obtain rfl:=Option.some.inj h
 exact bb ⟨rfl,aa⟩
theorem j8 (x1 x2:List (List UInt8)) (r:Bool) (h:dh x1 x2=some r):FnP Tryz.prog 35 [af ab x1,af ab x2] (Pr.bool r):=by
 refine a7 (n:=26) (rs:=[4]) Tryz.func35 rfl Tryz.ntmps35 ⟨by decide,Tryz.results35⟩ (by decide) (fun s0=> ?_)
 unfold dh at h
 refine W_rs ?_
 refine rq (out:=Pr.bool false) ae ?_
 refine aw ?_
 refine W_rs ?_
 refine rq (out:=af ab x1) ag ?_
 refine rq (out:=Pr.i64 (x1.length:Int)) (cl rfl Tryz.underlying33) ?_
 refine rq (out:=af ab x2) ag ?_
 refine rq (out:=Pr.i64 (x2.length:Int)) (cl rfl Tryz.underlying33) ?_
 refine rq (out:=Pr.bool ((x1.length:Int) != (x2.length:Int))) qInt ?_
 refine au (b:=(x1.length:Int) != (x2.length:Int)) rfl (fun hc3=> ?_) (fun hc3=> ?_)
 ·replace h:=iteT hc3 h
  refine W_rs ?_
  refine rq (out:=Pr.bool false) ae ?_
  obtain rfl:=Option.some.inj h
  exact bb ⟨rfl,aa⟩
 replace h:=iteF hc3 h
 refine av ?_
 refine aw ?_
 refine W_rs ?_
 refine rq (out:=af ab x1) ag ?_
 refine rq (out:=Pr.i64 (x1.length:Int)) (cl rfl Tryz.underlying33) ?_
 refine rq (out:=Pr.i64 0) ag ?_
 refine ar ?_
 obtain⟨z2l,hz2,h⟩:=ah h
 obtain⟨n2,hN2⟩:=a4 hz2
 clear hz2
 refine bp 0 (fun e C=>eg=some r/\At [] [] e C) ?_ ?_
 ·rintro e C ⟨h,hat1⟩
  refine W_at hat1 ?_
  clear hat1
  unfold eg at h
  refine W_rs ?_
  refine rq (out:=Pr.bool true) ae ?_
  obtain rfl:=Option.some.inj h
  exact bb ⟨rfl,aa⟩
 refine cd (fun m e C=>∃(x4:Int),cz (fun s=>bj x1 x2 s) m x4=some z2l/\At [(0,af ab x1),(1,af ab x2),(12,Pr.i64 (x1.length:Int)),(13,Pr.i64 x4)] [] e C) n2 ⟨0,hN2,⟨⟨aa,aa,aa,aa,trivial⟩,Pick.refl _⟩⟩ ?_
 clear hN2
 rintro m e C ⟨x4,hN2,hatl2⟩
 refine W_at hatl2 ?_
 clear hatl2
 obtain⟨m2,w2l,rfl,h2l,hn2,ho2⟩:=ay hN2
 clear hN2
 replace h2l:bj x1 x2 x4=some w2l:=h2l
 unfold bj at h2l
 refine W_rs ?_
 refine rq (out:=Pr.bool (decide (x4<(x1.length:Int)))) qInt ?_
 refine aw ?_
 refine au (b:=decide (x4<(x1.length:Int))) rfl (fun hc6=> ?_) (fun hc6=> ?_)
 ·replace h2l:=iteT hc6 h2l
  refine av ?_
  refine aw ?_
  refine ar ?_
  refine W_rs ?_
  refine rq (out:=Pr.i64 x4) ag ?_
  refine rq (out:=Pr.i64 x4) ae ?_
  refine bg (fun e C=>∃(x7:List UInt8),∃(x8:List UInt8),dk x4 x7 x8=some w2l/\At [(0,af ab x1),(1,af ab x2),(12,Pr.i64 (x1.length:Int)),(13,Pr.i64 x4),(24,Pr.bool (!(x7==x8)))] [] e C) ?_ ?_
  ·rintro e C ⟨x7,x8,h2l,hat3⟩
   refine W_at hat3 ?_
   clear hat3
   unfold dk at h2l
   refine au (b:= !(x7==x8)) rfl (fun hc9=> ?_) (fun hc9=> ?_)
   ·replace h2l:=iteT hc9 h2l
    refine W_rs ?_
    refine rq (out:=Pr.bool false) ae ?_
    obtain rfl:=ho2 _ (Option.some.inj h2l).symm
    replace h:some false=some r:=h
    obtain rfl:=Option.some.inj h
    exact bb ⟨rfl,aa⟩
   replace h2l:=iteF hc9 h2l
   refine av ?_
   refine W_r ?_
   refine rq (out:=Pr.i64 (w64 (x4+1))) qInt ?_
   refine rq (out:=Pr.i64 (w64 (x4+1))) ag ?_
   exact⟨m2,Nat.lt_succ_self _,w64 (x4+1),hn2 _ (Option.some.inj h2l).symm,⟨⟨aa,aa,aa,aa,trivial⟩,Pick.refl _⟩⟩
  refine ei 9 hmx (by kernel_rfl) (by kernel_rfl) ?_
  refine qq (out:=af ab x1) ag ?_
  refine qq (out:=Pr.i64 x4) ag ?_
  obtain⟨x7,hx7,h2l⟩:=ah h2l
  refine qq (out:=a5 ab x7) (cr (R:=ab) (l:=x1) Tryz.underlying33 Tryz.sizeOf9 hx7) ?_
  refine qq (out:=aj x7) (bl (R:=ab) (a:=x7) ty9) ?_
  refine qq (out:=af ab x2) ag ?_
  refine qq (out:=Pr.i64 x4) ag ?_
  obtain⟨x8,hx8,h2l⟩:=ah h2l
  refine qq (out:=a5 ab x8) (cr (R:=ab) (l:=x2) Tryz.underlying33 Tryz.sizeOf9 hx8) ?_
  refine qq (out:=aj x8) (bl (R:=ab) (a:=x8) ty9) ?_
  refine qq (out:=Pr.bool (!(x7==x8))) qStr ?_
  exact⟨x7,x8,h2l,⟨⟨aa,aa,aa,aa,aa,trivial⟩,Pick.refl _⟩⟩
 replace h2l:=iteF hc6 h2l
 refine bw ?_
 obtain rfl:=ho2 _ (Option.some.inj h2l).symm
 exact⟨h,⟨trivial,Pick.refl _⟩⟩
theorem slices_IndexFunc_string_string_ok (x1:List (List UInt8)) (x2:((List UInt8)->Option Bool)) (r:Int) (h:cv x1 x2=some r):FnP Tryz.prog 51 [af ab x1,ia Tryz.prog (spec64 x2)] (Pr.i64 r):=by
 refine a7 (n:=19) (rs:=[4]) Tryz.func51 rfl Tryz.ntmps51 ⟨by decide,Tryz.results51⟩ (by decide) (fun s0=> ?_)
 unfold cv at h
 refine W_rs ?_
 refine rq (out:=Pr.i64 0) ae ?_
 refine aw ?_
 refine W_rs ?_
 refine rq (out:=af ab x1) ag ?_
 refine rq (out:=Pr.i64 (x1.length:Int)) (cl rfl Tryz.underlying33) ?_
 refine rq (out:=Pr.i64 0) ag ?_
 refine ar ?_
 obtain⟨z2l,hz2,h⟩:=ah h
 obtain⟨n2,hN2⟩:=a4 hz2
 clear hz2
 refine bp 0 (fun e C=>e7=some r/\At [] [] e C) ?_ ?_
 ·rintro e C ⟨h,hat1⟩
  refine W_at hat1 ?_
  clear hat1
  unfold e7 at h
  refine W_rs ?_
  refine rq (out:=Pr.i64 (-1)) ae ?_
  obtain rfl:=Option.some.inj h
  exact bb ⟨rfl,aa⟩
 refine cd (fun m e C=>∃(x3:Int),cz (fun s=>a8 x1 x2 s) m x3=some z2l/\At [(0,af ab x1),(1,ia Tryz.prog (spec64 x2)),(7,Pr.i64 (x1.length:Int)),(8,Pr.i64 x3)] [] e C) n2 ⟨0,hN2,⟨⟨aa,aa,aa,aa,trivial⟩,Pick.refl _⟩⟩ ?_
 clear hN2
 rintro m e C ⟨x3,hN2,hatl2⟩
 refine W_at hatl2 ?_
 clear hatl2
 obtain⟨m2,w2l,rfl,h2l,hn2,ho2⟩:=ay hN2
 clear hN2
 replace h2l:a8 x1 x2 x3=some w2l:=h2l
 unfold a8 at h2l
 refine W_rs ?_
 refine rq (out:=Pr.bool (decide (x3<(x1.length:Int)))) qInt ?_
 refine aw ?_
 refine au (b:=decide (x3<(x1.length:Int))) rfl (fun hc5=> ?_) (fun hc5=> ?_)
 ·replace h2l:=iteT hc5 h2l
  refine av ?_
  refine aw ?_
  refine ar ?_
  refine W_rs ?_
  refine rq (out:=Pr.i64 x3) ag ?_
  refine rq (out:=Pr.i64 x3) ae ?_
  refine W_rs ?_
  refine rq (out:=ia Tryz.prog (spec64 x2)) ag ?_
  refine rq (out:=af ab x1) ag ?_
  refine rq (out:=Pr.i64 x3) ag ?_
  obtain⟨x6,hx6,h2l⟩:=ah h2l
  refine rq (out:=a5 ab x6) (cr (R:=ab) (l:=x1) Tryz.underlying33 Tryz.sizeOf9 hx6) ?_
  refine rq (out:=aj x6) (bl (R:=ab) (a:=x6) ty9) ?_
  obtain⟨x7,hx7,h2l⟩:=ah h2l
  refine rq (out:=Pr.bool x7) (qCallP (spec:=spec64 x2) ⟨_,_,rfl,rfl,hx7⟩) ?_
  refine au (b:=x7) rfl (fun hc8=> ?_) (fun hc8=> ?_)
  ·replace h2l:=iteT hc8 h2l
   refine W_rs ?_
   refine rq (out:=Pr.i64 x3) ag ?_
   refine rq (out:=Pr.i64 x3) ae ?_
   obtain rfl:=ho2 _ (Option.some.inj h2l).symm
   replace h:some x3=some r:=h
   obtain rfl:=Option.some.inj h
   exact bb ⟨rfl,aa⟩
  replace h2l:=iteF hc8 h2l
  refine av ?_
  refine W_r ?_
  refine rq (out:=Pr.i64 (w64 (x3+1))) qInt ?_
  refine rq (out:=Pr.i64 (w64 (x3+1))) ag ?_
  exact⟨m2,Nat.lt_succ_self _,w64 (x3+1),hn2 _ (Option.some.inj h2l).symm,⟨⟨aa,aa,aa,aa,trivial⟩,Pick.refl _⟩⟩
 replace h2l:=iteF hc5 h2l
 refine bw ?_
 obtain rfl:=ho2 _ (Option.some.inj h2l).symm
 exact⟨h,⟨trivial,Pick.refl _⟩⟩
theorem ib (x1:((List UInt8)->Option Bool)) (x3:List (List UInt8)) (v2:Value) (r:(List (List UInt8))) (h:bx x1 x3=some r):FnC Tryz.prog 37 [Pr.is v2,ia Tryz.prog (spec64 x1)] [Own.vec v2 ab x3 9] (fun q C'=>q=af ab r/\C'=[]):=by
 refine fj (n:=42) (rs:=[4]) Tryz.func37 rfl Tryz.ntmps37 ⟨by decide,Tryz.results37⟩ (by decide) (fun s0=> ?_)
 unfold bx at h
 refine W_rs ?_
 refine rq (out:=Pr.is (.slice none 0 0)) ae ?_
 refine W_rs ?_
 refine rq (out:=Pr.is v2) ag ?_
 refine rq (out:=ia Tryz.prog (spec64 x1)) ag ?_
 obtain⟨x4,hx4,h⟩:=ah h
 refine rq (out:=Pr.i64 x4) (qCallB 0 (slices_IndexFunc_string_string_ok x3 x1 _ hx4) ⟨.inr ⟨aa,rfl⟩,.inl aa,trivial⟩ (fun _ _ _ h=>h)) ?_
 refine rq (out:=Pr.i64 x4) ae ?_
 refine aw ?_
 refine W_rs ?_
 refine rq (out:=Pr.i64 x4) ag ?_
 refine rq (out:=Pr.bool (x4==(-1))) qInt ?_
 refine au (b:=x4==(-1)) rfl (fun hc5=> ?_) (fun hc5=> ?_)
 ·replace h:=iteT hc5 h
  refine W_rs ?_
  refine rq (out:=Pr.is v2) ag ?_
  refine rq (out:=Pr.is v2) ae ?_
  refine W_rel 0 [0,4] ?_ rfl ⟨rfl,rfl,trivial⟩
  obtain rfl:=Option.some.inj h
  exact bb ⟨.inl rfl,_,Pick.refl _,_,(aa),rfl,rfl⟩
 replace h:=iteF hc5 h
 refine av ?_
 refine aw ?_
 refine W_rs ?_
 refine rq (out:=Pr.i64 x4) ag ?_
 refine rq (out:=Pr.i64 (w64 (x4+1))) qInt ?_
 refine rq (out:=Pr.i64 (w64 (x4+1))) ae ?_
 refine ar ?_
 obtain⟨z2l,hz2,h⟩:=ah h
 obtain⟨n2,hN2⟩:=a4 hz2
 clear hz2
 refine bp 0 (fun e C=>∃(x6:Int),∃(x8:List (List UInt8)),dl x6 x8=some r/\At [(0,Pr.is v2),(5,Pr.i64 x6)] [Own.vec v2 ab x8 9] e C) ?_ ?_
 ·rintro e C ⟨x6,x8,h,hat1⟩
  refine W_at hat1 ?_
  clear hat1
  unfold dl at h
  refine W_rs ?_
  refine rq (out:=Pr.is v2) ag ?_
  refine rq (out:=Pr.i64 x6) ag ?_
  obtain⟨x19,hx19,h⟩:=ah h
  refine rq (out:=Pr.is (vtail v2 (Int.toNat x6) (ab).size)) (qTail 0 Tryz.underlying33 Tryz.sizeOf9 (subL_lo hx19).1 (subL_lo hx19).2.1) ?_
  refine rClearTail (R:=ab) (z:=[]) 0 rfl Tryz.underlying33 Tryz.zeroValue9 (fun _=>rfl) (by decide) (subL_lo hx19).2.2 ?_
  refine W_rs ?_
  refine rq (out:=Pr.is v2) ag ?_
  refine rq (out:=Pr.i64 x6) ag ?_
  obtain⟨x20,hx20,h⟩:=ah h
  refine rRel 0 [0,39] ?_ rfl ⟨rfl,rfl,trivial⟩
  refine rq (out:=af ab x20) (qLSubH Tryz.underlying33 Tryz.sizeOf9 hx20) ?_
  refine rq (out:=af ab x20) ae ?_
  obtain rfl:=Option.some.inj h
  exact bb ⟨.inl rfl,_,Pick.refl _,_,(aa),rfl,rfl⟩
 refine cd (fun m e C=>∃(x6:Int),∃(x7:Int),∃(x8:List (List UInt8)),cz (fun s=>bd x1 s.1 s.2.1 s.2.2) m (x6,x7,x8)=some z2l/\At [(0,Pr.is v2),(1,ia Tryz.prog (spec64 x1)),(5,Pr.i64 x6),(6,Pr.i64 x7)] [Own.vec v2 ab x8 9] e C) n2 ⟨x4,w64 (x4+1),x3,hN2,⟨⟨aa,aa,aa,aa,trivial⟩,Pick.refl _⟩⟩ ?_
 clear hN2
 rintro m e C ⟨x6,x7,x8,hN2,hatl2⟩
 refine W_at hatl2 ?_
 clear hatl2
 obtain⟨m2,w2l,rfl,h2l,hn2,ho2⟩:=ay hN2
 clear hN2
 replace h2l:bd x1 x6 x7 x8=some w2l:=h2l
 unfold bd at h2l
 refine aw ?_
 refine W_rs ?_
 refine rq (out:=Pr.i64 x7) ag ?_
 refine rq (out:=Pr.is v2) ag ?_
 refine rq (out:=Pr.i64 (x8.length:Int)) (qLenV 0 rfl Tryz.underlying33) ?_
 refine rq (out:=Pr.bool (decide (x7<(x8.length:Int)))) qInt ?_
 refine au (b:=decide (x7<(x8.length:Int))) rfl (fun hc12=> ?_) (fun hc12=> ?_)
 ·replace h2l:=iteT hc12 h2l
  refine av ?_
  refine bg (fun e C=>∃(x17:Int),∃(x18:List (List UInt8)),cg x7 x17 x18=some w2l/\At [(0,Pr.is v2),(1,ia Tryz.prog (spec64 x1)),(5,Pr.i64 x17),(6,Pr.i64 x7)] [Own.vec v2 ab x18 9] e C) ?_ ?_
  ·rintro e C ⟨x17,x18,h2l,hat3⟩
   refine W_at hat3 ?_
   clear hat3
   unfold cg at h2l
   refine W_r ?_
   refine rq (out:=Pr.i64 x7) ag ?_
   refine rq (out:=Pr.i64 (w64 (x7+1))) qInt ?_
   refine rq (out:=Pr.i64 (w64 (x7+1))) ae ?_
   exact⟨m2,Nat.lt_succ_self _,x17,w64 (x7+1),x18,hn2 _ (Option.some.inj h2l).symm,⟨⟨aa,aa,aa,aa,trivial⟩,Pick.refl _⟩⟩
  refine ar ?_
  refine W_rs ?_
  refine rq (out:=Pr.is v2) ag ?_
  refine rq (out:=Pr.i64 x7) ag ?_
  obtain⟨x13,hx13,h2l⟩:=ah h2l
  refine rq (out:=cb v2 (Int.toNat x7 * (ab).size)) (jb 0 (R:=ab) (l:=x8) Tryz.underlying33 Tryz.sizeOf9 hx13) ?_
  refine rq (out:=aj x13) (jg (R:=ab) (R':=ab) (l:=x8) (a:=x13) (o:=0) 0 ty9 (Sub.refl _) (Nat.le_of_ble_eq_true rfl) hx13 rfl) ?_
  refine rq (out:=aj x13) ae ?_
  refine W_rs ?_
  refine rq (out:=ia Tryz.prog (spec64 x1)) ag ?_
  refine rq (out:=aj x13) ag ?_
  obtain⟨x14,hx14,h2l⟩:=ah h2l
  refine rq (out:=Pr.bool x14) (qCallP (spec:=spec64 x1) ⟨_,_,rfl,rfl,hx14⟩) ?_
  refine rq (out:=Pr.bool (!x14)) qNot ?_
  refine au (b:= !x14) rfl (fun hc15=> ?_) (fun hc15=> ?_)
  ·replace h2l:=iteT hc15 h2l
   refine W_rs ?_
   refine rq (out:=Pr.is v2) ag ?_
   refine rq (out:=Pr.i64 x6) ag ?_
   refine rq (out:=aj x13) ag ?_
   obtain⟨x16,hx16,h2l⟩:=ah h2l
   refine rq (out:=cb v2 (Int.toNat x6 * (ab).size)) (jb 0 (R:=ab) (l:=x8) Tryz.underlying33 Tryz.sizeOf9 hx16) ?_
   refine k5 (R:=ab) (R':=ab) (l:=x8) (a:=x16) (y:=x13) (o:=0) 0 Tryz.sizeOf9 (Upd.refl _) hx16 rfl ?_
   refine W_r ?_
   refine rq (out:=Pr.i64 x6) ag ?_
   refine rq (out:=Pr.i64 (w64 (x6+1))) qInt ?_
   refine rq (out:=Pr.i64 (w64 (x6+1))) ae ?_
   exact⟨w64 (x6+1),(List.set x8 (Int.toNat x6) x13),h2l,⟨⟨aa,aa,aa,aa,trivial⟩,Pick.refl _⟩⟩
  replace h2l:=iteF hc15 h2l
  refine av ?_
  exact⟨x6,x8,h2l,⟨⟨aa,aa,aa,aa,trivial⟩,Pick.refl _⟩⟩
 replace h2l:=iteF hc12 h2l
 refine bw ?_
 obtain rfl:=ho2 _ (Option.some.inj h2l).symm
 exact⟨x6,x8,h,⟨⟨aa,aa,trivial⟩,Pick.refl _⟩⟩
theorem cells_Order_1_1_ok (x1:List UInt8) (x2 x3 x4:List (List UInt8)) (r:Bool) (h:lq x1 x2 x3 x4=some r):FnP Tryz.prog 39 [aj x1,a5 (ai ab) x2,a5 (ai ab) x3,a5 (ai ab) x4] (Pr.bool r):=by
 refine a7 (n:=20) (rs:=[5]) Tryz.func39 rfl Tryz.ntmps39 ⟨by decide,Tryz.results39⟩ (by decide) (fun s0=> ?_)
 unfold lq at h
 refine W_rs ?_
 refine rq (out:=Pr.bool false) ae ?_
 refine bg (fun e C=>∃(x10:Bool),f7 x10=some r/\At [(5,Pr.bool x10)] [] e C) ?_ ?_
 ·rintro e C ⟨x10,h,hat1⟩
  refine W_at hat1 ?_
  clear hat1
  unfold f7 at h
  obtain rfl:=Option.some.inj h
  exact bb ⟨rfl,aa⟩
 refine W_r ?_
 refine rq (out:=af ab x2) (bl (R:=ai ab) (a:=x2) ty33) ?_
 refine rq (out:=aj x1) ag ?_
 obtain⟨x5,hx5,h⟩:=ah h
 refine rq (out:=Pr.bool x5) (br (da x2 x1 _ hx5)) ?_
 refine rq (out:=Pr.bool x5) ag ?_
 rcases bc h with⟨hc6,h⟩|⟨hc6,h⟩
 ·refine rqg hc6 (out:=af ab x3) (bl (R:=ai ab) (a:=x3) ty33) ?_
  refine rqg hc6 (out:=aj x1) ag ?_
  obtain⟨x7,hx7,h⟩:=ah h
  refine rqg hc6 (out:=Pr.bool x7) (br (da x3 x1 _ hx7)) ?_
  refine rqg hc6 (out:=Pr.bool x7) ag ?_
  rcases bc h with⟨hc8,h⟩|⟨hc8,h⟩
  ·refine rqg hc8 (out:=af ab x4) (bl (R:=ai ab) (a:=x4) ty33) ?_
   refine rqg hc8 (out:=aj x1) ag ?_
   obtain⟨x9,hx9,h⟩:=ah h
   refine rqg hc8 (out:=Pr.bool x9) (br (da x4 x1 _ hx9)) ?_
   refine rqg hc6 (out:=Pr.bool x9) (bo hc8) ?_
   refine rqg hc6 (out:=Pr.bool (!x9)) qNot ?_
   refine rq (out:=Pr.bool (!x9)) (bo hc6) ?_
   refine rq (out:=Pr.bool (!x9)) ae ?_
   exact⟨!x9,h,⟨⟨aa,trivial⟩,Pick.refl _⟩⟩
  refine rno (neT hc8) ?_
  refine rno (neT hc8) ?_
  refine rno (neT hc8) ?_
  refine rqg hc6 (out:=Pr.bool false) (az hc8) ?_
  refine rqg hc6 (out:=Pr.bool (!false)) qNot ?_
  refine rq (out:=Pr.bool (!false)) (bo hc6) ?_
  refine rq (out:=Pr.bool (!false)) ae ?_
  exact⟨!false,h,⟨⟨aa,trivial⟩,Pick.refl _⟩⟩
 refine rno (neT hc6) ?_
 refine rno (neT hc6) ?_
 refine rno (neT hc6) ?_
 refine rno (neT hc6) ?_
 refine rnoU ?_
 refine rnoU ?_
 refine rnoU ?_
 refine rno (neT hc6) ?_
 refine rno (neT hc6) ?_
 refine rq (out:=Pr.bool false) (az hc6) ?_
 refine rq (out:=Pr.bool false) ae ?_
 exact⟨false,h,⟨⟨aa,trivial⟩,Pick.refl _⟩⟩
theorem cells_Order_1_ok (x1 x2 x3 x4:List (List UInt8)) (r:(List (List UInt8))) (h:jr x1 x2 x3 x4=some r):FnP Tryz.prog 36 [af ab x1,a5 (ai ab) x2,a5 (ai ab) x3,a5 (ai ab) x4] (af ab r):=by
 refine a7 (n:=10) (rs:=[5]) Tryz.func36 rfl Tryz.ntmps36 ⟨by decide,Tryz.results36⟩ (by decide) (fun s0=> ?_)
 unfold jr at h
 refine W_rs ?_
 refine rq (out:=Pr.is (.slice none 0 0)) ae ?_
 refine W_rs ?_
 refine rq (out:=af ab x1) ag ?_
 obtain⟨x5,hx5,h⟩:=ah h
 refine rCallC [] (slices_Clone_ok x1 _ hx5) (fun q C' hq=> ?_)
 obtain⟨v6,rfl,rfl⟩:=hq
 refine rq (out:=ej 39 [] [a5 (ai ab) x2,a5 (ai ab) x3,a5 (ai ab) x4]) gu ?_
 obtain⟨x7,hx7,h⟩:=ah h
 refine rCallC' [0] (ib (fun a0=>lq a0 x2 x3 x4) x5 v6 _ hx7) ⟨aa,(clo_pfn en39 (fun _ _ hs=>by obtain⟨a0,r,rfl,rfl,hr⟩:=hs;exact cells_Order_1_1_ok a0 x2 x3 x4 r hr)),trivial⟩ (fun q C' hq=> ?_)
 obtain⟨rfl,rfl⟩:=hq
 refine rq (out:=af ab x7) ae ?_
 obtain rfl:=Option.some.inj h
 exact bb ⟨rfl,aa⟩
theorem cells_woven_1_ok (x1:List UInt8) (x2:List (List UInt8)) (r:Bool) (h:jq x1 x2=some r):FnP Tryz.prog 54 [aj x1,a5 (ai ab) x2] (Pr.bool r):=by
 refine a7 (n:=7) (rs:=[3]) Tryz.func54 rfl Tryz.ntmps54 ⟨by decide,Tryz.results54⟩ (by decide) (fun s0=> ?_)
 unfold jq at h
 refine W_rs ?_
 refine rq (out:=Pr.bool false) ae ?_
 refine W_rs ?_
 refine rq (out:=af ab x2) (bl (R:=ai ab) (a:=x2) ty33) ?_
 refine rq (out:=aj x1) ag ?_
 obtain⟨x3,hx3,h⟩:=ah h
 refine rq (out:=Pr.bool x3) (br (da x2 x1 _ hx3)) ?_
 refine rq (out:=Pr.bool x3) ae ?_
 obtain rfl:=Option.some.inj h
 exact bb ⟨rfl,aa⟩
end Go.Proofs.YtphkaogfinjbjaaGreatDoor
