/- The code comes to what these functions say (printed by wip/gen/gen.py). -/
import Derived.Test.YtgkcoicaopilhaaGreatDoorZP4
import Derived.Test.YtgkcoicaopilhaaGreatDoorZT
set_option linter.unusedSimpArgs false
set_option linter.unusedVariables false
set_option linter.unusedSectionVars false
set_option linter.unusedSectionVars false
set_option maxRecDepth 100000
set_option maxHeartbeats 4000000
namespace Go.Proofs.YtgkcoicaopilhaaGreatDoor
open Go Go.Cn
theorem ref12_simple_ok (x1:List ApiToken) (x2 x3:Int) (r:ApiNode × Int × Ref12Wrong) (h:ref12_simple x1 x2 x3=some r):FnP Tryz.prog 66 [aj ah x1,Pr.i64 x2,Pr.i64 x3] (bh [(ab).val r.1,Pr.i64 r.2.1,(ac).val r.2.2]):=by
 refine el (n:=94) (rs:=[.cell 6 24,.tmp 7,.cell 8 59]) Tryz.func66 rfl Tryz.ntmps66 Tryz.results66 (by decide) (fun s0=> ?_)
 unfold ref12_simple at h
 refine W_rs ?_
 refine cb (R:=ab) (z:=(ApiNode.mk 0 [] [] 0 0 0 0 0 [])) Tryz.zeroValue24 (fun _=>(by rw[al];exact⟨_,⟨_,_,rfl,rfl,⟨_,_,rfl,rfl,⟨_,_,rfl,rfl,⟨_,_,rfl,rfl,⟨_,_,rfl,rfl,⟨_,_,rfl,rfl,⟨_,_,rfl,rfl,⟨_,_,rfl,rfl,⟨_,_,rfl,⟨_,rfl,none,0,rfl,⟨Nat.le_refl _,fun _=>rfl⟩,.inl rfl⟩,rfl⟩⟩⟩⟩⟩⟩⟩⟩⟩,rfl⟩)) (fun b4=> ?_)
 refine rq (out:=Pr.i64 0) ae ?_
 refine cb (R:=ac) (z:=(Ref12Wrong.mk 0 0)) Tryz.zeroValue59 (fun _=>⟨_,⟨_,_,rfl,rfl,⟨_,_,rfl,rfl,rfl⟩⟩,rfl⟩) (fun b5=> ?_)
 refine a5 ?_
 refine W_rs ?_
 refine rq (out:=aj ah x1) ag ?_
 refine rq (out:=Pr.i64 x2) ag ?_
 obtain⟨x6,hx6,h⟩:=af h
 refine rq (out:=Pr.bool x6) (aw (a7 x1 x2 ([112,114,105,110,116]:List UInt8) _ hx6)) ?_
 refine ao (b:=x6) rfl (fun hc7=> ?_) (fun hc7=> ?_)
 ·replace h:=iteT hc7 h
  refine W_rs ?_
  refine rq (out:=aj ah x1) ag ?_
  refine rq (out:=Pr.i64 x2) ag ?_
  refine rq (out:=Pr.i64 (w64 (x2+1))) qInt ?_
  refine rq (out:=Pr.i64 x3) ag ?_
  refine rq (out:=Pr.i64 (w64 (x3+1))) qInt ?_
  obtain⟨⟨x8,x9,x10⟩,hx8,h⟩:=af h
  refine rq (out:=bh [(ab).val x8,Pr.i64 x9,(ac).val x10]) (aw (ref12_bracketed_ok x1 (w64 (x2+1)) (w64 (x3+1)) _ hx8)) ?_
  refine rq (out:=bh [(ab).val x8,Pr.i64 x9,(ac).val x10]) ag ?_
  refine rq (out:=(ab).val x8) ar ?_
  refine rq (out:=Pr.i64 x9) ar ?_
  refine rq (out:=(ac).val x10) ar ?_
  refine cb (R:=ab) (z:=(ApiNode.mk 0 [] [] 0 0 0 0 0 [])) Tryz.zeroValue24 (fun _=>(by rw[al];exact⟨_,⟨_,_,rfl,rfl,⟨_,_,rfl,rfl,⟨_,_,rfl,rfl,⟨_,_,rfl,rfl,⟨_,_,rfl,rfl,⟨_,_,rfl,rfl,⟨_,_,rfl,rfl,⟨_,_,rfl,rfl,⟨_,_,rfl,⟨_,rfl,none,0,rfl,⟨Nat.le_refl _,fun _=>rfl⟩,.inl rfl⟩,rfl⟩⟩⟩⟩⟩⟩⟩⟩⟩,rfl⟩)) (fun b11=> ?_)
  refine cb (R:=ac) (z:=(Ref12Wrong.mk 0 0)) Tryz.zeroValue59 (fun _=>⟨_,⟨_,_,rfl,rfl,⟨_,_,rfl,rfl,rfl⟩⟩,rfl⟩) (fun b12=> ?_)
  refine aq (R:=ab) (R':=ab) (a:=(ApiNode.mk 0 [] [] 0 0 0 0 0 [])) (y:=x8) 2 Tryz.sizeOf24 (Upd.refl _) ?_
  refine rq (out:=Pr.i64 x9) ae ?_
  refine aq (R:=ac) (R':=ac) (a:=(Ref12Wrong.mk 0 0)) (y:=x10) 3 Tryz.sizeOf59 (Upd.refl _) ?_
  refine a5 ?_
  refine W_rs ?_
  refine rq (out:=ap b12 0) (a4 gy) ?_
  refine rq (out:=Pr.i64 x10.Place) (a8 (R:=ac) (a:=x10) (R':=Rp.int .i64) 3 ty3 bb) ?_
  refine rq (out:=Pr.bool (decide (x10.Place≥0))) qInt ?_
  refine ao (b:=decide (x10.Place≥0)) rfl (fun hc13=> ?_) (fun hc13=> ?_)
  ·replace h:=iteT hc13 h
   refine bc (fun e C=>ref12_simple_j1 x10=some r/\At [(6,ap b4 0),(7,Pr.i64 0),(8,ap b5 0)] [Own.box b4 ab (ApiNode.mk 0 [] [] 0 0 0 0 0 []),Own.box b5 ac x10,Own.box b11 ab x8,Own.box b12 ac x10] e C) ?_ ?_
   ·rintro e C ⟨h,hat1⟩
    refine W_at hat1 ?_
    clear hat1
    unfold ref12_simple_j1 at h
    obtain rfl:=Option.some.inj h
    exact a6 ⟨rfl,[(ab).val (ApiNode.mk 0 [] [] 0 0 0 0 0 []),Pr.i64 0,(ac).val x10],⟨yBox 0 ty24 aa,yT aa,yBox 1 ty59 aa,trivial⟩,aa⟩
   refine dx [(2,0,Own.box b4 ab (ApiNode.mk 0 [] [] 0 0 0 0 0 [])),(4,1,Own.box b5 ac x10)] [Own.box b4 ab (ApiNode.mk 0 [] [] 0 0 0 0 0 []),Own.box b5 ac x10,Own.box b11 ab x8,Own.box b12 ac x10] hmx (by kernel_rfl) (by kernel_rfl) (show([2,4]:List Nat).Nodup by decide) (show([0,1]:List Nat).Nodup by decide) rfl rfl ?_
   refine eq1 (out:=(ab).val (ApiNode.mk 0 [] [] 0 0 0 0 0 [])) (fun C2 hC=>(dc al st24 rfl)) ?_
   refine eq1 (out:=(ac).val x10) (fun C2 hC=>(a8 (R:=ac) (a:=x10) (R':=ac) 3 ty59 (Sub.refl _) (hi:=(hC 3 (by kernel_rfl)).trans rfl))) ?_
   refine eqS (fun C2 hC=>de (R:=ab) (R':=ab) (a:=(ApiNode.mk 0 [] [] 0 0 0 0 0 [])) (y:=(ApiNode.mk 0 [] [] 0 0 0 0 0 [])) 0 Tryz.sizeOf24 (Upd.refl _) ((hC 0 (by kernel_rfl)).trans rfl)) ?_
   refine eq1 (out:=Pr.i64 0) (fun C2 hC=>ae) ?_
   refine eqS (fun C2 hC=>de (R:=ac) (R':=ac) (a:=(Ref12Wrong.mk 0 0)) (y:=x10) 1 Tryz.sizeOf59 (Upd.refl _) ((hC 1 (by kernel_rfl)).trans rfl)) ?_
   exact⟨h,⟨⟨aa,aa,aa,trivial⟩,Pick.refl _⟩⟩
  replace h:=iteF hc13 h
  refine au ?_
  refine a5 ?_
  refine W_rs ?_
  refine rq (out:=aj ah x1) ag ?_
  refine rq (out:=Pr.i64 x9) ag ?_
  obtain⟨x14,hx14,h⟩:=af h
  refine rq (out:=Pr.bool x14) (aw (a7 x1 x9 ([59]:List UInt8) _ hx14)) ?_
  refine rq (out:=Pr.bool (!x14)) qNot ?_
  refine ao (b:= !x14) rfl (fun hc15=> ?_) (fun hc15=> ?_)
  ·replace h:=iteT hc15 h
   refine W_rs ?_
   refine rq (out:=(ab).val (ApiNode.mk 0 [] [] 0 0 0 0 0 [])) (dc al st24 rfl) ?_
   refine rq (out:=Pr.i64 x9) ag ?_
   obtain⟨x16,hx16,h⟩:=af h
   refine rq (out:=(ac).val x16) (aw (bn x9 _ hx16)) ?_
   refine aq (R:=ab) (R':=ab) (a:=(ApiNode.mk 0 [] [] 0 0 0 0 0 [])) (y:=(ApiNode.mk 0 [] [] 0 0 0 0 0 [])) 0 Tryz.sizeOf24 (Upd.refl _) ?_
   refine rq (out:=Pr.i64 0) ae ?_
   refine aq (R:=ac) (R':=ac) (a:=(Ref12Wrong.mk 0 0)) (y:=x16) 1 Tryz.sizeOf59 (Upd.refl _) ?_
   obtain rfl:=Option.some.inj h
   exact a6 ⟨rfl,[(ab).val (ApiNode.mk 0 [] [] 0 0 0 0 0 []),Pr.i64 0,(ac).val x16],⟨yBox 0 ty24 aa,yT aa,yBox 1 ty59 aa,trivial⟩,aa⟩
  replace h:=iteF hc15 h
  refine au ?_
  refine W_rs ?_
  refine rq (out:=aj ah x1) ag ?_
  refine rq (out:=Pr.i64 x2) ag ?_
  refine rq (out:=Pr.i64 x9) ag ?_
  refine rq (out:=Pr.i64 (w64 (x9+1))) qInt ?_
  refine rq (out:=(ab).val x8) (a8 (R:=ab) (a:=x8) (R':=ab) 2 ty24 (Sub.refl _)) ?_
  refine rq (out:=aj ab ([x8]:List ApiNode)) (cr (R:=ab) (a:=x8) el22 (Nat.le_of_ble_eq_true rfl)) ?_
  obtain⟨x17,hx17,h⟩:=af h
  refine rq (out:=(ab).val x17) (aw (cu x1 12 x2 (w64 (x9+1)) ([x8]:List ApiNode) _ hx17)) ?_
  refine rq (out:=Pr.i64 x9) ag ?_
  refine rq (out:=Pr.i64 (w64 (x9+1))) qInt ?_
  obtain⟨x18,hx18,h⟩:=af h
  refine rq (out:=(ac).val x18) (aw (cd _ hx18)) ?_
  refine aq (R:=ab) (R':=ab) (a:=(ApiNode.mk 0 [] [] 0 0 0 0 0 [])) (y:=x17) 0 Tryz.sizeOf24 (Upd.refl _) ?_
  refine rq (out:=Pr.i64 (w64 (x9+1))) ae ?_
  refine aq (R:=ac) (R':=ac) (a:=(Ref12Wrong.mk 0 0)) (y:=x18) 1 Tryz.sizeOf59 (Upd.refl _) ?_
  obtain rfl:=Option.some.inj h
  exact a6 ⟨rfl,[(ab).val x17,Pr.i64 (w64 (x9+1)),(ac).val x18],⟨yBox 0 ty24 aa,yT aa,yBox 1 ty59 aa,trivial⟩,aa⟩
 replace h:=iteF hc7 h
 refine au ?_
 refine a5 ?_
 refine W_rs ?_
 refine rq (out:=aj ah x1) ag ?_
 refine rq (out:=Pr.i64 x2) ag ?_
 refine rq (out:=Pr.i64 (w64 (x2+1))) qInt ?_
 obtain⟨x19,hx19,h⟩:=af h
 refine rq (out:=Pr.bool x19) (aw (a7 x1 (w64 (x2+1)) ([59]:List UInt8) _ hx19)) ?_
 refine ao (b:=x19) rfl (fun hc20=> ?_) (fun hc20=> ?_)
 ·replace h:=iteT hc20 h
  refine W_rs ?_
  refine rq (out:=aj ah x1) ag ?_
  refine rq (out:=Pr.i64 x2) ag ?_
  refine rq (out:=Pr.i64 x2) ag ?_
  refine rq (out:=Pr.i64 (w64 (x2+2))) qInt ?_
  obtain⟨x21,hx21,h⟩:=af h
  refine rq (out:=(ab).val x21) (mc (cu x1 11 x2 (w64 (x2+2)) [] _ hx21) ⟨aa,aa,aa,aa,da _,trivial⟩) ?_
  refine rq (out:=Pr.i64 x2) ag ?_
  refine rq (out:=Pr.i64 (w64 (x2+2))) qInt ?_
  obtain⟨x22,hx22,h⟩:=af h
  refine rq (out:=(ac).val x22) (aw (cd _ hx22)) ?_
  refine aq (R:=ab) (R':=ab) (a:=(ApiNode.mk 0 [] [] 0 0 0 0 0 [])) (y:=x21) 0 Tryz.sizeOf24 (Upd.refl _) ?_
  refine rq (out:=Pr.i64 (w64 (x2+2))) ae ?_
  refine aq (R:=ac) (R':=ac) (a:=(Ref12Wrong.mk 0 0)) (y:=x22) 1 Tryz.sizeOf59 (Upd.refl _) ?_
  obtain rfl:=Option.some.inj h
  exact a6 ⟨rfl,[(ab).val x21,Pr.i64 (w64 (x2+2)),(ac).val x22],⟨yBox 0 ty24 aa,yT aa,yBox 1 ty59 aa,trivial⟩,aa⟩
 replace h:=iteF hc20 h
 refine au ?_
 refine W_rs ?_
 refine rq (out:=aj ah x1) ag ?_
 refine rq (out:=Pr.i64 x2) ag ?_
 refine rq (out:=Pr.i64 (w64 (x2+1))) qInt ?_
 refine rq (out:=Pr.i64 x3) ag ?_
 refine rq (out:=Pr.i64 (w64 (x3+1))) qInt ?_
 obtain⟨⟨x23,x24,x25⟩,hx23,h⟩:=af h
 refine rq (out:=bh [(ab).val x23,Pr.i64 x24,(ac).val x25]) (aw (fp x1 (w64 (x2+1)) (w64 (x3+1)) _ hx23)) ?_
 refine rq (out:=bh [(ab).val x23,Pr.i64 x24,(ac).val x25]) ag ?_
 refine rq (out:=(ab).val x23) ar ?_
 refine rq (out:=Pr.i64 x24) ar ?_
 refine rq (out:=(ac).val x25) ar ?_
 refine cb (R:=ab) (z:=(ApiNode.mk 0 [] [] 0 0 0 0 0 [])) Tryz.zeroValue24 (fun _=>(by rw[al];exact⟨_,⟨_,_,rfl,rfl,⟨_,_,rfl,rfl,⟨_,_,rfl,rfl,⟨_,_,rfl,rfl,⟨_,_,rfl,rfl,⟨_,_,rfl,rfl,⟨_,_,rfl,rfl,⟨_,_,rfl,rfl,⟨_,_,rfl,⟨_,rfl,none,0,rfl,⟨Nat.le_refl _,fun _=>rfl⟩,.inl rfl⟩,rfl⟩⟩⟩⟩⟩⟩⟩⟩⟩,rfl⟩)) (fun b26=> ?_)
 refine cb (R:=ac) (z:=(Ref12Wrong.mk 0 0)) Tryz.zeroValue59 (fun _=>⟨_,⟨_,_,rfl,rfl,⟨_,_,rfl,rfl,rfl⟩⟩,rfl⟩) (fun b27=> ?_)
 refine aq (R:=ab) (R':=ab) (a:=(ApiNode.mk 0 [] [] 0 0 0 0 0 [])) (y:=x23) 2 Tryz.sizeOf24 (Upd.refl _) ?_
 refine rq (out:=Pr.i64 x24) ae ?_
 refine aq (R:=ac) (R':=ac) (a:=(Ref12Wrong.mk 0 0)) (y:=x25) 3 Tryz.sizeOf59 (Upd.refl _) ?_
 refine a5 ?_
 refine W_rs ?_
 refine rq (out:=ap b27 0) (a4 gy) ?_
 refine rq (out:=Pr.i64 x25.Place) (a8 (R:=ac) (a:=x25) (R':=Rp.int .i64) 3 ty3 bb) ?_
 refine rq (out:=Pr.bool (decide (x25.Place≥0))) qInt ?_
 refine ao (b:=decide (x25.Place≥0)) rfl (fun hc28=> ?_) (fun hc28=> ?_)
 ·replace h:=iteT hc28 h
  refine bc (fun e C=>ref12_simple_j2 x25=some r/\At [(6,ap b4 0),(7,Pr.i64 0),(8,ap b5 0)] [Own.box b4 ab (ApiNode.mk 0 [] [] 0 0 0 0 0 []),Own.box b5 ac x25,Own.box b26 ab x23,Own.box b27 ac x25] e C) ?_ ?_
  ·rintro e C ⟨h,hat2⟩
   refine W_at hat2 ?_
   clear hat2
   unfold ref12_simple_j2 at h
   obtain rfl:=Option.some.inj h
   exact a6 ⟨rfl,[(ab).val (ApiNode.mk 0 [] [] 0 0 0 0 0 []),Pr.i64 0,(ac).val x25],⟨yBox 0 ty24 aa,yT aa,yBox 1 ty59 aa,trivial⟩,aa⟩
  refine dx [(2,0,Own.box b4 ab (ApiNode.mk 0 [] [] 0 0 0 0 0 [])),(4,1,Own.box b5 ac x25)] [Own.box b4 ab (ApiNode.mk 0 [] [] 0 0 0 0 0 []),Own.box b5 ac x25,Own.box b26 ab x23,Own.box b27 ac x25] hmx (by kernel_rfl) (by kernel_rfl) (show([2,4]:List Nat).Nodup by decide) (show([0,1]:List Nat).Nodup by decide) rfl rfl ?_
  refine eq1 (out:=(ab).val (ApiNode.mk 0 [] [] 0 0 0 0 0 [])) (fun C2 hC=>(dc al st24 rfl)) ?_
  refine eq1 (out:=(ac).val x25) (fun C2 hC=>(a8 (R:=ac) (a:=x25) (R':=ac) 3 ty59 (Sub.refl _) (hi:=(hC 3 (by kernel_rfl)).trans rfl))) ?_
  refine eqS (fun C2 hC=>de (R:=ab) (R':=ab) (a:=(ApiNode.mk 0 [] [] 0 0 0 0 0 [])) (y:=(ApiNode.mk 0 [] [] 0 0 0 0 0 [])) 0 Tryz.sizeOf24 (Upd.refl _) ((hC 0 (by kernel_rfl)).trans rfl)) ?_
  refine eq1 (out:=Pr.i64 0) (fun C2 hC=>ae) ?_
  refine eqS (fun C2 hC=>de (R:=ac) (R':=ac) (a:=(Ref12Wrong.mk 0 0)) (y:=x25) 1 Tryz.sizeOf59 (Upd.refl _) ((hC 1 (by kernel_rfl)).trans rfl)) ?_
  exact⟨h,⟨⟨aa,aa,aa,trivial⟩,Pick.refl _⟩⟩
 replace h:=iteF hc28 h
 refine au ?_
 refine a5 ?_
 refine W_rs ?_
 refine rq (out:=aj ah x1) ag ?_
 refine rq (out:=Pr.i64 x24) ag ?_
 obtain⟨x29,hx29,h⟩:=af h
 refine rq (out:=Pr.bool x29) (aw (a7 x1 x24 ([59]:List UInt8) _ hx29)) ?_
 refine rq (out:=Pr.bool (!x29)) qNot ?_
 refine ao (b:= !x29) rfl (fun hc30=> ?_) (fun hc30=> ?_)
 ·replace h:=iteT hc30 h
  refine W_rs ?_
  refine rq (out:=(ab).val (ApiNode.mk 0 [] [] 0 0 0 0 0 [])) (dc al st24 rfl) ?_
  refine rq (out:=Pr.i64 x24) ag ?_
  obtain⟨x31,hx31,h⟩:=af h
  refine rq (out:=(ac).val x31) (aw (bn x24 _ hx31)) ?_
  refine aq (R:=ab) (R':=ab) (a:=(ApiNode.mk 0 [] [] 0 0 0 0 0 [])) (y:=(ApiNode.mk 0 [] [] 0 0 0 0 0 [])) 0 Tryz.sizeOf24 (Upd.refl _) ?_
  refine rq (out:=Pr.i64 0) ae ?_
  refine aq (R:=ac) (R':=ac) (a:=(Ref12Wrong.mk 0 0)) (y:=x31) 1 Tryz.sizeOf59 (Upd.refl _) ?_
  obtain rfl:=Option.some.inj h
  exact a6 ⟨rfl,[(ab).val (ApiNode.mk 0 [] [] 0 0 0 0 0 []),Pr.i64 0,(ac).val x31],⟨yBox 0 ty24 aa,yT aa,yBox 1 ty59 aa,trivial⟩,aa⟩
 replace h:=iteF hc30 h
 refine au ?_
 refine W_rs ?_
 refine rq (out:=aj ah x1) ag ?_
 refine rq (out:=Pr.i64 x2) ag ?_
 refine rq (out:=Pr.i64 x24) ag ?_
 refine rq (out:=Pr.i64 (w64 (x24+1))) qInt ?_
 refine rq (out:=(ab).val x23) (a8 (R:=ab) (a:=x23) (R':=ab) 2 ty24 (Sub.refl _)) ?_
 refine rq (out:=aj ab ([x23]:List ApiNode)) (cr (R:=ab) (a:=x23) el22 (Nat.le_of_ble_eq_true rfl)) ?_
 obtain⟨x32,hx32,h⟩:=af h
 refine rq (out:=(ab).val x32) (aw (cu x1 11 x2 (w64 (x24+1)) ([x23]:List ApiNode) _ hx32)) ?_
 refine rq (out:=Pr.i64 x24) ag ?_
 refine rq (out:=Pr.i64 (w64 (x24+1))) qInt ?_
 obtain⟨x33,hx33,h⟩:=af h
 refine rq (out:=(ac).val x33) (aw (cd _ hx33)) ?_
 refine aq (R:=ab) (R':=ab) (a:=(ApiNode.mk 0 [] [] 0 0 0 0 0 [])) (y:=x32) 0 Tryz.sizeOf24 (Upd.refl _) ?_
 refine rq (out:=Pr.i64 (w64 (x24+1))) ae ?_
 refine aq (R:=ac) (R':=ac) (a:=(Ref12Wrong.mk 0 0)) (y:=x33) 1 Tryz.sizeOf59 (Upd.refl _) ?_
 obtain rfl:=Option.some.inj h
 exact a6 ⟨rfl,[(ab).val x32,Pr.i64 (w64 (x24+1)),(ac).val x33],⟨yBox 0 ty24 aa,yT aa,yBox 1 ty59 aa,trivial⟩,aa⟩
theorem ref12_local_ok (x1:List ApiToken) (x2:Int) (r:Bool) (h:ref12_local x1 x2=some r):FnP Tryz.prog 37 [aj ah x1,Pr.i64 x2] (Pr.bool r):=by
 refine bo (n:=29) (rs:=[4]) Tryz.func37 rfl Tryz.ntmps37 ⟨by decide,Tryz.results37⟩ (by decide) (fun s0=> ?_)
 unfold ref12_local at h
 refine W_rs ?_
 refine rq (out:=Pr.bool false) ae ?_
 refine bc (fun e C=>∃(x26:Bool),gp x26=some r/\At [(4,Pr.bool x26)] [] e C) ?_ ?_
 ·rintro e C ⟨x26,h,hat1⟩
  refine W_at hat1 ?_
  clear hat1
  unfold gp at h
  obtain rfl:=Option.some.inj h
  exact a6 ⟨rfl,aa⟩
 refine W_r ?_
 refine rq (out:=aj ah x1) ag ?_
 refine rq (out:=Pr.i64 x2) ag ?_
 obtain⟨x3,hx3,h⟩:=af h
 refine rq (out:=Pr.bool x3) (aw (a7 x1 x2 ([105,110,116]:List UInt8) _ hx3)) ?_
 refine rq (out:=Pr.bool x3) ag ?_
 rcases bv h with⟨hc4,h⟩|⟨hc4,h⟩
 ·refine rno (neF hc4) ?_
  refine rno (neF hc4) ?_
  refine rno (neF hc4) ?_
  refine rq (out:=Pr.bool true) (bu hc4) ?_
  refine rq (out:=Pr.bool true) ag ?_
  have hc16:true=true:=rfl
  refine rno (neF hc16) ?_
  refine rno (neF hc16) ?_
  refine rno (neF hc16) ?_
  refine rq (out:=Pr.bool true) (bu hc16) ?_
  refine rq (out:=Pr.bool true) ag ?_
  have hc22:true=true:=rfl
  refine rno (neF hc22) ?_
  refine rno (neF hc22) ?_
  refine rno (neF hc22) ?_
  refine rno (neF hc22) ?_
  refine rnoU ?_
  refine rnoU ?_
  refine rnoU ?_
  refine rnoU ?_
  refine rno (neF hc22) ?_
  refine rq (out:=Pr.bool true) (bu hc22) ?_
  refine rq (out:=Pr.bool true) ae ?_
  exact⟨true,h,⟨⟨aa,trivial⟩,Pick.refl _⟩⟩
 refine rqg hc4 (out:=aj ah x1) ag ?_
 refine rqg hc4 (out:=Pr.i64 x2) ag ?_
 obtain⟨x5,hx5,h⟩:=af h
 refine rqg hc4 (out:=Pr.bool x5) (aw (a7 x1 x2 ([98,111,111,108,101,97,110]:List UInt8) _ hx5)) ?_
 refine rq (out:=Pr.bool x5) (bp hc4) ?_
 refine rq (out:=Pr.bool x5) ag ?_
 rcases bv h with⟨hc6,h⟩|⟨hc6,h⟩
 ·refine rno (neF hc6) ?_
  refine rno (neF hc6) ?_
  refine rno (neF hc6) ?_
  refine rq (out:=Pr.bool true) (bu hc6) ?_
  refine rq (out:=Pr.bool true) ag ?_
  have hc12:true=true:=rfl
  refine rno (neF hc12) ?_
  refine rno (neF hc12) ?_
  refine rno (neF hc12) ?_
  refine rno (neF hc12) ?_
  refine rnoU ?_
  refine rnoU ?_
  refine rnoU ?_
  refine rnoU ?_
  refine rno (neF hc12) ?_
  refine rq (out:=Pr.bool true) (bu hc12) ?_
  refine rq (out:=Pr.bool true) ae ?_
  exact⟨true,h,⟨⟨aa,trivial⟩,Pick.refl _⟩⟩
 refine rqg hc6 (out:=aj ah x1) ag ?_
 refine rqg hc6 (out:=Pr.i64 x2) ag ?_
 obtain⟨x7,hx7,h⟩:=af h
 refine rqg hc6 (out:=Pr.bool x7) (aw (a7 x1 x2 ([118,111,105,100]:List UInt8) _ hx7)) ?_
 refine rq (out:=Pr.bool x7) (bp hc6) ?_
 refine rq (out:=Pr.bool x7) ag ?_
 rcases bv h with⟨hc8,h⟩|⟨hc8,h⟩
 ·refine rno (neF hc8) ?_
  refine rno (neF hc8) ?_
  refine rno (neF hc8) ?_
  refine rno (neF hc8) ?_
  refine rnoU ?_
  refine rnoU ?_
  refine rnoU ?_
  refine rnoU ?_
  refine rno (neF hc8) ?_
  refine rq (out:=Pr.bool true) (bu hc8) ?_
  refine rq (out:=Pr.bool true) ae ?_
  exact⟨true,h,⟨⟨aa,trivial⟩,Pick.refl _⟩⟩
 refine rqg hc8 (out:=aj ah x1) ag ?_
 refine rqg hc8 (out:=Pr.i64 x2) ag ?_
 obtain⟨x9,hx9,h⟩:=af h
 refine rqg hc8 (out:=Pr.bool x9) (aw (gm x1 x2 _ hx9)) ?_
 refine rqg hc8 (out:=Pr.bool x9) ag ?_
 rcases bv h with⟨hc10,h⟩|⟨hc10,h⟩
 ·refine rqg hc10 (out:=aj ah x1) ag ?_
  refine rqg hc10 (out:=Pr.i64 x2) ag ?_
  refine rqg hc10 (out:=Pr.i64 (w64 (x2+1))) qInt ?_
  obtain⟨x11,hx11,h⟩:=af h
  refine rqg hc10 (out:=Pr.bool x11) (aw (gm x1 (w64 (x2+1)) _ hx11)) ?_
  refine rqg hc8 (out:=Pr.bool x11) (bu hc10) ?_
  refine rq (out:=Pr.bool x11) (bp hc8) ?_
  refine rq (out:=Pr.bool x11) ae ?_
  exact⟨x11,h,⟨⟨aa,trivial⟩,Pick.refl _⟩⟩
 refine rno (neT hc10) ?_
 refine rno (neT hc10) ?_
 refine rno (neT hc10) ?_
 refine rno (neT hc10) ?_
 refine rqg hc8 (out:=Pr.bool false) (bp hc10) ?_
 refine rq (out:=Pr.bool false) (bp hc8) ?_
 refine rq (out:=Pr.bool false) ae ?_
 exact⟨false,h,⟨⟨aa,trivial⟩,Pick.refl _⟩⟩
theorem ref12_locals_ok (x1:List ApiToken) (x2 x3:Int) (r:ApiNode × Int × Ref12Wrong) (h:nu x1 x2 x3=some r):FnP Tryz.prog 38 [aj ah x1,Pr.i64 x2,Pr.i64 x3] (bh [(ab).val r.1,Pr.i64 r.2.1,(ac).val r.2.2]):=by
 refine el (n:=71) (rs:=[.cell 6 24,.tmp 7,.cell 8 59]) Tryz.func38 rfl Tryz.ntmps38 Tryz.results38 (by decide) (fun s0=> ?_)
 unfold nu at h
 refine W_rs ?_
 refine cb (R:=ab) (z:=(ApiNode.mk 0 [] [] 0 0 0 0 0 [])) Tryz.zeroValue24 (fun _=>(by rw[al];exact⟨_,⟨_,_,rfl,rfl,⟨_,_,rfl,rfl,⟨_,_,rfl,rfl,⟨_,_,rfl,rfl,⟨_,_,rfl,rfl,⟨_,_,rfl,rfl,⟨_,_,rfl,rfl,⟨_,_,rfl,rfl,⟨_,_,rfl,⟨_,rfl,none,0,rfl,⟨Nat.le_refl _,fun _=>rfl⟩,.inl rfl⟩,rfl⟩⟩⟩⟩⟩⟩⟩⟩⟩,rfl⟩)) (fun b4=> ?_)
 refine rq (out:=Pr.i64 0) ae ?_
 refine cb (R:=ac) (z:=(Ref12Wrong.mk 0 0)) Tryz.zeroValue59 (fun _=>⟨_,⟨_,_,rfl,rfl,⟨_,_,rfl,rfl,rfl⟩⟩,rfl⟩) (fun b5=> ?_)
 refine a5 ?_
 refine W_rs ?_
 refine rq (out:=aj ah x1) ag ?_
 refine rq (out:=Pr.i64 x2) ag ?_
 obtain⟨x6,hx6,h⟩:=af h
 refine rq (out:=Pr.bool x6) (aw (a7 x1 x2 ([118,111,105,100]:List UInt8) _ hx6)) ?_
 refine ao (b:=x6) rfl (fun hc7=> ?_) (fun hc7=> ?_)
 ·replace h:=iteT hc7 h
  refine W_rs ?_
  refine rq (out:=(ab).val (ApiNode.mk 0 [] [] 0 0 0 0 0 [])) (dc al st24 rfl) ?_
  refine rq (out:=Pr.i64 x2) ag ?_
  obtain⟨x8,hx8,h⟩:=af h
  refine rq (out:=(ac).val x8) (aw (bn x2 _ hx8)) ?_
  refine aq (R:=ab) (R':=ab) (a:=(ApiNode.mk 0 [] [] 0 0 0 0 0 [])) (y:=(ApiNode.mk 0 [] [] 0 0 0 0 0 [])) 0 Tryz.sizeOf24 (Upd.refl _) ?_
  refine rq (out:=Pr.i64 0) ae ?_
  refine aq (R:=ac) (R':=ac) (a:=(Ref12Wrong.mk 0 0)) (y:=x8) 1 Tryz.sizeOf59 (Upd.refl _) ?_
  obtain rfl:=Option.some.inj h
  exact a6 ⟨rfl,[(ab).val (ApiNode.mk 0 [] [] 0 0 0 0 0 []),Pr.i64 0,(ac).val x8],⟨yBox 0 ty24 aa,yT aa,yBox 1 ty59 aa,trivial⟩,aa⟩
 replace h:=iteF hc7 h
 refine au ?_
 refine a5 ?_
 refine W_rs ?_
 refine rq (out:=aj ah x1) ag ?_
 refine rq (out:=Pr.i64 x2) ag ?_
 refine rq (out:=Pr.i64 (w64 (x2+1))) qInt ?_
 obtain⟨x9,hx9,h⟩:=af h
 refine rq (out:=Pr.bool x9) (aw (gm x1 (w64 (x2+1)) _ hx9)) ?_
 refine rq (out:=Pr.bool (!x9)) qNot ?_
 refine ao (b:= !x9) rfl (fun hc10=> ?_) (fun hc10=> ?_)
 ·replace h:=iteT hc10 h
  refine W_rs ?_
  refine rq (out:=(ab).val (ApiNode.mk 0 [] [] 0 0 0 0 0 [])) (dc al st24 rfl) ?_
  refine rq (out:=Pr.i64 x2) ag ?_
  refine rq (out:=Pr.i64 (w64 (x2+1))) qInt ?_
  obtain⟨x11,hx11,h⟩:=af h
  refine rq (out:=(ac).val x11) (aw (bn (w64 (x2+1)) _ hx11)) ?_
  refine aq (R:=ab) (R':=ab) (a:=(ApiNode.mk 0 [] [] 0 0 0 0 0 [])) (y:=(ApiNode.mk 0 [] [] 0 0 0 0 0 [])) 0 Tryz.sizeOf24 (Upd.refl _) ?_
  refine rq (out:=Pr.i64 0) ae ?_
  refine aq (R:=ac) (R':=ac) (a:=(Ref12Wrong.mk 0 0)) (y:=x11) 1 Tryz.sizeOf59 (Upd.refl _) ?_
  obtain rfl:=Option.some.inj h
  exact a6 ⟨rfl,[(ab).val (ApiNode.mk 0 [] [] 0 0 0 0 0 []),Pr.i64 0,(ac).val x11],⟨yBox 0 ty24 aa,yT aa,yBox 1 ty59 aa,trivial⟩,aa⟩
 replace h:=iteF hc10 h
 refine au ?_
 refine a5 ?_
 refine W_rs ?_
 refine rq (out:=aj ah x1) ag ?_
 refine rq (out:=Pr.i64 x2) ag ?_
 refine rq (out:=Pr.i64 (w64 (x2+2))) qInt ?_
 obtain⟨x12,hx12,h⟩:=af h
 refine rq (out:=Pr.bool x12) (aw (a7 x1 (w64 (x2+2)) ([61]:List UInt8) _ hx12)) ?_
 refine rq (out:=Pr.bool (!x12)) qNot ?_
 refine ao (b:= !x12) rfl (fun hc13=> ?_) (fun hc13=> ?_)
 ·replace h:=iteT hc13 h
  refine W_rs ?_
  refine rq (out:=(ab).val (ApiNode.mk 0 [] [] 0 0 0 0 0 [])) (dc al st24 rfl) ?_
  refine rq (out:=Pr.i64 x2) ag ?_
  refine rq (out:=Pr.i64 (w64 (x2+2))) qInt ?_
  obtain⟨x14,hx14,h⟩:=af h
  refine rq (out:=(ac).val x14) (aw (bn (w64 (x2+2)) _ hx14)) ?_
  refine aq (R:=ab) (R':=ab) (a:=(ApiNode.mk 0 [] [] 0 0 0 0 0 [])) (y:=(ApiNode.mk 0 [] [] 0 0 0 0 0 [])) 0 Tryz.sizeOf24 (Upd.refl _) ?_
  refine rq (out:=Pr.i64 0) ae ?_
  refine aq (R:=ac) (R':=ac) (a:=(Ref12Wrong.mk 0 0)) (y:=x14) 1 Tryz.sizeOf59 (Upd.refl _) ?_
  obtain rfl:=Option.some.inj h
  exact a6 ⟨rfl,[(ab).val (ApiNode.mk 0 [] [] 0 0 0 0 0 []),Pr.i64 0,(ac).val x14],⟨yBox 0 ty24 aa,yT aa,yBox 1 ty59 aa,trivial⟩,aa⟩
 replace h:=iteF hc13 h
 refine au ?_
 refine W_rs ?_
 refine rq (out:=aj ah x1) ag ?_
 refine rq (out:=Pr.i64 x2) ag ?_
 refine rq (out:=Pr.i64 (w64 (x2+3))) qInt ?_
 refine rq (out:=Pr.i64 x3) ag ?_
 refine rq (out:=Pr.i64 (w64 (x3+1))) qInt ?_
 obtain⟨⟨x15,x16,x17⟩,hx15,h⟩:=af h
 refine rq (out:=bh [(ab).val x15,Pr.i64 x16,(ac).val x17]) (aw (fp x1 (w64 (x2+3)) (w64 (x3+1)) _ hx15)) ?_
 refine rq (out:=bh [(ab).val x15,Pr.i64 x16,(ac).val x17]) ag ?_
 refine rq (out:=(ab).val x15) ar ?_
 refine rq (out:=Pr.i64 x16) ar ?_
 refine rq (out:=(ac).val x17) ar ?_
 refine cb (R:=ab) (z:=(ApiNode.mk 0 [] [] 0 0 0 0 0 [])) Tryz.zeroValue24 (fun _=>(by rw[al];exact⟨_,⟨_,_,rfl,rfl,⟨_,_,rfl,rfl,⟨_,_,rfl,rfl,⟨_,_,rfl,rfl,⟨_,_,rfl,rfl,⟨_,_,rfl,rfl,⟨_,_,rfl,rfl,⟨_,_,rfl,rfl,⟨_,_,rfl,⟨_,rfl,none,0,rfl,⟨Nat.le_refl _,fun _=>rfl⟩,.inl rfl⟩,rfl⟩⟩⟩⟩⟩⟩⟩⟩⟩,rfl⟩)) (fun b18=> ?_)
 refine cb (R:=ac) (z:=(Ref12Wrong.mk 0 0)) Tryz.zeroValue59 (fun _=>⟨_,⟨_,_,rfl,rfl,⟨_,_,rfl,rfl,rfl⟩⟩,rfl⟩) (fun b19=> ?_)
 refine aq (R:=ab) (R':=ab) (a:=(ApiNode.mk 0 [] [] 0 0 0 0 0 [])) (y:=x15) 2 Tryz.sizeOf24 (Upd.refl _) ?_
 refine rq (out:=Pr.i64 x16) ae ?_
 refine aq (R:=ac) (R':=ac) (a:=(Ref12Wrong.mk 0 0)) (y:=x17) 3 Tryz.sizeOf59 (Upd.refl _) ?_
 refine a5 ?_
 refine W_rs ?_
 refine rq (out:=ap b19 0) (a4 gy) ?_
 refine rq (out:=Pr.i64 x17.Place) (a8 (R:=ac) (a:=x17) (R':=Rp.int .i64) 3 ty3 bb) ?_
 refine rq (out:=Pr.bool (decide (x17.Place≥0))) qInt ?_
 refine ao (b:=decide (x17.Place≥0)) rfl (fun hc20=> ?_) (fun hc20=> ?_)
 ·replace h:=iteT hc20 h
  refine bc (fun e C=>ref12_locals_j1 x17=some r/\At [(6,ap b4 0),(7,Pr.i64 0),(8,ap b5 0)] [Own.box b4 ab (ApiNode.mk 0 [] [] 0 0 0 0 0 []),Own.box b5 ac x17,Own.box b18 ab x15,Own.box b19 ac x17] e C) ?_ ?_
  ·rintro e C ⟨h,hat1⟩
   refine W_at hat1 ?_
   clear hat1
   unfold ref12_locals_j1 at h
   obtain rfl:=Option.some.inj h
   exact a6 ⟨rfl,[(ab).val (ApiNode.mk 0 [] [] 0 0 0 0 0 []),Pr.i64 0,(ac).val x17],⟨yBox 0 ty24 aa,yT aa,yBox 1 ty59 aa,trivial⟩,aa⟩
  refine dx [(2,0,Own.box b4 ab (ApiNode.mk 0 [] [] 0 0 0 0 0 [])),(4,1,Own.box b5 ac x17)] [Own.box b4 ab (ApiNode.mk 0 [] [] 0 0 0 0 0 []),Own.box b5 ac x17,Own.box b18 ab x15,Own.box b19 ac x17] hmx (by kernel_rfl) (by kernel_rfl) (show([2,4]:List Nat).Nodup by decide) (show([0,1]:List Nat).Nodup by decide) rfl rfl ?_
  refine eq1 (out:=(ab).val (ApiNode.mk 0 [] [] 0 0 0 0 0 [])) (fun C2 hC=>(dc al st24 rfl)) ?_
  refine eq1 (out:=(ac).val x17) (fun C2 hC=>(a8 (R:=ac) (a:=x17) (R':=ac) 3 ty59 (Sub.refl _) (hi:=(hC 3 (by kernel_rfl)).trans rfl))) ?_
  refine eqS (fun C2 hC=>de (R:=ab) (R':=ab) (a:=(ApiNode.mk 0 [] [] 0 0 0 0 0 [])) (y:=(ApiNode.mk 0 [] [] 0 0 0 0 0 [])) 0 Tryz.sizeOf24 (Upd.refl _) ((hC 0 (by kernel_rfl)).trans rfl)) ?_
  refine eq1 (out:=Pr.i64 0) (fun C2 hC=>ae) ?_
  refine eqS (fun C2 hC=>de (R:=ac) (R':=ac) (a:=(Ref12Wrong.mk 0 0)) (y:=x17) 1 Tryz.sizeOf59 (Upd.refl _) ((hC 1 (by kernel_rfl)).trans rfl)) ?_
  exact⟨h,⟨⟨aa,aa,aa,trivial⟩,Pick.refl _⟩⟩
 replace h:=iteF hc20 h
 refine au ?_
 refine a5 ?_
 refine W_rs ?_
 refine rq (out:=aj ah x1) ag ?_
 refine rq (out:=Pr.i64 x16) ag ?_
 obtain⟨x21,hx21,h⟩:=af h
 refine rq (out:=Pr.bool x21) (aw (a7 x1 x16 ([59]:List UInt8) _ hx21)) ?_
 refine rq (out:=Pr.bool (!x21)) qNot ?_
 refine ao (b:= !x21) rfl (fun hc22=> ?_) (fun hc22=> ?_)
 ·replace h:=iteT hc22 h
  refine W_rs ?_
  refine rq (out:=(ab).val (ApiNode.mk 0 [] [] 0 0 0 0 0 [])) (dc al st24 rfl) ?_
  refine rq (out:=Pr.i64 x16) ag ?_
  obtain⟨x23,hx23,h⟩:=af h
  refine rq (out:=(ac).val x23) (aw (bn x16 _ hx23)) ?_
  refine aq (R:=ab) (R':=ab) (a:=(ApiNode.mk 0 [] [] 0 0 0 0 0 [])) (y:=(ApiNode.mk 0 [] [] 0 0 0 0 0 [])) 0 Tryz.sizeOf24 (Upd.refl _) ?_
  refine rq (out:=Pr.i64 0) ae ?_
  refine aq (R:=ac) (R':=ac) (a:=(Ref12Wrong.mk 0 0)) (y:=x23) 1 Tryz.sizeOf59 (Upd.refl _) ?_
  obtain rfl:=Option.some.inj h
  exact a6 ⟨rfl,[(ab).val (ApiNode.mk 0 [] [] 0 0 0 0 0 []),Pr.i64 0,(ac).val x23],⟨yBox 0 ty24 aa,yT aa,yBox 1 ty59 aa,trivial⟩,aa⟩
 replace h:=iteF hc22 h
 refine au ?_
 refine W_rs ?_
 refine rq (out:=aj ah x1) ag ?_
 refine rq (out:=aj ah x1) ag ?_
 refine rq (out:=Pr.i64 x2) ag ?_
 refine rq (out:=Pr.i64 x16) ag ?_
 refine rq (out:=Pr.i64 (w64 (x16+1))) qInt ?_
 refine rq (out:=(ab).val x15) (a8 (R:=ab) (a:=x15) (R':=ab) 2 ty24 (Sub.refl _)) ?_
 refine rq (out:=aj ab ([x15]:List ApiNode)) (cr (R:=ab) (a:=x15) el22 (Nat.le_of_ble_eq_true rfl)) ?_
 obtain⟨x24,hx24,h⟩:=af h
 refine rq (out:=(ab).val x24) (aw (cu x1 6 x2 (w64 (x16+1)) ([x15]:List ApiNode) _ hx24)) ?_
 refine rq (out:=Pr.i64 x2) ag ?_
 obtain⟨x25,hx25,h⟩:=af h
 refine rq (out:=(ab).val x25) (aw (ref12_typed_ok x1 x24 x2 _ hx25)) ?_
 refine rq (out:=Pr.i64 x16) ag ?_
 refine rq (out:=Pr.i64 (w64 (x16+1))) qInt ?_
 obtain⟨x26,hx26,h⟩:=af h
 refine rq (out:=(ac).val x26) (aw (cd _ hx26)) ?_
 refine aq (R:=ab) (R':=ab) (a:=(ApiNode.mk 0 [] [] 0 0 0 0 0 [])) (y:=x25) 0 Tryz.sizeOf24 (Upd.refl _) ?_
 refine rq (out:=Pr.i64 (w64 (x16+1))) ae ?_
 refine aq (R:=ac) (R':=ac) (a:=(Ref12Wrong.mk 0 0)) (y:=x26) 1 Tryz.sizeOf59 (Upd.refl _) ?_
 obtain rfl:=Option.some.inj h
 exact a6 ⟨rfl,[(ab).val x25,Pr.i64 (w64 (x16+1)),(ac).val x26],⟨yBox 0 ty24 aa,yT aa,yBox 1 ty59 aa,trivial⟩,aa⟩
def gf (R:av):Prop:=(∀(x1:List ApiToken) (x2:Int) (x3:Int) (r:ApiNode × Int × Ref12Wrong),R.1 x1 x2 x3=some r->FnP Tryz.prog 39 [aj ah x1,Pr.i64 x2,Pr.i64 x3] (bh [(ab).val r.1,Pr.i64 r.2.1,(ac).val r.2.2]))/\(∀(x1:List ApiToken) (x2:Int) (x3:Int) (r:ApiNode × Int × Ref12Wrong),R.2.1 x1 x2 x3=some r->FnP Tryz.prog 61 [aj ah x1,Pr.i64 x2,Pr.i64 x3] (bh [(ab).val r.1,Pr.i64 r.2.1,(ac).val r.2.2]))/\(∀(x1:List ApiToken) (x2:Int) (x3:Int) (r:ApiNode × Int × Ref12Wrong),R.2.2 x1 x2 x3=some r->FnP Tryz.prog 65 [aj ah x1,Pr.i64 x2,Pr.i64 x3] (bh [(ab).val r.1,Pr.i64 r.2.1,(ac).val r.2.2]))
theorem F_ref12_statement_step (R:av) (ih:gf R) (x1:List ApiToken) (x2 x3:Int) (r:ApiNode × Int × Ref12Wrong) (h:ji R x1 x2 x3=some r):FnP Tryz.prog 39 [aj ah x1,Pr.i64 x2,Pr.i64 x3] (bh [(ab).val r.1,Pr.i64 r.2.1,(ac).val r.2.2]):=by
 refine el (n:=117) (rs:=[.cell 6 24,.tmp 7,.cell 8 59]) Tryz.func39 rfl Tryz.ntmps39 Tryz.results39 (by decide) (fun s0=> ?_)
 unfold ji at h
 refine W_rs ?_
 refine cb (R:=ab) (z:=(ApiNode.mk 0 [] [] 0 0 0 0 0 [])) Tryz.zeroValue24 (fun _=>(by rw[al];exact⟨_,⟨_,_,rfl,rfl,⟨_,_,rfl,rfl,⟨_,_,rfl,rfl,⟨_,_,rfl,rfl,⟨_,_,rfl,rfl,⟨_,_,rfl,rfl,⟨_,_,rfl,rfl,⟨_,_,rfl,rfl,⟨_,_,rfl,⟨_,rfl,none,0,rfl,⟨Nat.le_refl _,fun _=>rfl⟩,.inl rfl⟩,rfl⟩⟩⟩⟩⟩⟩⟩⟩⟩,rfl⟩)) (fun b4=> ?_)
 refine rq (out:=Pr.i64 0) ae ?_
 refine cb (R:=ac) (z:=(Ref12Wrong.mk 0 0)) Tryz.zeroValue59 (fun _=>⟨_,⟨_,_,rfl,rfl,⟨_,_,rfl,rfl,rfl⟩⟩,rfl⟩) (fun b5=> ?_)
 refine a5 ?_
 refine W_rs ?_
 refine rq (out:=Pr.i64 x3) ag ?_
 refine rq (out:=Pr.bool (decide (x3>60))) qInt ?_
 refine ao (b:=decide (x3>60)) rfl (fun hc6=> ?_) (fun hc6=> ?_)
 ·replace h:=iteT hc6 h
  refine W_rs ?_
  refine rq (out:=(ab).val (ApiNode.mk 0 [] [] 0 0 0 0 0 [])) (dc al st24 rfl) ?_
  refine rq (out:=Pr.i64 x2) ag ?_
  refine rq (out:=(ac).val (Ref12Wrong.mk x2 2)) (qBuild st59 ⟨(Ref12Wrong.mk x2 0),⟨_,rfl,rfl,fun j fd hj hf=>by match j,hj with| 0,h=>exact absurd rfl h| 1,_=>cases hf;rfl|_+2,_=>cases hf⟩,⟨(Ref12Wrong.mk x2 2),⟨_,rfl,rfl,fun j fd hj hf=>by match j,hj with| 0,_=>cases hf;rfl| 1,h=>exact absurd rfl h|_+2,_=>cases hf⟩,rfl⟩⟩) ?_
  refine aq (R:=ab) (R':=ab) (a:=(ApiNode.mk 0 [] [] 0 0 0 0 0 [])) (y:=(ApiNode.mk 0 [] [] 0 0 0 0 0 [])) 0 Tryz.sizeOf24 (Upd.refl _) ?_
  refine rq (out:=Pr.i64 0) ae ?_
  refine aq (R:=ac) (R':=ac) (a:=(Ref12Wrong.mk 0 0)) (y:=(Ref12Wrong.mk x2 2)) 1 Tryz.sizeOf59 (Upd.refl _) ?_
  obtain rfl:=Option.some.inj h
  exact a6 ⟨rfl,[(ab).val (ApiNode.mk 0 [] [] 0 0 0 0 0 []),Pr.i64 0,(ac).val (Ref12Wrong.mk x2 2)],⟨yBox 0 ty24 aa,yT aa,yBox 1 ty59 aa,trivial⟩,aa⟩
 replace h:=iteF hc6 h
 refine au ?_
 refine a5 ?_
 refine az ?_
 refine W_rs ?_
 refine rq (out:=aj ah x1) ag ?_
 refine rq (out:=Pr.i64 x2) ag ?_
 obtain⟨x7,hx7,h⟩:=af h
 refine rq (out:=Pr.bool x7) (aw (a7 x1 x2 ([123]:List UInt8) _ hx7)) ?_
 refine rq (out:=Pr.bool x7) ae ?_
 refine ao (b:=x7) rfl (fun hc8=> ?_) (fun hc8=> ?_)
 ·replace h:=iteT hc8 h
  refine W_rs ?_
  refine rq (out:=aj ah x1) ag ?_
  refine rq (out:=Pr.i64 x2) ag ?_
  refine rq (out:=Pr.i64 x3) ag ?_
  obtain⟨⟨x9,x10,x11⟩,hx9,h⟩:=af h
  refine rq (out:=bh [(ab).val x9,Pr.i64 x10,(ac).val x11]) (aw (ih.2.1 x1 x2 x3 _ hx9)) ?_
  refine rq (out:=(ab).val x9) ar ?_
  refine rq (out:=Pr.i64 x10) ar ?_
  refine rq (out:=(ac).val x11) ar ?_
  refine aq (R:=ab) (R':=ab) (a:=(ApiNode.mk 0 [] [] 0 0 0 0 0 [])) (y:=x9) 0 Tryz.sizeOf24 (Upd.refl _) ?_
  refine rq (out:=Pr.i64 x10) ae ?_
  refine aq (R:=ac) (R':=ac) (a:=(Ref12Wrong.mk 0 0)) (y:=x11) 1 Tryz.sizeOf59 (Upd.refl _) ?_
  obtain rfl:=Option.some.inj h
  exact a6 ⟨rfl,[(ab).val x9,Pr.i64 x10,(ac).val x11],⟨yBox 0 ty24 aa,yT aa,yBox 1 ty59 aa,trivial⟩,aa⟩
 replace h:=iteF hc8 h
 refine bc (fun e C=>∃(x15:Bool),f8 R x1 x2 x3 x15=some r/\At [(0,aj ah x1),(1,Pr.i64 x2),(2,Pr.i64 x3),(6,ap b4 0),(8,ap b5 0),(33,Pr.bool x15)] [Own.box b4 ab (ApiNode.mk 0 [] [] 0 0 0 0 0 []),Own.box b5 ac (Ref12Wrong.mk 0 0)] e C) ?_ ?_
 ·rintro e C ⟨x15,h,hat5⟩
  refine W_at hat5 ?_
  clear hat5
  unfold f8 at h
  refine ao (b:=x15) rfl (fun hc16=> ?_) (fun hc16=> ?_)
  ·replace h:=iteT hc16 h
   refine W_rs ?_
   refine rq (out:=aj ah x1) ag ?_
   refine rq (out:=Pr.i64 x2) ag ?_
   refine rq (out:=Pr.i64 x3) ag ?_
   obtain⟨⟨x17,x18,x19⟩,hx17,h⟩:=af h
   refine rq (out:=bh [(ab).val x17,Pr.i64 x18,(ac).val x19]) (aw (ih.2.2 x1 x2 x3 _ hx17)) ?_
   refine rq (out:=(ab).val x17) ar ?_
   refine rq (out:=Pr.i64 x18) ar ?_
   refine rq (out:=(ac).val x19) ar ?_
   refine aq (R:=ab) (R':=ab) (a:=(ApiNode.mk 0 [] [] 0 0 0 0 0 [])) (y:=x17) 0 Tryz.sizeOf24 (Upd.refl _) ?_
   refine rq (out:=Pr.i64 x18) ae ?_
   refine aq (R:=ac) (R':=ac) (a:=(Ref12Wrong.mk 0 0)) (y:=x19) 1 Tryz.sizeOf59 (Upd.refl _) ?_
   obtain rfl:=Option.some.inj h
   exact a6 ⟨rfl,[(ab).val x17,Pr.i64 x18,(ac).val x19],⟨yBox 0 ty24 aa,yT aa,yBox 1 ty59 aa,trivial⟩,aa⟩
  replace h:=iteF hc16 h
  refine bc (fun e C=>∃(x23:Bool),f9 R x1 x2 x3 x23=some r/\At [(0,aj ah x1),(1,Pr.i64 x2),(2,Pr.i64 x3),(6,ap b4 0),(8,ap b5 0),(47,Pr.bool x23)] [Own.box b4 ab (ApiNode.mk 0 [] [] 0 0 0 0 0 []),Own.box b5 ac (Ref12Wrong.mk 0 0)] e C) ?_ ?_
  ·rintro e C ⟨x23,h,hat4⟩
   refine W_at hat4 ?_
   clear hat4
   unfold f9 at h
   refine ao (b:=x23) rfl (fun hc24=> ?_) (fun hc24=> ?_)
   ·replace h:=iteT hc24 h
    refine W_rs ?_
    refine rq (out:=aj ah x1) ag ?_
    refine rq (out:=Pr.i64 x2) ag ?_
    refine rq (out:=Pr.i64 x3) ag ?_
    obtain⟨⟨x25,x26,x27⟩,hx25,h⟩:=af h
    refine rq (out:=bh [(ab).val x25,Pr.i64 x26,(ac).val x27]) (aw (ref12_simple_ok x1 x2 x3 _ hx25)) ?_
    refine rq (out:=(ab).val x25) ar ?_
    refine rq (out:=Pr.i64 x26) ar ?_
    refine rq (out:=(ac).val x27) ar ?_
    refine aq (R:=ab) (R':=ab) (a:=(ApiNode.mk 0 [] [] 0 0 0 0 0 [])) (y:=x25) 0 Tryz.sizeOf24 (Upd.refl _) ?_
    refine rq (out:=Pr.i64 x26) ae ?_
    refine aq (R:=ac) (R':=ac) (a:=(Ref12Wrong.mk 0 0)) (y:=x27) 1 Tryz.sizeOf59 (Upd.refl _) ?_
    obtain rfl:=Option.some.inj h
    exact a6 ⟨rfl,[(ab).val x25,Pr.i64 x26,(ac).val x27],⟨yBox 0 ty24 aa,yT aa,yBox 1 ty59 aa,trivial⟩,aa⟩
   replace h:=iteF hc24 h
   refine au ?_
   refine W_rs ?_
   refine rq (out:=aj ah x1) ag ?_
   refine rq (out:=Pr.i64 x2) ag ?_
   refine rq (out:=Pr.i64 x3) ag ?_
   refine rq (out:=Pr.i64 (w64 (x3+1))) qInt ?_
   obtain⟨⟨x28,x29,x30⟩,hx28,h⟩:=af h
   refine rq (out:=bh [(ab).val x28,Pr.i64 x29,(ac).val x30]) (aw (fp x1 x2 (w64 (x3+1)) _ hx28)) ?_
   refine rq (out:=bh [(ab).val x28,Pr.i64 x29,(ac).val x30]) ag ?_
   refine rq (out:=(ab).val x28) ar ?_
   refine rq (out:=Pr.i64 x29) ar ?_
   refine rq (out:=(ac).val x30) ar ?_
   refine cb (R:=ab) (z:=(ApiNode.mk 0 [] [] 0 0 0 0 0 [])) Tryz.zeroValue24 (fun _=>(by rw[al];exact⟨_,⟨_,_,rfl,rfl,⟨_,_,rfl,rfl,⟨_,_,rfl,rfl,⟨_,_,rfl,rfl,⟨_,_,rfl,rfl,⟨_,_,rfl,rfl,⟨_,_,rfl,rfl,⟨_,_,rfl,rfl,⟨_,_,rfl,⟨_,rfl,none,0,rfl,⟨Nat.le_refl _,fun _=>rfl⟩,.inl rfl⟩,rfl⟩⟩⟩⟩⟩⟩⟩⟩⟩,rfl⟩)) (fun b31=> ?_)
   refine cb (R:=ac) (z:=(Ref12Wrong.mk 0 0)) Tryz.zeroValue59 (fun _=>⟨_,⟨_,_,rfl,rfl,⟨_,_,rfl,rfl,rfl⟩⟩,rfl⟩) (fun b32=> ?_)
   refine aq (R:=ab) (R':=ab) (a:=(ApiNode.mk 0 [] [] 0 0 0 0 0 [])) (y:=x28) 2 Tryz.sizeOf24 (Upd.refl _) ?_
   refine rq (out:=Pr.i64 x29) ae ?_
   refine aq (R:=ac) (R':=ac) (a:=(Ref12Wrong.mk 0 0)) (y:=x30) 3 Tryz.sizeOf59 (Upd.refl _) ?_
   refine a5 ?_
   refine W_rs ?_
   refine rq (out:=ap b32 0) (a4 gy) ?_
   refine rq (out:=Pr.i64 x30.Place) (a8 (R:=ac) (a:=x30) (R':=Rp.int .i64) 3 ty3 bb) ?_
   refine rq (out:=Pr.bool (decide (x30.Place≥0))) qInt ?_
   refine ao (b:=decide (x30.Place≥0)) rfl (fun hc33=> ?_) (fun hc33=> ?_)
   ·replace h:=iteT hc33 h
    refine bc (fun e C=>ref12_statement_j1 R x30=some r/\At [(6,ap b4 0),(7,Pr.i64 0),(8,ap b5 0)] [Own.box b4 ab (ApiNode.mk 0 [] [] 0 0 0 0 0 []),Own.box b5 ac x30,Own.box b31 ab x28,Own.box b32 ac x30] e C) ?_ ?_
    ·rintro e C ⟨h,hat1⟩
     refine W_at hat1 ?_
     clear hat1
     unfold ref12_statement_j1 at h
     obtain rfl:=Option.some.inj h
     exact a6 ⟨rfl,[(ab).val (ApiNode.mk 0 [] [] 0 0 0 0 0 []),Pr.i64 0,(ac).val x30],⟨yBox 0 ty24 aa,yT aa,yBox 1 ty59 aa,trivial⟩,aa⟩
    refine dx [(2,0,Own.box b4 ab (ApiNode.mk 0 [] [] 0 0 0 0 0 [])),(4,1,Own.box b5 ac x30)] [Own.box b4 ab (ApiNode.mk 0 [] [] 0 0 0 0 0 []),Own.box b5 ac x30,Own.box b31 ab x28,Own.box b32 ac x30] hmx (by kernel_rfl) (by kernel_rfl) (show([2,4]:List Nat).Nodup by decide) (show([0,1]:List Nat).Nodup by decide) rfl rfl ?_
    refine eq1 (out:=(ab).val (ApiNode.mk 0 [] [] 0 0 0 0 0 [])) (fun C2 hC=>(dc al st24 rfl)) ?_
    refine eq1 (out:=(ac).val x30) (fun C2 hC=>(a8 (R:=ac) (a:=x30) (R':=ac) 3 ty59 (Sub.refl _) (hi:=(hC 3 (by kernel_rfl)).trans rfl))) ?_
    refine eqS (fun C2 hC=>de (R:=ab) (R':=ab) (a:=(ApiNode.mk 0 [] [] 0 0 0 0 0 [])) (y:=(ApiNode.mk 0 [] [] 0 0 0 0 0 [])) 0 Tryz.sizeOf24 (Upd.refl _) ((hC 0 (by kernel_rfl)).trans rfl)) ?_
    refine eq1 (out:=Pr.i64 0) (fun C2 hC=>ae) ?_
    refine eqS (fun C2 hC=>de (R:=ac) (R':=ac) (a:=(Ref12Wrong.mk 0 0)) (y:=x30) 1 Tryz.sizeOf59 (Upd.refl _) ((hC 1 (by kernel_rfl)).trans rfl)) ?_
    exact⟨h,⟨⟨aa,aa,aa,trivial⟩,Pick.refl _⟩⟩
   replace h:=iteF hc33 h
   refine au ?_
   refine W_rs ?_
   refine rq (out:=Pr.i64 8) ae ?_
   refine W_rs ?_
   refine rq (out:=(ab).val x28) (a8 (R:=ab) (a:=x28) (R':=ab) 2 ty24 (Sub.refl _)) ?_
   refine rBuildV (R:=ab) (ls:=([x28]:List ApiNode)) el22 (Nat.le_of_ble_eq_true rfl) ⟨rfl,rfl⟩ ⟨rfl,trivial⟩ (fun v34=> ?_)
   refine rq (out:=Pr.is v34) ae ?_
   refine bc (fun e C=>∃(x45:Int),∃(x46:Int),∃(x48:List ApiNode),∃(v47:Value),ga R x1 x2 x45 x46 x48=some r/\At [(0,aj ah x1),(1,Pr.i64 x2),(6,ap b4 0),(8,ap b5 0),(10,Pr.i64 x45),(12,Pr.i64 x46),(13,Pr.is v47)] [Own.box b4 ab (ApiNode.mk 0 [] [] 0 0 0 0 0 []),Own.box b5 ac (Ref12Wrong.mk 0 0),Own.box b31 ab x28,Own.box b32 ac x30,Own.vec v47 ab x48 24] e C) ?_ ?_
   ·rintro e C ⟨x45,x46,x48,v47,h,hat2⟩
    refine W_at hat2 ?_
    clear hat2
    unfold ga at h
    refine a5 ?_
    refine W_rs ?_
    refine rq (out:=aj ah x1) ag ?_
    refine rq (out:=Pr.i64 x45) ag ?_
    obtain⟨x49,hx49,h⟩:=af h
    refine rq (out:=Pr.bool x49) (aw (a7 x1 x45 ([59]:List UInt8) _ hx49)) ?_
    refine rq (out:=Pr.bool (!x49)) qNot ?_
    refine ao (b:= !x49) rfl (fun hc50=> ?_) (fun hc50=> ?_)
    ·replace h:=iteT hc50 h
     refine W_rs ?_
     refine rq (out:=(ab).val (ApiNode.mk 0 [] [] 0 0 0 0 0 [])) (dc al st24 rfl) ?_
     refine rq (out:=Pr.i64 x45) ag ?_
     obtain⟨x51,hx51,h⟩:=af h
     refine rq (out:=(ac).val x51) (aw (bn x45 _ hx51)) ?_
     refine aq (R:=ab) (R':=ab) (a:=(ApiNode.mk 0 [] [] 0 0 0 0 0 [])) (y:=(ApiNode.mk 0 [] [] 0 0 0 0 0 [])) 0 Tryz.sizeOf24 (Upd.refl _) ?_
     refine rq (out:=Pr.i64 0) ae ?_
     refine aq (R:=ac) (R':=ac) (a:=(Ref12Wrong.mk 0 0)) (y:=x51) 1 Tryz.sizeOf59 (Upd.refl _) ?_
     obtain rfl:=Option.some.inj h
     exact a6 ⟨rfl,[(ab).val (ApiNode.mk 0 [] [] 0 0 0 0 0 []),Pr.i64 0,(ac).val x51],⟨yBox 0 ty24 aa,yT aa,yBox 1 ty59 aa,trivial⟩,aa⟩
    replace h:=iteF hc50 h
    refine au ?_
    refine W_rs ?_
    refine rq (out:=aj ah x1) ag ?_
    refine rq (out:=Pr.i64 x46) ag ?_
    refine rq (out:=Pr.i64 x2) ag ?_
    refine rq (out:=Pr.i64 x45) ag ?_
    refine rq (out:=Pr.i64 (w64 (x45+1))) qInt ?_
    refine rq (out:=Pr.is v47) ag ?_
    obtain⟨x52,hx52,h⟩:=af h
    refine rRel 4 [13,112] ?_ rfl ⟨rfl,rfl,trivial⟩
    refine rq (out:=(ab).val x52) (aw (cu x1 x46 x2 (w64 (x45+1)) x48 _ hx52)) ?_
    refine rq (out:=Pr.i64 x45) ag ?_
    refine rq (out:=Pr.i64 (w64 (x45+1))) qInt ?_
    obtain⟨x53,hx53,h⟩:=af h
    refine rq (out:=(ac).val x53) (aw (cd _ hx53)) ?_
    refine aq (R:=ab) (R':=ab) (a:=(ApiNode.mk 0 [] [] 0 0 0 0 0 [])) (y:=x52) 0 Tryz.sizeOf24 (Upd.refl _) ?_
    refine rq (out:=Pr.i64 (w64 (x45+1))) ae ?_
    refine aq (R:=ac) (R':=ac) (a:=(Ref12Wrong.mk 0 0)) (y:=x53) 1 Tryz.sizeOf59 (Upd.refl _) ?_
    obtain rfl:=Option.some.inj h
    exact a6 ⟨rfl,[(ab).val x52,Pr.i64 (w64 (x45+1)),(ac).val x53],⟨yBox 0 ty24 aa,yT aa,yBox 1 ty59 aa,trivial⟩,aa⟩
   refine W_rs ?_
   refine rq (out:=aj ah x1) ag ?_
   refine rq (out:=Pr.i64 x29) ag ?_
   obtain⟨x35,hx35,h⟩:=af h
   refine rq (out:=Pr.bool x35) (aw (a7 x1 x29 ([61]:List UInt8) _ hx35)) ?_
   refine ao (b:=x35) rfl (fun hc36=> ?_) (fun hc36=> ?_)
   ·replace h:=iteT hc36 h
    refine W_rs ?_
    refine rq (out:=aj ah x1) ag ?_
    refine rq (out:=Pr.i64 x29) ag ?_
    refine rq (out:=Pr.i64 (w64 (x29+1))) qInt ?_
    refine rq (out:=Pr.i64 x3) ag ?_
    refine rq (out:=Pr.i64 (w64 (x3+1))) qInt ?_
    obtain⟨⟨x37,x38,x39⟩,hx37,h⟩:=af h
    refine rq (out:=bh [(ab).val x37,Pr.i64 x38,(ac).val x39]) (aw (fp x1 (w64 (x29+1)) (w64 (x3+1)) _ hx37)) ?_
    refine rq (out:=bh [(ab).val x37,Pr.i64 x38,(ac).val x39]) ag ?_
    refine rq (out:=(ab).val x37) ar ?_
    refine rq (out:=Pr.i64 x38) ar ?_
    refine rq (out:=(ac).val x39) ar ?_
    refine cb (R:=ab) (z:=(ApiNode.mk 0 [] [] 0 0 0 0 0 [])) Tryz.zeroValue24 (fun _=>(by rw[al];exact⟨_,⟨_,_,rfl,rfl,⟨_,_,rfl,rfl,⟨_,_,rfl,rfl,⟨_,_,rfl,rfl,⟨_,_,rfl,rfl,⟨_,_,rfl,rfl,⟨_,_,rfl,rfl,⟨_,_,rfl,rfl,⟨_,_,rfl,⟨_,rfl,none,0,rfl,⟨Nat.le_refl _,fun _=>rfl⟩,.inl rfl⟩,rfl⟩⟩⟩⟩⟩⟩⟩⟩⟩,rfl⟩)) (fun b40=> ?_)
    refine cb (R:=ac) (z:=(Ref12Wrong.mk 0 0)) Tryz.zeroValue59 (fun _=>⟨_,⟨_,_,rfl,rfl,⟨_,_,rfl,rfl,rfl⟩⟩,rfl⟩) (fun b41=> ?_)
    refine aq (R:=ab) (R':=ab) (a:=(ApiNode.mk 0 [] [] 0 0 0 0 0 [])) (y:=x37) 5 Tryz.sizeOf24 (Upd.refl _) ?_
    refine rq (out:=Pr.i64 x38) ae ?_
    refine aq (R:=ac) (R':=ac) (a:=(Ref12Wrong.mk 0 0)) (y:=x39) 6 Tryz.sizeOf59 (Upd.refl _) ?_
    refine a5 ?_
    refine W_rs ?_
    refine rq (out:=ap b41 0) (a4 gy) ?_
    refine rq (out:=Pr.i64 x39.Place) (a8 (R:=ac) (a:=x39) (R':=Rp.int .i64) 6 ty3 bb) ?_
    refine rq (out:=Pr.bool (decide (x39.Place≥0))) qInt ?_
    refine ao (b:=decide (x39.Place≥0)) rfl (fun hc42=> ?_) (fun hc42=> ?_)
    ·replace h:=iteT hc42 h
     refine bc (fun e C=>ref12_statement_j3 R x39=some r/\At [(6,ap b4 0),(7,Pr.i64 0),(8,ap b5 0)] [Own.box b4 ab (ApiNode.mk 0 [] [] 0 0 0 0 0 []),Own.box b5 ac x39,Own.box b31 ab x28,Own.box b32 ac x30,Own.box b40 ab x37,Own.box b41 ac x39] e C) ?_ ?_
     ·rintro e C ⟨h,hat3⟩
      refine W_at hat3 ?_
      clear hat3
      unfold ref12_statement_j3 at h
      obtain rfl:=Option.some.inj h
      exact a6 ⟨rfl,[(ab).val (ApiNode.mk 0 [] [] 0 0 0 0 0 []),Pr.i64 0,(ac).val x39],⟨yBox 0 ty24 aa,yT aa,yBox 1 ty59 aa,trivial⟩,aa⟩
     refine dx [(2,0,Own.box b4 ab (ApiNode.mk 0 [] [] 0 0 0 0 0 [])),(4,1,Own.box b5 ac x39)] [Own.box b4 ab (ApiNode.mk 0 [] [] 0 0 0 0 0 []),Own.box b5 ac x39,Own.box b31 ab x28,Own.box b32 ac x30,Own.vec v34 ab ([x28]:List ApiNode) 24,Own.box b40 ab x37,Own.box b41 ac x39] hmx (by kernel_rfl) (by kernel_rfl) (show([2,4]:List Nat).Nodup by decide) (show([0,1]:List Nat).Nodup by decide) rfl rfl ?_
     refine eq1 (out:=(ab).val (ApiNode.mk 0 [] [] 0 0 0 0 0 [])) (fun C2 hC=>(dc al st24 rfl)) ?_
     refine eq1 (out:=(ac).val x39) (fun C2 hC=>(a8 (R:=ac) (a:=x39) (R':=ac) 6 ty59 (Sub.refl _) (hi:=(hC 6 (by kernel_rfl)).trans rfl))) ?_
     refine eqS (fun C2 hC=>de (R:=ab) (R':=ab) (a:=(ApiNode.mk 0 [] [] 0 0 0 0 0 [])) (y:=(ApiNode.mk 0 [] [] 0 0 0 0 0 [])) 0 Tryz.sizeOf24 (Upd.refl _) ((hC 0 (by kernel_rfl)).trans rfl)) ?_
     refine eq1 (out:=Pr.i64 0) (fun C2 hC=>ae) ?_
     refine eqS (fun C2 hC=>de (R:=ac) (R':=ac) (a:=(Ref12Wrong.mk 0 0)) (y:=x39) 1 Tryz.sizeOf59 (Upd.refl _) ((hC 1 (by kernel_rfl)).trans rfl)) ?_
     exact⟨h,⟨⟨aa,aa,aa,trivial⟩,Pick.of [0,1,2,3,5,6] rfl⟩⟩
    replace h:=iteF hc42 h
    refine au ?_
    refine W_rs ?_
    refine rq (out:=Pr.i64 7) ae ?_
    refine W_rs ?_
    refine rq (out:=Pr.is v34) ag ?_
    refine rq (out:=(ab).val x37) (a8 (R:=ab) (a:=x37) (R':=ab) 5 ty24 (Sub.refl _)) ?_
    refine rq (out:=aj ab ([x37]:List ApiNode)) (cr (R:=ab) (a:=x37) el22 (Nat.le_of_ble_eq_true rfl)) ?_
    obtain⟨x43,hx43,h⟩:=af h
    refine ip 4 el22 hx43 (fun v44=> ?_)
    refine rq (out:=Pr.is v44) ae ?_
    refine W_r ?_
    refine rq (out:=Pr.i64 x38) ag ?_
    refine rq (out:=Pr.i64 x38) ae ?_
    exact⟨x38,7,x43,v44,h,⟨⟨aa,aa,aa,aa,aa,aa,aa,trivial⟩,Pick.of [0,1,2,3,4] rfl⟩⟩
   replace h:=iteF hc36 h
   refine au ?_
   exact⟨x29,8,([x28]:List ApiNode),v34,h,⟨⟨aa,aa,aa,aa,aa,aa,aa,trivial⟩,Pick.refl _⟩⟩
  refine W_rs ?_
  refine rq (out:=aj ah x1) ag ?_
  refine rq (out:=Pr.i64 x2) ag ?_
  obtain⟨x20,hx20,h⟩:=af h
  refine rq (out:=Pr.bool x20) (aw (a7 x1 x2 ([114,101,116,117,114,110]:List UInt8) _ hx20)) ?_
  refine rq (out:=Pr.bool x20) ae ?_
  refine ao (b:=x20) rfl (fun hc21=> ?_) (fun hc21=> ?_)
  ·replace h:=iteT hc21 h
   refine au ?_
   exact⟨x20,h,⟨⟨aa,aa,aa,aa,aa,aa,trivial⟩,Pick.refl _⟩⟩
  replace h:=iteF hc21 h
  refine W_r ?_
  refine rq (out:=aj ah x1) ag ?_
  refine rq (out:=Pr.i64 x2) ag ?_
  obtain⟨x22,hx22,h⟩:=af h
  refine rq (out:=Pr.bool x22) (aw (a7 x1 x2 ([112,114,105,110,116]:List UInt8) _ hx22)) ?_
  refine rq (out:=Pr.bool x22) ae ?_
  exact⟨x22,h,⟨⟨aa,aa,aa,aa,aa,aa,trivial⟩,Pick.refl _⟩⟩
 refine W_rs ?_
 refine rq (out:=aj ah x1) ag ?_
 refine rq (out:=Pr.i64 x2) ag ?_
 obtain⟨x12,hx12,h⟩:=af h
 refine rq (out:=Pr.bool x12) (aw (a7 x1 x2 ([105,102]:List UInt8) _ hx12)) ?_
 refine rq (out:=Pr.bool x12) ae ?_
 refine ao (b:=x12) rfl (fun hc13=> ?_) (fun hc13=> ?_)
 ·replace h:=iteT hc13 h
  refine au ?_
  exact⟨x12,h,⟨⟨aa,aa,aa,aa,aa,aa,trivial⟩,Pick.refl _⟩⟩
 replace h:=iteF hc13 h
 refine W_r ?_
 refine rq (out:=aj ah x1) ag ?_
 refine rq (out:=Pr.i64 x2) ag ?_
 obtain⟨x14,hx14,h⟩:=af h
 refine rq (out:=Pr.bool x14) (aw (a7 x1 x2 ([119,104,105,108,101]:List UInt8) _ hx14)) ?_
 refine rq (out:=Pr.bool x14) ae ?_
 exact⟨x14,h,⟨⟨aa,aa,aa,aa,aa,aa,trivial⟩,Pick.refl _⟩⟩
theorem F_ref12_block_step (R:av) (ih:gf R) (x1:List ApiToken) (x2 x3:Int) (r:ApiNode × Int × Ref12Wrong) (h:F_ref12_block R x1 x2 x3=some r):FnP Tryz.prog 61 [aj ah x1,Pr.i64 x2,Pr.i64 x3] (bh [(ab).val r.1,Pr.i64 r.2.1,(ac).val r.2.2]):=by
 refine el (n:=72) (rs:=[.cell 6 24,.tmp 7,.cell 8 59]) Tryz.func61 rfl Tryz.ntmps61 Tryz.results61 (by decide) (fun s0=> ?_)
 unfold F_ref12_block at h
 refine W_rs ?_
 refine cb (R:=ab) (z:=(ApiNode.mk 0 [] [] 0 0 0 0 0 [])) Tryz.zeroValue24 (fun _=>(by rw[al];exact⟨_,⟨_,_,rfl,rfl,⟨_,_,rfl,rfl,⟨_,_,rfl,rfl,⟨_,_,rfl,rfl,⟨_,_,rfl,rfl,⟨_,_,rfl,rfl,⟨_,_,rfl,rfl,⟨_,_,rfl,rfl,⟨_,_,rfl,⟨_,rfl,none,0,rfl,⟨Nat.le_refl _,fun _=>rfl⟩,.inl rfl⟩,rfl⟩⟩⟩⟩⟩⟩⟩⟩⟩,rfl⟩)) (fun b4=> ?_)
 refine rq (out:=Pr.i64 0) ae ?_
 refine cb (R:=ac) (z:=(Ref12Wrong.mk 0 0)) Tryz.zeroValue59 (fun _=>⟨_,⟨_,_,rfl,rfl,⟨_,_,rfl,rfl,rfl⟩⟩,rfl⟩) (fun b5=> ?_)
 refine a5 ?_
 refine W_rs ?_
 refine rq (out:=aj ah x1) ag ?_
 refine rq (out:=Pr.i64 x2) ag ?_
 obtain⟨x6,hx6,h⟩:=af h
 refine rq (out:=Pr.bool x6) (aw (a7 x1 x2 ([123]:List UInt8) _ hx6)) ?_
 refine rq (out:=Pr.bool (!x6)) qNot ?_
 refine ao (b:= !x6) rfl (fun hc7=> ?_) (fun hc7=> ?_)
 ·replace h:=iteT hc7 h
  refine W_rs ?_
  refine rq (out:=(ab).val (ApiNode.mk 0 [] [] 0 0 0 0 0 [])) (dc al st24 rfl) ?_
  refine rq (out:=Pr.i64 x2) ag ?_
  obtain⟨x8,hx8,h⟩:=af h
  refine rq (out:=(ac).val x8) (aw (bn x2 _ hx8)) ?_
  refine aq (R:=ab) (R':=ab) (a:=(ApiNode.mk 0 [] [] 0 0 0 0 0 [])) (y:=(ApiNode.mk 0 [] [] 0 0 0 0 0 [])) 0 Tryz.sizeOf24 (Upd.refl _) ?_
  refine rq (out:=Pr.i64 0) ae ?_
  refine aq (R:=ac) (R':=ac) (a:=(Ref12Wrong.mk 0 0)) (y:=x8) 1 Tryz.sizeOf59 (Upd.refl _) ?_
  obtain rfl:=Option.some.inj h
  exact a6 ⟨rfl,[(ab).val (ApiNode.mk 0 [] [] 0 0 0 0 0 []),Pr.i64 0,(ac).val x8],⟨yBox 0 ty24 aa,yT aa,yBox 1 ty59 aa,trivial⟩,aa⟩
 replace h:=iteF hc7 h
 refine au ?_
 refine W_rs ?_
 refine rq (out:=Pr.is (.slice none 0 0)) ae ?_
 refine W_rs ?_
 refine rq (out:=Pr.i64 x2) ag ?_
 refine rq (out:=Pr.i64 (w64 (x2+1))) qInt ?_
 refine rq (out:=Pr.i64 (w64 (x2+1))) ae ?_
 refine a5 ?_
 refine az ?_
 obtain⟨z2l,hz2,h⟩:=af h
 obtain⟨n2,hN2⟩:=cc hz2
 clear hz2
 refine du 0 (fun e C=>∃(x10:Int),∃(x11:List ApiNode),∃(v9:Value),ref12_block_k1 R x1 x2 x10 x11=some r/\At [(0,aj ah x1),(1,Pr.i64 x2),(6,ap b4 0),(8,ap b5 0),(9,Pr.is v9),(10,Pr.i64 x10)] [Own.box b4 ab (ApiNode.mk 0 [] [] 0 0 0 0 0 []),Own.box b5 ac (Ref12Wrong.mk 0 0),Own.vec v9 ab x11 24] e C) ?_ ?_
 ·rintro e C ⟨x10,x11,v9,h,hat1⟩
  refine W_at hat1 ?_
  clear hat1
  unfold ref12_block_k1 at h
  refine W_rs ?_
  refine rq (out:=aj ah x1) ag ?_
  refine rq (out:=Pr.i64 x2) ag ?_
  refine rq (out:=Pr.i64 x10) ag ?_
  refine rq (out:=Pr.i64 (w64 (x10+1))) qInt ?_
  refine rq (out:=Pr.is v9) ag ?_
  obtain⟨x34,hx34,h⟩:=af h
  refine rRel 2 [9,67] ?_ rfl ⟨rfl,rfl,trivial⟩
  refine rq (out:=(ab).val x34) (aw (cu x1 5 x2 (w64 (x10+1)) x11 _ hx34)) ?_
  refine rq (out:=Pr.i64 x10) ag ?_
  refine rq (out:=Pr.i64 (w64 (x10+1))) qInt ?_
  obtain⟨x35,hx35,h⟩:=af h
  refine rq (out:=(ac).val x35) (aw (cd _ hx35)) ?_
  refine aq (R:=ab) (R':=ab) (a:=(ApiNode.mk 0 [] [] 0 0 0 0 0 [])) (y:=x34) 0 Tryz.sizeOf24 (Upd.refl _) ?_
  refine rq (out:=Pr.i64 (w64 (x10+1))) ae ?_
  refine aq (R:=ac) (R':=ac) (a:=(Ref12Wrong.mk 0 0)) (y:=x35) 1 Tryz.sizeOf59 (Upd.refl _) ?_
  obtain rfl:=Option.some.inj h
  exact a6 ⟨rfl,[(ab).val x34,Pr.i64 (w64 (x10+1)),(ac).val x35],⟨yBox 0 ty24 aa,yT aa,yBox 1 ty59 aa,trivial⟩,aa⟩
 refine W_nil [9] ab 24 (fun v36=> ?_) ⟨rfl,trivial⟩
 refine eh (fun m e C=>∃(x10:Int),∃(x11:List ApiNode),∃(v9:Value),en (fun s=>ko R x1 x3 s.1 s.2) m (x10,x11)=some z2l/\At [(0,aj ah x1),(1,Pr.i64 x2),(2,Pr.i64 x3),(6,ap b4 0),(8,ap b5 0),(9,Pr.is v9),(10,Pr.i64 x10)] [Own.box b4 ab (ApiNode.mk 0 [] [] 0 0 0 0 0 []),Own.box b5 ac (Ref12Wrong.mk 0 0),Own.vec v9 ab x11 24] e C) n2 ⟨w64 (x2+1),[],v36,hN2,⟨⟨aa,aa,aa,aa,aa,aa,aa,trivial⟩,Pick.refl _⟩⟩ ?_
 clear hN2
 rintro m e C ⟨x10,x11,v9,hN2,hatl2⟩
 refine W_at hatl2 ?_
 clear hatl2
 obtain⟨m2,w2l,rfl,h2l,hn2,ho2⟩:=bx hN2
 clear hN2
 replace h2l:ko R x1 x3 x10 x11=some w2l:=h2l
 unfold ko at h2l
 refine a5 ?_
 refine W_rs ?_
 refine rq (out:=aj ah x1) ag ?_
 refine rq (out:=Pr.i64 x10) ag ?_
 obtain⟨x15,hx15,h2l⟩:=af h2l
 refine rq (out:=Pr.bool x15) (aw (a7 x1 x10 ([125]:List UInt8) _ hx15)) ?_
 refine rq (out:=Pr.bool (!x15)) qNot ?_
 refine ao (b:= !x15) rfl (fun hc16=> ?_) (fun hc16=> ?_)
 ·replace h2l:=iteT hc16 h2l
  refine au ?_
  refine az ?_
  refine W_rs ?_
  refine cb (R:=ab) (z:=(ApiNode.mk 0 [] [] 0 0 0 0 0 [])) Tryz.zeroValue24 (fun _=>(by rw[al];exact⟨_,⟨_,_,rfl,rfl,⟨_,_,rfl,rfl,⟨_,_,rfl,rfl,⟨_,_,rfl,rfl,⟨_,_,rfl,rfl,⟨_,_,rfl,rfl,⟨_,_,rfl,rfl,⟨_,_,rfl,rfl,⟨_,_,rfl,⟨_,rfl,none,0,rfl,⟨Nat.le_refl _,fun _=>rfl⟩,.inl rfl⟩,rfl⟩⟩⟩⟩⟩⟩⟩⟩⟩,rfl⟩)) (fun b17=> ?_)
  refine W_rs ?_
  refine cb (R:=ac) (z:=(Ref12Wrong.mk 0 0)) Tryz.zeroValue59 (fun _=>⟨_,⟨_,_,rfl,rfl,⟨_,_,rfl,rfl,rfl⟩⟩,rfl⟩) (fun b18=> ?_)
  refine W_rs ?_
  refine rq (out:=Pr.i64 0) ae ?_
  refine bc (fun e C=>∃(x28:Int),∃(x29:ApiNode),∃(x30:Ref12Wrong),gq R x11 x28 x29 x30=some w2l/\At [(0,aj ah x1),(1,Pr.i64 x2),(2,Pr.i64 x3),(6,ap b4 0),(8,ap b5 0),(9,Pr.is v9),(11,ap b17 0),(12,ap b18 0),(13,Pr.i64 x28)] [Own.box b4 ab (ApiNode.mk 0 [] [] 0 0 0 0 0 []),Own.box b5 ac (Ref12Wrong.mk 0 0),Own.vec v9 ab x11 24,Own.box b17 ab x29,Own.box b18 ac x30] e C) ?_ ?_
  ·rintro e C ⟨x28,x29,x30,h2l,hat4⟩
   refine W_at hat4 ?_
   clear hat4
   unfold gq at h2l
   refine a5 ?_
   refine W_rs ?_
   refine rq (out:=ap b18 0) (a4 gy) ?_
   refine rq (out:=Pr.i64 x30.Place) (a8 (R:=ac) (a:=x30) (R':=Rp.int .i64) 4 ty3 bb) ?_
   refine rq (out:=Pr.bool (decide (x30.Place≥0))) qInt ?_
   refine ao (b:=decide (x30.Place≥0)) rfl (fun hc31=> ?_) (fun hc31=> ?_)
   ·replace h2l:=iteT hc31 h2l
    refine bc (fun e C=>ref12_block_j3 R x30=some w2l/\At [(6,ap b4 0),(7,Pr.i64 0),(8,ap b5 0)] [Own.box b4 ab (ApiNode.mk 0 [] [] 0 0 0 0 0 []),Own.box b5 ac x30,Own.box b17 ab x29,Own.box b18 ac x30] e C) ?_ ?_
    ·rintro e C ⟨h2l,hat3⟩
     refine W_at hat3 ?_
     clear hat3
     unfold ref12_block_j3 at h2l
     obtain rfl:=ho2 _ (Option.some.inj h2l).symm
     replace h:some ((ApiNode.mk 0 [] [] 0 0 0 0 0 []),0,x30)=some r:=h
     obtain rfl:=Option.some.inj h
     exact a6 ⟨rfl,[(ab).val (ApiNode.mk 0 [] [] 0 0 0 0 0 []),Pr.i64 0,(ac).val x30],⟨yBox 0 ty24 aa,yT aa,yBox 1 ty59 aa,trivial⟩,aa⟩
    refine dx [(2,0,Own.box b4 ab (ApiNode.mk 0 [] [] 0 0 0 0 0 [])),(4,1,Own.box b5 ac x30)] [Own.box b4 ab (ApiNode.mk 0 [] [] 0 0 0 0 0 []),Own.box b5 ac x30,Own.vec v9 ab x11 24,Own.box b17 ab x29,Own.box b18 ac x30] hmx (by kernel_rfl) (by kernel_rfl) (show([2,4]:List Nat).Nodup by decide) (show([0,1]:List Nat).Nodup by decide) rfl rfl ?_
    refine eq1 (out:=(ab).val (ApiNode.mk 0 [] [] 0 0 0 0 0 [])) (fun C2 hC=>(dc al st24 rfl)) ?_
    refine eq1 (out:=(ac).val x30) (fun C2 hC=>(a8 (R:=ac) (a:=x30) (R':=ac) 4 ty59 (Sub.refl _) (hi:=(hC 4 (by kernel_rfl)).trans rfl))) ?_
    refine eqS (fun C2 hC=>de (R:=ab) (R':=ab) (a:=(ApiNode.mk 0 [] [] 0 0 0 0 0 [])) (y:=(ApiNode.mk 0 [] [] 0 0 0 0 0 [])) 0 Tryz.sizeOf24 (Upd.refl _) ((hC 0 (by kernel_rfl)).trans rfl)) ?_
    refine eq1 (out:=Pr.i64 0) (fun C2 hC=>ae) ?_
    refine eqS (fun C2 hC=>de (R:=ac) (R':=ac) (a:=(Ref12Wrong.mk 0 0)) (y:=x30) 1 Tryz.sizeOf59 (Upd.refl _) ((hC 1 (by kernel_rfl)).trans rfl)) ?_
    exact⟨h2l,⟨⟨aa,aa,aa,trivial⟩,Pick.of [0,1,3,4] rfl⟩⟩
   replace h2l:=iteF hc31 h2l
   refine au ?_
   refine W_rs ?_
   refine rq (out:=Pr.is v9) ag ?_
   refine rq (out:=(ab).val x29) (a8 (R:=ab) (a:=x29) (R':=ab) 3 ty24 (Sub.refl _)) ?_
   refine rq (out:=aj ab ([x29]:List ApiNode)) (cr (R:=ab) (a:=x29) el22 (Nat.le_of_ble_eq_true rfl)) ?_
   obtain⟨x32,hx32,h2l⟩:=af h2l
   refine ip 2 el22 hx32 (fun v33=> ?_)
   refine rq (out:=Pr.is v33) ae ?_
   refine W_r ?_
   refine rq (out:=Pr.i64 x28) ag ?_
   refine rq (out:=Pr.i64 x28) ae ?_
   exact⟨m2,Nat.lt_succ_self _,x28,x32,v33,hn2 _ (Option.some.inj h2l).symm,⟨⟨aa,aa,aa,aa,aa,aa,aa,trivial⟩,Pick.of [0,1,2] rfl⟩⟩
  refine W_rs ?_
  refine rq (out:=aj ah x1) ag ?_
  refine rq (out:=Pr.i64 x10) ag ?_
  obtain⟨x19,hx19,h2l⟩:=af h2l
  refine rq (out:=Pr.bool x19) (aw (ref12_local_ok x1 x10 _ hx19)) ?_
  refine ao (b:=x19) rfl (fun hc20=> ?_) (fun hc20=> ?_)
  ·replace h2l:=iteT hc20 h2l
   refine W_rs ?_
   refine rq (out:=aj ah x1) ag ?_
   refine rq (out:=Pr.i64 x10) ag ?_
   refine rq (out:=Pr.i64 x3) ag ?_
   refine rq (out:=Pr.i64 (w64 (x3+1))) qInt ?_
   obtain⟨⟨x21,x22,x23⟩,hx21,h2l⟩:=af h2l
   refine rq (out:=bh [(ab).val x21,Pr.i64 x22,(ac).val x23]) (aw (ref12_locals_ok x1 x10 (w64 (x3+1)) _ hx21)) ?_
   refine rq (out:=bh [(ab).val x21,Pr.i64 x22,(ac).val x23]) ag ?_
   refine rq (out:=(ab).val x21) ar ?_
   refine rq (out:=Pr.i64 x22) ar ?_
   refine rq (out:=(ac).val x23) ar ?_
   refine aq (R:=ab) (R':=ab) (a:=(ApiNode.mk 0 [] [] 0 0 0 0 0 [])) (y:=x21) 3 Tryz.sizeOf24 (Upd.refl _) ?_
   refine rq (out:=Pr.i64 x22) ae ?_
   refine aq (R:=ac) (R':=ac) (a:=(Ref12Wrong.mk 0 0)) (y:=x23) 4 Tryz.sizeOf59 (Upd.refl _) ?_
   refine W_rs ?_
   refine rq (out:=Pr.i64 x3) ag ?_
   refine rq (out:=Pr.i64 (w64 (x3+1))) qInt ?_
   refine rq (out:=Pr.bool (decide ((w64 (x3+1))>60))) qInt ?_
   refine ao (b:=decide ((w64 (x3+1))>60)) rfl (fun hc24=> ?_) (fun hc24=> ?_)
   ·replace h2l:=iteT hc24 h2l
    refine W_r ?_
    refine rq (out:=Pr.i64 x10) ag ?_
    refine rq (out:=(ac).val (Ref12Wrong.mk x10 2)) (qBuild st59 ⟨(Ref12Wrong.mk x10 0),⟨_,rfl,rfl,fun j fd hj hf=>by match j,hj with| 0,h=>exact absurd rfl h| 1,_=>cases hf;rfl|_+2,_=>cases hf⟩,⟨(Ref12Wrong.mk x10 2),⟨_,rfl,rfl,fun j fd hj hf=>by match j,hj with| 0,_=>cases hf;rfl| 1,h=>exact absurd rfl h|_+2,_=>cases hf⟩,rfl⟩⟩) ?_
    refine aq (R:=ac) (R':=ac) (a:=x23) (y:=(Ref12Wrong.mk x10 2)) 4 Tryz.sizeOf59 (Upd.refl _) ?_
    exact⟨x22,x21,(Ref12Wrong.mk x10 2),h2l,⟨⟨aa,aa,aa,aa,aa,aa,aa,aa,aa,trivial⟩,Pick.refl _⟩⟩
   replace h2l:=iteF hc24 h2l
   refine au ?_
   exact⟨x22,x21,x23,h2l,⟨⟨aa,aa,aa,aa,aa,aa,aa,aa,aa,trivial⟩,Pick.refl _⟩⟩
  replace h2l:=iteF hc20 h2l
  refine W_r ?_
  refine rq (out:=aj ah x1) ag ?_
  refine rq (out:=Pr.i64 x10) ag ?_
  refine rq (out:=Pr.i64 x3) ag ?_
  refine rq (out:=Pr.i64 (w64 (x3+1))) qInt ?_
  obtain⟨⟨x25,x26,x27⟩,hx25,h2l⟩:=af h2l
  refine rq (out:=bh [(ab).val x25,Pr.i64 x26,(ac).val x27]) (aw (ih.1 x1 x10 (w64 (x3+1)) _ hx25)) ?_
  refine rq (out:=bh [(ab).val x25,Pr.i64 x26,(ac).val x27]) ag ?_
  refine rq (out:=(ab).val x25) ar ?_
  refine rq (out:=Pr.i64 x26) ar ?_
  refine rq (out:=(ac).val x27) ar ?_
  refine aq (R:=ab) (R':=ab) (a:=(ApiNode.mk 0 [] [] 0 0 0 0 0 [])) (y:=x25) 3 Tryz.sizeOf24 (Upd.refl _) ?_
  refine rq (out:=Pr.i64 x26) ae ?_
  refine aq (R:=ac) (R':=ac) (a:=(Ref12Wrong.mk 0 0)) (y:=x27) 4 Tryz.sizeOf59 (Upd.refl _) ?_
  exact⟨x26,x25,x27,h2l,⟨⟨aa,aa,aa,aa,aa,aa,aa,aa,aa,trivial⟩,Pick.refl _⟩⟩
 replace h2l:=iteF hc16 h2l
 refine dg ?_
 obtain rfl:=ho2 _ (Option.some.inj h2l).symm
 exact⟨x10,x11,v9,h,⟨⟨aa,aa,aa,aa,aa,aa,trivial⟩,Pick.refl _⟩⟩
theorem F_ref12_guarded_step (R:av) (ih:gf R) (x1:List ApiToken) (x2 x3:Int) (r:ApiNode × Int × Ref12Wrong) (h:l0 R x1 x2 x3=some r):FnP Tryz.prog 65 [aj ah x1,Pr.i64 x2,Pr.i64 x3] (bh [(ab).val r.1,Pr.i64 r.2.1,(ac).val r.2.2]):=by
 refine el (n:=91) (rs:=[.cell 6 24,.tmp 7,.cell 8 59]) Tryz.func65 rfl Tryz.ntmps65 Tryz.results65 (by decide) (fun s0=> ?_)
 unfold l0 at h
 refine W_rs ?_
 refine cb (R:=ab) (z:=(ApiNode.mk 0 [] [] 0 0 0 0 0 [])) Tryz.zeroValue24 (fun _=>(by rw[al];exact⟨_,⟨_,_,rfl,rfl,⟨_,_,rfl,rfl,⟨_,_,rfl,rfl,⟨_,_,rfl,rfl,⟨_,_,rfl,rfl,⟨_,_,rfl,rfl,⟨_,_,rfl,rfl,⟨_,_,rfl,rfl,⟨_,_,rfl,⟨_,rfl,none,0,rfl,⟨Nat.le_refl _,fun _=>rfl⟩,.inl rfl⟩,rfl⟩⟩⟩⟩⟩⟩⟩⟩⟩,rfl⟩)) (fun b4=> ?_)
 refine rq (out:=Pr.i64 0) ae ?_
 refine cb (R:=ac) (z:=(Ref12Wrong.mk 0 0)) Tryz.zeroValue59 (fun _=>⟨_,⟨_,_,rfl,rfl,⟨_,_,rfl,rfl,rfl⟩⟩,rfl⟩) (fun b5=> ?_)
 refine W_rs ?_
 refine rq (out:=aj ah x1) ag ?_
 refine rq (out:=Pr.i64 x2) ag ?_
 refine rq (out:=Pr.i64 (w64 (x2+1))) qInt ?_
 refine rq (out:=Pr.i64 x3) ag ?_
 refine rq (out:=Pr.i64 (w64 (x3+1))) qInt ?_
 obtain⟨⟨x6,x7,x8⟩,hx6,h⟩:=af h
 refine rq (out:=bh [(ab).val x6,Pr.i64 x7,(ac).val x8]) (aw (ref12_bracketed_ok x1 (w64 (x2+1)) (w64 (x3+1)) _ hx6)) ?_
 refine rq (out:=bh [(ab).val x6,Pr.i64 x7,(ac).val x8]) ag ?_
 refine rq (out:=(ab).val x6) ar ?_
 refine rq (out:=Pr.i64 x7) ar ?_
 refine rq (out:=(ac).val x8) ar ?_
 refine cb (R:=ab) (z:=(ApiNode.mk 0 [] [] 0 0 0 0 0 [])) Tryz.zeroValue24 (fun _=>(by rw[al];exact⟨_,⟨_,_,rfl,rfl,⟨_,_,rfl,rfl,⟨_,_,rfl,rfl,⟨_,_,rfl,rfl,⟨_,_,rfl,rfl,⟨_,_,rfl,rfl,⟨_,_,rfl,rfl,⟨_,_,rfl,rfl,⟨_,_,rfl,⟨_,rfl,none,0,rfl,⟨Nat.le_refl _,fun _=>rfl⟩,.inl rfl⟩,rfl⟩⟩⟩⟩⟩⟩⟩⟩⟩,rfl⟩)) (fun b9=> ?_)
 refine cb (R:=ac) (z:=(Ref12Wrong.mk 0 0)) Tryz.zeroValue59 (fun _=>⟨_,⟨_,_,rfl,rfl,⟨_,_,rfl,rfl,rfl⟩⟩,rfl⟩) (fun b10=> ?_)
 refine aq (R:=ab) (R':=ab) (a:=(ApiNode.mk 0 [] [] 0 0 0 0 0 [])) (y:=x6) 2 Tryz.sizeOf24 (Upd.refl _) ?_
 refine rq (out:=Pr.i64 x7) ae ?_
 refine aq (R:=ac) (R':=ac) (a:=(Ref12Wrong.mk 0 0)) (y:=x8) 3 Tryz.sizeOf59 (Upd.refl _) ?_
 refine a5 ?_
 refine W_rs ?_
 refine rq (out:=ap b10 0) (a4 gy) ?_
 refine rq (out:=Pr.i64 x8.Place) (a8 (R:=ac) (a:=x8) (R':=Rp.int .i64) 3 ty3 bb) ?_
 refine rq (out:=Pr.bool (decide (x8.Place≥0))) qInt ?_
 refine ao (b:=decide (x8.Place≥0)) rfl (fun hc11=> ?_) (fun hc11=> ?_)
 ·replace h:=iteT hc11 h
  refine bc (fun e C=>ref12_guarded_j1 R x8=some r/\At [(6,ap b4 0),(7,Pr.i64 0),(8,ap b5 0)] [Own.box b4 ab (ApiNode.mk 0 [] [] 0 0 0 0 0 []),Own.box b5 ac x8,Own.box b9 ab x6,Own.box b10 ac x8] e C) ?_ ?_
  ·rintro e C ⟨h,hat1⟩
   refine W_at hat1 ?_
   clear hat1
   unfold ref12_guarded_j1 at h
   obtain rfl:=Option.some.inj h
   exact a6 ⟨rfl,[(ab).val (ApiNode.mk 0 [] [] 0 0 0 0 0 []),Pr.i64 0,(ac).val x8],⟨yBox 0 ty24 aa,yT aa,yBox 1 ty59 aa,trivial⟩,aa⟩
  refine dx [(2,0,Own.box b4 ab (ApiNode.mk 0 [] [] 0 0 0 0 0 [])),(4,1,Own.box b5 ac x8)] [Own.box b4 ab (ApiNode.mk 0 [] [] 0 0 0 0 0 []),Own.box b5 ac x8,Own.box b9 ab x6,Own.box b10 ac x8] hmx (by kernel_rfl) (by kernel_rfl) (show([2,4]:List Nat).Nodup by decide) (show([0,1]:List Nat).Nodup by decide) rfl rfl ?_
  refine eq1 (out:=(ab).val (ApiNode.mk 0 [] [] 0 0 0 0 0 [])) (fun C2 hC=>(dc al st24 rfl)) ?_
  refine eq1 (out:=(ac).val x8) (fun C2 hC=>(a8 (R:=ac) (a:=x8) (R':=ac) 3 ty59 (Sub.refl _) (hi:=(hC 3 (by kernel_rfl)).trans rfl))) ?_
  refine eqS (fun C2 hC=>de (R:=ab) (R':=ab) (a:=(ApiNode.mk 0 [] [] 0 0 0 0 0 [])) (y:=(ApiNode.mk 0 [] [] 0 0 0 0 0 [])) 0 Tryz.sizeOf24 (Upd.refl _) ((hC 0 (by kernel_rfl)).trans rfl)) ?_
  refine eq1 (out:=Pr.i64 0) (fun C2 hC=>ae) ?_
  refine eqS (fun C2 hC=>de (R:=ac) (R':=ac) (a:=(Ref12Wrong.mk 0 0)) (y:=x8) 1 Tryz.sizeOf59 (Upd.refl _) ((hC 1 (by kernel_rfl)).trans rfl)) ?_
  exact⟨h,⟨⟨aa,aa,aa,trivial⟩,Pick.refl _⟩⟩
 replace h:=iteF hc11 h
 refine au ?_
 refine W_rs ?_
 refine rq (out:=aj ah x1) ag ?_
 refine rq (out:=Pr.i64 x7) ag ?_
 refine rq (out:=Pr.i64 x3) ag ?_
 refine rq (out:=Pr.i64 (w64 (x3+1))) qInt ?_
 obtain⟨⟨x12,x13,x14⟩,hx12,h⟩:=af h
 refine rq (out:=bh [(ab).val x12,Pr.i64 x13,(ac).val x14]) (aw (ih.1 x1 x7 (w64 (x3+1)) _ hx12)) ?_
 refine rq (out:=bh [(ab).val x12,Pr.i64 x13,(ac).val x14]) ag ?_
 refine rq (out:=(ab).val x12) ar ?_
 refine rq (out:=Pr.i64 x13) ar ?_
 refine rq (out:=(ac).val x14) ar ?_
 refine cb (R:=ab) (z:=(ApiNode.mk 0 [] [] 0 0 0 0 0 [])) Tryz.zeroValue24 (fun _=>(by rw[al];exact⟨_,⟨_,_,rfl,rfl,⟨_,_,rfl,rfl,⟨_,_,rfl,rfl,⟨_,_,rfl,rfl,⟨_,_,rfl,rfl,⟨_,_,rfl,rfl,⟨_,_,rfl,rfl,⟨_,_,rfl,rfl,⟨_,_,rfl,⟨_,rfl,none,0,rfl,⟨Nat.le_refl _,fun _=>rfl⟩,.inl rfl⟩,rfl⟩⟩⟩⟩⟩⟩⟩⟩⟩,rfl⟩)) (fun b15=> ?_)
 refine cb (R:=ac) (z:=(Ref12Wrong.mk 0 0)) Tryz.zeroValue59 (fun _=>⟨_,⟨_,_,rfl,rfl,⟨_,_,rfl,rfl,rfl⟩⟩,rfl⟩) (fun b16=> ?_)
 refine aq (R:=ab) (R':=ab) (a:=(ApiNode.mk 0 [] [] 0 0 0 0 0 [])) (y:=x12) 4 Tryz.sizeOf24 (Upd.refl _) ?_
 refine rq (out:=Pr.i64 x13) ae ?_
 refine aq (R:=ac) (R':=ac) (a:=(Ref12Wrong.mk 0 0)) (y:=x14) 5 Tryz.sizeOf59 (Upd.refl _) ?_
 refine a5 ?_
 refine W_rs ?_
 refine rq (out:=ap b16 0) (a4 gy) ?_
 refine rq (out:=Pr.i64 x14.Place) (a8 (R:=ac) (a:=x14) (R':=Rp.int .i64) 5 ty3 bb) ?_
 refine rq (out:=Pr.bool (decide (x14.Place≥0))) qInt ?_
 refine ao (b:=decide (x14.Place≥0)) rfl (fun hc17=> ?_) (fun hc17=> ?_)
 ·replace h:=iteT hc17 h
  refine bc (fun e C=>ref12_guarded_j2 R x14=some r/\At [(6,ap b4 0),(7,Pr.i64 0),(8,ap b5 0)] [Own.box b4 ab (ApiNode.mk 0 [] [] 0 0 0 0 0 []),Own.box b5 ac x14,Own.box b9 ab x6,Own.box b10 ac x8,Own.box b15 ab x12,Own.box b16 ac x14] e C) ?_ ?_
  ·rintro e C ⟨h,hat2⟩
   refine W_at hat2 ?_
   clear hat2
   unfold ref12_guarded_j2 at h
   obtain rfl:=Option.some.inj h
   exact a6 ⟨rfl,[(ab).val (ApiNode.mk 0 [] [] 0 0 0 0 0 []),Pr.i64 0,(ac).val x14],⟨yBox 0 ty24 aa,yT aa,yBox 1 ty59 aa,trivial⟩,aa⟩
  refine dx [(2,0,Own.box b4 ab (ApiNode.mk 0 [] [] 0 0 0 0 0 [])),(4,1,Own.box b5 ac x14)] [Own.box b4 ab (ApiNode.mk 0 [] [] 0 0 0 0 0 []),Own.box b5 ac x14,Own.box b9 ab x6,Own.box b10 ac x8,Own.box b15 ab x12,Own.box b16 ac x14] hmx (by kernel_rfl) (by kernel_rfl) (show([2,4]:List Nat).Nodup by decide) (show([0,1]:List Nat).Nodup by decide) rfl rfl ?_
  refine eq1 (out:=(ab).val (ApiNode.mk 0 [] [] 0 0 0 0 0 [])) (fun C2 hC=>(dc al st24 rfl)) ?_
  refine eq1 (out:=(ac).val x14) (fun C2 hC=>(a8 (R:=ac) (a:=x14) (R':=ac) 5 ty59 (Sub.refl _) (hi:=(hC 5 (by kernel_rfl)).trans rfl))) ?_
  refine eqS (fun C2 hC=>de (R:=ab) (R':=ab) (a:=(ApiNode.mk 0 [] [] 0 0 0 0 0 [])) (y:=(ApiNode.mk 0 [] [] 0 0 0 0 0 [])) 0 Tryz.sizeOf24 (Upd.refl _) ((hC 0 (by kernel_rfl)).trans rfl)) ?_
  refine eq1 (out:=Pr.i64 0) (fun C2 hC=>ae) ?_
  refine eqS (fun C2 hC=>de (R:=ac) (R':=ac) (a:=(Ref12Wrong.mk 0 0)) (y:=x14) 1 Tryz.sizeOf59 (Upd.refl _) ((hC 1 (by kernel_rfl)).trans rfl)) ?_
  exact⟨h,⟨⟨aa,aa,aa,trivial⟩,Pick.refl _⟩⟩
 replace h:=iteF hc17 h
 refine au ?_
 refine W_rs ?_
 refine rq (out:=(ab).val x6) (a8 (R:=ab) (a:=x6) (R':=ab) 2 ty24 (Sub.refl _)) ?_
 refine rq (out:=(ab).val x12) (a8 (R:=ab) (a:=x12) (R':=ab) 4 ty24 (Sub.refl _)) ?_
 refine rBuildV (R:=ab) (ls:=([x6,x12]:List ApiNode)) el22 (Nat.le_of_ble_eq_true rfl) ⟨rfl,rfl⟩ ⟨rfl,rfl,trivial⟩ (fun v18=> ?_)
 refine rq (out:=Pr.is v18) ae ?_
 refine a5 ?_
 refine W_rs ?_
 refine rq (out:=aj ah x1) ag ?_
 refine rq (out:=Pr.i64 x2) ag ?_
 obtain⟨x19,hx19,h⟩:=af h
 refine rq (out:=Pr.bool x19) (aw (a7 x1 x2 ([119,104,105,108,101]:List UInt8) _ hx19)) ?_
 refine ao (b:=x19) rfl (fun hc20=> ?_) (fun hc20=> ?_)
 ·replace h:=iteT hc20 h
  refine W_rs ?_
  refine rq (out:=aj ah x1) ag ?_
  refine rq (out:=Pr.i64 x2) ag ?_
  refine rq (out:=Pr.i64 x13) ag ?_
  refine rq (out:=Pr.is v18) ag ?_
  obtain⟨x21,hx21,h⟩:=af h
  refine rRel 6 [15,57] ?_ rfl ⟨rfl,rfl,trivial⟩
  refine rq (out:=(ab).val x21) (aw (cu x1 10 x2 x13 ([x6,x12]:List ApiNode) _ hx21)) ?_
  refine rq (out:=Pr.i64 x13) ag ?_
  obtain⟨x22,hx22,h⟩:=af h
  refine rq (out:=(ac).val x22) (aw (cd _ hx22)) ?_
  refine aq (R:=ab) (R':=ab) (a:=(ApiNode.mk 0 [] [] 0 0 0 0 0 [])) (y:=x21) 0 Tryz.sizeOf24 (Upd.refl _) ?_
  refine rq (out:=Pr.i64 x13) ae ?_
  refine aq (R:=ac) (R':=ac) (a:=(Ref12Wrong.mk 0 0)) (y:=x22) 1 Tryz.sizeOf59 (Upd.refl _) ?_
  obtain rfl:=Option.some.inj h
  exact a6 ⟨rfl,[(ab).val x21,Pr.i64 x13,(ac).val x22],⟨yBox 0 ty24 aa,yT aa,yBox 1 ty59 aa,trivial⟩,aa⟩
 replace h:=iteF hc20 h
 refine au ?_
 refine bc (fun e C=>∃(x33:Int),∃(x35:List ApiNode),∃(v34:Value),il R x1 x2 x33 x35=some r/\At [(0,aj ah x1),(1,Pr.i64 x2),(6,ap b4 0),(8,ap b5 0),(13,Pr.i64 x33),(15,Pr.is v34)] [Own.box b4 ab (ApiNode.mk 0 [] [] 0 0 0 0 0 []),Own.box b5 ac (Ref12Wrong.mk 0 0),Own.box b9 ab x6,Own.box b10 ac x8,Own.box b15 ab x12,Own.box b16 ac x14,Own.vec v34 ab x35 24] e C) ?_ ?_
 ·rintro e C ⟨x33,x35,v34,h,hat3⟩
  refine W_at hat3 ?_
  clear hat3
  unfold il at h
  refine W_rs ?_
  refine rq (out:=aj ah x1) ag ?_
  refine rq (out:=Pr.i64 x2) ag ?_
  refine rq (out:=Pr.i64 x33) ag ?_
  refine rq (out:=Pr.is v34) ag ?_
  obtain⟨x36,hx36,h⟩:=af h
  refine rRel 6 [15,87] ?_ rfl ⟨rfl,rfl,trivial⟩
  refine rq (out:=(ab).val x36) (aw (cu x1 9 x2 x33 x35 _ hx36)) ?_
  refine rq (out:=Pr.i64 x33) ag ?_
  obtain⟨x37,hx37,h⟩:=af h
  refine rq (out:=(ac).val x37) (aw (cd _ hx37)) ?_
  refine aq (R:=ab) (R':=ab) (a:=(ApiNode.mk 0 [] [] 0 0 0 0 0 [])) (y:=x36) 0 Tryz.sizeOf24 (Upd.refl _) ?_
  refine rq (out:=Pr.i64 x33) ae ?_
  refine aq (R:=ac) (R':=ac) (a:=(Ref12Wrong.mk 0 0)) (y:=x37) 1 Tryz.sizeOf59 (Upd.refl _) ?_
  obtain rfl:=Option.some.inj h
  exact a6 ⟨rfl,[(ab).val x36,Pr.i64 x33,(ac).val x37],⟨yBox 0 ty24 aa,yT aa,yBox 1 ty59 aa,trivial⟩,aa⟩
 refine W_rs ?_
 refine rq (out:=aj ah x1) ag ?_
 refine rq (out:=Pr.i64 x13) ag ?_
 obtain⟨x23,hx23,h⟩:=af h
 refine rq (out:=Pr.bool x23) (aw (a7 x1 x13 ([101,108,115,101]:List UInt8) _ hx23)) ?_
 refine ao (b:=x23) rfl (fun hc24=> ?_) (fun hc24=> ?_)
 ·replace h:=iteT hc24 h
  refine W_rs ?_
  refine rq (out:=aj ah x1) ag ?_
  refine rq (out:=Pr.i64 x13) ag ?_
  refine rq (out:=Pr.i64 (w64 (x13+1))) qInt ?_
  refine rq (out:=Pr.i64 x3) ag ?_
  refine rq (out:=Pr.i64 (w64 (x3+1))) qInt ?_
  obtain⟨⟨x25,x26,x27⟩,hx25,h⟩:=af h
  refine rq (out:=bh [(ab).val x25,Pr.i64 x26,(ac).val x27]) (aw (ih.1 x1 (w64 (x13+1)) (w64 (x3+1)) _ hx25)) ?_
  refine rq (out:=bh [(ab).val x25,Pr.i64 x26,(ac).val x27]) ag ?_
  refine rq (out:=(ab).val x25) ar ?_
  refine rq (out:=Pr.i64 x26) ar ?_
  refine rq (out:=(ac).val x27) ar ?_
  refine cb (R:=ab) (z:=(ApiNode.mk 0 [] [] 0 0 0 0 0 [])) Tryz.zeroValue24 (fun _=>(by rw[al];exact⟨_,⟨_,_,rfl,rfl,⟨_,_,rfl,rfl,⟨_,_,rfl,rfl,⟨_,_,rfl,rfl,⟨_,_,rfl,rfl,⟨_,_,rfl,rfl,⟨_,_,rfl,rfl,⟨_,_,rfl,rfl,⟨_,_,rfl,⟨_,rfl,none,0,rfl,⟨Nat.le_refl _,fun _=>rfl⟩,.inl rfl⟩,rfl⟩⟩⟩⟩⟩⟩⟩⟩⟩,rfl⟩)) (fun b28=> ?_)
  refine cb (R:=ac) (z:=(Ref12Wrong.mk 0 0)) Tryz.zeroValue59 (fun _=>⟨_,⟨_,_,rfl,rfl,⟨_,_,rfl,rfl,rfl⟩⟩,rfl⟩) (fun b29=> ?_)
  refine aq (R:=ab) (R':=ab) (a:=(ApiNode.mk 0 [] [] 0 0 0 0 0 [])) (y:=x25) 7 Tryz.sizeOf24 (Upd.refl _) ?_
  refine rq (out:=Pr.i64 x26) ae ?_
  refine aq (R:=ac) (R':=ac) (a:=(Ref12Wrong.mk 0 0)) (y:=x27) 8 Tryz.sizeOf59 (Upd.refl _) ?_
  refine a5 ?_
  refine W_rs ?_
  refine rq (out:=ap b29 0) (a4 gy) ?_
  refine rq (out:=Pr.i64 x27.Place) (a8 (R:=ac) (a:=x27) (R':=Rp.int .i64) 8 ty3 bb) ?_
  refine rq (out:=Pr.bool (decide (x27.Place≥0))) qInt ?_
  refine ao (b:=decide (x27.Place≥0)) rfl (fun hc30=> ?_) (fun hc30=> ?_)
  ·replace h:=iteT hc30 h
   refine bc (fun e C=>ref12_guarded_j4 R x27=some r/\At [(6,ap b4 0),(7,Pr.i64 0),(8,ap b5 0)] [Own.box b4 ab (ApiNode.mk 0 [] [] 0 0 0 0 0 []),Own.box b5 ac x27,Own.box b9 ab x6,Own.box b10 ac x8,Own.box b15 ab x12,Own.box b16 ac x14,Own.box b28 ab x25,Own.box b29 ac x27] e C) ?_ ?_
   ·rintro e C ⟨h,hat4⟩
    refine W_at hat4 ?_
    clear hat4
    unfold ref12_guarded_j4 at h
    obtain rfl:=Option.some.inj h
    exact a6 ⟨rfl,[(ab).val (ApiNode.mk 0 [] [] 0 0 0 0 0 []),Pr.i64 0,(ac).val x27],⟨yBox 0 ty24 aa,yT aa,yBox 1 ty59 aa,trivial⟩,aa⟩
   refine dx [(2,0,Own.box b4 ab (ApiNode.mk 0 [] [] 0 0 0 0 0 [])),(4,1,Own.box b5 ac x27)] [Own.box b4 ab (ApiNode.mk 0 [] [] 0 0 0 0 0 []),Own.box b5 ac x27,Own.box b9 ab x6,Own.box b10 ac x8,Own.box b15 ab x12,Own.box b16 ac x14,Own.vec v18 ab ([x6,x12]:List ApiNode) 24,Own.box b28 ab x25,Own.box b29 ac x27] hmx (by kernel_rfl) (by kernel_rfl) (show([2,4]:List Nat).Nodup by decide) (show([0,1]:List Nat).Nodup by decide) rfl rfl ?_
   refine eq1 (out:=(ab).val (ApiNode.mk 0 [] [] 0 0 0 0 0 [])) (fun C2 hC=>(dc al st24 rfl)) ?_
   refine eq1 (out:=(ac).val x27) (fun C2 hC=>(a8 (R:=ac) (a:=x27) (R':=ac) 8 ty59 (Sub.refl _) (hi:=(hC 8 (by kernel_rfl)).trans rfl))) ?_
   refine eqS (fun C2 hC=>de (R:=ab) (R':=ab) (a:=(ApiNode.mk 0 [] [] 0 0 0 0 0 [])) (y:=(ApiNode.mk 0 [] [] 0 0 0 0 0 [])) 0 Tryz.sizeOf24 (Upd.refl _) ((hC 0 (by kernel_rfl)).trans rfl)) ?_
   refine eq1 (out:=Pr.i64 0) (fun C2 hC=>ae) ?_
   refine eqS (fun C2 hC=>de (R:=ac) (R':=ac) (a:=(Ref12Wrong.mk 0 0)) (y:=x27) 1 Tryz.sizeOf59 (Upd.refl _) ((hC 1 (by kernel_rfl)).trans rfl)) ?_
   exact⟨h,⟨⟨aa,aa,aa,trivial⟩,Pick.of [0,1,2,3,4,5,7,8] rfl⟩⟩
  replace h:=iteF hc30 h
  refine au ?_
  refine W_rs ?_
  refine rq (out:=Pr.is v18) ag ?_
  refine rq (out:=(ab).val x25) (a8 (R:=ab) (a:=x25) (R':=ab) 7 ty24 (Sub.refl _)) ?_
  refine rq (out:=aj ab ([x25]:List ApiNode)) (cr (R:=ab) (a:=x25) el22 (Nat.le_of_ble_eq_true rfl)) ?_
  obtain⟨x31,hx31,h⟩:=af h
  refine ip 6 el22 hx31 (fun v32=> ?_)
  refine rq (out:=Pr.is v32) ae ?_
  refine W_r ?_
  refine rq (out:=Pr.i64 x26) ag ?_
  refine rq (out:=Pr.i64 x26) ae ?_
  exact⟨x26,x31,v32,h,⟨⟨aa,aa,aa,aa,aa,aa,trivial⟩,Pick.of [0,1,2,3,4,5,6] rfl⟩⟩
 replace h:=iteF hc24 h
 refine au ?_
 exact⟨x13,([x6,x12]:List ApiNode),v18,h,⟨⟨aa,aa,aa,aa,aa,aa,trivial⟩,Pick.refl _⟩⟩
theorem rec_ref12_statement_ok :∀n,gf (d4 n):=by
 intro n
 induction n with
 |zero=>exact⟨(fun x1 x2 x3 r h=>nomatch (show none=some r from h)),(fun x1 x2 x3 r h=>nomatch (show none=some r from h)),(fun x1 x2 x3 r h=>nomatch (show none=some r from h))⟩
 |succ n ih=>exact⟨(fun x1 x2 x3 r h=>F_ref12_statement_step (d4 n) ih x1 x2 x3 r h),(fun x1 x2 x3 r h=>F_ref12_block_step (d4 n) ih x1 x2 x3 r h),(fun x1 x2 x3 r h=>F_ref12_guarded_step (d4 n) ih x1 x2 x3 r h)⟩
theorem ref12_statement_ok (x1:List ApiToken) (x2 x3:Int) (r:ApiNode × Int × Ref12Wrong) (h:ref12_statement x1 x2 x3=some r):FnP Tryz.prog 39 [aj ah x1,Pr.i64 x2,Pr.i64 x3] (bh [(ab).val r.1,Pr.i64 r.2.1,(ac).val r.2.2]):=(rec_ref12_statement_ok 1048576).1 x1 x2 x3 r h
theorem ref12_block_ok (x1:List ApiToken) (x2 x3:Int) (r:ApiNode × Int × Ref12Wrong) (h:ref12_block x1 x2 x3=some r):FnP Tryz.prog 61 [aj ah x1,Pr.i64 x2,Pr.i64 x3] (bh [(ab).val r.1,Pr.i64 r.2.1,(ac).val r.2.2]):=(rec_ref12_statement_ok 1048576).2.1 x1 x2 x3 r h
theorem ref12_member_ok (x1:List ApiToken) (x2:Int) (r:ApiNode × Int × Ref12Wrong) (h:nt x1 x2=some r):FnP Tryz.prog 36 [aj ah x1,Pr.i64 x2] (bh [(ab).val r.1,Pr.i64 r.2.1,(ac).val r.2.2]):=by
 refine el (n:=108) (rs:=[.cell 4 24,.tmp 5,.cell 6 59]) Tryz.func36 rfl Tryz.ntmps36 Tryz.results36 (by decide) (fun s0=> ?_)
 unfold nt at h
 refine W_rs ?_
 refine cb (R:=ab) (z:=(ApiNode.mk 0 [] [] 0 0 0 0 0 [])) Tryz.zeroValue24 (fun _=>(by rw[al];exact⟨_,⟨_,_,rfl,rfl,⟨_,_,rfl,rfl,⟨_,_,rfl,rfl,⟨_,_,rfl,rfl,⟨_,_,rfl,rfl,⟨_,_,rfl,rfl,⟨_,_,rfl,rfl,⟨_,_,rfl,rfl,⟨_,_,rfl,⟨_,rfl,none,0,rfl,⟨Nat.le_refl _,fun _=>rfl⟩,.inl rfl⟩,rfl⟩⟩⟩⟩⟩⟩⟩⟩⟩,rfl⟩)) (fun b3=> ?_)
 refine rq (out:=Pr.i64 0) ae ?_
 refine cb (R:=ac) (z:=(Ref12Wrong.mk 0 0)) Tryz.zeroValue59 (fun _=>⟨_,⟨_,_,rfl,rfl,⟨_,_,rfl,rfl,rfl⟩⟩,rfl⟩) (fun b4=> ?_)
 refine W_rs ?_
 refine rq (out:=Pr.i64 x2) ag ?_
 refine rq (out:=Pr.i64 x2) ae ?_
 refine W_rs ?_
 refine rq (out:=aj ah x1) ag ?_
 refine rq (out:=Pr.i64 x2) ag ?_
 obtain⟨x5,hx5,h⟩:=af h
 refine rq (out:=Pr.bool x5) (aw (a7 x1 x2 ([115,116,97,116,105,99]:List UInt8) _ hx5)) ?_
 refine rq (out:=Pr.bool x5) ae ?_
 refine bc (fun e C=>∃(x7:Int),jb x1 x2 x5 x7=some r/\At [(0,aj ah x1),(1,Pr.i64 x7),(4,ap b3 0),(6,ap b4 0),(7,Pr.i64 x2),(8,Pr.bool x5)] [Own.box b3 ab (ApiNode.mk 0 [] [] 0 0 0 0 0 []),Own.box b4 ac (Ref12Wrong.mk 0 0)] e C) ?_ ?_
 ·rintro e C ⟨x7,h,hat6⟩
  refine W_at hat6 ?_
  clear hat6
  unfold jb at h
  refine a5 ?_
  refine W_rs ?_
  refine rq (out:=aj ah x1) ag ?_
  refine rq (out:=Pr.i64 x7) ag ?_
  obtain⟨x8,hx8,h⟩:=af h
  refine rq (out:=Pr.bool x8) (aw (ref12_kind_ok x1 x7 _ hx8)) ?_
  refine rq (out:=Pr.bool (!x8)) qNot ?_
  refine ao (b:= !x8) rfl (fun hc9=> ?_) (fun hc9=> ?_)
  ·replace h:=iteT hc9 h
   refine W_rs ?_
   refine rq (out:=(ab).val (ApiNode.mk 0 [] [] 0 0 0 0 0 [])) (dc al st24 rfl) ?_
   refine rq (out:=Pr.i64 x7) ag ?_
   obtain⟨x10,hx10,h⟩:=af h
   refine rq (out:=(ac).val x10) (aw (bn x7 _ hx10)) ?_
   refine aq (R:=ab) (R':=ab) (a:=(ApiNode.mk 0 [] [] 0 0 0 0 0 [])) (y:=(ApiNode.mk 0 [] [] 0 0 0 0 0 [])) 0 Tryz.sizeOf24 (Upd.refl _) ?_
   refine rq (out:=Pr.i64 0) ae ?_
   refine aq (R:=ac) (R':=ac) (a:=(Ref12Wrong.mk 0 0)) (y:=x10) 1 Tryz.sizeOf59 (Upd.refl _) ?_
   obtain rfl:=Option.some.inj h
   exact a6 ⟨rfl,[(ab).val (ApiNode.mk 0 [] [] 0 0 0 0 0 []),Pr.i64 0,(ac).val x10],⟨yBox 0 ty24 aa,yT aa,yBox 1 ty59 aa,trivial⟩,aa⟩
  replace h:=iteF hc9 h
  refine au ?_
  refine a5 ?_
  refine W_rs ?_
  refine rq (out:=aj ah x1) ag ?_
  refine rq (out:=Pr.i64 x7) ag ?_
  refine rq (out:=Pr.i64 (w64 (x7+1))) qInt ?_
  obtain⟨x11,hx11,h⟩:=af h
  refine rq (out:=Pr.bool x11) (aw (gm x1 (w64 (x7+1)) _ hx11)) ?_
  refine rq (out:=Pr.bool (!x11)) qNot ?_
  refine ao (b:= !x11) rfl (fun hc12=> ?_) (fun hc12=> ?_)
  ·replace h:=iteT hc12 h
   refine W_rs ?_
   refine rq (out:=(ab).val (ApiNode.mk 0 [] [] 0 0 0 0 0 [])) (dc al st24 rfl) ?_
   refine rq (out:=Pr.i64 x7) ag ?_
   refine rq (out:=Pr.i64 (w64 (x7+1))) qInt ?_
   obtain⟨x13,hx13,h⟩:=af h
   refine rq (out:=(ac).val x13) (aw (bn (w64 (x7+1)) _ hx13)) ?_
   refine aq (R:=ab) (R':=ab) (a:=(ApiNode.mk 0 [] [] 0 0 0 0 0 [])) (y:=(ApiNode.mk 0 [] [] 0 0 0 0 0 [])) 0 Tryz.sizeOf24 (Upd.refl _) ?_
   refine rq (out:=Pr.i64 0) ae ?_
   refine aq (R:=ac) (R':=ac) (a:=(Ref12Wrong.mk 0 0)) (y:=x13) 1 Tryz.sizeOf59 (Upd.refl _) ?_
   obtain rfl:=Option.some.inj h
   exact a6 ⟨rfl,[(ab).val (ApiNode.mk 0 [] [] 0 0 0 0 0 []),Pr.i64 0,(ac).val x13],⟨yBox 0 ty24 aa,yT aa,yBox 1 ty59 aa,trivial⟩,aa⟩
  replace h:=iteF hc12 h
  refine au ?_
  refine W_rs ?_
  refine rq (out:=Pr.i64 x7) ag ?_
  refine rq (out:=Pr.i64 (w64 (x7+2))) qInt ?_
  refine rq (out:=Pr.i64 (w64 (x7+2))) ae ?_
  refine W_rs ?_
  refine rq (out:=Pr.i64 2) ae ?_
  refine W_rs ?_
  refine rq (out:=Pr.is (.slice none 0 0)) ae ?_
  refine W_nil [11] ab 24 (fun v14=> ?_) ⟨rfl,trivial⟩
  refine bc (fun e C=>∃(x37:Int),∃(x38:Int),∃(x40:List ApiNode),∃(v39:Value),jc x1 x2 x7 x5 x37 x38 x40=some r/\At [(0,aj ah x1),(1,Pr.i64 x7),(4,ap b3 0),(6,ap b4 0),(7,Pr.i64 x2),(8,Pr.bool x5),(9,Pr.i64 x37),(10,Pr.i64 x38),(11,Pr.is v39)] [Own.box b3 ab (ApiNode.mk 0 [] [] 0 0 0 0 0 []),Own.box b4 ac (Ref12Wrong.mk 0 0),Own.vec v39 ab x40 24] e C) ?_ ?_
  ·rintro e C ⟨x37,x38,x40,v39,h,hat3⟩
   refine W_at hat3 ?_
   clear hat3
   unfold jc at h
   refine W_rs ?_
   refine rq (out:=aj ah x1) ag ?_
   refine rq (out:=aj ah x1) ag ?_
   refine rq (out:=Pr.i64 x38) ag ?_
   refine rq (out:=Pr.i64 x2) ag ?_
   refine rq (out:=Pr.i64 x37) ag ?_
   refine rq (out:=Pr.is v39) ag ?_
   obtain⟨x41,hx41,h⟩:=af h
   refine rRel 2 [11,99] ?_ rfl ⟨rfl,rfl,trivial⟩
   refine rq (out:=(ab).val x41) (aw (cu x1 x38 x2 x37 x40 _ hx41)) ?_
   refine rq (out:=Pr.i64 x7) ag ?_
   obtain⟨x42,hx42,h⟩:=af h
   refine rq (out:=(ab).val x42) (aw (ref12_typed_ok x1 x41 x7 _ hx42)) ?_
   refine cb (R:=ab) (z:=(ApiNode.mk 0 [] [] 0 0 0 0 0 [])) Tryz.zeroValue24 (fun _=>(by rw[al];exact⟨_,⟨_,_,rfl,rfl,⟨_,_,rfl,rfl,⟨_,_,rfl,rfl,⟨_,_,rfl,rfl,⟨_,_,rfl,rfl,⟨_,_,rfl,rfl,⟨_,_,rfl,rfl,⟨_,_,rfl,rfl,⟨_,_,rfl,⟨_,rfl,none,0,rfl,⟨Nat.le_refl _,fun _=>rfl⟩,.inl rfl⟩,rfl⟩⟩⟩⟩⟩⟩⟩⟩⟩,rfl⟩)) (fun b43=> ?_)
   refine aq (R:=ab) (R':=ab) (a:=(ApiNode.mk 0 [] [] 0 0 0 0 0 [])) (y:=x42) 2 Tryz.sizeOf24 (Upd.refl _) ?_
   refine bc (fun e C=>∃(x45:ApiNode),lp x37 x45=some r/\At [(4,ap b3 0),(6,ap b4 0),(9,Pr.i64 x37),(18,ap b43 0)] [Own.box b3 ab (ApiNode.mk 0 [] [] 0 0 0 0 0 []),Own.box b4 ac (Ref12Wrong.mk 0 0),Own.box b43 ab x45] e C) ?_ ?_
   ·rintro e C ⟨x45,h,hat2⟩
    refine W_at hat2 ?_
    clear hat2
    unfold lp at h
    refine bc (fun e C=>∃(x46:Ref12Wrong),ref12_member_j1 x45 x37 x46=some r/\At [(4,ap b3 0),(5,Pr.i64 x37),(6,ap b4 0)] [Own.box b3 ab x45,Own.box b4 ac x46,Own.box b43 ab x45] e C) ?_ ?_
    ·rintro e C ⟨x46,h,hat1⟩
     refine W_at hat1 ?_
     clear hat1
     unfold ref12_member_j1 at h
     obtain rfl:=Option.some.inj h
     exact a6 ⟨rfl,[(ab).val x45,Pr.i64 x37,(ac).val x46],⟨yBox 0 ty24 aa,yT aa,yBox 1 ty59 aa,trivial⟩,aa⟩
    obtain⟨x46,hx46,h⟩:=af h
    refine dx [(3,0,Own.box b3 ab x45),(5,1,Own.box b4 ac x46)] [Own.box b3 ab x45,Own.box b4 ac x46,Own.box b43 ab x45] hmx (by kernel_rfl) (by kernel_rfl) (show([3,5]:List Nat).Nodup by decide) (show([0,1]:List Nat).Nodup by decide) rfl rfl ?_
    refine eq1 (out:=(ab).val x45) (fun C2 hC=>(a8 (R:=ab) (a:=x45) (R':=ab) 2 ty24 (Sub.refl _) (hi:=(hC 2 (by kernel_rfl)).trans rfl))) ?_
    refine eq1 (out:=Pr.i64 x37) (fun C2 hC=>ag) ?_
    refine eq1 (out:=(ac).val x46) (fun C2 hC=>(aw (cd _ hx46))) ?_
    refine eqS (fun C2 hC=>de (R:=ab) (R':=ab) (a:=(ApiNode.mk 0 [] [] 0 0 0 0 0 [])) (y:=x45) 0 Tryz.sizeOf24 (Upd.refl _) ((hC 0 (by kernel_rfl)).trans rfl)) ?_
    refine eq1 (out:=Pr.i64 x37) (fun C2 hC=>ae) ?_
    refine eqS (fun C2 hC=>de (R:=ac) (R':=ac) (a:=(Ref12Wrong.mk 0 0)) (y:=x46) 1 Tryz.sizeOf59 (Upd.refl _) ((hC 1 (by kernel_rfl)).trans rfl)) ?_
    exact⟨x46,h,⟨⟨aa,aa,aa,trivial⟩,Pick.refl _⟩⟩
   refine W_rs ?_
   refine rq (out:=Pr.bool x5) ag ?_
   refine ao (b:=x5) rfl (fun hc44=> ?_) (fun hc44=> ?_)
   ·replace h:=iteT hc44 h
    refine W_r ?_
    refine rq (out:=ap b43 3) (a4 fld24_3) ?_
    refine aq (R:=ab) (R':=Rp.int .i64) (a:=x42) (y:=1) 2 Tryz.sizeOf2 updApiNode_N ?_
    exact⟨{x42 with N:=1},h,⟨⟨aa,aa,aa,aa,trivial⟩,Pick.refl _⟩⟩
   replace h:=iteF hc44 h
   refine au ?_
   exact⟨x42,h,⟨⟨aa,aa,aa,aa,trivial⟩,Pick.refl _⟩⟩
  refine az ?_
  refine W_rs ?_
  refine rq (out:=aj ah x1) ag ?_
  refine rq (out:=Pr.i64 (w64 (x7+2))) ag ?_
  obtain⟨x15,hx15,h⟩:=af h
  refine rq (out:=Pr.bool x15) (aw (a7 x1 (w64 (x7+2)) ([59]:List UInt8) _ hx15)) ?_
  refine rq (out:=Pr.bool x15) ae ?_
  refine ao (b:=x15) rfl (fun hc16=> ?_) (fun hc16=> ?_)
  ·replace h:=iteT hc16 h
   refine a5 ?_
   refine W_rs ?_
   refine rq (out:=aj ah x1) ag ?_
   refine rq (out:=Pr.i64 x7) ag ?_
   obtain⟨x17,hx17,h⟩:=af h
   refine rq (out:=Pr.bool x17) (aw (a7 x1 x7 ([118,111,105,100]:List UInt8) _ hx17)) ?_
   refine ao (b:=x17) rfl (fun hc18=> ?_) (fun hc18=> ?_)
   ·replace h:=iteT hc18 h
    refine W_rs ?_
    refine rq (out:=(ab).val (ApiNode.mk 0 [] [] 0 0 0 0 0 [])) (dc al st24 rfl) ?_
    refine rq (out:=Pr.i64 (w64 (x7+2))) ag ?_
    obtain⟨x19,hx19,h⟩:=af h
    refine rq (out:=(ac).val x19) (aw (bn (w64 (x7+2)) _ hx19)) ?_
    refine aq (R:=ab) (R':=ab) (a:=(ApiNode.mk 0 [] [] 0 0 0 0 0 [])) (y:=(ApiNode.mk 0 [] [] 0 0 0 0 0 [])) 0 Tryz.sizeOf24 (Upd.refl _) ?_
    refine rq (out:=Pr.i64 0) ae ?_
    refine aq (R:=ac) (R':=ac) (a:=(Ref12Wrong.mk 0 0)) (y:=x19) 1 Tryz.sizeOf59 (Upd.refl _) ?_
    obtain rfl:=Option.some.inj h
    exact a6 ⟨rfl,[(ab).val (ApiNode.mk 0 [] [] 0 0 0 0 0 []),Pr.i64 0,(ac).val x19],⟨yBox 0 ty24 aa,yT aa,yBox 1 ty59 aa,trivial⟩,aa⟩
   replace h:=iteF hc18 h
   refine au ?_
   refine W_r ?_
   refine rq (out:=Pr.i64 (w64 (x7+2))) ag ?_
   refine rq (out:=Pr.i64 (w64 ((w64 (x7+2))+1))) qInt ?_
   refine rq (out:=Pr.i64 (w64 ((w64 (x7+2))+1))) ae ?_
   exact⟨w64 ((w64 (x7+2))+1),2,[],v14,h,⟨⟨aa,aa,aa,aa,aa,aa,aa,aa,aa,trivial⟩,Pick.refl _⟩⟩
  replace h:=iteF hc16 h
  refine W_rs ?_
  refine rq (out:=aj ah x1) ag ?_
  refine rq (out:=Pr.i64 (w64 (x7+2))) ag ?_
  obtain⟨x20,hx20,h⟩:=af h
  refine rq (out:=Pr.bool x20) (aw (a7 x1 (w64 (x7+2)) ([40]:List UInt8) _ hx20)) ?_
  refine rq (out:=Pr.bool x20) ae ?_
  refine ao (b:=x20) rfl (fun hc21=> ?_) (fun hc21=> ?_)
  ·replace h:=iteT hc21 h
   refine W_rs ?_
   refine rq (out:=Pr.i64 3) ae ?_
   refine W_rs ?_
   refine rq (out:=aj ah x1) ag ?_
   refine rq (out:=Pr.i64 (w64 (x7+2))) ag ?_
   refine rq (out:=Pr.i64 (w64 ((w64 (x7+2))+1))) qInt ?_
   obtain⟨⟨x22,x23,x24⟩,hx22,h⟩:=af h
   refine rCallC [] (ref12_params_ok x1 (w64 ((w64 (x7+2))+1)) _ hx22) (fun q C' hq=> ?_)
   obtain⟨v25,rfl,rfl⟩:=hq
   refine rq (out:=bh [Pr.is v25,Pr.i64 x23,(ac).val x24]) ag ?_
   refine rq (out:=Pr.is v25) ar ?_
   refine rq (out:=Pr.i64 x23) ar ?_
   refine rq (out:=(ac).val x24) ar ?_
   refine cb (R:=ac) (z:=(Ref12Wrong.mk 0 0)) Tryz.zeroValue59 (fun _=>⟨_,⟨_,_,rfl,rfl,⟨_,_,rfl,rfl,rfl⟩⟩,rfl⟩) (fun b26=> ?_)
   refine rq (out:=Pr.is v25) ae ?_
   refine rq (out:=Pr.i64 x23) ae ?_
   refine aq (R:=ac) (R':=ac) (a:=(Ref12Wrong.mk 0 0)) (y:=x24) 4 Tryz.sizeOf59 (Upd.refl _) ?_
   refine a5 ?_
   refine W_rs ?_
   refine rq (out:=ap b26 0) (a4 gy) ?_
   refine rq (out:=Pr.i64 x24.Place) (a8 (R:=ac) (a:=x24) (R':=Rp.int .i64) 4 ty3 bb) ?_
   refine rq (out:=Pr.bool (decide (x24.Place≥0))) qInt ?_
   refine ao (b:=decide (x24.Place≥0)) rfl (fun hc27=> ?_) (fun hc27=> ?_)
   ·replace h:=iteT hc27 h
    refine bc (fun e C=>ref12_member_j4 x24=some r/\At [(4,ap b3 0),(5,Pr.i64 0),(6,ap b4 0)] [Own.box b3 ab (ApiNode.mk 0 [] [] 0 0 0 0 0 []),Own.box b4 ac x24,Own.box b26 ac x24] e C) ?_ ?_
    ·rintro e C ⟨h,hat4⟩
     refine W_at hat4 ?_
     clear hat4
     unfold ref12_member_j4 at h
     obtain rfl:=Option.some.inj h
     exact a6 ⟨rfl,[(ab).val (ApiNode.mk 0 [] [] 0 0 0 0 0 []),Pr.i64 0,(ac).val x24],⟨yBox 0 ty24 aa,yT aa,yBox 1 ty59 aa,trivial⟩,aa⟩
    refine dx [(2,1,Own.box b3 ab (ApiNode.mk 0 [] [] 0 0 0 0 0 [])),(4,2,Own.box b4 ac x24)] [Own.vec v25 ab x22 24,Own.box b3 ab (ApiNode.mk 0 [] [] 0 0 0 0 0 []),Own.box b4 ac x24,Own.vec v14 ab [] 24,Own.box b26 ac x24] hmx (by kernel_rfl) (by kernel_rfl) (show([2,4]:List Nat).Nodup by decide) (show([1,2]:List Nat).Nodup by decide) rfl rfl ?_
    refine eq1 (out:=(ab).val (ApiNode.mk 0 [] [] 0 0 0 0 0 [])) (fun C2 hC=>(dc al st24 rfl)) ?_
    refine eq1 (out:=(ac).val x24) (fun C2 hC=>(a8 (R:=ac) (a:=x24) (R':=ac) 4 ty59 (Sub.refl _) (hi:=(hC 4 (by kernel_rfl)).trans rfl))) ?_
    refine eqS (fun C2 hC=>de (R:=ab) (R':=ab) (a:=(ApiNode.mk 0 [] [] 0 0 0 0 0 [])) (y:=(ApiNode.mk 0 [] [] 0 0 0 0 0 [])) 1 Tryz.sizeOf24 (Upd.refl _) ((hC 1 (by kernel_rfl)).trans rfl)) ?_
    refine eq1 (out:=Pr.i64 0) (fun C2 hC=>ae) ?_
    refine eqS (fun C2 hC=>de (R:=ac) (R':=ac) (a:=(Ref12Wrong.mk 0 0)) (y:=x24) 2 Tryz.sizeOf59 (Upd.refl _) ((hC 2 (by kernel_rfl)).trans rfl)) ?_
    exact⟨h,⟨⟨aa,aa,aa,trivial⟩,Pick.of [1,2,4] rfl⟩⟩
   replace h:=iteF hc27 h
   refine au ?_
   refine W_rs ?_
   refine rq (out:=aj ah x1) ag ?_
   refine rq (out:=Pr.i64 x23) ag ?_
   obtain⟨⟨x28,x29,x30⟩,hx28,h⟩:=af h
   refine rq (out:=bh [(ab).val x28,Pr.i64 x29,(ac).val x30]) (aw (ref12_block_ok x1 x23 1 _ hx28)) ?_
   refine rq (out:=bh [(ab).val x28,Pr.i64 x29,(ac).val x30]) ag ?_
   refine rq (out:=(ab).val x28) ar ?_
   refine rq (out:=Pr.i64 x29) ar ?_
   refine rq (out:=(ac).val x30) ar ?_
   refine cb (R:=ab) (z:=(ApiNode.mk 0 [] [] 0 0 0 0 0 [])) Tryz.zeroValue24 (fun _=>(by rw[al];exact⟨_,⟨_,_,rfl,rfl,⟨_,_,rfl,rfl,⟨_,_,rfl,rfl,⟨_,_,rfl,rfl,⟨_,_,rfl,rfl,⟨_,_,rfl,rfl,⟨_,_,rfl,rfl,⟨_,_,rfl,rfl,⟨_,_,rfl,⟨_,rfl,none,0,rfl,⟨Nat.le_refl _,fun _=>rfl⟩,.inl rfl⟩,rfl⟩⟩⟩⟩⟩⟩⟩⟩⟩,rfl⟩)) (fun b31=> ?_)
   refine cb (R:=ac) (z:=(Ref12Wrong.mk 0 0)) Tryz.zeroValue59 (fun _=>⟨_,⟨_,_,rfl,rfl,⟨_,_,rfl,rfl,rfl⟩⟩,rfl⟩) (fun b32=> ?_)
   refine aq (R:=ab) (R':=ab) (a:=(ApiNode.mk 0 [] [] 0 0 0 0 0 [])) (y:=x28) 5 Tryz.sizeOf24 (Upd.refl _) ?_
   refine rq (out:=Pr.i64 x29) ae ?_
   refine aq (R:=ac) (R':=ac) (a:=(Ref12Wrong.mk 0 0)) (y:=x30) 6 Tryz.sizeOf59 (Upd.refl _) ?_
   refine a5 ?_
   refine W_rs ?_
   refine rq (out:=ap b32 0) (a4 gy) ?_
   refine rq (out:=Pr.i64 x30.Place) (a8 (R:=ac) (a:=x30) (R':=Rp.int .i64) 6 ty3 bb) ?_
   refine rq (out:=Pr.bool (decide (x30.Place≥0))) qInt ?_
   refine ao (b:=decide (x30.Place≥0)) rfl (fun hc33=> ?_) (fun hc33=> ?_)
   ·replace h:=iteT hc33 h
    refine bc (fun e C=>ref12_member_j5 x30=some r/\At [(4,ap b3 0),(5,Pr.i64 0),(6,ap b4 0)] [Own.box b3 ab (ApiNode.mk 0 [] [] 0 0 0 0 0 []),Own.box b4 ac x30,Own.box b26 ac x24,Own.box b31 ab x28,Own.box b32 ac x30] e C) ?_ ?_
    ·rintro e C ⟨h,hat5⟩
     refine W_at hat5 ?_
     clear hat5
     unfold ref12_member_j5 at h
     obtain rfl:=Option.some.inj h
     exact a6 ⟨rfl,[(ab).val (ApiNode.mk 0 [] [] 0 0 0 0 0 []),Pr.i64 0,(ac).val x30],⟨yBox 0 ty24 aa,yT aa,yBox 1 ty59 aa,trivial⟩,aa⟩
    refine dx [(2,1,Own.box b3 ab (ApiNode.mk 0 [] [] 0 0 0 0 0 [])),(4,2,Own.box b4 ac x30)] [Own.vec v25 ab x22 24,Own.box b3 ab (ApiNode.mk 0 [] [] 0 0 0 0 0 []),Own.box b4 ac x30,Own.vec v14 ab [] 24,Own.box b26 ac x24,Own.box b31 ab x28,Own.box b32 ac x30] hmx (by kernel_rfl) (by kernel_rfl) (show([2,4]:List Nat).Nodup by decide) (show([1,2]:List Nat).Nodup by decide) rfl rfl ?_
    refine eq1 (out:=(ab).val (ApiNode.mk 0 [] [] 0 0 0 0 0 [])) (fun C2 hC=>(dc al st24 rfl)) ?_
    refine eq1 (out:=(ac).val x30) (fun C2 hC=>(a8 (R:=ac) (a:=x30) (R':=ac) 6 ty59 (Sub.refl _) (hi:=(hC 6 (by kernel_rfl)).trans rfl))) ?_
    refine eqS (fun C2 hC=>de (R:=ab) (R':=ab) (a:=(ApiNode.mk 0 [] [] 0 0 0 0 0 [])) (y:=(ApiNode.mk 0 [] [] 0 0 0 0 0 [])) 1 Tryz.sizeOf24 (Upd.refl _) ((hC 1 (by kernel_rfl)).trans rfl)) ?_
    refine eq1 (out:=Pr.i64 0) (fun C2 hC=>ae) ?_
    refine eqS (fun C2 hC=>de (R:=ac) (R':=ac) (a:=(Ref12Wrong.mk 0 0)) (y:=x30) 2 Tryz.sizeOf59 (Upd.refl _) ((hC 2 (by kernel_rfl)).trans rfl)) ?_
    exact⟨h,⟨⟨aa,aa,aa,trivial⟩,Pick.of [1,2,4,5,6] rfl⟩⟩
   replace h:=iteF hc33 h
   refine au ?_
   refine W_rs ?_
   refine rq (out:=Pr.is v25) ag ?_
   refine rq (out:=(ab).val x28) (a8 (R:=ab) (a:=x28) (R':=ab) 5 ty24 (Sub.refl _)) ?_
   refine rq (out:=aj ab ([x28]:List ApiNode)) (cr (R:=ab) (a:=x28) el22 (Nat.le_of_ble_eq_true rfl)) ?_
   obtain⟨x34,hx34,h⟩:=af h
   refine ip 0 el22 hx34 (fun v35=> ?_)
   refine rq (out:=Pr.is v35) ae ?_
   refine W_rs ?_
   refine rq (out:=Pr.is v35) ag ?_
   refine rq (out:=Pr.is v35) ae ?_
   refine W_r ?_
   refine rq (out:=Pr.i64 x29) ag ?_
   refine rq (out:=Pr.i64 x29) ae ?_
   exact⟨x29,3,x34,v35,h,⟨⟨aa,aa,aa,aa,aa,aa,aa,aa,aa,trivial⟩,Pick.of [1,2,0] rfl⟩⟩
  replace h:=iteF hc21 h
  refine W_rs ?_
  refine rq (out:=(ab).val (ApiNode.mk 0 [] [] 0 0 0 0 0 [])) (dc al st24 rfl) ?_
  refine rq (out:=Pr.i64 (w64 (x7+2))) ag ?_
  obtain⟨x36,hx36,h⟩:=af h
  refine rq (out:=(ac).val x36) (aw (bn (w64 (x7+2)) _ hx36)) ?_
  refine aq (R:=ab) (R':=ab) (a:=(ApiNode.mk 0 [] [] 0 0 0 0 0 [])) (y:=(ApiNode.mk 0 [] [] 0 0 0 0 0 [])) 0 Tryz.sizeOf24 (Upd.refl _) ?_
  refine rq (out:=Pr.i64 0) ae ?_
  refine aq (R:=ac) (R':=ac) (a:=(Ref12Wrong.mk 0 0)) (y:=x36) 1 Tryz.sizeOf59 (Upd.refl _) ?_
  obtain rfl:=Option.some.inj h
  exact a6 ⟨rfl,[(ab).val (ApiNode.mk 0 [] [] 0 0 0 0 0 []),Pr.i64 0,(ac).val x36],⟨yBox 0 ty24 aa,yT aa,yBox 1 ty59 aa,trivial⟩,aa⟩
 refine W_rs ?_
 refine rq (out:=Pr.bool x5) ag ?_
 refine ao (b:=x5) rfl (fun hc6=> ?_) (fun hc6=> ?_)
 ·replace h:=iteT hc6 h
  refine W_r ?_
  refine rq (out:=Pr.i64 x2) ag ?_
  refine rq (out:=Pr.i64 (w64 (x2+1))) qInt ?_
  refine rq (out:=Pr.i64 (w64 (x2+1))) ae ?_
  exact⟨w64 (x2+1),h,⟨⟨aa,aa,aa,aa,aa,aa,trivial⟩,Pick.refl _⟩⟩
 replace h:=iteF hc6 h
 refine au ?_
 exact⟨x2,h,⟨⟨aa,aa,aa,aa,aa,aa,trivial⟩,Pick.refl _⟩⟩
theorem ref12_mistake_ok (x1:List ApiToken) (x2:Ref12Wrong) (r:ApiMistake) (h:ref12_mistake x1 x2=some r):FnP Tryz.prog 42 [aj ah x1,(ac).val x2] ((ay).val r):=by
 refine el (n:=18) (rs:=[.cell 4 36]) Tryz.func42 rfl Tryz.ntmps42 Tryz.results42 (by decide) (fun s0=> ?_)
 unfold ref12_mistake at h
 refine W_rs ?_
 refine rBox (R:=ac) (a:=x2) rfl (fun b3=> ?_)
 refine cb (R:=ay) (z:=(ApiMistake.mk 0 0 0)) Tryz.zeroValue36 (fun _=>⟨_,⟨_,_,rfl,rfl,⟨_,_,rfl,rfl,⟨_,_,rfl,rfl,rfl⟩⟩⟩,rfl⟩) (fun b4=> ?_)
 refine bc (fun e C=>∃(x5:ApiToken),na x2 x5=some r/\At [(4,ap b4 0)] [Own.box b3 ac x2,Own.box b4 ay (ApiMistake.mk x2.Code 0 x5.At)] e C) ?_ ?_
 ·rintro e C ⟨x5,h,hat1⟩
  refine W_at hat1 ?_
  clear hat1
  unfold na at h
  obtain rfl:=Option.some.inj h
  exact a6 ⟨rfl,[(ay).val (ApiMistake.mk x2.Code 0 x5.At)],⟨yBox 1 ty36 aa,trivial⟩,aa⟩
 refine jm 13 hmx (by kernel_rfl) (by kernel_rfl) ?_
 refine qq (out:=ap b3 1) (a4 fld59_1) ?_
 refine qq (out:=Pr.i64 x2.Code) (a8 (R:=ac) (a:=x2) (R':=Rp.int .i64) 0 ty34 subRef12Wrong_Code) ?_
 refine qq (out:=aj ah x1) ag ?_
 refine qq (out:=ap b3 0) (a4 gy) ?_
 refine qq (out:=Pr.i64 x2.Place) (a8 (R:=ac) (a:=x2) (R':=Rp.int .i64) 0 ty3 bb) ?_
 refine qq (out:=aj ah x1) ag ?_
 refine qq (out:=Pr.i64 (x1.length:Int)) (fi rfl Tryz.underlying52) ?_
 refine qq (out:=Pr.i64 (w64 ((x1.length:Int) - 1))) qInt ?_
 refine qq (out:=Pr.i64 (if(w64 ((x1.length:Int) - 1))<x2.Place then(w64 ((x1.length:Int) - 1))else x2.Place)) (qMin (a:=x2.Place) (b:=w64 ((x1.length:Int) - 1))) ?_
 obtain⟨x5,hx5,h⟩:=af h
 refine qq (out:=bj ah x5) (ef (R:=ah) (l:=x1) Tryz.underlying52 Tryz.sizeOf56 hx5) ?_
 refine qq (out:=bj (Rp.int .i64) x5.At) (e7 (R:=ah) (a:=x5) fld56_2 fw) ?_
 refine qq (out:=Pr.i64 x5.At) (c5 (R:=Rp.int .i64) (a:=x5.At) ty3) ?_
 refine qq (out:=(ay).val (ApiMistake.mk x2.Code 0 x5.At)) (qBuild st36 ⟨(ApiMistake.mk x2.Code 0 0),⟨_,rfl,rfl,fun j fd hj hf=>by match j,hj with| 0,h=>exact absurd rfl h| 1,_=>cases hf;rfl| 2,_=>cases hf;rfl|_+3,_=>cases hf⟩,⟨(ApiMistake.mk x2.Code 0 x5.At),⟨_,rfl,rfl,fun j fd hj hf=>by match j,hj with| 0,_=>cases hf;rfl| 1,_=>cases hf;rfl| 2,h=>exact absurd rfl h|_+3,_=>cases hf⟩,rfl⟩⟩) ?_
 refine aq (R:=ay) (R':=ay) (a:=(ApiMistake.mk 0 0 0)) (y:=(ApiMistake.mk x2.Code 0 x5.At)) 1 Tryz.sizeOf36 (Upd.refl _) ?_
 exact⟨x5,h,⟨⟨aa,trivial⟩,Pick.refl _⟩⟩
def rec_ref11_Depth_spec (R:ed):Prop:=(∀(x1:ApiNode) (r:Int),R x1=some r->FnP Tryz.prog 43 [(ab).val x1] (Pr.i64 r))
theorem F_ref11_Depth_step (R:ed) (ih:rec_ref11_Depth_spec R) (x1:ApiNode) (r:Int) (h:F_ref11_Depth R x1=some r):FnP Tryz.prog 43 [(ab).val x1] (Pr.i64 r):=by
 refine bo (n:=22) (rs:=[2]) Tryz.func43 rfl Tryz.ntmps43 ⟨by decide,Tryz.results43⟩ (by decide) (fun s0=> ?_)
 unfold F_ref11_Depth at h
 refine W_rs ?_
 refine rBox (R:=ab) (a:=x1) rfl (fun b2=> ?_)
 refine rq (out:=Pr.i64 0) ae ?_
 refine W_rs ?_
 refine rq (out:=Pr.i64 0) ae ?_
 refine a5 ?_
 refine W_rs ?_
 refine rq (out:=Pr.i64 0) ae ?_
 refine az ?_
 obtain⟨z2l,hz2,h⟩:=af h
 obtain⟨n2,hN2⟩:=cc hz2
 clear hz2
 refine du 0 (fun e C=>∃(x3:Int),ref11_Depth_k1 R x3=some r/\At [(3,Pr.i64 x3)] [Own.box b2 ab x1] e C) ?_ ?_
 ·rintro e C ⟨x3,h,hat1⟩
  refine W_at hat1 ?_
  clear hat1
  unfold ref11_Depth_k1 at h
  refine W_rs ?_
  refine rq (out:=Pr.i64 x3) ag ?_
  refine rq (out:=Pr.i64 (w64 (x3+1))) qInt ?_
  refine rq (out:=Pr.i64 (w64 (x3+1))) ae ?_
  obtain rfl:=Option.some.inj h
  exact a6 ⟨rfl,aa⟩
 refine eh (fun m e C=>∃(x3:Int),∃(x4:Int),en (fun s=>kq R x1 s.1 s.2) m (x3,x4)=some z2l/\At [(1,ap b2 0),(3,Pr.i64 x3),(4,Pr.i64 x4)] [Own.box b2 ab x1] e C) n2 ⟨0,0,hN2,⟨⟨aa,aa,aa,trivial⟩,Pick.refl _⟩⟩ ?_
 clear hN2
 rintro m e C ⟨x3,x4,hN2,hatl2⟩
 refine W_at hatl2 ?_
 clear hatl2
 obtain⟨m2,w2l,rfl,h2l,hn2,ho2⟩:=bx hN2
 clear hN2
 replace h2l:kq R x1 x3 x4=some w2l:=h2l
 unfold kq at h2l
 refine a5 ?_
 refine W_rs ?_
 refine rq (out:=Pr.i64 x4) ag ?_
 refine rq (out:=ap b2 8) (a4 e8) ?_
 refine rq (out:=aj ab x1.Kids) (a8 (R:=ab) (a:=x1) (R':=a9 ab) 0 ty22 bi) ?_
 refine rq (out:=Pr.i64 (x1.Kids.length:Int)) (fi rfl Tryz.underlying22) ?_
 refine rq (out:=Pr.bool (decide (x4<(x1.Kids.length:Int)))) qInt ?_
 refine ao (b:=decide (x4<(x1.Kids.length:Int))) rfl (fun hc7=> ?_) (fun hc7=> ?_)
 ·replace h2l:=iteT hc7 h2l
  refine au ?_
  refine a5 ?_
  refine az ?_
  refine W_r ?_
  refine rq (out:=Pr.i64 x3) ag ?_
  refine rq (out:=ap b2 8) (a4 e8) ?_
  refine rq (out:=aj ab x1.Kids) (a8 (R:=ab) (a:=x1) (R':=a9 ab) 0 ty22 bi) ?_
  refine rq (out:=Pr.i64 x4) ag ?_
  obtain⟨x8,hx8,h2l⟩:=af h2l
  refine rq (out:=bj ab x8) (ef (R:=ab) (l:=x1.Kids) Tryz.underlying22 Tryz.sizeOf24 hx8) ?_
  refine rq (out:=(ab).val x8) (c5 (R:=ab) (a:=x8) ty24) ?_
  obtain⟨x9,hx9,h2l⟩:=af h2l
  refine rq (out:=Pr.i64 x9) (aw (ih x8 _ hx9)) ?_
  refine rq (out:=Pr.i64 (if x9>x3 then x9 else x3)) (qMax (a:=x3) (b:=x9)) ?_
  refine rq (out:=Pr.i64 (if x9>x3 then x9 else x3)) ae ?_
  refine W_r ?_
  refine rq (out:=Pr.i64 x4) ag ?_
  refine rq (out:=Pr.i64 (w64 (x4+1))) qInt ?_
  refine rq (out:=Pr.i64 (w64 (x4+1))) ae ?_
  exact⟨m2,Nat.lt_succ_self _,(if x9>x3 then x9 else x3),w64 (x4+1),hn2 _ (Option.some.inj h2l).symm,⟨⟨aa,aa,aa,trivial⟩,Pick.refl _⟩⟩
 replace h2l:=iteF hc7 h2l
 refine dg ?_
 obtain rfl:=ho2 _ (Option.some.inj h2l).symm
 exact⟨x3,h,⟨⟨aa,trivial⟩,Pick.refl _⟩⟩
theorem rec_ref11_Depth_ok :∀n,rec_ref11_Depth_spec (ge n):=by
 intro n
 induction n with
 |zero=>exact(fun x1 r h=>nomatch (show none=some r from h))
 |succ n ih=>exact(fun x1 r h=>F_ref11_Depth_step (ge n) ih x1 r h)
theorem ref11_Depth_ok (x1:ApiNode) (r:Int) (h:ref11_Depth x1=some r):FnP Tryz.prog 43 [(ab).val x1] (Pr.i64 r):=(rec_ref11_Depth_ok 1048576) x1 r h
theorem ref12_One_ok (x1:List UInt8) (x2:Int) (r:ApiNode × ApiMistake) (h:ref12_One x1 x2=some r):FnP Tryz.prog 17 [ai x1,Pr.i64 x2] (bh [(ab).val r.1,(ay).val r.2]):=by
 refine el (n:=92) (rs:=[.cell 4 24,.cell 5 36]) Tryz.func17 rfl Tryz.ntmps17 Tryz.results17 (by decide) (fun s0=> ?_)
 unfold ref12_One at h
 refine W_rs ?_
 refine cb (R:=ab) (z:=(ApiNode.mk 0 [] [] 0 0 0 0 0 [])) Tryz.zeroValue24 (fun _=>(by rw[al];exact⟨_,⟨_,_,rfl,rfl,⟨_,_,rfl,rfl,⟨_,_,rfl,rfl,⟨_,_,rfl,rfl,⟨_,_,rfl,rfl,⟨_,_,rfl,rfl,⟨_,_,rfl,rfl,⟨_,_,rfl,rfl,⟨_,_,rfl,⟨_,rfl,none,0,rfl,⟨Nat.le_refl _,fun _=>rfl⟩,.inl rfl⟩,rfl⟩⟩⟩⟩⟩⟩⟩⟩⟩,rfl⟩)) (fun b3=> ?_)
 refine cb (R:=ay) (z:=(ApiMistake.mk 0 0 0)) Tryz.zeroValue36 (fun _=>⟨_,⟨_,_,rfl,rfl,⟨_,_,rfl,rfl,⟨_,_,rfl,rfl,rfl⟩⟩⟩,rfl⟩) (fun b4=> ?_)
 refine W_rs ?_
 refine rq (out:=ai x1) ag ?_
 obtain⟨⟨x5,x6,x7⟩,hx5,h⟩:=af h
 refine rq (out:=bh [aj ah x5,Pr.i64 x6,Pr.i64 x7]) (aw (ref03_Lex_ok x1 _ hx5)) ?_
 refine rq (out:=bh [aj ah x5,Pr.i64 x6,Pr.i64 x7]) ag ?_
 refine rq (out:=aj ah x5) ar ?_
 refine rq (out:=Pr.i64 x6) ar ?_
 refine rq (out:=Pr.i64 x7) ar ?_
 refine rq (out:=aj ah x5) ae ?_
 refine rq (out:=Pr.i64 x6) ae ?_
 refine rq (out:=Pr.i64 x7) ae ?_
 refine a5 ?_
 refine W_rs ?_
 refine rq (out:=Pr.i64 x7) ag ?_
 refine rq (out:=Pr.bool (x7 != 0)) qInt ?_
 refine ao (b:=x7 != 0) rfl (fun hc8=> ?_) (fun hc8=> ?_)
 ·replace h:=iteT hc8 h
  refine W_rs ?_
  refine rq (out:=(ab).val (ApiNode.mk 0 [] [] 0 0 0 0 0 [])) (dc al st24 rfl) ?_
  refine rq (out:=Pr.i64 x7) ag ?_
  refine rq (out:=Pr.i64 x6) ag ?_
  refine rq (out:=(ay).val (ApiMistake.mk x7 0 x6)) (qBuild st36 ⟨(ApiMistake.mk x7 0 0),⟨_,rfl,rfl,fun j fd hj hf=>by match j,hj with| 0,h=>exact absurd rfl h| 1,_=>cases hf;rfl| 2,_=>cases hf;rfl|_+3,_=>cases hf⟩,⟨(ApiMistake.mk x7 0 x6),⟨_,rfl,rfl,fun j fd hj hf=>by match j,hj with| 0,_=>cases hf;rfl| 1,_=>cases hf;rfl| 2,h=>exact absurd rfl h|_+3,_=>cases hf⟩,rfl⟩⟩) ?_
  refine aq (R:=ab) (R':=ab) (a:=(ApiNode.mk 0 [] [] 0 0 0 0 0 [])) (y:=(ApiNode.mk 0 [] [] 0 0 0 0 0 [])) 0 Tryz.sizeOf24 (Upd.refl _) ?_
  refine aq (R:=ay) (R':=ay) (a:=(ApiMistake.mk 0 0 0)) (y:=(ApiMistake.mk x7 0 x6)) 1 Tryz.sizeOf36 (Upd.refl _) ?_
  obtain rfl:=Option.some.inj h
  exact a6 ⟨rfl,[(ab).val (ApiNode.mk 0 [] [] 0 0 0 0 0 []),(ay).val (ApiMistake.mk x7 0 x6)],⟨yBox 0 ty24 aa,yBox 1 ty36 aa,trivial⟩,aa⟩
 replace h:=iteF hc8 h
 refine au ?_
 refine W_rs ?_
 refine cb (R:=ab) (z:=(ApiNode.mk 0 [] [] 0 0 0 0 0 [])) Tryz.zeroValue24 (fun _=>(by rw[al];exact⟨_,⟨_,_,rfl,rfl,⟨_,_,rfl,rfl,⟨_,_,rfl,rfl,⟨_,_,rfl,rfl,⟨_,_,rfl,rfl,⟨_,_,rfl,rfl,⟨_,_,rfl,rfl,⟨_,_,rfl,rfl,⟨_,_,rfl,⟨_,rfl,none,0,rfl,⟨Nat.le_refl _,fun _=>rfl⟩,.inl rfl⟩,rfl⟩⟩⟩⟩⟩⟩⟩⟩⟩,rfl⟩)) (fun b9=> ?_)
 refine W_rs ?_
 refine cb (R:=ac) (z:=(Ref12Wrong.mk 0 0)) Tryz.zeroValue59 (fun _=>⟨_,⟨_,_,rfl,rfl,⟨_,_,rfl,rfl,rfl⟩⟩,rfl⟩) (fun b10=> ?_)
 refine W_rs ?_
 refine rq (out:=Pr.i64 0) ae ?_
 refine bc (fun e C=>∃(x29:Int),∃(x30:ApiNode),∃(x31:Ref12Wrong),lj x5 x29 x30 x31=some r/\At [(4,ap b3 0),(5,ap b4 0),(6,aj ah x5),(9,ap b9 0),(10,ap b10 0),(11,Pr.i64 x29)] [Own.box b3 ab (ApiNode.mk 0 [] [] 0 0 0 0 0 []),Own.box b4 ay (ApiMistake.mk 0 0 0),Own.box b9 ab x30,Own.box b10 ac x31] e C) ?_ ?_
 ·rintro e C ⟨x29,x30,x31,h,hat4⟩
  refine W_at hat4 ?_
  clear hat4
  unfold lj at h
  refine bc (fun e C=>∃(x37:Ref12Wrong),jn x5 x30 x37=some r/\At [(4,ap b3 0),(5,ap b4 0),(6,aj ah x5),(9,ap b9 0),(10,ap b10 0)] [Own.box b3 ab (ApiNode.mk 0 [] [] 0 0 0 0 0 []),Own.box b4 ay (ApiMistake.mk 0 0 0),Own.box b9 ab x30,Own.box b10 ac x37] e C) ?_ ?_
  ·rintro e C ⟨x37,h,hat2⟩
   refine W_at hat2 ?_
   clear hat2
   unfold jn at h
   refine a5 ?_
   refine W_rs ?_
   refine rq (out:=ap b10 0) (a4 gy) ?_
   refine rq (out:=Pr.i64 x37.Place) (a8 (R:=ac) (a:=x37) (R':=Rp.int .i64) 3 ty3 bb) ?_
   refine rq (out:=Pr.bool (decide (x37.Place≥0))) qInt ?_
   refine ao (b:=decide (x37.Place≥0)) rfl (fun hc38=> ?_) (fun hc38=> ?_)
   ·replace h:=iteT hc38 h
    refine W_rs ?_
    refine rq (out:=(ab).val (ApiNode.mk 0 [] [] 0 0 0 0 0 [])) (dc al st24 rfl) ?_
    refine rq (out:=aj ah x5) ag ?_
    refine rq (out:=(ac).val x37) (a8 (R:=ac) (a:=x37) (R':=ac) 3 ty59 (Sub.refl _)) ?_
    obtain⟨x39,hx39,h⟩:=af h
    refine rq (out:=(ay).val x39) (aw (ref12_mistake_ok x5 x37 _ hx39)) ?_
    refine aq (R:=ab) (R':=ab) (a:=(ApiNode.mk 0 [] [] 0 0 0 0 0 [])) (y:=(ApiNode.mk 0 [] [] 0 0 0 0 0 [])) 0 Tryz.sizeOf24 (Upd.refl _) ?_
    refine aq (R:=ay) (R':=ay) (a:=(ApiMistake.mk 0 0 0)) (y:=x39) 1 Tryz.sizeOf36 (Upd.refl _) ?_
    obtain rfl:=Option.some.inj h
    exact a6 ⟨rfl,[(ab).val (ApiNode.mk 0 [] [] 0 0 0 0 0 []),(ay).val x39],⟨yBox 0 ty24 aa,yBox 1 ty36 aa,trivial⟩,aa⟩
   replace h:=iteF hc38 h
   refine au ?_
   refine a5 ?_
   refine W_rs ?_
   refine rq (out:=(ab).val x30) (a8 (R:=ab) (a:=x30) (R':=ab) 2 ty24 (Sub.refl _)) ?_
   obtain⟨x40,hx40,h⟩:=af h
   refine rq (out:=Pr.i64 x40) (aw (ref11_Depth_ok x30 _ hx40)) ?_
   refine rq (out:=Pr.bool (decide (x40>200))) qInt ?_
   refine ao (b:=decide (x40>200)) rfl (fun hc41=> ?_) (fun hc41=> ?_)
   ·replace h:=iteT hc41 h
    refine bc (fun e C=>∃(x42:ApiToken),ref12_One_j1 x42=some r/\At [(4,ap b3 0),(5,ap b4 0)] [Own.box b3 ab (ApiNode.mk 0 [] [] 0 0 0 0 0 []),Own.box b4 ay (ApiMistake.mk 2 0 x42.At),Own.box b9 ab x30,Own.box b10 ac x37] e C) ?_ ?_
    ·rintro e C ⟨x42,h,hat1⟩
     refine W_at hat1 ?_
     clear hat1
     unfold ref12_One_j1 at h
     obtain rfl:=Option.some.inj h
     exact a6 ⟨rfl,[(ab).val (ApiNode.mk 0 [] [] 0 0 0 0 0 []),(ay).val (ApiMistake.mk 2 0 x42.At)],⟨yBox 0 ty24 aa,yBox 1 ty36 aa,trivial⟩,aa⟩
    obtain⟨x42,hx42,h⟩:=af h
    refine dx [(6,0,Own.box b3 ab (ApiNode.mk 0 [] [] 0 0 0 0 0 [])),(7,1,Own.box b4 ay (ApiMistake.mk 2 0 x42.At))] [Own.box b3 ab (ApiNode.mk 0 [] [] 0 0 0 0 0 []),Own.box b4 ay (ApiMistake.mk 2 0 x42.At),Own.box b9 ab x30,Own.box b10 ac x37] hmx (by kernel_rfl) (by kernel_rfl) (show([6,7]:List Nat).Nodup by decide) (show([0,1]:List Nat).Nodup by decide) rfl rfl ?_
    refine eq1 (out:=(ab).val (ApiNode.mk 0 [] [] 0 0 0 0 0 [])) (fun C2 hC=>(dc al st24 rfl)) ?_
    refine eq1 (out:=aj ah x5) (fun C2 hC=>ag) ?_
    refine eq1 (out:=bj ah x42) (fun C2 hC=>(ef (R:=ah) (l:=x5) Tryz.underlying52 Tryz.sizeOf56 hx42)) ?_
    refine eq1 (out:=bj (Rp.int .i64) x42.At) (fun C2 hC=>(e7 (R:=ah) (a:=x42) fld56_2 fw)) ?_
    refine eq1 (out:=Pr.i64 x42.At) (fun C2 hC=>(c5 (R:=Rp.int .i64) (a:=x42.At) ty3)) ?_
    refine eq1 (out:=(ay).val (ApiMistake.mk 2 0 x42.At)) (fun C2 hC=>(qBuild st36 ⟨(ApiMistake.mk 2 0 0),⟨_,rfl,rfl,fun j fd hj hf=>by match j,hj with| 0,h=>exact absurd rfl h| 1,_=>cases hf;rfl| 2,_=>cases hf;rfl|_+3,_=>cases hf⟩,⟨(ApiMistake.mk 2 0 x42.At),⟨_,rfl,rfl,fun j fd hj hf=>by match j,hj with| 0,_=>cases hf;rfl| 1,_=>cases hf;rfl| 2,h=>exact absurd rfl h|_+3,_=>cases hf⟩,rfl⟩⟩)) ?_
    refine eqS (fun C2 hC=>de (R:=ab) (R':=ab) (a:=(ApiNode.mk 0 [] [] 0 0 0 0 0 [])) (y:=(ApiNode.mk 0 [] [] 0 0 0 0 0 [])) 0 Tryz.sizeOf24 (Upd.refl _) ((hC 0 (by kernel_rfl)).trans rfl)) ?_
    refine eqS (fun C2 hC=>de (R:=ay) (R':=ay) (a:=(ApiMistake.mk 0 0 0)) (y:=(ApiMistake.mk 2 0 x42.At)) 1 Tryz.sizeOf36 (Upd.refl _) ((hC 1 (by kernel_rfl)).trans rfl)) ?_
    exact⟨x42,h,⟨⟨aa,aa,trivial⟩,Pick.refl _⟩⟩
   replace h:=iteF hc41 h
   refine au ?_
   refine W_rs ?_
   refine rq (out:=(ab).val x30) (a8 (R:=ab) (a:=x30) (R':=ab) 2 ty24 (Sub.refl _)) ?_
   refine rq (out:=(ay).val (ApiMistake.mk 0 0 0)) (qBuild st36 rfl) ?_
   refine aq (R:=ab) (R':=ab) (a:=(ApiNode.mk 0 [] [] 0 0 0 0 0 [])) (y:=x30) 0 Tryz.sizeOf24 (Upd.refl _) ?_
   refine aq (R:=ay) (R':=ay) (a:=(ApiMistake.mk 0 0 0)) (y:=(ApiMistake.mk 0 0 0)) 1 Tryz.sizeOf36 (Upd.refl _) ?_
   obtain rfl:=Option.some.inj h
   exact a6 ⟨rfl,[(ab).val x30,(ay).val (ApiMistake.mk 0 0 0)],⟨yBox 0 ty24 aa,yBox 1 ty36 aa,trivial⟩,aa⟩
  refine bc (fun e C=>∃(x34:Bool),nv x29 x5 x30 x31 x34=some r/\At [(4,ap b3 0),(5,ap b4 0),(6,aj ah x5),(9,ap b9 0),(10,ap b10 0),(11,Pr.i64 x29),(71,Pr.bool x34)] [Own.box b3 ab (ApiNode.mk 0 [] [] 0 0 0 0 0 []),Own.box b4 ay (ApiMistake.mk 0 0 0),Own.box b9 ab x30,Own.box b10 ac x31] e C) ?_ ?_
  ·rintro e C ⟨x34,h,hat3⟩
   refine W_at hat3 ?_
   clear hat3
   unfold nv at h
   refine ao (b:=x34) rfl (fun hc35=> ?_) (fun hc35=> ?_)
   ·replace h:=iteT hc35 h
    refine W_r ?_
    refine rq (out:=Pr.i64 x29) ag ?_
    obtain⟨x36,hx36,h⟩:=af h
    refine rq (out:=(ac).val x36) (aw (bn x29 _ hx36)) ?_
    refine aq (R:=ac) (R':=ac) (a:=x31) (y:=x36) 3 Tryz.sizeOf59 (Upd.refl _) ?_
    exact⟨x36,h,⟨⟨aa,aa,aa,aa,aa,trivial⟩,Pick.refl _⟩⟩
   replace h:=iteF hc35 h
   refine au ?_
   exact⟨x31,h,⟨⟨aa,aa,aa,aa,aa,trivial⟩,Pick.refl _⟩⟩
  refine W_r ?_
  refine rq (out:=ap b10 0) (a4 gy) ?_
  refine rq (out:=Pr.i64 x31.Place) (a8 (R:=ac) (a:=x31) (R':=Rp.int .i64) 3 ty3 bb) ?_
  refine rq (out:=Pr.bool (decide (x31.Place<0))) qInt ?_
  refine rq (out:=Pr.bool (decide (x31.Place<0))) ag ?_
  rcases bv h with⟨hc32,h⟩|⟨hc32,h⟩
  ·refine rqg hc32 (out:=aj ah x5) ag ?_
   refine rqg hc32 (out:=Pr.i64 x29) ag ?_
   obtain⟨x33,hx33,h⟩:=af h
   refine rqg hc32 (out:=bj ah x33) (ef (R:=ah) (l:=x5) Tryz.underlying52 Tryz.sizeOf56 hx33) ?_
   refine rqg hc32 (out:=bj (Rp.int .i64) x33.Kind) (e7 (R:=ah) (a:=x33) fld56_0 j6) ?_
   refine rqg hc32 (out:=Pr.i64 x33.Kind) (c5 (R:=Rp.int .i64) (a:=x33.Kind) ty3) ?_
   refine rqg hc32 (out:=Pr.bool (x33.Kind != 5)) qInt ?_
   refine rq (out:=Pr.bool (x33.Kind != 5)) (bu hc32) ?_
   exact⟨x33.Kind != 5,h,⟨⟨aa,aa,aa,aa,aa,aa,aa,trivial⟩,Pick.refl _⟩⟩
  refine rno (neT hc32) ?_
  refine rno (neT hc32) ?_
  refine rno (neT hc32) ?_
  refine rno (neT hc32) ?_
  refine rno (neT hc32) ?_
  refine rno (neT hc32) ?_
  refine rq (out:=Pr.bool false) (bp hc32) ?_
  exact⟨false,h,⟨⟨aa,aa,aa,aa,aa,aa,aa,trivial⟩,Pick.refl _⟩⟩
 refine az ?_
 refine W_rs ?_
 refine rq (out:=Pr.i64 x2) ag ?_
 refine rq (out:=Pr.bool (x2==1)) qInt ?_
 refine rq (out:=Pr.bool (x2==1)) ae ?_
 refine ao (b:=x2==1) rfl (fun hc11=> ?_) (fun hc11=> ?_)
 ·replace h:=iteT hc11 h
  refine W_r ?_
  refine rq (out:=aj ah x5) ag ?_
  obtain⟨⟨x12,x13,x14⟩,hx12,h⟩:=af h
  refine rq (out:=bh [(ab).val x12,Pr.i64 x13,(ac).val x14]) (aw (ref12_member_ok x5 0 _ hx12)) ?_
  refine rq (out:=bh [(ab).val x12,Pr.i64 x13,(ac).val x14]) ag ?_
  refine rq (out:=(ab).val x12) ar ?_
  refine rq (out:=Pr.i64 x13) ar ?_
  refine rq (out:=(ac).val x14) ar ?_
  refine aq (R:=ab) (R':=ab) (a:=(ApiNode.mk 0 [] [] 0 0 0 0 0 [])) (y:=x12) 2 Tryz.sizeOf24 (Upd.refl _) ?_
  refine rq (out:=Pr.i64 x13) ae ?_
  refine aq (R:=ac) (R':=ac) (a:=(Ref12Wrong.mk 0 0)) (y:=x14) 3 Tryz.sizeOf59 (Upd.refl _) ?_
  exact⟨x13,x12,x14,h,⟨⟨aa,aa,aa,aa,aa,aa,trivial⟩,Pick.refl _⟩⟩
 replace h:=iteF hc11 h
 refine bc (fun e C=>∃(x17:Bool),ref12_One_j5 x5 x2 x17=some r/\At [(1,Pr.i64 x2),(4,ap b3 0),(5,ap b4 0),(6,aj ah x5),(9,ap b9 0),(10,ap b10 0),(39,Pr.bool x17)] [Own.box b3 ab (ApiNode.mk 0 [] [] 0 0 0 0 0 []),Own.box b4 ay (ApiMistake.mk 0 0 0),Own.box b9 ab (ApiNode.mk 0 [] [] 0 0 0 0 0 []),Own.box b10 ac (Ref12Wrong.mk 0 0)] e C) ?_ ?_
 ·rintro e C ⟨x17,h,hat5⟩
  refine W_at hat5 ?_
  clear hat5
  unfold ref12_One_j5 at h
  refine ao (b:=x17) rfl (fun hc18=> ?_) (fun hc18=> ?_)
  ·replace h:=iteT hc18 h
   refine W_r ?_
   refine rq (out:=aj ah x5) ag ?_
   obtain⟨⟨x19,x20,x21⟩,hx19,h⟩:=af h
   refine rq (out:=bh [(ab).val x19,Pr.i64 x20,(ac).val x21]) (aw (ref12_locals_ok x5 0 1 _ hx19)) ?_
   refine rq (out:=bh [(ab).val x19,Pr.i64 x20,(ac).val x21]) ag ?_
   refine rq (out:=(ab).val x19) ar ?_
   refine rq (out:=Pr.i64 x20) ar ?_
   refine rq (out:=(ac).val x21) ar ?_
   refine aq (R:=ab) (R':=ab) (a:=(ApiNode.mk 0 [] [] 0 0 0 0 0 [])) (y:=x19) 2 Tryz.sizeOf24 (Upd.refl _) ?_
   refine rq (out:=Pr.i64 x20) ae ?_
   refine aq (R:=ac) (R':=ac) (a:=(Ref12Wrong.mk 0 0)) (y:=x21) 3 Tryz.sizeOf59 (Upd.refl _) ?_
   exact⟨x20,x19,x21,h,⟨⟨aa,aa,aa,aa,aa,aa,trivial⟩,Pick.refl _⟩⟩
  replace h:=iteF hc18 h
  refine W_rs ?_
  refine rq (out:=Pr.i64 x2) ag ?_
  refine rq (out:=Pr.bool (x2==2)) qInt ?_
  refine rq (out:=Pr.bool (x2==2)) ae ?_
  refine ao (b:=x2==2) rfl (fun hc22=> ?_) (fun hc22=> ?_)
  ·replace h:=iteT hc22 h
   refine W_r ?_
   refine rq (out:=aj ah x5) ag ?_
   obtain⟨⟨x23,x24,x25⟩,hx23,h⟩:=af h
   refine rq (out:=bh [(ab).val x23,Pr.i64 x24,(ac).val x25]) (aw (ref12_statement_ok x5 0 1 _ hx23)) ?_
   refine rq (out:=bh [(ab).val x23,Pr.i64 x24,(ac).val x25]) ag ?_
   refine rq (out:=(ab).val x23) ar ?_
   refine rq (out:=Pr.i64 x24) ar ?_
   refine rq (out:=(ac).val x25) ar ?_
   refine aq (R:=ab) (R':=ab) (a:=(ApiNode.mk 0 [] [] 0 0 0 0 0 [])) (y:=x23) 2 Tryz.sizeOf24 (Upd.refl _) ?_
   refine rq (out:=Pr.i64 x24) ae ?_
   refine aq (R:=ac) (R':=ac) (a:=(Ref12Wrong.mk 0 0)) (y:=x25) 3 Tryz.sizeOf59 (Upd.refl _) ?_
   exact⟨x24,x23,x25,h,⟨⟨aa,aa,aa,aa,aa,aa,trivial⟩,Pick.refl _⟩⟩
  replace h:=iteF hc22 h
  refine W_r ?_
  refine rq (out:=aj ah x5) ag ?_
  obtain⟨⟨x26,x27,x28⟩,hx26,h⟩:=af h
  refine rq (out:=bh [(ab).val x26,Pr.i64 x27,(ac).val x28]) (aw (fp x5 0 1 _ hx26)) ?_
  refine rq (out:=bh [(ab).val x26,Pr.i64 x27,(ac).val x28]) ag ?_
  refine rq (out:=(ab).val x26) ar ?_
  refine rq (out:=Pr.i64 x27) ar ?_
  refine rq (out:=(ac).val x28) ar ?_
  refine aq (R:=ab) (R':=ab) (a:=(ApiNode.mk 0 [] [] 0 0 0 0 0 [])) (y:=x26) 2 Tryz.sizeOf24 (Upd.refl _) ?_
  refine rq (out:=Pr.i64 x27) ae ?_
  refine aq (R:=ac) (R':=ac) (a:=(Ref12Wrong.mk 0 0)) (y:=x28) 3 Tryz.sizeOf59 (Upd.refl _) ?_
  exact⟨x27,x26,x28,h,⟨⟨aa,aa,aa,aa,aa,aa,trivial⟩,Pick.refl _⟩⟩
 refine W_r ?_
 refine rq (out:=Pr.i64 x2) ag ?_
 refine rq (out:=Pr.bool (x2==2)) qInt ?_
 refine rq (out:=Pr.bool (x2==2)) ag ?_
 rcases bv h with⟨hc15,h⟩|⟨hc15,h⟩
 ·refine rqg hc15 (out:=aj ah x5) ag ?_
  obtain⟨x16,hx16,h⟩:=af h
  refine rqg hc15 (out:=Pr.bool x16) (aw (ref12_local_ok x5 0 _ hx16)) ?_
  refine rq (out:=Pr.bool x16) (bu hc15) ?_
  refine rq (out:=Pr.bool x16) ae ?_
  exact⟨x16,h,⟨⟨aa,aa,aa,aa,aa,aa,aa,trivial⟩,Pick.refl _⟩⟩
 refine rno (neT hc15) ?_
 refine rno (neT hc15) ?_
 refine rq (out:=Pr.bool false) (bp hc15) ?_
 refine rq (out:=Pr.bool false) ae ?_
 exact⟨false,h,⟨⟨aa,aa,aa,aa,aa,aa,aa,trivial⟩,Pick.refl _⟩⟩
theorem lcs_Numbers_ok (x1:List (List (List UInt8))) (r:(List (List Int))) (h:lcs_Numbers x1=some r):FnP Tryz.prog 68 [aj (a9 am) x1] (aj (a9 (Rp.int .i64)) r):=by
 refine bo (n:=49) (rs:=[2]) Tryz.func68 rfl Tryz.ntmps68 ⟨by decide,Tryz.results68⟩ (by decide) (fun s0=> ?_)
 unfold lcs_Numbers at h
 refine W_rs ?_
 refine rq (out:=Pr.is (.slice none 0 0)) ae ?_
 refine W_rs ?_
 refine rMakeMap (Rp.int .i64) (fun b2=> ?_)
 refine rq (out:=Pr.mp b2) ae ?_
 refine W_rs ?_
 refine rq (out:=Pr.is (.slice none 0 0)) ae ?_
 refine a5 ?_
 refine W_rs ?_
 refine rq (out:=aj (a9 am) x1) ag ?_
 refine rq (out:=Pr.i64 (x1.length:Int)) (fi rfl Tryz.underlying69) ?_
 refine rq (out:=Pr.i64 0) ag ?_
 refine az ?_
 obtain⟨z2l,hz2,h⟩:=af h
 obtain⟨n2,hN2⟩:=cc hz2
 clear hz2
 refine du 0 (fun e C=>∃(x5:SMap Int),∃(x6:List (List Int)),∃(v3:Value),lcs_Numbers_k1 x5 x6=some r/\At [(4,Pr.is v3)] [Own.smap b2 (Rp.int .i64) x5,Own.vec v3 (a9 (Rp.int .i64)) x6 71] e C) ?_ ?_
 ·rintro e C ⟨x5,x6,v3,h,hat1⟩
  refine W_at hat1 ?_
  clear hat1
  unfold lcs_Numbers_k1 at h
  refine W_rs ?_
  refine rq (out:=Pr.is v3) ag ?_
  refine rq (out:=Pr.is v3) ae ?_
  refine W_rel 1 [2] ?_ rfl ⟨rfl,trivial⟩
  obtain rfl:=Option.some.inj h
  exact a6 ⟨rfl,aa⟩
 refine W_nil [4] (a9 (Rp.int .i64)) 71 (fun v31=> ?_) ⟨rfl,trivial⟩
 refine eh (fun m e C=>∃(x4:Int),∃(x5:SMap Int),∃(x6:List (List Int)),∃(v3:Value),en (fun s=>gu x1 s.1 s.2.1 s.2.2) m (x4,x5,x6)=some z2l/\At [(3,Pr.mp b2),(4,Pr.is v3),(13,aj (a9 am) x1),(14,Pr.i64 (x1.length:Int)),(15,Pr.i64 x4)] [Own.smap b2 (Rp.int .i64) x5,Own.vec v3 (a9 (Rp.int .i64)) x6 71] e C) n2 ⟨0,([]:SMap Int),[],v31,hN2,⟨⟨aa,aa,aa,aa,aa,trivial⟩,Pick.refl _⟩⟩ ?_
 clear hN2
 rintro m e C ⟨x4,x5,x6,v3,hN2,hatl2⟩
 refine W_at hatl2 ?_
 clear hatl2
 obtain⟨m2,w2l,rfl,h2l,hn2,ho2⟩:=bx hN2
 clear hN2
 replace h2l:gu x1 x4 x5 x6=some w2l:=h2l
 unfold gu at h2l
 refine W_rs ?_
 refine rq (out:=Pr.bool (decide (x4<(x1.length:Int)))) qInt ?_
 refine a5 ?_
 refine ao (b:=decide (x4<(x1.length:Int))) rfl (fun hc11=> ?_) (fun hc11=> ?_)
 ·replace h2l:=iteT hc11 h2l
  refine au ?_
  refine a5 ?_
  refine az ?_
  refine W_rs ?_
  obtain⟨x12,hx12,h2l⟩:=af h2l
  refine rq (out:=bj (a9 am) x12) (ef (R:=a9 am) (l:=x1) Tryz.underlying69 Tryz.sizeOf25 hx12) ?_
  refine rq (out:=aj am x12) (c5 (R:=a9 am) (a:=x12) ty25) ?_
  refine rq (out:=aj am x12) ae ?_
  refine W_rs ?_
  refine rq (out:=Pr.is (.slice none 0 0)) ae ?_
  refine a5 ?_
  refine W_rs ?_
  refine rq (out:=aj am x12) ag ?_
  refine rq (out:=Pr.i64 (x12.length:Int)) (fi rfl Tryz.underlying25) ?_
  refine rq (out:=Pr.i64 0) ag ?_
  refine az ?_
  obtain⟨z4l,hz4,h2l⟩:=af h2l
  obtain⟨n4,hN4⟩:=cc hz4
  clear hz4
  refine du 2 (fun e C=>∃(x15:SMap Int),∃(x16:List Int),∃(v13:Value),lcs_Numbers_k3 x6 x4 x15 x16=some w2l/\At [(3,Pr.mp b2),(4,Pr.is v3),(7,Pr.is v13),(13,aj (a9 am) x1),(14,Pr.i64 (x1.length:Int)),(15,Pr.i64 x4)] [Own.smap b2 (Rp.int .i64) x15,Own.vec v3 (a9 (Rp.int .i64)) x6 71,Own.vec v13 (Rp.int .i64) x16 3] e C) ?_ ?_
  ·rintro e C ⟨x15,x16,v13,h2l,hat3⟩
   refine W_at hat3 ?_
   clear hat3
   unfold lcs_Numbers_k3 at h2l
   refine W_r ?_
   refine rq (out:=Pr.is v3) ag ?_
   refine rq (out:=Pr.is v13) ag ?_
   refine rRel 2 [7,44] ?_ rfl ⟨rfl,rfl,trivial⟩
   refine rq (out:=aj (a9 (Rp.int .i64)) ([x16]:List (List Int))) (cr (R:=a9 (Rp.int .i64)) (a:=x16) el67 (Nat.le_of_ble_eq_true rfl)) ?_
   obtain⟨x28,hx28,h2l⟩:=af h2l
   refine ip 1 el67 hx28 (fun v29=> ?_)
   refine rq (out:=Pr.is v29) ae ?_
   refine W_r ?_
   refine rq (out:=Pr.i64 (w64 (x4+1))) qInt ?_
   refine rq (out:=Pr.i64 (w64 (x4+1))) ag ?_
   exact⟨m2,Nat.lt_succ_self _,w64 (x4+1),x15,x28,v29,hn2 _ (Option.some.inj h2l).symm,⟨⟨aa,aa,aa,aa,aa,trivial⟩,Pick.refl _⟩⟩
  refine W_nil [7] (Rp.int .i64) 3 (fun v30=> ?_) ⟨rfl,trivial⟩
  refine eh (fun m e C=>∃(x14:Int),∃(x15:SMap Int),∃(x16:List Int),∃(v13:Value),en (fun s=>fx x12 s.1 s.2.1 s.2.2) m (x14,x15,x16)=some z4l/\At [(3,Pr.mp b2),(4,Pr.is v3),(7,Pr.is v13),(13,aj (a9 am) x1),(14,Pr.i64 (x1.length:Int)),(15,Pr.i64 x4),(19,aj am x12),(20,Pr.i64 (x12.length:Int)),(21,Pr.i64 x14)] [Own.smap b2 (Rp.int .i64) x15,Own.vec v3 (a9 (Rp.int .i64)) x6 71,Own.vec v13 (Rp.int .i64) x16 3] e C) n4 ⟨0,x5,[],v30,hN4,⟨⟨aa,aa,aa,aa,aa,aa,aa,aa,aa,trivial⟩,Pick.refl _⟩⟩ ?_
  clear hN4
  rintro m e C ⟨x14,x15,x16,v13,hN4,hatl4⟩
  refine W_at hatl4 ?_
  clear hatl4
  obtain⟨m4,w4l,rfl,h4l,hn4,ho4⟩:=bx hN4
  clear hN4
  replace h4l:fx x12 x14 x15 x16=some w4l:=h4l
  unfold fx at h4l
  refine W_rs ?_
  refine rq (out:=Pr.bool (decide (x14<(x12.length:Int)))) qInt ?_
  refine a5 ?_
  refine ao (b:=decide (x14<(x12.length:Int))) rfl (fun hc21=> ?_) (fun hc21=> ?_)
  ·replace h4l:=iteT hc21 h4l
   refine au ?_
   refine a5 ?_
   refine az ?_
   refine W_rs ?_
   obtain⟨x22,hx22,h4l⟩:=af h4l
   refine rq (out:=bj am x22) (ef (R:=am) (l:=x12) Tryz.underlying25 Tryz.sizeOf9 hx22) ?_
   refine rq (out:=ai x22) (c5 (R:=am) (a:=x22) ty9) ?_
   refine rq (out:=ai x22) ae ?_
   refine W_rs ?_
   refine rq (out:=Pr.mp b2) ag ?_
   refine rq (out:=ai x22) ag ?_
   refine rq (out:=bh [Pr.i64 (mget x22 0 x15),Pr.bool (mhas x22 x15)]) (qMapGet2 (R:=Rp.int .i64) (m:=x15) (kx:=x22) (z:=0) 0 Tryz.underlying104 Tryz.underlying9 Tryz.zeroValue3 (fun _=>rfl)) ?_
   refine rq (out:=bh [Pr.i64 (mget x22 0 x15),Pr.bool (mhas x22 x15)]) ag ?_
   refine rq (out:=Pr.i64 (mget x22 0 x15)) ar ?_
   refine rq (out:=Pr.bool (mhas x22 x15)) ar ?_
   refine rq (out:=Pr.i64 (mget x22 0 x15)) ae ?_
   refine rq (out:=Pr.bool (mhas x22 x15)) ae ?_
   refine bc (fun e C=>∃(x24:Int),∃(x25:SMap Int),k4 x16 x14 x24 x25=some w4l/\At [(3,Pr.mp b2),(4,Pr.is v3),(7,Pr.is v13),(10,Pr.i64 x24),(13,aj (a9 am) x1),(14,Pr.i64 (x1.length:Int)),(15,Pr.i64 x4),(19,aj am x12),(20,Pr.i64 (x12.length:Int)),(21,Pr.i64 x14)] [Own.smap b2 (Rp.int .i64) x25,Own.vec v3 (a9 (Rp.int .i64)) x6 71,Own.vec v13 (Rp.int .i64) x16 3] e C) ?_ ?_
   ·rintro e C ⟨x24,x25,h4l,hat5⟩
    refine W_at hat5 ?_
    clear hat5
    unfold k4 at h4l
    refine W_r ?_
    refine rq (out:=Pr.is v13) ag ?_
    refine rq (out:=Pr.i64 x24) ag ?_
    refine rq (out:=aj (Rp.int .i64) ([x24]:List Int)) (cr (R:=Rp.int .i64) (a:=x24) el71 (Nat.le_of_ble_eq_true rfl)) ?_
    obtain⟨x26,hx26,h4l⟩:=af h4l
    refine ip 2 el71 hx26 (fun v27=> ?_)
    refine rq (out:=Pr.is v27) ae ?_
    refine W_r ?_
    refine rq (out:=Pr.i64 (w64 (x14+1))) qInt ?_
    refine rq (out:=Pr.i64 (w64 (x14+1))) ag ?_
    exact⟨m4,Nat.lt_succ_self _,w64 (x14+1),x25,x26,v27,hn4 _ (Option.some.inj h4l).symm,⟨⟨aa,aa,aa,aa,aa,aa,aa,aa,aa,trivial⟩,Pick.refl _⟩⟩
   refine W_rs ?_
   refine rq (out:=Pr.bool (mhas x22 x15)) ag ?_
   refine rq (out:=Pr.bool (!(mhas x22 x15))) qNot ?_
   refine ao (b:= !(mhas x22 x15)) rfl (fun hc23=> ?_) (fun hc23=> ?_)
   ·replace h4l:=iteT hc23 h4l
    refine W_rs ?_
    refine rq (out:=Pr.mp b2) ag ?_
    refine rq (out:=Pr.i64 (x15.length:Int)) (qMapLen 0 rfl Tryz.underlying104) ?_
    refine rq (out:=Pr.i64 (x15.length:Int)) ae ?_
    refine W_r ?_
    refine rq (out:=Pr.mp b2) ag ?_
    refine rq (out:=ai x22) ag ?_
    refine rq (out:=Pr.i64 (x15.length:Int)) ag ?_
    refine rMapSet (R:=Rp.int .i64) (m:=x15) (kx:=x22) (v:=(x15.length:Int)) 0 Tryz.underlying104 Tryz.underlying9 ?_
    exact⟨(x15.length:Int),(mset x22 (x15.length:Int) x15),h4l,⟨⟨aa,aa,aa,aa,aa,aa,aa,aa,aa,aa,trivial⟩,Pick.refl _⟩⟩
   replace h4l:=iteF hc23 h4l
   refine au ?_
   exact⟨(mget x22 0 x15),x15,h4l,⟨⟨aa,aa,aa,aa,aa,aa,aa,aa,aa,aa,trivial⟩,Pick.refl _⟩⟩
  replace h4l:=iteF hc21 h4l
  refine dg ?_
  obtain rfl:=ho4 _ (Option.some.inj h4l).symm
  exact⟨x15,x16,v13,h2l,⟨⟨aa,aa,aa,aa,aa,aa,trivial⟩,Pick.refl _⟩⟩
 replace h2l:=iteF hc11 h2l
 refine dg ?_
 obtain rfl:=ho2 _ (Option.some.inj h2l).symm
 exact⟨x5,x6,v3,h,⟨⟨aa,trivial⟩,Pick.refl _⟩⟩
theorem lcs_none_ok (x1:Int) (r:(List Int)) (h:lcs_none x1=some r):FnC Tryz.prog 124 [Pr.i64 x1] [] (fun q C'=>∃u0,q=Pr.is u0/\C'=[Own.vec u0 (Rp.int .i64) r 3]):=by
 refine fnc_introP (n:=16) (rs:=[2]) Tryz.func124 rfl Tryz.ntmps124 ⟨by decide,Tryz.results124⟩ (by decide) (fun s0=> ?_)
 unfold lcs_none at h
 refine W_rs ?_
 refine rq (out:=Pr.is (.slice none 0 0)) ae ?_
 refine W_rs ?_
 refine rq (out:=Pr.i64 x1) ag ?_
 obtain⟨x2,hx2,h⟩:=af h
 refine rMake (R:=Rp.int .i64) (z:=0) el71 Tryz.zeroValue3 (fun _=>rfl) hx2 (fun v3=> ?_)
 refine rq (out:=Pr.is v3) ae ?_
 refine a5 ?_
 refine W_rs ?_
 refine rq (out:=Pr.i64 x1) ag ?_
 refine rq (out:=Pr.i64 0) ag ?_
 refine az ?_
 obtain⟨z2l,hz2,h⟩:=af h
 obtain⟨n2,hN2⟩:=cc hz2
 clear hz2
 refine du 0 (fun e C=>∃(x5:List Int),lcs_none_k1 x5=some r/\At [(3,Pr.is v3)] [Own.vec v3 (Rp.int .i64) x5 3] e C) ?_ ?_
 ·rintro e C ⟨x5,h,hat1⟩
  refine W_at hat1 ?_
  clear hat1
  unfold lcs_none_k1 at h
  refine W_rs ?_
  refine rq (out:=Pr.is v3) ag ?_
  refine rq (out:=Pr.is v3) ae ?_
  obtain rfl:=Option.some.inj h
  exact a6 ⟨.inl rfl,_,Pick.refl _,_,(aa),v3,rfl,rfl⟩
 refine eh (fun m e C=>∃(x4:Int),∃(x5:List Int),en (fun s=>ju x1 s.1 s.2) m (x4,x5)=some z2l/\At [(3,Pr.is v3),(7,Pr.i64 x1),(8,Pr.i64 x4)] [Own.vec v3 (Rp.int .i64) x5 3] e C) n2 ⟨0,(List.replicate x2 0),hN2,⟨⟨aa,aa,aa,trivial⟩,Pick.refl _⟩⟩ ?_
 clear hN2
 rintro m e C ⟨x4,x5,hN2,hatl2⟩
 refine W_at hatl2 ?_
 clear hatl2
 obtain⟨m2,w2l,rfl,h2l,hn2,ho2⟩:=bx hN2
 clear hN2
 replace h2l:ju x1 x4 x5=some w2l:=h2l
 unfold ju at h2l
 refine W_rs ?_
 refine rq (out:=Pr.bool (decide (x4<x1))) qInt ?_
 refine a5 ?_
 refine ao (b:=decide (x4<x1)) rfl (fun hc8=> ?_) (fun hc8=> ?_)
 ·replace h2l:=iteT hc8 h2l
  refine au ?_
  refine a5 ?_
  refine az ?_
  refine W_rs ?_
  refine rq (out:=Pr.i64 x4) ag ?_
  refine rq (out:=Pr.i64 x4) ae ?_
  refine W_r ?_
  refine rq (out:=Pr.is v3) ag ?_
  refine rq (out:=Pr.i64 x4) ag ?_
  obtain⟨x9,hx9,h2l⟩:=af h2l
  refine rq (out:=nq v3 (Int.toNat x4 * (Rp.int .i64).size)) (qIdxV 0 (R:=Rp.int .i64) (l:=x5) Tryz.underlying71 Tryz.sizeOf3 hx9) ?_
  refine rStoreE (R:=Rp.int .i64) (R':=Rp.int .i64) (l:=x5) (a:=x9) (y:=(-1)) (o:=0) 0 Tryz.sizeOf3 (Upd.refl _) hx9 rfl ?_
  refine W_r ?_
  refine rq (out:=Pr.i64 (w64 (x4+1))) qInt ?_
  refine rq (out:=Pr.i64 (w64 (x4+1))) ag ?_
  exact⟨m2,Nat.lt_succ_self _,w64 (x4+1),(List.set x5 (Int.toNat x4) (-1)),hn2 _ (Option.some.inj h2l).symm,⟨⟨aa,aa,aa,trivial⟩,Pick.refl _⟩⟩
 replace h2l:=iteF hc8 h2l
 refine dg ?_
 obtain rfl:=ho2 _ (Option.some.inj h2l).symm
 exact⟨x5,h,⟨⟨aa,trivial⟩,Pick.refl _⟩⟩
end Go.Proofs.YtgkcoicaopilhaaGreatDoor
