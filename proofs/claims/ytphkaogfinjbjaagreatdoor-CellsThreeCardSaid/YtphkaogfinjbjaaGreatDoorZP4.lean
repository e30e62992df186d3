/- The code comes to what these functions say (printed by wip/gen/gen.py). -/
import Derived.Test.YtphkaogfinjbjaaGreatDoorZP3
import Derived.Test.YtphkaogfinjbjaaGreatDoorZT
set_option linter.unusedSimpArgs false
set_option linter.unusedVariables false
set_option linter.unusedSectionVars false
set_option linter.unusedSectionVars false
set_option maxRecDepth 100000
set_option maxHeartbeats 4000000
namespace Go.Proofs.YtphkaogfinjbjaaGreatDoor
open Go Go.Cn
variable [Known]
theorem cells_three_ok (x1 x2 x3:List (List UInt8)) (r:(List (List UInt8)) × Int) (h:cells_three x1 x2 x3=some r):FnP Tryz.prog 31 [(aq 2 ab).val x1,(aq 2 ab).val x2,(aq 2 ab).val x3] (bn [(aq 2 ab).val r.1,Pr.i64 r.2]):=by
 refine fn_introR (n:=48) (rs:=[.cell 6 56,.tmp 7]) Tryz.func31 rfl Tryz.ntmps31 Tryz.results31 (by decide) (fun s0=> ?_)
 unfold cells_three at h
 refine W_rs ?_
 refine rBox (R:=aq 2 ab) (a:=x1) rfl (fun b4=> ?_)
 refine rBox (R:=aq 2 ab) (a:=x2) rfl (fun b5=> ?_)
 refine rBox (R:=aq 2 ab) (a:=x3) rfl (fun b6=> ?_)
 refine ml (R:=aq 2 ab) (z:=(List.replicate 2 [])) Tryz.zeroValue56 (fun _=>⟨_,⟨rfl,⟨_,_,rfl,rfl,⟨_,_,rfl,rfl,rfl⟩⟩⟩,rfl⟩) (fun b7=> ?_)
 refine rq (out:=Pr.i64 0) ae ?_
 refine aw ?_
 refine ar ?_
 refine W_rs ?_
 refine rq (out:=(aq 2 ab).val x2) (a9 (R:=aq 2 ab) (a:=x2) (R':=aq 2 ab) 1 ty56 (Sub.refl _)) ?_
 refine rq (out:=(aq 2 ab).val x3) (a9 (R:=aq 2 ab) (a:=x3) (R':=aq 2 ab) 2 ty56 (Sub.refl _)) ?_
 refine rq (out:=Pr.bool (decide (x2=x3))) (qStEq (R:=aq 2 ab) (a:=x2) (b:=x3) eqA56 (by decide) rfl eqg56) ?_
 refine rq (out:=Pr.bool (decide (x2=x3))) ae ?_
 refine au (b:=decide (x2=x3)) rfl (fun hc8=> ?_) (fun hc8=> ?_)
 ·replace h:=iteT hc8 h
  refine W_rs ?_
  refine rq (out:=(aq 2 ab).val x2) (a9 (R:=aq 2 ab) (a:=x2) (R':=aq 2 ab) 1 ty56 (Sub.refl _)) ?_
  refine ek (R:=aq 2 ab) (R':=aq 2 ab) (a:=(List.replicate 2 [])) (y:=x2) 3 Tryz.sizeOf56 (Upd.refl _) ?_
  refine rq (out:=Pr.i64 0) ae ?_
  obtain rfl:=Option.some.inj h
  exact bb ⟨rfl,[(aq 2 ab).val x2,Pr.i64 0],⟨yBox 3 ty56 aa,yT aa,trivial⟩,aa⟩
 replace h:=iteF hc8 h
 refine W_rs ?_
 refine rq (out:=(aq 2 ab).val x2) (a9 (R:=aq 2 ab) (a:=x2) (R':=aq 2 ab) 1 ty56 (Sub.refl _)) ?_
 refine rq (out:=(aq 2 ab).val x1) (a9 (R:=aq 2 ab) (a:=x1) (R':=aq 2 ab) 0 ty56 (Sub.refl _)) ?_
 refine rq (out:=Pr.bool (decide (x2=x1))) (qStEq (R:=aq 2 ab) (a:=x2) (b:=x1) eqA56 (by decide) rfl eqg56) ?_
 refine rq (out:=Pr.bool (decide (x2=x1))) ae ?_
 refine au (b:=decide (x2=x1)) rfl (fun hc9=> ?_) (fun hc9=> ?_)
 ·replace h:=iteT hc9 h
  refine W_rs ?_
  refine rq (out:=(aq 2 ab).val x3) (a9 (R:=aq 2 ab) (a:=x3) (R':=aq 2 ab) 2 ty56 (Sub.refl _)) ?_
  refine ek (R:=aq 2 ab) (R':=aq 2 ab) (a:=(List.replicate 2 [])) (y:=x3) 3 Tryz.sizeOf56 (Upd.refl _) ?_
  refine rq (out:=Pr.i64 0) ae ?_
  obtain rfl:=Option.some.inj h
  exact bb ⟨rfl,[(aq 2 ab).val x3,Pr.i64 0],⟨yBox 3 ty56 aa,yT aa,trivial⟩,aa⟩
 replace h:=iteF hc9 h
 refine W_rs ?_
 refine rq (out:=(aq 2 ab).val x3) (a9 (R:=aq 2 ab) (a:=x3) (R':=aq 2 ab) 2 ty56 (Sub.refl _)) ?_
 refine rq (out:=(aq 2 ab).val x1) (a9 (R:=aq 2 ab) (a:=x1) (R':=aq 2 ab) 0 ty56 (Sub.refl _)) ?_
 refine rq (out:=Pr.bool (decide (x3=x1))) (qStEq (R:=aq 2 ab) (a:=x3) (b:=x1) eqA56 (by decide) rfl eqg56) ?_
 refine rq (out:=Pr.bool (decide (x3=x1))) ae ?_
 refine au (b:=decide (x3=x1)) rfl (fun hc10=> ?_) (fun hc10=> ?_)
 ·replace h:=iteT hc10 h
  refine W_rs ?_
  refine rq (out:=(aq 2 ab).val x2) (a9 (R:=aq 2 ab) (a:=x2) (R':=aq 2 ab) 1 ty56 (Sub.refl _)) ?_
  refine ek (R:=aq 2 ab) (R':=aq 2 ab) (a:=(List.replicate 2 [])) (y:=x2) 3 Tryz.sizeOf56 (Upd.refl _) ?_
  refine rq (out:=Pr.i64 0) ae ?_
  obtain rfl:=Option.some.inj h
  exact bb ⟨rfl,[(aq 2 ab).val x2,Pr.i64 0],⟨yBox 3 ty56 aa,yT aa,trivial⟩,aa⟩
 replace h:=iteF hc10 h
 refine bg (fun e C=>∃(x14:Bool),ky x1 x2 x3 x14=some r/\At [(3,ap b4 0),(4,ap b5 0),(5,ap b6 0),(6,ap b7 0),(25,Pr.bool x14)] [Own.box b4 (aq 2 ab) x1,Own.box b5 (aq 2 ab) x2,Own.box b6 (aq 2 ab) x3,Own.box b7 (aq 2 ab) (List.replicate 2 [])] e C) ?_ ?_
 ·rintro e C ⟨x14,h,hat1⟩
  refine W_at hat1 ?_
  clear hat1
  unfold ky at h
  refine au (b:=x14) rfl (fun hc15=> ?_) (fun hc15=> ?_)
  ·replace h:=iteT hc15 h
   refine W_rs ?_
   refine rq (out:=(aq 2 ab).val (List.replicate 2 [])) (qBuildZ (R:=ab) (z:=(List.replicate 2 [])) Tryz.underlying56 Tryz.zeroValue56 (fun _=>⟨_,⟨rfl,⟨_,_,rfl,rfl,⟨_,_,rfl,rfl,rfl⟩⟩⟩,rfl⟩) Tryz.sizeOf9) ?_
   refine ek (R:=aq 2 ab) (R':=aq 2 ab) (a:=(List.replicate 2 [])) (y:=(List.replicate 2 [])) 3 Tryz.sizeOf56 (Upd.refl _) ?_
   refine rq (out:=Pr.i64 3) ae ?_
   obtain rfl:=Option.some.inj h
   exact bb ⟨rfl,[(aq 2 ab).val (List.replicate 2 []),Pr.i64 3],⟨yBox 3 ty56 aa,yT aa,trivial⟩,aa⟩
  replace h:=iteF hc15 h
  refine av ?_
  refine W_rs ?_
  obtain⟨x16,hx16,h⟩:=ah h
  refine rq (out:=ap b4 (x16 * 1)) (nm Tryz.underlying56 Tryz.sizeOf9 hx16) ?_
  refine rq (out:=aj (List.getD x1 x16 [])) (a9 (R:=aq 2 ab) (a:=x1) (R':=ab) 0 ty9 (Sub.arr [] (di hx16))) ?_
  obtain⟨x17,hx17,h⟩:=ah h
  refine rq (out:=ap b5 (x17 * 1)) (nm Tryz.underlying56 Tryz.sizeOf9 hx17) ?_
  refine rq (out:=aj (List.getD x2 x17 [])) (a9 (R:=aq 2 ab) (a:=x2) (R':=ab) 1 ty9 (Sub.arr [] (di hx17))) ?_
  obtain⟨x18,hx18,h⟩:=ah h
  refine rq (out:=ap b6 (x18 * 1)) (nm Tryz.underlying56 Tryz.sizeOf9 hx18) ?_
  refine rq (out:=aj (List.getD x3 x18 [])) (a9 (R:=aq 2 ab) (a:=x3) (R':=ab) 2 ty9 (Sub.arr [] (di hx18))) ?_
  obtain⟨⟨x19,x20⟩,hx19,h⟩:=ah h
  refine rq (out:=bn [aj x19,Pr.bool x20]) (br (weave_Text_ok (List.getD x1 x16 []) (List.getD x2 x17 []) (List.getD x3 x18 []) _ hx19)) ?_
  refine rq (out:=bn [aj x19,Pr.bool x20]) ag ?_
  refine rq (out:=aj x19) a6 ?_
  refine rq (out:=Pr.bool x20) a6 ?_
  refine rq (out:=aj x19) ae ?_
  refine rq (out:=Pr.bool x20) ae ?_
  refine aw ?_
  refine W_rs ?_
  refine rq (out:=Pr.bool x20) ag ?_
  refine rq (out:=Pr.bool (!x20)) qNot ?_
  refine au (b:= !x20) rfl (fun hc21=> ?_) (fun hc21=> ?_)
  ·replace h:=iteT hc21 h
   refine W_rs ?_
   refine rq (out:=(aq 2 ab).val (List.replicate 2 [])) (qBuildZ (R:=ab) (z:=(List.replicate 2 [])) Tryz.underlying56 Tryz.zeroValue56 (fun _=>⟨_,⟨rfl,⟨_,_,rfl,rfl,⟨_,_,rfl,rfl,rfl⟩⟩⟩,rfl⟩) Tryz.sizeOf9) ?_
   refine ek (R:=aq 2 ab) (R':=aq 2 ab) (a:=(List.replicate 2 [])) (y:=(List.replicate 2 [])) 3 Tryz.sizeOf56 (Upd.refl _) ?_
   refine rq (out:=Pr.i64 1) ae ?_
   obtain rfl:=Option.some.inj h
   exact bb ⟨rfl,[(aq 2 ab).val (List.replicate 2 []),Pr.i64 1],⟨yBox 3 ty56 aa,yT aa,trivial⟩,aa⟩
  replace h:=iteF hc21 h
  refine av ?_
  refine W_rs ?_
  refine rq (out:=aj x19) ag ?_
  obtain⟨x22,hx22,h⟩:=ah h
  refine rq (out:=(aq 2 ab).val x22) (br (cells_of_ok x19 true _ hx22)) ?_
  refine ek (R:=aq 2 ab) (R':=aq 2 ab) (a:=(List.replicate 2 [])) (y:=x22) 3 Tryz.sizeOf56 (Upd.refl _) ?_
  refine rq (out:=Pr.i64 0) ae ?_
  obtain rfl:=Option.some.inj h
  exact bb ⟨rfl,[(aq 2 ab).val x22,Pr.i64 0],⟨yBox 3 ty56 aa,yT aa,trivial⟩,aa⟩
 refine W_rs ?_
 refine rq (out:=(aq 2 ab).val x2) (a9 (R:=aq 2 ab) (a:=x2) (R':=aq 2 ab) 1 ty56 (Sub.refl _)) ?_
 obtain⟨x11,hx11,h⟩:=ah h
 refine rq (out:=Pr.bool x11) (br (gz x2 _ hx11)) ?_
 refine rq (out:=Pr.bool (!x11)) qNot ?_
 refine rq (out:=Pr.bool (!x11)) ae ?_
 refine au (b:= !x11) rfl (fun hc12=> ?_) (fun hc12=> ?_)
 ·replace h:=iteT hc12 h
  refine av ?_
  exact⟨!x11,h,⟨⟨aa,aa,aa,aa,aa,trivial⟩,Pick.refl _⟩⟩
 replace h:=iteF hc12 h
 refine W_r ?_
 refine rq (out:=(aq 2 ab).val x3) (a9 (R:=aq 2 ab) (a:=x3) (R':=aq 2 ab) 2 ty56 (Sub.refl _)) ?_
 obtain⟨x13,hx13,h⟩:=ah h
 refine rq (out:=Pr.bool x13) (br (gz x3 _ hx13)) ?_
 refine rq (out:=Pr.bool (!x13)) qNot ?_
 refine rq (out:=Pr.bool (!x13)) ae ?_
 exact⟨!x13,h,⟨⟨aa,aa,aa,aa,aa,trivial⟩,Pick.refl _⟩⟩
theorem cells_Texts_ok (x1 x2 x3:List ApiSegment) (r:(List ApiSegment) × (List ApiConflict)) (h:cells_Texts x1 x2 x3=some r):FnC Tryz.prog 12 [af ak x1,af ak x2,af ak x3] [] (fun q C'=>∃u0,q=bn [af ak r.1,Pr.is u0]/\C'=[Own.vec u0 cp r.2 46]):=by
 refine fj (n:=66) (rs:=[6,7]) Tryz.func12 rfl Tryz.ntmps12 ⟨by decide,Tryz.results12⟩ (by decide) (fun s0=> ?_)
 unfold cells_Texts at h
 refine W_rs ?_
 refine rq (out:=Pr.is (.slice none 0 0)) ae ?_
 refine rq (out:=Pr.is (.slice none 0 0)) ae ?_
 refine W_rs ?_
 refine rq (out:=af ak x1) ag ?_
 obtain⟨x4,hx4,h⟩:=ah h
 refine rq (out:=eq (aq 2 ab) x4) (br (cells_table_ok x1 _ hx4)) ?_
 refine rq (out:=af ak x2) ag ?_
 obtain⟨x5,hx5,h⟩:=ah h
 refine rq (out:=eq (aq 2 ab) x5) (br (cells_table_ok x2 _ hx5)) ?_
 refine rq (out:=af ak x3) ag ?_
 obtain⟨x6,hx6,h⟩:=ah h
 refine rq (out:=eq (aq 2 ab) x6) (br (cells_table_ok x3 _ hx6)) ?_
 refine rq (out:=eq (aq 2 ab) x4) ae ?_
 refine rq (out:=eq (aq 2 ab) x5) ae ?_
 refine rq (out:=eq (aq 2 ab) x6) ae ?_
 refine W_rs ?_
 refine rq (out:=Pr.is (.slice none 0 0)) ae ?_
 refine W_rs ?_
 refine rq (out:=Pr.is (.slice none 0 0)) ae ?_
 refine aw ?_
 refine W_rs ?_
 refine rq (out:=af ak x2) ag ?_
 refine rq (out:=af ak x1) ag ?_
 refine rq (out:=af ak x3) ag ?_
 refine rq (out:=af (ai ak) ([x2,x1,x3]:List (List ApiSegment))) (fm (R:=ai ak) (ls:=([x2,x1,x3]:List (List ApiSegment))) el73 (Nat.le_of_ble_eq_true rfl) ⟨rfl,rfl⟩ ⟨rfl,rfl,rfl,trivial⟩) ?_
 obtain⟨x7,hx7,h⟩:=ah h
 refine rq (out:=af ab x7) (br (cells_keys_ok ([x2,x1,x3]:List (List ApiSegment)) _ hx7)) ?_
 refine rq (out:=Pr.i64 (x7.length:Int)) (cl rfl Tryz.underlying33) ?_
 refine rq (out:=Pr.i64 0) ag ?_
 refine ar ?_
 obtain⟨z2l,hz2,h⟩:=ah h
 obtain⟨n2,hN2⟩:=a4 hz2
 clear hz2
 refine bp 0 (fun e C=>∃(x11:List ApiSegment),∃(x12:List ApiConflict),∃(v8:Value),∃(v9:Value),cells_Texts_k1 x11 x12=some r/\At [(11,Pr.is v8),(12,Pr.is v9)] [Own.vec v8 ak x11 38,Own.vec v9 cp x12 46] e C) ?_ ?_
 ·rintro e C ⟨x11,x12,v8,v9,h,hat1⟩
  refine W_at hat1 ?_
  clear hat1
  unfold cells_Texts_k1 at h
  refine W_rs ?_
  refine rq (out:=Pr.is v8) ag ?_
  refine rq (out:=Pr.is v9) ag ?_
  refine rq (out:=Pr.is v8) ae ?_
  refine rq (out:=Pr.is v9) ae ?_
  refine W_rel 0 [6] ?_ rfl ⟨rfl,trivial⟩
  obtain rfl:=Option.some.inj h
  exact bb ⟨.inl rfl,_,Pick.refl _,_,(aa),v9,rfl,rfl⟩
 refine W_nil [11] ak 38 (fun v35=> ?_) ⟨rfl,trivial⟩
 refine W_nil [12] cp 46 (fun v36=> ?_) ⟨rfl,trivial⟩
 refine cd (fun m e C=>∃(x10:Int),∃(x11:List ApiSegment),∃(x12:List ApiConflict),∃(v8:Value),∃(v9:Value),cz (fun s=>cells_Texts_l2 x7 x4 x5 x6 s.1 s.2.1 s.2.2) m (x10,x11,x12)=some z2l/\At [(8,eq (aq 2 ab) x4),(9,eq (aq 2 ab) x5),(10,eq (aq 2 ab) x6),(11,Pr.is v8),(12,Pr.is v9),(27,af ab x7),(28,Pr.i64 (x7.length:Int)),(29,Pr.i64 x10)] [Own.vec v8 ak x11 38,Own.vec v9 cp x12 46] e C) n2 ⟨0,[],[],v35,v36,hN2,⟨⟨aa,aa,aa,aa,aa,aa,aa,aa,trivial⟩,Pick.refl _⟩⟩ ?_
 clear hN2
 rintro m e C ⟨x10,x11,x12,v8,v9,hN2,hatl2⟩
 refine W_at hatl2 ?_
 clear hatl2
 obtain⟨m2,w2l,rfl,h2l,hn2,ho2⟩:=ay hN2
 clear hN2
 replace h2l:cells_Texts_l2 x7 x4 x5 x6 x10 x11 x12=some w2l:=h2l
 unfold cells_Texts_l2 at h2l
 refine W_rs ?_
 refine rq (out:=Pr.bool (decide (x10<(x7.length:Int)))) qInt ?_
 refine aw ?_
 refine au (b:=decide (x10<(x7.length:Int))) rfl (fun hc18=> ?_) (fun hc18=> ?_)
 ·replace h2l:=iteT hc18 h2l
  refine av ?_
  refine bg (fun e C=>∃(x34:List ApiSegment),∃(x27:List ApiConflict),∃(x20:List (List UInt8)),∃(v33:Value),∃(v26:Value),∃(b22:Nat),cells_Texts_j3 x10 x34 x27 x20=some w2l/\At [(8,eq (aq 2 ab) x4),(9,eq (aq 2 ab) x5),(10,eq (aq 2 ab) x6),(11,Pr.is v33),(12,Pr.is v26),(27,af ab x7),(28,Pr.i64 (x7.length:Int)),(29,Pr.i64 x10)] [Own.vec v33 ak x34 38,Own.vec v26 cp x27 46,Own.box b22 (aq 2 ab) x20] e C) ?_ ?_
  ·rintro e C ⟨x34,x27,x20,v33,v26,b22,h2l,hat3⟩
   refine W_at hat3 ?_
   clear hat3
   unfold cells_Texts_j3 at h2l
   refine W_r ?_
   refine rq (out:=Pr.i64 (w64 (x10+1))) qInt ?_
   refine rq (out:=Pr.i64 (w64 (x10+1))) ag ?_
   exact⟨m2,Nat.lt_succ_self _,w64 (x10+1),x34,x27,v33,v26,hn2 _ (Option.some.inj h2l).symm,⟨⟨aa,aa,aa,aa,aa,aa,aa,aa,trivial⟩,Pick.of [0,1] rfl⟩⟩
  refine ar ?_
  refine W_rs ?_
  obtain⟨x19,hx19,h2l⟩:=ah h2l
  refine rq (out:=a5 ab x19) (cr (R:=ab) (l:=x7) Tryz.underlying33 Tryz.sizeOf9 hx19) ?_
  refine rq (out:=aj x19) (bl (R:=ab) (a:=x19) ty9) ?_
  refine rq (out:=aj x19) ae ?_
  refine W_rs ?_
  refine rq (out:=eq (aq 2 ab) x4) ag ?_
  refine rq (out:=aj x19) ag ?_
  refine rq (out:=(aq 2 ab).val (mget x19 (List.replicate 2 []) x4)) (qMapGetS (R:=aq 2 ab) (m:=x4) (kx:=x19) (z:=(List.replicate 2 [])) Tryz.underlying51 Tryz.underlying9 Tryz.zeroValue56 (fun _=>⟨_,⟨rfl,⟨_,_,rfl,rfl,⟨_,_,rfl,rfl,rfl⟩⟩⟩,rfl⟩)) ?_
  refine rq (out:=eq (aq 2 ab) x5) ag ?_
  refine rq (out:=aj x19) ag ?_
  refine rq (out:=(aq 2 ab).val (mget x19 (List.replicate 2 []) x5)) (qMapGetS (R:=aq 2 ab) (m:=x5) (kx:=x19) (z:=(List.replicate 2 [])) Tryz.underlying51 Tryz.underlying9 Tryz.zeroValue56 (fun _=>⟨_,⟨rfl,⟨_,_,rfl,rfl,⟨_,_,rfl,rfl,rfl⟩⟩⟩,rfl⟩)) ?_
  refine rq (out:=eq (aq 2 ab) x6) ag ?_
  refine rq (out:=aj x19) ag ?_
  refine rq (out:=(aq 2 ab).val (mget x19 (List.replicate 2 []) x6)) (qMapGetS (R:=aq 2 ab) (m:=x6) (kx:=x19) (z:=(List.replicate 2 [])) Tryz.underlying51 Tryz.underlying9 Tryz.zeroValue56 (fun _=>⟨_,⟨rfl,⟨_,_,rfl,rfl,⟨_,_,rfl,rfl,rfl⟩⟩⟩,rfl⟩)) ?_
  obtain⟨⟨x20,x21⟩,hx20,h2l⟩:=ah h2l
  refine rq (out:=bn [(aq 2 ab).val x20,Pr.i64 x21]) (br (cells_three_ok (mget x19 (List.replicate 2 []) x4) (mget x19 (List.replicate 2 []) x5) (mget x19 (List.replicate 2 []) x6) _ hx20)) ?_
  refine rq (out:=bn [(aq 2 ab).val x20,Pr.i64 x21]) ag ?_
  refine rq (out:=(aq 2 ab).val x20) a6 ?_
  refine rq (out:=Pr.i64 x21) a6 ?_
  refine ml (R:=aq 2 ab) (z:=(List.replicate 2 [])) Tryz.zeroValue56 (fun _=>⟨_,⟨rfl,⟨_,_,rfl,rfl,⟨_,_,rfl,rfl,rfl⟩⟩⟩,rfl⟩) (fun b22=> ?_)
  refine ek (R:=aq 2 ab) (R':=aq 2 ab) (a:=(List.replicate 2 [])) (y:=x20) 2 Tryz.sizeOf56 (Upd.refl _) ?_
  refine rq (out:=Pr.i64 x21) ae ?_
  refine bg (fun e C=>∃(x27:List ApiConflict),∃(v26:Value),cells_Texts_j4 x20 x11 x19 x10 x27=some w2l/\At [(8,eq (aq 2 ab) x4),(9,eq (aq 2 ab) x5),(10,eq (aq 2 ab) x6),(11,Pr.is v8),(12,Pr.is v26),(14,aj x19),(15,ap b22 0),(27,af ab x7),(28,Pr.i64 (x7.length:Int)),(29,Pr.i64 x10)] [Own.vec v8 ak x11 38,Own.vec v26 cp x27 46,Own.box b22 (aq 2 ab) x20] e C) ?_ ?_
  ·rintro e C ⟨x27,v26,h2l,hat4⟩
   refine W_at hat4 ?_
   clear hat4
   unfold cells_Texts_j4 at h2l
   refine W_rs ?_
   refine rq (out:=(aq 2 ab).val x20) (a9 (R:=aq 2 ab) (a:=x20) (R':=aq 2 ab) 2 ty56 (Sub.refl _)) ?_
   obtain⟨x28,hx28,h2l⟩:=ah h2l
   refine rq (out:=Pr.bool x28) (br (gz x20 _ hx28)) ?_
   refine au (b:=x28) rfl (fun hc29=> ?_) (fun hc29=> ?_)
   ·replace h2l:=iteT hc29 h2l
    refine W_r ?_
    refine rq (out:=Pr.is v8) ag ?_
    refine rq (out:=aj x19) ag ?_
    obtain⟨x30,hx30,h2l⟩:=ah h2l
    refine rq (out:=ap b22 (x30 * 1)) (nm Tryz.underlying56 Tryz.sizeOf9 hx30) ?_
    refine rq (out:=aj (List.getD x20 x30 [])) (a9 (R:=aq 2 ab) (a:=x20) (R':=ab) 2 ty9 (Sub.arr [] (di hx30))) ?_
    refine rq (out:=(ak).val (ApiSegment.mk x19 (List.getD x20 x30 []))) (ja st38 ⟨(ApiSegment.mk x19 []),⟨_,rfl,rfl,fun j fd hj hf=>by match j,hj with| 0,h=>exact absurd rfl h| 1,_=>cases hf;rfl|_+2,_=>cases hf⟩,⟨(ApiSegment.mk x19 (List.getD x20 x30 [])),⟨_,rfl,rfl,fun j fd hj hf=>by match j,hj with| 0,_=>cases hf;rfl| 1,h=>exact absurd rfl h|_+2,_=>cases hf⟩,rfl⟩⟩) ?_
    refine rq (out:=af ak ([(ApiSegment.mk x19 (List.getD x20 x30 []))]:List ApiSegment)) (bh (R:=ak) (a:=(ApiSegment.mk x19 (List.getD x20 x30 []))) el22 (Nat.le_of_ble_eq_true rfl)) ?_
    obtain⟨x31,hx31,h2l⟩:=ah h2l
    refine cu 0 el22 hx31 (fun v32=> ?_)
    refine rq (out:=Pr.is v32) ae ?_
    exact⟨x31,x27,x20,v32,v26,b22,h2l,⟨⟨aa,aa,aa,aa,aa,aa,aa,aa,trivial⟩,Pick.refl _⟩⟩
   replace h2l:=iteF hc29 h2l
   refine av ?_
   exact⟨x11,x27,x20,v8,v26,b22,h2l,⟨⟨aa,aa,aa,aa,aa,aa,aa,aa,trivial⟩,Pick.refl _⟩⟩
  refine W_rs ?_
  refine rq (out:=Pr.i64 x21) ag ?_
  refine rq (out:=Pr.bool (x21 != 0)) qInt ?_
  refine au (b:=x21 != 0) rfl (fun hc23=> ?_) (fun hc23=> ?_)
  ·replace h2l:=iteT hc23 h2l
   refine W_r ?_
   refine rq (out:=Pr.is v9) ag ?_
   refine rq (out:=Pr.i64 x21) ag ?_
   refine rq (out:=aj x19) ag ?_
   refine rq (out:=(cp).val (ApiConflict.mk x21 x19)) (ja st46 ⟨(ApiConflict.mk x21 []),⟨_,rfl,rfl,fun j fd hj hf=>by match j,hj with| 0,h=>exact absurd rfl h| 1,_=>cases hf;rfl|_+2,_=>cases hf⟩,⟨(ApiConflict.mk x21 x19),⟨_,rfl,rfl,fun j fd hj hf=>by match j,hj with| 0,_=>cases hf;rfl| 1,h=>exact absurd rfl h|_+2,_=>cases hf⟩,rfl⟩⟩) ?_
   refine rq (out:=af cp ([(ApiConflict.mk x21 x19)]:List ApiConflict)) (bh (R:=cp) (a:=(ApiConflict.mk x21 x19)) el25 (Nat.le_of_ble_eq_true rfl)) ?_
   obtain⟨x24,hx24,h2l⟩:=ah h2l
   refine cu 1 el25 hx24 (fun v25=> ?_)
   refine rq (out:=Pr.is v25) ae ?_
   exact⟨x24,v25,h2l,⟨⟨aa,aa,aa,aa,aa,aa,aa,aa,aa,aa,trivial⟩,Pick.refl _⟩⟩
  replace h2l:=iteF hc23 h2l
  refine av ?_
  exact⟨x12,v9,h2l,⟨⟨aa,aa,aa,aa,aa,aa,aa,aa,aa,aa,trivial⟩,Pick.refl _⟩⟩
 replace h2l:=iteF hc18 h2l
 refine bw ?_
 obtain rfl:=ho2 _ (Option.some.inj h2l).symm
 exact⟨x11,x12,v8,v9,h,⟨⟨aa,aa,trivial⟩,Pick.refl _⟩⟩
theorem cells_woven_ok (x1 x2 x3:List (List UInt8)) (r:(List (List UInt8)) × Bool) (h:cells_woven x1 x2 x3=some r):FnP Tryz.prog 41 [af ab x1,af ab x2,af ab x3] (bn [af ab r.1,Pr.bool r.2]):=by
 refine a7 (n:=68) (rs:=[6,7]) Tryz.func41 rfl Tryz.ntmps41 ⟨by decide,Tryz.results41⟩ (by decide) (fun s0=> ?_)
 unfold cells_woven at h
 refine W_rs ?_
 refine rq (out:=Pr.is (.slice none 0 0)) ae ?_
 refine rq (out:=Pr.bool false) ae ?_
 refine W_rs ?_
 refine rq (out:=Pr.is (.slice none 0 0)) ae ?_
 refine aw ?_
 refine W_rs ?_
 refine rq (out:=af ab x1) ag ?_
 refine rq (out:=af ab x2) ag ?_
 refine rq (out:=af ab x3) ag ?_
 obtain⟨x4,hx4,h⟩:=ah h
 refine rq (out:=af ao x4) (br (diff3_Parts_ok x1 x2 x3 _ hx4)) ?_
 refine rq (out:=Pr.i64 (x4.length:Int)) (cl rfl Tryz.underlying66) ?_
 refine rq (out:=Pr.i64 0) ag ?_
 refine ar ?_
 obtain⟨z2l,hz2,h⟩:=ah h
 obtain⟨n2,hN2⟩:=a4 hz2
 clear hz2
 refine bp 0 (fun e C=>∃(x7:List (List UInt8)),∃(v5:Value),cells_woven_k1 x7=some r/\At [(8,Pr.is v5)] [Own.vec v5 ab x7 9] e C) ?_ ?_
 ·rintro e C ⟨x7,v5,h,hat1⟩
  refine W_at hat1 ?_
  clear hat1
  unfold cells_woven_k1 at h
  refine W_rs ?_
  refine rq (out:=Pr.is v5) ag ?_
  refine rq (out:=Pr.is v5) ae ?_
  refine rq (out:=Pr.bool true) ae ?_
  refine W_rel 0 [6] ?_ rfl ⟨rfl,trivial⟩
  obtain rfl:=Option.some.inj h
  exact bb ⟨rfl,aa⟩
 refine W_nil [8] ab 9 (fun v33=> ?_) ⟨rfl,trivial⟩
 refine cd (fun m e C=>∃(x6:Int),∃(x7:List (List UInt8)),∃(v5:Value),cz (fun s=>fw x4 x2 x3 s.1 s.2) m (x6,x7)=some z2l/\At [(1,af ab x2),(2,af ab x3),(8,Pr.is v5),(16,af ao x4),(17,Pr.i64 (x4.length:Int)),(18,Pr.i64 x6)] [Own.vec v5 ab x7 9] e C) n2 ⟨0,[],v33,hN2,⟨⟨aa,aa,aa,aa,aa,aa,trivial⟩,Pick.refl _⟩⟩ ?_
 clear hN2
 rintro m e C ⟨x6,x7,v5,hN2,hatl2⟩
 refine W_at hatl2 ?_
 clear hatl2
 obtain⟨m2,w2l,rfl,h2l,hn2,ho2⟩:=ay hN2
 clear hN2
 replace h2l:fw x4 x2 x3 x6 x7=some w2l:=h2l
 unfold fw at h2l
 refine W_rs ?_
 refine rq (out:=Pr.bool (decide (x6<(x4.length:Int)))) qInt ?_
 refine aw ?_
 refine au (b:=decide (x6<(x4.length:Int))) rfl (fun hc11=> ?_) (fun hc11=> ?_)
 ·replace h2l:=iteT hc11 h2l
  refine av ?_
  refine bg (fun e C=>∃(x32:List (List UInt8)),∃(x12:ApiChunk),∃(v31:Value),∃(b13:Nat),kw x6 x32 x12=some w2l/\At [(1,af ab x2),(2,af ab x3),(8,Pr.is v31),(16,af ao x4),(17,Pr.i64 (x4.length:Int)),(18,Pr.i64 x6)] [Own.vec v31 ab x32 9,Own.box b13 ao x12] e C) ?_ ?_
  ·rintro e C ⟨x32,x12,v31,b13,h2l,hat3⟩
   refine W_at hat3 ?_
   clear hat3
   unfold kw at h2l
   refine W_r ?_
   refine rq (out:=Pr.i64 (w64 (x6+1))) qInt ?_
   refine rq (out:=Pr.i64 (w64 (x6+1))) ag ?_
   exact⟨m2,Nat.lt_succ_self _,w64 (x6+1),x32,v31,hn2 _ (Option.some.inj h2l).symm,⟨⟨aa,aa,aa,aa,aa,aa,trivial⟩,Pick.of [0] rfl⟩⟩
  refine ar ?_
  refine W_rs ?_
  obtain⟨x12,hx12,h2l⟩:=ah h2l
  refine rq (out:=a5 ao x12) (cr (R:=ao) (l:=x4) Tryz.underlying66 Tryz.sizeOf71 hx12) ?_
  refine rq (out:=(ao).val x12) (bl (R:=ao) (a:=x12) ty71) ?_
  refine ml (R:=ao) (z:=(ApiChunk.mk 0 (ApiSpan.mk 0 0) (ApiSpan.mk 0 0) (ApiSpan.mk 0 0))) Tryz.zeroValue71 (fun _=>⟨_,⟨_,_,rfl,rfl,⟨_,_,rfl,⟨_,_,rfl,rfl,⟨_,_,rfl,rfl,rfl⟩⟩,⟨_,_,rfl,⟨_,_,rfl,rfl,⟨_,_,rfl,rfl,rfl⟩⟩,⟨_,_,rfl,⟨_,_,rfl,rfl,⟨_,_,rfl,rfl,rfl⟩⟩,rfl⟩⟩⟩⟩,rfl⟩) (fun b13=> ?_)
  refine ek (R:=ao) (R':=ao) (a:=(ApiChunk.mk 0 (ApiSpan.mk 0 0) (ApiSpan.mk 0 0) (ApiSpan.mk 0 0))) (y:=x12) 1 Tryz.sizeOf71 (Upd.refl _) ?_
  refine bg (fun e C=>∃(x15:List (List UInt8)),∃(x14:List (List UInt8)),∃(b16:Nat),cells_woven_j4 x12 x7 x6 x15 x14=some w2l/\At [(1,af ab x2),(2,af ab x3),(8,Pr.is v5),(10,ap b13 0),(11,ap b16 0),(12,af ab x15),(16,af ao x4),(17,Pr.i64 (x4.length:Int)),(18,Pr.i64 x6)] [Own.vec v5 ab x7 9,Own.box b13 ao x12,Own.box b16 (ai ab) x14] e C) ?_ ?_
  ·rintro e C ⟨x15,x14,b16,h2l,hat4⟩
   refine W_at hat4 ?_
   clear hat4
   unfold cells_woven_j4 at h2l
   refine W_rs ?_
   refine rq (out:=ap b13 0) (ax fld71_0) ?_
   refine rq (out:=Pr.i64 x12.Kind) (a9 (R:=ao) (a:=x12) (R':=Rp.int .i64) 1 ty3 eb) ?_
   refine ar ?_
   refine W_rs ?_
   refine rq (out:=Pr.bool (x12.Kind==2)) qInt ?_
   refine rq (out:=Pr.bool (x12.Kind==2)) ae ?_
   refine au (b:=x12.Kind==2) rfl (fun hc17=> ?_) (fun hc17=> ?_)
   ·replace h2l:=iteT hc17 h2l
    refine W_r ?_
    refine rq (out:=Pr.is v5) ag ?_
    refine rq (out:=af ab x15) ag ?_
    obtain⟨x18,hx18,h2l⟩:=ah h2l
    refine cu 0 el33 hx18 (fun v19=> ?_)
    refine rq (out:=Pr.is v19) ae ?_
    exact⟨x18,x12,v19,b13,h2l,⟨⟨aa,aa,aa,aa,aa,aa,trivial⟩,Pick.of [0,1] rfl⟩⟩
   replace h2l:=iteF hc17 h2l
   refine W_rs ?_
   refine rq (out:=Pr.bool (x12.Kind==4)) qInt ?_
   refine rq (out:=Pr.bool (x12.Kind==4)) ae ?_
   refine au (b:=x12.Kind==4) rfl (fun hc20=> ?_) (fun hc20=> ?_)
   ·replace h2l:=iteT hc20 h2l
    refine aw ?_
    refine W_rs ?_
    refine rq (out:=ap b13 1) (ax fld71_1) ?_
    refine rq (out:=ap b13 1) (ax fld69_0) ?_
    refine rq (out:=Pr.i64 x12.O.From) (a9 (R:=ao) (a:=x12) (R':=Rp.int .i64) 1 ty3 (iq.trans c5 (Nat.le_of_ble_eq_true rfl))) ?_
    refine rq (out:=ap b13 1) (ax fld71_1) ?_
    refine rq (out:=ap b13 2) (ax fld69_1) ?_
    refine rq (out:=Pr.i64 x12.O.To) (a9 (R:=ao) (a:=x12) (R':=Rp.int .i64) 1 ty3 (iq.trans dp (Nat.le_of_ble_eq_true rfl))) ?_
    refine rq (out:=Pr.bool (decide (x12.O.From<x12.O.To))) qInt ?_
    refine au (b:=decide (x12.O.From<x12.O.To)) rfl (fun hc21=> ?_) (fun hc21=> ?_)
    ·replace h2l:=iteT hc21 h2l
     refine W_rs ?_
     refine rq (out:=Pr.is (.slice none 0 0)) ae ?_
     refine rq (out:=Pr.bool false) ae ?_
     obtain rfl:=ho2 _ (Option.some.inj h2l).symm
     replace h:some ([],false)=some r:=h
     obtain rfl:=Option.some.inj h
     exact bb ⟨rfl,tup_le ⟨fk _,aa,trivial⟩⟩
    replace h2l:=iteF hc21 h2l
    refine av ?_
    refine W_rs ?_
    refine rq (out:=Pr.is v5) ag ?_
    refine rq (out:=af ab x14) (a9 (R:=ai ab) (a:=x14) (R':=ai ab) 2 ty33 (Sub.refl _)) ?_
    obtain⟨x22,hx22,h2l⟩:=ah h2l
    refine cu 0 el33 hx22 (fun v23=> ?_)
    refine rq (out:=Pr.is v23) ae ?_
    refine W_r ?_
    refine rq (out:=Pr.is v23) ag ?_
    refine rq (out:=af ab x15) ag ?_
    obtain⟨x24,hx24,h2l⟩:=ah h2l
    refine rCallC [] (slices_Clone_ok x15 _ hx24) (fun q C' hq=> ?_)
    obtain⟨v25,rfl,rfl⟩:=hq
    refine rRelB 3 [11] ?_ rfl ⟨rfl,trivial⟩
    refine rq (out:=ej 54 [] [a5 (ai ab) x14]) gu ?_
    obtain⟨x26,hx26,h2l⟩:=ah h2l
    refine rCallC' [0] (ib (fun a0=>jq a0 x14) x24 v25 _ hx26) ⟨aa,(clo_pfn en54 (fun _ _ hs=>by obtain⟨a0,r,rfl,rfl,hr⟩:=hs;exact cells_woven_1_ok a0 x14 r hr)),trivial⟩ (fun q C' hq=> ?_)
    obtain⟨rfl,rfl⟩:=hq
    obtain⟨x27,hx27,h2l⟩:=ah h2l
    refine cu 0 el33 hx27 (fun v28=> ?_)
    refine rq (out:=Pr.is v28) ae ?_
    exact⟨x27,x12,v28,b13,h2l,⟨⟨aa,aa,aa,aa,aa,aa,trivial⟩,Pick.refl _⟩⟩
   replace h2l:=iteF hc20 h2l
   refine W_r ?_
   refine rq (out:=Pr.is v5) ag ?_
   refine rq (out:=af ab x14) (a9 (R:=ai ab) (a:=x14) (R':=ai ab) 2 ty33 (Sub.refl _)) ?_
   obtain⟨x29,hx29,h2l⟩:=ah h2l
   refine cu 0 el33 hx29 (fun v30=> ?_)
   refine rq (out:=Pr.is v30) ae ?_
   exact⟨x29,x12,v30,b13,h2l,⟨⟨aa,aa,aa,aa,aa,aa,trivial⟩,Pick.of [0,1] rfl⟩⟩
  obtain⟨x14,hx14,h2l⟩:=ah h2l
  obtain⟨x15,hx15,h2l⟩:=ah h2l
  refine W_drawG 1 (fun B S=>[Own.vec v5 ab x7 9,Own.box b13 ao x12,(cond (S 17) (Own.box (B 16) (ai ab) x14) (cond (S 16) (Own.box (B 16) (ai ab) []) Own.nil))]) (fun B=>[Own.vec v5 ab x7 9,Own.box b13 ao x12,Own.box (B 16) (ai ab) x14]) [af ab x2,ap b13 3,ap b13 3,Pr.i64 x12.A.From,ap b13 3,ap b13 4,Pr.i64 x12.A.To,af ab x14,af ab x3,ap b13 5,ap b13 5,Pr.i64 x12.B.From,ap b13 5,ap b13 6,Pr.i64 x12.B.To,af ab x15,.any,.any,af ab x15] (fun k=>([0,0,0,0,0,0,0,0,0,0,0,0,0,0,0,0,2,1,0]:List Nat).getD k 0) hmx (by kernel_rfl) (by kernel_rfl) (fun _=>rfl) (fun B S S' h=>by show([Own.vec v5 ab x7 9,Own.box b13 ao x12,(cond (S 17) (Own.box (B 16) (ai ab) x14) (cond (S 16) (Own.box (B 16) (ai ab) []) Own.nil))]:Ctx)=[Own.vec v5 ab x7 9,Own.box b13 ao x12,(cond (S' 17) (Own.box (B 16) (ai ab) x14) (cond (S' 16) (Own.box (B 16) (ai ab) []) Own.nil))];simp only[h 16 (Nat.le_of_ble_eq_true (by kernel_rfl)),h 17 (Nat.le_of_ble_eq_true (by kernel_rfl))]) (fun _=>rfl) (fun B=> ?_)
  refine gq1 (fun S hK=>ag) ?_
  refine gq1 (fun S hK=>(ax fld71_2)) ?_
  refine gq1 (fun S hK=>(ax fld69_0)) ?_
  refine gq1 (fun S hK=>(a9 (R:=ao) (a:=x12) (R':=Rp.int .i64) 1 ty3 (fr.trans c5 (Nat.le_of_ble_eq_true rfl)) (hi:=rfl))) ?_
  refine gq1 (fun S hK=>(ax fld71_2)) ?_
  refine gq1 (fun S hK=>(ax fld69_1)) ?_
  refine gq1 (fun S hK=>(a9 (R:=ao) (a:=x12) (R':=Rp.int .i64) 1 ty3 (fr.trans dp (Nat.le_of_ble_eq_true rfl)) (hi:=rfl))) ?_
  refine gq1 (fun S hK=>(k6 Tryz.underlying33 Tryz.sizeOf9 hx14)) ?_
  refine gq1 (fun S hK=>ag) ?_
  refine gq1 (fun S hK=>(ax fld71_3)) ?_
  refine gq1 (fun S hK=>(ax fld69_0)) ?_
  refine gq1 (fun S hK=>(a9 (R:=ao) (a:=x12) (R':=Rp.int .i64) 1 ty3 (fq.trans c5 (Nat.le_of_ble_eq_true rfl)) (hi:=rfl))) ?_
  refine gq1 (fun S hK=>(ax fld71_3)) ?_
  refine gq1 (fun S hK=>(ax fld69_1)) ?_
  refine gq1 (fun S hK=>(a9 (R:=ao) (a:=x12) (R':=Rp.int .i64) 1 ty3 (fq.trans dp (Nat.le_of_ble_eq_true rfl)) (hi:=rfl))) ?_
  refine gq1 (fun S hK=>(k6 Tryz.underlying33 Tryz.sizeOf9 hx15)) ?_
  refine gqA (fun S hK=>⟨fun B' hB=>by show([Own.vec v5 ab x7 9,Own.box b13 ao x12,(cond (S 17) (Own.box (B' 16) (ai ab) x14) (cond (S 16) (Own.box (B' 16) (ai ab) []) Own.nil))]:Ctx)=[Own.vec v5 ab x7 9,Own.box b13 ao x12,(cond (S 17) (Own.box (B 16) (ai ab) x14) (cond (S 16) (Own.box (B 16) (ai ab) []) Own.nil))];simp only[hK.me,hK.F 17 (by kernel_rfl),cond_false],fun s ρ hg _=>sAlloc (R:=ai ab) (z:=[]) 2 Tryz.zeroValue33 (fun _=>⟨none,0,rfl,⟨Nat.le_refl _,fun _=>rfl⟩,.inl rfl⟩) (congrArg some ((condF (hK.F 17 (by kernel_rfl)) _ _).trans (condF (hK.me) _ _))) (fun b=>by show([Own.vec v5 ab x7 9,Own.box b13 ao x12,(cond (S 17) (Own.box b (ai ab) x14) (Own.box b (ai ab) []))]:Ctx)=_;rw[hK.F 17 (by kernel_rfl)];rfl) s ρ hg⟩) ?_
  refine gqS (fun S hK=>SStep.as (sStore (R:=ai ab) (R':=ai ab) (a:=[]) (y:=x14) 2 Tryz.sizeOf33 (Upd.refl _) (congrArg some ((condF (hK.me) _ _).trans (condT (hK.T 16 (by kernel_rfl)) _ _)))) (by show(_:Ctx)=[Own.vec v5 ab x7 9,Own.box b13 ao x12,Own.box (B 16) (ai ab) x14];rfl)) ?_
  refine gq1 (fun S hK=>ae) ?_
  exact⟨x15,x14,(B 16),h2l,⟨⟨aa,aa,aa,aa,aa,aa,aa,aa,aa,trivial⟩,Pick.refl _⟩⟩
 replace h2l:=iteF hc11 h2l
 refine bw ?_
 obtain rfl:=ho2 _ (Option.some.inj h2l).symm
 exact⟨x7,v5,h,⟨⟨aa,trivial⟩,Pick.refl _⟩⟩
theorem cells_Order_ok (x1 x2 x3:List (List UInt8)) (r:(List (List UInt8)) × Bool) (h:ny x1 x2 x3=some r):FnP Tryz.prog 18 [af ab x1,af ab x2,af ab x3] (bn [af ab r.1,Pr.bool r.2]):=by
 refine a7 (n:=52) (rs:=[6,7]) Tryz.func18 rfl Tryz.ntmps18 ⟨by decide,Tryz.results18⟩ (by decide) (fun s0=> ?_)
 unfold ny at h
 refine W_rs ?_
 refine rBox (R:=ai ab) (a:=x1) rfl (fun b4=> ?_)
 refine rBox (R:=ai ab) (a:=x2) rfl (fun b5=> ?_)
 refine rBox (R:=ai ab) (a:=x3) rfl (fun b6=> ?_)
 refine rq (out:=Pr.is (.slice none 0 0)) ae ?_
 refine rq (out:=Pr.bool false) ae ?_
 refine bg (fun e C=>∃(x7:List (List UInt8)),∃(x8:List (List UInt8)),∃(x9:List (List UInt8)),cells_Order_j3 x7 x8 x9=some r/\At [(3,ap b4 0),(4,ap b5 0),(5,ap b6 0)] [Own.box b4 (ai ab) x7,Own.box b5 (ai ab) x8,Own.box b6 (ai ab) x9] e C) ?_ ?_
 ·rintro e C ⟨x7,x8,x9,h,hat3⟩
  refine W_at hat3 ?_
  clear hat3
  unfold cells_Order_j3 at h
  refine aw ?_
  refine ar ?_
  refine W_rs ?_
  refine rq (out:=af ab x9) (a9 (R:=ai ab) (a:=x9) (R':=ai ab) 2 ty33 (Sub.refl _)) ?_
  refine rq (out:=af ab x7) (a9 (R:=ai ab) (a:=x7) (R':=ai ab) 0 ty33 (Sub.refl _)) ?_
  obtain⟨x10,hx10,h⟩:=ah h
  refine rq (out:=Pr.bool x10) (br (j8 x9 x7 _ hx10)) ?_
  refine rq (out:=Pr.bool x10) ae ?_
  refine au (b:=x10) rfl (fun hc11=> ?_) (fun hc11=> ?_)
  ·replace h:=iteT hc11 h
   refine W_rs ?_
   refine rq (out:=af ab x8) (a9 (R:=ai ab) (a:=x8) (R':=ai ab) 1 ty33 (Sub.refl _)) ?_
   refine rq (out:=af ab x8) ae ?_
   refine rq (out:=Pr.bool true) ae ?_
   obtain rfl:=Option.some.inj h
   exact bb ⟨rfl,aa⟩
  replace h:=iteF hc11 h
  refine W_rs ?_
  refine rq (out:=af ab x8) (a9 (R:=ai ab) (a:=x8) (R':=ai ab) 1 ty33 (Sub.refl _)) ?_
  refine rq (out:=af ab x7) (a9 (R:=ai ab) (a:=x7) (R':=ai ab) 0 ty33 (Sub.refl _)) ?_
  obtain⟨x12,hx12,h⟩:=ah h
  refine rq (out:=Pr.bool x12) (br (j8 x8 x7 _ hx12)) ?_
  refine rq (out:=Pr.bool x12) ae ?_
  refine au (b:=x12) rfl (fun hc13=> ?_) (fun hc13=> ?_)
  ·replace h:=iteT hc13 h
   refine W_rs ?_
   refine rq (out:=af ab x9) (a9 (R:=ai ab) (a:=x9) (R':=ai ab) 2 ty33 (Sub.refl _)) ?_
   refine rq (out:=af ab x9) ae ?_
   refine rq (out:=Pr.bool true) ae ?_
   obtain rfl:=Option.some.inj h
   exact bb ⟨rfl,aa⟩
  replace h:=iteF hc13 h
  refine av ?_
  refine W_rs ?_
  refine rRelB 0 [3] ?_ rfl ⟨rfl,trivial⟩
  refine rRelB 0 [4] ?_ rfl ⟨rfl,trivial⟩
  refine rRelB 0 [5] ?_ rfl ⟨rfl,trivial⟩
  refine rq (out:=ej 36 [] [a5 (ai ab) x7,a5 (ai ab) x8,a5 (ai ab) x9]) gu ?_
  refine rq (out:=ej 36 [] [a5 (ai ab) x7,a5 (ai ab) x8,a5 (ai ab) x9]) ae ?_
  refine bg (fun e C=>∃(x17:List (List UInt8)),∃(x18:Bool),nb x17 x18=some r/\At [(9,af ab x17),(10,Pr.bool x18)] [] e C) ?_ ?_
  ·rintro e C ⟨x17,x18,h,hat2⟩
   refine W_at hat2 ?_
   clear hat2
   unfold nb at h
   refine aw ?_
   refine bg (fun e C=>∃(x21:Bool),kz x17 x21=some r/\At [(9,af ab x17),(50,Pr.bool x21)] [] e C) ?_ ?_
   ·rintro e C ⟨x21,h,hat1⟩
    refine W_at hat1 ?_
    clear hat1
    unfold kz at h
    refine au (b:=x21) rfl (fun hc22=> ?_) (fun hc22=> ?_)
    ·replace h:=iteT hc22 h
     refine W_rs ?_
     refine rq (out:=Pr.is (.slice none 0 0)) ae ?_
     refine rq (out:=Pr.bool false) ae ?_
     obtain rfl:=Option.some.inj h
     exact bb ⟨rfl,tup_le ⟨fk _,aa,trivial⟩⟩
    replace h:=iteF hc22 h
    refine av ?_
    refine W_rs ?_
    refine rq (out:=af ab x17) ag ?_
    refine rq (out:=af ab x17) ae ?_
    refine rq (out:=Pr.bool true) ae ?_
    obtain rfl:=Option.some.inj h
    exact bb ⟨rfl,aa⟩
   refine W_r ?_
   refine rq (out:=Pr.bool x18) ag ?_
   refine rq (out:=Pr.bool (!x18)) qNot ?_
   refine rq (out:=Pr.bool (!x18)) ag ?_
   rcases bc h with⟨hc19,h⟩|⟨hc19,h⟩
   ·refine rno (neF hc19) ?_
    refine rno (neF hc19) ?_
    refine rno (neF hc19) ?_
    refine rno (neF hc19) ?_
    refine rno (neF hc19) ?_
    refine rno (neF hc19) ?_
    refine rq (out:=Pr.bool true) (bo hc19) ?_
    exact⟨true,h,⟨⟨aa,aa,trivial⟩,Pick.refl _⟩⟩
   refine rqg hc19 (out:=af ab x17) ag ?_
   obtain⟨x20,hx20,h⟩:=ah h
   refine rqg hc19 (out:=af ab x20) (br (mc x17 _ hx20)) ?_
   refine rqg hc19 (out:=Pr.i64 (x20.length:Int)) (cl rfl Tryz.underlying33) ?_
   refine rqg hc19 (out:=af ab x17) ag ?_
   refine rqg hc19 (out:=Pr.i64 (x17.length:Int)) (cl rfl Tryz.underlying33) ?_
   refine rqg hc19 (out:=Pr.bool ((x20.length:Int) != (x17.length:Int))) qInt ?_
   refine rq (out:=Pr.bool ((x20.length:Int) != (x17.length:Int))) (az hc19) ?_
   exact⟨(x20.length:Int) != (x17.length:Int),h,⟨⟨aa,aa,trivial⟩,Pick.refl _⟩⟩
  refine ei 15 hmx (by kernel_rfl) (by kernel_rfl) ?_
  refine qq (out:=ej 36 [] [a5 (ai ab) x7,a5 (ai ab) x8,a5 (ai ab) x9]) ag ?_
  refine qq (out:=af ab x7) (bl (R:=ai ab) (a:=x7) ty33) ?_
  obtain⟨x14,hx14,h⟩:=ah h
  refine qq (out:=af ab x14) (qCallClo (cells_Order_1_ok x7 x7 x8 x9 _ hx14)) ?_
  refine qq (out:=ej 36 [] [a5 (ai ab) x7,a5 (ai ab) x8,a5 (ai ab) x9]) ag ?_
  refine qq (out:=af ab x8) (bl (R:=ai ab) (a:=x8) ty33) ?_
  obtain⟨x15,hx15,h⟩:=ah h
  refine qq (out:=af ab x15) (qCallClo (cells_Order_1_ok x8 x7 x8 x9 _ hx15)) ?_
  refine qq (out:=ej 36 [] [a5 (ai ab) x7,a5 (ai ab) x8,a5 (ai ab) x9]) ag ?_
  refine qq (out:=af ab x9) (bl (R:=ai ab) (a:=x9) ty33) ?_
  obtain⟨x16,hx16,h⟩:=ah h
  refine qq (out:=af ab x16) (qCallClo (cells_Order_1_ok x9 x7 x8 x9 _ hx16)) ?_
  obtain⟨⟨x17,x18⟩,hx17,h⟩:=ah h
  refine qq (out:=bn [af ab x17,Pr.bool x18]) (br (cells_woven_ok x14 x15 x16 _ hx17)) ?_
  refine qq (out:=bn [af ab x17,Pr.bool x18]) ag ?_
  refine qq (out:=af ab x17) a6 ?_
  refine qq (out:=Pr.bool x18) a6 ?_
  refine qq (out:=af ab x17) ae ?_
  refine qq (out:=Pr.bool x18) ae ?_
  exact⟨x17,x18,h,⟨⟨aa,aa,trivial⟩,Pick.refl _⟩⟩
 refine ei 6 hmx (by kernel_rfl) (by kernel_rfl) ?_
 refine qq (out:=af ab x1) (a9 (R:=ai ab) (a:=x1) (R':=ai ab) 0 ty33 (Sub.refl _)) ?_
 obtain⟨x7,hx7,h⟩:=ah h
 refine qq (out:=af ab x7) (br (mc x1 _ hx7)) ?_
 refine qq (out:=af ab x2) (a9 (R:=ai ab) (a:=x2) (R':=ai ab) 1 ty33 (Sub.refl _)) ?_
 obtain⟨x8,hx8,h⟩:=ah h
 refine qq (out:=af ab x8) (br (mc x2 _ hx8)) ?_
 refine qq (out:=af ab x3) (a9 (R:=ai ab) (a:=x3) (R':=ai ab) 2 ty33 (Sub.refl _)) ?_
 obtain⟨x9,hx9,h⟩:=ah h
 refine qq (out:=af ab x9) (br (mc x3 _ hx9)) ?_
 refine ek (R:=ai ab) (R':=ai ab) (a:=x1) (y:=x7) 0 Tryz.sizeOf33 (Upd.refl _) ?_
 refine ek (R:=ai ab) (R':=ai ab) (a:=x2) (y:=x8) 1 Tryz.sizeOf33 (Upd.refl _) ?_
 refine ek (R:=ai ab) (R':=ai ab) (a:=x3) (y:=x9) 2 Tryz.sizeOf33 (Upd.refl _) ?_
 exact⟨x7,x8,x9,h,⟨⟨aa,aa,aa,trivial⟩,Pick.refl _⟩⟩
theorem slices_Concat_string_string_ok (x1:List (List (List UInt8))) (r:(List (List UInt8))) (h:g7 x1=some r):FnP Tryz.prog 27 [af (ai ab) x1] (af ab r):=by
 refine a7 (n:=36) (rs:=[2]) Tryz.func27 rfl Tryz.ntmps27 ⟨by decide,Tryz.results27⟩ (by decide) (fun s0=> ?_)
 unfold g7 at h
 refine W_rs ?_
 refine rq (out:=Pr.is (.slice none 0 0)) ae ?_
 refine W_rs ?_
 refine rq (out:=Pr.i64 0) ae ?_
 refine aw ?_
 refine W_rs ?_
 refine rq (out:=af (ai ab) x1) ag ?_
 refine rq (out:=Pr.i64 (x1.length:Int)) (cl rfl Tryz.underlying78) ?_
 refine rq (out:=Pr.i64 0) ag ?_
 refine ar ?_
 obtain⟨z4l,hz4,h⟩:=ah h
 obtain⟨n4,hN4⟩:=a4 hz4
 clear hz4
 refine bp 0 (fun e C=>∃(x2:Int),f3 x1 x2=some r/\At [(0,af (ai ab) x1),(3,Pr.i64 x2)] [] e C) ?_ ?_
 ·rintro e C ⟨x2,h,hat3⟩
  refine W_at hat3 ?_
  clear hat3
  unfold f3 at h
  refine W_rs ?_
  refine rq (out:=Pr.i64 x2) ag ?_
  obtain⟨x9,hx9,h⟩:=ah h
  refine rCallC [] (slices_Grow_ok x2 _ hx9) (fun q C' hq=> ?_)
  obtain⟨v10,rfl,rfl⟩:=hq
  refine rq (out:=Pr.is v10) ae ?_
  refine aw ?_
  refine W_rs ?_
  refine rq (out:=af (ai ab) x1) ag ?_
  refine rq (out:=Pr.i64 (x1.length:Int)) (cl rfl Tryz.underlying78) ?_
  refine rq (out:=Pr.i64 0) ag ?_
  refine ar ?_
  obtain⟨z2l,hz2,h⟩:=ah h
  obtain⟨n2,hN2⟩:=a4 hz2
  clear hz2
  refine bp 2 (fun e C=>∃(x13:List (List UInt8)),∃(v11:Value),f5 x13=some r/\At [(6,Pr.is v11)] [Own.vec v11 ab x13 9] e C) ?_ ?_
  ·rintro e C ⟨x13,v11,h,hat1⟩
   refine W_at hat1 ?_
   clear hat1
   unfold f5 at h
   refine W_rs ?_
   refine rq (out:=Pr.is v11) ag ?_
   refine rq (out:=Pr.is v11) ae ?_
   refine W_rel 0 [2] ?_ rfl ⟨rfl,trivial⟩
   obtain rfl:=Option.some.inj h
   exact bb ⟨rfl,aa⟩
  refine cd (fun m e C=>∃(x12:Int),∃(x13:List (List UInt8)),∃(v11:Value),cz (fun s=>d6 x1 s.1 s.2) m (x12,x13)=some z2l/\At [(6,Pr.is v11),(25,af (ai ab) x1),(26,Pr.i64 (x1.length:Int)),(27,Pr.i64 x12)] [Own.vec v11 ab x13 9] e C) n2 ⟨0,x9,v10,hN2,⟨⟨aa,aa,aa,aa,trivial⟩,Pick.refl _⟩⟩ ?_
  clear hN2
  rintro m e C ⟨x12,x13,v11,hN2,hatl2⟩
  refine W_at hatl2 ?_
  clear hatl2
  obtain⟨m2,w2l,rfl,h2l,hn2,ho2⟩:=ay hN2
  clear hN2
  replace h2l:d6 x1 x12 x13=some w2l:=h2l
  unfold d6 at h2l
  refine W_rs ?_
  refine rq (out:=Pr.bool (decide (x12<(x1.length:Int)))) qInt ?_
  refine aw ?_
  refine au (b:=decide (x12<(x1.length:Int))) rfl (fun hc17=> ?_) (fun hc17=> ?_)
  ·replace h2l:=iteT hc17 h2l
   refine av ?_
   refine aw ?_
   refine ar ?_
   refine W_rs ?_
   obtain⟨x18,hx18,h2l⟩:=ah h2l
   refine rq (out:=a5 (ai ab) x18) (cr (R:=ai ab) (l:=x1) Tryz.underlying78 Tryz.sizeOf33 hx18) ?_
   refine rq (out:=af ab x18) (bl (R:=ai ab) (a:=x18) ty33) ?_
   refine rq (out:=af ab x18) ae ?_
   refine W_r ?_
   refine rq (out:=Pr.is v11) ag ?_
   refine rq (out:=af ab x18) ag ?_
   obtain⟨x19,hx19,h2l⟩:=ah h2l
   refine cu 0 el33 hx19 (fun v20=> ?_)
   refine rq (out:=Pr.is v20) ae ?_
   refine W_r ?_
   refine rq (out:=Pr.i64 (w64 (x12+1))) qInt ?_
   refine rq (out:=Pr.i64 (w64 (x12+1))) ag ?_
   exact⟨m2,Nat.lt_succ_self _,w64 (x12+1),x19,v20,hn2 _ (Option.some.inj h2l).symm,⟨⟨aa,aa,aa,aa,trivial⟩,Pick.refl _⟩⟩
  replace h2l:=iteF hc17 h2l
  refine bw ?_
  obtain rfl:=ho2 _ (Option.some.inj h2l).symm
  exact⟨x13,v11,h,⟨⟨aa,trivial⟩,Pick.refl _⟩⟩
 refine cd (fun m e C=>∃(x2:Int),∃(x3:Int),cz (fun s=>d4 x1 s.1 s.2) m (x2,x3)=some z4l/\At [(0,af (ai ab) x1),(3,Pr.i64 x2),(9,af (ai ab) x1),(10,Pr.i64 (x1.length:Int)),(11,Pr.i64 x3)] [] e C) n4 ⟨0,0,hN4,⟨⟨aa,aa,aa,aa,aa,trivial⟩,Pick.refl _⟩⟩ ?_
 clear hN4
 rintro m e C ⟨x2,x3,hN4,hatl4⟩
 refine W_at hatl4 ?_
 clear hatl4
 obtain⟨m4,w4l,rfl,h4l,hn4,ho4⟩:=ay hN4
 clear hN4
 replace h4l:d4 x1 x2 x3=some w4l:=h4l
 unfold d4 at h4l
 refine W_rs ?_
 refine rq (out:=Pr.bool (decide (x3<(x1.length:Int)))) qInt ?_
 refine aw ?_
 refine au (b:=decide (x3<(x1.length:Int))) rfl (fun hc6=> ?_) (fun hc6=> ?_)
 ·replace h4l:=iteT hc6 h4l
  refine av ?_
  refine bg (fun e C=>∃(x7:List (List UInt8)),f6 x2 x3 x7=some w4l/\At [(0,af (ai ab) x1),(3,Pr.i64 (w64 (x2+(x7.length:Int)))),(9,af (ai ab) x1),(10,Pr.i64 (x1.length:Int)),(11,Pr.i64 x3)] [] e C) ?_ ?_
  ·rintro e C ⟨x7,h4l,hat5⟩
   refine W_at hat5 ?_
   clear hat5
   unfold f6 at h4l
   refine W_r ?_
   refine rq (out:=Pr.i64 (w64 (x3+1))) qInt ?_
   refine rq (out:=Pr.i64 (w64 (x3+1))) ag ?_
   exact⟨m4,Nat.lt_succ_self _,w64 (x2+(x7.length:Int)),w64 (x3+1),hn4 _ (Option.some.inj h4l).symm,⟨⟨aa,aa,aa,aa,aa,trivial⟩,Pick.refl _⟩⟩
  refine ar ?_
  refine W_rs ?_
  obtain⟨x7,hx7,h4l⟩:=ah h4l
  refine rq (out:=a5 (ai ab) x7) (cr (R:=ai ab) (l:=x1) Tryz.underlying78 Tryz.sizeOf33 hx7) ?_
  refine rq (out:=af ab x7) (bl (R:=ai ab) (a:=x7) ty33) ?_
  refine rq (out:=af ab x7) ae ?_
  refine W_rs ?_
  refine rq (out:=Pr.i64 x2) ag ?_
  refine rq (out:=af ab x7) ag ?_
  refine rq (out:=Pr.i64 (x7.length:Int)) (cl rfl Tryz.underlying33) ?_
  refine rq (out:=Pr.i64 (w64 (x2+(x7.length:Int)))) qInt ?_
  refine rq (out:=Pr.i64 (w64 (x2+(x7.length:Int)))) ae ?_
  refine W_rs ?_
  refine rq (out:=Pr.i64 (w64 (x2+(x7.length:Int)))) ag ?_
  refine rq (out:=Pr.bool (decide ((w64 (x2+(x7.length:Int)))<0))) qInt ?_
  refine au (b:=decide ((w64 (x2+(x7.length:Int)))<0)) rfl (fun hc8=> ?_) (fun hc8=> ?_)
  ·replace h4l:=iteT hc8 h4l
   exact nomatch h4l
  replace h4l:=iteF hc8 h4l
  refine av ?_
  exact⟨x7,h4l,⟨⟨aa,aa,aa,aa,aa,trivial⟩,Pick.refl _⟩⟩
 replace h4l:=iteF hc6 h4l
 refine bw ?_
 obtain rfl:=ho4 _ (Option.some.inj h4l).symm
 exact⟨x2,h,⟨⟨aa,aa,trivial⟩,Pick.refl _⟩⟩
theorem cells_Row_ok (x1 x2 x3:List ApiSegment) (r:(List ApiSegment) × (List ApiConflict)) (h:cells_Row x1 x2 x3=some r):FnP Tryz.prog 10 [af ak x1,af ak x2,af ak x3] (bn [af ak r.1,af cp r.2]):=by
 refine a7 (n:=73) (rs:=[6,7]) Tryz.func10 rfl Tryz.ntmps10 ⟨by decide,Tryz.results10⟩ (by decide) (fun s0=> ?_)
 unfold cells_Row at h
 refine W_rs ?_
 refine rq (out:=Pr.is (.slice none 0 0)) ae ?_
 refine rq (out:=Pr.is (.slice none 0 0)) ae ?_
 refine W_rs ?_
 refine rq (out:=af ak x1) ag ?_
 refine rq (out:=af ak x2) ag ?_
 refine rq (out:=af ak x3) ag ?_
 obtain⟨⟨x4,x5⟩,hx4,h⟩:=ah h
 refine rCallC [] (cells_Texts_ok x1 x2 x3 _ hx4) (fun q C' hq=> ?_)
 obtain⟨v6,rfl,rfl⟩:=hq
 refine rq (out:=bn [af ak x4,Pr.is v6]) ag ?_
 refine rq (out:=af ak x4) a6 ?_
 refine rq (out:=Pr.is v6) a6 ?_
 refine rq (out:=af ak x4) ae ?_
 refine rq (out:=Pr.is v6) ae ?_
 refine W_rs ?_
 refine rq (out:=af ak x1) ag ?_
 refine rq (out:=af (ai ak) ([x1]:List (List ApiSegment))) (bh (R:=ai ak) (a:=x1) el73 (Nat.le_of_ble_eq_true rfl)) ?_
 obtain⟨x7,hx7,h⟩:=ah h
 refine rq (out:=af ab x7) (br (cells_keys_ok ([x1]:List (List ApiSegment)) _ hx7)) ?_
 refine rq (out:=af ak x2) ag ?_
 refine rq (out:=af (ai ak) ([x2]:List (List ApiSegment))) (bh (R:=ai ak) (a:=x2) el73 (Nat.le_of_ble_eq_true rfl)) ?_
 obtain⟨x8,hx8,h⟩:=ah h
 refine rq (out:=af ab x8) (br (cells_keys_ok ([x2]:List (List ApiSegment)) _ hx8)) ?_
 refine rq (out:=af ak x3) ag ?_
 refine rq (out:=af (ai ak) ([x3]:List (List ApiSegment))) (bh (R:=ai ak) (a:=x3) el73 (Nat.le_of_ble_eq_true rfl)) ?_
 obtain⟨x9,hx9,h⟩:=ah h
 refine rq (out:=af ab x9) (br (cells_keys_ok ([x3]:List (List ApiSegment)) _ hx9)) ?_
 obtain⟨⟨x10,x11⟩,hx10,h⟩:=ah h
 refine rq (out:=bn [af ab x10,Pr.bool x11]) (br (cells_Order_ok x7 x8 x9 _ hx10)) ?_
 refine rq (out:=bn [af ab x10,Pr.bool x11]) ag ?_
 refine rq (out:=af ab x10) a6 ?_
 refine rq (out:=Pr.bool x11) a6 ?_
 refine rq (out:=af ab x10) ae ?_
 refine rq (out:=Pr.bool x11) ae ?_
 refine aw ?_
 refine W_rs ?_
 refine rq (out:=Pr.bool x11) ag ?_
 refine rq (out:=Pr.bool (!x11)) qNot ?_
 refine au (b:= !x11) rfl (fun hc12=> ?_) (fun hc12=> ?_)
 ·replace h:=iteT hc12 h
  refine W_rs ?_
  refine rq (out:=af ak x4) ag ?_
  refine rq (out:=Pr.is v6) ag ?_
  refine rq (out:=(cp).val (ApiConflict.mk 2 [])) (ja st46 ⟨(ApiConflict.mk 2 []),⟨_,rfl,rfl,fun j fd hj hf=>by match j,hj with| 0,h=>exact absurd rfl h| 1,_=>cases hf;rfl|_+2,_=>cases hf⟩,rfl⟩) ?_
  refine rq (out:=af cp ([(ApiConflict.mk 2 [])]:List ApiConflict)) (bh (R:=cp) (a:=(ApiConflict.mk 2 [])) el25 (Nat.le_of_ble_eq_true rfl)) ?_
  obtain⟨x13,hx13,h⟩:=ah h
  refine cu 0 el25 hx13 (fun v14=> ?_)
  refine rq (out:=af ak x4) ae ?_
  refine rq (out:=Pr.is v14) ae ?_
  refine W_rel 0 [7] ?_ rfl ⟨rfl,trivial⟩
  obtain rfl:=Option.some.inj h
  exact bb ⟨rfl,aa⟩
 replace h:=iteF hc12 h
 refine av ?_
 refine W_rs ?_
 refine rq (out:=af ak x4) ag ?_
 obtain⟨x15,hx15,h⟩:=ah h
 refine rq (out:=eq (aq 2 ab) x15) (br (cells_table_ok x4 _ hx15)) ?_
 refine rq (out:=eq (aq 2 ab) x15) ae ?_
 refine W_rs ?_
 refine rq (out:=Pr.is (.slice none 0 0)) ae ?_
 refine aw ?_
 refine W_rs ?_
 refine rq (out:=af ab x10) ag ?_
 refine rq (out:=af ak x4) ag ?_
 refine rq (out:=af (ai ak) ([x4]:List (List ApiSegment))) (bh (R:=ai ak) (a:=x4) el73 (Nat.le_of_ble_eq_true rfl)) ?_
 obtain⟨x16,hx16,h⟩:=ah h
 refine rq (out:=af ab x16) (br (cells_keys_ok ([x4]:List (List ApiSegment)) _ hx16)) ?_
 refine rq (out:=af (ai ab) ([x10,x16]:List (List (List UInt8)))) (fm (R:=ai ab) (ls:=([x10,x16]:List (List (List UInt8)))) el78 (Nat.le_of_ble_eq_true rfl) ⟨rfl,rfl⟩ ⟨rfl,rfl,trivial⟩) ?_
 obtain⟨x17,hx17,h⟩:=ah h
 refine rq (out:=af ab x17) (br (slices_Concat_string_string_ok ([x10,x16]:List (List (List UInt8))) _ hx17)) ?_
 obtain⟨x18,hx18,h⟩:=ah h
 refine rq (out:=af ab x18) (br (mc x17 _ hx18)) ?_
 refine rq (out:=Pr.i64 (x18.length:Int)) (cl rfl Tryz.underlying33) ?_
 refine rq (out:=Pr.i64 0) ag ?_
 refine ar ?_
 obtain⟨z2l,hz2,h⟩:=ah h
 obtain⟨n2,hN2⟩:=a4 hz2
 clear hz2
 refine bp 0 (fun e C=>∃(x21:List ApiSegment),∃(v19:Value),cells_Row_k1 x5 x21=some r/\At [(9,Pr.is v6),(13,Pr.is v19)] [Own.vec v6 cp x5 46,Own.vec v19 ak x21 38] e C) ?_ ?_
 ·rintro e C ⟨x21,v19,h,hat1⟩
  refine W_at hat1 ?_
  clear hat1
  unfold cells_Row_k1 at h
  refine W_rs ?_
  refine rq (out:=Pr.is v19) ag ?_
  refine rq (out:=Pr.is v6) ag ?_
  refine rq (out:=Pr.is v19) ae ?_
  refine rq (out:=Pr.is v6) ae ?_
  refine W_rel 1 [6] ?_ rfl ⟨rfl,trivial⟩
  refine W_rel 0 [7] ?_ rfl ⟨rfl,trivial⟩
  obtain rfl:=Option.some.inj h
  exact bb ⟨rfl,aa⟩
 refine W_nil [13] ak 38 (fun v35=> ?_) ⟨rfl,trivial⟩
 refine cd (fun m e C=>∃(x20:Int),∃(x21:List ApiSegment),∃(v19:Value),cz (fun s=>cells_Row_l2 x18 x15 s.1 s.2) m (x20,x21)=some z2l/\At [(9,Pr.is v6),(12,eq (aq 2 ab) x15),(13,Pr.is v19),(52,af ab x18),(53,Pr.i64 (x18.length:Int)),(54,Pr.i64 x20)] [Own.vec v6 cp x5 46,Own.vec v19 ak x21 38] e C) n2 ⟨0,[],v35,hN2,⟨⟨aa,aa,aa,aa,aa,aa,trivial⟩,Pick.refl _⟩⟩ ?_
 clear hN2
 rintro m e C ⟨x20,x21,v19,hN2,hatl2⟩
 refine W_at hatl2 ?_
 clear hatl2
 obtain⟨m2,w2l,rfl,h2l,hn2,ho2⟩:=ay hN2
 clear hN2
 replace h2l:cells_Row_l2 x18 x15 x20 x21=some w2l:=h2l
 unfold cells_Row_l2 at h2l
 refine W_rs ?_
 refine rq (out:=Pr.bool (decide (x20<(x18.length:Int)))) qInt ?_
 refine aw ?_
 refine au (b:=decide (x20<(x18.length:Int))) rfl (fun hc25=> ?_) (fun hc25=> ?_)
 ·replace h2l:=iteT hc25 h2l
  refine av ?_
  refine bg (fun e C=>∃(x34:List ApiSegment),∃(x26:List UInt8),∃(v33:Value),∃(b27:Nat),cells_Row_j3 x20 x34 x26=some w2l/\At [(9,Pr.is v6),(12,eq (aq 2 ab) x15),(13,Pr.is v33),(52,af ab x18),(53,Pr.i64 (x18.length:Int)),(54,Pr.i64 x20)] [Own.vec v6 cp x5 46,Own.vec v33 ak x34 38,Own.box b27 (aq 2 ab) (mget x26 (List.replicate 2 []) x15)] e C) ?_ ?_
  ·rintro e C ⟨x34,x26,v33,b27,h2l,hat3⟩
   refine W_at hat3 ?_
   clear hat3
   unfold cells_Row_j3 at h2l
   refine W_r ?_
   refine rq (out:=Pr.i64 (w64 (x20+1))) qInt ?_
   refine rq (out:=Pr.i64 (w64 (x20+1))) ag ?_
   exact⟨m2,Nat.lt_succ_self _,w64 (x20+1),x34,v33,hn2 _ (Option.some.inj h2l).symm,⟨⟨aa,aa,aa,aa,aa,aa,trivial⟩,Pick.of [0,1] rfl⟩⟩
  refine ar ?_
  refine W_rs ?_
  obtain⟨x26,hx26,h2l⟩:=ah h2l
  refine rq (out:=a5 ab x26) (cr (R:=ab) (l:=x18) Tryz.underlying33 Tryz.sizeOf9 hx26) ?_
  refine rq (out:=aj x26) (bl (R:=ab) (a:=x26) ty9) ?_
  refine rq (out:=aj x26) ae ?_
  refine W_rs ?_
  refine rq (out:=eq (aq 2 ab) x15) ag ?_
  refine rq (out:=aj x26) ag ?_
  refine rq (out:=(aq 2 ab).val (mget x26 (List.replicate 2 []) x15)) (qMapGetS (R:=aq 2 ab) (m:=x15) (kx:=x26) (z:=(List.replicate 2 [])) Tryz.underlying51 Tryz.underlying9 Tryz.zeroValue56 (fun _=>⟨_,⟨rfl,⟨_,_,rfl,rfl,⟨_,_,rfl,rfl,rfl⟩⟩⟩,rfl⟩)) ?_
  refine ml (R:=aq 2 ab) (z:=(List.replicate 2 [])) Tryz.zeroValue56 (fun _=>⟨_,⟨rfl,⟨_,_,rfl,rfl,⟨_,_,rfl,rfl,rfl⟩⟩⟩,rfl⟩) (fun b27=> ?_)
  refine ek (R:=aq 2 ab) (R':=aq 2 ab) (a:=(List.replicate 2 [])) (y:=(mget x26 (List.replicate 2 []) x15)) 2 Tryz.sizeOf56 (Upd.refl _) ?_
  refine W_rs ?_
  refine rq (out:=(aq 2 ab).val (mget x26 (List.replicate 2 []) x15)) (a9 (R:=aq 2 ab) (a:=(mget x26 (List.replicate 2 []) x15)) (R':=aq 2 ab) 2 ty56 (Sub.refl _)) ?_
  obtain⟨x28,hx28,h2l⟩:=ah h2l
  refine rq (out:=Pr.bool x28) (br (gz (mget x26 (List.replicate 2 []) x15) _ hx28)) ?_
  refine au (b:=x28) rfl (fun hc29=> ?_) (fun hc29=> ?_)
  ·replace h2l:=iteT hc29 h2l
   refine W_r ?_
   refine rq (out:=Pr.is v19) ag ?_
   refine rq (out:=aj x26) ag ?_
   obtain⟨x30,hx30,h2l⟩:=ah h2l
   refine rq (out:=ap b27 (x30 * 1)) (nm Tryz.underlying56 Tryz.sizeOf9 hx30) ?_
   refine rq (out:=aj (List.getD (mget x26 (List.replicate 2 []) x15) x30 [])) (a9 (R:=aq 2 ab) (a:=(mget x26 (List.replicate 2 []) x15)) (R':=ab) 2 ty9 (Sub.arr [] (di hx30))) ?_
   refine rq (out:=(ak).val (ApiSegment.mk x26 (List.getD (mget x26 (List.replicate 2 []) x15) x30 []))) (ja st38 ⟨(ApiSegment.mk x26 []),⟨_,rfl,rfl,fun j fd hj hf=>by match j,hj with| 0,h=>exact absurd rfl h| 1,_=>cases hf;rfl|_+2,_=>cases hf⟩,⟨(ApiSegment.mk x26 (List.getD (mget x26 (List.replicate 2 []) x15) x30 [])),⟨_,rfl,rfl,fun j fd hj hf=>by match j,hj with| 0,_=>cases hf;rfl| 1,h=>exact absurd rfl h|_+2,_=>cases hf⟩,rfl⟩⟩) ?_
   refine rq (out:=af ak ([(ApiSegment.mk x26 (List.getD (mget x26 (List.replicate 2 []) x15) x30 []))]:List ApiSegment)) (bh (R:=ak) (a:=(ApiSegment.mk x26 (List.getD (mget x26 (List.replicate 2 []) x15) x30 []))) el22 (Nat.le_of_ble_eq_true rfl)) ?_
   obtain⟨x31,hx31,h2l⟩:=ah h2l
   refine cu 1 el22 hx31 (fun v32=> ?_)
   refine rq (out:=Pr.is v32) ae ?_
   exact⟨x31,x26,v32,b27,h2l,⟨⟨aa,aa,aa,aa,aa,aa,trivial⟩,Pick.refl _⟩⟩
  replace h2l:=iteF hc29 h2l
  refine av ?_
  exact⟨x21,x26,v19,b27,h2l,⟨⟨aa,aa,aa,aa,aa,aa,trivial⟩,Pick.refl _⟩⟩
 replace h2l:=iteF hc25 h2l
 refine bw ?_
 obtain rfl:=ho2 _ (Option.some.inj h2l).symm
 exact⟨x21,v19,h,⟨⟨aa,aa,trivial⟩,Pick.refl _⟩⟩
theorem cells_Three_ok (x1 x2 x3:ApiSegment) (x4:List Bool) (r:(List UInt8) × Bool × Int) (h:cells_Three x1 x2 x3 x4=some r):FnP Tryz.prog 16 [(ak).val x1,(ak).val x2,(ak).val x3,(aq 3 Rp.bool).val x4] (bn [aj r.1,Pr.bool r.2.1,Pr.i64 r.2.2]):=by
 refine a7 (n:=37) (rs:=[8,9,10]) Tryz.func16 rfl Tryz.ntmps16 ⟨by decide,Tryz.results16⟩ (by decide) (fun s0=> ?_)
 unfold cells_Three at h
 refine W_rs ?_
 refine rBox (R:=ak) (a:=x1) rfl (fun b5=> ?_)
 refine rBox (R:=ak) (a:=x2) rfl (fun b6=> ?_)
 refine rBox (R:=ak) (a:=x3) rfl (fun b7=> ?_)
 refine rBox (R:=aq 3 Rp.bool) (a:=x4) rfl (fun b8=> ?_)
 refine rq (out:=aj []) ae ?_
 refine rq (out:=Pr.bool false) ae ?_
 refine rq (out:=Pr.i64 0) ae ?_
 refine bg (fun e C=>∃(x16:Int),∃(x15:List (List UInt8)),∃(b17:Nat),cells_Three_j2 x16 x15=some r/\At [(11,ap b17 0),(12,Pr.i64 x16)] [Own.box b5 ak x1,Own.box b6 ak x2,Own.box b7 ak x3,Own.box b8 (aq 3 Rp.bool) x4,Own.box b17 (aq 2 ab) x15] e C) ?_ ?_
 ·rintro e C ⟨x16,x15,b17,h,hat2⟩
  refine W_at hat2 ?_
  clear hat2
  unfold cells_Three_j2 at h
  refine bg (fun e C=>∃(x18:Nat),∃(x19:Bool),cells_Three_j1 x15 x16 x18 x19=some r/\At [(8,aj (List.getD x15 x18 [])),(9,Pr.bool x19),(10,Pr.i64 x16)] [Own.box b5 ak x1,Own.box b6 ak x2,Own.box b7 ak x3,Own.box b8 (aq 3 Rp.bool) x4,Own.box b17 (aq 2 ab) x15] e C) ?_ ?_
  ·rintro e C ⟨x18,x19,h,hat1⟩
   refine W_at hat1 ?_
   clear hat1
   unfold cells_Three_j1 at h
   obtain rfl:=Option.some.inj h
   exact bb ⟨rfl,aa⟩
  refine ei 8 hmx (by kernel_rfl) (by kernel_rfl) ?_
  obtain⟨x18,hx18,h⟩:=ah h
  refine qq (out:=ap b17 (x18 * 1)) (nm Tryz.underlying56 Tryz.sizeOf9 hx18) ?_
  refine qq (out:=aj (List.getD x15 x18 [])) (a9 (R:=aq 2 ab) (a:=x15) (R':=ab) 4 ty9 (Sub.arr [] (di hx18))) ?_
  refine qq (out:=(aq 2 ab).val x15) (a9 (R:=aq 2 ab) (a:=x15) (R':=aq 2 ab) 4 ty56 (Sub.refl _)) ?_
  obtain⟨x19,hx19,h⟩:=ah h
  refine qq (out:=Pr.bool x19) (br (gz x15 _ hx19)) ?_
  refine qq (out:=Pr.i64 x16) ag ?_
  refine qq (out:=aj (List.getD x15 x18 [])) ae ?_
  refine qq (out:=Pr.bool x19) ae ?_
  refine qq (out:=Pr.i64 x16) ae ?_
  exact⟨x18,x19,h,⟨⟨aa,aa,aa,trivial⟩,Pick.refl _⟩⟩
 obtain⟨x9,hx9,h⟩:=ah h
 obtain⟨x10,hx10,h⟩:=ah h
 obtain⟨x11,hx11,h⟩:=ah h
 obtain⟨x12,hx12,h⟩:=ah h
 obtain⟨x13,hx13,h⟩:=ah h
 obtain⟨x14,hx14,h⟩:=ah h
 obtain⟨⟨x15,x16⟩,hx15,h⟩:=ah h
 refine W_drawG 1 (fun B S=>[Own.box b5 ak x1,Own.box b6 ak x2,Own.box b7 ak x3,Own.box b8 (aq 3 Rp.bool) x4,(cond (S 20) (Own.box (B 19) (aq 2 ab) x15) (cond (S 19) (Own.box (B 19) (aq 2 ab) (List.replicate 2 [])) Own.nil))]) (fun B=>[Own.box b5 ak x1,Own.box b6 ak x2,Own.box b7 ak x3,Own.box b8 (aq 3 Rp.bool) x4,Own.box (B 19) (aq 2 ab) x15]) [ap b5 1,aj x1.Text,ap b8 (x9 * 1),Pr.bool (List.getD x4 x9 false),(aq 2 ab).val x10,ap b6 1,aj x2.Text,ap b8 (x11 * 1),Pr.bool (List.getD x4 x11 false),(aq 2 ab).val x12,ap b7 1,aj x3.Text,ap b8 (x13 * 1),Pr.bool (List.getD x4 x13 false),(aq 2 ab).val x14,bn [(aq 2 ab).val x15,Pr.i64 x16],bn [(aq 2 ab).val x15,Pr.i64 x16],(aq 2 ab).val x15,Pr.i64 x16,.any,.any,Pr.i64 x16] (fun k=>([0,0,0,0,0,0,0,0,0,0,0,0,0,0,0,0,0,0,0,2,1,0]:List Nat).getD k 0) hmx (by kernel_rfl) (by kernel_rfl) (fun _=>rfl) (fun B S S' h=>by show([Own.box b5 ak x1,Own.box b6 ak x2,Own.box b7 ak x3,Own.box b8 (aq 3 Rp.bool) x4,(cond (S 20) (Own.box (B 19) (aq 2 ab) x15) (cond (S 19) (Own.box (B 19) (aq 2 ab) (List.replicate 2 [])) Own.nil))]:Ctx)=[Own.box b5 ak x1,Own.box b6 ak x2,Own.box b7 ak x3,Own.box b8 (aq 3 Rp.bool) x4,(cond (S' 20) (Own.box (B 19) (aq 2 ab) x15) (cond (S' 19) (Own.box (B 19) (aq 2 ab) (List.replicate 2 [])) Own.nil))];simp only[h 19 (Nat.le_of_ble_eq_true (by kernel_rfl)),h 20 (Nat.le_of_ble_eq_true (by kernel_rfl))]) (fun _=>rfl) (fun B=> ?_)
 refine gq1 (fun S hK=>(ax fld38_1)) ?_
 refine gq1 (fun S hK=>(a9 (R:=ak) (a:=x1) (R':=ab) 0 ty9 k9 (hi:=rfl))) ?_
 refine gq1 (fun S hK=>(nm Tryz.underlying32 Tryz.sizeOf4 hx9)) ?_
 refine gq1 (fun S hK=>(a9 (R:=aq 3 Rp.bool) (a:=x4) (R':=Rp.bool) 3 ty4 (Sub.arr false (di hx9)) (hi:=rfl))) ?_
 refine gq1 (fun S hK=>(br (cells_of_ok x1.Text (List.getD x4 x9 false) _ hx10))) ?_
 refine gq1 (fun S hK=>(ax fld38_1)) ?_
 refine gq1 (fun S hK=>(a9 (R:=ak) (a:=x2) (R':=ab) 1 ty9 k9 (hi:=rfl))) ?_
 refine gq1 (fun S hK=>(nm Tryz.underlying32 Tryz.sizeOf4 hx11)) ?_
 refine gq1 (fun S hK=>(a9 (R:=aq 3 Rp.bool) (a:=x4) (R':=Rp.bool) 3 ty4 (Sub.arr false (di hx11)) (hi:=rfl))) ?_
 refine gq1 (fun S hK=>(br (cells_of_ok x2.Text (List.getD x4 x11 false) _ hx12))) ?_
 refine gq1 (fun S hK=>(ax fld38_1)) ?_
 refine gq1 (fun S hK=>(a9 (R:=ak) (a:=x3) (R':=ab) 2 ty9 k9 (hi:=rfl))) ?_
 refine gq1 (fun S hK=>(nm Tryz.underlying32 Tryz.sizeOf4 hx13)) ?_
 refine gq1 (fun S hK=>(a9 (R:=aq 3 Rp.bool) (a:=x4) (R':=Rp.bool) 3 ty4 (Sub.arr false (di hx13)) (hi:=rfl))) ?_
 refine gq1 (fun S hK=>(br (cells_of_ok x3.Text (List.getD x4 x13 false) _ hx14))) ?_
 refine gq1 (fun S hK=>(br (cells_three_ok x10 x12 x14 _ hx15))) ?_
 refine gq1 (fun S hK=>ag) ?_
 refine gq1 (fun S hK=>a6) ?_
 refine gq1 (fun S hK=>a6) ?_
 refine gqA (fun S hK=>⟨fun B' hB=>by show([Own.box b5 ak x1,Own.box b6 ak x2,Own.box b7 ak x3,Own.box b8 (aq 3 Rp.bool) x4,(cond (S 20) (Own.box (B' 19) (aq 2 ab) x15) (cond (S 19) (Own.box (B' 19) (aq 2 ab) (List.replicate 2 [])) Own.nil))]:Ctx)=[Own.box b5 ak x1,Own.box b6 ak x2,Own.box b7 ak x3,Own.box b8 (aq 3 Rp.bool) x4,(cond (S 20) (Own.box (B 19) (aq 2 ab) x15) (cond (S 19) (Own.box (B 19) (aq 2 ab) (List.replicate 2 [])) Own.nil))];simp only[hK.me,hK.F 20 (by kernel_rfl),cond_false],fun s ρ hg _=>sAlloc (R:=aq 2 ab) (z:=(List.replicate 2 [])) 4 Tryz.zeroValue56 (fun _=>⟨_,⟨rfl,⟨_,_,rfl,rfl,⟨_,_,rfl,rfl,rfl⟩⟩⟩,rfl⟩) (congrArg some ((condF (hK.F 20 (by kernel_rfl)) _ _).trans (condF (hK.me) _ _))) (fun b=>by show([Own.box b5 ak x1,Own.box b6 ak x2,Own.box b7 ak x3,Own.box b8 (aq 3 Rp.bool) x4,(cond (S 20) (Own.box b (aq 2 ab) x15) (Own.box b (aq 2 ab) (List.replicate 2 [])))]:Ctx)=_;rw[hK.F 20 (by kernel_rfl)];rfl) s ρ hg⟩) ?_
 refine gqS (fun S hK=>SStep.as (sStore (R:=aq 2 ab) (R':=aq 2 ab) (a:=(List.replicate 2 [])) (y:=x15) 4 Tryz.sizeOf56 (Upd.refl _) (congrArg some ((condF (hK.me) _ _).trans (condT (hK.T 19 (by kernel_rfl)) _ _)))) (by show(_:Ctx)=[Own.box b5 ak x1,Own.box b6 ak x2,Own.box b7 ak x3,Own.box b8 (aq 3 Rp.bool) x4,Own.box (B 19) (aq 2 ab) x15];rfl)) ?_
 refine gq1 (fun S hK=>ae) ?_
 exact⟨x16,x15,(B 19),h,⟨⟨aa,aa,trivial⟩,Pick.refl _⟩⟩
theorem ref01_Same_ok (x1 x2:List (List UInt8)) (r:Bool) (h:ka x1 x2=some r):FnP Tryz.prog 20 [af ab x1,af ab x2] (Pr.bool r):=by
 refine a7 (n:=26) (rs:=[4]) Tryz.func20 rfl Tryz.ntmps20 ⟨by decide,Tryz.results20⟩ (by decide) (fun s0=> ?_)
 unfold ka at h
 refine W_rs ?_
 refine rq (out:=Pr.bool false) ae ?_
 refine aw ?_
 refine W_rs ?_
 refine rq (out:=af ab x1) ag ?_
 refine rq (out:=Pr.i64 (x1.length:Int)) (cl rfl Tryz.underlying33) ?_
 refine rq (out:=af ab x2) ag ?_
 refine rq (out:=Pr.i64 (x2.length:Int)) (cl rfl Tryz.underlying33) ?_
 refine rq (out:=Pr.bool ((x1.length:Int) != (x2.length:Int))) qInt ?_
 refine au (b:=(x1.length:Int) != (x2.length:Int)) rfl (fun hc3=> ?_) (fun hc3=> ?_)
 ·replace h:=iteT hc3 h
  refine W_rs ?_
  refine rq (out:=Pr.bool false) ae ?_
  obtain rfl:=Option.some.inj h
  exact bb ⟨rfl,aa⟩
 replace h:=iteF hc3 h
 refine av ?_
 refine aw ?_
 refine W_rs ?_
 refine rq (out:=Pr.i64 0) ae ?_
 refine ar ?_
 obtain⟨z2l,hz2,h⟩:=ah h
 obtain⟨n2,hN2⟩:=a4 hz2
 clear hz2
 refine bp 0 (fun e C=>ref01_Same_k1=some r/\At [] [] e C) ?_ ?_
 ·rintro e C ⟨h,hat1⟩
  refine W_at hat1 ?_
  clear hat1
  unfold ref01_Same_k1 at h
  refine W_rs ?_
  refine rq (out:=Pr.bool true) ae ?_
  obtain rfl:=Option.some.inj h
  exact bb ⟨rfl,aa⟩
 refine cd (fun m e C=>∃(x4:Int),cz (fun s=>l7 x1 x2 s) m x4=some z2l/\At [(0,af ab x1),(1,af ab x2),(5,Pr.i64 x4)] [] e C) n2 ⟨0,hN2,⟨⟨aa,aa,aa,trivial⟩,Pick.refl _⟩⟩ ?_
 clear hN2
 rintro m e C ⟨x4,hN2,hatl2⟩
 refine W_at hatl2 ?_
 clear hatl2
 obtain⟨m2,w2l,rfl,h2l,hn2,ho2⟩:=ay hN2
 clear hN2
 replace h2l:l7 x1 x2 x4=some w2l:=h2l
 unfold l7 at h2l
 refine aw ?_
 refine W_rs ?_
 refine rq (out:=Pr.i64 x4) ag ?_
 refine rq (out:=af ab x1) ag ?_
 refine rq (out:=Pr.i64 (x1.length:Int)) (cl rfl Tryz.underlying33) ?_
 refine rq (out:=Pr.bool (decide (x4<(x1.length:Int)))) qInt ?_
 refine au (b:=decide (x4<(x1.length:Int))) rfl (fun hc6=> ?_) (fun hc6=> ?_)
 ·replace h2l:=iteT hc6 h2l
  refine av ?_
  refine aw ?_
  refine ar ?_
  refine bg (fun e C=>∃(x7:List UInt8),∃(x8:List UInt8),ref01_Same_j3 x4 x7 x8=some w2l/\At [(0,af ab x1),(1,af ab x2),(5,Pr.i64 x4),(25,Pr.bool (!(x7==x8)))] [] e C) ?_ ?_
  ·rintro e C ⟨x7,x8,h2l,hat3⟩
   refine W_at hat3 ?_
   clear hat3
   unfold ref01_Same_j3 at h2l
   refine au (b:= !(x7==x8)) rfl (fun hc9=> ?_) (fun hc9=> ?_)
   ·replace h2l:=iteT hc9 h2l
    refine W_rs ?_
    refine rq (out:=Pr.bool false) ae ?_
    obtain rfl:=ho2 _ (Option.some.inj h2l).symm
    replace h:some false=some r:=h
    obtain rfl:=Option.some.inj h
    exact bb ⟨rfl,aa⟩
   replace h2l:=iteF hc9 h2l
   refine av ?_
   refine W_r ?_
   refine rq (out:=Pr.i64 x4) ag ?_
   refine rq (out:=Pr.i64 (w64 (x4+1))) qInt ?_
   refine rq (out:=Pr.i64 (w64 (x4+1))) ae ?_
   exact⟨m2,Nat.lt_succ_self _,w64 (x4+1),hn2 _ (Option.some.inj h2l).symm,⟨⟨aa,aa,aa,trivial⟩,Pick.refl _⟩⟩
  refine ei 9 hmx (by kernel_rfl) (by kernel_rfl) ?_
  refine qq (out:=af ab x1) ag ?_
  refine qq (out:=Pr.i64 x4) ag ?_
  obtain⟨x7,hx7,h2l⟩:=ah h2l
  refine qq (out:=a5 ab x7) (cr (R:=ab) (l:=x1) Tryz.underlying33 Tryz.sizeOf9 hx7) ?_
  refine qq (out:=aj x7) (bl (R:=ab) (a:=x7) ty9) ?_
  refine qq (out:=af ab x2) ag ?_
  refine qq (out:=Pr.i64 x4) ag ?_
  obtain⟨x8,hx8,h2l⟩:=ah h2l
  refine qq (out:=a5 ab x8) (cr (R:=ab) (l:=x2) Tryz.underlying33 Tryz.sizeOf9 hx8) ?_
  refine qq (out:=aj x8) (bl (R:=ab) (a:=x8) ty9) ?_
  refine qq (out:=Pr.bool (!(x7==x8))) qStr ?_
  exact⟨x7,x8,h2l,⟨⟨aa,aa,aa,aa,trivial⟩,Pick.refl _⟩⟩
 replace h2l:=iteF hc6 h2l
 refine bw ?_
 obtain rfl:=ho2 _ (Option.some.inj h2l).symm
 exact⟨h,⟨trivial,Pick.refl _⟩⟩
theorem law30_row_ok (x1:List (List UInt8)) (r:(List ApiSegment)) (h:law30_row x1=some r):FnP Tryz.prog 23 [af ab x1] (af ak r):=by
 refine a7 (n:=25) (rs:=[2]) Tryz.func23 rfl Tryz.ntmps23 ⟨by decide,Tryz.results23⟩ (by decide) (fun s0=> ?_)
 unfold law30_row at h
 refine W_rs ?_
 refine rq (out:=Pr.is (.slice none 0 0)) ae ?_
 refine W_rs ?_
 refine rq (out:=Pr.is (.slice none 0 0)) ae ?_
 refine aw ?_
 refine W_rs ?_
 refine rq (out:=Pr.i64 0) ae ?_
 refine ar ?_
 obtain⟨z2l,hz2,h⟩:=ah h
 obtain⟨n2,hN2⟩:=a4 hz2
 clear hz2
 refine bp 0 (fun e C=>∃(x4:List ApiSegment),∃(v2:Value),law30_row_k1 x4=some r/\At [(3,Pr.is v2)] [Own.vec v2 ak x4 38] e C) ?_ ?_
 ·rintro e C ⟨x4,v2,h,hat1⟩
  refine W_at hat1 ?_
  clear hat1
  unfold law30_row_k1 at h
  refine W_rs ?_
  refine rq (out:=Pr.is v2) ag ?_
  refine rq (out:=Pr.is v2) ae ?_
  refine W_rel 0 [2] ?_ rfl ⟨rfl,trivial⟩
  obtain rfl:=Option.some.inj h
  exact bb ⟨rfl,aa⟩
 refine W_nil [3] ak 38 (fun v14=> ?_) ⟨rfl,trivial⟩
 refine cd (fun m e C=>∃(x3:Int),∃(x4:List ApiSegment),∃(v2:Value),cz (fun s=>law30_row_l2 x1 s.1 s.2) m (x3,x4)=some z2l/\At [(0,af ab x1),(3,Pr.is v2),(4,Pr.i64 x3)] [Own.vec v2 ak x4 38] e C) n2 ⟨0,[],v14,hN2,⟨⟨aa,aa,aa,trivial⟩,Pick.refl _⟩⟩ ?_
 clear hN2
 rintro m e C ⟨x3,x4,v2,hN2,hatl2⟩
 refine W_at hatl2 ?_
 clear hatl2
 obtain⟨m2,w2l,rfl,h2l,hn2,ho2⟩:=ay hN2
 clear hN2
 replace h2l:law30_row_l2 x1 x3 x4=some w2l:=h2l
 unfold law30_row_l2 at h2l
 refine aw ?_
 refine W_rs ?_
 refine rq (out:=Pr.i64 x3) ag ?_
 refine rq (out:=af ab x1) ag ?_
 refine rq (out:=Pr.i64 (x1.length:Int)) (cl rfl Tryz.underlying33) ?_
 refine rq (out:=Pr.bool (decide (x3<(x1.length:Int)))) qInt ?_
 refine au (b:=decide (x3<(x1.length:Int))) rfl (fun hc8=> ?_) (fun hc8=> ?_)
 ·replace h2l:=iteT hc8 h2l
  refine av ?_
  refine aw ?_
  refine ar ?_
  refine ei 12 hmx (by kernel_rfl) (by kernel_rfl) ?_
  refine qq (out:=Pr.is v2) ag ?_
  refine qq (out:=af ab x1) ag ?_
  refine qq (out:=Pr.i64 x3) ag ?_
  obtain⟨x9,hx9,h2l⟩:=ah h2l
  refine qq (out:=a5 ab x9) (cr (R:=ab) (l:=x1) Tryz.underlying33 Tryz.sizeOf9 hx9) ?_
  refine qq (out:=aj x9) (bl (R:=ab) (a:=x9) ty9) ?_
  refine qq (out:=af ab x1) ag ?_
  refine qq (out:=Pr.i64 x3) ag ?_
  obtain⟨x10,hx10,h2l⟩:=ah h2l
  refine qq (out:=a5 ab x10) (cr (R:=ab) (l:=x1) Tryz.underlying33 Tryz.sizeOf9 hx10) ?_
  refine qq (out:=aj x10) (bl (R:=ab) (a:=x10) ty9) ?_
  obtain⟨x11,hx11,h2l⟩:=ah h2l
  refine qq (out:=aj x11) (qCat' hx11) ?_
  refine qq (out:=(ak).val (ApiSegment.mk x9 x11)) (ja st38 ⟨(ApiSegment.mk x9 []),⟨_,rfl,rfl,fun j fd hj hf=>by match j,hj with| 0,h=>exact absurd rfl h| 1,_=>cases hf;rfl|_+2,_=>cases hf⟩,⟨(ApiSegment.mk x9 x11),⟨_,rfl,rfl,fun j fd hj hf=>by match j,hj with| 0,_=>cases hf;rfl| 1,h=>exact absurd rfl h|_+2,_=>cases hf⟩,rfl⟩⟩) ?_
  refine qq (out:=af ak ([(ApiSegment.mk x9 x11)]:List ApiSegment)) (bh (R:=ak) (a:=(ApiSegment.mk x9 x11)) el22 (Nat.le_of_ble_eq_true rfl)) ?_
  obtain⟨x12,hx12,h2l⟩:=ah h2l
  refine cu 0 el22 hx12 (fun v13=> ?_)
  refine rq (out:=Pr.is v13) ae ?_
  refine W_r ?_
  refine rq (out:=Pr.i64 x3) ag ?_
  refine rq (out:=Pr.i64 (w64 (x3+1))) qInt ?_
  refine rq (out:=Pr.i64 (w64 (x3+1))) ae ?_
  exact⟨m2,Nat.lt_succ_self _,w64 (x3+1),x12,v13,hn2 _ (Option.some.inj h2l).symm,⟨⟨aa,aa,aa,trivial⟩,Pick.refl _⟩⟩
 replace h2l:=iteF hc8 h2l
 refine bw ?_
 obtain rfl:=ho2 _ (Option.some.inj h2l).symm
 exact⟨x4,v2,h,⟨⟨aa,trivial⟩,Pick.refl _⟩⟩
theorem law30_awake_ok (r:Bool) (h:law30_awake=some r):FnP Tryz.prog 8 [] (Pr.bool r):=by
 refine a7 (n:=88) (rs:=[0]) Tryz.func8 rfl Tryz.ntmps8 ⟨by decide,Tryz.results8⟩ (by decide) (fun s0=> ?_)
 unfold law30_awake at h
 refine W_rs ?_
 refine rq (out:=Pr.bool false) ae ?_
 refine W_rs ?_
 refine rq (out:=af ab ([([102]:List UInt8),([103]:List UInt8)]:List (List UInt8))) (fm (R:=ab) (ls:=([([102]:List UInt8),([103]:List UInt8)]:List (List UInt8))) el33 (Nat.le_of_ble_eq_true rfl) ⟨rfl,rfl⟩ ⟨rfl,rfl,trivial⟩) ?_
 refine rq (out:=af ab ([([102]:List UInt8),([104]:List UInt8),([103]:List UInt8)]:List (List UInt8))) (fm (R:=ab) (ls:=([([102]:List UInt8),([104]:List UInt8),([103]:List UInt8)]:List (List UInt8))) el33 (Nat.le_of_ble_eq_true rfl) ⟨rfl,rfl⟩ ⟨rfl,rfl,rfl,trivial⟩) ?_
 refine rq (out:=af ab ([([103]:List UInt8)]:List (List UInt8))) (bh (R:=ab) (a:=([103]:List UInt8)) el33 (Nat.le_of_ble_eq_true rfl)) ?_
 obtain⟨⟨x1,x2⟩,hx1,h⟩:=ah h
 refine rq (out:=bn [af ab x1,Pr.bool x2]) (br (cells_Order_ok ([([102]:List UInt8),([103]:List UInt8)]:List (List UInt8)) ([([102]:List UInt8),([104]:List UInt8),([103]:List UInt8)]:List (List UInt8)) ([([103]:List UInt8)]:List (List UInt8)) _ hx1)) ?_
 refine rq (out:=bn [af ab x1,Pr.bool x2]) ag ?_
 refine rq (out:=af ab x1) a6 ?_
 refine rq (out:=Pr.bool x2) a6 ?_
 refine rq (out:=af ab x1) ae ?_
 refine rq (out:=Pr.bool x2) ae ?_
 refine W_rs ?_
 refine rq (out:=af ab ([([102]:List UInt8),([103]:List UInt8)]:List (List UInt8))) (fm (R:=ab) (ls:=([([102]:List UInt8),([103]:List UInt8)]:List (List UInt8))) el33 (Nat.le_of_ble_eq_true rfl) ⟨rfl,rfl⟩ ⟨rfl,rfl,trivial⟩) ?_
 obtain⟨x3,hx3,h⟩:=ah h
 refine rq (out:=af ak x3) (br (law30_row_ok ([([102]:List UInt8),([103]:List UInt8)]:List (List UInt8)) _ hx3)) ?_
 refine rq (out:=af ab ([([102]:List UInt8),([104]:List UInt8),([103]:List UInt8)]:List (List UInt8))) (fm (R:=ab) (ls:=([([102]:List UInt8),([104]:List UInt8),([103]:List UInt8)]:List (List UInt8))) el33 (Nat.le_of_ble_eq_true rfl) ⟨rfl,rfl⟩ ⟨rfl,rfl,rfl,trivial⟩) ?_
 obtain⟨x4,hx4,h⟩:=ah h
 refine rq (out:=af ak x4) (br (law30_row_ok ([([102]:List UInt8),([104]:List UInt8),([103]:List UInt8)]:List (List UInt8)) _ hx4)) ?_
 refine rq (out:=af ab ([([103]:List UInt8)]:List (List UInt8))) (bh (R:=ab) (a:=([103]:List UInt8)) el33 (Nat.le_of_ble_eq_true rfl)) ?_
 obtain⟨x5,hx5,h⟩:=ah h
 refine rq (out:=af ak x5) (br (law30_row_ok ([([103]:List UInt8)]:List (List UInt8)) _ hx5)) ?_
 obtain⟨⟨x6,x7⟩,hx6,h⟩:=ah h
 refine rq (out:=bn [af ak x6,af cp x7]) (br (cells_Row_ok x3 x4 x5 _ hx6)) ?_
 refine rq (out:=bn [af ak x6,af cp x7]) ag ?_
 refine rq (out:=af ak x6) a6 ?_
 refine rq (out:=af cp x7) a6 ?_
 refine rq (out:=af ak x6) ae ?_
 refine rq (out:=af cp x7) ae ?_
 refine W_rs ?_
 refine rq (out:=af ab ([([102]:List UInt8)]:List (List UInt8))) (bh (R:=ab) (a:=([102]:List UInt8)) el33 (Nat.le_of_ble_eq_true rfl)) ?_
 obtain⟨x8,hx8,h⟩:=ah h
 refine rq (out:=af ak x8) (br (law30_row_ok ([([102]:List UInt8)]:List (List UInt8)) _ hx8)) ?_
 refine rq (out:=af ab ([([102]:List UInt8)]:List (List UInt8))) (bh (R:=ab) (a:=([102]:List UInt8)) el33 (Nat.le_of_ble_eq_true rfl)) ?_
 obtain⟨x9,hx9,h⟩:=ah h
 refine rq (out:=af ak x9) (br (law30_row_ok ([([102]:List UInt8)]:List (List UInt8)) _ hx9)) ?_
 obtain⟨⟨x10,x11⟩,hx10,h⟩:=ah h
 refine rCallC' [] (cells_Texts_ok x8 x9 [] _ hx10) ⟨aa,aa,fk _,trivial⟩ (fun q C' hq=> ?_)
 obtain⟨v12,rfl,rfl⟩:=hq
 refine rq (out:=bn [af ak x10,Pr.is v12]) ag ?_
 refine rq (out:=af ak x10) a6 ?_
 refine rq (out:=Pr.is v12) a6 ?_
 refine rq (out:=af ak x10) ae ?_
 refine rq (out:=Pr.is v12) ae ?_
 refine W_rs ?_
 refine rq (out:=(ak).val (ApiSegment.mk [] ([97]:List UInt8))) (ja st38 ⟨(ApiSegment.mk [] ([97]:List UInt8)),⟨_,rfl,rfl,fun j fd hj hf=>by match j,hj with| 0,_=>cases hf;rfl| 1,h=>exact absurd rfl h|_+2,_=>cases hf⟩,rfl⟩) ?_
 refine rq (out:=(ak).val (ApiSegment.mk [] ([97]:List UInt8))) (ja st38 ⟨(ApiSegment.mk [] ([97]:List UInt8)),⟨_,rfl,rfl,fun j fd hj hf=>by match j,hj with| 0,_=>cases hf;rfl| 1,h=>exact absurd rfl h|_+2,_=>cases hf⟩,rfl⟩) ?_
 refine rq (out:=(ak).val (ApiSegment.mk [] ([98]:List UInt8))) (ja st38 ⟨(ApiSegment.mk [] ([98]:List UInt8)),⟨_,rfl,rfl,fun j fd hj hf=>by match j,hj with| 0,_=>cases hf;rfl| 1,h=>exact absurd rfl h|_+2,_=>cases hf⟩,rfl⟩) ?_
 refine rq (out:=(aq 3 Rp.bool).val ([true,true,true]:List Bool)) (qBuildA (R:=Rp.bool) (ls:=([true,true,true]:List Bool)) Tryz.underlying32 Tryz.zeroValue32 rfl Tryz.sizeOf4 (by decide) ⟨rfl,rfl⟩ ⟨rfl,rfl,rfl,trivial⟩) ?_
 obtain⟨⟨x13,x14,x15⟩,hx13,h⟩:=ah h
 refine rq (out:=bn [aj x13,Pr.bool x14,Pr.i64 x15]) (br (cells_Three_ok (ApiSegment.mk [] ([97]:List UInt8)) (ApiSegment.mk [] ([97]:List UInt8)) (ApiSegment.mk [] ([98]:List UInt8)) ([true,true,true]:List Bool) _ hx13)) ?_
 refine rq (out:=bn [aj x13,Pr.bool x14,Pr.i64 x15]) ag ?_
 refine rq (out:=aj x13) a6 ?_
 refine rq (out:=Pr.bool x14) a6 ?_
 refine rq (out:=Pr.i64 x15) a6 ?_
 refine rq (out:=aj x13) ae ?_
 refine rq (out:=Pr.bool x14) ae ?_
 refine rq (out:=Pr.i64 x15) ae ?_
 refine bg (fun e C=>∃(x532:Bool),du x532=some r/\At [(0,Pr.bool x532)] [] e C) ?_ ?_
 ·rintro e C ⟨x532,h,hat1⟩
  refine W_at hat1 ?_
  clear hat1
  unfold du at h
  obtain rfl:=Option.some.inj h
  exact bb ⟨rfl,aa⟩
 refine W_r ?_
 refine rq (out:=Pr.bool x2) ag ?_
 refine rq (out:=Pr.bool x2) ag ?_
 rcases bc h with⟨hc16,h⟩|⟨hc16,h⟩
 ·refine rqg hc16 (out:=af ab x1) ag ?_
  refine rqg hc16 (out:=af ab ([([104]:List UInt8),([103]:List UInt8)]:List (List UInt8))) (fm (R:=ab) (ls:=([([104]:List UInt8),([103]:List UInt8)]:List (List UInt8))) el33 (Nat.le_of_ble_eq_true rfl) ⟨rfl,rfl⟩ ⟨rfl,rfl,trivial⟩) ?_
  obtain⟨x17,hx17,h⟩:=ah h
  refine rqg hc16 (out:=Pr.bool x17) (br (ref01_Same_ok x1 ([([104]:List UInt8),([103]:List UInt8)]:List (List UInt8)) _ hx17)) ?_
  refine rq (out:=Pr.bool x17) (bo hc16) ?_
  refine rq (out:=Pr.bool x17) ag ?_
  rcases bc h with⟨hc18,h⟩|⟨hc18,h⟩
  ·refine rqg hc18 (out:=af ak x6) ag ?_
   refine rqg hc18 (out:=Pr.i64 (x6.length:Int)) (cl rfl Tryz.underlying22) ?_
   refine rqg hc18 (out:=Pr.bool ((x6.length:Int)==2)) qInt ?_
   refine rq (out:=Pr.bool ((x6.length:Int)==2)) (bo hc18) ?_
   refine rq (out:=Pr.bool ((x6.length:Int)==2)) ag ?_
   rcases bc h with⟨hc19,h⟩|⟨hc19,h⟩
   ·refine rqg hc19 (out:=af ak x6) ag ?_
    obtain⟨x20,hx20,h⟩:=ah h
    refine rqg hc19 (out:=a5 ak x20) (cr (R:=ak) (l:=x6) Tryz.underlying22 Tryz.sizeOf38 hx20) ?_
    refine rqg hc19 (out:=a5 ab x20.Key) (qFieldC (R:=ak) (a:=x20) fld38_0 subApiSegment_Key) ?_
    refine rqg hc19 (out:=aj x20.Key) (bl (R:=ab) (a:=x20.Key) ty9) ?_
    refine rqg hc19 (out:=Pr.bool (x20.Key==([104]:List UInt8))) qStr ?_
    refine rq (out:=Pr.bool (x20.Key==([104]:List UInt8))) (bo hc19) ?_
    refine rq (out:=Pr.bool (x20.Key==([104]:List UInt8))) ag ?_
    rcases bc h with⟨hc21,h⟩|⟨hc21,h⟩
    ·refine rqg hc21 (out:=af cp x7) ag ?_
     refine rqg hc21 (out:=Pr.i64 (x7.length:Int)) (cl rfl Tryz.underlying25) ?_
     refine rqg hc21 (out:=Pr.bool ((x7.length:Int)==0)) qInt ?_
     refine rq (out:=Pr.bool ((x7.length:Int)==0)) (bo hc21) ?_
     refine rq (out:=Pr.bool ((x7.length:Int)==0)) ag ?_
     rcases bc h with⟨hc22,h⟩|⟨hc22,h⟩
     ·refine rqg hc22 (out:=af ak x10) ag ?_
      refine rqg hc22 (out:=Pr.i64 (x10.length:Int)) (cl rfl Tryz.underlying22) ?_
      refine rqg hc22 (out:=Pr.bool ((x10.length:Int)==0)) qInt ?_
      refine rq (out:=Pr.bool ((x10.length:Int)==0)) (bo hc22) ?_
      refine rq (out:=Pr.bool ((x10.length:Int)==0)) ag ?_
      rcases bc h with⟨hc23,h⟩|⟨hc23,h⟩
      ·refine rqg hc23 (out:=Pr.is v12) ag ?_
       refine rqg hc23 (out:=Pr.i64 (x11.length:Int)) (qLenV 0 rfl Tryz.underlying25) ?_
       refine rqg hc23 (out:=Pr.bool ((x11.length:Int)==0)) qInt ?_
       refine rq (out:=Pr.bool ((x11.length:Int)==0)) (bo hc23) ?_
       refine rq (out:=Pr.bool ((x11.length:Int)==0)) ag ?_
       rcases bc h with⟨hc24,h⟩|⟨hc24,h⟩
       ·refine rqg hc24 (out:=aj x13) ag ?_
        refine rqg hc24 (out:=Pr.bool (x13==([98]:List UInt8))) qStr ?_
        refine rq (out:=Pr.bool (x13==([98]:List UInt8))) (bo hc24) ?_
        refine rq (out:=Pr.bool (x13==([98]:List UInt8))) ag ?_
        rcases bc h with⟨hc25,h⟩|⟨hc25,h⟩
        ·refine rqg hc25 (out:=Pr.bool x14) ag ?_
         refine rq (out:=Pr.bool x14) (bo hc25) ?_
         refine rq (out:=Pr.bool x14) ag ?_
         rcases bc h with⟨hc26,h⟩|⟨hc26,h⟩
         ·refine rqg hc26 (out:=Pr.i64 x15) ag ?_
          refine rqg hc26 (out:=Pr.bool (x15==0)) qInt ?_
          refine rq (out:=Pr.bool (x15==0)) (bo hc26) ?_
          refine rq (out:=Pr.bool (x15==0)) ae ?_
          exact⟨x15==0,h,⟨⟨aa,trivial⟩,Pick.of [] rfl⟩⟩
         refine rno (neT hc26) ?_
         refine rno (neT hc26) ?_
         refine rq (out:=Pr.bool false) (az hc26) ?_
         refine rq (out:=Pr.bool false) ae ?_
         exact⟨false,h,⟨⟨aa,trivial⟩,Pick.of [] rfl⟩⟩
        refine rno (neT hc25) ?_
        refine rq (out:=Pr.bool false) (az hc25) ?_
        refine rq (out:=Pr.bool false) ag ?_
        have hc27:false=false:=rfl
        refine rno (neT hc27) ?_
        refine rno (neT hc27) ?_
        refine rq (out:=Pr.bool false) (az hc27) ?_
        refine rq (out:=Pr.bool false) ae ?_
        exact⟨false,h,⟨⟨aa,trivial⟩,Pick.of [] rfl⟩⟩
       refine rno (neT hc24) ?_
       refine rno (neT hc24) ?_
       refine rq (out:=Pr.bool false) (az hc24) ?_
       refine rq (out:=Pr.bool false) ag ?_
       have hc28:false=false:=rfl
       refine rno (neT hc28) ?_
       refine rq (out:=Pr.bool false) (az hc28) ?_
       refine rq (out:=Pr.bool false) ag ?_
       have hc30:false=false:=rfl
       refine rno (neT hc30) ?_
       refine rno (neT hc30) ?_
       refine rq (out:=Pr.bool false) (az hc30) ?_
       refine rq (out:=Pr.bool false) ae ?_
       exact⟨false,h,⟨⟨aa,trivial⟩,Pick.of [] rfl⟩⟩
      refine rno (neT hc23) ?_
      refine rno (neT hc23) ?_
      refine rno (neT hc23) ?_
      refine rq (out:=Pr.bool false) (az hc23) ?_
      refine rq (out:=Pr.bool false) ag ?_
      have hc31:false=false:=rfl
      refine rno (neT hc31) ?_
      refine rno (neT hc31) ?_
      refine rq (out:=Pr.bool false) (az hc31) ?_
      refine rq (out:=Pr.bool false) ag ?_
      have hc35:false=false:=rfl
      refine rno (neT hc35) ?_
      refine rq (out:=Pr.bool false) (az hc35) ?_
      refine rq (out:=Pr.bool false) ag ?_
      have hc37:false=false:=rfl
      refine rno (neT hc37) ?_
      refine rno (neT hc37) ?_
      refine rq (out:=Pr.bool false) (az hc37) ?_
      refine rq (out:=Pr.bool false) ae ?_
      exact⟨false,h,⟨⟨aa,trivial⟩,Pick.of [] rfl⟩⟩
     refine rno (neT hc22) ?_
     refine rno (neT hc22) ?_
     refine rno (neT hc22) ?_
     refine rq (out:=Pr.bool false) (az hc22) ?_
     refine rq (out:=Pr.bool false) ag ?_
     have hc38:false=false:=rfl
     refine rno (neT hc38) ?_
     refine rno (neT hc38) ?_
     refine rno (neT hc38) ?_
     refine rq (out:=Pr.bool false) (az hc38) ?_
     refine rq (out:=Pr.bool false) ag ?_
     have hc46:false=false:=rfl
     refine rno (neT hc46) ?_
     refine rno (neT hc46) ?_
     refine rq (out:=Pr.bool false) (az hc46) ?_
     refine rq (out:=Pr.bool false) ag ?_
     have hc50:false=false:=rfl
     refine rno (neT hc50) ?_
     refine rq (out:=Pr.bool false) (az hc50) ?_
     refine rq (out:=Pr.bool false) ag ?_
     have hc52:false=false:=rfl
     refine rno (neT hc52) ?_
     refine rno (neT hc52) ?_
     refine rq (out:=Pr.bool false) (az hc52) ?_
     refine rq (out:=Pr.bool false) ae ?_
     exact⟨false,h,⟨⟨aa,trivial⟩,Pick.of [] rfl⟩⟩
    refine rno (neT hc21) ?_
    refine rno (neT hc21) ?_
    refine rno (neT hc21) ?_
    refine rq (out:=Pr.bool false) (az hc21) ?_
    refine rq (out:=Pr.bool false) ag ?_
    have hc53:false=false:=rfl
    refine rno (neT hc53) ?_
    refine rno (neT hc53) ?_
    refine rno (neT hc53) ?_
    refine rq (out:=Pr.bool false) (az hc53) ?_
    refine rq (out:=Pr.bool false) ag ?_
    have hc69:false=false:=rfl
    refine rno (neT hc69) ?_
    refine rno (neT hc69) ?_
    refine rno (neT hc69) ?_
    refine rq (out:=Pr.bool false) (az hc69) ?_
    refine rq (out:=Pr.bool false) ag ?_
    have hc77:false=false:=rfl
    refine rno (neT hc77) ?_
    refine rno (neT hc77) ?_
    refine rq (out:=Pr.bool false) (az hc77) ?_
    refine rq (out:=Pr.bool false) ag ?_
    have hc81:false=false:=rfl
    refine rno (neT hc81) ?_
    refine rq (out:=Pr.bool false) (az hc81) ?_
    refine rq (out:=Pr.bool false) ag ?_
    have hc83:false=false:=rfl
    refine rno (neT hc83) ?_
    refine rno (neT hc83) ?_
    refine rq (out:=Pr.bool false) (az hc83) ?_
    refine rq (out:=Pr.bool false) ae ?_
    exact⟨false,h,⟨⟨aa,trivial⟩,Pick.of [] rfl⟩⟩
   refine rno (neT hc19) ?_
   refine rno (neT hc19) ?_
   refine rno (neT hc19) ?_
   refine rno (neT hc19) ?_
   refine rno (neT hc19) ?_
   refine rq (out:=Pr.bool false) (az hc19) ?_
   refine rq (out:=Pr.bool false) ag ?_
   have hc84:false=false:=rfl
   refine rno (neT hc84) ?_
   refine rno (neT hc84) ?_
   refine rno (neT hc84) ?_
   refine rq (out:=Pr.bool false) (az hc84) ?_
   refine rq (out:=Pr.bool false) ag ?_
   have hc116:false=false:=rfl
   refine rno (neT hc116) ?_
   refine rno (neT hc116) ?_
   refine rno (neT hc116) ?_
   refine rq (out:=Pr.bool false) (az hc116) ?_
   refine rq (out:=Pr.bool false) ag ?_
   have hc132:false=false:=rfl
   refine rno (neT hc132) ?_
   refine rno (neT hc132) ?_
   refine rno (neT hc132) ?_
   refine rq (out:=Pr.bool false) (az hc132) ?_
   refine rq (out:=Pr.bool false) ag ?_
   have hc140:false=false:=rfl
   refine rno (neT hc140) ?_
   refine rno (neT hc140) ?_
   refine rq (out:=Pr.bool false) (az hc140) ?_
   refine rq (out:=Pr.bool false) ag ?_
   have hc144:false=false:=rfl
   refine rno (neT hc144) ?_
   refine rq (out:=Pr.bool false) (az hc144) ?_
   refine rq (out:=Pr.bool false) ag ?_
   have hc146:false=false:=rfl
   refine rno (neT hc146) ?_
   refine rno (neT hc146) ?_
   refine rq (out:=Pr.bool false) (az hc146) ?_
   refine rq (out:=Pr.bool false) ae ?_
   exact⟨false,h,⟨⟨aa,trivial⟩,Pick.of [] rfl⟩⟩
  refine rno (neT hc18) ?_
  refine rno (neT hc18) ?_
  refine rno (neT hc18) ?_
  refine rq (out:=Pr.bool false) (az hc18) ?_
  refine rq (out:=Pr.bool false) ag ?_
  have hc147:false=false:=rfl
  refine rno (neT hc147) ?_
  refine rno (neT hc147) ?_
  refine rno (neT hc147) ?_
  refine rno (neT hc147) ?_
  refine rno (neT hc147) ?_
  refine rq (out:=Pr.bool false) (az hc147) ?_
  refine rq (out:=Pr.bool false) ag ?_
  have hc212:false=false:=rfl
  refine rno (neT hc212) ?_
  refine rno (neT hc212) ?_
  refine rno (neT hc212) ?_
  refine rq (out:=Pr.bool false) (az hc212) ?_
  refine rq (out:=Pr.bool false) ag ?_
  have hc244:false=false:=rfl
  refine rno (neT hc244) ?_
  refine rno (neT hc244) ?_
  refine rno (neT hc244) ?_
  refine rq (out:=Pr.bool false) (az hc244) ?_
  refine rq (out:=Pr.bool false) ag ?_
  have hc260:false=false:=rfl
  refine rno (neT hc260) ?_
  refine rno (neT hc260) ?_
  refine rno (neT hc260) ?_
  refine rq (out:=Pr.bool false) (az hc260) ?_
  refine rq (out:=Pr.bool false) ag ?_
  have hc268:false=false:=rfl
  refine rno (neT hc268) ?_
  refine rno (neT hc268) ?_
  refine rq (out:=Pr.bool false) (az hc268) ?_
  refine rq (out:=Pr.bool false) ag ?_
  have hc272:false=false:=rfl
  refine rno (neT hc272) ?_
  refine rq (out:=Pr.bool false) (az hc272) ?_
  refine rq (out:=Pr.bool false) ag ?_
  have hc274:false=false:=rfl
  refine rno (neT hc274) ?_
  refine rno (neT hc274) ?_
  refine rq (out:=Pr.bool false) (az hc274) ?_
  refine rq (out:=Pr.bool false) ae ?_
  exact⟨false,h,⟨⟨aa,trivial⟩,Pick.of [] rfl⟩⟩
 refine rno (neT hc16) ?_
 refine rno (neT hc16) ?_
 refine rno (neT hc16) ?_
 refine rq (out:=Pr.bool false) (az hc16) ?_
 refine rq (out:=Pr.bool false) ag ?_
 have hc275:false=false:=rfl
 refine rno (neT hc275) ?_
 refine rno (neT hc275) ?_
 refine rno (neT hc275) ?_
 refine rq (out:=Pr.bool false) (az hc275) ?_
 refine rq (out:=Pr.bool false) ag ?_
 have hc404:false=false:=rfl
 refine rno (neT hc404) ?_
 refine rno (neT hc404) ?_
 refine rno (neT hc404) ?_
 refine rno (neT hc404) ?_
 refine rno (neT hc404) ?_
 refine rq (out:=Pr.bool false) (az hc404) ?_
 refine rq (out:=Pr.bool false) ag ?_
 have hc469:false=false:=rfl
 refine rno (neT hc469) ?_
 refine rno (neT hc469) ?_
 refine rno (neT hc469) ?_
 refine rq (out:=Pr.bool false) (az hc469) ?_
 refine rq (out:=Pr.bool false) ag ?_
 have hc501:false=false:=rfl
 refine rno (neT hc501) ?_
 refine rno (neT hc501) ?_
 refine rno (neT hc501) ?_
 refine rq (out:=Pr.bool false) (az hc501) ?_
 refine rq (out:=Pr.bool false) ag ?_
 have hc517:false=false:=rfl
 refine rno (neT hc517) ?_
 refine rno (neT hc517) ?_
 refine rno (neT hc517) ?_
 refine rq (out:=Pr.bool false) (az hc517) ?_
 refine rq (out:=Pr.bool false) ag ?_
 have hc525:false=false:=rfl
 refine rno (neT hc525) ?_
 refine rno (neT hc525) ?_
 refine rq (out:=Pr.bool false) (az hc525) ?_
 refine rq (out:=Pr.bool false) ag ?_
 have hc529:false=false:=rfl
 refine rno (neT hc529) ?_
 refine rq (out:=Pr.bool false) (az hc529) ?_
 refine rq (out:=Pr.bool false) ag ?_
 have hc531:false=false:=rfl
 refine rno (neT hc531) ?_
 refine rno (neT hc531) ?_
 refine rq (out:=Pr.bool false) (az hc531) ?_
 refine rq (out:=Pr.bool false) ae ?_
 exact⟨false,h,⟨⟨aa,trivial⟩,Pick.of [] rfl⟩⟩
end Go.Proofs.YtphkaogfinjbjaaGreatDoor
