/- The code comes to what these functions say (printed by wip/gen/gen.py). -/
import Derived.Test.YtgkcoicaopilhaaGreatDoorZX
import Derived.Test.YtgkcoicaopilhaaGreatDoorZT
set_option linter.unusedSimpArgs false
set_option linter.unusedVariables false
set_option linter.unusedSectionVars false
set_option linter.unusedSectionVars false
set_option maxRecDepth 100000
set_option maxHeartbeats 4000000
namespace Go.Proofs.YtgkcoicaopilhaaGreatDoor
open Go Go.Cn
def rec_shape_erase_spec (R:dy):Prop:=(∀(x1:ApiNode) (x2:((List UInt8)->Option (List UInt8))) (r:ApiNode),R x1 x2=some r->FnP Tryz.prog 26 [(ab).val x1,Pr.pfn Tryz.prog (spec48 x2)] ((ab).val r))
theorem F_shape_erase_step (R:dy) (ih:rec_shape_erase_spec R) (x1:ApiNode) (x2:((List UInt8)->Option (List UInt8))) (r:ApiNode) (h:F_shape_erase R x1 x2=some r):FnP Tryz.prog 26 [(ab).val x1,Pr.pfn Tryz.prog (spec48 x2)] ((ab).val r):=by
 refine el (n:=44) (rs:=[.cell 4 24]) Tryz.func26 rfl Tryz.ntmps26 Tryz.results26 (by decide) (fun s0=> ?_)
 unfold F_shape_erase at h
 refine W_rs ?_
 refine rBox (R:=ab) (a:=x1) rfl (fun b3=> ?_)
 refine cb (R:=ab) (z:=(ApiNode.mk 0 [] [] 0 0 0 0 0 [])) Tryz.zeroValue24 (fun _=>(by rw[al];exact⟨_,⟨_,_,rfl,rfl,⟨_,_,rfl,rfl,⟨_,_,rfl,rfl,⟨_,_,rfl,rfl,⟨_,_,rfl,rfl,⟨_,_,rfl,rfl,⟨_,_,rfl,rfl,⟨_,_,rfl,rfl,⟨_,_,rfl,⟨_,rfl,none,0,rfl,⟨Nat.le_refl _,fun _=>rfl⟩,.inl rfl⟩,rfl⟩⟩⟩⟩⟩⟩⟩⟩⟩,rfl⟩)) (fun b4=> ?_)
 refine bc (fun e C=>∃(x7:ApiNode),kh R x2 x7=some r/\At [(1,Pr.pfn Tryz.prog (spec48 x2)),(2,ap b3 0),(4,ap b4 0)] [Own.box b3 ab x7,Own.box b4 ab (ApiNode.mk 0 [] [] 0 0 0 0 0 [])] e C) ?_ ?_
 ·rintro e C ⟨x7,h,hat3⟩
  refine W_at hat3 ?_
  clear hat3
  unfold kh at h
  refine W_rs ?_
  refine rq (out:=Pr.pfn Tryz.prog (spec48 x2)) ag ?_
  refine rq (out:=ap b3 2) (a4 fld24_2) ?_
  refine rq (out:=ai x7.Type_) (a8 (R:=ab) (a:=x7) (R':=am) 0 ty9 ib) ?_
  obtain⟨x8,hx8,h⟩:=af h
  refine rq (out:=ai x8) (qCallP (spec:=spec48 x2) ⟨_,_,rfl,rfl,hx8⟩) ?_
  refine rq (out:=ap b3 2) (a4 fld24_2) ?_
  refine aq (R:=ab) (R':=am) (a:=x7) (y:=x8) 0 Tryz.sizeOf9 updApiNode_Type ?_
  refine W_rs ?_
  refine rq (out:=ap b3 8) (a4 e8) ?_
  refine rq (out:=aj ab (({x7 with Type_:=x8}).Kids)) (a8 (R:=ab) (a:={x7 with Type_:=x8}) (R':=a9 ab) 0 ty22 bi) ?_
  refine rq (out:=Pr.i64 ((({x7 with Type_:=x8}).Kids).length:Int)) (fi rfl Tryz.underlying22) ?_
  obtain⟨x9,hx9,h⟩:=af h
  refine rMake (R:=ab) (z:=(ApiNode.mk 0 [] [] 0 0 0 0 0 [])) el22 Tryz.zeroValue24 (fun _=>(by rw[al];exact⟨_,_,rfl,rfl,⟨_,_,rfl,rfl,⟨_,_,rfl,rfl,⟨_,_,rfl,rfl,⟨_,_,rfl,rfl,⟨_,_,rfl,rfl,⟨_,_,rfl,rfl,⟨_,_,rfl,rfl,⟨_,_,rfl,⟨_,rfl,none,0,rfl,⟨Nat.le_refl _,fun _=>rfl⟩,.inl rfl⟩,rfl⟩⟩⟩⟩⟩⟩⟩⟩⟩)) hx9 (fun v10=> ?_)
  refine rq (out:=Pr.is v10) ae ?_
  refine a5 ?_
  refine W_rs ?_
  refine rq (out:=ap b3 8) (a4 e8) ?_
  refine rq (out:=aj ab (({x7 with Type_:=x8}).Kids)) (a8 (R:=ab) (a:={x7 with Type_:=x8}) (R':=a9 ab) 0 ty22 bi) ?_
  refine rq (out:=Pr.i64 ((({x7 with Type_:=x8}).Kids).length:Int)) (fi rfl Tryz.underlying22) ?_
  refine rq (out:=Pr.i64 0) ag ?_
  refine az ?_
  obtain⟨z2l,hz2,h⟩:=af h
  obtain⟨n2,hN2⟩:=cc hz2
  clear hz2
  refine du 0 (fun e C=>∃(x12:List ApiNode),shape_erase_k1 R x7 x8 x12=some r/\At [(2,ap b3 0),(4,ap b4 0),(5,Pr.is v10)] [Own.box b3 ab ({x7 with Type_:=x8}),Own.box b4 ab (ApiNode.mk 0 [] [] 0 0 0 0 0 []),Own.vec v10 ab x12 24] e C) ?_ ?_
  ·rintro e C ⟨x12,h,hat1⟩
   refine W_at hat1 ?_
   clear hat1
   unfold shape_erase_k1 at h
   refine W_rs ?_
   refine rq (out:=Pr.is v10) ag ?_
   refine rq (out:=ap b3 8) (a4 e8) ?_
   refine rRel 2 [5,41] ?_ rfl ⟨rfl,rfl,trivial⟩
   refine aq (R:=ab) (R':=a9 ab) (a:={x7 with Type_:=x8}) (y:=x12) 0 Tryz.sizeOf22 updApiNode_Kids ?_
   refine W_rs ?_
   refine rq (out:=(ab).val ({{x7 with Type_:=x8} with Kids:=x12})) (a8 (R:=ab) (a:={{x7 with Type_:=x8} with Kids:=x12}) (R':=ab) 0 ty24 (Sub.refl _)) ?_
   refine aq (R:=ab) (R':=ab) (a:=(ApiNode.mk 0 [] [] 0 0 0 0 0 [])) (y:={{x7 with Type_:=x8} with Kids:=x12}) 1 Tryz.sizeOf24 (Upd.refl _) ?_
   obtain rfl:=Option.some.inj h
   exact a6 ⟨rfl,[(ab).val ({{x7 with Type_:=x8} with Kids:=x12})],⟨yBox 1 ty24 aa,trivial⟩,aa⟩
  refine eh (fun m e C=>∃(x11:Int),∃(x12:List ApiNode),en (fun s=>kg R x7 x8 x2 s.1 s.2) m (x11,x12)=some z2l/\At [(1,Pr.pfn Tryz.prog (spec48 x2)),(2,ap b3 0),(4,ap b4 0),(5,Pr.is v10),(26,Pr.i64 ((({x7 with Type_:=x8}).Kids).length:Int)),(27,Pr.i64 x11)] [Own.box b3 ab ({x7 with Type_:=x8}),Own.box b4 ab (ApiNode.mk 0 [] [] 0 0 0 0 0 []),Own.vec v10 ab x12 24] e C) n2 ⟨0,(List.replicate x9 (ApiNode.mk 0 [] [] 0 0 0 0 0 [])),hN2,⟨⟨aa,aa,aa,aa,aa,aa,trivial⟩,Pick.refl _⟩⟩ ?_
  clear hN2
  rintro m e C ⟨x11,x12,hN2,hatl2⟩
  refine W_at hatl2 ?_
  clear hatl2
  obtain⟨m2,w2l,rfl,h2l,hn2,ho2⟩:=bx hN2
  clear hN2
  replace h2l:kg R x7 x8 x2 x11 x12=some w2l:=h2l
  unfold kg at h2l
  refine W_rs ?_
  refine rq (out:=Pr.bool (decide (x11<((({x7 with Type_:=x8}).Kids).length:Int)))) qInt ?_
  refine a5 ?_
  refine ao (b:=decide (x11<((({x7 with Type_:=x8}).Kids).length:Int))) rfl (fun hc15=> ?_) (fun hc15=> ?_)
  ·replace h2l:=iteT hc15 h2l
   refine au ?_
   refine a5 ?_
   refine az ?_
   refine W_rs ?_
   refine rq (out:=Pr.i64 x11) ag ?_
   refine rq (out:=Pr.i64 x11) ae ?_
   refine W_r ?_
   refine rq (out:=Pr.is v10) ag ?_
   refine rq (out:=Pr.i64 x11) ag ?_
   refine rq (out:=ap b3 8) (a4 e8) ?_
   refine rq (out:=aj ab (({x7 with Type_:=x8}).Kids)) (a8 (R:=ab) (a:={x7 with Type_:=x8}) (R':=a9 ab) 0 ty22 bi) ?_
   refine rq (out:=Pr.i64 x11) ag ?_
   obtain⟨x16,hx16,h2l⟩:=af h2l
   refine rq (out:=bj ab x16) (ef (R:=ab) (l:=({x7 with Type_:=x8}).Kids) Tryz.underlying22 Tryz.sizeOf24 hx16) ?_
   refine rq (out:=(ab).val x16) (c5 (R:=ab) (a:=x16) ty24) ?_
   refine rq (out:=Pr.pfn Tryz.prog (spec48 x2)) ag ?_
   obtain⟨x17,hx17,h2l⟩:=af h2l
   refine rq (out:=(ab).val x17) (aw (ih x16 x2 _ hx17)) ?_
   obtain⟨x18,hx18,h2l⟩:=af h2l
   refine rq (out:=nq v10 (Int.toNat x11 * (ab).size)) (qIdxV 2 (R:=ab) (l:=x12) Tryz.underlying22 Tryz.sizeOf24 hx18) ?_
   refine rStoreE (R:=ab) (R':=ab) (l:=x12) (a:=x18) (y:=x17) (o:=0) 2 Tryz.sizeOf24 (Upd.refl _) hx18 rfl ?_
   refine W_r ?_
   refine rq (out:=Pr.i64 (w64 (x11+1))) qInt ?_
   refine rq (out:=Pr.i64 (w64 (x11+1))) ag ?_
   exact⟨m2,Nat.lt_succ_self _,w64 (x11+1),(List.set x12 (Int.toNat x11) x17),hn2 _ (Option.some.inj h2l).symm,⟨⟨aa,aa,aa,aa,aa,aa,trivial⟩,Pick.refl _⟩⟩
  replace h2l:=iteF hc15 h2l
  refine dg ?_
  obtain rfl:=ho2 _ (Option.some.inj h2l).symm
  exact⟨x12,h,⟨⟨aa,aa,aa,trivial⟩,Pick.refl _⟩⟩
 refine W_rs ?_
 refine rq (out:=ap b3 0) (a4 md) ?_
 refine rq (out:=Pr.i64 x1.Kind) (a8 (R:=ab) (a:=x1) (R':=Rp.int .i64) 0 ty3 c8) ?_
 refine rq (out:=Pr.bool (x1.Kind != 24)) qInt ?_
 refine ao (b:=x1.Kind != 24) rfl (fun hc5=> ?_) (fun hc5=> ?_)
 ·replace h:=iteT hc5 h
  refine W_r ?_
  refine rq (out:=Pr.pfn Tryz.prog (spec48 x2)) ag ?_
  refine rq (out:=ap b3 1) (a4 gl) ?_
  refine rq (out:=ai x1.Text) (a8 (R:=ab) (a:=x1) (R':=am) 0 ty9 ct) ?_
  obtain⟨x6,hx6,h⟩:=af h
  refine rq (out:=ai x6) (qCallP (spec:=spec48 x2) ⟨_,_,rfl,rfl,hx6⟩) ?_
  refine rq (out:=ap b3 1) (a4 gl) ?_
  refine aq (R:=ab) (R':=am) (a:=x1) (y:=x6) 0 Tryz.sizeOf9 ia ?_
  exact⟨{x1 with Text:=x6},h,⟨⟨aa,aa,aa,trivial⟩,Pick.refl _⟩⟩
 replace h:=iteF hc5 h
 refine au ?_
 exact⟨x1,h,⟨⟨aa,aa,aa,trivial⟩,Pick.refl _⟩⟩
theorem rec_shape_erase_ok :∀n,rec_shape_erase_spec (gc n):=by
 intro n
 induction n with
 |zero=>exact(fun x1 x2 r h=>nomatch (show none=some r from h))
 |succ n ih=>exact(fun x1 x2 r h=>F_shape_erase_step (gc n) ih x1 x2 r h)
theorem shape_erase_ok (x1:ApiNode) (x2:((List UInt8)->Option (List UInt8))) (r:ApiNode) (h:shape_erase x1 x2=some r):FnP Tryz.prog 26 [(ab).val x1,Pr.pfn Tryz.prog (spec48 x2)] ((ab).val r):=(rec_shape_erase_ok 1048576) x1 x2 r h
theorem shape_Erase_ok (x1:ApiNode) (x2:List (List UInt8)) (r:ApiNode) (h:shape_Erase x1 x2=some r):FnP Tryz.prog 10 [(ab).val x1,aj am x2] ((ab).val r):=by
 refine el (n:=9) (rs:=[.cell 4 24]) Tryz.func10 rfl Tryz.ntmps10 Tryz.results10 (by decide) (fun s0=> ?_)
 unfold shape_Erase at h
 refine W_rs ?_
 refine rBox (R:=ab) (a:=x1) rfl (fun b3=> ?_)
 refine cb (R:=ab) (z:=(ApiNode.mk 0 [] [] 0 0 0 0 0 [])) Tryz.zeroValue24 (fun _=>(by rw[al];exact⟨_,⟨_,_,rfl,rfl,⟨_,_,rfl,rfl,⟨_,_,rfl,rfl,⟨_,_,rfl,rfl,⟨_,_,rfl,rfl,⟨_,_,rfl,rfl,⟨_,_,rfl,rfl,⟨_,_,rfl,rfl,⟨_,_,rfl,⟨_,rfl,none,0,rfl,⟨Nat.le_refl _,fun _=>rfl⟩,.inl rfl⟩,rfl⟩⟩⟩⟩⟩⟩⟩⟩⟩,rfl⟩)) (fun b4=> ?_)
 refine bc (fun e C=>∃(x6:ApiNode),shape_Erase_j1 x6=some r/\At [(4,ap b4 0)] [Own.box b3 ab x1,Own.box b4 ab x6] e C) ?_ ?_
 ·rintro e C ⟨x6,h,hat1⟩
  refine W_at hat1 ?_
  clear hat1
  unfold shape_Erase_j1 at h
  obtain rfl:=Option.some.inj h
  exact a6 ⟨rfl,[(ab).val x6],⟨yBox 1 ty24 aa,trivial⟩,aa⟩
 refine jm 4 hmx (by kernel_rfl) (by kernel_rfl) ?_
 refine qq (out:=(ab).val x1) (a8 (R:=ab) (a:=x1) (R':=ab) 0 ty24 (Sub.refl _)) ?_
 refine qq (out:=aj am x2) ag ?_
 obtain⟨x5,hx5,h⟩:=af h
 refine qq (out:=Pr.pfn Tryz.prog (spec48 x5)) (aw (shape_eraser_ok x2 _ hx5)) ?_
 obtain⟨x6,hx6,h⟩:=af h
 refine qq (out:=(ab).val x6) (aw (shape_erase_ok x1 x5 _ hx6)) ?_
 refine aq (R:=ab) (R':=ab) (a:=(ApiNode.mk 0 [] [] 0 0 0 0 0 [])) (y:=x6) 1 Tryz.sizeOf24 (Upd.refl _) ?_
 exact⟨x6,h,⟨⟨aa,trivial⟩,Pick.refl _⟩⟩
theorem print_list_ok (x1:List ApiNode) (x2:(ApiNode->Option (List UInt8))) (r:(List UInt8)) (h:print_list x1 x2=some r):FnP Tryz.prog 48 [aj ab x1,Pr.pfn Tryz.prog (spec51 x2)] (ai r):=by
 refine bo (n:=25) (rs:=[4]) Tryz.func48 rfl Tryz.ntmps48 ⟨by decide,Tryz.results48⟩ (by decide) (fun s0=> ?_)
 unfold print_list at h
 refine W_rs ?_
 refine rq (out:=ai []) ae ?_
 refine W_rs ?_
 refine rq (out:=Pr.is (.slice none 0 0)) ae ?_
 refine a5 ?_
 refine W_rs ?_
 refine rq (out:=aj ab x1) ag ?_
 refine rq (out:=Pr.i64 (x1.length:Int)) (fi rfl Tryz.underlying22) ?_
 refine rq (out:=Pr.i64 0) ag ?_
 refine az ?_
 obtain⟨z2l,hz2,h⟩:=af h
 obtain⟨n2,hN2⟩:=cc hz2
 clear hz2
 refine du 0 (fun e C=>∃(x5:List (List UInt8)),∃(v3:Value),print_list_k1 x5=some r/\At [(5,Pr.is v3)] [Own.vec v3 am x5 9] e C) ?_ ?_
 ·rintro e C ⟨x5,v3,h,hat1⟩
  refine W_at hat1 ?_
  clear hat1
  unfold print_list_k1 at h
  refine W_rs ?_
  refine rq (out:=Pr.is v3) ag ?_
  obtain⟨x15,hx15,h⟩:=af h
  refine rq (out:=ai x15) (qCallB 0 (strings_Join_ok x5 ([44,32]:List UInt8) _ hx15) ⟨.inr ⟨aa,rfl⟩,.inl aa,trivial⟩ (fun _ _ _ h=>h)) ?_
  obtain⟨x16,hx16,h⟩:=af h
  refine rq (out:=ai x16) (ew hx16) ?_
  obtain⟨x17,hx17,h⟩:=af h
  refine rq (out:=ai x17) (ew hx17) ?_
  refine rq (out:=ai x17) ae ?_
  obtain rfl:=Option.some.inj h
  exact a6 ⟨rfl,aa⟩
 refine W_nil [5] am 9 (fun v18=> ?_) ⟨rfl,trivial⟩
 refine eh (fun m e C=>∃(x4:Int),∃(x5:List (List UInt8)),∃(v3:Value),en (fun s=>ir x1 x2 s.1 s.2) m (x4,x5)=some z2l/\At [(1,Pr.pfn Tryz.prog (spec51 x2)),(5,Pr.is v3),(8,aj ab x1),(9,Pr.i64 (x1.length:Int)),(10,Pr.i64 x4)] [Own.vec v3 am x5 9] e C) n2 ⟨0,[],v18,hN2,⟨⟨aa,aa,aa,aa,aa,trivial⟩,Pick.refl _⟩⟩ ?_
 clear hN2
 rintro m e C ⟨x4,x5,v3,hN2,hatl2⟩
 refine W_at hatl2 ?_
 clear hatl2
 obtain⟨m2,w2l,rfl,h2l,hn2,ho2⟩:=bx hN2
 clear hN2
 replace h2l:ir x1 x2 x4 x5=some w2l:=h2l
 unfold ir at h2l
 refine W_rs ?_
 refine rq (out:=Pr.bool (decide (x4<(x1.length:Int)))) qInt ?_
 refine a5 ?_
 refine ao (b:=decide (x4<(x1.length:Int))) rfl (fun hc9=> ?_) (fun hc9=> ?_)
 ·replace h2l:=iteT hc9 h2l
  refine au ?_
  refine a5 ?_
  refine az ?_
  refine W_rs ?_
  obtain⟨x10,hx10,h2l⟩:=af h2l
  refine rq (out:=bj ab x10) (ef (R:=ab) (l:=x1) Tryz.underlying22 Tryz.sizeOf24 hx10) ?_
  refine rq (out:=(ab).val x10) (c5 (R:=ab) (a:=x10) ty24) ?_
  refine cb (R:=ab) (z:=(ApiNode.mk 0 [] [] 0 0 0 0 0 [])) Tryz.zeroValue24 (fun _=>(by rw[al];exact⟨_,⟨_,_,rfl,rfl,⟨_,_,rfl,rfl,⟨_,_,rfl,rfl,⟨_,_,rfl,rfl,⟨_,_,rfl,rfl,⟨_,_,rfl,rfl,⟨_,_,rfl,rfl,⟨_,_,rfl,rfl,⟨_,_,rfl,⟨_,rfl,none,0,rfl,⟨Nat.le_refl _,fun _=>rfl⟩,.inl rfl⟩,rfl⟩⟩⟩⟩⟩⟩⟩⟩⟩,rfl⟩)) (fun b11=> ?_)
  refine aq (R:=ab) (R':=ab) (a:=(ApiNode.mk 0 [] [] 0 0 0 0 0 [])) (y:=x10) 1 Tryz.sizeOf24 (Upd.refl _) ?_
  refine W_r ?_
  refine rq (out:=Pr.is v3) ag ?_
  refine rq (out:=Pr.pfn Tryz.prog (spec51 x2)) ag ?_
  refine rq (out:=(ab).val x10) (a8 (R:=ab) (a:=x10) (R':=ab) 1 ty24 (Sub.refl _)) ?_
  obtain⟨x12,hx12,h2l⟩:=af h2l
  refine rq (out:=ai x12) (qCallP (spec:=spec51 x2) ⟨_,_,rfl,rfl,hx12⟩) ?_
  refine rq (out:=aj am ([x12]:List (List UInt8))) (cr (R:=am) (a:=x12) el25 (Nat.le_of_ble_eq_true rfl)) ?_
  obtain⟨x13,hx13,h2l⟩:=af h2l
  refine ip 0 el25 hx13 (fun v14=> ?_)
  refine rq (out:=Pr.is v14) ae ?_
  refine W_r ?_
  refine rq (out:=Pr.i64 (w64 (x4+1))) qInt ?_
  refine rq (out:=Pr.i64 (w64 (x4+1))) ag ?_
  exact⟨m2,Nat.lt_succ_self _,w64 (x4+1),x13,v14,hn2 _ (Option.some.inj h2l).symm,⟨⟨aa,aa,aa,aa,aa,trivial⟩,Pick.of [0] rfl⟩⟩
 replace h2l:=iteF hc9 h2l
 refine dg ?_
 obtain rfl:=ho2 _ (Option.some.inj h2l).symm
 exact⟨x5,v3,h,⟨⟨aa,trivial⟩,Pick.refl _⟩⟩
theorem print_Member_1_ok (x1:ApiNode) (r:(List UInt8)) (h:ky x1=some r):FnP Tryz.prog 49 [(ab).val x1] (ai r):=by
 refine bo (n:=9) (rs:=[2]) Tryz.func49 rfl Tryz.ntmps49 ⟨by decide,Tryz.results49⟩ (by decide) (fun s0=> ?_)
 unfold ky at h
 refine W_rs ?_
 refine rBox (R:=ab) (a:=x1) rfl (fun b2=> ?_)
 refine rq (out:=ai []) ae ?_
 refine W_rs ?_
 refine rq (out:=ap b2 2) (a4 fld24_2) ?_
 refine rq (out:=ai x1.Type_) (a8 (R:=ab) (a:=x1) (R':=am) 0 ty9 ib) ?_
 obtain⟨x3,hx3,h⟩:=af h
 refine rq (out:=ai x3) (ew hx3) ?_
 refine rq (out:=ap b2 1) (a4 gl) ?_
 refine rq (out:=ai x1.Text) (a8 (R:=ab) (a:=x1) (R':=am) 0 ty9 ct) ?_
 obtain⟨x4,hx4,h⟩:=af h
 refine rq (out:=ai x4) (ew hx4) ?_
 refine rq (out:=ai x4) ae ?_
 obtain rfl:=Option.some.inj h
 exact a6 ⟨rfl,aa⟩
theorem print_Binds_ok (x1:List UInt8) (r:Int) (h:print_Binds x1=some r):FnP Tryz.prog 147 [ai x1] (Pr.i64 r):=by
 refine bo (n:=37) (rs:=[2]) Tryz.func147 rfl Tryz.ntmps147 ⟨by decide,Tryz.results147⟩ (by decide) (fun s0=> ?_)
 unfold print_Binds at h
 refine W_rs ?_
 refine rq (out:=Pr.i64 0) ae ?_
 refine W_rs ?_
 refine rq (out:=Pr.i64 0) ae ?_
 refine bc (fun e C=>∃(x24:Int),mu x24=some r/\At [(3,Pr.i64 x24)] [] e C) ?_ ?_
 ·rintro e C ⟨x24,h,hat1⟩
  refine W_at hat1 ?_
  clear hat1
  unfold mu at h
  refine W_rs ?_
  refine rq (out:=Pr.i64 x24) ag ?_
  refine rq (out:=Pr.i64 x24) ae ?_
  obtain rfl:=Option.some.inj h
  exact a6 ⟨rfl,aa⟩
 refine W_rs ?_
 refine rq (out:=ai x1) ag ?_
 refine az ?_
 refine bc (fun e C=>∃(x23:Int),print_Binds_j2 x23=some r/\At [(3,Pr.i64 x23)] [] e C) ?_ ?_
 ·rintro e C ⟨x23,h,hat2⟩
  refine W_at hat2 ?_
  clear hat2
  unfold print_Binds_j2 at h
  refine W_rs ?_
  refine rq (out:=Pr.i64 x23) ag ?_
  refine rq (out:=Pr.i64 (w64 (x23+1))) qInt ?_
  refine rq (out:=Pr.i64 (w64 (x23+1))) ae ?_
  refine dg ?_
  exact⟨w64 (x23+1),h,⟨⟨aa,trivial⟩,Pick.refl _⟩⟩
 refine az ?_
 refine bc (fun e C=>∃(x22:Int),print_Binds_j3 x22=some r/\At [(3,Pr.i64 x22)] [] e C) ?_ ?_
 ·rintro e C ⟨x22,h,hat3⟩
  refine W_at hat3 ?_
  clear hat3
  unfold print_Binds_j3 at h
  refine W_r ?_
  refine rq (out:=Pr.i64 x22) ag ?_
  refine rq (out:=Pr.i64 (w64 (x22+1))) qInt ?_
  refine rq (out:=Pr.i64 (w64 (x22+1))) ae ?_
  exact⟨w64 (x22+1),h,⟨⟨aa,trivial⟩,Pick.refl _⟩⟩
 refine az ?_
 refine bc (fun e C=>∃(x21:Int),print_Binds_j4 x21=some r/\At [(3,Pr.i64 x21)] [] e C) ?_ ?_
 ·rintro e C ⟨x21,h,hat4⟩
  refine W_at hat4 ?_
  clear hat4
  unfold print_Binds_j4 at h
  refine W_r ?_
  refine rq (out:=Pr.i64 x21) ag ?_
  refine rq (out:=Pr.i64 (w64 (x21+1))) qInt ?_
  refine rq (out:=Pr.i64 (w64 (x21+1))) ae ?_
  exact⟨w64 (x21+1),h,⟨⟨aa,trivial⟩,Pick.refl _⟩⟩
 refine az ?_
 refine bc (fun e C=>∃(x20:Int),print_Binds_j5 x20=some r/\At [(3,Pr.i64 x20)] [] e C) ?_ ?_
 ·rintro e C ⟨x20,h,hat5⟩
  refine W_at hat5 ?_
  clear hat5
  unfold print_Binds_j5 at h
  refine W_r ?_
  refine rq (out:=Pr.i64 x20) ag ?_
  refine rq (out:=Pr.i64 (w64 (x20+1))) qInt ?_
  refine rq (out:=Pr.i64 (w64 (x20+1))) ae ?_
  exact⟨w64 (x20+1),h,⟨⟨aa,trivial⟩,Pick.refl _⟩⟩
 refine az ?_
 refine bc (fun e C=>∃(x19:Int),print_Binds_j6 x19=some r/\At [(3,Pr.i64 x19)] [] e C) ?_ ?_
 ·rintro e C ⟨x19,h,hat6⟩
  refine W_at hat6 ?_
  clear hat6
  unfold print_Binds_j6 at h
  refine W_r ?_
  refine rq (out:=Pr.i64 x19) ag ?_
  refine rq (out:=Pr.i64 (w64 (x19+1))) qInt ?_
  refine rq (out:=Pr.i64 (w64 (x19+1))) ae ?_
  exact⟨w64 (x19+1),h,⟨⟨aa,trivial⟩,Pick.refl _⟩⟩
 refine az ?_
 refine a5 ?_
 refine az ?_
 refine a5 ?_
 refine a5 ?_
 refine bc (fun e C=>∃(x4:Bool),jg x1 x4=some r/\At [(3,Pr.i64 0),(4,ai x1),(5,Pr.bool x4)] [] e C) ?_ ?_
 ·rintro e C ⟨x4,h,hat10⟩
  refine W_at hat10 ?_
  clear hat10
  unfold jg at h
  refine ao (b:=x4) rfl (fun hc5=> ?_) (fun hc5=> ?_)
  ·replace h:=iteT hc5 h
   refine dg ?_
   refine W_r ?_
   refine rq (out:=Pr.i64 0) ag ?_
   refine rq (out:=Pr.i64 (w64 (0+1))) qInt ?_
   refine rq (out:=Pr.i64 (w64 (0+1))) ae ?_
   exact⟨w64 (0+1),h,⟨⟨aa,trivial⟩,Pick.refl _⟩⟩
  replace h:=iteF hc5 h
  refine au ?_
  refine a5 ?_
  refine bc (fun e C=>∃(x7:Bool),mr x1 x7=some r/\At [(3,Pr.i64 0),(4,ai x1),(9,Pr.bool x7)] [] e C) ?_ ?_
  ·rintro e C ⟨x7,h,hat9⟩
   refine W_at hat9 ?_
   clear hat9
   unfold mr at h
   refine ao (b:=x7) rfl (fun hc8=> ?_) (fun hc8=> ?_)
   ·replace h:=iteT hc8 h
    refine dg ?_
    exact⟨0,h,⟨⟨aa,trivial⟩,Pick.refl _⟩⟩
   replace h:=iteF hc8 h
   refine au ?_
   refine a5 ?_
   refine bc (fun e C=>∃(x12:Bool),i6 x1 x12=some r/\At [(3,Pr.i64 0),(4,ai x1),(12,Pr.bool x12)] [] e C) ?_ ?_
   ·rintro e C ⟨x12,h,hat8⟩
    refine W_at hat8 ?_
    clear hat8
    unfold i6 at h
    refine ao (b:=x12) rfl (fun hc13=> ?_) (fun hc13=> ?_)
    ·replace h:=iteT hc13 h
     refine dg ?_
     exact⟨0,h,⟨⟨aa,trivial⟩,Pick.refl _⟩⟩
    replace h:=iteF hc13 h
    refine au ?_
    refine a5 ?_
    refine bc (fun e C=>∃(x15:Bool),mt x1 x15=some r/\At [(3,Pr.i64 0),(4,ai x1),(17,Pr.bool x15)] [] e C) ?_ ?_
    ·rintro e C ⟨x15,h,hat7⟩
     refine W_at hat7 ?_
     clear hat7
     unfold mt at h
     refine ao (b:=x15) rfl (fun hc16=> ?_) (fun hc16=> ?_)
     ·replace h:=iteT hc16 h
      refine dg ?_
      exact⟨0,h,⟨⟨aa,trivial⟩,Pick.refl _⟩⟩
     replace h:=iteF hc16 h
     refine au ?_
     refine a5 ?_
     refine W_rs ?_
     refine rq (out:=Pr.bool (x1==([38,38]:List UInt8))) qStr ?_
     refine rq (out:=Pr.bool (x1==([38,38]:List UInt8))) ae ?_
     refine ao (b:=x1==([38,38]:List UInt8)) rfl (fun hc17=> ?_) (fun hc17=> ?_)
     ·replace h:=iteT hc17 h
      refine dg ?_
      exact⟨0,h,⟨⟨aa,trivial⟩,Pick.refl _⟩⟩
     replace h:=iteF hc17 h
     refine au ?_
     refine W_rs ?_
     refine rq (out:=Pr.bool (x1==([124,124]:List UInt8))) qStr ?_
     refine rq (out:=Pr.bool (x1==([124,124]:List UInt8))) ae ?_
     refine ao (b:=x1==([124,124]:List UInt8)) rfl (fun hc18=> ?_) (fun hc18=> ?_)
     ·replace h:=iteT hc18 h
      refine dg ?_
      exact⟨0,h,⟨⟨aa,trivial⟩,Pick.refl _⟩⟩
     replace h:=iteF hc18 h
     refine au ?_
     refine dg ?_
     exact⟨0,h,⟨⟨aa,trivial⟩,Pick.refl _⟩⟩
    refine W_rs ?_
    refine rq (out:=Pr.bool (x1==([61,61]:List UInt8))) qStr ?_
    refine rq (out:=Pr.bool (x1==([61,61]:List UInt8))) ae ?_
    refine ao (b:=x1==([61,61]:List UInt8)) rfl (fun hc14=> ?_) (fun hc14=> ?_)
    ·replace h:=iteT hc14 h
     refine au ?_
     exact⟨x1==([61,61]:List UInt8),h,⟨⟨aa,aa,aa,trivial⟩,Pick.refl _⟩⟩
    replace h:=iteF hc14 h
    refine W_r ?_
    refine rq (out:=Pr.bool (x1==([33,61]:List UInt8))) qStr ?_
    refine rq (out:=Pr.bool (x1==([33,61]:List UInt8))) ae ?_
    exact⟨x1==([33,61]:List UInt8),h,⟨⟨aa,aa,aa,trivial⟩,Pick.refl _⟩⟩
   refine W_rs ?_
   refine rq (out:=Pr.bool (x1==([60]:List UInt8))) qStr ?_
   refine rq (out:=Pr.bool (x1==([60]:List UInt8))) ae ?_
   refine ao (b:=x1==([60]:List UInt8)) rfl (fun hc9=> ?_) (fun hc9=> ?_)
   ·replace h:=iteT hc9 h
    refine au ?_
    exact⟨x1==([60]:List UInt8),h,⟨⟨aa,aa,aa,trivial⟩,Pick.refl _⟩⟩
   replace h:=iteF hc9 h
   refine W_rs ?_
   refine rq (out:=Pr.bool (x1==([60,61]:List UInt8))) qStr ?_
   refine rq (out:=Pr.bool (x1==([60,61]:List UInt8))) ae ?_
   refine ao (b:=x1==([60,61]:List UInt8)) rfl (fun hc10=> ?_) (fun hc10=> ?_)
   ·replace h:=iteT hc10 h
    refine au ?_
    exact⟨x1==([60,61]:List UInt8),h,⟨⟨aa,aa,aa,trivial⟩,Pick.refl _⟩⟩
   replace h:=iteF hc10 h
   refine W_rs ?_
   refine rq (out:=Pr.bool (x1==([62]:List UInt8))) qStr ?_
   refine rq (out:=Pr.bool (x1==([62]:List UInt8))) ae ?_
   refine ao (b:=x1==([62]:List UInt8)) rfl (fun hc11=> ?_) (fun hc11=> ?_)
   ·replace h:=iteT hc11 h
    refine au ?_
    exact⟨x1==([62]:List UInt8),h,⟨⟨aa,aa,aa,trivial⟩,Pick.refl _⟩⟩
   replace h:=iteF hc11 h
   refine W_r ?_
   refine rq (out:=Pr.bool (x1==([62,61]:List UInt8))) qStr ?_
   refine rq (out:=Pr.bool (x1==([62,61]:List UInt8))) ae ?_
   exact⟨x1==([62,61]:List UInt8),h,⟨⟨aa,aa,aa,trivial⟩,Pick.refl _⟩⟩
  refine W_rs ?_
  refine rq (out:=Pr.bool (x1==([43]:List UInt8))) qStr ?_
  refine rq (out:=Pr.bool (x1==([43]:List UInt8))) ae ?_
  refine ao (b:=x1==([43]:List UInt8)) rfl (fun hc6=> ?_) (fun hc6=> ?_)
  ·replace h:=iteT hc6 h
   refine au ?_
   exact⟨x1==([43]:List UInt8),h,⟨⟨aa,aa,aa,trivial⟩,Pick.refl _⟩⟩
  replace h:=iteF hc6 h
  refine W_r ?_
  refine rq (out:=Pr.bool (x1==([45]:List UInt8))) qStr ?_
  refine rq (out:=Pr.bool (x1==([45]:List UInt8))) ae ?_
  exact⟨x1==([45]:List UInt8),h,⟨⟨aa,aa,aa,trivial⟩,Pick.refl _⟩⟩
 refine W_rs ?_
 refine rq (out:=Pr.bool (x1==([42]:List UInt8))) qStr ?_
 refine rq (out:=Pr.bool (x1==([42]:List UInt8))) ae ?_
 refine ao (b:=x1==([42]:List UInt8)) rfl (fun hc2=> ?_) (fun hc2=> ?_)
 ·replace h:=iteT hc2 h
  refine au ?_
  exact⟨x1==([42]:List UInt8),h,⟨⟨aa,aa,aa,trivial⟩,Pick.refl _⟩⟩
 replace h:=iteF hc2 h
 refine W_rs ?_
 refine rq (out:=Pr.bool (x1==([47]:List UInt8))) qStr ?_
 refine rq (out:=Pr.bool (x1==([47]:List UInt8))) ae ?_
 refine ao (b:=x1==([47]:List UInt8)) rfl (fun hc3=> ?_) (fun hc3=> ?_)
 ·replace h:=iteT hc3 h
  refine au ?_
  exact⟨x1==([47]:List UInt8),h,⟨⟨aa,aa,aa,trivial⟩,Pick.refl _⟩⟩
 replace h:=iteF hc3 h
 refine W_r ?_
 refine rq (out:=Pr.bool (x1==([37]:List UInt8))) qStr ?_
 refine rq (out:=Pr.bool (x1==([37]:List UInt8))) ae ?_
 exact⟨x1==([37]:List UInt8),h,⟨⟨aa,aa,aa,trivial⟩,Pick.refl _⟩⟩
theorem print_binding_ok (x1:ApiNode) (r:Int) (h:print_binding x1=some r):FnP Tryz.prog 139 [(ab).val x1] (Pr.i64 r):=by
 refine bo (n:=13) (rs:=[2]) Tryz.func139 rfl Tryz.ntmps139 ⟨by decide,Tryz.results139⟩ (by decide) (fun s0=> ?_)
 unfold print_binding at h
 refine W_rs ?_
 refine rBox (R:=ab) (a:=x1) rfl (fun b2=> ?_)
 refine rq (out:=Pr.i64 0) ae ?_
 refine a5 ?_
 refine W_rs ?_
 refine rq (out:=ap b2 0) (a4 md) ?_
 refine rq (out:=Pr.i64 x1.Kind) (a8 (R:=ab) (a:=x1) (R':=Rp.int .i64) 0 ty3 c8) ?_
 refine az ?_
 refine W_rs ?_
 refine rq (out:=Pr.bool (x1.Kind==24)) qInt ?_
 refine rq (out:=Pr.bool (x1.Kind==24)) ae ?_
 refine ao (b:=x1.Kind==24) rfl (fun hc3=> ?_) (fun hc3=> ?_)
 ·replace h:=iteT hc3 h
  refine W_rs ?_
  refine rq (out:=ap b2 1) (a4 gl) ?_
  refine rq (out:=ai x1.Text) (a8 (R:=ab) (a:=x1) (R':=am) 0 ty9 ct) ?_
  obtain⟨x4,hx4,h⟩:=af h
  refine rq (out:=Pr.i64 x4) (aw (print_Binds_ok x1.Text _ hx4)) ?_
  refine rq (out:=Pr.i64 x4) ae ?_
  obtain rfl:=Option.some.inj h
  exact a6 ⟨rfl,aa⟩
 replace h:=iteF hc3 h
 refine bc (fun e C=>∃(x6:Bool),ke x6=some r/\At [(10,Pr.bool x6)] [Own.box b2 ab x1] e C) ?_ ?_
 ·rintro e C ⟨x6,h,hat1⟩
  refine W_at hat1 ?_
  clear hat1
  unfold ke at h
  refine ao (b:=x6) rfl (fun hc7=> ?_) (fun hc7=> ?_)
  ·replace h:=iteT hc7 h
   refine W_rs ?_
   refine rq (out:=Pr.i64 7) ae ?_
   obtain rfl:=Option.some.inj h
   exact a6 ⟨rfl,aa⟩
  replace h:=iteF hc7 h
  refine au ?_
  refine W_rs ?_
  refine rq (out:=Pr.i64 8) ae ?_
  obtain rfl:=Option.some.inj h
  exact a6 ⟨rfl,aa⟩
 refine W_rs ?_
 refine rq (out:=Pr.bool (x1.Kind==22)) qInt ?_
 refine rq (out:=Pr.bool (x1.Kind==22)) ae ?_
 refine ao (b:=x1.Kind==22) rfl (fun hc5=> ?_) (fun hc5=> ?_)
 ·replace h:=iteT hc5 h
  refine au ?_
  exact⟨x1.Kind==22,h,⟨⟨aa,trivial⟩,Pick.refl _⟩⟩
 replace h:=iteF hc5 h
 refine W_r ?_
 refine rq (out:=Pr.bool (x1.Kind==23)) qInt ?_
 refine rq (out:=Pr.bool (x1.Kind==23)) ae ?_
 exact⟨x1.Kind==23,h,⟨⟨aa,trivial⟩,Pick.refl _⟩⟩
theorem strconv_FormatInt_ok (x1 x2:Int) (r:(List UInt8)) (h:jh x1 x2=some r):FnP Tryz.prog 143 [Pr.i64 x1,Pr.i64 x2] (ai r):=by
 refine bo (n:=8) (rs:=[4]) Tryz.func143 rfl Tryz.ntmps143 ⟨by decide,Tryz.results143⟩ (by decide) (fun s0=> ?_)
 unfold jh at h
 refine W_rs ?_
 refine rq (out:=ai []) ae ?_
 refine W_rs ?_
 refine rq (out:=Pr.i64 x1) ag ?_
 refine rq (out:=Pr.i64 x2) ag ?_
 obtain⟨x3,hx3,h⟩:=af h
 refine rq (out:=ai x3) (aw (internal_strconv_FormatInt_ok x1 x2 _ hx3)) ?_
 refine rq (out:=ai x3) ae ?_
 obtain rfl:=Option.some.inj h
 exact a6 ⟨rfl,aa⟩
theorem internal_strconv_FormatBool_ok (x1:Bool) (r:(List UInt8)) (h:eb x1=some r):FnP Tryz.prog 152 [Pr.bool x1] (ai r):=by
 refine bo (n:=4) (rs:=[2]) Tryz.func152 rfl Tryz.ntmps152 ⟨by decide,Tryz.results152⟩ (by decide) (fun s0=> ?_)
 unfold eb at h
 refine W_rs ?_
 refine rq (out:=ai []) ae ?_
 refine a5 ?_
 refine W_rs ?_
 refine rq (out:=Pr.bool x1) ag ?_
 refine ao (b:=x1) rfl (fun hc2=> ?_) (fun hc2=> ?_)
 ·replace h:=iteT hc2 h
  refine W_rs ?_
  refine rq (out:=ai ([116,114,117,101]:List UInt8)) ae ?_
  obtain rfl:=Option.some.inj h
  exact a6 ⟨rfl,aa⟩
 replace h:=iteF hc2 h
 refine au ?_
 refine W_rs ?_
 refine rq (out:=ai ([102,97,108,115,101]:List UInt8)) ae ?_
 obtain rfl:=Option.some.inj h
 exact a6 ⟨rfl,aa⟩
theorem strconv_FormatBool_ok (x1:Bool) (r:(List UInt8)) (h:iv x1=some r):FnP Tryz.prog 144 [Pr.bool x1] (ai r):=by
 refine bo (n:=5) (rs:=[2]) Tryz.func144 rfl Tryz.ntmps144 ⟨by decide,Tryz.results144⟩ (by decide) (fun s0=> ?_)
 unfold iv at h
 refine W_rs ?_
 refine rq (out:=ai []) ae ?_
 refine W_rs ?_
 refine rq (out:=Pr.bool x1) ag ?_
 obtain⟨x2,hx2,h⟩:=af h
 refine rq (out:=ai x2) (aw (internal_strconv_FormatBool_ok x1 _ hx2)) ?_
 refine rq (out:=ai x2) ae ?_
 obtain rfl:=Option.some.inj h
 exact a6 ⟨rfl,aa⟩
theorem print_negative_ok (x1:ApiNode) (r:Bool) (h:kw x1=some r):FnP Tryz.prog 146 [(ab).val x1] (Pr.bool r):=by
 refine bo (n:=16) (rs:=[2]) Tryz.func146 rfl Tryz.ntmps146 ⟨by decide,Tryz.results146⟩ (by decide) (fun s0=> ?_)
 unfold kw at h
 refine W_rs ?_
 refine rBox (R:=ab) (a:=x1) rfl (fun b2=> ?_)
 refine rq (out:=Pr.bool false) ae ?_
 refine bc (fun e C=>∃(x5:Bool),gx x5=some r/\At [(2,Pr.bool x5)] [Own.box b2 ab x1] e C) ?_ ?_
 ·rintro e C ⟨x5,h,hat1⟩
  refine W_at hat1 ?_
  clear hat1
  unfold gx at h
  obtain rfl:=Option.some.inj h
  exact a6 ⟨rfl,aa⟩
 refine W_r ?_
 refine rq (out:=ap b2 0) (a4 md) ?_
 refine rq (out:=Pr.i64 x1.Kind) (a8 (R:=ab) (a:=x1) (R':=Rp.int .i64) 0 ty3 c8) ?_
 refine rq (out:=Pr.bool (x1.Kind==23)) qInt ?_
 refine rq (out:=Pr.bool (x1.Kind==23)) ag ?_
 rcases bv h with⟨hc3,h⟩|⟨hc3,h⟩
 ·refine rno (neF hc3) ?_
  refine rno (neF hc3) ?_
  refine rno (neF hc3) ?_
  refine rno (neF hc3) ?_
  refine rnoU ?_
  refine rnoU ?_
  refine rnoU ?_
  refine rno (neF hc3) ?_
  refine rq (out:=Pr.bool true) (bu hc3) ?_
  refine rq (out:=Pr.bool true) ae ?_
  exact⟨true,h,⟨⟨aa,trivial⟩,Pick.refl _⟩⟩
 refine rqg hc3 (out:=ap b2 0) (a4 md) ?_
 refine rqg hc3 (out:=Pr.i64 x1.Kind) (a8 (R:=ab) (a:=x1) (R':=Rp.int .i64) 0 ty3 c8) ?_
 refine rqg hc3 (out:=Pr.bool (x1.Kind==13)) qInt ?_
 refine rqg hc3 (out:=Pr.bool (x1.Kind==13)) ag ?_
 rcases bv h with⟨hc4,h⟩|⟨hc4,h⟩
 ·refine rqg hc4 (out:=ap b2 3) (a4 fld24_3) ?_
  refine rqg hc4 (out:=Pr.i64 x1.N) (a8 (R:=ab) (a:=x1) (R':=Rp.int .i64) 0 ty2 subApiNode_N) ?_
  refine rqg hc4 (out:=Pr.bool (decide (x1.N<0))) qInt ?_
  refine rqg hc3 (out:=Pr.bool (decide (x1.N<0))) (bu hc4) ?_
  refine rq (out:=Pr.bool (decide (x1.N<0))) (bp hc3) ?_
  refine rq (out:=Pr.bool (decide (x1.N<0))) ae ?_
  exact⟨decide (x1.N<0),h,⟨⟨aa,trivial⟩,Pick.refl _⟩⟩
 refine rno (neT hc4) ?_
 refine rno (neT hc4) ?_
 refine rno (neT hc4) ?_
 refine rqg hc3 (out:=Pr.bool false) (bp hc4) ?_
 refine rq (out:=Pr.bool false) (bp hc3) ?_
 refine rq (out:=Pr.bool false) ae ?_
 exact⟨false,h,⟨⟨aa,trivial⟩,Pick.refl _⟩⟩
def la (R:cl):Prop:=(∀(x1:ApiNode) (x2:Int) (x3:Int) (r:(List UInt8)),R.1 x1 x2 x3=some r->FnP Tryz.prog 129 [(ab).val x1,Pr.i64 x2,Pr.i64 x3] (ai r))/\(∀(x1:ApiNode) (r:(List UInt8)),R.2.1 x1=some r->FnP Tryz.prog 138 [(ab).val x1] (ai r))/\(∀(x1:ApiNode) (x2:Int) (r:(List UInt8)),R.2.2 x1 x2=some r->FnP Tryz.prog 145 [(ab).val x1,Pr.i64 x2] (ai r))
theorem F_print_kid_step (R:cl) (ih:la R) (x1:ApiNode) (x2 x3:Int) (r:(List UInt8)) (h:ni R x1 x2 x3=some r):FnP Tryz.prog 129 [(ab).val x1,Pr.i64 x2,Pr.i64 x3] (ai r):=by
 refine bo (n:=31) (rs:=[6]) Tryz.func129 rfl Tryz.ntmps129 ⟨by decide,Tryz.results129⟩ (by decide) (fun s0=> ?_)
 unfold ni at h
 refine W_rs ?_
 refine rBox (R:=ab) (a:=x1) rfl (fun b4=> ?_)
 refine rq (out:=ai []) ae ?_
 refine a5 ?_
 refine W_rs ?_
 refine rq (out:=Pr.i64 x2) ag ?_
 refine rq (out:=ap b4 8) (a4 e8) ?_
 refine rq (out:=aj ab x1.Kids) (a8 (R:=ab) (a:=x1) (R':=a9 ab) 0 ty22 bi) ?_
 refine rq (out:=Pr.i64 (x1.Kids.length:Int)) (fi rfl Tryz.underlying22) ?_
 refine rq (out:=Pr.bool (decide (x2≥(x1.Kids.length:Int)))) qInt ?_
 refine ao (b:=decide (x2≥(x1.Kids.length:Int))) rfl (fun hc5=> ?_) (fun hc5=> ?_)
 ·replace h:=iteT hc5 h
  refine W_rs ?_
  refine rq (out:=ai []) ae ?_
  obtain rfl:=Option.some.inj h
  exact a6 ⟨rfl,aa⟩
 replace h:=iteF hc5 h
 refine au ?_
 refine W_rs ?_
 refine rq (out:=ap b4 8) (a4 e8) ?_
 refine rq (out:=aj ab x1.Kids) (a8 (R:=ab) (a:=x1) (R':=a9 ab) 0 ty22 bi) ?_
 refine rq (out:=Pr.i64 x2) ag ?_
 obtain⟨x6,hx6,h⟩:=af h
 refine rq (out:=bj ab x6) (ef (R:=ab) (l:=x1.Kids) Tryz.underlying22 Tryz.sizeOf24 hx6) ?_
 refine rq (out:=(ab).val x6) (c5 (R:=ab) (a:=x6) ty24) ?_
 obtain⟨x7,hx7,h⟩:=af h
 refine rq (out:=ai x7) (aw (ih.2.1 x6 _ hx7)) ?_
 refine rq (out:=ai x7) ae ?_
 refine a5 ?_
 refine W_rs ?_
 refine rq (out:=ap b4 8) (a4 e8) ?_
 refine rq (out:=aj ab x1.Kids) (a8 (R:=ab) (a:=x1) (R':=a9 ab) 0 ty22 bi) ?_
 refine rq (out:=Pr.i64 x2) ag ?_
 obtain⟨x8,hx8,h⟩:=af h
 refine rq (out:=bj ab x8) (ef (R:=ab) (l:=x1.Kids) Tryz.underlying22 Tryz.sizeOf24 hx8) ?_
 refine rq (out:=(ab).val x8) (c5 (R:=ab) (a:=x8) ty24) ?_
 obtain⟨x9,hx9,h⟩:=af h
 refine rq (out:=Pr.i64 x9) (aw (print_binding_ok x8 _ hx9)) ?_
 refine rq (out:=Pr.i64 x3) ag ?_
 refine rq (out:=Pr.bool (decide (x9<x3))) qInt ?_
 refine ao (b:=decide (x9<x3)) rfl (fun hc10=> ?_) (fun hc10=> ?_)
 ·replace h:=iteT hc10 h
  refine W_rs ?_
  refine rq (out:=ai x7) ag ?_
  obtain⟨x11,hx11,h⟩:=af h
  refine rq (out:=ai x11) (ew hx11) ?_
  obtain⟨x12,hx12,h⟩:=af h
  refine rq (out:=ai x12) (ew hx12) ?_
  refine rq (out:=ai x12) ae ?_
  obtain rfl:=Option.some.inj h
  exact a6 ⟨rfl,aa⟩
 replace h:=iteF hc10 h
 refine au ?_
 refine W_rs ?_
 refine rq (out:=ai x7) ag ?_
 refine rq (out:=ai x7) ae ?_
 obtain rfl:=Option.some.inj h
 exact a6 ⟨rfl,aa⟩
theorem F_print_Expression_step (R:cl) (ih:la R) (x1:ApiNode) (r:(List UInt8)) (h:bm R x1=some r):FnP Tryz.prog 138 [(ab).val x1] (ai r):=by
 refine bo (n:=98) (rs:=[2]) Tryz.func138 rfl Tryz.ntmps138 ⟨by decide,Tryz.results138⟩ (by decide) (fun s0=> ?_)
 unfold bm at h
 refine W_rs ?_
 refine rBox (R:=ab) (a:=x1) rfl (fun b2=> ?_)
 refine rq (out:=ai []) ae ?_
 refine a5 ?_
 refine W_rs ?_
 refine rq (out:=ap b2 0) (a4 md) ?_
 refine rq (out:=Pr.i64 x1.Kind) (a8 (R:=ab) (a:=x1) (R':=Rp.int .i64) 0 ty3 c8) ?_
 refine az ?_
 refine W_rs ?_
 refine rq (out:=Pr.bool (x1.Kind==13)) qInt ?_
 refine rq (out:=Pr.bool (x1.Kind==13)) ae ?_
 refine ao (b:=x1.Kind==13) rfl (fun hc3=> ?_) (fun hc3=> ?_)
 ·replace h:=iteT hc3 h
  refine W_rs ?_
  refine rq (out:=ap b2 3) (a4 fld24_3) ?_
  refine rq (out:=Pr.i64 x1.N) (a8 (R:=ab) (a:=x1) (R':=Rp.int .i64) 0 ty2 subApiNode_N) ?_
  obtain⟨x4,hx4,h⟩:=af h
  refine rq (out:=ai x4) (aw (strconv_FormatInt_ok x1.N 10 _ hx4)) ?_
  refine rq (out:=ai x4) ae ?_
  obtain rfl:=Option.some.inj h
  exact a6 ⟨rfl,aa⟩
 replace h:=iteF hc3 h
 refine W_rs ?_
 refine rq (out:=Pr.bool (x1.Kind==14)) qInt ?_
 refine rq (out:=Pr.bool (x1.Kind==14)) ae ?_
 refine ao (b:=x1.Kind==14) rfl (fun hc5=> ?_) (fun hc5=> ?_)
 ·replace h:=iteT hc5 h
  refine W_rs ?_
  refine rq (out:=ap b2 3) (a4 fld24_3) ?_
  refine rq (out:=Pr.i64 x1.N) (a8 (R:=ab) (a:=x1) (R':=Rp.int .i64) 0 ty2 subApiNode_N) ?_
  refine rq (out:=Pr.bool (x1.N==1)) qInt ?_
  obtain⟨x6,hx6,h⟩:=af h
  refine rq (out:=ai x6) (aw (strconv_FormatBool_ok (x1.N==1) _ hx6)) ?_
  refine rq (out:=ai x6) ae ?_
  obtain rfl:=Option.some.inj h
  exact a6 ⟨rfl,aa⟩
 replace h:=iteF hc5 h
 refine W_rs ?_
 refine rq (out:=Pr.bool (x1.Kind==15)) qInt ?_
 refine rq (out:=Pr.bool (x1.Kind==15)) ae ?_
 refine ao (b:=x1.Kind==15) rfl (fun hc7=> ?_) (fun hc7=> ?_)
 ·replace h:=iteT hc7 h
  refine W_rs ?_
  refine rq (out:=ai ([110,117,108,108]:List UInt8)) ae ?_
  obtain rfl:=Option.some.inj h
  exact a6 ⟨rfl,aa⟩
 replace h:=iteF hc7 h
 refine W_rs ?_
 refine rq (out:=Pr.bool (x1.Kind==16)) qInt ?_
 refine rq (out:=Pr.bool (x1.Kind==16)) ae ?_
 refine ao (b:=x1.Kind==16) rfl (fun hc8=> ?_) (fun hc8=> ?_)
 ·replace h:=iteT hc8 h
  refine W_rs ?_
  refine rq (out:=ai ([116,104,105,115]:List UInt8)) ae ?_
  obtain rfl:=Option.some.inj h
  exact a6 ⟨rfl,aa⟩
 replace h:=iteF hc8 h
 refine W_rs ?_
 refine rq (out:=Pr.bool (x1.Kind==17)) qInt ?_
 refine rq (out:=Pr.bool (x1.Kind==17)) ae ?_
 refine ao (b:=x1.Kind==17) rfl (fun hc9=> ?_) (fun hc9=> ?_)
 ·replace h:=iteT hc9 h
  refine W_rs ?_
  refine rq (out:=ap b2 1) (a4 gl) ?_
  refine rq (out:=ai x1.Text) (a8 (R:=ab) (a:=x1) (R':=am) 0 ty9 ct) ?_
  refine rq (out:=ai x1.Text) ae ?_
  obtain rfl:=Option.some.inj h
  exact a6 ⟨rfl,aa⟩
 replace h:=iteF hc9 h
 refine W_rs ?_
 refine rq (out:=Pr.bool (x1.Kind==21)) qInt ?_
 refine rq (out:=Pr.bool (x1.Kind==21)) ae ?_
 refine ao (b:=x1.Kind==21) rfl (fun hc10=> ?_) (fun hc10=> ?_)
 ·replace h:=iteT hc10 h
  refine W_rs ?_
  refine rq (out:=ap b2 1) (a4 gl) ?_
  refine rq (out:=ai x1.Text) (a8 (R:=ab) (a:=x1) (R':=am) 0 ty9 ct) ?_
  obtain⟨x11,hx11,h⟩:=af h
  refine rq (out:=ai x11) (ew hx11) ?_
  obtain⟨x12,hx12,h⟩:=af h
  refine rq (out:=ai x12) (ew hx12) ?_
  refine rq (out:=ai x12) ae ?_
  obtain rfl:=Option.some.inj h
  exact a6 ⟨rfl,aa⟩
 replace h:=iteF hc10 h
 refine W_rs ?_
 refine rq (out:=Pr.bool (x1.Kind==19)) qInt ?_
 refine rq (out:=Pr.bool (x1.Kind==19)) ae ?_
 refine ao (b:=x1.Kind==19) rfl (fun hc13=> ?_) (fun hc13=> ?_)
 ·replace h:=iteT hc13 h
  refine bc (fun e C=>∃(x15:List UInt8),np R x15=some r/\At [(2,ai x15)] [Own.box b2 ab x1] e C) ?_ ?_
  ·rintro e C ⟨x15,h,hat1⟩
   refine W_at hat1 ?_
   clear hat1
   unfold np at h
   obtain rfl:=Option.some.inj h
   exact a6 ⟨rfl,aa⟩
  refine jm 6 hmx (by kernel_rfl) (by kernel_rfl) ?_
  refine qq (out:=ap b2 1) (a4 gl) ?_
  refine qq (out:=ai x1.Text) (a8 (R:=ab) (a:=x1) (R':=am) 0 ty9 ct) ?_
  refine qq (out:=(ab).val x1) (a8 (R:=ab) (a:=x1) (R':=ab) 0 ty24 (Sub.refl _)) ?_
  obtain⟨x14,hx14,h⟩:=af h
  refine qq (out:=ai x14) (aw (ih.2.2 x1 0 _ hx14)) ?_
  obtain⟨x15,hx15,h⟩:=af h
  refine qq (out:=ai x15) (ew hx15) ?_
  refine qq (out:=ai x15) ae ?_
  exact⟨x15,h,⟨⟨aa,trivial⟩,Pick.refl _⟩⟩
 replace h:=iteF hc13 h
 refine W_rs ?_
 refine rq (out:=Pr.bool (x1.Kind==18)) qInt ?_
 refine rq (out:=Pr.bool (x1.Kind==18)) ae ?_
 refine ao (b:=x1.Kind==18) rfl (fun hc16=> ?_) (fun hc16=> ?_)
 ·replace h:=iteT hc16 h
  refine bc (fun e C=>∃(x19:List UInt8),nn R x19=some r/\At [(2,ai x19)] [Own.box b2 ab x1] e C) ?_ ?_
  ·rintro e C ⟨x19,h,hat2⟩
   refine W_at hat2 ?_
   clear hat2
   unfold nn at h
   obtain rfl:=Option.some.inj h
   exact a6 ⟨rfl,aa⟩
  refine jm 7 hmx (by kernel_rfl) (by kernel_rfl) ?_
  refine qq (out:=(ab).val x1) (a8 (R:=ab) (a:=x1) (R':=ab) 0 ty24 (Sub.refl _)) ?_
  obtain⟨x17,hx17,h⟩:=af h
  refine qq (out:=ai x17) (aw (ih.1 x1 0 8 _ hx17)) ?_
  obtain⟨x18,hx18,h⟩:=af h
  refine qq (out:=ai x18) (ew hx18) ?_
  refine qq (out:=ap b2 1) (a4 gl) ?_
  refine qq (out:=ai x1.Text) (a8 (R:=ab) (a:=x1) (R':=am) 0 ty9 ct) ?_
  obtain⟨x19,hx19,h⟩:=af h
  refine qq (out:=ai x19) (ew hx19) ?_
  refine qq (out:=ai x19) ae ?_
  exact⟨x19,h,⟨⟨aa,trivial⟩,Pick.refl _⟩⟩
 replace h:=iteF hc16 h
 refine W_rs ?_
 refine rq (out:=Pr.bool (x1.Kind==20)) qInt ?_
 refine rq (out:=Pr.bool (x1.Kind==20)) ae ?_
 refine ao (b:=x1.Kind==20) rfl (fun hc20=> ?_) (fun hc20=> ?_)
 ·replace h:=iteT hc20 h
  refine bc (fun e C=>∃(x25:List UInt8),nm R x25=some r/\At [(2,ai x25)] [Own.box b2 ab x1] e C) ?_ ?_
  ·rintro e C ⟨x25,h,hat3⟩
   refine W_at hat3 ?_
   clear hat3
   unfold nm at h
   obtain rfl:=Option.some.inj h
   exact a6 ⟨rfl,aa⟩
  refine jm 10 hmx (by kernel_rfl) (by kernel_rfl) ?_
  refine qq (out:=(ab).val x1) (a8 (R:=ab) (a:=x1) (R':=ab) 0 ty24 (Sub.refl _)) ?_
  obtain⟨x21,hx21,h⟩:=af h
  refine qq (out:=ai x21) (aw (ih.1 x1 0 8 _ hx21)) ?_
  obtain⟨x22,hx22,h⟩:=af h
  refine qq (out:=ai x22) (ew hx22) ?_
  refine qq (out:=ap b2 1) (a4 gl) ?_
  refine qq (out:=ai x1.Text) (a8 (R:=ab) (a:=x1) (R':=am) 0 ty9 ct) ?_
  obtain⟨x23,hx23,h⟩:=af h
  refine qq (out:=ai x23) (ew hx23) ?_
  refine qq (out:=(ab).val x1) (a8 (R:=ab) (a:=x1) (R':=ab) 0 ty24 (Sub.refl _)) ?_
  obtain⟨x24,hx24,h⟩:=af h
  refine qq (out:=ai x24) (aw (ih.2.2 x1 1 _ hx24)) ?_
  obtain⟨x25,hx25,h⟩:=af h
  refine qq (out:=ai x25) (ew hx25) ?_
  refine qq (out:=ai x25) ae ?_
  exact⟨x25,h,⟨⟨aa,trivial⟩,Pick.refl _⟩⟩
 replace h:=iteF hc20 h
 refine W_rs ?_
 refine rq (out:=Pr.bool (x1.Kind==22)) qInt ?_
 refine rq (out:=Pr.bool (x1.Kind==22)) ae ?_
 refine ao (b:=x1.Kind==22) rfl (fun hc26=> ?_) (fun hc26=> ?_)
 ·replace h:=iteT hc26 h
  refine W_rs ?_
  refine rq (out:=(ab).val x1) (a8 (R:=ab) (a:=x1) (R':=ab) 0 ty24 (Sub.refl _)) ?_
  obtain⟨x27,hx27,h⟩:=af h
  refine rq (out:=ai x27) (aw (ih.1 x1 0 7 _ hx27)) ?_
  obtain⟨x28,hx28,h⟩:=af h
  refine rq (out:=ai x28) (ew hx28) ?_
  refine rq (out:=ai x28) ae ?_
  obtain rfl:=Option.some.inj h
  exact a6 ⟨rfl,aa⟩
 replace h:=iteF hc26 h
 refine W_rs ?_
 refine rq (out:=Pr.bool (x1.Kind==23)) qInt ?_
 refine rq (out:=Pr.bool (x1.Kind==23)) ae ?_
 refine ao (b:=x1.Kind==23) rfl (fun hc29=> ?_) (fun hc29=> ?_)
 ·replace h:=iteT hc29 h
  refine W_rs ?_
  refine rq (out:=Pr.i64 7) ae ?_
  refine bc (fun e C=>∃(x35:Int),ft R x1 x35=some r/\At [(1,ap b2 0),(3,Pr.i64 x35)] [Own.box b2 ab x1] e C) ?_ ?_
  ·rintro e C ⟨x35,h,hat4⟩
   refine W_at hat4 ?_
   clear hat4
   unfold ft at h
   refine W_rs ?_
   refine rq (out:=(ab).val x1) (a8 (R:=ab) (a:=x1) (R':=ab) 0 ty24 (Sub.refl _)) ?_
   refine rq (out:=Pr.i64 x35) ag ?_
   obtain⟨x36,hx36,h⟩:=af h
   refine rq (out:=ai x36) (aw (ih.1 x1 0 x35 _ hx36)) ?_
   obtain⟨x37,hx37,h⟩:=af h
   refine rq (out:=ai x37) (ew hx37) ?_
   refine rq (out:=ai x37) ae ?_
   obtain rfl:=Option.some.inj h
   exact a6 ⟨rfl,aa⟩
  refine bc (fun e C=>∃(x33:Bool),dv R x1 x33=some r/\At [(1,ap b2 0),(3,Pr.i64 7),(75,Pr.bool x33)] [Own.box b2 ab x1] e C) ?_ ?_
  ·rintro e C ⟨x33,h,hat5⟩
   refine W_at hat5 ?_
   clear hat5
   unfold dv at h
   refine ao (b:=x33) rfl (fun hc34=> ?_) (fun hc34=> ?_)
   ·replace h:=iteT hc34 h
    refine W_r ?_
    refine rq (out:=Pr.i64 9) ae ?_
    exact⟨9,h,⟨⟨aa,aa,trivial⟩,Pick.refl _⟩⟩
   replace h:=iteF hc34 h
   refine au ?_
   exact⟨7,h,⟨⟨aa,aa,trivial⟩,Pick.refl _⟩⟩
  refine W_r ?_
  refine rq (out:=ap b2 8) (a4 e8) ?_
  refine rq (out:=aj ab x1.Kids) (a8 (R:=ab) (a:=x1) (R':=a9 ab) 0 ty22 bi) ?_
  refine rq (out:=Pr.i64 (x1.Kids.length:Int)) (fi rfl Tryz.underlying22) ?_
  refine rq (out:=Pr.bool (decide ((x1.Kids.length:Int)>0))) qInt ?_
  refine rq (out:=Pr.bool (decide ((x1.Kids.length:Int)>0))) ag ?_
  rcases bv h with⟨hc30,h⟩|⟨hc30,h⟩
  ·refine rqg hc30 (out:=ap b2 8) (a4 e8) ?_
   refine rqg hc30 (out:=aj ab x1.Kids) (a8 (R:=ab) (a:=x1) (R':=a9 ab) 0 ty22 bi) ?_
   obtain⟨x31,hx31,h⟩:=af h
   refine rqg hc30 (out:=bj ab x31) (ef (R:=ab) (l:=x1.Kids) Tryz.underlying22 Tryz.sizeOf24 hx31) ?_
   refine rqg hc30 (out:=(ab).val x31) (c5 (R:=ab) (a:=x31) ty24) ?_
   obtain⟨x32,hx32,h⟩:=af h
   refine rqg hc30 (out:=Pr.bool x32) (aw (print_negative_ok x31 _ hx32)) ?_
   refine rq (out:=Pr.bool x32) (bu hc30) ?_
   exact⟨x32,h,⟨⟨aa,aa,aa,trivial⟩,Pick.refl _⟩⟩
  refine rno (neT hc30) ?_
  refine rno (neT hc30) ?_
  refine rno (neT hc30) ?_
  refine rno (neT hc30) ?_
  refine rno (neT hc30) ?_
  refine rq (out:=Pr.bool false) (bp hc30) ?_
  exact⟨false,h,⟨⟨aa,aa,aa,trivial⟩,Pick.refl _⟩⟩
 replace h:=iteF hc29 h
 refine W_rs ?_
 refine rq (out:=Pr.bool (x1.Kind==24)) qInt ?_
 refine rq (out:=Pr.bool (x1.Kind==24)) ae ?_
 refine ao (b:=x1.Kind==24) rfl (fun hc38=> ?_) (fun hc38=> ?_)
 ·replace h:=iteT hc38 h
  refine W_rs ?_
  refine rq (out:=ap b2 1) (a4 gl) ?_
  refine rq (out:=ai x1.Text) (a8 (R:=ab) (a:=x1) (R':=am) 0 ty9 ct) ?_
  obtain⟨x39,hx39,h⟩:=af h
  refine rq (out:=Pr.i64 x39) (aw (print_Binds_ok x1.Text _ hx39)) ?_
  refine rq (out:=Pr.i64 x39) ae ?_
  refine bc (fun e C=>∃(x45:List UInt8),nk R x45=some r/\At [(2,ai x45)] [Own.box b2 ab x1] e C) ?_ ?_
  ·rintro e C ⟨x45,h,hat6⟩
   refine W_at hat6 ?_
   clear hat6
   unfold nk at h
   obtain rfl:=Option.some.inj h
   exact a6 ⟨rfl,aa⟩
  refine jm 14 hmx (by kernel_rfl) (by kernel_rfl) ?_
  refine qq (out:=(ab).val x1) (a8 (R:=ab) (a:=x1) (R':=ab) 0 ty24 (Sub.refl _)) ?_
  refine qq (out:=Pr.i64 x39) ag ?_
  obtain⟨x40,hx40,h⟩:=af h
  refine qq (out:=ai x40) (aw (ih.1 x1 0 x39 _ hx40)) ?_
  obtain⟨x41,hx41,h⟩:=af h
  refine qq (out:=ai x41) (ew hx41) ?_
  refine qq (out:=ap b2 1) (a4 gl) ?_
  refine qq (out:=ai x1.Text) (a8 (R:=ab) (a:=x1) (R':=am) 0 ty9 ct) ?_
  obtain⟨x42,hx42,h⟩:=af h
  refine qq (out:=ai x42) (ew hx42) ?_
  obtain⟨x43,hx43,h⟩:=af h
  refine qq (out:=ai x43) (ew hx43) ?_
  refine qq (out:=(ab).val x1) (a8 (R:=ab) (a:=x1) (R':=ab) 0 ty24 (Sub.refl _)) ?_
  refine qq (out:=Pr.i64 x39) ag ?_
  refine qq (out:=Pr.i64 (w64 (x39+1))) qInt ?_
  obtain⟨x44,hx44,h⟩:=af h
  refine qq (out:=ai x44) (aw (ih.1 x1 1 (w64 (x39+1)) _ hx44)) ?_
  obtain⟨x45,hx45,h⟩:=af h
  refine qq (out:=ai x45) (ew hx45) ?_
  refine qq (out:=ai x45) ae ?_
  exact⟨x45,h,⟨⟨aa,trivial⟩,Pick.refl _⟩⟩
 replace h:=iteF hc38 h
 refine au ?_
 refine W_rs ?_
 refine rq (out:=ai []) ae ?_
 obtain rfl:=Option.some.inj h
 exact a6 ⟨rfl,aa⟩
theorem F_print_arguments_step (R:cl) (ih:la R) (x1:ApiNode) (x2:Int) (r:(List UInt8)) (h:jk R x1 x2=some r):FnP Tryz.prog 145 [(ab).val x1,Pr.i64 x2] (ai r):=by
 refine bo (n:=14) (rs:=[4]) Tryz.func145 rfl Tryz.ntmps145 ⟨by decide,Tryz.results145⟩ (by decide) (fun s0=> ?_)
 unfold jk at h
 refine W_rs ?_
 refine rBox (R:=ab) (a:=x1) rfl (fun b3=> ?_)
 refine rq (out:=ai []) ae ?_
 refine W_rs ?_
 refine rq (out:=ap b3 8) (a4 e8) ?_
 refine rq (out:=aj ab x1.Kids) (a8 (R:=ab) (a:=x1) (R':=a9 ab) 0 ty22 bi) ?_
 refine rq (out:=Pr.i64 x2) ag ?_
 refine rq (out:=ap b3 8) (a4 e8) ?_
 refine rq (out:=aj ab x1.Kids) (a8 (R:=ab) (a:=x1) (R':=a9 ab) 0 ty22 bi) ?_
 refine rq (out:=Pr.i64 (x1.Kids.length:Int)) (fi rfl Tryz.underlying22) ?_
 refine rq (out:=Pr.i64 (if(x1.Kids.length:Int)<x2 then(x1.Kids.length:Int)else x2)) (qMin (a:=x2) (b:=(x1.Kids.length:Int))) ?_
 obtain⟨x4,hx4,h⟩:=af h
 refine rq (out:=aj ab x4) (qLSubL Tryz.underlying22 Tryz.sizeOf24 hx4) ?_
 obtain⟨x5,hx5,h⟩:=af h
 refine rq (out:=ai x5) (mc (print_list_ok x4 R.2.1 _ hx5) ⟨aa,(is_pfn en138 (fun _ _ hs=>by obtain⟨a0,r,rfl,rfl,hr⟩:=hs;exact ih.2.1 a0 r hr)),trivial⟩) ?_
 refine rq (out:=ai x5) ae ?_
 obtain rfl:=Option.some.inj h
 exact a6 ⟨rfl,aa⟩
theorem rec_print_kid_ok :∀n,la (dq n):=by
 intro n
 induction n with
 |zero=>exact⟨(fun x1 x2 x3 r h=>nomatch (show none=some r from h)),(fun x1 r h=>nomatch (show none=some r from h)),(fun x1 x2 r h=>nomatch (show none=some r from h))⟩
 |succ n ih=>exact⟨(fun x1 x2 x3 r h=>F_print_kid_step (dq n) ih x1 x2 x3 r h),(fun x1 r h=>F_print_Expression_step (dq n) ih x1 r h),(fun x1 x2 r h=>F_print_arguments_step (dq n) ih x1 x2 r h)⟩
theorem print_kid_ok (x1:ApiNode) (x2 x3:Int) (r:(List UInt8)) (h:print_kid x1 x2 x3=some r):FnP Tryz.prog 129 [(ab).val x1,Pr.i64 x2,Pr.i64 x3] (ai r):=(rec_print_kid_ok 1048576).1 x1 x2 x3 r h
end Go.Proofs.YtgkcoicaopilhaaGreatDoor
