/- The code comes to what these functions say (printed by wip/gen/gen.py). -/
import Derived.Test.YtcndghapmoaidaaGreatDoorZX
import Derived.Test.YtcndghapmoaidaaGreatDoorZP
import Derived.Test.YtcndghapmoaidaaGreatDoorZT
set_option linter.unusedSimpArgs false
set_option linter.unusedVariables false
set_option linter.unusedSectionVars false
set_option linter.unusedSectionVars false
set_option maxRecDepth 100000
set_option maxHeartbeats 4000000
namespace Go.Proofs.YtcndghapmoaidaaGreatDoor
open Go Go.Cn
attribute [local irreducible] ec aq
theorem decls_table_method_ok (x1:ApiNode) (x3:DeclsTable) (x6:ApiEntity) (b2:Nat) (v4:Value) (b5:Nat) (v7:Value) (r:Bool × DeclsTable) (h:decls_table_method x1 x3 x6=some r):FnC Tryz.prog 123 [am b2 0,(a7).val (ApiEntityRaw.mk x6.Kind x6.Id x6.Name x6.Owner x6.Type_ x6.Static v7 x6.File x6.At),(ab).val x1] [Own.box b2 a4 (DeclsTableRaw.mk v4 (.map (some b5)) x3.m),Own.vec v4 af x3.l 49,Own.gmap b5 cj Rp.bool x3.known,Own.vec v7 a6 x6.Params 9] (fun q C'=>∃w100,q=Pr.bool r.1/\C'=[Own.box b2 a4 (DeclsTableRaw.mk w100 (.map (some b5)) r.2.m),Own.vec w100 af r.2.l 49,Own.gmap b5 cj Rp.bool r.2.known]):=by
 refine fi (rs:=[6]) Tryz.func123 rfl Tryz.ntmps123 ⟨by decide,Tryz.results123⟩ (by decide) (fun s0=> ?_)
 unfold decls_table_method at h
 refine W_rs ?_
 refine rBox (R:=a7) (a:=(ApiEntityRaw.mk x6.Kind x6.Id x6.Name x6.Owner x6.Type_ x6.Static v7 x6.File x6.At)) rfl (fun b8=> ?_)
 refine rBox (R:=ab) (a:=x1) rfl (fun b9=> ?_)
 refine kAs rfl (W_rs (kUn (ai fld49_3) ?_))
 refine kUn (ap 4 ty9 subApiEntityRaw_Owner) ?_
 refine kUn (ai fld49_2) ?_
 refine kUn (ap 4 ty9 subApiEntityRaw_Name) ?_
 refine cm h (decls_Method_ok x6.Owner x6.Name) rfl fun x10 _ h=> ?_
 refine kUn (ai pr) ?_
 refine av 4 rfl rfl r5 rfl Tryz.sizeOf3 ?_
 refine rCtx [Own.box b2 a4 (DeclsTableRaw.mk v4 (.map (some b5)) x3.m),Own.vec v4 af x3.l 49,Own.gmap b5 cj Rp.bool x3.known,Own.vec v7 a6 x6.Params 9,Own.box b8 a7 (ApiEntityRaw.mk 3 x6.Id x6.Name x6.Owner x6.Type_ x6.Static v7 x6.File x6.At),Own.box b9 ab x1] ?_
 refine kUn (ai j7) ?_
 refine av 4 rfl rfl updApiEntityRaw_Id rfl Tryz.sizeOf9 ?_
 refine rCtx [Own.box b2 a4 (DeclsTableRaw.mk v4 (.map (some b5)) x3.m),Own.vec v4 af x3.l 49,Own.gmap b5 cj Rp.bool x3.known,Own.vec v7 a6 x6.Params 9,Own.box b8 a7 (ApiEntityRaw.mk 3 x10 x6.Name x6.Owner x6.Type_ x6.Static v7 x6.File x6.At),Own.box b9 ab x1] ?_
 refine W_rs ?_
 refine rAllocC Tryz.zeroValue38 rfl rfl (fun b11=> ?_)
 refine W_rs (kUn mz ?_)
 refine kUn (hAs (out:=j2 159 [] [am b11 0,am b8 0]) rfl) (a8 (W_rs (kUn (ap 5 ty64 (Sub.refl _)) ?_)))
 refine cm h (node_All_ok x1 0) rfl fun x12 _ h=> ?_
 refine kUn (iz rfl Tryz.underlying53) ?_
 refine kMv rfl (az ?_)
 obtain⟨z6l,hz6,h⟩:=ah h
 obtain⟨n6,hN6⟩:=bp hz6
 refine cq 0 (fun e C=>∃(x24:List (List UInt8)),∃(x14:Int),∃(x15:List UInt8),∃(x16:List UInt8),∃(x17:List UInt8),∃(x18:List UInt8),∃(x19:Bool),∃(x21:Int),∃(x22:Int),∃(x25:List ApiEntity),∃(v20:Value),∃(v23:Value),rd x1 x3 x24 x14 x15 x16 x17 x18 x19 x21 x22 x25=some r/\At [(0,am b2 0),(1,(a7).val (ApiEntityRaw.mk x6.Kind x6.Id x6.Name x6.Owner x6.Type_ x6.Static v7 x6.File x6.At)),(4,am b8 0),(5,am b9 0),(7,am b11 0)] [Own.box b2 a4 (DeclsTableRaw.mk v4 (.map (some b5)) x3.m),Own.vec v4 af x3.l 49,Own.gmap b5 cj Rp.bool x3.known,Own.vec v20 a6 x24 9,Own.box b8 a7 (ApiEntityRaw.mk x14 x15 x16 x17 x18 x19 v20 x21 x22),Own.box b9 ab x1,Own.cell b11 (Pr.is v23),Own.vec v23 af x25 49] e C) ?_ ?_
 ·rintro e C ⟨x24,x14,x15,x16,x17,x18,x19,x21,x22,x25,v20,v23,h,hat5⟩
  refine W_at hat5 ?_
  unfold rd at h
  refine a8 (W_rs (kUn (ai ee) ?_))
  refine kUn (ap 5 ty53 bl) ?_
  refine kUn (iz rfl Tryz.underlying53) ?_
  refine kMv rfl (az ?_)
  obtain⟨z3l,hz3,h⟩:=ah h
  obtain⟨n3,hN3⟩:=bp hz3
  refine cq 2 (fun e C=>∃(x63:List (List UInt8)),∃(v62:Value),re x14 x15 x16 x17 x18 x19 x21 x22 x3 x25 x1 x63=some r/\At [(0,am b2 0),(1,(a7).val (ApiEntityRaw.mk x6.Kind x6.Id x6.Name x6.Owner x6.Type_ x6.Static v7 x6.File x6.At)),(4,am b8 0),(5,am b9 0),(7,am b11 0)] [Own.box b2 a4 (DeclsTableRaw.mk v4 (.map (some b5)) x3.m),Own.vec v4 af x3.l 49,Own.gmap b5 cj Rp.bool x3.known,Own.vec v62 a6 x63 9,Own.box b8 a7 (ApiEntityRaw.mk x14 x15 x16 x17 x18 x19 v62 x21 x22),Own.box b9 ab x1,Own.cell b11 (Pr.is v23),Own.vec v23 af x25 49] e C) ?_ ?_
  ·rintro e C ⟨x63,v62,h,hat2⟩
   refine W_at hat2 ?_
   unfold re at h
   refine a8 (W_rs (kMv rfl (kUn (ap 4 ty49 (Sub.refl _)) ?_)))
   obtain⟨⟨x75,x76⟩,hx75,h⟩:=ah h
   refine rRelS 3 61 [] (q:=af.val (ApiEntity.mk x14 x15 x16 x17 x18 x19 x63 x21 x22)) (fun _ _ hl=>FLe.val ⟨fl,fl,fl,fl,fl,fl,(fl_lst hl),fl,fl,trivial⟩) ?_ rfl trivial
   refine kg [0,1,2] (decls_table_put_ok (ApiEntity.mk x14 x15 x16 x17 x18 x19 x63 x21 x22) x3 b2 v4 b5 _ hx75) (fun q C' hq=> ?_)
   obtain⟨v77,rfl,rfl⟩:=hq
   refine rCtx [Own.box b2 a4 (DeclsTableRaw.mk v77 (.map (some b5)) x76.m),Own.vec v77 af x76.l 49,Own.gmap b5 cj Rp.bool x76.known,Own.box b8 a7 (ApiEntityRaw.mk x14 x15 x16 x17 x18 x19 v62 x21 x22),Own.box b9 ab x1,Own.cell b11 (Pr.is v23),Own.vec v23 af x25 49] ?_
   refine kNo rfl ?_
   refine a5 h rfl (fun _ h=> ?_) (fun _ h=> ?_)
   ·refine W_rs (kAs rfl ?_)
    obtain rfl:=osj h
    exact bc ⟨.inl rfl,_,Pick.of [0,1,2] rfl,_,(aa),v77,rfl,rfl⟩
   refine ax ?_
   refine W_shutC 6 5 ?_
   refine bh (fun e C=>∃(x79:List ApiEntity),∃(v80:Value),rf x1 x21 x76 x79=some r/\At [(0,am b2 0),(1,(a7).val (ApiEntityRaw.mk x6.Kind x6.Id x6.Name x6.Owner x6.Type_ x6.Static v7 x6.File x6.At)),(4,am b8 0),(5,am b9 0)] [Own.box b2 a4 (DeclsTableRaw.mk v80 (.map (some b5)) x76.m),Own.vec v80 af x79 49,Own.gmap b5 cj Rp.bool x76.known,Own.box b8 a7 (ApiEntityRaw.mk x14 x15 x16 x17 x18 x19 v62 x21 x22),Own.box b9 ab x1,Own.box b11 (ba af) x25] e C) ?_ ?_
   ·rintro e C ⟨x79,v80,h,hat1⟩
    refine W_at hat1 ?_
    unfold rf at h
    refine a8 (W_rs (kUn (ap 4 ty64 (Sub.refl _)) ?_))
    refine rMakeMap Rp.bool (fun b81=> ?_)
    obtain⟨⟨x82,x83⟩,hx82,h⟩:=ah h
    refine kg [6] (decls_twice_ok x1 ([]:SMap Bool) b81 _ hx82) (fun q C' hq=> ?_)
    obtain⟨rfl,rfl⟩:=hq
    refine rCtx [Own.smap b81 Rp.bool ([]:SMap Bool),Own.box b2 a4 (DeclsTableRaw.mk v80 (.map (some b5)) x76.m),Own.vec v80 af x79 49,Own.gmap b5 cj Rp.bool x76.known,Own.box b8 a7 (ApiEntityRaw.mk x14 x15 x16 x17 x18 x19 v62 x21 x22),Own.box b9 ab x1,Own.box b11 (ba af) x25] ?_
    refine kUn (hMv (out:=bk [(ab).val x82,Pr.bool x83]) rfl) (kUn au ?_)
    refine kUn au ?_
    refine bq al64 fun b84=>av 7 rfl rfl (Upd.refl _) rfl Tryz.sizeOf64 (kAs rfl (W_rs (kMv rfl ?_)))
    refine a5 h rfl (fun _ h=> ?_) (fun _ h=> ?_)
    ·refine W_rs (kMv rfl (kUn (ai fld49_7) ?_))
     refine kUn (ap 4 ty3 subApiEntityRaw_File) ?_
     refine kUn (ai my) ?_
     refine kUn (ap 7 ty3 ek) ?_
     obtain⟨x86,hx86,h⟩:=ah h
     refine kg [1,2,3] (decls_table_fail_ok x21 x82.At (DeclsTable.mk x79 x76.known x76.m) b2 v80 b5 _ hx86) (fun q C' hq=> ?_)
     obtain⟨v87,rfl,rfl⟩:=hq
     refine rCtx [Own.box b2 a4 (DeclsTableRaw.mk v87 (.map (some b5)) x86.m),Own.vec v87 af x86.l 49,Own.gmap b5 cj Rp.bool x86.known,Own.smap b81 Rp.bool ([]:SMap Bool),Own.box b8 a7 (ApiEntityRaw.mk x14 x15 x16 x17 x18 x19 v62 x21 x22),Own.box b9 ab x1,Own.box b11 (ba af) x25,Own.box b84 ab x82] ?_
     refine W_rs (kAs rfl ?_)
     obtain rfl:=osj h
     exact bc ⟨.inl rfl,_,Pick.of [0,1,2] rfl,_,(aa),v87,rfl,rfl⟩
    refine ax (W_rs (kAs rfl ?_))
    obtain rfl:=osj h
    exact bc ⟨.inl rfl,_,Pick.of [1,2,3] rfl,_,(aa),v80,rfl,rfl⟩
   obtain⟨x79,hx79,h⟩:=ah h
   refine W_drawA [0,0,2,6,14,0,62,127,255,511] [[],[],[],[],[Own.box b2 a4 (DeclsTableRaw.mk v77 (.map (some b5)) x76.m)],[Own.box b11 (ba af) x25],[],[],[],[]] hmx (by kernel_rfl) (by kernel_rfl) (by kernel_rfl) rfl ?_
   refine aq0 0 1 (out:=am b2 0) rfl (fun C9=>eb) ?_
   refine aq0 1 3 (out:=am b2 0) rfl (fun C9=>eb) ?_
   refine aq0 2 7 (out:=am b2 0) rfl (fun C9=>qNilP) ?_
   refine aq0 3 15 (out:=am b2 0) rfl (fun C9=>(ai fld118_0)) ?_
   refine aq1 4 31 0 (out:=Pr.is v77) rfl rfl (fun C9 i9 h9=>(qLoadRaw (R:=a4) (a:=(DeclsTableRaw.mk v77 (.map (some b5)) x76.m)) i9 ty38 subDeclsTableRaw_l (hi:=h9))) ?_
   refine aq1 5 63 5 (out:=aq af x25) rfl rfl (fun C9 i9 h9=>(ap (R:=ba af) (a:=x25) (R':=ba af) i9 ty38 (Sub.refl _) (hi:=h9))) ?_
   refine ae 6 127 rfl (fun g9=> ?_)
   refine ev 1 el38 hx79 (fun v80=> ?_)
   refine kh _ [] dm ?_
   refine aq0 7 255 (out:=am b2 0) rfl (fun C9=>qNilP) ?_
   refine aq0 8 511 (out:=am b2 0) rfl (fun C9=>(ai fld118_0)) ?_
   refine ae 9 1023 rfl (fun g9=> ?_)
   refine rStoreRaw (R:=a4) (a:=(DeclsTableRaw.mk v77 (.map (some b5)) x76.m)) 0 1 Tryz.sizeOf38 updDeclsTableRaw_l ?_
   refine rCtx [Own.box b2 a4 (DeclsTableRaw.mk v80 (.map (some b5)) x76.m),Own.vec v80 af x79 49,Own.gmap b5 cj Rp.bool x76.known,Own.box b8 a7 (ApiEntityRaw.mk x14 x15 x16 x17 x18 x19 v62 x21 x22),Own.box b9 ab x1,Own.box b11 (ba af) x25] ?_
   refine kh .any [] dm ?_
   refine ar_end ?_
   exact⟨x79,v80,h,atOk⟩
  refine c8 (fun m e C=>∃(x61:Int),∃(x63:List (List UInt8)),∃(v62:Value),dj (fun s=>lv x1 s.1 s.2) m (x61,x63)=some z3l/\At [(0,am b2 0),(1,(a7).val (ApiEntityRaw.mk x6.Kind x6.Id x6.Name x6.Owner x6.Type_ x6.Static v7 x6.File x6.At)),(4,am b8 0),(5,am b9 0),(7,am b11 0),(43,aq ab x1.Kids),(44,Pr.i64 (x1.Kids.length:Int)),(45,Pr.i64 x61)] [Own.box b2 a4 (DeclsTableRaw.mk v4 (.map (some b5)) x3.m),Own.vec v4 af x3.l 49,Own.gmap b5 cj Rp.bool x3.known,Own.vec v62 a6 x63 9,Own.box b8 a7 (ApiEntityRaw.mk x14 x15 x16 x17 x18 x19 v62 x21 x22),Own.box b9 ab x1,Own.cell b11 (Pr.is v23),Own.vec v23 af x25 49] e C) n3 ⟨0,x24,v20,hN3,⟨⟨aa,aa,aa,aa,aa,aa,aa,aa,trivial⟩,Pick.refl _⟩⟩ ?_
  rintro m e C ⟨x61,x63,v62,hN3,hatl3⟩
  refine W_at hatl3 ?_
  obtain⟨m3,w3l,rfl,h3l,hn3,ho3⟩:=bj hN3
  replace h3l:lv x1 x61 x63=some w3l:=h3l
  unfold lv at h3l
  refine W_rs (kIn rfl rfl rfl (a8 ?_))
  refine a5 h3l rfl (fun _ h3l=> ?_) (fun _ h3l=> ?_)
  ·refine ax ?_
   refine bh (fun e C=>∃(x74:List (List UInt8)),∃(x68:ApiNode),∃(v73:Value),∃(b69:Nat),l4 x61 x74 x68=some w3l/\At [(0,am b2 0),(1,(a7).val (ApiEntityRaw.mk x6.Kind x6.Id x6.Name x6.Owner x6.Type_ x6.Static v7 x6.File x6.At)),(4,am b8 0),(5,am b9 0),(7,am b11 0),(43,aq ab x1.Kids),(44,Pr.i64 (x1.Kids.length:Int)),(45,Pr.i64 x61)] [Own.box b2 a4 (DeclsTableRaw.mk v4 (.map (some b5)) x3.m),Own.vec v4 af x3.l 49,Own.gmap b5 cj Rp.bool x3.known,Own.vec v73 a6 x74 9,Own.box b8 a7 (ApiEntityRaw.mk x14 x15 x16 x17 x18 x19 v73 x21 x22),Own.box b9 ab x1,Own.cell b11 (Pr.is v23),Own.vec v23 af x25 49,Own.box b69 ab x68] e C) ?_ ?_
   ·rintro e C ⟨x74,x68,v73,b69,h3l,hat4⟩
    refine W_at hat4 ?_
    unfold l4 at h3l
    refine W_r (kIn rfl rfl rfl (kMv rfl ?_))
    exact⟨m3,Nat.lt_succ_self _,w64 (x61+1),x74,v73,hn3 _ (Option.some.inj h3l).symm,⟨⟨aa,aa,aa,aa,aa,aa,aa,aa,trivial⟩,Pick.of [0,1,2,3,4,5,6,7] rfl⟩⟩
   refine az (W_rs ?_)
   obtain⟨x68,hx68,h3l⟩:=ah h3l
   refine kUn (dg Tryz.underlying53 Tryz.sizeOf64 hx68) ?_
   refine kUn (cf ty64) ?_
   refine bq al64 fun b69=>av 8 rfl rfl (Upd.refl _) rfl Tryz.sizeOf64 (W_rs (kUn (ai dr) ?_))
   refine kUn (ap 8 ty3 bg) ?_
   refine kIn rfl rfl rfl ?_
   refine a5 h3l rfl (fun _ h3l=> ?_) (fun _ h3l=> ?_)
   ·refine W_r (kUn (ai fld49_6) ?_)
    refine kUn (qLoadRaw (R:=a7) (a:=(ApiEntityRaw.mk x14 x15 x16 x17 x18 x19 v62 x21 x22)) 4 ty22 subApiEntityRaw_Params) ?_
    refine kUn (ai r4) ?_
    refine kUn (ap 8 ty9 dz) ?_
    refine kUn (cl (R:=a6) (a:=x68.Type_) el22 (Nat.le_of_ble_eq_true rfl)) ?_
    obtain⟨x71,hx71,h3l⟩:=ah h3l
    refine ev 3 el22 hx71 (fun v72=> ?_)
    refine kUn (ai fld49_6) ?_
    refine rStoreRaw (R:=a7) (a:=(ApiEntityRaw.mk x14 x15 x16 x17 x18 x19 v62 x21 x22)) 4 3 Tryz.sizeOf22 updApiEntityRaw_Params ?_
    refine rCtx [Own.box b2 a4 (DeclsTableRaw.mk v4 (.map (some b5)) x3.m),Own.vec v4 af x3.l 49,Own.gmap b5 cj Rp.bool x3.known,Own.vec v72 a6 x71 9,Own.box b8 a7 (ApiEntityRaw.mk x14 x15 x16 x17 x18 x19 v72 x21 x22),Own.box b9 ab x1,Own.cell b11 (Pr.is v23),Own.vec v23 af x25 49,Own.box b69 ab x68] ?_
    exact⟨x71,x68,v72,b69,h3l,atOk⟩
   refine ax ?_
   exact⟨x63,x68,v62,b69,h3l,atOk⟩
  refine c6 ?_
  obtain rfl:=ho3 _ (Option.some.inj h3l).symm
  exact⟨x63,v62,h,atOk⟩
 refine W_vec af 49 ?_
 refine c8 (fun m e C=>∃(x13:Int),∃(x14:Int),∃(x15:List UInt8),∃(x16:List UInt8),∃(x17:List UInt8),∃(x18:List UInt8),∃(x19:Bool),∃(x21:Int),∃(x22:Int),∃(x24:List (List UInt8)),∃(x25:List ApiEntity),∃(v20:Value),∃(v23:Value),dj (fun s=>lu x12 s.1 s.2.1 s.2.2.1 s.2.2.2.1 s.2.2.2.2.1 s.2.2.2.2.2.1 s.2.2.2.2.2.2.1 s.2.2.2.2.2.2.2.1 s.2.2.2.2.2.2.2.2.1 s.2.2.2.2.2.2.2.2.2.1 s.2.2.2.2.2.2.2.2.2.2) m (x13,x14,x15,x16,x17,x18,x19,x21,x22,x24,x25)=some z6l/\At [(0,am b2 0),(1,(a7).val (ApiEntityRaw.mk x6.Kind x6.Id x6.Name x6.Owner x6.Type_ x6.Static v7 x6.File x6.At)),(4,am b8 0),(5,am b9 0),(7,am b11 0),(8,j2 159 [] [am b11 0,am b8 0]),(24,aq ab x12),(25,Pr.i64 (x12.length:Int)),(26,Pr.i64 x13)] [Own.box b2 a4 (DeclsTableRaw.mk v4 (.map (some b5)) x3.m),Own.vec v4 af x3.l 49,Own.gmap b5 cj Rp.bool x3.known,Own.vec v20 a6 x24 9,Own.box b8 a7 (ApiEntityRaw.mk x14 x15 x16 x17 x18 x19 v20 x21 x22),Own.box b9 ab x1,Own.cell b11 (Pr.is v23),Own.vec v23 af x25 49] e C) n6 ⟨0,3,x10,x6.Name,x6.Owner,x6.Type_,x6.Static,x6.File,x6.At,x6.Params,[],v7,(.slice none 0 0),hN6,⟨⟨aa,aa,aa,aa,aa,aa,aa,aa,aa,trivial⟩,Pick.refl _⟩⟩ ?_
 rintro m e C ⟨x13,x14,x15,x16,x17,x18,x19,x21,x22,x24,x25,v20,v23,hN6,hatl6⟩
 refine W_at hatl6 ?_
 obtain⟨m6,w6l,rfl,h6l,hn6,ho6⟩:=bj hN6
 replace h6l:lu x12 x13 x14 x15 x16 x17 x18 x19 x21 x22 x24 x25=some w6l:=h6l
 unfold lu at h6l
 refine W_rs (kIn rfl rfl rfl (a8 ?_))
 refine a5 h6l rfl (fun _ h6l=> ?_) (fun _ h6l=> ?_)
 ·refine ax ?_
  refine bh (fun e C=>∃(x50:Int),∃(x51:List UInt8),∃(x52:List UInt8),∃(x53:List UInt8),∃(x54:List UInt8),∃(x55:Bool),∃(x57:Int),∃(x58:Int),∃(x59:List ApiEntity),∃(x60:List (List UInt8)),∃(x40:ApiNode),∃(v49:Value),∃(v56:Value),∃(b41:Nat),lz x13 x50 x51 x52 x53 x54 x55 x57 x58 x59 x60 x40=some w6l/\At [(0,am b2 0),(1,(a7).val (ApiEntityRaw.mk x6.Kind x6.Id x6.Name x6.Owner x6.Type_ x6.Static v7 x6.File x6.At)),(4,am b8 0),(5,am b9 0),(7,am b11 0),(8,j2 159 [] [am b11 0,am b8 0]),(24,aq ab x12),(25,Pr.i64 (x12.length:Int)),(26,Pr.i64 x13)] [Own.cell b11 (Pr.is v49),Own.vec v49 af x59 49,Own.box b8 a7 (ApiEntityRaw.mk x50 x51 x52 x53 x54 x55 v56 x57 x58),Own.vec v56 a6 x60 9,Own.box b2 a4 (DeclsTableRaw.mk v4 (.map (some b5)) x3.m),Own.vec v4 af x3.l 49,Own.gmap b5 cj Rp.bool x3.known,Own.box b9 ab x1,Own.box b41 ab x40] e C) ?_ ?_
  ·rintro e C ⟨x50,x51,x52,x53,x54,x55,x57,x58,x59,x60,x40,v49,v56,b41,h6l,hat7⟩
   refine W_at hat7 ?_
   unfold lz at h6l
   refine W_r (kIn rfl rfl rfl (kMv rfl ?_))
   exact⟨m6,Nat.lt_succ_self _,w64 (x13+1),x50,x51,x52,x53,x54,x55,x57,x58,x60,x59,v56,v49,hn6 _ (Option.some.inj h6l).symm,⟨⟨aa,aa,aa,aa,aa,aa,aa,aa,aa,trivial⟩,Pick.of [4,5,6,3,2,7,0,1] rfl⟩⟩
  refine az (W_rs ?_)
  obtain⟨x40,hx40,h6l⟩:=ah h6l
  refine kUn (dg Tryz.underlying53 Tryz.sizeOf64 hx40) ?_
  refine kUn (cf ty64) ?_
  refine bq al64 fun b41=>av 8 rfl rfl (Upd.refl _) rfl Tryz.sizeOf64 ?_
  refine bh (fun e C=>∃(x43:Bool),lw x40 x25 x14 x15 x16 x17 x18 x19 x24 x21 x22 x13 x43=some w6l/\At [(0,am b2 0),(1,(a7).val (ApiEntityRaw.mk x6.Kind x6.Id x6.Name x6.Owner x6.Type_ x6.Static v7 x6.File x6.At)),(4,am b8 0),(5,am b9 0),(7,am b11 0),(8,j2 159 [] [am b11 0,am b8 0]),(10,am b41 0),(24,aq ab x12),(25,Pr.i64 (x12.length:Int)),(26,Pr.i64 x13),(37,Pr.bool x43)] [Own.box b2 a4 (DeclsTableRaw.mk v4 (.map (some b5)) x3.m),Own.vec v4 af x3.l 49,Own.gmap b5 cj Rp.bool x3.known,Own.vec v20 a6 x24 9,Own.box b8 a7 (ApiEntityRaw.mk x14 x15 x16 x17 x18 x19 v20 x21 x22),Own.box b9 ab x1,Own.cell b11 (Pr.is v23),Own.vec v23 af x25 49,Own.box b41 ab x40] e C) ?_ ?_
  ·rintro e C ⟨x43,h6l,hat8⟩
   refine W_at hat8 ?_
   unfold lw at h6l
   refine a5 h6l rfl (fun _ h6l=> ?_) (fun _ h6l=> ?_)
   ·refine W_r (kUn (hMv (out:=j2 159 [] [am b11 0,am b8 0]) rfl) (kUn (ap 8 ty64 (Sub.refl _)) ?_))
    obtain⟨⟨x45,x47⟩,hx45,h6l⟩:=ah h6l
    refine rCallK [6,7,4,3] (decls_table_method_1_ok x40 x25 (ApiEntity.mk x14 x15 x16 x17 x18 x19 x24 x21 x22) b11 v23 b8 v20 _ hx45) (fun q C' hq=> ?_)
    obtain⟨v46,v48,rfl,rfl⟩:=hq
    refine rCtx [Own.cell b11 (Pr.is v46),Own.vec v46 af x45 49,Own.box b8 a7 (ApiEntityRaw.mk x47.Kind x47.Id x47.Name x47.Owner x47.Type_ x47.Static v48 x47.File x47.At),Own.vec v48 a6 x47.Params 9,Own.box b2 a4 (DeclsTableRaw.mk v4 (.map (some b5)) x3.m),Own.vec v4 af x3.l 49,Own.gmap b5 cj Rp.bool x3.known,Own.box b9 ab x1,Own.box b41 ab x40] ?_
    exact⟨x47.Kind,x47.Id,x47.Name,x47.Owner,x47.Type_,x47.Static,x47.File,x47.At,x45,x47.Params,x40,v46,v48,b41,h6l,atOk⟩
   refine ax ?_
   exact⟨x14,x15,x16,x17,x18,x19,x21,x22,x25,x24,x40,v23,v20,b41,h6l,⟨⟨aa,aa,aa,aa,aa,aa,aa,aa,aa,trivial⟩,Pick.of [6,7,4,3,0,1,2,5,8] rfl⟩⟩
  refine W_r (kUn (ai dr) ?_)
  refine kUn (ap 8 ty3 bg) ?_
  refine kIn rfl rfl rfl (kMv rfl ?_)
  rcases bo h6l with⟨hc42,h6l⟩|⟨hc42,h6l⟩
  ·refine kSkF rfl aa hc42 (kSkF rfl aa hc42 (kSkF rfl aa hc42 (kPt rfl hc42 rfl ?_)))
   exact⟨true,h6l,atOk⟩
  refine kGd rfl aa hc42 (ai dr) ?_
  refine kGd rfl aa hc42 (ap 8 ty3 bg) ?_
  refine kGd rfl aa hc42 (qInt rfl rfl rfl) (kPf rfl hc42 rfl ?_)
  exact⟨x40.Kind==6,h6l,atOk⟩
 refine c6 ?_
 obtain rfl:=ho6 _ (Option.some.inj h6l).symm
 exact⟨x24,x14,x15,x16,x17,x18,x19,x21,x22,x25,v20,v23,h,atOk⟩
theorem decls_table_class_ok (x1:Int) (x2:ApiNode) (x4:DeclsTable) (b3:Nat) (v5:Value) (b6:Nat) (r:Bool × DeclsTable) (h:decls_table_class x1 x2 x4=some r):FnC Tryz.prog 71 [am b3 0,Pr.i64 x1,(ab).val x2] [Own.box b3 a4 (DeclsTableRaw.mk v5 (.map (some b6)) x4.m),Own.vec v5 af x4.l 49,Own.gmap b6 cj Rp.bool x4.known] (fun q C'=>∃w100,q=Pr.bool r.1/\C'=[Own.box b3 a4 (DeclsTableRaw.mk w100 (.map (some b6)) r.2.m),Own.vec w100 af r.2.l 49,Own.gmap b6 cj Rp.bool r.2.known]):=by
 refine fi (rs:=[6]) Tryz.func71 rfl Tryz.ntmps71 ⟨by decide,Tryz.results71⟩ (by decide) (fun s0=> ?_)
 unfold decls_table_class at h
 refine W_rs ?_
 refine rBox (R:=ab) (a:=x2) rfl (fun b7=> ?_)
 refine kAs rfl (a8 ?_)
 refine bh (fun e C=>∃(x9:Bool),∃(x10:DeclsTable),∃(v11:Value),r8 x2 x1 x9 x10=some r/\At [(0,am b3 0),(1,Pr.i64 x1),(5,am b7 0),(23,Pr.bool (!x9))] [Own.box b3 a4 (DeclsTableRaw.mk v11 (.map (some b6)) x10.m),Own.vec v11 af x10.l 49,Own.gmap b6 cj Rp.bool x10.known,Own.box b7 ab x2] e C) ?_ ?_
 ·rintro e C ⟨x9,x10,v11,h,hat6⟩
  refine W_at hat6 ?_
  unfold r8 at h
  refine a5 h rfl (fun _ h=> ?_) (fun _ h=> ?_)
  ·refine W_rs (kAs rfl ?_)
   obtain rfl:=osj h
   exact bc ⟨.inl rfl,_,Pick.of [0,1,2] rfl,_,(aa),v11,rfl,rfl⟩
  refine ax (a8 (W_rs (kUn (ai ee) ?_)))
  refine kUn (ap 3 ty53 bl) ?_
  refine kUn (iz rfl Tryz.underlying53) ?_
  refine kMv rfl (az ?_)
  obtain⟨z2l,hz2,h⟩:=ah h
  obtain⟨n2,hN2⟩:=bp hz2
  refine cq 0 (fun e C=>∃(x15:ApiMistake),∃(x17:List ApiEntity),∃(x16:GMap DeclsKey Bool),∃(v14:Value),r7 x15 x17 x16=some r/\At [(0,am b3 0)] [Own.box b3 a4 (DeclsTableRaw.mk v14 (.map (some b6)) x15),Own.vec v14 af x17 49,Own.gmap b6 cj Rp.bool x16,Own.box b7 ab x2] e C) ?_ ?_
  ·rintro e C ⟨x15,x17,x16,v14,h,hat1⟩
   refine W_at hat1 ?_
   unfold r7 at h
   refine W_rs (kAs rfl ?_)
   obtain rfl:=osj h
   exact bc ⟨.inl rfl,_,Pick.of [0,1,2] rfl,_,(aa),v14,rfl,rfl⟩
  refine c8 (fun m e C=>∃(x13:Int),∃(x15:ApiMistake),∃(x16:GMap DeclsKey Bool),∃(x17:List ApiEntity),∃(v14:Value),dj (fun s=>ms x2 x1 s.1 s.2.1 s.2.2.1 s.2.2.2) m (x13,x15,x16,x17)=some z2l/\At [(0,am b3 0),(1,Pr.i64 x1),(5,am b7 0),(25,aq ab x2.Kids),(26,Pr.i64 (x2.Kids.length:Int)),(27,Pr.i64 x13)] [Own.box b3 a4 (DeclsTableRaw.mk v14 (.map (some b6)) x15),Own.vec v14 af x17 49,Own.gmap b6 cj Rp.bool x16,Own.box b7 ab x2] e C) n2 ⟨0,x10.m,x10.known,x10.l,v11,hN2,⟨⟨aa,aa,aa,aa,aa,aa,trivial⟩,Pick.refl _⟩⟩ ?_
  rintro m e C ⟨x13,x15,x16,x17,v14,hN2,hatl2⟩
  refine W_at hatl2 ?_
  obtain⟨m2,w2l,rfl,h2l,hn2,ho2⟩:=bj hN2
  replace h2l:ms x2 x1 x13 x15 x16 x17=some w2l:=h2l
  unfold ms at h2l
  refine W_rs (kIn rfl rfl rfl (a8 ?_))
  refine a5 h2l rfl (fun _ h2l=> ?_) (fun _ h2l=> ?_)
  ·refine ax (a8 (az (W_rs ?_)))
   obtain⟨x24,hx24,h2l⟩:=ah h2l
   refine kUn (dg Tryz.underlying53 Tryz.sizeOf64 hx24) ?_
   refine kUn (cf ty64) ?_
   refine bq al64 fun b25=>av 4 rfl rfl (Upd.refl _) rfl Tryz.sizeOf64 ?_
   refine bh (fun e C=>∃(x26:List UInt8),∃(x27:List UInt8),∃(b28:Nat),r9 x24 x1 x17 x16 x15 x13 x26 x27=some w2l/\At [(0,am b3 0),(1,Pr.i64 x1),(5,am b7 0),(8,am b25 0),(9,am b28 0),(25,aq ab x2.Kids),(26,Pr.i64 (x2.Kids.length:Int)),(27,Pr.i64 x13)] [Own.box b3 a4 (DeclsTableRaw.mk v14 (.map (some b6)) x15),Own.vec v14 af x17 49,Own.gmap b6 cj Rp.bool x16,Own.box b7 ab x2,Own.box b25 ab x24,Own.box b28 a7 (ApiEntityRaw.mk 2 x26 x24.Text x27 x24.Type_ (x24.N==1) (.slice none 0 0) x1 x24.At)] e C) ?_ ?_
   ·rintro e C ⟨x26,x27,b28,h2l,hat5⟩
    refine W_at hat5 ?_
    unfold r9 at h2l
    refine az ?_
    refine bh (fun e C=>∃(x33:Bool),∃(x35:ApiMistake),∃(x36:GMap DeclsKey Bool),∃(x37:List ApiEntity),∃(v34:Value),mt x24 x26 x27 x1 x13 x33 x35 x36 x37=some w2l/\At [(0,am b3 0),(1,Pr.i64 x1),(5,am b7 0),(8,am b25 0),(9,am b28 0),(25,aq ab x2.Kids),(26,Pr.i64 (x2.Kids.length:Int)),(27,Pr.i64 x13),(50,Pr.bool x33)] [Own.box b3 a4 (DeclsTableRaw.mk v34 (.map (some b6)) x35),Own.vec v34 af x37 49,Own.gmap b6 cj Rp.bool x36,Own.box b7 ab x2,Own.box b25 ab x24,Own.box b28 a7 (ApiEntityRaw.mk 2 x26 x24.Text x27 x24.Type_ (x24.N==1) (.slice none 0 0) x1 x24.At)] e C) ?_ ?_
    ·rintro e C ⟨x33,x35,x36,x37,v34,h2l,hat4⟩
     refine W_at hat4 ?_
     unfold mt at h2l
     refine a5 h2l rfl (fun _ h2l=> ?_) (fun _ h2l=> ?_)
     ·refine W_rs (kAs rfl ?_)
      obtain rfl:=ho2 _ (Option.some.inj h2l).symm
      replace h:some (false,(DeclsTable.mk x37 x36 x35))=some r:=h
      obtain rfl:=osj h
      exact bc ⟨.inl rfl,_,Pick.of [0,1,2] rfl,_,(aa),v34,rfl,rfl⟩
     refine bh (fun e C=>∃(x43:Bool),∃(x45:ApiMistake),∃(x46:GMap DeclsKey Bool),∃(x47:List ApiEntity),∃(v44:Value),mu x13 x43 x45 x46 x47=some w2l/\At [(0,am b3 0),(1,Pr.i64 x1),(5,am b7 0),(25,aq ab x2.Kids),(26,Pr.i64 (x2.Kids.length:Int)),(27,Pr.i64 x13),(60,Pr.bool x43)] [Own.box b3 a4 (DeclsTableRaw.mk v44 (.map (some b6)) x45),Own.vec v44 af x47 49,Own.gmap b6 cj Rp.bool x46,Own.box b7 ab x2,Own.box b25 ab x24,Own.box b28 a7 (ApiEntityRaw.mk 2 x26 x24.Text x27 x24.Type_ (x24.N==1) (.slice none 0 0) x1 x24.At)] e C) ?_ ?_
     ·rintro e C ⟨x43,x45,x46,x47,v44,h2l,hat3⟩
      refine W_at hat3 ?_
      unfold mu at h2l
      refine a5 h2l rfl (fun _ h2l=> ?_) (fun _ h2l=> ?_)
      ·refine W_rs (kAs rfl ?_)
       obtain rfl:=ho2 _ (Option.some.inj h2l).symm
       replace h:some (false,(DeclsTable.mk x47 x46 x45))=some r:=h
       obtain rfl:=osj h
       exact bc ⟨.inl rfl,_,Pick.of [0,1,2] rfl,_,(aa),v44,rfl,rfl⟩
      refine ax (W_r (kIn rfl rfl rfl (kMv rfl ?_)))
      exact⟨m2,Nat.lt_succ_self _,w64 (x13+1),x45,x46,x47,v44,hn2 _ (Option.some.inj h2l).symm,⟨⟨aa,aa,aa,aa,aa,aa,trivial⟩,Pick.of [0,1,2,3] rfl⟩⟩
     refine W_r (kUn (ai dr) ?_)
     refine kUn (ap 4 ty3 bg) ?_
     refine kIn rfl rfl rfl (kMv rfl ?_)
     rcases bo h2l with⟨hc39,h2l⟩|⟨hc39,h2l⟩
     ·refine kGd rfl aa hc39 (hMvA rfl) (kGd rfl aa hc39 (ap 5 ty49 (Sub.refl _)) ?_)
      refine kGd rfl aa hc39 (ap 4 ty64 (Sub.refl _)) ?_
      obtain⟨⟨x40,x41⟩,hx40,h2l⟩:=ah h2l
      refine kOn rfl aa hc39 ?_
      refine rVec a6 9 ?_
      refine kg [0,1,2,6] (decls_table_method_ok x24 (DeclsTable.mk x37 x36 x35) (ApiEntity.mk 2 x26 x24.Text x27 x24.Type_ (x24.N==1) [] x1 x24.At) b3 v34 b6 (.slice none 0 0) _ hx40) (fun q C' hq=> ?_)
      obtain⟨v42,rfl,rfl⟩:=hq
      refine rCtx [Own.box b3 a4 (DeclsTableRaw.mk v42 (.map (some b6)) x41.m),Own.vec v42 af x41.l 49,Own.gmap b6 cj Rp.bool x41.known,Own.box b7 ab x2,Own.box b25 ab x24,Own.box b28 a7 (ApiEntityRaw.mk 2 x26 x24.Text x27 x24.Type_ (x24.N==1) (.slice none 0 0) x1 x24.At)] ?_
      refine kGd rfl aa hc39 (qNot rfl) (kPt rfl hc39 rfl (kAs rfl ?_))
      exact⟨!x40,x41.m,x41.known,x41.l,v42,h2l,atOk⟩
     refine kSkT rfl aa hc39 (kSkT rfl aa hc39 (kSkT rfl aa hc39 (kSkT rfl aa hc39 (kSkT rfl aa hc39 (kPf rfl hc39 rfl (kAs rfl ?_))))))
     exact⟨false,x35,x36,x37,v34,h2l,atOk⟩
    refine W_r (kUn (ai dr) ?_)
    refine kUn (ap 4 ty3 bg) ?_
    refine kIn rfl rfl rfl (kMv rfl ?_)
    rcases bo h2l with⟨hc29,h2l⟩|⟨hc29,h2l⟩
    ·refine kGd rfl aa hc29 (hMvA rfl) (kGd rfl aa hc29 (ap 5 ty49 (Sub.refl _)) ?_)
     obtain⟨⟨x30,x31⟩,hx30,h2l⟩:=ah h2l
     refine kOn rfl aa hc29 ?_
     refine rCallC' [0,1,2] (decls_table_put_ok (ApiEntity.mk 2 x26 x24.Text x27 x24.Type_ (x24.N==1) [] x1 x24.At) (DeclsTable.mk x17 x16 x15) b3 v14 b6 _ hx30) ⟨aa,(st_le fun _=>⟨fl,fl,fl,fl,fl,fl,fl_nil,fl,fl,trivial⟩),trivial⟩ (fun q C' hq=> ?_)
     obtain⟨v32,rfl,rfl⟩:=hq
     refine rCtx [Own.box b3 a4 (DeclsTableRaw.mk v32 (.map (some b6)) x31.m),Own.vec v32 af x31.l 49,Own.gmap b6 cj Rp.bool x31.known,Own.box b7 ab x2,Own.box b25 ab x24,Own.box b28 a7 (ApiEntityRaw.mk 2 x26 x24.Text x27 x24.Type_ (x24.N==1) (.slice none 0 0) x1 x24.At)] ?_
     refine kGd rfl aa hc29 (qNot rfl) (kPt rfl hc29 rfl (kAs rfl ?_))
     exact⟨!x30,x31.m,x31.known,x31.l,v32,h2l,atOk⟩
    refine kSkT rfl aa hc29 (kSkT rfl aa hc29 (kSkT rfl aa hc29 (kSkT rfl aa hc29 (kPf rfl hc29 rfl (kAs rfl ?_)))))
    exact⟨false,x15,x16,x17,v14,h2l,atOk⟩
   obtain⟨x26,hx26,h2l⟩:=ah h2l
   obtain⟨x27,hx27,h2l⟩:=ah h2l
   refine W_drawA [0,1,0,4,15,0,32,0,128,415,0,1024,0,4096,12288,0,0,65536,262143,0,1048575] [[],[Own.box b7 ab x2],[],[Own.box b25 ab x24],[],[],[Own.box b25 ab x24],[],[Own.box b7 ab x2],[],[],[Own.box b25 ab x24],[],[Own.box b25 ab x24],[],[],[],[Own.box b25 ab x24],[],[],[]] hmx (by kernel_rfl) (by kernel_rfl) (by kernel_rfl) rfl ?_
   refine aq0 0 1 (out:=am b7 1) rfl (fun C9=>(ai ef)) ?_
   refine aq1 1 3 3 (out:=bv x2.Text) rfl rfl (fun C9 i9 h9=>(ap (R:=ab) (a:=x2) (R':=a6) i9 ty9 bw (hi:=h9))) ?_
   refine aq0 2 7 (out:=am b25 1) rfl (fun C9=>(ai ef)) ?_
   refine aq1 3 15 4 (out:=bv x24.Text) rfl rfl (fun C9 i9 h9=>(ap (R:=ab) (a:=x24) (R':=a6) i9 ty9 bw (hi:=h9))) ?_
   refine aq0 4 31 (out:=bv x26) rfl (fun C9=>(ct (decls_Field_ok x2.Text x24.Text _ hx26))) ?_
   refine aq0 5 63 (out:=am b25 1) rfl (fun C9=>(ai ef)) ?_
   refine aq1 6 127 4 (out:=bv x24.Text) rfl rfl (fun C9 i9 h9=>(ap (R:=ab) (a:=x24) (R':=a6) i9 ty9 bw (hi:=h9))) ?_
   refine aq0 7 255 (out:=am b7 1) rfl (fun C9=>(ai ef)) ?_
   refine aq1 8 511 3 (out:=bv x2.Text) rfl rfl (fun C9 i9 h9=>(ap (R:=ab) (a:=x2) (R':=a6) i9 ty9 bw (hi:=h9))) ?_
   refine aq0 9 1023 (out:=bv x27) rfl (fun C9=>(ct (decls_Class_ok x2.Text _ hx27))) ?_
   refine aq0 10 2047 (out:=am b25 2) rfl (fun C9=>(ai r4)) ?_
   refine aq1 11 4095 4 (out:=bv x24.Type_) rfl rfl (fun C9 i9 h9=>(ap (R:=ab) (a:=x24) (R':=a6) i9 ty9 dz (hi:=h9))) ?_
   refine aq0 12 8191 (out:=am b25 3) rfl (fun C9=>(ai fld64_3)) ?_
   refine aq1 13 16383 4 (out:=Pr.i64 x24.N) rfl rfl (fun C9 i9 h9=>(ap (R:=ab) (a:=x24) (R':=Rp.int .i64) i9 ty2 subApiNode_N (hi:=h9))) ?_
   refine aq0 14 32767 (out:=Pr.bool (x24.N==1)) rfl (fun C9=>qInt) ?_
   refine aq0 15 65535 (out:=Pr.i64 x1) rfl (fun C9=>eb) ?_
   refine aq0 16 131071 (out:=am b25 6) rfl (fun C9=>(ai my)) ?_
   refine aq1 17 262143 4 (out:=Pr.i64 x24.At) rfl rfl (fun C9 i9 h9=>(ap (R:=ab) (a:=x24) (R':=Rp.int .i64) i9 ty3 ek (hi:=h9))) ?_
   refine aq0 18 524287 (out:=(a7).val (ApiEntityRaw.mk 2 x26 x24.Text x27 x24.Type_ (x24.N==1) (.slice none 0 0) x1 x24.At)) rfl (fun C9=>(fv stApiEntityRaw ⟨(ApiEntityRaw.mk 2 [] [] [] [] false (.slice none 0 0) 0 0),⟨_,rfl,rfl,fun j fd hj hf=>by match j,hj with| 0,h=>exact absurd rfl h| 1,_=>cases hf;rfl| 2,_=>cases hf;rfl| 3,_=>cases hf;rfl| 4,_=>cases hf;rfl| 5,_=>cases hf;rfl| 6,_=>cases hf;rfl| 7,_=>cases hf;rfl| 8,_=>cases hf;rfl|_+9,_=>cases hf⟩,⟨(ApiEntityRaw.mk 2 x26 [] [] [] false (.slice none 0 0) 0 0),⟨_,rfl,rfl,fun j fd hj hf=>by match j,hj with| 0,_=>cases hf;rfl| 1,h=>exact absurd rfl h| 2,_=>cases hf;rfl| 3,_=>cases hf;rfl| 4,_=>cases hf;rfl| 5,_=>cases hf;rfl| 6,_=>cases hf;rfl| 7,_=>cases hf;rfl| 8,_=>cases hf;rfl|_+9,_=>cases hf⟩,⟨(ApiEntityRaw.mk 2 x26 x24.Text [] [] false (.slice none 0 0) 0 0),⟨_,rfl,rfl,fun j fd hj hf=>by match j,hj with| 0,_=>cases hf;rfl| 1,_=>cases hf;rfl| 2,h=>exact absurd rfl h| 3,_=>cases hf;rfl| 4,_=>cases hf;rfl| 5,_=>cases hf;rfl| 6,_=>cases hf;rfl| 7,_=>cases hf;rfl| 8,_=>cases hf;rfl|_+9,_=>cases hf⟩,⟨(ApiEntityRaw.mk 2 x26 x24.Text x27 [] false (.slice none 0 0) 0 0),⟨_,rfl,rfl,fun j fd hj hf=>by match j,hj with| 0,_=>cases hf;rfl| 1,_=>cases hf;rfl| 2,_=>cases hf;rfl| 3,h=>exact absurd rfl h| 4,_=>cases hf;rfl| 5,_=>cases hf;rfl| 6,_=>cases hf;rfl| 7,_=>cases hf;rfl| 8,_=>cases hf;rfl|_+9,_=>cases hf⟩,⟨(ApiEntityRaw.mk 2 x26 x24.Text x27 x24.Type_ false (.slice none 0 0) 0 0),⟨_,rfl,rfl,fun j fd hj hf=>by match j,hj with| 0,_=>cases hf;rfl| 1,_=>cases hf;rfl| 2,_=>cases hf;rfl| 3,_=>cases hf;rfl| 4,h=>exact absurd rfl h| 5,_=>cases hf;rfl| 6,_=>cases hf;rfl| 7,_=>cases hf;rfl| 8,_=>cases hf;rfl|_+9,_=>cases hf⟩,⟨(ApiEntityRaw.mk 2 x26 x24.Text x27 x24.Type_ (x24.N==1) (.slice none 0 0) 0 0),⟨_,rfl,rfl,fun j fd hj hf=>by match j,hj with| 0,_=>cases hf;rfl| 1,_=>cases hf;rfl| 2,_=>cases hf;rfl| 3,_=>cases hf;rfl| 4,_=>cases hf;rfl| 5,h=>exact absurd rfl h| 6,_=>cases hf;rfl| 7,_=>cases hf;rfl| 8,_=>cases hf;rfl|_+9,_=>cases hf⟩,⟨(ApiEntityRaw.mk 2 x26 x24.Text x27 x24.Type_ (x24.N==1) (.slice none 0 0) x1 0),⟨_,rfl,rfl,fun j fd hj hf=>by match j,hj with| 0,_=>cases hf;rfl| 1,_=>cases hf;rfl| 2,_=>cases hf;rfl| 3,_=>cases hf;rfl| 4,_=>cases hf;rfl| 5,_=>cases hf;rfl| 6,_=>cases hf;rfl| 7,h=>exact absurd rfl h| 8,_=>cases hf;rfl|_+9,_=>cases hf⟩,⟨(ApiEntityRaw.mk 2 x26 x24.Text x27 x24.Type_ (x24.N==1) (.slice none 0 0) x1 x24.At),⟨_,rfl,rfl,fun j fd hj hf=>by match j,hj with| 0,_=>cases hf;rfl| 1,_=>cases hf;rfl| 2,_=>cases hf;rfl| 3,_=>cases hf;rfl| 4,_=>cases hf;rfl| 5,_=>cases hf;rfl| 6,_=>cases hf;rfl| 7,_=>cases hf;rfl| 8,h=>exact absurd rfl h|_+9,_=>cases hf⟩,rfl⟩⟩⟩⟩⟩⟩⟩⟩)) ?_
   refine ae 19 1048575 rfl (fun g9=> ?_)
   refine bq al49 fun b28=> ?_
   refine kh _ [Own.box b7 ab x2,Own.box b25 ab x24,Own.box b25 ab x24,Own.box b7 ab x2,Own.box b25 ab x24,Own.box b25 ab x24,Own.box b25 ab x24] (pc 3 (pc 4 (pc 4 (pc 3 (pc 4 (pc 4 (pc 4 dm))))))) ?_
   refine ae 20 2097151 rfl (fun g9=> ?_)
   refine av 5 rfl rfl (Upd.refl _) rfl Tryz.sizeOf49 ?_
   refine kh .any [] dm ?_
   refine ar_end ?_
   exact⟨x26,x27,b28,h2l,atOk⟩
  refine c6 ?_
  obtain rfl:=ho2 _ (Option.some.inj h2l).symm
  exact⟨x15,x17,x16,v14,h,atOk⟩
 refine eo 12 hmx (by kernel_rfl) (by kernel_rfl) ?_
 refine lUn (hMvA rfl) (lUn (ai ef) ?_)
 refine lUn (ap 3 ty9 bw) ?_
 obtain⟨x8,hx8,h⟩:=ah h
 refine lUn (ct (decls_Class_ok x2.Text _ hx8)) ?_
 refine lUn (ai ef) ?_
 refine lUn (ap 3 ty9 bw) ?_
 refine lUn (ai r4) ?_
 refine lUn (ap 3 ty9 dz) ?_
 refine lUn (hMvA rfl) (lUn (ai my) ?_)
 refine lUn (ap 3 ty3 ek) ?_
 refine lUn (fv st49 ⟨(ApiEntity.mk 1 [] [] [] [] false [] 0 0),⟨_,rfl,rfl,fun j fd hj hf=>by match j,hj with| 0,h=>exact absurd rfl h| 1,_=>cases hf;rfl| 2,_=>cases hf;rfl| 3,_=>cases hf;rfl| 4,_=>cases hf;rfl| 5,_=>cases hf;rfl| 6,_=>cases hf;rfl| 7,_=>cases hf;rfl| 8,_=>cases hf;rfl|_+9,_=>cases hf⟩,⟨(ApiEntity.mk 1 x8 [] [] [] false [] 0 0),⟨_,rfl,rfl,fun j fd hj hf=>by match j,hj with| 0,_=>cases hf;rfl| 1,h=>exact absurd rfl h| 2,_=>cases hf;rfl| 3,_=>cases hf;rfl| 4,_=>cases hf;rfl| 5,_=>cases hf;rfl| 6,_=>cases hf;rfl| 7,_=>cases hf;rfl| 8,_=>cases hf;rfl|_+9,_=>cases hf⟩,⟨(ApiEntity.mk 1 x8 x2.Text [] [] false [] 0 0),⟨_,rfl,rfl,fun j fd hj hf=>by match j,hj with| 0,_=>cases hf;rfl| 1,_=>cases hf;rfl| 2,h=>exact absurd rfl h| 3,_=>cases hf;rfl| 4,_=>cases hf;rfl| 5,_=>cases hf;rfl| 6,_=>cases hf;rfl| 7,_=>cases hf;rfl| 8,_=>cases hf;rfl|_+9,_=>cases hf⟩,⟨(ApiEntity.mk 1 x8 x2.Text [] x2.Type_ false [] 0 0),⟨_,rfl,rfl,fun j fd hj hf=>by match j,hj with| 0,_=>cases hf;rfl| 1,_=>cases hf;rfl| 2,_=>cases hf;rfl| 3,_=>cases hf;rfl| 4,h=>exact absurd rfl h| 5,_=>cases hf;rfl| 6,_=>cases hf;rfl| 7,_=>cases hf;rfl| 8,_=>cases hf;rfl|_+9,_=>cases hf⟩,⟨(ApiEntity.mk 1 x8 x2.Text [] x2.Type_ false [] x1 0),⟨_,rfl,rfl,fun j fd hj hf=>by match j,hj with| 0,_=>cases hf;rfl| 1,_=>cases hf;rfl| 2,_=>cases hf;rfl| 3,_=>cases hf;rfl| 4,_=>cases hf;rfl| 5,_=>cases hf;rfl| 6,_=>cases hf;rfl| 7,h=>exact absurd rfl h| 8,_=>cases hf;rfl|_+9,_=>cases hf⟩,⟨(ApiEntity.mk 1 x8 x2.Text [] x2.Type_ false [] x1 x2.At),⟨_,rfl,rfl,fun j fd hj hf=>by match j,hj with| 0,_=>cases hf;rfl| 1,_=>cases hf;rfl| 2,_=>cases hf;rfl| 3,_=>cases hf;rfl| 4,_=>cases hf;rfl| 5,_=>cases hf;rfl| 6,_=>cases hf;rfl| 7,_=>cases hf;rfl| 8,h=>exact absurd rfl h|_+9,_=>cases hf⟩,rfl⟩⟩⟩⟩⟩⟩) ?_
 obtain⟨⟨x9,x10⟩,hx9,h⟩:=ah h
 refine kg [0,1,2] (decls_table_put_ok (ApiEntity.mk 1 x8 x2.Text [] x2.Type_ false [] x1 x2.At) x4 b3 v5 b6 _ hx9) (fun q C' hq=> ?_)
 obtain⟨v11,rfl,rfl⟩:=hq
 refine rCtx [Own.box b3 a4 (DeclsTableRaw.mk v11 (.map (some b6)) x10.m),Own.vec v11 af x10.l 49,Own.gmap b6 cj Rp.bool x10.known,Own.box b7 ab x2] ?_
 refine kNo rfl ?_
 exact⟨x9,x10,v11,h,atOk⟩
theorem decls_Table_ok (x1:List (List ApiNode)) (r:(List ApiEntity) × ApiMistake) (h:decls_Table x1=some r):FnP Tryz.prog 34 [aq (ba ab) x1] (bk [aq af r.1,(ak).val r.2]):=by
 refine c4 (rs:=[.tmp 2,.cell 3 30]) Tryz.func34 rfl Tryz.ntmps34 Tryz.results34 (by decide) (fun s0=> ?_)
 unfold decls_Table at h
 refine W_rs (kAs rfl (bq al30 fun b2=>W_rs ?_))
 refine rMakeMapG cj Rp.bool (fun b3=> ?_)
 refine rEnv 9 (q:=qm.val (.map (some b3))) (le_raw rfl) ?_
 refine kUn (fv stDeclsTableRaw ⟨(DeclsTableRaw.mk (.slice none 0 0) (.map (some b3)) (ApiMistake.mk 0 0 0)),⟨_,rfl,rfl,fun j fd hj hf=>by match j,hj with| 0,_=>cases hf;rfl| 1,h=>exact absurd rfl h| 2,_=>cases hf;rfl|_+3,_=>cases hf⟩,rfl⟩) ?_
 refine rBox (R:=a4) (a:=(DeclsTableRaw.mk (.slice none 0 0) (.map (some b3)) (ApiMistake.mk 0 0 0))) rfl (fun b4=> ?_)
 refine kAs rfl (a8 (W_rs (kMvL rfl (kUn (iz rfl Tryz.underlying24) ?_))))
 refine kMv rfl (az ?_)
 obtain⟨z2l,hz2,h⟩:=ah h
 obtain⟨n2,hN2⟩:=bp hz2
 refine cq 0 (fun e C=>∃(x6:GMap DeclsKey Bool),∃(x8:ApiMistake),∃(x9:List ApiEntity),∃(v7:Value),decls_Table_k1 x6 x8 x9=some r/\At [(3,am b2 0),(4,am b4 0)] [Own.box b2 ak (ApiMistake.mk 0 0 0),Own.gmap b3 cj Rp.bool x6,Own.box b4 a4 (DeclsTableRaw.mk v7 (.map (some b3)) x8),Own.vec v7 af x9 49] e C) ?_ ?_
 ·rintro e C ⟨x6,x8,x9,v7,h,hat1⟩
  refine W_at hat1 ?_
  unfold decls_Table_k1 at h
  refine W_rs (kMv rfl (kNp rfl (kUn (ai fld118_0) ?_)))
  refine kUn (qLoadRaw (R:=a4) (a:=(DeclsTableRaw.mk v7 (.map (some b3)) x8)) 2 ty38 subDeclsTableRaw_l) ?_
  refine kUn (fv st30 rfl) ?_
  refine kAs rfl (av 0 rfl rfl (Upd.refl _) rfl Tryz.sizeOf30 ?_)
  refine W_rel 3 [2] ?_ rfl ⟨rfl,trivial⟩
  obtain rfl:=osj h
  exact bc ⟨rfl,[aq af x9,(ak).val (ApiMistake.mk 0 0 0)],⟨yT aa,yBox 0 ty30 aa,trivial⟩,aa⟩
 refine W_vec af 49 ?_
 refine c8 (fun m e C=>∃(x5:Int),∃(x6:GMap DeclsKey Bool),∃(x8:ApiMistake),∃(x9:List ApiEntity),∃(v7:Value),dj (fun s=>decls_Table_l2 x1 s.1 s.2.1 s.2.2.1 s.2.2.2) m (x5,x6,x8,x9)=some z2l/\At [(3,am b2 0),(4,am b4 0),(12,aq (ba ab) x1),(13,Pr.i64 (x1.length:Int)),(14,Pr.i64 x5)] [Own.box b2 ak (ApiMistake.mk 0 0 0),Own.gmap b3 cj Rp.bool x6,Own.box b4 a4 (DeclsTableRaw.mk v7 (.map (some b3)) x8),Own.vec v7 af x9 49] e C) n2 ⟨0,([]:GMap DeclsKey Bool),(ApiMistake.mk 0 0 0),[],(.slice none 0 0),hN2,⟨⟨aa,aa,aa,aa,aa,trivial⟩,Pick.refl _⟩⟩ ?_
 rintro m e C ⟨x5,x6,x8,x9,v7,hN2,hatl2⟩
 refine W_at hatl2 ?_
 obtain⟨m2,w2l,rfl,h2l,hn2,ho2⟩:=bj hN2
 replace h2l:decls_Table_l2 x1 x5 x6 x8 x9=some w2l:=h2l
 unfold decls_Table_l2 at h2l
 refine W_rs (kIn rfl rfl rfl (a8 ?_))
 refine a5 h2l rfl (fun _ h2l=> ?_) (fun _ h2l=> ?_)
 ·refine ax (a8 (az (W_rs (kMv rfl ?_))))
  obtain⟨x16,hx16,h2l⟩:=ah h2l
  refine kUn (dg Tryz.underlying24 Tryz.sizeOf53 hx16) ?_
  refine kUn (cf ty53) ?_
  refine kAs rfl (kAsL rfl (W_rs (kMvL rfl (kUn (iz rfl Tryz.underlying53) ?_))))
  refine kMv rfl (az ?_)
  obtain⟨z4l,hz4,h2l⟩:=ah h2l
  obtain⟨n4,hN4⟩:=bp hz4
  refine cq 2 (fun e C=>∃(x18:GMap DeclsKey Bool),∃(x20:ApiMistake),∃(x21:List ApiEntity),∃(v19:Value),decls_Table_k3 x5 x18 x20 x21=some w2l/\At [(3,am b2 0),(4,am b4 0),(12,aq (ba ab) x1),(13,Pr.i64 (x1.length:Int)),(14,Pr.i64 x5)] [Own.box b2 ak (ApiMistake.mk 0 0 0),Own.gmap b3 cj Rp.bool x18,Own.box b4 a4 (DeclsTableRaw.mk v19 (.map (some b3)) x20),Own.vec v19 af x21 49] e C) ?_ ?_
  ·rintro e C ⟨x18,x20,x21,v19,h2l,hat3⟩
   refine W_at hat3 ?_
   unfold decls_Table_k3 at h2l
   refine W_r (kIn rfl rfl rfl (kMv rfl ?_))
   exact⟨m2,Nat.lt_succ_self _,w64 (x5+1),x18,x20,x21,v19,hn2 _ (Option.some.inj h2l).symm,atOk⟩
  refine c8 (fun m e C=>∃(x17:Int),∃(x18:GMap DeclsKey Bool),∃(x20:ApiMistake),∃(x21:List ApiEntity),∃(v19:Value),dj (fun s=>decls_Table_l4 x16 x5 s.1 s.2.1 s.2.2.1 s.2.2.2) m (x17,x18,x20,x21)=some z4l/\At [(3,am b2 0),(4,am b4 0),(5,Pr.i64 x5),(12,aq (ba ab) x1),(13,Pr.i64 (x1.length:Int)),(14,Pr.i64 x5),(19,aq ab x16),(20,Pr.i64 (x16.length:Int)),(21,Pr.i64 x17)] [Own.box b2 ak (ApiMistake.mk 0 0 0),Own.gmap b3 cj Rp.bool x18,Own.box b4 a4 (DeclsTableRaw.mk v19 (.map (some b3)) x20),Own.vec v19 af x21 49] e C) n4 ⟨0,x6,x8,x9,v7,hN4,⟨⟨aa,aa,aa,aa,aa,aa,aa,aa,aa,trivial⟩,Pick.refl _⟩⟩ ?_
  rintro m e C ⟨x17,x18,x20,x21,v19,hN4,hatl4⟩
  refine W_at hatl4 ?_
  obtain⟨m4,w4l,rfl,h4l,hn4,ho4⟩:=bj hN4
  replace h4l:decls_Table_l4 x16 x5 x17 x18 x20 x21=some w4l:=h4l
  unfold decls_Table_l4 at h4l
  refine W_rs (kIn rfl rfl rfl (a8 ?_))
  refine a5 h4l rfl (fun _ h4l=> ?_) (fun _ h4l=> ?_)
  ·refine ax (a8 (az (W_rs ?_)))
   obtain⟨x28,hx28,h4l⟩:=ah h4l
   refine kUn (dg Tryz.underlying53 Tryz.sizeOf64 hx28) ?_
   refine kUn (cf ty64) ?_
   refine bq al64 fun b29=>av 4 rfl rfl (Upd.refl _) rfl Tryz.sizeOf64 ?_
   refine bh (fun e C=>∃(x34:Bool),∃(x36:ApiMistake),∃(x37:GMap DeclsKey Bool),∃(x38:List ApiEntity),∃(v35:Value),decls_Table_j6 x17 x34 x36 x37 x38=some w4l/\At [(3,am b2 0),(4,am b4 0),(5,Pr.i64 x5),(12,aq (ba ab) x1),(13,Pr.i64 (x1.length:Int)),(14,Pr.i64 x5),(19,aq ab x16),(20,Pr.i64 (x16.length:Int)),(21,Pr.i64 x17),(34,Pr.bool x34)] [Own.box b4 a4 (DeclsTableRaw.mk v35 (.map (some b3)) x36),Own.vec v35 af x38 49,Own.gmap b3 cj Rp.bool x37,Own.box b2 ak (ApiMistake.mk 0 0 0),Own.box b29 ab x28] e C) ?_ ?_
   ·rintro e C ⟨x34,x36,x37,x38,v35,h4l,hat6⟩
    refine W_at hat6 ?_
    unfold decls_Table_j6 at h4l
    refine a5 h4l rfl (fun _ h4l=> ?_) (fun _ h4l=> ?_)
    ·refine bh (fun e C=>decls_Table_j5 x36=some w4l/\At [(2,Pr.is (.slice none 0 0)),(3,am b2 0)] [Own.box b4 a4 (DeclsTableRaw.mk v35 (.map (some b3)) x36),Own.vec v35 af x38 49,Own.gmap b3 cj Rp.bool x37,Own.box b2 ak x36,Own.box b29 ab x28] e C) ?_ ?_
     ·rintro e C ⟨h4l,hat5⟩
      refine W_at hat5 ?_
      unfold decls_Table_j5 at h4l
      obtain rfl:=ho4 _ (Option.some.inj h4l).symm
      replace h2l:some (.inr (.done ([],x36)))=some w2l:=h2l
      obtain rfl:=ho2 _ (Option.some.inj h2l).symm
      replace h:some ([],x36)=some r:=h
      obtain rfl:=osj h
      exact bc ⟨rfl,[aq af [],(ak).val x36],⟨yT (c7 _),yBox 3 ty30 aa,trivial⟩,aa⟩
     refine eo 5 hmx (by kernel_rfl) (by kernel_rfl) ?_
     refine lUn (hMvA rfl) (lUn (qNilP rfl) (lUn (ai fld118_2) ?_))
     refine lUn (ap 0 ty30 subDeclsTableRaw_m) ?_
     refine lUn (hAsA rfl) (av 3 rfl rfl (Upd.refl _) rfl Tryz.sizeOf30 ?_)
     exact⟨h4l,atOk⟩
    refine ax (W_r (kIn rfl rfl rfl (kMv rfl ?_)))
    exact⟨m4,Nat.lt_succ_self _,w64 (x17+1),x37,x36,x38,v35,hn4 _ (Option.some.inj h4l).symm,⟨⟨aa,aa,aa,aa,aa,aa,aa,aa,aa,trivial⟩,Pick.of [3,2,0,1] rfl⟩⟩
   refine W_r (kUn (ai dr) ?_)
   refine kUn (ap 4 ty3 bg) ?_
   refine kIn rfl rfl rfl (kMv rfl ?_)
   rcases bo h4l with⟨hc30,h4l⟩|⟨hc30,h4l⟩
   ·refine kGd rfl aa hc30 (hMvA rfl) (kGd rfl aa hc30 (hMvA rfl) (kGd rfl aa hc30 (ap 4 ty64 (Sub.refl _)) ?_))
    obtain⟨⟨x31,x32⟩,hx31,h4l⟩:=ah h4l
    refine kOn rfl aa hc30 ?_
    refine kg [2,3,1] (decls_table_class_ok x5 x28 (DeclsTable.mk x21 x18 x20) b4 v19 b3 _ hx31) (fun q C' hq=> ?_)
    obtain⟨v33,rfl,rfl⟩:=hq
    refine kGd rfl aa hc30 (qNot rfl) (kPt rfl hc30 rfl ?_)
    exact⟨!x31,x32.m,x32.known,x32.l,v33,h4l,atOk⟩
   refine kSkT rfl aa hc30 (kSkT rfl aa hc30 (kSkT rfl aa hc30 (kSkT rfl aa hc30 (kSkT rfl aa hc30 (kPf rfl hc30 rfl ?_)))))
   exact⟨false,x20,x18,x21,v19,h4l,⟨⟨aa,aa,aa,aa,aa,aa,aa,aa,aa,aa,trivial⟩,Pick.of [2,3,1,0,4] rfl⟩⟩
  refine c6 ?_
  obtain rfl:=ho4 _ (Option.some.inj h4l).symm
  exact⟨x18,x20,x21,v19,h2l,atOk⟩
 refine c6 ?_
 obtain rfl:=ho2 _ (Option.some.inj h2l).symm
 exact⟨x6,x8,x9,v7,h,atOk⟩
theorem kin_class_ok (x1:List ApiEntity) (x2:List UInt8) (r:ApiEntity × Bool) (h:kin_class x1 x2=some r):FnP Tryz.prog 124 [aq af x1,bv x2] (bk [(af).val r.1,Pr.bool r.2]):=by
 refine c4 (rs:=[.cell 4 49,.tmp 5]) Tryz.func124 rfl Tryz.ntmps124 Tryz.results124 (by decide) (fun s0=> ?_)
 unfold kin_class at h
 refine W_rs (bq oy fun b3=>kAs rfl (a8 (W_rs (kMvL rfl (kUn (iz rfl Tryz.underlying38) ?_)))))
 refine kMv rfl (az ?_)
 obtain⟨z2l,hz2,h⟩:=ah h
 obtain⟨n2,hN2⟩:=bp hz2
 refine cq 0 (fun e C=>kin_class_k1=some r/\At [(4,am b3 0)] [Own.box b3 af (ApiEntity.mk 0 [] [] [] [] false [] 0 0)] e C) ?_ ?_
 ·rintro e C ⟨h,hat1⟩
  refine W_at hat1 ?_
  unfold kin_class_k1 at h
  refine W_rs (kUn (fv st49 rfl) ?_)
  refine av 0 rfl rfl (Upd.refl _) rfl Tryz.sizeOf49 (kAs rfl ?_)
  obtain rfl:=osj h
  exact bc ⟨rfl,[(af).val (ApiEntity.mk 0 [] [] [] [] false [] 0 0),Pr.bool false],⟨yBox 0 ty49 aa,yT aa,trivial⟩,aa⟩
 refine c8 (fun m e C=>∃(x4:Int),dj (fun s=>qn x1 x2 s) m x4=some z2l/\At [(1,bv x2),(4,am b3 0),(8,aq af x1),(9,Pr.i64 (x1.length:Int)),(10,Pr.i64 x4)] [Own.box b3 af (ApiEntity.mk 0 [] [] [] [] false [] 0 0)] e C) n2 ⟨0,hN2,⟨⟨aa,aa,aa,aa,aa,trivial⟩,Pick.refl _⟩⟩ ?_
 rintro m e C ⟨x4,hN2,hatl2⟩
 refine W_at hatl2 ?_
 obtain⟨m2,w2l,rfl,h2l,hn2,ho2⟩:=bj hN2
 replace h2l:qn x1 x2 x4=some w2l:=h2l
 unfold qn at h2l
 refine W_rs (kIn rfl rfl rfl (a8 ?_))
 refine a5 h2l rfl (fun _ h2l=> ?_) (fun _ h2l=> ?_)
 ·refine ax (a8 (az (W_rs ?_)))
  obtain⟨x7,hx7,h2l⟩:=ah h2l
  refine kUn (dg Tryz.underlying38 Tryz.sizeOf49 hx7) ?_
  refine kUn (cf ty49) ?_
  refine bq oy fun b8=>av 1 rfl rfl (Upd.refl _) rfl Tryz.sizeOf49 ?_
  refine bh (fun e C=>∃(x10:Bool),kin_class_j3 x7 x4 x10=some w2l/\At [(1,bv x2),(4,am b3 0),(7,am b8 0),(8,aq af x1),(9,Pr.i64 (x1.length:Int)),(10,Pr.i64 x4),(22,Pr.bool x10)] [Own.box b3 af (ApiEntity.mk 0 [] [] [] [] false [] 0 0),Own.box b8 af x7] e C) ?_ ?_
  ·rintro e C ⟨x10,h2l,hat3⟩
   refine W_at hat3 ?_
   unfold kin_class_j3 at h2l
   refine a5 h2l rfl (fun _ h2l=> ?_) (fun _ h2l=> ?_)
   ·refine W_rs (kUn (ap 1 ty49 (Sub.refl _)) ?_)
    refine av 0 rfl rfl (Upd.refl _) rfl Tryz.sizeOf49 (kAs rfl ?_)
    obtain rfl:=ho2 _ (Option.some.inj h2l).symm
    replace h:some (x7,true)=some r:=h
    obtain rfl:=osj h
    exact bc ⟨rfl,[(af).val x7,Pr.bool true],⟨yBox 0 ty49 aa,yT aa,trivial⟩,aa⟩
   refine ax (W_r (kIn rfl rfl rfl (kMv rfl ?_)))
   exact⟨m2,Nat.lt_succ_self _,w64 (x4+1),hn2 _ (Option.some.inj h2l).symm,⟨⟨aa,aa,aa,aa,aa,trivial⟩,Pick.of [0] rfl⟩⟩
  refine W_r (kUn (ai pr) ?_)
  refine kUn (ap 1 ty3 da) ?_
  refine kIn rfl rfl rfl (kMv rfl ?_)
  rcases bo h2l with⟨hc9,h2l⟩|⟨hc9,h2l⟩
  ·refine kGd rfl aa hc9 (ai j7) ?_
   refine kGd rfl aa hc9 (ap 1 ty9 dh) ?_
   refine kGd rfl aa hc9 (hMvA rfl) (kGd rfl aa hc9 (qStr rfl rfl rfl) (kPt rfl hc9 rfl ?_))
   exact⟨x7.Id==x2,h2l,atOk⟩
  refine kSkT rfl aa hc9 (kSkT rfl aa hc9 (kSkT rfl aa hc9 (kSkT rfl aa hc9 (kPf rfl hc9 rfl ?_))))
  exact⟨false,h2l,atOk⟩
 refine c6 ?_
 obtain rfl:=ho2 _ (Option.some.inj h2l).symm
 exact⟨h,atOk⟩
theorem kin_above_1_ok {σ:Type} (yld:σ->ApiEntity->Option (Bool × σ)) (Y:YI σ) (l:Nat) (hY:YOK Tryz.prog Y l (fun a=>[(af).val a]) yld) (x2:List ApiEntity) (x4:List UInt8) (x5:σ) (b1 b3:Nat) (v6:List Nat) (r:(List ApiEntity) × (List UInt8) × (σ)) (h:kin_above_1 yld x2 x4 x5=some r):FnC Tryz.prog 153 ([]++[Pr.yl l]++[am b1 0,am b3 0]) ([Own.box b1 (ba af) x2,Own.box b3 a6 x4]++[Own.grp Y x5 v6]) (fun _ C'=>∃w9,C'=[Own.box b1 (ba af) r.1,Own.box b3 a6 r.2.1]++[Own.grp Y r.2.2 w9]):=by
 refine fi (rs:=[]) Tryz.func153 rfl Tryz.ntmps153 ⟨by decide,Tryz.results153⟩ (by decide) (fun s0=> ?_)
 unfold kin_above_1 at h
 refine W_rs ?_
 refine rMakeMap Rp.bool (fun b7=> ?_)
 refine kUn (hAs (out:=l7 b7) rfl) (az ?_)
 obtain⟨n1,hN1⟩:=bp h
 refine c8 (fun m e C=>∃(x8:List UInt8),∃(x9:σ),∃(x11:SMap Bool),∃(v10:List Nat),dj (fun s=>mj yld x2 s.1 s.2.1 s.2.2) m (x8,x9,x11)=some r/\At [(0,Pr.yl l),(1,am b1 0),(2,am b3 0),(4,l7 b7)] [Own.box b1 (ba af) x2,Own.box b3 a6 x8,Own.grp Y x9 v10,Own.smap b7 Rp.bool x11] e C) n1 ⟨x4,x5,([]:SMap Bool),v6,hN1,⟨⟨aa,aa,aa,aa,trivial⟩,Pick.refl _⟩⟩ ?_
 rintro m e C ⟨x8,x9,x11,v10,hN1,hatl1⟩
 refine W_at hatl1 ?_
 obtain⟨m1,w1l,rfl,h1l,hn1,ho1⟩:=bj hN1
 replace h1l:mj yld x2 x8 x9 x11=some w1l:=h1l
 unfold mj at h1l
 refine az (W_rs (kUn (ap 0 ty38 (Sub.refl _)) ?_))
 refine kUn (ap 1 ty9 (Sub.refl _)) ?_
 obtain⟨⟨x16,x17⟩,hx16,h1l⟩:=ah h1l
 refine kUn (ct (kin_class_ok x2 x8 _ hx16)) ?_
 refine kUn (hMv (out:=bk [(af).val x16,Pr.bool x17]) rfl) (kUn au ?_)
 refine kUn au ?_
 refine bq oy fun b18=>av 4 rfl rfl (Upd.refl _) rfl Tryz.sizeOf49 (kAs rfl (a8 ?_))
 refine bh (fun e C=>∃(x28:Bool),∃(x29:σ),∃(v30:List Nat),pp yld x2 x8 x16 x11 x28 x29=some w1l/\At [(0,Pr.yl l),(1,am b1 0),(2,am b3 0),(4,l7 b7),(5,am b18 0),(26,Pr.bool x28)] [Own.grp Y x29 v30,Own.box b1 (ba af) x2,Own.box b3 a6 x8,Own.smap b7 Rp.bool x11,Own.box b18 af x16] e C) ?_ ?_
 ·rintro e C ⟨x28,x29,v30,h1l,hat2⟩
  refine W_at hat2 ?_
  unfold pp at h1l
  refine a5 h1l rfl (fun _ h1l=> ?_) (fun _ h1l=> ?_)
  ·have h:some (x2,x8,x29)=some r:=congrArg some (ho1 _ (Option.some.inj h1l).symm)
   obtain rfl:=osj h
   exact bc ⟨.inl rfl,_,Pick.of [1,2,0] rfl,_,aa,v30,rfl⟩
  refine ax (W_rs (kUn (hMv (out:=l7 b7) rfl) (kUn (ap 2 ty9 (Sub.refl _)) ?_)))
  refine rMapSet (R:=Rp.bool) (m:=x11) (kx:=x8) (v:=true) 3 Tryz.underlying182 Tryz.underlying9 ?_
  refine W_r (kUn (ai fld49_4) ?_)
  refine kUn (ap 4 ty9 f4) ?_
  refine av 2 rfl rfl (Upd.refl _) rfl Tryz.sizeOf9 ?_
  exact⟨m1,Nat.lt_succ_self _,x16.Type_,x29,(mset x8 true x11),v30,hn1 _ (Option.some.inj h1l).symm,⟨⟨aa,aa,aa,aa,trivial⟩,Pick.of [1,2,0,3] rfl⟩⟩
 refine W_r (kMv rfl (kNo rfl (kMv rfl ?_)))
 rcases bo h1l with⟨hc19,h1l⟩|⟨hc19,h1l⟩
 ·refine kSkF rfl aa hc19 (kSkF rfl aa hc19 (kSkF rfl aa hc19 (kPt rfl hc19 rfl (kMv rfl ?_))))
  have hc24:true=true:=rfl
  refine kSkF rfl aa hc24 (kSkF rfl aa hc24 (kSkF rfl aa hc24 (kSkF rfl aa hc24 (kPt rfl hc24 rfl ?_))))
  exact⟨true,x9,v10,h1l,⟨⟨aa,aa,aa,aa,aa,aa,trivial⟩,Pick.of [2,0,1,3,4] rfl⟩⟩
 refine kGd rfl aa hc19 (hMv (out:=l7 b7) rfl) (kGd rfl aa hc19 (ap 1 ty9 (Sub.refl _)) ?_)
 refine kGd rfl aa hc19 (qMapGet (R:=Rp.bool) (m:=x11) (kx:=x8) (z:=false) 3 Tryz.underlying182 Tryz.underlying9 Tryz.zeroValue4 (fun _=>rfl)) ?_
 refine kPf rfl hc19 rfl (kMv rfl ?_)
 rcases bo h1l with⟨hc20,h1l⟩|⟨hc20,h1l⟩
 ·refine kSkF rfl aa hc20 (kSkF rfl aa hc20 (kSkF rfl aa hc20 (kSkF rfl aa hc20 (kPt rfl hc20 rfl ?_))))
  exact⟨true,x9,v10,h1l,⟨⟨aa,aa,aa,aa,aa,aa,trivial⟩,Pick.of [2,0,1,3,4] rfl⟩⟩
 refine kGd rfl aa hc20 (hMv (out:=Pr.yl l) rfl) (kGd rfl aa hc20 (ap 4 ty49 (Sub.refl _)) ?_)
 obtain⟨⟨x21,x22⟩,hx21,h1l⟩:=ah h1l
 refine kOn rfl aa hc20 ?_
 refine rYield 2 (a:=(x16)) hY hx21 (fun v23=> ?_)
 refine kGd rfl aa hc20 (qNot rfl) (kPf rfl hc20 rfl ?_)
 exact⟨!x21,x22,v23,h1l,atOk⟩
theorem kin_above_ok (x1:List ApiEntity) (x2:List UInt8):FnC Tryz.prog 109 [aq af x1,bv x2] [] (fun q C'=>∃b3 b4,q=j2 153 [] [am b3 0,am b4 0]/\C'=[Own.box b3 (ba af) x1,Own.box b4 a6 x2]):=by
 refine fi (rs:=[4]) Tryz.func109 rfl Tryz.ntmps109 ⟨by decide,Tryz.results109⟩ (by decide) (fun s0=> ?_)
 refine W_rs ?_
 refine rBox (R:=ba af) (a:=x1) rfl (fun b3=> ?_)
 refine rBox (R:=a6) (a:=x2) rfl (fun b4=> ?_)
 refine kAs rfl (W_rs (kUn mz ?_))
 refine kUn (hAs (out:=j2 153 [] [am b3 0,am b4 0]) rfl) ?_
 exact bc ⟨.inl rfl,_,Pick.refl _,_,aa,b3,b4,rfl,rfl⟩
theorem kin_Below_ok (x1:List ApiEntity) (x2 x3:List UInt8) (r:Bool) (h:kin_Below x1 x2 x3=some r):FnP Tryz.prog 60 [aq af x1,bv x2,bv x3] (Pr.bool r):=by
 refine c4 (n:=16) (rs:=[.cell 6 4]) Tryz.func60 rfl Tryz.ntmps60 Tryz.results60 (by decide) (fun s0=> ?_)
 unfold kin_Below at h
 refine W_rs ?_
 refine rBox (R:=a6) (a:=x3) rfl (fun b4=> ?_)
 refine rAlloc (R:=Rp.bool) (z:=false) Tryz.zeroValue4 (fun _=>rfl) (fun b5=> ?_)
 refine W_rs2 ?_
 refine W_r ?_
 refine rq (out:=aq af x1) eb ?_
 refine rq (out:=bv x2) eb ?_
 refine kg [] (kin_above_ok x1 x2) (fun q C' hq=> ?_)
 obtain⟨b6,b7,rfl,rfl⟩:=hq
 refine⟨rfl,?_⟩
 obtain⟨⟨x11,x12,x15⟩,hx14,h⟩:=ah h
 refine W_rangeX [0,1] (fun _=> .ret) (fun(s:(Unit) ⊕ (ApiEntity)) C=>match s with| .inl s=>C=[Own.box b4 a6 x3,Own.box b5 Rp.bool false]| .inr s=>∃(b9:Nat),C=[Own.box b4 a6 x3,Own.box b5 Rp.bool true,Own.box b9 af s]) (encs:=(fun(a:ApiEntity)=>[(af).val a])) (yld:=(fun(s:Unit) (a:ApiEntity)=>qo x3 a)) (st0:=()) (stF:=x15) (Ccap':=[Own.box b6 (ba af) x11,Own.box b7 a6 x12]) (fun l Y L hY=>kin_above_1_ok _ Y l hY x1 x2 (.inl ()) b6 b7 L _ hx14) rfl (fun _=>rfl) ?_ ?_ (fun _ _ _ h=>h.1)
 ·rintro l _ x8 rr1 C T s0 rfl hy1
  replace hy1:qo x3 x8=some rr1:=hy1
  unfold qo at hy1
  refine W_r ?_
  refine rAlloc (R:=af) (z:=(ApiEntity.mk 0 [] [] [] [] false [] 0 0)) Tryz.zeroValue49 (fun _=>⟨_,⟨_,_,rfl,rfl,⟨_,_,rfl,rfl,⟨_,_,rfl,rfl,⟨_,_,rfl,rfl,⟨_,_,rfl,rfl,⟨_,_,rfl,rfl,⟨_,_,rfl,⟨_,rfl,none,0,rfl,⟨Nat.le_refl _,fun _=>rfl⟩,.inl rfl⟩,⟨_,_,rfl,rfl,⟨_,_,rfl,rfl,rfl⟩⟩⟩⟩⟩⟩⟩⟩⟩,rfl⟩) (fun b9=> ?_)
  refine um (R:=af) (R':=af) (a:=(ApiEntity.mk 0 [] [] [] [] false [] 0 0)) (y:=x8) 2 Tryz.sizeOf49 (Upd.refl _) ?_
  refine⟨rfl,fun T s0=> ?_⟩
  refine W_pickK ?_
  refine az ?_
  refine W_rs ?_
  refine rq (out:=am b9 1) (ai j7) ?_
  refine rq (out:=bv x8.Id) (ap (R:=af) (a:=x8) (R':=a6) 2 ty9 dh) ?_
  refine rq (out:=bv x3) (ap (R:=a6) (a:=x3) (R':=a6) 0 ty9 (Sub.refl _)) ?_
  refine rq (out:=Pr.bool (x8.Id==x3)) qStr ?_
  refine W_cond (b:=x8.Id==x3) rfl (fun hc10=> ?_) (fun hc10=> ?_)
  ·replace hy1:=iteT hc10 hy1
   refine W_rs ?_
   refine um (R:=Rp.bool) (R':=Rp.bool) (a:=false) (y:=true) 1 Tryz.sizeOf4 (Upd.refl _) ?_
   obtain rfl:=Option.some.inj hy1
   exact bc ⟨_,Pick.refl _,.inr ⟨_,rfl,rfl,b9,rfl⟩⟩
  replace hy1:=iteF hc10 hy1
  refine ax ?_
  obtain rfl:=Option.some.inj hy1
  exact⟨_,Pick.of [0,1] rfl,.inl ⟨rfl,_,rfl,rfl⟩⟩
 intro D C' hj
 cases x15 with
 |inl x13=>
  replace h:(some false)=some r:=h
  obtain rfl:=hj
  intro T s0
  refine W_rs ?_
  refine um (R:=Rp.bool) (R':=Rp.bool) (a:=false) (y:=false) 3 Tryz.sizeOf4 (Upd.refl _) ?_
  obtain rfl:=Option.some.inj h
  exact bc ⟨rfl,[Pr.bool false],⟨yBox 3 ty4 aa,trivial⟩,aa⟩
 |inr x16=>
  replace h:(some true)=some r:=h
  obtain⟨b9,rfl⟩:=hj
  obtain rfl:=Option.some.inj h
  exact .inr ⟨rfl,⟨rfl,[Pr.bool true],⟨yBox 3 ty4 aa,trivial⟩,aa⟩⟩
theorem kin_has_ok (x1:List ApiEntity) (x2:List UInt8) (x3:(ApiEntity->Option Bool)) (r:ApiEntity × Bool) (h:kin_has x1 x2 x3=some r):FnP Tryz.prog 155 [aq af x1,bv x2,c3 Tryz.prog (l8 x3)] (bk [(af).val r.1,Pr.bool r.2]):=by
 refine c4 (n:=37) (rs:=[.cell 6 49,.tmp 7]) Tryz.func155 rfl Tryz.ntmps155 Tryz.results155 (by decide) (fun s0=> ?_)
 unfold kin_has at h
 refine W_rs ?_
 refine rBox (R:=ba af) (a:=x1) rfl (fun b4=> ?_)
 refine rBox (R:=Rp.fn (fun x=>c3 Tryz.prog (l8 x)) pfn_one) (a:=x3) rfl (fun b5=> ?_)
 refine rAlloc (R:=af) (z:=(ApiEntity.mk 0 [] [] [] [] false [] 0 0)) Tryz.zeroValue49 (fun _=>⟨_,⟨_,_,rfl,rfl,⟨_,_,rfl,rfl,⟨_,_,rfl,rfl,⟨_,_,rfl,rfl,⟨_,_,rfl,rfl,⟨_,_,rfl,rfl,⟨_,_,rfl,⟨_,rfl,none,0,rfl,⟨Nat.le_refl _,fun _=>rfl⟩,.inl rfl⟩,⟨_,_,rfl,rfl,⟨_,_,rfl,rfl,rfl⟩⟩⟩⟩⟩⟩⟩⟩⟩,rfl⟩) (fun b6=> ?_)
 refine rq (out:=Pr.bool false) du ?_
 refine W_scope ?_
 refine W_rs ?_
 refine rAlloc (R:=af) (z:=(ApiEntity.mk 0 [] [] [] [] false [] 0 0)) Tryz.zeroValue49 (fun _=>⟨_,⟨_,_,rfl,rfl,⟨_,_,rfl,rfl,⟨_,_,rfl,rfl,⟨_,_,rfl,rfl,⟨_,_,rfl,rfl,⟨_,_,rfl,rfl,⟨_,_,rfl,⟨_,rfl,none,0,rfl,⟨Nat.le_refl _,fun _=>rfl⟩,.inl rfl⟩,⟨_,_,rfl,rfl,⟨_,_,rfl,rfl,rfl⟩⟩⟩⟩⟩⟩⟩⟩⟩,rfl⟩) (fun b7=> ?_)
 refine W_rs ?_
 refine rAlloc (R:=Rp.bool) (z:=false) Tryz.zeroValue4 (fun _=>rfl) (fun b8=> ?_)
 refine um (R:=Rp.bool) (R':=Rp.bool) (a:=false) (y:=false) 4 Tryz.sizeOf4 (Upd.refl _) ?_
 refine a8 ?_
 refine W_label ?_
 refine W_rs2 ?_
 refine W_r ?_
 refine rq (out:=aq af x1) (ap (R:=ba af) (a:=x1) (R':=ba af) 0 ty38 (Sub.refl _)) ?_
 refine rq (out:=bv x2) eb ?_
 refine kg [] (kin_above_ok x1 x2) (fun q C' hq=> ?_)
 obtain⟨b9,b10,rfl,rfl⟩:=hq
 refine⟨rfl,?_⟩
 obtain⟨⟨x22,x23,x26⟩,hx25,h⟩:=ah h
 refine W_rangeX [0,1] (fun _=> .exit 0) (fun(s:(Unit) ⊕ (ApiEntity × ApiEntity)) C=>match s with| .inl s=>C=[Own.box b4 (ba af) x1,Own.box b5 (Rp.fn (fun x=>c3 Tryz.prog (l8 x)) pfn_one) x3,Own.box b6 af (ApiEntity.mk 0 [] [] [] [] false [] 0 0),Own.box b7 af (ApiEntity.mk 0 [] [] [] [] false [] 0 0),Own.box b8 Rp.bool false]| .inr s=>∃(b12:Nat),∃(b17:Nat),C=[Own.box b4 (ba af) x1,Own.box b5 (Rp.fn (fun x=>c3 Tryz.prog (l8 x)) pfn_one) x3,Own.box b6 af (ApiEntity.mk 0 [] [] [] [] false [] 0 0),Own.box b7 af s.1,Own.box b8 Rp.bool true,Own.box b12 af s.2,Own.box b17 af s.1]) (encs:=(fun(a:ApiEntity)=>[(af).val a])) (yld:=(fun(s:Unit) (a:ApiEntity)=>kin_has_r1 x1 x3 a)) (st0:=()) (stF:=x26) (Ccap':=[Own.box b9 (ba af) x22,Own.box b10 a6 x23]) (fun l Y L hY=>kin_above_1_ok _ Y l hY x1 x2 (.inl ()) b9 b10 L _ hx25) rfl (fun _=>rfl) ?_ ?_ (fun x _ _ h=>by cases x<;>first|exact h.1|exact h.elim)
 ·rintro l _ x11 rr1 C T s0 rfl hy1
  replace hy1:kin_has_r1 x1 x3 x11=some rr1:=hy1
  unfold kin_has_r1 at hy1
  refine W_r ?_
  refine rAlloc (R:=af) (z:=(ApiEntity.mk 0 [] [] [] [] false [] 0 0)) Tryz.zeroValue49 (fun _=>⟨_,⟨_,_,rfl,rfl,⟨_,_,rfl,rfl,⟨_,_,rfl,rfl,⟨_,_,rfl,rfl,⟨_,_,rfl,rfl,⟨_,_,rfl,rfl,⟨_,_,rfl,⟨_,rfl,none,0,rfl,⟨Nat.le_refl _,fun _=>rfl⟩,.inl rfl⟩,⟨_,_,rfl,rfl,⟨_,_,rfl,rfl,rfl⟩⟩⟩⟩⟩⟩⟩⟩⟩,rfl⟩) (fun b12=> ?_)
  refine um (R:=af) (R':=af) (a:=(ApiEntity.mk 0 [] [] [] [] false [] 0 0)) (y:=x11) 5 Tryz.sizeOf49 (Upd.refl _) ?_
  refine⟨rfl,fun T s0=> ?_⟩
  refine W_pickK ?_
  refine az ?_
  refine W_rs ?_
  refine rq (out:=aq af x1) (ap (R:=ba af) (a:=x1) (R':=ba af) 0 ty38 (Sub.refl _)) ?_
  refine rq (out:=Pr.i64 (x1.length:Int)) (iz rfl Tryz.underlying38) ?_
  refine rq (out:=Pr.i64 0) eb ?_
  refine az ?_
  obtain⟨z3l,hz3,hy1⟩:=ah hy1
  obtain⟨n3,hN3⟩:=bp hz3
  clear hz3
  refine cq 2 (fun e C=>kin_has_k2=some rr1/\At [] [Own.box b4 (ba af) x1,Own.box b5 (Rp.fn (fun x=>c3 Tryz.prog (l8 x)) pfn_one) x3,Own.box b6 af (ApiEntity.mk 0 [] [] [] [] false [] 0 0),Own.box b7 af (ApiEntity.mk 0 [] [] [] [] false [] 0 0),Own.box b8 Rp.bool false,Own.box b12 af x11] e C) ?_ ?_
  ·rintro e C ⟨hy1,hat2⟩
   unfold kin_has_k2 at hy1
   obtain rfl:=Option.some.inj hy1
   exact⟨_,(Pick.trans hat2.2 (Pick.of [0,1,2,3,4] rfl)),.inl ⟨rfl,_,rfl,rfl⟩⟩
  refine c8 (fun m e C=>∃(x13:Int),dj (fun s=>kin_has_l3 x1 x11 x3 s) m x13=some z3l/\At [(5,am b5 0),(6,am b6 0),(8,am b7 0),(9,am b8 0),(10,am b12 0),(17,aq af x1),(18,Pr.i64 (x1.length:Int)),(19,Pr.i64 x13)] [Own.box b4 (ba af) x1,Own.box b5 (Rp.fn (fun x=>c3 Tryz.prog (l8 x)) pfn_one) x3,Own.box b6 af (ApiEntity.mk 0 [] [] [] [] false [] 0 0),Own.box b7 af (ApiEntity.mk 0 [] [] [] [] false [] 0 0),Own.box b8 Rp.bool false,Own.box b12 af x11] e C) n3 ⟨0,hN3,⟨⟨aa,aa,aa,aa,aa,aa,aa,aa,trivial⟩,Pick.refl _⟩⟩ ?_
  clear hN3
  rintro m e C ⟨x13,hN3,hatl3⟩
  refine W_at hatl3 ?_
  clear hatl3
  obtain⟨m3,w3l,rfl,h3l,hn3,ho3⟩:=bj hN3
  clear hN3
  replace h3l:kin_has_l3 x1 x11 x3 x13=some w3l:=h3l
  unfold kin_has_l3 at h3l
  refine W_rs ?_
  refine rq (out:=Pr.bool (decide (x13<(x1.length:Int)))) qInt ?_
  refine a8 ?_
  refine W_cond (b:=decide (x13<(x1.length:Int))) rfl (fun hc15=> ?_) (fun hc15=> ?_)
  ·replace h3l:=iteT hc15 h3l
   refine ax ?_
   refine a8 ?_
   refine az ?_
   refine W_rs ?_
   obtain⟨x16,hx16,h3l⟩:=ah h3l
   refine rq (out:=ec af x16) (dg (R:=af) (l:=x1) Tryz.underlying38 Tryz.sizeOf49 hx16) ?_
   refine rq (out:=(af).val x16) (cf (R:=af) (a:=x16) ty49) ?_
   refine rAlloc (R:=af) (z:=(ApiEntity.mk 0 [] [] [] [] false [] 0 0)) Tryz.zeroValue49 (fun _=>⟨_,⟨_,_,rfl,rfl,⟨_,_,rfl,rfl,⟨_,_,rfl,rfl,⟨_,_,rfl,rfl,⟨_,_,rfl,rfl,⟨_,_,rfl,rfl,⟨_,_,rfl,⟨_,rfl,none,0,rfl,⟨Nat.le_refl _,fun _=>rfl⟩,.inl rfl⟩,⟨_,_,rfl,rfl,⟨_,_,rfl,rfl,rfl⟩⟩⟩⟩⟩⟩⟩⟩⟩,rfl⟩) (fun b17=> ?_)
   refine um (R:=af) (R':=af) (a:=(ApiEntity.mk 0 [] [] [] [] false [] 0 0)) (y:=x16) 6 Tryz.sizeOf49 (Upd.refl _) ?_
   refine bh (fun e C=>∃(x20:Bool),kin_has_j4 x16 x11 x13 x20=some w3l/\At [(5,am b5 0),(6,am b6 0),(8,am b7 0),(9,am b8 0),(10,am b12 0),(12,am b17 0),(17,aq af x1),(18,Pr.i64 (x1.length:Int)),(19,Pr.i64 x13),(32,Pr.bool x20)] [Own.box b4 (ba af) x1,Own.box b5 (Rp.fn (fun x=>c3 Tryz.prog (l8 x)) pfn_one) x3,Own.box b6 af (ApiEntity.mk 0 [] [] [] [] false [] 0 0),Own.box b7 af (ApiEntity.mk 0 [] [] [] [] false [] 0 0),Own.box b8 Rp.bool false,Own.box b12 af x11,Own.box b17 af x16] e C) ?_ ?_
   ·rintro e C ⟨x20,h3l,hat4⟩
    refine W_at hat4 ?_
    clear hat4
    unfold kin_has_j4 at h3l
    refine W_cond (b:=x20) rfl (fun hc21=> ?_) (fun hc21=> ?_)
    ·replace h3l:=iteT hc21 h3l
     refine W_rs ?_
     refine rq (out:=(af).val x16) (ap (R:=af) (a:=x16) (R':=af) 6 ty49 (Sub.refl _)) ?_
     refine um (R:=af) (R':=af) (a:=(ApiEntity.mk 0 [] [] [] [] false [] 0 0)) (y:=x16) 3 Tryz.sizeOf49 (Upd.refl _) ?_
     refine um (R:=Rp.bool) (R':=Rp.bool) (a:=false) (y:=true) 4 Tryz.sizeOf4 (Upd.refl _) ?_
     obtain rfl:=ho3 _ (Option.some.inj h3l).symm
     replace hy1:some (false,.inr (x16,x11))=some rr1:=hy1
     obtain rfl:=Option.some.inj hy1
     exact c6 ⟨_,Pick.refl _,.inr ⟨_,rfl,rfl,b12,b17,rfl⟩⟩
    replace h3l:=iteF hc21 h3l
    refine ax ?_
    refine W_r ?_
    refine rq (out:=Pr.i64 (w64 (x13+1))) qInt ?_
    refine rq (out:=Pr.i64 (w64 (x13+1))) eb ?_
    exact⟨m3,Nat.lt_succ_self _,w64 (x13+1),hn3 _ (Option.some.inj h3l).symm,⟨⟨aa,aa,aa,aa,aa,aa,aa,aa,trivial⟩,Pick.of [0,1,2,3,4,5] rfl⟩⟩
   refine W_r ?_
   refine rq (out:=am b17 3) (ai fld49_3) ?_
   refine rq (out:=bv x16.Owner) (ap (R:=af) (a:=x16) (R':=a6) 6 ty9 lk) ?_
   refine rq (out:=am b12 1) (ai j7) ?_
   refine rq (out:=bv x11.Id) (ap (R:=af) (a:=x11) (R':=a6) 5 ty9 dh) ?_
   refine rq (out:=Pr.bool (x16.Owner==x11.Id)) qStr ?_
   refine rq (out:=Pr.bool (x16.Owner==x11.Id)) eb ?_
   rcases bo h3l with⟨hc18,h3l⟩|⟨hc18,h3l⟩
   ·refine rqg hc18 (out:=c3 Tryz.prog (l8 x3)) (ap (R:=Rp.fn (fun x=>c3 Tryz.prog (l8 x)) pfn_one) (a:=x3) (R':=Rp.fn (fun x=>c3 Tryz.prog (l8 x)) pfn_one) 1 ty148 (Sub.refl _)) ?_
    refine rqg hc18 (out:=(af).val x16) (ap (R:=af) (a:=x16) (R':=af) 6 ty49 (Sub.refl _)) ?_
    obtain⟨x19,hx19,h3l⟩:=ah h3l
    refine rqg hc18 (out:=Pr.bool x19) (qCallP (spec:=l8 x3) ⟨_,_,rfl,rfl,hx19⟩) ?_
    refine rq (out:=Pr.bool x19) (qPickT hc18) ?_
    exact⟨x19,h3l,⟨⟨aa,aa,aa,aa,aa,aa,aa,aa,aa,aa,trivial⟩,Pick.refl _⟩⟩
   refine rno (neT hc18) ?_
   refine rno (neT hc18) ?_
   refine rno (neT hc18) ?_
   refine rq (out:=Pr.bool false) (qPickF hc18) ?_
   exact⟨false,h3l,⟨⟨aa,aa,aa,aa,aa,aa,aa,aa,aa,aa,trivial⟩,Pick.refl _⟩⟩
  replace h3l:=iteF hc15 h3l
  refine c6 ?_
  obtain rfl:=ho3 _ (Option.some.inj h3l).symm
  exact⟨hy1,⟨trivial,Pick.refl _⟩⟩
 intro D C' hj
 cases x26 with
 |inl x24=>
  replace h:(kin_has_j5)=some r:=h
  obtain rfl:=hj
  intro T s0
  refine bh (fun e C=>kin_has_j5=some r/\At [(6,am b6 0),(7,Pr.bool false)] [Own.box b9 (ba af) x22,Own.box b10 a6 x23,Own.box b4 (ba af) x1,Own.box b5 (Rp.fn (fun x=>c3 Tryz.prog (l8 x)) pfn_one) x3,Own.box b6 af (ApiEntity.mk 0 [] [] [] [] false [] 0 0),Own.box b7 af (ApiEntity.mk 0 [] [] [] [] false [] 0 0),Own.box b8 Rp.bool false] e C) ?_ ?_
  ·rintro e C ⟨h,hat5⟩
   refine W_at hat5 ?_
   clear hat5
   unfold kin_has_j5 at h
   obtain rfl:=Option.some.inj h
   exact bc ⟨rfl,[(af).val (ApiEntity.mk 0 [] [] [] [] false [] 0 0),Pr.bool false],⟨yBox 4 ty49 aa,yT aa,trivial⟩,aa⟩
  refine dt [(2,4,Own.box b6 af (ApiEntity.mk 0 [] [] [] [] false [] 0 0))] [Own.box b9 (ba af) x22,Own.box b10 a6 x23,Own.box b4 (ba af) x1,Own.box b5 (Rp.fn (fun x=>c3 Tryz.prog (l8 x)) pfn_one) x3,Own.box b6 af (ApiEntity.mk 0 [] [] [] [] false [] 0 0),Own.box b7 af (ApiEntity.mk 0 [] [] [] [] false [] 0 0),Own.box b8 Rp.bool false] hmx (by kernel_rfl) (by kernel_rfl) (show([2]:List Nat).Nodup by decide) (show([4]:List Nat).Nodup by decide) rfl rfl ?_
  refine eq1 (out:=(af).val (ApiEntity.mk 0 [] [] [] [] false [] 0 0)) (fun C2 hC=>(ap (R:=af) (a:=(ApiEntity.mk 0 [] [] [] [] false [] 0 0)) (R':=af) 5 ty49 (Sub.refl _) (hi:=(hC 5 (by kernel_rfl)).trans rfl))) ?_
  refine eq1 (out:=Pr.bool false) (fun C2 hC=>(ap (R:=Rp.bool) (a:=false) (R':=Rp.bool) 6 ty4 (Sub.refl _) (hi:=(hC 6 (by kernel_rfl)).trans rfl))) ?_
  refine eqS (fun C2 hC=>dc (R:=af) (R':=af) (a:=(ApiEntity.mk 0 [] [] [] [] false [] 0 0)) (y:=(ApiEntity.mk 0 [] [] [] [] false [] 0 0)) 4 Tryz.sizeOf49 (Upd.refl _) ((hC 4 (by kernel_rfl)).trans rfl)) ?_
  refine eq1 (out:=Pr.bool false) (fun C2 hC=>du) ?_
  exact⟨h,⟨⟨aa,aa,trivial⟩,Pick.refl _⟩⟩
 |inr x27=>
  replace h:(kin_has_j6 x27)=some r:=h
  obtain⟨b12,b17,rfl⟩:=hj
  refine .inl ⟨rfl,fun T s0=> ?_⟩
  refine bh (fun e C=>kin_has_j6 x27=some r/\At [(6,am b6 0),(7,Pr.bool true)] [Own.box b9 (ba af) x22,Own.box b10 a6 x23,Own.box b4 (ba af) x1,Own.box b5 (Rp.fn (fun x=>c3 Tryz.prog (l8 x)) pfn_one) x3,Own.box b6 af x27.1,Own.box b7 af x27.1,Own.box b8 Rp.bool true,Own.box b12 af x27.2,Own.box b17 af x27.1] e C) ?_ ?_
  ·rintro e C ⟨h,hat6⟩
   refine W_at hat6 ?_
   clear hat6
   unfold kin_has_j6 at h
   obtain rfl:=Option.some.inj h
   exact bc ⟨rfl,[(af).val x27.1,Pr.bool true],⟨yBox 4 ty49 aa,yT aa,trivial⟩,aa⟩
  refine dt [(2,4,Own.box b6 af x27.1)] [Own.box b9 (ba af) x22,Own.box b10 a6 x23,Own.box b4 (ba af) x1,Own.box b5 (Rp.fn (fun x=>c3 Tryz.prog (l8 x)) pfn_one) x3,Own.box b6 af x27.1,Own.box b7 af x27.1,Own.box b8 Rp.bool true,Own.box b12 af x27.2,Own.box b17 af x27.1] hmx (by kernel_rfl) (by kernel_rfl) (show([2]:List Nat).Nodup by decide) (show([4]:List Nat).Nodup by decide) rfl rfl ?_
  refine eq1 (out:=(af).val x27.1) (fun C2 hC=>(ap (R:=af) (a:=x27.1) (R':=af) 5 ty49 (Sub.refl _) (hi:=(hC 5 (by kernel_rfl)).trans rfl))) ?_
  refine eq1 (out:=Pr.bool true) (fun C2 hC=>(ap (R:=Rp.bool) (a:=true) (R':=Rp.bool) 6 ty4 (Sub.refl _) (hi:=(hC 6 (by kernel_rfl)).trans rfl))) ?_
  refine eqS (fun C2 hC=>dc (R:=af) (R':=af) (a:=(ApiEntity.mk 0 [] [] [] [] false [] 0 0)) (y:=x27.1) 4 Tryz.sizeOf49 (Upd.refl _) ((hC 4 (by kernel_rfl)).trans rfl)) ?_
  refine eq1 (out:=Pr.bool true) (fun C2 hC=>du) ?_
  exact⟨h,⟨⟨aa,aa,trivial⟩,Pick.refl _⟩⟩
theorem kin_Field_1_ok (x1:ApiEntity) (x2:List UInt8) (r:Bool) (h:kin_Field_1 x1 x2=some r):FnP Tryz.prog 156 [(af).val x1,ec a6 x2] (Pr.bool r):=by
 refine cu (rs:=[3]) Tryz.func156 rfl Tryz.ntmps156 ⟨by decide,Tryz.results156⟩ (by decide) (fun s0=> ?_)
 unfold kin_Field_1 at h
 refine W_rs ?_
 refine rBox (R:=af) (a:=x1) rfl (fun b3=> ?_)
 refine kAs rfl ?_
 refine bh (fun e C=>∃(x5:Bool),kin_Field_1_j1 x5=some r/\At [(3,Pr.bool x5)] [Own.box b3 af x1] e C) ?_ ?_
 ·rintro e C ⟨x5,h,hat1⟩
  refine W_at hat1 ?_
  unfold kin_Field_1_j1 at h
  obtain rfl:=osj h
  exact bc ⟨rfl,aa⟩
 refine W_r (kUn (ai pr) ?_)
 refine kUn (ap 0 ty3 da) ?_
 refine kIn rfl rfl rfl (kMv rfl ?_)
 rcases bo h with⟨hc4,h⟩|⟨hc4,h⟩
 ·refine kGd rfl aa hc4 (ai fld49_2) ?_
  refine kGd rfl aa hc4 (ap 0 ty9 g7) ?_
  refine kGd rfl aa hc4 (cf ty9) ?_
  refine kGd rfl aa hc4 (qStr rfl rfl rfl) (kPt rfl hc4 rfl (kAs rfl ?_))
  exact⟨x1.Name==x2,h,atOk⟩
 refine kSkT rfl aa hc4 (kSkT rfl aa hc4 (kSkT rfl aa hc4 (kSkT rfl aa hc4 (kPf rfl hc4 rfl (kAs rfl ?_)))))
 exact⟨false,h,atOk⟩
theorem kin_Field_ok (x1:List ApiEntity) (x2 x3:List UInt8) (r:ApiEntity × Bool) (h:kin_Field x1 x2 x3=some r):FnP Tryz.prog 113 [aq af x1,bv x2,bv x3] (bk [(af).val r.1,Pr.bool r.2]):=by
 refine c4 (rs:=[.cell 6 49,.tmp 7]) Tryz.func113 rfl Tryz.ntmps113 Tryz.results113 (by decide) (fun s0=> ?_)
 unfold kin_Field at h
 refine W_rs ?_
 refine rBox (R:=a6) (a:=x3) rfl (fun b4=> ?_)
 refine bq oy fun b5=>kAs rfl (W_rs (kMvL rfl (kMv rfl ?_)))
 refine rRelB 0 [5] ?_ rfl ⟨rfl,trivial⟩
 refine kUn mz ?_
 obtain⟨⟨x6,x7⟩,hx6,h⟩:=ah h
 refine kUn (qCall' (kin_has_ok x1 x2 (fun a0=>kin_Field_1 a0 x3) _ hx6) ⟨aa,aa,(clo_pfn en156 (fun _ _ hs=>by obtain⟨a0,r,rfl,rfl,hr⟩:=hs;exact kin_Field_1_ok a0 x3 r hr)),trivial⟩) ?_
 refine kUn au ?_
 refine kUn au ?_
 refine av 0 rfl rfl (Upd.refl _) rfl Tryz.sizeOf49 (kAs rfl ?_)
 obtain rfl:=osj h
 exact bc ⟨rfl,[(af).val x6,Pr.bool x7],⟨yBox 0 ty49 aa,yT aa,trivial⟩,aa⟩
theorem kin_Method_1_ok (x1:ApiEntity) (x2:List UInt8) (r:Bool) (h:kin_Method_1 x1 x2=some r):FnP Tryz.prog 157 [(af).val x1,ec a6 x2] (Pr.bool r):=by
 refine cu (rs:=[3]) Tryz.func157 rfl Tryz.ntmps157 ⟨by decide,Tryz.results157⟩ (by decide) (fun s0=> ?_)
 unfold kin_Method_1 at h
 refine W_rs ?_
 refine rBox (R:=af) (a:=x1) rfl (fun b3=> ?_)
 refine kAs rfl ?_
 refine bh (fun e C=>∃(x5:Bool),kin_Method_1_j1 x5=some r/\At [(3,Pr.bool x5)] [Own.box b3 af x1] e C) ?_ ?_
 ·rintro e C ⟨x5,h,hat1⟩
  refine W_at hat1 ?_
  unfold kin_Method_1_j1 at h
  obtain rfl:=osj h
  exact bc ⟨rfl,aa⟩
 refine W_r (kUn (ai pr) ?_)
 refine kUn (ap 0 ty3 da) ?_
 refine kIn rfl rfl rfl (kMv rfl ?_)
 rcases bo h with⟨hc4,h⟩|⟨hc4,h⟩
 ·refine kGd rfl aa hc4 (ai fld49_2) ?_
  refine kGd rfl aa hc4 (ap 0 ty9 g7) ?_
  refine kGd rfl aa hc4 (cf ty9) ?_
  refine kGd rfl aa hc4 (qStr rfl rfl rfl) (kPt rfl hc4 rfl (kAs rfl ?_))
  exact⟨x1.Name==x2,h,atOk⟩
 refine kSkT rfl aa hc4 (kSkT rfl aa hc4 (kSkT rfl aa hc4 (kSkT rfl aa hc4 (kPf rfl hc4 rfl (kAs rfl ?_)))))
 exact⟨false,h,atOk⟩
theorem kin_Method_ok (x1:List ApiEntity) (x2 x3:List UInt8) (r:ApiEntity × Bool) (h:kin_Method x1 x2 x3=some r):FnP Tryz.prog 117 [aq af x1,bv x2,bv x3] (bk [(af).val r.1,Pr.bool r.2]):=by
 refine c4 (rs:=[.cell 6 49,.tmp 7]) Tryz.func117 rfl Tryz.ntmps117 Tryz.results117 (by decide) (fun s0=> ?_)
 unfold kin_Method at h
 refine W_rs ?_
 refine rBox (R:=a6) (a:=x3) rfl (fun b4=> ?_)
 refine bq oy fun b5=>kAs rfl (W_rs (kMvL rfl (kMv rfl ?_)))
 refine rRelB 0 [5] ?_ rfl ⟨rfl,trivial⟩
 refine kUn mz ?_
 obtain⟨⟨x6,x7⟩,hx6,h⟩:=ah h
 refine kUn (qCall' (kin_has_ok x1 x2 (fun a0=>kin_Method_1 a0 x3) _ hx6) ⟨aa,aa,(clo_pfn en157 (fun _ _ hs=>by obtain⟨a0,r,rfl,rfl,hr⟩:=hs;exact kin_Method_1_ok a0 x3 r hr)),trivial⟩) ?_
 refine kUn au ?_
 refine kUn au ?_
 refine av 0 rfl rfl (Upd.refl _) rfl Tryz.sizeOf49 (kAs rfl ?_)
 obtain rfl:=osj h
 exact bc ⟨rfl,[(af).val x6,Pr.bool x7],⟨yBox 0 ty49 aa,yT aa,trivial⟩,aa⟩
theorem slices_Equal_string_string_ok (x1 x2:List (List UInt8)) (r:Bool) (h:lc x1 x2=some r):FnP Tryz.prog 162 [aq a6 x1,aq a6 x2] (Pr.bool r):=by
 refine cu (rs:=[4]) Tryz.func162 rfl Tryz.ntmps162 ⟨by decide,Tryz.results162⟩ (by decide) (fun s0=> ?_)
 unfold lc at h
 refine W_rs (kAs rfl (a8 (W_rs (kMvL rfl (kUn (iz rfl Tryz.underlying22) ?_)))))
 refine kMvL rfl (kUn (iz rfl Tryz.underlying22) ?_)
 refine kIn rfl rfl rfl ?_
 refine a5 h rfl (fun _ h=> ?_) (fun _ h=> ?_)
 ·refine W_rs (kAs rfl ?_)
  obtain rfl:=osj h
  exact bc ⟨rfl,aa⟩
 refine ax (a8 (W_rs (kMvL rfl (kUn (iz rfl Tryz.underlying22) ?_))))
 refine kMv rfl (az ?_)
 obtain⟨z2l,hz2,h⟩:=ah h
 obtain⟨n2,hN2⟩:=bp hz2
 refine cq 0 (fun e C=>j0=some r/\At [] [] e C) ?_ ?_
 ·rintro e C ⟨h,hat1⟩
  refine W_at hat1 ?_
  unfold j0 at h
  refine W_rs (kAs rfl ?_)
  obtain rfl:=osj h
  exact bc ⟨rfl,aa⟩
 refine c8 (fun m e C=>∃(x4:Int),dj (fun s=>gr x1 x2 s) m x4=some z2l/\At [(0,aq a6 x1),(1,aq a6 x2),(12,Pr.i64 (x1.length:Int)),(13,Pr.i64 x4)] [] e C) n2 ⟨0,hN2,⟨⟨aa,aa,aa,aa,trivial⟩,Pick.refl _⟩⟩ ?_
 rintro m e C ⟨x4,hN2,hatl2⟩
 refine W_at hatl2 ?_
 obtain⟨m2,w2l,rfl,h2l,hn2,ho2⟩:=bj hN2
 replace h2l:gr x1 x2 x4=some w2l:=h2l
 unfold gr at h2l
 refine W_rs (kIn rfl rfl rfl (a8 ?_))
 refine a5 h2l rfl (fun _ h2l=> ?_) (fun _ h2l=> ?_)
 ·refine ax (a8 (az (W_rs (kMv rfl (kAs rfl ?_)))))
  refine bh (fun e C=>∃(x7:List UInt8),∃(x8:List UInt8),j1 x4 x7 x8=some w2l/\At [(0,aq a6 x1),(1,aq a6 x2),(12,Pr.i64 (x1.length:Int)),(13,Pr.i64 x4),(24,Pr.bool (!(x7==x8)))] [] e C) ?_ ?_
  ·rintro e C ⟨x7,x8,h2l,hat3⟩
   refine W_at hat3 ?_
   unfold j1 at h2l
   refine a5 h2l rfl (fun _ h2l=> ?_) (fun _ h2l=> ?_)
   ·refine W_rs (kAs rfl ?_)
    obtain rfl:=ho2 _ (Option.some.inj h2l).symm
    replace h:some false=some r:=h
    obtain rfl:=osj h
    exact bc ⟨rfl,aa⟩
   refine ax (W_r (kIn rfl rfl rfl (kMv rfl ?_)))
   exact⟨m2,Nat.lt_succ_self _,w64 (x4+1),hn2 _ (Option.some.inj h2l).symm,atOk⟩
  refine eo 9 hmx (by kernel_rfl) (by kernel_rfl) ?_
  refine lUn (hMvL rfl) (lUn (hMvA rfl) ?_)
  obtain⟨x7,hx7,h2l⟩:=ah h2l
  refine lUn (dg Tryz.underlying22 Tryz.sizeOf9 hx7) ?_
  refine lUn (cf ty9) ?_
  refine lUn (hMvL rfl) (lUn (hMvA rfl) ?_)
  obtain⟨x8,hx8,h2l⟩:=ah h2l
  refine lUn (dg Tryz.underlying22 Tryz.sizeOf9 hx8) ?_
  refine lUn (cf ty9) ?_
  refine lUn (qStr rfl rfl rfl) ?_
  exact⟨x7,x8,h2l,atOk⟩
 refine c6 ?_
 obtain rfl:=ho2 _ (Option.some.inj h2l).symm
 exact⟨h,atOk⟩
theorem kin_alike_ok (x1 x2:ApiEntity) (r:Bool) (h:kin_alike x1 x2=some r):FnP Tryz.prog 125 [(af).val x1,(af).val x2] (Pr.bool r):=by
 refine cu (rs:=[4]) Tryz.func125 rfl Tryz.ntmps125 ⟨by decide,Tryz.results125⟩ (by decide) (fun s0=> ?_)
 unfold kin_alike at h
 refine W_rs ?_
 refine rBox (R:=af) (a:=x1) rfl (fun b3=> ?_)
 refine rBox (R:=af) (a:=x2) rfl (fun b4=> ?_)
 refine kAs rfl ?_
 refine bh (fun e C=>∃(x10:Bool),kin_alike_j1 x10=some r/\At [(4,Pr.bool x10)] [Own.box b3 af x1,Own.box b4 af x2] e C) ?_ ?_
 ·rintro e C ⟨x10,h,hat1⟩
  refine W_at hat1 ?_
  unfold kin_alike_j1 at h
  obtain rfl:=osj h
  exact bc ⟨rfl,aa⟩
 refine W_r (kUn (ai fld49_4) ?_)
 refine kUn (ap 0 ty9 f4) ?_
 refine kUn (ai fld49_4) ?_
 refine kUn (ap 1 ty9 f4) ?_
 refine kSt rfl rfl rfl (kMv rfl ?_)
 rcases bo h with⟨hc5,h⟩|⟨hc5,h⟩
 ·refine kGd rfl aa hc5 (ai fld49_5) ?_
  refine kGd rfl aa hc5 (ap 0 ty4 uf) ?_
  refine kGd rfl aa hc5 (ai fld49_5) ?_
  refine kGd rfl aa hc5 (ap 1 ty4 uf) ?_
  refine kGd rfl aa hc5 (qBoolEq Tryz.underlying4) ?_
  refine kPt rfl hc5 rfl (kMv rfl ?_)
  rcases bo h with⟨hc6,h⟩|⟨hc6,h⟩
  ·refine kGd rfl aa hc6 (ai fld49_6) ?_
   refine kGd rfl aa hc6 (ap 0 ty22 od) ?_
   refine kGd rfl aa hc6 (ai fld49_6) ?_
   refine kGd rfl aa hc6 (ap 1 ty22 od) ?_
   obtain⟨x7,hx7,h⟩:=ah h
   refine kGd rfl aa hc6 (ct (slices_Equal_string_string_ok x1.Params x2.Params _ hx7)) ?_
   refine kPt rfl hc6 rfl (kAs rfl ?_)
   exact⟨x7,h,atOk⟩
  refine kSkT rfl aa hc6 (kSkT rfl aa hc6 (kSkT rfl aa hc6 (kSkT rfl aa hc6 (kSkT rfl aa hc6 (kPf rfl hc6 rfl (kAs rfl ?_))))))
  exact⟨false,h,atOk⟩
 refine kSkT rfl aa hc5 (kSkT rfl aa hc5 (kSkT rfl aa hc5 (kSkT rfl aa hc5 (kSkT rfl aa hc5 (kPf rfl hc5 rfl (kMv rfl ?_))))))
 have hc8:false=false:=rfl
 refine kSkT rfl aa hc8 (kSkT rfl aa hc8 (kSkT rfl aa hc8 (kSkT rfl aa hc8 (kSkT rfl aa hc8 (kPf rfl hc8 rfl (kAs rfl ?_))))))
 exact⟨false,h,atOk⟩
end Go.Proofs.YtcndghapmoaidaaGreatDoor
