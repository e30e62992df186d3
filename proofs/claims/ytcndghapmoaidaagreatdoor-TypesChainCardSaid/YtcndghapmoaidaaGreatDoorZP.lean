/- The code comes to what these functions say (printed by wip/gen/gen.py). -/
import Derived.Test.YtcndghapmoaidaaGreatDoorZX
import Derived.Test.YtcndghapmoaidaaGreatDoorZT
set_option linter.unusedSimpArgs false
set_option linter.unusedVariables false
set_option linter.unusedSectionVars false
set_option linter.unusedSectionVars false
set_option maxRecDepth 100000
set_option maxHeartbeats 4000000
namespace Go.Proofs.YtcndghapmoaidaaGreatDoor
open Go Go.Cn
attribute [local irreducible] ec aq
theorem decls_table_fail_ok (x1 x2:Int) (x4:DeclsTable) (b3:Nat) (v5:Value) (b6:Nat) (r:DeclsTable) (h:tz x1 x2 x4=some r):FnC Tryz.prog 158 [am b3 0,Pr.i64 x1,Pr.i64 x2] [Own.box b3 a4 (DeclsTableRaw.mk v5 (.map (some b6)) x4.m),Own.vec v5 af x4.l 49,Own.gmap b6 cj Rp.bool x4.known] (fun q C'=>∃w100,q=bk []/\C'=[Own.box b3 a4 (DeclsTableRaw.mk w100 (.map (some b6)) r.m),Own.vec w100 af r.l 49,Own.gmap b6 cj Rp.bool r.known]):=by
 refine fi (rs:=[]) Tryz.func158 rfl Tryz.ntmps158 ⟨by decide,Tryz.results158⟩ (by decide) (fun s0=> ?_)
 unfold tz at h
 refine W_r (kMv rfl (kMv rfl (kMv rfl (kUn (fv st30 ⟨(ApiMistake.mk 150 0 0),⟨_,rfl,rfl,fun j fd hj hf=>by match j,hj with| 0,h=>exact absurd rfl h| 1,_=>cases hf;rfl| 2,_=>cases hf;rfl|_+3,_=>cases hf⟩,⟨(ApiMistake.mk 150 x1 0),⟨_,rfl,rfl,fun j fd hj hf=>by match j,hj with| 0,_=>cases hf;rfl| 1,h=>exact absurd rfl h| 2,_=>cases hf;rfl|_+3,_=>cases hf⟩,⟨(ApiMistake.mk 150 x1 x2),⟨_,rfl,rfl,fun j fd hj hf=>by match j,hj with| 0,_=>cases hf;rfl| 1,_=>cases hf;rfl| 2,h=>exact absurd rfl h|_+3,_=>cases hf⟩,rfl⟩⟩⟩) ?_))))
 refine kNp rfl (kUn (ai fld118_2) ?_)
 refine av 0 rfl rfl updDeclsTableRaw_m rfl Tryz.sizeOf30 ?_
 refine rCtx [Own.box b3 a4 (DeclsTableRaw.mk v5 (.map (some b6)) (ApiMistake.mk 150 x1 x2)),Own.vec v5 af x4.l 49,Own.gmap b6 cj Rp.bool x4.known] ?_
 obtain rfl:=osj h
 exact⟨.inr rfl,_,Pick.refl _,_,aa,v5,rfl,rfl⟩
theorem decls_table_put_ok (x1:ApiEntity) (x3:DeclsTable) (b2:Nat) (v4:Value) (b5:Nat) (r:Bool × DeclsTable) (h:qz x1 x3=some r):FnC Tryz.prog 120 [am b2 0,(af).val x1] [Own.box b2 a4 (DeclsTableRaw.mk v4 (.map (some b5)) x3.m),Own.vec v4 af x3.l 49,Own.gmap b5 cj Rp.bool x3.known] (fun q C'=>∃w100,q=Pr.bool r.1/\C'=[Own.box b2 a4 (DeclsTableRaw.mk w100 (.map (some b5)) r.2.m),Own.vec w100 af r.2.l 49,Own.gmap b5 cj Rp.bool r.2.known]):=by
 refine fi (rs:=[4]) Tryz.func120 rfl Tryz.ntmps120 ⟨by decide,Tryz.results120⟩ (by decide) (fun s0=> ?_)
 unfold qz at h
 refine W_rs ?_
 refine rBox (R:=af) (a:=x1) rfl (fun b6=> ?_)
 refine kAs rfl (W_rs (kUn (ai pr) ?_))
 refine kUn (ap 3 ty3 da) ?_
 refine kUn (ai fld49_3) ?_
 refine kUn (ap 3 ty9 lk) ?_
 refine kUn (ai fld49_2) ?_
 refine kUn (ap 3 ty9 g7) ?_
 refine kUn (fv st187 ⟨(DeclsKey.mk x1.Kind [] []),⟨_,rfl,rfl,fun j fd hj hf=>by match j,hj with| 0,h=>exact absurd rfl h| 1,_=>cases hf;rfl| 2,_=>cases hf;rfl|_+3,_=>cases hf⟩,⟨(DeclsKey.mk x1.Kind x1.Owner []),⟨_,rfl,rfl,fun j fd hj hf=>by match j,hj with| 0,_=>cases hf;rfl| 1,h=>exact absurd rfl h| 2,_=>cases hf;rfl|_+3,_=>cases hf⟩,⟨(DeclsKey.mk x1.Kind x1.Owner x1.Name),⟨_,rfl,rfl,fun j fd hj hf=>by match j,hj with| 0,_=>cases hf;rfl| 1,_=>cases hf;rfl| 2,h=>exact absurd rfl h|_+3,_=>cases hf⟩,rfl⟩⟩⟩) ?_
 refine bq al187 fun b7=>av 4 rfl rfl (Upd.refl _) rfl Tryz.sizeOf187 (a8 ?_)
 refine bh (fun e C=>decls_table_put_j3 x1 x3=some r/\At [(0,am b2 0),(3,am b6 0),(5,am b7 0),(18,Pr.bool (gget (DeclsKey.mk x1.Kind x1.Owner x1.Name) false x3.known))] [Own.box b2 a4 (DeclsTableRaw.mk v4 (.map (some b5)) x3.m),Own.vec v4 af x3.l 49,Own.gmap b5 cj Rp.bool x3.known,Own.box b6 af x1,Own.box b7 cj (DeclsKey.mk x1.Kind x1.Owner x1.Name)] e C) ?_ ?_
 ·rintro e C ⟨h,hat3⟩
  refine W_at hat3 ?_
  unfold decls_table_put_j3 at h
  refine a5 h rfl (fun _ h=> ?_) (fun _ h=> ?_)
  ·refine W_rs (kMv rfl (kUn (ai fld49_7) ?_))
   refine kUn (ap 3 ty3 subApiEntity_File) ?_
   refine kUn (ai fld49_8) ?_
   refine kUn (ap 3 ty3 subApiEntity_At) ?_
   obtain⟨x9,hx9,h⟩:=ah h
   refine kg [0,1,2] (decls_table_fail_ok x1.File x1.At x3 b2 v4 b5 _ hx9) (fun q C' hq=> ?_)
   obtain⟨v10,rfl,rfl⟩:=hq
   refine rCtx [Own.box b2 a4 (DeclsTableRaw.mk v10 (.map (some b5)) x9.m),Own.vec v10 af x9.l 49,Own.gmap b5 cj Rp.bool x9.known,Own.box b6 af x1,Own.box b7 cj (DeclsKey.mk x1.Kind x1.Owner x1.Name)] ?_
   refine W_rs (kAs rfl ?_)
   obtain rfl:=osj h
   exact bc ⟨.inl rfl,_,Pick.of [0,1,2] rfl,_,(aa),v10,rfl,rfl⟩
  refine ax ?_
  refine bh (fun e C=>decls_table_put_j2 x3 x1=some r/\At [(0,am b2 0),(3,am b6 0)] [Own.box b2 a4 (DeclsTableRaw.mk v4 (.map (some b5)) x3.m),Own.vec v4 af x3.l 49,Own.gmap b5 cj Rp.bool (gset (DeclsKey.mk x1.Kind x1.Owner x1.Name) true x3.known),Own.box b6 af x1,Own.box b7 cj (DeclsKey.mk x1.Kind x1.Owner x1.Name)] e C) ?_ ?_
  ·rintro e C ⟨h,hat2⟩
   refine W_at hat2 ?_
   unfold decls_table_put_j2 at h
   refine bh (fun e C=>∃(x11:List ApiEntity),∃(v12:Value),decls_table_put_j1 x1 x3 x11=some r/\At [(0,am b2 0)] [Own.box b2 a4 (DeclsTableRaw.mk v12 (.map (some b5)) x3.m),Own.vec v12 af x11 49,Own.gmap b5 cj Rp.bool (gset (DeclsKey.mk x1.Kind x1.Owner x1.Name) true x3.known),Own.box b6 af x1,Own.box b7 cj (DeclsKey.mk x1.Kind x1.Owner x1.Name)] e C) ?_ ?_
   ·rintro e C ⟨x11,v12,h,hat1⟩
    refine W_at hat1 ?_
    unfold decls_table_put_j1 at h
    refine W_rs (kAs rfl ?_)
    obtain rfl:=osj h
    exact bc ⟨.inl rfl,_,Pick.of [0,1,2] rfl,_,(aa),v12,rfl,rfl⟩
   obtain⟨x11,hx11,h⟩:=ah h
   refine W_drawA [0,0,2,6,14,0,32,126,255,511,1023] [[],[],[],[],[Own.box b2 a4 (DeclsTableRaw.mk v4 (.map (some b5)) x3.m)],[Own.box b6 af x1],[],[],[],[],[]] hmx (by kernel_rfl) (by kernel_rfl) (by kernel_rfl) rfl ?_
   refine aq0 0 1 (out:=am b2 0) rfl (fun C9=>eb) ?_
   refine aq0 1 3 (out:=am b2 0) rfl (fun C9=>eb) ?_
   refine aq0 2 7 (out:=am b2 0) rfl (fun C9=>qNilP) ?_
   refine aq0 3 15 (out:=am b2 0) rfl (fun C9=>(ai fld118_0)) ?_
   refine aq1 4 31 0 (out:=Pr.is v4) rfl rfl (fun C9 i9 h9=>(qLoadRaw (R:=a4) (a:=(DeclsTableRaw.mk v4 (.map (some b5)) x3.m)) i9 ty38 subDeclsTableRaw_l (hi:=h9))) ?_
   refine aq1 5 63 3 (out:=(af).val x1) rfl rfl (fun C9 i9 h9=>(ap (R:=af) (a:=x1) (R':=af) i9 ty49 (Sub.refl _) (hi:=h9))) ?_
   refine aq0 6 127 (out:=aq af ([x1]:List ApiEntity)) rfl (fun C9=>(cl (R:=af) (a:=x1) el38 (Nat.le_of_ble_eq_true rfl))) ?_
   refine ae 7 255 rfl (fun g9=> ?_)
   refine ev 1 el38 hx11 (fun v12=> ?_)
   refine kh _ [] dm ?_
   refine aq0 8 511 (out:=am b2 0) rfl (fun C9=>qNilP) ?_
   refine aq0 9 1023 (out:=am b2 0) rfl (fun C9=>(ai fld118_0)) ?_
   refine ae 10 2047 rfl (fun g9=> ?_)
   refine rStoreRaw (R:=a4) (a:=(DeclsTableRaw.mk v4 (.map (some b5)) x3.m)) 0 1 Tryz.sizeOf38 updDeclsTableRaw_l ?_
   refine rCtx [Own.box b2 a4 (DeclsTableRaw.mk v12 (.map (some b5)) x3.m),Own.vec v12 af x11 49,Own.gmap b5 cj Rp.bool (gset (DeclsKey.mk x1.Kind x1.Owner x1.Name) true x3.known),Own.box b6 af x1,Own.box b7 cj (DeclsKey.mk x1.Kind x1.Owner x1.Name)] ?_
   refine kh .any [] dm ?_
   refine ar_end ?_
   exact⟨x11,v12,h,atOk⟩
  refine eo 5 hmx (by kernel_rfl) (by kernel_rfl) ?_
  refine lUn (hMvA rfl) (lUn (qNilP rfl) (lUn (ai fld118_1) ?_))
  refine lUn (qLoadRaw (R:=a4) (a:=(DeclsTableRaw.mk v4 (.map (some b5)) x3.m)) 0 ty116 subDeclsTableRaw_known) ?_
  refine lUn (ap 4 ty187 (Sub.refl _)) ?_
  refine rMapSetG (Rk:=cj) (R:=Rp.bool) (m:=x3.known) (kx:=(DeclsKey.mk x1.Kind x1.Owner x1.Name)) (v:=true) 2 keyDeclsKey Tryz.underlying116 ?_
  exact⟨h,atOk⟩
 refine eo 6 hmx (by kernel_rfl) (by kernel_rfl) ?_
 refine lUn (hMvA rfl) (lUn (qNilP rfl) (lUn (ai fld118_1) ?_))
 refine lUn (qLoadRaw (R:=a4) (a:=(DeclsTableRaw.mk v4 (.map (some b5)) x3.m)) 0 ty116 subDeclsTableRaw_known) ?_
 refine lUn (ap 4 ty187 (Sub.refl _)) ?_
 refine lUn (qMapGetG (Rk:=cj) (R:=Rp.bool) (m:=x3.known) (kx:=(DeclsKey.mk x1.Kind x1.Owner x1.Name)) (z:=false) 2 keyDeclsKey Tryz.underlying116 Tryz.zeroValue4 (fun _=>rfl)) ?_
 exact⟨h,atOk⟩
theorem decls_Class_ok (x1:List UInt8) (r:(List UInt8)) (h:decls_Class x1=some r):FnP Tryz.prog 121 [bv x1] (bv r):=by
 refine cu (rs:=[2]) Tryz.func121 rfl Tryz.ntmps121 ⟨by decide,Tryz.results121⟩ (by decide) (fun s0=> ?_)
 unfold decls_Class at h
 refine W_rs (kAs rfl (W_rs (kMv rfl (kAs rfl ?_))))
 obtain rfl:=osj h
 exact bc ⟨rfl,aa⟩
theorem decls_Field_ok (x1 x2:List UInt8) (r:(List UInt8)) (h:decls_Field x1 x2=some r):FnP Tryz.prog 122 [bv x1,bv x2] (bv r):=by
 refine cu (rs:=[4]) Tryz.func122 rfl Tryz.ntmps122 ⟨by decide,Tryz.results122⟩ (by decide) (fun s0=> ?_)
 unfold decls_Field at h
 refine W_rs (kAs rfl (W_rs (kMv rfl ?_)))
 obtain⟨x3,hx3,h⟩:=ah h
 refine kUn (qCat' hx3) ?_
 refine kMv rfl ?_
 obtain⟨x4,hx4,h⟩:=ah h
 refine kUn (qCat' hx4) ?_
 refine kAs rfl ?_
 obtain rfl:=osj h
 exact bc ⟨rfl,aa⟩
theorem decls_Method_ok (x1 x2:List UInt8) (r:(List UInt8)) (h:decls_Method x1 x2=some r):FnP Tryz.prog 76 [bv x1,bv x2] (bv r):=by
 refine cu (rs:=[4]) Tryz.func76 rfl Tryz.ntmps76 ⟨by decide,Tryz.results76⟩ (by decide) (fun s0=> ?_)
 unfold decls_Method at h
 refine W_rs (kAs rfl (W_rs (kMv rfl (kMv rfl (cm h (decls_Field_ok x1 x2) rfl fun x3 _ h=> ?_)))))
 obtain⟨x4,hx4,h⟩:=ah h
 refine kUn (qCat' hx4) ?_
 refine kAs rfl ?_
 obtain rfl:=osj h
 exact bc ⟨rfl,aa⟩
theorem internal_strconv_Itoa_ok (x1:Int) (r:(List UInt8)) (h:rc x1=some r):FnP Tryz.prog 163 [Pr.i64 x1] (bv r):=by
 refine cu (rs:=[2]) Tryz.func163 rfl Tryz.ntmps163 ⟨by decide,Tryz.results163⟩ (by decide) (fun s0=> ?_)
 unfold rc at h
 refine W_rs (kAs rfl (W_rs (kMv rfl (cm h (internal_strconv_FormatInt_ok x1 10) rfl fun x2 _ h=>kAs rfl ?_))))
 obtain rfl:=osj h
 exact bc ⟨rfl,aa⟩
theorem strconv_Itoa_ok (x1:Int) (r:(List UInt8)) (h:strconv_Itoa x1=some r):FnP Tryz.prog 128 [Pr.i64 x1] (bv r):=by
 refine cu (rs:=[2]) Tryz.func128 rfl Tryz.ntmps128 ⟨by decide,Tryz.results128⟩ (by decide) (fun s0=> ?_)
 unfold strconv_Itoa at h
 refine W_rs (kAs rfl (W_rs (kMv rfl (cm h (internal_strconv_Itoa_ok x1) rfl fun x2 _ h=>kAs rfl ?_))))
 obtain rfl:=osj h
 exact bc ⟨rfl,aa⟩
theorem decls_Local_ok (x1:List UInt8) (x2:Int) (r:(List UInt8)) (h:decls_Local x1 x2=some r):FnP Tryz.prog 75 [bv x1,Pr.i64 x2] (bv r):=by
 refine cu (rs:=[4]) Tryz.func75 rfl Tryz.ntmps75 ⟨by decide,Tryz.results75⟩ (by decide) (fun s0=> ?_)
 unfold decls_Local at h
 refine W_rs (kAs rfl (W_rs (kMv rfl ?_)))
 obtain⟨x3,hx3,h⟩:=ah h
 refine kUn (qCat' hx3) ?_
 refine kMv rfl (kUn (qMax (a:=x2) (b:=0)) ?_)
 refine cm h (strconv_Itoa_ok (if 0>x2 then 0 else x2)) rfl fun x4 _ h=> ?_
 obtain⟨x5,hx5,h⟩:=ah h
 refine kUn (qCat' hx5) ?_
 refine kAs rfl ?_
 obtain rfl:=osj h
 exact bc ⟨rfl,aa⟩
theorem decls_table_method_1_ok (x1:ApiNode) (x3:List ApiEntity) (x6:ApiEntity) (b2:Nat) (v4:Value) (b5:Nat) (v7:Value) (r:(List ApiEntity) × ApiEntity) (h:r6 x1 x3 x6=some r):FnC Tryz.prog 159 [(ab).val x1,am b2 0,am b5 0] [Own.cell b2 (Pr.is v4),Own.vec v4 af x3 49,Own.box b5 a7 (ApiEntityRaw.mk x6.Kind x6.Id x6.Name x6.Owner x6.Type_ x6.Static v7 x6.File x6.At),Own.vec v7 a6 x6.Params 9] (fun q C'=>∃w0 w201,q=bk []/\C'=[Own.cell b2 (Pr.is w0),Own.vec w0 af r.1 49,Own.box b5 a7 (ApiEntityRaw.mk r.2.Kind r.2.Id r.2.Name r.2.Owner r.2.Type_ r.2.Static w201 r.2.File r.2.At),Own.vec w201 a6 r.2.Params 9]):=by
 refine fi (rs:=[]) Tryz.func159 rfl Tryz.ntmps159 ⟨by decide,Tryz.results159⟩ (by decide) (fun s0=> ?_)
 unfold r6 at h
 refine W_rs ?_
 refine rBox (R:=ab) (a:=x1) rfl (fun b8=> ?_)
 refine eo 18 hmx (by kernel_rfl) (by kernel_rfl) ?_
 refine lUn (qLoadP 0 Tryz.isAgg38) ?_
 refine lUn (ai j7) ?_
 refine lUn (ap 2 ty9 p7) ?_
 refine lUn (qLoadP 0 Tryz.isAgg38) ?_
 refine lUn (qLenV 1 rfl Tryz.underlying38) ?_
 obtain⟨x9,hx9,h⟩:=ah h
 refine lUn (ct (decls_Local_ok x6.Id (x3.length:Int) _ hx9)) ?_
 refine lUn (ai ef) ?_
 refine lUn (ap 4 ty9 bw) ?_
 refine lUn (ai j7) ?_
 refine lUn (ap 2 ty9 p7) ?_
 refine lUn (ai r4) ?_
 refine lUn (ap 4 ty9 dz) ?_
 refine lUn (ai fld49_7) ?_
 refine lUn (ap 2 ty3 subApiEntityRaw_File) ?_
 refine lUn (ai my) ?_
 refine lUn (ap 4 ty3 ek) ?_
 refine lUn (fv st49 ⟨(ApiEntity.mk 4 [] [] [] [] false [] 0 0),⟨_,rfl,rfl,fun j fd hj hf=>by match j,hj with| 0,h=>exact absurd rfl h| 1,_=>cases hf;rfl| 2,_=>cases hf;rfl| 3,_=>cases hf;rfl| 4,_=>cases hf;rfl| 5,_=>cases hf;rfl| 6,_=>cases hf;rfl| 7,_=>cases hf;rfl| 8,_=>cases hf;rfl|_+9,_=>cases hf⟩,⟨(ApiEntity.mk 4 x9 [] [] [] false [] 0 0),⟨_,rfl,rfl,fun j fd hj hf=>by match j,hj with| 0,_=>cases hf;rfl| 1,h=>exact absurd rfl h| 2,_=>cases hf;rfl| 3,_=>cases hf;rfl| 4,_=>cases hf;rfl| 5,_=>cases hf;rfl| 6,_=>cases hf;rfl| 7,_=>cases hf;rfl| 8,_=>cases hf;rfl|_+9,_=>cases hf⟩,⟨(ApiEntity.mk 4 x9 x1.Text [] [] false [] 0 0),⟨_,rfl,rfl,fun j fd hj hf=>by match j,hj with| 0,_=>cases hf;rfl| 1,_=>cases hf;rfl| 2,h=>exact absurd rfl h| 3,_=>cases hf;rfl| 4,_=>cases hf;rfl| 5,_=>cases hf;rfl| 6,_=>cases hf;rfl| 7,_=>cases hf;rfl| 8,_=>cases hf;rfl|_+9,_=>cases hf⟩,⟨(ApiEntity.mk 4 x9 x1.Text x6.Id [] false [] 0 0),⟨_,rfl,rfl,fun j fd hj hf=>by match j,hj with| 0,_=>cases hf;rfl| 1,_=>cases hf;rfl| 2,_=>cases hf;rfl| 3,h=>exact absurd rfl h| 4,_=>cases hf;rfl| 5,_=>cases hf;rfl| 6,_=>cases hf;rfl| 7,_=>cases hf;rfl| 8,_=>cases hf;rfl|_+9,_=>cases hf⟩,⟨(ApiEntity.mk 4 x9 x1.Text x6.Id x1.Type_ false [] 0 0),⟨_,rfl,rfl,fun j fd hj hf=>by match j,hj with| 0,_=>cases hf;rfl| 1,_=>cases hf;rfl| 2,_=>cases hf;rfl| 3,_=>cases hf;rfl| 4,h=>exact absurd rfl h| 5,_=>cases hf;rfl| 6,_=>cases hf;rfl| 7,_=>cases hf;rfl| 8,_=>cases hf;rfl|_+9,_=>cases hf⟩,⟨(ApiEntity.mk 4 x9 x1.Text x6.Id x1.Type_ false [] x6.File 0),⟨_,rfl,rfl,fun j fd hj hf=>by match j,hj with| 0,_=>cases hf;rfl| 1,_=>cases hf;rfl| 2,_=>cases hf;rfl| 3,_=>cases hf;rfl| 4,_=>cases hf;rfl| 5,_=>cases hf;rfl| 6,_=>cases hf;rfl| 7,h=>exact absurd rfl h| 8,_=>cases hf;rfl|_+9,_=>cases hf⟩,⟨(ApiEntity.mk 4 x9 x1.Text x6.Id x1.Type_ false [] x6.File x1.At),⟨_,rfl,rfl,fun j fd hj hf=>by match j,hj with| 0,_=>cases hf;rfl| 1,_=>cases hf;rfl| 2,_=>cases hf;rfl| 3,_=>cases hf;rfl| 4,_=>cases hf;rfl| 5,_=>cases hf;rfl| 6,_=>cases hf;rfl| 7,_=>cases hf;rfl| 8,h=>exact absurd rfl h|_+9,_=>cases hf⟩,rfl⟩⟩⟩⟩⟩⟩⟩) ?_
 refine lUn (cl (R:=af) (a:=(ApiEntity.mk 4 x9 x1.Text x6.Id x1.Type_ false [] x6.File x1.At)) el38 (Nat.le_of_ble_eq_true rfl)) ?_
 obtain⟨x10,hx10,h⟩:=ah h
 refine ev 1 el38 hx10 (fun v11=> ?_)
 refine rStoreV 0 1 Tryz.sizeOf38 ?_
 obtain rfl:=osj h
 exact⟨.inr rfl,_,Pick.of [0,1,2,3] rfl,_,aa,v11,v7,rfl,rfl⟩
def rec_node_walk_spec {σ:Type} (yld:σ->ApiNode->Option (Bool × σ)) (Y:YI σ) (l:Nat) (R:im σ):Prop:=∀(x1:ApiNode) (x2:σ) (v3:List Nat) (r:Bool × (σ)),R x1 x2=some r->FnC Tryz.prog 184 [(ab).val x1,Pr.yl l] [Own.grp Y x2 v3] (fun q C'=>∃w9,q=Pr.bool r.1/\C'=[Own.grp Y r.2 w9])
theorem F_node_walk_step {σ:Type} (yld:σ->ApiNode->Option (Bool × σ)) (Y:YI σ) (l:Nat) (hY:YOK Tryz.prog Y l (fun a=>[(ab).val a]) yld) (R:im σ) (ih:rec_node_walk_spec yld Y l R) (x1:ApiNode) (x2:σ) (v3:List Nat) (r:Bool × (σ)) (h:F_node_walk yld R x1 x2=some r):FnC Tryz.prog 184 [(ab).val x1,Pr.yl l] [Own.grp Y x2 v3] (fun q C'=>∃w9,q=Pr.bool r.1/\C'=[Own.grp Y r.2 w9]):=by
 refine fi (rs:=[4]) Tryz.func184 rfl Tryz.ntmps184 ⟨by decide,Tryz.results184⟩ (by decide) (fun s0=> ?_)
 unfold F_node_walk at h
 refine W_rs ?_
 refine rBox (R:=ab) (a:=x1) rfl (fun b4=> ?_)
 refine kAs rfl (a8 (W_rs (kUn (hMv (out:=Pr.yl l) rfl) (kUn (ap 1 ty64 (Sub.refl _)) ?_))))
 obtain⟨⟨x5,x6⟩,hx5,h⟩:=ah h
 refine rYield 0 (a:=(x1)) hY hx5 (fun v7=> ?_)
 refine kNo rfl ?_
 refine a5 h rfl (fun _ h=> ?_) (fun _ h=> ?_)
 ·refine W_rs (kAs rfl ?_)
  obtain rfl:=osj h
  exact bc ⟨.inl rfl,_,Pick.of [0] rfl,_,(aa),v7,rfl,rfl⟩
 refine ax (a8 (W_rs (kUn (ai ee) ?_)))
 refine kUn (ap 1 ty53 bl) ?_
 refine kUn (iz rfl Tryz.underlying53) ?_
 refine kMv rfl (az ?_)
 obtain⟨z2l,hz2,h⟩:=ah h
 obtain⟨n2,hN2⟩:=bp hz2
 refine cq 0 (fun e C=>∃(x10:σ),∃(v11:List Nat),node_walk_k1 yld R x10=some r/\At [] [Own.grp Y x10 v11,Own.box b4 ab x1] e C) ?_ ?_
 ·rintro e C ⟨x10,v11,h,hat1⟩
  refine W_at hat1 ?_
  unfold node_walk_k1 at h
  refine W_rs (kAs rfl ?_)
  obtain rfl:=osj h
  exact bc ⟨.inl rfl,_,Pick.of [0] rfl,_,(aa),v11,rfl,rfl⟩
 refine c8 (fun m e C=>∃(x9:Int),∃(x10:σ),∃(v11:List Nat),dj (fun s=>node_walk_l2 yld R x1 s.1 s.2) m (x9,x10)=some z2l/\At [(1,Pr.yl l),(12,aq ab x1.Kids),(13,Pr.i64 (x1.Kids.length:Int)),(14,Pr.i64 x9)] [Own.grp Y x10 v11,Own.box b4 ab x1] e C) n2 ⟨0,x6,v7,hN2,⟨⟨aa,aa,aa,aa,trivial⟩,Pick.refl _⟩⟩ ?_
 rintro m e C ⟨x9,x10,v11,hN2,hatl2⟩
 refine W_at hatl2 ?_
 obtain⟨m2,w2l,rfl,h2l,hn2,ho2⟩:=bj hN2
 replace h2l:node_walk_l2 yld R x1 x9 x10=some w2l:=h2l
 unfold node_walk_l2 at h2l
 refine W_rs (kIn rfl rfl rfl (a8 ?_))
 refine a5 h2l rfl (fun _ h2l=> ?_) (fun _ h2l=> ?_)
 ·refine ax (a8 (az (W_rs ?_)))
  obtain⟨x16,hx16,h2l⟩:=ah h2l
  refine kUn (dg Tryz.underlying53 Tryz.sizeOf64 hx16) ?_
  refine kUn (cf ty64) ?_
  refine bq al64 fun b17=>av 2 rfl rfl (Upd.refl _) rfl Tryz.sizeOf64 (W_rs (kUn (ap 2 ty64 (Sub.refl _)) ?_))
  refine kUn (hMv (out:=Pr.yl l) rfl) ?_
  obtain⟨⟨x18,x19⟩,hx18,h2l⟩:=ah h2l
  refine kg [0] (ih x16 x10 v11 _ hx18) (fun q C' hq=> ?_)
  obtain⟨v20,rfl,rfl⟩:=hq
  refine kNo rfl ?_
  refine a5 h2l rfl (fun _ h2l=> ?_) (fun _ h2l=> ?_)
  ·refine W_rs (kAs rfl ?_)
   obtain rfl:=ho2 _ (Option.some.inj h2l).symm
   replace h:some (false,x19)=some r:=h
   obtain rfl:=osj h
   exact bc ⟨.inl rfl,_,Pick.of [0] rfl,_,(aa),v20,rfl,rfl⟩
  refine ax (W_r (kIn rfl rfl rfl (kMv rfl ?_)))
  exact⟨m2,Nat.lt_succ_self _,w64 (x9+1),x19,v20,hn2 _ (Option.some.inj h2l).symm,⟨⟨aa,aa,aa,aa,trivial⟩,Pick.of [0,1] rfl⟩⟩
 refine c6 ?_
 obtain rfl:=ho2 _ (Option.some.inj h2l).symm
 exact⟨x10,v11,h,atOk⟩
theorem rec_node_walk_ok {σ:Type} (yld:σ->ApiNode->Option (Bool × σ)) (Y:YI σ) (l:Nat) (hY:YOK Tryz.prog Y l (fun a=>[(ab).val a]) yld):∀n,rec_node_walk_spec yld Y l (rec_node_walk_at yld n):=by
 intro n
 induction n with
 |zero=>exact(fun x1 x2 v3 r h=>nomatch (show none=some r from h))
 |succ n ih=>exact(fun x1 x2 v3 r h=>F_node_walk_step yld Y l hY (rec_node_walk_at yld n) ih x1 x2 v3 r h)
theorem node_walk_ok {σ:Type} (yld:σ->ApiNode->Option (Bool × σ)) (Y:YI σ) (l:Nat) (hY:YOK Tryz.prog Y l (fun a=>[(ab).val a]) yld) (x1:ApiNode) (x2:σ) (v3:List Nat) (r:Bool × (σ)) (h:node_walk yld x1 x2=some r):FnC Tryz.prog 184 [(ab).val x1,Pr.yl l] [Own.grp Y x2 v3] (fun q C'=>∃w9,q=Pr.bool r.1/\C'=[Own.grp Y r.2 w9]):=rec_node_walk_ok yld Y l hY 1048576 x1 x2 v3 r h
theorem node_nodes_1_ok {σ:Type} (yld:σ->ApiNode->Option (Bool × σ)) (Y:YI σ) (l:Nat) (hY:YOK Tryz.prog Y l (fun a=>[(ab).val a]) yld) (x2:ApiNode) (x3:σ) (b1:Nat) (v4:List Nat) (r:ApiNode × (σ)) (h:node_nodes_1 yld x2 x3=some r):FnC Tryz.prog 183 ([]++[Pr.yl l]++[am b1 0]) ([Own.box b1 ab x2]++[Own.grp Y x3 v4]) (fun _ C'=>∃w9,C'=[Own.box b1 ab r.1]++[Own.grp Y r.2 w9]):=by
 refine fi (rs:=[]) Tryz.func183 rfl Tryz.ntmps183 ⟨by decide,Tryz.results183⟩ (by decide) (fun s0=> ?_)
 unfold node_nodes_1 at h
 refine W_r (kUn (ap 0 ty64 (Sub.refl _)) ?_)
 refine kUn (hMv (out:=Pr.yl l) rfl) ?_
 obtain⟨⟨x5,x6⟩,hx5,h⟩:=ah h
 refine kg [1] (node_walk_ok yld Y l hY x2 x3 v4 _ hx5) (fun q C' hq=> ?_)
 obtain⟨v7,rfl,rfl⟩:=hq
 obtain rfl:=osj h
 exact⟨.inr rfl,_,Pick.of [1,0] rfl,_,aa,v7,rfl⟩
theorem node_nodes_ok (x1:ApiNode):FnC Tryz.prog 175 [(ab).val x1] [] (fun q C'=>∃b2,q=j2 183 [] [am b2 0]/\C'=[Own.box b2 ab x1]):=by
 refine fi (rs:=[2]) Tryz.func175 rfl Tryz.ntmps175 ⟨by decide,Tryz.results175⟩ (by decide) (fun s0=> ?_)
 refine W_rs ?_
 refine rBox (R:=ab) (a:=x1) rfl (fun b2=> ?_)
 refine kAs rfl (W_rs (kUn mz ?_))
 refine kUn (hAs (out:=j2 183 [] [am b2 0]) rfl) ?_
 exact bc ⟨.inl rfl,_,Pick.refl _,_,aa,b2,rfl,rfl⟩
theorem node_All_ok (x1:ApiNode) (x2:Int) (r:(List ApiNode)) (h:node_All x1 x2=some r):FnP Tryz.prog 160 [(ab).val x1,Pr.i64 x2] (aq ab r):=by
 refine cu (rs:=[4]) Tryz.func160 rfl Tryz.ntmps160 ⟨by decide,Tryz.results160⟩ (by decide) (fun s0=> ?_)
 unfold node_All at h
 refine W_rs ?_
 refine rBox (R:=ab) (a:=x1) rfl (fun b3=> ?_)
 refine rBox (R:=Rp.int .i64) (a:=x2) rfl (fun b4=> ?_)
 refine kAs rfl (W_rs ?_)
 refine rAllocC Tryz.zeroValue53 rfl rfl (fun b5=> ?_)
 refine W_rs2 ?_
 refine W_r (kUn (ap 0 ty64 (Sub.refl _)) ?_)
 refine kg [] (node_nodes_ok x1) (fun q C' hq=> ?_)
 obtain⟨b6,rfl,rfl⟩:=hq
 refine⟨rfl,?_⟩
 obtain⟨⟨x496,x497⟩,hx498,h⟩:=ah h
 refine WR_vec ab 64 ?_
 refine W_range [0] (fun(s:(List ApiNode)) C=>∃(v8:Value),C=[Own.box b3 ab x1,Own.box b4 (Rp.int .i64) x2,Own.cell b5 (Pr.is v8),Own.vec v8 ab s 64]) (encs:=(fun(a:ApiNode)=>[(ab).val a])) (yld:=(fun(s:(List ApiNode)) (a:ApiNode)=>node_All_r1 x2 s a)) (st0:=[]) (stF:=x497) (Ccap':=[Own.box b6 ab x496]) (fun l Y L hY=>node_nodes_1_ok _ Y l hY x1 [] b6 L _ hx498) ⟨(.slice none 0 0),rfl⟩ (fun _=>rfl) ?_ ?_ (fun _ _ _ h=>h.1)
 ·rintro l x9 x7 ⟨rb1,rs1⟩ C T s0 ⟨v8,rfl⟩ hy1
  replace hy1:node_All_r1 x2 x9 x7=some (rb1,rs1):=hy1
  unfold node_All_r1 at hy1
  refine W_r (bq al64 fun b12=>av 4 rfl rfl (Upd.refl _) rfl Tryz.sizeOf64 ?_)
  refine⟨rfl,fun T s0=> ?_⟩
  refine W_pickK ?_
  refine az ?_
  refine bh (fun e C=>∃(x14:Bool),node_All_j2 x9 x7 x14=some (rb1,rs1)/\At [(5,am b5 0),(6,am b12 0),(17,Pr.bool x14)] [Own.box b3 ab x1,Own.box b4 (Rp.int .i64) x2,Own.cell b5 (Pr.is v8),Own.vec v8 ab x9 64,Own.box b12 ab x7] e C) ?_ ?_
  ·rintro e C ⟨x14,hy1,hat2⟩
   refine W_at hat2 ?_
   unfold node_All_j2 at hy1
   refine a5 hy1 rfl (fun _ hy1=> ?_) (fun _ hy1=> ?_)
   ·obtain⟨x256,hx256,hy1⟩:=ah hy1
    obtain⟨x316,hx316,hy1⟩:=ah hy1
    refine W_drawA [0,0,1,0,15,31,63,31] [[Own.cell b5 (Pr.is v8)],[Own.box b12 ab x7],[Own.vec v8 ab x9 64],[],[],[],[],[]] hmx (by kernel_rfl) (by kernel_rfl) (by kernel_rfl) rfl ?_
    refine aq1 0 1 2 (out:=Pr.is v8) rfl rfl (fun C9 i9 h9=>(qLoadP i9 Tryz.isAgg53 (hi:=h9))) ?_
    refine aq1 1 3 4 (out:=(ab).val x7) rfl rfl (fun C9 i9 h9=>(ap (R:=ab) (a:=x7) (R':=ab) i9 ty64 (Sub.refl _) (hi:=h9))) ?_
    refine aq1 2 7 3 (out:=Pr.i64 (x9.length:Int)) rfl rfl (fun C9 i9 h9=>(qLenV i9 rfl Tryz.underlying53 (hi:=h9))) ?_
    refine aq0 3 15 (out:=aq ab ([(ApiNode.mk 0 [] [] 0 0 0 0 0 [])]:List ApiNode)) rfl (fun C9=>((qBuildVC (R:=ab) (z:=(ApiNode.mk 0 [] [] 0 0 0 0 0 [])) el53 (Nat.le_of_ble_eq_true rfl) rfl rfl (by decide) (fun _=>(by rw[bb];exact⟨_,⟨_,_,rfl,rfl,⟨_,_,rfl,rfl,⟨_,_,rfl,rfl,⟨_,_,rfl,rfl,⟨_,_,rfl,rfl,⟨_,_,rfl,rfl,⟨_,_,rfl,rfl,⟨_,_,rfl,rfl,⟨_,_,rfl,⟨_,rfl,none,0,rfl,⟨Nat.le_refl _,fun _=>rfl⟩,.inl rfl⟩,rfl⟩⟩⟩⟩⟩⟩⟩⟩⟩,rfl⟩))).out_le vx_lst)) ?_
    refine ae 4 31 rfl (fun g9=> ?_)
    refine ev 3 el53 hx256 (fun v257=> ?_)
    refine kh _ [] dm ?_
    refine a_any [5,7] ⟨?_,?_,trivial⟩
    ·skip
     refine ae1 5 63 rfl (fun g9=> ?_)
     refine kUn (u1 3 (R:=ab) (l:=x256) Tryz.underlying53 Tryz.sizeOf64 hx316) ?_
     refine kh _ [] dm ?_
     refine a_any [6,7] ⟨?_,?_,trivial⟩
     ·refine ae1 6 127 rfl (fun g9=> ?_)
      refine rStoreE (R:=ab) (R':=ab) (l:=x256) (a:=x316) (y:=x7) (o:=0) 3 Tryz.sizeOf64 (Upd.refl _) hx316 rfl ?_
      refine kh .any [] dm ?_
      refine ae 7 255 rfl (fun g9=> ?_)
      refine rStoreV 2 3 Tryz.sizeOf53 ?_
      refine kh .any [] dm ?_
      refine ar_end ?_
      obtain⟨rfl,rfl⟩:=Prod.mk.inj (Option.some.inj hy1)
      exact⟨_,Pick.of [0,1,2,3] rfl,rfl,rfl,v257,rfl⟩
     refine ae1 7 191 rfl (fun g9=> ?_)
     refine rStoreV 2 3 Tryz.sizeOf53 ?_
     refine kh .any [] dm ?_
     refine ae 6 255 rfl (fun g9=> ?_)
     refine rStoreE (R:=ab) (R':=ab) (l:=x256) (a:=x316) (y:=x7) (o:=0) 3 Tryz.sizeOf64 (Upd.refl _) hx316 rfl ?_
     refine kh .any [] dm ?_
     refine ar_end ?_
     obtain⟨rfl,rfl⟩:=Prod.mk.inj (Option.some.inj hy1)
     exact⟨_,Pick.of [0,1,2,3] rfl,rfl,rfl,v257,rfl⟩
    refine ae1 7 159 rfl (fun g9=> ?_)
    refine rStoreV 2 3 Tryz.sizeOf53 ?_
    refine kh .any [] dm ?_
    refine ae 5 191 rfl (fun g9=> ?_)
    refine kUn (u1 3 (R:=ab) (l:=x256) Tryz.underlying53 Tryz.sizeOf64 hx316) ?_
    refine kh _ [] dm ?_
    refine ae 6 255 rfl (fun g9=> ?_)
    refine rStoreE (R:=ab) (R':=ab) (l:=x256) (a:=x316) (y:=x7) (o:=0) 3 Tryz.sizeOf64 (Upd.refl _) hx316 rfl ?_
    refine kh .any [] dm ?_
    refine ar_end ?_
    obtain⟨rfl,rfl⟩:=Prod.mk.inj (Option.some.inj hy1)
    exact⟨_,Pick.of [0,1,2,3] rfl,rfl,rfl,v257,rfl⟩
   refine ax ?_
   obtain⟨rfl,rfl⟩:=Prod.mk.inj (Option.some.inj hy1)
   exact⟨_,Pick.of [0,1,2,3] rfl,rfl,rfl,v8,rfl⟩
  refine W_r (kUn (ap 1 ty3 (Sub.refl _)) ?_)
  refine kIn rfl rfl rfl (kMv rfl ?_)
  rcases bo hy1 with⟨hc13,hy1⟩|⟨hc13,hy1⟩
  ·refine kSkF rfl aa hc13 (kSkF rfl aa hc13 (kSkF rfl aa hc13 (kSkF rfl aa hc13 (kPt rfl hc13 rfl ?_))))
   exact⟨true,hy1,atOk⟩
  refine kGd rfl aa hc13 (ai dr) ?_
  refine kGd rfl aa hc13 (ap 4 ty3 bg) ?_
  refine kGd rfl aa hc13 (ap 1 ty3 (Sub.refl _)) ?_
  refine kGd rfl aa hc13 (qInt rfl rfl rfl) (kPf rfl hc13 rfl ?_)
  exact⟨x7.Kind==x2,hy1,atOk⟩
 rintro D C' T s0 ⟨v8,rfl⟩
 refine W_rs (kUn (qLoadP 3 Tryz.isAgg53) ?_)
 refine kAs rfl ?_
 refine W_rel 4 [4] ?_ rfl ⟨rfl,trivial⟩
 obtain rfl:=osj h
 exact bc ⟨rfl,aa⟩
def rec_decls_twice_spec (R:dx):Prop:=(∀(x1:ApiNode) (x3:SMap Bool) (b2:Nat) (r:ApiNode × Bool),R x1 x3=some r->FnC Tryz.prog 161 [(ab).val x1,l7 b2] [Own.smap b2 Rp.bool x3] (fun q C'=>q=bk [(ab).val r.1,Pr.bool r.2]/\C'=[Own.smap b2 Rp.bool x3]))
theorem F_decls_twice_step (R:dx) (ih:rec_decls_twice_spec R) (x1:ApiNode) (x3:SMap Bool) (b2:Nat) (r:ApiNode × Bool) (h:F_decls_twice R x1 x3=some r):FnC Tryz.prog 161 [(ab).val x1,l7 b2] [Own.smap b2 Rp.bool x3] (fun q C'=>q=bk [(ab).val r.1,Pr.bool r.2]/\C'=[Own.smap b2 Rp.bool x3]):=by
 refine fnc_introR (rs:=[.cell 4 64,.tmp 5]) Tryz.func161 rfl Tryz.ntmps161 Tryz.results161 (by decide) (fun s0=> ?_)
 unfold F_decls_twice at h
 refine W_rs ?_
 refine rBox (R:=ab) (a:=x1) rfl (fun b4=> ?_)
 refine bq al64 fun b5=>kAs rfl (W_rs (kUn (hMv (out:=l7 b2) rfl) ?_))
 obtain⟨x6,hx6,h⟩:=ah h
 refine kg [0] (maps_Clone_ok x3 b2 _ hx6) (fun q C' hq=> ?_)
 obtain⟨b7,rfl,rfl⟩:=hq
 refine kUn (hAs (out:=l7 b7) rfl) (a8 (W_rs (kUn (ai ee) ?_)))
 refine kUn (ap 2 ty53 bl) ?_
 refine kUn (iz rfl Tryz.underlying53) ?_
 refine kMv rfl (az ?_)
 obtain⟨z2l,hz2,h⟩:=ah h
 obtain⟨n2,hN2⟩:=bp hz2
 refine cq 0 (fun e C=>∃(x9:SMap Bool),decls_twice_k1 R x9=some r/\At [(1,l7 b2),(4,am b5 0)] [Own.smap b7 Rp.bool x9,Own.smap b2 Rp.bool x3,Own.box b4 ab x1,Own.box b5 ab (ApiNode.mk 0 [] [] 0 0 0 0 0 [])] e C) ?_ ?_
 ·rintro e C ⟨x9,h,hat1⟩
  refine W_at hat1 ?_
  unfold decls_twice_k1 at h
  refine W_rs (kUn (di bb st64 rfl) ?_)
  refine av 3 rfl rfl (Upd.refl _) rfl Tryz.sizeOf64 (kAs rfl ?_)
  obtain rfl:=osj h
  exact bc ⟨.inl rfl,[(ab).val (ApiNode.mk 0 [] [] 0 0 0 0 0 []),Pr.bool false],⟨yBox 3 ty64 aa,yT aa,trivial⟩,_,Pick.of [1] rfl,rfl,rfl⟩
 refine c8 (fun m e C=>∃(x8:Int),∃(x9:SMap Bool),dj (fun s=>decls_twice_l2 R x1 s.1 s.2) m (x8,x9)=some z2l/\At [(1,l7 b2),(4,am b5 0),(6,l7 b7),(15,aq ab x1.Kids),(16,Pr.i64 (x1.Kids.length:Int)),(17,Pr.i64 x8)] [Own.smap b7 Rp.bool x9,Own.smap b2 Rp.bool x3,Own.box b4 ab x1,Own.box b5 ab (ApiNode.mk 0 [] [] 0 0 0 0 0 [])] e C) n2 ⟨0,x6,hN2,⟨⟨aa,aa,aa,aa,aa,aa,trivial⟩,Pick.refl _⟩⟩ ?_
 rintro m e C ⟨x8,x9,hN2,hatl2⟩
 refine W_at hatl2 ?_
 obtain⟨m2,w2l,rfl,h2l,hn2,ho2⟩:=bj hN2
 replace h2l:decls_twice_l2 R x1 x8 x9=some w2l:=h2l
 unfold decls_twice_l2 at h2l
 refine W_rs (kIn rfl rfl rfl (a8 ?_))
 refine a5 h2l rfl (fun _ h2l=> ?_) (fun _ h2l=> ?_)
 ·refine ax ?_
  refine bh (fun e C=>∃(x25:SMap Bool),∃(x13:ApiNode),∃(x20:ApiNode),∃(b14:Nat),∃(b22:Nat),decls_twice_j3 R x8 x25 x13 x20=some w2l/\At [(1,l7 b2),(4,am b5 0),(6,l7 b7),(15,aq ab x1.Kids),(16,Pr.i64 (x1.Kids.length:Int)),(17,Pr.i64 x8)] [Own.smap b7 Rp.bool x25,Own.smap b2 Rp.bool x3,Own.box b4 ab x1,Own.box b5 ab (ApiNode.mk 0 [] [] 0 0 0 0 0 []),Own.box b14 ab x13,Own.box b22 ab x20] e C) ?_ ?_
  ·rintro e C ⟨x25,x13,x20,b14,b22,h2l,hat3⟩
   refine W_at hat3 ?_
   unfold decls_twice_j3 at h2l
   refine W_r (kIn rfl rfl rfl (kMv rfl ?_))
   exact⟨m2,Nat.lt_succ_self _,w64 (x8+1),x25,hn2 _ (Option.some.inj h2l).symm,⟨⟨aa,aa,aa,aa,aa,aa,trivial⟩,Pick.of [0,1,2,3] rfl⟩⟩
  refine az (W_rs ?_)
  obtain⟨x13,hx13,h2l⟩:=ah h2l
  refine kUn (dg Tryz.underlying53 Tryz.sizeOf64 hx13) ?_
  refine kUn (cf ty64) ?_
  refine bq al64 fun b14=>av 4 rfl rfl (Upd.refl _) rfl Tryz.sizeOf64 ?_
  refine bh (fun e C=>∃(x16:Bool),decls_twice_j5 R x13 x9 x8 x16=some w2l/\At [(1,l7 b2),(4,am b5 0),(6,l7 b7),(8,am b14 0),(9,Pr.bool x16),(15,aq ab x1.Kids),(16,Pr.i64 (x1.Kids.length:Int)),(17,Pr.i64 x8)] [Own.smap b7 Rp.bool x9,Own.smap b2 Rp.bool x3,Own.box b4 ab x1,Own.box b5 ab (ApiNode.mk 0 [] [] 0 0 0 0 0 []),Own.box b14 ab x13] e C) ?_ ?_
  ·rintro e C ⟨x16,h2l,hat5⟩
   refine W_at hat5 ?_
   unfold decls_twice_j5 at h2l
   refine a8 ?_
   refine bh (fun e C=>∃(x18:Bool),decls_twice_j4 R x13 x9 x16 x8 x18=some w2l/\At [(1,l7 b2),(4,am b5 0),(6,l7 b7),(8,am b14 0),(9,Pr.bool x16),(15,aq ab x1.Kids),(16,Pr.i64 (x1.Kids.length:Int)),(17,Pr.i64 x8),(35,Pr.bool x18)] [Own.smap b7 Rp.bool x9,Own.smap b2 Rp.bool x3,Own.box b4 ab x1,Own.box b5 ab (ApiNode.mk 0 [] [] 0 0 0 0 0 []),Own.box b14 ab x13] e C) ?_ ?_
   ·rintro e C ⟨x18,h2l,hat4⟩
    refine W_at hat4 ?_
    unfold decls_twice_j4 at h2l
    refine a5 h2l rfl (fun _ h2l=> ?_) (fun _ h2l=> ?_)
    ·refine W_rs (kUn (ap 4 ty64 (Sub.refl _)) ?_)
     refine av 3 rfl rfl (Upd.refl _) rfl Tryz.sizeOf64 (kAs rfl ?_)
     obtain rfl:=ho2 _ (Option.some.inj h2l).symm
     replace h:some (x13,true)=some r:=h
     obtain rfl:=osj h
     exact bc ⟨.inl rfl,[(ab).val x13,Pr.bool true],⟨yBox 3 ty64 aa,yT aa,trivial⟩,_,Pick.of [1] rfl,rfl,rfl⟩
    refine ax (a8 (W_rs (kUn (ap 4 ty64 (Sub.refl _)) ?_)))
    refine kUn (hMv (out:=l7 b7) rfl) ?_
    obtain⟨⟨x20,x21⟩,hx20,h2l⟩:=ah h2l
    refine kg [0] (ih x13 x9 b7 _ hx20) (fun q C' hq=> ?_)
    obtain⟨rfl,rfl⟩:=hq
    refine kUn (hMv (out:=bk [(ab).val x20,Pr.bool x21]) rfl) (kUn au ?_)
    refine kUn au ?_
    refine bq al64 fun b22=>av 5 rfl rfl (Upd.refl _) rfl Tryz.sizeOf64 (kAs rfl (W_rs (kMv rfl ?_)))
    refine a5 h2l rfl (fun _ h2l=> ?_) (fun _ h2l=> ?_)
    ·refine W_rs (kUn (ap 5 ty64 (Sub.refl _)) ?_)
     refine av 3 rfl rfl (Upd.refl _) rfl Tryz.sizeOf64 (kAs rfl ?_)
     obtain rfl:=ho2 _ (Option.some.inj h2l).symm
     replace h:some (x20,true)=some r:=h
     obtain rfl:=osj h
     exact bc ⟨.inl rfl,[(ab).val x20,Pr.bool true],⟨yBox 3 ty64 aa,yT aa,trivial⟩,_,Pick.of [1] rfl,rfl,rfl⟩
    refine ax (W_rs (kMv rfl ?_))
    refine a5 h2l rfl (fun _ h2l=> ?_) (fun _ h2l=> ?_)
    ·refine W_r (kUn (hMv (out:=l7 b7) rfl) (kUn (ai ef) ?_))
     refine kUn (ap 4 ty9 bw) ?_
     refine rMapSet (R:=Rp.bool) (m:=x9) (kx:=x13.Text) (v:=true) 0 Tryz.underlying191 Tryz.underlying9 ?_
     exact⟨(mset x13.Text true x9),x13,x20,b14,b22,h2l,atOk⟩
    refine ax ?_
    exact⟨x9,x13,x20,b14,b22,h2l,atOk⟩
   refine W_r (kMv rfl (kMv rfl ?_))
   rcases bo h2l with⟨hc17,h2l⟩|⟨hc17,h2l⟩
   ·refine kGd rfl aa hc17 (hMv (out:=l7 b7) rfl) (kGd rfl aa hc17 (ai ef) ?_)
    refine kGd rfl aa hc17 (ap 4 ty9 bw) ?_
    refine kGd rfl aa hc17 (qMapGet (R:=Rp.bool) (m:=x9) (kx:=x13.Text) (z:=false) 0 Tryz.underlying191 Tryz.underlying9 Tryz.zeroValue4 (fun _=>rfl)) ?_
    refine kPt rfl hc17 rfl ?_
    exact⟨(mget x13.Text false x9),h2l,atOk⟩
   refine kSkT rfl aa hc17 (kSkT rfl aa hc17 (kSkT rfl aa hc17 (kSkT rfl aa hc17 (kPf rfl hc17 rfl ?_))))
   exact⟨false,h2l,atOk⟩
  refine W_r (kUn (ai dr) ?_)
  refine kUn (ap 4 ty3 bg) ?_
  refine kIn rfl rfl rfl (kMv rfl ?_)
  rcases bo h2l with⟨hc15,h2l⟩|⟨hc15,h2l⟩
  ·refine kSkF rfl aa hc15 (kSkF rfl aa hc15 (kSkF rfl aa hc15 (kPt rfl hc15 rfl (kAs rfl ?_))))
   exact⟨true,h2l,atOk⟩
  refine kGd rfl aa hc15 (ai dr) ?_
  refine kGd rfl aa hc15 (ap 4 ty3 bg) ?_
  refine kGd rfl aa hc15 (qInt rfl rfl rfl) (kPf rfl hc15 rfl (kAs rfl ?_))
  exact⟨x13.Kind==6,h2l,atOk⟩
 refine c6 ?_
 obtain rfl:=ho2 _ (Option.some.inj h2l).symm
 exact⟨x9,h,atOk⟩
theorem rec_decls_twice_ok :∀n,rec_decls_twice_spec (rec_decls_twice_at n):=by
 intro n
 induction n with
 |zero=>exact(fun x1 x3 b2 r h=>nomatch (show none=some r from h))
 |succ n ih=>exact(fun x1 x3 b2 r h=>F_decls_twice_step (rec_decls_twice_at n) ih x1 x3 b2 r h)
theorem decls_twice_ok (x1:ApiNode) (x3:SMap Bool) (b2:Nat) (r:ApiNode × Bool) (h:decls_twice x1 x3=some r):FnC Tryz.prog 161 [(ab).val x1,l7 b2] [Own.smap b2 Rp.bool x3] (fun q C'=>q=bk [(ab).val r.1,Pr.bool r.2]/\C'=[Own.smap b2 Rp.bool x3]):=(rec_decls_twice_ok 1048576) x1 x3 b2 r h
end Go.Proofs.YtcndghapmoaidaaGreatDoor
