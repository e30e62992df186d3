/- The code comes to what these functions say (printed by wip/gen/gen.py). -/
import Derived.Test.YtcndghapmoaidaaGreatDoorZX
import Derived.Test.YtcndghapmoaidaaGreatDoorZP1
import Derived.Test.YtcndghapmoaidaaGreatDoorZT
set_option linter.unusedSimpArgs false
set_option linter.unusedVariables false
set_option linter.unusedSectionVars false
set_option linter.unusedSectionVars false
set_option maxRecDepth 100000
set_option maxHeartbeats 4000000
namespace Go.Proofs.YtcndghapmoaidaaGreatDoor
open Go Go.Cn
attribute [local irreducible] ec aq
theorem kin_wrong_ok (x1:List ApiEntity) (x2:ApiEntity) (r:Int) (h:kin_wrong x1 x2=some r):FnP Tryz.prog 72 [aq af x1,(af).val x2] (Pr.i64 r):=by
 refine cu (rs:=[4]) Tryz.func72 rfl Tryz.ntmps72 ⟨by decide,Tryz.results72⟩ (by decide) (fun s0=> ?_)
 unfold kin_wrong at h
 refine W_rs ?_
 refine rBox (R:=af) (a:=x2) rfl (fun b3=> ?_)
 refine kAs rfl (W_rs (kMvL rfl (kUn (ai fld49_3) ?_)))
 refine kUn (ap 0 ty9 lk) ?_
 obtain⟨⟨x4,x5⟩,hx4,h⟩:=ah h
 refine kUn (ct (kin_class_ok x1 x2.Owner _ hx4)) ?_
 refine kUn (hMv (out:=bk [(af).val x4,Pr.bool x5]) rfl) (kUn au ?_)
 refine kUn au ?_
 refine bq oy fun b6=>av 1 rfl rfl (Upd.refl _) rfl Tryz.sizeOf49 (kAs rfl (a8 ?_))
 refine bh (fun e C=>∃(x8:Bool),kin_wrong_j4 x2 x1 x4 x8=some r/\At [(0,aq af x1),(3,am b3 0),(5,am b6 0),(26,Pr.bool x8)] [Own.box b3 af x2,Own.box b6 af x4] e C) ?_ ?_
 ·rintro e C ⟨x8,h,hat4⟩
  refine W_at hat4 ?_
  unfold kin_wrong_j4 at h
  refine a5 h rfl (fun _ h=> ?_) (fun _ h=> ?_)
  ·refine W_rs (kAs rfl ?_)
   obtain rfl:=osj h
   exact bc ⟨rfl,aa⟩
  refine ax ?_
  refine bh (fun e C=>uw=some r/\At [] [Own.box b3 af x2,Own.box b6 af x4] e C) ?_ ?_
  ·rintro e C ⟨h,hat1⟩
   refine W_at hat1 ?_
   unfold uw at h
   refine W_rs (kAs rfl ?_)
   obtain rfl:=osj h
   exact bc ⟨rfl,aa⟩
  refine W_rs (kUn (ai pr) ?_)
  refine kUn (ap 0 ty3 da) ?_
  refine az (W_rs (kIn rfl rfl rfl (kAs rfl ?_)))
  refine a5 h rfl (fun _ h=> ?_) (fun _ h=> ?_)
  ·refine W_rs (kMvL rfl (kUn (ai fld49_4) ?_))
   refine kUn (ap 0 ty9 f4) ?_
   obtain⟨⟨x11,x12⟩,hx11,h⟩:=ah h
   refine kUn (ct (kin_class_ok x1 x2.Type_ _ hx11)) ?_
   refine kUn (hMv (out:=bk [(af).val x11,Pr.bool x12]) rfl) (kUn au ?_)
   refine kUn au ?_
   refine bq oy fun b13=>av 2 rfl rfl (Upd.refl _) rfl Tryz.sizeOf49 (kAs rfl ?_)
   refine bh (fun e C=>∃(x17:Bool),kin_wrong_j2 x17=some r/\At [(52,Pr.bool x17)] [Own.box b3 af x2,Own.box b6 af x4,Own.box b13 af x11] e C) ?_ ?_
   ·rintro e C ⟨x17,h,hat2⟩
    refine W_at hat2 ?_
    unfold kin_wrong_j2 at h
    refine a5 h rfl (fun _ h=> ?_) (fun _ h=> ?_)
    ·refine W_rs (kAs rfl ?_)
     obtain rfl:=osj h
     exact bc ⟨rfl,aa⟩
    refine ax ?_
    exact⟨h,⟨trivial,Pick.of [0,1] rfl⟩⟩
   refine W_r (kUn (ai fld49_4) ?_)
   refine kUn (ap 0 ty9 f4) ?_
   refine kSt rfl rfl rfl (kMv rfl ?_)
   rcases bo h with⟨hc14,h⟩|⟨hc14,h⟩
   ·refine kGd rfl aa hc14 (hMvA rfl) (kGd rfl aa hc14 (qNot rfl) (kGd rfl aa hc14 (hMvA rfl) ?_))
    rcases bo h with⟨hc15,h⟩|⟨hc15,h⟩
    ·refine kSkF rfl aa hc15 (kSkF rfl aa hc15 (kSkF rfl aa hc15 (kSkF rfl aa hc15 (kSkF rfl aa hc15 (kSkF rfl aa hc15 (kGd rfl aa hc14 (hPt rfl hc15 rfl) (kPt rfl hc14 rfl ?_)))))))
     exact⟨true,h,atOk⟩
    refine kGd rfl aa hc15 (hMvL rfl) (kGd rfl aa hc15 (ai fld49_4) ?_)
    refine kGd rfl aa hc15 (ap 0 ty9 f4) ?_
    refine kGd rfl aa hc15 (ai j7) ?_
    refine kGd rfl aa hc15 (ap 0 ty9 dh) ?_
    obtain⟨x16,hx16,h⟩:=ah h
    refine kGd rfl aa hc15 (ct (kin_Below_ok x1 x2.Type_ x2.Id _ hx16)) ?_
    refine kGd rfl aa hc14 (hPf rfl hc15 rfl) (kPt rfl hc14 rfl ?_)
    exact⟨x16,h,atOk⟩
   refine kSkT rfl aa hc14 (kSkT rfl aa hc14 (kSkT rfl aa hc14 (kSkU rfl aa (kSkU rfl aa (kSkU rfl aa (kSkU rfl aa (kSkU rfl aa (kSkU rfl aa (kSkT rfl aa hc14 (kPf rfl hc14 rfl ?_))))))))))
   exact⟨false,h,atOk⟩
  refine W_rs (kIn rfl rfl rfl (kAs rfl ?_))
  refine a5 h rfl (fun _ h=> ?_) (fun _ h=> ?_)
  ·refine W_rs (kMvL rfl (kUn (ai fld49_4) ?_))
   refine kUn (ap 1 ty9 f4) ?_
   refine kUn (ai fld49_2) ?_
   refine kUn (ap 0 ty9 g7) ?_
   obtain⟨⟨x20,x21⟩,hx20,h⟩:=ah h
   refine kUn (ct (kin_Field_ok x1 x4.Type_ x2.Name _ hx20)) ?_
   refine kUn (hMv (out:=bk [(af).val x20,Pr.bool x21]) rfl) (kUn au ?_)
   refine kUn au ?_
   refine bq oy fun b22=>av 2 rfl rfl (Upd.refl _) rfl Tryz.sizeOf49 (kAs rfl (W_rs (kMv rfl ?_)))
   refine a5 h rfl (fun _ h=> ?_) (fun _ h=> ?_)
   ·refine W_rs (kAs rfl ?_)
    obtain rfl:=osj h
    exact bc ⟨rfl,aa⟩
   refine ax ?_
   exact⟨h,⟨trivial,Pick.of [0,1] rfl⟩⟩
  refine W_rs (kIn rfl rfl rfl (kAs rfl ?_))
  refine a5 h rfl (fun _ h=> ?_) (fun _ h=> ?_)
  ·refine W_rs (kMvL rfl (kUn (ai fld49_4) ?_))
   refine kUn (ap 1 ty9 f4) ?_
   refine kUn (ai fld49_2) ?_
   refine kUn (ap 0 ty9 g7) ?_
   obtain⟨⟨x25,x26⟩,hx25,h⟩:=ah h
   refine kUn (ct (kin_Method_ok x1 x4.Type_ x2.Name _ hx25)) ?_
   refine kUn (hMv (out:=bk [(af).val x25,Pr.bool x26]) rfl) (kUn au ?_)
   refine kUn au ?_
   refine bq oy fun b27=>av 2 rfl rfl (Upd.refl _) rfl Tryz.sizeOf49 (kAs rfl ?_)
   refine bh (fun e C=>∃(x30:Bool),kin_wrong_j3 x30=some r/\At [(82,Pr.bool x30)] [Own.box b3 af x2,Own.box b6 af x4,Own.box b27 af x25] e C) ?_ ?_
   ·rintro e C ⟨x30,h,hat3⟩
    refine W_at hat3 ?_
    unfold kin_wrong_j3 at h
    refine a5 h rfl (fun _ h=> ?_) (fun _ h=> ?_)
    ·refine W_rs (kAs rfl ?_)
     obtain rfl:=osj h
     exact bc ⟨rfl,aa⟩
    refine ax ?_
    exact⟨h,⟨trivial,Pick.of [0,1] rfl⟩⟩
   refine W_r (kMv rfl (kMv rfl ?_))
   rcases bo h with⟨hc28,h⟩|⟨hc28,h⟩
   ·refine kGd rfl aa hc28 (ap 2 ty49 (Sub.refl _)) ?_
    refine kGd rfl aa hc28 (ap 0 ty49 (Sub.refl _)) ?_
    obtain⟨x29,hx29,h⟩:=ah h
    refine kGd rfl aa hc28 (ct (kin_alike_ok x25 x2 _ hx29)) ?_
    refine kGd rfl aa hc28 (qNot rfl) (kPt rfl hc28 rfl ?_)
    exact⟨!x29,h,atOk⟩
   refine kSkT rfl aa hc28 (kSkT rfl aa hc28 (kSkT rfl aa hc28 (kSkT rfl aa hc28 (kPf rfl hc28 rfl ?_))))
   exact⟨false,h,atOk⟩
  refine ax ?_
  exact⟨h,atOk⟩
 refine W_r (kUn (ai pr) ?_)
 refine kUn (ap 0 ty3 da) ?_
 refine kIn rfl rfl rfl (kMv rfl ?_)
 rcases bo h with⟨hc7,h⟩|⟨hc7,h⟩
 ·refine kGd rfl aa hc7 (hMvA rfl) (kGd rfl aa hc7 (qNot rfl) (kPt rfl hc7 rfl ?_))
  exact⟨!x5,h,atOk⟩
 refine kSkT rfl aa hc7 (kSkT rfl aa hc7 (kPf rfl hc7 rfl ?_))
 exact⟨false,h,atOk⟩
theorem kin_Check_ok (x1:List ApiEntity) (r:ApiMistake) (h:kin_Check x1=some r):FnP Tryz.prog 35 [aq af x1] ((ak).val r):=by
 refine c4 (rs:=[.cell 2 30]) Tryz.func35 rfl Tryz.ntmps35 Tryz.results35 (by decide) (fun s0=> ?_)
 unfold kin_Check at h
 refine W_rs (bq al30 fun b2=>a8 (W_rs (kMvL rfl (kUn (iz rfl Tryz.underlying38) ?_))))
 refine kMv rfl (az ?_)
 obtain⟨z2l,hz2,h⟩:=ah h
 obtain⟨n2,hN2⟩:=bp hz2
 refine cq 0 (fun e C=>kin_Check_k1=some r/\At [(2,am b2 0)] [Own.box b2 ak (ApiMistake.mk 0 0 0)] e C) ?_ ?_
 ·rintro e C ⟨h,hat1⟩
  refine W_at hat1 ?_
  unfold kin_Check_k1 at h
  refine W_rs (kUn (fv st30 rfl) ?_)
  refine av 0 rfl rfl (Upd.refl _) rfl Tryz.sizeOf30 ?_
  obtain rfl:=osj h
  exact bc ⟨rfl,[(ak).val (ApiMistake.mk 0 0 0)],⟨yBox 0 ty30 aa,trivial⟩,aa⟩
 refine c8 (fun m e C=>∃(x3:Int),dj (fun s=>kin_Check_l2 x1 s) m x3=some z2l/\At [(0,aq af x1),(2,am b2 0),(6,aq af x1),(7,Pr.i64 (x1.length:Int)),(8,Pr.i64 x3)] [Own.box b2 ak (ApiMistake.mk 0 0 0)] e C) n2 ⟨0,hN2,⟨⟨aa,aa,aa,aa,aa,trivial⟩,Pick.refl _⟩⟩ ?_
 rintro m e C ⟨x3,hN2,hatl2⟩
 refine W_at hatl2 ?_
 obtain⟨m2,w2l,rfl,h2l,hn2,ho2⟩:=bj hN2
 replace h2l:kin_Check_l2 x1 x3=some w2l:=h2l
 unfold kin_Check_l2 at h2l
 refine W_rs (kIn rfl rfl rfl (a8 ?_))
 refine a5 h2l rfl (fun _ h2l=> ?_) (fun _ h2l=> ?_)
 ·refine ax (a8 (az (W_rs ?_)))
  obtain⟨x6,hx6,h2l⟩:=ah h2l
  refine kUn (dg Tryz.underlying38 Tryz.sizeOf49 hx6) ?_
  refine kUn (cf ty49) ?_
  refine bq oy fun b7=>av 1 rfl rfl (Upd.refl _) rfl Tryz.sizeOf49 (W_rs (kMvL rfl (kUn (ap 1 ty49 (Sub.refl _)) ?_)))
  refine cm h2l (kin_wrong_ok x1 x6) rfl fun x8 _ h2l=>kAs rfl (W_rs (kMv rfl (kIn rfl rfl rfl ?_)))
  refine a5 h2l rfl (fun _ h2l=> ?_) (fun _ h2l=> ?_)
  ·refine W_rs (kMv rfl (kUn (ai fld49_7) ?_))
   refine kUn (ap 1 ty3 subApiEntity_File) ?_
   refine kUn (ai fld49_8) ?_
   refine kUn (ap 1 ty3 subApiEntity_At) ?_
   refine kUn (fv st30 ⟨(ApiMistake.mk x8 0 0),⟨_,rfl,rfl,fun j fd hj hf=>by match j,hj with| 0,h=>exact absurd rfl h| 1,_=>cases hf;rfl| 2,_=>cases hf;rfl|_+3,_=>cases hf⟩,⟨(ApiMistake.mk x8 x6.File 0),⟨_,rfl,rfl,fun j fd hj hf=>by match j,hj with| 0,_=>cases hf;rfl| 1,h=>exact absurd rfl h| 2,_=>cases hf;rfl|_+3,_=>cases hf⟩,⟨(ApiMistake.mk x8 x6.File x6.At),⟨_,rfl,rfl,fun j fd hj hf=>by match j,hj with| 0,_=>cases hf;rfl| 1,_=>cases hf;rfl| 2,h=>exact absurd rfl h|_+3,_=>cases hf⟩,rfl⟩⟩⟩) ?_
   refine av 0 rfl rfl (Upd.refl _) rfl Tryz.sizeOf30 ?_
   obtain rfl:=ho2 _ (Option.some.inj h2l).symm
   replace h:some (ApiMistake.mk x8 x6.File x6.At)=some r:=h
   obtain rfl:=osj h
   exact bc ⟨rfl,[(ak).val (ApiMistake.mk x8 x6.File x6.At)],⟨yBox 0 ty30 aa,trivial⟩,aa⟩
  refine ax (W_r (kIn rfl rfl rfl (kMv rfl ?_)))
  exact⟨m2,Nat.lt_succ_self _,w64 (x3+1),hn2 _ (Option.some.inj h2l).symm,⟨⟨aa,aa,aa,aa,aa,trivial⟩,Pick.of [0] rfl⟩⟩
 refine c6 ?_
 obtain rfl:=ho2 _ (Option.some.inj h2l).symm
 exact⟨h,atOk⟩
theorem slices_Index_string_string_ok (x1:List (List UInt8)) (x2:List UInt8) (r:Int) (h:lb x1 x2=some r):FnP Tryz.prog 119 [aq a6 x1,bv x2] (Pr.i64 r):=by
 refine cu (rs:=[4]) Tryz.func119 rfl Tryz.ntmps119 ⟨by decide,Tryz.results119⟩ (by decide) (fun s0=> ?_)
 unfold lb at h
 refine W_rs (kAs rfl (a8 (W_rs (kMvL rfl (kUn (iz rfl Tryz.underlying22) ?_)))))
 refine kMv rfl (az ?_)
 obtain⟨z2l,hz2,h⟩:=ah h
 obtain⟨n2,hN2⟩:=bp hz2
 refine cq 0 (fun e C=>jz=some r/\At [] [] e C) ?_ ?_
 ·rintro e C ⟨h,hat1⟩
  refine W_at hat1 ?_
  unfold jz at h
  refine W_rs (kAs rfl ?_)
  obtain rfl:=osj h
  exact bc ⟨rfl,aa⟩
 refine c8 (fun m e C=>∃(x3:Int),dj (fun s=>gq x1 x2 s) m x3=some z2l/\At [(0,aq a6 x1),(1,bv x2),(7,Pr.i64 (x1.length:Int)),(8,Pr.i64 x3)] [] e C) n2 ⟨0,hN2,⟨⟨aa,aa,aa,aa,trivial⟩,Pick.refl _⟩⟩ ?_
 rintro m e C ⟨x3,hN2,hatl2⟩
 refine W_at hatl2 ?_
 obtain⟨m2,w2l,rfl,h2l,hn2,ho2⟩:=bj hN2
 replace h2l:gq x1 x2 x3=some w2l:=h2l
 unfold gq at h2l
 refine W_rs (kIn rfl rfl rfl (a8 ?_))
 refine a5 h2l rfl (fun _ h2l=> ?_) (fun _ h2l=> ?_)
 ·refine ax (a8 (az (W_rs (kMv rfl (kAs rfl (W_rs (kMv rfl (kMvL rfl (kMv rfl ?_)))))))))
  obtain⟨x6,hx6,h2l⟩:=ah h2l
  refine kUn (dg Tryz.underlying22 Tryz.sizeOf9 hx6) ?_
  refine kUn (cf ty9) ?_
  refine kSt rfl rfl rfl ?_
  refine a5 h2l rfl (fun _ h2l=> ?_) (fun _ h2l=> ?_)
  ·refine W_rs (kMv rfl (kAs rfl ?_))
   obtain rfl:=ho2 _ (Option.some.inj h2l).symm
   replace h:some x3=some r:=h
   obtain rfl:=osj h
   exact bc ⟨rfl,aa⟩
  refine ax (W_r (kIn rfl rfl rfl (kMv rfl ?_)))
  exact⟨m2,Nat.lt_succ_self _,w64 (x3+1),hn2 _ (Option.some.inj h2l).symm,atOk⟩
 refine c6 ?_
 obtain rfl:=ho2 _ (Option.some.inj h2l).symm
 exact⟨h,atOk⟩
theorem i1 (x1:List (List UInt8)) (x2:List UInt8) (r:Bool) (h:er x1 x2=some r):FnP Tryz.prog 70 [aq a6 x1,bv x2] (Pr.bool r):=by
 refine cu (rs:=[4]) Tryz.func70 rfl Tryz.ntmps70 ⟨by decide,Tryz.results70⟩ (by decide) (fun s0=> ?_)
 unfold er at h
 refine W_rs (kAs rfl (W_rs (kMvL rfl (kMv rfl (cm h (slices_Index_string_string_ok x1 x2) rfl fun x3 _ h=>kIn rfl rfl rfl (kAs rfl ?_))))))
 obtain rfl:=osj h
 exact bc ⟨rfl,aa⟩
theorem bind_Scope_own2_ok (x1:BindScope) (x2:ApiEntity) (x3:Bool) (r:ApiEntity × Int) (h:nk x1 x2 x3=some r):FnP Tryz.prog 115 [(aj).val x1,(af).val x2,Pr.bool x3] (bk [(af).val r.1,Pr.i64 r.2]):=by
 refine c4 (rs:=[.cell 6 49,.tmp 7]) Tryz.func115 rfl Tryz.ntmps115 Tryz.results115 (by decide) (fun s0=> ?_)
 unfold nk at h
 refine W_rs ?_
 refine rBox (R:=aj) (a:=x1) rfl (fun b4=> ?_)
 refine rBox (R:=af) (a:=x2) rfl (fun b5=> ?_)
 refine bq oy fun b6=>kAs rfl (a8 (W_rs (kMv rfl (kNo rfl ?_))))
 refine a5 h rfl (fun _ h=> ?_) (fun _ h=> ?_)
 ·refine W_rs (kUn (fv st49 rfl) ?_)
  refine av 2 rfl rfl (Upd.refl _) rfl Tryz.sizeOf49 (kAs rfl ?_)
  obtain rfl:=osj h
  exact bc ⟨rfl,[(af).val (ApiEntity.mk 0 [] [] [] [] false [] 0 0),Pr.i64 170],⟨yBox 2 ty49 aa,yT aa,trivial⟩,aa⟩
 refine ax (W_rs (kUn (ap 1 ty49 (Sub.refl _)) ?_))
 refine av 2 rfl rfl (Upd.refl _) rfl Tryz.sizeOf49 (kAs rfl ?_)
 obtain rfl:=osj h
 exact bc ⟨rfl,[(af).val x2,Pr.i64 0],⟨yBox 2 ty49 aa,yT aa,trivial⟩,aa⟩
theorem oq (x1:BindScope) (x2:List UInt8) (r:ApiEntity × Bool) (h:jy x1 x2=some r):FnP Tryz.prog 116 [(aj).val x1,bv x2] (bk [(af).val r.1,Pr.bool r.2]):=by
 refine c4 (rs:=[.cell 4 49,.tmp 5]) Tryz.func116 rfl Tryz.ntmps116 Tryz.results116 (by decide) (fun s0=> ?_)
 unfold jy at h
 refine W_rs ?_
 refine rBox (R:=aj) (a:=x1) rfl (fun b3=> ?_)
 refine bq oy fun b4=>kAs rfl (a8 (W_rs (kUn (ai fld66_0) ?_)))
 refine kUn (ap 0 ty38 gl) ?_
 refine kUn (iz rfl Tryz.underlying38) ?_
 refine kMv rfl (az ?_)
 obtain⟨z2l,hz2,h⟩:=ah h
 obtain⟨n2,hN2⟩:=bp hz2
 refine cq 0 (fun e C=>uj=some r/\At [(4,am b4 0)] [Own.box b3 aj x1,Own.box b4 af (ApiEntity.mk 0 [] [] [] [] false [] 0 0)] e C) ?_ ?_
 ·rintro e C ⟨h,hat1⟩
  refine W_at hat1 ?_
  unfold uj at h
  refine W_rs (kUn (fv st49 rfl) ?_)
  refine av 1 rfl rfl (Upd.refl _) rfl Tryz.sizeOf49 (kAs rfl ?_)
  obtain rfl:=osj h
  exact bc ⟨rfl,[(af).val (ApiEntity.mk 0 [] [] [] [] false [] 0 0),Pr.bool false],⟨yBox 1 ty49 aa,yT aa,trivial⟩,aa⟩
 refine c8 (fun m e C=>∃(x5:Int),dj (fun s=>ot x1 x2 s) m x5=some z2l/\At [(1,bv x2),(4,am b4 0),(9,aq af x1.Table),(10,Pr.i64 (x1.Table.length:Int)),(11,Pr.i64 x5)] [Own.box b3 aj x1,Own.box b4 af (ApiEntity.mk 0 [] [] [] [] false [] 0 0)] e C) n2 ⟨0,hN2,⟨⟨aa,aa,aa,aa,aa,trivial⟩,Pick.refl _⟩⟩ ?_
 rintro m e C ⟨x5,hN2,hatl2⟩
 refine W_at hatl2 ?_
 obtain⟨m2,w2l,rfl,h2l,hn2,ho2⟩:=bj hN2
 replace h2l:ot x1 x2 x5=some w2l:=h2l
 unfold ot at h2l
 refine W_rs (kIn rfl rfl rfl (a8 ?_))
 refine a5 h2l rfl (fun _ h2l=> ?_) (fun _ h2l=> ?_)
 ·refine ax (a8 (az (W_rs ?_)))
  obtain⟨x8,hx8,h2l⟩:=ah h2l
  refine kUn (dg Tryz.underlying38 Tryz.sizeOf49 hx8) ?_
  refine kUn (cf ty49) ?_
  refine bq oy fun b9=>av 2 rfl rfl (Upd.refl _) rfl Tryz.sizeOf49 ?_
  refine bh (fun e C=>∃(x11:Bool),ou x8 x5 x11=some w2l/\At [(1,bv x2),(4,am b4 0),(7,am b9 0),(9,aq af x1.Table),(10,Pr.i64 (x1.Table.length:Int)),(11,Pr.i64 x5),(23,Pr.bool x11)] [Own.box b3 aj x1,Own.box b4 af (ApiEntity.mk 0 [] [] [] [] false [] 0 0),Own.box b9 af x8] e C) ?_ ?_
  ·rintro e C ⟨x11,h2l,hat3⟩
   refine W_at hat3 ?_
   unfold ou at h2l
   refine a5 h2l rfl (fun _ h2l=> ?_) (fun _ h2l=> ?_)
   ·refine W_rs (kUn (ap 2 ty49 (Sub.refl _)) ?_)
    refine av 1 rfl rfl (Upd.refl _) rfl Tryz.sizeOf49 (kAs rfl ?_)
    obtain rfl:=ho2 _ (Option.some.inj h2l).symm
    replace h:some (x8,true)=some r:=h
    obtain rfl:=osj h
    exact bc ⟨rfl,[(af).val x8,Pr.bool true],⟨yBox 1 ty49 aa,yT aa,trivial⟩,aa⟩
   refine ax (W_r (kIn rfl rfl rfl (kMv rfl ?_)))
   exact⟨m2,Nat.lt_succ_self _,w64 (x5+1),hn2 _ (Option.some.inj h2l).symm,⟨⟨aa,aa,aa,aa,aa,trivial⟩,Pick.of [0,1] rfl⟩⟩
  refine W_r (kUn (ai pr) ?_)
  refine kUn (ap 2 ty3 da) ?_
  refine kIn rfl rfl rfl (kMv rfl ?_)
  rcases bo h2l with⟨hc10,h2l⟩|⟨hc10,h2l⟩
  ·refine kGd rfl aa hc10 (ai j7) ?_
   refine kGd rfl aa hc10 (ap 2 ty9 dh) ?_
   refine kGd rfl aa hc10 (hMvA rfl) (kGd rfl aa hc10 (qStr rfl rfl rfl) (kPt rfl hc10 rfl ?_))
   exact⟨x8.Id==x2,h2l,atOk⟩
  refine kSkT rfl aa hc10 (kSkT rfl aa hc10 (kSkT rfl aa hc10 (kSkT rfl aa hc10 (kPf rfl hc10 rfl ?_))))
  exact⟨false,h2l,atOk⟩
 refine c6 ?_
 obtain rfl:=ho2 _ (Option.some.inj h2l).symm
 exact⟨h,atOk⟩
theorem iy (x1 x2:Int) (x4:BindWalker) (b3:Nat) (v5:Value) (r:PX BindWrong BindWalker) (h:nn x1 x2 x4=some r):FnX Tryz.prog 126 [am b3 0,Pr.i64 x1,Pr.i64 x2] [Own.box b3 ar (BindWalkerRaw.mk v5 x4.file x4.method x4.many),Own.vec v5 ao x4.uses 47] (fun q C'=>∃a9,r= .ok a9/\∃w100,q=bk []/\C'=[Own.box b3 ar (BindWalkerRaw.mk w100 a9.file a9.method a9.many),Own.vec w100 ao a9.uses 47]) (fun v=>∃m,r= .bad m/\v=bindV m):=by
 refine gy (rs:=[]) Tryz.func126 rfl Tryz.ntmps126 ⟨by decide,Tryz.results126⟩ (by decide) (fun s0=> ?_)
 unfold nn at h
 refine W_rs (kMv rfl (kIn rfl rfl rfl ?_))
 refine a5 h rfl (fun _ h=> ?_) (fun _ h=> ?_)
 ·refine W_r (kMv rfl (kMv rfl (kNp rfl (kUn (ai fld76_1) ?_))))
  refine kUn (ap 0 ty3 rb) ?_
  refine kMv rfl (kUn (fv st30 ⟨(ApiMistake.mk x1 0 0),⟨_,rfl,rfl,fun j fd hj hf=>by match j,hj with| 0,h=>exact absurd rfl h| 1,_=>cases hf;rfl| 2,_=>cases hf;rfl|_+3,_=>cases hf⟩,⟨(ApiMistake.mk x1 x4.file 0),⟨_,rfl,rfl,fun j fd hj hf=>by match j,hj with| 0,_=>cases hf;rfl| 1,h=>exact absurd rfl h| 2,_=>cases hf;rfl|_+3,_=>cases hf⟩,⟨(ApiMistake.mk x1 x4.file x2),⟨_,rfl,rfl,fun j fd hj hf=>by match j,hj with| 0,_=>cases hf;rfl| 1,_=>cases hf;rfl| 2,h=>exact absurd rfl h|_+3,_=>cases hf⟩,rfl⟩⟩⟩) ?_)
  refine kUn (fv st72 ⟨(BindWrong.mk (ApiMistake.mk x1 x4.file x2)),⟨_,rfl,rfl,fun j fd hj hf=>by match j,hj with| 0,h=>exact absurd rfl h|_+1,_=>cases hf⟩,rfl⟩) ?_
  refine kUn (qMkIfc Tryz.underlying72 rfl) ?_
  refine rPanic (p:=Pr.ifc 72 ((i6).val (BindWrong.mk (ApiMistake.mk x1 x4.file x2)))) (Die:=fun v=>v=bindV (BindWrong.mk (ApiMistake.mk x1 x4.file x2))) (bind_plain _) ?_ aa
  rintro _ rfl
  obtain rfl:=osj h
  exact .inr ⟨_,rfl,_,rfl,rfl⟩
 refine ax ?_
 obtain rfl:=osj h
 exact(.inl ⟨.inr rfl,_,Pick.refl _,_,aa,_,rfl,v5,rfl,rfl⟩)
theorem bind_walker_put_ok (x1:Int) (x2:List UInt8) (x4:BindWalker) (b3:Nat) (v5:Value) (r:BindWalker) (h:bind_walker_put x1 x2 x4=some r):FnC Tryz.prog 127 [am b3 0,Pr.i64 x1,bv x2] [Own.box b3 ar (BindWalkerRaw.mk v5 x4.file x4.method x4.many),Own.vec v5 ao x4.uses 47] (fun q C'=>∃w100,q=bk []/\C'=[Own.box b3 ar (BindWalkerRaw.mk w100 r.file r.method r.many),Own.vec w100 ao r.uses 47]):=by
 refine fi (rs:=[]) Tryz.func127 rfl Tryz.ntmps127 ⟨by decide,Tryz.results127⟩ (by decide) (fun s0=> ?_)
 unfold bind_walker_put at h
 obtain⟨x6,hx6,h⟩:=ah h
 refine W_drawA [0,0,2,6,14,0,32,96,224,0,0,2016,4064,8190,16383,32767,65535] [[],[],[],[],[Own.box b3 ar (BindWalkerRaw.mk v5 x4.file x4.method x4.many)],[],[],[],[Own.box b3 ar (BindWalkerRaw.mk v5 x4.file x4.method x4.many)],[],[],[],[],[],[],[],[]] hmx (by kernel_rfl) (by kernel_rfl) (by kernel_rfl) rfl ?_
 refine aq0 0 1 (out:=am b3 0) rfl (fun C9=>eb) ?_
 refine aq0 1 3 (out:=am b3 0) rfl (fun C9=>eb) ?_
 refine aq0 2 7 (out:=am b3 0) rfl (fun C9=>qNilP) ?_
 refine aq0 3 15 (out:=am b3 0) rfl (fun C9=>(ai fld76_0)) ?_
 refine aq1 4 31 0 (out:=Pr.is v5) rfl rfl (fun C9 i9 h9=>(qLoadRaw (R:=ar) (a:=(BindWalkerRaw.mk v5 x4.file x4.method x4.many)) i9 ty27 q9 (hi:=h9))) ?_
 refine aq0 5 63 (out:=am b3 0) rfl (fun C9=>eb) ?_
 refine aq0 6 127 (out:=am b3 0) rfl (fun C9=>qNilP) ?_
 refine aq0 7 255 (out:=am b3 1) rfl (fun C9=>(ai fld76_1)) ?_
 refine aq1 8 511 0 (out:=Pr.i64 x4.file) rfl rfl (fun C9 i9 h9=>(ap (R:=ar) (a:=(BindWalkerRaw.mk v5 x4.file x4.method x4.many)) (R':=Rp.int .i64) i9 ty3 rb (hi:=h9))) ?_
 refine aq0 9 1023 (out:=Pr.i64 x1) rfl (fun C9=>eb) ?_
 refine aq0 10 2047 (out:=bv x2) rfl (fun C9=>eb) ?_
 refine aq0 11 4095 (out:=(ao).val (ApiUse.mk x4.file x1 x2)) rfl (fun C9=>(fv st47 ⟨(ApiUse.mk x4.file 0 []),⟨_,rfl,rfl,fun j fd hj hf=>by match j,hj with| 0,h=>exact absurd rfl h| 1,_=>cases hf;rfl| 2,_=>cases hf;rfl|_+3,_=>cases hf⟩,⟨(ApiUse.mk x4.file x1 []),⟨_,rfl,rfl,fun j fd hj hf=>by match j,hj with| 0,_=>cases hf;rfl| 1,h=>exact absurd rfl h| 2,_=>cases hf;rfl|_+3,_=>cases hf⟩,⟨(ApiUse.mk x4.file x1 x2),⟨_,rfl,rfl,fun j fd hj hf=>by match j,hj with| 0,_=>cases hf;rfl| 1,_=>cases hf;rfl| 2,h=>exact absurd rfl h|_+3,_=>cases hf⟩,rfl⟩⟩⟩)) ?_
 refine aq0 12 8191 (out:=aq ao ([(ApiUse.mk x4.file x1 x2)]:List ApiUse)) rfl (fun C9=>(cl (R:=ao) (a:=(ApiUse.mk x4.file x1 x2)) el27 (Nat.le_of_ble_eq_true rfl))) ?_
 refine ae 13 16383 rfl (fun g9=> ?_)
 refine ev 1 el27 hx6 (fun v7=> ?_)
 refine kh _ [] dm ?_
 refine aq0 14 32767 (out:=am b3 0) rfl (fun C9=>qNilP) ?_
 refine aq0 15 65535 (out:=am b3 0) rfl (fun C9=>(ai fld76_0)) ?_
 refine ae 16 131071 rfl (fun g9=> ?_)
 refine rStoreRaw (R:=ar) (a:=(BindWalkerRaw.mk v5 x4.file x4.method x4.many)) 0 1 Tryz.sizeOf27 updBindWalkerRaw_uses ?_
 refine rCtx [Own.box b3 ar (BindWalkerRaw.mk v7 x4.file x4.method x4.many),Own.vec v7 ao x6 47] ?_
 refine kh .any [] dm ?_
 refine ar_end ?_
 obtain rfl:=osj h
 exact⟨.inr rfl,_,Pick.refl _,_,aa,v7,rfl,rfl⟩
theorem bind_walker_kind_ok (x1:BindScope) (x2:ApiNode) (x4:BindWalker) (b3:Nat) (v5:Value) (r:PX BindWrong BindWalker) (h:bind_walker_kind x1 x2 x4=some r):FnX Tryz.prog 73 [am b3 0,(aj).val x1,(ab).val x2] [Own.box b3 ar (BindWalkerRaw.mk v5 x4.file x4.method x4.many),Own.vec v5 ao x4.uses 47] (fun q C'=>∃a9,r= .ok a9/\∃w100,q=bk []/\C'=[Own.box b3 ar (BindWalkerRaw.mk w100 a9.file a9.method a9.many),Own.vec w100 ao a9.uses 47]) (fun v=>∃m,r= .bad m/\v=bindV m):=by
 refine gy (rs:=[]) Tryz.func73 rfl Tryz.ntmps73 ⟨by decide,Tryz.results73⟩ (by decide) (fun s0=> ?_)
 unfold bind_walker_kind at h
 refine W_rs ?_
 refine rBox (R:=aj) (a:=x1) rfl (fun b6=> ?_)
 refine rBox (R:=ab) (a:=x2) rfl (fun b7=> ?_)
 refine a8 ?_
 refine bh (fun e C=>∃(x10:Bool),oo x4 x1 x2 x10=some r/\At [(0,am b3 0),(4,am b6 0),(5,am b7 0),(16,Pr.bool x10)] [Own.box b3 ar (BindWalkerRaw.mk v5 x4.file x4.method x4.many),Own.vec v5 ao x4.uses 47,Own.box b6 aj x1,Own.box b7 ab x2] e C) ?_ ?_
 ·rintro e C ⟨x10,h,hat2⟩
  refine W_at hat2 ?_
  unfold oo at h
  refine a5 h rfl (fun _ h=> ?_) (fun _ h=> ?_)
  ·obtain rfl:=osj h
   exact bc (.inl ⟨.inl rfl,_,Pick.of [0,1] rfl,_,aa,_,rfl,v5,rfl,rfl⟩)
  refine ax ?_
  refine bh (fun e C=>∃(x15:Int),∃(x14:ApiEntity),∃(b16:Nat),ui x2 x4 x15 x14=some r/\At [(0,am b3 0),(5,am b7 0),(6,am b16 0),(7,Pr.i64 x15)] [Own.box b3 ar (BindWalkerRaw.mk v5 x4.file x4.method x4.many),Own.vec v5 ao x4.uses 47,Own.box b6 aj x1,Own.box b7 ab x2,Own.box b16 af x14] e C) ?_ ?_
  ·rintro e C ⟨x15,x14,b16,h,hat1⟩
   refine W_at hat1 ?_
   unfold ui at h
   refine W_rs (kMv rfl (kMv rfl (kUn (ai fld64_7) ?_)))
   refine kUn (ap 3 ty3 subApiNode_TypeAt) ?_
   rcases ce h with⟨m21,hm21,h⟩|⟨x17,hx17,h⟩
   ·refine cv [0,1] (iy x15 x2.TypeAt x4 b3 v5 _ hm21) ⟨aa,aa,aa,trivial⟩ (fun q C' hq=> ?_) (fun v9 hv=> ?_)
    ·obtain⟨_,h9,_⟩:=hq;cases h9
    obtain⟨_,h9,rfl⟩:=hv
    cases h9
    obtain rfl:=osj h
    exact .inr ⟨_,rfl,_,rfl,rfl⟩
   refine cv [0,1] (iy x15 x2.TypeAt x4 b3 v5 _ hx17) ⟨aa,aa,aa,trivial⟩ (fun q C' hq=> ?_) (fun v9 hv=>by obtain⟨_,h9,_⟩:=hv;cases h9)
   obtain⟨_,h9,v18,rfl,rfl⟩:=hq
   cases h9
   refine rCtx [Own.box b3 ar (BindWalkerRaw.mk v18 x17.file x17.method x17.many),Own.vec v18 ao x17.uses 47,Own.box b6 aj x1,Own.box b7 ab x2,Own.box b16 af x14] ?_
   refine W_r (kMv rfl (kUn (ai fld64_7) ?_))
   refine kUn (ap 3 ty3 subApiNode_TypeAt) ?_
   refine kUn (ai j7) ?_
   refine kUn (ap 4 ty9 dh) ?_
   obtain⟨x19,hx19,h⟩:=ah h
   refine kg [0,1] (bind_walker_put_ok x2.TypeAt x14.Id x17 b3 v18 _ hx19) (fun q C' hq=> ?_)
   obtain⟨v20,rfl,rfl⟩:=hq
   refine rCtx [Own.box b3 ar (BindWalkerRaw.mk v20 x19.file x19.method x19.many),Own.vec v20 ao x19.uses 47,Own.box b6 aj x1,Own.box b7 ab x2,Own.box b16 af x14] ?_
   obtain rfl:=osj h
   exact(.inl ⟨.inr rfl,_,Pick.of [0,1] rfl,_,aa,_,rfl,v20,rfl,rfl⟩)
  obtain⟨⟨x12,x13⟩,hx12,h⟩:=ah h
  obtain⟨⟨x14,x15⟩,hx14,h⟩:=ah h
  refine W_drawG 1 (fun B S=>[Own.box b3 ar (BindWalkerRaw.mk v5 x4.file x4.method x4.many),Own.vec v5 ao x4.uses 47,Own.box b6 aj x1,Own.box b7 ab x2,(cond (S 12) (Own.box (B 11) af x14) (cond (S 11) (Own.box (B 11) af (ApiEntity.mk 0 [] [] [] [] false [] 0 0)) Own.nil))]) (fun B=>[Own.box b3 ar (BindWalkerRaw.mk v5 x4.file x4.method x4.many),Own.vec v5 ao x4.uses 47,Own.box b6 aj x1,Own.box b7 ab x2,Own.box (B 11) af x14]) [(aj).val x1,(aj).val x1,am b7 2,bv x2.Type_,bk [(af).val x12,Pr.bool x13],(af).val x12,Pr.bool x13,bk [(af).val x14,Pr.i64 x15],bk [(af).val x14,Pr.i64 x15],(af).val x14,Pr.i64 x15,.any,.any,Pr.i64 x15] (fun k=>([0,0,0,0,0,0,0,0,0,0,0,2,1,0]:List Nat).getD k 0) hmx (by kernel_rfl) (by kernel_rfl) (fun _=>rfl) (fun B S S' h=>by show([Own.box b3 ar (BindWalkerRaw.mk v5 x4.file x4.method x4.many),Own.vec v5 ao x4.uses 47,Own.box b6 aj x1,Own.box b7 ab x2,(cond (S 12) (Own.box (B 11) af x14) (cond (S 11) (Own.box (B 11) af (ApiEntity.mk 0 [] [] [] [] false [] 0 0)) Own.nil))]:Ctx)=[Own.box b3 ar (BindWalkerRaw.mk v5 x4.file x4.method x4.many),Own.vec v5 ao x4.uses 47,Own.box b6 aj x1,Own.box b7 ab x2,(cond (S' 12) (Own.box (B 11) af x14) (cond (S' 11) (Own.box (B 11) af (ApiEntity.mk 0 [] [] [] [] false [] 0 0)) Own.nil))];simp only[h 11 (Nat.le_of_ble_eq_true (by kernel_rfl)),h 12 (Nat.le_of_ble_eq_true (by kernel_rfl))]) (fun _=>rfl) (fun B=> ?_)
  refine gq1 (fun S hK=>(ap (R:=aj) (a:=x1) (R':=aj) 2 ty66 (Sub.refl _) (hi:=rfl))) ?_
  refine gq1 (fun S hK=>(ap (R:=aj) (a:=x1) (R':=aj) 2 ty66 (Sub.refl _) (hi:=rfl))) ?_
  refine gq1 (fun S hK=>(ai r4)) ?_
  refine gq1 (fun S hK=>(ap (R:=ab) (a:=x2) (R':=a6) 3 ty9 dz (hi:=rfl))) ?_
  refine gq1 (fun S hK=>(ct (oq x1 x2.Type_ _ hx12))) ?_
  refine gq1 (fun S hK=>au) ?_
  refine gq1 (fun S hK=>au) ?_
  refine gq1 (fun S hK=>(ct (bind_Scope_own2_ok x1 x12 x13 _ hx14))) ?_
  refine gq1 (fun S hK=>eb) ?_
  refine gq1 (fun S hK=>au) ?_
  refine gq1 (fun S hK=>au) ?_
  refine gqA (fun S hK=>⟨fun B' hB=>by show([Own.box b3 ar (BindWalkerRaw.mk v5 x4.file x4.method x4.many),Own.vec v5 ao x4.uses 47,Own.box b6 aj x1,Own.box b7 ab x2,(cond (S 12) (Own.box (B' 11) af x14) (cond (S 11) (Own.box (B' 11) af (ApiEntity.mk 0 [] [] [] [] false [] 0 0)) Own.nil))]:Ctx)=[Own.box b3 ar (BindWalkerRaw.mk v5 x4.file x4.method x4.many),Own.vec v5 ao x4.uses 47,Own.box b6 aj x1,Own.box b7 ab x2,(cond (S 12) (Own.box (B 11) af x14) (cond (S 11) (Own.box (B 11) af (ApiEntity.mk 0 [] [] [] [] false [] 0 0)) Own.nil))];simp only[hK.me,hK.F 12 (by kernel_rfl),cond_false],fun s ρ hg _=>sAlloc (R:=af) (z:=(ApiEntity.mk 0 [] [] [] [] false [] 0 0)) 4 Tryz.zeroValue49 (fun _=>⟨_,⟨_,_,rfl,rfl,⟨_,_,rfl,rfl,⟨_,_,rfl,rfl,⟨_,_,rfl,rfl,⟨_,_,rfl,rfl,⟨_,_,rfl,rfl,⟨_,_,rfl,⟨_,rfl,none,0,rfl,⟨Nat.le_refl _,fun _=>rfl⟩,.inl rfl⟩,⟨_,_,rfl,rfl,⟨_,_,rfl,rfl,rfl⟩⟩⟩⟩⟩⟩⟩⟩⟩,rfl⟩) (congrArg some ((condF (hK.F 12 (by kernel_rfl)) _ _).trans (condF (hK.me) _ _))) (fun b=>by show([Own.box b3 ar (BindWalkerRaw.mk v5 x4.file x4.method x4.many),Own.vec v5 ao x4.uses 47,Own.box b6 aj x1,Own.box b7 ab x2,(cond (S 12) (Own.box b af x14) (Own.box b af (ApiEntity.mk 0 [] [] [] [] false [] 0 0)))]:Ctx)=_;rw[hK.F 12 (by kernel_rfl)];rfl) s ρ hg⟩) ?_
  refine gqS (fun S hK=>SStep.as (dc (R:=af) (R':=af) (a:=(ApiEntity.mk 0 [] [] [] [] false [] 0 0)) (y:=x14) 4 Tryz.sizeOf49 (Upd.refl _) (congrArg some ((condF (hK.me) _ _).trans (condT (hK.T 11 (by kernel_rfl)) _ _)))) (by show(_:Ctx)=[Own.box b3 ar (BindWalkerRaw.mk v5 x4.file x4.method x4.many),Own.vec v5 ao x4.uses 47,Own.box b6 aj x1,Own.box b7 ab x2,Own.box (B 11) af x14];rfl)) ?_
  refine gq1 (fun S hK=>du) ?_
  exact⟨x15,x14,(B 11),h,atOk⟩
 refine W_r (kUn (ai fld64_7) ?_)
 refine kUn (ap 3 ty3 subApiNode_TypeAt) ?_
 refine kIn rfl rfl rfl (kMv rfl ?_)
 rcases bo h with⟨hc8,h⟩|⟨hc8,h⟩
 ·refine kSkF rfl aa hc8 (kSkF rfl aa hc8 (kSkF rfl aa hc8 (kSkF rfl aa hc8 (kPt rfl hc8 rfl ?_))))
  exact⟨true,h,atOk⟩
 refine kGd rfl aa hc8 (ju (R:=a6) (ls:=([([105,110,116]:List UInt8),([98,111,111,108,101,97,110]:List UInt8),([118,111,105,100]:List UInt8)]:List (List UInt8))) el22 (Nat.le_of_ble_eq_true rfl) ⟨rfl,rfl⟩ ⟨rfl,rfl,rfl,trivial⟩) ?_
 refine kGd rfl aa hc8 (ai r4) ?_
 refine kGd rfl aa hc8 (ap 3 ty9 dz) ?_
 obtain⟨x9,hx9,h⟩:=ah h
 refine kGd rfl aa hc8 (ct (i1 ([([105,110,116]:List UInt8),([98,111,111,108,101,97,110]:List UInt8),([118,111,105,100]:List UInt8)]:List (List UInt8)) x2.Type_ _ hx9)) ?_
 refine kPf rfl hc8 rfl ?_
 exact⟨x9,h,atOk⟩
theorem pb {σ:Type} (yld:σ->(Int × ApiEntity)->Option (Bool × σ)) (Y:YI σ) (l:Nat) (hY:YOK Tryz.prog Y l (fun a=>[Pr.i64 a.1,(af).val a.2]) yld) (x2:List ApiEntity) (x3:σ) (b1:Nat) (v4:List Nat) (r:(List ApiEntity) × (σ)) (h:f1 yld x2 x3=some r):FnC Tryz.prog 154 ([]++[Pr.yl l]++[am b1 0]) ([Own.box b1 (ba af) x2]++[Own.grp Y x3 v4]) (fun _ C'=>∃w9,C'=[Own.box b1 (ba af) r.1]++[Own.grp Y r.2 w9]):=by
 refine fi (rs:=[]) Tryz.func154 rfl Tryz.ntmps154 ⟨by decide,Tryz.results154⟩ (by decide) (fun s0=> ?_)
 unfold f1 at h
 refine W_rs (kUn (ap 0 ty38 (Sub.refl _)) ?_)
 refine kUn (iz rfl Tryz.underlying38) ?_
 refine kIn rfl rfl rfl (kAs rfl (az ?_))
 obtain⟨z2l,hz2,h⟩:=ah h
 obtain⟨n2,hN2⟩:=bp hz2
 refine cq 0 (fun e C=>∃(x6:σ),∃(v7:List Nat),eu yld x2 x6=some r/\At [] [Own.box b1 (ba af) x2,Own.grp Y x6 v7] e C) ?_ ?_
 ·rintro e C ⟨x6,v7,h,hat1⟩
  unfold eu at h
  obtain rfl:=osj h
  exact⟨.inr rfl,_,(Pick.trans hat1.2 (Pick.refl _)),_,aa,v7,rfl⟩
 refine c8 (fun m e C=>∃(x5:Int),∃(x6:σ),∃(v7:List Nat),dj (fun s=>dl yld x2 s.1 s.2) m (x5,x6)=some z2l/\At [(0,Pr.yl l),(1,am b1 0),(3,Pr.i64 x5)] [Own.box b1 (ba af) x2,Own.grp Y x6 v7] e C) n2 ⟨w64 ((x2.length:Int) - 1),x3,v4,hN2,⟨⟨aa,aa,aa,trivial⟩,Pick.refl _⟩⟩ ?_
 rintro m e C ⟨x5,x6,v7,hN2,hatl2⟩
 refine W_at hatl2 ?_
 obtain⟨m2,w2l,rfl,h2l,hn2,ho2⟩:=bj hN2
 replace h2l:dl yld x2 x5 x6=some w2l:=h2l
 unfold dl at h2l
 refine a8 (W_rs (kMv rfl (kIn rfl rfl rfl ?_)))
 refine a5 h2l rfl (fun _ h2l=> ?_) (fun _ h2l=> ?_)
 ·refine ax (a8 (az (W_rs (kUn (hMv (out:=Pr.yl l) rfl) (kMv rfl (kUn (ap 0 ty38 (Sub.refl _)) ?_))))))
  refine kMv rfl ?_
  obtain⟨x12,hx12,h2l⟩:=ah h2l
  refine kUn (dg Tryz.underlying38 Tryz.sizeOf49 hx12) ?_
  refine kUn (cf ty49) ?_
  obtain⟨⟨x13,x14⟩,hx13,h2l⟩:=ah h2l
  refine rYield 1 (a:=(x5,x12)) hY hx13 (fun v15=> ?_)
  refine kNo rfl ?_
  refine a5 h2l rfl (fun _ h2l=> ?_) (fun _ h2l=> ?_)
  ·obtain rfl:=ho2 _ (Option.some.inj h2l).symm
   replace h:some (x2,x14)=some r:=h
   obtain rfl:=osj h
   exact bc ⟨.inl rfl,_,Pick.of [1,0] rfl,_,aa,v15,rfl⟩
  refine ax (W_r (kMv rfl (kIn rfl rfl rfl (kAs rfl ?_))))
  exact⟨m2,Nat.lt_succ_self _,w64 (x5 - 1),x14,v15,hn2 _ (Option.some.inj h2l).symm,⟨⟨aa,aa,aa,trivial⟩,Pick.of [1,0] rfl⟩⟩
 refine c6 ?_
 obtain rfl:=ho2 _ (Option.some.inj h2l).symm
 exact⟨x6,v7,h,atOk⟩
theorem ql (x1:List ApiEntity):FnC Tryz.prog 112 [aq af x1] [] (fun q C'=>∃b2,q=j2 154 [] [am b2 0]/\C'=[Own.box b2 (ba af) x1]):=by
 refine fi (rs:=[2]) Tryz.func112 rfl Tryz.ntmps112 ⟨by decide,Tryz.results112⟩ (by decide) (fun s0=> ?_)
 refine W_rs ?_
 refine rBox (R:=ba af) (a:=x1) rfl (fun b2=> ?_)
 refine kAs rfl (W_rs (kUn mz ?_))
 refine kUn (hAs (out:=j2 154 [] [am b2 0]) rfl) ?_
 exact bc ⟨.inl rfl,_,Pick.refl _,_,aa,b2,rfl,rfl⟩
theorem rp (x1:BindScope) (x2:ApiEntity) (x3:Bool) (r:ApiEntity × Int) (h:mn x1 x2 x3=some r):FnP Tryz.prog 114 [(aj).val x1,(af).val x2,Pr.bool x3] (bk [(af).val r.1,Pr.i64 r.2]):=by
 refine c4 (rs:=[.cell 6 49,.tmp 7]) Tryz.func114 rfl Tryz.ntmps114 Tryz.results114 (by decide) (fun s0=> ?_)
 unfold mn at h
 refine W_rs ?_
 refine rBox (R:=aj) (a:=x1) rfl (fun b4=> ?_)
 refine rBox (R:=af) (a:=x2) rfl (fun b5=> ?_)
 refine bq oy fun b6=>kAs rfl (a8 (az (W_rs (kMv rfl (kNo rfl (kAs rfl ?_))))))
 refine a5 h rfl (fun _ h=> ?_) (fun _ h=> ?_)
 ·refine W_rs (kUn (fv st49 rfl) ?_)
  refine av 2 rfl rfl (Upd.refl _) rfl Tryz.sizeOf49 (kAs rfl ?_)
  obtain rfl:=osj h
  exact bc ⟨rfl,[(af).val (ApiEntity.mk 0 [] [] [] [] false [] 0 0),Pr.i64 170],⟨yBox 2 ty49 aa,yT aa,trivial⟩,aa⟩
 refine bh (fun e C=>∃(x9:Bool),rt x2 x9=some r/\At [(4,am b5 0),(6,am b6 0),(12,Pr.bool x9)] [Own.box b4 aj x1,Own.box b5 af x2,Own.box b6 af (ApiEntity.mk 0 [] [] [] [] false [] 0 0)] e C) ?_ ?_
 ·rintro e C ⟨x9,h,hat1⟩
  refine W_at hat1 ?_
  unfold rt at h
  refine a5 h rfl (fun _ h=> ?_) (fun _ h=> ?_)
  ·refine W_rs (kUn (fv st49 rfl) ?_)
   refine av 2 rfl rfl (Upd.refl _) rfl Tryz.sizeOf49 (kAs rfl ?_)
   obtain rfl:=osj h
   exact bc ⟨rfl,[(af).val (ApiEntity.mk 0 [] [] [] [] false [] 0 0),Pr.i64 171],⟨yBox 2 ty49 aa,yT aa,trivial⟩,aa⟩
  refine ax (W_rs (kUn (ap 1 ty49 (Sub.refl _)) ?_))
  refine av 2 rfl rfl (Upd.refl _) rfl Tryz.sizeOf49 (kAs rfl ?_)
  obtain rfl:=osj h
  exact bc ⟨rfl,[(af).val x2,Pr.i64 0],⟨yBox 2 ty49 aa,yT aa,trivial⟩,aa⟩
 refine W_r (kUn (ai fld66_2) ?_)
 refine kUn (ap 0 ty4 ue) ?_
 refine kMv rfl ?_
 rcases bo h with⟨hc8,h⟩|⟨hc8,h⟩
 ·refine kGd rfl aa hc8 (ai fld49_5) ?_
  refine kGd rfl aa hc8 (ap 1 ty4 uf) ?_
  refine kGd rfl aa hc8 (qNot rfl) (kPt rfl hc8 rfl (kAs rfl ?_))
  exact⟨!x2.Static,h,atOk⟩
 refine kSkT rfl aa hc8 (kSkT rfl aa hc8 (kSkT rfl aa hc8 (kPf rfl hc8 rfl (kAs rfl ?_))))
 exact⟨false,h,atOk⟩
theorem bind_Scope_name_ok (x1:BindScope) (x2:ApiNode) (r:ApiEntity × Int) (h:bind_Scope_name x1 x2=some r):FnP Tryz.prog 65 [(aj).val x1,(ab).val x2] (bk [(af).val r.1,Pr.i64 r.2]):=by
 refine c4 (n:=47) (rs:=[.cell 4 49,.cell 5 28]) Tryz.func65 rfl Tryz.ntmps65 Tryz.results65 (by decide) (fun s0=> ?_)
 unfold bind_Scope_name at h
 refine W_rs ?_
 refine rBox (R:=aj) (a:=x1) rfl (fun b3=> ?_)
 refine rBox (R:=ab) (a:=x2) rfl (fun b4=> ?_)
 refine rAlloc (R:=af) (z:=(ApiEntity.mk 0 [] [] [] [] false [] 0 0)) Tryz.zeroValue49 (fun _=>⟨_,⟨_,_,rfl,rfl,⟨_,_,rfl,rfl,⟨_,_,rfl,rfl,⟨_,_,rfl,rfl,⟨_,_,rfl,rfl,⟨_,_,rfl,rfl,⟨_,_,rfl,⟨_,rfl,none,0,rfl,⟨Nat.le_refl _,fun _=>rfl⟩,.inl rfl⟩,⟨_,_,rfl,rfl,⟨_,_,rfl,rfl,rfl⟩⟩⟩⟩⟩⟩⟩⟩⟩,rfl⟩) (fun b5=> ?_)
 refine rAlloc (R:=Rp.int .i64) (z:=0) Tryz.zeroValue28 (fun _=>rfl) (fun b6=> ?_)
 refine W_rs2 ?_
 refine W_r ?_
 refine rq (out:=am b3 3) (ai fld66_3) ?_
 refine rq (out:=aq af x1.Seen) (ap (R:=aj) (a:=x1) (R':=ba af) 0 ty38 subBindScope_Seen) ?_
 refine kg [] (ql x1.Seen) (fun q C' hq=> ?_)
 obtain⟨b7,rfl,rfl⟩:=hq
 refine⟨rfl,?_⟩
 obtain⟨⟨x12,x15⟩,hx14,h⟩:=ah h
 refine W_rangeX [0] (fun _=> .ret) (fun(s:(Unit) ⊕ (ApiEntity)) C=>match s with| .inl s=>C=[Own.box b3 aj x1,Own.box b4 ab x2,Own.box b5 af (ApiEntity.mk 0 [] [] [] [] false [] 0 0),Own.box b6 (Rp.int .i64) 0]| .inr s=>∃(b10:Nat),C=[Own.box b3 aj x1,Own.box b4 ab x2,Own.box b5 af s,Own.box b6 (Rp.int .i64) 0,Own.box b10 af s]) (encs:=(fun(a:Int × ApiEntity)=>[Pr.i64 a.1,(af).val a.2])) (yld:=(fun(s:Unit) (a:Int × ApiEntity)=>qg x2 a.1 a.2)) (st0:=()) (stF:=x15) (Ccap':=[Own.box b7 (ba af) x12]) (fun l Y L hY=>pb _ Y l hY x1.Seen (.inl ()) b7 L _ hx14) rfl (fun _=>rfl) ?_ ?_ (fun _ _ _ h=>h.1)
 ·rintro l _ ⟨x8,x9⟩ rr1 C T s0 rfl hy1
  replace hy1:qg x2 x8 x9=some rr1:=hy1
  unfold qg at hy1
  refine W_r ?_
  refine rAlloc (R:=af) (z:=(ApiEntity.mk 0 [] [] [] [] false [] 0 0)) Tryz.zeroValue49 (fun _=>⟨_,⟨_,_,rfl,rfl,⟨_,_,rfl,rfl,⟨_,_,rfl,rfl,⟨_,_,rfl,rfl,⟨_,_,rfl,rfl,⟨_,_,rfl,rfl,⟨_,_,rfl,⟨_,rfl,none,0,rfl,⟨Nat.le_refl _,fun _=>rfl⟩,.inl rfl⟩,⟨_,_,rfl,rfl,⟨_,_,rfl,rfl,rfl⟩⟩⟩⟩⟩⟩⟩⟩⟩,rfl⟩) (fun b10=> ?_)
  refine um (R:=af) (R':=af) (a:=(ApiEntity.mk 0 [] [] [] [] false [] 0 0)) (y:=x9) 4 Tryz.sizeOf49 (Upd.refl _) ?_
  refine⟨rfl,fun T s0=> ?_⟩
  refine W_pickK ?_
  refine az ?_
  refine W_rs ?_
  refine rq (out:=am b10 2) (ai fld49_2) ?_
  refine rq (out:=bv x9.Name) (ap (R:=af) (a:=x9) (R':=a6) 4 ty9 g7) ?_
  refine rq (out:=am b4 1) (ai ef) ?_
  refine rq (out:=bv x2.Text) (ap (R:=ab) (a:=x2) (R':=a6) 1 ty9 bw) ?_
  refine rq (out:=Pr.bool (x9.Name==x2.Text)) qStr ?_
  refine W_cond (b:=x9.Name==x2.Text) rfl (fun hc11=> ?_) (fun hc11=> ?_)
  ·replace hy1:=iteT hc11 hy1
   refine W_rs ?_
   refine rq (out:=(af).val x9) (ap (R:=af) (a:=x9) (R':=af) 4 ty49 (Sub.refl _)) ?_
   refine um (R:=af) (R':=af) (a:=(ApiEntity.mk 0 [] [] [] [] false [] 0 0)) (y:=x9) 2 Tryz.sizeOf49 (Upd.refl _) ?_
   refine um (R:=Rp.int .i64) (R':=Rp.int .i64) (a:=0) (y:=0) 3 Tryz.sizeOf28 (Upd.refl _) ?_
   obtain rfl:=Option.some.inj hy1
   exact bc ⟨_,Pick.refl _,.inr ⟨_,rfl,rfl,b10,rfl⟩⟩
  replace hy1:=iteF hc11 hy1
  refine ax ?_
  obtain rfl:=Option.some.inj hy1
  exact⟨_,Pick.of [0,1,2,3] rfl,.inl ⟨rfl,_,rfl,rfl⟩⟩
 intro D C' hj
 cases x15 with
 |inl x13=>
  replace h:((kin_Field x1.Table x1.Class x2.Text).bind fun(x17,x18)=>(if x18=true then(mn x1 x17 true).bind fun(x21,x22)=>some (x21,x22)else(jy x1 x2.Text).bind fun(x23,x24)=>(nk x1 x23 x24).bind fun(x25,x26)=>qh x25 x26))=some r:=h
  obtain rfl:=hj
  intro T s0
  refine a8 ?_
  refine W_rs ?_
  refine rq (out:=am b3 0) (ai fld66_0) ?_
  refine rq (out:=aq af x1.Table) (ap (R:=aj) (a:=x1) (R':=ba af) 1 ty38 gl) ?_
  refine rq (out:=am b3 1) (ai fld66_1) ?_
  refine rq (out:=bv x1.Class) (ap (R:=aj) (a:=x1) (R':=a6) 1 ty9 jk) ?_
  refine rq (out:=am b4 1) (ai ef) ?_
  refine rq (out:=bv x2.Text) (ap (R:=ab) (a:=x2) (R':=a6) 2 ty9 bw) ?_
  obtain⟨⟨x17,x18⟩,hx17,h⟩:=ah h
  refine rq (out:=bk [(af).val x17,Pr.bool x18]) (ct (kin_Field_ok x1.Table x1.Class x2.Text _ hx17)) ?_
  refine rq (out:=bk [(af).val x17,Pr.bool x18]) eb ?_
  refine rq (out:=(af).val x17) au ?_
  refine rq (out:=Pr.bool x18) au ?_
  refine rAlloc (R:=af) (z:=(ApiEntity.mk 0 [] [] [] [] false [] 0 0)) Tryz.zeroValue49 (fun _=>⟨_,⟨_,_,rfl,rfl,⟨_,_,rfl,rfl,⟨_,_,rfl,rfl,⟨_,_,rfl,rfl,⟨_,_,rfl,rfl,⟨_,_,rfl,rfl,⟨_,_,rfl,⟨_,rfl,none,0,rfl,⟨Nat.le_refl _,fun _=>rfl⟩,.inl rfl⟩,⟨_,_,rfl,rfl,⟨_,_,rfl,rfl,rfl⟩⟩⟩⟩⟩⟩⟩⟩⟩,rfl⟩) (fun b19=> ?_)
  refine um (R:=af) (R':=af) (a:=(ApiEntity.mk 0 [] [] [] [] false [] 0 0)) (y:=x17) 5 Tryz.sizeOf49 (Upd.refl _) ?_
  refine rq (out:=Pr.bool x18) du ?_
  refine W_rs ?_
  refine rq (out:=Pr.bool x18) eb ?_
  refine W_cond (b:=x18) rfl (fun hc20=> ?_) (fun hc20=> ?_)
  ·replace h:=iteT hc20 h
   refine W_rs ?_
   refine rq (out:=(aj).val x1) (ap (R:=aj) (a:=x1) (R':=aj) 1 ty66 (Sub.refl _)) ?_
   refine rq (out:=(af).val x17) (ap (R:=af) (a:=x17) (R':=af) 5 ty49 (Sub.refl _)) ?_
   obtain⟨⟨x21,x22⟩,hx21,h⟩:=ah h
   refine rq (out:=bk [(af).val x21,Pr.i64 x22]) (ct (rp x1 x17 true _ hx21)) ?_
   refine rq (out:=(af).val x21) au ?_
   refine rq (out:=Pr.i64 x22) au ?_
   refine um (R:=af) (R':=af) (a:=(ApiEntity.mk 0 [] [] [] [] false [] 0 0)) (y:=x21) 3 Tryz.sizeOf49 (Upd.refl _) ?_
   refine um (R:=Rp.int .i64) (R':=Rp.int .i64) (a:=0) (y:=x22) 4 Tryz.sizeOf28 (Upd.refl _) ?_
   obtain rfl:=Option.some.inj h
   exact bc ⟨rfl,[(af).val x21,Pr.i64 x22],⟨yBox 3 ty49 aa,yBox 4 ty28 aa,trivial⟩,aa⟩
  replace h:=iteF hc20 h
  refine ax ?_
  refine bh (fun e C=>∃(x25:ApiEntity),∃(x26:Int),qh x25 x26=some r/\At [(4,am b5 0),(5,am b6 0)] [Own.box b7 (ba af) x12,Own.box b3 aj x1,Own.box b4 ab x2,Own.box b5 af x25,Own.box b6 (Rp.int .i64) x26,Own.box b19 af x17] e C) ?_ ?_
  ·rintro e C ⟨x25,x26,h,hat2⟩
   refine W_at hat2 ?_
   clear hat2
   unfold qh at h
   obtain rfl:=Option.some.inj h
   exact bc ⟨rfl,[(af).val x25,Pr.i64 x26],⟨yBox 3 ty49 aa,yBox 4 ty28 aa,trivial⟩,aa⟩
  refine eo 10 hmx (by kernel_rfl) (by kernel_rfl) ?_
  refine qq (out:=(aj).val x1) (ap (R:=aj) (a:=x1) (R':=aj) 1 ty66 (Sub.refl _)) ?_
  refine qq (out:=(aj).val x1) (ap (R:=aj) (a:=x1) (R':=aj) 1 ty66 (Sub.refl _)) ?_
  refine qq (out:=am b4 1) (ai ef) ?_
  refine qq (out:=bv x2.Text) (ap (R:=ab) (a:=x2) (R':=a6) 2 ty9 bw) ?_
  obtain⟨⟨x23,x24⟩,hx23,h⟩:=ah h
  refine qq (out:=bk [(af).val x23,Pr.bool x24]) (ct (oq x1 x2.Text _ hx23)) ?_
  refine qq (out:=(af).val x23) au ?_
  refine qq (out:=Pr.bool x24) au ?_
  obtain⟨⟨x25,x26⟩,hx25,h⟩:=ah h
  refine qq (out:=bk [(af).val x25,Pr.i64 x26]) (ct (bind_Scope_own2_ok x1 x23 x24 _ hx25)) ?_
  refine qq (out:=(af).val x25) au ?_
  refine qq (out:=Pr.i64 x26) au ?_
  refine um (R:=af) (R':=af) (a:=(ApiEntity.mk 0 [] [] [] [] false [] 0 0)) (y:=x25) 3 Tryz.sizeOf49 (Upd.refl _) ?_
  refine um (R:=Rp.int .i64) (R':=Rp.int .i64) (a:=0) (y:=x26) 4 Tryz.sizeOf28 (Upd.refl _) ?_
  exact⟨x25,x26,h,⟨⟨aa,aa,trivial⟩,Pick.refl _⟩⟩
 |inr x16=>
  replace h:(some (x16,0))=some r:=h
  obtain⟨b10,rfl⟩:=hj
  obtain rfl:=Option.some.inj h
  exact .inr ⟨rfl,⟨rfl,[(af).val x16,Pr.i64 0],⟨yBox 3 ty49 aa,yBox 4 ty28 aa,trivial⟩,aa⟩⟩
theorem bind_Scope_call_ok (x1:BindScope) (x2:ApiNode) (r:ApiEntity × Int) (h:bind_Scope_call x1 x2=some r):FnP Tryz.prog 66 [(aj).val x1,(ab).val x2] (bk [(af).val r.1,Pr.i64 r.2]):=by
 refine c4 (rs:=[.cell 4 49,.tmp 5]) Tryz.func66 rfl Tryz.ntmps66 Tryz.results66 (by decide) (fun s0=> ?_)
 unfold bind_Scope_call at h
 refine W_rs ?_
 refine rBox (R:=aj) (a:=x1) rfl (fun b3=> ?_)
 refine rBox (R:=ab) (a:=x2) rfl (fun b4=> ?_)
 refine bq oy fun b5=>kAs rfl ?_
 refine bh (fun e C=>∃(x9:Int),∃(x8:ApiEntity),bind_Scope_call_j1 x9 x8=some r/\At [(4,am b5 0),(5,Pr.i64 x9)] [Own.box b3 aj x1,Own.box b4 ab x2,Own.box b5 af x8] e C) ?_ ?_
 ·rintro e C ⟨x9,x8,h,hat1⟩
  refine W_at hat1 ?_
  unfold bind_Scope_call_j1 at h
  obtain rfl:=osj h
  exact bc ⟨rfl,[(af).val x8,Pr.i64 x9],⟨yBox 2 ty49 aa,yT aa,trivial⟩,aa⟩
 refine eo 13 hmx (by kernel_rfl) (by kernel_rfl) ?_
 refine lUn (ap 0 ty66 (Sub.refl _)) ?_
 refine lUn (ai fld66_0) ?_
 refine lUn (ap 0 ty38 gl) ?_
 refine lUn (ai fld66_1) ?_
 refine lUn (ap 0 ty9 jk) ?_
 refine lUn (ai ef) ?_
 refine lUn (ap 1 ty9 bw) ?_
 obtain⟨⟨x6,x7⟩,hx6,h⟩:=ah h
 refine lUn (ct (kin_Method_ok x1.Table x1.Class x2.Text _ hx6)) ?_
 refine lUn au ?_
 refine lUn au ?_
 obtain⟨⟨x8,x9⟩,hx8,h⟩:=ah h
 refine lUn (ct (rp x1 x6 x7 _ hx8)) ?_
 refine lUn au ?_
 refine lUn au ?_
 refine av 2 rfl rfl (Upd.refl _) rfl Tryz.sizeOf49 (kAs rfl ?_)
 exact⟨x9,x8,h,atOk⟩
end Go.Proofs.YtcndghapmoaidaaGreatDoor
