/- The code comes to what these functions say (printed by wip/gen/gen.py). -/
import Derived.Test.YtcndghapmoaidaaGreatDoorZX
import Derived.Test.YtcndghapmoaidaaGreatDoorZP1
import Derived.Test.YtcndghapmoaidaaGreatDoorZT
set_option linter.unusedSimpArgs false
set_option linter.unusedVariables false
set_option linter.unusedSectionVars false
set_option linter.unusedSectionVars false
set_option maxRecDepth 100000
set_option maxHeartbeats 4000000
namespace Go.Proofs.YtcndghapmoaidaaGreatDoor
open Go Go.Cn
attribute [local irreducible] eg ar
theorem kin_wrong_ok (x1:List ApiEntity) (x2:ApiEntity) (r:Int) (h:kin_wrong x1 x2=some r):FnP Tryz.prog 72 [ar ag x1,(ag).val x2] (Pr.i64 r):=by
 refine cz (rs:=[4]) Tryz.func72 rfl Tryz.ntmps72 ⟨by decide,Tryz.results72⟩ (by decide) (fun s0=> ?_)
 unfold kin_wrong at h
 refine W_rs ?_
 refine rBox (R:=ag) (a:=x2) rfl (fun b3=> ?_)
 refine kAs rfl (W_rs (kMvL rfl (kUn (ak fld49_3) ?_)))
 refine kUn (au 0 ty9 k5) ?_
 obtain⟨⟨x4,x5⟩,hx4,h⟩:=aj h
 refine kUn (c5 (kin_class_ok x1 x2.Owner _ hx4)) ?_
 refine kUn (hMv (out:=br [(ag).val x4,Pr.bool x5]) rfl) (kUn aw ?_)
 refine kUn aw ?_
 refine bw kh fun b6=>ax 1 rfl rfl (Upd.refl _) rfl Tryz.sizeOf49 (kAs rfl (ba ?_))
 refine bj (fun e C=>∃(x8:Bool),kin_wrong_j4 x2 x1 x4 x8=some r/\At [(0,ar ag x1),(3,ao b3 0),(5,ao b6 0),(26,Pr.bool x8)] [Own.box b3 ag x2,Own.box b6 ag x4] e C) ?_ ?_
 ·rintro e C ⟨x8,h,hat4⟩
  refine W_at hat4 ?_
  unfold kin_wrong_j4 at h
  refine a8 h rfl (fun _ h=> ?_) (fun _ h=> ?_)
  ·refine W_rs (kAs rfl ?_)
   obtain rfl:=osj h
   exact bh ⟨rfl,aa⟩
  refine az ?_
  refine bj (fun e C=>r7=some r/\At [] [Own.box b3 ag x2,Own.box b6 ag x4] e C) ?_ ?_
  ·rintro e C ⟨h,hat1⟩
   refine W_at hat1 ?_
   unfold r7 at h
   refine W_rs (kAs rfl ?_)
   obtain rfl:=osj h
   exact bh ⟨rfl,aa⟩
  refine W_rs (kUn (ak mv) ?_)
  refine kUn (au 0 ty3 de) ?_
  refine a5 (W_rs (kIn rfl rfl rfl (kAs rfl ?_)))
  refine a8 h rfl (fun _ h=> ?_) (fun _ h=> ?_)
  ·refine W_rs (kMvL rfl (kUn (ak fld49_4) ?_))
   refine kUn (au 0 ty9 fr) ?_
   obtain⟨⟨x11,x12⟩,hx11,h⟩:=aj h
   refine kUn (c5 (kin_class_ok x1 x2.Type_ _ hx11)) ?_
   refine kUn (hMv (out:=br [(ag).val x11,Pr.bool x12]) rfl) (kUn aw ?_)
   refine kUn aw ?_
   refine bw kh fun b13=>ax 2 rfl rfl (Upd.refl _) rfl Tryz.sizeOf49 (kAs rfl ?_)
   refine bj (fun e C=>∃(x17:Bool),kin_wrong_j2 x17=some r/\At [(52,Pr.bool x17)] [Own.box b3 ag x2,Own.box b6 ag x4,Own.box b13 ag x11] e C) ?_ ?_
   ·rintro e C ⟨x17,h,hat2⟩
    refine W_at hat2 ?_
    unfold kin_wrong_j2 at h
    refine a8 h rfl (fun _ h=> ?_) (fun _ h=> ?_)
    ·refine W_rs (kAs rfl ?_)
     obtain rfl:=osj h
     exact bh ⟨rfl,aa⟩
    refine az ?_
    exact⟨h,⟨trivial,Pick.of [0,1] rfl⟩⟩
   refine W_r (kUn (ak fld49_4) ?_)
   refine kUn (au 0 ty9 fr) ?_
   refine kSt rfl rfl rfl (kMv rfl ?_)
   rcases bg h with⟨hc14,h⟩|⟨hc14,h⟩
   ·refine kGd rfl aa hc14 (hMvA rfl) (kGd rfl aa hc14 (qNot rfl) (kGd rfl aa hc14 (hMvA rfl) ?_))
    rcases bg h with⟨hc15,h⟩|⟨hc15,h⟩
    ·refine kSkF rfl aa hc15 (kSkF rfl aa hc15 (kSkF rfl aa hc15 (kSkF rfl aa hc15 (kSkF rfl aa hc15 (kSkF rfl aa hc15 (kGd rfl aa hc14 (hPt rfl hc15 rfl) (kPt rfl hc14 rfl ?_)))))))
     exact⟨true,h,atOk⟩
    refine kGd rfl aa hc15 (hMvL rfl) (kGd rfl aa hc15 (ak fld49_4) ?_)
    refine kGd rfl aa hc15 (au 0 ty9 fr) ?_
    refine kGd rfl aa hc15 (ak li) ?_
    refine kGd rfl aa hc15 (au 0 ty9 d9) ?_
    obtain⟨x16,hx16,h⟩:=aj h
    refine kGd rfl aa hc15 (c5 (kin_Below_ok x1 x2.Type_ x2.Id _ hx16)) ?_
    refine kGd rfl aa hc14 (hPf rfl hc15 rfl) (kPt rfl hc14 rfl ?_)
    exact⟨x16,h,atOk⟩
   refine kSkT rfl aa hc14 (kSkT rfl aa hc14 (kSkT rfl aa hc14 (kSkU rfl aa (kSkU rfl aa (kSkU rfl aa (kSkU rfl aa (kSkU rfl aa (kSkU rfl aa (kSkT rfl aa hc14 (kPf rfl hc14 rfl ?_))))))))))
   exact⟨false,h,atOk⟩
  refine W_rs (kIn rfl rfl rfl (kAs rfl ?_))
  refine a8 h rfl (fun _ h=> ?_) (fun _ h=> ?_)
  ·refine W_rs (kMvL rfl (kUn (ak fld49_4) ?_))
   refine kUn (au 1 ty9 fr) ?_
   refine kUn (ak fld49_2) ?_
   refine kUn (au 0 ty9 gw) ?_
   obtain⟨⟨x20,x21⟩,hx20,h⟩:=aj h
   refine kUn (c5 (kin_Field_ok x1 x4.Type_ x2.Name _ hx20)) ?_
   refine kUn (hMv (out:=br [(ag).val x20,Pr.bool x21]) rfl) (kUn aw ?_)
   refine kUn aw ?_
   refine bw kh fun b22=>ax 2 rfl rfl (Upd.refl _) rfl Tryz.sizeOf49 (kAs rfl (W_rs (kMv rfl ?_)))
   refine a8 h rfl (fun _ h=> ?_) (fun _ h=> ?_)
   ·refine W_rs (kAs rfl ?_)
    obtain rfl:=osj h
    exact bh ⟨rfl,aa⟩
   refine az ?_
   exact⟨h,⟨trivial,Pick.of [0,1] rfl⟩⟩
  refine W_rs (kIn rfl rfl rfl (kAs rfl ?_))
  refine a8 h rfl (fun _ h=> ?_) (fun _ h=> ?_)
  ·refine W_rs (kMvL rfl (kUn (ak fld49_4) ?_))
   refine kUn (au 1 ty9 fr) ?_
   refine kUn (ak fld49_2) ?_
   refine kUn (au 0 ty9 gw) ?_
   obtain⟨⟨x25,x26⟩,hx25,h⟩:=aj h
   refine kUn (c5 (kin_Method_ok x1 x4.Type_ x2.Name _ hx25)) ?_
   refine kUn (hMv (out:=br [(ag).val x25,Pr.bool x26]) rfl) (kUn aw ?_)
   refine kUn aw ?_
   refine bw kh fun b27=>ax 2 rfl rfl (Upd.refl _) rfl Tryz.sizeOf49 (kAs rfl ?_)
   refine bj (fun e C=>∃(x30:Bool),kin_wrong_j3 x30=some r/\At [(82,Pr.bool x30)] [Own.box b3 ag x2,Own.box b6 ag x4,Own.box b27 ag x25] e C) ?_ ?_
   ·rintro e C ⟨x30,h,hat3⟩
    refine W_at hat3 ?_
    unfold kin_wrong_j3 at h
    refine a8 h rfl (fun _ h=> ?_) (fun _ h=> ?_)
    ·refine W_rs (kAs rfl ?_)
     obtain rfl:=osj h
     exact bh ⟨rfl,aa⟩
    refine az ?_
    exact⟨h,⟨trivial,Pick.of [0,1] rfl⟩⟩
   refine W_r (kMv rfl (kMv rfl ?_))
   rcases bg h with⟨hc28,h⟩|⟨hc28,h⟩
   ·refine kGd rfl aa hc28 (au 2 ty49 (Sub.refl _)) ?_
    refine kGd rfl aa hc28 (au 0 ty49 (Sub.refl _)) ?_
    obtain⟨x29,hx29,h⟩:=aj h
    refine kGd rfl aa hc28 (c5 (kin_alike_ok x25 x2 _ hx29)) ?_
    refine kGd rfl aa hc28 (qNot rfl) (kPt rfl hc28 rfl ?_)
    exact⟨!x29,h,atOk⟩
   refine kSkT rfl aa hc28 (kSkT rfl aa hc28 (kSkT rfl aa hc28 (kSkT rfl aa hc28 (kPf rfl hc28 rfl ?_))))
   exact⟨false,h,atOk⟩
  refine az ?_
  exact⟨h,atOk⟩
 refine W_r (kUn (ak mv) ?_)
 refine kUn (au 0 ty3 de) ?_
 refine kIn rfl rfl rfl (kMv rfl ?_)
 rcases bg h with⟨hc7,h⟩|⟨hc7,h⟩
 ·refine kGd rfl aa hc7 (hMvA rfl) (kGd rfl aa hc7 (qNot rfl) (kPt rfl hc7 rfl ?_))
  exact⟨!x5,h,atOk⟩
 refine kSkT rfl aa hc7 (kSkT rfl aa hc7 (kPf rfl hc7 rfl ?_))
 exact⟨false,h,atOk⟩
theorem kin_Check_ok (x1:List ApiEntity) (r:ApiMistake) (h:kin_Check x1=some r):FnP Tryz.prog 35 [ar ag x1] ((am).val r):=by
 refine c7 (rs:=[.cell 2 30]) Tryz.func35 rfl Tryz.ntmps35 Tryz.results35 (by decide) (fun s0=> ?_)
 unfold kin_Check at h
 refine W_rs (bw al30 fun b2=>ba (W_rs (kMvL rfl (kUn (gy rfl Tryz.underlying38) ?_))))
 refine kMv rfl (a5 ?_)
 obtain⟨z2l,hz2,h⟩:=aj h
 obtain⟨n2,hN2⟩:=bt hz2
 refine cv 0 (fun e C=>kin_Check_k1=some r/\At [(2,ao b2 0)] [Own.box b2 am (ApiMistake.mk 0 0 0)] e C) ?_ ?_
 ·rintro e C ⟨h,hat1⟩
  refine W_at hat1 ?_
  unfold kin_Check_k1 at h
  refine W_rs (kUn (fu st30 rfl) ?_)
  refine ax 0 rfl rfl (Upd.refl _) rfl Tryz.sizeOf30 ?_
  obtain rfl:=osj h
  exact bh ⟨rfl,[(am).val (ApiMistake.mk 0 0 0)],⟨yBox 0 ty30 aa,trivial⟩,aa⟩
 refine da (fun m e C=>∃(x3:Int),dn (fun s=>kin_Check_l2 x1 s) m x3=some z2l/\At [(0,ar ag x1),(2,ao b2 0),(6,ar ag x1),(7,Pr.i64 (x1.length:Int)),(8,Pr.i64 x3)] [Own.box b2 am (ApiMistake.mk 0 0 0)] e C) n2 ⟨0,hN2,⟨⟨aa,aa,aa,aa,aa,trivial⟩,Pick.refl _⟩⟩ ?_
 rintro m e C ⟨x3,hN2,hatl2⟩
 refine W_at hatl2 ?_
 obtain⟨m2,w2l,rfl,h2l,hn2,ho2⟩:=bk hN2
 replace h2l:kin_Check_l2 x1 x3=some w2l:=h2l
 unfold kin_Check_l2 at h2l
 refine W_rs (kIn rfl rfl rfl (ba ?_))
 refine a8 h2l rfl (fun _ h2l=> ?_) (fun _ h2l=> ?_)
 ·refine az (ba (a5 (W_rs ?_)))
  obtain⟨x6,hx6,h2l⟩:=aj h2l
  refine kUn (dh Tryz.underlying38 Tryz.sizeOf49 hx6) ?_
  refine kUn (cl ty49) ?_
  refine bw kh fun b7=>ax 1 rfl rfl (Upd.refl _) rfl Tryz.sizeOf49 (W_rs (kMvL rfl (kUn (au 1 ty49 (Sub.refl _)) ?_)))
  refine ct h2l (kin_wrong_ok x1 x6) rfl fun x8 _ h2l=>kAs rfl (W_rs (kMv rfl (kIn rfl rfl rfl ?_)))
  refine a8 h2l rfl (fun _ h2l=> ?_) (fun _ h2l=> ?_)
  ·refine W_rs (kMv rfl (kUn (ak fld49_7) ?_))
   refine kUn (au 1 ty3 subApiEntity_File) ?_
   refine kUn (ak fld49_8) ?_
   refine kUn (au 1 ty3 subApiEntity_At) ?_
   refine kUn (fu st30 ⟨(ApiMistake.mk x8 0 0),⟨_,rfl,rfl,fun j fd hj hf=>by match j,hj with| 0,h=>exact absurd rfl h| 1,_=>cases hf;rfl| 2,_=>cases hf;rfl|_+3,_=>cases hf⟩,⟨(ApiMistake.mk x8 x6.File 0),⟨_,rfl,rfl,fun j fd hj hf=>by match j,hj with| 0,_=>cases hf;rfl| 1,h=>exact absurd rfl h| 2,_=>cases hf;rfl|_+3,_=>cases hf⟩,⟨(ApiMistake.mk x8 x6.File x6.At),⟨_,rfl,rfl,fun j fd hj hf=>by match j,hj with| 0,_=>cases hf;rfl| 1,_=>cases hf;rfl| 2,h=>exact absurd rfl h|_+3,_=>cases hf⟩,rfl⟩⟩⟩) ?_
   refine ax 0 rfl rfl (Upd.refl _) rfl Tryz.sizeOf30 ?_
   obtain rfl:=ho2 _ (Option.some.inj h2l).symm
   replace h:some (ApiMistake.mk x8 x6.File x6.At)=some r:=h
   obtain rfl:=osj h
   exact bh ⟨rfl,[(am).val (ApiMistake.mk x8 x6.File x6.At)],⟨yBox 0 ty30 aa,trivial⟩,aa⟩
  refine az (W_r (kIn rfl rfl rfl (kMv rfl ?_)))
  exact⟨m2,Nat.lt_succ_self _,w64 (x3+1),hn2 _ (Option.some.inj h2l).symm,⟨⟨aa,aa,aa,aa,aa,trivial⟩,Pick.of [0] rfl⟩⟩
 refine db ?_
 obtain rfl:=ho2 _ (Option.some.inj h2l).symm
 exact⟨h,atOk⟩
theorem slices_Index_string_string_ok (x1:List (List UInt8)) (x2:List UInt8) (r:Int) (h:kl x1 x2=some r):FnP Tryz.prog 119 [ar a7 x1,bq x2] (Pr.i64 r):=by
 refine cz (rs:=[4]) Tryz.func119 rfl Tryz.ntmps119 ⟨by decide,Tryz.results119⟩ (by decide) (fun s0=> ?_)
 unfold kl at h
 refine W_rs (kAs rfl (ba (W_rs (kMvL rfl (kUn (gy rfl Tryz.underlying22) ?_)))))
 refine kMv rfl (a5 ?_)
 obtain⟨z2l,hz2,h⟩:=aj h
 obtain⟨n2,hN2⟩:=bt hz2
 refine cv 0 (fun e C=>jn=some r/\At [] [] e C) ?_ ?_
 ·rintro e C ⟨h,hat1⟩
  refine W_at hat1 ?_
  unfold jn at h
  refine W_rs (kAs rfl ?_)
  obtain rfl:=osj h
  exact bh ⟨rfl,aa⟩
 refine da (fun m e C=>∃(x3:Int),dn (fun s=>gn x1 x2 s) m x3=some z2l/\At [(0,ar a7 x1),(1,bq x2),(7,Pr.i64 (x1.length:Int)),(8,Pr.i64 x3)] [] e C) n2 ⟨0,hN2,⟨⟨aa,aa,aa,aa,trivial⟩,Pick.refl _⟩⟩ ?_
 rintro m e C ⟨x3,hN2,hatl2⟩
 refine W_at hatl2 ?_
 obtain⟨m2,w2l,rfl,h2l,hn2,ho2⟩:=bk hN2
 replace h2l:gn x1 x2 x3=some w2l:=h2l
 unfold gn at h2l
 refine W_rs (kIn rfl rfl rfl (ba ?_))
 refine a8 h2l rfl (fun _ h2l=> ?_) (fun _ h2l=> ?_)
 ·refine az (ba (a5 (W_rs (kMv rfl (kAs rfl (W_rs (kMv rfl (kMvL rfl (kMv rfl ?_)))))))))
  obtain⟨x6,hx6,h2l⟩:=aj h2l
  refine kUn (dh Tryz.underlying22 Tryz.sizeOf9 hx6) ?_
  refine kUn (cl ty9) ?_
  refine kSt rfl rfl rfl ?_
  refine a8 h2l rfl (fun _ h2l=> ?_) (fun _ h2l=> ?_)
  ·refine W_rs (kMv rfl (kAs rfl ?_))
   obtain rfl:=ho2 _ (Option.some.inj h2l).symm
   replace h:some x3=some r:=h
   obtain rfl:=osj h
   exact bh ⟨rfl,aa⟩
  refine az (W_r (kIn rfl rfl rfl (kMv rfl ?_)))
  exact⟨m2,Nat.lt_succ_self _,w64 (x3+1),hn2 _ (Option.some.inj h2l).symm,atOk⟩
 refine db ?_
 obtain rfl:=ho2 _ (Option.some.inj h2l).symm
 exact⟨h,atOk⟩
theorem iv (x1:List (List UInt8)) (x2:List UInt8) (r:Bool) (h:fc x1 x2=some r):FnP Tryz.prog 70 [ar a7 x1,bq x2] (Pr.bool r):=by
 refine cz (rs:=[4]) Tryz.func70 rfl Tryz.ntmps70 ⟨by decide,Tryz.results70⟩ (by decide) (fun s0=> ?_)
 unfold fc at h
 refine W_rs (kAs rfl (W_rs (kMvL rfl (kMv rfl (ct h (slices_Index_string_string_ok x1 x2) rfl fun x3 _ h=>kIn rfl rfl rfl (kAs rfl ?_))))))
 obtain rfl:=osj h
 exact bh ⟨rfl,aa⟩
theorem bind_Scope_own2_ok (x1:BindScope) (x2:ApiEntity) (x3:Bool) (r:ApiEntity × Int) (h:mg x1 x2 x3=some r):FnP Tryz.prog 115 [(al).val x1,(ag).val x2,Pr.bool x3] (br [(ag).val r.1,Pr.i64 r.2]):=by
 refine c7 (rs:=[.cell 6 49,.tmp 7]) Tryz.func115 rfl Tryz.ntmps115 Tryz.results115 (by decide) (fun s0=> ?_)
 unfold mg at h
 refine W_rs ?_
 refine rBox (R:=al) (a:=x1) rfl (fun b4=> ?_)
 refine rBox (R:=ag) (a:=x2) rfl (fun b5=> ?_)
 refine bw kh fun b6=>kAs rfl (ba (W_rs (kMv rfl (kNo rfl ?_))))
 refine a8 h rfl (fun _ h=> ?_) (fun _ h=> ?_)
 ·refine W_rs (kUn (fu st49 rfl) ?_)
  refine ax 2 rfl rfl (Upd.refl _) rfl Tryz.sizeOf49 (kAs rfl ?_)
  obtain rfl:=osj h
  exact bh ⟨rfl,[(ag).val (ApiEntity.mk 0 [] [] [] [] false [] 0 0),Pr.i64 170],⟨yBox 2 ty49 aa,yT aa,trivial⟩,aa⟩
 refine az (W_rs (kUn (au 1 ty49 (Sub.refl _)) ?_))
 refine ax 2 rfl rfl (Upd.refl _) rfl Tryz.sizeOf49 (kAs rfl ?_)
 obtain rfl:=osj h
 exact bh ⟨rfl,[(ag).val x2,Pr.i64 0],⟨yBox 2 ty49 aa,yT aa,trivial⟩,aa⟩
theorem nh (x1:BindScope) (x2:List UInt8) (r:ApiEntity × Bool) (h:jm x1 x2=some r):FnP Tryz.prog 116 [(al).val x1,bq x2] (br [(ag).val r.1,Pr.bool r.2]):=by
 refine c7 (rs:=[.cell 4 49,.tmp 5]) Tryz.func116 rfl Tryz.ntmps116 Tryz.results116 (by decide) (fun s0=> ?_)
 unfold jm at h
 refine W_rs ?_
 refine rBox (R:=al) (a:=x1) rfl (fun b3=> ?_)
 refine bw kh fun b4=>kAs rfl (ba (W_rs (kUn (ak fld66_0) ?_)))
 refine kUn (au 0 ty38 gl) ?_
 refine kUn (gy rfl Tryz.underlying38) ?_
 refine kMv rfl (a5 ?_)
 obtain⟨z2l,hz2,h⟩:=aj h
 obtain⟨n2,hN2⟩:=bt hz2
 refine cv 0 (fun e C=>rm=some r/\At [(4,ao b4 0)] [Own.box b3 al x1,Own.box b4 ag (ApiEntity.mk 0 [] [] [] [] false [] 0 0)] e C) ?_ ?_
 ·rintro e C ⟨h,hat1⟩
  refine W_at hat1 ?_
  unfold rm at h
  refine W_rs (kUn (fu st49 rfl) ?_)
  refine ax 1 rfl rfl (Upd.refl _) rfl Tryz.sizeOf49 (kAs rfl ?_)
  obtain rfl:=osj h
  exact bh ⟨rfl,[(ag).val (ApiEntity.mk 0 [] [] [] [] false [] 0 0),Pr.bool false],⟨yBox 1 ty49 aa,yT aa,trivial⟩,aa⟩
 refine da (fun m e C=>∃(x5:Int),dn (fun s=>ni x1 x2 s) m x5=some z2l/\At [(1,bq x2),(4,ao b4 0),(9,ar ag x1.Table),(10,Pr.i64 (x1.Table.length:Int)),(11,Pr.i64 x5)] [Own.box b3 al x1,Own.box b4 ag (ApiEntity.mk 0 [] [] [] [] false [] 0 0)] e C) n2 ⟨0,hN2,⟨⟨aa,aa,aa,aa,aa,trivial⟩,Pick.refl _⟩⟩ ?_
 rintro m e C ⟨x5,hN2,hatl2⟩
 refine W_at hatl2 ?_
 obtain⟨m2,w2l,rfl,h2l,hn2,ho2⟩:=bk hN2
 replace h2l:ni x1 x2 x5=some w2l:=h2l
 unfold ni at h2l
 refine W_rs (kIn rfl rfl rfl (ba ?_))
 refine a8 h2l rfl (fun _ h2l=> ?_) (fun _ h2l=> ?_)
 ·refine az (ba (a5 (W_rs ?_)))
  obtain⟨x8,hx8,h2l⟩:=aj h2l
  refine kUn (dh Tryz.underlying38 Tryz.sizeOf49 hx8) ?_
  refine kUn (cl ty49) ?_
  refine bw kh fun b9=>ax 2 rfl rfl (Upd.refl _) rfl Tryz.sizeOf49 ?_
  refine bj (fun e C=>∃(x11:Bool),nj x8 x5 x11=some w2l/\At [(1,bq x2),(4,ao b4 0),(7,ao b9 0),(9,ar ag x1.Table),(10,Pr.i64 (x1.Table.length:Int)),(11,Pr.i64 x5),(23,Pr.bool x11)] [Own.box b3 al x1,Own.box b4 ag (ApiEntity.mk 0 [] [] [] [] false [] 0 0),Own.box b9 ag x8] e C) ?_ ?_
  ·rintro e C ⟨x11,h2l,hat3⟩
   refine W_at hat3 ?_
   unfold nj at h2l
   refine a8 h2l rfl (fun _ h2l=> ?_) (fun _ h2l=> ?_)
   ·refine W_rs (kUn (au 2 ty49 (Sub.refl _)) ?_)
    refine ax 1 rfl rfl (Upd.refl _) rfl Tryz.sizeOf49 (kAs rfl ?_)
    obtain rfl:=ho2 _ (Option.some.inj h2l).symm
    replace h:some (x8,true)=some r:=h
    obtain rfl:=osj h
    exact bh ⟨rfl,[(ag).val x8,Pr.bool true],⟨yBox 1 ty49 aa,yT aa,trivial⟩,aa⟩
   refine az (W_r (kIn rfl rfl rfl (kMv rfl ?_)))
   exact⟨m2,Nat.lt_succ_self _,w64 (x5+1),hn2 _ (Option.some.inj h2l).symm,⟨⟨aa,aa,aa,aa,aa,trivial⟩,Pick.of [0,1] rfl⟩⟩
  refine W_r (kUn (ak mv) ?_)
  refine kUn (au 2 ty3 de) ?_
  refine kIn rfl rfl rfl (kMv rfl ?_)
  rcases bg h2l with⟨hc10,h2l⟩|⟨hc10,h2l⟩
  ·refine kGd rfl aa hc10 (ak li) ?_
   refine kGd rfl aa hc10 (au 2 ty9 d9) ?_
   refine kGd rfl aa hc10 (hMvA rfl) (kGd rfl aa hc10 (qStr rfl rfl rfl) (kPt rfl hc10 rfl ?_))
   exact⟨x8.Id==x2,h2l,atOk⟩
  refine kSkT rfl aa hc10 (kSkT rfl aa hc10 (kSkT rfl aa hc10 (kSkT rfl aa hc10 (kPf rfl hc10 rfl ?_))))
  exact⟨false,h2l,atOk⟩
 refine db ?_
 obtain rfl:=ho2 _ (Option.some.inj h2l).symm
 exact⟨h,atOk⟩
theorem ir (x1 x2:Int) (x4:BindWalker) (b3:Nat) (v5:Value) (r:PX BindWrong BindWalker) (h:mq x1 x2 x4=some r):FnX Tryz.prog 126 [ao b3 0,Pr.i64 x1,Pr.i64 x2] [Own.box b3 av (BindWalkerRaw.mk v5 x4.file x4.method x4.many),Own.vec v5 aq x4.uses 47] (fun q C'=>∃a9,r= .ok a9/\∃w100,q=br []/\C'=[Own.box b3 av (BindWalkerRaw.mk w100 a9.file a9.method a9.many),Own.vec w100 aq a9.uses 47]) (fun v=>∃m,r= .bad m/\v=bindV m):=by
 refine gt (rs:=[]) Tryz.func126 rfl Tryz.ntmps126 ⟨by decide,Tryz.results126⟩ (by decide) (fun s0=> ?_)
 unfold mq at h
 refine W_rs (kMv rfl (kIn rfl rfl rfl ?_))
 refine a8 h rfl (fun _ h=> ?_) (fun _ h=> ?_)
 ·refine W_r (kMv rfl (kMv rfl (kNp rfl (kUn (ak fld76_1) ?_))))
  refine kUn (au 0 ty3 pa) ?_
  refine kMv rfl (kUn (fu st30 ⟨(ApiMistake.mk x1 0 0),⟨_,rfl,rfl,fun j fd hj hf=>by match j,hj with| 0,h=>exact absurd rfl h| 1,_=>cases hf;rfl| 2,_=>cases hf;rfl|_+3,_=>cases hf⟩,⟨(ApiMistake.mk x1 x4.file 0),⟨_,rfl,rfl,fun j fd hj hf=>by match j,hj with| 0,_=>cases hf;rfl| 1,h=>exact absurd rfl h| 2,_=>cases hf;rfl|_+3,_=>cases hf⟩,⟨(ApiMistake.mk x1 x4.file x2),⟨_,rfl,rfl,fun j fd hj hf=>by match j,hj with| 0,_=>cases hf;rfl| 1,_=>cases hf;rfl| 2,h=>exact absurd rfl h|_+3,_=>cases hf⟩,rfl⟩⟩⟩) ?_)
  refine kUn (fu st72 ⟨(BindWrong.mk (ApiMistake.mk x1 x4.file x2)),⟨_,rfl,rfl,fun j fd hj hf=>by match j,hj with| 0,h=>exact absurd rfl h|_+1,_=>cases hf⟩,rfl⟩) ?_
  refine kUn (qMkIfc Tryz.underlying72 rfl) ?_
  refine rPanic (p:=Pr.ifc 72 ((iz).val (BindWrong.mk (ApiMistake.mk x1 x4.file x2)))) (Die:=fun v=>v=bindV (BindWrong.mk (ApiMistake.mk x1 x4.file x2))) (bind_plain _) ?_ aa
  rintro _ rfl
  obtain rfl:=osj h
  exact .inr ⟨_,rfl,_,rfl,rfl⟩
 refine az ?_
 obtain rfl:=osj h
 exact(.inl ⟨.inr rfl,_,Pick.refl _,_,aa,_,rfl,v5,rfl,rfl⟩)
theorem bind_walker_put_ok (x1:Int) (x2:List UInt8) (x4:BindWalker) (b3:Nat) (v5:Value) (r:BindWalker) (h:bind_walker_put x1 x2 x4=some r):FnC Tryz.prog 127 [ao b3 0,Pr.i64 x1,bq x2] [Own.box b3 av (BindWalkerRaw.mk v5 x4.file x4.method x4.many),Own.vec v5 aq x4.uses 47] (fun q C'=>∃w100,q=br []/\C'=[Own.box b3 av (BindWalkerRaw.mk w100 r.file r.method r.many),Own.vec w100 aq r.uses 47]):=by
 refine fq (rs:=[]) Tryz.func127 rfl Tryz.ntmps127 ⟨by decide,Tryz.results127⟩ (by decide) (fun s0=> ?_)
 unfold bind_walker_put at h
 obtain⟨x6,hx6,h⟩:=aj h
 refine W_drawA [0,0,2,6,14,0,32,96,224,0,0,2016,4064,8190,16383,32767,65535] [[],[],[],[],[Own.box b3 av (BindWalkerRaw.mk v5 x4.file x4.method x4.many)],[],[],[],[Own.box b3 av (BindWalkerRaw.mk v5 x4.file x4.method x4.many)],[],[],[],[],[],[],[],[]] hmx (by kernel_rfl) (by kernel_rfl) (by kernel_rfl) rfl ?_
 refine aq0 0 1 (out:=ao b3 0) rfl (fun C9=>ef) ?_
 refine aq0 1 3 (out:=ao b3 0) rfl (fun C9=>ef) ?_
 refine aq0 2 7 (out:=ao b3 0) rfl (fun C9=>qNilP) ?_
 refine aq0 3 15 (out:=ao b3 0) rfl (fun C9=>(ak fld76_0)) ?_
 refine aq1 4 31 0 (out:=Pr.is v5) rfl rfl (fun C9 i9 h9=>(qLoadRaw (R:=av) (a:=(BindWalkerRaw.mk v5 x4.file x4.method x4.many)) i9 ty27 o8 (hi:=h9))) ?_
 refine aq0 5 63 (out:=ao b3 0) rfl (fun C9=>ef) ?_
 refine aq0 6 127 (out:=ao b3 0) rfl (fun C9=>qNilP) ?_
 refine aq0 7 255 (out:=ao b3 1) rfl (fun C9=>(ak fld76_1)) ?_
 refine aq1 8 511 0 (out:=Pr.i64 x4.file) rfl rfl (fun C9 i9 h9=>(au (R:=av) (a:=(BindWalkerRaw.mk v5 x4.file x4.method x4.many)) (R':=Rp.int .i64) i9 ty3 pa (hi:=h9))) ?_
 refine aq0 9 1023 (out:=Pr.i64 x1) rfl (fun C9=>ef) ?_
 refine aq0 10 2047 (out:=bq x2) rfl (fun C9=>ef) ?_
 refine aq0 11 4095 (out:=(aq).val (ApiUse.mk x4.file x1 x2)) rfl (fun C9=>(fu st47 ⟨(ApiUse.mk x4.file 0 []),⟨_,rfl,rfl,fun j fd hj hf=>by match j,hj with| 0,h=>exact absurd rfl h| 1,_=>cases hf;rfl| 2,_=>cases hf;rfl|_+3,_=>cases hf⟩,⟨(ApiUse.mk x4.file x1 []),⟨_,rfl,rfl,fun j fd hj hf=>by match j,hj with| 0,_=>cases hf;rfl| 1,h=>exact absurd rfl h| 2,_=>cases hf;rfl|_+3,_=>cases hf⟩,⟨(ApiUse.mk x4.file x1 x2),⟨_,rfl,rfl,fun j fd hj hf=>by match j,hj with| 0,_=>cases hf;rfl| 1,_=>cases hf;rfl| 2,h=>exact absurd rfl h|_+3,_=>cases hf⟩,rfl⟩⟩⟩)) ?_
 refine aq0 12 8191 (out:=ar aq ([(ApiUse.mk x4.file x1 x2)]:List ApiUse)) rfl (fun C9=>(cr (R:=aq) (a:=(ApiUse.mk x4.file x1 x2)) el27 (Nat.le_of_ble_eq_true rfl))) ?_
 refine ae 13 16383 rfl (fun g9=> ?_)
 refine ff 1 el27 hx6 (fun v7=> ?_)
 refine j2 _ [] dt ?_
 refine aq0 14 32767 (out:=ao b3 0) rfl (fun C9=>qNilP) ?_
 refine aq0 15 65535 (out:=ao b3 0) rfl (fun C9=>(ak fld76_0)) ?_
 refine ae 16 131071 rfl (fun g9=> ?_)
 refine rStoreRaw (R:=av) (a:=(BindWalkerRaw.mk v5 x4.file x4.method x4.many)) 0 1 Tryz.sizeOf27 updBindWalkerRaw_uses ?_
 refine rCtx [Own.box b3 av (BindWalkerRaw.mk v7 x4.file x4.method x4.many),Own.vec v7 aq x6 47] ?_
 refine j2 .any [] dt ?_
 refine ar_end ?_
 obtain rfl:=osj h
 exact⟨.inr rfl,_,Pick.refl _,_,aa,v7,rfl,rfl⟩
theorem bind_walker_kind_ok (x1:BindScope) (x2:ApiNode) (x4:BindWalker) (b3:Nat) (v5:Value) (r:PX BindWrong BindWalker) (h:bind_walker_kind x1 x2 x4=some r):FnX Tryz.prog 73 [ao b3 0,(al).val x1,(af).val x2] [Own.box b3 av (BindWalkerRaw.mk v5 x4.file x4.method x4.many),Own.vec v5 aq x4.uses 47] (fun q C'=>∃a9,r= .ok a9/\∃w100,q=br []/\C'=[Own.box b3 av (BindWalkerRaw.mk w100 a9.file a9.method a9.many),Own.vec w100 aq a9.uses 47]) (fun v=>∃m,r= .bad m/\v=bindV m):=by
 refine gt (rs:=[]) Tryz.func73 rfl Tryz.ntmps73 ⟨by decide,Tryz.results73⟩ (by decide) (fun s0=> ?_)
 unfold bind_walker_kind at h
 refine W_rs ?_
 refine rBox (R:=al) (a:=x1) rfl (fun b6=> ?_)
 refine rBox (R:=af) (a:=x2) rfl (fun b7=> ?_)
 refine ba ?_
 refine bj (fun e C=>∃(x10:Bool),ng x4 x1 x2 x10=some r/\At [(0,ao b3 0),(4,ao b6 0),(5,ao b7 0),(16,Pr.bool x10)] [Own.box b3 av (BindWalkerRaw.mk v5 x4.file x4.method x4.many),Own.vec v5 aq x4.uses 47,Own.box b6 al x1,Own.box b7 af x2] e C) ?_ ?_
 ·rintro e C ⟨x10,h,hat2⟩
  refine W_at hat2 ?_
  unfold ng at h
  refine a8 h rfl (fun _ h=> ?_) (fun _ h=> ?_)
  ·obtain rfl:=osj h
   exact bh (.inl ⟨.inl rfl,_,Pick.of [0,1] rfl,_,aa,_,rfl,v5,rfl,rfl⟩)
  refine az ?_
  refine bj (fun e C=>∃(x15:Int),∃(x14:ApiEntity),∃(b16:Nat),rl x2 x4 x15 x14=some r/\At [(0,ao b3 0),(5,ao b7 0),(6,ao b16 0),(7,Pr.i64 x15)] [Own.box b3 av (BindWalkerRaw.mk v5 x4.file x4.method x4.many),Own.vec v5 aq x4.uses 47,Own.box b6 al x1,Own.box b7 af x2,Own.box b16 ag x14] e C) ?_ ?_
  ·rintro e C ⟨x15,x14,b16,h,hat1⟩
   refine W_at hat1 ?_
   unfold rl at h
   refine W_rs (kMv rfl (kMv rfl (kUn (ak fld64_7) ?_)))
   refine kUn (au 3 ty3 subApiNode_TypeAt) ?_
   rcases cn h with⟨m21,hm21,h⟩|⟨x17,hx17,h⟩
   ·refine c6 [0,1] (ir x15 x2.TypeAt x4 b3 v5 _ hm21) ⟨aa,aa,aa,trivial⟩ (fun q C' hq=> ?_) (fun v9 hv=> ?_)
    ·obtain⟨_,h9,_⟩:=hq;cases h9
    obtain⟨_,h9,rfl⟩:=hv
    cases h9
    obtain rfl:=osj h
    exact .inr ⟨_,rfl,_,rfl,rfl⟩
   refine c6 [0,1] (ir x15 x2.TypeAt x4 b3 v5 _ hx17) ⟨aa,aa,aa,trivial⟩ (fun q C' hq=> ?_) (fun v9 hv=>by obtain⟨_,h9,_⟩:=hv;cases h9)
   obtain⟨_,h9,v18,rfl,rfl⟩:=hq
   cases h9
   refine rCtx [Own.box b3 av (BindWalkerRaw.mk v18 x17.file x17.method x17.many),Own.vec v18 aq x17.uses 47,Own.box b6 al x1,Own.box b7 af x2,Own.box b16 ag x14] ?_
   refine W_r (kMv rfl (kUn (ak fld64_7) ?_))
   refine kUn (au 3 ty3 subApiNode_TypeAt) ?_
   refine kUn (ak li) ?_
   refine kUn (au 4 ty9 d9) ?_
   obtain⟨x19,hx19,h⟩:=aj h
   refine j1 [0,1] (bind_walker_put_ok x2.TypeAt x14.Id x17 b3 v18 _ hx19) (fun q C' hq=> ?_)
   obtain⟨v20,rfl,rfl⟩:=hq
   refine rCtx [Own.box b3 av (BindWalkerRaw.mk v20 x19.file x19.method x19.many),Own.vec v20 aq x19.uses 47,Own.box b6 al x1,Own.box b7 af x2,Own.box b16 ag x14] ?_
   obtain rfl:=osj h
   exact(.inl ⟨.inr rfl,_,Pick.of [0,1] rfl,_,aa,_,rfl,v20,rfl,rfl⟩)
  obtain⟨⟨x12,x13⟩,hx12,h⟩:=aj h
  obtain⟨⟨x14,x15⟩,hx14,h⟩:=aj h
  refine W_drawG 1 (fun B S=>[Own.box b3 av (BindWalkerRaw.mk v5 x4.file x4.method x4.many),Own.vec v5 aq x4.uses 47,Own.box b6 al x1,Own.box b7 af x2,(cond (S 12) (Own.box (B 11) ag x14) (cond (S 11) (Own.box (B 11) ag (ApiEntity.mk 0 [] [] [] [] false [] 0 0)) Own.nil))]) (fun B=>[Own.box b3 av (BindWalkerRaw.mk v5 x4.file x4.method x4.many),Own.vec v5 aq x4.uses 47,Own.box b6 al x1,Own.box b7 af x2,Own.box (B 11) ag x14]) [(al).val x1,(al).val x1,ao b7 2,bq x2.Type_,br [(ag).val x12,Pr.bool x13],(ag).val x12,Pr.bool x13,br [(ag).val x14,Pr.i64 x15],br [(ag).val x14,Pr.i64 x15],(ag).val x14,Pr.i64 x15,.any,.any,Pr.i64 x15] (fun k=>([0,0,0,0,0,0,0,0,0,0,0,2,1,0]:List Nat).getD k 0) hmx (by kernel_rfl) (by kernel_rfl) (fun _=>rfl) (fun B S S' h=>by show([Own.box b3 av (BindWalkerRaw.mk v5 x4.file x4.method x4.many),Own.vec v5 aq x4.uses 47,Own.box b6 al x1,Own.box b7 af x2,(cond (S 12) (Own.box (B 11) ag x14) (cond (S 11) (Own.box (B 11) ag (ApiEntity.mk 0 [] [] [] [] false [] 0 0)) Own.nil))]:Ctx)=[Own.box b3 av (BindWalkerRaw.mk v5 x4.file x4.method x4.many),Own.vec v5 aq x4.uses 47,Own.box b6 al x1,Own.box b7 af x2,(cond (S' 12) (Own.box (B 11) ag x14) (cond (S' 11) (Own.box (B 11) ag (ApiEntity.mk 0 [] [] [] [] false [] 0 0)) Own.nil))];simp only[h 11 (Nat.le_of_ble_eq_true (by kernel_rfl)),h 12 (Nat.le_of_ble_eq_true (by kernel_rfl))]) (fun _=>rfl) (fun B=> ?_)
  refine gq1 (fun S hK=>(au (R:=al) (a:=x1) (R':=al) 2 ty66 (Sub.refl _) (hi:=rfl))) ?_
  refine gq1 (fun S hK=>(au (R:=al) (a:=x1) (R':=al) 2 ty66 (Sub.refl _) (hi:=rfl))) ?_
  refine gq1 (fun S hK=>(ak pz)) ?_
  refine gq1 (fun S hK=>(au (R:=af) (a:=x2) (R':=a7) 3 ty9 d8 (hi:=rfl))) ?_
  refine gq1 (fun S hK=>(c5 (nh x1 x2.Type_ _ hx12))) ?_
  refine gq1 (fun S hK=>aw) ?_
  refine gq1 (fun S hK=>aw) ?_
  refine gq1 (fun S hK=>(c5 (bind_Scope_own2_ok x1 x12 x13 _ hx14))) ?_
  refine gq1 (fun S hK=>ef) ?_
  refine gq1 (fun S hK=>aw) ?_
  refine gq1 (fun S hK=>aw) ?_
  refine gqA (fun S hK=>⟨fun B' hB=>by show([Own.box b3 av (BindWalkerRaw.mk v5 x4.file x4.method x4.many),Own.vec v5 aq x4.uses 47,Own.box b6 al x1,Own.box b7 af x2,(cond (S 12) (Own.box (B' 11) ag x14) (cond (S 11) (Own.box (B' 11) ag (ApiEntity.mk 0 [] [] [] [] false [] 0 0)) Own.nil))]:Ctx)=[Own.box b3 av (BindWalkerRaw.mk v5 x4.file x4.method x4.many),Own.vec v5 aq x4.uses 47,Own.box b6 al x1,Own.box b7 af x2,(cond (S 12) (Own.box (B 11) ag x14) (cond (S 11) (Own.box (B 11) ag (ApiEntity.mk 0 [] [] [] [] false [] 0 0)) Own.nil))];simp only[hK.me,hK.F 12 (by kernel_rfl),cond_false],fun s ρ hg _=>sAlloc (R:=ag) (z:=(ApiEntity.mk 0 [] [] [] [] false [] 0 0)) 4 Tryz.zeroValue49 (fun _=>⟨_,⟨_,_,rfl,rfl,⟨_,_,rfl,rfl,⟨_,_,rfl,rfl,⟨_,_,rfl,rfl,⟨_,_,rfl,rfl,⟨_,_,rfl,rfl,⟨_,_,rfl,⟨_,rfl,none,0,rfl,⟨Nat.le_refl _,fun _=>rfl⟩,.inl rfl⟩,⟨_,_,rfl,rfl,⟨_,_,rfl,rfl,rfl⟩⟩⟩⟩⟩⟩⟩⟩⟩,rfl⟩) (congrArg some ((condF (hK.F 12 (by kernel_rfl)) _ _).trans (condF (hK.me) _ _))) (fun b=>by show([Own.box b3 av (BindWalkerRaw.mk v5 x4.file x4.method x4.many),Own.vec v5 aq x4.uses 47,Own.box b6 al x1,Own.box b7 af x2,(cond (S 12) (Own.box b ag x14) (Own.box b ag (ApiEntity.mk 0 [] [] [] [] false [] 0 0)))]:Ctx)=_;rw[hK.F 12 (by kernel_rfl)];rfl) s ρ hg⟩) ?_
  refine gqS (fun S hK=>SStep.as (dk (R:=ag) (R':=ag) (a:=(ApiEntity.mk 0 [] [] [] [] false [] 0 0)) (y:=x14) 4 Tryz.sizeOf49 (Upd.refl _) (congrArg some ((condF (hK.me) _ _).trans (condT (hK.T 11 (by kernel_rfl)) _ _)))) (by show(_:Ctx)=[Own.box b3 av (BindWalkerRaw.mk v5 x4.file x4.method x4.many),Own.vec v5 aq x4.uses 47,Own.box b6 al x1,Own.box b7 af x2,Own.box (B 11) ag x14];rfl)) ?_
  refine gq1 (fun S hK=>dz) ?_
  exact⟨x15,x14,(B 11),h,atOk⟩
 refine W_r (kUn (ak fld64_7) ?_)
 refine kUn (au 3 ty3 subApiNode_TypeAt) ?_
 refine kIn rfl rfl rfl (kMv rfl ?_)
 rcases bg h with⟨hc8,h⟩|⟨hc8,h⟩
 ·refine kSkF rfl aa hc8 (kSkF rfl aa hc8 (kSkF rfl aa hc8 (kSkF rfl aa hc8 (kPt rfl hc8 rfl ?_))))
  exact⟨true,h,atOk⟩
 refine kGd rfl aa hc8 (gh (R:=a7) (ls:=([([105,110,116]:List UInt8),([98,111,111,108,101,97,110]:List UInt8),([118,111,105,100]:List UInt8)]:List (List UInt8))) el22 (Nat.le_of_ble_eq_true rfl) ⟨rfl,rfl⟩ ⟨rfl,rfl,rfl,trivial⟩) ?_
 refine kGd rfl aa hc8 (ak pz) ?_
 refine kGd rfl aa hc8 (au 3 ty9 d8) ?_
 obtain⟨x9,hx9,h⟩:=aj h
 refine kGd rfl aa hc8 (c5 (iv ([([105,110,116]:List UInt8),([98,111,111,108,101,97,110]:List UInt8),([118,111,105,100]:List UInt8)]:List (List UInt8)) x2.Type_ _ hx9)) ?_
 refine kPf rfl hc8 rfl ?_
 exact⟨x9,h,atOk⟩
theorem nt {σ:Type} (yld:σ->(Int × ApiEntity)->Option (Bool × σ)) (Y:YI σ) (l:Nat) (hY:YOK Tryz.prog Y l (fun a=>[Pr.i64 a.1,(ag).val a.2]) yld) (x2:List ApiEntity) (x3:σ) (b1:Nat) (v4:List Nat) (r:(List ApiEntity) × (σ)) (h:f3 yld x2 x3=some r):FnC Tryz.prog 154 ([]++[Pr.yl l]++[ao b1 0]) ([Own.box b1 (bl ag) x2]++[Own.grp Y x3 v4]) (fun _ C'=>∃w9,C'=[Own.box b1 (bl ag) r.1]++[Own.grp Y r.2 w9]):=by
 refine fq (rs:=[]) Tryz.func154 rfl Tryz.ntmps154 ⟨by decide,Tryz.results154⟩ (by decide) (fun s0=> ?_)
 unfold f3 at h
 refine W_rs (kUn (au 0 ty38 (Sub.refl _)) ?_)
 refine kUn (gy rfl Tryz.underlying38) ?_
 refine kIn rfl rfl rfl (kAs rfl (a5 ?_))
 obtain⟨z2l,hz2,h⟩:=aj h
 obtain⟨n2,hN2⟩:=bt hz2
 refine cv 0 (fun e C=>∃(x6:σ),∃(v7:List Nat),fe yld x2 x6=some r/\At [] [Own.box b1 (bl ag) x2,Own.grp Y x6 v7] e C) ?_ ?_
 ·rintro e C ⟨x6,v7,h,hat1⟩
  unfold fe at h
  obtain rfl:=osj h
  exact⟨.inr rfl,_,(Pick.trans hat1.2 (Pick.refl _)),_,aa,v7,rfl⟩
 refine da (fun m e C=>∃(x5:Int),∃(x6:σ),∃(v7:List Nat),dn (fun s=>dr yld x2 s.1 s.2) m (x5,x6)=some z2l/\At [(0,Pr.yl l),(1,ao b1 0),(3,Pr.i64 x5)] [Own.box b1 (bl ag) x2,Own.grp Y x6 v7] e C) n2 ⟨w64 ((x2.length:Int) - 1),x3,v4,hN2,⟨⟨aa,aa,aa,trivial⟩,Pick.refl _⟩⟩ ?_
 rintro m e C ⟨x5,x6,v7,hN2,hatl2⟩
 refine W_at hatl2 ?_
 obtain⟨m2,w2l,rfl,h2l,hn2,ho2⟩:=bk hN2
 replace h2l:dr yld x2 x5 x6=some w2l:=h2l
 unfold dr at h2l
 refine ba (W_rs (kMv rfl (kIn rfl rfl rfl ?_)))
 refine a8 h2l rfl (fun _ h2l=> ?_) (fun _ h2l=> ?_)
 ·refine az (ba (a5 (W_rs (kUn (hMv (out:=Pr.yl l) rfl) (kMv rfl (kUn (au 0 ty38 (Sub.refl _)) ?_))))))
  refine kMv rfl ?_
  obtain⟨x12,hx12,h2l⟩:=aj h2l
  refine kUn (dh Tryz.underlying38 Tryz.sizeOf49 hx12) ?_
  refine kUn (cl ty49) ?_
  obtain⟨⟨x13,x14⟩,hx13,h2l⟩:=aj h2l
  refine rYield 1 (a:=(x5,x12)) hY hx13 (fun v15=> ?_)
  refine kNo rfl ?_
  refine a8 h2l rfl (fun _ h2l=> ?_) (fun _ h2l=> ?_)
  ·obtain rfl:=ho2 _ (Option.some.inj h2l).symm
   replace h:some (x2,x14)=some r:=h
   obtain rfl:=osj h
   exact bh ⟨.inl rfl,_,Pick.of [1,0] rfl,_,aa,v15,rfl⟩
  refine az (W_r (kMv rfl (kIn rfl rfl rfl (kAs rfl ?_))))
  exact⟨m2,Nat.lt_succ_self _,w64 (x5 - 1),x14,v15,hn2 _ (Option.some.inj h2l).symm,⟨⟨aa,aa,aa,trivial⟩,Pick.of [1,0] rfl⟩⟩
 refine db ?_
 obtain rfl:=ho2 _ (Option.some.inj h2l).symm
 exact⟨x6,v7,h,atOk⟩
theorem ow (x1:List ApiEntity):FnC Tryz.prog 112 [ar ag x1] [] (fun q C'=>∃b2,q=jq 154 [] [ao b2 0]/\C'=[Own.box b2 (bl ag) x1]):=by
 refine fq (rs:=[2]) Tryz.func112 rfl Tryz.ntmps112 ⟨by decide,Tryz.results112⟩ (by decide) (fun s0=> ?_)
 refine W_rs ?_
 refine rBox (R:=bl ag) (a:=x1) rfl (fun b2=> ?_)
 refine kAs rfl (W_rs (kUn mc ?_))
 refine kUn (hAs (out:=jq 154 [] [ao b2 0]) rfl) ?_
 exact bh ⟨.inl rfl,_,Pick.refl _,_,aa,b2,rfl,rfl⟩
theorem pq (x1:BindScope) (x2:ApiEntity) (x3:Bool) (r:ApiEntity × Int) (h:lu x1 x2 x3=some r):FnP Tryz.prog 114 [(al).val x1,(ag).val x2,Pr.bool x3] (br [(ag).val r.1,Pr.i64 r.2]):=by
 refine c7 (rs:=[.cell 6 49,.tmp 7]) Tryz.func114 rfl Tryz.ntmps114 Tryz.results114 (by decide) (fun s0=> ?_)
 unfold lu at h
 refine W_rs ?_
 refine rBox (R:=al) (a:=x1) rfl (fun b4=> ?_)
 refine rBox (R:=ag) (a:=x2) rfl (fun b5=> ?_)
 refine bw kh fun b6=>kAs rfl (ba (a5 (W_rs (kMv rfl (kNo rfl (kAs rfl ?_))))))
 refine a8 h rfl (fun _ h=> ?_) (fun _ h=> ?_)
 ·refine W_rs (kUn (fu st49 rfl) ?_)
  refine ax 2 rfl rfl (Upd.refl _) rfl Tryz.sizeOf49 (kAs rfl ?_)
  obtain rfl:=osj h
  exact bh ⟨rfl,[(ag).val (ApiEntity.mk 0 [] [] [] [] false [] 0 0),Pr.i64 170],⟨yBox 2 ty49 aa,yT aa,trivial⟩,aa⟩
 refine bj (fun e C=>∃(x9:Bool),pr x2 x9=some r/\At [(4,ao b5 0),(6,ao b6 0),(12,Pr.bool x9)] [Own.box b4 al x1,Own.box b5 ag x2,Own.box b6 ag (ApiEntity.mk 0 [] [] [] [] false [] 0 0)] e C) ?_ ?_
 ·rintro e C ⟨x9,h,hat1⟩
  refine W_at hat1 ?_
  unfold pr at h
  refine a8 h rfl (fun _ h=> ?_) (fun _ h=> ?_)
  ·refine W_rs (kUn (fu st49 rfl) ?_)
   refine ax 2 rfl rfl (Upd.refl _) rfl Tryz.sizeOf49 (kAs rfl ?_)
   obtain rfl:=osj h
   exact bh ⟨rfl,[(ag).val (ApiEntity.mk 0 [] [] [] [] false [] 0 0),Pr.i64 171],⟨yBox 2 ty49 aa,yT aa,trivial⟩,aa⟩
  refine az (W_rs (kUn (au 1 ty49 (Sub.refl _)) ?_))
  refine ax 2 rfl rfl (Upd.refl _) rfl Tryz.sizeOf49 (kAs rfl ?_)
  obtain rfl:=osj h
  exact bh ⟨rfl,[(ag).val x2,Pr.i64 0],⟨yBox 2 ty49 aa,yT aa,trivial⟩,aa⟩
 refine W_r (kUn (ak fld66_2) ?_)
 refine kUn (au 0 ty4 rh) ?_
 refine kMv rfl ?_
 rcases bg h with⟨hc8,h⟩|⟨hc8,h⟩
 ·refine kGd rfl aa hc8 (ak fld49_5) ?_
  refine kGd rfl aa hc8 (au 1 ty4 ri) ?_
  refine kGd rfl aa hc8 (qNot rfl) (kPt rfl hc8 rfl (kAs rfl ?_))
  exact⟨!x2.Static,h,atOk⟩
 refine kSkT rfl aa hc8 (kSkT rfl aa hc8 (kSkT rfl aa hc8 (kPf rfl hc8 rfl (kAs rfl ?_))))
 exact⟨false,h,atOk⟩
theorem bind_Scope_name_ok (x1:BindScope) (x2:ApiNode) (r:ApiEntity × Int) (h:bind_Scope_name x1 x2=some r):FnP Tryz.prog 65 [(al).val x1,(af).val x2] (br [(ag).val r.1,Pr.i64 r.2]):=by
 refine c7 (n:=47) (rs:=[.cell 4 49,.cell 5 28]) Tryz.func65 rfl Tryz.ntmps65 Tryz.results65 (by decide) (fun s0=> ?_)
 unfold bind_Scope_name at h
 refine W_rs ?_
 refine rBox (R:=al) (a:=x1) rfl (fun b3=> ?_)
 refine rBox (R:=af) (a:=x2) rfl (fun b4=> ?_)
 refine rAlloc (R:=ag) (z:=(ApiEntity.mk 0 [] [] [] [] false [] 0 0)) Tryz.zeroValue49 (fun _=>⟨_,⟨_,_,rfl,rfl,⟨_,_,rfl,rfl,⟨_,_,rfl,rfl,⟨_,_,rfl,rfl,⟨_,_,rfl,rfl,⟨_,_,rfl,rfl,⟨_,_,rfl,⟨_,rfl,none,0,rfl,⟨Nat.le_refl _,fun _=>rfl⟩,.inl rfl⟩,⟨_,_,rfl,rfl,⟨_,_,rfl,rfl,rfl⟩⟩⟩⟩⟩⟩⟩⟩⟩,rfl⟩) (fun b5=> ?_)
 refine rAlloc (R:=Rp.int .i64) (z:=0) Tryz.zeroValue28 (fun _=>rfl) (fun b6=> ?_)
 refine W_rs2 ?_
 refine W_r ?_
 refine rq (out:=ao b3 3) (ak fld66_3) ?_
 refine rq (out:=ar ag x1.Seen) (au (R:=al) (a:=x1) (R':=bl ag) 0 ty38 subBindScope_Seen) ?_
 refine j1 [] (ow x1.Seen) (fun q C' hq=> ?_)
 obtain⟨b7,rfl,rfl⟩:=hq
 refine⟨rfl,?_⟩
 obtain⟨⟨x12,x15⟩,hx14,h⟩:=aj h
 refine W_rangeX [0] (fun _=> .ret) (fun(s:(Unit) ⊕ (ApiEntity)) C=>match s with| .inl s=>C=[Own.box b3 al x1,Own.box b4 af x2,Own.box b5 ag (ApiEntity.mk 0 [] [] [] [] false [] 0 0),Own.box b6 (Rp.int .i64) 0]| .inr s=>∃(b10:Nat),C=[Own.box b3 al x1,Own.box b4 af x2,Own.box b5 ag s,Own.box b6 (Rp.int .i64) 0,Own.box b10 ag s]) (encs:=(fun(a:Int × ApiEntity)=>[Pr.i64 a.1,(ag).val a.2])) (yld:=(fun(s:Unit) (a:Int × ApiEntity)=>oo x2 a.1 a.2)) (st0:=()) (stF:=x15) (Ccap':=[Own.box b7 (bl ag) x12]) (fun l Y L hY=>nt _ Y l hY x1.Seen (.inl ()) b7 L _ hx14) rfl (fun _=>rfl) ?_ ?_ (fun _ _ _ h=>h.1)
 ·rintro l _ ⟨x8,x9⟩ rr1 C T s0 rfl hy1
  replace hy1:oo x2 x8 x9=some rr1:=hy1
  unfold oo at hy1
  refine W_r ?_
  refine rAlloc (R:=ag) (z:=(ApiEntity.mk 0 [] [] [] [] false [] 0 0)) Tryz.zeroValue49 (fun _=>⟨_,⟨_,_,rfl,rfl,⟨_,_,rfl,rfl,⟨_,_,rfl,rfl,⟨_,_,rfl,rfl,⟨_,_,rfl,rfl,⟨_,_,rfl,rfl,⟨_,_,rfl,⟨_,rfl,none,0,rfl,⟨Nat.le_refl _,fun _=>rfl⟩,.inl rfl⟩,⟨_,_,rfl,rfl,⟨_,_,rfl,rfl,rfl⟩⟩⟩⟩⟩⟩⟩⟩⟩,rfl⟩) (fun b10=> ?_)
  refine rt (R:=ag) (R':=ag) (a:=(ApiEntity.mk 0 [] [] [] [] false [] 0 0)) (y:=x9) 4 Tryz.sizeOf49 (Upd.refl _) ?_
  refine⟨rfl,fun T s0=> ?_⟩
  refine W_pickK ?_
  refine a5 ?_
  refine W_rs ?_
  refine rq (out:=ao b10 2) (ak fld49_2) ?_
  refine rq (out:=bq x9.Name) (au (R:=ag) (a:=x9) (R':=a7) 4 ty9 gw) ?_
  refine rq (out:=ao b4 1) (ak ej) ?_
  refine rq (out:=bq x2.Text) (au (R:=af) (a:=x2) (R':=a7) 1 ty9 cd) ?_
  refine rq (out:=Pr.bool (x9.Name==x2.Text)) qStr ?_
  refine W_cond (b:=x9.Name==x2.Text) rfl (fun hc11=> ?_) (fun hc11=> ?_)
  ·replace hy1:=iteT hc11 hy1
   refine W_rs ?_
   refine rq (out:=(ag).val x9) (au (R:=ag) (a:=x9) (R':=ag) 4 ty49 (Sub.refl _)) ?_
   refine rt (R:=ag) (R':=ag) (a:=(ApiEntity.mk 0 [] [] [] [] false [] 0 0)) (y:=x9) 2 Tryz.sizeOf49 (Upd.refl _) ?_
   refine rt (R:=Rp.int .i64) (R':=Rp.int .i64) (a:=0) (y:=0) 3 Tryz.sizeOf28 (Upd.refl _) ?_
   obtain rfl:=Option.some.inj hy1
   exact bh ⟨_,Pick.refl _,.inr ⟨_,rfl,rfl,b10,rfl⟩⟩
  replace hy1:=iteF hc11 hy1
  refine az ?_
  obtain rfl:=Option.some.inj hy1
  exact⟨_,Pick.of [0,1,2,3] rfl,.inl ⟨rfl,_,rfl,rfl⟩⟩
 intro D C' hj
 cases x15 with
 |inl x13=>
  replace h:((kin_Field x1.Table x1.Class x2.Text).bind fun(x17,x18)=>(if x18=true then(lu x1 x17 true).bind fun(x21,x22)=>some (x21,x22)else(jm x1 x2.Text).bind fun(x23,x24)=>(mg x1 x23 x24).bind fun(x25,x26)=>oq x25 x26))=some r:=h
  obtain rfl:=hj
  intro T s0
  refine ba ?_
  refine W_rs ?_
  refine rq (out:=ao b3 0) (ak fld66_0) ?_
  refine rq (out:=ar ag x1.Table) (au (R:=al) (a:=x1) (R':=bl ag) 1 ty38 gl) ?_
  refine rq (out:=ao b3 1) (ak fld66_1) ?_
  refine rq (out:=bq x1.Class) (au (R:=al) (a:=x1) (R':=a7) 1 ty9 jd) ?_
  refine rq (out:=ao b4 1) (ak ej) ?_
  refine rq (out:=bq x2.Text) (au (R:=af) (a:=x2) (R':=a7) 2 ty9 cd) ?_
  obtain⟨⟨x17,x18⟩,hx17,h⟩:=aj h
  refine rq (out:=br [(ag).val x17,Pr.bool x18]) (c5 (kin_Field_ok x1.Table x1.Class x2.Text _ hx17)) ?_
  refine rq (out:=br [(ag).val x17,Pr.bool x18]) ef ?_
  refine rq (out:=(ag).val x17) aw ?_
  refine rq (out:=Pr.bool x18) aw ?_
  refine rAlloc (R:=ag) (z:=(ApiEntity.mk 0 [] [] [] [] false [] 0 0)) Tryz.zeroValue49 (fun _=>⟨_,⟨_,_,rfl,rfl,⟨_,_,rfl,rfl,⟨_,_,rfl,rfl,⟨_,_,rfl,rfl,⟨_,_,rfl,rfl,⟨_,_,rfl,rfl,⟨_,_,rfl,⟨_,rfl,none,0,rfl,⟨Nat.le_refl _,fun _=>rfl⟩,.inl rfl⟩,⟨_,_,rfl,rfl,⟨_,_,rfl,rfl,rfl⟩⟩⟩⟩⟩⟩⟩⟩⟩,rfl⟩) (fun b19=> ?_)
  refine rt (R:=ag) (R':=ag) (a:=(ApiEntity.mk 0 [] [] [] [] false [] 0 0)) (y:=x17) 5 Tryz.sizeOf49 (Upd.refl _) ?_
  refine rq (out:=Pr.bool x18) dz ?_
  refine W_rs ?_
  refine rq (out:=Pr.bool x18) ef ?_
  refine W_cond (b:=x18) rfl (fun hc20=> ?_) (fun hc20=> ?_)
  ·replace h:=iteT hc20 h
   refine W_rs ?_
   refine rq (out:=(al).val x1) (au (R:=al) (a:=x1) (R':=al) 1 ty66 (Sub.refl _)) ?_
   refine rq (out:=(ag).val x17) (au (R:=ag) (a:=x17) (R':=ag) 5 ty49 (Sub.refl _)) ?_
   obtain⟨⟨x21,x22⟩,hx21,h⟩:=aj h
   refine rq (out:=br [(ag).val x21,Pr.i64 x22]) (c5 (pq x1 x17 true _ hx21)) ?_
   refine rq (out:=(ag).val x21) aw ?_
   refine rq (out:=Pr.i64 x22) aw ?_
   refine rt (R:=ag) (R':=ag) (a:=(ApiEntity.mk 0 [] [] [] [] false [] 0 0)) (y:=x21) 3 Tryz.sizeOf49 (Upd.refl _) ?_
   refine rt (R:=Rp.int .i64) (R':=Rp.int .i64) (a:=0) (y:=x22) 4 Tryz.sizeOf28 (Upd.refl _) ?_
   obtain rfl:=Option.some.inj h
   exact bh ⟨rfl,[(ag).val x21,Pr.i64 x22],⟨yBox 3 ty49 aa,yBox 4 ty28 aa,trivial⟩,aa⟩
  replace h:=iteF hc20 h
  refine az ?_
  refine bj (fun e C=>∃(x25:ApiEntity),∃(x26:Int),oq x25 x26=some r/\At [(4,ao b5 0),(5,ao b6 0)] [Own.box b7 (bl ag) x12,Own.box b3 al x1,Own.box b4 af x2,Own.box b5 ag x25,Own.box b6 (Rp.int .i64) x26,Own.box b19 ag x17] e C) ?_ ?_
  ·rintro e C ⟨x25,x26,h,hat2⟩
   refine W_at hat2 ?_
   clear hat2
   unfold oq at h
   obtain rfl:=Option.some.inj h
   exact bh ⟨rfl,[(ag).val x25,Pr.i64 x26],⟨yBox 3 ty49 aa,yBox 4 ty28 aa,trivial⟩,aa⟩
  refine e7 10 hmx (by kernel_rfl) (by kernel_rfl) ?_
  refine qq (out:=(al).val x1) (au (R:=al) (a:=x1) (R':=al) 1 ty66 (Sub.refl _)) ?_
  refine qq (out:=(al).val x1) (au (R:=al) (a:=x1) (R':=al) 1 ty66 (Sub.refl _)) ?_
  refine qq (out:=ao b4 1) (ak ej) ?_
  refine qq (out:=bq x2.Text) (au (R:=af) (a:=x2) (R':=a7) 2 ty9 cd) ?_
  obtain⟨⟨x23,x24⟩,hx23,h⟩:=aj h
  refine qq (out:=br [(ag).val x23,Pr.bool x24]) (c5 (nh x1 x2.Text _ hx23)) ?_
  refine qq (out:=(ag).val x23) aw ?_
  refine qq (out:=Pr.bool x24) aw ?_
  obtain⟨⟨x25,x26⟩,hx25,h⟩:=aj h
  refine qq (out:=br [(ag).val x25,Pr.i64 x26]) (c5 (bind_Scope_own2_ok x1 x23 x24 _ hx25)) ?_
  refine qq (out:=(ag).val x25) aw ?_
  refine qq (out:=Pr.i64 x26) aw ?_
  refine rt (R:=ag) (R':=ag) (a:=(ApiEntity.mk 0 [] [] [] [] false [] 0 0)) (y:=x25) 3 Tryz.sizeOf49 (Upd.refl _) ?_
  refine rt (R:=Rp.int .i64) (R':=Rp.int .i64) (a:=0) (y:=x26) 4 Tryz.sizeOf28 (Upd.refl _) ?_
  exact⟨x25,x26,h,⟨⟨aa,aa,trivial⟩,Pick.refl _⟩⟩
 |inr x16=>
  replace h:(some (x16,0))=some r:=h
  obtain⟨b10,rfl⟩:=hj
  obtain rfl:=Option.some.inj h
  exact .inr ⟨rfl,⟨rfl,[(ag).val x16,Pr.i64 0],⟨yBox 3 ty49 aa,yBox 4 ty28 aa,trivial⟩,aa⟩⟩
theorem bind_Scope_call_ok (x1:BindScope) (x2:ApiNode) (r:ApiEntity × Int) (h:bind_Scope_call x1 x2=some r):FnP Tryz.prog 66 [(al).val x1,(af).val x2] (br [(ag).val r.1,Pr.i64 r.2]):=by
 refine c7 (rs:=[.cell 4 49,.tmp 5]) Tryz.func66 rfl Tryz.ntmps66 Tryz.results66 (by decide) (fun s0=> ?_)
 unfold bind_Scope_call at h
 refine W_rs ?_
 refine rBox (R:=al) (a:=x1) rfl (fun b3=> ?_)
 refine rBox (R:=af) (a:=x2) rfl (fun b4=> ?_)
 refine bw kh fun b5=>kAs rfl ?_
 refine bj (fun e C=>∃(x9:Int),∃(x8:ApiEntity),bind_Scope_call_j1 x9 x8=some r/\At [(4,ao b5 0),(5,Pr.i64 x9)] [Own.box b3 al x1,Own.box b4 af x2,Own.box b5 ag x8] e C) ?_ ?_
 ·rintro e C ⟨x9,x8,h,hat1⟩
  refine W_at hat1 ?_
  unfold bind_Scope_call_j1 at h
  obtain rfl:=osj h
  exact bh ⟨rfl,[(ag).val x8,Pr.i64 x9],⟨yBox 2 ty49 aa,yT aa,trivial⟩,aa⟩
 refine e7 13 hmx (by kernel_rfl) (by kernel_rfl) ?_
 refine lUn (au 0 ty66 (Sub.refl _)) ?_
 refine lUn (ak fld66_0) ?_
 refine lUn (au 0 ty38 gl) ?_
 refine lUn (ak fld66_1) ?_
 refine lUn (au 0 ty9 jd) ?_
 refine lUn (ak ej) ?_
 refine lUn (au 1 ty9 cd) ?_
 obtain⟨⟨x6,x7⟩,hx6,h⟩:=aj h
 refine lUn (c5 (kin_Method_ok x1.Table x1.Class x2.Text _ hx6)) ?_
 refine lUn aw ?_
 refine lUn aw ?_
 obtain⟨⟨x8,x9⟩,hx8,h⟩:=aj h
 refine lUn (c5 (pq x1 x6 x7 _ hx8)) ?_
 refine lUn aw ?_
 refine lUn aw ?_
 refine ax 2 rfl rfl (Upd.refl _) rfl Tryz.sizeOf49 (kAs rfl ?_)
 exact⟨x9,x8,h,atOk⟩
end Go.Proofs.YtcndghapmoaidaaGreatDoor
