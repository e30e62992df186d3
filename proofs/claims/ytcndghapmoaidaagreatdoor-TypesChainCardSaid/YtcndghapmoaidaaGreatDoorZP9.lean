/- The code comes to what these functions say (printed by wip/gen/gen.py). -/
import Derived.Test.YtcndghapmoaidaaGreatDoorZX
import Derived.Test.YtcndghapmoaidaaGreatDoorZP8
import Derived.Test.YtcndghapmoaidaaGreatDoorZT
set_option linter.unusedSimpArgs false
set_option linter.unusedVariables false
set_option linter.unusedSectionVars false
set_option linter.unusedSectionVars false
set_option maxRecDepth 100000
set_option maxHeartbeats 4000000
namespace Go.Proofs.YtcndghapmoaidaaGreatDoor
open Go Go.Cn
attribute [local irreducible] ec aq
theorem types_checker_with_ok (x1:TypesChecker) (x2:ApiNode) (r:TypesChecker) (h:pz x1 x2=some r):FnP Tryz.prog 98 [(al).val x1,(ab).val x2] ((al).val r):=by
 refine c4 (rs:=[.cell 4 138]) Tryz.func98 rfl Tryz.ntmps98 Tryz.results98 (by decide) (fun s0=> ?_)
 unfold pz at h
 refine W_rs ?_
 refine rBox (R:=al) (a:=x1) rfl (fun b3=> ?_)
 refine rBox (R:=ab) (a:=x2) rfl (fun b4=> ?_)
 refine bq al138 fun b5=> ?_
 refine bh (fun e C=>∃(x8:List ApiEntity),q8 x1 x8=some r/\At [(2,am b3 0),(4,am b5 0)] [Own.box b3 al ({x1 with Scope:={x1.Scope with Seen:=x8}}),Own.box b4 ab x2,Own.box b5 al (TypesChecker.mk (BindScope.mk [] [] false []) [] 0)] e C) ?_ ?_
 ·rintro e C ⟨x8,h,hat1⟩
  refine W_at hat1 ?_
  unfold q8 at h
  refine W_rs (kUn (ap 0 pq (Sub.refl _)) ?_)
  refine av 2 rfl rfl (Upd.refl _) rfl Tryz.sizeOf138 ?_
  obtain rfl:=osj h
  exact bc ⟨rfl,[(al).val ({x1 with Scope:={x1.Scope with Seen:=x8}})],⟨yBox 2 pq aa,trivial⟩,aa⟩
 obtain⟨x6,hx6,h⟩:=ah h
 obtain⟨x8,hx8,h⟩:=ah h
 refine W_drawA [0,1,3,7,0,16,0,64,240,496,1023,2047,4095,8191] [[],[],[Own.box b3 al x1],[],[],[Own.box b4 ab x2],[],[Own.box b4 ab x2],[],[],[],[],[],[]] hmx (by kernel_rfl) (by kernel_rfl) (by kernel_rfl) rfl ?_
 refine aq0 0 1 (out:=am b3 0) rfl (fun C9=>(ai rj)) ?_
 refine aq0 1 3 (out:=am b3 3) rfl (fun C9=>(ai fld66_3)) ?_
 refine aq1 2 7 0 (out:=aq af x1.Scope.Seen) rfl rfl (fun C9 i9 h9=>(ap (R:=al) (a:=x1) (R':=ba af) i9 ty38 (cw.trans subBindScope_Seen (Nat.le_of_ble_eq_true rfl)) (hi:=h9))) ?_
 refine aq0 4 23 (out:=am b4 1) rfl (fun C9=>(ai ef)) ?_
 refine aq1 5 55 1 (out:=bv x2.Text) rfl rfl (fun C9 i9 h9=>(ap (R:=ab) (a:=x2) (R':=a6) i9 ty9 bw (hi:=h9))) ?_
 refine aq0 6 119 (out:=am b4 2) rfl (fun C9=>(ai r4)) ?_
 refine aq1 7 247 1 (out:=bv x2.Type_) rfl rfl (fun C9 i9 h9=>(ap (R:=ab) (a:=x2) (R':=a6) i9 ty9 dz (hi:=h9))) ?_
 refine aq0 8 503 (out:=(af).val (ApiEntity.mk 4 [] x2.Text [] x2.Type_ false [] 0 0)) rfl (fun C9=>(fv st49 ⟨(ApiEntity.mk 4 [] [] [] [] false [] 0 0),⟨_,rfl,rfl,fun j fd hj hf=>by match j,hj with| 0,h=>exact absurd rfl h| 1,_=>cases hf;rfl| 2,_=>cases hf;rfl| 3,_=>cases hf;rfl| 4,_=>cases hf;rfl| 5,_=>cases hf;rfl| 6,_=>cases hf;rfl| 7,_=>cases hf;rfl| 8,_=>cases hf;rfl|_+9,_=>cases hf⟩,⟨(ApiEntity.mk 4 [] x2.Text [] [] false [] 0 0),⟨_,rfl,rfl,fun j fd hj hf=>by match j,hj with| 0,_=>cases hf;rfl| 1,_=>cases hf;rfl| 2,h=>exact absurd rfl h| 3,_=>cases hf;rfl| 4,_=>cases hf;rfl| 5,_=>cases hf;rfl| 6,_=>cases hf;rfl| 7,_=>cases hf;rfl| 8,_=>cases hf;rfl|_+9,_=>cases hf⟩,⟨(ApiEntity.mk 4 [] x2.Text [] x2.Type_ false [] 0 0),⟨_,rfl,rfl,fun j fd hj hf=>by match j,hj with| 0,_=>cases hf;rfl| 1,_=>cases hf;rfl| 2,_=>cases hf;rfl| 3,_=>cases hf;rfl| 4,h=>exact absurd rfl h| 5,_=>cases hf;rfl| 6,_=>cases hf;rfl| 7,_=>cases hf;rfl| 8,_=>cases hf;rfl|_+9,_=>cases hf⟩,rfl⟩⟩⟩)) ?_
 refine aq0 9 1015 (out:=aq af ([(ApiEntity.mk 4 [] x2.Text [] x2.Type_ false [] 0 0)]:List ApiEntity)) rfl (fun C9=>(cl (R:=af) (a:=(ApiEntity.mk 4 [] x2.Text [] x2.Type_ false [] 0 0)) el38 (Nat.le_of_ble_eq_true rfl))) ?_
 refine ae 3 1023 rfl (fun g9=> ?_)
 refine kg [] (slices_Clone_ok x1.Scope.Seen _ hx6) (fun q C' hq=> ?_)
 obtain⟨v7,rfl,rfl⟩:=hq
 refine kh _ [Own.box b4 ab x2,Own.box b4 ab x2] (pc 2 (pc 2 dm)) ?_
 refine ae 10 2047 rfl (fun g9=> ?_)
 refine ev 0 el38 hx8 (fun v9=> ?_)
 refine kh _ [] dm ?_
 refine aq0 11 4095 (out:=am b3 0) rfl (fun C9=>(ai rj)) ?_
 refine aq0 12 8191 (out:=am b3 3) rfl (fun C9=>(ai fld66_3)) ?_
 refine ae 13 16383 rfl (fun g9=> ?_)
 refine rStoreRel (Rb:=al) (R:=af) (a:=x1) 0 0 Tryz.sizeOf38 (Upd.trans updTypesChecker_Scope cw updBindScope_Seen) ?_
 refine kh .any [] dm ?_
 refine ar_end ?_
 exact⟨x8,h,atOk⟩
theorem pv (x1:List ApiEntity) (x2:(ApiEntity->Option Bool)) (r:Int) (h:ea x1 x2=some r):FnP Tryz.prog 152 [aq af x1,c3 Tryz.prog (l8 x2)] (Pr.i64 r):=by
 refine cu (rs:=[4]) Tryz.func152 rfl Tryz.ntmps152 ⟨by decide,Tryz.results152⟩ (by decide) (fun s0=> ?_)
 unfold ea at h
 refine W_rs (kAs rfl (a8 (W_rs (kMvL rfl (kUn (iz rfl Tryz.underlying38) ?_)))))
 refine kMv rfl (az ?_)
 obtain⟨z2l,hz2,h⟩:=ah h
 obtain⟨n2,hN2⟩:=bp hz2
 refine cq 0 (fun e C=>dn=some r/\At [] [] e C) ?_ ?_
 ·rintro e C ⟨h,hat1⟩
  refine W_at hat1 ?_
  unfold dn at h
  refine W_rs (kAs rfl ?_)
  obtain rfl:=osj h
  exact bc ⟨rfl,aa⟩
 refine c8 (fun m e C=>∃(x3:Int),dj (fun s=>co x1 x2 s) m x3=some z2l/\At [(0,aq af x1),(1,c3 Tryz.prog (l8 x2)),(7,Pr.i64 (x1.length:Int)),(8,Pr.i64 x3)] [] e C) n2 ⟨0,hN2,⟨⟨aa,aa,aa,aa,trivial⟩,Pick.refl _⟩⟩ ?_
 rintro m e C ⟨x3,hN2,hatl2⟩
 refine W_at hatl2 ?_
 obtain⟨m2,w2l,rfl,h2l,hn2,ho2⟩:=bj hN2
 replace h2l:co x1 x2 x3=some w2l:=h2l
 unfold co at h2l
 refine W_rs (kIn rfl rfl rfl (a8 ?_))
 refine a5 h2l rfl (fun _ h2l=> ?_) (fun _ h2l=> ?_)
 ·refine ax (a8 (az (W_rs (kMv rfl (kAs rfl (W_rs (kUn (hMv (out:=c3 Tryz.prog (l8 x2)) rfl) (kMvL rfl (kMv rfl ?_)))))))))
  obtain⟨x6,hx6,h2l⟩:=ah h2l
  refine kUn (dg Tryz.underlying38 Tryz.sizeOf49 hx6) ?_
  refine kUn (cf ty49) ?_
  obtain⟨x7,hx7,h2l⟩:=ah h2l
  refine kUn (qCallP (spec:=l8 x2) ⟨_,_,rfl,rfl,hx7⟩) ?_
  refine a5 h2l rfl (fun _ h2l=> ?_) (fun _ h2l=> ?_)
  ·refine W_rs (kMv rfl (kAs rfl ?_))
   obtain rfl:=ho2 _ (Option.some.inj h2l).symm
   replace h:some x3=some r:=h
   obtain rfl:=osj h
   exact bc ⟨rfl,aa⟩
  refine ax (W_r (kIn rfl rfl rfl (kMv rfl ?_)))
  exact⟨m2,Nat.lt_succ_self _,w64 (x3+1),hn2 _ (Option.some.inj h2l).symm,atOk⟩
 refine c6 ?_
 obtain rfl:=ho2 _ (Option.some.inj h2l).symm
 exact⟨h,atOk⟩
theorem nv (x1:List ApiEntity) (x2:(ApiEntity->Option Bool)) (r:Bool) (h:dp x1 x2=some r):FnP Tryz.prog 107 [aq af x1,c3 Tryz.prog (l8 x2)] (Pr.bool r):=by
 refine cu (rs:=[4]) Tryz.func107 rfl Tryz.ntmps107 ⟨by decide,Tryz.results107⟩ (by decide) (fun s0=> ?_)
 unfold dp at h
 refine W_rs (kAs rfl (W_rs (kMvL rfl (kUn (hMv (out:=c3 Tryz.prog (l8 x2)) rfl) (cm h (pv x1 x2) rfl fun x3 _ h=>kIn rfl rfl rfl (kAs rfl ?_))))))
 obtain rfl:=osj h
 exact bc ⟨rfl,aa⟩
theorem types_class_1_ok (x1:ApiEntity) (x2:List UInt8) (r:Bool) (h:n0 x1 x2=some r):FnP Tryz.prog 108 [(af).val x1,ec a6 x2] (Pr.bool r):=by
 refine cu (rs:=[3]) Tryz.func108 rfl Tryz.ntmps108 ⟨by decide,Tryz.results108⟩ (by decide) (fun s0=> ?_)
 unfold n0 at h
 refine W_rs ?_
 refine rBox (R:=af) (a:=x1) rfl (fun b3=> ?_)
 refine kAs rfl ?_
 refine bh (fun e C=>∃(x5:Bool),oz x5=some r/\At [(3,Pr.bool x5)] [Own.box b3 af x1] e C) ?_ ?_
 ·rintro e C ⟨x5,h,hat1⟩
  refine W_at hat1 ?_
  unfold oz at h
  obtain rfl:=osj h
  exact bc ⟨rfl,aa⟩
 refine W_r (kUn (ai pr) ?_)
 refine kUn (ap 0 ty3 da) ?_
 refine kIn rfl rfl rfl (kMv rfl ?_)
 rcases bo h with⟨hc4,h⟩|⟨hc4,h⟩
 ·refine kGd rfl aa hc4 (ai j7) ?_
  refine kGd rfl aa hc4 (ap 0 ty9 dh) ?_
  refine kGd rfl aa hc4 (cf ty9) ?_
  refine kGd rfl aa hc4 (qStr rfl rfl rfl) (kPt rfl hc4 rfl (kAs rfl ?_))
  exact⟨x1.Id==x2,h,atOk⟩
 refine kSkT rfl aa hc4 (kSkT rfl aa hc4 (kSkT rfl aa hc4 (kSkT rfl aa hc4 (kPf rfl hc4 rfl (kAs rfl ?_)))))
 exact⟨false,h,atOk⟩
theorem types_class_ok (x1:List ApiEntity) (x2:List UInt8) (r:Bool) (h:types_class x1 x2=some r):FnP Tryz.prog 59 [aq af x1,bv x2] (Pr.bool r):=by
 refine cu (rs:=[4]) Tryz.func59 rfl Tryz.ntmps59 ⟨by decide,Tryz.results59⟩ (by decide) (fun s0=> ?_)
 unfold types_class at h
 refine W_rs ?_
 refine rBox (R:=a6) (a:=x2) rfl (fun b3=> ?_)
 refine kAs rfl (W_rs (kMvL rfl ?_))
 refine rRelB 0 [3] ?_ rfl ⟨rfl,trivial⟩
 refine kUn mz ?_
 obtain⟨x4,hx4,h⟩:=ah h
 refine kUn (qCall' (nv x1 (fun a0=>n0 a0 x2) _ hx4) ⟨aa,(clo_pfn en108 (fun _ _ hs=>by obtain⟨a0,r,rfl,rfl,hr⟩:=hs;exact types_class_1_ok a0 x2 r hr)),trivial⟩) ?_
 refine kAs rfl ?_
 obtain rfl:=osj h
 exact bc ⟨rfl,aa⟩
theorem fm (x1:List ApiEntity) (x2 x3:List UInt8) (r:Bool) (h:gw x1 x2 x3=some r):FnP Tryz.prog 28 [aq af x1,bv x2,bv x3] (Pr.bool r):=by
 refine cu (rs:=[6]) Tryz.func28 rfl Tryz.ntmps28 ⟨by decide,Tryz.results28⟩ (by decide) (fun s0=> ?_)
 unfold gw at h
 refine W_rs (kAs rfl (W_rs (kMvL rfl (kMv rfl (cm h (types_class_ok x1 x3) rfl fun x4 _ h=>kAs rfl (a8 (az ?_)))))))
 refine bh (fun e C=>∃(x6:Bool),types_May_j3 x2 x3 x4 x1 x6=some r/\At [(0,aq af x1),(1,bv x2),(2,bv x3),(7,Pr.bool x4),(11,Pr.bool x6)] [] e C) ?_ ?_
 ·rintro e C ⟨x6,h,hat3⟩
  refine W_at hat3 ?_
  unfold types_May_j3 at h
  refine a5 h rfl (fun _ h=> ?_) (fun _ h=> ?_)
  ·refine W_rs (kAs rfl ?_)
   obtain rfl:=osj h
   exact bc ⟨rfl,aa⟩
  refine W_rs (kMv rfl (kMv rfl (kSt rfl rfl rfl (kAs rfl ?_))))
  refine a5 h rfl (fun _ h=> ?_) (fun _ h=> ?_)
  ·refine bh (fun e C=>∃(x12:Bool),ut x12=some r/\At [(6,Pr.bool x12)] [] e C) ?_ ?_
   ·rintro e C ⟨x12,h,hat1⟩
    refine W_at hat1 ?_
    unfold ut at h
    obtain rfl:=osj h
    exact bc ⟨rfl,aa⟩
   refine W_r (kMv rfl (kMv rfl ?_))
   rcases bo h with⟨hc9,h⟩|⟨hc9,h⟩
   ·refine kSkF rfl aa hc9 (kSkF rfl aa hc9 (kPt rfl hc9 rfl (kMv rfl ?_)))
    have hc11:true=true:=rfl
    refine kSkF rfl aa hc11 (kSkF rfl aa hc11 (kPt rfl hc11 rfl (kAs rfl ?_)))
    exact⟨true,h,atOk⟩
   refine kGd rfl aa hc9 (hMvA rfl) (kGd rfl aa hc9 (qStr rfl rfl rfl) (kPf rfl hc9 rfl (kMv rfl ?_)))
   rcases bo h with⟨hc10,h⟩|⟨hc10,h⟩
   ·refine kSkF rfl aa hc10 (kSkF rfl aa hc10 (kPt rfl hc10 rfl (kAs rfl ?_)))
    exact⟨true,h,atOk⟩
   refine kGd rfl aa hc10 (hMvA rfl) (kGd rfl aa hc10 (qStr rfl rfl rfl) (kPf rfl hc10 rfl (kAs rfl ?_)))
   exact⟨x3==([98,111,111,108,101,97,110]:List UInt8),h,atOk⟩
  refine W_rs (kMv rfl (kNo rfl (kAs rfl ?_)))
  refine a5 h rfl (fun _ h=> ?_) (fun _ h=> ?_)
  ·refine W_rs (kAs rfl ?_)
   obtain rfl:=osj h
   exact bc ⟨rfl,aa⟩
  refine W_rs (kMv rfl (kSt rfl rfl rfl (kAs rfl ?_)))
  refine a5 h rfl (fun _ h=> ?_) (fun _ h=> ?_)
  ·refine W_rs (kAs rfl ?_)
   obtain rfl:=osj h
   exact bc ⟨rfl,aa⟩
  refine ax ?_
  refine bh (fun e C=>∃(x18:Bool),types_May_j2 x18=some r/\At [(6,Pr.bool x18)] [] e C) ?_ ?_
  ·rintro e C ⟨x18,h,hat2⟩
   refine W_at hat2 ?_
   unfold types_May_j2 at h
   obtain rfl:=osj h
   exact bc ⟨rfl,aa⟩
  refine W_r (kMvL rfl (kMv rfl (cm h (types_class_ok x1 x2) rfl fun x15 _ h=>kMv rfl ?_)))
  rcases bo h with⟨hc16,h⟩|⟨hc16,h⟩
  ·refine kGd rfl aa hc16 (hMvL rfl) (kGd rfl aa hc16 (hMvA rfl) (kGd rfl aa hc16 (hMvA rfl) ?_))
   obtain⟨x17,hx17,h⟩:=ah h
   refine kGd rfl aa hc16 (ct (kin_Below_ok x1 x2 x3 _ hx17)) ?_
   refine kPt rfl hc16 rfl (kAs rfl ?_)
   exact⟨x17,h,atOk⟩
  refine kSkT rfl aa hc16 (kSkT rfl aa hc16 (kSkT rfl aa hc16 (kSkT rfl aa hc16 (kPf rfl hc16 rfl (kAs rfl ?_)))))
  exact⟨false,h,atOk⟩
 refine W_r (kMv rfl (kSt rfl rfl rfl (kMv rfl ?_)))
 rcases bo h with⟨hc5,h⟩|⟨hc5,h⟩
 ·refine kSkF rfl aa hc5 (kSkF rfl aa hc5 (kPt rfl hc5 rfl (kAs rfl ?_)))
  exact⟨true,h,atOk⟩
 refine kGd rfl aa hc5 (hMvA rfl) (kGd rfl aa hc5 (qStr rfl rfl rfl) (kPf rfl hc5 rfl (kAs rfl ?_)))
 exact⟨x2==([118,111,105,100]:List UInt8),h,atOk⟩
theorem bt (x1:TypesChecker) (x2:Bool) (x3 x4:Int) (r:PX TypesWrong Unit) (h:c9 x1 x2 x3 x4=some r):FnX Tryz.prog 171 [(al).val x1,Pr.bool x2,Pr.i64 x3,Pr.i64 x4] [] (fun q C'=>∃a9,r= .ok a9/\q=bk []/\C'=[]) (fun v=>∃m,r= .bad m/\v=gt m):=by
 refine gy (rs:=[]) Tryz.func171 rfl Tryz.ntmps171 ⟨by decide,Tryz.results171⟩ (by decide) (fun s0=> ?_)
 unfold c9 at h
 refine W_rs ?_
 refine rBox (R:=al) (a:=x1) rfl (fun b5=> ?_)
 refine W_rs (kMv rfl (kNo rfl ?_))
 refine a5 h rfl (fun _ h=> ?_) (fun _ h=> ?_)
 ·refine W_r (kMv rfl (kUn (ai fld138_2) ?_))
  refine kUn (ap 0 ty3 subTypesChecker_file) ?_
  refine kMv rfl (kUn (fv st30 ⟨(ApiMistake.mk x3 0 0),⟨_,rfl,rfl,fun j fd hj hf=>by match j,hj with| 0,h=>exact absurd rfl h| 1,_=>cases hf;rfl| 2,_=>cases hf;rfl|_+3,_=>cases hf⟩,⟨(ApiMistake.mk x3 x1.file 0),⟨_,rfl,rfl,fun j fd hj hf=>by match j,hj with| 0,_=>cases hf;rfl| 1,h=>exact absurd rfl h| 2,_=>cases hf;rfl|_+3,_=>cases hf⟩,⟨(ApiMistake.mk x3 x1.file x4),⟨_,rfl,rfl,fun j fd hj hf=>by match j,hj with| 0,_=>cases hf;rfl| 1,_=>cases hf;rfl| 2,h=>exact absurd rfl h|_+3,_=>cases hf⟩,rfl⟩⟩⟩) ?_)
  refine kUn (fv st103 ⟨(TypesWrong.mk (ApiMistake.mk x3 x1.file x4)),⟨_,rfl,rfl,fun j fd hj hf=>by match j,hj with| 0,h=>exact absurd rfl h|_+1,_=>cases hf⟩,rfl⟩) ?_
  refine kUn (qMkIfc Tryz.underlying103 rfl) ?_
  refine rPanic (p:=Pr.ifc 103 ((ik).val (TypesWrong.mk (ApiMistake.mk x3 x1.file x4)))) (Die:=fun v=>v=gt (TypesWrong.mk (ApiMistake.mk x3 x1.file x4))) (types_plain _) ?_ aa
  rintro _ rfl
  obtain rfl:=osj h
  exact .inr ⟨_,rfl,_,rfl,rfl⟩
 refine ax ?_
 obtain rfl:=osj h
 exact(.inl ⟨.inr rfl,_,Pick.of [] rfl,_,aa,_,rfl,rfl,rfl⟩)
theorem oc (x1 x2 x3:List UInt8) (r:Bool) (h:jv x1 x2 x3=some r):FnP Tryz.prog 63 [bv x1,ec a6 x2,ec a6 x3] (Pr.bool r):=by
 refine cu (rs:=[4]) Tryz.func63 rfl Tryz.ntmps63 ⟨by decide,Tryz.results63⟩ (by decide) (fun s0=> ?_)
 unfold jv at h
 refine W_rs (kAs rfl ?_)
 refine bh (fun e C=>∃(x5:Bool),kn x5=some r/\At [(4,Pr.bool x5)] [] e C) ?_ ?_
 ·rintro e C ⟨x5,h,hat1⟩
  refine W_at hat1 ?_
  unfold kn at h
  obtain rfl:=osj h
  exact bc ⟨rfl,aa⟩
 refine W_r (kUn (cf ty9) ?_)
 refine kMv rfl (kSt rfl rfl rfl (kMv rfl ?_))
 rcases bo h with⟨hc4,h⟩|⟨hc4,h⟩
 ·refine kGd rfl aa hc4 (cf ty9) ?_
  refine kGd rfl aa hc4 (hMvA rfl) (kGd rfl aa hc4 (qStr rfl rfl rfl) (kPt rfl hc4 rfl (kAs rfl ?_)))
  exact⟨x3==x1,h,atOk⟩
 refine kSkT rfl aa hc4 (kSkT rfl aa hc4 (kSkT rfl aa hc4 (kPf rfl hc4 rfl (kAs rfl ?_))))
 exact⟨false,h,atOk⟩
end Go.Proofs.YtcndghapmoaidaaGreatDoor
