/- The code comes to what these functions say (printed by wip/gen/gen.py). -/
import Derived.Test.YtcndghapmoaidaaGreatDoorZX
import Derived.Test.YtcndghapmoaidaaGreatDoorZP3
import Derived.Test.YtcndghapmoaidaaGreatDoorZT
set_option linter.unusedSimpArgs false
set_option linter.unusedVariables false
set_option linter.unusedSectionVars false
set_option linter.unusedSectionVars false
set_option maxRecDepth 100000
set_option maxHeartbeats 4000000
namespace Go.Proofs.YtcndghapmoaidaaGreatDoor
open Go Go.Cn
attribute [local irreducible] ec aq
theorem cmp_Or_int_ok (x1:List Int) (r:Int) (h:cmp_Or_int x1=some r):FnP Tryz.prog 40 [aq (Rp.int .i64) x1] (Pr.i64 r):=by
 refine cu (rs:=[2]) Tryz.func40 rfl Tryz.ntmps40 ⟨by decide,Tryz.results40⟩ (by decide) (fun s0=> ?_)
 unfold cmp_Or_int at h
 refine W_rs (kAs rfl (W_rs (kAs rfl (a8 (W_rs (kMvL rfl (kUn (iz rfl Tryz.underlying126) ?_)))))))
 refine kMv rfl (az ?_)
 obtain⟨z2l,hz2,h⟩:=ah h
 obtain⟨n2,hN2⟩:=bp hz2
 refine cq 0 (fun e C=>cmp_Or_int_k1=some r/\At [(3,Pr.i64 0)] [] e C) ?_ ?_
 ·rintro e C ⟨h,hat1⟩
  refine W_at hat1 ?_
  unfold cmp_Or_int_k1 at h
  refine W_rs (kMv rfl (kAs rfl ?_))
  obtain rfl:=osj h
  exact bc ⟨rfl,aa⟩
 refine c8 (fun m e C=>∃(x2:Int),dj (fun s=>cmp_Or_int_l2 x1 s) m x2=some z2l/\At [(3,Pr.i64 0),(6,aq (Rp.int .i64) x1),(7,Pr.i64 (x1.length:Int)),(8,Pr.i64 x2)] [] e C) n2 ⟨0,hN2,⟨⟨aa,aa,aa,aa,trivial⟩,Pick.refl _⟩⟩ ?_
 rintro m e C ⟨x2,hN2,hatl2⟩
 refine W_at hatl2 ?_
 obtain⟨m2,w2l,rfl,h2l,hn2,ho2⟩:=bj hN2
 replace h2l:cmp_Or_int_l2 x1 x2=some w2l:=h2l
 unfold cmp_Or_int_l2 at h2l
 refine W_rs (kIn rfl rfl rfl (a8 ?_))
 refine a5 h2l rfl (fun _ h2l=> ?_) (fun _ h2l=> ?_)
 ·refine ax (a8 (az (W_rs ?_)))
  obtain⟨x5,hx5,h2l⟩:=ah h2l
  refine kUn (dg Tryz.underlying126 Tryz.sizeOf3 hx5) ?_
  refine kUn (cf ty3) ?_
  refine kAs rfl (W_rs (kMv rfl (kMv rfl (kIn rfl rfl rfl ?_))))
  refine a5 h2l rfl (fun _ h2l=> ?_) (fun _ h2l=> ?_)
  ·refine W_rs (kMv rfl (kAs rfl ?_))
   obtain rfl:=ho2 _ (Option.some.inj h2l).symm
   replace h:some x5=some r:=h
   obtain rfl:=osj h
   exact bc ⟨rfl,aa⟩
  refine ax (W_r (kIn rfl rfl rfl (kMv rfl ?_)))
  exact⟨m2,Nat.lt_succ_self _,w64 (x2+1),hn2 _ (Option.some.inj h2l).symm,atOk⟩
 refine c6 ?_
 obtain rfl:=ho2 _ (Option.some.inj h2l).symm
 exact⟨h,atOk⟩
theorem cmp_isNaN_int_ok (x1:Int) (r:Bool) (h:cmp_isNaN_int x1=some r):FnP Tryz.prog 79 [Pr.i64 x1] (Pr.bool r):=by
 refine cu (rs:=[2]) Tryz.func79 rfl Tryz.ntmps79 ⟨by decide,Tryz.results79⟩ (by decide) (fun s0=> ?_)
 unfold cmp_isNaN_int at h
 refine W_rs (kAs rfl (W_rs (kMv rfl (kMv rfl (kIn rfl rfl rfl (kAs rfl ?_))))))
 obtain rfl:=osj h
 exact bc ⟨rfl,aa⟩
theorem cmp_Compare_int_ok (x1 x2 r:Int) (h:cmp_Compare_int x1 x2=some r):FnP Tryz.prog 41 [Pr.i64 x1,Pr.i64 x2] (Pr.i64 r):=by
 refine cu (rs:=[4]) Tryz.func41 rfl Tryz.ntmps41 ⟨by decide,Tryz.results41⟩ (by decide) (fun s0=> ?_)
 unfold cmp_Compare_int at h
 refine W_rs (kAs rfl (W_rs (kMv rfl (cm h (cmp_isNaN_int_ok x1) rfl fun x3 _ h=>kAs rfl (W_rs (kMv rfl (cm h (cmp_isNaN_int_ok x2) rfl fun x4 _ h=>kAs rfl (a8 (W_rs ?_)))))))))
 refine kMv rfl ?_
 refine a5 h rfl (fun _ h=> ?_) (fun _ h=> ?_)
 ·refine a8 (W_rs (kMv rfl ?_))
  refine a5 h rfl (fun _ h=> ?_) (fun _ h=> ?_)
  ·refine W_rs (kAs rfl ?_)
   obtain rfl:=osj h
   exact bc ⟨rfl,aa⟩
  refine ax (W_rs (kAs rfl ?_))
  obtain rfl:=osj h
  exact bc ⟨rfl,aa⟩
 refine ax (a8 (W_rs (kMv rfl ?_)))
 refine a5 h rfl (fun _ h=> ?_) (fun _ h=> ?_)
 ·refine W_rs (kAs rfl ?_)
  obtain rfl:=osj h
  exact bc ⟨rfl,aa⟩
 refine ax (a8 (W_rs (kMv rfl (kMv rfl (kIn rfl rfl rfl ?_)))))
 refine a5 h rfl (fun _ h=> ?_) (fun _ h=> ?_)
 ·refine W_rs (kAs rfl ?_)
  obtain rfl:=osj h
  exact bc ⟨rfl,aa⟩
 refine ax (a8 (W_rs (kMv rfl (kMv rfl (kIn rfl rfl rfl ?_)))))
 refine a5 h rfl (fun _ h=> ?_) (fun _ h=> ?_)
 ·refine W_rs (kAs rfl ?_)
  obtain rfl:=osj h
  exact bc ⟨rfl,aa⟩
 refine ax (W_rs (kAs rfl ?_))
 obtain rfl:=osj h
 exact bc ⟨rfl,aa⟩
theorem bind_Uses_2_ok (x1 x2:ApiUse) (r:Int) (h:bind_Uses_2 x1 x2=some r):FnP Tryz.prog 39 [(ao).val x1,(ao).val x2] (Pr.i64 r):=by
 refine cu (rs:=[4]) Tryz.func39 rfl Tryz.ntmps39 ⟨by decide,Tryz.results39⟩ (by decide) (fun s0=> ?_)
 unfold bind_Uses_2 at h
 refine W_rs ?_
 refine rBox (R:=ao) (a:=x1) rfl (fun b3=> ?_)
 refine rBox (R:=ao) (a:=x2) rfl (fun b4=> ?_)
 refine kAs rfl ?_
 refine bh (fun e C=>∃(x7:Int),bind_Uses_2_j1 x7=some r/\At [(4,Pr.i64 x7)] [Own.box b3 ao x1,Own.box b4 ao x2] e C) ?_ ?_
 ·rintro e C ⟨x7,h,hat1⟩
  refine W_at hat1 ?_
  unfold bind_Uses_2_j1 at h
  obtain rfl:=osj h
  exact bc ⟨rfl,aa⟩
 refine eo 13 hmx (by kernel_rfl) (by kernel_rfl) ?_
 refine lUn (ai fld47_0) ?_
 refine lUn (ap 0 ty3 subApiUse_File) ?_
 refine lUn (ai fld47_0) ?_
 refine lUn (ap 1 ty3 subApiUse_File) ?_
 obtain⟨x5,hx5,h⟩:=ah h
 refine lUn (ct (cmp_Compare_int_ok x1.File x2.File _ hx5)) ?_
 refine lUn (ai fld47_1) ?_
 refine lUn (ap 0 ty3 subApiUse_At) ?_
 refine lUn (ai fld47_1) ?_
 refine lUn (ap 1 ty3 subApiUse_At) ?_
 obtain⟨x6,hx6,h⟩:=ah h
 refine lUn (ct (cmp_Compare_int_ok x1.At x2.At _ hx6)) ?_
 refine lUn (ju (R:=Rp.int .i64) (ls:=([x5,x6]:List Int)) el126 (Nat.le_of_ble_eq_true rfl) ⟨rfl,rfl⟩ ⟨rfl,rfl,trivial⟩) ?_
 obtain⟨x7,hx7,h⟩:=ah h
 refine lUn (ct (cmp_Or_int_ok ([x5,x6]:List Int) _ hx7)) ?_
 refine lUn (hAsA rfl) ?_
 exact⟨x7,h,atOk⟩
theorem ref15_digits_ok (x1:Int) (r:(List UInt8)) (h:ref15_digits x1=some r):FnP Tryz.prog 137 [Pr.i64 x1] (bv r):=by
 refine cu (rs:=[2]) Tryz.func137 rfl Tryz.ntmps137 ⟨by decide,Tryz.results137⟩ (by decide) (fun s0=> ?_)
 unfold ref15_digits at h
 refine W_rs (kAs rfl (W_rs (kMv rfl (kUn (qMax (a:=x1) (b:=0)) ?_))))
 refine kAs rfl (W_rs (kAs rfl (az ?_)))
 obtain⟨n1,hN1⟩:=bp h
 refine c8 (fun m e C=>∃(x2:Int),∃(x3:List UInt8),dj (fun s=>qt s.1 s.2) m (x2,x3)=some r/\At [(0,Pr.i64 x2),(3,bv x3)] [] e C) n1 ⟨(if 0>x1 then 0 else x1),[],hN1,⟨⟨aa,aa,trivial⟩,Pick.refl _⟩⟩ ?_
 rintro m e C ⟨x2,x3,hN1,hatl1⟩
 refine W_at hatl1 ?_
 obtain⟨m1,w1l,rfl,h1l,hn1,ho1⟩:=bj hN1
 replace h1l:qt x2 x3=some w1l:=h1l
 unfold qt at h1l
 refine az (W_rs (kMv rfl (kUn (qRem (b:=10) (by decide)) ?_)))
 refine kIn rfl rfl rfl (kUn (qConv Tryz.underlying3 Tryz.underlying5) ?_)
 refine kUn (cl (R:=Rp.int .u8) (a:=IntKind.wrap .u8 (w64 (48+(Int.tmod x2 10)))) el195 (Nat.le_of_ble_eq_true rfl)) ?_
 refine kUn (qBytesStr (l:=([IntKind.wrap .u8 (w64 (48+(Int.tmod x2 10)))]:List Int)) Tryz.underlying195 Tryz.underlying9 Tryz.underlying5) ?_
 refine kMv rfl ?_
 obtain⟨x6,hx6,h1l⟩:=ah h1l
 refine kUn (qCat' hx6) ?_
 refine kAs rfl (W_rs (kMv rfl (kUn (qDiv (b:=10) (by decide)) ?_)))
 refine kAs rfl (W_rs (kMv rfl (kIn rfl rfl rfl ?_)))
 refine a5 h1l rfl (fun _ h1l=> ?_) (fun _ h1l=> ?_)
 ·refine W_rs (kMv rfl (kAs rfl ?_))
  have h:some x6=some r:=congrArg some (ho1 _ (Option.some.inj h1l).symm)
  obtain rfl:=osj h
  exact bc ⟨rfl,aa⟩
 refine ax ?_
 exact⟨m1,Nat.lt_succ_self _,w64 (Int.tdiv x2 10),x6,hn1 _ (Option.some.inj h1l).symm,atOk⟩
theorem ref15_Local_ok (x1:List UInt8) (x2:Int) (r:(List UInt8)) (h:ref15_Local x1 x2=some r):FnP Tryz.prog 83 [bv x1,Pr.i64 x2] (bv r):=by
 refine cu (rs:=[4]) Tryz.func83 rfl Tryz.ntmps83 ⟨by decide,Tryz.results83⟩ (by decide) (fun s0=> ?_)
 unfold ref15_Local at h
 refine W_rs (kAs rfl (W_rs (kMv rfl ?_)))
 obtain⟨x3,hx3,h⟩:=ah h
 refine kUn (qCat' hx3) ?_
 refine kMv rfl (cm h (ref15_digits_ok x2) rfl fun x4 _ h=> ?_)
 obtain⟨x5,hx5,h⟩:=ah h
 refine kUn (qCat' hx5) ?_
 refine kAs rfl ?_
 obtain rfl:=osj h
 exact bc ⟨rfl,aa⟩
theorem ref15_Method_ok (x1 x2:List UInt8) (r:(List UInt8)) (h:ref15_Method x1 x2=some r):FnP Tryz.prog 84 [bv x1,bv x2] (bv r):=by
 refine cu (rs:=[4]) Tryz.func84 rfl Tryz.ntmps84 ⟨by decide,Tryz.results84⟩ (by decide) (fun s0=> ?_)
 unfold ref15_Method at h
 refine W_rs (kAs rfl (W_rs (kMv rfl ?_)))
 obtain⟨x3,hx3,h⟩:=ah h
 refine kUn (qCat' hx3) ?_
 refine kMv rfl ?_
 obtain⟨x4,hx4,h⟩:=ah h
 refine kUn (qCat' hx4) ?_
 obtain⟨x5,hx5,h⟩:=ah h
 refine kUn (qCat' hx5) ?_
 refine kAs rfl ?_
 obtain rfl:=osj h
 exact bc ⟨rfl,aa⟩
theorem ref15_Field_ok (x1 x2:List UInt8) (r:(List UInt8)) (h:ref15_Field x1 x2=some r):FnP Tryz.prog 85 [bv x1,bv x2] (bv r):=by
 refine cu (rs:=[4]) Tryz.func85 rfl Tryz.ntmps85 ⟨by decide,Tryz.results85⟩ (by decide) (fun s0=> ?_)
 unfold ref15_Field at h
 refine W_rs (kAs rfl (W_rs (kMv rfl ?_)))
 obtain⟨x3,hx3,h⟩:=ah h
 refine kUn (qCat' hx3) ?_
 refine kMv rfl ?_
 obtain⟨x4,hx4,h⟩:=ah h
 refine kUn (qCat' hx4) ?_
 refine kAs rfl ?_
 obtain rfl:=osj h
 exact bc ⟨rfl,aa⟩
def rec_ref11_All_spec (R:fy):Prop:=(∀(x1:ApiNode) (x2:Int) (r:(List ApiNode)),R x1 x2=some r->FnP Tryz.prog 86 [(ab).val x1,Pr.i64 x2] (aq ab r))
theorem F_ref11_All_step (R:fy) (ih:rec_ref11_All_spec R) (x1:ApiNode) (x2:Int) (r:(List ApiNode)) (h:F_ref11_All R x1 x2=some r):FnP Tryz.prog 86 [(ab).val x1,Pr.i64 x2] (aq ab r):=by
 refine cu (rs:=[4]) Tryz.func86 rfl Tryz.ntmps86 ⟨by decide,Tryz.results86⟩ (by decide) (fun s0=> ?_)
 unfold F_ref11_All at h
 refine W_rs ?_
 refine rBox (R:=ab) (a:=x1) rfl (fun b3=> ?_)
 refine kAs rfl (W_rs (kAs rfl ?_))
 refine W_nil [5] ab 64 (fun v4=> ?_) ⟨rfl,trivial⟩
 refine bh (fun e C=>∃(x11:List ApiNode),∃(v10:Value),ref11_All_j3 R x1 x2 x11=some r/\At [(1,Pr.i64 x2),(2,am b3 0),(5,Pr.is v10)] [Own.box b3 ab x1,Own.vec v10 ab x11 64] e C) ?_ ?_
 ·rintro e C ⟨x11,v10,h,hat3⟩
  refine W_at hat3 ?_
  unfold ref11_All_j3 at h
  refine a8 (W_rs (kAs rfl (az ?_)))
  obtain⟨z2l,hz2,h⟩:=ah h
  obtain⟨n2,hN2⟩:=bp hz2
  refine cq 0 (fun e C=>∃(x14:List ApiNode),∃(v12:Value),ref11_All_k1 R x14=some r/\At [(5,Pr.is v12)] [Own.box b3 ab x1,Own.vec v12 ab x14 64] e C) ?_ ?_
  ·rintro e C ⟨x14,v12,h,hat1⟩
   refine W_at hat1 ?_
   unfold ref11_All_k1 at h
   refine W_rs (kMv rfl (kAs rfl ?_))
   refine W_rel 1 [4] ?_ rfl ⟨rfl,trivial⟩
   obtain rfl:=osj h
   exact bc ⟨rfl,aa⟩
  refine c8 (fun m e C=>∃(x13:Int),∃(x14:List ApiNode),∃(v12:Value),dj (fun s=>uv R x1 x2 s.1 s.2) m (x13,x14)=some z2l/\At [(1,Pr.i64 x2),(2,am b3 0),(5,Pr.is v12),(6,Pr.i64 x13)] [Own.box b3 ab x1,Own.vec v12 ab x14 64] e C) n2 ⟨0,x11,v10,hN2,⟨⟨aa,aa,aa,aa,trivial⟩,Pick.refl _⟩⟩ ?_
  rintro m e C ⟨x13,x14,v12,hN2,hatl2⟩
  refine W_at hatl2 ?_
  obtain⟨m2,w2l,rfl,h2l,hn2,ho2⟩:=bj hN2
  replace h2l:uv R x1 x2 x13 x14=some w2l:=h2l
  unfold uv at h2l
  refine a8 (W_rs (kMv rfl (kUn (ai ee) ?_)))
  refine kUn (ap 0 ty53 bl) ?_
  refine kUn (iz rfl Tryz.underlying53) ?_
  refine kIn rfl rfl rfl ?_
  refine a5 h2l rfl (fun _ h2l=> ?_) (fun _ h2l=> ?_)
  ·refine ax (a8 (az (W_r (kMv rfl (kUn (ai ee) ?_)))))
   refine kUn (ap 0 ty53 bl) ?_
   refine kMv rfl ?_
   obtain⟨x19,hx19,h2l⟩:=ah h2l
   refine kUn (dg Tryz.underlying53 Tryz.sizeOf64 hx19) ?_
   refine kUn (cf ty64) ?_
   refine kMv rfl (cm h2l (ih x19 x2) rfl fun x20 _ h2l=> ?_)
   obtain⟨x21,hx21,h2l⟩:=ah h2l
   refine ev 1 el53 hx21 (fun v22=> ?_)
   refine kAs rfl (W_r (kMv rfl (kIn rfl rfl rfl (kAs rfl ?_))))
   exact⟨m2,Nat.lt_succ_self _,w64 (x13+1),x21,v22,hn2 _ (Option.some.inj h2l).symm,atOk⟩
  refine c6 ?_
  obtain rfl:=ho2 _ (Option.some.inj h2l).symm
  exact⟨x14,v12,h,atOk⟩
 refine bh (fun e C=>∃(x6:Bool),ref11_All_j4 R x1 x2 x6=some r/\At [(1,Pr.i64 x2),(2,am b3 0),(5,Pr.is v4),(14,Pr.bool x6)] [Own.box b3 ab x1,Own.vec v4 ab [] 64] e C) ?_ ?_
 ·rintro e C ⟨x6,h,hat4⟩
  refine W_at hat4 ?_
  unfold ref11_All_j4 at h
  refine a5 h rfl (fun _ h=> ?_) (fun _ h=> ?_)
  ·refine W_r (kMv rfl (kUn (ap 0 ty64 (Sub.refl _)) ?_))
   refine kUn (cl (R:=ab) (a:=x1) el53 (Nat.le_of_ble_eq_true rfl)) ?_
   obtain⟨x8,hx8,h⟩:=ah h
   refine ev 1 el53 hx8 (fun v9=> ?_)
   refine kAs rfl ?_
   exact⟨x8,v9,h,atOk⟩
  refine ax ?_
  exact⟨[],v4,h,atOk⟩
 refine W_r (kMv rfl (kIn rfl rfl rfl (kMv rfl ?_)))
 rcases bo h with⟨hc5,h⟩|⟨hc5,h⟩
 ·refine kSkF rfl aa hc5 (kSkF rfl aa hc5 (kSkF rfl aa hc5 (kSkF rfl aa hc5 (kPt rfl hc5 rfl ?_))))
  exact⟨true,h,atOk⟩
 refine kGd rfl aa hc5 (ai dr) ?_
 refine kGd rfl aa hc5 (ap 0 ty3 bg) ?_
 refine kGd rfl aa hc5 (hMvA rfl) (kGd rfl aa hc5 (qInt rfl rfl rfl) (kPf rfl hc5 rfl ?_))
 exact⟨x1.Kind==x2,h,atOk⟩
theorem rec_ref11_All_ok :∀n,rec_ref11_All_spec (o9 n):=by
 intro n
 induction n with
 |zero=>exact(fun x1 x2 r h=>nomatch (show none=some r from h))
 |succ n ih=>exact(fun x1 x2 r h=>F_ref11_All_step (o9 n) ih x1 x2 r h)
theorem ref11_All_ok (x1:ApiNode) (x2:Int) (r:(List ApiNode)) (h:ref11_All x1 x2=some r):FnP Tryz.prog 86 [(ab).val x1,Pr.i64 x2] (aq ab r):=(rec_ref11_All_ok 1048576) x1 x2 r h
theorem ref15_member_ok (x1:List UInt8) (x2:Int) (x3:ApiNode) (r:(List ApiEntity)) (h:ref15_member x1 x2 x3=some r):FnP Tryz.prog 46 [bv x1,Pr.i64 x2,(ab).val x3] (aq af r):=by
 refine cu (rs:=[6]) Tryz.func46 rfl Tryz.ntmps46 ⟨by decide,Tryz.results46⟩ (by decide) (fun s0=> ?_)
 unfold ref15_member at h
 refine W_rs ?_
 refine rBox (R:=ab) (a:=x3) rfl (fun b4=> ?_)
 refine kAs rfl (W_rs (kUn (ai ef) ?_))
 refine kUn (ap 0 ty9 bw) ?_
 refine kMv rfl (kUn (ai r4) ?_)
 refine kUn (ap 0 ty9 dz) ?_
 refine kUn (ai fld64_3) ?_
 refine kUn (ap 0 ty2 subApiNode_N) ?_
 refine kIn rfl rfl rfl (kMv rfl (kUn (ai my) ?_))
 refine kUn (ap 0 ty3 ek) ?_
 refine kUn (fv stApiEntityRaw ⟨(ApiEntityRaw.mk 0 [] x3.Text [] [] false (.slice none 0 0) 0 0),⟨_,rfl,rfl,fun j fd hj hf=>by match j,hj with| 0,_=>cases hf;rfl| 1,_=>cases hf;rfl| 2,h=>exact absurd rfl h| 3,_=>cases hf;rfl| 4,_=>cases hf;rfl| 5,_=>cases hf;rfl| 6,_=>cases hf;rfl| 7,_=>cases hf;rfl| 8,_=>cases hf;rfl|_+9,_=>cases hf⟩,⟨(ApiEntityRaw.mk 0 [] x3.Text x1 [] false (.slice none 0 0) 0 0),⟨_,rfl,rfl,fun j fd hj hf=>by match j,hj with| 0,_=>cases hf;rfl| 1,_=>cases hf;rfl| 2,_=>cases hf;rfl| 3,h=>exact absurd rfl h| 4,_=>cases hf;rfl| 5,_=>cases hf;rfl| 6,_=>cases hf;rfl| 7,_=>cases hf;rfl| 8,_=>cases hf;rfl|_+9,_=>cases hf⟩,⟨(ApiEntityRaw.mk 0 [] x3.Text x1 x3.Type_ false (.slice none 0 0) 0 0),⟨_,rfl,rfl,fun j fd hj hf=>by match j,hj with| 0,_=>cases hf;rfl| 1,_=>cases hf;rfl| 2,_=>cases hf;rfl| 3,_=>cases hf;rfl| 4,h=>exact absurd rfl h| 5,_=>cases hf;rfl| 6,_=>cases hf;rfl| 7,_=>cases hf;rfl| 8,_=>cases hf;rfl|_+9,_=>cases hf⟩,⟨(ApiEntityRaw.mk 0 [] x3.Text x1 x3.Type_ (x3.N==1) (.slice none 0 0) 0 0),⟨_,rfl,rfl,fun j fd hj hf=>by match j,hj with| 0,_=>cases hf;rfl| 1,_=>cases hf;rfl| 2,_=>cases hf;rfl| 3,_=>cases hf;rfl| 4,_=>cases hf;rfl| 5,h=>exact absurd rfl h| 6,_=>cases hf;rfl| 7,_=>cases hf;rfl| 8,_=>cases hf;rfl|_+9,_=>cases hf⟩,⟨(ApiEntityRaw.mk 0 [] x3.Text x1 x3.Type_ (x3.N==1) (.slice none 0 0) x2 0),⟨_,rfl,rfl,fun j fd hj hf=>by match j,hj with| 0,_=>cases hf;rfl| 1,_=>cases hf;rfl| 2,_=>cases hf;rfl| 3,_=>cases hf;rfl| 4,_=>cases hf;rfl| 5,_=>cases hf;rfl| 6,_=>cases hf;rfl| 7,h=>exact absurd rfl h| 8,_=>cases hf;rfl|_+9,_=>cases hf⟩,⟨(ApiEntityRaw.mk 0 [] x3.Text x1 x3.Type_ (x3.N==1) (.slice none 0 0) x2 x3.At),⟨_,rfl,rfl,fun j fd hj hf=>by match j,hj with| 0,_=>cases hf;rfl| 1,_=>cases hf;rfl| 2,_=>cases hf;rfl| 3,_=>cases hf;rfl| 4,_=>cases hf;rfl| 5,_=>cases hf;rfl| 6,_=>cases hf;rfl| 7,_=>cases hf;rfl| 8,h=>exact absurd rfl h|_+9,_=>cases hf⟩,rfl⟩⟩⟩⟩⟩⟩) ?_
 refine bq al49 fun b5=>av 1 rfl rfl (Upd.refl _) rfl Tryz.sizeOf49 (a8 (W_rs (kUn (ai dr) ?_)))
 refine kUn (ap 0 ty3 bg) ?_
 refine kIn rfl rfl rfl ?_
 refine a5 h rfl (fun _ h=> ?_) (fun _ h=> ?_)
 ·refine W_rs (kUn (ai pr) ?_)
  refine av 1 rfl rfl r5 rfl Tryz.sizeOf3 ?_
  refine rCtx [Own.box b4 ab x3,Own.box b5 a7 (ApiEntityRaw.mk 2 [] x3.Text x1 x3.Type_ (x3.N==1) (.slice none 0 0) x2 x3.At)] ?_
  refine W_rs (kMv rfl (kUn (ai ef) ?_))
  refine kUn (ap 0 ty9 bw) ?_
  refine cm h (ref15_Field_ok x1 x3.Text) rfl fun x7 _ h=> ?_
  refine kUn (ai j7) ?_
  refine av 1 rfl rfl updApiEntityRaw_Id rfl Tryz.sizeOf9 ?_
  refine rCtx [Own.box b4 ab x3,Own.box b5 a7 (ApiEntityRaw.mk 2 x7 x3.Text x1 x3.Type_ (x3.N==1) (.slice none 0 0) x2 x3.At)] ?_
  refine W_rs (kUn (ap 1 ty49 (Sub.refl _)) ?_)
  refine rEnv 34 (q:=af.val (ApiEntity.mk 2 x7 x3.Text x1 x3.Type_ (x3.N==1) [] x2 x3.At)) (st_le fun _=>⟨fl,fl,fl,fl,fl,fl,fl_nil,fl,fl,trivial⟩) ?_
  refine kUn (cl (R:=af) (a:=(ApiEntity.mk 2 x7 x3.Text x1 x3.Type_ (x3.N==1) [] x2 x3.At)) el38 (Nat.le_of_ble_eq_true rfl)) ?_
  refine kAsL rfl ?_
  obtain rfl:=osj h
  exact bc ⟨rfl,aa⟩
 refine ax (W_rs (kUn (ai pr) ?_))
 refine av 1 rfl rfl r5 rfl Tryz.sizeOf3 ?_
 refine rCtx [Own.box b4 ab x3,Own.box b5 a7 (ApiEntityRaw.mk 3 [] x3.Text x1 x3.Type_ (x3.N==1) (.slice none 0 0) x2 x3.At)] ?_
 refine W_rs (kMv rfl (kUn (ai ef) ?_))
 refine kUn (ap 0 ty9 bw) ?_
 refine cm h (ref15_Method_ok x1 x3.Text) rfl fun x8 _ h=> ?_
 refine kUn (ai j7) ?_
 refine av 1 rfl rfl updApiEntityRaw_Id rfl Tryz.sizeOf9 ?_
 refine rCtx [Own.box b4 ab x3,Own.box b5 a7 (ApiEntityRaw.mk 3 x8 x3.Text x1 x3.Type_ (x3.N==1) (.slice none 0 0) x2 x3.At)] ?_
 refine W_rs (kAs rfl (W_rs (kUn (ap 0 ty64 (Sub.refl _)) ?_)))
 refine cm h (ref11_All_ok x3 0) rfl fun x9 _ h=>kAsL rfl (a8 (W_rs (kAs rfl (az ?_))))
 obtain⟨z5l,hz5,h⟩:=ah h
 obtain⟨n5,hN5⟩:=bp hz5
 refine cq 0 (fun e C=>∃(x12:List ApiEntity),∃(v10:Value),ref15_member_k4 x3 x8 x1 x2 x12=some r/\At [(5,am b4 0),(7,am b5 0),(8,Pr.is v10)] [Own.box b4 ab x3,Own.box b5 a7 (ApiEntityRaw.mk 3 x8 x3.Text x1 x3.Type_ (x3.N==1) (.slice none 0 0) x2 x3.At),Own.vec v10 af x12 49] e C) ?_ ?_
 ·rintro e C ⟨x12,v10,h,hat4⟩
  refine W_at hat4 ?_
  unfold ref15_member_k4 at h
  refine a8 (W_rs (kAs rfl (az ?_)))
  obtain⟨z2l,hz2,h⟩:=ah h
  obtain⟨n2,hN2⟩:=bp hz2
  refine cq 2 (fun e C=>∃(x29:List (List UInt8)),∃(v28:Value),ref15_member_k1 x8 x3 x1 x2 x12 x29=some r/\At [(7,am b5 0),(8,Pr.is v10)] [Own.box b4 ab x3,Own.box b5 a7 (ApiEntityRaw.mk 3 x8 x3.Text x1 x3.Type_ (x3.N==1) v28 x2 x3.At),Own.vec v10 af x12 49,Own.vec v28 a6 x29 9] e C) ?_ ?_
  ·rintro e C ⟨x29,v28,h,hat1⟩
   refine W_at hat1 ?_
   unfold ref15_member_k1 at h
   refine W_rs (kUn (ap 1 ty49 (Sub.refl _)) ?_)
   refine rRelS 3 105 [] (q:=af.val (ApiEntity.mk 3 x8 x3.Text x1 x3.Type_ (x3.N==1) x29 x2 x3.At)) (fun _ _ hl=>FLe.val ⟨fl,fl,fl,fl,fl,fl,(fl_lst hl),fl,fl,trivial⟩) ?_ rfl trivial
   refine rBuildV (R:=af) (ls:=([(ApiEntity.mk 3 x8 x3.Text x1 x3.Type_ (x3.N==1) x29 x2 x3.At)]:List ApiEntity)) el38 (Nat.le_of_ble_eq_true rfl) ⟨rfl,rfl⟩ ⟨rfl,trivial⟩ (fun v41=> ?_)
   refine kMv rfl ?_
   obtain⟨x42,hx42,h⟩:=ah h
   refine rRel 2 [8,107] ?_ rfl ⟨rfl,rfl,trivial⟩
   refine ev 2 el38 hx42 (fun v43=> ?_)
   refine kAs rfl ?_
   refine W_rel 2 [6] ?_ rfl ⟨rfl,trivial⟩
   obtain rfl:=osj h
   exact bc ⟨rfl,aa⟩
  refine W_vec a6 9 ?_
  refine c8 (fun m e C=>∃(x27:Int),∃(x29:List (List UInt8)),∃(v28:Value),dj (fun s=>ne x3 s.1 s.2) m (x27,x29)=some z2l/\At [(5,am b4 0),(7,am b5 0),(8,Pr.is v10),(12,Pr.i64 x27)] [Own.box b4 ab x3,Own.box b5 a7 (ApiEntityRaw.mk 3 x8 x3.Text x1 x3.Type_ (x3.N==1) v28 x2 x3.At),Own.vec v10 af x12 49,Own.vec v28 a6 x29 9] e C) n2 ⟨0,[],(.slice none 0 0),hN2,⟨⟨aa,aa,aa,aa,trivial⟩,Pick.refl _⟩⟩ ?_
  rintro m e C ⟨x27,x29,v28,hN2,hatl2⟩
  refine W_at hatl2 ?_
  obtain⟨m2,w2l,rfl,h2l,hn2,ho2⟩:=bj hN2
  replace h2l:ne x3 x27 x29=some w2l:=h2l
  unfold ne at h2l
  refine a8 (W_rs (kMv rfl (kUn (ai ee) ?_)))
  refine kUn (ap 0 ty53 bl) ?_
  refine kUn (iz rfl Tryz.underlying53) ?_
  refine kIn rfl rfl rfl ?_
  refine a5 h2l rfl (fun _ h2l=> ?_) (fun _ h2l=> ?_)
  ·refine ax ?_
   refine bh (fun e C=>∃(x40:List (List UInt8)),∃(v39:Value),qp x27 x40=some w2l/\At [(5,am b4 0),(7,am b5 0),(8,Pr.is v10),(12,Pr.i64 x27)] [Own.box b4 ab x3,Own.box b5 a7 (ApiEntityRaw.mk 3 x8 x3.Text x1 x3.Type_ (x3.N==1) v39 x2 x3.At),Own.vec v10 af x12 49,Own.vec v39 a6 x40 9] e C) ?_ ?_
   ·rintro e C ⟨x40,v39,h2l,hat3⟩
    refine W_at hat3 ?_
    unfold qp at h2l
    refine W_r (kMv rfl (kIn rfl rfl rfl (kAs rfl ?_)))
    exact⟨m2,Nat.lt_succ_self _,w64 (x27+1),x40,v39,hn2 _ (Option.some.inj h2l).symm,atOk⟩
   refine az (W_rs (kUn (ai ee) ?_))
   refine kUn (ap 0 ty53 bl) ?_
   refine kMv rfl ?_
   obtain⟨x34,hx34,h2l⟩:=ah h2l
   refine kUn (dg Tryz.underlying53 Tryz.sizeOf64 hx34) ?_
   refine kUn (d5 dr bg) ?_
   refine kUn (cf ty3) ?_
   refine kIn rfl rfl rfl ?_
   refine a5 h2l rfl (fun _ h2l=> ?_) (fun _ h2l=> ?_)
   ·refine eo 9 hmx (by kernel_rfl) (by kernel_rfl) ?_
    refine lUn (ai fld49_6) ?_
    refine lUn (qLoadRaw (R:=a7) (a:=(ApiEntityRaw.mk 3 x8 x3.Text x1 x3.Type_ (x3.N==1) v28 x2 x3.At)) 1 ty22 subApiEntityRaw_Params) ?_
    refine lUn (ai ee) ?_
    refine lUn (ap 0 ty53 bl) ?_
    refine lUn (hMvA rfl) ?_
    obtain⟨x36,hx36,h2l⟩:=ah h2l
    refine lUn (dg Tryz.underlying53 Tryz.sizeOf64 hx36) ?_
    refine lUn (d5 r4 dz) ?_
    refine lUn (cf ty9) ?_
    refine lUn (cl (R:=a6) (a:=x36.Type_) el22 (Nat.le_of_ble_eq_true rfl)) ?_
    obtain⟨x37,hx37,h2l⟩:=ah h2l
    refine ev 3 el22 hx37 (fun v38=> ?_)
    refine kUn (ai fld49_6) ?_
    refine rStoreRaw (R:=a7) (a:=(ApiEntityRaw.mk 3 x8 x3.Text x1 x3.Type_ (x3.N==1) v28 x2 x3.At)) 1 3 Tryz.sizeOf22 updApiEntityRaw_Params ?_
    refine rCtx [Own.box b4 ab x3,Own.box b5 a7 (ApiEntityRaw.mk 3 x8 x3.Text x1 x3.Type_ (x3.N==1) v38 x2 x3.At),Own.vec v10 af x12 49,Own.vec v38 a6 x37 9] ?_
    exact⟨x37,v38,h2l,atOk⟩
   refine ax ?_
   exact⟨x29,v28,h2l,atOk⟩
  refine c6 ?_
  obtain rfl:=ho2 _ (Option.some.inj h2l).symm
  exact⟨x29,v28,h,atOk⟩
 refine W_nil [8] af 49 (fun v44=> ?_) ⟨rfl,trivial⟩
 refine c8 (fun m e C=>∃(x11:Int),∃(x12:List ApiEntity),∃(v10:Value),dj (fun s=>nd x9 x8 x2 s.1 s.2) m (x11,x12)=some z5l/\At [(1,Pr.i64 x2),(5,am b4 0),(7,am b5 0),(8,Pr.is v10),(9,aq ab x9),(10,Pr.i64 x11)] [Own.box b4 ab x3,Own.box b5 a7 (ApiEntityRaw.mk 3 x8 x3.Text x1 x3.Type_ (x3.N==1) (.slice none 0 0) x2 x3.At),Own.vec v10 af x12 49] e C) n5 ⟨0,[],v44,hN5,⟨⟨aa,aa,aa,aa,aa,aa,trivial⟩,Pick.refl _⟩⟩ ?_
 rintro m e C ⟨x11,x12,v10,hN5,hatl5⟩
 refine W_at hatl5 ?_
 obtain⟨m5,w5l,rfl,h5l,hn5,ho5⟩:=bj hN5
 replace h5l:nd x9 x8 x2 x11 x12=some w5l:=h5l
 unfold nd at h5l
 refine a8 (W_rs (kMv rfl (kMvL rfl (kUn (iz rfl Tryz.underlying53) ?_))))
 refine kIn rfl rfl rfl ?_
 refine a5 h5l rfl (fun _ h5l=> ?_) (fun _ h5l=> ?_)
 ·refine ax ?_
  refine bh (fun e C=>∃(x26:List ApiEntity),∃(x17:ApiNode),∃(v25:Value),∃(b18:Nat),nf x11 x26 x17=some w5l/\At [(1,Pr.i64 x2),(5,am b4 0),(7,am b5 0),(8,Pr.is v25),(9,aq ab x9),(10,Pr.i64 x11)] [Own.box b4 ab x3,Own.box b5 a7 (ApiEntityRaw.mk 3 x8 x3.Text x1 x3.Type_ (x3.N==1) (.slice none 0 0) x2 x3.At),Own.vec v25 af x26 49,Own.box b18 ab x17] e C) ?_ ?_
  ·rintro e C ⟨x26,x17,v25,b18,h5l,hat6⟩
   refine W_at hat6 ?_
   unfold nf at h5l
   refine W_r (kMv rfl (kIn rfl rfl rfl (kAs rfl ?_)))
   exact⟨m5,Nat.lt_succ_self _,w64 (x11+1),x26,v25,hn5 _ (Option.some.inj h5l).symm,⟨⟨aa,aa,aa,aa,aa,aa,trivial⟩,Pick.of [0,1,2] rfl⟩⟩
  refine az (W_rs (kMvL rfl (kMv rfl ?_)))
  obtain⟨x17,hx17,h5l⟩:=ah h5l
  refine kUn (dg Tryz.underlying53 Tryz.sizeOf64 hx17) ?_
  refine kUn (cf ty64) ?_
  refine bq al64 fun b18=>av 3 rfl rfl (Upd.refl _) rfl Tryz.sizeOf64 ?_
  refine bh (fun e C=>∃(x20:Bool),jg x8 x12 x17 x2 x11 x20=some w5l/\At [(1,Pr.i64 x2),(5,am b4 0),(7,am b5 0),(8,Pr.is v10),(9,aq ab x9),(10,Pr.i64 x11),(11,am b18 0),(61,Pr.bool x20)] [Own.box b4 ab x3,Own.box b5 a7 (ApiEntityRaw.mk 3 x8 x3.Text x1 x3.Type_ (x3.N==1) (.slice none 0 0) x2 x3.At),Own.vec v10 af x12 49,Own.box b18 ab x17] e C) ?_ ?_
  ·rintro e C ⟨x20,h5l,hat7⟩
   refine W_at hat7 ?_
   unfold jg at h5l
   refine a5 h5l rfl (fun _ h5l=> ?_) (fun _ h5l=> ?_)
   ·refine eo 17 hmx (by kernel_rfl) (by kernel_rfl) ?_
    refine lUn (hMvA rfl) (lUn (ai j7) ?_)
    refine lUn (ap 1 ty9 p7) ?_
    refine lUn (hMvA rfl) (lUn (qLenV 2 rfl Tryz.underlying38) ?_)
    obtain⟨x22,hx22,h5l⟩:=ah h5l
    refine lUn (ct (ref15_Local_ok x8 (x12.length:Int) _ hx22)) ?_
    refine lUn (ai ef) ?_
    refine lUn (ap 3 ty9 bw) ?_
    refine lUn (ai j7) ?_
    refine lUn (ap 1 ty9 p7) ?_
    refine lUn (ai r4) ?_
    refine lUn (ap 3 ty9 dz) ?_
    refine lUn (hMvA rfl) (lUn (ai my) ?_)
    refine lUn (ap 3 ty3 ek) ?_
    refine lUn (fv st49 ⟨(ApiEntity.mk 4 [] [] [] [] false [] 0 0),⟨_,rfl,rfl,fun j fd hj hf=>by match j,hj with| 0,h=>exact absurd rfl h| 1,_=>cases hf;rfl| 2,_=>cases hf;rfl| 3,_=>cases hf;rfl| 4,_=>cases hf;rfl| 5,_=>cases hf;rfl| 6,_=>cases hf;rfl| 7,_=>cases hf;rfl| 8,_=>cases hf;rfl|_+9,_=>cases hf⟩,⟨(ApiEntity.mk 4 x22 [] [] [] false [] 0 0),⟨_,rfl,rfl,fun j fd hj hf=>by match j,hj with| 0,_=>cases hf;rfl| 1,h=>exact absurd rfl h| 2,_=>cases hf;rfl| 3,_=>cases hf;rfl| 4,_=>cases hf;rfl| 5,_=>cases hf;rfl| 6,_=>cases hf;rfl| 7,_=>cases hf;rfl| 8,_=>cases hf;rfl|_+9,_=>cases hf⟩,⟨(ApiEntity.mk 4 x22 x17.Text [] [] false [] 0 0),⟨_,rfl,rfl,fun j fd hj hf=>by match j,hj with| 0,_=>cases hf;rfl| 1,_=>cases hf;rfl| 2,h=>exact absurd rfl h| 3,_=>cases hf;rfl| 4,_=>cases hf;rfl| 5,_=>cases hf;rfl| 6,_=>cases hf;rfl| 7,_=>cases hf;rfl| 8,_=>cases hf;rfl|_+9,_=>cases hf⟩,⟨(ApiEntity.mk 4 x22 x17.Text x8 [] false [] 0 0),⟨_,rfl,rfl,fun j fd hj hf=>by match j,hj with| 0,_=>cases hf;rfl| 1,_=>cases hf;rfl| 2,_=>cases hf;rfl| 3,h=>exact absurd rfl h| 4,_=>cases hf;rfl| 5,_=>cases hf;rfl| 6,_=>cases hf;rfl| 7,_=>cases hf;rfl| 8,_=>cases hf;rfl|_+9,_=>cases hf⟩,⟨(ApiEntity.mk 4 x22 x17.Text x8 x17.Type_ false [] 0 0),⟨_,rfl,rfl,fun j fd hj hf=>by match j,hj with| 0,_=>cases hf;rfl| 1,_=>cases hf;rfl| 2,_=>cases hf;rfl| 3,_=>cases hf;rfl| 4,h=>exact absurd rfl h| 5,_=>cases hf;rfl| 6,_=>cases hf;rfl| 7,_=>cases hf;rfl| 8,_=>cases hf;rfl|_+9,_=>cases hf⟩,⟨(ApiEntity.mk 4 x22 x17.Text x8 x17.Type_ false [] x2 0),⟨_,rfl,rfl,fun j fd hj hf=>by match j,hj with| 0,_=>cases hf;rfl| 1,_=>cases hf;rfl| 2,_=>cases hf;rfl| 3,_=>cases hf;rfl| 4,_=>cases hf;rfl| 5,_=>cases hf;rfl| 6,_=>cases hf;rfl| 7,h=>exact absurd rfl h| 8,_=>cases hf;rfl|_+9,_=>cases hf⟩,⟨(ApiEntity.mk 4 x22 x17.Text x8 x17.Type_ false [] x2 x17.At),⟨_,rfl,rfl,fun j fd hj hf=>by match j,hj with| 0,_=>cases hf;rfl| 1,_=>cases hf;rfl| 2,_=>cases hf;rfl| 3,_=>cases hf;rfl| 4,_=>cases hf;rfl| 5,_=>cases hf;rfl| 6,_=>cases hf;rfl| 7,_=>cases hf;rfl| 8,h=>exact absurd rfl h|_+9,_=>cases hf⟩,rfl⟩⟩⟩⟩⟩⟩⟩) ?_
    refine lUn (cl (R:=af) (a:=(ApiEntity.mk 4 x22 x17.Text x8 x17.Type_ false [] x2 x17.At)) el38 (Nat.le_of_ble_eq_true rfl)) ?_
    obtain⟨x23,hx23,h5l⟩:=ah h5l
    refine ev 2 el38 hx23 (fun v24=> ?_)
    refine kAs rfl ?_
    exact⟨x23,x17,v24,b18,h5l,atOk⟩
   refine ax ?_
   exact⟨x12,x17,v10,b18,h5l,atOk⟩
  refine W_r (kUn (ai dr) ?_)
  refine kUn (ap 3 ty3 bg) ?_
  refine kIn rfl rfl rfl (kMv rfl ?_)
  rcases bo h5l with⟨hc19,h5l⟩|⟨hc19,h5l⟩
  ·refine kSkF rfl aa hc19 (kSkF rfl aa hc19 (kSkF rfl aa hc19 (kPt rfl hc19 rfl ?_)))
   exact⟨true,h5l,atOk⟩
  refine kGd rfl aa hc19 (ai dr) ?_
  refine kGd rfl aa hc19 (ap 3 ty3 bg) ?_
  refine kGd rfl aa hc19 (qInt rfl rfl rfl) (kPf rfl hc19 rfl ?_)
  exact⟨x17.Kind==6,h5l,atOk⟩
 refine c6 ?_
 obtain rfl:=ho5 _ (Option.some.inj h5l).symm
 exact⟨x12,v10,h,atOk⟩
theorem ref15_twice_ok (x1:List ApiEntity) (r:Int) (h:ref15_twice x1=some r):FnP Tryz.prog 47 [aq af x1] (Pr.i64 r):=by
 refine cu (rs:=[2]) Tryz.func47 rfl Tryz.ntmps47 ⟨by decide,Tryz.results47⟩ (by decide) (fun s0=> ?_)
 unfold ref15_twice at h
 refine W_rs (kAs rfl (a8 (W_rs (kAs rfl (az ?_)))))
 obtain⟨z2l,hz2,h⟩:=ah h
 obtain⟨n2,hN2⟩:=bp hz2
 refine cq 0 (fun e C=>ref15_twice_k1=some r/\At [] [] e C) ?_ ?_
 ·rintro e C ⟨h,hat1⟩
  refine W_at hat1 ?_
  unfold ref15_twice_k1 at h
  refine W_rs (kAs rfl ?_)
  obtain rfl:=osj h
  exact bc ⟨rfl,aa⟩
 refine c8 (fun m e C=>∃(x2:Int),dj (fun s=>sn x1 s) m x2=some z2l/\At [(0,aq af x1),(3,Pr.i64 x2)] [] e C) n2 ⟨0,hN2,⟨⟨aa,aa,trivial⟩,Pick.refl _⟩⟩ ?_
 rintro m e C ⟨x2,hN2,hatl2⟩
 refine W_at hatl2 ?_
 obtain⟨m2,w2l,rfl,h2l,hn2,ho2⟩:=bj hN2
 replace h2l:sn x1 x2=some w2l:=h2l
 unfold sn at h2l
 refine a8 (W_rs (kMv rfl (kMvL rfl (kUn (iz rfl Tryz.underlying38) ?_))))
 refine kIn rfl rfl rfl ?_
 refine a5 h2l rfl (fun _ h2l=> ?_) (fun _ h2l=> ?_)
 ·refine ax (a8 (az (W_rs (kAs rfl (az ?_)))))
  obtain⟨z4l,hz4,h2l⟩:=ah h2l
  obtain⟨n4,hN4⟩:=bp hz4
  refine cq 2 (fun e C=>ref15_twice_k3 x2=some w2l/\At [(0,aq af x1),(3,Pr.i64 x2)] [] e C) ?_ ?_
  ·rintro e C ⟨h2l,hat3⟩
   refine W_at hat3 ?_
   unfold ref15_twice_k3 at h2l
   refine W_r (kMv rfl (kIn rfl rfl rfl (kAs rfl ?_)))
   exact⟨m2,Nat.lt_succ_self _,w64 (x2+1),hn2 _ (Option.some.inj h2l).symm,atOk⟩
  refine c8 (fun m e C=>∃(x5:Int),dj (fun s=>sm x2 x1 s) m x5=some z4l/\At [(0,aq af x1),(3,Pr.i64 x2),(4,Pr.i64 x5)] [] e C) n4 ⟨0,hN4,⟨⟨aa,aa,aa,trivial⟩,Pick.refl _⟩⟩ ?_
  rintro m e C ⟨x5,hN4,hatl4⟩
  refine W_at hatl4 ?_
  obtain⟨m4,w4l,rfl,h4l,hn4,ho4⟩:=bj hN4
  replace h4l:sm x2 x1 x5=some w4l:=h4l
  unfold sm at h4l
  refine a8 (W_rs (kMv rfl (kMv rfl (kIn rfl rfl rfl ?_))))
  refine a5 h4l rfl (fun _ h4l=> ?_) (fun _ h4l=> ?_)
  ·refine ax (a8 (az ?_))
   refine bh (fun e C=>∃(x30:Bool),mc x2 x5 x30=some w4l/\At [(0,aq af x1),(3,Pr.i64 x2),(4,Pr.i64 x5),(60,Pr.bool x30)] [] e C) ?_ ?_
   ·rintro e C ⟨x30,h4l,hat5⟩
    refine W_at hat5 ?_
    unfold mc at h4l
    refine a5 h4l rfl (fun _ h4l=> ?_) (fun _ h4l=> ?_)
    ·refine W_rs (kMv rfl (kAs rfl ?_))
     obtain rfl:=ho4 _ (Option.some.inj h4l).symm
     replace h2l:some (.inr (.done x2))=some w2l:=h2l
     obtain rfl:=ho2 _ (Option.some.inj h2l).symm
     replace h:some x2=some r:=h
     obtain rfl:=osj h
     exact bc ⟨rfl,aa⟩
    refine ax (W_r (kMv rfl (kIn rfl rfl rfl (kAs rfl ?_))))
    exact⟨m4,Nat.lt_succ_self _,w64 (x5+1),hn4 _ (Option.some.inj h4l).symm,atOk⟩
   refine eo 45 hmx (by kernel_rfl) (by kernel_rfl) ?_
   refine lUn (hMvL rfl) (lUn (hMvA rfl) ?_)
   obtain⟨x8,hx8,h4l⟩:=ah h4l
   refine lUn (dg Tryz.underlying38 Tryz.sizeOf49 hx8) ?_
   refine lUn (d5 pr da) ?_
   refine lUn (cf ty3) ?_
   refine lUn (qInt rfl rfl rfl) (lUn (hMvA rfl) ?_)
   rcases bo h4l with⟨hc9,h4l⟩|⟨hc9,h4l⟩
   ·refine lGd rfl aa hc9 (hMvL rfl) (lGd rfl aa hc9 (hMvA rfl) ?_)
    obtain⟨x10,hx10,h4l⟩:=ah h4l
    refine lGd rfl aa hc9 (dg Tryz.underlying38 Tryz.sizeOf49 hx10) ?_
    refine lGd rfl aa hc9 (d5 pr da) ?_
    refine lGd rfl aa hc9 (cf ty3) ?_
    refine lGd rfl aa hc9 (hMvL rfl) (lGd rfl aa hc9 (hMvA rfl) ?_)
    obtain⟨x11,hx11,h4l⟩:=ah h4l
    refine lGd rfl aa hc9 (dg Tryz.underlying38 Tryz.sizeOf49 hx11) ?_
    refine lGd rfl aa hc9 (d5 pr da) ?_
    refine lGd rfl aa hc9 (cf ty3) ?_
    refine lGd rfl aa hc9 (qInt rfl rfl rfl) (lUn (hPt rfl hc9 rfl) (lUn (hMvA rfl) ?_))
    rcases bo h4l with⟨hc12,h4l⟩|⟨hc12,h4l⟩
    ·refine lGd rfl aa hc12 (hMvL rfl) (lGd rfl aa hc12 (hMvA rfl) ?_)
     obtain⟨x13,hx13,h4l⟩:=ah h4l
     refine lGd rfl aa hc12 (dg Tryz.underlying38 Tryz.sizeOf49 hx13) ?_
     refine lGd rfl aa hc12 (d5 fld49_3 lk) ?_
     refine lGd rfl aa hc12 (cf ty9) ?_
     refine lGd rfl aa hc12 (hMvL rfl) (lGd rfl aa hc12 (hMvA rfl) ?_)
     obtain⟨x14,hx14,h4l⟩:=ah h4l
     refine lGd rfl aa hc12 (dg Tryz.underlying38 Tryz.sizeOf49 hx14) ?_
     refine lGd rfl aa hc12 (d5 fld49_3 lk) ?_
     refine lGd rfl aa hc12 (cf ty9) ?_
     refine lGd rfl aa hc12 (qStr rfl rfl rfl) (lUn (hPt rfl hc12 rfl) (lUn (hMvA rfl) ?_))
     rcases bo h4l with⟨hc15,h4l⟩|⟨hc15,h4l⟩
     ·refine lGd rfl aa hc15 (hMvL rfl) (lGd rfl aa hc15 (hMvA rfl) ?_)
      obtain⟨x16,hx16,h4l⟩:=ah h4l
      refine lGd rfl aa hc15 (dg Tryz.underlying38 Tryz.sizeOf49 hx16) ?_
      refine lGd rfl aa hc15 (d5 fld49_2 g7) ?_
      refine lGd rfl aa hc15 (cf ty9) ?_
      refine lGd rfl aa hc15 (hMvL rfl) (lGd rfl aa hc15 (hMvA rfl) ?_)
      obtain⟨x17,hx17,h4l⟩:=ah h4l
      refine lGd rfl aa hc15 (dg Tryz.underlying38 Tryz.sizeOf49 hx17) ?_
      refine lGd rfl aa hc15 (d5 fld49_2 g7) ?_
      refine lGd rfl aa hc15 (cf ty9) ?_
      refine lGd rfl aa hc15 (qStr rfl rfl rfl) (lUn (hPt rfl hc15 rfl) ?_)
      exact⟨x16.Name==x17.Name,h4l,atOk⟩
     refine lSkT rfl aa hc15 (lSkT rfl aa hc15 (lSkT rfl aa hc15 (lSkT rfl aa hc15 (lSkT rfl aa hc15 (lSkT rfl aa hc15 (lSkT rfl aa hc15 (lSkT rfl aa hc15 (lSkT rfl aa hc15 (lSkT rfl aa hc15 (lSkT rfl aa hc15 (lUn (hPf rfl hc15 rfl) ?_)))))))))))
     exact⟨false,h4l,atOk⟩
    refine lSkT rfl aa hc12 (lSkT rfl aa hc12 (lSkT rfl aa hc12 (lSkT rfl aa hc12 (lSkT rfl aa hc12 (lSkT rfl aa hc12 (lSkT rfl aa hc12 (lSkT rfl aa hc12 (lSkT rfl aa hc12 (lSkT rfl aa hc12 (lSkT rfl aa hc12 (lUn (hPf rfl hc12 rfl) ?_)))))))))))
    refine lUn (hMvA rfl) ?_
    have hc18:false=false:=rfl
    refine lSkT rfl aa hc18 (lSkT rfl aa hc18 (lSkT rfl aa hc18 (lSkT rfl aa hc18 (lSkT rfl aa hc18 (lSkT rfl aa hc18 (lSkT rfl aa hc18 (lSkT rfl aa hc18 (lSkT rfl aa hc18 (lSkT rfl aa hc18 (lSkT rfl aa hc18 (lUn (hPf rfl hc18 rfl) ?_)))))))))))
    exact⟨false,h4l,atOk⟩
   refine lSkT rfl aa hc9 (lSkT rfl aa hc9 (lSkT rfl aa hc9 (lSkT rfl aa hc9 (lSkT rfl aa hc9 (lSkT rfl aa hc9 (lSkT rfl aa hc9 (lSkT rfl aa hc9 (lSkT rfl aa hc9 (lSkT rfl aa hc9 (lSkT rfl aa hc9 (lUn (hPf rfl hc9 rfl) ?_)))))))))))
   refine lUn (hMvA rfl) ?_
   have hc21:false=false:=rfl
   refine lSkT rfl aa hc21 (lSkT rfl aa hc21 (lSkT rfl aa hc21 (lSkT rfl aa hc21 (lSkT rfl aa hc21 (lSkT rfl aa hc21 (lSkT rfl aa hc21 (lSkT rfl aa hc21 (lSkT rfl aa hc21 (lSkT rfl aa hc21 (lSkT rfl aa hc21 (lUn (hPf rfl hc21 rfl) ?_)))))))))))
   refine lUn (hMvA rfl) ?_
   have hc27:false=false:=rfl
   refine lSkT rfl aa hc27 (lSkT rfl aa hc27 (lSkT rfl aa hc27 (lSkT rfl aa hc27 (lSkT rfl aa hc27 (lSkT rfl aa hc27 (lSkT rfl aa hc27 (lSkT rfl aa hc27 (lSkT rfl aa hc27 (lSkT rfl aa hc27 (lSkT rfl aa hc27 (lUn (hPf rfl hc27 rfl) ?_)))))))))))
   exact⟨false,h4l,atOk⟩
  refine c6 ?_
  obtain rfl:=ho4 _ (Option.some.inj h4l).symm
  exact⟨h2l,atOk⟩
 refine c6 ?_
 obtain rfl:=ho2 _ (Option.some.inj h2l).symm
 exact⟨h,atOk⟩
def rec_ref15_again_spec (R:c5):Prop:=(∀(x1:ApiNode) (x2:List (List UInt8)) (r:ApiNode × Bool × (List (List UInt8))),R x1 x2=some r->FnP Tryz.prog 48 [(ab).val x1,aq a6 x2] (bk [(ab).val r.1,Pr.bool r.2.1,aq a6 r.2.2]))
theorem F_ref15_again_step (R:c5) (ih:rec_ref15_again_spec R) (x1:ApiNode) (x2:List (List UInt8)) (r:ApiNode × Bool × (List (List UInt8))) (h:F_ref15_again R x1 x2=some r):FnP Tryz.prog 48 [(ab).val x1,aq a6 x2] (bk [(ab).val r.1,Pr.bool r.2.1,aq a6 r.2.2]):=by
 refine c4 (rs:=[.cell 4 64,.tmp 5,.tmp 6]) Tryz.func48 rfl Tryz.ntmps48 Tryz.results48 (by decide) (fun s0=> ?_)
 unfold F_ref15_again at h
 refine W_rs ?_
 refine rBox (R:=ab) (a:=x1) rfl (fun b3=> ?_)
 refine bq al64 fun b4=>kAs rfl (kAs rfl (W_rs (kMvL rfl (kAsL rfl (a8 (W_rs (kAs rfl (az ?_))))))))
 obtain⟨z2l,hz2,h⟩:=ah h
 obtain⟨n2,hN2⟩:=bp hz2
 refine cq 0 (fun e C=>∃(x5:List (List UInt8)),ref15_again_k1 R x5=some r/\At [(4,am b4 0),(7,aq a6 x5)] [Own.box b3 ab x1,Own.box b4 ab (ApiNode.mk 0 [] [] 0 0 0 0 0 [])] e C) ?_ ?_
 ·rintro e C ⟨x5,h,hat1⟩
  refine W_at hat1 ?_
  unfold ref15_again_k1 at h
  refine W_rs (kUn (di bb st64 rfl) ?_)
  refine kMvL rfl (av 1 rfl rfl (Upd.refl _) rfl Tryz.sizeOf64 (kAs rfl (kAsL rfl ?_)))
  obtain rfl:=osj h
  exact bc ⟨rfl,[(ab).val (ApiNode.mk 0 [] [] 0 0 0 0 0 []),Pr.bool false,aq a6 x5],⟨yBox 1 ty64 aa,yT aa,yT aa,trivial⟩,aa⟩
 refine c8 (fun m e C=>∃(x5:List (List UInt8)),∃(x6:Int),dj (fun s=>sr R x1 s.1 s.2) m (x5,x6)=some z2l/\At [(2,am b3 0),(4,am b4 0),(7,aq a6 x5),(8,Pr.i64 x6)] [Own.box b3 ab x1,Own.box b4 ab (ApiNode.mk 0 [] [] 0 0 0 0 0 [])] e C) n2 ⟨x2,0,hN2,⟨⟨aa,aa,aa,aa,trivial⟩,Pick.refl _⟩⟩ ?_
 rintro m e C ⟨x5,x6,hN2,hatl2⟩
 refine W_at hatl2 ?_
 obtain⟨m2,w2l,rfl,h2l,hn2,ho2⟩:=bj hN2
 replace h2l:sr R x1 x5 x6=some w2l:=h2l
 unfold sr at h2l
 refine a8 (W_rs (kMv rfl (kUn (ai ee) ?_)))
 refine kUn (ap 0 ty53 bl) ?_
 refine kUn (iz rfl Tryz.underlying53) ?_
 refine kIn rfl rfl rfl ?_
 refine a5 h2l rfl (fun _ h2l=> ?_) (fun _ h2l=> ?_)
 ·refine ax ?_
  refine bh (fun e C=>∃(x33:List (List UInt8)),∃(x10:ApiNode),∃(x20:ApiNode),∃(b11:Nat),∃(b23:Nat),ss R x6 x33 x10 x20=some w2l/\At [(2,am b3 0),(4,am b4 0),(7,aq a6 x33),(8,Pr.i64 x6)] [Own.box b3 ab x1,Own.box b4 ab (ApiNode.mk 0 [] [] 0 0 0 0 0 []),Own.box b11 ab x10,Own.box b23 ab x20] e C) ?_ ?_
  ·rintro e C ⟨x33,x10,x20,b11,b23,h2l,hat3⟩
   refine W_at hat3 ?_
   unfold ss at h2l
   refine W_r (kMv rfl (kIn rfl rfl rfl (kAs rfl ?_)))
   exact⟨m2,Nat.lt_succ_self _,x33,w64 (x6+1),hn2 _ (Option.some.inj h2l).symm,⟨⟨aa,aa,aa,aa,trivial⟩,Pick.of [0,1] rfl⟩⟩
  refine az (W_rs (kUn (ai ee) ?_))
  refine kUn (ap 0 ty53 bl) ?_
  refine kMv rfl ?_
  obtain⟨x10,hx10,h2l⟩:=ah h2l
  refine kUn (dg Tryz.underlying53 Tryz.sizeOf64 hx10) ?_
  refine kUn (cf ty64) ?_
  refine bq al64 fun b11=>av 2 rfl rfl (Upd.refl _) rfl Tryz.sizeOf64 ?_
  refine bh (fun e C=>pe R x10 x5 x6=some w2l/\At [(2,am b3 0),(4,am b4 0),(7,aq a6 x5),(8,Pr.i64 x6),(9,am b11 0)] [Own.box b3 ab x1,Own.box b4 ab (ApiNode.mk 0 [] [] 0 0 0 0 0 []),Own.box b11 ab x10] e C) ?_ ?_
  ·rintro e C ⟨h2l,hat5⟩
   refine W_at hat5 ?_
   unfold pe at h2l
   refine W_rs (kUn (ap 2 ty64 (Sub.refl _)) ?_)
   refine kMvL rfl ?_
   obtain⟨⟨x20,x21,x22⟩,hx20,h2l⟩:=ah h2l
   refine kUn (ct (ih x10 x5 _ hx20)) ?_
   refine kUn (hMv (out:=bk [(ab).val x20,Pr.bool x21,aq a6 x22]) rfl) (kUn au ?_)
   refine kUn au ?_
   refine kUn au ?_
   refine bq al64 fun b23=>av 3 rfl rfl (Upd.refl _) rfl Tryz.sizeOf64 (kAs rfl (kAsL rfl (a8 (W_rs (kMv rfl ?_)))))
   refine a5 h2l rfl (fun _ h2l=> ?_) (fun _ h2l=> ?_)
   ·refine W_rs (kUn (ap 3 ty64 (Sub.refl _)) ?_)
    refine av 1 rfl rfl (Upd.refl _) rfl Tryz.sizeOf64 (kAs rfl (kAs rfl ?_))
    obtain rfl:=ho2 _ (Option.some.inj h2l).symm
    replace h:some (x20,true,[])=some r:=h
    obtain rfl:=osj h
    exact bc ⟨rfl,[(ab).val x20,Pr.bool true,aq a6 []],⟨yBox 1 ty64 aa,yT aa,yT (c7 _),trivial⟩,aa⟩
   refine ax ?_
   refine bh (fun e C=>∃(x26:Bool),pf R x5 x10 x6 x20 x26=some w2l/\At [(2,am b3 0),(4,am b4 0),(7,aq a6 x5),(8,Pr.i64 x6),(9,am b11 0),(66,Pr.bool x26)] [Own.box b3 ab x1,Own.box b4 ab (ApiNode.mk 0 [] [] 0 0 0 0 0 []),Own.box b11 ab x10,Own.box b23 ab x20] e C) ?_ ?_
   ·rintro e C ⟨x26,h2l,hat4⟩
    refine W_at hat4 ?_
    unfold pf at h2l
    refine a5 h2l rfl (fun _ h2l=> ?_) (fun _ h2l=> ?_)
    ·refine W_rs (kAs rfl (W_rs (kMv rfl (kMvL rfl ?_))))
     obtain⟨x29,hx29,h2l⟩:=ah h2l
     refine rNil [67] a6 9 (fun v28=> ?_) ⟨rfl,trivial⟩
     refine ev 4 el22 hx29 (fun v30=> ?_)
     refine kAs rfl (W_rs (kMv rfl (kUn (ai ef) ?_)))
     refine kUn (ap 2 ty9 bw) ?_
     refine kUn (cl (R:=a6) (a:=x10.Text) el22 (Nat.le_of_ble_eq_true rfl)) ?_
     obtain⟨x31,hx31,h2l⟩:=ah h2l
     refine ev 4 el22 hx31 (fun v32=> ?_)
     refine kAs rfl (W_r (kMv rfl ?_))
     refine rRel 4 [14,75] ?_ rfl ⟨rfl,rfl,trivial⟩
     refine kAsL rfl ?_
     exact⟨x31,x10,x20,b11,b23,h2l,atOk⟩
    refine ax ?_
    exact⟨x5,x10,x20,b11,b23,h2l,atOk⟩
   refine W_r (kUn (ai dr) ?_)
   refine kUn (ap 2 ty3 bg) ?_
   refine kIn rfl rfl rfl (kMv rfl ?_)
   rcases bo h2l with⟨hc25,h2l⟩|⟨hc25,h2l⟩
   ·refine kSkF rfl aa hc25 (kSkF rfl aa hc25 (kSkF rfl aa hc25 (kPt rfl hc25 rfl ?_)))
    exact⟨true,h2l,atOk⟩
   refine kGd rfl aa hc25 (ai dr) ?_
   refine kGd rfl aa hc25 (ap 2 ty3 bg) ?_
   refine kGd rfl aa hc25 (qInt rfl rfl rfl) (kPf rfl hc25 rfl ?_)
   exact⟨x10.Kind==6,h2l,atOk⟩
  refine bh (fun e C=>∃(x13:Bool),pd R x5 x10 x6 x13=some w2l/\At [(2,am b3 0),(4,am b4 0),(7,aq a6 x5),(8,Pr.i64 x6),(9,am b11 0),(35,Pr.bool x13)] [Own.box b3 ab x1,Own.box b4 ab (ApiNode.mk 0 [] [] 0 0 0 0 0 []),Own.box b11 ab x10] e C) ?_ ?_
  ·rintro e C ⟨x13,h2l,hat9⟩
   refine W_at hat9 ?_
   unfold pd at h2l
   refine a5 h2l rfl (fun _ h2l=> ?_) (fun _ h2l=> ?_)
   ·refine W_rs (kAs rfl (az ?_))
    obtain⟨z7l,hz7,h2l⟩:=ah h2l
    obtain⟨n7,hN7⟩:=bp hz7
    refine cq 2 (fun e C=>ref15_again_k6 R x10 x5 x6=some w2l/\At [(2,am b3 0),(4,am b4 0),(7,aq a6 x5),(8,Pr.i64 x6),(9,am b11 0)] [Own.box b3 ab x1,Own.box b4 ab (ApiNode.mk 0 [] [] 0 0 0 0 0 []),Own.box b11 ab x10] e C) ?_ ?_
    ·rintro e C ⟨h2l,hat6⟩
     unfold ref15_again_k6 at h2l
     exact⟨h2l,(At.trans hat6 ⟨⟨aa,aa,aa,aa,aa,trivial⟩,Pick.refl _⟩)⟩
    refine c8 (fun m e C=>∃(x15:Int),dj (fun s=>sq R x5 x10 s) m x15=some z7l/\At [(2,am b3 0),(4,am b4 0),(7,aq a6 x5),(8,Pr.i64 x6),(9,am b11 0),(10,Pr.i64 x15)] [Own.box b3 ab x1,Own.box b4 ab (ApiNode.mk 0 [] [] 0 0 0 0 0 []),Own.box b11 ab x10] e C) n7 ⟨0,hN7,⟨⟨aa,aa,aa,aa,aa,aa,trivial⟩,Pick.refl _⟩⟩ ?_
    rintro m e C ⟨x15,hN7,hatl7⟩
    refine W_at hatl7 ?_
    obtain⟨m7,w7l,rfl,h7l,hn7,ho7⟩:=bj hN7
    replace h7l:sq R x5 x10 x15=some w7l:=h7l
    unfold sq at h7l
    refine a8 (W_rs (kMv rfl (kMvL rfl (kUn (iz rfl Tryz.underlying22) ?_))))
    refine kIn rfl rfl rfl ?_
    refine a5 h7l rfl (fun _ h7l=> ?_) (fun _ h7l=> ?_)
    ·refine ax (a8 (az ?_))
     refine bh (fun e C=>∃(x18:List UInt8),ref15_again_j8 R x10 x15 x18=some w7l/\At [(2,am b3 0),(4,am b4 0),(7,aq a6 x5),(8,Pr.i64 x6),(9,am b11 0),(10,Pr.i64 x15),(48,Pr.bool (x18==x10.Text))] [Own.box b3 ab x1,Own.box b4 ab (ApiNode.mk 0 [] [] 0 0 0 0 0 []),Own.box b11 ab x10] e C) ?_ ?_
     ·rintro e C ⟨x18,h7l,hat8⟩
      refine W_at hat8 ?_
      unfold ref15_again_j8 at h7l
      refine a5 h7l rfl (fun _ h7l=> ?_) (fun _ h7l=> ?_)
      ·refine W_rs (kUn (ap 2 ty64 (Sub.refl _)) ?_)
       refine av 1 rfl rfl (Upd.refl _) rfl Tryz.sizeOf64 (kAs rfl (kAs rfl ?_))
       obtain rfl:=ho7 _ (Option.some.inj h7l).symm
       replace h2l:some (.inr (.done (x10,true,[])))=some w2l:=h2l
       obtain rfl:=ho2 _ (Option.some.inj h2l).symm
       replace h:some (x10,true,[])=some r:=h
       obtain rfl:=osj h
       exact bc ⟨rfl,[(ab).val x10,Pr.bool true,aq a6 []],⟨yBox 1 ty64 aa,yT aa,yT (c7 _),trivial⟩,aa⟩
      refine ax (W_r (kMv rfl (kIn rfl rfl rfl (kAs rfl ?_))))
      exact⟨m7,Nat.lt_succ_self _,w64 (x15+1),hn7 _ (Option.some.inj h7l).symm,atOk⟩
     refine eo 7 hmx (by kernel_rfl) (by kernel_rfl) ?_
     refine lUn (hMvL rfl) (lUn (hMvA rfl) ?_)
     obtain⟨x18,hx18,h7l⟩:=ah h7l
     refine lUn (dg Tryz.underlying22 Tryz.sizeOf9 hx18) ?_
     refine lUn (cf ty9) ?_
     refine lUn (ai ef) ?_
     refine lUn (ap 2 ty9 bw) ?_
     refine lUn (qStr rfl rfl rfl) ?_
     exact⟨x18,h7l,atOk⟩
    refine c6 ?_
    obtain rfl:=ho7 _ (Option.some.inj h7l).symm
    exact⟨h2l,atOk⟩
   refine ax ?_
   exact⟨h2l,atOk⟩
  refine W_r (kUn (ai dr) ?_)
  refine kUn (ap 2 ty3 bg) ?_
  refine kIn rfl rfl rfl (kMv rfl ?_)
  rcases bo h2l with⟨hc12,h2l⟩|⟨hc12,h2l⟩
  ·refine kSkF rfl aa hc12 (kSkF rfl aa hc12 (kSkF rfl aa hc12 (kPt rfl hc12 rfl ?_)))
   exact⟨true,h2l,atOk⟩
  refine kGd rfl aa hc12 (ai dr) ?_
  refine kGd rfl aa hc12 (ap 2 ty3 bg) ?_
  refine kGd rfl aa hc12 (qInt rfl rfl rfl) (kPf rfl hc12 rfl ?_)
  exact⟨x10.Kind==6,h2l,atOk⟩
 refine c6 ?_
 obtain rfl:=ho2 _ (Option.some.inj h2l).symm
 exact⟨x5,h,atOk⟩
theorem rec_ref15_again_ok :∀n,rec_ref15_again_spec (gm n):=by
 intro n
 induction n with
 |zero=>exact(fun x1 x2 r h=>nomatch (show none=some r from h))
 |succ n ih=>exact(fun x1 x2 r h=>F_ref15_again_step (gm n) ih x1 x2 r h)
theorem ref15_again_ok (x1:ApiNode) (x2:List (List UInt8)) (r:ApiNode × Bool × (List (List UInt8))) (h:ref15_again x1 x2=some r):FnP Tryz.prog 48 [(ab).val x1,aq a6 x2] (bk [(ab).val r.1,Pr.bool r.2.1,aq a6 r.2.2]):=(rec_ref15_again_ok 1048576) x1 x2 r h
end Go.Proofs.YtcndghapmoaidaaGreatDoor
