/- The code comes to what these functions say (printed by wip/gen/gen.py). -/
import Derived.Test.YtcndghapmoaidaaGreatDoorZX
import Derived.Test.YtcndghapmoaidaaGreatDoorZP5
import Derived.Test.YtcndghapmoaidaaGreatDoorZT
set_option linter.unusedSimpArgs false
set_option linter.unusedVariables false
set_option linter.unusedSectionVars false
set_option linter.unusedSectionVars false
set_option maxRecDepth 100000
set_option maxHeartbeats 4000000
namespace Go.Proofs.YtcndghapmoaidaaGreatDoor
open Go Go.Cn
attribute [local irreducible] ec aq
theorem cr (r:Ref12Wrong) (h:de=some r):FnP Tryz.prog 97 [] ((ag).val r):=by
 refine c4 (rs:=[.cell 0 97]) Tryz.func97 rfl Tryz.ntmps97 Tryz.results97 (by decide) (fun s0=> ?_)
 unfold de at h
 refine W_rs (bq al97 fun b1=>W_rs (kUn (fv st97 ⟨(Ref12Wrong.mk (-1) 0),⟨_,rfl,rfl,fun j fd hj hf=>by match j,hj with| 0,h=>exact absurd rfl h| 1,_=>cases hf;rfl|_+2,_=>cases hf⟩,rfl⟩) ?_))
 refine av 0 rfl rfl (Upd.refl _) rfl Tryz.sizeOf97 ?_
 obtain rfl:=osj h
 exact bc ⟨rfl,[(ag).val (Ref12Wrong.mk (-1) 0)],⟨yBox 0 ty97 aa,trivial⟩,aa⟩
theorem ref12_kind_ok (x1:List ApiToken) (x2:Int) (r:Bool) (h:ref12_kind x1 x2=some r):FnP Tryz.prog 138 [aq bz x1,Pr.i64 x2] (Pr.bool r):=by
 refine cu (rs:=[4]) Tryz.func138 rfl Tryz.ntmps138 ⟨by decide,Tryz.results138⟩ (by decide) (fun s0=> ?_)
 unfold ref12_kind at h
 refine W_rs (kAs rfl ?_)
 refine bh (fun e C=>∃(x18:Bool),oa x18=some r/\At [(4,Pr.bool x18)] [] e C) ?_ ?_
 ·rintro e C ⟨x18,h,hat1⟩
  refine W_at hat1 ?_
  unfold oa at h
  obtain rfl:=osj h
  exact bc ⟨rfl,aa⟩
 refine W_r (kMvL rfl (kMv rfl (cm h (il x1 x2) rfl fun x3 _ h=>kMv rfl ?_)))
 rcases bo h with⟨hc4,h⟩|⟨hc4,h⟩
 ·refine kSkF rfl aa hc4 (kSkF rfl aa hc4 (kSkF rfl aa hc4 (kPt rfl hc4 rfl (kMv rfl ?_))))
  have hc12:true=true:=rfl
  refine kSkF rfl aa hc12 (kSkF rfl aa hc12 (kSkF rfl aa hc12 (kPt rfl hc12 rfl (kMv rfl ?_))))
  have hc16:true=true:=rfl
  refine kSkF rfl aa hc16 (kSkF rfl aa hc16 (kSkF rfl aa hc16 (kPt rfl hc16 rfl (kAs rfl ?_))))
  exact⟨true,h,atOk⟩
 refine kGd rfl aa hc4 (hMvL rfl) (kGd rfl aa hc4 (hMvA rfl) ?_)
 obtain⟨x5,hx5,h⟩:=ah h
 refine kGd rfl aa hc4 (ct (bu x1 x2 ([105,110,116]:List UInt8) _ hx5)) ?_
 refine kPf rfl hc4 rfl (kMv rfl ?_)
 rcases bo h with⟨hc6,h⟩|⟨hc6,h⟩
 ·refine kSkF rfl aa hc6 (kSkF rfl aa hc6 (kSkF rfl aa hc6 (kPt rfl hc6 rfl (kMv rfl ?_))))
  have hc10:true=true:=rfl
  refine kSkF rfl aa hc10 (kSkF rfl aa hc10 (kSkF rfl aa hc10 (kPt rfl hc10 rfl (kAs rfl ?_))))
  exact⟨true,h,atOk⟩
 refine kGd rfl aa hc6 (hMvL rfl) (kGd rfl aa hc6 (hMvA rfl) ?_)
 obtain⟨x7,hx7,h⟩:=ah h
 refine kGd rfl aa hc6 (ct (bu x1 x2 ([98,111,111,108,101,97,110]:List UInt8) _ hx7)) ?_
 refine kPf rfl hc6 rfl (kMv rfl ?_)
 rcases bo h with⟨hc8,h⟩|⟨hc8,h⟩
 ·refine kSkF rfl aa hc8 (kSkF rfl aa hc8 (kSkF rfl aa hc8 (kPt rfl hc8 rfl (kAs rfl ?_))))
  exact⟨true,h,atOk⟩
 refine kGd rfl aa hc8 (hMvL rfl) (kGd rfl aa hc8 (hMvA rfl) ?_)
 obtain⟨x9,hx9,h⟩:=ah h
 refine kGd rfl aa hc8 (ct (bu x1 x2 ([118,111,105,100]:List UInt8) _ hx9)) ?_
 refine kPf rfl hc8 rfl (kAs rfl ?_)
 exact⟨x9,h,atOk⟩
theorem ref12_typed_ok (x1:List ApiToken) (x2:ApiNode) (x3:Int) (r:ApiNode) (h:ua x1 x2 x3=some r):FnP Tryz.prog 141 [aq bz x1,(ab).val x2,Pr.i64 x3] ((ab).val r):=by
 refine c4 (rs:=[.cell 6 64]) Tryz.func141 rfl Tryz.ntmps141 Tryz.results141 (by decide) (fun s0=> ?_)
 unfold ua at h
 refine W_rs ?_
 refine rBox (R:=ab) (a:=x2) rfl (fun b4=> ?_)
 refine bq al64 fun b5=>W_rs (kMvL rfl (kMv rfl ?_))
 obtain⟨x6,hx6,h⟩:=ah h
 refine kUn (dg Tryz.underlying41 Tryz.sizeOf45 hx6) ?_
 refine kUn (d5 fld45_1 dw) ?_
 refine kUn (cf ty9) ?_
 refine kUn (ai r4) ?_
 refine av 0 rfl rfl updApiNode_Type rfl Tryz.sizeOf9 (W_rs (kMvL rfl (kMv rfl ?_)))
 obtain⟨x7,hx7,h⟩:=ah h
 refine kUn (dg Tryz.underlying41 Tryz.sizeOf45 hx7) ?_
 refine kUn (d5 fld45_2 ii) ?_
 refine kUn (cf ty3) ?_
 refine kUn (ai fld64_7) ?_
 refine av 0 rfl rfl updApiNode_TypeAt rfl Tryz.sizeOf3 (W_rs (kMvL rfl (kMv rfl (kIn rfl rfl rfl ?_))))
 obtain⟨x8,hx8,h⟩:=ah h
 refine kUn (dg Tryz.underlying41 Tryz.sizeOf45 hx8) ?_
 refine kUn (d5 fld45_1 dw) ?_
 refine kUn (cf ty9) ?_
 refine kUn (ai ef) ?_
 refine av 0 rfl rfl nc rfl Tryz.sizeOf9 (W_rs (kMvL rfl (kMv rfl (kIn rfl rfl rfl ?_))))
 obtain⟨x9,hx9,h⟩:=ah h
 refine kUn (dg Tryz.underlying41 Tryz.sizeOf45 hx9) ?_
 refine kUn (d5 fld45_2 ii) ?_
 refine kUn (cf ty3) ?_
 refine kUn (ai my) ?_
 refine av 0 rfl rfl updApiNode_At rfl Tryz.sizeOf3 (W_rs (kUn (ap 0 ty64 (Sub.refl _)) ?_))
 refine av 1 rfl rfl (Upd.refl _) rfl Tryz.sizeOf64 ?_
 obtain rfl:=osj h
 exact bc ⟨rfl,[(ab).val ({{{{x2 with Type_:=x6.Text} with TypeAt:=x7.At} with Text:=x8.Text} with At:=x9.At})],⟨yBox 1 ty64 aa,trivial⟩,aa⟩
theorem ref12_params_ok (x1:List ApiToken) (x2:Int) (r:(List ApiNode) × Int × Ref12Wrong) (h:ref12_params x1 x2=some r):FnC Tryz.prog 139 [aq bz x1,Pr.i64 x2] [] (fun q C'=>∃u0,q=bk [Pr.is u0,Pr.i64 r.2.1,(ag).val r.2.2]/\C'=[Own.vec u0 ab r.1 64]):=by
 refine fnc_introR (rs:=[.tmp 4,.tmp 5,.cell 6 97]) Tryz.func139 rfl Tryz.ntmps139 Tryz.results139 (by decide) (fun s0=> ?_)
 unfold ref12_params at h
 refine W_rs (kAs rfl (kAs rfl (bq al97 fun b3=>W_rs (kAs rfl (a8 (W_rs (kMvL rfl (kMv rfl (cm h (bu x1 x2 ([41]:List UInt8)) rfl fun x4 _ h=> ?_)))))))))
 refine a5 h rfl (fun _ h=> ?_) (fun _ h=> ?_)
 ·refine W_rs (kMv rfl (kMv rfl (kIn rfl rfl rfl (cm h (cr) rfl fun x6 _ h=>kAs rfl (kAs rfl (av 0 rfl rfl (Upd.refl _) rfl Tryz.sizeOf97 ?_))))))
  refine W_nil [4] ab 64 (fun v7=> ?_) ⟨rfl,trivial⟩
  obtain rfl:=osj h
  exact bc ⟨.inl rfl,[Pr.is v7,Pr.i64 (w64 (x2+1)),(ag).val x6],⟨yT aa,yT aa,yBox 0 ty97 aa,trivial⟩,_,Pick.of [1] rfl,v7,rfl,rfl⟩
 refine ax (az ?_)
 obtain⟨n1,hN1⟩:=bp h
 refine W_nil [7] ab 64 (fun v36=> ?_) ⟨rfl,trivial⟩
 refine c8 (fun m e C=>∃(x8:Int),∃(x10:List ApiNode),∃(v9:Value),dj (fun s=>qv x1 s.1 s.2) m (x8,x10)=some r/\At [(0,aq bz x1),(1,Pr.i64 x8),(6,am b3 0),(7,Pr.is v9)] [Own.box b3 ag (Ref12Wrong.mk 0 0),Own.vec v9 ab x10 64] e C) n1 ⟨x2,[],v36,hN1,⟨⟨aa,aa,aa,aa,trivial⟩,Pick.refl _⟩⟩ ?_
 rintro m e C ⟨x8,x10,v9,hN1,hatl1⟩
 refine W_at hatl1 ?_
 obtain⟨m1,w1l,rfl,h1l,hn1,ho1⟩:=bj hN1
 replace h1l:qv x1 x8 x10=some w1l:=h1l
 unfold qv at h1l
 refine az (a8 ?_)
 refine bh (fun e C=>∃(x17:Bool),qw x8 x1 x10 x17=some w1l/\At [(0,aq bz x1),(1,Pr.i64 x8),(6,am b3 0),(7,Pr.is v9),(23,Pr.bool x17)] [Own.box b3 ag (Ref12Wrong.mk 0 0),Own.vec v9 ab x10 64] e C) ?_ ?_
 ·rintro e C ⟨x17,h1l,hat2⟩
  refine W_at hat2 ?_
  unfold qw at h1l
  refine a5 h1l rfl (fun _ h1l=> ?_) (fun _ h1l=> ?_)
  ·refine W_rs (kMv rfl (cm h1l (cg x8) rfl fun x19 _ h1l=>kAs rfl (kAs rfl (av 0 rfl rfl (Upd.refl _) rfl Tryz.sizeOf97 ?_))))
   have h:some ([],0,x19)=some r:=congrArg some (ho1 _ (Option.some.inj h1l).symm)
   refine W_nil [4] ab 64 (fun v20=> ?_) ⟨rfl,trivial⟩
   obtain rfl:=osj h
   exact bc ⟨.inl rfl,[Pr.is v20,Pr.i64 0,(ag).val x19],⟨yT aa,yT aa,yBox 0 ty97 aa,trivial⟩,_,Pick.of [2] rfl,v20,rfl,rfl⟩
  refine ax (a8 (W_rs (kMvL rfl (kMv rfl (kIn rfl rfl rfl (cm h1l (il x1 (w64 (x8+1))) rfl fun x21 _ h1l=>kNo rfl ?_))))))
  refine a5 h1l rfl (fun _ h1l=> ?_) (fun _ h1l=> ?_)
  ·refine W_rs (kMv rfl (kIn rfl rfl rfl (cm h1l (cg (w64 (x8+1))) rfl fun x23 _ h1l=>kAs rfl (kAs rfl (av 0 rfl rfl (Upd.refl _) rfl Tryz.sizeOf97 ?_)))))
   have h:some ([],0,x23)=some r:=congrArg some (ho1 _ (Option.some.inj h1l).symm)
   refine W_nil [4] ab 64 (fun v24=> ?_) ⟨rfl,trivial⟩
   obtain rfl:=osj h
   exact bc ⟨.inl rfl,[Pr.is v24,Pr.i64 0,(ag).val x23],⟨yT aa,yT aa,yBox 0 ty97 aa,trivial⟩,_,Pick.of [2] rfl,v24,rfl,rfl⟩
  refine ax (W_rs (kMv rfl (kMvL rfl (kMvL rfl (kMv rfl (kMv rfl (kIn rfl rfl rfl ?_)))))))
  obtain⟨x25,hx25,h1l⟩:=ah h1l
  refine kUn (qCall' (db x1 4 x8 (w64 (x8+2)) [] _ hx25) ⟨aa,aa,aa,aa,c7 _,trivial⟩) ?_
  refine kMv rfl (cm h1l (ref12_typed_ok x1 x25 x8) rfl fun x26 _ h1l=> ?_)
  refine kUn (cl (R:=ab) (a:=x26) el53 (Nat.le_of_ble_eq_true rfl)) ?_
  obtain⟨x27,hx27,h1l⟩:=ah h1l
  refine ev 1 el53 hx27 (fun v28=> ?_)
  refine kAs rfl (a8 (W_rs (kMvL rfl (kMv rfl (kIn rfl rfl rfl (cm h1l (bu x1 (w64 (x8+2)) ([41]:List UInt8)) rfl fun x29 _ h1l=> ?_))))))
  refine a5 h1l rfl (fun _ h1l=> ?_) (fun _ h1l=> ?_)
  ·refine W_rs (kMv rfl (kMv rfl (kIn rfl rfl rfl (cm h1l (cr) rfl fun x31 _ h1l=>kAs rfl (kAs rfl (av 0 rfl rfl (Upd.refl _) rfl Tryz.sizeOf97 ?_))))))
   have h:some (x27,w64 (x8+3),x31)=some r:=congrArg some (ho1 _ (Option.some.inj h1l).symm)
   obtain rfl:=osj h
   exact bc ⟨.inl rfl,[Pr.is v28,Pr.i64 (w64 (x8+3)),(ag).val x31],⟨yT aa,yT aa,yBox 0 ty97 aa,trivial⟩,_,Pick.of [1] rfl,v28,rfl,rfl⟩
  refine ax (a8 (W_rs (kMvL rfl (kMv rfl (kIn rfl rfl rfl (cm h1l (bu x1 (w64 (x8+2)) ([44]:List UInt8)) rfl fun x32 _ h1l=>kNo rfl ?_))))))
  refine a5 h1l rfl (fun _ h1l=> ?_) (fun _ h1l=> ?_)
  ·refine W_rs (kMv rfl (kIn rfl rfl rfl (cm h1l (cg (w64 (x8+2))) rfl fun x34 _ h1l=>kAs rfl (kAs rfl (av 0 rfl rfl (Upd.refl _) rfl Tryz.sizeOf97 ?_)))))
   have h:some ([],0,x34)=some r:=congrArg some (ho1 _ (Option.some.inj h1l).symm)
   refine W_nil [4] ab 64 (fun v35=> ?_) ⟨rfl,trivial⟩
   obtain rfl:=osj h
   exact bc ⟨.inl rfl,[Pr.is v35,Pr.i64 0,(ag).val x34],⟨yT aa,yT aa,yBox 0 ty97 aa,trivial⟩,_,Pick.of [2] rfl,v35,rfl,rfl⟩
  refine ax (W_r (kMv rfl (kIn rfl rfl rfl (kAs rfl ?_))))
  exact⟨m1,Nat.lt_succ_self _,w64 (x8+3),x27,v28,hn1 _ (Option.some.inj h1l).symm,atOk⟩
 refine W_r (kMvL rfl (kMv rfl (cm h1l (ref12_kind_ok x1 x8) rfl fun x14 _ h1l=>kNo rfl (kMv rfl ?_))))
 rcases bo h1l with⟨hc15,h1l⟩|⟨hc15,h1l⟩
 ·refine kSkF rfl aa hc15 (kSkF rfl aa hc15 (kSkF rfl aa hc15 (kPt rfl hc15 rfl ?_)))
  exact⟨true,h1l,atOk⟩
 refine kGd rfl aa hc15 (hMvL rfl) (kGd rfl aa hc15 (hMvA rfl) ?_)
 obtain⟨x16,hx16,h1l⟩:=ah h1l
 refine kGd rfl aa hc15 (ct (bu x1 x8 ([118,111,105,100]:List UInt8) _ hx16)) ?_
 refine kPf rfl hc15 rfl ?_
 exact⟨x16,h1l,atOk⟩
theorem ref12_local_ok (x1:List ApiToken) (x2:Int) (r:Bool) (h:ref12_local x1 x2=some r):FnP Tryz.prog 167 [aq bz x1,Pr.i64 x2] (Pr.bool r):=by
 refine cu (rs:=[4]) Tryz.func167 rfl Tryz.ntmps167 ⟨by decide,Tryz.results167⟩ (by decide) (fun s0=> ?_)
 unfold ref12_local at h
 refine W_rs (kAs rfl ?_)
 refine bh (fun e C=>∃(x26:Bool),kc x26=some r/\At [(4,Pr.bool x26)] [] e C) ?_ ?_
 ·rintro e C ⟨x26,h,hat1⟩
  refine W_at hat1 ?_
  unfold kc at h
  obtain rfl:=osj h
  exact bc ⟨rfl,aa⟩
 refine W_r (kMvL rfl (kMv rfl (cm h (bu x1 x2 ([105,110,116]:List UInt8)) rfl fun x3 _ h=>kMv rfl ?_)))
 rcases bo h with⟨hc4,h⟩|⟨hc4,h⟩
 ·refine kSkF rfl aa hc4 (kSkF rfl aa hc4 (kSkF rfl aa hc4 (kPt rfl hc4 rfl (kMv rfl ?_))))
  have hc16:true=true:=rfl
  refine kSkF rfl aa hc16 (kSkF rfl aa hc16 (kSkF rfl aa hc16 (kPt rfl hc16 rfl (kMv rfl ?_))))
  have hc22:true=true:=rfl
  refine kSkF rfl aa hc22 (kSkF rfl aa hc22 (kSkF rfl aa hc22 (kSkF rfl aa hc22 (kSkU rfl aa (kSkU rfl aa (kSkU rfl aa (kSkU rfl aa (kSkF rfl aa hc22 (kPt rfl hc22 rfl (kAs rfl ?_))))))))))
  exact⟨true,h,atOk⟩
 refine kGd rfl aa hc4 (hMvL rfl) (kGd rfl aa hc4 (hMvA rfl) ?_)
 obtain⟨x5,hx5,h⟩:=ah h
 refine kGd rfl aa hc4 (ct (bu x1 x2 ([98,111,111,108,101,97,110]:List UInt8) _ hx5)) ?_
 refine kPf rfl hc4 rfl (kMv rfl ?_)
 rcases bo h with⟨hc6,h⟩|⟨hc6,h⟩
 ·refine kSkF rfl aa hc6 (kSkF rfl aa hc6 (kSkF rfl aa hc6 (kPt rfl hc6 rfl (kMv rfl ?_))))
  have hc12:true=true:=rfl
  refine kSkF rfl aa hc12 (kSkF rfl aa hc12 (kSkF rfl aa hc12 (kSkF rfl aa hc12 (kSkU rfl aa (kSkU rfl aa (kSkU rfl aa (kSkU rfl aa (kSkF rfl aa hc12 (kPt rfl hc12 rfl (kAs rfl ?_))))))))))
  exact⟨true,h,atOk⟩
 refine kGd rfl aa hc6 (hMvL rfl) (kGd rfl aa hc6 (hMvA rfl) ?_)
 obtain⟨x7,hx7,h⟩:=ah h
 refine kGd rfl aa hc6 (ct (bu x1 x2 ([118,111,105,100]:List UInt8) _ hx7)) ?_
 refine kPf rfl hc6 rfl (kMv rfl ?_)
 rcases bo h with⟨hc8,h⟩|⟨hc8,h⟩
 ·refine kSkF rfl aa hc8 (kSkF rfl aa hc8 (kSkF rfl aa hc8 (kSkF rfl aa hc8 (kSkU rfl aa (kSkU rfl aa (kSkU rfl aa (kSkU rfl aa (kSkF rfl aa hc8 (kPt rfl hc8 rfl (kAs rfl ?_))))))))))
  exact⟨true,h,atOk⟩
 refine kGd rfl aa hc8 (hMvL rfl) (kGd rfl aa hc8 (hMvA rfl) ?_)
 obtain⟨x9,hx9,h⟩:=ah h
 refine kGd rfl aa hc8 (ct (il x1 x2 _ hx9)) ?_
 refine kGd rfl aa hc8 (hMvA rfl) ?_
 rcases bo h with⟨hc10,h⟩|⟨hc10,h⟩
 ·refine kGd rfl aa hc10 (hMvL rfl) (kGd rfl aa hc10 (hMvA rfl) (kGd rfl aa hc10 (qInt rfl rfl rfl) ?_))
  obtain⟨x11,hx11,h⟩:=ah h
  refine kGd rfl aa hc10 (ct (il x1 (w64 (x2+1)) _ hx11)) ?_
  refine kGd rfl aa hc8 (hPt rfl hc10 rfl) (kPf rfl hc8 rfl (kAs rfl ?_))
  exact⟨x11,h,atOk⟩
 refine kSkT rfl aa hc10 (kSkT rfl aa hc10 (kSkT rfl aa hc10 (kSkT rfl aa hc10 (kGd rfl aa hc8 (hPf rfl hc10 rfl) (kPf rfl hc8 rfl (kAs rfl ?_))))))
 exact⟨false,h,atOk⟩
theorem ref12_binds_ok (x1:List ApiToken) (x2 r:Int) (h:ref12_binds x1 x2=some r):FnP Tryz.prog 198 [aq bz x1,Pr.i64 x2] (Pr.i64 r):=by
 refine cu (rs:=[4]) Tryz.func198 rfl Tryz.ntmps198 ⟨by decide,Tryz.results198⟩ (by decide) (fun s0=> ?_)
 unfold ref12_binds at h
 refine W_rs (kAs rfl (W_rs (kUn (cl (R:=a6) (a:=([124,124]:List UInt8)) el22 (Nat.le_of_ble_eq_true rfl)) ?_)))
 refine kUn (cl (R:=a6) (a:=([38,38]:List UInt8)) el22 (Nat.le_of_ble_eq_true rfl)) ?_
 refine kUn (ju (R:=a6) (ls:=([([61,61]:List UInt8),([33,61]:List UInt8)]:List (List UInt8))) el22 (Nat.le_of_ble_eq_true rfl) ⟨rfl,rfl⟩ ⟨rfl,rfl,trivial⟩) ?_
 refine kUn (ju (R:=a6) (ls:=([([60]:List UInt8),([60,61]:List UInt8),([62]:List UInt8),([62,61]:List UInt8)]:List (List UInt8))) el22 (Nat.le_of_ble_eq_true rfl) ⟨rfl,rfl⟩ ⟨rfl,rfl,rfl,rfl,trivial⟩) ?_
 refine kUn (ju (R:=a6) (ls:=([([43]:List UInt8),([45]:List UInt8)]:List (List UInt8))) el22 (Nat.le_of_ble_eq_true rfl) ⟨rfl,rfl⟩ ⟨rfl,rfl,trivial⟩) ?_
 refine kUn (ju (R:=a6) (ls:=([([42]:List UInt8),([47]:List UInt8),([37]:List UInt8)]:List (List UInt8))) el22 (Nat.le_of_ble_eq_true rfl) ⟨rfl,rfl⟩ ⟨rfl,rfl,rfl,trivial⟩) ?_
 refine kUn (ju (R:=ba a6) (ls:=([([([124,124]:List UInt8)]:List (List UInt8)),([([38,38]:List UInt8)]:List (List UInt8)),([([61,61]:List UInt8),([33,61]:List UInt8)]:List (List UInt8)),([([60]:List UInt8),([60,61]:List UInt8),([62]:List UInt8),([62,61]:List UInt8)]:List (List UInt8)),([([43]:List UInt8),([45]:List UInt8)]:List (List UInt8)),([([42]:List UInt8),([47]:List UInt8),([37]:List UInt8)]:List (List UInt8))]:List (List (List UInt8)))) el224 (Nat.le_of_ble_eq_true rfl) ⟨rfl,rfl⟩ ⟨rfl,rfl,rfl,rfl,rfl,rfl,trivial⟩) ?_
 refine kAsL rfl (a8 (W_rs (kAs rfl (az ?_))))
 obtain⟨z2l,hz2,h⟩:=ah h
 obtain⟨n2,hN2⟩:=bp hz2
 refine cq 0 (fun e C=>ref12_binds_k1=some r/\At [] [] e C) ?_ ?_
 ·rintro e C ⟨h,hat1⟩
  refine W_at hat1 ?_
  unfold ref12_binds_k1 at h
  refine W_rs (kAs rfl ?_)
  obtain rfl:=osj h
  exact bc ⟨rfl,aa⟩
 refine c8 (fun m e C=>∃(x3:Int),dj (fun s=>s9 x1 x2 s) m x3=some z2l/\At [(0,aq bz x1),(1,Pr.i64 x2),(5,aq (ba a6) ([([([124,124]:List UInt8)]:List (List UInt8)),([([38,38]:List UInt8)]:List (List UInt8)),([([61,61]:List UInt8),([33,61]:List UInt8)]:List (List UInt8)),([([60]:List UInt8),([60,61]:List UInt8),([62]:List UInt8),([62,61]:List UInt8)]:List (List UInt8)),([([43]:List UInt8),([45]:List UInt8)]:List (List UInt8)),([([42]:List UInt8),([47]:List UInt8),([37]:List UInt8)]:List (List UInt8))]:List (List (List UInt8)))),(6,Pr.i64 x3)] [] e C) n2 ⟨0,hN2,⟨⟨aa,aa,aa,aa,trivial⟩,Pick.refl _⟩⟩ ?_
 rintro m e C ⟨x3,hN2,hatl2⟩
 refine W_at hatl2 ?_
 obtain⟨m2,w2l,rfl,h2l,hn2,ho2⟩:=bj hN2
 replace h2l:s9 x1 x2 x3=some w2l:=h2l
 unfold s9 at h2l
 refine a8 (W_rs (kMv rfl (kMvL rfl (kUn (iz rfl Tryz.underlying224) ?_))))
 refine kIn rfl rfl rfl ?_
 refine a5 h2l rfl (fun _ h2l=> ?_) (fun _ h2l=> ?_)
 ·refine ax (a8 (az (W_rs (kAs rfl (az ?_)))))
  obtain⟨z4l,hz4,h2l⟩:=ah h2l
  obtain⟨n4,hN4⟩:=bp hz4
  refine cq 2 (fun e C=>ref12_binds_k3 x3=some w2l/\At [(0,aq bz x1),(1,Pr.i64 x2),(5,aq (ba a6) ([([([124,124]:List UInt8)]:List (List UInt8)),([([38,38]:List UInt8)]:List (List UInt8)),([([61,61]:List UInt8),([33,61]:List UInt8)]:List (List UInt8)),([([60]:List UInt8),([60,61]:List UInt8),([62]:List UInt8),([62,61]:List UInt8)]:List (List UInt8)),([([43]:List UInt8),([45]:List UInt8)]:List (List UInt8)),([([42]:List UInt8),([47]:List UInt8),([37]:List UInt8)]:List (List UInt8))]:List (List (List UInt8)))),(6,Pr.i64 x3)] [] e C) ?_ ?_
  ·rintro e C ⟨h2l,hat3⟩
   refine W_at hat3 ?_
   unfold ref12_binds_k3 at h2l
   refine W_r (kMv rfl (kIn rfl rfl rfl (kAs rfl ?_)))
   exact⟨m2,Nat.lt_succ_self _,w64 (x3+1),hn2 _ (Option.some.inj h2l).symm,atOk⟩
  refine c8 (fun m e C=>∃(x6:Int),dj (fun s=>s8 x3 x1 x2 s) m x6=some z4l/\At [(0,aq bz x1),(1,Pr.i64 x2),(5,aq (ba a6) ([([([124,124]:List UInt8)]:List (List UInt8)),([([38,38]:List UInt8)]:List (List UInt8)),([([61,61]:List UInt8),([33,61]:List UInt8)]:List (List UInt8)),([([60]:List UInt8),([60,61]:List UInt8),([62]:List UInt8),([62,61]:List UInt8)]:List (List UInt8)),([([43]:List UInt8),([45]:List UInt8)]:List (List UInt8)),([([42]:List UInt8),([47]:List UInt8),([37]:List UInt8)]:List (List UInt8))]:List (List (List UInt8)))),(6,Pr.i64 x3),(7,Pr.i64 x6)] [] e C) n4 ⟨0,hN4,⟨⟨aa,aa,aa,aa,aa,trivial⟩,Pick.refl _⟩⟩ ?_
  rintro m e C ⟨x6,hN4,hatl4⟩
  refine W_at hatl4 ?_
  obtain⟨m4,w4l,rfl,h4l,hn4,ho4⟩:=bj hN4
  replace h4l:s8 x3 x1 x2 x6=some w4l:=h4l
  unfold s8 at h4l
  refine a8 (W_rs (kMv rfl (kMvL rfl (kMv rfl ?_))))
  obtain⟨x8,hx8,h4l⟩:=ah h4l
  refine kUn (dg Tryz.underlying224 Tryz.sizeOf22 hx8) ?_
  refine kUn (cf ty22) ?_
  refine kUn (iz rfl Tryz.underlying22) ?_
  refine kIn rfl rfl rfl ?_
  refine a5 h4l rfl (fun _ h4l=> ?_) (fun _ h4l=> ?_)
  ·refine ax (a8 (az (W_rs (kMvL rfl (kMv rfl (kMvL rfl (kMv rfl ?_)))))))
   obtain⟨x10,hx10,h4l⟩:=ah h4l
   refine kUn (dg Tryz.underlying224 Tryz.sizeOf22 hx10) ?_
   refine kUn (cf ty22) ?_
   refine kMv rfl ?_
   obtain⟨x11,hx11,h4l⟩:=ah h4l
   refine kUn (dg Tryz.underlying22 Tryz.sizeOf9 hx11) ?_
   refine kUn (cf ty9) ?_
   refine cm h4l (bu x1 x2 x11) rfl fun x12 _ h4l=> ?_
   refine a5 h4l rfl (fun _ h4l=> ?_) (fun _ h4l=> ?_)
   ·refine W_rs (kMv rfl (kIn rfl rfl rfl (kAs rfl ?_)))
    obtain rfl:=ho4 _ (Option.some.inj h4l).symm
    replace h2l:some (.inr (.done (w64 (x3+1))))=some w2l:=h2l
    obtain rfl:=ho2 _ (Option.some.inj h2l).symm
    replace h:some (w64 (x3+1))=some r:=h
    obtain rfl:=osj h
    exact bc ⟨rfl,aa⟩
   refine ax (W_r (kMv rfl (kIn rfl rfl rfl (kAs rfl ?_))))
   exact⟨m4,Nat.lt_succ_self _,w64 (x6+1),hn4 _ (Option.some.inj h4l).symm,atOk⟩
  refine c6 ?_
  obtain rfl:=ho4 _ (Option.some.inj h4l).symm
  exact⟨h2l,atOk⟩
 refine c6 ?_
 obtain rfl:=ho2 _ (Option.some.inj h2l).symm
 exact⟨h,atOk⟩
def fj (R:ay):Prop:=(∀(x1:List ApiToken) (x2:Int) (x3:Int) (r:ApiNode × Int × Ref12Wrong),R.1 x1 x2 x3=some r->FnP Tryz.prog 179 [aq bz x1,Pr.i64 x2,Pr.i64 x3] (bk [(ab).val r.1,Pr.i64 r.2.1,(ag).val r.2.2]))/\(∀(x1:List ApiToken) (x2:Int) (x3:Int) (x4:Int) (r:ApiNode × Int × Ref12Wrong),R.2.1 x1 x2 x3 x4=some r->FnP Tryz.prog 190 [aq bz x1,Pr.i64 x2,Pr.i64 x3,Pr.i64 x4] (bk [(ab).val r.1,Pr.i64 r.2.1,(ag).val r.2.2]))/\(∀(x1:List ApiToken) (x2:Int) (x3:Int) (r:ApiNode × Int × Ref12Wrong),R.2.2.1 x1 x2 x3=some r->FnP Tryz.prog 197 [aq bz x1,Pr.i64 x2,Pr.i64 x3] (bk [(ab).val r.1,Pr.i64 r.2.1,(ag).val r.2.2]))/\(∀(x1:List ApiToken) (x2:Int) (x3:Int) (r:ApiNode × Int × Ref12Wrong),R.2.2.2.1 x1 x2 x3=some r->FnP Tryz.prog 201 [aq bz x1,Pr.i64 x2,Pr.i64 x3] (bk [(ab).val r.1,Pr.i64 r.2.1,(ag).val r.2.2]))/\(∀(x1:List ApiToken) (x2:Int) (x3:Int) (r:(List ApiNode) × Int × Ref12Wrong),R.2.2.2.2 x1 x2 x3=some r->FnP Tryz.prog 202 [aq bz x1,Pr.i64 x2,Pr.i64 x3] (bk [aq ab r.1,Pr.i64 r.2.1,(ag).val r.2.2]))
theorem F_ref12_expression_step (R:ay) (ih:fj R) (x1:List ApiToken) (x2 x3:Int) (r:ApiNode × Int × Ref12Wrong) (h:lp R x1 x2 x3=some r):FnP Tryz.prog 179 [aq bz x1,Pr.i64 x2,Pr.i64 x3] (bk [(ab).val r.1,Pr.i64 r.2.1,(ag).val r.2.2]):=by
 refine c4 (rs:=[.cell 6 64,.tmp 7,.cell 8 97]) Tryz.func179 rfl Tryz.ntmps179 Tryz.results179 (by decide) (fun s0=> ?_)
 unfold lp at h
 refine W_rs (bq al64 fun b4=>kAs rfl (bq al97 fun b5=>W_rs (kMvL rfl (kMv rfl (kMv rfl ?_)))))
 obtain⟨⟨x6,x7,x8⟩,hx6,h⟩:=ah h
 refine kUn (ct (ih.2.1 x1 x2 x3 1 _ hx6)) ?_
 refine kUn au ?_
 refine kUn au ?_
 refine kUn au ?_
 refine av 0 rfl rfl (Upd.refl _) rfl Tryz.sizeOf64 (kAs rfl (av 1 rfl rfl (Upd.refl _) rfl Tryz.sizeOf97 ?_))
 obtain rfl:=osj h
 exact bc ⟨rfl,[(ab).val x6,Pr.i64 x7,(ag).val x8],⟨yBox 0 ty64 aa,yT aa,yBox 1 ty97 aa,trivial⟩,aa⟩
theorem F_ref12_level_step (R:ay) (ih:fj R) (x1:List ApiToken) (x2 x3 x4:Int) (r:ApiNode × Int × Ref12Wrong) (h:F_ref12_level R x1 x2 x3 x4=some r):FnP Tryz.prog 190 [aq bz x1,Pr.i64 x2,Pr.i64 x3,Pr.i64 x4] (bk [(ab).val r.1,Pr.i64 r.2.1,(ag).val r.2.2]):=by
 refine c4 (rs:=[.cell 8 64,.tmp 9,.cell 10 97]) Tryz.func190 rfl Tryz.ntmps190 Tryz.results190 (by decide) (fun s0=> ?_)
 unfold F_ref12_level at h
 refine W_rs (bq al64 fun b5=>kAs rfl (bq al97 fun b6=>a8 (W_rs (kMv rfl (kIn rfl rfl rfl ?_)))))
 refine a5 h rfl (fun _ h=> ?_) (fun _ h=> ?_)
 ·refine W_rs (kMvL rfl (kMv rfl (kMv rfl ?_)))
  obtain⟨⟨x8,x9,x10⟩,hx8,h⟩:=ah h
  refine kUn (ct (ih.2.2.1 x1 x2 x3 _ hx8)) ?_
  refine kUn au ?_
  refine kUn au ?_
  refine kUn au ?_
  refine av 0 rfl rfl (Upd.refl _) rfl Tryz.sizeOf64 (kAs rfl (av 1 rfl rfl (Upd.refl _) rfl Tryz.sizeOf97 ?_))
  obtain rfl:=osj h
  exact bc ⟨rfl,[(ab).val x8,Pr.i64 x9,(ag).val x10],⟨yBox 0 ty64 aa,yT aa,yBox 1 ty97 aa,trivial⟩,aa⟩
 refine ax (W_rs (kMvL rfl (kMv rfl (kMv rfl (kMv rfl (kIn rfl rfl rfl ?_))))))
 obtain⟨⟨x11,x12,x13⟩,hx11,h⟩:=ah h
 refine kUn (ct (ih.2.1 x1 x2 x3 (w64 (x4+1)) _ hx11)) ?_
 refine kUn (hMv (out:=bk [(ab).val x11,Pr.i64 x12,(ag).val x13]) rfl) (kUn au ?_)
 refine kUn au ?_
 refine kUn au ?_
 refine bq al64 fun b14=> ?_
 refine bq al97 fun b15=>av 2 rfl rfl (Upd.refl _) rfl Tryz.sizeOf64 (kAs rfl (av 3 rfl rfl (Upd.refl _) rfl Tryz.sizeOf97 (a8 (W_rs (kUn (ai ki) ?_)))))
 refine kUn (ap 3 ty3 cb) ?_
 refine kIn rfl rfl rfl ?_
 refine a5 h rfl (fun _ h=> ?_) (fun _ h=> ?_)
 ·refine bh (fun e C=>ref12_level_j1 R x13=some r/\At [(8,am b5 0),(9,Pr.i64 0),(10,am b6 0)] [Own.box b5 ab (ApiNode.mk 0 [] [] 0 0 0 0 0 []),Own.box b6 ag x13,Own.box b14 ab x11,Own.box b15 ag x13] e C) ?_ ?_
  ·rintro e C ⟨h,hat1⟩
   refine W_at hat1 ?_
   unfold ref12_level_j1 at h
   obtain rfl:=osj h
   exact bc ⟨rfl,[(ab).val (ApiNode.mk 0 [] [] 0 0 0 0 0 []),Pr.i64 0,(ag).val x13],⟨yBox 0 ty64 aa,yT aa,yBox 1 ty97 aa,trivial⟩,aa⟩
  refine dt [(2,0,Own.box b5 ab (ApiNode.mk 0 [] [] 0 0 0 0 0 [])),(4,1,Own.box b6 ag x13)] [Own.box b5 ab (ApiNode.mk 0 [] [] 0 0 0 0 0 []),Own.box b6 ag x13,Own.box b14 ab x11,Own.box b15 ag x13] hmx (by kernel_rfl) (by kernel_rfl) (show([2,4]:List Nat).Nodup by decide) (show([0,1]:List Nat).Nodup by decide) rfl rfl ?_
  refine eq1 (out:=(ab).val (ApiNode.mk 0 [] [] 0 0 0 0 0 [])) (fun C2 hC=>(di bb st64 rfl)) ?_
  refine eq1 (out:=(ag).val x13) (fun C2 hC=>(ap (R:=ag) (a:=x13) (R':=ag) 3 ty97 (Sub.refl _) (hi:=(hC 3 (by kernel_rfl)).trans rfl))) ?_
  refine eqS (fun C2 hC=>dc (R:=ab) (R':=ab) (a:=(ApiNode.mk 0 [] [] 0 0 0 0 0 [])) (y:=(ApiNode.mk 0 [] [] 0 0 0 0 0 [])) 0 Tryz.sizeOf64 (Upd.refl _) ((hC 0 (by kernel_rfl)).trans rfl)) ?_
  refine eq1 (out:=Pr.i64 0) (fun C2 hC=>du) ?_
  refine eqS (fun C2 hC=>dc (R:=ag) (R':=ag) (a:=(Ref12Wrong.mk 0 0)) (y:=x13) 1 Tryz.sizeOf97 (Upd.refl _) ((hC 1 (by kernel_rfl)).trans rfl)) ?_
  exact⟨h,atOk⟩
 refine ax (a8 (az ?_))
 obtain⟨z4l,hz4,h⟩:=ah h
 obtain⟨n4,hN4⟩:=bp hz4
 refine cq 0 (fun e C=>∃(x17:Int),∃(x18:ApiNode),ref12_level_k3 R x17 x18=some r/\At [(8,am b5 0),(10,am b6 0),(11,am b14 0),(12,Pr.i64 x17)] [Own.box b5 ab (ApiNode.mk 0 [] [] 0 0 0 0 0 []),Own.box b6 ag (Ref12Wrong.mk 0 0),Own.box b14 ab x18,Own.box b15 ag x13] e C) ?_ ?_
 ·rintro e C ⟨x17,x18,h,hat3⟩
  refine W_at hat3 ?_
  unfold ref12_level_k3 at h
  refine bh (fun e C=>∃(x31:Ref12Wrong),ref12_level_j2 R x18 x17 x31=some r/\At [(8,am b5 0),(9,Pr.i64 x17),(10,am b6 0)] [Own.box b5 ab x18,Own.box b6 ag x31,Own.box b14 ab x18,Own.box b15 ag x13] e C) ?_ ?_
  ·rintro e C ⟨x31,h,hat2⟩
   refine W_at hat2 ?_
   unfold ref12_level_j2 at h
   obtain rfl:=osj h
   exact bc ⟨rfl,[(ab).val x18,Pr.i64 x17,(ag).val x31],⟨yBox 0 ty64 aa,yT aa,yBox 1 ty97 aa,trivial⟩,aa⟩
  obtain⟨x31,hx31,h⟩:=ah h
  refine dt [(3,0,Own.box b5 ab x18),(5,1,Own.box b6 ag x31)] [Own.box b5 ab x18,Own.box b6 ag x31,Own.box b14 ab x18,Own.box b15 ag x13] hmx (by kernel_rfl) (by kernel_rfl) (show([3,5]:List Nat).Nodup by decide) (show([0,1]:List Nat).Nodup by decide) rfl rfl ?_
  refine eq1 (out:=(ab).val x18) (fun C2 hC=>(ap (R:=ab) (a:=x18) (R':=ab) 2 ty64 (Sub.refl _) (hi:=(hC 2 (by kernel_rfl)).trans rfl))) ?_
  refine eq1 (out:=Pr.i64 x17) (fun C2 hC=>eb) ?_
  refine eq1 (out:=(ag).val x31) (fun C2 hC=>(ct (cr _ hx31))) ?_
  refine eqS (fun C2 hC=>dc (R:=ab) (R':=ab) (a:=(ApiNode.mk 0 [] [] 0 0 0 0 0 [])) (y:=x18) 0 Tryz.sizeOf64 (Upd.refl _) ((hC 0 (by kernel_rfl)).trans rfl)) ?_
  refine eq1 (out:=Pr.i64 x17) (fun C2 hC=>du) ?_
  refine eqS (fun C2 hC=>dc (R:=ag) (R':=ag) (a:=(Ref12Wrong.mk 0 0)) (y:=x31) 1 Tryz.sizeOf97 (Upd.refl _) ((hC 1 (by kernel_rfl)).trans rfl)) ?_
  exact⟨x31,h,atOk⟩
 refine c8 (fun m e C=>∃(x17:Int),∃(x18:ApiNode),dj (fun s=>sx R x1 x4 x3 x2 s.1 s.2) m (x17,x18)=some z4l/\At [(0,aq bz x1),(1,Pr.i64 x2),(2,Pr.i64 x3),(3,Pr.i64 x4),(8,am b5 0),(10,am b6 0),(11,am b14 0),(12,Pr.i64 x17)] [Own.box b5 ab (ApiNode.mk 0 [] [] 0 0 0 0 0 []),Own.box b6 ag (Ref12Wrong.mk 0 0),Own.box b14 ab x18,Own.box b15 ag x13] e C) n4 ⟨x12,x11,hN4,⟨⟨aa,aa,aa,aa,aa,aa,aa,aa,trivial⟩,Pick.refl _⟩⟩ ?_
 rintro m e C ⟨x17,x18,hN4,hatl4⟩
 refine W_at hatl4 ?_
 obtain⟨m4,w4l,rfl,h4l,hn4,ho4⟩:=bj hN4
 replace h4l:sx R x1 x4 x3 x2 x17 x18=some w4l:=h4l
 unfold sx at h4l
 refine a8 (W_rs (kMvL rfl (kMv rfl (cm h4l (ref12_binds_ok x1 x17) rfl fun x21 _ h4l=>kMv rfl (kIn rfl rfl rfl ?_)))))
 refine a5 h4l rfl (fun _ h4l=> ?_) (fun _ h4l=> ?_)
 ·refine ax (az (W_rs (kMvL rfl (kMv rfl (kIn rfl rfl rfl (kMv rfl (kMv rfl (kIn rfl rfl rfl ?_))))))))
  obtain⟨⟨x23,x24,x25⟩,hx23,h4l⟩:=ah h4l
  refine kUn (ct (ih.2.1 x1 (w64 (x17+1)) x3 (w64 (x4+1)) _ hx23)) ?_
  refine kUn (hMv (out:=bk [(ab).val x23,Pr.i64 x24,(ag).val x25]) rfl) (kUn au ?_)
  refine kUn au ?_
  refine kUn au ?_
  refine bq al64 fun b26=> ?_
  refine bq al97 fun b27=>av 4 rfl rfl (Upd.refl _) rfl Tryz.sizeOf64 (kAs rfl (av 5 rfl rfl (Upd.refl _) rfl Tryz.sizeOf97 (a8 (W_rs (kUn (ai ki) ?_)))))
  refine kUn (ap 5 ty3 cb) ?_
  refine kIn rfl rfl rfl ?_
  refine a5 h4l rfl (fun _ h4l=> ?_) (fun _ h4l=> ?_)
  ·refine bh (fun e C=>ref12_level_j5 R x25=some w4l/\At [(8,am b5 0),(9,Pr.i64 0),(10,am b6 0)] [Own.box b5 ab (ApiNode.mk 0 [] [] 0 0 0 0 0 []),Own.box b6 ag x25,Own.box b14 ab x18,Own.box b15 ag x13,Own.box b26 ab x23,Own.box b27 ag x25] e C) ?_ ?_
   ·rintro e C ⟨h4l,hat5⟩
    refine W_at hat5 ?_
    unfold ref12_level_j5 at h4l
    obtain rfl:=ho4 _ (Option.some.inj h4l).symm
    replace h:some ((ApiNode.mk 0 [] [] 0 0 0 0 0 []),0,x25)=some r:=h
    obtain rfl:=osj h
    exact bc ⟨rfl,[(ab).val (ApiNode.mk 0 [] [] 0 0 0 0 0 []),Pr.i64 0,(ag).val x25],⟨yBox 0 ty64 aa,yT aa,yBox 1 ty97 aa,trivial⟩,aa⟩
   refine dt [(2,0,Own.box b5 ab (ApiNode.mk 0 [] [] 0 0 0 0 0 [])),(4,1,Own.box b6 ag x25)] [Own.box b5 ab (ApiNode.mk 0 [] [] 0 0 0 0 0 []),Own.box b6 ag x25,Own.box b14 ab x18,Own.box b15 ag x13,Own.box b26 ab x23,Own.box b27 ag x25] hmx (by kernel_rfl) (by kernel_rfl) (show([2,4]:List Nat).Nodup by decide) (show([0,1]:List Nat).Nodup by decide) rfl rfl ?_
   refine eq1 (out:=(ab).val (ApiNode.mk 0 [] [] 0 0 0 0 0 [])) (fun C2 hC=>(di bb st64 rfl)) ?_
   refine eq1 (out:=(ag).val x25) (fun C2 hC=>(ap (R:=ag) (a:=x25) (R':=ag) 5 ty97 (Sub.refl _) (hi:=(hC 5 (by kernel_rfl)).trans rfl))) ?_
   refine eqS (fun C2 hC=>dc (R:=ab) (R':=ab) (a:=(ApiNode.mk 0 [] [] 0 0 0 0 0 [])) (y:=(ApiNode.mk 0 [] [] 0 0 0 0 0 [])) 0 Tryz.sizeOf64 (Upd.refl _) ((hC 0 (by kernel_rfl)).trans rfl)) ?_
   refine eq1 (out:=Pr.i64 0) (fun C2 hC=>du) ?_
   refine eqS (fun C2 hC=>dc (R:=ag) (R':=ag) (a:=(Ref12Wrong.mk 0 0)) (y:=x25) 1 Tryz.sizeOf97 (Upd.refl _) ((hC 1 (by kernel_rfl)).trans rfl)) ?_
   exact⟨h4l,atOk⟩
  refine ax (W_rs (kMvL rfl (kMv rfl ?_)))
  obtain⟨x29,hx29,h4l⟩:=ah h4l
  refine kUn (dg Tryz.underlying41 Tryz.sizeOf45 hx29) ?_
  refine kUn (d5 fld45_1 dw) ?_
  refine kUn (cf ty9) ?_
  refine kAs rfl (W_rs (kMvL rfl (kMv rfl (kMv rfl (kUn (ap 2 ty64 (Sub.refl _)) ?_)))))
  refine kUn (ap 4 ty64 (Sub.refl _)) ?_
  refine kUn (ju (R:=ab) (ls:=([x18,x23]:List ApiNode)) el53 (Nat.le_of_ble_eq_true rfl) ⟨rfl,rfl⟩ ⟨rfl,rfl,trivial⟩) ?_
  refine cm h4l (db x1 24 x2 x24 ([x18,x23]:List ApiNode)) rfl fun x30 _ h4l=>av 2 rfl rfl (Upd.refl _) rfl Tryz.sizeOf64 (W_rs (kMv rfl (kUn (ai ef) ?_)))
  refine av 2 rfl rfl nc rfl Tryz.sizeOf9 (W_r (kMv rfl (kAs rfl ?_)))
  exact⟨m4,Nat.lt_succ_self _,x24,{x30 with Text:=x29.Text},hn4 _ (Option.some.inj h4l).symm,⟨⟨aa,aa,aa,aa,aa,aa,aa,aa,trivial⟩,Pick.of [0,1,2,3] rfl⟩⟩
 refine c6 ?_
 obtain rfl:=ho4 _ (Option.some.inj h4l).symm
 exact⟨x17,x18,h,atOk⟩
theorem F_ref12_unary_step (R:ay) (ih:fj R) (x1:List ApiToken) (x2 x3:Int) (r:ApiNode × Int × Ref12Wrong) (h:F_ref12_unary R x1 x2 x3=some r):FnP Tryz.prog 197 [aq bz x1,Pr.i64 x2,Pr.i64 x3] (bk [(ab).val r.1,Pr.i64 r.2.1,(ag).val r.2.2]):=by
 refine c4 (rs:=[.cell 6 64,.tmp 7,.cell 8 97]) Tryz.func197 rfl Tryz.ntmps197 Tryz.results197 (by decide) (fun s0=> ?_)
 unfold F_ref12_unary at h
 refine W_rs (bq al64 fun b4=>kAs rfl (bq al97 fun b5=>a8 (W_rs (kMv rfl (kIn rfl rfl rfl ?_)))))
 refine a5 h rfl (fun _ h=> ?_) (fun _ h=> ?_)
 ·refine W_rs (kUn (di bb st64 rfl) ?_)
  refine kMv rfl (kUn (fv st97 ⟨(Ref12Wrong.mk x2 0),⟨_,rfl,rfl,fun j fd hj hf=>by match j,hj with| 0,h=>exact absurd rfl h| 1,_=>cases hf;rfl|_+2,_=>cases hf⟩,⟨(Ref12Wrong.mk x2 2),⟨_,rfl,rfl,fun j fd hj hf=>by match j,hj with| 0,_=>cases hf;rfl| 1,h=>exact absurd rfl h|_+2,_=>cases hf⟩,rfl⟩⟩) ?_)
  refine av 0 rfl rfl (Upd.refl _) rfl Tryz.sizeOf64 (kAs rfl (av 1 rfl rfl (Upd.refl _) rfl Tryz.sizeOf97 ?_))
  obtain rfl:=osj h
  exact bc ⟨rfl,[(ab).val (ApiNode.mk 0 [] [] 0 0 0 0 0 []),Pr.i64 0,(ag).val (Ref12Wrong.mk x2 2)],⟨yBox 0 ty64 aa,yT aa,yBox 1 ty97 aa,trivial⟩,aa⟩
 refine ax (a8 ?_)
 refine bh (fun e C=>∃(x10:Bool),pj R x1 x2 x3 x10=some r/\At [(0,aq bz x1),(1,Pr.i64 x2),(2,Pr.i64 x3),(6,am b4 0),(8,am b5 0),(34,Pr.bool x10)] [Own.box b4 ab (ApiNode.mk 0 [] [] 0 0 0 0 0 []),Own.box b5 ag (Ref12Wrong.mk 0 0)] e C) ?_ ?_
 ·rintro e C ⟨x10,h,hat9⟩
  refine W_at hat9 ?_
  unfold pj at h
  refine a5 h rfl (fun _ h=> ?_) (fun _ h=> ?_)
  ·refine W_rs (kMvL rfl (kMv rfl (kIn rfl rfl rfl (kMv rfl (kIn rfl rfl rfl ?_)))))
   obtain⟨⟨x12,x13,x14⟩,hx12,h⟩:=ah h
   refine kUn (ct (ih.2.2.1 x1 (w64 (x2+1)) (w64 (x3+1)) _ hx12)) ?_
   refine kUn (hMv (out:=bk [(ab).val x12,Pr.i64 x13,(ag).val x14]) rfl) (kUn au ?_)
   refine kUn au ?_
   refine kUn au ?_
   refine bq al64 fun b15=> ?_
   refine bq al97 fun b16=>av 2 rfl rfl (Upd.refl _) rfl Tryz.sizeOf64 (kAs rfl (av 3 rfl rfl (Upd.refl _) rfl Tryz.sizeOf97 (a8 (W_rs (kUn (ai ki) ?_)))))
   refine kUn (ap 3 ty3 cb) ?_
   refine kIn rfl rfl rfl ?_
   refine a5 h rfl (fun _ h=> ?_) (fun _ h=> ?_)
   ·refine bh (fun e C=>ref12_unary_j1 R x14=some r/\At [(6,am b4 0),(7,Pr.i64 0),(8,am b5 0)] [Own.box b4 ab (ApiNode.mk 0 [] [] 0 0 0 0 0 []),Own.box b5 ag x14,Own.box b15 ab x12,Own.box b16 ag x14] e C) ?_ ?_
    ·rintro e C ⟨h,hat1⟩
     refine W_at hat1 ?_
     unfold ref12_unary_j1 at h
     obtain rfl:=osj h
     exact bc ⟨rfl,[(ab).val (ApiNode.mk 0 [] [] 0 0 0 0 0 []),Pr.i64 0,(ag).val x14],⟨yBox 0 ty64 aa,yT aa,yBox 1 ty97 aa,trivial⟩,aa⟩
    refine dt [(2,0,Own.box b4 ab (ApiNode.mk 0 [] [] 0 0 0 0 0 [])),(4,1,Own.box b5 ag x14)] [Own.box b4 ab (ApiNode.mk 0 [] [] 0 0 0 0 0 []),Own.box b5 ag x14,Own.box b15 ab x12,Own.box b16 ag x14] hmx (by kernel_rfl) (by kernel_rfl) (show([2,4]:List Nat).Nodup by decide) (show([0,1]:List Nat).Nodup by decide) rfl rfl ?_
    refine eq1 (out:=(ab).val (ApiNode.mk 0 [] [] 0 0 0 0 0 [])) (fun C2 hC=>(di bb st64 rfl)) ?_
    refine eq1 (out:=(ag).val x14) (fun C2 hC=>(ap (R:=ag) (a:=x14) (R':=ag) 3 ty97 (Sub.refl _) (hi:=(hC 3 (by kernel_rfl)).trans rfl))) ?_
    refine eqS (fun C2 hC=>dc (R:=ab) (R':=ab) (a:=(ApiNode.mk 0 [] [] 0 0 0 0 0 [])) (y:=(ApiNode.mk 0 [] [] 0 0 0 0 0 [])) 0 Tryz.sizeOf64 (Upd.refl _) ((hC 0 (by kernel_rfl)).trans rfl)) ?_
    refine eq1 (out:=Pr.i64 0) (fun C2 hC=>du) ?_
    refine eqS (fun C2 hC=>dc (R:=ag) (R':=ag) (a:=(Ref12Wrong.mk 0 0)) (y:=x14) 1 Tryz.sizeOf97 (Upd.refl _) ((hC 1 (by kernel_rfl)).trans rfl)) ?_
    exact⟨h,atOk⟩
   refine ax (W_rs (kAs rfl ?_))
   refine bh (fun e C=>∃(x20:Int),sw R x1 x2 x13 x12 x20=some r/\At [(0,aq bz x1),(1,Pr.i64 x2),(6,am b4 0),(8,am b5 0),(9,am b15 0),(10,Pr.i64 x13),(12,Pr.i64 x20)] [Own.box b4 ab (ApiNode.mk 0 [] [] 0 0 0 0 0 []),Own.box b5 ag (Ref12Wrong.mk 0 0),Own.box b15 ab x12,Own.box b16 ag x14] e C) ?_ ?_
   ·rintro e C ⟨x20,h,hat2⟩
    refine W_at hat2 ?_
    unfold sw at h
    refine W_rs (kMvL rfl (kMv rfl (kMv rfl (kMv rfl (kUn (ap 2 ty64 (Sub.refl _)) ?_)))))
    refine kUn (cl (R:=ab) (a:=x12) el53 (Nat.le_of_ble_eq_true rfl)) ?_
    refine cm h (db x1 x20 x2 x13 ([x12]:List ApiNode)) rfl fun x21 _ h=>kMv rfl (cm h (cr) rfl fun x22 _ h=>av 0 rfl rfl (Upd.refl _) rfl Tryz.sizeOf64 (kAs rfl (av 1 rfl rfl (Upd.refl _) rfl Tryz.sizeOf97 ?_)))
    obtain rfl:=osj h
    exact bc ⟨rfl,[(ab).val x21,Pr.i64 x13,(ag).val x22],⟨yBox 0 ty64 aa,yT aa,yBox 1 ty97 aa,trivial⟩,aa⟩
   refine W_rs (kMvL rfl (kMv rfl ?_))
   obtain⟨x18,hx18,h⟩:=ah h
   refine kUn (dg Tryz.underlying41 Tryz.sizeOf45 hx18) ?_
   refine kUn (d5 fld45_1 dw) ?_
   refine kUn (cf ty9) ?_
   refine kSt rfl rfl rfl ?_
   refine a5 h rfl (fun _ h=> ?_) (fun _ h=> ?_)
   ·refine W_r (kAs rfl ?_)
    exact⟨23,h,atOk⟩
   refine ax ?_
   exact⟨22,h,atOk⟩
  refine ax (W_rs (kMvL rfl (kMv rfl (kMv rfl (kIn rfl rfl rfl ?_)))))
  obtain⟨⟨x23,x24,x25⟩,hx23,h⟩:=ah h
  refine kUn (ct (ih.2.2.2.1 x1 x2 (w64 (x3+1)) _ hx23)) ?_
  refine kUn (hMv (out:=bk [(ab).val x23,Pr.i64 x24,(ag).val x25]) rfl) (kUn au ?_)
  refine kUn au ?_
  refine kUn au ?_
  refine bq al64 fun b26=> ?_
  refine bq al97 fun b27=>av 2 rfl rfl (Upd.refl _) rfl Tryz.sizeOf64 (kAs rfl (av 3 rfl rfl (Upd.refl _) rfl Tryz.sizeOf97 (a8 (W_rs (kUn (ai ki) ?_)))))
  refine kUn (ap 3 ty3 cb) ?_
  refine kIn rfl rfl rfl ?_
  refine a5 h rfl (fun _ h=> ?_) (fun _ h=> ?_)
  ·refine bh (fun e C=>ref12_unary_j3 R x25=some r/\At [(6,am b4 0),(7,Pr.i64 0),(8,am b5 0)] [Own.box b4 ab (ApiNode.mk 0 [] [] 0 0 0 0 0 []),Own.box b5 ag x25,Own.box b26 ab x23,Own.box b27 ag x25] e C) ?_ ?_
   ·rintro e C ⟨h,hat3⟩
    refine W_at hat3 ?_
    unfold ref12_unary_j3 at h
    obtain rfl:=osj h
    exact bc ⟨rfl,[(ab).val (ApiNode.mk 0 [] [] 0 0 0 0 0 []),Pr.i64 0,(ag).val x25],⟨yBox 0 ty64 aa,yT aa,yBox 1 ty97 aa,trivial⟩,aa⟩
   refine dt [(2,0,Own.box b4 ab (ApiNode.mk 0 [] [] 0 0 0 0 0 [])),(4,1,Own.box b5 ag x25)] [Own.box b4 ab (ApiNode.mk 0 [] [] 0 0 0 0 0 []),Own.box b5 ag x25,Own.box b26 ab x23,Own.box b27 ag x25] hmx (by kernel_rfl) (by kernel_rfl) (show([2,4]:List Nat).Nodup by decide) (show([0,1]:List Nat).Nodup by decide) rfl rfl ?_
   refine eq1 (out:=(ab).val (ApiNode.mk 0 [] [] 0 0 0 0 0 [])) (fun C2 hC=>(di bb st64 rfl)) ?_
   refine eq1 (out:=(ag).val x25) (fun C2 hC=>(ap (R:=ag) (a:=x25) (R':=ag) 3 ty97 (Sub.refl _) (hi:=(hC 3 (by kernel_rfl)).trans rfl))) ?_
   refine eqS (fun C2 hC=>dc (R:=ab) (R':=ab) (a:=(ApiNode.mk 0 [] [] 0 0 0 0 0 [])) (y:=(ApiNode.mk 0 [] [] 0 0 0 0 0 [])) 0 Tryz.sizeOf64 (Upd.refl _) ((hC 0 (by kernel_rfl)).trans rfl)) ?_
   refine eq1 (out:=Pr.i64 0) (fun C2 hC=>du) ?_
   refine eqS (fun C2 hC=>dc (R:=ag) (R':=ag) (a:=(Ref12Wrong.mk 0 0)) (y:=x25) 1 Tryz.sizeOf97 (Upd.refl _) ((hC 1 (by kernel_rfl)).trans rfl)) ?_
   exact⟨h,atOk⟩
  refine ax (a8 (az ?_))
  obtain⟨z6l,hz6,h⟩:=ah h
  obtain⟨n6,hN6⟩:=bp hz6
  refine cq 0 (fun e C=>∃(x29:Int),∃(x30:ApiNode),ref12_unary_k5 R x29 x30=some r/\At [(6,am b4 0),(8,am b5 0),(13,am b26 0),(14,Pr.i64 x29)] [Own.box b4 ab (ApiNode.mk 0 [] [] 0 0 0 0 0 []),Own.box b5 ag (Ref12Wrong.mk 0 0),Own.box b26 ab x30,Own.box b27 ag x25] e C) ?_ ?_
  ·rintro e C ⟨x29,x30,h,hat5⟩
   refine W_at hat5 ?_
   unfold ref12_unary_k5 at h
   refine bh (fun e C=>∃(x55:Ref12Wrong),ref12_unary_j4 R x30 x29 x55=some r/\At [(6,am b4 0),(7,Pr.i64 x29),(8,am b5 0)] [Own.box b4 ab x30,Own.box b5 ag x55,Own.box b26 ab x30,Own.box b27 ag x25] e C) ?_ ?_
   ·rintro e C ⟨x55,h,hat4⟩
    refine W_at hat4 ?_
    unfold ref12_unary_j4 at h
    obtain rfl:=osj h
    exact bc ⟨rfl,[(ab).val x30,Pr.i64 x29,(ag).val x55],⟨yBox 0 ty64 aa,yT aa,yBox 1 ty97 aa,trivial⟩,aa⟩
   obtain⟨x55,hx55,h⟩:=ah h
   refine dt [(3,0,Own.box b4 ab x30),(5,1,Own.box b5 ag x55)] [Own.box b4 ab x30,Own.box b5 ag x55,Own.box b26 ab x30,Own.box b27 ag x25] hmx (by kernel_rfl) (by kernel_rfl) (show([3,5]:List Nat).Nodup by decide) (show([0,1]:List Nat).Nodup by decide) rfl rfl ?_
   refine eq1 (out:=(ab).val x30) (fun C2 hC=>(ap (R:=ab) (a:=x30) (R':=ab) 2 ty64 (Sub.refl _) (hi:=(hC 2 (by kernel_rfl)).trans rfl))) ?_
   refine eq1 (out:=Pr.i64 x29) (fun C2 hC=>eb) ?_
   refine eq1 (out:=(ag).val x55) (fun C2 hC=>(ct (cr _ hx55))) ?_
   refine eqS (fun C2 hC=>dc (R:=ab) (R':=ab) (a:=(ApiNode.mk 0 [] [] 0 0 0 0 0 [])) (y:=x30) 0 Tryz.sizeOf64 (Upd.refl _) ((hC 0 (by kernel_rfl)).trans rfl)) ?_
   refine eq1 (out:=Pr.i64 x29) (fun C2 hC=>du) ?_
   refine eqS (fun C2 hC=>dc (R:=ag) (R':=ag) (a:=(Ref12Wrong.mk 0 0)) (y:=x55) 1 Tryz.sizeOf97 (Upd.refl _) ((hC 1 (by kernel_rfl)).trans rfl)) ?_
   exact⟨x55,h,atOk⟩
  refine c8 (fun m e C=>∃(x29:Int),∃(x30:ApiNode),dj (fun s=>su R x1 x3 x2 s.1 s.2) m (x29,x30)=some z6l/\At [(0,aq bz x1),(1,Pr.i64 x2),(2,Pr.i64 x3),(6,am b4 0),(8,am b5 0),(13,am b26 0),(14,Pr.i64 x29)] [Own.box b4 ab (ApiNode.mk 0 [] [] 0 0 0 0 0 []),Own.box b5 ag (Ref12Wrong.mk 0 0),Own.box b26 ab x30,Own.box b27 ag x25] e C) n6 ⟨x24,x23,hN6,⟨⟨aa,aa,aa,aa,aa,aa,aa,trivial⟩,Pick.refl _⟩⟩ ?_
  rintro m e C ⟨x29,x30,hN6,hatl6⟩
  refine W_at hatl6 ?_
  obtain⟨m6,w6l,rfl,h6l,hn6,ho6⟩:=bj hN6
  replace h6l:su R x1 x3 x2 x29 x30=some w6l:=h6l
  unfold su at h6l
  refine a8 (W_rs (kMvL rfl (kMv rfl (cm h6l (bu x1 x29 ([46]:List UInt8)) rfl fun x33 _ h6l=> ?_))))
  refine a5 h6l rfl (fun _ h6l=> ?_) (fun _ h6l=> ?_)
  ·refine ax (az (a8 (W_rs (kMvL rfl (kMv rfl (kIn rfl rfl rfl (cm h6l (il x1 (w64 (x29+1))) rfl fun x35 _ h6l=>kNo rfl ?_)))))))
   refine a5 h6l rfl (fun _ h6l=> ?_) (fun _ h6l=> ?_)
   ·refine W_rs (kUn (di bb st64 rfl) ?_)
    refine kMv rfl (kIn rfl rfl rfl (cm h6l (cg (w64 (x29+1))) rfl fun x37 _ h6l=>av 0 rfl rfl (Upd.refl _) rfl Tryz.sizeOf64 (kAs rfl (av 1 rfl rfl (Upd.refl _) rfl Tryz.sizeOf97 ?_))))
    obtain rfl:=ho6 _ (Option.some.inj h6l).symm
    replace h:some ((ApiNode.mk 0 [] [] 0 0 0 0 0 []),0,x37)=some r:=h
    obtain rfl:=osj h
    exact bc ⟨rfl,[(ab).val (ApiNode.mk 0 [] [] 0 0 0 0 0 []),Pr.i64 0,(ag).val x37],⟨yBox 0 ty64 aa,yT aa,yBox 1 ty97 aa,trivial⟩,aa⟩
   refine ax (W_rs (kMv rfl (kIn rfl rfl rfl (kAs rfl (W_rs (kAs rfl (W_rs (kUn (ap 2 ty64 (Sub.refl _)) ?_))))))))
   refine rBuildV (R:=ab) (ls:=([x30]:List ApiNode)) el53 (Nat.le_of_ble_eq_true rfl) ⟨rfl,rfl⟩ ⟨rfl,trivial⟩ (fun v38=> ?_)
   refine kAs rfl (W_rs (kMv rfl (kIn rfl rfl rfl (kAs rfl ?_))))
   refine bh (fun e C=>∃(x48:Int),∃(x49:Int),∃(x51:List ApiNode),∃(v50:Value),sv R x1 x2 x29 x48 x49 x51=some w6l/\At [(0,aq bz x1),(1,Pr.i64 x2),(2,Pr.i64 x3),(6,am b4 0),(8,am b5 0),(13,am b26 0),(14,Pr.i64 x48),(16,Pr.i64 (w64 (x29+1))),(17,Pr.i64 x49),(18,Pr.is v50)] [Own.box b4 ab (ApiNode.mk 0 [] [] 0 0 0 0 0 []),Own.box b5 ag (Ref12Wrong.mk 0 0),Own.box b26 ab x30,Own.box b27 ag x25,Own.vec v50 ab x51 64] e C) ?_ ?_
   ·rintro e C ⟨x48,x49,x51,v50,h6l,hat7⟩
    refine W_at hat7 ?_
    unfold sv at h6l
    refine W_rs (kMvL rfl (kMv rfl (kMv rfl (kMv rfl (kMv rfl ?_)))))
    obtain⟨x52,hx52,h6l⟩:=ah h6l
    refine rRel 4 [18,123] ?_ rfl ⟨rfl,rfl,trivial⟩
    refine kUn (ct (db x1 x49 x2 x48 x51 _ hx52)) ?_
    refine av 2 rfl rfl (Upd.refl _) rfl Tryz.sizeOf64 (W_rs (kMvL rfl (kMv rfl ?_)))
    obtain⟨x53,hx53,h6l⟩:=ah h6l
    refine kUn (dg Tryz.underlying41 Tryz.sizeOf45 hx53) ?_
    refine kUn (d5 fld45_1 dw) ?_
    refine kUn (cf ty9) ?_
    refine kUn (ai ef) ?_
    refine av 2 rfl rfl nc rfl Tryz.sizeOf9 (W_r (kMvL rfl (kMv rfl ?_)))
    obtain⟨x54,hx54,h6l⟩:=ah h6l
    refine kUn (dg Tryz.underlying41 Tryz.sizeOf45 hx54) ?_
    refine kUn (d5 fld45_2 ii) ?_
    refine kUn (cf ty3) ?_
    refine kUn (ai my) ?_
    refine av 2 rfl rfl updApiNode_At rfl Tryz.sizeOf3 ?_
    exact⟨m6,Nat.lt_succ_self _,x48,{{x52 with Text:=x53.Text} with At:=x54.At},hn6 _ (Option.some.inj h6l).symm,atOk⟩
   refine W_rs (kMvL rfl (kMv rfl (cm h6l (bu x1 (w64 ((w64 (x29+1))+1)) ([40]:List UInt8)) rfl fun x39 _ h6l=> ?_)))
   refine a5 h6l rfl (fun _ h6l=> ?_) (fun _ h6l=> ?_)
   ·refine W_rs (kMvL rfl (kMv rfl (kIn rfl rfl rfl (kMv rfl (kIn rfl rfl rfl ?_)))))
    obtain⟨⟨x41,x42,x43⟩,hx41,h6l⟩:=ah h6l
    refine kUn (ct (ih.2.2.2.2 x1 (w64 ((w64 ((w64 (x29+1))+1))+1)) (w64 (x3+1)) _ hx41)) ?_
    refine kUn (hMv (out:=bk [aq ab x41,Pr.i64 x42,(ag).val x43]) rfl) (kUn au ?_)
    refine kUn au ?_
    refine kUn au ?_
    refine bq al97 fun b44=>kAsL rfl (kAs rfl (av 5 rfl rfl (Upd.refl _) rfl Tryz.sizeOf97 (a8 (W_rs (kUn (ai ki) ?_)))))
    refine kUn (ap 5 ty3 cb) ?_
    refine kIn rfl rfl rfl ?_
    refine a5 h6l rfl (fun _ h6l=> ?_) (fun _ h6l=> ?_)
    ·refine bh (fun e C=>ref12_unary_j8 R x43=some w6l/\At [(6,am b4 0),(7,Pr.i64 0),(8,am b5 0)] [Own.box b4 ab (ApiNode.mk 0 [] [] 0 0 0 0 0 []),Own.box b5 ag x43,Own.box b26 ab x30,Own.box b27 ag x25,Own.box b44 ag x43] e C) ?_ ?_
     ·rintro e C ⟨h6l,hat8⟩
      refine W_at hat8 ?_
      unfold ref12_unary_j8 at h6l
      obtain rfl:=ho6 _ (Option.some.inj h6l).symm
      replace h:some ((ApiNode.mk 0 [] [] 0 0 0 0 0 []),0,x43)=some r:=h
      obtain rfl:=osj h
      exact bc ⟨rfl,[(ab).val (ApiNode.mk 0 [] [] 0 0 0 0 0 []),Pr.i64 0,(ag).val x43],⟨yBox 0 ty64 aa,yT aa,yBox 1 ty97 aa,trivial⟩,aa⟩
     refine dt [(2,0,Own.box b4 ab (ApiNode.mk 0 [] [] 0 0 0 0 0 [])),(4,1,Own.box b5 ag x43)] [Own.box b4 ab (ApiNode.mk 0 [] [] 0 0 0 0 0 []),Own.box b5 ag x43,Own.box b26 ab x30,Own.box b27 ag x25,Own.vec v38 ab ([x30]:List ApiNode) 64,Own.box b44 ag x43] hmx (by kernel_rfl) (by kernel_rfl) (show([2,4]:List Nat).Nodup by decide) (show([0,1]:List Nat).Nodup by decide) rfl rfl ?_
     refine eq1 (out:=(ab).val (ApiNode.mk 0 [] [] 0 0 0 0 0 [])) (fun C2 hC=>(di bb st64 rfl)) ?_
     refine eq1 (out:=(ag).val x43) (fun C2 hC=>(ap (R:=ag) (a:=x43) (R':=ag) 5 ty97 (Sub.refl _) (hi:=(hC 5 (by kernel_rfl)).trans rfl))) ?_
     refine eqS (fun C2 hC=>dc (R:=ab) (R':=ab) (a:=(ApiNode.mk 0 [] [] 0 0 0 0 0 [])) (y:=(ApiNode.mk 0 [] [] 0 0 0 0 0 [])) 0 Tryz.sizeOf64 (Upd.refl _) ((hC 0 (by kernel_rfl)).trans rfl)) ?_
     refine eq1 (out:=Pr.i64 0) (fun C2 hC=>du) ?_
     refine eqS (fun C2 hC=>dc (R:=ag) (R':=ag) (a:=(Ref12Wrong.mk 0 0)) (y:=x43) 1 Tryz.sizeOf97 (Upd.refl _) ((hC 1 (by kernel_rfl)).trans rfl)) ?_
     exact⟨h6l,⟨⟨aa,aa,aa,trivial⟩,Pick.of [0,1,2,3,5] rfl⟩⟩
    refine ax (W_rs (kAs rfl (W_rs (kMv rfl (kMvL rfl ?_)))))
    obtain⟨x46,hx46,h6l⟩:=ah h6l
    refine ev 4 el53 hx46 (fun v47=> ?_)
    refine kAs rfl (W_r (kMv rfl (kAs rfl ?_)))
    exact⟨x42,20,x46,v47,h6l,⟨⟨aa,aa,aa,aa,aa,aa,aa,aa,aa,aa,trivial⟩,Pick.of [0,1,2,3,4] rfl⟩⟩
   refine ax ?_
   exact⟨w64 ((w64 (x29+1))+1),18,([x30]:List ApiNode),v38,h6l,atOk⟩
  refine c6 ?_
  obtain rfl:=ho6 _ (Option.some.inj h6l).symm
  exact⟨x29,x30,h,atOk⟩
 refine W_r (kMvL rfl (kMv rfl (cm h (bu x1 x2 ([33]:List UInt8)) rfl fun x7 _ h=>kMv rfl ?_)))
 rcases bo h with⟨hc8,h⟩|⟨hc8,h⟩
 ·refine kSkF rfl aa hc8 (kSkF rfl aa hc8 (kSkF rfl aa hc8 (kPt rfl hc8 rfl ?_)))
  exact⟨true,h,atOk⟩
 refine kGd rfl aa hc8 (hMvL rfl) (kGd rfl aa hc8 (hMvA rfl) ?_)
 obtain⟨x9,hx9,h⟩:=ah h
 refine kGd rfl aa hc8 (ct (bu x1 x2 ([45]:List UInt8) _ hx9)) ?_
 refine kPf rfl hc8 rfl ?_
 exact⟨x9,h,atOk⟩
theorem F_ref12_primary_step (R:ay) (ih:fj R) (x1:List ApiToken) (x2 x3:Int) (r:ApiNode × Int × Ref12Wrong) (h:q6 R x1 x2 x3=some r):FnP Tryz.prog 201 [aq bz x1,Pr.i64 x2,Pr.i64 x3] (bk [(ab).val r.1,Pr.i64 r.2.1,(ag).val r.2.2]):=by
 refine c4 (rs:=[.cell 6 64,.tmp 7,.cell 8 97]) Tryz.func201 rfl Tryz.ntmps201 Tryz.results201 (by decide) (fun s0=> ?_)
 unfold q6 at h
 refine W_rs (bq al64 fun b4=>kAs rfl (bq al97 fun b5=>a8 (az (W_rs (kMvL rfl (kMv rfl ?_))))))
 obtain⟨x6,hx6,h⟩:=ah h
 refine kUn (dg Tryz.underlying41 Tryz.sizeOf45 hx6) ?_
 refine kUn (d5 fld45_0 o0) ?_
 refine kUn (cf ty3) ?_
 refine kIn rfl rfl rfl (kAs rfl ?_)
 refine a5 h rfl (fun _ h=> ?_) (fun _ h=> ?_)
 ·refine W_rs (kMvL rfl (kMv rfl (kMv rfl (kIn rfl rfl rfl ?_))))
  obtain⟨x8,hx8,h⟩:=ah h
  refine kUn (qCall' (db x1 13 x2 (w64 (x2+1)) [] _ hx8) ⟨aa,aa,aa,aa,c7 _,trivial⟩) ?_
  refine bq al64 fun b9=>av 2 rfl rfl (Upd.refl _) rfl Tryz.sizeOf64 (a8 (W_rs (kAs rfl (az ?_))))
  obtain⟨z3l,hz3,h⟩:=ah h
  obtain⟨n3,hN3⟩:=bp hz3
  refine cq 1 (fun e C=>∃(x11:ApiNode),tg R x2 x11=some r/\At [(1,Pr.i64 x2),(6,am b4 0),(8,am b5 0),(9,am b9 0)] [Own.box b4 ab (ApiNode.mk 0 [] [] 0 0 0 0 0 []),Own.box b5 ag (Ref12Wrong.mk 0 0),Own.box b9 ab x11] e C) ?_ ?_
  ·rintro e C ⟨x11,h,hat2⟩
   refine W_at hat2 ?_
   unfold tg at h
   refine bh (fun e C=>∃(x18:Ref12Wrong),tp R x11 x2 x18=some r/\At [(6,am b4 0),(7,Pr.i64 (w64 (x2+1))),(8,am b5 0)] [Own.box b4 ab x11,Own.box b5 ag x18,Own.box b9 ab x11] e C) ?_ ?_
   ·rintro e C ⟨x18,h,hat1⟩
    refine W_at hat1 ?_
    unfold tp at h
    obtain rfl:=osj h
    exact bc ⟨rfl,[(ab).val x11,Pr.i64 (w64 (x2+1)),(ag).val x18],⟨yBox 0 ty64 aa,yT aa,yBox 1 ty97 aa,trivial⟩,aa⟩
   obtain⟨x18,hx18,h⟩:=ah h
   refine dt [(4,0,Own.box b4 ab x11),(6,1,Own.box b5 ag x18)] [Own.box b4 ab x11,Own.box b5 ag x18,Own.box b9 ab x11] hmx (by kernel_rfl) (by kernel_rfl) (show([4,6]:List Nat).Nodup by decide) (show([0,1]:List Nat).Nodup by decide) rfl rfl ?_
   refine eq1 (out:=(ab).val x11) (fun C2 hC=>(ap (R:=ab) (a:=x11) (R':=ab) 2 ty64 (Sub.refl _) (hi:=(hC 2 (by kernel_rfl)).trans rfl))) ?_
   refine eq1 (out:=Pr.i64 x2) (fun C2 hC=>eb) ?_
   refine eq1 (out:=Pr.i64 (w64 (x2+1))) (fun C2 hC=>qInt) ?_
   refine eq1 (out:=(ag).val x18) (fun C2 hC=>(ct (cr _ hx18))) ?_
   refine eqS (fun C2 hC=>dc (R:=ab) (R':=ab) (a:=(ApiNode.mk 0 [] [] 0 0 0 0 0 [])) (y:=x11) 0 Tryz.sizeOf64 (Upd.refl _) ((hC 0 (by kernel_rfl)).trans rfl)) ?_
   refine eq1 (out:=Pr.i64 (w64 (x2+1))) (fun C2 hC=>du) ?_
   refine eqS (fun C2 hC=>dc (R:=ag) (R':=ag) (a:=(Ref12Wrong.mk 0 0)) (y:=x18) 1 Tryz.sizeOf97 (Upd.refl _) ((hC 1 (by kernel_rfl)).trans rfl)) ?_
   exact⟨x18,h,atOk⟩
  refine c8 (fun m e C=>∃(x10:Int),∃(x11:ApiNode),dj (fun s=>o3 R x1 x2 s.1 s.2) m (x10,x11)=some z3l/\At [(0,aq bz x1),(1,Pr.i64 x2),(6,am b4 0),(8,am b5 0),(9,am b9 0),(10,Pr.i64 x10)] [Own.box b4 ab (ApiNode.mk 0 [] [] 0 0 0 0 0 []),Own.box b5 ag (Ref12Wrong.mk 0 0),Own.box b9 ab x11] e C) n3 ⟨0,x8,hN3,⟨⟨aa,aa,aa,aa,aa,aa,trivial⟩,Pick.refl _⟩⟩ ?_
  rintro m e C ⟨x10,x11,hN3,hatl3⟩
  refine W_at hatl3 ?_
  obtain⟨m3,w3l,rfl,h3l,hn3,ho3⟩:=bj hN3
  replace h3l:o3 R x1 x2 x10 x11=some w3l:=h3l
  unfold o3 at h3l
  refine a8 (W_rs (kMv rfl (kMvL rfl (kMv rfl ?_))))
  obtain⟨x14,hx14,h3l⟩:=ah h3l
  refine kUn (dg Tryz.underlying41 Tryz.sizeOf45 hx14) ?_
  refine kUn (d5 fld45_1 dw) ?_
  refine kUn (cf ty9) ?_
  refine kUn (qLenS rfl Tryz.underlying9) ?_
  refine kIn rfl rfl rfl ?_
  refine a5 h3l rfl (fun _ h3l=> ?_) (fun _ h3l=> ?_)
  ·refine ax (a8 (az ?_))
   refine eo 14 hmx (by kernel_rfl) (by kernel_rfl) ?_
   refine lUn (ai fld64_3) ?_
   refine lUn (ap 2 ty2 subApiNode_N) ?_
   refine lUn (qInt rfl rfl rfl) (lUn (hMvL rfl) (lUn (hMvA rfl) ?_))
   obtain⟨x16,hx16,h3l⟩:=ah h3l
   refine lUn (dg Tryz.underlying41 Tryz.sizeOf45 hx16) ?_
   refine lUn (d5 fld45_1 dw) ?_
   refine lUn (cf ty9) ?_
   refine lUn (hMvA rfl) ?_
   obtain⟨x17,hx17,h3l⟩:=ah h3l
   refine lUn (qIdxS Tryz.underlying9 hx17) ?_
   refine lUn (qInt rfl rfl rfl) (lUn (qConv Tryz.underlying5 Tryz.underlying2) ?_)
   refine lUn (qInt rfl rfl rfl) (lUn (ai fld64_3) ?_)
   refine av 2 rfl rfl updApiNode_N rfl Tryz.sizeOf2 (W_r (kMv rfl (kIn rfl rfl rfl (kAs rfl ?_))))
   exact⟨m3,Nat.lt_succ_self _,w64 (x10+1),{x11 with N:=w64 ((w64 (10 * x11.N))+(w64 (IntKind.wrap .u8 (x17 - 48))))},hn3 _ (Option.some.inj h3l).symm,atOk⟩
  refine c6 ?_
  obtain rfl:=ho3 _ (Option.some.inj h3l).symm
  exact⟨x11,h,atOk⟩
 refine W_rs (kMvL rfl (kMv rfl (cm h (bu x1 x2 ([116,114,117,101]:List UInt8)) rfl fun x19 _ h=>kAs rfl ?_)))
 refine a5 h rfl (fun _ h=> ?_) (fun _ h=> ?_)
 ·refine W_rs (kMvL rfl (kMv rfl (kMv rfl (kIn rfl rfl rfl ?_))))
  obtain⟨x21,hx21,h⟩:=ah h
  refine kUn (qCall' (db x1 14 x2 (w64 (x2+1)) [] _ hx21) ⟨aa,aa,aa,aa,c7 _,trivial⟩) ?_
  refine bq al64 fun b22=>av 2 rfl rfl (Upd.refl _) rfl Tryz.sizeOf64 (W_rs (kUn (ai fld64_3) ?_))
  refine av 2 rfl rfl updApiNode_N rfl Tryz.sizeOf2 ?_
  refine bh (fun e C=>∃(x23:Ref12Wrong),tn R x21 x2 x23=some r/\At [(6,am b4 0),(7,Pr.i64 (w64 (x2+1))),(8,am b5 0)] [Own.box b4 ab ({x21 with N:=1}),Own.box b5 ag x23,Own.box b22 ab ({x21 with N:=1})] e C) ?_ ?_
  ·rintro e C ⟨x23,h,hat4⟩
   refine W_at hat4 ?_
   unfold tn at h
   obtain rfl:=osj h
   exact bc ⟨rfl,[(ab).val ({x21 with N:=1}),Pr.i64 (w64 (x2+1)),(ag).val x23],⟨yBox 0 ty64 aa,yT aa,yBox 1 ty97 aa,trivial⟩,aa⟩
  obtain⟨x23,hx23,h⟩:=ah h
  refine dt [(4,0,Own.box b4 ab ({x21 with N:=1})),(6,1,Own.box b5 ag x23)] [Own.box b4 ab ({x21 with N:=1}),Own.box b5 ag x23,Own.box b22 ab ({x21 with N:=1})] hmx (by kernel_rfl) (by kernel_rfl) (show([4,6]:List Nat).Nodup by decide) (show([0,1]:List Nat).Nodup by decide) rfl rfl ?_
  refine eq1 (out:=(ab).val ({x21 with N:=1})) (fun C2 hC=>(ap (R:=ab) (a:={x21 with N:=1}) (R':=ab) 2 ty64 (Sub.refl _) (hi:=(hC 2 (by kernel_rfl)).trans rfl))) ?_
  refine eq1 (out:=Pr.i64 x2) (fun C2 hC=>eb) ?_
  refine eq1 (out:=Pr.i64 (w64 (x2+1))) (fun C2 hC=>qInt) ?_
  refine eq1 (out:=(ag).val x23) (fun C2 hC=>(ct (cr _ hx23))) ?_
  refine eqS (fun C2 hC=>dc (R:=ab) (R':=ab) (a:=(ApiNode.mk 0 [] [] 0 0 0 0 0 [])) (y:={x21 with N:=1}) 0 Tryz.sizeOf64 (Upd.refl _) ((hC 0 (by kernel_rfl)).trans rfl)) ?_
  refine eq1 (out:=Pr.i64 (w64 (x2+1))) (fun C2 hC=>du) ?_
  refine eqS (fun C2 hC=>dc (R:=ag) (R':=ag) (a:=(Ref12Wrong.mk 0 0)) (y:=x23) 1 Tryz.sizeOf97 (Upd.refl _) ((hC 1 (by kernel_rfl)).trans rfl)) ?_
  exact⟨x23,h,atOk⟩
 refine W_rs (kMvL rfl (kMv rfl (cm h (bu x1 x2 ([102,97,108,115,101]:List UInt8)) rfl fun x24 _ h=>kAs rfl ?_)))
 refine a5 h rfl (fun _ h=> ?_) (fun _ h=> ?_)
 ·refine W_rs (kMvL rfl (kMv rfl (kMv rfl (kIn rfl rfl rfl ?_))))
  obtain⟨x26,hx26,h⟩:=ah h
  refine kUn (qCall' (db x1 14 x2 (w64 (x2+1)) [] _ hx26) ⟨aa,aa,aa,aa,c7 _,trivial⟩) ?_
  refine kMv rfl (kIn rfl rfl rfl (cm h (cr) rfl fun x27 _ h=>av 0 rfl rfl (Upd.refl _) rfl Tryz.sizeOf64 (kAs rfl (av 1 rfl rfl (Upd.refl _) rfl Tryz.sizeOf97 ?_))))
  obtain rfl:=osj h
  exact bc ⟨rfl,[(ab).val x26,Pr.i64 (w64 (x2+1)),(ag).val x27],⟨yBox 0 ty64 aa,yT aa,yBox 1 ty97 aa,trivial⟩,aa⟩
 refine W_rs (kMvL rfl (kMv rfl (cm h (bu x1 x2 ([110,117,108,108]:List UInt8)) rfl fun x28 _ h=>kAs rfl ?_)))
 refine a5 h rfl (fun _ h=> ?_) (fun _ h=> ?_)
 ·refine W_rs (kMvL rfl (kMv rfl (kMv rfl (kIn rfl rfl rfl ?_))))
  obtain⟨x30,hx30,h⟩:=ah h
  refine kUn (qCall' (db x1 15 x2 (w64 (x2+1)) [] _ hx30) ⟨aa,aa,aa,aa,c7 _,trivial⟩) ?_
  refine kMv rfl (kIn rfl rfl rfl (cm h (cr) rfl fun x31 _ h=>av 0 rfl rfl (Upd.refl _) rfl Tryz.sizeOf64 (kAs rfl (av 1 rfl rfl (Upd.refl _) rfl Tryz.sizeOf97 ?_))))
  obtain rfl:=osj h
  exact bc ⟨rfl,[(ab).val x30,Pr.i64 (w64 (x2+1)),(ag).val x31],⟨yBox 0 ty64 aa,yT aa,yBox 1 ty97 aa,trivial⟩,aa⟩
 refine W_rs (kMvL rfl (kMv rfl (cm h (bu x1 x2 ([116,104,105,115]:List UInt8)) rfl fun x32 _ h=>kAs rfl ?_)))
 refine a5 h rfl (fun _ h=> ?_) (fun _ h=> ?_)
 ·refine W_rs (kMvL rfl (kMv rfl (kMv rfl (kIn rfl rfl rfl ?_))))
  obtain⟨x34,hx34,h⟩:=ah h
  refine kUn (qCall' (db x1 16 x2 (w64 (x2+1)) [] _ hx34) ⟨aa,aa,aa,aa,c7 _,trivial⟩) ?_
  refine kMv rfl (kIn rfl rfl rfl (cm h (cr) rfl fun x35 _ h=>av 0 rfl rfl (Upd.refl _) rfl Tryz.sizeOf64 (kAs rfl (av 1 rfl rfl (Upd.refl _) rfl Tryz.sizeOf97 ?_))))
  obtain rfl:=osj h
  exact bc ⟨rfl,[(ab).val x34,Pr.i64 (w64 (x2+1)),(ag).val x35],⟨yBox 0 ty64 aa,yT aa,yBox 1 ty97 aa,trivial⟩,aa⟩
 refine W_rs (kMvL rfl (kMv rfl (cm h (bu x1 x2 ([110,101,119]:List UInt8)) rfl fun x36 _ h=>kAs rfl ?_)))
 refine a5 h rfl (fun _ h=> ?_) (fun _ h=> ?_)
 ·refine a8 (W_rs (kMvL rfl (kMv rfl (kIn rfl rfl rfl (cm h (il x1 (w64 (x2+1))) rfl fun x38 _ h=>kNo rfl ?_)))))
  refine a5 h rfl (fun _ h=> ?_) (fun _ h=> ?_)
  ·refine W_rs (kUn (di bb st64 rfl) ?_)
   refine kMv rfl (kIn rfl rfl rfl (cm h (cg (w64 (x2+1))) rfl fun x40 _ h=>av 0 rfl rfl (Upd.refl _) rfl Tryz.sizeOf64 (kAs rfl (av 1 rfl rfl (Upd.refl _) rfl Tryz.sizeOf97 ?_))))
   obtain rfl:=osj h
   exact bc ⟨rfl,[(ab).val (ApiNode.mk 0 [] [] 0 0 0 0 0 []),Pr.i64 0,(ag).val x40],⟨yBox 0 ty64 aa,yT aa,yBox 1 ty97 aa,trivial⟩,aa⟩
  refine ax (a8 (W_rs (kMvL rfl (kMv rfl (kIn rfl rfl rfl (cm h (bu x1 (w64 (x2+2)) ([40]:List UInt8)) rfl fun x41 _ h=>kNo rfl ?_))))))
  refine a5 h rfl (fun _ h=> ?_) (fun _ h=> ?_)
  ·refine W_rs (kUn (di bb st64 rfl) ?_)
   refine kMv rfl (kIn rfl rfl rfl (cm h (cg (w64 (x2+2))) rfl fun x43 _ h=>av 0 rfl rfl (Upd.refl _) rfl Tryz.sizeOf64 (kAs rfl (av 1 rfl rfl (Upd.refl _) rfl Tryz.sizeOf97 ?_))))
   obtain rfl:=osj h
   exact bc ⟨rfl,[(ab).val (ApiNode.mk 0 [] [] 0 0 0 0 0 []),Pr.i64 0,(ag).val x43],⟨yBox 0 ty64 aa,yT aa,yBox 1 ty97 aa,trivial⟩,aa⟩
  refine ax (a8 (W_rs (kMvL rfl (kMv rfl (kIn rfl rfl rfl (cm h (bu x1 (w64 (x2+3)) ([41]:List UInt8)) rfl fun x44 _ h=>kNo rfl ?_))))))
  refine a5 h rfl (fun _ h=> ?_) (fun _ h=> ?_)
  ·refine W_rs (kUn (di bb st64 rfl) ?_)
   refine kMv rfl (kIn rfl rfl rfl (cm h (cg (w64 (x2+3))) rfl fun x46 _ h=>av 0 rfl rfl (Upd.refl _) rfl Tryz.sizeOf64 (kAs rfl (av 1 rfl rfl (Upd.refl _) rfl Tryz.sizeOf97 ?_))))
   obtain rfl:=osj h
   exact bc ⟨rfl,[(ab).val (ApiNode.mk 0 [] [] 0 0 0 0 0 []),Pr.i64 0,(ag).val x46],⟨yBox 0 ty64 aa,yT aa,yBox 1 ty97 aa,trivial⟩,aa⟩
  refine ax (W_rs (kMvL rfl (kMv rfl (kMv rfl (kIn rfl rfl rfl ?_)))))
  obtain⟨x47,hx47,h⟩:=ah h
  refine kUn (qCall' (db x1 21 x2 (w64 (x2+4)) [] _ hx47) ⟨aa,aa,aa,aa,c7 _,trivial⟩) ?_
  refine bq al64 fun b48=>av 2 rfl rfl (Upd.refl _) rfl Tryz.sizeOf64 (W_rs (kMvL rfl (kMv rfl (kIn rfl rfl rfl ?_))))
  obtain⟨x49,hx49,h⟩:=ah h
  refine kUn (dg Tryz.underlying41 Tryz.sizeOf45 hx49) ?_
  refine kUn (d5 fld45_1 dw) ?_
  refine kUn (cf ty9) ?_
  refine kUn (ai ef) ?_
  refine av 2 rfl rfl nc rfl Tryz.sizeOf9 (W_rs (kMvL rfl (kMv rfl (kIn rfl rfl rfl ?_))))
  obtain⟨x50,hx50,h⟩:=ah h
  refine kUn (dg Tryz.underlying41 Tryz.sizeOf45 hx50) ?_
  refine kUn (d5 fld45_2 ii) ?_
  refine kUn (cf ty3) ?_
  refine kUn (ai my) ?_
  refine av 2 rfl rfl updApiNode_At rfl Tryz.sizeOf3 ?_
  refine bh (fun e C=>∃(x51:Ref12Wrong),tm R x47 x49 x50 x2 x51=some r/\At [(6,am b4 0),(7,Pr.i64 (w64 (x2+4))),(8,am b5 0)] [Own.box b4 ab ({{x47 with Text:=x49.Text} with At:=x50.At}),Own.box b5 ag x51,Own.box b48 ab ({{x47 with Text:=x49.Text} with At:=x50.At})] e C) ?_ ?_
  ·rintro e C ⟨x51,h,hat5⟩
   refine W_at hat5 ?_
   unfold tm at h
   obtain rfl:=osj h
   exact bc ⟨rfl,[(ab).val ({{x47 with Text:=x49.Text} with At:=x50.At}),Pr.i64 (w64 (x2+4)),(ag).val x51],⟨yBox 0 ty64 aa,yT aa,yBox 1 ty97 aa,trivial⟩,aa⟩
  obtain⟨x51,hx51,h⟩:=ah h
  refine dt [(4,0,Own.box b4 ab ({{x47 with Text:=x49.Text} with At:=x50.At})),(6,1,Own.box b5 ag x51)] [Own.box b4 ab ({{x47 with Text:=x49.Text} with At:=x50.At}),Own.box b5 ag x51,Own.box b48 ab ({{x47 with Text:=x49.Text} with At:=x50.At})] hmx (by kernel_rfl) (by kernel_rfl) (show([4,6]:List Nat).Nodup by decide) (show([0,1]:List Nat).Nodup by decide) rfl rfl ?_
  refine eq1 (out:=(ab).val ({{x47 with Text:=x49.Text} with At:=x50.At})) (fun C2 hC=>(ap (R:=ab) (a:={{x47 with Text:=x49.Text} with At:=x50.At}) (R':=ab) 2 ty64 (Sub.refl _) (hi:=(hC 2 (by kernel_rfl)).trans rfl))) ?_
  refine eq1 (out:=Pr.i64 x2) (fun C2 hC=>eb) ?_
  refine eq1 (out:=Pr.i64 (w64 (x2+4))) (fun C2 hC=>qInt) ?_
  refine eq1 (out:=(ag).val x51) (fun C2 hC=>(ct (cr _ hx51))) ?_
  refine eqS (fun C2 hC=>dc (R:=ab) (R':=ab) (a:=(ApiNode.mk 0 [] [] 0 0 0 0 0 [])) (y:={{x47 with Text:=x49.Text} with At:=x50.At}) 0 Tryz.sizeOf64 (Upd.refl _) ((hC 0 (by kernel_rfl)).trans rfl)) ?_
  refine eq1 (out:=Pr.i64 (w64 (x2+4))) (fun C2 hC=>du) ?_
  refine eqS (fun C2 hC=>dc (R:=ag) (R':=ag) (a:=(Ref12Wrong.mk 0 0)) (y:=x51) 1 Tryz.sizeOf97 (Upd.refl _) ((hC 1 (by kernel_rfl)).trans rfl)) ?_
  exact⟨x51,h,atOk⟩
 refine W_rs (kMvL rfl (kMv rfl (cm h (bu x1 x2 ([40]:List UInt8)) rfl fun x52 _ h=>kAs rfl ?_)))
 refine a5 h rfl (fun _ h=> ?_) (fun _ h=> ?_)
 ·refine W_rs (kMvL rfl (kMv rfl (kIn rfl rfl rfl (kMv rfl ?_))))
  obtain⟨⟨x54,x55,x56⟩,hx54,h⟩:=ah h
  refine kUn (ct (ih.1 x1 (w64 (x2+1)) x3 _ hx54)) ?_
  refine kUn (hMv (out:=bk [(ab).val x54,Pr.i64 x55,(ag).val x56]) rfl) (kUn au ?_)
  refine kUn au ?_
  refine kUn au ?_
  refine bq al64 fun b57=> ?_
  refine bq al97 fun b58=>av 2 rfl rfl (Upd.refl _) rfl Tryz.sizeOf64 (kAs rfl (av 3 rfl rfl (Upd.refl _) rfl Tryz.sizeOf97 (a8 (W_rs (kUn (ai ki) ?_)))))
  refine kUn (ap 3 ty3 cb) ?_
  refine kIn rfl rfl rfl ?_
  refine a5 h rfl (fun _ h=> ?_) (fun _ h=> ?_)
  ·refine bh (fun e C=>tl R x56=some r/\At [(6,am b4 0),(7,Pr.i64 0),(8,am b5 0)] [Own.box b4 ab (ApiNode.mk 0 [] [] 0 0 0 0 0 []),Own.box b5 ag x56,Own.box b57 ab x54,Own.box b58 ag x56] e C) ?_ ?_
   ·rintro e C ⟨h,hat6⟩
    refine W_at hat6 ?_
    unfold tl at h
    obtain rfl:=osj h
    exact bc ⟨rfl,[(ab).val (ApiNode.mk 0 [] [] 0 0 0 0 0 []),Pr.i64 0,(ag).val x56],⟨yBox 0 ty64 aa,yT aa,yBox 1 ty97 aa,trivial⟩,aa⟩
   refine dt [(2,0,Own.box b4 ab (ApiNode.mk 0 [] [] 0 0 0 0 0 [])),(4,1,Own.box b5 ag x56)] [Own.box b4 ab (ApiNode.mk 0 [] [] 0 0 0 0 0 []),Own.box b5 ag x56,Own.box b57 ab x54,Own.box b58 ag x56] hmx (by kernel_rfl) (by kernel_rfl) (show([2,4]:List Nat).Nodup by decide) (show([0,1]:List Nat).Nodup by decide) rfl rfl ?_
   refine eq1 (out:=(ab).val (ApiNode.mk 0 [] [] 0 0 0 0 0 [])) (fun C2 hC=>(di bb st64 rfl)) ?_
   refine eq1 (out:=(ag).val x56) (fun C2 hC=>(ap (R:=ag) (a:=x56) (R':=ag) 3 ty97 (Sub.refl _) (hi:=(hC 3 (by kernel_rfl)).trans rfl))) ?_
   refine eqS (fun C2 hC=>dc (R:=ab) (R':=ab) (a:=(ApiNode.mk 0 [] [] 0 0 0 0 0 [])) (y:=(ApiNode.mk 0 [] [] 0 0 0 0 0 [])) 0 Tryz.sizeOf64 (Upd.refl _) ((hC 0 (by kernel_rfl)).trans rfl)) ?_
   refine eq1 (out:=Pr.i64 0) (fun C2 hC=>du) ?_
   refine eqS (fun C2 hC=>dc (R:=ag) (R':=ag) (a:=(Ref12Wrong.mk 0 0)) (y:=x56) 1 Tryz.sizeOf97 (Upd.refl _) ((hC 1 (by kernel_rfl)).trans rfl)) ?_
   exact⟨h,atOk⟩
  refine ax (a8 (W_rs (kMvL rfl (kMv rfl (cm h (bu x1 x55 ([41]:List UInt8)) rfl fun x60 _ h=>kNo rfl ?_)))))
  refine a5 h rfl (fun _ h=> ?_) (fun _ h=> ?_)
  ·refine W_rs (kUn (di bb st64 rfl) ?_)
   refine kMv rfl (cm h (cg x55) rfl fun x62 _ h=>av 0 rfl rfl (Upd.refl _) rfl Tryz.sizeOf64 (kAs rfl (av 1 rfl rfl (Upd.refl _) rfl Tryz.sizeOf97 ?_)))
   obtain rfl:=osj h
   exact bc ⟨rfl,[(ab).val (ApiNode.mk 0 [] [] 0 0 0 0 0 []),Pr.i64 0,(ag).val x62],⟨yBox 0 ty64 aa,yT aa,yBox 1 ty97 aa,trivial⟩,aa⟩
  refine ax ?_
  refine bh (fun e C=>∃(x63:Ref12Wrong),tk R x54 x55 x63=some r/\At [(6,am b4 0),(7,Pr.i64 (w64 (x55+1))),(8,am b5 0)] [Own.box b4 ab x54,Own.box b5 ag x63,Own.box b57 ab x54,Own.box b58 ag x56] e C) ?_ ?_
  ·rintro e C ⟨x63,h,hat7⟩
   refine W_at hat7 ?_
   unfold tk at h
   obtain rfl:=osj h
   exact bc ⟨rfl,[(ab).val x54,Pr.i64 (w64 (x55+1)),(ag).val x63],⟨yBox 0 ty64 aa,yT aa,yBox 1 ty97 aa,trivial⟩,aa⟩
  obtain⟨x63,hx63,h⟩:=ah h
  refine dt [(4,0,Own.box b4 ab x54),(6,1,Own.box b5 ag x63)] [Own.box b4 ab x54,Own.box b5 ag x63,Own.box b57 ab x54,Own.box b58 ag x56] hmx (by kernel_rfl) (by kernel_rfl) (show([4,6]:List Nat).Nodup by decide) (show([0,1]:List Nat).Nodup by decide) rfl rfl ?_
  refine eq1 (out:=(ab).val x54) (fun C2 hC=>(ap (R:=ab) (a:=x54) (R':=ab) 2 ty64 (Sub.refl _) (hi:=(hC 2 (by kernel_rfl)).trans rfl))) ?_
  refine eq1 (out:=Pr.i64 x55) (fun C2 hC=>eb) ?_
  refine eq1 (out:=Pr.i64 (w64 (x55+1))) (fun C2 hC=>qInt) ?_
  refine eq1 (out:=(ag).val x63) (fun C2 hC=>(ct (cr _ hx63))) ?_
  refine eqS (fun C2 hC=>dc (R:=ab) (R':=ab) (a:=(ApiNode.mk 0 [] [] 0 0 0 0 0 [])) (y:=x54) 0 Tryz.sizeOf64 (Upd.refl _) ((hC 0 (by kernel_rfl)).trans rfl)) ?_
  refine eq1 (out:=Pr.i64 (w64 (x55+1))) (fun C2 hC=>du) ?_
  refine eqS (fun C2 hC=>dc (R:=ag) (R':=ag) (a:=(Ref12Wrong.mk 0 0)) (y:=x63) 1 Tryz.sizeOf97 (Upd.refl _) ((hC 1 (by kernel_rfl)).trans rfl)) ?_
  exact⟨x63,h,atOk⟩
 refine W_rs (kMvL rfl (kMv rfl (cm h (il x1 x2) rfl fun x64 _ h=>kAs rfl ?_)))
 refine a5 h rfl (fun _ h=> ?_) (fun _ h=> ?_)
 ·refine W_rs (kMvL rfl (kMv rfl (kMv rfl (kIn rfl rfl rfl ?_))))
  obtain⟨x66,hx66,h⟩:=ah h
  refine kUn (qCall' (db x1 17 x2 (w64 (x2+1)) [] _ hx66) ⟨aa,aa,aa,aa,c7 _,trivial⟩) ?_
  refine bq al64 fun b67=>av 2 rfl rfl (Upd.refl _) rfl Tryz.sizeOf64 (W_rs (kMvL rfl (kMv rfl ?_)))
  obtain⟨x68,hx68,h⟩:=ah h
  refine kUn (dg Tryz.underlying41 Tryz.sizeOf45 hx68) ?_
  refine kUn (d5 fld45_1 dw) ?_
  refine kUn (cf ty9) ?_
  refine kUn (ai ef) ?_
  refine av 2 rfl rfl nc rfl Tryz.sizeOf9 (W_rs (kMvL rfl (kMv rfl ?_)))
  obtain⟨x69,hx69,h⟩:=ah h
  refine kUn (dg Tryz.underlying41 Tryz.sizeOf45 hx69) ?_
  refine kUn (d5 fld45_2 ii) ?_
  refine kUn (cf ty3) ?_
  refine kUn (ai my) ?_
  refine av 2 rfl rfl updApiNode_At rfl Tryz.sizeOf3 (a8 (W_rs (kMvL rfl (kMv rfl (kIn rfl rfl rfl (cm h (bu x1 (w64 (x2+1)) ([40]:List UInt8)) rfl fun x70 _ h=>kNo rfl ?_))))))
  refine a5 h rfl (fun _ h=> ?_) (fun _ h=> ?_)
  ·refine bh (fun e C=>∃(x72:Ref12Wrong),tj R x66 x68 x69 x2 x72=some r/\At [(6,am b4 0),(7,Pr.i64 (w64 (x2+1))),(8,am b5 0)] [Own.box b4 ab ({{x66 with Text:=x68.Text} with At:=x69.At}),Own.box b5 ag x72,Own.box b67 ab ({{x66 with Text:=x68.Text} with At:=x69.At})] e C) ?_ ?_
   ·rintro e C ⟨x72,h,hat8⟩
    refine W_at hat8 ?_
    unfold tj at h
    obtain rfl:=osj h
    exact bc ⟨rfl,[(ab).val ({{x66 with Text:=x68.Text} with At:=x69.At}),Pr.i64 (w64 (x2+1)),(ag).val x72],⟨yBox 0 ty64 aa,yT aa,yBox 1 ty97 aa,trivial⟩,aa⟩
   obtain⟨x72,hx72,h⟩:=ah h
   refine dt [(4,0,Own.box b4 ab ({{x66 with Text:=x68.Text} with At:=x69.At})),(6,1,Own.box b5 ag x72)] [Own.box b4 ab ({{x66 with Text:=x68.Text} with At:=x69.At}),Own.box b5 ag x72,Own.box b67 ab ({{x66 with Text:=x68.Text} with At:=x69.At})] hmx (by kernel_rfl) (by kernel_rfl) (show([4,6]:List Nat).Nodup by decide) (show([0,1]:List Nat).Nodup by decide) rfl rfl ?_
   refine eq1 (out:=(ab).val ({{x66 with Text:=x68.Text} with At:=x69.At})) (fun C2 hC=>(ap (R:=ab) (a:={{x66 with Text:=x68.Text} with At:=x69.At}) (R':=ab) 2 ty64 (Sub.refl _) (hi:=(hC 2 (by kernel_rfl)).trans rfl))) ?_
   refine eq1 (out:=Pr.i64 x2) (fun C2 hC=>eb) ?_
   refine eq1 (out:=Pr.i64 (w64 (x2+1))) (fun C2 hC=>qInt) ?_
   refine eq1 (out:=(ag).val x72) (fun C2 hC=>(ct (cr _ hx72))) ?_
   refine eqS (fun C2 hC=>dc (R:=ab) (R':=ab) (a:=(ApiNode.mk 0 [] [] 0 0 0 0 0 [])) (y:={{x66 with Text:=x68.Text} with At:=x69.At}) 0 Tryz.sizeOf64 (Upd.refl _) ((hC 0 (by kernel_rfl)).trans rfl)) ?_
   refine eq1 (out:=Pr.i64 (w64 (x2+1))) (fun C2 hC=>du) ?_
   refine eqS (fun C2 hC=>dc (R:=ag) (R':=ag) (a:=(Ref12Wrong.mk 0 0)) (y:=x72) 1 Tryz.sizeOf97 (Upd.refl _) ((hC 1 (by kernel_rfl)).trans rfl)) ?_
   exact⟨x72,h,atOk⟩
  refine ax (W_rs (kMvL rfl (kMv rfl (kIn rfl rfl rfl (kMv rfl ?_)))))
  obtain⟨⟨x73,x74,x75⟩,hx73,h⟩:=ah h
  refine kUn (ct (ih.2.2.2.2 x1 (w64 (x2+2)) x3 _ hx73)) ?_
  refine kUn (hMv (out:=bk [aq ab x73,Pr.i64 x74,(ag).val x75]) rfl) (kUn au ?_)
  refine kUn au ?_
  refine kUn au ?_
  refine bq al97 fun b76=>kAsL rfl (kAs rfl (av 3 rfl rfl (Upd.refl _) rfl Tryz.sizeOf97 (a8 (W_rs (kUn (ai ki) ?_)))))
  refine kUn (ap 3 ty3 cb) ?_
  refine kIn rfl rfl rfl ?_
  refine a5 h rfl (fun _ h=> ?_) (fun _ h=> ?_)
  ·refine bh (fun e C=>ti R x75=some r/\At [(6,am b4 0),(7,Pr.i64 0),(8,am b5 0)] [Own.box b4 ab (ApiNode.mk 0 [] [] 0 0 0 0 0 []),Own.box b5 ag x75,Own.box b67 ab ({{x66 with Text:=x68.Text} with At:=x69.At}),Own.box b76 ag x75] e C) ?_ ?_
   ·rintro e C ⟨h,hat9⟩
    refine W_at hat9 ?_
    unfold ti at h
    obtain rfl:=osj h
    exact bc ⟨rfl,[(ab).val (ApiNode.mk 0 [] [] 0 0 0 0 0 []),Pr.i64 0,(ag).val x75],⟨yBox 0 ty64 aa,yT aa,yBox 1 ty97 aa,trivial⟩,aa⟩
   refine dt [(2,0,Own.box b4 ab (ApiNode.mk 0 [] [] 0 0 0 0 0 [])),(4,1,Own.box b5 ag x75)] [Own.box b4 ab (ApiNode.mk 0 [] [] 0 0 0 0 0 []),Own.box b5 ag x75,Own.box b67 ab ({{x66 with Text:=x68.Text} with At:=x69.At}),Own.box b76 ag x75] hmx (by kernel_rfl) (by kernel_rfl) (show([2,4]:List Nat).Nodup by decide) (show([0,1]:List Nat).Nodup by decide) rfl rfl ?_
   refine eq1 (out:=(ab).val (ApiNode.mk 0 [] [] 0 0 0 0 0 [])) (fun C2 hC=>(di bb st64 rfl)) ?_
   refine eq1 (out:=(ag).val x75) (fun C2 hC=>(ap (R:=ag) (a:=x75) (R':=ag) 3 ty97 (Sub.refl _) (hi:=(hC 3 (by kernel_rfl)).trans rfl))) ?_
   refine eqS (fun C2 hC=>dc (R:=ab) (R':=ab) (a:=(ApiNode.mk 0 [] [] 0 0 0 0 0 [])) (y:=(ApiNode.mk 0 [] [] 0 0 0 0 0 [])) 0 Tryz.sizeOf64 (Upd.refl _) ((hC 0 (by kernel_rfl)).trans rfl)) ?_
   refine eq1 (out:=Pr.i64 0) (fun C2 hC=>du) ?_
   refine eqS (fun C2 hC=>dc (R:=ag) (R':=ag) (a:=(Ref12Wrong.mk 0 0)) (y:=x75) 1 Tryz.sizeOf97 (Upd.refl _) ((hC 1 (by kernel_rfl)).trans rfl)) ?_
   exact⟨h,atOk⟩
  refine ax (W_rs (kUn (ai dr) ?_))
  refine av 2 rfl rfl updApiNode_Kind rfl Tryz.sizeOf3 (W_rs (kMvL rfl (kUn (ai ee) ?_)))
  refine av 2 rfl rfl updApiNode_Kids rfl Tryz.sizeOf53 (W_rs (kMvL rfl (kMv rfl (cm h (ref12_end_ok x1 x74) rfl fun x78 _ h=> ?_))))
  refine kUn (ai fld64_5) ?_
  refine av 2 rfl rfl updApiNode_To rfl Tryz.sizeOf3 ?_
  refine bh (fun e C=>∃(x79:Ref12Wrong),rn R x66 x68 x69 x73 x78 x74 x79=some r/\At [(6,am b4 0),(7,Pr.i64 x74),(8,am b5 0)] [Own.box b4 ab ({{{{{x66 with Text:=x68.Text} with At:=x69.At} with Kind:=19} with Kids:=x73} with To:=x78}),Own.box b5 ag x79,Own.box b67 ab ({{{{{x66 with Text:=x68.Text} with At:=x69.At} with Kind:=19} with Kids:=x73} with To:=x78}),Own.box b76 ag x75] e C) ?_ ?_
  ·rintro e C ⟨x79,h,hat10⟩
   refine W_at hat10 ?_
   unfold rn at h
   obtain rfl:=osj h
   exact bc ⟨rfl,[(ab).val ({{{{{x66 with Text:=x68.Text} with At:=x69.At} with Kind:=19} with Kids:=x73} with To:=x78}),Pr.i64 x74,(ag).val x79],⟨yBox 0 ty64 aa,yT aa,yBox 1 ty97 aa,trivial⟩,aa⟩
  obtain⟨x79,hx79,h⟩:=ah h
  refine dt [(3,0,Own.box b4 ab ({{{{{x66 with Text:=x68.Text} with At:=x69.At} with Kind:=19} with Kids:=x73} with To:=x78})),(5,1,Own.box b5 ag x79)] [Own.box b4 ab ({{{{{x66 with Text:=x68.Text} with At:=x69.At} with Kind:=19} with Kids:=x73} with To:=x78}),Own.box b5 ag x79,Own.box b67 ab ({{{{{x66 with Text:=x68.Text} with At:=x69.At} with Kind:=19} with Kids:=x73} with To:=x78}),Own.box b76 ag x75] hmx (by kernel_rfl) (by kernel_rfl) (show([3,5]:List Nat).Nodup by decide) (show([0,1]:List Nat).Nodup by decide) rfl rfl ?_
  refine eq1 (out:=(ab).val ({{{{{x66 with Text:=x68.Text} with At:=x69.At} with Kind:=19} with Kids:=x73} with To:=x78})) (fun C2 hC=>(ap (R:=ab) (a:={{{{{x66 with Text:=x68.Text} with At:=x69.At} with Kind:=19} with Kids:=x73} with To:=x78}) (R':=ab) 2 ty64 (Sub.refl _) (hi:=(hC 2 (by kernel_rfl)).trans rfl))) ?_
  refine eq1 (out:=Pr.i64 x74) (fun C2 hC=>eb) ?_
  refine eq1 (out:=(ag).val x79) (fun C2 hC=>(ct (cr _ hx79))) ?_
  refine eqS (fun C2 hC=>dc (R:=ab) (R':=ab) (a:=(ApiNode.mk 0 [] [] 0 0 0 0 0 [])) (y:={{{{{x66 with Text:=x68.Text} with At:=x69.At} with Kind:=19} with Kids:=x73} with To:=x78}) 0 Tryz.sizeOf64 (Upd.refl _) ((hC 0 (by kernel_rfl)).trans rfl)) ?_
  refine eq1 (out:=Pr.i64 x74) (fun C2 hC=>du) ?_
  refine eqS (fun C2 hC=>dc (R:=ag) (R':=ag) (a:=(Ref12Wrong.mk 0 0)) (y:=x79) 1 Tryz.sizeOf97 (Upd.refl _) ((hC 1 (by kernel_rfl)).trans rfl)) ?_
  exact⟨x79,h,atOk⟩
 refine ax (W_rs (kUn (di bb st64 rfl) ?_))
 refine kMv rfl (cm h (cg x2) rfl fun x80 _ h=>av 0 rfl rfl (Upd.refl _) rfl Tryz.sizeOf64 (kAs rfl (av 1 rfl rfl (Upd.refl _) rfl Tryz.sizeOf97 ?_)))
 obtain rfl:=osj h
 exact bc ⟨rfl,[(ab).val (ApiNode.mk 0 [] [] 0 0 0 0 0 []),Pr.i64 0,(ag).val x80],⟨yBox 0 ty64 aa,yT aa,yBox 1 ty97 aa,trivial⟩,aa⟩
theorem F_ref12_arguments_step (R:ay) (ih:fj R) (x1:List ApiToken) (x2 x3:Int) (r:(List ApiNode) × Int × Ref12Wrong) (h:nq R x1 x2 x3=some r):FnP Tryz.prog 202 [aq bz x1,Pr.i64 x2,Pr.i64 x3] (bk [aq ab r.1,Pr.i64 r.2.1,(ag).val r.2.2]):=by
 refine c4 (rs:=[.tmp 6,.tmp 7,.cell 8 97]) Tryz.func202 rfl Tryz.ntmps202 Tryz.results202 (by decide) (fun s0=> ?_)
 unfold nq at h
 refine W_rs (kAs rfl (kAs rfl (bq al97 fun b4=>W_rs (kAs rfl (a8 (W_rs (kMvL rfl (kMv rfl (cm h (bu x1 x2 ([41]:List UInt8)) rfl fun x5 _ h=> ?_)))))))))
 refine a5 h rfl (fun _ h=> ?_) (fun _ h=> ?_)
 ·refine W_rs (kMv rfl (kMv rfl (kIn rfl rfl rfl (cm h (cr) rfl fun x7 _ h=>kAs rfl (kAs rfl (av 0 rfl rfl (Upd.refl _) rfl Tryz.sizeOf97 ?_))))))
  obtain rfl:=osj h
  exact bc ⟨rfl,[aq ab [],Pr.i64 (w64 (x2+1)),(ag).val x7],⟨yT (c7 _),yT aa,yBox 0 ty97 aa,trivial⟩,aa⟩
 refine ax (az ?_)
 obtain⟨n1,hN1⟩:=bp h
 refine W_nil [9] ab 64 (fun v28=> ?_) ⟨rfl,trivial⟩
 refine c8 (fun m e C=>∃(x8:Int),∃(x10:List ApiNode),∃(v9:Value),dj (fun s=>lm R x1 x3 s.1 s.2) m (x8,x10)=some r/\At [(0,aq bz x1),(1,Pr.i64 x8),(2,Pr.i64 x3),(8,am b4 0),(9,Pr.is v9)] [Own.box b4 ag (Ref12Wrong.mk 0 0),Own.vec v9 ab x10 64] e C) n1 ⟨x2,[],v28,hN1,⟨⟨aa,aa,aa,aa,aa,trivial⟩,Pick.refl _⟩⟩ ?_
 rintro m e C ⟨x8,x10,v9,hN1,hatl1⟩
 refine W_at hatl1 ?_
 obtain⟨m1,w1l,rfl,h1l,hn1,ho1⟩:=bj hN1
 replace h1l:lm R x1 x3 x8 x10=some w1l:=h1l
 unfold lm at h1l
 refine az (W_rs (kMvL rfl (kMv rfl (kMv rfl ?_))))
 obtain⟨⟨x14,x15,x16⟩,hx14,h1l⟩:=ah h1l
 refine kUn (ct (ih.1 x1 x8 x3 _ hx14)) ?_
 refine kUn (hMv (out:=bk [(ab).val x14,Pr.i64 x15,(ag).val x16]) rfl) (kUn au ?_)
 refine kUn au ?_
 refine kUn au ?_
 refine bq al64 fun b17=> ?_
 refine bq al97 fun b18=>av 2 rfl rfl (Upd.refl _) rfl Tryz.sizeOf64 (kAs rfl (av 3 rfl rfl (Upd.refl _) rfl Tryz.sizeOf97 (a8 (W_rs (kUn (ai ki) ?_)))))
 refine kUn (ap 3 ty3 cb) ?_
 refine kIn rfl rfl rfl ?_
 refine a5 h1l rfl (fun _ h1l=> ?_) (fun _ h1l=> ?_)
 ·refine bh (fun e C=>qc R x16=some w1l/\At [(6,Pr.is (.slice none 0 0)),(7,Pr.i64 0),(8,am b4 0)] [Own.box b4 ag x16,Own.box b17 ab x14,Own.box b18 ag x16] e C) ?_ ?_
  ·rintro e C ⟨h1l,hat2⟩
   refine W_at hat2 ?_
   unfold qc at h1l
   have h:some ([],0,x16)=some r:=congrArg some (ho1 _ (Option.some.inj h1l).symm)
   obtain rfl:=osj h
   exact bc ⟨rfl,[aq ab [],Pr.i64 0,(ag).val x16],⟨yT (c7 _),yT aa,yBox 0 ty97 aa,trivial⟩,aa⟩
  refine eo 3 hmx (by kernel_rfl) (by kernel_rfl) ?_
  refine lUn (ap 3 ty97 (Sub.refl _)) ?_
  refine lUn (hAsA rfl) (lUn (hAsA rfl) (av 0 rfl rfl (Upd.refl _) rfl Tryz.sizeOf97 ?_))
  exact⟨h1l,⟨⟨aa,aa,aa,trivial⟩,Pick.of [0,2,3] rfl⟩⟩
 refine ax (W_rs (kMv rfl (kUn (ap 2 ty64 (Sub.refl _)) ?_)))
 refine kUn (cl (R:=ab) (a:=x14) el53 (Nat.le_of_ble_eq_true rfl)) ?_
 obtain⟨x20,hx20,h1l⟩:=ah h1l
 refine ev 1 el53 hx20 (fun v21=> ?_)
 refine kAs rfl (a8 (W_rs (kMvL rfl (kMv rfl (cm h1l (bu x1 x15 ([41]:List UInt8)) rfl fun x22 _ h1l=> ?_)))))
 refine a5 h1l rfl (fun _ h1l=> ?_) (fun _ h1l=> ?_)
 ·refine W_rs (kMv rfl (kMv rfl (kIn rfl rfl rfl (cm h1l (cr) rfl fun x24 _ h1l=>kAs rfl (kAs rfl (av 0 rfl rfl (Upd.refl _) rfl Tryz.sizeOf97 ?_))))))
  have h:some (x20,w64 (x15+1),x24)=some r:=congrArg some (ho1 _ (Option.some.inj h1l).symm)
  refine W_rel 1 [6] ?_ rfl ⟨rfl,trivial⟩
  obtain rfl:=osj h
  exact bc ⟨rfl,[aq ab x20,Pr.i64 (w64 (x15+1)),(ag).val x24],⟨yT aa,yT aa,yBox 0 ty97 aa,trivial⟩,aa⟩
 refine ax (a8 (W_rs (kMvL rfl (kMv rfl (cm h1l (bu x1 x15 ([44]:List UInt8)) rfl fun x25 _ h1l=>kNo rfl ?_)))))
 refine a5 h1l rfl (fun _ h1l=> ?_) (fun _ h1l=> ?_)
 ·refine W_rs (kMv rfl (cm h1l (cg x15) rfl fun x27 _ h1l=>kAs rfl (kAs rfl (av 0 rfl rfl (Upd.refl _) rfl Tryz.sizeOf97 ?_))))
  have h:some ([],0,x27)=some r:=congrArg some (ho1 _ (Option.some.inj h1l).symm)
  obtain rfl:=osj h
  exact bc ⟨rfl,[aq ab [],Pr.i64 0,(ag).val x27],⟨yT (c7 _),yT aa,yBox 0 ty97 aa,trivial⟩,aa⟩
 refine ax (W_r (kMv rfl (kIn rfl rfl rfl (kAs rfl ?_))))
 exact⟨m1,Nat.lt_succ_self _,w64 (x15+1),x20,v21,hn1 _ (Option.some.inj h1l).symm,⟨⟨aa,aa,aa,aa,aa,trivial⟩,Pick.of [0,1] rfl⟩⟩
theorem rec_ref12_expression_ok :∀n,fj (d4 n):=by
 intro n
 induction n with
 |zero=>exact⟨(fun x1 x2 x3 r h=>nomatch (show none=some r from h)),(fun x1 x2 x3 x4 r h=>nomatch (show none=some r from h)),(fun x1 x2 x3 r h=>nomatch (show none=some r from h)),(fun x1 x2 x3 r h=>nomatch (show none=some r from h)),(fun x1 x2 x3 r h=>nomatch (show none=some r from h))⟩
 |succ n ih=>exact⟨(fun x1 x2 x3 r h=>F_ref12_expression_step (d4 n) ih x1 x2 x3 r h),(fun x1 x2 x3 x4 r h=>F_ref12_level_step (d4 n) ih x1 x2 x3 x4 r h),(fun x1 x2 x3 r h=>F_ref12_unary_step (d4 n) ih x1 x2 x3 r h),(fun x1 x2 x3 r h=>F_ref12_primary_step (d4 n) ih x1 x2 x3 r h),(fun x1 x2 x3 r h=>F_ref12_arguments_step (d4 n) ih x1 x2 x3 r h)⟩
theorem ko (x1:List ApiToken) (x2 x3:Int) (r:ApiNode × Int × Ref12Wrong) (h:jx x1 x2 x3=some r):FnP Tryz.prog 179 [aq bz x1,Pr.i64 x2,Pr.i64 x3] (bk [(ab).val r.1,Pr.i64 r.2.1,(ag).val r.2.2]):=(rec_ref12_expression_ok 1048576).1 x1 x2 x3 r h
theorem ref12_locals_ok (x1:List ApiToken) (x2 x3:Int) (r:ApiNode × Int × Ref12Wrong) (h:ref12_locals x1 x2 x3=some r):FnP Tryz.prog 168 [aq bz x1,Pr.i64 x2,Pr.i64 x3] (bk [(ab).val r.1,Pr.i64 r.2.1,(ag).val r.2.2]):=by
 refine c4 (rs:=[.cell 6 64,.tmp 7,.cell 8 97]) Tryz.func168 rfl Tryz.ntmps168 Tryz.results168 (by decide) (fun s0=> ?_)
 unfold ref12_locals at h
 refine W_rs (bq al64 fun b4=>kAs rfl (bq al97 fun b5=>a8 (W_rs (kMvL rfl (kMv rfl (cm h (bu x1 x2 ([118,111,105,100]:List UInt8)) rfl fun x6 _ h=> ?_))))))
 refine a5 h rfl (fun _ h=> ?_) (fun _ h=> ?_)
 ·refine W_rs (kUn (di bb st64 rfl) ?_)
  refine kMv rfl (cm h (cg x2) rfl fun x8 _ h=>av 0 rfl rfl (Upd.refl _) rfl Tryz.sizeOf64 (kAs rfl (av 1 rfl rfl (Upd.refl _) rfl Tryz.sizeOf97 ?_)))
  obtain rfl:=osj h
  exact bc ⟨rfl,[(ab).val (ApiNode.mk 0 [] [] 0 0 0 0 0 []),Pr.i64 0,(ag).val x8],⟨yBox 0 ty64 aa,yT aa,yBox 1 ty97 aa,trivial⟩,aa⟩
 refine ax (a8 (W_rs (kMvL rfl (kMv rfl (kIn rfl rfl rfl (cm h (il x1 (w64 (x2+1))) rfl fun x9 _ h=>kNo rfl ?_))))))
 refine a5 h rfl (fun _ h=> ?_) (fun _ h=> ?_)
 ·refine W_rs (kUn (di bb st64 rfl) ?_)
  refine kMv rfl (kIn rfl rfl rfl (cm h (cg (w64 (x2+1))) rfl fun x11 _ h=>av 0 rfl rfl (Upd.refl _) rfl Tryz.sizeOf64 (kAs rfl (av 1 rfl rfl (Upd.refl _) rfl Tryz.sizeOf97 ?_))))
  obtain rfl:=osj h
  exact bc ⟨rfl,[(ab).val (ApiNode.mk 0 [] [] 0 0 0 0 0 []),Pr.i64 0,(ag).val x11],⟨yBox 0 ty64 aa,yT aa,yBox 1 ty97 aa,trivial⟩,aa⟩
 refine ax (a8 (W_rs (kMvL rfl (kMv rfl (kIn rfl rfl rfl (cm h (bu x1 (w64 (x2+2)) ([61]:List UInt8)) rfl fun x12 _ h=>kNo rfl ?_))))))
 refine a5 h rfl (fun _ h=> ?_) (fun _ h=> ?_)
 ·refine W_rs (kUn (di bb st64 rfl) ?_)
  refine kMv rfl (kIn rfl rfl rfl (cm h (cg (w64 (x2+2))) rfl fun x14 _ h=>av 0 rfl rfl (Upd.refl _) rfl Tryz.sizeOf64 (kAs rfl (av 1 rfl rfl (Upd.refl _) rfl Tryz.sizeOf97 ?_))))
  obtain rfl:=osj h
  exact bc ⟨rfl,[(ab).val (ApiNode.mk 0 [] [] 0 0 0 0 0 []),Pr.i64 0,(ag).val x14],⟨yBox 0 ty64 aa,yT aa,yBox 1 ty97 aa,trivial⟩,aa⟩
 refine ax (W_rs (kMvL rfl (kMv rfl (kIn rfl rfl rfl (kMv rfl (kIn rfl rfl rfl ?_))))))
 obtain⟨⟨x15,x16,x17⟩,hx15,h⟩:=ah h
 refine kUn (ct (ko x1 (w64 (x2+3)) (w64 (x3+1)) _ hx15)) ?_
 refine kUn (hMv (out:=bk [(ab).val x15,Pr.i64 x16,(ag).val x17]) rfl) (kUn au ?_)
 refine kUn au ?_
 refine kUn au ?_
 refine bq al64 fun b18=> ?_
 refine bq al97 fun b19=>av 2 rfl rfl (Upd.refl _) rfl Tryz.sizeOf64 (kAs rfl (av 3 rfl rfl (Upd.refl _) rfl Tryz.sizeOf97 (a8 (W_rs (kUn (ai ki) ?_)))))
 refine kUn (ap 3 ty3 cb) ?_
 refine kIn rfl rfl rfl ?_
 refine a5 h rfl (fun _ h=> ?_) (fun _ h=> ?_)
 ·refine bh (fun e C=>ref12_locals_j1 x17=some r/\At [(6,am b4 0),(7,Pr.i64 0),(8,am b5 0)] [Own.box b4 ab (ApiNode.mk 0 [] [] 0 0 0 0 0 []),Own.box b5 ag x17,Own.box b18 ab x15,Own.box b19 ag x17] e C) ?_ ?_
  ·rintro e C ⟨h,hat1⟩
   refine W_at hat1 ?_
   unfold ref12_locals_j1 at h
   obtain rfl:=osj h
   exact bc ⟨rfl,[(ab).val (ApiNode.mk 0 [] [] 0 0 0 0 0 []),Pr.i64 0,(ag).val x17],⟨yBox 0 ty64 aa,yT aa,yBox 1 ty97 aa,trivial⟩,aa⟩
  refine dt [(2,0,Own.box b4 ab (ApiNode.mk 0 [] [] 0 0 0 0 0 [])),(4,1,Own.box b5 ag x17)] [Own.box b4 ab (ApiNode.mk 0 [] [] 0 0 0 0 0 []),Own.box b5 ag x17,Own.box b18 ab x15,Own.box b19 ag x17] hmx (by kernel_rfl) (by kernel_rfl) (show([2,4]:List Nat).Nodup by decide) (show([0,1]:List Nat).Nodup by decide) rfl rfl ?_
  refine eq1 (out:=(ab).val (ApiNode.mk 0 [] [] 0 0 0 0 0 [])) (fun C2 hC=>(di bb st64 rfl)) ?_
  refine eq1 (out:=(ag).val x17) (fun C2 hC=>(ap (R:=ag) (a:=x17) (R':=ag) 3 ty97 (Sub.refl _) (hi:=(hC 3 (by kernel_rfl)).trans rfl))) ?_
  refine eqS (fun C2 hC=>dc (R:=ab) (R':=ab) (a:=(ApiNode.mk 0 [] [] 0 0 0 0 0 [])) (y:=(ApiNode.mk 0 [] [] 0 0 0 0 0 [])) 0 Tryz.sizeOf64 (Upd.refl _) ((hC 0 (by kernel_rfl)).trans rfl)) ?_
  refine eq1 (out:=Pr.i64 0) (fun C2 hC=>du) ?_
  refine eqS (fun C2 hC=>dc (R:=ag) (R':=ag) (a:=(Ref12Wrong.mk 0 0)) (y:=x17) 1 Tryz.sizeOf97 (Upd.refl _) ((hC 1 (by kernel_rfl)).trans rfl)) ?_
  exact⟨h,atOk⟩
 refine ax (a8 (W_rs (kMvL rfl (kMv rfl (cm h (bu x1 x16 ([59]:List UInt8)) rfl fun x21 _ h=>kNo rfl ?_)))))
 refine a5 h rfl (fun _ h=> ?_) (fun _ h=> ?_)
 ·refine W_rs (kUn (di bb st64 rfl) ?_)
  refine kMv rfl (cm h (cg x16) rfl fun x23 _ h=>av 0 rfl rfl (Upd.refl _) rfl Tryz.sizeOf64 (kAs rfl (av 1 rfl rfl (Upd.refl _) rfl Tryz.sizeOf97 ?_)))
  obtain rfl:=osj h
  exact bc ⟨rfl,[(ab).val (ApiNode.mk 0 [] [] 0 0 0 0 0 []),Pr.i64 0,(ag).val x23],⟨yBox 0 ty64 aa,yT aa,yBox 1 ty97 aa,trivial⟩,aa⟩
 refine ax (W_rs (kMvL rfl (kMvL rfl (kMv rfl (kMv rfl (kIn rfl rfl rfl (kUn (ap 2 ty64 (Sub.refl _)) ?_)))))))
 refine kUn (cl (R:=ab) (a:=x15) el53 (Nat.le_of_ble_eq_true rfl)) ?_
 refine cm h (db x1 6 x2 (w64 (x16+1)) ([x15]:List ApiNode)) rfl fun x24 _ h=>kMv rfl (cm h (ref12_typed_ok x1 x24 x2) rfl fun x25 _ h=>kMv rfl (kIn rfl rfl rfl (cm h (cr) rfl fun x26 _ h=>av 0 rfl rfl (Upd.refl _) rfl Tryz.sizeOf64 (kAs rfl (av 1 rfl rfl (Upd.refl _) rfl Tryz.sizeOf97 ?_)))))
 obtain rfl:=osj h
 exact bc ⟨rfl,[(ab).val x25,Pr.i64 (w64 (x16+1)),(ag).val x26],⟨yBox 0 ty64 aa,yT aa,yBox 1 ty97 aa,trivial⟩,aa⟩
theorem ref12_bracketed_ok (x1:List ApiToken) (x2 x3:Int) (r:ApiNode × Int × Ref12Wrong) (h:ni x1 x2 x3=some r):FnP Tryz.prog 191 [aq bz x1,Pr.i64 x2,Pr.i64 x3] (bk [(ab).val r.1,Pr.i64 r.2.1,(ag).val r.2.2]):=by
 refine c4 (rs:=[.cell 6 64,.tmp 7,.cell 8 97]) Tryz.func191 rfl Tryz.ntmps191 Tryz.results191 (by decide) (fun s0=> ?_)
 unfold ni at h
 refine W_rs (bq al64 fun b4=>kAs rfl (bq al97 fun b5=>a8 (W_rs (kMvL rfl (kMv rfl (cm h (bu x1 x2 ([40]:List UInt8)) rfl fun x6 _ h=>kNo rfl ?_))))))
 refine a5 h rfl (fun _ h=> ?_) (fun _ h=> ?_)
 ·refine W_rs (kUn (di bb st64 rfl) ?_)
  refine kMv rfl (cm h (cg x2) rfl fun x8 _ h=>av 0 rfl rfl (Upd.refl _) rfl Tryz.sizeOf64 (kAs rfl (av 1 rfl rfl (Upd.refl _) rfl Tryz.sizeOf97 ?_)))
  obtain rfl:=osj h
  exact bc ⟨rfl,[(ab).val (ApiNode.mk 0 [] [] 0 0 0 0 0 []),Pr.i64 0,(ag).val x8],⟨yBox 0 ty64 aa,yT aa,yBox 1 ty97 aa,trivial⟩,aa⟩
 refine ax (W_rs (kMvL rfl (kMv rfl (kIn rfl rfl rfl (kMv rfl ?_)))))
 obtain⟨⟨x9,x10,x11⟩,hx9,h⟩:=ah h
 refine kUn (ct (ko x1 (w64 (x2+1)) x3 _ hx9)) ?_
 refine kUn (hMv (out:=bk [(ab).val x9,Pr.i64 x10,(ag).val x11]) rfl) (kUn au ?_)
 refine kUn au ?_
 refine kUn au ?_
 refine bq al64 fun b12=> ?_
 refine bq al97 fun b13=>av 2 rfl rfl (Upd.refl _) rfl Tryz.sizeOf64 (kAs rfl (av 3 rfl rfl (Upd.refl _) rfl Tryz.sizeOf97 (a8 (W_rs (kUn (ai ki) ?_)))))
 refine kUn (ap 3 ty3 cb) ?_
 refine kIn rfl rfl rfl ?_
 refine a5 h rfl (fun _ h=> ?_) (fun _ h=> ?_)
 ·refine bh (fun e C=>qb x11=some r/\At [(6,am b4 0),(7,Pr.i64 0),(8,am b5 0)] [Own.box b4 ab (ApiNode.mk 0 [] [] 0 0 0 0 0 []),Own.box b5 ag x11,Own.box b12 ab x9,Own.box b13 ag x11] e C) ?_ ?_
  ·rintro e C ⟨h,hat1⟩
   refine W_at hat1 ?_
   unfold qb at h
   obtain rfl:=osj h
   exact bc ⟨rfl,[(ab).val (ApiNode.mk 0 [] [] 0 0 0 0 0 []),Pr.i64 0,(ag).val x11],⟨yBox 0 ty64 aa,yT aa,yBox 1 ty97 aa,trivial⟩,aa⟩
  refine dt [(2,0,Own.box b4 ab (ApiNode.mk 0 [] [] 0 0 0 0 0 [])),(4,1,Own.box b5 ag x11)] [Own.box b4 ab (ApiNode.mk 0 [] [] 0 0 0 0 0 []),Own.box b5 ag x11,Own.box b12 ab x9,Own.box b13 ag x11] hmx (by kernel_rfl) (by kernel_rfl) (show([2,4]:List Nat).Nodup by decide) (show([0,1]:List Nat).Nodup by decide) rfl rfl ?_
  refine eq1 (out:=(ab).val (ApiNode.mk 0 [] [] 0 0 0 0 0 [])) (fun C2 hC=>(di bb st64 rfl)) ?_
  refine eq1 (out:=(ag).val x11) (fun C2 hC=>(ap (R:=ag) (a:=x11) (R':=ag) 3 ty97 (Sub.refl _) (hi:=(hC 3 (by kernel_rfl)).trans rfl))) ?_
  refine eqS (fun C2 hC=>dc (R:=ab) (R':=ab) (a:=(ApiNode.mk 0 [] [] 0 0 0 0 0 [])) (y:=(ApiNode.mk 0 [] [] 0 0 0 0 0 [])) 0 Tryz.sizeOf64 (Upd.refl _) ((hC 0 (by kernel_rfl)).trans rfl)) ?_
  refine eq1 (out:=Pr.i64 0) (fun C2 hC=>du) ?_
  refine eqS (fun C2 hC=>dc (R:=ag) (R':=ag) (a:=(Ref12Wrong.mk 0 0)) (y:=x11) 1 Tryz.sizeOf97 (Upd.refl _) ((hC 1 (by kernel_rfl)).trans rfl)) ?_
  exact⟨h,atOk⟩
 refine ax (a8 (W_rs (kMvL rfl (kMv rfl (cm h (bu x1 x10 ([41]:List UInt8)) rfl fun x15 _ h=>kNo rfl ?_)))))
 refine a5 h rfl (fun _ h=> ?_) (fun _ h=> ?_)
 ·refine W_rs (kUn (di bb st64 rfl) ?_)
  refine kMv rfl (cm h (cg x10) rfl fun x17 _ h=>av 0 rfl rfl (Upd.refl _) rfl Tryz.sizeOf64 (kAs rfl (av 1 rfl rfl (Upd.refl _) rfl Tryz.sizeOf97 ?_)))
  obtain rfl:=osj h
  exact bc ⟨rfl,[(ab).val (ApiNode.mk 0 [] [] 0 0 0 0 0 []),Pr.i64 0,(ag).val x17],⟨yBox 0 ty64 aa,yT aa,yBox 1 ty97 aa,trivial⟩,aa⟩
 refine ax ?_
 refine bh (fun e C=>∃(x18:Ref12Wrong),qa x9 x10 x18=some r/\At [(6,am b4 0),(7,Pr.i64 (w64 (x10+1))),(8,am b5 0)] [Own.box b4 ab x9,Own.box b5 ag x18,Own.box b12 ab x9,Own.box b13 ag x11] e C) ?_ ?_
 ·rintro e C ⟨x18,h,hat2⟩
  refine W_at hat2 ?_
  unfold qa at h
  obtain rfl:=osj h
  exact bc ⟨rfl,[(ab).val x9,Pr.i64 (w64 (x10+1)),(ag).val x18],⟨yBox 0 ty64 aa,yT aa,yBox 1 ty97 aa,trivial⟩,aa⟩
 obtain⟨x18,hx18,h⟩:=ah h
 refine dt [(4,0,Own.box b4 ab x9),(6,1,Own.box b5 ag x18)] [Own.box b4 ab x9,Own.box b5 ag x18,Own.box b12 ab x9,Own.box b13 ag x11] hmx (by kernel_rfl) (by kernel_rfl) (show([4,6]:List Nat).Nodup by decide) (show([0,1]:List Nat).Nodup by decide) rfl rfl ?_
 refine eq1 (out:=(ab).val x9) (fun C2 hC=>(ap (R:=ab) (a:=x9) (R':=ab) 2 ty64 (Sub.refl _) (hi:=(hC 2 (by kernel_rfl)).trans rfl))) ?_
 refine eq1 (out:=Pr.i64 x10) (fun C2 hC=>eb) ?_
 refine eq1 (out:=Pr.i64 (w64 (x10+1))) (fun C2 hC=>qInt) ?_
 refine eq1 (out:=(ag).val x18) (fun C2 hC=>(ct (cr _ hx18))) ?_
 refine eqS (fun C2 hC=>dc (R:=ab) (R':=ab) (a:=(ApiNode.mk 0 [] [] 0 0 0 0 0 [])) (y:=x9) 0 Tryz.sizeOf64 (Upd.refl _) ((hC 0 (by kernel_rfl)).trans rfl)) ?_
 refine eq1 (out:=Pr.i64 (w64 (x10+1))) (fun C2 hC=>du) ?_
 refine eqS (fun C2 hC=>dc (R:=ag) (R':=ag) (a:=(Ref12Wrong.mk 0 0)) (y:=x18) 1 Tryz.sizeOf97 (Upd.refl _) ((hC 1 (by kernel_rfl)).trans rfl)) ?_
 exact⟨x18,h,atOk⟩
theorem ref12_simple_ok (x1:List ApiToken) (x2 x3:Int) (r:ApiNode × Int × Ref12Wrong) (h:ref12_simple x1 x2 x3=some r):FnP Tryz.prog 181 [aq bz x1,Pr.i64 x2,Pr.i64 x3] (bk [(ab).val r.1,Pr.i64 r.2.1,(ag).val r.2.2]):=by
 refine c4 (rs:=[.cell 6 64,.tmp 7,.cell 8 97]) Tryz.func181 rfl Tryz.ntmps181 Tryz.results181 (by decide) (fun s0=> ?_)
 unfold ref12_simple at h
 refine W_rs (bq al64 fun b4=>kAs rfl (bq al97 fun b5=>a8 (W_rs (kMvL rfl (kMv rfl (cm h (bu x1 x2 ([112,114,105,110,116]:List UInt8)) rfl fun x6 _ h=> ?_))))))
 refine a5 h rfl (fun _ h=> ?_) (fun _ h=> ?_)
 ·refine W_rs (kMvL rfl (kMv rfl (kIn rfl rfl rfl (kMv rfl (kIn rfl rfl rfl ?_)))))
  obtain⟨⟨x8,x9,x10⟩,hx8,h⟩:=ah h
  refine kUn (ct (ref12_bracketed_ok x1 (w64 (x2+1)) (w64 (x3+1)) _ hx8)) ?_
  refine kUn (hMv (out:=bk [(ab).val x8,Pr.i64 x9,(ag).val x10]) rfl) (kUn au ?_)
  refine kUn au ?_
  refine kUn au ?_
  refine bq al64 fun b11=> ?_
  refine bq al97 fun b12=>av 2 rfl rfl (Upd.refl _) rfl Tryz.sizeOf64 (kAs rfl (av 3 rfl rfl (Upd.refl _) rfl Tryz.sizeOf97 (a8 (W_rs (kUn (ai ki) ?_)))))
  refine kUn (ap 3 ty3 cb) ?_
  refine kIn rfl rfl rfl ?_
  refine a5 h rfl (fun _ h=> ?_) (fun _ h=> ?_)
  ·refine bh (fun e C=>ref12_simple_j1 x10=some r/\At [(6,am b4 0),(7,Pr.i64 0),(8,am b5 0)] [Own.box b4 ab (ApiNode.mk 0 [] [] 0 0 0 0 0 []),Own.box b5 ag x10,Own.box b11 ab x8,Own.box b12 ag x10] e C) ?_ ?_
   ·rintro e C ⟨h,hat1⟩
    refine W_at hat1 ?_
    unfold ref12_simple_j1 at h
    obtain rfl:=osj h
    exact bc ⟨rfl,[(ab).val (ApiNode.mk 0 [] [] 0 0 0 0 0 []),Pr.i64 0,(ag).val x10],⟨yBox 0 ty64 aa,yT aa,yBox 1 ty97 aa,trivial⟩,aa⟩
   refine dt [(2,0,Own.box b4 ab (ApiNode.mk 0 [] [] 0 0 0 0 0 [])),(4,1,Own.box b5 ag x10)] [Own.box b4 ab (ApiNode.mk 0 [] [] 0 0 0 0 0 []),Own.box b5 ag x10,Own.box b11 ab x8,Own.box b12 ag x10] hmx (by kernel_rfl) (by kernel_rfl) (show([2,4]:List Nat).Nodup by decide) (show([0,1]:List Nat).Nodup by decide) rfl rfl ?_
   refine eq1 (out:=(ab).val (ApiNode.mk 0 [] [] 0 0 0 0 0 [])) (fun C2 hC=>(di bb st64 rfl)) ?_
   refine eq1 (out:=(ag).val x10) (fun C2 hC=>(ap (R:=ag) (a:=x10) (R':=ag) 3 ty97 (Sub.refl _) (hi:=(hC 3 (by kernel_rfl)).trans rfl))) ?_
   refine eqS (fun C2 hC=>dc (R:=ab) (R':=ab) (a:=(ApiNode.mk 0 [] [] 0 0 0 0 0 [])) (y:=(ApiNode.mk 0 [] [] 0 0 0 0 0 [])) 0 Tryz.sizeOf64 (Upd.refl _) ((hC 0 (by kernel_rfl)).trans rfl)) ?_
   refine eq1 (out:=Pr.i64 0) (fun C2 hC=>du) ?_
   refine eqS (fun C2 hC=>dc (R:=ag) (R':=ag) (a:=(Ref12Wrong.mk 0 0)) (y:=x10) 1 Tryz.sizeOf97 (Upd.refl _) ((hC 1 (by kernel_rfl)).trans rfl)) ?_
   exact⟨h,atOk⟩
  refine ax (a8 (W_rs (kMvL rfl (kMv rfl (cm h (bu x1 x9 ([59]:List UInt8)) rfl fun x14 _ h=>kNo rfl ?_)))))
  refine a5 h rfl (fun _ h=> ?_) (fun _ h=> ?_)
  ·refine W_rs (kUn (di bb st64 rfl) ?_)
   refine kMv rfl (cm h (cg x9) rfl fun x16 _ h=>av 0 rfl rfl (Upd.refl _) rfl Tryz.sizeOf64 (kAs rfl (av 1 rfl rfl (Upd.refl _) rfl Tryz.sizeOf97 ?_)))
   obtain rfl:=osj h
   exact bc ⟨rfl,[(ab).val (ApiNode.mk 0 [] [] 0 0 0 0 0 []),Pr.i64 0,(ag).val x16],⟨yBox 0 ty64 aa,yT aa,yBox 1 ty97 aa,trivial⟩,aa⟩
  refine ax (W_rs (kMvL rfl (kMv rfl (kMv rfl (kIn rfl rfl rfl (kUn (ap 2 ty64 (Sub.refl _)) ?_))))))
  refine kUn (cl (R:=ab) (a:=x8) el53 (Nat.le_of_ble_eq_true rfl)) ?_
  refine cm h (db x1 12 x2 (w64 (x9+1)) ([x8]:List ApiNode)) rfl fun x17 _ h=>kMv rfl (kIn rfl rfl rfl (cm h (cr) rfl fun x18 _ h=>av 0 rfl rfl (Upd.refl _) rfl Tryz.sizeOf64 (kAs rfl (av 1 rfl rfl (Upd.refl _) rfl Tryz.sizeOf97 ?_))))
  obtain rfl:=osj h
  exact bc ⟨rfl,[(ab).val x17,Pr.i64 (w64 (x9+1)),(ag).val x18],⟨yBox 0 ty64 aa,yT aa,yBox 1 ty97 aa,trivial⟩,aa⟩
 refine ax (a8 (W_rs (kMvL rfl (kMv rfl (kIn rfl rfl rfl (cm h (bu x1 (w64 (x2+1)) ([59]:List UInt8)) rfl fun x19 _ h=> ?_))))))
 refine a5 h rfl (fun _ h=> ?_) (fun _ h=> ?_)
 ·refine W_rs (kMvL rfl (kMv rfl (kMv rfl (kIn rfl rfl rfl ?_))))
  obtain⟨x21,hx21,h⟩:=ah h
  refine kUn (qCall' (db x1 11 x2 (w64 (x2+2)) [] _ hx21) ⟨aa,aa,aa,aa,c7 _,trivial⟩) ?_
  refine kMv rfl (kIn rfl rfl rfl (cm h (cr) rfl fun x22 _ h=>av 0 rfl rfl (Upd.refl _) rfl Tryz.sizeOf64 (kAs rfl (av 1 rfl rfl (Upd.refl _) rfl Tryz.sizeOf97 ?_))))
  obtain rfl:=osj h
  exact bc ⟨rfl,[(ab).val x21,Pr.i64 (w64 (x2+2)),(ag).val x22],⟨yBox 0 ty64 aa,yT aa,yBox 1 ty97 aa,trivial⟩,aa⟩
 refine ax (W_rs (kMvL rfl (kMv rfl (kIn rfl rfl rfl (kMv rfl (kIn rfl rfl rfl ?_))))))
 obtain⟨⟨x23,x24,x25⟩,hx23,h⟩:=ah h
 refine kUn (ct (ko x1 (w64 (x2+1)) (w64 (x3+1)) _ hx23)) ?_
 refine kUn (hMv (out:=bk [(ab).val x23,Pr.i64 x24,(ag).val x25]) rfl) (kUn au ?_)
 refine kUn au ?_
 refine kUn au ?_
 refine bq al64 fun b26=> ?_
 refine bq al97 fun b27=>av 2 rfl rfl (Upd.refl _) rfl Tryz.sizeOf64 (kAs rfl (av 3 rfl rfl (Upd.refl _) rfl Tryz.sizeOf97 (a8 (W_rs (kUn (ai ki) ?_)))))
 refine kUn (ap 3 ty3 cb) ?_
 refine kIn rfl rfl rfl ?_
 refine a5 h rfl (fun _ h=> ?_) (fun _ h=> ?_)
 ·refine bh (fun e C=>ref12_simple_j2 x25=some r/\At [(6,am b4 0),(7,Pr.i64 0),(8,am b5 0)] [Own.box b4 ab (ApiNode.mk 0 [] [] 0 0 0 0 0 []),Own.box b5 ag x25,Own.box b26 ab x23,Own.box b27 ag x25] e C) ?_ ?_
  ·rintro e C ⟨h,hat2⟩
   refine W_at hat2 ?_
   unfold ref12_simple_j2 at h
   obtain rfl:=osj h
   exact bc ⟨rfl,[(ab).val (ApiNode.mk 0 [] [] 0 0 0 0 0 []),Pr.i64 0,(ag).val x25],⟨yBox 0 ty64 aa,yT aa,yBox 1 ty97 aa,trivial⟩,aa⟩
  refine dt [(2,0,Own.box b4 ab (ApiNode.mk 0 [] [] 0 0 0 0 0 [])),(4,1,Own.box b5 ag x25)] [Own.box b4 ab (ApiNode.mk 0 [] [] 0 0 0 0 0 []),Own.box b5 ag x25,Own.box b26 ab x23,Own.box b27 ag x25] hmx (by kernel_rfl) (by kernel_rfl) (show([2,4]:List Nat).Nodup by decide) (show([0,1]:List Nat).Nodup by decide) rfl rfl ?_
  refine eq1 (out:=(ab).val (ApiNode.mk 0 [] [] 0 0 0 0 0 [])) (fun C2 hC=>(di bb st64 rfl)) ?_
  refine eq1 (out:=(ag).val x25) (fun C2 hC=>(ap (R:=ag) (a:=x25) (R':=ag) 3 ty97 (Sub.refl _) (hi:=(hC 3 (by kernel_rfl)).trans rfl))) ?_
  refine eqS (fun C2 hC=>dc (R:=ab) (R':=ab) (a:=(ApiNode.mk 0 [] [] 0 0 0 0 0 [])) (y:=(ApiNode.mk 0 [] [] 0 0 0 0 0 [])) 0 Tryz.sizeOf64 (Upd.refl _) ((hC 0 (by kernel_rfl)).trans rfl)) ?_
  refine eq1 (out:=Pr.i64 0) (fun C2 hC=>du) ?_
  refine eqS (fun C2 hC=>dc (R:=ag) (R':=ag) (a:=(Ref12Wrong.mk 0 0)) (y:=x25) 1 Tryz.sizeOf97 (Upd.refl _) ((hC 1 (by kernel_rfl)).trans rfl)) ?_
  exact⟨h,atOk⟩
 refine ax (a8 (W_rs (kMvL rfl (kMv rfl (cm h (bu x1 x24 ([59]:List UInt8)) rfl fun x29 _ h=>kNo rfl ?_)))))
 refine a5 h rfl (fun _ h=> ?_) (fun _ h=> ?_)
 ·refine W_rs (kUn (di bb st64 rfl) ?_)
  refine kMv rfl (cm h (cg x24) rfl fun x31 _ h=>av 0 rfl rfl (Upd.refl _) rfl Tryz.sizeOf64 (kAs rfl (av 1 rfl rfl (Upd.refl _) rfl Tryz.sizeOf97 ?_)))
  obtain rfl:=osj h
  exact bc ⟨rfl,[(ab).val (ApiNode.mk 0 [] [] 0 0 0 0 0 []),Pr.i64 0,(ag).val x31],⟨yBox 0 ty64 aa,yT aa,yBox 1 ty97 aa,trivial⟩,aa⟩
 refine ax (W_rs (kMvL rfl (kMv rfl (kMv rfl (kIn rfl rfl rfl (kUn (ap 2 ty64 (Sub.refl _)) ?_))))))
 refine kUn (cl (R:=ab) (a:=x23) el53 (Nat.le_of_ble_eq_true rfl)) ?_
 refine cm h (db x1 11 x2 (w64 (x24+1)) ([x23]:List ApiNode)) rfl fun x32 _ h=>kMv rfl (kIn rfl rfl rfl (cm h (cr) rfl fun x33 _ h=>av 0 rfl rfl (Upd.refl _) rfl Tryz.sizeOf64 (kAs rfl (av 1 rfl rfl (Upd.refl _) rfl Tryz.sizeOf97 ?_))))
 obtain rfl:=osj h
 exact bc ⟨rfl,[(ab).val x32,Pr.i64 (w64 (x24+1)),(ag).val x33],⟨yBox 0 ty64 aa,yT aa,yBox 1 ty97 aa,trivial⟩,aa⟩
end Go.Proofs.YtcndghapmoaidaaGreatDoor
