/- The code comes to what these functions say (printed by wip/gen/gen.py). -/
import Derived.Test.YtcndghapmoaidaaGreatDoorZX
import Derived.Test.YtcndghapmoaidaaGreatDoorZP2
import Derived.Test.YtcndghapmoaidaaGreatDoorZT
set_option linter.unusedSimpArgs false
set_option linter.unusedVariables false
set_option linter.unusedSectionVars false
set_option linter.unusedSectionVars false
set_option maxRecDepth 100000
set_option maxHeartbeats 4000000
namespace Go.Proofs.YtcndghapmoaidaaGreatDoor
open Go Go.Cn
attribute [local irreducible] ec aq
theorem bind_Scope_made_ok (x1:BindScope) (x2:ApiNode) (r:ApiEntity × Int) (h:bind_Scope_made x1 x2=some r):FnP Tryz.prog 67 [(aj).val x1,(ab).val x2] (bk [(af).val r.1,Pr.i64 r.2]):=by
 refine c4 (rs:=[.cell 4 49,.tmp 5]) Tryz.func67 rfl Tryz.ntmps67 Tryz.results67 (by decide) (fun s0=> ?_)
 unfold bind_Scope_made at h
 refine W_rs ?_
 refine rBox (R:=aj) (a:=x1) rfl (fun b3=> ?_)
 refine rBox (R:=ab) (a:=x2) rfl (fun b4=> ?_)
 refine bq oy fun b5=>kAs rfl ?_
 refine bh (fun e C=>∃(x9:Int),∃(x8:ApiEntity),bind_Scope_made_j1 x9 x8=some r/\At [(4,am b5 0),(5,Pr.i64 x9)] [Own.box b3 aj x1,Own.box b4 ab x2,Own.box b5 af x8] e C) ?_ ?_
 ·rintro e C ⟨x9,x8,h,hat1⟩
  refine W_at hat1 ?_
  unfold bind_Scope_made_j1 at h
  obtain rfl:=osj h
  exact bc ⟨rfl,[(af).val x8,Pr.i64 x9],⟨yBox 2 ty49 aa,yT aa,trivial⟩,aa⟩
 refine eo 10 hmx (by kernel_rfl) (by kernel_rfl) ?_
 refine lUn (ap 0 ty66 (Sub.refl _)) ?_
 refine lUn (ap 0 ty66 (Sub.refl _)) ?_
 refine lUn (ai ef) ?_
 refine lUn (ap 1 ty9 bw) ?_
 obtain⟨⟨x6,x7⟩,hx6,h⟩:=ah h
 refine lUn (ct (oq x1 x2.Text _ hx6)) ?_
 refine lUn au ?_
 refine lUn au ?_
 obtain⟨⟨x8,x9⟩,hx8,h⟩:=ah h
 refine lUn (ct (bind_Scope_own2_ok x1 x6 x7 _ hx8)) ?_
 refine lUn au ?_
 refine lUn au ?_
 refine av 2 rfl rfl (Upd.refl _) rfl Tryz.sizeOf49 (kAs rfl ?_)
 exact⟨x9,x8,h,atOk⟩
def ej (R:bn):Prop:=(∀(x1:BindScope) (x2:ApiNode) (r:ApiEntity × Int),R.1 x1 x2=some r->FnP Tryz.prog 32 [(aj).val x1,(ab).val x2] (bk [(af).val r.1,Pr.i64 r.2]))/\(∀(x1:BindScope) (x2:ApiNode) (r:(List UInt8)),R.2.1 x1 x2=some r->FnP Tryz.prog 33 [(aj).val x1,(ab).val x2] (bv r))/\(∀(x1:BindScope) (x2:ApiNode) (r:ApiEntity × Int),R.2.2.1 x1 x2=some r->FnP Tryz.prog 68 [(aj).val x1,(ab).val x2] (bk [(af).val r.1,Pr.i64 r.2]))/\(∀(x1:BindScope) (x2:ApiNode) (r:ApiEntity × Int),R.2.2.2.1 x1 x2=some r->FnP Tryz.prog 69 [(aj).val x1,(ab).val x2] (bk [(af).val r.1,Pr.i64 r.2]))/\(∀(x1:BindScope) (x2:ApiNode) (x3:((List ApiEntity)->(List UInt8)->(List UInt8)->Option (ApiEntity × Bool))) (r:ApiEntity × Int),R.2.2.2.2 x1 x2 x3=some r->FnP Tryz.prog 118 [(aj).val x1,(ab).val x2,c3 Tryz.prog (spec185 x3)] (bk [(af).val r.1,Pr.i64 r.2]))
theorem F_bind_Scope_Entity_step (R:bn) (ih:ej R) (x1:BindScope) (x2:ApiNode) (r:ApiEntity × Int) (h:ul R x1 x2=some r):FnP Tryz.prog 32 [(aj).val x1,(ab).val x2] (bk [(af).val r.1,Pr.i64 r.2]):=by
 refine c4 (rs:=[.cell 4 49,.tmp 5]) Tryz.func32 rfl Tryz.ntmps32 Tryz.results32 (by decide) (fun s0=> ?_)
 unfold ul at h
 refine W_rs ?_
 refine rBox (R:=aj) (a:=x1) rfl (fun b3=> ?_)
 refine rBox (R:=ab) (a:=x2) rfl (fun b4=> ?_)
 refine bq oy fun b5=>kAs rfl (W_rs ?_)
 refine rMakeMapG (Rp.int .i64) (Rp.bd ((aj).val x1)) (fun b6=> ?_)
 refine kUn (ap 0 ty66 (Sub.refl _)) ?_
 refine kUn mz ?_
 refine ri (Rk:=Rp.int .i64) (R:=Rp.bd ((aj).val x1)) (m:=([]:GMap Int (Option Nat))) (kx:=17) (v:=(some 65)) 3 (kj Tryz.underlying3) Tryz.underlying114 ?_ (hu:=clo_bnd)
 refine kUn (ap 0 ty66 (Sub.refl _)) ?_
 refine kUn mz ?_
 refine ri (Rk:=Rp.int .i64) (R:=Rp.bd ((aj).val x1)) (m:=(gset 17 (some 65) ([]:GMap Int (Option Nat)))) (kx:=19) (v:=(some 66)) 3 (kj Tryz.underlying3) Tryz.underlying114 ?_ (hu:=clo_bnd)
 refine kUn (ap 0 ty66 (Sub.refl _)) ?_
 refine kUn mz ?_
 refine ri (Rk:=Rp.int .i64) (R:=Rp.bd ((aj).val x1)) (m:=(gset 19 (some 66) (gset 17 (some 65) ([]:GMap Int (Option Nat))))) (kx:=21) (v:=(some 67)) 3 (kj Tryz.underlying3) Tryz.underlying114 ?_ (hu:=clo_bnd)
 refine kUn (ap 0 ty66 (Sub.refl _)) ?_
 refine kUn mz ?_
 refine ri (Rk:=Rp.int .i64) (R:=Rp.bd ((aj).val x1)) (m:=(gset 21 (some 67) (gset 19 (some 66) (gset 17 (some 65) ([]:GMap Int (Option Nat)))))) (kx:=18) (v:=(some 68)) 3 (kj Tryz.underlying3) Tryz.underlying114 ?_ (hu:=clo_bnd)
 refine kUn (ap 0 ty66 (Sub.refl _)) ?_
 refine kUn mz ?_
 refine ri (Rk:=Rp.int .i64) (R:=Rp.bd ((aj).val x1)) (m:=(gset 18 (some 68) (gset 21 (some 67) (gset 19 (some 66) (gset 17 (some 65) ([]:GMap Int (Option Nat))))))) (kx:=20) (v:=(some 69)) 3 (kj Tryz.underlying3) Tryz.underlying114 ?_ (hu:=clo_bnd)
 refine kUn (hMv (out:=l7 b6) rfl) (kUn (ai dr) ?_)
 refine kUn (ap 1 ty3 bg) ?_
 refine kUn (qMapGetG2 (Rk:=Rp.int .i64) (R:=Rp.bd ((aj).val x1)) (m:=(gset 20 (some 69) (gset 18 (some 68) (gset 21 (some 67) (gset 19 (some 66) (gset 17 (some 65) ([]:GMap Int (Option Nat)))))))) (kx:=x2.Kind) (z:=none) 3 (kj Tryz.underlying3) Tryz.underlying114 Tryz.zeroValue68 (fun _=>rfl)) ?_
 refine kUn (hMv (out:=bk [(Rp.bd ((aj).val x1)).val (gget x2.Kind none (gset 20 (some 69) (gset 18 (some 68) (gset 21 (some 67) (gset 19 (some 66) (gset 17 (some 65) ([]:GMap Int (Option Nat)))))))),Pr.bool (ghas x2.Kind (gset 20 (some 69) (gset 18 (some 68) (gset 21 (some 67) (gset 19 (some 66) (gset 17 (some 65) ([]:GMap Int (Option Nat))))))))]) rfl) (kUn au ?_)
 refine kUn au ?_
 refine kUn (hAs (out:=(Rp.bd ((aj).val x1)).val (gget x2.Kind none (gset 20 (some 69) (gset 18 (some 68) (gset 21 (some 67) (gset 19 (some 66) (gset 17 (some 65) ([]:GMap Int (Option Nat))))))))) rfl) (kAs rfl (a8 (W_rs (kMv rfl (kNo rfl ?_)))))
 refine a5 h rfl (fun _ h=> ?_) (fun _ h=> ?_)
 ·refine W_rs (kUn (fv st49 rfl) ?_)
  refine av 2 rfl rfl (Upd.refl _) rfl Tryz.sizeOf49 (kAs rfl ?_)
  obtain rfl:=osj h
  exact bc ⟨rfl,[(af).val (ApiEntity.mk 0 [] [] [] [] false [] 0 0),Pr.i64 0],⟨yBox 2 ty49 aa,yT aa,trivial⟩,aa⟩
 refine ax (W_rs (kUn (hMv (out:=(Rp.bd ((aj).val x1)).val (gget x2.Kind none (gset 20 (some 69) (gset 18 (some 68) (gset 21 (some 67) (gset 19 (some 66) (gset 17 (some 65) ([]:GMap Int (Option Nat))))))))) rfl) (kUn (ap 1 ty64 (Sub.refl _)) ?_)))
 rcases bo h with⟨hc8,h⟩|⟨hc8,h⟩
 ·refine rEnv 29 (q:=j2 65 [(aj).val x1] []) (bnd_le hc8) ?_
  obtain⟨⟨x9,x10⟩,hx9,h⟩:=ah h
  refine kUn (qCallClo (bind_Scope_name_ok x1 x2 _ hx9)) ?_
  refine kUn au ?_
  refine kUn au ?_
  refine av 2 rfl rfl (Upd.refl _) rfl Tryz.sizeOf49 (kAs rfl ?_)
  obtain rfl:=osj h
  exact bc ⟨rfl,[(af).val x9,Pr.i64 x10],⟨yBox 2 ty49 aa,yT aa,trivial⟩,aa⟩
 rcases bo h with⟨hc11,h⟩|⟨hc11,h⟩
 ·refine rEnv 29 (q:=j2 66 [(aj).val x1] []) (bnd_le hc11) ?_
  obtain⟨⟨x12,x13⟩,hx12,h⟩:=ah h
  refine kUn (qCallClo (bind_Scope_call_ok x1 x2 _ hx12)) ?_
  refine kUn au ?_
  refine kUn au ?_
  refine av 2 rfl rfl (Upd.refl _) rfl Tryz.sizeOf49 (kAs rfl ?_)
  obtain rfl:=osj h
  exact bc ⟨rfl,[(af).val x12,Pr.i64 x13],⟨yBox 2 ty49 aa,yT aa,trivial⟩,aa⟩
 rcases bo h with⟨hc14,h⟩|⟨hc14,h⟩
 ·refine rEnv 29 (q:=j2 67 [(aj).val x1] []) (bnd_le hc14) ?_
  obtain⟨⟨x15,x16⟩,hx15,h⟩:=ah h
  refine kUn (qCallClo (bind_Scope_made_ok x1 x2 _ hx15)) ?_
  refine kUn au ?_
  refine kUn au ?_
  refine av 2 rfl rfl (Upd.refl _) rfl Tryz.sizeOf49 (kAs rfl ?_)
  obtain rfl:=osj h
  exact bc ⟨rfl,[(af).val x15,Pr.i64 x16],⟨yBox 2 ty49 aa,yT aa,trivial⟩,aa⟩
 rcases bo h with⟨hc17,h⟩|⟨hc17,h⟩
 ·refine rEnv 29 (q:=j2 68 [(aj).val x1] []) (bnd_le hc17) ?_
  obtain⟨⟨x18,x19⟩,hx18,h⟩:=ah h
  refine kUn (qCallClo (ih.2.2.1 x1 x2 _ hx18)) ?_
  refine kUn au ?_
  refine kUn au ?_
  refine av 2 rfl rfl (Upd.refl _) rfl Tryz.sizeOf49 (kAs rfl ?_)
  obtain rfl:=osj h
  exact bc ⟨rfl,[(af).val x18,Pr.i64 x19],⟨yBox 2 ty49 aa,yT aa,trivial⟩,aa⟩
 rcases bo h with⟨hc20,h⟩|⟨hc20,h⟩
 ·refine rEnv 29 (q:=j2 69 [(aj).val x1] []) (bnd_le hc20) ?_
  obtain⟨⟨x21,x22⟩,hx21,h⟩:=ah h
  refine kUn (qCallClo (ih.2.2.2.1 x1 x2 _ hx21)) ?_
  refine kUn au ?_
  refine kUn au ?_
  refine av 2 rfl rfl (Upd.refl _) rfl Tryz.sizeOf49 (kAs rfl ?_)
  obtain rfl:=osj h
  exact bc ⟨rfl,[(af).val x21,Pr.i64 x22],⟨yBox 2 ty49 aa,yT aa,trivial⟩,aa⟩
 cases h
theorem F_bind_Scope_Type_step (R:bn) (ih:ej R) (x1:BindScope) (x2:ApiNode) (r:(List UInt8)) (h:F_bind_Scope_Type R x1 x2=some r):FnP Tryz.prog 33 [(aj).val x1,(ab).val x2] (bv r):=by
 refine cu (rs:=[4]) Tryz.func33 rfl Tryz.ntmps33 ⟨by decide,Tryz.results33⟩ (by decide) (fun s0=> ?_)
 unfold F_bind_Scope_Type at h
 refine W_rs ?_
 refine rBox (R:=aj) (a:=x1) rfl (fun b3=> ?_)
 refine rBox (R:=ab) (a:=x2) rfl (fun b4=> ?_)
 refine kAs rfl (a8 (W_rs (kUn (ai dr) ?_)))
 refine kUn (ap 1 ty3 bg) ?_
 refine az ?_
 refine bh (fun e C=>∃(x6:Bool),qi R x2 x1 x6=some r/\At [(2,am b3 0),(3,am b4 0),(8,Pr.i64 x2.Kind),(9,Pr.bool x6)] [Own.box b3 aj x1,Own.box b4 ab x2] e C) ?_ ?_
 ·rintro e C ⟨x6,h,hat2⟩
  refine W_at hat2 ?_
  unfold qi at h
  refine a5 h rfl (fun _ h=> ?_) (fun _ h=> ?_)
  ·refine W_rs (kAs rfl ?_)
   obtain rfl:=osj h
   exact bc ⟨rfl,aa⟩
  refine bh (fun e C=>∃(x9:Bool),qj R x2 x1 x9=some r/\At [(2,am b3 0),(3,am b4 0),(8,Pr.i64 x2.Kind),(12,Pr.bool x9)] [Own.box b3 aj x1,Own.box b4 ab x2] e C) ?_ ?_
  ·rintro e C ⟨x9,h,hat1⟩
   refine W_at hat1 ?_
   unfold qj at h
   refine a5 h rfl (fun _ h=> ?_) (fun _ h=> ?_)
   ·refine W_rs (kAs rfl ?_)
    obtain rfl:=osj h
    exact bc ⟨rfl,aa⟩
   refine W_rs (kIn rfl rfl rfl (kAs rfl ?_))
   refine a5 h rfl (fun _ h=> ?_) (fun _ h=> ?_)
   ·refine W_rs (kAs rfl ?_)
    obtain rfl:=osj h
    exact bc ⟨rfl,aa⟩
   refine W_rs (kIn rfl rfl rfl (kAs rfl ?_))
   refine a5 h rfl (fun _ h=> ?_) (fun _ h=> ?_)
   ·refine a8 (W_rs (kUn (ju (R:=a6) (ls:=([([43]:List UInt8),([45]:List UInt8),([42]:List UInt8),([47]:List UInt8),([37]:List UInt8)]:List (List UInt8))) el22 (Nat.le_of_ble_eq_true rfl) ⟨rfl,rfl⟩ ⟨rfl,rfl,rfl,rfl,rfl,trivial⟩) ?_))
    refine kUn (ai ef) ?_
    refine kUn (ap 1 ty9 bw) ?_
    refine cm h (i1 ([([43]:List UInt8),([45]:List UInt8),([42]:List UInt8),([47]:List UInt8),([37]:List UInt8)]:List (List UInt8)) x2.Text) rfl fun x13 _ h=> ?_
    refine a5 h rfl (fun _ h=> ?_) (fun _ h=> ?_)
    ·refine W_rs (kAs rfl ?_)
     obtain rfl:=osj h
     exact bc ⟨rfl,aa⟩
    refine ax (W_rs (kAs rfl ?_))
    obtain rfl:=osj h
    exact bc ⟨rfl,aa⟩
   refine W_rs (kIn rfl rfl rfl (kAs rfl ?_))
   refine a5 h rfl (fun _ h=> ?_) (fun _ h=> ?_)
   ·refine a8 (W_rs (kUn (ai fld66_2) ?_))
    refine kUn (ap 0 ty4 ue) ?_
    refine kNo rfl ?_
    refine a5 h rfl (fun _ h=> ?_) (fun _ h=> ?_)
    ·refine W_rs (kUn (ai fld66_1) ?_)
     refine kUn (ap 0 ty9 jk) ?_
     refine kAs rfl ?_
     obtain rfl:=osj h
     exact bc ⟨rfl,aa⟩
    refine ax (W_rs (kAs rfl ?_))
    obtain rfl:=osj h
    exact bc ⟨rfl,aa⟩
   refine ax (W_rs (kUn (ap 0 ty66 (Sub.refl _)) ?_))
   refine kUn (ap 1 ty64 (Sub.refl _)) ?_
   obtain⟨⟨x17,x18⟩,hx17,h⟩:=ah h
   refine kUn (ct (ih.1 x1 x2 _ hx17)) ?_
   refine kUn (hMv (out:=bk [(af).val x17,Pr.i64 x18]) rfl) (kUn au ?_)
   refine kUn au ?_
   refine bq oy fun b19=>av 2 rfl rfl (Upd.refl _) rfl Tryz.sizeOf49 (kAs rfl (a8 (az (W_rs (kMv rfl (kIn rfl rfl rfl (kAs rfl ?_)))))))
   refine a5 h rfl (fun _ h=> ?_) (fun _ h=> ?_)
   ·refine W_rs (kAs rfl ?_)
    obtain rfl:=osj h
    exact bc ⟨rfl,aa⟩
   refine W_rs (kUn (ai dr) ?_)
   refine kUn (ap 1 ty3 bg) ?_
   refine kIn rfl rfl rfl (kAs rfl ?_)
   refine a5 h rfl (fun _ h=> ?_) (fun _ h=> ?_)
   ·refine W_rs (kUn (ai j7) ?_)
    refine kUn (ap 2 ty9 dh) ?_
    refine kAs rfl ?_
    obtain rfl:=osj h
    exact bc ⟨rfl,aa⟩
   refine W_rs (kUn (ai pr) ?_)
   refine kUn (ap 2 ty3 da) ?_
   refine kIn rfl rfl rfl (kAs rfl ?_)
   refine a5 h rfl (fun _ h=> ?_) (fun _ h=> ?_)
   ·refine W_rs (kAs rfl ?_)
    obtain rfl:=osj h
    exact bc ⟨rfl,aa⟩
   refine ax (W_rs (kUn (ai fld49_4) ?_))
   refine kUn (ap 2 ty9 f4) ?_
   refine kAs rfl ?_
   obtain rfl:=osj h
   exact bc ⟨rfl,aa⟩
  refine W_rs (kIn rfl rfl rfl (kAs rfl ?_))
  refine a5 h rfl (fun _ h=> ?_) (fun _ h=> ?_)
  ·refine ax ?_
   exact⟨x2.Kind==14,h,atOk⟩
  refine W_r (kIn rfl rfl rfl (kAs rfl ?_))
  exact⟨x2.Kind==22,h,atOk⟩
 refine W_rs (kIn rfl rfl rfl (kAs rfl ?_))
 refine a5 h rfl (fun _ h=> ?_) (fun _ h=> ?_)
 ·refine ax ?_
  exact⟨x2.Kind==13,h,atOk⟩
 refine W_r (kIn rfl rfl rfl (kAs rfl ?_))
 exact⟨x2.Kind==23,h,atOk⟩
theorem F_bind_Scope_dot_step (R:bn) (ih:ej R) (x1:BindScope) (x2:ApiNode) (r:ApiEntity × Int) (h:F_bind_Scope_dot R x1 x2=some r):FnP Tryz.prog 68 [(aj).val x1,(ab).val x2] (bk [(af).val r.1,Pr.i64 r.2]):=by
 refine c4 (rs:=[.cell 4 49,.tmp 5]) Tryz.func68 rfl Tryz.ntmps68 Tryz.results68 (by decide) (fun s0=> ?_)
 unfold F_bind_Scope_dot at h
 refine W_rs ?_
 refine rBox (R:=aj) (a:=x1) rfl (fun b3=> ?_)
 refine rBox (R:=ab) (a:=x2) rfl (fun b4=> ?_)
 refine bq oy fun b5=>kAs rfl (W_rs (kUn (ap 0 ty66 (Sub.refl _)) ?_))
 refine kUn (ap 1 ty64 (Sub.refl _)) ?_
 obtain⟨⟨x6,x7⟩,hx6,h⟩:=ah h
 refine kUn (qCall' (ih.2.2.2.2 x1 x2 kin_Field _ hx6) ⟨aa,aa,(is_pfn en113 (fun _ _ hs=>by obtain⟨a0,a1,a2,r,rfl,rfl,hr⟩:=hs;exact kin_Field_ok a0 a1 a2 r hr)),trivial⟩) ?_
 refine kUn au ?_
 refine kUn au ?_
 refine av 2 rfl rfl (Upd.refl _) rfl Tryz.sizeOf49 (kAs rfl ?_)
 obtain rfl:=osj h
 exact bc ⟨rfl,[(af).val x6,Pr.i64 x7],⟨yBox 2 ty49 aa,yT aa,trivial⟩,aa⟩
theorem F_bind_Scope_dotCall_step (R:bn) (ih:ej R) (x1:BindScope) (x2:ApiNode) (r:ApiEntity × Int) (h:sg R x1 x2=some r):FnP Tryz.prog 69 [(aj).val x1,(ab).val x2] (bk [(af).val r.1,Pr.i64 r.2]):=by
 refine c4 (rs:=[.cell 4 49,.tmp 5]) Tryz.func69 rfl Tryz.ntmps69 Tryz.results69 (by decide) (fun s0=> ?_)
 unfold sg at h
 refine W_rs ?_
 refine rBox (R:=aj) (a:=x1) rfl (fun b3=> ?_)
 refine rBox (R:=ab) (a:=x2) rfl (fun b4=> ?_)
 refine bq oy fun b5=>kAs rfl (W_rs (kUn (ap 0 ty66 (Sub.refl _)) ?_))
 refine kUn (ap 1 ty64 (Sub.refl _)) ?_
 obtain⟨⟨x6,x7⟩,hx6,h⟩:=ah h
 refine kUn (qCall' (ih.2.2.2.2 x1 x2 kin_Method _ hx6) ⟨aa,aa,(is_pfn en117 (fun _ _ hs=>by obtain⟨a0,a1,a2,r,rfl,rfl,hr⟩:=hs;exact kin_Method_ok a0 a1 a2 r hr)),trivial⟩) ?_
 refine kUn au ?_
 refine kUn au ?_
 refine av 2 rfl rfl (Upd.refl _) rfl Tryz.sizeOf49 (kAs rfl ?_)
 obtain rfl:=osj h
 exact bc ⟨rfl,[(af).val x6,Pr.i64 x7],⟨yBox 2 ty49 aa,yT aa,trivial⟩,aa⟩
theorem F_bind_Scope_member_step (R:bn) (ih:ej R) (x1:BindScope) (x2:ApiNode) (x3:((List ApiEntity)->(List UInt8)->(List UInt8)->Option (ApiEntity × Bool))) (r:ApiEntity × Int) (h:uk R x1 x2 x3=some r):FnP Tryz.prog 118 [(aj).val x1,(ab).val x2,c3 Tryz.prog (spec185 x3)] (bk [(af).val r.1,Pr.i64 r.2]):=by
 refine c4 (rs:=[.cell 6 49,.tmp 7]) Tryz.func118 rfl Tryz.ntmps118 Tryz.results118 (by decide) (fun s0=> ?_)
 unfold uk at h
 refine W_rs ?_
 refine rBox (R:=aj) (a:=x1) rfl (fun b4=> ?_)
 refine rBox (R:=ab) (a:=x2) rfl (fun b5=> ?_)
 refine bq oy fun b6=>kAs rfl (a8 (W_rs (kUn (ai ee) ?_)))
 refine kUn (ap 1 ty53 bl) ?_
 refine kUn (iz rfl Tryz.underlying53) ?_
 refine kIn rfl rfl rfl ?_
 refine a5 h rfl (fun _ h=> ?_) (fun _ h=> ?_)
 ·refine W_rs (kUn (fv st49 rfl) ?_)
  refine av 2 rfl rfl (Upd.refl _) rfl Tryz.sizeOf49 (kAs rfl ?_)
  obtain rfl:=osj h
  exact bc ⟨rfl,[(af).val (ApiEntity.mk 0 [] [] [] [] false [] 0 0),Pr.i64 180],⟨yBox 2 ty49 aa,yT aa,trivial⟩,aa⟩
 refine ax (W_rs (kUn (ai ee) ?_))
 refine kUn (ap 1 ty53 bl) ?_
 obtain⟨x8,hx8,h⟩:=ah h
 refine kUn (dg Tryz.underlying53 Tryz.sizeOf64 hx8) ?_
 refine kUn (cf ty64) ?_
 refine bq al64 fun b9=>av 3 rfl rfl (Upd.refl _) rfl Tryz.sizeOf64 ?_
 refine bh (fun e C=>mw R x1 x8 x3 x2=some r/\At [(2,c3 Tryz.prog (spec185 x3)),(3,am b4 0),(4,am b5 0),(6,am b6 0),(8,am b9 0)] [Own.box b4 aj x1,Own.box b5 ab x2,Own.box b6 af (ApiEntity.mk 0 [] [] [] [] false [] 0 0),Own.box b9 ab x8] e C) ?_ ?_
 ·rintro e C ⟨h,hat4⟩
  refine W_at hat4 ?_
  unfold mw at h
  refine bh (fun e C=>∃(x24:Bool),∃(x23:ApiEntity),∃(b25:Nat),sc R x3 x1 x2 x24 x23=some r/\At [(2,c3 Tryz.prog (spec185 x3)),(3,am b4 0),(4,am b5 0),(6,am b6 0),(12,am b25 0),(13,Pr.bool x24)] [Own.box b4 aj x1,Own.box b5 ab x2,Own.box b6 af (ApiEntity.mk 0 [] [] [] [] false [] 0 0),Own.box b9 ab x8,Own.box b25 af x23] e C) ?_ ?_
  ·rintro e C ⟨x24,x23,b25,h,hat3⟩
   refine W_at hat3 ?_
   unfold sc at h
   refine a8 ?_
   refine bh (fun e C=>∃(x27:Bool),mx R x3 x1 x23 x2 x27=some r/\At [(2,c3 Tryz.prog (spec185 x3)),(3,am b4 0),(4,am b5 0),(6,am b6 0),(12,am b25 0),(70,Pr.bool x27)] [Own.box b4 aj x1,Own.box b5 ab x2,Own.box b6 af (ApiEntity.mk 0 [] [] [] [] false [] 0 0),Own.box b9 ab x8,Own.box b25 af x23] e C) ?_ ?_
   ·rintro e C ⟨x27,h,hat2⟩
    refine W_at hat2 ?_
    unfold mx at h
    refine a5 h rfl (fun _ h=> ?_) (fun _ h=> ?_)
    ·refine W_rs (kUn (fv st49 rfl) ?_)
     refine av 2 rfl rfl (Upd.refl _) rfl Tryz.sizeOf49 (kAs rfl ?_)
     obtain rfl:=osj h
     exact bc ⟨rfl,[(af).val (ApiEntity.mk 0 [] [] [] [] false [] 0 0),Pr.i64 180],⟨yBox 2 ty49 aa,yT aa,trivial⟩,aa⟩
    refine ax (W_rs (kUn (ap 0 ty66 (Sub.refl _)) ?_))
    refine bq al66 fun b29=>av 5 rfl rfl (Upd.refl _) rfl Tryz.sizeOf66 (W_rs (kUn (ai fld66_2) ?_))
    refine av 5 rfl rfl uc rfl Tryz.sizeOf4 ?_
    refine bh (fun e C=>∃(x33:Int),∃(x32:ApiEntity),sd R x33 x32=some r/\At [(6,am b6 0),(7,Pr.i64 x33)] [Own.box b4 aj x1,Own.box b5 ab x2,Own.box b6 af x32,Own.box b9 ab x8,Own.box b25 af x23,Own.box b29 aj ({x1 with Static:=false})] e C) ?_ ?_
    ·rintro e C ⟨x33,x32,h,hat1⟩
     refine W_at hat1 ?_
     unfold sd at h
     obtain rfl:=osj h
     exact bc ⟨rfl,[(af).val x32,Pr.i64 x33],⟨yBox 2 ty49 aa,yT aa,trivial⟩,aa⟩
    refine eo 14 hmx (by kernel_rfl) (by kernel_rfl) ?_
    refine lUn (ap 5 ty66 (Sub.refl _)) ?_
    refine lUn (hMv (out:=c3 Tryz.prog (spec185 x3)) rfl) (lUn (ai fld66_0) ?_)
    refine lUn (ap 0 ty38 gl) ?_
    refine lUn (ai j7) ?_
    refine lUn (ap 4 ty9 dh) ?_
    refine lUn (ai ef) ?_
    refine lUn (ap 1 ty9 bw) ?_
    obtain⟨⟨x30,x31⟩,hx30,h⟩:=ah h
    refine lUn (qCallP (spec:=spec185 x3) ⟨_,_,_,_,rfl,rfl,hx30⟩) ?_
    refine lUn au ?_
    refine lUn au ?_
    obtain⟨⟨x32,x33⟩,hx32,h⟩:=ah h
    refine lUn (ct (rp ({x1 with Static:=false}) x30 x31 _ hx32)) ?_
    refine lUn au ?_
    refine lUn au ?_
    refine av 2 rfl rfl (Upd.refl _) rfl Tryz.sizeOf49 (kAs rfl ?_)
    exact⟨x33,x32,h,atOk⟩
   refine W_r (kMv rfl (kNo rfl (kMv rfl ?_)))
   rcases bo h with⟨hc26,h⟩|⟨hc26,h⟩
   ·refine kSkF rfl aa hc26 (kSkF rfl aa hc26 (kSkF rfl aa hc26 (kPt rfl hc26 rfl ?_)))
    exact⟨true,h,atOk⟩
   refine kGd rfl aa hc26 (ai j7) ?_
   refine kGd rfl aa hc26 (ap 4 ty9 dh) ?_
   refine kGd rfl aa hc26 (qStr rfl rfl rfl) (kPf rfl hc26 rfl ?_)
   exact⟨x23.Id==[],h,atOk⟩
  obtain⟨x22,hx22,h⟩:=ah h
  obtain⟨⟨x23,x24⟩,hx23,h⟩:=ah h
  refine W_drawG 1 (fun B S=>[Own.box b4 aj x1,Own.box b5 ab x2,Own.box b6 af (ApiEntity.mk 0 [] [] [] [] false [] 0 0),Own.box b9 ab x8,(cond (S 9) (Own.box (B 8) af x23) (cond (S 8) (Own.box (B 8) af (ApiEntity.mk 0 [] [] [] [] false [] 0 0)) Own.nil))]) (fun B=>[Own.box b4 aj x1,Own.box b5 ab x2,Own.box b6 af (ApiEntity.mk 0 [] [] [] [] false [] 0 0),Own.box b9 ab x8,Own.box (B 8) af x23]) [(aj).val x1,(aj).val x1,(ab).val x8,bv x22,bk [(af).val x23,Pr.bool x24],bk [(af).val x23,Pr.bool x24],(af).val x23,Pr.bool x24,.any,.any,Pr.bool x24] (fun k=>([0,0,0,0,0,0,0,0,2,1,0]:List Nat).getD k 0) hmx (by kernel_rfl) (by kernel_rfl) (fun _=>rfl) (fun B S S' h=>by show([Own.box b4 aj x1,Own.box b5 ab x2,Own.box b6 af (ApiEntity.mk 0 [] [] [] [] false [] 0 0),Own.box b9 ab x8,(cond (S 9) (Own.box (B 8) af x23) (cond (S 8) (Own.box (B 8) af (ApiEntity.mk 0 [] [] [] [] false [] 0 0)) Own.nil))]:Ctx)=[Own.box b4 aj x1,Own.box b5 ab x2,Own.box b6 af (ApiEntity.mk 0 [] [] [] [] false [] 0 0),Own.box b9 ab x8,(cond (S' 9) (Own.box (B 8) af x23) (cond (S' 8) (Own.box (B 8) af (ApiEntity.mk 0 [] [] [] [] false [] 0 0)) Own.nil))];simp only[h 8 (Nat.le_of_ble_eq_true (by kernel_rfl)),h 9 (Nat.le_of_ble_eq_true (by kernel_rfl))]) (fun _=>rfl) (fun B=> ?_)
  refine gq1 (fun S hK=>(ap (R:=aj) (a:=x1) (R':=aj) 0 ty66 (Sub.refl _) (hi:=rfl))) ?_
  refine gq1 (fun S hK=>(ap (R:=aj) (a:=x1) (R':=aj) 0 ty66 (Sub.refl _) (hi:=rfl))) ?_
  refine gq1 (fun S hK=>(ap (R:=ab) (a:=x8) (R':=ab) 3 ty64 (Sub.refl _) (hi:=rfl))) ?_
  refine gq1 (fun S hK=>(ct (ih.2.1 x1 x8 _ hx22))) ?_
  refine gq1 (fun S hK=>(ct (oq x1 x22 _ hx23))) ?_
  refine gq1 (fun S hK=>eb) ?_
  refine gq1 (fun S hK=>au) ?_
  refine gq1 (fun S hK=>au) ?_
  refine gqA (fun S hK=>⟨fun B' hB=>by show([Own.box b4 aj x1,Own.box b5 ab x2,Own.box b6 af (ApiEntity.mk 0 [] [] [] [] false [] 0 0),Own.box b9 ab x8,(cond (S 9) (Own.box (B' 8) af x23) (cond (S 8) (Own.box (B' 8) af (ApiEntity.mk 0 [] [] [] [] false [] 0 0)) Own.nil))]:Ctx)=[Own.box b4 aj x1,Own.box b5 ab x2,Own.box b6 af (ApiEntity.mk 0 [] [] [] [] false [] 0 0),Own.box b9 ab x8,(cond (S 9) (Own.box (B 8) af x23) (cond (S 8) (Own.box (B 8) af (ApiEntity.mk 0 [] [] [] [] false [] 0 0)) Own.nil))];simp only[hK.me,hK.F 9 (by kernel_rfl),cond_false],fun s ρ hg _=>sAlloc (R:=af) (z:=(ApiEntity.mk 0 [] [] [] [] false [] 0 0)) 4 Tryz.zeroValue49 (fun _=>⟨_,⟨_,_,rfl,rfl,⟨_,_,rfl,rfl,⟨_,_,rfl,rfl,⟨_,_,rfl,rfl,⟨_,_,rfl,rfl,⟨_,_,rfl,rfl,⟨_,_,rfl,⟨_,rfl,none,0,rfl,⟨Nat.le_refl _,fun _=>rfl⟩,.inl rfl⟩,⟨_,_,rfl,rfl,⟨_,_,rfl,rfl,rfl⟩⟩⟩⟩⟩⟩⟩⟩⟩,rfl⟩) (congrArg some ((condF (hK.F 9 (by kernel_rfl)) _ _).trans (condF (hK.me) _ _))) (fun b=>by show([Own.box b4 aj x1,Own.box b5 ab x2,Own.box b6 af (ApiEntity.mk 0 [] [] [] [] false [] 0 0),Own.box b9 ab x8,(cond (S 9) (Own.box b af x23) (Own.box b af (ApiEntity.mk 0 [] [] [] [] false [] 0 0)))]:Ctx)=_;rw[hK.F 9 (by kernel_rfl)];rfl) s ρ hg⟩) ?_
  refine gqS (fun S hK=>SStep.as (dc (R:=af) (R':=af) (a:=(ApiEntity.mk 0 [] [] [] [] false [] 0 0)) (y:=x23) 4 Tryz.sizeOf49 (Upd.refl _) (congrArg some ((condF (hK.me) _ _).trans (condT (hK.T 8 (by kernel_rfl)) _ _)))) (by show(_:Ctx)=[Own.box b4 aj x1,Own.box b5 ab x2,Own.box b6 af (ApiEntity.mk 0 [] [] [] [] false [] 0 0),Own.box b9 ab x8,Own.box (B 8) af x23];rfl)) ?_
  refine gq1 (fun S hK=>du) ?_
  exact⟨x24,x23,(B 8),h,atOk⟩
 refine W_rs (kUn (ai dr) ?_)
 refine kUn (ap 3 ty3 bg) ?_
 refine kIn rfl rfl rfl ?_
 refine a5 h rfl (fun _ h=> ?_) (fun _ h=> ?_)
 ·refine W_rs (kUn (ap 0 ty66 (Sub.refl _)) ?_)
  refine kUn (ap 3 ty64 (Sub.refl _)) ?_
  obtain⟨⟨x11,x12⟩,hx11,h⟩:=ah h
  refine kUn (ct (bind_Scope_name_ok x1 x8 _ hx11)) ?_
  refine kUn (hMv (out:=bk [(af).val x11,Pr.i64 x12]) rfl) (kUn au ?_)
  refine kUn au ?_
  refine bq oy fun b13=>av 4 rfl rfl (Upd.refl _) rfl Tryz.sizeOf49 (kAs rfl ?_)
  refine bh (fun e C=>∃(x15:Bool),mv R x3 x1 x11 x2 x8 x15=some r/\At [(2,c3 Tryz.prog (spec185 x3)),(3,am b4 0),(4,am b5 0),(6,am b6 0),(8,am b9 0),(9,am b13 0),(39,Pr.bool x15)] [Own.box b4 aj x1,Own.box b5 ab x2,Own.box b6 af (ApiEntity.mk 0 [] [] [] [] false [] 0 0),Own.box b9 ab x8,Own.box b13 af x11] e C) ?_ ?_
  ·rintro e C ⟨x15,h,hat6⟩
   refine W_at hat6 ?_
   unfold mv at h
   refine a5 h rfl (fun _ h=> ?_) (fun _ h=> ?_)
   ·refine W_rs (kUn (ap 0 ty66 (Sub.refl _)) ?_)
    refine bq al66 fun b17=>av 5 rfl rfl (Upd.refl _) rfl Tryz.sizeOf66 (W_rs (kUn (ai fld66_2) ?_))
    refine av 5 rfl rfl uc rfl Tryz.sizeOf4 ?_
    refine bh (fun e C=>∃(x21:Int),∃(x20:ApiEntity),sb R x21 x20=some r/\At [(6,am b6 0),(7,Pr.i64 x21)] [Own.box b4 aj x1,Own.box b5 ab x2,Own.box b6 af x20,Own.box b9 ab x8,Own.box b13 af x11,Own.box b17 aj ({x1 with Static:=true})] e C) ?_ ?_
    ·rintro e C ⟨x21,x20,h,hat5⟩
     refine W_at hat5 ?_
     unfold sb at h
     obtain rfl:=osj h
     exact bc ⟨rfl,[(af).val x20,Pr.i64 x21],⟨yBox 2 ty49 aa,yT aa,trivial⟩,aa⟩
    refine eo 14 hmx (by kernel_rfl) (by kernel_rfl) ?_
    refine lUn (ap 5 ty66 (Sub.refl _)) ?_
    refine lUn (hMv (out:=c3 Tryz.prog (spec185 x3)) rfl) (lUn (ai fld66_0) ?_)
    refine lUn (ap 0 ty38 gl) ?_
    refine lUn (ai j7) ?_
    refine lUn (ap 4 ty9 dh) ?_
    refine lUn (ai ef) ?_
    refine lUn (ap 1 ty9 bw) ?_
    obtain⟨⟨x18,x19⟩,hx18,h⟩:=ah h
    refine lUn (qCallP (spec:=spec185 x3) ⟨_,_,_,_,rfl,rfl,hx18⟩) ?_
    refine lUn au ?_
    refine lUn au ?_
    obtain⟨⟨x20,x21⟩,hx20,h⟩:=ah h
    refine lUn (ct (rp ({x1 with Static:=true}) x18 x19 _ hx20)) ?_
    refine lUn au ?_
    refine lUn au ?_
    refine av 2 rfl rfl (Upd.refl _) rfl Tryz.sizeOf49 (kAs rfl ?_)
    exact⟨x21,x20,h,atOk⟩
   refine ax ?_
   exact⟨h,⟨⟨aa,aa,aa,aa,aa,trivial⟩,Pick.of [0,1,2,3] rfl⟩⟩
  refine W_r (kMv rfl (kIn rfl rfl rfl (kMv rfl ?_)))
  rcases bo h with⟨hc14,h⟩|⟨hc14,h⟩
  ·refine kGd rfl aa hc14 (ai pr) ?_
   refine kGd rfl aa hc14 (ap 4 ty3 da) ?_
   refine kGd rfl aa hc14 (qInt rfl rfl rfl) (kPt rfl hc14 rfl ?_)
   exact⟨x11.Kind==1,h,atOk⟩
  refine kSkT rfl aa hc14 (kSkT rfl aa hc14 (kSkT rfl aa hc14 (kPf rfl hc14 rfl ?_)))
  exact⟨false,h,atOk⟩
 refine ax ?_
 exact⟨h,atOk⟩
theorem uz :∀n,ej (dq n):=by
 intro n
 induction n with
 |zero=>exact⟨(fun x1 x2 r h=>nomatch (show none=some r from h)),(fun x1 x2 r h=>nomatch (show none=some r from h)),(fun x1 x2 r h=>nomatch (show none=some r from h)),(fun x1 x2 r h=>nomatch (show none=some r from h)),(fun x1 x2 x3 r h=>nomatch (show none=some r from h))⟩
 |succ n ih=>exact⟨(fun x1 x2 r h=>F_bind_Scope_Entity_step (dq n) ih x1 x2 r h),(fun x1 x2 r h=>F_bind_Scope_Type_step (dq n) ih x1 x2 r h),(fun x1 x2 r h=>F_bind_Scope_dot_step (dq n) ih x1 x2 r h),(fun x1 x2 r h=>F_bind_Scope_dotCall_step (dq n) ih x1 x2 r h),(fun x1 x2 x3 r h=>F_bind_Scope_member_step (dq n) ih x1 x2 x3 r h)⟩
theorem se (x1:BindScope) (x2:ApiNode) (r:ApiEntity × Int) (h:ru x1 x2=some r):FnP Tryz.prog 32 [(aj).val x1,(ab).val x2] (bk [(af).val r.1,Pr.i64 r.2]):=(uz 1048576).1 x1 x2 r h
theorem jo (x1:BindScope) (x2:ApiNode) (r:(List UInt8)) (h:km x1 x2=some r):FnP Tryz.prog 33 [(aj).val x1,(ab).val x2] (bv r):=(uz 1048576).2.1 x1 x2 r h
theorem bind_walker_own_ok (x1:BindScope) (x2:ApiNode) (x4:BindWalker) (b3:Nat) (v5:Value) (r:PX BindWrong BindWalker) (h:bind_walker_own x1 x2 x4=some r):FnX Tryz.prog 74 [am b3 0,(aj).val x1,(ab).val x2] [Own.box b3 ar (BindWalkerRaw.mk v5 x4.file x4.method x4.many),Own.vec v5 ao x4.uses 47] (fun q C'=>∃a9,r= .ok a9/\∃w100,q=bk []/\C'=[Own.box b3 ar (BindWalkerRaw.mk w100 a9.file a9.method a9.many),Own.vec w100 ao a9.uses 47]) (fun v=>∃m,r= .bad m/\v=bindV m):=by
 refine gy (rs:=[]) Tryz.func74 rfl Tryz.ntmps74 ⟨by decide,Tryz.results74⟩ (by decide) (fun s0=> ?_)
 unfold bind_walker_own at h
 refine W_rs ?_
 refine rBox (R:=aj) (a:=x1) rfl (fun b6=> ?_)
 refine rBox (R:=ab) (a:=x2) rfl (fun b7=> ?_)
 refine bh (fun e C=>∃(x15:Int),∃(x16:List UInt8),∃(x17:Int),∃(x18:List ApiUse),∃(v14:Value),qe x2 x1 x15 x16 x17 x18=some r/\At [(0,am b3 0),(4,am b6 0),(5,am b7 0)] [Own.box b3 ar (BindWalkerRaw.mk v14 x15 x16 x17),Own.vec v14 ao x18 47,Own.box b6 aj x1,Own.box b7 ab x2] e C) ?_ ?_
 ·rintro e C ⟨x15,x16,x17,x18,v14,h,hat3⟩
  refine W_at hat3 ?_
  unfold qe at h
  refine a8 (W_rs (kUn (ai my) ?_))
  refine kUn (ap 3 ty3 ek) ?_
  refine kIn rfl rfl rfl ?_
  refine a5 h rfl (fun _ h=> ?_) (fun _ h=> ?_)
  ·obtain rfl:=osj h
   exact bc (.inl ⟨.inl rfl,_,Pick.of [0,1] rfl,_,aa,_,rfl,v14,rfl,rfl⟩)
  refine ax (W_rs (kAs rfl ?_))
  refine bh (fun e C=>∃(x36:List UInt8),∃(x38:Int),∃(x39:List UInt8),∃(x40:Int),∃(x41:List ApiUse),∃(v37:Value),ip x2 x36 x38 x39 x40 x41=some r/\At [(0,am b3 0),(5,am b7 0),(6,bv x36)] [Own.box b3 ar (BindWalkerRaw.mk v37 x38 x39 x40),Own.vec v37 ao x41 47,Own.box b6 aj x1,Own.box b7 ab x2] e C) ?_ ?_
  ·rintro e C ⟨x36,x38,x39,x40,x41,v37,h,hat1⟩
   refine W_at hat1 ?_
   unfold ip at h
   refine W_r (kMv rfl (kUn (ai my) ?_))
   refine kUn (ap 3 ty3 ek) ?_
   refine kMv rfl ?_
   obtain⟨x42,hx42,h⟩:=ah h
   refine kg [0,1] (bind_walker_put_ok x2.At x36 (BindWalker.mk x41 x38 x39 x40) b3 v37 _ hx42) (fun q C' hq=> ?_)
   obtain⟨v43,rfl,rfl⟩:=hq
   refine rCtx [Own.box b3 ar (BindWalkerRaw.mk v43 x42.file x42.method x42.many),Own.vec v43 ao x42.uses 47,Own.box b6 aj x1,Own.box b7 ab x2] ?_
   obtain rfl:=osj h
   exact(.inl ⟨.inr rfl,_,Pick.of [0,1] rfl,_,aa,_,rfl,v43,rfl,rfl⟩)
  refine W_rs (kUn (ai dr) ?_)
  refine kUn (ap 3 ty3 bg) ?_
  refine az (W_rs (kIn rfl rfl rfl (kAs rfl ?_)))
  refine a5 h rfl (fun _ h=> ?_) (fun _ h=> ?_)
  ·refine W_r (kUn (ai ef) ?_)
   refine kUn (ap 3 ty9 bw) ?_
   refine cm h (decls_Class_ok x2.Text) rfl fun x21 _ h=>kAs rfl ?_
   exact⟨x21,x15,x16,x17,x18,v14,h,atOk⟩
  refine W_rs (kIn rfl rfl rfl (kAs rfl ?_))
  refine a5 h rfl (fun _ h=> ?_) (fun _ h=> ?_)
  ·refine W_r (kUn (ai fld66_1) ?_)
   refine kUn (ap 2 ty9 jk) ?_
   refine kUn (ai ef) ?_
   refine kUn (ap 3 ty9 bw) ?_
   refine cm h (decls_Field_ok x1.Class x2.Text) rfl fun x23 _ h=>kAs rfl ?_
   exact⟨x23,x15,x16,x17,x18,v14,h,atOk⟩
  refine W_rs (kIn rfl rfl rfl (kAs rfl ?_))
  refine a5 h rfl (fun _ h=> ?_) (fun _ h=> ?_)
  ·refine W_r (kUn (ai fld66_1) ?_)
   refine kUn (ap 2 ty9 jk) ?_
   refine kUn (ai ef) ?_
   refine kUn (ap 3 ty9 bw) ?_
   refine cm h (decls_Method_ok x1.Class x2.Text) rfl fun x25 _ h=>kAs rfl ?_
   exact⟨x25,x15,x16,x17,x18,v14,h,atOk⟩
  refine bh (fun e C=>∃(x27:Bool),qf x16 x17 x2 x15 x18 x1 x27=some r/\At [(0,am b3 0),(4,am b6 0),(5,am b7 0),(57,Pr.bool x27)] [Own.box b3 ar (BindWalkerRaw.mk v14 x15 x16 x17),Own.vec v14 ao x18 47,Own.box b6 aj x1,Own.box b7 ab x2] e C) ?_ ?_
  ·rintro e C ⟨x27,h,hat2⟩
   refine W_at hat2 ?_
   unfold qf at h
   refine a5 h rfl (fun _ h=> ?_) (fun _ h=> ?_)
   ·refine eo 10 hmx (by kernel_rfl) (by kernel_rfl) ?_
    refine lUn (hMvA rfl) (lUn (qNilP rfl) (lUn (ai fld76_2) ?_))
    refine lUn (ap 0 ty9 ov) ?_
    refine lUn (hMvA rfl) (lUn (qNilP rfl) (lUn (ai fld76_3) ?_))
    refine lUn (ap 0 ty3 ra) ?_
    obtain⟨x29,hx29,h⟩:=ah h
    refine lUn (ct (decls_Local_ok x16 x17 _ hx29)) ?_
    refine lUn (hAsA rfl) ?_
    exact⟨x29,x15,x16,x17,x18,v14,h,atOk⟩
   refine W_rs (kUn (ap 2 ty66 (Sub.refl _)) ?_)
   refine kUn (ap 3 ty64 (Sub.refl _)) ?_
   obtain⟨⟨x30,x31⟩,hx30,h⟩:=ah h
   refine kUn (ct (se x1 x2 _ hx30)) ?_
   refine kUn (hMv (out:=bk [(af).val x30,Pr.i64 x31]) rfl) (kUn au ?_)
   refine kUn au ?_
   refine bq oy fun b32=>av 4 rfl rfl (Upd.refl _) rfl Tryz.sizeOf49 (kAs rfl (W_rs (kMv rfl (kMv rfl (kUn (ai my) ?_)))))
   refine kUn (ap 3 ty3 ek) ?_
   rcases ce h with⟨m35,hm35,h⟩|⟨x33,hx33,h⟩
   ·refine cv [0,1] (iy x31 x2.At (BindWalker.mk x18 x15 x16 x17) b3 v14 _ hm35) ⟨aa,aa,aa,trivial⟩ (fun q C' hq=> ?_) (fun v9 hv=> ?_)
    ·obtain⟨_,h9,_⟩:=hq;cases h9
    obtain⟨_,h9,rfl⟩:=hv
    cases h9
    obtain rfl:=osj h
    exact .inr ⟨_,rfl,_,rfl,rfl⟩
   refine cv [0,1] (iy x31 x2.At (BindWalker.mk x18 x15 x16 x17) b3 v14 _ hx33) ⟨aa,aa,aa,trivial⟩ (fun q C' hq=> ?_) (fun v9 hv=>by obtain⟨_,h9,_⟩:=hv;cases h9)
   obtain⟨_,h9,v34,rfl,rfl⟩:=hq
   cases h9
   refine rCtx [Own.box b3 ar (BindWalkerRaw.mk v34 x33.file x33.method x33.many),Own.vec v34 ao x33.uses 47,Own.box b6 aj x1,Own.box b7 ab x2,Own.box b32 af x30] ?_
   refine W_r (kUn (ai j7) ?_)
   refine kUn (ap 4 ty9 dh) ?_
   refine kAs rfl ?_
   exact⟨x30.Id,x33.file,x33.method,x33.many,x33.uses,v34,h,⟨⟨aa,aa,aa,trivial⟩,Pick.of [0,1,2,3] rfl⟩⟩
  refine W_rs (kIn rfl rfl rfl (kAs rfl ?_))
  refine a5 h rfl (fun _ h=> ?_) (fun _ h=> ?_)
  ·refine ax ?_
   exact⟨x2.Kind==4,h,atOk⟩
  refine W_r (kIn rfl rfl rfl (kAs rfl ?_))
  exact⟨x2.Kind==6,h,atOk⟩
 refine bh (fun e C=>∃(x9:Bool),qd x2 x4 x1 x9=some r/\At [(0,am b3 0),(4,am b6 0),(5,am b7 0),(15,Pr.bool x9)] [Own.box b3 ar (BindWalkerRaw.mk v5 x4.file x4.method x4.many),Own.vec v5 ao x4.uses 47,Own.box b6 aj x1,Own.box b7 ab x2] e C) ?_ ?_
 ·rintro e C ⟨x9,h,hat4⟩
  refine W_at hat4 ?_
  unfold qd at h
  refine a5 h rfl (fun _ h=> ?_) (fun _ h=> ?_)
  ·refine W_r (kMv rfl (kUn (ai fld64_4) ?_))
   refine kUn (ap 3 ty3 ep) ?_
   rcases ce h with⟨m13,hm13,h⟩|⟨x11,hx11,h⟩
   ·refine cv [0,1] (iy 171 x2.From x4 b3 v5 _ hm13) ⟨aa,aa,aa,trivial⟩ (fun q C' hq=> ?_) (fun v9 hv=> ?_)
    ·obtain⟨_,h9,_⟩:=hq;cases h9
    obtain⟨_,h9,rfl⟩:=hv
    cases h9
    obtain rfl:=osj h
    exact .inr ⟨_,rfl,_,rfl,rfl⟩
   refine cv [0,1] (iy 171 x2.From x4 b3 v5 _ hx11) ⟨aa,aa,aa,trivial⟩ (fun q C' hq=> ?_) (fun v9 hv=>by obtain⟨_,h9,_⟩:=hv;cases h9)
   obtain⟨_,h9,v12,rfl,rfl⟩:=hq
   cases h9
   refine rCtx [Own.box b3 ar (BindWalkerRaw.mk v12 x11.file x11.method x11.many),Own.vec v12 ao x11.uses 47,Own.box b6 aj x1,Own.box b7 ab x2] ?_
   exact⟨x11.file,x11.method,x11.many,x11.uses,v12,h,atOk⟩
  refine ax ?_
  exact⟨x4.file,x4.method,x4.many,x4.uses,v5,h,atOk⟩
 refine W_r (kUn (ai dr) ?_)
 refine kUn (ap 3 ty3 bg) ?_
 refine kIn rfl rfl rfl (kMv rfl ?_)
 rcases bo h with⟨hc8,h⟩|⟨hc8,h⟩
 ·refine kGd rfl aa hc8 (ai fld66_2) ?_
  refine kGd rfl aa hc8 (ap 2 ty4 ue) ?_
  refine kPt rfl hc8 rfl ?_
  exact⟨x1.Static,h,atOk⟩
 refine kSkT rfl aa hc8 (kSkT rfl aa hc8 (kPf rfl hc8 rfl ?_))
 exact⟨false,h,atOk⟩
def tf (R:cd):Prop:=(∀(x1:BindScope) (x2:ApiNode) (x4:BindWalker) (b3:Nat) (v5:Value) (r:PX BindWrong (BindScope × BindWalker)),R x1 x2 x4=some r->FnX Tryz.prog 37 [am b3 0,(aj).val x1,(ab).val x2] [Own.box b3 ar (BindWalkerRaw.mk v5 x4.file x4.method x4.many),Own.vec v5 ao x4.uses 47] (fun q C'=>∃a9,r= .ok a9/\∃w100,q=(aj).val a9.1/\C'=[Own.box b3 ar (BindWalkerRaw.mk w100 a9.2.file a9.2.method a9.2.many),Own.vec w100 ao a9.2.uses 47]) (fun v=>∃m,r= .bad m/\v=bindV m))
theorem F_bind_walker_walk_step (R:cd) (ih:tf R) (x1:BindScope) (x2:ApiNode) (x4:BindWalker) (b3:Nat) (v5:Value) (r:PX BindWrong (BindScope × BindWalker)) (h:F_bind_walker_walk R x1 x2 x4=some r):FnX Tryz.prog 37 [am b3 0,(aj).val x1,(ab).val x2] [Own.box b3 ar (BindWalkerRaw.mk v5 x4.file x4.method x4.many),Own.vec v5 ao x4.uses 47] (fun q C'=>∃a9,r= .ok a9/\∃w100,q=(aj).val a9.1/\C'=[Own.box b3 ar (BindWalkerRaw.mk w100 a9.2.file a9.2.method a9.2.many),Own.vec w100 ao a9.2.uses 47]) (fun v=>∃m,r= .bad m/\v=bindV m):=by
 refine fnx_introR (rs:=[.cell 6 66]) Tryz.func37 rfl Tryz.ntmps37 Tryz.results37 (by decide) (fun s0=> ?_)
 unfold F_bind_walker_walk at h
 refine W_rs ?_
 refine rBox (R:=aj) (a:=x1) rfl (fun b6=> ?_)
 refine rBox (R:=ab) (a:=x2) rfl (fun b7=> ?_)
 refine bq al66 fun b8=>W_rs (kMv rfl (kUn (ap 2 ty66 (Sub.refl _)) ?_))
 refine kUn (ap 3 ty64 (Sub.refl _)) ?_
 rcases ce h with⟨m73,hm73,h⟩|⟨x9,hx9,h⟩
 ·refine cv [0,1] (bind_walker_kind_ok x1 x2 x4 b3 v5 _ hm73) ⟨aa,aa,aa,trivial⟩ (fun q C' hq=> ?_) (fun v9 hv=> ?_)
  ·obtain⟨_,h9,_⟩:=hq;cases h9
  obtain⟨_,h9,rfl⟩:=hv
  cases h9
  obtain rfl:=osj h
  exact .inr ⟨_,rfl,_,rfl,rfl⟩
 refine cv [0,1] (bind_walker_kind_ok x1 x2 x4 b3 v5 _ hx9) ⟨aa,aa,aa,trivial⟩ (fun q C' hq=> ?_) (fun v9 hv=>by obtain⟨_,h9,_⟩:=hv;cases h9)
 obtain⟨_,h9,v10,rfl,rfl⟩:=hq
 cases h9
 refine rCtx [Own.box b3 ar (BindWalkerRaw.mk v10 x9.file x9.method x9.many),Own.vec v10 ao x9.uses 47,Own.box b6 aj x1,Own.box b7 ab x2,Own.box b8 aj (BindScope.mk [] [] false [])] ?_
 refine W_rs (kUn (ai ee) ?_)
 refine kUn (ap 3 ty53 bl) ?_
 refine kAsL rfl ?_
 refine bh (fun e C=>∃(x22:List ApiNode),∃(x24:Int),∃(x25:List UInt8),∃(x26:Int),∃(x27:List ApiUse),∃(v23:Value),og R x1 x2 x22 x24 x25 x26 x27=some r/\At [(0,am b3 0),(4,am b6 0),(5,am b7 0),(6,am b8 0),(7,aq ab x22)] [Own.box b3 ar (BindWalkerRaw.mk v23 x24 x25 x26),Own.vec v23 ao x27 47,Own.box b6 aj x1,Own.box b7 ab x2,Own.box b8 aj (BindScope.mk [] [] false [])] e C) ?_ ?_
 ·rintro e C ⟨x22,x24,x25,x26,x27,v23,h,hat9⟩
  refine W_at hat9 ?_
  unfold og at h
  refine W_rs (kMv rfl (kUn (ap 2 ty66 (Sub.refl _)) ?_))
  refine kUn (ap 3 ty64 (Sub.refl _)) ?_
  rcases ce h with⟨m72,hm72,h⟩|⟨x28,hx28,h⟩
  ·refine cv [0,1] (bind_walker_own_ok x1 x2 (BindWalker.mk x27 x24 x25 x26) b3 v23 _ hm72) ⟨aa,aa,aa,trivial⟩ (fun q C' hq=> ?_) (fun v9 hv=> ?_)
   ·obtain⟨_,h9,_⟩:=hq;cases h9
   obtain⟨_,h9,rfl⟩:=hv
   cases h9
   obtain rfl:=osj h
   exact .inr ⟨_,rfl,_,rfl,rfl⟩
  refine cv [0,1] (bind_walker_own_ok x1 x2 (BindWalker.mk x27 x24 x25 x26) b3 v23 _ hx28) ⟨aa,aa,aa,trivial⟩ (fun q C' hq=> ?_) (fun v9 hv=>by obtain⟨_,h9,_⟩:=hv;cases h9)
  obtain⟨_,h9,v29,rfl,rfl⟩:=hq
  cases h9
  refine rCtx [Own.box b3 ar (BindWalkerRaw.mk v29 x28.file x28.method x28.many),Own.vec v29 ao x28.uses 47,Own.box b6 aj x1,Own.box b7 ab x2,Own.box b8 aj (BindScope.mk [] [] false [])] ?_
  refine bh (fun e C=>∃(x31:Bool),oh R x28 x22 x2 x1 x31=some r/\At [(0,am b3 0),(4,am b6 0),(5,am b7 0),(6,am b8 0),(7,aq ab x22),(8,Pr.bool x31)] [Own.box b3 ar (BindWalkerRaw.mk v29 x28.file x28.method x28.many),Own.vec v29 ao x28.uses 47,Own.box b6 aj x1,Own.box b7 ab x2,Own.box b8 aj (BindScope.mk [] [] false [])] e C) ?_ ?_
  ·rintro e C ⟨x31,h,hat8⟩
   refine W_at hat8 ?_
   unfold oh at h
   refine bh (fun e C=>∃(x32:List UInt8),∃(b33:Nat),uh R x31 x22 x2 x1 x28 x32=some r/\At [(0,am b3 0),(4,am b6 0),(5,am b7 0),(6,am b8 0),(7,aq ab x22),(8,Pr.bool x31),(9,am b33 0)] [Own.box b3 ar (BindWalkerRaw.mk v29 x28.file x28.method x28.many),Own.vec v29 ao x28.uses 47,Own.box b6 aj x1,Own.box b7 ab x2,Own.box b8 aj (BindScope.mk [] [] false []),Own.box b33 af (ApiEntity.mk 4 x32 x2.Text x28.method x2.Type_ false [] x28.file x2.At)] e C) ?_ ?_
   ·rintro e C ⟨x32,b33,h,hat7⟩
    refine W_at hat7 ?_
    unfold uh at h
    refine W_rs (kUn (ap 2 ty66 (Sub.refl _)) ?_)
    refine bq al66 fun b34=>av 6 rfl rfl (Upd.refl _) rfl Tryz.sizeOf66 ?_
    refine bh (fun e C=>∃(x37:Int),∃(x38:BindScope),kw R x22 x2 x1 x28 x31 x32 x37 x38=some r/\At [(0,am b3 0),(4,am b6 0),(5,am b7 0),(6,am b8 0),(7,aq ab x22),(8,Pr.bool x31),(9,am b33 0),(10,am b34 0)] [Own.box b3 ar (BindWalkerRaw.mk v29 x28.file x28.method x37),Own.vec v29 ao x28.uses 47,Own.box b6 aj x1,Own.box b7 ab x2,Own.box b8 aj (BindScope.mk [] [] false []),Own.box b33 af (ApiEntity.mk 4 x32 x2.Text x28.method x2.Type_ false [] x28.file x2.At),Own.box b34 aj x38] e C) ?_ ?_
    ·rintro e C ⟨x37,x38,h,hat6⟩
     refine W_at hat6 ?_
     unfold kw at h
     refine a8 (W_rs (kMvL rfl (kUn (iz rfl Tryz.underlying53) ?_)))
     refine kMv rfl (az ?_)
     obtain⟨z3l,hz3,h⟩:=ah h
     obtain⟨n3,hN3⟩:=bp hz3
     refine cq 1 (fun e C=>∃(x41:Int),∃(x42:List UInt8),∃(x43:Int),∃(x45:List ApiUse),∃(x44:BindScope),∃(v40:Value),ug R x31 x1 x32 x2 x28 x41 x42 x43 x45 x44=some r/\At [(0,am b3 0),(4,am b6 0),(6,am b8 0),(8,Pr.bool x31),(9,am b33 0)] [Own.box b3 ar (BindWalkerRaw.mk v40 x41 x42 x43),Own.vec v40 ao x45 47,Own.box b6 aj x1,Own.box b7 ab x2,Own.box b8 aj (BindScope.mk [] [] false []),Own.box b33 af (ApiEntity.mk 4 x32 x2.Text x28.method x2.Type_ false [] x28.file x2.At),Own.box b34 aj x44] e C) ?_ ?_
     ·rintro e C ⟨x41,x42,x43,x45,x44,v40,h,hat2⟩
      refine W_at hat2 ?_
      unfold ug at h
      refine bh (fun e C=>∃(x71:BindScope),om R x45 x41 x42 x43 x71=some r/\At [(0,am b3 0),(4,am b6 0),(6,am b8 0)] [Own.box b3 ar (BindWalkerRaw.mk v40 x41 x42 x43),Own.vec v40 ao x45 47,Own.box b6 aj x71,Own.box b7 ab x2,Own.box b8 aj (BindScope.mk [] [] false []),Own.box b33 af (ApiEntity.mk 4 x32 x2.Text x28.method x2.Type_ false [] x28.file x2.At),Own.box b34 aj x44] e C) ?_ ?_
      ·rintro e C ⟨x71,h,hat1⟩
       refine W_at hat1 ?_
       unfold om at h
       refine W_rs (kUn (ap 2 ty66 (Sub.refl _)) ?_)
       refine av 4 rfl rfl (Upd.refl _) rfl Tryz.sizeOf66 ?_
       obtain rfl:=osj h
       exact bc (.inl ⟨.inl rfl,[(aj).val x71],⟨yBox 4 ty66 aa,trivial⟩,_,Pick.of [0,1] rfl,_,rfl,v40,rfl,rfl⟩)
      refine W_rs (kMv rfl ?_)
      refine a5 h rfl (fun _ h=> ?_) (fun _ h=> ?_)
      ·obtain⟨x67,hx67,h⟩:=ah h
       obtain⟨x69,hx69,h⟩:=ah h
       refine W_drawA [0,1,3,0,8,31,63,127] [[],[Own.box b6 aj x1],[],[Own.box b33 af (ApiEntity.mk 4 x32 x2.Text x28.method x2.Type_ false [] x28.file x2.At)],[],[],[],[]] hmx (by kernel_rfl) (by kernel_rfl) (by kernel_rfl) rfl ?_
       refine aq0 0 1 (out:=am b6 3) rfl (fun C9=>(ai fld66_3)) ?_
       refine aq1 1 3 2 (out:=aq af x1.Seen) rfl rfl (fun C9 i9 h9=>(ap (R:=aj) (a:=x1) (R':=ba af) i9 ty38 subBindScope_Seen (hi:=h9))) ?_
       refine aq1 3 11 5 (out:=(af).val (ApiEntity.mk 4 x32 x2.Text x28.method x2.Type_ false [] x28.file x2.At)) rfl rfl (fun C9 i9 h9=>(ap (R:=af) (a:=(ApiEntity.mk 4 x32 x2.Text x28.method x2.Type_ false [] x28.file x2.At)) (R':=af) i9 ty49 (Sub.refl _) (hi:=h9))) ?_
       refine aq0 4 27 (out:=aq af ([(ApiEntity.mk 4 x32 x2.Text x28.method x2.Type_ false [] x28.file x2.At)]:List ApiEntity)) rfl (fun C9=>(cl (R:=af) (a:=(ApiEntity.mk 4 x32 x2.Text x28.method x2.Type_ false [] x28.file x2.At)) el38 (Nat.le_of_ble_eq_true rfl))) ?_
       refine ae 2 31 rfl (fun g9=> ?_)
       refine kg [] (slices_Clone_ok x1.Seen _ hx67) (fun q C' hq=> ?_)
       obtain⟨v68,rfl,rfl⟩:=hq
       refine rCtx [Own.vec v68 af x67 49,Own.box b3 ar (BindWalkerRaw.mk v40 x41 x42 x43),Own.vec v40 ao x45 47,Own.box b6 aj x1,Own.box b7 ab x2,Own.box b8 aj (BindScope.mk [] [] false []),Own.box b33 af (ApiEntity.mk 4 x32 x2.Text x28.method x2.Type_ false [] x28.file x2.At),Own.box b34 aj x44] ?_
       refine kh _ [Own.box b33 af (ApiEntity.mk 4 x32 x2.Text x28.method x2.Type_ false [] x28.file x2.At)] (pc 6 dm) ?_
       refine ae 5 63 rfl (fun g9=> ?_)
       refine ev 0 el38 hx69 (fun v70=> ?_)
       refine kh _ [] dm ?_
       refine aq0 6 127 (out:=am b6 3) rfl (fun C9=>(ai fld66_3)) ?_
       refine ae 7 255 rfl (fun g9=> ?_)
       refine rStoreRel (Rb:=aj) (R:=af) (a:=x1) 0 2 Tryz.sizeOf38 updBindScope_Seen ?_
       refine kh .any [] dm ?_
       refine ar_end ?_
       exact⟨{x1 with Seen:=x69},h,atOk⟩
      refine ax ?_
      exact⟨x1,h,atOk⟩
     refine c8 (fun m e C=>∃(x39:Int),∃(x41:Int),∃(x42:List UInt8),∃(x43:Int),∃(x44:BindScope),∃(x45:List ApiUse),∃(v40:Value),dj (fun s=>oe R x22 x2 x1 s.1 s.2.1 s.2.2.1 s.2.2.2.1 s.2.2.2.2.1 s.2.2.2.2.2) m (x39,x41,x42,x43,x44,x45)=some z3l/\At [(0,am b3 0),(4,am b6 0),(5,am b7 0),(6,am b8 0),(8,Pr.bool x31),(9,am b33 0),(10,am b34 0),(94,aq ab x22),(95,Pr.i64 (x22.length:Int)),(96,Pr.i64 x39)] [Own.box b3 ar (BindWalkerRaw.mk v40 x41 x42 x43),Own.vec v40 ao x45 47,Own.box b6 aj x1,Own.box b7 ab x2,Own.box b8 aj (BindScope.mk [] [] false []),Own.box b33 af (ApiEntity.mk 4 x32 x2.Text x28.method x2.Type_ false [] x28.file x2.At),Own.box b34 aj x44] e C) n3 ⟨0,x28.file,x28.method,x37,x38,x28.uses,v29,hN3,⟨⟨aa,aa,aa,aa,aa,aa,aa,aa,aa,aa,trivial⟩,Pick.refl _⟩⟩ ?_
     rintro m e C ⟨x39,x41,x42,x43,x44,x45,v40,hN3,hatl3⟩
     refine W_at hatl3 ?_
     obtain⟨m3,w3l,rfl,h3l,hn3,ho3⟩:=bj hN3
     replace h3l:oe R x22 x2 x1 x39 x41 x42 x43 x44 x45=some w3l:=h3l
     unfold oe at h3l
     refine W_rs (kIn rfl rfl rfl (a8 ?_))
     refine a5 h3l rfl (fun _ h3l=> ?_) (fun _ h3l=> ?_)
     ·refine ax (a8 (az (W_rs ?_)))
      obtain⟨x54,hx54,h3l⟩:=ah h3l
      refine kUn (dg Tryz.underlying53 Tryz.sizeOf64 hx54) ?_
      refine kUn (cf ty64) ?_
      refine bq al64 fun b55=>av 7 rfl rfl (Upd.refl _) rfl Tryz.sizeOf64 ?_
      refine bh (fun e C=>∃(x60:List UInt8),∃(x61:Int),ol R x44 x54 x45 x41 x39 x60 x61=some w3l/\At [(0,am b3 0),(4,am b6 0),(5,am b7 0),(6,am b8 0),(8,Pr.bool x31),(9,am b33 0),(10,am b34 0),(12,am b55 0),(94,aq ab x22),(95,Pr.i64 (x22.length:Int)),(96,Pr.i64 x39)] [Own.box b3 ar (BindWalkerRaw.mk v40 x41 x60 x61),Own.vec v40 ao x45 47,Own.box b6 aj x1,Own.box b7 ab x2,Own.box b8 aj (BindScope.mk [] [] false []),Own.box b33 af (ApiEntity.mk 4 x32 x2.Text x28.method x2.Type_ false [] x28.file x2.At),Own.box b34 aj x44,Own.box b55 ab x54] e C) ?_ ?_
      ·rintro e C ⟨x60,x61,h3l,hat4⟩
       refine W_at hat4 ?_
       unfold ol at h3l
       refine W_r (kMv rfl (kUn (ap 6 ty66 (Sub.refl _)) ?_))
       refine kUn (ap 7 ty64 (Sub.refl _)) ?_
       rcases ce h3l with⟨m65,hm65,h3l⟩|⟨⟨x62,x63⟩,hx62,h3l⟩
       ·refine cv [0,1] (ih x44 x54 (BindWalker.mk x45 x41 x60 x61) b3 v40 _ hm65) ⟨aa,aa,aa,trivial⟩ (fun q C' hq=> ?_) (fun v9 hv=> ?_)
        ·obtain⟨_,h9,_⟩:=hq;cases h9
        obtain⟨_,h9,rfl⟩:=hv
        cases h9
        obtain rfl:=ho3 _ (Option.some.inj h3l).symm
        replace h:some (.bad m65)=some r:=h
        obtain rfl:=osj h
        exact .inr ⟨_,rfl,_,rfl,rfl⟩
       refine cv [0,1] (ih x44 x54 (BindWalker.mk x45 x41 x60 x61) b3 v40 _ hx62) ⟨aa,aa,aa,trivial⟩ (fun q C' hq=> ?_) (fun v9 hv=>by obtain⟨_,h9,_⟩:=hv;cases h9)
       obtain⟨_,h9,v64,rfl,rfl⟩:=hq
       cases h9
       refine rCtx [Own.box b3 ar (BindWalkerRaw.mk v64 x63.file x63.method x63.many),Own.vec v64 ao x63.uses 47,Own.box b6 aj x1,Own.box b7 ab x2,Own.box b8 aj (BindScope.mk [] [] false []),Own.box b33 af (ApiEntity.mk 4 x32 x2.Text x28.method x2.Type_ false [] x28.file x2.At),Own.box b34 aj x44,Own.box b55 ab x54] ?_
       refine av 6 rfl rfl (Upd.refl _) rfl Tryz.sizeOf66 (W_r (kIn rfl rfl rfl (kMv rfl ?_)))
       exact⟨m3,Nat.lt_succ_self _,w64 (x39+1),x63.file,x63.method,x63.many,x62,x63.uses,v64,hn3 _ (Option.some.inj h3l).symm,⟨⟨aa,aa,aa,aa,aa,aa,aa,aa,aa,aa,trivial⟩,Pick.of [0,1,2,3,4,5,6] rfl⟩⟩
      refine bh (fun e C=>∃(x57:Bool),oj R x1 x54 x44 x45 x41 x39 x42 x43 x57=some w3l/\At [(0,am b3 0),(4,am b6 0),(5,am b7 0),(6,am b8 0),(8,Pr.bool x31),(9,am b33 0),(10,am b34 0),(12,am b55 0),(94,aq ab x22),(95,Pr.i64 (x22.length:Int)),(96,Pr.i64 x39),(107,Pr.bool x57)] [Own.box b3 ar (BindWalkerRaw.mk v40 x41 x42 x43),Own.vec v40 ao x45 47,Own.box b6 aj x1,Own.box b7 ab x2,Own.box b8 aj (BindScope.mk [] [] false []),Own.box b33 af (ApiEntity.mk 4 x32 x2.Text x28.method x2.Type_ false [] x28.file x2.At),Own.box b34 aj x44,Own.box b55 ab x54] e C) ?_ ?_
      ·rintro e C ⟨x57,h3l,hat5⟩
       refine W_at hat5 ?_
       unfold oj at h3l
       refine a5 h3l rfl (fun _ h3l=> ?_) (fun _ h3l=> ?_)
       ·refine W_r (kMv rfl (kMv rfl (kUn (ai fld66_1) ?_)))
        refine kUn (ap 2 ty9 jk) ?_
        refine kUn (ai ef) ?_
        refine kUn (ap 7 ty9 bw) ?_
        refine cm h3l (decls_Method_ok x1.Class x54.Text) rfl fun x59 _ h3l=>kNp rfl (kUn (ai fld76_2) ?_)
        refine av 0 rfl rfl updBindWalkerRaw_method rfl Tryz.sizeOf9 ?_
        refine rCtx [Own.box b3 ar (BindWalkerRaw.mk v40 x41 x59 x43),Own.vec v40 ao x45 47,Own.box b6 aj x1,Own.box b7 ab x2,Own.box b8 aj (BindScope.mk [] [] false []),Own.box b33 af (ApiEntity.mk 4 x32 x2.Text x28.method x2.Type_ false [] x28.file x2.At),Own.box b34 aj x44,Own.box b55 ab x54] ?_
        refine kNp rfl (kUn (ai fld76_3) ?_)
        refine av 0 rfl rfl updBindWalkerRaw_many rfl Tryz.sizeOf3 ?_
        refine rCtx [Own.box b3 ar (BindWalkerRaw.mk v40 x41 x59 0),Own.vec v40 ao x45 47,Own.box b6 aj x1,Own.box b7 ab x2,Own.box b8 aj (BindScope.mk [] [] false []),Own.box b33 af (ApiEntity.mk 4 x32 x2.Text x28.method x2.Type_ false [] x28.file x2.At),Own.box b34 aj x44,Own.box b55 ab x54] ?_
        exact⟨x59,0,h3l,atOk⟩
       refine ax ?_
       exact⟨x42,x43,h3l,atOk⟩
      refine W_r (kUn (ai dr) ?_)
      refine kUn (ap 3 ty3 bg) ?_
      refine kIn rfl rfl rfl (kMv rfl ?_)
      rcases bo h3l with⟨hc56,h3l⟩|⟨hc56,h3l⟩
      ·refine kGd rfl aa hc56 (ai dr) ?_
       refine kGd rfl aa hc56 (ap 7 ty3 bg) ?_
       refine kGd rfl aa hc56 (qInt rfl rfl rfl) (kPt rfl hc56 rfl ?_)
       exact⟨x54.Kind==3,h3l,atOk⟩
      refine kSkT rfl aa hc56 (kSkT rfl aa hc56 (kSkT rfl aa hc56 (kPf rfl hc56 rfl ?_)))
      exact⟨false,h3l,atOk⟩
     refine c6 ?_
     obtain rfl:=ho3 _ (Option.some.inj h3l).symm
     exact⟨x41,x42,x43,x45,x44,v40,h,atOk⟩
    refine az (W_rs (kMv rfl (kAs rfl ?_)))
    refine a5 h rfl (fun _ h=> ?_) (fun _ h=> ?_)
    ·refine W_r (kMv rfl (kNp rfl (kUn (ai fld76_3) ?_)))
     refine kUn (ap 0 ty3 ra) ?_
     refine kIn rfl rfl rfl (kNp rfl (kUn (ai fld76_3) ?_))
     refine av 0 rfl rfl updBindWalkerRaw_many rfl Tryz.sizeOf3 ?_
     refine rCtx [Own.box b3 ar (BindWalkerRaw.mk v29 x28.file x28.method (w64 (x28.many+1))),Own.vec v29 ao x28.uses 47,Own.box b6 aj x1,Own.box b7 ab x2,Own.box b8 aj (BindScope.mk [] [] false []),Own.box b33 af (ApiEntity.mk 4 x32 x2.Text x28.method x2.Type_ false [] x28.file x2.At),Own.box b34 aj x1] ?_
     exact⟨w64 (x28.many+1),x1,h,atOk⟩
    refine W_rs (kUn (ai dr) ?_)
    refine kUn (ap 3 ty3 bg) ?_
    refine kIn rfl rfl rfl (kAs rfl ?_)
    refine a5 h rfl (fun _ h=> ?_) (fun _ h=> ?_)
    ·refine W_r (kUn (ai fld64_3) ?_)
     refine kUn (ap 3 ty2 subApiNode_N) ?_
     refine kIn rfl rfl rfl (kUn (ai fld66_2) ?_)
     refine av 6 rfl rfl uc rfl Tryz.sizeOf4 ?_
     exact⟨x28.many,{x1 with Static:=x2.N==1},h,atOk⟩
    refine ax ?_
    exact⟨x28.many,x1,h,atOk⟩
   obtain⟨x32,hx32,h⟩:=ah h
   refine W_drawG 1 (fun B S=>[Own.box b3 ar (BindWalkerRaw.mk v29 x28.file x28.method x28.many),Own.vec v29 ao x28.uses 47,Own.box b6 aj x1,Own.box b7 ab x2,Own.box b8 aj (BindScope.mk [] [] false []),(cond (S 25) (Own.box (B 24) af (ApiEntity.mk 4 x32 x2.Text x28.method x2.Type_ false [] x28.file x2.At)) (cond (S 24) (Own.box (B 24) af (ApiEntity.mk 0 [] [] [] [] false [] 0 0)) Own.nil))]) (fun B=>[Own.box b3 ar (BindWalkerRaw.mk v29 x28.file x28.method x28.many),Own.vec v29 ao x28.uses 47,Own.box b6 aj x1,Own.box b7 ab x2,Own.box b8 aj (BindScope.mk [] [] false []),Own.box (B 24) af (ApiEntity.mk 4 x32 x2.Text x28.method x2.Type_ false [] x28.file x2.At)]) [am b3 0,am b3 0,am b3 2,bv x28.method,am b3 0,am b3 0,am b3 3,Pr.i64 x28.many,bv x32,am b7 1,bv x2.Text,am b3 0,am b3 0,am b3 2,bv x28.method,am b7 2,bv x2.Type_,am b3 0,am b3 0,am b3 1,Pr.i64 x28.file,am b7 6,Pr.i64 x2.At,(af).val (ApiEntity.mk 4 x32 x2.Text x28.method x2.Type_ false [] x28.file x2.At),.any,.any] (fun k=>([0,0,0,0,0,0,0,0,0,0,0,0,0,0,0,0,0,0,0,0,0,0,0,0,2,1]:List Nat).getD k 0) hmx (by kernel_rfl) (by kernel_rfl) (fun _=>rfl) (fun B S S' h=>by show([Own.box b3 ar (BindWalkerRaw.mk v29 x28.file x28.method x28.many),Own.vec v29 ao x28.uses 47,Own.box b6 aj x1,Own.box b7 ab x2,Own.box b8 aj (BindScope.mk [] [] false []),(cond (S 25) (Own.box (B 24) af (ApiEntity.mk 4 x32 x2.Text x28.method x2.Type_ false [] x28.file x2.At)) (cond (S 24) (Own.box (B 24) af (ApiEntity.mk 0 [] [] [] [] false [] 0 0)) Own.nil))]:Ctx)=[Own.box b3 ar (BindWalkerRaw.mk v29 x28.file x28.method x28.many),Own.vec v29 ao x28.uses 47,Own.box b6 aj x1,Own.box b7 ab x2,Own.box b8 aj (BindScope.mk [] [] false []),(cond (S' 25) (Own.box (B 24) af (ApiEntity.mk 4 x32 x2.Text x28.method x2.Type_ false [] x28.file x2.At)) (cond (S' 24) (Own.box (B 24) af (ApiEntity.mk 0 [] [] [] [] false [] 0 0)) Own.nil))];simp only[h 24 (Nat.le_of_ble_eq_true (by kernel_rfl)),h 25 (Nat.le_of_ble_eq_true (by kernel_rfl))]) (fun _=>rfl) (fun B=> ?_)
   refine gq1 (fun S hK=>eb) ?_
   refine gq1 (fun S hK=>qNilP) ?_
   refine gq1 (fun S hK=>(ai fld76_2)) ?_
   refine gq1 (fun S hK=>(ap (R:=ar) (a:=(BindWalkerRaw.mk v29 x28.file x28.method x28.many)) (R':=a6) 0 ty9 ov (hi:=rfl))) ?_
   refine gq1 (fun S hK=>eb) ?_
   refine gq1 (fun S hK=>qNilP) ?_
   refine gq1 (fun S hK=>(ai fld76_3)) ?_
   refine gq1 (fun S hK=>(ap (R:=ar) (a:=(BindWalkerRaw.mk v29 x28.file x28.method x28.many)) (R':=Rp.int .i64) 0 ty3 ra (hi:=rfl))) ?_
   refine gq1 (fun S hK=>(ct (decls_Local_ok x28.method x28.many _ hx32))) ?_
   refine gq1 (fun S hK=>(ai ef)) ?_
   refine gq1 (fun S hK=>(ap (R:=ab) (a:=x2) (R':=a6) 3 ty9 bw (hi:=rfl))) ?_
   refine gq1 (fun S hK=>eb) ?_
   refine gq1 (fun S hK=>qNilP) ?_
   refine gq1 (fun S hK=>(ai fld76_2)) ?_
   refine gq1 (fun S hK=>(ap (R:=ar) (a:=(BindWalkerRaw.mk v29 x28.file x28.method x28.many)) (R':=a6) 0 ty9 ov (hi:=rfl))) ?_
   refine gq1 (fun S hK=>(ai r4)) ?_
   refine gq1 (fun S hK=>(ap (R:=ab) (a:=x2) (R':=a6) 3 ty9 dz (hi:=rfl))) ?_
   refine gq1 (fun S hK=>eb) ?_
   refine gq1 (fun S hK=>qNilP) ?_
   refine gq1 (fun S hK=>(ai fld76_1)) ?_
   refine gq1 (fun S hK=>(ap (R:=ar) (a:=(BindWalkerRaw.mk v29 x28.file x28.method x28.many)) (R':=Rp.int .i64) 0 ty3 rb (hi:=rfl))) ?_
   refine gq1 (fun S hK=>(ai my)) ?_
   refine gq1 (fun S hK=>(ap (R:=ab) (a:=x2) (R':=Rp.int .i64) 3 ty3 ek (hi:=rfl))) ?_
   refine gq1 (fun S hK=>(fv st49 ⟨(ApiEntity.mk 4 [] [] [] [] false [] 0 0),⟨_,rfl,rfl,fun j fd hj hf=>by match j,hj with| 0,h=>exact absurd rfl h| 1,_=>cases hf;rfl| 2,_=>cases hf;rfl| 3,_=>cases hf;rfl| 4,_=>cases hf;rfl| 5,_=>cases hf;rfl| 6,_=>cases hf;rfl| 7,_=>cases hf;rfl| 8,_=>cases hf;rfl|_+9,_=>cases hf⟩,⟨(ApiEntity.mk 4 x32 [] [] [] false [] 0 0),⟨_,rfl,rfl,fun j fd hj hf=>by match j,hj with| 0,_=>cases hf;rfl| 1,h=>exact absurd rfl h| 2,_=>cases hf;rfl| 3,_=>cases hf;rfl| 4,_=>cases hf;rfl| 5,_=>cases hf;rfl| 6,_=>cases hf;rfl| 7,_=>cases hf;rfl| 8,_=>cases hf;rfl|_+9,_=>cases hf⟩,⟨(ApiEntity.mk 4 x32 x2.Text [] [] false [] 0 0),⟨_,rfl,rfl,fun j fd hj hf=>by match j,hj with| 0,_=>cases hf;rfl| 1,_=>cases hf;rfl| 2,h=>exact absurd rfl h| 3,_=>cases hf;rfl| 4,_=>cases hf;rfl| 5,_=>cases hf;rfl| 6,_=>cases hf;rfl| 7,_=>cases hf;rfl| 8,_=>cases hf;rfl|_+9,_=>cases hf⟩,⟨(ApiEntity.mk 4 x32 x2.Text x28.method [] false [] 0 0),⟨_,rfl,rfl,fun j fd hj hf=>by match j,hj with| 0,_=>cases hf;rfl| 1,_=>cases hf;rfl| 2,_=>cases hf;rfl| 3,h=>exact absurd rfl h| 4,_=>cases hf;rfl| 5,_=>cases hf;rfl| 6,_=>cases hf;rfl| 7,_=>cases hf;rfl| 8,_=>cases hf;rfl|_+9,_=>cases hf⟩,⟨(ApiEntity.mk 4 x32 x2.Text x28.method x2.Type_ false [] 0 0),⟨_,rfl,rfl,fun j fd hj hf=>by match j,hj with| 0,_=>cases hf;rfl| 1,_=>cases hf;rfl| 2,_=>cases hf;rfl| 3,_=>cases hf;rfl| 4,h=>exact absurd rfl h| 5,_=>cases hf;rfl| 6,_=>cases hf;rfl| 7,_=>cases hf;rfl| 8,_=>cases hf;rfl|_+9,_=>cases hf⟩,⟨(ApiEntity.mk 4 x32 x2.Text x28.method x2.Type_ false [] x28.file 0),⟨_,rfl,rfl,fun j fd hj hf=>by match j,hj with| 0,_=>cases hf;rfl| 1,_=>cases hf;rfl| 2,_=>cases hf;rfl| 3,_=>cases hf;rfl| 4,_=>cases hf;rfl| 5,_=>cases hf;rfl| 6,_=>cases hf;rfl| 7,h=>exact absurd rfl h| 8,_=>cases hf;rfl|_+9,_=>cases hf⟩,⟨(ApiEntity.mk 4 x32 x2.Text x28.method x2.Type_ false [] x28.file x2.At),⟨_,rfl,rfl,fun j fd hj hf=>by match j,hj with| 0,_=>cases hf;rfl| 1,_=>cases hf;rfl| 2,_=>cases hf;rfl| 3,_=>cases hf;rfl| 4,_=>cases hf;rfl| 5,_=>cases hf;rfl| 6,_=>cases hf;rfl| 7,_=>cases hf;rfl| 8,h=>exact absurd rfl h|_+9,_=>cases hf⟩,rfl⟩⟩⟩⟩⟩⟩⟩)) ?_
   refine gqA (fun S hK=>⟨fun B' hB=>by show([Own.box b3 ar (BindWalkerRaw.mk v29 x28.file x28.method x28.many),Own.vec v29 ao x28.uses 47,Own.box b6 aj x1,Own.box b7 ab x2,Own.box b8 aj (BindScope.mk [] [] false []),(cond (S 25) (Own.box (B' 24) af (ApiEntity.mk 4 x32 x2.Text x28.method x2.Type_ false [] x28.file x2.At)) (cond (S 24) (Own.box (B' 24) af (ApiEntity.mk 0 [] [] [] [] false [] 0 0)) Own.nil))]:Ctx)=[Own.box b3 ar (BindWalkerRaw.mk v29 x28.file x28.method x28.many),Own.vec v29 ao x28.uses 47,Own.box b6 aj x1,Own.box b7 ab x2,Own.box b8 aj (BindScope.mk [] [] false []),(cond (S 25) (Own.box (B 24) af (ApiEntity.mk 4 x32 x2.Text x28.method x2.Type_ false [] x28.file x2.At)) (cond (S 24) (Own.box (B 24) af (ApiEntity.mk 0 [] [] [] [] false [] 0 0)) Own.nil))];simp only[hK.me,hK.F 25 (by kernel_rfl),cond_false],fun s ρ hg _=>sAlloc (R:=af) (z:=(ApiEntity.mk 0 [] [] [] [] false [] 0 0)) 5 Tryz.zeroValue49 (fun _=>⟨_,⟨_,_,rfl,rfl,⟨_,_,rfl,rfl,⟨_,_,rfl,rfl,⟨_,_,rfl,rfl,⟨_,_,rfl,rfl,⟨_,_,rfl,rfl,⟨_,_,rfl,⟨_,rfl,none,0,rfl,⟨Nat.le_refl _,fun _=>rfl⟩,.inl rfl⟩,⟨_,_,rfl,rfl,⟨_,_,rfl,rfl,rfl⟩⟩⟩⟩⟩⟩⟩⟩⟩,rfl⟩) (congrArg some ((condF (hK.F 25 (by kernel_rfl)) _ _).trans (condF (hK.me) _ _))) (fun b=>by show([Own.box b3 ar (BindWalkerRaw.mk v29 x28.file x28.method x28.many),Own.vec v29 ao x28.uses 47,Own.box b6 aj x1,Own.box b7 ab x2,Own.box b8 aj (BindScope.mk [] [] false []),(cond (S 25) (Own.box b af (ApiEntity.mk 4 x32 x2.Text x28.method x2.Type_ false [] x28.file x2.At)) (Own.box b af (ApiEntity.mk 0 [] [] [] [] false [] 0 0)))]:Ctx)=_;rw[hK.F 25 (by kernel_rfl)];rfl) s ρ hg⟩) ?_
   refine gqS (fun S hK=>SStep.as (dc (R:=af) (R':=af) (a:=(ApiEntity.mk 0 [] [] [] [] false [] 0 0)) (y:=(ApiEntity.mk 4 x32 x2.Text x28.method x2.Type_ false [] x28.file x2.At)) 5 Tryz.sizeOf49 (Upd.refl _) (congrArg some ((condF (hK.me) _ _).trans (condT (hK.T 24 (by kernel_rfl)) _ _)))) (by show(_:Ctx)=[Own.box b3 ar (BindWalkerRaw.mk v29 x28.file x28.method x28.many),Own.vec v29 ao x28.uses 47,Own.box b6 aj x1,Own.box b7 ab x2,Own.box b8 aj (BindScope.mk [] [] false []),Own.box (B 24) af (ApiEntity.mk 4 x32 x2.Text x28.method x2.Type_ false [] x28.file x2.At)];rfl)) ?_
   exact⟨x32,(B 24),h,atOk⟩
  refine W_r (kUn (ai dr) ?_)
  refine kUn (ap 3 ty3 bg) ?_
  refine kIn rfl rfl rfl (kMv rfl ?_)
  rcases bo h with⟨hc30,h⟩|⟨hc30,h⟩
  ·refine kSkF rfl aa hc30 (kSkF rfl aa hc30 (kSkF rfl aa hc30 (kPt rfl hc30 rfl (kAs rfl ?_))))
   exact⟨true,h,atOk⟩
  refine kGd rfl aa hc30 (ai dr) ?_
  refine kGd rfl aa hc30 (ap 3 ty3 bg) ?_
  refine kGd rfl aa hc30 (qInt rfl rfl rfl) (kPf rfl hc30 rfl (kAs rfl ?_))
  exact⟨x2.Kind==6,h,atOk⟩
 refine bh (fun e C=>∃(x14:Bool),j6 R x2 x1 x9 x14=some r/\At [(0,am b3 0),(4,am b6 0),(5,am b7 0),(6,am b8 0),(7,aq ab x2.Kids),(31,Pr.bool x14)] [Own.box b3 ar (BindWalkerRaw.mk v10 x9.file x9.method x9.many),Own.vec v10 ao x9.uses 47,Own.box b6 aj x1,Own.box b7 ab x2,Own.box b8 aj (BindScope.mk [] [] false [])] e C) ?_ ?_
 ·rintro e C ⟨x14,h,hat11⟩
  refine W_at hat11 ?_
  unfold j6 at h
  refine a5 h rfl (fun _ h=> ?_) (fun _ h=> ?_)
  ·refine bh (fun e C=>∃(x18:BindWalker),∃(v19:Value),sa R x2 x1 x18=some r/\At [(0,am b3 0),(4,am b6 0),(5,am b7 0),(6,am b8 0),(7,aq ab x2.Kids)] [Own.box b3 ar (BindWalkerRaw.mk v19 x18.file x18.method x18.many),Own.vec v19 ao x18.uses 47,Own.box b6 aj x1,Own.box b7 ab x2,Own.box b8 aj (BindScope.mk [] [] false [])] e C) ?_ ?_
   ·rintro e C ⟨x18,v19,h,hat10⟩
    refine W_at hat10 ?_
    unfold sa at h
    refine W_r (kMvL rfl ?_)
    obtain⟨x21,hx21,h⟩:=ah h
    refine kUn (qLSubL Tryz.underlying53 Tryz.sizeOf64 hx21) ?_
    refine kAsL rfl ?_
    exact⟨x21,x18.file,x18.method,x18.many,x18.uses,v19,h,atOk⟩
   refine eo 5 hmx (by kernel_rfl) (by kernel_rfl) ?_
   refine lUn (hMvA rfl) (lUn (ap 2 ty66 (Sub.refl _)) ?_)
   refine lUn (hMvL rfl) ?_
   obtain⟨x16,hx16,h⟩:=ah h
   refine lUn (dg Tryz.underlying53 Tryz.sizeOf64 hx16) ?_
   refine lUn (cf ty64) ?_
   rcases ce h with⟨m20,hm20,h⟩|⟨⟨x17,x18⟩,hx17,h⟩
   ·refine cv [0,1] (ih x1 x16 x9 b3 v10 _ hm20) ⟨aa,aa,aa,trivial⟩ (fun q C' hq=> ?_) (fun v9 hv=> ?_)
    ·obtain⟨_,h9,_⟩:=hq;cases h9
    obtain⟨_,h9,rfl⟩:=hv
    cases h9
    obtain rfl:=osj h
    exact .inr ⟨_,rfl,_,rfl,rfl⟩
   refine cv [0,1] (ih x1 x16 x9 b3 v10 _ hx17) ⟨aa,aa,aa,trivial⟩ (fun q C' hq=> ?_) (fun v9 hv=>by obtain⟨_,h9,_⟩:=hv;cases h9)
   obtain⟨_,h9,v19,rfl,rfl⟩:=hq
   cases h9
   refine rCtx [Own.box b3 ar (BindWalkerRaw.mk v19 x18.file x18.method x18.many),Own.vec v19 ao x18.uses 47,Own.box b6 aj x1,Own.box b7 ab x2,Own.box b8 aj (BindScope.mk [] [] false [])] ?_
   exact⟨x18,v19,h,atOk⟩
  refine ax ?_
  exact⟨x2.Kids,x9.file,x9.method,x9.many,x9.uses,v10,h,atOk⟩
 refine W_r (kUn (ai dr) ?_)
 refine kUn (ap 3 ty3 bg) ?_
 refine kIn rfl rfl rfl (kMv rfl ?_)
 rcases bo h with⟨hc11,h⟩|⟨hc11,h⟩
 ·refine kSkF rfl aa hc11 (kSkF rfl aa hc11 (kSkF rfl aa hc11 (kPt rfl hc11 rfl (kMv rfl ?_))))
  have hc13:true=true:=rfl
  refine kGd rfl aa hc13 (hMvL rfl) (kGd rfl aa hc13 (iz rfl Tryz.underlying53) ?_)
  refine kGd rfl aa hc13 (qInt rfl rfl rfl) (kPt rfl hc13 rfl ?_)
  exact⟨decide ((x2.Kids.length:Int)>0),h,atOk⟩
 refine kGd rfl aa hc11 (ai dr) ?_
 refine kGd rfl aa hc11 (ap 3 ty3 bg) ?_
 refine kGd rfl aa hc11 (qInt rfl rfl rfl) (kPf rfl hc11 rfl (kMv rfl ?_))
 rcases bo h with⟨hc12,h⟩|⟨hc12,h⟩
 ·refine kGd rfl aa hc12 (hMvL rfl) (kGd rfl aa hc12 (iz rfl Tryz.underlying53) ?_)
  refine kGd rfl aa hc12 (qInt rfl rfl rfl) (kPt rfl hc12 rfl ?_)
  exact⟨decide ((x2.Kids.length:Int)>0),h,atOk⟩
 refine kSkT rfl aa hc12 (kSkT rfl aa hc12 (kSkT rfl aa hc12 (kPf rfl hc12 rfl ?_)))
 exact⟨false,h,atOk⟩
theorem rec_bind_walker_walk_ok :∀n,tf (ow n):=by
 intro n
 induction n with
 |zero=>exact(fun x1 x2 x4 b3 v5 r h=>nomatch (show none=some r from h))
 |succ n ih=>exact(fun x1 x2 x4 b3 v5 r h=>F_bind_walker_walk_step (ow n) ih x1 x2 x4 b3 v5 r h)
theorem bind_walker_walk_ok (x1:BindScope) (x2:ApiNode) (x4:BindWalker) (b3:Nat) (v5:Value) (r:PX BindWrong (BindScope × BindWalker)) (h:bind_walker_walk x1 x2 x4=some r):FnX Tryz.prog 37 [am b3 0,(aj).val x1,(ab).val x2] [Own.box b3 ar (BindWalkerRaw.mk v5 x4.file x4.method x4.many),Own.vec v5 ao x4.uses 47] (fun q C'=>∃a9,r= .ok a9/\∃w100,q=(aj).val a9.1/\C'=[Own.box b3 ar (BindWalkerRaw.mk w100 a9.2.file a9.2.method a9.2.many),Own.vec w100 ao a9.2.uses 47]) (fun v=>∃m,r= .bad m/\v=bindV m):=(rec_bind_walker_walk_ok 1048576) x1 x2 x4 b3 v5 r h
theorem js (x1 x2:Int) (x3:(ApiUse->ApiUse->Option Int)) (x5:List ApiUse) (v4:Value) (r:(List ApiUse)) (h:em x1 x2 x3 x5=some r):FnC Tryz.prog 129 [Pr.is v4,Pr.i64 x1,Pr.i64 x2,c3 Tryz.prog (en x3)] [Own.vec v4 ao x5 47] (fun q C'=>q=bk []/\C'=[Own.vec v4 ao r 47]):=by
 refine fi (rs:=[]) Tryz.func129 rfl Tryz.ntmps129 ⟨by decide,Tryz.results129⟩ (by decide) (fun s0=> ?_)
 unfold em at h
 refine W_rs (kMv rfl (kIn rfl rfl rfl (kAs rfl (az ?_))))
 obtain⟨z2l,hz2,h⟩:=ah h
 obtain⟨n2,hN2⟩:=bp hz2
 refine cq 0 (fun e C=>∃(x7:List ApiUse),gh x7=some r/\At [(0,Pr.is v4)] [Own.vec v4 ao x7 47] e C) ?_ ?_
 ·rintro e C ⟨x7,h,hat1⟩
  unfold gh at h
  obtain rfl:=osj h
  exact⟨.inr rfl,_,(Pick.trans hat1.2 (Pick.refl _)),_,aa,rfl,rfl⟩
 refine c8 (fun m e C=>∃(x6:Int),∃(x7:List ApiUse),dj (fun s=>d8 x2 x1 x3 s.1 s.2) m (x6,x7)=some z2l/\At [(0,Pr.is v4),(1,Pr.i64 x1),(2,Pr.i64 x2),(3,c3 Tryz.prog (en x3)),(8,Pr.i64 x6)] [Own.vec v4 ao x7 47] e C) n2 ⟨w64 (x1+1),x5,hN2,⟨⟨aa,aa,aa,aa,aa,trivial⟩,Pick.refl _⟩⟩ ?_
 rintro m e C ⟨x6,x7,hN2,hatl2⟩
 refine W_at hatl2 ?_
 obtain⟨m2,w2l,rfl,h2l,hn2,ho2⟩:=bj hN2
 replace h2l:d8 x2 x1 x3 x6 x7=some w2l:=h2l
 unfold d8 at h2l
 refine a8 (W_rs (kMv rfl (kMv rfl (kIn rfl rfl rfl ?_))))
 refine a5 h2l rfl (fun _ h2l=> ?_) (fun _ h2l=> ?_)
 ·refine ax (a8 (az (W_rs (kMv rfl (kAs rfl (az ?_))))))
  obtain⟨z4l,hz4,h2l⟩:=ah h2l
  obtain⟨n4,hN4⟩:=bp hz4
  refine cq 2 (fun e C=>∃(x12:List ApiUse),ge x6 x12=some w2l/\At [(0,Pr.is v4),(1,Pr.i64 x1),(2,Pr.i64 x2),(3,c3 Tryz.prog (en x3)),(8,Pr.i64 x6)] [Own.vec v4 ao x12 47] e C) ?_ ?_
  ·rintro e C ⟨x12,h2l,hat3⟩
   refine W_at hat3 ?_
   unfold ge at h2l
   refine W_r (kMv rfl (kIn rfl rfl rfl (kAs rfl ?_)))
   exact⟨m2,Nat.lt_succ_self _,w64 (x6+1),x12,hn2 _ (Option.some.inj h2l).symm,atOk⟩
  refine c8 (fun m e C=>∃(x11:Int),∃(x12:List ApiUse),dj (fun s=>d7 x1 x3 s.1 s.2) m (x11,x12)=some z4l/\At [(0,Pr.is v4),(1,Pr.i64 x1),(2,Pr.i64 x2),(3,c3 Tryz.prog (en x3)),(8,Pr.i64 x6),(9,Pr.i64 x11)] [Own.vec v4 ao x12 47] e C) n4 ⟨x6,x7,hN4,⟨⟨aa,aa,aa,aa,aa,aa,trivial⟩,Pick.refl _⟩⟩ ?_
  rintro m e C ⟨x11,x12,hN4,hatl4⟩
  refine W_at hatl4 ?_
  obtain⟨m4,w4l,rfl,h4l,hn4,ho4⟩:=bj hN4
  replace h4l:d7 x1 x3 x11 x12=some w4l:=h4l
  unfold d7 at h4l
  refine a8 ?_
  refine bh (fun e C=>∃(x19:Bool),d9 x12 x11 x19=some w4l/\At [(0,Pr.is v4),(1,Pr.i64 x1),(2,Pr.i64 x2),(3,c3 Tryz.prog (en x3)),(8,Pr.i64 x6),(9,Pr.i64 x11),(34,Pr.bool x19)] [Own.vec v4 ao x12 47] e C) ?_ ?_
  ·rintro e C ⟨x19,h4l,hat5⟩
   refine W_at hat5 ?_
   unfold d9 at h4l
   refine a5 h4l rfl (fun _ h4l=> ?_) (fun _ h4l=> ?_)
   ·refine ax (a8 (az ?_))
    obtain⟨x21,hx21,h4l⟩:=ah h4l
    obtain⟨x22,hx22,h4l⟩:=ah h4l
    obtain⟨x23,hx23,h4l⟩:=ah h4l
    obtain⟨x24,hx24,h4l⟩:=ah h4l
    refine W_drawA [0,0,0,0,8,0,0,64,224,480,0,0,3072,7168,16355,32739,65535,131071] [[],[],[],[],[],[],[],[],[Own.vec v4 ao x12 47],[Own.vec v4 ao x12 47],[],[],[Own.vec v4 ao x12 47],[Own.vec v4 ao x12 47],[Own.vec v4 ao x12 47],[],[Own.vec v4 ao (List.set x12 (Int.toNat x11) x21) 47],[]] hmx (by kernel_rfl) (by kernel_rfl) (by kernel_rfl) rfl ?_
    refine aq0 0 1 (out:=Pr.is v4) rfl (fun C9=>eb) ?_
    refine aq0 1 3 (out:=Pr.i64 x11) rfl (fun C9=>eb) ?_
    refine aq0 2 7 (out:=Pr.is v4) rfl (fun C9=>eb) ?_
    refine aq0 3 15 (out:=Pr.i64 x11) rfl (fun C9=>eb) ?_
    refine aq0 4 31 (out:=Pr.i64 (w64 (x11 - 1))) rfl (fun C9=>qInt) ?_
    refine aq0 5 63 (out:=Pr.is v4) rfl (fun C9=>eb) ?_
    refine aq0 6 127 (out:=Pr.i64 x11) rfl (fun C9=>eb) ?_
    refine aq0 7 255 (out:=Pr.i64 (w64 (x11 - 1))) rfl (fun C9=>qInt) ?_
    refine aq1 8 511 0 (out:=sk v4 (Int.toNat (w64 (x11 - 1)) * (ao).size)) rfl rfl (fun C9 i9 h9=>(u1 i9 (R:=ao) (l:=x12) Tryz.underlying27 Tryz.sizeOf47 hx21 (hi:=h9))) ?_
    refine aq1 9 1023 0 (out:=(ao).val x21) rfl rfl (fun C9 i9 h9=>(un (R:=ao) (R':=ao) (l:=x12) (a:=x21) (o:=0) i9 ty47 (Sub.refl _) (Nat.le_of_ble_eq_true rfl) hx21 rfl (hi:=h9))) ?_
    refine aq0 10 2047 (out:=Pr.is v4) rfl (fun C9=>eb) ?_
    refine aq0 11 4095 (out:=Pr.i64 x11) rfl (fun C9=>eb) ?_
    refine aq1 12 8191 0 (out:=sk v4 (Int.toNat x11 * (ao).size)) rfl rfl (fun C9 i9 h9=>(u1 i9 (R:=ao) (l:=x12) Tryz.underlying27 Tryz.sizeOf47 hx22 (hi:=h9))) ?_
    refine aq1 13 16383 0 (out:=(ao).val x22) rfl rfl (fun C9 i9 h9=>(un (R:=ao) (R':=ao) (l:=x12) (a:=x22) (o:=0) i9 ty47 (Sub.refl _) (Nat.le_of_ble_eq_true rfl) hx22 rfl (hi:=h9))) ?_
    refine aq1 14 32767 0 (out:=sk v4 (Int.toNat x11 * (ao).size)) rfl rfl (fun C9 i9 h9=>(u1 i9 (R:=ao) (l:=x12) Tryz.underlying27 Tryz.sizeOf47 hx23 (hi:=h9))) ?_
    refine ae 15 65535 rfl (fun g9=> ?_)
    refine rStoreE (R:=ao) (R':=ao) (l:=x12) (a:=x23) (y:=x21) (o:=0) 0 Tryz.sizeOf47 (Upd.refl _) hx23 rfl ?_
    refine kh .any [] dm ?_
    refine aq1 16 131071 0 (out:=sk v4 (Int.toNat (w64 (x11 - 1)) * (ao).size)) rfl rfl (fun C9 i9 h9=>(u1 i9 (R:=ao) (l:=(List.set x12 (Int.toNat x11) x21)) Tryz.underlying27 Tryz.sizeOf47 hx24 (hi:=h9))) ?_
    refine ae 17 262143 rfl (fun g9=> ?_)
    refine rStoreE (R:=ao) (R':=ao) (l:=(List.set x12 (Int.toNat x11) x21)) (a:=x24) (y:=x22) (o:=0) 0 Tryz.sizeOf47 (Upd.refl _) hx24 rfl ?_
    refine kh .any [] dm ?_
    refine ar_end ?_
    refine W_r (kMv rfl (kIn rfl rfl rfl (kAs rfl ?_)))
    exact⟨m4,Nat.lt_succ_self _,w64 (x11 - 1),(List.set (List.set x12 (Int.toNat x11) x21) (Int.toNat (w64 (x11 - 1))) x22),hn4 _ (Option.some.inj h4l).symm,atOk⟩
   refine c6 ?_
   obtain rfl:=ho4 _ (Option.some.inj h4l).symm
   exact⟨x12,h2l,atOk⟩
  refine eo 17 hmx (by kernel_rfl) (by kernel_rfl) ?_
  refine lUn (hMvA rfl) (lUn (hMvA rfl) (lUn (qInt rfl rfl rfl) (lUn (hMvA rfl) ?_)))
  rcases bo h4l with⟨hc15,h4l⟩|⟨hc15,h4l⟩
  ·refine lGd rfl aa hc15 (hMv (out:=c3 Tryz.prog (en x3)) rfl) (lGd rfl aa hc15 (hMvA rfl) (lGd rfl aa hc15 (hMvA rfl) ?_))
   obtain⟨x16,hx16,h4l⟩:=ah h4l
   refine lGd rfl aa hc15 (u1 0 (R:=ao) (l:=x12) Tryz.underlying27 Tryz.sizeOf47 hx16) ?_
   refine lGd rfl aa hc15 (un (R:=ao) (R':=ao) (l:=x12) (a:=x16) (o:=0) 0 ty47 (Sub.refl _) (Nat.le_of_ble_eq_true rfl) hx16 rfl) ?_
   refine lGd rfl aa hc15 (hMvA rfl) (lGd rfl aa hc15 (hMvA rfl) (lGd rfl aa hc15 (qInt rfl rfl rfl) ?_))
   obtain⟨x17,hx17,h4l⟩:=ah h4l
   refine lGd rfl aa hc15 (u1 0 (R:=ao) (l:=x12) Tryz.underlying27 Tryz.sizeOf47 hx17) ?_
   refine lGd rfl aa hc15 (un (R:=ao) (R':=ao) (l:=x12) (a:=x17) (o:=0) 0 ty47 (Sub.refl _) (Nat.le_of_ble_eq_true rfl) hx17 rfl) ?_
   obtain⟨x18,hx18,h4l⟩:=ah h4l
   refine lGd rfl aa hc15 (qCallP (spec:=en x3) ⟨_,_,_,rfl,rfl,hx18⟩) ?_
   refine lGd rfl aa hc15 (qInt rfl rfl rfl) (lUn (hPt rfl hc15 rfl) ?_)
   exact⟨decide (x18<0),h4l,atOk⟩
  refine lSkT rfl aa hc15 (lSkT rfl aa hc15 (lSkT rfl aa hc15 (lSkT rfl aa hc15 (lSkT rfl aa hc15 (lSkT rfl aa hc15 (lSkT rfl aa hc15 (lSkT rfl aa hc15 (lSkT rfl aa hc15 (lSkT rfl aa hc15 (lSkT rfl aa hc15 (lSkT rfl aa hc15 ?_)))))))))))
  refine lUn (hPf rfl hc15 rfl) ?_
  exact⟨false,h4l,atOk⟩
 refine c6 ?_
 obtain rfl:=ho2 _ (Option.some.inj h2l).symm
 exact⟨x7,h,atOk⟩
theorem ie (x1 x2 x3:Int) (x4:(ApiUse->ApiUse->Option Int)) (x6:List ApiUse) (v5:Value) (r:(List ApiUse)) (h:eh x1 x2 x3 x4 x6=some r):FnC Tryz.prog 178 [Pr.is v5,Pr.i64 x1,Pr.i64 x2,Pr.i64 x3,c3 Tryz.prog (en x4)] [Own.vec v5 ao x6 47] (fun q C'=>q=bk []/\C'=[Own.vec v5 ao r 47]):=by
 refine fi (rs:=[]) Tryz.func178 rfl Tryz.ntmps178 ⟨by decide,Tryz.results178⟩ (by decide) (fun s0=> ?_)
 unfold eh at h
 refine W_rs (kAs rfl (az ?_))
 obtain⟨z2l,hz2,h⟩:=ah h
 obtain⟨n2,hN2⟩:=bp hz2
 refine cq 0 (fun e C=>∃(x8:List ApiUse),ig x8=some r/\At [(0,Pr.is v5)] [Own.vec v5 ao x8 47] e C) ?_ ?_
 ·rintro e C ⟨x8,h,hat1⟩
  unfold ig at h
  obtain rfl:=osj h
  exact⟨.inr rfl,_,(Pick.trans hat1.2 (Pick.refl _)),_,aa,rfl,rfl⟩
 refine c8 (fun m e C=>∃(x7:Int),∃(x8:List ApiUse),dj (fun s=>fh x3 x2 x1 s.1 s.2) m (x7,x8)=some z2l/\At [(0,Pr.is v5),(1,Pr.i64 x1),(2,Pr.i64 x2),(3,Pr.i64 x3),(10,Pr.i64 x7)] [Own.vec v5 ao x8 47] e C) n2 ⟨0,x6,hN2,⟨⟨aa,aa,aa,aa,aa,trivial⟩,Pick.refl _⟩⟩ ?_
 rintro m e C ⟨x7,x8,hN2,hatl2⟩
 refine W_at hatl2 ?_
 obtain⟨m2,w2l,rfl,h2l,hn2,ho2⟩:=bj hN2
 replace h2l:fh x3 x2 x1 x7 x8=some w2l:=h2l
 unfold fh at h2l
 refine a8 (W_rs (kMv rfl (kMv rfl (kIn rfl rfl rfl ?_))))
 refine a5 h2l rfl (fun _ h2l=> ?_) (fun _ h2l=> ?_)
 ·refine ax (a8 (az ?_))
  obtain⟨x12,hx12,h2l⟩:=ah h2l
  obtain⟨x13,hx13,h2l⟩:=ah h2l
  obtain⟨x14,hx14,h2l⟩:=ah h2l
  obtain⟨x15,hx15,h2l⟩:=ah h2l
  refine W_drawA [0,0,0,6,0,0,0,96,0,0,0,1536,3840,7936,0,0,0,98304,245760,507904,1048335,2096911,4194303,8388607] [[],[],[],[],[],[],[],[],[],[],[],[],[Own.vec v5 ao x8 47],[Own.vec v5 ao x8 47],[],[],[],[],[Own.vec v5 ao x8 47],[Own.vec v5 ao x8 47],[Own.vec v5 ao x8 47],[],[Own.vec v5 ao (List.set x8 (Int.toNat (w64 (x1+x7))) x12) 47],[]] hmx (by kernel_rfl) (by kernel_rfl) (by kernel_rfl) rfl ?_
  refine aq0 0 1 (out:=Pr.is v5) rfl (fun C9=>eb) ?_
  refine aq0 1 3 (out:=Pr.i64 x1) rfl (fun C9=>eb) ?_
  refine aq0 2 7 (out:=Pr.i64 x7) rfl (fun C9=>eb) ?_
  refine aq0 3 15 (out:=Pr.i64 (w64 (x1+x7))) rfl (fun C9=>qInt) ?_
  refine aq0 4 31 (out:=Pr.is v5) rfl (fun C9=>eb) ?_
  refine aq0 5 63 (out:=Pr.i64 x2) rfl (fun C9=>eb) ?_
  refine aq0 6 127 (out:=Pr.i64 x7) rfl (fun C9=>eb) ?_
  refine aq0 7 255 (out:=Pr.i64 (w64 (x2+x7))) rfl (fun C9=>qInt) ?_
  refine aq0 8 511 (out:=Pr.is v5) rfl (fun C9=>eb) ?_
  refine aq0 9 1023 (out:=Pr.i64 x2) rfl (fun C9=>eb) ?_
  refine aq0 10 2047 (out:=Pr.i64 x7) rfl (fun C9=>eb) ?_
  refine aq0 11 4095 (out:=Pr.i64 (w64 (x2+x7))) rfl (fun C9=>qInt) ?_
  refine aq1 12 8191 0 (out:=sk v5 (Int.toNat (w64 (x2+x7)) * (ao).size)) rfl rfl (fun C9 i9 h9=>(u1 i9 (R:=ao) (l:=x8) Tryz.underlying27 Tryz.sizeOf47 hx12 (hi:=h9))) ?_
  refine aq1 13 16383 0 (out:=(ao).val x12) rfl rfl (fun C9 i9 h9=>(un (R:=ao) (R':=ao) (l:=x8) (a:=x12) (o:=0) i9 ty47 (Sub.refl _) (Nat.le_of_ble_eq_true rfl) hx12 rfl (hi:=h9))) ?_
  refine aq0 14 32767 (out:=Pr.is v5) rfl (fun C9=>eb) ?_
  refine aq0 15 65535 (out:=Pr.i64 x1) rfl (fun C9=>eb) ?_
  refine aq0 16 131071 (out:=Pr.i64 x7) rfl (fun C9=>eb) ?_
  refine aq0 17 262143 (out:=Pr.i64 (w64 (x1+x7))) rfl (fun C9=>qInt) ?_
  refine aq1 18 524287 0 (out:=sk v5 (Int.toNat (w64 (x1+x7)) * (ao).size)) rfl rfl (fun C9 i9 h9=>(u1 i9 (R:=ao) (l:=x8) Tryz.underlying27 Tryz.sizeOf47 hx13 (hi:=h9))) ?_
  refine aq1 19 1048575 0 (out:=(ao).val x13) rfl rfl (fun C9 i9 h9=>(un (R:=ao) (R':=ao) (l:=x8) (a:=x13) (o:=0) i9 ty47 (Sub.refl _) (Nat.le_of_ble_eq_true rfl) hx13 rfl (hi:=h9))) ?_
  refine aq1 20 2097151 0 (out:=sk v5 (Int.toNat (w64 (x1+x7)) * (ao).size)) rfl rfl (fun C9 i9 h9=>(u1 i9 (R:=ao) (l:=x8) Tryz.underlying27 Tryz.sizeOf47 hx14 (hi:=h9))) ?_
  refine ae 21 4194303 rfl (fun g9=> ?_)
  refine rStoreE (R:=ao) (R':=ao) (l:=x8) (a:=x14) (y:=x12) (o:=0) 0 Tryz.sizeOf47 (Upd.refl _) hx14 rfl ?_
  refine kh .any [] dm ?_
  refine aq1 22 8388607 0 (out:=sk v5 (Int.toNat (w64 (x2+x7)) * (ao).size)) rfl rfl (fun C9 i9 h9=>(u1 i9 (R:=ao) (l:=(List.set x8 (Int.toNat (w64 (x1+x7))) x12)) Tryz.underlying27 Tryz.sizeOf47 hx15 (hi:=h9))) ?_
  refine ae 23 16777215 rfl (fun g9=> ?_)
  refine rStoreE (R:=ao) (R':=ao) (l:=(List.set x8 (Int.toNat (w64 (x1+x7))) x12)) (a:=x15) (y:=x13) (o:=0) 0 Tryz.sizeOf47 (Upd.refl _) hx15 rfl ?_
  refine kh .any [] dm ?_
  refine ar_end ?_
  refine W_r (kMv rfl (kIn rfl rfl rfl (kAs rfl ?_)))
  exact⟨m2,Nat.lt_succ_self _,w64 (x7+1),(List.set (List.set x8 (Int.toNat (w64 (x1+x7))) x12) (Int.toNat (w64 (x2+x7))) x13),hn2 _ (Option.some.inj h2l).symm,atOk⟩
 refine c6 ?_
 obtain rfl:=ho2 _ (Option.some.inj h2l).symm
 exact⟨x8,h,atOk⟩
theorem slices_rotateCmpFunc_api_Use_ok (x1 x2 x3:Int) (x4:(ApiUse->ApiUse->Option Int)) (x6:List ApiUse) (v5:Value) (r:(List ApiUse)) (h:ka x1 x2 x3 x4 x6=some r):FnC Tryz.prog 164 [Pr.is v5,Pr.i64 x1,Pr.i64 x2,Pr.i64 x3,c3 Tryz.prog (en x4)] [Own.vec v5 ao x6 47] (fun q C'=>q=bk []/\C'=[Own.vec v5 ao r 47]):=by
 refine fi (rs:=[]) Tryz.func164 rfl Tryz.ntmps164 ⟨by decide,Tryz.results164⟩ (by decide) (fun s0=> ?_)
 unfold ka at h
 refine W_rs (kMv rfl (kMv rfl (kIn rfl rfl rfl (kAs rfl (W_rs (kMv rfl (kMv rfl (kIn rfl rfl rfl (kAs rfl (a8 (az ?_)))))))))))
 obtain⟨z2l,hz2,h⟩:=ah h
 obtain⟨n2,hN2⟩:=bp hz2
 refine cq 0 (fun e C=>∃(x7:Int),∃(x9:List ApiUse),jd x2 x4 x7 x9=some r/\At [(0,Pr.is v5),(2,Pr.i64 x2),(4,c3 Tryz.prog (en x4)),(10,Pr.i64 x7)] [Own.vec v5 ao x9 47] e C) ?_ ?_
 ·rintro e C ⟨x7,x9,h,hat1⟩
  refine W_at hat1 ?_
  unfold jd at h
  refine W_r (kMv rfl (kMv rfl (kMv rfl (kIn rfl rfl rfl (kMv rfl (kMv rfl (kUn (hMv (out:=c3 Tryz.prog (en x4)) rfl) ?_)))))))
  obtain⟨x17,hx17,h⟩:=ah h
  refine kg [0] (ie (w64 (x2 - x7)) x2 x7 x4 x9 v5 _ hx17) (fun q C' hq=> ?_)
  obtain⟨rfl,rfl⟩:=hq
  obtain rfl:=osj h
  exact⟨.inr rfl,_,Pick.refl _,_,aa,rfl,rfl⟩
 refine c8 (fun m e C=>∃(x7:Int),∃(x8:Int),∃(x9:List ApiUse),dj (fun s=>gc x2 x4 s.1 s.2.1 s.2.2) m (x7,x8,x9)=some z2l/\At [(0,Pr.is v5),(2,Pr.i64 x2),(4,c3 Tryz.prog (en x4)),(10,Pr.i64 x7),(11,Pr.i64 x8)] [Own.vec v5 ao x9 47] e C) n2 ⟨w64 (x2 - x1),w64 (x3 - x2),x6,hN2,⟨⟨aa,aa,aa,aa,aa,trivial⟩,Pick.refl _⟩⟩ ?_
 rintro m e C ⟨x7,x8,x9,hN2,hatl2⟩
 refine W_at hatl2 ?_
 obtain⟨m2,w2l,rfl,h2l,hn2,ho2⟩:=bj hN2
 replace h2l:gc x2 x4 x7 x8 x9=some w2l:=h2l
 unfold gc at h2l
 refine a8 (W_rs (kMv rfl (kMv rfl (kIn rfl rfl rfl ?_))))
 refine a5 h2l rfl (fun _ h2l=> ?_) (fun _ h2l=> ?_)
 ·refine ax (az (W_rs (kMv rfl (kMv rfl (kIn rfl rfl rfl ?_)))))
  refine a5 h2l rfl (fun _ h2l=> ?_) (fun _ h2l=> ?_)
  ·refine W_rs (kMv rfl (kMv rfl (kMv rfl (kIn rfl rfl rfl (kMv rfl (kMv rfl (kUn (hMv (out:=c3 Tryz.prog (en x4)) rfl) ?_)))))))
   obtain⟨x15,hx15,h2l⟩:=ah h2l
   refine kg [0] (ie (w64 (x2 - x7)) x2 x8 x4 x9 v5 _ hx15) (fun q C' hq=> ?_)
   obtain⟨rfl,rfl⟩:=hq
   refine W_r (kMv rfl (kMv rfl (kIn rfl rfl rfl (kAs rfl ?_))))
   exact⟨m2,Nat.lt_succ_self _,w64 (x7 - x8),x8,x15,hn2 _ (Option.some.inj h2l).symm,atOk⟩
  refine W_rs (kMv rfl (kMv rfl (kMv rfl (kIn rfl rfl rfl (kMv rfl (kMv rfl (kIn rfl rfl rfl (kMv rfl (kIn rfl rfl rfl (kMv rfl (kUn (hMv (out:=c3 Tryz.prog (en x4)) rfl) ?_)))))))))))
  obtain⟨x16,hx16,h2l⟩:=ah h2l
  refine kg [0] (ie (w64 (x2 - x7)) (w64 ((w64 (x2+x8)) - x7)) x7 x4 x9 v5 _ hx16) (fun q C' hq=> ?_)
  obtain⟨rfl,rfl⟩:=hq
  refine W_r (kMv rfl (kMv rfl (kIn rfl rfl rfl (kAs rfl ?_))))
  exact⟨m2,Nat.lt_succ_self _,x7,w64 (x8 - x7),x16,hn2 _ (Option.some.inj h2l).symm,atOk⟩
 refine c6 ?_
 obtain rfl:=ho2 _ (Option.some.inj h2l).symm
 exact⟨x7,x9,h,atOk⟩
def ji (R:aw):Prop:=(∀(x1:Int) (x2:Int) (x3:Int) (x4:(ApiUse->ApiUse->Option Int)) (x6:List ApiUse) (v5:Value) (r:(List ApiUse)),R x1 x2 x3 x4 x6=some r->FnC Tryz.prog 130 [Pr.is v5,Pr.i64 x1,Pr.i64 x2,Pr.i64 x3,c3 Tryz.prog (en x4)] [Own.vec v5 ao x6 47] (fun q C'=>q=bk []/\C'=[Own.vec v5 ao r 47]))
theorem si (R:aw) (ih:ji R) (x1 x2 x3:Int) (x4:(ApiUse->ApiUse->Option Int)) (x6:List ApiUse) (v5:Value) (r:(List ApiUse)) (h:i3 R x1 x2 x3 x4 x6=some r):FnC Tryz.prog 130 [Pr.is v5,Pr.i64 x1,Pr.i64 x2,Pr.i64 x3,c3 Tryz.prog (en x4)] [Own.vec v5 ao x6 47] (fun q C'=>q=bk []/\C'=[Own.vec v5 ao r 47]):=by
  refine fi (rs:=[]) Tryz.func130 rfl Tryz.ntmps130 ⟨by decide,Tryz.results130⟩ (by decide) (fun s0=> ?_)
  unfold i3 at h
  refine a8 (W_rs (kMv rfl (kMv rfl (kIn rfl rfl rfl (kIn rfl rfl rfl ?_)))))
  refine a5 h rfl (fun _ h=> ?_) (fun _ h=> ?_)
  · refine W_rs (kMv rfl (kAs rfl (W_rs (kMv rfl (kAs rfl (a8 (az ?_)))))))
    obtain⟨z4l,hz4,h⟩:=ah h
    obtain⟨n4,hN4⟩:=bp hz4
    refine cq 0 (fun e C=>∃(x8:Int),iu R x1 x6 x8=some r/\At [(0,Pr.is v5),(1,Pr.i64 x1),(10,Pr.i64 x8)] [Own.vec v5 ao x6 47] e C) ?_ ?_
    · rintro e C ⟨x8,h,hat3⟩
      refine W_at hat3 ?_
      unfold iu at h
      refine a8 (W_rs (kMv rfl (kAs rfl (az ?_))))
      obtain⟨z2l,hz2,h⟩:=ah h
      obtain⟨n2,hN2⟩:=bp hz2
      refine cq 2 (fun e C=>∃(x18:List ApiUse),iv R x18=some r/\At [(0,Pr.is v5)] [Own.vec v5 ao x18 47] e C) ?_ ?_
      · rintro e C ⟨x18,h,hat1⟩
        refine W_at hat1 ?_
        unfold iv at h
        obtain rfl:=osj h
        exact bc ⟨.inl rfl,_,Pick.refl _,_,aa,rfl,rfl⟩
      refine c8 (fun m e C=>∃(x17:Int),∃(x18:List ApiUse),dj (fun s=>fr R x8 s.1 s.2) m (x17,x18)=some z2l/\At [(0,Pr.is v5),(10,Pr.i64 x8),(13,Pr.i64 x17)] [Own.vec v5 ao x18 47] e C) n2 ⟨x1,x6,hN2,⟨⟨aa,aa,aa,trivial⟩,Pick.refl _⟩⟩ ?_
      rintro m e C ⟨x17,x18,hN2,hatl2⟩
      refine W_at hatl2 ?_
      obtain⟨m2,w2l,rfl,h2l,hn2,ho2⟩:=bj hN2
      replace h2l:fr R x8 x17 x18=some w2l:=h2l
      unfold fr at h2l
      refine a8 (W_rs (kMv rfl (kMv rfl (kIn rfl rfl rfl (kIn rfl rfl rfl ?_)))))
      refine a5 h2l rfl (fun _ h2l=> ?_) (fun _ h2l=> ?_)
      · refine ax (a8 (az ?_))
        obtain⟨x22,hx22,h2l⟩:=ah h2l
        obtain⟨x23,hx23,h2l⟩:=ah h2l
        obtain⟨x24,hx24,h2l⟩:=ah h2l
        obtain⟨x25,hx25,h2l⟩:=ah h2l
        refine W_drawA [0,0,0,0,8,0,0,64,224,480,0,0,3072,7168,16355,32739,65535,131071] [[],[],[],[],[],[],[],[],[Own.vec v5 ao x18 47],[Own.vec v5 ao x18 47],[],[],[Own.vec v5 ao x18 47],[Own.vec v5 ao x18 47],[Own.vec v5 ao x18 47],[],[Own.vec v5 ao (List.set x18 (Int.toNat x17) x22) 47],[]] hmx (by kernel_rfl) (by kernel_rfl) (by kernel_rfl) rfl ?_
        refine aq0 0 1 (out:=Pr.is v5) rfl (fun C9=>eb) ?_
        refine aq0 1 3 (out:=Pr.i64 x17) rfl (fun C9=>eb) ?_
        refine aq0 2 7 (out:=Pr.is v5) rfl (fun C9=>eb) ?_
        refine aq0 3 15 (out:=Pr.i64 x17) rfl (fun C9=>eb) ?_
        refine aq0 4 31 (out:=Pr.i64 (w64 (x17+1))) rfl (fun C9=>qInt) ?_
        refine aq0 5 63 (out:=Pr.is v5) rfl (fun C9=>eb) ?_
        refine aq0 6 127 (out:=Pr.i64 x17) rfl (fun C9=>eb) ?_
        refine aq0 7 255 (out:=Pr.i64 (w64 (x17+1))) rfl (fun C9=>qInt) ?_
        refine aq1 8 511 0 (out:=sk v5 (Int.toNat (w64 (x17+1)) * (ao).size)) rfl rfl (fun C9 i9 h9=>(u1 i9 (R:=ao) (l:=x18) Tryz.underlying27 Tryz.sizeOf47 hx22 (hi:=h9))) ?_
        refine aq1 9 1023 0 (out:=(ao).val x22) rfl rfl (fun C9 i9 h9=>(un (R:=ao) (R':=ao) (l:=x18) (a:=x22) (o:=0) i9 ty47 (Sub.refl _) (Nat.le_of_ble_eq_true rfl) hx22 rfl (hi:=h9))) ?_
        refine aq0 10 2047 (out:=Pr.is v5) rfl (fun C9=>eb) ?_
        refine aq0 11 4095 (out:=Pr.i64 x17) rfl (fun C9=>eb) ?_
        refine aq1 12 8191 0 (out:=sk v5 (Int.toNat x17 * (ao).size)) rfl rfl (fun C9 i9 h9=>(u1 i9 (R:=ao) (l:=x18) Tryz.underlying27 Tryz.sizeOf47 hx23 (hi:=h9))) ?_
        refine aq1 13 16383 0 (out:=(ao).val x23) rfl rfl (fun C9 i9 h9=>(un (R:=ao) (R':=ao) (l:=x18) (a:=x23) (o:=0) i9 ty47 (Sub.refl _) (Nat.le_of_ble_eq_true rfl) hx23 rfl (hi:=h9))) ?_
        refine aq1 14 32767 0 (out:=sk v5 (Int.toNat x17 * (ao).size)) rfl rfl (fun C9 i9 h9=>(u1 i9 (R:=ao) (l:=x18) Tryz.underlying27 Tryz.sizeOf47 hx24 (hi:=h9))) ?_
        refine ae 15 65535 rfl (fun g9=> ?_)
        refine rStoreE (R:=ao) (R':=ao) (l:=x18) (a:=x24) (y:=x22) (o:=0) 0 Tryz.sizeOf47 (Upd.refl _) hx24 rfl ?_
        refine kh .any [] dm ?_
        refine aq1 16 131071 0 (out:=sk v5 (Int.toNat (w64 (x17+1)) * (ao).size)) rfl rfl (fun C9 i9 h9=>(u1 i9 (R:=ao) (l:=(List.set x18 (Int.toNat x17) x22)) Tryz.underlying27 Tryz.sizeOf47 hx25 (hi:=h9))) ?_
        refine ae 17 262143 rfl (fun g9=> ?_)
        refine rStoreE (R:=ao) (R':=ao) (l:=(List.set x18 (Int.toNat x17) x22)) (a:=x25) (y:=x23) (o:=0) 0 Tryz.sizeOf47 (Upd.refl _) hx25 rfl ?_
        refine kh .any [] dm ?_
        refine ar_end ?_
        refine W_r (kMv rfl (kIn rfl rfl rfl (kAs rfl ?_)))
        exact⟨m2,Nat.lt_succ_self _,w64 (x17+1),(List.set (List.set x18 (Int.toNat x17) x22) (Int.toNat (w64 (x17+1))) x23),hn2 _ (Option.some.inj h2l).symm,atOk⟩
      refine c6 ?_
      obtain rfl:=ho2 _ (Option.some.inj h2l).symm
      exact⟨x18,h,atOk⟩
    refine c8 (fun m e C=>∃(x8:Int),∃(x9:Int),dj (fun s=>fq R x6 x1 x4 s.1 s.2) m (x8,x9)=some z4l/\At [(0,Pr.is v5),(1,Pr.i64 x1),(4,c3 Tryz.prog (en x4)),(10,Pr.i64 x8),(11,Pr.i64 x9)] [Own.vec v5 ao x6 47] e C) n4 ⟨x2,x3,hN4,⟨⟨aa,aa,aa,aa,aa,trivial⟩,Pick.refl _⟩⟩ ?_
    rintro m e C ⟨x8,x9,hN4,hatl4⟩
    refine W_at hatl4 ?_
    obtain⟨m4,w4l,rfl,h4l,hn4,ho4⟩:=bj hN4
    replace h4l:fq R x6 x1 x4 x8 x9=some w4l:=h4l
    unfold fq at h4l
    refine a8 (W_rs (kMv rfl (kMv rfl (kIn rfl rfl rfl ?_))))
    refine a5 h4l rfl (fun _ h4l=> ?_) (fun _ h4l=> ?_)
    · refine ax (az (W_rs (kMv rfl (kMv rfl (kIn rfl rfl rfl (kUn (qConv Tryz.underlying3 Tryz.underlying192) ?_))))))
      refine kUn (qShr (k:= .u64) (c:=2) 1 (by decide)) ?_
      refine kUn (qConv Tryz.underlying192 Tryz.underlying3) ?_
      refine kAs rfl ?_
      refine bh (fun e C=>∃(x15:Int),iw R x8 x9 x15=some w4l/\At [(0,Pr.is v5),(1,Pr.i64 x1),(4,c3 Tryz.prog (en x4)),(10,Pr.i64 x8),(11,Pr.i64 x9),(12,Pr.i64 (w64 (Int.fdiv (IntKind.wrap .u64 (w64 (x8+x9))) 2))),(50,Pr.bool (decide (x15<0)))] [Own.vec v5 ao x6 47] e C) ?_ ?_
      · rintro e C ⟨x15,h4l,hat5⟩
        refine W_at hat5 ?_
        unfold iw at h4l
        refine a5 h4l rfl (fun _ h4l=> ?_) (fun _ h4l=> ?_)
        · refine W_r (kMv rfl (kIn rfl rfl rfl (kAs rfl ?_)))
          exact⟨m4,Nat.lt_succ_self _,w64 ((w64 (Int.fdiv (IntKind.wrap .u64 (w64 (x8+x9))) 2))+1),x9,hn4 _ (Option.some.inj h4l).symm,atOk⟩
        refine W_r (kMv rfl (kAs rfl ?_))
        exact⟨m4,Nat.lt_succ_self _,x8,w64 (Int.fdiv (IntKind.wrap .u64 (w64 (x8+x9))) 2),hn4 _ (Option.some.inj h4l).symm,atOk⟩
      refine eo 11 hmx (by kernel_rfl) (by kernel_rfl) ?_
      refine lUn (hMv (out:=c3 Tryz.prog (en x4)) rfl) (lUn (hMvA rfl) (lUn (hMvA rfl) ?_))
      obtain⟨x13,hx13,h4l⟩:=ah h4l
      refine lUn (u1 0 (R:=ao) (l:=x6) Tryz.underlying27 Tryz.sizeOf47 hx13) ?_
      refine lUn (un (R:=ao) (R':=ao) (l:=x6) (a:=x13) (o:=0) 0 ty47 (Sub.refl _) (Nat.le_of_ble_eq_true rfl) hx13 rfl) ?_
      refine lUn (hMvA rfl) (lUn (hMvA rfl) ?_)
      obtain⟨x14,hx14,h4l⟩:=ah h4l
      refine lUn (u1 0 (R:=ao) (l:=x6) Tryz.underlying27 Tryz.sizeOf47 hx14) ?_
      refine lUn (un (R:=ao) (R':=ao) (l:=x6) (a:=x14) (o:=0) 0 ty47 (Sub.refl _) (Nat.le_of_ble_eq_true rfl) hx14 rfl) ?_
      obtain⟨x15,hx15,h4l⟩:=ah h4l
      refine lUn (qCallP (spec:=en x4) ⟨_,_,_,rfl,rfl,hx15⟩) ?_
      refine lUn (qInt rfl rfl rfl) ?_
      exact⟨x15,h4l,atOk⟩
    refine c6 ?_
    obtain rfl:=ho4 _ (Option.some.inj h4l).symm
    exact⟨x8,h,atOk⟩
  refine ax (a8 (W_rs (kMv rfl (kMv rfl (kIn rfl rfl rfl (kIn rfl rfl rfl ?_))))))
  refine a5 h rfl (fun _ h=> ?_) (fun _ h=> ?_)
  · refine W_rs (kMv rfl (kAs rfl (W_rs (kMv rfl (kAs rfl (a8 (az ?_)))))))
    obtain⟨z9l,hz9,h⟩:=ah h
    obtain⟨n9,hN9⟩:=bp hz9
    refine cq 4 (fun e C=>∃(x27:Int),iq R x2 x6 x27=some r/\At [(0,Pr.is v5),(2,Pr.i64 x2),(14,Pr.i64 x27)] [Own.vec v5 ao x6 47] e C) ?_ ?_
    · rintro e C ⟨x27,h,hat8⟩
      refine W_at hat8 ?_
      unfold iq at h
      refine a8 (W_rs (kMv rfl (kAs rfl (az ?_))))
      obtain⟨z7l,hz7,h⟩:=ah h
      obtain⟨n7,hN7⟩:=bp hz7
      refine cq 6 (fun e C=>∃(x37:List ApiUse),ir R x37=some r/\At [(0,Pr.is v5)] [Own.vec v5 ao x37 47] e C) ?_ ?_
      · rintro e C ⟨x37,h,hat6⟩
        refine W_at hat6 ?_
        unfold ir at h
        obtain rfl:=osj h
        exact bc ⟨.inl rfl,_,Pick.refl _,_,aa,rfl,rfl⟩
      refine c8 (fun m e C=>∃(x36:Int),∃(x37:List ApiUse),dj (fun s=>fp R x27 s.1 s.2) m (x36,x37)=some z7l/\At [(0,Pr.is v5),(14,Pr.i64 x27),(17,Pr.i64 x36)] [Own.vec v5 ao x37 47] e C) n7 ⟨x2,x6,hN7,⟨⟨aa,aa,aa,trivial⟩,Pick.refl _⟩⟩ ?_
      rintro m e C ⟨x36,x37,hN7,hatl7⟩
      refine W_at hatl7 ?_
      obtain⟨m7,w7l,rfl,h7l,hn7,ho7⟩:=bj hN7
      replace h7l:fp R x27 x36 x37=some w7l:=h7l
      unfold fp at h7l
      refine a8 (W_rs (kMv rfl (kMv rfl (kIn rfl rfl rfl ?_))))
      refine a5 h7l rfl (fun _ h7l=> ?_) (fun _ h7l=> ?_)
      · refine ax (a8 (az ?_))
        obtain⟨x41,hx41,h7l⟩:=ah h7l
        obtain⟨x42,hx42,h7l⟩:=ah h7l
        obtain⟨x43,hx43,h7l⟩:=ah h7l
        obtain⟨x44,hx44,h7l⟩:=ah h7l
        refine W_drawA [0,0,0,0,8,0,0,64,224,480,0,0,3072,7168,16355,32739,65535,131071] [[],[],[],[],[],[],[],[],[Own.vec v5 ao x37 47],[Own.vec v5 ao x37 47],[],[],[Own.vec v5 ao x37 47],[Own.vec v5 ao x37 47],[Own.vec v5 ao x37 47],[],[Own.vec v5 ao (List.set x37 (Int.toNat x36) x41) 47],[]] hmx (by kernel_rfl) (by kernel_rfl) (by kernel_rfl) rfl ?_
        refine aq0 0 1 (out:=Pr.is v5) rfl (fun C9=>eb) ?_
        refine aq0 1 3 (out:=Pr.i64 x36) rfl (fun C9=>eb) ?_
        refine aq0 2 7 (out:=Pr.is v5) rfl (fun C9=>eb) ?_
        refine aq0 3 15 (out:=Pr.i64 x36) rfl (fun C9=>eb) ?_
        refine aq0 4 31 (out:=Pr.i64 (w64 (x36 - 1))) rfl (fun C9=>qInt) ?_
        refine aq0 5 63 (out:=Pr.is v5) rfl (fun C9=>eb) ?_
        refine aq0 6 127 (out:=Pr.i64 x36) rfl (fun C9=>eb) ?_
        refine aq0 7 255 (out:=Pr.i64 (w64 (x36 - 1))) rfl (fun C9=>qInt) ?_
        refine aq1 8 511 0 (out:=sk v5 (Int.toNat (w64 (x36 - 1)) * (ao).size)) rfl rfl (fun C9 i9 h9=>(u1 i9 (R:=ao) (l:=x37) Tryz.underlying27 Tryz.sizeOf47 hx41 (hi:=h9))) ?_
        refine aq1 9 1023 0 (out:=(ao).val x41) rfl rfl (fun C9 i9 h9=>(un (R:=ao) (R':=ao) (l:=x37) (a:=x41) (o:=0) i9 ty47 (Sub.refl _) (Nat.le_of_ble_eq_true rfl) hx41 rfl (hi:=h9))) ?_
        refine aq0 10 2047 (out:=Pr.is v5) rfl (fun C9=>eb) ?_
        refine aq0 11 4095 (out:=Pr.i64 x36) rfl (fun C9=>eb) ?_
        refine aq1 12 8191 0 (out:=sk v5 (Int.toNat x36 * (ao).size)) rfl rfl (fun C9 i9 h9=>(u1 i9 (R:=ao) (l:=x37) Tryz.underlying27 Tryz.sizeOf47 hx42 (hi:=h9))) ?_
        refine aq1 13 16383 0 (out:=(ao).val x42) rfl rfl (fun C9 i9 h9=>(un (R:=ao) (R':=ao) (l:=x37) (a:=x42) (o:=0) i9 ty47 (Sub.refl _) (Nat.le_of_ble_eq_true rfl) hx42 rfl (hi:=h9))) ?_
        refine aq1 14 32767 0 (out:=sk v5 (Int.toNat x36 * (ao).size)) rfl rfl (fun C9 i9 h9=>(u1 i9 (R:=ao) (l:=x37) Tryz.underlying27 Tryz.sizeOf47 hx43 (hi:=h9))) ?_
        refine ae 15 65535 rfl (fun g9=> ?_)
        refine rStoreE (R:=ao) (R':=ao) (l:=x37) (a:=x43) (y:=x41) (o:=0) 0 Tryz.sizeOf47 (Upd.refl _) hx43 rfl ?_
        refine kh .any [] dm ?_
        refine aq1 16 131071 0 (out:=sk v5 (Int.toNat (w64 (x36 - 1)) * (ao).size)) rfl rfl (fun C9 i9 h9=>(u1 i9 (R:=ao) (l:=(List.set x37 (Int.toNat x36) x41)) Tryz.underlying27 Tryz.sizeOf47 hx44 (hi:=h9))) ?_
        refine ae 17 262143 rfl (fun g9=> ?_)
        refine rStoreE (R:=ao) (R':=ao) (l:=(List.set x37 (Int.toNat x36) x41)) (a:=x44) (y:=x42) (o:=0) 0 Tryz.sizeOf47 (Upd.refl _) hx44 rfl ?_
        refine kh .any [] dm ?_
        refine ar_end ?_
        refine W_r (kMv rfl (kIn rfl rfl rfl (kAs rfl ?_)))
        exact⟨m7,Nat.lt_succ_self _,w64 (x36 - 1),(List.set (List.set x37 (Int.toNat x36) x41) (Int.toNat (w64 (x36 - 1))) x42),hn7 _ (Option.some.inj h7l).symm,atOk⟩
      refine c6 ?_
      obtain rfl:=ho7 _ (Option.some.inj h7l).symm
      exact⟨x37,h,atOk⟩
    refine c8 (fun m e C=>∃(x27:Int),∃(x28:Int),dj (fun s=>fo R x6 x2 x4 s.1 s.2) m (x27,x28)=some z9l/\At [(0,Pr.is v5),(2,Pr.i64 x2),(4,c3 Tryz.prog (en x4)),(14,Pr.i64 x27),(15,Pr.i64 x28)] [Own.vec v5 ao x6 47] e C) n9 ⟨x1,x2,hN9,⟨⟨aa,aa,aa,aa,aa,trivial⟩,Pick.refl _⟩⟩ ?_
    rintro m e C ⟨x27,x28,hN9,hatl9⟩
    refine W_at hatl9 ?_
    obtain⟨m9,w9l,rfl,h9l,hn9,ho9⟩:=bj hN9
    replace h9l:fo R x6 x2 x4 x27 x28=some w9l:=h9l
    unfold fo at h9l
    refine a8 (W_rs (kMv rfl (kMv rfl (kIn rfl rfl rfl ?_))))
    refine a5 h9l rfl (fun _ h9l=> ?_) (fun _ h9l=> ?_)
    · refine ax (az (W_rs (kMv rfl (kMv rfl (kIn rfl rfl rfl (kUn (qConv Tryz.underlying3 Tryz.underlying192) ?_))))))
      refine kUn (qShr (k:= .u64) (c:=2) 1 (by decide)) ?_
      refine kUn (qConv Tryz.underlying192 Tryz.underlying3) ?_
      refine kAs rfl ?_
      refine bh (fun e C=>∃(x34:Int),ic R x27 x28 x34=some w9l/\At [(0,Pr.is v5),(2,Pr.i64 x2),(4,c3 Tryz.prog (en x4)),(14,Pr.i64 x27),(15,Pr.i64 x28),(16,Pr.i64 (w64 (Int.fdiv (IntKind.wrap .u64 (w64 (x27+x28))) 2))),(103,Pr.bool (!(decide (x34<0))))] [Own.vec v5 ao x6 47] e C) ?_ ?_
      · rintro e C ⟨x34,h9l,hat10⟩
        refine W_at hat10 ?_
        unfold ic at h9l
        refine a5 h9l rfl (fun _ h9l=> ?_) (fun _ h9l=> ?_)
        · refine W_r (kMv rfl (kIn rfl rfl rfl (kAs rfl ?_)))
          exact⟨m9,Nat.lt_succ_self _,w64 ((w64 (Int.fdiv (IntKind.wrap .u64 (w64 (x27+x28))) 2))+1),x28,hn9 _ (Option.some.inj h9l).symm,atOk⟩
        refine W_r (kMv rfl (kAs rfl ?_))
        exact⟨m9,Nat.lt_succ_self _,x27,w64 (Int.fdiv (IntKind.wrap .u64 (w64 (x27+x28))) 2),hn9 _ (Option.some.inj h9l).symm,atOk⟩
      refine eo 12 hmx (by kernel_rfl) (by kernel_rfl) ?_
      refine lUn (hMv (out:=c3 Tryz.prog (en x4)) rfl) (lUn (hMvA rfl) (lUn (hMvA rfl) ?_))
      obtain⟨x32,hx32,h9l⟩:=ah h9l
      refine lUn (u1 0 (R:=ao) (l:=x6) Tryz.underlying27 Tryz.sizeOf47 hx32) ?_
      refine lUn (un (R:=ao) (R':=ao) (l:=x6) (a:=x32) (o:=0) 0 ty47 (Sub.refl _) (Nat.le_of_ble_eq_true rfl) hx32 rfl) ?_
      refine lUn (hMvA rfl) (lUn (hMvA rfl) ?_)
      obtain⟨x33,hx33,h9l⟩:=ah h9l
      refine lUn (u1 0 (R:=ao) (l:=x6) Tryz.underlying27 Tryz.sizeOf47 hx33) ?_
      refine lUn (un (R:=ao) (R':=ao) (l:=x6) (a:=x33) (o:=0) 0 ty47 (Sub.refl _) (Nat.le_of_ble_eq_true rfl) hx33 rfl) ?_
      obtain⟨x34,hx34,h9l⟩:=ah h9l
      refine lUn (qCallP (spec:=en x4) ⟨_,_,_,rfl,rfl,hx34⟩) ?_
      refine lUn (qInt rfl rfl rfl) (lUn (qNot rfl) ?_)
      exact⟨x34,h9l,atOk⟩
    refine c6 ?_
    obtain rfl:=ho9 _ (Option.some.inj h9l).symm
    exact⟨x27,h,atOk⟩
  refine ax (W_rs (kMv rfl (kMv rfl (kIn rfl rfl rfl (kUn (qConv Tryz.underlying3 Tryz.underlying192) ?_)))))
  refine kUn (qShr (k:= .u64) (c:=2) 1 (by decide)) ?_
  refine kUn (qConv Tryz.underlying192 Tryz.underlying3) ?_
  refine kAs rfl (W_rs (kMv rfl (kMv rfl (kIn rfl rfl rfl (kAs rfl (W_rs (kAs rfl (kAs rfl ?_))))))))
  refine bh (fun e C=>∃(x46:Int),∃(x47:Int),ez R x6 x1 x3 x2 x4 x46 x47=some r/\At [(0,Pr.is v5),(1,Pr.i64 x1),(2,Pr.i64 x2),(3,Pr.i64 x3),(4,c3 Tryz.prog (en x4)),(18,Pr.i64 (w64 (Int.fdiv (IntKind.wrap .u64 (w64 (x1+x3))) 2))),(19,Pr.i64 (w64 ((w64 (Int.fdiv (IntKind.wrap .u64 (w64 (x1+x3))) 2))+x2))),(20,Pr.i64 x46),(21,Pr.i64 x47)] [Own.vec v5 ao x6 47] e C) ?_ ?_
  · rintro e C ⟨x46,x47,h,hat19⟩
    refine W_at hat19 ?_
    unfold ez at h
    refine W_rs (kMv rfl (kIn rfl rfl rfl (kAs rfl (a8 (az ?_)))))
    obtain⟨z17l,hz17,h⟩:=ah h
    obtain⟨n17,hN17⟩:=bp hz17
    refine cq 8 (fun e C=>∃(x48:Int),ia R x2 x1 x3 x4 x6 x48=some r/\At [(0,Pr.is v5),(1,Pr.i64 x1),(2,Pr.i64 x2),(3,Pr.i64 x3),(4,c3 Tryz.prog (en x4)),(18,Pr.i64 (w64 (Int.fdiv (IntKind.wrap .u64 (w64 (x1+x3))) 2))),(19,Pr.i64 (w64 ((w64 (Int.fdiv (IntKind.wrap .u64 (w64 (x1+x3))) 2))+x2))),(20,Pr.i64 x48)] [Own.vec v5 ao x6 47] e C) ?_ ?_
    · rintro e C ⟨x48,h,hat16⟩
      refine W_at hat16 ?_
      unfold ia at h
      refine W_rs (kMv rfl (kMv rfl (kIn rfl rfl rfl (kAs rfl ?_))))
      refine bh (fun e C=>∃(x61:List ApiUse),fb R x1 x48 x3 x4 x2 x61=some r/\At [(0,Pr.is v5),(1,Pr.i64 x1),(3,Pr.i64 x3),(4,c3 Tryz.prog (en x4)),(18,Pr.i64 (w64 (Int.fdiv (IntKind.wrap .u64 (w64 (x1+x3))) 2))),(20,Pr.i64 x48),(24,Pr.i64 (w64 ((w64 ((w64 (Int.fdiv (IntKind.wrap .u64 (w64 (x1+x3))) 2))+x2)) - x48)))] [Own.vec v5 ao x61 47] e C) ?_ ?_
      · rintro e C ⟨x61,h,hat14⟩
        refine W_at hat14 ?_
        unfold fb at h
        refine bh (fun e C=>∃(x66:List ApiUse),fe R x1 x3 x2 x48 x4 x66=some r/\At [(0,Pr.is v5),(3,Pr.i64 x3),(4,c3 Tryz.prog (en x4)),(18,Pr.i64 (w64 (Int.fdiv (IntKind.wrap .u64 (w64 (x1+x3))) 2))),(24,Pr.i64 (w64 ((w64 ((w64 (Int.fdiv (IntKind.wrap .u64 (w64 (x1+x3))) 2))+x2)) - x48)))] [Own.vec v5 ao x66 47] e C) ?_ ?_
        · rintro e C ⟨x66,h,hat12⟩
          refine W_at hat12 ?_
          unfold fe at h
          refine bh (fun e C=>∃(x68:Bool),fg R x1 x3 x2 x48 x4 x66 x68=some r/\At [(0,Pr.is v5),(3,Pr.i64 x3),(4,c3 Tryz.prog (en x4)),(18,Pr.i64 (w64 (Int.fdiv (IntKind.wrap .u64 (w64 (x1+x3))) 2))),(24,Pr.i64 (w64 ((w64 ((w64 (Int.fdiv (IntKind.wrap .u64 (w64 (x1+x3))) 2))+x2)) - x48))),(213,Pr.bool x68)] [Own.vec v5 ao x66 47] e C) ?_ ?_
          · rintro e C ⟨x68,h,hat11⟩
            refine W_at hat11 ?_
            unfold fg at h
            refine a5 h rfl (fun _ h=> ?_) (fun _ h=> ?_)
            · refine W_r (kMv rfl (kMv rfl (kMv rfl (kMv rfl (kUn (hMv (out:=c3 Tryz.prog (en x4)) rfl) ?_)))))
              obtain⟨x70,hx70,h⟩:=ah h
              refine kg [0] (ih (w64 (Int.fdiv (IntKind.wrap .u64 (w64 (x1+x3))) 2)) (w64 ((w64 ((w64 (Int.fdiv (IntKind.wrap .u64 (w64 (x1+x3))) 2))+x2)) - x48)) x3 x4 x66 v5 _ hx70) (fun q C' hq=> ?_)
              obtain⟨rfl,rfl⟩:=hq
              obtain rfl:=osj h
              exact⟨.inr rfl,_,Pick.refl _,_,aa,rfl,rfl⟩
            refine ax ?_
            obtain rfl:=osj h
            exact⟨.inr rfl,_,Pick.refl _,_,aa,rfl,rfl⟩
          refine W_r (kMv rfl (kMv rfl (kIn rfl rfl rfl (kMv rfl ?_))))
          rcases bo h with⟨hc67,h⟩|⟨hc67,h⟩
          · refine kGd rfl aa hc67 (hMvA rfl) (kGd rfl aa hc67 (hMvA rfl) (kGd rfl aa hc67 (qInt rfl rfl rfl) (kPt rfl hc67 rfl ?_)))
            exact⟨decide ((w64 ((w64 ((w64 (Int.fdiv (IntKind.wrap .u64 (w64 (x1+x3))) 2))+x2)) - x48))<x3),h,atOk⟩
          refine kSkT rfl aa hc67 (kSkT rfl aa hc67 (kSkT rfl aa hc67 (kPf rfl hc67 rfl ?_)))
          exact⟨false,h,atOk⟩
        refine bh (fun e C=>∃(x63:Bool),fc R x1 x48 x3 x4 x61 x2 x63=some r/\At [(0,Pr.is v5),(1,Pr.i64 x1),(3,Pr.i64 x3),(4,c3 Tryz.prog (en x4)),(18,Pr.i64 (w64 (Int.fdiv (IntKind.wrap .u64 (w64 (x1+x3))) 2))),(20,Pr.i64 x48),(24,Pr.i64 (w64 ((w64 ((w64 (Int.fdiv (IntKind.wrap .u64 (w64 (x1+x3))) 2))+x2)) - x48))),(199,Pr.bool x63)] [Own.vec v5 ao x61 47] e C) ?_ ?_
        · rintro e C ⟨x63,h,hat13⟩
          refine W_at hat13 ?_
          unfold fc at h
          refine a5 h rfl (fun _ h=> ?_) (fun _ h=> ?_)
          · refine W_r (kMv rfl (kMv rfl (kMv rfl (kMv rfl (kUn (hMv (out:=c3 Tryz.prog (en x4)) rfl) ?_)))))
            obtain⟨x65,hx65,h⟩:=ah h
            refine kg [0] (ih x1 x48 (w64 (Int.fdiv (IntKind.wrap .u64 (w64 (x1+x3))) 2)) x4 x61 v5 _ hx65) (fun q C' hq=> ?_)
            obtain⟨rfl,rfl⟩:=hq
            exact⟨x65,h,atOk⟩
          refine ax ?_
          exact⟨x61,h,atOk⟩
        refine W_r (kMv rfl (kMv rfl (kIn rfl rfl rfl (kMv rfl ?_))))
        rcases bo h with⟨hc62,h⟩|⟨hc62,h⟩
        · refine kGd rfl aa hc62 (hMvA rfl) (kGd rfl aa hc62 (hMvA rfl) (kGd rfl aa hc62 (qInt rfl rfl rfl) (kPt rfl hc62 rfl ?_)))
          exact⟨decide (x48<(w64 (Int.fdiv (IntKind.wrap .u64 (w64 (x1+x3))) 2))),h,atOk⟩
        refine kSkT rfl aa hc62 (kSkT rfl aa hc62 (kSkT rfl aa hc62 (kPf rfl hc62 rfl ?_)))
        exact⟨false,h,atOk⟩
      refine bh (fun e C=>∃(x58:Bool),e8 R x48 x2 x1 x3 x4 x6 x58=some r/\At [(0,Pr.is v5),(1,Pr.i64 x1),(2,Pr.i64 x2),(3,Pr.i64 x3),(4,c3 Tryz.prog (en x4)),(18,Pr.i64 (w64 (Int.fdiv (IntKind.wrap .u64 (w64 (x1+x3))) 2))),(20,Pr.i64 x48),(24,Pr.i64 (w64 ((w64 ((w64 (Int.fdiv (IntKind.wrap .u64 (w64 (x1+x3))) 2))+x2)) - x48))),(185,Pr.bool x58)] [Own.vec v5 ao x6 47] e C) ?_ ?_
      · rintro e C ⟨x58,h,hat15⟩
        refine W_at hat15 ?_
        unfold e8 at h
        refine a5 h rfl (fun _ h=> ?_) (fun _ h=> ?_)
        · refine W_r (kMv rfl (kMv rfl (kMv rfl (kMv rfl (kUn (hMv (out:=c3 Tryz.prog (en x4)) rfl) ?_)))))
          obtain⟨x60,hx60,h⟩:=ah h
          refine kg [0] (slices_rotateCmpFunc_api_Use_ok x48 x2 (w64 ((w64 ((w64 (Int.fdiv (IntKind.wrap .u64 (w64 (x1+x3))) 2))+x2)) - x48)) x4 x6 v5 _ hx60) (fun q C' hq=> ?_)
          obtain⟨rfl,rfl⟩:=hq
          exact⟨x60,h,atOk⟩
        refine ax ?_
        exact⟨x6,h,atOk⟩
      refine W_r (kMv rfl (kMv rfl (kIn rfl rfl rfl (kMv rfl ?_))))
      rcases bo h with⟨hc57,h⟩|⟨hc57,h⟩
      · refine kGd rfl aa hc57 (hMvA rfl) (kGd rfl aa hc57 (hMvA rfl) (kGd rfl aa hc57 (qInt rfl rfl rfl) (kPt rfl hc57 rfl ?_)))
        exact⟨decide (x2<(w64 ((w64 ((w64 (Int.fdiv (IntKind.wrap .u64 (w64 (x1+x3))) 2))+x2)) - x48))),h,atOk⟩
      refine kSkT rfl aa hc57 (kSkT rfl aa hc57 (kSkT rfl aa hc57 (kPf rfl hc57 rfl ?_)))
      exact⟨false,h,atOk⟩
    refine c8 (fun m e C=>∃(x48:Int),∃(x49:Int),dj (fun s=>ew R x6 x1 x3 x2 x4 s.1 s.2) m (x48,x49)=some z17l/\At [(0,Pr.is v5),(1,Pr.i64 x1),(2,Pr.i64 x2),(3,Pr.i64 x3),(4,c3 Tryz.prog (en x4)),(18,Pr.i64 (w64 (Int.fdiv (IntKind.wrap .u64 (w64 (x1+x3))) 2))),(19,Pr.i64 (w64 ((w64 (Int.fdiv (IntKind.wrap .u64 (w64 (x1+x3))) 2))+x2))),(20,Pr.i64 x48),(21,Pr.i64 x49),(22,Pr.i64 (w64 ((w64 ((w64 (Int.fdiv (IntKind.wrap .u64 (w64 (x1+x3))) 2))+x2)) - 1)))] [Own.vec v5 ao x6 47] e C) n17 ⟨x46,x47,hN17,⟨⟨aa,aa,aa,aa,aa,aa,aa,aa,aa,aa,trivial⟩,Pick.refl _⟩⟩ ?_
    rintro m e C ⟨x48,x49,hN17,hatl17⟩
    refine W_at hatl17 ?_
    obtain⟨m17,w17l,rfl,h17l,hn17,ho17⟩:=bj hN17
    replace h17l:ew R x6 x1 x3 x2 x4 x48 x49=some w17l:=h17l
    unfold ew at h17l
    refine a8 (W_rs (kMv rfl (kMv rfl (kIn rfl rfl rfl ?_))))
    refine a5 h17l rfl (fun _ h17l=> ?_) (fun _ h17l=> ?_)
    · refine ax (az (W_rs (kMv rfl (kMv rfl (kIn rfl rfl rfl (kUn (qConv Tryz.underlying3 Tryz.underlying192) ?_))))))
      refine kUn (qShr (k:= .u64) (c:=2) 1 (by decide)) ?_
      refine kUn (qConv Tryz.underlying192 Tryz.underlying3) ?_
      refine kAs rfl ?_
      refine bh (fun e C=>∃(x55:Int),ib R x48 x49 x55=some w17l/\At [(0,Pr.is v5),(1,Pr.i64 x1),(2,Pr.i64 x2),(3,Pr.i64 x3),(4,c3 Tryz.prog (en x4)),(18,Pr.i64 (w64 (Int.fdiv (IntKind.wrap .u64 (w64 (x1+x3))) 2))),(19,Pr.i64 (w64 ((w64 (Int.fdiv (IntKind.wrap .u64 (w64 (x1+x3))) 2))+x2))),(20,Pr.i64 x48),(21,Pr.i64 x49),(22,Pr.i64 (w64 ((w64 ((w64 (Int.fdiv (IntKind.wrap .u64 (w64 (x1+x3))) 2))+x2)) - 1))),(23,Pr.i64 (w64 (Int.fdiv (IntKind.wrap .u64 (w64 (x48+x49))) 2))),(171,Pr.bool (!(decide (x55<0))))] [Own.vec v5 ao x6 47] e C) ?_ ?_
      · rintro e C ⟨x55,h17l,hat18⟩
        refine W_at hat18 ?_
        unfold ib at h17l
        refine a5 h17l rfl (fun _ h17l=> ?_) (fun _ h17l=> ?_)
        · refine W_r (kMv rfl (kIn rfl rfl rfl (kAs rfl ?_)))
          exact⟨m17,Nat.lt_succ_self _,w64 ((w64 (Int.fdiv (IntKind.wrap .u64 (w64 (x48+x49))) 2))+1),x49,hn17 _ (Option.some.inj h17l).symm,atOk⟩
        refine W_r (kMv rfl (kAs rfl ?_))
        exact⟨m17,Nat.lt_succ_self _,x48,w64 (Int.fdiv (IntKind.wrap .u64 (w64 (x48+x49))) 2),hn17 _ (Option.some.inj h17l).symm,atOk⟩
      refine eo 14 hmx (by kernel_rfl) (by kernel_rfl) ?_
      refine lUn (hMv (out:=c3 Tryz.prog (en x4)) rfl) (lUn (hMvA rfl) (lUn (hMvA rfl) (lUn (hMvA rfl) (lUn (qInt rfl rfl rfl) ?_))))
      obtain⟨x53,hx53,h17l⟩:=ah h17l
      refine lUn (u1 0 (R:=ao) (l:=x6) Tryz.underlying27 Tryz.sizeOf47 hx53) ?_
      refine lUn (un (R:=ao) (R':=ao) (l:=x6) (a:=x53) (o:=0) 0 ty47 (Sub.refl _) (Nat.le_of_ble_eq_true rfl) hx53 rfl) ?_
      refine lUn (hMvA rfl) (lUn (hMvA rfl) ?_)
      obtain⟨x54,hx54,h17l⟩:=ah h17l
      refine lUn (u1 0 (R:=ao) (l:=x6) Tryz.underlying27 Tryz.sizeOf47 hx54) ?_
      refine lUn (un (R:=ao) (R':=ao) (l:=x6) (a:=x54) (o:=0) 0 ty47 (Sub.refl _) (Nat.le_of_ble_eq_true rfl) hx54 rfl) ?_
      obtain⟨x55,hx55,h17l⟩:=ah h17l
      refine lUn (qCallP (spec:=en x4) ⟨_,_,_,rfl,rfl,hx55⟩) ?_
      refine lUn (qInt rfl rfl rfl) (lUn (qNot rfl) ?_)
      exact⟨x55,h17l,atOk⟩
    refine c6 ?_
    obtain rfl:=ho17 _ (Option.some.inj h17l).symm
    exact⟨x48,h,atOk⟩
  refine W_rs (kMv rfl (kMv rfl (kIn rfl rfl rfl ?_)))
  refine a5 h rfl (fun _ h=> ?_) (fun _ h=> ?_)
  · refine W_rs (kMv rfl (kMv rfl (kIn rfl rfl rfl (kAs rfl (W_r (kMv rfl (kAs rfl ?_)))))))
    exact⟨w64 ((w64 ((w64 (Int.fdiv (IntKind.wrap .u64 (w64 (x1+x3))) 2))+x2)) - x3),w64 (Int.fdiv (IntKind.wrap .u64 (w64 (x1+x3))) 2),h,atOk⟩
  refine W_rs (kMv rfl (kAs rfl (W_r (kMv rfl (kAs rfl ?_)))))
  exact⟨x1,x2,h,atOk⟩
theorem sh :∀n,ji (gk n):=by
 intro n
 induction n with
 |zero=>exact(fun x1 x2 x3 x4 x6 v5 r h=>nomatch (show none=some r from h))
 |succ n ih=>exact(fun x1 x2 x3 x4 x6 v5 r h=>si (gk n) ih x1 x2 x3 x4 x6 v5 r h)
theorem l6 (x1 x2 x3:Int) (x4:(ApiUse->ApiUse->Option Int)) (x6:List ApiUse) (v5:Value) (r:(List ApiUse)) (h:jh x1 x2 x3 x4 x6=some r):FnC Tryz.prog 130 [Pr.is v5,Pr.i64 x1,Pr.i64 x2,Pr.i64 x3,c3 Tryz.prog (en x4)] [Own.vec v5 ao x6 47] (fun q C'=>q=bk []/\C'=[Own.vec v5 ao r 47]):=(sh 1048576) x1 x2 x3 x4 x6 v5 r h
theorem slices_stableCmpFunc_api_Use_ok (x1:Int) (x2:(ApiUse->ApiUse->Option Int)) (x4:List ApiUse) (v3:Value) (r:(List ApiUse)) (h:j8 x1 x2 x4=some r):FnC Tryz.prog 78 [Pr.is v3,Pr.i64 x1,c3 Tryz.prog (en x2)] [Own.vec v3 ao x4 47] (fun q C'=>q=bk []/\C'=[Own.vec v3 ao r 47]):=by
 refine fi (rs:=[]) Tryz.func78 rfl Tryz.ntmps78 ⟨by decide,Tryz.results78⟩ (by decide) (fun s0=> ?_)
 unfold j8 at h
 refine W_rs (kAs rfl (W_rs (kMv rfl (kAs rfl (kAs rfl (a8 (az ?_)))))))
 obtain⟨z7l,hz7,h⟩:=ah h
 obtain⟨n7,hN7⟩:=bp hz7
 refine cq 0 (fun e C=>∃(x5:Int),∃(x7:List ApiUse),ja x1 x2 x5 x7=some r/\At [(0,Pr.is v3),(1,Pr.i64 x1),(2,c3 Tryz.prog (en x2)),(6,Pr.i64 20),(7,Pr.i64 x5)] [Own.vec v3 ao x7 47] e C) ?_ ?_
 ·rintro e C ⟨x5,x7,h,hat6⟩
  refine W_at hat6 ?_
  unfold ja at h
  refine W_rs (kMv rfl (kMv rfl (kMv rfl (kUn (hMv (out:=c3 Tryz.prog (en x2)) rfl) ?_))))
  obtain⟨x13,hx13,h⟩:=ah h
  refine kg [0] (js x5 x1 x2 x7 v3 _ hx13) (fun q C' hq=> ?_)
  obtain⟨rfl,rfl⟩:=hq
  refine az ?_
  obtain⟨z2l,hz2,h⟩:=ah h
  obtain⟨n2,hN2⟩:=bp hz2
  refine cq 2 (fun e C=>∃(x15:List ApiUse),jc x15=some r/\At [(0,Pr.is v3)] [Own.vec v3 ao x15 47] e C) ?_ ?_
  ·rintro e C ⟨x15,h,hat1⟩
   unfold jc at h
   obtain rfl:=osj h
   exact⟨.inr rfl,_,(Pick.trans hat1.2 (Pick.refl _)),_,aa,rfl,rfl⟩
  refine c8 (fun m e C=>∃(x14:Int),∃(x15:List ApiUse),dj (fun s=>ga x1 x2 s.1 s.2) m (x14,x15)=some z2l/\At [(0,Pr.is v3),(1,Pr.i64 x1),(2,c3 Tryz.prog (en x2)),(6,Pr.i64 x14)] [Own.vec v3 ao x15 47] e C) n2 ⟨20,x13,hN2,⟨⟨aa,aa,aa,aa,trivial⟩,Pick.refl _⟩⟩ ?_
  rintro m e C ⟨x14,x15,hN2,hatl2⟩
  refine W_at hatl2 ?_
  obtain⟨m2,w2l,rfl,h2l,hn2,ho2⟩:=bj hN2
  replace h2l:ga x1 x2 x14 x15=some w2l:=h2l
  unfold ga at h2l
  refine a8 (W_rs (kMv rfl (kMv rfl (kIn rfl rfl rfl ?_))))
  refine a5 h2l rfl (fun _ h2l=> ?_) (fun _ h2l=> ?_)
  ·refine ax (az (W_rs (kMv rfl (kIn rfl rfl rfl (kAs rfl (kAs rfl (a8 (az ?_))))))))
   obtain⟨z5l,hz5,h2l⟩:=ah h2l
   obtain⟨n5,hN5⟩:=bp hz5
   refine cq 4 (fun e C=>∃(x19:Int),∃(x21:List ApiUse),jb x14 x1 x2 x19 x21=some w2l/\At [(0,Pr.is v3),(1,Pr.i64 x1),(2,c3 Tryz.prog (en x2)),(6,Pr.i64 x14),(7,Pr.i64 x19)] [Own.vec v3 ao x21 47] e C) ?_ ?_
   ·rintro e C ⟨x19,x21,h2l,hat4⟩
    refine W_at hat4 ?_
    unfold jb at h2l
    refine bh (fun e C=>∃(x29:List ApiUse),gb x14 x29=some w2l/\At [(0,Pr.is v3),(1,Pr.i64 x1),(2,c3 Tryz.prog (en x2)),(6,Pr.i64 x14)] [Own.vec v3 ao x29 47] e C) ?_ ?_
    ·rintro e C ⟨x29,h2l,hat3⟩
     refine W_at hat3 ?_
     unfold gb at h2l
     refine W_r (kMv rfl (kIn rfl rfl rfl (kAs rfl ?_)))
     exact⟨m2,Nat.lt_succ_self _,w64 (x14 * 2),x29,hn2 _ (Option.some.inj h2l).symm,atOk⟩
    refine W_rs (kMv rfl (kMv rfl (kIn rfl rfl rfl (kAs rfl (W_rs (kMv rfl (kMv rfl (kIn rfl rfl rfl ?_))))))))
    refine a5 h2l rfl (fun _ h2l=> ?_) (fun _ h2l=> ?_)
    ·refine W_r (kMv rfl (kMv rfl (kMv rfl (kMv rfl (kUn (hMv (out:=c3 Tryz.prog (en x2)) rfl) ?_)))))
     obtain⟨x28,hx28,h2l⟩:=ah h2l
     refine kg [0] (l6 x19 (w64 (x19+x14)) x1 x2 x21 v3 _ hx28) (fun q C' hq=> ?_)
     obtain⟨rfl,rfl⟩:=hq
     exact⟨x28,h2l,atOk⟩
    refine ax ?_
    exact⟨x21,h2l,atOk⟩
   refine c8 (fun m e C=>∃(x19:Int),∃(x20:Int),∃(x21:List ApiUse),dj (fun s=>f8 x1 x14 x2 s.1 s.2.1 s.2.2) m (x19,x20,x21)=some z5l/\At [(0,Pr.is v3),(1,Pr.i64 x1),(2,c3 Tryz.prog (en x2)),(6,Pr.i64 x14),(7,Pr.i64 x19),(8,Pr.i64 x20)] [Own.vec v3 ao x21 47] e C) n5 ⟨0,w64 (2 * x14),x15,hN5,⟨⟨aa,aa,aa,aa,aa,aa,trivial⟩,Pick.refl _⟩⟩ ?_
   rintro m e C ⟨x19,x20,x21,hN5,hatl5⟩
   refine W_at hatl5 ?_
   obtain⟨m5,w5l,rfl,h5l,hn5,ho5⟩:=bj hN5
   replace h5l:f8 x1 x14 x2 x19 x20 x21=some w5l:=h5l
   unfold f8 at h5l
   refine a8 (W_rs (kMv rfl (kMv rfl (kIn rfl rfl rfl ?_))))
   refine a5 h5l rfl (fun _ h5l=> ?_) (fun _ h5l=> ?_)
   ·refine ax (az (W_rs (kMv rfl (kMv rfl (kMv rfl (kMv rfl (kIn rfl rfl rfl (kMv rfl (kUn (hMv (out:=c3 Tryz.prog (en x2)) rfl) ?_)))))))))
    obtain⟨x26,hx26,h5l⟩:=ah h5l
    refine kg [0] (l6 x19 (w64 (x19+x14)) x20 x2 x21 v3 _ hx26) (fun q C' hq=> ?_)
    obtain⟨rfl,rfl⟩:=hq
    refine W_rs (kMv rfl (kAs rfl (W_r (kMv rfl (kMv rfl (kIn rfl rfl rfl (kIn rfl rfl rfl (kAs rfl ?_))))))))
    exact⟨m5,Nat.lt_succ_self _,x20,w64 (x20+(w64 (2 * x14))),x26,hn5 _ (Option.some.inj h5l).symm,atOk⟩
   refine c6 ?_
   obtain rfl:=ho5 _ (Option.some.inj h5l).symm
   exact⟨x19,x21,h2l,atOk⟩
  refine c6 ?_
  obtain rfl:=ho2 _ (Option.some.inj h2l).symm
  exact⟨x15,h,atOk⟩
 refine c8 (fun m e C=>∃(x5:Int),∃(x6:Int),∃(x7:List ApiUse),dj (fun s=>f7 x1 x2 s.1 s.2.1 s.2.2) m (x5,x6,x7)=some z7l/\At [(0,Pr.is v3),(1,Pr.i64 x1),(2,c3 Tryz.prog (en x2)),(6,Pr.i64 20),(7,Pr.i64 x5),(8,Pr.i64 x6)] [Own.vec v3 ao x7 47] e C) n7 ⟨0,20,x4,hN7,⟨⟨aa,aa,aa,aa,aa,aa,trivial⟩,Pick.refl _⟩⟩ ?_
 rintro m e C ⟨x5,x6,x7,hN7,hatl7⟩
 refine W_at hatl7 ?_
 obtain⟨m7,w7l,rfl,h7l,hn7,ho7⟩:=bj hN7
 replace h7l:f7 x1 x2 x5 x6 x7=some w7l:=h7l
 unfold f7 at h7l
 refine a8 (W_rs (kMv rfl (kMv rfl (kIn rfl rfl rfl ?_))))
 refine a5 h7l rfl (fun _ h7l=> ?_) (fun _ h7l=> ?_)
 ·refine ax (az (W_rs (kMv rfl (kMv rfl (kMv rfl (kUn (hMv (out:=c3 Tryz.prog (en x2)) rfl) ?_))))))
  obtain⟨x12,hx12,h7l⟩:=ah h7l
  refine kg [0] (js x5 x6 x2 x7 v3 _ hx12) (fun q C' hq=> ?_)
  obtain⟨rfl,rfl⟩:=hq
  refine W_rs (kMv rfl (kAs rfl (W_r (kMv rfl (kMv rfl (kIn rfl rfl rfl (kAs rfl ?_)))))))
  exact⟨m7,Nat.lt_succ_self _,x6,w64 (x6+20),x12,hn7 _ (Option.some.inj h7l).symm,atOk⟩
 refine c6 ?_
 obtain rfl:=ho7 _ (Option.some.inj h7l).symm
 exact⟨x5,x7,h,atOk⟩
theorem qk (x1:(ApiUse->ApiUse->Option Int)) (x3:List ApiUse) (v2:Value) (r:(List ApiUse)) (h:gi x1 x3=some r):FnC Tryz.prog 38 [Pr.is v2,c3 Tryz.prog (en x1)] [Own.vec v2 ao x3 47] (fun q C'=>q=bk []/\C'=[Own.vec v2 ao r 47]):=by
 refine fi (rs:=[]) Tryz.func38 rfl Tryz.ntmps38 ⟨by decide,Tryz.results38⟩ (by decide) (fun s0=> ?_)
 unfold gi at h
 refine W_r (kMv rfl (kMv rfl (kUn (qLenV 0 rfl Tryz.underlying27) ?_)))
 refine kUn (hMv (out:=c3 Tryz.prog (en x1)) rfl) ?_
 obtain⟨x4,hx4,h⟩:=ah h
 refine kg [0] (slices_stableCmpFunc_api_Use_ok (x3.length:Int) x1 x3 v2 _ hx4) (fun q C' hq=> ?_)
 obtain⟨rfl,rfl⟩:=hq
 obtain rfl:=osj h
 exact⟨.inr rfl,_,Pick.refl _,_,aa,rfl,rfl⟩
end Go.Proofs.YtcndghapmoaidaaGreatDoor
