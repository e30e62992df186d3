/- The code comes to what these functions say (printed by wip/gen/gen.py). -/
import Derived.Test.YtcndghapmoaidaaGreatDoorZX
import Derived.Test.YtcndghapmoaidaaGreatDoorZP2
import Derived.Test.YtcndghapmoaidaaGreatDoorZT
set_option linter.unusedSimpArgs false
set_option linter.unusedVariables false
set_option linter.unusedSectionVars false
set_option linter.unusedSectionVars false
set_option maxRecDepth 100000
set_option maxHeartbeats 4000000
namespace Go.Proofs.YtcndghapmoaidaaGreatDoor
open Go Go.Cn
attribute [local irreducible] eg ar
theorem bind_Scope_made_ok (x1:BindScope) (x2:ApiNode) (r:ApiEntity × Int) (h:bind_Scope_made x1 x2=some r):FnP Tryz.prog 67 [(al).val x1,(af).val x2] (br [(ag).val r.1,Pr.i64 r.2]):=by
 refine c7 (rs:=[.cell 4 49,.tmp 5]) Tryz.func67 rfl Tryz.ntmps67 Tryz.results67 (by decide) (fun s0=> ?_)
 unfold bind_Scope_made at h
 refine W_rs ?_
 refine rBox (R:=al) (a:=x1) rfl (fun b3=> ?_)
 refine rBox (R:=af) (a:=x2) rfl (fun b4=> ?_)
 refine bw kh fun b5=>kAs rfl ?_
 refine bj (fun e C=>∃(x9:Int),∃(x8:ApiEntity),bind_Scope_made_j1 x9 x8=some r/\At [(4,ao b5 0),(5,Pr.i64 x9)] [Own.box b3 al x1,Own.box b4 af x2,Own.box b5 ag x8] e C) ?_ ?_
 ·rintro e C ⟨x9,x8,h,hat1⟩
  refine W_at hat1 ?_
  unfold bind_Scope_made_j1 at h
  obtain rfl:=osj h
  exact bh ⟨rfl,[(ag).val x8,Pr.i64 x9],⟨yBox 2 ty49 aa,yT aa,trivial⟩,aa⟩
 refine e7 10 hmx (by kernel_rfl) (by kernel_rfl) ?_
 refine lUn (au 0 ty66 (Sub.refl _)) ?_
 refine lUn (au 0 ty66 (Sub.refl _)) ?_
 refine lUn (ak ej) ?_
 refine lUn (au 1 ty9 cd) ?_
 obtain⟨⟨x6,x7⟩,hx6,h⟩:=aj h
 refine lUn (c5 (nh x1 x2.Text _ hx6)) ?_
 refine lUn aw ?_
 refine lUn aw ?_
 obtain⟨⟨x8,x9⟩,hx8,h⟩:=aj h
 refine lUn (c5 (bind_Scope_own2_ok x1 x6 x7 _ hx8)) ?_
 refine lUn aw ?_
 refine lUn aw ?_
 refine ax 2 rfl rfl (Upd.refl _) rfl Tryz.sizeOf49 (kAs rfl ?_)
 exact⟨x9,x8,h,atOk⟩
def er (R:bx):Prop:=(∀(x1:BindScope) (x2:ApiNode) (r:ApiEntity × Int),R.1 x1 x2=some r->FnP Tryz.prog 32 [(al).val x1,(af).val x2] (br [(ag).val r.1,Pr.i64 r.2]))/\(∀(x1:BindScope) (x2:ApiNode) (r:(List UInt8)),R.2.1 x1 x2=some r->FnP Tryz.prog 33 [(al).val x1,(af).val x2] (bq r))/\(∀(x1:BindScope) (x2:ApiNode) (r:ApiEntity × Int),R.2.2.1 x1 x2=some r->FnP Tryz.prog 68 [(al).val x1,(af).val x2] (br [(ag).val r.1,Pr.i64 r.2]))/\(∀(x1:BindScope) (x2:ApiNode) (r:ApiEntity × Int),R.2.2.2.1 x1 x2=some r->FnP Tryz.prog 69 [(al).val x1,(af).val x2] (br [(ag).val r.1,Pr.i64 r.2]))/\(∀(x1:BindScope) (x2:ApiNode) (x3:((List ApiEntity)->(List UInt8)->(List UInt8)->Option (ApiEntity × Bool))) (r:ApiEntity × Int),R.2.2.2.2 x1 x2 x3=some r->FnP Tryz.prog 118 [(al).val x1,(af).val x2,dc Tryz.prog (spec185 x3)] (br [(ag).val r.1,Pr.i64 r.2]))
theorem F_bind_Scope_Entity_step (R:bx) (ih:er R) (x1:BindScope) (x2:ApiNode) (r:ApiEntity × Int) (h:rp R x1 x2=some r):FnP Tryz.prog 32 [(al).val x1,(af).val x2] (br [(ag).val r.1,Pr.i64 r.2]):=by
 refine c7 (rs:=[.cell 4 49,.tmp 5]) Tryz.func32 rfl Tryz.ntmps32 Tryz.results32 (by decide) (fun s0=> ?_)
 unfold rp at h
 refine W_rs ?_
 refine rBox (R:=al) (a:=x1) rfl (fun b3=> ?_)
 refine rBox (R:=af) (a:=x2) rfl (fun b4=> ?_)
 refine bw kh fun b5=>kAs rfl (W_rs ?_)
 refine rMakeMapG (Rp.int .i64) (Rp.bd ((al).val x1)) (fun b6=> ?_)
 refine kUn (au 0 ty66 (Sub.refl _)) ?_
 refine kUn mc ?_
 refine ph (Rk:=Rp.int .i64) (R:=Rp.bd ((al).val x1)) (m:=([]:GMap Int (Option Nat))) (kx:=17) (v:=(some 65)) 3 (j4 Tryz.underlying3) Tryz.underlying114 ?_ (hu:=clo_bnd)
 refine kUn (au 0 ty66 (Sub.refl _)) ?_
 refine kUn mc ?_
 refine ph (Rk:=Rp.int .i64) (R:=Rp.bd ((al).val x1)) (m:=(gset 17 (some 65) ([]:GMap Int (Option Nat)))) (kx:=19) (v:=(some 66)) 3 (j4 Tryz.underlying3) Tryz.underlying114 ?_ (hu:=clo_bnd)
 refine kUn (au 0 ty66 (Sub.refl _)) ?_
 refine kUn mc ?_
 refine ph (Rk:=Rp.int .i64) (R:=Rp.bd ((al).val x1)) (m:=(gset 19 (some 66) (gset 17 (some 65) ([]:GMap Int (Option Nat))))) (kx:=21) (v:=(some 67)) 3 (j4 Tryz.underlying3) Tryz.underlying114 ?_ (hu:=clo_bnd)
 refine kUn (au 0 ty66 (Sub.refl _)) ?_
 refine kUn mc ?_
 refine ph (Rk:=Rp.int .i64) (R:=Rp.bd ((al).val x1)) (m:=(gset 21 (some 67) (gset 19 (some 66) (gset 17 (some 65) ([]:GMap Int (Option Nat)))))) (kx:=18) (v:=(some 68)) 3 (j4 Tryz.underlying3) Tryz.underlying114 ?_ (hu:=clo_bnd)
 refine kUn (au 0 ty66 (Sub.refl _)) ?_
 refine kUn mc ?_
 refine ph (Rk:=Rp.int .i64) (R:=Rp.bd ((al).val x1)) (m:=(gset 18 (some 68) (gset 21 (some 67) (gset 19 (some 66) (gset 17 (some 65) ([]:GMap Int (Option Nat))))))) (kx:=20) (v:=(some 69)) 3 (j4 Tryz.underlying3) Tryz.underlying114 ?_ (hu:=clo_bnd)
 refine kUn (hMv (out:=lg b6) rfl) (kUn (ak dx) ?_)
 refine kUn (au 1 ty3 bo) ?_
 refine kUn (qMapGetG2 (Rk:=Rp.int .i64) (R:=Rp.bd ((al).val x1)) (m:=(gset 20 (some 69) (gset 18 (some 68) (gset 21 (some 67) (gset 19 (some 66) (gset 17 (some 65) ([]:GMap Int (Option Nat)))))))) (kx:=x2.Kind) (z:=none) 3 (j4 Tryz.underlying3) Tryz.underlying114 Tryz.zeroValue68 (fun _=>rfl)) ?_
 refine kUn (hMv (out:=br [(Rp.bd ((al).val x1)).val (gget x2.Kind none (gset 20 (some 69) (gset 18 (some 68) (gset 21 (some 67) (gset 19 (some 66) (gset 17 (some 65) ([]:GMap Int (Option Nat)))))))),Pr.bool (ghas x2.Kind (gset 20 (some 69) (gset 18 (some 68) (gset 21 (some 67) (gset 19 (some 66) (gset 17 (some 65) ([]:GMap Int (Option Nat))))))))]) rfl) (kUn aw ?_)
 refine kUn aw ?_
 refine kUn (hAs (out:=(Rp.bd ((al).val x1)).val (gget x2.Kind none (gset 20 (some 69) (gset 18 (some 68) (gset 21 (some 67) (gset 19 (some 66) (gset 17 (some 65) ([]:GMap Int (Option Nat))))))))) rfl) (kAs rfl (ba (W_rs (kMv rfl (kNo rfl ?_)))))
 refine a8 h rfl (fun _ h=> ?_) (fun _ h=> ?_)
 ·refine W_rs (kUn (fu st49 rfl) ?_)
  refine ax 2 rfl rfl (Upd.refl _) rfl Tryz.sizeOf49 (kAs rfl ?_)
  obtain rfl:=osj h
  exact bh ⟨rfl,[(ag).val (ApiEntity.mk 0 [] [] [] [] false [] 0 0),Pr.i64 0],⟨yBox 2 ty49 aa,yT aa,trivial⟩,aa⟩
 refine az (W_rs (kUn (hMv (out:=(Rp.bd ((al).val x1)).val (gget x2.Kind none (gset 20 (some 69) (gset 18 (some 68) (gset 21 (some 67) (gset 19 (some 66) (gset 17 (some 65) ([]:GMap Int (Option Nat))))))))) rfl) (kUn (au 1 ty64 (Sub.refl _)) ?_)))
 rcases bg h with⟨hc8,h⟩|⟨hc8,h⟩
 ·refine rEnv 29 (q:=jq 65 [(al).val x1] []) (bnd_le hc8) ?_
  obtain⟨⟨x9,x10⟩,hx9,h⟩:=aj h
  refine kUn (qCallClo (bind_Scope_name_ok x1 x2 _ hx9)) ?_
  refine kUn aw ?_
  refine kUn aw ?_
  refine ax 2 rfl rfl (Upd.refl _) rfl Tryz.sizeOf49 (kAs rfl ?_)
  obtain rfl:=osj h
  exact bh ⟨rfl,[(ag).val x9,Pr.i64 x10],⟨yBox 2 ty49 aa,yT aa,trivial⟩,aa⟩
 rcases bg h with⟨hc11,h⟩|⟨hc11,h⟩
 ·refine rEnv 29 (q:=jq 66 [(al).val x1] []) (bnd_le hc11) ?_
  obtain⟨⟨x12,x13⟩,hx12,h⟩:=aj h
  refine kUn (qCallClo (bind_Scope_call_ok x1 x2 _ hx12)) ?_
  refine kUn aw ?_
  refine kUn aw ?_
  refine ax 2 rfl rfl (Upd.refl _) rfl Tryz.sizeOf49 (kAs rfl ?_)
  obtain rfl:=osj h
  exact bh ⟨rfl,[(ag).val x12,Pr.i64 x13],⟨yBox 2 ty49 aa,yT aa,trivial⟩,aa⟩
 rcases bg h with⟨hc14,h⟩|⟨hc14,h⟩
 ·refine rEnv 29 (q:=jq 67 [(al).val x1] []) (bnd_le hc14) ?_
  obtain⟨⟨x15,x16⟩,hx15,h⟩:=aj h
  refine kUn (qCallClo (bind_Scope_made_ok x1 x2 _ hx15)) ?_
  refine kUn aw ?_
  refine kUn aw ?_
  refine ax 2 rfl rfl (Upd.refl _) rfl Tryz.sizeOf49 (kAs rfl ?_)
  obtain rfl:=osj h
  exact bh ⟨rfl,[(ag).val x15,Pr.i64 x16],⟨yBox 2 ty49 aa,yT aa,trivial⟩,aa⟩
 rcases bg h with⟨hc17,h⟩|⟨hc17,h⟩
 ·refine rEnv 29 (q:=jq 68 [(al).val x1] []) (bnd_le hc17) ?_
  obtain⟨⟨x18,x19⟩,hx18,h⟩:=aj h
  refine kUn (qCallClo (ih.2.2.1 x1 x2 _ hx18)) ?_
  refine kUn aw ?_
  refine kUn aw ?_
  refine ax 2 rfl rfl (Upd.refl _) rfl Tryz.sizeOf49 (kAs rfl ?_)
  obtain rfl:=osj h
  exact bh ⟨rfl,[(ag).val x18,Pr.i64 x19],⟨yBox 2 ty49 aa,yT aa,trivial⟩,aa⟩
 rcases bg h with⟨hc20,h⟩|⟨hc20,h⟩
 ·refine rEnv 29 (q:=jq 69 [(al).val x1] []) (bnd_le hc20) ?_
  obtain⟨⟨x21,x22⟩,hx21,h⟩:=aj h
  refine kUn (qCallClo (ih.2.2.2.1 x1 x2 _ hx21)) ?_
  refine kUn aw ?_
  refine kUn aw ?_
  refine ax 2 rfl rfl (Upd.refl _) rfl Tryz.sizeOf49 (kAs rfl ?_)
  obtain rfl:=osj h
  exact bh ⟨rfl,[(ag).val x21,Pr.i64 x22],⟨yBox 2 ty49 aa,yT aa,trivial⟩,aa⟩
 cases h
theorem F_bind_Scope_Type_step (R:bx) (ih:er R) (x1:BindScope) (x2:ApiNode) (r:(List UInt8)) (h:F_bind_Scope_Type R x1 x2=some r):FnP Tryz.prog 33 [(al).val x1,(af).val x2] (bq r):=by
 refine cz (rs:=[4]) Tryz.func33 rfl Tryz.ntmps33 ⟨by decide,Tryz.results33⟩ (by decide) (fun s0=> ?_)
 unfold F_bind_Scope_Type at h
 refine W_rs ?_
 refine rBox (R:=al) (a:=x1) rfl (fun b3=> ?_)
 refine rBox (R:=af) (a:=x2) rfl (fun b4=> ?_)
 refine kAs rfl (ba (W_rs (kUn (ak dx) ?_)))
 refine kUn (au 1 ty3 bo) ?_
 refine a5 ?_
 refine bj (fun e C=>∃(x6:Bool),ot R x2 x1 x6=some r/\At [(2,ao b3 0),(3,ao b4 0),(8,Pr.i64 x2.Kind),(9,Pr.bool x6)] [Own.box b3 al x1,Own.box b4 af x2] e C) ?_ ?_
 ·rintro e C ⟨x6,h,hat2⟩
  refine W_at hat2 ?_
  unfold ot at h
  refine a8 h rfl (fun _ h=> ?_) (fun _ h=> ?_)
  ·refine W_rs (kAs rfl ?_)
   obtain rfl:=osj h
   exact bh ⟨rfl,aa⟩
  refine bj (fun e C=>∃(x9:Bool),ou R x2 x1 x9=some r/\At [(2,ao b3 0),(3,ao b4 0),(8,Pr.i64 x2.Kind),(12,Pr.bool x9)] [Own.box b3 al x1,Own.box b4 af x2] e C) ?_ ?_
  ·rintro e C ⟨x9,h,hat1⟩
   refine W_at hat1 ?_
   unfold ou at h
   refine a8 h rfl (fun _ h=> ?_) (fun _ h=> ?_)
   ·refine W_rs (kAs rfl ?_)
    obtain rfl:=osj h
    exact bh ⟨rfl,aa⟩
   refine W_rs (kIn rfl rfl rfl (kAs rfl ?_))
   refine a8 h rfl (fun _ h=> ?_) (fun _ h=> ?_)
   ·refine W_rs (kAs rfl ?_)
    obtain rfl:=osj h
    exact bh ⟨rfl,aa⟩
   refine W_rs (kIn rfl rfl rfl (kAs rfl ?_))
   refine a8 h rfl (fun _ h=> ?_) (fun _ h=> ?_)
   ·refine ba (W_rs (kUn (gh (R:=a7) (ls:=([([43]:List UInt8),([45]:List UInt8),([42]:List UInt8),([47]:List UInt8),([37]:List UInt8)]:List (List UInt8))) el22 (Nat.le_of_ble_eq_true rfl) ⟨rfl,rfl⟩ ⟨rfl,rfl,rfl,rfl,rfl,trivial⟩) ?_))
    refine kUn (ak ej) ?_
    refine kUn (au 1 ty9 cd) ?_
    refine ct h (iv ([([43]:List UInt8),([45]:List UInt8),([42]:List UInt8),([47]:List UInt8),([37]:List UInt8)]:List (List UInt8)) x2.Text) rfl fun x13 _ h=> ?_
    refine a8 h rfl (fun _ h=> ?_) (fun _ h=> ?_)
    ·refine W_rs (kAs rfl ?_)
     obtain rfl:=osj h
     exact bh ⟨rfl,aa⟩
    refine az (W_rs (kAs rfl ?_))
    obtain rfl:=osj h
    exact bh ⟨rfl,aa⟩
   refine W_rs (kIn rfl rfl rfl (kAs rfl ?_))
   refine a8 h rfl (fun _ h=> ?_) (fun _ h=> ?_)
   ·refine ba (W_rs (kUn (ak fld66_2) ?_))
    refine kUn (au 0 ty4 rh) ?_
    refine kNo rfl ?_
    refine a8 h rfl (fun _ h=> ?_) (fun _ h=> ?_)
    ·refine W_rs (kUn (ak fld66_1) ?_)
     refine kUn (au 0 ty9 jd) ?_
     refine kAs rfl ?_
     obtain rfl:=osj h
     exact bh ⟨rfl,aa⟩
    refine az (W_rs (kAs rfl ?_))
    obtain rfl:=osj h
    exact bh ⟨rfl,aa⟩
   refine az (W_rs (kUn (au 0 ty66 (Sub.refl _)) ?_))
   refine kUn (au 1 ty64 (Sub.refl _)) ?_
   obtain⟨⟨x17,x18⟩,hx17,h⟩:=aj h
   refine kUn (c5 (ih.1 x1 x2 _ hx17)) ?_
   refine kUn (hMv (out:=br [(ag).val x17,Pr.i64 x18]) rfl) (kUn aw ?_)
   refine kUn aw ?_
   refine bw kh fun b19=>ax 2 rfl rfl (Upd.refl _) rfl Tryz.sizeOf49 (kAs rfl (ba (a5 (W_rs (kMv rfl (kIn rfl rfl rfl (kAs rfl ?_)))))))
   refine a8 h rfl (fun _ h=> ?_) (fun _ h=> ?_)
   ·refine W_rs (kAs rfl ?_)
    obtain rfl:=osj h
    exact bh ⟨rfl,aa⟩
   refine W_rs (kUn (ak dx) ?_)
   refine kUn (au 1 ty3 bo) ?_
   refine kIn rfl rfl rfl (kAs rfl ?_)
   refine a8 h rfl (fun _ h=> ?_) (fun _ h=> ?_)
   ·refine W_rs (kUn (ak li) ?_)
    refine kUn (au 2 ty9 d9) ?_
    refine kAs rfl ?_
    obtain rfl:=osj h
    exact bh ⟨rfl,aa⟩
   refine W_rs (kUn (ak mv) ?_)
   refine kUn (au 2 ty3 de) ?_
   refine kIn rfl rfl rfl (kAs rfl ?_)
   refine a8 h rfl (fun _ h=> ?_) (fun _ h=> ?_)
   ·refine W_rs (kAs rfl ?_)
    obtain rfl:=osj h
    exact bh ⟨rfl,aa⟩
   refine az (W_rs (kUn (ak fld49_4) ?_))
   refine kUn (au 2 ty9 fr) ?_
   refine kAs rfl ?_
   obtain rfl:=osj h
   exact bh ⟨rfl,aa⟩
  refine W_rs (kIn rfl rfl rfl (kAs rfl ?_))
  refine a8 h rfl (fun _ h=> ?_) (fun _ h=> ?_)
  ·refine az ?_
   exact⟨x2.Kind==14,h,atOk⟩
  refine W_r (kIn rfl rfl rfl (kAs rfl ?_))
  exact⟨x2.Kind==22,h,atOk⟩
 refine W_rs (kIn rfl rfl rfl (kAs rfl ?_))
 refine a8 h rfl (fun _ h=> ?_) (fun _ h=> ?_)
 ·refine az ?_
  exact⟨x2.Kind==13,h,atOk⟩
 refine W_r (kIn rfl rfl rfl (kAs rfl ?_))
 exact⟨x2.Kind==23,h,atOk⟩
theorem F_bind_Scope_dot_step (R:bx) (ih:er R) (x1:BindScope) (x2:ApiNode) (r:ApiEntity × Int) (h:F_bind_Scope_dot R x1 x2=some r):FnP Tryz.prog 68 [(al).val x1,(af).val x2] (br [(ag).val r.1,Pr.i64 r.2]):=by
 refine c7 (rs:=[.cell 4 49,.tmp 5]) Tryz.func68 rfl Tryz.ntmps68 Tryz.results68 (by decide) (fun s0=> ?_)
 unfold F_bind_Scope_dot at h
 refine W_rs ?_
 refine rBox (R:=al) (a:=x1) rfl (fun b3=> ?_)
 refine rBox (R:=af) (a:=x2) rfl (fun b4=> ?_)
 refine bw kh fun b5=>kAs rfl (W_rs (kUn (au 0 ty66 (Sub.refl _)) ?_))
 refine kUn (au 1 ty64 (Sub.refl _)) ?_
 obtain⟨⟨x6,x7⟩,hx6,h⟩:=aj h
 refine kUn (qCall' (ih.2.2.2.2 x1 x2 kin_Field _ hx6) ⟨aa,aa,(is_pfn en113 (fun _ _ hs=>by obtain⟨a0,a1,a2,r,rfl,rfl,hr⟩:=hs;exact kin_Field_ok a0 a1 a2 r hr)),trivial⟩) ?_
 refine kUn aw ?_
 refine kUn aw ?_
 refine ax 2 rfl rfl (Upd.refl _) rfl Tryz.sizeOf49 (kAs rfl ?_)
 obtain rfl:=osj h
 exact bh ⟨rfl,[(ag).val x6,Pr.i64 x7],⟨yBox 2 ty49 aa,yT aa,trivial⟩,aa⟩
theorem F_bind_Scope_dotCall_step (R:bx) (ih:er R) (x1:BindScope) (x2:ApiNode) (r:ApiEntity × Int) (h:qi R x1 x2=some r):FnP Tryz.prog 69 [(al).val x1,(af).val x2] (br [(ag).val r.1,Pr.i64 r.2]):=by
 refine c7 (rs:=[.cell 4 49,.tmp 5]) Tryz.func69 rfl Tryz.ntmps69 Tryz.results69 (by decide) (fun s0=> ?_)
 unfold qi at h
 refine W_rs ?_
 refine rBox (R:=al) (a:=x1) rfl (fun b3=> ?_)
 refine rBox (R:=af) (a:=x2) rfl (fun b4=> ?_)
 refine bw kh fun b5=>kAs rfl (W_rs (kUn (au 0 ty66 (Sub.refl _)) ?_))
 refine kUn (au 1 ty64 (Sub.refl _)) ?_
 obtain⟨⟨x6,x7⟩,hx6,h⟩:=aj h
 refine kUn (qCall' (ih.2.2.2.2 x1 x2 kin_Method _ hx6) ⟨aa,aa,(is_pfn en117 (fun _ _ hs=>by obtain⟨a0,a1,a2,r,rfl,rfl,hr⟩:=hs;exact kin_Method_ok a0 a1 a2 r hr)),trivial⟩) ?_
 refine kUn aw ?_
 refine kUn aw ?_
 refine ax 2 rfl rfl (Upd.refl _) rfl Tryz.sizeOf49 (kAs rfl ?_)
 obtain rfl:=osj h
 exact bh ⟨rfl,[(ag).val x6,Pr.i64 x7],⟨yBox 2 ty49 aa,yT aa,trivial⟩,aa⟩
theorem F_bind_Scope_member_step (R:bx) (ih:er R) (x1:BindScope) (x2:ApiNode) (x3:((List ApiEntity)->(List UInt8)->(List UInt8)->Option (ApiEntity × Bool))) (r:ApiEntity × Int) (h:rn R x1 x2 x3=some r):FnP Tryz.prog 118 [(al).val x1,(af).val x2,dc Tryz.prog (spec185 x3)] (br [(ag).val r.1,Pr.i64 r.2]):=by
 refine c7 (rs:=[.cell 6 49,.tmp 7]) Tryz.func118 rfl Tryz.ntmps118 Tryz.results118 (by decide) (fun s0=> ?_)
 unfold rn at h
 refine W_rs ?_
 refine rBox (R:=al) (a:=x1) rfl (fun b4=> ?_)
 refine rBox (R:=af) (a:=x2) rfl (fun b5=> ?_)
 refine bw kh fun b6=>kAs rfl (ba (W_rs (kUn (ak ei) ?_)))
 refine kUn (au 1 ty53 bu) ?_
 refine kUn (gy rfl Tryz.underlying53) ?_
 refine kIn rfl rfl rfl ?_
 refine a8 h rfl (fun _ h=> ?_) (fun _ h=> ?_)
 ·refine W_rs (kUn (fu st49 rfl) ?_)
  refine ax 2 rfl rfl (Upd.refl _) rfl Tryz.sizeOf49 (kAs rfl ?_)
  obtain rfl:=osj h
  exact bh ⟨rfl,[(ag).val (ApiEntity.mk 0 [] [] [] [] false [] 0 0),Pr.i64 180],⟨yBox 2 ty49 aa,yT aa,trivial⟩,aa⟩
 refine az (W_rs (kUn (ak ei) ?_))
 refine kUn (au 1 ty53 bu) ?_
 obtain⟨x8,hx8,h⟩:=aj h
 refine kUn (dh Tryz.underlying53 Tryz.sizeOf64 hx8) ?_
 refine kUn (cl ty64) ?_
 refine bw al64 fun b9=>ax 3 rfl rfl (Upd.refl _) rfl Tryz.sizeOf64 ?_
 refine bj (fun e C=>l9 R x1 x8 x3 x2=some r/\At [(2,dc Tryz.prog (spec185 x3)),(3,ao b4 0),(4,ao b5 0),(6,ao b6 0),(8,ao b9 0)] [Own.box b4 al x1,Own.box b5 af x2,Own.box b6 ag (ApiEntity.mk 0 [] [] [] [] false [] 0 0),Own.box b9 af x8] e C) ?_ ?_
 ·rintro e C ⟨h,hat4⟩
  refine W_at hat4 ?_
  unfold l9 at h
  refine bj (fun e C=>∃(x24:Bool),∃(x23:ApiEntity),∃(b25:Nat),qe R x3 x1 x2 x24 x23=some r/\At [(2,dc Tryz.prog (spec185 x3)),(3,ao b4 0),(4,ao b5 0),(6,ao b6 0),(12,ao b25 0),(13,Pr.bool x24)] [Own.box b4 al x1,Own.box b5 af x2,Own.box b6 ag (ApiEntity.mk 0 [] [] [] [] false [] 0 0),Own.box b9 af x8,Own.box b25 ag x23] e C) ?_ ?_
  ·rintro e C ⟨x24,x23,b25,h,hat3⟩
   refine W_at hat3 ?_
   unfold qe at h
   refine ba ?_
   refine bj (fun e C=>∃(x27:Bool),ma R x3 x1 x23 x2 x27=some r/\At [(2,dc Tryz.prog (spec185 x3)),(3,ao b4 0),(4,ao b5 0),(6,ao b6 0),(12,ao b25 0),(70,Pr.bool x27)] [Own.box b4 al x1,Own.box b5 af x2,Own.box b6 ag (ApiEntity.mk 0 [] [] [] [] false [] 0 0),Own.box b9 af x8,Own.box b25 ag x23] e C) ?_ ?_
   ·rintro e C ⟨x27,h,hat2⟩
    refine W_at hat2 ?_
    unfold ma at h
    refine a8 h rfl (fun _ h=> ?_) (fun _ h=> ?_)
    ·refine W_rs (kUn (fu st49 rfl) ?_)
     refine ax 2 rfl rfl (Upd.refl _) rfl Tryz.sizeOf49 (kAs rfl ?_)
     obtain rfl:=osj h
     exact bh ⟨rfl,[(ag).val (ApiEntity.mk 0 [] [] [] [] false [] 0 0),Pr.i64 180],⟨yBox 2 ty49 aa,yT aa,trivial⟩,aa⟩
    refine az (W_rs (kUn (au 0 ty66 (Sub.refl _)) ?_))
    refine bw al66 fun b29=>ax 5 rfl rfl (Upd.refl _) rfl Tryz.sizeOf66 (W_rs (kUn (ak fld66_2) ?_))
    refine ax 5 rfl rfl rf rfl Tryz.sizeOf4 ?_
    refine bj (fun e C=>∃(x33:Int),∃(x32:ApiEntity),qf R x33 x32=some r/\At [(6,ao b6 0),(7,Pr.i64 x33)] [Own.box b4 al x1,Own.box b5 af x2,Own.box b6 ag x32,Own.box b9 af x8,Own.box b25 ag x23,Own.box b29 al ({x1 with Static:=false})] e C) ?_ ?_
    ·rintro e C ⟨x33,x32,h,hat1⟩
     refine W_at hat1 ?_
     unfold qf at h
     obtain rfl:=osj h
     exact bh ⟨rfl,[(ag).val x32,Pr.i64 x33],⟨yBox 2 ty49 aa,yT aa,trivial⟩,aa⟩
    refine e7 14 hmx (by kernel_rfl) (by kernel_rfl) ?_
    refine lUn (au 5 ty66 (Sub.refl _)) ?_
    refine lUn (hMv (out:=dc Tryz.prog (spec185 x3)) rfl) (lUn (ak fld66_0) ?_)
    refine lUn (au 0 ty38 gl) ?_
    refine lUn (ak li) ?_
    refine lUn (au 4 ty9 d9) ?_
    refine lUn (ak ej) ?_
    refine lUn (au 1 ty9 cd) ?_
    obtain⟨⟨x30,x31⟩,hx30,h⟩:=aj h
    refine lUn (qCallP (spec:=spec185 x3) ⟨_,_,_,_,rfl,rfl,hx30⟩) ?_
    refine lUn aw ?_
    refine lUn aw ?_
    obtain⟨⟨x32,x33⟩,hx32,h⟩:=aj h
    refine lUn (c5 (pq ({x1 with Static:=false}) x30 x31 _ hx32)) ?_
    refine lUn aw ?_
    refine lUn aw ?_
    refine ax 2 rfl rfl (Upd.refl _) rfl Tryz.sizeOf49 (kAs rfl ?_)
    exact⟨x33,x32,h,atOk⟩
   refine W_r (kMv rfl (kNo rfl (kMv rfl ?_)))
   rcases bg h with⟨hc26,h⟩|⟨hc26,h⟩
   ·refine kSkF rfl aa hc26 (kSkF rfl aa hc26 (kSkF rfl aa hc26 (kPt rfl hc26 rfl ?_)))
    exact⟨true,h,atOk⟩
   refine kGd rfl aa hc26 (ak li) ?_
   refine kGd rfl aa hc26 (au 4 ty9 d9) ?_
   refine kGd rfl aa hc26 (qStr rfl rfl rfl) (kPf rfl hc26 rfl ?_)
   exact⟨x23.Id==[],h,atOk⟩
  obtain⟨x22,hx22,h⟩:=aj h
  obtain⟨⟨x23,x24⟩,hx23,h⟩:=aj h
  refine W_drawG 1 (fun B S=>[Own.box b4 al x1,Own.box b5 af x2,Own.box b6 ag (ApiEntity.mk 0 [] [] [] [] false [] 0 0),Own.box b9 af x8,(cond (S 9) (Own.box (B 8) ag x23) (cond (S 8) (Own.box (B 8) ag (ApiEntity.mk 0 [] [] [] [] false [] 0 0)) Own.nil))]) (fun B=>[Own.box b4 al x1,Own.box b5 af x2,Own.box b6 ag (ApiEntity.mk 0 [] [] [] [] false [] 0 0),Own.box b9 af x8,Own.box (B 8) ag x23]) [(al).val x1,(al).val x1,(af).val x8,bq x22,br [(ag).val x23,Pr.bool x24],br [(ag).val x23,Pr.bool x24],(ag).val x23,Pr.bool x24,.any,.any,Pr.bool x24] (fun k=>([0,0,0,0,0,0,0,0,2,1,0]:List Nat).getD k 0) hmx (by kernel_rfl) (by kernel_rfl) (fun _=>rfl) (fun B S S' h=>by show([Own.box b4 al x1,Own.box b5 af x2,Own.box b6 ag (ApiEntity.mk 0 [] [] [] [] false [] 0 0),Own.box b9 af x8,(cond (S 9) (Own.box (B 8) ag x23) (cond (S 8) (Own.box (B 8) ag (ApiEntity.mk 0 [] [] [] [] false [] 0 0)) Own.nil))]:Ctx)=[Own.box b4 al x1,Own.box b5 af x2,Own.box b6 ag (ApiEntity.mk 0 [] [] [] [] false [] 0 0),Own.box b9 af x8,(cond (S' 9) (Own.box (B 8) ag x23) (cond (S' 8) (Own.box (B 8) ag (ApiEntity.mk 0 [] [] [] [] false [] 0 0)) Own.nil))];simp only[h 8 (Nat.le_of_ble_eq_true (by kernel_rfl)),h 9 (Nat.le_of_ble_eq_true (by kernel_rfl))]) (fun _=>rfl) (fun B=> ?_)
  refine gq1 (fun S hK=>(au (R:=al) (a:=x1) (R':=al) 0 ty66 (Sub.refl _) (hi:=rfl))) ?_
  refine gq1 (fun S hK=>(au (R:=al) (a:=x1) (R':=al) 0 ty66 (Sub.refl _) (hi:=rfl))) ?_
  refine gq1 (fun S hK=>(au (R:=af) (a:=x8) (R':=af) 3 ty64 (Sub.refl _) (hi:=rfl))) ?_
  refine gq1 (fun S hK=>(c5 (ih.2.1 x1 x8 _ hx22))) ?_
  refine gq1 (fun S hK=>(c5 (nh x1 x22 _ hx23))) ?_
  refine gq1 (fun S hK=>ef) ?_
  refine gq1 (fun S hK=>aw) ?_
  refine gq1 (fun S hK=>aw) ?_
  refine gqA (fun S hK=>⟨fun B' hB=>by show([Own.box b4 al x1,Own.box b5 af x2,Own.box b6 ag (ApiEntity.mk 0 [] [] [] [] false [] 0 0),Own.box b9 af x8,(cond (S 9) (Own.box (B' 8) ag x23) (cond (S 8) (Own.box (B' 8) ag (ApiEntity.mk 0 [] [] [] [] false [] 0 0)) Own.nil))]:Ctx)=[Own.box b4 al x1,Own.box b5 af x2,Own.box b6 ag (ApiEntity.mk 0 [] [] [] [] false [] 0 0),Own.box b9 af x8,(cond (S 9) (Own.box (B 8) ag x23) (cond (S 8) (Own.box (B 8) ag (ApiEntity.mk 0 [] [] [] [] false [] 0 0)) Own.nil))];simp only[hK.me,hK.F 9 (by kernel_rfl),cond_false],fun s ρ hg _=>sAlloc (R:=ag) (z:=(ApiEntity.mk 0 [] [] [] [] false [] 0 0)) 4 Tryz.zeroValue49 (fun _=>⟨_,⟨_,_,rfl,rfl,⟨_,_,rfl,rfl,⟨_,_,rfl,rfl,⟨_,_,rfl,rfl,⟨_,_,rfl,rfl,⟨_,_,rfl,rfl,⟨_,_,rfl,⟨_,rfl,none,0,rfl,⟨Nat.le_refl _,fun _=>rfl⟩,.inl rfl⟩,⟨_,_,rfl,rfl,⟨_,_,rfl,rfl,rfl⟩⟩⟩⟩⟩⟩⟩⟩⟩,rfl⟩) (congrArg some ((condF (hK.F 9 (by kernel_rfl)) _ _).trans (condF (hK.me) _ _))) (fun b=>by show([Own.box b4 al x1,Own.box b5 af x2,Own.box b6 ag (ApiEntity.mk 0 [] [] [] [] false [] 0 0),Own.box b9 af x8,(cond (S 9) (Own.box b ag x23) (Own.box b ag (ApiEntity.mk 0 [] [] [] [] false [] 0 0)))]:Ctx)=_;rw[hK.F 9 (by kernel_rfl)];rfl) s ρ hg⟩) ?_
  refine gqS (fun S hK=>SStep.as (dk (R:=ag) (R':=ag) (a:=(ApiEntity.mk 0 [] [] [] [] false [] 0 0)) (y:=x23) 4 Tryz.sizeOf49 (Upd.refl _) (congrArg some ((condF (hK.me) _ _).trans (condT (hK.T 8 (by kernel_rfl)) _ _)))) (by show(_:Ctx)=[Own.box b4 al x1,Own.box b5 af x2,Own.box b6 ag (ApiEntity.mk 0 [] [] [] [] false [] 0 0),Own.box b9 af x8,Own.box (B 8) ag x23];rfl)) ?_
  refine gq1 (fun S hK=>dz) ?_
  exact⟨x24,x23,(B 8),h,atOk⟩
 refine W_rs (kUn (ak dx) ?_)
 refine kUn (au 3 ty3 bo) ?_
 refine kIn rfl rfl rfl ?_
 refine a8 h rfl (fun _ h=> ?_) (fun _ h=> ?_)
 ·refine W_rs (kUn (au 0 ty66 (Sub.refl _)) ?_)
  refine kUn (au 3 ty64 (Sub.refl _)) ?_
  obtain⟨⟨x11,x12⟩,hx11,h⟩:=aj h
  refine kUn (c5 (bind_Scope_name_ok x1 x8 _ hx11)) ?_
  refine kUn (hMv (out:=br [(ag).val x11,Pr.i64 x12]) rfl) (kUn aw ?_)
  refine kUn aw ?_
  refine bw kh fun b13=>ax 4 rfl rfl (Upd.refl _) rfl Tryz.sizeOf49 (kAs rfl ?_)
  refine bj (fun e C=>∃(x15:Bool),l8 R x3 x1 x11 x2 x8 x15=some r/\At [(2,dc Tryz.prog (spec185 x3)),(3,ao b4 0),(4,ao b5 0),(6,ao b6 0),(8,ao b9 0),(9,ao b13 0),(39,Pr.bool x15)] [Own.box b4 al x1,Own.box b5 af x2,Own.box b6 ag (ApiEntity.mk 0 [] [] [] [] false [] 0 0),Own.box b9 af x8,Own.box b13 ag x11] e C) ?_ ?_
  ·rintro e C ⟨x15,h,hat6⟩
   refine W_at hat6 ?_
   unfold l8 at h
   refine a8 h rfl (fun _ h=> ?_) (fun _ h=> ?_)
   ·refine W_rs (kUn (au 0 ty66 (Sub.refl _)) ?_)
    refine bw al66 fun b17=>ax 5 rfl rfl (Upd.refl _) rfl Tryz.sizeOf66 (W_rs (kUn (ak fld66_2) ?_))
    refine ax 5 rfl rfl rf rfl Tryz.sizeOf4 ?_
    refine bj (fun e C=>∃(x21:Int),∃(x20:ApiEntity),qd R x21 x20=some r/\At [(6,ao b6 0),(7,Pr.i64 x21)] [Own.box b4 al x1,Own.box b5 af x2,Own.box b6 ag x20,Own.box b9 af x8,Own.box b13 ag x11,Own.box b17 al ({x1 with Static:=true})] e C) ?_ ?_
    ·rintro e C ⟨x21,x20,h,hat5⟩
     refine W_at hat5 ?_
     unfold qd at h
     obtain rfl:=osj h
     exact bh ⟨rfl,[(ag).val x20,Pr.i64 x21],⟨yBox 2 ty49 aa,yT aa,trivial⟩,aa⟩
    refine e7 14 hmx (by kernel_rfl) (by kernel_rfl) ?_
    refine lUn (au 5 ty66 (Sub.refl _)) ?_
    refine lUn (hMv (out:=dc Tryz.prog (spec185 x3)) rfl) (lUn (ak fld66_0) ?_)
    refine lUn (au 0 ty38 gl) ?_
    refine lUn (ak li) ?_
    refine lUn (au 4 ty9 d9) ?_
    refine lUn (ak ej) ?_
    refine lUn (au 1 ty9 cd) ?_
    obtain⟨⟨x18,x19⟩,hx18,h⟩:=aj h
    refine lUn (qCallP (spec:=spec185 x3) ⟨_,_,_,_,rfl,rfl,hx18⟩) ?_
    refine lUn aw ?_
    refine lUn aw ?_
    obtain⟨⟨x20,x21⟩,hx20,h⟩:=aj h
    refine lUn (c5 (pq ({x1 with Static:=true}) x18 x19 _ hx20)) ?_
    refine lUn aw ?_
    refine lUn aw ?_
    refine ax 2 rfl rfl (Upd.refl _) rfl Tryz.sizeOf49 (kAs rfl ?_)
    exact⟨x21,x20,h,atOk⟩
   refine az ?_
   exact⟨h,⟨⟨aa,aa,aa,aa,aa,trivial⟩,Pick.of [0,1,2,3] rfl⟩⟩
  refine W_r (kMv rfl (kIn rfl rfl rfl (kMv rfl ?_)))
  rcases bg h with⟨hc14,h⟩|⟨hc14,h⟩
  ·refine kGd rfl aa hc14 (ak mv) ?_
   refine kGd rfl aa hc14 (au 4 ty3 de) ?_
   refine kGd rfl aa hc14 (qInt rfl rfl rfl) (kPt rfl hc14 rfl ?_)
   exact⟨x11.Kind==1,h,atOk⟩
  refine kSkT rfl aa hc14 (kSkT rfl aa hc14 (kSkT rfl aa hc14 (kPf rfl hc14 rfl ?_)))
  exact⟨false,h,atOk⟩
 refine az ?_
 exact⟨h,atOk⟩
theorem sa :∀n,er (dw n):=by
 intro n
 induction n with
 |zero=>exact⟨(fun x1 x2 r h=>nomatch (show none=some r from h)),(fun x1 x2 r h=>nomatch (show none=some r from h)),(fun x1 x2 r h=>nomatch (show none=some r from h)),(fun x1 x2 r h=>nomatch (show none=some r from h)),(fun x1 x2 x3 r h=>nomatch (show none=some r from h))⟩
 |succ n ih=>exact⟨(fun x1 x2 r h=>F_bind_Scope_Entity_step (dw n) ih x1 x2 r h),(fun x1 x2 r h=>F_bind_Scope_Type_step (dw n) ih x1 x2 r h),(fun x1 x2 r h=>F_bind_Scope_dot_step (dw n) ih x1 x2 r h),(fun x1 x2 r h=>F_bind_Scope_dotCall_step (dw n) ih x1 x2 r h),(fun x1 x2 x3 r h=>F_bind_Scope_member_step (dw n) ih x1 x2 x3 r h)⟩
theorem qg (x1:BindScope) (x2:ApiNode) (r:ApiEntity × Int) (h:pu x1 x2=some r):FnP Tryz.prog 32 [(al).val x1,(af).val x2] (br [(ag).val r.1,Pr.i64 r.2]):=(sa 1048576).1 x1 x2 r h
theorem je (x1:BindScope) (x2:ApiNode) (r:(List UInt8)) (h:j6 x1 x2=some r):FnP Tryz.prog 33 [(al).val x1,(af).val x2] (bq r):=(sa 1048576).2.1 x1 x2 r h
theorem bind_walker_own_ok (x1:BindScope) (x2:ApiNode) (x4:BindWalker) (b3:Nat) (v5:Value) (r:PX BindWrong BindWalker) (h:bind_walker_own x1 x2 x4=some r):FnX Tryz.prog 74 [ao b3 0,(al).val x1,(af).val x2] [Own.box b3 av (BindWalkerRaw.mk v5 x4.file x4.method x4.many),Own.vec v5 aq x4.uses 47] (fun q C'=>∃a9,r= .ok a9/\∃w100,q=br []/\C'=[Own.box b3 av (BindWalkerRaw.mk w100 a9.file a9.method a9.many),Own.vec w100 aq a9.uses 47]) (fun v=>∃m,r= .bad m/\v=bindV m):=by
 refine gt (rs:=[]) Tryz.func74 rfl Tryz.ntmps74 ⟨by decide,Tryz.results74⟩ (by decide) (fun s0=> ?_)
 unfold bind_walker_own at h
 refine W_rs ?_
 refine rBox (R:=al) (a:=x1) rfl (fun b6=> ?_)
 refine rBox (R:=af) (a:=x2) rfl (fun b7=> ?_)
 refine bj (fun e C=>∃(x15:Int),∃(x16:List UInt8),∃(x17:Int),∃(x18:List ApiUse),∃(v14:Value),ol x2 x1 x15 x16 x17 x18=some r/\At [(0,ao b3 0),(4,ao b6 0),(5,ao b7 0)] [Own.box b3 av (BindWalkerRaw.mk v14 x15 x16 x17),Own.vec v14 aq x18 47,Own.box b6 al x1,Own.box b7 af x2] e C) ?_ ?_
 ·rintro e C ⟨x15,x16,x17,x18,v14,h,hat3⟩
  refine W_at hat3 ?_
  unfold ol at h
  refine ba (W_rs (kUn (ak mb) ?_))
  refine kUn (au 3 ty3 eu) ?_
  refine kIn rfl rfl rfl ?_
  refine a8 h rfl (fun _ h=> ?_) (fun _ h=> ?_)
  ·obtain rfl:=osj h
   exact bh (.inl ⟨.inl rfl,_,Pick.of [0,1] rfl,_,aa,_,rfl,v14,rfl,rfl⟩)
  refine az (W_rs (kAs rfl ?_))
  refine bj (fun e C=>∃(x36:List UInt8),∃(x38:Int),∃(x39:List UInt8),∃(x40:Int),∃(x41:List ApiUse),∃(v37:Value),ik x2 x36 x38 x39 x40 x41=some r/\At [(0,ao b3 0),(5,ao b7 0),(6,bq x36)] [Own.box b3 av (BindWalkerRaw.mk v37 x38 x39 x40),Own.vec v37 aq x41 47,Own.box b6 al x1,Own.box b7 af x2] e C) ?_ ?_
  ·rintro e C ⟨x36,x38,x39,x40,x41,v37,h,hat1⟩
   refine W_at hat1 ?_
   unfold ik at h
   refine W_r (kMv rfl (kUn (ak mb) ?_))
   refine kUn (au 3 ty3 eu) ?_
   refine kMv rfl ?_
   obtain⟨x42,hx42,h⟩:=aj h
   refine j1 [0,1] (bind_walker_put_ok x2.At x36 (BindWalker.mk x41 x38 x39 x40) b3 v37 _ hx42) (fun q C' hq=> ?_)
   obtain⟨v43,rfl,rfl⟩:=hq
   refine rCtx [Own.box b3 av (BindWalkerRaw.mk v43 x42.file x42.method x42.many),Own.vec v43 aq x42.uses 47,Own.box b6 al x1,Own.box b7 af x2] ?_
   obtain rfl:=osj h
   exact(.inl ⟨.inr rfl,_,Pick.of [0,1] rfl,_,aa,_,rfl,v43,rfl,rfl⟩)
  refine W_rs (kUn (ak dx) ?_)
  refine kUn (au 3 ty3 bo) ?_
  refine a5 (W_rs (kIn rfl rfl rfl (kAs rfl ?_)))
  refine a8 h rfl (fun _ h=> ?_) (fun _ h=> ?_)
  ·refine W_r (kUn (ak ej) ?_)
   refine kUn (au 3 ty9 cd) ?_
   refine ct h (decls_Class_ok x2.Text) rfl fun x21 _ h=>kAs rfl ?_
   exact⟨x21,x15,x16,x17,x18,v14,h,atOk⟩
  refine W_rs (kIn rfl rfl rfl (kAs rfl ?_))
  refine a8 h rfl (fun _ h=> ?_) (fun _ h=> ?_)
  ·refine W_r (kUn (ak fld66_1) ?_)
   refine kUn (au 2 ty9 jd) ?_
   refine kUn (ak ej) ?_
   refine kUn (au 3 ty9 cd) ?_
   refine ct h (decls_Field_ok x1.Class x2.Text) rfl fun x23 _ h=>kAs rfl ?_
   exact⟨x23,x15,x16,x17,x18,v14,h,atOk⟩
  refine W_rs (kIn rfl rfl rfl (kAs rfl ?_))
  refine a8 h rfl (fun _ h=> ?_) (fun _ h=> ?_)
  ·refine W_r (kUn (ak fld66_1) ?_)
   refine kUn (au 2 ty9 jd) ?_
   refine kUn (ak ej) ?_
   refine kUn (au 3 ty9 cd) ?_
   refine ct h (decls_Method_ok x1.Class x2.Text) rfl fun x25 _ h=>kAs rfl ?_
   exact⟨x25,x15,x16,x17,x18,v14,h,atOk⟩
  refine bj (fun e C=>∃(x27:Bool),om x16 x17 x2 x15 x18 x1 x27=some r/\At [(0,ao b3 0),(4,ao b6 0),(5,ao b7 0),(57,Pr.bool x27)] [Own.box b3 av (BindWalkerRaw.mk v14 x15 x16 x17),Own.vec v14 aq x18 47,Own.box b6 al x1,Own.box b7 af x2] e C) ?_ ?_
  ·rintro e C ⟨x27,h,hat2⟩
   refine W_at hat2 ?_
   unfold om at h
   refine a8 h rfl (fun _ h=> ?_) (fun _ h=> ?_)
   ·refine e7 10 hmx (by kernel_rfl) (by kernel_rfl) ?_
    refine lUn (hMvA rfl) (lUn (qNilP rfl) (lUn (ak fld76_2) ?_))
    refine lUn (au 0 ty9 nk) ?_
    refine lUn (hMvA rfl) (lUn (qNilP rfl) (lUn (ak fld76_3) ?_))
    refine lUn (au 0 ty3 o9) ?_
    obtain⟨x29,hx29,h⟩:=aj h
    refine lUn (c5 (decls_Local_ok x16 x17 _ hx29)) ?_
    refine lUn (hAsA rfl) ?_
    exact⟨x29,x15,x16,x17,x18,v14,h,atOk⟩
   refine W_rs (kUn (au 2 ty66 (Sub.refl _)) ?_)
   refine kUn (au 3 ty64 (Sub.refl _)) ?_
   obtain⟨⟨x30,x31⟩,hx30,h⟩:=aj h
   refine kUn (c5 (qg x1 x2 _ hx30)) ?_
   refine kUn (hMv (out:=br [(ag).val x30,Pr.i64 x31]) rfl) (kUn aw ?_)
   refine kUn aw ?_
   refine bw kh fun b32=>ax 4 rfl rfl (Upd.refl _) rfl Tryz.sizeOf49 (kAs rfl (W_rs (kMv rfl (kMv rfl (kUn (ak mb) ?_)))))
   refine kUn (au 3 ty3 eu) ?_
   rcases cn h with⟨m35,hm35,h⟩|⟨x33,hx33,h⟩
   ·refine c6 [0,1] (ir x31 x2.At (BindWalker.mk x18 x15 x16 x17) b3 v14 _ hm35) ⟨aa,aa,aa,trivial⟩ (fun q C' hq=> ?_) (fun v9 hv=> ?_)
    ·obtain⟨_,h9,_⟩:=hq;cases h9
    obtain⟨_,h9,rfl⟩:=hv
    cases h9
    obtain rfl:=osj h
    exact .inr ⟨_,rfl,_,rfl,rfl⟩
   refine c6 [0,1] (ir x31 x2.At (BindWalker.mk x18 x15 x16 x17) b3 v14 _ hx33) ⟨aa,aa,aa,trivial⟩ (fun q C' hq=> ?_) (fun v9 hv=>by obtain⟨_,h9,_⟩:=hv;cases h9)
   obtain⟨_,h9,v34,rfl,rfl⟩:=hq
   cases h9
   refine rCtx [Own.box b3 av (BindWalkerRaw.mk v34 x33.file x33.method x33.many),Own.vec v34 aq x33.uses 47,Own.box b6 al x1,Own.box b7 af x2,Own.box b32 ag x30] ?_
   refine W_r (kUn (ak li) ?_)
   refine kUn (au 4 ty9 d9) ?_
   refine kAs rfl ?_
   exact⟨x30.Id,x33.file,x33.method,x33.many,x33.uses,v34,h,⟨⟨aa,aa,aa,trivial⟩,Pick.of [0,1,2,3] rfl⟩⟩
  refine W_rs (kIn rfl rfl rfl (kAs rfl ?_))
  refine a8 h rfl (fun _ h=> ?_) (fun _ h=> ?_)
  ·refine az ?_
   exact⟨x2.Kind==4,h,atOk⟩
  refine W_r (kIn rfl rfl rfl (kAs rfl ?_))
  exact⟨x2.Kind==6,h,atOk⟩
 refine bj (fun e C=>∃(x9:Bool),oj x2 x4 x1 x9=some r/\At [(0,ao b3 0),(4,ao b6 0),(5,ao b7 0),(15,Pr.bool x9)] [Own.box b3 av (BindWalkerRaw.mk v5 x4.file x4.method x4.many),Own.vec v5 aq x4.uses 47,Own.box b6 al x1,Own.box b7 af x2] e C) ?_ ?_
 ·rintro e C ⟨x9,h,hat4⟩
  refine W_at hat4 ?_
  unfold oj at h
  refine a8 h rfl (fun _ h=> ?_) (fun _ h=> ?_)
  ·refine W_r (kMv rfl (kUn (ak fld64_4) ?_))
   refine kUn (au 3 ty3 fb) ?_
   rcases cn h with⟨m13,hm13,h⟩|⟨x11,hx11,h⟩
   ·refine c6 [0,1] (ir 171 x2.From x4 b3 v5 _ hm13) ⟨aa,aa,aa,trivial⟩ (fun q C' hq=> ?_) (fun v9 hv=> ?_)
    ·obtain⟨_,h9,_⟩:=hq;cases h9
    obtain⟨_,h9,rfl⟩:=hv
    cases h9
    obtain rfl:=osj h
    exact .inr ⟨_,rfl,_,rfl,rfl⟩
   refine c6 [0,1] (ir 171 x2.From x4 b3 v5 _ hx11) ⟨aa,aa,aa,trivial⟩ (fun q C' hq=> ?_) (fun v9 hv=>by obtain⟨_,h9,_⟩:=hv;cases h9)
   obtain⟨_,h9,v12,rfl,rfl⟩:=hq
   cases h9
   refine rCtx [Own.box b3 av (BindWalkerRaw.mk v12 x11.file x11.method x11.many),Own.vec v12 aq x11.uses 47,Own.box b6 al x1,Own.box b7 af x2] ?_
   exact⟨x11.file,x11.method,x11.many,x11.uses,v12,h,atOk⟩
  refine az ?_
  exact⟨x4.file,x4.method,x4.many,x4.uses,v5,h,atOk⟩
 refine W_r (kUn (ak dx) ?_)
 refine kUn (au 3 ty3 bo) ?_
 refine kIn rfl rfl rfl (kMv rfl ?_)
 rcases bg h with⟨hc8,h⟩|⟨hc8,h⟩
 ·refine kGd rfl aa hc8 (ak fld66_2) ?_
  refine kGd rfl aa hc8 (au 2 ty4 rh) ?_
  refine kPt rfl hc8 rfl ?_
  exact⟨x1.Static,h,atOk⟩
 refine kSkT rfl aa hc8 (kSkT rfl aa hc8 (kPf rfl hc8 rfl ?_))
 exact⟨false,h,atOk⟩
def qy (R:cm):Prop:=(∀(x1:BindScope) (x2:ApiNode) (x4:BindWalker) (b3:Nat) (v5:Value) (r:PX BindWrong (BindScope × BindWalker)),R x1 x2 x4=some r->FnX Tryz.prog 37 [ao b3 0,(al).val x1,(af).val x2] [Own.box b3 av (BindWalkerRaw.mk v5 x4.file x4.method x4.many),Own.vec v5 aq x4.uses 47] (fun q C'=>∃a9,r= .ok a9/\∃w100,q=(al).val a9.1/\C'=[Own.box b3 av (BindWalkerRaw.mk w100 a9.2.file a9.2.method a9.2.many),Own.vec w100 aq a9.2.uses 47]) (fun v=>∃m,r= .bad m/\v=bindV m))
theorem F_bind_walker_walk_step (R:cm) (ih:qy R) (x1:BindScope) (x2:ApiNode) (x4:BindWalker) (b3:Nat) (v5:Value) (r:PX BindWrong (BindScope × BindWalker)) (h:F_bind_walker_walk R x1 x2 x4=some r):FnX Tryz.prog 37 [ao b3 0,(al).val x1,(af).val x2] [Own.box b3 av (BindWalkerRaw.mk v5 x4.file x4.method x4.many),Own.vec v5 aq x4.uses 47] (fun q C'=>∃a9,r= .ok a9/\∃w100,q=(al).val a9.1/\C'=[Own.box b3 av (BindWalkerRaw.mk w100 a9.2.file a9.2.method a9.2.many),Own.vec w100 aq a9.2.uses 47]) (fun v=>∃m,r= .bad m/\v=bindV m):=by
 refine fnx_introR (rs:=[.cell 6 66]) Tryz.func37 rfl Tryz.ntmps37 Tryz.results37 (by decide) (fun s0=> ?_)
 unfold F_bind_walker_walk at h
 refine W_rs ?_
 refine rBox (R:=al) (a:=x1) rfl (fun b6=> ?_)
 refine rBox (R:=af) (a:=x2) rfl (fun b7=> ?_)
 refine bw al66 fun b8=>W_rs (kMv rfl (kUn (au 2 ty66 (Sub.refl _)) ?_))
 refine kUn (au 3 ty64 (Sub.refl _)) ?_
 rcases cn h with⟨m73,hm73,h⟩|⟨x9,hx9,h⟩
 ·refine c6 [0,1] (bind_walker_kind_ok x1 x2 x4 b3 v5 _ hm73) ⟨aa,aa,aa,trivial⟩ (fun q C' hq=> ?_) (fun v9 hv=> ?_)
  ·obtain⟨_,h9,_⟩:=hq;cases h9
  obtain⟨_,h9,rfl⟩:=hv
  cases h9
  obtain rfl:=osj h
  exact .inr ⟨_,rfl,_,rfl,rfl⟩
 refine c6 [0,1] (bind_walker_kind_ok x1 x2 x4 b3 v5 _ hx9) ⟨aa,aa,aa,trivial⟩ (fun q C' hq=> ?_) (fun v9 hv=>by obtain⟨_,h9,_⟩:=hv;cases h9)
 obtain⟨_,h9,v10,rfl,rfl⟩:=hq
 cases h9
 refine rCtx [Own.box b3 av (BindWalkerRaw.mk v10 x9.file x9.method x9.many),Own.vec v10 aq x9.uses 47,Own.box b6 al x1,Own.box b7 af x2,Own.box b8 al (BindScope.mk [] [] false [])] ?_
 refine W_rs (kUn (ak ei) ?_)
 refine kUn (au 3 ty53 bu) ?_
 refine kAsL rfl ?_
 refine bj (fun e C=>∃(x22:List ApiNode),∃(x24:Int),∃(x25:List UInt8),∃(x26:Int),∃(x27:List ApiUse),∃(v23:Value),nb R x1 x2 x22 x24 x25 x26 x27=some r/\At [(0,ao b3 0),(4,ao b6 0),(5,ao b7 0),(6,ao b8 0),(7,ar af x22)] [Own.box b3 av (BindWalkerRaw.mk v23 x24 x25 x26),Own.vec v23 aq x27 47,Own.box b6 al x1,Own.box b7 af x2,Own.box b8 al (BindScope.mk [] [] false [])] e C) ?_ ?_
 ·rintro e C ⟨x22,x24,x25,x26,x27,v23,h,hat9⟩
  refine W_at hat9 ?_
  unfold nb at h
  refine W_rs (kMv rfl (kUn (au 2 ty66 (Sub.refl _)) ?_))
  refine kUn (au 3 ty64 (Sub.refl _)) ?_
  rcases cn h with⟨m72,hm72,h⟩|⟨x28,hx28,h⟩
  ·refine c6 [0,1] (bind_walker_own_ok x1 x2 (BindWalker.mk x27 x24 x25 x26) b3 v23 _ hm72) ⟨aa,aa,aa,trivial⟩ (fun q C' hq=> ?_) (fun v9 hv=> ?_)
   ·obtain⟨_,h9,_⟩:=hq;cases h9
   obtain⟨_,h9,rfl⟩:=hv
   cases h9
   obtain rfl:=osj h
   exact .inr ⟨_,rfl,_,rfl,rfl⟩
  refine c6 [0,1] (bind_walker_own_ok x1 x2 (BindWalker.mk x27 x24 x25 x26) b3 v23 _ hx28) ⟨aa,aa,aa,trivial⟩ (fun q C' hq=> ?_) (fun v9 hv=>by obtain⟨_,h9,_⟩:=hv;cases h9)
  obtain⟨_,h9,v29,rfl,rfl⟩:=hq
  cases h9
  refine rCtx [Own.box b3 av (BindWalkerRaw.mk v29 x28.file x28.method x28.many),Own.vec v29 aq x28.uses 47,Own.box b6 al x1,Own.box b7 af x2,Own.box b8 al (BindScope.mk [] [] false [])] ?_
  refine bj (fun e C=>∃(x31:Bool),nc R x28 x22 x2 x1 x31=some r/\At [(0,ao b3 0),(4,ao b6 0),(5,ao b7 0),(6,ao b8 0),(7,ar af x22),(8,Pr.bool x31)] [Own.box b3 av (BindWalkerRaw.mk v29 x28.file x28.method x28.many),Own.vec v29 aq x28.uses 47,Own.box b6 al x1,Own.box b7 af x2,Own.box b8 al (BindScope.mk [] [] false [])] e C) ?_ ?_
  ·rintro e C ⟨x31,h,hat8⟩
   refine W_at hat8 ?_
   unfold nc at h
   refine bj (fun e C=>∃(x32:List UInt8),∃(b33:Nat),rk R x31 x22 x2 x1 x28 x32=some r/\At [(0,ao b3 0),(4,ao b6 0),(5,ao b7 0),(6,ao b8 0),(7,ar af x22),(8,Pr.bool x31),(9,ao b33 0)] [Own.box b3 av (BindWalkerRaw.mk v29 x28.file x28.method x28.many),Own.vec v29 aq x28.uses 47,Own.box b6 al x1,Own.box b7 af x2,Own.box b8 al (BindScope.mk [] [] false []),Own.box b33 ag (ApiEntity.mk 4 x32 x2.Text x28.method x2.Type_ false [] x28.file x2.At)] e C) ?_ ?_
   ·rintro e C ⟨x32,b33,h,hat7⟩
    refine W_at hat7 ?_
    unfold rk at h
    refine W_rs (kUn (au 2 ty66 (Sub.refl _)) ?_)
    refine bw al66 fun b34=>ax 6 rfl rfl (Upd.refl _) rfl Tryz.sizeOf66 ?_
    refine bj (fun e C=>∃(x37:Int),∃(x38:BindScope),j9 R x22 x2 x1 x28 x31 x32 x37 x38=some r/\At [(0,ao b3 0),(4,ao b6 0),(5,ao b7 0),(6,ao b8 0),(7,ar af x22),(8,Pr.bool x31),(9,ao b33 0),(10,ao b34 0)] [Own.box b3 av (BindWalkerRaw.mk v29 x28.file x28.method x37),Own.vec v29 aq x28.uses 47,Own.box b6 al x1,Own.box b7 af x2,Own.box b8 al (BindScope.mk [] [] false []),Own.box b33 ag (ApiEntity.mk 4 x32 x2.Text x28.method x2.Type_ false [] x28.file x2.At),Own.box b34 al x38] e C) ?_ ?_
    ·rintro e C ⟨x37,x38,h,hat6⟩
     refine W_at hat6 ?_
     unfold j9 at h
     refine ba (W_rs (kMvL rfl (kUn (gy rfl Tryz.underlying53) ?_)))
     refine kMv rfl (a5 ?_)
     obtain⟨z3l,hz3,h⟩:=aj h
     obtain⟨n3,hN3⟩:=bt hz3
     refine cv 1 (fun e C=>∃(x41:Int),∃(x42:List UInt8),∃(x43:Int),∃(x45:List ApiUse),∃(x44:BindScope),∃(v40:Value),rj R x31 x1 x32 x2 x28 x41 x42 x43 x45 x44=some r/\At [(0,ao b3 0),(4,ao b6 0),(6,ao b8 0),(8,Pr.bool x31),(9,ao b33 0)] [Own.box b3 av (BindWalkerRaw.mk v40 x41 x42 x43),Own.vec v40 aq x45 47,Own.box b6 al x1,Own.box b7 af x2,Own.box b8 al (BindScope.mk [] [] false []),Own.box b33 ag (ApiEntity.mk 4 x32 x2.Text x28.method x2.Type_ false [] x28.file x2.At),Own.box b34 al x44] e C) ?_ ?_
     ·rintro e C ⟨x41,x42,x43,x45,x44,v40,h,hat2⟩
      refine W_at hat2 ?_
      unfold rj at h
      refine bj (fun e C=>∃(x71:BindScope),nf R x45 x41 x42 x43 x71=some r/\At [(0,ao b3 0),(4,ao b6 0),(6,ao b8 0)] [Own.box b3 av (BindWalkerRaw.mk v40 x41 x42 x43),Own.vec v40 aq x45 47,Own.box b6 al x71,Own.box b7 af x2,Own.box b8 al (BindScope.mk [] [] false []),Own.box b33 ag (ApiEntity.mk 4 x32 x2.Text x28.method x2.Type_ false [] x28.file x2.At),Own.box b34 al x44] e C) ?_ ?_
      ·rintro e C ⟨x71,h,hat1⟩
       refine W_at hat1 ?_
       unfold nf at h
       refine W_rs (kUn (au 2 ty66 (Sub.refl _)) ?_)
       refine ax 4 rfl rfl (Upd.refl _) rfl Tryz.sizeOf66 ?_
       obtain rfl:=osj h
       exact bh (.inl ⟨.inl rfl,[(al).val x71],⟨yBox 4 ty66 aa,trivial⟩,_,Pick.of [0,1] rfl,_,rfl,v40,rfl,rfl⟩)
      refine W_rs (kMv rfl ?_)
      refine a8 h rfl (fun _ h=> ?_) (fun _ h=> ?_)
      ·obtain⟨x67,hx67,h⟩:=aj h
       obtain⟨x69,hx69,h⟩:=aj h
       refine W_drawA [0,1,3,0,8,31,63,127] [[],[Own.box b6 al x1],[],[Own.box b33 ag (ApiEntity.mk 4 x32 x2.Text x28.method x2.Type_ false [] x28.file x2.At)],[],[],[],[]] hmx (by kernel_rfl) (by kernel_rfl) (by kernel_rfl) rfl ?_
       refine aq0 0 1 (out:=ao b6 3) rfl (fun C9=>(ak fld66_3)) ?_
       refine aq1 1 3 2 (out:=ar ag x1.Seen) rfl rfl (fun C9 i9 h9=>(au (R:=al) (a:=x1) (R':=bl ag) i9 ty38 subBindScope_Seen (hi:=h9))) ?_
       refine aq1 3 11 5 (out:=(ag).val (ApiEntity.mk 4 x32 x2.Text x28.method x2.Type_ false [] x28.file x2.At)) rfl rfl (fun C9 i9 h9=>(au (R:=ag) (a:=(ApiEntity.mk 4 x32 x2.Text x28.method x2.Type_ false [] x28.file x2.At)) (R':=ag) i9 ty49 (Sub.refl _) (hi:=h9))) ?_
       refine aq0 4 27 (out:=ar ag ([(ApiEntity.mk 4 x32 x2.Text x28.method x2.Type_ false [] x28.file x2.At)]:List ApiEntity)) rfl (fun C9=>(cr (R:=ag) (a:=(ApiEntity.mk 4 x32 x2.Text x28.method x2.Type_ false [] x28.file x2.At)) el38 (Nat.le_of_ble_eq_true rfl))) ?_
       refine ae 2 31 rfl (fun g9=> ?_)
       refine j1 [] (slices_Clone_ok x1.Seen _ hx67) (fun q C' hq=> ?_)
       obtain⟨v68,rfl,rfl⟩:=hq
       refine rCtx [Own.vec v68 ag x67 49,Own.box b3 av (BindWalkerRaw.mk v40 x41 x42 x43),Own.vec v40 aq x45 47,Own.box b6 al x1,Own.box b7 af x2,Own.box b8 al (BindScope.mk [] [] false []),Own.box b33 ag (ApiEntity.mk 4 x32 x2.Text x28.method x2.Type_ false [] x28.file x2.At),Own.box b34 al x44] ?_
       refine j2 _ [Own.box b33 ag (ApiEntity.mk 4 x32 x2.Text x28.method x2.Type_ false [] x28.file x2.At)] (nu 6 dt) ?_
       refine ae 5 63 rfl (fun g9=> ?_)
       refine ff 0 el38 hx69 (fun v70=> ?_)
       refine j2 _ [] dt ?_
       refine aq0 6 127 (out:=ao b6 3) rfl (fun C9=>(ak fld66_3)) ?_
       refine ae 7 255 rfl (fun g9=> ?_)
       refine rStoreRel (Rb:=al) (R:=ag) (a:=x1) 0 2 Tryz.sizeOf38 updBindScope_Seen ?_
       refine j2 .any [] dt ?_
       refine ar_end ?_
       exact⟨{x1 with Seen:=x69},h,atOk⟩
      refine az ?_
      exact⟨x1,h,atOk⟩
     refine da (fun m e C=>∃(x39:Int),∃(x41:Int),∃(x42:List UInt8),∃(x43:Int),∃(x44:BindScope),∃(x45:List ApiUse),∃(v40:Value),dn (fun s=>na R x22 x2 x1 s.1 s.2.1 s.2.2.1 s.2.2.2.1 s.2.2.2.2.1 s.2.2.2.2.2) m (x39,x41,x42,x43,x44,x45)=some z3l/\At [(0,ao b3 0),(4,ao b6 0),(5,ao b7 0),(6,ao b8 0),(8,Pr.bool x31),(9,ao b33 0),(10,ao b34 0),(94,ar af x22),(95,Pr.i64 (x22.length:Int)),(96,Pr.i64 x39)] [Own.box b3 av (BindWalkerRaw.mk v40 x41 x42 x43),Own.vec v40 aq x45 47,Own.box b6 al x1,Own.box b7 af x2,Own.box b8 al (BindScope.mk [] [] false []),Own.box b33 ag (ApiEntity.mk 4 x32 x2.Text x28.method x2.Type_ false [] x28.file x2.At),Own.box b34 al x44] e C) n3 ⟨0,x28.file,x28.method,x37,x38,x28.uses,v29,hN3,⟨⟨aa,aa,aa,aa,aa,aa,aa,aa,aa,aa,trivial⟩,Pick.refl _⟩⟩ ?_
     rintro m e C ⟨x39,x41,x42,x43,x44,x45,v40,hN3,hatl3⟩
     refine W_at hatl3 ?_
     obtain⟨m3,w3l,rfl,h3l,hn3,ho3⟩:=bk hN3
     replace h3l:na R x22 x2 x1 x39 x41 x42 x43 x44 x45=some w3l:=h3l
     unfold na at h3l
     refine W_rs (kIn rfl rfl rfl (ba ?_))
     refine a8 h3l rfl (fun _ h3l=> ?_) (fun _ h3l=> ?_)
     ·refine az (ba (a5 (W_rs ?_)))
      obtain⟨x54,hx54,h3l⟩:=aj h3l
      refine kUn (dh Tryz.underlying53 Tryz.sizeOf64 hx54) ?_
      refine kUn (cl ty64) ?_
      refine bw al64 fun b55=>ax 7 rfl rfl (Upd.refl _) rfl Tryz.sizeOf64 ?_
      refine bj (fun e C=>∃(x60:List UInt8),∃(x61:Int),ne R x44 x54 x45 x41 x39 x60 x61=some w3l/\At [(0,ao b3 0),(4,ao b6 0),(5,ao b7 0),(6,ao b8 0),(8,Pr.bool x31),(9,ao b33 0),(10,ao b34 0),(12,ao b55 0),(94,ar af x22),(95,Pr.i64 (x22.length:Int)),(96,Pr.i64 x39)] [Own.box b3 av (BindWalkerRaw.mk v40 x41 x60 x61),Own.vec v40 aq x45 47,Own.box b6 al x1,Own.box b7 af x2,Own.box b8 al (BindScope.mk [] [] false []),Own.box b33 ag (ApiEntity.mk 4 x32 x2.Text x28.method x2.Type_ false [] x28.file x2.At),Own.box b34 al x44,Own.box b55 af x54] e C) ?_ ?_
      ·rintro e C ⟨x60,x61,h3l,hat4⟩
       refine W_at hat4 ?_
       unfold ne at h3l
       refine W_r (kMv rfl (kUn (au 6 ty66 (Sub.refl _)) ?_))
       refine kUn (au 7 ty64 (Sub.refl _)) ?_
       rcases cn h3l with⟨m65,hm65,h3l⟩|⟨⟨x62,x63⟩,hx62,h3l⟩
       ·refine c6 [0,1] (ih x44 x54 (BindWalker.mk x45 x41 x60 x61) b3 v40 _ hm65) ⟨aa,aa,aa,trivial⟩ (fun q C' hq=> ?_) (fun v9 hv=> ?_)
        ·obtain⟨_,h9,_⟩:=hq;cases h9
        obtain⟨_,h9,rfl⟩:=hv
        cases h9
        obtain rfl:=ho3 _ (Option.some.inj h3l).symm
        replace h:some (.bad m65)=some r:=h
        obtain rfl:=osj h
        exact .inr ⟨_,rfl,_,rfl,rfl⟩
       refine c6 [0,1] (ih x44 x54 (BindWalker.mk x45 x41 x60 x61) b3 v40 _ hx62) ⟨aa,aa,aa,trivial⟩ (fun q C' hq=> ?_) (fun v9 hv=>by obtain⟨_,h9,_⟩:=hv;cases h9)
       obtain⟨_,h9,v64,rfl,rfl⟩:=hq
       cases h9
       refine rCtx [Own.box b3 av (BindWalkerRaw.mk v64 x63.file x63.method x63.many),Own.vec v64 aq x63.uses 47,Own.box b6 al x1,Own.box b7 af x2,Own.box b8 al (BindScope.mk [] [] false []),Own.box b33 ag (ApiEntity.mk 4 x32 x2.Text x28.method x2.Type_ false [] x28.file x2.At),Own.box b34 al x44,Own.box b55 af x54] ?_
       refine ax 6 rfl rfl (Upd.refl _) rfl Tryz.sizeOf66 (W_r (kIn rfl rfl rfl (kMv rfl ?_)))
       exact⟨m3,Nat.lt_succ_self _,w64 (x39+1),x63.file,x63.method,x63.many,x62,x63.uses,v64,hn3 _ (Option.some.inj h3l).symm,⟨⟨aa,aa,aa,aa,aa,aa,aa,aa,aa,aa,trivial⟩,Pick.of [0,1,2,3,4,5,6] rfl⟩⟩
      refine bj (fun e C=>∃(x57:Bool),nd R x1 x54 x44 x45 x41 x39 x42 x43 x57=some w3l/\At [(0,ao b3 0),(4,ao b6 0),(5,ao b7 0),(6,ao b8 0),(8,Pr.bool x31),(9,ao b33 0),(10,ao b34 0),(12,ao b55 0),(94,ar af x22),(95,Pr.i64 (x22.length:Int)),(96,Pr.i64 x39),(107,Pr.bool x57)] [Own.box b3 av (BindWalkerRaw.mk v40 x41 x42 x43),Own.vec v40 aq x45 47,Own.box b6 al x1,Own.box b7 af x2,Own.box b8 al (BindScope.mk [] [] false []),Own.box b33 ag (ApiEntity.mk 4 x32 x2.Text x28.method x2.Type_ false [] x28.file x2.At),Own.box b34 al x44,Own.box b55 af x54] e C) ?_ ?_
      ·rintro e C ⟨x57,h3l,hat5⟩
       refine W_at hat5 ?_
       unfold nd at h3l
       refine a8 h3l rfl (fun _ h3l=> ?_) (fun _ h3l=> ?_)
       ·refine W_r (kMv rfl (kMv rfl (kUn (ak fld66_1) ?_)))
        refine kUn (au 2 ty9 jd) ?_
        refine kUn (ak ej) ?_
        refine kUn (au 7 ty9 cd) ?_
        refine ct h3l (decls_Method_ok x1.Class x54.Text) rfl fun x59 _ h3l=>kNp rfl (kUn (ak fld76_2) ?_)
        refine ax 0 rfl rfl updBindWalkerRaw_method rfl Tryz.sizeOf9 ?_
        refine rCtx [Own.box b3 av (BindWalkerRaw.mk v40 x41 x59 x43),Own.vec v40 aq x45 47,Own.box b6 al x1,Own.box b7 af x2,Own.box b8 al (BindScope.mk [] [] false []),Own.box b33 ag (ApiEntity.mk 4 x32 x2.Text x28.method x2.Type_ false [] x28.file x2.At),Own.box b34 al x44,Own.box b55 af x54] ?_
        refine kNp rfl (kUn (ak fld76_3) ?_)
        refine ax 0 rfl rfl updBindWalkerRaw_many rfl Tryz.sizeOf3 ?_
        refine rCtx [Own.box b3 av (BindWalkerRaw.mk v40 x41 x59 0),Own.vec v40 aq x45 47,Own.box b6 al x1,Own.box b7 af x2,Own.box b8 al (BindScope.mk [] [] false []),Own.box b33 ag (ApiEntity.mk 4 x32 x2.Text x28.method x2.Type_ false [] x28.file x2.At),Own.box b34 al x44,Own.box b55 af x54] ?_
        exact⟨x59,0,h3l,atOk⟩
       refine az ?_
       exact⟨x42,x43,h3l,atOk⟩
      refine W_r (kUn (ak dx) ?_)
      refine kUn (au 3 ty3 bo) ?_
      refine kIn rfl rfl rfl (kMv rfl ?_)
      rcases bg h3l with⟨hc56,h3l⟩|⟨hc56,h3l⟩
      ·refine kGd rfl aa hc56 (ak dx) ?_
       refine kGd rfl aa hc56 (au 7 ty3 bo) ?_
       refine kGd rfl aa hc56 (qInt rfl rfl rfl) (kPt rfl hc56 rfl ?_)
       exact⟨x54.Kind==3,h3l,atOk⟩
      refine kSkT rfl aa hc56 (kSkT rfl aa hc56 (kSkT rfl aa hc56 (kPf rfl hc56 rfl ?_)))
      exact⟨false,h3l,atOk⟩
     refine db ?_
     obtain rfl:=ho3 _ (Option.some.inj h3l).symm
     exact⟨x41,x42,x43,x45,x44,v40,h,atOk⟩
    refine a5 (W_rs (kMv rfl (kAs rfl ?_)))
    refine a8 h rfl (fun _ h=> ?_) (fun _ h=> ?_)
    ·refine W_r (kMv rfl (kNp rfl (kUn (ak fld76_3) ?_)))
     refine kUn (au 0 ty3 o9) ?_
     refine kIn rfl rfl rfl (kNp rfl (kUn (ak fld76_3) ?_))
     refine ax 0 rfl rfl updBindWalkerRaw_many rfl Tryz.sizeOf3 ?_
     refine rCtx [Own.box b3 av (BindWalkerRaw.mk v29 x28.file x28.method (w64 (x28.many+1))),Own.vec v29 aq x28.uses 47,Own.box b6 al x1,Own.box b7 af x2,Own.box b8 al (BindScope.mk [] [] false []),Own.box b33 ag (ApiEntity.mk 4 x32 x2.Text x28.method x2.Type_ false [] x28.file x2.At),Own.box b34 al x1] ?_
     exact⟨w64 (x28.many+1),x1,h,atOk⟩
    refine W_rs (kUn (ak dx) ?_)
    refine kUn (au 3 ty3 bo) ?_
    refine kIn rfl rfl rfl (kAs rfl ?_)
    refine a8 h rfl (fun _ h=> ?_) (fun _ h=> ?_)
    ·refine W_r (kUn (ak fld64_3) ?_)
     refine kUn (au 3 ty2 subApiNode_N) ?_
     refine kIn rfl rfl rfl (kUn (ak fld66_2) ?_)
     refine ax 6 rfl rfl rf rfl Tryz.sizeOf4 ?_
     exact⟨x28.many,{x1 with Static:=x2.N==1},h,atOk⟩
    refine az ?_
    exact⟨x28.many,x1,h,atOk⟩
   obtain⟨x32,hx32,h⟩:=aj h
   refine W_drawG 1 (fun B S=>[Own.box b3 av (BindWalkerRaw.mk v29 x28.file x28.method x28.many),Own.vec v29 aq x28.uses 47,Own.box b6 al x1,Own.box b7 af x2,Own.box b8 al (BindScope.mk [] [] false []),(cond (S 25) (Own.box (B 24) ag (ApiEntity.mk 4 x32 x2.Text x28.method x2.Type_ false [] x28.file x2.At)) (cond (S 24) (Own.box (B 24) ag (ApiEntity.mk 0 [] [] [] [] false [] 0 0)) Own.nil))]) (fun B=>[Own.box b3 av (BindWalkerRaw.mk v29 x28.file x28.method x28.many),Own.vec v29 aq x28.uses 47,Own.box b6 al x1,Own.box b7 af x2,Own.box b8 al (BindScope.mk [] [] false []),Own.box (B 24) ag (ApiEntity.mk 4 x32 x2.Text x28.method x2.Type_ false [] x28.file x2.At)]) [ao b3 0,ao b3 0,ao b3 2,bq x28.method,ao b3 0,ao b3 0,ao b3 3,Pr.i64 x28.many,bq x32,ao b7 1,bq x2.Text,ao b3 0,ao b3 0,ao b3 2,bq x28.method,ao b7 2,bq x2.Type_,ao b3 0,ao b3 0,ao b3 1,Pr.i64 x28.file,ao b7 6,Pr.i64 x2.At,(ag).val (ApiEntity.mk 4 x32 x2.Text x28.method x2.Type_ false [] x28.file x2.At),.any,.any] (fun k=>([0,0,0,0,0,0,0,0,0,0,0,0,0,0,0,0,0,0,0,0,0,0,0,0,2,1]:List Nat).getD k 0) hmx (by kernel_rfl) (by kernel_rfl) (fun _=>rfl) (fun B S S' h=>by show([Own.box b3 av (BindWalkerRaw.mk v29 x28.file x28.method x28.many),Own.vec v29 aq x28.uses 47,Own.box b6 al x1,Own.box b7 af x2,Own.box b8 al (BindScope.mk [] [] false []),(cond (S 25) (Own.box (B 24) ag (ApiEntity.mk 4 x32 x2.Text x28.method x2.Type_ false [] x28.file x2.At)) (cond (S 24) (Own.box (B 24) ag (ApiEntity.mk 0 [] [] [] [] false [] 0 0)) Own.nil))]:Ctx)=[Own.box b3 av (BindWalkerRaw.mk v29 x28.file x28.method x28.many),Own.vec v29 aq x28.uses 47,Own.box b6 al x1,Own.box b7 af x2,Own.box b8 al (BindScope.mk [] [] false []),(cond (S' 25) (Own.box (B 24) ag (ApiEntity.mk 4 x32 x2.Text x28.method x2.Type_ false [] x28.file x2.At)) (cond (S' 24) (Own.box (B 24) ag (ApiEntity.mk 0 [] [] [] [] false [] 0 0)) Own.nil))];simp only[h 24 (Nat.le_of_ble_eq_true (by kernel_rfl)),h 25 (Nat.le_of_ble_eq_true (by kernel_rfl))]) (fun _=>rfl) (fun B=> ?_)
   refine gq1 (fun S hK=>ef) ?_
   refine gq1 (fun S hK=>qNilP) ?_
   refine gq1 (fun S hK=>(ak fld76_2)) ?_
   refine gq1 (fun S hK=>(au (R:=av) (a:=(BindWalkerRaw.mk v29 x28.file x28.method x28.many)) (R':=a7) 0 ty9 nk (hi:=rfl))) ?_
   refine gq1 (fun S hK=>ef) ?_
   refine gq1 (fun S hK=>qNilP) ?_
   refine gq1 (fun S hK=>(ak fld76_3)) ?_
   refine gq1 (fun S hK=>(au (R:=av) (a:=(BindWalkerRaw.mk v29 x28.file x28.method x28.many)) (R':=Rp.int .i64) 0 ty3 o9 (hi:=rfl))) ?_
   refine gq1 (fun S hK=>(c5 (decls_Local_ok x28.method x28.many _ hx32))) ?_
   refine gq1 (fun S hK=>(ak ej)) ?_
   refine gq1 (fun S hK=>(au (R:=af) (a:=x2) (R':=a7) 3 ty9 cd (hi:=rfl))) ?_
   refine gq1 (fun S hK=>ef) ?_
   refine gq1 (fun S hK=>qNilP) ?_
   refine gq1 (fun S hK=>(ak fld76_2)) ?_
   refine gq1 (fun S hK=>(au (R:=av) (a:=(BindWalkerRaw.mk v29 x28.file x28.method x28.many)) (R':=a7) 0 ty9 nk (hi:=rfl))) ?_
   refine gq1 (fun S hK=>(ak pz)) ?_
   refine gq1 (fun S hK=>(au (R:=af) (a:=x2) (R':=a7) 3 ty9 d8 (hi:=rfl))) ?_
   refine gq1 (fun S hK=>ef) ?_
   refine gq1 (fun S hK=>qNilP) ?_
   refine gq1 (fun S hK=>(ak fld76_1)) ?_
   refine gq1 (fun S hK=>(au (R:=av) (a:=(BindWalkerRaw.mk v29 x28.file x28.method x28.many)) (R':=Rp.int .i64) 0 ty3 pa (hi:=rfl))) ?_
   refine gq1 (fun S hK=>(ak mb)) ?_
   refine gq1 (fun S hK=>(au (R:=af) (a:=x2) (R':=Rp.int .i64) 3 ty3 eu (hi:=rfl))) ?_
   refine gq1 (fun S hK=>(fu st49 ⟨(ApiEntity.mk 4 [] [] [] [] false [] 0 0),⟨_,rfl,rfl,fun j fd hj hf=>by match j,hj with| 0,h=>exact absurd rfl h| 1,_=>cases hf;rfl| 2,_=>cases hf;rfl| 3,_=>cases hf;rfl| 4,_=>cases hf;rfl| 5,_=>cases hf;rfl| 6,_=>cases hf;rfl| 7,_=>cases hf;rfl| 8,_=>cases hf;rfl|_+9,_=>cases hf⟩,⟨(ApiEntity.mk 4 x32 [] [] [] false [] 0 0),⟨_,rfl,rfl,fun j fd hj hf=>by match j,hj with| 0,_=>cases hf;rfl| 1,h=>exact absurd rfl h| 2,_=>cases hf;rfl| 3,_=>cases hf;rfl| 4,_=>cases hf;rfl| 5,_=>cases hf;rfl| 6,_=>cases hf;rfl| 7,_=>cases hf;rfl| 8,_=>cases hf;rfl|_+9,_=>cases hf⟩,⟨(ApiEntity.mk 4 x32 x2.Text [] [] false [] 0 0),⟨_,rfl,rfl,fun j fd hj hf=>by match j,hj with| 0,_=>cases hf;rfl| 1,_=>cases hf;rfl| 2,h=>exact absurd rfl h| 3,_=>cases hf;rfl| 4,_=>cases hf;rfl| 5,_=>cases hf;rfl| 6,_=>cases hf;rfl| 7,_=>cases hf;rfl| 8,_=>cases hf;rfl|_+9,_=>cases hf⟩,⟨(ApiEntity.mk 4 x32 x2.Text x28.method [] false [] 0 0),⟨_,rfl,rfl,fun j fd hj hf=>by match j,hj with| 0,_=>cases hf;rfl| 1,_=>cases hf;rfl| 2,_=>cases hf;rfl| 3,h=>exact absurd rfl h| 4,_=>cases hf;rfl| 5,_=>cases hf;rfl| 6,_=>cases hf;rfl| 7,_=>cases hf;rfl| 8,_=>cases hf;rfl|_+9,_=>cases hf⟩,⟨(ApiEntity.mk 4 x32 x2.Text x28.method x2.Type_ false [] 0 0),⟨_,rfl,rfl,fun j fd hj hf=>by match j,hj with| 0,_=>cases hf;rfl| 1,_=>cases hf;rfl| 2,_=>cases hf;rfl| 3,_=>cases hf;rfl| 4,h=>exact absurd rfl h| 5,_=>cases hf;rfl| 6,_=>cases hf;rfl| 7,_=>cases hf;rfl| 8,_=>cases hf;rfl|_+9,_=>cases hf⟩,⟨(ApiEntity.mk 4 x32 x2.Text x28.method x2.Type_ false [] x28.file 0),⟨_,rfl,rfl,fun j fd hj hf=>by match j,hj with| 0,_=>cases hf;rfl| 1,_=>cases hf;rfl| 2,_=>cases hf;rfl| 3,_=>cases hf;rfl| 4,_=>cases hf;rfl| 5,_=>cases hf;rfl| 6,_=>cases hf;rfl| 7,h=>exact absurd rfl h| 8,_=>cases hf;rfl|_+9,_=>cases hf⟩,⟨(ApiEntity.mk 4 x32 x2.Text x28.method x2.Type_ false [] x28.file x2.At),⟨_,rfl,rfl,fun j fd hj hf=>by match j,hj with| 0,_=>cases hf;rfl| 1,_=>cases hf;rfl| 2,_=>cases hf;rfl| 3,_=>cases hf;rfl| 4,_=>cases hf;rfl| 5,_=>cases hf;rfl| 6,_=>cases hf;rfl| 7,_=>cases hf;rfl| 8,h=>exact absurd rfl h|_+9,_=>cases hf⟩,rfl⟩⟩⟩⟩⟩⟩⟩)) ?_
   refine gqA (fun S hK=>⟨fun B' hB=>by show([Own.box b3 av (BindWalkerRaw.mk v29 x28.file x28.method x28.many),Own.vec v29 aq x28.uses 47,Own.box b6 al x1,Own.box b7 af x2,Own.box b8 al (BindScope.mk [] [] false []),(cond (S 25) (Own.box (B' 24) ag (ApiEntity.mk 4 x32 x2.Text x28.method x2.Type_ false [] x28.file x2.At)) (cond (S 24) (Own.box (B' 24) ag (ApiEntity.mk 0 [] [] [] [] false [] 0 0)) Own.nil))]:Ctx)=[Own.box b3 av (BindWalkerRaw.mk v29 x28.file x28.method x28.many),Own.vec v29 aq x28.uses 47,Own.box b6 al x1,Own.box b7 af x2,Own.box b8 al (BindScope.mk [] [] false []),(cond (S 25) (Own.box (B 24) ag (ApiEntity.mk 4 x32 x2.Text x28.method x2.Type_ false [] x28.file x2.At)) (cond (S 24) (Own.box (B 24) ag (ApiEntity.mk 0 [] [] [] [] false [] 0 0)) Own.nil))];simp only[hK.me,hK.F 25 (by kernel_rfl),cond_false],fun s ρ hg _=>sAlloc (R:=ag) (z:=(ApiEntity.mk 0 [] [] [] [] false [] 0 0)) 5 Tryz.zeroValue49 (fun _=>⟨_,⟨_,_,rfl,rfl,⟨_,_,rfl,rfl,⟨_,_,rfl,rfl,⟨_,_,rfl,rfl,⟨_,_,rfl,rfl,⟨_,_,rfl,rfl,⟨_,_,rfl,⟨_,rfl,none,0,rfl,⟨Nat.le_refl _,fun _=>rfl⟩,.inl rfl⟩,⟨_,_,rfl,rfl,⟨_,_,rfl,rfl,rfl⟩⟩⟩⟩⟩⟩⟩⟩⟩,rfl⟩) (congrArg some ((condF (hK.F 25 (by kernel_rfl)) _ _).trans (condF (hK.me) _ _))) (fun b=>by show([Own.box b3 av (BindWalkerRaw.mk v29 x28.file x28.method x28.many),Own.vec v29 aq x28.uses 47,Own.box b6 al x1,Own.box b7 af x2,Own.box b8 al (BindScope.mk [] [] false []),(cond (S 25) (Own.box b ag (ApiEntity.mk 4 x32 x2.Text x28.method x2.Type_ false [] x28.file x2.At)) (Own.box b ag (ApiEntity.mk 0 [] [] [] [] false [] 0 0)))]:Ctx)=_;rw[hK.F 25 (by kernel_rfl)];rfl) s ρ hg⟩) ?_
   refine gqS (fun S hK=>SStep.as (dk (R:=ag) (R':=ag) (a:=(ApiEntity.mk 0 [] [] [] [] false [] 0 0)) (y:=(ApiEntity.mk 4 x32 x2.Text x28.method x2.Type_ false [] x28.file x2.At)) 5 Tryz.sizeOf49 (Upd.refl _) (congrArg some ((condF (hK.me) _ _).trans (condT (hK.T 24 (by kernel_rfl)) _ _)))) (by show(_:Ctx)=[Own.box b3 av (BindWalkerRaw.mk v29 x28.file x28.method x28.many),Own.vec v29 aq x28.uses 47,Own.box b6 al x1,Own.box b7 af x2,Own.box b8 al (BindScope.mk [] [] false []),Own.box (B 24) ag (ApiEntity.mk 4 x32 x2.Text x28.method x2.Type_ false [] x28.file x2.At)];rfl)) ?_
   exact⟨x32,(B 24),h,atOk⟩
  refine W_r (kUn (ak dx) ?_)
  refine kUn (au 3 ty3 bo) ?_
  refine kIn rfl rfl rfl (kMv rfl ?_)
  rcases bg h with⟨hc30,h⟩|⟨hc30,h⟩
  ·refine kSkF rfl aa hc30 (kSkF rfl aa hc30 (kSkF rfl aa hc30 (kPt rfl hc30 rfl (kAs rfl ?_))))
   exact⟨true,h,atOk⟩
  refine kGd rfl aa hc30 (ak dx) ?_
  refine kGd rfl aa hc30 (au 3 ty3 bo) ?_
  refine kGd rfl aa hc30 (qInt rfl rfl rfl) (kPf rfl hc30 rfl (kAs rfl ?_))
  exact⟨x2.Kind==6,h,atOk⟩
 refine bj (fun e C=>∃(x14:Bool),js R x2 x1 x9 x14=some r/\At [(0,ao b3 0),(4,ao b6 0),(5,ao b7 0),(6,ao b8 0),(7,ar af x2.Kids),(31,Pr.bool x14)] [Own.box b3 av (BindWalkerRaw.mk v10 x9.file x9.method x9.many),Own.vec v10 aq x9.uses 47,Own.box b6 al x1,Own.box b7 af x2,Own.box b8 al (BindScope.mk [] [] false [])] e C) ?_ ?_
 ·rintro e C ⟨x14,h,hat11⟩
  refine W_at hat11 ?_
  unfold js at h
  refine a8 h rfl (fun _ h=> ?_) (fun _ h=> ?_)
  ·refine bj (fun e C=>∃(x18:BindWalker),∃(v19:Value),qc R x2 x1 x18=some r/\At [(0,ao b3 0),(4,ao b6 0),(5,ao b7 0),(6,ao b8 0),(7,ar af x2.Kids)] [Own.box b3 av (BindWalkerRaw.mk v19 x18.file x18.method x18.many),Own.vec v19 aq x18.uses 47,Own.box b6 al x1,Own.box b7 af x2,Own.box b8 al (BindScope.mk [] [] false [])] e C) ?_ ?_
   ·rintro e C ⟨x18,v19,h,hat10⟩
    refine W_at hat10 ?_
    unfold qc at h
    refine W_r (kMvL rfl ?_)
    obtain⟨x21,hx21,h⟩:=aj h
    refine kUn (qLSubL Tryz.underlying53 Tryz.sizeOf64 hx21) ?_
    refine kAsL rfl ?_
    exact⟨x21,x18.file,x18.method,x18.many,x18.uses,v19,h,atOk⟩
   refine e7 5 hmx (by kernel_rfl) (by kernel_rfl) ?_
   refine lUn (hMvA rfl) (lUn (au 2 ty66 (Sub.refl _)) ?_)
   refine lUn (hMvL rfl) ?_
   obtain⟨x16,hx16,h⟩:=aj h
   refine lUn (dh Tryz.underlying53 Tryz.sizeOf64 hx16) ?_
   refine lUn (cl ty64) ?_
   rcases cn h with⟨m20,hm20,h⟩|⟨⟨x17,x18⟩,hx17,h⟩
   ·refine c6 [0,1] (ih x1 x16 x9 b3 v10 _ hm20) ⟨aa,aa,aa,trivial⟩ (fun q C' hq=> ?_) (fun v9 hv=> ?_)
    ·obtain⟨_,h9,_⟩:=hq;cases h9
    obtain⟨_,h9,rfl⟩:=hv
    cases h9
    obtain rfl:=osj h
    exact .inr ⟨_,rfl,_,rfl,rfl⟩
   refine c6 [0,1] (ih x1 x16 x9 b3 v10 _ hx17) ⟨aa,aa,aa,trivial⟩ (fun q C' hq=> ?_) (fun v9 hv=>by obtain⟨_,h9,_⟩:=hv;cases h9)
   obtain⟨_,h9,v19,rfl,rfl⟩:=hq
   cases h9
   refine rCtx [Own.box b3 av (BindWalkerRaw.mk v19 x18.file x18.method x18.many),Own.vec v19 aq x18.uses 47,Own.box b6 al x1,Own.box b7 af x2,Own.box b8 al (BindScope.mk [] [] false [])] ?_
   exact⟨x18,v19,h,atOk⟩
  refine az ?_
  exact⟨x2.Kids,x9.file,x9.method,x9.many,x9.uses,v10,h,atOk⟩
 refine W_r (kUn (ak dx) ?_)
 refine kUn (au 3 ty3 bo) ?_
 refine kIn rfl rfl rfl (kMv rfl ?_)
 rcases bg h with⟨hc11,h⟩|⟨hc11,h⟩
 ·refine kSkF rfl aa hc11 (kSkF rfl aa hc11 (kSkF rfl aa hc11 (kPt rfl hc11 rfl (kMv rfl ?_))))
  have hc13:true=true:=rfl
  refine kGd rfl aa hc13 (hMvL rfl) (kGd rfl aa hc13 (gy rfl Tryz.underlying53) ?_)
  refine kGd rfl aa hc13 (qInt rfl rfl rfl) (kPt rfl hc13 rfl ?_)
  exact⟨decide ((x2.Kids.length:Int)>0),h,atOk⟩
 refine kGd rfl aa hc11 (ak dx) ?_
 refine kGd rfl aa hc11 (au 3 ty3 bo) ?_
 refine kGd rfl aa hc11 (qInt rfl rfl rfl) (kPf rfl hc11 rfl (kMv rfl ?_))
 rcases bg h with⟨hc12,h⟩|⟨hc12,h⟩
 ·refine kGd rfl aa hc12 (hMvL rfl) (kGd rfl aa hc12 (gy rfl Tryz.underlying53) ?_)
  refine kGd rfl aa hc12 (qInt rfl rfl rfl) (kPt rfl hc12 rfl ?_)
  exact⟨decide ((x2.Kids.length:Int)>0),h,atOk⟩
 refine kSkT rfl aa hc12 (kSkT rfl aa hc12 (kSkT rfl aa hc12 (kPf rfl hc12 rfl ?_)))
 exact⟨false,h,atOk⟩
theorem rec_bind_walker_walk_ok :∀n,qy (nl n):=by
 intro n
 induction n with
 |zero=>exact(fun x1 x2 x4 b3 v5 r h=>nomatch (show none=some r from h))
 |succ n ih=>exact(fun x1 x2 x4 b3 v5 r h=>F_bind_walker_walk_step (nl n) ih x1 x2 x4 b3 v5 r h)
theorem bind_walker_walk_ok (x1:BindScope) (x2:ApiNode) (x4:BindWalker) (b3:Nat) (v5:Value) (r:PX BindWrong (BindScope × BindWalker)) (h:bind_walker_walk x1 x2 x4=some r):FnX Tryz.prog 37 [ao b3 0,(al).val x1,(af).val x2] [Own.box b3 av (BindWalkerRaw.mk v5 x4.file x4.method x4.many),Own.vec v5 aq x4.uses 47] (fun q C'=>∃a9,r= .ok a9/\∃w100,q=(al).val a9.1/\C'=[Own.box b3 av (BindWalkerRaw.mk w100 a9.2.file a9.2.method a9.2.many),Own.vec w100 aq a9.2.uses 47]) (fun v=>∃m,r= .bad m/\v=bindV m):=(rec_bind_walker_walk_ok 1048576) x1 x2 x4 b3 v5 r h
theorem ji (x1 x2:Int) (x3:(ApiUse->ApiUse->Option Int)) (x5:List ApiUse) (v4:Value) (r:(List ApiUse)) (h:ew x1 x2 x3 x5=some r):FnC Tryz.prog 129 [Pr.is v4,Pr.i64 x1,Pr.i64 x2,dc Tryz.prog (ez x3)] [Own.vec v4 aq x5 47] (fun q C'=>q=br []/\C'=[Own.vec v4 aq r 47]):=by
 refine fq (rs:=[]) Tryz.func129 rfl Tryz.ntmps129 ⟨by decide,Tryz.results129⟩ (by decide) (fun s0=> ?_)
 unfold ew at h
 refine W_rs (kMv rfl (kIn rfl rfl rfl (kAs rfl (a5 ?_))))
 obtain⟨z2l,hz2,h⟩:=aj h
 obtain⟨n2,hN2⟩:=bt hz2
 refine cv 0 (fun e C=>∃(x7:List ApiUse),ge x7=some r/\At [(0,Pr.is v4)] [Own.vec v4 aq x7 47] e C) ?_ ?_
 ·rintro e C ⟨x7,h,hat1⟩
  unfold ge at h
  obtain rfl:=osj h
  exact⟨.inr rfl,_,(Pick.trans hat1.2 (Pick.refl _)),_,aa,rfl,rfl⟩
 refine da (fun m e C=>∃(x6:Int),∃(x7:List ApiUse),dn (fun s=>ec x2 x1 x3 s.1 s.2) m (x6,x7)=some z2l/\At [(0,Pr.is v4),(1,Pr.i64 x1),(2,Pr.i64 x2),(3,dc Tryz.prog (ez x3)),(8,Pr.i64 x6)] [Own.vec v4 aq x7 47] e C) n2 ⟨w64 (x1+1),x5,hN2,⟨⟨aa,aa,aa,aa,aa,trivial⟩,Pick.refl _⟩⟩ ?_
 rintro m e C ⟨x6,x7,hN2,hatl2⟩
 refine W_at hatl2 ?_
 obtain⟨m2,w2l,rfl,h2l,hn2,ho2⟩:=bk hN2
 replace h2l:ec x2 x1 x3 x6 x7=some w2l:=h2l
 unfold ec at h2l
 refine ba (W_rs (kMv rfl (kMv rfl (kIn rfl rfl rfl ?_))))
 refine a8 h2l rfl (fun _ h2l=> ?_) (fun _ h2l=> ?_)
 ·refine az (ba (a5 (W_rs (kMv rfl (kAs rfl (a5 ?_))))))
  obtain⟨z4l,hz4,h2l⟩:=aj h2l
  obtain⟨n4,hN4⟩:=bt hz4
  refine cv 2 (fun e C=>∃(x12:List ApiUse),gc x6 x12=some w2l/\At [(0,Pr.is v4),(1,Pr.i64 x1),(2,Pr.i64 x2),(3,dc Tryz.prog (ez x3)),(8,Pr.i64 x6)] [Own.vec v4 aq x12 47] e C) ?_ ?_
  ·rintro e C ⟨x12,h2l,hat3⟩
   refine W_at hat3 ?_
   unfold gc at h2l
   refine W_r (kMv rfl (kIn rfl rfl rfl (kAs rfl ?_)))
   exact⟨m2,Nat.lt_succ_self _,w64 (x6+1),x12,hn2 _ (Option.some.inj h2l).symm,atOk⟩
  refine da (fun m e C=>∃(x11:Int),∃(x12:List ApiUse),dn (fun s=>eb x1 x3 s.1 s.2) m (x11,x12)=some z4l/\At [(0,Pr.is v4),(1,Pr.i64 x1),(2,Pr.i64 x2),(3,dc Tryz.prog (ez x3)),(8,Pr.i64 x6),(9,Pr.i64 x11)] [Own.vec v4 aq x12 47] e C) n4 ⟨x6,x7,hN4,⟨⟨aa,aa,aa,aa,aa,aa,trivial⟩,Pick.refl _⟩⟩ ?_
  rintro m e C ⟨x11,x12,hN4,hatl4⟩
  refine W_at hatl4 ?_
  obtain⟨m4,w4l,rfl,h4l,hn4,ho4⟩:=bk hN4
  replace h4l:eb x1 x3 x11 x12=some w4l:=h4l
  unfold eb at h4l
  refine ba ?_
  refine bj (fun e C=>∃(x19:Bool),ed x12 x11 x19=some w4l/\At [(0,Pr.is v4),(1,Pr.i64 x1),(2,Pr.i64 x2),(3,dc Tryz.prog (ez x3)),(8,Pr.i64 x6),(9,Pr.i64 x11),(34,Pr.bool x19)] [Own.vec v4 aq x12 47] e C) ?_ ?_
  ·rintro e C ⟨x19,h4l,hat5⟩
   refine W_at hat5 ?_
   unfold ed at h4l
   refine a8 h4l rfl (fun _ h4l=> ?_) (fun _ h4l=> ?_)
   ·refine az (ba (a5 ?_))
    obtain⟨x21,hx21,h4l⟩:=aj h4l
    obtain⟨x22,hx22,h4l⟩:=aj h4l
    obtain⟨x23,hx23,h4l⟩:=aj h4l
    obtain⟨x24,hx24,h4l⟩:=aj h4l
    refine W_drawA [0,0,0,0,8,0,0,64,224,480,0,0,3072,7168,16355,32739,65535,131071] [[],[],[],[],[],[],[],[],[Own.vec v4 aq x12 47],[Own.vec v4 aq x12 47],[],[],[Own.vec v4 aq x12 47],[Own.vec v4 aq x12 47],[Own.vec v4 aq x12 47],[],[Own.vec v4 aq (List.set x12 (Int.toNat x11) x21) 47],[]] hmx (by kernel_rfl) (by kernel_rfl) (by kernel_rfl) rfl ?_
    refine aq0 0 1 (out:=Pr.is v4) rfl (fun C9=>ef) ?_
    refine aq0 1 3 (out:=Pr.i64 x11) rfl (fun C9=>ef) ?_
    refine aq0 2 7 (out:=Pr.is v4) rfl (fun C9=>ef) ?_
    refine aq0 3 15 (out:=Pr.i64 x11) rfl (fun C9=>ef) ?_
    refine aq0 4 31 (out:=Pr.i64 (w64 (x11 - 1))) rfl (fun C9=>qInt) ?_
    refine aq0 5 63 (out:=Pr.is v4) rfl (fun C9=>ef) ?_
    refine aq0 6 127 (out:=Pr.i64 x11) rfl (fun C9=>ef) ?_
    refine aq0 7 255 (out:=Pr.i64 (w64 (x11 - 1))) rfl (fun C9=>qInt) ?_
    refine aq1 8 511 0 (out:=qm v4 (Int.toNat (w64 (x11 - 1)) * (aq).size)) rfl rfl (fun C9 i9 h9=>(sb i9 (R:=aq) (l:=x12) Tryz.underlying27 Tryz.sizeOf47 hx21 (hi:=h9))) ?_
    refine aq1 9 1023 0 (out:=(aq).val x21) rfl rfl (fun C9 i9 h9=>(ru (R:=aq) (R':=aq) (l:=x12) (a:=x21) (o:=0) i9 ty47 (Sub.refl _) (Nat.le_of_ble_eq_true rfl) hx21 rfl (hi:=h9))) ?_
    refine aq0 10 2047 (out:=Pr.is v4) rfl (fun C9=>ef) ?_
    refine aq0 11 4095 (out:=Pr.i64 x11) rfl (fun C9=>ef) ?_
    refine aq1 12 8191 0 (out:=qm v4 (Int.toNat x11 * (aq).size)) rfl rfl (fun C9 i9 h9=>(sb i9 (R:=aq) (l:=x12) Tryz.underlying27 Tryz.sizeOf47 hx22 (hi:=h9))) ?_
    refine aq1 13 16383 0 (out:=(aq).val x22) rfl rfl (fun C9 i9 h9=>(ru (R:=aq) (R':=aq) (l:=x12) (a:=x22) (o:=0) i9 ty47 (Sub.refl _) (Nat.le_of_ble_eq_true rfl) hx22 rfl (hi:=h9))) ?_
    refine aq1 14 32767 0 (out:=qm v4 (Int.toNat x11 * (aq).size)) rfl rfl (fun C9 i9 h9=>(sb i9 (R:=aq) (l:=x12) Tryz.underlying27 Tryz.sizeOf47 hx23 (hi:=h9))) ?_
    refine ae 15 65535 rfl (fun g9=> ?_)
    refine rStoreE (R:=aq) (R':=aq) (l:=x12) (a:=x23) (y:=x21) (o:=0) 0 Tryz.sizeOf47 (Upd.refl _) hx23 rfl ?_
    refine j2 .any [] dt ?_
    refine aq1 16 131071 0 (out:=qm v4 (Int.toNat (w64 (x11 - 1)) * (aq).size)) rfl rfl (fun C9 i9 h9=>(sb i9 (R:=aq) (l:=(List.set x12 (Int.toNat x11) x21)) Tryz.underlying27 Tryz.sizeOf47 hx24 (hi:=h9))) ?_
    refine ae 17 262143 rfl (fun g9=> ?_)
    refine rStoreE (R:=aq) (R':=aq) (l:=(List.set x12 (Int.toNat x11) x21)) (a:=x24) (y:=x22) (o:=0) 0 Tryz.sizeOf47 (Upd.refl _) hx24 rfl ?_
    refine j2 .any [] dt ?_
    refine ar_end ?_
    refine W_r (kMv rfl (kIn rfl rfl rfl (kAs rfl ?_)))
    exact⟨m4,Nat.lt_succ_self _,w64 (x11 - 1),(List.set (List.set x12 (Int.toNat x11) x21) (Int.toNat (w64 (x11 - 1))) x22),hn4 _ (Option.some.inj h4l).symm,atOk⟩
   refine db ?_
   obtain rfl:=ho4 _ (Option.some.inj h4l).symm
   exact⟨x12,h2l,atOk⟩
  refine e7 17 hmx (by kernel_rfl) (by kernel_rfl) ?_
  refine lUn (hMvA rfl) (lUn (hMvA rfl) (lUn (qInt rfl rfl rfl) (lUn (hMvA rfl) ?_)))
  rcases bg h4l with⟨hc15,h4l⟩|⟨hc15,h4l⟩
  ·refine lGd rfl aa hc15 (hMv (out:=dc Tryz.prog (ez x3)) rfl) (lGd rfl aa hc15 (hMvA rfl) (lGd rfl aa hc15 (hMvA rfl) ?_))
   obtain⟨x16,hx16,h4l⟩:=aj h4l
   refine lGd rfl aa hc15 (sb 0 (R:=aq) (l:=x12) Tryz.underlying27 Tryz.sizeOf47 hx16) ?_
   refine lGd rfl aa hc15 (ru (R:=aq) (R':=aq) (l:=x12) (a:=x16) (o:=0) 0 ty47 (Sub.refl _) (Nat.le_of_ble_eq_true rfl) hx16 rfl) ?_
   refine lGd rfl aa hc15 (hMvA rfl) (lGd rfl aa hc15 (hMvA rfl) (lGd rfl aa hc15 (qInt rfl rfl rfl) ?_))
   obtain⟨x17,hx17,h4l⟩:=aj h4l
   refine lGd rfl aa hc15 (sb 0 (R:=aq) (l:=x12) Tryz.underlying27 Tryz.sizeOf47 hx17) ?_
   refine lGd rfl aa hc15 (ru (R:=aq) (R':=aq) (l:=x12) (a:=x17) (o:=0) 0 ty47 (Sub.refl _) (Nat.le_of_ble_eq_true rfl) hx17 rfl) ?_
   obtain⟨x18,hx18,h4l⟩:=aj h4l
   refine lGd rfl aa hc15 (qCallP (spec:=ez x3) ⟨_,_,_,rfl,rfl,hx18⟩) ?_
   refine lGd rfl aa hc15 (qInt rfl rfl rfl) (lUn (hPt rfl hc15 rfl) ?_)
   exact⟨decide (x18<0),h4l,atOk⟩
  refine lSkT rfl aa hc15 (lSkT rfl aa hc15 (lSkT rfl aa hc15 (lSkT rfl aa hc15 (lSkT rfl aa hc15 (lSkT rfl aa hc15 (lSkT rfl aa hc15 (lSkT rfl aa hc15 (lSkT rfl aa hc15 (lSkT rfl aa hc15 (lSkT rfl aa hc15 (lSkT rfl aa hc15 ?_)))))))))))
  refine lUn (hPf rfl hc15 rfl) ?_
  exact⟨false,h4l,atOk⟩
 refine db ?_
 obtain rfl:=ho2 _ (Option.some.inj h2l).symm
 exact⟨x7,h,atOk⟩
theorem g8 (x1 x2 x3:Int) (x4:(ApiUse->ApiUse->Option Int)) (x6:List ApiUse) (v5:Value) (r:(List ApiUse)) (h:eo x1 x2 x3 x4 x6=some r):FnC Tryz.prog 178 [Pr.is v5,Pr.i64 x1,Pr.i64 x2,Pr.i64 x3,dc Tryz.prog (ez x4)] [Own.vec v5 aq x6 47] (fun q C'=>q=br []/\C'=[Own.vec v5 aq r 47]):=by
 refine fq (rs:=[]) Tryz.func178 rfl Tryz.ntmps178 ⟨by decide,Tryz.results178⟩ (by decide) (fun s0=> ?_)
 unfold eo at h
 refine W_rs (kAs rfl (a5 ?_))
 obtain⟨z2l,hz2,h⟩:=aj h
 obtain⟨n2,hN2⟩:=bt hz2
 refine cv 0 (fun e C=>∃(x8:List ApiUse),ia x8=some r/\At [(0,Pr.is v5)] [Own.vec v5 aq x8 47] e C) ?_ ?_
 ·rintro e C ⟨x8,h,hat1⟩
  unfold ia at h
  obtain rfl:=osj h
  exact⟨.inr rfl,_,(Pick.trans hat1.2 (Pick.refl _)),_,aa,rfl,rfl⟩
 refine da (fun m e C=>∃(x7:Int),∃(x8:List ApiUse),dn (fun s=>fp x3 x2 x1 s.1 s.2) m (x7,x8)=some z2l/\At [(0,Pr.is v5),(1,Pr.i64 x1),(2,Pr.i64 x2),(3,Pr.i64 x3),(10,Pr.i64 x7)] [Own.vec v5 aq x8 47] e C) n2 ⟨0,x6,hN2,⟨⟨aa,aa,aa,aa,aa,trivial⟩,Pick.refl _⟩⟩ ?_
 rintro m e C ⟨x7,x8,hN2,hatl2⟩
 refine W_at hatl2 ?_
 obtain⟨m2,w2l,rfl,h2l,hn2,ho2⟩:=bk hN2
 replace h2l:fp x3 x2 x1 x7 x8=some w2l:=h2l
 unfold fp at h2l
 refine ba (W_rs (kMv rfl (kMv rfl (kIn rfl rfl rfl ?_))))
 refine a8 h2l rfl (fun _ h2l=> ?_) (fun _ h2l=> ?_)
 ·refine az (ba (a5 ?_))
  obtain⟨x12,hx12,h2l⟩:=aj h2l
  obtain⟨x13,hx13,h2l⟩:=aj h2l
  obtain⟨x14,hx14,h2l⟩:=aj h2l
  obtain⟨x15,hx15,h2l⟩:=aj h2l
  refine W_drawA [0,0,0,6,0,0,0,96,0,0,0,1536,3840,7936,0,0,0,98304,245760,507904,1048335,2096911,4194303,8388607] [[],[],[],[],[],[],[],[],[],[],[],[],[Own.vec v5 aq x8 47],[Own.vec v5 aq x8 47],[],[],[],[],[Own.vec v5 aq x8 47],[Own.vec v5 aq x8 47],[Own.vec v5 aq x8 47],[],[Own.vec v5 aq (List.set x8 (Int.toNat (w64 (x1+x7))) x12) 47],[]] hmx (by kernel_rfl) (by kernel_rfl) (by kernel_rfl) rfl ?_
  refine aq0 0 1 (out:=Pr.is v5) rfl (fun C9=>ef) ?_
  refine aq0 1 3 (out:=Pr.i64 x1) rfl (fun C9=>ef) ?_
  refine aq0 2 7 (out:=Pr.i64 x7) rfl (fun C9=>ef) ?_
  refine aq0 3 15 (out:=Pr.i64 (w64 (x1+x7))) rfl (fun C9=>qInt) ?_
  refine aq0 4 31 (out:=Pr.is v5) rfl (fun C9=>ef) ?_
  refine aq0 5 63 (out:=Pr.i64 x2) rfl (fun C9=>ef) ?_
  refine aq0 6 127 (out:=Pr.i64 x7) rfl (fun C9=>ef) ?_
  refine aq0 7 255 (out:=Pr.i64 (w64 (x2+x7))) rfl (fun C9=>qInt) ?_
  refine aq0 8 511 (out:=Pr.is v5) rfl (fun C9=>ef) ?_
  refine aq0 9 1023 (out:=Pr.i64 x2) rfl (fun C9=>ef) ?_
  refine aq0 10 2047 (out:=Pr.i64 x7) rfl (fun C9=>ef) ?_
  refine aq0 11 4095 (out:=Pr.i64 (w64 (x2+x7))) rfl (fun C9=>qInt) ?_
  refine aq1 12 8191 0 (out:=qm v5 (Int.toNat (w64 (x2+x7)) * (aq).size)) rfl rfl (fun C9 i9 h9=>(sb i9 (R:=aq) (l:=x8) Tryz.underlying27 Tryz.sizeOf47 hx12 (hi:=h9))) ?_
  refine aq1 13 16383 0 (out:=(aq).val x12) rfl rfl (fun C9 i9 h9=>(ru (R:=aq) (R':=aq) (l:=x8) (a:=x12) (o:=0) i9 ty47 (Sub.refl _) (Nat.le_of_ble_eq_true rfl) hx12 rfl (hi:=h9))) ?_
  refine aq0 14 32767 (out:=Pr.is v5) rfl (fun C9=>ef) ?_
  refine aq0 15 65535 (out:=Pr.i64 x1) rfl (fun C9=>ef) ?_
  refine aq0 16 131071 (out:=Pr.i64 x7) rfl (fun C9=>ef) ?_
  refine aq0 17 262143 (out:=Pr.i64 (w64 (x1+x7))) rfl (fun C9=>qInt) ?_
  refine aq1 18 524287 0 (out:=qm v5 (Int.toNat (w64 (x1+x7)) * (aq).size)) rfl rfl (fun C9 i9 h9=>(sb i9 (R:=aq) (l:=x8) Tryz.underlying27 Tryz.sizeOf47 hx13 (hi:=h9))) ?_
  refine aq1 19 1048575 0 (out:=(aq).val x13) rfl rfl (fun C9 i9 h9=>(ru (R:=aq) (R':=aq) (l:=x8) (a:=x13) (o:=0) i9 ty47 (Sub.refl _) (Nat.le_of_ble_eq_true rfl) hx13 rfl (hi:=h9))) ?_
  refine aq1 20 2097151 0 (out:=qm v5 (Int.toNat (w64 (x1+x7)) * (aq).size)) rfl rfl (fun C9 i9 h9=>(sb i9 (R:=aq) (l:=x8) Tryz.underlying27 Tryz.sizeOf47 hx14 (hi:=h9))) ?_
  refine ae 21 4194303 rfl (fun g9=> ?_)
  refine rStoreE (R:=aq) (R':=aq) (l:=x8) (a:=x14) (y:=x12) (o:=0) 0 Tryz.sizeOf47 (Upd.refl _) hx14 rfl ?_
  refine j2 .any [] dt ?_
  refine aq1 22 8388607 0 (out:=qm v5 (Int.toNat (w64 (x2+x7)) * (aq).size)) rfl rfl (fun C9 i9 h9=>(sb i9 (R:=aq) (l:=(List.set x8 (Int.toNat (w64 (x1+x7))) x12)) Tryz.underlying27 Tryz.sizeOf47 hx15 (hi:=h9))) ?_
  refine ae 23 16777215 rfl (fun g9=> ?_)
  refine rStoreE (R:=aq) (R':=aq) (l:=(List.set x8 (Int.toNat (w64 (x1+x7))) x12)) (a:=x15) (y:=x13) (o:=0) 0 Tryz.sizeOf47 (Upd.refl _) hx15 rfl ?_
  refine j2 .any [] dt ?_
  refine ar_end ?_
  refine W_r (kMv rfl (kIn rfl rfl rfl (kAs rfl ?_)))
  exact⟨m2,Nat.lt_succ_self _,w64 (x7+1),(List.set (List.set x8 (Int.toNat (w64 (x1+x7))) x12) (Int.toNat (w64 (x2+x7))) x13),hn2 _ (Option.some.inj h2l).symm,atOk⟩
 refine db ?_
 obtain rfl:=ho2 _ (Option.some.inj h2l).symm
 exact⟨x8,h,atOk⟩
theorem slices_rotateCmpFunc_api_Use_ok (x1 x2 x3:Int) (x4:(ApiUse->ApiUse->Option Int)) (x6:List ApiUse) (v5:Value) (r:(List ApiUse)) (h:ju x1 x2 x3 x4 x6=some r):FnC Tryz.prog 164 [Pr.is v5,Pr.i64 x1,Pr.i64 x2,Pr.i64 x3,dc Tryz.prog (ez x4)] [Own.vec v5 aq x6 47] (fun q C'=>q=br []/\C'=[Own.vec v5 aq r 47]):=by
 refine fq (rs:=[]) Tryz.func164 rfl Tryz.ntmps164 ⟨by decide,Tryz.results164⟩ (by decide) (fun s0=> ?_)
 unfold ju at h
 refine W_rs (kMv rfl (kMv rfl (kIn rfl rfl rfl (kAs rfl (W_rs (kMv rfl (kMv rfl (kIn rfl rfl rfl (kAs rfl (ba (a5 ?_)))))))))))
 obtain⟨z2l,hz2,h⟩:=aj h
 obtain⟨n2,hN2⟩:=bt hz2
 refine cv 0 (fun e C=>∃(x7:Int),∃(x9:List ApiUse),i7 x2 x4 x7 x9=some r/\At [(0,Pr.is v5),(2,Pr.i64 x2),(4,dc Tryz.prog (ez x4)),(10,Pr.i64 x7)] [Own.vec v5 aq x9 47] e C) ?_ ?_
 ·rintro e C ⟨x7,x9,h,hat1⟩
  refine W_at hat1 ?_
  unfold i7 at h
  refine W_r (kMv rfl (kMv rfl (kMv rfl (kIn rfl rfl rfl (kMv rfl (kMv rfl (kUn (hMv (out:=dc Tryz.prog (ez x4)) rfl) ?_)))))))
  obtain⟨x17,hx17,h⟩:=aj h
  refine j1 [0] (g8 (w64 (x2 - x7)) x2 x7 x4 x9 v5 _ hx17) (fun q C' hq=> ?_)
  obtain⟨rfl,rfl⟩:=hq
  obtain rfl:=osj h
  exact⟨.inr rfl,_,Pick.refl _,_,aa,rfl,rfl⟩
 refine da (fun m e C=>∃(x7:Int),∃(x8:Int),∃(x9:List ApiUse),dn (fun s=>gb x2 x4 s.1 s.2.1 s.2.2) m (x7,x8,x9)=some z2l/\At [(0,Pr.is v5),(2,Pr.i64 x2),(4,dc Tryz.prog (ez x4)),(10,Pr.i64 x7),(11,Pr.i64 x8)] [Own.vec v5 aq x9 47] e C) n2 ⟨w64 (x2 - x1),w64 (x3 - x2),x6,hN2,⟨⟨aa,aa,aa,aa,aa,trivial⟩,Pick.refl _⟩⟩ ?_
 rintro m e C ⟨x7,x8,x9,hN2,hatl2⟩
 refine W_at hatl2 ?_
 obtain⟨m2,w2l,rfl,h2l,hn2,ho2⟩:=bk hN2
 replace h2l:gb x2 x4 x7 x8 x9=some w2l:=h2l
 unfold gb at h2l
 refine ba (W_rs (kMv rfl (kMv rfl (kIn rfl rfl rfl ?_))))
 refine a8 h2l rfl (fun _ h2l=> ?_) (fun _ h2l=> ?_)
 ·refine az (a5 (W_rs (kMv rfl (kMv rfl (kIn rfl rfl rfl ?_)))))
  refine a8 h2l rfl (fun _ h2l=> ?_) (fun _ h2l=> ?_)
  ·refine W_rs (kMv rfl (kMv rfl (kMv rfl (kIn rfl rfl rfl (kMv rfl (kMv rfl (kUn (hMv (out:=dc Tryz.prog (ez x4)) rfl) ?_)))))))
   obtain⟨x15,hx15,h2l⟩:=aj h2l
   refine j1 [0] (g8 (w64 (x2 - x7)) x2 x8 x4 x9 v5 _ hx15) (fun q C' hq=> ?_)
   obtain⟨rfl,rfl⟩:=hq
   refine W_r (kMv rfl (kMv rfl (kIn rfl rfl rfl (kAs rfl ?_))))
   exact⟨m2,Nat.lt_succ_self _,w64 (x7 - x8),x8,x15,hn2 _ (Option.some.inj h2l).symm,atOk⟩
  refine W_rs (kMv rfl (kMv rfl (kMv rfl (kIn rfl rfl rfl (kMv rfl (kMv rfl (kIn rfl rfl rfl (kMv rfl (kIn rfl rfl rfl (kMv rfl (kUn (hMv (out:=dc Tryz.prog (ez x4)) rfl) ?_)))))))))))
  obtain⟨x16,hx16,h2l⟩:=aj h2l
  refine j1 [0] (g8 (w64 (x2 - x7)) (w64 ((w64 (x2+x8)) - x7)) x7 x4 x9 v5 _ hx16) (fun q C' hq=> ?_)
  obtain⟨rfl,rfl⟩:=hq
  refine W_r (kMv rfl (kMv rfl (kIn rfl rfl rfl (kAs rfl ?_))))
  exact⟨m2,Nat.lt_succ_self _,x7,w64 (x8 - x7),x16,hn2 _ (Option.some.inj h2l).symm,atOk⟩
 refine db ?_
 obtain rfl:=ho2 _ (Option.some.inj h2l).symm
 exact⟨x7,x9,h,atOk⟩
def jb (R:ay):Prop:=(∀(x1:Int) (x2:Int) (x3:Int) (x4:(ApiUse->ApiUse->Option Int)) (x6:List ApiUse) (v5:Value) (r:(List ApiUse)),R x1 x2 x3 x4 x6=some r->FnC Tryz.prog 130 [Pr.is v5,Pr.i64 x1,Pr.i64 x2,Pr.i64 x3,dc Tryz.prog (ez x4)] [Own.vec v5 aq x6 47] (fun q C'=>q=br []/\C'=[Own.vec v5 aq r 47]))
theorem qk (R:ay) (ih:jb R) (x1 x2 x3:Int) (x4:(ApiUse->ApiUse->Option Int)) (x6:List ApiUse) (v5:Value) (r:(List ApiUse)) (h:iw R x1 x2 x3 x4 x6=some r):FnC Tryz.prog 130 [Pr.is v5,Pr.i64 x1,Pr.i64 x2,Pr.i64 x3,dc Tryz.prog (ez x4)] [Own.vec v5 aq x6 47] (fun q C'=>q=br []/\C'=[Own.vec v5 aq r 47]):=by
  refine fq (rs:=[]) Tryz.func130 rfl Tryz.ntmps130 ⟨by decide,Tryz.results130⟩ (by decide) (fun s0=> ?_)
  unfold iw at h
  refine ba (W_rs (kMv rfl (kMv rfl (kIn rfl rfl rfl (kIn rfl rfl rfl ?_)))))
  refine a8 h rfl (fun _ h=> ?_) (fun _ h=> ?_)
  · refine W_rs (kMv rfl (kAs rfl (W_rs (kMv rfl (kAs rfl (ba (a5 ?_)))))))
    obtain⟨z4l,hz4,h⟩:=aj h
    obtain⟨n4,hN4⟩:=bt hz4
    refine cv 0 (fun e C=>∃(x8:Int),io R x1 x6 x8=some r/\At [(0,Pr.is v5),(1,Pr.i64 x1),(10,Pr.i64 x8)] [Own.vec v5 aq x6 47] e C) ?_ ?_
    · rintro e C ⟨x8,h,hat3⟩
      refine W_at hat3 ?_
      unfold io at h
      refine ba (W_rs (kMv rfl (kAs rfl (a5 ?_))))
      obtain⟨z2l,hz2,h⟩:=aj h
      obtain⟨n2,hN2⟩:=bt hz2
      refine cv 2 (fun e C=>∃(x18:List ApiUse),ip R x18=some r/\At [(0,Pr.is v5)] [Own.vec v5 aq x18 47] e C) ?_ ?_
      · rintro e C ⟨x18,h,hat1⟩
        refine W_at hat1 ?_
        unfold ip at h
        obtain rfl:=osj h
        exact bh ⟨.inl rfl,_,Pick.refl _,_,aa,rfl,rfl⟩
      refine da (fun m e C=>∃(x17:Int),∃(x18:List ApiUse),dn (fun s=>fy R x8 s.1 s.2) m (x17,x18)=some z2l/\At [(0,Pr.is v5),(10,Pr.i64 x8),(13,Pr.i64 x17)] [Own.vec v5 aq x18 47] e C) n2 ⟨x1,x6,hN2,⟨⟨aa,aa,aa,trivial⟩,Pick.refl _⟩⟩ ?_
      rintro m e C ⟨x17,x18,hN2,hatl2⟩
      refine W_at hatl2 ?_
      obtain⟨m2,w2l,rfl,h2l,hn2,ho2⟩:=bk hN2
      replace h2l:fy R x8 x17 x18=some w2l:=h2l
      unfold fy at h2l
      refine ba (W_rs (kMv rfl (kMv rfl (kIn rfl rfl rfl (kIn rfl rfl rfl ?_)))))
      refine a8 h2l rfl (fun _ h2l=> ?_) (fun _ h2l=> ?_)
      · refine az (ba (a5 ?_))
        obtain⟨x22,hx22,h2l⟩:=aj h2l
        obtain⟨x23,hx23,h2l⟩:=aj h2l
        obtain⟨x24,hx24,h2l⟩:=aj h2l
        obtain⟨x25,hx25,h2l⟩:=aj h2l
        refine W_drawA [0,0,0,0,8,0,0,64,224,480,0,0,3072,7168,16355,32739,65535,131071] [[],[],[],[],[],[],[],[],[Own.vec v5 aq x18 47],[Own.vec v5 aq x18 47],[],[],[Own.vec v5 aq x18 47],[Own.vec v5 aq x18 47],[Own.vec v5 aq x18 47],[],[Own.vec v5 aq (List.set x18 (Int.toNat x17) x22) 47],[]] hmx (by kernel_rfl) (by kernel_rfl) (by kernel_rfl) rfl ?_
        refine aq0 0 1 (out:=Pr.is v5) rfl (fun C9=>ef) ?_
        refine aq0 1 3 (out:=Pr.i64 x17) rfl (fun C9=>ef) ?_
        refine aq0 2 7 (out:=Pr.is v5) rfl (fun C9=>ef) ?_
        refine aq0 3 15 (out:=Pr.i64 x17) rfl (fun C9=>ef) ?_
        refine aq0 4 31 (out:=Pr.i64 (w64 (x17+1))) rfl (fun C9=>qInt) ?_
        refine aq0 5 63 (out:=Pr.is v5) rfl (fun C9=>ef) ?_
        refine aq0 6 127 (out:=Pr.i64 x17) rfl (fun C9=>ef) ?_
        refine aq0 7 255 (out:=Pr.i64 (w64 (x17+1))) rfl (fun C9=>qInt) ?_
        refine aq1 8 511 0 (out:=qm v5 (Int.toNat (w64 (x17+1)) * (aq).size)) rfl rfl (fun C9 i9 h9=>(sb i9 (R:=aq) (l:=x18) Tryz.underlying27 Tryz.sizeOf47 hx22 (hi:=h9))) ?_
        refine aq1 9 1023 0 (out:=(aq).val x22) rfl rfl (fun C9 i9 h9=>(ru (R:=aq) (R':=aq) (l:=x18) (a:=x22) (o:=0) i9 ty47 (Sub.refl _) (Nat.le_of_ble_eq_true rfl) hx22 rfl (hi:=h9))) ?_
        refine aq0 10 2047 (out:=Pr.is v5) rfl (fun C9=>ef) ?_
        refine aq0 11 4095 (out:=Pr.i64 x17) rfl (fun C9=>ef) ?_
        refine aq1 12 8191 0 (out:=qm v5 (Int.toNat x17 * (aq).size)) rfl rfl (fun C9 i9 h9=>(sb i9 (R:=aq) (l:=x18) Tryz.underlying27 Tryz.sizeOf47 hx23 (hi:=h9))) ?_
        refine aq1 13 16383 0 (out:=(aq).val x23) rfl rfl (fun C9 i9 h9=>(ru (R:=aq) (R':=aq) (l:=x18) (a:=x23) (o:=0) i9 ty47 (Sub.refl _) (Nat.le_of_ble_eq_true rfl) hx23 rfl (hi:=h9))) ?_
        refine aq1 14 32767 0 (out:=qm v5 (Int.toNat x17 * (aq).size)) rfl rfl (fun C9 i9 h9=>(sb i9 (R:=aq) (l:=x18) Tryz.underlying27 Tryz.sizeOf47 hx24 (hi:=h9))) ?_
        refine ae 15 65535 rfl (fun g9=> ?_)
        refine rStoreE (R:=aq) (R':=aq) (l:=x18) (a:=x24) (y:=x22) (o:=0) 0 Tryz.sizeOf47 (Upd.refl _) hx24 rfl ?_
        refine j2 .any [] dt ?_
        refine aq1 16 131071 0 (out:=qm v5 (Int.toNat (w64 (x17+1)) * (aq).size)) rfl rfl (fun C9 i9 h9=>(sb i9 (R:=aq) (l:=(List.set x18 (Int.toNat x17) x22)) Tryz.underlying27 Tryz.sizeOf47 hx25 (hi:=h9))) ?_
        refine ae 17 262143 rfl (fun g9=> ?_)
        refine rStoreE (R:=aq) (R':=aq) (l:=(List.set x18 (Int.toNat x17) x22)) (a:=x25) (y:=x23) (o:=0) 0 Tryz.sizeOf47 (Upd.refl _) hx25 rfl ?_
        refine j2 .any [] dt ?_
        refine ar_end ?_
        refine W_r (kMv rfl (kIn rfl rfl rfl (kAs rfl ?_)))
        exact⟨m2,Nat.lt_succ_self _,w64 (x17+1),(List.set (List.set x18 (Int.toNat x17) x22) (Int.toNat (w64 (x17+1))) x23),hn2 _ (Option.some.inj h2l).symm,atOk⟩
      refine db ?_
      obtain rfl:=ho2 _ (Option.some.inj h2l).symm
      exact⟨x18,h,atOk⟩
    refine da (fun m e C=>∃(x8:Int),∃(x9:Int),dn (fun s=>fx R x6 x1 x4 s.1 s.2) m (x8,x9)=some z4l/\At [(0,Pr.is v5),(1,Pr.i64 x1),(4,dc Tryz.prog (ez x4)),(10,Pr.i64 x8),(11,Pr.i64 x9)] [Own.vec v5 aq x6 47] e C) n4 ⟨x2,x3,hN4,⟨⟨aa,aa,aa,aa,aa,trivial⟩,Pick.refl _⟩⟩ ?_
    rintro m e C ⟨x8,x9,hN4,hatl4⟩
    refine W_at hatl4 ?_
    obtain⟨m4,w4l,rfl,h4l,hn4,ho4⟩:=bk hN4
    replace h4l:fx R x6 x1 x4 x8 x9=some w4l:=h4l
    unfold fx at h4l
    refine ba (W_rs (kMv rfl (kMv rfl (kIn rfl rfl rfl ?_))))
    refine a8 h4l rfl (fun _ h4l=> ?_) (fun _ h4l=> ?_)
    · refine az (a5 (W_rs (kMv rfl (kMv rfl (kIn rfl rfl rfl (kUn (qConv Tryz.underlying3 Tryz.underlying192) ?_))))))
      refine kUn (qShr (k:= .u64) (c:=2) 1 (by decide)) ?_
      refine kUn (qConv Tryz.underlying192 Tryz.underlying3) ?_
      refine kAs rfl ?_
      refine bj (fun e C=>∃(x15:Int),iq R x8 x9 x15=some w4l/\At [(0,Pr.is v5),(1,Pr.i64 x1),(4,dc Tryz.prog (ez x4)),(10,Pr.i64 x8),(11,Pr.i64 x9),(12,Pr.i64 (w64 (Int.fdiv (IntKind.wrap .u64 (w64 (x8+x9))) 2))),(50,Pr.bool (decide (x15<0)))] [Own.vec v5 aq x6 47] e C) ?_ ?_
      · rintro e C ⟨x15,h4l,hat5⟩
        refine W_at hat5 ?_
        unfold iq at h4l
        refine a8 h4l rfl (fun _ h4l=> ?_) (fun _ h4l=> ?_)
        · refine W_r (kMv rfl (kIn rfl rfl rfl (kAs rfl ?_)))
          exact⟨m4,Nat.lt_succ_self _,w64 ((w64 (Int.fdiv (IntKind.wrap .u64 (w64 (x8+x9))) 2))+1),x9,hn4 _ (Option.some.inj h4l).symm,atOk⟩
        refine W_r (kMv rfl (kAs rfl ?_))
        exact⟨m4,Nat.lt_succ_self _,x8,w64 (Int.fdiv (IntKind.wrap .u64 (w64 (x8+x9))) 2),hn4 _ (Option.some.inj h4l).symm,atOk⟩
      refine e7 11 hmx (by kernel_rfl) (by kernel_rfl) ?_
      refine lUn (hMv (out:=dc Tryz.prog (ez x4)) rfl) (lUn (hMvA rfl) (lUn (hMvA rfl) ?_))
      obtain⟨x13,hx13,h4l⟩:=aj h4l
      refine lUn (sb 0 (R:=aq) (l:=x6) Tryz.underlying27 Tryz.sizeOf47 hx13) ?_
      refine lUn (ru (R:=aq) (R':=aq) (l:=x6) (a:=x13) (o:=0) 0 ty47 (Sub.refl _) (Nat.le_of_ble_eq_true rfl) hx13 rfl) ?_
      refine lUn (hMvA rfl) (lUn (hMvA rfl) ?_)
      obtain⟨x14,hx14,h4l⟩:=aj h4l
      refine lUn (sb 0 (R:=aq) (l:=x6) Tryz.underlying27 Tryz.sizeOf47 hx14) ?_
      refine lUn (ru (R:=aq) (R':=aq) (l:=x6) (a:=x14) (o:=0) 0 ty47 (Sub.refl _) (Nat.le_of_ble_eq_true rfl) hx14 rfl) ?_
      obtain⟨x15,hx15,h4l⟩:=aj h4l
      refine lUn (qCallP (spec:=ez x4) ⟨_,_,_,rfl,rfl,hx15⟩) ?_
      refine lUn (qInt rfl rfl rfl) ?_
      exact⟨x15,h4l,atOk⟩
    refine db ?_
    obtain rfl:=ho4 _ (Option.some.inj h4l).symm
    exact⟨x8,h,atOk⟩
  refine az (ba (W_rs (kMv rfl (kMv rfl (kIn rfl rfl rfl (kIn rfl rfl rfl ?_))))))
  refine a8 h rfl (fun _ h=> ?_) (fun _ h=> ?_)
  · refine W_rs (kMv rfl (kAs rfl (W_rs (kMv rfl (kAs rfl (ba (a5 ?_)))))))
    obtain⟨z9l,hz9,h⟩:=aj h
    obtain⟨n9,hN9⟩:=bt hz9
    refine cv 4 (fun e C=>∃(x27:Int),il R x2 x6 x27=some r/\At [(0,Pr.is v5),(2,Pr.i64 x2),(14,Pr.i64 x27)] [Own.vec v5 aq x6 47] e C) ?_ ?_
    · rintro e C ⟨x27,h,hat8⟩
      refine W_at hat8 ?_
      unfold il at h
      refine ba (W_rs (kMv rfl (kAs rfl (a5 ?_))))
      obtain⟨z7l,hz7,h⟩:=aj h
      obtain⟨n7,hN7⟩:=bt hz7
      refine cv 6 (fun e C=>∃(x37:List ApiUse),im R x37=some r/\At [(0,Pr.is v5)] [Own.vec v5 aq x37 47] e C) ?_ ?_
      · rintro e C ⟨x37,h,hat6⟩
        refine W_at hat6 ?_
        unfold im at h
        obtain rfl:=osj h
        exact bh ⟨.inl rfl,_,Pick.refl _,_,aa,rfl,rfl⟩
      refine da (fun m e C=>∃(x36:Int),∃(x37:List ApiUse),dn (fun s=>fw R x27 s.1 s.2) m (x36,x37)=some z7l/\At [(0,Pr.is v5),(14,Pr.i64 x27),(17,Pr.i64 x36)] [Own.vec v5 aq x37 47] e C) n7 ⟨x2,x6,hN7,⟨⟨aa,aa,aa,trivial⟩,Pick.refl _⟩⟩ ?_
      rintro m e C ⟨x36,x37,hN7,hatl7⟩
      refine W_at hatl7 ?_
      obtain⟨m7,w7l,rfl,h7l,hn7,ho7⟩:=bk hN7
      replace h7l:fw R x27 x36 x37=some w7l:=h7l
      unfold fw at h7l
      refine ba (W_rs (kMv rfl (kMv rfl (kIn rfl rfl rfl ?_))))
      refine a8 h7l rfl (fun _ h7l=> ?_) (fun _ h7l=> ?_)
      · refine az (ba (a5 ?_))
        obtain⟨x41,hx41,h7l⟩:=aj h7l
        obtain⟨x42,hx42,h7l⟩:=aj h7l
        obtain⟨x43,hx43,h7l⟩:=aj h7l
        obtain⟨x44,hx44,h7l⟩:=aj h7l
        refine W_drawA [0,0,0,0,8,0,0,64,224,480,0,0,3072,7168,16355,32739,65535,131071] [[],[],[],[],[],[],[],[],[Own.vec v5 aq x37 47],[Own.vec v5 aq x37 47],[],[],[Own.vec v5 aq x37 47],[Own.vec v5 aq x37 47],[Own.vec v5 aq x37 47],[],[Own.vec v5 aq (List.set x37 (Int.toNat x36) x41) 47],[]] hmx (by kernel_rfl) (by kernel_rfl) (by kernel_rfl) rfl ?_
        refine aq0 0 1 (out:=Pr.is v5) rfl (fun C9=>ef) ?_
        refine aq0 1 3 (out:=Pr.i64 x36) rfl (fun C9=>ef) ?_
        refine aq0 2 7 (out:=Pr.is v5) rfl (fun C9=>ef) ?_
        refine aq0 3 15 (out:=Pr.i64 x36) rfl (fun C9=>ef) ?_
        refine aq0 4 31 (out:=Pr.i64 (w64 (x36 - 1))) rfl (fun C9=>qInt) ?_
        refine aq0 5 63 (out:=Pr.is v5) rfl (fun C9=>ef) ?_
        refine aq0 6 127 (out:=Pr.i64 x36) rfl (fun C9=>ef) ?_
        refine aq0 7 255 (out:=Pr.i64 (w64 (x36 - 1))) rfl (fun C9=>qInt) ?_
        refine aq1 8 511 0 (out:=qm v5 (Int.toNat (w64 (x36 - 1)) * (aq).size)) rfl rfl (fun C9 i9 h9=>(sb i9 (R:=aq) (l:=x37) Tryz.underlying27 Tryz.sizeOf47 hx41 (hi:=h9))) ?_
        refine aq1 9 1023 0 (out:=(aq).val x41) rfl rfl (fun C9 i9 h9=>(ru (R:=aq) (R':=aq) (l:=x37) (a:=x41) (o:=0) i9 ty47 (Sub.refl _) (Nat.le_of_ble_eq_true rfl) hx41 rfl (hi:=h9))) ?_
        refine aq0 10 2047 (out:=Pr.is v5) rfl (fun C9=>ef) ?_
        refine aq0 11 4095 (out:=Pr.i64 x36) rfl (fun C9=>ef) ?_
        refine aq1 12 8191 0 (out:=qm v5 (Int.toNat x36 * (aq).size)) rfl rfl (fun C9 i9 h9=>(sb i9 (R:=aq) (l:=x37) Tryz.underlying27 Tryz.sizeOf47 hx42 (hi:=h9))) ?_
        refine aq1 13 16383 0 (out:=(aq).val x42) rfl rfl (fun C9 i9 h9=>(ru (R:=aq) (R':=aq) (l:=x37) (a:=x42) (o:=0) i9 ty47 (Sub.refl _) (Nat.le_of_ble_eq_true rfl) hx42 rfl (hi:=h9))) ?_
        refine aq1 14 32767 0 (out:=qm v5 (Int.toNat x36 * (aq).size)) rfl rfl (fun C9 i9 h9=>(sb i9 (R:=aq) (l:=x37) Tryz.underlying27 Tryz.sizeOf47 hx43 (hi:=h9))) ?_
        refine ae 15 65535 rfl (fun g9=> ?_)
        refine rStoreE (R:=aq) (R':=aq) (l:=x37) (a:=x43) (y:=x41) (o:=0) 0 Tryz.sizeOf47 (Upd.refl _) hx43 rfl ?_
        refine j2 .any [] dt ?_
        refine aq1 16 131071 0 (out:=qm v5 (Int.toNat (w64 (x36 - 1)) * (aq).size)) rfl rfl (fun C9 i9 h9=>(sb i9 (R:=aq) (l:=(List.set x37 (Int.toNat x36) x41)) Tryz.underlying27 Tryz.sizeOf47 hx44 (hi:=h9))) ?_
        refine ae 17 262143 rfl (fun g9=> ?_)
        refine rStoreE (R:=aq) (R':=aq) (l:=(List.set x37 (Int.toNat x36) x41)) (a:=x44) (y:=x42) (o:=0) 0 Tryz.sizeOf47 (Upd.refl _) hx44 rfl ?_
        refine j2 .any [] dt ?_
        refine ar_end ?_
        refine W_r (kMv rfl (kIn rfl rfl rfl (kAs rfl ?_)))
        exact⟨m7,Nat.lt_succ_self _,w64 (x36 - 1),(List.set (List.set x37 (Int.toNat x36) x41) (Int.toNat (w64 (x36 - 1))) x42),hn7 _ (Option.some.inj h7l).symm,atOk⟩
      refine db ?_
      obtain rfl:=ho7 _ (Option.some.inj h7l).symm
      exact⟨x37,h,atOk⟩
    refine da (fun m e C=>∃(x27:Int),∃(x28:Int),dn (fun s=>fv R x6 x2 x4 s.1 s.2) m (x27,x28)=some z9l/\At [(0,Pr.is v5),(2,Pr.i64 x2),(4,dc Tryz.prog (ez x4)),(14,Pr.i64 x27),(15,Pr.i64 x28)] [Own.vec v5 aq x6 47] e C) n9 ⟨x1,x2,hN9,⟨⟨aa,aa,aa,aa,aa,trivial⟩,Pick.refl _⟩⟩ ?_
    rintro m e C ⟨x27,x28,hN9,hatl9⟩
    refine W_at hatl9 ?_
    obtain⟨m9,w9l,rfl,h9l,hn9,ho9⟩:=bk hN9
    replace h9l:fv R x6 x2 x4 x27 x28=some w9l:=h9l
    unfold fv at h9l
    refine ba (W_rs (kMv rfl (kMv rfl (kIn rfl rfl rfl ?_))))
    refine a8 h9l rfl (fun _ h9l=> ?_) (fun _ h9l=> ?_)
    · refine az (a5 (W_rs (kMv rfl (kMv rfl (kIn rfl rfl rfl (kUn (qConv Tryz.underlying3 Tryz.underlying192) ?_))))))
      refine kUn (qShr (k:= .u64) (c:=2) 1 (by decide)) ?_
      refine kUn (qConv Tryz.underlying192 Tryz.underlying3) ?_
      refine kAs rfl ?_
      refine bj (fun e C=>∃(x34:Int),g7 R x27 x28 x34=some w9l/\At [(0,Pr.is v5),(2,Pr.i64 x2),(4,dc Tryz.prog (ez x4)),(14,Pr.i64 x27),(15,Pr.i64 x28),(16,Pr.i64 (w64 (Int.fdiv (IntKind.wrap .u64 (w64 (x27+x28))) 2))),(103,Pr.bool (!(decide (x34<0))))] [Own.vec v5 aq x6 47] e C) ?_ ?_
      · rintro e C ⟨x34,h9l,hat10⟩
        refine W_at hat10 ?_
        unfold g7 at h9l
        refine a8 h9l rfl (fun _ h9l=> ?_) (fun _ h9l=> ?_)
        · refine W_r (kMv rfl (kIn rfl rfl rfl (kAs rfl ?_)))
          exact⟨m9,Nat.lt_succ_self _,w64 ((w64 (Int.fdiv (IntKind.wrap .u64 (w64 (x27+x28))) 2))+1),x28,hn9 _ (Option.some.inj h9l).symm,atOk⟩
        refine W_r (kMv rfl (kAs rfl ?_))
        exact⟨m9,Nat.lt_succ_self _,x27,w64 (Int.fdiv (IntKind.wrap .u64 (w64 (x27+x28))) 2),hn9 _ (Option.some.inj h9l).symm,atOk⟩
      refine e7 12 hmx (by kernel_rfl) (by kernel_rfl) ?_
      refine lUn (hMv (out:=dc Tryz.prog (ez x4)) rfl) (lUn (hMvA rfl) (lUn (hMvA rfl) ?_))
      obtain⟨x32,hx32,h9l⟩:=aj h9l
      refine lUn (sb 0 (R:=aq) (l:=x6) Tryz.underlying27 Tryz.sizeOf47 hx32) ?_
      refine lUn (ru (R:=aq) (R':=aq) (l:=x6) (a:=x32) (o:=0) 0 ty47 (Sub.refl _) (Nat.le_of_ble_eq_true rfl) hx32 rfl) ?_
      refine lUn (hMvA rfl) (lUn (hMvA rfl) ?_)
      obtain⟨x33,hx33,h9l⟩:=aj h9l
      refine lUn (sb 0 (R:=aq) (l:=x6) Tryz.underlying27 Tryz.sizeOf47 hx33) ?_
      refine lUn (ru (R:=aq) (R':=aq) (l:=x6) (a:=x33) (o:=0) 0 ty47 (Sub.refl _) (Nat.le_of_ble_eq_true rfl) hx33 rfl) ?_
      obtain⟨x34,hx34,h9l⟩:=aj h9l
      refine lUn (qCallP (spec:=ez x4) ⟨_,_,_,rfl,rfl,hx34⟩) ?_
      refine lUn (qInt rfl rfl rfl) (lUn (qNot rfl) ?_)
      exact⟨x34,h9l,atOk⟩
    refine db ?_
    obtain rfl:=ho9 _ (Option.some.inj h9l).symm
    exact⟨x27,h,atOk⟩
  refine az (W_rs (kMv rfl (kMv rfl (kIn rfl rfl rfl (kUn (qConv Tryz.underlying3 Tryz.underlying192) ?_)))))
  refine kUn (qShr (k:= .u64) (c:=2) 1 (by decide)) ?_
  refine kUn (qConv Tryz.underlying192 Tryz.underlying3) ?_
  refine kAs rfl (W_rs (kMv rfl (kMv rfl (kIn rfl rfl rfl (kAs rfl (W_rs (kAs rfl (kAs rfl ?_))))))))
  refine bj (fun e C=>∃(x46:Int),∃(x47:Int),fh R x6 x1 x3 x2 x4 x46 x47=some r/\At [(0,Pr.is v5),(1,Pr.i64 x1),(2,Pr.i64 x2),(3,Pr.i64 x3),(4,dc Tryz.prog (ez x4)),(18,Pr.i64 (w64 (Int.fdiv (IntKind.wrap .u64 (w64 (x1+x3))) 2))),(19,Pr.i64 (w64 ((w64 (Int.fdiv (IntKind.wrap .u64 (w64 (x1+x3))) 2))+x2))),(20,Pr.i64 x46),(21,Pr.i64 x47)] [Own.vec v5 aq x6 47] e C) ?_ ?_
  · rintro e C ⟨x46,x47,h,hat19⟩
    refine W_at hat19 ?_
    unfold fh at h
    refine W_rs (kMv rfl (kIn rfl rfl rfl (kAs rfl (ba (a5 ?_)))))
    obtain⟨z17l,hz17,h⟩:=aj h
    obtain⟨n17,hN17⟩:=bt hz17
    refine cv 8 (fun e C=>∃(x48:Int),gz R x2 x1 x3 x4 x6 x48=some r/\At [(0,Pr.is v5),(1,Pr.i64 x1),(2,Pr.i64 x2),(3,Pr.i64 x3),(4,dc Tryz.prog (ez x4)),(18,Pr.i64 (w64 (Int.fdiv (IntKind.wrap .u64 (w64 (x1+x3))) 2))),(19,Pr.i64 (w64 ((w64 (Int.fdiv (IntKind.wrap .u64 (w64 (x1+x3))) 2))+x2))),(20,Pr.i64 x48)] [Own.vec v5 aq x6 47] e C) ?_ ?_
    · rintro e C ⟨x48,h,hat16⟩
      refine W_at hat16 ?_
      unfold gz at h
      refine W_rs (kMv rfl (kMv rfl (kIn rfl rfl rfl (kAs rfl ?_))))
      refine bj (fun e C=>∃(x61:List ApiUse),fj R x1 x48 x3 x4 x2 x61=some r/\At [(0,Pr.is v5),(1,Pr.i64 x1),(3,Pr.i64 x3),(4,dc Tryz.prog (ez x4)),(18,Pr.i64 (w64 (Int.fdiv (IntKind.wrap .u64 (w64 (x1+x3))) 2))),(20,Pr.i64 x48),(24,Pr.i64 (w64 ((w64 ((w64 (Int.fdiv (IntKind.wrap .u64 (w64 (x1+x3))) 2))+x2)) - x48)))] [Own.vec v5 aq x61 47] e C) ?_ ?_
      · rintro e C ⟨x61,h,hat14⟩
        refine W_at hat14 ?_
        unfold fj at h
        refine bj (fun e C=>∃(x66:List ApiUse),fm R x1 x3 x2 x48 x4 x66=some r/\At [(0,Pr.is v5),(3,Pr.i64 x3),(4,dc Tryz.prog (ez x4)),(18,Pr.i64 (w64 (Int.fdiv (IntKind.wrap .u64 (w64 (x1+x3))) 2))),(24,Pr.i64 (w64 ((w64 ((w64 (Int.fdiv (IntKind.wrap .u64 (w64 (x1+x3))) 2))+x2)) - x48)))] [Own.vec v5 aq x66 47] e C) ?_ ?_
        · rintro e C ⟨x66,h,hat12⟩
          refine W_at hat12 ?_
          unfold fm at h
          refine bj (fun e C=>∃(x68:Bool),fo R x1 x3 x2 x48 x4 x66 x68=some r/\At [(0,Pr.is v5),(3,Pr.i64 x3),(4,dc Tryz.prog (ez x4)),(18,Pr.i64 (w64 (Int.fdiv (IntKind.wrap .u64 (w64 (x1+x3))) 2))),(24,Pr.i64 (w64 ((w64 ((w64 (Int.fdiv (IntKind.wrap .u64 (w64 (x1+x3))) 2))+x2)) - x48))),(213,Pr.bool x68)] [Own.vec v5 aq x66 47] e C) ?_ ?_
          · rintro e C ⟨x68,h,hat11⟩
            refine W_at hat11 ?_
            unfold fo at h
            refine a8 h rfl (fun _ h=> ?_) (fun _ h=> ?_)
            · refine W_r (kMv rfl (kMv rfl (kMv rfl (kMv rfl (kUn (hMv (out:=dc Tryz.prog (ez x4)) rfl) ?_)))))
              obtain⟨x70,hx70,h⟩:=aj h
              refine j1 [0] (ih (w64 (Int.fdiv (IntKind.wrap .u64 (w64 (x1+x3))) 2)) (w64 ((w64 ((w64 (Int.fdiv (IntKind.wrap .u64 (w64 (x1+x3))) 2))+x2)) - x48)) x3 x4 x66 v5 _ hx70) (fun q C' hq=> ?_)
              obtain⟨rfl,rfl⟩:=hq
              obtain rfl:=osj h
              exact⟨.inr rfl,_,Pick.refl _,_,aa,rfl,rfl⟩
            refine az ?_
            obtain rfl:=osj h
            exact⟨.inr rfl,_,Pick.refl _,_,aa,rfl,rfl⟩
          refine W_r (kMv rfl (kMv rfl (kIn rfl rfl rfl (kMv rfl ?_))))
          rcases bg h with⟨hc67,h⟩|⟨hc67,h⟩
          · refine kGd rfl aa hc67 (hMvA rfl) (kGd rfl aa hc67 (hMvA rfl) (kGd rfl aa hc67 (qInt rfl rfl rfl) (kPt rfl hc67 rfl ?_)))
            exact⟨decide ((w64 ((w64 ((w64 (Int.fdiv (IntKind.wrap .u64 (w64 (x1+x3))) 2))+x2)) - x48))<x3),h,atOk⟩
          refine kSkT rfl aa hc67 (kSkT rfl aa hc67 (kSkT rfl aa hc67 (kPf rfl hc67 rfl ?_)))
          exact⟨false,h,atOk⟩
        refine bj (fun e C=>∃(x63:Bool),fk R x1 x48 x3 x4 x61 x2 x63=some r/\At [(0,Pr.is v5),(1,Pr.i64 x1),(3,Pr.i64 x3),(4,dc Tryz.prog (ez x4)),(18,Pr.i64 (w64 (Int.fdiv (IntKind.wrap .u64 (w64 (x1+x3))) 2))),(20,Pr.i64 x48),(24,Pr.i64 (w64 ((w64 ((w64 (Int.fdiv (IntKind.wrap .u64 (w64 (x1+x3))) 2))+x2)) - x48))),(199,Pr.bool x63)] [Own.vec v5 aq x61 47] e C) ?_ ?_
        · rintro e C ⟨x63,h,hat13⟩
          refine W_at hat13 ?_
          unfold fk at h
          refine a8 h rfl (fun _ h=> ?_) (fun _ h=> ?_)
          · refine W_r (kMv rfl (kMv rfl (kMv rfl (kMv rfl (kUn (hMv (out:=dc Tryz.prog (ez x4)) rfl) ?_)))))
            obtain⟨x65,hx65,h⟩:=aj h
            refine j1 [0] (ih x1 x48 (w64 (Int.fdiv (IntKind.wrap .u64 (w64 (x1+x3))) 2)) x4 x61 v5 _ hx65) (fun q C' hq=> ?_)
            obtain⟨rfl,rfl⟩:=hq
            exact⟨x65,h,atOk⟩
          refine az ?_
          exact⟨x61,h,atOk⟩
        refine W_r (kMv rfl (kMv rfl (kIn rfl rfl rfl (kMv rfl ?_))))
        rcases bg h with⟨hc62,h⟩|⟨hc62,h⟩
        · refine kGd rfl aa hc62 (hMvA rfl) (kGd rfl aa hc62 (hMvA rfl) (kGd rfl aa hc62 (qInt rfl rfl rfl) (kPt rfl hc62 rfl ?_)))
          exact⟨decide (x48<(w64 (Int.fdiv (IntKind.wrap .u64 (w64 (x1+x3))) 2))),h,atOk⟩
        refine kSkT rfl aa hc62 (kSkT rfl aa hc62 (kSkT rfl aa hc62 (kPf rfl hc62 rfl ?_)))
        exact⟨false,h,atOk⟩
      refine bj (fun e C=>∃(x58:Bool),fi R x48 x2 x1 x3 x4 x6 x58=some r/\At [(0,Pr.is v5),(1,Pr.i64 x1),(2,Pr.i64 x2),(3,Pr.i64 x3),(4,dc Tryz.prog (ez x4)),(18,Pr.i64 (w64 (Int.fdiv (IntKind.wrap .u64 (w64 (x1+x3))) 2))),(20,Pr.i64 x48),(24,Pr.i64 (w64 ((w64 ((w64 (Int.fdiv (IntKind.wrap .u64 (w64 (x1+x3))) 2))+x2)) - x48))),(185,Pr.bool x58)] [Own.vec v5 aq x6 47] e C) ?_ ?_
      · rintro e C ⟨x58,h,hat15⟩
        refine W_at hat15 ?_
        unfold fi at h
        refine a8 h rfl (fun _ h=> ?_) (fun _ h=> ?_)
        · refine W_r (kMv rfl (kMv rfl (kMv rfl (kMv rfl (kUn (hMv (out:=dc Tryz.prog (ez x4)) rfl) ?_)))))
          obtain⟨x60,hx60,h⟩:=aj h
          refine j1 [0] (slices_rotateCmpFunc_api_Use_ok x48 x2 (w64 ((w64 ((w64 (Int.fdiv (IntKind.wrap .u64 (w64 (x1+x3))) 2))+x2)) - x48)) x4 x6 v5 _ hx60) (fun q C' hq=> ?_)
          obtain⟨rfl,rfl⟩:=hq
          exact⟨x60,h,atOk⟩
        refine az ?_
        exact⟨x6,h,atOk⟩
      refine W_r (kMv rfl (kMv rfl (kIn rfl rfl rfl (kMv rfl ?_))))
      rcases bg h with⟨hc57,h⟩|⟨hc57,h⟩
      · refine kGd rfl aa hc57 (hMvA rfl) (kGd rfl aa hc57 (hMvA rfl) (kGd rfl aa hc57 (qInt rfl rfl rfl) (kPt rfl hc57 rfl ?_)))
        exact⟨decide (x2<(w64 ((w64 ((w64 (Int.fdiv (IntKind.wrap .u64 (w64 (x1+x3))) 2))+x2)) - x48))),h,atOk⟩
      refine kSkT rfl aa hc57 (kSkT rfl aa hc57 (kSkT rfl aa hc57 (kPf rfl hc57 rfl ?_)))
      exact⟨false,h,atOk⟩
    refine da (fun m e C=>∃(x48:Int),∃(x49:Int),dn (fun s=>fg R x6 x1 x3 x2 x4 s.1 s.2) m (x48,x49)=some z17l/\At [(0,Pr.is v5),(1,Pr.i64 x1),(2,Pr.i64 x2),(3,Pr.i64 x3),(4,dc Tryz.prog (ez x4)),(18,Pr.i64 (w64 (Int.fdiv (IntKind.wrap .u64 (w64 (x1+x3))) 2))),(19,Pr.i64 (w64 ((w64 (Int.fdiv (IntKind.wrap .u64 (w64 (x1+x3))) 2))+x2))),(20,Pr.i64 x48),(21,Pr.i64 x49),(22,Pr.i64 (w64 ((w64 ((w64 (Int.fdiv (IntKind.wrap .u64 (w64 (x1+x3))) 2))+x2)) - 1)))] [Own.vec v5 aq x6 47] e C) n17 ⟨x46,x47,hN17,⟨⟨aa,aa,aa,aa,aa,aa,aa,aa,aa,aa,trivial⟩,Pick.refl _⟩⟩ ?_
    rintro m e C ⟨x48,x49,hN17,hatl17⟩
    refine W_at hatl17 ?_
    obtain⟨m17,w17l,rfl,h17l,hn17,ho17⟩:=bk hN17
    replace h17l:fg R x6 x1 x3 x2 x4 x48 x49=some w17l:=h17l
    unfold fg at h17l
    refine ba (W_rs (kMv rfl (kMv rfl (kIn rfl rfl rfl ?_))))
    refine a8 h17l rfl (fun _ h17l=> ?_) (fun _ h17l=> ?_)
    · refine az (a5 (W_rs (kMv rfl (kMv rfl (kIn rfl rfl rfl (kUn (qConv Tryz.underlying3 Tryz.underlying192) ?_))))))
      refine kUn (qShr (k:= .u64) (c:=2) 1 (by decide)) ?_
      refine kUn (qConv Tryz.underlying192 Tryz.underlying3) ?_
      refine kAs rfl ?_
      refine bj (fun e C=>∃(x55:Int),g0 R x48 x49 x55=some w17l/\At [(0,Pr.is v5),(1,Pr.i64 x1),(2,Pr.i64 x2),(3,Pr.i64 x3),(4,dc Tryz.prog (ez x4)),(18,Pr.i64 (w64 (Int.fdiv (IntKind.wrap .u64 (w64 (x1+x3))) 2))),(19,Pr.i64 (w64 ((w64 (Int.fdiv (IntKind.wrap .u64 (w64 (x1+x3))) 2))+x2))),(20,Pr.i64 x48),(21,Pr.i64 x49),(22,Pr.i64 (w64 ((w64 ((w64 (Int.fdiv (IntKind.wrap .u64 (w64 (x1+x3))) 2))+x2)) - 1))),(23,Pr.i64 (w64 (Int.fdiv (IntKind.wrap .u64 (w64 (x48+x49))) 2))),(171,Pr.bool (!(decide (x55<0))))] [Own.vec v5 aq x6 47] e C) ?_ ?_
      · rintro e C ⟨x55,h17l,hat18⟩
        refine W_at hat18 ?_
        unfold g0 at h17l
        refine a8 h17l rfl (fun _ h17l=> ?_) (fun _ h17l=> ?_)
        · refine W_r (kMv rfl (kIn rfl rfl rfl (kAs rfl ?_)))
          exact⟨m17,Nat.lt_succ_self _,w64 ((w64 (Int.fdiv (IntKind.wrap .u64 (w64 (x48+x49))) 2))+1),x49,hn17 _ (Option.some.inj h17l).symm,atOk⟩
        refine W_r (kMv rfl (kAs rfl ?_))
        exact⟨m17,Nat.lt_succ_self _,x48,w64 (Int.fdiv (IntKind.wrap .u64 (w64 (x48+x49))) 2),hn17 _ (Option.some.inj h17l).symm,atOk⟩
      refine e7 14 hmx (by kernel_rfl) (by kernel_rfl) ?_
      refine lUn (hMv (out:=dc Tryz.prog (ez x4)) rfl) (lUn (hMvA rfl) (lUn (hMvA rfl) (lUn (hMvA rfl) (lUn (qInt rfl rfl rfl) ?_))))
      obtain⟨x53,hx53,h17l⟩:=aj h17l
      refine lUn (sb 0 (R:=aq) (l:=x6) Tryz.underlying27 Tryz.sizeOf47 hx53) ?_
      refine lUn (ru (R:=aq) (R':=aq) (l:=x6) (a:=x53) (o:=0) 0 ty47 (Sub.refl _) (Nat.le_of_ble_eq_true rfl) hx53 rfl) ?_
      refine lUn (hMvA rfl) (lUn (hMvA rfl) ?_)
      obtain⟨x54,hx54,h17l⟩:=aj h17l
      refine lUn (sb 0 (R:=aq) (l:=x6) Tryz.underlying27 Tryz.sizeOf47 hx54) ?_
      refine lUn (ru (R:=aq) (R':=aq) (l:=x6) (a:=x54) (o:=0) 0 ty47 (Sub.refl _) (Nat.le_of_ble_eq_true rfl) hx54 rfl) ?_
      obtain⟨x55,hx55,h17l⟩:=aj h17l
      refine lUn (qCallP (spec:=ez x4) ⟨_,_,_,rfl,rfl,hx55⟩) ?_
      refine lUn (qInt rfl rfl rfl) (lUn (qNot rfl) ?_)
      exact⟨x55,h17l,atOk⟩
    refine db ?_
    obtain rfl:=ho17 _ (Option.some.inj h17l).symm
    exact⟨x48,h,atOk⟩
  refine W_rs (kMv rfl (kMv rfl (kIn rfl rfl rfl ?_)))
  refine a8 h rfl (fun _ h=> ?_) (fun _ h=> ?_)
  · refine W_rs (kMv rfl (kMv rfl (kIn rfl rfl rfl (kAs rfl (W_r (kMv rfl (kAs rfl ?_)))))))
    exact⟨w64 ((w64 ((w64 (Int.fdiv (IntKind.wrap .u64 (w64 (x1+x3))) 2))+x2)) - x3),w64 (Int.fdiv (IntKind.wrap .u64 (w64 (x1+x3))) 2),h,atOk⟩
  refine W_rs (kMv rfl (kAs rfl (W_r (kMv rfl (kAs rfl ?_)))))
  exact⟨x1,x2,h,atOk⟩
theorem qj :∀n,jb (gk n):=by
 intro n
 induction n with
 |zero=>exact(fun x1 x2 x3 x4 x6 v5 r h=>nomatch (show none=some r from h))
 |succ n ih=>exact(fun x1 x2 x3 x4 x6 v5 r h=>qk (gk n) ih x1 x2 x3 x4 x6 v5 r h)
theorem lf (x1 x2 x3:Int) (x4:(ApiUse->ApiUse->Option Int)) (x6:List ApiUse) (v5:Value) (r:(List ApiUse)) (h:ja x1 x2 x3 x4 x6=some r):FnC Tryz.prog 130 [Pr.is v5,Pr.i64 x1,Pr.i64 x2,Pr.i64 x3,dc Tryz.prog (ez x4)] [Own.vec v5 aq x6 47] (fun q C'=>q=br []/\C'=[Own.vec v5 aq r 47]):=(qj 1048576) x1 x2 x3 x4 x6 v5 r h
theorem slices_stableCmpFunc_api_Use_ok (x1:Int) (x2:(ApiUse->ApiUse->Option Int)) (x4:List ApiUse) (v3:Value) (r:(List ApiUse)) (h:jt x1 x2 x4=some r):FnC Tryz.prog 78 [Pr.is v3,Pr.i64 x1,dc Tryz.prog (ez x2)] [Own.vec v3 aq x4 47] (fun q C'=>q=br []/\C'=[Own.vec v3 aq r 47]):=by
 refine fq (rs:=[]) Tryz.func78 rfl Tryz.ntmps78 ⟨by decide,Tryz.results78⟩ (by decide) (fun s0=> ?_)
 unfold jt at h
 refine W_rs (kAs rfl (W_rs (kMv rfl (kAs rfl (kAs rfl (ba (a5 ?_)))))))
 obtain⟨z7l,hz7,h⟩:=aj h
 obtain⟨n7,hN7⟩:=bt hz7
 refine cv 0 (fun e C=>∃(x5:Int),∃(x7:List ApiUse),i4 x1 x2 x5 x7=some r/\At [(0,Pr.is v3),(1,Pr.i64 x1),(2,dc Tryz.prog (ez x2)),(6,Pr.i64 20),(7,Pr.i64 x5)] [Own.vec v3 aq x7 47] e C) ?_ ?_
 ·rintro e C ⟨x5,x7,h,hat6⟩
  refine W_at hat6 ?_
  unfold i4 at h
  refine W_rs (kMv rfl (kMv rfl (kMv rfl (kUn (hMv (out:=dc Tryz.prog (ez x2)) rfl) ?_))))
  obtain⟨x13,hx13,h⟩:=aj h
  refine j1 [0] (ji x5 x1 x2 x7 v3 _ hx13) (fun q C' hq=> ?_)
  obtain⟨rfl,rfl⟩:=hq
  refine a5 ?_
  obtain⟨z2l,hz2,h⟩:=aj h
  obtain⟨n2,hN2⟩:=bt hz2
  refine cv 2 (fun e C=>∃(x15:List ApiUse),i6 x15=some r/\At [(0,Pr.is v3)] [Own.vec v3 aq x15 47] e C) ?_ ?_
  ·rintro e C ⟨x15,h,hat1⟩
   unfold i6 at h
   obtain rfl:=osj h
   exact⟨.inr rfl,_,(Pick.trans hat1.2 (Pick.refl _)),_,aa,rfl,rfl⟩
  refine da (fun m e C=>∃(x14:Int),∃(x15:List ApiUse),dn (fun s=>f9 x1 x2 s.1 s.2) m (x14,x15)=some z2l/\At [(0,Pr.is v3),(1,Pr.i64 x1),(2,dc Tryz.prog (ez x2)),(6,Pr.i64 x14)] [Own.vec v3 aq x15 47] e C) n2 ⟨20,x13,hN2,⟨⟨aa,aa,aa,aa,trivial⟩,Pick.refl _⟩⟩ ?_
  rintro m e C ⟨x14,x15,hN2,hatl2⟩
  refine W_at hatl2 ?_
  obtain⟨m2,w2l,rfl,h2l,hn2,ho2⟩:=bk hN2
  replace h2l:f9 x1 x2 x14 x15=some w2l:=h2l
  unfold f9 at h2l
  refine ba (W_rs (kMv rfl (kMv rfl (kIn rfl rfl rfl ?_))))
  refine a8 h2l rfl (fun _ h2l=> ?_) (fun _ h2l=> ?_)
  ·refine az (a5 (W_rs (kMv rfl (kIn rfl rfl rfl (kAs rfl (kAs rfl (ba (a5 ?_))))))))
   obtain⟨z5l,hz5,h2l⟩:=aj h2l
   obtain⟨n5,hN5⟩:=bt hz5
   refine cv 4 (fun e C=>∃(x19:Int),∃(x21:List ApiUse),i5 x14 x1 x2 x19 x21=some w2l/\At [(0,Pr.is v3),(1,Pr.i64 x1),(2,dc Tryz.prog (ez x2)),(6,Pr.i64 x14),(7,Pr.i64 x19)] [Own.vec v3 aq x21 47] e C) ?_ ?_
   ·rintro e C ⟨x19,x21,h2l,hat4⟩
    refine W_at hat4 ?_
    unfold i5 at h2l
    refine bj (fun e C=>∃(x29:List ApiUse),ga x14 x29=some w2l/\At [(0,Pr.is v3),(1,Pr.i64 x1),(2,dc Tryz.prog (ez x2)),(6,Pr.i64 x14)] [Own.vec v3 aq x29 47] e C) ?_ ?_
    ·rintro e C ⟨x29,h2l,hat3⟩
     refine W_at hat3 ?_
     unfold ga at h2l
     refine W_r (kMv rfl (kIn rfl rfl rfl (kAs rfl ?_)))
     exact⟨m2,Nat.lt_succ_self _,w64 (x14 * 2),x29,hn2 _ (Option.some.inj h2l).symm,atOk⟩
    refine W_rs (kMv rfl (kMv rfl (kIn rfl rfl rfl (kAs rfl (W_rs (kMv rfl (kMv rfl (kIn rfl rfl rfl ?_))))))))
    refine a8 h2l rfl (fun _ h2l=> ?_) (fun _ h2l=> ?_)
    ·refine W_r (kMv rfl (kMv rfl (kMv rfl (kMv rfl (kUn (hMv (out:=dc Tryz.prog (ez x2)) rfl) ?_)))))
     obtain⟨x28,hx28,h2l⟩:=aj h2l
     refine j1 [0] (lf x19 (w64 (x19+x14)) x1 x2 x21 v3 _ hx28) (fun q C' hq=> ?_)
     obtain⟨rfl,rfl⟩:=hq
     exact⟨x28,h2l,atOk⟩
    refine az ?_
    exact⟨x21,h2l,atOk⟩
   refine da (fun m e C=>∃(x19:Int),∃(x20:Int),∃(x21:List ApiUse),dn (fun s=>f7 x1 x14 x2 s.1 s.2.1 s.2.2) m (x19,x20,x21)=some z5l/\At [(0,Pr.is v3),(1,Pr.i64 x1),(2,dc Tryz.prog (ez x2)),(6,Pr.i64 x14),(7,Pr.i64 x19),(8,Pr.i64 x20)] [Own.vec v3 aq x21 47] e C) n5 ⟨0,w64 (2 * x14),x15,hN5,⟨⟨aa,aa,aa,aa,aa,aa,trivial⟩,Pick.refl _⟩⟩ ?_
   rintro m e C ⟨x19,x20,x21,hN5,hatl5⟩
   refine W_at hatl5 ?_
   obtain⟨m5,w5l,rfl,h5l,hn5,ho5⟩:=bk hN5
   replace h5l:f7 x1 x14 x2 x19 x20 x21=some w5l:=h5l
   unfold f7 at h5l
   refine ba (W_rs (kMv rfl (kMv rfl (kIn rfl rfl rfl ?_))))
   refine a8 h5l rfl (fun _ h5l=> ?_) (fun _ h5l=> ?_)
   ·refine az (a5 (W_rs (kMv rfl (kMv rfl (kMv rfl (kMv rfl (kIn rfl rfl rfl (kMv rfl (kUn (hMv (out:=dc Tryz.prog (ez x2)) rfl) ?_)))))))))
    obtain⟨x26,hx26,h5l⟩:=aj h5l
    refine j1 [0] (lf x19 (w64 (x19+x14)) x20 x2 x21 v3 _ hx26) (fun q C' hq=> ?_)
    obtain⟨rfl,rfl⟩:=hq
    refine W_rs (kMv rfl (kAs rfl (W_r (kMv rfl (kMv rfl (kIn rfl rfl rfl (kIn rfl rfl rfl (kAs rfl ?_))))))))
    exact⟨m5,Nat.lt_succ_self _,x20,w64 (x20+(w64 (2 * x14))),x26,hn5 _ (Option.some.inj h5l).symm,atOk⟩
   refine db ?_
   obtain rfl:=ho5 _ (Option.some.inj h5l).symm
   exact⟨x19,x21,h2l,atOk⟩
  refine db ?_
  obtain rfl:=ho2 _ (Option.some.inj h2l).symm
  exact⟨x15,h,atOk⟩
 refine da (fun m e C=>∃(x5:Int),∃(x6:Int),∃(x7:List ApiUse),dn (fun s=>f6 x1 x2 s.1 s.2.1 s.2.2) m (x5,x6,x7)=some z7l/\At [(0,Pr.is v3),(1,Pr.i64 x1),(2,dc Tryz.prog (ez x2)),(6,Pr.i64 20),(7,Pr.i64 x5),(8,Pr.i64 x6)] [Own.vec v3 aq x7 47] e C) n7 ⟨0,20,x4,hN7,⟨⟨aa,aa,aa,aa,aa,aa,trivial⟩,Pick.refl _⟩⟩ ?_
 rintro m e C ⟨x5,x6,x7,hN7,hatl7⟩
 refine W_at hatl7 ?_
 obtain⟨m7,w7l,rfl,h7l,hn7,ho7⟩:=bk hN7
 replace h7l:f6 x1 x2 x5 x6 x7=some w7l:=h7l
 unfold f6 at h7l
 refine ba (W_rs (kMv rfl (kMv rfl (kIn rfl rfl rfl ?_))))
 refine a8 h7l rfl (fun _ h7l=> ?_) (fun _ h7l=> ?_)
 ·refine az (a5 (W_rs (kMv rfl (kMv rfl (kMv rfl (kUn (hMv (out:=dc Tryz.prog (ez x2)) rfl) ?_))))))
  obtain⟨x12,hx12,h7l⟩:=aj h7l
  refine j1 [0] (ji x5 x6 x2 x7 v3 _ hx12) (fun q C' hq=> ?_)
  obtain⟨rfl,rfl⟩:=hq
  refine W_rs (kMv rfl (kAs rfl (W_r (kMv rfl (kMv rfl (kIn rfl rfl rfl (kAs rfl ?_)))))))
  exact⟨m7,Nat.lt_succ_self _,x6,w64 (x6+20),x12,hn7 _ (Option.some.inj h7l).symm,atOk⟩
 refine db ?_
 obtain rfl:=ho7 _ (Option.some.inj h7l).symm
 exact⟨x5,x7,h,atOk⟩
theorem ov (x1:(ApiUse->ApiUse->Option Int)) (x3:List ApiUse) (v2:Value) (r:(List ApiUse)) (h:gi x1 x3=some r):FnC Tryz.prog 38 [Pr.is v2,dc Tryz.prog (ez x1)] [Own.vec v2 aq x3 47] (fun q C'=>q=br []/\C'=[Own.vec v2 aq r 47]):=by
 refine fq (rs:=[]) Tryz.func38 rfl Tryz.ntmps38 ⟨by decide,Tryz.results38⟩ (by decide) (fun s0=> ?_)
 unfold gi at h
 refine W_r (kMv rfl (kMv rfl (kUn (qLenV 0 rfl Tryz.underlying27) ?_)))
 refine kUn (hMv (out:=dc Tryz.prog (ez x1)) rfl) ?_
 obtain⟨x4,hx4,h⟩:=aj h
 refine j1 [0] (slices_stableCmpFunc_api_Use_ok (x3.length:Int) x1 x3 v2 _ hx4) (fun q C' hq=> ?_)
 obtain⟨rfl,rfl⟩:=hq
 obtain rfl:=osj h
 exact⟨.inr rfl,_,Pick.refl _,_,aa,rfl,rfl⟩
end Go.Proofs.YtcndghapmoaidaaGreatDoor
