/- The code comes to what these functions say (printed by wip/gen/gen.py). -/
import Derived.Test.YtcndghapmoaidaaGreatDoorZX
import Derived.Test.YtcndghapmoaidaaGreatDoorZP6
import Derived.Test.YtcndghapmoaidaaGreatDoorZT
set_option linter.unusedSimpArgs false
set_option linter.unusedVariables false
set_option linter.unusedSectionVars false
set_option linter.unusedSectionVars false
set_option maxRecDepth 100000
set_option maxHeartbeats 4000000
namespace Go.Proofs.YtcndghapmoaidaaGreatDoor
open Go Go.Cn
attribute [local irreducible] ec aq
def mr (R:cc):Prop:=(∀(x1:List ApiToken) (x2:Int) (x3:Int) (r:ApiNode × Int × Ref12Wrong),R.1 x1 x2 x3=some r->FnP Tryz.prog 140 [aq bz x1,Pr.i64 x2,Pr.i64 x3] (bk [(ab).val r.1,Pr.i64 r.2.1,(ag).val r.2.2]))/\(∀(x1:List ApiToken) (x2:Int) (x3:Int) (r:ApiNode × Int × Ref12Wrong),R.2.1 x1 x2 x3=some r->FnP Tryz.prog 169 [aq bz x1,Pr.i64 x2,Pr.i64 x3] (bk [(ab).val r.1,Pr.i64 r.2.1,(ag).val r.2.2]))/\(∀(x1:List ApiToken) (x2:Int) (x3:Int) (r:ApiNode × Int × Ref12Wrong),R.2.2 x1 x2 x3=some r->FnP Tryz.prog 180 [aq bz x1,Pr.i64 x2,Pr.i64 x3] (bk [(ab).val r.1,Pr.i64 r.2.1,(ag).val r.2.2]))
theorem F_ref12_block_step (R:cc) (ih:mr R) (x1:List ApiToken) (x2 x3:Int) (r:ApiNode × Int × Ref12Wrong) (h:F_ref12_block R x1 x2 x3=some r):FnP Tryz.prog 140 [aq bz x1,Pr.i64 x2,Pr.i64 x3] (bk [(ab).val r.1,Pr.i64 r.2.1,(ag).val r.2.2]):=by
 refine c4 (rs:=[.cell 6 64,.tmp 7,.cell 8 97]) Tryz.func140 rfl Tryz.ntmps140 Tryz.results140 (by decide) (fun s0=> ?_)
 unfold F_ref12_block at h
 refine W_rs (bq al64 fun b4=>kAs rfl (bq al97 fun b5=>a8 (W_rs (kMvL rfl (kMv rfl (cm h (bu x1 x2 ([123]:List UInt8)) rfl fun x6 _ h=>kNo rfl ?_))))))
 refine a5 h rfl (fun _ h=> ?_) (fun _ h=> ?_)
 ·refine W_rs (kUn (di bb st64 rfl) ?_)
  refine kMv rfl (cm h (cg x2) rfl fun x8 _ h=>av 0 rfl rfl (Upd.refl _) rfl Tryz.sizeOf64 (kAs rfl (av 1 rfl rfl (Upd.refl _) rfl Tryz.sizeOf97 ?_)))
  obtain rfl:=osj h
  exact bc ⟨rfl,[(ab).val (ApiNode.mk 0 [] [] 0 0 0 0 0 []),Pr.i64 0,(ag).val x8],⟨yBox 0 ty64 aa,yT aa,yBox 1 ty97 aa,trivial⟩,aa⟩
 refine ax (W_rs (kAs rfl (W_rs (kMv rfl (kIn rfl rfl rfl (kAs rfl (a8 (az ?_))))))))
 obtain⟨z2l,hz2,h⟩:=ah h
 obtain⟨n2,hN2⟩:=bp hz2
 refine cq 0 (fun e C=>∃(x10:Int),∃(x11:List ApiNode),∃(v9:Value),ref12_block_k1 R x1 x2 x10 x11=some r/\At [(0,aq bz x1),(1,Pr.i64 x2),(6,am b4 0),(8,am b5 0),(9,Pr.is v9),(10,Pr.i64 x10)] [Own.box b4 ab (ApiNode.mk 0 [] [] 0 0 0 0 0 []),Own.box b5 ag (Ref12Wrong.mk 0 0),Own.vec v9 ab x11 64] e C) ?_ ?_
 ·rintro e C ⟨x10,x11,v9,h,hat1⟩
  refine W_at hat1 ?_
  unfold ref12_block_k1 at h
  refine W_rs (kMvL rfl (kMv rfl (kMv rfl (kIn rfl rfl rfl (kMv rfl ?_)))))
  obtain⟨x34,hx34,h⟩:=ah h
  refine rRel 2 [9,67] ?_ rfl ⟨rfl,rfl,trivial⟩
  refine kUn (ct (db x1 5 x2 (w64 (x10+1)) x11 _ hx34)) ?_
  refine kMv rfl (kIn rfl rfl rfl (cm h (cr) rfl fun x35 _ h=>av 0 rfl rfl (Upd.refl _) rfl Tryz.sizeOf64 (kAs rfl (av 1 rfl rfl (Upd.refl _) rfl Tryz.sizeOf97 ?_))))
  obtain rfl:=osj h
  exact bc ⟨rfl,[(ab).val x34,Pr.i64 (w64 (x10+1)),(ag).val x35],⟨yBox 0 ty64 aa,yT aa,yBox 1 ty97 aa,trivial⟩,aa⟩
 refine W_nil [9] ab 64 (fun v36=> ?_) ⟨rfl,trivial⟩
 refine c8 (fun m e C=>∃(x10:Int),∃(x11:List ApiNode),∃(v9:Value),dj (fun s=>s7 R x1 x3 s.1 s.2) m (x10,x11)=some z2l/\At [(0,aq bz x1),(1,Pr.i64 x2),(2,Pr.i64 x3),(6,am b4 0),(8,am b5 0),(9,Pr.is v9),(10,Pr.i64 x10)] [Own.box b4 ab (ApiNode.mk 0 [] [] 0 0 0 0 0 []),Own.box b5 ag (Ref12Wrong.mk 0 0),Own.vec v9 ab x11 64] e C) n2 ⟨w64 (x2+1),[],v36,hN2,⟨⟨aa,aa,aa,aa,aa,aa,aa,trivial⟩,Pick.refl _⟩⟩ ?_
 rintro m e C ⟨x10,x11,v9,hN2,hatl2⟩
 refine W_at hatl2 ?_
 obtain⟨m2,w2l,rfl,h2l,hn2,ho2⟩:=bj hN2
 replace h2l:s7 R x1 x3 x10 x11=some w2l:=h2l
 unfold s7 at h2l
 refine a8 (W_rs (kMvL rfl (kMv rfl (cm h2l (bu x1 x10 ([125]:List UInt8)) rfl fun x15 _ h2l=>kNo rfl ?_))))
 refine a5 h2l rfl (fun _ h2l=> ?_) (fun _ h2l=> ?_)
 ·refine ax (az (W_rs (bq al64 fun b17=>W_rs (bq al97 fun b18=>W_rs (kAs rfl ?_)))))
  refine bh (fun e C=>∃(x28:Int),∃(x29:ApiNode),∃(x30:Ref12Wrong),pl R x11 x28 x29 x30=some w2l/\At [(0,aq bz x1),(1,Pr.i64 x2),(2,Pr.i64 x3),(6,am b4 0),(8,am b5 0),(9,Pr.is v9),(11,am b17 0),(12,am b18 0),(13,Pr.i64 x28)] [Own.box b4 ab (ApiNode.mk 0 [] [] 0 0 0 0 0 []),Own.box b5 ag (Ref12Wrong.mk 0 0),Own.vec v9 ab x11 64,Own.box b17 ab x29,Own.box b18 ag x30] e C) ?_ ?_
  ·rintro e C ⟨x28,x29,x30,h2l,hat4⟩
   refine W_at hat4 ?_
   unfold pl at h2l
   refine a8 (W_rs (kUn (ai ki) ?_))
   refine kUn (ap 4 ty3 cb) ?_
   refine kIn rfl rfl rfl ?_
   refine a5 h2l rfl (fun _ h2l=> ?_) (fun _ h2l=> ?_)
   ·refine bh (fun e C=>ref12_block_j3 R x30=some w2l/\At [(6,am b4 0),(7,Pr.i64 0),(8,am b5 0)] [Own.box b4 ab (ApiNode.mk 0 [] [] 0 0 0 0 0 []),Own.box b5 ag x30,Own.box b17 ab x29,Own.box b18 ag x30] e C) ?_ ?_
    ·rintro e C ⟨h2l,hat3⟩
     refine W_at hat3 ?_
     unfold ref12_block_j3 at h2l
     obtain rfl:=ho2 _ (Option.some.inj h2l).symm
     replace h:some ((ApiNode.mk 0 [] [] 0 0 0 0 0 []),0,x30)=some r:=h
     obtain rfl:=osj h
     exact bc ⟨rfl,[(ab).val (ApiNode.mk 0 [] [] 0 0 0 0 0 []),Pr.i64 0,(ag).val x30],⟨yBox 0 ty64 aa,yT aa,yBox 1 ty97 aa,trivial⟩,aa⟩
    refine dt [(2,0,Own.box b4 ab (ApiNode.mk 0 [] [] 0 0 0 0 0 [])),(4,1,Own.box b5 ag x30)] [Own.box b4 ab (ApiNode.mk 0 [] [] 0 0 0 0 0 []),Own.box b5 ag x30,Own.vec v9 ab x11 64,Own.box b17 ab x29,Own.box b18 ag x30] hmx (by kernel_rfl) (by kernel_rfl) (show([2,4]:List Nat).Nodup by decide) (show([0,1]:List Nat).Nodup by decide) rfl rfl ?_
    refine eq1 (out:=(ab).val (ApiNode.mk 0 [] [] 0 0 0 0 0 [])) (fun C2 hC=>(di bb st64 rfl)) ?_
    refine eq1 (out:=(ag).val x30) (fun C2 hC=>(ap (R:=ag) (a:=x30) (R':=ag) 4 ty97 (Sub.refl _) (hi:=(hC 4 (by kernel_rfl)).trans rfl))) ?_
    refine eqS (fun C2 hC=>dc (R:=ab) (R':=ab) (a:=(ApiNode.mk 0 [] [] 0 0 0 0 0 [])) (y:=(ApiNode.mk 0 [] [] 0 0 0 0 0 [])) 0 Tryz.sizeOf64 (Upd.refl _) ((hC 0 (by kernel_rfl)).trans rfl)) ?_
    refine eq1 (out:=Pr.i64 0) (fun C2 hC=>du) ?_
    refine eqS (fun C2 hC=>dc (R:=ag) (R':=ag) (a:=(Ref12Wrong.mk 0 0)) (y:=x30) 1 Tryz.sizeOf97 (Upd.refl _) ((hC 1 (by kernel_rfl)).trans rfl)) ?_
    exact⟨h2l,⟨⟨aa,aa,aa,trivial⟩,Pick.of [0,1,3,4] rfl⟩⟩
   refine ax (W_rs (kMv rfl (kUn (ap 3 ty64 (Sub.refl _)) ?_)))
   refine kUn (cl (R:=ab) (a:=x29) el53 (Nat.le_of_ble_eq_true rfl)) ?_
   obtain⟨x32,hx32,h2l⟩:=ah h2l
   refine ev 2 el53 hx32 (fun v33=> ?_)
   refine kAs rfl (W_r (kMv rfl (kAs rfl ?_)))
   exact⟨m2,Nat.lt_succ_self _,x28,x32,v33,hn2 _ (Option.some.inj h2l).symm,⟨⟨aa,aa,aa,aa,aa,aa,aa,trivial⟩,Pick.of [0,1,2] rfl⟩⟩
  refine W_rs (kMvL rfl (kMv rfl (cm h2l (ref12_local_ok x1 x10) rfl fun x19 _ h2l=> ?_)))
  refine a5 h2l rfl (fun _ h2l=> ?_) (fun _ h2l=> ?_)
  ·refine W_rs (kMvL rfl (kMv rfl (kMv rfl (kIn rfl rfl rfl ?_))))
   obtain⟨⟨x21,x22,x23⟩,hx21,h2l⟩:=ah h2l
   refine kUn (ct (ref12_locals_ok x1 x10 (w64 (x3+1)) _ hx21)) ?_
   refine kUn (hMv (out:=bk [(ab).val x21,Pr.i64 x22,(ag).val x23]) rfl) (kUn au ?_)
   refine kUn au ?_
   refine kUn au ?_
   refine av 3 rfl rfl (Upd.refl _) rfl Tryz.sizeOf64 (kAs rfl (av 4 rfl rfl (Upd.refl _) rfl Tryz.sizeOf97 (W_rs (kMv rfl (kIn rfl rfl rfl (kIn rfl rfl rfl ?_))))))
   refine a5 h2l rfl (fun _ h2l=> ?_) (fun _ h2l=> ?_)
   ·refine W_r (kMv rfl (kUn (fv st97 ⟨(Ref12Wrong.mk x10 0),⟨_,rfl,rfl,fun j fd hj hf=>by match j,hj with| 0,h=>exact absurd rfl h| 1,_=>cases hf;rfl|_+2,_=>cases hf⟩,⟨(Ref12Wrong.mk x10 2),⟨_,rfl,rfl,fun j fd hj hf=>by match j,hj with| 0,_=>cases hf;rfl| 1,h=>exact absurd rfl h|_+2,_=>cases hf⟩,rfl⟩⟩) ?_))
    refine av 4 rfl rfl (Upd.refl _) rfl Tryz.sizeOf97 ?_
    exact⟨x22,x21,(Ref12Wrong.mk x10 2),h2l,atOk⟩
   refine ax ?_
   exact⟨x22,x21,x23,h2l,atOk⟩
  refine W_r (kMvL rfl (kMv rfl (kMv rfl (kIn rfl rfl rfl ?_))))
  obtain⟨⟨x25,x26,x27⟩,hx25,h2l⟩:=ah h2l
  refine kUn (ct (ih.2.1 x1 x10 (w64 (x3+1)) _ hx25)) ?_
  refine kUn (hMv (out:=bk [(ab).val x25,Pr.i64 x26,(ag).val x27]) rfl) (kUn au ?_)
  refine kUn au ?_
  refine kUn au ?_
  refine av 3 rfl rfl (Upd.refl _) rfl Tryz.sizeOf64 (kAs rfl (av 4 rfl rfl (Upd.refl _) rfl Tryz.sizeOf97 ?_))
  exact⟨x26,x25,x27,h2l,atOk⟩
 refine c6 ?_
 obtain rfl:=ho2 _ (Option.some.inj h2l).symm
 exact⟨x10,x11,v9,h,atOk⟩
theorem F_ref12_statement_step (R:cc) (ih:mr R) (x1:List ApiToken) (x2 x3:Int) (r:ApiNode × Int × Ref12Wrong) (h:np R x1 x2 x3=some r):FnP Tryz.prog 169 [aq bz x1,Pr.i64 x2,Pr.i64 x3] (bk [(ab).val r.1,Pr.i64 r.2.1,(ag).val r.2.2]):=by
 refine c4 (rs:=[.cell 6 64,.tmp 7,.cell 8 97]) Tryz.func169 rfl Tryz.ntmps169 Tryz.results169 (by decide) (fun s0=> ?_)
 unfold np at h
 refine W_rs (bq al64 fun b4=>kAs rfl (bq al97 fun b5=>a8 (W_rs (kMv rfl (kIn rfl rfl rfl ?_)))))
 refine a5 h rfl (fun _ h=> ?_) (fun _ h=> ?_)
 ·refine W_rs (kUn (di bb st64 rfl) ?_)
  refine kMv rfl (kUn (fv st97 ⟨(Ref12Wrong.mk x2 0),⟨_,rfl,rfl,fun j fd hj hf=>by match j,hj with| 0,h=>exact absurd rfl h| 1,_=>cases hf;rfl|_+2,_=>cases hf⟩,⟨(Ref12Wrong.mk x2 2),⟨_,rfl,rfl,fun j fd hj hf=>by match j,hj with| 0,_=>cases hf;rfl| 1,h=>exact absurd rfl h|_+2,_=>cases hf⟩,rfl⟩⟩) ?_)
  refine av 0 rfl rfl (Upd.refl _) rfl Tryz.sizeOf64 (kAs rfl (av 1 rfl rfl (Upd.refl _) rfl Tryz.sizeOf97 ?_))
  obtain rfl:=osj h
  exact bc ⟨rfl,[(ab).val (ApiNode.mk 0 [] [] 0 0 0 0 0 []),Pr.i64 0,(ag).val (Ref12Wrong.mk x2 2)],⟨yBox 0 ty64 aa,yT aa,yBox 1 ty97 aa,trivial⟩,aa⟩
 refine ax (a8 (az (W_rs (kMvL rfl (kMv rfl (cm h (bu x1 x2 ([123]:List UInt8)) rfl fun x7 _ h=>kAs rfl ?_))))))
 refine a5 h rfl (fun _ h=> ?_) (fun _ h=> ?_)
 ·refine W_rs (kMvL rfl (kMv rfl (kMv rfl ?_)))
  obtain⟨⟨x9,x10,x11⟩,hx9,h⟩:=ah h
  refine kUn (ct (ih.1 x1 x2 x3 _ hx9)) ?_
  refine kUn au ?_
  refine kUn au ?_
  refine kUn au ?_
  refine av 0 rfl rfl (Upd.refl _) rfl Tryz.sizeOf64 (kAs rfl (av 1 rfl rfl (Upd.refl _) rfl Tryz.sizeOf97 ?_))
  obtain rfl:=osj h
  exact bc ⟨rfl,[(ab).val x9,Pr.i64 x10,(ag).val x11],⟨yBox 0 ty64 aa,yT aa,yBox 1 ty97 aa,trivial⟩,aa⟩
 refine bh (fun e C=>∃(x15:Bool),jl R x1 x2 x3 x15=some r/\At [(0,aq bz x1),(1,Pr.i64 x2),(2,Pr.i64 x3),(6,am b4 0),(8,am b5 0),(33,Pr.bool x15)] [Own.box b4 ab (ApiNode.mk 0 [] [] 0 0 0 0 0 []),Own.box b5 ag (Ref12Wrong.mk 0 0)] e C) ?_ ?_
 ·rintro e C ⟨x15,h,hat5⟩
  refine W_at hat5 ?_
  unfold jl at h
  refine a5 h rfl (fun _ h=> ?_) (fun _ h=> ?_)
  ·refine W_rs (kMvL rfl (kMv rfl (kMv rfl ?_)))
   obtain⟨⟨x17,x18,x19⟩,hx17,h⟩:=ah h
   refine kUn (ct (ih.2.2 x1 x2 x3 _ hx17)) ?_
   refine kUn au ?_
   refine kUn au ?_
   refine kUn au ?_
   refine av 0 rfl rfl (Upd.refl _) rfl Tryz.sizeOf64 (kAs rfl (av 1 rfl rfl (Upd.refl _) rfl Tryz.sizeOf97 ?_))
   obtain rfl:=osj h
   exact bc ⟨rfl,[(ab).val x17,Pr.i64 x18,(ag).val x19],⟨yBox 0 ty64 aa,yT aa,yBox 1 ty97 aa,trivial⟩,aa⟩
  refine bh (fun e C=>∃(x23:Bool),jm R x1 x2 x3 x23=some r/\At [(0,aq bz x1),(1,Pr.i64 x2),(2,Pr.i64 x3),(6,am b4 0),(8,am b5 0),(47,Pr.bool x23)] [Own.box b4 ab (ApiNode.mk 0 [] [] 0 0 0 0 0 []),Own.box b5 ag (Ref12Wrong.mk 0 0)] e C) ?_ ?_
  ·rintro e C ⟨x23,h,hat4⟩
   refine W_at hat4 ?_
   unfold jm at h
   refine a5 h rfl (fun _ h=> ?_) (fun _ h=> ?_)
   ·refine W_rs (kMvL rfl (kMv rfl (kMv rfl ?_)))
    obtain⟨⟨x25,x26,x27⟩,hx25,h⟩:=ah h
    refine kUn (ct (ref12_simple_ok x1 x2 x3 _ hx25)) ?_
    refine kUn au ?_
    refine kUn au ?_
    refine kUn au ?_
    refine av 0 rfl rfl (Upd.refl _) rfl Tryz.sizeOf64 (kAs rfl (av 1 rfl rfl (Upd.refl _) rfl Tryz.sizeOf97 ?_))
    obtain rfl:=osj h
    exact bc ⟨rfl,[(ab).val x25,Pr.i64 x26,(ag).val x27],⟨yBox 0 ty64 aa,yT aa,yBox 1 ty97 aa,trivial⟩,aa⟩
   refine ax (W_rs (kMvL rfl (kMv rfl (kMv rfl (kIn rfl rfl rfl ?_)))))
   obtain⟨⟨x28,x29,x30⟩,hx28,h⟩:=ah h
   refine kUn (ct (ko x1 x2 (w64 (x3+1)) _ hx28)) ?_
   refine kUn (hMv (out:=bk [(ab).val x28,Pr.i64 x29,(ag).val x30]) rfl) (kUn au ?_)
   refine kUn au ?_
   refine kUn au ?_
   refine bq al64 fun b31=> ?_
   refine bq al97 fun b32=>av 2 rfl rfl (Upd.refl _) rfl Tryz.sizeOf64 (kAs rfl (av 3 rfl rfl (Upd.refl _) rfl Tryz.sizeOf97 (a8 (W_rs (kUn (ai ki) ?_)))))
   refine kUn (ap 3 ty3 cb) ?_
   refine kIn rfl rfl rfl ?_
   refine a5 h rfl (fun _ h=> ?_) (fun _ h=> ?_)
   ·refine bh (fun e C=>p9 R x30=some r/\At [(6,am b4 0),(7,Pr.i64 0),(8,am b5 0)] [Own.box b4 ab (ApiNode.mk 0 [] [] 0 0 0 0 0 []),Own.box b5 ag x30,Own.box b31 ab x28,Own.box b32 ag x30] e C) ?_ ?_
    ·rintro e C ⟨h,hat1⟩
     refine W_at hat1 ?_
     unfold p9 at h
     obtain rfl:=osj h
     exact bc ⟨rfl,[(ab).val (ApiNode.mk 0 [] [] 0 0 0 0 0 []),Pr.i64 0,(ag).val x30],⟨yBox 0 ty64 aa,yT aa,yBox 1 ty97 aa,trivial⟩,aa⟩
    refine dt [(2,0,Own.box b4 ab (ApiNode.mk 0 [] [] 0 0 0 0 0 [])),(4,1,Own.box b5 ag x30)] [Own.box b4 ab (ApiNode.mk 0 [] [] 0 0 0 0 0 []),Own.box b5 ag x30,Own.box b31 ab x28,Own.box b32 ag x30] hmx (by kernel_rfl) (by kernel_rfl) (show([2,4]:List Nat).Nodup by decide) (show([0,1]:List Nat).Nodup by decide) rfl rfl ?_
    refine eq1 (out:=(ab).val (ApiNode.mk 0 [] [] 0 0 0 0 0 [])) (fun C2 hC=>(di bb st64 rfl)) ?_
    refine eq1 (out:=(ag).val x30) (fun C2 hC=>(ap (R:=ag) (a:=x30) (R':=ag) 3 ty97 (Sub.refl _) (hi:=(hC 3 (by kernel_rfl)).trans rfl))) ?_
    refine eqS (fun C2 hC=>dc (R:=ab) (R':=ab) (a:=(ApiNode.mk 0 [] [] 0 0 0 0 0 [])) (y:=(ApiNode.mk 0 [] [] 0 0 0 0 0 [])) 0 Tryz.sizeOf64 (Upd.refl _) ((hC 0 (by kernel_rfl)).trans rfl)) ?_
    refine eq1 (out:=Pr.i64 0) (fun C2 hC=>du) ?_
    refine eqS (fun C2 hC=>dc (R:=ag) (R':=ag) (a:=(Ref12Wrong.mk 0 0)) (y:=x30) 1 Tryz.sizeOf97 (Upd.refl _) ((hC 1 (by kernel_rfl)).trans rfl)) ?_
    exact⟨h,atOk⟩
   refine ax (W_rs (kAs rfl (W_rs (kUn (ap 2 ty64 (Sub.refl _)) ?_))))
   refine rBuildV (R:=ab) (ls:=([x28]:List ApiNode)) el53 (Nat.le_of_ble_eq_true rfl) ⟨rfl,rfl⟩ ⟨rfl,trivial⟩ (fun v34=> ?_)
   refine kAs rfl ?_
   refine bh (fun e C=>∃(x45:Int),∃(x46:Int),∃(x48:List ApiNode),∃(v47:Value),ll R x1 x2 x45 x46 x48=some r/\At [(0,aq bz x1),(1,Pr.i64 x2),(6,am b4 0),(8,am b5 0),(10,Pr.i64 x45),(12,Pr.i64 x46),(13,Pr.is v47)] [Own.box b4 ab (ApiNode.mk 0 [] [] 0 0 0 0 0 []),Own.box b5 ag (Ref12Wrong.mk 0 0),Own.box b31 ab x28,Own.box b32 ag x30,Own.vec v47 ab x48 64] e C) ?_ ?_
   ·rintro e C ⟨x45,x46,x48,v47,h,hat2⟩
    refine W_at hat2 ?_
    unfold ll at h
    refine a8 (W_rs (kMvL rfl (kMv rfl (cm h (bu x1 x45 ([59]:List UInt8)) rfl fun x49 _ h=>kNo rfl ?_))))
    refine a5 h rfl (fun _ h=> ?_) (fun _ h=> ?_)
    ·refine W_rs (kUn (di bb st64 rfl) ?_)
     refine kMv rfl (cm h (cg x45) rfl fun x51 _ h=>av 0 rfl rfl (Upd.refl _) rfl Tryz.sizeOf64 (kAs rfl (av 1 rfl rfl (Upd.refl _) rfl Tryz.sizeOf97 ?_)))
     obtain rfl:=osj h
     exact bc ⟨rfl,[(ab).val (ApiNode.mk 0 [] [] 0 0 0 0 0 []),Pr.i64 0,(ag).val x51],⟨yBox 0 ty64 aa,yT aa,yBox 1 ty97 aa,trivial⟩,aa⟩
    refine ax (W_rs (kMvL rfl (kMv rfl (kMv rfl (kMv rfl (kIn rfl rfl rfl (kMv rfl ?_)))))))
    obtain⟨x52,hx52,h⟩:=ah h
    refine rRel 4 [13,112] ?_ rfl ⟨rfl,rfl,trivial⟩
    refine kUn (ct (db x1 x46 x2 (w64 (x45+1)) x48 _ hx52)) ?_
    refine kMv rfl (kIn rfl rfl rfl (cm h (cr) rfl fun x53 _ h=>av 0 rfl rfl (Upd.refl _) rfl Tryz.sizeOf64 (kAs rfl (av 1 rfl rfl (Upd.refl _) rfl Tryz.sizeOf97 ?_))))
    obtain rfl:=osj h
    exact bc ⟨rfl,[(ab).val x52,Pr.i64 (w64 (x45+1)),(ag).val x53],⟨yBox 0 ty64 aa,yT aa,yBox 1 ty97 aa,trivial⟩,aa⟩
   refine W_rs (kMvL rfl (kMv rfl (cm h (bu x1 x29 ([61]:List UInt8)) rfl fun x35 _ h=> ?_)))
   refine a5 h rfl (fun _ h=> ?_) (fun _ h=> ?_)
   ·refine W_rs (kMvL rfl (kMv rfl (kIn rfl rfl rfl (kMv rfl (kIn rfl rfl rfl ?_)))))
    obtain⟨⟨x37,x38,x39⟩,hx37,h⟩:=ah h
    refine kUn (ct (ko x1 (w64 (x29+1)) (w64 (x3+1)) _ hx37)) ?_
    refine kUn (hMv (out:=bk [(ab).val x37,Pr.i64 x38,(ag).val x39]) rfl) (kUn au ?_)
    refine kUn au ?_
    refine kUn au ?_
    refine bq al64 fun b40=> ?_
    refine bq al97 fun b41=>av 5 rfl rfl (Upd.refl _) rfl Tryz.sizeOf64 (kAs rfl (av 6 rfl rfl (Upd.refl _) rfl Tryz.sizeOf97 (a8 (W_rs (kUn (ai ki) ?_)))))
    refine kUn (ap 6 ty3 cb) ?_
    refine kIn rfl rfl rfl ?_
    refine a5 h rfl (fun _ h=> ?_) (fun _ h=> ?_)
    ·refine bh (fun e C=>p8 R x39=some r/\At [(6,am b4 0),(7,Pr.i64 0),(8,am b5 0)] [Own.box b4 ab (ApiNode.mk 0 [] [] 0 0 0 0 0 []),Own.box b5 ag x39,Own.box b31 ab x28,Own.box b32 ag x30,Own.box b40 ab x37,Own.box b41 ag x39] e C) ?_ ?_
     ·rintro e C ⟨h,hat3⟩
      refine W_at hat3 ?_
      unfold p8 at h
      obtain rfl:=osj h
      exact bc ⟨rfl,[(ab).val (ApiNode.mk 0 [] [] 0 0 0 0 0 []),Pr.i64 0,(ag).val x39],⟨yBox 0 ty64 aa,yT aa,yBox 1 ty97 aa,trivial⟩,aa⟩
     refine dt [(2,0,Own.box b4 ab (ApiNode.mk 0 [] [] 0 0 0 0 0 [])),(4,1,Own.box b5 ag x39)] [Own.box b4 ab (ApiNode.mk 0 [] [] 0 0 0 0 0 []),Own.box b5 ag x39,Own.box b31 ab x28,Own.box b32 ag x30,Own.vec v34 ab ([x28]:List ApiNode) 64,Own.box b40 ab x37,Own.box b41 ag x39] hmx (by kernel_rfl) (by kernel_rfl) (show([2,4]:List Nat).Nodup by decide) (show([0,1]:List Nat).Nodup by decide) rfl rfl ?_
     refine eq1 (out:=(ab).val (ApiNode.mk 0 [] [] 0 0 0 0 0 [])) (fun C2 hC=>(di bb st64 rfl)) ?_
     refine eq1 (out:=(ag).val x39) (fun C2 hC=>(ap (R:=ag) (a:=x39) (R':=ag) 6 ty97 (Sub.refl _) (hi:=(hC 6 (by kernel_rfl)).trans rfl))) ?_
     refine eqS (fun C2 hC=>dc (R:=ab) (R':=ab) (a:=(ApiNode.mk 0 [] [] 0 0 0 0 0 [])) (y:=(ApiNode.mk 0 [] [] 0 0 0 0 0 [])) 0 Tryz.sizeOf64 (Upd.refl _) ((hC 0 (by kernel_rfl)).trans rfl)) ?_
     refine eq1 (out:=Pr.i64 0) (fun C2 hC=>du) ?_
     refine eqS (fun C2 hC=>dc (R:=ag) (R':=ag) (a:=(Ref12Wrong.mk 0 0)) (y:=x39) 1 Tryz.sizeOf97 (Upd.refl _) ((hC 1 (by kernel_rfl)).trans rfl)) ?_
     exact⟨h,⟨⟨aa,aa,aa,trivial⟩,Pick.of [0,1,2,3,5,6] rfl⟩⟩
    refine ax (W_rs (kAs rfl (W_rs (kMv rfl (kUn (ap 5 ty64 (Sub.refl _)) ?_)))))
    refine kUn (cl (R:=ab) (a:=x37) el53 (Nat.le_of_ble_eq_true rfl)) ?_
    obtain⟨x43,hx43,h⟩:=ah h
    refine ev 4 el53 hx43 (fun v44=> ?_)
    refine kAs rfl (W_r (kMv rfl (kAs rfl ?_)))
    exact⟨x38,7,x43,v44,h,⟨⟨aa,aa,aa,aa,aa,aa,aa,trivial⟩,Pick.of [0,1,2,3,4] rfl⟩⟩
   refine ax ?_
   exact⟨x29,8,([x28]:List ApiNode),v34,h,atOk⟩
  refine W_rs (kMvL rfl (kMv rfl (cm h (bu x1 x2 ([114,101,116,117,114,110]:List UInt8)) rfl fun x20 _ h=>kAs rfl ?_)))
  refine a5 h rfl (fun _ h=> ?_) (fun _ h=> ?_)
  ·refine ax ?_
   exact⟨x20,h,atOk⟩
  refine W_r (kMvL rfl (kMv rfl (cm h (bu x1 x2 ([112,114,105,110,116]:List UInt8)) rfl fun x22 _ h=>kAs rfl ?_)))
  exact⟨x22,h,atOk⟩
 refine W_rs (kMvL rfl (kMv rfl (cm h (bu x1 x2 ([105,102]:List UInt8)) rfl fun x12 _ h=>kAs rfl ?_)))
 refine a5 h rfl (fun _ h=> ?_) (fun _ h=> ?_)
 ·refine ax ?_
  exact⟨x12,h,atOk⟩
 refine W_r (kMvL rfl (kMv rfl (cm h (bu x1 x2 ([119,104,105,108,101]:List UInt8)) rfl fun x14 _ h=>kAs rfl ?_)))
 exact⟨x14,h,atOk⟩
theorem F_ref12_guarded_step (R:cc) (ih:mr R) (x1:List ApiToken) (x2 x3:Int) (r:ApiNode × Int × Ref12Wrong) (h:q7 R x1 x2 x3=some r):FnP Tryz.prog 180 [aq bz x1,Pr.i64 x2,Pr.i64 x3] (bk [(ab).val r.1,Pr.i64 r.2.1,(ag).val r.2.2]):=by
 refine c4 (rs:=[.cell 6 64,.tmp 7,.cell 8 97]) Tryz.func180 rfl Tryz.ntmps180 Tryz.results180 (by decide) (fun s0=> ?_)
 unfold q7 at h
 refine W_rs (bq al64 fun b4=>kAs rfl (bq al97 fun b5=>W_rs (kMvL rfl (kMv rfl (kIn rfl rfl rfl (kMv rfl (kIn rfl rfl rfl ?_)))))))
 obtain⟨⟨x6,x7,x8⟩,hx6,h⟩:=ah h
 refine kUn (ct (ref12_bracketed_ok x1 (w64 (x2+1)) (w64 (x3+1)) _ hx6)) ?_
 refine kUn (hMv (out:=bk [(ab).val x6,Pr.i64 x7,(ag).val x8]) rfl) (kUn au ?_)
 refine kUn au ?_
 refine kUn au ?_
 refine bq al64 fun b9=> ?_
 refine bq al97 fun b10=>av 2 rfl rfl (Upd.refl _) rfl Tryz.sizeOf64 (kAs rfl (av 3 rfl rfl (Upd.refl _) rfl Tryz.sizeOf97 (a8 (W_rs (kUn (ai ki) ?_)))))
 refine kUn (ap 3 ty3 cb) ?_
 refine kIn rfl rfl rfl ?_
 refine a5 h rfl (fun _ h=> ?_) (fun _ h=> ?_)
 ·refine bh (fun e C=>tv R x8=some r/\At [(6,am b4 0),(7,Pr.i64 0),(8,am b5 0)] [Own.box b4 ab (ApiNode.mk 0 [] [] 0 0 0 0 0 []),Own.box b5 ag x8,Own.box b9 ab x6,Own.box b10 ag x8] e C) ?_ ?_
  ·rintro e C ⟨h,hat1⟩
   refine W_at hat1 ?_
   unfold tv at h
   obtain rfl:=osj h
   exact bc ⟨rfl,[(ab).val (ApiNode.mk 0 [] [] 0 0 0 0 0 []),Pr.i64 0,(ag).val x8],⟨yBox 0 ty64 aa,yT aa,yBox 1 ty97 aa,trivial⟩,aa⟩
  refine dt [(2,0,Own.box b4 ab (ApiNode.mk 0 [] [] 0 0 0 0 0 [])),(4,1,Own.box b5 ag x8)] [Own.box b4 ab (ApiNode.mk 0 [] [] 0 0 0 0 0 []),Own.box b5 ag x8,Own.box b9 ab x6,Own.box b10 ag x8] hmx (by kernel_rfl) (by kernel_rfl) (show([2,4]:List Nat).Nodup by decide) (show([0,1]:List Nat).Nodup by decide) rfl rfl ?_
  refine eq1 (out:=(ab).val (ApiNode.mk 0 [] [] 0 0 0 0 0 [])) (fun C2 hC=>(di bb st64 rfl)) ?_
  refine eq1 (out:=(ag).val x8) (fun C2 hC=>(ap (R:=ag) (a:=x8) (R':=ag) 3 ty97 (Sub.refl _) (hi:=(hC 3 (by kernel_rfl)).trans rfl))) ?_
  refine eqS (fun C2 hC=>dc (R:=ab) (R':=ab) (a:=(ApiNode.mk 0 [] [] 0 0 0 0 0 [])) (y:=(ApiNode.mk 0 [] [] 0 0 0 0 0 [])) 0 Tryz.sizeOf64 (Upd.refl _) ((hC 0 (by kernel_rfl)).trans rfl)) ?_
  refine eq1 (out:=Pr.i64 0) (fun C2 hC=>du) ?_
  refine eqS (fun C2 hC=>dc (R:=ag) (R':=ag) (a:=(Ref12Wrong.mk 0 0)) (y:=x8) 1 Tryz.sizeOf97 (Upd.refl _) ((hC 1 (by kernel_rfl)).trans rfl)) ?_
  exact⟨h,atOk⟩
 refine ax (W_rs (kMvL rfl (kMv rfl (kMv rfl (kIn rfl rfl rfl ?_)))))
 obtain⟨⟨x12,x13,x14⟩,hx12,h⟩:=ah h
 refine kUn (ct (ih.2.1 x1 x7 (w64 (x3+1)) _ hx12)) ?_
 refine kUn (hMv (out:=bk [(ab).val x12,Pr.i64 x13,(ag).val x14]) rfl) (kUn au ?_)
 refine kUn au ?_
 refine kUn au ?_
 refine bq al64 fun b15=> ?_
 refine bq al97 fun b16=>av 4 rfl rfl (Upd.refl _) rfl Tryz.sizeOf64 (kAs rfl (av 5 rfl rfl (Upd.refl _) rfl Tryz.sizeOf97 (a8 (W_rs (kUn (ai ki) ?_)))))
 refine kUn (ap 5 ty3 cb) ?_
 refine kIn rfl rfl rfl ?_
 refine a5 h rfl (fun _ h=> ?_) (fun _ h=> ?_)
 ·refine bh (fun e C=>tu R x14=some r/\At [(6,am b4 0),(7,Pr.i64 0),(8,am b5 0)] [Own.box b4 ab (ApiNode.mk 0 [] [] 0 0 0 0 0 []),Own.box b5 ag x14,Own.box b9 ab x6,Own.box b10 ag x8,Own.box b15 ab x12,Own.box b16 ag x14] e C) ?_ ?_
  ·rintro e C ⟨h,hat2⟩
   refine W_at hat2 ?_
   unfold tu at h
   obtain rfl:=osj h
   exact bc ⟨rfl,[(ab).val (ApiNode.mk 0 [] [] 0 0 0 0 0 []),Pr.i64 0,(ag).val x14],⟨yBox 0 ty64 aa,yT aa,yBox 1 ty97 aa,trivial⟩,aa⟩
  refine dt [(2,0,Own.box b4 ab (ApiNode.mk 0 [] [] 0 0 0 0 0 [])),(4,1,Own.box b5 ag x14)] [Own.box b4 ab (ApiNode.mk 0 [] [] 0 0 0 0 0 []),Own.box b5 ag x14,Own.box b9 ab x6,Own.box b10 ag x8,Own.box b15 ab x12,Own.box b16 ag x14] hmx (by kernel_rfl) (by kernel_rfl) (show([2,4]:List Nat).Nodup by decide) (show([0,1]:List Nat).Nodup by decide) rfl rfl ?_
  refine eq1 (out:=(ab).val (ApiNode.mk 0 [] [] 0 0 0 0 0 [])) (fun C2 hC=>(di bb st64 rfl)) ?_
  refine eq1 (out:=(ag).val x14) (fun C2 hC=>(ap (R:=ag) (a:=x14) (R':=ag) 5 ty97 (Sub.refl _) (hi:=(hC 5 (by kernel_rfl)).trans rfl))) ?_
  refine eqS (fun C2 hC=>dc (R:=ab) (R':=ab) (a:=(ApiNode.mk 0 [] [] 0 0 0 0 0 [])) (y:=(ApiNode.mk 0 [] [] 0 0 0 0 0 [])) 0 Tryz.sizeOf64 (Upd.refl _) ((hC 0 (by kernel_rfl)).trans rfl)) ?_
  refine eq1 (out:=Pr.i64 0) (fun C2 hC=>du) ?_
  refine eqS (fun C2 hC=>dc (R:=ag) (R':=ag) (a:=(Ref12Wrong.mk 0 0)) (y:=x14) 1 Tryz.sizeOf97 (Upd.refl _) ((hC 1 (by kernel_rfl)).trans rfl)) ?_
  exact⟨h,atOk⟩
 refine ax (W_rs (kUn (ap 2 ty64 (Sub.refl _)) ?_))
 refine kUn (ap 4 ty64 (Sub.refl _)) ?_
 refine rBuildV (R:=ab) (ls:=([x6,x12]:List ApiNode)) el53 (Nat.le_of_ble_eq_true rfl) ⟨rfl,rfl⟩ ⟨rfl,rfl,trivial⟩ (fun v18=> ?_)
 refine kAs rfl (a8 (W_rs (kMvL rfl (kMv rfl (cm h (bu x1 x2 ([119,104,105,108,101]:List UInt8)) rfl fun x19 _ h=> ?_)))))
 refine a5 h rfl (fun _ h=> ?_) (fun _ h=> ?_)
 ·refine W_rs (kMvL rfl (kMv rfl (kMv rfl (kMv rfl ?_))))
  obtain⟨x21,hx21,h⟩:=ah h
  refine rRel 6 [15,57] ?_ rfl ⟨rfl,rfl,trivial⟩
  refine kUn (ct (db x1 10 x2 x13 ([x6,x12]:List ApiNode) _ hx21)) ?_
  refine kMv rfl (cm h (cr) rfl fun x22 _ h=>av 0 rfl rfl (Upd.refl _) rfl Tryz.sizeOf64 (kAs rfl (av 1 rfl rfl (Upd.refl _) rfl Tryz.sizeOf97 ?_)))
  obtain rfl:=osj h
  exact bc ⟨rfl,[(ab).val x21,Pr.i64 x13,(ag).val x22],⟨yBox 0 ty64 aa,yT aa,yBox 1 ty97 aa,trivial⟩,aa⟩
 refine ax ?_
 refine bh (fun e C=>∃(x33:Int),∃(x35:List ApiNode),∃(v34:Value),o4 R x1 x2 x33 x35=some r/\At [(0,aq bz x1),(1,Pr.i64 x2),(6,am b4 0),(8,am b5 0),(13,Pr.i64 x33),(15,Pr.is v34)] [Own.box b4 ab (ApiNode.mk 0 [] [] 0 0 0 0 0 []),Own.box b5 ag (Ref12Wrong.mk 0 0),Own.box b9 ab x6,Own.box b10 ag x8,Own.box b15 ab x12,Own.box b16 ag x14,Own.vec v34 ab x35 64] e C) ?_ ?_
 ·rintro e C ⟨x33,x35,v34,h,hat3⟩
  refine W_at hat3 ?_
  unfold o4 at h
  refine W_rs (kMvL rfl (kMv rfl (kMv rfl (kMv rfl ?_))))
  obtain⟨x36,hx36,h⟩:=ah h
  refine rRel 6 [15,87] ?_ rfl ⟨rfl,rfl,trivial⟩
  refine kUn (ct (db x1 9 x2 x33 x35 _ hx36)) ?_
  refine kMv rfl (cm h (cr) rfl fun x37 _ h=>av 0 rfl rfl (Upd.refl _) rfl Tryz.sizeOf64 (kAs rfl (av 1 rfl rfl (Upd.refl _) rfl Tryz.sizeOf97 ?_)))
  obtain rfl:=osj h
  exact bc ⟨rfl,[(ab).val x36,Pr.i64 x33,(ag).val x37],⟨yBox 0 ty64 aa,yT aa,yBox 1 ty97 aa,trivial⟩,aa⟩
 refine W_rs (kMvL rfl (kMv rfl (cm h (bu x1 x13 ([101,108,115,101]:List UInt8)) rfl fun x23 _ h=> ?_)))
 refine a5 h rfl (fun _ h=> ?_) (fun _ h=> ?_)
 ·refine W_rs (kMvL rfl (kMv rfl (kIn rfl rfl rfl (kMv rfl (kIn rfl rfl rfl ?_)))))
  obtain⟨⟨x25,x26,x27⟩,hx25,h⟩:=ah h
  refine kUn (ct (ih.2.1 x1 (w64 (x13+1)) (w64 (x3+1)) _ hx25)) ?_
  refine kUn (hMv (out:=bk [(ab).val x25,Pr.i64 x26,(ag).val x27]) rfl) (kUn au ?_)
  refine kUn au ?_
  refine kUn au ?_
  refine bq al64 fun b28=> ?_
  refine bq al97 fun b29=>av 7 rfl rfl (Upd.refl _) rfl Tryz.sizeOf64 (kAs rfl (av 8 rfl rfl (Upd.refl _) rfl Tryz.sizeOf97 (a8 (W_rs (kUn (ai ki) ?_)))))
  refine kUn (ap 8 ty3 cb) ?_
  refine kIn rfl rfl rfl ?_
  refine a5 h rfl (fun _ h=> ?_) (fun _ h=> ?_)
  ·refine bh (fun e C=>tr R x27=some r/\At [(6,am b4 0),(7,Pr.i64 0),(8,am b5 0)] [Own.box b4 ab (ApiNode.mk 0 [] [] 0 0 0 0 0 []),Own.box b5 ag x27,Own.box b9 ab x6,Own.box b10 ag x8,Own.box b15 ab x12,Own.box b16 ag x14,Own.box b28 ab x25,Own.box b29 ag x27] e C) ?_ ?_
   ·rintro e C ⟨h,hat4⟩
    refine W_at hat4 ?_
    unfold tr at h
    obtain rfl:=osj h
    exact bc ⟨rfl,[(ab).val (ApiNode.mk 0 [] [] 0 0 0 0 0 []),Pr.i64 0,(ag).val x27],⟨yBox 0 ty64 aa,yT aa,yBox 1 ty97 aa,trivial⟩,aa⟩
   refine dt [(2,0,Own.box b4 ab (ApiNode.mk 0 [] [] 0 0 0 0 0 [])),(4,1,Own.box b5 ag x27)] [Own.box b4 ab (ApiNode.mk 0 [] [] 0 0 0 0 0 []),Own.box b5 ag x27,Own.box b9 ab x6,Own.box b10 ag x8,Own.box b15 ab x12,Own.box b16 ag x14,Own.vec v18 ab ([x6,x12]:List ApiNode) 64,Own.box b28 ab x25,Own.box b29 ag x27] hmx (by kernel_rfl) (by kernel_rfl) (show([2,4]:List Nat).Nodup by decide) (show([0,1]:List Nat).Nodup by decide) rfl rfl ?_
   refine eq1 (out:=(ab).val (ApiNode.mk 0 [] [] 0 0 0 0 0 [])) (fun C2 hC=>(di bb st64 rfl)) ?_
   refine eq1 (out:=(ag).val x27) (fun C2 hC=>(ap (R:=ag) (a:=x27) (R':=ag) 8 ty97 (Sub.refl _) (hi:=(hC 8 (by kernel_rfl)).trans rfl))) ?_
   refine eqS (fun C2 hC=>dc (R:=ab) (R':=ab) (a:=(ApiNode.mk 0 [] [] 0 0 0 0 0 [])) (y:=(ApiNode.mk 0 [] [] 0 0 0 0 0 [])) 0 Tryz.sizeOf64 (Upd.refl _) ((hC 0 (by kernel_rfl)).trans rfl)) ?_
   refine eq1 (out:=Pr.i64 0) (fun C2 hC=>du) ?_
   refine eqS (fun C2 hC=>dc (R:=ag) (R':=ag) (a:=(Ref12Wrong.mk 0 0)) (y:=x27) 1 Tryz.sizeOf97 (Upd.refl _) ((hC 1 (by kernel_rfl)).trans rfl)) ?_
   exact⟨h,⟨⟨aa,aa,aa,trivial⟩,Pick.of [0,1,2,3,4,5,7,8] rfl⟩⟩
  refine ax (W_rs (kMv rfl (kUn (ap 7 ty64 (Sub.refl _)) ?_)))
  refine kUn (cl (R:=ab) (a:=x25) el53 (Nat.le_of_ble_eq_true rfl)) ?_
  obtain⟨x31,hx31,h⟩:=ah h
  refine ev 6 el53 hx31 (fun v32=> ?_)
  refine kAs rfl (W_r (kMv rfl (kAs rfl ?_)))
  exact⟨x26,x31,v32,h,⟨⟨aa,aa,aa,aa,aa,aa,trivial⟩,Pick.of [0,1,2,3,4,5,6] rfl⟩⟩
 refine ax ?_
 exact⟨x13,([x6,x12]:List ApiNode),v18,h,atOk⟩
theorem rec_ref12_block_ok :∀n,mr (jn n):=by
 intro n
 induction n with
 |zero=>exact⟨(fun x1 x2 x3 r h=>nomatch (show none=some r from h)),(fun x1 x2 x3 r h=>nomatch (show none=some r from h)),(fun x1 x2 x3 r h=>nomatch (show none=some r from h))⟩
 |succ n ih=>exact⟨(fun x1 x2 x3 r h=>F_ref12_block_step (jn n) ih x1 x2 x3 r h),(fun x1 x2 x3 r h=>F_ref12_statement_step (jn n) ih x1 x2 x3 r h),(fun x1 x2 x3 r h=>F_ref12_guarded_step (jn n) ih x1 x2 x3 r h)⟩
theorem ref12_block_ok (x1:List ApiToken) (x2 x3:Int) (r:ApiNode × Int × Ref12Wrong) (h:ref12_block x1 x2 x3=some r):FnP Tryz.prog 140 [aq bz x1,Pr.i64 x2,Pr.i64 x3] (bk [(ab).val r.1,Pr.i64 r.2.1,(ag).val r.2.2]):=(rec_ref12_block_ok 1048576).1 x1 x2 x3 r h
theorem ref12_member_ok (x1:List ApiToken) (x2:Int) (r:ApiNode × Int × Ref12Wrong) (h:ref12_member x1 x2=some r):FnP Tryz.prog 95 [aq bz x1,Pr.i64 x2] (bk [(ab).val r.1,Pr.i64 r.2.1,(ag).val r.2.2]):=by
 refine c4 (rs:=[.cell 4 64,.tmp 5,.cell 6 97]) Tryz.func95 rfl Tryz.ntmps95 Tryz.results95 (by decide) (fun s0=> ?_)
 unfold ref12_member at h
 refine W_rs (bq al64 fun b3=>kAs rfl (bq al97 fun b4=>W_rs (kMv rfl (kAs rfl (W_rs (kMvL rfl (kMv rfl (cm h (bu x1 x2 ([115,116,97,116,105,99]:List UInt8)) rfl fun x5 _ h=>kAs rfl ?_))))))))
 refine bh (fun e C=>∃(x7:Int),nh x1 x2 x5 x7=some r/\At [(0,aq bz x1),(1,Pr.i64 x7),(4,am b3 0),(6,am b4 0),(7,Pr.i64 x2),(8,Pr.bool x5)] [Own.box b3 ab (ApiNode.mk 0 [] [] 0 0 0 0 0 []),Own.box b4 ag (Ref12Wrong.mk 0 0)] e C) ?_ ?_
 ·rintro e C ⟨x7,h,hat6⟩
  refine W_at hat6 ?_
  unfold nh at h
  refine a8 (W_rs (kMvL rfl (kMv rfl (cm h (ref12_kind_ok x1 x7) rfl fun x8 _ h=>kNo rfl ?_))))
  refine a5 h rfl (fun _ h=> ?_) (fun _ h=> ?_)
  ·refine W_rs (kUn (di bb st64 rfl) ?_)
   refine kMv rfl (cm h (cg x7) rfl fun x10 _ h=>av 0 rfl rfl (Upd.refl _) rfl Tryz.sizeOf64 (kAs rfl (av 1 rfl rfl (Upd.refl _) rfl Tryz.sizeOf97 ?_)))
   obtain rfl:=osj h
   exact bc ⟨rfl,[(ab).val (ApiNode.mk 0 [] [] 0 0 0 0 0 []),Pr.i64 0,(ag).val x10],⟨yBox 0 ty64 aa,yT aa,yBox 1 ty97 aa,trivial⟩,aa⟩
  refine ax (a8 (W_rs (kMvL rfl (kMv rfl (kIn rfl rfl rfl (cm h (il x1 (w64 (x7+1))) rfl fun x11 _ h=>kNo rfl ?_))))))
  refine a5 h rfl (fun _ h=> ?_) (fun _ h=> ?_)
  ·refine W_rs (kUn (di bb st64 rfl) ?_)
   refine kMv rfl (kIn rfl rfl rfl (cm h (cg (w64 (x7+1))) rfl fun x13 _ h=>av 0 rfl rfl (Upd.refl _) rfl Tryz.sizeOf64 (kAs rfl (av 1 rfl rfl (Upd.refl _) rfl Tryz.sizeOf97 ?_))))
   obtain rfl:=osj h
   exact bc ⟨rfl,[(ab).val (ApiNode.mk 0 [] [] 0 0 0 0 0 []),Pr.i64 0,(ag).val x13],⟨yBox 0 ty64 aa,yT aa,yBox 1 ty97 aa,trivial⟩,aa⟩
  refine ax (W_rs (kMv rfl (kIn rfl rfl rfl (kAs rfl (W_rs (kAs rfl (W_rs (kAs rfl ?_))))))))
  refine W_nil [11] ab 64 (fun v14=> ?_) ⟨rfl,trivial⟩
  refine bh (fun e C=>∃(x37:Int),∃(x38:Int),∃(x40:List ApiNode),∃(v39:Value),qx x1 x2 x7 x5 x37 x38 x40=some r/\At [(0,aq bz x1),(1,Pr.i64 x7),(4,am b3 0),(6,am b4 0),(7,Pr.i64 x2),(8,Pr.bool x5),(9,Pr.i64 x37),(10,Pr.i64 x38),(11,Pr.is v39)] [Own.box b3 ab (ApiNode.mk 0 [] [] 0 0 0 0 0 []),Own.box b4 ag (Ref12Wrong.mk 0 0),Own.vec v39 ab x40 64] e C) ?_ ?_
  ·rintro e C ⟨x37,x38,x40,v39,h,hat3⟩
   refine W_at hat3 ?_
   unfold qx at h
   refine W_rs (kMvL rfl (kMvL rfl (kMv rfl (kMv rfl (kMv rfl (kMv rfl ?_))))))
   obtain⟨x41,hx41,h⟩:=ah h
   refine rRel 2 [11,99] ?_ rfl ⟨rfl,rfl,trivial⟩
   refine kUn (ct (db x1 x38 x2 x37 x40 _ hx41)) ?_
   refine kMv rfl (cm h (ref12_typed_ok x1 x41 x7) rfl fun x42 _ h=> ?_)
   refine bq al64 fun b43=>av 2 rfl rfl (Upd.refl _) rfl Tryz.sizeOf64 ?_
   refine bh (fun e C=>∃(x45:ApiNode),qy x37 x45=some r/\At [(4,am b3 0),(6,am b4 0),(9,Pr.i64 x37),(18,am b43 0)] [Own.box b3 ab (ApiNode.mk 0 [] [] 0 0 0 0 0 []),Own.box b4 ag (Ref12Wrong.mk 0 0),Own.box b43 ab x45] e C) ?_ ?_
   ·rintro e C ⟨x45,h,hat2⟩
    refine W_at hat2 ?_
    unfold qy at h
    refine bh (fun e C=>∃(x46:Ref12Wrong),ref12_member_j1 x45 x37 x46=some r/\At [(4,am b3 0),(5,Pr.i64 x37),(6,am b4 0)] [Own.box b3 ab x45,Own.box b4 ag x46,Own.box b43 ab x45] e C) ?_ ?_
    ·rintro e C ⟨x46,h,hat1⟩
     refine W_at hat1 ?_
     unfold ref12_member_j1 at h
     obtain rfl:=osj h
     exact bc ⟨rfl,[(ab).val x45,Pr.i64 x37,(ag).val x46],⟨yBox 0 ty64 aa,yT aa,yBox 1 ty97 aa,trivial⟩,aa⟩
    obtain⟨x46,hx46,h⟩:=ah h
    refine dt [(3,0,Own.box b3 ab x45),(5,1,Own.box b4 ag x46)] [Own.box b3 ab x45,Own.box b4 ag x46,Own.box b43 ab x45] hmx (by kernel_rfl) (by kernel_rfl) (show([3,5]:List Nat).Nodup by decide) (show([0,1]:List Nat).Nodup by decide) rfl rfl ?_
    refine eq1 (out:=(ab).val x45) (fun C2 hC=>(ap (R:=ab) (a:=x45) (R':=ab) 2 ty64 (Sub.refl _) (hi:=(hC 2 (by kernel_rfl)).trans rfl))) ?_
    refine eq1 (out:=Pr.i64 x37) (fun C2 hC=>eb) ?_
    refine eq1 (out:=(ag).val x46) (fun C2 hC=>(ct (cr _ hx46))) ?_
    refine eqS (fun C2 hC=>dc (R:=ab) (R':=ab) (a:=(ApiNode.mk 0 [] [] 0 0 0 0 0 [])) (y:=x45) 0 Tryz.sizeOf64 (Upd.refl _) ((hC 0 (by kernel_rfl)).trans rfl)) ?_
    refine eq1 (out:=Pr.i64 x37) (fun C2 hC=>du) ?_
    refine eqS (fun C2 hC=>dc (R:=ag) (R':=ag) (a:=(Ref12Wrong.mk 0 0)) (y:=x46) 1 Tryz.sizeOf97 (Upd.refl _) ((hC 1 (by kernel_rfl)).trans rfl)) ?_
    exact⟨x46,h,atOk⟩
   refine W_rs (kMv rfl ?_)
   refine a5 h rfl (fun _ h=> ?_) (fun _ h=> ?_)
   ·refine W_r (kUn (ai fld64_3) ?_)
    refine av 2 rfl rfl updApiNode_N rfl Tryz.sizeOf2 ?_
    exact⟨{x42 with N:=1},h,atOk⟩
   refine ax ?_
   exact⟨x42,h,atOk⟩
  refine az (W_rs (kMvL rfl (kMv rfl (cm h (bu x1 (w64 (x7+2)) ([59]:List UInt8)) rfl fun x15 _ h=>kAs rfl ?_))))
  refine a5 h rfl (fun _ h=> ?_) (fun _ h=> ?_)
  ·refine a8 (W_rs (kMvL rfl (kMv rfl (cm h (bu x1 x7 ([118,111,105,100]:List UInt8)) rfl fun x17 _ h=> ?_))))
   refine a5 h rfl (fun _ h=> ?_) (fun _ h=> ?_)
   ·refine W_rs (kUn (di bb st64 rfl) ?_)
    refine kMv rfl (cm h (cg (w64 (x7+2))) rfl fun x19 _ h=>av 0 rfl rfl (Upd.refl _) rfl Tryz.sizeOf64 (kAs rfl (av 1 rfl rfl (Upd.refl _) rfl Tryz.sizeOf97 ?_)))
    obtain rfl:=osj h
    exact bc ⟨rfl,[(ab).val (ApiNode.mk 0 [] [] 0 0 0 0 0 []),Pr.i64 0,(ag).val x19],⟨yBox 0 ty64 aa,yT aa,yBox 1 ty97 aa,trivial⟩,aa⟩
   refine ax (W_r (kMv rfl (kIn rfl rfl rfl (kAs rfl ?_))))
   exact⟨w64 ((w64 (x7+2))+1),2,[],v14,h,atOk⟩
  refine W_rs (kMvL rfl (kMv rfl (cm h (bu x1 (w64 (x7+2)) ([40]:List UInt8)) rfl fun x20 _ h=>kAs rfl ?_)))
  refine a5 h rfl (fun _ h=> ?_) (fun _ h=> ?_)
  ·refine W_rs (kAs rfl (W_rs (kMvL rfl (kMv rfl (kIn rfl rfl rfl ?_)))))
   obtain⟨⟨x22,x23,x24⟩,hx22,h⟩:=ah h
   refine kg [] (ref12_params_ok x1 (w64 ((w64 (x7+2))+1)) _ hx22) (fun q C' hq=> ?_)
   obtain⟨v25,rfl,rfl⟩:=hq
   refine kUn (hMv (out:=bk [Pr.is v25,Pr.i64 x23,(ag).val x24]) rfl) (kUn au ?_)
   refine kUn au ?_
   refine kUn au ?_
   refine bq al97 fun b26=>kAs rfl (kAs rfl (av 4 rfl rfl (Upd.refl _) rfl Tryz.sizeOf97 (a8 (W_rs (kUn (ai ki) ?_)))))
   refine kUn (ap 4 ty3 cb) ?_
   refine kIn rfl rfl rfl ?_
   refine a5 h rfl (fun _ h=> ?_) (fun _ h=> ?_)
   ·refine bh (fun e C=>ref12_member_j4 x24=some r/\At [(4,am b3 0),(5,Pr.i64 0),(6,am b4 0)] [Own.box b3 ab (ApiNode.mk 0 [] [] 0 0 0 0 0 []),Own.box b4 ag x24,Own.box b26 ag x24] e C) ?_ ?_
    ·rintro e C ⟨h,hat4⟩
     refine W_at hat4 ?_
     unfold ref12_member_j4 at h
     obtain rfl:=osj h
     exact bc ⟨rfl,[(ab).val (ApiNode.mk 0 [] [] 0 0 0 0 0 []),Pr.i64 0,(ag).val x24],⟨yBox 0 ty64 aa,yT aa,yBox 1 ty97 aa,trivial⟩,aa⟩
    refine dt [(2,1,Own.box b3 ab (ApiNode.mk 0 [] [] 0 0 0 0 0 [])),(4,2,Own.box b4 ag x24)] [Own.vec v25 ab x22 64,Own.box b3 ab (ApiNode.mk 0 [] [] 0 0 0 0 0 []),Own.box b4 ag x24,Own.vec v14 ab [] 64,Own.box b26 ag x24] hmx (by kernel_rfl) (by kernel_rfl) (show([2,4]:List Nat).Nodup by decide) (show([1,2]:List Nat).Nodup by decide) rfl rfl ?_
    refine eq1 (out:=(ab).val (ApiNode.mk 0 [] [] 0 0 0 0 0 [])) (fun C2 hC=>(di bb st64 rfl)) ?_
    refine eq1 (out:=(ag).val x24) (fun C2 hC=>(ap (R:=ag) (a:=x24) (R':=ag) 4 ty97 (Sub.refl _) (hi:=(hC 4 (by kernel_rfl)).trans rfl))) ?_
    refine eqS (fun C2 hC=>dc (R:=ab) (R':=ab) (a:=(ApiNode.mk 0 [] [] 0 0 0 0 0 [])) (y:=(ApiNode.mk 0 [] [] 0 0 0 0 0 [])) 1 Tryz.sizeOf64 (Upd.refl _) ((hC 1 (by kernel_rfl)).trans rfl)) ?_
    refine eq1 (out:=Pr.i64 0) (fun C2 hC=>du) ?_
    refine eqS (fun C2 hC=>dc (R:=ag) (R':=ag) (a:=(Ref12Wrong.mk 0 0)) (y:=x24) 2 Tryz.sizeOf97 (Upd.refl _) ((hC 2 (by kernel_rfl)).trans rfl)) ?_
    exact⟨h,⟨⟨aa,aa,aa,trivial⟩,Pick.of [1,2,4] rfl⟩⟩
   refine ax (W_rs (kMvL rfl (kMv rfl ?_)))
   obtain⟨⟨x28,x29,x30⟩,hx28,h⟩:=ah h
   refine kUn (ct (ref12_block_ok x1 x23 1 _ hx28)) ?_
   refine kUn (hMv (out:=bk [(ab).val x28,Pr.i64 x29,(ag).val x30]) rfl) (kUn au ?_)
   refine kUn au ?_
   refine kUn au ?_
   refine bq al64 fun b31=> ?_
   refine bq al97 fun b32=>av 5 rfl rfl (Upd.refl _) rfl Tryz.sizeOf64 (kAs rfl (av 6 rfl rfl (Upd.refl _) rfl Tryz.sizeOf97 (a8 (W_rs (kUn (ai ki) ?_)))))
   refine kUn (ap 6 ty3 cb) ?_
   refine kIn rfl rfl rfl ?_
   refine a5 h rfl (fun _ h=> ?_) (fun _ h=> ?_)
   ·refine bh (fun e C=>ref12_member_j5 x30=some r/\At [(4,am b3 0),(5,Pr.i64 0),(6,am b4 0)] [Own.box b3 ab (ApiNode.mk 0 [] [] 0 0 0 0 0 []),Own.box b4 ag x30,Own.box b26 ag x24,Own.box b31 ab x28,Own.box b32 ag x30] e C) ?_ ?_
    ·rintro e C ⟨h,hat5⟩
     refine W_at hat5 ?_
     unfold ref12_member_j5 at h
     obtain rfl:=osj h
     exact bc ⟨rfl,[(ab).val (ApiNode.mk 0 [] [] 0 0 0 0 0 []),Pr.i64 0,(ag).val x30],⟨yBox 0 ty64 aa,yT aa,yBox 1 ty97 aa,trivial⟩,aa⟩
    refine dt [(2,1,Own.box b3 ab (ApiNode.mk 0 [] [] 0 0 0 0 0 [])),(4,2,Own.box b4 ag x30)] [Own.vec v25 ab x22 64,Own.box b3 ab (ApiNode.mk 0 [] [] 0 0 0 0 0 []),Own.box b4 ag x30,Own.vec v14 ab [] 64,Own.box b26 ag x24,Own.box b31 ab x28,Own.box b32 ag x30] hmx (by kernel_rfl) (by kernel_rfl) (show([2,4]:List Nat).Nodup by decide) (show([1,2]:List Nat).Nodup by decide) rfl rfl ?_
    refine eq1 (out:=(ab).val (ApiNode.mk 0 [] [] 0 0 0 0 0 [])) (fun C2 hC=>(di bb st64 rfl)) ?_
    refine eq1 (out:=(ag).val x30) (fun C2 hC=>(ap (R:=ag) (a:=x30) (R':=ag) 6 ty97 (Sub.refl _) (hi:=(hC 6 (by kernel_rfl)).trans rfl))) ?_
    refine eqS (fun C2 hC=>dc (R:=ab) (R':=ab) (a:=(ApiNode.mk 0 [] [] 0 0 0 0 0 [])) (y:=(ApiNode.mk 0 [] [] 0 0 0 0 0 [])) 1 Tryz.sizeOf64 (Upd.refl _) ((hC 1 (by kernel_rfl)).trans rfl)) ?_
    refine eq1 (out:=Pr.i64 0) (fun C2 hC=>du) ?_
    refine eqS (fun C2 hC=>dc (R:=ag) (R':=ag) (a:=(Ref12Wrong.mk 0 0)) (y:=x30) 2 Tryz.sizeOf97 (Upd.refl _) ((hC 2 (by kernel_rfl)).trans rfl)) ?_
    exact⟨h,⟨⟨aa,aa,aa,trivial⟩,Pick.of [1,2,4,5,6] rfl⟩⟩
   refine ax (W_rs (kMv rfl (kUn (ap 5 ty64 (Sub.refl _)) ?_)))
   refine kUn (cl (R:=ab) (a:=x28) el53 (Nat.le_of_ble_eq_true rfl)) ?_
   obtain⟨x34,hx34,h⟩:=ah h
   refine ev 0 el53 hx34 (fun v35=> ?_)
   refine kAs rfl (W_rs (kMv rfl (kAs rfl (W_r (kMv rfl (kAs rfl ?_))))))
   exact⟨x29,3,x34,v35,h,⟨⟨aa,aa,aa,aa,aa,aa,aa,aa,aa,trivial⟩,Pick.of [1,2,0] rfl⟩⟩
  refine W_rs (kUn (di bb st64 rfl) ?_)
  refine kMv rfl (cm h (cg (w64 (x7+2))) rfl fun x36 _ h=>av 0 rfl rfl (Upd.refl _) rfl Tryz.sizeOf64 (kAs rfl (av 1 rfl rfl (Upd.refl _) rfl Tryz.sizeOf97 ?_)))
  obtain rfl:=osj h
  exact bc ⟨rfl,[(ab).val (ApiNode.mk 0 [] [] 0 0 0 0 0 []),Pr.i64 0,(ag).val x36],⟨yBox 0 ty64 aa,yT aa,yBox 1 ty97 aa,trivial⟩,aa⟩
 refine W_rs (kMv rfl ?_)
 refine a5 h rfl (fun _ h=> ?_) (fun _ h=> ?_)
 ·refine W_r (kMv rfl (kIn rfl rfl rfl (kAs rfl ?_)))
  exact⟨w64 (x2+1),h,atOk⟩
 refine ax ?_
 exact⟨x2,h,atOk⟩
theorem ref12_class_ok (x1:List ApiToken) (x2:Int) (r:ApiNode × Int × Ref12Wrong) (h:ref12_class x1 x2=some r):FnP Tryz.prog 51 [aq bz x1,Pr.i64 x2] (bk [(ab).val r.1,Pr.i64 r.2.1,(ag).val r.2.2]):=by
 refine c4 (rs:=[.cell 4 64,.tmp 5,.cell 6 97]) Tryz.func51 rfl Tryz.ntmps51 Tryz.results51 (by decide) (fun s0=> ?_)
 unfold ref12_class at h
 refine W_rs (bq al64 fun b3=>kAs rfl (bq al97 fun b4=>a8 (W_rs (kMvL rfl (kMv rfl (cm h (bu x1 x2 ([99,108,97,115,115]:List UInt8)) rfl fun x5 _ h=>kNo rfl ?_))))))
 refine a5 h rfl (fun _ h=> ?_) (fun _ h=> ?_)
 ·refine W_rs (kUn (di bb st64 rfl) ?_)
  refine kMv rfl (cm h (cg x2) rfl fun x7 _ h=>av 0 rfl rfl (Upd.refl _) rfl Tryz.sizeOf64 (kAs rfl (av 1 rfl rfl (Upd.refl _) rfl Tryz.sizeOf97 ?_)))
  obtain rfl:=osj h
  exact bc ⟨rfl,[(ab).val (ApiNode.mk 0 [] [] 0 0 0 0 0 []),Pr.i64 0,(ag).val x7],⟨yBox 0 ty64 aa,yT aa,yBox 1 ty97 aa,trivial⟩,aa⟩
 refine ax (a8 (W_rs (kMvL rfl (kMv rfl (kIn rfl rfl rfl (cm h (il x1 (w64 (x2+1))) rfl fun x8 _ h=>kNo rfl ?_))))))
 refine a5 h rfl (fun _ h=> ?_) (fun _ h=> ?_)
 ·refine W_rs (kUn (di bb st64 rfl) ?_)
  refine kMv rfl (kIn rfl rfl rfl (cm h (cg (w64 (x2+1))) rfl fun x10 _ h=>av 0 rfl rfl (Upd.refl _) rfl Tryz.sizeOf64 (kAs rfl (av 1 rfl rfl (Upd.refl _) rfl Tryz.sizeOf97 ?_))))
  obtain rfl:=osj h
  exact bc ⟨rfl,[(ab).val (ApiNode.mk 0 [] [] 0 0 0 0 0 []),Pr.i64 0,(ag).val x10],⟨yBox 0 ty64 aa,yT aa,yBox 1 ty97 aa,trivial⟩,aa⟩
 refine ax (W_rs (kMv rfl (kIn rfl rfl rfl (kAs rfl (W_rs (kAs rfl ?_))))))
 refine bh (fun e C=>∃(x16:Int),∃(x17:Int),pk x1 x2 x16 x17=some r/\At [(0,aq bz x1),(1,Pr.i64 x2),(4,am b3 0),(6,am b4 0),(7,Pr.i64 x16),(8,Pr.i64 x17)] [Own.box b3 ab (ApiNode.mk 0 [] [] 0 0 0 0 0 []),Own.box b4 ag (Ref12Wrong.mk 0 0)] e C) ?_ ?_
 ·rintro e C ⟨x16,x17,h,hat6⟩
  refine W_at hat6 ?_
  unfold pk at h
  refine a8 (W_rs (kMvL rfl (kMv rfl (cm h (bu x1 x16 ([123]:List UInt8)) rfl fun x18 _ h=>kNo rfl ?_))))
  refine a5 h rfl (fun _ h=> ?_) (fun _ h=> ?_)
  ·refine W_rs (kUn (di bb st64 rfl) ?_)
   refine kMv rfl (cm h (cg x16) rfl fun x20 _ h=>av 0 rfl rfl (Upd.refl _) rfl Tryz.sizeOf64 (kAs rfl (av 1 rfl rfl (Upd.refl _) rfl Tryz.sizeOf97 ?_)))
   obtain rfl:=osj h
   exact bc ⟨rfl,[(ab).val (ApiNode.mk 0 [] [] 0 0 0 0 0 []),Pr.i64 0,(ag).val x20],⟨yBox 0 ty64 aa,yT aa,yBox 1 ty97 aa,trivial⟩,aa⟩
  refine ax (W_rs (kMv rfl (kIn rfl rfl rfl (kAs rfl (W_rs (kAs rfl (a8 (az ?_))))))))
  obtain⟨z4l,hz4,h⟩:=ah h
  obtain⟨n4,hN4⟩:=bp hz4
  refine cq 0 (fun e C=>∃(x21:Int),∃(x23:List ApiNode),∃(v22:Value),s5 x1 x2 x17 x21 x23=some r/\At [(0,aq bz x1),(1,Pr.i64 x2),(4,am b3 0),(6,am b4 0),(7,Pr.i64 x21),(8,Pr.i64 x17),(9,Pr.is v22)] [Own.box b3 ab (ApiNode.mk 0 [] [] 0 0 0 0 0 []),Own.box b4 ag (Ref12Wrong.mk 0 0),Own.vec v22 ab x23 64] e C) ?_ ?_
  ·rintro e C ⟨x21,x23,v22,h,hat3⟩
   refine W_at hat3 ?_
   unfold s5 at h
   refine W_rs (kMvL rfl (kMv rfl (kMv rfl (kIn rfl rfl rfl (kMv rfl ?_)))))
   obtain⟨x37,hx37,h⟩:=ah h
   refine rRel 2 [9,82] ?_ rfl ⟨rfl,rfl,trivial⟩
   refine kUn (ct (db x1 1 x2 (w64 (x21+1)) x23 _ hx37)) ?_
   refine bq al64 fun b38=>av 2 rfl rfl (Upd.refl _) rfl Tryz.sizeOf64 (W_rs (kMvL rfl (kMv rfl (kIn rfl rfl rfl ?_))))
   obtain⟨x39,hx39,h⟩:=ah h
   refine kUn (dg Tryz.underlying41 Tryz.sizeOf45 hx39) ?_
   refine kUn (d5 fld45_1 dw) ?_
   refine kUn (cf ty9) ?_
   refine kUn (ai ef) ?_
   refine av 2 rfl rfl nc rfl Tryz.sizeOf9 (W_rs (kMvL rfl (kMv rfl (kIn rfl rfl rfl ?_))))
   obtain⟨x40,hx40,h⟩:=ah h
   refine kUn (dg Tryz.underlying41 Tryz.sizeOf45 hx40) ?_
   refine kUn (d5 fld45_2 ii) ?_
   refine kUn (cf ty3) ?_
   refine kUn (ai my) ?_
   refine av 2 rfl rfl updApiNode_At rfl Tryz.sizeOf3 ?_
   refine bh (fun e C=>∃(x44:ApiNode),s6 x21 x44=some r/\At [(4,am b3 0),(6,am b4 0),(7,Pr.i64 x21),(13,am b38 0)] [Own.box b3 ab (ApiNode.mk 0 [] [] 0 0 0 0 0 []),Own.box b4 ag (Ref12Wrong.mk 0 0),Own.box b38 ab x44] e C) ?_ ?_
   ·rintro e C ⟨x44,h,hat2⟩
    refine W_at hat2 ?_
    unfold s6 at h
    refine bh (fun e C=>∃(x45:Ref12Wrong),ref12_class_j1 x44 x21 x45=some r/\At [(4,am b3 0),(5,Pr.i64 (w64 (x21+1))),(6,am b4 0)] [Own.box b3 ab x44,Own.box b4 ag x45,Own.box b38 ab x44] e C) ?_ ?_
    ·rintro e C ⟨x45,h,hat1⟩
     refine W_at hat1 ?_
     unfold ref12_class_j1 at h
     obtain rfl:=osj h
     exact bc ⟨rfl,[(ab).val x44,Pr.i64 (w64 (x21+1)),(ag).val x45],⟨yBox 0 ty64 aa,yT aa,yBox 1 ty97 aa,trivial⟩,aa⟩
    obtain⟨x45,hx45,h⟩:=ah h
    refine dt [(4,0,Own.box b3 ab x44),(6,1,Own.box b4 ag x45)] [Own.box b3 ab x44,Own.box b4 ag x45,Own.box b38 ab x44] hmx (by kernel_rfl) (by kernel_rfl) (show([4,6]:List Nat).Nodup by decide) (show([0,1]:List Nat).Nodup by decide) rfl rfl ?_
    refine eq1 (out:=(ab).val x44) (fun C2 hC=>(ap (R:=ab) (a:=x44) (R':=ab) 2 ty64 (Sub.refl _) (hi:=(hC 2 (by kernel_rfl)).trans rfl))) ?_
    refine eq1 (out:=Pr.i64 x21) (fun C2 hC=>eb) ?_
    refine eq1 (out:=Pr.i64 (w64 (x21+1))) (fun C2 hC=>qInt) ?_
    refine eq1 (out:=(ag).val x45) (fun C2 hC=>(ct (cr _ hx45))) ?_
    refine eqS (fun C2 hC=>dc (R:=ab) (R':=ab) (a:=(ApiNode.mk 0 [] [] 0 0 0 0 0 [])) (y:=x44) 0 Tryz.sizeOf64 (Upd.refl _) ((hC 0 (by kernel_rfl)).trans rfl)) ?_
    refine eq1 (out:=Pr.i64 (w64 (x21+1))) (fun C2 hC=>du) ?_
    refine eqS (fun C2 hC=>dc (R:=ag) (R':=ag) (a:=(Ref12Wrong.mk 0 0)) (y:=x45) 1 Tryz.sizeOf97 (Upd.refl _) ((hC 1 (by kernel_rfl)).trans rfl)) ?_
    exact⟨x45,h,atOk⟩
   refine W_rs (kMv rfl (kIn rfl rfl rfl ?_))
   refine a5 h rfl (fun _ h=> ?_) (fun _ h=> ?_)
   ·refine W_rs (kMvL rfl (kMv rfl ?_))
    obtain⟨x42,hx42,h⟩:=ah h
    refine kUn (dg Tryz.underlying41 Tryz.sizeOf45 hx42) ?_
    refine kUn (d5 fld45_1 dw) ?_
    refine kUn (cf ty9) ?_
    refine kUn (ai r4) ?_
    refine av 2 rfl rfl updApiNode_Type rfl Tryz.sizeOf9 (W_r (kMvL rfl (kMv rfl ?_)))
    obtain⟨x43,hx43,h⟩:=ah h
    refine kUn (dg Tryz.underlying41 Tryz.sizeOf45 hx43) ?_
    refine kUn (d5 fld45_2 ii) ?_
    refine kUn (cf ty3) ?_
    refine kUn (ai fld64_7) ?_
    refine av 2 rfl rfl updApiNode_TypeAt rfl Tryz.sizeOf3 ?_
    exact⟨{{{{x37 with Text:=x39.Text} with At:=x40.At} with Type_:=x42.Text} with TypeAt:=x43.At},h,atOk⟩
   refine ax ?_
   exact⟨{{x37 with Text:=x39.Text} with At:=x40.At},h,atOk⟩
  refine W_nil [9] ab 64 (fun v46=> ?_) ⟨rfl,trivial⟩
  refine c8 (fun m e C=>∃(x21:Int),∃(x23:List ApiNode),∃(v22:Value),dj (fun s=>sy x1 s.1 s.2) m (x21,x23)=some z4l/\At [(0,aq bz x1),(1,Pr.i64 x2),(4,am b3 0),(6,am b4 0),(7,Pr.i64 x21),(8,Pr.i64 x17),(9,Pr.is v22)] [Own.box b3 ab (ApiNode.mk 0 [] [] 0 0 0 0 0 []),Own.box b4 ag (Ref12Wrong.mk 0 0),Own.vec v22 ab x23 64] e C) n4 ⟨w64 (x16+1),[],v46,hN4,⟨⟨aa,aa,aa,aa,aa,aa,aa,trivial⟩,Pick.refl _⟩⟩ ?_
  rintro m e C ⟨x21,x23,v22,hN4,hatl4⟩
  refine W_at hatl4 ?_
  obtain⟨m4,w4l,rfl,h4l,hn4,ho4⟩:=bj hN4
  replace h4l:sy x1 x21 x23=some w4l:=h4l
  unfold sy at h4l
  refine a8 (W_rs (kMvL rfl (kMv rfl (cm h4l (bu x1 x21 ([125]:List UInt8)) rfl fun x27 _ h4l=>kNo rfl ?_))))
  refine a5 h4l rfl (fun _ h4l=> ?_) (fun _ h4l=> ?_)
  ·refine ax (az (W_rs (kMvL rfl (kMv rfl ?_))))
   obtain⟨⟨x29,x30,x31⟩,hx29,h4l⟩:=ah h4l
   refine kUn (ct (ref12_member_ok x1 x21 _ hx29)) ?_
   refine kUn (hMv (out:=bk [(ab).val x29,Pr.i64 x30,(ag).val x31]) rfl) (kUn au ?_)
   refine kUn au ?_
   refine kUn au ?_
   refine bq al64 fun b32=> ?_
   refine bq al97 fun b33=>av 3 rfl rfl (Upd.refl _) rfl Tryz.sizeOf64 (kAs rfl (av 4 rfl rfl (Upd.refl _) rfl Tryz.sizeOf97 (a8 (W_rs (kUn (ai ki) ?_)))))
   refine kUn (ap 4 ty3 cb) ?_
   refine kIn rfl rfl rfl ?_
   refine a5 h4l rfl (fun _ h4l=> ?_) (fun _ h4l=> ?_)
   ·refine bh (fun e C=>ref12_class_j5 x31=some w4l/\At [(4,am b3 0),(5,Pr.i64 0),(6,am b4 0)] [Own.box b3 ab (ApiNode.mk 0 [] [] 0 0 0 0 0 []),Own.box b4 ag x31,Own.box b32 ab x29,Own.box b33 ag x31] e C) ?_ ?_
    ·rintro e C ⟨h4l,hat5⟩
     refine W_at hat5 ?_
     unfold ref12_class_j5 at h4l
     obtain rfl:=ho4 _ (Option.some.inj h4l).symm
     replace h:some ((ApiNode.mk 0 [] [] 0 0 0 0 0 []),0,x31)=some r:=h
     obtain rfl:=osj h
     exact bc ⟨rfl,[(ab).val (ApiNode.mk 0 [] [] 0 0 0 0 0 []),Pr.i64 0,(ag).val x31],⟨yBox 0 ty64 aa,yT aa,yBox 1 ty97 aa,trivial⟩,aa⟩
    refine dt [(2,0,Own.box b3 ab (ApiNode.mk 0 [] [] 0 0 0 0 0 [])),(4,1,Own.box b4 ag x31)] [Own.box b3 ab (ApiNode.mk 0 [] [] 0 0 0 0 0 []),Own.box b4 ag x31,Own.vec v22 ab x23 64,Own.box b32 ab x29,Own.box b33 ag x31] hmx (by kernel_rfl) (by kernel_rfl) (show([2,4]:List Nat).Nodup by decide) (show([0,1]:List Nat).Nodup by decide) rfl rfl ?_
    refine eq1 (out:=(ab).val (ApiNode.mk 0 [] [] 0 0 0 0 0 [])) (fun C2 hC=>(di bb st64 rfl)) ?_
    refine eq1 (out:=(ag).val x31) (fun C2 hC=>(ap (R:=ag) (a:=x31) (R':=ag) 4 ty97 (Sub.refl _) (hi:=(hC 4 (by kernel_rfl)).trans rfl))) ?_
    refine eqS (fun C2 hC=>dc (R:=ab) (R':=ab) (a:=(ApiNode.mk 0 [] [] 0 0 0 0 0 [])) (y:=(ApiNode.mk 0 [] [] 0 0 0 0 0 [])) 0 Tryz.sizeOf64 (Upd.refl _) ((hC 0 (by kernel_rfl)).trans rfl)) ?_
    refine eq1 (out:=Pr.i64 0) (fun C2 hC=>du) ?_
    refine eqS (fun C2 hC=>dc (R:=ag) (R':=ag) (a:=(Ref12Wrong.mk 0 0)) (y:=x31) 1 Tryz.sizeOf97 (Upd.refl _) ((hC 1 (by kernel_rfl)).trans rfl)) ?_
    exact⟨h4l,⟨⟨aa,aa,aa,trivial⟩,Pick.of [0,1,3,4] rfl⟩⟩
   refine ax (W_rs (kMv rfl (kUn (ap 3 ty64 (Sub.refl _)) ?_)))
   refine kUn (cl (R:=ab) (a:=x29) el53 (Nat.le_of_ble_eq_true rfl)) ?_
   obtain⟨x35,hx35,h4l⟩:=ah h4l
   refine ev 2 el53 hx35 (fun v36=> ?_)
   refine kAs rfl (W_r (kMv rfl (kAs rfl ?_)))
   exact⟨m4,Nat.lt_succ_self _,x30,x35,v36,hn4 _ (Option.some.inj h4l).symm,⟨⟨aa,aa,aa,aa,aa,aa,aa,trivial⟩,Pick.of [0,1,2] rfl⟩⟩
  refine c6 ?_
  obtain rfl:=ho4 _ (Option.some.inj h4l).symm
  exact⟨x21,x23,v22,h,atOk⟩
 refine W_rs (kMvL rfl (kMv rfl (cm h (bu x1 (w64 (x2+2)) ([101,120,116,101,110,100,115]:List UInt8)) rfl fun x11 _ h=> ?_)))
 refine a5 h rfl (fun _ h=> ?_) (fun _ h=> ?_)
 ·refine a8 (W_rs (kMvL rfl (kMv rfl (kIn rfl rfl rfl (cm h (il x1 (w64 ((w64 (x2+2))+1))) rfl fun x13 _ h=>kNo rfl ?_)))))
  refine a5 h rfl (fun _ h=> ?_) (fun _ h=> ?_)
  ·refine W_rs (kUn (di bb st64 rfl) ?_)
   refine kMv rfl (kIn rfl rfl rfl (cm h (cg (w64 ((w64 (x2+2))+1))) rfl fun x15 _ h=>av 0 rfl rfl (Upd.refl _) rfl Tryz.sizeOf64 (kAs rfl (av 1 rfl rfl (Upd.refl _) rfl Tryz.sizeOf97 ?_))))
   obtain rfl:=osj h
   exact bc ⟨rfl,[(ab).val (ApiNode.mk 0 [] [] 0 0 0 0 0 []),Pr.i64 0,(ag).val x15],⟨yBox 0 ty64 aa,yT aa,yBox 1 ty97 aa,trivial⟩,aa⟩
  refine ax (W_rs (kMv rfl (kIn rfl rfl rfl (kAs rfl (W_r (kMv rfl (kIn rfl rfl rfl (kAs rfl ?_))))))))
  exact⟨w64 ((w64 (x2+2))+2),w64 ((w64 (x2+2))+1),h,atOk⟩
 refine ax ?_
 exact⟨w64 (x2+2),(-1),h,atOk⟩
theorem ref12_mistake_ok (x1:List ApiToken) (x2:Ref12Wrong) (r:ApiMistake) (h:ref12_mistake x1 x2=some r):FnP Tryz.prog 52 [aq bz x1,(ag).val x2] ((ak).val r):=by
 refine c4 (rs:=[.cell 4 30]) Tryz.func52 rfl Tryz.ntmps52 Tryz.results52 (by decide) (fun s0=> ?_)
 unfold ref12_mistake at h
 refine W_rs ?_
 refine rBox (R:=ag) (a:=x2) rfl (fun b3=> ?_)
 refine bq al30 fun b4=> ?_
 refine bh (fun e C=>∃(x5:ApiToken),tq x2 x5=some r/\At [(4,am b4 0)] [Own.box b3 ag x2,Own.box b4 ak (ApiMistake.mk x2.Code 0 x5.At)] e C) ?_ ?_
 ·rintro e C ⟨x5,h,hat1⟩
  refine W_at hat1 ?_
  unfold tq at h
  obtain rfl:=osj h
  exact bc ⟨rfl,[(ak).val (ApiMistake.mk x2.Code 0 x5.At)],⟨yBox 1 ty30 aa,trivial⟩,aa⟩
 refine eo 13 hmx (by kernel_rfl) (by kernel_rfl) ?_
 refine lUn (ai fld97_1) ?_
 refine lUn (ap 0 ty28 subRef12Wrong_Code) ?_
 refine lUn (hMvL rfl) (lUn (ai ki) ?_)
 refine lUn (ap 0 ty3 cb) ?_
 refine lUn (hMvL rfl) (lUn (iz rfl Tryz.underlying41) ?_)
 refine lUn (qInt rfl rfl rfl) (lUn (qMin (a:=x2.Place) (b:=w64 ((x1.length:Int) - 1))) ?_)
 obtain⟨x5,hx5,h⟩:=ah h
 refine lUn (dg Tryz.underlying41 Tryz.sizeOf45 hx5) ?_
 refine lUn (d5 fld45_2 ii) ?_
 refine lUn (cf ty3) ?_
 refine lUn (fv st30 ⟨(ApiMistake.mk x2.Code 0 0),⟨_,rfl,rfl,fun j fd hj hf=>by match j,hj with| 0,h=>exact absurd rfl h| 1,_=>cases hf;rfl| 2,_=>cases hf;rfl|_+3,_=>cases hf⟩,⟨(ApiMistake.mk x2.Code 0 x5.At),⟨_,rfl,rfl,fun j fd hj hf=>by match j,hj with| 0,_=>cases hf;rfl| 1,_=>cases hf;rfl| 2,h=>exact absurd rfl h|_+3,_=>cases hf⟩,rfl⟩⟩) ?_
 refine av 1 rfl rfl (Upd.refl _) rfl Tryz.sizeOf30 ?_
 exact⟨x5,h,atOk⟩
def rec_ref11_Depth_spec (R:f6):Prop:=(∀(x1:ApiNode) (r:Int),R x1=some r->FnP Tryz.prog 53 [(ab).val x1] (Pr.i64 r))
theorem F_ref11_Depth_step (R:f6) (ih:rec_ref11_Depth_spec R) (x1:ApiNode) (r:Int) (h:F_ref11_Depth R x1=some r):FnP Tryz.prog 53 [(ab).val x1] (Pr.i64 r):=by
 refine cu (rs:=[2]) Tryz.func53 rfl Tryz.ntmps53 ⟨by decide,Tryz.results53⟩ (by decide) (fun s0=> ?_)
 unfold F_ref11_Depth at h
 refine W_rs ?_
 refine rBox (R:=ab) (a:=x1) rfl (fun b2=> ?_)
 refine kAs rfl (W_rs (kAs rfl (a8 (W_rs (kAs rfl (az ?_))))))
 obtain⟨z2l,hz2,h⟩:=ah h
 obtain⟨n2,hN2⟩:=bp hz2
 refine cq 0 (fun e C=>∃(x3:Int),ref11_Depth_k1 R x3=some r/\At [(3,Pr.i64 x3)] [Own.box b2 ab x1] e C) ?_ ?_
 ·rintro e C ⟨x3,h,hat1⟩
  refine W_at hat1 ?_
  unfold ref11_Depth_k1 at h
  refine W_rs (kMv rfl (kIn rfl rfl rfl (kAs rfl ?_)))
  obtain rfl:=osj h
  exact bc ⟨rfl,aa⟩
 refine c8 (fun m e C=>∃(x3:Int),∃(x4:Int),dj (fun s=>ta R x1 s.1 s.2) m (x3,x4)=some z2l/\At [(1,am b2 0),(3,Pr.i64 x3),(4,Pr.i64 x4)] [Own.box b2 ab x1] e C) n2 ⟨0,0,hN2,⟨⟨aa,aa,aa,trivial⟩,Pick.refl _⟩⟩ ?_
 rintro m e C ⟨x3,x4,hN2,hatl2⟩
 refine W_at hatl2 ?_
 obtain⟨m2,w2l,rfl,h2l,hn2,ho2⟩:=bj hN2
 replace h2l:ta R x1 x3 x4=some w2l:=h2l
 unfold ta at h2l
 refine a8 (W_rs (kMv rfl (kUn (ai ee) ?_)))
 refine kUn (ap 0 ty53 bl) ?_
 refine kUn (iz rfl Tryz.underlying53) ?_
 refine kIn rfl rfl rfl ?_
 refine a5 h2l rfl (fun _ h2l=> ?_) (fun _ h2l=> ?_)
 ·refine ax (a8 (az (W_r (kMv rfl (kUn (ai ee) ?_)))))
  refine kUn (ap 0 ty53 bl) ?_
  refine kMv rfl ?_
  obtain⟨x8,hx8,h2l⟩:=ah h2l
  refine kUn (dg Tryz.underlying53 Tryz.sizeOf64 hx8) ?_
  refine kUn (cf ty64) ?_
  refine cm h2l (ih x8) rfl fun x9 _ h2l=> ?_
  refine kUn (qMax (a:=x3) (b:=x9)) ?_
  refine kAs rfl (W_r (kMv rfl (kIn rfl rfl rfl (kAs rfl ?_))))
  exact⟨m2,Nat.lt_succ_self _,(if x9>x3 then x9 else x3),w64 (x4+1),hn2 _ (Option.some.inj h2l).symm,atOk⟩
 refine c6 ?_
 obtain rfl:=ho2 _ (Option.some.inj h2l).symm
 exact⟨x3,h,atOk⟩
theorem rec_ref11_Depth_ok :∀n,rec_ref11_Depth_spec (ln n):=by
 intro n
 induction n with
 |zero=>exact(fun x1 r h=>nomatch (show none=some r from h))
 |succ n ih=>exact(fun x1 r h=>F_ref11_Depth_step (ln n) ih x1 r h)
theorem ref11_Depth_ok (x1:ApiNode) (r:Int) (h:ref11_Depth x1=some r):FnP Tryz.prog 53 [(ab).val x1] (Pr.i64 r):=(rec_ref11_Depth_ok 1048576) x1 r h
theorem ref12_File_ok (x1:List UInt8) (r:(List ApiNode) × ApiMistake) (h:ref12_File x1=some r):FnP Tryz.prog 23 [bv x1] (bk [aq ab r.1,(ak).val r.2]):=by
 refine c4 (rs:=[.tmp 2,.cell 3 30]) Tryz.func23 rfl Tryz.ntmps23 Tryz.results23 (by decide) (fun s0=> ?_)
 unfold ref12_File at h
 refine W_rs (kAs rfl (bq al30 fun b2=>W_rs (kMv rfl ?_)))
 obtain⟨⟨x3,x4,x5⟩,hx3,h⟩:=ah h
 refine kUn (ct (ref03_Lex_ok x1 _ hx3)) ?_
 refine kUn (hMv (out:=bk [aq bz x3,Pr.i64 x4,Pr.i64 x5]) rfl) (kUn au ?_)
 refine kUn au ?_
 refine kUn au ?_
 refine kAsL rfl (kAs rfl (kAs rfl (a8 (W_rs (kMv rfl (kIn rfl rfl rfl ?_))))))
 refine a5 h rfl (fun _ h=> ?_) (fun _ h=> ?_)
 ·refine W_rs (kMv rfl (kMv rfl (kUn (fv st30 ⟨(ApiMistake.mk x5 0 0),⟨_,rfl,rfl,fun j fd hj hf=>by match j,hj with| 0,h=>exact absurd rfl h| 1,_=>cases hf;rfl| 2,_=>cases hf;rfl|_+3,_=>cases hf⟩,⟨(ApiMistake.mk x5 0 x4),⟨_,rfl,rfl,fun j fd hj hf=>by match j,hj with| 0,_=>cases hf;rfl| 1,_=>cases hf;rfl| 2,h=>exact absurd rfl h|_+3,_=>cases hf⟩,rfl⟩⟩) ?_)))
  refine kAs rfl (av 0 rfl rfl (Upd.refl _) rfl Tryz.sizeOf30 ?_)
  obtain rfl:=osj h
  exact bc ⟨rfl,[aq ab [],(ak).val (ApiMistake.mk x5 0 x4)],⟨yT (c7 _),yBox 0 ty30 aa,trivial⟩,aa⟩
 refine ax (W_rs (kAs rfl (W_rs (kAs rfl (a8 (az ?_))))))
 obtain⟨z5l,hz5,h⟩:=ah h
 obtain⟨n5,hN5⟩:=bp hz5
 refine cq 0 (fun e C=>∃(x9:List ApiNode),∃(v7:Value),ref12_File_k4 x9=some r/\At [(3,am b2 0),(7,Pr.is v7)] [Own.box b2 ak (ApiMistake.mk 0 0 0),Own.vec v7 ab x9 64] e C) ?_ ?_
 ·rintro e C ⟨x9,v7,h,hat4⟩
  refine W_at hat4 ?_
  unfold ref12_File_k4 at h
  refine a8 (W_rs (kAs rfl (az ?_)))
  obtain⟨z2l,hz2,h⟩:=ah h
  obtain⟨n2,hN2⟩:=bp hz2
  refine cq 2 (fun e C=>ref12_File_k1 x9=some r/\At [(3,am b2 0),(7,Pr.is v7)] [Own.box b2 ak (ApiMistake.mk 0 0 0),Own.vec v7 ab x9 64] e C) ?_ ?_
  ·rintro e C ⟨h,hat1⟩
   refine W_at hat1 ?_
   unfold ref12_File_k1 at h
   refine W_rs (kMv rfl (kUn (fv st30 rfl) ?_))
   refine kAs rfl (av 0 rfl rfl (Upd.refl _) rfl Tryz.sizeOf30 ?_)
   refine W_rel 1 [2] ?_ rfl ⟨rfl,trivial⟩
   obtain rfl:=osj h
   exact bc ⟨rfl,[aq ab x9,(ak).val (ApiMistake.mk 0 0 0)],⟨yT aa,yBox 0 ty30 aa,trivial⟩,aa⟩
  refine c8 (fun m e C=>∃(x24:Int),dj (fun s=>ref12_File_l2 x9 s) m x24=some z2l/\At [(3,am b2 0),(7,Pr.is v7),(12,Pr.i64 x24)] [Own.box b2 ak (ApiMistake.mk 0 0 0),Own.vec v7 ab x9 64] e C) n2 ⟨0,hN2,⟨⟨aa,aa,aa,trivial⟩,Pick.refl _⟩⟩ ?_
  rintro m e C ⟨x24,hN2,hatl2⟩
  refine W_at hatl2 ?_
  obtain⟨m2,w2l,rfl,h2l,hn2,ho2⟩:=bj hN2
  replace h2l:ref12_File_l2 x9 x24=some w2l:=h2l
  unfold ref12_File_l2 at h2l
  refine a8 (W_rs (kMv rfl (kMv rfl (kUn (qLenV 1 rfl Tryz.underlying53) ?_))))
  refine kIn rfl rfl rfl ?_
  refine a5 h2l rfl (fun _ h2l=> ?_) (fun _ h2l=> ?_)
  ·refine ax (a8 (az (W_rs (kMv rfl (kMv rfl ?_)))))
   obtain⟨x27,hx27,h2l⟩:=ah h2l
   refine kUn (u1 1 (R:=ab) (l:=x9) Tryz.underlying53 Tryz.sizeOf64 hx27) ?_
   refine kUn (un (R:=ab) (R':=ab) (l:=x9) (a:=x27) (o:=0) 1 ty64 (Sub.refl _) (Nat.le_of_ble_eq_true rfl) hx27 rfl) ?_
   refine cm h2l (ref11_Depth_ok x27) rfl fun x28 _ h2l=>kIn rfl rfl rfl ?_
   refine a5 h2l rfl (fun _ h2l=> ?_) (fun _ h2l=> ?_)
   ·refine bh (fun e C=>∃(x30:ApiNode),ref12_File_j3 x30=some w2l/\At [(2,Pr.is (.slice none 0 0)),(3,am b2 0)] [Own.box b2 ak (ApiMistake.mk 2 0 x30.From)] e C) ?_ ?_
    ·rintro e C ⟨x30,h2l,hat3⟩
     refine W_at hat3 ?_
     unfold ref12_File_j3 at h2l
     obtain rfl:=ho2 _ (Option.some.inj h2l).symm
     replace h:some ([],(ApiMistake.mk 2 0 x30.From))=some r:=h
     obtain rfl:=osj h
     exact bc ⟨rfl,[aq ab [],(ak).val (ApiMistake.mk 2 0 x30.From)],⟨yT (c7 _),yBox 0 ty30 aa,trivial⟩,aa⟩
    refine eo 7 hmx (by kernel_rfl) (by kernel_rfl) ?_
    refine lUn (hMvA rfl) (lUn (hMvA rfl) ?_)
    obtain⟨x30,hx30,h2l⟩:=ah h2l
    refine lUn (u1 1 (R:=ab) (l:=x9) Tryz.underlying53 Tryz.sizeOf64 hx30) ?_
    refine lUn (qFieldV fld64_4) ?_
    refine lUn (un (R:=ab) (R':=Rp.int .i64) (l:=x9) (a:=x30) (o:=4) 1 ty3 ep (Nat.le_of_ble_eq_true rfl) hx30 rfl) ?_
    refine lUn (fv st30 ⟨(ApiMistake.mk 2 0 0),⟨_,rfl,rfl,fun j fd hj hf=>by match j,hj with| 0,h=>exact absurd rfl h| 1,_=>cases hf;rfl| 2,_=>cases hf;rfl|_+3,_=>cases hf⟩,⟨(ApiMistake.mk 2 0 x30.From),⟨_,rfl,rfl,fun j fd hj hf=>by match j,hj with| 0,_=>cases hf;rfl| 1,_=>cases hf;rfl| 2,h=>exact absurd rfl h|_+3,_=>cases hf⟩,rfl⟩⟩) ?_
    refine lUn (hAsA rfl) (av 0 rfl rfl (Upd.refl _) rfl Tryz.sizeOf30 ?_)
    exact⟨x30,h2l,⟨⟨aa,aa,trivial⟩,Pick.of [0] rfl⟩⟩
   refine ax (W_r (kMv rfl (kIn rfl rfl rfl (kAs rfl ?_))))
   exact⟨m2,Nat.lt_succ_self _,w64 (x24+1),hn2 _ (Option.some.inj h2l).symm,atOk⟩
  refine c6 ?_
  obtain rfl:=ho2 _ (Option.some.inj h2l).symm
  exact⟨h,atOk⟩
 refine W_nil [7] ab 64 (fun v31=> ?_) ⟨rfl,trivial⟩
 refine c8 (fun m e C=>∃(x8:Int),∃(x9:List ApiNode),∃(v7:Value),dj (fun s=>ref12_File_l5 x3 s.1 s.2) m (x8,x9)=some z5l/\At [(3,am b2 0),(4,aq bz x3),(7,Pr.is v7),(8,Pr.i64 x8)] [Own.box b2 ak (ApiMistake.mk 0 0 0),Own.vec v7 ab x9 64] e C) n5 ⟨0,[],v31,hN5,⟨⟨aa,aa,aa,aa,trivial⟩,Pick.refl _⟩⟩ ?_
 rintro m e C ⟨x8,x9,v7,hN5,hatl5⟩
 refine W_at hatl5 ?_
 obtain⟨m5,w5l,rfl,h5l,hn5,ho5⟩:=bj hN5
 replace h5l:ref12_File_l5 x3 x8 x9=some w5l:=h5l
 unfold ref12_File_l5 at h5l
 refine a8 (W_rs (kMvL rfl (kMv rfl ?_)))
 obtain⟨x13,hx13,h5l⟩:=ah h5l
 refine kUn (dg Tryz.underlying41 Tryz.sizeOf45 hx13) ?_
 refine kUn (d5 fld45_0 o0) ?_
 refine kUn (cf ty3) ?_
 refine kIn rfl rfl rfl ?_
 refine a5 h5l rfl (fun _ h5l=> ?_) (fun _ h5l=> ?_)
 ·refine ax (az (W_rs (kMvL rfl (kMv rfl ?_))))
  obtain⟨⟨x15,x16,x17⟩,hx15,h5l⟩:=ah h5l
  refine kUn (ct (ref12_class_ok x3 x8 _ hx15)) ?_
  refine kUn (hMv (out:=bk [(ab).val x15,Pr.i64 x16,(ag).val x17]) rfl) (kUn au ?_)
  refine kUn au ?_
  refine kUn au ?_
  refine bq al64 fun b18=> ?_
  refine bq al97 fun b19=>av 2 rfl rfl (Upd.refl _) rfl Tryz.sizeOf64 (kAs rfl (av 3 rfl rfl (Upd.refl _) rfl Tryz.sizeOf97 (a8 (W_rs (kUn (ai ki) ?_)))))
  refine kUn (ap 3 ty3 cb) ?_
  refine kIn rfl rfl rfl ?_
  refine a5 h5l rfl (fun _ h5l=> ?_) (fun _ h5l=> ?_)
  ·refine W_rs (kMvL rfl (kUn (ap 3 ty97 (Sub.refl _)) ?_))
   refine cm h5l (ref12_mistake_ok x3 x17) rfl fun x21 _ h5l=>kAs rfl (av 0 rfl rfl (Upd.refl _) rfl Tryz.sizeOf30 ?_)
   obtain rfl:=ho5 _ (Option.some.inj h5l).symm
   replace h:some ([],x21)=some r:=h
   obtain rfl:=osj h
   exact bc ⟨rfl,[aq ab [],(ak).val x21],⟨yT (c7 _),yBox 0 ty30 aa,trivial⟩,aa⟩
  refine ax (W_rs (kMv rfl (kUn (ap 2 ty64 (Sub.refl _)) ?_)))
  refine kUn (cl (R:=ab) (a:=x15) el53 (Nat.le_of_ble_eq_true rfl)) ?_
  obtain⟨x22,hx22,h5l⟩:=ah h5l
  refine ev 1 el53 hx22 (fun v23=> ?_)
  refine kAs rfl (W_r (kMv rfl (kAs rfl ?_)))
  exact⟨m5,Nat.lt_succ_self _,x16,x22,v23,hn5 _ (Option.some.inj h5l).symm,⟨⟨aa,aa,aa,aa,trivial⟩,Pick.of [0,1] rfl⟩⟩
 refine c6 ?_
 obtain rfl:=ho5 _ (Option.some.inj h5l).symm
 exact⟨x9,v7,h,atOk⟩
end Go.Proofs.YtcndghapmoaidaaGreatDoor
