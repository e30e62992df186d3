/- The code comes to what these functions say (printed by wip/gen/gen.py). -/
import Derived.Test.YtackaijkmkollaaGreatDoorZR
import Derived.Test.YtackaijkmkollaaGreatDoorZT
set_option linter.unusedSimpArgs false
set_option linter.unusedVariables false
set_option linter.unusedSectionVars false
set_option linter.unusedSectionVars false
set_option maxRecDepth 100000
set_option maxHeartbeats 4000000
namespace Go.Proofs.YtackaijkmkollaaGreatDoor
open Go Go.Cn
variable [Known]
theorem parse_one_1_ok (x1:Option Nat) (x3:ParseParser) (b2:Nat) (r:PX ParseWrong ((List ApiNode) × ParseParser)) (h:parse_one_1 x1 x3=some r):FnX Tryz.prog 48 [al b2 0,br jz x1] [Own.box b2 ae x3] (fun q C'=>∃a9,r= .ok a9/\q=av rApiNode a9.1/\C'=[Own.box b2 ae a9.2]) (fun v=>∃m,r= .bad m/\v=cv m):=by
 refine fnx_introP (n:=8) (rs:=[3]) Tryz.func48 rfl Tryz.ntmps48 ⟨by decide,Tryz.results48⟩ (by decide) (fun s0=> ?_)
 unfold parse_one_1 at h
 refine W_rs ?_
 refine rq (out:=Pr.is (.slice none 0 0)) aj ?_
 refine W_rs ?_
 refine rq (out:=(jz).val x1) (gr (R:=jz) (a:=x1) ty58) ?_
 refine rq (out:=al b2 0) ai ?_
 rcases bk h with⟨hc4,h⟩|⟨hc4,h⟩
 ·refine rEnv 4 (q:=Pr.is (.func (.func 31) #[] #[])) (fid_le hc4) ?_
  rcases aq h with⟨m7,hm7,h⟩|⟨⟨x5,x6⟩,hx5,h⟩
  ·refine kn [0] (ib x3 b2 _ hm7) ⟨aa,trivial⟩ (fun q C' hq=> ?_) (fun v9 hv=> ?_)
   ·obtain⟨_,h9,_⟩:=hq;cases h9
   obtain⟨_,h9,rfl⟩:=hv
   cases h9
   obtain rfl:=Option.some.inj h
   exact .inr ⟨_,rfl,_,rfl,rfl⟩
  refine kn [0] (ib x3 b2 _ hx5) ⟨aa,trivial⟩ (fun q C' hq=> ?_) (fun v9 hv=>by obtain⟨_,h9,_⟩:=hv;cases h9)
  obtain⟨_,h9,rfl,rfl⟩:=hq
  cases h9
  refine rCtx [Own.box b2 ae x6] ?_
  refine rq (out:=av rApiNode ([x5]:List ApiNode)) (cn (R:=rApiNode) (a:=x5) el24 (Nat.le_of_ble_eq_true rfl)) ?_
  refine rq (out:=av rApiNode ([x5]:List ApiNode)) aj ?_
  obtain rfl:=Option.some.inj h
  exact bp (.inl ⟨.inl rfl,_,Pick.refl _,_,(aa),_,rfl,rfl,rfl⟩)
 rcases bk h with⟨hc8,h⟩|⟨hc8,h⟩
 ·refine rEnv 4 (q:=Pr.is (.func (.func 32) #[] #[])) (fid_le hc8) ?_
  rcases aq h with⟨m11,hm11,h⟩|⟨⟨x9,x10⟩,hx9,h⟩
  ·refine kn [0] (parse_Expression_1_ok x3 b2 _ hm11) ⟨aa,trivial⟩ (fun q C' hq=> ?_) (fun v9 hv=> ?_)
   ·obtain⟨_,h9,_⟩:=hq;cases h9
   obtain⟨_,h9,rfl⟩:=hv
   cases h9
   obtain rfl:=Option.some.inj h
   exact .inr ⟨_,rfl,_,rfl,rfl⟩
  refine kn [0] (parse_Expression_1_ok x3 b2 _ hx9) ⟨aa,trivial⟩ (fun q C' hq=> ?_) (fun v9 hv=>by obtain⟨_,h9,_⟩:=hv;cases h9)
  obtain⟨_,h9,rfl,rfl⟩:=hq
  cases h9
  refine rCtx [Own.box b2 ae x10] ?_
  refine rq (out:=av rApiNode ([x9]:List ApiNode)) (cn (R:=rApiNode) (a:=x9) el24 (Nat.le_of_ble_eq_true rfl)) ?_
  refine rq (out:=av rApiNode ([x9]:List ApiNode)) aj ?_
  obtain rfl:=Option.some.inj h
  exact bp (.inl ⟨.inl rfl,_,Pick.refl _,_,(aa),_,rfl,rfl,rfl⟩)
 rcases bk h with⟨hc12,h⟩|⟨hc12,h⟩
 ·refine rEnv 4 (q:=Pr.is (.func (.func 34) #[] #[])) (fid_le hc12) ?_
  rcases aq h with⟨m15,hm15,h⟩|⟨⟨x13,x14⟩,hx13,h⟩
  ·refine kn [0] (parse_Statement_1_ok x3 b2 _ hm15) ⟨aa,trivial⟩ (fun q C' hq=> ?_) (fun v9 hv=> ?_)
   ·obtain⟨_,h9,_⟩:=hq;cases h9
   obtain⟨_,h9,rfl⟩:=hv
   cases h9
   obtain rfl:=Option.some.inj h
   exact .inr ⟨_,rfl,_,rfl,rfl⟩
  refine kn [0] (parse_Statement_1_ok x3 b2 _ hx13) ⟨aa,trivial⟩ (fun q C' hq=> ?_) (fun v9 hv=>by obtain⟨_,h9,_⟩:=hv;cases h9)
  obtain⟨_,h9,rfl,rfl⟩:=hq
  cases h9
  refine rCtx [Own.box b2 ae x14] ?_
  refine rq (out:=av rApiNode ([x13]:List ApiNode)) (cn (R:=rApiNode) (a:=x13) el24 (Nat.le_of_ble_eq_true rfl)) ?_
  refine rq (out:=av rApiNode ([x13]:List ApiNode)) aj ?_
  obtain rfl:=Option.some.inj h
  exact bp (.inl ⟨.inl rfl,_,Pick.refl _,_,(aa),_,rfl,rfl,rfl⟩)
 cases h
theorem parse_one_ok (x1:List UInt8) (x2:Option Nat) (r:ApiNode × ApiMistake) (h:parse_one x1 x2=some r):FnP Tryz.prog 30 [ar x1,(jz).val x2] (cj [(rApiNode).val r.1,(ah).val r.2]):=by
 refine j4 (n:=23) (rs:=[.cell 4 32,.cell 5 27]) Tryz.func30 rfl Tryz.ntmps30 Tryz.results30 (by decide) (fun s0=> ?_)
 unfold parse_one at h
 refine W_rs ?_
 refine rBox (R:=jz) (a:=x2) rfl (fun b3=> ?_)
 refine bi (R:=rApiNode) (z:=(ApiNode.mk 0 [] [] 0 0 0 0 0 [])) Tryz.zeroValue32 (fun _=>(by rw[ap];exact⟨_,⟨_,_,rfl,rfl,⟨_,_,rfl,rfl,⟨_,_,rfl,rfl,⟨_,_,rfl,rfl,⟨_,_,rfl,rfl,⟨_,_,rfl,rfl,⟨_,_,rfl,rfl,⟨_,_,rfl,rfl,⟨_,_,rfl,⟨_,rfl,none,0,rfl,⟨Nat.le_refl _,fun _=>rfl⟩,.inl rfl⟩,rfl⟩⟩⟩⟩⟩⟩⟩⟩⟩,rfl⟩)) (fun b4=> ?_)
 refine bi (R:=ah) (z:=(ApiMistake.mk 0 0 0)) Tryz.zeroValue27 (fun _=>⟨_,⟨_,_,rfl,rfl,⟨_,_,rfl,rfl,⟨_,_,rfl,rfl,rfl⟩⟩⟩,rfl⟩) (fun b5=> ?_)
 refine W_rs ?_
 refine rq (out:=ar x1) ai ?_
 refine rRelB 0 [3] ?_ rfl ⟨rfl,trivial⟩
 refine rq (out:=Pr.clo 48 [] [br jz x2]) qMakeFunc ?_
 obtain⟨⟨x6,x7⟩,hx6,h⟩:=ak h
 refine rq (out:=cj [av rApiNode x6,(ah).val x7]) (qCall' (parse_run_ok _ 48 [br jz x2] (fun p b r h=>parse_one_1_ok x2 p b r h) x1 _ hx6) ⟨aa,aa,trivial⟩) ?_
 refine rq (out:=cj [av rApiNode x6,(ah).val x7]) ai ?_
 refine rq (out:=av rApiNode x6) bo ?_
 refine rq (out:=(ah).val x7) bo ?_
 refine bi (R:=ah) (z:=(ApiMistake.mk 0 0 0)) Tryz.zeroValue27 (fun _=>⟨_,⟨_,_,rfl,rfl,⟨_,_,rfl,rfl,⟨_,_,rfl,rfl,rfl⟩⟩⟩,rfl⟩) (fun b8=> ?_)
 refine rq (out:=av rApiNode x6) aj ?_
 refine a5 (R:=ah) (R':=ah) (a:=(ApiMistake.mk 0 0 0)) (y:=x7) 2 Tryz.sizeOf27 (Upd.refl _) ?_
 refine c0 ?_
 refine W_rs ?_
 refine rq (out:=al b8 0) (a3 fld27_0) ?_
 refine rq (out:=Pr.i64 x7.Code) (a7 (R:=ah) (a:=x7) (R':=Rp.int .i64) 2 ty25 ct) ?_
 refine rq (out:=Pr.bool (x7.Code != 0)) qInt ?_
 refine a8 (b:=x7.Code != 0) rfl (fun hc9=> ?_) (fun hc9=> ?_)
 ·replace h:=iteT hc9 h
  refine cd (fun e C=>parse_one_j1 x7=some r/\At [(4,al b4 0),(5,al b5 0)] [Own.box b4 rApiNode (ApiNode.mk 0 [] [] 0 0 0 0 0 []),Own.box b5 ah x7,Own.box b8 ah x7] e C) ?_ ?_
  ·rintro e C ⟨h,hat1⟩
   refine W_at hat1 ?_
   clear hat1
   unfold parse_one_j1 at h
   obtain rfl:=Option.some.inj h
   exact bp ⟨rfl,[(rApiNode).val (ApiNode.mk 0 [] [] 0 0 0 0 0 []),(ah).val x7],⟨yBox 0 ty32 aa,yBox 1 ty27 aa,trivial⟩,aa⟩
  refine W_drawEx [(2,0,Own.box b4 rApiNode (ApiNode.mk 0 [] [] 0 0 0 0 0 [])),(3,1,Own.box b5 ah x7)] [Own.box b4 rApiNode (ApiNode.mk 0 [] [] 0 0 0 0 0 []),Own.box b5 ah x7,Own.box b8 ah x7] hmx (by kernel_rfl) (by kernel_rfl) (show([2,3]:List Nat).Nodup by decide) (show([0,1]:List Nat).Nodup by decide) rfl rfl ?_
  refine eq1 (out:=(rApiNode).val (ApiNode.mk 0 [] [] 0 0 0 0 0 [])) (fun C2 hC=>(qBuildR ap st32 rfl)) ?_
  refine eq1 (out:=(ah).val x7) (fun C2 hC=>(a7 (R:=ah) (a:=x7) (R':=ah) 2 ty27 (Sub.refl _) (hi:=(hC 2 (by kernel_rfl)).trans rfl))) ?_
  refine eqS (fun C2 hC=>sStore (R:=rApiNode) (R':=rApiNode) (a:=(ApiNode.mk 0 [] [] 0 0 0 0 0 [])) (y:=(ApiNode.mk 0 [] [] 0 0 0 0 0 [])) 0 Tryz.sizeOf32 (Upd.refl _) ((hC 0 (by kernel_rfl)).trans rfl)) ?_
  refine eqS (fun C2 hC=>sStore (R:=ah) (R':=ah) (a:=(ApiMistake.mk 0 0 0)) (y:=x7) 1 Tryz.sizeOf27 (Upd.refl _) ((hC 1 (by kernel_rfl)).trans rfl)) ?_
  exact⟨h,⟨⟨aa,aa,trivial⟩,Pick.refl _⟩⟩
 replace h:=iteF hc9 h
 refine bj ?_
 refine cd (fun e C=>∃(x10:ApiNode),parse_one_j2 x7 x10=some r/\At [(4,al b4 0),(5,al b5 0)] [Own.box b4 rApiNode x10,Own.box b5 ah x7,Own.box b8 ah x7] e C) ?_ ?_
 ·rintro e C ⟨x10,h,hat2⟩
  refine W_at hat2 ?_
  clear hat2
  unfold parse_one_j2 at h
  obtain rfl:=Option.some.inj h
  exact bp ⟨rfl,[(rApiNode).val x10,(ah).val x7],⟨yBox 0 ty32 aa,yBox 1 ty27 aa,trivial⟩,aa⟩
 obtain⟨x10,hx10,h⟩:=ak h
 refine W_drawEx [(4,0,Own.box b4 rApiNode x10),(5,1,Own.box b5 ah x7)] [Own.box b4 rApiNode x10,Own.box b5 ah x7,Own.box b8 ah x7] hmx (by kernel_rfl) (by kernel_rfl) (show([4,5]:List Nat).Nodup by decide) (show([0,1]:List Nat).Nodup by decide) rfl rfl ?_
 refine eq1 (out:=av rApiNode x6) (fun C2 hC=>ai) ?_
 refine eq1 (out:=br rApiNode x10) (fun C2 hC=>(qIdxA (R:=rApiNode) (l:=x6) Tryz.underlying24 Tryz.sizeOf32 hx10)) ?_
 refine eq1 (out:=(rApiNode).val x10) (fun C2 hC=>(gr (R:=rApiNode) (a:=x10) ty32)) ?_
 refine eq1 (out:=(ah).val x7) (fun C2 hC=>(a7 (R:=ah) (a:=x7) (R':=ah) 2 ty27 (Sub.refl _) (hi:=(hC 2 (by kernel_rfl)).trans rfl))) ?_
 refine eqS (fun C2 hC=>sStore (R:=rApiNode) (R':=rApiNode) (a:=(ApiNode.mk 0 [] [] 0 0 0 0 0 [])) (y:=x10) 0 Tryz.sizeOf32 (Upd.refl _) ((hC 0 (by kernel_rfl)).trans rfl)) ?_
 refine eqS (fun C2 hC=>sStore (R:=ah) (R':=ah) (a:=(ApiMistake.mk 0 0 0)) (y:=x7) 1 Tryz.sizeOf27 (Upd.refl _) ((hC 1 (by kernel_rfl)).trans rfl)) ?_
 exact⟨x10,h,⟨⟨aa,aa,trivial⟩,Pick.refl _⟩⟩
theorem parse_Member_ok (x1:List UInt8) (r:ApiNode × ApiMistake) (h:j6 x1=some r):FnP Tryz.prog 15 [ar x1] (cj [(rApiNode).val r.1,(ah).val r.2]):=by
 refine j4 (n:=8) (rs:=[.cell 2 32,.cell 3 27]) Tryz.func15 rfl Tryz.ntmps15 Tryz.results15 (by decide) (fun s0=> ?_)
 unfold j6 at h
 refine W_rs ?_
 refine bi (R:=rApiNode) (z:=(ApiNode.mk 0 [] [] 0 0 0 0 0 [])) Tryz.zeroValue32 (fun _=>(by rw[ap];exact⟨_,⟨_,_,rfl,rfl,⟨_,_,rfl,rfl,⟨_,_,rfl,rfl,⟨_,_,rfl,rfl,⟨_,_,rfl,rfl,⟨_,_,rfl,rfl,⟨_,_,rfl,rfl,⟨_,_,rfl,rfl,⟨_,_,rfl,⟨_,rfl,none,0,rfl,⟨Nat.le_refl _,fun _=>rfl⟩,.inl rfl⟩,rfl⟩⟩⟩⟩⟩⟩⟩⟩⟩,rfl⟩)) (fun b2=> ?_)
 refine bi (R:=ah) (z:=(ApiMistake.mk 0 0 0)) Tryz.zeroValue27 (fun _=>⟨_,⟨_,_,rfl,rfl,⟨_,_,rfl,rfl,⟨_,_,rfl,rfl,rfl⟩⟩⟩,rfl⟩) (fun b3=> ?_)
 refine W_rs ?_
 refine rq (out:=ar x1) ai ?_
 obtain⟨⟨x4,x5⟩,hx4,h⟩:=ak h
 refine rq (out:=cj [(rApiNode).val x4,(ah).val x5]) (qCall' (parse_one_ok x1 (some 31) _ hx4) ⟨aa,(Pr.is_le rfl),trivial⟩) ?_
 refine rq (out:=(rApiNode).val x4) bo ?_
 refine rq (out:=(ah).val x5) bo ?_
 refine a5 (R:=rApiNode) (R':=rApiNode) (a:=(ApiNode.mk 0 [] [] 0 0 0 0 0 [])) (y:=x4) 0 Tryz.sizeOf32 (Upd.refl _) ?_
 refine a5 (R:=ah) (R':=ah) (a:=(ApiMistake.mk 0 0 0)) (y:=x5) 1 Tryz.sizeOf27 (Upd.refl _) ?_
 obtain rfl:=Option.some.inj h
 exact bp ⟨rfl,[(rApiNode).val x4,(ah).val x5],⟨yBox 0 ty32 aa,yBox 1 ty27 aa,trivial⟩,aa⟩
theorem parse_Expression_ok (x1:List UInt8) (r:ApiNode × ApiMistake) (h:parse_Expression x1=some r):FnP Tryz.prog 18 [ar x1] (cj [(rApiNode).val r.1,(ah).val r.2]):=by
 refine j4 (n:=8) (rs:=[.cell 2 32,.cell 3 27]) Tryz.func18 rfl Tryz.ntmps18 Tryz.results18 (by decide) (fun s0=> ?_)
 unfold parse_Expression at h
 refine W_rs ?_
 refine bi (R:=rApiNode) (z:=(ApiNode.mk 0 [] [] 0 0 0 0 0 [])) Tryz.zeroValue32 (fun _=>(by rw[ap];exact⟨_,⟨_,_,rfl,rfl,⟨_,_,rfl,rfl,⟨_,_,rfl,rfl,⟨_,_,rfl,rfl,⟨_,_,rfl,rfl,⟨_,_,rfl,rfl,⟨_,_,rfl,rfl,⟨_,_,rfl,rfl,⟨_,_,rfl,⟨_,rfl,none,0,rfl,⟨Nat.le_refl _,fun _=>rfl⟩,.inl rfl⟩,rfl⟩⟩⟩⟩⟩⟩⟩⟩⟩,rfl⟩)) (fun b2=> ?_)
 refine bi (R:=ah) (z:=(ApiMistake.mk 0 0 0)) Tryz.zeroValue27 (fun _=>⟨_,⟨_,_,rfl,rfl,⟨_,_,rfl,rfl,⟨_,_,rfl,rfl,rfl⟩⟩⟩,rfl⟩) (fun b3=> ?_)
 refine W_rs ?_
 refine rq (out:=ar x1) ai ?_
 obtain⟨⟨x4,x5⟩,hx4,h⟩:=ak h
 refine rq (out:=cj [(rApiNode).val x4,(ah).val x5]) (qCall' (parse_one_ok x1 (some 32) _ hx4) ⟨aa,(Pr.is_le rfl),trivial⟩) ?_
 refine rq (out:=(rApiNode).val x4) bo ?_
 refine rq (out:=(ah).val x5) bo ?_
 refine a5 (R:=rApiNode) (R':=rApiNode) (a:=(ApiNode.mk 0 [] [] 0 0 0 0 0 [])) (y:=x4) 0 Tryz.sizeOf32 (Upd.refl _) ?_
 refine a5 (R:=ah) (R':=ah) (a:=(ApiMistake.mk 0 0 0)) (y:=x5) 1 Tryz.sizeOf27 (Upd.refl _) ?_
 obtain rfl:=Option.some.inj h
 exact bp ⟨rfl,[(rApiNode).val x4,(ah).val x5],⟨yBox 0 ty32 aa,yBox 1 ty27 aa,trivial⟩,aa⟩
theorem parse_Statement_ok (x1:List UInt8) (r:ApiNode × ApiMistake) (h:parse_Statement x1=some r):FnP Tryz.prog 19 [ar x1] (cj [(rApiNode).val r.1,(ah).val r.2]):=by
 refine j4 (n:=8) (rs:=[.cell 2 32,.cell 3 27]) Tryz.func19 rfl Tryz.ntmps19 Tryz.results19 (by decide) (fun s0=> ?_)
 unfold parse_Statement at h
 refine W_rs ?_
 refine bi (R:=rApiNode) (z:=(ApiNode.mk 0 [] [] 0 0 0 0 0 [])) Tryz.zeroValue32 (fun _=>(by rw[ap];exact⟨_,⟨_,_,rfl,rfl,⟨_,_,rfl,rfl,⟨_,_,rfl,rfl,⟨_,_,rfl,rfl,⟨_,_,rfl,rfl,⟨_,_,rfl,rfl,⟨_,_,rfl,rfl,⟨_,_,rfl,rfl,⟨_,_,rfl,⟨_,rfl,none,0,rfl,⟨Nat.le_refl _,fun _=>rfl⟩,.inl rfl⟩,rfl⟩⟩⟩⟩⟩⟩⟩⟩⟩,rfl⟩)) (fun b2=> ?_)
 refine bi (R:=ah) (z:=(ApiMistake.mk 0 0 0)) Tryz.zeroValue27 (fun _=>⟨_,⟨_,_,rfl,rfl,⟨_,_,rfl,rfl,⟨_,_,rfl,rfl,rfl⟩⟩⟩,rfl⟩) (fun b3=> ?_)
 refine W_rs ?_
 refine rq (out:=ar x1) ai ?_
 obtain⟨⟨x4,x5⟩,hx4,h⟩:=ak h
 refine rq (out:=cj [(rApiNode).val x4,(ah).val x5]) (qCall' (parse_one_ok x1 (some 34) _ hx4) ⟨aa,(Pr.is_le rfl),trivial⟩) ?_
 refine rq (out:=(rApiNode).val x4) bo ?_
 refine rq (out:=(ah).val x5) bo ?_
 refine a5 (R:=rApiNode) (R':=rApiNode) (a:=(ApiNode.mk 0 [] [] 0 0 0 0 0 [])) (y:=x4) 0 Tryz.sizeOf32 (Upd.refl _) ?_
 refine a5 (R:=ah) (R':=ah) (a:=(ApiMistake.mk 0 0 0)) (y:=x5) 1 Tryz.sizeOf27 (Upd.refl _) ?_
 obtain rfl:=Option.some.inj h
 exact bp ⟨rfl,[(rApiNode).val x4,(ah).val x5],⟨yBox 0 ty32 aa,yBox 1 ty27 aa,trivial⟩,aa⟩
theorem ki (x1:List UInt8) (r:(List ApiNode) × ApiMistake) (h:eq x1=some r):FnP Tryz.prog 9 [ar x1] (cj [av rApiNode r.1,(ah).val r.2]):=by
 refine j4 (n:=8) (rs:=[.tmp 2,.cell 3 27]) Tryz.func9 rfl Tryz.ntmps9 Tryz.results9 (by decide) (fun s0=> ?_)
 unfold eq at h
 refine W_rs ?_
 refine rq (out:=Pr.is (.slice none 0 0)) aj ?_
 refine bi (R:=ah) (z:=(ApiMistake.mk 0 0 0)) Tryz.zeroValue27 (fun _=>⟨_,⟨_,_,rfl,rfl,⟨_,_,rfl,rfl,⟨_,_,rfl,rfl,rfl⟩⟩⟩,rfl⟩) (fun b2=> ?_)
 refine W_rs ?_
 refine rq (out:=ar x1) ai ?_
 obtain⟨⟨x3,x4⟩,hx3,h⟩:=ak h
 refine rq (out:=cj [av rApiNode x3,(ah).val x4]) (qCall' (parse_run_ok _ 21 [] (fun p b r h=>parse_File_1_ok p b r h) x1 _ hx3) ⟨aa,is_clo,trivial⟩) ?_
 refine rq (out:=av rApiNode x3) bo ?_
 refine rq (out:=(ah).val x4) bo ?_
 refine rq (out:=av rApiNode x3) aj ?_
 refine a5 (R:=ah) (R':=ah) (a:=(ApiMistake.mk 0 0 0)) (y:=x4) 0 Tryz.sizeOf27 (Upd.refl _) ?_
 obtain rfl:=Option.some.inj h
 exact bp ⟨rfl,[av rApiNode x3,(ah).val x4],⟨yT aa,yBox 0 ty27 aa,trivial⟩,aa⟩
theorem law12_awake_ok (r:Bool) (h:law12_awake=some r):FnP Tryz.prog 7 [] (Pr.bool r):=by
  refine de (n:=106) (rs:=[0]) Tryz.func7 rfl Tryz.ntmps7 ⟨by decide,Tryz.results7⟩ (by decide) (fun s0=> ?_)
  unfold law12_awake at h
  refine W_rs ?_
  refine rq (out:=Pr.bool false) aj ?_
  refine W_rs ?_
  obtain⟨⟨x1,x2⟩,hx1,h⟩:=ak h
  refine rq (out:=cj [(rApiNode).val x1,(ah).val x2]) (dt (parse_Expression_ok ([97,46,98,40,49,41,43,99,42,45,50]:List UInt8) _ hx1)) ?_
  refine rq (out:=cj [(rApiNode).val x1,(ah).val x2]) ai ?_
  refine rq (out:=(rApiNode).val x1) bo ?_
  refine rq (out:=(ah).val x2) bo ?_
  refine bi (R:=rApiNode) (z:=(ApiNode.mk 0 [] [] 0 0 0 0 0 [])) Tryz.zeroValue32 (fun _=>(by rw[ap];exact⟨_,⟨_,_,rfl,rfl,⟨_,_,rfl,rfl,⟨_,_,rfl,rfl,⟨_,_,rfl,rfl,⟨_,_,rfl,rfl,⟨_,_,rfl,rfl,⟨_,_,rfl,rfl,⟨_,_,rfl,rfl,⟨_,_,rfl,⟨_,rfl,none,0,rfl,⟨Nat.le_refl _,fun _=>rfl⟩,.inl rfl⟩,rfl⟩⟩⟩⟩⟩⟩⟩⟩⟩,rfl⟩)) (fun b3=> ?_)
  refine bi (R:=ah) (z:=(ApiMistake.mk 0 0 0)) Tryz.zeroValue27 (fun _=>⟨_,⟨_,_,rfl,rfl,⟨_,_,rfl,rfl,⟨_,_,rfl,rfl,rfl⟩⟩⟩,rfl⟩) (fun b4=> ?_)
  refine a5 (R:=rApiNode) (R':=rApiNode) (a:=(ApiNode.mk 0 [] [] 0 0 0 0 0 [])) (y:=x1) 0 Tryz.sizeOf32 (Upd.refl _) ?_
  refine a5 (R:=ah) (R':=ah) (a:=(ApiMistake.mk 0 0 0)) (y:=x2) 1 Tryz.sizeOf27 (Upd.refl _) ?_
  refine W_rs ?_
  obtain⟨⟨x5,x6⟩,hx5,h⟩:=ak h
  refine rq (out:=cj [av rApiNode x5,(ah).val x6]) (dt (ki ([99,108,97,115,115,32,65,32,123,32,105,110,116,32,102,32,125]:List UInt8) _ hx5)) ?_
  refine rq (out:=cj [av rApiNode x5,(ah).val x6]) ai ?_
  refine rq (out:=av rApiNode x5) bo ?_
  refine rq (out:=(ah).val x6) bo ?_
  refine bi (R:=ah) (z:=(ApiMistake.mk 0 0 0)) Tryz.zeroValue27 (fun _=>⟨_,⟨_,_,rfl,rfl,⟨_,_,rfl,rfl,⟨_,_,rfl,rfl,rfl⟩⟩⟩,rfl⟩) (fun b7=> ?_)
  refine rq (out:=av rApiNode x5) aj ?_
  refine a5 (R:=ah) (R':=ah) (a:=(ApiMistake.mk 0 0 0)) (y:=x6) 2 Tryz.sizeOf27 (Upd.refl _) ?_
  refine W_rs ?_
  obtain⟨⟨x8,x9⟩,hx8,h⟩:=ak h
  refine rq (out:=cj [av rApiNode x8,(ah).val x9]) (dt (ki ([99,108,97,115,115,32,65,32,123,32,105,110,116,32,102,59,32,125]:List UInt8) _ hx8)) ?_
  refine rq (out:=cj [av rApiNode x8,(ah).val x9]) ai ?_
  refine rq (out:=av rApiNode x8) bo ?_
  refine rq (out:=(ah).val x9) bo ?_
  refine bi (R:=ah) (z:=(ApiMistake.mk 0 0 0)) Tryz.zeroValue27 (fun _=>⟨_,⟨_,_,rfl,rfl,⟨_,_,rfl,rfl,⟨_,_,rfl,rfl,rfl⟩⟩⟩,rfl⟩) (fun b10=> ?_)
  refine rq (out:=av rApiNode x8) aj ?_
  refine a5 (R:=ah) (R':=ah) (a:=(ApiMistake.mk 0 0 0)) (y:=x9) 3 Tryz.sizeOf27 (Upd.refl _) ?_
  refine W_rs ?_
  obtain⟨⟨x11,x12⟩,hx11,h⟩:=ak h
  refine rq (out:=cj [(rApiNode).val x11,(ah).val x12]) (dt (parse_Statement_ok ([120,32,61,32,49,59]:List UInt8) _ hx11)) ?_
  refine rq (out:=cj [(rApiNode).val x11,(ah).val x12]) ai ?_
  refine rq (out:=(rApiNode).val x11) bo ?_
  refine rq (out:=(ah).val x12) bo ?_
  refine bi (R:=rApiNode) (z:=(ApiNode.mk 0 [] [] 0 0 0 0 0 [])) Tryz.zeroValue32 (fun _=>(by rw[ap];exact⟨_,⟨_,_,rfl,rfl,⟨_,_,rfl,rfl,⟨_,_,rfl,rfl,⟨_,_,rfl,rfl,⟨_,_,rfl,rfl,⟨_,_,rfl,rfl,⟨_,_,rfl,rfl,⟨_,_,rfl,rfl,⟨_,_,rfl,⟨_,rfl,none,0,rfl,⟨Nat.le_refl _,fun _=>rfl⟩,.inl rfl⟩,rfl⟩⟩⟩⟩⟩⟩⟩⟩⟩,rfl⟩)) (fun b13=> ?_)
  refine bi (R:=ah) (z:=(ApiMistake.mk 0 0 0)) Tryz.zeroValue27 (fun _=>⟨_,⟨_,_,rfl,rfl,⟨_,_,rfl,rfl,⟨_,_,rfl,rfl,rfl⟩⟩⟩,rfl⟩) (fun b14=> ?_)
  refine a5 (R:=rApiNode) (R':=rApiNode) (a:=(ApiNode.mk 0 [] [] 0 0 0 0 0 [])) (y:=x11) 4 Tryz.sizeOf32 (Upd.refl _) ?_
  refine a5 (R:=ah) (R':=ah) (a:=(ApiMistake.mk 0 0 0)) (y:=x12) 5 Tryz.sizeOf27 (Upd.refl _) ?_
  refine W_rs ?_
  obtain⟨⟨x15,x16⟩,hx15,h⟩:=ak h
  refine rq (out:=cj [(rApiNode).val x15,(ah).val x16]) (dt (parse_Member_ok ([115,116,97,116,105,99,32,105,110,116,32,102,40,41,32,123,32,114,101,116,117,114,110,32,49,59,32,125]:List UInt8) _ hx15)) ?_
  refine rq (out:=cj [(rApiNode).val x15,(ah).val x16]) ai ?_
  refine rq (out:=(rApiNode).val x15) bo ?_
  refine rq (out:=(ah).val x16) bo ?_
  refine bi (R:=rApiNode) (z:=(ApiNode.mk 0 [] [] 0 0 0 0 0 [])) Tryz.zeroValue32 (fun _=>(by rw[ap];exact⟨_,⟨_,_,rfl,rfl,⟨_,_,rfl,rfl,⟨_,_,rfl,rfl,⟨_,_,rfl,rfl,⟨_,_,rfl,rfl,⟨_,_,rfl,rfl,⟨_,_,rfl,rfl,⟨_,_,rfl,rfl,⟨_,_,rfl,⟨_,rfl,none,0,rfl,⟨Nat.le_refl _,fun _=>rfl⟩,.inl rfl⟩,rfl⟩⟩⟩⟩⟩⟩⟩⟩⟩,rfl⟩)) (fun b17=> ?_)
  refine bi (R:=ah) (z:=(ApiMistake.mk 0 0 0)) Tryz.zeroValue27 (fun _=>⟨_,⟨_,_,rfl,rfl,⟨_,_,rfl,rfl,⟨_,_,rfl,rfl,rfl⟩⟩⟩,rfl⟩) (fun b18=> ?_)
  refine a5 (R:=rApiNode) (R':=rApiNode) (a:=(ApiNode.mk 0 [] [] 0 0 0 0 0 [])) (y:=x15) 6 Tryz.sizeOf32 (Upd.refl _) ?_
  refine a5 (R:=ah) (R':=ah) (a:=(ApiMistake.mk 0 0 0)) (y:=x16) 7 Tryz.sizeOf27 (Upd.refl _) ?_
  refine cd (fun e C=>∃(x8234:Bool),co x8234=some r/\At [(0,Pr.bool x8234)] [Own.box b3 rApiNode x1,Own.box b4 ah x2,Own.box b7 ah x6,Own.box b10 ah x9,Own.box b13 rApiNode x11,Own.box b14 ah x12,Own.box b17 rApiNode x15,Own.box b18 ah x16] e C) ?_ ?_
  · rintro e C ⟨x8234,h,hat1⟩
    refine W_at hat1 ?_
    clear hat1
    unfold co at h
    obtain rfl:=Option.some.inj h
    exact bp ⟨rfl,aa⟩
  refine W_r ?_
  refine rq (out:=al b4 0) (a3 fld27_0) ?_
  refine rq (out:=Pr.i64 x2.Code) (a7 (R:=ah) (a:=x2) (R':=Rp.int .i64) 1 ty25 ct) ?_
  refine rq (out:=Pr.bool (x2.Code==0)) qInt ?_
  refine rq (out:=Pr.bool (x2.Code==0)) ai ?_
  rcases bk h with⟨hc19,h⟩|⟨hc19,h⟩
  · refine rqg hc19 (out:=al b3 0) (a3 fld32_0) ?_
    refine rqg hc19 (out:=Pr.i64 x1.Kind) (a7 (R:=rApiNode) (a:=x1) (R':=Rp.int .i64) 0 ty3 gv) ?_
    refine rqg hc19 (out:=Pr.bool (x1.Kind==24)) qInt ?_
    refine rq (out:=Pr.bool (x1.Kind==24)) (bg hc19) ?_
    refine rq (out:=Pr.bool (x1.Kind==24)) ai ?_
    rcases bk h with⟨hc20,h⟩|⟨hc20,h⟩
    · refine rqg hc20 (out:=al b3 1) (a3 fld32_1) ?_
      refine rqg hc20 (out:=ar x1.Text) (a7 (R:=rApiNode) (a:=x1) (R':=bh) 0 ty9 subApiNode_Text) ?_
      refine rqg hc20 (out:=Pr.bool (x1.Text==([43]:List UInt8))) qStr ?_
      refine rq (out:=Pr.bool (x1.Text==([43]:List UInt8))) (bg hc20) ?_
      refine rq (out:=Pr.bool (x1.Text==([43]:List UInt8))) ai ?_
      rcases bk h with⟨hc21,h⟩|⟨hc21,h⟩
      · refine rqg hc21 (out:=al b3 8) (a3 ko) ?_
        refine rqg hc21 (out:=av rApiNode x1.Kids) (a7 (R:=rApiNode) (a:=x1) (R':=ba rApiNode) 0 ty24 cm) ?_
        refine rqg hc21 (out:=Pr.i64 (x1.Kids.length:Int)) (qLenL rfl Tryz.underlying24) ?_
        refine rqg hc21 (out:=Pr.bool ((x1.Kids.length:Int)==2)) qInt ?_
        refine rq (out:=Pr.bool ((x1.Kids.length:Int)==2)) (bg hc21) ?_
        refine rq (out:=Pr.bool ((x1.Kids.length:Int)==2)) ai ?_
        rcases bk h with⟨hc22,h⟩|⟨hc22,h⟩
        · refine rqg hc22 (out:=al b3 8) (a3 ko) ?_
          refine rqg hc22 (out:=av rApiNode x1.Kids) (a7 (R:=rApiNode) (a:=x1) (R':=ba rApiNode) 0 ty24 cm) ?_
          obtain⟨x23,hx23,h⟩:=ak h
          refine rqg hc22 (out:=br rApiNode x23) (qIdxA (R:=rApiNode) (l:=x1.Kids) Tryz.underlying24 Tryz.sizeOf32 hx23) ?_
          refine rqg hc22 (out:=br (Rp.int .i64) x23.Kind) (qFieldC (R:=rApiNode) (a:=x23) fld32_0 gv) ?_
          refine rqg hc22 (out:=Pr.i64 x23.Kind) (gr (R:=Rp.int .i64) (a:=x23.Kind) ty3) ?_
          refine rqg hc22 (out:=Pr.bool (x23.Kind==20)) qInt ?_
          refine rq (out:=Pr.bool (x23.Kind==20)) (bg hc22) ?_
          refine rq (out:=Pr.bool (x23.Kind==20)) ai ?_
          rcases bk h with⟨hc24,h⟩|⟨hc24,h⟩
          · refine rqg hc24 (out:=al b3 8) (a3 ko) ?_
            refine rqg hc24 (out:=av rApiNode x1.Kids) (a7 (R:=rApiNode) (a:=x1) (R':=ba rApiNode) 0 ty24 cm) ?_
            obtain⟨x25,hx25,h⟩:=ak h
            refine rqg hc24 (out:=br rApiNode x25) (qIdxA (R:=rApiNode) (l:=x1.Kids) Tryz.underlying24 Tryz.sizeOf32 hx25) ?_
            refine rqg hc24 (out:=br bh x25.Text) (qFieldC (R:=rApiNode) (a:=x25) fld32_1 subApiNode_Text) ?_
            refine rqg hc24 (out:=ar x25.Text) (gr (R:=bh) (a:=x25.Text) ty9) ?_
            refine rqg hc24 (out:=Pr.bool (x25.Text==([42]:List UInt8))) qStr ?_
            refine rq (out:=Pr.bool (x25.Text==([42]:List UInt8))) (bg hc24) ?_
            refine rq (out:=Pr.bool (x25.Text==([42]:List UInt8))) ai ?_
            rcases bk h with⟨hc26,h⟩|⟨hc26,h⟩
            · refine rqg hc26 (out:=al b7 0) (a3 fld27_0) ?_
              refine rqg hc26 (out:=Pr.i64 x6.Code) (a7 (R:=ah) (a:=x6) (R':=Rp.int .i64) 2 ty25 ct) ?_
              refine rqg hc26 (out:=Pr.bool (x6.Code==120)) qInt ?_
              refine rq (out:=Pr.bool (x6.Code==120)) (bg hc26) ?_
              refine rq (out:=Pr.bool (x6.Code==120)) ai ?_
              rcases bk h with⟨hc27,h⟩|⟨hc27,h⟩
              · refine rqg hc27 (out:=al b7 2) (a3 fld27_2) ?_
                refine rqg hc27 (out:=Pr.i64 x6.At) (a7 (R:=ah) (a:=x6) (R':=Rp.int .i64) 2 ty3 subApiMistake_At) ?_
                refine rqg hc27 (out:=Pr.bool (x6.At==16)) qInt ?_
                refine rq (out:=Pr.bool (x6.At==16)) (bg hc27) ?_
                refine rq (out:=Pr.bool (x6.At==16)) ai ?_
                rcases bk h with⟨hc28,h⟩|⟨hc28,h⟩
                · refine rqg hc28 (out:=al b10 0) (a3 fld27_0) ?_
                  refine rqg hc28 (out:=Pr.i64 x9.Code) (a7 (R:=ah) (a:=x9) (R':=Rp.int .i64) 3 ty25 ct) ?_
                  refine rqg hc28 (out:=Pr.bool (x9.Code==0)) qInt ?_
                  refine rq (out:=Pr.bool (x9.Code==0)) (bg hc28) ?_
                  refine rq (out:=Pr.bool (x9.Code==0)) ai ?_
                  rcases bk h with⟨hc29,h⟩|⟨hc29,h⟩
                  · refine rqg hc29 (out:=av rApiNode x8) ai ?_
                    refine rqg hc29 (out:=Pr.i64 (x8.length:Int)) (qLenL rfl Tryz.underlying24) ?_
                    refine rqg hc29 (out:=Pr.bool ((x8.length:Int)==1)) qInt ?_
                    refine rq (out:=Pr.bool ((x8.length:Int)==1)) (bg hc29) ?_
                    refine rq (out:=Pr.bool ((x8.length:Int)==1)) ai ?_
                    rcases bk h with⟨hc30,h⟩|⟨hc30,h⟩
                    · refine rqg hc30 (out:=al b14 0) (a3 fld27_0) ?_
                      refine rqg hc30 (out:=Pr.i64 x12.Code) (a7 (R:=ah) (a:=x12) (R':=Rp.int .i64) 5 ty25 ct) ?_
                      refine rqg hc30 (out:=Pr.bool (x12.Code==0)) qInt ?_
                      refine rq (out:=Pr.bool (x12.Code==0)) (bg hc30) ?_
                      refine rq (out:=Pr.bool (x12.Code==0)) ai ?_
                      rcases bk h with⟨hc31,h⟩|⟨hc31,h⟩
                      · refine rqg hc31 (out:=al b13 0) (a3 fld32_0) ?_
                        refine rqg hc31 (out:=Pr.i64 x11.Kind) (a7 (R:=rApiNode) (a:=x11) (R':=Rp.int .i64) 4 ty3 gv) ?_
                        refine rqg hc31 (out:=Pr.bool (x11.Kind==7)) qInt ?_
                        refine rq (out:=Pr.bool (x11.Kind==7)) (bg hc31) ?_
                        refine rq (out:=Pr.bool (x11.Kind==7)) ai ?_
                        rcases bk h with⟨hc32,h⟩|⟨hc32,h⟩
                        · refine rqg hc32 (out:=al b18 0) (a3 fld27_0) ?_
                          refine rqg hc32 (out:=Pr.i64 x16.Code) (a7 (R:=ah) (a:=x16) (R':=Rp.int .i64) 7 ty25 ct) ?_
                          refine rqg hc32 (out:=Pr.bool (x16.Code==0)) qInt ?_
                          refine rq (out:=Pr.bool (x16.Code==0)) (bg hc32) ?_
                          refine rq (out:=Pr.bool (x16.Code==0)) ai ?_
                          rcases bk h with⟨hc33,h⟩|⟨hc33,h⟩
                          · refine rqg hc33 (out:=al b17 3) (a3 fld32_3) ?_
                            refine rqg hc33 (out:=Pr.i64 x15.N) (a7 (R:=rApiNode) (a:=x15) (R':=Rp.int .i64) 6 ty2 subApiNode_N) ?_
                            refine rqg hc33 (out:=Pr.bool (x15.N==1)) qInt ?_
                            refine rq (out:=Pr.bool (x15.N==1)) (bg hc33) ?_
                            refine rq (out:=Pr.bool (x15.N==1)) aj ?_
                            exact⟨x15.N==1,h,⟨⟨aa,trivial⟩,Pick.refl _⟩⟩
                          refine rno (neT hc33) ?_
                          refine rno (neT hc33) ?_
                          refine rno (neT hc33) ?_
                          refine rq (out:=Pr.bool false) (ax hc33) ?_
                          refine rq (out:=Pr.bool false) aj ?_
                          exact⟨false,h,⟨⟨aa,trivial⟩,Pick.refl _⟩⟩
                        refine rno (neT hc32) ?_
                        refine rno (neT hc32) ?_
                        refine rno (neT hc32) ?_
                        refine rq (out:=Pr.bool false) (ax hc32) ?_
                        refine rq (out:=Pr.bool false) ai ?_
                        have hc34:false=false:=rfl
                        refine rno (neT hc34) ?_
                        refine rno (neT hc34) ?_
                        refine rno (neT hc34) ?_
                        refine rq (out:=Pr.bool false) (ax hc34) ?_
                        refine rq (out:=Pr.bool false) aj ?_
                        exact⟨false,h,⟨⟨aa,trivial⟩,Pick.refl _⟩⟩
                      refine rno (neT hc31) ?_
                      refine rno (neT hc31) ?_
                      refine rno (neT hc31) ?_
                      refine rq (out:=Pr.bool false) (ax hc31) ?_
                      refine rq (out:=Pr.bool false) ai ?_
                      have hc35:false=false:=rfl
                      refine rno (neT hc35) ?_
                      refine rno (neT hc35) ?_
                      refine rno (neT hc35) ?_
                      refine rq (out:=Pr.bool false) (ax hc35) ?_
                      refine rq (out:=Pr.bool false) ai ?_
                      have hc37:false=false:=rfl
                      refine rno (neT hc37) ?_
                      refine rno (neT hc37) ?_
                      refine rno (neT hc37) ?_
                      refine rq (out:=Pr.bool false) (ax hc37) ?_
                      refine rq (out:=Pr.bool false) aj ?_
                      exact⟨false,h,⟨⟨aa,trivial⟩,Pick.refl _⟩⟩
                    refine rno (neT hc30) ?_
                    refine rno (neT hc30) ?_
                    refine rno (neT hc30) ?_
                    refine rq (out:=Pr.bool false) (ax hc30) ?_
                    refine rq (out:=Pr.bool false) ai ?_
                    have hc38:false=false:=rfl
                    refine rno (neT hc38) ?_
                    refine rno (neT hc38) ?_
                    refine rno (neT hc38) ?_
                    refine rq (out:=Pr.bool false) (ax hc38) ?_
                    refine rq (out:=Pr.bool false) ai ?_
                    have hc42:false=false:=rfl
                    refine rno (neT hc42) ?_
                    refine rno (neT hc42) ?_
                    refine rno (neT hc42) ?_
                    refine rq (out:=Pr.bool false) (ax hc42) ?_
                    refine rq (out:=Pr.bool false) ai ?_
                    have hc44:false=false:=rfl
                    refine rno (neT hc44) ?_
                    refine rno (neT hc44) ?_
                    refine rno (neT hc44) ?_
                    refine rq (out:=Pr.bool false) (ax hc44) ?_
                    refine rq (out:=Pr.bool false) aj ?_
                    exact⟨false,h,⟨⟨aa,trivial⟩,Pick.refl _⟩⟩
                  refine rno (neT hc29) ?_
                  refine rno (neT hc29) ?_
                  refine rno (neT hc29) ?_
                  refine rq (out:=Pr.bool false) (ax hc29) ?_
                  refine rq (out:=Pr.bool false) ai ?_
                  have hc45:false=false:=rfl
                  refine rno (neT hc45) ?_
                  refine rno (neT hc45) ?_
                  refine rno (neT hc45) ?_
                  refine rq (out:=Pr.bool false) (ax hc45) ?_
                  refine rq (out:=Pr.bool false) ai ?_
                  have hc53:false=false:=rfl
                  refine rno (neT hc53) ?_
                  refine rno (neT hc53) ?_
                  refine rno (neT hc53) ?_
                  refine rq (out:=Pr.bool false) (ax hc53) ?_
                  refine rq (out:=Pr.bool false) ai ?_
                  have hc57:false=false:=rfl
                  refine rno (neT hc57) ?_
                  refine rno (neT hc57) ?_
                  refine rno (neT hc57) ?_
                  refine rq (out:=Pr.bool false) (ax hc57) ?_
                  refine rq (out:=Pr.bool false) ai ?_
                  have hc59:false=false:=rfl
                  refine rno (neT hc59) ?_
                  refine rno (neT hc59) ?_
                  refine rno (neT hc59) ?_
                  refine rq (out:=Pr.bool false) (ax hc59) ?_
                  refine rq (out:=Pr.bool false) aj ?_
                  exact⟨false,h,⟨⟨aa,trivial⟩,Pick.refl _⟩⟩
                refine rno (neT hc28) ?_
                refine rno (neT hc28) ?_
                refine rno (neT hc28) ?_
                refine rq (out:=Pr.bool false) (ax hc28) ?_
                refine rq (out:=Pr.bool false) ai ?_
                have hc60:false=false:=rfl
                refine rno (neT hc60) ?_
                refine rno (neT hc60) ?_
                refine rno (neT hc60) ?_
                refine rq (out:=Pr.bool false) (ax hc60) ?_
                refine rq (out:=Pr.bool false) ai ?_
                have hc76:false=false:=rfl
                refine rno (neT hc76) ?_
                refine rno (neT hc76) ?_
                refine rno (neT hc76) ?_
                refine rq (out:=Pr.bool false) (ax hc76) ?_
                refine rq (out:=Pr.bool false) ai ?_
                have hc84:false=false:=rfl
                refine rno (neT hc84) ?_
                refine rno (neT hc84) ?_
                refine rno (neT hc84) ?_
                refine rq (out:=Pr.bool false) (ax hc84) ?_
                refine rq (out:=Pr.bool false) ai ?_
                have hc88:false=false:=rfl
                refine rno (neT hc88) ?_
                refine rno (neT hc88) ?_
                refine rno (neT hc88) ?_
                refine rq (out:=Pr.bool false) (ax hc88) ?_
                refine rq (out:=Pr.bool false) ai ?_
                have hc90:false=false:=rfl
                refine rno (neT hc90) ?_
                refine rno (neT hc90) ?_
                refine rno (neT hc90) ?_
                refine rq (out:=Pr.bool false) (ax hc90) ?_
                refine rq (out:=Pr.bool false) aj ?_
                exact⟨false,h,⟨⟨aa,trivial⟩,Pick.refl _⟩⟩
              refine rno (neT hc27) ?_
              refine rno (neT hc27) ?_
              refine rno (neT hc27) ?_
              refine rq (out:=Pr.bool false) (ax hc27) ?_
              refine rq (out:=Pr.bool false) ai ?_
              have hc91:false=false:=rfl
              refine rno (neT hc91) ?_
              refine rno (neT hc91) ?_
              refine rno (neT hc91) ?_
              refine rq (out:=Pr.bool false) (ax hc91) ?_
              refine rq (out:=Pr.bool false) ai ?_
              have hc123:false=false:=rfl
              refine rno (neT hc123) ?_
              refine rno (neT hc123) ?_
              refine rno (neT hc123) ?_
              refine rq (out:=Pr.bool false) (ax hc123) ?_
              refine rq (out:=Pr.bool false) ai ?_
              have hc139:false=false:=rfl
              refine rno (neT hc139) ?_
              refine rno (neT hc139) ?_
              refine rno (neT hc139) ?_
              refine rq (out:=Pr.bool false) (ax hc139) ?_
              refine rq (out:=Pr.bool false) ai ?_
              have hc147:false=false:=rfl
              refine rno (neT hc147) ?_
              refine rno (neT hc147) ?_
              refine rno (neT hc147) ?_
              refine rq (out:=Pr.bool false) (ax hc147) ?_
              refine rq (out:=Pr.bool false) ai ?_
              have hc151:false=false:=rfl
              refine rno (neT hc151) ?_
              refine rno (neT hc151) ?_
              refine rno (neT hc151) ?_
              refine rq (out:=Pr.bool false) (ax hc151) ?_
              refine rq (out:=Pr.bool false) ai ?_
              have hc153:false=false:=rfl
              refine rno (neT hc153) ?_
              refine rno (neT hc153) ?_
              refine rno (neT hc153) ?_
              refine rq (out:=Pr.bool false) (ax hc153) ?_
              refine rq (out:=Pr.bool false) aj ?_
              exact⟨false,h,⟨⟨aa,trivial⟩,Pick.refl _⟩⟩
            refine rno (neT hc26) ?_
            refine rno (neT hc26) ?_
            refine rno (neT hc26) ?_
            refine rq (out:=Pr.bool false) (ax hc26) ?_
            refine rq (out:=Pr.bool false) ai ?_
            have hc154:false=false:=rfl
            refine rno (neT hc154) ?_
            refine rno (neT hc154) ?_
            refine rno (neT hc154) ?_
            refine rq (out:=Pr.bool false) (ax hc154) ?_
            refine rq (out:=Pr.bool false) ai ?_
            have hc218:false=false:=rfl
            refine rno (neT hc218) ?_
            refine rno (neT hc218) ?_
            refine rno (neT hc218) ?_
            refine rq (out:=Pr.bool false) (ax hc218) ?_
            refine rq (out:=Pr.bool false) ai ?_
            have hc250:false=false:=rfl
            refine rno (neT hc250) ?_
            refine rno (neT hc250) ?_
            refine rno (neT hc250) ?_
            refine rq (out:=Pr.bool false) (ax hc250) ?_
            refine rq (out:=Pr.bool false) ai ?_
            have hc266:false=false:=rfl
            refine rno (neT hc266) ?_
            refine rno (neT hc266) ?_
            refine rno (neT hc266) ?_
            refine rq (out:=Pr.bool false) (ax hc266) ?_
            refine rq (out:=Pr.bool false) ai ?_
            have hc274:false=false:=rfl
            refine rno (neT hc274) ?_
            refine rno (neT hc274) ?_
            refine rno (neT hc274) ?_
            refine rq (out:=Pr.bool false) (ax hc274) ?_
            refine rq (out:=Pr.bool false) ai ?_
            have hc278:false=false:=rfl
            refine rno (neT hc278) ?_
            refine rno (neT hc278) ?_
            refine rno (neT hc278) ?_
            refine rq (out:=Pr.bool false) (ax hc278) ?_
            refine rq (out:=Pr.bool false) ai ?_
            have hc280:false=false:=rfl
            refine rno (neT hc280) ?_
            refine rno (neT hc280) ?_
            refine rno (neT hc280) ?_
            refine rq (out:=Pr.bool false) (ax hc280) ?_
            refine rq (out:=Pr.bool false) aj ?_
            exact⟨false,h,⟨⟨aa,trivial⟩,Pick.refl _⟩⟩
          refine rno (neT hc24) ?_
          refine rno (neT hc24) ?_
          refine rno (neT hc24) ?_
          refine rno (neT hc24) ?_
          refine rno (neT hc24) ?_
          refine rno (neT hc24) ?_
          refine rq (out:=Pr.bool false) (ax hc24) ?_
          refine rq (out:=Pr.bool false) ai ?_
          have hc281:false=false:=rfl
          refine rno (neT hc281) ?_
          refine rno (neT hc281) ?_
          refine rno (neT hc281) ?_
          refine rq (out:=Pr.bool false) (ax hc281) ?_
          refine rq (out:=Pr.bool false) ai ?_
          have hc409:false=false:=rfl
          refine rno (neT hc409) ?_
          refine rno (neT hc409) ?_
          refine rno (neT hc409) ?_
          refine rq (out:=Pr.bool false) (ax hc409) ?_
          refine rq (out:=Pr.bool false) ai ?_
          have hc473:false=false:=rfl
          refine rno (neT hc473) ?_
          refine rno (neT hc473) ?_
          refine rno (neT hc473) ?_
          refine rq (out:=Pr.bool false) (ax hc473) ?_
          refine rq (out:=Pr.bool false) ai ?_
          have hc505:false=false:=rfl
          refine rno (neT hc505) ?_
          refine rno (neT hc505) ?_
          refine rno (neT hc505) ?_
          refine rq (out:=Pr.bool false) (ax hc505) ?_
          refine rq (out:=Pr.bool false) ai ?_
          have hc521:false=false:=rfl
          refine rno (neT hc521) ?_
          refine rno (neT hc521) ?_
          refine rno (neT hc521) ?_
          refine rq (out:=Pr.bool false) (ax hc521) ?_
          refine rq (out:=Pr.bool false) ai ?_
          have hc529:false=false:=rfl
          refine rno (neT hc529) ?_
          refine rno (neT hc529) ?_
          refine rno (neT hc529) ?_
          refine rq (out:=Pr.bool false) (ax hc529) ?_
          refine rq (out:=Pr.bool false) ai ?_
          have hc533:false=false:=rfl
          refine rno (neT hc533) ?_
          refine rno (neT hc533) ?_
          refine rno (neT hc533) ?_
          refine rq (out:=Pr.bool false) (ax hc533) ?_
          refine rq (out:=Pr.bool false) ai ?_
          have hc535:false=false:=rfl
          refine rno (neT hc535) ?_
          refine rno (neT hc535) ?_
          refine rno (neT hc535) ?_
          refine rq (out:=Pr.bool false) (ax hc535) ?_
          refine rq (out:=Pr.bool false) aj ?_
          exact⟨false,h,⟨⟨aa,trivial⟩,Pick.refl _⟩⟩
        refine rno (neT hc22) ?_
        refine rno (neT hc22) ?_
        refine rno (neT hc22) ?_
        refine rno (neT hc22) ?_
        refine rno (neT hc22) ?_
        refine rno (neT hc22) ?_
        refine rq (out:=Pr.bool false) (ax hc22) ?_
        refine rq (out:=Pr.bool false) ai ?_
        have hc536:false=false:=rfl
        refine rno (neT hc536) ?_
        refine rno (neT hc536) ?_
        refine rno (neT hc536) ?_
        refine rno (neT hc536) ?_
        refine rno (neT hc536) ?_
        refine rno (neT hc536) ?_
        refine rq (out:=Pr.bool false) (ax hc536) ?_
        refine rq (out:=Pr.bool false) ai ?_
        have hc793:false=false:=rfl
        refine rno (neT hc793) ?_
        refine rno (neT hc793) ?_
        refine rno (neT hc793) ?_
        refine rq (out:=Pr.bool false) (ax hc793) ?_
        refine rq (out:=Pr.bool false) ai ?_
        have hc921:false=false:=rfl
        refine rno (neT hc921) ?_
        refine rno (neT hc921) ?_
        refine rno (neT hc921) ?_
        refine rq (out:=Pr.bool false) (ax hc921) ?_
        refine rq (out:=Pr.bool false) ai ?_
        have hc985:false=false:=rfl
        refine rno (neT hc985) ?_
        refine rno (neT hc985) ?_
        refine rno (neT hc985) ?_
        refine rq (out:=Pr.bool false) (ax hc985) ?_
        refine rq (out:=Pr.bool false) ai ?_
        have hc1017:false=false:=rfl
        refine rno (neT hc1017) ?_
        refine rno (neT hc1017) ?_
        refine rno (neT hc1017) ?_
        refine rq (out:=Pr.bool false) (ax hc1017) ?_
        refine rq (out:=Pr.bool false) ai ?_
        have hc1033:false=false:=rfl
        refine rno (neT hc1033) ?_
        refine rno (neT hc1033) ?_
        refine rno (neT hc1033) ?_
        refine rq (out:=Pr.bool false) (ax hc1033) ?_
        refine rq (out:=Pr.bool false) ai ?_
        have hc1041:false=false:=rfl
        refine rno (neT hc1041) ?_
        refine rno (neT hc1041) ?_
        refine rno (neT hc1041) ?_
        refine rq (out:=Pr.bool false) (ax hc1041) ?_
        refine rq (out:=Pr.bool false) ai ?_
        have hc1045:false=false:=rfl
        refine rno (neT hc1045) ?_
        refine rno (neT hc1045) ?_
        refine rno (neT hc1045) ?_
        refine rq (out:=Pr.bool false) (ax hc1045) ?_
        refine rq (out:=Pr.bool false) ai ?_
        have hc1047:false=false:=rfl
        refine rno (neT hc1047) ?_
        refine rno (neT hc1047) ?_
        refine rno (neT hc1047) ?_
        refine rq (out:=Pr.bool false) (ax hc1047) ?_
        refine rq (out:=Pr.bool false) aj ?_
        exact⟨false,h,⟨⟨aa,trivial⟩,Pick.refl _⟩⟩
      refine rno (neT hc21) ?_
      refine rno (neT hc21) ?_
      refine rno (neT hc21) ?_
      refine rno (neT hc21) ?_
      refine rq (out:=Pr.bool false) (ax hc21) ?_
      refine rq (out:=Pr.bool false) ai ?_
      have hc1048:false=false:=rfl
      refine rno (neT hc1048) ?_
      refine rno (neT hc1048) ?_
      refine rno (neT hc1048) ?_
      refine rno (neT hc1048) ?_
      refine rno (neT hc1048) ?_
      refine rno (neT hc1048) ?_
      refine rq (out:=Pr.bool false) (ax hc1048) ?_
      refine rq (out:=Pr.bool false) ai ?_
      have hc1562:false=false:=rfl
      refine rno (neT hc1562) ?_
      refine rno (neT hc1562) ?_
      refine rno (neT hc1562) ?_
      refine rno (neT hc1562) ?_
      refine rno (neT hc1562) ?_
      refine rno (neT hc1562) ?_
      refine rq (out:=Pr.bool false) (ax hc1562) ?_
      refine rq (out:=Pr.bool false) ai ?_
      have hc1819:false=false:=rfl
      refine rno (neT hc1819) ?_
      refine rno (neT hc1819) ?_
      refine rno (neT hc1819) ?_
      refine rq (out:=Pr.bool false) (ax hc1819) ?_
      refine rq (out:=Pr.bool false) ai ?_
      have hc1947:false=false:=rfl
      refine rno (neT hc1947) ?_
      refine rno (neT hc1947) ?_
      refine rno (neT hc1947) ?_
      refine rq (out:=Pr.bool false) (ax hc1947) ?_
      refine rq (out:=Pr.bool false) ai ?_
      have hc2011:false=false:=rfl
      refine rno (neT hc2011) ?_
      refine rno (neT hc2011) ?_
      refine rno (neT hc2011) ?_
      refine rq (out:=Pr.bool false) (ax hc2011) ?_
      refine rq (out:=Pr.bool false) ai ?_
      have hc2043:false=false:=rfl
      refine rno (neT hc2043) ?_
      refine rno (neT hc2043) ?_
      refine rno (neT hc2043) ?_
      refine rq (out:=Pr.bool false) (ax hc2043) ?_
      refine rq (out:=Pr.bool false) ai ?_
      have hc2059:false=false:=rfl
      refine rno (neT hc2059) ?_
      refine rno (neT hc2059) ?_
      refine rno (neT hc2059) ?_
      refine rq (out:=Pr.bool false) (ax hc2059) ?_
      refine rq (out:=Pr.bool false) ai ?_
      have hc2067:false=false:=rfl
      refine rno (neT hc2067) ?_
      refine rno (neT hc2067) ?_
      refine rno (neT hc2067) ?_
      refine rq (out:=Pr.bool false) (ax hc2067) ?_
      refine rq (out:=Pr.bool false) ai ?_
      have hc2071:false=false:=rfl
      refine rno (neT hc2071) ?_
      refine rno (neT hc2071) ?_
      refine rno (neT hc2071) ?_
      refine rq (out:=Pr.bool false) (ax hc2071) ?_
      refine rq (out:=Pr.bool false) ai ?_
      have hc2073:false=false:=rfl
      refine rno (neT hc2073) ?_
      refine rno (neT hc2073) ?_
      refine rno (neT hc2073) ?_
      refine rq (out:=Pr.bool false) (ax hc2073) ?_
      refine rq (out:=Pr.bool false) aj ?_
      exact⟨false,h,⟨⟨aa,trivial⟩,Pick.refl _⟩⟩
    refine rno (neT hc20) ?_
    refine rno (neT hc20) ?_
    refine rno (neT hc20) ?_
    refine rq (out:=Pr.bool false) (ax hc20) ?_
    refine rq (out:=Pr.bool false) ai ?_
    have hc2074:false=false:=rfl
    refine rno (neT hc2074) ?_
    refine rno (neT hc2074) ?_
    refine rno (neT hc2074) ?_
    refine rno (neT hc2074) ?_
    refine rq (out:=Pr.bool false) (ax hc2074) ?_
    refine rq (out:=Pr.bool false) ai ?_
    have hc3101:false=false:=rfl
    refine rno (neT hc3101) ?_
    refine rno (neT hc3101) ?_
    refine rno (neT hc3101) ?_
    refine rno (neT hc3101) ?_
    refine rno (neT hc3101) ?_
    refine rno (neT hc3101) ?_
    refine rq (out:=Pr.bool false) (ax hc3101) ?_
    refine rq (out:=Pr.bool false) ai ?_
    have hc3615:false=false:=rfl
    refine rno (neT hc3615) ?_
    refine rno (neT hc3615) ?_
    refine rno (neT hc3615) ?_
    refine rno (neT hc3615) ?_
    refine rno (neT hc3615) ?_
    refine rno (neT hc3615) ?_
    refine rq (out:=Pr.bool false) (ax hc3615) ?_
    refine rq (out:=Pr.bool false) ai ?_
    have hc3872:false=false:=rfl
    refine rno (neT hc3872) ?_
    refine rno (neT hc3872) ?_
    refine rno (neT hc3872) ?_
    refine rq (out:=Pr.bool false) (ax hc3872) ?_
    refine rq (out:=Pr.bool false) ai ?_
    have hc4000:false=false:=rfl
    refine rno (neT hc4000) ?_
    refine rno (neT hc4000) ?_
    refine rno (neT hc4000) ?_
    refine rq (out:=Pr.bool false) (ax hc4000) ?_
    refine rq (out:=Pr.bool false) ai ?_
    have hc4064:false=false:=rfl
    refine rno (neT hc4064) ?_
    refine rno (neT hc4064) ?_
    refine rno (neT hc4064) ?_
    refine rq (out:=Pr.bool false) (ax hc4064) ?_
    refine rq (out:=Pr.bool false) ai ?_
    have hc4096:false=false:=rfl
    refine rno (neT hc4096) ?_
    refine rno (neT hc4096) ?_
    refine rno (neT hc4096) ?_
    refine rq (out:=Pr.bool false) (ax hc4096) ?_
    refine rq (out:=Pr.bool false) ai ?_
    have hc4112:false=false:=rfl
    refine rno (neT hc4112) ?_
    refine rno (neT hc4112) ?_
    refine rno (neT hc4112) ?_
    refine rq (out:=Pr.bool false) (ax hc4112) ?_
    refine rq (out:=Pr.bool false) ai ?_
    have hc4120:false=false:=rfl
    refine rno (neT hc4120) ?_
    refine rno (neT hc4120) ?_
    refine rno (neT hc4120) ?_
    refine rq (out:=Pr.bool false) (ax hc4120) ?_
    refine rq (out:=Pr.bool false) ai ?_
    have hc4124:false=false:=rfl
    refine rno (neT hc4124) ?_
    refine rno (neT hc4124) ?_
    refine rno (neT hc4124) ?_
    refine rq (out:=Pr.bool false) (ax hc4124) ?_
    refine rq (out:=Pr.bool false) ai ?_
    have hc4126:false=false:=rfl
    refine rno (neT hc4126) ?_
    refine rno (neT hc4126) ?_
    refine rno (neT hc4126) ?_
    refine rq (out:=Pr.bool false) (ax hc4126) ?_
    refine rq (out:=Pr.bool false) aj ?_
    exact⟨false,h,⟨⟨aa,trivial⟩,Pick.refl _⟩⟩
  refine rno (neT hc19) ?_
  refine rno (neT hc19) ?_
  refine rno (neT hc19) ?_
  refine rq (out:=Pr.bool false) (ax hc19) ?_
  refine rq (out:=Pr.bool false) ai ?_
  have hc4127:false=false:=rfl
  refine rno (neT hc4127) ?_
  refine rno (neT hc4127) ?_
  refine rno (neT hc4127) ?_
  refine rq (out:=Pr.bool false) (ax hc4127) ?_
  refine rq (out:=Pr.bool false) ai ?_
  have hc6181:false=false:=rfl
  refine rno (neT hc6181) ?_
  refine rno (neT hc6181) ?_
  refine rno (neT hc6181) ?_
  refine rno (neT hc6181) ?_
  refine rq (out:=Pr.bool false) (ax hc6181) ?_
  refine rq (out:=Pr.bool false) ai ?_
  have hc7208:false=false:=rfl
  refine rno (neT hc7208) ?_
  refine rno (neT hc7208) ?_
  refine rno (neT hc7208) ?_
  refine rno (neT hc7208) ?_
  refine rno (neT hc7208) ?_
  refine rno (neT hc7208) ?_
  refine rq (out:=Pr.bool false) (ax hc7208) ?_
  refine rq (out:=Pr.bool false) ai ?_
  have hc7722:false=false:=rfl
  refine rno (neT hc7722) ?_
  refine rno (neT hc7722) ?_
  refine rno (neT hc7722) ?_
  refine rno (neT hc7722) ?_
  refine rno (neT hc7722) ?_
  refine rno (neT hc7722) ?_
  refine rq (out:=Pr.bool false) (ax hc7722) ?_
  refine rq (out:=Pr.bool false) ai ?_
  have hc7979:false=false:=rfl
  refine rno (neT hc7979) ?_
  refine rno (neT hc7979) ?_
  refine rno (neT hc7979) ?_
  refine rq (out:=Pr.bool false) (ax hc7979) ?_
  refine rq (out:=Pr.bool false) ai ?_
  have hc8107:false=false:=rfl
  refine rno (neT hc8107) ?_
  refine rno (neT hc8107) ?_
  refine rno (neT hc8107) ?_
  refine rq (out:=Pr.bool false) (ax hc8107) ?_
  refine rq (out:=Pr.bool false) ai ?_
  have hc8171:false=false:=rfl
  refine rno (neT hc8171) ?_
  refine rno (neT hc8171) ?_
  refine rno (neT hc8171) ?_
  refine rq (out:=Pr.bool false) (ax hc8171) ?_
  refine rq (out:=Pr.bool false) ai ?_
  have hc8203:false=false:=rfl
  refine rno (neT hc8203) ?_
  refine rno (neT hc8203) ?_
  refine rno (neT hc8203) ?_
  refine rq (out:=Pr.bool false) (ax hc8203) ?_
  refine rq (out:=Pr.bool false) ai ?_
  have hc8219:false=false:=rfl
  refine rno (neT hc8219) ?_
  refine rno (neT hc8219) ?_
  refine rno (neT hc8219) ?_
  refine rq (out:=Pr.bool false) (ax hc8219) ?_
  refine rq (out:=Pr.bool false) ai ?_
  have hc8227:false=false:=rfl
  refine rno (neT hc8227) ?_
  refine rno (neT hc8227) ?_
  refine rno (neT hc8227) ?_
  refine rq (out:=Pr.bool false) (ax hc8227) ?_
  refine rq (out:=Pr.bool false) ai ?_
  have hc8231:false=false:=rfl
  refine rno (neT hc8231) ?_
  refine rno (neT hc8231) ?_
  refine rno (neT hc8231) ?_
  refine rq (out:=Pr.bool false) (ax hc8231) ?_
  refine rq (out:=Pr.bool false) ai ?_
  have hc8233:false=false:=rfl
  refine rno (neT hc8233) ?_
  refine rno (neT hc8233) ?_
  refine rno (neT hc8233) ?_
  refine rq (out:=Pr.bool false) (ax hc8233) ?_
  refine rq (out:=Pr.bool false) aj ?_
  exact⟨false,h,⟨⟨aa,trivial⟩,Pick.refl _⟩⟩
end Go.Proofs.YtackaijkmkollaaGreatDoor
