/- The code comes to what these functions say (printed by wip/gen/gen.py). -/
import Derived.Test.YtackaijkmkollaaGreatDoorZP1
import Derived.Test.YtackaijkmkollaaGreatDoorZT
set_option linter.unusedSimpArgs false
set_option linter.unusedVariables false
set_option linter.unusedSectionVars false
set_option linter.unusedSectionVars false
set_option maxRecDepth 100000
set_option maxHeartbeats 4000000
namespace Go.Proofs.YtackaijkmkollaaGreatDoor
open Go Go.Cn
variable [Known]
def cw (R:am):Prop:=(∀(x1:Int) (x2:Int) (x4:ParseParser) (b3:Nat) (r:PX ParseWrong (ApiNode × ParseParser)),R.1 x1 x2 x4=some r->FnX Tryz.prog 33 [al b3 0,Pr.i64 x1,Pr.i64 x2] [Own.box b3 ae x4] (fun q C'=>∃a9,r= .ok a9/\q=(rApiNode).val a9.1/\C'=[Own.box b3 ae a9.2]) (fun v=>∃m,r= .bad m/\v=cv m))/\(∀(x1:Int) (x3:ParseParser) (b2:Nat) (r:PX ParseWrong (ApiNode × ParseParser)),R.2.1 x1 x3=some r->FnX Tryz.prog 54 [al b2 0,Pr.i64 x1] [Own.box b2 ae x3] (fun q C'=>∃a9,r= .ok a9/\q=(rApiNode).val a9.1/\C'=[Own.box b2 ae a9.2]) (fun v=>∃m,r= .bad m/\v=cv m))/\(∀(x1:Int) (x3:ParseParser) (b2:Nat) (r:PX ParseWrong (ApiNode × ParseParser)),R.2.2.1 x1 x3=some r->FnX Tryz.prog 65 [al b2 0,Pr.i64 x1] [Own.box b2 ae x3] (fun q C'=>∃a9,r= .ok a9/\q=(rApiNode).val a9.1/\C'=[Own.box b2 ae a9.2]) (fun v=>∃m,r= .bad m/\v=cv m))/\(∀(x1:Int) (x3:ParseParser) (b2:Nat) (r:PX ParseWrong ((List ApiNode) × ParseParser)),R.2.2.2 x1 x3=some r->FnX Tryz.prog 66 [al b2 0,Pr.i64 x1] [Own.box b2 ae x3] (fun q C'=>∃a9,r= .ok a9/\q=av rApiNode a9.1/\C'=[Own.box b2 ae a9.2]) (fun v=>∃m,r= .bad m/\v=cv m))
theorem F_parse_parser_expression_step (R:am) (ih:cw R) (x1 x2:Int) (x4:ParseParser) (b3:Nat) (r:PX ParseWrong (ApiNode × ParseParser)) (h:dm R x1 x2 x4=some r):FnX Tryz.prog 33 [al b3 0,Pr.i64 x1,Pr.i64 x2] [Own.box b3 ae x4] (fun q C'=>∃a9,r= .ok a9/\q=(rApiNode).val a9.1/\C'=[Own.box b3 ae a9.2]) (fun v=>∃m,r= .bad m/\v=cv m):=by
 refine d4 (n:=41) (rs:=[.cell 6 32]) Tryz.func33 rfl Tryz.ntmps33 Tryz.results33 (by decide) (fun s0=> ?_)
 unfold dm at h
 refine W_rs ?_
 refine bi (R:=rApiNode) (z:=(ApiNode.mk 0 [] [] 0 0 0 0 0 [])) Tryz.zeroValue32 (fun _=>(by rw[ap];exact⟨_,⟨_,_,rfl,rfl,⟨_,_,rfl,rfl,⟨_,_,rfl,rfl,⟨_,_,rfl,rfl,⟨_,_,rfl,rfl,⟨_,_,rfl,rfl,⟨_,_,rfl,rfl,⟨_,_,rfl,rfl,⟨_,_,rfl,⟨_,rfl,none,0,rfl,⟨Nat.le_refl _,fun _=>rfl⟩,.inl rfl⟩,rfl⟩⟩⟩⟩⟩⟩⟩⟩⟩,rfl⟩)) (fun b5=> ?_)
 refine W_rs ?_
 refine rq (out:=al b3 0) ai ?_
 refine rq (out:=al b3 0) qNilP ?_
 refine rq (out:=al b3 1) (a3 fld65_1) ?_
 refine rq (out:=Pr.i64 x4.at_) (a7 (R:=ae) (a:=x4) (R':=Rp.int .i64) 0 ty3 subParseParser_at) ?_
 refine rq (out:=Pr.i64 x4.at_) aj ?_
 refine W_rs ?_
 refine rq (out:=al b3 0) ai ?_
 refine rq (out:=Pr.i64 x1) ai ?_
 rcases aq h with⟨m24,hm24,h⟩|⟨⟨x6,x7⟩,hx6,h⟩
 ·refine az [0] (ih.2.1 x1 x4 b3 _ hm24) ⟨aa,aa,trivial⟩ (fun q C' hq=> ?_) (fun v9 hv=> ?_)
  ·obtain⟨_,h9,_⟩:=hq;cases h9
  obtain⟨_,h9,rfl⟩:=hv
  cases h9
  obtain rfl:=Option.some.inj h
  exact .inr ⟨_,rfl,_,rfl,rfl⟩
 refine az [0] (ih.2.1 x1 x4 b3 _ hx6) ⟨aa,aa,trivial⟩ (fun q C' hq=> ?_) (fun v9 hv=>by obtain⟨_,h9,_⟩:=hv;cases h9)
 obtain⟨_,h9,rfl,rfl⟩:=hq
 cases h9
 refine rCtx [Own.box b3 ae x7,Own.box b5 rApiNode (ApiNode.mk 0 [] [] 0 0 0 0 0 [])] ?_
 refine bi (R:=rApiNode) (z:=(ApiNode.mk 0 [] [] 0 0 0 0 0 [])) Tryz.zeroValue32 (fun _=>(by rw[ap];exact⟨_,⟨_,_,rfl,rfl,⟨_,_,rfl,rfl,⟨_,_,rfl,rfl,⟨_,_,rfl,rfl,⟨_,_,rfl,rfl,⟨_,_,rfl,rfl,⟨_,_,rfl,rfl,⟨_,_,rfl,rfl,⟨_,_,rfl,⟨_,rfl,none,0,rfl,⟨Nat.le_refl _,fun _=>rfl⟩,.inl rfl⟩,rfl⟩⟩⟩⟩⟩⟩⟩⟩⟩,rfl⟩)) (fun b8=> ?_)
 refine a5 (R:=rApiNode) (R':=rApiNode) (a:=(ApiNode.mk 0 [] [] 0 0 0 0 0 [])) (y:=x6) 2 Tryz.sizeOf32 (Upd.refl _) ?_
 refine bu ?_
 obtain⟨n1,hN1⟩:=dv h
 refine k8 (fun m e C=>∃(x9:ParseParser),∃(x10:ApiNode),i1 (fun s=>d8 R x2 x1 x4 s.1 s.2) m (x9,x10)=some r/\At [(0,al b3 0),(1,Pr.i64 x1),(2,Pr.i64 x2),(6,al b5 0),(7,Pr.i64 x4.at_),(8,al b8 0)] [Own.box b3 ae x9,Own.box b5 rApiNode (ApiNode.mk 0 [] [] 0 0 0 0 0 []),Own.box b8 rApiNode x10] e C) n1 ⟨x7,x6,hN1,⟨⟨aa,aa,aa,aa,aa,aa,trivial⟩,Pick.refl _⟩⟩ ?_
 clear hN1
 rintro m e C ⟨x9,x10,hN1,hatl1⟩
 refine W_at hatl1 ?_
 clear hatl1
 obtain⟨m1,w1l,rfl,h1l,hn1,ho1⟩:=dp hN1
 clear hN1
 replace h1l:d8 R x2 x1 x4 x9 x10=some w1l:=h1l
 unfold d8 at h1l
 refine bu ?_
 refine W_rs ?_
 refine rq (out:=al b3 0) ai ?_
 obtain⟨x13,hx13,h1l⟩:=ak h1l
 refine rq (out:=(af).val x13) (qCallBx 0 (cc x9 _ hx13) ⟨.inr ⟨aa,rfl⟩,trivial⟩ (fun _ _ _ h=>Flat.val gk _ _ _ _ h)) ?_
 obtain⟨x14,hx14,h1l⟩:=ak h1l
 refine rq (out:=Pr.i64 x14) (dt (parse_binds_ok x13 _ hx14)) ?_
 refine rq (out:=Pr.i64 x14) aj ?_
 refine c0 ?_
 refine W_rs ?_
 refine rq (out:=Pr.i64 x14) ai ?_
 refine rq (out:=Pr.i64 x2) ai ?_
 refine rq (out:=Pr.bool (decide (x14<=x2))) qInt ?_
 refine a8 (b:=decide (x14<=x2)) rfl (fun hc15=> ?_) (fun hc15=> ?_)
 ·replace h1l:=iteT hc15 h1l
  refine W_rs ?_
  refine rq (out:=(rApiNode).val x10) (a7 (R:=rApiNode) (a:=x10) (R':=rApiNode) 2 ty32 (Sub.refl _)) ?_
  refine a5 (R:=rApiNode) (R':=rApiNode) (a:=(ApiNode.mk 0 [] [] 0 0 0 0 0 [])) (y:=x10) 1 Tryz.sizeOf32 (Upd.refl _) ?_
  have h:some (.ok (x10,x9))=some r:=congrArg some (ho1 _ (Option.some.inj h1l).symm)
  obtain rfl:=Option.some.inj h
  exact bp (.inl ⟨.inl rfl,[(rApiNode).val x10],⟨yBox 1 ty32 aa,trivial⟩,_,Pick.of [0] rfl,_,rfl,rfl,rfl⟩)
 replace h1l:=iteF hc15 h1l
 refine bj ?_
 refine W_rs ?_
 refine rq (out:=al b3 0) ai ?_
 obtain⟨⟨x16,x17⟩,hx16,h1l⟩:=ak h1l
 refine i7 [0] (d9 x9 b3 _ hx16) (fun q C' hq=> ?_)
 obtain⟨rfl,rfl⟩:=hq
 refine rCtx [Own.box b3 ae x17,Own.box b5 rApiNode (ApiNode.mk 0 [] [] 0 0 0 0 0 []),Own.box b8 rApiNode x10] ?_
 refine bi (R:=af) (z:=(ApiToken.mk 0 [] 0 [])) Tryz.zeroValue37 (fun _=>⟨_,⟨_,_,rfl,rfl,⟨_,_,rfl,rfl,⟨_,_,rfl,rfl,⟨_,_,rfl,rfl,rfl⟩⟩⟩⟩,rfl⟩) (fun b18=> ?_)
 refine a5 (R:=af) (R':=af) (a:=(ApiToken.mk 0 [] 0 [])) (y:=x16) 3 Tryz.sizeOf37 (Upd.refl _) ?_
 refine W_rs ?_
 refine rq (out:=al b3 0) ai ?_
 refine rq (out:=Pr.i64 x1) ai ?_
 refine rq (out:=Pr.i64 x14) ai ?_
 rcases aq h1l with⟨m23,hm23,h1l⟩|⟨⟨x19,x20⟩,hx19,h1l⟩
 ·refine az [0] (ih.1 x1 x14 x17 b3 _ hm23) ⟨aa,aa,aa,trivial⟩ (fun q C' hq=> ?_) (fun v9 hv=> ?_)
  ·obtain⟨_,h9,_⟩:=hq;cases h9
  obtain⟨_,h9,rfl⟩:=hv
  cases h9
  have h:some (.bad m23)=some r:=congrArg some (ho1 _ (Option.some.inj h1l).symm)
  obtain rfl:=Option.some.inj h
  exact .inr ⟨_,rfl,_,rfl,rfl⟩
 refine az [0] (ih.1 x1 x14 x17 b3 _ hx19) ⟨aa,aa,aa,trivial⟩ (fun q C' hq=> ?_) (fun v9 hv=>by obtain⟨_,h9,_⟩:=hv;cases h9)
 obtain⟨_,h9,rfl,rfl⟩:=hq
 cases h9
 refine rCtx [Own.box b3 ae x20,Own.box b5 rApiNode (ApiNode.mk 0 [] [] 0 0 0 0 0 []),Own.box b8 rApiNode x10,Own.box b18 af x16] ?_
 refine bi (R:=rApiNode) (z:=(ApiNode.mk 0 [] [] 0 0 0 0 0 [])) Tryz.zeroValue32 (fun _=>(by rw[ap];exact⟨_,⟨_,_,rfl,rfl,⟨_,_,rfl,rfl,⟨_,_,rfl,rfl,⟨_,_,rfl,rfl,⟨_,_,rfl,rfl,⟨_,_,rfl,rfl,⟨_,_,rfl,rfl,⟨_,_,rfl,rfl,⟨_,_,rfl,⟨_,rfl,none,0,rfl,⟨Nat.le_refl _,fun _=>rfl⟩,.inl rfl⟩,rfl⟩⟩⟩⟩⟩⟩⟩⟩⟩,rfl⟩)) (fun b21=> ?_)
 refine a5 (R:=rApiNode) (R':=rApiNode) (a:=(ApiNode.mk 0 [] [] 0 0 0 0 0 [])) (y:=x19) 4 Tryz.sizeOf32 (Upd.refl _) ?_
 refine W_rs ?_
 refine rq (out:=al b3 0) ai ?_
 refine rq (out:=Pr.i64 x4.at_) ai ?_
 refine rq (out:=(rApiNode).val x10) (a7 (R:=rApiNode) (a:=x10) (R':=rApiNode) 2 ty32 (Sub.refl _)) ?_
 refine rq (out:=(rApiNode).val x19) (a7 (R:=rApiNode) (a:=x19) (R':=rApiNode) 4 ty32 (Sub.refl _)) ?_
 refine rq (out:=av rApiNode ([x10,x19]:List ApiNode)) (qBuildSlice (R:=rApiNode) (ls:=([x10,x19]:List ApiNode)) el24 (Nat.le_of_ble_eq_true rfl) ⟨rfl,rfl⟩ ⟨rfl,rfl,trivial⟩) ?_
 obtain⟨x22,hx22,h1l⟩:=ak h1l
 refine rq (out:=(rApiNode).val x22) (qMade 0 hx22 aa) ?_
 refine a5 (R:=rApiNode) (R':=rApiNode) (a:=x10) (y:=x22) 2 Tryz.sizeOf32 (Upd.refl _) ?_
 refine W_r ?_
 refine rq (out:=al b18 1) (a3 fld37_1) ?_
 refine rq (out:=ar x16.Text) (a7 (R:=af) (a:=x16) (R':=bh) 3 ty9 subApiToken_Text) ?_
 refine rq (out:=al b8 1) (a3 fld32_1) ?_
 refine a5 (R:=rApiNode) (R':=bh) (a:=x22) (y:=x16.Text) 2 Tryz.sizeOf9 updApiNode_Text ?_
 exact⟨m1,Nat.lt_succ_self _,x20,{x22 with Text:=x16.Text},hn1 _ (Option.some.inj h1l).symm,⟨⟨aa,aa,aa,aa,aa,aa,trivial⟩,Pick.of [0,1,2] rfl⟩⟩
theorem F_parse_parser_unary_step (R:am) (ih:cw R) (x1:Int) (x3:ParseParser) (b2:Nat) (r:PX ParseWrong (ApiNode × ParseParser)) (h:fb R x1 x3=some r):FnX Tryz.prog 54 [al b2 0,Pr.i64 x1] [Own.box b2 ae x3] (fun q C'=>∃a9,r= .ok a9/\q=(rApiNode).val a9.1/\C'=[Own.box b2 ae a9.2]) (fun v=>∃m,r= .bad m/\v=cv m):=by
 refine d4 (n:=69) (rs:=[.cell 4 32]) Tryz.func54 rfl Tryz.ntmps54 Tryz.results54 (by decide) (fun s0=> ?_)
 unfold fb at h
 refine W_rs ?_
 refine bi (R:=rApiNode) (z:=(ApiNode.mk 0 [] [] 0 0 0 0 0 [])) Tryz.zeroValue32 (fun _=>(by rw[ap];exact⟨_,⟨_,_,rfl,rfl,⟨_,_,rfl,rfl,⟨_,_,rfl,rfl,⟨_,_,rfl,rfl,⟨_,_,rfl,rfl,⟨_,_,rfl,rfl,⟨_,_,rfl,rfl,⟨_,_,rfl,rfl,⟨_,_,rfl,⟨_,rfl,none,0,rfl,⟨Nat.le_refl _,fun _=>rfl⟩,.inl rfl⟩,rfl⟩⟩⟩⟩⟩⟩⟩⟩⟩,rfl⟩)) (fun b4=> ?_)
 refine W_rs ?_
 refine rq (out:=al b2 0) ai ?_
 refine rq (out:=Pr.i64 x1) ai ?_
 rcases aq h with⟨m49,hm49,h⟩|⟨x5,hx5,h⟩
 ·refine az [0] (eu x1 x3 b2 _ hm49) ⟨aa,aa,trivial⟩ (fun q C' hq=> ?_) (fun v9 hv=> ?_)
  ·obtain⟨_,h9,_⟩:=hq;cases h9
  obtain⟨_,h9,rfl⟩:=hv
  cases h9
  obtain rfl:=Option.some.inj h
  exact .inr ⟨_,rfl,_,rfl,rfl⟩
 refine az [0] (eu x1 x3 b2 _ hx5) ⟨aa,aa,trivial⟩ (fun q C' hq=> ?_) (fun v9 hv=>by obtain⟨_,h9,_⟩:=hv;cases h9)
 obtain⟨_,h9,rfl,rfl⟩:=hq
 cases h9
 refine rCtx [Own.box b2 ae x5,Own.box b4 rApiNode (ApiNode.mk 0 [] [] 0 0 0 0 0 [])] ?_
 refine W_rs ?_
 refine rq (out:=al b2 0) ai ?_
 refine rq (out:=al b2 0) qNilP ?_
 refine rq (out:=al b2 1) (a3 fld65_1) ?_
 refine rq (out:=Pr.i64 x5.at_) (a7 (R:=ae) (a:=x5) (R':=Rp.int .i64) 0 ty3 subParseParser_at) ?_
 refine rq (out:=Pr.i64 x5.at_) aj ?_
 refine c0 ?_
 refine bu ?_
 refine W_rs ?_
 refine rq (out:=al b2 0) ai ?_
 obtain⟨⟨x6,x7⟩,hx6,h⟩:=ak h
 refine i7 [0] (a6 ([33]:List UInt8) x5 b2 _ hx6) (fun q C' hq=> ?_)
 obtain⟨rfl,rfl⟩:=hq
 refine rCtx [Own.box b2 ae x7,Own.box b4 rApiNode (ApiNode.mk 0 [] [] 0 0 0 0 0 [])] ?_
 refine rq (out:=Pr.bool x6) aj ?_
 refine a8 (b:=x6) rfl (fun hc8=> ?_) (fun hc8=> ?_)
 ·replace h:=iteT hc8 h
  refine W_rs ?_
  refine rq (out:=al b2 0) ai ?_
  refine rq (out:=Pr.i64 x1) ai ?_
  refine rq (out:=Pr.i64 (w64 (x1+1))) qInt ?_
  rcases aq h with⟨m13,hm13,h⟩|⟨⟨x9,x10⟩,hx9,h⟩
  ·refine az [0] (ih.2.1 (w64 (x1+1)) x7 b2 _ hm13) ⟨aa,aa,trivial⟩ (fun q C' hq=> ?_) (fun v9 hv=> ?_)
   ·obtain⟨_,h9,_⟩:=hq;cases h9
   obtain⟨_,h9,rfl⟩:=hv
   cases h9
   obtain rfl:=Option.some.inj h
   exact .inr ⟨_,rfl,_,rfl,rfl⟩
  refine az [0] (ih.2.1 (w64 (x1+1)) x7 b2 _ hx9) ⟨aa,aa,trivial⟩ (fun q C' hq=> ?_) (fun v9 hv=>by obtain⟨_,h9,_⟩:=hv;cases h9)
  obtain⟨_,h9,rfl,rfl⟩:=hq
  cases h9
  refine rCtx [Own.box b2 ae x10,Own.box b4 rApiNode (ApiNode.mk 0 [] [] 0 0 0 0 0 [])] ?_
  refine bi (R:=rApiNode) (z:=(ApiNode.mk 0 [] [] 0 0 0 0 0 [])) Tryz.zeroValue32 (fun _=>(by rw[ap];exact⟨_,⟨_,_,rfl,rfl,⟨_,_,rfl,rfl,⟨_,_,rfl,rfl,⟨_,_,rfl,rfl,⟨_,_,rfl,rfl,⟨_,_,rfl,rfl,⟨_,_,rfl,rfl,⟨_,_,rfl,rfl,⟨_,_,rfl,⟨_,rfl,none,0,rfl,⟨Nat.le_refl _,fun _=>rfl⟩,.inl rfl⟩,rfl⟩⟩⟩⟩⟩⟩⟩⟩⟩,rfl⟩)) (fun b11=> ?_)
  refine a5 (R:=rApiNode) (R':=rApiNode) (a:=(ApiNode.mk 0 [] [] 0 0 0 0 0 [])) (y:=x9) 2 Tryz.sizeOf32 (Upd.refl _) ?_
  refine W_rs ?_
  refine rq (out:=al b2 0) ai ?_
  refine rq (out:=Pr.i64 x5.at_) ai ?_
  refine rq (out:=(rApiNode).val x9) (a7 (R:=rApiNode) (a:=x9) (R':=rApiNode) 2 ty32 (Sub.refl _)) ?_
  refine rq (out:=av rApiNode ([x9]:List ApiNode)) (cn (R:=rApiNode) (a:=x9) el24 (Nat.le_of_ble_eq_true rfl)) ?_
  obtain⟨x12,hx12,h⟩:=ak h
  refine rq (out:=(rApiNode).val x12) (qMade 0 hx12 aa) ?_
  refine a5 (R:=rApiNode) (R':=rApiNode) (a:=(ApiNode.mk 0 [] [] 0 0 0 0 0 [])) (y:=x12) 1 Tryz.sizeOf32 (Upd.refl _) ?_
  obtain rfl:=Option.some.inj h
  exact bp (.inl ⟨.inl rfl,[(rApiNode).val x12],⟨yBox 1 ty32 aa,trivial⟩,_,Pick.of [0] rfl,_,rfl,rfl,rfl⟩)
 replace h:=iteF hc8 h
 refine W_rs ?_
 refine rq (out:=al b2 0) ai ?_
 obtain⟨⟨x14,x15⟩,hx14,h⟩:=ak h
 refine i7 [0] (a6 ([45]:List UInt8) x7 b2 _ hx14) (fun q C' hq=> ?_)
 obtain⟨rfl,rfl⟩:=hq
 refine rCtx [Own.box b2 ae x15,Own.box b4 rApiNode (ApiNode.mk 0 [] [] 0 0 0 0 0 [])] ?_
 refine rq (out:=Pr.bool x14) aj ?_
 refine a8 (b:=x14) rfl (fun hc16=> ?_) (fun hc16=> ?_)
 ·replace h:=iteT hc16 h
  refine W_rs ?_
  refine rq (out:=al b2 0) ai ?_
  refine rq (out:=Pr.i64 x1) ai ?_
  refine rq (out:=Pr.i64 (w64 (x1+1))) qInt ?_
  rcases aq h with⟨m21,hm21,h⟩|⟨⟨x17,x18⟩,hx17,h⟩
  ·refine az [0] (ih.2.1 (w64 (x1+1)) x15 b2 _ hm21) ⟨aa,aa,trivial⟩ (fun q C' hq=> ?_) (fun v9 hv=> ?_)
   ·obtain⟨_,h9,_⟩:=hq;cases h9
   obtain⟨_,h9,rfl⟩:=hv
   cases h9
   obtain rfl:=Option.some.inj h
   exact .inr ⟨_,rfl,_,rfl,rfl⟩
  refine az [0] (ih.2.1 (w64 (x1+1)) x15 b2 _ hx17) ⟨aa,aa,trivial⟩ (fun q C' hq=> ?_) (fun v9 hv=>by obtain⟨_,h9,_⟩:=hv;cases h9)
  obtain⟨_,h9,rfl,rfl⟩:=hq
  cases h9
  refine rCtx [Own.box b2 ae x18,Own.box b4 rApiNode (ApiNode.mk 0 [] [] 0 0 0 0 0 [])] ?_
  refine bi (R:=rApiNode) (z:=(ApiNode.mk 0 [] [] 0 0 0 0 0 [])) Tryz.zeroValue32 (fun _=>(by rw[ap];exact⟨_,⟨_,_,rfl,rfl,⟨_,_,rfl,rfl,⟨_,_,rfl,rfl,⟨_,_,rfl,rfl,⟨_,_,rfl,rfl,⟨_,_,rfl,rfl,⟨_,_,rfl,rfl,⟨_,_,rfl,rfl,⟨_,_,rfl,⟨_,rfl,none,0,rfl,⟨Nat.le_refl _,fun _=>rfl⟩,.inl rfl⟩,rfl⟩⟩⟩⟩⟩⟩⟩⟩⟩,rfl⟩)) (fun b19=> ?_)
  refine a5 (R:=rApiNode) (R':=rApiNode) (a:=(ApiNode.mk 0 [] [] 0 0 0 0 0 [])) (y:=x17) 2 Tryz.sizeOf32 (Upd.refl _) ?_
  refine W_rs ?_
  refine rq (out:=al b2 0) ai ?_
  refine rq (out:=Pr.i64 x5.at_) ai ?_
  refine rq (out:=(rApiNode).val x17) (a7 (R:=rApiNode) (a:=x17) (R':=rApiNode) 2 ty32 (Sub.refl _)) ?_
  refine rq (out:=av rApiNode ([x17]:List ApiNode)) (cn (R:=rApiNode) (a:=x17) el24 (Nat.le_of_ble_eq_true rfl)) ?_
  obtain⟨x20,hx20,h⟩:=ak h
  refine rq (out:=(rApiNode).val x20) (qMade 0 hx20 aa) ?_
  refine a5 (R:=rApiNode) (R':=rApiNode) (a:=(ApiNode.mk 0 [] [] 0 0 0 0 0 [])) (y:=x20) 1 Tryz.sizeOf32 (Upd.refl _) ?_
  obtain rfl:=Option.some.inj h
  exact bp (.inl ⟨.inl rfl,[(rApiNode).val x20],⟨yBox 1 ty32 aa,trivial⟩,_,Pick.of [0] rfl,_,rfl,rfl,rfl⟩)
 replace h:=iteF hc16 h
 refine bj ?_
 refine W_rs ?_
 refine rq (out:=al b2 0) ai ?_
 refine rq (out:=Pr.i64 x1) ai ?_
 refine rq (out:=Pr.i64 (w64 (x1+1))) qInt ?_
 rcases aq h with⟨m48,hm48,h⟩|⟨⟨x22,x23⟩,hx22,h⟩
 ·refine az [0] (ih.2.2.1 (w64 (x1+1)) x15 b2 _ hm48) ⟨aa,aa,trivial⟩ (fun q C' hq=> ?_) (fun v9 hv=> ?_)
  ·obtain⟨_,h9,_⟩:=hq;cases h9
  obtain⟨_,h9,rfl⟩:=hv
  cases h9
  obtain rfl:=Option.some.inj h
  exact .inr ⟨_,rfl,_,rfl,rfl⟩
 refine az [0] (ih.2.2.1 (w64 (x1+1)) x15 b2 _ hx22) ⟨aa,aa,trivial⟩ (fun q C' hq=> ?_) (fun v9 hv=>by obtain⟨_,h9,_⟩:=hv;cases h9)
 obtain⟨_,h9,rfl,rfl⟩:=hq
 cases h9
 refine rCtx [Own.box b2 ae x23,Own.box b4 rApiNode (ApiNode.mk 0 [] [] 0 0 0 0 0 [])] ?_
 refine bi (R:=rApiNode) (z:=(ApiNode.mk 0 [] [] 0 0 0 0 0 [])) Tryz.zeroValue32 (fun _=>(by rw[ap];exact⟨_,⟨_,_,rfl,rfl,⟨_,_,rfl,rfl,⟨_,_,rfl,rfl,⟨_,_,rfl,rfl,⟨_,_,rfl,rfl,⟨_,_,rfl,rfl,⟨_,_,rfl,rfl,⟨_,_,rfl,rfl,⟨_,_,rfl,⟨_,rfl,none,0,rfl,⟨Nat.le_refl _,fun _=>rfl⟩,.inl rfl⟩,rfl⟩⟩⟩⟩⟩⟩⟩⟩⟩,rfl⟩)) (fun b24=> ?_)
 refine a5 (R:=rApiNode) (R':=rApiNode) (a:=(ApiNode.mk 0 [] [] 0 0 0 0 0 [])) (y:=x22) 2 Tryz.sizeOf32 (Upd.refl _) ?_
 refine c0 ?_
 refine bu ?_
 obtain⟨z2l,hz2,h⟩:=ak h
 obtain⟨n2,hN2⟩:=dv hz2
 clear hz2
 refine kp 1 (fun e C=>∃(x30:ParseParser),∃(x26:ApiNode),kb R x30 x26=some r/\At [(0,al b2 0),(4,al b4 0),(8,al b24 0)] [Own.box b2 ae x30,Own.box b4 rApiNode (ApiNode.mk 0 [] [] 0 0 0 0 0 []),Own.box b24 rApiNode x26] e C) ?_ ?_
 ·rintro e C ⟨x30,x26,h,hat1⟩
  refine W_at hat1 ?_
  clear hat1
  unfold kb at h
  refine W_rs ?_
  refine rq (out:=(rApiNode).val x26) (a7 (R:=rApiNode) (a:=x26) (R':=rApiNode) 2 ty32 (Sub.refl _)) ?_
  refine a5 (R:=rApiNode) (R':=rApiNode) (a:=(ApiNode.mk 0 [] [] 0 0 0 0 0 [])) (y:=x26) 1 Tryz.sizeOf32 (Upd.refl _) ?_
  obtain rfl:=Option.some.inj h
  exact bp (.inl ⟨.inl rfl,[(rApiNode).val x26],⟨yBox 1 ty32 aa,trivial⟩,_,Pick.of [0] rfl,_,rfl,rfl,rfl⟩)
 refine k8 (fun m e C=>∃(x25:ParseParser),∃(x26:ApiNode),i1 (fun s=>fv R x1 x5 s.1 s.2) m (x25,x26)=some z2l/\At [(0,al b2 0),(1,Pr.i64 x1),(4,al b4 0),(5,Pr.i64 x5.at_),(8,al b24 0)] [Own.box b2 ae x25,Own.box b4 rApiNode (ApiNode.mk 0 [] [] 0 0 0 0 0 []),Own.box b24 rApiNode x26] e C) n2 ⟨x23,x22,hN2,⟨⟨aa,aa,aa,aa,aa,trivial⟩,Pick.refl _⟩⟩ ?_
 clear hN2
 rintro m e C ⟨x25,x26,hN2,hatl2⟩
 refine W_at hatl2 ?_
 clear hatl2
 obtain⟨m2,w2l,rfl,h2l,hn2,ho2⟩:=dp hN2
 clear hN2
 replace h2l:fv R x1 x5 x25 x26=some w2l:=h2l
 unfold fv at h2l
 refine c0 ?_
 refine W_rs ?_
 refine rq (out:=al b2 0) ai ?_
 obtain⟨⟨x29,x30⟩,hx29,h2l⟩:=ak h2l
 refine i7 [0] (a6 ([46]:List UInt8) x25 b2 _ hx29) (fun q C' hq=> ?_)
 obtain⟨rfl,rfl⟩:=hq
 refine rCtx [Own.box b2 ae x30,Own.box b4 rApiNode (ApiNode.mk 0 [] [] 0 0 0 0 0 []),Own.box b24 rApiNode x26] ?_
 refine a8 (b:=x29) rfl (fun hc31=> ?_) (fun hc31=> ?_)
 ·replace h2l:=iteT hc31 h2l
  refine bj ?_
  refine bu ?_
  refine W_rs ?_
  refine rq (out:=al b2 0) ai ?_
  rcases aq h2l with⟨m47,hm47,h2l⟩|⟨⟨x32,x33⟩,hx32,h2l⟩
  ·refine az [0] (bl x30 b2 _ hm47) ⟨aa,trivial⟩ (fun q C' hq=> ?_) (fun v9 hv=> ?_)
   ·obtain⟨_,h9,_⟩:=hq;cases h9
   obtain⟨_,h9,rfl⟩:=hv
   cases h9
   obtain rfl:=ho2 _ (Option.some.inj h2l).symm
   replace h:some (.bad m47)=some r:=h
   obtain rfl:=Option.some.inj h
   exact .inr ⟨_,rfl,_,rfl,rfl⟩
  refine az [0] (bl x30 b2 _ hx32) ⟨aa,trivial⟩ (fun q C' hq=> ?_) (fun v9 hv=>by obtain⟨_,h9,_⟩:=hv;cases h9)
  obtain⟨_,h9,rfl,rfl⟩:=hq
  cases h9
  refine rCtx [Own.box b2 ae x33,Own.box b4 rApiNode (ApiNode.mk 0 [] [] 0 0 0 0 0 []),Own.box b24 rApiNode x26] ?_
  refine bi (R:=af) (z:=(ApiToken.mk 0 [] 0 [])) Tryz.zeroValue37 (fun _=>⟨_,⟨_,_,rfl,rfl,⟨_,_,rfl,rfl,⟨_,_,rfl,rfl,⟨_,_,rfl,rfl,rfl⟩⟩⟩⟩,rfl⟩) (fun b34=> ?_)
  refine a5 (R:=af) (R':=af) (a:=(ApiToken.mk 0 [] 0 [])) (y:=x32) 3 Tryz.sizeOf37 (Upd.refl _) ?_
  refine cd (fun e C=>iu R x33 x1 x26 x5 x32=some w2l/\At [(0,al b2 0),(1,Pr.i64 x1),(4,al b4 0),(5,Pr.i64 x5.at_),(8,al b24 0),(9,al b34 0),(10,Pr.i64 18),(11,Pr.vx rApiNode ([x26]:List ApiNode))] [Own.box b2 ae x33,Own.box b4 rApiNode (ApiNode.mk 0 [] [] 0 0 0 0 0 []),Own.box b24 rApiNode x26,Own.box b34 af x32] e C) ?_ ?_
  ·rintro e C ⟨h2l,hat4⟩
   refine W_at hat4 ?_
   clear hat4
   unfold iu at h2l
   refine cd (fun e C=>∃(x42:Int),∃(x43:List ApiNode),∃(x44:ParseParser),fw R x5 x32 x42 x43 x44=some w2l/\At [(0,al b2 0),(1,Pr.i64 x1),(4,al b4 0),(5,Pr.i64 x5.at_),(8,al b24 0),(9,al b34 0),(10,Pr.i64 x42),(11,av rApiNode x43)] [Own.box b2 ae x44,Own.box b4 rApiNode (ApiNode.mk 0 [] [] 0 0 0 0 0 []),Own.box b24 rApiNode x26,Own.box b34 af x32] e C) ?_ ?_
   ·rintro e C ⟨x42,x43,x44,h2l,hat3⟩
    refine W_at hat3 ?_
    clear hat3
    unfold fw at h2l
    refine W_draw 7 hmx (by kernel_rfl) (by kernel_rfl) ?_
    refine qq (out:=al b2 0) ai ?_
    refine qq (out:=Pr.i64 x42) ai ?_
    refine qq (out:=Pr.i64 x5.at_) ai ?_
    refine qq (out:=av rApiNode x43) ai ?_
    obtain⟨x45,hx45,h2l⟩:=ak h2l
    refine qq (out:=(rApiNode).val x45) (qMade 0 hx45 aa) ?_
    refine qq (out:=(af).val x32) (a7 (R:=af) (a:=x32) (R':=af) 3 ty37 (Sub.refl _)) ?_
    obtain⟨x46,hx46,h2l⟩:=ak h2l
    refine qq (out:=(rApiNode).val x46) (dt (gl x45 x32 _ hx46)) ?_
    refine a5 (R:=rApiNode) (R':=rApiNode) (a:=x26) (y:=x46) 2 Tryz.sizeOf32 (Upd.refl _) ?_
    exact⟨m2,Nat.lt_succ_self _,x44,x46,hn2 _ (Option.some.inj h2l).symm,⟨⟨aa,aa,aa,aa,aa,trivial⟩,Pick.of [0,1,2] rfl⟩⟩
   refine W_rs ?_
   refine rq (out:=al b2 0) ai ?_
   obtain⟨⟨x35,x36⟩,hx35,h2l⟩:=ak h2l
   refine i7 [0] (a6 ([40]:List UInt8) x33 b2 _ hx35) (fun q C' hq=> ?_)
   obtain⟨rfl,rfl⟩:=hq
   refine rCtx [Own.box b2 ae x36,Own.box b4 rApiNode (ApiNode.mk 0 [] [] 0 0 0 0 0 []),Own.box b24 rApiNode x26,Own.box b34 af x32] ?_
   refine a8 (b:=x35) rfl (fun hc37=> ?_) (fun hc37=> ?_)
   ·replace h2l:=iteT hc37 h2l
    refine W_r ?_
    refine rq (out:=Pr.vx rApiNode ([x26]:List ApiNode)) ai ?_
    refine rq (out:=al b2 0) ai ?_
    refine rq (out:=Pr.i64 x1) ai ?_
    refine rq (out:=Pr.i64 (w64 (x1+1))) qInt ?_
    rcases aq h2l with⟨m41,hm41,h2l⟩|⟨⟨x38,x39⟩,hx38,h2l⟩
    ·refine az [0] (ih.2.2.2 (w64 (x1+1)) x36 b2 _ hm41) ⟨aa,aa,trivial⟩ (fun q C' hq=> ?_) (fun v9 hv=> ?_)
     ·obtain⟨_,h9,_⟩:=hq;cases h9
     obtain⟨_,h9,rfl⟩:=hv
     cases h9
     obtain rfl:=ho2 _ (Option.some.inj h2l).symm
     replace h:some (.bad m41)=some r:=h
     obtain rfl:=Option.some.inj h
     exact .inr ⟨_,rfl,_,rfl,rfl⟩
    refine az [0] (ih.2.2.2 (w64 (x1+1)) x36 b2 _ hx38) ⟨aa,aa,trivial⟩ (fun q C' hq=> ?_) (fun v9 hv=>by obtain⟨_,h9,_⟩:=hv;cases h9)
    obtain⟨_,h9,rfl,rfl⟩:=hq
    cases h9
    refine rCtx [Own.box b2 ae x39,Own.box b4 rApiNode (ApiNode.mk 0 [] [] 0 0 0 0 0 []),Own.box b24 rApiNode x26,Own.box b34 af x32] ?_
    obtain⟨x40,hx40,h2l⟩:=ak h2l
    refine rq (out:=av rApiNode x40) (qAppVX (R:=rApiNode) (l:=([x26]:List ApiNode)) (m:=x38) el24 hx40) ?_
    refine rq (out:=Pr.i64 20) aj ?_
    refine rq (out:=av rApiNode x40) aj ?_
    exact⟨20,x40,x39,h2l,⟨⟨aa,aa,aa,aa,aa,aa,aa,aa,trivial⟩,Pick.refl _⟩⟩
   replace h2l:=iteF hc37 h2l
   refine bj ?_
   exact⟨18,([x26]:List ApiNode),x36,h2l,⟨⟨aa,aa,aa,aa,aa,aa,aa,vx_lst,trivial⟩,Pick.refl _⟩⟩
  refine W_draw 4 hmx (by kernel_rfl) (by kernel_rfl) ?_
  refine qq (out:=(rApiNode).val x26) (a7 (R:=rApiNode) (a:=x26) (R':=rApiNode) 2 ty32 (Sub.refl _)) ?_
  refine qq (out:=Pr.vx rApiNode ([x26]:List ApiNode)) (qBuildVX (R:=rApiNode) (ls:=([x26]:List ApiNode)) el24 (Nat.le_of_ble_eq_true rfl) ⟨rfl,rfl⟩ ⟨rfl,trivial⟩) ?_
  refine qq (out:=Pr.i64 18) aj ?_
  refine qq (out:=Pr.vx rApiNode ([x26]:List ApiNode)) aj ?_
  exact⟨h2l,⟨⟨aa,aa,aa,aa,aa,aa,aa,aa,trivial⟩,Pick.refl _⟩⟩
 replace h2l:=iteF hc31 h2l
 refine jn ?_
 obtain rfl:=ho2 _ (Option.some.inj h2l).symm
 exact⟨x30,x26,h,⟨⟨aa,aa,aa,trivial⟩,Pick.refl _⟩⟩
theorem F_parse_parser_primary_step (R:am) (ih:cw R) (x1:Int) (x3:ParseParser) (b2:Nat) (r:PX ParseWrong (ApiNode × ParseParser)) (h:eh R x1 x3=some r):FnX Tryz.prog 65 [al b2 0,Pr.i64 x1] [Own.box b2 ae x3] (fun q C'=>∃a9,r= .ok a9/\q=(rApiNode).val a9.1/\C'=[Own.box b2 ae a9.2]) (fun v=>∃m,r= .bad m/\v=cv m):=by
 refine d4 (n:=105) (rs:=[.cell 4 32]) Tryz.func65 rfl Tryz.ntmps65 Tryz.results65 (by decide) (fun s0=> ?_)
 unfold eh at h
 refine W_rs ?_
 refine bi (R:=rApiNode) (z:=(ApiNode.mk 0 [] [] 0 0 0 0 0 [])) Tryz.zeroValue32 (fun _=>(by rw[ap];exact⟨_,⟨_,_,rfl,rfl,⟨_,_,rfl,rfl,⟨_,_,rfl,rfl,⟨_,_,rfl,rfl,⟨_,_,rfl,rfl,⟨_,_,rfl,rfl,⟨_,_,rfl,rfl,⟨_,_,rfl,rfl,⟨_,_,rfl,⟨_,rfl,none,0,rfl,⟨Nat.le_refl _,fun _=>rfl⟩,.inl rfl⟩,rfl⟩⟩⟩⟩⟩⟩⟩⟩⟩,rfl⟩)) (fun b4=> ?_)
 refine W_rs ?_
 refine rq (out:=al b2 0) ai ?_
 refine rq (out:=al b2 0) qNilP ?_
 refine rq (out:=al b2 1) (a3 fld65_1) ?_
 refine rq (out:=Pr.i64 x3.at_) (a7 (R:=ae) (a:=x3) (R':=Rp.int .i64) 0 ty3 subParseParser_at) ?_
 refine rq (out:=Pr.i64 x3.at_) aj ?_
 refine W_rs ?_
 refine rq (out:=al b2 0) ai ?_
 obtain⟨x5,hx5,h⟩:=ak h
 refine rq (out:=(af).val x5) (qCallBx 0 (cc x3 _ hx5) ⟨.inr ⟨aa,rfl⟩,trivial⟩ (fun _ _ _ h=>Flat.val gk _ _ _ _ h)) ?_
 refine bi (R:=af) (z:=(ApiToken.mk 0 [] 0 [])) Tryz.zeroValue37 (fun _=>⟨_,⟨_,_,rfl,rfl,⟨_,_,rfl,rfl,⟨_,_,rfl,rfl,⟨_,_,rfl,rfl,rfl⟩⟩⟩⟩,rfl⟩) (fun b6=> ?_)
 refine a5 (R:=af) (R':=af) (a:=(ApiToken.mk 0 [] 0 [])) (y:=x5) 2 Tryz.sizeOf37 (Upd.refl _) ?_
 refine cd (fun e C=>dg R x3 x1=some r/\At [(0,al b2 0),(1,Pr.i64 x1),(4,al b4 0),(5,Pr.i64 x3.at_)] [Own.box b2 ae x3,Own.box b4 rApiNode (ApiNode.mk 0 [] [] 0 0 0 0 0 []),Own.box b6 af x5] e C) ?_ ?_
 ·rintro e C ⟨h,hat2⟩
  refine W_at hat2 ?_
  clear hat2
  unfold dg at h
  refine c0 ?_
  refine bu ?_
  refine W_rs ?_
  refine rq (out:=al b2 0) ai ?_
  obtain⟨⟨x35,x36⟩,hx35,h⟩:=ak h
  refine i7 [0] (a6 ([110,101,119]:List UInt8) x3 b2 _ hx35) (fun q C' hq=> ?_)
  obtain⟨rfl,rfl⟩:=hq
  refine rCtx [Own.box b2 ae x36,Own.box b4 rApiNode (ApiNode.mk 0 [] [] 0 0 0 0 0 []),Own.box b6 af x5] ?_
  refine rq (out:=Pr.bool x35) aj ?_
  refine a8 (b:=x35) rfl (fun hc37=> ?_) (fun hc37=> ?_)
  ·replace h:=iteT hc37 h
   refine W_rs ?_
   refine rq (out:=al b2 0) ai ?_
   rcases aq h with⟨m47,hm47,h⟩|⟨⟨x38,x39⟩,hx38,h⟩
   ·refine az [0] (bl x36 b2 _ hm47) ⟨aa,trivial⟩ (fun q C' hq=> ?_) (fun v9 hv=> ?_)
    ·obtain⟨_,h9,_⟩:=hq;cases h9
    obtain⟨_,h9,rfl⟩:=hv
    cases h9
    obtain rfl:=Option.some.inj h
    exact .inr ⟨_,rfl,_,rfl,rfl⟩
   refine az [0] (bl x36 b2 _ hx38) ⟨aa,trivial⟩ (fun q C' hq=> ?_) (fun v9 hv=>by obtain⟨_,h9,_⟩:=hv;cases h9)
   obtain⟨_,h9,rfl,rfl⟩:=hq
   cases h9
   refine rCtx [Own.box b2 ae x39,Own.box b4 rApiNode (ApiNode.mk 0 [] [] 0 0 0 0 0 []),Own.box b6 af x5] ?_
   refine bi (R:=af) (z:=(ApiToken.mk 0 [] 0 [])) Tryz.zeroValue37 (fun _=>⟨_,⟨_,_,rfl,rfl,⟨_,_,rfl,rfl,⟨_,_,rfl,rfl,⟨_,_,rfl,rfl,rfl⟩⟩⟩⟩,rfl⟩) (fun b40=> ?_)
   refine a5 (R:=af) (R':=af) (a:=(ApiToken.mk 0 [] 0 [])) (y:=x38) 3 Tryz.sizeOf37 (Upd.refl _) ?_
   refine W_rs ?_
   refine rq (out:=al b2 0) ai ?_
   rcases aq h with⟨m46,hm46,h⟩|⟨x41,hx41,h⟩
   ·refine az [0] (ao ([40]:List UInt8) x39 b2 _ hm46) ⟨aa,aa,trivial⟩ (fun q C' hq=> ?_) (fun v9 hv=> ?_)
    ·obtain⟨_,h9,_⟩:=hq;cases h9
    obtain⟨_,h9,rfl⟩:=hv
    cases h9
    obtain rfl:=Option.some.inj h
    exact .inr ⟨_,rfl,_,rfl,rfl⟩
   refine az [0] (ao ([40]:List UInt8) x39 b2 _ hx41) ⟨aa,aa,trivial⟩ (fun q C' hq=> ?_) (fun v9 hv=>by obtain⟨_,h9,_⟩:=hv;cases h9)
   obtain⟨_,h9,rfl,rfl⟩:=hq
   cases h9
   refine rCtx [Own.box b2 ae x41,Own.box b4 rApiNode (ApiNode.mk 0 [] [] 0 0 0 0 0 []),Own.box b6 af x5,Own.box b40 af x38] ?_
   refine W_rs ?_
   refine rq (out:=al b2 0) ai ?_
   rcases aq h with⟨m45,hm45,h⟩|⟨x42,hx42,h⟩
   ·refine az [0] (ao ([41]:List UInt8) x41 b2 _ hm45) ⟨aa,aa,trivial⟩ (fun q C' hq=> ?_) (fun v9 hv=> ?_)
    ·obtain⟨_,h9,_⟩:=hq;cases h9
    obtain⟨_,h9,rfl⟩:=hv
    cases h9
    obtain rfl:=Option.some.inj h
    exact .inr ⟨_,rfl,_,rfl,rfl⟩
   refine az [0] (ao ([41]:List UInt8) x41 b2 _ hx42) ⟨aa,aa,trivial⟩ (fun q C' hq=> ?_) (fun v9 hv=>by obtain⟨_,h9,_⟩:=hv;cases h9)
   obtain⟨_,h9,rfl,rfl⟩:=hq
   cases h9
   refine rCtx [Own.box b2 ae x42,Own.box b4 rApiNode (ApiNode.mk 0 [] [] 0 0 0 0 0 []),Own.box b6 af x5,Own.box b40 af x38] ?_
   refine cd (fun e C=>∃(x44:ApiNode),gh R x42 x44=some r/\At [(0,al b2 0),(4,al b4 0)] [Own.box b2 ae x42,Own.box b4 rApiNode x44,Own.box b6 af x5,Own.box b40 af x38] e C) ?_ ?_
   ·rintro e C ⟨x44,h,hat1⟩
    refine W_at hat1 ?_
    clear hat1
    unfold gh at h
    obtain rfl:=Option.some.inj h
    exact bp (.inl ⟨.inl rfl,[(rApiNode).val x44],⟨yBox 1 ty32 aa,trivial⟩,_,Pick.of [0] rfl,_,rfl,rfl,rfl⟩)
   refine W_draw 5 hmx (by kernel_rfl) (by kernel_rfl) ?_
   refine qq (out:=al b2 0) ai ?_
   refine qq (out:=Pr.i64 x3.at_) ai ?_
   obtain⟨x43,hx43,h⟩:=ak h
   refine qq (out:=(rApiNode).val x43) (qMade 0 hx43 (f2 _)) ?_
   refine qq (out:=(af).val x38) (a7 (R:=af) (a:=x38) (R':=af) 3 ty37 (Sub.refl _)) ?_
   obtain⟨x44,hx44,h⟩:=ak h
   refine qq (out:=(rApiNode).val x44) (dt (gl x43 x38 _ hx44)) ?_
   refine a5 (R:=rApiNode) (R':=rApiNode) (a:=(ApiNode.mk 0 [] [] 0 0 0 0 0 [])) (y:=x44) 1 Tryz.sizeOf32 (Upd.refl _) ?_
   exact⟨x44,h,⟨⟨aa,aa,trivial⟩,Pick.refl _⟩⟩
  replace h:=iteF hc37 h
  refine W_rs ?_
  refine rq (out:=al b2 0) ai ?_
  obtain⟨⟨x48,x49⟩,hx48,h⟩:=ak h
  refine i7 [0] (a6 ([40]:List UInt8) x36 b2 _ hx48) (fun q C' hq=> ?_)
  obtain⟨rfl,rfl⟩:=hq
  refine rCtx [Own.box b2 ae x49,Own.box b4 rApiNode (ApiNode.mk 0 [] [] 0 0 0 0 0 []),Own.box b6 af x5] ?_
  refine rq (out:=Pr.bool x48) aj ?_
  refine a8 (b:=x48) rfl (fun hc50=> ?_) (fun hc50=> ?_)
  ·replace h:=iteT hc50 h
   refine W_rs ?_
   refine rq (out:=al b2 0) ai ?_
   refine rq (out:=Pr.i64 x1) ai ?_
   rcases aq h with⟨m56,hm56,h⟩|⟨⟨x51,x52⟩,hx51,h⟩
   ·refine az [0] (ih.1 x1 0 x49 b2 _ hm56) ⟨aa,aa,aa,trivial⟩ (fun q C' hq=> ?_) (fun v9 hv=> ?_)
    ·obtain⟨_,h9,_⟩:=hq;cases h9
    obtain⟨_,h9,rfl⟩:=hv
    cases h9
    obtain rfl:=Option.some.inj h
    exact .inr ⟨_,rfl,_,rfl,rfl⟩
   refine az [0] (ih.1 x1 0 x49 b2 _ hx51) ⟨aa,aa,aa,trivial⟩ (fun q C' hq=> ?_) (fun v9 hv=>by obtain⟨_,h9,_⟩:=hv;cases h9)
   obtain⟨_,h9,rfl,rfl⟩:=hq
   cases h9
   refine rCtx [Own.box b2 ae x52,Own.box b4 rApiNode (ApiNode.mk 0 [] [] 0 0 0 0 0 []),Own.box b6 af x5] ?_
   refine bi (R:=rApiNode) (z:=(ApiNode.mk 0 [] [] 0 0 0 0 0 [])) Tryz.zeroValue32 (fun _=>(by rw[ap];exact⟨_,⟨_,_,rfl,rfl,⟨_,_,rfl,rfl,⟨_,_,rfl,rfl,⟨_,_,rfl,rfl,⟨_,_,rfl,rfl,⟨_,_,rfl,rfl,⟨_,_,rfl,rfl,⟨_,_,rfl,rfl,⟨_,_,rfl,⟨_,rfl,none,0,rfl,⟨Nat.le_refl _,fun _=>rfl⟩,.inl rfl⟩,rfl⟩⟩⟩⟩⟩⟩⟩⟩⟩,rfl⟩)) (fun b53=> ?_)
   refine a5 (R:=rApiNode) (R':=rApiNode) (a:=(ApiNode.mk 0 [] [] 0 0 0 0 0 [])) (y:=x51) 3 Tryz.sizeOf32 (Upd.refl _) ?_
   refine W_rs ?_
   refine rq (out:=al b2 0) ai ?_
   rcases aq h with⟨m55,hm55,h⟩|⟨x54,hx54,h⟩
   ·refine az [0] (ao ([41]:List UInt8) x52 b2 _ hm55) ⟨aa,aa,trivial⟩ (fun q C' hq=> ?_) (fun v9 hv=> ?_)
    ·obtain⟨_,h9,_⟩:=hq;cases h9
    obtain⟨_,h9,rfl⟩:=hv
    cases h9
    obtain rfl:=Option.some.inj h
    exact .inr ⟨_,rfl,_,rfl,rfl⟩
   refine az [0] (ao ([41]:List UInt8) x52 b2 _ hx54) ⟨aa,aa,trivial⟩ (fun q C' hq=> ?_) (fun v9 hv=>by obtain⟨_,h9,_⟩:=hv;cases h9)
   obtain⟨_,h9,rfl,rfl⟩:=hq
   cases h9
   refine rCtx [Own.box b2 ae x54,Own.box b4 rApiNode (ApiNode.mk 0 [] [] 0 0 0 0 0 []),Own.box b6 af x5,Own.box b53 rApiNode x51] ?_
   refine W_rs ?_
   refine rq (out:=(rApiNode).val x51) (a7 (R:=rApiNode) (a:=x51) (R':=rApiNode) 3 ty32 (Sub.refl _)) ?_
   refine a5 (R:=rApiNode) (R':=rApiNode) (a:=(ApiNode.mk 0 [] [] 0 0 0 0 0 [])) (y:=x51) 1 Tryz.sizeOf32 (Upd.refl _) ?_
   obtain rfl:=Option.some.inj h
   exact bp (.inl ⟨.inl rfl,[(rApiNode).val x51],⟨yBox 1 ty32 aa,trivial⟩,_,Pick.of [0] rfl,_,rfl,rfl,rfl⟩)
  replace h:=iteF hc50 h
  refine bj ?_
  refine W_rs ?_
  refine rq (out:=al b2 0) ai ?_
  rcases aq h with⟨m58,hm58,h⟩|⟨x57,hx57,h⟩
  ·refine az [0] (bd 120 x49 b2 _ hm58) ⟨aa,aa,trivial⟩ (fun q C' hq=> ?_) (fun v9 hv=> ?_)
   ·obtain⟨_,h9,_⟩:=hq;cases h9
   obtain⟨_,h9,rfl⟩:=hv
   cases h9
   obtain rfl:=Option.some.inj h
   exact .inr ⟨_,rfl,_,rfl,rfl⟩
  refine az [0] (bd 120 x49 b2 _ hx57) ⟨aa,aa,trivial⟩ (fun q C' hq=> ?_) (fun v9 hv=>by obtain⟨_,h9,_⟩:=hv;cases h9)
  obtain⟨_,h9,rfl,rfl⟩:=hq
  cases h9
  refine rCtx [Own.box b2 ae x57,Own.box b4 rApiNode (ApiNode.mk 0 [] [] 0 0 0 0 0 []),Own.box b6 af x5] ?_
  refine W_rs ?_
  refine rq (out:=(rApiNode).val (ApiNode.mk 0 [] [] 0 0 0 0 0 [])) (qBuildR ap st32 rfl) ?_
  refine a5 (R:=rApiNode) (R':=rApiNode) (a:=(ApiNode.mk 0 [] [] 0 0 0 0 0 [])) (y:=(ApiNode.mk 0 [] [] 0 0 0 0 0 [])) 1 Tryz.sizeOf32 (Upd.refl _) ?_
  obtain rfl:=Option.some.inj h
  exact bp (.inl ⟨.inl rfl,[(rApiNode).val (ApiNode.mk 0 [] [] 0 0 0 0 0 [])],⟨yBox 1 ty32 aa,trivial⟩,_,Pick.of [0] rfl,_,rfl,rfl,rfl⟩)
 refine W_rs ?_
 refine rq (out:=al b6 0) (a3 fld37_0) ?_
 refine rq (out:=Pr.i64 x5.Kind) (a7 (R:=af) (a:=x5) (R':=Rp.int .i64) 2 ty3 di) ?_
 refine bu ?_
 refine W_rs ?_
 refine rq (out:=Pr.bool (x5.Kind==2)) qInt ?_
 refine rq (out:=Pr.bool (x5.Kind==2)) aj ?_
 refine a8 (b:=x5.Kind==2) rfl (fun hc7=> ?_) (fun hc7=> ?_)
 ·replace h:=iteT hc7 h
  refine W_rs ?_
  refine rq (out:=al b2 0) ai ?_
  obtain⟨⟨x8,x9⟩,hx8,h⟩:=ak h
  refine i7 [0] (d9 x3 b2 _ hx8) (fun q C' hq=> ?_)
  obtain⟨rfl,rfl⟩:=hq
  refine rCtx [Own.box b2 ae x9,Own.box b4 rApiNode (ApiNode.mk 0 [] [] 0 0 0 0 0 []),Own.box b6 af x5] ?_
  refine W_rs ?_
  refine rq (out:=al b2 0) ai ?_
  refine rq (out:=Pr.i64 x3.at_) ai ?_
  obtain⟨x10,hx10,h⟩:=ak h
  refine rq (out:=(rApiNode).val x10) (qMade 0 hx10 (f2 _)) ?_
  refine bi (R:=rApiNode) (z:=(ApiNode.mk 0 [] [] 0 0 0 0 0 [])) Tryz.zeroValue32 (fun _=>(by rw[ap];exact⟨_,⟨_,_,rfl,rfl,⟨_,_,rfl,rfl,⟨_,_,rfl,rfl,⟨_,_,rfl,rfl,⟨_,_,rfl,rfl,⟨_,_,rfl,rfl,⟨_,_,rfl,rfl,⟨_,_,rfl,rfl,⟨_,_,rfl,⟨_,rfl,none,0,rfl,⟨Nat.le_refl _,fun _=>rfl⟩,.inl rfl⟩,rfl⟩⟩⟩⟩⟩⟩⟩⟩⟩,rfl⟩)) (fun b11=> ?_)
  refine a5 (R:=rApiNode) (R':=rApiNode) (a:=(ApiNode.mk 0 [] [] 0 0 0 0 0 [])) (y:=x10) 3 Tryz.sizeOf32 (Upd.refl _) ?_
  refine W_rs ?_
  refine rq (out:=al b6 1) (a3 fld37_1) ?_
  refine rq (out:=ar x5.Text) (a7 (R:=af) (a:=x5) (R':=bh) 2 ty9 subApiToken_Text) ?_
  obtain⟨⟨x12,x13⟩,hx12,h⟩:=ak h
  refine rq (out:=cj [Pr.i64 x12,Pr.err x13]) (dt (strconv_ParseInt_ok x5.Text 10 64 _ hx12)) ?_
  refine rq (out:=cj [Pr.i64 x12,Pr.err x13]) ai ?_
  refine rq (out:=Pr.i64 x12) bo ?_
  refine rq (out:=Pr.err x13) bo ?_
  refine rq (out:=al b11 3) (a3 fld32_3) ?_
  refine a5 (R:=rApiNode) (R':=Rp.int .i64) (a:=x10) (y:=x12) 3 Tryz.sizeOf2 updApiNode_N ?_
  refine W_rs ?_
  refine rq (out:=(rApiNode).val ({x10 with N:=x12})) (a7 (R:=rApiNode) (a:={x10 with N:=x12}) (R':=rApiNode) 3 ty32 (Sub.refl _)) ?_
  refine a5 (R:=rApiNode) (R':=rApiNode) (a:=(ApiNode.mk 0 [] [] 0 0 0 0 0 [])) (y:={x10 with N:=x12}) 1 Tryz.sizeOf32 (Upd.refl _) ?_
  obtain rfl:=Option.some.inj h
  exact bp (.inl ⟨.inl rfl,[(rApiNode).val ({x10 with N:=x12})],⟨yBox 1 ty32 aa,trivial⟩,_,Pick.of [0] rfl,_,rfl,rfl,rfl⟩)
 replace h:=iteF hc7 h
 refine W_rs ?_
 refine rq (out:=Pr.bool (x5.Kind==1)) qInt ?_
 refine rq (out:=Pr.bool (x5.Kind==1)) aj ?_
 refine a8 (b:=x5.Kind==1) rfl (fun hc14=> ?_) (fun hc14=> ?_)
 ·replace h:=iteT hc14 h
  refine W_rs ?_
  refine rq (out:=al b2 0) ai ?_
  obtain⟨⟨x15,x16⟩,hx15,h⟩:=ak h
  refine i7 [0] (d9 x3 b2 _ hx15) (fun q C' hq=> ?_)
  obtain⟨rfl,rfl⟩:=hq
  refine rCtx [Own.box b2 ae x16,Own.box b4 rApiNode (ApiNode.mk 0 [] [] 0 0 0 0 0 []),Own.box b6 af x5] ?_
  refine c0 ?_
  refine W_rs ?_
  refine rq (out:=al b2 0) ai ?_
  obtain⟨⟨x17,x18⟩,hx17,h⟩:=ak h
  refine i7 [0] (a6 ([40]:List UInt8) x16 b2 _ hx17) (fun q C' hq=> ?_)
  obtain⟨rfl,rfl⟩:=hq
  refine rCtx [Own.box b2 ae x18,Own.box b4 rApiNode (ApiNode.mk 0 [] [] 0 0 0 0 0 []),Own.box b6 af x5] ?_
  refine rq (out:=Pr.bool (!x17)) qNot ?_
  refine a8 (b:= !x17) rfl (fun hc19=> ?_) (fun hc19=> ?_)
  ·replace h:=iteT hc19 h
   refine cd (fun e C=>∃(x21:ApiNode),gg R x18 x21=some r/\At [(0,al b2 0),(4,al b4 0)] [Own.box b2 ae x18,Own.box b4 rApiNode x21,Own.box b6 af x5] e C) ?_ ?_
   ·rintro e C ⟨x21,h,hat3⟩
    refine W_at hat3 ?_
    clear hat3
    unfold gg at h
    obtain rfl:=Option.some.inj h
    exact bp (.inl ⟨.inl rfl,[(rApiNode).val x21],⟨yBox 1 ty32 aa,trivial⟩,_,Pick.of [0] rfl,_,rfl,rfl,rfl⟩)
   refine W_draw 5 hmx (by kernel_rfl) (by kernel_rfl) ?_
   refine qq (out:=al b2 0) ai ?_
   refine qq (out:=Pr.i64 x3.at_) ai ?_
   obtain⟨x20,hx20,h⟩:=ak h
   refine qq (out:=(rApiNode).val x20) (qMade 0 hx20 (f2 _)) ?_
   refine qq (out:=(af).val x5) (a7 (R:=af) (a:=x5) (R':=af) 2 ty37 (Sub.refl _)) ?_
   obtain⟨x21,hx21,h⟩:=ak h
   refine qq (out:=(rApiNode).val x21) (dt (gl x20 x5 _ hx21)) ?_
   refine a5 (R:=rApiNode) (R':=rApiNode) (a:=(ApiNode.mk 0 [] [] 0 0 0 0 0 [])) (y:=x21) 1 Tryz.sizeOf32 (Upd.refl _) ?_
   exact⟨x21,h,⟨⟨aa,aa,trivial⟩,Pick.refl _⟩⟩
  replace h:=iteF hc19 h
  refine bj ?_
  refine W_rs ?_
  refine rq (out:=al b2 0) ai ?_
  refine rq (out:=Pr.i64 x1) ai ?_
  rcases aq h with⟨m26,hm26,h⟩|⟨⟨x22,x23⟩,hx22,h⟩
  ·refine az [0] (ih.2.2.2 x1 x18 b2 _ hm26) ⟨aa,aa,trivial⟩ (fun q C' hq=> ?_) (fun v9 hv=> ?_)
   ·obtain⟨_,h9,_⟩:=hq;cases h9
   obtain⟨_,h9,rfl⟩:=hv
   cases h9
   obtain rfl:=Option.some.inj h
   exact .inr ⟨_,rfl,_,rfl,rfl⟩
  refine az [0] (ih.2.2.2 x1 x18 b2 _ hx22) ⟨aa,aa,trivial⟩ (fun q C' hq=> ?_) (fun v9 hv=>by obtain⟨_,h9,_⟩:=hv;cases h9)
  obtain⟨_,h9,rfl,rfl⟩:=hq
  cases h9
  refine rCtx [Own.box b2 ae x23,Own.box b4 rApiNode (ApiNode.mk 0 [] [] 0 0 0 0 0 []),Own.box b6 af x5] ?_
  refine rq (out:=av rApiNode x22) aj ?_
  refine cd (fun e C=>∃(x25:ApiNode),gf R x23 x25=some r/\At [(0,al b2 0),(4,al b4 0)] [Own.box b2 ae x23,Own.box b4 rApiNode x25,Own.box b6 af x5] e C) ?_ ?_
  ·rintro e C ⟨x25,h,hat4⟩
   refine W_at hat4 ?_
   clear hat4
   unfold gf at h
   obtain rfl:=Option.some.inj h
   exact bp (.inl ⟨.inl rfl,[(rApiNode).val x25],⟨yBox 1 ty32 aa,trivial⟩,_,Pick.of [0] rfl,_,rfl,rfl,rfl⟩)
  refine W_draw 6 hmx (by kernel_rfl) (by kernel_rfl) ?_
  refine qq (out:=al b2 0) ai ?_
  refine qq (out:=Pr.i64 x3.at_) ai ?_
  refine qq (out:=av rApiNode x22) ai ?_
  obtain⟨x24,hx24,h⟩:=ak h
  refine qq (out:=(rApiNode).val x24) (qMade 0 hx24 aa) ?_
  refine qq (out:=(af).val x5) (a7 (R:=af) (a:=x5) (R':=af) 2 ty37 (Sub.refl _)) ?_
  obtain⟨x25,hx25,h⟩:=ak h
  refine qq (out:=(rApiNode).val x25) (dt (gl x24 x5 _ hx25)) ?_
  refine a5 (R:=rApiNode) (R':=rApiNode) (a:=(ApiNode.mk 0 [] [] 0 0 0 0 0 [])) (y:=x25) 1 Tryz.sizeOf32 (Upd.refl _) ?_
  exact⟨x25,h,⟨⟨aa,aa,trivial⟩,Pick.refl _⟩⟩
 replace h:=iteF hc14 h
 refine W_rs ?_
 refine rq (out:=Pr.bool (x5.Kind==3)) qInt ?_
 refine rq (out:=Pr.bool (x5.Kind==3)) aj ?_
 refine a8 (b:=x5.Kind==3) rfl (fun hc27=> ?_) (fun hc27=> ?_)
 ·replace h:=iteT hc27 h
  refine cd (fun e C=>∃(x28:SMap ApiNode),∃(b29:Nat),ge R x5 x3 x1 x28=some r/\At [(0,al b2 0),(1,Pr.i64 x1),(4,al b4 0),(5,Pr.i64 x3.at_),(9,al b29 0),(10,Pr.bool (mhas x5.Text x28))] [Own.box b2 ae x3,Own.box b4 rApiNode (ApiNode.mk 0 [] [] 0 0 0 0 0 []),Own.box b6 af x5,Own.box b29 rApiNode (mget x5.Text (ApiNode.mk 0 [] [] 0 0 0 0 0 []) x28)] e C) ?_ ?_
  ·rintro e C ⟨x28,b29,h,hat5⟩
   refine W_at hat5 ?_
   clear hat5
   unfold ge at h
   refine W_rs ?_
   refine rq (out:=Pr.bool (mhas x5.Text x28)) ai ?_
   refine a8 (b:=(mhas x5.Text x28)) rfl (fun hc30=> ?_) (fun hc30=> ?_)
   ·replace h:=iteT hc30 h
    refine W_rs ?_
    refine rq (out:=al b2 0) ai ?_
    obtain⟨⟨x31,x32⟩,hx31,h⟩:=ak h
    refine i7 [0] (d9 x3 b2 _ hx31) (fun q C' hq=> ?_)
    obtain⟨rfl,rfl⟩:=hq
    refine rCtx [Own.box b2 ae x32,Own.box b4 rApiNode (ApiNode.mk 0 [] [] 0 0 0 0 0 []),Own.box b6 af x5,Own.box b29 rApiNode (mget x5.Text (ApiNode.mk 0 [] [] 0 0 0 0 0 []) x28)] ?_
    refine W_rs ?_
    refine rq (out:=al b2 0) ai ?_
    refine rq (out:=al b29 0) (a3 fld32_0) ?_
    refine rq (out:=Pr.i64 ((mget x5.Text (ApiNode.mk 0 [] [] 0 0 0 0 0 []) x28).Kind)) (a7 (R:=rApiNode) (a:=(mget x5.Text (ApiNode.mk 0 [] [] 0 0 0 0 0 []) x28)) (R':=Rp.int .i64) 3 ty3 gv) ?_
    refine rq (out:=Pr.i64 x3.at_) ai ?_
    obtain⟨x33,hx33,h⟩:=ak h
    refine rq (out:=(rApiNode).val x33) (qMade 0 hx33 (f2 _)) ?_
    refine bi (R:=rApiNode) (z:=(ApiNode.mk 0 [] [] 0 0 0 0 0 [])) Tryz.zeroValue32 (fun _=>(by rw[ap];exact⟨_,⟨_,_,rfl,rfl,⟨_,_,rfl,rfl,⟨_,_,rfl,rfl,⟨_,_,rfl,rfl,⟨_,_,rfl,rfl,⟨_,_,rfl,rfl,⟨_,_,rfl,rfl,⟨_,_,rfl,rfl,⟨_,_,rfl,⟨_,rfl,none,0,rfl,⟨Nat.le_refl _,fun _=>rfl⟩,.inl rfl⟩,rfl⟩⟩⟩⟩⟩⟩⟩⟩⟩,rfl⟩)) (fun b34=> ?_)
    refine a5 (R:=rApiNode) (R':=rApiNode) (a:=(ApiNode.mk 0 [] [] 0 0 0 0 0 [])) (y:=x33) 4 Tryz.sizeOf32 (Upd.refl _) ?_
    refine W_rs ?_
    refine rq (out:=al b29 3) (a3 fld32_3) ?_
    refine rq (out:=Pr.i64 ((mget x5.Text (ApiNode.mk 0 [] [] 0 0 0 0 0 []) x28).N)) (a7 (R:=rApiNode) (a:=(mget x5.Text (ApiNode.mk 0 [] [] 0 0 0 0 0 []) x28)) (R':=Rp.int .i64) 3 ty2 subApiNode_N) ?_
    refine rq (out:=al b34 3) (a3 fld32_3) ?_
    refine a5 (R:=rApiNode) (R':=Rp.int .i64) (a:=x33) (y:=(mget x5.Text (ApiNode.mk 0 [] [] 0 0 0 0 0 []) x28).N) 4 Tryz.sizeOf2 updApiNode_N ?_
    refine W_rs ?_
    refine rq (out:=(rApiNode).val ({x33 with N:=(mget x5.Text (ApiNode.mk 0 [] [] 0 0 0 0 0 []) x28).N})) (a7 (R:=rApiNode) (a:={x33 with N:=(mget x5.Text (ApiNode.mk 0 [] [] 0 0 0 0 0 []) x28).N}) (R':=rApiNode) 4 ty32 (Sub.refl _)) ?_
    refine a5 (R:=rApiNode) (R':=rApiNode) (a:=(ApiNode.mk 0 [] [] 0 0 0 0 0 [])) (y:={x33 with N:=(mget x5.Text (ApiNode.mk 0 [] [] 0 0 0 0 0 []) x28).N}) 1 Tryz.sizeOf32 (Upd.refl _) ?_
    obtain rfl:=Option.some.inj h
    exact bp (.inl ⟨.inl rfl,[(rApiNode).val ({x33 with N:=(mget x5.Text (ApiNode.mk 0 [] [] 0 0 0 0 0 []) x28).N})],⟨yBox 1 ty32 aa,trivial⟩,_,Pick.of [0] rfl,_,rfl,rfl,rfl⟩)
   replace h:=iteF hc30 h
   refine bj ?_
   exact⟨h,⟨⟨aa,aa,aa,aa,trivial⟩,Pick.of [0,1,2] rfl⟩⟩
  obtain⟨x28,hx28,h⟩:=ak h
  refine W_drawG 1 (fun B S=>[Own.box b2 ae x3,Own.box b4 rApiNode (ApiNode.mk 0 [] [] 0 0 0 0 0 []),Own.box b6 af x5,(cond (S 8) (Own.box (B 7) rApiNode (mget x5.Text (ApiNode.mk 0 [] [] 0 0 0 0 0 []) x28)) (cond (S 7) (Own.box (B 7) rApiNode (ApiNode.mk 0 [] [] 0 0 0 0 0 [])) Own.nil))]) (fun B=>[Own.box b2 ae x3,Own.box b4 rApiNode (ApiNode.mk 0 [] [] 0 0 0 0 0 []),Own.box b6 af x5,Own.box (B 7) rApiNode (mget x5.Text (ApiNode.mk 0 [] [] 0 0 0 0 0 []) x28)]) [Pr.mapS rApiNode x28,al b6 1,ar x5.Text,cj [(rApiNode).val (mget x5.Text (ApiNode.mk 0 [] [] 0 0 0 0 0 []) x28),Pr.bool (mhas x5.Text x28)],cj [(rApiNode).val (mget x5.Text (ApiNode.mk 0 [] [] 0 0 0 0 0 []) x28),Pr.bool (mhas x5.Text x28)],(rApiNode).val (mget x5.Text (ApiNode.mk 0 [] [] 0 0 0 0 0 []) x28),Pr.bool (mhas x5.Text x28),.any,.any,Pr.bool (mhas x5.Text x28)] (fun k=>([0,0,0,0,0,0,0,2,1,0]:List Nat).getD k 0) hmx (by kernel_rfl) (by kernel_rfl) (fun _=>rfl) (fun B S S' h=>by show([Own.box b2 ae x3,Own.box b4 rApiNode (ApiNode.mk 0 [] [] 0 0 0 0 0 []),Own.box b6 af x5,(cond (S 8) (Own.box (B 7) rApiNode (mget x5.Text (ApiNode.mk 0 [] [] 0 0 0 0 0 []) x28)) (cond (S 7) (Own.box (B 7) rApiNode (ApiNode.mk 0 [] [] 0 0 0 0 0 [])) Own.nil))]:Ctx)=[Own.box b2 ae x3,Own.box b4 rApiNode (ApiNode.mk 0 [] [] 0 0 0 0 0 []),Own.box b6 af x5,(cond (S' 8) (Own.box (B 7) rApiNode (mget x5.Text (ApiNode.mk 0 [] [] 0 0 0 0 0 []) x28)) (cond (S' 7) (Own.box (B 7) rApiNode (ApiNode.mk 0 [] [] 0 0 0 0 0 [])) Own.nil))];simp only[h 7 (Nat.le_of_ble_eq_true (by kernel_rfl)),h 8 (Nat.le_of_ble_eq_true (by kernel_rfl))]) (fun _=>rfl) (fun B=> ?_)
  refine gq1 (fun S hK=>(dt (parse_words_ok _ hx28))) ?_
  refine gq1 (fun S hK=>(a3 fld37_1)) ?_
  refine gq1 (fun S hK=>(a7 (R:=af) (a:=x5) (R':=bh) 2 ty9 subApiToken_Text (hi:=rfl))) ?_
  refine gq1 (fun S hK=>(qMapGetS2 (R:=rApiNode) (m:=x28) (kx:=x5.Text) (z:=(ApiNode.mk 0 [] [] 0 0 0 0 0 [])) Tryz.underlying94 Tryz.underlying9 Tryz.zeroValue32 (fun _=>(by rw[ap];exact⟨_,⟨_,_,rfl,rfl,⟨_,_,rfl,rfl,⟨_,_,rfl,rfl,⟨_,_,rfl,rfl,⟨_,_,rfl,rfl,⟨_,_,rfl,rfl,⟨_,_,rfl,rfl,⟨_,_,rfl,rfl,⟨_,_,rfl,⟨_,rfl,none,0,rfl,⟨Nat.le_refl _,fun _=>rfl⟩,.inl rfl⟩,rfl⟩⟩⟩⟩⟩⟩⟩⟩⟩,rfl⟩)))) ?_
  refine gq1 (fun S hK=>ai) ?_
  refine gq1 (fun S hK=>bo) ?_
  refine gq1 (fun S hK=>bo) ?_
  refine gqA (fun S hK=>⟨fun B' hB=>by show([Own.box b2 ae x3,Own.box b4 rApiNode (ApiNode.mk 0 [] [] 0 0 0 0 0 []),Own.box b6 af x5,(cond (S 8) (Own.box (B' 7) rApiNode (mget x5.Text (ApiNode.mk 0 [] [] 0 0 0 0 0 []) x28)) (cond (S 7) (Own.box (B' 7) rApiNode (ApiNode.mk 0 [] [] 0 0 0 0 0 [])) Own.nil))]:Ctx)=[Own.box b2 ae x3,Own.box b4 rApiNode (ApiNode.mk 0 [] [] 0 0 0 0 0 []),Own.box b6 af x5,(cond (S 8) (Own.box (B 7) rApiNode (mget x5.Text (ApiNode.mk 0 [] [] 0 0 0 0 0 []) x28)) (cond (S 7) (Own.box (B 7) rApiNode (ApiNode.mk 0 [] [] 0 0 0 0 0 [])) Own.nil))];simp only[hK.me,hK.F 8 (by kernel_rfl),cond_false],fun s ρ hg _=>sAlloc (R:=rApiNode) (z:=(ApiNode.mk 0 [] [] 0 0 0 0 0 [])) 3 Tryz.zeroValue32 (fun _=>(by rw[ap];exact⟨_,⟨_,_,rfl,rfl,⟨_,_,rfl,rfl,⟨_,_,rfl,rfl,⟨_,_,rfl,rfl,⟨_,_,rfl,rfl,⟨_,_,rfl,rfl,⟨_,_,rfl,rfl,⟨_,_,rfl,rfl,⟨_,_,rfl,⟨_,rfl,none,0,rfl,⟨Nat.le_refl _,fun _=>rfl⟩,.inl rfl⟩,rfl⟩⟩⟩⟩⟩⟩⟩⟩⟩,rfl⟩)) (congrArg some ((condF (hK.F 8 (by kernel_rfl)) _ _).trans (condF (hK.me) _ _))) (fun b=>by show([Own.box b2 ae x3,Own.box b4 rApiNode (ApiNode.mk 0 [] [] 0 0 0 0 0 []),Own.box b6 af x5,(cond (S 8) (Own.box b rApiNode (mget x5.Text (ApiNode.mk 0 [] [] 0 0 0 0 0 []) x28)) (Own.box b rApiNode (ApiNode.mk 0 [] [] 0 0 0 0 0 [])))]:Ctx)=_;rw[hK.F 8 (by kernel_rfl)];rfl) s ρ hg⟩) ?_
  refine gqS (fun S hK=>SStep.as (sStore (R:=rApiNode) (R':=rApiNode) (a:=(ApiNode.mk 0 [] [] 0 0 0 0 0 [])) (y:=(mget x5.Text (ApiNode.mk 0 [] [] 0 0 0 0 0 []) x28)) 3 Tryz.sizeOf32 (Upd.refl _) (congrArg some ((condF (hK.me) _ _).trans (condT (hK.T 7 (by kernel_rfl)) _ _)))) (by show(_:Ctx)=[Own.box b2 ae x3,Own.box b4 rApiNode (ApiNode.mk 0 [] [] 0 0 0 0 0 []),Own.box b6 af x5,Own.box (B 7) rApiNode (mget x5.Text (ApiNode.mk 0 [] [] 0 0 0 0 0 []) x28)];rfl)) ?_
  refine gq1 (fun S hK=>aj) ?_
  exact⟨x28,(B 7),h,⟨⟨aa,aa,aa,aa,aa,aa,trivial⟩,Pick.refl _⟩⟩
 replace h:=iteF hc27 h
 refine bj ?_
 exact⟨h,⟨⟨aa,aa,aa,aa,trivial⟩,Pick.refl _⟩⟩
theorem F_parse_parser_arguments_step (R:am) (ih:cw R) (x1:Int) (x3:ParseParser) (b2:Nat) (r:PX ParseWrong ((List ApiNode) × ParseParser)) (h:dr R x1 x3=some r):FnX Tryz.prog 66 [al b2 0,Pr.i64 x1] [Own.box b2 ae x3] (fun q C'=>∃a9,r= .ok a9/\q=av rApiNode a9.1/\C'=[Own.box b2 ae a9.2]) (fun v=>∃m,r= .bad m/\v=cv m):=by
 refine fnx_introP (n:=20) (rs:=[4]) Tryz.func66 rfl Tryz.ntmps66 ⟨by decide,Tryz.results66⟩ (by decide) (fun s0=> ?_)
 unfold dr at h
 refine W_rs ?_
 refine rq (out:=Pr.is (.slice none 0 0)) aj ?_
 refine W_rs ?_
 refine rq (out:=Pr.is (.slice none 0 0)) aj ?_
 refine c0 ?_
 refine W_rs ?_
 refine rq (out:=al b2 0) ai ?_
 obtain⟨⟨x4,x5⟩,hx4,h⟩:=ak h
 refine i7 [0] (a6 ([41]:List UInt8) x3 b2 _ hx4) (fun q C' hq=> ?_)
 obtain⟨rfl,rfl⟩:=hq
 refine rCtx [Own.box b2 ae x5] ?_
 refine a8 (b:=x4) rfl (fun hc6=> ?_) (fun hc6=> ?_)
 ·replace h:=iteT hc6 h
  refine W_rs ?_
  refine rq (out:=Pr.is (.slice none 0 0)) ai ?_
  refine rq (out:=Pr.is (.slice none 0 0)) aj ?_
  obtain rfl:=Option.some.inj h
  exact bp (.inl ⟨.inl rfl,_,Pick.refl _,_,(f2 _),_,rfl,rfl,rfl⟩)
 replace h:=iteF hc6 h
 refine bj ?_
 refine bu ?_
 obtain⟨n1,hN1⟩:=dv h
 refine W_nil [5] rApiNode 32 (fun v23=> ?_) ⟨rfl,trivial⟩
 refine k8 (fun m e C=>∃(x8:ParseParser),∃(x9:List ApiNode),∃(v7:Value),i1 (fun s=>ej R x1 s.1 s.2) m (x8,x9)=some r/\At [(0,al b2 0),(1,Pr.i64 x1),(5,Pr.is v7)] [Own.box b2 ae x8,Own.vec v7 rApiNode x9 32] e C) n1 ⟨x5,[],v23,hN1,⟨⟨aa,aa,aa,trivial⟩,Pick.refl _⟩⟩ ?_
 clear hN1
 rintro m e C ⟨x8,x9,v7,hN1,hatl1⟩
 refine W_at hatl1 ?_
 clear hatl1
 obtain⟨m1,w1l,rfl,h1l,hn1,ho1⟩:=dp hN1
 clear hN1
 replace h1l:ej R x1 x8 x9=some w1l:=h1l
 unfold ej at h1l
 refine bu ?_
 refine W_rs ?_
 refine rq (out:=Pr.is v7) ai ?_
 refine rq (out:=al b2 0) ai ?_
 refine rq (out:=Pr.i64 x1) ai ?_
 rcases aq h1l with⟨m22,hm22,h1l⟩|⟨⟨x13,x14⟩,hx13,h1l⟩
 ·refine az [0] (ih.1 x1 0 x8 b2 _ hm22) ⟨aa,aa,aa,trivial⟩ (fun q C' hq=> ?_) (fun v9 hv=> ?_)
  ·obtain⟨_,h9,_⟩:=hq;cases h9
  obtain⟨_,h9,rfl⟩:=hv
  cases h9
  have h:some (.bad m22)=some r:=congrArg some (ho1 _ (Option.some.inj h1l).symm)
  obtain rfl:=Option.some.inj h
  exact .inr ⟨_,rfl,_,rfl,rfl⟩
 refine az [0] (ih.1 x1 0 x8 b2 _ hx13) ⟨aa,aa,aa,trivial⟩ (fun q C' hq=> ?_) (fun v9 hv=>by obtain⟨_,h9,_⟩:=hv;cases h9)
 obtain⟨_,h9,rfl,rfl⟩:=hq
 cases h9
 refine rCtx [Own.box b2 ae x14,Own.vec v7 rApiNode x9 32] ?_
 refine rq (out:=av rApiNode ([x13]:List ApiNode)) (cn (R:=rApiNode) (a:=x13) el24 (Nat.le_of_ble_eq_true rfl)) ?_
 obtain⟨x15,hx15,h1l⟩:=ak h1l
 refine kz 1 el24 hx15 (fun v16=> ?_)
 refine rq (out:=Pr.is v16) aj ?_
 refine c0 ?_
 refine W_rs ?_
 refine rq (out:=al b2 0) ai ?_
 obtain⟨⟨x17,x18⟩,hx17,h1l⟩:=ak h1l
 refine i7 [0] (a6 ([41]:List UInt8) x14 b2 _ hx17) (fun q C' hq=> ?_)
 obtain⟨rfl,rfl⟩:=hq
 refine rCtx [Own.box b2 ae x18,Own.vec v16 rApiNode x15 32] ?_
 refine a8 (b:=x17) rfl (fun hc19=> ?_) (fun hc19=> ?_)
 ·replace h1l:=iteT hc19 h1l
  refine W_rs ?_
  refine rq (out:=Pr.is v16) ai ?_
  refine rq (out:=Pr.is v16) aj ?_
  have h:some (.ok (x15,x18))=some r:=congrArg some (ho1 _ (Option.some.inj h1l).symm)
  refine W_rel 1 [4] ?_ rfl ⟨rfl,trivial⟩
  obtain rfl:=Option.some.inj h
  exact bp (.inl ⟨.inl rfl,_,Pick.refl _,_,(aa),_,rfl,rfl,rfl⟩)
 replace h1l:=iteF hc19 h1l
 refine bj ?_
 refine W_r ?_
 refine rq (out:=al b2 0) ai ?_
 rcases aq h1l with⟨m21,hm21,h1l⟩|⟨x20,hx20,h1l⟩
 ·refine az [0] (ao ([44]:List UInt8) x18 b2 _ hm21) ⟨aa,aa,trivial⟩ (fun q C' hq=> ?_) (fun v9 hv=> ?_)
  ·obtain⟨_,h9,_⟩:=hq;cases h9
  obtain⟨_,h9,rfl⟩:=hv
  cases h9
  have h:some (.bad m21)=some r:=congrArg some (ho1 _ (Option.some.inj h1l).symm)
  obtain rfl:=Option.some.inj h
  exact .inr ⟨_,rfl,_,rfl,rfl⟩
 refine az [0] (ao ([44]:List UInt8) x18 b2 _ hx20) ⟨aa,aa,trivial⟩ (fun q C' hq=> ?_) (fun v9 hv=>by obtain⟨_,h9,_⟩:=hv;cases h9)
 obtain⟨_,h9,rfl,rfl⟩:=hq
 cases h9
 refine rCtx [Own.box b2 ae x20,Own.vec v16 rApiNode x15 32] ?_
 exact⟨m1,Nat.lt_succ_self _,x20,x15,v16,hn1 _ (Option.some.inj h1l).symm,⟨⟨aa,aa,aa,trivial⟩,Pick.refl _⟩⟩
theorem rec_parse_parser_expression_ok :∀n,cw (bz n):=by
 intro n
 induction n with
 |zero=>exact⟨(fun x1 x2 x4 b3 r h=>nomatch (show none=some r from h)),(fun x1 x3 b2 r h=>nomatch (show none=some r from h)),(fun x1 x3 b2 r h=>nomatch (show none=some r from h)),(fun x1 x3 b2 r h=>nomatch (show none=some r from h))⟩
 |succ n ih=>exact⟨(fun x1 x2 x4 b3 r h=>F_parse_parser_expression_step (bz n) ih x1 x2 x4 b3 r h),(fun x1 x3 b2 r h=>F_parse_parser_unary_step (bz n) ih x1 x3 b2 r h),(fun x1 x3 b2 r h=>F_parse_parser_primary_step (bz n) ih x1 x3 b2 r h),(fun x1 x3 b2 r h=>F_parse_parser_arguments_step (bz n) ih x1 x3 b2 r h)⟩
theorem bc (x1 x2:Int) (x4:ParseParser) (b3:Nat) (r:PX ParseWrong (ApiNode × ParseParser)) (h:ce x1 x2 x4=some r):FnX Tryz.prog 33 [al b3 0,Pr.i64 x1,Pr.i64 x2] [Own.box b3 ae x4] (fun q C'=>∃a9,r= .ok a9/\q=(rApiNode).val a9.1/\C'=[Own.box b3 ae a9.2]) (fun v=>∃m,r= .bad m/\v=cv m):=(rec_parse_parser_expression_ok 1048576).1 x1 x2 x4 b3 r h
end Go.Proofs.YtackaijkmkollaaGreatDoor
