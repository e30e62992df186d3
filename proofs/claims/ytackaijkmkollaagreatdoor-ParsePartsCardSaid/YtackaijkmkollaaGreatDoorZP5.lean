/- The code comes to what these functions say (printed by wip/gen/gen.py). -/
import Derived.Test.YtackaijkmkollaaGreatDoorZP4
import Derived.Test.YtackaijkmkollaaGreatDoorZT
set_option linter.unusedSimpArgs false
set_option linter.unusedVariables false
set_option linter.unusedSectionVars false
set_option linter.unusedSectionVars false
set_option maxRecDepth 100000
set_option maxHeartbeats 4000000
namespace Go.Proofs.YtackaijkmkollaaGreatDoor
open Go Go.Cn
variable [Known]
theorem ib (x2:ParseParser) (b1:Nat) (r:PX ParseWrong (ApiNode × ParseParser)) (h:bq x2=some r):FnX Tryz.prog 31 [al b1 0] [Own.box b1 ae x2] (fun q C'=>∃a9,r= .ok a9/\q=(rApiNode).val a9.1/\C'=[Own.box b1 ae a9.2]) (fun v=>∃m,r= .bad m/\v=cv m):=by
 refine d4 (n:=56) (rs:=[.cell 2 32]) Tryz.func31 rfl Tryz.ntmps31 Tryz.results31 (by decide) (fun s0=> ?_)
 unfold bq at h
 refine W_rs ?_
 refine bi (R:=rApiNode) (z:=(ApiNode.mk 0 [] [] 0 0 0 0 0 [])) Tryz.zeroValue32 (fun _=>(by rw[ap];exact⟨_,⟨_,_,rfl,rfl,⟨_,_,rfl,rfl,⟨_,_,rfl,rfl,⟨_,_,rfl,rfl,⟨_,_,rfl,rfl,⟨_,_,rfl,rfl,⟨_,_,rfl,rfl,⟨_,_,rfl,rfl,⟨_,_,rfl,⟨_,rfl,none,0,rfl,⟨Nat.le_refl _,fun _=>rfl⟩,.inl rfl⟩,rfl⟩⟩⟩⟩⟩⟩⟩⟩⟩,rfl⟩)) (fun b3=> ?_)
 refine W_rs ?_
 refine rq (out:=al b1 0) ai ?_
 refine rq (out:=al b1 0) qNilP ?_
 refine rq (out:=al b1 1) (a3 fld65_1) ?_
 refine rq (out:=Pr.i64 x2.at_) (a7 (R:=ae) (a:=x2) (R':=Rp.int .i64) 0 ty3 subParseParser_at) ?_
 refine rq (out:=Pr.i64 x2.at_) aj ?_
 refine W_rs ?_
 refine rq (out:=al b1 0) ai ?_
 obtain⟨⟨x4,x5⟩,hx4,h⟩:=ak h
 refine i7 [0] (a6 ([115,116,97,116,105,99]:List UInt8) x2 b1 _ hx4) (fun q C' hq=> ?_)
 obtain⟨rfl,rfl⟩:=hq
 refine rCtx [Own.box b1 ae x5,Own.box b3 rApiNode (ApiNode.mk 0 [] [] 0 0 0 0 0 [])] ?_
 refine rq (out:=Pr.bool x4) aj ?_
 refine cd (fun e C=>∃(x11:ParseParser),bt x2 x4 x11=some r/\At [(0,al b1 0),(2,al b3 0),(3,Pr.i64 x2.at_),(4,Pr.bool x4)] [Own.box b1 ae x11,Own.box b3 rApiNode (ApiNode.mk 0 [] [] 0 0 0 0 0 [])] e C) ?_ ?_
 ·rintro e C ⟨x11,h,hat4⟩
  refine W_at hat4 ?_
  clear hat4
  unfold bt at h
  refine W_rs ?_
  refine rq (out:=al b1 0) ai ?_
  obtain⟨⟨x12,x13⟩,hx12,h⟩:=ak h
  refine i7 [0] (d9 x11 b1 _ hx12) (fun q C' hq=> ?_)
  obtain⟨rfl,rfl⟩:=hq
  refine rCtx [Own.box b1 ae x13,Own.box b3 rApiNode (ApiNode.mk 0 [] [] 0 0 0 0 0 [])] ?_
  refine bi (R:=af) (z:=(ApiToken.mk 0 [] 0 [])) Tryz.zeroValue37 (fun _=>⟨_,⟨_,_,rfl,rfl,⟨_,_,rfl,rfl,⟨_,_,rfl,rfl,⟨_,_,rfl,rfl,rfl⟩⟩⟩⟩,rfl⟩) (fun b14=> ?_)
  refine a5 (R:=af) (R':=af) (a:=(ApiToken.mk 0 [] 0 [])) (y:=x12) 2 Tryz.sizeOf37 (Upd.refl _) ?_
  refine W_rs ?_
  refine rq (out:=al b1 0) ai ?_
  rcases aq h with⟨m45,hm45,h⟩|⟨⟨x15,x16⟩,hx15,h⟩
  ·refine az [0] (bl x13 b1 _ hm45) ⟨aa,trivial⟩ (fun q C' hq=> ?_) (fun v9 hv=> ?_)
   ·obtain⟨_,h9,_⟩:=hq;cases h9
   obtain⟨_,h9,rfl⟩:=hv
   cases h9
   obtain rfl:=Option.some.inj h
   exact .inr ⟨_,rfl,_,rfl,rfl⟩
  refine az [0] (bl x13 b1 _ hx15) ⟨aa,trivial⟩ (fun q C' hq=> ?_) (fun v9 hv=>by obtain⟨_,h9,_⟩:=hv;cases h9)
  obtain⟨_,h9,rfl,rfl⟩:=hq
  cases h9
  refine rCtx [Own.box b1 ae x16,Own.box b3 rApiNode (ApiNode.mk 0 [] [] 0 0 0 0 0 []),Own.box b14 af x12] ?_
  refine bi (R:=af) (z:=(ApiToken.mk 0 [] 0 [])) Tryz.zeroValue37 (fun _=>⟨_,⟨_,_,rfl,rfl,⟨_,_,rfl,rfl,⟨_,_,rfl,rfl,⟨_,_,rfl,rfl,rfl⟩⟩⟩⟩,rfl⟩) (fun b17=> ?_)
  refine a5 (R:=af) (R':=af) (a:=(ApiToken.mk 0 [] 0 [])) (y:=x15) 3 Tryz.sizeOf37 (Upd.refl _) ?_
  refine W_rs ?_
  refine bi (R:=rApiNode) (z:=(ApiNode.mk 0 [] [] 0 0 0 0 0 [])) Tryz.zeroValue32 (fun _=>(by rw[ap];exact⟨_,⟨_,_,rfl,rfl,⟨_,_,rfl,rfl,⟨_,_,rfl,rfl,⟨_,_,rfl,rfl,⟨_,_,rfl,rfl,⟨_,_,rfl,rfl,⟨_,_,rfl,rfl,⟨_,_,rfl,rfl,⟨_,_,rfl,⟨_,rfl,none,0,rfl,⟨Nat.le_refl _,fun _=>rfl⟩,.inl rfl⟩,rfl⟩⟩⟩⟩⟩⟩⟩⟩⟩,rfl⟩)) (fun b18=> ?_)
  refine cd (fun e C=>∃(x39:ParseParser),∃(x40:ApiNode),cy x4 x15 x12 x39 x40=some r/\At [(0,al b1 0),(2,al b3 0),(4,Pr.bool x4),(5,al b14 0),(6,al b17 0),(7,al b18 0)] [Own.box b1 ae x39,Own.box b3 rApiNode (ApiNode.mk 0 [] [] 0 0 0 0 0 []),Own.box b14 af x12,Own.box b17 af x15,Own.box b18 rApiNode x40] e C) ?_ ?_
  ·rintro e C ⟨x39,x40,h,hat3⟩
   refine W_at hat3 ?_
   clear hat3
   unfold cy at h
   refine cd (fun e C=>∃(x42:ApiNode),fi x15 x12 x39 x42=some r/\At [(0,al b1 0),(2,al b3 0),(5,al b14 0),(6,al b17 0),(7,al b18 0)] [Own.box b1 ae x39,Own.box b3 rApiNode (ApiNode.mk 0 [] [] 0 0 0 0 0 []),Own.box b14 af x12,Own.box b17 af x15,Own.box b18 rApiNode x42] e C) ?_ ?_
   ·rintro e C ⟨x42,h,hat2⟩
    refine W_at hat2 ?_
    clear hat2
    unfold fi at h
    refine cd (fun e C=>∃(x44:ApiNode),ic x39 x44=some r/\At [(0,al b1 0),(2,al b3 0)] [Own.box b1 ae x39,Own.box b3 rApiNode x44,Own.box b14 af x12,Own.box b17 af x15,Own.box b18 rApiNode x42] e C) ?_ ?_
    ·rintro e C ⟨x44,h,hat1⟩
     refine W_at hat1 ?_
     clear hat1
     unfold ic at h
     obtain rfl:=Option.some.inj h
     exact bp (.inl ⟨.inl rfl,[(rApiNode).val x44],⟨yBox 1 ty32 aa,trivial⟩,_,Pick.of [0] rfl,_,rfl,rfl,rfl⟩)
    refine W_draw 5 hmx (by kernel_rfl) (by kernel_rfl) ?_
    refine qq (out:=(rApiNode).val x42) (a7 (R:=rApiNode) (a:=x42) (R':=rApiNode) 4 ty32 (Sub.refl _)) ?_
    refine qq (out:=(af).val x15) (a7 (R:=af) (a:=x15) (R':=af) 3 ty37 (Sub.refl _)) ?_
    obtain⟨x43,hx43,h⟩:=ak h
    refine qq (out:=(rApiNode).val x43) (dt (gl x42 x15 _ hx43)) ?_
    refine qq (out:=(af).val x12) (a7 (R:=af) (a:=x12) (R':=af) 2 ty37 (Sub.refl _)) ?_
    obtain⟨x44,hx44,h⟩:=ak h
    refine qq (out:=(rApiNode).val x44) (dt (parse_typed_ok x43 x12 _ hx44)) ?_
    refine a5 (R:=rApiNode) (R':=rApiNode) (a:=(ApiNode.mk 0 [] [] 0 0 0 0 0 [])) (y:=x44) 1 Tryz.sizeOf32 (Upd.refl _) ?_
    exact⟨x44,h,⟨⟨aa,aa,trivial⟩,Pick.refl _⟩⟩
   refine W_rs ?_
   refine rq (out:=Pr.bool x4) ai ?_
   refine a8 (b:=x4) rfl (fun hc41=> ?_) (fun hc41=> ?_)
   ·replace h:=iteT hc41 h
    refine W_r ?_
    refine rq (out:=al b18 3) (a3 fld32_3) ?_
    refine a5 (R:=rApiNode) (R':=Rp.int .i64) (a:=x40) (y:=1) 4 Tryz.sizeOf2 updApiNode_N ?_
    exact⟨{x40 with N:=1},h,⟨⟨aa,aa,aa,aa,aa,trivial⟩,Pick.refl _⟩⟩
   replace h:=iteF hc41 h
   refine bj ?_
   exact⟨x40,h,⟨⟨aa,aa,aa,aa,aa,trivial⟩,Pick.refl _⟩⟩
  refine bu ?_
  refine W_rs ?_
  refine rq (out:=al b1 0) ai ?_
  obtain⟨⟨x19,x20⟩,hx19,h⟩:=ak h
  refine i7 [0] (a6 ([40]:List UInt8) x16 b1 _ hx19) (fun q C' hq=> ?_)
  obtain⟨rfl,rfl⟩:=hq
  refine rCtx [Own.box b1 ae x20,Own.box b3 rApiNode (ApiNode.mk 0 [] [] 0 0 0 0 0 []),Own.box b14 af x12,Own.box b17 af x15,Own.box b18 rApiNode (ApiNode.mk 0 [] [] 0 0 0 0 0 [])] ?_
  refine rq (out:=Pr.bool x19) aj ?_
  refine a8 (b:=x19) rfl (fun hc21=> ?_) (fun hc21=> ?_)
  ·replace h:=iteT hc21 h
   refine W_rs ?_
   refine rq (out:=al b1 0) ai ?_
   rcases aq h with⟨m31,hm31,h⟩|⟨⟨x22,x23⟩,hx22,h⟩
   ·refine az [0] (parse_parser_params_ok x20 b1 _ hm31) ⟨aa,trivial⟩ (fun q C' hq=> ?_) (fun v9 hv=> ?_)
    ·obtain⟨_,h9,_⟩:=hq;cases h9
    obtain⟨_,h9,rfl⟩:=hv
    cases h9
    obtain rfl:=Option.some.inj h
    exact .inr ⟨_,rfl,_,rfl,rfl⟩
   refine az [0] (parse_parser_params_ok x20 b1 _ hx22) ⟨aa,trivial⟩ (fun q C' hq=> ?_) (fun v9 hv=>by obtain⟨_,h9,_⟩:=hv;cases h9)
   obtain⟨_,h9,v24,rfl,rfl⟩:=hq
   cases h9
   refine rCtx [Own.vec v24 rApiNode x22 32,Own.box b1 ae x23,Own.box b3 rApiNode (ApiNode.mk 0 [] [] 0 0 0 0 0 []),Own.box b14 af x12,Own.box b17 af x15,Own.box b18 rApiNode (ApiNode.mk 0 [] [] 0 0 0 0 0 [])] ?_
   refine rq (out:=Pr.is v24) aj ?_
   refine W_rs ?_
   refine rq (out:=Pr.is v24) ai ?_
   refine rq (out:=al b1 0) ai ?_
   rcases aq h with⟨m30,hm30,h⟩|⟨⟨x25,x26⟩,hx25,h⟩
   ·refine az [1] (parse_parser_block_ok 1 x23 b1 _ hm30) ⟨aa,aa,trivial⟩ (fun q C' hq=> ?_) (fun v9 hv=> ?_)
    ·obtain⟨_,h9,_⟩:=hq;cases h9
    obtain⟨_,h9,rfl⟩:=hv
    cases h9
    obtain rfl:=Option.some.inj h
    exact .inr ⟨_,rfl,_,rfl,rfl⟩
   refine az [1] (parse_parser_block_ok 1 x23 b1 _ hx25) ⟨aa,aa,trivial⟩ (fun q C' hq=> ?_) (fun v9 hv=>by obtain⟨_,h9,_⟩:=hv;cases h9)
   obtain⟨_,h9,rfl,rfl⟩:=hq
   cases h9
   refine rCtx [Own.box b1 ae x26,Own.vec v24 rApiNode x22 32,Own.box b3 rApiNode (ApiNode.mk 0 [] [] 0 0 0 0 0 []),Own.box b14 af x12,Own.box b17 af x15,Own.box b18 rApiNode (ApiNode.mk 0 [] [] 0 0 0 0 0 [])] ?_
   refine rq (out:=av rApiNode ([x25]:List ApiNode)) (cn (R:=rApiNode) (a:=x25) el24 (Nat.le_of_ble_eq_true rfl)) ?_
   obtain⟨x27,hx27,h⟩:=ak h
   refine kz 1 el24 hx27 (fun v28=> ?_)
   refine rq (out:=Pr.is v28) aj ?_
   refine W_r ?_
   refine rq (out:=al b1 0) ai ?_
   refine rq (out:=Pr.i64 x2.at_) ai ?_
   refine rq (out:=Pr.is v28) ai ?_
   obtain⟨x29,hx29,h⟩:=ak h
   refine rRel 1 [8,42] ?_ rfl ⟨rfl,rfl,trivial⟩
   refine rq (out:=(rApiNode).val x29) (qMade 0 hx29 aa) ?_
   refine a5 (R:=rApiNode) (R':=rApiNode) (a:=(ApiNode.mk 0 [] [] 0 0 0 0 0 [])) (y:=x29) 4 Tryz.sizeOf32 (Upd.refl _) ?_
   exact⟨x26,x29,h,⟨⟨aa,aa,aa,aa,aa,aa,trivial⟩,Pick.refl _⟩⟩
  replace h:=iteF hc21 h
  refine W_rs ?_
  refine rq (out:=(af).val x12) (a7 (R:=af) (a:=x12) (R':=af) 2 ty37 (Sub.refl _)) ?_
  obtain⟨x32,hx32,h⟩:=ak h
  refine rq (out:=Pr.bool x32) (dt (ku x12 ([118,111,105,100]:List UInt8) _ hx32)) ?_
  refine rq (out:=Pr.bool x32) aj ?_
  refine a8 (b:=x32) rfl (fun hc33=> ?_) (fun hc33=> ?_)
  ·replace h:=iteT hc33 h
   refine W_r ?_
   refine rq (out:=al b1 0) ai ?_
   rcases aq h with⟨m35,hm35,h⟩|⟨x34,hx34,h⟩
   ·refine az [0] (bd 120 x20 b1 _ hm35) ⟨aa,aa,trivial⟩ (fun q C' hq=> ?_) (fun v9 hv=> ?_)
    ·obtain⟨_,h9,_⟩:=hq;cases h9
    obtain⟨_,h9,rfl⟩:=hv
    cases h9
    obtain rfl:=Option.some.inj h
    exact .inr ⟨_,rfl,_,rfl,rfl⟩
   refine az [0] (bd 120 x20 b1 _ hx34) ⟨aa,aa,trivial⟩ (fun q C' hq=> ?_) (fun v9 hv=>by obtain⟨_,h9,_⟩:=hv;cases h9)
   obtain⟨_,h9,rfl,rfl⟩:=hq
   cases h9
   refine rCtx [Own.box b1 ae x34,Own.box b3 rApiNode (ApiNode.mk 0 [] [] 0 0 0 0 0 []),Own.box b14 af x12,Own.box b17 af x15,Own.box b18 rApiNode (ApiNode.mk 0 [] [] 0 0 0 0 0 [])] ?_
   exact⟨x34,(ApiNode.mk 0 [] [] 0 0 0 0 0 []),h,⟨⟨aa,aa,aa,aa,aa,aa,trivial⟩,Pick.refl _⟩⟩
  replace h:=iteF hc33 h
  refine W_rs ?_
  refine rq (out:=al b1 0) ai ?_
  rcases aq h with⟨m38,hm38,h⟩|⟨x36,hx36,h⟩
  ·refine az [0] (ao ([59]:List UInt8) x20 b1 _ hm38) ⟨aa,aa,trivial⟩ (fun q C' hq=> ?_) (fun v9 hv=> ?_)
   ·obtain⟨_,h9,_⟩:=hq;cases h9
   obtain⟨_,h9,rfl⟩:=hv
   cases h9
   obtain rfl:=Option.some.inj h
   exact .inr ⟨_,rfl,_,rfl,rfl⟩
  refine az [0] (ao ([59]:List UInt8) x20 b1 _ hx36) ⟨aa,aa,trivial⟩ (fun q C' hq=> ?_) (fun v9 hv=>by obtain⟨_,h9,_⟩:=hv;cases h9)
  obtain⟨_,h9,rfl,rfl⟩:=hq
  cases h9
  refine rCtx [Own.box b1 ae x36,Own.box b3 rApiNode (ApiNode.mk 0 [] [] 0 0 0 0 0 []),Own.box b14 af x12,Own.box b17 af x15,Own.box b18 rApiNode (ApiNode.mk 0 [] [] 0 0 0 0 0 [])] ?_
  refine W_r ?_
  refine rq (out:=al b1 0) ai ?_
  refine rq (out:=Pr.i64 x2.at_) ai ?_
  obtain⟨x37,hx37,h⟩:=ak h
  refine rq (out:=(rApiNode).val x37) (qMade 0 hx37 (f2 _)) ?_
  refine a5 (R:=rApiNode) (R':=rApiNode) (a:=(ApiNode.mk 0 [] [] 0 0 0 0 0 [])) (y:=x37) 4 Tryz.sizeOf32 (Upd.refl _) ?_
  exact⟨x36,x37,h,⟨⟨aa,aa,aa,aa,aa,aa,trivial⟩,Pick.refl _⟩⟩
 refine W_rs ?_
 refine rq (out:=al b1 0) ai ?_
 obtain⟨x6,hx6,h⟩:=ak h
 refine rq (out:=(af).val x6) (qCallBx 0 (cc x5 _ hx6) ⟨.inr ⟨aa,rfl⟩,trivial⟩ (fun _ _ _ h=>Flat.val gk _ _ _ _ h)) ?_
 obtain⟨x7,hx7,h⟩:=ak h
 refine rq (out:=Pr.bool x7) (dt (parse_isType_ok x6 _ hx7)) ?_
 refine rq (out:=Pr.bool (!x7)) qNot ?_
 refine a8 (b:= !x7) rfl (fun hc8=> ?_) (fun hc8=> ?_)
 ·replace h:=iteT hc8 h
  refine W_r ?_
  refine rq (out:=al b1 0) ai ?_
  rcases aq h with⟨m10,hm10,h⟩|⟨x9,hx9,h⟩
  ·refine az [0] (bd 120 x5 b1 _ hm10) ⟨aa,aa,trivial⟩ (fun q C' hq=> ?_) (fun v9 hv=> ?_)
   ·obtain⟨_,h9,_⟩:=hq;cases h9
   obtain⟨_,h9,rfl⟩:=hv
   cases h9
   obtain rfl:=Option.some.inj h
   exact .inr ⟨_,rfl,_,rfl,rfl⟩
  refine az [0] (bd 120 x5 b1 _ hx9) ⟨aa,aa,trivial⟩ (fun q C' hq=> ?_) (fun v9 hv=>by obtain⟨_,h9,_⟩:=hv;cases h9)
  obtain⟨_,h9,rfl,rfl⟩:=hq
  cases h9
  refine rCtx [Own.box b1 ae x9,Own.box b3 rApiNode (ApiNode.mk 0 [] [] 0 0 0 0 0 [])] ?_
  exact⟨x9,h,⟨⟨aa,aa,aa,aa,trivial⟩,Pick.refl _⟩⟩
 replace h:=iteF hc8 h
 refine bj ?_
 exact⟨x5,h,⟨⟨aa,aa,aa,aa,trivial⟩,Pick.refl _⟩⟩
theorem parse_parser_class_ok (x2:ParseParser) (b1:Nat) (r:PX ParseWrong (ApiNode × ParseParser)) (h:ee x2=some r):FnX Tryz.prog 23 [al b1 0] [Own.box b1 ae x2] (fun q C'=>∃a9,r= .ok a9/\q=(rApiNode).val a9.1/\C'=[Own.box b1 ae a9.2]) (fun v=>∃m,r= .bad m/\v=cv m):=by
 refine d4 (n:=43) (rs:=[.cell 2 32]) Tryz.func23 rfl Tryz.ntmps23 Tryz.results23 (by decide) (fun s0=> ?_)
 unfold ee at h
 refine W_rs ?_
 refine bi (R:=rApiNode) (z:=(ApiNode.mk 0 [] [] 0 0 0 0 0 [])) Tryz.zeroValue32 (fun _=>(by rw[ap];exact⟨_,⟨_,_,rfl,rfl,⟨_,_,rfl,rfl,⟨_,_,rfl,rfl,⟨_,_,rfl,rfl,⟨_,_,rfl,rfl,⟨_,_,rfl,rfl,⟨_,_,rfl,rfl,⟨_,_,rfl,rfl,⟨_,_,rfl,⟨_,rfl,none,0,rfl,⟨Nat.le_refl _,fun _=>rfl⟩,.inl rfl⟩,rfl⟩⟩⟩⟩⟩⟩⟩⟩⟩,rfl⟩)) (fun b3=> ?_)
 refine W_rs ?_
 refine rq (out:=al b1 0) ai ?_
 refine rq (out:=al b1 0) qNilP ?_
 refine rq (out:=al b1 1) (a3 fld65_1) ?_
 refine rq (out:=Pr.i64 x2.at_) (a7 (R:=ae) (a:=x2) (R':=Rp.int .i64) 0 ty3 subParseParser_at) ?_
 refine rq (out:=Pr.i64 x2.at_) aj ?_
 refine W_rs ?_
 refine rq (out:=al b1 0) ai ?_
 rcases aq h with⟨m41,hm41,h⟩|⟨x4,hx4,h⟩
 ·refine az [0] (ao ([99,108,97,115,115]:List UInt8) x2 b1 _ hm41) ⟨aa,aa,trivial⟩ (fun q C' hq=> ?_) (fun v9 hv=> ?_)
  ·obtain⟨_,h9,_⟩:=hq;cases h9
  obtain⟨_,h9,rfl⟩:=hv
  cases h9
  obtain rfl:=Option.some.inj h
  exact .inr ⟨_,rfl,_,rfl,rfl⟩
 refine az [0] (ao ([99,108,97,115,115]:List UInt8) x2 b1 _ hx4) ⟨aa,aa,trivial⟩ (fun q C' hq=> ?_) (fun v9 hv=>by obtain⟨_,h9,_⟩:=hv;cases h9)
 obtain⟨_,h9,rfl,rfl⟩:=hq
 cases h9
 refine rCtx [Own.box b1 ae x4,Own.box b3 rApiNode (ApiNode.mk 0 [] [] 0 0 0 0 0 [])] ?_
 refine W_rs ?_
 refine rq (out:=al b1 0) ai ?_
 rcases aq h with⟨m40,hm40,h⟩|⟨⟨x5,x6⟩,hx5,h⟩
 ·refine az [0] (bl x4 b1 _ hm40) ⟨aa,trivial⟩ (fun q C' hq=> ?_) (fun v9 hv=> ?_)
  ·obtain⟨_,h9,_⟩:=hq;cases h9
  obtain⟨_,h9,rfl⟩:=hv
  cases h9
  obtain rfl:=Option.some.inj h
  exact .inr ⟨_,rfl,_,rfl,rfl⟩
 refine az [0] (bl x4 b1 _ hx5) ⟨aa,trivial⟩ (fun q C' hq=> ?_) (fun v9 hv=>by obtain⟨_,h9,_⟩:=hv;cases h9)
 obtain⟨_,h9,rfl,rfl⟩:=hq
 cases h9
 refine rCtx [Own.box b1 ae x6,Own.box b3 rApiNode (ApiNode.mk 0 [] [] 0 0 0 0 0 [])] ?_
 refine bi (R:=af) (z:=(ApiToken.mk 0 [] 0 [])) Tryz.zeroValue37 (fun _=>⟨_,⟨_,_,rfl,rfl,⟨_,_,rfl,rfl,⟨_,_,rfl,rfl,⟨_,_,rfl,rfl,rfl⟩⟩⟩⟩,rfl⟩) (fun b7=> ?_)
 refine a5 (R:=af) (R':=af) (a:=(ApiToken.mk 0 [] 0 [])) (y:=x5) 2 Tryz.sizeOf37 (Upd.refl _) ?_
 refine W_rs ?_
 refine bi (R:=af) (z:=(ApiToken.mk 0 [] 0 [])) Tryz.zeroValue37 (fun _=>⟨_,⟨_,_,rfl,rfl,⟨_,_,rfl,rfl,⟨_,_,rfl,rfl,⟨_,_,rfl,rfl,rfl⟩⟩⟩⟩,rfl⟩) (fun b8=> ?_)
 refine W_rs ?_
 refine rq (out:=al b1 0) ai ?_
 obtain⟨⟨x9,x10⟩,hx9,h⟩:=ak h
 refine i7 [0] (a6 ([101,120,116,101,110,100,115]:List UInt8) x6 b1 _ hx9) (fun q C' hq=> ?_)
 obtain⟨rfl,rfl⟩:=hq
 refine rCtx [Own.box b1 ae x10,Own.box b3 rApiNode (ApiNode.mk 0 [] [] 0 0 0 0 0 []),Own.box b7 af x5,Own.box b8 af (ApiToken.mk 0 [] 0 [])] ?_
 refine rq (out:=Pr.bool x9) aj ?_
 refine cd (fun e C=>∃(x15:ParseParser),∃(x16:ApiToken),dc x2 x5 x9 x15 x16=some r/\At [(0,al b1 0),(2,al b3 0),(3,Pr.i64 x2.at_),(4,al b7 0),(5,al b8 0),(6,Pr.bool x9)] [Own.box b1 ae x15,Own.box b3 rApiNode (ApiNode.mk 0 [] [] 0 0 0 0 0 []),Own.box b7 af x5,Own.box b8 af x16] e C) ?_ ?_
 ·rintro e C ⟨x15,x16,h,hat5⟩
  refine W_at hat5 ?_
  clear hat5
  unfold dc at h
  refine W_rs ?_
  refine rq (out:=al b1 0) ai ?_
  rcases aq h with⟨m39,hm39,h⟩|⟨x17,hx17,h⟩
  ·refine az [0] (ao ([123]:List UInt8) x15 b1 _ hm39) ⟨aa,aa,trivial⟩ (fun q C' hq=> ?_) (fun v9 hv=> ?_)
   ·obtain⟨_,h9,_⟩:=hq;cases h9
   obtain⟨_,h9,rfl⟩:=hv
   cases h9
   obtain rfl:=Option.some.inj h
   exact .inr ⟨_,rfl,_,rfl,rfl⟩
  refine az [0] (ao ([123]:List UInt8) x15 b1 _ hx17) ⟨aa,aa,trivial⟩ (fun q C' hq=> ?_) (fun v9 hv=>by obtain⟨_,h9,_⟩:=hv;cases h9)
  obtain⟨_,h9,rfl,rfl⟩:=hq
  cases h9
  refine rCtx [Own.box b1 ae x17,Own.box b3 rApiNode (ApiNode.mk 0 [] [] 0 0 0 0 0 []),Own.box b7 af x5,Own.box b8 af x16] ?_
  refine W_rs ?_
  refine rq (out:=Pr.is (.slice none 0 0)) aj ?_
  refine c0 ?_
  refine bu ?_
  obtain⟨z4l,hz4,h⟩:=ak h
  obtain⟨n4,hN4⟩:=dv hz4
  clear hz4
  refine kp 0 (fun e C=>∃(x25:ParseParser),∃(x20:List ApiNode),∃(v18:Value),fy x2 x5 x9 x16 x25 x20=some r/\At [(0,al b1 0),(2,al b3 0),(3,Pr.i64 x2.at_),(4,al b7 0),(5,al b8 0),(6,Pr.bool x9),(7,Pr.is v18)] [Own.box b1 ae x25,Own.box b3 rApiNode (ApiNode.mk 0 [] [] 0 0 0 0 0 []),Own.box b7 af x5,Own.box b8 af x16,Own.vec v18 rApiNode x20 32] e C) ?_ ?_
  ·rintro e C ⟨x25,x20,v18,h,hat3⟩
   refine W_at hat3 ?_
   clear hat3
   unfold fy at h
   refine W_rel 4 [7] ?_ rfl ⟨rfl,trivial⟩
   refine cd (fun e C=>∃(x33:ApiNode),∃(b34:Nat),f0 x9 x16 x25 x33=some r/\At [(0,al b1 0),(2,al b3 0),(5,al b8 0),(6,Pr.bool x9),(8,al b34 0)] [Own.box b1 ae x25,Own.box b3 rApiNode (ApiNode.mk 0 [] [] 0 0 0 0 0 []),Own.box b7 af x5,Own.box b8 af x16,Own.box b34 rApiNode x33] e C) ?_ ?_
   ·rintro e C ⟨x33,b34,h,hat2⟩
    refine W_at hat2 ?_
    clear hat2
    unfold f0 at h
    refine cd (fun e C=>∃(x37:ApiNode),ev x25 x37=some r/\At [(0,al b1 0),(2,al b3 0),(8,al b34 0)] [Own.box b1 ae x25,Own.box b3 rApiNode (ApiNode.mk 0 [] [] 0 0 0 0 0 []),Own.box b7 af x5,Own.box b8 af x16,Own.box b34 rApiNode x37] e C) ?_ ?_
    ·rintro e C ⟨x37,h,hat1⟩
     refine W_at hat1 ?_
     clear hat1
     unfold ev at h
     refine W_rs ?_
     refine rq (out:=(rApiNode).val x37) (a7 (R:=rApiNode) (a:=x37) (R':=rApiNode) 4 ty32 (Sub.refl _)) ?_
     refine a5 (R:=rApiNode) (R':=rApiNode) (a:=(ApiNode.mk 0 [] [] 0 0 0 0 0 [])) (y:=x37) 1 Tryz.sizeOf32 (Upd.refl _) ?_
     obtain rfl:=Option.some.inj h
     exact bp (.inl ⟨.inl rfl,[(rApiNode).val x37],⟨yBox 1 ty32 aa,trivial⟩,_,Pick.of [0] rfl,_,rfl,rfl,rfl⟩)
    refine W_rs ?_
    refine rq (out:=Pr.bool x9) ai ?_
    refine a8 (b:=x9) rfl (fun hc35=> ?_) (fun hc35=> ?_)
    ·replace h:=iteT hc35 h
     refine W_r ?_
     refine rq (out:=(rApiNode).val x33) (a7 (R:=rApiNode) (a:=x33) (R':=rApiNode) 4 ty32 (Sub.refl _)) ?_
     refine rq (out:=(af).val x16) (a7 (R:=af) (a:=x16) (R':=af) 3 ty37 (Sub.refl _)) ?_
     obtain⟨x36,hx36,h⟩:=ak h
     refine rq (out:=(rApiNode).val x36) (dt (parse_typed_ok x33 x16 _ hx36)) ?_
     refine a5 (R:=rApiNode) (R':=rApiNode) (a:=x33) (y:=x36) 4 Tryz.sizeOf32 (Upd.refl _) ?_
     exact⟨x36,h,⟨⟨aa,aa,aa,trivial⟩,Pick.refl _⟩⟩
    replace h:=iteF hc35 h
    refine bj ?_
    exact⟨x33,h,⟨⟨aa,aa,aa,trivial⟩,Pick.refl _⟩⟩
   obtain⟨x32,hx32,h⟩:=ak h
   obtain⟨x33,hx33,h⟩:=ak h
   refine W_drawG 1 (fun B S=>[Own.box b1 ae x25,Own.box b3 rApiNode (ApiNode.mk 0 [] [] 0 0 0 0 0 []),Own.box b7 af x5,Own.box b8 af x16,(cond (S 7) (Own.box (B 6) rApiNode x33) (cond (S 6) (Own.box (B 6) rApiNode (ApiNode.mk 0 [] [] 0 0 0 0 0 [])) Own.nil))]) (fun B=>[Own.box b1 ae x25,Own.box b3 rApiNode (ApiNode.mk 0 [] [] 0 0 0 0 0 []),Own.box b7 af x5,Own.box b8 af x16,Own.box (B 6) rApiNode x33]) [al b1 0,Pr.i64 x2.at_,av rApiNode x20,(rApiNode).val x32,(af).val x5,(rApiNode).val x33,.any,.any] (fun k=>([0,0,0,0,0,0,2,1]:List Nat).getD k 0) hmx (by kernel_rfl) (by kernel_rfl) (fun _=>rfl) (fun B S S' h=>by show([Own.box b1 ae x25,Own.box b3 rApiNode (ApiNode.mk 0 [] [] 0 0 0 0 0 []),Own.box b7 af x5,Own.box b8 af x16,(cond (S 7) (Own.box (B 6) rApiNode x33) (cond (S 6) (Own.box (B 6) rApiNode (ApiNode.mk 0 [] [] 0 0 0 0 0 [])) Own.nil))]:Ctx)=[Own.box b1 ae x25,Own.box b3 rApiNode (ApiNode.mk 0 [] [] 0 0 0 0 0 []),Own.box b7 af x5,Own.box b8 af x16,(cond (S' 7) (Own.box (B 6) rApiNode x33) (cond (S' 6) (Own.box (B 6) rApiNode (ApiNode.mk 0 [] [] 0 0 0 0 0 [])) Own.nil))];simp only[h 6 (Nat.le_of_ble_eq_true (by kernel_rfl)),h 7 (Nat.le_of_ble_eq_true (by kernel_rfl))]) (fun _=>rfl) (fun B=> ?_)
   refine gq1 (fun S hK=>ai) ?_
   refine gq1 (fun S hK=>ai) ?_
   refine gq1 (fun S hK=>ai) ?_
   refine gq1 (fun S hK=>(qMade 0 hx32 aa (hi:=rfl))) ?_
   refine gq1 (fun S hK=>(a7 (R:=af) (a:=x5) (R':=af) 2 ty37 (Sub.refl _) (hi:=rfl))) ?_
   refine gq1 (fun S hK=>(dt (gl x32 x5 _ hx33))) ?_
   refine gqA (fun S hK=>⟨fun B' hB=>by show([Own.box b1 ae x25,Own.box b3 rApiNode (ApiNode.mk 0 [] [] 0 0 0 0 0 []),Own.box b7 af x5,Own.box b8 af x16,(cond (S 7) (Own.box (B' 6) rApiNode x33) (cond (S 6) (Own.box (B' 6) rApiNode (ApiNode.mk 0 [] [] 0 0 0 0 0 [])) Own.nil))]:Ctx)=[Own.box b1 ae x25,Own.box b3 rApiNode (ApiNode.mk 0 [] [] 0 0 0 0 0 []),Own.box b7 af x5,Own.box b8 af x16,(cond (S 7) (Own.box (B 6) rApiNode x33) (cond (S 6) (Own.box (B 6) rApiNode (ApiNode.mk 0 [] [] 0 0 0 0 0 [])) Own.nil))];simp only[hK.me,hK.F 7 (by kernel_rfl),cond_false],fun s ρ hg _=>sAlloc (R:=rApiNode) (z:=(ApiNode.mk 0 [] [] 0 0 0 0 0 [])) 4 Tryz.zeroValue32 (fun _=>(by rw[ap];exact⟨_,⟨_,_,rfl,rfl,⟨_,_,rfl,rfl,⟨_,_,rfl,rfl,⟨_,_,rfl,rfl,⟨_,_,rfl,rfl,⟨_,_,rfl,rfl,⟨_,_,rfl,rfl,⟨_,_,rfl,rfl,⟨_,_,rfl,⟨_,rfl,none,0,rfl,⟨Nat.le_refl _,fun _=>rfl⟩,.inl rfl⟩,rfl⟩⟩⟩⟩⟩⟩⟩⟩⟩,rfl⟩)) (congrArg some ((condF (hK.F 7 (by kernel_rfl)) _ _).trans (condF (hK.me) _ _))) (fun b=>by show([Own.box b1 ae x25,Own.box b3 rApiNode (ApiNode.mk 0 [] [] 0 0 0 0 0 []),Own.box b7 af x5,Own.box b8 af x16,(cond (S 7) (Own.box b rApiNode x33) (Own.box b rApiNode (ApiNode.mk 0 [] [] 0 0 0 0 0 [])))]:Ctx)=_;rw[hK.F 7 (by kernel_rfl)];rfl) s ρ hg⟩) ?_
   refine gqS (fun S hK=>SStep.as (sStore (R:=rApiNode) (R':=rApiNode) (a:=(ApiNode.mk 0 [] [] 0 0 0 0 0 [])) (y:=x33) 4 Tryz.sizeOf32 (Upd.refl _) (congrArg some ((condF (hK.me) _ _).trans (condT (hK.T 6 (by kernel_rfl)) _ _)))) (by show(_:Ctx)=[Own.box b1 ae x25,Own.box b3 rApiNode (ApiNode.mk 0 [] [] 0 0 0 0 0 []),Own.box b7 af x5,Own.box b8 af x16,Own.box (B 6) rApiNode x33];rfl)) ?_
   exact⟨x33,(B 6),h,⟨⟨aa,aa,aa,aa,aa,trivial⟩,Pick.refl _⟩⟩
  refine W_nil [7] rApiNode 32 (fun v38=> ?_) ⟨rfl,trivial⟩
  refine k8 (fun m e C=>∃(x19:ParseParser),∃(x20:List ApiNode),∃(v18:Value),i1 (fun s=>bx s.1 s.2) m (x19,x20)=some z4l/\At [(0,al b1 0),(2,al b3 0),(3,Pr.i64 x2.at_),(4,al b7 0),(5,al b8 0),(6,Pr.bool x9),(7,Pr.is v18)] [Own.box b1 ae x19,Own.box b3 rApiNode (ApiNode.mk 0 [] [] 0 0 0 0 0 []),Own.box b7 af x5,Own.box b8 af x16,Own.vec v18 rApiNode x20 32] e C) n4 ⟨x17,[],v38,hN4,⟨⟨aa,aa,aa,aa,aa,aa,aa,trivial⟩,Pick.refl _⟩⟩ ?_
  clear hN4
  rintro m e C ⟨x19,x20,v18,hN4,hatl4⟩
  refine W_at hatl4 ?_
  clear hatl4
  obtain⟨m4,w4l,rfl,h4l,hn4,ho4⟩:=dp hN4
  clear hN4
  replace h4l:bx x19 x20=some w4l:=h4l
  unfold bx at h4l
  refine c0 ?_
  refine W_rs ?_
  refine rq (out:=al b1 0) ai ?_
  obtain⟨⟨x24,x25⟩,hx24,h4l⟩:=ak h4l
  refine i7 [0] (a6 ([125]:List UInt8) x19 b1 _ hx24) (fun q C' hq=> ?_)
  obtain⟨rfl,rfl⟩:=hq
  refine rCtx [Own.box b1 ae x25,Own.box b3 rApiNode (ApiNode.mk 0 [] [] 0 0 0 0 0 []),Own.box b7 af x5,Own.box b8 af x16,Own.vec v18 rApiNode x20 32] ?_
  refine rq (out:=Pr.bool (!x24)) qNot ?_
  refine a8 (b:= !x24) rfl (fun hc26=> ?_) (fun hc26=> ?_)
  ·replace h4l:=iteT hc26 h4l
   refine bj ?_
   refine bu ?_
   refine W_r ?_
   refine rq (out:=Pr.is v18) ai ?_
   refine rq (out:=al b1 0) ai ?_
   rcases aq h4l with⟨m31,hm31,h4l⟩|⟨⟨x27,x28⟩,hx27,h4l⟩
   ·refine az [0] (ib x25 b1 _ hm31) ⟨aa,trivial⟩ (fun q C' hq=> ?_) (fun v9 hv=> ?_)
    ·obtain⟨_,h9,_⟩:=hq;cases h9
    obtain⟨_,h9,rfl⟩:=hv
    cases h9
    obtain rfl:=ho4 _ (Option.some.inj h4l).symm
    replace h:some (.bad m31)=some r:=h
    obtain rfl:=Option.some.inj h
    exact .inr ⟨_,rfl,_,rfl,rfl⟩
   refine az [0] (ib x25 b1 _ hx27) ⟨aa,trivial⟩ (fun q C' hq=> ?_) (fun v9 hv=>by obtain⟨_,h9,_⟩:=hv;cases h9)
   obtain⟨_,h9,rfl,rfl⟩:=hq
   cases h9
   refine rCtx [Own.box b1 ae x28,Own.box b3 rApiNode (ApiNode.mk 0 [] [] 0 0 0 0 0 []),Own.box b7 af x5,Own.box b8 af x16,Own.vec v18 rApiNode x20 32] ?_
   refine rq (out:=av rApiNode ([x27]:List ApiNode)) (cn (R:=rApiNode) (a:=x27) el24 (Nat.le_of_ble_eq_true rfl)) ?_
   obtain⟨x29,hx29,h4l⟩:=ak h4l
   refine kz 4 el24 hx29 (fun v30=> ?_)
   refine rq (out:=Pr.is v30) aj ?_
   exact⟨m4,Nat.lt_succ_self _,x28,x29,v30,hn4 _ (Option.some.inj h4l).symm,⟨⟨aa,aa,aa,aa,aa,aa,aa,trivial⟩,Pick.refl _⟩⟩
  replace h4l:=iteF hc26 h4l
  refine jn ?_
  obtain rfl:=ho4 _ (Option.some.inj h4l).symm
  exact⟨x25,x20,v18,h,⟨⟨aa,aa,aa,aa,aa,aa,aa,trivial⟩,Pick.refl _⟩⟩
 refine W_rs ?_
 refine rq (out:=Pr.bool x9) ai ?_
 refine a8 (b:=x9) rfl (fun hc11=> ?_) (fun hc11=> ?_)
 ·replace h:=iteT hc11 h
  refine W_r ?_
  refine rq (out:=al b1 0) ai ?_
  rcases aq h with⟨m14,hm14,h⟩|⟨⟨x12,x13⟩,hx12,h⟩
  ·refine az [0] (bl x10 b1 _ hm14) ⟨aa,trivial⟩ (fun q C' hq=> ?_) (fun v9 hv=> ?_)
   ·obtain⟨_,h9,_⟩:=hq;cases h9
   obtain⟨_,h9,rfl⟩:=hv
   cases h9
   obtain rfl:=Option.some.inj h
   exact .inr ⟨_,rfl,_,rfl,rfl⟩
  refine az [0] (bl x10 b1 _ hx12) ⟨aa,trivial⟩ (fun q C' hq=> ?_) (fun v9 hv=>by obtain⟨_,h9,_⟩:=hv;cases h9)
  obtain⟨_,h9,rfl,rfl⟩:=hq
  cases h9
  refine rCtx [Own.box b1 ae x13,Own.box b3 rApiNode (ApiNode.mk 0 [] [] 0 0 0 0 0 []),Own.box b7 af x5,Own.box b8 af (ApiToken.mk 0 [] 0 [])] ?_
  refine a5 (R:=af) (R':=af) (a:=(ApiToken.mk 0 [] 0 [])) (y:=x12) 3 Tryz.sizeOf37 (Upd.refl _) ?_
  exact⟨x13,x12,h,⟨⟨aa,aa,aa,aa,aa,aa,trivial⟩,Pick.refl _⟩⟩
 replace h:=iteF hc11 h
 refine bj ?_
 exact⟨x10,(ApiToken.mk 0 [] 0 []),h,⟨⟨aa,aa,aa,aa,aa,aa,trivial⟩,Pick.refl _⟩⟩
theorem parse_File_1_ok (x2:ParseParser) (b1:Nat) (r:PX ParseWrong ((List ApiNode) × ParseParser)) (h:ip x2=some r):FnX Tryz.prog 21 [al b1 0] [Own.box b1 ae x2] (fun q C'=>∃a9,r= .ok a9/\q=av rApiNode a9.1/\C'=[Own.box b1 ae a9.2]) (fun v=>∃m,r= .bad m/\v=cv m):=by
 refine fnx_introP (n:=14) (rs:=[2]) Tryz.func21 rfl Tryz.ntmps21 ⟨by decide,Tryz.results21⟩ (by decide) (fun s0=> ?_)
 unfold ip at h
 refine W_rs ?_
 refine rq (out:=Pr.is (.slice none 0 0)) aj ?_
 refine W_rs ?_
 refine rq (out:=Pr.is (.slice none 0 0)) aj ?_
 refine c0 ?_
 refine bu ?_
 obtain⟨z2l,hz2,h⟩:=ak h
 obtain⟨n2,hN2⟩:=dv hz2
 clear hz2
 refine kp 0 (fun e C=>∃(x4:ParseParser),∃(x5:List ApiNode),∃(v3:Value),jc x4 x5=some r/\At [(0,al b1 0),(3,Pr.is v3)] [Own.box b1 ae x4,Own.vec v3 rApiNode x5 32] e C) ?_ ?_
 ·rintro e C ⟨x4,x5,v3,h,hat1⟩
  refine W_at hat1 ?_
  clear hat1
  unfold jc at h
  refine W_rs ?_
  refine rq (out:=Pr.is v3) ai ?_
  refine rq (out:=Pr.is v3) aj ?_
  refine W_rel 1 [2] ?_ rfl ⟨rfl,trivial⟩
  obtain rfl:=Option.some.inj h
  exact bp (.inl ⟨.inl rfl,_,Pick.refl _,_,(aa),_,rfl,rfl,rfl⟩)
 refine W_nil [3] rApiNode 32 (fun v16=> ?_) ⟨rfl,trivial⟩
 refine k8 (fun m e C=>∃(x4:ParseParser),∃(x5:List ApiNode),∃(v3:Value),i1 (fun s=>au s.1 s.2) m (x4,x5)=some z2l/\At [(0,al b1 0),(3,Pr.is v3)] [Own.box b1 ae x4,Own.vec v3 rApiNode x5 32] e C) n2 ⟨x2,[],v16,hN2,⟨⟨aa,aa,trivial⟩,Pick.refl _⟩⟩ ?_
 clear hN2
 rintro m e C ⟨x4,x5,v3,hN2,hatl2⟩
 refine W_at hatl2 ?_
 clear hatl2
 obtain⟨m2,w2l,rfl,h2l,hn2,ho2⟩:=dp hN2
 clear hN2
 replace h2l:au x4 x5=some w2l:=h2l
 unfold au at h2l
 refine c0 ?_
 refine W_rs ?_
 refine rq (out:=al b1 0) ai ?_
 obtain⟨x9,hx9,h2l⟩:=ak h2l
 refine rq (out:=(af).val x9) (qCallBx 0 (cc x4 _ hx9) ⟨.inr ⟨aa,rfl⟩,trivial⟩ (fun _ _ _ h=>Flat.val gk _ _ _ _ h)) ?_
 refine rq (out:=Pr.i64 x9.Kind) (qField (R:=af) (R':=Rp.int .i64) (a:=x9) rfl fld37_0 di (Nat.le_of_ble_eq_true rfl)) ?_
 refine rq (out:=Pr.bool (x9.Kind != 5)) qInt ?_
 refine a8 (b:=x9.Kind != 5) rfl (fun hc10=> ?_) (fun hc10=> ?_)
 ·replace h2l:=iteT hc10 h2l
  refine bj ?_
  refine bu ?_
  refine W_r ?_
  refine rq (out:=Pr.is v3) ai ?_
  refine rq (out:=al b1 0) ai ?_
  rcases aq h2l with⟨m15,hm15,h2l⟩|⟨⟨x11,x12⟩,hx11,h2l⟩
  ·refine az [0] (parse_parser_class_ok x4 b1 _ hm15) ⟨aa,trivial⟩ (fun q C' hq=> ?_) (fun v9 hv=> ?_)
   ·obtain⟨_,h9,_⟩:=hq;cases h9
   obtain⟨_,h9,rfl⟩:=hv
   cases h9
   obtain rfl:=ho2 _ (Option.some.inj h2l).symm
   replace h:some (.bad m15)=some r:=h
   obtain rfl:=Option.some.inj h
   exact .inr ⟨_,rfl,_,rfl,rfl⟩
  refine az [0] (parse_parser_class_ok x4 b1 _ hx11) ⟨aa,trivial⟩ (fun q C' hq=> ?_) (fun v9 hv=>by obtain⟨_,h9,_⟩:=hv;cases h9)
  obtain⟨_,h9,rfl,rfl⟩:=hq
  cases h9
  refine rCtx [Own.box b1 ae x12,Own.vec v3 rApiNode x5 32] ?_
  refine rq (out:=av rApiNode ([x11]:List ApiNode)) (cn (R:=rApiNode) (a:=x11) el24 (Nat.le_of_ble_eq_true rfl)) ?_
  obtain⟨x13,hx13,h2l⟩:=ak h2l
  refine kz 1 el24 hx13 (fun v14=> ?_)
  refine rq (out:=Pr.is v14) aj ?_
  exact⟨m2,Nat.lt_succ_self _,x12,x13,v14,hn2 _ (Option.some.inj h2l).symm,⟨⟨aa,aa,trivial⟩,Pick.refl _⟩⟩
 replace h2l:=iteF hc10 h2l
 refine jn ?_
 obtain rfl:=ho2 _ (Option.some.inj h2l).symm
 exact⟨x4,x5,v3,h,⟨⟨aa,aa,trivial⟩,Pick.refl _⟩⟩
theorem parse_parser_either_ok (x1:Int) (x3:ParseParser) (b2:Nat) (r:PX ParseWrong (ApiNode × ParseParser)) (h:k7 x1 x3=some r):FnX Tryz.prog 35 [al b2 0,Pr.i64 x1] [Own.box b2 ae x3] (fun q C'=>∃a9,r= .ok a9/\q=(rApiNode).val a9.1/\C'=[Own.box b2 ae a9.2]) (fun v=>∃m,r= .bad m/\v=cv m):=by
 refine d4 (n:=13) (rs:=[.cell 4 32]) Tryz.func35 rfl Tryz.ntmps35 Tryz.results35 (by decide) (fun s0=> ?_)
 unfold k7 at h
 refine W_rs ?_
 refine bi (R:=rApiNode) (z:=(ApiNode.mk 0 [] [] 0 0 0 0 0 [])) Tryz.zeroValue32 (fun _=>(by rw[ap];exact⟨_,⟨_,_,rfl,rfl,⟨_,_,rfl,rfl,⟨_,_,rfl,rfl,⟨_,_,rfl,rfl,⟨_,_,rfl,rfl,⟨_,_,rfl,rfl,⟨_,_,rfl,rfl,⟨_,_,rfl,rfl,⟨_,_,rfl,⟨_,rfl,none,0,rfl,⟨Nat.le_refl _,fun _=>rfl⟩,.inl rfl⟩,rfl⟩⟩⟩⟩⟩⟩⟩⟩⟩,rfl⟩)) (fun b4=> ?_)
 refine c0 ?_
 refine W_rs ?_
 refine rq (out:=al b2 0) ai ?_
 obtain⟨x5,hx5,h⟩:=ak h
 refine rq (out:=Pr.bool x5) (qCallBx 0 (parse_parser_isLocal_ok x3 _ hx5) ⟨.inr ⟨aa,rfl⟩,trivial⟩ (fun _ _ _ h=>h)) ?_
 refine a8 (b:=x5) rfl (fun hc6=> ?_) (fun hc6=> ?_)
 ·replace h:=iteT hc6 h
  refine W_rs ?_
  refine rq (out:=al b2 0) ai ?_
  refine rq (out:=Pr.i64 x1) ai ?_
  rcases aq h with⟨m9,hm9,h⟩|⟨⟨x7,x8⟩,hx7,h⟩
  ·refine az [0] (iv x1 x3 b2 _ hm9) ⟨aa,aa,trivial⟩ (fun q C' hq=> ?_) (fun v9 hv=> ?_)
   ·obtain⟨_,h9,_⟩:=hq;cases h9
   obtain⟨_,h9,rfl⟩:=hv
   cases h9
   obtain rfl:=Option.some.inj h
   exact .inr ⟨_,rfl,_,rfl,rfl⟩
  refine az [0] (iv x1 x3 b2 _ hx7) ⟨aa,aa,trivial⟩ (fun q C' hq=> ?_) (fun v9 hv=>by obtain⟨_,h9,_⟩:=hv;cases h9)
  obtain⟨_,h9,rfl,rfl⟩:=hq
  cases h9
  refine rCtx [Own.box b2 ae x8,Own.box b4 rApiNode (ApiNode.mk 0 [] [] 0 0 0 0 0 [])] ?_
  refine a5 (R:=rApiNode) (R':=rApiNode) (a:=(ApiNode.mk 0 [] [] 0 0 0 0 0 [])) (y:=x7) 1 Tryz.sizeOf32 (Upd.refl _) ?_
  obtain rfl:=Option.some.inj h
  exact bp (.inl ⟨.inl rfl,[(rApiNode).val x7],⟨yBox 1 ty32 aa,trivial⟩,_,Pick.of [0] rfl,_,rfl,rfl,rfl⟩)
 replace h:=iteF hc6 h
 refine bj ?_
 refine W_rs ?_
 refine rq (out:=al b2 0) ai ?_
 refine rq (out:=Pr.i64 x1) ai ?_
 rcases aq h with⟨m12,hm12,h⟩|⟨⟨x10,x11⟩,hx10,h⟩
 ·refine az [0] (kw x1 x3 b2 _ hm12) ⟨aa,aa,trivial⟩ (fun q C' hq=> ?_) (fun v9 hv=> ?_)
  ·obtain⟨_,h9,_⟩:=hq;cases h9
  obtain⟨_,h9,rfl⟩:=hv
  cases h9
  obtain rfl:=Option.some.inj h
  exact .inr ⟨_,rfl,_,rfl,rfl⟩
 refine az [0] (kw x1 x3 b2 _ hx10) ⟨aa,aa,trivial⟩ (fun q C' hq=> ?_) (fun v9 hv=>by obtain⟨_,h9,_⟩:=hv;cases h9)
 obtain⟨_,h9,rfl,rfl⟩:=hq
 cases h9
 refine rCtx [Own.box b2 ae x11,Own.box b4 rApiNode (ApiNode.mk 0 [] [] 0 0 0 0 0 [])] ?_
 refine a5 (R:=rApiNode) (R':=rApiNode) (a:=(ApiNode.mk 0 [] [] 0 0 0 0 0 [])) (y:=x10) 1 Tryz.sizeOf32 (Upd.refl _) ?_
 obtain rfl:=Option.some.inj h
 exact bp (.inl ⟨.inl rfl,[(rApiNode).val x10],⟨yBox 1 ty32 aa,trivial⟩,_,Pick.of [0] rfl,_,rfl,rfl,rfl⟩)
theorem parse_Expression_1_ok (x2:ParseParser) (b1:Nat) (r:PX ParseWrong (ApiNode × ParseParser)) (h:parse_Expression_1 x2=some r):FnX Tryz.prog 32 [al b1 0] [Own.box b1 ae x2] (fun q C'=>∃a9,r= .ok a9/\q=(rApiNode).val a9.1/\C'=[Own.box b1 ae a9.2]) (fun v=>∃m,r= .bad m/\v=cv m):=by
 refine d4 (n:=5) (rs:=[.cell 2 32]) Tryz.func32 rfl Tryz.ntmps32 Tryz.results32 (by decide) (fun s0=> ?_)
 unfold parse_Expression_1 at h
 refine W_rs ?_
 refine bi (R:=rApiNode) (z:=(ApiNode.mk 0 [] [] 0 0 0 0 0 [])) Tryz.zeroValue32 (fun _=>(by rw[ap];exact⟨_,⟨_,_,rfl,rfl,⟨_,_,rfl,rfl,⟨_,_,rfl,rfl,⟨_,_,rfl,rfl,⟨_,_,rfl,rfl,⟨_,_,rfl,rfl,⟨_,_,rfl,rfl,⟨_,_,rfl,rfl,⟨_,_,rfl,⟨_,rfl,none,0,rfl,⟨Nat.le_refl _,fun _=>rfl⟩,.inl rfl⟩,rfl⟩⟩⟩⟩⟩⟩⟩⟩⟩,rfl⟩)) (fun b3=> ?_)
 refine W_rs ?_
 refine rq (out:=al b1 0) ai ?_
 rcases aq h with⟨m6,hm6,h⟩|⟨⟨x4,x5⟩,hx4,h⟩
 ·refine az [0] (bc 1 0 x2 b1 _ hm6) ⟨aa,aa,aa,trivial⟩ (fun q C' hq=> ?_) (fun v9 hv=> ?_)
  ·obtain⟨_,h9,_⟩:=hq;cases h9
  obtain⟨_,h9,rfl⟩:=hv
  cases h9
  obtain rfl:=Option.some.inj h
  exact .inr ⟨_,rfl,_,rfl,rfl⟩
 refine az [0] (bc 1 0 x2 b1 _ hx4) ⟨aa,aa,aa,trivial⟩ (fun q C' hq=> ?_) (fun v9 hv=>by obtain⟨_,h9,_⟩:=hv;cases h9)
 obtain⟨_,h9,rfl,rfl⟩:=hq
 cases h9
 refine rCtx [Own.box b1 ae x5,Own.box b3 rApiNode (ApiNode.mk 0 [] [] 0 0 0 0 0 [])] ?_
 refine a5 (R:=rApiNode) (R':=rApiNode) (a:=(ApiNode.mk 0 [] [] 0 0 0 0 0 [])) (y:=x4) 1 Tryz.sizeOf32 (Upd.refl _) ?_
 obtain rfl:=Option.some.inj h
 exact bp (.inl ⟨.inl rfl,[(rApiNode).val x4],⟨yBox 1 ty32 aa,trivial⟩,_,Pick.of [0] rfl,_,rfl,rfl,rfl⟩)
theorem parse_Statement_1_ok (x2:ParseParser) (b1:Nat) (r:PX ParseWrong (ApiNode × ParseParser)) (h:parse_Statement_1 x2=some r):FnX Tryz.prog 34 [al b1 0] [Own.box b1 ae x2] (fun q C'=>∃a9,r= .ok a9/\q=(rApiNode).val a9.1/\C'=[Own.box b1 ae a9.2]) (fun v=>∃m,r= .bad m/\v=cv m):=by
 refine d4 (n:=5) (rs:=[.cell 2 32]) Tryz.func34 rfl Tryz.ntmps34 Tryz.results34 (by decide) (fun s0=> ?_)
 unfold parse_Statement_1 at h
 refine W_rs ?_
 refine bi (R:=rApiNode) (z:=(ApiNode.mk 0 [] [] 0 0 0 0 0 [])) Tryz.zeroValue32 (fun _=>(by rw[ap];exact⟨_,⟨_,_,rfl,rfl,⟨_,_,rfl,rfl,⟨_,_,rfl,rfl,⟨_,_,rfl,rfl,⟨_,_,rfl,rfl,⟨_,_,rfl,rfl,⟨_,_,rfl,rfl,⟨_,_,rfl,rfl,⟨_,_,rfl,⟨_,rfl,none,0,rfl,⟨Nat.le_refl _,fun _=>rfl⟩,.inl rfl⟩,rfl⟩⟩⟩⟩⟩⟩⟩⟩⟩,rfl⟩)) (fun b3=> ?_)
 refine W_rs ?_
 refine rq (out:=al b1 0) ai ?_
 rcases aq h with⟨m6,hm6,h⟩|⟨⟨x4,x5⟩,hx4,h⟩
 ·refine az [0] (parse_parser_either_ok 1 x2 b1 _ hm6) ⟨aa,aa,trivial⟩ (fun q C' hq=> ?_) (fun v9 hv=> ?_)
  ·obtain⟨_,h9,_⟩:=hq;cases h9
  obtain⟨_,h9,rfl⟩:=hv
  cases h9
  obtain rfl:=Option.some.inj h
  exact .inr ⟨_,rfl,_,rfl,rfl⟩
 refine az [0] (parse_parser_either_ok 1 x2 b1 _ hx4) ⟨aa,aa,trivial⟩ (fun q C' hq=> ?_) (fun v9 hv=>by obtain⟨_,h9,_⟩:=hv;cases h9)
 obtain⟨_,h9,rfl,rfl⟩:=hq
 cases h9
 refine rCtx [Own.box b1 ae x5,Own.box b3 rApiNode (ApiNode.mk 0 [] [] 0 0 0 0 0 [])] ?_
 refine a5 (R:=rApiNode) (R':=rApiNode) (a:=(ApiNode.mk 0 [] [] 0 0 0 0 0 [])) (y:=x4) 1 Tryz.sizeOf32 (Upd.refl _) ?_
 obtain rfl:=Option.some.inj h
 exact bp (.inl ⟨.inl rfl,[(rApiNode).val x4],⟨yBox 1 ty32 aa,trivial⟩,_,Pick.of [0] rfl,_,rfl,rfl,rfl⟩)
end Go.Proofs.YtackaijkmkollaaGreatDoor
