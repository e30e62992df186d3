/- The code comes to what these functions say (printed by wip/gen/gen.py). -/
import Derived.Test.YtackaijkmkollaaGreatDoorZP2
import Derived.Test.YtackaijkmkollaaGreatDoorZT
set_option linter.unusedSimpArgs false
set_option linter.unusedVariables false
set_option linter.unusedSectionVars false
set_option linter.unusedSectionVars false
set_option maxRecDepth 100000
set_option maxHeartbeats 4000000
namespace Go.Proofs.YtackaijkmkollaaGreatDoor
open Go Go.Cn
variable [Known]
theorem iv (x1:Int) (x3:ParseParser) (b2:Nat) (r:PX ParseWrong (ApiNode × ParseParser)) (h:fa x1 x3=some r):FnX Tryz.prog 57 [al b2 0,Pr.i64 x1] [Own.box b2 ae x3] (fun q C'=>∃a9,r= .ok a9/\q=(rApiNode).val a9.1/\C'=[Own.box b2 ae a9.2]) (fun v=>∃m,r= .bad m/\v=cv m):=by
 refine d4 (n:=37) (rs:=[.cell 4 32]) Tryz.func57 rfl Tryz.ntmps57 Tryz.results57 (by decide) (fun s0=> ?_)
 unfold fa at h
 refine W_rs ?_
 refine bi (R:=rApiNode) (z:=(ApiNode.mk 0 [] [] 0 0 0 0 0 [])) Tryz.zeroValue32 (fun _=>(by rw[ap];exact⟨_,⟨_,_,rfl,rfl,⟨_,_,rfl,rfl,⟨_,_,rfl,rfl,⟨_,_,rfl,rfl,⟨_,_,rfl,rfl,⟨_,_,rfl,rfl,⟨_,_,rfl,rfl,⟨_,_,rfl,rfl,⟨_,_,rfl,⟨_,rfl,none,0,rfl,⟨Nat.le_refl _,fun _=>rfl⟩,.inl rfl⟩,rfl⟩⟩⟩⟩⟩⟩⟩⟩⟩,rfl⟩)) (fun b4=> ?_)
 refine W_rs ?_
 refine rq (out:=al b2 0) ai ?_
 refine rq (out:=Pr.i64 x1) ai ?_
 rcases aq h with⟨m25,hm25,h⟩|⟨x5,hx5,h⟩
 ·refine az [0] (eu x1 x3 b2 _ hm25) ⟨aa,aa,trivial⟩ (fun q C' hq=> ?_) (fun v9 hv=> ?_)
  ·obtain⟨_,h9,_⟩:=hq;cases h9
  obtain⟨_,h9,rfl⟩:=hv
  cases h9
  obtain rfl:=Option.some.inj h
  exact .inr ⟨_,rfl,_,rfl,rfl⟩
 refine az [0] (eu x1 x3 b2 _ hx5) ⟨aa,aa,trivial⟩ (fun q C' hq=> ?_) (fun v9 hv=>by obtain⟨_,h9,_⟩:=hv;cases h9)
 obtain⟨_,h9,rfl,rfl⟩:=hq
 cases h9
 refine rCtx [Own.box b2 ae x5,Own.box b4 rApiNode (ApiNode.mk 0 [] [] 0 0 0 0 0 [])] ?_
 refine W_rs ?_
 refine rq (out:=al b2 0) ai ?_
 refine rq (out:=al b2 0) qNilP ?_
 refine rq (out:=al b2 1) (a3 fld65_1) ?_
 refine rq (out:=Pr.i64 x5.at_) (a7 (R:=ae) (a:=x5) (R':=Rp.int .i64) 0 ty3 subParseParser_at) ?_
 refine rq (out:=Pr.i64 x5.at_) aj ?_
 refine W_rs ?_
 refine rq (out:=al b2 0) ai ?_
 rcases aq h with⟨m24,hm24,h⟩|⟨⟨x6,x7⟩,hx6,h⟩
 ·refine az [0] (ir x5 b2 _ hm24) ⟨aa,trivial⟩ (fun q C' hq=> ?_) (fun v9 hv=> ?_)
  ·obtain⟨_,h9,_⟩:=hq;cases h9
  obtain⟨_,h9,rfl⟩:=hv
  cases h9
  obtain rfl:=Option.some.inj h
  exact .inr ⟨_,rfl,_,rfl,rfl⟩
 refine az [0] (ir x5 b2 _ hx6) ⟨aa,trivial⟩ (fun q C' hq=> ?_) (fun v9 hv=>by obtain⟨_,h9,_⟩:=hv;cases h9)
 obtain⟨_,h9,rfl,rfl⟩:=hq
 cases h9
 refine rCtx [Own.box b2 ae x7,Own.box b4 rApiNode (ApiNode.mk 0 [] [] 0 0 0 0 0 [])] ?_
 refine bi (R:=af) (z:=(ApiToken.mk 0 [] 0 [])) Tryz.zeroValue37 (fun _=>⟨_,⟨_,_,rfl,rfl,⟨_,_,rfl,rfl,⟨_,_,rfl,rfl,⟨_,_,rfl,rfl,rfl⟩⟩⟩⟩,rfl⟩) (fun b8=> ?_)
 refine a5 (R:=af) (R':=af) (a:=(ApiToken.mk 0 [] 0 [])) (y:=x6) 2 Tryz.sizeOf37 (Upd.refl _) ?_
 refine W_rs ?_
 refine rq (out:=al b2 0) ai ?_
 rcases aq h with⟨m23,hm23,h⟩|⟨⟨x9,x10⟩,hx9,h⟩
 ·refine az [0] (bl x7 b2 _ hm23) ⟨aa,trivial⟩ (fun q C' hq=> ?_) (fun v9 hv=> ?_)
  ·obtain⟨_,h9,_⟩:=hq;cases h9
  obtain⟨_,h9,rfl⟩:=hv
  cases h9
  obtain rfl:=Option.some.inj h
  exact .inr ⟨_,rfl,_,rfl,rfl⟩
 refine az [0] (bl x7 b2 _ hx9) ⟨aa,trivial⟩ (fun q C' hq=> ?_) (fun v9 hv=>by obtain⟨_,h9,_⟩:=hv;cases h9)
 obtain⟨_,h9,rfl,rfl⟩:=hq
 cases h9
 refine rCtx [Own.box b2 ae x10,Own.box b4 rApiNode (ApiNode.mk 0 [] [] 0 0 0 0 0 []),Own.box b8 af x6] ?_
 refine bi (R:=af) (z:=(ApiToken.mk 0 [] 0 [])) Tryz.zeroValue37 (fun _=>⟨_,⟨_,_,rfl,rfl,⟨_,_,rfl,rfl,⟨_,_,rfl,rfl,⟨_,_,rfl,rfl,rfl⟩⟩⟩⟩,rfl⟩) (fun b11=> ?_)
 refine a5 (R:=af) (R':=af) (a:=(ApiToken.mk 0 [] 0 [])) (y:=x9) 3 Tryz.sizeOf37 (Upd.refl _) ?_
 refine W_rs ?_
 refine rq (out:=al b2 0) ai ?_
 rcases aq h with⟨m22,hm22,h⟩|⟨x12,hx12,h⟩
 ·refine az [0] (ao ([61]:List UInt8) x10 b2 _ hm22) ⟨aa,aa,trivial⟩ (fun q C' hq=> ?_) (fun v9 hv=> ?_)
  ·obtain⟨_,h9,_⟩:=hq;cases h9
  obtain⟨_,h9,rfl⟩:=hv
  cases h9
  obtain rfl:=Option.some.inj h
  exact .inr ⟨_,rfl,_,rfl,rfl⟩
 refine az [0] (ao ([61]:List UInt8) x10 b2 _ hx12) ⟨aa,aa,trivial⟩ (fun q C' hq=> ?_) (fun v9 hv=>by obtain⟨_,h9,_⟩:=hv;cases h9)
 obtain⟨_,h9,rfl,rfl⟩:=hq
 cases h9
 refine rCtx [Own.box b2 ae x12,Own.box b4 rApiNode (ApiNode.mk 0 [] [] 0 0 0 0 0 []),Own.box b8 af x6,Own.box b11 af x9] ?_
 refine W_rs ?_
 refine rq (out:=al b2 0) ai ?_
 refine rq (out:=Pr.i64 x1) ai ?_
 refine rq (out:=Pr.i64 (w64 (x1+1))) qInt ?_
 rcases aq h with⟨m21,hm21,h⟩|⟨⟨x13,x14⟩,hx13,h⟩
 ·refine az [0] (bc (w64 (x1+1)) 0 x12 b2 _ hm21) ⟨aa,aa,aa,trivial⟩ (fun q C' hq=> ?_) (fun v9 hv=> ?_)
  ·obtain⟨_,h9,_⟩:=hq;cases h9
  obtain⟨_,h9,rfl⟩:=hv
  cases h9
  obtain rfl:=Option.some.inj h
  exact .inr ⟨_,rfl,_,rfl,rfl⟩
 refine az [0] (bc (w64 (x1+1)) 0 x12 b2 _ hx13) ⟨aa,aa,aa,trivial⟩ (fun q C' hq=> ?_) (fun v9 hv=>by obtain⟨_,h9,_⟩:=hv;cases h9)
 obtain⟨_,h9,rfl,rfl⟩:=hq
 cases h9
 refine rCtx [Own.box b2 ae x14,Own.box b4 rApiNode (ApiNode.mk 0 [] [] 0 0 0 0 0 []),Own.box b8 af x6,Own.box b11 af x9] ?_
 refine bi (R:=rApiNode) (z:=(ApiNode.mk 0 [] [] 0 0 0 0 0 [])) Tryz.zeroValue32 (fun _=>(by rw[ap];exact⟨_,⟨_,_,rfl,rfl,⟨_,_,rfl,rfl,⟨_,_,rfl,rfl,⟨_,_,rfl,rfl,⟨_,_,rfl,rfl,⟨_,_,rfl,rfl,⟨_,_,rfl,rfl,⟨_,_,rfl,rfl,⟨_,_,rfl,⟨_,rfl,none,0,rfl,⟨Nat.le_refl _,fun _=>rfl⟩,.inl rfl⟩,rfl⟩⟩⟩⟩⟩⟩⟩⟩⟩,rfl⟩)) (fun b15=> ?_)
 refine a5 (R:=rApiNode) (R':=rApiNode) (a:=(ApiNode.mk 0 [] [] 0 0 0 0 0 [])) (y:=x13) 4 Tryz.sizeOf32 (Upd.refl _) ?_
 refine W_rs ?_
 refine rq (out:=al b2 0) ai ?_
 rcases aq h with⟨m20,hm20,h⟩|⟨x16,hx16,h⟩
 ·refine az [0] (ao ([59]:List UInt8) x14 b2 _ hm20) ⟨aa,aa,trivial⟩ (fun q C' hq=> ?_) (fun v9 hv=> ?_)
  ·obtain⟨_,h9,_⟩:=hq;cases h9
  obtain⟨_,h9,rfl⟩:=hv
  cases h9
  obtain rfl:=Option.some.inj h
  exact .inr ⟨_,rfl,_,rfl,rfl⟩
 refine az [0] (ao ([59]:List UInt8) x14 b2 _ hx16) ⟨aa,aa,trivial⟩ (fun q C' hq=> ?_) (fun v9 hv=>by obtain⟨_,h9,_⟩:=hv;cases h9)
 obtain⟨_,h9,rfl,rfl⟩:=hq
 cases h9
 refine rCtx [Own.box b2 ae x16,Own.box b4 rApiNode (ApiNode.mk 0 [] [] 0 0 0 0 0 []),Own.box b8 af x6,Own.box b11 af x9,Own.box b15 rApiNode x13] ?_
 refine cd (fun e C=>∃(x19:ApiNode),iw x16 x19=some r/\At [(0,al b2 0),(4,al b4 0)] [Own.box b2 ae x16,Own.box b4 rApiNode x19,Own.box b8 af x6,Own.box b11 af x9,Own.box b15 rApiNode x13] e C) ?_ ?_
 ·rintro e C ⟨x19,h,hat1⟩
  refine W_at hat1 ?_
  clear hat1
  unfold iw at h
  obtain rfl:=Option.some.inj h
  exact bp (.inl ⟨.inl rfl,[(rApiNode).val x19],⟨yBox 1 ty32 aa,trivial⟩,_,Pick.of [0] rfl,_,rfl,rfl,rfl⟩)
 refine W_draw 9 hmx (by kernel_rfl) (by kernel_rfl) ?_
 refine qq (out:=al b2 0) ai ?_
 refine qq (out:=Pr.i64 x5.at_) ai ?_
 refine qq (out:=(rApiNode).val x13) (a7 (R:=rApiNode) (a:=x13) (R':=rApiNode) 4 ty32 (Sub.refl _)) ?_
 refine qq (out:=av rApiNode ([x13]:List ApiNode)) (cn (R:=rApiNode) (a:=x13) el24 (Nat.le_of_ble_eq_true rfl)) ?_
 obtain⟨x17,hx17,h⟩:=ak h
 refine qq (out:=(rApiNode).val x17) (qMade 0 hx17 aa) ?_
 refine qq (out:=(af).val x9) (a7 (R:=af) (a:=x9) (R':=af) 3 ty37 (Sub.refl _)) ?_
 obtain⟨x18,hx18,h⟩:=ak h
 refine qq (out:=(rApiNode).val x18) (dt (gl x17 x9 _ hx18)) ?_
 refine qq (out:=(af).val x6) (a7 (R:=af) (a:=x6) (R':=af) 2 ty37 (Sub.refl _)) ?_
 obtain⟨x19,hx19,h⟩:=ak h
 refine qq (out:=(rApiNode).val x19) (dt (parse_typed_ok x18 x6 _ hx19)) ?_
 refine a5 (R:=rApiNode) (R':=rApiNode) (a:=(ApiNode.mk 0 [] [] 0 0 0 0 0 [])) (y:=x19) 1 Tryz.sizeOf32 (Upd.refl _) ?_
 exact⟨x19,h,⟨⟨aa,aa,trivial⟩,Pick.refl _⟩⟩
theorem parse_begun_ok (r:(SMap (Option Nat))) (h:parse_begun=some r):FnP Tryz.prog 68 [] (Pr.mapS jz r):=by
 refine de (n:=3) (rs:=[0]) Tryz.func68 rfl Tryz.ntmps68 ⟨by decide,Tryz.results68⟩ (by decide) (fun s0=> ?_)
 unfold parse_begun at h
 refine W_rs ?_
 refine rq (out:=Pr.is (.map none)) aj ?_
 refine W_rs ?_
 refine rMakeMap jz (fun b1=> ?_)
 refine rMapIns (R:=jz) (m:=([]:SMap (Option Nat))) (kx:=([123]:List UInt8)) (v:=(some 52)) 0 Tryz.underlying83 Tryz.underlying9 ?_ (hu:=(Pr.is_le rfl))
 refine rMapIns (R:=jz) (m:=(mset ([123]:List UInt8) (some 52) ([]:SMap (Option Nat)))) (kx:=([105,102]:List UInt8)) (v:=(some 81)) 0 Tryz.underlying83 Tryz.underlying9 ?_ (hu:=(Pr.is_le rfl))
 refine rMapIns (R:=jz) (m:=(mset ([105,102]:List UInt8) (some 81) (mset ([123]:List UInt8) (some 52) ([]:SMap (Option Nat))))) (kx:=([119,104,105,108,101]:List UInt8)) (v:=(some 82)) 0 Tryz.underlying83 Tryz.underlying9 ?_ (hu:=(Pr.is_le rfl))
 refine rMapIns (R:=jz) (m:=(mset ([119,104,105,108,101]:List UInt8) (some 82) (mset ([105,102]:List UInt8) (some 81) (mset ([123]:List UInt8) (some 52) ([]:SMap (Option Nat)))))) (kx:=([114,101,116,117,114,110]:List UInt8)) (v:=(some 83)) 0 Tryz.underlying83 Tryz.underlying9 ?_ (hu:=(Pr.is_le rfl))
 refine rMapIns (R:=jz) (m:=(mset ([114,101,116,117,114,110]:List UInt8) (some 83) (mset ([119,104,105,108,101]:List UInt8) (some 82) (mset ([105,102]:List UInt8) (some 81) (mset ([123]:List UInt8) (some 52) ([]:SMap (Option Nat))))))) (kx:=([112,114,105,110,116]:List UInt8)) (v:=(some 84)) 0 Tryz.underlying83 Tryz.underlying9 ?_ (hu:=(Pr.is_le rfl))
 refine rq (out:=Pr.mp b1) ai ?_
 refine rq (out:=Pr.mp b1) aj ?_
 refine W_relM 0 [0] ?_ rfl ⟨rfl,trivial⟩
 obtain rfl:=Option.some.inj h
 exact bp ⟨rfl,aa⟩
theorem parse_parser_plain_ok (x1:Int) (x3:ParseParser) (b2:Nat) (r:PX ParseWrong (ApiNode × ParseParser)) (h:f7 x1 x3=some r):FnX Tryz.prog 69 [al b2 0,Pr.i64 x1] [Own.box b2 ae x3] (fun q C'=>∃a9,r= .ok a9/\q=(rApiNode).val a9.1/\C'=[Own.box b2 ae a9.2]) (fun v=>∃m,r= .bad m/\v=cv m):=by
 refine d4 (n:=33) (rs:=[.cell 4 32]) Tryz.func69 rfl Tryz.ntmps69 Tryz.results69 (by decide) (fun s0=> ?_)
 unfold f7 at h
 refine W_rs ?_
 refine bi (R:=rApiNode) (z:=(ApiNode.mk 0 [] [] 0 0 0 0 0 [])) Tryz.zeroValue32 (fun _=>(by rw[ap];exact⟨_,⟨_,_,rfl,rfl,⟨_,_,rfl,rfl,⟨_,_,rfl,rfl,⟨_,_,rfl,rfl,⟨_,_,rfl,rfl,⟨_,_,rfl,rfl,⟨_,_,rfl,rfl,⟨_,_,rfl,rfl,⟨_,_,rfl,⟨_,rfl,none,0,rfl,⟨Nat.le_refl _,fun _=>rfl⟩,.inl rfl⟩,rfl⟩⟩⟩⟩⟩⟩⟩⟩⟩,rfl⟩)) (fun b4=> ?_)
 refine W_rs ?_
 refine rq (out:=al b2 0) ai ?_
 refine rq (out:=al b2 0) qNilP ?_
 refine rq (out:=al b2 1) (a3 fld65_1) ?_
 refine rq (out:=Pr.i64 x3.at_) (a7 (R:=ae) (a:=x3) (R':=Rp.int .i64) 0 ty3 subParseParser_at) ?_
 refine rq (out:=Pr.i64 x3.at_) aj ?_
 refine W_rs ?_
 refine rq (out:=al b2 0) ai ?_
 refine rq (out:=Pr.i64 x1) ai ?_
 refine rq (out:=Pr.i64 (w64 (x1+1))) qInt ?_
 rcases aq h with⟨m23,hm23,h⟩|⟨⟨x5,x6⟩,hx5,h⟩
 ·refine az [0] (bc (w64 (x1+1)) 0 x3 b2 _ hm23) ⟨aa,aa,aa,trivial⟩ (fun q C' hq=> ?_) (fun v9 hv=> ?_)
  ·obtain⟨_,h9,_⟩:=hq;cases h9
  obtain⟨_,h9,rfl⟩:=hv
  cases h9
  obtain rfl:=Option.some.inj h
  exact .inr ⟨_,rfl,_,rfl,rfl⟩
 refine az [0] (bc (w64 (x1+1)) 0 x3 b2 _ hx5) ⟨aa,aa,aa,trivial⟩ (fun q C' hq=> ?_) (fun v9 hv=>by obtain⟨_,h9,_⟩:=hv;cases h9)
 obtain⟨_,h9,rfl,rfl⟩:=hq
 cases h9
 refine rCtx [Own.box b2 ae x6,Own.box b4 rApiNode (ApiNode.mk 0 [] [] 0 0 0 0 0 [])] ?_
 refine rBuildV (R:=rApiNode) (ls:=([x5]:List ApiNode)) el24 (Nat.le_of_ble_eq_true rfl) ⟨rfl,rfl⟩ ⟨rfl,trivial⟩ (fun v7=> ?_)
 refine rq (out:=Pr.i64 8) aj ?_
 refine rq (out:=Pr.is v7) aj ?_
 refine cd (fun e C=>∃(x16:Int),∃(x18:ParseParser),∃(x19:List ApiNode),∃(v17:Value),fx x3 x16 x18 x19=some r/\At [(0,al b2 0),(4,al b4 0),(5,Pr.i64 x3.at_),(6,Pr.i64 x16),(7,Pr.is v17)] [Own.box b2 ae x18,Own.box b4 rApiNode (ApiNode.mk 0 [] [] 0 0 0 0 0 []),Own.vec v17 rApiNode x19 32] e C) ?_ ?_
 ·rintro e C ⟨x16,x18,x19,v17,h,hat1⟩
  refine W_at hat1 ?_
  clear hat1
  unfold fx at h
  refine W_rs ?_
  refine rq (out:=al b2 0) ai ?_
  rcases aq h with⟨m22,hm22,h⟩|⟨x20,hx20,h⟩
  ·refine az [0] (ao ([59]:List UInt8) x18 b2 _ hm22) ⟨aa,aa,trivial⟩ (fun q C' hq=> ?_) (fun v9 hv=> ?_)
   ·obtain⟨_,h9,_⟩:=hq;cases h9
   obtain⟨_,h9,rfl⟩:=hv
   cases h9
   obtain rfl:=Option.some.inj h
   exact .inr ⟨_,rfl,_,rfl,rfl⟩
  refine az [0] (ao ([59]:List UInt8) x18 b2 _ hx20) ⟨aa,aa,trivial⟩ (fun q C' hq=> ?_) (fun v9 hv=>by obtain⟨_,h9,_⟩:=hv;cases h9)
  obtain⟨_,h9,rfl,rfl⟩:=hq
  cases h9
  refine rCtx [Own.box b2 ae x20,Own.box b4 rApiNode (ApiNode.mk 0 [] [] 0 0 0 0 0 []),Own.vec v17 rApiNode x19 32] ?_
  refine W_rs ?_
  refine rq (out:=al b2 0) ai ?_
  refine rq (out:=Pr.i64 x16) ai ?_
  refine rq (out:=Pr.i64 x3.at_) ai ?_
  refine rq (out:=Pr.is v17) ai ?_
  obtain⟨x21,hx21,h⟩:=ak h
  refine rRel 2 [7,31] ?_ rfl ⟨rfl,rfl,trivial⟩
  refine rq (out:=(rApiNode).val x21) (qMade 0 hx21 aa) ?_
  refine a5 (R:=rApiNode) (R':=rApiNode) (a:=(ApiNode.mk 0 [] [] 0 0 0 0 0 [])) (y:=x21) 1 Tryz.sizeOf32 (Upd.refl _) ?_
  obtain rfl:=Option.some.inj h
  exact bp (.inl ⟨.inl rfl,[(rApiNode).val x21],⟨yBox 1 ty32 aa,trivial⟩,_,Pick.of [0] rfl,_,rfl,rfl,rfl⟩)
 refine W_rs ?_
 refine rq (out:=al b2 0) ai ?_
 obtain⟨⟨x8,x9⟩,hx8,h⟩:=ak h
 refine i7 [0] (a6 ([61]:List UInt8) x6 b2 _ hx8) (fun q C' hq=> ?_)
 obtain⟨rfl,rfl⟩:=hq
 refine rCtx [Own.box b2 ae x9,Own.box b4 rApiNode (ApiNode.mk 0 [] [] 0 0 0 0 0 []),Own.vec v7 rApiNode ([x5]:List ApiNode) 32] ?_
 refine a8 (b:=x8) rfl (fun hc10=> ?_) (fun hc10=> ?_)
 ·replace h:=iteT hc10 h
  refine W_r ?_
  refine rq (out:=Pr.is v7) ai ?_
  refine rq (out:=al b2 0) ai ?_
  refine rq (out:=Pr.i64 x1) ai ?_
  refine rq (out:=Pr.i64 (w64 (x1+1))) qInt ?_
  rcases aq h with⟨m15,hm15,h⟩|⟨⟨x11,x12⟩,hx11,h⟩
  ·refine az [0] (bc (w64 (x1+1)) 0 x9 b2 _ hm15) ⟨aa,aa,aa,trivial⟩ (fun q C' hq=> ?_) (fun v9 hv=> ?_)
   ·obtain⟨_,h9,_⟩:=hq;cases h9
   obtain⟨_,h9,rfl⟩:=hv
   cases h9
   obtain rfl:=Option.some.inj h
   exact .inr ⟨_,rfl,_,rfl,rfl⟩
  refine az [0] (bc (w64 (x1+1)) 0 x9 b2 _ hx11) ⟨aa,aa,aa,trivial⟩ (fun q C' hq=> ?_) (fun v9 hv=>by obtain⟨_,h9,_⟩:=hv;cases h9)
  obtain⟨_,h9,rfl,rfl⟩:=hq
  cases h9
  refine rCtx [Own.box b2 ae x12,Own.box b4 rApiNode (ApiNode.mk 0 [] [] 0 0 0 0 0 []),Own.vec v7 rApiNode ([x5]:List ApiNode) 32] ?_
  refine rq (out:=av rApiNode ([x11]:List ApiNode)) (cn (R:=rApiNode) (a:=x11) el24 (Nat.le_of_ble_eq_true rfl)) ?_
  obtain⟨x13,hx13,h⟩:=ak h
  refine kz 2 el24 hx13 (fun v14=> ?_)
  refine rq (out:=Pr.i64 7) aj ?_
  refine rq (out:=Pr.is v14) aj ?_
  exact⟨7,x12,x13,v14,h,⟨⟨aa,aa,aa,aa,aa,trivial⟩,Pick.refl _⟩⟩
 replace h:=iteF hc10 h
 refine bj ?_
 exact⟨8,x9,([x5]:List ApiNode),v7,h,⟨⟨aa,aa,aa,aa,aa,trivial⟩,Pick.refl _⟩⟩
theorem parse_parser_back_ok (x1:Int) (x3:ParseParser) (b2:Nat) (r:PX ParseWrong (ApiNode × ParseParser)) (h:gq x1 x3=some r):FnX Tryz.prog 83 [al b2 0,Pr.i64 x1] [Own.box b2 ae x3] (fun q C'=>∃a9,r= .ok a9/\q=(rApiNode).val a9.1/\C'=[Own.box b2 ae a9.2]) (fun v=>∃m,r= .bad m/\v=cv m):=by
 refine d4 (n:=29) (rs:=[.cell 4 32]) Tryz.func83 rfl Tryz.ntmps83 Tryz.results83 (by decide) (fun s0=> ?_)
 unfold gq at h
 refine W_rs ?_
 refine bi (R:=rApiNode) (z:=(ApiNode.mk 0 [] [] 0 0 0 0 0 [])) Tryz.zeroValue32 (fun _=>(by rw[ap];exact⟨_,⟨_,_,rfl,rfl,⟨_,_,rfl,rfl,⟨_,_,rfl,rfl,⟨_,_,rfl,rfl,⟨_,_,rfl,rfl,⟨_,_,rfl,rfl,⟨_,_,rfl,rfl,⟨_,_,rfl,rfl,⟨_,_,rfl,⟨_,rfl,none,0,rfl,⟨Nat.le_refl _,fun _=>rfl⟩,.inl rfl⟩,rfl⟩⟩⟩⟩⟩⟩⟩⟩⟩,rfl⟩)) (fun b4=> ?_)
 refine W_rs ?_
 refine rq (out:=al b2 0) ai ?_
 refine rq (out:=al b2 0) qNilP ?_
 refine rq (out:=al b2 1) (a3 fld65_1) ?_
 refine rq (out:=Pr.i64 x3.at_) (a7 (R:=ae) (a:=x3) (R':=Rp.int .i64) 0 ty3 subParseParser_at) ?_
 refine rq (out:=Pr.i64 x3.at_) aj ?_
 refine W_rs ?_
 refine rq (out:=al b2 0) ai ?_
 rcases aq h with⟨m17,hm17,h⟩|⟨x5,hx5,h⟩
 ·refine az [0] (ao ([114,101,116,117,114,110]:List UInt8) x3 b2 _ hm17) ⟨aa,aa,trivial⟩ (fun q C' hq=> ?_) (fun v9 hv=> ?_)
  ·obtain⟨_,h9,_⟩:=hq;cases h9
  obtain⟨_,h9,rfl⟩:=hv
  cases h9
  obtain rfl:=Option.some.inj h
  exact .inr ⟨_,rfl,_,rfl,rfl⟩
 refine az [0] (ao ([114,101,116,117,114,110]:List UInt8) x3 b2 _ hx5) ⟨aa,aa,trivial⟩ (fun q C' hq=> ?_) (fun v9 hv=>by obtain⟨_,h9,_⟩:=hv;cases h9)
 obtain⟨_,h9,rfl,rfl⟩:=hq
 cases h9
 refine rCtx [Own.box b2 ae x5,Own.box b4 rApiNode (ApiNode.mk 0 [] [] 0 0 0 0 0 [])] ?_
 refine c0 ?_
 refine W_rs ?_
 refine rq (out:=al b2 0) ai ?_
 obtain⟨⟨x6,x7⟩,hx6,h⟩:=ak h
 refine i7 [0] (a6 ([59]:List UInt8) x5 b2 _ hx6) (fun q C' hq=> ?_)
 obtain⟨rfl,rfl⟩:=hq
 refine rCtx [Own.box b2 ae x7,Own.box b4 rApiNode (ApiNode.mk 0 [] [] 0 0 0 0 0 [])] ?_
 refine a8 (b:=x6) rfl (fun hc8=> ?_) (fun hc8=> ?_)
 ·replace h:=iteT hc8 h
  refine W_rs ?_
  refine rq (out:=al b2 0) ai ?_
  refine rq (out:=Pr.i64 x3.at_) ai ?_
  obtain⟨x9,hx9,h⟩:=ak h
  refine rq (out:=(rApiNode).val x9) (qMade 0 hx9 (f2 _)) ?_
  refine a5 (R:=rApiNode) (R':=rApiNode) (a:=(ApiNode.mk 0 [] [] 0 0 0 0 0 [])) (y:=x9) 1 Tryz.sizeOf32 (Upd.refl _) ?_
  obtain rfl:=Option.some.inj h
  exact bp (.inl ⟨.inl rfl,[(rApiNode).val x9],⟨yBox 1 ty32 aa,trivial⟩,_,Pick.of [0] rfl,_,rfl,rfl,rfl⟩)
 replace h:=iteF hc8 h
 refine bj ?_
 refine W_rs ?_
 refine rq (out:=al b2 0) ai ?_
 refine rq (out:=Pr.i64 x1) ai ?_
 refine rq (out:=Pr.i64 (w64 (x1+1))) qInt ?_
 rcases aq h with⟨m16,hm16,h⟩|⟨⟨x10,x11⟩,hx10,h⟩
 ·refine az [0] (bc (w64 (x1+1)) 0 x7 b2 _ hm16) ⟨aa,aa,aa,trivial⟩ (fun q C' hq=> ?_) (fun v9 hv=> ?_)
  ·obtain⟨_,h9,_⟩:=hq;cases h9
  obtain⟨_,h9,rfl⟩:=hv
  cases h9
  obtain rfl:=Option.some.inj h
  exact .inr ⟨_,rfl,_,rfl,rfl⟩
 refine az [0] (bc (w64 (x1+1)) 0 x7 b2 _ hx10) ⟨aa,aa,aa,trivial⟩ (fun q C' hq=> ?_) (fun v9 hv=>by obtain⟨_,h9,_⟩:=hv;cases h9)
 obtain⟨_,h9,rfl,rfl⟩:=hq
 cases h9
 refine rCtx [Own.box b2 ae x11,Own.box b4 rApiNode (ApiNode.mk 0 [] [] 0 0 0 0 0 [])] ?_
 refine bi (R:=rApiNode) (z:=(ApiNode.mk 0 [] [] 0 0 0 0 0 [])) Tryz.zeroValue32 (fun _=>(by rw[ap];exact⟨_,⟨_,_,rfl,rfl,⟨_,_,rfl,rfl,⟨_,_,rfl,rfl,⟨_,_,rfl,rfl,⟨_,_,rfl,rfl,⟨_,_,rfl,rfl,⟨_,_,rfl,rfl,⟨_,_,rfl,rfl,⟨_,_,rfl,⟨_,rfl,none,0,rfl,⟨Nat.le_refl _,fun _=>rfl⟩,.inl rfl⟩,rfl⟩⟩⟩⟩⟩⟩⟩⟩⟩,rfl⟩)) (fun b12=> ?_)
 refine a5 (R:=rApiNode) (R':=rApiNode) (a:=(ApiNode.mk 0 [] [] 0 0 0 0 0 [])) (y:=x10) 2 Tryz.sizeOf32 (Upd.refl _) ?_
 refine W_rs ?_
 refine rq (out:=al b2 0) ai ?_
 rcases aq h with⟨m15,hm15,h⟩|⟨x13,hx13,h⟩
 ·refine az [0] (ao ([59]:List UInt8) x11 b2 _ hm15) ⟨aa,aa,trivial⟩ (fun q C' hq=> ?_) (fun v9 hv=> ?_)
  ·obtain⟨_,h9,_⟩:=hq;cases h9
  obtain⟨_,h9,rfl⟩:=hv
  cases h9
  obtain rfl:=Option.some.inj h
  exact .inr ⟨_,rfl,_,rfl,rfl⟩
 refine az [0] (ao ([59]:List UInt8) x11 b2 _ hx13) ⟨aa,aa,trivial⟩ (fun q C' hq=> ?_) (fun v9 hv=>by obtain⟨_,h9,_⟩:=hv;cases h9)
 obtain⟨_,h9,rfl,rfl⟩:=hq
 cases h9
 refine rCtx [Own.box b2 ae x13,Own.box b4 rApiNode (ApiNode.mk 0 [] [] 0 0 0 0 0 []),Own.box b12 rApiNode x10] ?_
 refine W_rs ?_
 refine rq (out:=al b2 0) ai ?_
 refine rq (out:=Pr.i64 x3.at_) ai ?_
 refine rq (out:=(rApiNode).val x10) (a7 (R:=rApiNode) (a:=x10) (R':=rApiNode) 2 ty32 (Sub.refl _)) ?_
 refine rq (out:=av rApiNode ([x10]:List ApiNode)) (cn (R:=rApiNode) (a:=x10) el24 (Nat.le_of_ble_eq_true rfl)) ?_
 obtain⟨x14,hx14,h⟩:=ak h
 refine rq (out:=(rApiNode).val x14) (qMade 0 hx14 aa) ?_
 refine a5 (R:=rApiNode) (R':=rApiNode) (a:=(ApiNode.mk 0 [] [] 0 0 0 0 0 [])) (y:=x14) 1 Tryz.sizeOf32 (Upd.refl _) ?_
 obtain rfl:=Option.some.inj h
 exact bp (.inl ⟨.inl rfl,[(rApiNode).val x14],⟨yBox 1 ty32 aa,trivial⟩,_,Pick.of [0] rfl,_,rfl,rfl,rfl⟩)
theorem dl (x1:Int) (x3:ParseParser) (b2:Nat) (r:PX ParseWrong (ApiNode × ParseParser)) (h:cz x1 x3=some r):FnX Tryz.prog 91 [al b2 0,Pr.i64 x1] [Own.box b2 ae x3] (fun q C'=>∃a9,r= .ok a9/\q=(rApiNode).val a9.1/\C'=[Own.box b2 ae a9.2]) (fun v=>∃m,r= .bad m/\v=cv m):=by
 refine d4 (n:=14) (rs:=[.cell 4 32]) Tryz.func91 rfl Tryz.ntmps91 Tryz.results91 (by decide) (fun s0=> ?_)
 unfold cz at h
 refine W_rs ?_
 refine bi (R:=rApiNode) (z:=(ApiNode.mk 0 [] [] 0 0 0 0 0 [])) Tryz.zeroValue32 (fun _=>(by rw[ap];exact⟨_,⟨_,_,rfl,rfl,⟨_,_,rfl,rfl,⟨_,_,rfl,rfl,⟨_,_,rfl,rfl,⟨_,_,rfl,rfl,⟨_,_,rfl,rfl,⟨_,_,rfl,rfl,⟨_,_,rfl,rfl,⟨_,_,rfl,⟨_,rfl,none,0,rfl,⟨Nat.le_refl _,fun _=>rfl⟩,.inl rfl⟩,rfl⟩⟩⟩⟩⟩⟩⟩⟩⟩,rfl⟩)) (fun b4=> ?_)
 refine W_rs ?_
 refine rq (out:=al b2 0) ai ?_
 rcases aq h with⟨m12,hm12,h⟩|⟨x5,hx5,h⟩
 ·refine az [0] (ao ([40]:List UInt8) x3 b2 _ hm12) ⟨aa,aa,trivial⟩ (fun q C' hq=> ?_) (fun v9 hv=> ?_)
  ·obtain⟨_,h9,_⟩:=hq;cases h9
  obtain⟨_,h9,rfl⟩:=hv
  cases h9
  obtain rfl:=Option.some.inj h
  exact .inr ⟨_,rfl,_,rfl,rfl⟩
 refine az [0] (ao ([40]:List UInt8) x3 b2 _ hx5) ⟨aa,aa,trivial⟩ (fun q C' hq=> ?_) (fun v9 hv=>by obtain⟨_,h9,_⟩:=hv;cases h9)
 obtain⟨_,h9,rfl,rfl⟩:=hq
 cases h9
 refine rCtx [Own.box b2 ae x5,Own.box b4 rApiNode (ApiNode.mk 0 [] [] 0 0 0 0 0 [])] ?_
 refine W_rs ?_
 refine rq (out:=al b2 0) ai ?_
 refine rq (out:=Pr.i64 x1) ai ?_
 rcases aq h with⟨m11,hm11,h⟩|⟨⟨x6,x7⟩,hx6,h⟩
 ·refine az [0] (bc x1 0 x5 b2 _ hm11) ⟨aa,aa,aa,trivial⟩ (fun q C' hq=> ?_) (fun v9 hv=> ?_)
  ·obtain⟨_,h9,_⟩:=hq;cases h9
  obtain⟨_,h9,rfl⟩:=hv
  cases h9
  obtain rfl:=Option.some.inj h
  exact .inr ⟨_,rfl,_,rfl,rfl⟩
 refine az [0] (bc x1 0 x5 b2 _ hx6) ⟨aa,aa,aa,trivial⟩ (fun q C' hq=> ?_) (fun v9 hv=>by obtain⟨_,h9,_⟩:=hv;cases h9)
 obtain⟨_,h9,rfl,rfl⟩:=hq
 cases h9
 refine rCtx [Own.box b2 ae x7,Own.box b4 rApiNode (ApiNode.mk 0 [] [] 0 0 0 0 0 [])] ?_
 refine bi (R:=rApiNode) (z:=(ApiNode.mk 0 [] [] 0 0 0 0 0 [])) Tryz.zeroValue32 (fun _=>(by rw[ap];exact⟨_,⟨_,_,rfl,rfl,⟨_,_,rfl,rfl,⟨_,_,rfl,rfl,⟨_,_,rfl,rfl,⟨_,_,rfl,rfl,⟨_,_,rfl,rfl,⟨_,_,rfl,rfl,⟨_,_,rfl,rfl,⟨_,_,rfl,⟨_,rfl,none,0,rfl,⟨Nat.le_refl _,fun _=>rfl⟩,.inl rfl⟩,rfl⟩⟩⟩⟩⟩⟩⟩⟩⟩,rfl⟩)) (fun b8=> ?_)
 refine a5 (R:=rApiNode) (R':=rApiNode) (a:=(ApiNode.mk 0 [] [] 0 0 0 0 0 [])) (y:=x6) 2 Tryz.sizeOf32 (Upd.refl _) ?_
 refine W_rs ?_
 refine rq (out:=al b2 0) ai ?_
 rcases aq h with⟨m10,hm10,h⟩|⟨x9,hx9,h⟩
 ·refine az [0] (ao ([41]:List UInt8) x7 b2 _ hm10) ⟨aa,aa,trivial⟩ (fun q C' hq=> ?_) (fun v9 hv=> ?_)
  ·obtain⟨_,h9,_⟩:=hq;cases h9
  obtain⟨_,h9,rfl⟩:=hv
  cases h9
  obtain rfl:=Option.some.inj h
  exact .inr ⟨_,rfl,_,rfl,rfl⟩
 refine az [0] (ao ([41]:List UInt8) x7 b2 _ hx9) ⟨aa,aa,trivial⟩ (fun q C' hq=> ?_) (fun v9 hv=>by obtain⟨_,h9,_⟩:=hv;cases h9)
 obtain⟨_,h9,rfl,rfl⟩:=hq
 cases h9
 refine rCtx [Own.box b2 ae x9,Own.box b4 rApiNode (ApiNode.mk 0 [] [] 0 0 0 0 0 []),Own.box b8 rApiNode x6] ?_
 refine W_rs ?_
 refine rq (out:=(rApiNode).val x6) (a7 (R:=rApiNode) (a:=x6) (R':=rApiNode) 2 ty32 (Sub.refl _)) ?_
 refine a5 (R:=rApiNode) (R':=rApiNode) (a:=(ApiNode.mk 0 [] [] 0 0 0 0 0 [])) (y:=x6) 1 Tryz.sizeOf32 (Upd.refl _) ?_
 obtain rfl:=Option.some.inj h
 exact bp (.inl ⟨.inl rfl,[(rApiNode).val x6],⟨yBox 1 ty32 aa,trivial⟩,_,Pick.of [0] rfl,_,rfl,rfl,rfl⟩)
theorem parse_parser_show_ok (x1:Int) (x3:ParseParser) (b2:Nat) (r:PX ParseWrong (ApiNode × ParseParser)) (h:gp x1 x3=some r):FnX Tryz.prog 84 [al b2 0,Pr.i64 x1] [Own.box b2 ae x3] (fun q C'=>∃a9,r= .ok a9/\q=(rApiNode).val a9.1/\C'=[Own.box b2 ae a9.2]) (fun v=>∃m,r= .bad m/\v=cv m):=by
 refine d4 (n:=24) (rs:=[.cell 4 32]) Tryz.func84 rfl Tryz.ntmps84 Tryz.results84 (by decide) (fun s0=> ?_)
 unfold gp at h
 refine W_rs ?_
 refine bi (R:=rApiNode) (z:=(ApiNode.mk 0 [] [] 0 0 0 0 0 [])) Tryz.zeroValue32 (fun _=>(by rw[ap];exact⟨_,⟨_,_,rfl,rfl,⟨_,_,rfl,rfl,⟨_,_,rfl,rfl,⟨_,_,rfl,rfl,⟨_,_,rfl,rfl,⟨_,_,rfl,rfl,⟨_,_,rfl,rfl,⟨_,_,rfl,rfl,⟨_,_,rfl,⟨_,rfl,none,0,rfl,⟨Nat.le_refl _,fun _=>rfl⟩,.inl rfl⟩,rfl⟩⟩⟩⟩⟩⟩⟩⟩⟩,rfl⟩)) (fun b4=> ?_)
 refine W_rs ?_
 refine rq (out:=al b2 0) ai ?_
 refine rq (out:=al b2 0) qNilP ?_
 refine rq (out:=al b2 1) (a3 fld65_1) ?_
 refine rq (out:=Pr.i64 x3.at_) (a7 (R:=ae) (a:=x3) (R':=Rp.int .i64) 0 ty3 subParseParser_at) ?_
 refine rq (out:=Pr.i64 x3.at_) aj ?_
 refine W_rs ?_
 refine rq (out:=al b2 0) ai ?_
 rcases aq h with⟨m13,hm13,h⟩|⟨x5,hx5,h⟩
 ·refine az [0] (ao ([112,114,105,110,116]:List UInt8) x3 b2 _ hm13) ⟨aa,aa,trivial⟩ (fun q C' hq=> ?_) (fun v9 hv=> ?_)
  ·obtain⟨_,h9,_⟩:=hq;cases h9
  obtain⟨_,h9,rfl⟩:=hv
  cases h9
  obtain rfl:=Option.some.inj h
  exact .inr ⟨_,rfl,_,rfl,rfl⟩
 refine az [0] (ao ([112,114,105,110,116]:List UInt8) x3 b2 _ hx5) ⟨aa,aa,trivial⟩ (fun q C' hq=> ?_) (fun v9 hv=>by obtain⟨_,h9,_⟩:=hv;cases h9)
 obtain⟨_,h9,rfl,rfl⟩:=hq
 cases h9
 refine rCtx [Own.box b2 ae x5,Own.box b4 rApiNode (ApiNode.mk 0 [] [] 0 0 0 0 0 [])] ?_
 refine W_rs ?_
 refine rq (out:=al b2 0) ai ?_
 refine rq (out:=Pr.i64 x1) ai ?_
 refine rq (out:=Pr.i64 (w64 (x1+1))) qInt ?_
 rcases aq h with⟨m12,hm12,h⟩|⟨⟨x6,x7⟩,hx6,h⟩
 ·refine az [0] (dl (w64 (x1+1)) x5 b2 _ hm12) ⟨aa,aa,trivial⟩ (fun q C' hq=> ?_) (fun v9 hv=> ?_)
  ·obtain⟨_,h9,_⟩:=hq;cases h9
  obtain⟨_,h9,rfl⟩:=hv
  cases h9
  obtain rfl:=Option.some.inj h
  exact .inr ⟨_,rfl,_,rfl,rfl⟩
 refine az [0] (dl (w64 (x1+1)) x5 b2 _ hx6) ⟨aa,aa,trivial⟩ (fun q C' hq=> ?_) (fun v9 hv=>by obtain⟨_,h9,_⟩:=hv;cases h9)
 obtain⟨_,h9,rfl,rfl⟩:=hq
 cases h9
 refine rCtx [Own.box b2 ae x7,Own.box b4 rApiNode (ApiNode.mk 0 [] [] 0 0 0 0 0 [])] ?_
 refine bi (R:=rApiNode) (z:=(ApiNode.mk 0 [] [] 0 0 0 0 0 [])) Tryz.zeroValue32 (fun _=>(by rw[ap];exact⟨_,⟨_,_,rfl,rfl,⟨_,_,rfl,rfl,⟨_,_,rfl,rfl,⟨_,_,rfl,rfl,⟨_,_,rfl,rfl,⟨_,_,rfl,rfl,⟨_,_,rfl,rfl,⟨_,_,rfl,rfl,⟨_,_,rfl,⟨_,rfl,none,0,rfl,⟨Nat.le_refl _,fun _=>rfl⟩,.inl rfl⟩,rfl⟩⟩⟩⟩⟩⟩⟩⟩⟩,rfl⟩)) (fun b8=> ?_)
 refine a5 (R:=rApiNode) (R':=rApiNode) (a:=(ApiNode.mk 0 [] [] 0 0 0 0 0 [])) (y:=x6) 2 Tryz.sizeOf32 (Upd.refl _) ?_
 refine W_rs ?_
 refine rq (out:=al b2 0) ai ?_
 rcases aq h with⟨m11,hm11,h⟩|⟨x9,hx9,h⟩
 ·refine az [0] (ao ([59]:List UInt8) x7 b2 _ hm11) ⟨aa,aa,trivial⟩ (fun q C' hq=> ?_) (fun v9 hv=> ?_)
  ·obtain⟨_,h9,_⟩:=hq;cases h9
  obtain⟨_,h9,rfl⟩:=hv
  cases h9
  obtain rfl:=Option.some.inj h
  exact .inr ⟨_,rfl,_,rfl,rfl⟩
 refine az [0] (ao ([59]:List UInt8) x7 b2 _ hx9) ⟨aa,aa,trivial⟩ (fun q C' hq=> ?_) (fun v9 hv=>by obtain⟨_,h9,_⟩:=hv;cases h9)
 obtain⟨_,h9,rfl,rfl⟩:=hq
 cases h9
 refine rCtx [Own.box b2 ae x9,Own.box b4 rApiNode (ApiNode.mk 0 [] [] 0 0 0 0 0 []),Own.box b8 rApiNode x6] ?_
 refine W_rs ?_
 refine rq (out:=al b2 0) ai ?_
 refine rq (out:=Pr.i64 x3.at_) ai ?_
 refine rq (out:=(rApiNode).val x6) (a7 (R:=rApiNode) (a:=x6) (R':=rApiNode) 2 ty32 (Sub.refl _)) ?_
 refine rq (out:=av rApiNode ([x6]:List ApiNode)) (cn (R:=rApiNode) (a:=x6) el24 (Nat.le_of_ble_eq_true rfl)) ?_
 obtain⟨x10,hx10,h⟩:=ak h
 refine rq (out:=(rApiNode).val x10) (qMade 0 hx10 aa) ?_
 refine a5 (R:=rApiNode) (R':=rApiNode) (a:=(ApiNode.mk 0 [] [] 0 0 0 0 0 [])) (y:=x10) 1 Tryz.sizeOf32 (Upd.refl _) ?_
 obtain rfl:=Option.some.inj h
 exact bp (.inl ⟨.inl rfl,[(rApiNode).val x10],⟨yBox 1 ty32 aa,trivial⟩,_,Pick.of [0] rfl,_,rfl,rfl,rfl⟩)
end Go.Proofs.YtackaijkmkollaaGreatDoor
