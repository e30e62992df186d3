/- The code comes to what these functions say (printed by wip/gen/gen.py). -/
import Derived.Test.YteablckbgpogiaaGreatDoorZX
import Derived.Test.YteablckbgpogiaaGreatDoorZP2
import Derived.Test.YteablckbgpogiaaGreatDoorZT
set_option linter.unusedSimpArgs false
set_option linter.unusedVariables false
set_option linter.unusedSectionVars false
set_option linter.unusedSectionVars false
set_option maxRecDepth 100000
set_option maxHeartbeats 4000000
namespace Go.Proofs.YteablckbgpogiaaGreatDoor
open Go Go.Cn
variable [Known]
attribute [local irreducible] f5 ap
theorem parse_parser_local_ok (x1:Int) (x3:ParseParser) (b2:Nat) (r:PX ParseWrong (ApiNode × ParseParser)) (h:i9 x1 x3=some r):FnX Tryz.prog 111 [aj b2 0,Pr.i64 x1] [Own.box b2 ae x3] (fun q C'=>∃a9,r= .ok a9/\q=(rApiNode).val a9.1/\C'=[Own.box b2 ae a9.2]) (fun v=>∃m,r= .bad m/\v=fo m):=by
 refine je (rs:=[.cell 4 48]) Tryz.func111 rfl Tryz.ntmps111 Tryz.results111 (by decide) (fun s0=> ?_)
 unfold i9 at h
 refine W_rs (a8 al48 fun b4=>W_rs (kMv rfl (kMv rfl ?_)))
 rcases a5 h with⟨m25,hm25,h⟩|⟨x5,hx5,h⟩
 ·refine bn [0] (iv x1 x3 b2 _ hm25) ⟨aa,aa,trivial⟩ (fun q C' hq=> ?_) (fun v9 hv=> ?_)
  ·obtain⟨_,h9,_⟩:=hq;cases h9
  obtain⟨_,h9,rfl⟩:=hv
  cases h9
  obtain rfl:=osj h
  exact .inr ⟨_,rfl,_,rfl,rfl⟩
 refine bn [0] (iv x1 x3 b2 _ hx5) ⟨aa,aa,trivial⟩ (fun q C' hq=> ?_) (fun v9 hv=>by obtain⟨_,h9,_⟩:=hv;cases h9)
 obtain⟨_,h9,rfl,rfl⟩:=hq
 cases h9
 refine rCtx [Own.box b2 ae x5,Own.box b4 rApiNode (ApiNode.mk 0 [] [] 0 0 0 0 0 [])] ?_
 refine W_rs (kMv rfl (kNp rfl (kUn (av fld103_1) ?_)))
 refine kUn (bb 0 ty3 subParseParser_at) ?_
 refine kAs rfl (W_rs (kMv rfl ?_))
 rcases a5 h with⟨m24,hm24,h⟩|⟨⟨x6,x7⟩,hx6,h⟩
 ·refine bn [0] (lp x5 b2 _ hm24) ⟨aa,trivial⟩ (fun q C' hq=> ?_) (fun v9 hv=> ?_)
  ·obtain⟨_,h9,_⟩:=hq;cases h9
  obtain⟨_,h9,rfl⟩:=hv
  cases h9
  obtain rfl:=osj h
  exact .inr ⟨_,rfl,_,rfl,rfl⟩
 refine bn [0] (lp x5 b2 _ hx6) ⟨aa,trivial⟩ (fun q C' hq=> ?_) (fun v9 hv=>by obtain⟨_,h9,_⟩:=hv;cases h9)
 obtain⟨_,h9,rfl,rfl⟩:=hq
 cases h9
 refine rCtx [Own.box b2 ae x7,Own.box b4 rApiNode (ApiNode.mk 0 [] [] 0 0 0 0 0 [])] ?_
 refine a8 al74 fun b8=>ak 2 rfl rfl (Upd.refl _) rfl Tryz.sizeOf74 (W_rs (kMv rfl ?_))
 rcases a5 h with⟨m23,hm23,h⟩|⟨⟨x9,x10⟩,hx9,h⟩
 ·refine bn [0] (db x7 b2 _ hm23) ⟨aa,trivial⟩ (fun q C' hq=> ?_) (fun v9 hv=> ?_)
  ·obtain⟨_,h9,_⟩:=hq;cases h9
  obtain⟨_,h9,rfl⟩:=hv
  cases h9
  obtain rfl:=osj h
  exact .inr ⟨_,rfl,_,rfl,rfl⟩
 refine bn [0] (db x7 b2 _ hx9) ⟨aa,trivial⟩ (fun q C' hq=> ?_) (fun v9 hv=>by obtain⟨_,h9,_⟩:=hv;cases h9)
 obtain⟨_,h9,rfl,rfl⟩:=hq
 cases h9
 refine rCtx [Own.box b2 ae x10,Own.box b4 rApiNode (ApiNode.mk 0 [] [] 0 0 0 0 0 []),Own.box b8 ah x6] ?_
 refine a8 al74 fun b11=>ak 3 rfl rfl (Upd.refl _) rfl Tryz.sizeOf74 (W_rs (kMv rfl ?_))
 rcases a5 h with⟨m22,hm22,h⟩|⟨x12,hx12,h⟩
 ·refine bn [0] (aq ([61]:List UInt8) x10 b2 _ hm22) ⟨aa,aa,trivial⟩ (fun q C' hq=> ?_) (fun v9 hv=> ?_)
  ·obtain⟨_,h9,_⟩:=hq;cases h9
  obtain⟨_,h9,rfl⟩:=hv
  cases h9
  obtain rfl:=osj h
  exact .inr ⟨_,rfl,_,rfl,rfl⟩
 refine bn [0] (aq ([61]:List UInt8) x10 b2 _ hx12) ⟨aa,aa,trivial⟩ (fun q C' hq=> ?_) (fun v9 hv=>by obtain⟨_,h9,_⟩:=hv;cases h9)
 obtain⟨_,h9,rfl,rfl⟩:=hq
 cases h9
 refine rCtx [Own.box b2 ae x12,Own.box b4 rApiNode (ApiNode.mk 0 [] [] 0 0 0 0 0 []),Own.box b8 ah x6,Own.box b11 ah x9] ?_
 refine W_rs (kMv rfl (kMv rfl (kIn rfl rfl rfl ?_)))
 rcases a5 h with⟨m21,hm21,h⟩|⟨⟨x13,x14⟩,hx13,h⟩
 ·refine bn [0] (dc (w64 (x1+1)) 0 x12 b2 _ hm21) ⟨aa,aa,aa,trivial⟩ (fun q C' hq=> ?_) (fun v9 hv=> ?_)
  ·obtain⟨_,h9,_⟩:=hq;cases h9
  obtain⟨_,h9,rfl⟩:=hv
  cases h9
  obtain rfl:=osj h
  exact .inr ⟨_,rfl,_,rfl,rfl⟩
 refine bn [0] (dc (w64 (x1+1)) 0 x12 b2 _ hx13) ⟨aa,aa,aa,trivial⟩ (fun q C' hq=> ?_) (fun v9 hv=>by obtain⟨_,h9,_⟩:=hv;cases h9)
 obtain⟨_,h9,rfl,rfl⟩:=hq
 cases h9
 refine rCtx [Own.box b2 ae x14,Own.box b4 rApiNode (ApiNode.mk 0 [] [] 0 0 0 0 0 []),Own.box b8 ah x6,Own.box b11 ah x9] ?_
 refine a8 al48 fun b15=>ak 4 rfl rfl (Upd.refl _) rfl Tryz.sizeOf48 (W_rs (kMv rfl ?_))
 rcases a5 h with⟨m20,hm20,h⟩|⟨x16,hx16,h⟩
 ·refine bn [0] (aq ([59]:List UInt8) x14 b2 _ hm20) ⟨aa,aa,trivial⟩ (fun q C' hq=> ?_) (fun v9 hv=> ?_)
  ·obtain⟨_,h9,_⟩:=hq;cases h9
  obtain⟨_,h9,rfl⟩:=hv
  cases h9
  obtain rfl:=osj h
  exact .inr ⟨_,rfl,_,rfl,rfl⟩
 refine bn [0] (aq ([59]:List UInt8) x14 b2 _ hx16) ⟨aa,aa,trivial⟩ (fun q C' hq=> ?_) (fun v9 hv=>by obtain⟨_,h9,_⟩:=hv;cases h9)
 obtain⟨_,h9,rfl,rfl⟩:=hq
 cases h9
 refine rCtx [Own.box b2 ae x16,Own.box b4 rApiNode (ApiNode.mk 0 [] [] 0 0 0 0 0 []),Own.box b8 ah x6,Own.box b11 ah x9,Own.box b15 rApiNode x13] ?_
 refine bj (fun e C=>∃(x19:ApiNode),gh x16 x19=some r/\At [(0,aj b2 0),(4,aj b4 0)] [Own.box b2 ae x16,Own.box b4 rApiNode x19,Own.box b8 ah x6,Own.box b11 ah x9,Own.box b15 rApiNode x13] e C) ?_ ?_
 ·rintro e C ⟨x19,h,hat1⟩
  refine W_at hat1 ?_
  unfold gh at h
  obtain rfl:=osj h
  exact ax (.inl ⟨.inl rfl,[(rApiNode).val x19],⟨yBox 1 ty48 aa,trivial⟩,_,Pick.of [0] rfl,_,rfl,rfl,rfl⟩)
 refine ib 9 hmx (by kernel_rfl) (by kernel_rfl) ?_
 refine lUn (hMvA rfl) (lUn (hMvA rfl) (lUn (bb 4 ty48 (Sub.refl _)) ?_))
 refine lUn (bt (R:=rApiNode) (a:=x13) el44 (Nat.le_of_ble_eq_true rfl)) ?_
 obtain⟨x17,hx17,h⟩:=af h
 refine lUn (qMade 0 hx17 aa) ?_
 refine lUn (bb 3 ty74 (Sub.refl _)) ?_
 obtain⟨x18,hx18,h⟩:=af h
 refine lUn (dl (km x17 x9 _ hx18)) ?_
 refine lUn (bb 2 ty74 (Sub.refl _)) ?_
 obtain⟨x19,hx19,h⟩:=af h
 refine lUn (dl (parse_typed_ok x18 x6 _ hx19)) ?_
 refine ak 1 rfl rfl (Upd.refl _) rfl Tryz.sizeOf48 ?_
 exact⟨x19,h,atOk⟩
theorem parse_begun_ok (r:(SMap (Option Nat))) (h:parse_begun=some r):FnP Tryz.prog 132 [] (Pr.mapS Rp.fid r):=by
 refine cm (rs:=[0]) Tryz.func132 rfl Tryz.ntmps132 ⟨by decide,Tryz.results132⟩ (by decide) (fun s0=> ?_)
 unfold parse_begun at h
 refine W_rs (kAs rfl (W_rs ?_))
 refine rMakeMap Rp.fid (fun b1=> ?_)
 refine rMapIns (R:=Rp.fid) (m:=([]:SMap (Option Nat))) (kx:=([123]:List UInt8)) (v:=(some 93)) 0 Tryz.underlying145 Tryz.underlying9 ?_ (hu:=(Pr.is_le rfl))
 refine rMapIns (R:=Rp.fid) (m:=(mset ([123]:List UInt8) (some 93) ([]:SMap (Option Nat)))) (kx:=([105,102]:List UInt8)) (v:=(some 152)) 0 Tryz.underlying145 Tryz.underlying9 ?_ (hu:=(Pr.is_le rfl))
 refine rMapIns (R:=Rp.fid) (m:=(mset ([105,102]:List UInt8) (some 152) (mset ([123]:List UInt8) (some 93) ([]:SMap (Option Nat))))) (kx:=([119,104,105,108,101]:List UInt8)) (v:=(some 153)) 0 Tryz.underlying145 Tryz.underlying9 ?_ (hu:=(Pr.is_le rfl))
 refine rMapIns (R:=Rp.fid) (m:=(mset ([119,104,105,108,101]:List UInt8) (some 153) (mset ([105,102]:List UInt8) (some 152) (mset ([123]:List UInt8) (some 93) ([]:SMap (Option Nat)))))) (kx:=([114,101,116,117,114,110]:List UInt8)) (v:=(some 154)) 0 Tryz.underlying145 Tryz.underlying9 ?_ (hu:=(Pr.is_le rfl))
 refine rMapIns (R:=Rp.fid) (m:=(mset ([114,101,116,117,114,110]:List UInt8) (some 154) (mset ([119,104,105,108,101]:List UInt8) (some 153) (mset ([105,102]:List UInt8) (some 152) (mset ([123]:List UInt8) (some 93) ([]:SMap (Option Nat))))))) (kx:=([112,114,105,110,116]:List UInt8)) (v:=(some 155)) 0 Tryz.underlying145 Tryz.underlying9 ?_ (hu:=(Pr.is_le rfl))
 refine kUn (hMv (out:=Pr.mp b1) rfl) (kUn (hAs (out:=Pr.mp b1) rfl) ?_)
 refine W_relM 0 [0] ?_ rfl ⟨rfl,trivial⟩
 obtain rfl:=osj h
 exact ax ⟨rfl,aa⟩
theorem parse_parser_plain_ok (x1:Int) (x3:ParseParser) (b2:Nat) (r:PX ParseWrong (ApiNode × ParseParser)) (h:gw x1 x3=some r):FnX Tryz.prog 133 [aj b2 0,Pr.i64 x1] [Own.box b2 ae x3] (fun q C'=>∃a9,r= .ok a9/\q=(rApiNode).val a9.1/\C'=[Own.box b2 ae a9.2]) (fun v=>∃m,r= .bad m/\v=fo m):=by
 refine je (rs:=[.cell 4 48]) Tryz.func133 rfl Tryz.ntmps133 Tryz.results133 (by decide) (fun s0=> ?_)
 unfold gw at h
 refine W_rs (a8 al48 fun b4=>W_rs (kMv rfl (kNp rfl (kUn (av fld103_1) ?_))))
 refine kUn (bb 0 ty3 subParseParser_at) ?_
 refine kAs rfl (W_rs (kMv rfl (kMv rfl (kIn rfl rfl rfl ?_))))
 rcases a5 h with⟨m23,hm23,h⟩|⟨⟨x5,x6⟩,hx5,h⟩
 ·refine bn [0] (dc (w64 (x1+1)) 0 x3 b2 _ hm23) ⟨aa,aa,aa,trivial⟩ (fun q C' hq=> ?_) (fun v9 hv=> ?_)
  ·obtain⟨_,h9,_⟩:=hq;cases h9
  obtain⟨_,h9,rfl⟩:=hv
  cases h9
  obtain rfl:=osj h
  exact .inr ⟨_,rfl,_,rfl,rfl⟩
 refine bn [0] (dc (w64 (x1+1)) 0 x3 b2 _ hx5) ⟨aa,aa,aa,trivial⟩ (fun q C' hq=> ?_) (fun v9 hv=>by obtain⟨_,h9,_⟩:=hv;cases h9)
 obtain⟨_,h9,rfl,rfl⟩:=hq
 cases h9
 refine rCtx [Own.box b2 ae x6,Own.box b4 rApiNode (ApiNode.mk 0 [] [] 0 0 0 0 0 [])] ?_
 refine rBuildV (R:=rApiNode) (ls:=([x5]:List ApiNode)) el44 (Nat.le_of_ble_eq_true rfl) ⟨rfl,rfl⟩ ⟨rfl,trivial⟩ (fun v7=> ?_)
 refine kAs rfl (kAs rfl ?_)
 refine bj (fun e C=>∃(x16:Int),∃(x18:ParseParser),∃(x19:List ApiNode),∃(v17:Value),iu x3 x16 x18 x19=some r/\At [(0,aj b2 0),(4,aj b4 0),(5,Pr.i64 x3.at_),(6,Pr.i64 x16),(7,Pr.is v17)] [Own.box b2 ae x18,Own.box b4 rApiNode (ApiNode.mk 0 [] [] 0 0 0 0 0 []),Own.vec v17 rApiNode x19 48] e C) ?_ ?_
 ·rintro e C ⟨x16,x18,x19,v17,h,hat1⟩
  refine W_at hat1 ?_
  unfold iu at h
  refine W_rs (kMv rfl ?_)
  rcases a5 h with⟨m22,hm22,h⟩|⟨x20,hx20,h⟩
  ·refine bn [0] (aq ([59]:List UInt8) x18 b2 _ hm22) ⟨aa,aa,trivial⟩ (fun q C' hq=> ?_) (fun v9 hv=> ?_)
   ·obtain⟨_,h9,_⟩:=hq;cases h9
   obtain⟨_,h9,rfl⟩:=hv
   cases h9
   obtain rfl:=osj h
   exact .inr ⟨_,rfl,_,rfl,rfl⟩
  refine bn [0] (aq ([59]:List UInt8) x18 b2 _ hx20) ⟨aa,aa,trivial⟩ (fun q C' hq=> ?_) (fun v9 hv=>by obtain⟨_,h9,_⟩:=hv;cases h9)
  obtain⟨_,h9,rfl,rfl⟩:=hq
  cases h9
  refine rCtx [Own.box b2 ae x20,Own.box b4 rApiNode (ApiNode.mk 0 [] [] 0 0 0 0 0 []),Own.vec v17 rApiNode x19 48] ?_
  refine W_rs (kMv rfl (kMv rfl (kMv rfl (kMv rfl ?_))))
  obtain⟨x21,hx21,h⟩:=af h
  refine rRel 2 [7,31] ?_ rfl ⟨rfl,rfl,trivial⟩
  refine kUn (qMade 0 hx21 aa) ?_
  refine ak 1 rfl rfl (Upd.refl _) rfl Tryz.sizeOf48 ?_
  obtain rfl:=osj h
  exact ax (.inl ⟨.inl rfl,[(rApiNode).val x21],⟨yBox 1 ty48 aa,trivial⟩,_,Pick.of [0] rfl,_,rfl,rfl,rfl⟩)
 refine W_rs (kMv rfl ?_)
 obtain⟨⟨x8,x9⟩,hx8,h⟩:=af h
 refine jp [0] (cd ([61]:List UInt8) x6 b2 _ hx8) (fun q C' hq=> ?_)
 obtain⟨rfl,rfl⟩:=hq
 refine rCtx [Own.box b2 ae x9,Own.box b4 rApiNode (ApiNode.mk 0 [] [] 0 0 0 0 0 []),Own.vec v7 rApiNode ([x5]:List ApiNode) 48] ?_
 refine a7 h rfl (fun _ h=> ?_) (fun _ h=> ?_)
 ·refine W_r (kMv rfl (kMv rfl (kMv rfl (kIn rfl rfl rfl ?_))))
  rcases a5 h with⟨m15,hm15,h⟩|⟨⟨x11,x12⟩,hx11,h⟩
  ·refine bn [0] (dc (w64 (x1+1)) 0 x9 b2 _ hm15) ⟨aa,aa,aa,trivial⟩ (fun q C' hq=> ?_) (fun v9 hv=> ?_)
   ·obtain⟨_,h9,_⟩:=hq;cases h9
   obtain⟨_,h9,rfl⟩:=hv
   cases h9
   obtain rfl:=osj h
   exact .inr ⟨_,rfl,_,rfl,rfl⟩
  refine bn [0] (dc (w64 (x1+1)) 0 x9 b2 _ hx11) ⟨aa,aa,aa,trivial⟩ (fun q C' hq=> ?_) (fun v9 hv=>by obtain⟨_,h9,_⟩:=hv;cases h9)
  obtain⟨_,h9,rfl,rfl⟩:=hq
  cases h9
  refine rCtx [Own.box b2 ae x12,Own.box b4 rApiNode (ApiNode.mk 0 [] [] 0 0 0 0 0 []),Own.vec v7 rApiNode ([x5]:List ApiNode) 48] ?_
  refine kUn (bt (R:=rApiNode) (a:=x11) el44 (Nat.le_of_ble_eq_true rfl)) ?_
  obtain⟨x13,hx13,h⟩:=af h
  refine fg 2 el44 hx13 (fun v14=> ?_)
  refine kAs rfl (kAs rfl ?_)
  exact⟨7,x12,x13,v14,h,atOk⟩
 refine ar ?_
 exact⟨8,x9,([x5]:List ApiNode),v7,h,atOk⟩
theorem parse_parser_back_ok (x1:Int) (x3:ParseParser) (b2:Nat) (r:PX ParseWrong (ApiNode × ParseParser)) (h:ip x1 x3=some r):FnX Tryz.prog 154 [aj b2 0,Pr.i64 x1] [Own.box b2 ae x3] (fun q C'=>∃a9,r= .ok a9/\q=(rApiNode).val a9.1/\C'=[Own.box b2 ae a9.2]) (fun v=>∃m,r= .bad m/\v=fo m):=by
 refine je (rs:=[.cell 4 48]) Tryz.func154 rfl Tryz.ntmps154 Tryz.results154 (by decide) (fun s0=> ?_)
 unfold ip at h
 refine W_rs (a8 al48 fun b4=>W_rs (kMv rfl (kNp rfl (kUn (av fld103_1) ?_))))
 refine kUn (bb 0 ty3 subParseParser_at) ?_
 refine kAs rfl (W_rs (kMv rfl ?_))
 rcases a5 h with⟨m17,hm17,h⟩|⟨x5,hx5,h⟩
 ·refine bn [0] (aq ([114,101,116,117,114,110]:List UInt8) x3 b2 _ hm17) ⟨aa,aa,trivial⟩ (fun q C' hq=> ?_) (fun v9 hv=> ?_)
  ·obtain⟨_,h9,_⟩:=hq;cases h9
  obtain⟨_,h9,rfl⟩:=hv
  cases h9
  obtain rfl:=osj h
  exact .inr ⟨_,rfl,_,rfl,rfl⟩
 refine bn [0] (aq ([114,101,116,117,114,110]:List UInt8) x3 b2 _ hx5) ⟨aa,aa,trivial⟩ (fun q C' hq=> ?_) (fun v9 hv=>by obtain⟨_,h9,_⟩:=hv;cases h9)
 obtain⟨_,h9,rfl,rfl⟩:=hq
 cases h9
 refine rCtx [Own.box b2 ae x5,Own.box b4 rApiNode (ApiNode.mk 0 [] [] 0 0 0 0 0 [])] ?_
 refine az (W_rs (kMv rfl ?_))
 obtain⟨⟨x6,x7⟩,hx6,h⟩:=af h
 refine jp [0] (cd ([59]:List UInt8) x5 b2 _ hx6) (fun q C' hq=> ?_)
 obtain⟨rfl,rfl⟩:=hq
 refine rCtx [Own.box b2 ae x7,Own.box b4 rApiNode (ApiNode.mk 0 [] [] 0 0 0 0 0 [])] ?_
 refine a7 h rfl (fun _ h=> ?_) (fun _ h=> ?_)
 ·refine W_rs (kMv rfl (kMv rfl ?_))
  obtain⟨x9,hx9,h⟩:=af h
  refine kUn (qMade 0 hx9 (cv _)) ?_
  refine ak 1 rfl rfl (Upd.refl _) rfl Tryz.sizeOf48 ?_
  obtain rfl:=osj h
  exact ax (.inl ⟨.inl rfl,[(rApiNode).val x9],⟨yBox 1 ty48 aa,trivial⟩,_,Pick.of [0] rfl,_,rfl,rfl,rfl⟩)
 refine ar (W_rs (kMv rfl (kMv rfl (kIn rfl rfl rfl ?_))))
 rcases a5 h with⟨m16,hm16,h⟩|⟨⟨x10,x11⟩,hx10,h⟩
 ·refine bn [0] (dc (w64 (x1+1)) 0 x7 b2 _ hm16) ⟨aa,aa,aa,trivial⟩ (fun q C' hq=> ?_) (fun v9 hv=> ?_)
  ·obtain⟨_,h9,_⟩:=hq;cases h9
  obtain⟨_,h9,rfl⟩:=hv
  cases h9
  obtain rfl:=osj h
  exact .inr ⟨_,rfl,_,rfl,rfl⟩
 refine bn [0] (dc (w64 (x1+1)) 0 x7 b2 _ hx10) ⟨aa,aa,aa,trivial⟩ (fun q C' hq=> ?_) (fun v9 hv=>by obtain⟨_,h9,_⟩:=hv;cases h9)
 obtain⟨_,h9,rfl,rfl⟩:=hq
 cases h9
 refine rCtx [Own.box b2 ae x11,Own.box b4 rApiNode (ApiNode.mk 0 [] [] 0 0 0 0 0 [])] ?_
 refine a8 al48 fun b12=>ak 2 rfl rfl (Upd.refl _) rfl Tryz.sizeOf48 (W_rs (kMv rfl ?_))
 rcases a5 h with⟨m15,hm15,h⟩|⟨x13,hx13,h⟩
 ·refine bn [0] (aq ([59]:List UInt8) x11 b2 _ hm15) ⟨aa,aa,trivial⟩ (fun q C' hq=> ?_) (fun v9 hv=> ?_)
  ·obtain⟨_,h9,_⟩:=hq;cases h9
  obtain⟨_,h9,rfl⟩:=hv
  cases h9
  obtain rfl:=osj h
  exact .inr ⟨_,rfl,_,rfl,rfl⟩
 refine bn [0] (aq ([59]:List UInt8) x11 b2 _ hx13) ⟨aa,aa,trivial⟩ (fun q C' hq=> ?_) (fun v9 hv=>by obtain⟨_,h9,_⟩:=hv;cases h9)
 obtain⟨_,h9,rfl,rfl⟩:=hq
 cases h9
 refine rCtx [Own.box b2 ae x13,Own.box b4 rApiNode (ApiNode.mk 0 [] [] 0 0 0 0 0 []),Own.box b12 rApiNode x10] ?_
 refine W_rs (kMv rfl (kMv rfl (kUn (bb 2 ty48 (Sub.refl _)) ?_)))
 refine kUn (bt (R:=rApiNode) (a:=x10) el44 (Nat.le_of_ble_eq_true rfl)) ?_
 obtain⟨x14,hx14,h⟩:=af h
 refine kUn (qMade 0 hx14 aa) ?_
 refine ak 1 rfl rfl (Upd.refl _) rfl Tryz.sizeOf48 ?_
 obtain rfl:=osj h
 exact ax (.inl ⟨.inl rfl,[(rApiNode).val x14],⟨yBox 1 ty48 aa,trivial⟩,_,Pick.of [0] rfl,_,rfl,rfl,rfl⟩)
theorem fw (x1:Int) (x3:ParseParser) (b2:Nat) (r:PX ParseWrong (ApiNode × ParseParser)) (h:dy x1 x3=some r):FnX Tryz.prog 170 [aj b2 0,Pr.i64 x1] [Own.box b2 ae x3] (fun q C'=>∃a9,r= .ok a9/\q=(rApiNode).val a9.1/\C'=[Own.box b2 ae a9.2]) (fun v=>∃m,r= .bad m/\v=fo m):=by
 refine je (rs:=[.cell 4 48]) Tryz.func170 rfl Tryz.ntmps170 Tryz.results170 (by decide) (fun s0=> ?_)
 unfold dy at h
 refine W_rs (a8 al48 fun b4=>W_rs (kMv rfl ?_))
 rcases a5 h with⟨m12,hm12,h⟩|⟨x5,hx5,h⟩
 ·refine bn [0] (aq ([40]:List UInt8) x3 b2 _ hm12) ⟨aa,aa,trivial⟩ (fun q C' hq=> ?_) (fun v9 hv=> ?_)
  ·obtain⟨_,h9,_⟩:=hq;cases h9
  obtain⟨_,h9,rfl⟩:=hv
  cases h9
  obtain rfl:=osj h
  exact .inr ⟨_,rfl,_,rfl,rfl⟩
 refine bn [0] (aq ([40]:List UInt8) x3 b2 _ hx5) ⟨aa,aa,trivial⟩ (fun q C' hq=> ?_) (fun v9 hv=>by obtain⟨_,h9,_⟩:=hv;cases h9)
 obtain⟨_,h9,rfl,rfl⟩:=hq
 cases h9
 refine rCtx [Own.box b2 ae x5,Own.box b4 rApiNode (ApiNode.mk 0 [] [] 0 0 0 0 0 [])] ?_
 refine W_rs (kMv rfl (kMv rfl ?_))
 rcases a5 h with⟨m11,hm11,h⟩|⟨⟨x6,x7⟩,hx6,h⟩
 ·refine bn [0] (dc x1 0 x5 b2 _ hm11) ⟨aa,aa,aa,trivial⟩ (fun q C' hq=> ?_) (fun v9 hv=> ?_)
  ·obtain⟨_,h9,_⟩:=hq;cases h9
  obtain⟨_,h9,rfl⟩:=hv
  cases h9
  obtain rfl:=osj h
  exact .inr ⟨_,rfl,_,rfl,rfl⟩
 refine bn [0] (dc x1 0 x5 b2 _ hx6) ⟨aa,aa,aa,trivial⟩ (fun q C' hq=> ?_) (fun v9 hv=>by obtain⟨_,h9,_⟩:=hv;cases h9)
 obtain⟨_,h9,rfl,rfl⟩:=hq
 cases h9
 refine rCtx [Own.box b2 ae x7,Own.box b4 rApiNode (ApiNode.mk 0 [] [] 0 0 0 0 0 [])] ?_
 refine a8 al48 fun b8=>ak 2 rfl rfl (Upd.refl _) rfl Tryz.sizeOf48 (W_rs (kMv rfl ?_))
 rcases a5 h with⟨m10,hm10,h⟩|⟨x9,hx9,h⟩
 ·refine bn [0] (aq ([41]:List UInt8) x7 b2 _ hm10) ⟨aa,aa,trivial⟩ (fun q C' hq=> ?_) (fun v9 hv=> ?_)
  ·obtain⟨_,h9,_⟩:=hq;cases h9
  obtain⟨_,h9,rfl⟩:=hv
  cases h9
  obtain rfl:=osj h
  exact .inr ⟨_,rfl,_,rfl,rfl⟩
 refine bn [0] (aq ([41]:List UInt8) x7 b2 _ hx9) ⟨aa,aa,trivial⟩ (fun q C' hq=> ?_) (fun v9 hv=>by obtain⟨_,h9,_⟩:=hv;cases h9)
 obtain⟨_,h9,rfl,rfl⟩:=hq
 cases h9
 refine rCtx [Own.box b2 ae x9,Own.box b4 rApiNode (ApiNode.mk 0 [] [] 0 0 0 0 0 []),Own.box b8 rApiNode x6] ?_
 refine W_rs (kUn (bb 2 ty48 (Sub.refl _)) ?_)
 refine ak 1 rfl rfl (Upd.refl _) rfl Tryz.sizeOf48 ?_
 obtain rfl:=osj h
 exact ax (.inl ⟨.inl rfl,[(rApiNode).val x6],⟨yBox 1 ty48 aa,trivial⟩,_,Pick.of [0] rfl,_,rfl,rfl,rfl⟩)
theorem parse_parser_show_ok (x1:Int) (x3:ParseParser) (b2:Nat) (r:PX ParseWrong (ApiNode × ParseParser)) (h:io x1 x3=some r):FnX Tryz.prog 155 [aj b2 0,Pr.i64 x1] [Own.box b2 ae x3] (fun q C'=>∃a9,r= .ok a9/\q=(rApiNode).val a9.1/\C'=[Own.box b2 ae a9.2]) (fun v=>∃m,r= .bad m/\v=fo m):=by
 refine je (rs:=[.cell 4 48]) Tryz.func155 rfl Tryz.ntmps155 Tryz.results155 (by decide) (fun s0=> ?_)
 unfold io at h
 refine W_rs (a8 al48 fun b4=>W_rs (kMv rfl (kNp rfl (kUn (av fld103_1) ?_))))
 refine kUn (bb 0 ty3 subParseParser_at) ?_
 refine kAs rfl (W_rs (kMv rfl ?_))
 rcases a5 h with⟨m13,hm13,h⟩|⟨x5,hx5,h⟩
 ·refine bn [0] (aq ([112,114,105,110,116]:List UInt8) x3 b2 _ hm13) ⟨aa,aa,trivial⟩ (fun q C' hq=> ?_) (fun v9 hv=> ?_)
  ·obtain⟨_,h9,_⟩:=hq;cases h9
  obtain⟨_,h9,rfl⟩:=hv
  cases h9
  obtain rfl:=osj h
  exact .inr ⟨_,rfl,_,rfl,rfl⟩
 refine bn [0] (aq ([112,114,105,110,116]:List UInt8) x3 b2 _ hx5) ⟨aa,aa,trivial⟩ (fun q C' hq=> ?_) (fun v9 hv=>by obtain⟨_,h9,_⟩:=hv;cases h9)
 obtain⟨_,h9,rfl,rfl⟩:=hq
 cases h9
 refine rCtx [Own.box b2 ae x5,Own.box b4 rApiNode (ApiNode.mk 0 [] [] 0 0 0 0 0 [])] ?_
 refine W_rs (kMv rfl (kMv rfl (kIn rfl rfl rfl ?_)))
 rcases a5 h with⟨m12,hm12,h⟩|⟨⟨x6,x7⟩,hx6,h⟩
 ·refine bn [0] (fw (w64 (x1+1)) x5 b2 _ hm12) ⟨aa,aa,trivial⟩ (fun q C' hq=> ?_) (fun v9 hv=> ?_)
  ·obtain⟨_,h9,_⟩:=hq;cases h9
  obtain⟨_,h9,rfl⟩:=hv
  cases h9
  obtain rfl:=osj h
  exact .inr ⟨_,rfl,_,rfl,rfl⟩
 refine bn [0] (fw (w64 (x1+1)) x5 b2 _ hx6) ⟨aa,aa,trivial⟩ (fun q C' hq=> ?_) (fun v9 hv=>by obtain⟨_,h9,_⟩:=hv;cases h9)
 obtain⟨_,h9,rfl,rfl⟩:=hq
 cases h9
 refine rCtx [Own.box b2 ae x7,Own.box b4 rApiNode (ApiNode.mk 0 [] [] 0 0 0 0 0 [])] ?_
 refine a8 al48 fun b8=>ak 2 rfl rfl (Upd.refl _) rfl Tryz.sizeOf48 (W_rs (kMv rfl ?_))
 rcases a5 h with⟨m11,hm11,h⟩|⟨x9,hx9,h⟩
 ·refine bn [0] (aq ([59]:List UInt8) x7 b2 _ hm11) ⟨aa,aa,trivial⟩ (fun q C' hq=> ?_) (fun v9 hv=> ?_)
  ·obtain⟨_,h9,_⟩:=hq;cases h9
  obtain⟨_,h9,rfl⟩:=hv
  cases h9
  obtain rfl:=osj h
  exact .inr ⟨_,rfl,_,rfl,rfl⟩
 refine bn [0] (aq ([59]:List UInt8) x7 b2 _ hx9) ⟨aa,aa,trivial⟩ (fun q C' hq=> ?_) (fun v9 hv=>by obtain⟨_,h9,_⟩:=hv;cases h9)
 obtain⟨_,h9,rfl,rfl⟩:=hq
 cases h9
 refine rCtx [Own.box b2 ae x9,Own.box b4 rApiNode (ApiNode.mk 0 [] [] 0 0 0 0 0 []),Own.box b8 rApiNode x6] ?_
 refine W_rs (kMv rfl (kMv rfl (kUn (bb 2 ty48 (Sub.refl _)) ?_)))
 refine kUn (bt (R:=rApiNode) (a:=x6) el44 (Nat.le_of_ble_eq_true rfl)) ?_
 obtain⟨x10,hx10,h⟩:=af h
 refine kUn (qMade 0 hx10 aa) ?_
 refine ak 1 rfl rfl (Upd.refl _) rfl Tryz.sizeOf48 ?_
 obtain rfl:=osj h
 exact ax (.inl ⟨.inl rfl,[(rApiNode).val x10],⟨yBox 1 ty48 aa,trivial⟩,_,Pick.of [0] rfl,_,rfl,rfl,rfl⟩)
end Go.Proofs.YteablckbgpogiaaGreatDoor
