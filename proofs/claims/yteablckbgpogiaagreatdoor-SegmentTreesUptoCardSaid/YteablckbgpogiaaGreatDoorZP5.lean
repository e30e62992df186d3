/- The code comes to what these functions say (printed by wip/gen/gen.py). -/
import Derived.Test.YteablckbgpogiaaGreatDoorZX
import Derived.Test.YteablckbgpogiaaGreatDoorZP4
import Derived.Test.YteablckbgpogiaaGreatDoorZT
set_option linter.unusedSimpArgs false
set_option linter.unusedVariables false
set_option linter.unusedSectionVars false
set_option linter.unusedSectionVars false
set_option maxRecDepth 100000
set_option maxHeartbeats 4000000
namespace Go.Proofs.YteablckbgpogiaaGreatDoor
open Go Go.Cn
variable [Known]
attribute [local irreducible] f5 ap
theorem parse_parser_member_ok (x2:ParseParser) (b1:Nat) (r:PX ParseWrong (ApiNode × ParseParser)) (h:ef x2=some r):FnX Tryz.prog 65 [aj b1 0] [Own.box b1 ae x2] (fun q C'=>∃a9,r= .ok a9/\q=(rApiNode).val a9.1/\C'=[Own.box b1 ae a9.2]) (fun v=>∃m,r= .bad m/\v=fo m):=by
 refine je (rs:=[.cell 2 48]) Tryz.func65 rfl Tryz.ntmps65 Tryz.results65 (by decide) (fun s0=> ?_)
 unfold ef at h
 refine W_rs (a8 al48 fun b3=>W_rs (kMv rfl (kNp rfl (kUn (av fld103_1) ?_))))
 refine kUn (bb 0 ty3 subParseParser_at) ?_
 refine kAs rfl (W_rs (kMv rfl ?_))
 obtain⟨⟨x4,x5⟩,hx4,h⟩:=af h
 refine jp [0] (cd ([115,116,97,116,105,99]:List UInt8) x2 b1 _ hx4) (fun q C' hq=> ?_)
 obtain⟨rfl,rfl⟩:=hq
 refine rCtx [Own.box b1 ae x5,Own.box b3 rApiNode (ApiNode.mk 0 [] [] 0 0 0 0 0 [])] ?_
 refine kAs rfl ?_
 refine bj (fun e C=>∃(x11:ParseParser),bl x2 x4 x11=some r/\At [(0,aj b1 0),(2,aj b3 0),(3,Pr.i64 x2.at_),(4,Pr.bool x4)] [Own.box b1 ae x11,Own.box b3 rApiNode (ApiNode.mk 0 [] [] 0 0 0 0 0 [])] e C) ?_ ?_
 ·rintro e C ⟨x11,h,hat4⟩
  refine W_at hat4 ?_
  unfold bl at h
  refine W_rs (kMv rfl ?_)
  obtain⟨⟨x12,x13⟩,hx12,h⟩:=af h
  refine jp [0] (gr x11 b1 _ hx12) (fun q C' hq=> ?_)
  obtain⟨rfl,rfl⟩:=hq
  refine rCtx [Own.box b1 ae x13,Own.box b3 rApiNode (ApiNode.mk 0 [] [] 0 0 0 0 0 [])] ?_
  refine a8 al74 fun b14=>ak 2 rfl rfl (Upd.refl _) rfl Tryz.sizeOf74 (W_rs (kMv rfl ?_))
  rcases a5 h with⟨m45,hm45,h⟩|⟨⟨x15,x16⟩,hx15,h⟩
  ·refine bn [0] (db x13 b1 _ hm45) ⟨aa,trivial⟩ (fun q C' hq=> ?_) (fun v9 hv=> ?_)
   ·obtain⟨_,h9,_⟩:=hq;cases h9
   obtain⟨_,h9,rfl⟩:=hv
   cases h9
   obtain rfl:=osj h
   exact .inr ⟨_,rfl,_,rfl,rfl⟩
  refine bn [0] (db x13 b1 _ hx15) ⟨aa,trivial⟩ (fun q C' hq=> ?_) (fun v9 hv=>by obtain⟨_,h9,_⟩:=hv;cases h9)
  obtain⟨_,h9,rfl,rfl⟩:=hq
  cases h9
  refine rCtx [Own.box b1 ae x16,Own.box b3 rApiNode (ApiNode.mk 0 [] [] 0 0 0 0 0 []),Own.box b14 ah x12] ?_
  refine a8 al74 fun b17=>ak 3 rfl rfl (Upd.refl _) rfl Tryz.sizeOf74 (W_rs (a8 al48 fun b18=> ?_))
  refine bj (fun e C=>∃(x39:ParseParser),∃(x40:ApiNode),c0 x4 x15 x12 x39 x40=some r/\At [(0,aj b1 0),(2,aj b3 0),(4,Pr.bool x4),(5,aj b14 0),(6,aj b17 0),(7,aj b18 0)] [Own.box b1 ae x39,Own.box b3 rApiNode (ApiNode.mk 0 [] [] 0 0 0 0 0 []),Own.box b14 ah x12,Own.box b17 ah x15,Own.box b18 rApiNode x40] e C) ?_ ?_
  ·rintro e C ⟨x39,x40,h,hat3⟩
   refine W_at hat3 ?_
   unfold c0 at h
   refine bj (fun e C=>∃(x42:ApiNode),f3 x15 x12 x39 x42=some r/\At [(0,aj b1 0),(2,aj b3 0),(5,aj b14 0),(6,aj b17 0),(7,aj b18 0)] [Own.box b1 ae x39,Own.box b3 rApiNode (ApiNode.mk 0 [] [] 0 0 0 0 0 []),Own.box b14 ah x12,Own.box b17 ah x15,Own.box b18 rApiNode x42] e C) ?_ ?_
   ·rintro e C ⟨x42,h,hat2⟩
    refine W_at hat2 ?_
    unfold f3 at h
    refine bj (fun e C=>∃(x44:ApiNode),gz x39 x44=some r/\At [(0,aj b1 0),(2,aj b3 0)] [Own.box b1 ae x39,Own.box b3 rApiNode x44,Own.box b14 ah x12,Own.box b17 ah x15,Own.box b18 rApiNode x42] e C) ?_ ?_
    ·rintro e C ⟨x44,h,hat1⟩
     refine W_at hat1 ?_
     unfold gz at h
     obtain rfl:=osj h
     exact ax (.inl ⟨.inl rfl,[(rApiNode).val x44],⟨yBox 1 ty48 aa,trivial⟩,_,Pick.of [0] rfl,_,rfl,rfl,rfl⟩)
    refine ib 5 hmx (by kernel_rfl) (by kernel_rfl) ?_
    refine lUn (bb 4 ty48 (Sub.refl _)) ?_
    refine lUn (bb 3 ty74 (Sub.refl _)) ?_
    obtain⟨x43,hx43,h⟩:=af h
    refine lUn (dl (km x42 x15 _ hx43)) ?_
    refine lUn (bb 2 ty74 (Sub.refl _)) ?_
    obtain⟨x44,hx44,h⟩:=af h
    refine lUn (dl (parse_typed_ok x43 x12 _ hx44)) ?_
    refine ak 1 rfl rfl (Upd.refl _) rfl Tryz.sizeOf48 ?_
    exact⟨x44,h,atOk⟩
   refine W_rs (kMv rfl ?_)
   refine a7 h rfl (fun _ h=> ?_) (fun _ h=> ?_)
   ·refine W_r (kUn (av fld48_3) ?_)
    refine ak 4 rfl rfl q7 rfl Tryz.sizeOf2 ?_
    exact⟨{x40 with N:=1},h,atOk⟩
   refine ar ?_
   exact⟨x40,h,atOk⟩
  refine a4 (W_rs (kMv rfl ?_))
  obtain⟨⟨x19,x20⟩,hx19,h⟩:=af h
  refine jp [0] (cd ([40]:List UInt8) x16 b1 _ hx19) (fun q C' hq=> ?_)
  obtain⟨rfl,rfl⟩:=hq
  refine rCtx [Own.box b1 ae x20,Own.box b3 rApiNode (ApiNode.mk 0 [] [] 0 0 0 0 0 []),Own.box b14 ah x12,Own.box b17 ah x15,Own.box b18 rApiNode (ApiNode.mk 0 [] [] 0 0 0 0 0 [])] ?_
  refine kAs rfl ?_
  refine a7 h rfl (fun _ h=> ?_) (fun _ h=> ?_)
  ·refine W_rs (kMv rfl ?_)
   rcases a5 h with⟨m31,hm31,h⟩|⟨⟨x22,x23⟩,hx22,h⟩
   ·refine bn [0] (parse_parser_params_ok x20 b1 _ hm31) ⟨aa,trivial⟩ (fun q C' hq=> ?_) (fun v9 hv=> ?_)
    ·obtain⟨_,h9,_⟩:=hq;cases h9
    obtain⟨_,h9,rfl⟩:=hv
    cases h9
    obtain rfl:=osj h
    exact .inr ⟨_,rfl,_,rfl,rfl⟩
   refine bn [0] (parse_parser_params_ok x20 b1 _ hx22) ⟨aa,trivial⟩ (fun q C' hq=> ?_) (fun v9 hv=>by obtain⟨_,h9,_⟩:=hv;cases h9)
   obtain⟨_,h9,v24,rfl,rfl⟩:=hq
   cases h9
   refine rCtx [Own.vec v24 rApiNode x22 48,Own.box b1 ae x23,Own.box b3 rApiNode (ApiNode.mk 0 [] [] 0 0 0 0 0 []),Own.box b14 ah x12,Own.box b17 ah x15,Own.box b18 rApiNode (ApiNode.mk 0 [] [] 0 0 0 0 0 [])] ?_
   refine kAs rfl (W_rs (kMv rfl (kMv rfl ?_)))
   rcases a5 h with⟨m30,hm30,h⟩|⟨⟨x25,x26⟩,hx25,h⟩
   ·refine bn [1] (parse_parser_block_ok 1 x23 b1 _ hm30) ⟨aa,aa,trivial⟩ (fun q C' hq=> ?_) (fun v9 hv=> ?_)
    ·obtain⟨_,h9,_⟩:=hq;cases h9
    obtain⟨_,h9,rfl⟩:=hv
    cases h9
    obtain rfl:=osj h
    exact .inr ⟨_,rfl,_,rfl,rfl⟩
   refine bn [1] (parse_parser_block_ok 1 x23 b1 _ hx25) ⟨aa,aa,trivial⟩ (fun q C' hq=> ?_) (fun v9 hv=>by obtain⟨_,h9,_⟩:=hv;cases h9)
   obtain⟨_,h9,rfl,rfl⟩:=hq
   cases h9
   refine rCtx [Own.box b1 ae x26,Own.vec v24 rApiNode x22 48,Own.box b3 rApiNode (ApiNode.mk 0 [] [] 0 0 0 0 0 []),Own.box b14 ah x12,Own.box b17 ah x15,Own.box b18 rApiNode (ApiNode.mk 0 [] [] 0 0 0 0 0 [])] ?_
   refine kUn (bt (R:=rApiNode) (a:=x25) el44 (Nat.le_of_ble_eq_true rfl)) ?_
   obtain⟨x27,hx27,h⟩:=af h
   refine fg 1 el44 hx27 (fun v28=> ?_)
   refine kAs rfl (W_r (kMv rfl (kMv rfl (kMv rfl ?_))))
   obtain⟨x29,hx29,h⟩:=af h
   refine rRel 1 [8,42] ?_ rfl ⟨rfl,rfl,trivial⟩
   refine kUn (qMade 0 hx29 aa) ?_
   refine ak 4 rfl rfl (Upd.refl _) rfl Tryz.sizeOf48 ?_
   exact⟨x26,x29,h,atOk⟩
  refine W_rs (kUn (bb 2 ty74 (Sub.refl _)) ?_)
  refine cg h (qo x12 ([118,111,105,100]:List UInt8)) rfl fun x32 _ h=>kAs rfl ?_
  refine a7 h rfl (fun _ h=> ?_) (fun _ h=> ?_)
  ·refine W_r (kMv rfl ?_)
   rcases a5 h with⟨m35,hm35,h⟩|⟨x34,hx34,h⟩
   ·refine bn [0] (cr 120 x20 b1 _ hm35) ⟨aa,aa,trivial⟩ (fun q C' hq=> ?_) (fun v9 hv=> ?_)
    ·obtain⟨_,h9,_⟩:=hq;cases h9
    obtain⟨_,h9,rfl⟩:=hv
    cases h9
    obtain rfl:=osj h
    exact .inr ⟨_,rfl,_,rfl,rfl⟩
   refine bn [0] (cr 120 x20 b1 _ hx34) ⟨aa,aa,trivial⟩ (fun q C' hq=> ?_) (fun v9 hv=>by obtain⟨_,h9,_⟩:=hv;cases h9)
   obtain⟨_,h9,rfl,rfl⟩:=hq
   cases h9
   refine rCtx [Own.box b1 ae x34,Own.box b3 rApiNode (ApiNode.mk 0 [] [] 0 0 0 0 0 []),Own.box b14 ah x12,Own.box b17 ah x15,Own.box b18 rApiNode (ApiNode.mk 0 [] [] 0 0 0 0 0 [])] ?_
   exact⟨x34,(ApiNode.mk 0 [] [] 0 0 0 0 0 []),h,atOk⟩
  refine W_rs (kMv rfl ?_)
  rcases a5 h with⟨m38,hm38,h⟩|⟨x36,hx36,h⟩
  ·refine bn [0] (aq ([59]:List UInt8) x20 b1 _ hm38) ⟨aa,aa,trivial⟩ (fun q C' hq=> ?_) (fun v9 hv=> ?_)
   ·obtain⟨_,h9,_⟩:=hq;cases h9
   obtain⟨_,h9,rfl⟩:=hv
   cases h9
   obtain rfl:=osj h
   exact .inr ⟨_,rfl,_,rfl,rfl⟩
  refine bn [0] (aq ([59]:List UInt8) x20 b1 _ hx36) ⟨aa,aa,trivial⟩ (fun q C' hq=> ?_) (fun v9 hv=>by obtain⟨_,h9,_⟩:=hv;cases h9)
  obtain⟨_,h9,rfl,rfl⟩:=hq
  cases h9
  refine rCtx [Own.box b1 ae x36,Own.box b3 rApiNode (ApiNode.mk 0 [] [] 0 0 0 0 0 []),Own.box b14 ah x12,Own.box b17 ah x15,Own.box b18 rApiNode (ApiNode.mk 0 [] [] 0 0 0 0 0 [])] ?_
  refine W_r (kMv rfl (kMv rfl ?_))
  obtain⟨x37,hx37,h⟩:=af h
  refine kUn (qMade 0 hx37 (cv _)) ?_
  refine ak 4 rfl rfl (Upd.refl _) rfl Tryz.sizeOf48 ?_
  exact⟨x36,x37,h,atOk⟩
 refine W_rs (kMv rfl ?_)
 obtain⟨x6,hx6,h⟩:=af h
 refine kUn (qCallBx 0 (dz x5 _ hx6) ⟨.inr ⟨aa,rfl⟩,trivial⟩ (fun _ _ _ h=>Flat.val kh _ _ _ _ h)) ?_
 refine cg h (parse_isType_ok x6) rfl fun x7 _ h=>kNo rfl ?_
 refine a7 h rfl (fun _ h=> ?_) (fun _ h=> ?_)
 ·refine W_r (kMv rfl ?_)
  rcases a5 h with⟨m10,hm10,h⟩|⟨x9,hx9,h⟩
  ·refine bn [0] (cr 120 x5 b1 _ hm10) ⟨aa,aa,trivial⟩ (fun q C' hq=> ?_) (fun v9 hv=> ?_)
   ·obtain⟨_,h9,_⟩:=hq;cases h9
   obtain⟨_,h9,rfl⟩:=hv
   cases h9
   obtain rfl:=osj h
   exact .inr ⟨_,rfl,_,rfl,rfl⟩
  refine bn [0] (cr 120 x5 b1 _ hx9) ⟨aa,aa,trivial⟩ (fun q C' hq=> ?_) (fun v9 hv=>by obtain⟨_,h9,_⟩:=hv;cases h9)
  obtain⟨_,h9,rfl,rfl⟩:=hq
  cases h9
  refine rCtx [Own.box b1 ae x9,Own.box b3 rApiNode (ApiNode.mk 0 [] [] 0 0 0 0 0 [])] ?_
  exact⟨x9,h,atOk⟩
 refine ar ?_
 exact⟨x5,h,atOk⟩
theorem parse_parser_class_ok (x2:ParseParser) (b1:Nat) (r:PX ParseWrong (ApiNode × ParseParser)) (h:ed x2=some r):FnX Tryz.prog 40 [aj b1 0] [Own.box b1 ae x2] (fun q C'=>∃a9,r= .ok a9/\q=(rApiNode).val a9.1/\C'=[Own.box b1 ae a9.2]) (fun v=>∃m,r= .bad m/\v=fo m):=by
 refine je (rs:=[.cell 2 48]) Tryz.func40 rfl Tryz.ntmps40 Tryz.results40 (by decide) (fun s0=> ?_)
 unfold ed at h
 refine W_rs (a8 al48 fun b3=>W_rs (kMv rfl (kNp rfl (kUn (av fld103_1) ?_))))
 refine kUn (bb 0 ty3 subParseParser_at) ?_
 refine kAs rfl (W_rs (kMv rfl ?_))
 rcases a5 h with⟨m41,hm41,h⟩|⟨x4,hx4,h⟩
 ·refine bn [0] (aq ([99,108,97,115,115]:List UInt8) x2 b1 _ hm41) ⟨aa,aa,trivial⟩ (fun q C' hq=> ?_) (fun v9 hv=> ?_)
  ·obtain⟨_,h9,_⟩:=hq;cases h9
  obtain⟨_,h9,rfl⟩:=hv
  cases h9
  obtain rfl:=osj h
  exact .inr ⟨_,rfl,_,rfl,rfl⟩
 refine bn [0] (aq ([99,108,97,115,115]:List UInt8) x2 b1 _ hx4) ⟨aa,aa,trivial⟩ (fun q C' hq=> ?_) (fun v9 hv=>by obtain⟨_,h9,_⟩:=hv;cases h9)
 obtain⟨_,h9,rfl,rfl⟩:=hq
 cases h9
 refine rCtx [Own.box b1 ae x4,Own.box b3 rApiNode (ApiNode.mk 0 [] [] 0 0 0 0 0 [])] ?_
 refine W_rs (kMv rfl ?_)
 rcases a5 h with⟨m40,hm40,h⟩|⟨⟨x5,x6⟩,hx5,h⟩
 ·refine bn [0] (db x4 b1 _ hm40) ⟨aa,trivial⟩ (fun q C' hq=> ?_) (fun v9 hv=> ?_)
  ·obtain⟨_,h9,_⟩:=hq;cases h9
  obtain⟨_,h9,rfl⟩:=hv
  cases h9
  obtain rfl:=osj h
  exact .inr ⟨_,rfl,_,rfl,rfl⟩
 refine bn [0] (db x4 b1 _ hx5) ⟨aa,trivial⟩ (fun q C' hq=> ?_) (fun v9 hv=>by obtain⟨_,h9,_⟩:=hv;cases h9)
 obtain⟨_,h9,rfl,rfl⟩:=hq
 cases h9
 refine rCtx [Own.box b1 ae x6,Own.box b3 rApiNode (ApiNode.mk 0 [] [] 0 0 0 0 0 [])] ?_
 refine a8 al74 fun b7=>ak 2 rfl rfl (Upd.refl _) rfl Tryz.sizeOf74 (W_rs (a8 al74 fun b8=>W_rs (kMv rfl ?_)))
 obtain⟨⟨x9,x10⟩,hx9,h⟩:=af h
 refine jp [0] (cd ([101,120,116,101,110,100,115]:List UInt8) x6 b1 _ hx9) (fun q C' hq=> ?_)
 obtain⟨rfl,rfl⟩:=hq
 refine rCtx [Own.box b1 ae x10,Own.box b3 rApiNode (ApiNode.mk 0 [] [] 0 0 0 0 0 []),Own.box b7 ah x5,Own.box b8 ah (ApiToken.mk 0 [] 0 [])] ?_
 refine kAs rfl ?_
 refine bj (fun e C=>∃(x15:ParseParser),∃(x16:ApiToken),dh x2 x5 x9 x15 x16=some r/\At [(0,aj b1 0),(2,aj b3 0),(3,Pr.i64 x2.at_),(4,aj b7 0),(5,aj b8 0),(6,Pr.bool x9)] [Own.box b1 ae x15,Own.box b3 rApiNode (ApiNode.mk 0 [] [] 0 0 0 0 0 []),Own.box b7 ah x5,Own.box b8 ah x16] e C) ?_ ?_
 ·rintro e C ⟨x15,x16,h,hat5⟩
  refine W_at hat5 ?_
  unfold dh at h
  refine W_rs (kMv rfl ?_)
  rcases a5 h with⟨m39,hm39,h⟩|⟨x17,hx17,h⟩
  ·refine bn [0] (aq ([123]:List UInt8) x15 b1 _ hm39) ⟨aa,aa,trivial⟩ (fun q C' hq=> ?_) (fun v9 hv=> ?_)
   ·obtain⟨_,h9,_⟩:=hq;cases h9
   obtain⟨_,h9,rfl⟩:=hv
   cases h9
   obtain rfl:=osj h
   exact .inr ⟨_,rfl,_,rfl,rfl⟩
  refine bn [0] (aq ([123]:List UInt8) x15 b1 _ hx17) ⟨aa,aa,trivial⟩ (fun q C' hq=> ?_) (fun v9 hv=>by obtain⟨_,h9,_⟩:=hv;cases h9)
  obtain⟨_,h9,rfl,rfl⟩:=hq
  cases h9
  refine rCtx [Own.box b1 ae x17,Own.box b3 rApiNode (ApiNode.mk 0 [] [] 0 0 0 0 0 []),Own.box b7 ah x5,Own.box b8 ah x16] ?_
  refine W_rs (kAs rfl (az (a4 ?_)))
  obtain⟨z4l,hz4,h⟩:=af h
  obtain⟨n4,hN4⟩:=bp hz4
  refine d7 0 (fun e C=>∃(x25:ParseParser),∃(x20:List ApiNode),∃(v18:Value),iw x2 x5 x9 x16 x25 x20=some r/\At [(0,aj b1 0),(2,aj b3 0),(3,Pr.i64 x2.at_),(4,aj b7 0),(5,aj b8 0),(6,Pr.bool x9),(7,Pr.is v18)] [Own.box b1 ae x25,Own.box b3 rApiNode (ApiNode.mk 0 [] [] 0 0 0 0 0 []),Own.box b7 ah x5,Own.box b8 ah x16,Own.vec v18 rApiNode x20 48] e C) ?_ ?_
  ·rintro e C ⟨x25,x20,v18,h,hat3⟩
   refine W_at hat3 ?_
   unfold iw at h
   refine W_rel 4 [7] ?_ rfl ⟨rfl,trivial⟩
   refine bj (fun e C=>∃(x33:ApiNode),∃(b34:Nat),iy x9 x16 x25 x33=some r/\At [(0,aj b1 0),(2,aj b3 0),(5,aj b8 0),(6,Pr.bool x9),(8,aj b34 0)] [Own.box b1 ae x25,Own.box b3 rApiNode (ApiNode.mk 0 [] [] 0 0 0 0 0 []),Own.box b7 ah x5,Own.box b8 ah x16,Own.box b34 rApiNode x33] e C) ?_ ?_
   ·rintro e C ⟨x33,b34,h,hat2⟩
    refine W_at hat2 ?_
    unfold iy at h
    refine bj (fun e C=>∃(x37:ApiNode),gk x25 x37=some r/\At [(0,aj b1 0),(2,aj b3 0),(8,aj b34 0)] [Own.box b1 ae x25,Own.box b3 rApiNode (ApiNode.mk 0 [] [] 0 0 0 0 0 []),Own.box b7 ah x5,Own.box b8 ah x16,Own.box b34 rApiNode x37] e C) ?_ ?_
    ·rintro e C ⟨x37,h,hat1⟩
     refine W_at hat1 ?_
     unfold gk at h
     refine W_rs (kUn (bb 4 ty48 (Sub.refl _)) ?_)
     refine ak 1 rfl rfl (Upd.refl _) rfl Tryz.sizeOf48 ?_
     obtain rfl:=osj h
     exact ax (.inl ⟨.inl rfl,[(rApiNode).val x37],⟨yBox 1 ty48 aa,trivial⟩,_,Pick.of [0] rfl,_,rfl,rfl,rfl⟩)
    refine W_rs (kMv rfl ?_)
    refine a7 h rfl (fun _ h=> ?_) (fun _ h=> ?_)
    ·refine W_r (kUn (bb 4 ty48 (Sub.refl _)) ?_)
     refine kUn (bb 3 ty74 (Sub.refl _)) ?_
     refine cg h (parse_typed_ok x33 x16) rfl fun x36 _ h=>ak 4 rfl rfl (Upd.refl _) rfl Tryz.sizeOf48 ?_
     exact⟨x36,h,atOk⟩
    refine ar ?_
    exact⟨x33,h,atOk⟩
   obtain⟨x32,hx32,h⟩:=af h
   obtain⟨x33,hx33,h⟩:=af h
   refine W_drawG 1 (fun B S=>[Own.box b1 ae x25,Own.box b3 rApiNode (ApiNode.mk 0 [] [] 0 0 0 0 0 []),Own.box b7 ah x5,Own.box b8 ah x16,(cond (S 7) (Own.box (B 6) rApiNode x33) (cond (S 6) (Own.box (B 6) rApiNode (ApiNode.mk 0 [] [] 0 0 0 0 0 [])) Own.nil))]) (fun B=>[Own.box b1 ae x25,Own.box b3 rApiNode (ApiNode.mk 0 [] [] 0 0 0 0 0 []),Own.box b7 ah x5,Own.box b8 ah x16,Own.box (B 6) rApiNode x33]) [aj b1 0,Pr.i64 x2.at_,ap rApiNode x20,(rApiNode).val x32,(ah).val x5,(rApiNode).val x33,.any,.any] (fun k=>([0,0,0,0,0,0,2,1]:List Nat).getD k 0) hmx (by kernel_rfl) (by kernel_rfl) (fun _=>rfl) (fun B S S' h=>by show([Own.box b1 ae x25,Own.box b3 rApiNode (ApiNode.mk 0 [] [] 0 0 0 0 0 []),Own.box b7 ah x5,Own.box b8 ah x16,(cond (S 7) (Own.box (B 6) rApiNode x33) (cond (S 6) (Own.box (B 6) rApiNode (ApiNode.mk 0 [] [] 0 0 0 0 0 [])) Own.nil))]:Ctx)=[Own.box b1 ae x25,Own.box b3 rApiNode (ApiNode.mk 0 [] [] 0 0 0 0 0 []),Own.box b7 ah x5,Own.box b8 ah x16,(cond (S' 7) (Own.box (B 6) rApiNode x33) (cond (S' 6) (Own.box (B 6) rApiNode (ApiNode.mk 0 [] [] 0 0 0 0 0 [])) Own.nil))];simp only[h 6 (Nat.le_of_ble_eq_true (by kernel_rfl)),h 7 (Nat.le_of_ble_eq_true (by kernel_rfl))]) (fun _=>rfl) (fun B=> ?_)
   refine gq1 (fun S hK=>jn) ?_
   refine gq1 (fun S hK=>jn) ?_
   refine gq1 (fun S hK=>jn) ?_
   refine gq1 (fun S hK=>(qMade 0 hx32 aa (hi:=rfl))) ?_
   refine gq1 (fun S hK=>(bb (R:=ah) (a:=x5) (R':=ah) 2 ty74 (Sub.refl _) (hi:=rfl))) ?_
   refine gq1 (fun S hK=>(dl (km x32 x5 _ hx33))) ?_
   refine gqA (fun S hK=>⟨fun B' hB=>by show([Own.box b1 ae x25,Own.box b3 rApiNode (ApiNode.mk 0 [] [] 0 0 0 0 0 []),Own.box b7 ah x5,Own.box b8 ah x16,(cond (S 7) (Own.box (B' 6) rApiNode x33) (cond (S 6) (Own.box (B' 6) rApiNode (ApiNode.mk 0 [] [] 0 0 0 0 0 [])) Own.nil))]:Ctx)=[Own.box b1 ae x25,Own.box b3 rApiNode (ApiNode.mk 0 [] [] 0 0 0 0 0 []),Own.box b7 ah x5,Own.box b8 ah x16,(cond (S 7) (Own.box (B 6) rApiNode x33) (cond (S 6) (Own.box (B 6) rApiNode (ApiNode.mk 0 [] [] 0 0 0 0 0 [])) Own.nil))];simp only[hK.me,hK.F 7 (by kernel_rfl),cond_false],fun s ρ hg _=>sAlloc (R:=rApiNode) (z:=(ApiNode.mk 0 [] [] 0 0 0 0 0 [])) 4 Tryz.zeroValue48 (fun _=>(by rw[au];exact⟨_,⟨_,_,rfl,rfl,⟨_,_,rfl,rfl,⟨_,_,rfl,rfl,⟨_,_,rfl,rfl,⟨_,_,rfl,rfl,⟨_,_,rfl,rfl,⟨_,_,rfl,rfl,⟨_,_,rfl,rfl,⟨_,_,rfl,⟨_,rfl,none,0,rfl,⟨Nat.le_refl _,fun _=>rfl⟩,.inl rfl⟩,rfl⟩⟩⟩⟩⟩⟩⟩⟩⟩,rfl⟩)) (congrArg some ((condF (hK.F 7 (by kernel_rfl)) _ _).trans (condF (hK.me) _ _))) (fun b=>by show([Own.box b1 ae x25,Own.box b3 rApiNode (ApiNode.mk 0 [] [] 0 0 0 0 0 []),Own.box b7 ah x5,Own.box b8 ah x16,(cond (S 7) (Own.box b rApiNode x33) (Own.box b rApiNode (ApiNode.mk 0 [] [] 0 0 0 0 0 [])))]:Ctx)=_;rw[hK.F 7 (by kernel_rfl)];rfl) s ρ hg⟩) ?_
   refine gqS (fun S hK=>SStep.as (dr (R:=rApiNode) (R':=rApiNode) (a:=(ApiNode.mk 0 [] [] 0 0 0 0 0 [])) (y:=x33) 4 Tryz.sizeOf48 (Upd.refl _) (congrArg some ((condF (hK.me) _ _).trans (condT (hK.T 6 (by kernel_rfl)) _ _)))) (by show(_:Ctx)=[Own.box b1 ae x25,Own.box b3 rApiNode (ApiNode.mk 0 [] [] 0 0 0 0 0 []),Own.box b7 ah x5,Own.box b8 ah x16,Own.box (B 6) rApiNode x33];rfl)) ?_
   exact⟨x33,(B 6),h,atOk⟩
  refine W_nil [7] rApiNode 48 (fun v38=> ?_) ⟨rfl,trivial⟩
  refine ew (fun m e C=>∃(x19:ParseParser),∃(x20:List ApiNode),∃(v18:Value),ff (fun s=>gi s.1 s.2) m (x19,x20)=some z4l/\At [(0,aj b1 0),(2,aj b3 0),(3,Pr.i64 x2.at_),(4,aj b7 0),(5,aj b8 0),(6,Pr.bool x9),(7,Pr.is v18)] [Own.box b1 ae x19,Own.box b3 rApiNode (ApiNode.mk 0 [] [] 0 0 0 0 0 []),Own.box b7 ah x5,Own.box b8 ah x16,Own.vec v18 rApiNode x20 48] e C) n4 ⟨x17,[],v38,hN4,⟨⟨aa,aa,aa,aa,aa,aa,aa,trivial⟩,Pick.refl _⟩⟩ ?_
  rintro m e C ⟨x19,x20,v18,hN4,hatl4⟩
  refine W_at hatl4 ?_
  obtain⟨m4,w4l,rfl,h4l,hn4,ho4⟩:=bk hN4
  replace h4l:gi x19 x20=some w4l:=h4l
  unfold gi at h4l
  refine az (W_rs (kMv rfl ?_))
  obtain⟨⟨x24,x25⟩,hx24,h4l⟩:=af h4l
  refine jp [0] (cd ([125]:List UInt8) x19 b1 _ hx24) (fun q C' hq=> ?_)
  obtain⟨rfl,rfl⟩:=hq
  refine rCtx [Own.box b1 ae x25,Own.box b3 rApiNode (ApiNode.mk 0 [] [] 0 0 0 0 0 []),Own.box b7 ah x5,Own.box b8 ah x16,Own.vec v18 rApiNode x20 48] ?_
  refine kNo rfl ?_
  refine a7 h4l rfl (fun _ h4l=> ?_) (fun _ h4l=> ?_)
  ·refine ar (a4 (W_r (kMv rfl (kMv rfl ?_))))
   rcases a5 h4l with⟨m31,hm31,h4l⟩|⟨⟨x27,x28⟩,hx27,h4l⟩
   ·refine bn [0] (parse_parser_member_ok x25 b1 _ hm31) ⟨aa,trivial⟩ (fun q C' hq=> ?_) (fun v9 hv=> ?_)
    ·obtain⟨_,h9,_⟩:=hq;cases h9
    obtain⟨_,h9,rfl⟩:=hv
    cases h9
    obtain rfl:=ho4 _ (Option.some.inj h4l).symm
    replace h:some (.bad m31)=some r:=h
    obtain rfl:=osj h
    exact .inr ⟨_,rfl,_,rfl,rfl⟩
   refine bn [0] (parse_parser_member_ok x25 b1 _ hx27) ⟨aa,trivial⟩ (fun q C' hq=> ?_) (fun v9 hv=>by obtain⟨_,h9,_⟩:=hv;cases h9)
   obtain⟨_,h9,rfl,rfl⟩:=hq
   cases h9
   refine rCtx [Own.box b1 ae x28,Own.box b3 rApiNode (ApiNode.mk 0 [] [] 0 0 0 0 0 []),Own.box b7 ah x5,Own.box b8 ah x16,Own.vec v18 rApiNode x20 48] ?_
   refine kUn (bt (R:=rApiNode) (a:=x27) el44 (Nat.le_of_ble_eq_true rfl)) ?_
   obtain⟨x29,hx29,h4l⟩:=af h4l
   refine fg 4 el44 hx29 (fun v30=> ?_)
   refine kAs rfl ?_
   exact⟨m4,Nat.lt_succ_self _,x28,x29,v30,hn4 _ (Option.some.inj h4l).symm,atOk⟩
  refine ej ?_
  obtain rfl:=ho4 _ (Option.some.inj h4l).symm
  exact⟨x25,x20,v18,h,atOk⟩
 refine W_rs (kMv rfl ?_)
 refine a7 h rfl (fun _ h=> ?_) (fun _ h=> ?_)
 ·refine W_r (kMv rfl ?_)
  rcases a5 h with⟨m14,hm14,h⟩|⟨⟨x12,x13⟩,hx12,h⟩
  ·refine bn [0] (db x10 b1 _ hm14) ⟨aa,trivial⟩ (fun q C' hq=> ?_) (fun v9 hv=> ?_)
   ·obtain⟨_,h9,_⟩:=hq;cases h9
   obtain⟨_,h9,rfl⟩:=hv
   cases h9
   obtain rfl:=osj h
   exact .inr ⟨_,rfl,_,rfl,rfl⟩
  refine bn [0] (db x10 b1 _ hx12) ⟨aa,trivial⟩ (fun q C' hq=> ?_) (fun v9 hv=>by obtain⟨_,h9,_⟩:=hv;cases h9)
  obtain⟨_,h9,rfl,rfl⟩:=hq
  cases h9
  refine rCtx [Own.box b1 ae x13,Own.box b3 rApiNode (ApiNode.mk 0 [] [] 0 0 0 0 0 []),Own.box b7 ah x5,Own.box b8 ah (ApiToken.mk 0 [] 0 [])] ?_
  refine ak 3 rfl rfl (Upd.refl _) rfl Tryz.sizeOf74 ?_
  exact⟨x13,x12,h,atOk⟩
 refine ar ?_
 exact⟨x10,(ApiToken.mk 0 [] 0 []),h,atOk⟩
theorem parse_File_1_ok (x2:ParseParser) (b1:Nat) (r:PX ParseWrong ((List ApiNode) × ParseParser)) (h:li x2=some r):FnX Tryz.prog 38 [aj b1 0] [Own.box b1 ae x2] (fun q C'=>∃a9,r= .ok a9/\q=ap rApiNode a9.1/\C'=[Own.box b1 ae a9.2]) (fun v=>∃m,r= .bad m/\v=fo m):=by
 refine fnx_introP (rs:=[2]) Tryz.func38 rfl Tryz.ntmps38 ⟨by decide,Tryz.results38⟩ (by decide) (fun s0=> ?_)
 unfold li at h
 refine W_rs (kAs rfl (W_rs (kAs rfl (az (a4 ?_)))))
 obtain⟨z2l,hz2,h⟩:=af h
 obtain⟨n2,hN2⟩:=bp hz2
 refine d7 0 (fun e C=>∃(x4:ParseParser),∃(x5:List ApiNode),∃(v3:Value),mn x4 x5=some r/\At [(0,aj b1 0),(3,Pr.is v3)] [Own.box b1 ae x4,Own.vec v3 rApiNode x5 48] e C) ?_ ?_
 ·rintro e C ⟨x4,x5,v3,h,hat1⟩
  refine W_at hat1 ?_
  unfold mn at h
  refine W_rs (kMv rfl (kAs rfl ?_))
  refine W_rel 1 [2] ?_ rfl ⟨rfl,trivial⟩
  obtain rfl:=osj h
  exact ax (.inl ⟨.inl rfl,_,Pick.refl _,_,(aa),_,rfl,rfl,rfl⟩)
 refine W_nil [3] rApiNode 48 (fun v16=> ?_) ⟨rfl,trivial⟩
 refine ew (fun m e C=>∃(x4:ParseParser),∃(x5:List ApiNode),∃(v3:Value),ff (fun s=>d6 s.1 s.2) m (x4,x5)=some z2l/\At [(0,aj b1 0),(3,Pr.is v3)] [Own.box b1 ae x4,Own.vec v3 rApiNode x5 48] e C) n2 ⟨x2,[],v16,hN2,⟨⟨aa,aa,trivial⟩,Pick.refl _⟩⟩ ?_
 rintro m e C ⟨x4,x5,v3,hN2,hatl2⟩
 refine W_at hatl2 ?_
 obtain⟨m2,w2l,rfl,h2l,hn2,ho2⟩:=bk hN2
 replace h2l:d6 x4 x5=some w2l:=h2l
 unfold d6 at h2l
 refine az (W_rs (kMv rfl ?_))
 obtain⟨x9,hx9,h2l⟩:=af h2l
 refine kUn (qCallBx 0 (dz x4 _ hx9) ⟨.inr ⟨aa,rfl⟩,trivial⟩ (fun _ _ _ h=>Flat.val kh _ _ _ _ h)) ?_
 refine kUn (qField rfl qc dn (Nat.le_of_ble_eq_true rfl)) ?_
 refine kIn rfl rfl rfl ?_
 refine a7 h2l rfl (fun _ h2l=> ?_) (fun _ h2l=> ?_)
 ·refine ar (a4 (W_r (kMv rfl (kMv rfl ?_))))
  rcases a5 h2l with⟨m15,hm15,h2l⟩|⟨⟨x11,x12⟩,hx11,h2l⟩
  ·refine bn [0] (parse_parser_class_ok x4 b1 _ hm15) ⟨aa,trivial⟩ (fun q C' hq=> ?_) (fun v9 hv=> ?_)
   ·obtain⟨_,h9,_⟩:=hq;cases h9
   obtain⟨_,h9,rfl⟩:=hv
   cases h9
   obtain rfl:=ho2 _ (Option.some.inj h2l).symm
   replace h:some (.bad m15)=some r:=h
   obtain rfl:=osj h
   exact .inr ⟨_,rfl,_,rfl,rfl⟩
  refine bn [0] (parse_parser_class_ok x4 b1 _ hx11) ⟨aa,trivial⟩ (fun q C' hq=> ?_) (fun v9 hv=>by obtain⟨_,h9,_⟩:=hv;cases h9)
  obtain⟨_,h9,rfl,rfl⟩:=hq
  cases h9
  refine rCtx [Own.box b1 ae x12,Own.vec v3 rApiNode x5 48] ?_
  refine kUn (bt (R:=rApiNode) (a:=x11) el44 (Nat.le_of_ble_eq_true rfl)) ?_
  obtain⟨x13,hx13,h2l⟩:=af h2l
  refine fg 1 el44 hx13 (fun v14=> ?_)
  refine kAs rfl ?_
  exact⟨m2,Nat.lt_succ_self _,x12,x13,v14,hn2 _ (Option.some.inj h2l).symm,atOk⟩
 refine ej ?_
 obtain rfl:=ho2 _ (Option.some.inj h2l).symm
 exact⟨x4,x5,v3,h,atOk⟩
end Go.Proofs.YteablckbgpogiaaGreatDoor
