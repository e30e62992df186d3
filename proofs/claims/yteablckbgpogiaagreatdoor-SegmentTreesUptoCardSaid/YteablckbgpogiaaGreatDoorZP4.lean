/- The code comes to what these functions say (printed by wip/gen/gen.py). -/
import Derived.Test.YteablckbgpogiaaGreatDoorZX
import Derived.Test.YteablckbgpogiaaGreatDoorZP3
import Derived.Test.YteablckbgpogiaaGreatDoorZT
set_option linter.unusedSimpArgs false
set_option linter.unusedVariables false
set_option linter.unusedSectionVars false
set_option linter.unusedSectionVars false
set_option maxRecDepth 100000
set_option maxHeartbeats 4000000
namespace Go.Proofs.YteablckbgpogiaaGreatDoor
open Go Go.Cn
variable [Known]
attribute [local irreducible] f5 ap
def gl (R:ay):Prop:=(∀(x1:Int) (x3:ParseParser) (b2:Nat) (r:PX ParseWrong (ApiNode × ParseParser)),R.1 x1 x3=some r->FnX Tryz.prog 93 [aj b2 0,Pr.i64 x1] [Own.box b2 ae x3] (fun q C'=>∃a9,r= .ok a9/\q=(rApiNode).val a9.1/\C'=[Own.box b2 ae a9.2]) (fun v=>∃m,r= .bad m/\v=fo m))/\(∀(x1:Int) (x3:ParseParser) (b2:Nat) (r:PX ParseWrong (ApiNode × ParseParser)),R.2.1 x1 x3=some r->FnX Tryz.prog 112 [aj b2 0,Pr.i64 x1] [Own.box b2 ae x3] (fun q C'=>∃a9,r= .ok a9/\q=(rApiNode).val a9.1/\C'=[Own.box b2 ae a9.2]) (fun v=>∃m,r= .bad m/\v=fo m))/\(∀(x1:Int) (x3:ParseParser) (b2:Nat) (r:PX ParseWrong (ApiNode × ParseParser)),R.2.2.1 x1 x3=some r->FnX Tryz.prog 152 [aj b2 0,Pr.i64 x1] [Own.box b2 ae x3] (fun q C'=>∃a9,r= .ok a9/\q=(rApiNode).val a9.1/\C'=[Own.box b2 ae a9.2]) (fun v=>∃m,r= .bad m/\v=fo m))/\(∀(x1:Int) (x3:ParseParser) (b2:Nat) (r:PX ParseWrong (ApiNode × ParseParser)),R.2.2.2 x1 x3=some r->FnX Tryz.prog 153 [aj b2 0,Pr.i64 x1] [Own.box b2 ae x3] (fun q C'=>∃a9,r= .ok a9/\q=(rApiNode).val a9.1/\C'=[Own.box b2 ae a9.2]) (fun v=>∃m,r= .bad m/\v=fo m))
theorem F_parse_parser_block_step (R:ay) (ih:gl R) (x1:Int) (x3:ParseParser) (b2:Nat) (r:PX ParseWrong (ApiNode × ParseParser)) (h:f0 R x1 x3=some r):FnX Tryz.prog 93 [aj b2 0,Pr.i64 x1] [Own.box b2 ae x3] (fun q C'=>∃a9,r= .ok a9/\q=(rApiNode).val a9.1/\C'=[Own.box b2 ae a9.2]) (fun v=>∃m,r= .bad m/\v=fo m):=by
 refine je (rs:=[.cell 4 48]) Tryz.func93 rfl Tryz.ntmps93 Tryz.results93 (by decide) (fun s0=> ?_)
 unfold f0 at h
 refine W_rs (a8 al48 fun b4=>W_rs (kMv rfl (kNp rfl (kUn (av fld103_1) ?_))))
 refine kUn (bb 0 ty3 subParseParser_at) ?_
 refine kAs rfl (W_rs (kMv rfl ?_))
 rcases a5 h with⟨m29,hm29,h⟩|⟨x5,hx5,h⟩
 ·refine bn [0] (aq ([123]:List UInt8) x3 b2 _ hm29) ⟨aa,aa,trivial⟩ (fun q C' hq=> ?_) (fun v9 hv=> ?_)
  ·obtain⟨_,h9,_⟩:=hq;cases h9
  obtain⟨_,h9,rfl⟩:=hv
  cases h9
  obtain rfl:=osj h
  exact .inr ⟨_,rfl,_,rfl,rfl⟩
 refine bn [0] (aq ([123]:List UInt8) x3 b2 _ hx5) ⟨aa,aa,trivial⟩ (fun q C' hq=> ?_) (fun v9 hv=>by obtain⟨_,h9,_⟩:=hv;cases h9)
 obtain⟨_,h9,rfl,rfl⟩:=hq
 cases h9
 refine rCtx [Own.box b2 ae x5,Own.box b4 rApiNode (ApiNode.mk 0 [] [] 0 0 0 0 0 [])] ?_
 refine W_rs (kAs rfl (az (a4 ?_)))
 obtain⟨z2l,hz2,h⟩:=af h
 obtain⟨n2,hN2⟩:=bp hz2
 refine d7 0 (fun e C=>∃(x13:ParseParser),∃(x8:List ApiNode),∃(v6:Value),jy R x3 x13 x8=some r/\At [(0,aj b2 0),(4,aj b4 0),(5,Pr.i64 x3.at_),(6,Pr.is v6)] [Own.box b2 ae x13,Own.box b4 rApiNode (ApiNode.mk 0 [] [] 0 0 0 0 0 []),Own.vec v6 rApiNode x8 48] e C) ?_ ?_
 ·rintro e C ⟨x13,x8,v6,h,hat1⟩
  refine W_at hat1 ?_
  unfold jy at h
  refine W_rs (kMv rfl (kMv rfl (kMv rfl ?_)))
  obtain⟨x27,hx27,h⟩:=af h
  refine rRel 2 [6,34] ?_ rfl ⟨rfl,rfl,trivial⟩
  refine kUn (qMade 0 hx27 aa) ?_
  refine ak 1 rfl rfl (Upd.refl _) rfl Tryz.sizeOf48 ?_
  obtain rfl:=osj h
  exact ax (.inl ⟨.inl rfl,[(rApiNode).val x27],⟨yBox 1 ty48 aa,trivial⟩,_,Pick.of [0] rfl,_,rfl,rfl,rfl⟩)
 refine W_nil [6] rApiNode 48 (fun v28=> ?_) ⟨rfl,trivial⟩
 refine ew (fun m e C=>∃(x7:ParseParser),∃(x8:List ApiNode),∃(v6:Value),ff (fun s=>iz R x1 s.1 s.2) m (x7,x8)=some z2l/\At [(0,aj b2 0),(1,Pr.i64 x1),(4,aj b4 0),(5,Pr.i64 x3.at_),(6,Pr.is v6)] [Own.box b2 ae x7,Own.box b4 rApiNode (ApiNode.mk 0 [] [] 0 0 0 0 0 []),Own.vec v6 rApiNode x8 48] e C) n2 ⟨x5,[],v28,hN2,⟨⟨aa,aa,aa,aa,aa,trivial⟩,Pick.refl _⟩⟩ ?_
 rintro m e C ⟨x7,x8,v6,hN2,hatl2⟩
 refine W_at hatl2 ?_
 obtain⟨m2,w2l,rfl,h2l,hn2,ho2⟩:=bk hN2
 replace h2l:iz R x1 x7 x8=some w2l:=h2l
 unfold iz at h2l
 refine az (W_rs (kMv rfl ?_))
 obtain⟨⟨x12,x13⟩,hx12,h2l⟩:=af h2l
 refine jp [0] (cd ([125]:List UInt8) x7 b2 _ hx12) (fun q C' hq=> ?_)
 obtain⟨rfl,rfl⟩:=hq
 refine rCtx [Own.box b2 ae x13,Own.box b4 rApiNode (ApiNode.mk 0 [] [] 0 0 0 0 0 []),Own.vec v6 rApiNode x8 48] ?_
 refine kNo rfl ?_
 refine a7 h2l rfl (fun _ h2l=> ?_) (fun _ h2l=> ?_)
 ·refine ar (a4 (W_rs (kMv rfl ?_)))
  obtain⟨x15,hx15,h2l⟩:=af h2l
  refine kUn (qCallBx 0 (parse_parser_isLocal_ok x13 _ hx15) ⟨.inr ⟨aa,rfl⟩,trivial⟩ (fun _ _ _ h=>h)) ?_
  refine a7 h2l rfl (fun _ h2l=> ?_) (fun _ h2l=> ?_)
  ·refine W_r (kMv rfl (kMv rfl (kMv rfl (kIn rfl rfl rfl ?_))))
   rcases a5 h2l with⟨m21,hm21,h2l⟩|⟨⟨x17,x18⟩,hx17,h2l⟩
   ·refine bn [0] (parse_parser_local_ok (w64 (x1+1)) x13 b2 _ hm21) ⟨aa,aa,trivial⟩ (fun q C' hq=> ?_) (fun v9 hv=> ?_)
    ·obtain⟨_,h9,_⟩:=hq;cases h9
    obtain⟨_,h9,rfl⟩:=hv
    cases h9
    obtain rfl:=ho2 _ (Option.some.inj h2l).symm
    replace h:some (.bad m21)=some r:=h
    obtain rfl:=osj h
    exact .inr ⟨_,rfl,_,rfl,rfl⟩
   refine bn [0] (parse_parser_local_ok (w64 (x1+1)) x13 b2 _ hx17) ⟨aa,aa,trivial⟩ (fun q C' hq=> ?_) (fun v9 hv=>by obtain⟨_,h9,_⟩:=hv;cases h9)
   obtain⟨_,h9,rfl,rfl⟩:=hq
   cases h9
   refine rCtx [Own.box b2 ae x18,Own.box b4 rApiNode (ApiNode.mk 0 [] [] 0 0 0 0 0 []),Own.vec v6 rApiNode x8 48] ?_
   refine kUn (bt (R:=rApiNode) (a:=x17) el44 (Nat.le_of_ble_eq_true rfl)) ?_
   obtain⟨x19,hx19,h2l⟩:=af h2l
   refine fg 2 el44 hx19 (fun v20=> ?_)
   refine kAs rfl ?_
   exact⟨m2,Nat.lt_succ_self _,x18,x19,v20,hn2 _ (Option.some.inj h2l).symm,atOk⟩
  refine W_r (kMv rfl (kMv rfl (kMv rfl (kIn rfl rfl rfl ?_))))
  rcases a5 h2l with⟨m26,hm26,h2l⟩|⟨⟨x22,x23⟩,hx22,h2l⟩
  ·refine bn [0] (ih.2.1 (w64 (x1+1)) x13 b2 _ hm26) ⟨aa,aa,trivial⟩ (fun q C' hq=> ?_) (fun v9 hv=> ?_)
   ·obtain⟨_,h9,_⟩:=hq;cases h9
   obtain⟨_,h9,rfl⟩:=hv
   cases h9
   obtain rfl:=ho2 _ (Option.some.inj h2l).symm
   replace h:some (.bad m26)=some r:=h
   obtain rfl:=osj h
   exact .inr ⟨_,rfl,_,rfl,rfl⟩
  refine bn [0] (ih.2.1 (w64 (x1+1)) x13 b2 _ hx22) ⟨aa,aa,trivial⟩ (fun q C' hq=> ?_) (fun v9 hv=>by obtain⟨_,h9,_⟩:=hv;cases h9)
  obtain⟨_,h9,rfl,rfl⟩:=hq
  cases h9
  refine rCtx [Own.box b2 ae x23,Own.box b4 rApiNode (ApiNode.mk 0 [] [] 0 0 0 0 0 []),Own.vec v6 rApiNode x8 48] ?_
  refine kUn (bt (R:=rApiNode) (a:=x22) el44 (Nat.le_of_ble_eq_true rfl)) ?_
  obtain⟨x24,hx24,h2l⟩:=af h2l
  refine fg 2 el44 hx24 (fun v25=> ?_)
  refine kAs rfl ?_
  exact⟨m2,Nat.lt_succ_self _,x23,x24,v25,hn2 _ (Option.some.inj h2l).symm,atOk⟩
 refine ej ?_
 obtain rfl:=ho2 _ (Option.some.inj h2l).symm
 exact⟨x13,x8,v6,h,atOk⟩
theorem F_parse_parser_statement_step (R:ay) (ih:gl R) (x1:Int) (x3:ParseParser) (b2:Nat) (r:PX ParseWrong (ApiNode × ParseParser)) (h:eg R x1 x3=some r):FnX Tryz.prog 112 [aj b2 0,Pr.i64 x1] [Own.box b2 ae x3] (fun q C'=>∃a9,r= .ok a9/\q=(rApiNode).val a9.1/\C'=[Own.box b2 ae a9.2]) (fun v=>∃m,r= .bad m/\v=fo m):=by
 refine je (rs:=[.cell 4 48]) Tryz.func112 rfl Tryz.ntmps112 Tryz.results112 (by decide) (fun s0=> ?_)
 unfold eg at h
 refine W_rs (a8 al48 fun b4=>W_rs (kMv rfl (kMv rfl ?_)))
 rcases a5 h with⟨m35,hm35,h⟩|⟨x5,hx5,h⟩
 ·refine bn [0] (iv x1 x3 b2 _ hm35) ⟨aa,aa,trivial⟩ (fun q C' hq=> ?_) (fun v9 hv=> ?_)
  ·obtain⟨_,h9,_⟩:=hq;cases h9
  obtain⟨_,h9,rfl⟩:=hv
  cases h9
  obtain rfl:=osj h
  exact .inr ⟨_,rfl,_,rfl,rfl⟩
 refine bn [0] (iv x1 x3 b2 _ hx5) ⟨aa,aa,trivial⟩ (fun q C' hq=> ?_) (fun v9 hv=>by obtain⟨_,h9,_⟩:=hv;cases h9)
 obtain⟨_,h9,rfl,rfl⟩:=hq
 cases h9
 refine rCtx [Own.box b2 ae x5,Own.box b4 rApiNode (ApiNode.mk 0 [] [] 0 0 0 0 0 [])] ?_
 refine W_rs (kMv rfl ?_)
 obtain⟨x6,hx6,h⟩:=af h
 refine kUn (qCallBx 0 (dz x5 _ hx6) ⟨.inr ⟨aa,rfl⟩,trivial⟩ (fun _ _ _ h=>Flat.val kh _ _ _ _ h)) ?_
 refine a8 al74 fun b7=>ak 2 rfl rfl (Upd.refl _) rfl Tryz.sizeOf74 (az ?_)
 refine bj (fun e C=>∃(x8:SMap (Option Nat)),eb R x6 x1 x5 x8=some r/\At [(0,aj b2 0),(1,Pr.i64 x1),(4,aj b4 0),(5,aj b7 0),(6,(Rp.fid).val (mget x6.Text none x8)),(7,Pr.bool (mhas x6.Text x8))] [Own.box b2 ae x5,Own.box b4 rApiNode (ApiNode.mk 0 [] [] 0 0 0 0 0 []),Own.box b7 ah x6] e C) ?_ ?_
 ·rintro e C ⟨x8,h,hat2⟩
  refine W_at hat2 ?_
  unfold eb at h
  refine bj (fun e C=>∃(x10:Bool),er R x6 x8 x1 x5 x10=some r/\At [(0,aj b2 0),(1,Pr.i64 x1),(4,aj b4 0),(6,(Rp.fid).val (mget x6.Text none x8)),(25,Pr.bool x10)] [Own.box b2 ae x5,Own.box b4 rApiNode (ApiNode.mk 0 [] [] 0 0 0 0 0 []),Own.box b7 ah x6] e C) ?_ ?_
  ·rintro e C ⟨x10,h,hat1⟩
   refine W_at hat1 ?_
   unfold er at h
   refine a7 h rfl (fun _ h=> ?_) (fun _ h=> ?_)
   ·refine W_rs (kUn (hMv (out:=(Rp.fid).val (mget x6.Text none x8)) rfl) (kMv rfl (kMv rfl ?_)))
    rcases bd h with⟨hc12,h⟩|⟨hc12,h⟩
    ·refine rEnv 26 (q:=Pr.is (.func (.func 93) #[] #[])) (fid_le hc12) ?_
     rcases a5 h with⟨m15,hm15,h⟩|⟨⟨x13,x14⟩,hx13,h⟩
     ·refine rCallXT [0] (ih.1 x1 x5 b2 _ hm15) ⟨aa,aa,trivial⟩ (fun q C' hq=> ?_) (fun v9 hv=> ?_)
      ·obtain⟨_,h9,_⟩:=hq;cases h9
      obtain⟨_,h9,rfl⟩:=hv
      cases h9
      obtain rfl:=osj h
      exact .inr ⟨_,rfl,_,rfl,rfl⟩
     refine rCallXT [0] (ih.1 x1 x5 b2 _ hx13) ⟨aa,aa,trivial⟩ (fun q C' hq=> ?_) (fun v9 hv=>by obtain⟨_,h9,_⟩:=hv;cases h9)
     obtain⟨_,h9,rfl,rfl⟩:=hq
     cases h9
     refine rCtx [Own.box b2 ae x14,Own.box b4 rApiNode (ApiNode.mk 0 [] [] 0 0 0 0 0 []),Own.box b7 ah x6] ?_
     refine ak 1 rfl rfl (Upd.refl _) rfl Tryz.sizeOf48 ?_
     obtain rfl:=osj h
     exact ax (.inl ⟨.inl rfl,[(rApiNode).val x13],⟨yBox 1 ty48 aa,trivial⟩,_,Pick.of [0] rfl,_,rfl,rfl,rfl⟩)
    rcases bd h with⟨hc16,h⟩|⟨hc16,h⟩
    ·refine rEnv 26 (q:=Pr.is (.func (.func 152) #[] #[])) (fid_le hc16) ?_
     rcases a5 h with⟨m19,hm19,h⟩|⟨⟨x17,x18⟩,hx17,h⟩
     ·refine rCallXT [0] (ih.2.2.1 x1 x5 b2 _ hm19) ⟨aa,aa,trivial⟩ (fun q C' hq=> ?_) (fun v9 hv=> ?_)
      ·obtain⟨_,h9,_⟩:=hq;cases h9
      obtain⟨_,h9,rfl⟩:=hv
      cases h9
      obtain rfl:=osj h
      exact .inr ⟨_,rfl,_,rfl,rfl⟩
     refine rCallXT [0] (ih.2.2.1 x1 x5 b2 _ hx17) ⟨aa,aa,trivial⟩ (fun q C' hq=> ?_) (fun v9 hv=>by obtain⟨_,h9,_⟩:=hv;cases h9)
     obtain⟨_,h9,rfl,rfl⟩:=hq
     cases h9
     refine rCtx [Own.box b2 ae x18,Own.box b4 rApiNode (ApiNode.mk 0 [] [] 0 0 0 0 0 []),Own.box b7 ah x6] ?_
     refine ak 1 rfl rfl (Upd.refl _) rfl Tryz.sizeOf48 ?_
     obtain rfl:=osj h
     exact ax (.inl ⟨.inl rfl,[(rApiNode).val x17],⟨yBox 1 ty48 aa,trivial⟩,_,Pick.of [0] rfl,_,rfl,rfl,rfl⟩)
    rcases bd h with⟨hc20,h⟩|⟨hc20,h⟩
    ·refine rEnv 26 (q:=Pr.is (.func (.func 153) #[] #[])) (fid_le hc20) ?_
     rcases a5 h with⟨m23,hm23,h⟩|⟨⟨x21,x22⟩,hx21,h⟩
     ·refine rCallXT [0] (ih.2.2.2 x1 x5 b2 _ hm23) ⟨aa,aa,trivial⟩ (fun q C' hq=> ?_) (fun v9 hv=> ?_)
      ·obtain⟨_,h9,_⟩:=hq;cases h9
      obtain⟨_,h9,rfl⟩:=hv
      cases h9
      obtain rfl:=osj h
      exact .inr ⟨_,rfl,_,rfl,rfl⟩
     refine rCallXT [0] (ih.2.2.2 x1 x5 b2 _ hx21) ⟨aa,aa,trivial⟩ (fun q C' hq=> ?_) (fun v9 hv=>by obtain⟨_,h9,_⟩:=hv;cases h9)
     obtain⟨_,h9,rfl,rfl⟩:=hq
     cases h9
     refine rCtx [Own.box b2 ae x22,Own.box b4 rApiNode (ApiNode.mk 0 [] [] 0 0 0 0 0 []),Own.box b7 ah x6] ?_
     refine ak 1 rfl rfl (Upd.refl _) rfl Tryz.sizeOf48 ?_
     obtain rfl:=osj h
     exact ax (.inl ⟨.inl rfl,[(rApiNode).val x21],⟨yBox 1 ty48 aa,trivial⟩,_,Pick.of [0] rfl,_,rfl,rfl,rfl⟩)
    rcases bd h with⟨hc24,h⟩|⟨hc24,h⟩
    ·refine rEnv 26 (q:=Pr.is (.func (.func 154) #[] #[])) (fid_le hc24) ?_
     rcases a5 h with⟨m27,hm27,h⟩|⟨⟨x25,x26⟩,hx25,h⟩
     ·refine rCallXT [0] (parse_parser_back_ok x1 x5 b2 _ hm27) ⟨aa,aa,trivial⟩ (fun q C' hq=> ?_) (fun v9 hv=> ?_)
      ·obtain⟨_,h9,_⟩:=hq;cases h9
      obtain⟨_,h9,rfl⟩:=hv
      cases h9
      obtain rfl:=osj h
      exact .inr ⟨_,rfl,_,rfl,rfl⟩
     refine rCallXT [0] (parse_parser_back_ok x1 x5 b2 _ hx25) ⟨aa,aa,trivial⟩ (fun q C' hq=> ?_) (fun v9 hv=>by obtain⟨_,h9,_⟩:=hv;cases h9)
     obtain⟨_,h9,rfl,rfl⟩:=hq
     cases h9
     refine rCtx [Own.box b2 ae x26,Own.box b4 rApiNode (ApiNode.mk 0 [] [] 0 0 0 0 0 []),Own.box b7 ah x6] ?_
     refine ak 1 rfl rfl (Upd.refl _) rfl Tryz.sizeOf48 ?_
     obtain rfl:=osj h
     exact ax (.inl ⟨.inl rfl,[(rApiNode).val x25],⟨yBox 1 ty48 aa,trivial⟩,_,Pick.of [0] rfl,_,rfl,rfl,rfl⟩)
    rcases bd h with⟨hc28,h⟩|⟨hc28,h⟩
    ·refine rEnv 26 (q:=Pr.is (.func (.func 155) #[] #[])) (fid_le hc28) ?_
     rcases a5 h with⟨m31,hm31,h⟩|⟨⟨x29,x30⟩,hx29,h⟩
     ·refine rCallXT [0] (parse_parser_show_ok x1 x5 b2 _ hm31) ⟨aa,aa,trivial⟩ (fun q C' hq=> ?_) (fun v9 hv=> ?_)
      ·obtain⟨_,h9,_⟩:=hq;cases h9
      obtain⟨_,h9,rfl⟩:=hv
      cases h9
      obtain rfl:=osj h
      exact .inr ⟨_,rfl,_,rfl,rfl⟩
     refine rCallXT [0] (parse_parser_show_ok x1 x5 b2 _ hx29) ⟨aa,aa,trivial⟩ (fun q C' hq=> ?_) (fun v9 hv=>by obtain⟨_,h9,_⟩:=hv;cases h9)
     obtain⟨_,h9,rfl,rfl⟩:=hq
     cases h9
     refine rCtx [Own.box b2 ae x30,Own.box b4 rApiNode (ApiNode.mk 0 [] [] 0 0 0 0 0 []),Own.box b7 ah x6] ?_
     refine ak 1 rfl rfl (Upd.refl _) rfl Tryz.sizeOf48 ?_
     obtain rfl:=osj h
     exact ax (.inl ⟨.inl rfl,[(rApiNode).val x29],⟨yBox 1 ty48 aa,trivial⟩,_,Pick.of [0] rfl,_,rfl,rfl,rfl⟩)
    cases h
   refine ar (W_rs (kMv rfl (kMv rfl ?_)))
   rcases a5 h with⟨m34,hm34,h⟩|⟨⟨x32,x33⟩,hx32,h⟩
   ·refine bn [0] (parse_parser_plain_ok x1 x5 b2 _ hm34) ⟨aa,aa,trivial⟩ (fun q C' hq=> ?_) (fun v9 hv=> ?_)
    ·obtain⟨_,h9,_⟩:=hq;cases h9
    obtain⟨_,h9,rfl⟩:=hv
    cases h9
    obtain rfl:=osj h
    exact .inr ⟨_,rfl,_,rfl,rfl⟩
   refine bn [0] (parse_parser_plain_ok x1 x5 b2 _ hx32) ⟨aa,aa,trivial⟩ (fun q C' hq=> ?_) (fun v9 hv=>by obtain⟨_,h9,_⟩:=hv;cases h9)
   obtain⟨_,h9,rfl,rfl⟩:=hq
   cases h9
   refine rCtx [Own.box b2 ae x33,Own.box b4 rApiNode (ApiNode.mk 0 [] [] 0 0 0 0 0 []),Own.box b7 ah x6] ?_
   refine ak 1 rfl rfl (Upd.refl _) rfl Tryz.sizeOf48 ?_
   obtain rfl:=osj h
   exact ax (.inl ⟨.inl rfl,[(rApiNode).val x32],⟨yBox 1 ty48 aa,trivial⟩,_,Pick.of [0] rfl,_,rfl,rfl,rfl⟩)
  refine W_r (kMv rfl (kMv rfl ?_))
  rcases bd h with⟨hc9,h⟩|⟨hc9,h⟩
  ·refine kGd rfl aa hc9 (av qc) ?_
   refine kGd rfl aa hc9 (bb 2 ty3 dn) ?_
   refine kGd rfl aa hc9 (qInt rfl rfl rfl) (kPt rfl hc9 rfl ?_)
   exact⟨x6.Kind != 1,h,atOk⟩
  refine kSkT rfl aa hc9 (kSkT rfl aa hc9 (kSkT rfl aa hc9 (kPf rfl hc9 rfl ?_)))
  exact⟨false,h,atOk⟩
 refine ib 9 hmx (by kernel_rfl) (by kernel_rfl) ?_
 obtain⟨x8,hx8,h⟩:=af h
 refine lUn (dl (parse_begun_ok _ hx8)) ?_
 refine lUn (av fld74_1) ?_
 refine lUn (bb 2 ty9 subApiToken_Text) ?_
 refine lUn (qMapGetS2 (R:=Rp.fid) (m:=x8) (kx:=x6.Text) (z:=none) Tryz.underlying145 Tryz.underlying9 Tryz.zeroValue143 (fun _=>rfl)) ?_
 refine lUn (hMv (out:=ce [(Rp.fid).val (mget x6.Text none x8),Pr.bool (mhas x6.Text x8)]) rfl) (lUn ao ?_)
 refine lUn ao ?_
 refine lUn (hAs (out:=(Rp.fid).val (mget x6.Text none x8)) rfl) (lUn (hAsA rfl) ?_)
 exact⟨x8,h,atOk⟩
theorem F_parse_parser_branch_step (R:ay) (ih:gl R) (x1:Int) (x3:ParseParser) (b2:Nat) (r:PX ParseWrong (ApiNode × ParseParser)) (h:fj R x1 x3=some r):FnX Tryz.prog 152 [aj b2 0,Pr.i64 x1] [Own.box b2 ae x3] (fun q C'=>∃a9,r= .ok a9/\q=(rApiNode).val a9.1/\C'=[Own.box b2 ae a9.2]) (fun v=>∃m,r= .bad m/\v=fo m):=by
 refine je (rs:=[.cell 4 48]) Tryz.func152 rfl Tryz.ntmps152 Tryz.results152 (by decide) (fun s0=> ?_)
 unfold fj at h
 refine W_rs (a8 al48 fun b4=>W_rs (kMv rfl (kNp rfl (kUn (av fld103_1) ?_))))
 refine kUn (bb 0 ty3 subParseParser_at) ?_
 refine kAs rfl (W_rs (kMv rfl ?_))
 rcases a5 h with⟨m27,hm27,h⟩|⟨x5,hx5,h⟩
 ·refine bn [0] (aq ([105,102]:List UInt8) x3 b2 _ hm27) ⟨aa,aa,trivial⟩ (fun q C' hq=> ?_) (fun v9 hv=> ?_)
  ·obtain⟨_,h9,_⟩:=hq;cases h9
  obtain⟨_,h9,rfl⟩:=hv
  cases h9
  obtain rfl:=osj h
  exact .inr ⟨_,rfl,_,rfl,rfl⟩
 refine bn [0] (aq ([105,102]:List UInt8) x3 b2 _ hx5) ⟨aa,aa,trivial⟩ (fun q C' hq=> ?_) (fun v9 hv=>by obtain⟨_,h9,_⟩:=hv;cases h9)
 obtain⟨_,h9,rfl,rfl⟩:=hq
 cases h9
 refine rCtx [Own.box b2 ae x5,Own.box b4 rApiNode (ApiNode.mk 0 [] [] 0 0 0 0 0 [])] ?_
 refine W_rs (kMv rfl (kMv rfl (kIn rfl rfl rfl ?_)))
 rcases a5 h with⟨m26,hm26,h⟩|⟨⟨x6,x7⟩,hx6,h⟩
 ·refine bn [0] (fw (w64 (x1+1)) x5 b2 _ hm26) ⟨aa,aa,trivial⟩ (fun q C' hq=> ?_) (fun v9 hv=> ?_)
  ·obtain⟨_,h9,_⟩:=hq;cases h9
  obtain⟨_,h9,rfl⟩:=hv
  cases h9
  obtain rfl:=osj h
  exact .inr ⟨_,rfl,_,rfl,rfl⟩
 refine bn [0] (fw (w64 (x1+1)) x5 b2 _ hx6) ⟨aa,aa,trivial⟩ (fun q C' hq=> ?_) (fun v9 hv=>by obtain⟨_,h9,_⟩:=hv;cases h9)
 obtain⟨_,h9,rfl,rfl⟩:=hq
 cases h9
 refine rCtx [Own.box b2 ae x7,Own.box b4 rApiNode (ApiNode.mk 0 [] [] 0 0 0 0 0 [])] ?_
 refine rBuildV (R:=rApiNode) (ls:=([x6]:List ApiNode)) el44 (Nat.le_of_ble_eq_true rfl) ⟨rfl,rfl⟩ ⟨rfl,trivial⟩ (fun v8=> ?_)
 refine kAs rfl (W_rs (kMv rfl (kMv rfl (kMv rfl (kIn rfl rfl rfl ?_)))))
 rcases a5 h with⟨m25,hm25,h⟩|⟨⟨x9,x10⟩,hx9,h⟩
 ·refine bn [0] (ih.2.1 (w64 (x1+1)) x7 b2 _ hm25) ⟨aa,aa,trivial⟩ (fun q C' hq=> ?_) (fun v9 hv=> ?_)
  ·obtain⟨_,h9,_⟩:=hq;cases h9
  obtain⟨_,h9,rfl⟩:=hv
  cases h9
  obtain rfl:=osj h
  exact .inr ⟨_,rfl,_,rfl,rfl⟩
 refine bn [0] (ih.2.1 (w64 (x1+1)) x7 b2 _ hx9) ⟨aa,aa,trivial⟩ (fun q C' hq=> ?_) (fun v9 hv=>by obtain⟨_,h9,_⟩:=hv;cases h9)
 obtain⟨_,h9,rfl,rfl⟩:=hq
 cases h9
 refine rCtx [Own.box b2 ae x10,Own.box b4 rApiNode (ApiNode.mk 0 [] [] 0 0 0 0 0 []),Own.vec v8 rApiNode ([x6]:List ApiNode) 48] ?_
 refine kUn (bt (R:=rApiNode) (a:=x9) el44 (Nat.le_of_ble_eq_true rfl)) ?_
 obtain⟨x11,hx11,h⟩:=af h
 refine fg 2 el44 hx11 (fun v12=> ?_)
 refine kAs rfl ?_
 refine bj (fun e C=>∃(x22:ParseParser),∃(x23:List ApiNode),∃(v21:Value),ia R x3 x22 x23=some r/\At [(0,aj b2 0),(4,aj b4 0),(5,Pr.i64 x3.at_),(6,Pr.is v21)] [Own.box b2 ae x22,Own.box b4 rApiNode (ApiNode.mk 0 [] [] 0 0 0 0 0 []),Own.vec v21 rApiNode x23 48] e C) ?_ ?_
 ·rintro e C ⟨x22,x23,v21,h,hat1⟩
  refine W_at hat1 ?_
  unfold ia at h
  refine W_rs (kMv rfl (kMv rfl (kMv rfl ?_)))
  obtain⟨x24,hx24,h⟩:=af h
  refine rRel 2 [6,36] ?_ rfl ⟨rfl,rfl,trivial⟩
  refine kUn (qMade 0 hx24 aa) ?_
  refine ak 1 rfl rfl (Upd.refl _) rfl Tryz.sizeOf48 ?_
  obtain rfl:=osj h
  exact ax (.inl ⟨.inl rfl,[(rApiNode).val x24],⟨yBox 1 ty48 aa,trivial⟩,_,Pick.of [0] rfl,_,rfl,rfl,rfl⟩)
 refine W_rs (kMv rfl ?_)
 obtain⟨⟨x13,x14⟩,hx13,h⟩:=af h
 refine jp [0] (cd ([101,108,115,101]:List UInt8) x10 b2 _ hx13) (fun q C' hq=> ?_)
 obtain⟨rfl,rfl⟩:=hq
 refine rCtx [Own.box b2 ae x14,Own.box b4 rApiNode (ApiNode.mk 0 [] [] 0 0 0 0 0 []),Own.vec v12 rApiNode x11 48] ?_
 refine a7 h rfl (fun _ h=> ?_) (fun _ h=> ?_)
 ·refine W_r (kMv rfl (kMv rfl (kMv rfl (kIn rfl rfl rfl ?_))))
  rcases a5 h with⟨m20,hm20,h⟩|⟨⟨x16,x17⟩,hx16,h⟩
  ·refine bn [0] (ih.2.1 (w64 (x1+1)) x14 b2 _ hm20) ⟨aa,aa,trivial⟩ (fun q C' hq=> ?_) (fun v9 hv=> ?_)
   ·obtain⟨_,h9,_⟩:=hq;cases h9
   obtain⟨_,h9,rfl⟩:=hv
   cases h9
   obtain rfl:=osj h
   exact .inr ⟨_,rfl,_,rfl,rfl⟩
  refine bn [0] (ih.2.1 (w64 (x1+1)) x14 b2 _ hx16) ⟨aa,aa,trivial⟩ (fun q C' hq=> ?_) (fun v9 hv=>by obtain⟨_,h9,_⟩:=hv;cases h9)
  obtain⟨_,h9,rfl,rfl⟩:=hq
  cases h9
  refine rCtx [Own.box b2 ae x17,Own.box b4 rApiNode (ApiNode.mk 0 [] [] 0 0 0 0 0 []),Own.vec v12 rApiNode x11 48] ?_
  refine kUn (bt (R:=rApiNode) (a:=x16) el44 (Nat.le_of_ble_eq_true rfl)) ?_
  obtain⟨x18,hx18,h⟩:=af h
  refine fg 2 el44 hx18 (fun v19=> ?_)
  refine kAs rfl ?_
  exact⟨x17,x18,v19,h,atOk⟩
 refine ar ?_
 exact⟨x14,x11,v12,h,atOk⟩
theorem F_parse_parser_loop_step (R:ay) (ih:gl R) (x1:Int) (x3:ParseParser) (b2:Nat) (r:PX ParseWrong (ApiNode × ParseParser)) (h:ge R x1 x3=some r):FnX Tryz.prog 153 [aj b2 0,Pr.i64 x1] [Own.box b2 ae x3] (fun q C'=>∃a9,r= .ok a9/\q=(rApiNode).val a9.1/\C'=[Own.box b2 ae a9.2]) (fun v=>∃m,r= .bad m/\v=fo m):=by
 refine je (rs:=[.cell 4 48]) Tryz.func153 rfl Tryz.ntmps153 Tryz.results153 (by decide) (fun s0=> ?_)
 unfold ge at h
 refine W_rs (a8 al48 fun b4=>W_rs (kMv rfl (kNp rfl (kUn (av fld103_1) ?_))))
 refine kUn (bb 0 ty3 subParseParser_at) ?_
 refine kAs rfl (W_rs (kMv rfl ?_))
 rcases a5 h with⟨m15,hm15,h⟩|⟨x5,hx5,h⟩
 ·refine bn [0] (aq ([119,104,105,108,101]:List UInt8) x3 b2 _ hm15) ⟨aa,aa,trivial⟩ (fun q C' hq=> ?_) (fun v9 hv=> ?_)
  ·obtain⟨_,h9,_⟩:=hq;cases h9
  obtain⟨_,h9,rfl⟩:=hv
  cases h9
  obtain rfl:=osj h
  exact .inr ⟨_,rfl,_,rfl,rfl⟩
 refine bn [0] (aq ([119,104,105,108,101]:List UInt8) x3 b2 _ hx5) ⟨aa,aa,trivial⟩ (fun q C' hq=> ?_) (fun v9 hv=>by obtain⟨_,h9,_⟩:=hv;cases h9)
 obtain⟨_,h9,rfl,rfl⟩:=hq
 cases h9
 refine rCtx [Own.box b2 ae x5,Own.box b4 rApiNode (ApiNode.mk 0 [] [] 0 0 0 0 0 [])] ?_
 refine W_rs (kMv rfl (kMv rfl (kIn rfl rfl rfl ?_)))
 rcases a5 h with⟨m14,hm14,h⟩|⟨⟨x6,x7⟩,hx6,h⟩
 ·refine bn [0] (fw (w64 (x1+1)) x5 b2 _ hm14) ⟨aa,aa,trivial⟩ (fun q C' hq=> ?_) (fun v9 hv=> ?_)
  ·obtain⟨_,h9,_⟩:=hq;cases h9
  obtain⟨_,h9,rfl⟩:=hv
  cases h9
  obtain rfl:=osj h
  exact .inr ⟨_,rfl,_,rfl,rfl⟩
 refine bn [0] (fw (w64 (x1+1)) x5 b2 _ hx6) ⟨aa,aa,trivial⟩ (fun q C' hq=> ?_) (fun v9 hv=>by obtain⟨_,h9,_⟩:=hv;cases h9)
 obtain⟨_,h9,rfl,rfl⟩:=hq
 cases h9
 refine rCtx [Own.box b2 ae x7,Own.box b4 rApiNode (ApiNode.mk 0 [] [] 0 0 0 0 0 [])] ?_
 refine a8 al48 fun b8=>ak 2 rfl rfl (Upd.refl _) rfl Tryz.sizeOf48 (W_rs (kMv rfl (kMv rfl (kIn rfl rfl rfl ?_))))
 rcases a5 h with⟨m13,hm13,h⟩|⟨⟨x9,x10⟩,hx9,h⟩
 ·refine bn [0] (ih.2.1 (w64 (x1+1)) x7 b2 _ hm13) ⟨aa,aa,trivial⟩ (fun q C' hq=> ?_) (fun v9 hv=> ?_)
  ·obtain⟨_,h9,_⟩:=hq;cases h9
  obtain⟨_,h9,rfl⟩:=hv
  cases h9
  obtain rfl:=osj h
  exact .inr ⟨_,rfl,_,rfl,rfl⟩
 refine bn [0] (ih.2.1 (w64 (x1+1)) x7 b2 _ hx9) ⟨aa,aa,trivial⟩ (fun q C' hq=> ?_) (fun v9 hv=>by obtain⟨_,h9,_⟩:=hv;cases h9)
 obtain⟨_,h9,rfl,rfl⟩:=hq
 cases h9
 refine rCtx [Own.box b2 ae x10,Own.box b4 rApiNode (ApiNode.mk 0 [] [] 0 0 0 0 0 []),Own.box b8 rApiNode x6] ?_
 refine a8 al48 fun b11=>ak 3 rfl rfl (Upd.refl _) rfl Tryz.sizeOf48 (W_rs (kMv rfl (kMv rfl (kUn (bb 2 ty48 (Sub.refl _)) ?_))))
 refine kUn (bb 3 ty48 (Sub.refl _)) ?_
 refine kUn (kw (R:=rApiNode) (ls:=([x6,x9]:List ApiNode)) el44 (Nat.le_of_ble_eq_true rfl) ⟨rfl,rfl⟩ ⟨rfl,rfl,trivial⟩) ?_
 obtain⟨x12,hx12,h⟩:=af h
 refine kUn (qMade 0 hx12 aa) ?_
 refine ak 1 rfl rfl (Upd.refl _) rfl Tryz.sizeOf48 ?_
 obtain rfl:=osj h
 exact ax (.inl ⟨.inl rfl,[(rApiNode).val x12],⟨yBox 1 ty48 aa,trivial⟩,_,Pick.of [0] rfl,_,rfl,rfl,rfl⟩)
theorem rec_parse_parser_block_ok :∀n,gl (d9 n):=by
 intro n
 induction n with
 |zero=>exact⟨(fun x1 x3 b2 r h=>nomatch (show none=some r from h)),(fun x1 x3 b2 r h=>nomatch (show none=some r from h)),(fun x1 x3 b2 r h=>nomatch (show none=some r from h)),(fun x1 x3 b2 r h=>nomatch (show none=some r from h))⟩
 |succ n ih=>exact⟨(fun x1 x3 b2 r h=>F_parse_parser_block_step (d9 n) ih x1 x3 b2 r h),(fun x1 x3 b2 r h=>F_parse_parser_statement_step (d9 n) ih x1 x3 b2 r h),(fun x1 x3 b2 r h=>F_parse_parser_branch_step (d9 n) ih x1 x3 b2 r h),(fun x1 x3 b2 r h=>F_parse_parser_loop_step (d9 n) ih x1 x3 b2 r h)⟩
theorem parse_parser_block_ok (x1:Int) (x3:ParseParser) (b2:Nat) (r:PX ParseWrong (ApiNode × ParseParser)) (h:ow x1 x3=some r):FnX Tryz.prog 93 [aj b2 0,Pr.i64 x1] [Own.box b2 ae x3] (fun q C'=>∃a9,r= .ok a9/\q=(rApiNode).val a9.1/\C'=[Own.box b2 ae a9.2]) (fun v=>∃m,r= .bad m/\v=fo m):=(rec_parse_parser_block_ok 1048576).1 x1 x3 b2 r h
end Go.Proofs.YteablckbgpogiaaGreatDoor
