/- The code comes to what these functions say (printed by wip/gen/gen.py). -/
import Derived.Test.YteablckbgpogiaaGreatDoorZX
import Derived.Test.YteablckbgpogiaaGreatDoorZP1
import Derived.Test.YteablckbgpogiaaGreatDoorZT
set_option linter.unusedSimpArgs false
set_option linter.unusedVariables false
set_option linter.unusedSectionVars false
set_option linter.unusedSectionVars false
set_option maxRecDepth 100000
set_option maxHeartbeats 4000000
namespace Go.Proofs.YteablckbgpogiaaGreatDoor
open Go Go.Cn
variable [Known]
attribute [local irreducible] f5 ap
def ev (R:am):Prop:=(∀(x1:Int) (x2:Int) (x4:ParseParser) (b3:Nat) (r:PX ParseWrong (ApiNode × ParseParser)),R.1 x1 x2 x4=some r->FnX Tryz.prog 131 [aj b3 0,Pr.i64 x1,Pr.i64 x2] [Own.box b3 ae x4] (fun q C'=>∃a9,r= .ok a9/\q=(rApiNode).val a9.1/\C'=[Own.box b3 ae a9.2]) (fun v=>∃m,r= .bad m/\v=fo m))/\(∀(x1:Int) (x3:ParseParser) (b2:Nat) (r:PX ParseWrong (ApiNode × ParseParser)),R.2.1 x1 x3=some r->FnX Tryz.prog 150 [aj b2 0,Pr.i64 x1] [Own.box b2 ae x3] (fun q C'=>∃a9,r= .ok a9/\q=(rApiNode).val a9.1/\C'=[Own.box b2 ae a9.2]) (fun v=>∃m,r= .bad m/\v=fo m))/\(∀(x1:Int) (x3:ParseParser) (b2:Nat) (r:PX ParseWrong (ApiNode × ParseParser)),R.2.2.1 x1 x3=some r->FnX Tryz.prog 168 [aj b2 0,Pr.i64 x1] [Own.box b2 ae x3] (fun q C'=>∃a9,r= .ok a9/\q=(rApiNode).val a9.1/\C'=[Own.box b2 ae a9.2]) (fun v=>∃m,r= .bad m/\v=fo m))/\(∀(x1:Int) (x3:ParseParser) (b2:Nat) (r:PX ParseWrong ((List ApiNode) × ParseParser)),R.2.2.2 x1 x3=some r->FnX Tryz.prog 169 [aj b2 0,Pr.i64 x1] [Own.box b2 ae x3] (fun q C'=>∃a9,r= .ok a9/\q=ap rApiNode a9.1/\C'=[Own.box b2 ae a9.2]) (fun v=>∃m,r= .bad m/\v=fo m))
theorem F_parse_parser_expression_step (R:am) (ih:ev R) (x1 x2:Int) (x4:ParseParser) (b3:Nat) (r:PX ParseWrong (ApiNode × ParseParser)) (h:cl R x1 x2 x4=some r):FnX Tryz.prog 131 [aj b3 0,Pr.i64 x1,Pr.i64 x2] [Own.box b3 ae x4] (fun q C'=>∃a9,r= .ok a9/\q=(rApiNode).val a9.1/\C'=[Own.box b3 ae a9.2]) (fun v=>∃m,r= .bad m/\v=fo m):=by
 refine je (rs:=[.cell 6 48]) Tryz.func131 rfl Tryz.ntmps131 Tryz.results131 (by decide) (fun s0=> ?_)
 unfold cl at h
 refine W_rs (a8 al48 fun b5=>W_rs (kMv rfl (kNp rfl (kUn (av fld103_1) ?_))))
 refine kUn (bb 0 ty3 subParseParser_at) ?_
 refine kAs rfl (W_rs (kMv rfl (kMv rfl ?_)))
 rcases a5 h with⟨m24,hm24,h⟩|⟨⟨x6,x7⟩,hx6,h⟩
 ·refine bn [0] (ih.2.1 x1 x4 b3 _ hm24) ⟨aa,aa,trivial⟩ (fun q C' hq=> ?_) (fun v9 hv=> ?_)
  ·obtain⟨_,h9,_⟩:=hq;cases h9
  obtain⟨_,h9,rfl⟩:=hv
  cases h9
  obtain rfl:=osj h
  exact .inr ⟨_,rfl,_,rfl,rfl⟩
 refine bn [0] (ih.2.1 x1 x4 b3 _ hx6) ⟨aa,aa,trivial⟩ (fun q C' hq=> ?_) (fun v9 hv=>by obtain⟨_,h9,_⟩:=hv;cases h9)
 obtain⟨_,h9,rfl,rfl⟩:=hq
 cases h9
 refine rCtx [Own.box b3 ae x7,Own.box b5 rApiNode (ApiNode.mk 0 [] [] 0 0 0 0 0 [])] ?_
 refine a8 al48 fun b8=>ak 2 rfl rfl (Upd.refl _) rfl Tryz.sizeOf48 (a4 ?_)
 obtain⟨n1,hN1⟩:=bp h
 refine ew (fun m e C=>∃(x9:ParseParser),∃(x10:ApiNode),ff (fun s=>bm R x2 x1 x4 s.1 s.2) m (x9,x10)=some r/\At [(0,aj b3 0),(1,Pr.i64 x1),(2,Pr.i64 x2),(6,aj b5 0),(7,Pr.i64 x4.at_),(8,aj b8 0)] [Own.box b3 ae x9,Own.box b5 rApiNode (ApiNode.mk 0 [] [] 0 0 0 0 0 []),Own.box b8 rApiNode x10] e C) n1 ⟨x7,x6,hN1,⟨⟨aa,aa,aa,aa,aa,aa,trivial⟩,Pick.refl _⟩⟩ ?_
 rintro m e C ⟨x9,x10,hN1,hatl1⟩
 refine W_at hatl1 ?_
 obtain⟨m1,w1l,rfl,h1l,hn1,ho1⟩:=bk hN1
 replace h1l:bm R x2 x1 x4 x9 x10=some w1l:=h1l
 unfold bm at h1l
 refine a4 (W_rs (kMv rfl ?_))
 obtain⟨x13,hx13,h1l⟩:=af h1l
 refine kUn (qCallBx 0 (dz x9 _ hx13) ⟨.inr ⟨aa,rfl⟩,trivial⟩ (fun _ _ _ h=>Flat.val kh _ _ _ _ h)) ?_
 refine cg h1l (parse_binds_ok x13) rfl fun x14 _ h1l=>kAs rfl (az (W_rs (kMv rfl (kMv rfl (kIn rfl rfl rfl ?_)))))
 refine a7 h1l rfl (fun _ h1l=> ?_) (fun _ h1l=> ?_)
 ·refine W_rs (kUn (bb 2 ty48 (Sub.refl _)) ?_)
  refine ak 1 rfl rfl (Upd.refl _) rfl Tryz.sizeOf48 ?_
  have h:some (.ok (x10,x9))=some r:=congrArg some (ho1 _ (Option.some.inj h1l).symm)
  obtain rfl:=osj h
  exact ax (.inl ⟨.inl rfl,[(rApiNode).val x10],⟨yBox 1 ty48 aa,trivial⟩,_,Pick.of [0] rfl,_,rfl,rfl,rfl⟩)
 refine ar (W_rs (kMv rfl ?_))
 obtain⟨⟨x16,x17⟩,hx16,h1l⟩:=af h1l
 refine jp [0] (gr x9 b3 _ hx16) (fun q C' hq=> ?_)
 obtain⟨rfl,rfl⟩:=hq
 refine rCtx [Own.box b3 ae x17,Own.box b5 rApiNode (ApiNode.mk 0 [] [] 0 0 0 0 0 []),Own.box b8 rApiNode x10] ?_
 refine a8 al74 fun b18=>ak 3 rfl rfl (Upd.refl _) rfl Tryz.sizeOf74 (W_rs (kMv rfl (kMv rfl (kMv rfl ?_))))
 rcases a5 h1l with⟨m23,hm23,h1l⟩|⟨⟨x19,x20⟩,hx19,h1l⟩
 ·refine bn [0] (ih.1 x1 x14 x17 b3 _ hm23) ⟨aa,aa,aa,trivial⟩ (fun q C' hq=> ?_) (fun v9 hv=> ?_)
  ·obtain⟨_,h9,_⟩:=hq;cases h9
  obtain⟨_,h9,rfl⟩:=hv
  cases h9
  have h:some (.bad m23)=some r:=congrArg some (ho1 _ (Option.some.inj h1l).symm)
  obtain rfl:=osj h
  exact .inr ⟨_,rfl,_,rfl,rfl⟩
 refine bn [0] (ih.1 x1 x14 x17 b3 _ hx19) ⟨aa,aa,aa,trivial⟩ (fun q C' hq=> ?_) (fun v9 hv=>by obtain⟨_,h9,_⟩:=hv;cases h9)
 obtain⟨_,h9,rfl,rfl⟩:=hq
 cases h9
 refine rCtx [Own.box b3 ae x20,Own.box b5 rApiNode (ApiNode.mk 0 [] [] 0 0 0 0 0 []),Own.box b8 rApiNode x10,Own.box b18 ah x16] ?_
 refine a8 al48 fun b21=>ak 4 rfl rfl (Upd.refl _) rfl Tryz.sizeOf48 (W_rs (kMv rfl (kMv rfl (kUn (bb 2 ty48 (Sub.refl _)) ?_))))
 refine kUn (bb 4 ty48 (Sub.refl _)) ?_
 refine kUn (kw (R:=rApiNode) (ls:=([x10,x19]:List ApiNode)) el44 (Nat.le_of_ble_eq_true rfl) ⟨rfl,rfl⟩ ⟨rfl,rfl,trivial⟩) ?_
 obtain⟨x22,hx22,h1l⟩:=af h1l
 refine kUn (qMade 0 hx22 aa) ?_
 refine ak 2 rfl rfl (Upd.refl _) rfl Tryz.sizeOf48 (W_r (kUn (av fld74_1) ?_))
 refine kUn (bb 3 ty9 subApiToken_Text) ?_
 refine kUn (av oo) ?_
 refine ak 2 rfl rfl jt rfl Tryz.sizeOf9 ?_
 exact⟨m1,Nat.lt_succ_self _,x20,{x22 with Text:=x16.Text},hn1 _ (Option.some.inj h1l).symm,⟨⟨aa,aa,aa,aa,aa,aa,trivial⟩,Pick.of [0,1,2] rfl⟩⟩
theorem F_parse_parser_unary_step (R:am) (ih:ev R) (x1:Int) (x3:ParseParser) (b2:Nat) (r:PX ParseWrong (ApiNode × ParseParser)) (h:fy R x1 x3=some r):FnX Tryz.prog 150 [aj b2 0,Pr.i64 x1] [Own.box b2 ae x3] (fun q C'=>∃a9,r= .ok a9/\q=(rApiNode).val a9.1/\C'=[Own.box b2 ae a9.2]) (fun v=>∃m,r= .bad m/\v=fo m):=by
 refine je (rs:=[.cell 4 48]) Tryz.func150 rfl Tryz.ntmps150 Tryz.results150 (by decide) (fun s0=> ?_)
 unfold fy at h
 refine W_rs (a8 al48 fun b4=>W_rs (kMv rfl (kMv rfl ?_)))
 rcases a5 h with⟨m49,hm49,h⟩|⟨x5,hx5,h⟩
 ·refine bn [0] (iv x1 x3 b2 _ hm49) ⟨aa,aa,trivial⟩ (fun q C' hq=> ?_) (fun v9 hv=> ?_)
  ·obtain⟨_,h9,_⟩:=hq;cases h9
  obtain⟨_,h9,rfl⟩:=hv
  cases h9
  obtain rfl:=osj h
  exact .inr ⟨_,rfl,_,rfl,rfl⟩
 refine bn [0] (iv x1 x3 b2 _ hx5) ⟨aa,aa,trivial⟩ (fun q C' hq=> ?_) (fun v9 hv=>by obtain⟨_,h9,_⟩:=hv;cases h9)
 obtain⟨_,h9,rfl,rfl⟩:=hq
 cases h9
 refine rCtx [Own.box b2 ae x5,Own.box b4 rApiNode (ApiNode.mk 0 [] [] 0 0 0 0 0 [])] ?_
 refine W_rs (kMv rfl (kNp rfl (kUn (av fld103_1) ?_)))
 refine kUn (bb 0 ty3 subParseParser_at) ?_
 refine kAs rfl (az (a4 (W_rs (kMv rfl ?_))))
 obtain⟨⟨x6,x7⟩,hx6,h⟩:=af h
 refine jp [0] (cd ([33]:List UInt8) x5 b2 _ hx6) (fun q C' hq=> ?_)
 obtain⟨rfl,rfl⟩:=hq
 refine rCtx [Own.box b2 ae x7,Own.box b4 rApiNode (ApiNode.mk 0 [] [] 0 0 0 0 0 [])] ?_
 refine kAs rfl ?_
 refine a7 h rfl (fun _ h=> ?_) (fun _ h=> ?_)
 ·refine W_rs (kMv rfl (kMv rfl (kIn rfl rfl rfl ?_)))
  rcases a5 h with⟨m13,hm13,h⟩|⟨⟨x9,x10⟩,hx9,h⟩
  ·refine bn [0] (ih.2.1 (w64 (x1+1)) x7 b2 _ hm13) ⟨aa,aa,trivial⟩ (fun q C' hq=> ?_) (fun v9 hv=> ?_)
   ·obtain⟨_,h9,_⟩:=hq;cases h9
   obtain⟨_,h9,rfl⟩:=hv
   cases h9
   obtain rfl:=osj h
   exact .inr ⟨_,rfl,_,rfl,rfl⟩
  refine bn [0] (ih.2.1 (w64 (x1+1)) x7 b2 _ hx9) ⟨aa,aa,trivial⟩ (fun q C' hq=> ?_) (fun v9 hv=>by obtain⟨_,h9,_⟩:=hv;cases h9)
  obtain⟨_,h9,rfl,rfl⟩:=hq
  cases h9
  refine rCtx [Own.box b2 ae x10,Own.box b4 rApiNode (ApiNode.mk 0 [] [] 0 0 0 0 0 [])] ?_
  refine a8 al48 fun b11=>ak 2 rfl rfl (Upd.refl _) rfl Tryz.sizeOf48 (W_rs (kMv rfl (kMv rfl (kUn (bb 2 ty48 (Sub.refl _)) ?_))))
  refine kUn (bt (R:=rApiNode) (a:=x9) el44 (Nat.le_of_ble_eq_true rfl)) ?_
  obtain⟨x12,hx12,h⟩:=af h
  refine kUn (qMade 0 hx12 aa) ?_
  refine ak 1 rfl rfl (Upd.refl _) rfl Tryz.sizeOf48 ?_
  obtain rfl:=osj h
  exact ax (.inl ⟨.inl rfl,[(rApiNode).val x12],⟨yBox 1 ty48 aa,trivial⟩,_,Pick.of [0] rfl,_,rfl,rfl,rfl⟩)
 refine W_rs (kMv rfl ?_)
 obtain⟨⟨x14,x15⟩,hx14,h⟩:=af h
 refine jp [0] (cd ([45]:List UInt8) x7 b2 _ hx14) (fun q C' hq=> ?_)
 obtain⟨rfl,rfl⟩:=hq
 refine rCtx [Own.box b2 ae x15,Own.box b4 rApiNode (ApiNode.mk 0 [] [] 0 0 0 0 0 [])] ?_
 refine kAs rfl ?_
 refine a7 h rfl (fun _ h=> ?_) (fun _ h=> ?_)
 ·refine W_rs (kMv rfl (kMv rfl (kIn rfl rfl rfl ?_)))
  rcases a5 h with⟨m21,hm21,h⟩|⟨⟨x17,x18⟩,hx17,h⟩
  ·refine bn [0] (ih.2.1 (w64 (x1+1)) x15 b2 _ hm21) ⟨aa,aa,trivial⟩ (fun q C' hq=> ?_) (fun v9 hv=> ?_)
   ·obtain⟨_,h9,_⟩:=hq;cases h9
   obtain⟨_,h9,rfl⟩:=hv
   cases h9
   obtain rfl:=osj h
   exact .inr ⟨_,rfl,_,rfl,rfl⟩
  refine bn [0] (ih.2.1 (w64 (x1+1)) x15 b2 _ hx17) ⟨aa,aa,trivial⟩ (fun q C' hq=> ?_) (fun v9 hv=>by obtain⟨_,h9,_⟩:=hv;cases h9)
  obtain⟨_,h9,rfl,rfl⟩:=hq
  cases h9
  refine rCtx [Own.box b2 ae x18,Own.box b4 rApiNode (ApiNode.mk 0 [] [] 0 0 0 0 0 [])] ?_
  refine a8 al48 fun b19=>ak 2 rfl rfl (Upd.refl _) rfl Tryz.sizeOf48 (W_rs (kMv rfl (kMv rfl (kUn (bb 2 ty48 (Sub.refl _)) ?_))))
  refine kUn (bt (R:=rApiNode) (a:=x17) el44 (Nat.le_of_ble_eq_true rfl)) ?_
  obtain⟨x20,hx20,h⟩:=af h
  refine kUn (qMade 0 hx20 aa) ?_
  refine ak 1 rfl rfl (Upd.refl _) rfl Tryz.sizeOf48 ?_
  obtain rfl:=osj h
  exact ax (.inl ⟨.inl rfl,[(rApiNode).val x20],⟨yBox 1 ty48 aa,trivial⟩,_,Pick.of [0] rfl,_,rfl,rfl,rfl⟩)
 refine ar (W_rs (kMv rfl (kMv rfl (kIn rfl rfl rfl ?_))))
 rcases a5 h with⟨m48,hm48,h⟩|⟨⟨x22,x23⟩,hx22,h⟩
 ·refine bn [0] (ih.2.2.1 (w64 (x1+1)) x15 b2 _ hm48) ⟨aa,aa,trivial⟩ (fun q C' hq=> ?_) (fun v9 hv=> ?_)
  ·obtain⟨_,h9,_⟩:=hq;cases h9
  obtain⟨_,h9,rfl⟩:=hv
  cases h9
  obtain rfl:=osj h
  exact .inr ⟨_,rfl,_,rfl,rfl⟩
 refine bn [0] (ih.2.2.1 (w64 (x1+1)) x15 b2 _ hx22) ⟨aa,aa,trivial⟩ (fun q C' hq=> ?_) (fun v9 hv=>by obtain⟨_,h9,_⟩:=hv;cases h9)
 obtain⟨_,h9,rfl,rfl⟩:=hq
 cases h9
 refine rCtx [Own.box b2 ae x23,Own.box b4 rApiNode (ApiNode.mk 0 [] [] 0 0 0 0 0 [])] ?_
 refine a8 al48 fun b24=>ak 2 rfl rfl (Upd.refl _) rfl Tryz.sizeOf48 (az (a4 ?_))
 obtain⟨z2l,hz2,h⟩:=af h
 obtain⟨n2,hN2⟩:=bp hz2
 refine d7 1 (fun e C=>∃(x30:ParseParser),∃(x26:ApiNode),ph R x30 x26=some r/\At [(0,aj b2 0),(4,aj b4 0),(8,aj b24 0)] [Own.box b2 ae x30,Own.box b4 rApiNode (ApiNode.mk 0 [] [] 0 0 0 0 0 []),Own.box b24 rApiNode x26] e C) ?_ ?_
 ·rintro e C ⟨x30,x26,h,hat1⟩
  refine W_at hat1 ?_
  unfold ph at h
  refine W_rs (kUn (bb 2 ty48 (Sub.refl _)) ?_)
  refine ak 1 rfl rfl (Upd.refl _) rfl Tryz.sizeOf48 ?_
  obtain rfl:=osj h
  exact ax (.inl ⟨.inl rfl,[(rApiNode).val x26],⟨yBox 1 ty48 aa,trivial⟩,_,Pick.of [0] rfl,_,rfl,rfl,rfl⟩)
 refine ew (fun m e C=>∃(x25:ParseParser),∃(x26:ApiNode),ff (fun s=>iq R x1 x5 s.1 s.2) m (x25,x26)=some z2l/\At [(0,aj b2 0),(1,Pr.i64 x1),(4,aj b4 0),(5,Pr.i64 x5.at_),(8,aj b24 0)] [Own.box b2 ae x25,Own.box b4 rApiNode (ApiNode.mk 0 [] [] 0 0 0 0 0 []),Own.box b24 rApiNode x26] e C) n2 ⟨x23,x22,hN2,⟨⟨aa,aa,aa,aa,aa,trivial⟩,Pick.refl _⟩⟩ ?_
 rintro m e C ⟨x25,x26,hN2,hatl2⟩
 refine W_at hatl2 ?_
 obtain⟨m2,w2l,rfl,h2l,hn2,ho2⟩:=bk hN2
 replace h2l:iq R x1 x5 x25 x26=some w2l:=h2l
 unfold iq at h2l
 refine az (W_rs (kMv rfl ?_))
 obtain⟨⟨x29,x30⟩,hx29,h2l⟩:=af h2l
 refine jp [0] (cd ([46]:List UInt8) x25 b2 _ hx29) (fun q C' hq=> ?_)
 obtain⟨rfl,rfl⟩:=hq
 refine rCtx [Own.box b2 ae x30,Own.box b4 rApiNode (ApiNode.mk 0 [] [] 0 0 0 0 0 []),Own.box b24 rApiNode x26] ?_
 refine a7 h2l rfl (fun _ h2l=> ?_) (fun _ h2l=> ?_)
 ·refine ar (a4 (W_rs (kMv rfl ?_)))
  rcases a5 h2l with⟨m47,hm47,h2l⟩|⟨⟨x32,x33⟩,hx32,h2l⟩
  ·refine bn [0] (db x30 b2 _ hm47) ⟨aa,trivial⟩ (fun q C' hq=> ?_) (fun v9 hv=> ?_)
   ·obtain⟨_,h9,_⟩:=hq;cases h9
   obtain⟨_,h9,rfl⟩:=hv
   cases h9
   obtain rfl:=ho2 _ (Option.some.inj h2l).symm
   replace h:some (.bad m47)=some r:=h
   obtain rfl:=osj h
   exact .inr ⟨_,rfl,_,rfl,rfl⟩
  refine bn [0] (db x30 b2 _ hx32) ⟨aa,trivial⟩ (fun q C' hq=> ?_) (fun v9 hv=>by obtain⟨_,h9,_⟩:=hv;cases h9)
  obtain⟨_,h9,rfl,rfl⟩:=hq
  cases h9
  refine rCtx [Own.box b2 ae x33,Own.box b4 rApiNode (ApiNode.mk 0 [] [] 0 0 0 0 0 []),Own.box b24 rApiNode x26] ?_
  refine a8 al74 fun b34=>ak 3 rfl rfl (Upd.refl _) rfl Tryz.sizeOf74 ?_
  refine bj (fun e C=>jx R x33 x1 x26 x5 x32=some w2l/\At [(0,aj b2 0),(1,Pr.i64 x1),(4,aj b4 0),(5,Pr.i64 x5.at_),(8,aj b24 0),(9,aj b34 0),(10,Pr.i64 18),(11,Pr.vx rApiNode ([x26]:List ApiNode))] [Own.box b2 ae x33,Own.box b4 rApiNode (ApiNode.mk 0 [] [] 0 0 0 0 0 []),Own.box b24 rApiNode x26,Own.box b34 ah x32] e C) ?_ ?_
  ·rintro e C ⟨h2l,hat4⟩
   refine W_at hat4 ?_
   unfold jx at h2l
   refine bj (fun e C=>∃(x42:Int),∃(x43:List ApiNode),∃(x44:ParseParser),ir R x5 x32 x42 x43 x44=some w2l/\At [(0,aj b2 0),(1,Pr.i64 x1),(4,aj b4 0),(5,Pr.i64 x5.at_),(8,aj b24 0),(9,aj b34 0),(10,Pr.i64 x42),(11,ap rApiNode x43)] [Own.box b2 ae x44,Own.box b4 rApiNode (ApiNode.mk 0 [] [] 0 0 0 0 0 []),Own.box b24 rApiNode x26,Own.box b34 ah x32] e C) ?_ ?_
   ·rintro e C ⟨x42,x43,x44,h2l,hat3⟩
    refine W_at hat3 ?_
    unfold ir at h2l
    refine ib 7 hmx (by kernel_rfl) (by kernel_rfl) ?_
    refine lUn (hMvA rfl) (lUn (hMvA rfl) (lUn (hMvA rfl) (lUn (hMvL rfl) ?_)))
    obtain⟨x45,hx45,h2l⟩:=af h2l
    refine lUn (qMade 0 hx45 aa) ?_
    refine lUn (bb 3 ty74 (Sub.refl _)) ?_
    obtain⟨x46,hx46,h2l⟩:=af h2l
    refine lUn (dl (km x45 x32 _ hx46)) ?_
    refine ak 2 rfl rfl (Upd.refl _) rfl Tryz.sizeOf48 ?_
    exact⟨m2,Nat.lt_succ_self _,x44,x46,hn2 _ (Option.some.inj h2l).symm,⟨⟨aa,aa,aa,aa,aa,trivial⟩,Pick.of [0,1,2] rfl⟩⟩
   refine W_rs (kMv rfl ?_)
   obtain⟨⟨x35,x36⟩,hx35,h2l⟩:=af h2l
   refine jp [0] (cd ([40]:List UInt8) x33 b2 _ hx35) (fun q C' hq=> ?_)
   obtain⟨rfl,rfl⟩:=hq
   refine rCtx [Own.box b2 ae x36,Own.box b4 rApiNode (ApiNode.mk 0 [] [] 0 0 0 0 0 []),Own.box b24 rApiNode x26,Own.box b34 ah x32] ?_
   refine a7 h2l rfl (fun _ h2l=> ?_) (fun _ h2l=> ?_)
   ·refine W_r (kUn (hMv (out:=Pr.vx rApiNode ([x26]:List ApiNode)) rfl) (kMv rfl (kMv rfl (kIn rfl rfl rfl ?_))))
    rcases a5 h2l with⟨m41,hm41,h2l⟩|⟨⟨x38,x39⟩,hx38,h2l⟩
    ·refine bn [0] (ih.2.2.2 (w64 (x1+1)) x36 b2 _ hm41) ⟨aa,aa,trivial⟩ (fun q C' hq=> ?_) (fun v9 hv=> ?_)
     ·obtain⟨_,h9,_⟩:=hq;cases h9
     obtain⟨_,h9,rfl⟩:=hv
     cases h9
     obtain rfl:=ho2 _ (Option.some.inj h2l).symm
     replace h:some (.bad m41)=some r:=h
     obtain rfl:=osj h
     exact .inr ⟨_,rfl,_,rfl,rfl⟩
    refine bn [0] (ih.2.2.2 (w64 (x1+1)) x36 b2 _ hx38) ⟨aa,aa,trivial⟩ (fun q C' hq=> ?_) (fun v9 hv=>by obtain⟨_,h9,_⟩:=hv;cases h9)
    obtain⟨_,h9,rfl,rfl⟩:=hq
    cases h9
    refine rCtx [Own.box b2 ae x39,Own.box b4 rApiNode (ApiNode.mk 0 [] [] 0 0 0 0 0 []),Own.box b24 rApiNode x26,Own.box b34 ah x32] ?_
    obtain⟨x40,hx40,h2l⟩:=af h2l
    refine kUn (qAppVX (R:=rApiNode) (l:=([x26]:List ApiNode)) (m:=x38) el44 hx40) ?_
    refine kAs rfl (kAsL rfl ?_)
    exact⟨20,x40,x39,h2l,atOk⟩
   refine ar ?_
   exact⟨18,([x26]:List ApiNode),x36,h2l,⟨⟨aa,aa,aa,aa,aa,aa,aa,vx_lst,trivial⟩,Pick.refl _⟩⟩
  refine ib 4 hmx (by kernel_rfl) (by kernel_rfl) ?_
  refine lUn (bb 2 ty48 (Sub.refl _)) ?_
  refine lUn (qBuildVX (R:=rApiNode) (ls:=([x26]:List ApiNode)) el44 (Nat.le_of_ble_eq_true rfl) ⟨rfl,rfl⟩ ⟨rfl,trivial⟩) ?_
  refine lUn (hAsA rfl) (lUn (hAs (out:=Pr.vx rApiNode ([x26]:List ApiNode)) rfl) ?_)
  exact⟨h2l,atOk⟩
 refine ej ?_
 obtain rfl:=ho2 _ (Option.some.inj h2l).symm
 exact⟨x30,x26,h,atOk⟩
theorem F_parse_parser_primary_step (R:am) (ih:ev R) (x1:Int) (x3:ParseParser) (b2:Nat) (r:PX ParseWrong (ApiNode × ParseParser)) (h:ez R x1 x3=some r):FnX Tryz.prog 168 [aj b2 0,Pr.i64 x1] [Own.box b2 ae x3] (fun q C'=>∃a9,r= .ok a9/\q=(rApiNode).val a9.1/\C'=[Own.box b2 ae a9.2]) (fun v=>∃m,r= .bad m/\v=fo m):=by
 refine je (rs:=[.cell 4 48]) Tryz.func168 rfl Tryz.ntmps168 Tryz.results168 (by decide) (fun s0=> ?_)
 unfold ez at h
 refine W_rs (a8 al48 fun b4=>W_rs (kMv rfl (kNp rfl (kUn (av fld103_1) ?_))))
 refine kUn (bb 0 ty3 subParseParser_at) ?_
 refine kAs rfl (W_rs (kMv rfl ?_))
 obtain⟨x5,hx5,h⟩:=af h
 refine kUn (qCallBx 0 (dz x3 _ hx5) ⟨.inr ⟨aa,rfl⟩,trivial⟩ (fun _ _ _ h=>Flat.val kh _ _ _ _ h)) ?_
 refine a8 al74 fun b6=>ak 2 rfl rfl (Upd.refl _) rfl Tryz.sizeOf74 ?_
 refine bj (fun e C=>d8 R x3 x1=some r/\At [(0,aj b2 0),(1,Pr.i64 x1),(4,aj b4 0),(5,Pr.i64 x3.at_)] [Own.box b2 ae x3,Own.box b4 rApiNode (ApiNode.mk 0 [] [] 0 0 0 0 0 []),Own.box b6 ah x5] e C) ?_ ?_
 ·rintro e C ⟨h,hat2⟩
  refine W_at hat2 ?_
  unfold d8 at h
  refine az (a4 (W_rs (kMv rfl ?_)))
  obtain⟨⟨x35,x36⟩,hx35,h⟩:=af h
  refine jp [0] (cd ([110,101,119]:List UInt8) x3 b2 _ hx35) (fun q C' hq=> ?_)
  obtain⟨rfl,rfl⟩:=hq
  refine rCtx [Own.box b2 ae x36,Own.box b4 rApiNode (ApiNode.mk 0 [] [] 0 0 0 0 0 []),Own.box b6 ah x5] ?_
  refine kAs rfl ?_
  refine a7 h rfl (fun _ h=> ?_) (fun _ h=> ?_)
  ·refine W_rs (kMv rfl ?_)
   rcases a5 h with⟨m47,hm47,h⟩|⟨⟨x38,x39⟩,hx38,h⟩
   ·refine bn [0] (db x36 b2 _ hm47) ⟨aa,trivial⟩ (fun q C' hq=> ?_) (fun v9 hv=> ?_)
    ·obtain⟨_,h9,_⟩:=hq;cases h9
    obtain⟨_,h9,rfl⟩:=hv
    cases h9
    obtain rfl:=osj h
    exact .inr ⟨_,rfl,_,rfl,rfl⟩
   refine bn [0] (db x36 b2 _ hx38) ⟨aa,trivial⟩ (fun q C' hq=> ?_) (fun v9 hv=>by obtain⟨_,h9,_⟩:=hv;cases h9)
   obtain⟨_,h9,rfl,rfl⟩:=hq
   cases h9
   refine rCtx [Own.box b2 ae x39,Own.box b4 rApiNode (ApiNode.mk 0 [] [] 0 0 0 0 0 []),Own.box b6 ah x5] ?_
   refine a8 al74 fun b40=>ak 3 rfl rfl (Upd.refl _) rfl Tryz.sizeOf74 (W_rs (kMv rfl ?_))
   rcases a5 h with⟨m46,hm46,h⟩|⟨x41,hx41,h⟩
   ·refine bn [0] (aq ([40]:List UInt8) x39 b2 _ hm46) ⟨aa,aa,trivial⟩ (fun q C' hq=> ?_) (fun v9 hv=> ?_)
    ·obtain⟨_,h9,_⟩:=hq;cases h9
    obtain⟨_,h9,rfl⟩:=hv
    cases h9
    obtain rfl:=osj h
    exact .inr ⟨_,rfl,_,rfl,rfl⟩
   refine bn [0] (aq ([40]:List UInt8) x39 b2 _ hx41) ⟨aa,aa,trivial⟩ (fun q C' hq=> ?_) (fun v9 hv=>by obtain⟨_,h9,_⟩:=hv;cases h9)
   obtain⟨_,h9,rfl,rfl⟩:=hq
   cases h9
   refine rCtx [Own.box b2 ae x41,Own.box b4 rApiNode (ApiNode.mk 0 [] [] 0 0 0 0 0 []),Own.box b6 ah x5,Own.box b40 ah x38] ?_
   refine W_rs (kMv rfl ?_)
   rcases a5 h with⟨m45,hm45,h⟩|⟨x42,hx42,h⟩
   ·refine bn [0] (aq ([41]:List UInt8) x41 b2 _ hm45) ⟨aa,aa,trivial⟩ (fun q C' hq=> ?_) (fun v9 hv=> ?_)
    ·obtain⟨_,h9,_⟩:=hq;cases h9
    obtain⟨_,h9,rfl⟩:=hv
    cases h9
    obtain rfl:=osj h
    exact .inr ⟨_,rfl,_,rfl,rfl⟩
   refine bn [0] (aq ([41]:List UInt8) x41 b2 _ hx42) ⟨aa,aa,trivial⟩ (fun q C' hq=> ?_) (fun v9 hv=>by obtain⟨_,h9,_⟩:=hv;cases h9)
   obtain⟨_,h9,rfl,rfl⟩:=hq
   cases h9
   refine rCtx [Own.box b2 ae x42,Own.box b4 rApiNode (ApiNode.mk 0 [] [] 0 0 0 0 0 []),Own.box b6 ah x5,Own.box b40 ah x38] ?_
   refine bj (fun e C=>∃(x44:ApiNode),jd R x42 x44=some r/\At [(0,aj b2 0),(4,aj b4 0)] [Own.box b2 ae x42,Own.box b4 rApiNode x44,Own.box b6 ah x5,Own.box b40 ah x38] e C) ?_ ?_
   ·rintro e C ⟨x44,h,hat1⟩
    refine W_at hat1 ?_
    unfold jd at h
    obtain rfl:=osj h
    exact ax (.inl ⟨.inl rfl,[(rApiNode).val x44],⟨yBox 1 ty48 aa,trivial⟩,_,Pick.of [0] rfl,_,rfl,rfl,rfl⟩)
   refine ib 5 hmx (by kernel_rfl) (by kernel_rfl) ?_
   refine lUn (hMvA rfl) (lUn (hMvA rfl) ?_)
   obtain⟨x43,hx43,h⟩:=af h
   refine lUn (qMade 0 hx43 (cv _)) ?_
   refine lUn (bb 3 ty74 (Sub.refl _)) ?_
   obtain⟨x44,hx44,h⟩:=af h
   refine lUn (dl (km x43 x38 _ hx44)) ?_
   refine ak 1 rfl rfl (Upd.refl _) rfl Tryz.sizeOf48 ?_
   exact⟨x44,h,atOk⟩
  refine W_rs (kMv rfl ?_)
  obtain⟨⟨x48,x49⟩,hx48,h⟩:=af h
  refine jp [0] (cd ([40]:List UInt8) x36 b2 _ hx48) (fun q C' hq=> ?_)
  obtain⟨rfl,rfl⟩:=hq
  refine rCtx [Own.box b2 ae x49,Own.box b4 rApiNode (ApiNode.mk 0 [] [] 0 0 0 0 0 []),Own.box b6 ah x5] ?_
  refine kAs rfl ?_
  refine a7 h rfl (fun _ h=> ?_) (fun _ h=> ?_)
  ·refine W_rs (kMv rfl (kMv rfl ?_))
   rcases a5 h with⟨m56,hm56,h⟩|⟨⟨x51,x52⟩,hx51,h⟩
   ·refine bn [0] (ih.1 x1 0 x49 b2 _ hm56) ⟨aa,aa,aa,trivial⟩ (fun q C' hq=> ?_) (fun v9 hv=> ?_)
    ·obtain⟨_,h9,_⟩:=hq;cases h9
    obtain⟨_,h9,rfl⟩:=hv
    cases h9
    obtain rfl:=osj h
    exact .inr ⟨_,rfl,_,rfl,rfl⟩
   refine bn [0] (ih.1 x1 0 x49 b2 _ hx51) ⟨aa,aa,aa,trivial⟩ (fun q C' hq=> ?_) (fun v9 hv=>by obtain⟨_,h9,_⟩:=hv;cases h9)
   obtain⟨_,h9,rfl,rfl⟩:=hq
   cases h9
   refine rCtx [Own.box b2 ae x52,Own.box b4 rApiNode (ApiNode.mk 0 [] [] 0 0 0 0 0 []),Own.box b6 ah x5] ?_
   refine a8 al48 fun b53=>ak 3 rfl rfl (Upd.refl _) rfl Tryz.sizeOf48 (W_rs (kMv rfl ?_))
   rcases a5 h with⟨m55,hm55,h⟩|⟨x54,hx54,h⟩
   ·refine bn [0] (aq ([41]:List UInt8) x52 b2 _ hm55) ⟨aa,aa,trivial⟩ (fun q C' hq=> ?_) (fun v9 hv=> ?_)
    ·obtain⟨_,h9,_⟩:=hq;cases h9
    obtain⟨_,h9,rfl⟩:=hv
    cases h9
    obtain rfl:=osj h
    exact .inr ⟨_,rfl,_,rfl,rfl⟩
   refine bn [0] (aq ([41]:List UInt8) x52 b2 _ hx54) ⟨aa,aa,trivial⟩ (fun q C' hq=> ?_) (fun v9 hv=>by obtain⟨_,h9,_⟩:=hv;cases h9)
   obtain⟨_,h9,rfl,rfl⟩:=hq
   cases h9
   refine rCtx [Own.box b2 ae x54,Own.box b4 rApiNode (ApiNode.mk 0 [] [] 0 0 0 0 0 []),Own.box b6 ah x5,Own.box b53 rApiNode x51] ?_
   refine W_rs (kUn (bb 3 ty48 (Sub.refl _)) ?_)
   refine ak 1 rfl rfl (Upd.refl _) rfl Tryz.sizeOf48 ?_
   obtain rfl:=osj h
   exact ax (.inl ⟨.inl rfl,[(rApiNode).val x51],⟨yBox 1 ty48 aa,trivial⟩,_,Pick.of [0] rfl,_,rfl,rfl,rfl⟩)
  refine ar (W_rs (kMv rfl ?_))
  rcases a5 h with⟨m58,hm58,h⟩|⟨x57,hx57,h⟩
  ·refine bn [0] (cr 120 x49 b2 _ hm58) ⟨aa,aa,trivial⟩ (fun q C' hq=> ?_) (fun v9 hv=> ?_)
   ·obtain⟨_,h9,_⟩:=hq;cases h9
   obtain⟨_,h9,rfl⟩:=hv
   cases h9
   obtain rfl:=osj h
   exact .inr ⟨_,rfl,_,rfl,rfl⟩
  refine bn [0] (cr 120 x49 b2 _ hx57) ⟨aa,aa,trivial⟩ (fun q C' hq=> ?_) (fun v9 hv=>by obtain⟨_,h9,_⟩:=hv;cases h9)
  obtain⟨_,h9,rfl,rfl⟩:=hq
  cases h9
  refine rCtx [Own.box b2 ae x57,Own.box b4 rApiNode (ApiNode.mk 0 [] [] 0 0 0 0 0 []),Own.box b6 ah x5] ?_
  refine W_rs (kUn (du au st48 rfl) ?_)
  refine ak 1 rfl rfl (Upd.refl _) rfl Tryz.sizeOf48 ?_
  obtain rfl:=osj h
  exact ax (.inl ⟨.inl rfl,[(rApiNode).val (ApiNode.mk 0 [] [] 0 0 0 0 0 [])],⟨yBox 1 ty48 aa,trivial⟩,_,Pick.of [0] rfl,_,rfl,rfl,rfl⟩)
 refine W_rs (kUn (av qc) ?_)
 refine kUn (bb 2 ty3 dn) ?_
 refine a4 (W_rs (kIn rfl rfl rfl (kAs rfl ?_)))
 refine a7 h rfl (fun _ h=> ?_) (fun _ h=> ?_)
 ·refine W_rs (kMv rfl ?_)
  obtain⟨⟨x8,x9⟩,hx8,h⟩:=af h
  refine jp [0] (gr x3 b2 _ hx8) (fun q C' hq=> ?_)
  obtain⟨rfl,rfl⟩:=hq
  refine rCtx [Own.box b2 ae x9,Own.box b4 rApiNode (ApiNode.mk 0 [] [] 0 0 0 0 0 []),Own.box b6 ah x5] ?_
  refine W_rs (kMv rfl (kMv rfl ?_))
  obtain⟨x10,hx10,h⟩:=af h
  refine kUn (qMade 0 hx10 (cv _)) ?_
  refine a8 al48 fun b11=>ak 3 rfl rfl (Upd.refl _) rfl Tryz.sizeOf48 (W_rs (kUn (av fld74_1) ?_))
  refine kUn (bb 2 ty9 subApiToken_Text) ?_
  obtain⟨⟨x12,x13⟩,hx12,h⟩:=af h
  refine kUn (dl (strconv_ParseInt_ok x5.Text 10 64 _ hx12)) ?_
  refine kUn (hMv (out:=ce [Pr.i64 x12,Pr.err x13]) rfl) (kUn ao ?_)
  refine kUn ao ?_
  refine kUn (av fld48_3) ?_
  refine ak 3 rfl rfl q7 rfl Tryz.sizeOf2 (W_rs (kUn (bb 3 ty48 (Sub.refl _)) ?_))
  refine ak 1 rfl rfl (Upd.refl _) rfl Tryz.sizeOf48 ?_
  obtain rfl:=osj h
  exact ax (.inl ⟨.inl rfl,[(rApiNode).val ({x10 with N:=x12})],⟨yBox 1 ty48 aa,trivial⟩,_,Pick.of [0] rfl,_,rfl,rfl,rfl⟩)
 refine W_rs (kIn rfl rfl rfl (kAs rfl ?_))
 refine a7 h rfl (fun _ h=> ?_) (fun _ h=> ?_)
 ·refine W_rs (kMv rfl ?_)
  obtain⟨⟨x15,x16⟩,hx15,h⟩:=af h
  refine jp [0] (gr x3 b2 _ hx15) (fun q C' hq=> ?_)
  obtain⟨rfl,rfl⟩:=hq
  refine rCtx [Own.box b2 ae x16,Own.box b4 rApiNode (ApiNode.mk 0 [] [] 0 0 0 0 0 []),Own.box b6 ah x5] ?_
  refine az (W_rs (kMv rfl ?_))
  obtain⟨⟨x17,x18⟩,hx17,h⟩:=af h
  refine jp [0] (cd ([40]:List UInt8) x16 b2 _ hx17) (fun q C' hq=> ?_)
  obtain⟨rfl,rfl⟩:=hq
  refine rCtx [Own.box b2 ae x18,Own.box b4 rApiNode (ApiNode.mk 0 [] [] 0 0 0 0 0 []),Own.box b6 ah x5] ?_
  refine kNo rfl ?_
  refine a7 h rfl (fun _ h=> ?_) (fun _ h=> ?_)
  ·refine bj (fun e C=>∃(x21:ApiNode),jc R x18 x21=some r/\At [(0,aj b2 0),(4,aj b4 0)] [Own.box b2 ae x18,Own.box b4 rApiNode x21,Own.box b6 ah x5] e C) ?_ ?_
   ·rintro e C ⟨x21,h,hat3⟩
    refine W_at hat3 ?_
    unfold jc at h
    obtain rfl:=osj h
    exact ax (.inl ⟨.inl rfl,[(rApiNode).val x21],⟨yBox 1 ty48 aa,trivial⟩,_,Pick.of [0] rfl,_,rfl,rfl,rfl⟩)
   refine ib 5 hmx (by kernel_rfl) (by kernel_rfl) ?_
   refine lUn (hMvA rfl) (lUn (hMvA rfl) ?_)
   obtain⟨x20,hx20,h⟩:=af h
   refine lUn (qMade 0 hx20 (cv _)) ?_
   refine lUn (bb 2 ty74 (Sub.refl _)) ?_
   obtain⟨x21,hx21,h⟩:=af h
   refine lUn (dl (km x20 x5 _ hx21)) ?_
   refine ak 1 rfl rfl (Upd.refl _) rfl Tryz.sizeOf48 ?_
   exact⟨x21,h,atOk⟩
  refine ar (W_rs (kMv rfl (kMv rfl ?_)))
  rcases a5 h with⟨m26,hm26,h⟩|⟨⟨x22,x23⟩,hx22,h⟩
  ·refine bn [0] (ih.2.2.2 x1 x18 b2 _ hm26) ⟨aa,aa,trivial⟩ (fun q C' hq=> ?_) (fun v9 hv=> ?_)
   ·obtain⟨_,h9,_⟩:=hq;cases h9
   obtain⟨_,h9,rfl⟩:=hv
   cases h9
   obtain rfl:=osj h
   exact .inr ⟨_,rfl,_,rfl,rfl⟩
  refine bn [0] (ih.2.2.2 x1 x18 b2 _ hx22) ⟨aa,aa,trivial⟩ (fun q C' hq=> ?_) (fun v9 hv=>by obtain⟨_,h9,_⟩:=hv;cases h9)
  obtain⟨_,h9,rfl,rfl⟩:=hq
  cases h9
  refine rCtx [Own.box b2 ae x23,Own.box b4 rApiNode (ApiNode.mk 0 [] [] 0 0 0 0 0 []),Own.box b6 ah x5] ?_
  refine kAsL rfl ?_
  refine bj (fun e C=>∃(x25:ApiNode),jb R x23 x25=some r/\At [(0,aj b2 0),(4,aj b4 0)] [Own.box b2 ae x23,Own.box b4 rApiNode x25,Own.box b6 ah x5] e C) ?_ ?_
  ·rintro e C ⟨x25,h,hat4⟩
   refine W_at hat4 ?_
   unfold jb at h
   obtain rfl:=osj h
   exact ax (.inl ⟨.inl rfl,[(rApiNode).val x25],⟨yBox 1 ty48 aa,trivial⟩,_,Pick.of [0] rfl,_,rfl,rfl,rfl⟩)
  refine ib 6 hmx (by kernel_rfl) (by kernel_rfl) ?_
  refine lUn (hMvA rfl) (lUn (hMvA rfl) (lUn (hMvL rfl) ?_))
  obtain⟨x24,hx24,h⟩:=af h
  refine lUn (qMade 0 hx24 aa) ?_
  refine lUn (bb 2 ty74 (Sub.refl _)) ?_
  obtain⟨x25,hx25,h⟩:=af h
  refine lUn (dl (km x24 x5 _ hx25)) ?_
  refine ak 1 rfl rfl (Upd.refl _) rfl Tryz.sizeOf48 ?_
  exact⟨x25,h,atOk⟩
 refine W_rs (kIn rfl rfl rfl (kAs rfl ?_))
 refine a7 h rfl (fun _ h=> ?_) (fun _ h=> ?_)
 ·refine bj (fun e C=>∃(x28:SMap ApiNode),∃(b29:Nat),ja R x5 x3 x1 x28=some r/\At [(0,aj b2 0),(1,Pr.i64 x1),(4,aj b4 0),(5,Pr.i64 x3.at_),(9,aj b29 0),(10,Pr.bool (mhas x5.Text x28))] [Own.box b2 ae x3,Own.box b4 rApiNode (ApiNode.mk 0 [] [] 0 0 0 0 0 []),Own.box b6 ah x5,Own.box b29 rApiNode (mget x5.Text (ApiNode.mk 0 [] [] 0 0 0 0 0 []) x28)] e C) ?_ ?_
  ·rintro e C ⟨x28,b29,h,hat5⟩
   refine W_at hat5 ?_
   unfold ja at h
   refine W_rs (kMv rfl ?_)
   refine a7 h rfl (fun _ h=> ?_) (fun _ h=> ?_)
   ·refine W_rs (kMv rfl ?_)
    obtain⟨⟨x31,x32⟩,hx31,h⟩:=af h
    refine jp [0] (gr x3 b2 _ hx31) (fun q C' hq=> ?_)
    obtain⟨rfl,rfl⟩:=hq
    refine rCtx [Own.box b2 ae x32,Own.box b4 rApiNode (ApiNode.mk 0 [] [] 0 0 0 0 0 []),Own.box b6 ah x5,Own.box b29 rApiNode (mget x5.Text (ApiNode.mk 0 [] [] 0 0 0 0 0 []) x28)] ?_
    refine W_rs (kMv rfl (kUn (av fld48_0) ?_))
    refine kUn (bb 3 ty3 subApiNode_Kind) ?_
    refine kMv rfl ?_
    obtain⟨x33,hx33,h⟩:=af h
    refine kUn (qMade 0 hx33 (cv _)) ?_
    refine a8 al48 fun b34=>ak 4 rfl rfl (Upd.refl _) rfl Tryz.sizeOf48 (W_rs (kUn (av fld48_3) ?_))
    refine kUn (bb 3 ty2 subApiNode_N) ?_
    refine kUn (av fld48_3) ?_
    refine ak 4 rfl rfl q7 rfl Tryz.sizeOf2 (W_rs (kUn (bb 4 ty48 (Sub.refl _)) ?_))
    refine ak 1 rfl rfl (Upd.refl _) rfl Tryz.sizeOf48 ?_
    obtain rfl:=osj h
    exact ax (.inl ⟨.inl rfl,[(rApiNode).val ({x33 with N:=(mget x5.Text (ApiNode.mk 0 [] [] 0 0 0 0 0 []) x28).N})],⟨yBox 1 ty48 aa,trivial⟩,_,Pick.of [0] rfl,_,rfl,rfl,rfl⟩)
   refine ar ?_
   exact⟨h,⟨⟨aa,aa,aa,aa,trivial⟩,Pick.of [0,1,2] rfl⟩⟩
  obtain⟨x28,hx28,h⟩:=af h
  refine W_drawG 1 (fun B S=>[Own.box b2 ae x3,Own.box b4 rApiNode (ApiNode.mk 0 [] [] 0 0 0 0 0 []),Own.box b6 ah x5,(cond (S 8) (Own.box (B 7) rApiNode (mget x5.Text (ApiNode.mk 0 [] [] 0 0 0 0 0 []) x28)) (cond (S 7) (Own.box (B 7) rApiNode (ApiNode.mk 0 [] [] 0 0 0 0 0 [])) Own.nil))]) (fun B=>[Own.box b2 ae x3,Own.box b4 rApiNode (ApiNode.mk 0 [] [] 0 0 0 0 0 []),Own.box b6 ah x5,Own.box (B 7) rApiNode (mget x5.Text (ApiNode.mk 0 [] [] 0 0 0 0 0 []) x28)]) [Pr.mapS rApiNode x28,aj b6 1,ba x5.Text,ce [(rApiNode).val (mget x5.Text (ApiNode.mk 0 [] [] 0 0 0 0 0 []) x28),Pr.bool (mhas x5.Text x28)],ce [(rApiNode).val (mget x5.Text (ApiNode.mk 0 [] [] 0 0 0 0 0 []) x28),Pr.bool (mhas x5.Text x28)],(rApiNode).val (mget x5.Text (ApiNode.mk 0 [] [] 0 0 0 0 0 []) x28),Pr.bool (mhas x5.Text x28),.any,.any,Pr.bool (mhas x5.Text x28)] (fun k=>([0,0,0,0,0,0,0,2,1,0]:List Nat).getD k 0) hmx (by kernel_rfl) (by kernel_rfl) (fun _=>rfl) (fun B S S' h=>by show([Own.box b2 ae x3,Own.box b4 rApiNode (ApiNode.mk 0 [] [] 0 0 0 0 0 []),Own.box b6 ah x5,(cond (S 8) (Own.box (B 7) rApiNode (mget x5.Text (ApiNode.mk 0 [] [] 0 0 0 0 0 []) x28)) (cond (S 7) (Own.box (B 7) rApiNode (ApiNode.mk 0 [] [] 0 0 0 0 0 [])) Own.nil))]:Ctx)=[Own.box b2 ae x3,Own.box b4 rApiNode (ApiNode.mk 0 [] [] 0 0 0 0 0 []),Own.box b6 ah x5,(cond (S' 8) (Own.box (B 7) rApiNode (mget x5.Text (ApiNode.mk 0 [] [] 0 0 0 0 0 []) x28)) (cond (S' 7) (Own.box (B 7) rApiNode (ApiNode.mk 0 [] [] 0 0 0 0 0 [])) Own.nil))];simp only[h 7 (Nat.le_of_ble_eq_true (by kernel_rfl)),h 8 (Nat.le_of_ble_eq_true (by kernel_rfl))]) (fun _=>rfl) (fun B=> ?_)
  refine gq1 (fun S hK=>(dl (parse_words_ok _ hx28))) ?_
  refine gq1 (fun S hK=>(av fld74_1)) ?_
  refine gq1 (fun S hK=>(bb (R:=ah) (a:=x5) (R':=ct) 2 ty9 subApiToken_Text (hi:=rfl))) ?_
  refine gq1 (fun S hK=>(qMapGetS2 (R:=rApiNode) (m:=x28) (kx:=x5.Text) (z:=(ApiNode.mk 0 [] [] 0 0 0 0 0 [])) Tryz.underlying184 Tryz.underlying9 Tryz.zeroValue48 (fun _=>(by rw[au];exact⟨_,⟨_,_,rfl,rfl,⟨_,_,rfl,rfl,⟨_,_,rfl,rfl,⟨_,_,rfl,rfl,⟨_,_,rfl,rfl,⟨_,_,rfl,rfl,⟨_,_,rfl,rfl,⟨_,_,rfl,rfl,⟨_,_,rfl,⟨_,rfl,none,0,rfl,⟨Nat.le_refl _,fun _=>rfl⟩,.inl rfl⟩,rfl⟩⟩⟩⟩⟩⟩⟩⟩⟩,rfl⟩)))) ?_
  refine gq1 (fun S hK=>jn) ?_
  refine gq1 (fun S hK=>ao) ?_
  refine gq1 (fun S hK=>ao) ?_
  refine gqA (fun S hK=>⟨fun B' hB=>by show([Own.box b2 ae x3,Own.box b4 rApiNode (ApiNode.mk 0 [] [] 0 0 0 0 0 []),Own.box b6 ah x5,(cond (S 8) (Own.box (B' 7) rApiNode (mget x5.Text (ApiNode.mk 0 [] [] 0 0 0 0 0 []) x28)) (cond (S 7) (Own.box (B' 7) rApiNode (ApiNode.mk 0 [] [] 0 0 0 0 0 [])) Own.nil))]:Ctx)=[Own.box b2 ae x3,Own.box b4 rApiNode (ApiNode.mk 0 [] [] 0 0 0 0 0 []),Own.box b6 ah x5,(cond (S 8) (Own.box (B 7) rApiNode (mget x5.Text (ApiNode.mk 0 [] [] 0 0 0 0 0 []) x28)) (cond (S 7) (Own.box (B 7) rApiNode (ApiNode.mk 0 [] [] 0 0 0 0 0 [])) Own.nil))];simp only[hK.me,hK.F 8 (by kernel_rfl),cond_false],fun s ρ hg _=>sAlloc (R:=rApiNode) (z:=(ApiNode.mk 0 [] [] 0 0 0 0 0 [])) 3 Tryz.zeroValue48 (fun _=>(by rw[au];exact⟨_,⟨_,_,rfl,rfl,⟨_,_,rfl,rfl,⟨_,_,rfl,rfl,⟨_,_,rfl,rfl,⟨_,_,rfl,rfl,⟨_,_,rfl,rfl,⟨_,_,rfl,rfl,⟨_,_,rfl,rfl,⟨_,_,rfl,⟨_,rfl,none,0,rfl,⟨Nat.le_refl _,fun _=>rfl⟩,.inl rfl⟩,rfl⟩⟩⟩⟩⟩⟩⟩⟩⟩,rfl⟩)) (congrArg some ((condF (hK.F 8 (by kernel_rfl)) _ _).trans (condF (hK.me) _ _))) (fun b=>by show([Own.box b2 ae x3,Own.box b4 rApiNode (ApiNode.mk 0 [] [] 0 0 0 0 0 []),Own.box b6 ah x5,(cond (S 8) (Own.box b rApiNode (mget x5.Text (ApiNode.mk 0 [] [] 0 0 0 0 0 []) x28)) (Own.box b rApiNode (ApiNode.mk 0 [] [] 0 0 0 0 0 [])))]:Ctx)=_;rw[hK.F 8 (by kernel_rfl)];rfl) s ρ hg⟩) ?_
  refine gqS (fun S hK=>SStep.as (dr (R:=rApiNode) (R':=rApiNode) (a:=(ApiNode.mk 0 [] [] 0 0 0 0 0 [])) (y:=(mget x5.Text (ApiNode.mk 0 [] [] 0 0 0 0 0 []) x28)) 3 Tryz.sizeOf48 (Upd.refl _) (congrArg some ((condF (hK.me) _ _).trans (condT (hK.T 7 (by kernel_rfl)) _ _)))) (by show(_:Ctx)=[Own.box b2 ae x3,Own.box b4 rApiNode (ApiNode.mk 0 [] [] 0 0 0 0 0 []),Own.box b6 ah x5,Own.box (B 7) rApiNode (mget x5.Text (ApiNode.mk 0 [] [] 0 0 0 0 0 []) x28)];rfl)) ?_
  refine gq1 (fun S hK=>el) ?_
  exact⟨x28,(B 7),h,atOk⟩
 refine ar ?_
 exact⟨h,atOk⟩
theorem F_parse_parser_arguments_step (R:am) (ih:ev R) (x1:Int) (x3:ParseParser) (b2:Nat) (r:PX ParseWrong ((List ApiNode) × ParseParser)) (h:eh R x1 x3=some r):FnX Tryz.prog 169 [aj b2 0,Pr.i64 x1] [Own.box b2 ae x3] (fun q C'=>∃a9,r= .ok a9/\q=ap rApiNode a9.1/\C'=[Own.box b2 ae a9.2]) (fun v=>∃m,r= .bad m/\v=fo m):=by
 refine fnx_introP (rs:=[4]) Tryz.func169 rfl Tryz.ntmps169 ⟨by decide,Tryz.results169⟩ (by decide) (fun s0=> ?_)
 unfold eh at h
 refine W_rs (kAs rfl (W_rs (kAs rfl (az (W_rs (kMv rfl ?_))))))
 obtain⟨⟨x4,x5⟩,hx4,h⟩:=af h
 refine jp [0] (cd ([41]:List UInt8) x3 b2 _ hx4) (fun q C' hq=> ?_)
 obtain⟨rfl,rfl⟩:=hq
 refine rCtx [Own.box b2 ae x5] ?_
 refine a7 h rfl (fun _ h=> ?_) (fun _ h=> ?_)
 ·refine W_rs (kMv rfl (kAs rfl ?_))
  obtain rfl:=osj h
  exact ax (.inl ⟨.inl rfl,_,Pick.refl _,_,(cv _),_,rfl,rfl,rfl⟩)
 refine ar (a4 ?_)
 obtain⟨n1,hN1⟩:=bp h
 refine W_nil [5] rApiNode 48 (fun v23=> ?_) ⟨rfl,trivial⟩
 refine ew (fun m e C=>∃(x8:ParseParser),∃(x9:List ApiNode),∃(v7:Value),ff (fun s=>fx R x1 s.1 s.2) m (x8,x9)=some r/\At [(0,aj b2 0),(1,Pr.i64 x1),(5,Pr.is v7)] [Own.box b2 ae x8,Own.vec v7 rApiNode x9 48] e C) n1 ⟨x5,[],v23,hN1,⟨⟨aa,aa,aa,trivial⟩,Pick.refl _⟩⟩ ?_
 rintro m e C ⟨x8,x9,v7,hN1,hatl1⟩
 refine W_at hatl1 ?_
 obtain⟨m1,w1l,rfl,h1l,hn1,ho1⟩:=bk hN1
 replace h1l:fx R x1 x8 x9=some w1l:=h1l
 unfold fx at h1l
 refine a4 (W_rs (kMv rfl (kMv rfl (kMv rfl ?_))))
 rcases a5 h1l with⟨m22,hm22,h1l⟩|⟨⟨x13,x14⟩,hx13,h1l⟩
 ·refine bn [0] (ih.1 x1 0 x8 b2 _ hm22) ⟨aa,aa,aa,trivial⟩ (fun q C' hq=> ?_) (fun v9 hv=> ?_)
  ·obtain⟨_,h9,_⟩:=hq;cases h9
  obtain⟨_,h9,rfl⟩:=hv
  cases h9
  have h:some (.bad m22)=some r:=congrArg some (ho1 _ (Option.some.inj h1l).symm)
  obtain rfl:=osj h
  exact .inr ⟨_,rfl,_,rfl,rfl⟩
 refine bn [0] (ih.1 x1 0 x8 b2 _ hx13) ⟨aa,aa,aa,trivial⟩ (fun q C' hq=> ?_) (fun v9 hv=>by obtain⟨_,h9,_⟩:=hv;cases h9)
 obtain⟨_,h9,rfl,rfl⟩:=hq
 cases h9
 refine rCtx [Own.box b2 ae x14,Own.vec v7 rApiNode x9 48] ?_
 refine kUn (bt (R:=rApiNode) (a:=x13) el44 (Nat.le_of_ble_eq_true rfl)) ?_
 obtain⟨x15,hx15,h1l⟩:=af h1l
 refine fg 1 el44 hx15 (fun v16=> ?_)
 refine kAs rfl (az (W_rs (kMv rfl ?_)))
 obtain⟨⟨x17,x18⟩,hx17,h1l⟩:=af h1l
 refine jp [0] (cd ([41]:List UInt8) x14 b2 _ hx17) (fun q C' hq=> ?_)
 obtain⟨rfl,rfl⟩:=hq
 refine rCtx [Own.box b2 ae x18,Own.vec v16 rApiNode x15 48] ?_
 refine a7 h1l rfl (fun _ h1l=> ?_) (fun _ h1l=> ?_)
 ·refine W_rs (kMv rfl (kAs rfl ?_))
  have h:some (.ok (x15,x18))=some r:=congrArg some (ho1 _ (Option.some.inj h1l).symm)
  refine W_rel 1 [4] ?_ rfl ⟨rfl,trivial⟩
  obtain rfl:=osj h
  exact ax (.inl ⟨.inl rfl,_,Pick.refl _,_,(aa),_,rfl,rfl,rfl⟩)
 refine ar (W_r (kMv rfl ?_))
 rcases a5 h1l with⟨m21,hm21,h1l⟩|⟨x20,hx20,h1l⟩
 ·refine bn [0] (aq ([44]:List UInt8) x18 b2 _ hm21) ⟨aa,aa,trivial⟩ (fun q C' hq=> ?_) (fun v9 hv=> ?_)
  ·obtain⟨_,h9,_⟩:=hq;cases h9
  obtain⟨_,h9,rfl⟩:=hv
  cases h9
  have h:some (.bad m21)=some r:=congrArg some (ho1 _ (Option.some.inj h1l).symm)
  obtain rfl:=osj h
  exact .inr ⟨_,rfl,_,rfl,rfl⟩
 refine bn [0] (aq ([44]:List UInt8) x18 b2 _ hx20) ⟨aa,aa,trivial⟩ (fun q C' hq=> ?_) (fun v9 hv=>by obtain⟨_,h9,_⟩:=hv;cases h9)
 obtain⟨_,h9,rfl,rfl⟩:=hq
 cases h9
 refine rCtx [Own.box b2 ae x20,Own.vec v16 rApiNode x15 48] ?_
 exact⟨m1,Nat.lt_succ_self _,x20,x15,v16,hn1 _ (Option.some.inj h1l).symm,atOk⟩
theorem rec_parse_parser_expression_ok :∀n,ev (cq n):=by
 intro n
 induction n with
 |zero=>exact⟨(fun x1 x2 x4 b3 r h=>nomatch (show none=some r from h)),(fun x1 x3 b2 r h=>nomatch (show none=some r from h)),(fun x1 x3 b2 r h=>nomatch (show none=some r from h)),(fun x1 x3 b2 r h=>nomatch (show none=some r from h))⟩
 |succ n ih=>exact⟨(fun x1 x2 x4 b3 r h=>F_parse_parser_expression_step (cq n) ih x1 x2 x4 b3 r h),(fun x1 x3 b2 r h=>F_parse_parser_unary_step (cq n) ih x1 x3 b2 r h),(fun x1 x3 b2 r h=>F_parse_parser_primary_step (cq n) ih x1 x3 b2 r h),(fun x1 x3 b2 r h=>F_parse_parser_arguments_step (cq n) ih x1 x3 b2 r h)⟩
theorem dc (x1 x2:Int) (x4:ParseParser) (b3:Nat) (r:PX ParseWrong (ApiNode × ParseParser)) (h:dg x1 x2 x4=some r):FnX Tryz.prog 131 [aj b3 0,Pr.i64 x1,Pr.i64 x2] [Own.box b3 ae x4] (fun q C'=>∃a9,r= .ok a9/\q=(rApiNode).val a9.1/\C'=[Own.box b3 ae a9.2]) (fun v=>∃m,r= .bad m/\v=fo m):=(rec_parse_parser_expression_ok 1048576).1 x1 x2 x4 b3 r h
end Go.Proofs.YteablckbgpogiaaGreatDoor
