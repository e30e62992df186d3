/- The code comes to what these functions say (printed by wip/gen/gen.py). -/
import Derived.Test.YteablckbgpogiaaGreatDoorZX
import Derived.Test.YteablckbgpogiaaGreatDoorZP
import Derived.Test.YteablckbgpogiaaGreatDoorZT
set_option linter.unusedSimpArgs false
set_option linter.unusedVariables false
set_option linter.unusedSectionVars false
set_option linter.unusedSectionVars false
set_option maxRecDepth 100000
set_option maxHeartbeats 4000000
namespace Go.Proofs.YteablckbgpogiaaGreatDoor
open Go Go.Cn
variable [Known]
attribute [local irreducible] f5 ap
theorem dz (x1:ParseParser) (r:ApiToken) (h:bi x1=some r):FnP Tryz.prog 39 [f5 ae x1] ((ah).val r):=by
 refine ep (rs:=[.cell 2 74]) Tryz.func39 rfl Tryz.ntmps39 Tryz.results39 (by decide) (fun s0=> ?_)
 unfold bi at h
 refine W_rs (a8 al74 fun b2=> ?_)
 refine bj (fun e C=>∃(x3:ApiToken),nj x3=some r/\At [(2,aj b2 0)] [Own.box b2 ah x3] e C) ?_ ?_
 ·rintro e C ⟨x3,h,hat1⟩
  refine W_at hat1 ?_
  unfold nj at h
  obtain rfl:=osj h
  exact ax ⟨rfl,[(ah).val x3],⟨yBox 0 ty74 aa,trivial⟩,aa⟩
 refine ib 10 hmx (by kernel_rfl) (by kernel_rfl) ?_
 refine lUn (hMvC rfl) (lUn (qNilC rfl) (lUn (de fld103_0 subParseParser_t) ?_))
 refine lUn (cw ty70) ?_
 refine lUn (hMvC rfl) (lUn (qNilC rfl) (lUn (de fld103_1 subParseParser_at) ?_))
 refine lUn (cw ty3) ?_
 obtain⟨x3,hx3,h⟩:=af h
 refine lUn (fi Tryz.underlying70 Tryz.sizeOf74 hx3) ?_
 refine lUn (cw ty74) ?_
 refine ak 0 rfl rfl (Upd.refl _) rfl Tryz.sizeOf74 ?_
 exact⟨x3,h,atOk⟩
theorem cr (x1:Int) (x3:ParseParser) (b2:Nat) (r:PX ParseWrong ParseParser) (h:cj x1 x3=some r):FnX Tryz.prog 60 [aj b2 0,Pr.i64 x1] [Own.box b2 ae x3] (fun q C'=>∃a9,r= .ok a9/\q=ce []/\C'=[Own.box b2 ae a9]) (fun v=>∃m,r= .bad m/\v=fo m):=by
 refine fnx_introP (rs:=[]) Tryz.func60 rfl Tryz.ntmps60 ⟨by decide,Tryz.results60⟩ (by decide) (fun s0=> ?_)
 unfold cj at h
 refine W_r (kMv rfl (kMv rfl ?_))
 obtain⟨x4,hx4,h⟩:=af h
 refine kUn (qCallBx 0 (dz x3 _ hx4) ⟨.inr ⟨aa,rfl⟩,trivial⟩ (fun _ _ _ h=>Flat.val kh _ _ _ _ h)) ?_
 refine kUn (qField rfl fld74_2 subApiToken_At (Nat.le_of_ble_eq_true rfl)) ?_
 refine kUn (j8 st28 ⟨(ApiMistake.mk x1 0 0),⟨_,rfl,rfl,fun j fd hj hf=>by match j,hj with| 0,h=>exact absurd rfl h| 1,_=>cases hf;rfl| 2,_=>cases hf;rfl|_+3,_=>cases hf⟩,⟨(ApiMistake.mk x1 0 x4.At),⟨_,rfl,rfl,fun j fd hj hf=>by match j,hj with| 0,_=>cases hf;rfl| 1,_=>cases hf;rfl| 2,h=>exact absurd rfl h|_+3,_=>cases hf⟩,rfl⟩⟩) ?_
 refine kUn (j8 st100 ⟨(ParseWrong.mk (ApiMistake.mk x1 0 x4.At)),⟨_,rfl,rfl,fun j fd hj hf=>by match j,hj with| 0,h=>exact absurd rfl h|_+1,_=>cases hf⟩,rfl⟩) ?_
 refine kUn (qMkIfc Tryz.underlying100 rfl) ?_
 refine rPanic (p:=Pr.ifc 100 ((im).val (ParseWrong.mk (ApiMistake.mk x1 0 x4.At)))) (Die:=fun v=>v=fo (ParseWrong.mk (ApiMistake.mk x1 0 x4.At))) (wrong_plain _) ?_ aa
 rintro _ rfl
 obtain rfl:=osj h
 exact .inr ⟨_,rfl,_,rfl,rfl⟩
theorem qo (x1:ApiToken) (x2:List UInt8) (r:Bool) (h:m9 x1 x2=some r):FnP Tryz.prog 94 [(ah).val x1,ba x2] (Pr.bool r):=by
 refine cm (rs:=[4]) Tryz.func94 rfl Tryz.ntmps94 ⟨by decide,Tryz.results94⟩ (by decide) (fun s0=> ?_)
 unfold m9 at h
 refine W_rs ?_
 refine rBox (R:=ah) (a:=x1) rfl (fun b3=> ?_)
 refine kAs rfl ?_
 refine bj (fun e C=>∃(x6:Bool),oh x6=some r/\At [(4,Pr.bool x6)] [Own.box b3 ah x1] e C) ?_ ?_
 ·rintro e C ⟨x6,h,hat1⟩
  refine W_at hat1 ?_
  unfold oh at h
  obtain rfl:=osj h
  exact ax ⟨rfl,aa⟩
 refine W_r (kUn (av fld74_1) ?_)
 refine kUn (bb 0 ty9 subApiToken_Text) ?_
 refine kMv rfl (kSt rfl rfl rfl (kMv rfl ?_))
 rcases bd h with⟨hc4,h⟩|⟨hc4,h⟩
 ·refine kGd rfl aa hc4 (av qc) ?_
  refine kGd rfl aa hc4 (bb 0 ty3 dn) ?_
  refine kGd rfl aa hc4 (qInt rfl rfl rfl) (kGd rfl aa hc4 (hMvA rfl) ?_)
  rcases bd h with⟨hc5,h⟩|⟨hc5,h⟩
  ·refine kSkF rfl aa hc5 (kSkF rfl aa hc5 (kSkF rfl aa hc5 (kGd rfl aa hc4 (hPt rfl hc5 rfl) (kPt rfl hc4 rfl (kAs rfl ?_)))))
   exact⟨true,h,atOk⟩
  refine kGd rfl aa hc5 (av qc) ?_
  refine kGd rfl aa hc5 (bb 0 ty3 dn) ?_
  refine kGd rfl aa hc5 (qInt rfl rfl rfl) (kGd rfl aa hc4 (hPf rfl hc5 rfl) (kPt rfl hc4 rfl (kAs rfl ?_)))
  exact⟨x1.Kind==3,h,atOk⟩
 refine kSkT rfl aa hc4 (kSkT rfl aa hc4 (kSkT rfl aa hc4 (kSkT rfl aa hc4 (kSkU rfl aa (kSkU rfl aa (kSkU rfl aa (kSkT rfl aa hc4 (kPf rfl hc4 rfl (kAs rfl ?_)))))))))
 exact⟨false,h,atOk⟩
theorem parse_parser_is_ok (x1:ParseParser) (x2:List UInt8) (r:Bool) (h:ml x1 x2=some r):FnP Tryz.prog 90 [f5 ae x1,ba x2] (Pr.bool r):=by
 refine cm (rs:=[4]) Tryz.func90 rfl Tryz.ntmps90 ⟨by decide,Tryz.results90⟩ (by decide) (fun s0=> ?_)
 unfold ml at h
 refine W_rs (kAs rfl (W_rs (kMvC rfl (cg h (dz x1) rfl fun x3 _ h=>kMv rfl (cg h (qo x3 x2) rfl fun x4 _ h=>kAs rfl ?_)))))
 obtain rfl:=osj h
 exact ax ⟨rfl,aa⟩
theorem cd (x1:List UInt8) (x3:ParseParser) (b2:Nat) (r:Bool × ParseParser) (h:bu x1 x3=some r):FnC Tryz.prog 64 [aj b2 0,ba x1] [Own.box b2 ae x3] (fun q C'=>q=Pr.bool r.1/\C'=[Own.box b2 ae r.2]):=by
 refine fnc_introP (rs:=[4]) Tryz.func64 rfl Tryz.ntmps64 ⟨by decide,Tryz.results64⟩ (by decide) (fun s0=> ?_)
 unfold bu at h
 refine W_rs (kAs rfl (az (W_rs (kMv rfl (kMv rfl ?_)))))
 obtain⟨x4,hx4,h⟩:=af h
 refine kUn (qCallBx 0 (parse_parser_is_ok x3 x1 _ hx4) ⟨.inr ⟨aa,rfl⟩,.inl aa,trivial⟩ (fun _ _ _ h=>h)) ?_
 refine kNo rfl ?_
 refine a7 h rfl (fun _ h=> ?_) (fun _ h=> ?_)
 ·refine W_rs (kAs rfl ?_)
  obtain rfl:=osj h
  exact ax ⟨.inl rfl,_,Pick.refl _,_,(aa),rfl,rfl⟩
 refine ar (W_rs (kMv rfl (kNp rfl (kUn (av fld103_1) ?_))))
 refine kUn (bb 0 ty3 subParseParser_at) ?_
 refine kIn rfl rfl rfl (kNp rfl (kUn (av fld103_1) ?_))
 refine ak 0 rfl rfl updParseParser_at rfl Tryz.sizeOf3 (W_rs (kAs rfl ?_))
 obtain rfl:=osj h
 exact ax ⟨.inl rfl,_,Pick.refl _,_,(aa),rfl,rfl⟩
theorem aq (x1:List UInt8) (x3:ParseParser) (b2:Nat) (r:PX ParseWrong ParseParser) (h:bc x1 x3=some r):FnX Tryz.prog 62 [aj b2 0,ba x1] [Own.box b2 ae x3] (fun q C'=>∃a9,r= .ok a9/\q=ce []/\C'=[Own.box b2 ae a9]) (fun v=>∃m,r= .bad m/\v=fo m):=by
 refine fnx_introP (rs:=[]) Tryz.func62 rfl Tryz.ntmps62 ⟨by decide,Tryz.results62⟩ (by decide) (fun s0=> ?_)
 unfold bc at h
 refine W_rs (kMv rfl (kMv rfl ?_))
 obtain⟨⟨x4,x5⟩,hx4,h⟩:=af h
 refine jp [0] (cd x1 x3 b2 _ hx4) (fun q C' hq=> ?_)
 obtain⟨rfl,rfl⟩:=hq
 refine rCtx [Own.box b2 ae x5] ?_
 refine kNo rfl ?_
 refine a7 h rfl (fun _ h=> ?_) (fun _ h=> ?_)
 ·refine W_r (kMv rfl ?_)
  rcases a5 h with⟨m8,hm8,h⟩|⟨x7,hx7,h⟩
  ·refine bn [0] (cr 120 x5 b2 _ hm8) ⟨aa,aa,trivial⟩ (fun q C' hq=> ?_) (fun v9 hv=> ?_)
   ·obtain⟨_,h9,_⟩:=hq;cases h9
   obtain⟨_,h9,rfl⟩:=hv
   cases h9
   obtain rfl:=osj h
   exact .inr ⟨_,rfl,_,rfl,rfl⟩
  refine bn [0] (cr 120 x5 b2 _ hx7) ⟨aa,aa,trivial⟩ (fun q C' hq=> ?_) (fun v9 hv=>by obtain⟨_,h9,_⟩:=hv;cases h9)
  obtain⟨_,h9,rfl,rfl⟩:=hq
  cases h9
  refine rCtx [Own.box b2 ae x7] ?_
  obtain rfl:=osj h
  exact(.inl ⟨.inr rfl,_,Pick.refl _,_,aa,_,rfl,rfl,rfl⟩)
 refine ar ?_
 obtain rfl:=osj h
 exact(.inl ⟨.inr rfl,_,Pick.refl _,_,aa,_,rfl,rfl,rfl⟩)
theorem gr (x2:ParseParser) (b1:Nat) (r:ApiToken × ParseParser) (h:cz x2=some r):FnC Tryz.prog 89 [aj b1 0] [Own.box b1 ae x2] (fun q C'=>q=(ah).val r.1/\C'=[Own.box b1 ae r.2]):=by
 refine fnc_introR (rs:=[.cell 2 74]) Tryz.func89 rfl Tryz.ntmps89 Tryz.results89 (by decide) (fun s0=> ?_)
 unfold cz at h
 refine W_rs (a8 al74 fun b3=>W_rs (kMv rfl ?_))
 obtain⟨x4,hx4,h⟩:=af h
 refine kUn (qCallBx 0 (dz x2 _ hx4) ⟨.inr ⟨aa,rfl⟩,trivial⟩ (fun _ _ _ h=>Flat.val kh _ _ _ _ h)) ?_
 refine a8 al74 fun b5=>ak 2 rfl rfl (Upd.refl _) rfl Tryz.sizeOf74 (W_rs (kMv rfl (kNp rfl (kUn (av fld103_1) ?_))))
 refine kUn (bb 0 ty3 subParseParser_at) ?_
 refine kIn rfl rfl rfl (kNp rfl (kUn (av fld103_1) ?_))
 refine ak 0 rfl rfl updParseParser_at rfl Tryz.sizeOf3 (W_rs (kUn (bb 2 ty74 (Sub.refl _)) ?_))
 refine ak 1 rfl rfl (Upd.refl _) rfl Tryz.sizeOf74 ?_
 obtain rfl:=osj h
 exact ax ⟨.inl rfl,[(ah).val x4],⟨yBox 1 ty74 aa,trivial⟩,_,Pick.of [0] rfl,rfl,rfl⟩
theorem db (x2:ParseParser) (b1:Nat) (r:PX ParseWrong (ApiToken × ParseParser)) (h:dm x2=some r):FnX Tryz.prog 63 [aj b1 0] [Own.box b1 ae x2] (fun q C'=>∃a9,r= .ok a9/\q=(ah).val a9.1/\C'=[Own.box b1 ae a9.2]) (fun v=>∃m,r= .bad m/\v=fo m):=by
 refine je (rs:=[.cell 2 74]) Tryz.func63 rfl Tryz.ntmps63 Tryz.results63 (by decide) (fun s0=> ?_)
 unfold dm at h
 refine W_rs (a8 al74 fun b3=> ?_)
 refine bj (fun e C=>∃(x8:ParseParser),kb x8=some r/\At [(0,aj b1 0),(2,aj b3 0)] [Own.box b1 ae x8,Own.box b3 ah (ApiToken.mk 0 [] 0 [])] e C) ?_ ?_
 ·rintro e C ⟨x8,h,hat1⟩
  refine W_at hat1 ?_
  unfold kb at h
  refine W_rs (kMv rfl ?_)
  obtain⟨⟨x9,x10⟩,hx9,h⟩:=af h
  refine jp [0] (gr x8 b1 _ hx9) (fun q C' hq=> ?_)
  obtain⟨rfl,rfl⟩:=hq
  refine rCtx [Own.box b1 ae x10,Own.box b3 ah (ApiToken.mk 0 [] 0 [])] ?_
  refine ak 1 rfl rfl (Upd.refl _) rfl Tryz.sizeOf74 ?_
  obtain rfl:=osj h
  exact ax (.inl ⟨.inl rfl,[(ah).val x9],⟨yBox 1 ty74 aa,trivial⟩,_,Pick.of [0] rfl,_,rfl,rfl,rfl⟩)
 refine W_rs (kMv rfl ?_)
 obtain⟨x4,hx4,h⟩:=af h
 refine kUn (qCallBx 0 (dz x2 _ hx4) ⟨.inr ⟨aa,rfl⟩,trivial⟩ (fun _ _ _ h=>Flat.val kh _ _ _ _ h)) ?_
 refine kUn (qField rfl qc dn (Nat.le_of_ble_eq_true rfl)) ?_
 refine kIn rfl rfl rfl ?_
 refine a7 h rfl (fun _ h=> ?_) (fun _ h=> ?_)
 ·refine W_r (kMv rfl ?_)
  rcases a5 h with⟨m7,hm7,h⟩|⟨x6,hx6,h⟩
  ·refine bn [0] (cr 120 x2 b1 _ hm7) ⟨aa,aa,trivial⟩ (fun q C' hq=> ?_) (fun v9 hv=> ?_)
   ·obtain⟨_,h9,_⟩:=hq;cases h9
   obtain⟨_,h9,rfl⟩:=hv
   cases h9
   obtain rfl:=osj h
   exact .inr ⟨_,rfl,_,rfl,rfl⟩
  refine bn [0] (cr 120 x2 b1 _ hx6) ⟨aa,aa,trivial⟩ (fun q C' hq=> ?_) (fun v9 hv=>by obtain⟨_,h9,_⟩:=hv;cases h9)
  obtain⟨_,h9,rfl,rfl⟩:=hq
  cases h9
  refine rCtx [Own.box b1 ae x6,Own.box b3 ah (ApiToken.mk 0 [] 0 [])] ?_
  exact⟨x6,h,atOk⟩
 refine ar ?_
 exact⟨x2,h,atOk⟩
theorem km (x1:ApiNode) (x2:ApiToken) (r:ApiNode) (h:di x1 x2=some r):FnP Tryz.prog 66 [(rApiNode).val x1,(ah).val x2] ((rApiNode).val r):=by
 refine ep (rs:=[.cell 4 48]) Tryz.func66 rfl Tryz.ntmps66 Tryz.results66 (by decide) (fun s0=> ?_)
 unfold di at h
 refine W_rs ?_
 refine rBox (R:=rApiNode) (a:=x1) rfl (fun b3=> ?_)
 refine rBox (R:=ah) (a:=x2) rfl (fun b4=> ?_)
 refine a8 al48 fun b5=> ?_
 refine bj (fun e C=>dj x1 x2=some r/\At [(2,aj b3 0),(4,aj b5 0)] [Own.box b3 rApiNode ({{x1 with Text:=x2.Text} with At:=x2.At}),Own.box b4 ah x2,Own.box b5 rApiNode (ApiNode.mk 0 [] [] 0 0 0 0 0 [])] e C) ?_ ?_
 ·rintro e C ⟨h,hat1⟩
  refine W_at hat1 ?_
  unfold dj at h
  refine W_rs (kUn (bb 0 ty48 (Sub.refl _)) ?_)
  refine ak 2 rfl rfl (Upd.refl _) rfl Tryz.sizeOf48 ?_
  obtain rfl:=osj h
  exact ax ⟨rfl,[(rApiNode).val ({{x1 with Text:=x2.Text} with At:=x2.At})],⟨yBox 2 ty48 aa,trivial⟩,aa⟩
 refine W_drawG 0 (fun B S=>[(cond (S 7) (Own.box b3 rApiNode ({{x1 with Text:=x2.Text} with At:=x2.At})) (cond (S 5) (Own.box b3 rApiNode ({x1 with Text:=x2.Text})) (Own.box b3 rApiNode x1))),Own.box b4 ah x2,Own.box b5 rApiNode (ApiNode.mk 0 [] [] 0 0 0 0 0 [])]) (fun B=>[Own.box b3 rApiNode ({{x1 with Text:=x2.Text} with At:=x2.At}),Own.box b4 ah x2,Own.box b5 rApiNode (ApiNode.mk 0 [] [] 0 0 0 0 0 [])]) [aj b4 1,ba x2.Text,aj b4 2,Pr.i64 x2.At,aj b3 1,.any,aj b3 6,.any] (fun k=>([0,0,0,0,0,1,0,1]:List Nat).getD k 0) hmx (by kernel_rfl) (by kernel_rfl) (fun _=>rfl) (fun B S S' h=>by show([(cond (S 7) (Own.box b3 rApiNode ({{x1 with Text:=x2.Text} with At:=x2.At})) (cond (S 5) (Own.box b3 rApiNode ({x1 with Text:=x2.Text})) (Own.box b3 rApiNode x1))),Own.box b4 ah x2,Own.box b5 rApiNode (ApiNode.mk 0 [] [] 0 0 0 0 0 [])]:Ctx)=[(cond (S' 7) (Own.box b3 rApiNode ({{x1 with Text:=x2.Text} with At:=x2.At})) (cond (S' 5) (Own.box b3 rApiNode ({x1 with Text:=x2.Text})) (Own.box b3 rApiNode x1))),Own.box b4 ah x2,Own.box b5 rApiNode (ApiNode.mk 0 [] [] 0 0 0 0 0 [])];simp only[h 5 (Nat.le_of_ble_eq_true (by kernel_rfl)),h 7 (Nat.le_of_ble_eq_true (by kernel_rfl))]) (fun _=>rfl) (fun B=> ?_)
 refine gq1 (fun S hK=>(av fld74_1)) ?_
 refine gq1 (fun S hK=>(bb (R:=ah) (a:=x2) (R':=ct) 1 ty9 subApiToken_Text (hi:=rfl))) ?_
 refine gq1 (fun S hK=>(av fld74_2)) ?_
 refine gq1 (fun S hK=>(bb (R:=ah) (a:=x2) (R':=Rp.int .i64) 1 ty3 subApiToken_At (hi:=rfl))) ?_
 refine gq1 (fun S hK=>(av oo)) ?_
 refine gqS (fun S hK=>SStep.as (dr (R:=rApiNode) (R':=ct) (a:=x1) (y:=x2.Text) 0 Tryz.sizeOf9 jt (congrArg some ((condF (hK.F 7 (by kernel_rfl)) _ _).trans (condF (hK.me) _ _)))) (by show(_:Ctx)=[(cond (S 7) (Own.box b3 rApiNode ({{x1 with Text:=x2.Text} with At:=x2.At})) (Own.box b3 rApiNode ({x1 with Text:=x2.Text}))),Own.box b4 ah x2,Own.box b5 rApiNode (ApiNode.mk 0 [] [] 0 0 0 0 0 [])];rw[hK.F 7 (by kernel_rfl)];rfl)) ?_
 refine gq1 (fun S hK=>(av fld48_6)) ?_
 refine gqS (fun S hK=>SStep.as (dr (R:=rApiNode) (R':=Rp.int .i64) (a:={x1 with Text:=x2.Text}) (y:=x2.At) 0 Tryz.sizeOf3 pl (congrArg some ((condF (hK.me) _ _).trans (condT (hK.T 5 (by kernel_rfl)) _ _)))) (by show(_:Ctx)=[Own.box b3 rApiNode ({{x1 with Text:=x2.Text} with At:=x2.At}),Own.box b4 ah x2,Own.box b5 rApiNode (ApiNode.mk 0 [] [] 0 0 0 0 0 [])];rfl)) ?_
 exact⟨h,atOk⟩
theorem parse_typed_ok (x1:ApiNode) (x2:ApiToken) (r:ApiNode) (h:f1 x1 x2=some r):FnP Tryz.prog 68 [(rApiNode).val x1,(ah).val x2] ((rApiNode).val r):=by
 refine ep (rs:=[.cell 4 48]) Tryz.func68 rfl Tryz.ntmps68 Tryz.results68 (by decide) (fun s0=> ?_)
 unfold f1 at h
 refine W_rs ?_
 refine rBox (R:=rApiNode) (a:=x1) rfl (fun b3=> ?_)
 refine rBox (R:=ah) (a:=x2) rfl (fun b4=> ?_)
 refine a8 al48 fun b5=> ?_
 refine bj (fun e C=>fh x1 x2=some r/\At [(2,aj b3 0),(4,aj b5 0)] [Own.box b3 rApiNode ({{x1 with Type_:=x2.Text} with TypeAt:=x2.At}),Own.box b4 ah x2,Own.box b5 rApiNode (ApiNode.mk 0 [] [] 0 0 0 0 0 [])] e C) ?_ ?_
 ·rintro e C ⟨h,hat1⟩
  refine W_at hat1 ?_
  unfold fh at h
  refine W_rs (kUn (bb 0 ty48 (Sub.refl _)) ?_)
  refine ak 2 rfl rfl (Upd.refl _) rfl Tryz.sizeOf48 ?_
  obtain rfl:=osj h
  exact ax ⟨rfl,[(rApiNode).val ({{x1 with Type_:=x2.Text} with TypeAt:=x2.At})],⟨yBox 2 ty48 aa,trivial⟩,aa⟩
 refine W_drawG 0 (fun B S=>[(cond (S 7) (Own.box b3 rApiNode ({{x1 with Type_:=x2.Text} with TypeAt:=x2.At})) (cond (S 5) (Own.box b3 rApiNode ({x1 with Type_:=x2.Text})) (Own.box b3 rApiNode x1))),Own.box b4 ah x2,Own.box b5 rApiNode (ApiNode.mk 0 [] [] 0 0 0 0 0 [])]) (fun B=>[Own.box b3 rApiNode ({{x1 with Type_:=x2.Text} with TypeAt:=x2.At}),Own.box b4 ah x2,Own.box b5 rApiNode (ApiNode.mk 0 [] [] 0 0 0 0 0 [])]) [aj b4 1,ba x2.Text,aj b4 2,Pr.i64 x2.At,aj b3 2,.any,aj b3 7,.any] (fun k=>([0,0,0,0,0,1,0,1]:List Nat).getD k 0) hmx (by kernel_rfl) (by kernel_rfl) (fun _=>rfl) (fun B S S' h=>by show([(cond (S 7) (Own.box b3 rApiNode ({{x1 with Type_:=x2.Text} with TypeAt:=x2.At})) (cond (S 5) (Own.box b3 rApiNode ({x1 with Type_:=x2.Text})) (Own.box b3 rApiNode x1))),Own.box b4 ah x2,Own.box b5 rApiNode (ApiNode.mk 0 [] [] 0 0 0 0 0 [])]:Ctx)=[(cond (S' 7) (Own.box b3 rApiNode ({{x1 with Type_:=x2.Text} with TypeAt:=x2.At})) (cond (S' 5) (Own.box b3 rApiNode ({x1 with Type_:=x2.Text})) (Own.box b3 rApiNode x1))),Own.box b4 ah x2,Own.box b5 rApiNode (ApiNode.mk 0 [] [] 0 0 0 0 0 [])];simp only[h 5 (Nat.le_of_ble_eq_true (by kernel_rfl)),h 7 (Nat.le_of_ble_eq_true (by kernel_rfl))]) (fun _=>rfl) (fun B=> ?_)
 refine gq1 (fun S hK=>(av fld74_1)) ?_
 refine gq1 (fun S hK=>(bb (R:=ah) (a:=x2) (R':=ct) 1 ty9 subApiToken_Text (hi:=rfl))) ?_
 refine gq1 (fun S hK=>(av fld74_2)) ?_
 refine gq1 (fun S hK=>(bb (R:=ah) (a:=x2) (R':=Rp.int .i64) 1 ty3 subApiToken_At (hi:=rfl))) ?_
 refine gq1 (fun S hK=>(av fld48_2)) ?_
 refine gqS (fun S hK=>SStep.as (dr (R:=rApiNode) (R':=ct) (a:=x1) (y:=x2.Text) 0 Tryz.sizeOf9 updApiNode_Type (congrArg some ((condF (hK.F 7 (by kernel_rfl)) _ _).trans (condF (hK.me) _ _)))) (by show(_:Ctx)=[(cond (S 7) (Own.box b3 rApiNode ({{x1 with Type_:=x2.Text} with TypeAt:=x2.At})) (Own.box b3 rApiNode ({x1 with Type_:=x2.Text}))),Own.box b4 ah x2,Own.box b5 rApiNode (ApiNode.mk 0 [] [] 0 0 0 0 0 [])];rw[hK.F 7 (by kernel_rfl)];rfl)) ?_
 refine gq1 (fun S hK=>(av fld48_7)) ?_
 refine gqS (fun S hK=>SStep.as (dr (R:=rApiNode) (R':=Rp.int .i64) (a:={x1 with Type_:=x2.Text}) (y:=x2.At) 0 Tryz.sizeOf3 updApiNode_TypeAt (congrArg some ((condF (hK.me) _ _).trans (condT (hK.T 5 (by kernel_rfl)) _ _)))) (by show(_:Ctx)=[Own.box b3 rApiNode ({{x1 with Type_:=x2.Text} with TypeAt:=x2.At}),Own.box b4 ah x2,Own.box b5 rApiNode (ApiNode.mk 0 [] [] 0 0 0 0 0 [])];rfl)) ?_
 exact⟨h,atOk⟩
theorem parse_isType_ok (x1:ApiToken) (r:Bool) (h:jf x1=some r):FnP Tryz.prog 91 [(ah).val x1] (Pr.bool r):=by
 refine cm (rs:=[2]) Tryz.func91 rfl Tryz.ntmps91 ⟨by decide,Tryz.results91⟩ (by decide) (fun s0=> ?_)
 unfold jf at h
 refine W_rs ?_
 refine rBox (R:=ah) (a:=x1) rfl (fun b2=> ?_)
 refine kAs rfl ?_
 refine bj (fun e C=>∃(x17:Bool),k6 x17=some r/\At [(2,Pr.bool x17)] [Own.box b2 ah x1] e C) ?_ ?_
 ·rintro e C ⟨x17,h,hat1⟩
  refine W_at hat1 ?_
  unfold k6 at h
  obtain rfl:=osj h
  exact ax ⟨rfl,aa⟩
 refine W_r (kUn (av qc) ?_)
 refine kUn (bb 0 ty3 dn) ?_
 refine kIn rfl rfl rfl (kMv rfl ?_)
 rcases bd h with⟨hc3,h⟩|⟨hc3,h⟩
 ·refine kSkF rfl aa hc3 (kSkF rfl aa hc3 (kPt rfl hc3 rfl (kMv rfl ?_)))
  have hc11:true=true:=rfl
  refine kSkF rfl aa hc11 (kSkF rfl aa hc11 (kPt rfl hc11 rfl (kMv rfl ?_)))
  have hc15:true=true:=rfl
  refine kSkF rfl aa hc15 (kSkF rfl aa hc15 (kPt rfl hc15 rfl (kAs rfl ?_)))
  exact⟨true,h,atOk⟩
 refine kGd rfl aa hc3 (bb 0 ty74 (Sub.refl _)) ?_
 obtain⟨x4,hx4,h⟩:=af h
 refine kGd rfl aa hc3 (dl (qo x1 ([105,110,116]:List UInt8) _ hx4)) ?_
 refine kPf rfl hc3 rfl (kMv rfl ?_)
 rcases bd h with⟨hc5,h⟩|⟨hc5,h⟩
 ·refine kSkF rfl aa hc5 (kSkF rfl aa hc5 (kPt rfl hc5 rfl (kMv rfl ?_)))
  have hc9:true=true:=rfl
  refine kSkF rfl aa hc9 (kSkF rfl aa hc9 (kPt rfl hc9 rfl (kAs rfl ?_)))
  exact⟨true,h,atOk⟩
 refine kGd rfl aa hc5 (bb 0 ty74 (Sub.refl _)) ?_
 obtain⟨x6,hx6,h⟩:=af h
 refine kGd rfl aa hc5 (dl (qo x1 ([98,111,111,108,101,97,110]:List UInt8) _ hx6)) ?_
 refine kPf rfl hc5 rfl (kMv rfl ?_)
 rcases bd h with⟨hc7,h⟩|⟨hc7,h⟩
 ·refine kSkF rfl aa hc7 (kSkF rfl aa hc7 (kPt rfl hc7 rfl (kAs rfl ?_)))
  exact⟨true,h,atOk⟩
 refine kGd rfl aa hc7 (bb 0 ty74 (Sub.refl _)) ?_
 obtain⟨x8,hx8,h⟩:=af h
 refine kGd rfl aa hc7 (dl (qo x1 ([118,111,105,100]:List UInt8) _ hx8)) ?_
 refine kPf rfl hc7 rfl (kAs rfl ?_)
 exact⟨x8,h,atOk⟩
theorem lp (x2:ParseParser) (b1:Nat) (r:PX ParseWrong (ApiToken × ParseParser)) (h:f6 x2=some r):FnX Tryz.prog 109 [aj b1 0] [Own.box b1 ae x2] (fun q C'=>∃a9,r= .ok a9/\q=(ah).val a9.1/\C'=[Own.box b1 ae a9.2]) (fun v=>∃m,r= .bad m/\v=fo m):=by
 refine je (rs:=[.cell 2 74]) Tryz.func109 rfl Tryz.ntmps109 Tryz.results109 (by decide) (fun s0=> ?_)
 unfold f6 at h
 refine W_rs (a8 al74 fun b3=> ?_)
 refine bj (fun e C=>∃(x12:ParseParser),jv x12=some r/\At [(0,aj b1 0),(2,aj b3 0)] [Own.box b1 ae x12,Own.box b3 ah (ApiToken.mk 0 [] 0 [])] e C) ?_ ?_
 ·rintro e C ⟨x12,h,hat1⟩
  refine W_at hat1 ?_
  unfold jv at h
  refine W_rs (kMv rfl ?_)
  obtain⟨⟨x13,x14⟩,hx13,h⟩:=af h
  refine jp [0] (gr x12 b1 _ hx13) (fun q C' hq=> ?_)
  obtain⟨rfl,rfl⟩:=hq
  refine rCtx [Own.box b1 ae x14,Own.box b3 ah (ApiToken.mk 0 [] 0 [])] ?_
  refine ak 1 rfl rfl (Upd.refl _) rfl Tryz.sizeOf74 ?_
  obtain rfl:=osj h
  exact ax (.inl ⟨.inl rfl,[(ah).val x13],⟨yBox 1 ty74 aa,trivial⟩,_,Pick.of [0] rfl,_,rfl,rfl,rfl⟩)
 refine bj (fun e C=>∃(x8:Bool),ju x2 x8=some r/\At [(0,aj b1 0),(2,aj b3 0),(10,Pr.bool x8)] [Own.box b1 ae x2,Own.box b3 ah (ApiToken.mk 0 [] 0 [])] e C) ?_ ?_
 ·rintro e C ⟨x8,h,hat2⟩
  refine W_at hat2 ?_
  unfold ju at h
  refine a7 h rfl (fun _ h=> ?_) (fun _ h=> ?_)
  ·refine W_r (kMv rfl ?_)
   rcases a5 h with⟨m11,hm11,h⟩|⟨x10,hx10,h⟩
   ·refine bn [0] (cr 120 x2 b1 _ hm11) ⟨aa,aa,trivial⟩ (fun q C' hq=> ?_) (fun v9 hv=> ?_)
    ·obtain⟨_,h9,_⟩:=hq;cases h9
    obtain⟨_,h9,rfl⟩:=hv
    cases h9
    obtain rfl:=osj h
    exact .inr ⟨_,rfl,_,rfl,rfl⟩
   refine bn [0] (cr 120 x2 b1 _ hx10) ⟨aa,aa,trivial⟩ (fun q C' hq=> ?_) (fun v9 hv=>by obtain⟨_,h9,_⟩:=hv;cases h9)
   obtain⟨_,h9,rfl,rfl⟩:=hq
   cases h9
   refine rCtx [Own.box b1 ae x10,Own.box b3 ah (ApiToken.mk 0 [] 0 [])] ?_
   exact⟨x10,h,atOk⟩
  refine ar ?_
  exact⟨x2,h,atOk⟩
 refine W_r (kMv rfl ?_)
 obtain⟨x4,hx4,h⟩:=af h
 refine kUn (qCallBx 0 (dz x2 _ hx4) ⟨.inr ⟨aa,rfl⟩,trivial⟩ (fun _ _ _ h=>Flat.val kh _ _ _ _ h)) ?_
 refine cg h (parse_isType_ok x4) rfl fun x5 _ h=>kNo rfl (kMv rfl ?_)
 rcases bd h with⟨hc6,h⟩|⟨hc6,h⟩
 ·refine kSkF rfl aa hc6 (kSkF rfl aa hc6 (kPt rfl hc6 rfl ?_))
  exact⟨true,h,atOk⟩
 refine kGd rfl aa hc6 (hMvA rfl) ?_
 obtain⟨x7,hx7,h⟩:=af h
 refine kGd rfl aa hc6 (qCallBx 0 (parse_parser_is_ok x2 ([118,111,105,100]:List UInt8) _ hx7) ⟨.inr ⟨aa,rfl⟩,.inl aa,trivial⟩ (fun _ _ _ h=>h)) ?_
 refine kPf rfl hc6 rfl ?_
 exact⟨x7,h,atOk⟩
theorem parse_parser_params_ok (x2:ParseParser) (b1:Nat) (r:PX ParseWrong ((List ApiNode) × ParseParser)) (h:gc x2=some r):FnX Tryz.prog 92 [aj b1 0] [Own.box b1 ae x2] (fun q C'=>∃a9,r= .ok a9/\∃u0,q=Pr.is u0/\C'=[Own.vec u0 rApiNode a9.1 48,Own.box b1 ae a9.2]) (fun v=>∃m,r= .bad m/\v=fo m):=by
 refine fnx_introP (rs:=[2]) Tryz.func92 rfl Tryz.ntmps92 ⟨by decide,Tryz.results92⟩ (by decide) (fun s0=> ?_)
 unfold gc at h
 refine W_rs (kAs rfl (W_rs (kAs rfl (az (W_rs (kMv rfl ?_))))))
 obtain⟨⟨x3,x4⟩,hx3,h⟩:=af h
 refine jp [0] (cd ([41]:List UInt8) x2 b1 _ hx3) (fun q C' hq=> ?_)
 obtain⟨rfl,rfl⟩:=hq
 refine rCtx [Own.box b1 ae x4] ?_
 refine a7 h rfl (fun _ h=> ?_) (fun _ h=> ?_)
 ·refine W_rs (kMv rfl (kAs rfl ?_))
  refine W_nil [2] rApiNode 48 (fun v6=> ?_) ⟨rfl,trivial⟩
  obtain rfl:=osj h
  exact ax (.inl ⟨.inl rfl,_,Pick.of [1,0] rfl,_,(aa),_,rfl,v6,rfl,rfl⟩)
 refine ar (a4 ?_)
 obtain⟨n1,hN1⟩:=bp h
 refine W_nil [3] rApiNode 48 (fun v31=> ?_) ⟨rfl,trivial⟩
 refine ew (fun m e C=>∃(x8:ParseParser),∃(x9:List ApiNode),∃(v7:Value),ff (fun s=>gy s.1 s.2) m (x8,x9)=some r/\At [(0,aj b1 0),(3,Pr.is v7)] [Own.box b1 ae x8,Own.vec v7 rApiNode x9 48] e C) n1 ⟨x4,[],v31,hN1,⟨⟨aa,aa,trivial⟩,Pick.refl _⟩⟩ ?_
 rintro m e C ⟨x8,x9,v7,hN1,hatl1⟩
 refine W_at hatl1 ?_
 obtain⟨m1,w1l,rfl,h1l,hn1,ho1⟩:=bk hN1
 replace h1l:gy x8 x9=some w1l:=h1l
 unfold gy at h1l
 refine a4 (W_rs (kMv rfl (kNp rfl (kUn (av fld103_1) ?_))))
 refine kUn (bb 0 ty3 subParseParser_at) ?_
 refine kAs rfl (W_rs (kMv rfl ?_))
 rcases a5 h1l with⟨m30,hm30,h1l⟩|⟨⟨x13,x14⟩,hx13,h1l⟩
 ·refine bn [0] (lp x8 b1 _ hm30) ⟨aa,trivial⟩ (fun q C' hq=> ?_) (fun v9 hv=> ?_)
  ·obtain⟨_,h9,_⟩:=hq;cases h9
  obtain⟨_,h9,rfl⟩:=hv
  cases h9
  have h:some (.bad m30)=some r:=congrArg some (ho1 _ (Option.some.inj h1l).symm)
  obtain rfl:=osj h
  exact .inr ⟨_,rfl,_,rfl,rfl⟩
 refine bn [0] (lp x8 b1 _ hx13) ⟨aa,trivial⟩ (fun q C' hq=> ?_) (fun v9 hv=>by obtain⟨_,h9,_⟩:=hv;cases h9)
 obtain⟨_,h9,rfl,rfl⟩:=hq
 cases h9
 refine rCtx [Own.box b1 ae x14,Own.vec v7 rApiNode x9 48] ?_
 refine a8 al74 fun b15=>ak 2 rfl rfl (Upd.refl _) rfl Tryz.sizeOf74 (W_rs (kMv rfl ?_))
 rcases a5 h1l with⟨m29,hm29,h1l⟩|⟨⟨x16,x17⟩,hx16,h1l⟩
 ·refine bn [0] (db x14 b1 _ hm29) ⟨aa,trivial⟩ (fun q C' hq=> ?_) (fun v9 hv=> ?_)
  ·obtain⟨_,h9,_⟩:=hq;cases h9
  obtain⟨_,h9,rfl⟩:=hv
  cases h9
  have h:some (.bad m29)=some r:=congrArg some (ho1 _ (Option.some.inj h1l).symm)
  obtain rfl:=osj h
  exact .inr ⟨_,rfl,_,rfl,rfl⟩
 refine bn [0] (db x14 b1 _ hx16) ⟨aa,trivial⟩ (fun q C' hq=> ?_) (fun v9 hv=>by obtain⟨_,h9,_⟩:=hv;cases h9)
 obtain⟨_,h9,rfl,rfl⟩:=hq
 cases h9
 refine rCtx [Own.box b1 ae x17,Own.vec v7 rApiNode x9 48,Own.box b15 ah x13] ?_
 refine a8 al74 fun b18=>ak 3 rfl rfl (Upd.refl _) rfl Tryz.sizeOf74 ?_
 refine bj (fun e C=>∃(x22:List ApiNode),∃(v23:Value),jh x17 x22=some w1l/\At [(0,aj b1 0),(3,Pr.is v23)] [Own.box b1 ae x17,Own.vec v23 rApiNode x22 48,Own.box b15 ah x13,Own.box b18 ah x16] e C) ?_ ?_
 ·rintro e C ⟨x22,v23,h1l,hat2⟩
  refine W_at hat2 ?_
  unfold jh at h1l
  refine az (W_rs (kMv rfl ?_))
  obtain⟨⟨x24,x25⟩,hx24,h1l⟩:=af h1l
  refine jp [0] (cd ([41]:List UInt8) x17 b1 _ hx24) (fun q C' hq=> ?_)
  obtain⟨rfl,rfl⟩:=hq
  refine rCtx [Own.box b1 ae x25,Own.vec v23 rApiNode x22 48,Own.box b15 ah x13,Own.box b18 ah x16] ?_
  refine a7 h1l rfl (fun _ h1l=> ?_) (fun _ h1l=> ?_)
  ·refine W_rs (kMv rfl (kAs rfl ?_))
   have h:some (.ok (x22,x25))=some r:=congrArg some (ho1 _ (Option.some.inj h1l).symm)
   obtain rfl:=osj h
   exact ax (.inl ⟨.inl rfl,_,Pick.of [1,0] rfl,_,(aa),_,rfl,v23,rfl,rfl⟩)
  refine ar (W_r (kMv rfl ?_))
  rcases a5 h1l with⟨m28,hm28,h1l⟩|⟨x27,hx27,h1l⟩
  ·refine bn [0] (aq ([44]:List UInt8) x25 b1 _ hm28) ⟨aa,aa,trivial⟩ (fun q C' hq=> ?_) (fun v9 hv=> ?_)
   ·obtain⟨_,h9,_⟩:=hq;cases h9
   obtain⟨_,h9,rfl⟩:=hv
   cases h9
   have h:some (.bad m28)=some r:=congrArg some (ho1 _ (Option.some.inj h1l).symm)
   obtain rfl:=osj h
   exact .inr ⟨_,rfl,_,rfl,rfl⟩
  refine bn [0] (aq ([44]:List UInt8) x25 b1 _ hx27) ⟨aa,aa,trivial⟩ (fun q C' hq=> ?_) (fun v9 hv=>by obtain⟨_,h9,_⟩:=hv;cases h9)
  obtain⟨_,h9,rfl,rfl⟩:=hq
  cases h9
  refine rCtx [Own.box b1 ae x27,Own.vec v23 rApiNode x22 48,Own.box b15 ah x13,Own.box b18 ah x16] ?_
  exact⟨m1,Nat.lt_succ_self _,x27,x22,v23,hn1 _ (Option.some.inj h1l).symm,⟨⟨aa,aa,trivial⟩,Pick.of [0,1] rfl⟩⟩
 refine ib 9 hmx (by kernel_rfl) (by kernel_rfl) ?_
 refine lUn (hMvA rfl) (lUn (hMvA rfl) (lUn (hMvA rfl) ?_))
 obtain⟨x19,hx19,h1l⟩:=af h1l
 refine lUn (qMade 0 hx19 (cv _)) ?_
 refine lUn (bb 3 ty74 (Sub.refl _)) ?_
 obtain⟨x20,hx20,h1l⟩:=af h1l
 refine lUn (dl (km x19 x16 _ hx20)) ?_
 refine lUn (bb 2 ty74 (Sub.refl _)) ?_
 obtain⟨x21,hx21,h1l⟩:=af h1l
 refine lUn (dl (parse_typed_ok x20 x13 _ hx21)) ?_
 refine lUn (bt (R:=rApiNode) (a:=x21) el44 (Nat.le_of_ble_eq_true rfl)) ?_
 obtain⟨x22,hx22,h1l⟩:=af h1l
 refine fg 1 el44 hx22 (fun v23=> ?_)
 refine kAs rfl ?_
 exact⟨x22,v23,h1l,atOk⟩
theorem parse_parser_ahead_ok (x1:ParseParser) (x2:Int) (r:ApiToken) (h:lm x1 x2=some r):FnP Tryz.prog 129 [f5 ae x1,Pr.i64 x2] ((ah).val r):=by
 refine ep (rs:=[.cell 4 74]) Tryz.func129 rfl Tryz.ntmps129 Tryz.results129 (by decide) (fun s0=> ?_)
 unfold lm at h
 refine W_rs (a8 al74 fun b3=> ?_)
 refine bj (fun e C=>∃(x4:ApiToken),lq x4=some r/\At [(4,aj b3 0)] [Own.box b3 ah x4] e C) ?_ ?_
 ·rintro e C ⟨x4,h,hat1⟩
  refine W_at hat1 ?_
  unfold lq at h
  obtain rfl:=osj h
  exact ax ⟨rfl,[(ah).val x4],⟨yBox 0 ty74 aa,trivial⟩,aa⟩
 refine ib 19 hmx (by kernel_rfl) (by kernel_rfl) ?_
 refine lUn (hMvC rfl) (lUn (qNilC rfl) (lUn (de fld103_0 subParseParser_t) ?_))
 refine lUn (cw ty70) ?_
 refine lUn (hMvC rfl) (lUn (qNilC rfl) (lUn (de fld103_1 subParseParser_at) ?_))
 refine lUn (cw ty3) ?_
 refine lUn (hMvA rfl) (lUn (qInt rfl rfl rfl) (lUn (hMvC rfl) (lUn (qNilC rfl) (lUn (de fld103_0 subParseParser_t) ?_))))
 refine lUn (cw ty70) ?_
 refine lUn (mt rfl Tryz.underlying70) ?_
 refine lUn (qInt rfl rfl rfl) (lUn (qMin (a:=w64 (x1.at_+x2)) (b:=w64 ((x1.t.length:Int) - 1))) ?_)
 obtain⟨x4,hx4,h⟩:=af h
 refine lUn (fi Tryz.underlying70 Tryz.sizeOf74 hx4) ?_
 refine lUn (cw ty74) ?_
 refine ak 0 rfl rfl (Upd.refl _) rfl Tryz.sizeOf74 ?_
 exact⟨x4,h,atOk⟩
theorem parse_parser_isLocal_ok (x1:ParseParser) (r:Bool) (h:ei x1=some r):FnP Tryz.prog 110 [f5 ae x1] (Pr.bool r):=by
 refine cm (rs:=[2]) Tryz.func110 rfl Tryz.ntmps110 ⟨by decide,Tryz.results110⟩ (by decide) (fun s0=> ?_)
 unfold ei at h
 refine W_rs (kAs rfl (W_rs (kMvC rfl (cg h (dz x1) rfl fun x2 _ h=> ?_))))
 refine a8 al74 fun b3=>ak 0 rfl rfl (Upd.refl _) rfl Tryz.sizeOf74 ?_
 refine bj (fun e C=>∃(x8:Bool),fm x8=some r/\At [(2,Pr.bool x8)] [Own.box b3 ah x2] e C) ?_ ?_
 ·rintro e C ⟨x8,h,hat1⟩
  refine W_at hat1 ?_
  unfold fm at h
  obtain rfl:=osj h
  exact ax ⟨rfl,aa⟩
 refine W_r (kUn (bb 0 ty74 (Sub.refl _)) ?_)
 refine cg h (parse_isType_ok x2) rfl fun x4 _ h=>kMv rfl ?_
 rcases bd h with⟨hc5,h⟩|⟨hc5,h⟩
 ·refine kGd rfl aa hc5 (av qc) ?_
  refine kGd rfl aa hc5 (bb 0 ty3 dn) ?_
  refine kGd rfl aa hc5 (qInt rfl rfl rfl) (kGd rfl aa hc5 (hMvA rfl) ?_)
  rcases bd h with⟨hc6,h⟩|⟨hc6,h⟩
  ·refine kSkF rfl aa hc6 (kSkF rfl aa hc6 (kSkF rfl aa hc6 (kSkF rfl aa hc6 (kGd rfl aa hc5 (hPt rfl hc6 rfl) (kPt rfl hc5 rfl (kAs rfl ?_))))))
   exact⟨true,h,atOk⟩
  refine kGd rfl aa hc6 (hMvC rfl) ?_
  obtain⟨x7,hx7,h⟩:=af h
  refine kGd rfl aa hc6 (dl (parse_parser_ahead_ok x1 1 _ hx7)) ?_
  refine kGd rfl aa hc6 (qField rfl qc dn (Nat.le_of_ble_eq_true rfl)) ?_
  refine kGd rfl aa hc6 (qInt rfl rfl rfl) (kGd rfl aa hc5 (hPf rfl hc6 rfl) (kPt rfl hc5 rfl (kAs rfl ?_)))
  exact⟨x7.Kind==1,h,atOk⟩
 refine kSkT rfl aa hc5 (kSkT rfl aa hc5 (kSkT rfl aa hc5 (kSkT rfl aa hc5 (kSkU rfl aa (kSkU rfl aa (kSkU rfl aa (kSkU rfl aa (kSkT rfl aa hc5 (kPf rfl hc5 rfl (kAs rfl ?_))))))))))
 exact⟨false,h,atOk⟩
theorem parse_binds_ok (x1:ApiToken) (r:Int) (h:f2 x1=some r):FnP Tryz.prog 151 [(ah).val x1] (Pr.i64 r):=by
 refine cm (rs:=[2]) Tryz.func151 rfl Tryz.ntmps151 ⟨by decide,Tryz.results151⟩ (by decide) (fun s0=> ?_)
 unfold f2 at h
 refine W_rs ?_
 refine rBox (R:=ah) (a:=x1) rfl (fun b2=> ?_)
 refine kAs rfl (az (W_rs (kUn (av qc) ?_)))
 refine kUn (bb 0 ty3 dn) ?_
 refine kIn rfl rfl rfl ?_
 refine a7 h rfl (fun _ h=> ?_) (fun _ h=> ?_)
 ·refine W_rs (kAs rfl ?_)
  obtain rfl:=osj h
  exact ax ⟨rfl,aa⟩
 refine ar (az (W_rs (kUn (av fld74_1) ?_)))
 refine kUn (bb 0 ty9 subApiToken_Text) ?_
 refine a4 (W_rs (kSt rfl rfl rfl (kAs rfl ?_)))
 refine a7 h rfl (fun _ h=> ?_) (fun _ h=> ?_)
 ·refine W_rs (kAs rfl ?_)
  obtain rfl:=osj h
  exact ax ⟨rfl,aa⟩
 refine W_rs (kSt rfl rfl rfl (kAs rfl ?_))
 refine a7 h rfl (fun _ h=> ?_) (fun _ h=> ?_)
 ·refine W_rs (kAs rfl ?_)
  obtain rfl:=osj h
  exact ax ⟨rfl,aa⟩
 refine bj (fun e C=>∃(x7:Bool),l8 x1 x7=some r/\At [(7,ba x1.Text),(12,Pr.bool x7)] [Own.box b2 ah x1] e C) ?_ ?_
 ·rintro e C ⟨x7,h,hat4⟩
  refine W_at hat4 ?_
  unfold l8 at h
  refine a7 h rfl (fun _ h=> ?_) (fun _ h=> ?_)
  ·refine W_rs (kAs rfl ?_)
   obtain rfl:=osj h
   exact ax ⟨rfl,aa⟩
  refine bj (fun e C=>∃(x12:Bool),jl x1 x12=some r/\At [(7,ba x1.Text),(15,Pr.bool x12)] [Own.box b2 ah x1] e C) ?_ ?_
  ·rintro e C ⟨x12,h,hat3⟩
   refine W_at hat3 ?_
   unfold jl at h
   refine a7 h rfl (fun _ h=> ?_) (fun _ h=> ?_)
   ·refine W_rs (kAs rfl ?_)
    obtain rfl:=osj h
    exact ax ⟨rfl,aa⟩
   refine bj (fun e C=>∃(x15:Bool),l9 x1 x15=some r/\At [(7,ba x1.Text),(20,Pr.bool x15)] [Own.box b2 ah x1] e C) ?_ ?_
   ·rintro e C ⟨x15,h,hat2⟩
    refine W_at hat2 ?_
    unfold l9 at h
    refine a7 h rfl (fun _ h=> ?_) (fun _ h=> ?_)
    ·refine W_rs (kAs rfl ?_)
     obtain rfl:=osj h
     exact ax ⟨rfl,aa⟩
    refine bj (fun e C=>∃(x19:Bool),kn x19=some r/\At [(23,Pr.bool x19)] [Own.box b2 ah x1] e C) ?_ ?_
    ·rintro e C ⟨x19,h,hat1⟩
     refine W_at hat1 ?_
     unfold kn at h
     refine a7 h rfl (fun _ h=> ?_) (fun _ h=> ?_)
     ·refine W_rs (kAs rfl ?_)
      obtain rfl:=osj h
      exact ax ⟨rfl,aa⟩
     refine ar (W_rs (kAs rfl ?_))
     obtain rfl:=osj h
     exact ax ⟨rfl,aa⟩
    refine W_rs (kSt rfl rfl rfl (kAs rfl ?_))
    refine a7 h rfl (fun _ h=> ?_) (fun _ h=> ?_)
    ·refine ar ?_
     exact⟨x1.Text==([42]:List UInt8),h,atOk⟩
    refine W_rs (kSt rfl rfl rfl (kAs rfl ?_))
    refine a7 h rfl (fun _ h=> ?_) (fun _ h=> ?_)
    ·refine ar ?_
     exact⟨x1.Text==([47]:List UInt8),h,atOk⟩
    refine W_r (kSt rfl rfl rfl (kAs rfl ?_))
    exact⟨x1.Text==([37]:List UInt8),h,atOk⟩
   refine W_rs (kSt rfl rfl rfl (kAs rfl ?_))
   refine a7 h rfl (fun _ h=> ?_) (fun _ h=> ?_)
   ·refine ar ?_
    exact⟨x1.Text==([43]:List UInt8),h,atOk⟩
   refine W_r (kSt rfl rfl rfl (kAs rfl ?_))
   exact⟨x1.Text==([45]:List UInt8),h,atOk⟩
  refine W_rs (kSt rfl rfl rfl (kAs rfl ?_))
  refine a7 h rfl (fun _ h=> ?_) (fun _ h=> ?_)
  ·refine ar ?_
   exact⟨x1.Text==([60]:List UInt8),h,atOk⟩
  refine W_rs (kSt rfl rfl rfl (kAs rfl ?_))
  refine a7 h rfl (fun _ h=> ?_) (fun _ h=> ?_)
  ·refine ar ?_
   exact⟨x1.Text==([60,61]:List UInt8),h,atOk⟩
  refine W_rs (kSt rfl rfl rfl (kAs rfl ?_))
  refine a7 h rfl (fun _ h=> ?_) (fun _ h=> ?_)
  ·refine ar ?_
   exact⟨x1.Text==([62]:List UInt8),h,atOk⟩
  refine W_r (kSt rfl rfl rfl (kAs rfl ?_))
  exact⟨x1.Text==([62,61]:List UInt8),h,atOk⟩
 refine W_rs (kSt rfl rfl rfl (kAs rfl ?_))
 refine a7 h rfl (fun _ h=> ?_) (fun _ h=> ?_)
 ·refine ar ?_
  exact⟨x1.Text==([61,61]:List UInt8),h,atOk⟩
 refine W_r (kSt rfl rfl rfl (kAs rfl ?_))
 exact⟨x1.Text==([33,61]:List UInt8),h,atOk⟩
theorem iv (x1:Int) (x3:ParseParser) (b2:Nat) (r:PX ParseWrong ParseParser) (h:ec x1 x3=some r):FnX Tryz.prog 130 [aj b2 0,Pr.i64 x1] [Own.box b2 ae x3] (fun q C'=>∃a9,r= .ok a9/\q=ce []/\C'=[Own.box b2 ae a9]) (fun v=>∃m,r= .bad m/\v=fo m):=by
 refine fnx_introP (rs:=[]) Tryz.func130 rfl Tryz.ntmps130 ⟨by decide,Tryz.results130⟩ (by decide) (fun s0=> ?_)
 unfold ec at h
 refine W_rs (kMv rfl (kIn rfl rfl rfl ?_))
 refine a7 h rfl (fun _ h=> ?_) (fun _ h=> ?_)
 ·refine W_r (kMv rfl ?_)
  rcases a5 h with⟨m6,hm6,h⟩|⟨x5,hx5,h⟩
  ·refine bn [0] (cr 2 x3 b2 _ hm6) ⟨aa,aa,trivial⟩ (fun q C' hq=> ?_) (fun v9 hv=> ?_)
   ·obtain⟨_,h9,_⟩:=hq;cases h9
   obtain⟨_,h9,rfl⟩:=hv
   cases h9
   obtain rfl:=osj h
   exact .inr ⟨_,rfl,_,rfl,rfl⟩
  refine bn [0] (cr 2 x3 b2 _ hx5) ⟨aa,aa,trivial⟩ (fun q C' hq=> ?_) (fun v9 hv=>by obtain⟨_,h9,_⟩:=hv;cases h9)
  obtain⟨_,h9,rfl,rfl⟩:=hq
  cases h9
  refine rCtx [Own.box b2 ae x5] ?_
  obtain rfl:=osj h
  exact(.inl ⟨.inr rfl,_,Pick.refl _,_,aa,_,rfl,rfl,rfl⟩)
 refine ar ?_
 obtain rfl:=osj h
 exact(.inl ⟨.inr rfl,_,Pick.refl _,_,aa,_,rfl,rfl,rfl⟩)
theorem parse_words_ok (r:(SMap ApiNode)) (h:parse_words=some r):FnP Tryz.prog 175 [] (Pr.mapS rApiNode r):=by
 refine cm (rs:=[0]) Tryz.func175 rfl Tryz.ntmps175 ⟨by decide,Tryz.results175⟩ (by decide) (fun s0=> ?_)
 unfold parse_words at h
 refine W_rs (kAs rfl (W_rs ?_))
 refine rMakeMap rApiNode (fun b1=> ?_)
 refine kUn (du au st48 ⟨(ApiNode.mk 14 [] [] 0 0 0 0 0 []),⟨_,rfl,rfl,fun j fd hj hf=>by match j,hj with| 0,h=>exact absurd rfl h| 1,_=>cases hf;rfl| 2,_=>cases hf;rfl| 3,_=>cases hf;rfl| 4,_=>cases hf;rfl| 5,_=>cases hf;rfl| 6,_=>cases hf;rfl| 7,_=>cases hf;rfl| 8,_=>cases hf;rfl|_+9,_=>cases hf⟩,⟨(ApiNode.mk 14 [] [] 1 0 0 0 0 []),⟨_,rfl,rfl,fun j fd hj hf=>by match j,hj with| 0,_=>cases hf;rfl| 1,_=>cases hf;rfl| 2,_=>cases hf;rfl| 3,h=>exact absurd rfl h| 4,_=>cases hf;rfl| 5,_=>cases hf;rfl| 6,_=>cases hf;rfl| 7,_=>cases hf;rfl| 8,_=>cases hf;rfl|_+9,_=>cases hf⟩,rfl⟩⟩) ?_
 refine rMapIns (R:=rApiNode) (m:=([]:SMap ApiNode)) (kx:=([116,114,117,101]:List UInt8)) (v:=(ApiNode.mk 14 [] [] 1 0 0 0 0 [])) 0 Tryz.underlying184 Tryz.underlying9 ?_
 refine kUn (du au st48 ⟨(ApiNode.mk 14 [] [] 0 0 0 0 0 []),⟨_,rfl,rfl,fun j fd hj hf=>by match j,hj with| 0,h=>exact absurd rfl h| 1,_=>cases hf;rfl| 2,_=>cases hf;rfl| 3,_=>cases hf;rfl| 4,_=>cases hf;rfl| 5,_=>cases hf;rfl| 6,_=>cases hf;rfl| 7,_=>cases hf;rfl| 8,_=>cases hf;rfl|_+9,_=>cases hf⟩,rfl⟩) ?_
 refine rMapIns (R:=rApiNode) (m:=(mset ([116,114,117,101]:List UInt8) (ApiNode.mk 14 [] [] 1 0 0 0 0 []) ([]:SMap ApiNode))) (kx:=([102,97,108,115,101]:List UInt8)) (v:=(ApiNode.mk 14 [] [] 0 0 0 0 0 [])) 0 Tryz.underlying184 Tryz.underlying9 ?_
 refine kUn (du au st48 ⟨(ApiNode.mk 15 [] [] 0 0 0 0 0 []),⟨_,rfl,rfl,fun j fd hj hf=>by match j,hj with| 0,h=>exact absurd rfl h| 1,_=>cases hf;rfl| 2,_=>cases hf;rfl| 3,_=>cases hf;rfl| 4,_=>cases hf;rfl| 5,_=>cases hf;rfl| 6,_=>cases hf;rfl| 7,_=>cases hf;rfl| 8,_=>cases hf;rfl|_+9,_=>cases hf⟩,rfl⟩) ?_
 refine rMapIns (R:=rApiNode) (m:=(mset ([102,97,108,115,101]:List UInt8) (ApiNode.mk 14 [] [] 0 0 0 0 0 []) (mset ([116,114,117,101]:List UInt8) (ApiNode.mk 14 [] [] 1 0 0 0 0 []) ([]:SMap ApiNode)))) (kx:=([110,117,108,108]:List UInt8)) (v:=(ApiNode.mk 15 [] [] 0 0 0 0 0 [])) 0 Tryz.underlying184 Tryz.underlying9 ?_
 refine kUn (du au st48 ⟨(ApiNode.mk 16 [] [] 0 0 0 0 0 []),⟨_,rfl,rfl,fun j fd hj hf=>by match j,hj with| 0,h=>exact absurd rfl h| 1,_=>cases hf;rfl| 2,_=>cases hf;rfl| 3,_=>cases hf;rfl| 4,_=>cases hf;rfl| 5,_=>cases hf;rfl| 6,_=>cases hf;rfl| 7,_=>cases hf;rfl| 8,_=>cases hf;rfl|_+9,_=>cases hf⟩,rfl⟩) ?_
 refine rMapIns (R:=rApiNode) (m:=(mset ([110,117,108,108]:List UInt8) (ApiNode.mk 15 [] [] 0 0 0 0 0 []) (mset ([102,97,108,115,101]:List UInt8) (ApiNode.mk 14 [] [] 0 0 0 0 0 []) (mset ([116,114,117,101]:List UInt8) (ApiNode.mk 14 [] [] 1 0 0 0 0 []) ([]:SMap ApiNode))))) (kx:=([116,104,105,115]:List UInt8)) (v:=(ApiNode.mk 16 [] [] 0 0 0 0 0 [])) 0 Tryz.underlying184 Tryz.underlying9 ?_
 refine kUn (hMv (out:=Pr.mp b1) rfl) (kUn (hAs (out:=Pr.mp b1) rfl) ?_)
 refine W_relM 0 [0] ?_ rfl ⟨rfl,trivial⟩
 obtain rfl:=osj h
 exact ax ⟨rfl,aa⟩
end Go.Proofs.YteablckbgpogiaaGreatDoor
