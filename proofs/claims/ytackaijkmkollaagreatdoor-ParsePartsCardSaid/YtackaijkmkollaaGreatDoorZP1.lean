/- The code comes to what these functions say (printed by wip/gen/gen.py). -/
import Derived.Test.YtackaijkmkollaaGreatDoorZP
import Derived.Test.YtackaijkmkollaaGreatDoorZT
set_option linter.unusedSimpArgs false
set_option linter.unusedVariables false
set_option linter.unusedSectionVars false
set_option linter.unusedSectionVars false
set_option maxRecDepth 100000
set_option maxHeartbeats 4000000
namespace Go.Proofs.YtackaijkmkollaaGreatDoor
open Go Go.Cn
variable [Known]
theorem cc (x1:ParseParser) (r:ApiToken) (h:bb x1=some r):FnP Tryz.prog 22 [br ae x1] ((af).val r):=by
 refine j4 (n:=13) (rs:=[.cell 2 37]) Tryz.func22 rfl Tryz.ntmps22 Tryz.results22 (by decide) (fun s0=> ?_)
 unfold bb at h
 refine W_rs ?_
 refine bi (R:=af) (z:=(ApiToken.mk 0 [] 0 [])) Tryz.zeroValue37 (fun _=>⟨_,⟨_,_,rfl,rfl,⟨_,_,rfl,rfl,⟨_,_,rfl,rfl,⟨_,_,rfl,rfl,rfl⟩⟩⟩⟩,rfl⟩) (fun b2=> ?_)
 refine cd (fun e C=>∃(x3:ApiToken),jk x3=some r/\At [(2,al b2 0)] [Own.box b2 af x3] e C) ?_ ?_
 ·rintro e C ⟨x3,h,hat1⟩
  refine W_at hat1 ?_
  clear hat1
  unfold jk at h
  obtain rfl:=Option.some.inj h
  exact bp ⟨rfl,[(af).val x3],⟨yBox 0 ty37 aa,trivial⟩,aa⟩
 refine W_draw 10 hmx (by kernel_rfl) (by kernel_rfl) ?_
 refine qq (out:=br ae x1) ai ?_
 refine qq (out:=br ae x1) qNilC ?_
 refine qq (out:=br (ba af) x1.t) (qFieldC (R:=ae) (a:=x1) fld65_0 subParseParser_t) ?_
 refine qq (out:=av af x1.t) (gr (R:=ba af) (a:=x1.t) ty33) ?_
 refine qq (out:=br ae x1) ai ?_
 refine qq (out:=br ae x1) qNilC ?_
 refine qq (out:=br (Rp.int .i64) x1.at_) (qFieldC (R:=ae) (a:=x1) fld65_1 subParseParser_at) ?_
 refine qq (out:=Pr.i64 x1.at_) (gr (R:=Rp.int .i64) (a:=x1.at_) ty3) ?_
 obtain⟨x3,hx3,h⟩:=ak h
 refine qq (out:=br af x3) (qIdxA (R:=af) (l:=x1.t) Tryz.underlying33 Tryz.sizeOf37 hx3) ?_
 refine qq (out:=(af).val x3) (gr (R:=af) (a:=x3) ty37) ?_
 refine a5 (R:=af) (R':=af) (a:=(ApiToken.mk 0 [] 0 [])) (y:=x3) 0 Tryz.sizeOf37 (Upd.refl _) ?_
 exact⟨x3,h,⟨⟨aa,trivial⟩,Pick.refl _⟩⟩
theorem bd (x1:Int) (x3:ParseParser) (b2:Nat) (r:PX ParseWrong ParseParser) (h:bn x1 x3=some r):FnX Tryz.prog 38 [al b2 0,Pr.i64 x1] [Own.box b2 ae x3] (fun q C'=>∃a9,r= .ok a9/\q=cj []/\C'=[Own.box b2 ae a9]) (fun v=>∃m,r= .bad m/\v=cv m):=by
 refine fnx_introP (n:=11) (rs:=[]) Tryz.func38 rfl Tryz.ntmps38 ⟨by decide,Tryz.results38⟩ (by decide) (fun s0=> ?_)
 unfold bn at h
 refine W_r ?_
 refine rq (out:=Pr.i64 x1) ai ?_
 refine rq (out:=al b2 0) ai ?_
 obtain⟨x4,hx4,h⟩:=ak h
 refine rq (out:=(af).val x4) (qCallBx 0 (cc x3 _ hx4) ⟨.inr ⟨aa,rfl⟩,trivial⟩ (fun _ _ _ h=>Flat.val gk _ _ _ _ h)) ?_
 refine rq (out:=Pr.i64 x4.At) (qField (R:=af) (R':=Rp.int .i64) (a:=x4) rfl fld37_2 subApiToken_At (Nat.le_of_ble_eq_true rfl)) ?_
 refine rq (out:=(ah).val (ApiMistake.mk x1 0 x4.At)) (qBuild st27 ⟨(ApiMistake.mk x1 0 0),⟨_,rfl,rfl,fun j fd hj hf=>by match j,hj with| 0,h=>exact absurd rfl h| 1,_=>cases hf;rfl| 2,_=>cases hf;rfl|_+3,_=>cases hf⟩,⟨(ApiMistake.mk x1 0 x4.At),⟨_,rfl,rfl,fun j fd hj hf=>by match j,hj with| 0,_=>cases hf;rfl| 1,_=>cases hf;rfl| 2,h=>exact absurd rfl h|_+3,_=>cases hf⟩,rfl⟩⟩) ?_
 refine rq (out:=(dw).val (ParseWrong.mk (ApiMistake.mk x1 0 x4.At))) (qBuild st62 ⟨(ParseWrong.mk (ApiMistake.mk x1 0 x4.At)),⟨_,rfl,rfl,fun j fd hj hf=>by match j,hj with| 0,h=>exact absurd rfl h|_+1,_=>cases hf⟩,rfl⟩) ?_
 refine rq (out:=Pr.ifc 62 ((dw).val (ParseWrong.mk (ApiMistake.mk x1 0 x4.At)))) (qMkIfc Tryz.underlying62 rfl) ?_
 refine rPanic (p:=Pr.ifc 62 ((dw).val (ParseWrong.mk (ApiMistake.mk x1 0 x4.At)))) (Die:=fun v=>v=cv (ParseWrong.mk (ApiMistake.mk x1 0 x4.At))) (wrong_plain _) ?_ aa
 rintro _ rfl
 obtain rfl:=Option.some.inj h
 exact .inr ⟨_,rfl,_,rfl,rfl⟩
theorem ku (x1:ApiToken) (x2:List UInt8) (r:Bool) (h:jh x1 x2=some r):FnP Tryz.prog 53 [(af).val x1,ar x2] (Pr.bool r):=by
 refine de (n:=19) (rs:=[4]) Tryz.func53 rfl Tryz.ntmps53 ⟨by decide,Tryz.results53⟩ (by decide) (fun s0=> ?_)
 unfold jh at h
 refine W_rs ?_
 refine rBox (R:=af) (a:=x1) rfl (fun b3=> ?_)
 refine rq (out:=Pr.bool false) aj ?_
 refine cd (fun e C=>∃(x6:Bool),jt x6=some r/\At [(4,Pr.bool x6)] [Own.box b3 af x1] e C) ?_ ?_
 ·rintro e C ⟨x6,h,hat1⟩
  refine W_at hat1 ?_
  clear hat1
  unfold jt at h
  obtain rfl:=Option.some.inj h
  exact bp ⟨rfl,aa⟩
 refine W_r ?_
 refine rq (out:=al b3 1) (a3 fld37_1) ?_
 refine rq (out:=ar x1.Text) (a7 (R:=af) (a:=x1) (R':=bh) 0 ty9 subApiToken_Text) ?_
 refine rq (out:=ar x2) ai ?_
 refine rq (out:=Pr.bool (x1.Text==x2)) qStr ?_
 refine rq (out:=Pr.bool (x1.Text==x2)) ai ?_
 rcases bk h with⟨hc4,h⟩|⟨hc4,h⟩
 ·refine rqg hc4 (out:=al b3 0) (a3 fld37_0) ?_
  refine rqg hc4 (out:=Pr.i64 x1.Kind) (a7 (R:=af) (a:=x1) (R':=Rp.int .i64) 0 ty3 di) ?_
  refine rqg hc4 (out:=Pr.bool (x1.Kind==4)) qInt ?_
  refine rqg hc4 (out:=Pr.bool (x1.Kind==4)) ai ?_
  rcases bk h with⟨hc5,h⟩|⟨hc5,h⟩
  ·refine rno (neF hc5) ?_
   refine rno (neF hc5) ?_
   refine rno (neF hc5) ?_
   refine rqg hc4 (out:=Pr.bool true) (bg hc5) ?_
   refine rq (out:=Pr.bool true) (bg hc4) ?_
   refine rq (out:=Pr.bool true) aj ?_
   exact⟨true,h,⟨⟨aa,trivial⟩,Pick.refl _⟩⟩
  refine rqg hc5 (out:=al b3 0) (a3 fld37_0) ?_
  refine rqg hc5 (out:=Pr.i64 x1.Kind) (a7 (R:=af) (a:=x1) (R':=Rp.int .i64) 0 ty3 di) ?_
  refine rqg hc5 (out:=Pr.bool (x1.Kind==3)) qInt ?_
  refine rqg hc4 (out:=Pr.bool (x1.Kind==3)) (ax hc5) ?_
  refine rq (out:=Pr.bool (x1.Kind==3)) (bg hc4) ?_
  refine rq (out:=Pr.bool (x1.Kind==3)) aj ?_
  exact⟨x1.Kind==3,h,⟨⟨aa,trivial⟩,Pick.refl _⟩⟩
 refine rno (neT hc4) ?_
 refine rno (neT hc4) ?_
 refine rno (neT hc4) ?_
 refine rno (neT hc4) ?_
 refine rnoU ?_
 refine rnoU ?_
 refine rnoU ?_
 refine rno (neT hc4) ?_
 refine rq (out:=Pr.bool false) (ax hc4) ?_
 refine rq (out:=Pr.bool false) aj ?_
 exact⟨false,h,⟨⟨aa,trivial⟩,Pick.refl _⟩⟩
theorem parse_parser_is_ok (x1:ParseParser) (x2:List UInt8) (r:Bool) (h:jb x1 x2=some r):FnP Tryz.prog 62 [br ae x1,ar x2] (Pr.bool r):=by
 refine de (n:=9) (rs:=[4]) Tryz.func62 rfl Tryz.ntmps62 ⟨by decide,Tryz.results62⟩ (by decide) (fun s0=> ?_)
 unfold jb at h
 refine W_rs ?_
 refine rq (out:=Pr.bool false) aj ?_
 refine W_rs ?_
 refine rq (out:=br ae x1) ai ?_
 obtain⟨x3,hx3,h⟩:=ak h
 refine rq (out:=(af).val x3) (dt (cc x1 _ hx3)) ?_
 refine rq (out:=ar x2) ai ?_
 obtain⟨x4,hx4,h⟩:=ak h
 refine rq (out:=Pr.bool x4) (dt (ku x3 x2 _ hx4)) ?_
 refine rq (out:=Pr.bool x4) aj ?_
 obtain rfl:=Option.some.inj h
 exact bp ⟨rfl,aa⟩
theorem a6 (x1:List UInt8) (x3:ParseParser) (b2:Nat) (r:Bool × ParseParser) (h:a4 x1 x3=some r):FnC Tryz.prog 42 [al b2 0,ar x1] [Own.box b2 ae x3] (fun q C'=>q=Pr.bool r.1/\C'=[Own.box b2 ae r.2]):=by
 refine fnc_introP (n:=16) (rs:=[4]) Tryz.func42 rfl Tryz.ntmps42 ⟨by decide,Tryz.results42⟩ (by decide) (fun s0=> ?_)
 unfold a4 at h
 refine W_rs ?_
 refine rq (out:=Pr.bool false) aj ?_
 refine c0 ?_
 refine W_rs ?_
 refine rq (out:=al b2 0) ai ?_
 refine rq (out:=ar x1) ai ?_
 obtain⟨x4,hx4,h⟩:=ak h
 refine rq (out:=Pr.bool x4) (qCallBx 0 (parse_parser_is_ok x3 x1 _ hx4) ⟨.inr ⟨aa,rfl⟩,.inl aa,trivial⟩ (fun _ _ _ h=>h)) ?_
 refine rq (out:=Pr.bool (!x4)) qNot ?_
 refine a8 (b:= !x4) rfl (fun hc5=> ?_) (fun hc5=> ?_)
 ·replace h:=iteT hc5 h
  refine W_rs ?_
  refine rq (out:=Pr.bool false) aj ?_
  obtain rfl:=Option.some.inj h
  exact bp ⟨.inl rfl,_,Pick.refl _,_,(aa),rfl,rfl⟩
 replace h:=iteF hc5 h
 refine bj ?_
 refine W_rs ?_
 refine rq (out:=al b2 0) ai ?_
 refine rq (out:=al b2 0) qNilP ?_
 refine rq (out:=al b2 1) (a3 fld65_1) ?_
 refine rq (out:=Pr.i64 x3.at_) (a7 (R:=ae) (a:=x3) (R':=Rp.int .i64) 0 ty3 subParseParser_at) ?_
 refine rq (out:=Pr.i64 (w64 (x3.at_+1))) qInt ?_
 refine rq (out:=al b2 0) qNilP ?_
 refine rq (out:=al b2 1) (a3 fld65_1) ?_
 refine a5 (R:=ae) (R':=Rp.int .i64) (a:=x3) (y:=w64 (x3.at_+1)) 0 Tryz.sizeOf3 updParseParser_at ?_
 refine W_rs ?_
 refine rq (out:=Pr.bool true) aj ?_
 obtain rfl:=Option.some.inj h
 exact bp ⟨.inl rfl,_,Pick.refl _,_,(aa),rfl,rfl⟩
theorem ao (x1:List UInt8) (x3:ParseParser) (b2:Nat) (r:PX ParseWrong ParseParser) (h:ay x1 x3=some r):FnX Tryz.prog 40 [al b2 0,ar x1] [Own.box b2 ae x3] (fun q C'=>∃a9,r= .ok a9/\q=cj []/\C'=[Own.box b2 ae a9]) (fun v=>∃m,r= .bad m/\v=cv m):=by
 refine fnx_introP (n:=10) (rs:=[]) Tryz.func40 rfl Tryz.ntmps40 ⟨by decide,Tryz.results40⟩ (by decide) (fun s0=> ?_)
 unfold ay at h
 refine W_rs ?_
 refine rq (out:=al b2 0) ai ?_
 refine rq (out:=ar x1) ai ?_
 obtain⟨⟨x4,x5⟩,hx4,h⟩:=ak h
 refine i7 [0] (a6 x1 x3 b2 _ hx4) (fun q C' hq=> ?_)
 obtain⟨rfl,rfl⟩:=hq
 refine rCtx [Own.box b2 ae x5] ?_
 refine rq (out:=Pr.bool (!x4)) qNot ?_
 refine a8 (b:= !x4) rfl (fun hc6=> ?_) (fun hc6=> ?_)
 ·replace h:=iteT hc6 h
  refine W_r ?_
  refine rq (out:=al b2 0) ai ?_
  rcases aq h with⟨m8,hm8,h⟩|⟨x7,hx7,h⟩
  ·refine az [0] (bd 120 x5 b2 _ hm8) ⟨aa,aa,trivial⟩ (fun q C' hq=> ?_) (fun v9 hv=> ?_)
   ·obtain⟨_,h9,_⟩:=hq;cases h9
   obtain⟨_,h9,rfl⟩:=hv
   cases h9
   obtain rfl:=Option.some.inj h
   exact .inr ⟨_,rfl,_,rfl,rfl⟩
  refine az [0] (bd 120 x5 b2 _ hx7) ⟨aa,aa,trivial⟩ (fun q C' hq=> ?_) (fun v9 hv=>by obtain⟨_,h9,_⟩:=hv;cases h9)
  obtain⟨_,h9,rfl,rfl⟩:=hq
  cases h9
  refine rCtx [Own.box b2 ae x7] ?_
  obtain rfl:=Option.some.inj h
  exact(.inl ⟨.inr rfl,_,Pick.refl _,_,aa,_,rfl,rfl,rfl⟩)
 replace h:=iteF hc6 h
 refine bj ?_
 obtain rfl:=Option.some.inj h
 exact(.inl ⟨.inr rfl,_,Pick.refl _,_,aa,_,rfl,rfl,rfl⟩)
theorem d9 (x2:ParseParser) (b1:Nat) (r:ApiToken × ParseParser) (h:cg x2=some r):FnC Tryz.prog 50 [al b1 0] [Own.box b1 ae x2] (fun q C'=>q=(af).val r.1/\C'=[Own.box b1 ae r.2]):=by
 refine fnc_introR (n:=14) (rs:=[.cell 2 37]) Tryz.func50 rfl Tryz.ntmps50 Tryz.results50 (by decide) (fun s0=> ?_)
 unfold cg at h
 refine W_rs ?_
 refine bi (R:=af) (z:=(ApiToken.mk 0 [] 0 [])) Tryz.zeroValue37 (fun _=>⟨_,⟨_,_,rfl,rfl,⟨_,_,rfl,rfl,⟨_,_,rfl,rfl,⟨_,_,rfl,rfl,rfl⟩⟩⟩⟩,rfl⟩) (fun b3=> ?_)
 refine W_rs ?_
 refine rq (out:=al b1 0) ai ?_
 obtain⟨x4,hx4,h⟩:=ak h
 refine rq (out:=(af).val x4) (qCallBx 0 (cc x2 _ hx4) ⟨.inr ⟨aa,rfl⟩,trivial⟩ (fun _ _ _ h=>Flat.val gk _ _ _ _ h)) ?_
 refine bi (R:=af) (z:=(ApiToken.mk 0 [] 0 [])) Tryz.zeroValue37 (fun _=>⟨_,⟨_,_,rfl,rfl,⟨_,_,rfl,rfl,⟨_,_,rfl,rfl,⟨_,_,rfl,rfl,rfl⟩⟩⟩⟩,rfl⟩) (fun b5=> ?_)
 refine a5 (R:=af) (R':=af) (a:=(ApiToken.mk 0 [] 0 [])) (y:=x4) 2 Tryz.sizeOf37 (Upd.refl _) ?_
 refine W_rs ?_
 refine rq (out:=al b1 0) ai ?_
 refine rq (out:=al b1 0) qNilP ?_
 refine rq (out:=al b1 1) (a3 fld65_1) ?_
 refine rq (out:=Pr.i64 x2.at_) (a7 (R:=ae) (a:=x2) (R':=Rp.int .i64) 0 ty3 subParseParser_at) ?_
 refine rq (out:=Pr.i64 (w64 (x2.at_+1))) qInt ?_
 refine rq (out:=al b1 0) qNilP ?_
 refine rq (out:=al b1 1) (a3 fld65_1) ?_
 refine a5 (R:=ae) (R':=Rp.int .i64) (a:=x2) (y:=w64 (x2.at_+1)) 0 Tryz.sizeOf3 updParseParser_at ?_
 refine W_rs ?_
 refine rq (out:=(af).val x4) (a7 (R:=af) (a:=x4) (R':=af) 2 ty37 (Sub.refl _)) ?_
 refine a5 (R:=af) (R':=af) (a:=(ApiToken.mk 0 [] 0 [])) (y:=x4) 1 Tryz.sizeOf37 (Upd.refl _) ?_
 obtain rfl:=Option.some.inj h
 exact bp ⟨.inl rfl,[(af).val x4],⟨yBox 1 ty37 aa,trivial⟩,_,Pick.of [0] rfl,rfl,rfl⟩
theorem bl (x2:ParseParser) (b1:Nat) (r:PX ParseWrong (ApiToken × ParseParser)) (h:ca x2=some r):FnX Tryz.prog 41 [al b1 0] [Own.box b1 ae x2] (fun q C'=>∃a9,r= .ok a9/\q=(af).val a9.1/\C'=[Own.box b1 ae a9.2]) (fun v=>∃m,r= .bad m/\v=cv m):=by
 refine d4 (n:=11) (rs:=[.cell 2 37]) Tryz.func41 rfl Tryz.ntmps41 Tryz.results41 (by decide) (fun s0=> ?_)
 unfold ca at h
 refine W_rs ?_
 refine bi (R:=af) (z:=(ApiToken.mk 0 [] 0 [])) Tryz.zeroValue37 (fun _=>⟨_,⟨_,_,rfl,rfl,⟨_,_,rfl,rfl,⟨_,_,rfl,rfl,⟨_,_,rfl,rfl,rfl⟩⟩⟩⟩,rfl⟩) (fun b3=> ?_)
 refine cd (fun e C=>∃(x8:ParseParser),ga x8=some r/\At [(0,al b1 0),(2,al b3 0)] [Own.box b1 ae x8,Own.box b3 af (ApiToken.mk 0 [] 0 [])] e C) ?_ ?_
 ·rintro e C ⟨x8,h,hat1⟩
  refine W_at hat1 ?_
  clear hat1
  unfold ga at h
  refine W_rs ?_
  refine rq (out:=al b1 0) ai ?_
  obtain⟨⟨x9,x10⟩,hx9,h⟩:=ak h
  refine i7 [0] (d9 x8 b1 _ hx9) (fun q C' hq=> ?_)
  obtain⟨rfl,rfl⟩:=hq
  refine rCtx [Own.box b1 ae x10,Own.box b3 af (ApiToken.mk 0 [] 0 [])] ?_
  refine a5 (R:=af) (R':=af) (a:=(ApiToken.mk 0 [] 0 [])) (y:=x9) 1 Tryz.sizeOf37 (Upd.refl _) ?_
  obtain rfl:=Option.some.inj h
  exact bp (.inl ⟨.inl rfl,[(af).val x9],⟨yBox 1 ty37 aa,trivial⟩,_,Pick.of [0] rfl,_,rfl,rfl,rfl⟩)
 refine W_rs ?_
 refine rq (out:=al b1 0) ai ?_
 obtain⟨x4,hx4,h⟩:=ak h
 refine rq (out:=(af).val x4) (qCallBx 0 (cc x2 _ hx4) ⟨.inr ⟨aa,rfl⟩,trivial⟩ (fun _ _ _ h=>Flat.val gk _ _ _ _ h)) ?_
 refine rq (out:=Pr.i64 x4.Kind) (qField (R:=af) (R':=Rp.int .i64) (a:=x4) rfl fld37_0 di (Nat.le_of_ble_eq_true rfl)) ?_
 refine rq (out:=Pr.bool (x4.Kind != 1)) qInt ?_
 refine a8 (b:=x4.Kind != 1) rfl (fun hc5=> ?_) (fun hc5=> ?_)
 ·replace h:=iteT hc5 h
  refine W_r ?_
  refine rq (out:=al b1 0) ai ?_
  rcases aq h with⟨m7,hm7,h⟩|⟨x6,hx6,h⟩
  ·refine az [0] (bd 120 x2 b1 _ hm7) ⟨aa,aa,trivial⟩ (fun q C' hq=> ?_) (fun v9 hv=> ?_)
   ·obtain⟨_,h9,_⟩:=hq;cases h9
   obtain⟨_,h9,rfl⟩:=hv
   cases h9
   obtain rfl:=Option.some.inj h
   exact .inr ⟨_,rfl,_,rfl,rfl⟩
  refine az [0] (bd 120 x2 b1 _ hx6) ⟨aa,aa,trivial⟩ (fun q C' hq=> ?_) (fun v9 hv=>by obtain⟨_,h9,_⟩:=hv;cases h9)
  obtain⟨_,h9,rfl,rfl⟩:=hq
  cases h9
  refine rCtx [Own.box b1 ae x6,Own.box b3 af (ApiToken.mk 0 [] 0 [])] ?_
  exact⟨x6,h,⟨⟨aa,aa,trivial⟩,Pick.refl _⟩⟩
 replace h:=iteF hc5 h
 refine bj ?_
 exact⟨x2,h,⟨⟨aa,aa,trivial⟩,Pick.refl _⟩⟩
theorem gl (x1:ApiNode) (x2:ApiToken) (r:ApiNode) (h:dn x1 x2=some r):FnP Tryz.prog 43 [(rApiNode).val x1,(af).val x2] ((rApiNode).val r):=by
 refine j4 (n:=12) (rs:=[.cell 4 32]) Tryz.func43 rfl Tryz.ntmps43 Tryz.results43 (by decide) (fun s0=> ?_)
 unfold dn at h
 refine W_rs ?_
 refine rBox (R:=rApiNode) (a:=x1) rfl (fun b3=> ?_)
 refine rBox (R:=af) (a:=x2) rfl (fun b4=> ?_)
 refine bi (R:=rApiNode) (z:=(ApiNode.mk 0 [] [] 0 0 0 0 0 [])) Tryz.zeroValue32 (fun _=>(by rw[ap];exact⟨_,⟨_,_,rfl,rfl,⟨_,_,rfl,rfl,⟨_,_,rfl,rfl,⟨_,_,rfl,rfl,⟨_,_,rfl,rfl,⟨_,_,rfl,rfl,⟨_,_,rfl,rfl,⟨_,_,rfl,rfl,⟨_,_,rfl,⟨_,rfl,none,0,rfl,⟨Nat.le_refl _,fun _=>rfl⟩,.inl rfl⟩,rfl⟩⟩⟩⟩⟩⟩⟩⟩⟩,rfl⟩)) (fun b5=> ?_)
 refine cd (fun e C=>ei x1 x2=some r/\At [(2,al b3 0),(4,al b5 0)] [Own.box b3 rApiNode ({{x1 with Text:=x2.Text} with At:=x2.At}),Own.box b4 af x2,Own.box b5 rApiNode (ApiNode.mk 0 [] [] 0 0 0 0 0 [])] e C) ?_ ?_
 ·rintro e C ⟨h,hat1⟩
  refine W_at hat1 ?_
  clear hat1
  unfold ei at h
  refine W_rs ?_
  refine rq (out:=(rApiNode).val ({{x1 with Text:=x2.Text} with At:=x2.At})) (a7 (R:=rApiNode) (a:={{x1 with Text:=x2.Text} with At:=x2.At}) (R':=rApiNode) 0 ty32 (Sub.refl _)) ?_
  refine a5 (R:=rApiNode) (R':=rApiNode) (a:=(ApiNode.mk 0 [] [] 0 0 0 0 0 [])) (y:={{x1 with Text:=x2.Text} with At:=x2.At}) 2 Tryz.sizeOf32 (Upd.refl _) ?_
  obtain rfl:=Option.some.inj h
  exact bp ⟨rfl,[(rApiNode).val ({{x1 with Text:=x2.Text} with At:=x2.At})],⟨yBox 2 ty32 aa,trivial⟩,aa⟩
 refine W_drawG 0 (fun B S=>[(cond (S 7) (Own.box b3 rApiNode ({{x1 with Text:=x2.Text} with At:=x2.At})) (cond (S 5) (Own.box b3 rApiNode ({x1 with Text:=x2.Text})) (Own.box b3 rApiNode x1))),Own.box b4 af x2,Own.box b5 rApiNode (ApiNode.mk 0 [] [] 0 0 0 0 0 [])]) (fun B=>[Own.box b3 rApiNode ({{x1 with Text:=x2.Text} with At:=x2.At}),Own.box b4 af x2,Own.box b5 rApiNode (ApiNode.mk 0 [] [] 0 0 0 0 0 [])]) [al b4 1,ar x2.Text,al b4 2,Pr.i64 x2.At,al b3 1,.any,al b3 6,.any] (fun k=>([0,0,0,0,0,1,0,1]:List Nat).getD k 0) hmx (by kernel_rfl) (by kernel_rfl) (fun _=>rfl) (fun B S S' h=>by show([(cond (S 7) (Own.box b3 rApiNode ({{x1 with Text:=x2.Text} with At:=x2.At})) (cond (S 5) (Own.box b3 rApiNode ({x1 with Text:=x2.Text})) (Own.box b3 rApiNode x1))),Own.box b4 af x2,Own.box b5 rApiNode (ApiNode.mk 0 [] [] 0 0 0 0 0 [])]:Ctx)=[(cond (S' 7) (Own.box b3 rApiNode ({{x1 with Text:=x2.Text} with At:=x2.At})) (cond (S' 5) (Own.box b3 rApiNode ({x1 with Text:=x2.Text})) (Own.box b3 rApiNode x1))),Own.box b4 af x2,Own.box b5 rApiNode (ApiNode.mk 0 [] [] 0 0 0 0 0 [])];simp only[h 5 (Nat.le_of_ble_eq_true (by kernel_rfl)),h 7 (Nat.le_of_ble_eq_true (by kernel_rfl))]) (fun _=>rfl) (fun B=> ?_)
 refine gq1 (fun S hK=>(a3 fld37_1)) ?_
 refine gq1 (fun S hK=>(a7 (R:=af) (a:=x2) (R':=bh) 1 ty9 subApiToken_Text (hi:=rfl))) ?_
 refine gq1 (fun S hK=>(a3 fld37_2)) ?_
 refine gq1 (fun S hK=>(a7 (R:=af) (a:=x2) (R':=Rp.int .i64) 1 ty3 subApiToken_At (hi:=rfl))) ?_
 refine gq1 (fun S hK=>(a3 fld32_1)) ?_
 refine gqS (fun S hK=>SStep.as (sStore (R:=rApiNode) (R':=bh) (a:=x1) (y:=x2.Text) 0 Tryz.sizeOf9 updApiNode_Text (congrArg some ((condF (hK.F 7 (by kernel_rfl)) _ _).trans (condF (hK.me) _ _)))) (by show(_:Ctx)=[(cond (S 7) (Own.box b3 rApiNode ({{x1 with Text:=x2.Text} with At:=x2.At})) (Own.box b3 rApiNode ({x1 with Text:=x2.Text}))),Own.box b4 af x2,Own.box b5 rApiNode (ApiNode.mk 0 [] [] 0 0 0 0 0 [])];rw[hK.F 7 (by kernel_rfl)];rfl)) ?_
 refine gq1 (fun S hK=>(a3 fld32_6)) ?_
 refine gqS (fun S hK=>SStep.as (sStore (R:=rApiNode) (R':=Rp.int .i64) (a:={x1 with Text:=x2.Text}) (y:=x2.At) 0 Tryz.sizeOf3 updApiNode_At (congrArg some ((condF (hK.me) _ _).trans (condT (hK.T 5 (by kernel_rfl)) _ _)))) (by show(_:Ctx)=[Own.box b3 rApiNode ({{x1 with Text:=x2.Text} with At:=x2.At}),Own.box b4 af x2,Own.box b5 rApiNode (ApiNode.mk 0 [] [] 0 0 0 0 0 [])];rfl)) ?_
 exact⟨h,⟨⟨aa,aa,trivial⟩,Pick.refl _⟩⟩
theorem parse_typed_ok (x1:ApiNode) (x2:ApiToken) (r:ApiNode) (h:i2 x1 x2=some r):FnP Tryz.prog 45 [(rApiNode).val x1,(af).val x2] ((rApiNode).val r):=by
 refine j4 (n:=12) (rs:=[.cell 4 32]) Tryz.func45 rfl Tryz.ntmps45 Tryz.results45 (by decide) (fun s0=> ?_)
 unfold i2 at h
 refine W_rs ?_
 refine rBox (R:=rApiNode) (a:=x1) rfl (fun b3=> ?_)
 refine rBox (R:=af) (a:=x2) rfl (fun b4=> ?_)
 refine bi (R:=rApiNode) (z:=(ApiNode.mk 0 [] [] 0 0 0 0 0 [])) Tryz.zeroValue32 (fun _=>(by rw[ap];exact⟨_,⟨_,_,rfl,rfl,⟨_,_,rfl,rfl,⟨_,_,rfl,rfl,⟨_,_,rfl,rfl,⟨_,_,rfl,rfl,⟨_,_,rfl,rfl,⟨_,_,rfl,rfl,⟨_,_,rfl,rfl,⟨_,_,rfl,⟨_,rfl,none,0,rfl,⟨Nat.le_refl _,fun _=>rfl⟩,.inl rfl⟩,rfl⟩⟩⟩⟩⟩⟩⟩⟩⟩,rfl⟩)) (fun b5=> ?_)
 refine cd (fun e C=>i3 x1 x2=some r/\At [(2,al b3 0),(4,al b5 0)] [Own.box b3 rApiNode ({{x1 with Type_:=x2.Text} with TypeAt:=x2.At}),Own.box b4 af x2,Own.box b5 rApiNode (ApiNode.mk 0 [] [] 0 0 0 0 0 [])] e C) ?_ ?_
 ·rintro e C ⟨h,hat1⟩
  refine W_at hat1 ?_
  clear hat1
  unfold i3 at h
  refine W_rs ?_
  refine rq (out:=(rApiNode).val ({{x1 with Type_:=x2.Text} with TypeAt:=x2.At})) (a7 (R:=rApiNode) (a:={{x1 with Type_:=x2.Text} with TypeAt:=x2.At}) (R':=rApiNode) 0 ty32 (Sub.refl _)) ?_
  refine a5 (R:=rApiNode) (R':=rApiNode) (a:=(ApiNode.mk 0 [] [] 0 0 0 0 0 [])) (y:={{x1 with Type_:=x2.Text} with TypeAt:=x2.At}) 2 Tryz.sizeOf32 (Upd.refl _) ?_
  obtain rfl:=Option.some.inj h
  exact bp ⟨rfl,[(rApiNode).val ({{x1 with Type_:=x2.Text} with TypeAt:=x2.At})],⟨yBox 2 ty32 aa,trivial⟩,aa⟩
 refine W_drawG 0 (fun B S=>[(cond (S 7) (Own.box b3 rApiNode ({{x1 with Type_:=x2.Text} with TypeAt:=x2.At})) (cond (S 5) (Own.box b3 rApiNode ({x1 with Type_:=x2.Text})) (Own.box b3 rApiNode x1))),Own.box b4 af x2,Own.box b5 rApiNode (ApiNode.mk 0 [] [] 0 0 0 0 0 [])]) (fun B=>[Own.box b3 rApiNode ({{x1 with Type_:=x2.Text} with TypeAt:=x2.At}),Own.box b4 af x2,Own.box b5 rApiNode (ApiNode.mk 0 [] [] 0 0 0 0 0 [])]) [al b4 1,ar x2.Text,al b4 2,Pr.i64 x2.At,al b3 2,.any,al b3 7,.any] (fun k=>([0,0,0,0,0,1,0,1]:List Nat).getD k 0) hmx (by kernel_rfl) (by kernel_rfl) (fun _=>rfl) (fun B S S' h=>by show([(cond (S 7) (Own.box b3 rApiNode ({{x1 with Type_:=x2.Text} with TypeAt:=x2.At})) (cond (S 5) (Own.box b3 rApiNode ({x1 with Type_:=x2.Text})) (Own.box b3 rApiNode x1))),Own.box b4 af x2,Own.box b5 rApiNode (ApiNode.mk 0 [] [] 0 0 0 0 0 [])]:Ctx)=[(cond (S' 7) (Own.box b3 rApiNode ({{x1 with Type_:=x2.Text} with TypeAt:=x2.At})) (cond (S' 5) (Own.box b3 rApiNode ({x1 with Type_:=x2.Text})) (Own.box b3 rApiNode x1))),Own.box b4 af x2,Own.box b5 rApiNode (ApiNode.mk 0 [] [] 0 0 0 0 0 [])];simp only[h 5 (Nat.le_of_ble_eq_true (by kernel_rfl)),h 7 (Nat.le_of_ble_eq_true (by kernel_rfl))]) (fun _=>rfl) (fun B=> ?_)
 refine gq1 (fun S hK=>(a3 fld37_1)) ?_
 refine gq1 (fun S hK=>(a7 (R:=af) (a:=x2) (R':=bh) 1 ty9 subApiToken_Text (hi:=rfl))) ?_
 refine gq1 (fun S hK=>(a3 fld37_2)) ?_
 refine gq1 (fun S hK=>(a7 (R:=af) (a:=x2) (R':=Rp.int .i64) 1 ty3 subApiToken_At (hi:=rfl))) ?_
 refine gq1 (fun S hK=>(a3 fld32_2)) ?_
 refine gqS (fun S hK=>SStep.as (sStore (R:=rApiNode) (R':=bh) (a:=x1) (y:=x2.Text) 0 Tryz.sizeOf9 updApiNode_Type (congrArg some ((condF (hK.F 7 (by kernel_rfl)) _ _).trans (condF (hK.me) _ _)))) (by show(_:Ctx)=[(cond (S 7) (Own.box b3 rApiNode ({{x1 with Type_:=x2.Text} with TypeAt:=x2.At})) (Own.box b3 rApiNode ({x1 with Type_:=x2.Text}))),Own.box b4 af x2,Own.box b5 rApiNode (ApiNode.mk 0 [] [] 0 0 0 0 0 [])];rw[hK.F 7 (by kernel_rfl)];rfl)) ?_
 refine gq1 (fun S hK=>(a3 fld32_7)) ?_
 refine gqS (fun S hK=>SStep.as (sStore (R:=rApiNode) (R':=Rp.int .i64) (a:={x1 with Type_:=x2.Text}) (y:=x2.At) 0 Tryz.sizeOf3 updApiNode_TypeAt (congrArg some ((condF (hK.me) _ _).trans (condT (hK.T 5 (by kernel_rfl)) _ _)))) (by show(_:Ctx)=[Own.box b3 rApiNode ({{x1 with Type_:=x2.Text} with TypeAt:=x2.At}),Own.box b4 af x2,Own.box b5 rApiNode (ApiNode.mk 0 [] [] 0 0 0 0 0 [])];rfl)) ?_
 exact⟨h,⟨⟨aa,aa,trivial⟩,Pick.refl _⟩⟩
theorem parse_isType_ok (x1:ApiToken) (r:Bool) (h:io x1=some r):FnP Tryz.prog 49 [(af).val x1] (Pr.bool r):=by
 refine de (n:=18) (rs:=[2]) Tryz.func49 rfl Tryz.ntmps49 ⟨by decide,Tryz.results49⟩ (by decide) (fun s0=> ?_)
 unfold io at h
 refine W_rs ?_
 refine rBox (R:=af) (a:=x1) rfl (fun b2=> ?_)
 refine rq (out:=Pr.bool false) aj ?_
 refine cd (fun e C=>∃(x17:Bool),gw x17=some r/\At [(2,Pr.bool x17)] [Own.box b2 af x1] e C) ?_ ?_
 ·rintro e C ⟨x17,h,hat1⟩
  refine W_at hat1 ?_
  clear hat1
  unfold gw at h
  obtain rfl:=Option.some.inj h
  exact bp ⟨rfl,aa⟩
 refine W_r ?_
 refine rq (out:=al b2 0) (a3 fld37_0) ?_
 refine rq (out:=Pr.i64 x1.Kind) (a7 (R:=af) (a:=x1) (R':=Rp.int .i64) 0 ty3 di) ?_
 refine rq (out:=Pr.bool (x1.Kind==1)) qInt ?_
 refine rq (out:=Pr.bool (x1.Kind==1)) ai ?_
 rcases bk h with⟨hc3,h⟩|⟨hc3,h⟩
 ·refine rno (neF hc3) ?_
  refine rno (neF hc3) ?_
  refine rq (out:=Pr.bool true) (bg hc3) ?_
  refine rq (out:=Pr.bool true) ai ?_
  have hc11:true=true:=rfl
  refine rno (neF hc11) ?_
  refine rno (neF hc11) ?_
  refine rq (out:=Pr.bool true) (bg hc11) ?_
  refine rq (out:=Pr.bool true) ai ?_
  have hc15:true=true:=rfl
  refine rno (neF hc15) ?_
  refine rno (neF hc15) ?_
  refine rq (out:=Pr.bool true) (bg hc15) ?_
  refine rq (out:=Pr.bool true) aj ?_
  exact⟨true,h,⟨⟨aa,trivial⟩,Pick.refl _⟩⟩
 refine rqg hc3 (out:=(af).val x1) (a7 (R:=af) (a:=x1) (R':=af) 0 ty37 (Sub.refl _)) ?_
 obtain⟨x4,hx4,h⟩:=ak h
 refine rqg hc3 (out:=Pr.bool x4) (dt (ku x1 ([105,110,116]:List UInt8) _ hx4)) ?_
 refine rq (out:=Pr.bool x4) (ax hc3) ?_
 refine rq (out:=Pr.bool x4) ai ?_
 rcases bk h with⟨hc5,h⟩|⟨hc5,h⟩
 ·refine rno (neF hc5) ?_
  refine rno (neF hc5) ?_
  refine rq (out:=Pr.bool true) (bg hc5) ?_
  refine rq (out:=Pr.bool true) ai ?_
  have hc9:true=true:=rfl
  refine rno (neF hc9) ?_
  refine rno (neF hc9) ?_
  refine rq (out:=Pr.bool true) (bg hc9) ?_
  refine rq (out:=Pr.bool true) aj ?_
  exact⟨true,h,⟨⟨aa,trivial⟩,Pick.refl _⟩⟩
 refine rqg hc5 (out:=(af).val x1) (a7 (R:=af) (a:=x1) (R':=af) 0 ty37 (Sub.refl _)) ?_
 obtain⟨x6,hx6,h⟩:=ak h
 refine rqg hc5 (out:=Pr.bool x6) (dt (ku x1 ([98,111,111,108,101,97,110]:List UInt8) _ hx6)) ?_
 refine rq (out:=Pr.bool x6) (ax hc5) ?_
 refine rq (out:=Pr.bool x6) ai ?_
 rcases bk h with⟨hc7,h⟩|⟨hc7,h⟩
 ·refine rno (neF hc7) ?_
  refine rno (neF hc7) ?_
  refine rq (out:=Pr.bool true) (bg hc7) ?_
  refine rq (out:=Pr.bool true) aj ?_
  exact⟨true,h,⟨⟨aa,trivial⟩,Pick.refl _⟩⟩
 refine rqg hc7 (out:=(af).val x1) (a7 (R:=af) (a:=x1) (R':=af) 0 ty37 (Sub.refl _)) ?_
 obtain⟨x8,hx8,h⟩:=ak h
 refine rqg hc7 (out:=Pr.bool x8) (dt (ku x1 ([118,111,105,100]:List UInt8) _ hx8)) ?_
 refine rq (out:=Pr.bool x8) (ax hc7) ?_
 refine rq (out:=Pr.bool x8) aj ?_
 exact⟨x8,h,⟨⟨aa,trivial⟩,Pick.refl _⟩⟩
theorem ir (x2:ParseParser) (b1:Nat) (r:PX ParseWrong (ApiToken × ParseParser)) (h:ec x2=some r):FnX Tryz.prog 63 [al b1 0] [Own.box b1 ae x2] (fun q C'=>∃a9,r= .ok a9/\q=(af).val a9.1/\C'=[Own.box b1 ae a9.2]) (fun v=>∃m,r= .bad m/\v=cv m):=by
 refine d4 (n:=15) (rs:=[.cell 2 37]) Tryz.func63 rfl Tryz.ntmps63 Tryz.results63 (by decide) (fun s0=> ?_)
 unfold ec at h
 refine W_rs ?_
 refine bi (R:=af) (z:=(ApiToken.mk 0 [] 0 [])) Tryz.zeroValue37 (fun _=>⟨_,⟨_,_,rfl,rfl,⟨_,_,rfl,rfl,⟨_,_,rfl,rfl,⟨_,_,rfl,rfl,rfl⟩⟩⟩⟩,rfl⟩) (fun b3=> ?_)
 refine cd (fun e C=>∃(x12:ParseParser),fu x12=some r/\At [(0,al b1 0),(2,al b3 0)] [Own.box b1 ae x12,Own.box b3 af (ApiToken.mk 0 [] 0 [])] e C) ?_ ?_
 ·rintro e C ⟨x12,h,hat1⟩
  refine W_at hat1 ?_
  clear hat1
  unfold fu at h
  refine W_rs ?_
  refine rq (out:=al b1 0) ai ?_
  obtain⟨⟨x13,x14⟩,hx13,h⟩:=ak h
  refine i7 [0] (d9 x12 b1 _ hx13) (fun q C' hq=> ?_)
  obtain⟨rfl,rfl⟩:=hq
  refine rCtx [Own.box b1 ae x14,Own.box b3 af (ApiToken.mk 0 [] 0 [])] ?_
  refine a5 (R:=af) (R':=af) (a:=(ApiToken.mk 0 [] 0 [])) (y:=x13) 1 Tryz.sizeOf37 (Upd.refl _) ?_
  obtain rfl:=Option.some.inj h
  exact bp (.inl ⟨.inl rfl,[(af).val x13],⟨yBox 1 ty37 aa,trivial⟩,_,Pick.of [0] rfl,_,rfl,rfl,rfl⟩)
 refine cd (fun e C=>∃(x8:Bool),fr x2 x8=some r/\At [(0,al b1 0),(2,al b3 0),(10,Pr.bool x8)] [Own.box b1 ae x2,Own.box b3 af (ApiToken.mk 0 [] 0 [])] e C) ?_ ?_
 ·rintro e C ⟨x8,h,hat2⟩
  refine W_at hat2 ?_
  clear hat2
  unfold fr at h
  refine a8 (b:=x8) rfl (fun hc9=> ?_) (fun hc9=> ?_)
  ·replace h:=iteT hc9 h
   refine W_r ?_
   refine rq (out:=al b1 0) ai ?_
   rcases aq h with⟨m11,hm11,h⟩|⟨x10,hx10,h⟩
   ·refine az [0] (bd 120 x2 b1 _ hm11) ⟨aa,aa,trivial⟩ (fun q C' hq=> ?_) (fun v9 hv=> ?_)
    ·obtain⟨_,h9,_⟩:=hq;cases h9
    obtain⟨_,h9,rfl⟩:=hv
    cases h9
    obtain rfl:=Option.some.inj h
    exact .inr ⟨_,rfl,_,rfl,rfl⟩
   refine az [0] (bd 120 x2 b1 _ hx10) ⟨aa,aa,trivial⟩ (fun q C' hq=> ?_) (fun v9 hv=>by obtain⟨_,h9,_⟩:=hv;cases h9)
   obtain⟨_,h9,rfl,rfl⟩:=hq
   cases h9
   refine rCtx [Own.box b1 ae x10,Own.box b3 af (ApiToken.mk 0 [] 0 [])] ?_
   exact⟨x10,h,⟨⟨aa,aa,trivial⟩,Pick.refl _⟩⟩
  replace h:=iteF hc9 h
  refine bj ?_
  exact⟨x2,h,⟨⟨aa,aa,trivial⟩,Pick.refl _⟩⟩
 refine W_r ?_
 refine rq (out:=al b1 0) ai ?_
 obtain⟨x4,hx4,h⟩:=ak h
 refine rq (out:=(af).val x4) (qCallBx 0 (cc x2 _ hx4) ⟨.inr ⟨aa,rfl⟩,trivial⟩ (fun _ _ _ h=>Flat.val gk _ _ _ _ h)) ?_
 obtain⟨x5,hx5,h⟩:=ak h
 refine rq (out:=Pr.bool x5) (dt (parse_isType_ok x4 _ hx5)) ?_
 refine rq (out:=Pr.bool (!x5)) qNot ?_
 refine rq (out:=Pr.bool (!x5)) ai ?_
 rcases bk h with⟨hc6,h⟩|⟨hc6,h⟩
 ·refine rno (neF hc6) ?_
  refine rno (neF hc6) ?_
  refine rq (out:=Pr.bool true) (bg hc6) ?_
  exact⟨true,h,⟨⟨aa,aa,aa,trivial⟩,Pick.refl _⟩⟩
 refine rqg hc6 (out:=al b1 0) ai ?_
 obtain⟨x7,hx7,h⟩:=ak h
 refine rqg hc6 (out:=Pr.bool x7) (qCallBx 0 (parse_parser_is_ok x2 ([118,111,105,100]:List UInt8) _ hx7) ⟨.inr ⟨aa,rfl⟩,.inl aa,trivial⟩ (fun _ _ _ h=>h)) ?_
 refine rq (out:=Pr.bool x7) (ax hc6) ?_
 exact⟨x7,h,⟨⟨aa,aa,aa,trivial⟩,Pick.refl _⟩⟩
theorem parse_parser_params_ok (x2:ParseParser) (b1:Nat) (r:PX ParseWrong ((List ApiNode) × ParseParser)) (h:fm x2=some r):FnX Tryz.prog 51 [al b1 0] [Own.box b1 ae x2] (fun q C'=>∃a9,r= .ok a9/\∃u0,q=Pr.is u0/\C'=[Own.vec u0 rApiNode a9.1 32,Own.box b1 ae a9.2]) (fun v=>∃m,r= .bad m/\v=cv m):=by
 refine fnx_introP (n:=33) (rs:=[2]) Tryz.func51 rfl Tryz.ntmps51 ⟨by decide,Tryz.results51⟩ (by decide) (fun s0=> ?_)
 unfold fm at h
 refine W_rs ?_
 refine rq (out:=Pr.is (.slice none 0 0)) aj ?_
 refine W_rs ?_
 refine rq (out:=Pr.is (.slice none 0 0)) aj ?_
 refine c0 ?_
 refine W_rs ?_
 refine rq (out:=al b1 0) ai ?_
 obtain⟨⟨x3,x4⟩,hx3,h⟩:=ak h
 refine i7 [0] (a6 ([41]:List UInt8) x2 b1 _ hx3) (fun q C' hq=> ?_)
 obtain⟨rfl,rfl⟩:=hq
 refine rCtx [Own.box b1 ae x4] ?_
 refine a8 (b:=x3) rfl (fun hc5=> ?_) (fun hc5=> ?_)
 ·replace h:=iteT hc5 h
  refine W_rs ?_
  refine rq (out:=Pr.is (.slice none 0 0)) ai ?_
  refine rq (out:=Pr.is (.slice none 0 0)) aj ?_
  refine W_nil [2] rApiNode 32 (fun v6=> ?_) ⟨rfl,trivial⟩
  obtain rfl:=Option.some.inj h
  exact bp (.inl ⟨.inl rfl,_,Pick.of [1,0] rfl,_,(aa),_,rfl,v6,rfl,rfl⟩)
 replace h:=iteF hc5 h
 refine bj ?_
 refine bu ?_
 obtain⟨n1,hN1⟩:=dv h
 refine W_nil [3] rApiNode 32 (fun v31=> ?_) ⟨rfl,trivial⟩
 refine k8 (fun m e C=>∃(x8:ParseParser),∃(x9:List ApiNode),∃(v7:Value),i1 (fun s=>fh s.1 s.2) m (x8,x9)=some r/\At [(0,al b1 0),(3,Pr.is v7)] [Own.box b1 ae x8,Own.vec v7 rApiNode x9 32] e C) n1 ⟨x4,[],v31,hN1,⟨⟨aa,aa,trivial⟩,Pick.refl _⟩⟩ ?_
 clear hN1
 rintro m e C ⟨x8,x9,v7,hN1,hatl1⟩
 refine W_at hatl1 ?_
 clear hatl1
 obtain⟨m1,w1l,rfl,h1l,hn1,ho1⟩:=dp hN1
 clear hN1
 replace h1l:fh x8 x9=some w1l:=h1l
 unfold fh at h1l
 refine bu ?_
 refine W_rs ?_
 refine rq (out:=al b1 0) ai ?_
 refine rq (out:=al b1 0) qNilP ?_
 refine rq (out:=al b1 1) (a3 fld65_1) ?_
 refine rq (out:=Pr.i64 x8.at_) (a7 (R:=ae) (a:=x8) (R':=Rp.int .i64) 0 ty3 subParseParser_at) ?_
 refine rq (out:=Pr.i64 x8.at_) aj ?_
 refine W_rs ?_
 refine rq (out:=al b1 0) ai ?_
 rcases aq h1l with⟨m30,hm30,h1l⟩|⟨⟨x13,x14⟩,hx13,h1l⟩
 ·refine az [0] (ir x8 b1 _ hm30) ⟨aa,trivial⟩ (fun q C' hq=> ?_) (fun v9 hv=> ?_)
  ·obtain⟨_,h9,_⟩:=hq;cases h9
  obtain⟨_,h9,rfl⟩:=hv
  cases h9
  have h:some (.bad m30)=some r:=congrArg some (ho1 _ (Option.some.inj h1l).symm)
  obtain rfl:=Option.some.inj h
  exact .inr ⟨_,rfl,_,rfl,rfl⟩
 refine az [0] (ir x8 b1 _ hx13) ⟨aa,trivial⟩ (fun q C' hq=> ?_) (fun v9 hv=>by obtain⟨_,h9,_⟩:=hv;cases h9)
 obtain⟨_,h9,rfl,rfl⟩:=hq
 cases h9
 refine rCtx [Own.box b1 ae x14,Own.vec v7 rApiNode x9 32] ?_
 refine bi (R:=af) (z:=(ApiToken.mk 0 [] 0 [])) Tryz.zeroValue37 (fun _=>⟨_,⟨_,_,rfl,rfl,⟨_,_,rfl,rfl,⟨_,_,rfl,rfl,⟨_,_,rfl,rfl,rfl⟩⟩⟩⟩,rfl⟩) (fun b15=> ?_)
 refine a5 (R:=af) (R':=af) (a:=(ApiToken.mk 0 [] 0 [])) (y:=x13) 2 Tryz.sizeOf37 (Upd.refl _) ?_
 refine W_rs ?_
 refine rq (out:=al b1 0) ai ?_
 rcases aq h1l with⟨m29,hm29,h1l⟩|⟨⟨x16,x17⟩,hx16,h1l⟩
 ·refine az [0] (bl x14 b1 _ hm29) ⟨aa,trivial⟩ (fun q C' hq=> ?_) (fun v9 hv=> ?_)
  ·obtain⟨_,h9,_⟩:=hq;cases h9
  obtain⟨_,h9,rfl⟩:=hv
  cases h9
  have h:some (.bad m29)=some r:=congrArg some (ho1 _ (Option.some.inj h1l).symm)
  obtain rfl:=Option.some.inj h
  exact .inr ⟨_,rfl,_,rfl,rfl⟩
 refine az [0] (bl x14 b1 _ hx16) ⟨aa,trivial⟩ (fun q C' hq=> ?_) (fun v9 hv=>by obtain⟨_,h9,_⟩:=hv;cases h9)
 obtain⟨_,h9,rfl,rfl⟩:=hq
 cases h9
 refine rCtx [Own.box b1 ae x17,Own.vec v7 rApiNode x9 32,Own.box b15 af x13] ?_
 refine bi (R:=af) (z:=(ApiToken.mk 0 [] 0 [])) Tryz.zeroValue37 (fun _=>⟨_,⟨_,_,rfl,rfl,⟨_,_,rfl,rfl,⟨_,_,rfl,rfl,⟨_,_,rfl,rfl,rfl⟩⟩⟩⟩,rfl⟩) (fun b18=> ?_)
 refine a5 (R:=af) (R':=af) (a:=(ApiToken.mk 0 [] 0 [])) (y:=x16) 3 Tryz.sizeOf37 (Upd.refl _) ?_
 refine cd (fun e C=>∃(x22:List ApiNode),∃(v23:Value),ia x17 x22=some w1l/\At [(0,al b1 0),(3,Pr.is v23)] [Own.box b1 ae x17,Own.vec v23 rApiNode x22 32,Own.box b15 af x13,Own.box b18 af x16] e C) ?_ ?_
 ·rintro e C ⟨x22,v23,h1l,hat2⟩
  refine W_at hat2 ?_
  clear hat2
  unfold ia at h1l
  refine c0 ?_
  refine W_rs ?_
  refine rq (out:=al b1 0) ai ?_
  obtain⟨⟨x24,x25⟩,hx24,h1l⟩:=ak h1l
  refine i7 [0] (a6 ([41]:List UInt8) x17 b1 _ hx24) (fun q C' hq=> ?_)
  obtain⟨rfl,rfl⟩:=hq
  refine rCtx [Own.box b1 ae x25,Own.vec v23 rApiNode x22 32,Own.box b15 af x13,Own.box b18 af x16] ?_
  refine a8 (b:=x24) rfl (fun hc26=> ?_) (fun hc26=> ?_)
  ·replace h1l:=iteT hc26 h1l
   refine W_rs ?_
   refine rq (out:=Pr.is v23) ai ?_
   refine rq (out:=Pr.is v23) aj ?_
   have h:some (.ok (x22,x25))=some r:=congrArg some (ho1 _ (Option.some.inj h1l).symm)
   obtain rfl:=Option.some.inj h
   exact bp (.inl ⟨.inl rfl,_,Pick.of [1,0] rfl,_,(aa),_,rfl,v23,rfl,rfl⟩)
  replace h1l:=iteF hc26 h1l
  refine bj ?_
  refine W_r ?_
  refine rq (out:=al b1 0) ai ?_
  rcases aq h1l with⟨m28,hm28,h1l⟩|⟨x27,hx27,h1l⟩
  ·refine az [0] (ao ([44]:List UInt8) x25 b1 _ hm28) ⟨aa,aa,trivial⟩ (fun q C' hq=> ?_) (fun v9 hv=> ?_)
   ·obtain⟨_,h9,_⟩:=hq;cases h9
   obtain⟨_,h9,rfl⟩:=hv
   cases h9
   have h:some (.bad m28)=some r:=congrArg some (ho1 _ (Option.some.inj h1l).symm)
   obtain rfl:=Option.some.inj h
   exact .inr ⟨_,rfl,_,rfl,rfl⟩
  refine az [0] (ao ([44]:List UInt8) x25 b1 _ hx27) ⟨aa,aa,trivial⟩ (fun q C' hq=> ?_) (fun v9 hv=>by obtain⟨_,h9,_⟩:=hv;cases h9)
  obtain⟨_,h9,rfl,rfl⟩:=hq
  cases h9
  refine rCtx [Own.box b1 ae x27,Own.vec v23 rApiNode x22 32,Own.box b15 af x13,Own.box b18 af x16] ?_
  exact⟨m1,Nat.lt_succ_self _,x27,x22,v23,hn1 _ (Option.some.inj h1l).symm,⟨⟨aa,aa,trivial⟩,Pick.of [0,1] rfl⟩⟩
 refine W_draw 9 hmx (by kernel_rfl) (by kernel_rfl) ?_
 refine qq (out:=Pr.is v7) ai ?_
 refine qq (out:=al b1 0) ai ?_
 refine qq (out:=Pr.i64 x8.at_) ai ?_
 obtain⟨x19,hx19,h1l⟩:=ak h1l
 refine qq (out:=(rApiNode).val x19) (qMade 0 hx19 (f2 _)) ?_
 refine qq (out:=(af).val x16) (a7 (R:=af) (a:=x16) (R':=af) 3 ty37 (Sub.refl _)) ?_
 obtain⟨x20,hx20,h1l⟩:=ak h1l
 refine qq (out:=(rApiNode).val x20) (dt (gl x19 x16 _ hx20)) ?_
 refine qq (out:=(af).val x13) (a7 (R:=af) (a:=x13) (R':=af) 2 ty37 (Sub.refl _)) ?_
 obtain⟨x21,hx21,h1l⟩:=ak h1l
 refine qq (out:=(rApiNode).val x21) (dt (parse_typed_ok x20 x13 _ hx21)) ?_
 refine qq (out:=av rApiNode ([x21]:List ApiNode)) (cn (R:=rApiNode) (a:=x21) el24 (Nat.le_of_ble_eq_true rfl)) ?_
 obtain⟨x22,hx22,h1l⟩:=ak h1l
 refine kz 1 el24 hx22 (fun v23=> ?_)
 refine rq (out:=Pr.is v23) aj ?_
 exact⟨x22,v23,h1l,⟨⟨aa,aa,trivial⟩,Pick.refl _⟩⟩
theorem parse_parser_ahead_ok (x1:ParseParser) (x2:Int) (r:ApiToken) (h:iq x1 x2=some r):FnP Tryz.prog 67 [br ae x1,Pr.i64 x2] ((af).val r):=by
 refine j4 (n:=24) (rs:=[.cell 4 37]) Tryz.func67 rfl Tryz.ntmps67 Tryz.results67 (by decide) (fun s0=> ?_)
 unfold iq at h
 refine W_rs ?_
 refine bi (R:=af) (z:=(ApiToken.mk 0 [] 0 [])) Tryz.zeroValue37 (fun _=>⟨_,⟨_,_,rfl,rfl,⟨_,_,rfl,rfl,⟨_,_,rfl,rfl,⟨_,_,rfl,rfl,rfl⟩⟩⟩⟩,rfl⟩) (fun b3=> ?_)
 refine cd (fun e C=>∃(x4:ApiToken),iz x4=some r/\At [(4,al b3 0)] [Own.box b3 af x4] e C) ?_ ?_
 ·rintro e C ⟨x4,h,hat1⟩
  refine W_at hat1 ?_
  clear hat1
  unfold iz at h
  obtain rfl:=Option.some.inj h
  exact bp ⟨rfl,[(af).val x4],⟨yBox 0 ty37 aa,trivial⟩,aa⟩
 refine W_draw 19 hmx (by kernel_rfl) (by kernel_rfl) ?_
 refine qq (out:=br ae x1) ai ?_
 refine qq (out:=br ae x1) qNilC ?_
 refine qq (out:=br (ba af) x1.t) (qFieldC (R:=ae) (a:=x1) fld65_0 subParseParser_t) ?_
 refine qq (out:=av af x1.t) (gr (R:=ba af) (a:=x1.t) ty33) ?_
 refine qq (out:=br ae x1) ai ?_
 refine qq (out:=br ae x1) qNilC ?_
 refine qq (out:=br (Rp.int .i64) x1.at_) (qFieldC (R:=ae) (a:=x1) fld65_1 subParseParser_at) ?_
 refine qq (out:=Pr.i64 x1.at_) (gr (R:=Rp.int .i64) (a:=x1.at_) ty3) ?_
 refine qq (out:=Pr.i64 x2) ai ?_
 refine qq (out:=Pr.i64 (w64 (x1.at_+x2))) qInt ?_
 refine qq (out:=br ae x1) ai ?_
 refine qq (out:=br ae x1) qNilC ?_
 refine qq (out:=br (ba af) x1.t) (qFieldC (R:=ae) (a:=x1) fld65_0 subParseParser_t) ?_
 refine qq (out:=av af x1.t) (gr (R:=ba af) (a:=x1.t) ty33) ?_
 refine qq (out:=Pr.i64 (x1.t.length:Int)) (qLenL rfl Tryz.underlying33) ?_
 refine qq (out:=Pr.i64 (w64 ((x1.t.length:Int) - 1))) qInt ?_
 refine qq (out:=Pr.i64 (if(w64 ((x1.t.length:Int) - 1))<(w64 (x1.at_+x2))then(w64 ((x1.t.length:Int) - 1))else(w64 (x1.at_+x2)))) (qMin (a:=w64 (x1.at_+x2)) (b:=w64 ((x1.t.length:Int) - 1))) ?_
 obtain⟨x4,hx4,h⟩:=ak h
 refine qq (out:=br af x4) (qIdxA (R:=af) (l:=x1.t) Tryz.underlying33 Tryz.sizeOf37 hx4) ?_
 refine qq (out:=(af).val x4) (gr (R:=af) (a:=x4) ty37) ?_
 refine a5 (R:=af) (R':=af) (a:=(ApiToken.mk 0 [] 0 [])) (y:=x4) 0 Tryz.sizeOf37 (Upd.refl _) ?_
 exact⟨x4,h,⟨⟨aa,trivial⟩,Pick.refl _⟩⟩
theorem parse_parser_isLocal_ok (x1:ParseParser) (r:Bool) (h:cp x1=some r):FnP Tryz.prog 56 [br ae x1] (Pr.bool r):=by
 refine de (n:=19) (rs:=[2]) Tryz.func56 rfl Tryz.ntmps56 ⟨by decide,Tryz.results56⟩ (by decide) (fun s0=> ?_)
 unfold cp at h
 refine W_rs ?_
 refine rq (out:=Pr.bool false) aj ?_
 refine W_rs ?_
 refine rq (out:=br ae x1) ai ?_
 obtain⟨x2,hx2,h⟩:=ak h
 refine rq (out:=(af).val x2) (dt (cc x1 _ hx2)) ?_
 refine bi (R:=af) (z:=(ApiToken.mk 0 [] 0 [])) Tryz.zeroValue37 (fun _=>⟨_,⟨_,_,rfl,rfl,⟨_,_,rfl,rfl,⟨_,_,rfl,rfl,⟨_,_,rfl,rfl,rfl⟩⟩⟩⟩,rfl⟩) (fun b3=> ?_)
 refine a5 (R:=af) (R':=af) (a:=(ApiToken.mk 0 [] 0 [])) (y:=x2) 0 Tryz.sizeOf37 (Upd.refl _) ?_
 refine cd (fun e C=>∃(x8:Bool),dh x8=some r/\At [(2,Pr.bool x8)] [Own.box b3 af x2] e C) ?_ ?_
 ·rintro e C ⟨x8,h,hat1⟩
  refine W_at hat1 ?_
  clear hat1
  unfold dh at h
  obtain rfl:=Option.some.inj h
  exact bp ⟨rfl,aa⟩
 refine W_r ?_
 refine rq (out:=(af).val x2) (a7 (R:=af) (a:=x2) (R':=af) 0 ty37 (Sub.refl _)) ?_
 obtain⟨x4,hx4,h⟩:=ak h
 refine rq (out:=Pr.bool x4) (dt (parse_isType_ok x2 _ hx4)) ?_
 refine rq (out:=Pr.bool x4) ai ?_
 rcases bk h with⟨hc5,h⟩|⟨hc5,h⟩
 ·refine rqg hc5 (out:=al b3 0) (a3 fld37_0) ?_
  refine rqg hc5 (out:=Pr.i64 x2.Kind) (a7 (R:=af) (a:=x2) (R':=Rp.int .i64) 0 ty3 di) ?_
  refine rqg hc5 (out:=Pr.bool (x2.Kind != 1)) qInt ?_
  refine rqg hc5 (out:=Pr.bool (x2.Kind != 1)) ai ?_
  rcases bk h with⟨hc6,h⟩|⟨hc6,h⟩
  ·refine rno (neF hc6) ?_
   refine rno (neF hc6) ?_
   refine rno (neF hc6) ?_
   refine rno (neF hc6) ?_
   refine rqg hc5 (out:=Pr.bool true) (bg hc6) ?_
   refine rq (out:=Pr.bool true) (bg hc5) ?_
   refine rq (out:=Pr.bool true) aj ?_
   exact⟨true,h,⟨⟨aa,trivial⟩,Pick.refl _⟩⟩
  refine rqg hc6 (out:=br ae x1) ai ?_
  obtain⟨x7,hx7,h⟩:=ak h
  refine rqg hc6 (out:=(af).val x7) (dt (parse_parser_ahead_ok x1 1 _ hx7)) ?_
  refine rqg hc6 (out:=Pr.i64 x7.Kind) (qField (R:=af) (R':=Rp.int .i64) (a:=x7) rfl fld37_0 di (Nat.le_of_ble_eq_true rfl)) ?_
  refine rqg hc6 (out:=Pr.bool (x7.Kind==1)) qInt ?_
  refine rqg hc5 (out:=Pr.bool (x7.Kind==1)) (ax hc6) ?_
  refine rq (out:=Pr.bool (x7.Kind==1)) (bg hc5) ?_
  refine rq (out:=Pr.bool (x7.Kind==1)) aj ?_
  exact⟨x7.Kind==1,h,⟨⟨aa,trivial⟩,Pick.refl _⟩⟩
 refine rno (neT hc5) ?_
 refine rno (neT hc5) ?_
 refine rno (neT hc5) ?_
 refine rno (neT hc5) ?_
 refine rnoU ?_
 refine rnoU ?_
 refine rnoU ?_
 refine rnoU ?_
 refine rno (neT hc5) ?_
 refine rq (out:=Pr.bool false) (ax hc5) ?_
 refine rq (out:=Pr.bool false) aj ?_
 exact⟨false,h,⟨⟨aa,trivial⟩,Pick.refl _⟩⟩
theorem parse_binds_ok (x1:ApiToken) (r:Int) (h:ji x1=some r):FnP Tryz.prog 55 [(af).val x1] (Pr.i64 r):=by
 refine de (n:=27) (rs:=[2]) Tryz.func55 rfl Tryz.ntmps55 ⟨by decide,Tryz.results55⟩ (by decide) (fun s0=> ?_)
 unfold ji at h
 refine W_rs ?_
 refine rBox (R:=af) (a:=x1) rfl (fun b2=> ?_)
 refine rq (out:=Pr.i64 0) aj ?_
 refine c0 ?_
 refine W_rs ?_
 refine rq (out:=al b2 0) (a3 fld37_0) ?_
 refine rq (out:=Pr.i64 x1.Kind) (a7 (R:=af) (a:=x1) (R':=Rp.int .i64) 0 ty3 di) ?_
 refine rq (out:=Pr.bool (x1.Kind != 4)) qInt ?_
 refine a8 (b:=x1.Kind != 4) rfl (fun hc3=> ?_) (fun hc3=> ?_)
 ·replace h:=iteT hc3 h
  refine W_rs ?_
  refine rq (out:=Pr.i64 0) aj ?_
  obtain rfl:=Option.some.inj h
  exact bp ⟨rfl,aa⟩
 replace h:=iteF hc3 h
 refine bj ?_
 refine c0 ?_
 refine W_rs ?_
 refine rq (out:=al b2 1) (a3 fld37_1) ?_
 refine rq (out:=ar x1.Text) (a7 (R:=af) (a:=x1) (R':=bh) 0 ty9 subApiToken_Text) ?_
 refine bu ?_
 refine W_rs ?_
 refine rq (out:=Pr.bool (x1.Text==([124,124]:List UInt8))) qStr ?_
 refine rq (out:=Pr.bool (x1.Text==([124,124]:List UInt8))) aj ?_
 refine a8 (b:=x1.Text==([124,124]:List UInt8)) rfl (fun hc4=> ?_) (fun hc4=> ?_)
 ·replace h:=iteT hc4 h
  refine W_rs ?_
  refine rq (out:=Pr.i64 1) aj ?_
  obtain rfl:=Option.some.inj h
  exact bp ⟨rfl,aa⟩
 replace h:=iteF hc4 h
 refine W_rs ?_
 refine rq (out:=Pr.bool (x1.Text==([38,38]:List UInt8))) qStr ?_
 refine rq (out:=Pr.bool (x1.Text==([38,38]:List UInt8))) aj ?_
 refine a8 (b:=x1.Text==([38,38]:List UInt8)) rfl (fun hc5=> ?_) (fun hc5=> ?_)
 ·replace h:=iteT hc5 h
  refine W_rs ?_
  refine rq (out:=Pr.i64 2) aj ?_
  obtain rfl:=Option.some.inj h
  exact bp ⟨rfl,aa⟩
 replace h:=iteF hc5 h
 refine cd (fun e C=>∃(x7:Bool),ju x1 x7=some r/\At [(7,ar x1.Text),(12,Pr.bool x7)] [Own.box b2 af x1] e C) ?_ ?_
 ·rintro e C ⟨x7,h,hat4⟩
  refine W_at hat4 ?_
  clear hat4
  unfold ju at h
  refine a8 (b:=x7) rfl (fun hc8=> ?_) (fun hc8=> ?_)
  ·replace h:=iteT hc8 h
   refine W_rs ?_
   refine rq (out:=Pr.i64 3) aj ?_
   obtain rfl:=Option.some.inj h
   exact bp ⟨rfl,aa⟩
  replace h:=iteF hc8 h
  refine cd (fun e C=>∃(x12:Bool),gm x1 x12=some r/\At [(7,ar x1.Text),(15,Pr.bool x12)] [Own.box b2 af x1] e C) ?_ ?_
  ·rintro e C ⟨x12,h,hat3⟩
   refine W_at hat3 ?_
   clear hat3
   unfold gm at h
   refine a8 (b:=x12) rfl (fun hc13=> ?_) (fun hc13=> ?_)
   ·replace h:=iteT hc13 h
    refine W_rs ?_
    refine rq (out:=Pr.i64 4) aj ?_
    obtain rfl:=Option.some.inj h
    exact bp ⟨rfl,aa⟩
   replace h:=iteF hc13 h
   refine cd (fun e C=>∃(x15:Bool),jv x1 x15=some r/\At [(7,ar x1.Text),(20,Pr.bool x15)] [Own.box b2 af x1] e C) ?_ ?_
   ·rintro e C ⟨x15,h,hat2⟩
    refine W_at hat2 ?_
    clear hat2
    unfold jv at h
    refine a8 (b:=x15) rfl (fun hc16=> ?_) (fun hc16=> ?_)
    ·replace h:=iteT hc16 h
     refine W_rs ?_
     refine rq (out:=Pr.i64 5) aj ?_
     obtain rfl:=Option.some.inj h
     exact bp ⟨rfl,aa⟩
    replace h:=iteF hc16 h
    refine cd (fun e C=>∃(x19:Bool),i4 x19=some r/\At [(23,Pr.bool x19)] [Own.box b2 af x1] e C) ?_ ?_
    ·rintro e C ⟨x19,h,hat1⟩
     refine W_at hat1 ?_
     clear hat1
     unfold i4 at h
     refine a8 (b:=x19) rfl (fun hc20=> ?_) (fun hc20=> ?_)
     ·replace h:=iteT hc20 h
      refine W_rs ?_
      refine rq (out:=Pr.i64 6) aj ?_
      obtain rfl:=Option.some.inj h
      exact bp ⟨rfl,aa⟩
     replace h:=iteF hc20 h
     refine bj ?_
     refine W_rs ?_
     refine rq (out:=Pr.i64 0) aj ?_
     obtain rfl:=Option.some.inj h
     exact bp ⟨rfl,aa⟩
    refine W_rs ?_
    refine rq (out:=Pr.bool (x1.Text==([42]:List UInt8))) qStr ?_
    refine rq (out:=Pr.bool (x1.Text==([42]:List UInt8))) aj ?_
    refine a8 (b:=x1.Text==([42]:List UInt8)) rfl (fun hc17=> ?_) (fun hc17=> ?_)
    ·replace h:=iteT hc17 h
     refine bj ?_
     exact⟨x1.Text==([42]:List UInt8),h,⟨⟨aa,trivial⟩,Pick.refl _⟩⟩
    replace h:=iteF hc17 h
    refine W_rs ?_
    refine rq (out:=Pr.bool (x1.Text==([47]:List UInt8))) qStr ?_
    refine rq (out:=Pr.bool (x1.Text==([47]:List UInt8))) aj ?_
    refine a8 (b:=x1.Text==([47]:List UInt8)) rfl (fun hc18=> ?_) (fun hc18=> ?_)
    ·replace h:=iteT hc18 h
     refine bj ?_
     exact⟨x1.Text==([47]:List UInt8),h,⟨⟨aa,trivial⟩,Pick.refl _⟩⟩
    replace h:=iteF hc18 h
    refine W_r ?_
    refine rq (out:=Pr.bool (x1.Text==([37]:List UInt8))) qStr ?_
    refine rq (out:=Pr.bool (x1.Text==([37]:List UInt8))) aj ?_
    exact⟨x1.Text==([37]:List UInt8),h,⟨⟨aa,trivial⟩,Pick.refl _⟩⟩
   refine W_rs ?_
   refine rq (out:=Pr.bool (x1.Text==([43]:List UInt8))) qStr ?_
   refine rq (out:=Pr.bool (x1.Text==([43]:List UInt8))) aj ?_
   refine a8 (b:=x1.Text==([43]:List UInt8)) rfl (fun hc14=> ?_) (fun hc14=> ?_)
   ·replace h:=iteT hc14 h
    refine bj ?_
    exact⟨x1.Text==([43]:List UInt8),h,⟨⟨aa,aa,trivial⟩,Pick.refl _⟩⟩
   replace h:=iteF hc14 h
   refine W_r ?_
   refine rq (out:=Pr.bool (x1.Text==([45]:List UInt8))) qStr ?_
   refine rq (out:=Pr.bool (x1.Text==([45]:List UInt8))) aj ?_
   exact⟨x1.Text==([45]:List UInt8),h,⟨⟨aa,aa,trivial⟩,Pick.refl _⟩⟩
  refine W_rs ?_
  refine rq (out:=Pr.bool (x1.Text==([60]:List UInt8))) qStr ?_
  refine rq (out:=Pr.bool (x1.Text==([60]:List UInt8))) aj ?_
  refine a8 (b:=x1.Text==([60]:List UInt8)) rfl (fun hc9=> ?_) (fun hc9=> ?_)
  ·replace h:=iteT hc9 h
   refine bj ?_
   exact⟨x1.Text==([60]:List UInt8),h,⟨⟨aa,aa,trivial⟩,Pick.refl _⟩⟩
  replace h:=iteF hc9 h
  refine W_rs ?_
  refine rq (out:=Pr.bool (x1.Text==([60,61]:List UInt8))) qStr ?_
  refine rq (out:=Pr.bool (x1.Text==([60,61]:List UInt8))) aj ?_
  refine a8 (b:=x1.Text==([60,61]:List UInt8)) rfl (fun hc10=> ?_) (fun hc10=> ?_)
  ·replace h:=iteT hc10 h
   refine bj ?_
   exact⟨x1.Text==([60,61]:List UInt8),h,⟨⟨aa,aa,trivial⟩,Pick.refl _⟩⟩
  replace h:=iteF hc10 h
  refine W_rs ?_
  refine rq (out:=Pr.bool (x1.Text==([62]:List UInt8))) qStr ?_
  refine rq (out:=Pr.bool (x1.Text==([62]:List UInt8))) aj ?_
  refine a8 (b:=x1.Text==([62]:List UInt8)) rfl (fun hc11=> ?_) (fun hc11=> ?_)
  ·replace h:=iteT hc11 h
   refine bj ?_
   exact⟨x1.Text==([62]:List UInt8),h,⟨⟨aa,aa,trivial⟩,Pick.refl _⟩⟩
  replace h:=iteF hc11 h
  refine W_r ?_
  refine rq (out:=Pr.bool (x1.Text==([62,61]:List UInt8))) qStr ?_
  refine rq (out:=Pr.bool (x1.Text==([62,61]:List UInt8))) aj ?_
  exact⟨x1.Text==([62,61]:List UInt8),h,⟨⟨aa,aa,trivial⟩,Pick.refl _⟩⟩
 refine W_rs ?_
 refine rq (out:=Pr.bool (x1.Text==([61,61]:List UInt8))) qStr ?_
 refine rq (out:=Pr.bool (x1.Text==([61,61]:List UInt8))) aj ?_
 refine a8 (b:=x1.Text==([61,61]:List UInt8)) rfl (fun hc6=> ?_) (fun hc6=> ?_)
 ·replace h:=iteT hc6 h
  refine bj ?_
  exact⟨x1.Text==([61,61]:List UInt8),h,⟨⟨aa,aa,trivial⟩,Pick.refl _⟩⟩
 replace h:=iteF hc6 h
 refine W_r ?_
 refine rq (out:=Pr.bool (x1.Text==([33,61]:List UInt8))) qStr ?_
 refine rq (out:=Pr.bool (x1.Text==([33,61]:List UInt8))) aj ?_
 exact⟨x1.Text==([33,61]:List UInt8),h,⟨⟨aa,aa,trivial⟩,Pick.refl _⟩⟩
theorem eu (x1:Int) (x3:ParseParser) (b2:Nat) (r:PX ParseWrong ParseParser) (h:ed x1 x3=some r):FnX Tryz.prog 64 [al b2 0,Pr.i64 x1] [Own.box b2 ae x3] (fun q C'=>∃a9,r= .ok a9/\q=cj []/\C'=[Own.box b2 ae a9]) (fun v=>∃m,r= .bad m/\v=cv m):=by
 refine fnx_introP (n:=8) (rs:=[]) Tryz.func64 rfl Tryz.ntmps64 ⟨by decide,Tryz.results64⟩ (by decide) (fun s0=> ?_)
 unfold ed at h
 refine W_rs ?_
 refine rq (out:=Pr.i64 x1) ai ?_
 refine rq (out:=Pr.bool (decide (x1>60))) qInt ?_
 refine a8 (b:=decide (x1>60)) rfl (fun hc4=> ?_) (fun hc4=> ?_)
 ·replace h:=iteT hc4 h
  refine W_r ?_
  refine rq (out:=al b2 0) ai ?_
  rcases aq h with⟨m6,hm6,h⟩|⟨x5,hx5,h⟩
  ·refine az [0] (bd 2 x3 b2 _ hm6) ⟨aa,aa,trivial⟩ (fun q C' hq=> ?_) (fun v9 hv=> ?_)
   ·obtain⟨_,h9,_⟩:=hq;cases h9
   obtain⟨_,h9,rfl⟩:=hv
   cases h9
   obtain rfl:=Option.some.inj h
   exact .inr ⟨_,rfl,_,rfl,rfl⟩
  refine az [0] (bd 2 x3 b2 _ hx5) ⟨aa,aa,trivial⟩ (fun q C' hq=> ?_) (fun v9 hv=>by obtain⟨_,h9,_⟩:=hv;cases h9)
  obtain⟨_,h9,rfl,rfl⟩:=hq
  cases h9
  refine rCtx [Own.box b2 ae x5] ?_
  obtain rfl:=Option.some.inj h
  exact(.inl ⟨.inr rfl,_,Pick.refl _,_,aa,_,rfl,rfl,rfl⟩)
 replace h:=iteF hc4 h
 refine bj ?_
 obtain rfl:=Option.some.inj h
 exact(.inl ⟨.inr rfl,_,Pick.refl _,_,aa,_,rfl,rfl,rfl⟩)
theorem parse_words_ok (r:(SMap ApiNode)) (h:parse_words=some r):FnP Tryz.prog 80 [] (Pr.mapS rApiNode r):=by
 refine de (n:=7) (rs:=[0]) Tryz.func80 rfl Tryz.ntmps80 ⟨by decide,Tryz.results80⟩ (by decide) (fun s0=> ?_)
 unfold parse_words at h
 refine W_rs ?_
 refine rq (out:=Pr.is (.map none)) aj ?_
 refine W_rs ?_
 refine rMakeMap rApiNode (fun b1=> ?_)
 refine rq (out:=(rApiNode).val (ApiNode.mk 14 [] [] 1 0 0 0 0 [])) (qBuildR ap st32 ⟨(ApiNode.mk 14 [] [] 0 0 0 0 0 []),⟨_,rfl,rfl,fun j fd hj hf=>by match j,hj with| 0,h=>exact absurd rfl h| 1,_=>cases hf;rfl| 2,_=>cases hf;rfl| 3,_=>cases hf;rfl| 4,_=>cases hf;rfl| 5,_=>cases hf;rfl| 6,_=>cases hf;rfl| 7,_=>cases hf;rfl| 8,_=>cases hf;rfl|_+9,_=>cases hf⟩,⟨(ApiNode.mk 14 [] [] 1 0 0 0 0 []),⟨_,rfl,rfl,fun j fd hj hf=>by match j,hj with| 0,_=>cases hf;rfl| 1,_=>cases hf;rfl| 2,_=>cases hf;rfl| 3,h=>exact absurd rfl h| 4,_=>cases hf;rfl| 5,_=>cases hf;rfl| 6,_=>cases hf;rfl| 7,_=>cases hf;rfl| 8,_=>cases hf;rfl|_+9,_=>cases hf⟩,rfl⟩⟩) ?_
 refine rMapIns (R:=rApiNode) (m:=([]:SMap ApiNode)) (kx:=([116,114,117,101]:List UInt8)) (v:=(ApiNode.mk 14 [] [] 1 0 0 0 0 [])) 0 Tryz.underlying94 Tryz.underlying9 ?_
 refine rq (out:=(rApiNode).val (ApiNode.mk 14 [] [] 0 0 0 0 0 [])) (qBuildR ap st32 ⟨(ApiNode.mk 14 [] [] 0 0 0 0 0 []),⟨_,rfl,rfl,fun j fd hj hf=>by match j,hj with| 0,h=>exact absurd rfl h| 1,_=>cases hf;rfl| 2,_=>cases hf;rfl| 3,_=>cases hf;rfl| 4,_=>cases hf;rfl| 5,_=>cases hf;rfl| 6,_=>cases hf;rfl| 7,_=>cases hf;rfl| 8,_=>cases hf;rfl|_+9,_=>cases hf⟩,rfl⟩) ?_
 refine rMapIns (R:=rApiNode) (m:=(mset ([116,114,117,101]:List UInt8) (ApiNode.mk 14 [] [] 1 0 0 0 0 []) ([]:SMap ApiNode))) (kx:=([102,97,108,115,101]:List UInt8)) (v:=(ApiNode.mk 14 [] [] 0 0 0 0 0 [])) 0 Tryz.underlying94 Tryz.underlying9 ?_
 refine rq (out:=(rApiNode).val (ApiNode.mk 15 [] [] 0 0 0 0 0 [])) (qBuildR ap st32 ⟨(ApiNode.mk 15 [] [] 0 0 0 0 0 []),⟨_,rfl,rfl,fun j fd hj hf=>by match j,hj with| 0,h=>exact absurd rfl h| 1,_=>cases hf;rfl| 2,_=>cases hf;rfl| 3,_=>cases hf;rfl| 4,_=>cases hf;rfl| 5,_=>cases hf;rfl| 6,_=>cases hf;rfl| 7,_=>cases hf;rfl| 8,_=>cases hf;rfl|_+9,_=>cases hf⟩,rfl⟩) ?_
 refine rMapIns (R:=rApiNode) (m:=(mset ([102,97,108,115,101]:List UInt8) (ApiNode.mk 14 [] [] 0 0 0 0 0 []) (mset ([116,114,117,101]:List UInt8) (ApiNode.mk 14 [] [] 1 0 0 0 0 []) ([]:SMap ApiNode)))) (kx:=([110,117,108,108]:List UInt8)) (v:=(ApiNode.mk 15 [] [] 0 0 0 0 0 [])) 0 Tryz.underlying94 Tryz.underlying9 ?_
 refine rq (out:=(rApiNode).val (ApiNode.mk 16 [] [] 0 0 0 0 0 [])) (qBuildR ap st32 ⟨(ApiNode.mk 16 [] [] 0 0 0 0 0 []),⟨_,rfl,rfl,fun j fd hj hf=>by match j,hj with| 0,h=>exact absurd rfl h| 1,_=>cases hf;rfl| 2,_=>cases hf;rfl| 3,_=>cases hf;rfl| 4,_=>cases hf;rfl| 5,_=>cases hf;rfl| 6,_=>cases hf;rfl| 7,_=>cases hf;rfl| 8,_=>cases hf;rfl|_+9,_=>cases hf⟩,rfl⟩) ?_
 refine rMapIns (R:=rApiNode) (m:=(mset ([110,117,108,108]:List UInt8) (ApiNode.mk 15 [] [] 0 0 0 0 0 []) (mset ([102,97,108,115,101]:List UInt8) (ApiNode.mk 14 [] [] 0 0 0 0 0 []) (mset ([116,114,117,101]:List UInt8) (ApiNode.mk 14 [] [] 1 0 0 0 0 []) ([]:SMap ApiNode))))) (kx:=([116,104,105,115]:List UInt8)) (v:=(ApiNode.mk 16 [] [] 0 0 0 0 0 [])) 0 Tryz.underlying94 Tryz.underlying9 ?_
 refine rq (out:=Pr.mp b1) ai ?_
 refine rq (out:=Pr.mp b1) aj ?_
 refine W_relM 0 [0] ?_ rfl ⟨rfl,trivial⟩
 obtain rfl:=Option.some.inj h
 exact bp ⟨rfl,aa⟩
end Go.Proofs.YtackaijkmkollaaGreatDoor
