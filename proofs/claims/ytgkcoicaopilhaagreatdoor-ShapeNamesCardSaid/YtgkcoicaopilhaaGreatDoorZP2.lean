/- The code comes to what these functions say (printed by wip/gen/gen.py). -/
import Derived.Test.YtgkcoicaopilhaaGreatDoorZP1
import Derived.Test.YtgkcoicaopilhaaGreatDoorZT
set_option linter.unusedSimpArgs false
set_option linter.unusedVariables false
set_option linter.unusedSectionVars false
set_option linter.unusedSectionVars false
set_option maxRecDepth 100000
set_option maxHeartbeats 4000000
namespace Go.Proofs.YtgkcoicaopilhaaGreatDoor
open Go Go.Cn
theorem lex_between_1_ok (x1:Int) (r:Bool) (h:l9 x1=some r):FnP Tryz.prog 76 [Pr.u8 x1] (Pr.bool r):=by
 refine bo (n:=5) (rs:=[2]) Tryz.func76 rfl Tryz.ntmps76 ⟨by decide,Tryz.results76⟩ (by decide) (fun s0=> ?_)
 unfold l9 at h
 refine W_rs ?_
 refine rq (out:=Pr.bool false) ae ?_
 refine W_rs ?_
 refine rq (out:=Pr.u8 x1) ag ?_
 refine rq (out:=Pr.bool (x1 != 10)) qInt ?_
 refine rq (out:=Pr.bool (x1 != 10)) ae ?_
 obtain rfl:=Option.some.inj h
 exact a6 ⟨rfl,aa⟩
theorem lex_between_ok (x1:List UInt8) (r:Int × Bool) (h:lex_between x1=some r):FnP Tryz.prog 53 [ai x1] (bh [Pr.i64 r.1,Pr.bool r.2]):=by
 refine bo (n:=48) (rs:=[2,3]) Tryz.func53 rfl Tryz.ntmps53 ⟨by decide,Tryz.results53⟩ (by decide) (fun s0=> ?_)
 unfold lex_between at h
 refine W_rs ?_
 refine rq (out:=Pr.i64 0) ae ?_
 refine rq (out:=Pr.bool false) ae ?_
 refine W_scope ?_
 refine W_rs ?_
 refine rq (out:=Pr.i64 0) ae ?_
 refine a5 ?_
 refine W_label ?_
 refine bc (fun e C=>∃(x2:Int),lex_between_j1 x2=some r/\At [(4,Pr.i64 x2)] [] e C) ?_ ?_
 ·rintro e C ⟨x2,h,hat1⟩
  refine W_at hat1 ?_
  clear hat1
  unfold lex_between_j1 at h
  refine W_rs ?_
  refine rq (out:=Pr.i64 x2) ag ?_
  refine rq (out:=Pr.i64 x2) ae ?_
  refine rq (out:=Pr.bool true) ae ?_
  obtain rfl:=Option.some.inj h
  exact a6 ⟨rfl,aa⟩
 refine az ?_
 obtain⟨z3l,hz3,h⟩:=af h
 obtain⟨n3,hN3⟩:=cc hz3
 clear hz3
 refine du 0 (fun e C=>∃(x2:Int),lex_between_k2 x2=some r/\At [(4,Pr.i64 x2)] [] e C) ?_ ?_
 ·rintro e C ⟨x2,h,hat2⟩
  unfold lex_between_k2 at h
  exact⟨x2,h,(At.trans hat2 ⟨⟨aa,trivial⟩,Pick.refl _⟩)⟩
 refine eh (fun m e C=>∃(x2:Int),en (fun s=>k3 x1 s) m x2=some z3l/\At [(0,ai x1),(4,Pr.i64 x2)] [] e C) n3 ⟨0,hN3,⟨⟨aa,aa,trivial⟩,Pick.refl _⟩⟩ ?_
 clear hN3
 rintro m e C ⟨x2,hN3,hatl3⟩
 refine W_at hatl3 ?_
 clear hatl3
 obtain⟨m3,w3l,rfl,h3l,hn3,ho3⟩:=bx hN3
 clear hN3
 replace h3l:k3 x1 x2=some w3l:=h3l
 unfold k3 at h3l
 refine a5 ?_
 refine W_rs ?_
 refine rq (out:=Pr.i64 x2) ag ?_
 refine rq (out:=ai x1) ag ?_
 refine rq (out:=Pr.i64 (x1.length:Int)) (qLenS rfl Tryz.underlying9) ?_
 refine rq (out:=Pr.bool (decide (x2<(x1.length:Int)))) qInt ?_
 refine ao (b:=decide (x2<(x1.length:Int))) rfl (fun hc4=> ?_) (fun hc4=> ?_)
 ·replace h3l:=iteT hc4 h3l
  refine au ?_
  refine az ?_
  refine W_rs ?_
  refine rq (out:=ai x1) ag ?_
  refine rq (out:=Pr.i64 x2) ag ?_
  obtain⟨x5,hx5,h3l⟩:=af h3l
  refine rq (out:=ai x5) (qSubL Tryz.underlying9 hx5) ?_
  refine rq (out:=ai x5) ae ?_
  refine a5 ?_
  refine az ?_
  refine W_rs ?_
  refine rq (out:=ai x5) ag ?_
  obtain⟨x6,hx6,h3l⟩:=af h3l
  refine rq (out:=Pr.bool x6) (aw (mf x5 ([47,47]:List UInt8) _ hx6)) ?_
  refine rq (out:=Pr.bool x6) ae ?_
  refine ao (b:=x6) rfl (fun hc7=> ?_) (fun hc7=> ?_)
  ·replace h3l:=iteT hc7 h3l
   refine W_rs ?_
   refine rq (out:=Pr.i64 x2) ag ?_
   refine rq (out:=ai x5) ag ?_
   obtain⟨x8,hx8,h3l⟩:=af h3l
   refine rq (out:=Pr.i64 x8) (mc (lex_run_ok x5 l9 _ hx8) ⟨aa,(is_pfn en76 (fun _ _ hs=>by obtain⟨a0,r,rfl,rfl,hr⟩:=hs;exact lex_between_1_ok a0 r hr)),trivial⟩) ?_
   refine rq (out:=Pr.i64 (w64 (x2+x8))) qInt ?_
   refine rq (out:=Pr.i64 (w64 (x2+x8))) ae ?_
   refine dg ?_
   exact⟨m3,Nat.lt_succ_self _,w64 (x2+x8),hn3 _ (Option.some.inj h3l).symm,⟨⟨aa,aa,trivial⟩,Pick.refl _⟩⟩
  replace h3l:=iteF hc7 h3l
  refine W_rs ?_
  refine rq (out:=ai x5) ag ?_
  obtain⟨x9,hx9,h3l⟩:=af h3l
  refine rq (out:=Pr.bool x9) (aw (mf x5 ([47,42]:List UInt8) _ hx9)) ?_
  refine rq (out:=Pr.bool x9) ae ?_
  refine ao (b:=x9) rfl (fun hc10=> ?_) (fun hc10=> ?_)
  ·replace h3l:=iteT hc10 h3l
   refine W_rs ?_
   refine rq (out:=ai x5) ag ?_
   obtain⟨x11,hx11,h3l⟩:=af h3l
   refine rq (out:=ai x11) (qSubL Tryz.underlying9 hx11) ?_
   obtain⟨x12,hx12,h3l⟩:=af h3l
   refine rq (out:=Pr.i64 x12) (aw (strings_Index_ok x11 ([42,47]:List UInt8) _ hx12)) ?_
   refine rq (out:=Pr.i64 x12) ae ?_
   refine a5 ?_
   refine W_rs ?_
   refine rq (out:=Pr.i64 x12) ag ?_
   refine rq (out:=Pr.bool (decide (x12<0))) qInt ?_
   refine ao (b:=decide (x12<0)) rfl (fun hc13=> ?_) (fun hc13=> ?_)
   ·replace h3l:=iteT hc13 h3l
    refine W_rs ?_
    refine rq (out:=Pr.i64 x2) ag ?_
    refine rq (out:=Pr.i64 x2) ae ?_
    refine rq (out:=Pr.bool false) ae ?_
    obtain rfl:=ho3 _ (Option.some.inj h3l).symm
    replace h:some (x2,false)=some r:=h
    obtain rfl:=Option.some.inj h
    exact a6 ⟨rfl,aa⟩
   replace h3l:=iteF hc13 h3l
   refine au ?_
   refine W_rs ?_
   refine rq (out:=Pr.i64 x2) ag ?_
   refine rq (out:=Pr.i64 x12) ag ?_
   refine rq (out:=Pr.i64 (w64 (2+x12))) qInt ?_
   refine rq (out:=Pr.i64 (w64 ((w64 (2+x12))+2))) qInt ?_
   refine rq (out:=Pr.i64 (w64 (x2+(w64 ((w64 (2+x12))+2))))) qInt ?_
   refine rq (out:=Pr.i64 (w64 (x2+(w64 ((w64 (2+x12))+2))))) ae ?_
   refine dg ?_
   exact⟨m3,Nat.lt_succ_self _,w64 (x2+(w64 ((w64 (2+x12))+2))),hn3 _ (Option.some.inj h3l).symm,⟨⟨aa,aa,trivial⟩,Pick.refl _⟩⟩
  replace h3l:=iteF hc10 h3l
  refine au ?_
  refine W_rs ?_
  refine rq (out:=ai x5) ag ?_
  obtain⟨x14,hx14,h3l⟩:=af h3l
  refine rq (out:=Pr.u8 x14) (qIdxS Tryz.underlying9 hx14) ?_
  refine az ?_
  refine a5 ?_
  refine az ?_
  refine bc (fun e C=>i7 x2=some w3l/\At [(0,ai x1),(4,Pr.i64 x2)] [] e C) ?_ ?_
  ·rintro e C ⟨h3l,hat4⟩
   refine W_at hat4 ?_
   clear hat4
   unfold i7 at h3l
   refine W_rs ?_
   refine rq (out:=Pr.i64 x2) ag ?_
   refine rq (out:=Pr.i64 (w64 (x2+1))) qInt ?_
   refine rq (out:=Pr.i64 (w64 (x2+1))) ae ?_
   refine dg ?_
   exact⟨m3,Nat.lt_succ_self _,w64 (x2+1),hn3 _ (Option.some.inj h3l).symm,⟨⟨aa,aa,trivial⟩,Pick.refl _⟩⟩
  refine az ?_
  refine az ?_
  refine az ?_
  refine az ?_
  refine a5 ?_
  refine a5 ?_
  refine W_rs ?_
  refine rq (out:=Pr.bool (x14==32)) qInt ?_
  refine rq (out:=Pr.bool (x14==32)) ae ?_
  refine ao (b:=x14==32) rfl (fun hc15=> ?_) (fun hc15=> ?_)
  ·replace h3l:=iteT hc15 h3l
   refine dg ?_
   exact⟨h3l,⟨⟨aa,aa,trivial⟩,Pick.refl _⟩⟩
  replace h3l:=iteF hc15 h3l
  refine au ?_
  refine a5 ?_
  refine W_rs ?_
  refine rq (out:=Pr.bool (x14==9)) qInt ?_
  refine rq (out:=Pr.bool (x14==9)) ae ?_
  refine ao (b:=x14==9) rfl (fun hc16=> ?_) (fun hc16=> ?_)
  ·replace h3l:=iteT hc16 h3l
   refine dg ?_
   exact⟨h3l,⟨⟨aa,aa,trivial⟩,Pick.refl _⟩⟩
  replace h3l:=iteF hc16 h3l
  refine au ?_
  refine a5 ?_
  refine W_rs ?_
  refine rq (out:=Pr.bool (x14==13)) qInt ?_
  refine rq (out:=Pr.bool (x14==13)) ae ?_
  refine ao (b:=x14==13) rfl (fun hc17=> ?_) (fun hc17=> ?_)
  ·replace h3l:=iteT hc17 h3l
   refine dg ?_
   exact⟨h3l,⟨⟨aa,aa,trivial⟩,Pick.refl _⟩⟩
  replace h3l:=iteF hc17 h3l
  refine au ?_
  refine W_rs ?_
  refine rq (out:=Pr.bool (x14==10)) qInt ?_
  refine rq (out:=Pr.bool (x14==10)) ae ?_
  refine ao (b:=x14==10) rfl (fun hc18=> ?_) (fun hc18=> ?_)
  ·replace h3l:=iteT hc18 h3l
   refine dg ?_
   exact⟨h3l,⟨⟨aa,aa,trivial⟩,Pick.refl _⟩⟩
  replace h3l:=iteF hc18 h3l
  refine au ?_
  refine dg ?_
  refine a5 ?_
  refine dg ?_
  obtain rfl:=ho3 _ (Option.some.inj h3l).symm
  exact⟨x2,h,⟨⟨aa,trivial⟩,Pick.refl _⟩⟩
 replace h3l:=iteF hc4 h3l
 refine dg ?_
 obtain rfl:=ho3 _ (Option.some.inj h3l).symm
 exact⟨x2,h,⟨⟨aa,trivial⟩,Pick.refl _⟩⟩
theorem lex_digit_ok (x1:Int) (r:Bool) (h:lex_digit x1=some r):FnP Tryz.prog 78 [Pr.u8 x1] (Pr.bool r):=by
 refine bo (n:=9) (rs:=[2]) Tryz.func78 rfl Tryz.ntmps78 ⟨by decide,Tryz.results78⟩ (by decide) (fun s0=> ?_)
 unfold lex_digit at h
 refine W_rs ?_
 refine rq (out:=Pr.bool false) ae ?_
 refine bc (fun e C=>∃(x3:Bool),lex_digit_j1 x3=some r/\At [(2,Pr.bool x3)] [] e C) ?_ ?_
 ·rintro e C ⟨x3,h,hat1⟩
  refine W_at hat1 ?_
  clear hat1
  unfold lex_digit_j1 at h
  obtain rfl:=Option.some.inj h
  exact a6 ⟨rfl,aa⟩
 refine W_r ?_
 refine rq (out:=Pr.u8 x1) ag ?_
 refine rq (out:=Pr.bool (decide (x1≥48))) qInt ?_
 refine rq (out:=Pr.bool (decide (x1≥48))) ag ?_
 rcases bv h with⟨hc2,h⟩|⟨hc2,h⟩
 ·refine rqg hc2 (out:=Pr.u8 x1) ag ?_
  refine rqg hc2 (out:=Pr.bool (decide (x1<=57))) qInt ?_
  refine rq (out:=Pr.bool (decide (x1<=57))) (bu hc2) ?_
  refine rq (out:=Pr.bool (decide (x1<=57))) ae ?_
  exact⟨decide (x1<=57),h,⟨⟨aa,trivial⟩,Pick.refl _⟩⟩
 refine rno (neT hc2) ?_
 refine rno (neT hc2) ?_
 refine rq (out:=Pr.bool false) (bp hc2) ?_
 refine rq (out:=Pr.bool false) ae ?_
 exact⟨false,h,⟨⟨aa,trivial⟩,Pick.refl _⟩⟩
theorem lex_letter_ok (x1:Int) (r:Bool) (h:lex_letter x1=some r):FnP Tryz.prog 80 [Pr.u8 x1] (Pr.bool r):=by
 refine bo (n:=15) (rs:=[2]) Tryz.func80 rfl Tryz.ntmps80 ⟨by decide,Tryz.results80⟩ (by decide) (fun s0=> ?_)
 unfold lex_letter at h
 refine W_rs ?_
 refine rq (out:=Pr.bool false) ae ?_
 refine bc (fun e C=>∃(x5:Bool),lex_letter_j1 x5=some r/\At [(2,Pr.bool x5)] [] e C) ?_ ?_
 ·rintro e C ⟨x5,h,hat1⟩
  refine W_at hat1 ?_
  clear hat1
  unfold lex_letter_j1 at h
  obtain rfl:=Option.some.inj h
  exact a6 ⟨rfl,aa⟩
 refine W_r ?_
 refine rq (out:=Pr.u8 x1) ag ?_
 refine rq (out:=Pr.u8 (bits .or .u8 x1 32)) (qBits (by simp) rfl) ?_
 refine rq (out:=Pr.bool (decide ((bits .or .u8 x1 32)≥97))) qInt ?_
 refine rq (out:=Pr.bool (decide ((bits .or .u8 x1 32)≥97))) ag ?_
 rcases bv h with⟨hc2,h⟩|⟨hc2,h⟩
 ·refine rqg hc2 (out:=Pr.u8 x1) ag ?_
  refine rqg hc2 (out:=Pr.u8 (bits .or .u8 x1 32)) (qBits (by simp) rfl) ?_
  refine rqg hc2 (out:=Pr.bool (decide ((bits .or .u8 x1 32)<=122))) qInt ?_
  refine rq (out:=Pr.bool (decide ((bits .or .u8 x1 32)<=122))) (bu hc2) ?_
  refine rq (out:=Pr.bool (decide ((bits .or .u8 x1 32)<=122))) ag ?_
  rcases bv h with⟨hc3,h⟩|⟨hc3,h⟩
  ·refine rno (neF hc3) ?_
   refine rno (neF hc3) ?_
   refine rq (out:=Pr.bool true) (bu hc3) ?_
   refine rq (out:=Pr.bool true) ae ?_
   exact⟨true,h,⟨⟨aa,trivial⟩,Pick.refl _⟩⟩
  refine rqg hc3 (out:=Pr.u8 x1) ag ?_
  refine rqg hc3 (out:=Pr.bool (x1==95)) qInt ?_
  refine rq (out:=Pr.bool (x1==95)) (bp hc3) ?_
  refine rq (out:=Pr.bool (x1==95)) ae ?_
  exact⟨x1==95,h,⟨⟨aa,trivial⟩,Pick.refl _⟩⟩
 refine rno (neT hc2) ?_
 refine rno (neT hc2) ?_
 refine rno (neT hc2) ?_
 refine rq (out:=Pr.bool false) (bp hc2) ?_
 refine rq (out:=Pr.bool false) ag ?_
 have hc4:false=false:=rfl
 refine rqg hc4 (out:=Pr.u8 x1) ag ?_
 refine rqg hc4 (out:=Pr.bool (x1==95)) qInt ?_
 refine rq (out:=Pr.bool (x1==95)) (bp hc4) ?_
 refine rq (out:=Pr.bool (x1==95)) ae ?_
 exact⟨x1==95,h,⟨⟨aa,trivial⟩,Pick.refl _⟩⟩
theorem lex_token_1_ok (x1:Int) (r:Bool) (h:ng x1=some r):FnP Tryz.prog 81 [Pr.u8 x1] (Pr.bool r):=by
 refine bo (n:=9) (rs:=[2]) Tryz.func81 rfl Tryz.ntmps81 ⟨by decide,Tryz.results81⟩ (by decide) (fun s0=> ?_)
 unfold ng at h
 refine W_rs ?_
 refine rq (out:=Pr.bool false) ae ?_
 refine bc (fun e C=>∃(x5:Bool),lex_token_1_j1 x5=some r/\At [(2,Pr.bool x5)] [] e C) ?_ ?_
 ·rintro e C ⟨x5,h,hat1⟩
  refine W_at hat1 ?_
  clear hat1
  unfold lex_token_1_j1 at h
  obtain rfl:=Option.some.inj h
  exact a6 ⟨rfl,aa⟩
 refine W_r ?_
 refine rq (out:=Pr.u8 x1) ag ?_
 obtain⟨x2,hx2,h⟩:=af h
 refine rq (out:=Pr.bool x2) (aw (lex_letter_ok x1 _ hx2)) ?_
 refine rq (out:=Pr.bool x2) ag ?_
 rcases bv h with⟨hc3,h⟩|⟨hc3,h⟩
 ·refine rno (neF hc3) ?_
  refine rno (neF hc3) ?_
  refine rq (out:=Pr.bool true) (bu hc3) ?_
  refine rq (out:=Pr.bool true) ae ?_
  exact⟨true,h,⟨⟨aa,trivial⟩,Pick.refl _⟩⟩
 refine rqg hc3 (out:=Pr.u8 x1) ag ?_
 obtain⟨x4,hx4,h⟩:=af h
 refine rqg hc3 (out:=Pr.bool x4) (aw (lex_digit_ok x1 _ hx4)) ?_
 refine rq (out:=Pr.bool x4) (bp hc3) ?_
 refine rq (out:=Pr.bool x4) ae ?_
 exact⟨x4,h,⟨⟨aa,trivial⟩,Pick.refl _⟩⟩
theorem slices_Index_string_string_ok (x1:List (List UInt8)) (x2:List UInt8) (r:Int) (h:ee x1 x2=some r):FnP Tryz.prog 123 [aj am x1,ai x2] (Pr.i64 r):=by
 refine bo (n:=19) (rs:=[4]) Tryz.func123 rfl Tryz.ntmps123 ⟨by decide,Tryz.results123⟩ (by decide) (fun s0=> ?_)
 unfold ee at h
 refine W_rs ?_
 refine rq (out:=Pr.i64 0) ae ?_
 refine a5 ?_
 refine W_rs ?_
 refine rq (out:=aj am x1) ag ?_
 refine rq (out:=Pr.i64 (x1.length:Int)) (fi rfl Tryz.underlying25) ?_
 refine rq (out:=Pr.i64 0) ag ?_
 refine az ?_
 obtain⟨z2l,hz2,h⟩:=af h
 obtain⟨n2,hN2⟩:=cc hz2
 clear hz2
 refine du 0 (fun e C=>eq=some r/\At [] [] e C) ?_ ?_
 ·rintro e C ⟨h,hat1⟩
  refine W_at hat1 ?_
  clear hat1
  unfold eq at h
  refine W_rs ?_
  refine rq (out:=Pr.i64 (-1)) ae ?_
  obtain rfl:=Option.some.inj h
  exact a6 ⟨rfl,aa⟩
 refine eh (fun m e C=>∃(x3:Int),en (fun s=>dh x1 x2 s) m x3=some z2l/\At [(0,aj am x1),(1,ai x2),(7,Pr.i64 (x1.length:Int)),(8,Pr.i64 x3)] [] e C) n2 ⟨0,hN2,⟨⟨aa,aa,aa,aa,trivial⟩,Pick.refl _⟩⟩ ?_
 clear hN2
 rintro m e C ⟨x3,hN2,hatl2⟩
 refine W_at hatl2 ?_
 clear hatl2
 obtain⟨m2,w2l,rfl,h2l,hn2,ho2⟩:=bx hN2
 clear hN2
 replace h2l:dh x1 x2 x3=some w2l:=h2l
 unfold dh at h2l
 refine W_rs ?_
 refine rq (out:=Pr.bool (decide (x3<(x1.length:Int)))) qInt ?_
 refine a5 ?_
 refine ao (b:=decide (x3<(x1.length:Int))) rfl (fun hc5=> ?_) (fun hc5=> ?_)
 ·replace h2l:=iteT hc5 h2l
  refine au ?_
  refine a5 ?_
  refine az ?_
  refine W_rs ?_
  refine rq (out:=Pr.i64 x3) ag ?_
  refine rq (out:=Pr.i64 x3) ae ?_
  refine W_rs ?_
  refine rq (out:=ai x2) ag ?_
  refine rq (out:=aj am x1) ag ?_
  refine rq (out:=Pr.i64 x3) ag ?_
  obtain⟨x6,hx6,h2l⟩:=af h2l
  refine rq (out:=bj am x6) (ef (R:=am) (l:=x1) Tryz.underlying25 Tryz.sizeOf9 hx6) ?_
  refine rq (out:=ai x6) (c5 (R:=am) (a:=x6) ty9) ?_
  refine rq (out:=Pr.bool (x2==x6)) qStr ?_
  refine ao (b:=x2==x6) rfl (fun hc7=> ?_) (fun hc7=> ?_)
  ·replace h2l:=iteT hc7 h2l
   refine W_rs ?_
   refine rq (out:=Pr.i64 x3) ag ?_
   refine rq (out:=Pr.i64 x3) ae ?_
   obtain rfl:=ho2 _ (Option.some.inj h2l).symm
   replace h:some x3=some r:=h
   obtain rfl:=Option.some.inj h
   exact a6 ⟨rfl,aa⟩
  replace h2l:=iteF hc7 h2l
  refine au ?_
  refine W_r ?_
  refine rq (out:=Pr.i64 (w64 (x3+1))) qInt ?_
  refine rq (out:=Pr.i64 (w64 (x3+1))) ag ?_
  exact⟨m2,Nat.lt_succ_self _,w64 (x3+1),hn2 _ (Option.some.inj h2l).symm,⟨⟨aa,aa,aa,aa,trivial⟩,Pick.refl _⟩⟩
 replace h2l:=iteF hc5 h2l
 refine dg ?_
 obtain rfl:=ho2 _ (Option.some.inj h2l).symm
 exact⟨h,⟨trivial,Pick.refl _⟩⟩
theorem slices_Contains_string_string_ok (x1:List (List UInt8)) (x2:List UInt8) (r:Bool) (h:dw x1 x2=some r):FnP Tryz.prog 104 [aj am x1,ai x2] (Pr.bool r):=by
 refine bo (n:=9) (rs:=[4]) Tryz.func104 rfl Tryz.ntmps104 ⟨by decide,Tryz.results104⟩ (by decide) (fun s0=> ?_)
 unfold dw at h
 refine W_rs ?_
 refine rq (out:=Pr.bool false) ae ?_
 refine W_rs ?_
 refine rq (out:=aj am x1) ag ?_
 refine rq (out:=ai x2) ag ?_
 obtain⟨x3,hx3,h⟩:=af h
 refine rq (out:=Pr.i64 x3) (aw (slices_Index_string_string_ok x1 x2 _ hx3)) ?_
 refine rq (out:=Pr.bool (decide (x3≥0))) qInt ?_
 refine rq (out:=Pr.bool (decide (x3≥0))) ae ?_
 obtain rfl:=Option.some.inj h
 exact a6 ⟨rfl,aa⟩
theorem lex_Kept_ok (x1:List UInt8) (r:Bool) (h:lex_Kept x1=some r):FnP Tryz.prog 82 [ai x1] (Pr.bool r):=by
 refine bo (n:=6) (rs:=[2]) Tryz.func82 rfl Tryz.ntmps82 ⟨by decide,Tryz.results82⟩ (by decide) (fun s0=> ?_)
 unfold lex_Kept at h
 refine W_rs ?_
 refine rq (out:=Pr.bool false) ae ?_
 refine W_rs ?_
 refine rq (out:=aj am kept) (qGSlice (R:=am) (L:=kept) gKept Tryz.underlying116 Tryz.sizeOf9 rfl) ?_
 refine rq (out:=ai x1) ag ?_
 obtain⟨x2,hx2,h⟩:=af h
 refine rq (out:=Pr.bool x2) (aw (slices_Contains_string_string_ok kept x1 _ hx2)) ?_
 refine rq (out:=Pr.bool x2) ae ?_
 obtain rfl:=Option.some.inj h
 exact a6 ⟨rfl,aa⟩
theorem lex_mark_ok (x1:List UInt8) (r:Int) (h:lex_mark x1=some r):FnP Tryz.prog 83 [ai x1] (Pr.i64 r):=by
 refine bo (n:=19) (rs:=[2]) Tryz.func83 rfl Tryz.ntmps83 ⟨by decide,Tryz.results83⟩ (by decide) (fun s0=> ?_)
 unfold lex_mark at h
 refine W_rs ?_
 refine rq (out:=Pr.i64 0) ae ?_
 refine a5 ?_
 refine W_rs ?_
 refine rq (out:=aj am ([([61,61]:List UInt8),([33,61]:List UInt8),([60,61]:List UInt8),([62,61]:List UInt8),([38,38]:List UInt8),([124,124]:List UInt8)]:List (List UInt8))) (fo (R:=am) (ls:=([([61,61]:List UInt8),([33,61]:List UInt8),([60,61]:List UInt8),([62,61]:List UInt8),([38,38]:List UInt8),([124,124]:List UInt8)]:List (List UInt8))) el25 (Nat.le_of_ble_eq_true rfl) ⟨rfl,rfl⟩ ⟨rfl,rfl,rfl,rfl,rfl,rfl,trivial⟩) ?_
 refine rq (out:=Pr.i64 (([([61,61]:List UInt8),([33,61]:List UInt8),([60,61]:List UInt8),([62,61]:List UInt8),([38,38]:List UInt8),([124,124]:List UInt8)]:List (List UInt8)).length:Int)) (fi rfl Tryz.underlying25) ?_
 refine rq (out:=Pr.i64 0) ag ?_
 refine az ?_
 obtain⟨z2l,hz2,h⟩:=af h
 obtain⟨n2,hN2⟩:=cc hz2
 clear hz2
 refine du 0 (fun e C=>lex_mark_k1 x1=some r/\At [(0,ai x1)] [] e C) ?_ ?_
 ·rintro e C ⟨h,hat1⟩
  refine W_at hat1 ?_
  clear hat1
  unfold lex_mark_k1 at h
  refine a5 ?_
  refine W_rs ?_
  refine rq (out:=ai x1) ag ?_
  obtain⟨x8,hx8,h⟩:=af h
  refine rq (out:=Pr.u8 x8) (qIdxS Tryz.underlying9 hx8) ?_
  obtain⟨x9,hx9,h⟩:=af h
  refine rq (out:=Pr.i64 x9) (aw (strings_IndexByte_ok ([43,45,42,47,37,60,62,61,33,40,41,123,125,59,44,46]:List UInt8) x8 _ hx9)) ?_
  refine rq (out:=Pr.bool (decide (x9≥0))) qInt ?_
  refine ao (b:=decide (x9≥0)) rfl (fun hc10=> ?_) (fun hc10=> ?_)
  ·replace h:=iteT hc10 h
   refine W_rs ?_
   refine rq (out:=Pr.i64 1) ae ?_
   obtain rfl:=Option.some.inj h
   exact a6 ⟨rfl,aa⟩
  replace h:=iteF hc10 h
  refine au ?_
  refine W_rs ?_
  refine rq (out:=Pr.i64 0) ae ?_
  obtain rfl:=Option.some.inj h
  exact a6 ⟨rfl,aa⟩
 refine eh (fun m e C=>∃(x2:Int),en (fun s=>lex_mark_l2 x1 s) m x2=some z2l/\At [(0,ai x1),(5,aj am ([([61,61]:List UInt8),([33,61]:List UInt8),([60,61]:List UInt8),([62,61]:List UInt8),([38,38]:List UInt8),([124,124]:List UInt8)]:List (List UInt8))),(6,Pr.i64 (([([61,61]:List UInt8),([33,61]:List UInt8),([60,61]:List UInt8),([62,61]:List UInt8),([38,38]:List UInt8),([124,124]:List UInt8)]:List (List UInt8)).length:Int)),(7,Pr.i64 x2)] [] e C) n2 ⟨0,hN2,⟨⟨aa,aa,aa,aa,trivial⟩,Pick.refl _⟩⟩ ?_
 clear hN2
 rintro m e C ⟨x2,hN2,hatl2⟩
 refine W_at hatl2 ?_
 clear hatl2
 obtain⟨m2,w2l,rfl,h2l,hn2,ho2⟩:=bx hN2
 clear hN2
 replace h2l:lex_mark_l2 x1 x2=some w2l:=h2l
 unfold lex_mark_l2 at h2l
 refine W_rs ?_
 refine rq (out:=Pr.bool (decide (x2<(([([61,61]:List UInt8),([33,61]:List UInt8),([60,61]:List UInt8),([62,61]:List UInt8),([38,38]:List UInt8),([124,124]:List UInt8)]:List (List UInt8)).length:Int)))) qInt ?_
 refine a5 ?_
 refine ao (b:=decide (x2<(([([61,61]:List UInt8),([33,61]:List UInt8),([60,61]:List UInt8),([62,61]:List UInt8),([38,38]:List UInt8),([124,124]:List UInt8)]:List (List UInt8)).length:Int))) rfl (fun hc4=> ?_) (fun hc4=> ?_)
 ·replace h2l:=iteT hc4 h2l
  refine au ?_
  refine a5 ?_
  refine az ?_
  refine W_rs ?_
  obtain⟨x5,hx5,h2l⟩:=af h2l
  refine rq (out:=bj am x5) (ef (R:=am) (l:=([([61,61]:List UInt8),([33,61]:List UInt8),([60,61]:List UInt8),([62,61]:List UInt8),([38,38]:List UInt8),([124,124]:List UInt8)]:List (List UInt8))) Tryz.underlying25 Tryz.sizeOf9 hx5) ?_
  refine rq (out:=ai x5) (c5 (R:=am) (a:=x5) ty9) ?_
  refine rq (out:=ai x5) ae ?_
  refine W_rs ?_
  refine rq (out:=ai x1) ag ?_
  refine rq (out:=ai x5) ag ?_
  obtain⟨x6,hx6,h2l⟩:=af h2l
  refine rq (out:=Pr.bool x6) (aw (mf x1 x5 _ hx6)) ?_
  refine ao (b:=x6) rfl (fun hc7=> ?_) (fun hc7=> ?_)
  ·replace h2l:=iteT hc7 h2l
   refine W_rs ?_
   refine rq (out:=Pr.i64 2) ae ?_
   obtain rfl:=ho2 _ (Option.some.inj h2l).symm
   replace h:some 2=some r:=h
   obtain rfl:=Option.some.inj h
   exact a6 ⟨rfl,aa⟩
  replace h2l:=iteF hc7 h2l
  refine au ?_
  refine W_r ?_
  refine rq (out:=Pr.i64 (w64 (x2+1))) qInt ?_
  refine rq (out:=Pr.i64 (w64 (x2+1))) ag ?_
  exact⟨m2,Nat.lt_succ_self _,w64 (x2+1),hn2 _ (Option.some.inj h2l).symm,⟨⟨aa,aa,aa,aa,trivial⟩,Pick.refl _⟩⟩
 replace h2l:=iteF hc4 h2l
 refine dg ?_
 obtain rfl:=ho2 _ (Option.some.inj h2l).symm
 exact⟨h,⟨⟨aa,trivial⟩,Pick.refl _⟩⟩
theorem lex_token_ok (x1:List UInt8) (r:Int × Int × Int) (h:lex_token x1=some r):FnP Tryz.prog 54 [ai x1] (bh [Pr.i64 r.1,Pr.i64 r.2.1,Pr.i64 r.2.2]):=by
 refine bo (n:=60) (rs:=[2,3,4]) Tryz.func54 rfl Tryz.ntmps54 ⟨by decide,Tryz.results54⟩ (by decide) (fun s0=> ?_)
 unfold lex_token at h
 refine W_rs ?_
 refine rq (out:=Pr.i64 0) ae ?_
 refine rq (out:=Pr.i64 0) ae ?_
 refine rq (out:=Pr.i64 0) ae ?_
 refine a5 ?_
 refine az ?_
 refine W_rs ?_
 refine rq (out:=ai x1) ag ?_
 obtain⟨x2,hx2,h⟩:=af h
 refine rq (out:=Pr.u8 x2) (qIdxS Tryz.underlying9 hx2) ?_
 obtain⟨x3,hx3,h⟩:=af h
 refine rq (out:=Pr.bool x3) (aw (lex_digit_ok x2 _ hx3)) ?_
 refine rq (out:=Pr.bool x3) ae ?_
 refine ao (b:=x3) rfl (fun hc4=> ?_) (fun hc4=> ?_)
 ·replace h:=iteT hc4 h
  refine W_rs ?_
  refine rq (out:=ai x1) ag ?_
  obtain⟨x5,hx5,h⟩:=af h
  refine rq (out:=Pr.i64 x5) (mc (lex_run_ok x1 lex_digit _ hx5) ⟨aa,(is_pfn en78 (fun _ _ hs=>by obtain⟨a0,r,rfl,rfl,hr⟩:=hs;exact lex_digit_ok a0 r hr)),trivial⟩) ?_
  refine rq (out:=Pr.i64 x5) ae ?_
  refine W_rs ?_
  refine rq (out:=ai x1) ag ?_
  refine rq (out:=Pr.i64 x5) ag ?_
  obtain⟨x6,hx6,h⟩:=af h
  refine rq (out:=ai x6) (qSubH Tryz.underlying9 hx6) ?_
  obtain⟨⟨x7,x8⟩,hx7,h⟩:=af h
  refine rq (out:=bh [Pr.i64 x7,Pr.err x8]) (aw (strconv_ParseInt_ok x6 10 64 _ hx7)) ?_
  refine rq (out:=bh [Pr.i64 x7,Pr.err x8]) ag ?_
  refine rq (out:=Pr.i64 x7) ar ?_
  refine rq (out:=Pr.err x8) ar ?_
  refine rq (out:=Pr.i64 x7) ae ?_
  refine rq (out:=Pr.err x8) ae ?_
  refine a5 ?_
  refine bc (fun e C=>∃(x16:Bool),ll x5 x16=some r/\At [(5,Pr.i64 x5),(37,Pr.bool x16)] [] e C) ?_ ?_
  ·rintro e C ⟨x16,h,hat1⟩
   refine W_at hat1 ?_
   clear hat1
   unfold ll at h
   refine ao (b:=x16) rfl (fun hc17=> ?_) (fun hc17=> ?_)
   ·replace h:=iteT hc17 h
    refine W_rs ?_
    refine rq (out:=Pr.i64 0) ae ?_
    refine rq (out:=Pr.i64 0) ae ?_
    refine rq (out:=Pr.i64 31) ae ?_
    obtain rfl:=Option.some.inj h
    exact a6 ⟨rfl,aa⟩
   replace h:=iteF hc17 h
   refine au ?_
   refine W_rs ?_
   refine rq (out:=Pr.i64 x5) ag ?_
   refine rq (out:=Pr.i64 2) ae ?_
   refine rq (out:=Pr.i64 x5) ae ?_
   refine rq (out:=Pr.i64 0) ae ?_
   obtain rfl:=Option.some.inj h
   exact a6 ⟨rfl,aa⟩
  refine W_r ?_
  refine rq (out:=Pr.err x8) ag ?_
  refine rq (out:=Pr.bool x8) (qErrNe Tryz.underlying97) ?_
  refine rq (out:=Pr.bool x8) ag ?_
  rcases bv h with⟨hc9,h⟩|⟨hc9,h⟩
  ·refine rno (neF hc9) ?_
   refine rno (neF hc9) ?_
   refine rq (out:=Pr.bool true) (bu hc9) ?_
   refine rq (out:=Pr.bool true) ag ?_
   have hc13:true=true:=rfl
   refine rno (neF hc13) ?_
   refine rno (neF hc13) ?_
   refine rno (neF hc13) ?_
   refine rnoU ?_
   refine rnoU ?_
   refine rnoU ?_
   refine rno (neF hc13) ?_
   refine rq (out:=Pr.bool true) (bu hc13) ?_
   exact⟨true,h,⟨⟨aa,aa,trivial⟩,Pick.refl _⟩⟩
  refine rqg hc9 (out:=Pr.i64 x7) ag ?_
  refine rqg hc9 (out:=Pr.bool (decide (x7>2147483647))) qInt ?_
  refine rq (out:=Pr.bool (decide (x7>2147483647))) (bp hc9) ?_
  refine rq (out:=Pr.bool (decide (x7>2147483647))) ag ?_
  rcases bv h with⟨hc10,h⟩|⟨hc10,h⟩
  ·refine rno (neF hc10) ?_
   refine rno (neF hc10) ?_
   refine rno (neF hc10) ?_
   refine rnoU ?_
   refine rnoU ?_
   refine rnoU ?_
   refine rno (neF hc10) ?_
   refine rq (out:=Pr.bool true) (bu hc10) ?_
   exact⟨true,h,⟨⟨aa,aa,trivial⟩,Pick.refl _⟩⟩
  refine rqg hc10 (out:=Pr.i64 x5) ag ?_
  refine rqg hc10 (out:=Pr.bool (decide (x5>1))) qInt ?_
  refine rqg hc10 (out:=Pr.bool (decide (x5>1))) ag ?_
  rcases bv h with⟨hc11,h⟩|⟨hc11,h⟩
  ·refine rqg hc11 (out:=ai x1) ag ?_
   obtain⟨x12,hx12,h⟩:=af h
   refine rqg hc11 (out:=Pr.u8 x12) (qIdxS Tryz.underlying9 hx12) ?_
   refine rqg hc11 (out:=Pr.bool (x12==48)) qInt ?_
   refine rqg hc10 (out:=Pr.bool (x12==48)) (bu hc11) ?_
   refine rq (out:=Pr.bool (x12==48)) (bp hc10) ?_
   exact⟨x12==48,h,⟨⟨aa,aa,trivial⟩,Pick.refl _⟩⟩
  refine rno (neT hc11) ?_
  refine rno (neT hc11) ?_
  refine rno (neT hc11) ?_
  refine rqg hc10 (out:=Pr.bool false) (bp hc11) ?_
  refine rq (out:=Pr.bool false) (bp hc10) ?_
  exact⟨false,h,⟨⟨aa,aa,trivial⟩,Pick.refl _⟩⟩
 replace h:=iteF hc4 h
 refine W_rs ?_
 refine rq (out:=ai x1) ag ?_
 obtain⟨x18,hx18,h⟩:=af h
 refine rq (out:=Pr.u8 x18) (qIdxS Tryz.underlying9 hx18) ?_
 obtain⟨x19,hx19,h⟩:=af h
 refine rq (out:=Pr.bool x19) (aw (lex_letter_ok x18 _ hx19)) ?_
 refine rq (out:=Pr.bool x19) ae ?_
 refine ao (b:=x19) rfl (fun hc20=> ?_) (fun hc20=> ?_)
 ·replace h:=iteT hc20 h
  refine W_rs ?_
  refine rq (out:=ai x1) ag ?_
  obtain⟨x21,hx21,h⟩:=af h
  refine rq (out:=Pr.i64 x21) (mc (lex_run_ok x1 ng _ hx21) ⟨aa,(is_pfn en81 (fun _ _ hs=>by obtain⟨a0,r,rfl,rfl,hr⟩:=hs;exact lex_token_1_ok a0 r hr)),trivial⟩) ?_
  refine rq (out:=Pr.i64 x21) ae ?_
  refine a5 ?_
  refine az ?_
  refine W_rs ?_
  refine rq (out:=Pr.i64 x21) ag ?_
  refine rq (out:=Pr.bool (decide (x21>20))) qInt ?_
  refine rq (out:=Pr.bool (decide (x21>20))) ae ?_
  refine ao (b:=decide (x21>20)) rfl (fun hc22=> ?_) (fun hc22=> ?_)
  ·replace h:=iteT hc22 h
   refine W_rs ?_
   refine rq (out:=Pr.i64 0) ae ?_
   refine rq (out:=Pr.i64 0) ae ?_
   refine rq (out:=Pr.i64 2) ae ?_
   obtain rfl:=Option.some.inj h
   exact a6 ⟨rfl,aa⟩
  replace h:=iteF hc22 h
  refine W_rs ?_
  refine rq (out:=ai x1) ag ?_
  refine rq (out:=Pr.i64 x21) ag ?_
  obtain⟨x23,hx23,h⟩:=af h
  refine rq (out:=ai x23) (qSubH Tryz.underlying9 hx23) ?_
  obtain⟨x24,hx24,h⟩:=af h
  refine rq (out:=Pr.bool x24) (aw (lex_Kept_ok x23 _ hx24)) ?_
  refine rq (out:=Pr.bool x24) ae ?_
  refine ao (b:=x24) rfl (fun hc25=> ?_) (fun hc25=> ?_)
  ·replace h:=iteT hc25 h
   refine W_rs ?_
   refine rq (out:=Pr.i64 x21) ag ?_
   refine rq (out:=Pr.i64 3) ae ?_
   refine rq (out:=Pr.i64 x21) ae ?_
   refine rq (out:=Pr.i64 0) ae ?_
   obtain rfl:=Option.some.inj h
   exact a6 ⟨rfl,aa⟩
  replace h:=iteF hc25 h
  refine au ?_
  refine W_rs ?_
  refine rq (out:=Pr.i64 x21) ag ?_
  refine rq (out:=Pr.i64 1) ae ?_
  refine rq (out:=Pr.i64 x21) ae ?_
  refine rq (out:=Pr.i64 0) ae ?_
  obtain rfl:=Option.some.inj h
  exact a6 ⟨rfl,aa⟩
 replace h:=iteF hc20 h
 refine au ?_
 refine W_rs ?_
 refine rq (out:=ai x1) ag ?_
 obtain⟨x26,hx26,h⟩:=af h
 refine rq (out:=Pr.i64 x26) (aw (lex_mark_ok x1 _ hx26)) ?_
 refine rq (out:=Pr.i64 x26) ae ?_
 refine a5 ?_
 refine W_rs ?_
 refine rq (out:=Pr.i64 x26) ag ?_
 refine rq (out:=Pr.bool (x26==0)) qInt ?_
 refine ao (b:=x26==0) rfl (fun hc27=> ?_) (fun hc27=> ?_)
 ·replace h:=iteT hc27 h
  refine W_rs ?_
  refine rq (out:=Pr.i64 0) ae ?_
  refine rq (out:=Pr.i64 0) ae ?_
  refine rq (out:=Pr.i64 30) ae ?_
  obtain rfl:=Option.some.inj h
  exact a6 ⟨rfl,aa⟩
 replace h:=iteF hc27 h
 refine au ?_
 refine W_rs ?_
 refine rq (out:=Pr.i64 x26) ag ?_
 refine rq (out:=Pr.i64 4) ae ?_
 refine rq (out:=Pr.i64 x26) ae ?_
 refine rq (out:=Pr.i64 0) ae ?_
 obtain rfl:=Option.some.inj h
 exact a6 ⟨rfl,aa⟩
theorem lex_Lex_ok (x1:List UInt8) (r:(List ApiToken) × Int × Int) (h:lex_Lex x1=some r):FnP Tryz.prog 33 [ai x1] (bh [aj ah r.1,Pr.i64 r.2.1,Pr.i64 r.2.2]):=by
 refine bo (n:=60) (rs:=[2,3,4]) Tryz.func33 rfl Tryz.ntmps33 ⟨by decide,Tryz.results33⟩ (by decide) (fun s0=> ?_)
 unfold lex_Lex at h
 refine W_rs ?_
 refine rBox (R:=am) (a:=x1) rfl (fun b2=> ?_)
 refine rq (out:=Pr.is (.slice none 0 0)) ae ?_
 refine rq (out:=Pr.i64 0) ae ?_
 refine rq (out:=Pr.i64 0) ae ?_
 refine a5 ?_
 refine W_rs ?_
 refine rq (out:=ai x1) (a8 (R:=am) (a:=x1) (R':=am) 0 ty9 (Sub.refl _)) ?_
 refine rq (out:=Pr.i64 (x1.length:Int)) (qLenS rfl Tryz.underlying9) ?_
 refine rq (out:=Pr.bool (decide ((x1.length:Int)>1048576))) qInt ?_
 refine ao (b:=decide ((x1.length:Int)>1048576)) rfl (fun hc3=> ?_) (fun hc3=> ?_)
 ·replace h:=iteT hc3 h
  refine W_rs ?_
  refine rq (out:=Pr.is (.slice none 0 0)) ae ?_
  refine rq (out:=Pr.i64 0) ae ?_
  refine rq (out:=Pr.i64 2) ae ?_
  obtain rfl:=Option.some.inj h
  exact a6 ⟨rfl,tup_le ⟨da _,aa,aa,trivial⟩⟩
 replace h:=iteF hc3 h
 refine au ?_
 refine W_rs ?_
 refine rAllocC Tryz.zeroValue52 rfl rfl (fun b4=> ?_)
 refine W_rs ?_
 refine cb (R:=Rp.int .i64) (z:=0) Tryz.zeroValue3 (fun _=>rfl) (fun b5=> ?_)
 refine aq (R:=Rp.int .i64) (R':=Rp.int .i64) (a:=0) (y:=0) 2 Tryz.sizeOf3 (Upd.refl _) ?_
 refine W_rs ?_
 refine rq (out:=Pr.clo 52 [] [ap b4 0,ap b2 0,ap b5 0]) qMakeFunc ?_
 refine rq (out:=Pr.clo 52 [] [ap b4 0,ap b2 0,ap b5 0]) ae ?_
 refine az ?_
 obtain⟨n1,hN1⟩:=cc h
 refine W_vec ah 56 ?_
 refine eh (fun m e C=>∃(x6:List UInt8),∃(x8:Int),∃(x9:List ApiToken),∃(v7:Value),en (fun s=>fm s.1 s.2.1 s.2.2) m (x6,x8,x9)=some r/\At [(1,ap b2 0),(5,ap b4 0),(6,ap b5 0),(7,Pr.clo 52 [] [ap b4 0,ap b2 0,ap b5 0])] [Own.box b2 am x6,Own.cell b4 (Pr.is v7),Own.box b5 (Rp.int .i64) x8,Own.vec v7 ah x9 56] e C) n1 ⟨x1,0,[],(.slice none 0 0),hN1,⟨⟨aa,aa,aa,aa,trivial⟩,Pick.refl _⟩⟩ ?_
 clear hN1
 rintro m e C ⟨x6,x8,x9,v7,hN1,hatl1⟩
 refine W_at hatl1 ?_
 clear hatl1
 obtain⟨m1,w1l,rfl,h1l,hn1,ho1⟩:=bx hN1
 clear hN1
 replace h1l:fm x6 x8 x9=some w1l:=h1l
 unfold fm at h1l
 refine az ?_
 refine W_rs ?_
 refine rq (out:=ai x6) (a8 (R:=am) (a:=x6) (R':=am) 0 ty9 (Sub.refl _)) ?_
 refine rq (out:=Pr.i64 x8) (a8 (R:=Rp.int .i64) (a:=x8) (R':=Rp.int .i64) 2 ty3 (Sub.refl _)) ?_
 obtain⟨x14,hx14,h1l⟩:=af h1l
 refine rq (out:=ai x14) (qSubL Tryz.underlying9 hx14) ?_
 obtain⟨⟨x15,x16⟩,hx15,h1l⟩:=af h1l
 refine rq (out:=bh [Pr.i64 x15,Pr.bool x16]) (aw (lex_between_ok x14 _ hx15)) ?_
 refine rq (out:=bh [Pr.i64 x15,Pr.bool x16]) ag ?_
 refine rq (out:=Pr.i64 x15) ar ?_
 refine rq (out:=Pr.bool x16) ar ?_
 refine rq (out:=Pr.i64 x15) ae ?_
 refine rq (out:=Pr.bool x16) ae ?_
 refine a5 ?_
 refine W_rs ?_
 refine rq (out:=Pr.bool x16) ag ?_
 refine rq (out:=Pr.bool (!x16)) qNot ?_
 refine ao (b:= !x16) rfl (fun hc17=> ?_) (fun hc17=> ?_)
 ·replace h1l:=iteT hc17 h1l
  refine bc (fun e C=>lex_Lex_j2 x8 x15=some w1l/\At [(2,Pr.is (.slice none 0 0)),(3,Pr.i64 (w64 (x8+x15))),(4,Pr.i64 32)] [Own.box b2 am x6,Own.cell b4 (Pr.is v7),Own.box b5 (Rp.int .i64) x8,Own.vec v7 ah x9 56] e C) ?_ ?_
  ·rintro e C ⟨h1l,hat2⟩
   refine W_at hat2 ?_
   clear hat2
   unfold lex_Lex_j2 at h1l
   have h:some ([],w64 (x8+x15),32)=some r:=congrArg some (ho1 _ (Option.some.inj h1l).symm)
   obtain rfl:=Option.some.inj h
   exact a6 ⟨rfl,tup_le ⟨da _,aa,aa,trivial⟩⟩
  refine jm 6 hmx (by kernel_rfl) (by kernel_rfl) ?_
  refine qq (out:=Pr.i64 x8) (a8 (R:=Rp.int .i64) (a:=x8) (R':=Rp.int .i64) 2 ty3 (Sub.refl _)) ?_
  refine qq (out:=Pr.i64 x15) ag ?_
  refine qq (out:=Pr.i64 (w64 (x8+x15))) qInt ?_
  refine qq (out:=Pr.is (.slice none 0 0)) ae ?_
  refine qq (out:=Pr.i64 (w64 (x8+x15))) ae ?_
  refine qq (out:=Pr.i64 32) ae ?_
  exact⟨h1l,⟨⟨aa,aa,aa,trivial⟩,Pick.refl _⟩⟩
 replace h1l:=iteF hc17 h1l
 refine au ?_
 refine a5 ?_
 refine W_rs ?_
 refine rq (out:=Pr.i64 x8) (a8 (R:=Rp.int .i64) (a:=x8) (R':=Rp.int .i64) 2 ty3 (Sub.refl _)) ?_
 refine rq (out:=Pr.i64 x15) ag ?_
 refine rq (out:=Pr.i64 (w64 (x8+x15))) qInt ?_
 refine rq (out:=ai x6) (a8 (R:=am) (a:=x6) (R':=am) 0 ty9 (Sub.refl _)) ?_
 refine rq (out:=Pr.i64 (x6.length:Int)) (qLenS rfl Tryz.underlying9) ?_
 refine rq (out:=Pr.bool ((w64 (x8+x15))==(x6.length:Int))) qInt ?_
 refine ao (b:=(w64 (x8+x15))==(x6.length:Int)) rfl (fun hc18=> ?_) (fun hc18=> ?_)
 ·replace h1l:=iteT hc18 h1l
  refine W_rs ?_
  refine rq (out:=Pr.clo 52 [] [ap b4 0,ap b2 0,ap b5 0]) ag ?_
  refine rq (out:=Pr.i64 x15) ag ?_
  obtain⟨⟨x19,x21,x22⟩,hx19,h1l⟩:=af h1l
  refine rCallK [1,3,0,2] (lex_Lex_1_ok 5 x15 0 x9 x6 x8 b4 v7 b2 b5 _ hx19) (fun q C' hq=> ?_)
  obtain⟨v20,rfl,rfl⟩:=hq
  refine W_rs ?_
  refine rq (out:=Pr.is v20) (qLoadP 0 Tryz.isAgg52) ?_
  refine rq (out:=Pr.is v20) ae ?_
  refine rq (out:=Pr.i64 0) ae ?_
  refine rq (out:=Pr.i64 0) ae ?_
  have h:some (x19,0,0)=some r:=congrArg some (ho1 _ (Option.some.inj h1l).symm)
  refine W_rel 1 [2] ?_ rfl ⟨rfl,trivial⟩
  obtain rfl:=Option.some.inj h
  exact a6 ⟨rfl,aa⟩
 replace h1l:=iteF hc18 h1l
 refine au ?_
 refine W_rs ?_
 refine rq (out:=ai x6) (a8 (R:=am) (a:=x6) (R':=am) 0 ty9 (Sub.refl _)) ?_
 refine rq (out:=Pr.i64 x8) (a8 (R:=Rp.int .i64) (a:=x8) (R':=Rp.int .i64) 2 ty3 (Sub.refl _)) ?_
 refine rq (out:=Pr.i64 x15) ag ?_
 refine rq (out:=Pr.i64 (w64 (x8+x15))) qInt ?_
 obtain⟨x23,hx23,h1l⟩:=af h1l
 refine rq (out:=ai x23) (qSubL Tryz.underlying9 hx23) ?_
 obtain⟨⟨x24,x25,x26⟩,hx24,h1l⟩:=af h1l
 refine rq (out:=bh [Pr.i64 x24,Pr.i64 x25,Pr.i64 x26]) (aw (lex_token_ok x23 _ hx24)) ?_
 refine rq (out:=bh [Pr.i64 x24,Pr.i64 x25,Pr.i64 x26]) ag ?_
 refine rq (out:=Pr.i64 x24) ar ?_
 refine rq (out:=Pr.i64 x25) ar ?_
 refine rq (out:=Pr.i64 x26) ar ?_
 refine rq (out:=Pr.i64 x24) ae ?_
 refine rq (out:=Pr.i64 x25) ae ?_
 refine rq (out:=Pr.i64 x26) ae ?_
 refine a5 ?_
 refine W_rs ?_
 refine rq (out:=Pr.i64 x26) ag ?_
 refine rq (out:=Pr.bool (x26 != 0)) qInt ?_
 refine ao (b:=x26 != 0) rfl (fun hc27=> ?_) (fun hc27=> ?_)
 ·replace h1l:=iteT hc27 h1l
  refine bc (fun e C=>lex_Lex_j3 x8 x15 x26=some w1l/\At [(2,Pr.is (.slice none 0 0)),(3,Pr.i64 (w64 (x8+x15))),(4,Pr.i64 x26)] [Own.box b2 am x6,Own.cell b4 (Pr.is v7),Own.box b5 (Rp.int .i64) x8,Own.vec v7 ah x9 56] e C) ?_ ?_
  ·rintro e C ⟨h1l,hat3⟩
   refine W_at hat3 ?_
   clear hat3
   unfold lex_Lex_j3 at h1l
   have h:some ([],w64 (x8+x15),x26)=some r:=congrArg some (ho1 _ (Option.some.inj h1l).symm)
   obtain rfl:=Option.some.inj h
   exact a6 ⟨rfl,tup_le ⟨da _,aa,aa,trivial⟩⟩
  refine jm 7 hmx (by kernel_rfl) (by kernel_rfl) ?_
  refine qq (out:=Pr.i64 x8) (a8 (R:=Rp.int .i64) (a:=x8) (R':=Rp.int .i64) 2 ty3 (Sub.refl _)) ?_
  refine qq (out:=Pr.i64 x15) ag ?_
  refine qq (out:=Pr.i64 (w64 (x8+x15))) qInt ?_
  refine qq (out:=Pr.i64 x26) ag ?_
  refine qq (out:=Pr.is (.slice none 0 0)) ae ?_
  refine qq (out:=Pr.i64 (w64 (x8+x15))) ae ?_
  refine qq (out:=Pr.i64 x26) ae ?_
  exact⟨h1l,⟨⟨aa,aa,aa,trivial⟩,Pick.refl _⟩⟩
 replace h1l:=iteF hc27 h1l
 refine au ?_
 refine W_r ?_
 refine rq (out:=Pr.clo 52 [] [ap b4 0,ap b2 0,ap b5 0]) ag ?_
 refine rq (out:=Pr.i64 x24) ag ?_
 refine rq (out:=Pr.i64 x15) ag ?_
 refine rq (out:=Pr.i64 x25) ag ?_
 obtain⟨⟨x28,x30,x31⟩,hx28,h1l⟩:=af h1l
 refine rCallK [1,3,0,2] (lex_Lex_1_ok x24 x15 x25 x9 x6 x8 b4 v7 b2 b5 _ hx28) (fun q C' hq=> ?_)
 obtain⟨v29,rfl,rfl⟩:=hq
 exact⟨m1,Nat.lt_succ_self _,x30,x31,x28,v29,hn1 _ (Option.some.inj h1l).symm,⟨⟨aa,aa,aa,aa,trivial⟩,Pick.of [2,0,3,1] rfl⟩⟩
theorem lm (x1:ApiNode) (x2:List (List UInt8)) (r:(List (List UInt8))) (h:f1 x1 x2=some r):FnP Tryz.prog 15 [(ab).val x1,aj am x2] (aj am r):=by
 refine bo (n:=38) (rs:=[4]) Tryz.func15 rfl Tryz.ntmps15 ⟨by decide,Tryz.results15⟩ (by decide) (fun s0=> ?_)
 unfold f1 at h
 refine W_rs ?_
 refine rBox (R:=ab) (a:=x1) rfl (fun b3=> ?_)
 refine rq (out:=Pr.is (.slice none 0 0)) ae ?_
 refine W_rs ?_
 refine rq (out:=(ab).val x1) (a8 (R:=ab) (a:=x1) (R':=ab) 0 ty24 (Sub.refl _)) ?_
 refine rq (out:=aj am x2) ag ?_
 obtain⟨x4,hx4,h⟩:=af h
 refine rq (out:=ai x4) (aw (shape_Of_ok x1 x2 _ hx4)) ?_
 obtain⟨⟨x5,x6,x7⟩,hx5,h⟩:=af h
 refine rq (out:=bh [aj ah x5,Pr.i64 x6,Pr.i64 x7]) (aw (lex_Lex_ok x4 _ hx5)) ?_
 refine rq (out:=bh [aj ah x5,Pr.i64 x6,Pr.i64 x7]) ag ?_
 refine rq (out:=aj ah x5) ar ?_
 refine rq (out:=Pr.i64 x6) ar ?_
 refine rq (out:=Pr.i64 x7) ar ?_
 refine rq (out:=aj ah x5) ae ?_
 refine rq (out:=Pr.i64 x6) ae ?_
 refine rq (out:=Pr.i64 x7) ae ?_
 refine a5 ?_
 refine W_rs ?_
 refine rq (out:=Pr.i64 x7) ag ?_
 refine rq (out:=Pr.bool (x7 != 0)) qInt ?_
 refine ao (b:=x7 != 0) rfl (fun hc8=> ?_) (fun hc8=> ?_)
 ·replace h:=iteT hc8 h
  refine W_rs ?_
  refine rq (out:=Pr.is (.slice none 0 0)) ae ?_
  obtain rfl:=Option.some.inj h
  exact a6 ⟨rfl,da _⟩
 replace h:=iteF hc8 h
 refine au ?_
 refine W_rs ?_
 refine rq (out:=Pr.is (.slice none 0 0)) ae ?_
 refine a5 ?_
 refine W_rs ?_
 refine rq (out:=aj ah x5) ag ?_
 refine rq (out:=aj ah x5) ag ?_
 refine rq (out:=Pr.i64 (x5.length:Int)) (fi rfl Tryz.underlying52) ?_
 refine rq (out:=Pr.i64 (w64 ((x5.length:Int) - 1))) qInt ?_
 obtain⟨x9,hx9,h⟩:=af h
 refine rq (out:=aj ah x9) (qLSubH Tryz.underlying52 Tryz.sizeOf56 hx9) ?_
 refine rq (out:=Pr.i64 (x9.length:Int)) (fi rfl Tryz.underlying52) ?_
 refine rq (out:=Pr.i64 0) ag ?_
 refine az ?_
 obtain⟨z2l,hz2,h⟩:=af h
 obtain⟨n2,hN2⟩:=cc hz2
 clear hz2
 refine du 0 (fun e C=>∃(x12:List (List UInt8)),∃(v10:Value),shape_Tokens_k1 x12=some r/\At [(8,Pr.is v10)] [Own.box b3 ab x1,Own.vec v10 am x12 9] e C) ?_ ?_
 ·rintro e C ⟨x12,v10,h,hat1⟩
  refine W_at hat1 ?_
  clear hat1
  unfold shape_Tokens_k1 at h
  refine W_rs ?_
  refine rq (out:=Pr.is v10) ag ?_
  refine rq (out:=Pr.is v10) ae ?_
  refine W_rel 1 [4] ?_ rfl ⟨rfl,trivial⟩
  obtain rfl:=Option.some.inj h
  exact a6 ⟨rfl,aa⟩
 refine W_nil [8] am 9 (fun v21=> ?_) ⟨rfl,trivial⟩
 refine eh (fun m e C=>∃(x11:Int),∃(x12:List (List UInt8)),∃(v10:Value),en (fun s=>f3 x9 s.1 s.2) m (x11,x12)=some z2l/\At [(8,Pr.is v10),(25,aj ah x9),(26,Pr.i64 (x9.length:Int)),(27,Pr.i64 x11)] [Own.box b3 ab x1,Own.vec v10 am x12 9] e C) n2 ⟨0,[],v21,hN2,⟨⟨aa,aa,aa,aa,trivial⟩,Pick.refl _⟩⟩ ?_
 clear hN2
 rintro m e C ⟨x11,x12,v10,hN2,hatl2⟩
 refine W_at hatl2 ?_
 clear hatl2
 obtain⟨m2,w2l,rfl,h2l,hn2,ho2⟩:=bx hN2
 clear hN2
 replace h2l:f3 x9 x11 x12=some w2l:=h2l
 unfold f3 at h2l
 refine W_rs ?_
 refine rq (out:=Pr.bool (decide (x11<(x9.length:Int)))) qInt ?_
 refine a5 ?_
 refine ao (b:=decide (x11<(x9.length:Int))) rfl (fun hc16=> ?_) (fun hc16=> ?_)
 ·replace h2l:=iteT hc16 h2l
  refine au ?_
  refine a5 ?_
  refine az ?_
  refine W_rs ?_
  obtain⟨x17,hx17,h2l⟩:=af h2l
  refine rq (out:=bj ah x17) (ef (R:=ah) (l:=x9) Tryz.underlying52 Tryz.sizeOf56 hx17) ?_
  refine rq (out:=(ah).val x17) (c5 (R:=ah) (a:=x17) ty56) ?_
  refine cb (R:=ah) (z:=(ApiToken.mk 0 [] 0 [])) Tryz.zeroValue56 (fun _=>⟨_,⟨_,_,rfl,rfl,⟨_,_,rfl,rfl,⟨_,_,rfl,rfl,⟨_,_,rfl,rfl,rfl⟩⟩⟩⟩,rfl⟩) (fun b18=> ?_)
  refine aq (R:=ah) (R':=ah) (a:=(ApiToken.mk 0 [] 0 [])) (y:=x17) 2 Tryz.sizeOf56 (Upd.refl _) ?_
  refine W_r ?_
  refine rq (out:=Pr.is v10) ag ?_
  refine rq (out:=ap b18 1) (a4 fld56_1) ?_
  refine rq (out:=ai x17.Text) (a8 (R:=ah) (a:=x17) (R':=am) 2 ty9 dp) ?_
  refine rq (out:=aj am ([x17.Text]:List (List UInt8))) (cr (R:=am) (a:=x17.Text) el25 (Nat.le_of_ble_eq_true rfl)) ?_
  obtain⟨x19,hx19,h2l⟩:=af h2l
  refine ip 1 el25 hx19 (fun v20=> ?_)
  refine rq (out:=Pr.is v20) ae ?_
  refine W_r ?_
  refine rq (out:=Pr.i64 (w64 (x11+1))) qInt ?_
  refine rq (out:=Pr.i64 (w64 (x11+1))) ag ?_
  exact⟨m2,Nat.lt_succ_self _,w64 (x11+1),x19,v20,hn2 _ (Option.some.inj h2l).symm,⟨⟨aa,aa,aa,aa,trivial⟩,Pick.of [0,1] rfl⟩⟩
 replace h2l:=iteF hc16 h2l
 refine dg ?_
 obtain rfl:=ho2 _ (Option.some.inj h2l).symm
 exact⟨x12,v10,h,⟨⟨aa,trivial⟩,Pick.refl _⟩⟩
end Go.Proofs.YtgkcoicaopilhaaGreatDoor
