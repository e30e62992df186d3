/- The code comes to what these functions say (printed by wip/gen/gen.py). -/
import Derived.Test.YtphkaogfinjbjaaGreatDoorZP
import Derived.Test.YtphkaogfinjbjaaGreatDoorZT
set_option linter.unusedSimpArgs false
set_option linter.unusedVariables false
set_option linter.unusedSectionVars false
set_option linter.unusedSectionVars false
set_option maxRecDepth 100000
set_option maxHeartbeats 4000000
namespace Go.Proofs.YtphkaogfinjbjaaGreatDoor
open Go Go.Cn
variable [Known]
theorem internal_stringslite_HasPrefix_ok (x1 x2:List UInt8) (r:Bool) (h:d7 x1 x2=some r):FnP Tryz.prog 119 [aj x1,aj x2] (Pr.bool r):=by
 refine a7 (n:=18) (rs:=[4]) Tryz.func119 rfl Tryz.ntmps119 ⟨by decide,Tryz.results119⟩ (by decide) (fun s0=> ?_)
 unfold d7 at h
 refine W_rs ?_
 refine rq (out:=Pr.bool false) ae ?_
 refine bg (fun e C=>∃(x5:Bool),ci x5=some r/\At [(4,Pr.bool x5)] [] e C) ?_ ?_
 ·rintro e C ⟨x5,h,hat1⟩
  refine W_at hat1 ?_
  clear hat1
  unfold ci at h
  obtain rfl:=Option.some.inj h
  exact bb ⟨rfl,aa⟩
 refine W_r ?_
 refine rq (out:=aj x1) ag ?_
 refine rq (out:=Pr.i64 (x1.length:Int)) (qLenS rfl Tryz.underlying9) ?_
 refine rq (out:=aj x2) ag ?_
 refine rq (out:=Pr.i64 (x2.length:Int)) (qLenS rfl Tryz.underlying9) ?_
 refine rq (out:=Pr.bool (decide ((x1.length:Int)≥(x2.length:Int)))) qInt ?_
 refine rq (out:=Pr.bool (decide ((x1.length:Int)≥(x2.length:Int)))) ag ?_
 rcases bc h with⟨hc3,h⟩|⟨hc3,h⟩
 ·refine rqg hc3 (out:=aj x1) ag ?_
  refine rqg hc3 (out:=aj x2) ag ?_
  refine rqg hc3 (out:=Pr.i64 (x2.length:Int)) (qLenS rfl Tryz.underlying9) ?_
  obtain⟨x4,hx4,h⟩:=ah h
  refine rqg hc3 (out:=aj x4) (qSubH Tryz.underlying9 hx4) ?_
  refine rqg hc3 (out:=aj x2) ag ?_
  refine rqg hc3 (out:=Pr.bool (x4==x2)) qStr ?_
  refine rq (out:=Pr.bool (x4==x2)) (bo hc3) ?_
  refine rq (out:=Pr.bool (x4==x2)) ae ?_
  exact⟨x4==x2,h,⟨⟨aa,trivial⟩,Pick.refl _⟩⟩
 refine rno (neT hc3) ?_
 refine rno (neT hc3) ?_
 refine rno (neT hc3) ?_
 refine rno (neT hc3) ?_
 refine rno (neT hc3) ?_
 refine rno (neT hc3) ?_
 refine rq (out:=Pr.bool false) (az hc3) ?_
 refine rq (out:=Pr.bool false) ae ?_
 exact⟨false,h,⟨⟨aa,trivial⟩,Pick.refl _⟩⟩
theorem mj (x1 x2:List UInt8) (r:Bool) (h:el x1 x2=some r):FnP Tryz.prog 105 [aj x1,aj x2] (Pr.bool r):=by
 refine a7 (n:=8) (rs:=[4]) Tryz.func105 rfl Tryz.ntmps105 ⟨by decide,Tryz.results105⟩ (by decide) (fun s0=> ?_)
 unfold el at h
 refine W_rs ?_
 refine rq (out:=Pr.bool false) ae ?_
 refine W_rs ?_
 refine rq (out:=aj x1) ag ?_
 refine rq (out:=aj x2) ag ?_
 obtain⟨x3,hx3,h⟩:=ah h
 refine rq (out:=Pr.bool x3) (br (internal_stringslite_HasPrefix_ok x1 x2 _ hx3)) ?_
 refine rq (out:=Pr.bool x3) ae ?_
 obtain rfl:=Option.some.inj h
 exact bb ⟨rfl,aa⟩
theorem lex_run_ok (x1:List UInt8) (x2:(Int->Option Bool)) (r:Int) (h:lex_run x1 x2=some r):FnP Tryz.prog 106 [aj x1,ia Tryz.prog (spec145 x2)] (Pr.i64 r):=by
 refine a7 (n:=21) (rs:=[4]) Tryz.func106 rfl Tryz.ntmps106 ⟨by decide,Tryz.results106⟩ (by decide) (fun s0=> ?_)
 unfold lex_run at h
 refine W_rs ?_
 refine rq (out:=Pr.i64 0) ae ?_
 refine aw ?_
 refine W_rs ?_
 refine rq (out:=aj x1) ag ?_
 refine rq (out:=Pr.i64 (x1.length:Int)) (qLenS rfl Tryz.underlying9) ?_
 refine rq (out:=Pr.i64 0) ag ?_
 refine ar ?_
 obtain⟨z2l,hz2,h⟩:=ah h
 obtain⟨n2,hN2⟩:=a4 hz2
 clear hz2
 refine bp 0 (fun e C=>lex_run_k1 x1=some r/\At [(0,aj x1)] [] e C) ?_ ?_
 ·rintro e C ⟨h,hat1⟩
  refine W_at hat1 ?_
  clear hat1
  unfold lex_run_k1 at h
  refine W_rs ?_
  refine rq (out:=aj x1) ag ?_
  refine rq (out:=Pr.i64 (x1.length:Int)) (qLenS rfl Tryz.underlying9) ?_
  refine rq (out:=Pr.i64 (x1.length:Int)) ae ?_
  obtain rfl:=Option.some.inj h
  exact bb ⟨rfl,aa⟩
 refine cd (fun m e C=>∃(x3:Int),cz (fun s=>lex_run_l2 x1 x2 s) m x3=some z2l/\At [(0,aj x1),(1,ia Tryz.prog (spec145 x2)),(7,Pr.i64 (x1.length:Int)),(8,Pr.i64 x3)] [] e C) n2 ⟨0,hN2,⟨⟨aa,aa,aa,aa,trivial⟩,Pick.refl _⟩⟩ ?_
 clear hN2
 rintro m e C ⟨x3,hN2,hatl2⟩
 refine W_at hatl2 ?_
 clear hatl2
 obtain⟨m2,w2l,rfl,h2l,hn2,ho2⟩:=ay hN2
 clear hN2
 replace h2l:lex_run_l2 x1 x2 x3=some w2l:=h2l
 unfold lex_run_l2 at h2l
 refine W_rs ?_
 refine rq (out:=Pr.bool (decide (x3<(x1.length:Int)))) qInt ?_
 refine aw ?_
 refine au (b:=decide (x3<(x1.length:Int))) rfl (fun hc5=> ?_) (fun hc5=> ?_)
 ·replace h2l:=iteT hc5 h2l
  refine av ?_
  refine aw ?_
  refine ar ?_
  refine W_rs ?_
  refine rq (out:=Pr.i64 x3) ag ?_
  refine rq (out:=Pr.i64 x3) ae ?_
  refine W_rs ?_
  refine rq (out:=ia Tryz.prog (spec145 x2)) ag ?_
  refine rq (out:=aj x1) ag ?_
  refine rq (out:=Pr.i64 x3) ag ?_
  obtain⟨x6,hx6,h2l⟩:=ah h2l
  refine rq (out:=Pr.u8 x6) (qIdxS Tryz.underlying9 hx6) ?_
  obtain⟨x7,hx7,h2l⟩:=ah h2l
  refine rq (out:=Pr.bool x7) (qCallP (spec:=spec145 x2) ⟨_,_,rfl,rfl,hx7⟩) ?_
  refine rq (out:=Pr.bool (!x7)) qNot ?_
  refine au (b:= !x7) rfl (fun hc8=> ?_) (fun hc8=> ?_)
  ·replace h2l:=iteT hc8 h2l
   refine W_rs ?_
   refine rq (out:=Pr.i64 x3) ag ?_
   refine rq (out:=Pr.i64 x3) ae ?_
   obtain rfl:=ho2 _ (Option.some.inj h2l).symm
   replace h:some x3=some r:=h
   obtain rfl:=Option.some.inj h
   exact bb ⟨rfl,aa⟩
  replace h2l:=iteF hc8 h2l
  refine av ?_
  refine W_r ?_
  refine rq (out:=Pr.i64 (w64 (x3+1))) qInt ?_
  refine rq (out:=Pr.i64 (w64 (x3+1))) ag ?_
  exact⟨m2,Nat.lt_succ_self _,w64 (x3+1),hn2 _ (Option.some.inj h2l).symm,⟨⟨aa,aa,aa,aa,trivial⟩,Pick.refl _⟩⟩
 replace h2l:=iteF hc5 h2l
 refine bw ?_
 obtain rfl:=ho2 _ (Option.some.inj h2l).symm
 exact⟨h,⟨⟨aa,trivial⟩,Pick.refl _⟩⟩
theorem lex_between_1_ok (x1:Int) (r:Bool) (h:l8 x1=some r):FnP Tryz.prog 107 [Pr.u8 x1] (Pr.bool r):=by
 refine a7 (n:=5) (rs:=[2]) Tryz.func107 rfl Tryz.ntmps107 ⟨by decide,Tryz.results107⟩ (by decide) (fun s0=> ?_)
 unfold l8 at h
 refine W_rs ?_
 refine rq (out:=Pr.bool false) ae ?_
 refine W_rs ?_
 refine rq (out:=Pr.u8 x1) ag ?_
 refine rq (out:=Pr.bool (x1 != 10)) qInt ?_
 refine rq (out:=Pr.bool (x1 != 10)) ae ?_
 obtain rfl:=Option.some.inj h
 exact bb ⟨rfl,aa⟩
theorem lex_between_ok (x1:List UInt8) (r:Int × Bool) (h:lex_between x1=some r):FnP Tryz.prog 92 [aj x1] (bn [Pr.i64 r.1,Pr.bool r.2]):=by
 refine a7 (n:=48) (rs:=[2,3]) Tryz.func92 rfl Tryz.ntmps92 ⟨by decide,Tryz.results92⟩ (by decide) (fun s0=> ?_)
 unfold lex_between at h
 refine W_rs ?_
 refine rq (out:=Pr.i64 0) ae ?_
 refine rq (out:=Pr.bool false) ae ?_
 refine W_scope ?_
 refine W_rs ?_
 refine rq (out:=Pr.i64 0) ae ?_
 refine aw ?_
 refine W_label ?_
 refine bg (fun e C=>∃(x2:Int),lex_between_j1 x2=some r/\At [(4,Pr.i64 x2)] [] e C) ?_ ?_
 ·rintro e C ⟨x2,h,hat1⟩
  refine W_at hat1 ?_
  clear hat1
  unfold lex_between_j1 at h
  refine W_rs ?_
  refine rq (out:=Pr.i64 x2) ag ?_
  refine rq (out:=Pr.i64 x2) ae ?_
  refine rq (out:=Pr.bool true) ae ?_
  obtain rfl:=Option.some.inj h
  exact bb ⟨rfl,aa⟩
 refine ar ?_
 obtain⟨z3l,hz3,h⟩:=ah h
 obtain⟨n3,hN3⟩:=a4 hz3
 clear hz3
 refine bp 0 (fun e C=>∃(x2:Int),lex_between_k2 x2=some r/\At [(4,Pr.i64 x2)] [] e C) ?_ ?_
 ·rintro e C ⟨x2,h,hat2⟩
  unfold lex_between_k2 at h
  exact⟨x2,h,(At.trans hat2 ⟨⟨aa,trivial⟩,Pick.refl _⟩)⟩
 refine cd (fun m e C=>∃(x2:Int),cz (fun s=>ku x1 s) m x2=some z3l/\At [(0,aj x1),(4,Pr.i64 x2)] [] e C) n3 ⟨0,hN3,⟨⟨aa,aa,trivial⟩,Pick.refl _⟩⟩ ?_
 clear hN3
 rintro m e C ⟨x2,hN3,hatl3⟩
 refine W_at hatl3 ?_
 clear hatl3
 obtain⟨m3,w3l,rfl,h3l,hn3,ho3⟩:=ay hN3
 clear hN3
 replace h3l:ku x1 x2=some w3l:=h3l
 unfold ku at h3l
 refine aw ?_
 refine W_rs ?_
 refine rq (out:=Pr.i64 x2) ag ?_
 refine rq (out:=aj x1) ag ?_
 refine rq (out:=Pr.i64 (x1.length:Int)) (qLenS rfl Tryz.underlying9) ?_
 refine rq (out:=Pr.bool (decide (x2<(x1.length:Int)))) qInt ?_
 refine au (b:=decide (x2<(x1.length:Int))) rfl (fun hc4=> ?_) (fun hc4=> ?_)
 ·replace h3l:=iteT hc4 h3l
  refine av ?_
  refine ar ?_
  refine W_rs ?_
  refine rq (out:=aj x1) ag ?_
  refine rq (out:=Pr.i64 x2) ag ?_
  obtain⟨x5,hx5,h3l⟩:=ah h3l
  refine rq (out:=aj x5) (qSubL Tryz.underlying9 hx5) ?_
  refine rq (out:=aj x5) ae ?_
  refine aw ?_
  refine ar ?_
  refine W_rs ?_
  refine rq (out:=aj x5) ag ?_
  obtain⟨x6,hx6,h3l⟩:=ah h3l
  refine rq (out:=Pr.bool x6) (br (mj x5 ([47,47]:List UInt8) _ hx6)) ?_
  refine rq (out:=Pr.bool x6) ae ?_
  refine au (b:=x6) rfl (fun hc7=> ?_) (fun hc7=> ?_)
  ·replace h3l:=iteT hc7 h3l
   refine W_rs ?_
   refine rq (out:=Pr.i64 x2) ag ?_
   refine rq (out:=aj x5) ag ?_
   obtain⟨x8,hx8,h3l⟩:=ah h3l
   refine rq (out:=Pr.i64 x8) (qCall' (lex_run_ok x5 l8 _ hx8) ⟨aa,(is_pfn en107 (fun _ _ hs=>by obtain⟨a0,r,rfl,rfl,hr⟩:=hs;exact lex_between_1_ok a0 r hr)),trivial⟩) ?_
   refine rq (out:=Pr.i64 (w64 (x2+x8))) qInt ?_
   refine rq (out:=Pr.i64 (w64 (x2+x8))) ae ?_
   refine bw ?_
   exact⟨m3,Nat.lt_succ_self _,w64 (x2+x8),hn3 _ (Option.some.inj h3l).symm,⟨⟨aa,aa,trivial⟩,Pick.refl _⟩⟩
  replace h3l:=iteF hc7 h3l
  refine W_rs ?_
  refine rq (out:=aj x5) ag ?_
  obtain⟨x9,hx9,h3l⟩:=ah h3l
  refine rq (out:=Pr.bool x9) (br (mj x5 ([47,42]:List UInt8) _ hx9)) ?_
  refine rq (out:=Pr.bool x9) ae ?_
  refine au (b:=x9) rfl (fun hc10=> ?_) (fun hc10=> ?_)
  ·replace h3l:=iteT hc10 h3l
   refine W_rs ?_
   refine rq (out:=aj x5) ag ?_
   obtain⟨x11,hx11,h3l⟩:=ah h3l
   refine rq (out:=aj x11) (qSubL Tryz.underlying9 hx11) ?_
   obtain⟨x12,hx12,h3l⟩:=ah h3l
   refine rq (out:=Pr.i64 x12) (br (strings_Index_ok x11 ([42,47]:List UInt8) _ hx12)) ?_
   refine rq (out:=Pr.i64 x12) ae ?_
   refine aw ?_
   refine W_rs ?_
   refine rq (out:=Pr.i64 x12) ag ?_
   refine rq (out:=Pr.bool (decide (x12<0))) qInt ?_
   refine au (b:=decide (x12<0)) rfl (fun hc13=> ?_) (fun hc13=> ?_)
   ·replace h3l:=iteT hc13 h3l
    refine W_rs ?_
    refine rq (out:=Pr.i64 x2) ag ?_
    refine rq (out:=Pr.i64 x2) ae ?_
    refine rq (out:=Pr.bool false) ae ?_
    obtain rfl:=ho3 _ (Option.some.inj h3l).symm
    replace h:some (x2,false)=some r:=h
    obtain rfl:=Option.some.inj h
    exact bb ⟨rfl,aa⟩
   replace h3l:=iteF hc13 h3l
   refine av ?_
   refine W_rs ?_
   refine rq (out:=Pr.i64 x2) ag ?_
   refine rq (out:=Pr.i64 x12) ag ?_
   refine rq (out:=Pr.i64 (w64 (2+x12))) qInt ?_
   refine rq (out:=Pr.i64 (w64 ((w64 (2+x12))+2))) qInt ?_
   refine rq (out:=Pr.i64 (w64 (x2+(w64 ((w64 (2+x12))+2))))) qInt ?_
   refine rq (out:=Pr.i64 (w64 (x2+(w64 ((w64 (2+x12))+2))))) ae ?_
   refine bw ?_
   exact⟨m3,Nat.lt_succ_self _,w64 (x2+(w64 ((w64 (2+x12))+2))),hn3 _ (Option.some.inj h3l).symm,⟨⟨aa,aa,trivial⟩,Pick.refl _⟩⟩
  replace h3l:=iteF hc10 h3l
  refine av ?_
  refine W_rs ?_
  refine rq (out:=aj x5) ag ?_
  obtain⟨x14,hx14,h3l⟩:=ah h3l
  refine rq (out:=Pr.u8 x14) (qIdxS Tryz.underlying9 hx14) ?_
  refine ar ?_
  refine aw ?_
  refine ar ?_
  refine bg (fun e C=>i9 x2=some w3l/\At [(0,aj x1),(4,Pr.i64 x2)] [] e C) ?_ ?_
  ·rintro e C ⟨h3l,hat4⟩
   refine W_at hat4 ?_
   clear hat4
   unfold i9 at h3l
   refine W_rs ?_
   refine rq (out:=Pr.i64 x2) ag ?_
   refine rq (out:=Pr.i64 (w64 (x2+1))) qInt ?_
   refine rq (out:=Pr.i64 (w64 (x2+1))) ae ?_
   refine bw ?_
   exact⟨m3,Nat.lt_succ_self _,w64 (x2+1),hn3 _ (Option.some.inj h3l).symm,⟨⟨aa,aa,trivial⟩,Pick.refl _⟩⟩
  refine ar ?_
  refine ar ?_
  refine ar ?_
  refine ar ?_
  refine aw ?_
  refine aw ?_
  refine W_rs ?_
  refine rq (out:=Pr.bool (x14==32)) qInt ?_
  refine rq (out:=Pr.bool (x14==32)) ae ?_
  refine au (b:=x14==32) rfl (fun hc15=> ?_) (fun hc15=> ?_)
  ·replace h3l:=iteT hc15 h3l
   refine bw ?_
   exact⟨h3l,⟨⟨aa,aa,trivial⟩,Pick.refl _⟩⟩
  replace h3l:=iteF hc15 h3l
  refine av ?_
  refine aw ?_
  refine W_rs ?_
  refine rq (out:=Pr.bool (x14==9)) qInt ?_
  refine rq (out:=Pr.bool (x14==9)) ae ?_
  refine au (b:=x14==9) rfl (fun hc16=> ?_) (fun hc16=> ?_)
  ·replace h3l:=iteT hc16 h3l
   refine bw ?_
   exact⟨h3l,⟨⟨aa,aa,trivial⟩,Pick.refl _⟩⟩
  replace h3l:=iteF hc16 h3l
  refine av ?_
  refine aw ?_
  refine W_rs ?_
  refine rq (out:=Pr.bool (x14==13)) qInt ?_
  refine rq (out:=Pr.bool (x14==13)) ae ?_
  refine au (b:=x14==13) rfl (fun hc17=> ?_) (fun hc17=> ?_)
  ·replace h3l:=iteT hc17 h3l
   refine bw ?_
   exact⟨h3l,⟨⟨aa,aa,trivial⟩,Pick.refl _⟩⟩
  replace h3l:=iteF hc17 h3l
  refine av ?_
  refine W_rs ?_
  refine rq (out:=Pr.bool (x14==10)) qInt ?_
  refine rq (out:=Pr.bool (x14==10)) ae ?_
  refine au (b:=x14==10) rfl (fun hc18=> ?_) (fun hc18=> ?_)
  ·replace h3l:=iteT hc18 h3l
   refine bw ?_
   exact⟨h3l,⟨⟨aa,aa,trivial⟩,Pick.refl _⟩⟩
  replace h3l:=iteF hc18 h3l
  refine av ?_
  refine bw ?_
  refine aw ?_
  refine bw ?_
  obtain rfl:=ho3 _ (Option.some.inj h3l).symm
  exact⟨x2,h,⟨⟨aa,trivial⟩,Pick.refl _⟩⟩
 replace h3l:=iteF hc4 h3l
 refine bw ?_
 obtain rfl:=ho3 _ (Option.some.inj h3l).symm
 exact⟨x2,h,⟨⟨aa,trivial⟩,Pick.refl _⟩⟩
theorem lex_digit_ok (x1:Int) (r:Bool) (h:lex_digit x1=some r):FnP Tryz.prog 109 [Pr.u8 x1] (Pr.bool r):=by
 refine a7 (n:=9) (rs:=[2]) Tryz.func109 rfl Tryz.ntmps109 ⟨by decide,Tryz.results109⟩ (by decide) (fun s0=> ?_)
 unfold lex_digit at h
 refine W_rs ?_
 refine rq (out:=Pr.bool false) ae ?_
 refine bg (fun e C=>∃(x3:Bool),lex_digit_j1 x3=some r/\At [(2,Pr.bool x3)] [] e C) ?_ ?_
 ·rintro e C ⟨x3,h,hat1⟩
  refine W_at hat1 ?_
  clear hat1
  unfold lex_digit_j1 at h
  obtain rfl:=Option.some.inj h
  exact bb ⟨rfl,aa⟩
 refine W_r ?_
 refine rq (out:=Pr.u8 x1) ag ?_
 refine rq (out:=Pr.bool (decide (x1≥48))) qInt ?_
 refine rq (out:=Pr.bool (decide (x1≥48))) ag ?_
 rcases bc h with⟨hc2,h⟩|⟨hc2,h⟩
 ·refine rqg hc2 (out:=Pr.u8 x1) ag ?_
  refine rqg hc2 (out:=Pr.bool (decide (x1<=57))) qInt ?_
  refine rq (out:=Pr.bool (decide (x1<=57))) (bo hc2) ?_
  refine rq (out:=Pr.bool (decide (x1<=57))) ae ?_
  exact⟨decide (x1<=57),h,⟨⟨aa,trivial⟩,Pick.refl _⟩⟩
 refine rno (neT hc2) ?_
 refine rno (neT hc2) ?_
 refine rq (out:=Pr.bool false) (az hc2) ?_
 refine rq (out:=Pr.bool false) ae ?_
 exact⟨false,h,⟨⟨aa,trivial⟩,Pick.refl _⟩⟩
theorem lex_letter_ok (x1:Int) (r:Bool) (h:lex_letter x1=some r):FnP Tryz.prog 111 [Pr.u8 x1] (Pr.bool r):=by
 refine a7 (n:=15) (rs:=[2]) Tryz.func111 rfl Tryz.ntmps111 ⟨by decide,Tryz.results111⟩ (by decide) (fun s0=> ?_)
 unfold lex_letter at h
 refine W_rs ?_
 refine rq (out:=Pr.bool false) ae ?_
 refine bg (fun e C=>∃(x5:Bool),lex_letter_j1 x5=some r/\At [(2,Pr.bool x5)] [] e C) ?_ ?_
 ·rintro e C ⟨x5,h,hat1⟩
  refine W_at hat1 ?_
  clear hat1
  unfold lex_letter_j1 at h
  obtain rfl:=Option.some.inj h
  exact bb ⟨rfl,aa⟩
 refine W_r ?_
 refine rq (out:=Pr.u8 x1) ag ?_
 refine rq (out:=Pr.u8 (bits .or .u8 x1 32)) (qBits (by simp) rfl) ?_
 refine rq (out:=Pr.bool (decide ((bits .or .u8 x1 32)≥97))) qInt ?_
 refine rq (out:=Pr.bool (decide ((bits .or .u8 x1 32)≥97))) ag ?_
 rcases bc h with⟨hc2,h⟩|⟨hc2,h⟩
 ·refine rqg hc2 (out:=Pr.u8 x1) ag ?_
  refine rqg hc2 (out:=Pr.u8 (bits .or .u8 x1 32)) (qBits (by simp) rfl) ?_
  refine rqg hc2 (out:=Pr.bool (decide ((bits .or .u8 x1 32)<=122))) qInt ?_
  refine rq (out:=Pr.bool (decide ((bits .or .u8 x1 32)<=122))) (bo hc2) ?_
  refine rq (out:=Pr.bool (decide ((bits .or .u8 x1 32)<=122))) ag ?_
  rcases bc h with⟨hc3,h⟩|⟨hc3,h⟩
  ·refine rno (neF hc3) ?_
   refine rno (neF hc3) ?_
   refine rq (out:=Pr.bool true) (bo hc3) ?_
   refine rq (out:=Pr.bool true) ae ?_
   exact⟨true,h,⟨⟨aa,trivial⟩,Pick.refl _⟩⟩
  refine rqg hc3 (out:=Pr.u8 x1) ag ?_
  refine rqg hc3 (out:=Pr.bool (x1==95)) qInt ?_
  refine rq (out:=Pr.bool (x1==95)) (az hc3) ?_
  refine rq (out:=Pr.bool (x1==95)) ae ?_
  exact⟨x1==95,h,⟨⟨aa,trivial⟩,Pick.refl _⟩⟩
 refine rno (neT hc2) ?_
 refine rno (neT hc2) ?_
 refine rno (neT hc2) ?_
 refine rq (out:=Pr.bool false) (az hc2) ?_
 refine rq (out:=Pr.bool false) ag ?_
 have hc4:false=false:=rfl
 refine rqg hc4 (out:=Pr.u8 x1) ag ?_
 refine rqg hc4 (out:=Pr.bool (x1==95)) qInt ?_
 refine rq (out:=Pr.bool (x1==95)) (az hc4) ?_
 refine rq (out:=Pr.bool (x1==95)) ae ?_
 exact⟨x1==95,h,⟨⟨aa,trivial⟩,Pick.refl _⟩⟩
theorem lex_token_1_ok (x1:Int) (r:Bool) (h:nv x1=some r):FnP Tryz.prog 112 [Pr.u8 x1] (Pr.bool r):=by
 refine a7 (n:=9) (rs:=[2]) Tryz.func112 rfl Tryz.ntmps112 ⟨by decide,Tryz.results112⟩ (by decide) (fun s0=> ?_)
 unfold nv at h
 refine W_rs ?_
 refine rq (out:=Pr.bool false) ae ?_
 refine bg (fun e C=>∃(x5:Bool),lex_token_1_j1 x5=some r/\At [(2,Pr.bool x5)] [] e C) ?_ ?_
 ·rintro e C ⟨x5,h,hat1⟩
  refine W_at hat1 ?_
  clear hat1
  unfold lex_token_1_j1 at h
  obtain rfl:=Option.some.inj h
  exact bb ⟨rfl,aa⟩
 refine W_r ?_
 refine rq (out:=Pr.u8 x1) ag ?_
 obtain⟨x2,hx2,h⟩:=ah h
 refine rq (out:=Pr.bool x2) (br (lex_letter_ok x1 _ hx2)) ?_
 refine rq (out:=Pr.bool x2) ag ?_
 rcases bc h with⟨hc3,h⟩|⟨hc3,h⟩
 ·refine rno (neF hc3) ?_
  refine rno (neF hc3) ?_
  refine rq (out:=Pr.bool true) (bo hc3) ?_
  refine rq (out:=Pr.bool true) ae ?_
  exact⟨true,h,⟨⟨aa,trivial⟩,Pick.refl _⟩⟩
 refine rqg hc3 (out:=Pr.u8 x1) ag ?_
 obtain⟨x4,hx4,h⟩:=ah h
 refine rqg hc3 (out:=Pr.bool x4) (br (lex_digit_ok x1 _ hx4)) ?_
 refine rq (out:=Pr.bool x4) (az hc3) ?_
 refine rq (out:=Pr.bool x4) ae ?_
 exact⟨x4,h,⟨⟨aa,trivial⟩,Pick.refl _⟩⟩
theorem lex_Kept_ok (x1:List UInt8) (r:Bool) (h:lex_Kept x1=some r):FnP Tryz.prog 113 [aj x1] (Pr.bool r):=by
 refine a7 (n:=6) (rs:=[2]) Tryz.func113 rfl Tryz.ntmps113 ⟨by decide,Tryz.results113⟩ (by decide) (fun s0=> ?_)
 unfold lex_Kept at h
 refine W_rs ?_
 refine rq (out:=Pr.bool false) ae ?_
 refine W_rs ?_
 refine rq (out:=af ab kept) (qGSlice (R:=ab) (L:=kept) gKept Tryz.underlying165 Tryz.sizeOf9 rfl) ?_
 refine rq (out:=aj x1) ag ?_
 obtain⟨x2,hx2,h⟩:=ah h
 refine rq (out:=Pr.bool x2) (br (da kept x1 _ hx2)) ?_
 refine rq (out:=Pr.bool x2) ae ?_
 obtain rfl:=Option.some.inj h
 exact bb ⟨rfl,aa⟩
theorem lex_mark_ok (x1:List UInt8) (r:Int) (h:lex_mark x1=some r):FnP Tryz.prog 114 [aj x1] (Pr.i64 r):=by
 refine a7 (n:=19) (rs:=[2]) Tryz.func114 rfl Tryz.ntmps114 ⟨by decide,Tryz.results114⟩ (by decide) (fun s0=> ?_)
 unfold lex_mark at h
 refine W_rs ?_
 refine rq (out:=Pr.i64 0) ae ?_
 refine aw ?_
 refine W_rs ?_
 refine rq (out:=af ab ([([61,61]:List UInt8),([33,61]:List UInt8),([60,61]:List UInt8),([62,61]:List UInt8),([38,38]:List UInt8),([124,124]:List UInt8)]:List (List UInt8))) (fm (R:=ab) (ls:=([([61,61]:List UInt8),([33,61]:List UInt8),([60,61]:List UInt8),([62,61]:List UInt8),([38,38]:List UInt8),([124,124]:List UInt8)]:List (List UInt8))) el33 (Nat.le_of_ble_eq_true rfl) ⟨rfl,rfl⟩ ⟨rfl,rfl,rfl,rfl,rfl,rfl,trivial⟩) ?_
 refine rq (out:=Pr.i64 (([([61,61]:List UInt8),([33,61]:List UInt8),([60,61]:List UInt8),([62,61]:List UInt8),([38,38]:List UInt8),([124,124]:List UInt8)]:List (List UInt8)).length:Int)) (cl rfl Tryz.underlying33) ?_
 refine rq (out:=Pr.i64 0) ag ?_
 refine ar ?_
 obtain⟨z2l,hz2,h⟩:=ah h
 obtain⟨n2,hN2⟩:=a4 hz2
 clear hz2
 refine bp 0 (fun e C=>lex_mark_k1 x1=some r/\At [(0,aj x1)] [] e C) ?_ ?_
 ·rintro e C ⟨h,hat1⟩
  refine W_at hat1 ?_
  clear hat1
  unfold lex_mark_k1 at h
  refine aw ?_
  refine W_rs ?_
  refine rq (out:=aj x1) ag ?_
  obtain⟨x8,hx8,h⟩:=ah h
  refine rq (out:=Pr.u8 x8) (qIdxS Tryz.underlying9 hx8) ?_
  obtain⟨x9,hx9,h⟩:=ah h
  refine rq (out:=Pr.i64 x9) (br (strings_IndexByte_ok ([43,45,42,47,37,60,62,61,33,40,41,123,125,59,44,46]:List UInt8) x8 _ hx9)) ?_
  refine rq (out:=Pr.bool (decide (x9≥0))) qInt ?_
  refine au (b:=decide (x9≥0)) rfl (fun hc10=> ?_) (fun hc10=> ?_)
  ·replace h:=iteT hc10 h
   refine W_rs ?_
   refine rq (out:=Pr.i64 1) ae ?_
   obtain rfl:=Option.some.inj h
   exact bb ⟨rfl,aa⟩
  replace h:=iteF hc10 h
  refine av ?_
  refine W_rs ?_
  refine rq (out:=Pr.i64 0) ae ?_
  obtain rfl:=Option.some.inj h
  exact bb ⟨rfl,aa⟩
 refine cd (fun m e C=>∃(x2:Int),cz (fun s=>lex_mark_l2 x1 s) m x2=some z2l/\At [(0,aj x1),(5,af ab ([([61,61]:List UInt8),([33,61]:List UInt8),([60,61]:List UInt8),([62,61]:List UInt8),([38,38]:List UInt8),([124,124]:List UInt8)]:List (List UInt8))),(6,Pr.i64 (([([61,61]:List UInt8),([33,61]:List UInt8),([60,61]:List UInt8),([62,61]:List UInt8),([38,38]:List UInt8),([124,124]:List UInt8)]:List (List UInt8)).length:Int)),(7,Pr.i64 x2)] [] e C) n2 ⟨0,hN2,⟨⟨aa,aa,aa,aa,trivial⟩,Pick.refl _⟩⟩ ?_
 clear hN2
 rintro m e C ⟨x2,hN2,hatl2⟩
 refine W_at hatl2 ?_
 clear hatl2
 obtain⟨m2,w2l,rfl,h2l,hn2,ho2⟩:=ay hN2
 clear hN2
 replace h2l:lex_mark_l2 x1 x2=some w2l:=h2l
 unfold lex_mark_l2 at h2l
 refine W_rs ?_
 refine rq (out:=Pr.bool (decide (x2<(([([61,61]:List UInt8),([33,61]:List UInt8),([60,61]:List UInt8),([62,61]:List UInt8),([38,38]:List UInt8),([124,124]:List UInt8)]:List (List UInt8)).length:Int)))) qInt ?_
 refine aw ?_
 refine au (b:=decide (x2<(([([61,61]:List UInt8),([33,61]:List UInt8),([60,61]:List UInt8),([62,61]:List UInt8),([38,38]:List UInt8),([124,124]:List UInt8)]:List (List UInt8)).length:Int))) rfl (fun hc4=> ?_) (fun hc4=> ?_)
 ·replace h2l:=iteT hc4 h2l
  refine av ?_
  refine aw ?_
  refine ar ?_
  refine W_rs ?_
  obtain⟨x5,hx5,h2l⟩:=ah h2l
  refine rq (out:=a5 ab x5) (cr (R:=ab) (l:=([([61,61]:List UInt8),([33,61]:List UInt8),([60,61]:List UInt8),([62,61]:List UInt8),([38,38]:List UInt8),([124,124]:List UInt8)]:List (List UInt8))) Tryz.underlying33 Tryz.sizeOf9 hx5) ?_
  refine rq (out:=aj x5) (bl (R:=ab) (a:=x5) ty9) ?_
  refine rq (out:=aj x5) ae ?_
  refine W_rs ?_
  refine rq (out:=aj x1) ag ?_
  refine rq (out:=aj x5) ag ?_
  obtain⟨x6,hx6,h2l⟩:=ah h2l
  refine rq (out:=Pr.bool x6) (br (mj x1 x5 _ hx6)) ?_
  refine au (b:=x6) rfl (fun hc7=> ?_) (fun hc7=> ?_)
  ·replace h2l:=iteT hc7 h2l
   refine W_rs ?_
   refine rq (out:=Pr.i64 2) ae ?_
   obtain rfl:=ho2 _ (Option.some.inj h2l).symm
   replace h:some 2=some r:=h
   obtain rfl:=Option.some.inj h
   exact bb ⟨rfl,aa⟩
  replace h2l:=iteF hc7 h2l
  refine av ?_
  refine W_r ?_
  refine rq (out:=Pr.i64 (w64 (x2+1))) qInt ?_
  refine rq (out:=Pr.i64 (w64 (x2+1))) ag ?_
  exact⟨m2,Nat.lt_succ_self _,w64 (x2+1),hn2 _ (Option.some.inj h2l).symm,⟨⟨aa,aa,aa,aa,trivial⟩,Pick.refl _⟩⟩
 replace h2l:=iteF hc4 h2l
 refine bw ?_
 obtain rfl:=ho2 _ (Option.some.inj h2l).symm
 exact⟨h,⟨⟨aa,trivial⟩,Pick.refl _⟩⟩
theorem lex_token_ok (x1:List UInt8) (r:Int × Int × Int) (h:lex_token x1=some r):FnP Tryz.prog 93 [aj x1] (bn [Pr.i64 r.1,Pr.i64 r.2.1,Pr.i64 r.2.2]):=by
 refine a7 (n:=60) (rs:=[2,3,4]) Tryz.func93 rfl Tryz.ntmps93 ⟨by decide,Tryz.results93⟩ (by decide) (fun s0=> ?_)
 unfold lex_token at h
 refine W_rs ?_
 refine rq (out:=Pr.i64 0) ae ?_
 refine rq (out:=Pr.i64 0) ae ?_
 refine rq (out:=Pr.i64 0) ae ?_
 refine aw ?_
 refine ar ?_
 refine W_rs ?_
 refine rq (out:=aj x1) ag ?_
 obtain⟨x2,hx2,h⟩:=ah h
 refine rq (out:=Pr.u8 x2) (qIdxS Tryz.underlying9 hx2) ?_
 obtain⟨x3,hx3,h⟩:=ah h
 refine rq (out:=Pr.bool x3) (br (lex_digit_ok x2 _ hx3)) ?_
 refine rq (out:=Pr.bool x3) ae ?_
 refine au (b:=x3) rfl (fun hc4=> ?_) (fun hc4=> ?_)
 ·replace h:=iteT hc4 h
  refine W_rs ?_
  refine rq (out:=aj x1) ag ?_
  obtain⟨x5,hx5,h⟩:=ah h
  refine rq (out:=Pr.i64 x5) (qCall' (lex_run_ok x1 lex_digit _ hx5) ⟨aa,(is_pfn en109 (fun _ _ hs=>by obtain⟨a0,r,rfl,rfl,hr⟩:=hs;exact lex_digit_ok a0 r hr)),trivial⟩) ?_
  refine rq (out:=Pr.i64 x5) ae ?_
  refine W_rs ?_
  refine rq (out:=aj x1) ag ?_
  refine rq (out:=Pr.i64 x5) ag ?_
  obtain⟨x6,hx6,h⟩:=ah h
  refine rq (out:=aj x6) (qSubH Tryz.underlying9 hx6) ?_
  obtain⟨⟨x7,x8⟩,hx7,h⟩:=ah h
  refine rq (out:=bn [Pr.i64 x7,Pr.err x8]) (br (strconv_ParseInt_ok x6 10 64 _ hx7)) ?_
  refine rq (out:=bn [Pr.i64 x7,Pr.err x8]) ag ?_
  refine rq (out:=Pr.i64 x7) a6 ?_
  refine rq (out:=Pr.err x8) a6 ?_
  refine rq (out:=Pr.i64 x7) ae ?_
  refine rq (out:=Pr.err x8) ae ?_
  refine aw ?_
  refine bg (fun e C=>∃(x16:Bool),lk x5 x16=some r/\At [(5,Pr.i64 x5),(37,Pr.bool x16)] [] e C) ?_ ?_
  ·rintro e C ⟨x16,h,hat1⟩
   refine W_at hat1 ?_
   clear hat1
   unfold lk at h
   refine au (b:=x16) rfl (fun hc17=> ?_) (fun hc17=> ?_)
   ·replace h:=iteT hc17 h
    refine W_rs ?_
    refine rq (out:=Pr.i64 0) ae ?_
    refine rq (out:=Pr.i64 0) ae ?_
    refine rq (out:=Pr.i64 31) ae ?_
    obtain rfl:=Option.some.inj h
    exact bb ⟨rfl,aa⟩
   replace h:=iteF hc17 h
   refine av ?_
   refine W_rs ?_
   refine rq (out:=Pr.i64 x5) ag ?_
   refine rq (out:=Pr.i64 2) ae ?_
   refine rq (out:=Pr.i64 x5) ae ?_
   refine rq (out:=Pr.i64 0) ae ?_
   obtain rfl:=Option.some.inj h
   exact bb ⟨rfl,aa⟩
  refine W_r ?_
  refine rq (out:=Pr.err x8) ag ?_
  refine rq (out:=Pr.bool x8) (qErrNe Tryz.underlying126) ?_
  refine rq (out:=Pr.bool x8) ag ?_
  rcases bc h with⟨hc9,h⟩|⟨hc9,h⟩
  ·refine rno (neF hc9) ?_
   refine rno (neF hc9) ?_
   refine rq (out:=Pr.bool true) (bo hc9) ?_
   refine rq (out:=Pr.bool true) ag ?_
   have hc13:true=true:=rfl
   refine rno (neF hc13) ?_
   refine rno (neF hc13) ?_
   refine rno (neF hc13) ?_
   refine rnoU ?_
   refine rnoU ?_
   refine rnoU ?_
   refine rno (neF hc13) ?_
   refine rq (out:=Pr.bool true) (bo hc13) ?_
   exact⟨true,h,⟨⟨aa,aa,trivial⟩,Pick.refl _⟩⟩
  refine rqg hc9 (out:=Pr.i64 x7) ag ?_
  refine rqg hc9 (out:=Pr.bool (decide (x7>2147483647))) qInt ?_
  refine rq (out:=Pr.bool (decide (x7>2147483647))) (az hc9) ?_
  refine rq (out:=Pr.bool (decide (x7>2147483647))) ag ?_
  rcases bc h with⟨hc10,h⟩|⟨hc10,h⟩
  ·refine rno (neF hc10) ?_
   refine rno (neF hc10) ?_
   refine rno (neF hc10) ?_
   refine rnoU ?_
   refine rnoU ?_
   refine rnoU ?_
   refine rno (neF hc10) ?_
   refine rq (out:=Pr.bool true) (bo hc10) ?_
   exact⟨true,h,⟨⟨aa,aa,trivial⟩,Pick.refl _⟩⟩
  refine rqg hc10 (out:=Pr.i64 x5) ag ?_
  refine rqg hc10 (out:=Pr.bool (decide (x5>1))) qInt ?_
  refine rqg hc10 (out:=Pr.bool (decide (x5>1))) ag ?_
  rcases bc h with⟨hc11,h⟩|⟨hc11,h⟩
  ·refine rqg hc11 (out:=aj x1) ag ?_
   obtain⟨x12,hx12,h⟩:=ah h
   refine rqg hc11 (out:=Pr.u8 x12) (qIdxS Tryz.underlying9 hx12) ?_
   refine rqg hc11 (out:=Pr.bool (x12==48)) qInt ?_
   refine rqg hc10 (out:=Pr.bool (x12==48)) (bo hc11) ?_
   refine rq (out:=Pr.bool (x12==48)) (az hc10) ?_
   exact⟨x12==48,h,⟨⟨aa,aa,trivial⟩,Pick.refl _⟩⟩
  refine rno (neT hc11) ?_
  refine rno (neT hc11) ?_
  refine rno (neT hc11) ?_
  refine rqg hc10 (out:=Pr.bool false) (az hc11) ?_
  refine rq (out:=Pr.bool false) (az hc10) ?_
  exact⟨false,h,⟨⟨aa,aa,trivial⟩,Pick.refl _⟩⟩
 replace h:=iteF hc4 h
 refine W_rs ?_
 refine rq (out:=aj x1) ag ?_
 obtain⟨x18,hx18,h⟩:=ah h
 refine rq (out:=Pr.u8 x18) (qIdxS Tryz.underlying9 hx18) ?_
 obtain⟨x19,hx19,h⟩:=ah h
 refine rq (out:=Pr.bool x19) (br (lex_letter_ok x18 _ hx19)) ?_
 refine rq (out:=Pr.bool x19) ae ?_
 refine au (b:=x19) rfl (fun hc20=> ?_) (fun hc20=> ?_)
 ·replace h:=iteT hc20 h
  refine W_rs ?_
  refine rq (out:=aj x1) ag ?_
  obtain⟨x21,hx21,h⟩:=ah h
  refine rq (out:=Pr.i64 x21) (qCall' (lex_run_ok x1 nv _ hx21) ⟨aa,(is_pfn en112 (fun _ _ hs=>by obtain⟨a0,r,rfl,rfl,hr⟩:=hs;exact lex_token_1_ok a0 r hr)),trivial⟩) ?_
  refine rq (out:=Pr.i64 x21) ae ?_
  refine aw ?_
  refine ar ?_
  refine W_rs ?_
  refine rq (out:=Pr.i64 x21) ag ?_
  refine rq (out:=Pr.bool (decide (x21>20))) qInt ?_
  refine rq (out:=Pr.bool (decide (x21>20))) ae ?_
  refine au (b:=decide (x21>20)) rfl (fun hc22=> ?_) (fun hc22=> ?_)
  ·replace h:=iteT hc22 h
   refine W_rs ?_
   refine rq (out:=Pr.i64 0) ae ?_
   refine rq (out:=Pr.i64 0) ae ?_
   refine rq (out:=Pr.i64 2) ae ?_
   obtain rfl:=Option.some.inj h
   exact bb ⟨rfl,aa⟩
  replace h:=iteF hc22 h
  refine W_rs ?_
  refine rq (out:=aj x1) ag ?_
  refine rq (out:=Pr.i64 x21) ag ?_
  obtain⟨x23,hx23,h⟩:=ah h
  refine rq (out:=aj x23) (qSubH Tryz.underlying9 hx23) ?_
  obtain⟨x24,hx24,h⟩:=ah h
  refine rq (out:=Pr.bool x24) (br (lex_Kept_ok x23 _ hx24)) ?_
  refine rq (out:=Pr.bool x24) ae ?_
  refine au (b:=x24) rfl (fun hc25=> ?_) (fun hc25=> ?_)
  ·replace h:=iteT hc25 h
   refine W_rs ?_
   refine rq (out:=Pr.i64 x21) ag ?_
   refine rq (out:=Pr.i64 3) ae ?_
   refine rq (out:=Pr.i64 x21) ae ?_
   refine rq (out:=Pr.i64 0) ae ?_
   obtain rfl:=Option.some.inj h
   exact bb ⟨rfl,aa⟩
  replace h:=iteF hc25 h
  refine av ?_
  refine W_rs ?_
  refine rq (out:=Pr.i64 x21) ag ?_
  refine rq (out:=Pr.i64 1) ae ?_
  refine rq (out:=Pr.i64 x21) ae ?_
  refine rq (out:=Pr.i64 0) ae ?_
  obtain rfl:=Option.some.inj h
  exact bb ⟨rfl,aa⟩
 replace h:=iteF hc20 h
 refine av ?_
 refine W_rs ?_
 refine rq (out:=aj x1) ag ?_
 obtain⟨x26,hx26,h⟩:=ah h
 refine rq (out:=Pr.i64 x26) (br (lex_mark_ok x1 _ hx26)) ?_
 refine rq (out:=Pr.i64 x26) ae ?_
 refine aw ?_
 refine W_rs ?_
 refine rq (out:=Pr.i64 x26) ag ?_
 refine rq (out:=Pr.bool (x26==0)) qInt ?_
 refine au (b:=x26==0) rfl (fun hc27=> ?_) (fun hc27=> ?_)
 ·replace h:=iteT hc27 h
  refine W_rs ?_
  refine rq (out:=Pr.i64 0) ae ?_
  refine rq (out:=Pr.i64 0) ae ?_
  refine rq (out:=Pr.i64 30) ae ?_
  obtain rfl:=Option.some.inj h
  exact bb ⟨rfl,aa⟩
 replace h:=iteF hc27 h
 refine av ?_
 refine W_rs ?_
 refine rq (out:=Pr.i64 x26) ag ?_
 refine rq (out:=Pr.i64 4) ae ?_
 refine rq (out:=Pr.i64 x26) ae ?_
 refine rq (out:=Pr.i64 0) ae ?_
 obtain rfl:=Option.some.inj h
 exact bb ⟨rfl,aa⟩
theorem lex_Lex_1_ok (x1 x2 x3:Int) (x5:List ApiToken) (x8:List UInt8) (x10:Int) (b4:Nat) (v6:Value) (b7 b9:Nat) (r:(List ApiToken) × (List UInt8) × Int) (h:lex_Lex_1 x1 x2 x3 x5 x8 x10=some r):FnC Tryz.prog 91 [Pr.i64 x1,Pr.i64 x2,Pr.i64 x3,ap b4 0,ap b7 0,ap b9 0] [Own.cell b4 (Pr.is v6),Own.vec v6 bi x5 109,Own.box b7 ab x8,Own.box b9 (Rp.int .i64) x10] (fun q C'=>∃w0,q=bn []/\C'=[Own.cell b4 (Pr.is w0),Own.vec w0 bi r.1 109,Own.box b7 ab r.2.1,Own.box b9 (Rp.int .i64) r.2.2]):=by
 refine fj (n:=38) (rs:=[]) Tryz.func91 rfl Tryz.ntmps91 ⟨by decide,Tryz.results91⟩ (by decide) (fun s0=> ?_)
 unfold lex_Lex_1 at h
 refine bg (fun e C=>∃(x13:List ApiToken),∃(v14:Value),lex_Lex_1_j1 x8 x10 x2 x3 x13=some r/\At [(1,Pr.i64 x2),(2,Pr.i64 x3),(5,ap b9 0)] [Own.cell b4 (Pr.is v14),Own.vec v14 bi x13 109,Own.box b7 ab x8,Own.box b9 (Rp.int .i64) x10] e C) ?_ ?_
 ·rintro e C ⟨x13,v14,h,hat1⟩
  refine W_at hat1 ?_
  clear hat1
  unfold lex_Lex_1_j1 at h
  refine W_r ?_
  refine rq (out:=Pr.i64 x10) (a9 (R:=Rp.int .i64) (a:=x10) (R':=Rp.int .i64) 3 ty3 (Sub.refl _)) ?_
  refine rq (out:=Pr.i64 x2) ag ?_
  refine rq (out:=Pr.i64 x3) ag ?_
  refine rq (out:=Pr.i64 (w64 (x2+x3))) qInt ?_
  refine rq (out:=Pr.i64 (w64 (x10+(w64 (x2+x3))))) qInt ?_
  refine ek (R:=Rp.int .i64) (R':=Rp.int .i64) (a:=x10) (y:=w64 (x10+(w64 (x2+x3)))) 3 Tryz.sizeOf3 (Upd.refl _) ?_
  obtain rfl:=Option.some.inj h
  exact⟨.inr rfl,_,Pick.refl _,_,aa,v14,rfl,rfl⟩
 refine ei 23 hmx (by kernel_rfl) (by kernel_rfl) ?_
 refine qq (out:=Pr.is v6) (qLoadP 0 Tryz.isAgg104) ?_
 refine qq (out:=Pr.i64 x1) ag ?_
 refine qq (out:=aj x8) (a9 (R:=ab) (a:=x8) (R':=ab) 2 ty9 (Sub.refl _)) ?_
 refine qq (out:=Pr.i64 x10) (a9 (R:=Rp.int .i64) (a:=x10) (R':=Rp.int .i64) 3 ty3 (Sub.refl _)) ?_
 refine qq (out:=Pr.i64 x2) ag ?_
 refine qq (out:=Pr.i64 (w64 (x10+x2))) qInt ?_
 refine qq (out:=Pr.i64 x10) (a9 (R:=Rp.int .i64) (a:=x10) (R':=Rp.int .i64) 3 ty3 (Sub.refl _)) ?_
 refine qq (out:=Pr.i64 x2) ag ?_
 refine qq (out:=Pr.i64 (w64 (x10+x2))) qInt ?_
 refine qq (out:=Pr.i64 x3) ag ?_
 refine qq (out:=Pr.i64 (w64 ((w64 (x10+x2))+x3))) qInt ?_
 obtain⟨x11,hx11,h⟩:=ah h
 refine qq (out:=aj x11) (qSubLH Tryz.underlying9 hx11) ?_
 refine qq (out:=Pr.i64 x10) (a9 (R:=Rp.int .i64) (a:=x10) (R':=Rp.int .i64) 3 ty3 (Sub.refl _)) ?_
 refine qq (out:=Pr.i64 x2) ag ?_
 refine qq (out:=Pr.i64 (w64 (x10+x2))) qInt ?_
 refine qq (out:=aj x8) (a9 (R:=ab) (a:=x8) (R':=ab) 2 ty9 (Sub.refl _)) ?_
 refine qq (out:=Pr.i64 x10) (a9 (R:=Rp.int .i64) (a:=x10) (R':=Rp.int .i64) 3 ty3 (Sub.refl _)) ?_
 refine qq (out:=Pr.i64 x10) (a9 (R:=Rp.int .i64) (a:=x10) (R':=Rp.int .i64) 3 ty3 (Sub.refl _)) ?_
 refine qq (out:=Pr.i64 x2) ag ?_
 refine qq (out:=Pr.i64 (w64 (x10+x2))) qInt ?_
 obtain⟨x12,hx12,h⟩:=ah h
 refine qq (out:=aj x12) (qSubLH Tryz.underlying9 hx12) ?_
 refine qq (out:=(bi).val (ApiToken.mk x1 x11 (w64 (x10+x2)) x12)) (ja st109 ⟨(ApiToken.mk x1 [] 0 []),⟨_,rfl,rfl,fun j fd hj hf=>by match j,hj with| 0,h=>exact absurd rfl h| 1,_=>cases hf;rfl| 2,_=>cases hf;rfl| 3,_=>cases hf;rfl|_+4,_=>cases hf⟩,⟨(ApiToken.mk x1 x11 0 []),⟨_,rfl,rfl,fun j fd hj hf=>by match j,hj with| 0,_=>cases hf;rfl| 1,h=>exact absurd rfl h| 2,_=>cases hf;rfl| 3,_=>cases hf;rfl|_+4,_=>cases hf⟩,⟨(ApiToken.mk x1 x11 (w64 (x10+x2)) []),⟨_,rfl,rfl,fun j fd hj hf=>by match j,hj with| 0,_=>cases hf;rfl| 1,_=>cases hf;rfl| 2,h=>exact absurd rfl h| 3,_=>cases hf;rfl|_+4,_=>cases hf⟩,⟨(ApiToken.mk x1 x11 (w64 (x10+x2)) x12),⟨_,rfl,rfl,fun j fd hj hf=>by match j,hj with| 0,_=>cases hf;rfl| 1,_=>cases hf;rfl| 2,_=>cases hf;rfl| 3,h=>exact absurd rfl h|_+4,_=>cases hf⟩,rfl⟩⟩⟩⟩) ?_
 refine qq (out:=af bi ([(ApiToken.mk x1 x11 (w64 (x10+x2)) x12)]:List ApiToken)) (bh (R:=bi) (a:=(ApiToken.mk x1 x11 (w64 (x10+x2)) x12)) el104 (Nat.le_of_ble_eq_true rfl)) ?_
 obtain⟨x13,hx13,h⟩:=ah h
 refine cu 1 el104 hx13 (fun v14=> ?_)
 refine rStoreV 0 1 Tryz.sizeOf104 ?_
 exact⟨x13,v14,h,⟨⟨aa,aa,aa,trivial⟩,Pick.refl _⟩⟩
theorem lex_Lex_ok (x1:List UInt8) (r:(List ApiToken) × Int × Int) (h:lex_Lex x1=some r):FnP Tryz.prog 79 [aj x1] (bn [af bi r.1,Pr.i64 r.2.1,Pr.i64 r.2.2]):=by
 refine a7 (n:=60) (rs:=[2,3,4]) Tryz.func79 rfl Tryz.ntmps79 ⟨by decide,Tryz.results79⟩ (by decide) (fun s0=> ?_)
 unfold lex_Lex at h
 refine W_rs ?_
 refine rBox (R:=ab) (a:=x1) rfl (fun b2=> ?_)
 refine rq (out:=Pr.is (.slice none 0 0)) ae ?_
 refine rq (out:=Pr.i64 0) ae ?_
 refine rq (out:=Pr.i64 0) ae ?_
 refine aw ?_
 refine W_rs ?_
 refine rq (out:=aj x1) (a9 (R:=ab) (a:=x1) (R':=ab) 0 ty9 (Sub.refl _)) ?_
 refine rq (out:=Pr.i64 (x1.length:Int)) (qLenS rfl Tryz.underlying9) ?_
 refine rq (out:=Pr.bool (decide ((x1.length:Int)>1048576))) qInt ?_
 refine au (b:=decide ((x1.length:Int)>1048576)) rfl (fun hc3=> ?_) (fun hc3=> ?_)
 ·replace h:=iteT hc3 h
  refine W_rs ?_
  refine rq (out:=Pr.is (.slice none 0 0)) ae ?_
  refine rq (out:=Pr.i64 0) ae ?_
  refine rq (out:=Pr.i64 2) ae ?_
  obtain rfl:=Option.some.inj h
  exact bb ⟨rfl,tup_le ⟨fk _,aa,aa,trivial⟩⟩
 replace h:=iteF hc3 h
 refine av ?_
 refine W_rs ?_
 refine rAllocC Tryz.zeroValue104 rfl rfl (fun b4=> ?_)
 refine W_rs ?_
 refine ml (R:=Rp.int .i64) (z:=0) Tryz.zeroValue3 (fun _=>rfl) (fun b5=> ?_)
 refine ek (R:=Rp.int .i64) (R':=Rp.int .i64) (a:=0) (y:=0) 2 Tryz.sizeOf3 (Upd.refl _) ?_
 refine W_rs ?_
 refine rq (out:=ej 91 [] [ap b4 0,ap b2 0,ap b5 0]) gu ?_
 refine rq (out:=ej 91 [] [ap b4 0,ap b2 0,ap b5 0]) ae ?_
 refine ar ?_
 obtain⟨n1,hN1⟩:=a4 h
 refine W_vec bi 109 ?_
 refine cd (fun m e C=>∃(x6:List UInt8),∃(x8:Int),∃(x9:List ApiToken),∃(v7:Value),cz (fun s=>fi s.1 s.2.1 s.2.2) m (x6,x8,x9)=some r/\At [(1,ap b2 0),(5,ap b4 0),(6,ap b5 0),(7,ej 91 [] [ap b4 0,ap b2 0,ap b5 0])] [Own.box b2 ab x6,Own.cell b4 (Pr.is v7),Own.box b5 (Rp.int .i64) x8,Own.vec v7 bi x9 109] e C) n1 ⟨x1,0,[],(.slice none 0 0),hN1,⟨⟨aa,aa,aa,aa,trivial⟩,Pick.refl _⟩⟩ ?_
 clear hN1
 rintro m e C ⟨x6,x8,x9,v7,hN1,hatl1⟩
 refine W_at hatl1 ?_
 clear hatl1
 obtain⟨m1,w1l,rfl,h1l,hn1,ho1⟩:=ay hN1
 clear hN1
 replace h1l:fi x6 x8 x9=some w1l:=h1l
 unfold fi at h1l
 refine ar ?_
 refine W_rs ?_
 refine rq (out:=aj x6) (a9 (R:=ab) (a:=x6) (R':=ab) 0 ty9 (Sub.refl _)) ?_
 refine rq (out:=Pr.i64 x8) (a9 (R:=Rp.int .i64) (a:=x8) (R':=Rp.int .i64) 2 ty3 (Sub.refl _)) ?_
 obtain⟨x14,hx14,h1l⟩:=ah h1l
 refine rq (out:=aj x14) (qSubL Tryz.underlying9 hx14) ?_
 obtain⟨⟨x15,x16⟩,hx15,h1l⟩:=ah h1l
 refine rq (out:=bn [Pr.i64 x15,Pr.bool x16]) (br (lex_between_ok x14 _ hx15)) ?_
 refine rq (out:=bn [Pr.i64 x15,Pr.bool x16]) ag ?_
 refine rq (out:=Pr.i64 x15) a6 ?_
 refine rq (out:=Pr.bool x16) a6 ?_
 refine rq (out:=Pr.i64 x15) ae ?_
 refine rq (out:=Pr.bool x16) ae ?_
 refine aw ?_
 refine W_rs ?_
 refine rq (out:=Pr.bool x16) ag ?_
 refine rq (out:=Pr.bool (!x16)) qNot ?_
 refine au (b:= !x16) rfl (fun hc17=> ?_) (fun hc17=> ?_)
 ·replace h1l:=iteT hc17 h1l
  refine bg (fun e C=>lex_Lex_j2 x8 x15=some w1l/\At [(2,Pr.is (.slice none 0 0)),(3,Pr.i64 (w64 (x8+x15))),(4,Pr.i64 32)] [Own.box b2 ab x6,Own.cell b4 (Pr.is v7),Own.box b5 (Rp.int .i64) x8,Own.vec v7 bi x9 109] e C) ?_ ?_
  ·rintro e C ⟨h1l,hat2⟩
   refine W_at hat2 ?_
   clear hat2
   unfold lex_Lex_j2 at h1l
   have h:some ([],w64 (x8+x15),32)=some r:=congrArg some (ho1 _ (Option.some.inj h1l).symm)
   obtain rfl:=Option.some.inj h
   exact bb ⟨rfl,tup_le ⟨fk _,aa,aa,trivial⟩⟩
  refine ei 6 hmx (by kernel_rfl) (by kernel_rfl) ?_
  refine qq (out:=Pr.i64 x8) (a9 (R:=Rp.int .i64) (a:=x8) (R':=Rp.int .i64) 2 ty3 (Sub.refl _)) ?_
  refine qq (out:=Pr.i64 x15) ag ?_
  refine qq (out:=Pr.i64 (w64 (x8+x15))) qInt ?_
  refine qq (out:=Pr.is (.slice none 0 0)) ae ?_
  refine qq (out:=Pr.i64 (w64 (x8+x15))) ae ?_
  refine qq (out:=Pr.i64 32) ae ?_
  exact⟨h1l,⟨⟨aa,aa,aa,trivial⟩,Pick.refl _⟩⟩
 replace h1l:=iteF hc17 h1l
 refine av ?_
 refine aw ?_
 refine W_rs ?_
 refine rq (out:=Pr.i64 x8) (a9 (R:=Rp.int .i64) (a:=x8) (R':=Rp.int .i64) 2 ty3 (Sub.refl _)) ?_
 refine rq (out:=Pr.i64 x15) ag ?_
 refine rq (out:=Pr.i64 (w64 (x8+x15))) qInt ?_
 refine rq (out:=aj x6) (a9 (R:=ab) (a:=x6) (R':=ab) 0 ty9 (Sub.refl _)) ?_
 refine rq (out:=Pr.i64 (x6.length:Int)) (qLenS rfl Tryz.underlying9) ?_
 refine rq (out:=Pr.bool ((w64 (x8+x15))==(x6.length:Int))) qInt ?_
 refine au (b:=(w64 (x8+x15))==(x6.length:Int)) rfl (fun hc18=> ?_) (fun hc18=> ?_)
 ·replace h1l:=iteT hc18 h1l
  refine W_rs ?_
  refine rq (out:=ej 91 [] [ap b4 0,ap b2 0,ap b5 0]) ag ?_
  refine rq (out:=Pr.i64 x15) ag ?_
  obtain⟨⟨x19,x21,x22⟩,hx19,h1l⟩:=ah h1l
  refine rCallK [1,3,0,2] (lex_Lex_1_ok 5 x15 0 x9 x6 x8 b4 v7 b2 b5 _ hx19) (fun q C' hq=> ?_)
  obtain⟨v20,rfl,rfl⟩:=hq
  refine W_rs ?_
  refine rq (out:=Pr.is v20) (qLoadP 0 Tryz.isAgg104) ?_
  refine rq (out:=Pr.is v20) ae ?_
  refine rq (out:=Pr.i64 0) ae ?_
  refine rq (out:=Pr.i64 0) ae ?_
  have h:some (x19,0,0)=some r:=congrArg some (ho1 _ (Option.some.inj h1l).symm)
  refine W_rel 1 [2] ?_ rfl ⟨rfl,trivial⟩
  obtain rfl:=Option.some.inj h
  exact bb ⟨rfl,aa⟩
 replace h1l:=iteF hc18 h1l
 refine av ?_
 refine W_rs ?_
 refine rq (out:=aj x6) (a9 (R:=ab) (a:=x6) (R':=ab) 0 ty9 (Sub.refl _)) ?_
 refine rq (out:=Pr.i64 x8) (a9 (R:=Rp.int .i64) (a:=x8) (R':=Rp.int .i64) 2 ty3 (Sub.refl _)) ?_
 refine rq (out:=Pr.i64 x15) ag ?_
 refine rq (out:=Pr.i64 (w64 (x8+x15))) qInt ?_
 obtain⟨x23,hx23,h1l⟩:=ah h1l
 refine rq (out:=aj x23) (qSubL Tryz.underlying9 hx23) ?_
 obtain⟨⟨x24,x25,x26⟩,hx24,h1l⟩:=ah h1l
 refine rq (out:=bn [Pr.i64 x24,Pr.i64 x25,Pr.i64 x26]) (br (lex_token_ok x23 _ hx24)) ?_
 refine rq (out:=bn [Pr.i64 x24,Pr.i64 x25,Pr.i64 x26]) ag ?_
 refine rq (out:=Pr.i64 x24) a6 ?_
 refine rq (out:=Pr.i64 x25) a6 ?_
 refine rq (out:=Pr.i64 x26) a6 ?_
 refine rq (out:=Pr.i64 x24) ae ?_
 refine rq (out:=Pr.i64 x25) ae ?_
 refine rq (out:=Pr.i64 x26) ae ?_
 refine aw ?_
 refine W_rs ?_
 refine rq (out:=Pr.i64 x26) ag ?_
 refine rq (out:=Pr.bool (x26 != 0)) qInt ?_
 refine au (b:=x26 != 0) rfl (fun hc27=> ?_) (fun hc27=> ?_)
 ·replace h1l:=iteT hc27 h1l
  refine bg (fun e C=>lex_Lex_j3 x8 x15 x26=some w1l/\At [(2,Pr.is (.slice none 0 0)),(3,Pr.i64 (w64 (x8+x15))),(4,Pr.i64 x26)] [Own.box b2 ab x6,Own.cell b4 (Pr.is v7),Own.box b5 (Rp.int .i64) x8,Own.vec v7 bi x9 109] e C) ?_ ?_
  ·rintro e C ⟨h1l,hat3⟩
   refine W_at hat3 ?_
   clear hat3
   unfold lex_Lex_j3 at h1l
   have h:some ([],w64 (x8+x15),x26)=some r:=congrArg some (ho1 _ (Option.some.inj h1l).symm)
   obtain rfl:=Option.some.inj h
   exact bb ⟨rfl,tup_le ⟨fk _,aa,aa,trivial⟩⟩
  refine ei 7 hmx (by kernel_rfl) (by kernel_rfl) ?_
  refine qq (out:=Pr.i64 x8) (a9 (R:=Rp.int .i64) (a:=x8) (R':=Rp.int .i64) 2 ty3 (Sub.refl _)) ?_
  refine qq (out:=Pr.i64 x15) ag ?_
  refine qq (out:=Pr.i64 (w64 (x8+x15))) qInt ?_
  refine qq (out:=Pr.i64 x26) ag ?_
  refine qq (out:=Pr.is (.slice none 0 0)) ae ?_
  refine qq (out:=Pr.i64 (w64 (x8+x15))) ae ?_
  refine qq (out:=Pr.i64 x26) ae ?_
  exact⟨h1l,⟨⟨aa,aa,aa,trivial⟩,Pick.refl _⟩⟩
 replace h1l:=iteF hc27 h1l
 refine av ?_
 refine W_r ?_
 refine rq (out:=ej 91 [] [ap b4 0,ap b2 0,ap b5 0]) ag ?_
 refine rq (out:=Pr.i64 x24) ag ?_
 refine rq (out:=Pr.i64 x15) ag ?_
 refine rq (out:=Pr.i64 x25) ag ?_
 obtain⟨⟨x28,x30,x31⟩,hx28,h1l⟩:=ah h1l
 refine rCallK [1,3,0,2] (lex_Lex_1_ok x24 x15 x25 x9 x6 x8 b4 v7 b2 b5 _ hx28) (fun q C' hq=> ?_)
 obtain⟨v29,rfl,rfl⟩:=hq
 exact⟨m1,Nat.lt_succ_self _,x30,x31,x28,v29,hn1 _ (Option.some.inj h1l).symm,⟨⟨aa,aa,aa,aa,trivial⟩,Pick.of [2,0,3,1] rfl⟩⟩
theorem ref03_between_ok (x1:List UInt8) (x2:Int) (r:Int × Bool) (h:ref03_between x1 x2=some r):FnP Tryz.prog 83 [aj x1,Pr.i64 x2] (bn [Pr.i64 r.1,Pr.bool r.2]):=by
 refine a7 (n:=103) (rs:=[4,5]) Tryz.func83 rfl Tryz.ntmps83 ⟨by decide,Tryz.results83⟩ (by decide) (fun s0=> ?_)
 unfold ref03_between at h
 refine W_rs ?_
 refine rq (out:=Pr.i64 0) ae ?_
 refine rq (out:=Pr.bool false) ae ?_
 refine aw ?_
 refine ar ?_
 obtain⟨z2l,hz2,h⟩:=ah h
 obtain⟨n2,hN2⟩:=a4 hz2
 clear hz2
 refine bp 0 (fun e C=>∃(x3:Int),ni x3=some r/\At [(1,Pr.i64 x3)] [] e C) ?_ ?_
 ·rintro e C ⟨x3,h,hat1⟩
  refine W_at hat1 ?_
  clear hat1
  unfold ni at h
  refine W_rs ?_
  refine rq (out:=Pr.i64 x3) ag ?_
  refine rq (out:=Pr.i64 x3) ae ?_
  refine rq (out:=Pr.bool true) ae ?_
  obtain rfl:=Option.some.inj h
  exact bb ⟨rfl,aa⟩
 refine cd (fun m e C=>∃(x3:Int),cz (fun s=>ce x1 s) m x3=some z2l/\At [(0,aj x1),(1,Pr.i64 x3)] [] e C) n2 ⟨x2,hN2,⟨⟨aa,aa,trivial⟩,Pick.refl _⟩⟩ ?_
 clear hN2
 rintro m e C ⟨x3,hN2,hatl2⟩
 refine W_at hatl2 ?_
 clear hatl2
 obtain⟨m2,w2l,rfl,h2l,hn2,ho2⟩:=ay hN2
 clear hN2
 replace h2l:ce x1 x3=some w2l:=h2l
 unfold ce at h2l
 refine aw ?_
 refine W_rs ?_
 refine rq (out:=Pr.i64 x3) ag ?_
 refine rq (out:=aj x1) ag ?_
 refine rq (out:=Pr.i64 (x1.length:Int)) (qLenS rfl Tryz.underlying9) ?_
 refine rq (out:=Pr.bool (decide (x3<(x1.length:Int)))) qInt ?_
 refine au (b:=decide (x3<(x1.length:Int))) rfl (fun hc5=> ?_) (fun hc5=> ?_)
 ·replace h2l:=iteT hc5 h2l
  refine av ?_
  refine ar ?_
  refine W_rs ?_
  refine rq (out:=aj x1) ag ?_
  refine rq (out:=Pr.i64 x3) ag ?_
  obtain⟨x6,hx6,h2l⟩:=ah h2l
  refine rq (out:=Pr.u8 x6) (qIdxS Tryz.underlying9 hx6) ?_
  refine rq (out:=Pr.u8 x6) ae ?_
  refine aw ?_
  refine bg (fun e C=>∃(x14:Bool),db x3 x1 x6 x14=some w2l/\At [(0,aj x1),(1,Pr.i64 x3),(6,Pr.u8 x6),(28,Pr.bool x14)] [] e C) ?_ ?_
  ·rintro e C ⟨x14,h2l,hat10⟩
   refine W_at hat10 ?_
   clear hat10
   unfold db at h2l
   refine au (b:=x14) rfl (fun hc15=> ?_) (fun hc15=> ?_)
   ·replace h2l:=iteT hc15 h2l
    refine W_rs ?_
    refine rq (out:=Pr.i64 x3) ag ?_
    refine rq (out:=Pr.i64 (w64 (x3+1))) qInt ?_
    refine rq (out:=Pr.i64 (w64 (x3+1))) ae ?_
    refine bw ?_
    exact⟨m2,Nat.lt_succ_self _,w64 (x3+1),hn2 _ (Option.some.inj h2l).symm,⟨⟨aa,aa,trivial⟩,Pick.refl _⟩⟩
   replace h2l:=iteF hc15 h2l
   refine av ?_
   refine aw ?_
   refine bg (fun e C=>∃(x25:Bool),ee x3 x1 x25=some w2l/\At [(0,aj x1),(1,Pr.i64 x3),(53,Pr.bool x25)] [] e C) ?_ ?_
   ·rintro e C ⟨x25,h2l,hat9⟩
    refine W_at hat9 ?_
    clear hat9
    unfold ee at h2l
    refine au (b:=x25) rfl (fun hc26=> ?_) (fun hc26=> ?_)
    ·replace h2l:=iteT hc26 h2l
     refine W_rs ?_
     refine rq (out:=Pr.i64 x3) ag ?_
     refine rq (out:=Pr.i64 x3) ae ?_
     refine rq (out:=Pr.bool true) ae ?_
     obtain rfl:=ho2 _ (Option.some.inj h2l).symm
     replace h:some (x3,true)=some r:=h
     obtain rfl:=Option.some.inj h
     exact bb ⟨rfl,aa⟩
    replace h2l:=iteF hc26 h2l
    refine av ?_
    refine aw ?_
    refine W_rs ?_
    refine rq (out:=aj x1) ag ?_
    refine rq (out:=Pr.i64 x3) ag ?_
    refine rq (out:=Pr.i64 (w64 (x3+1))) qInt ?_
    obtain⟨x27,hx27,h2l⟩:=ah h2l
    refine rq (out:=Pr.u8 x27) (qIdxS Tryz.underlying9 hx27) ?_
    refine rq (out:=Pr.bool (x27==47)) qInt ?_
    refine au (b:=x27==47) rfl (fun hc28=> ?_) (fun hc28=> ?_)
    ·replace h2l:=iteT hc28 h2l
     refine aw ?_
     refine ar ?_
     obtain⟨z4l,hz4,h2l⟩:=ah h2l
     obtain⟨n4,hN4⟩:=a4 hz4
     clear hz4
     refine bp 2 (fun e C=>∃(x29:Int),ref03_between_k3 x29=some w2l/\At [(0,aj x1),(1,Pr.i64 x29)] [] e C) ?_ ?_
     ·rintro e C ⟨x29,h2l,hat3⟩
      refine W_at hat3 ?_
      clear hat3
      unfold ref03_between_k3 at h2l
      refine bw ?_
      exact⟨m2,Nat.lt_succ_self _,x29,hn2 _ (Option.some.inj h2l).symm,⟨⟨aa,aa,trivial⟩,Pick.refl _⟩⟩
     refine cd (fun m e C=>∃(x29:Int),cz (fun s=>gc x1 s) m x29=some z4l/\At [(0,aj x1),(1,Pr.i64 x29)] [] e C) n4 ⟨x3,hN4,⟨⟨aa,aa,trivial⟩,Pick.refl _⟩⟩ ?_
     clear hN4
     rintro m e C ⟨x29,hN4,hatl4⟩
     refine W_at hatl4 ?_
     clear hatl4
     obtain⟨m4,w4l,rfl,h4l,hn4,ho4⟩:=ay hN4
     clear hN4
     replace h4l:gc x1 x29=some w4l:=h4l
     unfold gc at h4l
     refine aw ?_
     refine bg (fun e C=>∃(x33:Bool),j4 x29 x33=some w4l/\At [(0,aj x1),(1,Pr.i64 x29),(69,Pr.bool x33)] [] e C) ?_ ?_
     ·rintro e C ⟨x33,h4l,hat5⟩
      refine W_at hat5 ?_
      clear hat5
      unfold j4 at h4l
      refine au (b:=x33) rfl (fun hc34=> ?_) (fun hc34=> ?_)
      ·replace h4l:=iteT hc34 h4l
       refine av ?_
       refine ar ?_
       refine W_r ?_
       refine rq (out:=Pr.i64 x29) ag ?_
       refine rq (out:=Pr.i64 (w64 (x29+1))) qInt ?_
       refine rq (out:=Pr.i64 (w64 (x29+1))) ae ?_
       exact⟨m4,Nat.lt_succ_self _,w64 (x29+1),hn4 _ (Option.some.inj h4l).symm,⟨⟨aa,aa,trivial⟩,Pick.refl _⟩⟩
      replace h4l:=iteF hc34 h4l
      refine bw ?_
      obtain rfl:=ho4 _ (Option.some.inj h4l).symm
      exact⟨x29,h2l,⟨⟨aa,aa,trivial⟩,Pick.refl _⟩⟩
     refine W_r ?_
     refine rq (out:=Pr.i64 x29) ag ?_
     refine rq (out:=aj x1) ag ?_
     refine rq (out:=Pr.i64 (x1.length:Int)) (qLenS rfl Tryz.underlying9) ?_
     refine rq (out:=Pr.bool (decide (x29<(x1.length:Int)))) qInt ?_
     refine rq (out:=Pr.bool (decide (x29<(x1.length:Int)))) ag ?_
     rcases bc h4l with⟨hc31,h4l⟩|⟨hc31,h4l⟩
     ·refine rqg hc31 (out:=aj x1) ag ?_
      refine rqg hc31 (out:=Pr.i64 x29) ag ?_
      obtain⟨x32,hx32,h4l⟩:=ah h4l
      refine rqg hc31 (out:=Pr.u8 x32) (qIdxS Tryz.underlying9 hx32) ?_
      refine rqg hc31 (out:=Pr.bool (x32 != 10)) qInt ?_
      refine rq (out:=Pr.bool (x32 != 10)) (bo hc31) ?_
      exact⟨x32 != 10,h4l,⟨⟨aa,aa,aa,trivial⟩,Pick.refl _⟩⟩
     refine rno (neT hc31) ?_
     refine rno (neT hc31) ?_
     refine rno (neT hc31) ?_
     refine rno (neT hc31) ?_
     refine rq (out:=Pr.bool false) (az hc31) ?_
     exact⟨false,h4l,⟨⟨aa,aa,aa,trivial⟩,Pick.refl _⟩⟩
    replace h2l:=iteF hc28 h2l
    refine av ?_
    refine W_rs ?_
    refine rq (out:=Pr.i64 x3) ag ?_
    refine rq (out:=Pr.i64 (w64 (x3+2))) qInt ?_
    refine rq (out:=Pr.i64 (w64 (x3+2))) ae ?_
    refine aw ?_
    refine ar ?_
    obtain⟨z7l,hz7,h2l⟩:=ah h2l
    obtain⟨n7,hN7⟩:=a4 hz7
    clear hz7
    refine bp 4 (fun e C=>∃(x35:Int),jz x1 x3 x35=some w2l/\At [(0,aj x1),(1,Pr.i64 x3),(7,Pr.i64 x35)] [] e C) ?_ ?_
    ·rintro e C ⟨x35,h2l,hat6⟩
     refine W_at hat6 ?_
     clear hat6
     unfold jz at h2l
     refine aw ?_
     refine W_rs ?_
     refine rq (out:=Pr.i64 x35) ag ?_
     refine rq (out:=Pr.i64 (w64 (x35+1))) qInt ?_
     refine rq (out:=aj x1) ag ?_
     refine rq (out:=Pr.i64 (x1.length:Int)) (qLenS rfl Tryz.underlying9) ?_
     refine rq (out:=Pr.bool (decide ((w64 (x35+1))≥(x1.length:Int)))) qInt ?_
     refine au (b:=decide ((w64 (x35+1))≥(x1.length:Int))) rfl (fun hc43=> ?_) (fun hc43=> ?_)
     ·replace h2l:=iteT hc43 h2l
      refine W_rs ?_
      refine rq (out:=Pr.i64 x3) ag ?_
      refine rq (out:=Pr.i64 x3) ae ?_
      refine rq (out:=Pr.bool false) ae ?_
      obtain rfl:=ho2 _ (Option.some.inj h2l).symm
      replace h:some (x3,false)=some r:=h
      obtain rfl:=Option.some.inj h
      exact bb ⟨rfl,aa⟩
     replace h2l:=iteF hc43 h2l
     refine av ?_
     refine W_r ?_
     refine rq (out:=Pr.i64 x35) ag ?_
     refine rq (out:=Pr.i64 (w64 (x35+2))) qInt ?_
     refine rq (out:=Pr.i64 (w64 (x35+2))) ae ?_
     exact⟨m2,Nat.lt_succ_self _,w64 (x35+2),hn2 _ (Option.some.inj h2l).symm,⟨⟨aa,aa,trivial⟩,Pick.refl _⟩⟩
    refine cd (fun m e C=>∃(x35:Int),cz (fun s=>gb x1 s) m x35=some z7l/\At [(0,aj x1),(1,Pr.i64 x3),(7,Pr.i64 x35)] [] e C) n7 ⟨w64 (x3+2),hN7,⟨⟨aa,aa,aa,trivial⟩,Pick.refl _⟩⟩ ?_
    clear hN7
    rintro m e C ⟨x35,hN7,hatl7⟩
    refine W_at hatl7 ?_
    clear hatl7
    obtain⟨m7,w7l,rfl,h7l,hn7,ho7⟩:=ay hN7
    clear hN7
    replace h7l:gb x1 x35=some w7l:=h7l
    unfold gb at h7l
    refine aw ?_
    refine bg (fun e C=>∃(x41:Bool),ii x35 x41=some w7l/\At [(0,aj x1),(1,Pr.i64 x3),(7,Pr.i64 x35),(91,Pr.bool x41)] [] e C) ?_ ?_
    ·rintro e C ⟨x41,h7l,hat8⟩
     refine W_at hat8 ?_
     clear hat8
     unfold ii at h7l
     refine au (b:=x41) rfl (fun hc42=> ?_) (fun hc42=> ?_)
     ·replace h7l:=iteT hc42 h7l
      refine av ?_
      refine ar ?_
      refine W_r ?_
      refine rq (out:=Pr.i64 x35) ag ?_
      refine rq (out:=Pr.i64 (w64 (x35+1))) qInt ?_
      refine rq (out:=Pr.i64 (w64 (x35+1))) ae ?_
      exact⟨m7,Nat.lt_succ_self _,w64 (x35+1),hn7 _ (Option.some.inj h7l).symm,⟨⟨aa,aa,aa,trivial⟩,Pick.refl _⟩⟩
     replace h7l:=iteF hc42 h7l
     refine bw ?_
     obtain rfl:=ho7 _ (Option.some.inj h7l).symm
     exact⟨x35,h2l,⟨⟨aa,aa,aa,trivial⟩,Pick.refl _⟩⟩
    refine W_r ?_
    refine rq (out:=Pr.i64 x35) ag ?_
    refine rq (out:=Pr.i64 (w64 (x35+1))) qInt ?_
    refine rq (out:=aj x1) ag ?_
    refine rq (out:=Pr.i64 (x1.length:Int)) (qLenS rfl Tryz.underlying9) ?_
    refine rq (out:=Pr.bool (decide ((w64 (x35+1))<(x1.length:Int)))) qInt ?_
    refine rq (out:=Pr.bool (decide ((w64 (x35+1))<(x1.length:Int)))) ag ?_
    rcases bc h7l with⟨hc37,h7l⟩|⟨hc37,h7l⟩
    ·refine rqg hc37 (out:=aj x1) ag ?_
     refine rqg hc37 (out:=Pr.i64 x35) ag ?_
     obtain⟨x38,hx38,h7l⟩:=ah h7l
     refine rqg hc37 (out:=Pr.u8 x38) (qIdxS Tryz.underlying9 hx38) ?_
     refine rqg hc37 (out:=Pr.bool (x38 != 42)) qInt ?_
     refine rqg hc37 (out:=Pr.bool (x38 != 42)) ag ?_
     rcases bc h7l with⟨hc39,h7l⟩|⟨hc39,h7l⟩
     ·refine rno (neF hc39) ?_
      refine rno (neF hc39) ?_
      refine rno (neF hc39) ?_
      refine rno (neF hc39) ?_
      refine rno (neF hc39) ?_
      refine rqg hc37 (out:=Pr.bool true) (bo hc39) ?_
      refine rq (out:=Pr.bool true) (bo hc37) ?_
      exact⟨true,h7l,⟨⟨aa,aa,aa,aa,trivial⟩,Pick.refl _⟩⟩
     refine rqg hc39 (out:=aj x1) ag ?_
     refine rqg hc39 (out:=Pr.i64 x35) ag ?_
     refine rqg hc39 (out:=Pr.i64 (w64 (x35+1))) qInt ?_
     obtain⟨x40,hx40,h7l⟩:=ah h7l
     refine rqg hc39 (out:=Pr.u8 x40) (qIdxS Tryz.underlying9 hx40) ?_
     refine rqg hc39 (out:=Pr.bool (x40 != 47)) qInt ?_
     refine rqg hc37 (out:=Pr.bool (x40 != 47)) (az hc39) ?_
     refine rq (out:=Pr.bool (x40 != 47)) (bo hc37) ?_
     exact⟨x40 != 47,h7l,⟨⟨aa,aa,aa,aa,trivial⟩,Pick.refl _⟩⟩
    refine rno (neT hc37) ?_
    refine rno (neT hc37) ?_
    refine rno (neT hc37) ?_
    refine rno (neT hc37) ?_
    refine rno (neT hc37) ?_
    refine rnoU ?_
    refine rnoU ?_
    refine rnoU ?_
    refine rnoU ?_
    refine rnoU ?_
    refine rno (neT hc37) ?_
    refine rq (out:=Pr.bool false) (az hc37) ?_
    exact⟨false,h7l,⟨⟨aa,aa,aa,aa,trivial⟩,Pick.refl _⟩⟩
   refine W_r ?_
   refine rq (out:=Pr.i64 x3) ag ?_
   refine rq (out:=Pr.i64 (w64 (x3+1))) qInt ?_
   refine rq (out:=aj x1) ag ?_
   refine rq (out:=Pr.i64 (x1.length:Int)) (qLenS rfl Tryz.underlying9) ?_
   refine rq (out:=Pr.bool (decide ((w64 (x3+1))≥(x1.length:Int)))) qInt ?_
   refine rq (out:=Pr.bool (decide ((w64 (x3+1))≥(x1.length:Int)))) ag ?_
   rcases bc h2l with⟨hc16,h2l⟩|⟨hc16,h2l⟩
   ·refine rno (neF hc16) ?_
    refine rno (neF hc16) ?_
    refine rq (out:=Pr.bool true) (bo hc16) ?_
    refine rq (out:=Pr.bool true) ag ?_
    have hc21:true=true:=rfl
    refine rno (neF hc21) ?_
    refine rno (neF hc21) ?_
    refine rno (neF hc21) ?_
    refine rno (neF hc21) ?_
    refine rno (neF hc21) ?_
    refine rno (neF hc21) ?_
    refine rnoU ?_
    refine rnoU ?_
    refine rnoU ?_
    refine rnoU ?_
    refine rnoU ?_
    refine rno (neF hc21) ?_
    refine rq (out:=Pr.bool true) (bo hc21) ?_
    exact⟨true,h2l,⟨⟨aa,aa,aa,trivial⟩,Pick.refl _⟩⟩
   refine rqg hc16 (out:=Pr.u8 x6) ag ?_
   refine rqg hc16 (out:=Pr.bool (x6 != 47)) qInt ?_
   refine rq (out:=Pr.bool (x6 != 47)) (az hc16) ?_
   refine rq (out:=Pr.bool (x6 != 47)) ag ?_
   rcases bc h2l with⟨hc17,h2l⟩|⟨hc17,h2l⟩
   ·refine rno (neF hc17) ?_
    refine rno (neF hc17) ?_
    refine rno (neF hc17) ?_
    refine rno (neF hc17) ?_
    refine rno (neF hc17) ?_
    refine rno (neF hc17) ?_
    refine rnoU ?_
    refine rnoU ?_
    refine rnoU ?_
    refine rnoU ?_
    refine rnoU ?_
    refine rno (neF hc17) ?_
    refine rq (out:=Pr.bool true) (bo hc17) ?_
    exact⟨true,h2l,⟨⟨aa,aa,aa,trivial⟩,Pick.refl _⟩⟩
   refine rqg hc17 (out:=aj x1) ag ?_
   refine rqg hc17 (out:=Pr.i64 x3) ag ?_
   refine rqg hc17 (out:=Pr.i64 (w64 (x3+1))) qInt ?_
   obtain⟨x18,hx18,h2l⟩:=ah h2l
   refine rqg hc17 (out:=Pr.u8 x18) (qIdxS Tryz.underlying9 hx18) ?_
   refine rqg hc17 (out:=Pr.bool (x18 != 47)) qInt ?_
   refine rqg hc17 (out:=Pr.bool (x18 != 47)) ag ?_
   rcases bc h2l with⟨hc19,h2l⟩|⟨hc19,h2l⟩
   ·refine rqg hc19 (out:=aj x1) ag ?_
    refine rqg hc19 (out:=Pr.i64 x3) ag ?_
    refine rqg hc19 (out:=Pr.i64 (w64 (x3+1))) qInt ?_
    obtain⟨x20,hx20,h2l⟩:=ah h2l
    refine rqg hc19 (out:=Pr.u8 x20) (qIdxS Tryz.underlying9 hx20) ?_
    refine rqg hc19 (out:=Pr.bool (x20 != 42)) qInt ?_
    refine rqg hc17 (out:=Pr.bool (x20 != 42)) (bo hc19) ?_
    refine rq (out:=Pr.bool (x20 != 42)) (az hc17) ?_
    exact⟨x20 != 42,h2l,⟨⟨aa,aa,aa,trivial⟩,Pick.refl _⟩⟩
   refine rno (neT hc19) ?_
   refine rno (neT hc19) ?_
   refine rno (neT hc19) ?_
   refine rno (neT hc19) ?_
   refine rno (neT hc19) ?_
   refine rqg hc17 (out:=Pr.bool false) (az hc19) ?_
   refine rq (out:=Pr.bool false) (az hc17) ?_
   exact⟨false,h2l,⟨⟨aa,aa,aa,trivial⟩,Pick.refl _⟩⟩
  refine W_r ?_
  refine rq (out:=Pr.u8 x6) ag ?_
  refine rq (out:=Pr.bool (x6==32)) qInt ?_
  refine rq (out:=Pr.bool (x6==32)) ag ?_
  rcases bc h2l with⟨hc7,h2l⟩|⟨hc7,h2l⟩
  ·refine rno (neF hc7) ?_
   refine rno (neF hc7) ?_
   refine rq (out:=Pr.bool true) (bo hc7) ?_
   refine rq (out:=Pr.bool true) ag ?_
   have hc11:true=true:=rfl
   refine rno (neF hc11) ?_
   refine rno (neF hc11) ?_
   refine rq (out:=Pr.bool true) (bo hc11) ?_
   refine rq (out:=Pr.bool true) ag ?_
   have hc13:true=true:=rfl
   refine rno (neF hc13) ?_
   refine rno (neF hc13) ?_
   refine rq (out:=Pr.bool true) (bo hc13) ?_
   exact⟨true,h2l,⟨⟨aa,aa,aa,aa,trivial⟩,Pick.refl _⟩⟩
  refine rqg hc7 (out:=Pr.u8 x6) ag ?_
  refine rqg hc7 (out:=Pr.bool (x6==9)) qInt ?_
  refine rq (out:=Pr.bool (x6==9)) (az hc7) ?_
  refine rq (out:=Pr.bool (x6==9)) ag ?_
  rcases bc h2l with⟨hc8,h2l⟩|⟨hc8,h2l⟩
  ·refine rno (neF hc8) ?_
   refine rno (neF hc8) ?_
   refine rq (out:=Pr.bool true) (bo hc8) ?_
   refine rq (out:=Pr.bool true) ag ?_
   have hc10:true=true:=rfl
   refine rno (neF hc10) ?_
   refine rno (neF hc10) ?_
   refine rq (out:=Pr.bool true) (bo hc10) ?_
   exact⟨true,h2l,⟨⟨aa,aa,aa,aa,trivial⟩,Pick.refl _⟩⟩
  refine rqg hc8 (out:=Pr.u8 x6) ag ?_
  refine rqg hc8 (out:=Pr.bool (x6==10)) qInt ?_
  refine rq (out:=Pr.bool (x6==10)) (az hc8) ?_
  refine rq (out:=Pr.bool (x6==10)) ag ?_
  rcases bc h2l with⟨hc9,h2l⟩|⟨hc9,h2l⟩
  ·refine rno (neF hc9) ?_
   refine rno (neF hc9) ?_
   refine rq (out:=Pr.bool true) (bo hc9) ?_
   exact⟨true,h2l,⟨⟨aa,aa,aa,aa,trivial⟩,Pick.refl _⟩⟩
  refine rqg hc9 (out:=Pr.u8 x6) ag ?_
  refine rqg hc9 (out:=Pr.bool (x6==13)) qInt ?_
  refine rq (out:=Pr.bool (x6==13)) (az hc9) ?_
  exact⟨x6==13,h2l,⟨⟨aa,aa,aa,aa,trivial⟩,Pick.refl _⟩⟩
 replace h2l:=iteF hc5 h2l
 refine bw ?_
 obtain rfl:=ho2 _ (Option.some.inj h2l).symm
 exact⟨x3,h,⟨⟨aa,trivial⟩,Pick.refl _⟩⟩
theorem ref03_digit_ok (x1:Int) (r:Bool) (h:lg x1=some r):FnP Tryz.prog 96 [Pr.u8 x1] (Pr.bool r):=by
 refine a7 (n:=9) (rs:=[2]) Tryz.func96 rfl Tryz.ntmps96 ⟨by decide,Tryz.results96⟩ (by decide) (fun s0=> ?_)
 unfold lg at h
 refine W_rs ?_
 refine rq (out:=Pr.bool false) ae ?_
 refine bg (fun e C=>∃(x3:Bool),ref03_digit_j1 x3=some r/\At [(2,Pr.bool x3)] [] e C) ?_ ?_
 ·rintro e C ⟨x3,h,hat1⟩
  refine W_at hat1 ?_
  clear hat1
  unfold ref03_digit_j1 at h
  obtain rfl:=Option.some.inj h
  exact bb ⟨rfl,aa⟩
 refine W_r ?_
 refine rq (out:=Pr.u8 x1) ag ?_
 refine rq (out:=Pr.bool (decide (x1≥48))) qInt ?_
 refine rq (out:=Pr.bool (decide (x1≥48))) ag ?_
 rcases bc h with⟨hc2,h⟩|⟨hc2,h⟩
 ·refine rqg hc2 (out:=Pr.u8 x1) ag ?_
  refine rqg hc2 (out:=Pr.bool (decide (x1<=57))) qInt ?_
  refine rq (out:=Pr.bool (decide (x1<=57))) (bo hc2) ?_
  refine rq (out:=Pr.bool (decide (x1<=57))) ae ?_
  exact⟨decide (x1<=57),h,⟨⟨aa,trivial⟩,Pick.refl _⟩⟩
 refine rno (neT hc2) ?_
 refine rno (neT hc2) ?_
 refine rq (out:=Pr.bool false) (az hc2) ?_
 refine rq (out:=Pr.bool false) ae ?_
 exact⟨false,h,⟨⟨aa,trivial⟩,Pick.refl _⟩⟩
theorem ref03_great_ok (x1:List UInt8) (r:Bool) (h:ref03_great x1=some r):FnP Tryz.prog 97 [aj x1] (Pr.bool r):=by
 refine a7 (n:=24) (rs:=[2]) Tryz.func97 rfl Tryz.ntmps97 ⟨by decide,Tryz.results97⟩ (by decide) (fun s0=> ?_)
 unfold ref03_great at h
 refine W_rs ?_
 refine rq (out:=Pr.bool false) ae ?_
 refine aw ?_
 refine W_rs ?_
 refine rq (out:=aj x1) ag ?_
 refine rq (out:=Pr.i64 (x1.length:Int)) (qLenS rfl Tryz.underlying9) ?_
 refine rq (out:=Pr.bool (decide ((x1.length:Int)>10))) qInt ?_
 refine au (b:=decide ((x1.length:Int)>10)) rfl (fun hc2=> ?_) (fun hc2=> ?_)
 ·replace h:=iteT hc2 h
  refine W_rs ?_
  refine rq (out:=Pr.bool true) ae ?_
  obtain rfl:=Option.some.inj h
  exact bb ⟨rfl,aa⟩
 replace h:=iteF hc2 h
 refine av ?_
 refine W_rs ?_
 refine rq (out:=Pr.i64 0) ae ?_
 refine aw ?_
 refine W_rs ?_
 refine rq (out:=Pr.i64 0) ae ?_
 refine ar ?_
 obtain⟨z2l,hz2,h⟩:=ah h
 obtain⟨n2,hN2⟩:=a4 hz2
 clear hz2
 refine bp 0 (fun e C=>∃(x3:Int),ref03_great_k1 x3=some r/\At [(3,Pr.i64 x3)] [] e C) ?_ ?_
 ·rintro e C ⟨x3,h,hat1⟩
  refine W_at hat1 ?_
  clear hat1
  unfold ref03_great_k1 at h
  refine W_rs ?_
  refine rq (out:=Pr.i64 x3) ag ?_
  refine rq (out:=Pr.bool (decide (x3>2147483647))) qInt ?_
  refine rq (out:=Pr.bool (decide (x3>2147483647))) ae ?_
  obtain rfl:=Option.some.inj h
  exact bb ⟨rfl,aa⟩
 refine cd (fun m e C=>∃(x3:Int),∃(x4:Int),cz (fun s=>kp x1 s.1 s.2) m (x3,x4)=some z2l/\At [(0,aj x1),(3,Pr.i64 x3),(4,Pr.i64 x4)] [] e C) n2 ⟨0,0,hN2,⟨⟨aa,aa,aa,trivial⟩,Pick.refl _⟩⟩ ?_
 clear hN2
 rintro m e C ⟨x3,x4,hN2,hatl2⟩
 refine W_at hatl2 ?_
 clear hatl2
 obtain⟨m2,w2l,rfl,h2l,hn2,ho2⟩:=ay hN2
 clear hN2
 replace h2l:kp x1 x3 x4=some w2l:=h2l
 unfold kp at h2l
 refine aw ?_
 refine W_rs ?_
 refine rq (out:=Pr.i64 x4) ag ?_
 refine rq (out:=aj x1) ag ?_
 refine rq (out:=Pr.i64 (x1.length:Int)) (qLenS rfl Tryz.underlying9) ?_
 refine rq (out:=Pr.bool (decide (x4<(x1.length:Int)))) qInt ?_
 refine au (b:=decide (x4<(x1.length:Int))) rfl (fun hc7=> ?_) (fun hc7=> ?_)
 ·replace h2l:=iteT hc7 h2l
  refine av ?_
  refine aw ?_
  refine ar ?_
  refine W_r ?_
  refine rq (out:=Pr.i64 x3) ag ?_
  refine rq (out:=Pr.i64 (w64 (10 * x3))) qInt ?_
  refine rq (out:=aj x1) ag ?_
  refine rq (out:=Pr.i64 x4) ag ?_
  obtain⟨x8,hx8,h2l⟩:=ah h2l
  refine rq (out:=Pr.u8 x8) (qIdxS Tryz.underlying9 hx8) ?_
  refine rq (out:=Pr.u8 (IntKind.wrap .u8 (x8 - 48))) qInt ?_
  refine rq (out:=Pr.i64 (w64 (IntKind.wrap .u8 (x8 - 48)))) (qConv Tryz.underlying5 Tryz.underlying3) ?_
  refine rq (out:=Pr.i64 (w64 ((w64 (10 * x3))+(w64 (IntKind.wrap .u8 (x8 - 48)))))) qInt ?_
  refine rq (out:=Pr.i64 (w64 ((w64 (10 * x3))+(w64 (IntKind.wrap .u8 (x8 - 48)))))) ae ?_
  refine W_r ?_
  refine rq (out:=Pr.i64 x4) ag ?_
  refine rq (out:=Pr.i64 (w64 (x4+1))) qInt ?_
  refine rq (out:=Pr.i64 (w64 (x4+1))) ae ?_
  exact⟨m2,Nat.lt_succ_self _,w64 ((w64 (10 * x3))+(w64 (IntKind.wrap .u8 (x8 - 48)))),w64 (x4+1),hn2 _ (Option.some.inj h2l).symm,⟨⟨aa,aa,aa,trivial⟩,Pick.refl _⟩⟩
 replace h2l:=iteF hc7 h2l
 refine bw ?_
 obtain rfl:=ho2 _ (Option.some.inj h2l).symm
 exact⟨x3,h,⟨⟨aa,trivial⟩,Pick.refl _⟩⟩
theorem ref03_letter_ok (x1:Int) (r:Bool) (h:lj x1=some r):FnP Tryz.prog 98 [Pr.u8 x1] (Pr.bool r):=by
 refine a7 (n:=21) (rs:=[2]) Tryz.func98 rfl Tryz.ntmps98 ⟨by decide,Tryz.results98⟩ (by decide) (fun s0=> ?_)
 unfold lj at h
 refine W_rs ?_
 refine rq (out:=Pr.bool false) ae ?_
 refine bg (fun e C=>∃(x13:Bool),ez x13=some r/\At [(2,Pr.bool x13)] [] e C) ?_ ?_
 ·rintro e C ⟨x13,h,hat1⟩
  refine W_at hat1 ?_
  clear hat1
  unfold ez at h
  obtain rfl:=Option.some.inj h
  exact bb ⟨rfl,aa⟩
 refine W_r ?_
 refine rq (out:=Pr.u8 x1) ag ?_
 refine rq (out:=Pr.bool (decide (x1≥97))) qInt ?_
 refine rq (out:=Pr.bool (decide (x1≥97))) ag ?_
 rcases bc h with⟨hc2,h⟩|⟨hc2,h⟩
 ·refine rqg hc2 (out:=Pr.u8 x1) ag ?_
  refine rqg hc2 (out:=Pr.bool (decide (x1<=122))) qInt ?_
  refine rq (out:=Pr.bool (decide (x1<=122))) (bo hc2) ?_
  refine rq (out:=Pr.bool (decide (x1<=122))) ag ?_
  rcases bc h with⟨hc3,h⟩|⟨hc3,h⟩
  ·refine rno (neF hc3) ?_
   refine rno (neF hc3) ?_
   refine rno (neF hc3) ?_
   refine rnoU ?_
   refine rnoU ?_
   refine rno (neF hc3) ?_
   refine rq (out:=Pr.bool true) (bo hc3) ?_
   refine rq (out:=Pr.bool true) ag ?_
   have hc7:true=true:=rfl
   refine rno (neF hc7) ?_
   refine rno (neF hc7) ?_
   refine rq (out:=Pr.bool true) (bo hc7) ?_
   refine rq (out:=Pr.bool true) ae ?_
   exact⟨true,h,⟨⟨aa,trivial⟩,Pick.refl _⟩⟩
  refine rqg hc3 (out:=Pr.u8 x1) ag ?_
  refine rqg hc3 (out:=Pr.bool (decide (x1≥65))) qInt ?_
  refine rqg hc3 (out:=Pr.bool (decide (x1≥65))) ag ?_
  rcases bc h with⟨hc4,h⟩|⟨hc4,h⟩
  ·refine rqg hc4 (out:=Pr.u8 x1) ag ?_
   refine rqg hc4 (out:=Pr.bool (decide (x1<=90))) qInt ?_
   refine rqg hc3 (out:=Pr.bool (decide (x1<=90))) (bo hc4) ?_
   refine rq (out:=Pr.bool (decide (x1<=90))) (az hc3) ?_
   refine rq (out:=Pr.bool (decide (x1<=90))) ag ?_
   rcases bc h with⟨hc5,h⟩|⟨hc5,h⟩
   ·refine rno (neF hc5) ?_
    refine rno (neF hc5) ?_
    refine rq (out:=Pr.bool true) (bo hc5) ?_
    refine rq (out:=Pr.bool true) ae ?_
    exact⟨true,h,⟨⟨aa,trivial⟩,Pick.refl _⟩⟩
   refine rqg hc5 (out:=Pr.u8 x1) ag ?_
   refine rqg hc5 (out:=Pr.bool (x1==95)) qInt ?_
   refine rq (out:=Pr.bool (x1==95)) (az hc5) ?_
   refine rq (out:=Pr.bool (x1==95)) ae ?_
   exact⟨x1==95,h,⟨⟨aa,trivial⟩,Pick.refl _⟩⟩
  refine rno (neT hc4) ?_
  refine rno (neT hc4) ?_
  refine rqg hc3 (out:=Pr.bool false) (az hc4) ?_
  refine rq (out:=Pr.bool false) (az hc3) ?_
  refine rq (out:=Pr.bool false) ag ?_
  have hc6:false=false:=rfl
  refine rqg hc6 (out:=Pr.u8 x1) ag ?_
  refine rqg hc6 (out:=Pr.bool (x1==95)) qInt ?_
  refine rq (out:=Pr.bool (x1==95)) (az hc6) ?_
  refine rq (out:=Pr.bool (x1==95)) ae ?_
  exact⟨x1==95,h,⟨⟨aa,trivial⟩,Pick.refl _⟩⟩
 refine rno (neT hc2) ?_
 refine rno (neT hc2) ?_
 refine rq (out:=Pr.bool false) (az hc2) ?_
 refine rq (out:=Pr.bool false) ag ?_
 have hc8:false=false:=rfl
 refine rqg hc8 (out:=Pr.u8 x1) ag ?_
 refine rqg hc8 (out:=Pr.bool (decide (x1≥65))) qInt ?_
 refine rqg hc8 (out:=Pr.bool (decide (x1≥65))) ag ?_
 rcases bc h with⟨hc9,h⟩|⟨hc9,h⟩
 ·refine rqg hc9 (out:=Pr.u8 x1) ag ?_
  refine rqg hc9 (out:=Pr.bool (decide (x1<=90))) qInt ?_
  refine rqg hc8 (out:=Pr.bool (decide (x1<=90))) (bo hc9) ?_
  refine rq (out:=Pr.bool (decide (x1<=90))) (az hc8) ?_
  refine rq (out:=Pr.bool (decide (x1<=90))) ag ?_
  rcases bc h with⟨hc10,h⟩|⟨hc10,h⟩
  ·refine rno (neF hc10) ?_
   refine rno (neF hc10) ?_
   refine rq (out:=Pr.bool true) (bo hc10) ?_
   refine rq (out:=Pr.bool true) ae ?_
   exact⟨true,h,⟨⟨aa,trivial⟩,Pick.refl _⟩⟩
  refine rqg hc10 (out:=Pr.u8 x1) ag ?_
  refine rqg hc10 (out:=Pr.bool (x1==95)) qInt ?_
  refine rq (out:=Pr.bool (x1==95)) (az hc10) ?_
  refine rq (out:=Pr.bool (x1==95)) ae ?_
  exact⟨x1==95,h,⟨⟨aa,trivial⟩,Pick.refl _⟩⟩
 refine rno (neT hc9) ?_
 refine rno (neT hc9) ?_
 refine rqg hc8 (out:=Pr.bool false) (az hc9) ?_
 refine rq (out:=Pr.bool false) (az hc8) ?_
 refine rq (out:=Pr.bool false) ag ?_
 have hc11:false=false:=rfl
 refine rqg hc11 (out:=Pr.u8 x1) ag ?_
 refine rqg hc11 (out:=Pr.bool (x1==95)) qInt ?_
 refine rq (out:=Pr.bool (x1==95)) (az hc11) ?_
 refine rq (out:=Pr.bool (x1==95)) ae ?_
 exact⟨x1==95,h,⟨⟨aa,trivial⟩,Pick.refl _⟩⟩
theorem ref03_Kept_ok (x1:List UInt8) (r:Bool) (h:ref03_Kept x1=some r):FnP Tryz.prog 99 [aj x1] (Pr.bool r):=by
 refine a7 (n:=18) (rs:=[2]) Tryz.func99 rfl Tryz.ntmps99 ⟨by decide,Tryz.results99⟩ (by decide) (fun s0=> ?_)
 unfold ref03_Kept at h
 refine W_rs ?_
 refine rq (out:=Pr.bool false) ae ?_
 refine W_rs ?_
 refine rq (out:=af ab ([([99,108,97,115,115]:List UInt8),([101,120,116,101,110,100,115]:List UInt8),([115,116,97,116,105,99]:List UInt8),([118,111,105,100]:List UInt8),([105,110,116]:List UInt8),([98,111,111,108,101,97,110]:List UInt8),([105,102]:List UInt8),([101,108,115,101]:List UInt8),([119,104,105,108,101]:List UInt8),([114,101,116,117,114,110]:List UInt8),([112,114,105,110,116]:List UInt8),([116,114,117,101]:List UInt8),([102,97,108,115,101]:List UInt8),([110,117,108,108]:List UInt8),([116,104,105,115]:List UInt8),([110,101,119]:List UInt8)]:List (List UInt8))) (fm (R:=ab) (ls:=([([99,108,97,115,115]:List UInt8),([101,120,116,101,110,100,115]:List UInt8),([115,116,97,116,105,99]:List UInt8),([118,111,105,100]:List UInt8),([105,110,116]:List UInt8),([98,111,111,108,101,97,110]:List UInt8),([105,102]:List UInt8),([101,108,115,101]:List UInt8),([119,104,105,108,101]:List UInt8),([114,101,116,117,114,110]:List UInt8),([112,114,105,110,116]:List UInt8),([116,114,117,101]:List UInt8),([102,97,108,115,101]:List UInt8),([110,117,108,108]:List UInt8),([116,104,105,115]:List UInt8),([110,101,119]:List UInt8)]:List (List UInt8))) el33 (Nat.le_of_ble_eq_true rfl) ⟨rfl,rfl⟩ ⟨rfl,rfl,rfl,rfl,rfl,rfl,rfl,rfl,rfl,rfl,rfl,rfl,rfl,rfl,rfl,rfl,trivial⟩) ?_
 refine rq (out:=af ab ([([99,108,97,115,115]:List UInt8),([101,120,116,101,110,100,115]:List UInt8),([115,116,97,116,105,99]:List UInt8),([118,111,105,100]:List UInt8),([105,110,116]:List UInt8),([98,111,111,108,101,97,110]:List UInt8),([105,102]:List UInt8),([101,108,115,101]:List UInt8),([119,104,105,108,101]:List UInt8),([114,101,116,117,114,110]:List UInt8),([112,114,105,110,116]:List UInt8),([116,114,117,101]:List UInt8),([102,97,108,115,101]:List UInt8),([110,117,108,108]:List UInt8),([116,104,105,115]:List UInt8),([110,101,119]:List UInt8)]:List (List UInt8))) ae ?_
 refine aw ?_
 refine W_rs ?_
 refine rq (out:=Pr.i64 0) ae ?_
 refine ar ?_
 obtain⟨z2l,hz2,h⟩:=ah h
 obtain⟨n2,hN2⟩:=a4 hz2
 clear hz2
 refine bp 0 (fun e C=>ref03_Kept_k1=some r/\At [] [] e C) ?_ ?_
 ·rintro e C ⟨h,hat1⟩
  refine W_at hat1 ?_
  clear hat1
  unfold ref03_Kept_k1 at h
  refine W_rs ?_
  refine rq (out:=Pr.bool false) ae ?_
  obtain rfl:=Option.some.inj h
  exact bb ⟨rfl,aa⟩
 refine cd (fun m e C=>∃(x2:Int),cz (fun s=>l6 x1 s) m x2=some z2l/\At [(0,aj x1),(3,af ab ([([99,108,97,115,115]:List UInt8),([101,120,116,101,110,100,115]:List UInt8),([115,116,97,116,105,99]:List UInt8),([118,111,105,100]:List UInt8),([105,110,116]:List UInt8),([98,111,111,108,101,97,110]:List UInt8),([105,102]:List UInt8),([101,108,115,101]:List UInt8),([119,104,105,108,101]:List UInt8),([114,101,116,117,114,110]:List UInt8),([112,114,105,110,116]:List UInt8),([116,114,117,101]:List UInt8),([102,97,108,115,101]:List UInt8),([110,117,108,108]:List UInt8),([116,104,105,115]:List UInt8),([110,101,119]:List UInt8)]:List (List UInt8))),(4,Pr.i64 x2)] [] e C) n2 ⟨0,hN2,⟨⟨aa,aa,aa,trivial⟩,Pick.refl _⟩⟩ ?_
 clear hN2
 rintro m e C ⟨x2,hN2,hatl2⟩
 refine W_at hatl2 ?_
 clear hatl2
 obtain⟨m2,w2l,rfl,h2l,hn2,ho2⟩:=ay hN2
 clear hN2
 replace h2l:l6 x1 x2=some w2l:=h2l
 unfold l6 at h2l
 refine aw ?_
 refine W_rs ?_
 refine rq (out:=Pr.i64 x2) ag ?_
 refine rq (out:=af ab ([([99,108,97,115,115]:List UInt8),([101,120,116,101,110,100,115]:List UInt8),([115,116,97,116,105,99]:List UInt8),([118,111,105,100]:List UInt8),([105,110,116]:List UInt8),([98,111,111,108,101,97,110]:List UInt8),([105,102]:List UInt8),([101,108,115,101]:List UInt8),([119,104,105,108,101]:List UInt8),([114,101,116,117,114,110]:List UInt8),([112,114,105,110,116]:List UInt8),([116,114,117,101]:List UInt8),([102,97,108,115,101]:List UInt8),([110,117,108,108]:List UInt8),([116,104,105,115]:List UInt8),([110,101,119]:List UInt8)]:List (List UInt8))) ag ?_
 refine rq (out:=Pr.i64 (([([99,108,97,115,115]:List UInt8),([101,120,116,101,110,100,115]:List UInt8),([115,116,97,116,105,99]:List UInt8),([118,111,105,100]:List UInt8),([105,110,116]:List UInt8),([98,111,111,108,101,97,110]:List UInt8),([105,102]:List UInt8),([101,108,115,101]:List UInt8),([119,104,105,108,101]:List UInt8),([114,101,116,117,114,110]:List UInt8),([112,114,105,110,116]:List UInt8),([116,114,117,101]:List UInt8),([102,97,108,115,101]:List UInt8),([110,117,108,108]:List UInt8),([116,104,105,115]:List UInt8),([110,101,119]:List UInt8)]:List (List UInt8)).length:Int)) (cl rfl Tryz.underlying33) ?_
 refine rq (out:=Pr.bool (decide (x2<(([([99,108,97,115,115]:List UInt8),([101,120,116,101,110,100,115]:List UInt8),([115,116,97,116,105,99]:List UInt8),([118,111,105,100]:List UInt8),([105,110,116]:List UInt8),([98,111,111,108,101,97,110]:List UInt8),([105,102]:List UInt8),([101,108,115,101]:List UInt8),([119,104,105,108,101]:List UInt8),([114,101,116,117,114,110]:List UInt8),([112,114,105,110,116]:List UInt8),([116,114,117,101]:List UInt8),([102,97,108,115,101]:List UInt8),([110,117,108,108]:List UInt8),([116,104,105,115]:List UInt8),([110,101,119]:List UInt8)]:List (List UInt8)).length:Int)))) qInt ?_
 refine au (b:=decide (x2<(([([99,108,97,115,115]:List UInt8),([101,120,116,101,110,100,115]:List UInt8),([115,116,97,116,105,99]:List UInt8),([118,111,105,100]:List UInt8),([105,110,116]:List UInt8),([98,111,111,108,101,97,110]:List UInt8),([105,102]:List UInt8),([101,108,115,101]:List UInt8),([119,104,105,108,101]:List UInt8),([114,101,116,117,114,110]:List UInt8),([112,114,105,110,116]:List UInt8),([116,114,117,101]:List UInt8),([102,97,108,115,101]:List UInt8),([110,117,108,108]:List UInt8),([116,104,105,115]:List UInt8),([110,101,119]:List UInt8)]:List (List UInt8)).length:Int))) rfl (fun hc4=> ?_) (fun hc4=> ?_)
 ·replace h2l:=iteT hc4 h2l
  refine av ?_
  refine aw ?_
  refine ar ?_
  refine W_rs ?_
  refine rq (out:=af ab ([([99,108,97,115,115]:List UInt8),([101,120,116,101,110,100,115]:List UInt8),([115,116,97,116,105,99]:List UInt8),([118,111,105,100]:List UInt8),([105,110,116]:List UInt8),([98,111,111,108,101,97,110]:List UInt8),([105,102]:List UInt8),([101,108,115,101]:List UInt8),([119,104,105,108,101]:List UInt8),([114,101,116,117,114,110]:List UInt8),([112,114,105,110,116]:List UInt8),([116,114,117,101]:List UInt8),([102,97,108,115,101]:List UInt8),([110,117,108,108]:List UInt8),([116,104,105,115]:List UInt8),([110,101,119]:List UInt8)]:List (List UInt8))) ag ?_
  refine rq (out:=Pr.i64 x2) ag ?_
  obtain⟨x5,hx5,h2l⟩:=ah h2l
  refine rq (out:=a5 ab x5) (cr (R:=ab) (l:=([([99,108,97,115,115]:List UInt8),([101,120,116,101,110,100,115]:List UInt8),([115,116,97,116,105,99]:List UInt8),([118,111,105,100]:List UInt8),([105,110,116]:List UInt8),([98,111,111,108,101,97,110]:List UInt8),([105,102]:List UInt8),([101,108,115,101]:List UInt8),([119,104,105,108,101]:List UInt8),([114,101,116,117,114,110]:List UInt8),([112,114,105,110,116]:List UInt8),([116,114,117,101]:List UInt8),([102,97,108,115,101]:List UInt8),([110,117,108,108]:List UInt8),([116,104,105,115]:List UInt8),([110,101,119]:List UInt8)]:List (List UInt8))) Tryz.underlying33 Tryz.sizeOf9 hx5) ?_
  refine rq (out:=aj x5) (bl (R:=ab) (a:=x5) ty9) ?_
  refine rq (out:=aj x1) ag ?_
  refine rq (out:=Pr.bool (x5==x1)) qStr ?_
  refine au (b:=x5==x1) rfl (fun hc6=> ?_) (fun hc6=> ?_)
  ·replace h2l:=iteT hc6 h2l
   refine W_rs ?_
   refine rq (out:=Pr.bool true) ae ?_
   obtain rfl:=ho2 _ (Option.some.inj h2l).symm
   replace h:some true=some r:=h
   obtain rfl:=Option.some.inj h
   exact bb ⟨rfl,aa⟩
  replace h2l:=iteF hc6 h2l
  refine av ?_
  refine W_r ?_
  refine rq (out:=Pr.i64 x2) ag ?_
  refine rq (out:=Pr.i64 (w64 (x2+1))) qInt ?_
  refine rq (out:=Pr.i64 (w64 (x2+1))) ae ?_
  exact⟨m2,Nat.lt_succ_self _,w64 (x2+1),hn2 _ (Option.some.inj h2l).symm,⟨⟨aa,aa,aa,trivial⟩,Pick.refl _⟩⟩
 replace h2l:=iteF hc4 h2l
 refine bw ?_
 obtain rfl:=ho2 _ (Option.some.inj h2l).symm
 exact⟨h,⟨trivial,Pick.refl _⟩⟩
theorem ref03_mark_ok (x1:List UInt8) (x2 r:Int) (h:ref03_mark x1 x2=some r):FnP Tryz.prog 100 [aj x1,Pr.i64 x2] (Pr.i64 r):=by
 refine a7 (n:=46) (rs:=[4]) Tryz.func100 rfl Tryz.ntmps100 ⟨by decide,Tryz.results100⟩ (by decide) (fun s0=> ?_)
 unfold ref03_mark at h
 refine W_rs ?_
 refine rq (out:=Pr.i64 0) ae ?_
 refine W_rs ?_
 refine rq (out:=af ab ([([61,61]:List UInt8),([33,61]:List UInt8),([60,61]:List UInt8),([62,61]:List UInt8),([38,38]:List UInt8),([124,124]:List UInt8)]:List (List UInt8))) (fm (R:=ab) (ls:=([([61,61]:List UInt8),([33,61]:List UInt8),([60,61]:List UInt8),([62,61]:List UInt8),([38,38]:List UInt8),([124,124]:List UInt8)]:List (List UInt8))) el33 (Nat.le_of_ble_eq_true rfl) ⟨rfl,rfl⟩ ⟨rfl,rfl,rfl,rfl,rfl,rfl,trivial⟩) ?_
 refine rq (out:=af ab ([([61,61]:List UInt8),([33,61]:List UInt8),([60,61]:List UInt8),([62,61]:List UInt8),([38,38]:List UInt8),([124,124]:List UInt8)]:List (List UInt8))) ae ?_
 refine aw ?_
 refine W_rs ?_
 refine rq (out:=Pr.i64 0) ae ?_
 refine ar ?_
 obtain⟨z5l,hz5,h⟩:=ah h
 obtain⟨n5,hN5⟩:=a4 hz5
 clear hz5
 refine bp 0 (fun e C=>ref03_mark_k4 x1 x2=some r/\At [(0,aj x1),(1,Pr.i64 x2)] [] e C) ?_ ?_
 ·rintro e C ⟨h,hat4⟩
  refine W_at hat4 ?_
  clear hat4
  unfold ref03_mark_k4 at h
  refine W_rs ?_
  refine rq (out:=aj ([43,45,42,47,37,60,62,61,33,40,41,123,125,59,44,46]:List UInt8)) ae ?_
  refine aw ?_
  refine W_rs ?_
  refine rq (out:=Pr.i64 0) ae ?_
  refine ar ?_
  obtain⟨z2l,hz2,h⟩:=ah h
  obtain⟨n2,hN2⟩:=a4 hz2
  clear hz2
  refine bp 2 (fun e C=>ref03_mark_k1=some r/\At [] [] e C) ?_ ?_
  ·rintro e C ⟨h,hat1⟩
   refine W_at hat1 ?_
   clear hat1
   unfold ref03_mark_k1 at h
   refine W_rs ?_
   refine rq (out:=Pr.i64 0) ae ?_
   obtain rfl:=Option.some.inj h
   exact bb ⟨rfl,aa⟩
  refine cd (fun m e C=>∃(x11:Int),cz (fun s=>jp x1 x2 s) m x11=some z2l/\At [(0,aj x1),(1,Pr.i64 x2),(7,aj ([43,45,42,47,37,60,62,61,33,40,41,123,125,59,44,46]:List UInt8)),(8,Pr.i64 x11)] [] e C) n2 ⟨0,hN2,⟨⟨aa,aa,aa,aa,trivial⟩,Pick.refl _⟩⟩ ?_
  clear hN2
  rintro m e C ⟨x11,hN2,hatl2⟩
  refine W_at hatl2 ?_
  clear hatl2
  obtain⟨m2,w2l,rfl,h2l,hn2,ho2⟩:=ay hN2
  clear hN2
  replace h2l:jp x1 x2 x11=some w2l:=h2l
  unfold jp at h2l
  refine aw ?_
  refine W_rs ?_
  refine rq (out:=Pr.i64 x11) ag ?_
  refine rq (out:=aj ([43,45,42,47,37,60,62,61,33,40,41,123,125,59,44,46]:List UInt8)) ag ?_
  refine rq (out:=Pr.i64 (([43,45,42,47,37,60,62,61,33,40,41,123,125,59,44,46]:List UInt8).length:Int)) (qLenS rfl Tryz.underlying9) ?_
  refine rq (out:=Pr.bool (decide (x11<(([43,45,42,47,37,60,62,61,33,40,41,123,125,59,44,46]:List UInt8).length:Int)))) qInt ?_
  refine au (b:=decide (x11<(([43,45,42,47,37,60,62,61,33,40,41,123,125,59,44,46]:List UInt8).length:Int))) rfl (fun hc13=> ?_) (fun hc13=> ?_)
  ·replace h2l:=iteT hc13 h2l
   refine av ?_
   refine aw ?_
   refine ar ?_
   refine bg (fun e C=>∃(x14:Int),∃(x15:Int),ref03_mark_j3 x11 x14 x15=some w2l/\At [(0,aj x1),(1,Pr.i64 x2),(7,aj ([43,45,42,47,37,60,62,61,33,40,41,123,125,59,44,46]:List UInt8)),(8,Pr.i64 x11),(45,Pr.bool (x14==x15))] [] e C) ?_ ?_
   ·rintro e C ⟨x14,x15,h2l,hat3⟩
    refine W_at hat3 ?_
    clear hat3
    unfold ref03_mark_j3 at h2l
    refine au (b:=x14==x15) rfl (fun hc16=> ?_) (fun hc16=> ?_)
    ·replace h2l:=iteT hc16 h2l
     refine W_rs ?_
     refine rq (out:=Pr.i64 1) ae ?_
     obtain rfl:=ho2 _ (Option.some.inj h2l).symm
     replace h:some 1=some r:=h
     obtain rfl:=Option.some.inj h
     exact bb ⟨rfl,aa⟩
    replace h2l:=iteF hc16 h2l
    refine av ?_
    refine W_r ?_
    refine rq (out:=Pr.i64 x11) ag ?_
    refine rq (out:=Pr.i64 (w64 (x11+1))) qInt ?_
    refine rq (out:=Pr.i64 (w64 (x11+1))) ae ?_
    exact⟨m2,Nat.lt_succ_self _,w64 (x11+1),hn2 _ (Option.some.inj h2l).symm,⟨⟨aa,aa,aa,aa,trivial⟩,Pick.refl _⟩⟩
   refine ei 7 hmx (by kernel_rfl) (by kernel_rfl) ?_
   refine qq (out:=aj x1) ag ?_
   refine qq (out:=Pr.i64 x2) ag ?_
   obtain⟨x14,hx14,h2l⟩:=ah h2l
   refine qq (out:=Pr.u8 x14) (qIdxS Tryz.underlying9 hx14) ?_
   refine qq (out:=aj ([43,45,42,47,37,60,62,61,33,40,41,123,125,59,44,46]:List UInt8)) ag ?_
   refine qq (out:=Pr.i64 x11) ag ?_
   obtain⟨x15,hx15,h2l⟩:=ah h2l
   refine qq (out:=Pr.u8 x15) (qIdxS Tryz.underlying9 hx15) ?_
   refine qq (out:=Pr.bool (x14==x15)) qInt ?_
   exact⟨x14,x15,h2l,⟨⟨aa,aa,aa,aa,aa,trivial⟩,Pick.refl _⟩⟩
  replace h2l:=iteF hc13 h2l
  refine bw ?_
  obtain rfl:=ho2 _ (Option.some.inj h2l).symm
  exact⟨h,⟨trivial,Pick.refl _⟩⟩
 refine cd (fun m e C=>∃(x3:Int),cz (fun s=>jo x1 x2 s) m x3=some z5l/\At [(0,aj x1),(1,Pr.i64 x2),(5,af ab ([([61,61]:List UInt8),([33,61]:List UInt8),([60,61]:List UInt8),([62,61]:List UInt8),([38,38]:List UInt8),([124,124]:List UInt8)]:List (List UInt8))),(6,Pr.i64 x3)] [] e C) n5 ⟨0,hN5,⟨⟨aa,aa,aa,aa,trivial⟩,Pick.refl _⟩⟩ ?_
 clear hN5
 rintro m e C ⟨x3,hN5,hatl5⟩
 refine W_at hatl5 ?_
 clear hatl5
 obtain⟨m5,w5l,rfl,h5l,hn5,ho5⟩:=ay hN5
 clear hN5
 replace h5l:jo x1 x2 x3=some w5l:=h5l
 unfold jo at h5l
 refine aw ?_
 refine bg (fun e C=>∃(x6:Bool),ref03_mark_j7 x1 x2 x3 x6=some w5l/\At [(0,aj x1),(1,Pr.i64 x2),(5,af ab ([([61,61]:List UInt8),([33,61]:List UInt8),([60,61]:List UInt8),([62,61]:List UInt8),([38,38]:List UInt8),([124,124]:List UInt8)]:List (List UInt8))),(6,Pr.i64 x3),(20,Pr.bool x6)] [] e C) ?_ ?_
 ·rintro e C ⟨x6,h5l,hat7⟩
  refine W_at hat7 ?_
  clear hat7
  unfold ref03_mark_j7 at h5l
  refine au (b:=x6) rfl (fun hc7=> ?_) (fun hc7=> ?_)
  ·replace h5l:=iteT hc7 h5l
   refine av ?_
   refine aw ?_
   refine ar ?_
   refine bg (fun e C=>∃(x8:List UInt8),∃(x9:List UInt8),ref03_mark_j6 x3 x8 x9=some w5l/\At [(0,aj x1),(1,Pr.i64 x2),(5,af ab ([([61,61]:List UInt8),([33,61]:List UInt8),([60,61]:List UInt8),([62,61]:List UInt8),([38,38]:List UInt8),([124,124]:List UInt8)]:List (List UInt8))),(6,Pr.i64 x3),(32,Pr.bool (x8==x9))] [] e C) ?_ ?_
   ·rintro e C ⟨x8,x9,h5l,hat6⟩
    refine W_at hat6 ?_
    clear hat6
    unfold ref03_mark_j6 at h5l
    refine au (b:=x8==x9) rfl (fun hc10=> ?_) (fun hc10=> ?_)
    ·replace h5l:=iteT hc10 h5l
     refine W_rs ?_
     refine rq (out:=Pr.i64 2) ae ?_
     obtain rfl:=ho5 _ (Option.some.inj h5l).symm
     replace h:some 2=some r:=h
     obtain rfl:=Option.some.inj h
     exact bb ⟨rfl,aa⟩
    replace h5l:=iteF hc10 h5l
    refine av ?_
    refine W_r ?_
    refine rq (out:=Pr.i64 x3) ag ?_
    refine rq (out:=Pr.i64 (w64 (x3+1))) qInt ?_
    refine rq (out:=Pr.i64 (w64 (x3+1))) ae ?_
    exact⟨m5,Nat.lt_succ_self _,w64 (x3+1),hn5 _ (Option.some.inj h5l).symm,⟨⟨aa,aa,aa,aa,trivial⟩,Pick.refl _⟩⟩
   refine ei 10 hmx (by kernel_rfl) (by kernel_rfl) ?_
   refine qq (out:=aj x1) ag ?_
   refine qq (out:=Pr.i64 x2) ag ?_
   refine qq (out:=Pr.i64 x2) ag ?_
   refine qq (out:=Pr.i64 (w64 (x2+2))) qInt ?_
   obtain⟨x8,hx8,h5l⟩:=ah h5l
   refine qq (out:=aj x8) (qSubLH Tryz.underlying9 hx8) ?_
   refine qq (out:=af ab ([([61,61]:List UInt8),([33,61]:List UInt8),([60,61]:List UInt8),([62,61]:List UInt8),([38,38]:List UInt8),([124,124]:List UInt8)]:List (List UInt8))) ag ?_
   refine qq (out:=Pr.i64 x3) ag ?_
   obtain⟨x9,hx9,h5l⟩:=ah h5l
   refine qq (out:=a5 ab x9) (cr (R:=ab) (l:=([([61,61]:List UInt8),([33,61]:List UInt8),([60,61]:List UInt8),([62,61]:List UInt8),([38,38]:List UInt8),([124,124]:List UInt8)]:List (List UInt8))) Tryz.underlying33 Tryz.sizeOf9 hx9) ?_
   refine qq (out:=aj x9) (bl (R:=ab) (a:=x9) ty9) ?_
   refine qq (out:=Pr.bool (x8==x9)) qStr ?_
   exact⟨x8,x9,h5l,⟨⟨aa,aa,aa,aa,aa,trivial⟩,Pick.refl _⟩⟩
  replace h5l:=iteF hc7 h5l
  refine bw ?_
  obtain rfl:=ho5 _ (Option.some.inj h5l).symm
  exact⟨h,⟨⟨aa,aa,trivial⟩,Pick.refl _⟩⟩
 refine W_r ?_
 refine rq (out:=Pr.i64 x3) ag ?_
 refine rq (out:=af ab ([([61,61]:List UInt8),([33,61]:List UInt8),([60,61]:List UInt8),([62,61]:List UInt8),([38,38]:List UInt8),([124,124]:List UInt8)]:List (List UInt8))) ag ?_
 refine rq (out:=Pr.i64 (([([61,61]:List UInt8),([33,61]:List UInt8),([60,61]:List UInt8),([62,61]:List UInt8),([38,38]:List UInt8),([124,124]:List UInt8)]:List (List UInt8)).length:Int)) (cl rfl Tryz.underlying33) ?_
 refine rq (out:=Pr.bool (decide (x3<(([([61,61]:List UInt8),([33,61]:List UInt8),([60,61]:List UInt8),([62,61]:List UInt8),([38,38]:List UInt8),([124,124]:List UInt8)]:List (List UInt8)).length:Int)))) qInt ?_
 refine rq (out:=Pr.bool (decide (x3<(([([61,61]:List UInt8),([33,61]:List UInt8),([60,61]:List UInt8),([62,61]:List UInt8),([38,38]:List UInt8),([124,124]:List UInt8)]:List (List UInt8)).length:Int)))) ag ?_
 rcases bc h5l with⟨hc5,h5l⟩|⟨hc5,h5l⟩
 ·refine rqg hc5 (out:=Pr.i64 x2) ag ?_
  refine rqg hc5 (out:=Pr.i64 (w64 (x2+2))) qInt ?_
  refine rqg hc5 (out:=aj x1) ag ?_
  refine rqg hc5 (out:=Pr.i64 (x1.length:Int)) (qLenS rfl Tryz.underlying9) ?_
  refine rqg hc5 (out:=Pr.bool (decide ((w64 (x2+2))<=(x1.length:Int)))) qInt ?_
  refine rq (out:=Pr.bool (decide ((w64 (x2+2))<=(x1.length:Int)))) (bo hc5) ?_
  exact⟨decide ((w64 (x2+2))<=(x1.length:Int)),h5l,⟨⟨aa,aa,aa,aa,aa,trivial⟩,Pick.refl _⟩⟩
 refine rno (neT hc5) ?_
 refine rno (neT hc5) ?_
 refine rno (neT hc5) ?_
 refine rno (neT hc5) ?_
 refine rno (neT hc5) ?_
 refine rq (out:=Pr.bool false) (az hc5) ?_
 exact⟨false,h5l,⟨⟨aa,aa,aa,aa,aa,trivial⟩,Pick.refl _⟩⟩
theorem ref03_token_ok (x1:List UInt8) (x2:Int) (r:Int × Int × Int) (h:ref03_token x1 x2=some r):FnP Tryz.prog 84 [aj x1,Pr.i64 x2] (bn [Pr.i64 r.1,Pr.i64 r.2.1,Pr.i64 r.2.2]):=by
 refine a7 (n:=95) (rs:=[4,5,6]) Tryz.func84 rfl Tryz.ntmps84 ⟨by decide,Tryz.results84⟩ (by decide) (fun s0=> ?_)
 unfold ref03_token at h
 refine W_rs ?_
 refine rq (out:=Pr.i64 0) ae ?_
 refine rq (out:=Pr.i64 0) ae ?_
 refine rq (out:=Pr.i64 0) ae ?_
 refine W_rs ?_
 refine rq (out:=Pr.i64 0) ae ?_
 refine aw ?_
 refine W_rs ?_
 refine rq (out:=aj x1) ag ?_
 refine rq (out:=Pr.i64 x2) ag ?_
 obtain⟨x3,hx3,h⟩:=ah h
 refine rq (out:=Pr.u8 x3) (qIdxS Tryz.underlying9 hx3) ?_
 obtain⟨x4,hx4,h⟩:=ah h
 refine rq (out:=Pr.bool x4) (br (ref03_digit_ok x3 _ hx4)) ?_
 refine au (b:=x4) rfl (fun hc5=> ?_) (fun hc5=> ?_)
 ·replace h:=iteT hc5 h
  refine aw ?_
  refine ar ?_
  obtain⟨z3l,hz3,h⟩:=ah h
  obtain⟨n3,hN3⟩:=a4 hz3
  clear hz3
  refine bp 0 (fun e C=>∃(x6:Int),ref03_token_k2 x1 x2 x6=some r/\At [(0,aj x1),(1,Pr.i64 x2),(7,Pr.i64 x6)] [] e C) ?_ ?_
  ·rintro e C ⟨x6,h,hat2⟩
   refine W_at hat2 ?_
   clear hat2
   unfold ref03_token_k2 at h
   refine W_rs ?_
   refine rq (out:=aj x1) ag ?_
   refine rq (out:=Pr.i64 x2) ag ?_
   refine rq (out:=Pr.i64 x2) ag ?_
   refine rq (out:=Pr.i64 x6) ag ?_
   refine rq (out:=Pr.i64 (w64 (x2+x6))) qInt ?_
   obtain⟨x13,hx13,h⟩:=ah h
   refine rq (out:=aj x13) (qSubLH Tryz.underlying9 hx13) ?_
   obtain⟨x14,hx14,h⟩:=ah h
   refine rq (out:=Pr.bool x14) (br (ref03_great_ok x13 _ hx14)) ?_
   refine rq (out:=Pr.bool x14) ae ?_
   refine aw ?_
   refine bg (fun e C=>∃(x18:Bool),ko x6 x18=some r/\At [(7,Pr.i64 x6),(47,Pr.bool x18)] [] e C) ?_ ?_
   ·rintro e C ⟨x18,h,hat1⟩
    refine W_at hat1 ?_
    clear hat1
    unfold ko at h
    refine au (b:=x18) rfl (fun hc19=> ?_) (fun hc19=> ?_)
    ·replace h:=iteT hc19 h
     refine W_rs ?_
     refine rq (out:=Pr.i64 0) ae ?_
     refine rq (out:=Pr.i64 0) ae ?_
     refine rq (out:=Pr.i64 31) ae ?_
     obtain rfl:=Option.some.inj h
     exact bb ⟨rfl,aa⟩
    replace h:=iteF hc19 h
    refine av ?_
    refine W_rs ?_
    refine rq (out:=Pr.i64 x6) ag ?_
    refine rq (out:=Pr.i64 2) ae ?_
    refine rq (out:=Pr.i64 x6) ae ?_
    refine rq (out:=Pr.i64 0) ae ?_
    obtain rfl:=Option.some.inj h
    exact bb ⟨rfl,aa⟩
   refine W_r ?_
   refine rq (out:=Pr.bool x14) ag ?_
   refine rq (out:=Pr.bool x14) ag ?_
   rcases bc h with⟨hc15,h⟩|⟨hc15,h⟩
   ·refine rno (neF hc15) ?_
    refine rno (neF hc15) ?_
    refine rno (neF hc15) ?_
    refine rnoU ?_
    refine rnoU ?_
    refine rnoU ?_
    refine rnoU ?_
    refine rno (neF hc15) ?_
    refine rq (out:=Pr.bool true) (bo hc15) ?_
    exact⟨true,h,⟨⟨aa,aa,trivial⟩,Pick.refl _⟩⟩
   refine rqg hc15 (out:=Pr.i64 x6) ag ?_
   refine rqg hc15 (out:=Pr.bool (decide (x6>1))) qInt ?_
   refine rqg hc15 (out:=Pr.bool (decide (x6>1))) ag ?_
   rcases bc h with⟨hc16,h⟩|⟨hc16,h⟩
   ·refine rqg hc16 (out:=aj x1) ag ?_
    refine rqg hc16 (out:=Pr.i64 x2) ag ?_
    obtain⟨x17,hx17,h⟩:=ah h
    refine rqg hc16 (out:=Pr.u8 x17) (qIdxS Tryz.underlying9 hx17) ?_
    refine rqg hc16 (out:=Pr.bool (x17==48)) qInt ?_
    refine rqg hc15 (out:=Pr.bool (x17==48)) (bo hc16) ?_
    refine rq (out:=Pr.bool (x17==48)) (az hc15) ?_
    exact⟨x17==48,h,⟨⟨aa,aa,trivial⟩,Pick.refl _⟩⟩
   refine rno (neT hc16) ?_
   refine rno (neT hc16) ?_
   refine rno (neT hc16) ?_
   refine rno (neT hc16) ?_
   refine rqg hc15 (out:=Pr.bool false) (az hc16) ?_
   refine rq (out:=Pr.bool false) (az hc15) ?_
   exact⟨false,h,⟨⟨aa,aa,trivial⟩,Pick.refl _⟩⟩
  refine cd (fun m e C=>∃(x6:Int),cz (fun s=>i8 x2 x1 s) m x6=some z3l/\At [(0,aj x1),(1,Pr.i64 x2),(7,Pr.i64 x6)] [] e C) n3 ⟨0,hN3,⟨⟨aa,aa,aa,trivial⟩,Pick.refl _⟩⟩ ?_
  clear hN3
  rintro m e C ⟨x6,hN3,hatl3⟩
  refine W_at hatl3 ?_
  clear hatl3
  obtain⟨m3,w3l,rfl,h3l,hn3,ho3⟩:=ay hN3
  clear hN3
  replace h3l:i8 x2 x1 x6=some w3l:=h3l
  unfold i8 at h3l
  refine aw ?_
  refine bg (fun e C=>∃(x11:Bool),my x6 x11=some w3l/\At [(0,aj x1),(1,Pr.i64 x2),(7,Pr.i64 x6),(27,Pr.bool x11)] [] e C) ?_ ?_
  ·rintro e C ⟨x11,h3l,hat4⟩
   refine W_at hat4 ?_
   clear hat4
   unfold my at h3l
   refine au (b:=x11) rfl (fun hc12=> ?_) (fun hc12=> ?_)
   ·replace h3l:=iteT hc12 h3l
    refine av ?_
    refine ar ?_
    refine W_r ?_
    refine rq (out:=Pr.i64 x6) ag ?_
    refine rq (out:=Pr.i64 (w64 (x6+1))) qInt ?_
    refine rq (out:=Pr.i64 (w64 (x6+1))) ae ?_
    exact⟨m3,Nat.lt_succ_self _,w64 (x6+1),hn3 _ (Option.some.inj h3l).symm,⟨⟨aa,aa,aa,trivial⟩,Pick.refl _⟩⟩
   replace h3l:=iteF hc12 h3l
   refine bw ?_
   obtain rfl:=ho3 _ (Option.some.inj h3l).symm
   exact⟨x6,h,⟨⟨aa,aa,aa,trivial⟩,Pick.refl _⟩⟩
  refine W_r ?_
  refine rq (out:=Pr.i64 x2) ag ?_
  refine rq (out:=Pr.i64 x6) ag ?_
  refine rq (out:=Pr.i64 (w64 (x2+x6))) qInt ?_
  refine rq (out:=aj x1) ag ?_
  refine rq (out:=Pr.i64 (x1.length:Int)) (qLenS rfl Tryz.underlying9) ?_
  refine rq (out:=Pr.bool (decide ((w64 (x2+x6))<(x1.length:Int)))) qInt ?_
  refine rq (out:=Pr.bool (decide ((w64 (x2+x6))<(x1.length:Int)))) ag ?_
  rcases bc h3l with⟨hc8,h3l⟩|⟨hc8,h3l⟩
  ·refine rqg hc8 (out:=aj x1) ag ?_
   refine rqg hc8 (out:=Pr.i64 x2) ag ?_
   refine rqg hc8 (out:=Pr.i64 x6) ag ?_
   refine rqg hc8 (out:=Pr.i64 (w64 (x2+x6))) qInt ?_
   obtain⟨x9,hx9,h3l⟩:=ah h3l
   refine rqg hc8 (out:=Pr.u8 x9) (qIdxS Tryz.underlying9 hx9) ?_
   obtain⟨x10,hx10,h3l⟩:=ah h3l
   refine rqg hc8 (out:=Pr.bool x10) (br (ref03_digit_ok x9 _ hx10)) ?_
   refine rq (out:=Pr.bool x10) (bo hc8) ?_
   exact⟨x10,h3l,⟨⟨aa,aa,aa,aa,trivial⟩,Pick.refl _⟩⟩
  refine rno (neT hc8) ?_
  refine rno (neT hc8) ?_
  refine rno (neT hc8) ?_
  refine rno (neT hc8) ?_
  refine rno (neT hc8) ?_
  refine rno (neT hc8) ?_
  refine rq (out:=Pr.bool false) (az hc8) ?_
  exact⟨false,h3l,⟨⟨aa,aa,aa,aa,trivial⟩,Pick.refl _⟩⟩
 replace h:=iteF hc5 h
 refine av ?_
 refine aw ?_
 refine W_rs ?_
 refine rq (out:=aj x1) ag ?_
 refine rq (out:=Pr.i64 x2) ag ?_
 obtain⟨x20,hx20,h⟩:=ah h
 refine rq (out:=Pr.u8 x20) (qIdxS Tryz.underlying9 hx20) ?_
 obtain⟨x21,hx21,h⟩:=ah h
 refine rq (out:=Pr.bool x21) (br (ref03_letter_ok x20 _ hx21)) ?_
 refine au (b:=x21) rfl (fun hc22=> ?_) (fun hc22=> ?_)
 ·replace h:=iteT hc22 h
  refine aw ?_
  refine ar ?_
  obtain⟨z6l,hz6,h⟩:=ah h
  obtain⟨n6,hN6⟩:=a4 hz6
  clear hz6
  refine bp 2 (fun e C=>∃(x23:Int),ref03_token_k5 x1 x2 x23=some r/\At [(0,aj x1),(1,Pr.i64 x2),(7,Pr.i64 x23)] [] e C) ?_ ?_
  ·rintro e C ⟨x23,h,hat5⟩
   refine W_at hat5 ?_
   clear hat5
   unfold ref03_token_k5 at h
   refine aw ?_
   refine W_rs ?_
   refine rq (out:=Pr.i64 x23) ag ?_
   refine rq (out:=Pr.bool (decide (x23>20))) qInt ?_
   refine au (b:=decide (x23>20)) rfl (fun hc33=> ?_) (fun hc33=> ?_)
   ·replace h:=iteT hc33 h
    refine W_rs ?_
    refine rq (out:=Pr.i64 0) ae ?_
    refine rq (out:=Pr.i64 0) ae ?_
    refine rq (out:=Pr.i64 2) ae ?_
    obtain rfl:=Option.some.inj h
    exact bb ⟨rfl,aa⟩
   replace h:=iteF hc33 h
   refine av ?_
   refine W_rs ?_
   refine rq (out:=aj x1) ag ?_
   refine rq (out:=Pr.i64 x2) ag ?_
   refine rq (out:=Pr.i64 x2) ag ?_
   refine rq (out:=Pr.i64 x23) ag ?_
   refine rq (out:=Pr.i64 (w64 (x2+x23))) qInt ?_
   obtain⟨x34,hx34,h⟩:=ah h
   refine rq (out:=aj x34) (qSubLH Tryz.underlying9 hx34) ?_
   obtain⟨x35,hx35,h⟩:=ah h
   refine rq (out:=Pr.bool x35) (br (ref03_Kept_ok x34 _ hx35)) ?_
   refine rq (out:=Pr.bool x35) ae ?_
   refine aw ?_
   refine W_rs ?_
   refine rq (out:=Pr.bool x35) ag ?_
   refine au (b:=x35) rfl (fun hc36=> ?_) (fun hc36=> ?_)
   ·replace h:=iteT hc36 h
    refine W_rs ?_
    refine rq (out:=Pr.i64 x23) ag ?_
    refine rq (out:=Pr.i64 3) ae ?_
    refine rq (out:=Pr.i64 x23) ae ?_
    refine rq (out:=Pr.i64 0) ae ?_
    obtain rfl:=Option.some.inj h
    exact bb ⟨rfl,aa⟩
   replace h:=iteF hc36 h
   refine av ?_
   refine W_rs ?_
   refine rq (out:=Pr.i64 x23) ag ?_
   refine rq (out:=Pr.i64 1) ae ?_
   refine rq (out:=Pr.i64 x23) ae ?_
   refine rq (out:=Pr.i64 0) ae ?_
   obtain rfl:=Option.some.inj h
   exact bb ⟨rfl,aa⟩
  refine cd (fun m e C=>∃(x23:Int),cz (fun s=>i7 x2 x1 s) m x23=some z6l/\At [(0,aj x1),(1,Pr.i64 x2),(7,Pr.i64 x23)] [] e C) n6 ⟨0,hN6,⟨⟨aa,aa,aa,trivial⟩,Pick.refl _⟩⟩ ?_
  clear hN6
  rintro m e C ⟨x23,hN6,hatl6⟩
  refine W_at hatl6 ?_
  clear hatl6
  obtain⟨m6,w6l,rfl,h6l,hn6,ho6⟩:=ay hN6
  clear hN6
  replace h6l:i7 x2 x1 x23=some w6l:=h6l
  unfold i7 at h6l
  refine aw ?_
  refine bg (fun e C=>∃(x31:Bool),km x23 x31=some w6l/\At [(0,aj x1),(1,Pr.i64 x2),(7,Pr.i64 x23),(74,Pr.bool x31)] [] e C) ?_ ?_
  ·rintro e C ⟨x31,h6l,hat7⟩
   refine W_at hat7 ?_
   clear hat7
   unfold km at h6l
   refine au (b:=x31) rfl (fun hc32=> ?_) (fun hc32=> ?_)
   ·replace h6l:=iteT hc32 h6l
    refine av ?_
    refine ar ?_
    refine W_r ?_
    refine rq (out:=Pr.i64 x23) ag ?_
    refine rq (out:=Pr.i64 (w64 (x23+1))) qInt ?_
    refine rq (out:=Pr.i64 (w64 (x23+1))) ae ?_
    exact⟨m6,Nat.lt_succ_self _,w64 (x23+1),hn6 _ (Option.some.inj h6l).symm,⟨⟨aa,aa,aa,trivial⟩,Pick.refl _⟩⟩
   replace h6l:=iteF hc32 h6l
   refine bw ?_
   obtain rfl:=ho6 _ (Option.some.inj h6l).symm
   exact⟨x23,h,⟨⟨aa,aa,aa,trivial⟩,Pick.refl _⟩⟩
  refine W_r ?_
  refine rq (out:=Pr.i64 x2) ag ?_
  refine rq (out:=Pr.i64 x23) ag ?_
  refine rq (out:=Pr.i64 (w64 (x2+x23))) qInt ?_
  refine rq (out:=aj x1) ag ?_
  refine rq (out:=Pr.i64 (x1.length:Int)) (qLenS rfl Tryz.underlying9) ?_
  refine rq (out:=Pr.bool (decide ((w64 (x2+x23))<(x1.length:Int)))) qInt ?_
  refine rq (out:=Pr.bool (decide ((w64 (x2+x23))<(x1.length:Int)))) ag ?_
  rcases bc h6l with⟨hc25,h6l⟩|⟨hc25,h6l⟩
  ·refine rqg hc25 (out:=aj x1) ag ?_
   refine rqg hc25 (out:=Pr.i64 x2) ag ?_
   refine rqg hc25 (out:=Pr.i64 x23) ag ?_
   refine rqg hc25 (out:=Pr.i64 (w64 (x2+x23))) qInt ?_
   obtain⟨x26,hx26,h6l⟩:=ah h6l
   refine rqg hc25 (out:=Pr.u8 x26) (qIdxS Tryz.underlying9 hx26) ?_
   obtain⟨x27,hx27,h6l⟩:=ah h6l
   refine rqg hc25 (out:=Pr.bool x27) (br (ref03_letter_ok x26 _ hx27)) ?_
   refine rqg hc25 (out:=Pr.bool x27) ag ?_
   rcases bc h6l with⟨hc28,h6l⟩|⟨hc28,h6l⟩
   ·refine rno (neF hc28) ?_
    refine rno (neF hc28) ?_
    refine rno (neF hc28) ?_
    refine rno (neF hc28) ?_
    refine rno (neF hc28) ?_
    refine rno (neF hc28) ?_
    refine rqg hc25 (out:=Pr.bool true) (bo hc28) ?_
    refine rq (out:=Pr.bool true) (bo hc25) ?_
    exact⟨true,h6l,⟨⟨aa,aa,aa,aa,trivial⟩,Pick.refl _⟩⟩
   refine rqg hc28 (out:=aj x1) ag ?_
   refine rqg hc28 (out:=Pr.i64 x2) ag ?_
   refine rqg hc28 (out:=Pr.i64 x23) ag ?_
   refine rqg hc28 (out:=Pr.i64 (w64 (x2+x23))) qInt ?_
   obtain⟨x29,hx29,h6l⟩:=ah h6l
   refine rqg hc28 (out:=Pr.u8 x29) (qIdxS Tryz.underlying9 hx29) ?_
   obtain⟨x30,hx30,h6l⟩:=ah h6l
   refine rqg hc28 (out:=Pr.bool x30) (br (ref03_digit_ok x29 _ hx30)) ?_
   refine rqg hc25 (out:=Pr.bool x30) (az hc28) ?_
   refine rq (out:=Pr.bool x30) (bo hc25) ?_
   exact⟨x30,h6l,⟨⟨aa,aa,aa,aa,trivial⟩,Pick.refl _⟩⟩
  refine rno (neT hc25) ?_
  refine rno (neT hc25) ?_
  refine rno (neT hc25) ?_
  refine rno (neT hc25) ?_
  refine rno (neT hc25) ?_
  refine rno (neT hc25) ?_
  refine rno (neT hc25) ?_
  refine rnoU ?_
  refine rnoU ?_
  refine rnoU ?_
  refine rnoU ?_
  refine rnoU ?_
  refine rnoU ?_
  refine rno (neT hc25) ?_
  refine rq (out:=Pr.bool false) (az hc25) ?_
  exact⟨false,h6l,⟨⟨aa,aa,aa,aa,trivial⟩,Pick.refl _⟩⟩
 replace h:=iteF hc22 h
 refine av ?_
 refine W_rs ?_
 refine rq (out:=aj x1) ag ?_
 refine rq (out:=Pr.i64 x2) ag ?_
 obtain⟨x37,hx37,h⟩:=ah h
 refine rq (out:=Pr.i64 x37) (br (ref03_mark_ok x1 x2 _ hx37)) ?_
 refine rq (out:=Pr.i64 x37) ae ?_
 refine aw ?_
 refine W_rs ?_
 refine rq (out:=Pr.i64 x37) ag ?_
 refine rq (out:=Pr.bool (x37==0)) qInt ?_
 refine au (b:=x37==0) rfl (fun hc38=> ?_) (fun hc38=> ?_)
 ·replace h:=iteT hc38 h
  refine W_rs ?_
  refine rq (out:=Pr.i64 0) ae ?_
  refine rq (out:=Pr.i64 0) ae ?_
  refine rq (out:=Pr.i64 30) ae ?_
  obtain rfl:=Option.some.inj h
  exact bb ⟨rfl,aa⟩
 replace h:=iteF hc38 h
 refine av ?_
 refine W_rs ?_
 refine rq (out:=Pr.i64 x37) ag ?_
 refine rq (out:=Pr.i64 4) ae ?_
 refine rq (out:=Pr.i64 x37) ae ?_
 refine rq (out:=Pr.i64 0) ae ?_
 obtain rfl:=Option.some.inj h
 exact bb ⟨rfl,aa⟩
theorem ref03_Lex_ok (x1:List UInt8) (r:(List ApiToken) × Int × Int) (h:ref03_Lex x1=some r):FnP Tryz.prog 72 [aj x1] (bn [af bi r.1,Pr.i64 r.2.1,Pr.i64 r.2.2]):=by
 refine a7 (n:=66) (rs:=[2,3,4]) Tryz.func72 rfl Tryz.ntmps72 ⟨by decide,Tryz.results72⟩ (by decide) (fun s0=> ?_)
 unfold ref03_Lex at h
 refine W_rs ?_
 refine rq (out:=Pr.is (.slice none 0 0)) ae ?_
 refine rq (out:=Pr.i64 0) ae ?_
 refine rq (out:=Pr.i64 0) ae ?_
 refine aw ?_
 refine W_rs ?_
 refine rq (out:=aj x1) ag ?_
 refine rq (out:=Pr.i64 (x1.length:Int)) (qLenS rfl Tryz.underlying9) ?_
 refine rq (out:=Pr.bool (decide ((x1.length:Int)>1048576))) qInt ?_
 refine au (b:=decide ((x1.length:Int)>1048576)) rfl (fun hc2=> ?_) (fun hc2=> ?_)
 ·replace h:=iteT hc2 h
  refine W_rs ?_
  refine rq (out:=Pr.is (.slice none 0 0)) ae ?_
  refine rq (out:=Pr.i64 0) ae ?_
  refine rq (out:=Pr.i64 2) ae ?_
  obtain rfl:=Option.some.inj h
  exact bb ⟨rfl,tup_le ⟨fk _,aa,aa,trivial⟩⟩
 replace h:=iteF hc2 h
 refine av ?_
 refine W_rs ?_
 refine rq (out:=Pr.is (.slice none 0 0)) ae ?_
 refine W_rs ?_
 refine rq (out:=Pr.i64 0) ae ?_
 refine ar ?_
 obtain⟨n1,hN1⟩:=a4 h
 refine W_nil [5] bi 109 (fun v24=> ?_) ⟨rfl,trivial⟩
 refine cd (fun m e C=>∃(x4:Int),∃(x5:List ApiToken),∃(v3:Value),cz (fun s=>dq x1 s.1 s.2) m (x4,x5)=some r/\At [(0,aj x1),(5,Pr.is v3),(6,Pr.i64 x4)] [Own.vec v3 bi x5 109] e C) n1 ⟨0,[],v24,hN1,⟨⟨aa,aa,aa,trivial⟩,Pick.refl _⟩⟩ ?_
 clear hN1
 rintro m e C ⟨x4,x5,v3,hN1,hatl1⟩
 refine W_at hatl1 ?_
 clear hatl1
 obtain⟨m1,w1l,rfl,h1l,hn1,ho1⟩:=ay hN1
 clear hN1
 replace h1l:dq x1 x4 x5=some w1l:=h1l
 unfold dq at h1l
 refine ar ?_
 refine W_rs ?_
 refine rq (out:=aj x1) ag ?_
 refine rq (out:=Pr.i64 x4) ag ?_
 obtain⟨⟨x9,x10⟩,hx9,h1l⟩:=ah h1l
 refine rq (out:=bn [Pr.i64 x9,Pr.bool x10]) (br (ref03_between_ok x1 x4 _ hx9)) ?_
 refine rq (out:=bn [Pr.i64 x9,Pr.bool x10]) ag ?_
 refine rq (out:=Pr.i64 x9) a6 ?_
 refine rq (out:=Pr.bool x10) a6 ?_
 refine rq (out:=Pr.i64 x9) ae ?_
 refine rq (out:=Pr.bool x10) ae ?_
 refine aw ?_
 refine W_rs ?_
 refine rq (out:=Pr.bool x10) ag ?_
 refine rq (out:=Pr.bool (!x10)) qNot ?_
 refine au (b:= !x10) rfl (fun hc11=> ?_) (fun hc11=> ?_)
 ·replace h1l:=iteT hc11 h1l
  refine W_rs ?_
  refine rq (out:=Pr.i64 x9) ag ?_
  refine rq (out:=Pr.is (.slice none 0 0)) ae ?_
  refine rq (out:=Pr.i64 x9) ae ?_
  refine rq (out:=Pr.i64 32) ae ?_
  have h:some ([],x9,32)=some r:=congrArg some (ho1 _ (Option.some.inj h1l).symm)
  obtain rfl:=Option.some.inj h
  exact bb ⟨rfl,tup_le ⟨fk _,aa,aa,trivial⟩⟩
 replace h1l:=iteF hc11 h1l
 refine av ?_
 refine aw ?_
 refine W_rs ?_
 refine rq (out:=Pr.i64 x9) ag ?_
 refine rq (out:=aj x1) ag ?_
 refine rq (out:=Pr.i64 (x1.length:Int)) (qLenS rfl Tryz.underlying9) ?_
 refine rq (out:=Pr.bool (x9==(x1.length:Int))) qInt ?_
 refine au (b:=x9==(x1.length:Int)) rfl (fun hc12=> ?_) (fun hc12=> ?_)
 ·replace h1l:=iteT hc12 h1l
  refine W_rs ?_
  refine rq (out:=Pr.is v3) ag ?_
  refine rq (out:=Pr.i64 x9) ag ?_
  refine rq (out:=aj x1) ag ?_
  refine rq (out:=Pr.i64 x4) ag ?_
  obtain⟨x13,hx13,h1l⟩:=ah h1l
  refine rq (out:=aj x13) (qSubL Tryz.underlying9 hx13) ?_
  refine rq (out:=(bi).val (ApiToken.mk 5 [] x9 x13)) (ja st109 ⟨(ApiToken.mk 5 [] 0 []),⟨_,rfl,rfl,fun j fd hj hf=>by match j,hj with| 0,h=>exact absurd rfl h| 1,_=>cases hf;rfl| 2,_=>cases hf;rfl| 3,_=>cases hf;rfl|_+4,_=>cases hf⟩,⟨(ApiToken.mk 5 [] x9 []),⟨_,rfl,rfl,fun j fd hj hf=>by match j,hj with| 0,_=>cases hf;rfl| 1,_=>cases hf;rfl| 2,h=>exact absurd rfl h| 3,_=>cases hf;rfl|_+4,_=>cases hf⟩,⟨(ApiToken.mk 5 [] x9 x13),⟨_,rfl,rfl,fun j fd hj hf=>by match j,hj with| 0,_=>cases hf;rfl| 1,_=>cases hf;rfl| 2,_=>cases hf;rfl| 3,h=>exact absurd rfl h|_+4,_=>cases hf⟩,rfl⟩⟩⟩) ?_
  refine rq (out:=af bi ([(ApiToken.mk 5 [] x9 x13)]:List ApiToken)) (bh (R:=bi) (a:=(ApiToken.mk 5 [] x9 x13)) el104 (Nat.le_of_ble_eq_true rfl)) ?_
  obtain⟨x14,hx14,h1l⟩:=ah h1l
  refine cu 0 el104 hx14 (fun v15=> ?_)
  refine rq (out:=Pr.is v15) ae ?_
  refine rq (out:=Pr.i64 0) ae ?_
  refine rq (out:=Pr.i64 0) ae ?_
  have h:some (x14,0,0)=some r:=congrArg some (ho1 _ (Option.some.inj h1l).symm)
  refine W_rel 0 [2] ?_ rfl ⟨rfl,trivial⟩
  obtain rfl:=Option.some.inj h
  exact bb ⟨rfl,aa⟩
 replace h1l:=iteF hc12 h1l
 refine av ?_
 refine W_rs ?_
 refine rq (out:=aj x1) ag ?_
 refine rq (out:=Pr.i64 x9) ag ?_
 obtain⟨⟨x16,x17,x18⟩,hx16,h1l⟩:=ah h1l
 refine rq (out:=bn [Pr.i64 x16,Pr.i64 x17,Pr.i64 x18]) (br (ref03_token_ok x1 x9 _ hx16)) ?_
 refine rq (out:=bn [Pr.i64 x16,Pr.i64 x17,Pr.i64 x18]) ag ?_
 refine rq (out:=Pr.i64 x16) a6 ?_
 refine rq (out:=Pr.i64 x17) a6 ?_
 refine rq (out:=Pr.i64 x18) a6 ?_
 refine rq (out:=Pr.i64 x16) ae ?_
 refine rq (out:=Pr.i64 x17) ae ?_
 refine rq (out:=Pr.i64 x18) ae ?_
 refine aw ?_
 refine W_rs ?_
 refine rq (out:=Pr.i64 x18) ag ?_
 refine rq (out:=Pr.bool (x18 != 0)) qInt ?_
 refine au (b:=x18 != 0) rfl (fun hc19=> ?_) (fun hc19=> ?_)
 ·replace h1l:=iteT hc19 h1l
  refine W_rs ?_
  refine rq (out:=Pr.i64 x9) ag ?_
  refine rq (out:=Pr.i64 x18) ag ?_
  refine rq (out:=Pr.is (.slice none 0 0)) ae ?_
  refine rq (out:=Pr.i64 x9) ae ?_
  refine rq (out:=Pr.i64 x18) ae ?_
  have h:some ([],x9,x18)=some r:=congrArg some (ho1 _ (Option.some.inj h1l).symm)
  obtain rfl:=Option.some.inj h
  exact bb ⟨rfl,tup_le ⟨fk _,aa,aa,trivial⟩⟩
 replace h1l:=iteF hc19 h1l
 refine av ?_
 refine bg (fun e C=>∃(x22:List ApiToken),∃(v23:Value),ref03_Lex_j2 x9 x17 x22=some w1l/\At [(0,aj x1),(5,Pr.is v23),(7,Pr.i64 x9),(10,Pr.i64 x17)] [Own.vec v23 bi x22 109] e C) ?_ ?_
 ·rintro e C ⟨x22,v23,h1l,hat2⟩
  refine W_at hat2 ?_
  clear hat2
  unfold ref03_Lex_j2 at h1l
  refine W_r ?_
  refine rq (out:=Pr.i64 x9) ag ?_
  refine rq (out:=Pr.i64 x17) ag ?_
  refine rq (out:=Pr.i64 (w64 (x9+x17))) qInt ?_
  refine rq (out:=Pr.i64 (w64 (x9+x17))) ae ?_
  exact⟨m1,Nat.lt_succ_self _,w64 (x9+x17),x22,v23,hn1 _ (Option.some.inj h1l).symm,⟨⟨aa,aa,aa,trivial⟩,Pick.refl _⟩⟩
 refine ei 15 hmx (by kernel_rfl) (by kernel_rfl) ?_
 refine qq (out:=Pr.is v3) ag ?_
 refine qq (out:=Pr.i64 x16) ag ?_
 refine qq (out:=aj x1) ag ?_
 refine qq (out:=Pr.i64 x9) ag ?_
 refine qq (out:=Pr.i64 x9) ag ?_
 refine qq (out:=Pr.i64 x17) ag ?_
 refine qq (out:=Pr.i64 (w64 (x9+x17))) qInt ?_
 obtain⟨x20,hx20,h1l⟩:=ah h1l
 refine qq (out:=aj x20) (qSubLH Tryz.underlying9 hx20) ?_
 refine qq (out:=Pr.i64 x9) ag ?_
 refine qq (out:=aj x1) ag ?_
 refine qq (out:=Pr.i64 x4) ag ?_
 refine qq (out:=Pr.i64 x9) ag ?_
 obtain⟨x21,hx21,h1l⟩:=ah h1l
 refine qq (out:=aj x21) (qSubLH Tryz.underlying9 hx21) ?_
 refine qq (out:=(bi).val (ApiToken.mk x16 x20 x9 x21)) (ja st109 ⟨(ApiToken.mk x16 [] 0 []),⟨_,rfl,rfl,fun j fd hj hf=>by match j,hj with| 0,h=>exact absurd rfl h| 1,_=>cases hf;rfl| 2,_=>cases hf;rfl| 3,_=>cases hf;rfl|_+4,_=>cases hf⟩,⟨(ApiToken.mk x16 x20 0 []),⟨_,rfl,rfl,fun j fd hj hf=>by match j,hj with| 0,_=>cases hf;rfl| 1,h=>exact absurd rfl h| 2,_=>cases hf;rfl| 3,_=>cases hf;rfl|_+4,_=>cases hf⟩,⟨(ApiToken.mk x16 x20 x9 []),⟨_,rfl,rfl,fun j fd hj hf=>by match j,hj with| 0,_=>cases hf;rfl| 1,_=>cases hf;rfl| 2,h=>exact absurd rfl h| 3,_=>cases hf;rfl|_+4,_=>cases hf⟩,⟨(ApiToken.mk x16 x20 x9 x21),⟨_,rfl,rfl,fun j fd hj hf=>by match j,hj with| 0,_=>cases hf;rfl| 1,_=>cases hf;rfl| 2,_=>cases hf;rfl| 3,h=>exact absurd rfl h|_+4,_=>cases hf⟩,rfl⟩⟩⟩⟩) ?_
 refine qq (out:=af bi ([(ApiToken.mk x16 x20 x9 x21)]:List ApiToken)) (bh (R:=bi) (a:=(ApiToken.mk x16 x20 x9 x21)) el104 (Nat.le_of_ble_eq_true rfl)) ?_
 obtain⟨x22,hx22,h1l⟩:=ah h1l
 refine cu 0 el104 hx22 (fun v23=> ?_)
 refine rq (out:=Pr.is v23) ae ?_
 exact⟨x22,v23,h1l,⟨⟨aa,aa,aa,aa,trivial⟩,Pick.refl _⟩⟩
end Go.Proofs.YtphkaogfinjbjaaGreatDoor
