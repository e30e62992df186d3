/- The code comes to what these functions say (printed by wip/gen/gen.py). -/
import Derived.Test.YtgkcoicaopilhaaGreatDoorZP2
import Derived.Test.YtgkcoicaopilhaaGreatDoorZT
set_option linter.unusedSimpArgs false
set_option linter.unusedVariables false
set_option linter.unusedSectionVars false
set_option linter.unusedSectionVars false
set_option maxRecDepth 100000
set_option maxHeartbeats 4000000
namespace Go.Proofs.YtgkcoicaopilhaaGreatDoor
open Go Go.Cn
theorem ref03_between_ok (x1:List UInt8) (x2:Int) (r:Int × Bool) (h:ref03_between x1 x2=some r):FnP Tryz.prog 55 [ai x1,Pr.i64 x2] (bh [Pr.i64 r.1,Pr.bool r.2]):=by
 refine bo (n:=103) (rs:=[4,5]) Tryz.func55 rfl Tryz.ntmps55 ⟨by decide,Tryz.results55⟩ (by decide) (fun s0=> ?_)
 unfold ref03_between at h
 refine W_rs ?_
 refine rq (out:=Pr.i64 0) ae ?_
 refine rq (out:=Pr.bool false) ae ?_
 refine a5 ?_
 refine az ?_
 obtain⟨z2l,hz2,h⟩:=af h
 obtain⟨n2,hN2⟩:=cc hz2
 clear hz2
 refine du 0 (fun e C=>∃(x3:Int),nb x3=some r/\At [(1,Pr.i64 x3)] [] e C) ?_ ?_
 ·rintro e C ⟨x3,h,hat1⟩
  refine W_at hat1 ?_
  clear hat1
  unfold nb at h
  refine W_rs ?_
  refine rq (out:=Pr.i64 x3) ag ?_
  refine rq (out:=Pr.i64 x3) ae ?_
  refine rq (out:=Pr.bool true) ae ?_
  obtain rfl:=Option.some.inj h
  exact a6 ⟨rfl,aa⟩
 refine eh (fun m e C=>∃(x3:Int),en (fun s=>cm x1 s) m x3=some z2l/\At [(0,ai x1),(1,Pr.i64 x3)] [] e C) n2 ⟨x2,hN2,⟨⟨aa,aa,trivial⟩,Pick.refl _⟩⟩ ?_
 clear hN2
 rintro m e C ⟨x3,hN2,hatl2⟩
 refine W_at hatl2 ?_
 clear hatl2
 obtain⟨m2,w2l,rfl,h2l,hn2,ho2⟩:=bx hN2
 clear hN2
 replace h2l:cm x1 x3=some w2l:=h2l
 unfold cm at h2l
 refine a5 ?_
 refine W_rs ?_
 refine rq (out:=Pr.i64 x3) ag ?_
 refine rq (out:=ai x1) ag ?_
 refine rq (out:=Pr.i64 (x1.length:Int)) (qLenS rfl Tryz.underlying9) ?_
 refine rq (out:=Pr.bool (decide (x3<(x1.length:Int)))) qInt ?_
 refine ao (b:=decide (x3<(x1.length:Int))) rfl (fun hc5=> ?_) (fun hc5=> ?_)
 ·replace h2l:=iteT hc5 h2l
  refine au ?_
  refine az ?_
  refine W_rs ?_
  refine rq (out:=ai x1) ag ?_
  refine rq (out:=Pr.i64 x3) ag ?_
  obtain⟨x6,hx6,h2l⟩:=af h2l
  refine rq (out:=Pr.u8 x6) (qIdxS Tryz.underlying9 hx6) ?_
  refine rq (out:=Pr.u8 x6) ae ?_
  refine a5 ?_
  refine bc (fun e C=>∃(x14:Bool),dr x3 x1 x6 x14=some w2l/\At [(0,ai x1),(1,Pr.i64 x3),(6,Pr.u8 x6),(28,Pr.bool x14)] [] e C) ?_ ?_
  ·rintro e C ⟨x14,h2l,hat10⟩
   refine W_at hat10 ?_
   clear hat10
   unfold dr at h2l
   refine ao (b:=x14) rfl (fun hc15=> ?_) (fun hc15=> ?_)
   ·replace h2l:=iteT hc15 h2l
    refine W_rs ?_
    refine rq (out:=Pr.i64 x3) ag ?_
    refine rq (out:=Pr.i64 (w64 (x3+1))) qInt ?_
    refine rq (out:=Pr.i64 (w64 (x3+1))) ae ?_
    refine dg ?_
    exact⟨m2,Nat.lt_succ_self _,w64 (x3+1),hn2 _ (Option.some.inj h2l).symm,⟨⟨aa,aa,trivial⟩,Pick.refl _⟩⟩
   replace h2l:=iteF hc15 h2l
   refine au ?_
   refine a5 ?_
   refine bc (fun e C=>∃(x25:Bool),ep x3 x1 x25=some w2l/\At [(0,ai x1),(1,Pr.i64 x3),(53,Pr.bool x25)] [] e C) ?_ ?_
   ·rintro e C ⟨x25,h2l,hat9⟩
    refine W_at hat9 ?_
    clear hat9
    unfold ep at h2l
    refine ao (b:=x25) rfl (fun hc26=> ?_) (fun hc26=> ?_)
    ·replace h2l:=iteT hc26 h2l
     refine W_rs ?_
     refine rq (out:=Pr.i64 x3) ag ?_
     refine rq (out:=Pr.i64 x3) ae ?_
     refine rq (out:=Pr.bool true) ae ?_
     obtain rfl:=ho2 _ (Option.some.inj h2l).symm
     replace h:some (x3,true)=some r:=h
     obtain rfl:=Option.some.inj h
     exact a6 ⟨rfl,aa⟩
    replace h2l:=iteF hc26 h2l
    refine au ?_
    refine a5 ?_
    refine W_rs ?_
    refine rq (out:=ai x1) ag ?_
    refine rq (out:=Pr.i64 x3) ag ?_
    refine rq (out:=Pr.i64 (w64 (x3+1))) qInt ?_
    obtain⟨x27,hx27,h2l⟩:=af h2l
    refine rq (out:=Pr.u8 x27) (qIdxS Tryz.underlying9 hx27) ?_
    refine rq (out:=Pr.bool (x27==47)) qInt ?_
    refine ao (b:=x27==47) rfl (fun hc28=> ?_) (fun hc28=> ?_)
    ·replace h2l:=iteT hc28 h2l
     refine a5 ?_
     refine az ?_
     obtain⟨z4l,hz4,h2l⟩:=af h2l
     obtain⟨n4,hN4⟩:=cc hz4
     clear hz4
     refine du 2 (fun e C=>∃(x29:Int),ref03_between_k3 x29=some w2l/\At [(0,ai x1),(1,Pr.i64 x29)] [] e C) ?_ ?_
     ·rintro e C ⟨x29,h2l,hat3⟩
      refine W_at hat3 ?_
      clear hat3
      unfold ref03_between_k3 at h2l
      refine dg ?_
      exact⟨m2,Nat.lt_succ_self _,x29,hn2 _ (Option.some.inj h2l).symm,⟨⟨aa,aa,trivial⟩,Pick.refl _⟩⟩
     refine eh (fun m e C=>∃(x29:Int),en (fun s=>gk x1 s) m x29=some z4l/\At [(0,ai x1),(1,Pr.i64 x29)] [] e C) n4 ⟨x3,hN4,⟨⟨aa,aa,trivial⟩,Pick.refl _⟩⟩ ?_
     clear hN4
     rintro m e C ⟨x29,hN4,hatl4⟩
     refine W_at hatl4 ?_
     clear hatl4
     obtain⟨m4,w4l,rfl,h4l,hn4,ho4⟩:=bx hN4
     clear hN4
     replace h4l:gk x1 x29=some w4l:=h4l
     unfold gk at h4l
     refine a5 ?_
     refine bc (fun e C=>∃(x33:Bool),ka x29 x33=some w4l/\At [(0,ai x1),(1,Pr.i64 x29),(69,Pr.bool x33)] [] e C) ?_ ?_
     ·rintro e C ⟨x33,h4l,hat5⟩
      refine W_at hat5 ?_
      clear hat5
      unfold ka at h4l
      refine ao (b:=x33) rfl (fun hc34=> ?_) (fun hc34=> ?_)
      ·replace h4l:=iteT hc34 h4l
       refine au ?_
       refine az ?_
       refine W_r ?_
       refine rq (out:=Pr.i64 x29) ag ?_
       refine rq (out:=Pr.i64 (w64 (x29+1))) qInt ?_
       refine rq (out:=Pr.i64 (w64 (x29+1))) ae ?_
       exact⟨m4,Nat.lt_succ_self _,w64 (x29+1),hn4 _ (Option.some.inj h4l).symm,⟨⟨aa,aa,trivial⟩,Pick.refl _⟩⟩
      replace h4l:=iteF hc34 h4l
      refine dg ?_
      obtain rfl:=ho4 _ (Option.some.inj h4l).symm
      exact⟨x29,h2l,⟨⟨aa,aa,trivial⟩,Pick.refl _⟩⟩
     refine W_r ?_
     refine rq (out:=Pr.i64 x29) ag ?_
     refine rq (out:=ai x1) ag ?_
     refine rq (out:=Pr.i64 (x1.length:Int)) (qLenS rfl Tryz.underlying9) ?_
     refine rq (out:=Pr.bool (decide (x29<(x1.length:Int)))) qInt ?_
     refine rq (out:=Pr.bool (decide (x29<(x1.length:Int)))) ag ?_
     rcases bv h4l with⟨hc31,h4l⟩|⟨hc31,h4l⟩
     ·refine rqg hc31 (out:=ai x1) ag ?_
      refine rqg hc31 (out:=Pr.i64 x29) ag ?_
      obtain⟨x32,hx32,h4l⟩:=af h4l
      refine rqg hc31 (out:=Pr.u8 x32) (qIdxS Tryz.underlying9 hx32) ?_
      refine rqg hc31 (out:=Pr.bool (x32 != 10)) qInt ?_
      refine rq (out:=Pr.bool (x32 != 10)) (bu hc31) ?_
      exact⟨x32 != 10,h4l,⟨⟨aa,aa,aa,trivial⟩,Pick.refl _⟩⟩
     refine rno (neT hc31) ?_
     refine rno (neT hc31) ?_
     refine rno (neT hc31) ?_
     refine rno (neT hc31) ?_
     refine rq (out:=Pr.bool false) (bp hc31) ?_
     exact⟨false,h4l,⟨⟨aa,aa,aa,trivial⟩,Pick.refl _⟩⟩
    replace h2l:=iteF hc28 h2l
    refine au ?_
    refine W_rs ?_
    refine rq (out:=Pr.i64 x3) ag ?_
    refine rq (out:=Pr.i64 (w64 (x3+2))) qInt ?_
    refine rq (out:=Pr.i64 (w64 (x3+2))) ae ?_
    refine a5 ?_
    refine az ?_
    obtain⟨z7l,hz7,h2l⟩:=af h2l
    obtain⟨n7,hN7⟩:=cc hz7
    clear hz7
    refine du 4 (fun e C=>∃(x35:Int),j9 x1 x3 x35=some w2l/\At [(0,ai x1),(1,Pr.i64 x3),(7,Pr.i64 x35)] [] e C) ?_ ?_
    ·rintro e C ⟨x35,h2l,hat6⟩
     refine W_at hat6 ?_
     clear hat6
     unfold j9 at h2l
     refine a5 ?_
     refine W_rs ?_
     refine rq (out:=Pr.i64 x35) ag ?_
     refine rq (out:=Pr.i64 (w64 (x35+1))) qInt ?_
     refine rq (out:=ai x1) ag ?_
     refine rq (out:=Pr.i64 (x1.length:Int)) (qLenS rfl Tryz.underlying9) ?_
     refine rq (out:=Pr.bool (decide ((w64 (x35+1))≥(x1.length:Int)))) qInt ?_
     refine ao (b:=decide ((w64 (x35+1))≥(x1.length:Int))) rfl (fun hc43=> ?_) (fun hc43=> ?_)
     ·replace h2l:=iteT hc43 h2l
      refine W_rs ?_
      refine rq (out:=Pr.i64 x3) ag ?_
      refine rq (out:=Pr.i64 x3) ae ?_
      refine rq (out:=Pr.bool false) ae ?_
      obtain rfl:=ho2 _ (Option.some.inj h2l).symm
      replace h:some (x3,false)=some r:=h
      obtain rfl:=Option.some.inj h
      exact a6 ⟨rfl,aa⟩
     replace h2l:=iteF hc43 h2l
     refine au ?_
     refine W_r ?_
     refine rq (out:=Pr.i64 x35) ag ?_
     refine rq (out:=Pr.i64 (w64 (x35+2))) qInt ?_
     refine rq (out:=Pr.i64 (w64 (x35+2))) ae ?_
     exact⟨m2,Nat.lt_succ_self _,w64 (x35+2),hn2 _ (Option.some.inj h2l).symm,⟨⟨aa,aa,trivial⟩,Pick.refl _⟩⟩
    refine eh (fun m e C=>∃(x35:Int),en (fun s=>gi x1 s) m x35=some z7l/\At [(0,ai x1),(1,Pr.i64 x3),(7,Pr.i64 x35)] [] e C) n7 ⟨w64 (x3+2),hN7,⟨⟨aa,aa,aa,trivial⟩,Pick.refl _⟩⟩ ?_
    clear hN7
    rintro m e C ⟨x35,hN7,hatl7⟩
    refine W_at hatl7 ?_
    clear hatl7
    obtain⟨m7,w7l,rfl,h7l,hn7,ho7⟩:=bx hN7
    clear hN7
    replace h7l:gi x1 x35=some w7l:=h7l
    unfold gi at h7l
    refine a5 ?_
    refine bc (fun e C=>∃(x41:Bool),im x35 x41=some w7l/\At [(0,ai x1),(1,Pr.i64 x3),(7,Pr.i64 x35),(91,Pr.bool x41)] [] e C) ?_ ?_
    ·rintro e C ⟨x41,h7l,hat8⟩
     refine W_at hat8 ?_
     clear hat8
     unfold im at h7l
     refine ao (b:=x41) rfl (fun hc42=> ?_) (fun hc42=> ?_)
     ·replace h7l:=iteT hc42 h7l
      refine au ?_
      refine az ?_
      refine W_r ?_
      refine rq (out:=Pr.i64 x35) ag ?_
      refine rq (out:=Pr.i64 (w64 (x35+1))) qInt ?_
      refine rq (out:=Pr.i64 (w64 (x35+1))) ae ?_
      exact⟨m7,Nat.lt_succ_self _,w64 (x35+1),hn7 _ (Option.some.inj h7l).symm,⟨⟨aa,aa,aa,trivial⟩,Pick.refl _⟩⟩
     replace h7l:=iteF hc42 h7l
     refine dg ?_
     obtain rfl:=ho7 _ (Option.some.inj h7l).symm
     exact⟨x35,h2l,⟨⟨aa,aa,aa,trivial⟩,Pick.refl _⟩⟩
    refine W_r ?_
    refine rq (out:=Pr.i64 x35) ag ?_
    refine rq (out:=Pr.i64 (w64 (x35+1))) qInt ?_
    refine rq (out:=ai x1) ag ?_
    refine rq (out:=Pr.i64 (x1.length:Int)) (qLenS rfl Tryz.underlying9) ?_
    refine rq (out:=Pr.bool (decide ((w64 (x35+1))<(x1.length:Int)))) qInt ?_
    refine rq (out:=Pr.bool (decide ((w64 (x35+1))<(x1.length:Int)))) ag ?_
    rcases bv h7l with⟨hc37,h7l⟩|⟨hc37,h7l⟩
    ·refine rqg hc37 (out:=ai x1) ag ?_
     refine rqg hc37 (out:=Pr.i64 x35) ag ?_
     obtain⟨x38,hx38,h7l⟩:=af h7l
     refine rqg hc37 (out:=Pr.u8 x38) (qIdxS Tryz.underlying9 hx38) ?_
     refine rqg hc37 (out:=Pr.bool (x38 != 42)) qInt ?_
     refine rqg hc37 (out:=Pr.bool (x38 != 42)) ag ?_
     rcases bv h7l with⟨hc39,h7l⟩|⟨hc39,h7l⟩
     ·refine rno (neF hc39) ?_
      refine rno (neF hc39) ?_
      refine rno (neF hc39) ?_
      refine rno (neF hc39) ?_
      refine rno (neF hc39) ?_
      refine rqg hc37 (out:=Pr.bool true) (bu hc39) ?_
      refine rq (out:=Pr.bool true) (bu hc37) ?_
      exact⟨true,h7l,⟨⟨aa,aa,aa,aa,trivial⟩,Pick.refl _⟩⟩
     refine rqg hc39 (out:=ai x1) ag ?_
     refine rqg hc39 (out:=Pr.i64 x35) ag ?_
     refine rqg hc39 (out:=Pr.i64 (w64 (x35+1))) qInt ?_
     obtain⟨x40,hx40,h7l⟩:=af h7l
     refine rqg hc39 (out:=Pr.u8 x40) (qIdxS Tryz.underlying9 hx40) ?_
     refine rqg hc39 (out:=Pr.bool (x40 != 47)) qInt ?_
     refine rqg hc37 (out:=Pr.bool (x40 != 47)) (bp hc39) ?_
     refine rq (out:=Pr.bool (x40 != 47)) (bu hc37) ?_
     exact⟨x40 != 47,h7l,⟨⟨aa,aa,aa,aa,trivial⟩,Pick.refl _⟩⟩
    refine rno (neT hc37) ?_
    refine rno (neT hc37) ?_
    refine rno (neT hc37) ?_
    refine rno (neT hc37) ?_
    refine rno (neT hc37) ?_
    refine rnoU ?_
    refine rnoU ?_
    refine rnoU ?_
    refine rnoU ?_
    refine rnoU ?_
    refine rno (neT hc37) ?_
    refine rq (out:=Pr.bool false) (bp hc37) ?_
    exact⟨false,h7l,⟨⟨aa,aa,aa,aa,trivial⟩,Pick.refl _⟩⟩
   refine W_r ?_
   refine rq (out:=Pr.i64 x3) ag ?_
   refine rq (out:=Pr.i64 (w64 (x3+1))) qInt ?_
   refine rq (out:=ai x1) ag ?_
   refine rq (out:=Pr.i64 (x1.length:Int)) (qLenS rfl Tryz.underlying9) ?_
   refine rq (out:=Pr.bool (decide ((w64 (x3+1))≥(x1.length:Int)))) qInt ?_
   refine rq (out:=Pr.bool (decide ((w64 (x3+1))≥(x1.length:Int)))) ag ?_
   rcases bv h2l with⟨hc16,h2l⟩|⟨hc16,h2l⟩
   ·refine rno (neF hc16) ?_
    refine rno (neF hc16) ?_
    refine rq (out:=Pr.bool true) (bu hc16) ?_
    refine rq (out:=Pr.bool true) ag ?_
    have hc21:true=true:=rfl
    refine rno (neF hc21) ?_
    refine rno (neF hc21) ?_
    refine rno (neF hc21) ?_
    refine rno (neF hc21) ?_
    refine rno (neF hc21) ?_
    refine rno (neF hc21) ?_
    refine rnoU ?_
    refine rnoU ?_
    refine rnoU ?_
    refine rnoU ?_
    refine rnoU ?_
    refine rno (neF hc21) ?_
    refine rq (out:=Pr.bool true) (bu hc21) ?_
    exact⟨true,h2l,⟨⟨aa,aa,aa,trivial⟩,Pick.refl _⟩⟩
   refine rqg hc16 (out:=Pr.u8 x6) ag ?_
   refine rqg hc16 (out:=Pr.bool (x6 != 47)) qInt ?_
   refine rq (out:=Pr.bool (x6 != 47)) (bp hc16) ?_
   refine rq (out:=Pr.bool (x6 != 47)) ag ?_
   rcases bv h2l with⟨hc17,h2l⟩|⟨hc17,h2l⟩
   ·refine rno (neF hc17) ?_
    refine rno (neF hc17) ?_
    refine rno (neF hc17) ?_
    refine rno (neF hc17) ?_
    refine rno (neF hc17) ?_
    refine rno (neF hc17) ?_
    refine rnoU ?_
    refine rnoU ?_
    refine rnoU ?_
    refine rnoU ?_
    refine rnoU ?_
    refine rno (neF hc17) ?_
    refine rq (out:=Pr.bool true) (bu hc17) ?_
    exact⟨true,h2l,⟨⟨aa,aa,aa,trivial⟩,Pick.refl _⟩⟩
   refine rqg hc17 (out:=ai x1) ag ?_
   refine rqg hc17 (out:=Pr.i64 x3) ag ?_
   refine rqg hc17 (out:=Pr.i64 (w64 (x3+1))) qInt ?_
   obtain⟨x18,hx18,h2l⟩:=af h2l
   refine rqg hc17 (out:=Pr.u8 x18) (qIdxS Tryz.underlying9 hx18) ?_
   refine rqg hc17 (out:=Pr.bool (x18 != 47)) qInt ?_
   refine rqg hc17 (out:=Pr.bool (x18 != 47)) ag ?_
   rcases bv h2l with⟨hc19,h2l⟩|⟨hc19,h2l⟩
   ·refine rqg hc19 (out:=ai x1) ag ?_
    refine rqg hc19 (out:=Pr.i64 x3) ag ?_
    refine rqg hc19 (out:=Pr.i64 (w64 (x3+1))) qInt ?_
    obtain⟨x20,hx20,h2l⟩:=af h2l
    refine rqg hc19 (out:=Pr.u8 x20) (qIdxS Tryz.underlying9 hx20) ?_
    refine rqg hc19 (out:=Pr.bool (x20 != 42)) qInt ?_
    refine rqg hc17 (out:=Pr.bool (x20 != 42)) (bu hc19) ?_
    refine rq (out:=Pr.bool (x20 != 42)) (bp hc17) ?_
    exact⟨x20 != 42,h2l,⟨⟨aa,aa,aa,trivial⟩,Pick.refl _⟩⟩
   refine rno (neT hc19) ?_
   refine rno (neT hc19) ?_
   refine rno (neT hc19) ?_
   refine rno (neT hc19) ?_
   refine rno (neT hc19) ?_
   refine rqg hc17 (out:=Pr.bool false) (bp hc19) ?_
   refine rq (out:=Pr.bool false) (bp hc17) ?_
   exact⟨false,h2l,⟨⟨aa,aa,aa,trivial⟩,Pick.refl _⟩⟩
  refine W_r ?_
  refine rq (out:=Pr.u8 x6) ag ?_
  refine rq (out:=Pr.bool (x6==32)) qInt ?_
  refine rq (out:=Pr.bool (x6==32)) ag ?_
  rcases bv h2l with⟨hc7,h2l⟩|⟨hc7,h2l⟩
  ·refine rno (neF hc7) ?_
   refine rno (neF hc7) ?_
   refine rq (out:=Pr.bool true) (bu hc7) ?_
   refine rq (out:=Pr.bool true) ag ?_
   have hc11:true=true:=rfl
   refine rno (neF hc11) ?_
   refine rno (neF hc11) ?_
   refine rq (out:=Pr.bool true) (bu hc11) ?_
   refine rq (out:=Pr.bool true) ag ?_
   have hc13:true=true:=rfl
   refine rno (neF hc13) ?_
   refine rno (neF hc13) ?_
   refine rq (out:=Pr.bool true) (bu hc13) ?_
   exact⟨true,h2l,⟨⟨aa,aa,aa,aa,trivial⟩,Pick.refl _⟩⟩
  refine rqg hc7 (out:=Pr.u8 x6) ag ?_
  refine rqg hc7 (out:=Pr.bool (x6==9)) qInt ?_
  refine rq (out:=Pr.bool (x6==9)) (bp hc7) ?_
  refine rq (out:=Pr.bool (x6==9)) ag ?_
  rcases bv h2l with⟨hc8,h2l⟩|⟨hc8,h2l⟩
  ·refine rno (neF hc8) ?_
   refine rno (neF hc8) ?_
   refine rq (out:=Pr.bool true) (bu hc8) ?_
   refine rq (out:=Pr.bool true) ag ?_
   have hc10:true=true:=rfl
   refine rno (neF hc10) ?_
   refine rno (neF hc10) ?_
   refine rq (out:=Pr.bool true) (bu hc10) ?_
   exact⟨true,h2l,⟨⟨aa,aa,aa,aa,trivial⟩,Pick.refl _⟩⟩
  refine rqg hc8 (out:=Pr.u8 x6) ag ?_
  refine rqg hc8 (out:=Pr.bool (x6==10)) qInt ?_
  refine rq (out:=Pr.bool (x6==10)) (bp hc8) ?_
  refine rq (out:=Pr.bool (x6==10)) ag ?_
  rcases bv h2l with⟨hc9,h2l⟩|⟨hc9,h2l⟩
  ·refine rno (neF hc9) ?_
   refine rno (neF hc9) ?_
   refine rq (out:=Pr.bool true) (bu hc9) ?_
   exact⟨true,h2l,⟨⟨aa,aa,aa,aa,trivial⟩,Pick.refl _⟩⟩
  refine rqg hc9 (out:=Pr.u8 x6) ag ?_
  refine rqg hc9 (out:=Pr.bool (x6==13)) qInt ?_
  refine rq (out:=Pr.bool (x6==13)) (bp hc9) ?_
  exact⟨x6==13,h2l,⟨⟨aa,aa,aa,aa,trivial⟩,Pick.refl _⟩⟩
 replace h2l:=iteF hc5 h2l
 refine dg ?_
 obtain rfl:=ho2 _ (Option.some.inj h2l).symm
 exact⟨x3,h,⟨⟨aa,trivial⟩,Pick.refl _⟩⟩
theorem ref03_digit_ok (x1:Int) (r:Bool) (h:lg x1=some r):FnP Tryz.prog 84 [Pr.u8 x1] (Pr.bool r):=by
 refine bo (n:=9) (rs:=[2]) Tryz.func84 rfl Tryz.ntmps84 ⟨by decide,Tryz.results84⟩ (by decide) (fun s0=> ?_)
 unfold lg at h
 refine W_rs ?_
 refine rq (out:=Pr.bool false) ae ?_
 refine bc (fun e C=>∃(x3:Bool),ref03_digit_j1 x3=some r/\At [(2,Pr.bool x3)] [] e C) ?_ ?_
 ·rintro e C ⟨x3,h,hat1⟩
  refine W_at hat1 ?_
  clear hat1
  unfold ref03_digit_j1 at h
  obtain rfl:=Option.some.inj h
  exact a6 ⟨rfl,aa⟩
 refine W_r ?_
 refine rq (out:=Pr.u8 x1) ag ?_
 refine rq (out:=Pr.bool (decide (x1≥48))) qInt ?_
 refine rq (out:=Pr.bool (decide (x1≥48))) ag ?_
 rcases bv h with⟨hc2,h⟩|⟨hc2,h⟩
 ·refine rqg hc2 (out:=Pr.u8 x1) ag ?_
  refine rqg hc2 (out:=Pr.bool (decide (x1<=57))) qInt ?_
  refine rq (out:=Pr.bool (decide (x1<=57))) (bu hc2) ?_
  refine rq (out:=Pr.bool (decide (x1<=57))) ae ?_
  exact⟨decide (x1<=57),h,⟨⟨aa,trivial⟩,Pick.refl _⟩⟩
 refine rno (neT hc2) ?_
 refine rno (neT hc2) ?_
 refine rq (out:=Pr.bool false) (bp hc2) ?_
 refine rq (out:=Pr.bool false) ae ?_
 exact⟨false,h,⟨⟨aa,trivial⟩,Pick.refl _⟩⟩
theorem ref03_great_ok (x1:List UInt8) (r:Bool) (h:ref03_great x1=some r):FnP Tryz.prog 85 [ai x1] (Pr.bool r):=by
 refine bo (n:=24) (rs:=[2]) Tryz.func85 rfl Tryz.ntmps85 ⟨by decide,Tryz.results85⟩ (by decide) (fun s0=> ?_)
 unfold ref03_great at h
 refine W_rs ?_
 refine rq (out:=Pr.bool false) ae ?_
 refine a5 ?_
 refine W_rs ?_
 refine rq (out:=ai x1) ag ?_
 refine rq (out:=Pr.i64 (x1.length:Int)) (qLenS rfl Tryz.underlying9) ?_
 refine rq (out:=Pr.bool (decide ((x1.length:Int)>10))) qInt ?_
 refine ao (b:=decide ((x1.length:Int)>10)) rfl (fun hc2=> ?_) (fun hc2=> ?_)
 ·replace h:=iteT hc2 h
  refine W_rs ?_
  refine rq (out:=Pr.bool true) ae ?_
  obtain rfl:=Option.some.inj h
  exact a6 ⟨rfl,aa⟩
 replace h:=iteF hc2 h
 refine au ?_
 refine W_rs ?_
 refine rq (out:=Pr.i64 0) ae ?_
 refine a5 ?_
 refine W_rs ?_
 refine rq (out:=Pr.i64 0) ae ?_
 refine az ?_
 obtain⟨z2l,hz2,h⟩:=af h
 obtain⟨n2,hN2⟩:=cc hz2
 clear hz2
 refine du 0 (fun e C=>∃(x3:Int),ref03_great_k1 x3=some r/\At [(3,Pr.i64 x3)] [] e C) ?_ ?_
 ·rintro e C ⟨x3,h,hat1⟩
  refine W_at hat1 ?_
  clear hat1
  unfold ref03_great_k1 at h
  refine W_rs ?_
  refine rq (out:=Pr.i64 x3) ag ?_
  refine rq (out:=Pr.bool (decide (x3>2147483647))) qInt ?_
  refine rq (out:=Pr.bool (decide (x3>2147483647))) ae ?_
  obtain rfl:=Option.some.inj h
  exact a6 ⟨rfl,aa⟩
 refine eh (fun m e C=>∃(x3:Int),∃(x4:Int),en (fun s=>kv x1 s.1 s.2) m (x3,x4)=some z2l/\At [(0,ai x1),(3,Pr.i64 x3),(4,Pr.i64 x4)] [] e C) n2 ⟨0,0,hN2,⟨⟨aa,aa,aa,trivial⟩,Pick.refl _⟩⟩ ?_
 clear hN2
 rintro m e C ⟨x3,x4,hN2,hatl2⟩
 refine W_at hatl2 ?_
 clear hatl2
 obtain⟨m2,w2l,rfl,h2l,hn2,ho2⟩:=bx hN2
 clear hN2
 replace h2l:kv x1 x3 x4=some w2l:=h2l
 unfold kv at h2l
 refine a5 ?_
 refine W_rs ?_
 refine rq (out:=Pr.i64 x4) ag ?_
 refine rq (out:=ai x1) ag ?_
 refine rq (out:=Pr.i64 (x1.length:Int)) (qLenS rfl Tryz.underlying9) ?_
 refine rq (out:=Pr.bool (decide (x4<(x1.length:Int)))) qInt ?_
 refine ao (b:=decide (x4<(x1.length:Int))) rfl (fun hc7=> ?_) (fun hc7=> ?_)
 ·replace h2l:=iteT hc7 h2l
  refine au ?_
  refine a5 ?_
  refine az ?_
  refine W_r ?_
  refine rq (out:=Pr.i64 x3) ag ?_
  refine rq (out:=Pr.i64 (w64 (10 * x3))) qInt ?_
  refine rq (out:=ai x1) ag ?_
  refine rq (out:=Pr.i64 x4) ag ?_
  obtain⟨x8,hx8,h2l⟩:=af h2l
  refine rq (out:=Pr.u8 x8) (qIdxS Tryz.underlying9 hx8) ?_
  refine rq (out:=Pr.u8 (IntKind.wrap .u8 (x8 - 48))) qInt ?_
  refine rq (out:=Pr.i64 (w64 (IntKind.wrap .u8 (x8 - 48)))) (qConv Tryz.underlying5 Tryz.underlying3) ?_
  refine rq (out:=Pr.i64 (w64 ((w64 (10 * x3))+(w64 (IntKind.wrap .u8 (x8 - 48)))))) qInt ?_
  refine rq (out:=Pr.i64 (w64 ((w64 (10 * x3))+(w64 (IntKind.wrap .u8 (x8 - 48)))))) ae ?_
  refine W_r ?_
  refine rq (out:=Pr.i64 x4) ag ?_
  refine rq (out:=Pr.i64 (w64 (x4+1))) qInt ?_
  refine rq (out:=Pr.i64 (w64 (x4+1))) ae ?_
  exact⟨m2,Nat.lt_succ_self _,w64 ((w64 (10 * x3))+(w64 (IntKind.wrap .u8 (x8 - 48)))),w64 (x4+1),hn2 _ (Option.some.inj h2l).symm,⟨⟨aa,aa,aa,trivial⟩,Pick.refl _⟩⟩
 replace h2l:=iteF hc7 h2l
 refine dg ?_
 obtain rfl:=ho2 _ (Option.some.inj h2l).symm
 exact⟨x3,h,⟨⟨aa,trivial⟩,Pick.refl _⟩⟩
theorem ref03_letter_ok (x1:Int) (r:Bool) (h:lk x1=some r):FnP Tryz.prog 86 [Pr.u8 x1] (Pr.bool r):=by
 refine bo (n:=21) (rs:=[2]) Tryz.func86 rfl Tryz.ntmps86 ⟨by decide,Tryz.results86⟩ (by decide) (fun s0=> ?_)
 unfold lk at h
 refine W_rs ?_
 refine rq (out:=Pr.bool false) ae ?_
 refine bc (fun e C=>∃(x13:Bool),fc x13=some r/\At [(2,Pr.bool x13)] [] e C) ?_ ?_
 ·rintro e C ⟨x13,h,hat1⟩
  refine W_at hat1 ?_
  clear hat1
  unfold fc at h
  obtain rfl:=Option.some.inj h
  exact a6 ⟨rfl,aa⟩
 refine W_r ?_
 refine rq (out:=Pr.u8 x1) ag ?_
 refine rq (out:=Pr.bool (decide (x1≥97))) qInt ?_
 refine rq (out:=Pr.bool (decide (x1≥97))) ag ?_
 rcases bv h with⟨hc2,h⟩|⟨hc2,h⟩
 ·refine rqg hc2 (out:=Pr.u8 x1) ag ?_
  refine rqg hc2 (out:=Pr.bool (decide (x1<=122))) qInt ?_
  refine rq (out:=Pr.bool (decide (x1<=122))) (bu hc2) ?_
  refine rq (out:=Pr.bool (decide (x1<=122))) ag ?_
  rcases bv h with⟨hc3,h⟩|⟨hc3,h⟩
  ·refine rno (neF hc3) ?_
   refine rno (neF hc3) ?_
   refine rno (neF hc3) ?_
   refine rnoU ?_
   refine rnoU ?_
   refine rno (neF hc3) ?_
   refine rq (out:=Pr.bool true) (bu hc3) ?_
   refine rq (out:=Pr.bool true) ag ?_
   have hc7:true=true:=rfl
   refine rno (neF hc7) ?_
   refine rno (neF hc7) ?_
   refine rq (out:=Pr.bool true) (bu hc7) ?_
   refine rq (out:=Pr.bool true) ae ?_
   exact⟨true,h,⟨⟨aa,trivial⟩,Pick.refl _⟩⟩
  refine rqg hc3 (out:=Pr.u8 x1) ag ?_
  refine rqg hc3 (out:=Pr.bool (decide (x1≥65))) qInt ?_
  refine rqg hc3 (out:=Pr.bool (decide (x1≥65))) ag ?_
  rcases bv h with⟨hc4,h⟩|⟨hc4,h⟩
  ·refine rqg hc4 (out:=Pr.u8 x1) ag ?_
   refine rqg hc4 (out:=Pr.bool (decide (x1<=90))) qInt ?_
   refine rqg hc3 (out:=Pr.bool (decide (x1<=90))) (bu hc4) ?_
   refine rq (out:=Pr.bool (decide (x1<=90))) (bp hc3) ?_
   refine rq (out:=Pr.bool (decide (x1<=90))) ag ?_
   rcases bv h with⟨hc5,h⟩|⟨hc5,h⟩
   ·refine rno (neF hc5) ?_
    refine rno (neF hc5) ?_
    refine rq (out:=Pr.bool true) (bu hc5) ?_
    refine rq (out:=Pr.bool true) ae ?_
    exact⟨true,h,⟨⟨aa,trivial⟩,Pick.refl _⟩⟩
   refine rqg hc5 (out:=Pr.u8 x1) ag ?_
   refine rqg hc5 (out:=Pr.bool (x1==95)) qInt ?_
   refine rq (out:=Pr.bool (x1==95)) (bp hc5) ?_
   refine rq (out:=Pr.bool (x1==95)) ae ?_
   exact⟨x1==95,h,⟨⟨aa,trivial⟩,Pick.refl _⟩⟩
  refine rno (neT hc4) ?_
  refine rno (neT hc4) ?_
  refine rqg hc3 (out:=Pr.bool false) (bp hc4) ?_
  refine rq (out:=Pr.bool false) (bp hc3) ?_
  refine rq (out:=Pr.bool false) ag ?_
  have hc6:false=false:=rfl
  refine rqg hc6 (out:=Pr.u8 x1) ag ?_
  refine rqg hc6 (out:=Pr.bool (x1==95)) qInt ?_
  refine rq (out:=Pr.bool (x1==95)) (bp hc6) ?_
  refine rq (out:=Pr.bool (x1==95)) ae ?_
  exact⟨x1==95,h,⟨⟨aa,trivial⟩,Pick.refl _⟩⟩
 refine rno (neT hc2) ?_
 refine rno (neT hc2) ?_
 refine rq (out:=Pr.bool false) (bp hc2) ?_
 refine rq (out:=Pr.bool false) ag ?_
 have hc8:false=false:=rfl
 refine rqg hc8 (out:=Pr.u8 x1) ag ?_
 refine rqg hc8 (out:=Pr.bool (decide (x1≥65))) qInt ?_
 refine rqg hc8 (out:=Pr.bool (decide (x1≥65))) ag ?_
 rcases bv h with⟨hc9,h⟩|⟨hc9,h⟩
 ·refine rqg hc9 (out:=Pr.u8 x1) ag ?_
  refine rqg hc9 (out:=Pr.bool (decide (x1<=90))) qInt ?_
  refine rqg hc8 (out:=Pr.bool (decide (x1<=90))) (bu hc9) ?_
  refine rq (out:=Pr.bool (decide (x1<=90))) (bp hc8) ?_
  refine rq (out:=Pr.bool (decide (x1<=90))) ag ?_
  rcases bv h with⟨hc10,h⟩|⟨hc10,h⟩
  ·refine rno (neF hc10) ?_
   refine rno (neF hc10) ?_
   refine rq (out:=Pr.bool true) (bu hc10) ?_
   refine rq (out:=Pr.bool true) ae ?_
   exact⟨true,h,⟨⟨aa,trivial⟩,Pick.refl _⟩⟩
  refine rqg hc10 (out:=Pr.u8 x1) ag ?_
  refine rqg hc10 (out:=Pr.bool (x1==95)) qInt ?_
  refine rq (out:=Pr.bool (x1==95)) (bp hc10) ?_
  refine rq (out:=Pr.bool (x1==95)) ae ?_
  exact⟨x1==95,h,⟨⟨aa,trivial⟩,Pick.refl _⟩⟩
 refine rno (neT hc9) ?_
 refine rno (neT hc9) ?_
 refine rqg hc8 (out:=Pr.bool false) (bp hc9) ?_
 refine rq (out:=Pr.bool false) (bp hc8) ?_
 refine rq (out:=Pr.bool false) ag ?_
 have hc11:false=false:=rfl
 refine rqg hc11 (out:=Pr.u8 x1) ag ?_
 refine rqg hc11 (out:=Pr.bool (x1==95)) qInt ?_
 refine rq (out:=Pr.bool (x1==95)) (bp hc11) ?_
 refine rq (out:=Pr.bool (x1==95)) ae ?_
 exact⟨x1==95,h,⟨⟨aa,trivial⟩,Pick.refl _⟩⟩
theorem ref03_Kept_ok (x1:List UInt8) (r:Bool) (h:ref03_Kept x1=some r):FnP Tryz.prog 87 [ai x1] (Pr.bool r):=by
 refine bo (n:=18) (rs:=[2]) Tryz.func87 rfl Tryz.ntmps87 ⟨by decide,Tryz.results87⟩ (by decide) (fun s0=> ?_)
 unfold ref03_Kept at h
 refine W_rs ?_
 refine rq (out:=Pr.bool false) ae ?_
 refine W_rs ?_
 refine rq (out:=aj am ([([99,108,97,115,115]:List UInt8),([101,120,116,101,110,100,115]:List UInt8),([115,116,97,116,105,99]:List UInt8),([118,111,105,100]:List UInt8),([105,110,116]:List UInt8),([98,111,111,108,101,97,110]:List UInt8),([105,102]:List UInt8),([101,108,115,101]:List UInt8),([119,104,105,108,101]:List UInt8),([114,101,116,117,114,110]:List UInt8),([112,114,105,110,116]:List UInt8),([116,114,117,101]:List UInt8),([102,97,108,115,101]:List UInt8),([110,117,108,108]:List UInt8),([116,104,105,115]:List UInt8),([110,101,119]:List UInt8)]:List (List UInt8))) (fo (R:=am) (ls:=([([99,108,97,115,115]:List UInt8),([101,120,116,101,110,100,115]:List UInt8),([115,116,97,116,105,99]:List UInt8),([118,111,105,100]:List UInt8),([105,110,116]:List UInt8),([98,111,111,108,101,97,110]:List UInt8),([105,102]:List UInt8),([101,108,115,101]:List UInt8),([119,104,105,108,101]:List UInt8),([114,101,116,117,114,110]:List UInt8),([112,114,105,110,116]:List UInt8),([116,114,117,101]:List UInt8),([102,97,108,115,101]:List UInt8),([110,117,108,108]:List UInt8),([116,104,105,115]:List UInt8),([110,101,119]:List UInt8)]:List (List UInt8))) el25 (Nat.le_of_ble_eq_true rfl) ⟨rfl,rfl⟩ ⟨rfl,rfl,rfl,rfl,rfl,rfl,rfl,rfl,rfl,rfl,rfl,rfl,rfl,rfl,rfl,rfl,trivial⟩) ?_
 refine rq (out:=aj am ([([99,108,97,115,115]:List UInt8),([101,120,116,101,110,100,115]:List UInt8),([115,116,97,116,105,99]:List UInt8),([118,111,105,100]:List UInt8),([105,110,116]:List UInt8),([98,111,111,108,101,97,110]:List UInt8),([105,102]:List UInt8),([101,108,115,101]:List UInt8),([119,104,105,108,101]:List UInt8),([114,101,116,117,114,110]:List UInt8),([112,114,105,110,116]:List UInt8),([116,114,117,101]:List UInt8),([102,97,108,115,101]:List UInt8),([110,117,108,108]:List UInt8),([116,104,105,115]:List UInt8),([110,101,119]:List UInt8)]:List (List UInt8))) ae ?_
 refine a5 ?_
 refine W_rs ?_
 refine rq (out:=Pr.i64 0) ae ?_
 refine az ?_
 obtain⟨z2l,hz2,h⟩:=af h
 obtain⟨n2,hN2⟩:=cc hz2
 clear hz2
 refine du 0 (fun e C=>ref03_Kept_k1=some r/\At [] [] e C) ?_ ?_
 ·rintro e C ⟨h,hat1⟩
  refine W_at hat1 ?_
  clear hat1
  unfold ref03_Kept_k1 at h
  refine W_rs ?_
  refine rq (out:=Pr.bool false) ae ?_
  obtain rfl:=Option.some.inj h
  exact a6 ⟨rfl,aa⟩
 refine eh (fun m e C=>∃(x2:Int),en (fun s=>l8 x1 s) m x2=some z2l/\At [(0,ai x1),(3,aj am ([([99,108,97,115,115]:List UInt8),([101,120,116,101,110,100,115]:List UInt8),([115,116,97,116,105,99]:List UInt8),([118,111,105,100]:List UInt8),([105,110,116]:List UInt8),([98,111,111,108,101,97,110]:List UInt8),([105,102]:List UInt8),([101,108,115,101]:List UInt8),([119,104,105,108,101]:List UInt8),([114,101,116,117,114,110]:List UInt8),([112,114,105,110,116]:List UInt8),([116,114,117,101]:List UInt8),([102,97,108,115,101]:List UInt8),([110,117,108,108]:List UInt8),([116,104,105,115]:List UInt8),([110,101,119]:List UInt8)]:List (List UInt8))),(4,Pr.i64 x2)] [] e C) n2 ⟨0,hN2,⟨⟨aa,aa,aa,trivial⟩,Pick.refl _⟩⟩ ?_
 clear hN2
 rintro m e C ⟨x2,hN2,hatl2⟩
 refine W_at hatl2 ?_
 clear hatl2
 obtain⟨m2,w2l,rfl,h2l,hn2,ho2⟩:=bx hN2
 clear hN2
 replace h2l:l8 x1 x2=some w2l:=h2l
 unfold l8 at h2l
 refine a5 ?_
 refine W_rs ?_
 refine rq (out:=Pr.i64 x2) ag ?_
 refine rq (out:=aj am ([([99,108,97,115,115]:List UInt8),([101,120,116,101,110,100,115]:List UInt8),([115,116,97,116,105,99]:List UInt8),([118,111,105,100]:List UInt8),([105,110,116]:List UInt8),([98,111,111,108,101,97,110]:List UInt8),([105,102]:List UInt8),([101,108,115,101]:List UInt8),([119,104,105,108,101]:List UInt8),([114,101,116,117,114,110]:List UInt8),([112,114,105,110,116]:List UInt8),([116,114,117,101]:List UInt8),([102,97,108,115,101]:List UInt8),([110,117,108,108]:List UInt8),([116,104,105,115]:List UInt8),([110,101,119]:List UInt8)]:List (List UInt8))) ag ?_
 refine rq (out:=Pr.i64 (([([99,108,97,115,115]:List UInt8),([101,120,116,101,110,100,115]:List UInt8),([115,116,97,116,105,99]:List UInt8),([118,111,105,100]:List UInt8),([105,110,116]:List UInt8),([98,111,111,108,101,97,110]:List UInt8),([105,102]:List UInt8),([101,108,115,101]:List UInt8),([119,104,105,108,101]:List UInt8),([114,101,116,117,114,110]:List UInt8),([112,114,105,110,116]:List UInt8),([116,114,117,101]:List UInt8),([102,97,108,115,101]:List UInt8),([110,117,108,108]:List UInt8),([116,104,105,115]:List UInt8),([110,101,119]:List UInt8)]:List (List UInt8)).length:Int)) (fi rfl Tryz.underlying25) ?_
 refine rq (out:=Pr.bool (decide (x2<(([([99,108,97,115,115]:List UInt8),([101,120,116,101,110,100,115]:List UInt8),([115,116,97,116,105,99]:List UInt8),([118,111,105,100]:List UInt8),([105,110,116]:List UInt8),([98,111,111,108,101,97,110]:List UInt8),([105,102]:List UInt8),([101,108,115,101]:List UInt8),([119,104,105,108,101]:List UInt8),([114,101,116,117,114,110]:List UInt8),([112,114,105,110,116]:List UInt8),([116,114,117,101]:List UInt8),([102,97,108,115,101]:List UInt8),([110,117,108,108]:List UInt8),([116,104,105,115]:List UInt8),([110,101,119]:List UInt8)]:List (List UInt8)).length:Int)))) qInt ?_
 refine ao (b:=decide (x2<(([([99,108,97,115,115]:List UInt8),([101,120,116,101,110,100,115]:List UInt8),([115,116,97,116,105,99]:List UInt8),([118,111,105,100]:List UInt8),([105,110,116]:List UInt8),([98,111,111,108,101,97,110]:List UInt8),([105,102]:List UInt8),([101,108,115,101]:List UInt8),([119,104,105,108,101]:List UInt8),([114,101,116,117,114,110]:List UInt8),([112,114,105,110,116]:List UInt8),([116,114,117,101]:List UInt8),([102,97,108,115,101]:List UInt8),([110,117,108,108]:List UInt8),([116,104,105,115]:List UInt8),([110,101,119]:List UInt8)]:List (List UInt8)).length:Int))) rfl (fun hc4=> ?_) (fun hc4=> ?_)
 ·replace h2l:=iteT hc4 h2l
  refine au ?_
  refine a5 ?_
  refine az ?_
  refine W_rs ?_
  refine rq (out:=aj am ([([99,108,97,115,115]:List UInt8),([101,120,116,101,110,100,115]:List UInt8),([115,116,97,116,105,99]:List UInt8),([118,111,105,100]:List UInt8),([105,110,116]:List UInt8),([98,111,111,108,101,97,110]:List UInt8),([105,102]:List UInt8),([101,108,115,101]:List UInt8),([119,104,105,108,101]:List UInt8),([114,101,116,117,114,110]:List UInt8),([112,114,105,110,116]:List UInt8),([116,114,117,101]:List UInt8),([102,97,108,115,101]:List UInt8),([110,117,108,108]:List UInt8),([116,104,105,115]:List UInt8),([110,101,119]:List UInt8)]:List (List UInt8))) ag ?_
  refine rq (out:=Pr.i64 x2) ag ?_
  obtain⟨x5,hx5,h2l⟩:=af h2l
  refine rq (out:=bj am x5) (ef (R:=am) (l:=([([99,108,97,115,115]:List UInt8),([101,120,116,101,110,100,115]:List UInt8),([115,116,97,116,105,99]:List UInt8),([118,111,105,100]:List UInt8),([105,110,116]:List UInt8),([98,111,111,108,101,97,110]:List UInt8),([105,102]:List UInt8),([101,108,115,101]:List UInt8),([119,104,105,108,101]:List UInt8),([114,101,116,117,114,110]:List UInt8),([112,114,105,110,116]:List UInt8),([116,114,117,101]:List UInt8),([102,97,108,115,101]:List UInt8),([110,117,108,108]:List UInt8),([116,104,105,115]:List UInt8),([110,101,119]:List UInt8)]:List (List UInt8))) Tryz.underlying25 Tryz.sizeOf9 hx5) ?_
  refine rq (out:=ai x5) (c5 (R:=am) (a:=x5) ty9) ?_
  refine rq (out:=ai x1) ag ?_
  refine rq (out:=Pr.bool (x5==x1)) qStr ?_
  refine ao (b:=x5==x1) rfl (fun hc6=> ?_) (fun hc6=> ?_)
  ·replace h2l:=iteT hc6 h2l
   refine W_rs ?_
   refine rq (out:=Pr.bool true) ae ?_
   obtain rfl:=ho2 _ (Option.some.inj h2l).symm
   replace h:some true=some r:=h
   obtain rfl:=Option.some.inj h
   exact a6 ⟨rfl,aa⟩
  replace h2l:=iteF hc6 h2l
  refine au ?_
  refine W_r ?_
  refine rq (out:=Pr.i64 x2) ag ?_
  refine rq (out:=Pr.i64 (w64 (x2+1))) qInt ?_
  refine rq (out:=Pr.i64 (w64 (x2+1))) ae ?_
  exact⟨m2,Nat.lt_succ_self _,w64 (x2+1),hn2 _ (Option.some.inj h2l).symm,⟨⟨aa,aa,aa,trivial⟩,Pick.refl _⟩⟩
 replace h2l:=iteF hc4 h2l
 refine dg ?_
 obtain rfl:=ho2 _ (Option.some.inj h2l).symm
 exact⟨h,⟨trivial,Pick.refl _⟩⟩
theorem ref03_mark_ok (x1:List UInt8) (x2 r:Int) (h:ref03_mark x1 x2=some r):FnP Tryz.prog 88 [ai x1,Pr.i64 x2] (Pr.i64 r):=by
 refine bo (n:=46) (rs:=[4]) Tryz.func88 rfl Tryz.ntmps88 ⟨by decide,Tryz.results88⟩ (by decide) (fun s0=> ?_)
 unfold ref03_mark at h
 refine W_rs ?_
 refine rq (out:=Pr.i64 0) ae ?_
 refine W_rs ?_
 refine rq (out:=aj am ([([61,61]:List UInt8),([33,61]:List UInt8),([60,61]:List UInt8),([62,61]:List UInt8),([38,38]:List UInt8),([124,124]:List UInt8)]:List (List UInt8))) (fo (R:=am) (ls:=([([61,61]:List UInt8),([33,61]:List UInt8),([60,61]:List UInt8),([62,61]:List UInt8),([38,38]:List UInt8),([124,124]:List UInt8)]:List (List UInt8))) el25 (Nat.le_of_ble_eq_true rfl) ⟨rfl,rfl⟩ ⟨rfl,rfl,rfl,rfl,rfl,rfl,trivial⟩) ?_
 refine rq (out:=aj am ([([61,61]:List UInt8),([33,61]:List UInt8),([60,61]:List UInt8),([62,61]:List UInt8),([38,38]:List UInt8),([124,124]:List UInt8)]:List (List UInt8))) ae ?_
 refine a5 ?_
 refine W_rs ?_
 refine rq (out:=Pr.i64 0) ae ?_
 refine az ?_
 obtain⟨z5l,hz5,h⟩:=af h
 obtain⟨n5,hN5⟩:=cc hz5
 clear hz5
 refine du 0 (fun e C=>ref03_mark_k4 x1 x2=some r/\At [(0,ai x1),(1,Pr.i64 x2)] [] e C) ?_ ?_
 ·rintro e C ⟨h,hat4⟩
  refine W_at hat4 ?_
  clear hat4
  unfold ref03_mark_k4 at h
  refine W_rs ?_
  refine rq (out:=ai ([43,45,42,47,37,60,62,61,33,40,41,123,125,59,44,46]:List UInt8)) ae ?_
  refine a5 ?_
  refine W_rs ?_
  refine rq (out:=Pr.i64 0) ae ?_
  refine az ?_
  obtain⟨z2l,hz2,h⟩:=af h
  obtain⟨n2,hN2⟩:=cc hz2
  clear hz2
  refine du 2 (fun e C=>ref03_mark_k1=some r/\At [] [] e C) ?_ ?_
  ·rintro e C ⟨h,hat1⟩
   refine W_at hat1 ?_
   clear hat1
   unfold ref03_mark_k1 at h
   refine W_rs ?_
   refine rq (out:=Pr.i64 0) ae ?_
   obtain rfl:=Option.some.inj h
   exact a6 ⟨rfl,aa⟩
  refine eh (fun m e C=>∃(x11:Int),en (fun s=>jz x1 x2 s) m x11=some z2l/\At [(0,ai x1),(1,Pr.i64 x2),(7,ai ([43,45,42,47,37,60,62,61,33,40,41,123,125,59,44,46]:List UInt8)),(8,Pr.i64 x11)] [] e C) n2 ⟨0,hN2,⟨⟨aa,aa,aa,aa,trivial⟩,Pick.refl _⟩⟩ ?_
  clear hN2
  rintro m e C ⟨x11,hN2,hatl2⟩
  refine W_at hatl2 ?_
  clear hatl2
  obtain⟨m2,w2l,rfl,h2l,hn2,ho2⟩:=bx hN2
  clear hN2
  replace h2l:jz x1 x2 x11=some w2l:=h2l
  unfold jz at h2l
  refine a5 ?_
  refine W_rs ?_
  refine rq (out:=Pr.i64 x11) ag ?_
  refine rq (out:=ai ([43,45,42,47,37,60,62,61,33,40,41,123,125,59,44,46]:List UInt8)) ag ?_
  refine rq (out:=Pr.i64 (([43,45,42,47,37,60,62,61,33,40,41,123,125,59,44,46]:List UInt8).length:Int)) (qLenS rfl Tryz.underlying9) ?_
  refine rq (out:=Pr.bool (decide (x11<(([43,45,42,47,37,60,62,61,33,40,41,123,125,59,44,46]:List UInt8).length:Int)))) qInt ?_
  refine ao (b:=decide (x11<(([43,45,42,47,37,60,62,61,33,40,41,123,125,59,44,46]:List UInt8).length:Int))) rfl (fun hc13=> ?_) (fun hc13=> ?_)
  ·replace h2l:=iteT hc13 h2l
   refine au ?_
   refine a5 ?_
   refine az ?_
   refine bc (fun e C=>∃(x14:Int),∃(x15:Int),ref03_mark_j3 x11 x14 x15=some w2l/\At [(0,ai x1),(1,Pr.i64 x2),(7,ai ([43,45,42,47,37,60,62,61,33,40,41,123,125,59,44,46]:List UInt8)),(8,Pr.i64 x11),(45,Pr.bool (x14==x15))] [] e C) ?_ ?_
   ·rintro e C ⟨x14,x15,h2l,hat3⟩
    refine W_at hat3 ?_
    clear hat3
    unfold ref03_mark_j3 at h2l
    refine ao (b:=x14==x15) rfl (fun hc16=> ?_) (fun hc16=> ?_)
    ·replace h2l:=iteT hc16 h2l
     refine W_rs ?_
     refine rq (out:=Pr.i64 1) ae ?_
     obtain rfl:=ho2 _ (Option.some.inj h2l).symm
     replace h:some 1=some r:=h
     obtain rfl:=Option.some.inj h
     exact a6 ⟨rfl,aa⟩
    replace h2l:=iteF hc16 h2l
    refine au ?_
    refine W_r ?_
    refine rq (out:=Pr.i64 x11) ag ?_
    refine rq (out:=Pr.i64 (w64 (x11+1))) qInt ?_
    refine rq (out:=Pr.i64 (w64 (x11+1))) ae ?_
    exact⟨m2,Nat.lt_succ_self _,w64 (x11+1),hn2 _ (Option.some.inj h2l).symm,⟨⟨aa,aa,aa,aa,trivial⟩,Pick.refl _⟩⟩
   refine jm 7 hmx (by kernel_rfl) (by kernel_rfl) ?_
   refine qq (out:=ai x1) ag ?_
   refine qq (out:=Pr.i64 x2) ag ?_
   obtain⟨x14,hx14,h2l⟩:=af h2l
   refine qq (out:=Pr.u8 x14) (qIdxS Tryz.underlying9 hx14) ?_
   refine qq (out:=ai ([43,45,42,47,37,60,62,61,33,40,41,123,125,59,44,46]:List UInt8)) ag ?_
   refine qq (out:=Pr.i64 x11) ag ?_
   obtain⟨x15,hx15,h2l⟩:=af h2l
   refine qq (out:=Pr.u8 x15) (qIdxS Tryz.underlying9 hx15) ?_
   refine qq (out:=Pr.bool (x14==x15)) qInt ?_
   exact⟨x14,x15,h2l,⟨⟨aa,aa,aa,aa,aa,trivial⟩,Pick.refl _⟩⟩
  replace h2l:=iteF hc13 h2l
  refine dg ?_
  obtain rfl:=ho2 _ (Option.some.inj h2l).symm
  exact⟨h,⟨trivial,Pick.refl _⟩⟩
 refine eh (fun m e C=>∃(x3:Int),en (fun s=>jy x1 x2 s) m x3=some z5l/\At [(0,ai x1),(1,Pr.i64 x2),(5,aj am ([([61,61]:List UInt8),([33,61]:List UInt8),([60,61]:List UInt8),([62,61]:List UInt8),([38,38]:List UInt8),([124,124]:List UInt8)]:List (List UInt8))),(6,Pr.i64 x3)] [] e C) n5 ⟨0,hN5,⟨⟨aa,aa,aa,aa,trivial⟩,Pick.refl _⟩⟩ ?_
 clear hN5
 rintro m e C ⟨x3,hN5,hatl5⟩
 refine W_at hatl5 ?_
 clear hatl5
 obtain⟨m5,w5l,rfl,h5l,hn5,ho5⟩:=bx hN5
 clear hN5
 replace h5l:jy x1 x2 x3=some w5l:=h5l
 unfold jy at h5l
 refine a5 ?_
 refine bc (fun e C=>∃(x6:Bool),ref03_mark_j7 x1 x2 x3 x6=some w5l/\At [(0,ai x1),(1,Pr.i64 x2),(5,aj am ([([61,61]:List UInt8),([33,61]:List UInt8),([60,61]:List UInt8),([62,61]:List UInt8),([38,38]:List UInt8),([124,124]:List UInt8)]:List (List UInt8))),(6,Pr.i64 x3),(20,Pr.bool x6)] [] e C) ?_ ?_
 ·rintro e C ⟨x6,h5l,hat7⟩
  refine W_at hat7 ?_
  clear hat7
  unfold ref03_mark_j7 at h5l
  refine ao (b:=x6) rfl (fun hc7=> ?_) (fun hc7=> ?_)
  ·replace h5l:=iteT hc7 h5l
   refine au ?_
   refine a5 ?_
   refine az ?_
   refine bc (fun e C=>∃(x8:List UInt8),∃(x9:List UInt8),ref03_mark_j6 x3 x8 x9=some w5l/\At [(0,ai x1),(1,Pr.i64 x2),(5,aj am ([([61,61]:List UInt8),([33,61]:List UInt8),([60,61]:List UInt8),([62,61]:List UInt8),([38,38]:List UInt8),([124,124]:List UInt8)]:List (List UInt8))),(6,Pr.i64 x3),(32,Pr.bool (x8==x9))] [] e C) ?_ ?_
   ·rintro e C ⟨x8,x9,h5l,hat6⟩
    refine W_at hat6 ?_
    clear hat6
    unfold ref03_mark_j6 at h5l
    refine ao (b:=x8==x9) rfl (fun hc10=> ?_) (fun hc10=> ?_)
    ·replace h5l:=iteT hc10 h5l
     refine W_rs ?_
     refine rq (out:=Pr.i64 2) ae ?_
     obtain rfl:=ho5 _ (Option.some.inj h5l).symm
     replace h:some 2=some r:=h
     obtain rfl:=Option.some.inj h
     exact a6 ⟨rfl,aa⟩
    replace h5l:=iteF hc10 h5l
    refine au ?_
    refine W_r ?_
    refine rq (out:=Pr.i64 x3) ag ?_
    refine rq (out:=Pr.i64 (w64 (x3+1))) qInt ?_
    refine rq (out:=Pr.i64 (w64 (x3+1))) ae ?_
    exact⟨m5,Nat.lt_succ_self _,w64 (x3+1),hn5 _ (Option.some.inj h5l).symm,⟨⟨aa,aa,aa,aa,trivial⟩,Pick.refl _⟩⟩
   refine jm 10 hmx (by kernel_rfl) (by kernel_rfl) ?_
   refine qq (out:=ai x1) ag ?_
   refine qq (out:=Pr.i64 x2) ag ?_
   refine qq (out:=Pr.i64 x2) ag ?_
   refine qq (out:=Pr.i64 (w64 (x2+2))) qInt ?_
   obtain⟨x8,hx8,h5l⟩:=af h5l
   refine qq (out:=ai x8) (qSubLH Tryz.underlying9 hx8) ?_
   refine qq (out:=aj am ([([61,61]:List UInt8),([33,61]:List UInt8),([60,61]:List UInt8),([62,61]:List UInt8),([38,38]:List UInt8),([124,124]:List UInt8)]:List (List UInt8))) ag ?_
   refine qq (out:=Pr.i64 x3) ag ?_
   obtain⟨x9,hx9,h5l⟩:=af h5l
   refine qq (out:=bj am x9) (ef (R:=am) (l:=([([61,61]:List UInt8),([33,61]:List UInt8),([60,61]:List UInt8),([62,61]:List UInt8),([38,38]:List UInt8),([124,124]:List UInt8)]:List (List UInt8))) Tryz.underlying25 Tryz.sizeOf9 hx9) ?_
   refine qq (out:=ai x9) (c5 (R:=am) (a:=x9) ty9) ?_
   refine qq (out:=Pr.bool (x8==x9)) qStr ?_
   exact⟨x8,x9,h5l,⟨⟨aa,aa,aa,aa,aa,trivial⟩,Pick.refl _⟩⟩
  replace h5l:=iteF hc7 h5l
  refine dg ?_
  obtain rfl:=ho5 _ (Option.some.inj h5l).symm
  exact⟨h,⟨⟨aa,aa,trivial⟩,Pick.refl _⟩⟩
 refine W_r ?_
 refine rq (out:=Pr.i64 x3) ag ?_
 refine rq (out:=aj am ([([61,61]:List UInt8),([33,61]:List UInt8),([60,61]:List UInt8),([62,61]:List UInt8),([38,38]:List UInt8),([124,124]:List UInt8)]:List (List UInt8))) ag ?_
 refine rq (out:=Pr.i64 (([([61,61]:List UInt8),([33,61]:List UInt8),([60,61]:List UInt8),([62,61]:List UInt8),([38,38]:List UInt8),([124,124]:List UInt8)]:List (List UInt8)).length:Int)) (fi rfl Tryz.underlying25) ?_
 refine rq (out:=Pr.bool (decide (x3<(([([61,61]:List UInt8),([33,61]:List UInt8),([60,61]:List UInt8),([62,61]:List UInt8),([38,38]:List UInt8),([124,124]:List UInt8)]:List (List UInt8)).length:Int)))) qInt ?_
 refine rq (out:=Pr.bool (decide (x3<(([([61,61]:List UInt8),([33,61]:List UInt8),([60,61]:List UInt8),([62,61]:List UInt8),([38,38]:List UInt8),([124,124]:List UInt8)]:List (List UInt8)).length:Int)))) ag ?_
 rcases bv h5l with⟨hc5,h5l⟩|⟨hc5,h5l⟩
 ·refine rqg hc5 (out:=Pr.i64 x2) ag ?_
  refine rqg hc5 (out:=Pr.i64 (w64 (x2+2))) qInt ?_
  refine rqg hc5 (out:=ai x1) ag ?_
  refine rqg hc5 (out:=Pr.i64 (x1.length:Int)) (qLenS rfl Tryz.underlying9) ?_
  refine rqg hc5 (out:=Pr.bool (decide ((w64 (x2+2))<=(x1.length:Int)))) qInt ?_
  refine rq (out:=Pr.bool (decide ((w64 (x2+2))<=(x1.length:Int)))) (bu hc5) ?_
  exact⟨decide ((w64 (x2+2))<=(x1.length:Int)),h5l,⟨⟨aa,aa,aa,aa,aa,trivial⟩,Pick.refl _⟩⟩
 refine rno (neT hc5) ?_
 refine rno (neT hc5) ?_
 refine rno (neT hc5) ?_
 refine rno (neT hc5) ?_
 refine rno (neT hc5) ?_
 refine rq (out:=Pr.bool false) (bp hc5) ?_
 exact⟨false,h5l,⟨⟨aa,aa,aa,aa,aa,trivial⟩,Pick.refl _⟩⟩
theorem ref03_token_ok (x1:List UInt8) (x2:Int) (r:Int × Int × Int) (h:ref03_token x1 x2=some r):FnP Tryz.prog 56 [ai x1,Pr.i64 x2] (bh [Pr.i64 r.1,Pr.i64 r.2.1,Pr.i64 r.2.2]):=by
 refine bo (n:=95) (rs:=[4,5,6]) Tryz.func56 rfl Tryz.ntmps56 ⟨by decide,Tryz.results56⟩ (by decide) (fun s0=> ?_)
 unfold ref03_token at h
 refine W_rs ?_
 refine rq (out:=Pr.i64 0) ae ?_
 refine rq (out:=Pr.i64 0) ae ?_
 refine rq (out:=Pr.i64 0) ae ?_
 refine W_rs ?_
 refine rq (out:=Pr.i64 0) ae ?_
 refine a5 ?_
 refine W_rs ?_
 refine rq (out:=ai x1) ag ?_
 refine rq (out:=Pr.i64 x2) ag ?_
 obtain⟨x3,hx3,h⟩:=af h
 refine rq (out:=Pr.u8 x3) (qIdxS Tryz.underlying9 hx3) ?_
 obtain⟨x4,hx4,h⟩:=af h
 refine rq (out:=Pr.bool x4) (aw (ref03_digit_ok x3 _ hx4)) ?_
 refine ao (b:=x4) rfl (fun hc5=> ?_) (fun hc5=> ?_)
 ·replace h:=iteT hc5 h
  refine a5 ?_
  refine az ?_
  obtain⟨z3l,hz3,h⟩:=af h
  obtain⟨n3,hN3⟩:=cc hz3
  clear hz3
  refine du 0 (fun e C=>∃(x6:Int),ref03_token_k2 x1 x2 x6=some r/\At [(0,ai x1),(1,Pr.i64 x2),(7,Pr.i64 x6)] [] e C) ?_ ?_
  ·rintro e C ⟨x6,h,hat2⟩
   refine W_at hat2 ?_
   clear hat2
   unfold ref03_token_k2 at h
   refine W_rs ?_
   refine rq (out:=ai x1) ag ?_
   refine rq (out:=Pr.i64 x2) ag ?_
   refine rq (out:=Pr.i64 x2) ag ?_
   refine rq (out:=Pr.i64 x6) ag ?_
   refine rq (out:=Pr.i64 (w64 (x2+x6))) qInt ?_
   obtain⟨x13,hx13,h⟩:=af h
   refine rq (out:=ai x13) (qSubLH Tryz.underlying9 hx13) ?_
   obtain⟨x14,hx14,h⟩:=af h
   refine rq (out:=Pr.bool x14) (aw (ref03_great_ok x13 _ hx14)) ?_
   refine rq (out:=Pr.bool x14) ae ?_
   refine a5 ?_
   refine bc (fun e C=>∃(x18:Bool),ku x6 x18=some r/\At [(7,Pr.i64 x6),(47,Pr.bool x18)] [] e C) ?_ ?_
   ·rintro e C ⟨x18,h,hat1⟩
    refine W_at hat1 ?_
    clear hat1
    unfold ku at h
    refine ao (b:=x18) rfl (fun hc19=> ?_) (fun hc19=> ?_)
    ·replace h:=iteT hc19 h
     refine W_rs ?_
     refine rq (out:=Pr.i64 0) ae ?_
     refine rq (out:=Pr.i64 0) ae ?_
     refine rq (out:=Pr.i64 31) ae ?_
     obtain rfl:=Option.some.inj h
     exact a6 ⟨rfl,aa⟩
    replace h:=iteF hc19 h
    refine au ?_
    refine W_rs ?_
    refine rq (out:=Pr.i64 x6) ag ?_
    refine rq (out:=Pr.i64 2) ae ?_
    refine rq (out:=Pr.i64 x6) ae ?_
    refine rq (out:=Pr.i64 0) ae ?_
    obtain rfl:=Option.some.inj h
    exact a6 ⟨rfl,aa⟩
   refine W_r ?_
   refine rq (out:=Pr.bool x14) ag ?_
   refine rq (out:=Pr.bool x14) ag ?_
   rcases bv h with⟨hc15,h⟩|⟨hc15,h⟩
   ·refine rno (neF hc15) ?_
    refine rno (neF hc15) ?_
    refine rno (neF hc15) ?_
    refine rnoU ?_
    refine rnoU ?_
    refine rnoU ?_
    refine rnoU ?_
    refine rno (neF hc15) ?_
    refine rq (out:=Pr.bool true) (bu hc15) ?_
    exact⟨true,h,⟨⟨aa,aa,trivial⟩,Pick.refl _⟩⟩
   refine rqg hc15 (out:=Pr.i64 x6) ag ?_
   refine rqg hc15 (out:=Pr.bool (decide (x6>1))) qInt ?_
   refine rqg hc15 (out:=Pr.bool (decide (x6>1))) ag ?_
   rcases bv h with⟨hc16,h⟩|⟨hc16,h⟩
   ·refine rqg hc16 (out:=ai x1) ag ?_
    refine rqg hc16 (out:=Pr.i64 x2) ag ?_
    obtain⟨x17,hx17,h⟩:=af h
    refine rqg hc16 (out:=Pr.u8 x17) (qIdxS Tryz.underlying9 hx17) ?_
    refine rqg hc16 (out:=Pr.bool (x17==48)) qInt ?_
    refine rqg hc15 (out:=Pr.bool (x17==48)) (bu hc16) ?_
    refine rq (out:=Pr.bool (x17==48)) (bp hc15) ?_
    exact⟨x17==48,h,⟨⟨aa,aa,trivial⟩,Pick.refl _⟩⟩
   refine rno (neT hc16) ?_
   refine rno (neT hc16) ?_
   refine rno (neT hc16) ?_
   refine rno (neT hc16) ?_
   refine rqg hc15 (out:=Pr.bool false) (bp hc16) ?_
   refine rq (out:=Pr.bool false) (bp hc15) ?_
   exact⟨false,h,⟨⟨aa,aa,trivial⟩,Pick.refl _⟩⟩
  refine eh (fun m e C=>∃(x6:Int),en (fun s=>i5 x2 x1 s) m x6=some z3l/\At [(0,ai x1),(1,Pr.i64 x2),(7,Pr.i64 x6)] [] e C) n3 ⟨0,hN3,⟨⟨aa,aa,aa,trivial⟩,Pick.refl _⟩⟩ ?_
  clear hN3
  rintro m e C ⟨x6,hN3,hatl3⟩
  refine W_at hatl3 ?_
  clear hatl3
  obtain⟨m3,w3l,rfl,h3l,hn3,ho3⟩:=bx hN3
  clear hN3
  replace h3l:i5 x2 x1 x6=some w3l:=h3l
  unfold i5 at h3l
  refine a5 ?_
  refine bc (fun e C=>∃(x11:Bool),mq x6 x11=some w3l/\At [(0,ai x1),(1,Pr.i64 x2),(7,Pr.i64 x6),(27,Pr.bool x11)] [] e C) ?_ ?_
  ·rintro e C ⟨x11,h3l,hat4⟩
   refine W_at hat4 ?_
   clear hat4
   unfold mq at h3l
   refine ao (b:=x11) rfl (fun hc12=> ?_) (fun hc12=> ?_)
   ·replace h3l:=iteT hc12 h3l
    refine au ?_
    refine az ?_
    refine W_r ?_
    refine rq (out:=Pr.i64 x6) ag ?_
    refine rq (out:=Pr.i64 (w64 (x6+1))) qInt ?_
    refine rq (out:=Pr.i64 (w64 (x6+1))) ae ?_
    exact⟨m3,Nat.lt_succ_self _,w64 (x6+1),hn3 _ (Option.some.inj h3l).symm,⟨⟨aa,aa,aa,trivial⟩,Pick.refl _⟩⟩
   replace h3l:=iteF hc12 h3l
   refine dg ?_
   obtain rfl:=ho3 _ (Option.some.inj h3l).symm
   exact⟨x6,h,⟨⟨aa,aa,aa,trivial⟩,Pick.refl _⟩⟩
  refine W_r ?_
  refine rq (out:=Pr.i64 x2) ag ?_
  refine rq (out:=Pr.i64 x6) ag ?_
  refine rq (out:=Pr.i64 (w64 (x2+x6))) qInt ?_
  refine rq (out:=ai x1) ag ?_
  refine rq (out:=Pr.i64 (x1.length:Int)) (qLenS rfl Tryz.underlying9) ?_
  refine rq (out:=Pr.bool (decide ((w64 (x2+x6))<(x1.length:Int)))) qInt ?_
  refine rq (out:=Pr.bool (decide ((w64 (x2+x6))<(x1.length:Int)))) ag ?_
  rcases bv h3l with⟨hc8,h3l⟩|⟨hc8,h3l⟩
  ·refine rqg hc8 (out:=ai x1) ag ?_
   refine rqg hc8 (out:=Pr.i64 x2) ag ?_
   refine rqg hc8 (out:=Pr.i64 x6) ag ?_
   refine rqg hc8 (out:=Pr.i64 (w64 (x2+x6))) qInt ?_
   obtain⟨x9,hx9,h3l⟩:=af h3l
   refine rqg hc8 (out:=Pr.u8 x9) (qIdxS Tryz.underlying9 hx9) ?_
   obtain⟨x10,hx10,h3l⟩:=af h3l
   refine rqg hc8 (out:=Pr.bool x10) (aw (ref03_digit_ok x9 _ hx10)) ?_
   refine rq (out:=Pr.bool x10) (bu hc8) ?_
   exact⟨x10,h3l,⟨⟨aa,aa,aa,aa,trivial⟩,Pick.refl _⟩⟩
  refine rno (neT hc8) ?_
  refine rno (neT hc8) ?_
  refine rno (neT hc8) ?_
  refine rno (neT hc8) ?_
  refine rno (neT hc8) ?_
  refine rno (neT hc8) ?_
  refine rq (out:=Pr.bool false) (bp hc8) ?_
  exact⟨false,h3l,⟨⟨aa,aa,aa,aa,trivial⟩,Pick.refl _⟩⟩
 replace h:=iteF hc5 h
 refine au ?_
 refine a5 ?_
 refine W_rs ?_
 refine rq (out:=ai x1) ag ?_
 refine rq (out:=Pr.i64 x2) ag ?_
 obtain⟨x20,hx20,h⟩:=af h
 refine rq (out:=Pr.u8 x20) (qIdxS Tryz.underlying9 hx20) ?_
 obtain⟨x21,hx21,h⟩:=af h
 refine rq (out:=Pr.bool x21) (aw (ref03_letter_ok x20 _ hx21)) ?_
 refine ao (b:=x21) rfl (fun hc22=> ?_) (fun hc22=> ?_)
 ·replace h:=iteT hc22 h
  refine a5 ?_
  refine az ?_
  obtain⟨z6l,hz6,h⟩:=af h
  obtain⟨n6,hN6⟩:=cc hz6
  clear hz6
  refine du 2 (fun e C=>∃(x23:Int),ref03_token_k5 x1 x2 x23=some r/\At [(0,ai x1),(1,Pr.i64 x2),(7,Pr.i64 x23)] [] e C) ?_ ?_
  ·rintro e C ⟨x23,h,hat5⟩
   refine W_at hat5 ?_
   clear hat5
   unfold ref03_token_k5 at h
   refine a5 ?_
   refine W_rs ?_
   refine rq (out:=Pr.i64 x23) ag ?_
   refine rq (out:=Pr.bool (decide (x23>20))) qInt ?_
   refine ao (b:=decide (x23>20)) rfl (fun hc33=> ?_) (fun hc33=> ?_)
   ·replace h:=iteT hc33 h
    refine W_rs ?_
    refine rq (out:=Pr.i64 0) ae ?_
    refine rq (out:=Pr.i64 0) ae ?_
    refine rq (out:=Pr.i64 2) ae ?_
    obtain rfl:=Option.some.inj h
    exact a6 ⟨rfl,aa⟩
   replace h:=iteF hc33 h
   refine au ?_
   refine W_rs ?_
   refine rq (out:=ai x1) ag ?_
   refine rq (out:=Pr.i64 x2) ag ?_
   refine rq (out:=Pr.i64 x2) ag ?_
   refine rq (out:=Pr.i64 x23) ag ?_
   refine rq (out:=Pr.i64 (w64 (x2+x23))) qInt ?_
   obtain⟨x34,hx34,h⟩:=af h
   refine rq (out:=ai x34) (qSubLH Tryz.underlying9 hx34) ?_
   obtain⟨x35,hx35,h⟩:=af h
   refine rq (out:=Pr.bool x35) (aw (ref03_Kept_ok x34 _ hx35)) ?_
   refine rq (out:=Pr.bool x35) ae ?_
   refine a5 ?_
   refine W_rs ?_
   refine rq (out:=Pr.bool x35) ag ?_
   refine ao (b:=x35) rfl (fun hc36=> ?_) (fun hc36=> ?_)
   ·replace h:=iteT hc36 h
    refine W_rs ?_
    refine rq (out:=Pr.i64 x23) ag ?_
    refine rq (out:=Pr.i64 3) ae ?_
    refine rq (out:=Pr.i64 x23) ae ?_
    refine rq (out:=Pr.i64 0) ae ?_
    obtain rfl:=Option.some.inj h
    exact a6 ⟨rfl,aa⟩
   replace h:=iteF hc36 h
   refine au ?_
   refine W_rs ?_
   refine rq (out:=Pr.i64 x23) ag ?_
   refine rq (out:=Pr.i64 1) ae ?_
   refine rq (out:=Pr.i64 x23) ae ?_
   refine rq (out:=Pr.i64 0) ae ?_
   obtain rfl:=Option.some.inj h
   exact a6 ⟨rfl,aa⟩
  refine eh (fun m e C=>∃(x23:Int),en (fun s=>i4 x2 x1 s) m x23=some z6l/\At [(0,ai x1),(1,Pr.i64 x2),(7,Pr.i64 x23)] [] e C) n6 ⟨0,hN6,⟨⟨aa,aa,aa,trivial⟩,Pick.refl _⟩⟩ ?_
  clear hN6
  rintro m e C ⟨x23,hN6,hatl6⟩
  refine W_at hatl6 ?_
  clear hatl6
  obtain⟨m6,w6l,rfl,h6l,hn6,ho6⟩:=bx hN6
  clear hN6
  replace h6l:i4 x2 x1 x23=some w6l:=h6l
  unfold i4 at h6l
  refine a5 ?_
  refine bc (fun e C=>∃(x31:Bool),kr x23 x31=some w6l/\At [(0,ai x1),(1,Pr.i64 x2),(7,Pr.i64 x23),(74,Pr.bool x31)] [] e C) ?_ ?_
  ·rintro e C ⟨x31,h6l,hat7⟩
   refine W_at hat7 ?_
   clear hat7
   unfold kr at h6l
   refine ao (b:=x31) rfl (fun hc32=> ?_) (fun hc32=> ?_)
   ·replace h6l:=iteT hc32 h6l
    refine au ?_
    refine az ?_
    refine W_r ?_
    refine rq (out:=Pr.i64 x23) ag ?_
    refine rq (out:=Pr.i64 (w64 (x23+1))) qInt ?_
    refine rq (out:=Pr.i64 (w64 (x23+1))) ae ?_
    exact⟨m6,Nat.lt_succ_self _,w64 (x23+1),hn6 _ (Option.some.inj h6l).symm,⟨⟨aa,aa,aa,trivial⟩,Pick.refl _⟩⟩
   replace h6l:=iteF hc32 h6l
   refine dg ?_
   obtain rfl:=ho6 _ (Option.some.inj h6l).symm
   exact⟨x23,h,⟨⟨aa,aa,aa,trivial⟩,Pick.refl _⟩⟩
  refine W_r ?_
  refine rq (out:=Pr.i64 x2) ag ?_
  refine rq (out:=Pr.i64 x23) ag ?_
  refine rq (out:=Pr.i64 (w64 (x2+x23))) qInt ?_
  refine rq (out:=ai x1) ag ?_
  refine rq (out:=Pr.i64 (x1.length:Int)) (qLenS rfl Tryz.underlying9) ?_
  refine rq (out:=Pr.bool (decide ((w64 (x2+x23))<(x1.length:Int)))) qInt ?_
  refine rq (out:=Pr.bool (decide ((w64 (x2+x23))<(x1.length:Int)))) ag ?_
  rcases bv h6l with⟨hc25,h6l⟩|⟨hc25,h6l⟩
  ·refine rqg hc25 (out:=ai x1) ag ?_
   refine rqg hc25 (out:=Pr.i64 x2) ag ?_
   refine rqg hc25 (out:=Pr.i64 x23) ag ?_
   refine rqg hc25 (out:=Pr.i64 (w64 (x2+x23))) qInt ?_
   obtain⟨x26,hx26,h6l⟩:=af h6l
   refine rqg hc25 (out:=Pr.u8 x26) (qIdxS Tryz.underlying9 hx26) ?_
   obtain⟨x27,hx27,h6l⟩:=af h6l
   refine rqg hc25 (out:=Pr.bool x27) (aw (ref03_letter_ok x26 _ hx27)) ?_
   refine rqg hc25 (out:=Pr.bool x27) ag ?_
   rcases bv h6l with⟨hc28,h6l⟩|⟨hc28,h6l⟩
   ·refine rno (neF hc28) ?_
    refine rno (neF hc28) ?_
    refine rno (neF hc28) ?_
    refine rno (neF hc28) ?_
    refine rno (neF hc28) ?_
    refine rno (neF hc28) ?_
    refine rqg hc25 (out:=Pr.bool true) (bu hc28) ?_
    refine rq (out:=Pr.bool true) (bu hc25) ?_
    exact⟨true,h6l,⟨⟨aa,aa,aa,aa,trivial⟩,Pick.refl _⟩⟩
   refine rqg hc28 (out:=ai x1) ag ?_
   refine rqg hc28 (out:=Pr.i64 x2) ag ?_
   refine rqg hc28 (out:=Pr.i64 x23) ag ?_
   refine rqg hc28 (out:=Pr.i64 (w64 (x2+x23))) qInt ?_
   obtain⟨x29,hx29,h6l⟩:=af h6l
   refine rqg hc28 (out:=Pr.u8 x29) (qIdxS Tryz.underlying9 hx29) ?_
   obtain⟨x30,hx30,h6l⟩:=af h6l
   refine rqg hc28 (out:=Pr.bool x30) (aw (ref03_digit_ok x29 _ hx30)) ?_
   refine rqg hc25 (out:=Pr.bool x30) (bp hc28) ?_
   refine rq (out:=Pr.bool x30) (bu hc25) ?_
   exact⟨x30,h6l,⟨⟨aa,aa,aa,aa,trivial⟩,Pick.refl _⟩⟩
  refine rno (neT hc25) ?_
  refine rno (neT hc25) ?_
  refine rno (neT hc25) ?_
  refine rno (neT hc25) ?_
  refine rno (neT hc25) ?_
  refine rno (neT hc25) ?_
  refine rno (neT hc25) ?_
  refine rnoU ?_
  refine rnoU ?_
  refine rnoU ?_
  refine rnoU ?_
  refine rnoU ?_
  refine rnoU ?_
  refine rno (neT hc25) ?_
  refine rq (out:=Pr.bool false) (bp hc25) ?_
  exact⟨false,h6l,⟨⟨aa,aa,aa,aa,trivial⟩,Pick.refl _⟩⟩
 replace h:=iteF hc22 h
 refine au ?_
 refine W_rs ?_
 refine rq (out:=ai x1) ag ?_
 refine rq (out:=Pr.i64 x2) ag ?_
 obtain⟨x37,hx37,h⟩:=af h
 refine rq (out:=Pr.i64 x37) (aw (ref03_mark_ok x1 x2 _ hx37)) ?_
 refine rq (out:=Pr.i64 x37) ae ?_
 refine a5 ?_
 refine W_rs ?_
 refine rq (out:=Pr.i64 x37) ag ?_
 refine rq (out:=Pr.bool (x37==0)) qInt ?_
 refine ao (b:=x37==0) rfl (fun hc38=> ?_) (fun hc38=> ?_)
 ·replace h:=iteT hc38 h
  refine W_rs ?_
  refine rq (out:=Pr.i64 0) ae ?_
  refine rq (out:=Pr.i64 0) ae ?_
  refine rq (out:=Pr.i64 30) ae ?_
  obtain rfl:=Option.some.inj h
  exact a6 ⟨rfl,aa⟩
 replace h:=iteF hc38 h
 refine au ?_
 refine W_rs ?_
 refine rq (out:=Pr.i64 x37) ag ?_
 refine rq (out:=Pr.i64 4) ae ?_
 refine rq (out:=Pr.i64 x37) ae ?_
 refine rq (out:=Pr.i64 0) ae ?_
 obtain rfl:=Option.some.inj h
 exact a6 ⟨rfl,aa⟩
theorem ref03_Lex_ok (x1:List UInt8) (r:(List ApiToken) × Int × Int) (h:ref03_Lex x1=some r):FnP Tryz.prog 34 [ai x1] (bh [aj ah r.1,Pr.i64 r.2.1,Pr.i64 r.2.2]):=by
 refine bo (n:=66) (rs:=[2,3,4]) Tryz.func34 rfl Tryz.ntmps34 ⟨by decide,Tryz.results34⟩ (by decide) (fun s0=> ?_)
 unfold ref03_Lex at h
 refine W_rs ?_
 refine rq (out:=Pr.is (.slice none 0 0)) ae ?_
 refine rq (out:=Pr.i64 0) ae ?_
 refine rq (out:=Pr.i64 0) ae ?_
 refine a5 ?_
 refine W_rs ?_
 refine rq (out:=ai x1) ag ?_
 refine rq (out:=Pr.i64 (x1.length:Int)) (qLenS rfl Tryz.underlying9) ?_
 refine rq (out:=Pr.bool (decide ((x1.length:Int)>1048576))) qInt ?_
 refine ao (b:=decide ((x1.length:Int)>1048576)) rfl (fun hc2=> ?_) (fun hc2=> ?_)
 ·replace h:=iteT hc2 h
  refine W_rs ?_
  refine rq (out:=Pr.is (.slice none 0 0)) ae ?_
  refine rq (out:=Pr.i64 0) ae ?_
  refine rq (out:=Pr.i64 2) ae ?_
  obtain rfl:=Option.some.inj h
  exact a6 ⟨rfl,tup_le ⟨da _,aa,aa,trivial⟩⟩
 replace h:=iteF hc2 h
 refine au ?_
 refine W_rs ?_
 refine rq (out:=Pr.is (.slice none 0 0)) ae ?_
 refine W_rs ?_
 refine rq (out:=Pr.i64 0) ae ?_
 refine az ?_
 obtain⟨n1,hN1⟩:=cc h
 refine W_nil [5] ah 56 (fun v24=> ?_) ⟨rfl,trivial⟩
 refine eh (fun m e C=>∃(x4:Int),∃(x5:List ApiToken),∃(v3:Value),en (fun s=>d7 x1 s.1 s.2) m (x4,x5)=some r/\At [(0,ai x1),(5,Pr.is v3),(6,Pr.i64 x4)] [Own.vec v3 ah x5 56] e C) n1 ⟨0,[],v24,hN1,⟨⟨aa,aa,aa,trivial⟩,Pick.refl _⟩⟩ ?_
 clear hN1
 rintro m e C ⟨x4,x5,v3,hN1,hatl1⟩
 refine W_at hatl1 ?_
 clear hatl1
 obtain⟨m1,w1l,rfl,h1l,hn1,ho1⟩:=bx hN1
 clear hN1
 replace h1l:d7 x1 x4 x5=some w1l:=h1l
 unfold d7 at h1l
 refine az ?_
 refine W_rs ?_
 refine rq (out:=ai x1) ag ?_
 refine rq (out:=Pr.i64 x4) ag ?_
 obtain⟨⟨x9,x10⟩,hx9,h1l⟩:=af h1l
 refine rq (out:=bh [Pr.i64 x9,Pr.bool x10]) (aw (ref03_between_ok x1 x4 _ hx9)) ?_
 refine rq (out:=bh [Pr.i64 x9,Pr.bool x10]) ag ?_
 refine rq (out:=Pr.i64 x9) ar ?_
 refine rq (out:=Pr.bool x10) ar ?_
 refine rq (out:=Pr.i64 x9) ae ?_
 refine rq (out:=Pr.bool x10) ae ?_
 refine a5 ?_
 refine W_rs ?_
 refine rq (out:=Pr.bool x10) ag ?_
 refine rq (out:=Pr.bool (!x10)) qNot ?_
 refine ao (b:= !x10) rfl (fun hc11=> ?_) (fun hc11=> ?_)
 ·replace h1l:=iteT hc11 h1l
  refine W_rs ?_
  refine rq (out:=Pr.i64 x9) ag ?_
  refine rq (out:=Pr.is (.slice none 0 0)) ae ?_
  refine rq (out:=Pr.i64 x9) ae ?_
  refine rq (out:=Pr.i64 32) ae ?_
  have h:some ([],x9,32)=some r:=congrArg some (ho1 _ (Option.some.inj h1l).symm)
  obtain rfl:=Option.some.inj h
  exact a6 ⟨rfl,tup_le ⟨da _,aa,aa,trivial⟩⟩
 replace h1l:=iteF hc11 h1l
 refine au ?_
 refine a5 ?_
 refine W_rs ?_
 refine rq (out:=Pr.i64 x9) ag ?_
 refine rq (out:=ai x1) ag ?_
 refine rq (out:=Pr.i64 (x1.length:Int)) (qLenS rfl Tryz.underlying9) ?_
 refine rq (out:=Pr.bool (x9==(x1.length:Int))) qInt ?_
 refine ao (b:=x9==(x1.length:Int)) rfl (fun hc12=> ?_) (fun hc12=> ?_)
 ·replace h1l:=iteT hc12 h1l
  refine W_rs ?_
  refine rq (out:=Pr.is v3) ag ?_
  refine rq (out:=Pr.i64 x9) ag ?_
  refine rq (out:=ai x1) ag ?_
  refine rq (out:=Pr.i64 x4) ag ?_
  obtain⟨x13,hx13,h1l⟩:=af h1l
  refine rq (out:=ai x13) (qSubL Tryz.underlying9 hx13) ?_
  refine rq (out:=(ah).val (ApiToken.mk 5 [] x9 x13)) (qBuild st56 ⟨(ApiToken.mk 5 [] 0 []),⟨_,rfl,rfl,fun j fd hj hf=>by match j,hj with| 0,h=>exact absurd rfl h| 1,_=>cases hf;rfl| 2,_=>cases hf;rfl| 3,_=>cases hf;rfl|_+4,_=>cases hf⟩,⟨(ApiToken.mk 5 [] x9 []),⟨_,rfl,rfl,fun j fd hj hf=>by match j,hj with| 0,_=>cases hf;rfl| 1,_=>cases hf;rfl| 2,h=>exact absurd rfl h| 3,_=>cases hf;rfl|_+4,_=>cases hf⟩,⟨(ApiToken.mk 5 [] x9 x13),⟨_,rfl,rfl,fun j fd hj hf=>by match j,hj with| 0,_=>cases hf;rfl| 1,_=>cases hf;rfl| 2,_=>cases hf;rfl| 3,h=>exact absurd rfl h|_+4,_=>cases hf⟩,rfl⟩⟩⟩) ?_
  refine rq (out:=aj ah ([(ApiToken.mk 5 [] x9 x13)]:List ApiToken)) (cr (R:=ah) (a:=(ApiToken.mk 5 [] x9 x13)) el52 (Nat.le_of_ble_eq_true rfl)) ?_
  obtain⟨x14,hx14,h1l⟩:=af h1l
  refine ip 0 el52 hx14 (fun v15=> ?_)
  refine rq (out:=Pr.is v15) ae ?_
  refine rq (out:=Pr.i64 0) ae ?_
  refine rq (out:=Pr.i64 0) ae ?_
  have h:some (x14,0,0)=some r:=congrArg some (ho1 _ (Option.some.inj h1l).symm)
  refine W_rel 0 [2] ?_ rfl ⟨rfl,trivial⟩
  obtain rfl:=Option.some.inj h
  exact a6 ⟨rfl,aa⟩
 replace h1l:=iteF hc12 h1l
 refine au ?_
 refine W_rs ?_
 refine rq (out:=ai x1) ag ?_
 refine rq (out:=Pr.i64 x9) ag ?_
 obtain⟨⟨x16,x17,x18⟩,hx16,h1l⟩:=af h1l
 refine rq (out:=bh [Pr.i64 x16,Pr.i64 x17,Pr.i64 x18]) (aw (ref03_token_ok x1 x9 _ hx16)) ?_
 refine rq (out:=bh [Pr.i64 x16,Pr.i64 x17,Pr.i64 x18]) ag ?_
 refine rq (out:=Pr.i64 x16) ar ?_
 refine rq (out:=Pr.i64 x17) ar ?_
 refine rq (out:=Pr.i64 x18) ar ?_
 refine rq (out:=Pr.i64 x16) ae ?_
 refine rq (out:=Pr.i64 x17) ae ?_
 refine rq (out:=Pr.i64 x18) ae ?_
 refine a5 ?_
 refine W_rs ?_
 refine rq (out:=Pr.i64 x18) ag ?_
 refine rq (out:=Pr.bool (x18 != 0)) qInt ?_
 refine ao (b:=x18 != 0) rfl (fun hc19=> ?_) (fun hc19=> ?_)
 ·replace h1l:=iteT hc19 h1l
  refine W_rs ?_
  refine rq (out:=Pr.i64 x9) ag ?_
  refine rq (out:=Pr.i64 x18) ag ?_
  refine rq (out:=Pr.is (.slice none 0 0)) ae ?_
  refine rq (out:=Pr.i64 x9) ae ?_
  refine rq (out:=Pr.i64 x18) ae ?_
  have h:some ([],x9,x18)=some r:=congrArg some (ho1 _ (Option.some.inj h1l).symm)
  obtain rfl:=Option.some.inj h
  exact a6 ⟨rfl,tup_le ⟨da _,aa,aa,trivial⟩⟩
 replace h1l:=iteF hc19 h1l
 refine au ?_
 refine bc (fun e C=>∃(x22:List ApiToken),∃(v23:Value),ref03_Lex_j2 x9 x17 x22=some w1l/\At [(0,ai x1),(5,Pr.is v23),(7,Pr.i64 x9),(10,Pr.i64 x17)] [Own.vec v23 ah x22 56] e C) ?_ ?_
 ·rintro e C ⟨x22,v23,h1l,hat2⟩
  refine W_at hat2 ?_
  clear hat2
  unfold ref03_Lex_j2 at h1l
  refine W_r ?_
  refine rq (out:=Pr.i64 x9) ag ?_
  refine rq (out:=Pr.i64 x17) ag ?_
  refine rq (out:=Pr.i64 (w64 (x9+x17))) qInt ?_
  refine rq (out:=Pr.i64 (w64 (x9+x17))) ae ?_
  exact⟨m1,Nat.lt_succ_self _,w64 (x9+x17),x22,v23,hn1 _ (Option.some.inj h1l).symm,⟨⟨aa,aa,aa,trivial⟩,Pick.refl _⟩⟩
 refine jm 15 hmx (by kernel_rfl) (by kernel_rfl) ?_
 refine qq (out:=Pr.is v3) ag ?_
 refine qq (out:=Pr.i64 x16) ag ?_
 refine qq (out:=ai x1) ag ?_
 refine qq (out:=Pr.i64 x9) ag ?_
 refine qq (out:=Pr.i64 x9) ag ?_
 refine qq (out:=Pr.i64 x17) ag ?_
 refine qq (out:=Pr.i64 (w64 (x9+x17))) qInt ?_
 obtain⟨x20,hx20,h1l⟩:=af h1l
 refine qq (out:=ai x20) (qSubLH Tryz.underlying9 hx20) ?_
 refine qq (out:=Pr.i64 x9) ag ?_
 refine qq (out:=ai x1) ag ?_
 refine qq (out:=Pr.i64 x4) ag ?_
 refine qq (out:=Pr.i64 x9) ag ?_
 obtain⟨x21,hx21,h1l⟩:=af h1l
 refine qq (out:=ai x21) (qSubLH Tryz.underlying9 hx21) ?_
 refine qq (out:=(ah).val (ApiToken.mk x16 x20 x9 x21)) (qBuild st56 ⟨(ApiToken.mk x16 [] 0 []),⟨_,rfl,rfl,fun j fd hj hf=>by match j,hj with| 0,h=>exact absurd rfl h| 1,_=>cases hf;rfl| 2,_=>cases hf;rfl| 3,_=>cases hf;rfl|_+4,_=>cases hf⟩,⟨(ApiToken.mk x16 x20 0 []),⟨_,rfl,rfl,fun j fd hj hf=>by match j,hj with| 0,_=>cases hf;rfl| 1,h=>exact absurd rfl h| 2,_=>cases hf;rfl| 3,_=>cases hf;rfl|_+4,_=>cases hf⟩,⟨(ApiToken.mk x16 x20 x9 []),⟨_,rfl,rfl,fun j fd hj hf=>by match j,hj with| 0,_=>cases hf;rfl| 1,_=>cases hf;rfl| 2,h=>exact absurd rfl h| 3,_=>cases hf;rfl|_+4,_=>cases hf⟩,⟨(ApiToken.mk x16 x20 x9 x21),⟨_,rfl,rfl,fun j fd hj hf=>by match j,hj with| 0,_=>cases hf;rfl| 1,_=>cases hf;rfl| 2,_=>cases hf;rfl| 3,h=>exact absurd rfl h|_+4,_=>cases hf⟩,rfl⟩⟩⟩⟩) ?_
 refine qq (out:=aj ah ([(ApiToken.mk x16 x20 x9 x21)]:List ApiToken)) (cr (R:=ah) (a:=(ApiToken.mk x16 x20 x9 x21)) el52 (Nat.le_of_ble_eq_true rfl)) ?_
 obtain⟨x22,hx22,h1l⟩:=af h1l
 refine ip 0 el52 hx22 (fun v23=> ?_)
 refine rq (out:=Pr.is v23) ae ?_
 exact⟨x22,v23,h1l,⟨⟨aa,aa,aa,aa,trivial⟩,Pick.refl _⟩⟩
theorem bn (x1:Int) (r:Ref12Wrong) (h:ax x1=some r):FnP Tryz.prog 41 [Pr.i64 x1] ((ac).val r):=by
 refine el (n:=5) (rs:=[.cell 2 59]) Tryz.func41 rfl Tryz.ntmps41 Tryz.results41 (by decide) (fun s0=> ?_)
 unfold ax at h
 refine W_rs ?_
 refine cb (R:=ac) (z:=(Ref12Wrong.mk 0 0)) Tryz.zeroValue59 (fun _=>⟨_,⟨_,_,rfl,rfl,⟨_,_,rfl,rfl,rfl⟩⟩,rfl⟩) (fun b2=> ?_)
 refine W_rs ?_
 refine rq (out:=Pr.i64 x1) ag ?_
 refine rq (out:=(ac).val (Ref12Wrong.mk x1 120)) (qBuild st59 ⟨(Ref12Wrong.mk x1 0),⟨_,rfl,rfl,fun j fd hj hf=>by match j,hj with| 0,h=>exact absurd rfl h| 1,_=>cases hf;rfl|_+2,_=>cases hf⟩,⟨(Ref12Wrong.mk x1 120),⟨_,rfl,rfl,fun j fd hj hf=>by match j,hj with| 0,_=>cases hf;rfl| 1,h=>exact absurd rfl h|_+2,_=>cases hf⟩,rfl⟩⟩) ?_
 refine aq (R:=ac) (R':=ac) (a:=(Ref12Wrong.mk 0 0)) (y:=(Ref12Wrong.mk x1 120)) 0 Tryz.sizeOf59 (Upd.refl _) ?_
 obtain rfl:=Option.some.inj h
 exact a6 ⟨rfl,[(ac).val (Ref12Wrong.mk x1 120)],⟨yBox 0 ty59 aa,trivial⟩,aa⟩
theorem a7 (x1:List ApiToken) (x2:Int) (x3:List UInt8) (r:Bool) (h:bw x1 x2 x3=some r):FnP Tryz.prog 57 [aj ah x1,Pr.i64 x2,ai x3] (Pr.bool r):=by
 refine bo (n:=36) (rs:=[6]) Tryz.func57 rfl Tryz.ntmps57 ⟨by decide,Tryz.results57⟩ (by decide) (fun s0=> ?_)
 unfold bw at h
 refine W_rs ?_
 refine rq (out:=Pr.bool false) ae ?_
 refine bc (fun e C=>∃(x18:Bool),nf x18=some r/\At [(6,Pr.bool x18)] [] e C) ?_ ?_
 ·rintro e C ⟨x18,h,hat1⟩
  refine W_at hat1 ?_
  clear hat1
  unfold nf at h
  obtain rfl:=Option.some.inj h
  exact a6 ⟨rfl,aa⟩
 refine W_r ?_
 refine rq (out:=Pr.i64 x2) ag ?_
 refine rq (out:=aj ah x1) ag ?_
 refine rq (out:=Pr.i64 (x1.length:Int)) (fi rfl Tryz.underlying52) ?_
 refine rq (out:=Pr.bool (decide (x2<(x1.length:Int)))) qInt ?_
 refine rq (out:=Pr.bool (decide (x2<(x1.length:Int)))) ag ?_
 rcases bv h with⟨hc4,h⟩|⟨hc4,h⟩
 ·refine rqg hc4 (out:=aj ah x1) ag ?_
  refine rqg hc4 (out:=Pr.i64 x2) ag ?_
  obtain⟨x5,hx5,h⟩:=af h
  refine rqg hc4 (out:=bj ah x5) (ef (R:=ah) (l:=x1) Tryz.underlying52 Tryz.sizeOf56 hx5) ?_
  refine rqg hc4 (out:=bj am x5.Text) (e7 (R:=ah) (a:=x5) fld56_1 dp) ?_
  refine rqg hc4 (out:=ai x5.Text) (c5 (R:=am) (a:=x5.Text) ty9) ?_
  refine rqg hc4 (out:=ai x3) ag ?_
  refine rqg hc4 (out:=Pr.bool (x5.Text==x3)) qStr ?_
  refine rq (out:=Pr.bool (x5.Text==x3)) (bu hc4) ?_
  refine rq (out:=Pr.bool (x5.Text==x3)) ag ?_
  rcases bv h with⟨hc6,h⟩|⟨hc6,h⟩
  ·refine rqg hc6 (out:=aj ah x1) ag ?_
   refine rqg hc6 (out:=Pr.i64 x2) ag ?_
   obtain⟨x7,hx7,h⟩:=af h
   refine rqg hc6 (out:=bj ah x7) (ef (R:=ah) (l:=x1) Tryz.underlying52 Tryz.sizeOf56 hx7) ?_
   refine rqg hc6 (out:=bj (Rp.int .i64) x7.Kind) (e7 (R:=ah) (a:=x7) fld56_0 j6) ?_
   refine rqg hc6 (out:=Pr.i64 x7.Kind) (c5 (R:=Rp.int .i64) (a:=x7.Kind) ty3) ?_
   refine rqg hc6 (out:=Pr.bool (x7.Kind != 1)) qInt ?_
   refine rq (out:=Pr.bool (x7.Kind != 1)) (bu hc6) ?_
   refine rq (out:=Pr.bool (x7.Kind != 1)) ag ?_
   rcases bv h with⟨hc8,h⟩|⟨hc8,h⟩
   ·refine rqg hc8 (out:=aj ah x1) ag ?_
    refine rqg hc8 (out:=Pr.i64 x2) ag ?_
    obtain⟨x9,hx9,h⟩:=af h
    refine rqg hc8 (out:=bj ah x9) (ef (R:=ah) (l:=x1) Tryz.underlying52 Tryz.sizeOf56 hx9) ?_
    refine rqg hc8 (out:=bj (Rp.int .i64) x9.Kind) (e7 (R:=ah) (a:=x9) fld56_0 j6) ?_
    refine rqg hc8 (out:=Pr.i64 x9.Kind) (c5 (R:=Rp.int .i64) (a:=x9.Kind) ty3) ?_
    refine rqg hc8 (out:=Pr.bool (x9.Kind != 5)) qInt ?_
    refine rq (out:=Pr.bool (x9.Kind != 5)) (bu hc8) ?_
    refine rq (out:=Pr.bool (x9.Kind != 5)) ae ?_
    exact⟨x9.Kind != 5,h,⟨⟨aa,trivial⟩,Pick.refl _⟩⟩
   refine rno (neT hc8) ?_
   refine rno (neT hc8) ?_
   refine rno (neT hc8) ?_
   refine rno (neT hc8) ?_
   refine rno (neT hc8) ?_
   refine rno (neT hc8) ?_
   refine rq (out:=Pr.bool false) (bp hc8) ?_
   refine rq (out:=Pr.bool false) ae ?_
   exact⟨false,h,⟨⟨aa,trivial⟩,Pick.refl _⟩⟩
  refine rno (neT hc6) ?_
  refine rno (neT hc6) ?_
  refine rno (neT hc6) ?_
  refine rno (neT hc6) ?_
  refine rno (neT hc6) ?_
  refine rno (neT hc6) ?_
  refine rq (out:=Pr.bool false) (bp hc6) ?_
  refine rq (out:=Pr.bool false) ag ?_
  have hc10:false=false:=rfl
  refine rno (neT hc10) ?_
  refine rno (neT hc10) ?_
  refine rno (neT hc10) ?_
  refine rno (neT hc10) ?_
  refine rno (neT hc10) ?_
  refine rno (neT hc10) ?_
  refine rq (out:=Pr.bool false) (bp hc10) ?_
  refine rq (out:=Pr.bool false) ae ?_
  exact⟨false,h,⟨⟨aa,trivial⟩,Pick.refl _⟩⟩
 refine rno (neT hc4) ?_
 refine rno (neT hc4) ?_
 refine rno (neT hc4) ?_
 refine rno (neT hc4) ?_
 refine rno (neT hc4) ?_
 refine rno (neT hc4) ?_
 refine rno (neT hc4) ?_
 refine rq (out:=Pr.bool false) (bp hc4) ?_
 refine rq (out:=Pr.bool false) ag ?_
 have hc12:false=false:=rfl
 refine rno (neT hc12) ?_
 refine rno (neT hc12) ?_
 refine rno (neT hc12) ?_
 refine rno (neT hc12) ?_
 refine rno (neT hc12) ?_
 refine rno (neT hc12) ?_
 refine rq (out:=Pr.bool false) (bp hc12) ?_
 refine rq (out:=Pr.bool false) ag ?_
 have hc16:false=false:=rfl
 refine rno (neT hc16) ?_
 refine rno (neT hc16) ?_
 refine rno (neT hc16) ?_
 refine rno (neT hc16) ?_
 refine rno (neT hc16) ?_
 refine rno (neT hc16) ?_
 refine rq (out:=Pr.bool false) (bp hc16) ?_
 refine rq (out:=Pr.bool false) ae ?_
 exact⟨false,h,⟨⟨aa,trivial⟩,Pick.refl _⟩⟩
theorem gm (x1:List ApiToken) (x2:Int) (r:Bool) (h:gw x1 x2=some r):FnP Tryz.prog 59 [aj ah x1,Pr.i64 x2] (Pr.bool r):=by
 refine bo (n:=17) (rs:=[4]) Tryz.func59 rfl Tryz.ntmps59 ⟨by decide,Tryz.results59⟩ (by decide) (fun s0=> ?_)
 unfold gw at h
 refine W_rs ?_
 refine rq (out:=Pr.bool false) ae ?_
 refine bc (fun e C=>∃(x5:Bool),ref12_name_j1 x5=some r/\At [(4,Pr.bool x5)] [] e C) ?_ ?_
 ·rintro e C ⟨x5,h,hat1⟩
  refine W_at hat1 ?_
  clear hat1
  unfold ref12_name_j1 at h
  obtain rfl:=Option.some.inj h
  exact a6 ⟨rfl,aa⟩
 refine W_r ?_
 refine rq (out:=Pr.i64 x2) ag ?_
 refine rq (out:=aj ah x1) ag ?_
 refine rq (out:=Pr.i64 (x1.length:Int)) (fi rfl Tryz.underlying52) ?_
 refine rq (out:=Pr.bool (decide (x2<(x1.length:Int)))) qInt ?_
 refine rq (out:=Pr.bool (decide (x2<(x1.length:Int)))) ag ?_
 rcases bv h with⟨hc3,h⟩|⟨hc3,h⟩
 ·refine rqg hc3 (out:=aj ah x1) ag ?_
  refine rqg hc3 (out:=Pr.i64 x2) ag ?_
  obtain⟨x4,hx4,h⟩:=af h
  refine rqg hc3 (out:=bj ah x4) (ef (R:=ah) (l:=x1) Tryz.underlying52 Tryz.sizeOf56 hx4) ?_
  refine rqg hc3 (out:=bj (Rp.int .i64) x4.Kind) (e7 (R:=ah) (a:=x4) fld56_0 j6) ?_
  refine rqg hc3 (out:=Pr.i64 x4.Kind) (c5 (R:=Rp.int .i64) (a:=x4.Kind) ty3) ?_
  refine rqg hc3 (out:=Pr.bool (x4.Kind==1)) qInt ?_
  refine rq (out:=Pr.bool (x4.Kind==1)) (bu hc3) ?_
  refine rq (out:=Pr.bool (x4.Kind==1)) ae ?_
  exact⟨x4.Kind==1,h,⟨⟨aa,trivial⟩,Pick.refl _⟩⟩
 refine rno (neT hc3) ?_
 refine rno (neT hc3) ?_
 refine rno (neT hc3) ?_
 refine rno (neT hc3) ?_
 refine rno (neT hc3) ?_
 refine rno (neT hc3) ?_
 refine rq (out:=Pr.bool false) (bp hc3) ?_
 refine rq (out:=Pr.bool false) ae ?_
 exact⟨false,h,⟨⟨aa,trivial⟩,Pick.refl _⟩⟩
theorem ref12_kind_ok (x1:List ApiToken) (x2:Int) (r:Bool) (h:ref12_kind x1 x2=some r):FnP Tryz.prog 58 [aj ah x1,Pr.i64 x2] (Pr.bool r):=by
 refine bo (n:=23) (rs:=[4]) Tryz.func58 rfl Tryz.ntmps58 ⟨by decide,Tryz.results58⟩ (by decide) (fun s0=> ?_)
 unfold ref12_kind at h
 refine W_rs ?_
 refine rq (out:=Pr.bool false) ae ?_
 refine bc (fun e C=>∃(x18:Bool),jx x18=some r/\At [(4,Pr.bool x18)] [] e C) ?_ ?_
 ·rintro e C ⟨x18,h,hat1⟩
  refine W_at hat1 ?_
  clear hat1
  unfold jx at h
  obtain rfl:=Option.some.inj h
  exact a6 ⟨rfl,aa⟩
 refine W_r ?_
 refine rq (out:=aj ah x1) ag ?_
 refine rq (out:=Pr.i64 x2) ag ?_
 obtain⟨x3,hx3,h⟩:=af h
 refine rq (out:=Pr.bool x3) (aw (gm x1 x2 _ hx3)) ?_
 refine rq (out:=Pr.bool x3) ag ?_
 rcases bv h with⟨hc4,h⟩|⟨hc4,h⟩
 ·refine rno (neF hc4) ?_
  refine rno (neF hc4) ?_
  refine rno (neF hc4) ?_
  refine rq (out:=Pr.bool true) (bu hc4) ?_
  refine rq (out:=Pr.bool true) ag ?_
  have hc12:true=true:=rfl
  refine rno (neF hc12) ?_
  refine rno (neF hc12) ?_
  refine rno (neF hc12) ?_
  refine rq (out:=Pr.bool true) (bu hc12) ?_
  refine rq (out:=Pr.bool true) ag ?_
  have hc16:true=true:=rfl
  refine rno (neF hc16) ?_
  refine rno (neF hc16) ?_
  refine rno (neF hc16) ?_
  refine rq (out:=Pr.bool true) (bu hc16) ?_
  refine rq (out:=Pr.bool true) ae ?_
  exact⟨true,h,⟨⟨aa,trivial⟩,Pick.refl _⟩⟩
 refine rqg hc4 (out:=aj ah x1) ag ?_
 refine rqg hc4 (out:=Pr.i64 x2) ag ?_
 obtain⟨x5,hx5,h⟩:=af h
 refine rqg hc4 (out:=Pr.bool x5) (aw (a7 x1 x2 ([105,110,116]:List UInt8) _ hx5)) ?_
 refine rq (out:=Pr.bool x5) (bp hc4) ?_
 refine rq (out:=Pr.bool x5) ag ?_
 rcases bv h with⟨hc6,h⟩|⟨hc6,h⟩
 ·refine rno (neF hc6) ?_
  refine rno (neF hc6) ?_
  refine rno (neF hc6) ?_
  refine rq (out:=Pr.bool true) (bu hc6) ?_
  refine rq (out:=Pr.bool true) ag ?_
  have hc10:true=true:=rfl
  refine rno (neF hc10) ?_
  refine rno (neF hc10) ?_
  refine rno (neF hc10) ?_
  refine rq (out:=Pr.bool true) (bu hc10) ?_
  refine rq (out:=Pr.bool true) ae ?_
  exact⟨true,h,⟨⟨aa,trivial⟩,Pick.refl _⟩⟩
 refine rqg hc6 (out:=aj ah x1) ag ?_
 refine rqg hc6 (out:=Pr.i64 x2) ag ?_
 obtain⟨x7,hx7,h⟩:=af h
 refine rqg hc6 (out:=Pr.bool x7) (aw (a7 x1 x2 ([98,111,111,108,101,97,110]:List UInt8) _ hx7)) ?_
 refine rq (out:=Pr.bool x7) (bp hc6) ?_
 refine rq (out:=Pr.bool x7) ag ?_
 rcases bv h with⟨hc8,h⟩|⟨hc8,h⟩
 ·refine rno (neF hc8) ?_
  refine rno (neF hc8) ?_
  refine rno (neF hc8) ?_
  refine rq (out:=Pr.bool true) (bu hc8) ?_
  refine rq (out:=Pr.bool true) ae ?_
  exact⟨true,h,⟨⟨aa,trivial⟩,Pick.refl _⟩⟩
 refine rqg hc8 (out:=aj ah x1) ag ?_
 refine rqg hc8 (out:=Pr.i64 x2) ag ?_
 obtain⟨x9,hx9,h⟩:=af h
 refine rqg hc8 (out:=Pr.bool x9) (aw (a7 x1 x2 ([118,111,105,100]:List UInt8) _ hx9)) ?_
 refine rq (out:=Pr.bool x9) (bp hc8) ?_
 refine rq (out:=Pr.bool x9) ae ?_
 exact⟨x9,h,⟨⟨aa,trivial⟩,Pick.refl _⟩⟩
end Go.Proofs.YtgkcoicaopilhaaGreatDoor
