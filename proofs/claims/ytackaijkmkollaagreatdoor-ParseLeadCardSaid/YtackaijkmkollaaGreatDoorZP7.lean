/- The code comes to what these functions say (printed by wip/gen/gen.py). -/
import Derived.Test.YtackaijkmkollaaGreatDoorZP6
import Derived.Test.YtackaijkmkollaaGreatDoorZT
set_option linter.unusedSimpArgs false
set_option linter.unusedVariables false
set_option linter.unusedSectionVars false
set_option linter.unusedSectionVars false
set_option maxRecDepth 100000
set_option maxHeartbeats 4000000
namespace Go.Proofs.YtackaijkmkollaaGreatDoor
open Go Go.Cn
variable [Known]
theorem law12_short_ok (x1:List UInt8) (r:Bool) (h:law12_short x1=some r):FnP Tryz.prog 8 [ap x1] (Pr.bool r):=by
 refine ct (n:=6) (rs:=[2]) Tryz.func8 rfl Tryz.ntmps8 ⟨by decide,Tryz.results8⟩ (by decide) (fun s0=> ?_)
 unfold law12_short at h
 refine W_rs ?_
 refine rq (out:=Pr.bool false) ah ?_
 refine W_rs ?_
 refine rq (out:=ap x1) ai ?_
 refine rq (out:=Pr.i64 (x1.length:Int)) (qLenS rfl Tryz.underlying9) ?_
 refine rq (out:=Pr.bool (decide ((x1.length:Int)<=2500))) qInt ?_
 refine rq (out:=Pr.bool (decide ((x1.length:Int)<=2500))) ah ?_
 obtain rfl:=Option.some.inj h
 exact bg ⟨rfl,aa⟩
theorem ref03_between_ok (x1:List UInt8) (x2:Int) (r:Int × Bool) (h:ref03_between x1 x2=some r):FnP Tryz.prog 25 [ap x1,Pr.i64 x2] (cc [Pr.i64 r.1,Pr.bool r.2]):=by
 refine ct (n:=103) (rs:=[4,5]) Tryz.func25 rfl Tryz.ntmps25 ⟨by decide,Tryz.results25⟩ (by decide) (fun s0=> ?_)
 unfold ref03_between at h
 refine W_rs ?_
 refine rq (out:=Pr.i64 0) ah ?_
 refine rq (out:=Pr.bool false) ah ?_
 refine br ?_
 refine bd ?_
 obtain⟨z2l,hz2,h⟩:=ak h
 obtain⟨n2,hN2⟩:=cp hz2
 clear hz2
 refine gz 0 (fun e C=>∃(x3:Int),k3 x3=some r/\At [(1,Pr.i64 x3)] [] e C) ?_ ?_
 ·rintro e C ⟨x3,h,hat1⟩
  refine W_at hat1 ?_
  clear hat1
  unfold k3 at h
  refine W_rs ?_
  refine rq (out:=Pr.i64 x3) ai ?_
  refine rq (out:=Pr.i64 x3) ah ?_
  refine rq (out:=Pr.bool true) ah ?_
  obtain rfl:=Option.some.inj h
  exact bg ⟨rfl,aa⟩
 refine ja (fun m e C=>∃(x3:Int),fw (fun s=>bt x1 s) m x3=some z2l/\At [(0,ap x1),(1,Pr.i64 x3)] [] e C) n2 ⟨x2,hN2,⟨⟨aa,aa,trivial⟩,Pick.refl _⟩⟩ ?_
 clear hN2
 rintro m e C ⟨x3,hN2,hatl2⟩
 refine W_at hatl2 ?_
 clear hatl2
 obtain⟨m2,w2l,rfl,h2l,hn2,ho2⟩:=cg hN2
 clear hN2
 replace h2l:bt x1 x3=some w2l:=h2l
 unfold bt at h2l
 refine br ?_
 refine W_rs ?_
 refine rq (out:=Pr.i64 x3) ai ?_
 refine rq (out:=ap x1) ai ?_
 refine rq (out:=Pr.i64 (x1.length:Int)) (qLenS rfl Tryz.underlying9) ?_
 refine rq (out:=Pr.bool (decide (x3<(x1.length:Int)))) qInt ?_
 refine az (b:=decide (x3<(x1.length:Int))) rfl (fun hc5=> ?_) (fun hc5=> ?_)
 ·replace h2l:=iteT hc5 h2l
  refine a7 ?_
  refine bd ?_
  refine W_rs ?_
  refine rq (out:=ap x1) ai ?_
  refine rq (out:=Pr.i64 x3) ai ?_
  obtain⟨x6,hx6,h2l⟩:=ak h2l
  refine rq (out:=Pr.u8 x6) (qIdxS Tryz.underlying9 hx6) ?_
  refine rq (out:=Pr.u8 x6) ah ?_
  refine br ?_
  refine bz (fun e C=>∃(x14:Bool),c0 x3 x1 x6 x14=some w2l/\At [(0,ap x1),(1,Pr.i64 x3),(6,Pr.u8 x6),(28,Pr.bool x14)] [] e C) ?_ ?_
  ·rintro e C ⟨x14,h2l,hat10⟩
   refine W_at hat10 ?_
   clear hat10
   unfold c0 at h2l
   refine az (b:=x14) rfl (fun hc15=> ?_) (fun hc15=> ?_)
   ·replace h2l:=iteT hc15 h2l
    refine W_rs ?_
    refine rq (out:=Pr.i64 x3) ai ?_
    refine rq (out:=Pr.i64 (w64 (x3+1))) qInt ?_
    refine rq (out:=Pr.i64 (w64 (x3+1))) ah ?_
    refine fx ?_
    exact⟨m2,Nat.lt_succ_self _,w64 (x3+1),hn2 _ (Option.some.inj h2l).symm,⟨⟨aa,aa,trivial⟩,Pick.refl _⟩⟩
   replace h2l:=iteF hc15 h2l
   refine a7 ?_
   refine br ?_
   refine bz (fun e C=>∃(x25:Bool),eb x3 x1 x25=some w2l/\At [(0,ap x1),(1,Pr.i64 x3),(53,Pr.bool x25)] [] e C) ?_ ?_
   ·rintro e C ⟨x25,h2l,hat9⟩
    refine W_at hat9 ?_
    clear hat9
    unfold eb at h2l
    refine az (b:=x25) rfl (fun hc26=> ?_) (fun hc26=> ?_)
    ·replace h2l:=iteT hc26 h2l
     refine W_rs ?_
     refine rq (out:=Pr.i64 x3) ai ?_
     refine rq (out:=Pr.i64 x3) ah ?_
     refine rq (out:=Pr.bool true) ah ?_
     obtain rfl:=ho2 _ (Option.some.inj h2l).symm
     replace h:some (x3,true)=some r:=h
     obtain rfl:=Option.some.inj h
     exact bg ⟨rfl,aa⟩
    replace h2l:=iteF hc26 h2l
    refine a7 ?_
    refine br ?_
    refine W_rs ?_
    refine rq (out:=ap x1) ai ?_
    refine rq (out:=Pr.i64 x3) ai ?_
    refine rq (out:=Pr.i64 (w64 (x3+1))) qInt ?_
    obtain⟨x27,hx27,h2l⟩:=ak h2l
    refine rq (out:=Pr.u8 x27) (qIdxS Tryz.underlying9 hx27) ?_
    refine rq (out:=Pr.bool (x27==47)) qInt ?_
    refine az (b:=x27==47) rfl (fun hc28=> ?_) (fun hc28=> ?_)
    ·replace h2l:=iteT hc28 h2l
     refine br ?_
     refine bd ?_
     obtain⟨z4l,hz4,h2l⟩:=ak h2l
     obtain⟨n4,hN4⟩:=cp hz4
     clear hz4
     refine gz 2 (fun e C=>∃(x29:Int),ref03_between_k3 x29=some w2l/\At [(0,ap x1),(1,Pr.i64 x29)] [] e C) ?_ ?_
     ·rintro e C ⟨x29,h2l,hat3⟩
      refine W_at hat3 ?_
      clear hat3
      unfold ref03_between_k3 at h2l
      refine fx ?_
      exact⟨m2,Nat.lt_succ_self _,x29,hn2 _ (Option.some.inj h2l).symm,⟨⟨aa,aa,trivial⟩,Pick.refl _⟩⟩
     refine ja (fun m e C=>∃(x29:Int),fw (fun s=>fv x1 s) m x29=some z4l/\At [(0,ap x1),(1,Pr.i64 x29)] [] e C) n4 ⟨x3,hN4,⟨⟨aa,aa,trivial⟩,Pick.refl _⟩⟩ ?_
     clear hN4
     rintro m e C ⟨x29,hN4,hatl4⟩
     refine W_at hatl4 ?_
     clear hatl4
     obtain⟨m4,w4l,rfl,h4l,hn4,ho4⟩:=cg hN4
     clear hN4
     replace h4l:fv x1 x29=some w4l:=h4l
     unfold fv at h4l
     refine br ?_
     refine bz (fun e C=>∃(x33:Bool),jp x29 x33=some w4l/\At [(0,ap x1),(1,Pr.i64 x29),(69,Pr.bool x33)] [] e C) ?_ ?_
     ·rintro e C ⟨x33,h4l,hat5⟩
      refine W_at hat5 ?_
      clear hat5
      unfold jp at h4l
      refine az (b:=x33) rfl (fun hc34=> ?_) (fun hc34=> ?_)
      ·replace h4l:=iteT hc34 h4l
       refine a7 ?_
       refine bd ?_
       refine W_r ?_
       refine rq (out:=Pr.i64 x29) ai ?_
       refine rq (out:=Pr.i64 (w64 (x29+1))) qInt ?_
       refine rq (out:=Pr.i64 (w64 (x29+1))) ah ?_
       exact⟨m4,Nat.lt_succ_self _,w64 (x29+1),hn4 _ (Option.some.inj h4l).symm,⟨⟨aa,aa,trivial⟩,Pick.refl _⟩⟩
      replace h4l:=iteF hc34 h4l
      refine fx ?_
      obtain rfl:=ho4 _ (Option.some.inj h4l).symm
      exact⟨x29,h2l,⟨⟨aa,aa,trivial⟩,Pick.refl _⟩⟩
     refine W_r ?_
     refine rq (out:=Pr.i64 x29) ai ?_
     refine rq (out:=ap x1) ai ?_
     refine rq (out:=Pr.i64 (x1.length:Int)) (qLenS rfl Tryz.underlying9) ?_
     refine rq (out:=Pr.bool (decide (x29<(x1.length:Int)))) qInt ?_
     refine rq (out:=Pr.bool (decide (x29<(x1.length:Int)))) ai ?_
     rcases bi h4l with⟨hc31,h4l⟩|⟨hc31,h4l⟩
     ·refine rqg hc31 (out:=ap x1) ai ?_
      refine rqg hc31 (out:=Pr.i64 x29) ai ?_
      obtain⟨x32,hx32,h4l⟩:=ak h4l
      refine rqg hc31 (out:=Pr.u8 x32) (qIdxS Tryz.underlying9 hx32) ?_
      refine rqg hc31 (out:=Pr.bool (x32 != 10)) qInt ?_
      refine rq (out:=Pr.bool (x32 != 10)) (bo hc31) ?_
      exact⟨x32 != 10,h4l,⟨⟨aa,aa,aa,trivial⟩,Pick.refl _⟩⟩
     refine rno (neT hc31) ?_
     refine rno (neT hc31) ?_
     refine rno (neT hc31) ?_
     refine rno (neT hc31) ?_
     refine rq (out:=Pr.bool false) (aw hc31) ?_
     exact⟨false,h4l,⟨⟨aa,aa,aa,trivial⟩,Pick.refl _⟩⟩
    replace h2l:=iteF hc28 h2l
    refine a7 ?_
    refine W_rs ?_
    refine rq (out:=Pr.i64 x3) ai ?_
    refine rq (out:=Pr.i64 (w64 (x3+2))) qInt ?_
    refine rq (out:=Pr.i64 (w64 (x3+2))) ah ?_
    refine br ?_
    refine bd ?_
    obtain⟨z7l,hz7,h2l⟩:=ak h2l
    obtain⟨n7,hN7⟩:=cp hz7
    clear hz7
    refine gz 4 (fun e C=>∃(x35:Int),jo x1 x3 x35=some w2l/\At [(0,ap x1),(1,Pr.i64 x3),(7,Pr.i64 x35)] [] e C) ?_ ?_
    ·rintro e C ⟨x35,h2l,hat6⟩
     refine W_at hat6 ?_
     clear hat6
     unfold jo at h2l
     refine br ?_
     refine W_rs ?_
     refine rq (out:=Pr.i64 x35) ai ?_
     refine rq (out:=Pr.i64 (w64 (x35+1))) qInt ?_
     refine rq (out:=ap x1) ai ?_
     refine rq (out:=Pr.i64 (x1.length:Int)) (qLenS rfl Tryz.underlying9) ?_
     refine rq (out:=Pr.bool (decide ((w64 (x35+1))≥(x1.length:Int)))) qInt ?_
     refine az (b:=decide ((w64 (x35+1))≥(x1.length:Int))) rfl (fun hc43=> ?_) (fun hc43=> ?_)
     ·replace h2l:=iteT hc43 h2l
      refine W_rs ?_
      refine rq (out:=Pr.i64 x3) ai ?_
      refine rq (out:=Pr.i64 x3) ah ?_
      refine rq (out:=Pr.bool false) ah ?_
      obtain rfl:=ho2 _ (Option.some.inj h2l).symm
      replace h:some (x3,false)=some r:=h
      obtain rfl:=Option.some.inj h
      exact bg ⟨rfl,aa⟩
     replace h2l:=iteF hc43 h2l
     refine a7 ?_
     refine W_r ?_
     refine rq (out:=Pr.i64 x35) ai ?_
     refine rq (out:=Pr.i64 (w64 (x35+2))) qInt ?_
     refine rq (out:=Pr.i64 (w64 (x35+2))) ah ?_
     exact⟨m2,Nat.lt_succ_self _,w64 (x35+2),hn2 _ (Option.some.inj h2l).symm,⟨⟨aa,aa,trivial⟩,Pick.refl _⟩⟩
    refine ja (fun m e C=>∃(x35:Int),fw (fun s=>fu x1 s) m x35=some z7l/\At [(0,ap x1),(1,Pr.i64 x3),(7,Pr.i64 x35)] [] e C) n7 ⟨w64 (x3+2),hN7,⟨⟨aa,aa,aa,trivial⟩,Pick.refl _⟩⟩ ?_
    clear hN7
    rintro m e C ⟨x35,hN7,hatl7⟩
    refine W_at hatl7 ?_
    clear hatl7
    obtain⟨m7,w7l,rfl,h7l,hn7,ho7⟩:=cg hN7
    clear hN7
    replace h7l:fu x1 x35=some w7l:=h7l
    unfold fu at h7l
    refine br ?_
    refine bz (fun e C=>∃(x41:Bool),ie x35 x41=some w7l/\At [(0,ap x1),(1,Pr.i64 x3),(7,Pr.i64 x35),(91,Pr.bool x41)] [] e C) ?_ ?_
    ·rintro e C ⟨x41,h7l,hat8⟩
     refine W_at hat8 ?_
     clear hat8
     unfold ie at h7l
     refine az (b:=x41) rfl (fun hc42=> ?_) (fun hc42=> ?_)
     ·replace h7l:=iteT hc42 h7l
      refine a7 ?_
      refine bd ?_
      refine W_r ?_
      refine rq (out:=Pr.i64 x35) ai ?_
      refine rq (out:=Pr.i64 (w64 (x35+1))) qInt ?_
      refine rq (out:=Pr.i64 (w64 (x35+1))) ah ?_
      exact⟨m7,Nat.lt_succ_self _,w64 (x35+1),hn7 _ (Option.some.inj h7l).symm,⟨⟨aa,aa,aa,trivial⟩,Pick.refl _⟩⟩
     replace h7l:=iteF hc42 h7l
     refine fx ?_
     obtain rfl:=ho7 _ (Option.some.inj h7l).symm
     exact⟨x35,h2l,⟨⟨aa,aa,aa,trivial⟩,Pick.refl _⟩⟩
    refine W_r ?_
    refine rq (out:=Pr.i64 x35) ai ?_
    refine rq (out:=Pr.i64 (w64 (x35+1))) qInt ?_
    refine rq (out:=ap x1) ai ?_
    refine rq (out:=Pr.i64 (x1.length:Int)) (qLenS rfl Tryz.underlying9) ?_
    refine rq (out:=Pr.bool (decide ((w64 (x35+1))<(x1.length:Int)))) qInt ?_
    refine rq (out:=Pr.bool (decide ((w64 (x35+1))<(x1.length:Int)))) ai ?_
    rcases bi h7l with⟨hc37,h7l⟩|⟨hc37,h7l⟩
    ·refine rqg hc37 (out:=ap x1) ai ?_
     refine rqg hc37 (out:=Pr.i64 x35) ai ?_
     obtain⟨x38,hx38,h7l⟩:=ak h7l
     refine rqg hc37 (out:=Pr.u8 x38) (qIdxS Tryz.underlying9 hx38) ?_
     refine rqg hc37 (out:=Pr.bool (x38 != 42)) qInt ?_
     refine rqg hc37 (out:=Pr.bool (x38 != 42)) ai ?_
     rcases bi h7l with⟨hc39,h7l⟩|⟨hc39,h7l⟩
     ·refine rno (neF hc39) ?_
      refine rno (neF hc39) ?_
      refine rno (neF hc39) ?_
      refine rno (neF hc39) ?_
      refine rno (neF hc39) ?_
      refine rqg hc37 (out:=Pr.bool true) (bo hc39) ?_
      refine rq (out:=Pr.bool true) (bo hc37) ?_
      exact⟨true,h7l,⟨⟨aa,aa,aa,aa,trivial⟩,Pick.refl _⟩⟩
     refine rqg hc39 (out:=ap x1) ai ?_
     refine rqg hc39 (out:=Pr.i64 x35) ai ?_
     refine rqg hc39 (out:=Pr.i64 (w64 (x35+1))) qInt ?_
     obtain⟨x40,hx40,h7l⟩:=ak h7l
     refine rqg hc39 (out:=Pr.u8 x40) (qIdxS Tryz.underlying9 hx40) ?_
     refine rqg hc39 (out:=Pr.bool (x40 != 47)) qInt ?_
     refine rqg hc37 (out:=Pr.bool (x40 != 47)) (aw hc39) ?_
     refine rq (out:=Pr.bool (x40 != 47)) (bo hc37) ?_
     exact⟨x40 != 47,h7l,⟨⟨aa,aa,aa,aa,trivial⟩,Pick.refl _⟩⟩
    refine rno (neT hc37) ?_
    refine rno (neT hc37) ?_
    refine rno (neT hc37) ?_
    refine rno (neT hc37) ?_
    refine rno (neT hc37) ?_
    refine rnoU ?_
    refine rnoU ?_
    refine rnoU ?_
    refine rnoU ?_
    refine rnoU ?_
    refine rno (neT hc37) ?_
    refine rq (out:=Pr.bool false) (aw hc37) ?_
    exact⟨false,h7l,⟨⟨aa,aa,aa,aa,trivial⟩,Pick.refl _⟩⟩
   refine W_r ?_
   refine rq (out:=Pr.i64 x3) ai ?_
   refine rq (out:=Pr.i64 (w64 (x3+1))) qInt ?_
   refine rq (out:=ap x1) ai ?_
   refine rq (out:=Pr.i64 (x1.length:Int)) (qLenS rfl Tryz.underlying9) ?_
   refine rq (out:=Pr.bool (decide ((w64 (x3+1))≥(x1.length:Int)))) qInt ?_
   refine rq (out:=Pr.bool (decide ((w64 (x3+1))≥(x1.length:Int)))) ai ?_
   rcases bi h2l with⟨hc16,h2l⟩|⟨hc16,h2l⟩
   ·refine rno (neF hc16) ?_
    refine rno (neF hc16) ?_
    refine rq (out:=Pr.bool true) (bo hc16) ?_
    refine rq (out:=Pr.bool true) ai ?_
    have hc21:true=true:=rfl
    refine rno (neF hc21) ?_
    refine rno (neF hc21) ?_
    refine rno (neF hc21) ?_
    refine rno (neF hc21) ?_
    refine rno (neF hc21) ?_
    refine rno (neF hc21) ?_
    refine rnoU ?_
    refine rnoU ?_
    refine rnoU ?_
    refine rnoU ?_
    refine rnoU ?_
    refine rno (neF hc21) ?_
    refine rq (out:=Pr.bool true) (bo hc21) ?_
    exact⟨true,h2l,⟨⟨aa,aa,aa,trivial⟩,Pick.refl _⟩⟩
   refine rqg hc16 (out:=Pr.u8 x6) ai ?_
   refine rqg hc16 (out:=Pr.bool (x6 != 47)) qInt ?_
   refine rq (out:=Pr.bool (x6 != 47)) (aw hc16) ?_
   refine rq (out:=Pr.bool (x6 != 47)) ai ?_
   rcases bi h2l with⟨hc17,h2l⟩|⟨hc17,h2l⟩
   ·refine rno (neF hc17) ?_
    refine rno (neF hc17) ?_
    refine rno (neF hc17) ?_
    refine rno (neF hc17) ?_
    refine rno (neF hc17) ?_
    refine rno (neF hc17) ?_
    refine rnoU ?_
    refine rnoU ?_
    refine rnoU ?_
    refine rnoU ?_
    refine rnoU ?_
    refine rno (neF hc17) ?_
    refine rq (out:=Pr.bool true) (bo hc17) ?_
    exact⟨true,h2l,⟨⟨aa,aa,aa,trivial⟩,Pick.refl _⟩⟩
   refine rqg hc17 (out:=ap x1) ai ?_
   refine rqg hc17 (out:=Pr.i64 x3) ai ?_
   refine rqg hc17 (out:=Pr.i64 (w64 (x3+1))) qInt ?_
   obtain⟨x18,hx18,h2l⟩:=ak h2l
   refine rqg hc17 (out:=Pr.u8 x18) (qIdxS Tryz.underlying9 hx18) ?_
   refine rqg hc17 (out:=Pr.bool (x18 != 47)) qInt ?_
   refine rqg hc17 (out:=Pr.bool (x18 != 47)) ai ?_
   rcases bi h2l with⟨hc19,h2l⟩|⟨hc19,h2l⟩
   ·refine rqg hc19 (out:=ap x1) ai ?_
    refine rqg hc19 (out:=Pr.i64 x3) ai ?_
    refine rqg hc19 (out:=Pr.i64 (w64 (x3+1))) qInt ?_
    obtain⟨x20,hx20,h2l⟩:=ak h2l
    refine rqg hc19 (out:=Pr.u8 x20) (qIdxS Tryz.underlying9 hx20) ?_
    refine rqg hc19 (out:=Pr.bool (x20 != 42)) qInt ?_
    refine rqg hc17 (out:=Pr.bool (x20 != 42)) (bo hc19) ?_
    refine rq (out:=Pr.bool (x20 != 42)) (aw hc17) ?_
    exact⟨x20 != 42,h2l,⟨⟨aa,aa,aa,trivial⟩,Pick.refl _⟩⟩
   refine rno (neT hc19) ?_
   refine rno (neT hc19) ?_
   refine rno (neT hc19) ?_
   refine rno (neT hc19) ?_
   refine rno (neT hc19) ?_
   refine rqg hc17 (out:=Pr.bool false) (aw hc19) ?_
   refine rq (out:=Pr.bool false) (aw hc17) ?_
   exact⟨false,h2l,⟨⟨aa,aa,aa,trivial⟩,Pick.refl _⟩⟩
  refine W_r ?_
  refine rq (out:=Pr.u8 x6) ai ?_
  refine rq (out:=Pr.bool (x6==32)) qInt ?_
  refine rq (out:=Pr.bool (x6==32)) ai ?_
  rcases bi h2l with⟨hc7,h2l⟩|⟨hc7,h2l⟩
  ·refine rno (neF hc7) ?_
   refine rno (neF hc7) ?_
   refine rq (out:=Pr.bool true) (bo hc7) ?_
   refine rq (out:=Pr.bool true) ai ?_
   have hc11:true=true:=rfl
   refine rno (neF hc11) ?_
   refine rno (neF hc11) ?_
   refine rq (out:=Pr.bool true) (bo hc11) ?_
   refine rq (out:=Pr.bool true) ai ?_
   have hc13:true=true:=rfl
   refine rno (neF hc13) ?_
   refine rno (neF hc13) ?_
   refine rq (out:=Pr.bool true) (bo hc13) ?_
   exact⟨true,h2l,⟨⟨aa,aa,aa,aa,trivial⟩,Pick.refl _⟩⟩
  refine rqg hc7 (out:=Pr.u8 x6) ai ?_
  refine rqg hc7 (out:=Pr.bool (x6==9)) qInt ?_
  refine rq (out:=Pr.bool (x6==9)) (aw hc7) ?_
  refine rq (out:=Pr.bool (x6==9)) ai ?_
  rcases bi h2l with⟨hc8,h2l⟩|⟨hc8,h2l⟩
  ·refine rno (neF hc8) ?_
   refine rno (neF hc8) ?_
   refine rq (out:=Pr.bool true) (bo hc8) ?_
   refine rq (out:=Pr.bool true) ai ?_
   have hc10:true=true:=rfl
   refine rno (neF hc10) ?_
   refine rno (neF hc10) ?_
   refine rq (out:=Pr.bool true) (bo hc10) ?_
   exact⟨true,h2l,⟨⟨aa,aa,aa,aa,trivial⟩,Pick.refl _⟩⟩
  refine rqg hc8 (out:=Pr.u8 x6) ai ?_
  refine rqg hc8 (out:=Pr.bool (x6==10)) qInt ?_
  refine rq (out:=Pr.bool (x6==10)) (aw hc8) ?_
  refine rq (out:=Pr.bool (x6==10)) ai ?_
  rcases bi h2l with⟨hc9,h2l⟩|⟨hc9,h2l⟩
  ·refine rno (neF hc9) ?_
   refine rno (neF hc9) ?_
   refine rq (out:=Pr.bool true) (bo hc9) ?_
   exact⟨true,h2l,⟨⟨aa,aa,aa,aa,trivial⟩,Pick.refl _⟩⟩
  refine rqg hc9 (out:=Pr.u8 x6) ai ?_
  refine rqg hc9 (out:=Pr.bool (x6==13)) qInt ?_
  refine rq (out:=Pr.bool (x6==13)) (aw hc9) ?_
  exact⟨x6==13,h2l,⟨⟨aa,aa,aa,aa,trivial⟩,Pick.refl _⟩⟩
 replace h2l:=iteF hc5 h2l
 refine fx ?_
 obtain rfl:=ho2 _ (Option.some.inj h2l).symm
 exact⟨x3,h,⟨⟨aa,trivial⟩,Pick.refl _⟩⟩
theorem ref03_letter_ok (x1:Int) (r:Bool) (h:ke x1=some r):FnP Tryz.prog 27 [Pr.u8 x1] (Pr.bool r):=by
 refine ct (n:=21) (rs:=[2]) Tryz.func27 rfl Tryz.ntmps27 ⟨by decide,Tryz.results27⟩ (by decide) (fun s0=> ?_)
 unfold ke at h
 refine W_rs ?_
 refine rq (out:=Pr.bool false) ah ?_
 refine bz (fun e C=>∃(x13:Bool),em x13=some r/\At [(2,Pr.bool x13)] [] e C) ?_ ?_
 ·rintro e C ⟨x13,h,hat1⟩
  refine W_at hat1 ?_
  clear hat1
  unfold em at h
  obtain rfl:=Option.some.inj h
  exact bg ⟨rfl,aa⟩
 refine W_r ?_
 refine rq (out:=Pr.u8 x1) ai ?_
 refine rq (out:=Pr.bool (decide (x1≥97))) qInt ?_
 refine rq (out:=Pr.bool (decide (x1≥97))) ai ?_
 rcases bi h with⟨hc2,h⟩|⟨hc2,h⟩
 ·refine rqg hc2 (out:=Pr.u8 x1) ai ?_
  refine rqg hc2 (out:=Pr.bool (decide (x1<=122))) qInt ?_
  refine rq (out:=Pr.bool (decide (x1<=122))) (bo hc2) ?_
  refine rq (out:=Pr.bool (decide (x1<=122))) ai ?_
  rcases bi h with⟨hc3,h⟩|⟨hc3,h⟩
  ·refine rno (neF hc3) ?_
   refine rno (neF hc3) ?_
   refine rno (neF hc3) ?_
   refine rnoU ?_
   refine rnoU ?_
   refine rno (neF hc3) ?_
   refine rq (out:=Pr.bool true) (bo hc3) ?_
   refine rq (out:=Pr.bool true) ai ?_
   have hc7:true=true:=rfl
   refine rno (neF hc7) ?_
   refine rno (neF hc7) ?_
   refine rq (out:=Pr.bool true) (bo hc7) ?_
   refine rq (out:=Pr.bool true) ah ?_
   exact⟨true,h,⟨⟨aa,trivial⟩,Pick.refl _⟩⟩
  refine rqg hc3 (out:=Pr.u8 x1) ai ?_
  refine rqg hc3 (out:=Pr.bool (decide (x1≥65))) qInt ?_
  refine rqg hc3 (out:=Pr.bool (decide (x1≥65))) ai ?_
  rcases bi h with⟨hc4,h⟩|⟨hc4,h⟩
  ·refine rqg hc4 (out:=Pr.u8 x1) ai ?_
   refine rqg hc4 (out:=Pr.bool (decide (x1<=90))) qInt ?_
   refine rqg hc3 (out:=Pr.bool (decide (x1<=90))) (bo hc4) ?_
   refine rq (out:=Pr.bool (decide (x1<=90))) (aw hc3) ?_
   refine rq (out:=Pr.bool (decide (x1<=90))) ai ?_
   rcases bi h with⟨hc5,h⟩|⟨hc5,h⟩
   ·refine rno (neF hc5) ?_
    refine rno (neF hc5) ?_
    refine rq (out:=Pr.bool true) (bo hc5) ?_
    refine rq (out:=Pr.bool true) ah ?_
    exact⟨true,h,⟨⟨aa,trivial⟩,Pick.refl _⟩⟩
   refine rqg hc5 (out:=Pr.u8 x1) ai ?_
   refine rqg hc5 (out:=Pr.bool (x1==95)) qInt ?_
   refine rq (out:=Pr.bool (x1==95)) (aw hc5) ?_
   refine rq (out:=Pr.bool (x1==95)) ah ?_
   exact⟨x1==95,h,⟨⟨aa,trivial⟩,Pick.refl _⟩⟩
  refine rno (neT hc4) ?_
  refine rno (neT hc4) ?_
  refine rqg hc3 (out:=Pr.bool false) (aw hc4) ?_
  refine rq (out:=Pr.bool false) (aw hc3) ?_
  refine rq (out:=Pr.bool false) ai ?_
  have hc6:false=false:=rfl
  refine rqg hc6 (out:=Pr.u8 x1) ai ?_
  refine rqg hc6 (out:=Pr.bool (x1==95)) qInt ?_
  refine rq (out:=Pr.bool (x1==95)) (aw hc6) ?_
  refine rq (out:=Pr.bool (x1==95)) ah ?_
  exact⟨x1==95,h,⟨⟨aa,trivial⟩,Pick.refl _⟩⟩
 refine rno (neT hc2) ?_
 refine rno (neT hc2) ?_
 refine rq (out:=Pr.bool false) (aw hc2) ?_
 refine rq (out:=Pr.bool false) ai ?_
 have hc8:false=false:=rfl
 refine rqg hc8 (out:=Pr.u8 x1) ai ?_
 refine rqg hc8 (out:=Pr.bool (decide (x1≥65))) qInt ?_
 refine rqg hc8 (out:=Pr.bool (decide (x1≥65))) ai ?_
 rcases bi h with⟨hc9,h⟩|⟨hc9,h⟩
 ·refine rqg hc9 (out:=Pr.u8 x1) ai ?_
  refine rqg hc9 (out:=Pr.bool (decide (x1<=90))) qInt ?_
  refine rqg hc8 (out:=Pr.bool (decide (x1<=90))) (bo hc9) ?_
  refine rq (out:=Pr.bool (decide (x1<=90))) (aw hc8) ?_
  refine rq (out:=Pr.bool (decide (x1<=90))) ai ?_
  rcases bi h with⟨hc10,h⟩|⟨hc10,h⟩
  ·refine rno (neF hc10) ?_
   refine rno (neF hc10) ?_
   refine rq (out:=Pr.bool true) (bo hc10) ?_
   refine rq (out:=Pr.bool true) ah ?_
   exact⟨true,h,⟨⟨aa,trivial⟩,Pick.refl _⟩⟩
  refine rqg hc10 (out:=Pr.u8 x1) ai ?_
  refine rqg hc10 (out:=Pr.bool (x1==95)) qInt ?_
  refine rq (out:=Pr.bool (x1==95)) (aw hc10) ?_
  refine rq (out:=Pr.bool (x1==95)) ah ?_
  exact⟨x1==95,h,⟨⟨aa,trivial⟩,Pick.refl _⟩⟩
 refine rno (neT hc9) ?_
 refine rno (neT hc9) ?_
 refine rqg hc8 (out:=Pr.bool false) (aw hc9) ?_
 refine rq (out:=Pr.bool false) (aw hc8) ?_
 refine rq (out:=Pr.bool false) ai ?_
 have hc11:false=false:=rfl
 refine rqg hc11 (out:=Pr.u8 x1) ai ?_
 refine rqg hc11 (out:=Pr.bool (x1==95)) qInt ?_
 refine rq (out:=Pr.bool (x1==95)) (aw hc11) ?_
 refine rq (out:=Pr.bool (x1==95)) ah ?_
 exact⟨x1==95,h,⟨⟨aa,trivial⟩,Pick.refl _⟩⟩
theorem ref03_digit_ok (x1:Int) (r:Bool) (h:kb x1=some r):FnP Tryz.prog 28 [Pr.u8 x1] (Pr.bool r):=by
 refine ct (n:=9) (rs:=[2]) Tryz.func28 rfl Tryz.ntmps28 ⟨by decide,Tryz.results28⟩ (by decide) (fun s0=> ?_)
 unfold kb at h
 refine W_rs ?_
 refine rq (out:=Pr.bool false) ah ?_
 refine bz (fun e C=>∃(x3:Bool),ref03_digit_j1 x3=some r/\At [(2,Pr.bool x3)] [] e C) ?_ ?_
 ·rintro e C ⟨x3,h,hat1⟩
  refine W_at hat1 ?_
  clear hat1
  unfold ref03_digit_j1 at h
  obtain rfl:=Option.some.inj h
  exact bg ⟨rfl,aa⟩
 refine W_r ?_
 refine rq (out:=Pr.u8 x1) ai ?_
 refine rq (out:=Pr.bool (decide (x1≥48))) qInt ?_
 refine rq (out:=Pr.bool (decide (x1≥48))) ai ?_
 rcases bi h with⟨hc2,h⟩|⟨hc2,h⟩
 ·refine rqg hc2 (out:=Pr.u8 x1) ai ?_
  refine rqg hc2 (out:=Pr.bool (decide (x1<=57))) qInt ?_
  refine rq (out:=Pr.bool (decide (x1<=57))) (bo hc2) ?_
  refine rq (out:=Pr.bool (decide (x1<=57))) ah ?_
  exact⟨decide (x1<=57),h,⟨⟨aa,trivial⟩,Pick.refl _⟩⟩
 refine rno (neT hc2) ?_
 refine rno (neT hc2) ?_
 refine rq (out:=Pr.bool false) (aw hc2) ?_
 refine rq (out:=Pr.bool false) ah ?_
 exact⟨false,h,⟨⟨aa,trivial⟩,Pick.refl _⟩⟩
theorem ref03_Kept_ok (x1:List UInt8) (r:Bool) (h:ref03_Kept x1=some r):FnP Tryz.prog 29 [ap x1] (Pr.bool r):=by
 refine ct (n:=18) (rs:=[2]) Tryz.func29 rfl Tryz.ntmps29 ⟨by decide,Tryz.results29⟩ (by decide) (fun s0=> ?_)
 unfold ref03_Kept at h
 refine W_rs ?_
 refine rq (out:=Pr.bool false) ah ?_
 refine W_rs ?_
 refine rq (out:=au a8 ([([99,108,97,115,115]:List UInt8),([101,120,116,101,110,100,115]:List UInt8),([115,116,97,116,105,99]:List UInt8),([118,111,105,100]:List UInt8),([105,110,116]:List UInt8),([98,111,111,108,101,97,110]:List UInt8),([105,102]:List UInt8),([101,108,115,101]:List UInt8),([119,104,105,108,101]:List UInt8),([114,101,116,117,114,110]:List UInt8),([112,114,105,110,116]:List UInt8),([116,114,117,101]:List UInt8),([102,97,108,115,101]:List UInt8),([110,117,108,108]:List UInt8),([116,104,105,115]:List UInt8),([110,101,119]:List UInt8)]:List (List UInt8))) (qBuildSlice (R:=a8) (ls:=([([99,108,97,115,115]:List UInt8),([101,120,116,101,110,100,115]:List UInt8),([115,116,97,116,105,99]:List UInt8),([118,111,105,100]:List UInt8),([105,110,116]:List UInt8),([98,111,111,108,101,97,110]:List UInt8),([105,102]:List UInt8),([101,108,115,101]:List UInt8),([119,104,105,108,101]:List UInt8),([114,101,116,117,114,110]:List UInt8),([112,114,105,110,116]:List UInt8),([116,114,117,101]:List UInt8),([102,97,108,115,101]:List UInt8),([110,117,108,108]:List UInt8),([116,104,105,115]:List UInt8),([110,101,119]:List UInt8)]:List (List UInt8))) el44 (Nat.le_of_ble_eq_true rfl) ⟨rfl,rfl⟩ ⟨rfl,rfl,rfl,rfl,rfl,rfl,rfl,rfl,rfl,rfl,rfl,rfl,rfl,rfl,rfl,rfl,trivial⟩) ?_
 refine rq (out:=au a8 ([([99,108,97,115,115]:List UInt8),([101,120,116,101,110,100,115]:List UInt8),([115,116,97,116,105,99]:List UInt8),([118,111,105,100]:List UInt8),([105,110,116]:List UInt8),([98,111,111,108,101,97,110]:List UInt8),([105,102]:List UInt8),([101,108,115,101]:List UInt8),([119,104,105,108,101]:List UInt8),([114,101,116,117,114,110]:List UInt8),([112,114,105,110,116]:List UInt8),([116,114,117,101]:List UInt8),([102,97,108,115,101]:List UInt8),([110,117,108,108]:List UInt8),([116,104,105,115]:List UInt8),([110,101,119]:List UInt8)]:List (List UInt8))) ah ?_
 refine br ?_
 refine W_rs ?_
 refine rq (out:=Pr.i64 0) ah ?_
 refine bd ?_
 obtain⟨z2l,hz2,h⟩:=ak h
 obtain⟨n2,hN2⟩:=cp hz2
 clear hz2
 refine gz 0 (fun e C=>ref03_Kept_k1=some r/\At [] [] e C) ?_ ?_
 ·rintro e C ⟨h,hat1⟩
  refine W_at hat1 ?_
  clear hat1
  unfold ref03_Kept_k1 at h
  refine W_rs ?_
  refine rq (out:=Pr.bool false) ah ?_
  obtain rfl:=Option.some.inj h
  exact bg ⟨rfl,aa⟩
 refine ja (fun m e C=>∃(x2:Int),fw (fun s=>ko x1 s) m x2=some z2l/\At [(0,ap x1),(3,au a8 ([([99,108,97,115,115]:List UInt8),([101,120,116,101,110,100,115]:List UInt8),([115,116,97,116,105,99]:List UInt8),([118,111,105,100]:List UInt8),([105,110,116]:List UInt8),([98,111,111,108,101,97,110]:List UInt8),([105,102]:List UInt8),([101,108,115,101]:List UInt8),([119,104,105,108,101]:List UInt8),([114,101,116,117,114,110]:List UInt8),([112,114,105,110,116]:List UInt8),([116,114,117,101]:List UInt8),([102,97,108,115,101]:List UInt8),([110,117,108,108]:List UInt8),([116,104,105,115]:List UInt8),([110,101,119]:List UInt8)]:List (List UInt8))),(4,Pr.i64 x2)] [] e C) n2 ⟨0,hN2,⟨⟨aa,aa,aa,trivial⟩,Pick.refl _⟩⟩ ?_
 clear hN2
 rintro m e C ⟨x2,hN2,hatl2⟩
 refine W_at hatl2 ?_
 clear hatl2
 obtain⟨m2,w2l,rfl,h2l,hn2,ho2⟩:=cg hN2
 clear hN2
 replace h2l:ko x1 x2=some w2l:=h2l
 unfold ko at h2l
 refine br ?_
 refine W_rs ?_
 refine rq (out:=Pr.i64 x2) ai ?_
 refine rq (out:=au a8 ([([99,108,97,115,115]:List UInt8),([101,120,116,101,110,100,115]:List UInt8),([115,116,97,116,105,99]:List UInt8),([118,111,105,100]:List UInt8),([105,110,116]:List UInt8),([98,111,111,108,101,97,110]:List UInt8),([105,102]:List UInt8),([101,108,115,101]:List UInt8),([119,104,105,108,101]:List UInt8),([114,101,116,117,114,110]:List UInt8),([112,114,105,110,116]:List UInt8),([116,114,117,101]:List UInt8),([102,97,108,115,101]:List UInt8),([110,117,108,108]:List UInt8),([116,104,105,115]:List UInt8),([110,101,119]:List UInt8)]:List (List UInt8))) ai ?_
 refine rq (out:=Pr.i64 (([([99,108,97,115,115]:List UInt8),([101,120,116,101,110,100,115]:List UInt8),([115,116,97,116,105,99]:List UInt8),([118,111,105,100]:List UInt8),([105,110,116]:List UInt8),([98,111,111,108,101,97,110]:List UInt8),([105,102]:List UInt8),([101,108,115,101]:List UInt8),([119,104,105,108,101]:List UInt8),([114,101,116,117,114,110]:List UInt8),([112,114,105,110,116]:List UInt8),([116,114,117,101]:List UInt8),([102,97,108,115,101]:List UInt8),([110,117,108,108]:List UInt8),([116,104,105,115]:List UInt8),([110,101,119]:List UInt8)]:List (List UInt8)).length:Int)) (qLenL rfl Tryz.underlying44) ?_
 refine rq (out:=Pr.bool (decide (x2<(([([99,108,97,115,115]:List UInt8),([101,120,116,101,110,100,115]:List UInt8),([115,116,97,116,105,99]:List UInt8),([118,111,105,100]:List UInt8),([105,110,116]:List UInt8),([98,111,111,108,101,97,110]:List UInt8),([105,102]:List UInt8),([101,108,115,101]:List UInt8),([119,104,105,108,101]:List UInt8),([114,101,116,117,114,110]:List UInt8),([112,114,105,110,116]:List UInt8),([116,114,117,101]:List UInt8),([102,97,108,115,101]:List UInt8),([110,117,108,108]:List UInt8),([116,104,105,115]:List UInt8),([110,101,119]:List UInt8)]:List (List UInt8)).length:Int)))) qInt ?_
 refine az (b:=decide (x2<(([([99,108,97,115,115]:List UInt8),([101,120,116,101,110,100,115]:List UInt8),([115,116,97,116,105,99]:List UInt8),([118,111,105,100]:List UInt8),([105,110,116]:List UInt8),([98,111,111,108,101,97,110]:List UInt8),([105,102]:List UInt8),([101,108,115,101]:List UInt8),([119,104,105,108,101]:List UInt8),([114,101,116,117,114,110]:List UInt8),([112,114,105,110,116]:List UInt8),([116,114,117,101]:List UInt8),([102,97,108,115,101]:List UInt8),([110,117,108,108]:List UInt8),([116,104,105,115]:List UInt8),([110,101,119]:List UInt8)]:List (List UInt8)).length:Int))) rfl (fun hc4=> ?_) (fun hc4=> ?_)
 ·replace h2l:=iteT hc4 h2l
  refine a7 ?_
  refine br ?_
  refine bd ?_
  refine W_rs ?_
  refine rq (out:=au a8 ([([99,108,97,115,115]:List UInt8),([101,120,116,101,110,100,115]:List UInt8),([115,116,97,116,105,99]:List UInt8),([118,111,105,100]:List UInt8),([105,110,116]:List UInt8),([98,111,111,108,101,97,110]:List UInt8),([105,102]:List UInt8),([101,108,115,101]:List UInt8),([119,104,105,108,101]:List UInt8),([114,101,116,117,114,110]:List UInt8),([112,114,105,110,116]:List UInt8),([116,114,117,101]:List UInt8),([102,97,108,115,101]:List UInt8),([110,117,108,108]:List UInt8),([116,104,105,115]:List UInt8),([110,101,119]:List UInt8)]:List (List UInt8))) ai ?_
  refine rq (out:=Pr.i64 x2) ai ?_
  obtain⟨x5,hx5,h2l⟩:=ak h2l
  refine rq (out:=bw a8 x5) (qIdxA (R:=a8) (l:=([([99,108,97,115,115]:List UInt8),([101,120,116,101,110,100,115]:List UInt8),([115,116,97,116,105,99]:List UInt8),([118,111,105,100]:List UInt8),([105,110,116]:List UInt8),([98,111,111,108,101,97,110]:List UInt8),([105,102]:List UInt8),([101,108,115,101]:List UInt8),([119,104,105,108,101]:List UInt8),([114,101,116,117,114,110]:List UInt8),([112,114,105,110,116]:List UInt8),([116,114,117,101]:List UInt8),([102,97,108,115,101]:List UInt8),([110,117,108,108]:List UInt8),([116,104,105,115]:List UInt8),([110,101,119]:List UInt8)]:List (List UInt8))) Tryz.underlying44 Tryz.sizeOf9 hx5) ?_
  refine rq (out:=ap x5) (i6 (R:=a8) (a:=x5) ty9) ?_
  refine rq (out:=ap x1) ai ?_
  refine rq (out:=Pr.bool (x5==x1)) qStr ?_
  refine az (b:=x5==x1) rfl (fun hc6=> ?_) (fun hc6=> ?_)
  ·replace h2l:=iteT hc6 h2l
   refine W_rs ?_
   refine rq (out:=Pr.bool true) ah ?_
   obtain rfl:=ho2 _ (Option.some.inj h2l).symm
   replace h:some true=some r:=h
   obtain rfl:=Option.some.inj h
   exact bg ⟨rfl,aa⟩
  replace h2l:=iteF hc6 h2l
  refine a7 ?_
  refine W_r ?_
  refine rq (out:=Pr.i64 x2) ai ?_
  refine rq (out:=Pr.i64 (w64 (x2+1))) qInt ?_
  refine rq (out:=Pr.i64 (w64 (x2+1))) ah ?_
  exact⟨m2,Nat.lt_succ_self _,w64 (x2+1),hn2 _ (Option.some.inj h2l).symm,⟨⟨aa,aa,aa,trivial⟩,Pick.refl _⟩⟩
 replace h2l:=iteF hc4 h2l
 refine fx ?_
 obtain rfl:=ho2 _ (Option.some.inj h2l).symm
 exact⟨h,⟨trivial,Pick.refl _⟩⟩
theorem ref03_great_ok (x1:List UInt8) (r:Bool) (h:ref03_great x1=some r):FnP Tryz.prog 46 [ap x1] (Pr.bool r):=by
 refine ct (n:=24) (rs:=[2]) Tryz.func46 rfl Tryz.ntmps46 ⟨by decide,Tryz.results46⟩ (by decide) (fun s0=> ?_)
 unfold ref03_great at h
 refine W_rs ?_
 refine rq (out:=Pr.bool false) ah ?_
 refine br ?_
 refine W_rs ?_
 refine rq (out:=ap x1) ai ?_
 refine rq (out:=Pr.i64 (x1.length:Int)) (qLenS rfl Tryz.underlying9) ?_
 refine rq (out:=Pr.bool (decide ((x1.length:Int)>10))) qInt ?_
 refine az (b:=decide ((x1.length:Int)>10)) rfl (fun hc2=> ?_) (fun hc2=> ?_)
 ·replace h:=iteT hc2 h
  refine W_rs ?_
  refine rq (out:=Pr.bool true) ah ?_
  obtain rfl:=Option.some.inj h
  exact bg ⟨rfl,aa⟩
 replace h:=iteF hc2 h
 refine a7 ?_
 refine W_rs ?_
 refine rq (out:=Pr.i64 0) ah ?_
 refine br ?_
 refine W_rs ?_
 refine rq (out:=Pr.i64 0) ah ?_
 refine bd ?_
 obtain⟨z2l,hz2,h⟩:=ak h
 obtain⟨n2,hN2⟩:=cp hz2
 clear hz2
 refine gz 0 (fun e C=>∃(x3:Int),ref03_great_k1 x3=some r/\At [(3,Pr.i64 x3)] [] e C) ?_ ?_
 ·rintro e C ⟨x3,h,hat1⟩
  refine W_at hat1 ?_
  clear hat1
  unfold ref03_great_k1 at h
  refine W_rs ?_
  refine rq (out:=Pr.i64 x3) ai ?_
  refine rq (out:=Pr.bool (decide (x3>2147483647))) qInt ?_
  refine rq (out:=Pr.bool (decide (x3>2147483647))) ah ?_
  obtain rfl:=Option.some.inj h
  exact bg ⟨rfl,aa⟩
 refine ja (fun m e C=>∃(x3:Int),∃(x4:Int),fw (fun s=>ju x1 s.1 s.2) m (x3,x4)=some z2l/\At [(0,ap x1),(3,Pr.i64 x3),(4,Pr.i64 x4)] [] e C) n2 ⟨0,0,hN2,⟨⟨aa,aa,aa,trivial⟩,Pick.refl _⟩⟩ ?_
 clear hN2
 rintro m e C ⟨x3,x4,hN2,hatl2⟩
 refine W_at hatl2 ?_
 clear hatl2
 obtain⟨m2,w2l,rfl,h2l,hn2,ho2⟩:=cg hN2
 clear hN2
 replace h2l:ju x1 x3 x4=some w2l:=h2l
 unfold ju at h2l
 refine br ?_
 refine W_rs ?_
 refine rq (out:=Pr.i64 x4) ai ?_
 refine rq (out:=ap x1) ai ?_
 refine rq (out:=Pr.i64 (x1.length:Int)) (qLenS rfl Tryz.underlying9) ?_
 refine rq (out:=Pr.bool (decide (x4<(x1.length:Int)))) qInt ?_
 refine az (b:=decide (x4<(x1.length:Int))) rfl (fun hc7=> ?_) (fun hc7=> ?_)
 ·replace h2l:=iteT hc7 h2l
  refine a7 ?_
  refine br ?_
  refine bd ?_
  refine W_r ?_
  refine rq (out:=Pr.i64 x3) ai ?_
  refine rq (out:=Pr.i64 (w64 (10 * x3))) qInt ?_
  refine rq (out:=ap x1) ai ?_
  refine rq (out:=Pr.i64 x4) ai ?_
  obtain⟨x8,hx8,h2l⟩:=ak h2l
  refine rq (out:=Pr.u8 x8) (qIdxS Tryz.underlying9 hx8) ?_
  refine rq (out:=Pr.u8 (IntKind.wrap .u8 (x8 - 48))) qInt ?_
  refine rq (out:=Pr.i64 (w64 (IntKind.wrap .u8 (x8 - 48)))) (qConv Tryz.underlying5 Tryz.underlying3) ?_
  refine rq (out:=Pr.i64 (w64 ((w64 (10 * x3))+(w64 (IntKind.wrap .u8 (x8 - 48)))))) qInt ?_
  refine rq (out:=Pr.i64 (w64 ((w64 (10 * x3))+(w64 (IntKind.wrap .u8 (x8 - 48)))))) ah ?_
  refine W_r ?_
  refine rq (out:=Pr.i64 x4) ai ?_
  refine rq (out:=Pr.i64 (w64 (x4+1))) qInt ?_
  refine rq (out:=Pr.i64 (w64 (x4+1))) ah ?_
  exact⟨m2,Nat.lt_succ_self _,w64 ((w64 (10 * x3))+(w64 (IntKind.wrap .u8 (x8 - 48)))),w64 (x4+1),hn2 _ (Option.some.inj h2l).symm,⟨⟨aa,aa,aa,trivial⟩,Pick.refl _⟩⟩
 replace h2l:=iteF hc7 h2l
 refine fx ?_
 obtain rfl:=ho2 _ (Option.some.inj h2l).symm
 exact⟨x3,h,⟨⟨aa,trivial⟩,Pick.refl _⟩⟩
theorem ref03_mark_ok (x1:List UInt8) (x2 r:Int) (h:ref03_mark x1 x2=some r):FnP Tryz.prog 47 [ap x1,Pr.i64 x2] (Pr.i64 r):=by
 refine ct (n:=46) (rs:=[4]) Tryz.func47 rfl Tryz.ntmps47 ⟨by decide,Tryz.results47⟩ (by decide) (fun s0=> ?_)
 unfold ref03_mark at h
 refine W_rs ?_
 refine rq (out:=Pr.i64 0) ah ?_
 refine W_rs ?_
 refine rq (out:=au a8 ([([61,61]:List UInt8),([33,61]:List UInt8),([60,61]:List UInt8),([62,61]:List UInt8),([38,38]:List UInt8),([124,124]:List UInt8)]:List (List UInt8))) (qBuildSlice (R:=a8) (ls:=([([61,61]:List UInt8),([33,61]:List UInt8),([60,61]:List UInt8),([62,61]:List UInt8),([38,38]:List UInt8),([124,124]:List UInt8)]:List (List UInt8))) el44 (Nat.le_of_ble_eq_true rfl) ⟨rfl,rfl⟩ ⟨rfl,rfl,rfl,rfl,rfl,rfl,trivial⟩) ?_
 refine rq (out:=au a8 ([([61,61]:List UInt8),([33,61]:List UInt8),([60,61]:List UInt8),([62,61]:List UInt8),([38,38]:List UInt8),([124,124]:List UInt8)]:List (List UInt8))) ah ?_
 refine br ?_
 refine W_rs ?_
 refine rq (out:=Pr.i64 0) ah ?_
 refine bd ?_
 obtain⟨z5l,hz5,h⟩:=ak h
 obtain⟨n5,hN5⟩:=cp hz5
 clear hz5
 refine gz 0 (fun e C=>ref03_mark_k4 x1 x2=some r/\At [(0,ap x1),(1,Pr.i64 x2)] [] e C) ?_ ?_
 ·rintro e C ⟨h,hat4⟩
  refine W_at hat4 ?_
  clear hat4
  unfold ref03_mark_k4 at h
  refine W_rs ?_
  refine rq (out:=ap ([43,45,42,47,37,60,62,61,33,40,41,123,125,59,44,46]:List UInt8)) ah ?_
  refine br ?_
  refine W_rs ?_
  refine rq (out:=Pr.i64 0) ah ?_
  refine bd ?_
  obtain⟨z2l,hz2,h⟩:=ak h
  obtain⟨n2,hN2⟩:=cp hz2
  clear hz2
  refine gz 2 (fun e C=>ref03_mark_k1=some r/\At [] [] e C) ?_ ?_
  ·rintro e C ⟨h,hat1⟩
   refine W_at hat1 ?_
   clear hat1
   unfold ref03_mark_k1 at h
   refine W_rs ?_
   refine rq (out:=Pr.i64 0) ah ?_
   obtain rfl:=Option.some.inj h
   exact bg ⟨rfl,aa⟩
  refine ja (fun m e C=>∃(x11:Int),fw (fun s=>jm x1 x2 s) m x11=some z2l/\At [(0,ap x1),(1,Pr.i64 x2),(7,ap ([43,45,42,47,37,60,62,61,33,40,41,123,125,59,44,46]:List UInt8)),(8,Pr.i64 x11)] [] e C) n2 ⟨0,hN2,⟨⟨aa,aa,aa,aa,trivial⟩,Pick.refl _⟩⟩ ?_
  clear hN2
  rintro m e C ⟨x11,hN2,hatl2⟩
  refine W_at hatl2 ?_
  clear hatl2
  obtain⟨m2,w2l,rfl,h2l,hn2,ho2⟩:=cg hN2
  clear hN2
  replace h2l:jm x1 x2 x11=some w2l:=h2l
  unfold jm at h2l
  refine br ?_
  refine W_rs ?_
  refine rq (out:=Pr.i64 x11) ai ?_
  refine rq (out:=ap ([43,45,42,47,37,60,62,61,33,40,41,123,125,59,44,46]:List UInt8)) ai ?_
  refine rq (out:=Pr.i64 (([43,45,42,47,37,60,62,61,33,40,41,123,125,59,44,46]:List UInt8).length:Int)) (qLenS rfl Tryz.underlying9) ?_
  refine rq (out:=Pr.bool (decide (x11<(([43,45,42,47,37,60,62,61,33,40,41,123,125,59,44,46]:List UInt8).length:Int)))) qInt ?_
  refine az (b:=decide (x11<(([43,45,42,47,37,60,62,61,33,40,41,123,125,59,44,46]:List UInt8).length:Int))) rfl (fun hc13=> ?_) (fun hc13=> ?_)
  ·replace h2l:=iteT hc13 h2l
   refine a7 ?_
   refine br ?_
   refine bd ?_
   refine bz (fun e C=>∃(x14:Int),∃(x15:Int),ref03_mark_j3 x11 x14 x15=some w2l/\At [(0,ap x1),(1,Pr.i64 x2),(7,ap ([43,45,42,47,37,60,62,61,33,40,41,123,125,59,44,46]:List UInt8)),(8,Pr.i64 x11),(45,Pr.bool (x14==x15))] [] e C) ?_ ?_
   ·rintro e C ⟨x14,x15,h2l,hat3⟩
    refine W_at hat3 ?_
    clear hat3
    unfold ref03_mark_j3 at h2l
    refine az (b:=x14==x15) rfl (fun hc16=> ?_) (fun hc16=> ?_)
    ·replace h2l:=iteT hc16 h2l
     refine W_rs ?_
     refine rq (out:=Pr.i64 1) ah ?_
     obtain rfl:=ho2 _ (Option.some.inj h2l).symm
     replace h:some 1=some r:=h
     obtain rfl:=Option.some.inj h
     exact bg ⟨rfl,aa⟩
    replace h2l:=iteF hc16 h2l
    refine a7 ?_
    refine W_r ?_
    refine rq (out:=Pr.i64 x11) ai ?_
    refine rq (out:=Pr.i64 (w64 (x11+1))) qInt ?_
    refine rq (out:=Pr.i64 (w64 (x11+1))) ah ?_
    exact⟨m2,Nat.lt_succ_self _,w64 (x11+1),hn2 _ (Option.some.inj h2l).symm,⟨⟨aa,aa,aa,aa,trivial⟩,Pick.refl _⟩⟩
   refine k6 7 hmx (by kernel_rfl) (by kernel_rfl) ?_
   refine qq (out:=ap x1) ai ?_
   refine qq (out:=Pr.i64 x2) ai ?_
   obtain⟨x14,hx14,h2l⟩:=ak h2l
   refine qq (out:=Pr.u8 x14) (qIdxS Tryz.underlying9 hx14) ?_
   refine qq (out:=ap ([43,45,42,47,37,60,62,61,33,40,41,123,125,59,44,46]:List UInt8)) ai ?_
   refine qq (out:=Pr.i64 x11) ai ?_
   obtain⟨x15,hx15,h2l⟩:=ak h2l
   refine qq (out:=Pr.u8 x15) (qIdxS Tryz.underlying9 hx15) ?_
   refine qq (out:=Pr.bool (x14==x15)) qInt ?_
   exact⟨x14,x15,h2l,⟨⟨aa,aa,aa,aa,aa,trivial⟩,Pick.refl _⟩⟩
  replace h2l:=iteF hc13 h2l
  refine fx ?_
  obtain rfl:=ho2 _ (Option.some.inj h2l).symm
  exact⟨h,⟨trivial,Pick.refl _⟩⟩
 refine ja (fun m e C=>∃(x3:Int),fw (fun s=>jl x1 x2 s) m x3=some z5l/\At [(0,ap x1),(1,Pr.i64 x2),(5,au a8 ([([61,61]:List UInt8),([33,61]:List UInt8),([60,61]:List UInt8),([62,61]:List UInt8),([38,38]:List UInt8),([124,124]:List UInt8)]:List (List UInt8))),(6,Pr.i64 x3)] [] e C) n5 ⟨0,hN5,⟨⟨aa,aa,aa,aa,trivial⟩,Pick.refl _⟩⟩ ?_
 clear hN5
 rintro m e C ⟨x3,hN5,hatl5⟩
 refine W_at hatl5 ?_
 clear hatl5
 obtain⟨m5,w5l,rfl,h5l,hn5,ho5⟩:=cg hN5
 clear hN5
 replace h5l:jl x1 x2 x3=some w5l:=h5l
 unfold jl at h5l
 refine br ?_
 refine bz (fun e C=>∃(x6:Bool),ref03_mark_j7 x1 x2 x3 x6=some w5l/\At [(0,ap x1),(1,Pr.i64 x2),(5,au a8 ([([61,61]:List UInt8),([33,61]:List UInt8),([60,61]:List UInt8),([62,61]:List UInt8),([38,38]:List UInt8),([124,124]:List UInt8)]:List (List UInt8))),(6,Pr.i64 x3),(20,Pr.bool x6)] [] e C) ?_ ?_
 ·rintro e C ⟨x6,h5l,hat7⟩
  refine W_at hat7 ?_
  clear hat7
  unfold ref03_mark_j7 at h5l
  refine az (b:=x6) rfl (fun hc7=> ?_) (fun hc7=> ?_)
  ·replace h5l:=iteT hc7 h5l
   refine a7 ?_
   refine br ?_
   refine bd ?_
   refine bz (fun e C=>∃(x8:List UInt8),∃(x9:List UInt8),ref03_mark_j6 x3 x8 x9=some w5l/\At [(0,ap x1),(1,Pr.i64 x2),(5,au a8 ([([61,61]:List UInt8),([33,61]:List UInt8),([60,61]:List UInt8),([62,61]:List UInt8),([38,38]:List UInt8),([124,124]:List UInt8)]:List (List UInt8))),(6,Pr.i64 x3),(32,Pr.bool (x8==x9))] [] e C) ?_ ?_
   ·rintro e C ⟨x8,x9,h5l,hat6⟩
    refine W_at hat6 ?_
    clear hat6
    unfold ref03_mark_j6 at h5l
    refine az (b:=x8==x9) rfl (fun hc10=> ?_) (fun hc10=> ?_)
    ·replace h5l:=iteT hc10 h5l
     refine W_rs ?_
     refine rq (out:=Pr.i64 2) ah ?_
     obtain rfl:=ho5 _ (Option.some.inj h5l).symm
     replace h:some 2=some r:=h
     obtain rfl:=Option.some.inj h
     exact bg ⟨rfl,aa⟩
    replace h5l:=iteF hc10 h5l
    refine a7 ?_
    refine W_r ?_
    refine rq (out:=Pr.i64 x3) ai ?_
    refine rq (out:=Pr.i64 (w64 (x3+1))) qInt ?_
    refine rq (out:=Pr.i64 (w64 (x3+1))) ah ?_
    exact⟨m5,Nat.lt_succ_self _,w64 (x3+1),hn5 _ (Option.some.inj h5l).symm,⟨⟨aa,aa,aa,aa,trivial⟩,Pick.refl _⟩⟩
   refine k6 10 hmx (by kernel_rfl) (by kernel_rfl) ?_
   refine qq (out:=ap x1) ai ?_
   refine qq (out:=Pr.i64 x2) ai ?_
   refine qq (out:=Pr.i64 x2) ai ?_
   refine qq (out:=Pr.i64 (w64 (x2+2))) qInt ?_
   obtain⟨x8,hx8,h5l⟩:=ak h5l
   refine qq (out:=ap x8) (qSubLH Tryz.underlying9 hx8) ?_
   refine qq (out:=au a8 ([([61,61]:List UInt8),([33,61]:List UInt8),([60,61]:List UInt8),([62,61]:List UInt8),([38,38]:List UInt8),([124,124]:List UInt8)]:List (List UInt8))) ai ?_
   refine qq (out:=Pr.i64 x3) ai ?_
   obtain⟨x9,hx9,h5l⟩:=ak h5l
   refine qq (out:=bw a8 x9) (qIdxA (R:=a8) (l:=([([61,61]:List UInt8),([33,61]:List UInt8),([60,61]:List UInt8),([62,61]:List UInt8),([38,38]:List UInt8),([124,124]:List UInt8)]:List (List UInt8))) Tryz.underlying44 Tryz.sizeOf9 hx9) ?_
   refine qq (out:=ap x9) (i6 (R:=a8) (a:=x9) ty9) ?_
   refine qq (out:=Pr.bool (x8==x9)) qStr ?_
   exact⟨x8,x9,h5l,⟨⟨aa,aa,aa,aa,aa,trivial⟩,Pick.refl _⟩⟩
  replace h5l:=iteF hc7 h5l
  refine fx ?_
  obtain rfl:=ho5 _ (Option.some.inj h5l).symm
  exact⟨h,⟨⟨aa,aa,trivial⟩,Pick.refl _⟩⟩
 refine W_r ?_
 refine rq (out:=Pr.i64 x3) ai ?_
 refine rq (out:=au a8 ([([61,61]:List UInt8),([33,61]:List UInt8),([60,61]:List UInt8),([62,61]:List UInt8),([38,38]:List UInt8),([124,124]:List UInt8)]:List (List UInt8))) ai ?_
 refine rq (out:=Pr.i64 (([([61,61]:List UInt8),([33,61]:List UInt8),([60,61]:List UInt8),([62,61]:List UInt8),([38,38]:List UInt8),([124,124]:List UInt8)]:List (List UInt8)).length:Int)) (qLenL rfl Tryz.underlying44) ?_
 refine rq (out:=Pr.bool (decide (x3<(([([61,61]:List UInt8),([33,61]:List UInt8),([60,61]:List UInt8),([62,61]:List UInt8),([38,38]:List UInt8),([124,124]:List UInt8)]:List (List UInt8)).length:Int)))) qInt ?_
 refine rq (out:=Pr.bool (decide (x3<(([([61,61]:List UInt8),([33,61]:List UInt8),([60,61]:List UInt8),([62,61]:List UInt8),([38,38]:List UInt8),([124,124]:List UInt8)]:List (List UInt8)).length:Int)))) ai ?_
 rcases bi h5l with⟨hc5,h5l⟩|⟨hc5,h5l⟩
 ·refine rqg hc5 (out:=Pr.i64 x2) ai ?_
  refine rqg hc5 (out:=Pr.i64 (w64 (x2+2))) qInt ?_
  refine rqg hc5 (out:=ap x1) ai ?_
  refine rqg hc5 (out:=Pr.i64 (x1.length:Int)) (qLenS rfl Tryz.underlying9) ?_
  refine rqg hc5 (out:=Pr.bool (decide ((w64 (x2+2))<=(x1.length:Int)))) qInt ?_
  refine rq (out:=Pr.bool (decide ((w64 (x2+2))<=(x1.length:Int)))) (bo hc5) ?_
  exact⟨decide ((w64 (x2+2))<=(x1.length:Int)),h5l,⟨⟨aa,aa,aa,aa,aa,trivial⟩,Pick.refl _⟩⟩
 refine rno (neT hc5) ?_
 refine rno (neT hc5) ?_
 refine rno (neT hc5) ?_
 refine rno (neT hc5) ?_
 refine rno (neT hc5) ?_
 refine rq (out:=Pr.bool false) (aw hc5) ?_
 exact⟨false,h5l,⟨⟨aa,aa,aa,aa,aa,trivial⟩,Pick.refl _⟩⟩
theorem ref03_token_ok (x1:List UInt8) (x2:Int) (r:Int × Int × Int) (h:ref03_token x1 x2=some r):FnP Tryz.prog 26 [ap x1,Pr.i64 x2] (cc [Pr.i64 r.1,Pr.i64 r.2.1,Pr.i64 r.2.2]):=by
 refine ct (n:=95) (rs:=[4,5,6]) Tryz.func26 rfl Tryz.ntmps26 ⟨by decide,Tryz.results26⟩ (by decide) (fun s0=> ?_)
 unfold ref03_token at h
 refine W_rs ?_
 refine rq (out:=Pr.i64 0) ah ?_
 refine rq (out:=Pr.i64 0) ah ?_
 refine rq (out:=Pr.i64 0) ah ?_
 refine W_rs ?_
 refine rq (out:=Pr.i64 0) ah ?_
 refine br ?_
 refine W_rs ?_
 refine rq (out:=ap x1) ai ?_
 refine rq (out:=Pr.i64 x2) ai ?_
 obtain⟨x3,hx3,h⟩:=ak h
 refine rq (out:=Pr.u8 x3) (qIdxS Tryz.underlying9 hx3) ?_
 obtain⟨x4,hx4,h⟩:=ak h
 refine rq (out:=Pr.bool x4) (du (ref03_digit_ok x3 _ hx4)) ?_
 refine az (b:=x4) rfl (fun hc5=> ?_) (fun hc5=> ?_)
 ·replace h:=iteT hc5 h
  refine br ?_
  refine bd ?_
  obtain⟨z3l,hz3,h⟩:=ak h
  obtain⟨n3,hN3⟩:=cp hz3
  clear hz3
  refine gz 0 (fun e C=>∃(x6:Int),ref03_token_k2 x1 x2 x6=some r/\At [(0,ap x1),(1,Pr.i64 x2),(7,Pr.i64 x6)] [] e C) ?_ ?_
  ·rintro e C ⟨x6,h,hat2⟩
   refine W_at hat2 ?_
   clear hat2
   unfold ref03_token_k2 at h
   refine W_rs ?_
   refine rq (out:=ap x1) ai ?_
   refine rq (out:=Pr.i64 x2) ai ?_
   refine rq (out:=Pr.i64 x2) ai ?_
   refine rq (out:=Pr.i64 x6) ai ?_
   refine rq (out:=Pr.i64 (w64 (x2+x6))) qInt ?_
   obtain⟨x13,hx13,h⟩:=ak h
   refine rq (out:=ap x13) (qSubLH Tryz.underlying9 hx13) ?_
   obtain⟨x14,hx14,h⟩:=ak h
   refine rq (out:=Pr.bool x14) (du (ref03_great_ok x13 _ hx14)) ?_
   refine rq (out:=Pr.bool x14) ah ?_
   refine br ?_
   refine bz (fun e C=>∃(x18:Bool),jt x6 x18=some r/\At [(7,Pr.i64 x6),(47,Pr.bool x18)] [] e C) ?_ ?_
   ·rintro e C ⟨x18,h,hat1⟩
    refine W_at hat1 ?_
    clear hat1
    unfold jt at h
    refine az (b:=x18) rfl (fun hc19=> ?_) (fun hc19=> ?_)
    ·replace h:=iteT hc19 h
     refine W_rs ?_
     refine rq (out:=Pr.i64 0) ah ?_
     refine rq (out:=Pr.i64 0) ah ?_
     refine rq (out:=Pr.i64 31) ah ?_
     obtain rfl:=Option.some.inj h
     exact bg ⟨rfl,aa⟩
    replace h:=iteF hc19 h
    refine a7 ?_
    refine W_rs ?_
    refine rq (out:=Pr.i64 x6) ai ?_
    refine rq (out:=Pr.i64 2) ah ?_
    refine rq (out:=Pr.i64 x6) ah ?_
    refine rq (out:=Pr.i64 0) ah ?_
    obtain rfl:=Option.some.inj h
    exact bg ⟨rfl,aa⟩
   refine W_r ?_
   refine rq (out:=Pr.bool x14) ai ?_
   refine rq (out:=Pr.bool x14) ai ?_
   rcases bi h with⟨hc15,h⟩|⟨hc15,h⟩
   ·refine rno (neF hc15) ?_
    refine rno (neF hc15) ?_
    refine rno (neF hc15) ?_
    refine rnoU ?_
    refine rnoU ?_
    refine rnoU ?_
    refine rnoU ?_
    refine rno (neF hc15) ?_
    refine rq (out:=Pr.bool true) (bo hc15) ?_
    exact⟨true,h,⟨⟨aa,aa,trivial⟩,Pick.refl _⟩⟩
   refine rqg hc15 (out:=Pr.i64 x6) ai ?_
   refine rqg hc15 (out:=Pr.bool (decide (x6>1))) qInt ?_
   refine rqg hc15 (out:=Pr.bool (decide (x6>1))) ai ?_
   rcases bi h with⟨hc16,h⟩|⟨hc16,h⟩
   ·refine rqg hc16 (out:=ap x1) ai ?_
    refine rqg hc16 (out:=Pr.i64 x2) ai ?_
    obtain⟨x17,hx17,h⟩:=ak h
    refine rqg hc16 (out:=Pr.u8 x17) (qIdxS Tryz.underlying9 hx17) ?_
    refine rqg hc16 (out:=Pr.bool (x17==48)) qInt ?_
    refine rqg hc15 (out:=Pr.bool (x17==48)) (bo hc16) ?_
    refine rq (out:=Pr.bool (x17==48)) (aw hc15) ?_
    exact⟨x17==48,h,⟨⟨aa,aa,trivial⟩,Pick.refl _⟩⟩
   refine rno (neT hc16) ?_
   refine rno (neT hc16) ?_
   refine rno (neT hc16) ?_
   refine rno (neT hc16) ?_
   refine rqg hc15 (out:=Pr.bool false) (aw hc16) ?_
   refine rq (out:=Pr.bool false) (aw hc15) ?_
   exact⟨false,h,⟨⟨aa,aa,trivial⟩,Pick.refl _⟩⟩
  refine ja (fun m e C=>∃(x6:Int),fw (fun s=>i2 x2 x1 s) m x6=some z3l/\At [(0,ap x1),(1,Pr.i64 x2),(7,Pr.i64 x6)] [] e C) n3 ⟨0,hN3,⟨⟨aa,aa,aa,trivial⟩,Pick.refl _⟩⟩ ?_
  clear hN3
  rintro m e C ⟨x6,hN3,hatl3⟩
  refine W_at hatl3 ?_
  clear hatl3
  obtain⟨m3,w3l,rfl,h3l,hn3,ho3⟩:=cg hN3
  clear hN3
  replace h3l:i2 x2 x1 x6=some w3l:=h3l
  unfold i2 at h3l
  refine br ?_
  refine bz (fun e C=>∃(x11:Bool),kv x6 x11=some w3l/\At [(0,ap x1),(1,Pr.i64 x2),(7,Pr.i64 x6),(27,Pr.bool x11)] [] e C) ?_ ?_
  ·rintro e C ⟨x11,h3l,hat4⟩
   refine W_at hat4 ?_
   clear hat4
   unfold kv at h3l
   refine az (b:=x11) rfl (fun hc12=> ?_) (fun hc12=> ?_)
   ·replace h3l:=iteT hc12 h3l
    refine a7 ?_
    refine bd ?_
    refine W_r ?_
    refine rq (out:=Pr.i64 x6) ai ?_
    refine rq (out:=Pr.i64 (w64 (x6+1))) qInt ?_
    refine rq (out:=Pr.i64 (w64 (x6+1))) ah ?_
    exact⟨m3,Nat.lt_succ_self _,w64 (x6+1),hn3 _ (Option.some.inj h3l).symm,⟨⟨aa,aa,aa,trivial⟩,Pick.refl _⟩⟩
   replace h3l:=iteF hc12 h3l
   refine fx ?_
   obtain rfl:=ho3 _ (Option.some.inj h3l).symm
   exact⟨x6,h,⟨⟨aa,aa,aa,trivial⟩,Pick.refl _⟩⟩
  refine W_r ?_
  refine rq (out:=Pr.i64 x2) ai ?_
  refine rq (out:=Pr.i64 x6) ai ?_
  refine rq (out:=Pr.i64 (w64 (x2+x6))) qInt ?_
  refine rq (out:=ap x1) ai ?_
  refine rq (out:=Pr.i64 (x1.length:Int)) (qLenS rfl Tryz.underlying9) ?_
  refine rq (out:=Pr.bool (decide ((w64 (x2+x6))<(x1.length:Int)))) qInt ?_
  refine rq (out:=Pr.bool (decide ((w64 (x2+x6))<(x1.length:Int)))) ai ?_
  rcases bi h3l with⟨hc8,h3l⟩|⟨hc8,h3l⟩
  ·refine rqg hc8 (out:=ap x1) ai ?_
   refine rqg hc8 (out:=Pr.i64 x2) ai ?_
   refine rqg hc8 (out:=Pr.i64 x6) ai ?_
   refine rqg hc8 (out:=Pr.i64 (w64 (x2+x6))) qInt ?_
   obtain⟨x9,hx9,h3l⟩:=ak h3l
   refine rqg hc8 (out:=Pr.u8 x9) (qIdxS Tryz.underlying9 hx9) ?_
   obtain⟨x10,hx10,h3l⟩:=ak h3l
   refine rqg hc8 (out:=Pr.bool x10) (du (ref03_digit_ok x9 _ hx10)) ?_
   refine rq (out:=Pr.bool x10) (bo hc8) ?_
   exact⟨x10,h3l,⟨⟨aa,aa,aa,aa,trivial⟩,Pick.refl _⟩⟩
  refine rno (neT hc8) ?_
  refine rno (neT hc8) ?_
  refine rno (neT hc8) ?_
  refine rno (neT hc8) ?_
  refine rno (neT hc8) ?_
  refine rno (neT hc8) ?_
  refine rq (out:=Pr.bool false) (aw hc8) ?_
  exact⟨false,h3l,⟨⟨aa,aa,aa,aa,trivial⟩,Pick.refl _⟩⟩
 replace h:=iteF hc5 h
 refine a7 ?_
 refine br ?_
 refine W_rs ?_
 refine rq (out:=ap x1) ai ?_
 refine rq (out:=Pr.i64 x2) ai ?_
 obtain⟨x20,hx20,h⟩:=ak h
 refine rq (out:=Pr.u8 x20) (qIdxS Tryz.underlying9 hx20) ?_
 obtain⟨x21,hx21,h⟩:=ak h
 refine rq (out:=Pr.bool x21) (du (ref03_letter_ok x20 _ hx21)) ?_
 refine az (b:=x21) rfl (fun hc22=> ?_) (fun hc22=> ?_)
 ·replace h:=iteT hc22 h
  refine br ?_
  refine bd ?_
  obtain⟨z6l,hz6,h⟩:=ak h
  obtain⟨n6,hN6⟩:=cp hz6
  clear hz6
  refine gz 2 (fun e C=>∃(x23:Int),ref03_token_k5 x1 x2 x23=some r/\At [(0,ap x1),(1,Pr.i64 x2),(7,Pr.i64 x23)] [] e C) ?_ ?_
  ·rintro e C ⟨x23,h,hat5⟩
   refine W_at hat5 ?_
   clear hat5
   unfold ref03_token_k5 at h
   refine br ?_
   refine W_rs ?_
   refine rq (out:=Pr.i64 x23) ai ?_
   refine rq (out:=Pr.bool (decide (x23>20))) qInt ?_
   refine az (b:=decide (x23>20)) rfl (fun hc33=> ?_) (fun hc33=> ?_)
   ·replace h:=iteT hc33 h
    refine W_rs ?_
    refine rq (out:=Pr.i64 0) ah ?_
    refine rq (out:=Pr.i64 0) ah ?_
    refine rq (out:=Pr.i64 2) ah ?_
    obtain rfl:=Option.some.inj h
    exact bg ⟨rfl,aa⟩
   replace h:=iteF hc33 h
   refine a7 ?_
   refine W_rs ?_
   refine rq (out:=ap x1) ai ?_
   refine rq (out:=Pr.i64 x2) ai ?_
   refine rq (out:=Pr.i64 x2) ai ?_
   refine rq (out:=Pr.i64 x23) ai ?_
   refine rq (out:=Pr.i64 (w64 (x2+x23))) qInt ?_
   obtain⟨x34,hx34,h⟩:=ak h
   refine rq (out:=ap x34) (qSubLH Tryz.underlying9 hx34) ?_
   obtain⟨x35,hx35,h⟩:=ak h
   refine rq (out:=Pr.bool x35) (du (ref03_Kept_ok x34 _ hx35)) ?_
   refine rq (out:=Pr.bool x35) ah ?_
   refine br ?_
   refine W_rs ?_
   refine rq (out:=Pr.bool x35) ai ?_
   refine az (b:=x35) rfl (fun hc36=> ?_) (fun hc36=> ?_)
   ·replace h:=iteT hc36 h
    refine W_rs ?_
    refine rq (out:=Pr.i64 x23) ai ?_
    refine rq (out:=Pr.i64 3) ah ?_
    refine rq (out:=Pr.i64 x23) ah ?_
    refine rq (out:=Pr.i64 0) ah ?_
    obtain rfl:=Option.some.inj h
    exact bg ⟨rfl,aa⟩
   replace h:=iteF hc36 h
   refine a7 ?_
   refine W_rs ?_
   refine rq (out:=Pr.i64 x23) ai ?_
   refine rq (out:=Pr.i64 1) ah ?_
   refine rq (out:=Pr.i64 x23) ah ?_
   refine rq (out:=Pr.i64 0) ah ?_
   obtain rfl:=Option.some.inj h
   exact bg ⟨rfl,aa⟩
  refine ja (fun m e C=>∃(x23:Int),fw (fun s=>i1 x2 x1 s) m x23=some z6l/\At [(0,ap x1),(1,Pr.i64 x2),(7,Pr.i64 x23)] [] e C) n6 ⟨0,hN6,⟨⟨aa,aa,aa,trivial⟩,Pick.refl _⟩⟩ ?_
  clear hN6
  rintro m e C ⟨x23,hN6,hatl6⟩
  refine W_at hatl6 ?_
  clear hatl6
  obtain⟨m6,w6l,rfl,h6l,hn6,ho6⟩:=cg hN6
  clear hN6
  replace h6l:i1 x2 x1 x23=some w6l:=h6l
  unfold i1 at h6l
  refine br ?_
  refine bz (fun e C=>∃(x31:Bool),js x23 x31=some w6l/\At [(0,ap x1),(1,Pr.i64 x2),(7,Pr.i64 x23),(74,Pr.bool x31)] [] e C) ?_ ?_
  ·rintro e C ⟨x31,h6l,hat7⟩
   refine W_at hat7 ?_
   clear hat7
   unfold js at h6l
   refine az (b:=x31) rfl (fun hc32=> ?_) (fun hc32=> ?_)
   ·replace h6l:=iteT hc32 h6l
    refine a7 ?_
    refine bd ?_
    refine W_r ?_
    refine rq (out:=Pr.i64 x23) ai ?_
    refine rq (out:=Pr.i64 (w64 (x23+1))) qInt ?_
    refine rq (out:=Pr.i64 (w64 (x23+1))) ah ?_
    exact⟨m6,Nat.lt_succ_self _,w64 (x23+1),hn6 _ (Option.some.inj h6l).symm,⟨⟨aa,aa,aa,trivial⟩,Pick.refl _⟩⟩
   replace h6l:=iteF hc32 h6l
   refine fx ?_
   obtain rfl:=ho6 _ (Option.some.inj h6l).symm
   exact⟨x23,h,⟨⟨aa,aa,aa,trivial⟩,Pick.refl _⟩⟩
  refine W_r ?_
  refine rq (out:=Pr.i64 x2) ai ?_
  refine rq (out:=Pr.i64 x23) ai ?_
  refine rq (out:=Pr.i64 (w64 (x2+x23))) qInt ?_
  refine rq (out:=ap x1) ai ?_
  refine rq (out:=Pr.i64 (x1.length:Int)) (qLenS rfl Tryz.underlying9) ?_
  refine rq (out:=Pr.bool (decide ((w64 (x2+x23))<(x1.length:Int)))) qInt ?_
  refine rq (out:=Pr.bool (decide ((w64 (x2+x23))<(x1.length:Int)))) ai ?_
  rcases bi h6l with⟨hc25,h6l⟩|⟨hc25,h6l⟩
  ·refine rqg hc25 (out:=ap x1) ai ?_
   refine rqg hc25 (out:=Pr.i64 x2) ai ?_
   refine rqg hc25 (out:=Pr.i64 x23) ai ?_
   refine rqg hc25 (out:=Pr.i64 (w64 (x2+x23))) qInt ?_
   obtain⟨x26,hx26,h6l⟩:=ak h6l
   refine rqg hc25 (out:=Pr.u8 x26) (qIdxS Tryz.underlying9 hx26) ?_
   obtain⟨x27,hx27,h6l⟩:=ak h6l
   refine rqg hc25 (out:=Pr.bool x27) (du (ref03_letter_ok x26 _ hx27)) ?_
   refine rqg hc25 (out:=Pr.bool x27) ai ?_
   rcases bi h6l with⟨hc28,h6l⟩|⟨hc28,h6l⟩
   ·refine rno (neF hc28) ?_
    refine rno (neF hc28) ?_
    refine rno (neF hc28) ?_
    refine rno (neF hc28) ?_
    refine rno (neF hc28) ?_
    refine rno (neF hc28) ?_
    refine rqg hc25 (out:=Pr.bool true) (bo hc28) ?_
    refine rq (out:=Pr.bool true) (bo hc25) ?_
    exact⟨true,h6l,⟨⟨aa,aa,aa,aa,trivial⟩,Pick.refl _⟩⟩
   refine rqg hc28 (out:=ap x1) ai ?_
   refine rqg hc28 (out:=Pr.i64 x2) ai ?_
   refine rqg hc28 (out:=Pr.i64 x23) ai ?_
   refine rqg hc28 (out:=Pr.i64 (w64 (x2+x23))) qInt ?_
   obtain⟨x29,hx29,h6l⟩:=ak h6l
   refine rqg hc28 (out:=Pr.u8 x29) (qIdxS Tryz.underlying9 hx29) ?_
   obtain⟨x30,hx30,h6l⟩:=ak h6l
   refine rqg hc28 (out:=Pr.bool x30) (du (ref03_digit_ok x29 _ hx30)) ?_
   refine rqg hc25 (out:=Pr.bool x30) (aw hc28) ?_
   refine rq (out:=Pr.bool x30) (bo hc25) ?_
   exact⟨x30,h6l,⟨⟨aa,aa,aa,aa,trivial⟩,Pick.refl _⟩⟩
  refine rno (neT hc25) ?_
  refine rno (neT hc25) ?_
  refine rno (neT hc25) ?_
  refine rno (neT hc25) ?_
  refine rno (neT hc25) ?_
  refine rno (neT hc25) ?_
  refine rno (neT hc25) ?_
  refine rnoU ?_
  refine rnoU ?_
  refine rnoU ?_
  refine rnoU ?_
  refine rnoU ?_
  refine rnoU ?_
  refine rno (neT hc25) ?_
  refine rq (out:=Pr.bool false) (aw hc25) ?_
  exact⟨false,h6l,⟨⟨aa,aa,aa,aa,trivial⟩,Pick.refl _⟩⟩
 replace h:=iteF hc22 h
 refine a7 ?_
 refine W_rs ?_
 refine rq (out:=ap x1) ai ?_
 refine rq (out:=Pr.i64 x2) ai ?_
 obtain⟨x37,hx37,h⟩:=ak h
 refine rq (out:=Pr.i64 x37) (du (ref03_mark_ok x1 x2 _ hx37)) ?_
 refine rq (out:=Pr.i64 x37) ah ?_
 refine br ?_
 refine W_rs ?_
 refine rq (out:=Pr.i64 x37) ai ?_
 refine rq (out:=Pr.bool (x37==0)) qInt ?_
 refine az (b:=x37==0) rfl (fun hc38=> ?_) (fun hc38=> ?_)
 ·replace h:=iteT hc38 h
  refine W_rs ?_
  refine rq (out:=Pr.i64 0) ah ?_
  refine rq (out:=Pr.i64 0) ah ?_
  refine rq (out:=Pr.i64 30) ah ?_
  obtain rfl:=Option.some.inj h
  exact bg ⟨rfl,aa⟩
 replace h:=iteF hc38 h
 refine a7 ?_
 refine W_rs ?_
 refine rq (out:=Pr.i64 x37) ai ?_
 refine rq (out:=Pr.i64 4) ah ?_
 refine rq (out:=Pr.i64 x37) ah ?_
 refine rq (out:=Pr.i64 0) ah ?_
 obtain rfl:=Option.some.inj h
 exact bg ⟨rfl,aa⟩
theorem ref03_Lex_ok (x1:List UInt8) (r:(List ApiToken) × Int × Int) (h:ref03_Lex x1=some r):FnP Tryz.prog 11 [ap x1] (cc [au af r.1,Pr.i64 r.2.1,Pr.i64 r.2.2]):=by
 refine ct (n:=66) (rs:=[2,3,4]) Tryz.func11 rfl Tryz.ntmps11 ⟨by decide,Tryz.results11⟩ (by decide) (fun s0=> ?_)
 unfold ref03_Lex at h
 refine W_rs ?_
 refine rq (out:=Pr.is (.slice none 0 0)) ah ?_
 refine rq (out:=Pr.i64 0) ah ?_
 refine rq (out:=Pr.i64 0) ah ?_
 refine br ?_
 refine W_rs ?_
 refine rq (out:=ap x1) ai ?_
 refine rq (out:=Pr.i64 (x1.length:Int)) (qLenS rfl Tryz.underlying9) ?_
 refine rq (out:=Pr.bool (decide ((x1.length:Int)>1048576))) qInt ?_
 refine az (b:=decide ((x1.length:Int)>1048576)) rfl (fun hc2=> ?_) (fun hc2=> ?_)
 ·replace h:=iteT hc2 h
  refine W_rs ?_
  refine rq (out:=Pr.is (.slice none 0 0)) ah ?_
  refine rq (out:=Pr.i64 0) ah ?_
  refine rq (out:=Pr.i64 2) ah ?_
  obtain rfl:=Option.some.inj h
  exact bg ⟨rfl,tup_le ⟨eg _,aa,aa,trivial⟩⟩
 replace h:=iteF hc2 h
 refine a7 ?_
 refine W_rs ?_
 refine rq (out:=Pr.is (.slice none 0 0)) ah ?_
 refine W_rs ?_
 refine rq (out:=Pr.i64 0) ah ?_
 refine bd ?_
 obtain⟨n1,hN1⟩:=cp h
 refine W_nil [5] af 37 (fun v24=> ?_) ⟨rfl,trivial⟩
 refine ja (fun m e C=>∃(x4:Int),∃(x5:List ApiToken),∃(v3:Value),fw (fun s=>dq x1 s.1 s.2) m (x4,x5)=some r/\At [(0,ap x1),(5,Pr.is v3),(6,Pr.i64 x4)] [Own.vec v3 af x5 37] e C) n1 ⟨0,[],v24,hN1,⟨⟨aa,aa,aa,trivial⟩,Pick.refl _⟩⟩ ?_
 clear hN1
 rintro m e C ⟨x4,x5,v3,hN1,hatl1⟩
 refine W_at hatl1 ?_
 clear hatl1
 obtain⟨m1,w1l,rfl,h1l,hn1,ho1⟩:=cg hN1
 clear hN1
 replace h1l:dq x1 x4 x5=some w1l:=h1l
 unfold dq at h1l
 refine bd ?_
 refine W_rs ?_
 refine rq (out:=ap x1) ai ?_
 refine rq (out:=Pr.i64 x4) ai ?_
 obtain⟨⟨x9,x10⟩,hx9,h1l⟩:=ak h1l
 refine rq (out:=cc [Pr.i64 x9,Pr.bool x10]) (du (ref03_between_ok x1 x4 _ hx9)) ?_
 refine rq (out:=cc [Pr.i64 x9,Pr.bool x10]) ai ?_
 refine rq (out:=Pr.i64 x9) bk ?_
 refine rq (out:=Pr.bool x10) bk ?_
 refine rq (out:=Pr.i64 x9) ah ?_
 refine rq (out:=Pr.bool x10) ah ?_
 refine br ?_
 refine W_rs ?_
 refine rq (out:=Pr.bool x10) ai ?_
 refine rq (out:=Pr.bool (!x10)) qNot ?_
 refine az (b:= !x10) rfl (fun hc11=> ?_) (fun hc11=> ?_)
 ·replace h1l:=iteT hc11 h1l
  refine W_rs ?_
  refine rq (out:=Pr.i64 x9) ai ?_
  refine rq (out:=Pr.is (.slice none 0 0)) ah ?_
  refine rq (out:=Pr.i64 x9) ah ?_
  refine rq (out:=Pr.i64 32) ah ?_
  have h:some ([],x9,32)=some r:=congrArg some (ho1 _ (Option.some.inj h1l).symm)
  obtain rfl:=Option.some.inj h
  exact bg ⟨rfl,tup_le ⟨eg _,aa,aa,trivial⟩⟩
 replace h1l:=iteF hc11 h1l
 refine a7 ?_
 refine br ?_
 refine W_rs ?_
 refine rq (out:=Pr.i64 x9) ai ?_
 refine rq (out:=ap x1) ai ?_
 refine rq (out:=Pr.i64 (x1.length:Int)) (qLenS rfl Tryz.underlying9) ?_
 refine rq (out:=Pr.bool (x9==(x1.length:Int))) qInt ?_
 refine az (b:=x9==(x1.length:Int)) rfl (fun hc12=> ?_) (fun hc12=> ?_)
 ·replace h1l:=iteT hc12 h1l
  refine W_rs ?_
  refine rq (out:=Pr.is v3) ai ?_
  refine rq (out:=Pr.i64 x9) ai ?_
  refine rq (out:=ap x1) ai ?_
  refine rq (out:=Pr.i64 x4) ai ?_
  obtain⟨x13,hx13,h1l⟩:=ak h1l
  refine rq (out:=ap x13) (qSubL Tryz.underlying9 hx13) ?_
  refine rq (out:=(af).val (ApiToken.mk 5 [] x9 x13)) (qBuild st37 ⟨(ApiToken.mk 5 [] 0 []),⟨_,rfl,rfl,fun j fd hj hf=>by match j,hj with| 0,h=>exact absurd rfl h| 1,_=>cases hf;rfl| 2,_=>cases hf;rfl| 3,_=>cases hf;rfl|_+4,_=>cases hf⟩,⟨(ApiToken.mk 5 [] x9 []),⟨_,rfl,rfl,fun j fd hj hf=>by match j,hj with| 0,_=>cases hf;rfl| 1,_=>cases hf;rfl| 2,h=>exact absurd rfl h| 3,_=>cases hf;rfl|_+4,_=>cases hf⟩,⟨(ApiToken.mk 5 [] x9 x13),⟨_,rfl,rfl,fun j fd hj hf=>by match j,hj with| 0,_=>cases hf;rfl| 1,_=>cases hf;rfl| 2,_=>cases hf;rfl| 3,h=>exact absurd rfl h|_+4,_=>cases hf⟩,rfl⟩⟩⟩) ?_
  refine rq (out:=au af ([(ApiToken.mk 5 [] x9 x13)]:List ApiToken)) (ce (R:=af) (a:=(ApiToken.mk 5 [] x9 x13)) el33 (Nat.le_of_ble_eq_true rfl)) ?_
  obtain⟨x14,hx14,h1l⟩:=ak h1l
  refine kj 0 el33 hx14 (fun v15=> ?_)
  refine rq (out:=Pr.is v15) ah ?_
  refine rq (out:=Pr.i64 0) ah ?_
  refine rq (out:=Pr.i64 0) ah ?_
  have h:some (x14,0,0)=some r:=congrArg some (ho1 _ (Option.some.inj h1l).symm)
  refine W_rel 0 [2] ?_ rfl ⟨rfl,trivial⟩
  obtain rfl:=Option.some.inj h
  exact bg ⟨rfl,aa⟩
 replace h1l:=iteF hc12 h1l
 refine a7 ?_
 refine W_rs ?_
 refine rq (out:=ap x1) ai ?_
 refine rq (out:=Pr.i64 x9) ai ?_
 obtain⟨⟨x16,x17,x18⟩,hx16,h1l⟩:=ak h1l
 refine rq (out:=cc [Pr.i64 x16,Pr.i64 x17,Pr.i64 x18]) (du (ref03_token_ok x1 x9 _ hx16)) ?_
 refine rq (out:=cc [Pr.i64 x16,Pr.i64 x17,Pr.i64 x18]) ai ?_
 refine rq (out:=Pr.i64 x16) bk ?_
 refine rq (out:=Pr.i64 x17) bk ?_
 refine rq (out:=Pr.i64 x18) bk ?_
 refine rq (out:=Pr.i64 x16) ah ?_
 refine rq (out:=Pr.i64 x17) ah ?_
 refine rq (out:=Pr.i64 x18) ah ?_
 refine br ?_
 refine W_rs ?_
 refine rq (out:=Pr.i64 x18) ai ?_
 refine rq (out:=Pr.bool (x18 != 0)) qInt ?_
 refine az (b:=x18 != 0) rfl (fun hc19=> ?_) (fun hc19=> ?_)
 ·replace h1l:=iteT hc19 h1l
  refine W_rs ?_
  refine rq (out:=Pr.i64 x9) ai ?_
  refine rq (out:=Pr.i64 x18) ai ?_
  refine rq (out:=Pr.is (.slice none 0 0)) ah ?_
  refine rq (out:=Pr.i64 x9) ah ?_
  refine rq (out:=Pr.i64 x18) ah ?_
  have h:some ([],x9,x18)=some r:=congrArg some (ho1 _ (Option.some.inj h1l).symm)
  obtain rfl:=Option.some.inj h
  exact bg ⟨rfl,tup_le ⟨eg _,aa,aa,trivial⟩⟩
 replace h1l:=iteF hc19 h1l
 refine a7 ?_
 refine bz (fun e C=>∃(x22:List ApiToken),∃(v23:Value),ref03_Lex_j2 x9 x17 x22=some w1l/\At [(0,ap x1),(5,Pr.is v23),(7,Pr.i64 x9),(10,Pr.i64 x17)] [Own.vec v23 af x22 37] e C) ?_ ?_
 ·rintro e C ⟨x22,v23,h1l,hat2⟩
  refine W_at hat2 ?_
  clear hat2
  unfold ref03_Lex_j2 at h1l
  refine W_r ?_
  refine rq (out:=Pr.i64 x9) ai ?_
  refine rq (out:=Pr.i64 x17) ai ?_
  refine rq (out:=Pr.i64 (w64 (x9+x17))) qInt ?_
  refine rq (out:=Pr.i64 (w64 (x9+x17))) ah ?_
  exact⟨m1,Nat.lt_succ_self _,w64 (x9+x17),x22,v23,hn1 _ (Option.some.inj h1l).symm,⟨⟨aa,aa,aa,trivial⟩,Pick.refl _⟩⟩
 refine k6 15 hmx (by kernel_rfl) (by kernel_rfl) ?_
 refine qq (out:=Pr.is v3) ai ?_
 refine qq (out:=Pr.i64 x16) ai ?_
 refine qq (out:=ap x1) ai ?_
 refine qq (out:=Pr.i64 x9) ai ?_
 refine qq (out:=Pr.i64 x9) ai ?_
 refine qq (out:=Pr.i64 x17) ai ?_
 refine qq (out:=Pr.i64 (w64 (x9+x17))) qInt ?_
 obtain⟨x20,hx20,h1l⟩:=ak h1l
 refine qq (out:=ap x20) (qSubLH Tryz.underlying9 hx20) ?_
 refine qq (out:=Pr.i64 x9) ai ?_
 refine qq (out:=ap x1) ai ?_
 refine qq (out:=Pr.i64 x4) ai ?_
 refine qq (out:=Pr.i64 x9) ai ?_
 obtain⟨x21,hx21,h1l⟩:=ak h1l
 refine qq (out:=ap x21) (qSubLH Tryz.underlying9 hx21) ?_
 refine qq (out:=(af).val (ApiToken.mk x16 x20 x9 x21)) (qBuild st37 ⟨(ApiToken.mk x16 [] 0 []),⟨_,rfl,rfl,fun j fd hj hf=>by match j,hj with| 0,h=>exact absurd rfl h| 1,_=>cases hf;rfl| 2,_=>cases hf;rfl| 3,_=>cases hf;rfl|_+4,_=>cases hf⟩,⟨(ApiToken.mk x16 x20 0 []),⟨_,rfl,rfl,fun j fd hj hf=>by match j,hj with| 0,_=>cases hf;rfl| 1,h=>exact absurd rfl h| 2,_=>cases hf;rfl| 3,_=>cases hf;rfl|_+4,_=>cases hf⟩,⟨(ApiToken.mk x16 x20 x9 []),⟨_,rfl,rfl,fun j fd hj hf=>by match j,hj with| 0,_=>cases hf;rfl| 1,_=>cases hf;rfl| 2,h=>exact absurd rfl h| 3,_=>cases hf;rfl|_+4,_=>cases hf⟩,⟨(ApiToken.mk x16 x20 x9 x21),⟨_,rfl,rfl,fun j fd hj hf=>by match j,hj with| 0,_=>cases hf;rfl| 1,_=>cases hf;rfl| 2,_=>cases hf;rfl| 3,h=>exact absurd rfl h|_+4,_=>cases hf⟩,rfl⟩⟩⟩⟩) ?_
 refine qq (out:=au af ([(ApiToken.mk x16 x20 x9 x21)]:List ApiToken)) (ce (R:=af) (a:=(ApiToken.mk x16 x20 x9 x21)) el33 (Nat.le_of_ble_eq_true rfl)) ?_
 obtain⟨x22,hx22,h1l⟩:=ak h1l
 refine kj 0 el33 hx22 (fun v23=> ?_)
 refine rq (out:=Pr.is v23) ah ?_
 exact⟨x22,v23,h1l,⟨⟨aa,aa,aa,aa,trivial⟩,Pick.refl _⟩⟩
def rec_ref11_Same_spec (R:de):Prop:=(∀(x1:ApiNode) (x2:ApiNode) (r:Bool),R x1 x2=some r->FnP Tryz.prog 12 [(rApiNode).val x1,(rApiNode).val x2] (Pr.bool r))
theorem F_ref11_Same_step (R:de) (ih:rec_ref11_Same_spec R) (x1 x2:ApiNode) (r:Bool) (h:F_ref11_Same R x1 x2=some r):FnP Tryz.prog 12 [(rApiNode).val x1,(rApiNode).val x2] (Pr.bool r):=by
 refine ct (n:=62) (rs:=[4]) Tryz.func12 rfl Tryz.ntmps12 ⟨by decide,Tryz.results12⟩ (by decide) (fun s0=> ?_)
 unfold F_ref11_Same at h
 refine W_rs ?_
 refine rBox (R:=rApiNode) (a:=x1) rfl (fun b3=> ?_)
 refine rBox (R:=rApiNode) (a:=x2) rfl (fun b4=> ?_)
 refine rq (out:=Pr.bool false) ah ?_
 refine br ?_
 refine bz (fun e C=>∃(x20:Bool),ik R x1 x2 x20=some r/\At [(2,al b3 0),(3,al b4 0),(41,Pr.bool x20)] [Own.box b3 rApiNode x1,Own.box b4 rApiNode x2] e C) ?_ ?_
 ·rintro e C ⟨x20,h,hat4⟩
  refine W_at hat4 ?_
  clear hat4
  unfold ik at h
  refine az (b:=x20) rfl (fun hc21=> ?_) (fun hc21=> ?_)
  ·replace h:=iteT hc21 h
   refine W_rs ?_
   refine rq (out:=Pr.bool false) ah ?_
   obtain rfl:=Option.some.inj h
   exact bg ⟨rfl,aa⟩
  replace h:=iteF hc21 h
  refine a7 ?_
  refine br ?_
  refine W_rs ?_
  refine rq (out:=Pr.i64 0) ah ?_
  refine bd ?_
  obtain⟨z2l,hz2,h⟩:=ak h
  obtain⟨n2,hN2⟩:=cp hz2
  clear hz2
  refine gz 0 (fun e C=>ref11_Same_k1 R=some r/\At [] [Own.box b3 rApiNode x1,Own.box b4 rApiNode x2] e C) ?_ ?_
  ·rintro e C ⟨h,hat1⟩
   refine W_at hat1 ?_
   clear hat1
   unfold ref11_Same_k1 at h
   refine W_rs ?_
   refine rq (out:=Pr.bool true) ah ?_
   obtain rfl:=Option.some.inj h
   exact bg ⟨rfl,aa⟩
  refine ja (fun m e C=>∃(x22:Int),fw (fun s=>kn R x1 x2 s) m x22=some z2l/\At [(2,al b3 0),(3,al b4 0),(5,Pr.i64 x22)] [Own.box b3 rApiNode x1,Own.box b4 rApiNode x2] e C) n2 ⟨0,hN2,⟨⟨aa,aa,aa,trivial⟩,Pick.refl _⟩⟩ ?_
  clear hN2
  rintro m e C ⟨x22,hN2,hatl2⟩
  refine W_at hatl2 ?_
  clear hatl2
  obtain⟨m2,w2l,rfl,h2l,hn2,ho2⟩:=cg hN2
  clear hN2
  replace h2l:kn R x1 x2 x22=some w2l:=h2l
  unfold kn at h2l
  refine br ?_
  refine W_rs ?_
  refine rq (out:=Pr.i64 x22) ai ?_
  refine rq (out:=al b3 8) (a6 fld32_8) ?_
  refine rq (out:=au rApiNode x1.Kids) (bh (R:=rApiNode) (a:=x1) (R':=bj rApiNode) 0 ty24 el) ?_
  refine rq (out:=Pr.i64 (x1.Kids.length:Int)) (qLenL rfl Tryz.underlying24) ?_
  refine rq (out:=Pr.bool (decide (x22<(x1.Kids.length:Int)))) qInt ?_
  refine az (b:=decide (x22<(x1.Kids.length:Int))) rfl (fun hc24=> ?_) (fun hc24=> ?_)
  ·replace h2l:=iteT hc24 h2l
   refine a7 ?_
   refine br ?_
   refine bd ?_
   refine bz (fun e C=>∃(x27:Bool),ref11_Same_j3 R x22 x27=some w2l/\At [(2,al b3 0),(3,al b4 0),(5,Pr.i64 x22),(6,Pr.bool x27)] [Own.box b3 rApiNode x1,Own.box b4 rApiNode x2] e C) ?_ ?_
   ·rintro e C ⟨x27,h2l,hat3⟩
    refine W_at hat3 ?_
    clear hat3
    unfold ref11_Same_j3 at h2l
    refine W_rs ?_
    refine rq (out:=Pr.bool x27) ai ?_
    refine rq (out:=Pr.bool (!x27)) qNot ?_
    refine az (b:= !x27) rfl (fun hc28=> ?_) (fun hc28=> ?_)
    ·replace h2l:=iteT hc28 h2l
     refine W_rs ?_
     refine rq (out:=Pr.bool false) ah ?_
     obtain rfl:=ho2 _ (Option.some.inj h2l).symm
     replace h:some false=some r:=h
     obtain rfl:=Option.some.inj h
     exact bg ⟨rfl,aa⟩
    replace h2l:=iteF hc28 h2l
    refine a7 ?_
    refine W_r ?_
    refine rq (out:=Pr.i64 x22) ai ?_
    refine rq (out:=Pr.i64 (w64 (x22+1))) qInt ?_
    refine rq (out:=Pr.i64 (w64 (x22+1))) ah ?_
    exact⟨m2,Nat.lt_succ_self _,w64 (x22+1),hn2 _ (Option.some.inj h2l).symm,⟨⟨aa,aa,aa,trivial⟩,Pick.refl _⟩⟩
   refine k6 12 hmx (by kernel_rfl) (by kernel_rfl) ?_
   refine qq (out:=al b3 8) (a6 fld32_8) ?_
   refine qq (out:=au rApiNode x1.Kids) (bh (R:=rApiNode) (a:=x1) (R':=bj rApiNode) 0 ty24 el) ?_
   refine qq (out:=Pr.i64 x22) ai ?_
   obtain⟨x25,hx25,h2l⟩:=ak h2l
   refine qq (out:=bw rApiNode x25) (qIdxA (R:=rApiNode) (l:=x1.Kids) Tryz.underlying24 Tryz.sizeOf32 hx25) ?_
   refine qq (out:=(rApiNode).val x25) (i6 (R:=rApiNode) (a:=x25) ty32) ?_
   refine qq (out:=al b4 8) (a6 fld32_8) ?_
   refine qq (out:=au rApiNode x2.Kids) (bh (R:=rApiNode) (a:=x2) (R':=bj rApiNode) 1 ty24 el) ?_
   refine qq (out:=Pr.i64 x22) ai ?_
   obtain⟨x26,hx26,h2l⟩:=ak h2l
   refine qq (out:=bw rApiNode x26) (qIdxA (R:=rApiNode) (l:=x2.Kids) Tryz.underlying24 Tryz.sizeOf32 hx26) ?_
   refine qq (out:=(rApiNode).val x26) (i6 (R:=rApiNode) (a:=x26) ty32) ?_
   obtain⟨x27,hx27,h2l⟩:=ak h2l
   refine qq (out:=Pr.bool x27) (du (ih x25 x26 _ hx27)) ?_
   refine qq (out:=Pr.bool x27) ah ?_
   exact⟨x27,h2l,⟨⟨aa,aa,aa,aa,trivial⟩,Pick.refl _⟩⟩
  replace h2l:=iteF hc24 h2l
  refine fx ?_
  obtain rfl:=ho2 _ (Option.some.inj h2l).symm
  exact⟨h,⟨trivial,Pick.refl _⟩⟩
 refine W_r ?_
 refine rq (out:=al b3 0) (a6 fld32_0) ?_
 refine rq (out:=Pr.i64 x1.Kind) (bh (R:=rApiNode) (a:=x1) (R':=Rp.int .i64) 0 ty3 gm) ?_
 refine rq (out:=al b4 0) (a6 fld32_0) ?_
 refine rq (out:=Pr.i64 x2.Kind) (bh (R:=rApiNode) (a:=x2) (R':=Rp.int .i64) 1 ty3 gm) ?_
 refine rq (out:=Pr.bool (x1.Kind != x2.Kind)) qInt ?_
 refine rq (out:=Pr.bool (x1.Kind != x2.Kind)) ai ?_
 rcases bi h with⟨hc5,h⟩|⟨hc5,h⟩
 ·refine rno (neF hc5) ?_
  refine rno (neF hc5) ?_
  refine rno (neF hc5) ?_
  refine rno (neF hc5) ?_
  refine rno (neF hc5) ?_
  refine rq (out:=Pr.bool true) (bo hc5) ?_
  refine rq (out:=Pr.bool true) ai ?_
  have hc13:true=true:=rfl
  refine rno (neF hc13) ?_
  refine rno (neF hc13) ?_
  refine rno (neF hc13) ?_
  refine rno (neF hc13) ?_
  refine rno (neF hc13) ?_
  refine rq (out:=Pr.bool true) (bo hc13) ?_
  refine rq (out:=Pr.bool true) ai ?_
  have hc17:true=true:=rfl
  refine rno (neF hc17) ?_
  refine rno (neF hc17) ?_
  refine rno (neF hc17) ?_
  refine rno (neF hc17) ?_
  refine rno (neF hc17) ?_
  refine rq (out:=Pr.bool true) (bo hc17) ?_
  refine rq (out:=Pr.bool true) ai ?_
  have hc19:true=true:=rfl
  refine rno (neF hc19) ?_
  refine rno (neF hc19) ?_
  refine rno (neF hc19) ?_
  refine rno (neF hc19) ?_
  refine rno (neF hc19) ?_
  refine rno (neF hc19) ?_
  refine rno (neF hc19) ?_
  refine rq (out:=Pr.bool true) (bo hc19) ?_
  exact⟨true,h,⟨⟨aa,aa,aa,trivial⟩,Pick.refl _⟩⟩
 refine rqg hc5 (out:=al b3 1) (a6 fld32_1) ?_
 refine rqg hc5 (out:=ap x1.Text) (bh (R:=rApiNode) (a:=x1) (R':=a8) 0 ty9 subApiNode_Text) ?_
 refine rqg hc5 (out:=al b4 1) (a6 fld32_1) ?_
 refine rqg hc5 (out:=ap x2.Text) (bh (R:=rApiNode) (a:=x2) (R':=a8) 1 ty9 subApiNode_Text) ?_
 refine rqg hc5 (out:=Pr.bool (!(x1.Text==x2.Text))) qStr ?_
 refine rq (out:=Pr.bool (!(x1.Text==x2.Text))) (aw hc5) ?_
 refine rq (out:=Pr.bool (!(x1.Text==x2.Text))) ai ?_
 rcases bi h with⟨hc6,h⟩|⟨hc6,h⟩
 ·refine rno (neF hc6) ?_
  refine rno (neF hc6) ?_
  refine rno (neF hc6) ?_
  refine rno (neF hc6) ?_
  refine rno (neF hc6) ?_
  refine rq (out:=Pr.bool true) (bo hc6) ?_
  refine rq (out:=Pr.bool true) ai ?_
  have hc10:true=true:=rfl
  refine rno (neF hc10) ?_
  refine rno (neF hc10) ?_
  refine rno (neF hc10) ?_
  refine rno (neF hc10) ?_
  refine rno (neF hc10) ?_
  refine rq (out:=Pr.bool true) (bo hc10) ?_
  refine rq (out:=Pr.bool true) ai ?_
  have hc12:true=true:=rfl
  refine rno (neF hc12) ?_
  refine rno (neF hc12) ?_
  refine rno (neF hc12) ?_
  refine rno (neF hc12) ?_
  refine rno (neF hc12) ?_
  refine rno (neF hc12) ?_
  refine rno (neF hc12) ?_
  refine rq (out:=Pr.bool true) (bo hc12) ?_
  exact⟨true,h,⟨⟨aa,aa,aa,trivial⟩,Pick.refl _⟩⟩
 refine rqg hc6 (out:=al b3 2) (a6 fld32_2) ?_
 refine rqg hc6 (out:=ap x1.Type_) (bh (R:=rApiNode) (a:=x1) (R':=a8) 0 ty9 subApiNode_Type) ?_
 refine rqg hc6 (out:=al b4 2) (a6 fld32_2) ?_
 refine rqg hc6 (out:=ap x2.Type_) (bh (R:=rApiNode) (a:=x2) (R':=a8) 1 ty9 subApiNode_Type) ?_
 refine rqg hc6 (out:=Pr.bool (!(x1.Type_==x2.Type_))) qStr ?_
 refine rq (out:=Pr.bool (!(x1.Type_==x2.Type_))) (aw hc6) ?_
 refine rq (out:=Pr.bool (!(x1.Type_==x2.Type_))) ai ?_
 rcases bi h with⟨hc7,h⟩|⟨hc7,h⟩
 ·refine rno (neF hc7) ?_
  refine rno (neF hc7) ?_
  refine rno (neF hc7) ?_
  refine rno (neF hc7) ?_
  refine rno (neF hc7) ?_
  refine rq (out:=Pr.bool true) (bo hc7) ?_
  refine rq (out:=Pr.bool true) ai ?_
  have hc9:true=true:=rfl
  refine rno (neF hc9) ?_
  refine rno (neF hc9) ?_
  refine rno (neF hc9) ?_
  refine rno (neF hc9) ?_
  refine rno (neF hc9) ?_
  refine rno (neF hc9) ?_
  refine rno (neF hc9) ?_
  refine rq (out:=Pr.bool true) (bo hc9) ?_
  exact⟨true,h,⟨⟨aa,aa,aa,trivial⟩,Pick.refl _⟩⟩
 refine rqg hc7 (out:=al b3 3) (a6 fld32_3) ?_
 refine rqg hc7 (out:=Pr.i64 x1.N) (bh (R:=rApiNode) (a:=x1) (R':=Rp.int .i64) 0 ty2 subApiNode_N) ?_
 refine rqg hc7 (out:=al b4 3) (a6 fld32_3) ?_
 refine rqg hc7 (out:=Pr.i64 x2.N) (bh (R:=rApiNode) (a:=x2) (R':=Rp.int .i64) 1 ty2 subApiNode_N) ?_
 refine rqg hc7 (out:=Pr.bool (x1.N != x2.N)) qInt ?_
 refine rq (out:=Pr.bool (x1.N != x2.N)) (aw hc7) ?_
 refine rq (out:=Pr.bool (x1.N != x2.N)) ai ?_
 rcases bi h with⟨hc8,h⟩|⟨hc8,h⟩
 ·refine rno (neF hc8) ?_
  refine rno (neF hc8) ?_
  refine rno (neF hc8) ?_
  refine rno (neF hc8) ?_
  refine rno (neF hc8) ?_
  refine rno (neF hc8) ?_
  refine rno (neF hc8) ?_
  refine rq (out:=Pr.bool true) (bo hc8) ?_
  exact⟨true,h,⟨⟨aa,aa,aa,trivial⟩,Pick.refl _⟩⟩
 refine rqg hc8 (out:=al b3 8) (a6 fld32_8) ?_
 refine rqg hc8 (out:=au rApiNode x1.Kids) (bh (R:=rApiNode) (a:=x1) (R':=bj rApiNode) 0 ty24 el) ?_
 refine rqg hc8 (out:=Pr.i64 (x1.Kids.length:Int)) (qLenL rfl Tryz.underlying24) ?_
 refine rqg hc8 (out:=al b4 8) (a6 fld32_8) ?_
 refine rqg hc8 (out:=au rApiNode x2.Kids) (bh (R:=rApiNode) (a:=x2) (R':=bj rApiNode) 1 ty24 el) ?_
 refine rqg hc8 (out:=Pr.i64 (x2.Kids.length:Int)) (qLenL rfl Tryz.underlying24) ?_
 refine rqg hc8 (out:=Pr.bool ((x1.Kids.length:Int) != (x2.Kids.length:Int))) qInt ?_
 refine rq (out:=Pr.bool ((x1.Kids.length:Int) != (x2.Kids.length:Int))) (aw hc8) ?_
 exact⟨(x1.Kids.length:Int) != (x2.Kids.length:Int),h,⟨⟨aa,aa,aa,trivial⟩,Pick.refl _⟩⟩
theorem rec_ref11_Same_ok :∀n,rec_ref11_Same_spec (gf n):=by
 intro n
 induction n with
 |zero=>exact(fun x1 x2 r h=>nomatch (show none=some r from h))
 |succ n ih=>exact(fun x1 x2 r h=>F_ref11_Same_step (gf n) ih x1 x2 r h)
theorem ref11_Same_ok (x1 x2:ApiNode) (r:Bool) (h:ref11_Same x1 x2=some r):FnP Tryz.prog 12 [(rApiNode).val x1,(rApiNode).val x2] (Pr.bool r):=(rec_ref11_Same_ok 1048576) x1 x2 r h
theorem law12_ParseLead_ok (x1:List UInt8) (r:Bool) (h:law12_ParseLead x1=some r):FnP Tryz.prog 4 [ap x1] (Pr.bool r):=by
 refine ct (n:=83) (rs:=[2]) Tryz.func4 rfl Tryz.ntmps4 ⟨by decide,Tryz.results4⟩ (by decide) (fun s0=> ?_)
 unfold law12_ParseLead at h
 refine W_rs ?_
 refine rq (out:=Pr.bool false) ah ?_
 refine W_rs ?_
 obtain⟨x2,hx2,h⟩:=ak h
 refine rq (out:=Pr.bool x2) (du (law12_awake_ok _ hx2)) ?_
 refine rq (out:=Pr.bool x2) ah ?_
 refine br ?_
 refine W_rs ?_
 refine rq (out:=Pr.bool x2) ai ?_
 refine rq (out:=Pr.bool (!x2)) qNot ?_
 refine az (b:= !x2) rfl (fun hc3=> ?_) (fun hc3=> ?_)
 ·replace h:=iteT hc3 h
  refine W_rs ?_
  refine rq (out:=Pr.bool false) ah ?_
  obtain rfl:=Option.some.inj h
  exact bg ⟨rfl,aa⟩
 replace h:=iteF hc3 h
 refine a7 ?_
 refine W_rs ?_
 refine rq (out:=ap x1) ai ?_
 obtain⟨x4,hx4,h⟩:=ak h
 refine rq (out:=Pr.bool x4) (du (law12_short_ok x1 _ hx4)) ?_
 refine rq (out:=Pr.bool x4) ah ?_
 refine br ?_
 refine W_rs ?_
 refine rq (out:=Pr.bool x4) ai ?_
 refine rq (out:=Pr.bool (!x4)) qNot ?_
 refine az (b:= !x4) rfl (fun hc5=> ?_) (fun hc5=> ?_)
 ·replace h:=iteT hc5 h
  refine W_rs ?_
  refine rq (out:=Pr.bool true) ah ?_
  obtain rfl:=Option.some.inj h
  exact bg ⟨rfl,aa⟩
 replace h:=iteF hc5 h
 refine a7 ?_
 refine W_rs ?_
 refine rq (out:=ap x1) ai ?_
 obtain⟨⟨x6,x7,x8⟩,hx6,h⟩:=ak h
 refine rq (out:=cc [au af x6,Pr.i64 x7,Pr.i64 x8]) (du (ref03_Lex_ok x1 _ hx6)) ?_
 refine rq (out:=cc [au af x6,Pr.i64 x7,Pr.i64 x8]) ai ?_
 refine rq (out:=au af x6) bk ?_
 refine rq (out:=Pr.i64 x7) bk ?_
 refine rq (out:=Pr.i64 x8) bk ?_
 refine rq (out:=au af x6) ah ?_
 refine rq (out:=Pr.i64 x7) ah ?_
 refine rq (out:=Pr.i64 x8) ah ?_
 refine br ?_
 refine W_rs ?_
 refine rq (out:=Pr.i64 x8) ai ?_
 refine rq (out:=Pr.bool (x8 != 0)) qInt ?_
 refine az (b:=x8 != 0) rfl (fun hc9=> ?_) (fun hc9=> ?_)
 ·replace h:=iteT hc9 h
  refine W_rs ?_
  refine rq (out:=Pr.bool true) ah ?_
  obtain rfl:=Option.some.inj h
  exact bg ⟨rfl,aa⟩
 replace h:=iteF hc9 h
 refine a7 ?_
 refine W_rs ?_
 refine rq (out:=ap ([47,42,32,97,32,110,111,116,101,32,42,47]:List UInt8)) ah ?_
 refine br ?_
 refine W_rs ?_
 refine rq (out:=Pr.i64 0) ah ?_
 refine bd ?_
 obtain⟨z6l,hz6,h⟩:=ak h
 obtain⟨n6,hN6⟩:=cp hz6
 clear hz6
 refine gz 0 (fun e C=>∃(x10:List UInt8),j6 x1 x10=some r/\At [(0,ap x1),(8,ap x10)] [] e C) ?_ ?_
 ·rintro e C ⟨x10,h,hat5⟩
  refine W_at hat5 ?_
  clear hat5
  unfold j6 at h
  refine W_rs ?_
  refine rq (out:=ap x1) ai ?_
  obtain⟨⟨x19,x20⟩,hx19,h⟩:=ak h
  refine rq (out:=cc [au rApiNode x19,(aj).val x20]) (du (parse_File_ok x1 _ hx19)) ?_
  refine rq (out:=cc [au rApiNode x19,(aj).val x20]) ai ?_
  refine rq (out:=au rApiNode x19) bk ?_
  refine rq (out:=(aj).val x20) bk ?_
  refine bn (R:=aj) (z:=(ApiMistake.mk 0 0 0)) Tryz.zeroValue27 (fun _=>⟨_,⟨_,_,rfl,rfl,⟨_,_,rfl,rfl,⟨_,_,rfl,rfl,rfl⟩⟩⟩,rfl⟩) (fun b21=> ?_)
  refine rq (out:=au rApiNode x19) ah ?_
  refine a5 (R:=aj) (R':=aj) (a:=(ApiMistake.mk 0 0 0)) (y:=x20) 0 Tryz.sizeOf27 (Upd.refl _) ?_
  refine W_rs ?_
  refine rq (out:=ap x10) ai ?_
  obtain⟨⟨x22,x23⟩,hx22,h⟩:=ak h
  refine rq (out:=cc [au rApiNode x22,(aj).val x23]) (du (parse_File_ok x10 _ hx22)) ?_
  refine rq (out:=cc [au rApiNode x22,(aj).val x23]) ai ?_
  refine rq (out:=au rApiNode x22) bk ?_
  refine rq (out:=(aj).val x23) bk ?_
  refine bn (R:=aj) (z:=(ApiMistake.mk 0 0 0)) Tryz.zeroValue27 (fun _=>⟨_,⟨_,_,rfl,rfl,⟨_,_,rfl,rfl,⟨_,_,rfl,rfl,rfl⟩⟩⟩,rfl⟩) (fun b24=> ?_)
  refine rq (out:=au rApiNode x22) ah ?_
  refine a5 (R:=aj) (R':=aj) (a:=(ApiMistake.mk 0 0 0)) (y:=x23) 1 Tryz.sizeOf27 (Upd.refl _) ?_
  refine br ?_
  refine bz (fun e C=>∃(x26:Bool),im x19 x22 x26=some r/\At [(10,au rApiNode x19),(12,au rApiNode x22),(66,Pr.bool x26)] [Own.box b21 aj x20,Own.box b24 aj x23] e C) ?_ ?_
  ·rintro e C ⟨x26,h,hat4⟩
   refine W_at hat4 ?_
   clear hat4
   unfold im at h
   refine az (b:=x26) rfl (fun hc27=> ?_) (fun hc27=> ?_)
   ·replace h:=iteT hc27 h
    refine W_rs ?_
    refine rq (out:=Pr.bool false) ah ?_
    obtain rfl:=Option.some.inj h
    exact bg ⟨rfl,aa⟩
   replace h:=iteF hc27 h
   refine a7 ?_
   refine br ?_
   refine W_rs ?_
   refine rq (out:=Pr.i64 0) ah ?_
   refine bd ?_
   obtain⟨z2l,hz2,h⟩:=ak h
   obtain⟨n2,hN2⟩:=cp hz2
   clear hz2
   refine gz 2 (fun e C=>law12_ParseLead_k1=some r/\At [] [Own.box b21 aj x20,Own.box b24 aj x23] e C) ?_ ?_
   ·rintro e C ⟨h,hat1⟩
    refine W_at hat1 ?_
    clear hat1
    unfold law12_ParseLead_k1 at h
    refine W_rs ?_
    refine rq (out:=Pr.bool true) ah ?_
    obtain rfl:=Option.some.inj h
    exact bg ⟨rfl,aa⟩
   refine ja (fun m e C=>∃(x28:Int),fw (fun s=>fq x19 x22 s) m x28=some z2l/\At [(10,au rApiNode x19),(12,au rApiNode x22),(14,Pr.i64 x28)] [Own.box b21 aj x20,Own.box b24 aj x23] e C) n2 ⟨0,hN2,⟨⟨aa,aa,aa,trivial⟩,Pick.refl _⟩⟩ ?_
   clear hN2
   rintro m e C ⟨x28,hN2,hatl2⟩
   refine W_at hatl2 ?_
   clear hatl2
   obtain⟨m2,w2l,rfl,h2l,hn2,ho2⟩:=cg hN2
   clear hN2
   replace h2l:fq x19 x22 x28=some w2l:=h2l
   unfold fq at h2l
   refine br ?_
   refine W_rs ?_
   refine rq (out:=Pr.i64 x28) ai ?_
   refine rq (out:=au rApiNode x19) ai ?_
   refine rq (out:=Pr.i64 (x19.length:Int)) (qLenL rfl Tryz.underlying24) ?_
   refine rq (out:=Pr.bool (decide (x28<(x19.length:Int)))) qInt ?_
   refine az (b:=decide (x28<(x19.length:Int))) rfl (fun hc30=> ?_) (fun hc30=> ?_)
   ·replace h2l:=iteT hc30 h2l
    refine a7 ?_
    refine br ?_
    refine bd ?_
    refine bz (fun e C=>∃(x33:Bool),j7 x28 x33=some w2l/\At [(10,au rApiNode x19),(12,au rApiNode x22),(14,Pr.i64 x28),(82,Pr.bool (!x33))] [Own.box b21 aj x20,Own.box b24 aj x23] e C) ?_ ?_
    ·rintro e C ⟨x33,h2l,hat3⟩
     refine W_at hat3 ?_
     clear hat3
     unfold j7 at h2l
     refine az (b:= !x33) rfl (fun hc34=> ?_) (fun hc34=> ?_)
     ·replace h2l:=iteT hc34 h2l
      refine W_rs ?_
      refine rq (out:=Pr.bool false) ah ?_
      obtain rfl:=ho2 _ (Option.some.inj h2l).symm
      replace h:some false=some r:=h
      obtain rfl:=Option.some.inj h
      exact bg ⟨rfl,aa⟩
     replace h2l:=iteF hc34 h2l
     refine a7 ?_
     refine W_r ?_
     refine rq (out:=Pr.i64 x28) ai ?_
     refine rq (out:=Pr.i64 (w64 (x28+1))) qInt ?_
     refine rq (out:=Pr.i64 (w64 (x28+1))) ah ?_
     exact⟨m2,Nat.lt_succ_self _,w64 (x28+1),hn2 _ (Option.some.inj h2l).symm,⟨⟨aa,aa,aa,trivial⟩,Pick.refl _⟩⟩
    refine k6 10 hmx (by kernel_rfl) (by kernel_rfl) ?_
    refine qq (out:=au rApiNode x19) ai ?_
    refine qq (out:=Pr.i64 x28) ai ?_
    obtain⟨x31,hx31,h2l⟩:=ak h2l
    refine qq (out:=bw rApiNode x31) (qIdxA (R:=rApiNode) (l:=x19) Tryz.underlying24 Tryz.sizeOf32 hx31) ?_
    refine qq (out:=(rApiNode).val x31) (i6 (R:=rApiNode) (a:=x31) ty32) ?_
    refine qq (out:=au rApiNode x22) ai ?_
    refine qq (out:=Pr.i64 x28) ai ?_
    obtain⟨x32,hx32,h2l⟩:=ak h2l
    refine qq (out:=bw rApiNode x32) (qIdxA (R:=rApiNode) (l:=x22) Tryz.underlying24 Tryz.sizeOf32 hx32) ?_
    refine qq (out:=(rApiNode).val x32) (i6 (R:=rApiNode) (a:=x32) ty32) ?_
    obtain⟨x33,hx33,h2l⟩:=ak h2l
    refine qq (out:=Pr.bool x33) (du (ref11_Same_ok x31 x32 _ hx33)) ?_
    refine qq (out:=Pr.bool (!x33)) qNot ?_
    exact⟨x33,h2l,⟨⟨aa,aa,aa,aa,trivial⟩,Pick.refl _⟩⟩
   replace h2l:=iteF hc30 h2l
   refine fx ?_
   obtain rfl:=ho2 _ (Option.some.inj h2l).symm
   exact⟨h,⟨trivial,Pick.refl _⟩⟩
  refine W_r ?_
  refine rq (out:=al b21 0) (a6 fld27_0) ?_
  refine rq (out:=Pr.i64 x20.Code) (bh (R:=aj) (a:=x20) (R':=Rp.int .i64) 0 ty25 dz) ?_
  refine rq (out:=al b24 0) (a6 fld27_0) ?_
  refine rq (out:=Pr.i64 x23.Code) (bh (R:=aj) (a:=x23) (R':=Rp.int .i64) 1 ty25 dz) ?_
  refine rq (out:=Pr.bool (x20.Code != x23.Code)) qInt ?_
  refine rq (out:=Pr.bool (x20.Code != x23.Code)) ai ?_
  rcases bi h with⟨hc25,h⟩|⟨hc25,h⟩
  ·refine rno (neF hc25) ?_
   refine rno (neF hc25) ?_
   refine rno (neF hc25) ?_
   refine rno (neF hc25) ?_
   refine rno (neF hc25) ?_
   refine rq (out:=Pr.bool true) (bo hc25) ?_
   exact⟨true,h,⟨⟨aa,aa,aa,trivial⟩,Pick.refl _⟩⟩
  refine rqg hc25 (out:=au rApiNode x19) ai ?_
  refine rqg hc25 (out:=Pr.i64 (x19.length:Int)) (qLenL rfl Tryz.underlying24) ?_
  refine rqg hc25 (out:=au rApiNode x22) ai ?_
  refine rqg hc25 (out:=Pr.i64 (x22.length:Int)) (qLenL rfl Tryz.underlying24) ?_
  refine rqg hc25 (out:=Pr.bool ((x19.length:Int) != (x22.length:Int))) qInt ?_
  refine rq (out:=Pr.bool ((x19.length:Int) != (x22.length:Int))) (aw hc25) ?_
  exact⟨(x19.length:Int) != (x22.length:Int),h,⟨⟨aa,aa,aa,trivial⟩,Pick.refl _⟩⟩
 refine ja (fun m e C=>∃(x10:List UInt8),∃(x11:Int),fw (fun s=>eo x6 s.1 s.2) m (x10,x11)=some z6l/\At [(0,ap x1),(5,au af x6),(8,ap x10),(9,Pr.i64 x11)] [] e C) n6 ⟨([47,42,32,97,32,110,111,116,101,32,42,47]:List UInt8),0,hN6,⟨⟨aa,aa,aa,aa,trivial⟩,Pick.refl _⟩⟩ ?_
 clear hN6
 rintro m e C ⟨x10,x11,hN6,hatl6⟩
 refine W_at hatl6 ?_
 clear hatl6
 obtain⟨m6,w6l,rfl,h6l,hn6,ho6⟩:=cg hN6
 clear hN6
 replace h6l:eo x6 x10 x11=some w6l:=h6l
 unfold eo at h6l
 refine br ?_
 refine W_rs ?_
 refine rq (out:=Pr.i64 x11) ai ?_
 refine rq (out:=au af x6) ai ?_
 refine rq (out:=Pr.i64 (x6.length:Int)) (qLenL rfl Tryz.underlying33) ?_
 refine rq (out:=Pr.bool (decide (x11<(x6.length:Int)))) qInt ?_
 refine az (b:=decide (x11<(x6.length:Int))) rfl (fun hc14=> ?_) (fun hc14=> ?_)
 ·replace h6l:=iteT hc14 h6l
  refine a7 ?_
  refine br ?_
  refine bd ?_
  refine W_r ?_
  refine rq (out:=ap x10) ai ?_
  obtain⟨x15,hx15,h6l⟩:=ak h6l
  refine rq (out:=ap x15) (qCat' hx15) ?_
  refine rq (out:=au af x6) ai ?_
  refine rq (out:=Pr.i64 x11) ai ?_
  obtain⟨x16,hx16,h6l⟩:=ak h6l
  refine rq (out:=bw af x16) (qIdxA (R:=af) (l:=x6) Tryz.underlying33 Tryz.sizeOf37 hx16) ?_
  refine rq (out:=bw a8 x16.Text) (qFieldC (R:=af) (a:=x16) fld37_1 subApiToken_Text) ?_
  refine rq (out:=ap x16.Text) (i6 (R:=a8) (a:=x16.Text) ty9) ?_
  obtain⟨x17,hx17,h6l⟩:=ak h6l
  refine rq (out:=ap x17) (qCat' hx17) ?_
  obtain⟨x18,hx18,h6l⟩:=ak h6l
  refine rq (out:=ap x18) (qCat' hx18) ?_
  refine rq (out:=ap x18) ah ?_
  refine W_r ?_
  refine rq (out:=Pr.i64 x11) ai ?_
  refine rq (out:=Pr.i64 (w64 (x11+1))) qInt ?_
  refine rq (out:=Pr.i64 (w64 (x11+1))) ah ?_
  exact⟨m6,Nat.lt_succ_self _,x18,w64 (x11+1),hn6 _ (Option.some.inj h6l).symm,⟨⟨aa,aa,aa,aa,trivial⟩,Pick.refl _⟩⟩
 replace h6l:=iteF hc14 h6l
 refine fx ?_
 obtain rfl:=ho6 _ (Option.some.inj h6l).symm
 exact⟨x10,h,⟨⟨aa,aa,trivial⟩,Pick.refl _⟩⟩
end Go.Proofs.YtackaijkmkollaaGreatDoor
