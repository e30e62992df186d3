/- The code comes to what these functions say (printed by wip/gen/gen.py). -/
import Derived.Test.YtackaijkmkollaaGreatDoorZP6
import Derived.Test.YtackaijkmkollaaGreatDoorZT
set_option linter.unusedSimpArgs false
set_option linter.unusedVariables false
set_option linter.unusedSectionVars false
set_option linter.unusedSectionVars false
set_option maxRecDepth 100000
set_option maxHeartbeats 4000000
namespace Go.Proofs.YtackaijkmkollaaGreatDoor
open Go Go.Cn
variable [Known]
theorem law12_short_ok (x1:List UInt8) (r:Bool) (h:law12_short x1=some r):FnP Tryz.prog 8 [ar x1] (Pr.bool r):=by
 refine de (n:=6) (rs:=[2]) Tryz.func8 rfl Tryz.ntmps8 ⟨by decide,Tryz.results8⟩ (by decide) (fun s0=> ?_)
 unfold law12_short at h
 refine W_rs ?_
 refine rq (out:=Pr.bool false) aj ?_
 refine W_rs ?_
 refine rq (out:=ar x1) ai ?_
 refine rq (out:=Pr.i64 (x1.length:Int)) (qLenS rfl Tryz.underlying9) ?_
 refine rq (out:=Pr.bool (decide ((x1.length:Int)<=2500))) qInt ?_
 refine rq (out:=Pr.bool (decide ((x1.length:Int)<=2500))) aj ?_
 obtain rfl:=Option.some.inj h
 exact bp ⟨rfl,aa⟩
theorem ref03_letter_ok (x1:Int) (r:Bool) (h:j5 x1=some r):FnP Tryz.prog 27 [Pr.u8 x1] (Pr.bool r):=by
 refine de (n:=21) (rs:=[2]) Tryz.func27 rfl Tryz.ntmps27 ⟨by decide,Tryz.results27⟩ (by decide) (fun s0=> ?_)
 unfold j5 at h
 refine W_rs ?_
 refine rq (out:=Pr.bool false) aj ?_
 refine cd (fun e C=>∃(x13:Bool),ez x13=some r/\At [(2,Pr.bool x13)] [] e C) ?_ ?_
 ·rintro e C ⟨x13,h,hat1⟩
  refine W_at hat1 ?_
  clear hat1
  unfold ez at h
  obtain rfl:=Option.some.inj h
  exact bp ⟨rfl,aa⟩
 refine W_r ?_
 refine rq (out:=Pr.u8 x1) ai ?_
 refine rq (out:=Pr.bool (decide (x1≥97))) qInt ?_
 refine rq (out:=Pr.bool (decide (x1≥97))) ai ?_
 rcases bk h with⟨hc2,h⟩|⟨hc2,h⟩
 ·refine rqg hc2 (out:=Pr.u8 x1) ai ?_
  refine rqg hc2 (out:=Pr.bool (decide (x1<=122))) qInt ?_
  refine rq (out:=Pr.bool (decide (x1<=122))) (bg hc2) ?_
  refine rq (out:=Pr.bool (decide (x1<=122))) ai ?_
  rcases bk h with⟨hc3,h⟩|⟨hc3,h⟩
  ·refine rno (neF hc3) ?_
   refine rno (neF hc3) ?_
   refine rno (neF hc3) ?_
   refine rnoU ?_
   refine rnoU ?_
   refine rno (neF hc3) ?_
   refine rq (out:=Pr.bool true) (bg hc3) ?_
   refine rq (out:=Pr.bool true) ai ?_
   have hc7:true=true:=rfl
   refine rno (neF hc7) ?_
   refine rno (neF hc7) ?_
   refine rq (out:=Pr.bool true) (bg hc7) ?_
   refine rq (out:=Pr.bool true) aj ?_
   exact⟨true,h,⟨⟨aa,trivial⟩,Pick.refl _⟩⟩
  refine rqg hc3 (out:=Pr.u8 x1) ai ?_
  refine rqg hc3 (out:=Pr.bool (decide (x1≥65))) qInt ?_
  refine rqg hc3 (out:=Pr.bool (decide (x1≥65))) ai ?_
  rcases bk h with⟨hc4,h⟩|⟨hc4,h⟩
  ·refine rqg hc4 (out:=Pr.u8 x1) ai ?_
   refine rqg hc4 (out:=Pr.bool (decide (x1<=90))) qInt ?_
   refine rqg hc3 (out:=Pr.bool (decide (x1<=90))) (bg hc4) ?_
   refine rq (out:=Pr.bool (decide (x1<=90))) (ax hc3) ?_
   refine rq (out:=Pr.bool (decide (x1<=90))) ai ?_
   rcases bk h with⟨hc5,h⟩|⟨hc5,h⟩
   ·refine rno (neF hc5) ?_
    refine rno (neF hc5) ?_
    refine rq (out:=Pr.bool true) (bg hc5) ?_
    refine rq (out:=Pr.bool true) aj ?_
    exact⟨true,h,⟨⟨aa,trivial⟩,Pick.refl _⟩⟩
   refine rqg hc5 (out:=Pr.u8 x1) ai ?_
   refine rqg hc5 (out:=Pr.bool (x1==95)) qInt ?_
   refine rq (out:=Pr.bool (x1==95)) (ax hc5) ?_
   refine rq (out:=Pr.bool (x1==95)) aj ?_
   exact⟨x1==95,h,⟨⟨aa,trivial⟩,Pick.refl _⟩⟩
  refine rno (neT hc4) ?_
  refine rno (neT hc4) ?_
  refine rqg hc3 (out:=Pr.bool false) (ax hc4) ?_
  refine rq (out:=Pr.bool false) (ax hc3) ?_
  refine rq (out:=Pr.bool false) ai ?_
  have hc6:false=false:=rfl
  refine rqg hc6 (out:=Pr.u8 x1) ai ?_
  refine rqg hc6 (out:=Pr.bool (x1==95)) qInt ?_
  refine rq (out:=Pr.bool (x1==95)) (ax hc6) ?_
  refine rq (out:=Pr.bool (x1==95)) aj ?_
  exact⟨x1==95,h,⟨⟨aa,trivial⟩,Pick.refl _⟩⟩
 refine rno (neT hc2) ?_
 refine rno (neT hc2) ?_
 refine rq (out:=Pr.bool false) (ax hc2) ?_
 refine rq (out:=Pr.bool false) ai ?_
 have hc8:false=false:=rfl
 refine rqg hc8 (out:=Pr.u8 x1) ai ?_
 refine rqg hc8 (out:=Pr.bool (decide (x1≥65))) qInt ?_
 refine rqg hc8 (out:=Pr.bool (decide (x1≥65))) ai ?_
 rcases bk h with⟨hc9,h⟩|⟨hc9,h⟩
 ·refine rqg hc9 (out:=Pr.u8 x1) ai ?_
  refine rqg hc9 (out:=Pr.bool (decide (x1<=90))) qInt ?_
  refine rqg hc8 (out:=Pr.bool (decide (x1<=90))) (bg hc9) ?_
  refine rq (out:=Pr.bool (decide (x1<=90))) (ax hc8) ?_
  refine rq (out:=Pr.bool (decide (x1<=90))) ai ?_
  rcases bk h with⟨hc10,h⟩|⟨hc10,h⟩
  ·refine rno (neF hc10) ?_
   refine rno (neF hc10) ?_
   refine rq (out:=Pr.bool true) (bg hc10) ?_
   refine rq (out:=Pr.bool true) aj ?_
   exact⟨true,h,⟨⟨aa,trivial⟩,Pick.refl _⟩⟩
  refine rqg hc10 (out:=Pr.u8 x1) ai ?_
  refine rqg hc10 (out:=Pr.bool (x1==95)) qInt ?_
  refine rq (out:=Pr.bool (x1==95)) (ax hc10) ?_
  refine rq (out:=Pr.bool (x1==95)) aj ?_
  exact⟨x1==95,h,⟨⟨aa,trivial⟩,Pick.refl _⟩⟩
 refine rno (neT hc9) ?_
 refine rno (neT hc9) ?_
 refine rqg hc8 (out:=Pr.bool false) (ax hc9) ?_
 refine rq (out:=Pr.bool false) (ax hc8) ?_
 refine rq (out:=Pr.bool false) ai ?_
 have hc11:false=false:=rfl
 refine rqg hc11 (out:=Pr.u8 x1) ai ?_
 refine rqg hc11 (out:=Pr.bool (x1==95)) qInt ?_
 refine rq (out:=Pr.bool (x1==95)) (ax hc11) ?_
 refine rq (out:=Pr.bool (x1==95)) aj ?_
 exact⟨x1==95,h,⟨⟨aa,trivial⟩,Pick.refl _⟩⟩
theorem ref03_digit_ok (x1:Int) (r:Bool) (h:ref03_digit x1=some r):FnP Tryz.prog 28 [Pr.u8 x1] (Pr.bool r):=by
 refine de (n:=9) (rs:=[2]) Tryz.func28 rfl Tryz.ntmps28 ⟨by decide,Tryz.results28⟩ (by decide) (fun s0=> ?_)
 unfold ref03_digit at h
 refine W_rs ?_
 refine rq (out:=Pr.bool false) aj ?_
 refine cd (fun e C=>∃(x3:Bool),ref03_digit_j1 x3=some r/\At [(2,Pr.bool x3)] [] e C) ?_ ?_
 ·rintro e C ⟨x3,h,hat1⟩
  refine W_at hat1 ?_
  clear hat1
  unfold ref03_digit_j1 at h
  obtain rfl:=Option.some.inj h
  exact bp ⟨rfl,aa⟩
 refine W_r ?_
 refine rq (out:=Pr.u8 x1) ai ?_
 refine rq (out:=Pr.bool (decide (x1≥48))) qInt ?_
 refine rq (out:=Pr.bool (decide (x1≥48))) ai ?_
 rcases bk h with⟨hc2,h⟩|⟨hc2,h⟩
 ·refine rqg hc2 (out:=Pr.u8 x1) ai ?_
  refine rqg hc2 (out:=Pr.bool (decide (x1<=57))) qInt ?_
  refine rq (out:=Pr.bool (decide (x1<=57))) (bg hc2) ?_
  refine rq (out:=Pr.bool (decide (x1<=57))) aj ?_
  exact⟨decide (x1<=57),h,⟨⟨aa,trivial⟩,Pick.refl _⟩⟩
 refine rno (neT hc2) ?_
 refine rno (neT hc2) ?_
 refine rq (out:=Pr.bool false) (ax hc2) ?_
 refine rq (out:=Pr.bool false) aj ?_
 exact⟨false,h,⟨⟨aa,trivial⟩,Pick.refl _⟩⟩
theorem ref03_Kept_ok (x1:List UInt8) (r:Bool) (h:ref03_Kept x1=some r):FnP Tryz.prog 29 [ar x1] (Pr.bool r):=by
 refine de (n:=18) (rs:=[2]) Tryz.func29 rfl Tryz.ntmps29 ⟨by decide,Tryz.results29⟩ (by decide) (fun s0=> ?_)
 unfold ref03_Kept at h
 refine W_rs ?_
 refine rq (out:=Pr.bool false) aj ?_
 refine W_rs ?_
 refine rq (out:=av bh ([([99,108,97,115,115]:List UInt8),([101,120,116,101,110,100,115]:List UInt8),([115,116,97,116,105,99]:List UInt8),([118,111,105,100]:List UInt8),([105,110,116]:List UInt8),([98,111,111,108,101,97,110]:List UInt8),([105,102]:List UInt8),([101,108,115,101]:List UInt8),([119,104,105,108,101]:List UInt8),([114,101,116,117,114,110]:List UInt8),([112,114,105,110,116]:List UInt8),([116,114,117,101]:List UInt8),([102,97,108,115,101]:List UInt8),([110,117,108,108]:List UInt8),([116,104,105,115]:List UInt8),([110,101,119]:List UInt8)]:List (List UInt8))) (qBuildSlice (R:=bh) (ls:=([([99,108,97,115,115]:List UInt8),([101,120,116,101,110,100,115]:List UInt8),([115,116,97,116,105,99]:List UInt8),([118,111,105,100]:List UInt8),([105,110,116]:List UInt8),([98,111,111,108,101,97,110]:List UInt8),([105,102]:List UInt8),([101,108,115,101]:List UInt8),([119,104,105,108,101]:List UInt8),([114,101,116,117,114,110]:List UInt8),([112,114,105,110,116]:List UInt8),([116,114,117,101]:List UInt8),([102,97,108,115,101]:List UInt8),([110,117,108,108]:List UInt8),([116,104,105,115]:List UInt8),([110,101,119]:List UInt8)]:List (List UInt8))) el44 (Nat.le_of_ble_eq_true rfl) ⟨rfl,rfl⟩ ⟨rfl,rfl,rfl,rfl,rfl,rfl,rfl,rfl,rfl,rfl,rfl,rfl,rfl,rfl,rfl,rfl,trivial⟩) ?_
 refine rq (out:=av bh ([([99,108,97,115,115]:List UInt8),([101,120,116,101,110,100,115]:List UInt8),([115,116,97,116,105,99]:List UInt8),([118,111,105,100]:List UInt8),([105,110,116]:List UInt8),([98,111,111,108,101,97,110]:List UInt8),([105,102]:List UInt8),([101,108,115,101]:List UInt8),([119,104,105,108,101]:List UInt8),([114,101,116,117,114,110]:List UInt8),([112,114,105,110,116]:List UInt8),([116,114,117,101]:List UInt8),([102,97,108,115,101]:List UInt8),([110,117,108,108]:List UInt8),([116,104,105,115]:List UInt8),([110,101,119]:List UInt8)]:List (List UInt8))) aj ?_
 refine c0 ?_
 refine W_rs ?_
 refine rq (out:=Pr.i64 0) aj ?_
 refine bu ?_
 obtain⟨z2l,hz2,h⟩:=ak h
 obtain⟨n2,hN2⟩:=dv hz2
 clear hz2
 refine kp 0 (fun e C=>ref03_Kept_k1=some r/\At [] [] e C) ?_ ?_
 ·rintro e C ⟨h,hat1⟩
  refine W_at hat1 ?_
  clear hat1
  unfold ref03_Kept_k1 at h
  refine W_rs ?_
  refine rq (out:=Pr.bool false) aj ?_
  obtain rfl:=Option.some.inj h
  exact bp ⟨rfl,aa⟩
 refine k8 (fun m e C=>∃(x2:Int),i1 (fun s=>kh x1 s) m x2=some z2l/\At [(0,ar x1),(3,av bh ([([99,108,97,115,115]:List UInt8),([101,120,116,101,110,100,115]:List UInt8),([115,116,97,116,105,99]:List UInt8),([118,111,105,100]:List UInt8),([105,110,116]:List UInt8),([98,111,111,108,101,97,110]:List UInt8),([105,102]:List UInt8),([101,108,115,101]:List UInt8),([119,104,105,108,101]:List UInt8),([114,101,116,117,114,110]:List UInt8),([112,114,105,110,116]:List UInt8),([116,114,117,101]:List UInt8),([102,97,108,115,101]:List UInt8),([110,117,108,108]:List UInt8),([116,104,105,115]:List UInt8),([110,101,119]:List UInt8)]:List (List UInt8))),(4,Pr.i64 x2)] [] e C) n2 ⟨0,hN2,⟨⟨aa,aa,aa,trivial⟩,Pick.refl _⟩⟩ ?_
 clear hN2
 rintro m e C ⟨x2,hN2,hatl2⟩
 refine W_at hatl2 ?_
 clear hatl2
 obtain⟨m2,w2l,rfl,h2l,hn2,ho2⟩:=dp hN2
 clear hN2
 replace h2l:kh x1 x2=some w2l:=h2l
 unfold kh at h2l
 refine c0 ?_
 refine W_rs ?_
 refine rq (out:=Pr.i64 x2) ai ?_
 refine rq (out:=av bh ([([99,108,97,115,115]:List UInt8),([101,120,116,101,110,100,115]:List UInt8),([115,116,97,116,105,99]:List UInt8),([118,111,105,100]:List UInt8),([105,110,116]:List UInt8),([98,111,111,108,101,97,110]:List UInt8),([105,102]:List UInt8),([101,108,115,101]:List UInt8),([119,104,105,108,101]:List UInt8),([114,101,116,117,114,110]:List UInt8),([112,114,105,110,116]:List UInt8),([116,114,117,101]:List UInt8),([102,97,108,115,101]:List UInt8),([110,117,108,108]:List UInt8),([116,104,105,115]:List UInt8),([110,101,119]:List UInt8)]:List (List UInt8))) ai ?_
 refine rq (out:=Pr.i64 (([([99,108,97,115,115]:List UInt8),([101,120,116,101,110,100,115]:List UInt8),([115,116,97,116,105,99]:List UInt8),([118,111,105,100]:List UInt8),([105,110,116]:List UInt8),([98,111,111,108,101,97,110]:List UInt8),([105,102]:List UInt8),([101,108,115,101]:List UInt8),([119,104,105,108,101]:List UInt8),([114,101,116,117,114,110]:List UInt8),([112,114,105,110,116]:List UInt8),([116,114,117,101]:List UInt8),([102,97,108,115,101]:List UInt8),([110,117,108,108]:List UInt8),([116,104,105,115]:List UInt8),([110,101,119]:List UInt8)]:List (List UInt8)).length:Int)) (qLenL rfl Tryz.underlying44) ?_
 refine rq (out:=Pr.bool (decide (x2<(([([99,108,97,115,115]:List UInt8),([101,120,116,101,110,100,115]:List UInt8),([115,116,97,116,105,99]:List UInt8),([118,111,105,100]:List UInt8),([105,110,116]:List UInt8),([98,111,111,108,101,97,110]:List UInt8),([105,102]:List UInt8),([101,108,115,101]:List UInt8),([119,104,105,108,101]:List UInt8),([114,101,116,117,114,110]:List UInt8),([112,114,105,110,116]:List UInt8),([116,114,117,101]:List UInt8),([102,97,108,115,101]:List UInt8),([110,117,108,108]:List UInt8),([116,104,105,115]:List UInt8),([110,101,119]:List UInt8)]:List (List UInt8)).length:Int)))) qInt ?_
 refine a8 (b:=decide (x2<(([([99,108,97,115,115]:List UInt8),([101,120,116,101,110,100,115]:List UInt8),([115,116,97,116,105,99]:List UInt8),([118,111,105,100]:List UInt8),([105,110,116]:List UInt8),([98,111,111,108,101,97,110]:List UInt8),([105,102]:List UInt8),([101,108,115,101]:List UInt8),([119,104,105,108,101]:List UInt8),([114,101,116,117,114,110]:List UInt8),([112,114,105,110,116]:List UInt8),([116,114,117,101]:List UInt8),([102,97,108,115,101]:List UInt8),([110,117,108,108]:List UInt8),([116,104,105,115]:List UInt8),([110,101,119]:List UInt8)]:List (List UInt8)).length:Int))) rfl (fun hc4=> ?_) (fun hc4=> ?_)
 ·replace h2l:=iteT hc4 h2l
  refine bj ?_
  refine c0 ?_
  refine bu ?_
  refine W_rs ?_
  refine rq (out:=av bh ([([99,108,97,115,115]:List UInt8),([101,120,116,101,110,100,115]:List UInt8),([115,116,97,116,105,99]:List UInt8),([118,111,105,100]:List UInt8),([105,110,116]:List UInt8),([98,111,111,108,101,97,110]:List UInt8),([105,102]:List UInt8),([101,108,115,101]:List UInt8),([119,104,105,108,101]:List UInt8),([114,101,116,117,114,110]:List UInt8),([112,114,105,110,116]:List UInt8),([116,114,117,101]:List UInt8),([102,97,108,115,101]:List UInt8),([110,117,108,108]:List UInt8),([116,104,105,115]:List UInt8),([110,101,119]:List UInt8)]:List (List UInt8))) ai ?_
  refine rq (out:=Pr.i64 x2) ai ?_
  obtain⟨x5,hx5,h2l⟩:=ak h2l
  refine rq (out:=br bh x5) (qIdxA (R:=bh) (l:=([([99,108,97,115,115]:List UInt8),([101,120,116,101,110,100,115]:List UInt8),([115,116,97,116,105,99]:List UInt8),([118,111,105,100]:List UInt8),([105,110,116]:List UInt8),([98,111,111,108,101,97,110]:List UInt8),([105,102]:List UInt8),([101,108,115,101]:List UInt8),([119,104,105,108,101]:List UInt8),([114,101,116,117,114,110]:List UInt8),([112,114,105,110,116]:List UInt8),([116,114,117,101]:List UInt8),([102,97,108,115,101]:List UInt8),([110,117,108,108]:List UInt8),([116,104,105,115]:List UInt8),([110,101,119]:List UInt8)]:List (List UInt8))) Tryz.underlying44 Tryz.sizeOf9 hx5) ?_
  refine rq (out:=ar x5) (gr (R:=bh) (a:=x5) ty9) ?_
  refine rq (out:=ar x1) ai ?_
  refine rq (out:=Pr.bool (x5==x1)) qStr ?_
  refine a8 (b:=x5==x1) rfl (fun hc6=> ?_) (fun hc6=> ?_)
  ·replace h2l:=iteT hc6 h2l
   refine W_rs ?_
   refine rq (out:=Pr.bool true) aj ?_
   obtain rfl:=ho2 _ (Option.some.inj h2l).symm
   replace h:some true=some r:=h
   obtain rfl:=Option.some.inj h
   exact bp ⟨rfl,aa⟩
  replace h2l:=iteF hc6 h2l
  refine bj ?_
  refine W_r ?_
  refine rq (out:=Pr.i64 x2) ai ?_
  refine rq (out:=Pr.i64 (w64 (x2+1))) qInt ?_
  refine rq (out:=Pr.i64 (w64 (x2+1))) aj ?_
  exact⟨m2,Nat.lt_succ_self _,w64 (x2+1),hn2 _ (Option.some.inj h2l).symm,⟨⟨aa,aa,aa,trivial⟩,Pick.refl _⟩⟩
 replace h2l:=iteF hc4 h2l
 refine jn ?_
 obtain rfl:=ho2 _ (Option.some.inj h2l).symm
 exact⟨h,⟨trivial,Pick.refl _⟩⟩
theorem ref03_Name_ok (x1:List UInt8) (r:Bool) (h:ref03_Name x1=some r):FnP Tryz.prog 13 [ar x1] (Pr.bool r):=by
 refine de (n:=41) (rs:=[2]) Tryz.func13 rfl Tryz.ntmps13 ⟨by decide,Tryz.results13⟩ (by decide) (fun s0=> ?_)
 unfold ref03_Name at h
 refine W_rs ?_
 refine rq (out:=Pr.bool false) aj ?_
 refine c0 ?_
 refine cd (fun e C=>∃(x9:Bool),kg x1 x9=some r/\At [(0,ar x1),(18,Pr.bool x9)] [] e C) ?_ ?_
 ·rintro e C ⟨x9,h,hat4⟩
  refine W_at hat4 ?_
  clear hat4
  unfold kg at h
  refine a8 (b:=x9) rfl (fun hc10=> ?_) (fun hc10=> ?_)
  ·replace h:=iteT hc10 h
   refine W_rs ?_
   refine rq (out:=Pr.bool false) aj ?_
   obtain rfl:=Option.some.inj h
   exact bp ⟨rfl,aa⟩
  replace h:=iteF hc10 h
  refine bj ?_
  refine c0 ?_
  refine W_rs ?_
  refine rq (out:=Pr.i64 0) aj ?_
  refine bu ?_
  obtain⟨z2l,hz2,h⟩:=ak h
  obtain⟨n2,hN2⟩:=dv hz2
  clear hz2
  refine kp 0 (fun e C=>ref03_Name_k1 x1=some r/\At [(0,ar x1)] [] e C) ?_ ?_
  ·rintro e C ⟨h,hat1⟩
   refine W_at hat1 ?_
   clear hat1
   unfold ref03_Name_k1 at h
   refine W_rs ?_
   refine rq (out:=ar x1) ai ?_
   obtain⟨x21,hx21,h⟩:=ak h
   refine rq (out:=Pr.bool x21) (dt (ref03_Kept_ok x1 _ hx21)) ?_
   refine rq (out:=Pr.bool x21) aj ?_
   refine W_rs ?_
   refine rq (out:=Pr.bool x21) ai ?_
   refine rq (out:=Pr.bool (!x21)) qNot ?_
   refine rq (out:=Pr.bool (!x21)) aj ?_
   obtain rfl:=Option.some.inj h
   exact bp ⟨rfl,aa⟩
  refine k8 (fun m e C=>∃(x11:Int),i1 (fun s=>jj x1 s) m x11=some z2l/\At [(0,ar x1),(3,Pr.i64 x11)] [] e C) n2 ⟨0,hN2,⟨⟨aa,aa,trivial⟩,Pick.refl _⟩⟩ ?_
  clear hN2
  rintro m e C ⟨x11,hN2,hatl2⟩
  refine W_at hatl2 ?_
  clear hatl2
  obtain⟨m2,w2l,rfl,h2l,hn2,ho2⟩:=dp hN2
  clear hN2
  replace h2l:jj x1 x11=some w2l:=h2l
  unfold jj at h2l
  refine c0 ?_
  refine W_rs ?_
  refine rq (out:=Pr.i64 x11) ai ?_
  refine rq (out:=ar x1) ai ?_
  refine rq (out:=Pr.i64 (x1.length:Int)) (qLenS rfl Tryz.underlying9) ?_
  refine rq (out:=Pr.bool (decide (x11<(x1.length:Int)))) qInt ?_
  refine a8 (b:=decide (x11<(x1.length:Int))) rfl (fun hc13=> ?_) (fun hc13=> ?_)
  ·replace h2l:=iteT hc13 h2l
   refine bj ?_
   refine c0 ?_
   refine bu ?_
   refine cd (fun e C=>∃(x19:Bool),ref03_Name_j3 x11 x19=some w2l/\At [(0,ar x1),(3,Pr.i64 x11),(36,Pr.bool x19)] [] e C) ?_ ?_
   ·rintro e C ⟨x19,h2l,hat3⟩
    refine W_at hat3 ?_
    clear hat3
    unfold ref03_Name_j3 at h2l
    refine a8 (b:=x19) rfl (fun hc20=> ?_) (fun hc20=> ?_)
    ·replace h2l:=iteT hc20 h2l
     refine W_rs ?_
     refine rq (out:=Pr.bool false) aj ?_
     obtain rfl:=ho2 _ (Option.some.inj h2l).symm
     replace h:some false=some r:=h
     obtain rfl:=Option.some.inj h
     exact bp ⟨rfl,aa⟩
    replace h2l:=iteF hc20 h2l
    refine bj ?_
    refine W_r ?_
    refine rq (out:=Pr.i64 x11) ai ?_
    refine rq (out:=Pr.i64 (w64 (x11+1))) qInt ?_
    refine rq (out:=Pr.i64 (w64 (x11+1))) aj ?_
    exact⟨m2,Nat.lt_succ_self _,w64 (x11+1),hn2 _ (Option.some.inj h2l).symm,⟨⟨aa,aa,trivial⟩,Pick.refl _⟩⟩
   refine W_r ?_
   refine rq (out:=ar x1) ai ?_
   refine rq (out:=Pr.i64 x11) ai ?_
   obtain⟨x14,hx14,h2l⟩:=ak h2l
   refine rq (out:=Pr.u8 x14) (qIdxS Tryz.underlying9 hx14) ?_
   obtain⟨x15,hx15,h2l⟩:=ak h2l
   refine rq (out:=Pr.bool x15) (dt (ref03_letter_ok x14 _ hx15)) ?_
   refine rq (out:=Pr.bool (!x15)) qNot ?_
   refine rq (out:=Pr.bool (!x15)) ai ?_
   rcases bk h2l with⟨hc16,h2l⟩|⟨hc16,h2l⟩
   ·refine rqg hc16 (out:=ar x1) ai ?_
    refine rqg hc16 (out:=Pr.i64 x11) ai ?_
    obtain⟨x17,hx17,h2l⟩:=ak h2l
    refine rqg hc16 (out:=Pr.u8 x17) (qIdxS Tryz.underlying9 hx17) ?_
    obtain⟨x18,hx18,h2l⟩:=ak h2l
    refine rqg hc16 (out:=Pr.bool x18) (dt (ref03_digit_ok x17 _ hx18)) ?_
    refine rqg hc16 (out:=Pr.bool (!x18)) qNot ?_
    refine rq (out:=Pr.bool (!x18)) (bg hc16) ?_
    exact⟨!x18,h2l,⟨⟨aa,aa,aa,trivial⟩,Pick.refl _⟩⟩
   refine rno (neT hc16) ?_
   refine rno (neT hc16) ?_
   refine rno (neT hc16) ?_
   refine rno (neT hc16) ?_
   refine rno (neT hc16) ?_
   refine rq (out:=Pr.bool false) (ax hc16) ?_
   exact⟨false,h2l,⟨⟨aa,aa,aa,trivial⟩,Pick.refl _⟩⟩
  replace h2l:=iteF hc13 h2l
  refine jn ?_
  obtain rfl:=ho2 _ (Option.some.inj h2l).symm
  exact⟨h,⟨⟨aa,trivial⟩,Pick.refl _⟩⟩
 refine W_r ?_
 refine rq (out:=ar x1) ai ?_
 refine rq (out:=Pr.i64 (x1.length:Int)) (qLenS rfl Tryz.underlying9) ?_
 refine rq (out:=Pr.bool (decide ((x1.length:Int)<1))) qInt ?_
 refine rq (out:=Pr.bool (decide ((x1.length:Int)<1))) ai ?_
 rcases bk h with⟨hc2,h⟩|⟨hc2,h⟩
 ·refine rno (neF hc2) ?_
  refine rno (neF hc2) ?_
  refine rno (neF hc2) ?_
  refine rq (out:=Pr.bool true) (bg hc2) ?_
  refine rq (out:=Pr.bool true) ai ?_
  have hc6:true=true:=rfl
  refine rno (neF hc6) ?_
  refine rno (neF hc6) ?_
  refine rno (neF hc6) ?_
  refine rno (neF hc6) ?_
  refine rq (out:=Pr.bool true) (bg hc6) ?_
  exact⟨true,h,⟨⟨aa,aa,trivial⟩,Pick.refl _⟩⟩
 refine rqg hc2 (out:=ar x1) ai ?_
 refine rqg hc2 (out:=Pr.i64 (x1.length:Int)) (qLenS rfl Tryz.underlying9) ?_
 refine rqg hc2 (out:=Pr.bool (decide ((x1.length:Int)>20))) qInt ?_
 refine rq (out:=Pr.bool (decide ((x1.length:Int)>20))) (ax hc2) ?_
 refine rq (out:=Pr.bool (decide ((x1.length:Int)>20))) ai ?_
 rcases bk h with⟨hc3,h⟩|⟨hc3,h⟩
 ·refine rno (neF hc3) ?_
  refine rno (neF hc3) ?_
  refine rno (neF hc3) ?_
  refine rno (neF hc3) ?_
  refine rq (out:=Pr.bool true) (bg hc3) ?_
  exact⟨true,h,⟨⟨aa,aa,trivial⟩,Pick.refl _⟩⟩
 refine rqg hc3 (out:=ar x1) ai ?_
 obtain⟨x4,hx4,h⟩:=ak h
 refine rqg hc3 (out:=Pr.u8 x4) (qIdxS Tryz.underlying9 hx4) ?_
 obtain⟨x5,hx5,h⟩:=ak h
 refine rqg hc3 (out:=Pr.bool x5) (dt (ref03_letter_ok x4 _ hx5)) ?_
 refine rqg hc3 (out:=Pr.bool (!x5)) qNot ?_
 refine rq (out:=Pr.bool (!x5)) (ax hc3) ?_
 exact⟨!x5,h,⟨⟨aa,aa,trivial⟩,Pick.refl _⟩⟩
def rec_ref11_Exact_spec (R:db):Prop:=(∀(x1:ApiNode) (x2:ApiNode) (r:Bool),R x1 x2=some r->FnP Tryz.prog 14 [(rApiNode).val x1,(rApiNode).val x2] (Pr.bool r))
theorem F_ref11_Exact_step (R:db) (ih:rec_ref11_Exact_spec R) (x1 x2:ApiNode) (r:Bool) (h:F_ref11_Exact R x1 x2=some r):FnP Tryz.prog 14 [(rApiNode).val x1,(rApiNode).val x2] (Pr.bool r):=by
 refine de (n:=90) (rs:=[4]) Tryz.func14 rfl Tryz.ntmps14 ⟨by decide,Tryz.results14⟩ (by decide) (fun s0=> ?_)
 unfold F_ref11_Exact at h
 refine W_rs ?_
 refine rBox (R:=rApiNode) (a:=x1) rfl (fun b3=> ?_)
 refine rBox (R:=rApiNode) (a:=x2) rfl (fun b4=> ?_)
 refine rq (out:=Pr.bool false) aj ?_
 refine c0 ?_
 refine cd (fun e C=>∃(x260:Bool),dy R x1 x2 x260=some r/\At [(2,al b3 0),(3,al b4 0),(69,Pr.bool x260)] [Own.box b3 rApiNode x1,Own.box b4 rApiNode x2] e C) ?_ ?_
 ·rintro e C ⟨x260,h,hat4⟩
  refine W_at hat4 ?_
  clear hat4
  unfold dy at h
  refine a8 (b:=x260) rfl (fun hc261=> ?_) (fun hc261=> ?_)
  ·replace h:=iteT hc261 h
   refine W_rs ?_
   refine rq (out:=Pr.bool false) aj ?_
   obtain rfl:=Option.some.inj h
   exact bp ⟨rfl,aa⟩
  replace h:=iteF hc261 h
  refine bj ?_
  refine c0 ?_
  refine W_rs ?_
  refine rq (out:=Pr.i64 0) aj ?_
  refine bu ?_
  obtain⟨z2l,hz2,h⟩:=ak h
  obtain⟨n2,hN2⟩:=dv hz2
  clear hz2
  refine kp 0 (fun e C=>ref11_Exact_k1 R=some r/\At [] [Own.box b3 rApiNode x1,Own.box b4 rApiNode x2] e C) ?_ ?_
  ·rintro e C ⟨h,hat1⟩
   refine W_at hat1 ?_
   clear hat1
   unfold ref11_Exact_k1 at h
   refine W_rs ?_
   refine rq (out:=Pr.bool true) aj ?_
   obtain rfl:=Option.some.inj h
   exact bp ⟨rfl,aa⟩
  refine k8 (fun m e C=>∃(x262:Int),i1 (fun s=>jr R x1 x2 s) m x262=some z2l/\At [(2,al b3 0),(3,al b4 0),(5,Pr.i64 x262)] [Own.box b3 rApiNode x1,Own.box b4 rApiNode x2] e C) n2 ⟨0,hN2,⟨⟨aa,aa,aa,trivial⟩,Pick.refl _⟩⟩ ?_
  clear hN2
  rintro m e C ⟨x262,hN2,hatl2⟩
  refine W_at hatl2 ?_
  clear hatl2
  obtain⟨m2,w2l,rfl,h2l,hn2,ho2⟩:=dp hN2
  clear hN2
  replace h2l:jr R x1 x2 x262=some w2l:=h2l
  unfold jr at h2l
  refine c0 ?_
  refine W_rs ?_
  refine rq (out:=Pr.i64 x262) ai ?_
  refine rq (out:=al b3 8) (a3 ko) ?_
  refine rq (out:=av rApiNode x1.Kids) (a7 (R:=rApiNode) (a:=x1) (R':=ba rApiNode) 0 ty24 cm) ?_
  refine rq (out:=Pr.i64 (x1.Kids.length:Int)) (qLenL rfl Tryz.underlying24) ?_
  refine rq (out:=Pr.bool (decide (x262<(x1.Kids.length:Int)))) qInt ?_
  refine a8 (b:=decide (x262<(x1.Kids.length:Int))) rfl (fun hc264=> ?_) (fun hc264=> ?_)
  ·replace h2l:=iteT hc264 h2l
   refine bj ?_
   refine c0 ?_
   refine bu ?_
   refine cd (fun e C=>∃(x267:Bool),ref11_Exact_j3 R x262 x267=some w2l/\At [(2,al b3 0),(3,al b4 0),(5,Pr.i64 x262),(6,Pr.bool x267)] [Own.box b3 rApiNode x1,Own.box b4 rApiNode x2] e C) ?_ ?_
   ·rintro e C ⟨x267,h2l,hat3⟩
    refine W_at hat3 ?_
    clear hat3
    unfold ref11_Exact_j3 at h2l
    refine W_rs ?_
    refine rq (out:=Pr.bool x267) ai ?_
    refine rq (out:=Pr.bool (!x267)) qNot ?_
    refine a8 (b:= !x267) rfl (fun hc268=> ?_) (fun hc268=> ?_)
    ·replace h2l:=iteT hc268 h2l
     refine W_rs ?_
     refine rq (out:=Pr.bool false) aj ?_
     obtain rfl:=ho2 _ (Option.some.inj h2l).symm
     replace h:some false=some r:=h
     obtain rfl:=Option.some.inj h
     exact bp ⟨rfl,aa⟩
    replace h2l:=iteF hc268 h2l
    refine bj ?_
    refine W_r ?_
    refine rq (out:=Pr.i64 x262) ai ?_
    refine rq (out:=Pr.i64 (w64 (x262+1))) qInt ?_
    refine rq (out:=Pr.i64 (w64 (x262+1))) aj ?_
    exact⟨m2,Nat.lt_succ_self _,w64 (x262+1),hn2 _ (Option.some.inj h2l).symm,⟨⟨aa,aa,aa,trivial⟩,Pick.refl _⟩⟩
   refine W_draw 12 hmx (by kernel_rfl) (by kernel_rfl) ?_
   refine qq (out:=al b3 8) (a3 ko) ?_
   refine qq (out:=av rApiNode x1.Kids) (a7 (R:=rApiNode) (a:=x1) (R':=ba rApiNode) 0 ty24 cm) ?_
   refine qq (out:=Pr.i64 x262) ai ?_
   obtain⟨x265,hx265,h2l⟩:=ak h2l
   refine qq (out:=br rApiNode x265) (qIdxA (R:=rApiNode) (l:=x1.Kids) Tryz.underlying24 Tryz.sizeOf32 hx265) ?_
   refine qq (out:=(rApiNode).val x265) (gr (R:=rApiNode) (a:=x265) ty32) ?_
   refine qq (out:=al b4 8) (a3 ko) ?_
   refine qq (out:=av rApiNode x2.Kids) (a7 (R:=rApiNode) (a:=x2) (R':=ba rApiNode) 1 ty24 cm) ?_
   refine qq (out:=Pr.i64 x262) ai ?_
   obtain⟨x266,hx266,h2l⟩:=ak h2l
   refine qq (out:=br rApiNode x266) (qIdxA (R:=rApiNode) (l:=x2.Kids) Tryz.underlying24 Tryz.sizeOf32 hx266) ?_
   refine qq (out:=(rApiNode).val x266) (gr (R:=rApiNode) (a:=x266) ty32) ?_
   obtain⟨x267,hx267,h2l⟩:=ak h2l
   refine qq (out:=Pr.bool x267) (dt (ih x265 x266 _ hx267)) ?_
   refine qq (out:=Pr.bool x267) aj ?_
   exact⟨x267,h2l,⟨⟨aa,aa,aa,aa,trivial⟩,Pick.refl _⟩⟩
  replace h2l:=iteF hc264 h2l
  refine jn ?_
  obtain rfl:=ho2 _ (Option.some.inj h2l).symm
  exact⟨h,⟨trivial,Pick.refl _⟩⟩
 refine W_r ?_
 refine rq (out:=al b3 4) (a3 fld32_4) ?_
 refine rq (out:=Pr.i64 x1.From) (a7 (R:=rApiNode) (a:=x1) (R':=Rp.int .i64) 0 ty3 subApiNode_From) ?_
 refine rq (out:=al b4 4) (a3 fld32_4) ?_
 refine rq (out:=Pr.i64 x2.From) (a7 (R:=rApiNode) (a:=x2) (R':=Rp.int .i64) 1 ty3 subApiNode_From) ?_
 refine rq (out:=Pr.bool (x1.From != x2.From)) qInt ?_
 refine rq (out:=Pr.bool (x1.From != x2.From)) ai ?_
 rcases bk h with⟨hc5,h⟩|⟨hc5,h⟩
 ·refine rno (neF hc5) ?_
  refine rno (neF hc5) ?_
  refine rno (neF hc5) ?_
  refine rno (neF hc5) ?_
  refine rno (neF hc5) ?_
  refine rq (out:=Pr.bool true) (bg hc5) ?_
  refine rq (out:=Pr.bool true) ai ?_
  have hc133:true=true:=rfl
  refine rno (neF hc133) ?_
  refine rno (neF hc133) ?_
  refine rno (neF hc133) ?_
  refine rno (neF hc133) ?_
  refine rno (neF hc133) ?_
  refine rq (out:=Pr.bool true) (bg hc133) ?_
  refine rq (out:=Pr.bool true) ai ?_
  have hc197:true=true:=rfl
  refine rno (neF hc197) ?_
  refine rno (neF hc197) ?_
  refine rno (neF hc197) ?_
  refine rno (neF hc197) ?_
  refine rno (neF hc197) ?_
  refine rq (out:=Pr.bool true) (bg hc197) ?_
  refine rq (out:=Pr.bool true) ai ?_
  have hc229:true=true:=rfl
  refine rno (neF hc229) ?_
  refine rno (neF hc229) ?_
  refine rno (neF hc229) ?_
  refine rno (neF hc229) ?_
  refine rno (neF hc229) ?_
  refine rq (out:=Pr.bool true) (bg hc229) ?_
  refine rq (out:=Pr.bool true) ai ?_
  have hc245:true=true:=rfl
  refine rno (neF hc245) ?_
  refine rno (neF hc245) ?_
  refine rno (neF hc245) ?_
  refine rno (neF hc245) ?_
  refine rno (neF hc245) ?_
  refine rq (out:=Pr.bool true) (bg hc245) ?_
  refine rq (out:=Pr.bool true) ai ?_
  have hc253:true=true:=rfl
  refine rno (neF hc253) ?_
  refine rno (neF hc253) ?_
  refine rno (neF hc253) ?_
  refine rno (neF hc253) ?_
  refine rno (neF hc253) ?_
  refine rq (out:=Pr.bool true) (bg hc253) ?_
  refine rq (out:=Pr.bool true) ai ?_
  have hc257:true=true:=rfl
  refine rno (neF hc257) ?_
  refine rno (neF hc257) ?_
  refine rno (neF hc257) ?_
  refine rno (neF hc257) ?_
  refine rno (neF hc257) ?_
  refine rq (out:=Pr.bool true) (bg hc257) ?_
  refine rq (out:=Pr.bool true) ai ?_
  have hc259:true=true:=rfl
  refine rno (neF hc259) ?_
  refine rno (neF hc259) ?_
  refine rno (neF hc259) ?_
  refine rno (neF hc259) ?_
  refine rno (neF hc259) ?_
  refine rno (neF hc259) ?_
  refine rno (neF hc259) ?_
  refine rq (out:=Pr.bool true) (bg hc259) ?_
  exact⟨true,h,⟨⟨aa,aa,aa,trivial⟩,Pick.refl _⟩⟩
 refine rqg hc5 (out:=al b3 5) (a3 fld32_5) ?_
 refine rqg hc5 (out:=Pr.i64 x1.To) (a7 (R:=rApiNode) (a:=x1) (R':=Rp.int .i64) 0 ty3 subApiNode_To) ?_
 refine rqg hc5 (out:=al b4 5) (a3 fld32_5) ?_
 refine rqg hc5 (out:=Pr.i64 x2.To) (a7 (R:=rApiNode) (a:=x2) (R':=Rp.int .i64) 1 ty3 subApiNode_To) ?_
 refine rqg hc5 (out:=Pr.bool (x1.To != x2.To)) qInt ?_
 refine rq (out:=Pr.bool (x1.To != x2.To)) (ax hc5) ?_
 refine rq (out:=Pr.bool (x1.To != x2.To)) ai ?_
 rcases bk h with⟨hc6,h⟩|⟨hc6,h⟩
 ·refine rno (neF hc6) ?_
  refine rno (neF hc6) ?_
  refine rno (neF hc6) ?_
  refine rno (neF hc6) ?_
  refine rno (neF hc6) ?_
  refine rq (out:=Pr.bool true) (bg hc6) ?_
  refine rq (out:=Pr.bool true) ai ?_
  have hc70:true=true:=rfl
  refine rno (neF hc70) ?_
  refine rno (neF hc70) ?_
  refine rno (neF hc70) ?_
  refine rno (neF hc70) ?_
  refine rno (neF hc70) ?_
  refine rq (out:=Pr.bool true) (bg hc70) ?_
  refine rq (out:=Pr.bool true) ai ?_
  have hc102:true=true:=rfl
  refine rno (neF hc102) ?_
  refine rno (neF hc102) ?_
  refine rno (neF hc102) ?_
  refine rno (neF hc102) ?_
  refine rno (neF hc102) ?_
  refine rq (out:=Pr.bool true) (bg hc102) ?_
  refine rq (out:=Pr.bool true) ai ?_
  have hc118:true=true:=rfl
  refine rno (neF hc118) ?_
  refine rno (neF hc118) ?_
  refine rno (neF hc118) ?_
  refine rno (neF hc118) ?_
  refine rno (neF hc118) ?_
  refine rq (out:=Pr.bool true) (bg hc118) ?_
  refine rq (out:=Pr.bool true) ai ?_
  have hc126:true=true:=rfl
  refine rno (neF hc126) ?_
  refine rno (neF hc126) ?_
  refine rno (neF hc126) ?_
  refine rno (neF hc126) ?_
  refine rno (neF hc126) ?_
  refine rq (out:=Pr.bool true) (bg hc126) ?_
  refine rq (out:=Pr.bool true) ai ?_
  have hc130:true=true:=rfl
  refine rno (neF hc130) ?_
  refine rno (neF hc130) ?_
  refine rno (neF hc130) ?_
  refine rno (neF hc130) ?_
  refine rno (neF hc130) ?_
  refine rq (out:=Pr.bool true) (bg hc130) ?_
  refine rq (out:=Pr.bool true) ai ?_
  have hc132:true=true:=rfl
  refine rno (neF hc132) ?_
  refine rno (neF hc132) ?_
  refine rno (neF hc132) ?_
  refine rno (neF hc132) ?_
  refine rno (neF hc132) ?_
  refine rno (neF hc132) ?_
  refine rno (neF hc132) ?_
  refine rq (out:=Pr.bool true) (bg hc132) ?_
  exact⟨true,h,⟨⟨aa,aa,aa,trivial⟩,Pick.refl _⟩⟩
 refine rqg hc6 (out:=al b3 6) (a3 fld32_6) ?_
 refine rqg hc6 (out:=Pr.i64 x1.At) (a7 (R:=rApiNode) (a:=x1) (R':=Rp.int .i64) 0 ty3 subApiNode_At) ?_
 refine rqg hc6 (out:=al b4 6) (a3 fld32_6) ?_
 refine rqg hc6 (out:=Pr.i64 x2.At) (a7 (R:=rApiNode) (a:=x2) (R':=Rp.int .i64) 1 ty3 subApiNode_At) ?_
 refine rqg hc6 (out:=Pr.bool (x1.At != x2.At)) qInt ?_
 refine rq (out:=Pr.bool (x1.At != x2.At)) (ax hc6) ?_
 refine rq (out:=Pr.bool (x1.At != x2.At)) ai ?_
 rcases bk h with⟨hc7,h⟩|⟨hc7,h⟩
 ·refine rno (neF hc7) ?_
  refine rno (neF hc7) ?_
  refine rno (neF hc7) ?_
  refine rno (neF hc7) ?_
  refine rno (neF hc7) ?_
  refine rq (out:=Pr.bool true) (bg hc7) ?_
  refine rq (out:=Pr.bool true) ai ?_
  have hc39:true=true:=rfl
  refine rno (neF hc39) ?_
  refine rno (neF hc39) ?_
  refine rno (neF hc39) ?_
  refine rno (neF hc39) ?_
  refine rno (neF hc39) ?_
  refine rq (out:=Pr.bool true) (bg hc39) ?_
  refine rq (out:=Pr.bool true) ai ?_
  have hc55:true=true:=rfl
  refine rno (neF hc55) ?_
  refine rno (neF hc55) ?_
  refine rno (neF hc55) ?_
  refine rno (neF hc55) ?_
  refine rno (neF hc55) ?_
  refine rq (out:=Pr.bool true) (bg hc55) ?_
  refine rq (out:=Pr.bool true) ai ?_
  have hc63:true=true:=rfl
  refine rno (neF hc63) ?_
  refine rno (neF hc63) ?_
  refine rno (neF hc63) ?_
  refine rno (neF hc63) ?_
  refine rno (neF hc63) ?_
  refine rq (out:=Pr.bool true) (bg hc63) ?_
  refine rq (out:=Pr.bool true) ai ?_
  have hc67:true=true:=rfl
  refine rno (neF hc67) ?_
  refine rno (neF hc67) ?_
  refine rno (neF hc67) ?_
  refine rno (neF hc67) ?_
  refine rno (neF hc67) ?_
  refine rq (out:=Pr.bool true) (bg hc67) ?_
  refine rq (out:=Pr.bool true) ai ?_
  have hc69:true=true:=rfl
  refine rno (neF hc69) ?_
  refine rno (neF hc69) ?_
  refine rno (neF hc69) ?_
  refine rno (neF hc69) ?_
  refine rno (neF hc69) ?_
  refine rno (neF hc69) ?_
  refine rno (neF hc69) ?_
  refine rq (out:=Pr.bool true) (bg hc69) ?_
  exact⟨true,h,⟨⟨aa,aa,aa,trivial⟩,Pick.refl _⟩⟩
 refine rqg hc7 (out:=al b3 7) (a3 fld32_7) ?_
 refine rqg hc7 (out:=Pr.i64 x1.TypeAt) (a7 (R:=rApiNode) (a:=x1) (R':=Rp.int .i64) 0 ty3 km) ?_
 refine rqg hc7 (out:=al b4 7) (a3 fld32_7) ?_
 refine rqg hc7 (out:=Pr.i64 x2.TypeAt) (a7 (R:=rApiNode) (a:=x2) (R':=Rp.int .i64) 1 ty3 km) ?_
 refine rqg hc7 (out:=Pr.bool (x1.TypeAt != x2.TypeAt)) qInt ?_
 refine rq (out:=Pr.bool (x1.TypeAt != x2.TypeAt)) (ax hc7) ?_
 refine rq (out:=Pr.bool (x1.TypeAt != x2.TypeAt)) ai ?_
 rcases bk h with⟨hc8,h⟩|⟨hc8,h⟩
 ·refine rno (neF hc8) ?_
  refine rno (neF hc8) ?_
  refine rno (neF hc8) ?_
  refine rno (neF hc8) ?_
  refine rno (neF hc8) ?_
  refine rq (out:=Pr.bool true) (bg hc8) ?_
  refine rq (out:=Pr.bool true) ai ?_
  have hc24:true=true:=rfl
  refine rno (neF hc24) ?_
  refine rno (neF hc24) ?_
  refine rno (neF hc24) ?_
  refine rno (neF hc24) ?_
  refine rno (neF hc24) ?_
  refine rq (out:=Pr.bool true) (bg hc24) ?_
  refine rq (out:=Pr.bool true) ai ?_
  have hc32:true=true:=rfl
  refine rno (neF hc32) ?_
  refine rno (neF hc32) ?_
  refine rno (neF hc32) ?_
  refine rno (neF hc32) ?_
  refine rno (neF hc32) ?_
  refine rq (out:=Pr.bool true) (bg hc32) ?_
  refine rq (out:=Pr.bool true) ai ?_
  have hc36:true=true:=rfl
  refine rno (neF hc36) ?_
  refine rno (neF hc36) ?_
  refine rno (neF hc36) ?_
  refine rno (neF hc36) ?_
  refine rno (neF hc36) ?_
  refine rq (out:=Pr.bool true) (bg hc36) ?_
  refine rq (out:=Pr.bool true) ai ?_
  have hc38:true=true:=rfl
  refine rno (neF hc38) ?_
  refine rno (neF hc38) ?_
  refine rno (neF hc38) ?_
  refine rno (neF hc38) ?_
  refine rno (neF hc38) ?_
  refine rno (neF hc38) ?_
  refine rno (neF hc38) ?_
  refine rq (out:=Pr.bool true) (bg hc38) ?_
  exact⟨true,h,⟨⟨aa,aa,aa,trivial⟩,Pick.refl _⟩⟩
 refine rqg hc8 (out:=al b3 0) (a3 fld32_0) ?_
 refine rqg hc8 (out:=Pr.i64 x1.Kind) (a7 (R:=rApiNode) (a:=x1) (R':=Rp.int .i64) 0 ty3 gv) ?_
 refine rqg hc8 (out:=al b4 0) (a3 fld32_0) ?_
 refine rqg hc8 (out:=Pr.i64 x2.Kind) (a7 (R:=rApiNode) (a:=x2) (R':=Rp.int .i64) 1 ty3 gv) ?_
 refine rqg hc8 (out:=Pr.bool (x1.Kind != x2.Kind)) qInt ?_
 refine rq (out:=Pr.bool (x1.Kind != x2.Kind)) (ax hc8) ?_
 refine rq (out:=Pr.bool (x1.Kind != x2.Kind)) ai ?_
 rcases bk h with⟨hc9,h⟩|⟨hc9,h⟩
 ·refine rno (neF hc9) ?_
  refine rno (neF hc9) ?_
  refine rno (neF hc9) ?_
  refine rno (neF hc9) ?_
  refine rno (neF hc9) ?_
  refine rq (out:=Pr.bool true) (bg hc9) ?_
  refine rq (out:=Pr.bool true) ai ?_
  have hc17:true=true:=rfl
  refine rno (neF hc17) ?_
  refine rno (neF hc17) ?_
  refine rno (neF hc17) ?_
  refine rno (neF hc17) ?_
  refine rno (neF hc17) ?_
  refine rq (out:=Pr.bool true) (bg hc17) ?_
  refine rq (out:=Pr.bool true) ai ?_
  have hc21:true=true:=rfl
  refine rno (neF hc21) ?_
  refine rno (neF hc21) ?_
  refine rno (neF hc21) ?_
  refine rno (neF hc21) ?_
  refine rno (neF hc21) ?_
  refine rq (out:=Pr.bool true) (bg hc21) ?_
  refine rq (out:=Pr.bool true) ai ?_
  have hc23:true=true:=rfl
  refine rno (neF hc23) ?_
  refine rno (neF hc23) ?_
  refine rno (neF hc23) ?_
  refine rno (neF hc23) ?_
  refine rno (neF hc23) ?_
  refine rno (neF hc23) ?_
  refine rno (neF hc23) ?_
  refine rq (out:=Pr.bool true) (bg hc23) ?_
  exact⟨true,h,⟨⟨aa,aa,aa,trivial⟩,Pick.refl _⟩⟩
 refine rqg hc9 (out:=al b3 1) (a3 fld32_1) ?_
 refine rqg hc9 (out:=ar x1.Text) (a7 (R:=rApiNode) (a:=x1) (R':=bh) 0 ty9 subApiNode_Text) ?_
 refine rqg hc9 (out:=al b4 1) (a3 fld32_1) ?_
 refine rqg hc9 (out:=ar x2.Text) (a7 (R:=rApiNode) (a:=x2) (R':=bh) 1 ty9 subApiNode_Text) ?_
 refine rqg hc9 (out:=Pr.bool (!(x1.Text==x2.Text))) qStr ?_
 refine rq (out:=Pr.bool (!(x1.Text==x2.Text))) (ax hc9) ?_
 refine rq (out:=Pr.bool (!(x1.Text==x2.Text))) ai ?_
 rcases bk h with⟨hc10,h⟩|⟨hc10,h⟩
 ·refine rno (neF hc10) ?_
  refine rno (neF hc10) ?_
  refine rno (neF hc10) ?_
  refine rno (neF hc10) ?_
  refine rno (neF hc10) ?_
  refine rq (out:=Pr.bool true) (bg hc10) ?_
  refine rq (out:=Pr.bool true) ai ?_
  have hc14:true=true:=rfl
  refine rno (neF hc14) ?_
  refine rno (neF hc14) ?_
  refine rno (neF hc14) ?_
  refine rno (neF hc14) ?_
  refine rno (neF hc14) ?_
  refine rq (out:=Pr.bool true) (bg hc14) ?_
  refine rq (out:=Pr.bool true) ai ?_
  have hc16:true=true:=rfl
  refine rno (neF hc16) ?_
  refine rno (neF hc16) ?_
  refine rno (neF hc16) ?_
  refine rno (neF hc16) ?_
  refine rno (neF hc16) ?_
  refine rno (neF hc16) ?_
  refine rno (neF hc16) ?_
  refine rq (out:=Pr.bool true) (bg hc16) ?_
  exact⟨true,h,⟨⟨aa,aa,aa,trivial⟩,Pick.refl _⟩⟩
 refine rqg hc10 (out:=al b3 2) (a3 fld32_2) ?_
 refine rqg hc10 (out:=ar x1.Type_) (a7 (R:=rApiNode) (a:=x1) (R':=bh) 0 ty9 subApiNode_Type) ?_
 refine rqg hc10 (out:=al b4 2) (a3 fld32_2) ?_
 refine rqg hc10 (out:=ar x2.Type_) (a7 (R:=rApiNode) (a:=x2) (R':=bh) 1 ty9 subApiNode_Type) ?_
 refine rqg hc10 (out:=Pr.bool (!(x1.Type_==x2.Type_))) qStr ?_
 refine rq (out:=Pr.bool (!(x1.Type_==x2.Type_))) (ax hc10) ?_
 refine rq (out:=Pr.bool (!(x1.Type_==x2.Type_))) ai ?_
 rcases bk h with⟨hc11,h⟩|⟨hc11,h⟩
 ·refine rno (neF hc11) ?_
  refine rno (neF hc11) ?_
  refine rno (neF hc11) ?_
  refine rno (neF hc11) ?_
  refine rno (neF hc11) ?_
  refine rq (out:=Pr.bool true) (bg hc11) ?_
  refine rq (out:=Pr.bool true) ai ?_
  have hc13:true=true:=rfl
  refine rno (neF hc13) ?_
  refine rno (neF hc13) ?_
  refine rno (neF hc13) ?_
  refine rno (neF hc13) ?_
  refine rno (neF hc13) ?_
  refine rno (neF hc13) ?_
  refine rno (neF hc13) ?_
  refine rq (out:=Pr.bool true) (bg hc13) ?_
  exact⟨true,h,⟨⟨aa,aa,aa,trivial⟩,Pick.refl _⟩⟩
 refine rqg hc11 (out:=al b3 3) (a3 fld32_3) ?_
 refine rqg hc11 (out:=Pr.i64 x1.N) (a7 (R:=rApiNode) (a:=x1) (R':=Rp.int .i64) 0 ty2 subApiNode_N) ?_
 refine rqg hc11 (out:=al b4 3) (a3 fld32_3) ?_
 refine rqg hc11 (out:=Pr.i64 x2.N) (a7 (R:=rApiNode) (a:=x2) (R':=Rp.int .i64) 1 ty2 subApiNode_N) ?_
 refine rqg hc11 (out:=Pr.bool (x1.N != x2.N)) qInt ?_
 refine rq (out:=Pr.bool (x1.N != x2.N)) (ax hc11) ?_
 refine rq (out:=Pr.bool (x1.N != x2.N)) ai ?_
 rcases bk h with⟨hc12,h⟩|⟨hc12,h⟩
 ·refine rno (neF hc12) ?_
  refine rno (neF hc12) ?_
  refine rno (neF hc12) ?_
  refine rno (neF hc12) ?_
  refine rno (neF hc12) ?_
  refine rno (neF hc12) ?_
  refine rno (neF hc12) ?_
  refine rq (out:=Pr.bool true) (bg hc12) ?_
  exact⟨true,h,⟨⟨aa,aa,aa,trivial⟩,Pick.refl _⟩⟩
 refine rqg hc12 (out:=al b3 8) (a3 ko) ?_
 refine rqg hc12 (out:=av rApiNode x1.Kids) (a7 (R:=rApiNode) (a:=x1) (R':=ba rApiNode) 0 ty24 cm) ?_
 refine rqg hc12 (out:=Pr.i64 (x1.Kids.length:Int)) (qLenL rfl Tryz.underlying24) ?_
 refine rqg hc12 (out:=al b4 8) (a3 ko) ?_
 refine rqg hc12 (out:=av rApiNode x2.Kids) (a7 (R:=rApiNode) (a:=x2) (R':=ba rApiNode) 1 ty24 cm) ?_
 refine rqg hc12 (out:=Pr.i64 (x2.Kids.length:Int)) (qLenL rfl Tryz.underlying24) ?_
 refine rqg hc12 (out:=Pr.bool ((x1.Kids.length:Int) != (x2.Kids.length:Int))) qInt ?_
 refine rq (out:=Pr.bool ((x1.Kids.length:Int) != (x2.Kids.length:Int))) (ax hc12) ?_
 exact⟨(x1.Kids.length:Int) != (x2.Kids.length:Int),h,⟨⟨aa,aa,aa,trivial⟩,Pick.refl _⟩⟩
theorem rec_ref11_Exact_ok :∀n,rec_ref11_Exact_spec (f4 n):=by
 intro n
 induction n with
 |zero=>exact(fun x1 x2 r h=>nomatch (show none=some r from h))
 |succ n ih=>exact(fun x1 x2 r h=>F_ref11_Exact_step (f4 n) ih x1 x2 r h)
theorem ref11_Exact_ok (x1 x2:ApiNode) (r:Bool) (h:ref11_Exact x1 x2=some r):FnP Tryz.prog 14 [(rApiNode).val x1,(rApiNode).val x2] (Pr.bool r):=(rec_ref11_Exact_ok 1048576) x1 x2 r h
def rec_ref11_Depth_spec (R:d6):Prop:=(∀(x1:ApiNode) (r:Int),R x1=some r->FnP Tryz.prog 16 [(rApiNode).val x1] (Pr.i64 r))
theorem F_ref11_Depth_step (R:d6) (ih:rec_ref11_Depth_spec R) (x1:ApiNode) (r:Int) (h:F_ref11_Depth R x1=some r):FnP Tryz.prog 16 [(rApiNode).val x1] (Pr.i64 r):=by
 refine de (n:=22) (rs:=[2]) Tryz.func16 rfl Tryz.ntmps16 ⟨by decide,Tryz.results16⟩ (by decide) (fun s0=> ?_)
 unfold F_ref11_Depth at h
 refine W_rs ?_
 refine rBox (R:=rApiNode) (a:=x1) rfl (fun b2=> ?_)
 refine rq (out:=Pr.i64 0) aj ?_
 refine W_rs ?_
 refine rq (out:=Pr.i64 0) aj ?_
 refine c0 ?_
 refine W_rs ?_
 refine rq (out:=Pr.i64 0) aj ?_
 refine bu ?_
 obtain⟨z2l,hz2,h⟩:=ak h
 obtain⟨n2,hN2⟩:=dv hz2
 clear hz2
 refine kp 0 (fun e C=>∃(x3:Int),ref11_Depth_k1 R x3=some r/\At [(3,Pr.i64 x3)] [Own.box b2 rApiNode x1] e C) ?_ ?_
 ·rintro e C ⟨x3,h,hat1⟩
  refine W_at hat1 ?_
  clear hat1
  unfold ref11_Depth_k1 at h
  refine W_rs ?_
  refine rq (out:=Pr.i64 x3) ai ?_
  refine rq (out:=Pr.i64 (w64 (x3+1))) qInt ?_
  refine rq (out:=Pr.i64 (w64 (x3+1))) aj ?_
  obtain rfl:=Option.some.inj h
  exact bp ⟨rfl,aa⟩
 refine k8 (fun m e C=>∃(x3:Int),∃(x4:Int),i1 (fun s=>js R x1 s.1 s.2) m (x3,x4)=some z2l/\At [(1,al b2 0),(3,Pr.i64 x3),(4,Pr.i64 x4)] [Own.box b2 rApiNode x1] e C) n2 ⟨0,0,hN2,⟨⟨aa,aa,aa,trivial⟩,Pick.refl _⟩⟩ ?_
 clear hN2
 rintro m e C ⟨x3,x4,hN2,hatl2⟩
 refine W_at hatl2 ?_
 clear hatl2
 obtain⟨m2,w2l,rfl,h2l,hn2,ho2⟩:=dp hN2
 clear hN2
 replace h2l:js R x1 x3 x4=some w2l:=h2l
 unfold js at h2l
 refine c0 ?_
 refine W_rs ?_
 refine rq (out:=Pr.i64 x4) ai ?_
 refine rq (out:=al b2 8) (a3 ko) ?_
 refine rq (out:=av rApiNode x1.Kids) (a7 (R:=rApiNode) (a:=x1) (R':=ba rApiNode) 0 ty24 cm) ?_
 refine rq (out:=Pr.i64 (x1.Kids.length:Int)) (qLenL rfl Tryz.underlying24) ?_
 refine rq (out:=Pr.bool (decide (x4<(x1.Kids.length:Int)))) qInt ?_
 refine a8 (b:=decide (x4<(x1.Kids.length:Int))) rfl (fun hc7=> ?_) (fun hc7=> ?_)
 ·replace h2l:=iteT hc7 h2l
  refine bj ?_
  refine c0 ?_
  refine bu ?_
  refine W_r ?_
  refine rq (out:=Pr.i64 x3) ai ?_
  refine rq (out:=al b2 8) (a3 ko) ?_
  refine rq (out:=av rApiNode x1.Kids) (a7 (R:=rApiNode) (a:=x1) (R':=ba rApiNode) 0 ty24 cm) ?_
  refine rq (out:=Pr.i64 x4) ai ?_
  obtain⟨x8,hx8,h2l⟩:=ak h2l
  refine rq (out:=br rApiNode x8) (qIdxA (R:=rApiNode) (l:=x1.Kids) Tryz.underlying24 Tryz.sizeOf32 hx8) ?_
  refine rq (out:=(rApiNode).val x8) (gr (R:=rApiNode) (a:=x8) ty32) ?_
  obtain⟨x9,hx9,h2l⟩:=ak h2l
  refine rq (out:=Pr.i64 x9) (dt (ih x8 _ hx9)) ?_
  refine rq (out:=Pr.i64 (if x9>x3 then x9 else x3)) (qMax (a:=x3) (b:=x9)) ?_
  refine rq (out:=Pr.i64 (if x9>x3 then x9 else x3)) aj ?_
  refine W_r ?_
  refine rq (out:=Pr.i64 x4) ai ?_
  refine rq (out:=Pr.i64 (w64 (x4+1))) qInt ?_
  refine rq (out:=Pr.i64 (w64 (x4+1))) aj ?_
  exact⟨m2,Nat.lt_succ_self _,(if x9>x3 then x9 else x3),w64 (x4+1),hn2 _ (Option.some.inj h2l).symm,⟨⟨aa,aa,aa,trivial⟩,Pick.refl _⟩⟩
 replace h2l:=iteF hc7 h2l
 refine jn ?_
 obtain rfl:=ho2 _ (Option.some.inj h2l).symm
 exact⟨x3,h,⟨⟨aa,trivial⟩,Pick.refl _⟩⟩
theorem rec_ref11_Depth_ok :∀n,rec_ref11_Depth_spec (f6 n):=by
 intro n
 induction n with
 |zero=>exact(fun x1 r h=>nomatch (show none=some r from h))
 |succ n ih=>exact(fun x1 r h=>F_ref11_Depth_step (f6 n) ih x1 r h)
theorem ref11_Depth_ok (x1:ApiNode) (r:Int) (h:ref11_Depth x1=some r):FnP Tryz.prog 16 [(rApiNode).val x1] (Pr.i64 r):=(rec_ref11_Depth_ok 1048576) x1 r h
def rec_ref11_Shift_spec (R:da):Prop:=(∀(x1:ApiNode) (x2:Int) (r:ApiNode),R x1 x2=some r->FnP Tryz.prog 17 [(rApiNode).val x1,Pr.i64 x2] ((rApiNode).val r))
theorem F_ref11_Shift_step (R:da) (ih:rec_ref11_Shift_spec R) (x1:ApiNode) (x2:Int) (r:ApiNode) (h:F_ref11_Shift R x1 x2=some r):FnP Tryz.prog 17 [(rApiNode).val x1,Pr.i64 x2] ((rApiNode).val r):=by
 refine j4 (n:=53) (rs:=[.cell 4 32]) Tryz.func17 rfl Tryz.ntmps17 Tryz.results17 (by decide) (fun s0=> ?_)
 unfold F_ref11_Shift at h
 refine W_rs ?_
 refine rBox (R:=rApiNode) (a:=x1) rfl (fun b3=> ?_)
 refine bi (R:=rApiNode) (z:=(ApiNode.mk 0 [] [] 0 0 0 0 0 [])) Tryz.zeroValue32 (fun _=>(by rw[ap];exact⟨_,⟨_,_,rfl,rfl,⟨_,_,rfl,rfl,⟨_,_,rfl,rfl,⟨_,_,rfl,rfl,⟨_,_,rfl,rfl,⟨_,_,rfl,rfl,⟨_,_,rfl,rfl,⟨_,_,rfl,rfl,⟨_,_,rfl,⟨_,rfl,none,0,rfl,⟨Nat.le_refl _,fun _=>rfl⟩,.inl rfl⟩,rfl⟩⟩⟩⟩⟩⟩⟩⟩⟩,rfl⟩)) (fun b4=> ?_)
 refine W_rs ?_
 refine rq (out:=Pr.is (.slice none 0 0)) aj ?_
 refine c0 ?_
 refine W_rs ?_
 refine rq (out:=Pr.i64 0) aj ?_
 refine bu ?_
 obtain⟨z4l,hz4,h⟩:=ak h
 obtain⟨n4,hN4⟩:=dv hz4
 clear hz4
 refine kp 0 (fun e C=>∃(x7:List ApiNode),∃(v5:Value),ref11_Shift_k3 R x1 x2 x7=some r/\At [(1,Pr.i64 x2),(2,al b3 0),(4,al b4 0),(5,Pr.is v5)] [Own.box b3 rApiNode x1,Own.box b4 rApiNode (ApiNode.mk 0 [] [] 0 0 0 0 0 []),Own.vec v5 rApiNode x7 32] e C) ?_ ?_
 ·rintro e C ⟨x7,v5,h,hat3⟩
  refine W_at hat3 ?_
  clear hat3
  unfold ref11_Shift_k3 at h
  refine W_rs ?_
  refine rq (out:=Pr.is v5) ai ?_
  refine rq (out:=al b3 8) (a3 ko) ?_
  refine rRel 2 [5,24] ?_ rfl ⟨rfl,rfl,trivial⟩
  refine a5 (R:=rApiNode) (R':=ba rApiNode) (a:=x1) (y:=x7) 0 Tryz.sizeOf24 updApiNode_Kids ?_
  refine W_rs ?_
  refine rq (out:=al b3 4) (a3 fld32_4) ?_
  refine rq (out:=Pr.i64 (({x1 with Kids:=x7}).From)) (a7 (R:=rApiNode) (a:={x1 with Kids:=x7}) (R':=Rp.int .i64) 0 ty3 subApiNode_From) ?_
  refine rq (out:=Pr.i64 x2) ai ?_
  refine rq (out:=Pr.i64 (w64 ((({x1 with Kids:=x7}).From)+x2))) qInt ?_
  refine rq (out:=al b3 4) (a3 fld32_4) ?_
  refine a5 (R:=rApiNode) (R':=Rp.int .i64) (a:={x1 with Kids:=x7}) (y:=w64 ((({x1 with Kids:=x7}).From)+x2)) 0 Tryz.sizeOf3 updApiNode_From ?_
  refine W_rs ?_
  refine rq (out:=al b3 5) (a3 fld32_5) ?_
  refine rq (out:=Pr.i64 (({{x1 with Kids:=x7} with From:=w64 ((({x1 with Kids:=x7}).From)+x2)}).To)) (a7 (R:=rApiNode) (a:={{x1 with Kids:=x7} with From:=w64 ((({x1 with Kids:=x7}).From)+x2)}) (R':=Rp.int .i64) 0 ty3 subApiNode_To) ?_
  refine rq (out:=Pr.i64 x2) ai ?_
  refine rq (out:=Pr.i64 (w64 ((({{x1 with Kids:=x7} with From:=w64 ((({x1 with Kids:=x7}).From)+x2)}).To)+x2))) qInt ?_
  refine rq (out:=al b3 5) (a3 fld32_5) ?_
  refine a5 (R:=rApiNode) (R':=Rp.int .i64) (a:={{x1 with Kids:=x7} with From:=w64 ((({x1 with Kids:=x7}).From)+x2)}) (y:=w64 ((({{x1 with Kids:=x7} with From:=w64 ((({x1 with Kids:=x7}).From)+x2)}).To)+x2)) 0 Tryz.sizeOf3 updApiNode_To ?_
  refine cd (fun e C=>∃(x17:ApiNode),kr R x2 x17=some r/\At [(1,Pr.i64 x2),(2,al b3 0),(4,al b4 0)] [Own.box b3 rApiNode x17,Own.box b4 rApiNode (ApiNode.mk 0 [] [] 0 0 0 0 0 [])] e C) ?_ ?_
  ·rintro e C ⟨x17,h,hat2⟩
   refine W_at hat2 ?_
   clear hat2
   unfold kr at h
   refine cd (fun e C=>∃(x19:ApiNode),ks R x19=some r/\At [(2,al b3 0),(4,al b4 0)] [Own.box b3 rApiNode x19,Own.box b4 rApiNode (ApiNode.mk 0 [] [] 0 0 0 0 0 [])] e C) ?_ ?_
   ·rintro e C ⟨x19,h,hat1⟩
    refine W_at hat1 ?_
    clear hat1
    unfold ks at h
    refine W_rs ?_
    refine rq (out:=(rApiNode).val x19) (a7 (R:=rApiNode) (a:=x19) (R':=rApiNode) 0 ty32 (Sub.refl _)) ?_
    refine a5 (R:=rApiNode) (R':=rApiNode) (a:=(ApiNode.mk 0 [] [] 0 0 0 0 0 [])) (y:=x19) 1 Tryz.sizeOf32 (Upd.refl _) ?_
    obtain rfl:=Option.some.inj h
    exact bp ⟨rfl,[(rApiNode).val x19],⟨yBox 1 ty32 aa,trivial⟩,aa⟩
   refine W_rs ?_
   refine rq (out:=al b3 7) (a3 fld32_7) ?_
   refine rq (out:=Pr.i64 x17.TypeAt) (a7 (R:=rApiNode) (a:=x17) (R':=Rp.int .i64) 0 ty3 km) ?_
   refine rq (out:=Pr.bool (decide (x17.TypeAt≥0))) qInt ?_
   refine a8 (b:=decide (x17.TypeAt≥0)) rfl (fun hc18=> ?_) (fun hc18=> ?_)
   ·replace h:=iteT hc18 h
    refine W_r ?_
    refine rq (out:=al b3 7) (a3 fld32_7) ?_
    refine rq (out:=Pr.i64 x17.TypeAt) (a7 (R:=rApiNode) (a:=x17) (R':=Rp.int .i64) 0 ty3 km) ?_
    refine rq (out:=Pr.i64 x2) ai ?_
    refine rq (out:=Pr.i64 (w64 (x17.TypeAt+x2))) qInt ?_
    refine rq (out:=al b3 7) (a3 fld32_7) ?_
    refine a5 (R:=rApiNode) (R':=Rp.int .i64) (a:=x17) (y:=w64 (x17.TypeAt+x2)) 0 Tryz.sizeOf3 updApiNode_TypeAt ?_
    exact⟨{x17 with TypeAt:=w64 (x17.TypeAt+x2)},h,⟨⟨aa,aa,trivial⟩,Pick.refl _⟩⟩
   replace h:=iteF hc18 h
   refine bj ?_
   exact⟨x17,h,⟨⟨aa,aa,trivial⟩,Pick.refl _⟩⟩
  refine W_rs ?_
  refine rq (out:=al b3 6) (a3 fld32_6) ?_
  refine rq (out:=Pr.i64 (({{{x1 with Kids:=x7} with From:=w64 ((({x1 with Kids:=x7}).From)+x2)} with To:=w64 ((({{x1 with Kids:=x7} with From:=w64 ((({x1 with Kids:=x7}).From)+x2)}).To)+x2)}).At)) (a7 (R:=rApiNode) (a:={{{x1 with Kids:=x7} with From:=w64 ((({x1 with Kids:=x7}).From)+x2)} with To:=w64 ((({{x1 with Kids:=x7} with From:=w64 ((({x1 with Kids:=x7}).From)+x2)}).To)+x2)}) (R':=Rp.int .i64) 0 ty3 subApiNode_At) ?_
  refine rq (out:=Pr.bool (decide ((({{{x1 with Kids:=x7} with From:=w64 ((({x1 with Kids:=x7}).From)+x2)} with To:=w64 ((({{x1 with Kids:=x7} with From:=w64 ((({x1 with Kids:=x7}).From)+x2)}).To)+x2)}).At)≥0))) qInt ?_
  refine a8 (b:=decide ((({{{x1 with Kids:=x7} with From:=w64 ((({x1 with Kids:=x7}).From)+x2)} with To:=w64 ((({{x1 with Kids:=x7} with From:=w64 ((({x1 with Kids:=x7}).From)+x2)}).To)+x2)}).At)≥0)) rfl (fun hc16=> ?_) (fun hc16=> ?_)
  ·replace h:=iteT hc16 h
   refine W_r ?_
   refine rq (out:=al b3 6) (a3 fld32_6) ?_
   refine rq (out:=Pr.i64 (({{{x1 with Kids:=x7} with From:=w64 ((({x1 with Kids:=x7}).From)+x2)} with To:=w64 ((({{x1 with Kids:=x7} with From:=w64 ((({x1 with Kids:=x7}).From)+x2)}).To)+x2)}).At)) (a7 (R:=rApiNode) (a:={{{x1 with Kids:=x7} with From:=w64 ((({x1 with Kids:=x7}).From)+x2)} with To:=w64 ((({{x1 with Kids:=x7} with From:=w64 ((({x1 with Kids:=x7}).From)+x2)}).To)+x2)}) (R':=Rp.int .i64) 0 ty3 subApiNode_At) ?_
   refine rq (out:=Pr.i64 x2) ai ?_
   refine rq (out:=Pr.i64 (w64 ((({{{x1 with Kids:=x7} with From:=w64 ((({x1 with Kids:=x7}).From)+x2)} with To:=w64 ((({{x1 with Kids:=x7} with From:=w64 ((({x1 with Kids:=x7}).From)+x2)}).To)+x2)}).At)+x2))) qInt ?_
   refine rq (out:=al b3 6) (a3 fld32_6) ?_
   refine a5 (R:=rApiNode) (R':=Rp.int .i64) (a:={{{x1 with Kids:=x7} with From:=w64 ((({x1 with Kids:=x7}).From)+x2)} with To:=w64 ((({{x1 with Kids:=x7} with From:=w64 ((({x1 with Kids:=x7}).From)+x2)}).To)+x2)}) (y:=w64 ((({{{x1 with Kids:=x7} with From:=w64 ((({x1 with Kids:=x7}).From)+x2)} with To:=w64 ((({{x1 with Kids:=x7} with From:=w64 ((({x1 with Kids:=x7}).From)+x2)}).To)+x2)}).At)+x2)) 0 Tryz.sizeOf3 updApiNode_At ?_
   exact⟨{{{{x1 with Kids:=x7} with From:=w64 ((({x1 with Kids:=x7}).From)+x2)} with To:=w64 ((({{x1 with Kids:=x7} with From:=w64 ((({x1 with Kids:=x7}).From)+x2)}).To)+x2)} with At:=w64 ((({{{x1 with Kids:=x7} with From:=w64 ((({x1 with Kids:=x7}).From)+x2)} with To:=w64 ((({{x1 with Kids:=x7} with From:=w64 ((({x1 with Kids:=x7}).From)+x2)}).To)+x2)}).At)+x2)},h,⟨⟨aa,aa,aa,trivial⟩,Pick.refl _⟩⟩
  replace h:=iteF hc16 h
  refine bj ?_
  exact⟨{{{x1 with Kids:=x7} with From:=w64 ((({x1 with Kids:=x7}).From)+x2)} with To:=w64 ((({{x1 with Kids:=x7} with From:=w64 ((({x1 with Kids:=x7}).From)+x2)}).To)+x2)},h,⟨⟨aa,aa,aa,trivial⟩,Pick.refl _⟩⟩
 refine W_nil [5] rApiNode 32 (fun v20=> ?_) ⟨rfl,trivial⟩
 refine k8 (fun m e C=>∃(x6:Int),∃(x7:List ApiNode),∃(v5:Value),i1 (fun s=>jq R x1 x2 s.1 s.2) m (x6,x7)=some z4l/\At [(1,Pr.i64 x2),(2,al b3 0),(4,al b4 0),(5,Pr.is v5),(6,Pr.i64 x6)] [Own.box b3 rApiNode x1,Own.box b4 rApiNode (ApiNode.mk 0 [] [] 0 0 0 0 0 []),Own.vec v5 rApiNode x7 32] e C) n4 ⟨0,[],v20,hN4,⟨⟨aa,aa,aa,aa,aa,trivial⟩,Pick.refl _⟩⟩ ?_
 clear hN4
 rintro m e C ⟨x6,x7,v5,hN4,hatl4⟩
 refine W_at hatl4 ?_
 clear hatl4
 obtain⟨m4,w4l,rfl,h4l,hn4,ho4⟩:=dp hN4
 clear hN4
 replace h4l:jq R x1 x2 x6 x7=some w4l:=h4l
 unfold jq at h4l
 refine c0 ?_
 refine W_rs ?_
 refine rq (out:=Pr.i64 x6) ai ?_
 refine rq (out:=al b3 8) (a3 ko) ?_
 refine rq (out:=av rApiNode x1.Kids) (a7 (R:=rApiNode) (a:=x1) (R':=ba rApiNode) 0 ty24 cm) ?_
 refine rq (out:=Pr.i64 (x1.Kids.length:Int)) (qLenL rfl Tryz.underlying24) ?_
 refine rq (out:=Pr.bool (decide (x6<(x1.Kids.length:Int)))) qInt ?_
 refine a8 (b:=decide (x6<(x1.Kids.length:Int))) rfl (fun hc11=> ?_) (fun hc11=> ?_)
 ·replace h4l:=iteT hc11 h4l
  refine bj ?_
  refine c0 ?_
  refine bu ?_
  refine W_r ?_
  refine rq (out:=Pr.is v5) ai ?_
  refine rq (out:=al b3 8) (a3 ko) ?_
  refine rq (out:=av rApiNode x1.Kids) (a7 (R:=rApiNode) (a:=x1) (R':=ba rApiNode) 0 ty24 cm) ?_
  refine rq (out:=Pr.i64 x6) ai ?_
  obtain⟨x12,hx12,h4l⟩:=ak h4l
  refine rq (out:=br rApiNode x12) (qIdxA (R:=rApiNode) (l:=x1.Kids) Tryz.underlying24 Tryz.sizeOf32 hx12) ?_
  refine rq (out:=(rApiNode).val x12) (gr (R:=rApiNode) (a:=x12) ty32) ?_
  refine rq (out:=Pr.i64 x2) ai ?_
  obtain⟨x13,hx13,h4l⟩:=ak h4l
  refine rq (out:=(rApiNode).val x13) (dt (ih x12 x2 _ hx13)) ?_
  refine rq (out:=av rApiNode ([x13]:List ApiNode)) (cn (R:=rApiNode) (a:=x13) el24 (Nat.le_of_ble_eq_true rfl)) ?_
  obtain⟨x14,hx14,h4l⟩:=ak h4l
  refine kz 2 el24 hx14 (fun v15=> ?_)
  refine rq (out:=Pr.is v15) aj ?_
  refine W_r ?_
  refine rq (out:=Pr.i64 x6) ai ?_
  refine rq (out:=Pr.i64 (w64 (x6+1))) qInt ?_
  refine rq (out:=Pr.i64 (w64 (x6+1))) aj ?_
  exact⟨m4,Nat.lt_succ_self _,w64 (x6+1),x14,v15,hn4 _ (Option.some.inj h4l).symm,⟨⟨aa,aa,aa,aa,aa,trivial⟩,Pick.refl _⟩⟩
 replace h4l:=iteF hc11 h4l
 refine jn ?_
 obtain rfl:=ho4 _ (Option.some.inj h4l).symm
 exact⟨x7,v5,h,⟨⟨aa,aa,aa,aa,trivial⟩,Pick.refl _⟩⟩
theorem rec_ref11_Shift_ok :∀n,rec_ref11_Shift_spec (f3 n):=by
 intro n
 induction n with
 |zero=>exact(fun x1 x2 r h=>nomatch (show none=some r from h))
 |succ n ih=>exact(fun x1 x2 r h=>F_ref11_Shift_step (f3 n) ih x1 x2 r h)
theorem ref11_Shift_ok (x1:ApiNode) (x2:Int) (r:ApiNode) (h:ref11_Shift x1 x2=some r):FnP Tryz.prog 17 [(rApiNode).val x1,Pr.i64 x2] ((rApiNode).val r):=(rec_ref11_Shift_ok 1048576) x1 x2 r h
theorem law12_ParseParts_ok (x1 x2 x3:List UInt8) (r:Bool) (h:k5 x1 x2 x3=some r):FnP Tryz.prog 5 [ar x1,ar x2,ar x3] (Pr.bool r):=by
 refine de (n:=150) (rs:=[6]) Tryz.func5 rfl Tryz.ntmps5 ⟨by decide,Tryz.results5⟩ (by decide) (fun s0=> ?_)
 unfold k5 at h
 refine W_rs ?_
 refine rq (out:=Pr.bool false) aj ?_
 refine W_rs ?_
 obtain⟨x4,hx4,h⟩:=ak h
 refine rq (out:=Pr.bool x4) (dt (law12_awake_ok _ hx4)) ?_
 refine rq (out:=Pr.bool x4) aj ?_
 refine c0 ?_
 refine W_rs ?_
 refine rq (out:=Pr.bool x4) ai ?_
 refine rq (out:=Pr.bool (!x4)) qNot ?_
 refine a8 (b:= !x4) rfl (fun hc5=> ?_) (fun hc5=> ?_)
 ·replace h:=iteT hc5 h
  refine W_rs ?_
  refine rq (out:=Pr.bool false) aj ?_
  obtain rfl:=Option.some.inj h
  exact bp ⟨rfl,aa⟩
 replace h:=iteF hc5 h
 refine bj ?_
 refine W_rs ?_
 refine rq (out:=ar x1) ai ?_
 obtain⟨x6,hx6,h⟩:=ak h
 refine rq (out:=Pr.bool x6) (dt (law12_short_ok x1 _ hx6)) ?_
 refine rq (out:=Pr.bool x6) aj ?_
 refine W_rs ?_
 refine rq (out:=ar x2) ai ?_
 obtain⟨x7,hx7,h⟩:=ak h
 refine rq (out:=Pr.bool x7) (dt (law12_short_ok x2 _ hx7)) ?_
 refine rq (out:=Pr.bool x7) aj ?_
 refine c0 ?_
 refine cd (fun e C=>∃(x13:Bool),fo x1 x2 x3 x13=some r/\At [(0,ar x1),(1,ar x2),(2,ar x3),(40,Pr.bool x13)] [] e C) ?_ ?_
 ·rintro e C ⟨x13,h,hat8⟩
  refine W_at hat8 ?_
  clear hat8
  unfold fo at h
  refine a8 (b:=x13) rfl (fun hc14=> ?_) (fun hc14=> ?_)
  ·replace h:=iteT hc14 h
   refine W_rs ?_
   refine rq (out:=Pr.bool true) aj ?_
   obtain rfl:=Option.some.inj h
   exact bp ⟨rfl,aa⟩
  replace h:=iteF hc14 h
  refine bj ?_
  refine W_rs ?_
  refine rq (out:=ar x1) ai ?_
  obtain⟨⟨x15,x16⟩,hx15,h⟩:=ak h
  refine rq (out:=cj [av rApiNode x15,(ah).val x16]) (dt (ki x1 _ hx15)) ?_
  refine rq (out:=cj [av rApiNode x15,(ah).val x16]) ai ?_
  refine rq (out:=av rApiNode x15) bo ?_
  refine rq (out:=(ah).val x16) bo ?_
  refine bi (R:=ah) (z:=(ApiMistake.mk 0 0 0)) Tryz.zeroValue27 (fun _=>⟨_,⟨_,_,rfl,rfl,⟨_,_,rfl,rfl,⟨_,_,rfl,rfl,rfl⟩⟩⟩,rfl⟩) (fun b17=> ?_)
  refine rq (out:=av rApiNode x15) aj ?_
  refine a5 (R:=ah) (R':=ah) (a:=(ApiMistake.mk 0 0 0)) (y:=x16) 0 Tryz.sizeOf27 (Upd.refl _) ?_
  refine W_rs ?_
  refine rq (out:=ar x2) ai ?_
  obtain⟨⟨x18,x19⟩,hx18,h⟩:=ak h
  refine rq (out:=cj [av rApiNode x18,(ah).val x19]) (dt (ki x2 _ hx18)) ?_
  refine rq (out:=cj [av rApiNode x18,(ah).val x19]) ai ?_
  refine rq (out:=av rApiNode x18) bo ?_
  refine rq (out:=(ah).val x19) bo ?_
  refine bi (R:=ah) (z:=(ApiMistake.mk 0 0 0)) Tryz.zeroValue27 (fun _=>⟨_,⟨_,_,rfl,rfl,⟨_,_,rfl,rfl,⟨_,_,rfl,rfl,rfl⟩⟩⟩,rfl⟩) (fun b20=> ?_)
  refine rq (out:=av rApiNode x18) aj ?_
  refine a5 (R:=ah) (R':=ah) (a:=(ApiMistake.mk 0 0 0)) (y:=x19) 1 Tryz.sizeOf27 (Upd.refl _) ?_
  refine W_rs ?_
  refine rq (out:=ar x1) ai ?_
  obtain⟨x21,hx21,h⟩:=ak h
  refine rq (out:=ar x21) (qCat' hx21) ?_
  refine rq (out:=ar x2) ai ?_
  obtain⟨x22,hx22,h⟩:=ak h
  refine rq (out:=ar x22) (qCat' hx22) ?_
  obtain⟨⟨x23,x24⟩,hx23,h⟩:=ak h
  refine rq (out:=cj [av rApiNode x23,(ah).val x24]) (dt (ki x22 _ hx23)) ?_
  refine rq (out:=cj [av rApiNode x23,(ah).val x24]) ai ?_
  refine rq (out:=av rApiNode x23) bo ?_
  refine rq (out:=(ah).val x24) bo ?_
  refine bi (R:=ah) (z:=(ApiMistake.mk 0 0 0)) Tryz.zeroValue27 (fun _=>⟨_,⟨_,_,rfl,rfl,⟨_,_,rfl,rfl,⟨_,_,rfl,rfl,rfl⟩⟩⟩,rfl⟩) (fun b25=> ?_)
  refine rq (out:=av rApiNode x23) aj ?_
  refine a5 (R:=ah) (R':=ah) (a:=(ApiMistake.mk 0 0 0)) (y:=x24) 2 Tryz.sizeOf27 (Upd.refl _) ?_
  refine cd (fun e C=>fp x3 x1=some r/\At [(0,ar x1),(2,ar x3)] [Own.box b17 ah x16,Own.box b20 ah x19,Own.box b25 ah x24] e C) ?_ ?_
  ·rintro e C ⟨h,hat2⟩
   refine W_at hat2 ?_
   clear hat2
   unfold fp at h
   refine W_rs ?_
   refine rq (out:=ar x3) ai ?_
   obtain⟨x39,hx39,h⟩:=ak h
   refine rq (out:=ar x39) (qCat' hx39) ?_
   obtain⟨x40,hx40,h⟩:=ak h
   refine rq (out:=ar x40) (qCat' hx40) ?_
   refine rq (out:=ar x40) aj ?_
   refine W_rs ?_
   refine rq (out:=ar x1) ai ?_
   obtain⟨⟨x41,x42⟩,hx41,h⟩:=ak h
   refine rq (out:=cj [(rApiNode).val x41,(ah).val x42]) (dt (parse_Member_ok x1 _ hx41)) ?_
   refine rq (out:=cj [(rApiNode).val x41,(ah).val x42]) ai ?_
   refine rq (out:=(rApiNode).val x41) bo ?_
   refine rq (out:=(ah).val x42) bo ?_
   refine bi (R:=rApiNode) (z:=(ApiNode.mk 0 [] [] 0 0 0 0 0 [])) Tryz.zeroValue32 (fun _=>(by rw[ap];exact⟨_,⟨_,_,rfl,rfl,⟨_,_,rfl,rfl,⟨_,_,rfl,rfl,⟨_,_,rfl,rfl,⟨_,_,rfl,rfl,⟨_,_,rfl,rfl,⟨_,_,rfl,rfl,⟨_,_,rfl,rfl,⟨_,_,rfl,⟨_,rfl,none,0,rfl,⟨Nat.le_refl _,fun _=>rfl⟩,.inl rfl⟩,rfl⟩⟩⟩⟩⟩⟩⟩⟩⟩,rfl⟩)) (fun b43=> ?_)
   refine bi (R:=ah) (z:=(ApiMistake.mk 0 0 0)) Tryz.zeroValue27 (fun _=>⟨_,⟨_,_,rfl,rfl,⟨_,_,rfl,rfl,⟨_,_,rfl,rfl,rfl⟩⟩⟩,rfl⟩) (fun b44=> ?_)
   refine a5 (R:=rApiNode) (R':=rApiNode) (a:=(ApiNode.mk 0 [] [] 0 0 0 0 0 [])) (y:=x41) 3 Tryz.sizeOf32 (Upd.refl _) ?_
   refine a5 (R:=ah) (R':=ah) (a:=(ApiMistake.mk 0 0 0)) (y:=x42) 4 Tryz.sizeOf27 (Upd.refl _) ?_
   refine W_rs ?_
   refine rq (out:=ar x40) ai ?_
   refine rq (out:=ar x1) ai ?_
   obtain⟨x45,hx45,h⟩:=ak h
   refine rq (out:=ar x45) (qCat' hx45) ?_
   obtain⟨x46,hx46,h⟩:=ak h
   refine rq (out:=ar x46) (qCat' hx46) ?_
   obtain⟨⟨x47,x48⟩,hx47,h⟩:=ak h
   refine rq (out:=cj [av rApiNode x47,(ah).val x48]) (dt (ki x46 _ hx47)) ?_
   refine rq (out:=cj [av rApiNode x47,(ah).val x48]) ai ?_
   refine rq (out:=av rApiNode x47) bo ?_
   refine rq (out:=(ah).val x48) bo ?_
   refine bi (R:=ah) (z:=(ApiMistake.mk 0 0 0)) Tryz.zeroValue27 (fun _=>⟨_,⟨_,_,rfl,rfl,⟨_,_,rfl,rfl,⟨_,_,rfl,rfl,rfl⟩⟩⟩,rfl⟩) (fun b49=> ?_)
   refine rq (out:=av rApiNode x47) aj ?_
   refine a5 (R:=ah) (R':=ah) (a:=(ApiMistake.mk 0 0 0)) (y:=x48) 5 Tryz.sizeOf27 (Upd.refl _) ?_
   refine c0 ?_
   refine W_rs ?_
   refine rq (out:=al b44 0) (a3 fld27_0) ?_
   refine rq (out:=Pr.i64 x42.Code) (a7 (R:=ah) (a:=x42) (R':=Rp.int .i64) 4 ty25 ct) ?_
   refine rq (out:=Pr.bool (x42.Code != 0)) qInt ?_
   refine a8 (b:=x42.Code != 0) rfl (fun hc50=> ?_) (fun hc50=> ?_)
   ·replace h:=iteT hc50 h
    refine W_rs ?_
    refine rq (out:=Pr.bool true) aj ?_
    obtain rfl:=Option.some.inj h
    exact bp ⟨rfl,aa⟩
   replace h:=iteF hc50 h
   refine bj ?_
   refine W_rs ?_
   refine rq (out:=(rApiNode).val x41) (a7 (R:=rApiNode) (a:=x41) (R':=rApiNode) 3 ty32 (Sub.refl _)) ?_
   obtain⟨x51,hx51,h⟩:=ak h
   refine rq (out:=Pr.i64 x51) (dt (ref11_Depth_ok x41 _ hx51)) ?_
   refine rq (out:=Pr.bool (decide (x51≥200))) qInt ?_
   refine rq (out:=Pr.bool (decide (x51≥200))) aj ?_
   refine cd (fun e C=>∃(x78:Bool),eo x78=some r/\At [(6,Pr.bool x78)] [Own.box b17 ah x16,Own.box b20 ah x19,Own.box b25 ah x24,Own.box b43 rApiNode x41,Own.box b44 ah x42,Own.box b49 ah x48] e C) ?_ ?_
   ·rintro e C ⟨x78,h,hat1⟩
    refine W_at hat1 ?_
    clear hat1
    unfold eo at h
    obtain rfl:=Option.some.inj h
    exact bp ⟨rfl,aa⟩
   refine W_draw 33 hmx (by kernel_rfl) (by kernel_rfl) ?_
   refine qq (out:=Pr.bool (decide (x51≥200))) ai ?_
   refine qq (out:=Pr.bool (decide (x51≥200))) ai ?_
   rcases bk h with⟨hc52,h⟩|⟨hc52,h⟩
   ·refine qqno (neF hc52) ?_
    refine qqno (neF hc52) ?_
    refine qqno (neF hc52) ?_
    refine qqno (neF hc52) ?_
    refine qqnoU ?_
    refine qqnoU ?_
    refine qqnoU ?_
    refine qqno (neF hc52) ?_
    refine qqno (neF hc52) ?_
    refine qqnoU ?_
    refine qqnoU ?_
    refine qqnoU ?_
    refine qqnoU ?_
    refine qqnoU ?_
    refine qqnoU ?_
    refine qqno (neF hc52) ?_
    refine qqno (neF hc52) ?_
    refine qqnoU ?_
    refine qqnoU ?_
    refine qqnoU ?_
    refine qqnoU ?_
    refine qqnoU ?_
    refine qqnoU ?_
    refine qqnoU ?_
    refine qqnoU ?_
    refine qqnoU ?_
    refine qqnoU ?_
    refine qqnoU ?_
    refine qqno (neF hc52) ?_
    refine qq (out:=Pr.bool true) (bg hc52) ?_
    refine qq (out:=Pr.bool true) aj ?_
    exact⟨true,h,⟨⟨aa,trivial⟩,Pick.refl _⟩⟩
   refine qqg hc52 (out:=al b49 0) (a3 fld27_0) ?_
   refine qqg hc52 (out:=Pr.i64 x48.Code) (a7 (R:=ah) (a:=x48) (R':=Rp.int .i64) 5 ty25 ct) ?_
   refine qqg hc52 (out:=Pr.bool (x48.Code==0)) qInt ?_
   refine qqg hc52 (out:=Pr.bool (x48.Code==0)) ai ?_
   rcases bk h with⟨hc53,h⟩|⟨hc53,h⟩
   ·refine qqg hc53 (out:=av rApiNode x47) ai ?_
    refine qqg hc53 (out:=Pr.i64 (x47.length:Int)) (qLenL rfl Tryz.underlying24) ?_
    refine qqg hc53 (out:=Pr.bool ((x47.length:Int)==1)) qInt ?_
    refine qqg hc52 (out:=Pr.bool ((x47.length:Int)==1)) (bg hc53) ?_
    refine qqg hc52 (out:=Pr.bool ((x47.length:Int)==1)) ai ?_
    rcases bk h with⟨hc54,h⟩|⟨hc54,h⟩
    ·refine qqg hc54 (out:=av rApiNode x47) ai ?_
     obtain⟨x55,hx55,h⟩:=ak h
     refine qqg hc54 (out:=br rApiNode x55) (qIdxA (R:=rApiNode) (l:=x47) Tryz.underlying24 Tryz.sizeOf32 hx55) ?_
     refine qqg hc54 (out:=br (ba rApiNode) x55.Kids) (qFieldC (R:=rApiNode) (a:=x55) ko cm) ?_
     refine qqg hc54 (out:=av rApiNode x55.Kids) (gr (R:=ba rApiNode) (a:=x55.Kids) ty24) ?_
     refine qqg hc54 (out:=Pr.i64 (x55.Kids.length:Int)) (qLenL rfl Tryz.underlying24) ?_
     refine qqg hc54 (out:=Pr.bool ((x55.Kids.length:Int)==1)) qInt ?_
     refine qqg hc52 (out:=Pr.bool ((x55.Kids.length:Int)==1)) (bg hc54) ?_
     refine qqg hc52 (out:=Pr.bool ((x55.Kids.length:Int)==1)) ai ?_
     rcases bk h with⟨hc56,h⟩|⟨hc56,h⟩
     ·refine qqg hc56 (out:=av rApiNode x47) ai ?_
      obtain⟨x57,hx57,h⟩:=ak h
      refine qqg hc56 (out:=br rApiNode x57) (qIdxA (R:=rApiNode) (l:=x47) Tryz.underlying24 Tryz.sizeOf32 hx57) ?_
      refine qqg hc56 (out:=br (ba rApiNode) x57.Kids) (qFieldC (R:=rApiNode) (a:=x57) ko cm) ?_
      refine qqg hc56 (out:=av rApiNode x57.Kids) (gr (R:=ba rApiNode) (a:=x57.Kids) ty24) ?_
      obtain⟨x58,hx58,h⟩:=ak h
      refine qqg hc56 (out:=br rApiNode x58) (qIdxA (R:=rApiNode) (l:=x57.Kids) Tryz.underlying24 Tryz.sizeOf32 hx58) ?_
      refine qqg hc56 (out:=(rApiNode).val x58) (gr (R:=rApiNode) (a:=x58) ty32) ?_
      refine qqg hc56 (out:=(rApiNode).val x41) (a7 (R:=rApiNode) (a:=x41) (R':=rApiNode) 3 ty32 (Sub.refl _)) ?_
      refine qqg hc56 (out:=ar x40) ai ?_
      refine qqg hc56 (out:=Pr.i64 (x40.length:Int)) (qLenS rfl Tryz.underlying9) ?_
      obtain⟨x59,hx59,h⟩:=ak h
      refine qqg hc56 (out:=(rApiNode).val x59) (dt (ref11_Shift_ok x41 (x40.length:Int) _ hx59)) ?_
      obtain⟨x60,hx60,h⟩:=ak h
      refine qqg hc56 (out:=Pr.bool x60) (dt (ref11_Exact_ok x58 x59 _ hx60)) ?_
      refine qqg hc52 (out:=Pr.bool x60) (bg hc56) ?_
      refine qq (out:=Pr.bool x60) (ax hc52) ?_
      refine qq (out:=Pr.bool x60) aj ?_
      exact⟨x60,h,⟨⟨aa,trivial⟩,Pick.refl _⟩⟩
     refine qqno (neT hc56) ?_
     refine qqno (neT hc56) ?_
     refine qqno (neT hc56) ?_
     refine qqno (neT hc56) ?_
     refine qqno (neT hc56) ?_
     refine qqno (neT hc56) ?_
     refine qqno (neT hc56) ?_
     refine qqno (neT hc56) ?_
     refine qqno (neT hc56) ?_
     refine qqno (neT hc56) ?_
     refine qqno (neT hc56) ?_
     refine qqg hc52 (out:=Pr.bool false) (ax hc56) ?_
     refine qq (out:=Pr.bool false) (ax hc52) ?_
     refine qq (out:=Pr.bool false) aj ?_
     exact⟨false,h,⟨⟨aa,trivial⟩,Pick.refl _⟩⟩
    refine qqno (neT hc54) ?_
    refine qqno (neT hc54) ?_
    refine qqno (neT hc54) ?_
    refine qqno (neT hc54) ?_
    refine qqno (neT hc54) ?_
    refine qqno (neT hc54) ?_
    refine qqg hc52 (out:=Pr.bool false) (ax hc54) ?_
    refine qqg hc52 (out:=Pr.bool false) ai ?_
    have hc61:false=false:=rfl
    refine qqno (neT hc61) ?_
    refine qqno (neT hc61) ?_
    refine qqno (neT hc61) ?_
    refine qqno (neT hc61) ?_
    refine qqno (neT hc61) ?_
    refine qqno (neT hc61) ?_
    refine qqno (neT hc61) ?_
    refine qqno (neT hc61) ?_
    refine qqno (neT hc61) ?_
    refine qqno (neT hc61) ?_
    refine qqno (neT hc61) ?_
    refine qqg hc52 (out:=Pr.bool false) (ax hc61) ?_
    refine qq (out:=Pr.bool false) (ax hc52) ?_
    refine qq (out:=Pr.bool false) aj ?_
    exact⟨false,h,⟨⟨aa,trivial⟩,Pick.refl _⟩⟩
   refine qqno (neT hc53) ?_
   refine qqno (neT hc53) ?_
   refine qqno (neT hc53) ?_
   refine qqg hc52 (out:=Pr.bool false) (ax hc53) ?_
   refine qqg hc52 (out:=Pr.bool false) ai ?_
   have hc66:false=false:=rfl
   refine qqno (neT hc66) ?_
   refine qqno (neT hc66) ?_
   refine qqno (neT hc66) ?_
   refine qqno (neT hc66) ?_
   refine qqno (neT hc66) ?_
   refine qqno (neT hc66) ?_
   refine qqg hc52 (out:=Pr.bool false) (ax hc66) ?_
   refine qqg hc52 (out:=Pr.bool false) ai ?_
   have hc73:false=false:=rfl
   refine qqno (neT hc73) ?_
   refine qqno (neT hc73) ?_
   refine qqno (neT hc73) ?_
   refine qqno (neT hc73) ?_
   refine qqno (neT hc73) ?_
   refine qqno (neT hc73) ?_
   refine qqno (neT hc73) ?_
   refine qqno (neT hc73) ?_
   refine qqno (neT hc73) ?_
   refine qqno (neT hc73) ?_
   refine qqno (neT hc73) ?_
   refine qqg hc52 (out:=Pr.bool false) (ax hc73) ?_
   refine qq (out:=Pr.bool false) (ax hc52) ?_
   refine qq (out:=Pr.bool false) aj ?_
   exact⟨false,h,⟨⟨aa,trivial⟩,Pick.refl _⟩⟩
  refine cd (fun e C=>∃(x27:Bool),gx x24 x15 x23 x3 x1 x18 x27=some r/\At [(0,ar x1),(2,ar x3),(10,av rApiNode x15),(12,av rApiNode x18),(14,av rApiNode x23),(15,al b25 0),(66,Pr.bool x27)] [Own.box b17 ah x16,Own.box b20 ah x19,Own.box b25 ah x24] e C) ?_ ?_
  ·rintro e C ⟨x27,h,hat7⟩
   refine W_at hat7 ?_
   clear hat7
   unfold gx at h
   refine a8 (b:=x27) rfl (fun hc28=> ?_) (fun hc28=> ?_)
   ·replace h:=iteT hc28 h
    refine c0 ?_
    refine cd (fun e C=>∃(x30:Bool),gy x15 x23 x3 x1 x30=some r/\At [(0,ar x1),(2,ar x3),(10,av rApiNode x15),(14,av rApiNode x23),(79,Pr.bool x30)] [Own.box b17 ah x16,Own.box b20 ah x19,Own.box b25 ah x24] e C) ?_ ?_
    ·rintro e C ⟨x30,h,hat6⟩
     refine W_at hat6 ?_
     clear hat6
     unfold gy at h
     refine a8 (b:=x30) rfl (fun hc31=> ?_) (fun hc31=> ?_)
     ·replace h:=iteT hc31 h
      refine W_rs ?_
      refine rq (out:=Pr.bool false) aj ?_
      obtain rfl:=Option.some.inj h
      exact bp ⟨rfl,aa⟩
     replace h:=iteF hc31 h
     refine bj ?_
     refine W_rs ?_
     refine rq (out:=Pr.i64 0) aj ?_
     refine bu ?_
     obtain⟨z4l,hz4,h⟩:=ak h
     obtain⟨n4,hN4⟩:=dv hz4
     clear hz4
     refine kp 0 (fun e C=>jl x3 x1=some r/\At [(0,ar x1),(2,ar x3)] [Own.box b17 ah x16,Own.box b20 ah x19,Own.box b25 ah x24] e C) ?_ ?_
     ·rintro e C ⟨h,hat3⟩
      unfold jl at h
      exact⟨h,(At.trans hat3 ⟨⟨aa,aa,trivial⟩,Pick.refl _⟩)⟩
     refine k8 (fun m e C=>∃(x32:Int),i1 (fun s=>en x15 x23 s) m x32=some z4l/\At [(0,ar x1),(2,ar x3),(10,av rApiNode x15),(14,av rApiNode x23),(16,Pr.i64 x32)] [Own.box b17 ah x16,Own.box b20 ah x19,Own.box b25 ah x24] e C) n4 ⟨0,hN4,⟨⟨aa,aa,aa,aa,aa,trivial⟩,Pick.refl _⟩⟩ ?_
     clear hN4
     rintro m e C ⟨x32,hN4,hatl4⟩
     refine W_at hatl4 ?_
     clear hatl4
     obtain⟨m4,w4l,rfl,h4l,hn4,ho4⟩:=dp hN4
     clear hN4
     replace h4l:en x15 x23 x32=some w4l:=h4l
     unfold en at h4l
     refine c0 ?_
     refine W_rs ?_
     refine rq (out:=Pr.i64 x32) ai ?_
     refine rq (out:=av rApiNode x15) ai ?_
     refine rq (out:=Pr.i64 (x15.length:Int)) (qLenL rfl Tryz.underlying24) ?_
     refine rq (out:=Pr.bool (decide (x32<(x15.length:Int)))) qInt ?_
     refine a8 (b:=decide (x32<(x15.length:Int))) rfl (fun hc34=> ?_) (fun hc34=> ?_)
     ·replace h4l:=iteT hc34 h4l
      refine bj ?_
      refine c0 ?_
      refine bu ?_
      refine cd (fun e C=>∃(x37:Bool),jm x32 x37=some w4l/\At [(0,ar x1),(2,ar x3),(10,av rApiNode x15),(14,av rApiNode x23),(16,Pr.i64 x32),(95,Pr.bool (!x37))] [Own.box b17 ah x16,Own.box b20 ah x19,Own.box b25 ah x24] e C) ?_ ?_
      ·rintro e C ⟨x37,h4l,hat5⟩
       refine W_at hat5 ?_
       clear hat5
       unfold jm at h4l
       refine a8 (b:= !x37) rfl (fun hc38=> ?_) (fun hc38=> ?_)
       ·replace h4l:=iteT hc38 h4l
        refine W_rs ?_
        refine rq (out:=Pr.bool false) aj ?_
        obtain rfl:=ho4 _ (Option.some.inj h4l).symm
        replace h:some false=some r:=h
        obtain rfl:=Option.some.inj h
        exact bp ⟨rfl,aa⟩
       replace h4l:=iteF hc38 h4l
       refine bj ?_
       refine W_r ?_
       refine rq (out:=Pr.i64 x32) ai ?_
       refine rq (out:=Pr.i64 (w64 (x32+1))) qInt ?_
       refine rq (out:=Pr.i64 (w64 (x32+1))) aj ?_
       exact⟨m4,Nat.lt_succ_self _,w64 (x32+1),hn4 _ (Option.some.inj h4l).symm,⟨⟨aa,aa,aa,aa,aa,trivial⟩,Pick.refl _⟩⟩
      refine W_draw 10 hmx (by kernel_rfl) (by kernel_rfl) ?_
      refine qq (out:=av rApiNode x23) ai ?_
      refine qq (out:=Pr.i64 x32) ai ?_
      obtain⟨x35,hx35,h4l⟩:=ak h4l
      refine qq (out:=br rApiNode x35) (qIdxA (R:=rApiNode) (l:=x23) Tryz.underlying24 Tryz.sizeOf32 hx35) ?_
      refine qq (out:=(rApiNode).val x35) (gr (R:=rApiNode) (a:=x35) ty32) ?_
      refine qq (out:=av rApiNode x15) ai ?_
      refine qq (out:=Pr.i64 x32) ai ?_
      obtain⟨x36,hx36,h4l⟩:=ak h4l
      refine qq (out:=br rApiNode x36) (qIdxA (R:=rApiNode) (l:=x15) Tryz.underlying24 Tryz.sizeOf32 hx36) ?_
      refine qq (out:=(rApiNode).val x36) (gr (R:=rApiNode) (a:=x36) ty32) ?_
      obtain⟨x37,hx37,h4l⟩:=ak h4l
      refine qq (out:=Pr.bool x37) (dt (ref11_Exact_ok x35 x36 _ hx37)) ?_
      refine qq (out:=Pr.bool (!x37)) qNot ?_
      exact⟨x37,h4l,⟨⟨aa,aa,aa,aa,aa,aa,trivial⟩,Pick.refl _⟩⟩
     replace h4l:=iteF hc34 h4l
     refine jn ?_
     obtain rfl:=ho4 _ (Option.some.inj h4l).symm
     exact⟨h,⟨⟨aa,aa,trivial⟩,Pick.refl _⟩⟩
    refine W_r ?_
    refine rq (out:=al b25 0) (a3 fld27_0) ?_
    refine rq (out:=Pr.i64 x24.Code) (a7 (R:=ah) (a:=x24) (R':=Rp.int .i64) 2 ty25 ct) ?_
    refine rq (out:=Pr.bool (x24.Code != 0)) qInt ?_
    refine rq (out:=Pr.bool (x24.Code != 0)) ai ?_
    rcases bk h with⟨hc29,h⟩|⟨hc29,h⟩
    ·refine rno (neF hc29) ?_
     refine rno (neF hc29) ?_
     refine rno (neF hc29) ?_
     refine rno (neF hc29) ?_
     refine rno (neF hc29) ?_
     refine rno (neF hc29) ?_
     refine rno (neF hc29) ?_
     refine rno (neF hc29) ?_
     refine rq (out:=Pr.bool true) (bg hc29) ?_
     exact⟨true,h,⟨⟨aa,aa,aa,aa,aa,trivial⟩,Pick.refl _⟩⟩
    refine rqg hc29 (out:=av rApiNode x23) ai ?_
    refine rqg hc29 (out:=Pr.i64 (x23.length:Int)) (qLenL rfl Tryz.underlying24) ?_
    refine rqg hc29 (out:=av rApiNode x15) ai ?_
    refine rqg hc29 (out:=Pr.i64 (x15.length:Int)) (qLenL rfl Tryz.underlying24) ?_
    refine rqg hc29 (out:=av rApiNode x18) ai ?_
    refine rqg hc29 (out:=Pr.i64 (x18.length:Int)) (qLenL rfl Tryz.underlying24) ?_
    refine rqg hc29 (out:=Pr.i64 (w64 ((x15.length:Int)+(x18.length:Int)))) qInt ?_
    refine rqg hc29 (out:=Pr.bool ((x23.length:Int) != (w64 ((x15.length:Int)+(x18.length:Int))))) qInt ?_
    refine rq (out:=Pr.bool ((x23.length:Int) != (w64 ((x15.length:Int)+(x18.length:Int))))) (ax hc29) ?_
    exact⟨(x23.length:Int) != (w64 ((x15.length:Int)+(x18.length:Int))),h,⟨⟨aa,aa,aa,aa,aa,trivial⟩,Pick.refl _⟩⟩
   replace h:=iteF hc28 h
   refine bj ?_
   exact⟨h,⟨⟨aa,aa,trivial⟩,Pick.refl _⟩⟩
  refine W_r ?_
  refine rq (out:=al b17 0) (a3 fld27_0) ?_
  refine rq (out:=Pr.i64 x16.Code) (a7 (R:=ah) (a:=x16) (R':=Rp.int .i64) 0 ty25 ct) ?_
  refine rq (out:=Pr.bool (x16.Code==0)) qInt ?_
  refine rq (out:=Pr.bool (x16.Code==0)) ai ?_
  rcases bk h with⟨hc26,h⟩|⟨hc26,h⟩
  ·refine rqg hc26 (out:=al b20 0) (a3 fld27_0) ?_
   refine rqg hc26 (out:=Pr.i64 x19.Code) (a7 (R:=ah) (a:=x19) (R':=Rp.int .i64) 1 ty25 ct) ?_
   refine rqg hc26 (out:=Pr.bool (x19.Code==0)) qInt ?_
   refine rq (out:=Pr.bool (x19.Code==0)) (bg hc26) ?_
   exact⟨x19.Code==0,h,⟨⟨aa,aa,aa,aa,aa,aa,aa,trivial⟩,Pick.refl _⟩⟩
  refine rno (neT hc26) ?_
  refine rno (neT hc26) ?_
  refine rno (neT hc26) ?_
  refine rq (out:=Pr.bool false) (ax hc26) ?_
  exact⟨false,h,⟨⟨aa,aa,aa,aa,aa,aa,aa,trivial⟩,Pick.refl _⟩⟩
 refine W_r ?_
 refine rq (out:=Pr.bool x6) ai ?_
 refine rq (out:=Pr.bool (!x6)) qNot ?_
 refine rq (out:=Pr.bool (!x6)) ai ?_
 rcases bk h with⟨hc8,h⟩|⟨hc8,h⟩
 ·refine rno (neF hc8) ?_
  refine rno (neF hc8) ?_
  refine rq (out:=Pr.bool true) (bg hc8) ?_
  refine rq (out:=Pr.bool true) ai ?_
  have hc11:true=true:=rfl
  refine rno (neF hc11) ?_
  refine rno (neF hc11) ?_
  refine rno (neF hc11) ?_
  refine rq (out:=Pr.bool true) (bg hc11) ?_
  exact⟨true,h,⟨⟨aa,aa,aa,aa,trivial⟩,Pick.refl _⟩⟩
 refine rqg hc8 (out:=Pr.bool x7) ai ?_
 refine rqg hc8 (out:=Pr.bool (!x7)) qNot ?_
 refine rq (out:=Pr.bool (!x7)) (ax hc8) ?_
 refine rq (out:=Pr.bool (!x7)) ai ?_
 rcases bk h with⟨hc9,h⟩|⟨hc9,h⟩
 ·refine rno (neF hc9) ?_
  refine rno (neF hc9) ?_
  refine rno (neF hc9) ?_
  refine rq (out:=Pr.bool true) (bg hc9) ?_
  exact⟨true,h,⟨⟨aa,aa,aa,aa,trivial⟩,Pick.refl _⟩⟩
 refine rqg hc9 (out:=ar x3) ai ?_
 obtain⟨x10,hx10,h⟩:=ak h
 refine rqg hc9 (out:=Pr.bool x10) (dt (ref03_Name_ok x3 _ hx10)) ?_
 refine rqg hc9 (out:=Pr.bool (!x10)) qNot ?_
 refine rq (out:=Pr.bool (!x10)) (ax hc9) ?_
 exact⟨!x10,h,⟨⟨aa,aa,aa,aa,trivial⟩,Pick.refl _⟩⟩
end Go.Proofs.YtackaijkmkollaaGreatDoor
