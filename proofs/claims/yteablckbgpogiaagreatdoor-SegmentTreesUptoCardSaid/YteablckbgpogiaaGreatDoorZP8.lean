/- The code comes to what these functions say (printed by wip/gen/gen.py). -/
import Derived.Test.YteablckbgpogiaaGreatDoorZX
import Derived.Test.YteablckbgpogiaaGreatDoorZP7
import Derived.Test.YteablckbgpogiaaGreatDoorZT
set_option linter.unusedSimpArgs false
set_option linter.unusedVariables false
set_option linter.unusedSectionVars false
set_option linter.unusedSectionVars false
set_option maxRecDepth 100000
set_option maxHeartbeats 4000000
namespace Go.Proofs.YteablckbgpogiaaGreatDoor
open Go Go.Cn
variable [Known]
attribute [local irreducible] f5 ap
theorem ref03_between_ok (x1:List UInt8) (x2:Int) (r:Int × Bool) (h:ref03_between x1 x2=some r):FnP Tryz.prog 50 [ba x1,Pr.i64 x2] (ce [Pr.i64 r.1,Pr.bool r.2]):=by
 refine cm (rs:=[4,5]) Tryz.func50 rfl Tryz.ntmps50 ⟨by decide,Tryz.results50⟩ (by decide) (fun s0=> ?_)
 unfold ref03_between at h
 refine W_rs (kAs rfl (kAs rfl (az (a4 ?_))))
 obtain⟨z2l,hz2,h⟩:=af h
 obtain⟨n2,hN2⟩:=bp hz2
 refine d7 0 (fun e C=>∃(x3:Int),qz x3=some r/\At [(1,Pr.i64 x3)] [] e C) ?_ ?_
 ·rintro e C ⟨x3,h,hat1⟩
  refine W_at hat1 ?_
  unfold qz at h
  refine W_rs (kMv rfl (kAs rfl (kAs rfl ?_)))
  obtain rfl:=osj h
  exact ax ⟨rfl,aa⟩
 refine ew (fun m e C=>∃(x3:Int),ff (fun s=>dp x1 s) m x3=some z2l/\At [(0,ba x1),(1,Pr.i64 x3)] [] e C) n2 ⟨x2,hN2,⟨⟨aa,aa,trivial⟩,Pick.refl _⟩⟩ ?_
 rintro m e C ⟨x3,hN2,hatl2⟩
 refine W_at hatl2 ?_
 obtain⟨m2,w2l,rfl,h2l,hn2,ho2⟩:=bk hN2
 replace h2l:dp x1 x3=some w2l:=h2l
 unfold dp at h2l
 refine az (W_rs (kMv rfl (kMv rfl (kUn (ol rfl Tryz.underlying9) ?_))))
 refine kIn rfl rfl rfl ?_
 refine a7 h2l rfl (fun _ h2l=> ?_) (fun _ h2l=> ?_)
 ·refine ar (a4 (W_rs (kMv rfl (kMv rfl ?_))))
  obtain⟨x6,hx6,h2l⟩:=af h2l
  refine kUn (qIdxS Tryz.underlying9 hx6) ?_
  refine kAs rfl (az ?_)
  refine bj (fun e C=>∃(x14:Bool),fe x3 x1 x6 x14=some w2l/\At [(0,ba x1),(1,Pr.i64 x3),(6,Pr.u8 x6),(28,Pr.bool x14)] [] e C) ?_ ?_
  ·rintro e C ⟨x14,h2l,hat10⟩
   refine W_at hat10 ?_
   unfold fe at h2l
   refine a7 h2l rfl (fun _ h2l=> ?_) (fun _ h2l=> ?_)
   ·refine W_rs (kMv rfl (kIn rfl rfl rfl (kAs rfl ?_)))
    refine ej ?_
    exact⟨m2,Nat.lt_succ_self _,w64 (x3+1),hn2 _ (Option.some.inj h2l).symm,atOk⟩
   refine ar (az ?_)
   refine bj (fun e C=>∃(x25:Bool),ii x3 x1 x25=some w2l/\At [(0,ba x1),(1,Pr.i64 x3),(53,Pr.bool x25)] [] e C) ?_ ?_
   ·rintro e C ⟨x25,h2l,hat9⟩
    refine W_at hat9 ?_
    unfold ii at h2l
    refine a7 h2l rfl (fun _ h2l=> ?_) (fun _ h2l=> ?_)
    ·refine W_rs (kMv rfl (kAs rfl (kAs rfl ?_)))
     obtain rfl:=ho2 _ (Option.some.inj h2l).symm
     replace h:some (x3,true)=some r:=h
     obtain rfl:=osj h
     exact ax ⟨rfl,aa⟩
    refine ar (az (W_rs (kMv rfl (kMv rfl (kIn rfl rfl rfl ?_)))))
    obtain⟨x27,hx27,h2l⟩:=af h2l
    refine kUn (qIdxS Tryz.underlying9 hx27) ?_
    refine kIn rfl rfl rfl ?_
    refine a7 h2l rfl (fun _ h2l=> ?_) (fun _ h2l=> ?_)
    ·refine az (a4 ?_)
     obtain⟨z4l,hz4,h2l⟩:=af h2l
     obtain⟨n4,hN4⟩:=bp hz4
     refine d7 2 (fun e C=>∃(x29:Int),ref03_between_k3 x29=some w2l/\At [(0,ba x1),(1,Pr.i64 x29)] [] e C) ?_ ?_
     ·rintro e C ⟨x29,h2l,hat3⟩
      refine W_at hat3 ?_
      unfold ref03_between_k3 at h2l
      refine ej ?_
      exact⟨m2,Nat.lt_succ_self _,x29,hn2 _ (Option.some.inj h2l).symm,atOk⟩
     refine ew (fun m e C=>∃(x29:Int),ff (fun s=>j7 x1 s) m x29=some z4l/\At [(0,ba x1),(1,Pr.i64 x29)] [] e C) n4 ⟨x3,hN4,⟨⟨aa,aa,trivial⟩,Pick.refl _⟩⟩ ?_
     rintro m e C ⟨x29,hN4,hatl4⟩
     refine W_at hatl4 ?_
     obtain⟨m4,w4l,rfl,h4l,hn4,ho4⟩:=bk hN4
     replace h4l:j7 x1 x29=some w4l:=h4l
     unfold j7 at h4l
     refine az ?_
     refine bj (fun e C=>∃(x33:Bool),nw x29 x33=some w4l/\At [(0,ba x1),(1,Pr.i64 x29),(69,Pr.bool x33)] [] e C) ?_ ?_
     ·rintro e C ⟨x33,h4l,hat5⟩
      refine W_at hat5 ?_
      unfold nw at h4l
      refine a7 h4l rfl (fun _ h4l=> ?_) (fun _ h4l=> ?_)
      ·refine ar (a4 (W_r (kMv rfl (kIn rfl rfl rfl (kAs rfl ?_)))))
       exact⟨m4,Nat.lt_succ_self _,w64 (x29+1),hn4 _ (Option.some.inj h4l).symm,atOk⟩
      refine ej ?_
      obtain rfl:=ho4 _ (Option.some.inj h4l).symm
      exact⟨x29,h2l,atOk⟩
     refine W_r (kMv rfl (kMv rfl (kUn (ol rfl Tryz.underlying9) ?_)))
     refine kIn rfl rfl rfl (kMv rfl ?_)
     rcases bd h4l with⟨hc31,h4l⟩|⟨hc31,h4l⟩
     ·refine kGd rfl aa hc31 (hMvA rfl) (kGd rfl aa hc31 (hMvA rfl) ?_)
      obtain⟨x32,hx32,h4l⟩:=af h4l
      refine kGd rfl aa hc31 (qIdxS Tryz.underlying9 hx32) ?_
      refine kGd rfl aa hc31 (qInt rfl rfl rfl) (kPt rfl hc31 rfl ?_)
      exact⟨x32 != 10,h4l,atOk⟩
     refine kSkT rfl aa hc31 (kSkT rfl aa hc31 (kSkT rfl aa hc31 (kSkT rfl aa hc31 (kPf rfl hc31 rfl ?_))))
     exact⟨false,h4l,atOk⟩
    refine ar (W_rs (kMv rfl (kIn rfl rfl rfl (kAs rfl (az (a4 ?_))))))
    obtain⟨z7l,hz7,h2l⟩:=af h2l
    obtain⟨n7,hN7⟩:=bp hz7
    refine d7 4 (fun e C=>∃(x35:Int),nv x1 x3 x35=some w2l/\At [(0,ba x1),(1,Pr.i64 x3),(7,Pr.i64 x35)] [] e C) ?_ ?_
    ·rintro e C ⟨x35,h2l,hat6⟩
     refine W_at hat6 ?_
     unfold nv at h2l
     refine az (W_rs (kMv rfl (kIn rfl rfl rfl (kMv rfl (kUn (ol rfl Tryz.underlying9) ?_)))))
     refine kIn rfl rfl rfl ?_
     refine a7 h2l rfl (fun _ h2l=> ?_) (fun _ h2l=> ?_)
     ·refine W_rs (kMv rfl (kAs rfl (kAs rfl ?_)))
      obtain rfl:=ho2 _ (Option.some.inj h2l).symm
      replace h:some (x3,false)=some r:=h
      obtain rfl:=osj h
      exact ax ⟨rfl,aa⟩
     refine ar (W_r (kMv rfl (kIn rfl rfl rfl (kAs rfl ?_))))
     exact⟨m2,Nat.lt_succ_self _,w64 (x35+2),hn2 _ (Option.some.inj h2l).symm,atOk⟩
    refine ew (fun m e C=>∃(x35:Int),ff (fun s=>j6 x1 s) m x35=some z7l/\At [(0,ba x1),(1,Pr.i64 x3),(7,Pr.i64 x35)] [] e C) n7 ⟨w64 (x3+2),hN7,⟨⟨aa,aa,aa,trivial⟩,Pick.refl _⟩⟩ ?_
    rintro m e C ⟨x35,hN7,hatl7⟩
    refine W_at hatl7 ?_
    obtain⟨m7,w7l,rfl,h7l,hn7,ho7⟩:=bk hN7
    replace h7l:j6 x1 x35=some w7l:=h7l
    unfold j6 at h7l
    refine az ?_
    refine bj (fun e C=>∃(x41:Bool),ld x35 x41=some w7l/\At [(0,ba x1),(1,Pr.i64 x3),(7,Pr.i64 x35),(91,Pr.bool x41)] [] e C) ?_ ?_
    ·rintro e C ⟨x41,h7l,hat8⟩
     refine W_at hat8 ?_
     unfold ld at h7l
     refine a7 h7l rfl (fun _ h7l=> ?_) (fun _ h7l=> ?_)
     ·refine ar (a4 (W_r (kMv rfl (kIn rfl rfl rfl (kAs rfl ?_)))))
      exact⟨m7,Nat.lt_succ_self _,w64 (x35+1),hn7 _ (Option.some.inj h7l).symm,atOk⟩
     refine ej ?_
     obtain rfl:=ho7 _ (Option.some.inj h7l).symm
     exact⟨x35,h2l,atOk⟩
    refine W_r (kMv rfl (kIn rfl rfl rfl (kMv rfl (kUn (ol rfl Tryz.underlying9) ?_))))
    refine kIn rfl rfl rfl (kMv rfl ?_)
    rcases bd h7l with⟨hc37,h7l⟩|⟨hc37,h7l⟩
    ·refine kGd rfl aa hc37 (hMvA rfl) (kGd rfl aa hc37 (hMvA rfl) ?_)
     obtain⟨x38,hx38,h7l⟩:=af h7l
     refine kGd rfl aa hc37 (qIdxS Tryz.underlying9 hx38) ?_
     refine kGd rfl aa hc37 (qInt rfl rfl rfl) (kGd rfl aa hc37 (hMvA rfl) ?_)
     rcases bd h7l with⟨hc39,h7l⟩|⟨hc39,h7l⟩
     ·refine kSkF rfl aa hc39 (kSkF rfl aa hc39 (kSkF rfl aa hc39 (kSkF rfl aa hc39 (kSkF rfl aa hc39 (kGd rfl aa hc37 (hPt rfl hc39 rfl) (kPt rfl hc37 rfl ?_))))))
      exact⟨true,h7l,atOk⟩
     refine kGd rfl aa hc39 (hMvA rfl) (kGd rfl aa hc39 (hMvA rfl) (kGd rfl aa hc39 (qInt rfl rfl rfl) ?_))
     obtain⟨x40,hx40,h7l⟩:=af h7l
     refine kGd rfl aa hc39 (qIdxS Tryz.underlying9 hx40) ?_
     refine kGd rfl aa hc39 (qInt rfl rfl rfl) (kGd rfl aa hc37 (hPf rfl hc39 rfl) (kPt rfl hc37 rfl ?_))
     exact⟨x40 != 47,h7l,atOk⟩
    refine kSkT rfl aa hc37 (kSkT rfl aa hc37 (kSkT rfl aa hc37 (kSkT rfl aa hc37 (kSkT rfl aa hc37 (kSkU rfl aa (kSkU rfl aa (kSkU rfl aa (kSkU rfl aa (kSkU rfl aa (kSkT rfl aa hc37 (kPf rfl hc37 rfl ?_)))))))))))
    exact⟨false,h7l,atOk⟩
   refine W_r (kMv rfl (kIn rfl rfl rfl (kMv rfl (kUn (ol rfl Tryz.underlying9) ?_))))
   refine kIn rfl rfl rfl (kMv rfl ?_)
   rcases bd h2l with⟨hc16,h2l⟩|⟨hc16,h2l⟩
   ·refine kSkF rfl aa hc16 (kSkF rfl aa hc16 (kPt rfl hc16 rfl (kMv rfl ?_)))
    have hc21:true=true:=rfl
    refine kSkF rfl aa hc21 (kSkF rfl aa hc21 (kSkF rfl aa hc21 (kSkF rfl aa hc21 (kSkF rfl aa hc21 (kSkF rfl aa hc21 (kSkU rfl aa (kSkU rfl aa (kSkU rfl aa (kSkU rfl aa (kSkU rfl aa (kSkF rfl aa hc21 ?_)))))))))))
    refine kPt rfl hc21 rfl ?_
    exact⟨true,h2l,atOk⟩
   refine kGd rfl aa hc16 (hMvA rfl) (kGd rfl aa hc16 (qInt rfl rfl rfl) (kPf rfl hc16 rfl (kMv rfl ?_)))
   rcases bd h2l with⟨hc17,h2l⟩|⟨hc17,h2l⟩
   ·refine kSkF rfl aa hc17 (kSkF rfl aa hc17 (kSkF rfl aa hc17 (kSkF rfl aa hc17 (kSkF rfl aa hc17 (kSkF rfl aa hc17 (kSkU rfl aa (kSkU rfl aa (kSkU rfl aa (kSkU rfl aa (kSkU rfl aa (kSkF rfl aa hc17 ?_)))))))))))
    refine kPt rfl hc17 rfl ?_
    exact⟨true,h2l,atOk⟩
   refine kGd rfl aa hc17 (hMvA rfl) (kGd rfl aa hc17 (hMvA rfl) (kGd rfl aa hc17 (qInt rfl rfl rfl) ?_))
   obtain⟨x18,hx18,h2l⟩:=af h2l
   refine kGd rfl aa hc17 (qIdxS Tryz.underlying9 hx18) ?_
   refine kGd rfl aa hc17 (qInt rfl rfl rfl) (kGd rfl aa hc17 (hMvA rfl) ?_)
   rcases bd h2l with⟨hc19,h2l⟩|⟨hc19,h2l⟩
   ·refine kGd rfl aa hc19 (hMvA rfl) (kGd rfl aa hc19 (hMvA rfl) (kGd rfl aa hc19 (qInt rfl rfl rfl) ?_))
    obtain⟨x20,hx20,h2l⟩:=af h2l
    refine kGd rfl aa hc19 (qIdxS Tryz.underlying9 hx20) ?_
    refine kGd rfl aa hc19 (qInt rfl rfl rfl) (kGd rfl aa hc17 (hPt rfl hc19 rfl) (kPf rfl hc17 rfl ?_))
    exact⟨x20 != 42,h2l,atOk⟩
   refine kSkT rfl aa hc19 (kSkT rfl aa hc19 (kSkT rfl aa hc19 (kSkT rfl aa hc19 (kSkT rfl aa hc19 (kGd rfl aa hc17 (hPf rfl hc19 rfl) (kPf rfl hc17 rfl ?_))))))
   exact⟨false,h2l,atOk⟩
  refine W_r (kMv rfl (kIn rfl rfl rfl (kMv rfl ?_)))
  rcases bd h2l with⟨hc7,h2l⟩|⟨hc7,h2l⟩
  ·refine kSkF rfl aa hc7 (kSkF rfl aa hc7 (kPt rfl hc7 rfl (kMv rfl ?_)))
   have hc11:true=true:=rfl
   refine kSkF rfl aa hc11 (kSkF rfl aa hc11 (kPt rfl hc11 rfl (kMv rfl ?_)))
   have hc13:true=true:=rfl
   refine kSkF rfl aa hc13 (kSkF rfl aa hc13 (kPt rfl hc13 rfl ?_))
   exact⟨true,h2l,atOk⟩
  refine kGd rfl aa hc7 (hMvA rfl) (kGd rfl aa hc7 (qInt rfl rfl rfl) (kPf rfl hc7 rfl (kMv rfl ?_)))
  rcases bd h2l with⟨hc8,h2l⟩|⟨hc8,h2l⟩
  ·refine kSkF rfl aa hc8 (kSkF rfl aa hc8 (kPt rfl hc8 rfl (kMv rfl ?_)))
   have hc10:true=true:=rfl
   refine kSkF rfl aa hc10 (kSkF rfl aa hc10 (kPt rfl hc10 rfl ?_))
   exact⟨true,h2l,atOk⟩
  refine kGd rfl aa hc8 (hMvA rfl) (kGd rfl aa hc8 (qInt rfl rfl rfl) (kPf rfl hc8 rfl (kMv rfl ?_)))
  rcases bd h2l with⟨hc9,h2l⟩|⟨hc9,h2l⟩
  ·refine kSkF rfl aa hc9 (kSkF rfl aa hc9 (kPt rfl hc9 rfl ?_))
   exact⟨true,h2l,atOk⟩
  refine kGd rfl aa hc9 (hMvA rfl) (kGd rfl aa hc9 (qInt rfl rfl rfl) (kPf rfl hc9 rfl ?_))
  exact⟨x6==13,h2l,atOk⟩
 refine ej ?_
 obtain rfl:=ho2 _ (Option.some.inj h2l).symm
 exact⟨x3,h,atOk⟩
theorem ref03_digit_ok (x1:Int) (r:Bool) (h:o6 x1=some r):FnP Tryz.prog 76 [Pr.u8 x1] (Pr.bool r):=by
 refine cm (rs:=[2]) Tryz.func76 rfl Tryz.ntmps76 ⟨by decide,Tryz.results76⟩ (by decide) (fun s0=> ?_)
 unfold o6 at h
 refine W_rs (kAs rfl ?_)
 refine bj (fun e C=>∃(x3:Bool),ref03_digit_j1 x3=some r/\At [(2,Pr.bool x3)] [] e C) ?_ ?_
 ·rintro e C ⟨x3,h,hat1⟩
  refine W_at hat1 ?_
  unfold ref03_digit_j1 at h
  obtain rfl:=osj h
  exact ax ⟨rfl,aa⟩
 refine W_r (kMv rfl (kIn rfl rfl rfl (kMv rfl ?_)))
 rcases bd h with⟨hc2,h⟩|⟨hc2,h⟩
 ·refine kGd rfl aa hc2 (hMvA rfl) (kGd rfl aa hc2 (qInt rfl rfl rfl) (kPt rfl hc2 rfl (kAs rfl ?_)))
  exact⟨decide (x1<=57),h,atOk⟩
 refine kSkT rfl aa hc2 (kSkT rfl aa hc2 (kPf rfl hc2 rfl (kAs rfl ?_)))
 exact⟨false,h,atOk⟩
theorem ref03_great_ok (x1:List UInt8) (r:Bool) (h:ref03_great x1=some r):FnP Tryz.prog 77 [ba x1] (Pr.bool r):=by
 refine cm (rs:=[2]) Tryz.func77 rfl Tryz.ntmps77 ⟨by decide,Tryz.results77⟩ (by decide) (fun s0=> ?_)
 unfold ref03_great at h
 refine W_rs (kAs rfl (az (W_rs (kMv rfl (kUn (ol rfl Tryz.underlying9) ?_)))))
 refine kIn rfl rfl rfl ?_
 refine a7 h rfl (fun _ h=> ?_) (fun _ h=> ?_)
 ·refine W_rs (kAs rfl ?_)
  obtain rfl:=osj h
  exact ax ⟨rfl,aa⟩
 refine ar (W_rs (kAs rfl (az (W_rs (kAs rfl (a4 ?_))))))
 obtain⟨z2l,hz2,h⟩:=af h
 obtain⟨n2,hN2⟩:=bp hz2
 refine d7 0 (fun e C=>∃(x3:Int),ref03_great_k1 x3=some r/\At [(3,Pr.i64 x3)] [] e C) ?_ ?_
 ·rintro e C ⟨x3,h,hat1⟩
  refine W_at hat1 ?_
  unfold ref03_great_k1 at h
  refine W_rs (kMv rfl (kIn rfl rfl rfl (kAs rfl ?_)))
  obtain rfl:=osj h
  exact ax ⟨rfl,aa⟩
 refine ew (fun m e C=>∃(x3:Int),∃(x4:Int),ff (fun s=>og x1 s.1 s.2) m (x3,x4)=some z2l/\At [(0,ba x1),(3,Pr.i64 x3),(4,Pr.i64 x4)] [] e C) n2 ⟨0,0,hN2,⟨⟨aa,aa,aa,trivial⟩,Pick.refl _⟩⟩ ?_
 rintro m e C ⟨x3,x4,hN2,hatl2⟩
 refine W_at hatl2 ?_
 obtain⟨m2,w2l,rfl,h2l,hn2,ho2⟩:=bk hN2
 replace h2l:og x1 x3 x4=some w2l:=h2l
 unfold og at h2l
 refine az (W_rs (kMv rfl (kMv rfl (kUn (ol rfl Tryz.underlying9) ?_))))
 refine kIn rfl rfl rfl ?_
 refine a7 h2l rfl (fun _ h2l=> ?_) (fun _ h2l=> ?_)
 ·refine ar (az (a4 (W_r (kMv rfl (kIn rfl rfl rfl (kMv rfl (kMv rfl ?_)))))))
  obtain⟨x8,hx8,h2l⟩:=af h2l
  refine kUn (qIdxS Tryz.underlying9 hx8) ?_
  refine kIn rfl rfl rfl (kUn (qConv Tryz.underlying5 Tryz.underlying3) ?_)
  refine kIn rfl rfl rfl (kAs rfl (W_r (kMv rfl (kIn rfl rfl rfl (kAs rfl ?_)))))
  exact⟨m2,Nat.lt_succ_self _,w64 ((w64 (10 * x3))+(w64 (IntKind.wrap .u8 (x8 - 48)))),w64 (x4+1),hn2 _ (Option.some.inj h2l).symm,atOk⟩
 refine ej ?_
 obtain rfl:=ho2 _ (Option.some.inj h2l).symm
 exact⟨x3,h,atOk⟩
theorem ref03_letter_ok (x1:Int) (r:Bool) (h:o9 x1=some r):FnP Tryz.prog 78 [Pr.u8 x1] (Pr.bool r):=by
 refine cm (rs:=[2]) Tryz.func78 rfl Tryz.ntmps78 ⟨by decide,Tryz.results78⟩ (by decide) (fun s0=> ?_)
 unfold o9 at h
 refine W_rs (kAs rfl ?_)
 refine bj (fun e C=>∃(x13:Bool),i7 x13=some r/\At [(2,Pr.bool x13)] [] e C) ?_ ?_
 ·rintro e C ⟨x13,h,hat1⟩
  refine W_at hat1 ?_
  unfold i7 at h
  obtain rfl:=osj h
  exact ax ⟨rfl,aa⟩
 refine W_r (kMv rfl (kIn rfl rfl rfl (kMv rfl ?_)))
 rcases bd h with⟨hc2,h⟩|⟨hc2,h⟩
 ·refine kGd rfl aa hc2 (hMvA rfl) (kGd rfl aa hc2 (qInt rfl rfl rfl) (kPt rfl hc2 rfl (kMv rfl ?_)))
  rcases bd h with⟨hc3,h⟩|⟨hc3,h⟩
  ·refine kSkF rfl aa hc3 (kSkF rfl aa hc3 (kSkF rfl aa hc3 (kSkU rfl aa (kSkU rfl aa (kSkF rfl aa hc3 (kPt rfl hc3 rfl (kMv rfl ?_)))))))
   have hc7:true=true:=rfl
   refine kSkF rfl aa hc7 (kSkF rfl aa hc7 (kPt rfl hc7 rfl (kAs rfl ?_)))
   exact⟨true,h,atOk⟩
  refine kGd rfl aa hc3 (hMvA rfl) (kGd rfl aa hc3 (qInt rfl rfl rfl) (kGd rfl aa hc3 (hMvA rfl) ?_))
  rcases bd h with⟨hc4,h⟩|⟨hc4,h⟩
  ·refine kGd rfl aa hc4 (hMvA rfl) (kGd rfl aa hc4 (qInt rfl rfl rfl) (kGd rfl aa hc3 (hPt rfl hc4 rfl) (kPf rfl hc3 rfl (kMv rfl ?_))))
   rcases bd h with⟨hc5,h⟩|⟨hc5,h⟩
   ·refine kSkF rfl aa hc5 (kSkF rfl aa hc5 (kPt rfl hc5 rfl (kAs rfl ?_)))
    exact⟨true,h,atOk⟩
   refine kGd rfl aa hc5 (hMvA rfl) (kGd rfl aa hc5 (qInt rfl rfl rfl) (kPf rfl hc5 rfl (kAs rfl ?_)))
   exact⟨x1==95,h,atOk⟩
  refine kSkT rfl aa hc4 (kSkT rfl aa hc4 (kGd rfl aa hc3 (hPf rfl hc4 rfl) (kPf rfl hc3 rfl (kMv rfl ?_))))
  have hc6:false=false:=rfl
  refine kGd rfl aa hc6 (hMvA rfl) (kGd rfl aa hc6 (qInt rfl rfl rfl) (kPf rfl hc6 rfl (kAs rfl ?_)))
  exact⟨x1==95,h,atOk⟩
 refine kSkT rfl aa hc2 (kSkT rfl aa hc2 (kPf rfl hc2 rfl (kMv rfl ?_)))
 have hc8:false=false:=rfl
 refine kGd rfl aa hc8 (hMvA rfl) (kGd rfl aa hc8 (qInt rfl rfl rfl) (kGd rfl aa hc8 (hMvA rfl) ?_))
 rcases bd h with⟨hc9,h⟩|⟨hc9,h⟩
 ·refine kGd rfl aa hc9 (hMvA rfl) (kGd rfl aa hc9 (qInt rfl rfl rfl) (kGd rfl aa hc8 (hPt rfl hc9 rfl) (kPf rfl hc8 rfl (kMv rfl ?_))))
  rcases bd h with⟨hc10,h⟩|⟨hc10,h⟩
  ·refine kSkF rfl aa hc10 (kSkF rfl aa hc10 (kPt rfl hc10 rfl (kAs rfl ?_)))
   exact⟨true,h,atOk⟩
  refine kGd rfl aa hc10 (hMvA rfl) (kGd rfl aa hc10 (qInt rfl rfl rfl) (kPf rfl hc10 rfl (kAs rfl ?_)))
  exact⟨x1==95,h,atOk⟩
 refine kSkT rfl aa hc9 (kSkT rfl aa hc9 (kGd rfl aa hc8 (hPf rfl hc9 rfl) (kPf rfl hc8 rfl (kMv rfl ?_))))
 have hc11:false=false:=rfl
 refine kGd rfl aa hc11 (hMvA rfl) (kGd rfl aa hc11 (qInt rfl rfl rfl) (kPf rfl hc11 rfl (kAs rfl ?_)))
 exact⟨x1==95,h,atOk⟩
theorem ref03_Kept_ok (x1:List UInt8) (r:Bool) (h:ref03_Kept x1=some r):FnP Tryz.prog 79 [ba x1] (Pr.bool r):=by
 refine cm (rs:=[2]) Tryz.func79 rfl Tryz.ntmps79 ⟨by decide,Tryz.results79⟩ (by decide) (fun s0=> ?_)
 unfold ref03_Kept at h
 refine W_rs (kAs rfl (W_rs (kUn (kw (R:=ct) (ls:=([([99,108,97,115,115]:List UInt8),([101,120,116,101,110,100,115]:List UInt8),([115,116,97,116,105,99]:List UInt8),([118,111,105,100]:List UInt8),([105,110,116]:List UInt8),([98,111,111,108,101,97,110]:List UInt8),([105,102]:List UInt8),([101,108,115,101]:List UInt8),([119,104,105,108,101]:List UInt8),([114,101,116,117,114,110]:List UInt8),([112,114,105,110,116]:List UInt8),([116,114,117,101]:List UInt8),([102,97,108,115,101]:List UInt8),([110,117,108,108]:List UInt8),([116,104,105,115]:List UInt8),([110,101,119]:List UInt8)]:List (List UInt8))) el36 (Nat.le_of_ble_eq_true rfl) ⟨rfl,rfl⟩ ⟨rfl,rfl,rfl,rfl,rfl,rfl,rfl,rfl,rfl,rfl,rfl,rfl,rfl,rfl,rfl,rfl,trivial⟩) ?_)))
 refine kAsL rfl (az (W_rs (kAs rfl (a4 ?_))))
 obtain⟨z2l,hz2,h⟩:=af h
 obtain⟨n2,hN2⟩:=bp hz2
 refine d7 0 (fun e C=>ref03_Kept_k1=some r/\At [] [] e C) ?_ ?_
 ·rintro e C ⟨h,hat1⟩
  refine W_at hat1 ?_
  unfold ref03_Kept_k1 at h
  refine W_rs (kAs rfl ?_)
  obtain rfl:=osj h
  exact ax ⟨rfl,aa⟩
 refine ew (fun m e C=>∃(x2:Int),ff (fun s=>pr x1 s) m x2=some z2l/\At [(0,ba x1),(3,ap ct ([([99,108,97,115,115]:List UInt8),([101,120,116,101,110,100,115]:List UInt8),([115,116,97,116,105,99]:List UInt8),([118,111,105,100]:List UInt8),([105,110,116]:List UInt8),([98,111,111,108,101,97,110]:List UInt8),([105,102]:List UInt8),([101,108,115,101]:List UInt8),([119,104,105,108,101]:List UInt8),([114,101,116,117,114,110]:List UInt8),([112,114,105,110,116]:List UInt8),([116,114,117,101]:List UInt8),([102,97,108,115,101]:List UInt8),([110,117,108,108]:List UInt8),([116,104,105,115]:List UInt8),([110,101,119]:List UInt8)]:List (List UInt8))),(4,Pr.i64 x2)] [] e C) n2 ⟨0,hN2,⟨⟨aa,aa,aa,trivial⟩,Pick.refl _⟩⟩ ?_
 rintro m e C ⟨x2,hN2,hatl2⟩
 refine W_at hatl2 ?_
 obtain⟨m2,w2l,rfl,h2l,hn2,ho2⟩:=bk hN2
 replace h2l:pr x1 x2=some w2l:=h2l
 unfold pr at h2l
 refine az (W_rs (kMv rfl (kMvL rfl (kUn (mt rfl Tryz.underlying36) ?_))))
 refine kIn rfl rfl rfl ?_
 refine a7 h2l rfl (fun _ h2l=> ?_) (fun _ h2l=> ?_)
 ·refine ar (az (a4 (W_rs (kMvL rfl (kMv rfl ?_)))))
  obtain⟨x5,hx5,h2l⟩:=af h2l
  refine kUn (fi Tryz.underlying36 Tryz.sizeOf9 hx5) ?_
  refine kUn (cw ty9) ?_
  refine kMv rfl (kSt rfl rfl rfl ?_)
  refine a7 h2l rfl (fun _ h2l=> ?_) (fun _ h2l=> ?_)
  ·refine W_rs (kAs rfl ?_)
   obtain rfl:=ho2 _ (Option.some.inj h2l).symm
   replace h:some true=some r:=h
   obtain rfl:=osj h
   exact ax ⟨rfl,aa⟩
  refine ar (W_r (kMv rfl (kIn rfl rfl rfl (kAs rfl ?_))))
  exact⟨m2,Nat.lt_succ_self _,w64 (x2+1),hn2 _ (Option.some.inj h2l).symm,atOk⟩
 refine ej ?_
 obtain rfl:=ho2 _ (Option.some.inj h2l).symm
 exact⟨h,atOk⟩
theorem ref03_mark_ok (x1:List UInt8) (x2 r:Int) (h:ref03_mark x1 x2=some r):FnP Tryz.prog 80 [ba x1,Pr.i64 x2] (Pr.i64 r):=by
 refine cm (rs:=[4]) Tryz.func80 rfl Tryz.ntmps80 ⟨by decide,Tryz.results80⟩ (by decide) (fun s0=> ?_)
 unfold ref03_mark at h
 refine W_rs (kAs rfl (W_rs (kUn (kw (R:=ct) (ls:=([([61,61]:List UInt8),([33,61]:List UInt8),([60,61]:List UInt8),([62,61]:List UInt8),([38,38]:List UInt8),([124,124]:List UInt8)]:List (List UInt8))) el36 (Nat.le_of_ble_eq_true rfl) ⟨rfl,rfl⟩ ⟨rfl,rfl,rfl,rfl,rfl,rfl,trivial⟩) ?_)))
 refine kAsL rfl (az (W_rs (kAs rfl (a4 ?_))))
 obtain⟨z5l,hz5,h⟩:=af h
 obtain⟨n5,hN5⟩:=bp hz5
 refine d7 0 (fun e C=>ref03_mark_k4 x1 x2=some r/\At [(0,ba x1),(1,Pr.i64 x2)] [] e C) ?_ ?_
 ·rintro e C ⟨h,hat4⟩
  refine W_at hat4 ?_
  unfold ref03_mark_k4 at h
  refine W_rs (kAs rfl (az (W_rs (kAs rfl (a4 ?_)))))
  obtain⟨z2l,hz2,h⟩:=af h
  obtain⟨n2,hN2⟩:=bp hz2
  refine d7 2 (fun e C=>ref03_mark_k1=some r/\At [] [] e C) ?_ ?_
  ·rintro e C ⟨h,hat1⟩
   refine W_at hat1 ?_
   unfold ref03_mark_k1 at h
   refine W_rs (kAs rfl ?_)
   obtain rfl:=osj h
   exact ax ⟨rfl,aa⟩
  refine ew (fun m e C=>∃(x11:Int),ff (fun s=>nh x1 x2 s) m x11=some z2l/\At [(0,ba x1),(1,Pr.i64 x2),(7,ba ([43,45,42,47,37,60,62,61,33,40,41,123,125,59,44,46]:List UInt8)),(8,Pr.i64 x11)] [] e C) n2 ⟨0,hN2,⟨⟨aa,aa,aa,aa,trivial⟩,Pick.refl _⟩⟩ ?_
  rintro m e C ⟨x11,hN2,hatl2⟩
  refine W_at hatl2 ?_
  obtain⟨m2,w2l,rfl,h2l,hn2,ho2⟩:=bk hN2
  replace h2l:nh x1 x2 x11=some w2l:=h2l
  unfold nh at h2l
  refine az (W_rs (kMv rfl (kMv rfl (kUn (ol rfl Tryz.underlying9) ?_))))
  refine kIn rfl rfl rfl ?_
  refine a7 h2l rfl (fun _ h2l=> ?_) (fun _ h2l=> ?_)
  ·refine ar (az (a4 ?_))
   refine bj (fun e C=>∃(x14:Int),∃(x15:Int),ref03_mark_j3 x11 x14 x15=some w2l/\At [(0,ba x1),(1,Pr.i64 x2),(7,ba ([43,45,42,47,37,60,62,61,33,40,41,123,125,59,44,46]:List UInt8)),(8,Pr.i64 x11),(45,Pr.bool (x14==x15))] [] e C) ?_ ?_
   ·rintro e C ⟨x14,x15,h2l,hat3⟩
    refine W_at hat3 ?_
    unfold ref03_mark_j3 at h2l
    refine a7 h2l rfl (fun _ h2l=> ?_) (fun _ h2l=> ?_)
    ·refine W_rs (kAs rfl ?_)
     obtain rfl:=ho2 _ (Option.some.inj h2l).symm
     replace h:some 1=some r:=h
     obtain rfl:=osj h
     exact ax ⟨rfl,aa⟩
    refine ar (W_r (kMv rfl (kIn rfl rfl rfl (kAs rfl ?_))))
    exact⟨m2,Nat.lt_succ_self _,w64 (x11+1),hn2 _ (Option.some.inj h2l).symm,atOk⟩
   refine ib 7 hmx (by kernel_rfl) (by kernel_rfl) ?_
   refine lUn (hMvA rfl) (lUn (hMvA rfl) ?_)
   obtain⟨x14,hx14,h2l⟩:=af h2l
   refine lUn (qIdxS Tryz.underlying9 hx14) ?_
   refine lUn (hMvA rfl) (lUn (hMvA rfl) ?_)
   obtain⟨x15,hx15,h2l⟩:=af h2l
   refine lUn (qIdxS Tryz.underlying9 hx15) ?_
   refine lUn (qInt rfl rfl rfl) ?_
   exact⟨x14,x15,h2l,atOk⟩
  refine ej ?_
  obtain rfl:=ho2 _ (Option.some.inj h2l).symm
  exact⟨h,atOk⟩
 refine ew (fun m e C=>∃(x3:Int),ff (fun s=>ng x1 x2 s) m x3=some z5l/\At [(0,ba x1),(1,Pr.i64 x2),(5,ap ct ([([61,61]:List UInt8),([33,61]:List UInt8),([60,61]:List UInt8),([62,61]:List UInt8),([38,38]:List UInt8),([124,124]:List UInt8)]:List (List UInt8))),(6,Pr.i64 x3)] [] e C) n5 ⟨0,hN5,⟨⟨aa,aa,aa,aa,trivial⟩,Pick.refl _⟩⟩ ?_
 rintro m e C ⟨x3,hN5,hatl5⟩
 refine W_at hatl5 ?_
 obtain⟨m5,w5l,rfl,h5l,hn5,ho5⟩:=bk hN5
 replace h5l:ng x1 x2 x3=some w5l:=h5l
 unfold ng at h5l
 refine az ?_
 refine bj (fun e C=>∃(x6:Bool),ref03_mark_j7 x1 x2 x3 x6=some w5l/\At [(0,ba x1),(1,Pr.i64 x2),(5,ap ct ([([61,61]:List UInt8),([33,61]:List UInt8),([60,61]:List UInt8),([62,61]:List UInt8),([38,38]:List UInt8),([124,124]:List UInt8)]:List (List UInt8))),(6,Pr.i64 x3),(20,Pr.bool x6)] [] e C) ?_ ?_
 ·rintro e C ⟨x6,h5l,hat7⟩
  refine W_at hat7 ?_
  unfold ref03_mark_j7 at h5l
  refine a7 h5l rfl (fun _ h5l=> ?_) (fun _ h5l=> ?_)
  ·refine ar (az (a4 ?_))
   refine bj (fun e C=>∃(x8:List UInt8),∃(x9:List UInt8),ref03_mark_j6 x3 x8 x9=some w5l/\At [(0,ba x1),(1,Pr.i64 x2),(5,ap ct ([([61,61]:List UInt8),([33,61]:List UInt8),([60,61]:List UInt8),([62,61]:List UInt8),([38,38]:List UInt8),([124,124]:List UInt8)]:List (List UInt8))),(6,Pr.i64 x3),(32,Pr.bool (x8==x9))] [] e C) ?_ ?_
   ·rintro e C ⟨x8,x9,h5l,hat6⟩
    refine W_at hat6 ?_
    unfold ref03_mark_j6 at h5l
    refine a7 h5l rfl (fun _ h5l=> ?_) (fun _ h5l=> ?_)
    ·refine W_rs (kAs rfl ?_)
     obtain rfl:=ho5 _ (Option.some.inj h5l).symm
     replace h:some 2=some r:=h
     obtain rfl:=osj h
     exact ax ⟨rfl,aa⟩
    refine ar (W_r (kMv rfl (kIn rfl rfl rfl (kAs rfl ?_))))
    exact⟨m5,Nat.lt_succ_self _,w64 (x3+1),hn5 _ (Option.some.inj h5l).symm,atOk⟩
   refine ib 10 hmx (by kernel_rfl) (by kernel_rfl) ?_
   refine lUn (hMvA rfl) (lUn (hMvA rfl) (lUn (hMvA rfl) (lUn (qInt rfl rfl rfl) ?_)))
   obtain⟨x8,hx8,h5l⟩:=af h5l
   refine lUn (qSubLH Tryz.underlying9 hx8) ?_
   refine lUn (hMvL rfl) (lUn (hMvA rfl) ?_)
   obtain⟨x9,hx9,h5l⟩:=af h5l
   refine lUn (fi Tryz.underlying36 Tryz.sizeOf9 hx9) ?_
   refine lUn (cw ty9) ?_
   refine lUn (qStr rfl rfl rfl) ?_
   exact⟨x8,x9,h5l,atOk⟩
  refine ej ?_
  obtain rfl:=ho5 _ (Option.some.inj h5l).symm
  exact⟨h,atOk⟩
 refine W_r (kMv rfl (kMvL rfl (kUn (mt rfl Tryz.underlying36) ?_)))
 refine kIn rfl rfl rfl (kMv rfl ?_)
 rcases bd h5l with⟨hc5,h5l⟩|⟨hc5,h5l⟩
 ·refine kGd rfl aa hc5 (hMvA rfl) (kGd rfl aa hc5 (qInt rfl rfl rfl) (kGd rfl aa hc5 (hMvA rfl) (kGd rfl aa hc5 (ol rfl Tryz.underlying9) ?_)))
  refine kGd rfl aa hc5 (qInt rfl rfl rfl) (kPt rfl hc5 rfl ?_)
  exact⟨decide ((w64 (x2+2))<=(x1.length:Int)),h5l,atOk⟩
 refine kSkT rfl aa hc5 (kSkT rfl aa hc5 (kSkT rfl aa hc5 (kSkT rfl aa hc5 (kSkT rfl aa hc5 (kPf rfl hc5 rfl ?_)))))
 exact⟨false,h5l,atOk⟩
theorem ref03_token_ok (x1:List UInt8) (x2:Int) (r:Int × Int × Int) (h:ref03_token x1 x2=some r):FnP Tryz.prog 51 [ba x1,Pr.i64 x2] (ce [Pr.i64 r.1,Pr.i64 r.2.1,Pr.i64 r.2.2]):=by
 refine cm (rs:=[4,5,6]) Tryz.func51 rfl Tryz.ntmps51 ⟨by decide,Tryz.results51⟩ (by decide) (fun s0=> ?_)
 unfold ref03_token at h
 refine W_rs (kAs rfl (kAs rfl (kAs rfl (W_rs (kAs rfl (az (W_rs (kMv rfl (kMv rfl ?_)))))))))
 obtain⟨x3,hx3,h⟩:=af h
 refine kUn (qIdxS Tryz.underlying9 hx3) ?_
 refine cg h (ref03_digit_ok x3) rfl fun x4 _ h=> ?_
 refine a7 h rfl (fun _ h=> ?_) (fun _ h=> ?_)
 ·refine az (a4 ?_)
  obtain⟨z3l,hz3,h⟩:=af h
  obtain⟨n3,hN3⟩:=bp hz3
  refine d7 0 (fun e C=>∃(x6:Int),ref03_token_k2 x1 x2 x6=some r/\At [(0,ba x1),(1,Pr.i64 x2),(7,Pr.i64 x6)] [] e C) ?_ ?_
  ·rintro e C ⟨x6,h,hat2⟩
   refine W_at hat2 ?_
   unfold ref03_token_k2 at h
   refine W_rs (kMv rfl (kMv rfl (kMv rfl (kMv rfl (kIn rfl rfl rfl ?_)))))
   obtain⟨x13,hx13,h⟩:=af h
   refine kUn (qSubLH Tryz.underlying9 hx13) ?_
   refine cg h (ref03_great_ok x13) rfl fun x14 _ h=>kAs rfl (az ?_)
   refine bj (fun e C=>∃(x18:Bool),oe x6 x18=some r/\At [(7,Pr.i64 x6),(47,Pr.bool x18)] [] e C) ?_ ?_
   ·rintro e C ⟨x18,h,hat1⟩
    refine W_at hat1 ?_
    unfold oe at h
    refine a7 h rfl (fun _ h=> ?_) (fun _ h=> ?_)
    ·refine W_rs (kAs rfl (kAs rfl (kAs rfl ?_)))
     obtain rfl:=osj h
     exact ax ⟨rfl,aa⟩
    refine ar (W_rs (kMv rfl (kAs rfl (kAs rfl (kAs rfl ?_)))))
    obtain rfl:=osj h
    exact ax ⟨rfl,aa⟩
   refine W_r (kMv rfl (kMv rfl ?_))
   rcases bd h with⟨hc15,h⟩|⟨hc15,h⟩
   ·refine kSkF rfl aa hc15 (kSkF rfl aa hc15 (kSkF rfl aa hc15 (kSkU rfl aa (kSkU rfl aa (kSkU rfl aa (kSkU rfl aa (kSkF rfl aa hc15 (kPt rfl hc15 rfl ?_))))))))
    exact⟨true,h,atOk⟩
   refine kGd rfl aa hc15 (hMvA rfl) (kGd rfl aa hc15 (qInt rfl rfl rfl) (kGd rfl aa hc15 (hMvA rfl) ?_))
   rcases bd h with⟨hc16,h⟩|⟨hc16,h⟩
   ·refine kGd rfl aa hc16 (hMvA rfl) (kGd rfl aa hc16 (hMvA rfl) ?_)
    obtain⟨x17,hx17,h⟩:=af h
    refine kGd rfl aa hc16 (qIdxS Tryz.underlying9 hx17) ?_
    refine kGd rfl aa hc16 (qInt rfl rfl rfl) (kGd rfl aa hc15 (hPt rfl hc16 rfl) (kPf rfl hc15 rfl ?_))
    exact⟨x17==48,h,atOk⟩
   refine kSkT rfl aa hc16 (kSkT rfl aa hc16 (kSkT rfl aa hc16 (kSkT rfl aa hc16 (kGd rfl aa hc15 (hPf rfl hc16 rfl) (kPf rfl hc15 rfl ?_)))))
   exact⟨false,h,atOk⟩
  refine ew (fun m e C=>∃(x6:Int),ff (fun s=>l7 x2 x1 s) m x6=some z3l/\At [(0,ba x1),(1,Pr.i64 x2),(7,Pr.i64 x6)] [] e C) n3 ⟨0,hN3,⟨⟨aa,aa,aa,trivial⟩,Pick.refl _⟩⟩ ?_
  rintro m e C ⟨x6,hN3,hatl3⟩
  refine W_at hatl3 ?_
  obtain⟨m3,w3l,rfl,h3l,hn3,ho3⟩:=bk hN3
  replace h3l:l7 x2 x1 x6=some w3l:=h3l
  unfold l7 at h3l
  refine az ?_
  refine bj (fun e C=>∃(x11:Bool),qn x6 x11=some w3l/\At [(0,ba x1),(1,Pr.i64 x2),(7,Pr.i64 x6),(27,Pr.bool x11)] [] e C) ?_ ?_
  ·rintro e C ⟨x11,h3l,hat4⟩
   refine W_at hat4 ?_
   unfold qn at h3l
   refine a7 h3l rfl (fun _ h3l=> ?_) (fun _ h3l=> ?_)
   ·refine ar (a4 (W_r (kMv rfl (kIn rfl rfl rfl (kAs rfl ?_)))))
    exact⟨m3,Nat.lt_succ_self _,w64 (x6+1),hn3 _ (Option.some.inj h3l).symm,atOk⟩
   refine ej ?_
   obtain rfl:=ho3 _ (Option.some.inj h3l).symm
   exact⟨x6,h,atOk⟩
  refine W_r (kMv rfl (kMv rfl (kIn rfl rfl rfl (kMv rfl (kUn (ol rfl Tryz.underlying9) ?_)))))
  refine kIn rfl rfl rfl (kMv rfl ?_)
  rcases bd h3l with⟨hc8,h3l⟩|⟨hc8,h3l⟩
  ·refine kGd rfl aa hc8 (hMvA rfl) (kGd rfl aa hc8 (hMvA rfl) (kGd rfl aa hc8 (hMvA rfl) (kGd rfl aa hc8 (qInt rfl rfl rfl) ?_)))
   obtain⟨x9,hx9,h3l⟩:=af h3l
   refine kGd rfl aa hc8 (qIdxS Tryz.underlying9 hx9) ?_
   obtain⟨x10,hx10,h3l⟩:=af h3l
   refine kGd rfl aa hc8 (dl (ref03_digit_ok x9 _ hx10)) ?_
   refine kPt rfl hc8 rfl ?_
   exact⟨x10,h3l,atOk⟩
  refine kSkT rfl aa hc8 (kSkT rfl aa hc8 (kSkT rfl aa hc8 (kSkT rfl aa hc8 (kSkT rfl aa hc8 (kSkT rfl aa hc8 (kPf rfl hc8 rfl ?_))))))
  exact⟨false,h3l,atOk⟩
 refine ar (az (W_rs (kMv rfl (kMv rfl ?_))))
 obtain⟨x20,hx20,h⟩:=af h
 refine kUn (qIdxS Tryz.underlying9 hx20) ?_
 refine cg h (ref03_letter_ok x20) rfl fun x21 _ h=> ?_
 refine a7 h rfl (fun _ h=> ?_) (fun _ h=> ?_)
 ·refine az (a4 ?_)
  obtain⟨z6l,hz6,h⟩:=af h
  obtain⟨n6,hN6⟩:=bp hz6
  refine d7 2 (fun e C=>∃(x23:Int),ref03_token_k5 x1 x2 x23=some r/\At [(0,ba x1),(1,Pr.i64 x2),(7,Pr.i64 x23)] [] e C) ?_ ?_
  ·rintro e C ⟨x23,h,hat5⟩
   refine W_at hat5 ?_
   unfold ref03_token_k5 at h
   refine az (W_rs (kMv rfl (kIn rfl rfl rfl ?_)))
   refine a7 h rfl (fun _ h=> ?_) (fun _ h=> ?_)
   ·refine W_rs (kAs rfl (kAs rfl (kAs rfl ?_)))
    obtain rfl:=osj h
    exact ax ⟨rfl,aa⟩
   refine ar (W_rs (kMv rfl (kMv rfl (kMv rfl (kMv rfl (kIn rfl rfl rfl ?_))))))
   obtain⟨x34,hx34,h⟩:=af h
   refine kUn (qSubLH Tryz.underlying9 hx34) ?_
   refine cg h (ref03_Kept_ok x34) rfl fun x35 _ h=>kAs rfl (az (W_rs (kMv rfl ?_)))
   refine a7 h rfl (fun _ h=> ?_) (fun _ h=> ?_)
   ·refine W_rs (kMv rfl (kAs rfl (kAs rfl (kAs rfl ?_))))
    obtain rfl:=osj h
    exact ax ⟨rfl,aa⟩
   refine ar (W_rs (kMv rfl (kAs rfl (kAs rfl (kAs rfl ?_)))))
   obtain rfl:=osj h
   exact ax ⟨rfl,aa⟩
  refine ew (fun m e C=>∃(x23:Int),ff (fun s=>l6 x2 x1 s) m x23=some z6l/\At [(0,ba x1),(1,Pr.i64 x2),(7,Pr.i64 x23)] [] e C) n6 ⟨0,hN6,⟨⟨aa,aa,aa,trivial⟩,Pick.refl _⟩⟩ ?_
  rintro m e C ⟨x23,hN6,hatl6⟩
  refine W_at hatl6 ?_
  obtain⟨m6,w6l,rfl,h6l,hn6,ho6⟩:=bk hN6
  replace h6l:l6 x2 x1 x23=some w6l:=h6l
  unfold l6 at h6l
  refine az ?_
  refine bj (fun e C=>∃(x31:Bool),od x23 x31=some w6l/\At [(0,ba x1),(1,Pr.i64 x2),(7,Pr.i64 x23),(74,Pr.bool x31)] [] e C) ?_ ?_
  ·rintro e C ⟨x31,h6l,hat7⟩
   refine W_at hat7 ?_
   unfold od at h6l
   refine a7 h6l rfl (fun _ h6l=> ?_) (fun _ h6l=> ?_)
   ·refine ar (a4 (W_r (kMv rfl (kIn rfl rfl rfl (kAs rfl ?_)))))
    exact⟨m6,Nat.lt_succ_self _,w64 (x23+1),hn6 _ (Option.some.inj h6l).symm,atOk⟩
   refine ej ?_
   obtain rfl:=ho6 _ (Option.some.inj h6l).symm
   exact⟨x23,h,atOk⟩
  refine W_r (kMv rfl (kMv rfl (kIn rfl rfl rfl (kMv rfl (kUn (ol rfl Tryz.underlying9) ?_)))))
  refine kIn rfl rfl rfl (kMv rfl ?_)
  rcases bd h6l with⟨hc25,h6l⟩|⟨hc25,h6l⟩
  ·refine kGd rfl aa hc25 (hMvA rfl) (kGd rfl aa hc25 (hMvA rfl) (kGd rfl aa hc25 (hMvA rfl) (kGd rfl aa hc25 (qInt rfl rfl rfl) ?_)))
   obtain⟨x26,hx26,h6l⟩:=af h6l
   refine kGd rfl aa hc25 (qIdxS Tryz.underlying9 hx26) ?_
   obtain⟨x27,hx27,h6l⟩:=af h6l
   refine kGd rfl aa hc25 (dl (ref03_letter_ok x26 _ hx27)) ?_
   refine kGd rfl aa hc25 (hMvA rfl) ?_
   rcases bd h6l with⟨hc28,h6l⟩|⟨hc28,h6l⟩
   ·refine kSkF rfl aa hc28 (kSkF rfl aa hc28 (kSkF rfl aa hc28 (kSkF rfl aa hc28 (kSkF rfl aa hc28 (kSkF rfl aa hc28 (kGd rfl aa hc25 (hPt rfl hc28 rfl) (kPt rfl hc25 rfl ?_)))))))
    exact⟨true,h6l,atOk⟩
   refine kGd rfl aa hc28 (hMvA rfl) (kGd rfl aa hc28 (hMvA rfl) (kGd rfl aa hc28 (hMvA rfl) (kGd rfl aa hc28 (qInt rfl rfl rfl) ?_)))
   obtain⟨x29,hx29,h6l⟩:=af h6l
   refine kGd rfl aa hc28 (qIdxS Tryz.underlying9 hx29) ?_
   obtain⟨x30,hx30,h6l⟩:=af h6l
   refine kGd rfl aa hc28 (dl (ref03_digit_ok x29 _ hx30)) ?_
   refine kGd rfl aa hc25 (hPf rfl hc28 rfl) (kPt rfl hc25 rfl ?_)
   exact⟨x30,h6l,atOk⟩
  refine kSkT rfl aa hc25 (kSkT rfl aa hc25 (kSkT rfl aa hc25 (kSkT rfl aa hc25 (kSkT rfl aa hc25 (kSkT rfl aa hc25 (kSkT rfl aa hc25 (kSkU rfl aa (kSkU rfl aa (kSkU rfl aa (kSkU rfl aa (kSkU rfl aa ?_)))))))))))
  refine kSkU rfl aa (kSkT rfl aa hc25 (kPf rfl hc25 rfl ?_))
  exact⟨false,h6l,atOk⟩
 refine ar (W_rs (kMv rfl (kMv rfl (cg h (ref03_mark_ok x1 x2) rfl fun x37 _ h=>kAs rfl (az (W_rs (kMv rfl (kIn rfl rfl rfl ?_))))))))
 refine a7 h rfl (fun _ h=> ?_) (fun _ h=> ?_)
 ·refine W_rs (kAs rfl (kAs rfl (kAs rfl ?_)))
  obtain rfl:=osj h
  exact ax ⟨rfl,aa⟩
 refine ar (W_rs (kMv rfl (kAs rfl (kAs rfl (kAs rfl ?_)))))
 obtain rfl:=osj h
 exact ax ⟨rfl,aa⟩
theorem ref03_Lex_ok (x1:List UInt8) (r:(List ApiToken) × Int × Int) (h:ref03_Lex x1=some r):FnP Tryz.prog 33 [ba x1] (ce [ap ah r.1,Pr.i64 r.2.1,Pr.i64 r.2.2]):=by
 refine cm (rs:=[2,3,4]) Tryz.func33 rfl Tryz.ntmps33 ⟨by decide,Tryz.results33⟩ (by decide) (fun s0=> ?_)
 unfold ref03_Lex at h
 refine W_rs (kAs rfl (kAs rfl (kAs rfl (az (W_rs (kMv rfl (kUn (ol rfl Tryz.underlying9) ?_)))))))
 refine kIn rfl rfl rfl ?_
 refine a7 h rfl (fun _ h=> ?_) (fun _ h=> ?_)
 ·refine W_rs (kAs rfl (kAs rfl (kAs rfl ?_)))
  obtain rfl:=osj h
  exact ax ⟨rfl,tup_le ⟨cv _,aa,aa,trivial⟩⟩
 refine ar (W_rs (kAs rfl (W_rs (kAs rfl (a4 ?_)))))
 obtain⟨n1,hN1⟩:=bp h
 refine W_nil [5] ah 74 (fun v24=> ?_) ⟨rfl,trivial⟩
 refine ew (fun m e C=>∃(x4:Int),∃(x5:List ApiToken),∃(v3:Value),ff (fun s=>gb x1 s.1 s.2) m (x4,x5)=some r/\At [(0,ba x1),(5,Pr.is v3),(6,Pr.i64 x4)] [Own.vec v3 ah x5 74] e C) n1 ⟨0,[],v24,hN1,⟨⟨aa,aa,aa,trivial⟩,Pick.refl _⟩⟩ ?_
 rintro m e C ⟨x4,x5,v3,hN1,hatl1⟩
 refine W_at hatl1 ?_
 obtain⟨m1,w1l,rfl,h1l,hn1,ho1⟩:=bk hN1
 replace h1l:gb x1 x4 x5=some w1l:=h1l
 unfold gb at h1l
 refine a4 (W_rs (kMv rfl (kMv rfl ?_)))
 obtain⟨⟨x9,x10⟩,hx9,h1l⟩:=af h1l
 refine kUn (dl (ref03_between_ok x1 x4 _ hx9)) ?_
 refine kUn (hMv (out:=ce [Pr.i64 x9,Pr.bool x10]) rfl) (kUn ao ?_)
 refine kUn ao ?_
 refine kAs rfl (kAs rfl (az (W_rs (kMv rfl (kNo rfl ?_)))))
 refine a7 h1l rfl (fun _ h1l=> ?_) (fun _ h1l=> ?_)
 ·refine W_rs (kMv rfl (kAs rfl (kAs rfl (kAs rfl ?_))))
  have h:some ([],x9,32)=some r:=congrArg some (ho1 _ (Option.some.inj h1l).symm)
  obtain rfl:=osj h
  exact ax ⟨rfl,tup_le ⟨cv _,aa,aa,trivial⟩⟩
 refine ar (az (W_rs (kMv rfl (kMv rfl (kUn (ol rfl Tryz.underlying9) ?_)))))
 refine kIn rfl rfl rfl ?_
 refine a7 h1l rfl (fun _ h1l=> ?_) (fun _ h1l=> ?_)
 ·refine W_rs (kMv rfl (kMv rfl (kMv rfl (kMv rfl ?_))))
  obtain⟨x13,hx13,h1l⟩:=af h1l
  refine kUn (qSubL Tryz.underlying9 hx13) ?_
  refine kUn (j8 st74 ⟨(ApiToken.mk 5 [] 0 []),⟨_,rfl,rfl,fun j fd hj hf=>by match j,hj with| 0,h=>exact absurd rfl h| 1,_=>cases hf;rfl| 2,_=>cases hf;rfl| 3,_=>cases hf;rfl|_+4,_=>cases hf⟩,⟨(ApiToken.mk 5 [] x9 []),⟨_,rfl,rfl,fun j fd hj hf=>by match j,hj with| 0,_=>cases hf;rfl| 1,_=>cases hf;rfl| 2,h=>exact absurd rfl h| 3,_=>cases hf;rfl|_+4,_=>cases hf⟩,⟨(ApiToken.mk 5 [] x9 x13),⟨_,rfl,rfl,fun j fd hj hf=>by match j,hj with| 0,_=>cases hf;rfl| 1,_=>cases hf;rfl| 2,_=>cases hf;rfl| 3,h=>exact absurd rfl h|_+4,_=>cases hf⟩,rfl⟩⟩⟩) ?_
  refine kUn (bt (R:=ah) (a:=(ApiToken.mk 5 [] x9 x13)) el70 (Nat.le_of_ble_eq_true rfl)) ?_
  obtain⟨x14,hx14,h1l⟩:=af h1l
  refine fg 0 el70 hx14 (fun v15=> ?_)
  refine kAs rfl (kAs rfl (kAs rfl ?_))
  have h:some (x14,0,0)=some r:=congrArg some (ho1 _ (Option.some.inj h1l).symm)
  refine W_rel 0 [2] ?_ rfl ⟨rfl,trivial⟩
  obtain rfl:=osj h
  exact ax ⟨rfl,aa⟩
 refine ar (W_rs (kMv rfl (kMv rfl ?_)))
 obtain⟨⟨x16,x17,x18⟩,hx16,h1l⟩:=af h1l
 refine kUn (dl (ref03_token_ok x1 x9 _ hx16)) ?_
 refine kUn (hMv (out:=ce [Pr.i64 x16,Pr.i64 x17,Pr.i64 x18]) rfl) (kUn ao ?_)
 refine kUn ao ?_
 refine kUn ao ?_
 refine kAs rfl (kAs rfl (kAs rfl (az (W_rs (kMv rfl (kIn rfl rfl rfl ?_))))))
 refine a7 h1l rfl (fun _ h1l=> ?_) (fun _ h1l=> ?_)
 ·refine W_rs (kMv rfl (kMv rfl (kAs rfl (kAs rfl (kAs rfl ?_)))))
  have h:some ([],x9,x18)=some r:=congrArg some (ho1 _ (Option.some.inj h1l).symm)
  obtain rfl:=osj h
  exact ax ⟨rfl,tup_le ⟨cv _,aa,aa,trivial⟩⟩
 refine ar ?_
 refine bj (fun e C=>∃(x22:List ApiToken),∃(v23:Value),ref03_Lex_j2 x9 x17 x22=some w1l/\At [(0,ba x1),(5,Pr.is v23),(7,Pr.i64 x9),(10,Pr.i64 x17)] [Own.vec v23 ah x22 74] e C) ?_ ?_
 ·rintro e C ⟨x22,v23,h1l,hat2⟩
  refine W_at hat2 ?_
  unfold ref03_Lex_j2 at h1l
  refine W_r (kMv rfl (kMv rfl (kIn rfl rfl rfl (kAs rfl ?_))))
  exact⟨m1,Nat.lt_succ_self _,w64 (x9+x17),x22,v23,hn1 _ (Option.some.inj h1l).symm,atOk⟩
 refine ib 15 hmx (by kernel_rfl) (by kernel_rfl) ?_
 refine lUn (hMvA rfl) (lUn (hMvA rfl) (lUn (hMvA rfl) (lUn (hMvA rfl) (lUn (hMvA rfl) (lUn (hMvA rfl) (lUn (qInt rfl rfl rfl) ?_))))))
 obtain⟨x20,hx20,h1l⟩:=af h1l
 refine lUn (qSubLH Tryz.underlying9 hx20) ?_
 refine lUn (hMvA rfl) (lUn (hMvA rfl) (lUn (hMvA rfl) (lUn (hMvA rfl) ?_)))
 obtain⟨x21,hx21,h1l⟩:=af h1l
 refine lUn (qSubLH Tryz.underlying9 hx21) ?_
 refine lUn (j8 st74 ⟨(ApiToken.mk x16 [] 0 []),⟨_,rfl,rfl,fun j fd hj hf=>by match j,hj with| 0,h=>exact absurd rfl h| 1,_=>cases hf;rfl| 2,_=>cases hf;rfl| 3,_=>cases hf;rfl|_+4,_=>cases hf⟩,⟨(ApiToken.mk x16 x20 0 []),⟨_,rfl,rfl,fun j fd hj hf=>by match j,hj with| 0,_=>cases hf;rfl| 1,h=>exact absurd rfl h| 2,_=>cases hf;rfl| 3,_=>cases hf;rfl|_+4,_=>cases hf⟩,⟨(ApiToken.mk x16 x20 x9 []),⟨_,rfl,rfl,fun j fd hj hf=>by match j,hj with| 0,_=>cases hf;rfl| 1,_=>cases hf;rfl| 2,h=>exact absurd rfl h| 3,_=>cases hf;rfl|_+4,_=>cases hf⟩,⟨(ApiToken.mk x16 x20 x9 x21),⟨_,rfl,rfl,fun j fd hj hf=>by match j,hj with| 0,_=>cases hf;rfl| 1,_=>cases hf;rfl| 2,_=>cases hf;rfl| 3,h=>exact absurd rfl h|_+4,_=>cases hf⟩,rfl⟩⟩⟩⟩) ?_
 refine lUn (bt (R:=ah) (a:=(ApiToken.mk x16 x20 x9 x21)) el70 (Nat.le_of_ble_eq_true rfl)) ?_
 obtain⟨x22,hx22,h1l⟩:=af h1l
 refine fg 0 el70 hx22 (fun v23=> ?_)
 refine kAs rfl ?_
 exact⟨x22,v23,h1l,atOk⟩
end Go.Proofs.YteablckbgpogiaaGreatDoor
