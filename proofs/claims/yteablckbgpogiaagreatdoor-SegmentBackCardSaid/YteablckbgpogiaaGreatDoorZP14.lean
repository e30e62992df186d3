/- The code comes to what these functions say (printed by wip/gen/gen.py). -/
import Derived.Test.YteablckbgpogiaaGreatDoorZX
import Derived.Test.YteablckbgpogiaaGreatDoorZP13
import Derived.Test.YteablckbgpogiaaGreatDoorZT
set_option linter.unusedSimpArgs false
set_option linter.unusedVariables false
set_option linter.unusedSectionVars false
set_option linter.unusedSectionVars false
set_option maxRecDepth 100000
set_option maxHeartbeats 4000000
namespace Go.Proofs.YteablckbgpogiaaGreatDoor
open Go Go.Cn
variable [Known]
attribute [local irreducible] fu au
theorem law28_SegmentBack_ok (x1:List UInt8) (r:Bool) (h:pc x1=some r):FnP Tryz.prog 5 [bj x1] (Pr.bool r):=by
 refine cw (rs:=[2]) Tryz.func5 rfl Tryz.ntmps5 ⟨by decide,Tryz.results5⟩ (by decide) (fun s0=> ?_)
 unfold pc at h
 refine W_rs (kAs rfl (W_rs (cf h (law28_awake_ok) rfl fun x2 _ h=>kAs rfl (a8 (W_rs (kMv rfl (kNo rfl ?_)))))))
 refine a7 h rfl (fun _ h=> ?_) (fun _ h=> ?_)
 ·refine W_rs (kAs rfl ?_)
  obtain rfl:=osj h
  exact az ⟨rfl,aa⟩
 refine aq (a8 (W_rs (kMv rfl (kUn (qk rfl Tryz.underlying9) ?_))))
 refine kIn rfl rfl rfl ?_
 refine a7 h rfl (fun _ h=> ?_) (fun _ h=> ?_)
 ·refine W_rs (kAs rfl ?_)
  obtain rfl:=osj h
  exact az ⟨rfl,aa⟩
 refine aq (W_rs (kMv rfl ?_))
 obtain⟨⟨x5,x6⟩,hx5,h⟩:=af h
 refine jk [] (segment_Split_ok x1 _ hx5) (fun q C' hq=> ?_)
 obtain⟨v7,rfl,rfl⟩:=hq
 refine kUn (hMv (out:=cg [Pr.is v7,(aj).val x6]) rfl) (kUn ap ?_)
 refine kUn ap ?_
 refine a4 al28 fun b8=>kAs rfl (ak 1 rfl rfl (Upd.refl _) rfl Tryz.sizeOf28 (W_rs (kMv rfl ?_)))
 obtain⟨⟨x9,x10⟩,hx9,h⟩:=af h
 refine kUn (dv (ref12_File_ok x1 _ hx9)) ?_
 refine kUn (hMv (out:=cg [au rApiNode x9,(aj).val x10]) rfl) (kUn ap ?_)
 refine kUn ap ?_
 refine a4 al28 fun b11=>kAsL rfl (ak 2 rfl rfl (Upd.refl _) rfl Tryz.sizeOf28 (a8 (W_rs (kUn (aw fld28_0) ?_))))
 refine kUn (bb 1 ty26 i2) ?_
 refine kIn rfl rfl rfl ?_
 refine a7 h rfl (fun _ h=> ?_) (fun _ h=> ?_)
 ·refine bk (fun e C=>∃(x14:Bool),lz x14=some r/\At [(2,Pr.bool x14)] [Own.box b8 aj x6,Own.box b11 aj x10] e C) ?_ ?_
  ·rintro e C ⟨x14,h,hat1⟩
   refine W_at hat1 ?_
   unfold lz at h
   obtain rfl:=osj h
   exact az ⟨rfl,aa⟩
  refine W_r (kUn (bb 1 ty28 (Sub.refl _)) ?_)
  refine kUn (bb 2 ty28 (Sub.refl _)) ?_
  refine kUn (qStEq (a:=x6) (b:=x10) eqApiMistake (by decide) rfl eqgApiMistake) ?_
  refine kMv rfl ?_
  rcases bz h with⟨hc13,h⟩|⟨hc13,h⟩
  ·refine kGd rfl aa hc13 (hMvA rfl) (kGd rfl aa hc13 (qLenV 0 rfl Tryz.underlying22) ?_)
   refine kGd rfl aa hc13 (qInt rfl rfl rfl) (kPt rfl hc13 rfl (kAs rfl ?_))
   exact⟨(x5.length:Int)==0,h,⟨⟨aa,trivial⟩,Pick.of [1,2] rfl⟩⟩
  refine kSkT rfl aa hc13 (kSkT rfl aa hc13 (kSkT rfl aa hc13 (kPf rfl hc13 rfl (kAs rfl ?_))))
  exact⟨false,h,⟨⟨aa,trivial⟩,Pick.of [1,2] rfl⟩⟩
 refine aq (W_rs (kAs rfl (a8 (W_rs (kAs rfl (ba ?_))))))
 obtain⟨z4l,hz4,h⟩:=af h
 obtain⟨n4,hN4⟩:=bx hz4
 refine fb 0 (fun e C=>∃(x15:Int),lw x10 x5 x1 x15=some r/\At [(0,bj x1),(4,Pr.is v7),(7,ai b11 0),(8,Pr.i64 x15)] [Own.vec v7 co x5 25,Own.box b8 aj x6,Own.box b11 aj x10] e C) ?_ ?_
 ·rintro e C ⟨x15,h,hat3⟩
  refine W_at hat3 ?_
  unfold lw at h
  refine bk (fun e C=>∃(x33:Bool),gm x33=some r/\At [(2,Pr.bool x33)] [Own.box b8 aj x6,Own.box b11 aj x10] e C) ?_ ?_
  ·rintro e C ⟨x33,h,hat2⟩
   refine W_at hat2 ?_
   unfold gm at h
   obtain rfl:=osj h
   exact az ⟨rfl,aa⟩
  refine W_r (kUn (aw fld28_0) ?_)
  refine kUn (bb 2 ty26 i2) ?_
  refine kIn rfl rfl rfl (kMv rfl ?_)
  rcases bz h with⟨hc21,h⟩|⟨hc21,h⟩
  ·refine kGd rfl aa hc21 (hMvA rfl) ?_
   obtain⟨x22,hx22,h⟩:=af h
   refine kGd rfl aa hc21 (qCallB 0 (segment_Join_ok x5 _ hx22) ⟨.inr ⟨aa,rfl⟩,trivial⟩ (fun _ _ _ h=>h)) ?_
   refine kGd rfl aa hc21 (hMvA rfl) (kGd rfl aa hc21 (qStr rfl rfl rfl) (kPt rfl hc21 rfl (kMv rfl ?_)))
   rcases bz h with⟨hc23,h⟩|⟨hc23,h⟩
   ·refine kGd rfl aa hc23 (hMvA rfl) (kGd rfl aa hc23 (qLenV 0 rfl Tryz.underlying22) ?_)
    refine kGd rfl aa hc23 (hMvA rfl) (kGd rfl aa hc23 (qInt rfl rfl rfl) (kPt rfl hc23 rfl (kMv rfl ?_)))
    rcases bz h with⟨hc24,h⟩|⟨hc24,h⟩
    ·refine kGd rfl aa hc24 (hMvA rfl) (kGd rfl aa hc24 (hMvA rfl) (kGd rfl aa hc24 (qLenV 0 rfl Tryz.underlying22) ?_))
     refine kGd rfl aa hc24 (qInt rfl rfl rfl) ?_
     obtain⟨x25,hx25,h⟩:=af h
     refine kGd rfl aa hc24 (qIdxV 0 (R:=co) (l:=x5) Tryz.underlying22 Tryz.sizeOf25 hx25) ?_
     refine kGd rfl aa hc24 (qFieldV fld25_0) ?_
     refine kGd rfl aa hc24 (qLoadV (R:=co) (R':=cq) (l:=x5) (a:=x25) (o:=0) 0 ty9 kg (Nat.le_of_ble_eq_true rfl) hx25 rfl) ?_
     refine kGd rfl aa hc24 (qStr rfl rfl rfl) (kPt rfl hc24 rfl (kAs rfl ?_))
     exact⟨x25.Key==([36]:List UInt8),h,⟨⟨aa,trivial⟩,Pick.of [1,2] rfl⟩⟩
    refine kSkT rfl aa hc24 (kSkT rfl aa hc24 (kSkT rfl aa hc24 (kSkT rfl aa hc24 (kSkT rfl aa hc24 (kSkT rfl aa hc24 (kSkT rfl aa hc24 (kSkT rfl aa hc24 (kPf rfl hc24 rfl (kAs rfl ?_)))))))))
    exact⟨false,h,⟨⟨aa,trivial⟩,Pick.of [1,2] rfl⟩⟩
   refine kSkT rfl aa hc23 (kSkT rfl aa hc23 (kSkT rfl aa hc23 (kSkT rfl aa hc23 (kPf rfl hc23 rfl (kMv rfl ?_)))))
   have hc26:false=false:=rfl
   refine kSkT rfl aa hc26 (kSkT rfl aa hc26 (kSkT rfl aa hc26 (kSkT rfl aa hc26 (kSkT rfl aa hc26 (kSkT rfl aa hc26 (kSkT rfl aa hc26 (kSkT rfl aa hc26 (kPf rfl hc26 rfl (kAs rfl ?_)))))))))
   exact⟨false,h,⟨⟨aa,trivial⟩,Pick.of [1,2] rfl⟩⟩
  refine kSkT rfl aa hc21 (kSkT rfl aa hc21 (kSkT rfl aa hc21 (kSkT rfl aa hc21 (kPf rfl hc21 rfl (kMv rfl ?_)))))
  have hc28:false=false:=rfl
  refine kSkT rfl aa hc28 (kSkT rfl aa hc28 (kSkT rfl aa hc28 (kSkT rfl aa hc28 (kPf rfl hc28 rfl (kMv rfl ?_)))))
  have hc31:false=false:=rfl
  refine kSkT rfl aa hc31 (kSkT rfl aa hc31 (kSkT rfl aa hc31 (kSkT rfl aa hc31 (kSkT rfl aa hc31 (kSkT rfl aa hc31 (kSkT rfl aa hc31 (kSkT rfl aa hc31 (kPf rfl hc31 rfl (kAs rfl ?_)))))))))
  exact⟨false,h,⟨⟨aa,trivial⟩,Pick.of [1,2] rfl⟩⟩
 refine f1 (fun m e C=>∃(x15:Int),∃(x16:Int),fw (fun s=>gl x9 s.1 s.2) m (x15,x16)=some z4l/\At [(0,bj x1),(4,Pr.is v7),(6,au rApiNode x9),(7,ai b11 0),(8,Pr.i64 x15),(9,Pr.i64 x16)] [Own.vec v7 co x5 25,Own.box b8 aj x6,Own.box b11 aj x10] e C) n4 ⟨1,0,hN4,⟨⟨aa,aa,aa,aa,aa,aa,trivial⟩,Pick.refl _⟩⟩ ?_
 rintro m e C ⟨x15,x16,hN4,hatl4⟩
 refine W_at hatl4 ?_
 obtain⟨m4,w4l,rfl,h4l,hn4,ho4⟩:=bp hN4
 replace h4l:gl x9 x15 x16=some w4l:=h4l
 unfold gl at h4l
 refine a8 (W_rs (kMv rfl (kMvL rfl (kUn (qLenL rfl Tryz.underlying44) ?_))))
 refine kIn rfl rfl rfl ?_
 refine a7 h4l rfl (fun _ h4l=> ?_) (fun _ h4l=> ?_)
 ·refine aq (a8 (ba (W_r (kMv rfl (kMvL rfl (kMv rfl ?_))))))
  obtain⟨x20,hx20,h4l⟩:=af h4l
  refine kUn (ja Tryz.underlying44 Tryz.sizeOf48 hx20) ?_
  refine kUn (ei fld48_8 om) ?_
  refine kUn (dy ty44) ?_
  refine kUn (qLenL rfl Tryz.underlying44) ?_
  refine kIn rfl rfl rfl (kIn rfl rfl rfl (kAs rfl (W_r (kMv rfl (kIn rfl rfl rfl (kAs rfl ?_))))))
  exact⟨m4,Nat.lt_succ_self _,w64 (x15+(w64 (2+(x20.Kids.length:Int)))),w64 (x16+1),hn4 _ (Option.some.inj h4l).symm,atOk⟩
 refine fg ?_
 obtain rfl:=ho4 _ (Option.some.inj h4l).symm
 exact⟨x15,h,atOk⟩
end Go.Proofs.YteablckbgpogiaaGreatDoor
