/- The code comes to what these functions say (printed by wip/gen/gen.py). -/
import Derived.Test.YtcndghapmoaidaaGreatDoorZX
import Derived.Test.YtcndghapmoaidaaGreatDoorZP15
import Derived.Test.YtcndghapmoaidaaGreatDoorZT
set_option linter.unusedSimpArgs false
set_option linter.unusedVariables false
set_option linter.unusedSectionVars false
set_option linter.unusedSectionVars false
set_option maxRecDepth 100000
set_option maxHeartbeats 4000000
namespace Go.Proofs.YtcndghapmoaidaaGreatDoor
open Go Go.Cn
attribute [local irreducible] eg ar
theorem law18_TypesMay_ok (x1:List ApiEntity) (x2:List (List UInt8)) (r:Bool) (h:law18_TypesMay x1 x2=some r):FnP Tryz.prog 8 [ar ag x1,ar a7 x2] (Pr.bool r):=by
 refine cz (rs:=[4]) Tryz.func8 rfl Tryz.ntmps8 ⟨by decide,Tryz.results8⟩ (by decide) (fun s0=> ?_)
 unfold law18_TypesMay at h
 refine W_rs (kAs rfl (W_rs (ct h (law18_awake_ok) rfl fun x3 _ h=>kAs rfl (ba (W_rs (kMv rfl (kNo rfl ?_)))))))
 refine a8 h rfl (fun _ h=> ?_) (fun _ h=> ?_)
 ·refine W_rs (kAs rfl ?_)
  obtain rfl:=osj h
  exact bh ⟨rfl,aa⟩
 refine az (ba ?_)
 refine bj (fun e C=>∃(x6:Bool),mo x2 x1 x6=some r/\At [(0,ar ag x1),(1,ar a7 x2),(19,Pr.bool x6)] [] e C) ?_ ?_
 ·rintro e C ⟨x6,h,hat7⟩
  refine W_at hat7 ?_
  unfold mo at h
  refine a8 h rfl (fun _ h=> ?_) (fun _ h=> ?_)
  ·refine W_rs (kAs rfl ?_)
   obtain rfl:=osj h
   exact bh ⟨rfl,aa⟩
  refine az (W_rs (kAs rfl (ba (W_rs (kAs rfl (a5 ?_))))))
  obtain⟨z2l,hz2,h⟩:=aj h
  obtain⟨n2,hN2⟩:=bt hz2
  refine cv 0 (fun e C=>∃(x8:Bool),pp x8=some r/\At [(6,Pr.bool x8)] [] e C) ?_ ?_
  ·rintro e C ⟨x8,h,hat1⟩
   refine W_at hat1 ?_
   unfold pp at h
   refine W_rs (kMv rfl (kAs rfl ?_))
   obtain rfl:=osj h
   exact bh ⟨rfl,aa⟩
  refine da (fun m e C=>∃(x8:Bool),∃(x9:Int),dn (fun s=>em x2 x1 s.1 s.2) m (x8,x9)=some z2l/\At [(0,ar ag x1),(1,ar a7 x2),(6,Pr.bool x8),(7,Pr.i64 x9)] [] e C) n2 ⟨true,1,hN2,⟨⟨aa,aa,aa,aa,trivial⟩,Pick.refl _⟩⟩ ?_
  rintro m e C ⟨x8,x9,hN2,hatl2⟩
  refine W_at hatl2 ?_
  obtain⟨m2,w2l,rfl,h2l,hn2,ho2⟩:=bk hN2
  replace h2l:em x2 x1 x8 x9=some w2l:=h2l
  unfold em at h2l
  refine ba ?_
  refine bj (fun e C=>∃(x13:Bool),i1 x2 x9 x1 x8 x13=some w2l/\At [(0,ar ag x1),(1,ar a7 x2),(6,Pr.bool x8),(7,Pr.i64 x9),(27,Pr.bool x13)] [] e C) ?_ ?_
  ·rintro e C ⟨x13,h2l,hat6⟩
   refine W_at hat6 ?_
   unfold i1 at h2l
   refine a8 h2l rfl (fun _ h2l=> ?_) (fun _ h2l=> ?_)
   ·refine az (ba (a5 (W_rs (kAs rfl (a5 ?_)))))
    obtain⟨z4l,hz4,h2l⟩:=aj h2l
    obtain⟨n4,hN4⟩:=bt hz4
    refine cv 2 (fun e C=>∃(x15:Bool),po x9 x15=some w2l/\At [(0,ar ag x1),(1,ar a7 x2),(6,Pr.bool x15),(7,Pr.i64 x9)] [] e C) ?_ ?_
    ·rintro e C ⟨x15,h2l,hat3⟩
     refine W_at hat3 ?_
     unfold po at h2l
     refine W_r (kMv rfl (kIn rfl rfl rfl (kAs rfl ?_)))
     exact⟨m2,Nat.lt_succ_self _,x15,w64 (x9+1),hn2 _ (Option.some.inj h2l).symm,atOk⟩
    refine da (fun m e C=>∃(x15:Bool),∃(x16:Int),dn (fun s=>el x2 x9 x1 s.1 s.2) m (x15,x16)=some z4l/\At [(0,ar ag x1),(1,ar a7 x2),(6,Pr.bool x15),(7,Pr.i64 x9),(8,Pr.i64 x16)] [] e C) n4 ⟨x8,1,hN4,⟨⟨aa,aa,aa,aa,aa,trivial⟩,Pick.refl _⟩⟩ ?_
    rintro m e C ⟨x15,x16,hN4,hatl4⟩
    refine W_at hatl4 ?_
    obtain⟨m4,w4l,rfl,h4l,hn4,ho4⟩:=bk hN4
    replace h4l:el x2 x9 x1 x15 x16=some w4l:=h4l
    unfold el at h4l
    refine ba ?_
    refine bj (fun e C=>∃(x20:Bool),i3 x15 x2 x9 x16 x1 x20=some w4l/\At [(0,ar ag x1),(1,ar a7 x2),(6,Pr.bool x15),(7,Pr.i64 x9),(8,Pr.i64 x16),(37,Pr.bool x20)] [] e C) ?_ ?_
    ·rintro e C ⟨x20,h4l,hat5⟩
     refine W_at hat5 ?_
     unfold i3 at h4l
     refine a8 h4l rfl (fun _ h4l=> ?_) (fun _ h4l=> ?_)
     ·refine az (ba (a5 ?_))
      refine e7 54 hmx (by kernel_rfl) (by kernel_rfl) ?_
      refine lUn (hMvA rfl) (lUn (hMvA rfl) ?_)
      rcases bg h4l with⟨hc22,h4l⟩|⟨hc22,h4l⟩
      ·refine lGd rfl aa hc22 (hMvL rfl) (lGd rfl aa hc22 (hMvL rfl) (lGd rfl aa hc22 (hMvA rfl) ?_))
       obtain⟨x23,hx23,h4l⟩:=aj h4l
       refine lGd rfl aa hc22 (dh Tryz.underlying22 Tryz.sizeOf9 hx23) ?_
       refine lGd rfl aa hc22 (cl ty9) ?_
       refine lGd rfl aa hc22 (hMvL rfl) (lGd rfl aa hc22 (hMvA rfl) ?_)
       obtain⟨x24,hx24,h4l⟩:=aj h4l
       refine lGd rfl aa hc22 (dh Tryz.underlying22 Tryz.sizeOf9 hx24) ?_
       refine lGd rfl aa hc22 (cl ty9) ?_
       obtain⟨x25,hx25,h4l⟩:=aj h4l
       refine lGd rfl aa hc22 (c5 (o0 x1 x23 x24 _ hx25)) ?_
       refine lGd rfl aa hc22 (hMvL rfl) (lGd rfl aa hc22 (hMvL rfl) (lGd rfl aa hc22 (hMvA rfl) ?_))
       obtain⟨x26,hx26,h4l⟩:=aj h4l
       refine lGd rfl aa hc22 (dh Tryz.underlying22 Tryz.sizeOf9 hx26) ?_
       refine lGd rfl aa hc22 (cl ty9) ?_
       refine lGd rfl aa hc22 (hMvL rfl) (lGd rfl aa hc22 (hMvA rfl) ?_)
       obtain⟨x27,hx27,h4l⟩:=aj h4l
       refine lGd rfl aa hc22 (dh Tryz.underlying22 Tryz.sizeOf9 hx27) ?_
       refine lGd rfl aa hc22 (cl ty9) ?_
       obtain⟨x28,hx28,h4l⟩:=aj h4l
       refine lGd rfl aa hc22 (c5 (ref18_May_ok x1 x26 x27 _ hx28)) ?_
       refine lGd rfl aa hc22 (qBoolEq Tryz.underlying4) ?_
       refine lUn (hPt rfl hc22 rfl) (lUn (hMvA rfl) ?_)
       rcases bg h4l with⟨hc29,h4l⟩|⟨hc29,h4l⟩
       ·refine lGd rfl aa hc29 (hMvL rfl) (lGd rfl aa hc29 (hMvL rfl) ?_)
        obtain⟨x30,hx30,h4l⟩:=aj h4l
        refine lGd rfl aa hc29 (dh Tryz.underlying22 Tryz.sizeOf9 hx30) ?_
        refine lGd rfl aa hc29 (cl ty9) ?_
        refine lGd rfl aa hc29 (hMvL rfl) (lGd rfl aa hc29 (hMvA rfl) ?_)
        obtain⟨x31,hx31,h4l⟩:=aj h4l
        refine lGd rfl aa hc29 (dh Tryz.underlying22 Tryz.sizeOf9 hx31) ?_
        refine lGd rfl aa hc29 (cl ty9) ?_
        refine lGd rfl aa hc29 (hMvL rfl) (lGd rfl aa hc29 (hMvA rfl) ?_)
        obtain⟨x32,hx32,h4l⟩:=aj h4l
        refine lGd rfl aa hc29 (dh Tryz.underlying22 Tryz.sizeOf9 hx32) ?_
        refine lGd rfl aa hc29 (cl ty9) ?_
        obtain⟨x33,hx33,h4l⟩:=aj h4l
        refine lGd rfl aa hc29 (c5 (types_Operator_ok x1 x30 x31 x32 _ hx33)) ?_
        refine lGd rfl aa hc29 (hMvL rfl) (lGd rfl aa hc29 (hMvL rfl) ?_)
        obtain⟨x34,hx34,h4l⟩:=aj h4l
        refine lGd rfl aa hc29 (dh Tryz.underlying22 Tryz.sizeOf9 hx34) ?_
        refine lGd rfl aa hc29 (cl ty9) ?_
        refine lGd rfl aa hc29 (hMvL rfl) (lGd rfl aa hc29 (hMvA rfl) ?_)
        obtain⟨x35,hx35,h4l⟩:=aj h4l
        refine lGd rfl aa hc29 (dh Tryz.underlying22 Tryz.sizeOf9 hx35) ?_
        refine lGd rfl aa hc29 (cl ty9) ?_
        refine lGd rfl aa hc29 (hMvL rfl) (lGd rfl aa hc29 (hMvA rfl) ?_)
        obtain⟨x36,hx36,h4l⟩:=aj h4l
        refine lGd rfl aa hc29 (dh Tryz.underlying22 Tryz.sizeOf9 hx36) ?_
        refine lGd rfl aa hc29 (cl ty9) ?_
        obtain⟨x37,hx37,h4l⟩:=aj h4l
        refine lGd rfl aa hc29 (c5 (ref18_Operator_ok x1 x34 x35 x36 _ hx37)) ?_
        refine lGd rfl aa hc29 (qStr rfl rfl rfl) (lUn (hPt rfl hc29 rfl) (lUn (hAsA rfl) (W_r (kMv rfl (kIn rfl rfl rfl (kAs rfl ?_))))))
        exact⟨m4,Nat.lt_succ_self _,x33==x37,w64 (x16+1),hn4 _ (Option.some.inj h4l).symm,atOk⟩
       refine lSkT rfl aa hc29 (lSkT rfl aa hc29 (lSkT rfl aa hc29 (lSkT rfl aa hc29 (lSkT rfl aa hc29 (lSkT rfl aa hc29 (lSkT rfl aa hc29 (lSkT rfl aa hc29 (lSkT rfl aa hc29 (lSkT rfl aa hc29 (lSkT rfl aa hc29 (lSkT rfl aa hc29 ?_)))))))))))
       refine lSkT rfl aa hc29 (lSkT rfl aa hc29 (lSkT rfl aa hc29 (lSkT rfl aa hc29 (lSkT rfl aa hc29 (lSkT rfl aa hc29 (lSkT rfl aa hc29 (lSkT rfl aa hc29 (lSkT rfl aa hc29 (lSkT rfl aa hc29 (lSkT rfl aa hc29 (lSkT rfl aa hc29 ?_)))))))))))
       refine lSkT rfl aa hc29 (lSkT rfl aa hc29 (lSkT rfl aa hc29 (lUn (hPf rfl hc29 rfl) (lUn (hAsA rfl) (W_r (kMv rfl (kIn rfl rfl rfl (kAs rfl ?_))))))))
       exact⟨m4,Nat.lt_succ_self _,false,w64 (x16+1),hn4 _ (Option.some.inj h4l).symm,atOk⟩
      refine lSkT rfl aa hc22 (lSkT rfl aa hc22 (lSkT rfl aa hc22 (lSkT rfl aa hc22 (lSkT rfl aa hc22 (lSkT rfl aa hc22 (lSkT rfl aa hc22 (lSkT rfl aa hc22 (lSkT rfl aa hc22 (lSkT rfl aa hc22 (lSkT rfl aa hc22 (lSkT rfl aa hc22 ?_)))))))))))
      refine lSkT rfl aa hc22 (lSkT rfl aa hc22 (lSkT rfl aa hc22 (lSkT rfl aa hc22 (lSkT rfl aa hc22 (lSkT rfl aa hc22 (lSkT rfl aa hc22 (lSkT rfl aa hc22 (lSkT rfl aa hc22 (lUn (hPf rfl hc22 rfl) (lUn (hMvA rfl) ?_))))))))))
      have hc38:false=false:=rfl
      refine lSkT rfl aa hc38 (lSkT rfl aa hc38 (lSkT rfl aa hc38 (lSkT rfl aa hc38 (lSkT rfl aa hc38 (lSkT rfl aa hc38 (lSkT rfl aa hc38 (lSkT rfl aa hc38 (lSkT rfl aa hc38 (lSkT rfl aa hc38 (lSkT rfl aa hc38 (lSkT rfl aa hc38 ?_)))))))))))
      refine lSkT rfl aa hc38 (lSkT rfl aa hc38 (lSkT rfl aa hc38 (lSkT rfl aa hc38 (lSkT rfl aa hc38 (lSkT rfl aa hc38 (lSkT rfl aa hc38 (lSkT rfl aa hc38 (lSkT rfl aa hc38 (lSkT rfl aa hc38 (lSkT rfl aa hc38 (lSkT rfl aa hc38 ?_)))))))))))
      refine lSkT rfl aa hc38 (lSkT rfl aa hc38 (lSkT rfl aa hc38 (lUn (hPf rfl hc38 rfl) (lUn (hAsA rfl) (W_r (kMv rfl (kIn rfl rfl rfl (kAs rfl ?_))))))))
      exact⟨m4,Nat.lt_succ_self _,false,w64 (x16+1),hn4 _ (Option.some.inj h4l).symm,atOk⟩
     refine db ?_
     obtain rfl:=ho4 _ (Option.some.inj h4l).symm
     exact⟨x15,h2l,atOk⟩
    refine W_r (kMv rfl (kMvL rfl (kUn (gy rfl Tryz.underlying22) ?_)))
    refine kIn rfl rfl rfl (kMv rfl ?_)
    rcases bg h4l with⟨hc19,h4l⟩|⟨hc19,h4l⟩
    ·refine kGd rfl aa hc19 (hMvA rfl) (kGd rfl aa hc19 (qInt rfl rfl rfl) (kPt rfl hc19 rfl ?_))
     exact⟨decide (x16<9),h4l,atOk⟩
    refine kSkT rfl aa hc19 (kSkT rfl aa hc19 (kPf rfl hc19 rfl ?_))
    exact⟨false,h4l,atOk⟩
   refine db ?_
   obtain rfl:=ho2 _ (Option.some.inj h2l).symm
   exact⟨x8,h,atOk⟩
  refine W_r (kMv rfl (kMvL rfl (kUn (gy rfl Tryz.underlying22) ?_)))
  refine kIn rfl rfl rfl (kMv rfl ?_)
  rcases bg h2l with⟨hc12,h2l⟩|⟨hc12,h2l⟩
  ·refine kGd rfl aa hc12 (hMvA rfl) (kGd rfl aa hc12 (qInt rfl rfl rfl) (kPt rfl hc12 rfl ?_))
   exact⟨decide (x9<9),h2l,atOk⟩
  refine kSkT rfl aa hc12 (kSkT rfl aa hc12 (kPf rfl hc12 rfl ?_))
  exact⟨false,h2l,atOk⟩
 refine W_r (kMvL rfl (kUn (gy rfl Tryz.underlying38) ?_))
 refine kIn rfl rfl rfl (kMv rfl ?_)
 rcases bg h with⟨hc5,h⟩|⟨hc5,h⟩
 ·refine kSkF rfl aa hc5 (kSkF rfl aa hc5 (kSkF rfl aa hc5 (kPt rfl hc5 rfl ?_)))
  exact⟨true,h,atOk⟩
 refine kGd rfl aa hc5 (hMvL rfl) (kGd rfl aa hc5 (gy rfl Tryz.underlying22) ?_)
 refine kGd rfl aa hc5 (qInt rfl rfl rfl) (kPf rfl hc5 rfl ?_)
 exact⟨decide ((x2.length:Int)<3),h,atOk⟩
end Go.Proofs.YtcndghapmoaidaaGreatDoor
