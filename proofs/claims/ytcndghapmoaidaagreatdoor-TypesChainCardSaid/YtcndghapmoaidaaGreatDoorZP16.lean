/- The code comes to what these functions say (printed by wip/gen/gen.py). -/
import Derived.Test.YtcndghapmoaidaaGreatDoorZX
import Derived.Test.YtcndghapmoaidaaGreatDoorZP15
import Derived.Test.YtcndghapmoaidaaGreatDoorZT
set_option linter.unusedSimpArgs false
set_option linter.unusedVariables false
set_option linter.unusedSectionVars false
set_option linter.unusedSectionVars false
set_option maxRecDepth 100000
set_option maxHeartbeats 4000000
namespace Go.Proofs.YtcndghapmoaidaaGreatDoor
open Go Go.Cn
attribute [local irreducible] ec aq
theorem law18_TypesChain_ok (x1 x2:List (List UInt8)) (r:Bool) (h:pa x1 x2=some r):FnP Tryz.prog 9 [aq a6 x1,aq a6 x2] (Pr.bool r):=by
 refine cu (rs:=[4]) Tryz.func9 rfl Tryz.ntmps9 ⟨by decide,Tryz.results9⟩ (by decide) (fun s0=> ?_)
 unfold pa at h
 refine W_rs (kAs rfl (W_rs (cm h (law18_awake_ok) rfl fun x3 _ h=>kAs rfl (a8 (W_rs (kMv rfl (kNo rfl ?_)))))))
 refine a5 h rfl (fun _ h=> ?_) (fun _ h=> ?_)
 ·refine W_rs (kAs rfl ?_)
  obtain rfl:=osj h
  exact bc ⟨rfl,aa⟩
 refine ax (W_rs (kMvL rfl ?_))
 obtain⟨⟨x5,x6⟩,hx5,h⟩:=ah h
 refine kUn (ct (law18_parsed_ok x1 _ hx5)) ?_
 refine kUn (hMv (out:=bk [aq (ba ab) x5,Pr.bool x6]) rfl) (kUn au ?_)
 refine kUn au ?_
 refine kAsL rfl (kAs rfl (a8 ?_))
 refine bh (fun e C=>∃(x8:Bool),kr x5 x2 x8=some r/\At [(1,aq a6 x2),(6,aq (ba ab) x5),(28,Pr.bool x8)] [] e C) ?_ ?_
 ·rintro e C ⟨x8,h,hat7⟩
  refine W_at hat7 ?_
  unfold kr at h
  refine a5 h rfl (fun _ h=> ?_) (fun _ h=> ?_)
  ·refine W_rs (kAs rfl ?_)
   obtain rfl:=osj h
   exact bc ⟨rfl,aa⟩
  refine ax (W_rs (kMvL rfl ?_))
  obtain⟨⟨x10,x11⟩,hx10,h⟩:=ah h
  refine kUn (ct (ref15_Table_ok x5 _ hx10)) ?_
  refine kUn (hMv (out:=bk [aq af x10,(ak).val x11]) rfl) (kUn au ?_)
  refine kUn au ?_
  refine bq al30 fun b12=>kAsL rfl (av 0 rfl rfl (Upd.refl _) rfl Tryz.sizeOf30 (a8 ?_))
  refine bh (fun e C=>∃(x14:Bool),ku x2 x10 x14=some r/\At [(1,aq a6 x2),(8,aq af x10),(41,Pr.bool x14)] [Own.box b12 ak x11] e C) ?_ ?_
  ·rintro e C ⟨x14,h,hat6⟩
   refine W_at hat6 ?_
   unfold ku at h
   refine a5 h rfl (fun _ h=> ?_) (fun _ h=> ?_)
   ·refine W_rs (kAs rfl ?_)
    obtain rfl:=osj h
    exact bc ⟨rfl,aa⟩
   refine ax (W_rs (kMvL rfl ?_))
   obtain⟨x16,hx16,h⟩:=ah h
   refine kUn (dg Tryz.underlying22 Tryz.sizeOf9 hx16) ?_
   refine kUn (cf ty9) ?_
   refine kAs rfl (W_rs (kMvL rfl ?_))
   obtain⟨x17,hx17,h⟩:=ah h
   refine kUn (dg Tryz.underlying22 Tryz.sizeOf9 hx17) ?_
   refine kUn (cf ty9) ?_
   refine kAs rfl (W_rs (kMvL rfl ?_))
   obtain⟨x18,hx18,h⟩:=ah h
   refine kUn (dg Tryz.underlying22 Tryz.sizeOf9 hx18) ?_
   refine kUn (cf ty9) ?_
   refine kAs rfl (a8 ?_)
   refine bh (fun e C=>∃(x26:Bool),i8 x10 x26=some r/\At [(8,aq af x10),(67,Pr.bool x26)] [Own.box b12 ak x11] e C) ?_ ?_
   ·rintro e C ⟨x26,h,hat5⟩
    refine W_at hat5 ?_
    unfold i8 at h
    refine a5 h rfl (fun _ h=> ?_) (fun _ h=> ?_)
    ·refine W_rs (kAs rfl ?_)
     obtain rfl:=osj h
     exact bc ⟨rfl,aa⟩
    refine ax (a8 (W_rs (kAs rfl (az ?_))))
    obtain⟨z3l,hz3,h⟩:=ah h
    obtain⟨n3,hN3⟩:=bp hz3
    refine cq 0 (fun e C=>kq x10=some r/\At [(8,aq af x10)] [Own.box b12 ak x11] e C) ?_ ?_
    ·rintro e C ⟨h,hat2⟩
     refine W_at hat2 ?_
     unfold kq at h
     refine bh (fun e C=>∃(x74:Bool),gv x74=some r/\At [(4,Pr.bool x74)] [Own.box b12 ak x11] e C) ?_ ?_
     ·rintro e C ⟨x74,h,hat1⟩
      refine W_at hat1 ?_
      unfold gv at h
      obtain rfl:=osj h
      exact bc ⟨rfl,aa⟩
     refine W_r (kMvL rfl (cm h (fm x10 ([105,110,116]:List UInt8) ([105,110,116]:List UInt8)) rfl fun x59 _ h=>kMv rfl ?_))
     rcases bo h with⟨hc60,h⟩|⟨hc60,h⟩
     ·refine kGd rfl aa hc60 (hMvL rfl) ?_
      obtain⟨x61,hx61,h⟩:=ah h
      refine kGd rfl aa hc60 (ct (fm x10 ([118,111,105,100]:List UInt8) ([118,111,105,100]:List UInt8) _ hx61)) ?_
      refine kGd rfl aa hc60 (qNot rfl) (kPt rfl hc60 rfl (kMv rfl ?_))
      rcases bo h with⟨hc62,h⟩|⟨hc62,h⟩
      ·refine kGd rfl aa hc62 (hMvL rfl) ?_
       obtain⟨x63,hx63,h⟩:=ah h
       refine kGd rfl aa hc62 (ct (fm x10 ([110,117,108,108]:List UInt8) ([110,117,108,108]:List UInt8) _ hx63)) ?_
       refine kGd rfl aa hc62 (qNot rfl) (kPt rfl hc62 rfl (kMv rfl ?_))
       rcases bo h with⟨hc64,h⟩|⟨hc64,h⟩
       ·refine kGd rfl aa hc64 (hMvL rfl) ?_
        obtain⟨x65,hx65,h⟩:=ah h
        refine kGd rfl aa hc64 (ct (types_Operator_ok x10 ([61,61]:List UInt8) ([110,117,108,108]:List UInt8) ([110,117,108,108]:List UInt8) _ hx65)) ?_
        refine kGd rfl aa hc64 (qStr rfl rfl rfl) (kPt rfl hc64 rfl (kAs rfl ?_))
        exact⟨x65==([98,111,111,108,101,97,110]:List UInt8),h,atOk⟩
       refine kSkT rfl aa hc64 (kSkT rfl aa hc64 (kSkT rfl aa hc64 (kPf rfl hc64 rfl (kAs rfl ?_))))
       exact⟨false,h,atOk⟩
      refine kSkT rfl aa hc62 (kSkT rfl aa hc62 (kSkT rfl aa hc62 (kPf rfl hc62 rfl (kMv rfl ?_))))
      have hc66:false=false:=rfl
      refine kSkT rfl aa hc66 (kSkT rfl aa hc66 (kSkT rfl aa hc66 (kPf rfl hc66 rfl (kAs rfl ?_))))
      exact⟨false,h,atOk⟩
     refine kSkT rfl aa hc60 (kSkT rfl aa hc60 (kSkT rfl aa hc60 (kPf rfl hc60 rfl (kMv rfl ?_))))
     have hc68:false=false:=rfl
     refine kSkT rfl aa hc68 (kSkT rfl aa hc68 (kSkT rfl aa hc68 (kPf rfl hc68 rfl (kMv rfl ?_))))
     have hc72:false=false:=rfl
     refine kSkT rfl aa hc72 (kSkT rfl aa hc72 (kSkT rfl aa hc72 (kPf rfl hc72 rfl (kAs rfl ?_))))
     exact⟨false,h,atOk⟩
    refine c8 (fun m e C=>∃(x28:Int),dj (fun s=>el x10 s) m x28=some z3l/\At [(8,aq af x10),(13,Pr.i64 x28)] [Own.box b12 ak x11] e C) n3 ⟨0,hN3,⟨⟨aa,aa,trivial⟩,Pick.refl _⟩⟩ ?_
    rintro m e C ⟨x28,hN3,hatl3⟩
    refine W_at hatl3 ?_
    obtain⟨m3,w3l,rfl,h3l,hn3,ho3⟩:=bj hN3
    replace h3l:el x10 x28=some w3l:=h3l
    unfold el at h3l
    refine a8 (W_rs (kMv rfl (kMvL rfl (kUn (iz rfl Tryz.underlying38) ?_))))
    refine kIn rfl rfl rfl ?_
    refine a5 h3l rfl (fun _ h3l=> ?_) (fun _ h3l=> ?_)
    ·refine ax (a8 (az ?_))
     refine bh (fun e C=>∃(x57:Bool),f0 x28 x57=some w3l/\At [(8,aq af x10),(13,Pr.i64 x28),(122,Pr.bool x57)] [Own.box b12 ak x11] e C) ?_ ?_
     ·rintro e C ⟨x57,h3l,hat4⟩
      refine W_at hat4 ?_
      unfold f0 at h3l
      refine a5 h3l rfl (fun _ h3l=> ?_) (fun _ h3l=> ?_)
      ·refine W_rs (kAs rfl ?_)
       obtain rfl:=ho3 _ (Option.some.inj h3l).symm
       replace h:some false=some r:=h
       obtain rfl:=osj h
       exact bc ⟨rfl,aa⟩
      refine ax (W_r (kMv rfl (kIn rfl rfl rfl (kAs rfl ?_))))
      exact⟨m3,Nat.lt_succ_self _,w64 (x28+1),hn3 _ (Option.some.inj h3l).symm,atOk⟩
     refine eo 49 hmx (by kernel_rfl) (by kernel_rfl) ?_
     refine lUn (hMvL rfl) (lUn (hMvA rfl) ?_)
     obtain⟨x31,hx31,h3l⟩:=ah h3l
     refine lUn (dg Tryz.underlying38 Tryz.sizeOf49 hx31) ?_
     refine lUn (d5 pr da) ?_
     refine lUn (cf ty3) ?_
     refine lUn (qInt rfl rfl rfl) (lUn (hMvA rfl) ?_)
     rcases bo h3l with⟨hc32,h3l⟩|⟨hc32,h3l⟩
     ·refine lGd rfl aa hc32 (hMvL rfl) (lGd rfl aa hc32 (hMvL rfl) (lGd rfl aa hc32 (hMvA rfl) ?_))
      obtain⟨x33,hx33,h3l⟩:=ah h3l
      refine lGd rfl aa hc32 (dg Tryz.underlying38 Tryz.sizeOf49 hx33) ?_
      refine lGd rfl aa hc32 (d5 j7 dh) ?_
      refine lGd rfl aa hc32 (cf ty9) ?_
      refine lGd rfl aa hc32 (hMvL rfl) (lGd rfl aa hc32 (hMvA rfl) ?_)
      obtain⟨x34,hx34,h3l⟩:=ah h3l
      refine lGd rfl aa hc32 (dg Tryz.underlying38 Tryz.sizeOf49 hx34) ?_
      refine lGd rfl aa hc32 (d5 j7 dh) ?_
      refine lGd rfl aa hc32 (cf ty9) ?_
      obtain⟨x35,hx35,h3l⟩:=ah h3l
      refine lGd rfl aa hc32 (ct (fm x10 x33.Id x34.Id _ hx35)) ?_
      refine lGd rfl aa hc32 (qNot rfl) (lGd rfl aa hc32 (hMvA rfl) ?_)
      rcases bo h3l with⟨hc36,h3l⟩|⟨hc36,h3l⟩
      ·refine lSkF rfl aa hc36 (lSkF rfl aa hc36 (lSkF rfl aa hc36 (lSkF rfl aa hc36 (lSkF rfl aa hc36 (lSkF rfl aa hc36 (lSkF rfl aa hc36 (lSkF rfl aa hc36 (lGd rfl aa hc32 (hPt rfl hc36 rfl) (lGd rfl aa hc32 (hMvA rfl) ?_)))))))))
       have hc48:true=true:=rfl
       refine lSkF rfl aa hc48 (lSkF rfl aa hc48 (lSkF rfl aa hc48 (lSkF rfl aa hc48 (lSkF rfl aa hc48 (lSkF rfl aa hc48 (lSkF rfl aa hc48 (lGd rfl aa hc32 (hPt rfl hc48 rfl) (lGd rfl aa hc32 (hMvA rfl) ?_))))))))
       have hc54:true=true:=rfl
       refine lSkF rfl aa hc54 (lSkF rfl aa hc54 (lSkF rfl aa hc54 (lSkF rfl aa hc54 (lSkF rfl aa hc54 (lSkF rfl aa hc54 (lSkF rfl aa hc54 (lGd rfl aa hc32 (hPt rfl hc54 rfl) (lUn (hPt rfl hc32 rfl) ?_))))))))
       exact⟨true,h3l,atOk⟩
      refine lGd rfl aa hc36 (hMvL rfl) (lGd rfl aa hc36 (hMvL rfl) (lGd rfl aa hc36 (hMvA rfl) ?_))
      obtain⟨x37,hx37,h3l⟩:=ah h3l
      refine lGd rfl aa hc36 (dg Tryz.underlying38 Tryz.sizeOf49 hx37) ?_
      refine lGd rfl aa hc36 (d5 j7 dh) ?_
      refine lGd rfl aa hc36 (cf ty9) ?_
      obtain⟨x38,hx38,h3l⟩:=ah h3l
      refine lGd rfl aa hc36 (ct (fm x10 ([110,117,108,108]:List UInt8) x37.Id _ hx38)) ?_
      refine lGd rfl aa hc36 (qNot rfl) (lGd rfl aa hc32 (hPf rfl hc36 rfl) (lGd rfl aa hc32 (hMvA rfl) ?_))
      rcases bo h3l with⟨hc39,h3l⟩|⟨hc39,h3l⟩
      ·refine lSkF rfl aa hc39 (lSkF rfl aa hc39 (lSkF rfl aa hc39 (lSkF rfl aa hc39 (lSkF rfl aa hc39 (lSkF rfl aa hc39 (lSkF rfl aa hc39 (lGd rfl aa hc32 (hPt rfl hc39 rfl) (lGd rfl aa hc32 (hMvA rfl) ?_))))))))
       have hc45:true=true:=rfl
       refine lSkF rfl aa hc45 (lSkF rfl aa hc45 (lSkF rfl aa hc45 (lSkF rfl aa hc45 (lSkF rfl aa hc45 (lSkF rfl aa hc45 (lSkF rfl aa hc45 (lGd rfl aa hc32 (hPt rfl hc45 rfl) (lUn (hPt rfl hc32 rfl) ?_))))))))
       exact⟨true,h3l,atOk⟩
      refine lGd rfl aa hc39 (hMvL rfl) (lGd rfl aa hc39 (hMvL rfl) (lGd rfl aa hc39 (hMvA rfl) ?_))
      obtain⟨x40,hx40,h3l⟩:=ah h3l
      refine lGd rfl aa hc39 (dg Tryz.underlying38 Tryz.sizeOf49 hx40) ?_
      refine lGd rfl aa hc39 (d5 j7 dh) ?_
      refine lGd rfl aa hc39 (cf ty9) ?_
      obtain⟨x41,hx41,h3l⟩:=ah h3l
      refine lGd rfl aa hc39 (ct (fm x10 ([105,110,116]:List UInt8) x40.Id _ hx41)) ?_
      refine lGd rfl aa hc32 (hPf rfl hc39 rfl) (lGd rfl aa hc32 (hMvA rfl) ?_)
      rcases bo h3l with⟨hc42,h3l⟩|⟨hc42,h3l⟩
      ·refine lSkF rfl aa hc42 (lSkF rfl aa hc42 (lSkF rfl aa hc42 (lSkF rfl aa hc42 (lSkF rfl aa hc42 (lSkF rfl aa hc42 (lSkF rfl aa hc42 (lGd rfl aa hc32 (hPt rfl hc42 rfl) (lUn (hPt rfl hc32 rfl) ?_))))))))
       exact⟨true,h3l,atOk⟩
      refine lGd rfl aa hc42 (hMvL rfl) (lGd rfl aa hc42 (hMvL rfl) (lGd rfl aa hc42 (hMvA rfl) ?_))
      obtain⟨x43,hx43,h3l⟩:=ah h3l
      refine lGd rfl aa hc42 (dg Tryz.underlying38 Tryz.sizeOf49 hx43) ?_
      refine lGd rfl aa hc42 (d5 j7 dh) ?_
      refine lGd rfl aa hc42 (cf ty9) ?_
      obtain⟨x44,hx44,h3l⟩:=ah h3l
      refine lGd rfl aa hc42 (ct (fm x10 x43.Id ([105,110,116]:List UInt8) _ hx44)) ?_
      refine lGd rfl aa hc32 (hPf rfl hc42 rfl) (lUn (hPt rfl hc32 rfl) ?_)
      exact⟨x44,h3l,atOk⟩
     refine lSkT rfl aa hc32 (lSkT rfl aa hc32 (lSkT rfl aa hc32 (lSkT rfl aa hc32 (lSkT rfl aa hc32 (lSkT rfl aa hc32 (lSkT rfl aa hc32 (lSkT rfl aa hc32 (lSkT rfl aa hc32 (lSkT rfl aa hc32 (lSkT rfl aa hc32 (lSkT rfl aa hc32 ?_)))))))))))
     refine lSkT rfl aa hc32 (lSkT rfl aa hc32 (lSkU rfl aa (lSkU rfl aa (lSkU rfl aa (lSkU rfl aa (lSkU rfl aa (lSkU rfl aa (lSkU rfl aa (lSkU rfl aa (lSkT rfl aa hc32 (lSkT rfl aa hc32 ?_)))))))))))
     refine lSkU rfl aa (lSkU rfl aa (lSkU rfl aa (lSkU rfl aa (lSkU rfl aa (lSkU rfl aa (lSkU rfl aa (lSkT rfl aa hc32 (lSkT rfl aa hc32 (lSkU rfl aa (lSkU rfl aa (lSkU rfl aa ?_)))))))))))
     refine lSkU rfl aa (lSkU rfl aa (lSkU rfl aa (lSkU rfl aa (lSkT rfl aa hc32 (lUn (hPf rfl hc32 rfl) ?_)))))
     exact⟨false,h3l,atOk⟩
    refine c6 ?_
    obtain rfl:=ho3 _ (Option.some.inj h3l).symm
    exact⟨h,atOk⟩
   refine W_r (kMvL rfl (kMv rfl (kMv rfl (cm h (fm x10 x16 x17) rfl fun x19 _ h=>kMv rfl ?_))))
   rcases bo h with⟨hc20,h⟩|⟨hc20,h⟩
   ·refine kGd rfl aa hc20 (hMvL rfl) (kGd rfl aa hc20 (hMvA rfl) (kGd rfl aa hc20 (hMvA rfl) ?_))
    obtain⟨x21,hx21,h⟩:=ah h
    refine kGd rfl aa hc20 (ct (fm x10 x17 x18 _ hx21)) ?_
    refine kPt rfl hc20 rfl (kMv rfl ?_)
    rcases bo h with⟨hc22,h⟩|⟨hc22,h⟩
    ·refine kGd rfl aa hc22 (hMvL rfl) (kGd rfl aa hc22 (hMvA rfl) (kGd rfl aa hc22 (hMvA rfl) ?_))
     obtain⟨x23,hx23,h⟩:=ah h
     refine kGd rfl aa hc22 (ct (fm x10 x16 x18 _ hx23)) ?_
     refine kGd rfl aa hc22 (qNot rfl) (kPt rfl hc22 rfl ?_)
     exact⟨!x23,h,atOk⟩
    refine kSkT rfl aa hc22 (kSkT rfl aa hc22 (kSkT rfl aa hc22 (kSkT rfl aa hc22 (kSkT rfl aa hc22 (kPf rfl hc22 rfl ?_)))))
    exact⟨false,h,atOk⟩
   refine kSkT rfl aa hc20 (kSkT rfl aa hc20 (kSkT rfl aa hc20 (kSkT rfl aa hc20 (kPf rfl hc20 rfl (kMv rfl ?_)))))
   have hc24:false=false:=rfl
   refine kSkT rfl aa hc24 (kSkT rfl aa hc24 (kSkT rfl aa hc24 (kSkT rfl aa hc24 (kSkT rfl aa hc24 (kPf rfl hc24 rfl ?_)))))
   exact⟨false,h,atOk⟩
  refine W_r (kUn (ai fld30_0) ?_)
  refine kUn (ap 0 ty28 io) ?_
  refine kIn rfl rfl rfl (kMv rfl ?_)
  rcases bo h with⟨hc13,h⟩|⟨hc13,h⟩
  ·refine kSkF rfl aa hc13 (kSkF rfl aa hc13 (kSkF rfl aa hc13 (kPt rfl hc13 rfl ?_)))
   exact⟨true,h,atOk⟩
  refine kGd rfl aa hc13 (hMvL rfl) (kGd rfl aa hc13 (iz rfl Tryz.underlying38) ?_)
  refine kGd rfl aa hc13 (qInt rfl rfl rfl) (kPf rfl hc13 rfl ?_)
  exact⟨decide ((x10.length:Int)>100),h,atOk⟩
 refine W_r (kMv rfl (kNo rfl (kMv rfl ?_)))
 rcases bo h with⟨hc7,h⟩|⟨hc7,h⟩
 ·refine kSkF rfl aa hc7 (kSkF rfl aa hc7 (kSkF rfl aa hc7 (kPt rfl hc7 rfl ?_)))
  exact⟨true,h,atOk⟩
 refine kGd rfl aa hc7 (hMvL rfl) (kGd rfl aa hc7 (iz rfl Tryz.underlying22) ?_)
 refine kGd rfl aa hc7 (qInt rfl rfl rfl) (kPf rfl hc7 rfl ?_)
 exact⟨decide ((x2.length:Int)<3),h,atOk⟩
end Go.Proofs.YtcndghapmoaidaaGreatDoor
