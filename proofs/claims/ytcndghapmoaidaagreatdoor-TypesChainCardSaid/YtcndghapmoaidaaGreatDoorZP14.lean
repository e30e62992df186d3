/- The code comes to what these functions say (printed by wip/gen/gen.py). -/
import Derived.Test.YtcndghapmoaidaaGreatDoorZX
import Derived.Test.YtcndghapmoaidaaGreatDoorZP13
import Derived.Test.YtcndghapmoaidaaGreatDoorZT
set_option linter.unusedSimpArgs false
set_option linter.unusedVariables false
set_option linter.unusedSectionVars false
set_option linter.unusedSectionVars false
set_option maxRecDepth 100000
set_option maxHeartbeats 4000000
namespace Go.Proofs.YtcndghapmoaidaaGreatDoor
open Go Go.Cn
attribute [local irreducible] ec aq
theorem law18_awake_ok (r:Bool) (h:law18_awake=some r):FnP Tryz.prog 24 [] (Pr.bool r):=by
 refine cu (rs:=[0]) Tryz.func24 rfl Tryz.ntmps24 ⟨by decide,Tryz.results24⟩ (by decide) (fun s0=> ?_)
 unfold law18_awake at h
 refine W_rs (kAs rfl (W_rs ?_))
 obtain⟨⟨x1,x2⟩,hx1,h⟩:=ah h
 refine kUn (ct (ref12_File_ok ([99,108,97,115,115,32,65,123,105,110,116,32,109,40,41,123,114,101,116,117,114,110,32,116,114,117,101,59,125,125]:List UInt8) _ hx1)) ?_
 refine kUn (hMv (out:=bk [aq ab x1,(ak).val x2]) rfl) (kUn au ?_)
 refine kUn au ?_
 refine bq al30 fun b3=>kAsL rfl (av 0 rfl rfl (Upd.refl _) rfl Tryz.sizeOf30 (W_rs ?_))
 obtain⟨⟨x4,x5⟩,hx4,h⟩:=ah h
 refine kUn (ct (ref12_File_ok ([99,108,97,115,115,32,65,123,105,110,116,32,109,40,41,123,114,101,116,117,114,110,32,49,59,125,125]:List UInt8) _ hx4)) ?_
 refine kUn (hMv (out:=bk [aq ab x4,(ak).val x5]) rfl) (kUn au ?_)
 refine kUn au ?_
 refine bq al30 fun b6=>kAsL rfl (av 1 rfl rfl (Upd.refl _) rfl Tryz.sizeOf30 (W_rs (kMvL rfl (kUn (cl (R:=ba ab) (a:=x1) el24 (Nat.le_of_ble_eq_true rfl)) ?_))))
 refine cm h (types_Check_ok ([x1]:List (List ApiNode))) rfl fun x7 _ h=> ?_
 refine bq al30 fun b8=>av 2 rfl rfl (Upd.refl _) rfl Tryz.sizeOf30 (W_rs (kMvL rfl (kUn (cl (R:=ba ab) (a:=x1) el24 (Nat.le_of_ble_eq_true rfl)) ?_)))
 obtain⟨⟨x9,x10⟩,hx9,h⟩:=ah h
 refine kUn (ct (ref15_Table_ok ([x1]:List (List ApiNode)) _ hx9)) ?_
 refine kUn (hMv (out:=bk [aq af x9,(ak).val x10]) rfl) (kUn au ?_)
 refine kUn au ?_
 refine bq al30 fun b11=>kAsL rfl (av 3 rfl rfl (Upd.refl _) rfl Tryz.sizeOf30 ?_)
 refine bh (fun e C=>∃(x73:Bool),ke x73=some r/\At [(0,Pr.bool x73)] [Own.box b3 ak x2,Own.box b6 ak x5,Own.box b8 ak x7,Own.box b11 ak x10] e C) ?_ ?_
 ·rintro e C ⟨x73,h,hat1⟩
  refine W_at hat1 ?_
  unfold ke at h
  obtain rfl:=osj h
  exact bc ⟨rfl,aa⟩
 refine W_r (kUn (ai fld30_0) ?_)
 refine kUn (ap 2 ty28 io) ?_
 refine kIn rfl rfl rfl (kMv rfl ?_)
 rcases bo h with⟨hc12,h⟩|⟨hc12,h⟩
 ·refine kGd rfl aa hc12 (ai fld30_2) ?_
  refine kGd rfl aa hc12 (ap 2 ty3 subApiMistake_At) ?_
  refine kGd rfl aa hc12 (qInt rfl rfl rfl) (kPt rfl hc12 rfl (kMv rfl ?_))
  rcases bo h with⟨hc13,h⟩|⟨hc13,h⟩
  ·refine kGd rfl aa hc13 (hMvL rfl) (kGd rfl aa hc13 (cl (R:=ba ab) (a:=x4) el24 (Nat.le_of_ble_eq_true rfl)) ?_)
   obtain⟨x14,hx14,h⟩:=ah h
   refine kGd rfl aa hc13 (ct (types_Check_ok ([x4]:List (List ApiNode)) _ hx14)) ?_
   refine kGd rfl aa hc13 (qField rfl fld30_0 io (Nat.le_of_ble_eq_true rfl)) ?_
   refine kGd rfl aa hc13 (qInt rfl rfl rfl) (kPt rfl hc13 rfl (kMv rfl ?_))
   rcases bo h with⟨hc15,h⟩|⟨hc15,h⟩
   ·refine kGd rfl aa hc15 (hMvL rfl) ?_
    obtain⟨x16,hx16,h⟩:=ah h
    refine kGd rfl aa hc15 (ct (fm x9 ([110,117,108,108]:List UInt8) ([65]:List UInt8) _ hx16)) ?_
    refine kPt rfl hc15 rfl (kMv rfl ?_)
    rcases bo h with⟨hc17,h⟩|⟨hc17,h⟩
    ·refine kGd rfl aa hc17 (hMvL rfl) ?_
     obtain⟨x18,hx18,h⟩:=ah h
     refine kGd rfl aa hc17 (ct (fm x9 ([105,110,116]:List UInt8) ([65]:List UInt8) _ hx18)) ?_
     refine kGd rfl aa hc17 (qNot rfl) (kPt rfl hc17 rfl (kMv rfl ?_))
     rcases bo h with⟨hc19,h⟩|⟨hc19,h⟩
     ·refine kGd rfl aa hc19 (hMvL rfl) ?_
      obtain⟨x20,hx20,h⟩:=ah h
      refine kGd rfl aa hc19 (ct (types_Operator_ok x9 ([60]:List UInt8) ([105,110,116]:List UInt8) ([105,110,116]:List UInt8) _ hx20)) ?_
      refine kGd rfl aa hc19 (qStr rfl rfl rfl) (kPt rfl hc19 rfl (kAs rfl ?_))
      exact⟨x20==([98,111,111,108,101,97,110]:List UInt8),h,atOk⟩
     refine kSkT rfl aa hc19 (kSkT rfl aa hc19 (kSkT rfl aa hc19 (kPf rfl hc19 rfl (kAs rfl ?_))))
     exact⟨false,h,atOk⟩
    refine kSkT rfl aa hc17 (kSkT rfl aa hc17 (kSkT rfl aa hc17 (kPf rfl hc17 rfl (kMv rfl ?_))))
    have hc21:false=false:=rfl
    refine kSkT rfl aa hc21 (kSkT rfl aa hc21 (kSkT rfl aa hc21 (kPf rfl hc21 rfl (kAs rfl ?_))))
    exact⟨false,h,atOk⟩
   refine kSkT rfl aa hc15 (kSkT rfl aa hc15 (kPf rfl hc15 rfl (kMv rfl ?_)))
   have hc23:false=false:=rfl
   refine kSkT rfl aa hc23 (kSkT rfl aa hc23 (kSkT rfl aa hc23 (kPf rfl hc23 rfl (kMv rfl ?_))))
   have hc27:false=false:=rfl
   refine kSkT rfl aa hc27 (kSkT rfl aa hc27 (kSkT rfl aa hc27 (kPf rfl hc27 rfl (kAs rfl ?_))))
   exact⟨false,h,atOk⟩
  refine kSkT rfl aa hc13 (kSkT rfl aa hc13 (kSkT rfl aa hc13 (kSkT rfl aa hc13 (kSkT rfl aa hc13 (kPf rfl hc13 rfl (kMv rfl ?_))))))
  have hc29:false=false:=rfl
  refine kSkT rfl aa hc29 (kSkT rfl aa hc29 (kPf rfl hc29 rfl (kMv rfl ?_)))
  have hc37:false=false:=rfl
  refine kSkT rfl aa hc37 (kSkT rfl aa hc37 (kSkT rfl aa hc37 (kPf rfl hc37 rfl (kMv rfl ?_))))
  have hc41:false=false:=rfl
  refine kSkT rfl aa hc41 (kSkT rfl aa hc41 (kSkT rfl aa hc41 (kPf rfl hc41 rfl (kAs rfl ?_))))
  exact⟨false,h,atOk⟩
 refine kSkT rfl aa hc12 (kSkT rfl aa hc12 (kSkT rfl aa hc12 (kPf rfl hc12 rfl (kMv rfl ?_))))
 have hc43:false=false:=rfl
 refine kSkT rfl aa hc43 (kSkT rfl aa hc43 (kSkT rfl aa hc43 (kSkT rfl aa hc43 (kSkT rfl aa hc43 (kPf rfl hc43 rfl (kMv rfl ?_))))))
 have hc59:false=false:=rfl
 refine kSkT rfl aa hc59 (kSkT rfl aa hc59 (kPf rfl hc59 rfl (kMv rfl ?_)))
 have hc67:false=false:=rfl
 refine kSkT rfl aa hc67 (kSkT rfl aa hc67 (kSkT rfl aa hc67 (kPf rfl hc67 rfl (kMv rfl ?_))))
 have hc71:false=false:=rfl
 refine kSkT rfl aa hc71 (kSkT rfl aa hc71 (kSkT rfl aa hc71 (kPf rfl hc71 rfl (kAs rfl ?_))))
 exact⟨false,h,atOk⟩
end Go.Proofs.YtcndghapmoaidaaGreatDoor
