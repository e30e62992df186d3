/- The code comes to what these functions say (printed by wip/gen/gen.py). -/
import Derived.Test.YteablckbgpogiaaGreatDoorZX
import Derived.Test.YteablckbgpogiaaGreatDoorZP13
import Derived.Test.YteablckbgpogiaaGreatDoorZT
set_option linter.unusedSimpArgs false
set_option linter.unusedVariables false
set_option linter.unusedSectionVars false
set_option linter.unusedSectionVars false
set_option maxRecDepth 100000
set_option maxHeartbeats 4000000
namespace Go.Proofs.YteablckbgpogiaaGreatDoor
open Go Go.Cn
variable [Known]
attribute [local irreducible] f5 ap
theorem ref10_Few_ok (x1:List ApiFile) (x2 x3:Int) (r:Bool) (h:ref10_Few x1 x2 x3=some r):FnP Tryz.prog 19 [ap en x1,Pr.i64 x2,Pr.i64 x3] (Pr.bool r):=by
 refine cm (rs:=[6]) Tryz.func19 rfl Tryz.ntmps19 ⟨by decide,Tryz.results19⟩ (by decide) (fun s0=> ?_)
 unfold ref10_Few at h
 refine W_rs (kAs rfl (az (W_rs (kMvL rfl (kUn (mt rfl Tryz.underlying40) ?_)))))
 refine kMv rfl (kIn rfl rfl rfl ?_)
 refine a7 h rfl (fun _ h=> ?_) (fun _ h=> ?_)
 ·refine W_rs (kAs rfl ?_)
  obtain rfl:=osj h
  exact ax ⟨rfl,aa⟩
 refine ar (W_rs (kAs rfl (az (W_rs (kAs rfl (a4 ?_))))))
 obtain⟨z2l,hz2,h⟩:=af h
 obtain⟨n2,hN2⟩:=bp hz2
 refine d7 0 (fun e C=>ref10_Few_k1=some r/\At [] [] e C) ?_ ?_
 ·rintro e C ⟨h,hat1⟩
  refine W_at hat1 ?_
  unfold ref10_Few_k1 at h
  refine W_rs (kAs rfl ?_)
  obtain rfl:=osj h
  exact ax ⟨rfl,aa⟩
 refine ew (fun m e C=>∃(x5:Int),∃(x6:Int),ff (fun s=>q9 x1 x3 s.1 s.2) m (x5,x6)=some z2l/\At [(0,ap en x1),(2,Pr.i64 x3),(7,Pr.i64 x5),(8,Pr.i64 x6)] [] e C) n2 ⟨0,0,hN2,⟨⟨aa,aa,aa,aa,trivial⟩,Pick.refl _⟩⟩ ?_
 rintro m e C ⟨x5,x6,hN2,hatl2⟩
 refine W_at hatl2 ?_
 obtain⟨m2,w2l,rfl,h2l,hn2,ho2⟩:=bk hN2
 replace h2l:q9 x1 x3 x5 x6=some w2l:=h2l
 unfold q9 at h2l
 refine az (W_rs (kMv rfl (kMvL rfl (kUn (mt rfl Tryz.underlying40) ?_))))
 refine kIn rfl rfl rfl ?_
 refine a7 h2l rfl (fun _ h2l=> ?_) (fun _ h2l=> ?_)
 ·refine ar (az (a4 ?_))
  refine bj (fun e C=>∃(x10:ApiFile),∃(x11:ApiFile),ref10_Few_j3 x5 x3 x6 x10 x11=some w2l/\At [(0,ap en x1),(2,Pr.i64 x3),(7,Pr.i64 (w64 (x5+(w64 ((x10.Text.length:Int)+(x11.Path.length:Int)))))),(8,Pr.i64 x6)] [] e C) ?_ ?_
  ·rintro e C ⟨x10,x11,h2l,hat3⟩
   refine W_at hat3 ?_
   unfold ref10_Few_j3 at h2l
   refine W_rs (kMv rfl (kMv rfl (kIn rfl rfl rfl ?_)))
   refine a7 h2l rfl (fun _ h2l=> ?_) (fun _ h2l=> ?_)
   ·refine W_rs (kAs rfl ?_)
    obtain rfl:=ho2 _ (Option.some.inj h2l).symm
    replace h:some false=some r:=h
    obtain rfl:=osj h
    exact ax ⟨rfl,aa⟩
   refine ar (W_r (kMv rfl (kIn rfl rfl rfl (kAs rfl ?_))))
   exact⟨m2,Nat.lt_succ_self _,w64 (x5+(w64 ((x10.Text.length:Int)+(x11.Path.length:Int)))),w64 (x6+1),hn2 _ (Option.some.inj h2l).symm,atOk⟩
  refine ib 16 hmx (by kernel_rfl) (by kernel_rfl) ?_
  refine lUn (hMvA rfl) (lUn (hMvL rfl) (lUn (hMvA rfl) ?_))
  obtain⟨x10,hx10,h2l⟩:=af h2l
  refine lUn (fi Tryz.underlying40 Tryz.sizeOf50 hx10) ?_
  refine lUn (de fld50_1 kz) ?_
  refine lUn (cw ty9) ?_
  refine lUn (ol rfl Tryz.underlying9) ?_
  refine lUn (hMvL rfl) (lUn (hMvA rfl) ?_)
  obtain⟨x11,hx11,h2l⟩:=af h2l
  refine lUn (fi Tryz.underlying40 Tryz.sizeOf50 hx11) ?_
  refine lUn (de fld50_0 i6) ?_
  refine lUn (cw ty9) ?_
  refine lUn (ol rfl Tryz.underlying9) ?_
  refine lUn (qInt rfl rfl rfl) (lUn (qInt rfl rfl rfl) (lUn (hAsA rfl) ?_))
  exact⟨x10,x11,h2l,atOk⟩
 refine ej ?_
 obtain rfl:=ho2 _ (Option.some.inj h2l).symm
 exact⟨h,atOk⟩
theorem ref10_Size_ok (x1:List ApiFile) (r:Int) (h:ref10_Size x1=some r):FnP Tryz.prog 74 [ap en x1] (Pr.i64 r):=by
 refine cm (rs:=[2]) Tryz.func74 rfl Tryz.ntmps74 ⟨by decide,Tryz.results74⟩ (by decide) (fun s0=> ?_)
 unfold ref10_Size at h
 refine W_rs (kAs rfl (W_rs (kAs rfl (az (W_rs (kAs rfl (a4 ?_)))))))
 obtain⟨z2l,hz2,h⟩:=af h
 obtain⟨n2,hN2⟩:=bp hz2
 refine d7 0 (fun e C=>∃(x2:Int),ref10_Size_k1 x2=some r/\At [(3,Pr.i64 x2)] [] e C) ?_ ?_
 ·rintro e C ⟨x2,h,hat1⟩
  refine W_at hat1 ?_
  unfold ref10_Size_k1 at h
  refine W_rs (kMv rfl (kAs rfl ?_))
  obtain rfl:=osj h
  exact ax ⟨rfl,aa⟩
 refine ew (fun m e C=>∃(x2:Int),∃(x3:Int),ff (fun s=>ref10_Size_l2 x1 s.1 s.2) m (x2,x3)=some z2l/\At [(0,ap en x1),(3,Pr.i64 x2),(4,Pr.i64 x3)] [] e C) n2 ⟨0,0,hN2,⟨⟨aa,aa,aa,trivial⟩,Pick.refl _⟩⟩ ?_
 rintro m e C ⟨x2,x3,hN2,hatl2⟩
 refine W_at hatl2 ?_
 obtain⟨m2,w2l,rfl,h2l,hn2,ho2⟩:=bk hN2
 replace h2l:ref10_Size_l2 x1 x2 x3=some w2l:=h2l
 unfold ref10_Size_l2 at h2l
 refine az (W_rs (kMv rfl (kMvL rfl (kUn (mt rfl Tryz.underlying40) ?_))))
 refine kIn rfl rfl rfl ?_
 refine a7 h2l rfl (fun _ h2l=> ?_) (fun _ h2l=> ?_)
 ·refine ar (az (a4 (W_r (kMv rfl (kMvL rfl (kMv rfl ?_))))))
  obtain⟨x7,hx7,h2l⟩:=af h2l
  refine kUn (fi Tryz.underlying40 Tryz.sizeOf50 hx7) ?_
  refine kUn (de fld50_1 kz) ?_
  refine kUn (cw ty9) ?_
  refine kUn (ol rfl Tryz.underlying9) ?_
  refine kIn rfl rfl rfl (kAs rfl (W_r (kMv rfl (kIn rfl rfl rfl (kAs rfl ?_)))))
  exact⟨m2,Nat.lt_succ_self _,w64 (x2+(x7.Text.length:Int)),w64 (x3+1),hn2 _ (Option.some.inj h2l).symm,atOk⟩
 refine ej ?_
 obtain rfl:=ho2 _ (Option.some.inj h2l).symm
 exact⟨x2,h,atOk⟩
theorem ref10_Path_ok (x1:List UInt8) (r:Bool) (h:ref10_Path x1=some r):FnP Tryz.prog 75 [ba x1] (Pr.bool r):=by
 refine cm (rs:=[2]) Tryz.func75 rfl Tryz.ntmps75 ⟨by decide,Tryz.results75⟩ (by decide) (fun s0=> ?_)
 unfold ref10_Path at h
 refine W_rs (kAs rfl (az ?_))
 refine bj (fun e C=>∃(x15:Bool),nf x1 x15=some r/\At [(0,ba x1),(25,Pr.bool x15)] [] e C) ?_ ?_
 ·rintro e C ⟨x15,h,hat4⟩
  refine W_at hat4 ?_
  unfold nf at h
  refine a7 h rfl (fun _ h=> ?_) (fun _ h=> ?_)
  ·refine W_rs (kAs rfl ?_)
   obtain rfl:=osj h
   exact ax ⟨rfl,aa⟩
  refine ar (az (W_rs (kAs rfl (a4 ?_))))
  obtain⟨z2l,hz2,h⟩:=af h
  obtain⟨n2,hN2⟩:=bp hz2
  refine d7 0 (fun e C=>ref10_Path_k1=some r/\At [] [] e C) ?_ ?_
  ·rintro e C ⟨h,hat1⟩
   refine W_at hat1 ?_
   unfold ref10_Path_k1 at h
   refine W_rs (kAs rfl ?_)
   obtain rfl:=osj h
   exact ax ⟨rfl,aa⟩
  refine ew (fun m e C=>∃(x17:Int),ff (fun s=>kg x1 s) m x17=some z2l/\At [(0,ba x1),(3,Pr.i64 x17)] [] e C) n2 ⟨0,hN2,⟨⟨aa,aa,trivial⟩,Pick.refl _⟩⟩ ?_
  rintro m e C ⟨x17,hN2,hatl2⟩
  refine W_at hatl2 ?_
  obtain⟨m2,w2l,rfl,h2l,hn2,ho2⟩:=bk hN2
  replace h2l:kg x1 x17=some w2l:=h2l
  unfold kg at h2l
  refine az (W_rs (kMv rfl (kMv rfl (kUn (ol rfl Tryz.underlying9) ?_))))
  refine kIn rfl rfl rfl ?_
  refine a7 h2l rfl (fun _ h2l=> ?_) (fun _ h2l=> ?_)
  ·refine ar (az (a4 (W_rs (kMv rfl (kMv rfl ?_)))))
   obtain⟨x20,hx20,h2l⟩:=af h2l
   refine kUn (qIdxS Tryz.underlying9 hx20) ?_
   refine kAs rfl ?_
   refine bj (fun e C=>∃(x164:Bool),bz x17 x164=some w2l/\At [(0,ba x1),(3,Pr.i64 x17),(68,Pr.bool x164)] [] e C) ?_ ?_
   ·rintro e C ⟨x164,h2l,hat3⟩
    refine W_at hat3 ?_
    unfold bz at h2l
    refine a7 h2l rfl (fun _ h2l=> ?_) (fun _ h2l=> ?_)
    ·refine W_rs (kAs rfl ?_)
     obtain rfl:=ho2 _ (Option.some.inj h2l).symm
     replace h:some false=some r:=h
     obtain rfl:=osj h
     exact ax ⟨rfl,aa⟩
    refine ar (W_r (kMv rfl (kIn rfl rfl rfl (kAs rfl ?_))))
    exact⟨m2,Nat.lt_succ_self _,w64 (x17+1),hn2 _ (Option.some.inj h2l).symm,atOk⟩
   refine W_r (kMv rfl (kIn rfl rfl rfl (kMv rfl ?_)))
   rcases bd h2l with⟨hc21,h2l⟩|⟨hc21,h2l⟩
   ·refine kSkF rfl aa hc21 (kSkF rfl aa hc21 (kPt rfl hc21 rfl (kMv rfl ?_)))
    have hc93:true=true:=rfl
    refine kGd rfl aa hc93 (hMvA rfl) (kGd rfl aa hc93 (qInt rfl rfl rfl) (kGd rfl aa hc93 (hMvA rfl) ?_))
    rcases bd h2l with⟨hc94,h2l⟩|⟨hc94,h2l⟩
    ·refine kSkF rfl aa hc94 (kSkF rfl aa hc94 (kGd rfl aa hc93 (hPt rfl hc94 rfl) (kPt rfl hc93 rfl (kMv rfl ?_))))
     have hc118:true=true:=rfl
     refine kGd rfl aa hc118 (hMvA rfl) (kGd rfl aa hc118 (qInt rfl rfl rfl) (kGd rfl aa hc118 (hMvA rfl) ?_))
     rcases bd h2l with⟨hc119,h2l⟩|⟨hc119,h2l⟩
     ·refine kSkF rfl aa hc119 (kSkF rfl aa hc119 (kGd rfl aa hc118 (hPt rfl hc119 rfl) (kPt rfl hc118 rfl (kMv rfl ?_))))
      have hc127:true=true:=rfl
      refine kGd rfl aa hc127 (hMvA rfl) (kGd rfl aa hc127 (qInt rfl rfl rfl) (kPt rfl hc127 rfl (kMv rfl ?_)))
      rcases bd h2l with⟨hc128,h2l⟩|⟨hc128,h2l⟩
      ·refine kGd rfl aa hc128 (hMvA rfl) (kGd rfl aa hc128 (qInt rfl rfl rfl) (kPt rfl hc128 rfl (kMv rfl ?_)))
       rcases bd h2l with⟨hc129,h2l⟩|⟨hc129,h2l⟩
       ·refine kGd rfl aa hc129 (hMvA rfl) (kGd rfl aa hc129 (qInt rfl rfl rfl) (kPt rfl hc129 rfl ?_))
        exact⟨x20 != 47,h2l,atOk⟩
       refine kSkT rfl aa hc129 (kSkT rfl aa hc129 (kPf rfl hc129 rfl ?_))
       exact⟨false,h2l,atOk⟩
      refine kSkT rfl aa hc128 (kSkT rfl aa hc128 (kPf rfl hc128 rfl (kMv rfl ?_)))
      have hc130:false=false:=rfl
      refine kSkT rfl aa hc130 (kSkT rfl aa hc130 (kPf rfl hc130 rfl ?_))
      exact⟨false,h2l,atOk⟩
     refine kGd rfl aa hc119 (hMvA rfl) (kGd rfl aa hc119 (qInt rfl rfl rfl) (kGd rfl aa hc118 (hPf rfl hc119 rfl) (kPt rfl hc118 rfl (kMv rfl ?_))))
     rcases bd h2l with⟨hc120,h2l⟩|⟨hc120,h2l⟩
     ·refine kGd rfl aa hc120 (hMvA rfl) (kGd rfl aa hc120 (qInt rfl rfl rfl) (kPt rfl hc120 rfl (kMv rfl ?_)))
      rcases bd h2l with⟨hc121,h2l⟩|⟨hc121,h2l⟩
      ·refine kGd rfl aa hc121 (hMvA rfl) (kGd rfl aa hc121 (qInt rfl rfl rfl) (kPt rfl hc121 rfl (kMv rfl ?_)))
       rcases bd h2l with⟨hc122,h2l⟩|⟨hc122,h2l⟩
       ·refine kGd rfl aa hc122 (hMvA rfl) (kGd rfl aa hc122 (qInt rfl rfl rfl) (kPt rfl hc122 rfl ?_))
        exact⟨x20 != 47,h2l,atOk⟩
       refine kSkT rfl aa hc122 (kSkT rfl aa hc122 (kPf rfl hc122 rfl ?_))
       exact⟨false,h2l,atOk⟩
      refine kSkT rfl aa hc121 (kSkT rfl aa hc121 (kPf rfl hc121 rfl (kMv rfl ?_)))
      have hc123:false=false:=rfl
      refine kSkT rfl aa hc123 (kSkT rfl aa hc123 (kPf rfl hc123 rfl ?_))
      exact⟨false,h2l,atOk⟩
     refine kSkT rfl aa hc120 (kSkT rfl aa hc120 (kPf rfl hc120 rfl (kMv rfl ?_)))
     have hc124:false=false:=rfl
     refine kSkT rfl aa hc124 (kSkT rfl aa hc124 (kPf rfl hc124 rfl (kMv rfl ?_)))
     have hc126:false=false:=rfl
     refine kSkT rfl aa hc126 (kSkT rfl aa hc126 (kPf rfl hc126 rfl ?_))
     exact⟨false,h2l,atOk⟩
    refine kGd rfl aa hc94 (hMvA rfl) (kGd rfl aa hc94 (qInt rfl rfl rfl) (kGd rfl aa hc93 (hPf rfl hc94 rfl) (kPt rfl hc93 rfl (kMv rfl ?_))))
    rcases bd h2l with⟨hc95,h2l⟩|⟨hc95,h2l⟩
    ·refine kGd rfl aa hc95 (hMvA rfl) (kGd rfl aa hc95 (qInt rfl rfl rfl) (kGd rfl aa hc95 (hMvA rfl) ?_))
     rcases bd h2l with⟨hc96,h2l⟩|⟨hc96,h2l⟩
     ·refine kSkF rfl aa hc96 (kSkF rfl aa hc96 (kGd rfl aa hc95 (hPt rfl hc96 rfl) (kPt rfl hc95 rfl (kMv rfl ?_))))
      have hc104:true=true:=rfl
      refine kGd rfl aa hc104 (hMvA rfl) (kGd rfl aa hc104 (qInt rfl rfl rfl) (kPt rfl hc104 rfl (kMv rfl ?_)))
      rcases bd h2l with⟨hc105,h2l⟩|⟨hc105,h2l⟩
      ·refine kGd rfl aa hc105 (hMvA rfl) (kGd rfl aa hc105 (qInt rfl rfl rfl) (kPt rfl hc105 rfl (kMv rfl ?_)))
       rcases bd h2l with⟨hc106,h2l⟩|⟨hc106,h2l⟩
       ·refine kGd rfl aa hc106 (hMvA rfl) (kGd rfl aa hc106 (qInt rfl rfl rfl) (kPt rfl hc106 rfl ?_))
        exact⟨x20 != 47,h2l,atOk⟩
       refine kSkT rfl aa hc106 (kSkT rfl aa hc106 (kPf rfl hc106 rfl ?_))
       exact⟨false,h2l,atOk⟩
      refine kSkT rfl aa hc105 (kSkT rfl aa hc105 (kPf rfl hc105 rfl (kMv rfl ?_)))
      have hc107:false=false:=rfl
      refine kSkT rfl aa hc107 (kSkT rfl aa hc107 (kPf rfl hc107 rfl ?_))
      exact⟨false,h2l,atOk⟩
     refine kGd rfl aa hc96 (hMvA rfl) (kGd rfl aa hc96 (qInt rfl rfl rfl) (kGd rfl aa hc95 (hPf rfl hc96 rfl) (kPt rfl hc95 rfl (kMv rfl ?_))))
     rcases bd h2l with⟨hc97,h2l⟩|⟨hc97,h2l⟩
     ·refine kGd rfl aa hc97 (hMvA rfl) (kGd rfl aa hc97 (qInt rfl rfl rfl) (kPt rfl hc97 rfl (kMv rfl ?_)))
      rcases bd h2l with⟨hc98,h2l⟩|⟨hc98,h2l⟩
      ·refine kGd rfl aa hc98 (hMvA rfl) (kGd rfl aa hc98 (qInt rfl rfl rfl) (kPt rfl hc98 rfl (kMv rfl ?_)))
       rcases bd h2l with⟨hc99,h2l⟩|⟨hc99,h2l⟩
       ·refine kGd rfl aa hc99 (hMvA rfl) (kGd rfl aa hc99 (qInt rfl rfl rfl) (kPt rfl hc99 rfl ?_))
        exact⟨x20 != 47,h2l,atOk⟩
       refine kSkT rfl aa hc99 (kSkT rfl aa hc99 (kPf rfl hc99 rfl ?_))
       exact⟨false,h2l,atOk⟩
      refine kSkT rfl aa hc98 (kSkT rfl aa hc98 (kPf rfl hc98 rfl (kMv rfl ?_)))
      have hc100:false=false:=rfl
      refine kSkT rfl aa hc100 (kSkT rfl aa hc100 (kPf rfl hc100 rfl ?_))
      exact⟨false,h2l,atOk⟩
     refine kSkT rfl aa hc97 (kSkT rfl aa hc97 (kPf rfl hc97 rfl (kMv rfl ?_)))
     have hc101:false=false:=rfl
     refine kSkT rfl aa hc101 (kSkT rfl aa hc101 (kPf rfl hc101 rfl (kMv rfl ?_)))
     have hc103:false=false:=rfl
     refine kSkT rfl aa hc103 (kSkT rfl aa hc103 (kPf rfl hc103 rfl ?_))
     exact⟨false,h2l,atOk⟩
    refine kSkT rfl aa hc95 (kSkT rfl aa hc95 (kSkT rfl aa hc95 (kSkU rfl aa (kSkU rfl aa (kSkT rfl aa hc95 (kPf rfl hc95 rfl (kMv rfl ?_)))))))
    have hc111:false=false:=rfl
    refine kSkT rfl aa hc111 (kSkT rfl aa hc111 (kPf rfl hc111 rfl (kMv rfl ?_)))
    have hc115:false=false:=rfl
    refine kSkT rfl aa hc115 (kSkT rfl aa hc115 (kPf rfl hc115 rfl (kMv rfl ?_)))
    have hc117:false=false:=rfl
    refine kSkT rfl aa hc117 (kSkT rfl aa hc117 (kPf rfl hc117 rfl ?_))
    exact⟨false,h2l,atOk⟩
   refine kGd rfl aa hc21 (hMvA rfl) (kGd rfl aa hc21 (qInt rfl rfl rfl) (kPf rfl hc21 rfl (kMv rfl ?_)))
   rcases bd h2l with⟨hc22,h2l⟩|⟨hc22,h2l⟩
   ·refine kGd rfl aa hc22 (hMvA rfl) (kGd rfl aa hc22 (qInt rfl rfl rfl) (kGd rfl aa hc22 (hMvA rfl) ?_))
    rcases bd h2l with⟨hc23,h2l⟩|⟨hc23,h2l⟩
    ·refine kSkF rfl aa hc23 (kSkF rfl aa hc23 (kGd rfl aa hc22 (hPt rfl hc23 rfl) (kPt rfl hc22 rfl (kMv rfl ?_))))
     have hc47:true=true:=rfl
     refine kGd rfl aa hc47 (hMvA rfl) (kGd rfl aa hc47 (qInt rfl rfl rfl) (kGd rfl aa hc47 (hMvA rfl) ?_))
     rcases bd h2l with⟨hc48,h2l⟩|⟨hc48,h2l⟩
     ·refine kSkF rfl aa hc48 (kSkF rfl aa hc48 (kGd rfl aa hc47 (hPt rfl hc48 rfl) (kPt rfl hc47 rfl (kMv rfl ?_))))
      have hc56:true=true:=rfl
      refine kGd rfl aa hc56 (hMvA rfl) (kGd rfl aa hc56 (qInt rfl rfl rfl) (kPt rfl hc56 rfl (kMv rfl ?_)))
      rcases bd h2l with⟨hc57,h2l⟩|⟨hc57,h2l⟩
      ·refine kGd rfl aa hc57 (hMvA rfl) (kGd rfl aa hc57 (qInt rfl rfl rfl) (kPt rfl hc57 rfl (kMv rfl ?_)))
       rcases bd h2l with⟨hc58,h2l⟩|⟨hc58,h2l⟩
       ·refine kGd rfl aa hc58 (hMvA rfl) (kGd rfl aa hc58 (qInt rfl rfl rfl) (kPt rfl hc58 rfl ?_))
        exact⟨x20 != 47,h2l,atOk⟩
       refine kSkT rfl aa hc58 (kSkT rfl aa hc58 (kPf rfl hc58 rfl ?_))
       exact⟨false,h2l,atOk⟩
      refine kSkT rfl aa hc57 (kSkT rfl aa hc57 (kPf rfl hc57 rfl (kMv rfl ?_)))
      have hc59:false=false:=rfl
      refine kSkT rfl aa hc59 (kSkT rfl aa hc59 (kPf rfl hc59 rfl ?_))
      exact⟨false,h2l,atOk⟩
     refine kGd rfl aa hc48 (hMvA rfl) (kGd rfl aa hc48 (qInt rfl rfl rfl) (kGd rfl aa hc47 (hPf rfl hc48 rfl) (kPt rfl hc47 rfl (kMv rfl ?_))))
     rcases bd h2l with⟨hc49,h2l⟩|⟨hc49,h2l⟩
     ·refine kGd rfl aa hc49 (hMvA rfl) (kGd rfl aa hc49 (qInt rfl rfl rfl) (kPt rfl hc49 rfl (kMv rfl ?_)))
      rcases bd h2l with⟨hc50,h2l⟩|⟨hc50,h2l⟩
      ·refine kGd rfl aa hc50 (hMvA rfl) (kGd rfl aa hc50 (qInt rfl rfl rfl) (kPt rfl hc50 rfl (kMv rfl ?_)))
       rcases bd h2l with⟨hc51,h2l⟩|⟨hc51,h2l⟩
       ·refine kGd rfl aa hc51 (hMvA rfl) (kGd rfl aa hc51 (qInt rfl rfl rfl) (kPt rfl hc51 rfl ?_))
        exact⟨x20 != 47,h2l,atOk⟩
       refine kSkT rfl aa hc51 (kSkT rfl aa hc51 (kPf rfl hc51 rfl ?_))
       exact⟨false,h2l,atOk⟩
      refine kSkT rfl aa hc50 (kSkT rfl aa hc50 (kPf rfl hc50 rfl (kMv rfl ?_)))
      have hc52:false=false:=rfl
      refine kSkT rfl aa hc52 (kSkT rfl aa hc52 (kPf rfl hc52 rfl ?_))
      exact⟨false,h2l,atOk⟩
     refine kSkT rfl aa hc49 (kSkT rfl aa hc49 (kPf rfl hc49 rfl (kMv rfl ?_)))
     have hc53:false=false:=rfl
     refine kSkT rfl aa hc53 (kSkT rfl aa hc53 (kPf rfl hc53 rfl (kMv rfl ?_)))
     have hc55:false=false:=rfl
     refine kSkT rfl aa hc55 (kSkT rfl aa hc55 (kPf rfl hc55 rfl ?_))
     exact⟨false,h2l,atOk⟩
    refine kGd rfl aa hc23 (hMvA rfl) (kGd rfl aa hc23 (qInt rfl rfl rfl) (kGd rfl aa hc22 (hPf rfl hc23 rfl) (kPt rfl hc22 rfl (kMv rfl ?_))))
    rcases bd h2l with⟨hc24,h2l⟩|⟨hc24,h2l⟩
    ·refine kGd rfl aa hc24 (hMvA rfl) (kGd rfl aa hc24 (qInt rfl rfl rfl) (kGd rfl aa hc24 (hMvA rfl) ?_))
     rcases bd h2l with⟨hc25,h2l⟩|⟨hc25,h2l⟩
     ·refine kSkF rfl aa hc25 (kSkF rfl aa hc25 (kGd rfl aa hc24 (hPt rfl hc25 rfl) (kPt rfl hc24 rfl (kMv rfl ?_))))
      have hc33:true=true:=rfl
      refine kGd rfl aa hc33 (hMvA rfl) (kGd rfl aa hc33 (qInt rfl rfl rfl) (kPt rfl hc33 rfl (kMv rfl ?_)))
      rcases bd h2l with⟨hc34,h2l⟩|⟨hc34,h2l⟩
      ·refine kGd rfl aa hc34 (hMvA rfl) (kGd rfl aa hc34 (qInt rfl rfl rfl) (kPt rfl hc34 rfl (kMv rfl ?_)))
       rcases bd h2l with⟨hc35,h2l⟩|⟨hc35,h2l⟩
       ·refine kGd rfl aa hc35 (hMvA rfl) (kGd rfl aa hc35 (qInt rfl rfl rfl) (kPt rfl hc35 rfl ?_))
        exact⟨x20 != 47,h2l,atOk⟩
       refine kSkT rfl aa hc35 (kSkT rfl aa hc35 (kPf rfl hc35 rfl ?_))
       exact⟨false,h2l,atOk⟩
      refine kSkT rfl aa hc34 (kSkT rfl aa hc34 (kPf rfl hc34 rfl (kMv rfl ?_)))
      have hc36:false=false:=rfl
      refine kSkT rfl aa hc36 (kSkT rfl aa hc36 (kPf rfl hc36 rfl ?_))
      exact⟨false,h2l,atOk⟩
     refine kGd rfl aa hc25 (hMvA rfl) (kGd rfl aa hc25 (qInt rfl rfl rfl) (kGd rfl aa hc24 (hPf rfl hc25 rfl) (kPt rfl hc24 rfl (kMv rfl ?_))))
     rcases bd h2l with⟨hc26,h2l⟩|⟨hc26,h2l⟩
     ·refine kGd rfl aa hc26 (hMvA rfl) (kGd rfl aa hc26 (qInt rfl rfl rfl) (kPt rfl hc26 rfl (kMv rfl ?_)))
      rcases bd h2l with⟨hc27,h2l⟩|⟨hc27,h2l⟩
      ·refine kGd rfl aa hc27 (hMvA rfl) (kGd rfl aa hc27 (qInt rfl rfl rfl) (kPt rfl hc27 rfl (kMv rfl ?_)))
       rcases bd h2l with⟨hc28,h2l⟩|⟨hc28,h2l⟩
       ·refine kGd rfl aa hc28 (hMvA rfl) (kGd rfl aa hc28 (qInt rfl rfl rfl) (kPt rfl hc28 rfl ?_))
        exact⟨x20 != 47,h2l,atOk⟩
       refine kSkT rfl aa hc28 (kSkT rfl aa hc28 (kPf rfl hc28 rfl ?_))
       exact⟨false,h2l,atOk⟩
      refine kSkT rfl aa hc27 (kSkT rfl aa hc27 (kPf rfl hc27 rfl (kMv rfl ?_)))
      have hc29:false=false:=rfl
      refine kSkT rfl aa hc29 (kSkT rfl aa hc29 (kPf rfl hc29 rfl ?_))
      exact⟨false,h2l,atOk⟩
     refine kSkT rfl aa hc26 (kSkT rfl aa hc26 (kPf rfl hc26 rfl (kMv rfl ?_)))
     have hc30:false=false:=rfl
     refine kSkT rfl aa hc30 (kSkT rfl aa hc30 (kPf rfl hc30 rfl (kMv rfl ?_)))
     have hc32:false=false:=rfl
     refine kSkT rfl aa hc32 (kSkT rfl aa hc32 (kPf rfl hc32 rfl ?_))
     exact⟨false,h2l,atOk⟩
    refine kSkT rfl aa hc24 (kSkT rfl aa hc24 (kSkT rfl aa hc24 (kSkU rfl aa (kSkU rfl aa (kSkT rfl aa hc24 (kPf rfl hc24 rfl (kMv rfl ?_)))))))
    have hc40:false=false:=rfl
    refine kSkT rfl aa hc40 (kSkT rfl aa hc40 (kPf rfl hc40 rfl (kMv rfl ?_)))
    have hc44:false=false:=rfl
    refine kSkT rfl aa hc44 (kSkT rfl aa hc44 (kPf rfl hc44 rfl (kMv rfl ?_)))
    have hc46:false=false:=rfl
    refine kSkT rfl aa hc46 (kSkT rfl aa hc46 (kPf rfl hc46 rfl ?_))
    exact⟨false,h2l,atOk⟩
   refine kSkT rfl aa hc22 (kSkT rfl aa hc22 (kSkT rfl aa hc22 (kSkU rfl aa (kSkU rfl aa (kSkT rfl aa hc22 (kPf rfl hc22 rfl (kMv rfl ?_)))))))
   have hc70:false=false:=rfl
   refine kSkT rfl aa hc70 (kSkT rfl aa hc70 (kSkT rfl aa hc70 (kSkU rfl aa (kSkU rfl aa (kSkT rfl aa hc70 (kPf rfl hc70 rfl (kMv rfl ?_)))))))
   have hc86:false=false:=rfl
   refine kSkT rfl aa hc86 (kSkT rfl aa hc86 (kPf rfl hc86 rfl (kMv rfl ?_)))
   have hc90:false=false:=rfl
   refine kSkT rfl aa hc90 (kSkT rfl aa hc90 (kPf rfl hc90 rfl (kMv rfl ?_)))
   have hc92:false=false:=rfl
   refine kSkT rfl aa hc92 (kSkT rfl aa hc92 (kPf rfl hc92 rfl ?_))
   exact⟨false,h2l,atOk⟩
  refine ej ?_
  obtain rfl:=ho2 _ (Option.some.inj h2l).symm
  exact⟨h,atOk⟩
 refine W_r (kMv rfl (kUn (ol rfl Tryz.underlying9) ?_))
 refine kIn rfl rfl rfl (kMv rfl ?_)
 rcases bd h with⟨hc2,h⟩|⟨hc2,h⟩
 ·refine kSkF rfl aa hc2 (kSkF rfl aa hc2 (kSkF rfl aa hc2 (kPt rfl hc2 rfl (kMv rfl ?_))))
  have hc9:true=true:=rfl
  refine kSkF rfl aa hc9 (kSkF rfl aa hc9 (kSkF rfl aa hc9 (kPt rfl hc9 rfl (kMv rfl ?_))))
  have hc13:true=true:=rfl
  refine kSkF rfl aa hc13 (kSkF rfl aa hc13 (kSkF rfl aa hc13 (kSkF rfl aa hc13 (kSkF rfl aa hc13 (kSkF rfl aa hc13 (kPt rfl hc13 rfl ?_))))))
  exact⟨true,h,atOk⟩
 refine kGd rfl aa hc2 (hMvA rfl) (kGd rfl aa hc2 (ol rfl Tryz.underlying9) ?_)
 refine kGd rfl aa hc2 (qInt rfl rfl rfl) (kPf rfl hc2 rfl (kMv rfl ?_))
 rcases bd h with⟨hc3,h⟩|⟨hc3,h⟩
 ·refine kSkF rfl aa hc3 (kSkF rfl aa hc3 (kSkF rfl aa hc3 (kPt rfl hc3 rfl (kMv rfl ?_))))
  have hc7:true=true:=rfl
  refine kSkF rfl aa hc7 (kSkF rfl aa hc7 (kSkF rfl aa hc7 (kSkF rfl aa hc7 (kSkF rfl aa hc7 (kSkF rfl aa hc7 (kPt rfl hc7 rfl ?_))))))
  exact⟨true,h,atOk⟩
 refine kGd rfl aa hc3 (hMvA rfl) ?_
 obtain⟨x4,hx4,h⟩:=af h
 refine kGd rfl aa hc3 (qIdxS Tryz.underlying9 hx4) ?_
 refine kGd rfl aa hc3 (qInt rfl rfl rfl) (kPf rfl hc3 rfl (kMv rfl ?_))
 rcases bd h with⟨hc5,h⟩|⟨hc5,h⟩
 ·refine kSkF rfl aa hc5 (kSkF rfl aa hc5 (kSkF rfl aa hc5 (kSkF rfl aa hc5 (kSkF rfl aa hc5 (kSkF rfl aa hc5 (kPt rfl hc5 rfl ?_))))))
  exact⟨true,h,atOk⟩
 refine kGd rfl aa hc5 (hMvA rfl) (kGd rfl aa hc5 (hMvA rfl) (kGd rfl aa hc5 (ol rfl Tryz.underlying9) ?_))
 refine kGd rfl aa hc5 (qInt rfl rfl rfl) ?_
 obtain⟨x6,hx6,h⟩:=af h
 refine kGd rfl aa hc5 (qIdxS Tryz.underlying9 hx6) ?_
 refine kGd rfl aa hc5 (qInt rfl rfl rfl) (kPf rfl hc5 rfl ?_)
 exact⟨x6==47,h,atOk⟩
theorem ref10_Check_ok (x1:List ApiFile) (r:Int) (h:ref10_Check x1=some r):FnP Tryz.prog 49 [ap en x1] (Pr.i64 r):=by
 refine cm (rs:=[2]) Tryz.func49 rfl Tryz.ntmps49 ⟨by decide,Tryz.results49⟩ (by decide) (fun s0=> ?_)
 unfold ref10_Check at h
 refine W_rs (kAs rfl (az ?_))
 refine bj (fun e C=>∃(x4:Bool),oc x1 x4=some r/\At [(0,ap en x1),(12,Pr.bool x4)] [] e C) ?_ ?_
 ·rintro e C ⟨x4,h,hat4⟩
  refine W_at hat4 ?_
  unfold oc at h
  refine a7 h rfl (fun _ h=> ?_) (fun _ h=> ?_)
  ·refine W_rs (kAs rfl ?_)
   obtain rfl:=osj h
   exact ax ⟨rfl,aa⟩
  refine ar (az (W_rs (kAs rfl (a4 ?_))))
  obtain⟨z2l,hz2,h⟩:=af h
  obtain⟨n2,hN2⟩:=bp hz2
  refine d7 0 (fun e C=>ref10_Check_k1=some r/\At [] [] e C) ?_ ?_
  ·rintro e C ⟨h,hat1⟩
   refine W_at hat1 ?_
   unfold ref10_Check_k1 at h
   refine W_rs (kAs rfl ?_)
   obtain rfl:=osj h
   exact ax ⟨rfl,aa⟩
  refine ew (fun m e C=>∃(x6:Int),ff (fun s=>l4 x1 s) m x6=some z2l/\At [(0,ap en x1),(3,Pr.i64 x6)] [] e C) n2 ⟨0,hN2,⟨⟨aa,aa,trivial⟩,Pick.refl _⟩⟩ ?_
  rintro m e C ⟨x6,hN2,hatl2⟩
  refine W_at hatl2 ?_
  obtain⟨m2,w2l,rfl,h2l,hn2,ho2⟩:=bk hN2
  replace h2l:l4 x1 x6=some w2l:=h2l
  unfold l4 at h2l
  refine az (W_rs (kMv rfl (kMvL rfl (kUn (mt rfl Tryz.underlying40) ?_))))
  refine kIn rfl rfl rfl ?_
  refine a7 h2l rfl (fun _ h2l=> ?_) (fun _ h2l=> ?_)
  ·refine ar (az (a4 (W_rs (kMvL rfl (kMv rfl ?_)))))
   obtain⟨x9,hx9,h2l⟩:=af h2l
   refine kUn (fi Tryz.underlying40 Tryz.sizeOf50 hx9) ?_
   refine kUn (de fld50_0 i6) ?_
   refine kUn (cw ty9) ?_
   refine cg h2l (ref10_Path_ok x9.Path) rfl fun x10 _ h2l=>kAs rfl ?_
   refine bj (fun e C=>∃(x15:Bool),qm x6 x15=some w2l/\At [(0,ap en x1),(3,Pr.i64 x6),(44,Pr.bool x15)] [] e C) ?_ ?_
   ·rintro e C ⟨x15,h2l,hat3⟩
    refine W_at hat3 ?_
    unfold qm at h2l
    refine a7 h2l rfl (fun _ h2l=> ?_) (fun _ h2l=> ?_)
    ·refine W_rs (kAs rfl ?_)
     obtain rfl:=ho2 _ (Option.some.inj h2l).symm
     replace h:some 100=some r:=h
     obtain rfl:=osj h
     exact ax ⟨rfl,aa⟩
    refine ar (W_r (kMv rfl (kIn rfl rfl rfl (kAs rfl ?_))))
    exact⟨m2,Nat.lt_succ_self _,w64 (x6+1),hn2 _ (Option.some.inj h2l).symm,atOk⟩
   refine ib 20 hmx (by kernel_rfl) (by kernel_rfl) ?_
   refine lUn (hMvA rfl) (lUn (qNot rfl) (lUn (hMvA rfl) ?_))
   rcases bd h2l with⟨hc11,h2l⟩|⟨hc11,h2l⟩
   ·refine lSkF rfl aa hc11 (lSkF rfl aa hc11 (lSkF rfl aa hc11 (lSkU rfl aa (lSkU rfl aa (lSkU rfl aa (lSkU rfl aa (lSkU rfl aa (lSkU rfl aa (lSkU rfl aa (lSkU rfl aa (lSkU rfl aa ?_)))))))))))
    refine lSkU rfl aa (lSkU rfl aa (lSkU rfl aa (lSkF rfl aa hc11 (lUn (hPt rfl hc11 rfl) ?_))))
    exact⟨true,h2l,atOk⟩
   refine lGd rfl aa hc11 (hMvA rfl) (lGd rfl aa hc11 (qInt rfl rfl rfl) (lGd rfl aa hc11 (hMvA rfl) ?_))
   rcases bd h2l with⟨hc12,h2l⟩|⟨hc12,h2l⟩
   ·refine lGd rfl aa hc12 (hMvL rfl) (lGd rfl aa hc12 (hMvA rfl) (lGd rfl aa hc12 (qInt rfl rfl rfl) ?_))
    obtain⟨x13,hx13,h2l⟩:=af h2l
    refine lGd rfl aa hc12 (fi Tryz.underlying40 Tryz.sizeOf50 hx13) ?_
    refine lGd rfl aa hc12 (de fld50_0 i6) ?_
    refine lGd rfl aa hc12 (cw ty9) ?_
    refine lGd rfl aa hc12 (hMvL rfl) (lGd rfl aa hc12 (hMvA rfl) ?_)
    obtain⟨x14,hx14,h2l⟩:=af h2l
    refine lGd rfl aa hc12 (fi Tryz.underlying40 Tryz.sizeOf50 hx14) ?_
    refine lGd rfl aa hc12 (de fld50_0 i6) ?_
    refine lGd rfl aa hc12 (cw ty9) ?_
    refine lGd rfl aa hc12 (qStr rfl rfl rfl) (lGd rfl aa hc11 (hPt rfl hc12 rfl) (lUn (hPf rfl hc11 rfl) ?_))
    exact⟨!(Op.bytesLess x13.Path x14.Path),h2l,atOk⟩
   refine lSkT rfl aa hc12 (lSkT rfl aa hc12 (lSkT rfl aa hc12 (lSkT rfl aa hc12 (lSkT rfl aa hc12 (lSkT rfl aa hc12 (lSkT rfl aa hc12 (lSkT rfl aa hc12 (lSkT rfl aa hc12 (lSkT rfl aa hc12 (lSkT rfl aa hc12 (lSkT rfl aa hc12 ?_)))))))))))
   refine lGd rfl aa hc11 (hPf rfl hc12 rfl) (lUn (hPf rfl hc11 rfl) ?_)
   exact⟨false,h2l,atOk⟩
  refine ej ?_
  obtain rfl:=ho2 _ (Option.some.inj h2l).symm
  exact⟨h,atOk⟩
 refine W_r (kMvL rfl (kUn (mt rfl Tryz.underlying40) ?_))
 refine kIn rfl rfl rfl (kMv rfl ?_)
 rcases bd h with⟨hc2,h⟩|⟨hc2,h⟩
 ·refine kSkF rfl aa hc2 (kSkF rfl aa hc2 (kSkF rfl aa hc2 (kPt rfl hc2 rfl ?_)))
  exact⟨true,h,atOk⟩
 refine kGd rfl aa hc2 (hMvL rfl) ?_
 obtain⟨x3,hx3,h⟩:=af h
 refine kGd rfl aa hc2 (dl (ref10_Size_ok x1 _ hx3)) ?_
 refine kGd rfl aa hc2 (qInt rfl rfl rfl) (kPf rfl hc2 rfl ?_)
 exact⟨decide (x3>1048576),h,atOk⟩
theorem ref23_Parse_ok (x1:List ApiFile) (r:(List (List ApiNode)) × ApiMistake) (h:ref23_Parse x1=some r):FnP Tryz.prog 32 [ap en x1] (ce [ap (bx rApiNode) r.1,(ai).val r.2]):=by
 refine ep (rs:=[.tmp 2,.cell 3 28]) Tryz.func32 rfl Tryz.ntmps32 Tryz.results32 (by decide) (fun s0=> ?_)
 unfold ref23_Parse at h
 refine W_rs (kAs rfl (a8 al28 fun b2=>W_rs (kMvL rfl (cg h (ref10_Check_ok x1) rfl fun x3 _ h=>kAs rfl (az (W_rs (kMv rfl (kIn rfl rfl rfl ?_))))))))
 refine a7 h rfl (fun _ h=> ?_) (fun _ h=> ?_)
 ·refine W_rs (kMv rfl (kUn (j8 st28 ⟨(ApiMistake.mk x3 0 0),⟨_,rfl,rfl,fun j fd hj hf=>by match j,hj with| 0,h=>exact absurd rfl h| 1,_=>cases hf;rfl| 2,_=>cases hf;rfl|_+3,_=>cases hf⟩,rfl⟩) ?_))
  refine kAs rfl (ak 0 rfl rfl (Upd.refl _) rfl Tryz.sizeOf28 ?_)
  obtain rfl:=osj h
  exact ax ⟨rfl,[ap (bx rApiNode) [],(ai).val (ApiMistake.mk x3 0 0)],⟨yT (cv _),yBox 0 ty28 aa,trivial⟩,aa⟩
 refine ar (W_rs (kAs rfl (az (W_rs (kAs rfl (a4 ?_))))))
 obtain⟨z2l,hz2,h⟩:=af h
 obtain⟨n2,hN2⟩:=bp hz2
 refine d7 0 (fun e C=>∃(x7:List (List ApiNode)),∃(v5:Value),ref23_Parse_k1 x7=some r/\At [(3,aj b2 0),(5,Pr.is v5)] [Own.box b2 ai (ApiMistake.mk 0 0 0),Own.vec v5 (bx rApiNode) x7 44] e C) ?_ ?_
 ·rintro e C ⟨x7,v5,h,hat1⟩
  refine W_at hat1 ?_
  unfold ref23_Parse_k1 at h
  refine W_rs (kMv rfl (kUn (j8 st28 rfl) ?_))
  refine kAs rfl (ak 0 rfl rfl (Upd.refl _) rfl Tryz.sizeOf28 ?_)
  refine W_rel 1 [2] ?_ rfl ⟨rfl,trivial⟩
  obtain rfl:=osj h
  exact ax ⟨rfl,[ap (bx rApiNode) x7,(ai).val (ApiMistake.mk 0 0 0)],⟨yT aa,yBox 0 ty28 aa,trivial⟩,aa⟩
 refine W_nil [5] (bx rApiNode) 44 (fun v19=> ?_) ⟨rfl,trivial⟩
 refine ew (fun m e C=>∃(x6:Int),∃(x7:List (List ApiNode)),∃(v5:Value),ff (fun s=>lv x1 s.1 s.2) m (x6,x7)=some z2l/\At [(0,ap en x1),(3,aj b2 0),(5,Pr.is v5),(6,Pr.i64 x6)] [Own.box b2 ai (ApiMistake.mk 0 0 0),Own.vec v5 (bx rApiNode) x7 44] e C) n2 ⟨0,[],v19,hN2,⟨⟨aa,aa,aa,aa,trivial⟩,Pick.refl _⟩⟩ ?_
 rintro m e C ⟨x6,x7,v5,hN2,hatl2⟩
 refine W_at hatl2 ?_
 obtain⟨m2,w2l,rfl,h2l,hn2,ho2⟩:=bk hN2
 replace h2l:lv x1 x6 x7=some w2l:=h2l
 unfold lv at h2l
 refine az (W_rs (kMv rfl (kMvL rfl (kUn (mt rfl Tryz.underlying40) ?_))))
 refine kIn rfl rfl rfl ?_
 refine a7 h2l rfl (fun _ h2l=> ?_) (fun _ h2l=> ?_)
 ·refine ar (az (a4 (W_rs (kMvL rfl (kMv rfl ?_)))))
  obtain⟨x12,hx12,h2l⟩:=af h2l
  refine kUn (fi Tryz.underlying40 Tryz.sizeOf50 hx12) ?_
  refine kUn (de fld50_1 kz) ?_
  refine kUn (cw ty9) ?_
  obtain⟨⟨x13,x14⟩,hx13,h2l⟩:=af h2l
  refine kUn (dl (ref12_File_ok x12.Text _ hx13)) ?_
  refine kUn (hMv (out:=ce [ap rApiNode x13,(ai).val x14]) rfl) (kUn ao ?_)
  refine kUn ao ?_
  refine a8 al28 fun b15=>kAsL rfl (ak 2 rfl rfl (Upd.refl _) rfl Tryz.sizeOf28 (az (W_rs (kUn (av fld28_0) ?_))))
  refine kUn (bb 2 ty26 gu) ?_
  refine kIn rfl rfl rfl ?_
  refine a7 h2l rfl (fun _ h2l=> ?_) (fun _ h2l=> ?_)
  ·refine W_rs (kMv rfl (kUn (av fld28_1) ?_))
   refine ak 2 rfl rfl updApiMistake_File rfl Tryz.sizeOf3 ?_
   refine bj (fun e C=>ref23_Parse_j3 x14 x6=some w2l/\At [(2,Pr.is (.slice none 0 0)),(3,aj b2 0)] [Own.box b2 ai ({x14 with File:=x6}),Own.box b15 ai ({x14 with File:=x6})] e C) ?_ ?_
   ·rintro e C ⟨h2l,hat3⟩
    refine W_at hat3 ?_
    unfold ref23_Parse_j3 at h2l
    obtain rfl:=ho2 _ (Option.some.inj h2l).symm
    replace h:some ([],{x14 with File:=x6})=some r:=h
    obtain rfl:=osj h
    exact ax ⟨rfl,[ap (bx rApiNode) [],(ai).val ({x14 with File:=x6})],⟨yT (cv _),yBox 0 ty28 aa,trivial⟩,aa⟩
   refine ib 2 hmx (by kernel_rfl) (by kernel_rfl) ?_
   refine lUn (bb 2 ty28 (Sub.refl _)) ?_
   refine lUn (hAsA rfl) (ak 0 rfl rfl (Upd.refl _) rfl Tryz.sizeOf28 ?_)
   exact⟨h2l,⟨⟨aa,aa,trivial⟩,Pick.of [0,2] rfl⟩⟩
  refine ar (W_r (kMv rfl (kMvL rfl (kUn (bt (R:=bx rApiNode) (a:=x13) el67 (Nat.le_of_ble_eq_true rfl)) ?_))))
  obtain⟨x17,hx17,h2l⟩:=af h2l
  refine fg 1 el67 hx17 (fun v18=> ?_)
  refine kAs rfl (W_r (kMv rfl (kIn rfl rfl rfl (kAs rfl ?_))))
  exact⟨m2,Nat.lt_succ_self _,w64 (x6+1),x17,v18,hn2 _ (Option.some.inj h2l).symm,⟨⟨aa,aa,aa,aa,trivial⟩,Pick.of [0,1] rfl⟩⟩
 refine ej ?_
 obtain rfl:=ho2 _ (Option.some.inj h2l).symm
 exact⟨x7,v5,h,atOk⟩
theorem ref28_All_ok (x1:List ApiFile) (r:(List ApiSegment) × ApiMistake) (h:ref28_All x1=some r):FnP Tryz.prog 21 [ap en x1] (ce [ap a6 r.1,(ai).val r.2]):=by
 refine ep (rs:=[.tmp 2,.cell 3 28]) Tryz.func21 rfl Tryz.ntmps21 Tryz.results21 (by decide) (fun s0=> ?_)
 unfold ref28_All at h
 refine W_rs (kAs rfl (a8 al28 fun b2=>W_rs (kMvL rfl ?_)))
 obtain⟨⟨x3,x4⟩,hx3,h⟩:=af h
 refine kUn (dl (ref23_Parse_ok x1 _ hx3)) ?_
 refine kUn (hMv (out:=ce [ap (bx rApiNode) x3,(ai).val x4]) rfl) (kUn ao ?_)
 refine kUn ao ?_
 refine a8 al28 fun b5=>kAsL rfl (ak 1 rfl rfl (Upd.refl _) rfl Tryz.sizeOf28 (az (W_rs (kUn (av fld28_0) ?_))))
 refine kUn (bb 1 ty26 gu) ?_
 refine kIn rfl rfl rfl ?_
 refine a7 h rfl (fun _ h=> ?_) (fun _ h=> ?_)
 ·refine bj (fun e C=>ref28_All_j1 x4=some r/\At [(2,Pr.is (.slice none 0 0)),(3,aj b2 0)] [Own.box b2 ai x4,Own.box b5 ai x4] e C) ?_ ?_
  ·rintro e C ⟨h,hat1⟩
   refine W_at hat1 ?_
   unfold ref28_All_j1 at h
   obtain rfl:=osj h
   exact ax ⟨rfl,[ap a6 [],(ai).val x4],⟨yT (cv _),yBox 0 ty28 aa,trivial⟩,aa⟩
  refine ib 2 hmx (by kernel_rfl) (by kernel_rfl) ?_
  refine lUn (bb 1 ty28 (Sub.refl _)) ?_
  refine lUn (hAsA rfl) (ak 0 rfl rfl (Upd.refl _) rfl Tryz.sizeOf28 ?_)
  exact⟨h,atOk⟩
 refine ar (W_rs (kAs rfl (az (W_rs (kAs rfl (a4 ?_))))))
 obtain⟨z3l,hz3,h⟩:=af h
 obtain⟨n3,hN3⟩:=bp hz3
 refine d7 0 (fun e C=>∃(x9:List ApiSegment),∃(v7:Value),ref28_All_k2 x9=some r/\At [(3,aj b2 0),(6,Pr.is v7)] [Own.box b2 ai (ApiMistake.mk 0 0 0),Own.box b5 ai x4,Own.vec v7 a6 x9 25] e C) ?_ ?_
 ·rintro e C ⟨x9,v7,h,hat2⟩
  refine W_at hat2 ?_
  unfold ref28_All_k2 at h
  refine W_rs (kMv rfl (kUn (j8 st28 rfl) ?_))
  refine kAs rfl (ak 0 rfl rfl (Upd.refl _) rfl Tryz.sizeOf28 ?_)
  refine W_rel 2 [2] ?_ rfl ⟨rfl,trivial⟩
  obtain rfl:=osj h
  exact ax ⟨rfl,[ap a6 x9,(ai).val (ApiMistake.mk 0 0 0)],⟨yT aa,yBox 0 ty28 aa,trivial⟩,aa⟩
 refine W_nil [6] a6 25 (fun v24=> ?_) ⟨rfl,trivial⟩
 refine ew (fun m e C=>∃(x8:Int),∃(x9:List ApiSegment),∃(v7:Value),ff (fun s=>mx x1 s.1 s.2) m (x8,x9)=some z3l/\At [(0,ap en x1),(3,aj b2 0),(6,Pr.is v7),(7,Pr.i64 x8)] [Own.box b2 ai (ApiMistake.mk 0 0 0),Own.box b5 ai x4,Own.vec v7 a6 x9 25] e C) n3 ⟨0,[],v24,hN3,⟨⟨aa,aa,aa,aa,trivial⟩,Pick.refl _⟩⟩ ?_
 rintro m e C ⟨x8,x9,v7,hN3,hatl3⟩
 refine W_at hatl3 ?_
 obtain⟨m3,w3l,rfl,h3l,hn3,ho3⟩:=bk hN3
 replace h3l:mx x1 x8 x9=some w3l:=h3l
 unfold mx at h3l
 refine az (W_rs (kMv rfl (kMvL rfl (kUn (mt rfl Tryz.underlying40) ?_))))
 refine kIn rfl rfl rfl ?_
 refine a7 h3l rfl (fun _ h3l=> ?_) (fun _ h3l=> ?_)
 ·refine ar (az (a4 (W_rs (kMvL rfl (kMv rfl ?_)))))
  obtain⟨x14,hx14,h3l⟩:=af h3l
  refine kUn (fi Tryz.underlying40 Tryz.sizeOf50 hx14) ?_
  refine kUn (de fld50_1 kz) ?_
  refine kUn (cw ty9) ?_
  obtain⟨⟨x15,x16⟩,hx15,h3l⟩:=af h3l
  refine jp [] (ref28_Split_ok x14.Text _ hx15) (fun q C' hq=> ?_)
  obtain⟨v17,rfl,rfl⟩:=hq
  refine kUn (hMv (out:=ce [Pr.is v17,(ai).val x16]) rfl) (kUn ao ?_)
  refine kUn ao ?_
  refine a8 al28 fun b18=>kAs rfl (ak 4 rfl rfl (Upd.refl _) rfl Tryz.sizeOf28 (W_rs (kMv rfl (kMv rfl (kUn (qLenV 0 rfl Tryz.underlying22) ?_)))))
  refine kIn rfl rfl rfl (kMvL rfl (kMv rfl ?_))
  obtain⟨x19,hx19,h3l⟩:=af h3l
  refine kUn (fi Tryz.underlying40 Tryz.sizeOf50 hx19) ?_
  refine kUn (de fld50_0 i6) ?_
  refine kUn (cw ty9) ?_
  obtain⟨x20,hx20,h3l⟩:=af h3l
  refine kUn (qCat' hx20) ?_
  obtain⟨x21,hx21,h3l⟩:=af h3l
  refine kUn (qIdxV 0 (R:=a6) (l:=x15) Tryz.underlying22 Tryz.sizeOf25 hx21) ?_
  refine kUn (qFieldV fld25_0) ?_
  refine rStoreE (R:=a6) (R':=ct) (l:=x15) (a:=x21) (y:=x20) (o:=0) 0 Tryz.sizeOf9 updApiSegment_Key hx21 rfl ?_
  refine W_r (kMv rfl (kMv rfl ?_))
  obtain⟨x22,hx22,h3l⟩:=af h3l
  refine rRel 0 [8,47] ?_ rfl ⟨rfl,rfl,trivial⟩
  refine fg 2 el22 hx22 (fun v23=> ?_)
  refine kAs rfl (W_r (kMv rfl (kIn rfl rfl rfl (kAs rfl ?_))))
  exact⟨m3,Nat.lt_succ_self _,w64 (x8+1),x22,v23,hn3 _ (Option.some.inj h3l).symm,⟨⟨aa,aa,aa,aa,trivial⟩,Pick.of [0,1,2] rfl⟩⟩
 refine ej ?_
 obtain rfl:=ho3 _ (Option.some.inj h3l).symm
 exact⟨x9,v7,h,atOk⟩
theorem law28_SegmentTrees_ok (x1:List ApiFile) (r:Bool) (h:ox x1=some r):FnP Tryz.prog 4 [ap en x1] (Pr.bool r):=by
 refine cm (rs:=[2]) Tryz.func4 rfl Tryz.ntmps4 ⟨by decide,Tryz.results4⟩ (by decide) (fun s0=> ?_)
 unfold ox at h
 refine W_rs (kAs rfl (W_rs (cg h (law28_awake_ok) rfl fun x2 _ h=>kAs rfl (az (W_rs (kMv rfl (kNo rfl ?_)))))))
 refine a7 h rfl (fun _ h=> ?_) (fun _ h=> ?_)
 ·refine W_rs (kAs rfl ?_)
  obtain rfl:=osj h
  exact ax ⟨rfl,aa⟩
 refine ar (W_rs (kMvL rfl (cg h (ref10_Few_ok x1 10 2500) rfl fun x4 _ h=>kAs rfl (az (W_rs (kMv rfl (kNo rfl ?_)))))))
 refine a7 h rfl (fun _ h=> ?_) (fun _ h=> ?_)
 ·refine W_rs (kAs rfl ?_)
  obtain rfl:=osj h
  exact ax ⟨rfl,aa⟩
 refine ar (W_rs (kMvL rfl ?_))
 obtain⟨⟨x6,x7⟩,hx6,h⟩:=af h
 refine kUn (dl (segment_All_ok x1 _ hx6)) ?_
 refine kUn (hMv (out:=ce [ap a6 x6,(ai).val x7]) rfl) (kUn ao ?_)
 refine kUn ao ?_
 refine a8 al28 fun b8=>kAsL rfl (ak 0 rfl rfl (Upd.refl _) rfl Tryz.sizeOf28 (W_rs (kMvL rfl ?_)))
 obtain⟨⟨x9,x10⟩,hx9,h⟩:=af h
 refine kUn (dl (ref28_All_ok x1 _ hx9)) ?_
 refine kUn (hMv (out:=ce [ap a6 x9,(ai).val x10]) rfl) (kUn ao ?_)
 refine kUn ao ?_
 refine a8 al28 fun b11=>kAsL rfl (ak 1 rfl rfl (Upd.refl _) rfl Tryz.sizeOf28 ?_)
 refine bj (fun e C=>∃(x14:Bool),i1 x14=some r/\At [(2,Pr.bool x14)] [Own.box b8 ai x7,Own.box b11 ai x10] e C) ?_ ?_
 ·rintro e C ⟨x14,h,hat1⟩
  refine W_at hat1 ?_
  unfold i1 at h
  obtain rfl:=osj h
  exact ax ⟨rfl,aa⟩
 refine W_r (kUn (bb 0 ty28 (Sub.refl _)) ?_)
 refine kUn (bb 1 ty28 (Sub.refl _)) ?_
 refine kUn (qStEq (a:=x7) (b:=x10) eqApiMistake (by decide) rfl eqgApiMistake) ?_
 refine kMv rfl ?_
 rcases bd h with⟨hc12,h⟩|⟨hc12,h⟩
 ·refine kGd rfl aa hc12 (hMvL rfl) (kGd rfl aa hc12 (hMvL rfl) ?_)
  obtain⟨x13,hx13,h⟩:=af h
  refine kGd rfl aa hc12 (dl (ref28_Same_ok x6 x9 _ hx13)) ?_
  refine kPt rfl hc12 rfl (kAs rfl ?_)
  exact⟨x13,h,atOk⟩
 refine kSkT rfl aa hc12 (kSkT rfl aa hc12 (kSkT rfl aa hc12 (kPf rfl hc12 rfl (kAs rfl ?_))))
 exact⟨false,h,atOk⟩
end Go.Proofs.YteablckbgpogiaaGreatDoor
