/- The code comes to what these functions say (printed by wip/gen/gen.py). -/
import Derived.Test.YtcndghapmoaidaaGreatDoorZX
import Derived.Test.YtcndghapmoaidaaGreatDoorZP7
import Derived.Test.YtcndghapmoaidaaGreatDoorZT
set_option linter.unusedSimpArgs false
set_option linter.unusedVariables false
set_option linter.unusedSectionVars false
set_option linter.unusedSectionVars false
set_option maxRecDepth 100000
set_option maxHeartbeats 4000000
namespace Go.Proofs.YtcndghapmoaidaaGreatDoor
open Go Go.Cn
attribute [local irreducible] eg ar
theorem ref17_ClassOf_ok (x1:List ApiEntity) (x2:List UInt8) (r:ApiEntity × Bool) (h:pl x1 x2=some r):FnP Tryz.prog 61 [ar ag x1,bq x2] (br [(ag).val r.1,Pr.bool r.2]):=by
 refine c7 (rs:=[.cell 4 49,.tmp 5]) Tryz.func61 rfl Tryz.ntmps61 Tryz.results61 (by decide) (fun s0=> ?_)
 unfold pl at h
 refine W_rs (bw kh fun b3=>kAs rfl (ba (W_rs (kAs rfl (a5 ?_)))))
 obtain⟨z2l,hz2,h⟩:=aj h
 obtain⟨n2,hN2⟩:=bt hz2
 refine cv 0 (fun e C=>ref17_ClassOf_k1=some r/\At [(4,ao b3 0)] [Own.box b3 ag (ApiEntity.mk 0 [] [] [] [] false [] 0 0)] e C) ?_ ?_
 ·rintro e C ⟨h,hat1⟩
  refine W_at hat1 ?_
  unfold ref17_ClassOf_k1 at h
  refine W_rs (kUn (fu st49 rfl) ?_)
  refine ax 0 rfl rfl (Upd.refl _) rfl Tryz.sizeOf49 (kAs rfl ?_)
  obtain rfl:=osj h
  exact bh ⟨rfl,[(ag).val (ApiEntity.mk 0 [] [] [] [] false [] 0 0),Pr.bool false],⟨yBox 0 ty49 aa,yT aa,trivial⟩,aa⟩
 refine da (fun m e C=>∃(x4:Int),dn (fun s=>jl x1 x2 s) m x4=some z2l/\At [(0,ar ag x1),(1,bq x2),(4,ao b3 0),(6,Pr.i64 x4)] [Own.box b3 ag (ApiEntity.mk 0 [] [] [] [] false [] 0 0)] e C) n2 ⟨0,hN2,⟨⟨aa,aa,aa,aa,trivial⟩,Pick.refl _⟩⟩ ?_
 rintro m e C ⟨x4,hN2,hatl2⟩
 refine W_at hatl2 ?_
 obtain⟨m2,w2l,rfl,h2l,hn2,ho2⟩:=bk hN2
 replace h2l:jl x1 x2 x4=some w2l:=h2l
 unfold jl at h2l
 refine ba (W_rs (kMv rfl (kMvL rfl (kUn (gy rfl Tryz.underlying38) ?_))))
 refine kIn rfl rfl rfl ?_
 refine a8 h2l rfl (fun _ h2l=> ?_) (fun _ h2l=> ?_)
 ·refine az (ba (a5 ?_))
  refine bj (fun e C=>∃(x10:Bool),nq x1 x4 x10=some w2l/\At [(0,ar ag x1),(1,bq x2),(4,ao b3 0),(6,Pr.i64 x4),(27,Pr.bool x10)] [Own.box b3 ag (ApiEntity.mk 0 [] [] [] [] false [] 0 0)] e C) ?_ ?_
  ·rintro e C ⟨x10,h2l,hat3⟩
   refine W_at hat3 ?_
   unfold nq at h2l
   refine a8 h2l rfl (fun _ h2l=> ?_) (fun _ h2l=> ?_)
   ·refine W_rs (kMvL rfl (kMv rfl ?_))
    obtain⟨x12,hx12,h2l⟩:=aj h2l
    refine kUn (dh Tryz.underlying38 Tryz.sizeOf49 hx12) ?_
    refine kUn (cl ty49) ?_
    refine ax 0 rfl rfl (Upd.refl _) rfl Tryz.sizeOf49 (kAs rfl ?_)
    obtain rfl:=ho2 _ (Option.some.inj h2l).symm
    replace h:some (x12,true)=some r:=h
    obtain rfl:=osj h
    exact bh ⟨rfl,[(ag).val x12,Pr.bool true],⟨yBox 0 ty49 aa,yT aa,trivial⟩,aa⟩
   refine az (W_r (kMv rfl (kIn rfl rfl rfl (kAs rfl ?_))))
   exact⟨m2,Nat.lt_succ_self _,w64 (x4+1),hn2 _ (Option.some.inj h2l).symm,atOk⟩
  refine W_r (kMvL rfl (kMv rfl ?_))
  obtain⟨x7,hx7,h2l⟩:=aj h2l
  refine kUn (dh Tryz.underlying38 Tryz.sizeOf49 hx7) ?_
  refine kUn (eh mv de) ?_
  refine kUn (cl ty3) ?_
  refine kIn rfl rfl rfl (kMv rfl ?_)
  rcases bg h2l with⟨hc8,h2l⟩|⟨hc8,h2l⟩
  ·refine kGd rfl aa hc8 (hMvL rfl) (kGd rfl aa hc8 (hMvA rfl) ?_)
   obtain⟨x9,hx9,h2l⟩:=aj h2l
   refine kGd rfl aa hc8 (dh Tryz.underlying38 Tryz.sizeOf49 hx9) ?_
   refine kGd rfl aa hc8 (eh li d9) ?_
   refine kGd rfl aa hc8 (cl ty9) ?_
   refine kGd rfl aa hc8 (hMvA rfl) (kGd rfl aa hc8 (qStr rfl rfl rfl) (kPt rfl hc8 rfl ?_))
   exact⟨x9.Id==x2,h2l,atOk⟩
  refine kSkT rfl aa hc8 (kSkT rfl aa hc8 (kSkT rfl aa hc8 (kSkT rfl aa hc8 (kSkT rfl aa hc8 (kSkT rfl aa hc8 (kSkT rfl aa hc8 (kPf rfl hc8 rfl ?_)))))))
  exact⟨false,h2l,atOk⟩
 refine db ?_
 obtain rfl:=ho2 _ (Option.some.inj h2l).symm
 exact⟨h,atOk⟩
end Go.Proofs.YtcndghapmoaidaaGreatDoor
