/- The code comes to what these functions say (printed by wip/gen/gen.py). -/
import Derived.Test.YtcndghapmoaidaaGreatDoorZX
import Derived.Test.YtcndghapmoaidaaGreatDoorZP10
import Derived.Test.YtcndghapmoaidaaGreatDoorZT
set_option linter.unusedSimpArgs false
set_option linter.unusedVariables false
set_option linter.unusedSectionVars false
set_option linter.unusedSectionVars false
set_option maxRecDepth 100000
set_option maxHeartbeats 4000000
namespace Go.Proofs.YtcndghapmoaidaaGreatDoor
open Go Go.Cn
attribute [local irreducible] eg ar
theorem types_method_ok (x1:List ApiEntity) (x2:List UInt8) (x3:Int) (x4:ApiNode) (r:PX TypesWrong Unit) (h:types_method x1 x2 x3 x4=some r):FnX Tryz.prog 55 [ar ag x1,bq x2,Pr.i64 x3,(af).val x4] [] (fun q C'=>∃a9,r= .ok a9/\q=br []/\C'=[]) (fun v=>∃m,r= .bad m/\v=gq m):=by
 refine gt (rs:=[]) Tryz.func55 rfl Tryz.ntmps55 ⟨by decide,Tryz.results55⟩ (by decide) (fun s0=> ?_)
 unfold types_method at h
 refine W_rs ?_
 refine rBox (R:=af) (a:=x4) rfl (fun b5=> ?_)
 refine W_rs (kMvL rfl (kMv rfl (kUn (ak fld64_3) ?_)))
 refine kUn (au 0 ty2 subApiNode_N) ?_
 refine kIn rfl rfl rfl (kUn (fu st66 ⟨(BindScope.mk x1 [] false []),⟨_,rfl,rfl,fun j fd hj hf=>by match j,hj with| 0,h=>exact absurd rfl h| 1,_=>cases hf;rfl| 2,_=>cases hf;rfl| 3,_=>cases hf;rfl|_+4,_=>cases hf⟩,⟨(BindScope.mk x1 x2 false []),⟨_,rfl,rfl,fun j fd hj hf=>by match j,hj with| 0,_=>cases hf;rfl| 1,h=>exact absurd rfl h| 2,_=>cases hf;rfl| 3,_=>cases hf;rfl|_+4,_=>cases hf⟩,⟨(BindScope.mk x1 x2 (x4.N==1) []),⟨_,rfl,rfl,fun j fd hj hf=>by match j,hj with| 0,_=>cases hf;rfl| 1,_=>cases hf;rfl| 2,h=>exact absurd rfl h| 3,_=>cases hf;rfl|_+4,_=>cases hf⟩,rfl⟩⟩⟩) ?_)
 refine kUn (ak pz) ?_
 refine kUn (au 0 ty9 d8) ?_
 refine kMv rfl (kUn (fu st138 ⟨(TypesChecker.mk (BindScope.mk x1 x2 (x4.N==1) []) [] 0),⟨_,rfl,rfl,fun j fd hj hf=>by match j,hj with| 0,h=>exact absurd rfl h| 1,_=>cases hf;rfl| 2,_=>cases hf;rfl|_+3,_=>cases hf⟩,⟨(TypesChecker.mk (BindScope.mk x1 x2 (x4.N==1) []) x4.Type_ 0),⟨_,rfl,rfl,fun j fd hj hf=>by match j,hj with| 0,_=>cases hf;rfl| 1,h=>exact absurd rfl h| 2,_=>cases hf;rfl|_+3,_=>cases hf⟩,⟨(TypesChecker.mk (BindScope.mk x1 x2 (x4.N==1) []) x4.Type_ x3),⟨_,rfl,rfl,fun j fd hj hf=>by match j,hj with| 0,_=>cases hf;rfl| 1,_=>cases hf;rfl| 2,h=>exact absurd rfl h|_+3,_=>cases hf⟩,rfl⟩⟩⟩) ?_)
 refine bw al138 fun b6=>ax 1 rfl rfl (Upd.refl _) rfl Tryz.sizeOf138 (W_rs (kUn (ak ei) ?_))
 refine kUn (au 0 ty53 bu) ?_
 refine kUn (gy rfl Tryz.underlying53) ?_
 refine kIn rfl rfl rfl (kAs rfl (ba (W_rs (kUn (ak ei) ?_))))
 refine kUn (au 0 ty53 bu) ?_
 refine kMv rfl ?_
 obtain⟨x7,hx7,h⟩:=aj h
 refine kUn (qLSubH Tryz.underlying53 Tryz.sizeOf64 hx7) ?_
 refine kUn (gy rfl Tryz.underlying53) ?_
 refine kMv rfl (a5 ?_)
 obtain⟨z2l,hz2,h⟩:=aj h
 obtain⟨n2,hN2⟩:=bt hz2
 refine cv 0 (fun e C=>∃(x9:TypesChecker),types_method_k1 x4 x9=some r/\At [(7,ao b5 0),(8,ao b6 0),(9,Pr.i64 (w64 ((x4.Kids.length:Int) - 1)))] [Own.box b5 af x4,Own.box b6 ap x9] e C) ?_ ?_
 ·rintro e C ⟨x9,h,hat1⟩
  refine W_at hat1 ?_
  unfold types_method_k1 at h
  refine e7 6 hmx (by kernel_rfl) (by kernel_rfl) ?_
  refine lUn (au 1 ny (Sub.refl _)) ?_
  refine lUn (ak ei) ?_
  refine lUn (au 0 ty53 bu) ?_
  refine lUn (hMvA rfl) ?_
  obtain⟨x16,hx16,h⟩:=aj h
  refine lUn (dh Tryz.underlying53 Tryz.sizeOf64 hx16) ?_
  refine lUn (cl ty64) ?_
  rcases cn h with⟨m18,hm18,h⟩|⟨_,hx17,h⟩
  ·refine c6 [] (pv x9 x16 _ hm18) ⟨aa,aa,trivial⟩ (fun q C' hq=> ?_) (fun v9 hv=> ?_)
   ·obtain⟨_,h9,_⟩:=hq;cases h9
   obtain⟨_,h9,rfl⟩:=hv
   cases h9
   obtain rfl:=osj h
   exact .inr ⟨_,rfl,_,rfl,rfl⟩
  refine c6 [] (pv x9 x16 _ hx17) ⟨aa,aa,trivial⟩ (fun q C' hq=> ?_) (fun v9 hv=>by obtain⟨_,h9,_⟩:=hv;cases h9)
  obtain⟨_,h9,rfl,rfl⟩:=hq
  cases h9
  refine rCtx [Own.box b5 af x4,Own.box b6 ap x9] ?_
  obtain rfl:=osj h
  exact(.inl ⟨.inr rfl,_,Pick.of [] rfl,_,aa,_,rfl,rfl,rfl⟩)
 refine da (fun m e C=>∃(x8:Int),∃(x9:TypesChecker),dn (fun s=>types_method_l2 x7 s.1 s.2) m (x8,x9)=some z2l/\At [(7,ao b5 0),(8,ao b6 0),(9,Pr.i64 (w64 ((x4.Kids.length:Int) - 1))),(29,ar af x7),(30,Pr.i64 (x7.length:Int)),(31,Pr.i64 x8)] [Own.box b5 af x4,Own.box b6 ap x9] e C) n2 ⟨0,(TypesChecker.mk (BindScope.mk x1 x2 (x4.N==1) []) x4.Type_ x3),hN2,⟨⟨aa,aa,aa,aa,aa,aa,trivial⟩,Pick.refl _⟩⟩ ?_
 rintro m e C ⟨x8,x9,hN2,hatl2⟩
 refine W_at hatl2 ?_
 obtain⟨m2,w2l,rfl,h2l,hn2,ho2⟩:=bk hN2
 replace h2l:types_method_l2 x7 x8 x9=some w2l:=h2l
 unfold types_method_l2 at h2l
 refine W_rs (kIn rfl rfl rfl (ba ?_))
 refine a8 h2l rfl (fun _ h2l=> ?_) (fun _ h2l=> ?_)
 ·refine az (ba (a5 (W_rs ?_)))
  obtain⟨x13,hx13,h2l⟩:=aj h2l
  refine kUn (dh Tryz.underlying53 Tryz.sizeOf64 hx13) ?_
  refine kUn (cl ty64) ?_
  refine bw al64 fun b14=>ax 2 rfl rfl (Upd.refl _) rfl Tryz.sizeOf64 (W_r (kUn (au 1 ny (Sub.refl _)) ?_))
  refine kUn (au 2 ty64 (Sub.refl _)) ?_
  refine ct h2l (types_checker_with_ok x9 x13) rfl fun x15 _ h2l=>ax 1 rfl rfl (Upd.refl _) rfl Tryz.sizeOf138 (W_r (kIn rfl rfl rfl (kMv rfl ?_)))
  exact⟨m2,Nat.lt_succ_self _,w64 (x8+1),x15,hn2 _ (Option.some.inj h2l).symm,⟨⟨aa,aa,aa,aa,aa,aa,trivial⟩,Pick.of [0,1] rfl⟩⟩
 refine db ?_
 obtain rfl:=ho2 _ (Option.some.inj h2l).symm
 exact⟨x9,h,atOk⟩
theorem ref18_May_ok (x1:List ApiEntity) (x2 x3:List UInt8) (r:Bool) (h:ref18_May x1 x2 x3=some r):FnP Tryz.prog 29 [ar ag x1,bq x2,bq x3] (Pr.bool r):=by
 refine cz (rs:=[6]) Tryz.func29 rfl Tryz.ntmps29 ⟨by decide,Tryz.results29⟩ (by decide) (fun s0=> ?_)
 unfold ref18_May at h
 refine W_rs (kAs rfl (ba ?_))
 refine bj (fun e C=>∃(x5:Bool),ref18_May_j3 x1 x3 x2 x5=some r/\At [(0,ar ag x1),(1,bq x2),(2,bq x3),(17,Pr.bool x5)] [] e C) ?_ ?_
 ·rintro e C ⟨x5,h,hat3⟩
  refine W_at hat3 ?_
  unfold ref18_May_j3 at h
  refine a8 h rfl (fun _ h=> ?_) (fun _ h=> ?_)
  ·refine W_rs (kAs rfl ?_)
   obtain rfl:=osj h
   exact bh ⟨rfl,aa⟩
  refine az (W_rs (kMvL rfl (kMv rfl ?_)))
  obtain⟨⟨x7,x8⟩,hx7,h⟩:=aj h
  refine kUn (c5 (ref17_ClassOf_ok x1 x3 _ hx7)) ?_
  refine kUn (hMv (out:=br [(ag).val x7,Pr.bool x8]) rfl) (kUn aw ?_)
  refine kUn aw ?_
  refine bw kh fun b9=>ax 0 rfl rfl (Upd.refl _) rfl Tryz.sizeOf49 (kAs rfl (ba ?_))
  refine bj (fun e C=>∃(x14:Bool),o3 x8 x1 x2 x3 x14=some r/\At [(0,ar ag x1),(1,bq x2),(2,bq x3),(8,Pr.bool x8),(37,Pr.bool x14)] [Own.box b9 ag x7] e C) ?_ ?_
  ·rintro e C ⟨x14,h,hat2⟩
   refine W_at hat2 ?_
   unfold o3 at h
   refine a8 h rfl (fun _ h=> ?_) (fun _ h=> ?_)
   ·refine W_rs (kAs rfl ?_)
    obtain rfl:=osj h
    exact bh ⟨rfl,aa⟩
   refine az (ba (W_rs (kMv rfl (kNo rfl ?_))))
   refine a8 h rfl (fun _ h=> ?_) (fun _ h=> ?_)
   ·refine W_rs (kAs rfl ?_)
    obtain rfl:=osj h
    exact bh ⟨rfl,aa⟩
   refine az (W_rs (kMvL rfl (kMv rfl ?_)))
   obtain⟨⟨x17,x18⟩,hx17,h⟩:=aj h
   refine kUn (c5 (ref17_ClassOf_ok x1 x2 _ hx17)) ?_
   refine kUn (hMv (out:=br [(ag).val x17,Pr.bool x18]) rfl) (kUn aw ?_)
   refine kUn aw ?_
   refine bw kh fun b19=>ax 1 rfl rfl (Upd.refl _) rfl Tryz.sizeOf49 (kAs rfl (W_rs (kMvL rfl (kMv rfl (kMv rfl (ct h (ref16_Below_ok x1 x2 x3) rfl fun x20 _ h=>kAs rfl ?_))))))
   refine bj (fun e C=>∃(x23:Bool),r6 x23=some r/\At [(6,Pr.bool x23)] [Own.box b9 ag x7,Own.box b19 ag x17] e C) ?_ ?_
   ·rintro e C ⟨x23,h,hat1⟩
    refine W_at hat1 ?_
    unfold r6 at h
    obtain rfl:=osj h
    exact bh ⟨rfl,aa⟩
   refine W_r (kMv rfl (kSt rfl rfl rfl (kMv rfl ?_)))
   rcases bg h with⟨hc21,h⟩|⟨hc21,h⟩
   ·refine kSkF rfl aa hc21 (kSkF rfl aa hc21 (kSkU rfl aa (kSkF rfl aa hc21 (kPt rfl hc21 rfl (kAs rfl ?_)))))
    exact⟨true,h,atOk⟩
   refine kGd rfl aa hc21 (hMvA rfl) (kGd rfl aa hc21 (hMvA rfl) ?_)
   rcases bg h with⟨hc22,h⟩|⟨hc22,h⟩
   ·refine kGd rfl aa hc22 (hMvA rfl) (kGd rfl aa hc21 (hPt rfl hc22 rfl) (kPf rfl hc21 rfl (kAs rfl ?_)))
    exact⟨x20,h,atOk⟩
   refine kSkT rfl aa hc22 (kGd rfl aa hc21 (hPf rfl hc22 rfl) (kPf rfl hc21 rfl (kAs rfl ?_)))
   exact⟨false,h,atOk⟩
  refine W_r (kMv rfl (kMv rfl (kSt rfl rfl rfl (kMv rfl ?_))))
  rcases bg h with⟨hc10,h⟩|⟨hc10,h⟩
  ·refine kGd rfl aa hc10 (hMvA rfl) (kGd rfl aa hc10 (qStr rfl rfl rfl) (kGd rfl aa hc10 (hMvA rfl) ?_))
   rcases bg h with⟨hc11,h⟩|⟨hc11,h⟩
   ·refine kSkF rfl aa hc11 (kSkF rfl aa hc11 (kGd rfl aa hc10 (hPt rfl hc11 rfl) (kGd rfl aa hc10 (hMvA rfl) ?_)))
    have hc13:true=true:=rfl
    refine kSkF rfl aa hc13 (kGd rfl aa hc10 (hPt rfl hc13 rfl) (kPt rfl hc10 rfl ?_))
    exact⟨true,h,atOk⟩
   refine kGd rfl aa hc11 (hMvA rfl) (kGd rfl aa hc11 (qStr rfl rfl rfl) (kGd rfl aa hc10 (hPf rfl hc11 rfl) (kGd rfl aa hc10 (hMvA rfl) ?_)))
   rcases bg h with⟨hc12,h⟩|⟨hc12,h⟩
   ·refine kSkF rfl aa hc12 (kGd rfl aa hc10 (hPt rfl hc12 rfl) (kPt rfl hc10 rfl ?_))
    exact⟨true,h,atOk⟩
   refine kGd rfl aa hc12 (hMvA rfl) (kGd rfl aa hc10 (hPf rfl hc12 rfl) (kPt rfl hc10 rfl ?_))
   exact⟨x8,h,atOk⟩
  refine kSkT rfl aa hc10 (kSkT rfl aa hc10 (kSkT rfl aa hc10 (kSkU rfl aa (kSkU rfl aa (kSkT rfl aa hc10 (kSkT rfl aa hc10 (kSkU rfl aa (kSkT rfl aa hc10 (kPf rfl hc10 rfl ?_)))))))))
  exact⟨false,h,atOk⟩
 refine W_r (kMv rfl (kSt rfl rfl rfl (kMv rfl ?_)))
 rcases bg h with⟨hc4,h⟩|⟨hc4,h⟩
 ·refine kSkF rfl aa hc4 (kSkF rfl aa hc4 (kPt rfl hc4 rfl ?_))
  exact⟨true,h,atOk⟩
 refine kGd rfl aa hc4 (hMvA rfl) (kGd rfl aa hc4 (qStr rfl rfl rfl) (kPf rfl hc4 rfl ?_))
 exact⟨x2==([118,111,105,100]:List UInt8),h,atOk⟩
theorem ref18_in_ok (x1:List UInt8) (x2:List (List UInt8)) (r:Bool) (h:ref18_in x1 x2=some r):FnP Tryz.prog 64 [bq x1,ar a7 x2] (Pr.bool r):=by
 refine cz (rs:=[4]) Tryz.func64 rfl Tryz.ntmps64 ⟨by decide,Tryz.results64⟩ (by decide) (fun s0=> ?_)
 unfold ref18_in at h
 refine W_rs (kAs rfl (ba (W_rs (kAs rfl (a5 ?_)))))
 obtain⟨z2l,hz2,h⟩:=aj h
 obtain⟨n2,hN2⟩:=bt hz2
 refine cv 0 (fun e C=>ref18_in_k1=some r/\At [] [] e C) ?_ ?_
 ·rintro e C ⟨h,hat1⟩
  refine W_at hat1 ?_
  unfold ref18_in_k1 at h
  refine W_rs (kAs rfl ?_)
  obtain rfl:=osj h
  exact bh ⟨rfl,aa⟩
 refine da (fun m e C=>∃(x3:Int),dn (fun s=>rc x2 x1 s) m x3=some z2l/\At [(0,bq x1),(1,ar a7 x2),(5,Pr.i64 x3)] [] e C) n2 ⟨0,hN2,⟨⟨aa,aa,aa,trivial⟩,Pick.refl _⟩⟩ ?_
 rintro m e C ⟨x3,hN2,hatl2⟩
 refine W_at hatl2 ?_
 obtain⟨m2,w2l,rfl,h2l,hn2,ho2⟩:=bk hN2
 replace h2l:rc x2 x1 x3=some w2l:=h2l
 unfold rc at h2l
 refine ba (W_rs (kMv rfl (kMvL rfl (kUn (gy rfl Tryz.underlying22) ?_))))
 refine kIn rfl rfl rfl ?_
 refine a8 h2l rfl (fun _ h2l=> ?_) (fun _ h2l=> ?_)
 ·refine az (ba (a5 (W_rs (kMvL rfl (kMv rfl ?_)))))
  obtain⟨x6,hx6,h2l⟩:=aj h2l
  refine kUn (dh Tryz.underlying22 Tryz.sizeOf9 hx6) ?_
  refine kUn (cl ty9) ?_
  refine kMv rfl (kSt rfl rfl rfl ?_)
  refine a8 h2l rfl (fun _ h2l=> ?_) (fun _ h2l=> ?_)
  ·refine W_rs (kAs rfl ?_)
   obtain rfl:=ho2 _ (Option.some.inj h2l).symm
   replace h:some true=some r:=h
   obtain rfl:=osj h
   exact bh ⟨rfl,aa⟩
  refine az (W_r (kMv rfl (kIn rfl rfl rfl (kAs rfl ?_))))
  exact⟨m2,Nat.lt_succ_self _,w64 (x3+1),hn2 _ (Option.some.inj h2l).symm,atOk⟩
 refine db ?_
 obtain rfl:=ho2 _ (Option.some.inj h2l).symm
 exact⟨h,atOk⟩
theorem ref18_Operator_ok (x1:List ApiEntity) (x2 x3 x4:List UInt8) (r:(List UInt8)) (h:qo x1 x2 x3 x4=some r):FnP Tryz.prog 31 [ar ag x1,bq x2,bq x3,bq x4] (bq r):=by
 refine cz (rs:=[8]) Tryz.func31 rfl Tryz.ntmps31 ⟨by decide,Tryz.results31⟩ (by decide) (fun s0=> ?_)
 unfold qo at h
 refine W_rs (kAs rfl ?_)
 refine bj (fun e C=>∃(x6:Bool),mj x3 x2 x1 x4 x6=some r/\At [(0,ar ag x1),(1,bq x2),(2,bq x3),(3,bq x4),(9,Pr.bool x6)] [] e C) ?_ ?_
 ·rintro e C ⟨x6,h,hat4⟩
  refine W_at hat4 ?_
  unfold mj at h
  refine bj (fun e C=>∃(x8:Bool),ml x2 x1 x3 x4 x6 x8=some r/\At [(0,ar ag x1),(1,bq x2),(2,bq x3),(3,bq x4),(9,Pr.bool x6),(10,Pr.bool x8)] [] e C) ?_ ?_
  ·rintro e C ⟨x8,h,hat3⟩
   refine W_at hat3 ?_
   unfold ml at h
   refine W_rs (kMv rfl (kUn (gh (R:=a7) (ls:=([([43]:List UInt8),([45]:List UInt8),([42]:List UInt8),([47]:List UInt8),([37]:List UInt8)]:List (List UInt8))) el22 (Nat.le_of_ble_eq_true rfl) ⟨rfl,rfl⟩ ⟨rfl,rfl,rfl,rfl,rfl,trivial⟩) ?_))
   refine ct h (ref18_in_ok x2 ([([43]:List UInt8),([45]:List UInt8),([42]:List UInt8),([47]:List UInt8),([37]:List UInt8)]:List (List UInt8))) rfl fun x9 _ h=>kAs rfl (W_rs (kMv rfl (kUn (gh (R:=a7) (ls:=([([60]:List UInt8),([60,61]:List UInt8),([62]:List UInt8),([62,61]:List UInt8)]:List (List UInt8))) el22 (Nat.le_of_ble_eq_true rfl) ⟨rfl,rfl⟩ ⟨rfl,rfl,rfl,rfl,trivial⟩) ?_)))
   refine ct h (ref18_in_ok x2 ([([60]:List UInt8),([60,61]:List UInt8),([62]:List UInt8),([62,61]:List UInt8)]:List (List UInt8))) rfl fun x10 _ h=>kAs rfl (W_rs (kMv rfl (kUn (gh (R:=a7) (ls:=([([38,38]:List UInt8),([124,124]:List UInt8)]:List (List UInt8))) el22 (Nat.le_of_ble_eq_true rfl) ⟨rfl,rfl⟩ ⟨rfl,rfl,trivial⟩) ?_)))
   refine ct h (ref18_in_ok x2 ([([38,38]:List UInt8),([124,124]:List UInt8)]:List (List UInt8))) rfl fun x11 _ h=>kAs rfl (W_rs (kMv rfl (kUn (gh (R:=a7) (ls:=([([61,61]:List UInt8),([33,61]:List UInt8)]:List (List UInt8))) el22 (Nat.le_of_ble_eq_true rfl) ⟨rfl,rfl⟩ ⟨rfl,rfl,trivial⟩) ?_)))
   refine ct h (ref18_in_ok x2 ([([61,61]:List UInt8),([33,61]:List UInt8)]:List (List UInt8))) rfl fun x12 _ h=>kAs rfl (W_rs (kMvL rfl (kMv rfl (kMv rfl (ct h (ref18_May_ok x1 x3 x4) rfl fun x13 _ h=>kAs rfl (W_rs (kMvL rfl (kMv rfl (kMv rfl ?_)))))))))
   refine ct h (ref18_May_ok x1 x4 x3) rfl fun x14 _ h=>kAs rfl (ba ?_)
   refine bj (fun e C=>∃(x16:Bool),mn x10 x6 x11 x8 x12 x13 x14 x3 x4 x16=some r/\At [(2,bq x3),(3,bq x4),(9,Pr.bool x6),(10,Pr.bool x8),(12,Pr.bool x10),(13,Pr.bool x11),(14,Pr.bool x12),(15,Pr.bool x13),(16,Pr.bool x14),(52,Pr.bool x16)] [] e C) ?_ ?_
   ·rintro e C ⟨x16,h,hat2⟩
    refine W_at hat2 ?_
    unfold mn at h
    refine a8 h rfl (fun _ h=> ?_) (fun _ h=> ?_)
    ·refine W_rs (kAs rfl ?_)
     obtain rfl:=osj h
     exact bh ⟨rfl,aa⟩
    refine az (ba ?_)
    refine bj (fun e C=>∃(x65:Bool),cj x65=some r/\At [(79,Pr.bool x65)] [] e C) ?_ ?_
    ·rintro e C ⟨x65,h,hat1⟩
     refine W_at hat1 ?_
     unfold cj at h
     refine a8 h rfl (fun _ h=> ?_) (fun _ h=> ?_)
     ·refine W_rs (kAs rfl ?_)
      obtain rfl:=osj h
      exact bh ⟨rfl,aa⟩
     refine az (W_rs (kAs rfl ?_))
     obtain rfl:=osj h
     exact bh ⟨rfl,aa⟩
    refine W_r (kMv rfl (kMv rfl ?_))
    rcases bg h with⟨hc18,h⟩|⟨hc18,h⟩
    ·refine kGd rfl aa hc18 (hMvA rfl) (kPt rfl hc18 rfl (kMv rfl ?_))
     rcases bg h with⟨hc19,h⟩|⟨hc19,h⟩
     ·refine kSkF rfl aa hc19 (kSkF rfl aa hc19 (kSkU rfl aa (kSkF rfl aa hc19 (kPt rfl hc19 rfl (kMv rfl ?_)))))
      have hc35:true=true:=rfl
      refine kSkF rfl aa hc35 (kSkF rfl aa hc35 (kSkU rfl aa (kSkU rfl aa (kSkU rfl aa (kSkU rfl aa (kSkU rfl aa (kSkU rfl aa (kSkU rfl aa (kSkU rfl aa (kSkU rfl aa (kSkU rfl aa ?_)))))))))))
      refine kSkU rfl aa (kSkU rfl aa (kSkF rfl aa hc35 (kPt rfl hc35 rfl ?_)))
      exact⟨true,h,atOk⟩
     refine kGd rfl aa hc19 (hMvA rfl) (kGd rfl aa hc19 (hMvA rfl) ?_)
     rcases bg h with⟨hc20,h⟩|⟨hc20,h⟩
     ·refine kGd rfl aa hc20 (hMvA rfl) (kGd rfl aa hc19 (hPt rfl hc20 rfl) (kPf rfl hc19 rfl (kMv rfl ?_)))
      rcases bg h with⟨hc21,h⟩|⟨hc21,h⟩
      ·refine kSkF rfl aa hc21 (kSkF rfl aa hc21 (kSkU rfl aa (kSkU rfl aa (kSkU rfl aa (kSkU rfl aa (kSkU rfl aa (kSkU rfl aa (kSkU rfl aa (kSkU rfl aa (kSkU rfl aa (kSkU rfl aa ?_)))))))))))
       refine kSkU rfl aa (kSkU rfl aa (kSkF rfl aa hc21 (kPt rfl hc21 rfl ?_)))
       exact⟨true,h,atOk⟩
      refine kGd rfl aa hc21 (hMvA rfl) (kGd rfl aa hc21 (hMvA rfl) ?_)
      rcases bg h with⟨hc22,h⟩|⟨hc22,h⟩
      ·refine kGd rfl aa hc22 (hMvA rfl) (kGd rfl aa hc22 (hMvA rfl) ?_)
       rcases bg h with⟨hc23,h⟩|⟨hc23,h⟩
       ·refine kSkF rfl aa hc23 (kGd rfl aa hc22 (hPt rfl hc23 rfl) (kGd rfl aa hc22 (hMvA rfl) ?_))
        have hc26:true=true:=rfl
        refine kSkF rfl aa hc26 (kSkF rfl aa hc26 (kSkF rfl aa hc26 (kSkU rfl aa (kSkU rfl aa (kSkF rfl aa hc26 (kGd rfl aa hc22 (hPt rfl hc26 rfl) (kGd rfl aa hc21 (hPt rfl hc22 rfl) (kPf rfl hc21 rfl ?_))))))))
        exact⟨true,h,atOk⟩
       refine kGd rfl aa hc23 (hMvA rfl) (kGd rfl aa hc22 (hPf rfl hc23 rfl) (kGd rfl aa hc22 (hMvA rfl) ?_))
       rcases bg h with⟨hc24,h⟩|⟨hc24,h⟩
       ·refine kSkF rfl aa hc24 (kSkF rfl aa hc24 (kSkF rfl aa hc24 (kSkU rfl aa (kSkU rfl aa (kSkF rfl aa hc24 (kGd rfl aa hc22 (hPt rfl hc24 rfl) (kGd rfl aa hc21 (hPt rfl hc22 rfl) (kPf rfl hc21 rfl ?_))))))))
        exact⟨true,h,atOk⟩
       refine kGd rfl aa hc24 (hMvA rfl) (kGd rfl aa hc24 (qStr rfl rfl rfl) (kGd rfl aa hc24 (hMvA rfl) ?_))
       rcases bg h with⟨hc25,h⟩|⟨hc25,h⟩
       ·refine kGd rfl aa hc25 (hMvA rfl) (kGd rfl aa hc25 (qStr rfl rfl rfl) (kGd rfl aa hc24 (hPt rfl hc25 rfl) (kGd rfl aa hc22 (hPf rfl hc24 rfl) (kGd rfl aa hc21 (hPt rfl hc22 rfl) (kPf rfl hc21 rfl ?_)))))
        exact⟨x4==([110,117,108,108]:List UInt8),h,atOk⟩
       refine kSkT rfl aa hc25 (kSkT rfl aa hc25 (kGd rfl aa hc24 (hPf rfl hc25 rfl) (kGd rfl aa hc22 (hPf rfl hc24 rfl) (kGd rfl aa hc21 (hPt rfl hc22 rfl) (kPf rfl hc21 rfl ?_)))))
       exact⟨false,h,atOk⟩
      refine kSkT rfl aa hc22 (kSkT rfl aa hc22 (kSkU rfl aa (kSkT rfl aa hc22 (kSkT rfl aa hc22 (kSkU rfl aa (kSkU rfl aa (kSkU rfl aa (kSkU rfl aa (kSkU rfl aa (kSkU rfl aa (kSkT rfl aa hc22 ?_)))))))))))
      refine kGd rfl aa hc21 (hPf rfl hc22 rfl) (kPf rfl hc21 rfl ?_)
      exact⟨false,h,atOk⟩
     refine kSkT rfl aa hc20 (kGd rfl aa hc19 (hPf rfl hc20 rfl) (kPf rfl hc19 rfl (kMv rfl ?_)))
     have hc28:false=false:=rfl
     refine kGd rfl aa hc28 (hMvA rfl) (kGd rfl aa hc28 (hMvA rfl) ?_)
     rcases bg h with⟨hc29,h⟩|⟨hc29,h⟩
     ·refine kGd rfl aa hc29 (hMvA rfl) (kGd rfl aa hc29 (hMvA rfl) ?_)
      rcases bg h with⟨hc30,h⟩|⟨hc30,h⟩
      ·refine kSkF rfl aa hc30 (kGd rfl aa hc29 (hPt rfl hc30 rfl) (kGd rfl aa hc29 (hMvA rfl) ?_))
       have hc33:true=true:=rfl
       refine kSkF rfl aa hc33 (kSkF rfl aa hc33 (kSkF rfl aa hc33 (kSkU rfl aa (kSkU rfl aa (kSkF rfl aa hc33 (kGd rfl aa hc29 (hPt rfl hc33 rfl) (kGd rfl aa hc28 (hPt rfl hc29 rfl) (kPf rfl hc28 rfl ?_))))))))
       exact⟨true,h,atOk⟩
      refine kGd rfl aa hc30 (hMvA rfl) (kGd rfl aa hc29 (hPf rfl hc30 rfl) (kGd rfl aa hc29 (hMvA rfl) ?_))
      rcases bg h with⟨hc31,h⟩|⟨hc31,h⟩
      ·refine kSkF rfl aa hc31 (kSkF rfl aa hc31 (kSkF rfl aa hc31 (kSkU rfl aa (kSkU rfl aa (kSkF rfl aa hc31 (kGd rfl aa hc29 (hPt rfl hc31 rfl) (kGd rfl aa hc28 (hPt rfl hc29 rfl) (kPf rfl hc28 rfl ?_))))))))
       exact⟨true,h,atOk⟩
      refine kGd rfl aa hc31 (hMvA rfl) (kGd rfl aa hc31 (qStr rfl rfl rfl) (kGd rfl aa hc31 (hMvA rfl) ?_))
      rcases bg h with⟨hc32,h⟩|⟨hc32,h⟩
      ·refine kGd rfl aa hc32 (hMvA rfl) (kGd rfl aa hc32 (qStr rfl rfl rfl) (kGd rfl aa hc31 (hPt rfl hc32 rfl) (kGd rfl aa hc29 (hPf rfl hc31 rfl) (kGd rfl aa hc28 (hPt rfl hc29 rfl) (kPf rfl hc28 rfl ?_)))))
       exact⟨x4==([110,117,108,108]:List UInt8),h,atOk⟩
      refine kSkT rfl aa hc32 (kSkT rfl aa hc32 (kGd rfl aa hc31 (hPf rfl hc32 rfl) (kGd rfl aa hc29 (hPf rfl hc31 rfl) (kGd rfl aa hc28 (hPt rfl hc29 rfl) (kPf rfl hc28 rfl ?_)))))
      exact⟨false,h,atOk⟩
     refine kSkT rfl aa hc29 (kSkT rfl aa hc29 (kSkU rfl aa (kSkT rfl aa hc29 (kSkT rfl aa hc29 (kSkU rfl aa (kSkU rfl aa (kSkU rfl aa (kSkU rfl aa (kSkU rfl aa (kSkU rfl aa (kSkT rfl aa hc29 ?_)))))))))))
     refine kGd rfl aa hc28 (hPf rfl hc29 rfl) (kPf rfl hc28 rfl ?_)
     exact⟨false,h,atOk⟩
    refine kSkT rfl aa hc18 (kPf rfl hc18 rfl (kMv rfl ?_))
    have hc42:false=false:=rfl
    refine kGd rfl aa hc42 (hMvA rfl) (kGd rfl aa hc42 (hMvA rfl) ?_)
    rcases bg h with⟨hc43,h⟩|⟨hc43,h⟩
    ·refine kGd rfl aa hc43 (hMvA rfl) (kGd rfl aa hc42 (hPt rfl hc43 rfl) (kPf rfl hc42 rfl (kMv rfl ?_)))
     rcases bg h with⟨hc44,h⟩|⟨hc44,h⟩
     ·refine kSkF rfl aa hc44 (kSkF rfl aa hc44 (kSkU rfl aa (kSkU rfl aa (kSkU rfl aa (kSkU rfl aa (kSkU rfl aa (kSkU rfl aa (kSkU rfl aa (kSkU rfl aa (kSkU rfl aa (kSkU rfl aa ?_)))))))))))
      refine kSkU rfl aa (kSkU rfl aa (kSkF rfl aa hc44 (kPt rfl hc44 rfl ?_)))
      exact⟨true,h,atOk⟩
     refine kGd rfl aa hc44 (hMvA rfl) (kGd rfl aa hc44 (hMvA rfl) ?_)
     rcases bg h with⟨hc45,h⟩|⟨hc45,h⟩
     ·refine kGd rfl aa hc45 (hMvA rfl) (kGd rfl aa hc45 (hMvA rfl) ?_)
      rcases bg h with⟨hc46,h⟩|⟨hc46,h⟩
      ·refine kSkF rfl aa hc46 (kGd rfl aa hc45 (hPt rfl hc46 rfl) (kGd rfl aa hc45 (hMvA rfl) ?_))
       have hc49:true=true:=rfl
       refine kSkF rfl aa hc49 (kSkF rfl aa hc49 (kSkF rfl aa hc49 (kSkU rfl aa (kSkU rfl aa (kSkF rfl aa hc49 (kGd rfl aa hc45 (hPt rfl hc49 rfl) (kGd rfl aa hc44 (hPt rfl hc45 rfl) (kPf rfl hc44 rfl ?_))))))))
       exact⟨true,h,atOk⟩
      refine kGd rfl aa hc46 (hMvA rfl) (kGd rfl aa hc45 (hPf rfl hc46 rfl) (kGd rfl aa hc45 (hMvA rfl) ?_))
      rcases bg h with⟨hc47,h⟩|⟨hc47,h⟩
      ·refine kSkF rfl aa hc47 (kSkF rfl aa hc47 (kSkF rfl aa hc47 (kSkU rfl aa (kSkU rfl aa (kSkF rfl aa hc47 (kGd rfl aa hc45 (hPt rfl hc47 rfl) (kGd rfl aa hc44 (hPt rfl hc45 rfl) (kPf rfl hc44 rfl ?_))))))))
       exact⟨true,h,atOk⟩
      refine kGd rfl aa hc47 (hMvA rfl) (kGd rfl aa hc47 (qStr rfl rfl rfl) (kGd rfl aa hc47 (hMvA rfl) ?_))
      rcases bg h with⟨hc48,h⟩|⟨hc48,h⟩
      ·refine kGd rfl aa hc48 (hMvA rfl) (kGd rfl aa hc48 (qStr rfl rfl rfl) (kGd rfl aa hc47 (hPt rfl hc48 rfl) (kGd rfl aa hc45 (hPf rfl hc47 rfl) (kGd rfl aa hc44 (hPt rfl hc45 rfl) (kPf rfl hc44 rfl ?_)))))
       exact⟨x4==([110,117,108,108]:List UInt8),h,atOk⟩
      refine kSkT rfl aa hc48 (kSkT rfl aa hc48 (kGd rfl aa hc47 (hPf rfl hc48 rfl) (kGd rfl aa hc45 (hPf rfl hc47 rfl) (kGd rfl aa hc44 (hPt rfl hc45 rfl) (kPf rfl hc44 rfl ?_)))))
      exact⟨false,h,atOk⟩
     refine kSkT rfl aa hc45 (kSkT rfl aa hc45 (kSkU rfl aa (kSkT rfl aa hc45 (kSkT rfl aa hc45 (kSkU rfl aa (kSkU rfl aa (kSkU rfl aa (kSkU rfl aa (kSkU rfl aa (kSkU rfl aa (kSkT rfl aa hc45 ?_)))))))))))
     refine kGd rfl aa hc44 (hPf rfl hc45 rfl) (kPf rfl hc44 rfl ?_)
     exact⟨false,h,atOk⟩
    refine kSkT rfl aa hc43 (kGd rfl aa hc42 (hPf rfl hc43 rfl) (kPf rfl hc42 rfl (kMv rfl ?_)))
    have hc51:false=false:=rfl
    refine kGd rfl aa hc51 (hMvA rfl) (kGd rfl aa hc51 (hMvA rfl) ?_)
    rcases bg h with⟨hc52,h⟩|⟨hc52,h⟩
    ·refine kGd rfl aa hc52 (hMvA rfl) (kGd rfl aa hc52 (hMvA rfl) ?_)
     rcases bg h with⟨hc53,h⟩|⟨hc53,h⟩
     ·refine kSkF rfl aa hc53 (kGd rfl aa hc52 (hPt rfl hc53 rfl) (kGd rfl aa hc52 (hMvA rfl) ?_))
      have hc56:true=true:=rfl
      refine kSkF rfl aa hc56 (kSkF rfl aa hc56 (kSkF rfl aa hc56 (kSkU rfl aa (kSkU rfl aa (kSkF rfl aa hc56 (kGd rfl aa hc52 (hPt rfl hc56 rfl) (kGd rfl aa hc51 (hPt rfl hc52 rfl) (kPf rfl hc51 rfl ?_))))))))
      exact⟨true,h,atOk⟩
     refine kGd rfl aa hc53 (hMvA rfl) (kGd rfl aa hc52 (hPf rfl hc53 rfl) (kGd rfl aa hc52 (hMvA rfl) ?_))
     rcases bg h with⟨hc54,h⟩|⟨hc54,h⟩
     ·refine kSkF rfl aa hc54 (kSkF rfl aa hc54 (kSkF rfl aa hc54 (kSkU rfl aa (kSkU rfl aa (kSkF rfl aa hc54 (kGd rfl aa hc52 (hPt rfl hc54 rfl) (kGd rfl aa hc51 (hPt rfl hc52 rfl) (kPf rfl hc51 rfl ?_))))))))
      exact⟨true,h,atOk⟩
     refine kGd rfl aa hc54 (hMvA rfl) (kGd rfl aa hc54 (qStr rfl rfl rfl) (kGd rfl aa hc54 (hMvA rfl) ?_))
     rcases bg h with⟨hc55,h⟩|⟨hc55,h⟩
     ·refine kGd rfl aa hc55 (hMvA rfl) (kGd rfl aa hc55 (qStr rfl rfl rfl) (kGd rfl aa hc54 (hPt rfl hc55 rfl) (kGd rfl aa hc52 (hPf rfl hc54 rfl) (kGd rfl aa hc51 (hPt rfl hc52 rfl) (kPf rfl hc51 rfl ?_)))))
      exact⟨x4==([110,117,108,108]:List UInt8),h,atOk⟩
     refine kSkT rfl aa hc55 (kSkT rfl aa hc55 (kGd rfl aa hc54 (hPf rfl hc55 rfl) (kGd rfl aa hc52 (hPf rfl hc54 rfl) (kGd rfl aa hc51 (hPt rfl hc52 rfl) (kPf rfl hc51 rfl ?_)))))
     exact⟨false,h,atOk⟩
    refine kSkT rfl aa hc52 (kSkT rfl aa hc52 (kSkU rfl aa (kSkT rfl aa hc52 (kSkT rfl aa hc52 (kSkU rfl aa (kSkU rfl aa (kSkU rfl aa (kSkU rfl aa (kSkU rfl aa (kSkU rfl aa (kSkT rfl aa hc52 ?_)))))))))))
    refine kGd rfl aa hc51 (hPf rfl hc52 rfl) (kPf rfl hc51 rfl ?_)
    exact⟨false,h,atOk⟩
   refine W_r (kMv rfl (kMv rfl ?_))
   rcases bg h with⟨hc15,h⟩|⟨hc15,h⟩
   ·refine kGd rfl aa hc15 (hMvA rfl) (kPt rfl hc15 rfl ?_)
    exact⟨x6,h,atOk⟩
   refine kSkT rfl aa hc15 (kPf rfl hc15 rfl ?_)
   exact⟨false,h,atOk⟩
  refine W_r (kMv rfl (kSt rfl rfl rfl (kMv rfl ?_)))
  rcases bg h with⟨hc7,h⟩|⟨hc7,h⟩
  ·refine kGd rfl aa hc7 (hMvA rfl) (kGd rfl aa hc7 (qStr rfl rfl rfl) (kPt rfl hc7 rfl (kAs rfl ?_)))
   exact⟨x4==([98,111,111,108,101,97,110]:List UInt8),h,atOk⟩
  refine kSkT rfl aa hc7 (kSkT rfl aa hc7 (kPf rfl hc7 rfl (kAs rfl ?_)))
  exact⟨false,h,atOk⟩
 refine W_r (kMv rfl (kSt rfl rfl rfl (kMv rfl ?_)))
 rcases bg h with⟨hc5,h⟩|⟨hc5,h⟩
 ·refine kGd rfl aa hc5 (hMvA rfl) (kGd rfl aa hc5 (qStr rfl rfl rfl) (kPt rfl hc5 rfl (kAs rfl ?_)))
  exact⟨x4==([105,110,116]:List UInt8),h,atOk⟩
 refine kSkT rfl aa hc5 (kSkT rfl aa hc5 (kPf rfl hc5 rfl (kAs rfl ?_)))
 exact⟨false,h,atOk⟩
end Go.Proofs.YtcndghapmoaidaaGreatDoor
