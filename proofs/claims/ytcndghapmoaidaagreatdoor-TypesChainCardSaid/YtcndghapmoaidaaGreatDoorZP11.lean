/- The code comes to what these functions say (printed by wip/gen/gen.py). -/
import Derived.Test.YtcndghapmoaidaaGreatDoorZX
import Derived.Test.YtcndghapmoaidaaGreatDoorZP10
import Derived.Test.YtcndghapmoaidaaGreatDoorZT
set_option linter.unusedSimpArgs false
set_option linter.unusedVariables false
set_option linter.unusedSectionVars false
set_option linter.unusedSectionVars false
set_option maxRecDepth 100000
set_option maxHeartbeats 4000000
namespace Go.Proofs.YtcndghapmoaidaaGreatDoor
open Go Go.Cn
attribute [local irreducible] ec aq
theorem types_method_ok (x1:List ApiEntity) (x2:List UInt8) (x3:Int) (x4:ApiNode) (r:PX TypesWrong Unit) (h:types_method x1 x2 x3 x4=some r):FnX Tryz.prog 55 [aq af x1,bv x2,Pr.i64 x3,(ab).val x4] [] (fun q C'=>∃a9,r= .ok a9/\q=bk []/\C'=[]) (fun v=>∃m,r= .bad m/\v=gt m):=by
 refine gy (rs:=[]) Tryz.func55 rfl Tryz.ntmps55 ⟨by decide,Tryz.results55⟩ (by decide) (fun s0=> ?_)
 unfold types_method at h
 refine W_rs ?_
 refine rBox (R:=ab) (a:=x4) rfl (fun b5=> ?_)
 refine W_rs (kMvL rfl (kMv rfl (kUn (ai fld64_3) ?_)))
 refine kUn (ap 0 ty2 subApiNode_N) ?_
 refine kIn rfl rfl rfl (kUn (fv st66 ⟨(BindScope.mk x1 [] false []),⟨_,rfl,rfl,fun j fd hj hf=>by match j,hj with| 0,h=>exact absurd rfl h| 1,_=>cases hf;rfl| 2,_=>cases hf;rfl| 3,_=>cases hf;rfl|_+4,_=>cases hf⟩,⟨(BindScope.mk x1 x2 false []),⟨_,rfl,rfl,fun j fd hj hf=>by match j,hj with| 0,_=>cases hf;rfl| 1,h=>exact absurd rfl h| 2,_=>cases hf;rfl| 3,_=>cases hf;rfl|_+4,_=>cases hf⟩,⟨(BindScope.mk x1 x2 (x4.N==1) []),⟨_,rfl,rfl,fun j fd hj hf=>by match j,hj with| 0,_=>cases hf;rfl| 1,_=>cases hf;rfl| 2,h=>exact absurd rfl h| 3,_=>cases hf;rfl|_+4,_=>cases hf⟩,rfl⟩⟩⟩) ?_)
 refine kUn (ai r4) ?_
 refine kUn (ap 0 ty9 dz) ?_
 refine kMv rfl (kUn (fv st138 ⟨(TypesChecker.mk (BindScope.mk x1 x2 (x4.N==1) []) [] 0),⟨_,rfl,rfl,fun j fd hj hf=>by match j,hj with| 0,h=>exact absurd rfl h| 1,_=>cases hf;rfl| 2,_=>cases hf;rfl|_+3,_=>cases hf⟩,⟨(TypesChecker.mk (BindScope.mk x1 x2 (x4.N==1) []) x4.Type_ 0),⟨_,rfl,rfl,fun j fd hj hf=>by match j,hj with| 0,_=>cases hf;rfl| 1,h=>exact absurd rfl h| 2,_=>cases hf;rfl|_+3,_=>cases hf⟩,⟨(TypesChecker.mk (BindScope.mk x1 x2 (x4.N==1) []) x4.Type_ x3),⟨_,rfl,rfl,fun j fd hj hf=>by match j,hj with| 0,_=>cases hf;rfl| 1,_=>cases hf;rfl| 2,h=>exact absurd rfl h|_+3,_=>cases hf⟩,rfl⟩⟩⟩) ?_)
 refine bq al138 fun b6=>av 1 rfl rfl (Upd.refl _) rfl Tryz.sizeOf138 (W_rs (kUn (ai ee) ?_))
 refine kUn (ap 0 ty53 bl) ?_
 refine kUn (iz rfl Tryz.underlying53) ?_
 refine kIn rfl rfl rfl (kAs rfl (a8 (W_rs (kUn (ai ee) ?_))))
 refine kUn (ap 0 ty53 bl) ?_
 refine kMv rfl ?_
 obtain⟨x7,hx7,h⟩:=ah h
 refine kUn (qLSubH Tryz.underlying53 Tryz.sizeOf64 hx7) ?_
 refine kUn (iz rfl Tryz.underlying53) ?_
 refine kMv rfl (az ?_)
 obtain⟨z2l,hz2,h⟩:=ah h
 obtain⟨n2,hN2⟩:=bp hz2
 refine cq 0 (fun e C=>∃(x9:TypesChecker),types_method_k1 x4 x9=some r/\At [(7,am b5 0),(8,am b6 0),(9,Pr.i64 (w64 ((x4.Kids.length:Int) - 1)))] [Own.box b5 ab x4,Own.box b6 al x9] e C) ?_ ?_
 ·rintro e C ⟨x9,h,hat1⟩
  refine W_at hat1 ?_
  unfold types_method_k1 at h
  refine eo 6 hmx (by kernel_rfl) (by kernel_rfl) ?_
  refine lUn (ap 1 pq (Sub.refl _)) ?_
  refine lUn (ai ee) ?_
  refine lUn (ap 0 ty53 bl) ?_
  refine lUn (hMvA rfl) ?_
  obtain⟨x16,hx16,h⟩:=ah h
  refine lUn (dg Tryz.underlying53 Tryz.sizeOf64 hx16) ?_
  refine lUn (cf ty64) ?_
  rcases ce h with⟨m18,hm18,h⟩|⟨_,hx17,h⟩
  ·refine cv [] (rv x9 x16 _ hm18) ⟨aa,aa,trivial⟩ (fun q C' hq=> ?_) (fun v9 hv=> ?_)
   ·obtain⟨_,h9,_⟩:=hq;cases h9
   obtain⟨_,h9,rfl⟩:=hv
   cases h9
   obtain rfl:=osj h
   exact .inr ⟨_,rfl,_,rfl,rfl⟩
  refine cv [] (rv x9 x16 _ hx17) ⟨aa,aa,trivial⟩ (fun q C' hq=> ?_) (fun v9 hv=>by obtain⟨_,h9,_⟩:=hv;cases h9)
  obtain⟨_,h9,rfl,rfl⟩:=hq
  cases h9
  refine rCtx [Own.box b5 ab x4,Own.box b6 al x9] ?_
  obtain rfl:=osj h
  exact(.inl ⟨.inr rfl,_,Pick.of [] rfl,_,aa,_,rfl,rfl,rfl⟩)
 refine c8 (fun m e C=>∃(x8:Int),∃(x9:TypesChecker),dj (fun s=>types_method_l2 x7 s.1 s.2) m (x8,x9)=some z2l/\At [(7,am b5 0),(8,am b6 0),(9,Pr.i64 (w64 ((x4.Kids.length:Int) - 1))),(29,aq ab x7),(30,Pr.i64 (x7.length:Int)),(31,Pr.i64 x8)] [Own.box b5 ab x4,Own.box b6 al x9] e C) n2 ⟨0,(TypesChecker.mk (BindScope.mk x1 x2 (x4.N==1) []) x4.Type_ x3),hN2,⟨⟨aa,aa,aa,aa,aa,aa,trivial⟩,Pick.refl _⟩⟩ ?_
 rintro m e C ⟨x8,x9,hN2,hatl2⟩
 refine W_at hatl2 ?_
 obtain⟨m2,w2l,rfl,h2l,hn2,ho2⟩:=bj hN2
 replace h2l:types_method_l2 x7 x8 x9=some w2l:=h2l
 unfold types_method_l2 at h2l
 refine W_rs (kIn rfl rfl rfl (a8 ?_))
 refine a5 h2l rfl (fun _ h2l=> ?_) (fun _ h2l=> ?_)
 ·refine ax (a8 (az (W_rs ?_)))
  obtain⟨x13,hx13,h2l⟩:=ah h2l
  refine kUn (dg Tryz.underlying53 Tryz.sizeOf64 hx13) ?_
  refine kUn (cf ty64) ?_
  refine bq al64 fun b14=>av 2 rfl rfl (Upd.refl _) rfl Tryz.sizeOf64 (W_r (kUn (ap 1 pq (Sub.refl _)) ?_))
  refine kUn (ap 2 ty64 (Sub.refl _)) ?_
  refine cm h2l (types_checker_with_ok x9 x13) rfl fun x15 _ h2l=>av 1 rfl rfl (Upd.refl _) rfl Tryz.sizeOf138 (W_r (kIn rfl rfl rfl (kMv rfl ?_)))
  exact⟨m2,Nat.lt_succ_self _,w64 (x8+1),x15,hn2 _ (Option.some.inj h2l).symm,⟨⟨aa,aa,aa,aa,aa,aa,trivial⟩,Pick.of [0,1] rfl⟩⟩
 refine c6 ?_
 obtain rfl:=ho2 _ (Option.some.inj h2l).symm
 exact⟨x9,h,atOk⟩
theorem law18_parsed_ok (x1:List (List UInt8)) (r:(List (List ApiNode)) × Bool) (h:law18_parsed x1=some r):FnP Tryz.prog 25 [aq a6 x1] (bk [aq (ba ab) r.1,Pr.bool r.2]):=by
 refine cu (rs:=[2,3]) Tryz.func25 rfl Tryz.ntmps25 ⟨by decide,Tryz.results25⟩ (by decide) (fun s0=> ?_)
 unfold law18_parsed at h
 refine W_rs (kAs rfl (kAs rfl (W_rs (kAs rfl (a8 (W_rs (kMvL rfl (kUn (iz rfl Tryz.underlying22) ?_))))))))
 refine kIn rfl rfl rfl ?_
 refine a5 h rfl (fun _ h=> ?_) (fun _ h=> ?_)
 ·refine W_rs (kAs rfl (kAs rfl ?_))
  obtain rfl:=osj h
  exact bc ⟨rfl,tup_le ⟨c7 _,aa,trivial⟩⟩
 refine ax (a8 (W_rs (kAs rfl (az ?_))))
 obtain⟨z2l,hz2,h⟩:=ah h
 obtain⟨n2,hN2⟩:=bp hz2
 refine cq 0 (fun e C=>∃(x5:List (List ApiNode)),∃(v3:Value),law18_parsed_k1 x5=some r/\At [(4,Pr.is v3)] [Own.vec v3 (ba ab) x5 53] e C) ?_ ?_
 ·rintro e C ⟨x5,v3,h,hat1⟩
  refine W_at hat1 ?_
  unfold law18_parsed_k1 at h
  refine W_rs (kMv rfl (kAs rfl (kAs rfl ?_)))
  refine W_rel 0 [2] ?_ rfl ⟨rfl,trivial⟩
  obtain rfl:=osj h
  exact bc ⟨rfl,aa⟩
 refine W_nil [4] (ba ab) 53 (fun v19=> ?_) ⟨rfl,trivial⟩
 refine c8 (fun m e C=>∃(x4:Int),∃(x5:List (List ApiNode)),∃(v3:Value),dj (fun s=>nj x1 s.1 s.2) m (x4,x5)=some z2l/\At [(0,aq a6 x1),(4,Pr.is v3),(5,Pr.i64 x4)] [Own.vec v3 (ba ab) x5 53] e C) n2 ⟨0,[],v19,hN2,⟨⟨aa,aa,aa,trivial⟩,Pick.refl _⟩⟩ ?_
 rintro m e C ⟨x4,x5,v3,hN2,hatl2⟩
 refine W_at hatl2 ?_
 obtain⟨m2,w2l,rfl,h2l,hn2,ho2⟩:=bj hN2
 replace h2l:nj x1 x4 x5=some w2l:=h2l
 unfold nj at h2l
 refine a8 (W_rs (kMv rfl (kMvL rfl (kUn (iz rfl Tryz.underlying22) ?_))))
 refine kIn rfl rfl rfl ?_
 refine a5 h2l rfl (fun _ h2l=> ?_) (fun _ h2l=> ?_)
 ·refine ax (a8 (az (a8 (W_rs (kMvL rfl (kMv rfl ?_))))))
  obtain⟨x10,hx10,h2l⟩:=ah h2l
  refine kUn (dg Tryz.underlying22 Tryz.sizeOf9 hx10) ?_
  refine kUn (cf ty9) ?_
  refine kUn (qLenS rfl Tryz.underlying9) ?_
  refine kIn rfl rfl rfl ?_
  refine a5 h2l rfl (fun _ h2l=> ?_) (fun _ h2l=> ?_)
  ·refine W_rs (kAs rfl (kAs rfl ?_))
   obtain rfl:=ho2 _ (Option.some.inj h2l).symm
   replace h:some ([],false)=some r:=h
   obtain rfl:=osj h
   exact bc ⟨rfl,tup_le ⟨c7 _,aa,trivial⟩⟩
  refine ax (W_rs (kMvL rfl (kMv rfl ?_)))
  obtain⟨x12,hx12,h2l⟩:=ah h2l
  refine kUn (dg Tryz.underlying22 Tryz.sizeOf9 hx12) ?_
  refine kUn (cf ty9) ?_
  obtain⟨⟨x13,x14⟩,hx13,h2l⟩:=ah h2l
  refine kUn (ct (ref12_File_ok x12 _ hx13)) ?_
  refine kUn (hMv (out:=bk [aq ab x13,(ak).val x14]) rfl) (kUn au ?_)
  refine kUn au ?_
  refine bq al30 fun b15=>kAsL rfl (av 1 rfl rfl (Upd.refl _) rfl Tryz.sizeOf30 (a8 (W_rs (kUn (ai fld30_0) ?_))))
  refine kUn (ap 1 ty28 io) ?_
  refine kIn rfl rfl rfl ?_
  refine a5 h2l rfl (fun _ h2l=> ?_) (fun _ h2l=> ?_)
  ·refine W_rs (kAs rfl (kAs rfl ?_))
   obtain rfl:=ho2 _ (Option.some.inj h2l).symm
   replace h:some ([],false)=some r:=h
   obtain rfl:=osj h
   exact bc ⟨rfl,tup_le ⟨c7 _,aa,trivial⟩⟩
  refine ax (W_r (kMv rfl (kMvL rfl (kUn (cl (R:=ba ab) (a:=x13) el24 (Nat.le_of_ble_eq_true rfl)) ?_))))
  obtain⟨x17,hx17,h2l⟩:=ah h2l
  refine ev 0 el24 hx17 (fun v18=> ?_)
  refine kAs rfl (W_r (kMv rfl (kIn rfl rfl rfl (kAs rfl ?_))))
  exact⟨m2,Nat.lt_succ_self _,w64 (x4+1),x17,v18,hn2 _ (Option.some.inj h2l).symm,⟨⟨aa,aa,aa,trivial⟩,Pick.of [0] rfl⟩⟩
 refine c6 ?_
 obtain rfl:=ho2 _ (Option.some.inj h2l).symm
 exact⟨x5,v3,h,atOk⟩
end Go.Proofs.YtcndghapmoaidaaGreatDoor
