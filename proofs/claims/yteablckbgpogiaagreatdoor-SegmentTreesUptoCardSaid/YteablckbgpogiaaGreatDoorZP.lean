/- The code comes to what these functions say (printed by wip/gen/gen.py). -/
import Derived.Test.YteablckbgpogiaaGreatDoorZX
import Derived.Test.YteablckbgpogiaaGreatDoorZT
set_option linter.unusedSimpArgs false
set_option linter.unusedVariables false
set_option linter.unusedSectionVars false
set_option linter.unusedSectionVars false
set_option maxRecDepth 100000
set_option maxHeartbeats 4000000
namespace Go.Proofs.YteablckbgpogiaaGreatDoor
open Go Go.Cn
variable [Known]
attribute [local irreducible] f5 ap
theorem lex_Lex_1_ok (x1 x2 x3:Int) (x5:List ApiToken) (x8:List UInt8) (x10:Int) (b4:Nat) (v6:Value) (b7 b9:Nat) (r:(List ApiToken) × (List UInt8) × Int) (h:lex_Lex_1 x1 x2 x3 x5 x8 x10=some r):FnC Tryz.prog 86 [Pr.i64 x1,Pr.i64 x2,Pr.i64 x3,aj b4 0,aj b7 0,aj b9 0] [Own.cell b4 (Pr.is v6),Own.vec v6 ah x5 74,Own.box b7 ct x8,Own.box b9 (Rp.int .i64) x10] (fun q C'=>∃w0,q=ce []/\C'=[Own.cell b4 (Pr.is w0),Own.vec w0 ah r.1 74,Own.box b7 ct r.2.1,Own.box b9 (Rp.int .i64) r.2.2]):=by
 refine fnc_introP (rs:=[]) Tryz.func86 rfl Tryz.ntmps86 ⟨by decide,Tryz.results86⟩ (by decide) (fun s0=> ?_)
 unfold lex_Lex_1 at h
 refine bj (fun e C=>∃(x13:List ApiToken),∃(v14:Value),lex_Lex_1_j1 x8 x10 x2 x3 x13=some r/\At [(1,Pr.i64 x2),(2,Pr.i64 x3),(5,aj b9 0)] [Own.cell b4 (Pr.is v14),Own.vec v14 ah x13 74,Own.box b7 ct x8,Own.box b9 (Rp.int .i64) x10] e C) ?_ ?_
 ·rintro e C ⟨x13,v14,h,hat1⟩
  refine W_at hat1 ?_
  unfold lex_Lex_1_j1 at h
  refine W_r (kUn (bb 3 ty3 (Sub.refl _)) ?_)
  refine kMv rfl (kMv rfl (kIn rfl rfl rfl (kIn rfl rfl rfl (ak 3 rfl rfl (Upd.refl _) rfl Tryz.sizeOf3 ?_))))
  obtain rfl:=osj h
  exact⟨.inr rfl,_,Pick.refl _,_,aa,v14,rfl,rfl⟩
 refine ib 23 hmx (by kernel_rfl) (by kernel_rfl) ?_
 refine lUn (qLoadP 0 Tryz.isAgg70) ?_
 refine lUn (hMvA rfl) (lUn (bb 2 ty9 (Sub.refl _)) ?_)
 refine lUn (bb 3 ty3 (Sub.refl _)) ?_
 refine lUn (hMvA rfl) (lUn (qInt rfl rfl rfl) (lUn (bb 3 ty3 (Sub.refl _)) ?_))
 refine lUn (hMvA rfl) (lUn (qInt rfl rfl rfl) (lUn (hMvA rfl) (lUn (qInt rfl rfl rfl) ?_)))
 obtain⟨x11,hx11,h⟩:=af h
 refine lUn (qSubLH Tryz.underlying9 hx11) ?_
 refine lUn (bb 3 ty3 (Sub.refl _)) ?_
 refine lUn (hMvA rfl) (lUn (qInt rfl rfl rfl) (lUn (bb 2 ty9 (Sub.refl _)) ?_))
 refine lUn (bb 3 ty3 (Sub.refl _)) ?_
 refine lUn (bb 3 ty3 (Sub.refl _)) ?_
 refine lUn (hMvA rfl) (lUn (qInt rfl rfl rfl) ?_)
 obtain⟨x12,hx12,h⟩:=af h
 refine lUn (qSubLH Tryz.underlying9 hx12) ?_
 refine lUn (j8 st74 ⟨(ApiToken.mk x1 [] 0 []),⟨_,rfl,rfl,fun j fd hj hf=>by match j,hj with| 0,h=>exact absurd rfl h| 1,_=>cases hf;rfl| 2,_=>cases hf;rfl| 3,_=>cases hf;rfl|_+4,_=>cases hf⟩,⟨(ApiToken.mk x1 x11 0 []),⟨_,rfl,rfl,fun j fd hj hf=>by match j,hj with| 0,_=>cases hf;rfl| 1,h=>exact absurd rfl h| 2,_=>cases hf;rfl| 3,_=>cases hf;rfl|_+4,_=>cases hf⟩,⟨(ApiToken.mk x1 x11 (w64 (x10+x2)) []),⟨_,rfl,rfl,fun j fd hj hf=>by match j,hj with| 0,_=>cases hf;rfl| 1,_=>cases hf;rfl| 2,h=>exact absurd rfl h| 3,_=>cases hf;rfl|_+4,_=>cases hf⟩,⟨(ApiToken.mk x1 x11 (w64 (x10+x2)) x12),⟨_,rfl,rfl,fun j fd hj hf=>by match j,hj with| 0,_=>cases hf;rfl| 1,_=>cases hf;rfl| 2,_=>cases hf;rfl| 3,h=>exact absurd rfl h|_+4,_=>cases hf⟩,rfl⟩⟩⟩⟩) ?_
 refine lUn (bt (R:=ah) (a:=(ApiToken.mk x1 x11 (w64 (x10+x2)) x12)) el70 (Nat.le_of_ble_eq_true rfl)) ?_
 obtain⟨x13,hx13,h⟩:=af h
 refine fg 1 el70 hx13 (fun v14=> ?_)
 refine rStoreV 0 1 Tryz.sizeOf70 ?_
 exact⟨x13,v14,h,atOk⟩
theorem internal_stringslite_HasPrefix_ok (x1 x2:List UInt8) (r:Bool) (h:gx x1 x2=some r):FnP Tryz.prog 120 [ba x1,ba x2] (Pr.bool r):=by
 refine cm (rs:=[4]) Tryz.func120 rfl Tryz.ntmps120 ⟨by decide,Tryz.results120⟩ (by decide) (fun s0=> ?_)
 unfold gx at h
 refine W_rs (kAs rfl ?_)
 refine bj (fun e C=>∃(x5:Bool),dx x5=some r/\At [(4,Pr.bool x5)] [] e C) ?_ ?_
 ·rintro e C ⟨x5,h,hat1⟩
  refine W_at hat1 ?_
  unfold dx at h
  obtain rfl:=osj h
  exact ax ⟨rfl,aa⟩
 refine W_r (kMv rfl (kUn (ol rfl Tryz.underlying9) ?_))
 refine kMv rfl (kUn (ol rfl Tryz.underlying9) ?_)
 refine kIn rfl rfl rfl (kMv rfl ?_)
 rcases bd h with⟨hc3,h⟩|⟨hc3,h⟩
 ·refine kGd rfl aa hc3 (hMvA rfl) (kGd rfl aa hc3 (hMvA rfl) (kGd rfl aa hc3 (ol rfl Tryz.underlying9) ?_))
  obtain⟨x4,hx4,h⟩:=af h
  refine kGd rfl aa hc3 (qSubH Tryz.underlying9 hx4) ?_
  refine kGd rfl aa hc3 (hMvA rfl) (kGd rfl aa hc3 (qStr rfl rfl rfl) (kPt rfl hc3 rfl (kAs rfl ?_)))
  exact⟨x4==x2,h,atOk⟩
 refine kSkT rfl aa hc3 (kSkT rfl aa hc3 (kSkT rfl aa hc3 (kSkT rfl aa hc3 (kSkT rfl aa hc3 (kSkT rfl aa hc3 (kPf rfl hc3 rfl (kAs rfl ?_)))))))
 exact⟨false,h,atOk⟩
theorem mc (x1 x2:List UInt8) (r:Bool) (h:gn x1 x2=some r):FnP Tryz.prog 96 [ba x1,ba x2] (Pr.bool r):=by
 refine cm (rs:=[4]) Tryz.func96 rfl Tryz.ntmps96 ⟨by decide,Tryz.results96⟩ (by decide) (fun s0=> ?_)
 unfold gn at h
 refine W_rs (kAs rfl (W_rs (kMv rfl (kMv rfl (cg h (internal_stringslite_HasPrefix_ok x1 x2) rfl fun x3 _ h=>kAs rfl ?_)))))
 obtain rfl:=osj h
 exact ax ⟨rfl,aa⟩
theorem lex_run_ok (x1:List UInt8) (x2:(Int->Option Bool)) (r:Int) (h:lex_run x1 x2=some r):FnP Tryz.prog 100 [ba x1,Pr.pfn Tryz.prog (spec111 x2)] (Pr.i64 r):=by
 refine cm (rs:=[4]) Tryz.func100 rfl Tryz.ntmps100 ⟨by decide,Tryz.results100⟩ (by decide) (fun s0=> ?_)
 unfold lex_run at h
 refine W_rs (kAs rfl (az (W_rs (kMv rfl (kUn (ol rfl Tryz.underlying9) ?_)))))
 refine kMv rfl (a4 ?_)
 obtain⟨z2l,hz2,h⟩:=af h
 obtain⟨n2,hN2⟩:=bp hz2
 refine d7 0 (fun e C=>lex_run_k1 x1=some r/\At [(0,ba x1)] [] e C) ?_ ?_
 ·rintro e C ⟨h,hat1⟩
  refine W_at hat1 ?_
  unfold lex_run_k1 at h
  refine W_rs (kMv rfl (kUn (ol rfl Tryz.underlying9) ?_))
  refine kAs rfl ?_
  obtain rfl:=osj h
  exact ax ⟨rfl,aa⟩
 refine ew (fun m e C=>∃(x3:Int),ff (fun s=>lex_run_l2 x1 x2 s) m x3=some z2l/\At [(0,ba x1),(1,Pr.pfn Tryz.prog (spec111 x2)),(7,Pr.i64 (x1.length:Int)),(8,Pr.i64 x3)] [] e C) n2 ⟨0,hN2,⟨⟨aa,aa,aa,aa,trivial⟩,Pick.refl _⟩⟩ ?_
 rintro m e C ⟨x3,hN2,hatl2⟩
 refine W_at hatl2 ?_
 obtain⟨m2,w2l,rfl,h2l,hn2,ho2⟩:=bk hN2
 replace h2l:lex_run_l2 x1 x2 x3=some w2l:=h2l
 unfold lex_run_l2 at h2l
 refine W_rs (kIn rfl rfl rfl (az ?_))
 refine a7 h2l rfl (fun _ h2l=> ?_) (fun _ h2l=> ?_)
 ·refine ar (az (a4 (W_rs (kMv rfl (kAs rfl (W_rs (kUn (hMv (out:=Pr.pfn Tryz.prog (spec111 x2)) rfl) (kMv rfl (kMv rfl ?_)))))))))
  obtain⟨x6,hx6,h2l⟩:=af h2l
  refine kUn (qIdxS Tryz.underlying9 hx6) ?_
  obtain⟨x7,hx7,h2l⟩:=af h2l
  refine kUn (qCallP (spec:=spec111 x2) ⟨_,_,rfl,rfl,hx7⟩) ?_
  refine kNo rfl ?_
  refine a7 h2l rfl (fun _ h2l=> ?_) (fun _ h2l=> ?_)
  ·refine W_rs (kMv rfl (kAs rfl ?_))
   obtain rfl:=ho2 _ (Option.some.inj h2l).symm
   replace h:some x3=some r:=h
   obtain rfl:=osj h
   exact ax ⟨rfl,aa⟩
  refine ar (W_r (kIn rfl rfl rfl (kMv rfl ?_)))
  exact⟨m2,Nat.lt_succ_self _,w64 (x3+1),hn2 _ (Option.some.inj h2l).symm,atOk⟩
 refine ej ?_
 obtain rfl:=ho2 _ (Option.some.inj h2l).symm
 exact⟨h,atOk⟩
theorem lex_between_1_ok (x1:Int) (r:Bool) (h:pv x1=some r):FnP Tryz.prog 101 [Pr.u8 x1] (Pr.bool r):=by
 refine cm (rs:=[2]) Tryz.func101 rfl Tryz.ntmps101 ⟨by decide,Tryz.results101⟩ (by decide) (fun s0=> ?_)
 unfold pv at h
 refine W_rs (kAs rfl (W_rs (kMv rfl (kIn rfl rfl rfl (kAs rfl ?_)))))
 obtain rfl:=osj h
 exact ax ⟨rfl,aa⟩
theorem lex_between_ok (x1:List UInt8) (r:Int × Bool) (h:lex_between x1=some r):FnP Tryz.prog 87 [ba x1] (ce [Pr.i64 r.1,Pr.bool r.2]):=by
 refine cm (rs:=[2,3]) Tryz.func87 rfl Tryz.ntmps87 ⟨by decide,Tryz.results87⟩ (by decide) (fun s0=> ?_)
 unfold lex_between at h
 refine W_rs (kAs rfl (kAs rfl ?_))
 refine W_scope ?_
 refine W_rs (kAs rfl (az ?_))
 refine W_label ?_
 refine bj (fun e C=>∃(x2:Int),lex_between_j1 x2=some r/\At [(4,Pr.i64 x2)] [] e C) ?_ ?_
 ·rintro e C ⟨x2,h,hat1⟩
  refine W_at hat1 ?_
  unfold lex_between_j1 at h
  refine W_rs (kMv rfl (kAs rfl (kAs rfl ?_)))
  obtain rfl:=osj h
  exact ax ⟨rfl,aa⟩
 refine a4 ?_
 obtain⟨z3l,hz3,h⟩:=af h
 obtain⟨n3,hN3⟩:=bp hz3
 refine d7 0 (fun e C=>∃(x2:Int),lex_between_k2 x2=some r/\At [(4,Pr.i64 x2)] [] e C) ?_ ?_
 ·rintro e C ⟨x2,h,hat2⟩
  unfold lex_between_k2 at h
  exact⟨x2,h,(At.trans hat2 ⟨⟨aa,trivial⟩,Pick.refl _⟩)⟩
 refine ew (fun m e C=>∃(x2:Int),ff (fun s=>oj x1 s) m x2=some z3l/\At [(0,ba x1),(4,Pr.i64 x2)] [] e C) n3 ⟨0,hN3,⟨⟨aa,aa,trivial⟩,Pick.refl _⟩⟩ ?_
 rintro m e C ⟨x2,hN3,hatl3⟩
 refine W_at hatl3 ?_
 obtain⟨m3,w3l,rfl,h3l,hn3,ho3⟩:=bk hN3
 replace h3l:oj x1 x2=some w3l:=h3l
 unfold oj at h3l
 refine az (W_rs (kMv rfl (kMv rfl (kUn (ol rfl Tryz.underlying9) ?_))))
 refine kIn rfl rfl rfl ?_
 refine a7 h3l rfl (fun _ h3l=> ?_) (fun _ h3l=> ?_)
 ·refine ar (a4 (W_rs (kMv rfl (kMv rfl ?_))))
  obtain⟨x5,hx5,h3l⟩:=af h3l
  refine kUn (qSubL Tryz.underlying9 hx5) ?_
  refine kAs rfl (az (a4 (W_rs (kMv rfl (cg h3l (mc x5 ([47,47]:List UInt8)) rfl fun x6 _ h3l=>kAs rfl ?_)))))
  refine a7 h3l rfl (fun _ h3l=> ?_) (fun _ h3l=> ?_)
  ·refine W_rs (kMv rfl (kMv rfl ?_))
   obtain⟨x8,hx8,h3l⟩:=af h3l
   refine kUn (qCall' (lex_run_ok x5 pv _ hx8) ⟨aa,(is_pfn en101 (fun _ _ hs=>by obtain⟨a0,r,rfl,rfl,hr⟩:=hs;exact lex_between_1_ok a0 r hr)),trivial⟩) ?_
   refine kIn rfl rfl rfl (kAs rfl ?_)
   refine ej ?_
   exact⟨m3,Nat.lt_succ_self _,w64 (x2+x8),hn3 _ (Option.some.inj h3l).symm,atOk⟩
  refine W_rs (kMv rfl (cg h3l (mc x5 ([47,42]:List UInt8)) rfl fun x9 _ h3l=>kAs rfl ?_))
  refine a7 h3l rfl (fun _ h3l=> ?_) (fun _ h3l=> ?_)
  ·refine W_rs (kMv rfl ?_)
   obtain⟨x11,hx11,h3l⟩:=af h3l
   refine kUn (qSubL Tryz.underlying9 hx11) ?_
   refine cg h3l (strings_Index_ok x11 ([42,47]:List UInt8)) rfl fun x12 _ h3l=>kAs rfl (az (W_rs (kMv rfl (kIn rfl rfl rfl ?_))))
   refine a7 h3l rfl (fun _ h3l=> ?_) (fun _ h3l=> ?_)
   ·refine W_rs (kMv rfl (kAs rfl (kAs rfl ?_)))
    obtain rfl:=ho3 _ (Option.some.inj h3l).symm
    replace h:some (x2,false)=some r:=h
    obtain rfl:=osj h
    exact ax ⟨rfl,aa⟩
   refine ar (W_rs (kMv rfl (kMv rfl (kIn rfl rfl rfl (kIn rfl rfl rfl (kIn rfl rfl rfl (kAs rfl ?_)))))))
   refine ej ?_
   exact⟨m3,Nat.lt_succ_self _,w64 (x2+(w64 ((w64 (2+x12))+2))),hn3 _ (Option.some.inj h3l).symm,atOk⟩
  refine ar (W_rs (kMv rfl ?_))
  obtain⟨x14,hx14,h3l⟩:=af h3l
  refine kUn (qIdxS Tryz.underlying9 hx14) ?_
  refine a4 (az (a4 ?_))
  refine bj (fun e C=>ma x2=some w3l/\At [(0,ba x1),(4,Pr.i64 x2)] [] e C) ?_ ?_
  ·rintro e C ⟨h3l,hat4⟩
   refine W_at hat4 ?_
   unfold ma at h3l
   refine W_rs (kMv rfl (kIn rfl rfl rfl (kAs rfl ?_)))
   refine ej ?_
   exact⟨m3,Nat.lt_succ_self _,w64 (x2+1),hn3 _ (Option.some.inj h3l).symm,atOk⟩
  refine a4 (a4 (a4 (a4 (az (az (W_rs (kIn rfl rfl rfl (kAs rfl ?_))))))))
  refine a7 h3l rfl (fun _ h3l=> ?_) (fun _ h3l=> ?_)
  ·refine ej ?_
   exact⟨h3l,atOk⟩
  refine ar (az (W_rs (kIn rfl rfl rfl (kAs rfl ?_))))
  refine a7 h3l rfl (fun _ h3l=> ?_) (fun _ h3l=> ?_)
  ·refine ej ?_
   exact⟨h3l,atOk⟩
  refine ar (az (W_rs (kIn rfl rfl rfl (kAs rfl ?_))))
  refine a7 h3l rfl (fun _ h3l=> ?_) (fun _ h3l=> ?_)
  ·refine ej ?_
   exact⟨h3l,atOk⟩
  refine ar (W_rs (kIn rfl rfl rfl (kAs rfl ?_)))
  refine a7 h3l rfl (fun _ h3l=> ?_) (fun _ h3l=> ?_)
  ·refine ej ?_
   exact⟨h3l,atOk⟩
  refine ar ?_
  refine ej ?_
  refine az ?_
  refine ej ?_
  obtain rfl:=ho3 _ (Option.some.inj h3l).symm
  exact⟨x2,h,atOk⟩
 refine ej ?_
 obtain rfl:=ho3 _ (Option.some.inj h3l).symm
 exact⟨x2,h,atOk⟩
theorem lex_digit_ok (x1:Int) (r:Bool) (h:lex_digit x1=some r):FnP Tryz.prog 103 [Pr.u8 x1] (Pr.bool r):=by
 refine cm (rs:=[2]) Tryz.func103 rfl Tryz.ntmps103 ⟨by decide,Tryz.results103⟩ (by decide) (fun s0=> ?_)
 unfold lex_digit at h
 refine W_rs (kAs rfl ?_)
 refine bj (fun e C=>∃(x3:Bool),lex_digit_j1 x3=some r/\At [(2,Pr.bool x3)] [] e C) ?_ ?_
 ·rintro e C ⟨x3,h,hat1⟩
  refine W_at hat1 ?_
  unfold lex_digit_j1 at h
  obtain rfl:=osj h
  exact ax ⟨rfl,aa⟩
 refine W_r (kMv rfl (kIn rfl rfl rfl (kMv rfl ?_)))
 rcases bd h with⟨hc2,h⟩|⟨hc2,h⟩
 ·refine kGd rfl aa hc2 (hMvA rfl) (kGd rfl aa hc2 (qInt rfl rfl rfl) (kPt rfl hc2 rfl (kAs rfl ?_)))
  exact⟨decide (x1<=57),h,atOk⟩
 refine kSkT rfl aa hc2 (kSkT rfl aa hc2 (kPf rfl hc2 rfl (kAs rfl ?_)))
 exact⟨false,h,atOk⟩
theorem lex_letter_ok (x1:Int) (r:Bool) (h:lex_letter x1=some r):FnP Tryz.prog 105 [Pr.u8 x1] (Pr.bool r):=by
 refine cm (rs:=[2]) Tryz.func105 rfl Tryz.ntmps105 ⟨by decide,Tryz.results105⟩ (by decide) (fun s0=> ?_)
 unfold lex_letter at h
 refine W_rs (kAs rfl ?_)
 refine bj (fun e C=>∃(x5:Bool),lex_letter_j1 x5=some r/\At [(2,Pr.bool x5)] [] e C) ?_ ?_
 ·rintro e C ⟨x5,h,hat1⟩
  refine W_at hat1 ?_
  unfold lex_letter_j1 at h
  obtain rfl:=osj h
  exact ax ⟨rfl,aa⟩
 refine W_r (kMv rfl (kUn (qBits (by simp) rfl) ?_))
 refine kIn rfl rfl rfl (kMv rfl ?_)
 rcases bd h with⟨hc2,h⟩|⟨hc2,h⟩
 ·refine kGd rfl aa hc2 (hMvA rfl) (kGd rfl aa hc2 (qBits (by simp) rfl) ?_)
  refine kGd rfl aa hc2 (qInt rfl rfl rfl) (kPt rfl hc2 rfl (kMv rfl ?_))
  rcases bd h with⟨hc3,h⟩|⟨hc3,h⟩
  ·refine kSkF rfl aa hc3 (kSkF rfl aa hc3 (kPt rfl hc3 rfl (kAs rfl ?_)))
   exact⟨true,h,atOk⟩
  refine kGd rfl aa hc3 (hMvA rfl) (kGd rfl aa hc3 (qInt rfl rfl rfl) (kPf rfl hc3 rfl (kAs rfl ?_)))
  exact⟨x1==95,h,atOk⟩
 refine kSkT rfl aa hc2 (kSkT rfl aa hc2 (kSkT rfl aa hc2 (kPf rfl hc2 rfl (kMv rfl ?_))))
 have hc4:false=false:=rfl
 refine kGd rfl aa hc4 (hMvA rfl) (kGd rfl aa hc4 (qInt rfl rfl rfl) (kPf rfl hc4 rfl (kAs rfl ?_)))
 exact⟨x1==95,h,atOk⟩
theorem lex_token_1_ok (x1:Int) (r:Bool) (h:q4 x1=some r):FnP Tryz.prog 106 [Pr.u8 x1] (Pr.bool r):=by
 refine cm (rs:=[2]) Tryz.func106 rfl Tryz.ntmps106 ⟨by decide,Tryz.results106⟩ (by decide) (fun s0=> ?_)
 unfold q4 at h
 refine W_rs (kAs rfl ?_)
 refine bj (fun e C=>∃(x5:Bool),lex_token_1_j1 x5=some r/\At [(2,Pr.bool x5)] [] e C) ?_ ?_
 ·rintro e C ⟨x5,h,hat1⟩
  refine W_at hat1 ?_
  unfold lex_token_1_j1 at h
  obtain rfl:=osj h
  exact ax ⟨rfl,aa⟩
 refine W_r (kMv rfl (cg h (lex_letter_ok x1) rfl fun x2 _ h=>kMv rfl ?_))
 rcases bd h with⟨hc3,h⟩|⟨hc3,h⟩
 ·refine kSkF rfl aa hc3 (kSkF rfl aa hc3 (kPt rfl hc3 rfl (kAs rfl ?_)))
  exact⟨true,h,atOk⟩
 refine kGd rfl aa hc3 (hMvA rfl) ?_
 obtain⟨x4,hx4,h⟩:=af h
 refine kGd rfl aa hc3 (dl (lex_digit_ok x1 _ hx4)) ?_
 refine kPf rfl hc3 rfl (kAs rfl ?_)
 exact⟨x4,h,atOk⟩
theorem slices_Index_string_string_ok (x1:List (List UInt8)) (x2:List UInt8) (r:Int) (h:gq x1 x2=some r):FnP Tryz.prog 149 [ap ct x1,ba x2] (Pr.i64 r):=by
 refine cm (rs:=[4]) Tryz.func149 rfl Tryz.ntmps149 ⟨by decide,Tryz.results149⟩ (by decide) (fun s0=> ?_)
 unfold gq at h
 refine W_rs (kAs rfl (az (W_rs (kMvL rfl (kUn (mt rfl Tryz.underlying36) ?_)))))
 refine kMv rfl (a4 ?_)
 obtain⟨z2l,hz2,h⟩:=af h
 obtain⟨n2,hN2⟩:=bp hz2
 refine d7 0 (fun e C=>il=some r/\At [] [] e C) ?_ ?_
 ·rintro e C ⟨h,hat1⟩
  refine W_at hat1 ?_
  unfold il at h
  refine W_rs (kAs rfl ?_)
  obtain rfl:=osj h
  exact ax ⟨rfl,aa⟩
 refine ew (fun m e C=>∃(x3:Int),ff (fun s=>ek x1 x2 s) m x3=some z2l/\At [(0,ap ct x1),(1,ba x2),(7,Pr.i64 (x1.length:Int)),(8,Pr.i64 x3)] [] e C) n2 ⟨0,hN2,⟨⟨aa,aa,aa,aa,trivial⟩,Pick.refl _⟩⟩ ?_
 rintro m e C ⟨x3,hN2,hatl2⟩
 refine W_at hatl2 ?_
 obtain⟨m2,w2l,rfl,h2l,hn2,ho2⟩:=bk hN2
 replace h2l:ek x1 x2 x3=some w2l:=h2l
 unfold ek at h2l
 refine W_rs (kIn rfl rfl rfl (az ?_))
 refine a7 h2l rfl (fun _ h2l=> ?_) (fun _ h2l=> ?_)
 ·refine ar (az (a4 (W_rs (kMv rfl (kAs rfl (W_rs (kMv rfl (kMvL rfl (kMv rfl ?_)))))))))
  obtain⟨x6,hx6,h2l⟩:=af h2l
  refine kUn (fi Tryz.underlying36 Tryz.sizeOf9 hx6) ?_
  refine kUn (cw ty9) ?_
  refine kSt rfl rfl rfl ?_
  refine a7 h2l rfl (fun _ h2l=> ?_) (fun _ h2l=> ?_)
  ·refine W_rs (kMv rfl (kAs rfl ?_))
   obtain rfl:=ho2 _ (Option.some.inj h2l).symm
   replace h:some x3=some r:=h
   obtain rfl:=osj h
   exact ax ⟨rfl,aa⟩
  refine ar (W_r (kIn rfl rfl rfl (kMv rfl ?_)))
  exact⟨m2,Nat.lt_succ_self _,w64 (x3+1),hn2 _ (Option.some.inj h2l).symm,atOk⟩
 refine ej ?_
 obtain rfl:=ho2 _ (Option.some.inj h2l).symm
 exact⟨h,atOk⟩
theorem slices_Contains_string_string_ok (x1:List (List UInt8)) (x2:List UInt8) (r:Bool) (h:fq x1 x2=some r):FnP Tryz.prog 127 [ap ct x1,ba x2] (Pr.bool r):=by
 refine cm (rs:=[4]) Tryz.func127 rfl Tryz.ntmps127 ⟨by decide,Tryz.results127⟩ (by decide) (fun s0=> ?_)
 unfold fq at h
 refine W_rs (kAs rfl (W_rs (kMvL rfl (kMv rfl (cg h (slices_Index_string_string_ok x1 x2) rfl fun x3 _ h=>kIn rfl rfl rfl (kAs rfl ?_))))))
 obtain rfl:=osj h
 exact ax ⟨rfl,aa⟩
theorem lex_Kept_ok (x1:List UInt8) (r:Bool) (h:lex_Kept x1=some r):FnP Tryz.prog 107 [ba x1] (Pr.bool r):=by
 refine cm (rs:=[2]) Tryz.func107 rfl Tryz.ntmps107 ⟨by decide,Tryz.results107⟩ (by decide) (fun s0=> ?_)
 unfold lex_Kept at h
 refine W_rs (kAs rfl (W_rs (kUn (qGSlice (R:=ct) (L:=kept) gKept Tryz.underlying138 Tryz.sizeOf9 rfl) ?_)))
 refine kMv rfl (cg h (slices_Contains_string_string_ok kept x1) rfl fun x2 _ h=>kAs rfl ?_)
 obtain rfl:=osj h
 exact ax ⟨rfl,aa⟩
theorem lex_mark_ok (x1:List UInt8) (r:Int) (h:lex_mark x1=some r):FnP Tryz.prog 108 [ba x1] (Pr.i64 r):=by
 refine cm (rs:=[2]) Tryz.func108 rfl Tryz.ntmps108 ⟨by decide,Tryz.results108⟩ (by decide) (fun s0=> ?_)
 unfold lex_mark at h
 refine W_rs (kAs rfl (az (W_rs (kUn (kw (R:=ct) (ls:=([([61,61]:List UInt8),([33,61]:List UInt8),([60,61]:List UInt8),([62,61]:List UInt8),([38,38]:List UInt8),([124,124]:List UInt8)]:List (List UInt8))) el36 (Nat.le_of_ble_eq_true rfl) ⟨rfl,rfl⟩ ⟨rfl,rfl,rfl,rfl,rfl,rfl,trivial⟩) ?_))))
 refine kUn (mt rfl Tryz.underlying36) ?_
 refine kMv rfl (a4 ?_)
 obtain⟨z2l,hz2,h⟩:=af h
 obtain⟨n2,hN2⟩:=bp hz2
 refine d7 0 (fun e C=>lex_mark_k1 x1=some r/\At [(0,ba x1)] [] e C) ?_ ?_
 ·rintro e C ⟨h,hat1⟩
  refine W_at hat1 ?_
  unfold lex_mark_k1 at h
  refine az (W_rs (kMv rfl ?_))
  obtain⟨x8,hx8,h⟩:=af h
  refine kUn (qIdxS Tryz.underlying9 hx8) ?_
  refine cg h (strings_IndexByte_ok ([43,45,42,47,37,60,62,61,33,40,41,123,125,59,44,46]:List UInt8) x8) rfl fun x9 _ h=>kIn rfl rfl rfl ?_
  refine a7 h rfl (fun _ h=> ?_) (fun _ h=> ?_)
  ·refine W_rs (kAs rfl ?_)
   obtain rfl:=osj h
   exact ax ⟨rfl,aa⟩
  refine ar (W_rs (kAs rfl ?_))
  obtain rfl:=osj h
  exact ax ⟨rfl,aa⟩
 refine ew (fun m e C=>∃(x2:Int),ff (fun s=>lex_mark_l2 x1 s) m x2=some z2l/\At [(0,ba x1),(5,ap ct ([([61,61]:List UInt8),([33,61]:List UInt8),([60,61]:List UInt8),([62,61]:List UInt8),([38,38]:List UInt8),([124,124]:List UInt8)]:List (List UInt8))),(6,Pr.i64 (([([61,61]:List UInt8),([33,61]:List UInt8),([60,61]:List UInt8),([62,61]:List UInt8),([38,38]:List UInt8),([124,124]:List UInt8)]:List (List UInt8)).length:Int)),(7,Pr.i64 x2)] [] e C) n2 ⟨0,hN2,⟨⟨aa,aa,aa,aa,trivial⟩,Pick.refl _⟩⟩ ?_
 rintro m e C ⟨x2,hN2,hatl2⟩
 refine W_at hatl2 ?_
 obtain⟨m2,w2l,rfl,h2l,hn2,ho2⟩:=bk hN2
 replace h2l:lex_mark_l2 x1 x2=some w2l:=h2l
 unfold lex_mark_l2 at h2l
 refine W_rs (kIn rfl rfl rfl (az ?_))
 refine a7 h2l rfl (fun _ h2l=> ?_) (fun _ h2l=> ?_)
 ·refine ar (az (a4 (W_rs ?_)))
  obtain⟨x5,hx5,h2l⟩:=af h2l
  refine kUn (fi Tryz.underlying36 Tryz.sizeOf9 hx5) ?_
  refine kUn (cw ty9) ?_
  refine kAs rfl (W_rs (kMv rfl (kMv rfl (cg h2l (mc x1 x5) rfl fun x6 _ h2l=> ?_))))
  refine a7 h2l rfl (fun _ h2l=> ?_) (fun _ h2l=> ?_)
  ·refine W_rs (kAs rfl ?_)
   obtain rfl:=ho2 _ (Option.some.inj h2l).symm
   replace h:some 2=some r:=h
   obtain rfl:=osj h
   exact ax ⟨rfl,aa⟩
  refine ar (W_r (kIn rfl rfl rfl (kMv rfl ?_)))
  exact⟨m2,Nat.lt_succ_self _,w64 (x2+1),hn2 _ (Option.some.inj h2l).symm,atOk⟩
 refine ej ?_
 obtain rfl:=ho2 _ (Option.some.inj h2l).symm
 exact⟨h,atOk⟩
theorem lex_token_ok (x1:List UInt8) (r:Int × Int × Int) (h:lex_token x1=some r):FnP Tryz.prog 88 [ba x1] (ce [Pr.i64 r.1,Pr.i64 r.2.1,Pr.i64 r.2.2]):=by
 refine cm (rs:=[2,3,4]) Tryz.func88 rfl Tryz.ntmps88 ⟨by decide,Tryz.results88⟩ (by decide) (fun s0=> ?_)
 unfold lex_token at h
 refine W_rs (kAs rfl (kAs rfl (kAs rfl (az (a4 (W_rs (kMv rfl ?_)))))))
 obtain⟨x2,hx2,h⟩:=af h
 refine kUn (qIdxS Tryz.underlying9 hx2) ?_
 refine cg h (lex_digit_ok x2) rfl fun x3 _ h=>kAs rfl ?_
 refine a7 h rfl (fun _ h=> ?_) (fun _ h=> ?_)
 ·refine W_rs (kMv rfl ?_)
  obtain⟨x5,hx5,h⟩:=af h
  refine kUn (qCall' (lex_run_ok x1 lex_digit _ hx5) ⟨aa,(is_pfn en103 (fun _ _ hs=>by obtain⟨a0,r,rfl,rfl,hr⟩:=hs;exact lex_digit_ok a0 r hr)),trivial⟩) ?_
  refine kAs rfl (W_rs (kMv rfl (kMv rfl ?_)))
  obtain⟨x6,hx6,h⟩:=af h
  refine kUn (qSubH Tryz.underlying9 hx6) ?_
  obtain⟨⟨x7,x8⟩,hx7,h⟩:=af h
  refine kUn (dl (strconv_ParseInt_ok x6 10 64 _ hx7)) ?_
  refine kUn (hMv (out:=ce [Pr.i64 x7,Pr.err x8]) rfl) (kUn ao ?_)
  refine kUn ao ?_
  refine kAs rfl (kUn (hAs (out:=Pr.err x8) rfl) (az ?_))
  refine bj (fun e C=>∃(x16:Bool),pa x5 x16=some r/\At [(5,Pr.i64 x5),(37,Pr.bool x16)] [] e C) ?_ ?_
  ·rintro e C ⟨x16,h,hat1⟩
   refine W_at hat1 ?_
   unfold pa at h
   refine a7 h rfl (fun _ h=> ?_) (fun _ h=> ?_)
   ·refine W_rs (kAs rfl (kAs rfl (kAs rfl ?_)))
    obtain rfl:=osj h
    exact ax ⟨rfl,aa⟩
   refine ar (W_rs (kMv rfl (kAs rfl (kAs rfl (kAs rfl ?_)))))
   obtain rfl:=osj h
   exact ax ⟨rfl,aa⟩
  refine W_r (kUn (hMv (out:=Pr.err x8) rfl) (kUn (qErrNe Tryz.underlying62) ?_))
  refine kMv rfl ?_
  rcases bd h with⟨hc9,h⟩|⟨hc9,h⟩
  ·refine kSkF rfl aa hc9 (kSkF rfl aa hc9 (kPt rfl hc9 rfl (kMv rfl ?_)))
   have hc13:true=true:=rfl
   refine kSkF rfl aa hc13 (kSkF rfl aa hc13 (kSkF rfl aa hc13 (kSkU rfl aa (kSkU rfl aa (kSkU rfl aa (kSkF rfl aa hc13 (kPt rfl hc13 rfl ?_)))))))
   exact⟨true,h,atOk⟩
  refine kGd rfl aa hc9 (hMvA rfl) (kGd rfl aa hc9 (qInt rfl rfl rfl) (kPf rfl hc9 rfl (kMv rfl ?_)))
  rcases bd h with⟨hc10,h⟩|⟨hc10,h⟩
  ·refine kSkF rfl aa hc10 (kSkF rfl aa hc10 (kSkF rfl aa hc10 (kSkU rfl aa (kSkU rfl aa (kSkU rfl aa (kSkF rfl aa hc10 (kPt rfl hc10 rfl ?_)))))))
   exact⟨true,h,atOk⟩
  refine kGd rfl aa hc10 (hMvA rfl) (kGd rfl aa hc10 (qInt rfl rfl rfl) (kGd rfl aa hc10 (hMvA rfl) ?_))
  rcases bd h with⟨hc11,h⟩|⟨hc11,h⟩
  ·refine kGd rfl aa hc11 (hMvA rfl) ?_
   obtain⟨x12,hx12,h⟩:=af h
   refine kGd rfl aa hc11 (qIdxS Tryz.underlying9 hx12) ?_
   refine kGd rfl aa hc11 (qInt rfl rfl rfl) (kGd rfl aa hc10 (hPt rfl hc11 rfl) (kPf rfl hc10 rfl ?_))
   exact⟨x12==48,h,atOk⟩
  refine kSkT rfl aa hc11 (kSkT rfl aa hc11 (kSkT rfl aa hc11 (kGd rfl aa hc10 (hPf rfl hc11 rfl) (kPf rfl hc10 rfl ?_))))
  exact⟨false,h,atOk⟩
 refine W_rs (kMv rfl ?_)
 obtain⟨x18,hx18,h⟩:=af h
 refine kUn (qIdxS Tryz.underlying9 hx18) ?_
 refine cg h (lex_letter_ok x18) rfl fun x19 _ h=>kAs rfl ?_
 refine a7 h rfl (fun _ h=> ?_) (fun _ h=> ?_)
 ·refine W_rs (kMv rfl ?_)
  obtain⟨x21,hx21,h⟩:=af h
  refine kUn (qCall' (lex_run_ok x1 q4 _ hx21) ⟨aa,(is_pfn en106 (fun _ _ hs=>by obtain⟨a0,r,rfl,rfl,hr⟩:=hs;exact lex_token_1_ok a0 r hr)),trivial⟩) ?_
  refine kAs rfl (az (a4 (W_rs (kMv rfl (kIn rfl rfl rfl (kAs rfl ?_))))))
  refine a7 h rfl (fun _ h=> ?_) (fun _ h=> ?_)
  ·refine W_rs (kAs rfl (kAs rfl (kAs rfl ?_)))
   obtain rfl:=osj h
   exact ax ⟨rfl,aa⟩
  refine W_rs (kMv rfl (kMv rfl ?_))
  obtain⟨x23,hx23,h⟩:=af h
  refine kUn (qSubH Tryz.underlying9 hx23) ?_
  refine cg h (lex_Kept_ok x23) rfl fun x24 _ h=>kAs rfl ?_
  refine a7 h rfl (fun _ h=> ?_) (fun _ h=> ?_)
  ·refine W_rs (kMv rfl (kAs rfl (kAs rfl (kAs rfl ?_))))
   obtain rfl:=osj h
   exact ax ⟨rfl,aa⟩
  refine ar (W_rs (kMv rfl (kAs rfl (kAs rfl (kAs rfl ?_)))))
  obtain rfl:=osj h
  exact ax ⟨rfl,aa⟩
 refine ar (W_rs (kMv rfl (cg h (lex_mark_ok x1) rfl fun x26 _ h=>kAs rfl (az (W_rs (kMv rfl (kIn rfl rfl rfl ?_)))))))
 refine a7 h rfl (fun _ h=> ?_) (fun _ h=> ?_)
 ·refine W_rs (kAs rfl (kAs rfl (kAs rfl ?_)))
  obtain rfl:=osj h
  exact ax ⟨rfl,aa⟩
 refine ar (W_rs (kMv rfl (kAs rfl (kAs rfl (kAs rfl ?_)))))
 obtain rfl:=osj h
 exact ax ⟨rfl,aa⟩
theorem lex_Lex_ok (x1:List UInt8) (r:(List ApiToken) × Int × Int) (h:lex_Lex x1=some r):FnP Tryz.prog 58 [ba x1] (ce [ap ah r.1,Pr.i64 r.2.1,Pr.i64 r.2.2]):=by
 refine cm (rs:=[2,3,4]) Tryz.func58 rfl Tryz.ntmps58 ⟨by decide,Tryz.results58⟩ (by decide) (fun s0=> ?_)
 unfold lex_Lex at h
 refine W_rs ?_
 refine rBox (R:=ct) (a:=x1) rfl (fun b2=> ?_)
 refine kAs rfl (kAs rfl (kAs rfl (az (W_rs (kUn (bb 0 ty9 (Sub.refl _)) ?_)))))
 refine kUn (ol rfl Tryz.underlying9) ?_
 refine kIn rfl rfl rfl ?_
 refine a7 h rfl (fun _ h=> ?_) (fun _ h=> ?_)
 ·refine W_rs (kAs rfl (kAs rfl (kAs rfl ?_)))
  obtain rfl:=osj h
  exact ax ⟨rfl,tup_le ⟨cv _,aa,aa,trivial⟩⟩
 refine ar (W_rs ?_)
 refine rAllocC Tryz.zeroValue70 rfl rfl (fun b4=> ?_)
 refine W_rs (a8 al3 fun b5=>ak 2 rfl rfl (Upd.refl _) rfl Tryz.sizeOf3 (W_rs (kUn qMakeFunc ?_)))
 refine kUn (hAs (out:=Pr.clo 86 [] [aj b4 0,aj b2 0,aj b5 0]) rfl) (a4 ?_)
 obtain⟨n1,hN1⟩:=bp h
 refine W_vec ah 74 ?_
 refine ew (fun m e C=>∃(x6:List UInt8),∃(x8:Int),∃(x9:List ApiToken),∃(v7:Value),ff (fun s=>jk s.1 s.2.1 s.2.2) m (x6,x8,x9)=some r/\At [(1,aj b2 0),(5,aj b4 0),(6,aj b5 0),(7,Pr.clo 86 [] [aj b4 0,aj b2 0,aj b5 0])] [Own.box b2 ct x6,Own.cell b4 (Pr.is v7),Own.box b5 (Rp.int .i64) x8,Own.vec v7 ah x9 74] e C) n1 ⟨x1,0,[],(.slice none 0 0),hN1,⟨⟨aa,aa,aa,aa,trivial⟩,Pick.refl _⟩⟩ ?_
 rintro m e C ⟨x6,x8,x9,v7,hN1,hatl1⟩
 refine W_at hatl1 ?_
 obtain⟨m1,w1l,rfl,h1l,hn1,ho1⟩:=bk hN1
 replace h1l:jk x6 x8 x9=some w1l:=h1l
 unfold jk at h1l
 refine a4 (W_rs (kUn (bb 0 ty9 (Sub.refl _)) ?_))
 refine kUn (bb 2 ty3 (Sub.refl _)) ?_
 obtain⟨x14,hx14,h1l⟩:=af h1l
 refine kUn (qSubL Tryz.underlying9 hx14) ?_
 obtain⟨⟨x15,x16⟩,hx15,h1l⟩:=af h1l
 refine kUn (dl (lex_between_ok x14 _ hx15)) ?_
 refine kUn (hMv (out:=ce [Pr.i64 x15,Pr.bool x16]) rfl) (kUn ao ?_)
 refine kUn ao ?_
 refine kAs rfl (kAs rfl (az (W_rs (kMv rfl (kNo rfl ?_)))))
 refine a7 h1l rfl (fun _ h1l=> ?_) (fun _ h1l=> ?_)
 ·refine bj (fun e C=>lex_Lex_j2 x8 x15=some w1l/\At [(2,Pr.is (.slice none 0 0)),(3,Pr.i64 (w64 (x8+x15))),(4,Pr.i64 32)] [Own.box b2 ct x6,Own.cell b4 (Pr.is v7),Own.box b5 (Rp.int .i64) x8,Own.vec v7 ah x9 74] e C) ?_ ?_
  ·rintro e C ⟨h1l,hat2⟩
   refine W_at hat2 ?_
   unfold lex_Lex_j2 at h1l
   have h:some ([],w64 (x8+x15),32)=some r:=congrArg some (ho1 _ (Option.some.inj h1l).symm)
   obtain rfl:=osj h
   exact ax ⟨rfl,tup_le ⟨cv _,aa,aa,trivial⟩⟩
  refine ib 6 hmx (by kernel_rfl) (by kernel_rfl) ?_
  refine lUn (bb 2 ty3 (Sub.refl _)) ?_
  refine lUn (hMvA rfl) (lUn (qInt rfl rfl rfl) (lUn (hAsA rfl) (lUn (hAsA rfl) (lUn (hAsA rfl) ?_))))
  exact⟨h1l,atOk⟩
 refine ar (az (W_rs (kUn (bb 2 ty3 (Sub.refl _)) ?_)))
 refine kMv rfl (kIn rfl rfl rfl (kUn (bb 0 ty9 (Sub.refl _)) ?_))
 refine kUn (ol rfl Tryz.underlying9) ?_
 refine kIn rfl rfl rfl ?_
 refine a7 h1l rfl (fun _ h1l=> ?_) (fun _ h1l=> ?_)
 ·refine W_rs (kUn (hMv (out:=Pr.clo 86 [] [aj b4 0,aj b2 0,aj b5 0]) rfl) (kMv rfl ?_))
  obtain⟨⟨x19,x21,x22⟩,hx19,h1l⟩:=af h1l
  refine rCallK [1,3,0,2] (lex_Lex_1_ok 5 x15 0 x9 x6 x8 b4 v7 b2 b5 _ hx19) (fun q C' hq=> ?_)
  obtain⟨v20,rfl,rfl⟩:=hq
  refine W_rs (kUn (qLoadP 0 Tryz.isAgg70) ?_)
  refine kAs rfl (kAs rfl (kAs rfl ?_))
  have h:some (x19,0,0)=some r:=congrArg some (ho1 _ (Option.some.inj h1l).symm)
  refine W_rel 1 [2] ?_ rfl ⟨rfl,trivial⟩
  obtain rfl:=osj h
  exact ax ⟨rfl,aa⟩
 refine ar (W_rs (kUn (bb 0 ty9 (Sub.refl _)) ?_))
 refine kUn (bb 2 ty3 (Sub.refl _)) ?_
 refine kMv rfl (kIn rfl rfl rfl ?_)
 obtain⟨x23,hx23,h1l⟩:=af h1l
 refine kUn (qSubL Tryz.underlying9 hx23) ?_
 obtain⟨⟨x24,x25,x26⟩,hx24,h1l⟩:=af h1l
 refine kUn (dl (lex_token_ok x23 _ hx24)) ?_
 refine kUn (hMv (out:=ce [Pr.i64 x24,Pr.i64 x25,Pr.i64 x26]) rfl) (kUn ao ?_)
 refine kUn ao ?_
 refine kUn ao ?_
 refine kAs rfl (kAs rfl (kAs rfl (az (W_rs (kMv rfl (kIn rfl rfl rfl ?_))))))
 refine a7 h1l rfl (fun _ h1l=> ?_) (fun _ h1l=> ?_)
 ·refine bj (fun e C=>lex_Lex_j3 x8 x15 x26=some w1l/\At [(2,Pr.is (.slice none 0 0)),(3,Pr.i64 (w64 (x8+x15))),(4,Pr.i64 x26)] [Own.box b2 ct x6,Own.cell b4 (Pr.is v7),Own.box b5 (Rp.int .i64) x8,Own.vec v7 ah x9 74] e C) ?_ ?_
  ·rintro e C ⟨h1l,hat3⟩
   refine W_at hat3 ?_
   unfold lex_Lex_j3 at h1l
   have h:some ([],w64 (x8+x15),x26)=some r:=congrArg some (ho1 _ (Option.some.inj h1l).symm)
   obtain rfl:=osj h
   exact ax ⟨rfl,tup_le ⟨cv _,aa,aa,trivial⟩⟩
  refine ib 7 hmx (by kernel_rfl) (by kernel_rfl) ?_
  refine lUn (bb 2 ty3 (Sub.refl _)) ?_
  refine lUn (hMvA rfl) (lUn (qInt rfl rfl rfl) (lUn (hMvA rfl) (lUn (hAsA rfl) (lUn (hAsA rfl) (lUn (hAsA rfl) ?_)))))
  exact⟨h1l,atOk⟩
 refine ar (W_r (kUn (hMv (out:=Pr.clo 86 [] [aj b4 0,aj b2 0,aj b5 0]) rfl) (kMv rfl (kMv rfl (kMv rfl ?_)))))
 obtain⟨⟨x28,x30,x31⟩,hx28,h1l⟩:=af h1l
 refine rCallK [1,3,0,2] (lex_Lex_1_ok x24 x15 x25 x9 x6 x8 b4 v7 b2 b5 _ hx28) (fun q C' hq=> ?_)
 obtain⟨v29,rfl,rfl⟩:=hq
 exact⟨m1,Nat.lt_succ_self _,x30,x31,x28,v29,hn1 _ (Option.some.inj h1l).symm,⟨⟨aa,aa,aa,aa,trivial⟩,Pick.of [2,0,3,1] rfl⟩⟩
def rec_node_Depth_spec (R:ij):Prop:=(∀(x1:ApiNode) (r:Int),R x1=some r->FnP Tryz.prog 61 [(rApiNode).val x1] (Pr.i64 r))
theorem F_node_Depth_step (R:ij) (ih:rec_node_Depth_spec R) (x1:ApiNode) (r:Int) (h:F_node_Depth R x1=some r):FnP Tryz.prog 61 [(rApiNode).val x1] (Pr.i64 r):=by
 refine cm (rs:=[2]) Tryz.func61 rfl Tryz.ntmps61 ⟨by decide,Tryz.results61⟩ (by decide) (fun s0=> ?_)
 unfold F_node_Depth at h
 refine W_rs ?_
 refine rBox (R:=rApiNode) (a:=x1) rfl (fun b2=> ?_)
 refine kAs rfl (W_rs (kAs rfl (az (W_rs (kUn (av fld48_8) ?_)))))
 refine kUn (bb 0 ty44 mf) ?_
 refine kUn (mt rfl Tryz.underlying44) ?_
 refine kMv rfl (a4 ?_)
 obtain⟨z2l,hz2,h⟩:=af h
 obtain⟨n2,hN2⟩:=bp hz2
 refine d7 0 (fun e C=>∃(x3:Int),node_Depth_k1 R x3=some r/\At [(3,Pr.i64 x3)] [Own.box b2 rApiNode x1] e C) ?_ ?_
 ·rintro e C ⟨x3,h,hat1⟩
  refine W_at hat1 ?_
  unfold node_Depth_k1 at h
  refine W_rs (kMv rfl (kIn rfl rfl rfl (kAs rfl ?_)))
  obtain rfl:=osj h
  exact ax ⟨rfl,aa⟩
 refine ew (fun m e C=>∃(x3:Int),∃(x4:Int),ff (fun s=>pu R x1 s.1 s.2) m (x3,x4)=some z2l/\At [(3,Pr.i64 x3),(7,ap rApiNode x1.Kids),(8,Pr.i64 (x1.Kids.length:Int)),(9,Pr.i64 x4)] [Own.box b2 rApiNode x1] e C) n2 ⟨0,0,hN2,⟨⟨aa,aa,aa,aa,trivial⟩,Pick.refl _⟩⟩ ?_
 rintro m e C ⟨x3,x4,hN2,hatl2⟩
 refine W_at hatl2 ?_
 obtain⟨m2,w2l,rfl,h2l,hn2,ho2⟩:=bk hN2
 replace h2l:pu R x1 x3 x4=some w2l:=h2l
 unfold pu at h2l
 refine W_rs (kIn rfl rfl rfl (az ?_))
 refine a7 h2l rfl (fun _ h2l=> ?_) (fun _ h2l=> ?_)
 ·refine ar (az (a4 (W_rs ?_)))
  obtain⟨x8,hx8,h2l⟩:=af h2l
  refine kUn (fi Tryz.underlying44 Tryz.sizeOf48 hx8) ?_
  refine kUn (cw ty48) ?_
  refine a8 al48 fun b9=>ak 1 rfl rfl (Upd.refl _) rfl Tryz.sizeOf48 (W_r (kMv rfl (kUn (bb 1 ty48 (Sub.refl _)) ?_)))
  refine cg h2l (ih x8) rfl fun x10 _ h2l=> ?_
  refine kUn (qMax (a:=x3) (b:=x10)) ?_
  refine kAs rfl (W_r (kIn rfl rfl rfl (kMv rfl ?_)))
  exact⟨m2,Nat.lt_succ_self _,(if x10>x3 then x10 else x3),w64 (x4+1),hn2 _ (Option.some.inj h2l).symm,⟨⟨aa,aa,aa,aa,trivial⟩,Pick.of [0] rfl⟩⟩
 refine ej ?_
 obtain rfl:=ho2 _ (Option.some.inj h2l).symm
 exact⟨x3,h,atOk⟩
theorem rec_node_Depth_ok :∀n,rec_node_Depth_spec (kr n):=by
 intro n
 induction n with
 |zero=>exact(fun x1 r h=>nomatch (show none=some r from h))
 |succ n ih=>exact(fun x1 r h=>F_node_Depth_step (kr n) ih x1 r h)
theorem node_Depth_ok (x1:ApiNode) (r:Int) (h:node_Depth x1=some r):FnP Tryz.prog 61 [(rApiNode).val x1] (Pr.i64 r):=(rec_node_Depth_ok 1048576) x1 r h
end Go.Proofs.YteablckbgpogiaaGreatDoor
