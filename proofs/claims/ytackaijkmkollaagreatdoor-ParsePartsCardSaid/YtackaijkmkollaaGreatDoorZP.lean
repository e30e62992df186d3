/- The code comes to what these functions say (printed by wip/gen/gen.py). -/
import Derived.Test.YtackaijkmkollaaGreatDoorZX
import Derived.Test.YtackaijkmkollaaGreatDoorZT
set_option linter.unusedSimpArgs false
set_option linter.unusedVariables false
set_option linter.unusedSectionVars false
set_option linter.unusedSectionVars false
set_option maxRecDepth 100000
set_option maxHeartbeats 4000000
namespace Go.Proofs.YtackaijkmkollaaGreatDoor
open Go Go.Cn
variable [Known]
theorem lex_Lex_1_ok (x1 x2 x3:Int) (x5:List ApiToken) (x8:List UInt8) (x10:Int) (b4:Nat) (v6:Value) (b7 b9:Nat) (r:(List ApiToken) × (List UInt8) × Int) (h:lex_Lex_1 x1 x2 x3 x5 x8 x10=some r):FnC Tryz.prog 59 [Pr.i64 x1,Pr.i64 x2,Pr.i64 x3,al b4 0,al b7 0,al b9 0] [Own.cell b4 (Pr.is v6),Own.vec v6 af x5 37,Own.box b7 bh x8,Own.box b9 (Rp.int .i64) x10] (fun q C'=>∃w0,q=cj []/\C'=[Own.cell b4 (Pr.is w0),Own.vec w0 af r.1 37,Own.box b7 bh r.2.1,Own.box b9 (Rp.int .i64) r.2.2]):=by
 refine fnc_introP (n:=38) (rs:=[]) Tryz.func59 rfl Tryz.ntmps59 ⟨by decide,Tryz.results59⟩ (by decide) (fun s0=> ?_)
 unfold lex_Lex_1 at h
 refine cd (fun e C=>∃(x13:List ApiToken),∃(v14:Value),lex_Lex_1_j1 x8 x10 x2 x3 x13=some r/\At [(1,Pr.i64 x2),(2,Pr.i64 x3),(5,al b9 0)] [Own.cell b4 (Pr.is v14),Own.vec v14 af x13 37,Own.box b7 bh x8,Own.box b9 (Rp.int .i64) x10] e C) ?_ ?_
 ·rintro e C ⟨x13,v14,h,hat1⟩
  refine W_at hat1 ?_
  clear hat1
  unfold lex_Lex_1_j1 at h
  refine W_r ?_
  refine rq (out:=Pr.i64 x10) (a7 (R:=Rp.int .i64) (a:=x10) (R':=Rp.int .i64) 3 ty3 (Sub.refl _)) ?_
  refine rq (out:=Pr.i64 x2) ai ?_
  refine rq (out:=Pr.i64 x3) ai ?_
  refine rq (out:=Pr.i64 (w64 (x2+x3))) qInt ?_
  refine rq (out:=Pr.i64 (w64 (x10+(w64 (x2+x3))))) qInt ?_
  refine a5 (R:=Rp.int .i64) (R':=Rp.int .i64) (a:=x10) (y:=w64 (x10+(w64 (x2+x3)))) 3 Tryz.sizeOf3 (Upd.refl _) ?_
  obtain rfl:=Option.some.inj h
  exact⟨.inr rfl,_,Pick.refl _,_,aa,v14,rfl,rfl⟩
 refine W_draw 23 hmx (by kernel_rfl) (by kernel_rfl) ?_
 refine qq (out:=Pr.is v6) (qLoadP 0 Tryz.isAgg33) ?_
 refine qq (out:=Pr.i64 x1) ai ?_
 refine qq (out:=ar x8) (a7 (R:=bh) (a:=x8) (R':=bh) 2 ty9 (Sub.refl _)) ?_
 refine qq (out:=Pr.i64 x10) (a7 (R:=Rp.int .i64) (a:=x10) (R':=Rp.int .i64) 3 ty3 (Sub.refl _)) ?_
 refine qq (out:=Pr.i64 x2) ai ?_
 refine qq (out:=Pr.i64 (w64 (x10+x2))) qInt ?_
 refine qq (out:=Pr.i64 x10) (a7 (R:=Rp.int .i64) (a:=x10) (R':=Rp.int .i64) 3 ty3 (Sub.refl _)) ?_
 refine qq (out:=Pr.i64 x2) ai ?_
 refine qq (out:=Pr.i64 (w64 (x10+x2))) qInt ?_
 refine qq (out:=Pr.i64 x3) ai ?_
 refine qq (out:=Pr.i64 (w64 ((w64 (x10+x2))+x3))) qInt ?_
 obtain⟨x11,hx11,h⟩:=ak h
 refine qq (out:=ar x11) (qSubLH Tryz.underlying9 hx11) ?_
 refine qq (out:=Pr.i64 x10) (a7 (R:=Rp.int .i64) (a:=x10) (R':=Rp.int .i64) 3 ty3 (Sub.refl _)) ?_
 refine qq (out:=Pr.i64 x2) ai ?_
 refine qq (out:=Pr.i64 (w64 (x10+x2))) qInt ?_
 refine qq (out:=ar x8) (a7 (R:=bh) (a:=x8) (R':=bh) 2 ty9 (Sub.refl _)) ?_
 refine qq (out:=Pr.i64 x10) (a7 (R:=Rp.int .i64) (a:=x10) (R':=Rp.int .i64) 3 ty3 (Sub.refl _)) ?_
 refine qq (out:=Pr.i64 x10) (a7 (R:=Rp.int .i64) (a:=x10) (R':=Rp.int .i64) 3 ty3 (Sub.refl _)) ?_
 refine qq (out:=Pr.i64 x2) ai ?_
 refine qq (out:=Pr.i64 (w64 (x10+x2))) qInt ?_
 obtain⟨x12,hx12,h⟩:=ak h
 refine qq (out:=ar x12) (qSubLH Tryz.underlying9 hx12) ?_
 refine qq (out:=(af).val (ApiToken.mk x1 x11 (w64 (x10+x2)) x12)) (qBuild st37 ⟨(ApiToken.mk x1 [] 0 []),⟨_,rfl,rfl,fun j fd hj hf=>by match j,hj with| 0,h=>exact absurd rfl h| 1,_=>cases hf;rfl| 2,_=>cases hf;rfl| 3,_=>cases hf;rfl|_+4,_=>cases hf⟩,⟨(ApiToken.mk x1 x11 0 []),⟨_,rfl,rfl,fun j fd hj hf=>by match j,hj with| 0,_=>cases hf;rfl| 1,h=>exact absurd rfl h| 2,_=>cases hf;rfl| 3,_=>cases hf;rfl|_+4,_=>cases hf⟩,⟨(ApiToken.mk x1 x11 (w64 (x10+x2)) []),⟨_,rfl,rfl,fun j fd hj hf=>by match j,hj with| 0,_=>cases hf;rfl| 1,_=>cases hf;rfl| 2,h=>exact absurd rfl h| 3,_=>cases hf;rfl|_+4,_=>cases hf⟩,⟨(ApiToken.mk x1 x11 (w64 (x10+x2)) x12),⟨_,rfl,rfl,fun j fd hj hf=>by match j,hj with| 0,_=>cases hf;rfl| 1,_=>cases hf;rfl| 2,_=>cases hf;rfl| 3,h=>exact absurd rfl h|_+4,_=>cases hf⟩,rfl⟩⟩⟩⟩) ?_
 refine qq (out:=av af ([(ApiToken.mk x1 x11 (w64 (x10+x2)) x12)]:List ApiToken)) (cn (R:=af) (a:=(ApiToken.mk x1 x11 (w64 (x10+x2)) x12)) el33 (Nat.le_of_ble_eq_true rfl)) ?_
 obtain⟨x13,hx13,h⟩:=ak h
 refine kz 1 el33 hx13 (fun v14=> ?_)
 refine rStoreV 0 1 Tryz.sizeOf33 ?_
 exact⟨x13,v14,h,⟨⟨aa,aa,aa,trivial⟩,Pick.refl _⟩⟩
theorem internal_stringslite_HasPrefix_ok (x1 x2:List UInt8) (r:Bool) (h:ef x1 x2=some r):FnP Tryz.prog 85 [ar x1,ar x2] (Pr.bool r):=by
 refine de (n:=18) (rs:=[4]) Tryz.func85 rfl Tryz.ntmps85 ⟨by decide,Tryz.results85⟩ (by decide) (fun s0=> ?_)
 unfold ef at h
 refine W_rs ?_
 refine rq (out:=Pr.bool false) aj ?_
 refine cd (fun e C=>∃(x5:Bool),cb x5=some r/\At [(4,Pr.bool x5)] [] e C) ?_ ?_
 ·rintro e C ⟨x5,h,hat1⟩
  refine W_at hat1 ?_
  clear hat1
  unfold cb at h
  obtain rfl:=Option.some.inj h
  exact bp ⟨rfl,aa⟩
 refine W_r ?_
 refine rq (out:=ar x1) ai ?_
 refine rq (out:=Pr.i64 (x1.length:Int)) (qLenS rfl Tryz.underlying9) ?_
 refine rq (out:=ar x2) ai ?_
 refine rq (out:=Pr.i64 (x2.length:Int)) (qLenS rfl Tryz.underlying9) ?_
 refine rq (out:=Pr.bool (decide ((x1.length:Int)≥(x2.length:Int)))) qInt ?_
 refine rq (out:=Pr.bool (decide ((x1.length:Int)≥(x2.length:Int)))) ai ?_
 rcases bk h with⟨hc3,h⟩|⟨hc3,h⟩
 ·refine rqg hc3 (out:=ar x1) ai ?_
  refine rqg hc3 (out:=ar x2) ai ?_
  refine rqg hc3 (out:=Pr.i64 (x2.length:Int)) (qLenS rfl Tryz.underlying9) ?_
  obtain⟨x4,hx4,h⟩:=ak h
  refine rqg hc3 (out:=ar x4) (qSubH Tryz.underlying9 hx4) ?_
  refine rqg hc3 (out:=ar x2) ai ?_
  refine rqg hc3 (out:=Pr.bool (x4==x2)) qStr ?_
  refine rq (out:=Pr.bool (x4==x2)) (bg hc3) ?_
  refine rq (out:=Pr.bool (x4==x2)) aj ?_
  exact⟨x4==x2,h,⟨⟨aa,trivial⟩,Pick.refl _⟩⟩
 refine rno (neT hc3) ?_
 refine rno (neT hc3) ?_
 refine rno (neT hc3) ?_
 refine rno (neT hc3) ?_
 refine rno (neT hc3) ?_
 refine rno (neT hc3) ?_
 refine rq (out:=Pr.bool false) (ax hc3) ?_
 refine rq (out:=Pr.bool false) aj ?_
 exact⟨false,h,⟨⟨aa,trivial⟩,Pick.refl _⟩⟩
theorem kq (x1 x2:List UInt8) (r:Bool) (h:er x1 x2=some r):FnP Tryz.prog 70 [ar x1,ar x2] (Pr.bool r):=by
 refine de (n:=8) (rs:=[4]) Tryz.func70 rfl Tryz.ntmps70 ⟨by decide,Tryz.results70⟩ (by decide) (fun s0=> ?_)
 unfold er at h
 refine W_rs ?_
 refine rq (out:=Pr.bool false) aj ?_
 refine W_rs ?_
 refine rq (out:=ar x1) ai ?_
 refine rq (out:=ar x2) ai ?_
 obtain⟨x3,hx3,h⟩:=ak h
 refine rq (out:=Pr.bool x3) (dt (internal_stringslite_HasPrefix_ok x1 x2 _ hx3)) ?_
 refine rq (out:=Pr.bool x3) aj ?_
 obtain rfl:=Option.some.inj h
 exact bp ⟨rfl,aa⟩
theorem lex_run_ok (x1:List UInt8) (x2:(Int->Option Bool)) (r:Int) (h:lex_run x1 x2=some r):FnP Tryz.prog 71 [ar x1,Pr.pfn Tryz.prog (spec56 x2)] (Pr.i64 r):=by
 refine de (n:=21) (rs:=[4]) Tryz.func71 rfl Tryz.ntmps71 ⟨by decide,Tryz.results71⟩ (by decide) (fun s0=> ?_)
 unfold lex_run at h
 refine W_rs ?_
 refine rq (out:=Pr.i64 0) aj ?_
 refine c0 ?_
 refine W_rs ?_
 refine rq (out:=ar x1) ai ?_
 refine rq (out:=Pr.i64 (x1.length:Int)) (qLenS rfl Tryz.underlying9) ?_
 refine rq (out:=Pr.i64 0) ai ?_
 refine bu ?_
 obtain⟨z2l,hz2,h⟩:=ak h
 obtain⟨n2,hN2⟩:=dv hz2
 clear hz2
 refine kp 0 (fun e C=>lex_run_k1 x1=some r/\At [(0,ar x1)] [] e C) ?_ ?_
 ·rintro e C ⟨h,hat1⟩
  refine W_at hat1 ?_
  clear hat1
  unfold lex_run_k1 at h
  refine W_rs ?_
  refine rq (out:=ar x1) ai ?_
  refine rq (out:=Pr.i64 (x1.length:Int)) (qLenS rfl Tryz.underlying9) ?_
  refine rq (out:=Pr.i64 (x1.length:Int)) aj ?_
  obtain rfl:=Option.some.inj h
  exact bp ⟨rfl,aa⟩
 refine k8 (fun m e C=>∃(x3:Int),i1 (fun s=>lex_run_l2 x1 x2 s) m x3=some z2l/\At [(0,ar x1),(1,Pr.pfn Tryz.prog (spec56 x2)),(7,Pr.i64 (x1.length:Int)),(8,Pr.i64 x3)] [] e C) n2 ⟨0,hN2,⟨⟨aa,aa,aa,aa,trivial⟩,Pick.refl _⟩⟩ ?_
 clear hN2
 rintro m e C ⟨x3,hN2,hatl2⟩
 refine W_at hatl2 ?_
 clear hatl2
 obtain⟨m2,w2l,rfl,h2l,hn2,ho2⟩:=dp hN2
 clear hN2
 replace h2l:lex_run_l2 x1 x2 x3=some w2l:=h2l
 unfold lex_run_l2 at h2l
 refine W_rs ?_
 refine rq (out:=Pr.bool (decide (x3<(x1.length:Int)))) qInt ?_
 refine c0 ?_
 refine a8 (b:=decide (x3<(x1.length:Int))) rfl (fun hc5=> ?_) (fun hc5=> ?_)
 ·replace h2l:=iteT hc5 h2l
  refine bj ?_
  refine c0 ?_
  refine bu ?_
  refine W_rs ?_
  refine rq (out:=Pr.i64 x3) ai ?_
  refine rq (out:=Pr.i64 x3) aj ?_
  refine W_rs ?_
  refine rq (out:=Pr.pfn Tryz.prog (spec56 x2)) ai ?_
  refine rq (out:=ar x1) ai ?_
  refine rq (out:=Pr.i64 x3) ai ?_
  obtain⟨x6,hx6,h2l⟩:=ak h2l
  refine rq (out:=Pr.u8 x6) (qIdxS Tryz.underlying9 hx6) ?_
  obtain⟨x7,hx7,h2l⟩:=ak h2l
  refine rq (out:=Pr.bool x7) (qCallP (spec:=spec56 x2) ⟨_,_,rfl,rfl,hx7⟩) ?_
  refine rq (out:=Pr.bool (!x7)) qNot ?_
  refine a8 (b:= !x7) rfl (fun hc8=> ?_) (fun hc8=> ?_)
  ·replace h2l:=iteT hc8 h2l
   refine W_rs ?_
   refine rq (out:=Pr.i64 x3) ai ?_
   refine rq (out:=Pr.i64 x3) aj ?_
   obtain rfl:=ho2 _ (Option.some.inj h2l).symm
   replace h:some x3=some r:=h
   obtain rfl:=Option.some.inj h
   exact bp ⟨rfl,aa⟩
  replace h2l:=iteF hc8 h2l
  refine bj ?_
  refine W_r ?_
  refine rq (out:=Pr.i64 (w64 (x3+1))) qInt ?_
  refine rq (out:=Pr.i64 (w64 (x3+1))) ai ?_
  exact⟨m2,Nat.lt_succ_self _,w64 (x3+1),hn2 _ (Option.some.inj h2l).symm,⟨⟨aa,aa,aa,aa,trivial⟩,Pick.refl _⟩⟩
 replace h2l:=iteF hc5 h2l
 refine jn ?_
 obtain rfl:=ho2 _ (Option.some.inj h2l).symm
 exact⟨h,⟨⟨aa,trivial⟩,Pick.refl _⟩⟩
theorem lex_between_1_ok (x1:Int) (r:Bool) (h:kl x1=some r):FnP Tryz.prog 72 [Pr.u8 x1] (Pr.bool r):=by
 refine de (n:=5) (rs:=[2]) Tryz.func72 rfl Tryz.ntmps72 ⟨by decide,Tryz.results72⟩ (by decide) (fun s0=> ?_)
 unfold kl at h
 refine W_rs ?_
 refine rq (out:=Pr.bool false) aj ?_
 refine W_rs ?_
 refine rq (out:=Pr.u8 x1) ai ?_
 refine rq (out:=Pr.bool (x1 != 10)) qInt ?_
 refine rq (out:=Pr.bool (x1 != 10)) aj ?_
 obtain rfl:=Option.some.inj h
 exact bp ⟨rfl,aa⟩
theorem lex_between_ok (x1:List UInt8) (r:Int × Bool) (h:lex_between x1=some r):FnP Tryz.prog 60 [ar x1] (cj [Pr.i64 r.1,Pr.bool r.2]):=by
 refine de (n:=48) (rs:=[2,3]) Tryz.func60 rfl Tryz.ntmps60 ⟨by decide,Tryz.results60⟩ (by decide) (fun s0=> ?_)
 unfold lex_between at h
 refine W_rs ?_
 refine rq (out:=Pr.i64 0) aj ?_
 refine rq (out:=Pr.bool false) aj ?_
 refine W_scope ?_
 refine W_rs ?_
 refine rq (out:=Pr.i64 0) aj ?_
 refine c0 ?_
 refine W_label ?_
 refine cd (fun e C=>∃(x2:Int),lex_between_j1 x2=some r/\At [(4,Pr.i64 x2)] [] e C) ?_ ?_
 ·rintro e C ⟨x2,h,hat1⟩
  refine W_at hat1 ?_
  clear hat1
  unfold lex_between_j1 at h
  refine W_rs ?_
  refine rq (out:=Pr.i64 x2) ai ?_
  refine rq (out:=Pr.i64 x2) aj ?_
  refine rq (out:=Pr.bool true) aj ?_
  obtain rfl:=Option.some.inj h
  exact bp ⟨rfl,aa⟩
 refine bu ?_
 obtain⟨z3l,hz3,h⟩:=ak h
 obtain⟨n3,hN3⟩:=dv hz3
 clear hz3
 refine kp 0 (fun e C=>∃(x2:Int),lex_between_k2 x2=some r/\At [(4,Pr.i64 x2)] [] e C) ?_ ?_
 ·rintro e C ⟨x2,h,hat2⟩
  unfold lex_between_k2 at h
  exact⟨x2,h,(At.trans hat2 ⟨⟨aa,trivial⟩,Pick.refl _⟩)⟩
 refine k8 (fun m e C=>∃(x2:Int),i1 (fun s=>jx x1 s) m x2=some z3l/\At [(0,ar x1),(4,Pr.i64 x2)] [] e C) n3 ⟨0,hN3,⟨⟨aa,aa,trivial⟩,Pick.refl _⟩⟩ ?_
 clear hN3
 rintro m e C ⟨x2,hN3,hatl3⟩
 refine W_at hatl3 ?_
 clear hatl3
 obtain⟨m3,w3l,rfl,h3l,hn3,ho3⟩:=dp hN3
 clear hN3
 replace h3l:jx x1 x2=some w3l:=h3l
 unfold jx at h3l
 refine c0 ?_
 refine W_rs ?_
 refine rq (out:=Pr.i64 x2) ai ?_
 refine rq (out:=ar x1) ai ?_
 refine rq (out:=Pr.i64 (x1.length:Int)) (qLenS rfl Tryz.underlying9) ?_
 refine rq (out:=Pr.bool (decide (x2<(x1.length:Int)))) qInt ?_
 refine a8 (b:=decide (x2<(x1.length:Int))) rfl (fun hc4=> ?_) (fun hc4=> ?_)
 ·replace h3l:=iteT hc4 h3l
  refine bj ?_
  refine bu ?_
  refine W_rs ?_
  refine rq (out:=ar x1) ai ?_
  refine rq (out:=Pr.i64 x2) ai ?_
  obtain⟨x5,hx5,h3l⟩:=ak h3l
  refine rq (out:=ar x5) (qSubL Tryz.underlying9 hx5) ?_
  refine rq (out:=ar x5) aj ?_
  refine c0 ?_
  refine bu ?_
  refine W_rs ?_
  refine rq (out:=ar x5) ai ?_
  obtain⟨x6,hx6,h3l⟩:=ak h3l
  refine rq (out:=Pr.bool x6) (dt (kq x5 ([47,47]:List UInt8) _ hx6)) ?_
  refine rq (out:=Pr.bool x6) aj ?_
  refine a8 (b:=x6) rfl (fun hc7=> ?_) (fun hc7=> ?_)
  ·replace h3l:=iteT hc7 h3l
   refine W_rs ?_
   refine rq (out:=Pr.i64 x2) ai ?_
   refine rq (out:=ar x5) ai ?_
   obtain⟨x8,hx8,h3l⟩:=ak h3l
   refine rq (out:=Pr.i64 x8) (qCall' (lex_run_ok x5 kl _ hx8) ⟨aa,(is_pfn en72 (fun _ _ hs=>by obtain⟨a0,r,rfl,rfl,hr⟩:=hs;exact lex_between_1_ok a0 r hr)),trivial⟩) ?_
   refine rq (out:=Pr.i64 (w64 (x2+x8))) qInt ?_
   refine rq (out:=Pr.i64 (w64 (x2+x8))) aj ?_
   refine jn ?_
   exact⟨m3,Nat.lt_succ_self _,w64 (x2+x8),hn3 _ (Option.some.inj h3l).symm,⟨⟨aa,aa,trivial⟩,Pick.refl _⟩⟩
  replace h3l:=iteF hc7 h3l
  refine W_rs ?_
  refine rq (out:=ar x5) ai ?_
  obtain⟨x9,hx9,h3l⟩:=ak h3l
  refine rq (out:=Pr.bool x9) (dt (kq x5 ([47,42]:List UInt8) _ hx9)) ?_
  refine rq (out:=Pr.bool x9) aj ?_
  refine a8 (b:=x9) rfl (fun hc10=> ?_) (fun hc10=> ?_)
  ·replace h3l:=iteT hc10 h3l
   refine W_rs ?_
   refine rq (out:=ar x5) ai ?_
   obtain⟨x11,hx11,h3l⟩:=ak h3l
   refine rq (out:=ar x11) (qSubL Tryz.underlying9 hx11) ?_
   obtain⟨x12,hx12,h3l⟩:=ak h3l
   refine rq (out:=Pr.i64 x12) (dt (strings_Index_ok x11 ([42,47]:List UInt8) _ hx12)) ?_
   refine rq (out:=Pr.i64 x12) aj ?_
   refine c0 ?_
   refine W_rs ?_
   refine rq (out:=Pr.i64 x12) ai ?_
   refine rq (out:=Pr.bool (decide (x12<0))) qInt ?_
   refine a8 (b:=decide (x12<0)) rfl (fun hc13=> ?_) (fun hc13=> ?_)
   ·replace h3l:=iteT hc13 h3l
    refine W_rs ?_
    refine rq (out:=Pr.i64 x2) ai ?_
    refine rq (out:=Pr.i64 x2) aj ?_
    refine rq (out:=Pr.bool false) aj ?_
    obtain rfl:=ho3 _ (Option.some.inj h3l).symm
    replace h:some (x2,false)=some r:=h
    obtain rfl:=Option.some.inj h
    exact bp ⟨rfl,aa⟩
   replace h3l:=iteF hc13 h3l
   refine bj ?_
   refine W_rs ?_
   refine rq (out:=Pr.i64 x2) ai ?_
   refine rq (out:=Pr.i64 x12) ai ?_
   refine rq (out:=Pr.i64 (w64 (2+x12))) qInt ?_
   refine rq (out:=Pr.i64 (w64 ((w64 (2+x12))+2))) qInt ?_
   refine rq (out:=Pr.i64 (w64 (x2+(w64 ((w64 (2+x12))+2))))) qInt ?_
   refine rq (out:=Pr.i64 (w64 (x2+(w64 ((w64 (2+x12))+2))))) aj ?_
   refine jn ?_
   exact⟨m3,Nat.lt_succ_self _,w64 (x2+(w64 ((w64 (2+x12))+2))),hn3 _ (Option.some.inj h3l).symm,⟨⟨aa,aa,trivial⟩,Pick.refl _⟩⟩
  replace h3l:=iteF hc10 h3l
  refine bj ?_
  refine W_rs ?_
  refine rq (out:=ar x5) ai ?_
  obtain⟨x14,hx14,h3l⟩:=ak h3l
  refine rq (out:=Pr.u8 x14) (qIdxS Tryz.underlying9 hx14) ?_
  refine bu ?_
  refine c0 ?_
  refine bu ?_
  refine cd (fun e C=>i5 x2=some w3l/\At [(0,ar x1),(4,Pr.i64 x2)] [] e C) ?_ ?_
  ·rintro e C ⟨h3l,hat4⟩
   refine W_at hat4 ?_
   clear hat4
   unfold i5 at h3l
   refine W_rs ?_
   refine rq (out:=Pr.i64 x2) ai ?_
   refine rq (out:=Pr.i64 (w64 (x2+1))) qInt ?_
   refine rq (out:=Pr.i64 (w64 (x2+1))) aj ?_
   refine jn ?_
   exact⟨m3,Nat.lt_succ_self _,w64 (x2+1),hn3 _ (Option.some.inj h3l).symm,⟨⟨aa,aa,trivial⟩,Pick.refl _⟩⟩
  refine bu ?_
  refine bu ?_
  refine bu ?_
  refine bu ?_
  refine c0 ?_
  refine c0 ?_
  refine W_rs ?_
  refine rq (out:=Pr.bool (x14==32)) qInt ?_
  refine rq (out:=Pr.bool (x14==32)) aj ?_
  refine a8 (b:=x14==32) rfl (fun hc15=> ?_) (fun hc15=> ?_)
  ·replace h3l:=iteT hc15 h3l
   refine jn ?_
   exact⟨h3l,⟨⟨aa,aa,trivial⟩,Pick.refl _⟩⟩
  replace h3l:=iteF hc15 h3l
  refine bj ?_
  refine c0 ?_
  refine W_rs ?_
  refine rq (out:=Pr.bool (x14==9)) qInt ?_
  refine rq (out:=Pr.bool (x14==9)) aj ?_
  refine a8 (b:=x14==9) rfl (fun hc16=> ?_) (fun hc16=> ?_)
  ·replace h3l:=iteT hc16 h3l
   refine jn ?_
   exact⟨h3l,⟨⟨aa,aa,trivial⟩,Pick.refl _⟩⟩
  replace h3l:=iteF hc16 h3l
  refine bj ?_
  refine c0 ?_
  refine W_rs ?_
  refine rq (out:=Pr.bool (x14==13)) qInt ?_
  refine rq (out:=Pr.bool (x14==13)) aj ?_
  refine a8 (b:=x14==13) rfl (fun hc17=> ?_) (fun hc17=> ?_)
  ·replace h3l:=iteT hc17 h3l
   refine jn ?_
   exact⟨h3l,⟨⟨aa,aa,trivial⟩,Pick.refl _⟩⟩
  replace h3l:=iteF hc17 h3l
  refine bj ?_
  refine W_rs ?_
  refine rq (out:=Pr.bool (x14==10)) qInt ?_
  refine rq (out:=Pr.bool (x14==10)) aj ?_
  refine a8 (b:=x14==10) rfl (fun hc18=> ?_) (fun hc18=> ?_)
  ·replace h3l:=iteT hc18 h3l
   refine jn ?_
   exact⟨h3l,⟨⟨aa,aa,trivial⟩,Pick.refl _⟩⟩
  replace h3l:=iteF hc18 h3l
  refine bj ?_
  refine jn ?_
  refine c0 ?_
  refine jn ?_
  obtain rfl:=ho3 _ (Option.some.inj h3l).symm
  exact⟨x2,h,⟨⟨aa,trivial⟩,Pick.refl _⟩⟩
 replace h3l:=iteF hc4 h3l
 refine jn ?_
 obtain rfl:=ho3 _ (Option.some.inj h3l).symm
 exact⟨x2,h,⟨⟨aa,trivial⟩,Pick.refl _⟩⟩
theorem lex_digit_ok (x1:Int) (r:Bool) (h:lex_digit x1=some r):FnP Tryz.prog 74 [Pr.u8 x1] (Pr.bool r):=by
 refine de (n:=9) (rs:=[2]) Tryz.func74 rfl Tryz.ntmps74 ⟨by decide,Tryz.results74⟩ (by decide) (fun s0=> ?_)
 unfold lex_digit at h
 refine W_rs ?_
 refine rq (out:=Pr.bool false) aj ?_
 refine cd (fun e C=>∃(x3:Bool),lex_digit_j1 x3=some r/\At [(2,Pr.bool x3)] [] e C) ?_ ?_
 ·rintro e C ⟨x3,h,hat1⟩
  refine W_at hat1 ?_
  clear hat1
  unfold lex_digit_j1 at h
  obtain rfl:=Option.some.inj h
  exact bp ⟨rfl,aa⟩
 refine W_r ?_
 refine rq (out:=Pr.u8 x1) ai ?_
 refine rq (out:=Pr.bool (decide (x1≥48))) qInt ?_
 refine rq (out:=Pr.bool (decide (x1≥48))) ai ?_
 rcases bk h with⟨hc2,h⟩|⟨hc2,h⟩
 ·refine rqg hc2 (out:=Pr.u8 x1) ai ?_
  refine rqg hc2 (out:=Pr.bool (decide (x1<=57))) qInt ?_
  refine rq (out:=Pr.bool (decide (x1<=57))) (bg hc2) ?_
  refine rq (out:=Pr.bool (decide (x1<=57))) aj ?_
  exact⟨decide (x1<=57),h,⟨⟨aa,trivial⟩,Pick.refl _⟩⟩
 refine rno (neT hc2) ?_
 refine rno (neT hc2) ?_
 refine rq (out:=Pr.bool false) (ax hc2) ?_
 refine rq (out:=Pr.bool false) aj ?_
 exact⟨false,h,⟨⟨aa,trivial⟩,Pick.refl _⟩⟩
theorem lex_letter_ok (x1:Int) (r:Bool) (h:lex_letter x1=some r):FnP Tryz.prog 76 [Pr.u8 x1] (Pr.bool r):=by
 refine de (n:=15) (rs:=[2]) Tryz.func76 rfl Tryz.ntmps76 ⟨by decide,Tryz.results76⟩ (by decide) (fun s0=> ?_)
 unfold lex_letter at h
 refine W_rs ?_
 refine rq (out:=Pr.bool false) aj ?_
 refine cd (fun e C=>∃(x5:Bool),lex_letter_j1 x5=some r/\At [(2,Pr.bool x5)] [] e C) ?_ ?_
 ·rintro e C ⟨x5,h,hat1⟩
  refine W_at hat1 ?_
  clear hat1
  unfold lex_letter_j1 at h
  obtain rfl:=Option.some.inj h
  exact bp ⟨rfl,aa⟩
 refine W_r ?_
 refine rq (out:=Pr.u8 x1) ai ?_
 refine rq (out:=Pr.u8 (bits .or .u8 x1 32)) (qBits (by simp) rfl) ?_
 refine rq (out:=Pr.bool (decide ((bits .or .u8 x1 32)≥97))) qInt ?_
 refine rq (out:=Pr.bool (decide ((bits .or .u8 x1 32)≥97))) ai ?_
 rcases bk h with⟨hc2,h⟩|⟨hc2,h⟩
 ·refine rqg hc2 (out:=Pr.u8 x1) ai ?_
  refine rqg hc2 (out:=Pr.u8 (bits .or .u8 x1 32)) (qBits (by simp) rfl) ?_
  refine rqg hc2 (out:=Pr.bool (decide ((bits .or .u8 x1 32)<=122))) qInt ?_
  refine rq (out:=Pr.bool (decide ((bits .or .u8 x1 32)<=122))) (bg hc2) ?_
  refine rq (out:=Pr.bool (decide ((bits .or .u8 x1 32)<=122))) ai ?_
  rcases bk h with⟨hc3,h⟩|⟨hc3,h⟩
  ·refine rno (neF hc3) ?_
   refine rno (neF hc3) ?_
   refine rq (out:=Pr.bool true) (bg hc3) ?_
   refine rq (out:=Pr.bool true) aj ?_
   exact⟨true,h,⟨⟨aa,trivial⟩,Pick.refl _⟩⟩
  refine rqg hc3 (out:=Pr.u8 x1) ai ?_
  refine rqg hc3 (out:=Pr.bool (x1==95)) qInt ?_
  refine rq (out:=Pr.bool (x1==95)) (ax hc3) ?_
  refine rq (out:=Pr.bool (x1==95)) aj ?_
  exact⟨x1==95,h,⟨⟨aa,trivial⟩,Pick.refl _⟩⟩
 refine rno (neT hc2) ?_
 refine rno (neT hc2) ?_
 refine rno (neT hc2) ?_
 refine rq (out:=Pr.bool false) (ax hc2) ?_
 refine rq (out:=Pr.bool false) ai ?_
 have hc4:false=false:=rfl
 refine rqg hc4 (out:=Pr.u8 x1) ai ?_
 refine rqg hc4 (out:=Pr.bool (x1==95)) qInt ?_
 refine rq (out:=Pr.bool (x1==95)) (ax hc4) ?_
 refine rq (out:=Pr.bool (x1==95)) aj ?_
 exact⟨x1==95,h,⟨⟨aa,trivial⟩,Pick.refl _⟩⟩
theorem lex_token_1_ok (x1:Int) (r:Bool) (h:k6 x1=some r):FnP Tryz.prog 77 [Pr.u8 x1] (Pr.bool r):=by
 refine de (n:=9) (rs:=[2]) Tryz.func77 rfl Tryz.ntmps77 ⟨by decide,Tryz.results77⟩ (by decide) (fun s0=> ?_)
 unfold k6 at h
 refine W_rs ?_
 refine rq (out:=Pr.bool false) aj ?_
 refine cd (fun e C=>∃(x5:Bool),lex_token_1_j1 x5=some r/\At [(2,Pr.bool x5)] [] e C) ?_ ?_
 ·rintro e C ⟨x5,h,hat1⟩
  refine W_at hat1 ?_
  clear hat1
  unfold lex_token_1_j1 at h
  obtain rfl:=Option.some.inj h
  exact bp ⟨rfl,aa⟩
 refine W_r ?_
 refine rq (out:=Pr.u8 x1) ai ?_
 obtain⟨x2,hx2,h⟩:=ak h
 refine rq (out:=Pr.bool x2) (dt (lex_letter_ok x1 _ hx2)) ?_
 refine rq (out:=Pr.bool x2) ai ?_
 rcases bk h with⟨hc3,h⟩|⟨hc3,h⟩
 ·refine rno (neF hc3) ?_
  refine rno (neF hc3) ?_
  refine rq (out:=Pr.bool true) (bg hc3) ?_
  refine rq (out:=Pr.bool true) aj ?_
  exact⟨true,h,⟨⟨aa,trivial⟩,Pick.refl _⟩⟩
 refine rqg hc3 (out:=Pr.u8 x1) ai ?_
 obtain⟨x4,hx4,h⟩:=ak h
 refine rqg hc3 (out:=Pr.bool x4) (dt (lex_digit_ok x1 _ hx4)) ?_
 refine rq (out:=Pr.bool x4) (ax hc3) ?_
 refine rq (out:=Pr.bool x4) aj ?_
 exact⟨x4,h,⟨⟨aa,trivial⟩,Pick.refl _⟩⟩
theorem slices_Index_string_string_ok (x1:List (List UInt8)) (x2:List UInt8) (r:Int) (h:d7 x1 x2=some r):FnP Tryz.prog 101 [av bh x1,ar x2] (Pr.i64 r):=by
 refine de (n:=19) (rs:=[4]) Tryz.func101 rfl Tryz.ntmps101 ⟨by decide,Tryz.results101⟩ (by decide) (fun s0=> ?_)
 unfold d7 at h
 refine W_rs ?_
 refine rq (out:=Pr.i64 0) aj ?_
 refine c0 ?_
 refine W_rs ?_
 refine rq (out:=av bh x1) ai ?_
 refine rq (out:=Pr.i64 (x1.length:Int)) (qLenL rfl Tryz.underlying44) ?_
 refine rq (out:=Pr.i64 0) ai ?_
 refine bu ?_
 obtain⟨z2l,hz2,h⟩:=ak h
 obtain⟨n2,hN2⟩:=dv hz2
 clear hz2
 refine kp 0 (fun e C=>em=some r/\At [] [] e C) ?_ ?_
 ·rintro e C ⟨h,hat1⟩
  refine W_at hat1 ?_
  clear hat1
  unfold em at h
  refine W_rs ?_
  refine rq (out:=Pr.i64 (-1)) aj ?_
  obtain rfl:=Option.some.inj h
  exact bp ⟨rfl,aa⟩
 refine k8 (fun m e C=>∃(x3:Int),i1 (fun s=>cr x1 x2 s) m x3=some z2l/\At [(0,av bh x1),(1,ar x2),(7,Pr.i64 (x1.length:Int)),(8,Pr.i64 x3)] [] e C) n2 ⟨0,hN2,⟨⟨aa,aa,aa,aa,trivial⟩,Pick.refl _⟩⟩ ?_
 clear hN2
 rintro m e C ⟨x3,hN2,hatl2⟩
 refine W_at hatl2 ?_
 clear hatl2
 obtain⟨m2,w2l,rfl,h2l,hn2,ho2⟩:=dp hN2
 clear hN2
 replace h2l:cr x1 x2 x3=some w2l:=h2l
 unfold cr at h2l
 refine W_rs ?_
 refine rq (out:=Pr.bool (decide (x3<(x1.length:Int)))) qInt ?_
 refine c0 ?_
 refine a8 (b:=decide (x3<(x1.length:Int))) rfl (fun hc5=> ?_) (fun hc5=> ?_)
 ·replace h2l:=iteT hc5 h2l
  refine bj ?_
  refine c0 ?_
  refine bu ?_
  refine W_rs ?_
  refine rq (out:=Pr.i64 x3) ai ?_
  refine rq (out:=Pr.i64 x3) aj ?_
  refine W_rs ?_
  refine rq (out:=ar x2) ai ?_
  refine rq (out:=av bh x1) ai ?_
  refine rq (out:=Pr.i64 x3) ai ?_
  obtain⟨x6,hx6,h2l⟩:=ak h2l
  refine rq (out:=br bh x6) (qIdxA (R:=bh) (l:=x1) Tryz.underlying44 Tryz.sizeOf9 hx6) ?_
  refine rq (out:=ar x6) (gr (R:=bh) (a:=x6) ty9) ?_
  refine rq (out:=Pr.bool (x2==x6)) qStr ?_
  refine a8 (b:=x2==x6) rfl (fun hc7=> ?_) (fun hc7=> ?_)
  ·replace h2l:=iteT hc7 h2l
   refine W_rs ?_
   refine rq (out:=Pr.i64 x3) ai ?_
   refine rq (out:=Pr.i64 x3) aj ?_
   obtain rfl:=ho2 _ (Option.some.inj h2l).symm
   replace h:some x3=some r:=h
   obtain rfl:=Option.some.inj h
   exact bp ⟨rfl,aa⟩
  replace h2l:=iteF hc7 h2l
  refine bj ?_
  refine W_r ?_
  refine rq (out:=Pr.i64 (w64 (x3+1))) qInt ?_
  refine rq (out:=Pr.i64 (w64 (x3+1))) ai ?_
  exact⟨m2,Nat.lt_succ_self _,w64 (x3+1),hn2 _ (Option.some.inj h2l).symm,⟨⟨aa,aa,aa,aa,trivial⟩,Pick.refl _⟩⟩
 replace h2l:=iteF hc5 h2l
 refine jn ?_
 obtain rfl:=ho2 _ (Option.some.inj h2l).symm
 exact⟨h,⟨trivial,Pick.refl _⟩⟩
theorem slices_Contains_string_string_ok (x1:List (List UInt8)) (x2:List UInt8) (r:Bool) (h:dj x1 x2=some r):FnP Tryz.prog 89 [av bh x1,ar x2] (Pr.bool r):=by
 refine de (n:=9) (rs:=[4]) Tryz.func89 rfl Tryz.ntmps89 ⟨by decide,Tryz.results89⟩ (by decide) (fun s0=> ?_)
 unfold dj at h
 refine W_rs ?_
 refine rq (out:=Pr.bool false) aj ?_
 refine W_rs ?_
 refine rq (out:=av bh x1) ai ?_
 refine rq (out:=ar x2) ai ?_
 obtain⟨x3,hx3,h⟩:=ak h
 refine rq (out:=Pr.i64 x3) (dt (slices_Index_string_string_ok x1 x2 _ hx3)) ?_
 refine rq (out:=Pr.bool (decide (x3≥0))) qInt ?_
 refine rq (out:=Pr.bool (decide (x3≥0))) aj ?_
 obtain rfl:=Option.some.inj h
 exact bp ⟨rfl,aa⟩
theorem lex_Kept_ok (x1:List UInt8) (r:Bool) (h:lex_Kept x1=some r):FnP Tryz.prog 78 [ar x1] (Pr.bool r):=by
 refine de (n:=6) (rs:=[2]) Tryz.func78 rfl Tryz.ntmps78 ⟨by decide,Tryz.results78⟩ (by decide) (fun s0=> ?_)
 unfold lex_Kept at h
 refine W_rs ?_
 refine rq (out:=Pr.bool false) aj ?_
 refine W_rs ?_
 refine rq (out:=av bh kept) (qGSlice (R:=bh) (L:=kept) gKept Tryz.underlying98 Tryz.sizeOf9 rfl) ?_
 refine rq (out:=ar x1) ai ?_
 obtain⟨x2,hx2,h⟩:=ak h
 refine rq (out:=Pr.bool x2) (dt (slices_Contains_string_string_ok kept x1 _ hx2)) ?_
 refine rq (out:=Pr.bool x2) aj ?_
 obtain rfl:=Option.some.inj h
 exact bp ⟨rfl,aa⟩
theorem lex_mark_ok (x1:List UInt8) (r:Int) (h:lex_mark x1=some r):FnP Tryz.prog 79 [ar x1] (Pr.i64 r):=by
 refine de (n:=19) (rs:=[2]) Tryz.func79 rfl Tryz.ntmps79 ⟨by decide,Tryz.results79⟩ (by decide) (fun s0=> ?_)
 unfold lex_mark at h
 refine W_rs ?_
 refine rq (out:=Pr.i64 0) aj ?_
 refine c0 ?_
 refine W_rs ?_
 refine rq (out:=av bh ([([61,61]:List UInt8),([33,61]:List UInt8),([60,61]:List UInt8),([62,61]:List UInt8),([38,38]:List UInt8),([124,124]:List UInt8)]:List (List UInt8))) (qBuildSlice (R:=bh) (ls:=([([61,61]:List UInt8),([33,61]:List UInt8),([60,61]:List UInt8),([62,61]:List UInt8),([38,38]:List UInt8),([124,124]:List UInt8)]:List (List UInt8))) el44 (Nat.le_of_ble_eq_true rfl) ⟨rfl,rfl⟩ ⟨rfl,rfl,rfl,rfl,rfl,rfl,trivial⟩) ?_
 refine rq (out:=Pr.i64 (([([61,61]:List UInt8),([33,61]:List UInt8),([60,61]:List UInt8),([62,61]:List UInt8),([38,38]:List UInt8),([124,124]:List UInt8)]:List (List UInt8)).length:Int)) (qLenL rfl Tryz.underlying44) ?_
 refine rq (out:=Pr.i64 0) ai ?_
 refine bu ?_
 obtain⟨z2l,hz2,h⟩:=ak h
 obtain⟨n2,hN2⟩:=dv hz2
 clear hz2
 refine kp 0 (fun e C=>lex_mark_k1 x1=some r/\At [(0,ar x1)] [] e C) ?_ ?_
 ·rintro e C ⟨h,hat1⟩
  refine W_at hat1 ?_
  clear hat1
  unfold lex_mark_k1 at h
  refine c0 ?_
  refine W_rs ?_
  refine rq (out:=ar x1) ai ?_
  obtain⟨x8,hx8,h⟩:=ak h
  refine rq (out:=Pr.u8 x8) (qIdxS Tryz.underlying9 hx8) ?_
  obtain⟨x9,hx9,h⟩:=ak h
  refine rq (out:=Pr.i64 x9) (dt (strings_IndexByte_ok ([43,45,42,47,37,60,62,61,33,40,41,123,125,59,44,46]:List UInt8) x8 _ hx9)) ?_
  refine rq (out:=Pr.bool (decide (x9≥0))) qInt ?_
  refine a8 (b:=decide (x9≥0)) rfl (fun hc10=> ?_) (fun hc10=> ?_)
  ·replace h:=iteT hc10 h
   refine W_rs ?_
   refine rq (out:=Pr.i64 1) aj ?_
   obtain rfl:=Option.some.inj h
   exact bp ⟨rfl,aa⟩
  replace h:=iteF hc10 h
  refine bj ?_
  refine W_rs ?_
  refine rq (out:=Pr.i64 0) aj ?_
  obtain rfl:=Option.some.inj h
  exact bp ⟨rfl,aa⟩
 refine k8 (fun m e C=>∃(x2:Int),i1 (fun s=>lex_mark_l2 x1 s) m x2=some z2l/\At [(0,ar x1),(5,av bh ([([61,61]:List UInt8),([33,61]:List UInt8),([60,61]:List UInt8),([62,61]:List UInt8),([38,38]:List UInt8),([124,124]:List UInt8)]:List (List UInt8))),(6,Pr.i64 (([([61,61]:List UInt8),([33,61]:List UInt8),([60,61]:List UInt8),([62,61]:List UInt8),([38,38]:List UInt8),([124,124]:List UInt8)]:List (List UInt8)).length:Int)),(7,Pr.i64 x2)] [] e C) n2 ⟨0,hN2,⟨⟨aa,aa,aa,aa,trivial⟩,Pick.refl _⟩⟩ ?_
 clear hN2
 rintro m e C ⟨x2,hN2,hatl2⟩
 refine W_at hatl2 ?_
 clear hatl2
 obtain⟨m2,w2l,rfl,h2l,hn2,ho2⟩:=dp hN2
 clear hN2
 replace h2l:lex_mark_l2 x1 x2=some w2l:=h2l
 unfold lex_mark_l2 at h2l
 refine W_rs ?_
 refine rq (out:=Pr.bool (decide (x2<(([([61,61]:List UInt8),([33,61]:List UInt8),([60,61]:List UInt8),([62,61]:List UInt8),([38,38]:List UInt8),([124,124]:List UInt8)]:List (List UInt8)).length:Int)))) qInt ?_
 refine c0 ?_
 refine a8 (b:=decide (x2<(([([61,61]:List UInt8),([33,61]:List UInt8),([60,61]:List UInt8),([62,61]:List UInt8),([38,38]:List UInt8),([124,124]:List UInt8)]:List (List UInt8)).length:Int))) rfl (fun hc4=> ?_) (fun hc4=> ?_)
 ·replace h2l:=iteT hc4 h2l
  refine bj ?_
  refine c0 ?_
  refine bu ?_
  refine W_rs ?_
  obtain⟨x5,hx5,h2l⟩:=ak h2l
  refine rq (out:=br bh x5) (qIdxA (R:=bh) (l:=([([61,61]:List UInt8),([33,61]:List UInt8),([60,61]:List UInt8),([62,61]:List UInt8),([38,38]:List UInt8),([124,124]:List UInt8)]:List (List UInt8))) Tryz.underlying44 Tryz.sizeOf9 hx5) ?_
  refine rq (out:=ar x5) (gr (R:=bh) (a:=x5) ty9) ?_
  refine rq (out:=ar x5) aj ?_
  refine W_rs ?_
  refine rq (out:=ar x1) ai ?_
  refine rq (out:=ar x5) ai ?_
  obtain⟨x6,hx6,h2l⟩:=ak h2l
  refine rq (out:=Pr.bool x6) (dt (kq x1 x5 _ hx6)) ?_
  refine a8 (b:=x6) rfl (fun hc7=> ?_) (fun hc7=> ?_)
  ·replace h2l:=iteT hc7 h2l
   refine W_rs ?_
   refine rq (out:=Pr.i64 2) aj ?_
   obtain rfl:=ho2 _ (Option.some.inj h2l).symm
   replace h:some 2=some r:=h
   obtain rfl:=Option.some.inj h
   exact bp ⟨rfl,aa⟩
  replace h2l:=iteF hc7 h2l
  refine bj ?_
  refine W_r ?_
  refine rq (out:=Pr.i64 (w64 (x2+1))) qInt ?_
  refine rq (out:=Pr.i64 (w64 (x2+1))) ai ?_
  exact⟨m2,Nat.lt_succ_self _,w64 (x2+1),hn2 _ (Option.some.inj h2l).symm,⟨⟨aa,aa,aa,aa,trivial⟩,Pick.refl _⟩⟩
 replace h2l:=iteF hc4 h2l
 refine jn ?_
 obtain rfl:=ho2 _ (Option.some.inj h2l).symm
 exact⟨h,⟨⟨aa,trivial⟩,Pick.refl _⟩⟩
theorem lex_token_ok (x1:List UInt8) (r:Int × Int × Int) (h:lex_token x1=some r):FnP Tryz.prog 61 [ar x1] (cj [Pr.i64 r.1,Pr.i64 r.2.1,Pr.i64 r.2.2]):=by
 refine de (n:=60) (rs:=[2,3,4]) Tryz.func61 rfl Tryz.ntmps61 ⟨by decide,Tryz.results61⟩ (by decide) (fun s0=> ?_)
 unfold lex_token at h
 refine W_rs ?_
 refine rq (out:=Pr.i64 0) aj ?_
 refine rq (out:=Pr.i64 0) aj ?_
 refine rq (out:=Pr.i64 0) aj ?_
 refine c0 ?_
 refine bu ?_
 refine W_rs ?_
 refine rq (out:=ar x1) ai ?_
 obtain⟨x2,hx2,h⟩:=ak h
 refine rq (out:=Pr.u8 x2) (qIdxS Tryz.underlying9 hx2) ?_
 obtain⟨x3,hx3,h⟩:=ak h
 refine rq (out:=Pr.bool x3) (dt (lex_digit_ok x2 _ hx3)) ?_
 refine rq (out:=Pr.bool x3) aj ?_
 refine a8 (b:=x3) rfl (fun hc4=> ?_) (fun hc4=> ?_)
 ·replace h:=iteT hc4 h
  refine W_rs ?_
  refine rq (out:=ar x1) ai ?_
  obtain⟨x5,hx5,h⟩:=ak h
  refine rq (out:=Pr.i64 x5) (qCall' (lex_run_ok x1 lex_digit _ hx5) ⟨aa,(is_pfn en74 (fun _ _ hs=>by obtain⟨a0,r,rfl,rfl,hr⟩:=hs;exact lex_digit_ok a0 r hr)),trivial⟩) ?_
  refine rq (out:=Pr.i64 x5) aj ?_
  refine W_rs ?_
  refine rq (out:=ar x1) ai ?_
  refine rq (out:=Pr.i64 x5) ai ?_
  obtain⟨x6,hx6,h⟩:=ak h
  refine rq (out:=ar x6) (qSubH Tryz.underlying9 hx6) ?_
  obtain⟨⟨x7,x8⟩,hx7,h⟩:=ak h
  refine rq (out:=cj [Pr.i64 x7,Pr.err x8]) (dt (strconv_ParseInt_ok x6 10 64 _ hx7)) ?_
  refine rq (out:=cj [Pr.i64 x7,Pr.err x8]) ai ?_
  refine rq (out:=Pr.i64 x7) bo ?_
  refine rq (out:=Pr.err x8) bo ?_
  refine rq (out:=Pr.i64 x7) aj ?_
  refine rq (out:=Pr.err x8) aj ?_
  refine c0 ?_
  refine cd (fun e C=>∃(x16:Bool),j7 x5 x16=some r/\At [(5,Pr.i64 x5),(37,Pr.bool x16)] [] e C) ?_ ?_
  ·rintro e C ⟨x16,h,hat1⟩
   refine W_at hat1 ?_
   clear hat1
   unfold j7 at h
   refine a8 (b:=x16) rfl (fun hc17=> ?_) (fun hc17=> ?_)
   ·replace h:=iteT hc17 h
    refine W_rs ?_
    refine rq (out:=Pr.i64 0) aj ?_
    refine rq (out:=Pr.i64 0) aj ?_
    refine rq (out:=Pr.i64 31) aj ?_
    obtain rfl:=Option.some.inj h
    exact bp ⟨rfl,aa⟩
   replace h:=iteF hc17 h
   refine bj ?_
   refine W_rs ?_
   refine rq (out:=Pr.i64 x5) ai ?_
   refine rq (out:=Pr.i64 2) aj ?_
   refine rq (out:=Pr.i64 x5) aj ?_
   refine rq (out:=Pr.i64 0) aj ?_
   obtain rfl:=Option.some.inj h
   exact bp ⟨rfl,aa⟩
  refine W_r ?_
  refine rq (out:=Pr.err x8) ai ?_
  refine rq (out:=Pr.bool x8) (qErrNe Tryz.underlying89) ?_
  refine rq (out:=Pr.bool x8) ai ?_
  rcases bk h with⟨hc9,h⟩|⟨hc9,h⟩
  ·refine rno (neF hc9) ?_
   refine rno (neF hc9) ?_
   refine rq (out:=Pr.bool true) (bg hc9) ?_
   refine rq (out:=Pr.bool true) ai ?_
   have hc13:true=true:=rfl
   refine rno (neF hc13) ?_
   refine rno (neF hc13) ?_
   refine rno (neF hc13) ?_
   refine rnoU ?_
   refine rnoU ?_
   refine rnoU ?_
   refine rno (neF hc13) ?_
   refine rq (out:=Pr.bool true) (bg hc13) ?_
   exact⟨true,h,⟨⟨aa,aa,trivial⟩,Pick.refl _⟩⟩
  refine rqg hc9 (out:=Pr.i64 x7) ai ?_
  refine rqg hc9 (out:=Pr.bool (decide (x7>2147483647))) qInt ?_
  refine rq (out:=Pr.bool (decide (x7>2147483647))) (ax hc9) ?_
  refine rq (out:=Pr.bool (decide (x7>2147483647))) ai ?_
  rcases bk h with⟨hc10,h⟩|⟨hc10,h⟩
  ·refine rno (neF hc10) ?_
   refine rno (neF hc10) ?_
   refine rno (neF hc10) ?_
   refine rnoU ?_
   refine rnoU ?_
   refine rnoU ?_
   refine rno (neF hc10) ?_
   refine rq (out:=Pr.bool true) (bg hc10) ?_
   exact⟨true,h,⟨⟨aa,aa,trivial⟩,Pick.refl _⟩⟩
  refine rqg hc10 (out:=Pr.i64 x5) ai ?_
  refine rqg hc10 (out:=Pr.bool (decide (x5>1))) qInt ?_
  refine rqg hc10 (out:=Pr.bool (decide (x5>1))) ai ?_
  rcases bk h with⟨hc11,h⟩|⟨hc11,h⟩
  ·refine rqg hc11 (out:=ar x1) ai ?_
   obtain⟨x12,hx12,h⟩:=ak h
   refine rqg hc11 (out:=Pr.u8 x12) (qIdxS Tryz.underlying9 hx12) ?_
   refine rqg hc11 (out:=Pr.bool (x12==48)) qInt ?_
   refine rqg hc10 (out:=Pr.bool (x12==48)) (bg hc11) ?_
   refine rq (out:=Pr.bool (x12==48)) (ax hc10) ?_
   exact⟨x12==48,h,⟨⟨aa,aa,trivial⟩,Pick.refl _⟩⟩
  refine rno (neT hc11) ?_
  refine rno (neT hc11) ?_
  refine rno (neT hc11) ?_
  refine rqg hc10 (out:=Pr.bool false) (ax hc11) ?_
  refine rq (out:=Pr.bool false) (ax hc10) ?_
  exact⟨false,h,⟨⟨aa,aa,trivial⟩,Pick.refl _⟩⟩
 replace h:=iteF hc4 h
 refine W_rs ?_
 refine rq (out:=ar x1) ai ?_
 obtain⟨x18,hx18,h⟩:=ak h
 refine rq (out:=Pr.u8 x18) (qIdxS Tryz.underlying9 hx18) ?_
 obtain⟨x19,hx19,h⟩:=ak h
 refine rq (out:=Pr.bool x19) (dt (lex_letter_ok x18 _ hx19)) ?_
 refine rq (out:=Pr.bool x19) aj ?_
 refine a8 (b:=x19) rfl (fun hc20=> ?_) (fun hc20=> ?_)
 ·replace h:=iteT hc20 h
  refine W_rs ?_
  refine rq (out:=ar x1) ai ?_
  obtain⟨x21,hx21,h⟩:=ak h
  refine rq (out:=Pr.i64 x21) (qCall' (lex_run_ok x1 k6 _ hx21) ⟨aa,(is_pfn en77 (fun _ _ hs=>by obtain⟨a0,r,rfl,rfl,hr⟩:=hs;exact lex_token_1_ok a0 r hr)),trivial⟩) ?_
  refine rq (out:=Pr.i64 x21) aj ?_
  refine c0 ?_
  refine bu ?_
  refine W_rs ?_
  refine rq (out:=Pr.i64 x21) ai ?_
  refine rq (out:=Pr.bool (decide (x21>20))) qInt ?_
  refine rq (out:=Pr.bool (decide (x21>20))) aj ?_
  refine a8 (b:=decide (x21>20)) rfl (fun hc22=> ?_) (fun hc22=> ?_)
  ·replace h:=iteT hc22 h
   refine W_rs ?_
   refine rq (out:=Pr.i64 0) aj ?_
   refine rq (out:=Pr.i64 0) aj ?_
   refine rq (out:=Pr.i64 2) aj ?_
   obtain rfl:=Option.some.inj h
   exact bp ⟨rfl,aa⟩
  replace h:=iteF hc22 h
  refine W_rs ?_
  refine rq (out:=ar x1) ai ?_
  refine rq (out:=Pr.i64 x21) ai ?_
  obtain⟨x23,hx23,h⟩:=ak h
  refine rq (out:=ar x23) (qSubH Tryz.underlying9 hx23) ?_
  obtain⟨x24,hx24,h⟩:=ak h
  refine rq (out:=Pr.bool x24) (dt (lex_Kept_ok x23 _ hx24)) ?_
  refine rq (out:=Pr.bool x24) aj ?_
  refine a8 (b:=x24) rfl (fun hc25=> ?_) (fun hc25=> ?_)
  ·replace h:=iteT hc25 h
   refine W_rs ?_
   refine rq (out:=Pr.i64 x21) ai ?_
   refine rq (out:=Pr.i64 3) aj ?_
   refine rq (out:=Pr.i64 x21) aj ?_
   refine rq (out:=Pr.i64 0) aj ?_
   obtain rfl:=Option.some.inj h
   exact bp ⟨rfl,aa⟩
  replace h:=iteF hc25 h
  refine bj ?_
  refine W_rs ?_
  refine rq (out:=Pr.i64 x21) ai ?_
  refine rq (out:=Pr.i64 1) aj ?_
  refine rq (out:=Pr.i64 x21) aj ?_
  refine rq (out:=Pr.i64 0) aj ?_
  obtain rfl:=Option.some.inj h
  exact bp ⟨rfl,aa⟩
 replace h:=iteF hc20 h
 refine bj ?_
 refine W_rs ?_
 refine rq (out:=ar x1) ai ?_
 obtain⟨x26,hx26,h⟩:=ak h
 refine rq (out:=Pr.i64 x26) (dt (lex_mark_ok x1 _ hx26)) ?_
 refine rq (out:=Pr.i64 x26) aj ?_
 refine c0 ?_
 refine W_rs ?_
 refine rq (out:=Pr.i64 x26) ai ?_
 refine rq (out:=Pr.bool (x26==0)) qInt ?_
 refine a8 (b:=x26==0) rfl (fun hc27=> ?_) (fun hc27=> ?_)
 ·replace h:=iteT hc27 h
  refine W_rs ?_
  refine rq (out:=Pr.i64 0) aj ?_
  refine rq (out:=Pr.i64 0) aj ?_
  refine rq (out:=Pr.i64 30) aj ?_
  obtain rfl:=Option.some.inj h
  exact bp ⟨rfl,aa⟩
 replace h:=iteF hc27 h
 refine bj ?_
 refine W_rs ?_
 refine rq (out:=Pr.i64 x26) ai ?_
 refine rq (out:=Pr.i64 4) aj ?_
 refine rq (out:=Pr.i64 x26) aj ?_
 refine rq (out:=Pr.i64 0) aj ?_
 obtain rfl:=Option.some.inj h
 exact bp ⟨rfl,aa⟩
theorem lex_Lex_ok (x1:List UInt8) (r:(List ApiToken) × Int × Int) (h:lex_Lex x1=some r):FnP Tryz.prog 36 [ar x1] (cj [av af r.1,Pr.i64 r.2.1,Pr.i64 r.2.2]):=by
 refine de (n:=60) (rs:=[2,3,4]) Tryz.func36 rfl Tryz.ntmps36 ⟨by decide,Tryz.results36⟩ (by decide) (fun s0=> ?_)
 unfold lex_Lex at h
 refine W_rs ?_
 refine rBox (R:=bh) (a:=x1) rfl (fun b2=> ?_)
 refine rq (out:=Pr.is (.slice none 0 0)) aj ?_
 refine rq (out:=Pr.i64 0) aj ?_
 refine rq (out:=Pr.i64 0) aj ?_
 refine c0 ?_
 refine W_rs ?_
 refine rq (out:=ar x1) (a7 (R:=bh) (a:=x1) (R':=bh) 0 ty9 (Sub.refl _)) ?_
 refine rq (out:=Pr.i64 (x1.length:Int)) (qLenS rfl Tryz.underlying9) ?_
 refine rq (out:=Pr.bool (decide ((x1.length:Int)>1048576))) qInt ?_
 refine a8 (b:=decide ((x1.length:Int)>1048576)) rfl (fun hc3=> ?_) (fun hc3=> ?_)
 ·replace h:=iteT hc3 h
  refine W_rs ?_
  refine rq (out:=Pr.is (.slice none 0 0)) aj ?_
  refine rq (out:=Pr.i64 0) aj ?_
  refine rq (out:=Pr.i64 2) aj ?_
  obtain rfl:=Option.some.inj h
  exact bp ⟨rfl,tup_le ⟨f2 _,aa,aa,trivial⟩⟩
 replace h:=iteF hc3 h
 refine bj ?_
 refine W_rs ?_
 refine rAllocC Tryz.zeroValue33 rfl rfl (fun b4=> ?_)
 refine W_rs ?_
 refine bi (R:=Rp.int .i64) (z:=0) Tryz.zeroValue3 (fun _=>rfl) (fun b5=> ?_)
 refine a5 (R:=Rp.int .i64) (R':=Rp.int .i64) (a:=0) (y:=0) 2 Tryz.sizeOf3 (Upd.refl _) ?_
 refine W_rs ?_
 refine rq (out:=Pr.clo 59 [] [al b4 0,al b2 0,al b5 0]) qMakeFunc ?_
 refine rq (out:=Pr.clo 59 [] [al b4 0,al b2 0,al b5 0]) aj ?_
 refine bu ?_
 obtain⟨n1,hN1⟩:=dv h
 refine W_vec af 37 ?_
 refine k8 (fun m e C=>∃(x6:List UInt8),∃(x8:Int),∃(x9:List ApiToken),∃(v7:Value),i1 (fun s=>fk s.1 s.2.1 s.2.2) m (x6,x8,x9)=some r/\At [(1,al b2 0),(5,al b4 0),(6,al b5 0),(7,Pr.clo 59 [] [al b4 0,al b2 0,al b5 0])] [Own.box b2 bh x6,Own.cell b4 (Pr.is v7),Own.box b5 (Rp.int .i64) x8,Own.vec v7 af x9 37] e C) n1 ⟨x1,0,[],(.slice none 0 0),hN1,⟨⟨aa,aa,aa,aa,trivial⟩,Pick.refl _⟩⟩ ?_
 clear hN1
 rintro m e C ⟨x6,x8,x9,v7,hN1,hatl1⟩
 refine W_at hatl1 ?_
 clear hatl1
 obtain⟨m1,w1l,rfl,h1l,hn1,ho1⟩:=dp hN1
 clear hN1
 replace h1l:fk x6 x8 x9=some w1l:=h1l
 unfold fk at h1l
 refine bu ?_
 refine W_rs ?_
 refine rq (out:=ar x6) (a7 (R:=bh) (a:=x6) (R':=bh) 0 ty9 (Sub.refl _)) ?_
 refine rq (out:=Pr.i64 x8) (a7 (R:=Rp.int .i64) (a:=x8) (R':=Rp.int .i64) 2 ty3 (Sub.refl _)) ?_
 obtain⟨x14,hx14,h1l⟩:=ak h1l
 refine rq (out:=ar x14) (qSubL Tryz.underlying9 hx14) ?_
 obtain⟨⟨x15,x16⟩,hx15,h1l⟩:=ak h1l
 refine rq (out:=cj [Pr.i64 x15,Pr.bool x16]) (dt (lex_between_ok x14 _ hx15)) ?_
 refine rq (out:=cj [Pr.i64 x15,Pr.bool x16]) ai ?_
 refine rq (out:=Pr.i64 x15) bo ?_
 refine rq (out:=Pr.bool x16) bo ?_
 refine rq (out:=Pr.i64 x15) aj ?_
 refine rq (out:=Pr.bool x16) aj ?_
 refine c0 ?_
 refine W_rs ?_
 refine rq (out:=Pr.bool x16) ai ?_
 refine rq (out:=Pr.bool (!x16)) qNot ?_
 refine a8 (b:= !x16) rfl (fun hc17=> ?_) (fun hc17=> ?_)
 ·replace h1l:=iteT hc17 h1l
  refine cd (fun e C=>lex_Lex_j2 x8 x15=some w1l/\At [(2,Pr.is (.slice none 0 0)),(3,Pr.i64 (w64 (x8+x15))),(4,Pr.i64 32)] [Own.box b2 bh x6,Own.cell b4 (Pr.is v7),Own.box b5 (Rp.int .i64) x8,Own.vec v7 af x9 37] e C) ?_ ?_
  ·rintro e C ⟨h1l,hat2⟩
   refine W_at hat2 ?_
   clear hat2
   unfold lex_Lex_j2 at h1l
   have h:some ([],w64 (x8+x15),32)=some r:=congrArg some (ho1 _ (Option.some.inj h1l).symm)
   obtain rfl:=Option.some.inj h
   exact bp ⟨rfl,tup_le ⟨f2 _,aa,aa,trivial⟩⟩
  refine W_draw 6 hmx (by kernel_rfl) (by kernel_rfl) ?_
  refine qq (out:=Pr.i64 x8) (a7 (R:=Rp.int .i64) (a:=x8) (R':=Rp.int .i64) 2 ty3 (Sub.refl _)) ?_
  refine qq (out:=Pr.i64 x15) ai ?_
  refine qq (out:=Pr.i64 (w64 (x8+x15))) qInt ?_
  refine qq (out:=Pr.is (.slice none 0 0)) aj ?_
  refine qq (out:=Pr.i64 (w64 (x8+x15))) aj ?_
  refine qq (out:=Pr.i64 32) aj ?_
  exact⟨h1l,⟨⟨aa,aa,aa,trivial⟩,Pick.refl _⟩⟩
 replace h1l:=iteF hc17 h1l
 refine bj ?_
 refine c0 ?_
 refine W_rs ?_
 refine rq (out:=Pr.i64 x8) (a7 (R:=Rp.int .i64) (a:=x8) (R':=Rp.int .i64) 2 ty3 (Sub.refl _)) ?_
 refine rq (out:=Pr.i64 x15) ai ?_
 refine rq (out:=Pr.i64 (w64 (x8+x15))) qInt ?_
 refine rq (out:=ar x6) (a7 (R:=bh) (a:=x6) (R':=bh) 0 ty9 (Sub.refl _)) ?_
 refine rq (out:=Pr.i64 (x6.length:Int)) (qLenS rfl Tryz.underlying9) ?_
 refine rq (out:=Pr.bool ((w64 (x8+x15))==(x6.length:Int))) qInt ?_
 refine a8 (b:=(w64 (x8+x15))==(x6.length:Int)) rfl (fun hc18=> ?_) (fun hc18=> ?_)
 ·replace h1l:=iteT hc18 h1l
  refine W_rs ?_
  refine rq (out:=Pr.clo 59 [] [al b4 0,al b2 0,al b5 0]) ai ?_
  refine rq (out:=Pr.i64 x15) ai ?_
  obtain⟨⟨x19,x21,x22⟩,hx19,h1l⟩:=ak h1l
  refine rCallK [1,3,0,2] (lex_Lex_1_ok 5 x15 0 x9 x6 x8 b4 v7 b2 b5 _ hx19) (fun q C' hq=> ?_)
  obtain⟨v20,rfl,rfl⟩:=hq
  refine W_rs ?_
  refine rq (out:=Pr.is v20) (qLoadP 0 Tryz.isAgg33) ?_
  refine rq (out:=Pr.is v20) aj ?_
  refine rq (out:=Pr.i64 0) aj ?_
  refine rq (out:=Pr.i64 0) aj ?_
  have h:some (x19,0,0)=some r:=congrArg some (ho1 _ (Option.some.inj h1l).symm)
  refine W_rel 1 [2] ?_ rfl ⟨rfl,trivial⟩
  obtain rfl:=Option.some.inj h
  exact bp ⟨rfl,aa⟩
 replace h1l:=iteF hc18 h1l
 refine bj ?_
 refine W_rs ?_
 refine rq (out:=ar x6) (a7 (R:=bh) (a:=x6) (R':=bh) 0 ty9 (Sub.refl _)) ?_
 refine rq (out:=Pr.i64 x8) (a7 (R:=Rp.int .i64) (a:=x8) (R':=Rp.int .i64) 2 ty3 (Sub.refl _)) ?_
 refine rq (out:=Pr.i64 x15) ai ?_
 refine rq (out:=Pr.i64 (w64 (x8+x15))) qInt ?_
 obtain⟨x23,hx23,h1l⟩:=ak h1l
 refine rq (out:=ar x23) (qSubL Tryz.underlying9 hx23) ?_
 obtain⟨⟨x24,x25,x26⟩,hx24,h1l⟩:=ak h1l
 refine rq (out:=cj [Pr.i64 x24,Pr.i64 x25,Pr.i64 x26]) (dt (lex_token_ok x23 _ hx24)) ?_
 refine rq (out:=cj [Pr.i64 x24,Pr.i64 x25,Pr.i64 x26]) ai ?_
 refine rq (out:=Pr.i64 x24) bo ?_
 refine rq (out:=Pr.i64 x25) bo ?_
 refine rq (out:=Pr.i64 x26) bo ?_
 refine rq (out:=Pr.i64 x24) aj ?_
 refine rq (out:=Pr.i64 x25) aj ?_
 refine rq (out:=Pr.i64 x26) aj ?_
 refine c0 ?_
 refine W_rs ?_
 refine rq (out:=Pr.i64 x26) ai ?_
 refine rq (out:=Pr.bool (x26 != 0)) qInt ?_
 refine a8 (b:=x26 != 0) rfl (fun hc27=> ?_) (fun hc27=> ?_)
 ·replace h1l:=iteT hc27 h1l
  refine cd (fun e C=>lex_Lex_j3 x8 x15 x26=some w1l/\At [(2,Pr.is (.slice none 0 0)),(3,Pr.i64 (w64 (x8+x15))),(4,Pr.i64 x26)] [Own.box b2 bh x6,Own.cell b4 (Pr.is v7),Own.box b5 (Rp.int .i64) x8,Own.vec v7 af x9 37] e C) ?_ ?_
  ·rintro e C ⟨h1l,hat3⟩
   refine W_at hat3 ?_
   clear hat3
   unfold lex_Lex_j3 at h1l
   have h:some ([],w64 (x8+x15),x26)=some r:=congrArg some (ho1 _ (Option.some.inj h1l).symm)
   obtain rfl:=Option.some.inj h
   exact bp ⟨rfl,tup_le ⟨f2 _,aa,aa,trivial⟩⟩
  refine W_draw 7 hmx (by kernel_rfl) (by kernel_rfl) ?_
  refine qq (out:=Pr.i64 x8) (a7 (R:=Rp.int .i64) (a:=x8) (R':=Rp.int .i64) 2 ty3 (Sub.refl _)) ?_
  refine qq (out:=Pr.i64 x15) ai ?_
  refine qq (out:=Pr.i64 (w64 (x8+x15))) qInt ?_
  refine qq (out:=Pr.i64 x26) ai ?_
  refine qq (out:=Pr.is (.slice none 0 0)) aj ?_
  refine qq (out:=Pr.i64 (w64 (x8+x15))) aj ?_
  refine qq (out:=Pr.i64 x26) aj ?_
  exact⟨h1l,⟨⟨aa,aa,aa,trivial⟩,Pick.refl _⟩⟩
 replace h1l:=iteF hc27 h1l
 refine bj ?_
 refine W_r ?_
 refine rq (out:=Pr.clo 59 [] [al b4 0,al b2 0,al b5 0]) ai ?_
 refine rq (out:=Pr.i64 x24) ai ?_
 refine rq (out:=Pr.i64 x15) ai ?_
 refine rq (out:=Pr.i64 x25) ai ?_
 obtain⟨⟨x28,x30,x31⟩,hx28,h1l⟩:=ak h1l
 refine rCallK [1,3,0,2] (lex_Lex_1_ok x24 x15 x25 x9 x6 x8 b4 v7 b2 b5 _ hx28) (fun q C' hq=> ?_)
 obtain⟨v29,rfl,rfl⟩:=hq
 exact⟨m1,Nat.lt_succ_self _,x30,x31,x28,v29,hn1 _ (Option.some.inj h1l).symm,⟨⟨aa,aa,aa,aa,trivial⟩,Pick.of [2,0,3,1] rfl⟩⟩
def rec_node_Depth_spec (R:el):Prop:=(∀(x1:ApiNode) (r:Int),R x1=some r->FnP Tryz.prog 39 [(rApiNode).val x1] (Pr.i64 r))
theorem F_node_Depth_step (R:el) (ih:rec_node_Depth_spec R) (x1:ApiNode) (r:Int) (h:F_node_Depth R x1=some r):FnP Tryz.prog 39 [(rApiNode).val x1] (Pr.i64 r):=by
 refine de (n:=20) (rs:=[2]) Tryz.func39 rfl Tryz.ntmps39 ⟨by decide,Tryz.results39⟩ (by decide) (fun s0=> ?_)
 unfold F_node_Depth at h
 refine W_rs ?_
 refine rBox (R:=rApiNode) (a:=x1) rfl (fun b2=> ?_)
 refine rq (out:=Pr.i64 0) aj ?_
 refine W_rs ?_
 refine rq (out:=Pr.i64 0) aj ?_
 refine c0 ?_
 refine W_rs ?_
 refine rq (out:=al b2 8) (a3 ko) ?_
 refine rq (out:=av rApiNode x1.Kids) (a7 (R:=rApiNode) (a:=x1) (R':=ba rApiNode) 0 ty24 cm) ?_
 refine rq (out:=Pr.i64 (x1.Kids.length:Int)) (qLenL rfl Tryz.underlying24) ?_
 refine rq (out:=Pr.i64 0) ai ?_
 refine bu ?_
 obtain⟨z2l,hz2,h⟩:=ak h
 obtain⟨n2,hN2⟩:=dv hz2
 clear hz2
 refine kp 0 (fun e C=>∃(x3:Int),node_Depth_k1 R x3=some r/\At [(3,Pr.i64 x3)] [Own.box b2 rApiNode x1] e C) ?_ ?_
 ·rintro e C ⟨x3,h,hat1⟩
  refine W_at hat1 ?_
  clear hat1
  unfold node_Depth_k1 at h
  refine W_rs ?_
  refine rq (out:=Pr.i64 x3) ai ?_
  refine rq (out:=Pr.i64 (w64 (x3+1))) qInt ?_
  refine rq (out:=Pr.i64 (w64 (x3+1))) aj ?_
  obtain rfl:=Option.some.inj h
  exact bp ⟨rfl,aa⟩
 refine k8 (fun m e C=>∃(x3:Int),∃(x4:Int),i1 (fun s=>kj R x1 s.1 s.2) m (x3,x4)=some z2l/\At [(3,Pr.i64 x3),(7,av rApiNode x1.Kids),(8,Pr.i64 (x1.Kids.length:Int)),(9,Pr.i64 x4)] [Own.box b2 rApiNode x1] e C) n2 ⟨0,0,hN2,⟨⟨aa,aa,aa,aa,trivial⟩,Pick.refl _⟩⟩ ?_
 clear hN2
 rintro m e C ⟨x3,x4,hN2,hatl2⟩
 refine W_at hatl2 ?_
 clear hatl2
 obtain⟨m2,w2l,rfl,h2l,hn2,ho2⟩:=dp hN2
 clear hN2
 replace h2l:kj R x1 x3 x4=some w2l:=h2l
 unfold kj at h2l
 refine W_rs ?_
 refine rq (out:=Pr.bool (decide (x4<(x1.Kids.length:Int)))) qInt ?_
 refine c0 ?_
 refine a8 (b:=decide (x4<(x1.Kids.length:Int))) rfl (fun hc7=> ?_) (fun hc7=> ?_)
 ·replace h2l:=iteT hc7 h2l
  refine bj ?_
  refine c0 ?_
  refine bu ?_
  refine W_rs ?_
  obtain⟨x8,hx8,h2l⟩:=ak h2l
  refine rq (out:=br rApiNode x8) (qIdxA (R:=rApiNode) (l:=x1.Kids) Tryz.underlying24 Tryz.sizeOf32 hx8) ?_
  refine rq (out:=(rApiNode).val x8) (gr (R:=rApiNode) (a:=x8) ty32) ?_
  refine bi (R:=rApiNode) (z:=(ApiNode.mk 0 [] [] 0 0 0 0 0 [])) Tryz.zeroValue32 (fun _=>(by rw[ap];exact⟨_,⟨_,_,rfl,rfl,⟨_,_,rfl,rfl,⟨_,_,rfl,rfl,⟨_,_,rfl,rfl,⟨_,_,rfl,rfl,⟨_,_,rfl,rfl,⟨_,_,rfl,rfl,⟨_,_,rfl,rfl,⟨_,_,rfl,⟨_,rfl,none,0,rfl,⟨Nat.le_refl _,fun _=>rfl⟩,.inl rfl⟩,rfl⟩⟩⟩⟩⟩⟩⟩⟩⟩,rfl⟩)) (fun b9=> ?_)
  refine a5 (R:=rApiNode) (R':=rApiNode) (a:=(ApiNode.mk 0 [] [] 0 0 0 0 0 [])) (y:=x8) 1 Tryz.sizeOf32 (Upd.refl _) ?_
  refine W_r ?_
  refine rq (out:=Pr.i64 x3) ai ?_
  refine rq (out:=(rApiNode).val x8) (a7 (R:=rApiNode) (a:=x8) (R':=rApiNode) 1 ty32 (Sub.refl _)) ?_
  obtain⟨x10,hx10,h2l⟩:=ak h2l
  refine rq (out:=Pr.i64 x10) (dt (ih x8 _ hx10)) ?_
  refine rq (out:=Pr.i64 (if x10>x3 then x10 else x3)) (qMax (a:=x3) (b:=x10)) ?_
  refine rq (out:=Pr.i64 (if x10>x3 then x10 else x3)) aj ?_
  refine W_r ?_
  refine rq (out:=Pr.i64 (w64 (x4+1))) qInt ?_
  refine rq (out:=Pr.i64 (w64 (x4+1))) ai ?_
  exact⟨m2,Nat.lt_succ_self _,(if x10>x3 then x10 else x3),w64 (x4+1),hn2 _ (Option.some.inj h2l).symm,⟨⟨aa,aa,aa,aa,trivial⟩,Pick.of [0] rfl⟩⟩
 replace h2l:=iteF hc7 h2l
 refine jn ?_
 obtain rfl:=ho2 _ (Option.some.inj h2l).symm
 exact⟨x3,h,⟨⟨aa,trivial⟩,Pick.refl _⟩⟩
theorem rec_node_Depth_ok :∀n,rec_node_Depth_spec (gn n):=by
 intro n
 induction n with
 |zero=>exact(fun x1 r h=>nomatch (show none=some r from h))
 |succ n ih=>exact(fun x1 r h=>F_node_Depth_step (gn n) ih x1 r h)
theorem node_Depth_ok (x1:ApiNode) (r:Int) (h:node_Depth x1=some r):FnP Tryz.prog 39 [(rApiNode).val x1] (Pr.i64 r):=(rec_node_Depth_ok 1048576) x1 r h
end Go.Proofs.YtackaijkmkollaaGreatDoor
