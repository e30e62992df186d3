/- The code comes to what these functions say (printed by wip/gen/gen.py). -/
import Derived.Test.YtgkcoicaopilhaaGreatDoorZP5
import Derived.Test.YtgkcoicaopilhaaGreatDoorZT
set_option linter.unusedSimpArgs false
set_option linter.unusedVariables false
set_option linter.unusedSectionVars false
set_option linter.unusedSectionVars false
set_option maxRecDepth 100000
set_option maxHeartbeats 4000000
namespace Go.Proofs.YtgkcoicaopilhaaGreatDoor
open Go Go.Cn
theorem lcs_ends_ok (x1 x2 x4:List Int) (v3:Value) (r:Int × Int × (List Int)) (h:lcs_ends x1 x2 x4=some r):FnC Tryz.prog 125 [aj (Rp.int .i64) x1,aj (Rp.int .i64) x2,Pr.is v3] [Own.vec v3 (Rp.int .i64) x4 3] (fun q C'=>q=bh [Pr.i64 r.1,Pr.i64 r.2.1]/\C'=[Own.vec v3 (Rp.int .i64) r.2.2 3]):=by
 refine fnc_introP (n:=84) (rs:=[6,7]) Tryz.func125 rfl Tryz.ntmps125 ⟨by decide,Tryz.results125⟩ (by decide) (fun s0=> ?_)
 unfold lcs_ends at h
 refine W_rs ?_
 refine rq (out:=Pr.i64 0) ae ?_
 refine rq (out:=Pr.i64 0) ae ?_
 refine W_rs ?_
 refine rq (out:=Pr.i64 0) ae ?_
 refine a5 ?_
 refine az ?_
 obtain⟨z7l,hz7,h⟩:=af h
 obtain⟨n7,hN7⟩:=cc hz7
 clear hz7
 refine du 0 (fun e C=>∃(x5:Int),∃(x6:List Int),lcs_ends_k6 x2 x1 x5 x6=some r/\At [(0,aj (Rp.int .i64) x1),(1,aj (Rp.int .i64) x2),(2,Pr.is v3),(8,Pr.i64 x5)] [Own.vec v3 (Rp.int .i64) x6 3] e C) ?_ ?_
 ·rintro e C ⟨x5,x6,h,hat6⟩
  refine W_at hat6 ?_
  clear hat6
  unfold lcs_ends_k6 at h
  refine W_rs ?_
  refine rq (out:=Pr.i64 0) ae ?_
  refine a5 ?_
  refine az ?_
  obtain⟨z4l,hz4,h⟩:=af h
  obtain⟨n4,hN4⟩:=cc hz4
  clear hz4
  refine du 2 (fun e C=>∃(x15:Int),lcs_ends_k3 x1 x2 x6 x5 x15=some r/\At [(0,aj (Rp.int .i64) x1),(1,aj (Rp.int .i64) x2),(2,Pr.is v3),(8,Pr.i64 x5),(9,Pr.i64 x15)] [Own.vec v3 (Rp.int .i64) x6 3] e C) ?_ ?_
  ·rintro e C ⟨x15,h,hat3⟩
   refine W_at hat3 ?_
   clear hat3
   unfold lcs_ends_k3 at h
   refine a5 ?_
   refine W_rs ?_
   refine rq (out:=Pr.i64 x15) ag ?_
   refine rq (out:=Pr.i64 0) ag ?_
   refine az ?_
   obtain⟨z2l,hz2,h⟩:=af h
   obtain⟨n2,hN2⟩:=cc hz2
   clear hz2
   refine du 4 (fun e C=>∃(x23:List Int),lcs_ends_k1 x5 x15 x23=some r/\At [(2,Pr.is v3),(8,Pr.i64 x5),(9,Pr.i64 x15)] [Own.vec v3 (Rp.int .i64) x23 3] e C) ?_ ?_
   ·rintro e C ⟨x23,h,hat1⟩
    refine W_at hat1 ?_
    clear hat1
    unfold lcs_ends_k1 at h
    refine W_rs ?_
    refine rq (out:=Pr.i64 x5) ag ?_
    refine rq (out:=Pr.i64 x15) ag ?_
    refine rq (out:=Pr.i64 x5) ae ?_
    refine rq (out:=Pr.i64 x15) ae ?_
    obtain rfl:=Option.some.inj h
    exact a6 ⟨.inl rfl,_,Pick.refl _,_,(aa),rfl,rfl⟩
   refine eh (fun m e C=>∃(x22:Int),∃(x23:List Int),en (fun s=>lh x15 x1 x2 s.1 s.2) m (x22,x23)=some z2l/\At [(0,aj (Rp.int .i64) x1),(1,aj (Rp.int .i64) x2),(2,Pr.is v3),(8,Pr.i64 x5),(9,Pr.i64 x15),(65,Pr.i64 x15),(66,Pr.i64 x22)] [Own.vec v3 (Rp.int .i64) x23 3] e C) n2 ⟨0,x6,hN2,⟨⟨aa,aa,aa,aa,aa,aa,aa,trivial⟩,Pick.refl _⟩⟩ ?_
   clear hN2
   rintro m e C ⟨x22,x23,hN2,hatl2⟩
   refine W_at hatl2 ?_
   clear hatl2
   obtain⟨m2,w2l,rfl,h2l,hn2,ho2⟩:=bx hN2
   clear hN2
   replace h2l:lh x15 x1 x2 x22 x23=some w2l:=h2l
   unfold lh at h2l
   refine W_rs ?_
   refine rq (out:=Pr.bool (decide (x22<x15))) qInt ?_
   refine a5 ?_
   refine ao (b:=decide (x22<x15)) rfl (fun hc26=> ?_) (fun hc26=> ?_)
   ·replace h2l:=iteT hc26 h2l
    refine au ?_
    refine a5 ?_
    refine az ?_
    refine W_rs ?_
    refine rq (out:=Pr.i64 x22) ag ?_
    refine rq (out:=Pr.i64 x22) ae ?_
    refine W_r ?_
    refine rq (out:=Pr.is v3) ag ?_
    refine rq (out:=aj (Rp.int .i64) x1) ag ?_
    refine rq (out:=Pr.i64 (x1.length:Int)) (fi rfl Tryz.underlying71) ?_
    refine rq (out:=Pr.i64 (w64 ((x1.length:Int) - 1))) qInt ?_
    refine rq (out:=Pr.i64 x22) ag ?_
    refine rq (out:=Pr.i64 (w64 ((w64 ((x1.length:Int) - 1)) - x22))) qInt ?_
    refine rq (out:=aj (Rp.int .i64) x2) ag ?_
    refine rq (out:=Pr.i64 (x2.length:Int)) (fi rfl Tryz.underlying71) ?_
    refine rq (out:=Pr.i64 (w64 ((x2.length:Int) - 1))) qInt ?_
    refine rq (out:=Pr.i64 x22) ag ?_
    refine rq (out:=Pr.i64 (w64 ((w64 ((x2.length:Int) - 1)) - x22))) qInt ?_
    obtain⟨x27,hx27,h2l⟩:=af h2l
    refine rq (out:=nq v3 (Int.toNat (w64 ((w64 ((x1.length:Int) - 1)) - x22)) * (Rp.int .i64).size)) (qIdxV 0 (R:=Rp.int .i64) (l:=x23) Tryz.underlying71 Tryz.sizeOf3 hx27) ?_
    refine rStoreE (R:=Rp.int .i64) (R':=Rp.int .i64) (l:=x23) (a:=x27) (y:=w64 ((w64 ((x2.length:Int) - 1)) - x22)) (o:=0) 0 Tryz.sizeOf3 (Upd.refl _) hx27 rfl ?_
    refine W_r ?_
    refine rq (out:=Pr.i64 (w64 (x22+1))) qInt ?_
    refine rq (out:=Pr.i64 (w64 (x22+1))) ag ?_
    exact⟨m2,Nat.lt_succ_self _,w64 (x22+1),(List.set x23 (Int.toNat (w64 ((w64 ((x1.length:Int) - 1)) - x22))) (w64 ((w64 ((x2.length:Int) - 1)) - x22))),hn2 _ (Option.some.inj h2l).symm,⟨⟨aa,aa,aa,aa,aa,aa,aa,trivial⟩,Pick.refl _⟩⟩
   replace h2l:=iteF hc26 h2l
   refine dg ?_
   obtain rfl:=ho2 _ (Option.some.inj h2l).symm
   exact⟨x23,h,⟨⟨aa,aa,aa,trivial⟩,Pick.refl _⟩⟩
  refine eh (fun m e C=>∃(x15:Int),en (fun s=>iy x2 x1 x5 s) m x15=some z4l/\At [(0,aj (Rp.int .i64) x1),(1,aj (Rp.int .i64) x2),(2,Pr.is v3),(8,Pr.i64 x5),(9,Pr.i64 x15)] [Own.vec v3 (Rp.int .i64) x6 3] e C) n4 ⟨0,hN4,⟨⟨aa,aa,aa,aa,aa,trivial⟩,Pick.refl _⟩⟩ ?_
  clear hN4
  rintro m e C ⟨x15,hN4,hatl4⟩
  refine W_at hatl4 ?_
  clear hatl4
  obtain⟨m4,w4l,rfl,h4l,hn4,ho4⟩:=bx hN4
  clear hN4
  replace h4l:iy x2 x1 x5 x15=some w4l:=h4l
  unfold iy at h4l
  refine a5 ?_
  refine bc (fun e C=>∃(x20:Bool),lcs_ends_j5 x15 x20=some w4l/\At [(0,aj (Rp.int .i64) x1),(1,aj (Rp.int .i64) x2),(2,Pr.is v3),(8,Pr.i64 x5),(9,Pr.i64 x15),(62,Pr.bool x20)] [Own.vec v3 (Rp.int .i64) x6 3] e C) ?_ ?_
  ·rintro e C ⟨x20,h4l,hat5⟩
   refine W_at hat5 ?_
   clear hat5
   unfold lcs_ends_j5 at h4l
   refine ao (b:=x20) rfl (fun hc21=> ?_) (fun hc21=> ?_)
   ·replace h4l:=iteT hc21 h4l
    refine au ?_
    refine az ?_
    refine W_r ?_
    refine rq (out:=Pr.i64 x15) ag ?_
    refine rq (out:=Pr.i64 (w64 (x15+1))) qInt ?_
    refine rq (out:=Pr.i64 (w64 (x15+1))) ae ?_
    exact⟨m4,Nat.lt_succ_self _,w64 (x15+1),hn4 _ (Option.some.inj h4l).symm,⟨⟨aa,aa,aa,aa,aa,trivial⟩,Pick.refl _⟩⟩
   replace h4l:=iteF hc21 h4l
   refine dg ?_
   obtain rfl:=ho4 _ (Option.some.inj h4l).symm
   exact⟨x15,h,⟨⟨aa,aa,aa,aa,aa,trivial⟩,Pick.refl _⟩⟩
  refine jm 28 hmx (by kernel_rfl) (by kernel_rfl) ?_
  refine qq (out:=Pr.i64 x15) ag ?_
  refine qq (out:=aj (Rp.int .i64) x1) ag ?_
  refine qq (out:=Pr.i64 (x1.length:Int)) (fi rfl Tryz.underlying71) ?_
  refine qq (out:=aj (Rp.int .i64) x2) ag ?_
  refine qq (out:=Pr.i64 (x2.length:Int)) (fi rfl Tryz.underlying71) ?_
  refine qq (out:=Pr.i64 (if(x2.length:Int)<(x1.length:Int)then(x2.length:Int)else(x1.length:Int))) (qMin (a:=(x1.length:Int)) (b:=(x2.length:Int))) ?_
  refine qq (out:=Pr.i64 x5) ag ?_
  refine qq (out:=Pr.i64 (w64 ((if(x2.length:Int)<(x1.length:Int)then(x2.length:Int)else(x1.length:Int)) - x5))) qInt ?_
  refine qq (out:=Pr.bool (decide (x15<(w64 ((if(x2.length:Int)<(x1.length:Int)then(x2.length:Int)else(x1.length:Int)) - x5))))) qInt ?_
  refine qq (out:=Pr.bool (decide (x15<(w64 ((if(x2.length:Int)<(x1.length:Int)then(x2.length:Int)else(x1.length:Int)) - x5))))) ag ?_
  rcases bv h4l with⟨hc17,h4l⟩|⟨hc17,h4l⟩
  ·refine qqg hc17 (out:=aj (Rp.int .i64) x1) ag ?_
   refine qqg hc17 (out:=aj (Rp.int .i64) x1) ag ?_
   refine qqg hc17 (out:=Pr.i64 (x1.length:Int)) (fi rfl Tryz.underlying71) ?_
   refine qqg hc17 (out:=Pr.i64 (w64 ((x1.length:Int) - 1))) qInt ?_
   refine qqg hc17 (out:=Pr.i64 x15) ag ?_
   refine qqg hc17 (out:=Pr.i64 (w64 ((w64 ((x1.length:Int) - 1)) - x15))) qInt ?_
   obtain⟨x18,hx18,h4l⟩:=af h4l
   refine qqg hc17 (out:=bj (Rp.int .i64) x18) (ef (R:=Rp.int .i64) (l:=x1) Tryz.underlying71 Tryz.sizeOf3 hx18) ?_
   refine qqg hc17 (out:=Pr.i64 x18) (c5 (R:=Rp.int .i64) (a:=x18) ty3) ?_
   refine qqg hc17 (out:=aj (Rp.int .i64) x2) ag ?_
   refine qqg hc17 (out:=aj (Rp.int .i64) x2) ag ?_
   refine qqg hc17 (out:=Pr.i64 (x2.length:Int)) (fi rfl Tryz.underlying71) ?_
   refine qqg hc17 (out:=Pr.i64 (w64 ((x2.length:Int) - 1))) qInt ?_
   refine qqg hc17 (out:=Pr.i64 x15) ag ?_
   refine qqg hc17 (out:=Pr.i64 (w64 ((w64 ((x2.length:Int) - 1)) - x15))) qInt ?_
   obtain⟨x19,hx19,h4l⟩:=af h4l
   refine qqg hc17 (out:=bj (Rp.int .i64) x19) (ef (R:=Rp.int .i64) (l:=x2) Tryz.underlying71 Tryz.sizeOf3 hx19) ?_
   refine qqg hc17 (out:=Pr.i64 x19) (c5 (R:=Rp.int .i64) (a:=x19) ty3) ?_
   refine qqg hc17 (out:=Pr.bool (x18==x19)) qInt ?_
   refine qq (out:=Pr.bool (x18==x19)) (bu hc17) ?_
   exact⟨x18==x19,h4l,⟨⟨aa,aa,aa,aa,aa,aa,trivial⟩,Pick.refl _⟩⟩
  refine qqno (neT hc17) ?_
  refine qqno (neT hc17) ?_
  refine qqno (neT hc17) ?_
  refine qqno (neT hc17) ?_
  refine qqno (neT hc17) ?_
  refine qqno (neT hc17) ?_
  refine qqno (neT hc17) ?_
  refine qqno (neT hc17) ?_
  refine qqno (neT hc17) ?_
  refine qqno (neT hc17) ?_
  refine qqno (neT hc17) ?_
  refine qqno (neT hc17) ?_
  refine qqno (neT hc17) ?_
  refine qqno (neT hc17) ?_
  refine qqno (neT hc17) ?_
  refine qqno (neT hc17) ?_
  refine qqno (neT hc17) ?_
  refine qq (out:=Pr.bool false) (bp hc17) ?_
  exact⟨false,h4l,⟨⟨aa,aa,aa,aa,aa,aa,trivial⟩,Pick.refl _⟩⟩
 refine eh (fun m e C=>∃(x5:Int),∃(x6:List Int),en (fun s=>jv x2 x1 s.1 s.2) m (x5,x6)=some z7l/\At [(0,aj (Rp.int .i64) x1),(1,aj (Rp.int .i64) x2),(2,Pr.is v3),(8,Pr.i64 x5)] [Own.vec v3 (Rp.int .i64) x6 3] e C) n7 ⟨0,x4,hN7,⟨⟨aa,aa,aa,aa,trivial⟩,Pick.refl _⟩⟩ ?_
 clear hN7
 rintro m e C ⟨x5,x6,hN7,hatl7⟩
 refine W_at hatl7 ?_
 clear hatl7
 obtain⟨m7,w7l,rfl,h7l,hn7,ho7⟩:=bx hN7
 clear hN7
 replace h7l:jv x2 x1 x5 x6=some w7l:=h7l
 unfold jv at h7l
 refine a5 ?_
 refine bc (fun e C=>∃(x12:Bool),nh x6 x5 x12=some w7l/\At [(0,aj (Rp.int .i64) x1),(1,aj (Rp.int .i64) x2),(2,Pr.is v3),(8,Pr.i64 x5),(28,Pr.bool x12)] [Own.vec v3 (Rp.int .i64) x6 3] e C) ?_ ?_
 ·rintro e C ⟨x12,h7l,hat8⟩
  refine W_at hat8 ?_
  clear hat8
  unfold nh at h7l
  refine ao (b:=x12) rfl (fun hc13=> ?_) (fun hc13=> ?_)
  ·replace h7l:=iteT hc13 h7l
   refine au ?_
   refine az ?_
   refine W_rs ?_
   refine rq (out:=Pr.is v3) ag ?_
   refine rq (out:=Pr.i64 x5) ag ?_
   refine rq (out:=Pr.i64 x5) ag ?_
   obtain⟨x14,hx14,h7l⟩:=af h7l
   refine rq (out:=nq v3 (Int.toNat x5 * (Rp.int .i64).size)) (qIdxV 0 (R:=Rp.int .i64) (l:=x6) Tryz.underlying71 Tryz.sizeOf3 hx14) ?_
   refine rStoreE (R:=Rp.int .i64) (R':=Rp.int .i64) (l:=x6) (a:=x14) (y:=x5) (o:=0) 0 Tryz.sizeOf3 (Upd.refl _) hx14 rfl ?_
   refine W_r ?_
   refine rq (out:=Pr.i64 x5) ag ?_
   refine rq (out:=Pr.i64 (w64 (x5+1))) qInt ?_
   refine rq (out:=Pr.i64 (w64 (x5+1))) ae ?_
   exact⟨m7,Nat.lt_succ_self _,w64 (x5+1),(List.set x6 (Int.toNat x5) x5),hn7 _ (Option.some.inj h7l).symm,⟨⟨aa,aa,aa,aa,trivial⟩,Pick.refl _⟩⟩
  replace h7l:=iteF hc13 h7l
  refine dg ?_
  obtain rfl:=ho7 _ (Option.some.inj h7l).symm
  exact⟨x5,x6,h,⟨⟨aa,aa,aa,aa,trivial⟩,Pick.refl _⟩⟩
 refine jm 18 hmx (by kernel_rfl) (by kernel_rfl) ?_
 refine qq (out:=Pr.i64 x5) ag ?_
 refine qq (out:=aj (Rp.int .i64) x1) ag ?_
 refine qq (out:=Pr.i64 (x1.length:Int)) (fi rfl Tryz.underlying71) ?_
 refine qq (out:=aj (Rp.int .i64) x2) ag ?_
 refine qq (out:=Pr.i64 (x2.length:Int)) (fi rfl Tryz.underlying71) ?_
 refine qq (out:=Pr.i64 (if(x2.length:Int)<(x1.length:Int)then(x2.length:Int)else(x1.length:Int))) (qMin (a:=(x1.length:Int)) (b:=(x2.length:Int))) ?_
 refine qq (out:=Pr.bool (decide (x5<(if(x2.length:Int)<(x1.length:Int)then(x2.length:Int)else(x1.length:Int))))) qInt ?_
 refine qq (out:=Pr.bool (decide (x5<(if(x2.length:Int)<(x1.length:Int)then(x2.length:Int)else(x1.length:Int))))) ag ?_
 rcases bv h7l with⟨hc9,h7l⟩|⟨hc9,h7l⟩
 ·refine qqg hc9 (out:=aj (Rp.int .i64) x1) ag ?_
  refine qqg hc9 (out:=Pr.i64 x5) ag ?_
  obtain⟨x10,hx10,h7l⟩:=af h7l
  refine qqg hc9 (out:=bj (Rp.int .i64) x10) (ef (R:=Rp.int .i64) (l:=x1) Tryz.underlying71 Tryz.sizeOf3 hx10) ?_
  refine qqg hc9 (out:=Pr.i64 x10) (c5 (R:=Rp.int .i64) (a:=x10) ty3) ?_
  refine qqg hc9 (out:=aj (Rp.int .i64) x2) ag ?_
  refine qqg hc9 (out:=Pr.i64 x5) ag ?_
  obtain⟨x11,hx11,h7l⟩:=af h7l
  refine qqg hc9 (out:=bj (Rp.int .i64) x11) (ef (R:=Rp.int .i64) (l:=x2) Tryz.underlying71 Tryz.sizeOf3 hx11) ?_
  refine qqg hc9 (out:=Pr.i64 x11) (c5 (R:=Rp.int .i64) (a:=x11) ty3) ?_
  refine qqg hc9 (out:=Pr.bool (x10==x11)) qInt ?_
  refine qq (out:=Pr.bool (x10==x11)) (bu hc9) ?_
  exact⟨x10==x11,h7l,⟨⟨aa,aa,aa,aa,aa,trivial⟩,Pick.refl _⟩⟩
 refine qqno (neT hc9) ?_
 refine qqno (neT hc9) ?_
 refine qqno (neT hc9) ?_
 refine qqno (neT hc9) ?_
 refine qqno (neT hc9) ?_
 refine qqno (neT hc9) ?_
 refine qqno (neT hc9) ?_
 refine qqno (neT hc9) ?_
 refine qqno (neT hc9) ?_
 refine qq (out:=Pr.bool false) (bp hc9) ?_
 exact⟨false,h7l,⟨⟨aa,aa,aa,aa,aa,trivial⟩,Pick.refl _⟩⟩
theorem lcs_Match_ok (x1 x2:List Int) (r:(List Int)) (h:lcs_Match x1 x2=some r):FnP Tryz.prog 108 [aj (Rp.int .i64) x1,aj (Rp.int .i64) x2] (aj (Rp.int .i64) r):=by
 refine bo (n:=79) (rs:=[4]) Tryz.func108 rfl Tryz.ntmps108 ⟨by decide,Tryz.results108⟩ (by decide) (fun s0=> ?_)
 unfold lcs_Match at h
 refine W_rs ?_
 refine rq (out:=Pr.is (.slice none 0 0)) ae ?_
 refine W_rs ?_
 refine rq (out:=aj (Rp.int .i64) x1) ag ?_
 refine rq (out:=Pr.i64 (x1.length:Int)) (fi rfl Tryz.underlying71) ?_
 obtain⟨x3,hx3,h⟩:=af h
 refine rCallC [] (lcs_none_ok (x1.length:Int) _ hx3) (fun q C' hq=> ?_)
 obtain⟨v4,rfl,rfl⟩:=hq
 refine rq (out:=Pr.is v4) ae ?_
 refine a5 ?_
 refine bc (fun e C=>∃(x6:Bool),jp x1 x2 x3 x6=some r/\At [(0,aj (Rp.int .i64) x1),(1,aj (Rp.int .i64) x2),(5,Pr.is v4),(19,Pr.bool x6)] [Own.vec v4 (Rp.int .i64) x3 3] e C) ?_ ?_
 ·rintro e C ⟨x6,h,hat6⟩
  refine W_at hat6 ?_
  clear hat6
  unfold jp at h
  refine ao (b:=x6) rfl (fun hc7=> ?_) (fun hc7=> ?_)
  ·replace h:=iteT hc7 h
   refine W_rs ?_
   refine rq (out:=aj (Rp.int .i64) x1) ag ?_
   refine rq (out:=aj (Rp.int .i64) x2) ag ?_
   refine rq (out:=Pr.is v4) ag ?_
   obtain⟨⟨x8,x9,x10⟩,hx8,h⟩:=af h
   refine rCallC [0] (lcs_ends_ok x1 x2 x3 v4 _ hx8) (fun q C' hq=> ?_)
   obtain⟨rfl,rfl⟩:=hq
   refine W_rs ?_
   refine rq (out:=Pr.is v4) ag ?_
   refine rq (out:=Pr.is v4) ae ?_
   refine W_rel 0 [4] ?_ rfl ⟨rfl,trivial⟩
   obtain rfl:=Option.some.inj h
   exact a6 ⟨rfl,aa⟩
  replace h:=iteF hc7 h
  refine au ?_
  refine W_rs ?_
  refine rq (out:=aj (Rp.int .i64) x1) ag ?_
  refine rq (out:=aj (Rp.int .i64) x2) ag ?_
  obtain⟨x11,hx11,h⟩:=af h
  refine rq (out:=aj (a9 (Rp.int .i32)) x11) (aw (lcs_left_ok x1 x2 _ hx11)) ?_
  refine rq (out:=aj (a9 (Rp.int .i32)) x11) ae ?_
  refine a5 ?_
  refine W_rs ?_
  refine rq (out:=Pr.i64 0) ae ?_
  refine rq (out:=Pr.i64 0) ae ?_
  refine az ?_
  obtain⟨z2l,hz2,h⟩:=af h
  obtain⟨n2,hN2⟩:=cc hz2
  clear hz2
  refine du 0 (fun e C=>∃(x14:List Int),lcs_Match_k1 x14=some r/\At [(5,Pr.is v4)] [Own.vec v4 (Rp.int .i64) x14 3] e C) ?_ ?_
  ·rintro e C ⟨x14,h,hat1⟩
   refine W_at hat1 ?_
   clear hat1
   unfold lcs_Match_k1 at h
   refine W_rs ?_
   refine rq (out:=Pr.is v4) ag ?_
   refine rq (out:=Pr.is v4) ae ?_
   refine W_rel 0 [4] ?_ rfl ⟨rfl,trivial⟩
   obtain rfl:=Option.some.inj h
   exact a6 ⟨rfl,aa⟩
  refine eh (fun m e C=>∃(x12:Int),∃(x13:Int),∃(x14:List Int),en (fun s=>f2 x1 x2 x11 s.1 s.2.1 s.2.2) m (x12,x13,x14)=some z2l/\At [(0,aj (Rp.int .i64) x1),(1,aj (Rp.int .i64) x2),(5,Pr.is v4),(6,aj (a9 (Rp.int .i32)) x11),(7,Pr.i64 x12),(8,Pr.i64 x13)] [Own.vec v4 (Rp.int .i64) x14 3] e C) n2 ⟨0,0,x3,hN2,⟨⟨aa,aa,aa,aa,aa,aa,trivial⟩,Pick.refl _⟩⟩ ?_
  clear hN2
  rintro m e C ⟨x12,x13,x14,hN2,hatl2⟩
  refine W_at hatl2 ?_
  clear hatl2
  obtain⟨m2,w2l,rfl,h2l,hn2,ho2⟩:=bx hN2
  clear hN2
  replace h2l:f2 x1 x2 x11 x12 x13 x14=some w2l:=h2l
  unfold f2 at h2l
  refine a5 ?_
  refine bc (fun e C=>∃(x19:Bool),jq x1 x12 x2 x13 x14 x11 x19=some w2l/\At [(0,aj (Rp.int .i64) x1),(1,aj (Rp.int .i64) x2),(5,Pr.is v4),(6,aj (a9 (Rp.int .i32)) x11),(7,Pr.i64 x12),(8,Pr.i64 x13),(37,Pr.bool x19)] [Own.vec v4 (Rp.int .i64) x14 3] e C) ?_ ?_
  ·rintro e C ⟨x19,h2l,hat5⟩
   refine W_at hat5 ?_
   clear hat5
   unfold jq at h2l
   refine ao (b:=x19) rfl (fun hc20=> ?_) (fun hc20=> ?_)
   ·replace h2l:=iteT hc20 h2l
    refine au ?_
    refine az ?_
    refine az ?_
    refine bc (fun e C=>∃(x21:Int),∃(x22:Int),jr x14 x12 x13 x11 x21 x22=some w2l/\At [(0,aj (Rp.int .i64) x1),(1,aj (Rp.int .i64) x2),(5,Pr.is v4),(6,aj (a9 (Rp.int .i32)) x11),(7,Pr.i64 x12),(8,Pr.i64 x13),(40,Pr.bool (x21==x22))] [Own.vec v4 (Rp.int .i64) x14 3] e C) ?_ ?_
    ·rintro e C ⟨x21,x22,h2l,hat4⟩
     refine W_at hat4 ?_
     clear hat4
     unfold jr at h2l
     refine ao (b:=x21==x22) rfl (fun hc23=> ?_) (fun hc23=> ?_)
     ·replace h2l:=iteT hc23 h2l
      refine W_rs ?_
      refine rq (out:=Pr.is v4) ag ?_
      refine rq (out:=Pr.i64 x12) ag ?_
      refine rq (out:=Pr.i64 x13) ag ?_
      obtain⟨x24,hx24,h2l⟩:=af h2l
      refine rq (out:=nq v4 (Int.toNat x12 * (Rp.int .i64).size)) (qIdxV 0 (R:=Rp.int .i64) (l:=x14) Tryz.underlying71 Tryz.sizeOf3 hx24) ?_
      refine rStoreE (R:=Rp.int .i64) (R':=Rp.int .i64) (l:=x14) (a:=x24) (y:=x13) (o:=0) 0 Tryz.sizeOf3 (Upd.refl _) hx24 rfl ?_
      refine W_r ?_
      refine rq (out:=Pr.i64 x12) ag ?_
      refine rq (out:=Pr.i64 (w64 (x12+1))) qInt ?_
      refine rq (out:=Pr.i64 x13) ag ?_
      refine rq (out:=Pr.i64 (w64 (x13+1))) qInt ?_
      refine rq (out:=Pr.i64 (w64 (x12+1))) ae ?_
      refine rq (out:=Pr.i64 (w64 (x13+1))) ae ?_
      exact⟨m2,Nat.lt_succ_self _,w64 (x12+1),w64 (x13+1),(List.set x14 (Int.toNat x12) x13),hn2 _ (Option.some.inj h2l).symm,⟨⟨aa,aa,aa,aa,aa,aa,trivial⟩,Pick.refl _⟩⟩
     replace h2l:=iteF hc23 h2l
     refine bc (fun e C=>∃(x26:Int),∃(x28:Int),js x12 x13 x14 x26 x28=some w2l/\At [(0,aj (Rp.int .i64) x1),(1,aj (Rp.int .i64) x2),(5,Pr.is v4),(6,aj (a9 (Rp.int .i32)) x11),(7,Pr.i64 x12),(8,Pr.i64 x13),(58,Pr.bool (decide (x26≥x28)))] [Own.vec v4 (Rp.int .i64) x14 3] e C) ?_ ?_
     ·rintro e C ⟨x26,x28,h2l,hat3⟩
      refine W_at hat3 ?_
      clear hat3
      unfold js at h2l
      refine ao (b:=decide (x26≥x28)) rfl (fun hc29=> ?_) (fun hc29=> ?_)
      ·replace h2l:=iteT hc29 h2l
       refine W_r ?_
       refine rq (out:=Pr.i64 x12) ag ?_
       refine rq (out:=Pr.i64 (w64 (x12+1))) qInt ?_
       refine rq (out:=Pr.i64 (w64 (x12+1))) ae ?_
       exact⟨m2,Nat.lt_succ_self _,w64 (x12+1),x13,x14,hn2 _ (Option.some.inj h2l).symm,⟨⟨aa,aa,aa,aa,aa,aa,trivial⟩,Pick.refl _⟩⟩
      replace h2l:=iteF hc29 h2l
      refine W_r ?_
      refine rq (out:=Pr.i64 x13) ag ?_
      refine rq (out:=Pr.i64 (w64 (x13+1))) qInt ?_
      refine rq (out:=Pr.i64 (w64 (x13+1))) ae ?_
      exact⟨m2,Nat.lt_succ_self _,x12,w64 (x13+1),x14,hn2 _ (Option.some.inj h2l).symm,⟨⟨aa,aa,aa,aa,aa,aa,trivial⟩,Pick.refl _⟩⟩
     refine jm 18 hmx (by kernel_rfl) (by kernel_rfl) ?_
     refine qq (out:=aj (a9 (Rp.int .i32)) x11) ag ?_
     refine qq (out:=Pr.i64 x12) ag ?_
     refine qq (out:=Pr.i64 (w64 (x12+1))) qInt ?_
     obtain⟨x25,hx25,h2l⟩:=af h2l
     refine qq (out:=bj (a9 (Rp.int .i32)) x25) (ef (R:=a9 (Rp.int .i32)) (l:=x11) Tryz.underlying136 Tryz.sizeOf138 hx25) ?_
     refine qq (out:=aj (Rp.int .i32) x25) (c5 (R:=a9 (Rp.int .i32)) (a:=x25) ty138) ?_
     refine qq (out:=Pr.i64 x13) ag ?_
     obtain⟨x26,hx26,h2l⟩:=af h2l
     refine qq (out:=bj (Rp.int .i32) x26) (ef (R:=Rp.int .i32) (l:=x25) Tryz.underlying138 Tryz.sizeOf21 hx26) ?_
     refine qq (out:=Pr.int .i32 x26) (c5 (R:=Rp.int .i32) (a:=x26) ty21) ?_
     refine qq (out:=aj (a9 (Rp.int .i32)) x11) ag ?_
     refine qq (out:=Pr.i64 x12) ag ?_
     obtain⟨x27,hx27,h2l⟩:=af h2l
     refine qq (out:=bj (a9 (Rp.int .i32)) x27) (ef (R:=a9 (Rp.int .i32)) (l:=x11) Tryz.underlying136 Tryz.sizeOf138 hx27) ?_
     refine qq (out:=aj (Rp.int .i32) x27) (c5 (R:=a9 (Rp.int .i32)) (a:=x27) ty138) ?_
     refine qq (out:=Pr.i64 x13) ag ?_
     refine qq (out:=Pr.i64 (w64 (x13+1))) qInt ?_
     obtain⟨x28,hx28,h2l⟩:=af h2l
     refine qq (out:=bj (Rp.int .i32) x28) (ef (R:=Rp.int .i32) (l:=x27) Tryz.underlying138 Tryz.sizeOf21 hx28) ?_
     refine qq (out:=Pr.int .i32 x28) (c5 (R:=Rp.int .i32) (a:=x28) ty21) ?_
     refine qq (out:=Pr.bool (decide (x26≥x28))) qInt ?_
     refine qq (out:=Pr.bool (decide (x26≥x28))) ae ?_
     exact⟨x26,x28,h2l,⟨⟨aa,aa,aa,aa,aa,aa,aa,trivial⟩,Pick.refl _⟩⟩
    refine jm 10 hmx (by kernel_rfl) (by kernel_rfl) ?_
    refine qq (out:=aj (Rp.int .i64) x1) ag ?_
    refine qq (out:=Pr.i64 x12) ag ?_
    obtain⟨x21,hx21,h2l⟩:=af h2l
    refine qq (out:=bj (Rp.int .i64) x21) (ef (R:=Rp.int .i64) (l:=x1) Tryz.underlying71 Tryz.sizeOf3 hx21) ?_
    refine qq (out:=Pr.i64 x21) (c5 (R:=Rp.int .i64) (a:=x21) ty3) ?_
    refine qq (out:=aj (Rp.int .i64) x2) ag ?_
    refine qq (out:=Pr.i64 x13) ag ?_
    obtain⟨x22,hx22,h2l⟩:=af h2l
    refine qq (out:=bj (Rp.int .i64) x22) (ef (R:=Rp.int .i64) (l:=x2) Tryz.underlying71 Tryz.sizeOf3 hx22) ?_
    refine qq (out:=Pr.i64 x22) (c5 (R:=Rp.int .i64) (a:=x22) ty3) ?_
    refine qq (out:=Pr.bool (x21==x22)) qInt ?_
    refine qq (out:=Pr.bool (x21==x22)) ae ?_
    exact⟨x21,x22,h2l,⟨⟨aa,aa,aa,aa,aa,aa,aa,trivial⟩,Pick.refl _⟩⟩
   replace h2l:=iteF hc20 h2l
   refine dg ?_
   obtain rfl:=ho2 _ (Option.some.inj h2l).symm
   exact⟨x14,h,⟨⟨aa,trivial⟩,Pick.refl _⟩⟩
  refine W_r ?_
  refine rq (out:=Pr.i64 x12) ag ?_
  refine rq (out:=aj (Rp.int .i64) x1) ag ?_
  refine rq (out:=Pr.i64 (x1.length:Int)) (fi rfl Tryz.underlying71) ?_
  refine rq (out:=Pr.bool (decide (x12<(x1.length:Int)))) qInt ?_
  refine rq (out:=Pr.bool (decide (x12<(x1.length:Int)))) ag ?_
  rcases bv h2l with⟨hc18,h2l⟩|⟨hc18,h2l⟩
  ·refine rqg hc18 (out:=Pr.i64 x13) ag ?_
   refine rqg hc18 (out:=aj (Rp.int .i64) x2) ag ?_
   refine rqg hc18 (out:=Pr.i64 (x2.length:Int)) (fi rfl Tryz.underlying71) ?_
   refine rqg hc18 (out:=Pr.bool (decide (x13<(x2.length:Int)))) qInt ?_
   refine rq (out:=Pr.bool (decide (x13<(x2.length:Int)))) (bu hc18) ?_
   exact⟨decide (x13<(x2.length:Int)),h2l,⟨⟨aa,aa,aa,aa,aa,aa,aa,trivial⟩,Pick.refl _⟩⟩
  refine rno (neT hc18) ?_
  refine rno (neT hc18) ?_
  refine rno (neT hc18) ?_
  refine rno (neT hc18) ?_
  refine rq (out:=Pr.bool false) (bp hc18) ?_
  exact⟨false,h2l,⟨⟨aa,aa,aa,aa,aa,aa,aa,trivial⟩,Pick.refl _⟩⟩
 refine W_r ?_
 refine rq (out:=aj (Rp.int .i64) x1) ag ?_
 refine rq (out:=Pr.i64 (x1.length:Int)) (fi rfl Tryz.underlying71) ?_
 refine rq (out:=Pr.bool (decide ((x1.length:Int)>2000))) qInt ?_
 refine rq (out:=Pr.bool (decide ((x1.length:Int)>2000))) ag ?_
 rcases bv h with⟨hc5,h⟩|⟨hc5,h⟩
 ·refine rno (neF hc5) ?_
  refine rno (neF hc5) ?_
  refine rno (neF hc5) ?_
  refine rq (out:=Pr.bool true) (bu hc5) ?_
  exact⟨true,h,⟨⟨aa,aa,aa,aa,trivial⟩,Pick.refl _⟩⟩
 refine rqg hc5 (out:=aj (Rp.int .i64) x2) ag ?_
 refine rqg hc5 (out:=Pr.i64 (x2.length:Int)) (fi rfl Tryz.underlying71) ?_
 refine rqg hc5 (out:=Pr.bool (decide ((x2.length:Int)>2000))) qInt ?_
 refine rq (out:=Pr.bool (decide ((x2.length:Int)>2000))) (bp hc5) ?_
 exact⟨decide ((x2.length:Int)>2000),h,⟨⟨aa,aa,aa,aa,trivial⟩,Pick.refl _⟩⟩
theorem lcs_Length_ok (x1 x2:List Int) (r:Int) (h:lcs_Length x1 x2=some r):FnP Tryz.prog 93 [aj (Rp.int .i64) x1,aj (Rp.int .i64) x2] (Pr.i64 r):=by
 refine bo (n:=22) (rs:=[4]) Tryz.func93 rfl Tryz.ntmps93 ⟨by decide,Tryz.results93⟩ (by decide) (fun s0=> ?_)
 unfold lcs_Length at h
 refine W_rs ?_
 refine rq (out:=Pr.i64 0) ae ?_
 refine W_rs ?_
 refine rq (out:=Pr.i64 0) ae ?_
 refine a5 ?_
 refine W_rs ?_
 refine rq (out:=aj (Rp.int .i64) x1) ag ?_
 refine rq (out:=aj (Rp.int .i64) x2) ag ?_
 obtain⟨x3,hx3,h⟩:=af h
 refine rq (out:=aj (Rp.int .i64) x3) (aw (lcs_Match_ok x1 x2 _ hx3)) ?_
 refine rq (out:=Pr.i64 (x3.length:Int)) (fi rfl Tryz.underlying71) ?_
 refine rq (out:=Pr.i64 0) ag ?_
 refine az ?_
 obtain⟨z2l,hz2,h⟩:=af h
 obtain⟨n2,hN2⟩:=cc hz2
 clear hz2
 refine du 0 (fun e C=>∃(x4:Int),lcs_Length_k1 x4=some r/\At [(5,Pr.i64 x4)] [] e C) ?_ ?_
 ·rintro e C ⟨x4,h,hat1⟩
  refine W_at hat1 ?_
  clear hat1
  unfold lcs_Length_k1 at h
  refine W_rs ?_
  refine rq (out:=Pr.i64 x4) ag ?_
  refine rq (out:=Pr.i64 x4) ae ?_
  obtain rfl:=Option.some.inj h
  exact a6 ⟨rfl,aa⟩
 refine eh (fun m e C=>∃(x4:Int),∃(x5:Int),en (fun s=>iu x3 s.1 s.2) m (x4,x5)=some z2l/\At [(5,Pr.i64 x4),(10,aj (Rp.int .i64) x3),(11,Pr.i64 (x3.length:Int)),(12,Pr.i64 x5)] [] e C) n2 ⟨0,0,hN2,⟨⟨aa,aa,aa,aa,trivial⟩,Pick.refl _⟩⟩ ?_
 clear hN2
 rintro m e C ⟨x4,x5,hN2,hatl2⟩
 refine W_at hatl2 ?_
 clear hatl2
 obtain⟨m2,w2l,rfl,h2l,hn2,ho2⟩:=bx hN2
 clear hN2
 replace h2l:iu x3 x4 x5=some w2l:=h2l
 unfold iu at h2l
 refine W_rs ?_
 refine rq (out:=Pr.bool (decide (x5<(x3.length:Int)))) qInt ?_
 refine a5 ?_
 refine ao (b:=decide (x5<(x3.length:Int))) rfl (fun hc8=> ?_) (fun hc8=> ?_)
 ·replace h2l:=iteT hc8 h2l
  refine au ?_
  refine bc (fun e C=>∃(x11:Int),lcs_Length_j3 x5 x11=some w2l/\At [(5,Pr.i64 x11),(10,aj (Rp.int .i64) x3),(11,Pr.i64 (x3.length:Int)),(12,Pr.i64 x5)] [] e C) ?_ ?_
  ·rintro e C ⟨x11,h2l,hat3⟩
   refine W_at hat3 ?_
   clear hat3
   unfold lcs_Length_j3 at h2l
   refine W_r ?_
   refine rq (out:=Pr.i64 (w64 (x5+1))) qInt ?_
   refine rq (out:=Pr.i64 (w64 (x5+1))) ag ?_
   exact⟨m2,Nat.lt_succ_self _,x11,w64 (x5+1),hn2 _ (Option.some.inj h2l).symm,⟨⟨aa,aa,aa,aa,trivial⟩,Pick.refl _⟩⟩
  refine az ?_
  refine W_rs ?_
  obtain⟨x9,hx9,h2l⟩:=af h2l
  refine rq (out:=bj (Rp.int .i64) x9) (ef (R:=Rp.int .i64) (l:=x3) Tryz.underlying71 Tryz.sizeOf3 hx9) ?_
  refine rq (out:=Pr.i64 x9) (c5 (R:=Rp.int .i64) (a:=x9) ty3) ?_
  refine rq (out:=Pr.i64 x9) ae ?_
  refine W_rs ?_
  refine rq (out:=Pr.i64 x9) ag ?_
  refine rq (out:=Pr.bool (decide (x9≥0))) qInt ?_
  refine ao (b:=decide (x9≥0)) rfl (fun hc10=> ?_) (fun hc10=> ?_)
  ·replace h2l:=iteT hc10 h2l
   refine W_r ?_
   refine rq (out:=Pr.i64 x4) ag ?_
   refine rq (out:=Pr.i64 (w64 (x4+1))) qInt ?_
   refine rq (out:=Pr.i64 (w64 (x4+1))) ae ?_
   exact⟨w64 (x4+1),h2l,⟨⟨aa,aa,aa,aa,trivial⟩,Pick.refl _⟩⟩
  replace h2l:=iteF hc10 h2l
  refine au ?_
  exact⟨x4,h2l,⟨⟨aa,aa,aa,aa,trivial⟩,Pick.refl _⟩⟩
 replace h2l:=iteF hc8 h2l
 refine dg ?_
 obtain rfl:=ho2 _ (Option.some.inj h2l).symm
 exact⟨x4,h,⟨⟨aa,trivial⟩,Pick.refl _⟩⟩
theorem lcs_Percent_ok (x1 x2:List Int) (r:Int) (h:lcs_Percent x1 x2=some r):FnP Tryz.prog 69 [aj (Rp.int .i64) x1,aj (Rp.int .i64) x2] (Pr.i64 r):=by
 refine bo (n:=21) (rs:=[4]) Tryz.func69 rfl Tryz.ntmps69 ⟨by decide,Tryz.results69⟩ (by decide) (fun s0=> ?_)
 unfold lcs_Percent at h
 refine W_rs ?_
 refine rq (out:=Pr.i64 0) ae ?_
 refine a5 ?_
 refine W_rs ?_
 refine rq (out:=aj (Rp.int .i64) x1) ag ?_
 refine rq (out:=Pr.i64 (x1.length:Int)) (fi rfl Tryz.underlying71) ?_
 refine rq (out:=aj (Rp.int .i64) x2) ag ?_
 refine rq (out:=Pr.i64 (x2.length:Int)) (fi rfl Tryz.underlying71) ?_
 refine rq (out:=Pr.i64 (w64 ((x1.length:Int)+(x2.length:Int)))) qInt ?_
 refine rq (out:=Pr.bool ((w64 ((x1.length:Int)+(x2.length:Int)))==0)) qInt ?_
 refine ao (b:=(w64 ((x1.length:Int)+(x2.length:Int)))==0) rfl (fun hc3=> ?_) (fun hc3=> ?_)
 ·replace h:=iteT hc3 h
  refine W_rs ?_
  refine rq (out:=Pr.i64 100) ae ?_
  obtain rfl:=Option.some.inj h
  exact a6 ⟨rfl,aa⟩
 replace h:=iteF hc3 h
 refine au ?_
 refine W_rs ?_
 refine rq (out:=aj (Rp.int .i64) x1) ag ?_
 refine rq (out:=aj (Rp.int .i64) x2) ag ?_
 obtain⟨x4,hx4,h⟩:=af h
 refine rq (out:=Pr.i64 x4) (aw (lcs_Length_ok x1 x2 _ hx4)) ?_
 refine rq (out:=Pr.i64 (w64 (200 * x4))) qInt ?_
 refine rq (out:=aj (Rp.int .i64) x1) ag ?_
 refine rq (out:=Pr.i64 (x1.length:Int)) (fi rfl Tryz.underlying71) ?_
 refine rq (out:=aj (Rp.int .i64) x2) ag ?_
 refine rq (out:=Pr.i64 (x2.length:Int)) (fi rfl Tryz.underlying71) ?_
 refine rq (out:=Pr.i64 (w64 ((x1.length:Int)+(x2.length:Int)))) qInt ?_
 obtain⟨_,hx5,h⟩:=af h
 refine rq (out:=Pr.i64 (w64 (Int.tdiv (w64 (200 * x4)) (w64 ((x1.length:Int)+(x2.length:Int)))))) (qDiv (nz_some hx5)) ?_
 refine rq (out:=Pr.i64 (w64 (Int.tdiv (w64 (200 * x4)) (w64 ((x1.length:Int)+(x2.length:Int)))))) ae ?_
 obtain rfl:=Option.some.inj h
 exact a6 ⟨rfl,aa⟩
theorem shape_alike_ok (x1 x2:List (List UInt8)) (r:Int) (h:shape_alike x1 x2=some r):FnP Tryz.prog 44 [aj am x1,aj am x2] (Pr.i64 r):=by
 refine bo (n:=17) (rs:=[4]) Tryz.func44 rfl Tryz.ntmps44 ⟨by decide,Tryz.results44⟩ (by decide) (fun s0=> ?_)
 unfold shape_alike at h
 refine W_rs ?_
 refine rq (out:=Pr.i64 0) ae ?_
 refine W_rs ?_
 refine rq (out:=aj am x1) ag ?_
 refine rq (out:=aj am x2) ag ?_
 refine rq (out:=aj (a9 am) ([x1,x2]:List (List (List UInt8)))) (fo (R:=a9 am) (ls:=([x1,x2]:List (List (List UInt8)))) el69 (Nat.le_of_ble_eq_true rfl) ⟨rfl,rfl⟩ ⟨rfl,rfl,trivial⟩) ?_
 obtain⟨x3,hx3,h⟩:=af h
 refine rq (out:=aj (a9 (Rp.int .i64)) x3) (aw (lcs_Numbers_ok ([x1,x2]:List (List (List UInt8))) _ hx3)) ?_
 refine rq (out:=aj (a9 (Rp.int .i64)) x3) ae ?_
 refine bc (fun e C=>∃(x6:Int),shape_alike_j1 x6=some r/\At [(4,Pr.i64 x6)] [] e C) ?_ ?_
 ·rintro e C ⟨x6,h,hat1⟩
  refine W_at hat1 ?_
  clear hat1
  unfold shape_alike_j1 at h
  obtain rfl:=Option.some.inj h
  exact a6 ⟨rfl,aa⟩
 refine jm 8 hmx (by kernel_rfl) (by kernel_rfl) ?_
 refine qq (out:=aj (a9 (Rp.int .i64)) x3) ag ?_
 obtain⟨x4,hx4,h⟩:=af h
 refine qq (out:=bj (a9 (Rp.int .i64)) x4) (ef (R:=a9 (Rp.int .i64)) (l:=x3) Tryz.underlying67 Tryz.sizeOf71 hx4) ?_
 refine qq (out:=aj (Rp.int .i64) x4) (c5 (R:=a9 (Rp.int .i64)) (a:=x4) ty71) ?_
 refine qq (out:=aj (a9 (Rp.int .i64)) x3) ag ?_
 obtain⟨x5,hx5,h⟩:=af h
 refine qq (out:=bj (a9 (Rp.int .i64)) x5) (ef (R:=a9 (Rp.int .i64)) (l:=x3) Tryz.underlying67 Tryz.sizeOf71 hx5) ?_
 refine qq (out:=aj (Rp.int .i64) x5) (c5 (R:=a9 (Rp.int .i64)) (a:=x5) ty71) ?_
 obtain⟨x6,hx6,h⟩:=af h
 refine qq (out:=Pr.i64 x6) (aw (lcs_Percent_ok x4 x5 _ hx6)) ?_
 refine qq (out:=Pr.i64 x6) ae ?_
 exact⟨x6,h,⟨⟨aa,trivial⟩,Pick.refl _⟩⟩
theorem ik (x1 x2:ApiNode) (x3:List (List UInt8)) (r:Int) (h:fv x1 x2 x3=some r):FnP Tryz.prog 18 [(ab).val x1,(ab).val x2,aj am x3] (Pr.i64 r):=by
 refine bo (n:=14) (rs:=[6]) Tryz.func18 rfl Tryz.ntmps18 ⟨by decide,Tryz.results18⟩ (by decide) (fun s0=> ?_)
 unfold fv at h
 refine W_rs ?_
 refine rBox (R:=ab) (a:=x1) rfl (fun b4=> ?_)
 refine rBox (R:=ab) (a:=x2) rfl (fun b5=> ?_)
 refine rq (out:=Pr.i64 0) ae ?_
 refine bc (fun e C=>∃(x8:Int),shape_Percent_j1 x8=some r/\At [(6,Pr.i64 x8)] [Own.box b4 ab x1,Own.box b5 ab x2] e C) ?_ ?_
 ·rintro e C ⟨x8,h,hat1⟩
  refine W_at hat1 ?_
  clear hat1
  unfold shape_Percent_j1 at h
  obtain rfl:=Option.some.inj h
  exact a6 ⟨rfl,aa⟩
 refine jm 8 hmx (by kernel_rfl) (by kernel_rfl) ?_
 refine qq (out:=(ab).val x1) (a8 (R:=ab) (a:=x1) (R':=ab) 0 ty24 (Sub.refl _)) ?_
 refine qq (out:=aj am x3) ag ?_
 obtain⟨x6,hx6,h⟩:=af h
 refine qq (out:=aj am x6) (aw (lm x1 x3 _ hx6)) ?_
 refine qq (out:=(ab).val x2) (a8 (R:=ab) (a:=x2) (R':=ab) 1 ty24 (Sub.refl _)) ?_
 refine qq (out:=aj am x3) ag ?_
 obtain⟨x7,hx7,h⟩:=af h
 refine qq (out:=aj am x7) (aw (lm x2 x3 _ hx7)) ?_
 obtain⟨x8,hx8,h⟩:=af h
 refine qq (out:=Pr.i64 x8) (aw (shape_alike_ok x6 x7 _ hx8)) ?_
 refine qq (out:=Pr.i64 x8) ae ?_
 exact⟨x8,h,⟨⟨aa,trivial⟩,Pick.refl _⟩⟩
theorem shape_Best_ok (x1:ApiNode) (x2:List ApiNode) (x3:List (List UInt8)) (x4 r:Int) (h:shape_Best x1 x2 x3 x4=some r):FnP Tryz.prog 20 [(ab).val x1,aj ab x2,aj am x3,Pr.i64 x4] (Pr.i64 r):=by
 refine bo (n:=47) (rs:=[8]) Tryz.func20 rfl Tryz.ntmps20 ⟨by decide,Tryz.results20⟩ (by decide) (fun s0=> ?_)
 unfold shape_Best at h
 refine W_rs ?_
 refine rBox (R:=ab) (a:=x1) rfl (fun b5=> ?_)
 refine rq (out:=Pr.i64 0) ae ?_
 refine W_rs ?_
 refine rq (out:=(ab).val x1) (a8 (R:=ab) (a:=x1) (R':=ab) 0 ty24 (Sub.refl _)) ?_
 refine rq (out:=aj am x3) ag ?_
 obtain⟨x6,hx6,h⟩:=af h
 refine rq (out:=aj am x6) (aw (lm x1 x3 _ hx6)) ?_
 refine rq (out:=aj am x6) ae ?_
 refine W_rs ?_
 refine rq (out:=Pr.i64 (-1)) ae ?_
 refine rq (out:=Pr.i64 (-1)) ae ?_
 refine a5 ?_
 refine W_rs ?_
 refine rq (out:=aj ab x2) ag ?_
 refine rq (out:=Pr.i64 (x2.length:Int)) (fi rfl Tryz.underlying22) ?_
 refine rq (out:=Pr.i64 0) ag ?_
 refine az ?_
 obtain⟨z2l,hz2,h⟩:=af h
 obtain⟨n2,hN2⟩:=cc hz2
 clear hz2
 refine du 0 (fun e C=>∃(x7:Int),shape_Best_k1 x7=some r/\At [(10,Pr.i64 x7)] [Own.box b5 ab x1] e C) ?_ ?_
 ·rintro e C ⟨x7,h,hat1⟩
  refine W_at hat1 ?_
  clear hat1
  unfold shape_Best_k1 at h
  refine W_rs ?_
  refine rq (out:=Pr.i64 x7) ag ?_
  refine rq (out:=Pr.i64 x7) ae ?_
  obtain rfl:=Option.some.inj h
  exact a6 ⟨rfl,aa⟩
 refine eh (fun m e C=>∃(x7:Int),∃(x8:Int),∃(x9:Int),en (fun s=>shape_Best_l2 x2 x1 x3 x6 x4 s.1 s.2.1 s.2.2) m (x7,x8,x9)=some z2l/\At [(2,aj am x3),(3,Pr.i64 x4),(4,ap b5 0),(9,aj am x6),(10,Pr.i64 x7),(11,Pr.i64 x8),(18,aj ab x2),(19,Pr.i64 (x2.length:Int)),(20,Pr.i64 x9)] [Own.box b5 ab x1] e C) n2 ⟨(-1),(-1),0,hN2,⟨⟨aa,aa,aa,aa,aa,aa,aa,aa,aa,trivial⟩,Pick.refl _⟩⟩ ?_
 clear hN2
 rintro m e C ⟨x7,x8,x9,hN2,hatl2⟩
 refine W_at hatl2 ?_
 clear hatl2
 obtain⟨m2,w2l,rfl,h2l,hn2,ho2⟩:=bx hN2
 clear hN2
 replace h2l:shape_Best_l2 x2 x1 x3 x6 x4 x7 x8 x9=some w2l:=h2l
 unfold shape_Best_l2 at h2l
 refine W_rs ?_
 refine rq (out:=Pr.bool (decide (x9<(x2.length:Int)))) qInt ?_
 refine a5 ?_
 refine ao (b:=decide (x9<(x2.length:Int))) rfl (fun hc13=> ?_) (fun hc13=> ?_)
 ·replace h2l:=iteT hc13 h2l
  refine au ?_
  refine bc (fun e C=>∃(x22:Int),∃(x23:Int),∃(x14:ApiNode),∃(b15:Nat),shape_Best_j3 x9 x22 x23 x14=some w2l/\At [(2,aj am x3),(3,Pr.i64 x4),(4,ap b5 0),(9,aj am x6),(10,Pr.i64 x22),(11,Pr.i64 x23),(18,aj ab x2),(19,Pr.i64 (x2.length:Int)),(20,Pr.i64 x9)] [Own.box b5 ab x1,Own.box b15 ab x14] e C) ?_ ?_
  ·rintro e C ⟨x22,x23,x14,b15,h2l,hat3⟩
   refine W_at hat3 ?_
   clear hat3
   unfold shape_Best_j3 at h2l
   refine W_r ?_
   refine rq (out:=Pr.i64 (w64 (x9+1))) qInt ?_
   refine rq (out:=Pr.i64 (w64 (x9+1))) ag ?_
   exact⟨m2,Nat.lt_succ_self _,x22,x23,w64 (x9+1),hn2 _ (Option.some.inj h2l).symm,⟨⟨aa,aa,aa,aa,aa,aa,aa,aa,aa,trivial⟩,Pick.of [0] rfl⟩⟩
  refine az ?_
  refine W_rs ?_
  refine rq (out:=Pr.i64 x9) ag ?_
  obtain⟨x14,hx14,h2l⟩:=af h2l
  refine rq (out:=bj ab x14) (ef (R:=ab) (l:=x2) Tryz.underlying22 Tryz.sizeOf24 hx14) ?_
  refine rq (out:=(ab).val x14) (c5 (R:=ab) (a:=x14) ty24) ?_
  refine cb (R:=ab) (z:=(ApiNode.mk 0 [] [] 0 0 0 0 0 [])) Tryz.zeroValue24 (fun _=>(by rw[al];exact⟨_,⟨_,_,rfl,rfl,⟨_,_,rfl,rfl,⟨_,_,rfl,rfl,⟨_,_,rfl,rfl,⟨_,_,rfl,rfl,⟨_,_,rfl,rfl,⟨_,_,rfl,rfl,⟨_,_,rfl,rfl,⟨_,_,rfl,⟨_,rfl,none,0,rfl,⟨Nat.le_refl _,fun _=>rfl⟩,.inl rfl⟩,rfl⟩⟩⟩⟩⟩⟩⟩⟩⟩,rfl⟩)) (fun b15=> ?_)
  refine rq (out:=Pr.i64 x9) ae ?_
  refine aq (R:=ab) (R':=ab) (a:=(ApiNode.mk 0 [] [] 0 0 0 0 0 [])) (y:=x14) 1 Tryz.sizeOf24 (Upd.refl _) ?_
  refine a5 ?_
  refine W_rs ?_
  refine rq (out:=ap b15 0) (a4 md) ?_
  refine rq (out:=Pr.i64 x14.Kind) (a8 (R:=ab) (a:=x14) (R':=Rp.int .i64) 1 ty3 c8) ?_
  refine rq (out:=ap b5 0) (a4 md) ?_
  refine rq (out:=Pr.i64 x1.Kind) (a8 (R:=ab) (a:=x1) (R':=Rp.int .i64) 0 ty3 c8) ?_
  refine rq (out:=Pr.bool (x14.Kind != x1.Kind)) qInt ?_
  refine ao (b:=x14.Kind != x1.Kind) rfl (fun hc16=> ?_) (fun hc16=> ?_)
  ·replace h2l:=iteT hc16 h2l
   refine dg ?_
   exact⟨x7,x8,x14,b15,h2l,⟨⟨aa,aa,aa,aa,aa,aa,aa,aa,aa,trivial⟩,Pick.refl _⟩⟩
  replace h2l:=iteF hc16 h2l
  refine au ?_
  refine W_rs ?_
  refine rq (out:=aj am x6) ag ?_
  refine rq (out:=(ab).val x14) (a8 (R:=ab) (a:=x14) (R':=ab) 1 ty24 (Sub.refl _)) ?_
  refine rq (out:=aj am x3) ag ?_
  obtain⟨x17,hx17,h2l⟩:=af h2l
  refine rq (out:=aj am x17) (aw (lm x14 x3 _ hx17)) ?_
  obtain⟨x18,hx18,h2l⟩:=af h2l
  refine rq (out:=Pr.i64 x18) (aw (shape_alike_ok x6 x17 _ hx18)) ?_
  refine rq (out:=Pr.i64 x18) ae ?_
  refine bc (fun e C=>∃(x20:Bool),shape_Best_j4 x9 x18 x14 x7 x8 x20=some w2l/\At [(2,aj am x3),(3,Pr.i64 x4),(4,ap b5 0),(9,aj am x6),(10,Pr.i64 x7),(11,Pr.i64 x8),(12,Pr.i64 x9),(14,Pr.i64 x18),(18,aj ab x2),(19,Pr.i64 (x2.length:Int)),(20,Pr.i64 x9),(42,Pr.bool x20)] [Own.box b5 ab x1,Own.box b15 ab x14] e C) ?_ ?_
  ·rintro e C ⟨x20,h2l,hat4⟩
   refine W_at hat4 ?_
   clear hat4
   unfold shape_Best_j4 at h2l
   refine ao (b:=x20) rfl (fun hc21=> ?_) (fun hc21=> ?_)
   ·replace h2l:=iteT hc21 h2l
    refine W_r ?_
    refine rq (out:=Pr.i64 x9) ag ?_
    refine rq (out:=Pr.i64 x18) ag ?_
    refine rq (out:=Pr.i64 x9) ae ?_
    refine rq (out:=Pr.i64 x18) ae ?_
    exact⟨x9,x18,x14,b15,h2l,⟨⟨aa,aa,aa,aa,aa,aa,aa,aa,aa,trivial⟩,Pick.refl _⟩⟩
   replace h2l:=iteF hc21 h2l
   refine au ?_
   exact⟨x7,x8,x14,b15,h2l,⟨⟨aa,aa,aa,aa,aa,aa,aa,aa,aa,trivial⟩,Pick.refl _⟩⟩
  refine W_r ?_
  refine rq (out:=Pr.i64 x18) ag ?_
  refine rq (out:=Pr.i64 x4) ag ?_
  refine rq (out:=Pr.bool (decide (x18≥x4))) qInt ?_
  refine rq (out:=Pr.bool (decide (x18≥x4))) ag ?_
  rcases bv h2l with⟨hc19,h2l⟩|⟨hc19,h2l⟩
  ·refine rqg hc19 (out:=Pr.i64 x18) ag ?_
   refine rqg hc19 (out:=Pr.i64 x8) ag ?_
   refine rqg hc19 (out:=Pr.bool (decide (x18>x8))) qInt ?_
   refine rq (out:=Pr.bool (decide (x18>x8))) (bu hc19) ?_
   exact⟨decide (x18>x8),h2l,⟨⟨aa,aa,aa,aa,aa,aa,aa,aa,aa,aa,aa,aa,trivial⟩,Pick.refl _⟩⟩
  refine rno (neT hc19) ?_
  refine rno (neT hc19) ?_
  refine rno (neT hc19) ?_
  refine rq (out:=Pr.bool false) (bp hc19) ?_
  exact⟨false,h2l,⟨⟨aa,aa,aa,aa,aa,aa,aa,aa,aa,aa,aa,aa,trivial⟩,Pick.refl _⟩⟩
 replace h2l:=iteF hc13 h2l
 refine dg ?_
 obtain rfl:=ho2 _ (Option.some.inj h2l).symm
 exact⟨x7,h,⟨⟨aa,trivial⟩,Pick.refl _⟩⟩
theorem law14_awake_ok (r:Bool) (h:law14_awake=some r):FnP Tryz.prog 7 [] (Pr.bool r):=by
 refine bo (n:=51) (rs:=[0]) Tryz.func7 rfl Tryz.ntmps7 ⟨by decide,Tryz.results7⟩ (by decide) (fun s0=> ?_)
 unfold law14_awake at h
 refine W_rs ?_
 refine rq (out:=Pr.bool false) ae ?_
 refine W_rs ?_
 obtain⟨⟨x1,x2⟩,hx1,h⟩:=af h
 refine rq (out:=bh [(ab).val x1,(ay).val x2]) (aw (ref12_One_ok ([105,110,116,32,102,40,41,123,114,101,116,117,114,110,32,102,40,41,59,125]:List UInt8) 1 _ hx1)) ?_
 refine rq (out:=bh [(ab).val x1,(ay).val x2]) ag ?_
 refine rq (out:=(ab).val x1) ar ?_
 refine rq (out:=(ay).val x2) ar ?_
 refine cb (R:=ab) (z:=(ApiNode.mk 0 [] [] 0 0 0 0 0 [])) Tryz.zeroValue24 (fun _=>(by rw[al];exact⟨_,⟨_,_,rfl,rfl,⟨_,_,rfl,rfl,⟨_,_,rfl,rfl,⟨_,_,rfl,rfl,⟨_,_,rfl,rfl,⟨_,_,rfl,rfl,⟨_,_,rfl,rfl,⟨_,_,rfl,rfl,⟨_,_,rfl,⟨_,rfl,none,0,rfl,⟨Nat.le_refl _,fun _=>rfl⟩,.inl rfl⟩,rfl⟩⟩⟩⟩⟩⟩⟩⟩⟩,rfl⟩)) (fun b3=> ?_)
 refine cb (R:=ay) (z:=(ApiMistake.mk 0 0 0)) Tryz.zeroValue36 (fun _=>⟨_,⟨_,_,rfl,rfl,⟨_,_,rfl,rfl,⟨_,_,rfl,rfl,rfl⟩⟩⟩,rfl⟩) (fun b4=> ?_)
 refine aq (R:=ab) (R':=ab) (a:=(ApiNode.mk 0 [] [] 0 0 0 0 0 [])) (y:=x1) 0 Tryz.sizeOf24 (Upd.refl _) ?_
 refine aq (R:=ay) (R':=ay) (a:=(ApiMistake.mk 0 0 0)) (y:=x2) 1 Tryz.sizeOf36 (Upd.refl _) ?_
 refine W_rs ?_
 obtain⟨⟨x5,x6⟩,hx5,h⟩:=af h
 refine rq (out:=bh [(ab).val x5,(ay).val x6]) (aw (ref12_One_ok ([105,110,116,32,103,40,41,123,114,101,116,117,114,110,32,103,40,41,59,125]:List UInt8) 1 _ hx5)) ?_
 refine rq (out:=bh [(ab).val x5,(ay).val x6]) ag ?_
 refine rq (out:=(ab).val x5) ar ?_
 refine rq (out:=(ay).val x6) ar ?_
 refine cb (R:=ab) (z:=(ApiNode.mk 0 [] [] 0 0 0 0 0 [])) Tryz.zeroValue24 (fun _=>(by rw[al];exact⟨_,⟨_,_,rfl,rfl,⟨_,_,rfl,rfl,⟨_,_,rfl,rfl,⟨_,_,rfl,rfl,⟨_,_,rfl,rfl,⟨_,_,rfl,rfl,⟨_,_,rfl,rfl,⟨_,_,rfl,rfl,⟨_,_,rfl,⟨_,rfl,none,0,rfl,⟨Nat.le_refl _,fun _=>rfl⟩,.inl rfl⟩,rfl⟩⟩⟩⟩⟩⟩⟩⟩⟩,rfl⟩)) (fun b7=> ?_)
 refine cb (R:=ay) (z:=(ApiMistake.mk 0 0 0)) Tryz.zeroValue36 (fun _=>⟨_,⟨_,_,rfl,rfl,⟨_,_,rfl,rfl,⟨_,_,rfl,rfl,rfl⟩⟩⟩,rfl⟩) (fun b8=> ?_)
 refine aq (R:=ab) (R':=ab) (a:=(ApiNode.mk 0 [] [] 0 0 0 0 0 [])) (y:=x5) 2 Tryz.sizeOf24 (Upd.refl _) ?_
 refine aq (R:=ay) (R':=ay) (a:=(ApiMistake.mk 0 0 0)) (y:=x6) 3 Tryz.sizeOf36 (Upd.refl _) ?_
 refine bc (fun e C=>∃(x72:Bool),gv x72=some r/\At [(0,Pr.bool x72)] [Own.box b3 ab x1,Own.box b4 ay x2,Own.box b7 ab x5,Own.box b8 ay x6] e C) ?_ ?_
 ·rintro e C ⟨x72,h,hat1⟩
  refine W_at hat1 ?_
  clear hat1
  unfold gv at h
  obtain rfl:=Option.some.inj h
  exact a6 ⟨rfl,aa⟩
 refine W_r ?_
 refine rq (out:=(ab).val x1) (a8 (R:=ab) (a:=x1) (R':=ab) 0 ty24 (Sub.refl _)) ?_
 refine rq (out:=aj am ([([102]:List UInt8)]:List (List UInt8))) (cr (R:=am) (a:=([102]:List UInt8)) el25 (Nat.le_of_ble_eq_true rfl)) ?_
 obtain⟨x9,hx9,h⟩:=af h
 refine rq (out:=ai x9) (aw (shape_Of_ok x1 ([([102]:List UInt8)]:List (List UInt8)) _ hx9)) ?_
 refine rq (out:=Pr.bool (x9==([32,32,105,110,116,32,95,40,41,32,123,10,32,32,32,32,114,101,116,117,114,110,32,95,40,41,59,10,32,32,125,10]:List UInt8))) qStr ?_
 refine rq (out:=Pr.bool (x9==([32,32,105,110,116,32,95,40,41,32,123,10,32,32,32,32,114,101,116,117,114,110,32,95,40,41,59,10,32,32,125,10]:List UInt8))) ag ?_
 rcases bv h with⟨hc10,h⟩|⟨hc10,h⟩
 ·refine rqg hc10 (out:=(ab).val x1) (a8 (R:=ab) (a:=x1) (R':=ab) 0 ty24 (Sub.refl _)) ?_
  refine rqg hc10 (out:=(ab).val x5) (a8 (R:=ab) (a:=x5) (R':=ab) 2 ty24 (Sub.refl _)) ?_
  refine rqg hc10 (out:=aj am ([([102]:List UInt8),([103]:List UInt8)]:List (List UInt8))) (fo (R:=am) (ls:=([([102]:List UInt8),([103]:List UInt8)]:List (List UInt8))) el25 (Nat.le_of_ble_eq_true rfl) ⟨rfl,rfl⟩ ⟨rfl,rfl,trivial⟩) ?_
  obtain⟨x11,hx11,h⟩:=af h
  refine rqg hc10 (out:=Pr.i64 x11) (aw (ik x1 x5 ([([102]:List UInt8),([103]:List UInt8)]:List (List UInt8)) _ hx11)) ?_
  refine rqg hc10 (out:=Pr.bool (x11==100)) qInt ?_
  refine rq (out:=Pr.bool (x11==100)) (bu hc10) ?_
  refine rq (out:=Pr.bool (x11==100)) ag ?_
  rcases bv h with⟨hc12,h⟩|⟨hc12,h⟩
  ·refine rqg hc12 (out:=(ab).val x1) (a8 (R:=ab) (a:=x1) (R':=ab) 0 ty24 (Sub.refl _)) ?_
   refine rqg hc12 (out:=(ab).val x5) (a8 (R:=ab) (a:=x5) (R':=ab) 2 ty24 (Sub.refl _)) ?_
   obtain⟨x13,hx13,h⟩:=af h
   refine rqg hc12 (out:=Pr.i64 x13) (mc (ik x1 x5 [] _ hx13) ⟨aa,aa,da _,trivial⟩) ?_
   refine rqg hc12 (out:=Pr.bool (decide (x13<100))) qInt ?_
   refine rq (out:=Pr.bool (decide (x13<100))) (bu hc12) ?_
   refine rq (out:=Pr.bool (decide (x13<100))) ag ?_
   rcases bv h with⟨hc14,h⟩|⟨hc14,h⟩
   ·refine rqg hc14 (out:=(ab).val x1) (a8 (R:=ab) (a:=x1) (R':=ab) 0 ty24 (Sub.refl _)) ?_
    obtain⟨x15,hx15,h⟩:=af h
    refine rqg hc14 (out:=aj am x15) (mc (lm x1 [] _ hx15) ⟨aa,da _,trivial⟩) ?_
    refine rqg hc14 (out:=Pr.i64 (x15.length:Int)) (fi rfl Tryz.underlying25) ?_
    refine rqg hc14 (out:=Pr.bool ((x15.length:Int)==11)) qInt ?_
    refine rq (out:=Pr.bool ((x15.length:Int)==11)) (bu hc14) ?_
    refine rq (out:=Pr.bool ((x15.length:Int)==11)) ag ?_
    rcases bv h with⟨hc16,h⟩|⟨hc16,h⟩
    ·refine rqg hc16 (out:=(ab).val x1) (a8 (R:=ab) (a:=x1) (R':=ab) 0 ty24 (Sub.refl _)) ?_
     refine rqg hc16 (out:=(ab).val x5) (a8 (R:=ab) (a:=x5) (R':=ab) 2 ty24 (Sub.refl _)) ?_
     refine rqg hc16 (out:=(ab).val x1) (a8 (R:=ab) (a:=x1) (R':=ab) 0 ty24 (Sub.refl _)) ?_
     refine rqg hc16 (out:=aj ab ([x5,x1]:List ApiNode)) (fo (R:=ab) (ls:=([x5,x1]:List ApiNode)) el22 (Nat.le_of_ble_eq_true rfl) ⟨rfl,rfl⟩ ⟨rfl,rfl,trivial⟩) ?_
     obtain⟨x17,hx17,h⟩:=af h
     refine rqg hc16 (out:=Pr.i64 x17) (mc (shape_Best_ok x1 ([x5,x1]:List ApiNode) [] 50 _ hx17) ⟨aa,aa,da _,aa,trivial⟩) ?_
     refine rqg hc16 (out:=Pr.bool (x17==1)) qInt ?_
     refine rq (out:=Pr.bool (x17==1)) (bu hc16) ?_
     refine rq (out:=Pr.bool (x17==1)) ag ?_
     rcases bv h with⟨hc18,h⟩|⟨hc18,h⟩
     ·refine rqg hc18 (out:=(ab).val x1) (a8 (R:=ab) (a:=x1) (R':=ab) 0 ty24 (Sub.refl _)) ?_
      refine rqg hc18 (out:=aj am ([([102]:List UInt8)]:List (List UInt8))) (cr (R:=am) (a:=([102]:List UInt8)) el25 (Nat.le_of_ble_eq_true rfl)) ?_
      obtain⟨x19,hx19,h⟩:=af h
      refine rqg hc18 (out:=(ab).val x19) (aw (shape_Erase_ok x1 ([([102]:List UInt8)]:List (List UInt8)) _ hx19)) ?_
      refine rqg hc18 (out:=ai x19.Text) (qField (R:=ab) (R':=am) (a:=x19) rfl gl ct (Nat.le_of_ble_eq_true rfl)) ?_
      refine rqg hc18 (out:=Pr.bool (x19.Text==([95]:List UInt8))) qStr ?_
      refine rq (out:=Pr.bool (x19.Text==([95]:List UInt8))) (bu hc18) ?_
      refine rq (out:=Pr.bool (x19.Text==([95]:List UInt8))) ae ?_
      exact⟨x19.Text==([95]:List UInt8),h,⟨⟨aa,trivial⟩,Pick.refl _⟩⟩
     refine rno (neT hc18) ?_
     refine rno (neT hc18) ?_
     refine rno (neT hc18) ?_
     refine rno (neT hc18) ?_
     refine rno (neT hc18) ?_
     refine rq (out:=Pr.bool false) (bp hc18) ?_
     refine rq (out:=Pr.bool false) ae ?_
     exact⟨false,h,⟨⟨aa,trivial⟩,Pick.refl _⟩⟩
    refine rno (neT hc16) ?_
    refine rno (neT hc16) ?_
    refine rno (neT hc16) ?_
    refine rno (neT hc16) ?_
    refine rno (neT hc16) ?_
    refine rno (neT hc16) ?_
    refine rq (out:=Pr.bool false) (bp hc16) ?_
    refine rq (out:=Pr.bool false) ag ?_
    have hc20:false=false:=rfl
    refine rno (neT hc20) ?_
    refine rno (neT hc20) ?_
    refine rno (neT hc20) ?_
    refine rno (neT hc20) ?_
    refine rno (neT hc20) ?_
    refine rq (out:=Pr.bool false) (bp hc20) ?_
    refine rq (out:=Pr.bool false) ae ?_
    exact⟨false,h,⟨⟨aa,trivial⟩,Pick.refl _⟩⟩
   refine rno (neT hc14) ?_
   refine rno (neT hc14) ?_
   refine rno (neT hc14) ?_
   refine rno (neT hc14) ?_
   refine rq (out:=Pr.bool false) (bp hc14) ?_
   refine rq (out:=Pr.bool false) ag ?_
   have hc22:false=false:=rfl
   refine rno (neT hc22) ?_
   refine rno (neT hc22) ?_
   refine rno (neT hc22) ?_
   refine rno (neT hc22) ?_
   refine rno (neT hc22) ?_
   refine rno (neT hc22) ?_
   refine rq (out:=Pr.bool false) (bp hc22) ?_
   refine rq (out:=Pr.bool false) ag ?_
   have hc26:false=false:=rfl
   refine rno (neT hc26) ?_
   refine rno (neT hc26) ?_
   refine rno (neT hc26) ?_
   refine rno (neT hc26) ?_
   refine rno (neT hc26) ?_
   refine rq (out:=Pr.bool false) (bp hc26) ?_
   refine rq (out:=Pr.bool false) ae ?_
   exact⟨false,h,⟨⟨aa,trivial⟩,Pick.refl _⟩⟩
  refine rno (neT hc12) ?_
  refine rno (neT hc12) ?_
  refine rno (neT hc12) ?_
  refine rno (neT hc12) ?_
  refine rq (out:=Pr.bool false) (bp hc12) ?_
  refine rq (out:=Pr.bool false) ag ?_
  have hc28:false=false:=rfl
  refine rno (neT hc28) ?_
  refine rno (neT hc28) ?_
  refine rno (neT hc28) ?_
  refine rno (neT hc28) ?_
  refine rq (out:=Pr.bool false) (bp hc28) ?_
  refine rq (out:=Pr.bool false) ag ?_
  have hc36:false=false:=rfl
  refine rno (neT hc36) ?_
  refine rno (neT hc36) ?_
  refine rno (neT hc36) ?_
  refine rno (neT hc36) ?_
  refine rno (neT hc36) ?_
  refine rno (neT hc36) ?_
  refine rq (out:=Pr.bool false) (bp hc36) ?_
  refine rq (out:=Pr.bool false) ag ?_
  have hc40:false=false:=rfl
  refine rno (neT hc40) ?_
  refine rno (neT hc40) ?_
  refine rno (neT hc40) ?_
  refine rno (neT hc40) ?_
  refine rno (neT hc40) ?_
  refine rq (out:=Pr.bool false) (bp hc40) ?_
  refine rq (out:=Pr.bool false) ae ?_
  exact⟨false,h,⟨⟨aa,trivial⟩,Pick.refl _⟩⟩
 refine rno (neT hc10) ?_
 refine rno (neT hc10) ?_
 refine rno (neT hc10) ?_
 refine rno (neT hc10) ?_
 refine rno (neT hc10) ?_
 refine rq (out:=Pr.bool false) (bp hc10) ?_
 refine rq (out:=Pr.bool false) ag ?_
 have hc42:false=false:=rfl
 refine rno (neT hc42) ?_
 refine rno (neT hc42) ?_
 refine rno (neT hc42) ?_
 refine rno (neT hc42) ?_
 refine rq (out:=Pr.bool false) (bp hc42) ?_
 refine rq (out:=Pr.bool false) ag ?_
 have hc58:false=false:=rfl
 refine rno (neT hc58) ?_
 refine rno (neT hc58) ?_
 refine rno (neT hc58) ?_
 refine rno (neT hc58) ?_
 refine rq (out:=Pr.bool false) (bp hc58) ?_
 refine rq (out:=Pr.bool false) ag ?_
 have hc66:false=false:=rfl
 refine rno (neT hc66) ?_
 refine rno (neT hc66) ?_
 refine rno (neT hc66) ?_
 refine rno (neT hc66) ?_
 refine rno (neT hc66) ?_
 refine rno (neT hc66) ?_
 refine rq (out:=Pr.bool false) (bp hc66) ?_
 refine rq (out:=Pr.bool false) ag ?_
 have hc70:false=false:=rfl
 refine rno (neT hc70) ?_
 refine rno (neT hc70) ?_
 refine rno (neT hc70) ?_
 refine rno (neT hc70) ?_
 refine rno (neT hc70) ?_
 refine rq (out:=Pr.bool false) (bp hc70) ?_
 refine rq (out:=Pr.bool false) ae ?_
 exact⟨false,h,⟨⟨aa,trivial⟩,Pick.refl _⟩⟩
def rec_ref11_All_spec (R:d9):Prop:=(∀(x1:ApiNode) (x2:Int) (r:(List ApiNode)),R x1 x2=some r->FnP Tryz.prog 22 [(ab).val x1,Pr.i64 x2] (aj ab r))
theorem F_ref11_All_step (R:d9) (ih:rec_ref11_All_spec R) (x1:ApiNode) (x2:Int) (r:(List ApiNode)) (h:F_ref11_All R x1 x2=some r):FnP Tryz.prog 22 [(ab).val x1,Pr.i64 x2] (aj ab r):=by
 refine bo (n:=36) (rs:=[4]) Tryz.func22 rfl Tryz.ntmps22 ⟨by decide,Tryz.results22⟩ (by decide) (fun s0=> ?_)
 unfold F_ref11_All at h
 refine W_rs ?_
 refine rBox (R:=ab) (a:=x1) rfl (fun b3=> ?_)
 refine rq (out:=Pr.is (.slice none 0 0)) ae ?_
 refine W_rs ?_
 refine rq (out:=Pr.is (.slice none 0 0)) ae ?_
 refine W_nil [5] ab 24 (fun v4=> ?_) ⟨rfl,trivial⟩
 refine bc (fun e C=>∃(x11:List ApiNode),∃(v10:Value),ref11_All_j3 R x1 x2 x11=some r/\At [(1,Pr.i64 x2),(2,ap b3 0),(5,Pr.is v10)] [Own.box b3 ab x1,Own.vec v10 ab x11 24] e C) ?_ ?_
 ·rintro e C ⟨x11,v10,h,hat3⟩
  refine W_at hat3 ?_
  clear hat3
  unfold ref11_All_j3 at h
  refine a5 ?_
  refine W_rs ?_
  refine rq (out:=Pr.i64 0) ae ?_
  refine az ?_
  obtain⟨z2l,hz2,h⟩:=af h
  obtain⟨n2,hN2⟩:=cc hz2
  clear hz2
  refine du 0 (fun e C=>∃(x14:List ApiNode),∃(v12:Value),ref11_All_k1 R x14=some r/\At [(5,Pr.is v12)] [Own.box b3 ab x1,Own.vec v12 ab x14 24] e C) ?_ ?_
  ·rintro e C ⟨x14,v12,h,hat1⟩
   refine W_at hat1 ?_
   clear hat1
   unfold ref11_All_k1 at h
   refine W_rs ?_
   refine rq (out:=Pr.is v12) ag ?_
   refine rq (out:=Pr.is v12) ae ?_
   refine W_rel 1 [4] ?_ rfl ⟨rfl,trivial⟩
   obtain rfl:=Option.some.inj h
   exact a6 ⟨rfl,aa⟩
  refine eh (fun m e C=>∃(x13:Int),∃(x14:List ApiNode),∃(v12:Value),en (fun s=>nw R x1 x2 s.1 s.2) m (x13,x14)=some z2l/\At [(1,Pr.i64 x2),(2,ap b3 0),(5,Pr.is v12),(6,Pr.i64 x13)] [Own.box b3 ab x1,Own.vec v12 ab x14 24] e C) n2 ⟨0,x11,v10,hN2,⟨⟨aa,aa,aa,aa,trivial⟩,Pick.refl _⟩⟩ ?_
  clear hN2
  rintro m e C ⟨x13,x14,v12,hN2,hatl2⟩
  refine W_at hatl2 ?_
  clear hatl2
  obtain⟨m2,w2l,rfl,h2l,hn2,ho2⟩:=bx hN2
  clear hN2
  replace h2l:nw R x1 x2 x13 x14=some w2l:=h2l
  unfold nw at h2l
  refine a5 ?_
  refine W_rs ?_
  refine rq (out:=Pr.i64 x13) ag ?_
  refine rq (out:=ap b3 8) (a4 e8) ?_
  refine rq (out:=aj ab x1.Kids) (a8 (R:=ab) (a:=x1) (R':=a9 ab) 0 ty22 bi) ?_
  refine rq (out:=Pr.i64 (x1.Kids.length:Int)) (fi rfl Tryz.underlying22) ?_
  refine rq (out:=Pr.bool (decide (x13<(x1.Kids.length:Int)))) qInt ?_
  refine ao (b:=decide (x13<(x1.Kids.length:Int))) rfl (fun hc18=> ?_) (fun hc18=> ?_)
  ·replace h2l:=iteT hc18 h2l
   refine au ?_
   refine a5 ?_
   refine az ?_
   refine W_r ?_
   refine rq (out:=Pr.is v12) ag ?_
   refine rq (out:=ap b3 8) (a4 e8) ?_
   refine rq (out:=aj ab x1.Kids) (a8 (R:=ab) (a:=x1) (R':=a9 ab) 0 ty22 bi) ?_
   refine rq (out:=Pr.i64 x13) ag ?_
   obtain⟨x19,hx19,h2l⟩:=af h2l
   refine rq (out:=bj ab x19) (ef (R:=ab) (l:=x1.Kids) Tryz.underlying22 Tryz.sizeOf24 hx19) ?_
   refine rq (out:=(ab).val x19) (c5 (R:=ab) (a:=x19) ty24) ?_
   refine rq (out:=Pr.i64 x2) ag ?_
   obtain⟨x20,hx20,h2l⟩:=af h2l
   refine rq (out:=aj ab x20) (aw (ih x19 x2 _ hx20)) ?_
   obtain⟨x21,hx21,h2l⟩:=af h2l
   refine ip 1 el22 hx21 (fun v22=> ?_)
   refine rq (out:=Pr.is v22) ae ?_
   refine W_r ?_
   refine rq (out:=Pr.i64 x13) ag ?_
   refine rq (out:=Pr.i64 (w64 (x13+1))) qInt ?_
   refine rq (out:=Pr.i64 (w64 (x13+1))) ae ?_
   exact⟨m2,Nat.lt_succ_self _,w64 (x13+1),x21,v22,hn2 _ (Option.some.inj h2l).symm,⟨⟨aa,aa,aa,aa,trivial⟩,Pick.refl _⟩⟩
  replace h2l:=iteF hc18 h2l
  refine dg ?_
  obtain rfl:=ho2 _ (Option.some.inj h2l).symm
  exact⟨x14,v12,h,⟨⟨aa,trivial⟩,Pick.refl _⟩⟩
 refine bc (fun e C=>∃(x6:Bool),ref11_All_j4 R x1 x2 x6=some r/\At [(1,Pr.i64 x2),(2,ap b3 0),(5,Pr.is v4),(14,Pr.bool x6)] [Own.box b3 ab x1,Own.vec v4 ab [] 24] e C) ?_ ?_
 ·rintro e C ⟨x6,h,hat4⟩
  refine W_at hat4 ?_
  clear hat4
  unfold ref11_All_j4 at h
  refine ao (b:=x6) rfl (fun hc7=> ?_) (fun hc7=> ?_)
  ·replace h:=iteT hc7 h
   refine W_r ?_
   refine rq (out:=Pr.is v4) ag ?_
   refine rq (out:=(ab).val x1) (a8 (R:=ab) (a:=x1) (R':=ab) 0 ty24 (Sub.refl _)) ?_
   refine rq (out:=aj ab ([x1]:List ApiNode)) (cr (R:=ab) (a:=x1) el22 (Nat.le_of_ble_eq_true rfl)) ?_
   obtain⟨x8,hx8,h⟩:=af h
   refine ip 1 el22 hx8 (fun v9=> ?_)
   refine rq (out:=Pr.is v9) ae ?_
   exact⟨x8,v9,h,⟨⟨aa,aa,aa,trivial⟩,Pick.refl _⟩⟩
  replace h:=iteF hc7 h
  refine au ?_
  exact⟨[],v4,h,⟨⟨aa,aa,aa,trivial⟩,Pick.refl _⟩⟩
 refine W_r ?_
 refine rq (out:=Pr.i64 x2) ag ?_
 refine rq (out:=Pr.bool (x2==0)) qInt ?_
 refine rq (out:=Pr.bool (x2==0)) ag ?_
 rcases bv h with⟨hc5,h⟩|⟨hc5,h⟩
 ·refine rno (neF hc5) ?_
  refine rno (neF hc5) ?_
  refine rno (neF hc5) ?_
  refine rno (neF hc5) ?_
  refine rq (out:=Pr.bool true) (bu hc5) ?_
  exact⟨true,h,⟨⟨aa,aa,aa,aa,trivial⟩,Pick.refl _⟩⟩
 refine rqg hc5 (out:=ap b3 0) (a4 md) ?_
 refine rqg hc5 (out:=Pr.i64 x1.Kind) (a8 (R:=ab) (a:=x1) (R':=Rp.int .i64) 0 ty3 c8) ?_
 refine rqg hc5 (out:=Pr.i64 x2) ag ?_
 refine rqg hc5 (out:=Pr.bool (x1.Kind==x2)) qInt ?_
 refine rq (out:=Pr.bool (x1.Kind==x2)) (bp hc5) ?_
 exact⟨x1.Kind==x2,h,⟨⟨aa,aa,aa,aa,trivial⟩,Pick.refl _⟩⟩
theorem rec_ref11_All_ok :∀n,rec_ref11_All_spec (io n):=by
 intro n
 induction n with
 |zero=>exact(fun x1 x2 r h=>nomatch (show none=some r from h))
 |succ n ih=>exact(fun x1 x2 r h=>F_ref11_All_step (io n) ih x1 x2 r h)
theorem ref11_All_ok (x1:ApiNode) (x2:Int) (r:(List ApiNode)) (h:ref11_All x1 x2=some r):FnP Tryz.prog 22 [(ab).val x1,Pr.i64 x2] (aj ab r):=(rec_ref11_All_ok 1048576) x1 x2 r h
end Go.Proofs.YtgkcoicaopilhaaGreatDoor
