/- The code comes to what these functions say (printed by wip/gen/gen.py). -/
import Derived.Test.YtgkcoicaopilhaaGreatDoorZP8
import Derived.Test.YtgkcoicaopilhaaGreatDoorZT
set_option linter.unusedSimpArgs false
set_option linter.unusedVariables false
set_option linter.unusedSectionVars false
set_option linter.unusedSectionVars false
set_option maxRecDepth 100000
set_option maxHeartbeats 4000000
namespace Go.Proofs.YtgkcoicaopilhaaGreatDoor
open Go Go.Cn
theorem ref14_Percent_ok (x1 x2:ApiNode) (x3:List (List UInt8)) (r:Int) (h:nc x1 x2 x3=some r):FnP Tryz.prog 19 [(ab).val x1,(ab).val x2,ai ak x3] (Pr.i64 r):=by
 refine bd (n:=23) (rs:=[6]) Tryz.func19 rfl Tryz.ntmps19 ⟨by decide,Tryz.results19⟩ (by decide) (fun s0=> ?_)
 unfold nc at h
 refine W_rs ?_
 refine rBox (R:=ab) (a:=x1) rfl (fun b4=> ?_)
 refine rBox (R:=ab) (a:=x2) rfl (fun b5=> ?_)
 refine rq (out:=Pr.i64 0) ae ?_
 refine ba (fun e C=>∃(x8:List (List Int)),k6 x8=some r/\At [(7,ai (ap (Rp.int .i64)) x8)] [Own.box b4 ab x1,Own.box b5 ab x2] e C) ?_ ?_
 ·rintro e C ⟨x8,h,hat2⟩
  refine W_at hat2 ?_
  clear hat2
  unfold k6 at h
  refine ba (fun e C=>∃(x11:Int),ref14_Percent_j1 x11=some r/\At [(6,Pr.i64 x11)] [Own.box b4 ab x1,Own.box b5 ab x2] e C) ?_ ?_
  ·rintro e C ⟨x11,h,hat1⟩
   refine W_at hat1 ?_
   clear hat1
   unfold ref14_Percent_j1 at h
   obtain rfl:=Option.some.inj h
   exact a5 ⟨rfl,aa⟩
  refine eh 8 hmx (by kernel_rfl) (by kernel_rfl) ?_
  refine qq (out:=ai (ap (Rp.int .i64)) x8) ag ?_
  obtain⟨x9,hx9,h⟩:=af h
  refine qq (out:=a8 (ap (Rp.int .i64)) x9) (c6 (R:=ap (Rp.int .i64)) (l:=x8) Tryz.underlying67 Tryz.sizeOf71 hx9) ?_
  refine qq (out:=ai (Rp.int .i64) x9) (bp (R:=ap (Rp.int .i64)) (a:=x9) ty71) ?_
  refine qq (out:=ai (ap (Rp.int .i64)) x8) ag ?_
  obtain⟨x10,hx10,h⟩:=af h
  refine qq (out:=a8 (ap (Rp.int .i64)) x10) (c6 (R:=ap (Rp.int .i64)) (l:=x8) Tryz.underlying67 Tryz.sizeOf71 hx10) ?_
  refine qq (out:=ai (Rp.int .i64) x10) (bp (R:=ap (Rp.int .i64)) (a:=x10) ty71) ?_
  obtain⟨x11,hx11,h⟩:=af h
  refine qq (out:=Pr.i64 x11) (ax (ref05_Percent_ok x9 x10 _ hx11)) ?_
  refine qq (out:=Pr.i64 x11) ae ?_
  exact⟨x11,h,⟨⟨aa,trivial⟩,Pick.refl _⟩⟩
 refine eh 9 hmx (by kernel_rfl) (by kernel_rfl) ?_
 refine qq (out:=(ab).val x1) (a6 (R:=ab) (a:=x1) (R':=ab) 0 ty24 (Sub.refl _)) ?_
 refine qq (out:=ai ak x3) ag ?_
 obtain⟨x6,hx6,h⟩:=af h
 refine qq (out:=ai ak x6) (ax (ref14_Tokens_ok x1 x3 _ hx6)) ?_
 refine qq (out:=(ab).val x2) (a6 (R:=ab) (a:=x2) (R':=ab) 1 ty24 (Sub.refl _)) ?_
 refine qq (out:=ai ak x3) ag ?_
 obtain⟨x7,hx7,h⟩:=af h
 refine qq (out:=ai ak x7) (ax (ref14_Tokens_ok x2 x3 _ hx7)) ?_
 refine qq (out:=ai (ap ak) ([x6,x7]:List (List (List UInt8)))) (ef (R:=ap ak) (ls:=([x6,x7]:List (List (List UInt8)))) el69 (Nat.le_of_ble_eq_true rfl) ⟨rfl,rfl⟩ ⟨rfl,rfl,trivial⟩) ?_
 obtain⟨x8,hx8,h⟩:=af h
 refine qq (out:=ai (ap (Rp.int .i64)) x8) (ax (ref05_Numbers_ok ([x6,x7]:List (List (List UInt8))) _ hx8)) ?_
 refine qq (out:=ai (ap (Rp.int .i64)) x8) ae ?_
 exact⟨x8,h,⟨⟨aa,trivial⟩,Pick.refl _⟩⟩
theorem ref14_Best_ok (x1:ApiNode) (x2:List ApiNode) (x3:List (List UInt8)) (x4 r:Int) (h:ref14_Best x1 x2 x3 x4=some r):FnP Tryz.prog 21 [(ab).val x1,ai ab x2,ai ak x3,Pr.i64 x4] (Pr.i64 r):=by
 refine bd (n:=45) (rs:=[8]) Tryz.func21 rfl Tryz.ntmps21 ⟨by decide,Tryz.results21⟩ (by decide) (fun s0=> ?_)
 unfold ref14_Best at h
 refine W_rs ?_
 refine rBox (R:=ab) (a:=x1) rfl (fun b5=> ?_)
 refine rq (out:=Pr.i64 0) ae ?_
 refine W_rs ?_
 refine rq (out:=Pr.i64 (-1)) ae ?_
 refine W_rs ?_
 refine rq (out:=Pr.i64 (-1)) ae ?_
 refine a4 ?_
 refine W_rs ?_
 refine rq (out:=Pr.i64 0) ae ?_
 refine av ?_
 obtain⟨z2l,hz2,h⟩:=af h
 obtain⟨n2,hN2⟩:=bj hz2
 clear hz2
 refine ct 0 (fun e C=>∃(x6:Int),ref14_Best_k1 x6=some r/\At [(9,Pr.i64 x6)] [Own.box b5 ab x1] e C) ?_ ?_
 ·rintro e C ⟨x6,h,hat1⟩
  refine W_at hat1 ?_
  clear hat1
  unfold ref14_Best_k1 at h
  refine W_rs ?_
  refine rq (out:=Pr.i64 x6) ag ?_
  refine rq (out:=Pr.i64 x6) ae ?_
  obtain rfl:=Option.some.inj h
  exact a5 ⟨rfl,aa⟩
 refine dg (fun m e C=>∃(x6:Int),∃(x7:Int),∃(x8:Int),d4 (fun s=>je x2 x1 x3 x4 s.1 s.2.1 s.2.2) m (x6,x7,x8)=some z2l/\At [(1,ai ab x2),(2,ai ak x3),(3,Pr.i64 x4),(4,aq b5 0),(9,Pr.i64 x6),(10,Pr.i64 x7),(11,Pr.i64 x8)] [Own.box b5 ab x1] e C) n2 ⟨(-1),(-1),0,hN2,⟨⟨aa,aa,aa,aa,aa,aa,aa,trivial⟩,Pick.refl _⟩⟩ ?_
 clear hN2
 rintro m e C ⟨x6,x7,x8,hN2,hatl2⟩
 refine W_at hatl2 ?_
 clear hatl2
 obtain⟨m2,w2l,rfl,h2l,hn2,ho2⟩:=bg hN2
 clear hN2
 replace h2l:je x2 x1 x3 x4 x6 x7 x8=some w2l:=h2l
 unfold je at h2l
 refine a4 ?_
 refine W_rs ?_
 refine rq (out:=Pr.i64 x8) ag ?_
 refine rq (out:=ai ab x2) ag ?_
 refine rq (out:=Pr.i64 (x2.length:Int)) (dc rfl Tryz.underlying22) ?_
 refine rq (out:=Pr.bool (decide (x8<(x2.length:Int)))) qInt ?_
 refine al (b:=decide (x8<(x2.length:Int))) rfl (fun hc12=> ?_) (fun hc12=> ?_)
 ·replace h2l:=iteT hc12 h2l
  refine ar ?_
  refine ba (fun e C=>∃(x20:Int),∃(x21:Int),kw x8 x20 x21=some w2l/\At [(1,ai ab x2),(2,ai ak x3),(3,Pr.i64 x4),(4,aq b5 0),(9,Pr.i64 x20),(10,Pr.i64 x21),(11,Pr.i64 x8)] [Own.box b5 ab x1] e C) ?_ ?_
  ·rintro e C ⟨x20,x21,h2l,hat3⟩
   refine W_at hat3 ?_
   clear hat3
   unfold kw at h2l
   refine W_r ?_
   refine rq (out:=Pr.i64 x8) ag ?_
   refine rq (out:=Pr.i64 (w64 (x8+1))) qInt ?_
   refine rq (out:=Pr.i64 (w64 (x8+1))) ae ?_
   exact⟨m2,Nat.lt_succ_self _,x20,x21,w64 (x8+1),hn2 _ (Option.some.inj h2l).symm,⟨⟨aa,aa,aa,aa,aa,aa,aa,trivial⟩,Pick.refl _⟩⟩
  refine av ?_
  refine a4 ?_
  refine ba (fun e C=>∃(x13:ApiNode),ref14_Best_j6 x1 x8 x6 x7 x2 x3 x4 x13=some w2l/\At [(1,ai ab x2),(2,ai ak x3),(3,Pr.i64 x4),(4,aq b5 0),(9,Pr.i64 x6),(10,Pr.i64 x7),(11,Pr.i64 x8),(26,Pr.bool (x13.Kind != x1.Kind))] [Own.box b5 ab x1] e C) ?_ ?_
  ·rintro e C ⟨x13,h2l,hat6⟩
   refine W_at hat6 ?_
   clear hat6
   unfold ref14_Best_j6 at h2l
   refine al (b:=x13.Kind != x1.Kind) rfl (fun hc14=> ?_) (fun hc14=> ?_)
   ·replace h2l:=iteT hc14 h2l
    refine cr ?_
    exact⟨x6,x7,h2l,⟨⟨aa,aa,aa,aa,aa,aa,aa,trivial⟩,Pick.refl _⟩⟩
   replace h2l:=iteF hc14 h2l
   refine ar ?_
   refine ba (fun e C=>∃(x16:Int),ref14_Best_j5 x4 x8 x6 x7 x16=some w2l/\At [(1,ai ab x2),(2,ai ak x3),(3,Pr.i64 x4),(4,aq b5 0),(9,Pr.i64 x6),(10,Pr.i64 x7),(11,Pr.i64 x8),(12,Pr.i64 x16)] [Own.box b5 ab x1] e C) ?_ ?_
   ·rintro e C ⟨x16,h2l,hat5⟩
    refine W_at hat5 ?_
    clear hat5
    unfold ref14_Best_j5 at h2l
    refine ba (fun e C=>∃(x18:Bool),ref14_Best_j4 x8 x16 x6 x7 x18=some w2l/\At [(1,ai ab x2),(2,ai ak x3),(3,Pr.i64 x4),(4,aq b5 0),(9,Pr.i64 x6),(10,Pr.i64 x7),(11,Pr.i64 x8),(12,Pr.i64 x16),(41,Pr.bool x18)] [Own.box b5 ab x1] e C) ?_ ?_
    ·rintro e C ⟨x18,h2l,hat4⟩
     refine W_at hat4 ?_
     clear hat4
     unfold ref14_Best_j4 at h2l
     refine al (b:=x18) rfl (fun hc19=> ?_) (fun hc19=> ?_)
     ·replace h2l:=iteT hc19 h2l
      refine W_rs ?_
      refine rq (out:=Pr.i64 x8) ag ?_
      refine rq (out:=Pr.i64 x8) ae ?_
      refine W_r ?_
      refine rq (out:=Pr.i64 x16) ag ?_
      refine rq (out:=Pr.i64 x16) ae ?_
      exact⟨x8,x16,h2l,⟨⟨aa,aa,aa,aa,aa,aa,aa,trivial⟩,Pick.refl _⟩⟩
     replace h2l:=iteF hc19 h2l
     refine ar ?_
     exact⟨x6,x7,h2l,⟨⟨aa,aa,aa,aa,aa,aa,aa,trivial⟩,Pick.refl _⟩⟩
    refine W_r ?_
    refine rq (out:=Pr.i64 x16) ag ?_
    refine rq (out:=Pr.i64 x4) ag ?_
    refine rq (out:=Pr.bool (decide (x16≥x4))) qInt ?_
    refine rq (out:=Pr.bool (decide (x16≥x4))) ag ?_
    rcases cc h2l with⟨hc17,h2l⟩|⟨hc17,h2l⟩
    ·refine rqg hc17 (out:=Pr.i64 x16) ag ?_
     refine rqg hc17 (out:=Pr.i64 x7) ag ?_
     refine rqg hc17 (out:=Pr.bool (decide (x16>x7))) qInt ?_
     refine rq (out:=Pr.bool (decide (x16>x7))) (cj hc17) ?_
     exact⟨decide (x16>x7),h2l,⟨⟨aa,aa,aa,aa,aa,aa,aa,aa,aa,trivial⟩,Pick.refl _⟩⟩
    refine rno (neT hc17) ?_
    refine rno (neT hc17) ?_
    refine rno (neT hc17) ?_
    refine rq (out:=Pr.bool false) (bx hc17) ?_
    exact⟨false,h2l,⟨⟨aa,aa,aa,aa,aa,aa,aa,aa,aa,trivial⟩,Pick.refl _⟩⟩
   refine eh 8 hmx (by kernel_rfl) (by kernel_rfl) ?_
   refine qq (out:=(ab).val x1) (a6 (R:=ab) (a:=x1) (R':=ab) 0 ty24 (Sub.refl _)) ?_
   refine qq (out:=ai ab x2) ag ?_
   refine qq (out:=Pr.i64 x8) ag ?_
   obtain⟨x15,hx15,h2l⟩:=af h2l
   refine qq (out:=a8 ab x15) (c6 (R:=ab) (l:=x2) Tryz.underlying22 Tryz.sizeOf24 hx15) ?_
   refine qq (out:=(ab).val x15) (bp (R:=ab) (a:=x15) ty24) ?_
   refine qq (out:=ai ak x3) ag ?_
   obtain⟨x16,hx16,h2l⟩:=af h2l
   refine qq (out:=Pr.i64 x16) (ax (ref14_Percent_ok x1 x15 x3 _ hx16)) ?_
   refine qq (out:=Pr.i64 x16) ae ?_
   exact⟨x16,h2l,⟨⟨aa,aa,aa,aa,aa,aa,aa,aa,trivial⟩,Pick.refl _⟩⟩
  refine eh 8 hmx (by kernel_rfl) (by kernel_rfl) ?_
  refine qq (out:=ai ab x2) ag ?_
  refine qq (out:=Pr.i64 x8) ag ?_
  obtain⟨x13,hx13,h2l⟩:=af h2l
  refine qq (out:=a8 ab x13) (c6 (R:=ab) (l:=x2) Tryz.underlying22 Tryz.sizeOf24 hx13) ?_
  refine qq (out:=a8 (Rp.int .i64) x13.Kind) (ee (R:=ab) (a:=x13) f8 bv) ?_
  refine qq (out:=Pr.i64 x13.Kind) (bp (R:=Rp.int .i64) (a:=x13.Kind) ty3) ?_
  refine qq (out:=aq b5 0) (au f8) ?_
  refine qq (out:=Pr.i64 x1.Kind) (a6 (R:=ab) (a:=x1) (R':=Rp.int .i64) 0 ty3 bv) ?_
  refine qq (out:=Pr.bool (x13.Kind != x1.Kind)) qInt ?_
  exact⟨x13,h2l,⟨⟨aa,aa,aa,aa,aa,aa,aa,aa,trivial⟩,Pick.refl _⟩⟩
 replace h2l:=iteF hc12 h2l
 refine cr ?_
 obtain rfl:=ho2 _ (Option.some.inj h2l).symm
 exact⟨x6,h,⟨⟨aa,trivial⟩,Pick.refl _⟩⟩
theorem law14_ShapeBest_ok (x1 x2:List (List UInt8)) (x3:Int) (r:Bool) (h:law14_ShapeBest x1 x2 x3=some r):FnP Tryz.prog 4 [ai ak x1,ai ak x2,Pr.i64 x3] (Pr.bool r):=by
 refine bd (n:=88) (rs:=[6]) Tryz.func4 rfl Tryz.ntmps4 ⟨by decide,Tryz.results4⟩ (by decide) (fun s0=> ?_)
 unfold law14_ShapeBest at h
 refine W_rs ?_
 refine rq (out:=Pr.bool false) ae ?_
 refine W_rs ?_
 obtain⟨x4,hx4,h⟩:=af h
 refine rq (out:=Pr.bool x4) (ax (law14_awake_ok _ hx4)) ?_
 refine rq (out:=Pr.bool x4) ae ?_
 refine a4 ?_
 refine W_rs ?_
 refine rq (out:=Pr.bool x4) ag ?_
 refine rq (out:=Pr.bool (!x4)) qNot ?_
 refine al (b:= !x4) rfl (fun hc5=> ?_) (fun hc5=> ?_)
 ·replace h:=iteT hc5 h
  refine W_rs ?_
  refine rq (out:=Pr.bool false) ae ?_
  obtain rfl:=Option.some.inj h
  exact a5 ⟨rfl,aa⟩
 replace h:=iteF hc5 h
 refine ar ?_
 refine a4 ?_
 refine ba (fun e C=>∃(x9:Bool),e6 x1 x2 x3 x9=some r/\At [(0,ai ak x1),(1,ai ak x2),(2,Pr.i64 x3),(27,Pr.bool x9)] [] e C) ?_ ?_
 ·rintro e C ⟨x9,h,hat4⟩
  refine W_at hat4 ?_
  clear hat4
  unfold e6 at h
  refine al (b:=x9) rfl (fun hc10=> ?_) (fun hc10=> ?_)
  ·replace h:=iteT hc10 h
   refine W_rs ?_
   refine rq (out:=Pr.bool true) ae ?_
   obtain rfl:=Option.some.inj h
   exact a5 ⟨rfl,aa⟩
  replace h:=iteF hc10 h
  refine ar ?_
  refine W_rs ?_
  refine rq (out:=Pr.is (.slice none 0 0)) ae ?_
  refine a4 ?_
  refine W_rs ?_
  refine rq (out:=Pr.i64 0) ae ?_
  refine av ?_
  obtain⟨z3l,hz3,h⟩:=af h
  obtain⟨n3,hN3⟩:=bj hz3
  clear hz3
  refine ct 0 (fun e C=>∃(x13:List ApiNode),∃(v11:Value),mg x2 x3 x13=some r/\At [(1,ai ak x2),(2,Pr.i64 x3),(8,Pr.is v11)] [Own.vec v11 ab x13 24] e C) ?_ ?_
  ·rintro e C ⟨x13,v11,h,hat2⟩
   refine W_at hat2 ?_
   clear hat2
   unfold mg at h
   refine W_rel 0 [8] ?_ rfl ⟨rfl,trivial⟩
   refine ba (fun e C=>∃(x40:Bool),jj x40=some r/\At [(6,Pr.bool x40)] [] e C) ?_ ?_
   ·rintro e C ⟨x40,h,hat1⟩
    refine W_at hat1 ?_
    clear hat1
    unfold jj at h
    obtain rfl:=Option.some.inj h
    exact a5 ⟨rfl,aa⟩
   refine eh 37 hmx (by kernel_rfl) (by kernel_rfl) ?_
   refine qq (out:=ai ab x13) ag ?_
   obtain⟨x27,hx27,h⟩:=af h
   refine qq (out:=a8 ab x27) (c6 (R:=ab) (l:=x13) Tryz.underlying22 Tryz.sizeOf24 hx27) ?_
   refine qq (out:=(ab).val x27) (bp (R:=ab) (a:=x27) ty24) ?_
   refine qq (out:=ai ab x13) ag ?_
   obtain⟨x28,hx28,h⟩:=af h
   refine qq (out:=a8 ab x28) (c6 (R:=ab) (l:=x13) Tryz.underlying22 Tryz.sizeOf24 hx28) ?_
   refine qq (out:=(ab).val x28) (bp (R:=ab) (a:=x28) ty24) ?_
   refine qq (out:=ai ak x2) ag ?_
   obtain⟨x29,hx29,h⟩:=af h
   refine qq (out:=Pr.i64 x29) (ax (shape_Percent_ok x27 x28 x2 _ hx29)) ?_
   refine qq (out:=ai ab x13) ag ?_
   obtain⟨x30,hx30,h⟩:=af h
   refine qq (out:=a8 ab x30) (c6 (R:=ab) (l:=x13) Tryz.underlying22 Tryz.sizeOf24 hx30) ?_
   refine qq (out:=(ab).val x30) (bp (R:=ab) (a:=x30) ty24) ?_
   refine qq (out:=ai ab x13) ag ?_
   obtain⟨x31,hx31,h⟩:=af h
   refine qq (out:=a8 ab x31) (c6 (R:=ab) (l:=x13) Tryz.underlying22 Tryz.sizeOf24 hx31) ?_
   refine qq (out:=(ab).val x31) (bp (R:=ab) (a:=x31) ty24) ?_
   refine qq (out:=ai ak x2) ag ?_
   obtain⟨x32,hx32,h⟩:=af h
   refine qq (out:=Pr.i64 x32) (ax (ref14_Percent_ok x30 x31 x2 _ hx32)) ?_
   refine qq (out:=Pr.bool (x29==x32)) qInt ?_
   refine qq (out:=Pr.bool (x29==x32)) ag ?_
   rcases cc h with⟨hc33,h⟩|⟨hc33,h⟩
   ·refine qqg hc33 (out:=ai ab x13) ag ?_
    obtain⟨x34,hx34,h⟩:=af h
    refine qqg hc33 (out:=a8 ab x34) (c6 (R:=ab) (l:=x13) Tryz.underlying22 Tryz.sizeOf24 hx34) ?_
    refine qqg hc33 (out:=(ab).val x34) (bp (R:=ab) (a:=x34) ty24) ?_
    refine qqg hc33 (out:=ai ab x13) ag ?_
    obtain⟨x35,hx35,h⟩:=af h
    refine qqg hc33 (out:=ai ab x35) (qLSubL Tryz.underlying22 Tryz.sizeOf24 hx35) ?_
    refine qqg hc33 (out:=ai ak x2) ag ?_
    refine qqg hc33 (out:=Pr.i64 x3) ag ?_
    obtain⟨x36,hx36,h⟩:=af h
    refine qqg hc33 (out:=Pr.i64 x36) (ax (shape_Best_ok x34 x35 x2 x3 _ hx36)) ?_
    refine qqg hc33 (out:=ai ab x13) ag ?_
    obtain⟨x37,hx37,h⟩:=af h
    refine qqg hc33 (out:=a8 ab x37) (c6 (R:=ab) (l:=x13) Tryz.underlying22 Tryz.sizeOf24 hx37) ?_
    refine qqg hc33 (out:=(ab).val x37) (bp (R:=ab) (a:=x37) ty24) ?_
    refine qqg hc33 (out:=ai ab x13) ag ?_
    obtain⟨x38,hx38,h⟩:=af h
    refine qqg hc33 (out:=ai ab x38) (qLSubL Tryz.underlying22 Tryz.sizeOf24 hx38) ?_
    refine qqg hc33 (out:=ai ak x2) ag ?_
    refine qqg hc33 (out:=Pr.i64 x3) ag ?_
    obtain⟨x39,hx39,h⟩:=af h
    refine qqg hc33 (out:=Pr.i64 x39) (ax (ref14_Best_ok x37 x38 x2 x3 _ hx39)) ?_
    refine qqg hc33 (out:=Pr.bool (x36==x39)) qInt ?_
    refine qq (out:=Pr.bool (x36==x39)) (cj hc33) ?_
    refine qq (out:=Pr.bool (x36==x39)) ae ?_
    exact⟨x36==x39,h,⟨⟨aa,trivial⟩,Pick.refl _⟩⟩
   refine qqno (neT hc33) ?_
   refine qqno (neT hc33) ?_
   refine qqno (neT hc33) ?_
   refine qqno (neT hc33) ?_
   refine qqno (neT hc33) ?_
   refine qqno (neT hc33) ?_
   refine qqno (neT hc33) ?_
   refine qqno (neT hc33) ?_
   refine qqno (neT hc33) ?_
   refine qqno (neT hc33) ?_
   refine qqno (neT hc33) ?_
   refine qqno (neT hc33) ?_
   refine qqno (neT hc33) ?_
   refine qqno (neT hc33) ?_
   refine qqno (neT hc33) ?_
   refine qqno (neT hc33) ?_
   refine qqno (neT hc33) ?_
   refine qq (out:=Pr.bool false) (bx hc33) ?_
   refine qq (out:=Pr.bool false) ae ?_
   exact⟨false,h,⟨⟨aa,trivial⟩,Pick.refl _⟩⟩
  refine W_nil [8] ab 24 (fun v41=> ?_) ⟨rfl,trivial⟩
  refine dg (fun m e C=>∃(x12:Int),∃(x13:List ApiNode),∃(v11:Value),d4 (fun s=>ez x1 s.1 s.2) m (x12,x13)=some z3l/\At [(0,ai ak x1),(1,ai ak x2),(2,Pr.i64 x3),(8,Pr.is v11),(9,Pr.i64 x12)] [Own.vec v11 ab x13 24] e C) n3 ⟨0,[],v41,hN3,⟨⟨aa,aa,aa,aa,aa,trivial⟩,Pick.refl _⟩⟩ ?_
  clear hN3
  rintro m e C ⟨x12,x13,v11,hN3,hatl3⟩
  refine W_at hatl3 ?_
  clear hatl3
  obtain⟨m3,w3l,rfl,h3l,hn3,ho3⟩:=bg hN3
  clear hN3
  replace h3l:ez x1 x12 x13=some w3l:=h3l
  unfold ez at h3l
  refine a4 ?_
  refine W_rs ?_
  refine rq (out:=Pr.i64 x12) ag ?_
  refine rq (out:=ai ak x1) ag ?_
  refine rq (out:=Pr.i64 (x1.length:Int)) (dc rfl Tryz.underlying25) ?_
  refine rq (out:=Pr.bool (decide (x12<(x1.length:Int)))) qInt ?_
  refine al (b:=decide (x12<(x1.length:Int))) rfl (fun hc17=> ?_) (fun hc17=> ?_)
  ·replace h3l:=iteT hc17 h3l
   refine ar ?_
   refine a4 ?_
   refine av ?_
   refine a4 ?_
   refine W_rs ?_
   refine rq (out:=ai ak x1) ag ?_
   refine rq (out:=Pr.i64 x12) ag ?_
   obtain⟨x18,hx18,h3l⟩:=af h3l
   refine rq (out:=a8 ak x18) (c6 (R:=ak) (l:=x1) Tryz.underlying25 Tryz.sizeOf9 hx18) ?_
   refine rq (out:=ah x18) (bp (R:=ak) (a:=x18) ty9) ?_
   refine rq (out:=Pr.i64 (x18.length:Int)) (qLenS rfl Tryz.underlying9) ?_
   refine rq (out:=Pr.bool (decide ((x18.length:Int)>600))) qInt ?_
   refine al (b:=decide ((x18.length:Int)>600)) rfl (fun hc19=> ?_) (fun hc19=> ?_)
   ·replace h3l:=iteT hc19 h3l
    refine W_rs ?_
    refine rq (out:=Pr.bool true) ae ?_
    obtain rfl:=ho3 _ (Option.some.inj h3l).symm
    replace h:some true=some r:=h
    obtain rfl:=Option.some.inj h
    exact a5 ⟨rfl,aa⟩
   replace h3l:=iteF hc19 h3l
   refine ar ?_
   refine W_rs ?_
   refine rq (out:=ai ak x1) ag ?_
   refine rq (out:=Pr.i64 x12) ag ?_
   obtain⟨x20,hx20,h3l⟩:=af h3l
   refine rq (out:=a8 ak x20) (c6 (R:=ak) (l:=x1) Tryz.underlying25 Tryz.sizeOf9 hx20) ?_
   refine rq (out:=ah x20) (bp (R:=ak) (a:=x20) ty9) ?_
   obtain⟨⟨x21,x22⟩,hx21,h3l⟩:=af h3l
   refine rq (out:=bl [(ab).val x21,(bc).val x22]) (ax (ref12_One_ok x20 1 _ hx21)) ?_
   refine rq (out:=bl [(ab).val x21,(bc).val x22]) ag ?_
   refine rq (out:=(ab).val x21) aw ?_
   refine rq (out:=(bc).val x22) aw ?_
   refine cg (R:=ab) (z:=(ApiNode.mk 0 [] [] 0 0 0 0 0 [])) Tryz.zeroValue24 (fun _=>(by rw[ao];exact⟨_,⟨_,_,rfl,rfl,⟨_,_,rfl,rfl,⟨_,_,rfl,rfl,⟨_,_,rfl,rfl,⟨_,_,rfl,rfl,⟨_,_,rfl,rfl,⟨_,_,rfl,rfl,⟨_,_,rfl,rfl,⟨_,_,rfl,⟨_,rfl,none,0,rfl,⟨Nat.le_refl _,fun _=>rfl⟩,.inl rfl⟩,rfl⟩⟩⟩⟩⟩⟩⟩⟩⟩,rfl⟩)) (fun b23=> ?_)
   refine cg (R:=bc) (z:=(ApiMistake.mk 0 0 0)) Tryz.zeroValue36 (fun _=>⟨_,⟨_,_,rfl,rfl,⟨_,_,rfl,rfl,⟨_,_,rfl,rfl,rfl⟩⟩⟩,rfl⟩) (fun b24=> ?_)
   refine az (R:=ab) (R':=ab) (a:=(ApiNode.mk 0 [] [] 0 0 0 0 0 [])) (y:=x21) 1 Tryz.sizeOf24 (Upd.refl _) ?_
   refine az (R:=bc) (R':=bc) (a:=(ApiMistake.mk 0 0 0)) (y:=x22) 2 Tryz.sizeOf36 (Upd.refl _) ?_
   refine W_r ?_
   refine rq (out:=Pr.is v11) ag ?_
   refine rq (out:=(ab).val x21) (a6 (R:=ab) (a:=x21) (R':=ab) 1 ty24 (Sub.refl _)) ?_
   refine rq (out:=ai ab ([x21]:List ApiNode)) (cf (R:=ab) (a:=x21) el22 (Nat.le_of_ble_eq_true rfl)) ?_
   obtain⟨x25,hx25,h3l⟩:=af h3l
   refine f3 0 el22 hx25 (fun v26=> ?_)
   refine rq (out:=Pr.is v26) ae ?_
   refine W_r ?_
   refine rq (out:=Pr.i64 x12) ag ?_
   refine rq (out:=Pr.i64 (w64 (x12+1))) qInt ?_
   refine rq (out:=Pr.i64 (w64 (x12+1))) ae ?_
   exact⟨m3,Nat.lt_succ_self _,w64 (x12+1),x25,v26,hn3 _ (Option.some.inj h3l).symm,⟨⟨aa,aa,aa,aa,aa,trivial⟩,Pick.of [0] rfl⟩⟩
  replace h3l:=iteF hc17 h3l
  refine cr ?_
  obtain rfl:=ho3 _ (Option.some.inj h3l).symm
  exact⟨x13,v11,h,⟨⟨aa,aa,aa,trivial⟩,Pick.refl _⟩⟩
 refine W_r ?_
 refine rq (out:=ai ak x1) ag ?_
 refine rq (out:=Pr.i64 (x1.length:Int)) (dc rfl Tryz.underlying25) ?_
 refine rq (out:=Pr.bool (decide ((x1.length:Int)<2))) qInt ?_
 refine rq (out:=Pr.bool (decide ((x1.length:Int)<2))) ag ?_
 rcases cc h with⟨hc6,h⟩|⟨hc6,h⟩
 ·refine rno (neF hc6) ?_
  refine rno (neF hc6) ?_
  refine rno (neF hc6) ?_
  refine rq (out:=Pr.bool true) (cj hc6) ?_
  refine rq (out:=Pr.bool true) ag ?_
  have hc8:true=true:=rfl
  refine rno (neF hc8) ?_
  refine rno (neF hc8) ?_
  refine rno (neF hc8) ?_
  refine rq (out:=Pr.bool true) (cj hc8) ?_
  exact⟨true,h,⟨⟨aa,aa,aa,aa,trivial⟩,Pick.refl _⟩⟩
 refine rqg hc6 (out:=ai ak x1) ag ?_
 refine rqg hc6 (out:=Pr.i64 (x1.length:Int)) (dc rfl Tryz.underlying25) ?_
 refine rqg hc6 (out:=Pr.bool (decide ((x1.length:Int)>6))) qInt ?_
 refine rq (out:=Pr.bool (decide ((x1.length:Int)>6))) (bx hc6) ?_
 refine rq (out:=Pr.bool (decide ((x1.length:Int)>6))) ag ?_
 rcases cc h with⟨hc7,h⟩|⟨hc7,h⟩
 ·refine rno (neF hc7) ?_
  refine rno (neF hc7) ?_
  refine rno (neF hc7) ?_
  refine rq (out:=Pr.bool true) (cj hc7) ?_
  exact⟨true,h,⟨⟨aa,aa,aa,aa,trivial⟩,Pick.refl _⟩⟩
 refine rqg hc7 (out:=ai ak x2) ag ?_
 refine rqg hc7 (out:=Pr.i64 (x2.length:Int)) (dc rfl Tryz.underlying25) ?_
 refine rqg hc7 (out:=Pr.bool (decide ((x2.length:Int)>10))) qInt ?_
 refine rq (out:=Pr.bool (decide ((x2.length:Int)>10))) (bx hc7) ?_
 exact⟨decide ((x2.length:Int)>10),h,⟨⟨aa,aa,aa,aa,trivial⟩,Pick.refl _⟩⟩
end Go.Proofs.YtgkcoicaopilhaaGreatDoor
