/- The code comes to what these functions say (printed by wip/gen/gen.py). -/
import Derived.Test.YtphkaogfinjbjaaGreatDoorZP5
import Derived.Test.YtphkaogfinjbjaaGreatDoorZT
set_option linter.unusedSimpArgs false
set_option linter.unusedVariables false
set_option linter.unusedSectionVars false
set_option linter.unusedSectionVars false
set_option maxRecDepth 100000
set_option maxHeartbeats 4000000
namespace Go.Proofs.YtphkaogfinjbjaaGreatDoor
open Go Go.Cn
variable [Known]
theorem law30_CellsRows_ok (x1 x2 x3:List ApiSegment) (r:Bool) (h:law30_CellsRows x1 x2 x3=some r):FnP Tryz.prog 3 [ae ai x1,ae ai x2,ae ai x3] (Pr.bool r):=by
 refine a8 (n:=84) (rs:=[6]) Tryz.func3 rfl Tryz.ntmps3 ⟨by decide,Tryz.results3⟩ (by decide) (fun s0=> ?_)
 unfold law30_CellsRows at h
 refine W_rs ?_
 refine rq (out:=Pr.bool false) ab ?_
 refine W_rs ?_
 obtain⟨x4,hx4,h⟩:=ah h
 refine rq (out:=Pr.bool x4) (bq (law30_awake_ok _ hx4)) ?_
 refine rq (out:=Pr.bool x4) ab ?_
 refine ax ?_
 refine W_rs ?_
 refine rq (out:=Pr.bool x4) ag ?_
 refine rq (out:=Pr.bool (!x4)) qNot ?_
 refine ar (b:= !x4) rfl (fun hc5=> ?_) (fun hc5=> ?_)
 ·replace h:=iteT hc5 h
  refine W_rs ?_
  refine rq (out:=Pr.bool false) ab ?_
  obtain rfl:=Option.some.inj h
  exact a9 ⟨rfl,aa⟩
 replace h:=iteF hc5 h
 refine av ?_
 refine W_rs ?_
 refine rq (out:=ae ai x1) ag ?_
 obtain⟨x6,hx6,h⟩:=ah h
 refine rq (out:=Pr.bool x6) (bq (law30_few_ok x1 _ hx6)) ?_
 refine rq (out:=Pr.bool x6) ab ?_
 refine W_rs ?_
 refine rq (out:=ae ai x2) ag ?_
 obtain⟨x7,hx7,h⟩:=ah h
 refine rq (out:=Pr.bool x7) (bq (law30_few_ok x2 _ hx7)) ?_
 refine rq (out:=Pr.bool x7) ab ?_
 refine W_rs ?_
 refine rq (out:=ae ai x3) ag ?_
 obtain⟨x8,hx8,h⟩:=ah h
 refine rq (out:=Pr.bool x8) (bq (law30_few_ok x3 _ hx8)) ?_
 refine rq (out:=Pr.bool x8) ab ?_
 refine ax ?_
 refine bd (fun e C=>∃(x12:Bool),dr x1 x2 x3 x12=some r/\At [(0,ae ai x1),(1,ae ai x2),(2,ae ai x3),(37,Pr.bool x12)] [] e C) ?_ ?_
 ·rintro e C ⟨x12,h,hat2⟩
  refine W_at hat2 ?_
  clear hat2
  unfold dr at h
  refine ar (b:=x12) rfl (fun hc13=> ?_) (fun hc13=> ?_)
  ·replace h:=iteT hc13 h
   refine W_rs ?_
   refine rq (out:=Pr.bool true) ab ?_
   obtain rfl:=Option.some.inj h
   exact a9 ⟨rfl,aa⟩
  replace h:=iteF hc13 h
  refine av ?_
  refine W_rs ?_
  refine rq (out:=ae ai x1) ag ?_
  refine rq (out:=ae ai x2) ag ?_
  refine rq (out:=ae ai x3) ag ?_
  obtain⟨⟨x14,x15⟩,hx14,h⟩:=ah h
  refine rq (out:=bi [ae ai x14,ae au x15]) (bq (cells_Row_ok x1 x2 x3 _ hx14)) ?_
  refine rq (out:=bi [ae ai x14,ae au x15]) ag ?_
  refine rq (out:=ae ai x14) a6 ?_
  refine rq (out:=ae au x15) a6 ?_
  refine rq (out:=ae ai x14) ab ?_
  refine rq (out:=ae au x15) ab ?_
  refine W_rs ?_
  refine rq (out:=ae ai x1) ag ?_
  refine rq (out:=ae ai x2) ag ?_
  refine rq (out:=ae ai x3) ag ?_
  obtain⟨⟨x16,x17⟩,hx16,h⟩:=ah h
  refine rq (out:=bi [ae ai x16,ae au x17]) (bq (ref30_Row_ok x1 x2 x3 _ hx16)) ?_
  refine rq (out:=bi [ae ai x16,ae au x17]) ag ?_
  refine rq (out:=ae ai x16) a6 ?_
  refine rq (out:=ae au x17) a6 ?_
  refine rq (out:=ae ai x16) ab ?_
  refine rq (out:=ae au x17) ab ?_
  refine W_rs ?_
  refine rq (out:=ae ai x1) ag ?_
  refine rq (out:=ae ai x2) ag ?_
  refine rq (out:=ae ai x3) ag ?_
  obtain⟨⟨x18,x19⟩,hx18,h⟩:=ah h
  refine pb [] (cells_Texts_ok x1 x2 x3 _ hx18) (fun q C' hq=> ?_)
  obtain⟨v20,rfl,rfl⟩:=hq
  refine rq (out:=bi [ae ai x18,Pr.is v20]) ag ?_
  refine rq (out:=ae ai x18) a6 ?_
  refine rq (out:=Pr.is v20) a6 ?_
  refine rq (out:=ae ai x18) ab ?_
  refine rq (out:=Pr.is v20) ab ?_
  refine W_rs ?_
  refine rq (out:=ae ai x1) ag ?_
  refine rq (out:=ae ai x2) ag ?_
  refine rq (out:=ae ai x3) ag ?_
  obtain⟨⟨x21,x22⟩,hx21,h⟩:=ah h
  refine pb [] (ref30_Texts_ok x1 x2 x3 _ hx21) (fun q C' hq=> ?_)
  obtain⟨v23,rfl,rfl⟩:=hq
  refine rq (out:=bi [ae ai x21,Pr.is v23]) ag ?_
  refine rq (out:=ae ai x21) a6 ?_
  refine rq (out:=Pr.is v23) a6 ?_
  refine rq (out:=ae ai x21) ab ?_
  refine rq (out:=Pr.is v23) ab ?_
  refine mq 1 [16] ?_ rfl ⟨rfl,trivial⟩
  refine bd (fun e C=>∃(x39:Bool),fg x39=some r/\At [(6,Pr.bool x39)] [] e C) ?_ ?_
  ·rintro e C ⟨x39,h,hat1⟩
   refine W_at hat1 ?_
   clear hat1
   unfold fg at h
   obtain rfl:=Option.some.inj h
   exact a9 ⟨rfl,aa⟩
  refine W_r ?_
  refine rq (out:=ae ai x14) ag ?_
  refine rq (out:=ae ai x16) ag ?_
  obtain⟨x24,hx24,h⟩:=ah h
  refine rq (out:=Pr.bool x24) (bq (ref28_Same_ok x14 x16 _ hx24)) ?_
  refine rq (out:=Pr.bool x24) ag ?_
  rcases bj h with⟨hc25,h⟩|⟨hc25,h⟩
  ·refine rqg hc25 (out:=ae au x15) ag ?_
   refine rqg hc25 (out:=ae au x17) ag ?_
   obtain⟨x26,hx26,h⟩:=ah h
   refine rqg hc25 (out:=Pr.bool x26) (bq (ref30_Conflicts_ok x15 x17 _ hx26)) ?_
   refine rq (out:=Pr.bool x26) (bv hc25) ?_
   refine rq (out:=Pr.bool x26) ag ?_
   rcases bj h with⟨hc27,h⟩|⟨hc27,h⟩
   ·refine rqg hc27 (out:=ae ai x18) ag ?_
    refine rqg hc27 (out:=ae ai x21) ag ?_
    obtain⟨x28,hx28,h⟩:=ah h
    refine rqg hc27 (out:=Pr.bool x28) (bq (ref28_Same_ok x18 x21 _ hx28)) ?_
    refine rq (out:=Pr.bool x28) (bv hc27) ?_
    refine rq (out:=Pr.bool x28) ag ?_
    rcases bj h with⟨hc29,h⟩|⟨hc29,h⟩
    ·refine rqg hc29 (out:=ae au x19) ag ?_
     refine rqg hc29 (out:=Pr.is v23) ag ?_
     obtain⟨x30,hx30,h⟩:=ah h
     refine rqg hc29 (out:=Pr.bool x30) (qCallB 0 (ref30_Conflicts_ok x19 x22 _ hx30) ⟨.inl aa,.inr ⟨aa,rfl⟩,trivial⟩ (fun _ _ _ h=>h)) ?_
     refine rq (out:=Pr.bool x30) (bv hc29) ?_
     refine rq (out:=Pr.bool x30) ab ?_
     exact⟨x30,h,⟨⟨aa,trivial⟩,Pick.of [] rfl⟩⟩
    refine rno (neT hc29) ?_
    refine rno (neT hc29) ?_
    refine rno (neT hc29) ?_
    refine rq (out:=Pr.bool false) (a7 hc29) ?_
    refine rq (out:=Pr.bool false) ab ?_
    exact⟨false,h,⟨⟨aa,trivial⟩,Pick.of [] rfl⟩⟩
   refine rno (neT hc27) ?_
   refine rno (neT hc27) ?_
   refine rno (neT hc27) ?_
   refine rq (out:=Pr.bool false) (a7 hc27) ?_
   refine rq (out:=Pr.bool false) ag ?_
   have hc31:false=false:=rfl
   refine rno (neT hc31) ?_
   refine rno (neT hc31) ?_
   refine rno (neT hc31) ?_
   refine rq (out:=Pr.bool false) (a7 hc31) ?_
   refine rq (out:=Pr.bool false) ab ?_
   exact⟨false,h,⟨⟨aa,trivial⟩,Pick.of [] rfl⟩⟩
  refine rno (neT hc25) ?_
  refine rno (neT hc25) ?_
  refine rno (neT hc25) ?_
  refine rq (out:=Pr.bool false) (a7 hc25) ?_
  refine rq (out:=Pr.bool false) ag ?_
  have hc33:false=false:=rfl
  refine rno (neT hc33) ?_
  refine rno (neT hc33) ?_
  refine rno (neT hc33) ?_
  refine rq (out:=Pr.bool false) (a7 hc33) ?_
  refine rq (out:=Pr.bool false) ag ?_
  have hc37:false=false:=rfl
  refine rno (neT hc37) ?_
  refine rno (neT hc37) ?_
  refine rno (neT hc37) ?_
  refine rq (out:=Pr.bool false) (a7 hc37) ?_
  refine rq (out:=Pr.bool false) ab ?_
  exact⟨false,h,⟨⟨aa,trivial⟩,Pick.of [] rfl⟩⟩
 refine W_r ?_
 refine rq (out:=Pr.bool x6) ag ?_
 refine rq (out:=Pr.bool (!x6)) qNot ?_
 refine rq (out:=Pr.bool (!x6)) ag ?_
 rcases bj h with⟨hc9,h⟩|⟨hc9,h⟩
 ·refine rno (neF hc9) ?_
  refine rno (neF hc9) ?_
  refine rq (out:=Pr.bool true) (bv hc9) ?_
  refine rq (out:=Pr.bool true) ag ?_
  have hc11:true=true:=rfl
  refine rno (neF hc11) ?_
  refine rno (neF hc11) ?_
  refine rq (out:=Pr.bool true) (bv hc11) ?_
  exact⟨true,h,⟨⟨aa,aa,aa,aa,trivial⟩,Pick.refl _⟩⟩
 refine rqg hc9 (out:=Pr.bool x7) ag ?_
 refine rqg hc9 (out:=Pr.bool (!x7)) qNot ?_
 refine rq (out:=Pr.bool (!x7)) (a7 hc9) ?_
 refine rq (out:=Pr.bool (!x7)) ag ?_
 rcases bj h with⟨hc10,h⟩|⟨hc10,h⟩
 ·refine rno (neF hc10) ?_
  refine rno (neF hc10) ?_
  refine rq (out:=Pr.bool true) (bv hc10) ?_
  exact⟨true,h,⟨⟨aa,aa,aa,aa,trivial⟩,Pick.refl _⟩⟩
 refine rqg hc10 (out:=Pr.bool x8) ag ?_
 refine rqg hc10 (out:=Pr.bool (!x8)) qNot ?_
 refine rq (out:=Pr.bool (!x8)) (a7 hc10) ?_
 exact⟨!x8,h,⟨⟨aa,aa,aa,aa,trivial⟩,Pick.refl _⟩⟩
end Go.Proofs.YtphkaogfinjbjaaGreatDoor
