/- The code comes to what these functions say (printed by wip/gen/gen.py). -/
import Derived.Test.YtphkaogfinjbjaaGreatDoorZP5
import Derived.Test.YtphkaogfinjbjaaGreatDoorZT
set_option linter.unusedSimpArgs false
set_option linter.unusedVariables false
set_option linter.unusedSectionVars false
set_option linter.unusedSectionVars false
set_option maxRecDepth 100000
set_option maxHeartbeats 4000000
namespace Go.Proofs.YtphkaogfinjbjaaGreatDoor
open Go Go.Cn
variable [Known]
theorem law30_CellsThree_ok (x1:List (List UInt8)) (x2:List Bool) (x3:List (List (List UInt8))) (r:Bool) (h:nj x1 x2 x3=some r):FnP Tryz.prog 4 [(aq 3 ab).val x1,(aq 3 Rp.bool).val x2,(aq 3 (ai ab)).val x3] (Pr.bool r):=by
 refine a7 (n:=113) (rs:=[6]) Tryz.func4 rfl Tryz.ntmps4 ⟨by decide,Tryz.results4⟩ (by decide) (fun s0=> ?_)
 unfold nj at h
 refine W_rs ?_
 refine rBox (R:=aq 3 ab) (a:=x1) rfl (fun b4=> ?_)
 refine rBox (R:=aq 3 Rp.bool) (a:=x2) rfl (fun b5=> ?_)
 refine rBox (R:=aq 3 (ai ab)) (a:=x3) rfl (fun b6=> ?_)
 refine rq (out:=Pr.bool false) ae ?_
 refine W_rs ?_
 obtain⟨x7,hx7,h⟩:=ah h
 refine rq (out:=Pr.bool x7) (br (law30_awake_ok _ hx7)) ?_
 refine rq (out:=Pr.bool x7) ae ?_
 refine aw ?_
 refine W_rs ?_
 refine rq (out:=Pr.bool x7) ag ?_
 refine rq (out:=Pr.bool (!x7)) qNot ?_
 refine au (b:= !x7) rfl (fun hc8=> ?_) (fun hc8=> ?_)
 ·replace h:=iteT hc8 h
  refine W_rs ?_
  refine rq (out:=Pr.bool false) ae ?_
  obtain rfl:=Option.some.inj h
  exact bb ⟨rfl,aa⟩
 replace h:=iteF hc8 h
 refine av ?_
 refine aw ?_
 refine W_rs ?_
 refine rq (out:=Pr.i64 0) ae ?_
 refine ar ?_
 obtain⟨z3l,hz3,h⟩:=ah h
 obtain⟨n3,hN3⟩:=a4 hz3
 clear hz3
 refine bp 0 (fun e C=>gx x1 x2 x3=some r/\At [(3,ap b4 0),(4,ap b5 0),(5,ap b6 0)] [Own.box b4 (aq 3 ab) x1,Own.box b5 (aq 3 Rp.bool) x2,Own.box b6 (aq 3 (ai ab)) x3] e C) ?_ ?_
 ·rintro e C ⟨h,hat2⟩
  refine W_at hat2 ?_
  clear hat2
  unfold gx at h
  refine W_rs ?_
  obtain⟨x17,hx17,h⟩:=ah h
  refine rq (out:=ap b4 (x17 * 1)) (nm Tryz.underlying31 Tryz.sizeOf9 hx17) ?_
  refine rq (out:=aj (List.getD x1 x17 [])) (a9 (R:=aq 3 ab) (a:=x1) (R':=ab) 0 ty9 (Sub.arr [] (di hx17))) ?_
  refine rq (out:=(ak).val (ApiSegment.mk [] (List.getD x1 x17 []))) (ja st38 ⟨(ApiSegment.mk [] (List.getD x1 x17 [])),⟨_,rfl,rfl,fun j fd hj hf=>by match j,hj with| 0,_=>cases hf;rfl| 1,h=>exact absurd rfl h|_+2,_=>cases hf⟩,rfl⟩) ?_
  obtain⟨x18,hx18,h⟩:=ah h
  refine rq (out:=ap b4 (x18 * 1)) (nm Tryz.underlying31 Tryz.sizeOf9 hx18) ?_
  refine rq (out:=aj (List.getD x1 x18 [])) (a9 (R:=aq 3 ab) (a:=x1) (R':=ab) 0 ty9 (Sub.arr [] (di hx18))) ?_
  refine rq (out:=(ak).val (ApiSegment.mk [] (List.getD x1 x18 []))) (ja st38 ⟨(ApiSegment.mk [] (List.getD x1 x18 [])),⟨_,rfl,rfl,fun j fd hj hf=>by match j,hj with| 0,_=>cases hf;rfl| 1,h=>exact absurd rfl h|_+2,_=>cases hf⟩,rfl⟩) ?_
  obtain⟨x19,hx19,h⟩:=ah h
  refine rq (out:=ap b4 (x19 * 1)) (nm Tryz.underlying31 Tryz.sizeOf9 hx19) ?_
  refine rq (out:=aj (List.getD x1 x19 [])) (a9 (R:=aq 3 ab) (a:=x1) (R':=ab) 0 ty9 (Sub.arr [] (di hx19))) ?_
  refine rq (out:=(ak).val (ApiSegment.mk [] (List.getD x1 x19 []))) (ja st38 ⟨(ApiSegment.mk [] (List.getD x1 x19 [])),⟨_,rfl,rfl,fun j fd hj hf=>by match j,hj with| 0,_=>cases hf;rfl| 1,h=>exact absurd rfl h|_+2,_=>cases hf⟩,rfl⟩) ?_
  refine rq (out:=(aq 3 Rp.bool).val x2) (a9 (R:=aq 3 Rp.bool) (a:=x2) (R':=aq 3 Rp.bool) 1 ty32 (Sub.refl _)) ?_
  obtain⟨⟨x20,x21,x22⟩,hx20,h⟩:=ah h
  refine rq (out:=bn [aj x20,Pr.bool x21,Pr.i64 x22]) (br (cells_Three_ok (ApiSegment.mk [] (List.getD x1 x17 [])) (ApiSegment.mk [] (List.getD x1 x18 [])) (ApiSegment.mk [] (List.getD x1 x19 [])) x2 _ hx20)) ?_
  refine rq (out:=bn [aj x20,Pr.bool x21,Pr.i64 x22]) ag ?_
  refine rq (out:=aj x20) a6 ?_
  refine rq (out:=Pr.bool x21) a6 ?_
  refine rq (out:=Pr.i64 x22) a6 ?_
  refine rq (out:=aj x20) ae ?_
  refine rq (out:=Pr.bool x21) ae ?_
  refine rq (out:=Pr.i64 x22) ae ?_
  refine W_rs ?_
  obtain⟨x23,hx23,h⟩:=ah h
  refine rq (out:=ap b4 (x23 * 1)) (nm Tryz.underlying31 Tryz.sizeOf9 hx23) ?_
  refine rq (out:=aj (List.getD x1 x23 [])) (a9 (R:=aq 3 ab) (a:=x1) (R':=ab) 0 ty9 (Sub.arr [] (di hx23))) ?_
  obtain⟨x24,hx24,h⟩:=ah h
  refine rq (out:=ap b4 (x24 * 1)) (nm Tryz.underlying31 Tryz.sizeOf9 hx24) ?_
  refine rq (out:=aj (List.getD x1 x24 [])) (a9 (R:=aq 3 ab) (a:=x1) (R':=ab) 0 ty9 (Sub.arr [] (di hx24))) ?_
  obtain⟨x25,hx25,h⟩:=ah h
  refine rq (out:=ap b4 (x25 * 1)) (nm Tryz.underlying31 Tryz.sizeOf9 hx25) ?_
  refine rq (out:=aj (List.getD x1 x25 [])) (a9 (R:=aq 3 ab) (a:=x1) (R':=ab) 0 ty9 (Sub.arr [] (di hx25))) ?_
  obtain⟨x26,hx26,h⟩:=ah h
  refine rq (out:=ap b5 (x26 * 1)) (nm Tryz.underlying32 Tryz.sizeOf4 hx26) ?_
  refine rq (out:=Pr.bool (List.getD x2 x26 false)) (a9 (R:=aq 3 Rp.bool) (a:=x2) (R':=Rp.bool) 1 ty4 (Sub.arr false (di hx26))) ?_
  obtain⟨x27,hx27,h⟩:=ah h
  refine rq (out:=ap b5 (x27 * 1)) (nm Tryz.underlying32 Tryz.sizeOf4 hx27) ?_
  refine rq (out:=Pr.bool (List.getD x2 x27 false)) (a9 (R:=aq 3 Rp.bool) (a:=x2) (R':=Rp.bool) 1 ty4 (Sub.arr false (di hx27))) ?_
  obtain⟨x28,hx28,h⟩:=ah h
  refine rq (out:=ap b5 (x28 * 1)) (nm Tryz.underlying32 Tryz.sizeOf4 hx28) ?_
  refine rq (out:=Pr.bool (List.getD x2 x28 false)) (a9 (R:=aq 3 Rp.bool) (a:=x2) (R':=Rp.bool) 1 ty4 (Sub.arr false (di hx28))) ?_
  obtain⟨⟨x29,x30,x31⟩,hx29,h⟩:=ah h
  refine rq (out:=bn [aj x29,Pr.bool x30,Pr.i64 x31]) (br (ref30_Three_ok (List.getD x1 x23 []) (List.getD x1 x24 []) (List.getD x1 x25 []) (List.getD x2 x26 false) (List.getD x2 x27 false) (List.getD x2 x28 false) _ hx29)) ?_
  refine rq (out:=bn [aj x29,Pr.bool x30,Pr.i64 x31]) ag ?_
  refine rq (out:=aj x29) a6 ?_
  refine rq (out:=Pr.bool x30) a6 ?_
  refine rq (out:=Pr.i64 x31) a6 ?_
  refine rq (out:=aj x29) ae ?_
  refine rq (out:=Pr.bool x30) ae ?_
  refine rq (out:=Pr.i64 x31) ae ?_
  refine W_rs ?_
  obtain⟨x32,hx32,h⟩:=ah h
  refine rq (out:=ap b6 (x32 * 1)) (nm Tryz.underlying34 Tryz.sizeOf33 hx32) ?_
  refine rq (out:=af ab (List.getD x3 x32 [])) (a9 (R:=aq 3 (ai ab)) (a:=x3) (R':=ai ab) 2 ty33 (Sub.arr [] (di hx32))) ?_
  obtain⟨x33,hx33,h⟩:=ah h
  refine rq (out:=ap b6 (x33 * 1)) (nm Tryz.underlying34 Tryz.sizeOf33 hx33) ?_
  refine rq (out:=af ab (List.getD x3 x33 [])) (a9 (R:=aq 3 (ai ab)) (a:=x3) (R':=ai ab) 2 ty33 (Sub.arr [] (di hx33))) ?_
  obtain⟨x34,hx34,h⟩:=ah h
  refine rq (out:=ap b6 (x34 * 1)) (nm Tryz.underlying34 Tryz.sizeOf33 hx34) ?_
  refine rq (out:=af ab (List.getD x3 x34 [])) (a9 (R:=aq 3 (ai ab)) (a:=x3) (R':=ai ab) 2 ty33 (Sub.arr [] (di hx34))) ?_
  obtain⟨⟨x35,x36⟩,hx35,h⟩:=ah h
  refine rq (out:=bn [af ab x35,Pr.bool x36]) (br (cells_Order_ok (List.getD x3 x32 []) (List.getD x3 x33 []) (List.getD x3 x34 []) _ hx35)) ?_
  refine rq (out:=bn [af ab x35,Pr.bool x36]) ag ?_
  refine rq (out:=af ab x35) a6 ?_
  refine rq (out:=Pr.bool x36) a6 ?_
  refine rq (out:=af ab x35) ae ?_
  refine rq (out:=Pr.bool x36) ae ?_
  refine W_rs ?_
  obtain⟨x37,hx37,h⟩:=ah h
  refine rq (out:=ap b6 (x37 * 1)) (nm Tryz.underlying34 Tryz.sizeOf33 hx37) ?_
  refine rq (out:=af ab (List.getD x3 x37 [])) (a9 (R:=aq 3 (ai ab)) (a:=x3) (R':=ai ab) 2 ty33 (Sub.arr [] (di hx37))) ?_
  obtain⟨x38,hx38,h⟩:=ah h
  refine rq (out:=ap b6 (x38 * 1)) (nm Tryz.underlying34 Tryz.sizeOf33 hx38) ?_
  refine rq (out:=af ab (List.getD x3 x38 [])) (a9 (R:=aq 3 (ai ab)) (a:=x3) (R':=ai ab) 2 ty33 (Sub.arr [] (di hx38))) ?_
  obtain⟨x39,hx39,h⟩:=ah h
  refine rq (out:=ap b6 (x39 * 1)) (nm Tryz.underlying34 Tryz.sizeOf33 hx39) ?_
  refine rq (out:=af ab (List.getD x3 x39 [])) (a9 (R:=aq 3 (ai ab)) (a:=x3) (R':=ai ab) 2 ty33 (Sub.arr [] (di hx39))) ?_
  obtain⟨⟨x40,x41⟩,hx40,h⟩:=ah h
  refine rq (out:=bn [af ab x40,Pr.bool x41]) (br (ref30_Order_ok (List.getD x3 x37 []) (List.getD x3 x38 []) (List.getD x3 x39 []) _ hx40)) ?_
  refine rq (out:=bn [af ab x40,Pr.bool x41]) ag ?_
  refine rq (out:=af ab x40) a6 ?_
  refine rq (out:=Pr.bool x41) a6 ?_
  refine rq (out:=af ab x40) ae ?_
  refine rq (out:=Pr.bool x41) ae ?_
  refine bg (fun e C=>∃(x61:Bool),dr x61=some r/\At [(6,Pr.bool x61)] [Own.box b4 (aq 3 ab) x1,Own.box b5 (aq 3 Rp.bool) x2,Own.box b6 (aq 3 (ai ab)) x3] e C) ?_ ?_
  ·rintro e C ⟨x61,h,hat1⟩
   refine W_at hat1 ?_
   clear hat1
   unfold dr at h
   obtain rfl:=Option.some.inj h
   exact bb ⟨rfl,aa⟩
  refine W_r ?_
  refine rq (out:=aj x20) ag ?_
  refine rq (out:=aj x29) ag ?_
  refine rq (out:=Pr.bool (x20==x29)) qStr ?_
  refine rq (out:=Pr.bool (x20==x29)) ag ?_
  rcases bc h with⟨hc42,h⟩|⟨hc42,h⟩
  ·refine rqg hc42 (out:=Pr.bool x21) ag ?_
   refine rqg hc42 (out:=Pr.bool x30) ag ?_
   refine rqg hc42 (out:=Pr.bool (x21==x30)) (qBoolEq Tryz.underlying4) ?_
   refine rq (out:=Pr.bool (x21==x30)) (bo hc42) ?_
   refine rq (out:=Pr.bool (x21==x30)) ag ?_
   rcases bc h with⟨hc43,h⟩|⟨hc43,h⟩
   ·refine rqg hc43 (out:=Pr.i64 x22) ag ?_
    refine rqg hc43 (out:=Pr.i64 x31) ag ?_
    refine rqg hc43 (out:=Pr.bool (x22==x31)) qInt ?_
    refine rq (out:=Pr.bool (x22==x31)) (bo hc43) ?_
    refine rq (out:=Pr.bool (x22==x31)) ag ?_
    rcases bc h with⟨hc44,h⟩|⟨hc44,h⟩
    ·refine rqg hc44 (out:=af ab x35) ag ?_
     refine rqg hc44 (out:=af ab x40) ag ?_
     obtain⟨x45,hx45,h⟩:=ah h
     refine rqg hc44 (out:=Pr.bool x45) (br (ref01_Same_ok x35 x40 _ hx45)) ?_
     refine rq (out:=Pr.bool x45) (bo hc44) ?_
     refine rq (out:=Pr.bool x45) ag ?_
     rcases bc h with⟨hc46,h⟩|⟨hc46,h⟩
     ·refine rqg hc46 (out:=Pr.bool x36) ag ?_
      refine rqg hc46 (out:=Pr.bool x41) ag ?_
      refine rqg hc46 (out:=Pr.bool (x36==x41)) (qBoolEq Tryz.underlying4) ?_
      refine rq (out:=Pr.bool (x36==x41)) (bo hc46) ?_
      refine rq (out:=Pr.bool (x36==x41)) ae ?_
      exact⟨x36==x41,h,⟨⟨aa,trivial⟩,Pick.refl _⟩⟩
     refine rno (neT hc46) ?_
     refine rno (neT hc46) ?_
     refine rno (neT hc46) ?_
     refine rq (out:=Pr.bool false) (az hc46) ?_
     refine rq (out:=Pr.bool false) ae ?_
     exact⟨false,h,⟨⟨aa,trivial⟩,Pick.refl _⟩⟩
    refine rno (neT hc44) ?_
    refine rno (neT hc44) ?_
    refine rno (neT hc44) ?_
    refine rq (out:=Pr.bool false) (az hc44) ?_
    refine rq (out:=Pr.bool false) ag ?_
    have hc47:false=false:=rfl
    refine rno (neT hc47) ?_
    refine rno (neT hc47) ?_
    refine rno (neT hc47) ?_
    refine rq (out:=Pr.bool false) (az hc47) ?_
    refine rq (out:=Pr.bool false) ae ?_
    exact⟨false,h,⟨⟨aa,trivial⟩,Pick.refl _⟩⟩
   refine rno (neT hc43) ?_
   refine rno (neT hc43) ?_
   refine rno (neT hc43) ?_
   refine rq (out:=Pr.bool false) (az hc43) ?_
   refine rq (out:=Pr.bool false) ag ?_
   have hc48:false=false:=rfl
   refine rno (neT hc48) ?_
   refine rno (neT hc48) ?_
   refine rno (neT hc48) ?_
   refine rq (out:=Pr.bool false) (az hc48) ?_
   refine rq (out:=Pr.bool false) ag ?_
   have hc51:false=false:=rfl
   refine rno (neT hc51) ?_
   refine rno (neT hc51) ?_
   refine rno (neT hc51) ?_
   refine rq (out:=Pr.bool false) (az hc51) ?_
   refine rq (out:=Pr.bool false) ae ?_
   exact⟨false,h,⟨⟨aa,trivial⟩,Pick.refl _⟩⟩
  refine rno (neT hc42) ?_
  refine rno (neT hc42) ?_
  refine rno (neT hc42) ?_
  refine rq (out:=Pr.bool false) (az hc42) ?_
  refine rq (out:=Pr.bool false) ag ?_
  have hc52:false=false:=rfl
  refine rno (neT hc52) ?_
  refine rno (neT hc52) ?_
  refine rno (neT hc52) ?_
  refine rq (out:=Pr.bool false) (az hc52) ?_
  refine rq (out:=Pr.bool false) ag ?_
  have hc57:false=false:=rfl
  refine rno (neT hc57) ?_
  refine rno (neT hc57) ?_
  refine rno (neT hc57) ?_
  refine rq (out:=Pr.bool false) (az hc57) ?_
  refine rq (out:=Pr.bool false) ag ?_
  have hc60:false=false:=rfl
  refine rno (neT hc60) ?_
  refine rno (neT hc60) ?_
  refine rno (neT hc60) ?_
  refine rq (out:=Pr.bool false) (az hc60) ?_
  refine rq (out:=Pr.bool false) ae ?_
  exact⟨false,h,⟨⟨aa,trivial⟩,Pick.refl _⟩⟩
 refine cd (fun m e C=>∃(x9:Int),cz (fun s=>ct x1 x3 s) m x9=some z3l/\At [(3,ap b4 0),(4,ap b5 0),(5,ap b6 0),(8,Pr.i64 x9)] [Own.box b4 (aq 3 ab) x1,Own.box b5 (aq 3 Rp.bool) x2,Own.box b6 (aq 3 (ai ab)) x3] e C) n3 ⟨0,hN3,⟨⟨aa,aa,aa,aa,trivial⟩,Pick.refl _⟩⟩ ?_
 clear hN3
 rintro m e C ⟨x9,hN3,hatl3⟩
 refine W_at hatl3 ?_
 clear hatl3
 obtain⟨m3,w3l,rfl,h3l,hn3,ho3⟩:=ay hN3
 clear hN3
 replace h3l:ct x1 x3 x9=some w3l:=h3l
 unfold ct at h3l
 refine aw ?_
 refine W_rs ?_
 refine rq (out:=Pr.i64 x9) ag ?_
 refine rq (out:=Pr.bool (decide (x9<3))) qInt ?_
 refine au (b:=decide (x9<3)) rfl (fun hc11=> ?_) (fun hc11=> ?_)
 ·replace h3l:=iteT hc11 h3l
  refine av ?_
  refine aw ?_
  refine ar ?_
  refine bg (fun e C=>∃(x15:Bool),gy x9 x15=some w3l/\At [(3,ap b4 0),(4,ap b5 0),(5,ap b6 0),(8,Pr.i64 x9),(37,Pr.bool x15)] [Own.box b4 (aq 3 ab) x1,Own.box b5 (aq 3 Rp.bool) x2,Own.box b6 (aq 3 (ai ab)) x3] e C) ?_ ?_
  ·rintro e C ⟨x15,h3l,hat4⟩
   refine W_at hat4 ?_
   clear hat4
   unfold gy at h3l
   refine au (b:=x15) rfl (fun hc16=> ?_) (fun hc16=> ?_)
   ·replace h3l:=iteT hc16 h3l
    refine W_rs ?_
    refine rq (out:=Pr.bool true) ae ?_
    obtain rfl:=ho3 _ (Option.some.inj h3l).symm
    replace h:some true=some r:=h
    obtain rfl:=Option.some.inj h
    exact bb ⟨rfl,aa⟩
   replace h3l:=iteF hc16 h3l
   refine av ?_
   refine W_r ?_
   refine rq (out:=Pr.i64 x9) ag ?_
   refine rq (out:=Pr.i64 (w64 (x9+1))) qInt ?_
   refine rq (out:=Pr.i64 (w64 (x9+1))) ae ?_
   exact⟨m3,Nat.lt_succ_self _,w64 (x9+1),hn3 _ (Option.some.inj h3l).symm,⟨⟨aa,aa,aa,aa,trivial⟩,Pick.refl _⟩⟩
  refine W_r ?_
  refine rq (out:=Pr.i64 x9) ag ?_
  obtain⟨x12,hx12,h3l⟩:=ah h3l
  refine rq (out:=ap b4 (x12 * 1)) (nm Tryz.underlying31 Tryz.sizeOf9 hx12) ?_
  refine rq (out:=aj (List.getD x1 x12 [])) (a9 (R:=aq 3 ab) (a:=x1) (R':=ab) 0 ty9 (Sub.arr [] (di hx12))) ?_
  refine rq (out:=Pr.i64 ((List.getD x1 x12 []).length:Int)) (qLenS rfl Tryz.underlying9) ?_
  refine rq (out:=Pr.bool (decide (((List.getD x1 x12 []).length:Int)>300))) qInt ?_
  refine rq (out:=Pr.bool (decide (((List.getD x1 x12 []).length:Int)>300))) ag ?_
  rcases bc h3l with⟨hc13,h3l⟩|⟨hc13,h3l⟩
  ·refine rno (neF hc13) ?_
   refine rno (neF hc13) ?_
   refine rno (neF hc13) ?_
   refine rno (neF hc13) ?_
   refine rno (neF hc13) ?_
   refine rq (out:=Pr.bool true) (bo hc13) ?_
   exact⟨true,h3l,⟨⟨aa,aa,aa,aa,aa,trivial⟩,Pick.refl _⟩⟩
  refine rqg hc13 (out:=Pr.i64 x9) ag ?_
  obtain⟨x14,hx14,h3l⟩:=ah h3l
  refine rqg hc13 (out:=ap b6 (x14 * 1)) (nm Tryz.underlying34 Tryz.sizeOf33 hx14) ?_
  refine rqg hc13 (out:=af ab (List.getD x3 x14 [])) (a9 (R:=aq 3 (ai ab)) (a:=x3) (R':=ai ab) 2 ty33 (Sub.arr [] (di hx14))) ?_
  refine rqg hc13 (out:=Pr.i64 ((List.getD x3 x14 []).length:Int)) (cl rfl Tryz.underlying33) ?_
  refine rqg hc13 (out:=Pr.bool (decide (((List.getD x3 x14 []).length:Int)>30))) qInt ?_
  refine rq (out:=Pr.bool (decide (((List.getD x3 x14 []).length:Int)>30))) (az hc13) ?_
  exact⟨decide (((List.getD x3 x14 []).length:Int)>30),h3l,⟨⟨aa,aa,aa,aa,aa,trivial⟩,Pick.refl _⟩⟩
 replace h3l:=iteF hc11 h3l
 refine bw ?_
 obtain rfl:=ho3 _ (Option.some.inj h3l).symm
 exact⟨h,⟨⟨aa,aa,aa,trivial⟩,Pick.refl _⟩⟩
end Go.Proofs.YtphkaogfinjbjaaGreatDoor
