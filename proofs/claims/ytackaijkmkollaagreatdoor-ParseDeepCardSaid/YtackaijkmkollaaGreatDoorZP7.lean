/- The code comes to what these functions say (printed by wip/gen/gen.py). -/
import Derived.Test.YtackaijkmkollaaGreatDoorZP6
import Derived.Test.YtackaijkmkollaaGreatDoorZT
set_option linter.unusedSimpArgs false
set_option linter.unusedVariables false
set_option linter.unusedSectionVars false
set_option linter.unusedSectionVars false
set_option maxRecDepth 100000
set_option maxHeartbeats 4000000
namespace Go.Proofs.YtackaijkmkollaaGreatDoor
open Go Go.Cn
variable [Known]
theorem law12_ParseDeep_ok (x1 x2:Int) (r:Bool) (h:gi x1 x2=some r):FnP Tryz.prog 6 [Pr.i64 x1,Pr.i64 x2] (Pr.bool r):=by
 refine de (n:=79) (rs:=[4]) Tryz.func6 rfl Tryz.ntmps6 ⟨by decide,Tryz.results6⟩ (by decide) (fun s0=> ?_)
 unfold gi at h
 refine W_rs ?_
 refine rq (out:=Pr.bool false) ag ?_
 refine W_rs ?_
 obtain⟨x3,hx3,h⟩:=ai h
 refine rq (out:=Pr.bool x3) (dp (law12_awake_ok _ hx3)) ?_
 refine rq (out:=Pr.bool x3) ag ?_
 refine cy ?_
 refine W_rs ?_
 refine rq (out:=Pr.bool x3) ah ?_
 refine rq (out:=Pr.bool (!x3)) qNot ?_
 refine a8 (b:= !x3) rfl (fun hc4=> ?_) (fun hc4=> ?_)
 ·replace h:=iteT hc4 h
  refine W_rs ?_
  refine rq (out:=Pr.bool false) ag ?_
  obtain rfl:=Option.some.inj h
  exact bk ⟨rfl,aa⟩
 replace h:=iteF hc4 h
 refine bj ?_
 refine W_rs ?_
 refine rq (out:=Pr.i64 x1) ah ?_
 refine rq (out:=Pr.i64 (bits .and .i64 x1 127)) (qBits (by simp) rfl) ?_
 refine rq (out:=Pr.i64 (bits .and .i64 x1 127)) ag ?_
 refine W_rs ?_
 refine rq (out:=av a7 ([([40]:List UInt8),([33]:List UInt8),([45]:List UInt8),([102,40]:List UInt8)]:List (List UInt8))) (qBuildSlice (R:=a7) (ls:=([([40]:List UInt8),([33]:List UInt8),([45]:List UInt8),([102,40]:List UInt8)]:List (List UInt8))) el44 (Nat.le_of_ble_eq_true rfl) ⟨rfl,rfl⟩ ⟨rfl,rfl,rfl,rfl,trivial⟩) ?_
 refine rq (out:=av a7 ([([40]:List UInt8),([33]:List UInt8),([45]:List UInt8),([102,40]:List UInt8)]:List (List UInt8))) ag ?_
 refine W_rs ?_
 refine rq (out:=av a7 ([([41]:List UInt8),[],[],([41]:List UInt8)]:List (List UInt8))) (qBuildSlice (R:=a7) (ls:=([([41]:List UInt8),[],[],([41]:List UInt8)]:List (List UInt8))) el44 (Nat.le_of_ble_eq_true rfl) ⟨rfl,rfl⟩ ⟨rfl,rfl,rfl,rfl,trivial⟩) ?_
 refine rq (out:=av a7 ([([41]:List UInt8),[],[],([41]:List UInt8)]:List (List UInt8))) ag ?_
 refine W_rs ?_
 refine rq (out:=Pr.i64 x2) ah ?_
 refine rq (out:=Pr.i64 (bits .and .i64 x2 3)) (qBits (by simp) rfl) ?_
 refine rq (out:=Pr.i64 (bits .and .i64 x2 3)) ag ?_
 refine W_rs ?_
 refine rq (out:=ap []) ag ?_
 refine W_rs ?_
 refine rq (out:=ap []) ag ?_
 refine W_rs ?_
 refine rq (out:=ap []) ag ?_
 refine W_rs ?_
 refine rq (out:=ap []) ag ?_
 refine cy ?_
 refine W_rs ?_
 refine rq (out:=Pr.i64 0) ag ?_
 refine bt ?_
 obtain⟨z4l,hz4,h⟩:=ai h
 obtain⟨n4,hN4⟩:=dl hz4
 clear hz4
 refine W_after 0 (fun e C=>∃(x5:List UInt8),∃(x6:List UInt8),∃(x7:List UInt8),∃(x8:List UInt8),ga x1 x5 x6 x7 x8=some r/\At [(6,Pr.i64 (bits .and .i64 x1 127)),(10,ap x5),(11,ap x6),(12,ap x7),(13,ap x8)] [] e C) ?_ ?_
 ·rintro e C ⟨x5,x6,x7,x8,h,hat3⟩
  refine W_at hat3 ?_
  clear hat3
  unfold ga at h
  refine W_rs ?_
  refine rq (out:=ap x5) ah ?_
  obtain⟨x22,hx22,h⟩:=ai h
  refine rq (out:=ap x22) (qCat' hx22) ?_
  refine rq (out:=ap x6) ah ?_
  obtain⟨x23,hx23,h⟩:=ai h
  refine rq (out:=ap x23) (qCat' hx23) ?_
  obtain⟨⟨x24,x25⟩,hx24,h⟩:=ai h
  refine rq (out:=bv [(rApiNode).val x24,(af).val x25]) (dp (parse_Expression_ok x23 _ hx24)) ?_
  refine rq (out:=bv [(rApiNode).val x24,(af).val x25]) ah ?_
  refine rq (out:=(rApiNode).val x24) bi ?_
  refine rq (out:=(af).val x25) bi ?_
  refine bb (R:=rApiNode) (z:=(ApiNode.mk 0 [] [] 0 0 0 0 0 [])) Tryz.zeroValue32 (fun _=>(by rw[ao];exact⟨_,⟨_,_,rfl,rfl,⟨_,_,rfl,rfl,⟨_,_,rfl,rfl,⟨_,_,rfl,rfl,⟨_,_,rfl,rfl,⟨_,_,rfl,rfl,⟨_,_,rfl,rfl,⟨_,_,rfl,rfl,⟨_,_,rfl,⟨_,rfl,none,0,rfl,⟨Nat.le_refl _,fun _=>rfl⟩,.inl rfl⟩,rfl⟩⟩⟩⟩⟩⟩⟩⟩⟩,rfl⟩)) (fun b26=> ?_)
  refine bb (R:=af) (z:=(ApiMistake.mk 0 0 0)) Tryz.zeroValue27 (fun _=>⟨_,⟨_,_,rfl,rfl,⟨_,_,rfl,rfl,⟨_,_,rfl,rfl,rfl⟩⟩⟩,rfl⟩) (fun b27=> ?_)
  refine ay (R:=rApiNode) (R':=rApiNode) (a:=(ApiNode.mk 0 [] [] 0 0 0 0 0 [])) (y:=x24) 0 Tryz.sizeOf32 (Upd.refl _) ?_
  refine ay (R:=af) (R':=af) (a:=(ApiMistake.mk 0 0 0)) (y:=x25) 1 Tryz.sizeOf27 (Upd.refl _) ?_
  refine W_rs ?_
  refine rq (out:=ap x7) ah ?_
  obtain⟨x28,hx28,h⟩:=ai h
  refine rq (out:=ap x28) (qCat' hx28) ?_
  refine rq (out:=ap x8) ah ?_
  obtain⟨x29,hx29,h⟩:=ai h
  refine rq (out:=ap x29) (qCat' hx29) ?_
  obtain⟨x30,hx30,h⟩:=ai h
  refine rq (out:=ap x30) (qCat' hx30) ?_
  obtain⟨⟨x31,x32⟩,hx31,h⟩:=ai h
  refine rq (out:=bv [(rApiNode).val x31,(af).val x32]) (dp (parse_Statement_ok x30 _ hx31)) ?_
  refine rq (out:=bv [(rApiNode).val x31,(af).val x32]) ah ?_
  refine rq (out:=(rApiNode).val x31) bi ?_
  refine rq (out:=(af).val x32) bi ?_
  refine bb (R:=rApiNode) (z:=(ApiNode.mk 0 [] [] 0 0 0 0 0 [])) Tryz.zeroValue32 (fun _=>(by rw[ao];exact⟨_,⟨_,_,rfl,rfl,⟨_,_,rfl,rfl,⟨_,_,rfl,rfl,⟨_,_,rfl,rfl,⟨_,_,rfl,rfl,⟨_,_,rfl,rfl,⟨_,_,rfl,rfl,⟨_,_,rfl,rfl,⟨_,_,rfl,⟨_,rfl,none,0,rfl,⟨Nat.le_refl _,fun _=>rfl⟩,.inl rfl⟩,rfl⟩⟩⟩⟩⟩⟩⟩⟩⟩,rfl⟩)) (fun b33=> ?_)
  refine bb (R:=af) (z:=(ApiMistake.mk 0 0 0)) Tryz.zeroValue27 (fun _=>⟨_,⟨_,_,rfl,rfl,⟨_,_,rfl,rfl,⟨_,_,rfl,rfl,rfl⟩⟩⟩,rfl⟩) (fun b34=> ?_)
  refine ay (R:=rApiNode) (R':=rApiNode) (a:=(ApiNode.mk 0 [] [] 0 0 0 0 0 [])) (y:=x31) 2 Tryz.sizeOf32 (Upd.refl _) ?_
  refine ay (R:=af) (R':=af) (a:=(ApiMistake.mk 0 0 0)) (y:=x32) 3 Tryz.sizeOf27 (Upd.refl _) ?_
  refine W_rs ?_
  refine rq (out:=Pr.i64 0) ag ?_
  refine cc (fun e C=>∃(x36:Int),dw x25 x32 x36=some r/\At [(16,aj b27 0),(18,aj b34 0),(19,Pr.i64 x36)] [Own.box b26 rApiNode x24,Own.box b27 af x25,Own.box b33 rApiNode x31,Own.box b34 af x32] e C) ?_ ?_
  ·rintro e C ⟨x36,h,hat2⟩
   refine W_at hat2 ?_
   clear hat2
   unfold dw at h
   refine cc (fun e C=>∃(x38:Bool),gb x38=some r/\At [(4,Pr.bool x38)] [Own.box b26 rApiNode x24,Own.box b27 af x25,Own.box b33 rApiNode x31,Own.box b34 af x32] e C) ?_ ?_
   ·rintro e C ⟨x38,h,hat1⟩
    refine W_at hat1 ?_
    clear hat1
    unfold gb at h
    obtain rfl:=Option.some.inj h
    exact bk ⟨rfl,aa⟩
   refine W_r ?_
   refine rq (out:=aj b27 0) (a6 fld27_0) ?_
   refine rq (out:=Pr.i64 x25.Code) (bd (R:=af) (a:=x25) (R':=Rp.int .i64) 1 ty25 cu) ?_
   refine rq (out:=Pr.i64 x36) ah ?_
   refine rq (out:=Pr.bool (x25.Code==x36)) qInt ?_
   refine rq (out:=Pr.bool (x25.Code==x36)) ah ?_
   rcases cd h with⟨hc37,h⟩|⟨hc37,h⟩
   ·refine rqg hc37 (out:=aj b34 0) (a6 fld27_0) ?_
    refine rqg hc37 (out:=Pr.i64 x32.Code) (bd (R:=af) (a:=x32) (R':=Rp.int .i64) 3 ty25 cu) ?_
    refine rqg hc37 (out:=Pr.i64 x36) ah ?_
    refine rqg hc37 (out:=Pr.bool (x32.Code==x36)) qInt ?_
    refine rq (out:=Pr.bool (x32.Code==x36)) (dk hc37) ?_
    refine rq (out:=Pr.bool (x32.Code==x36)) ag ?_
    exact⟨x32.Code==x36,h,⟨⟨aa,trivial⟩,Pick.refl _⟩⟩
   refine rno (neT hc37) ?_
   refine rno (neT hc37) ?_
   refine rno (neT hc37) ?_
   refine rno (neT hc37) ?_
   refine rq (out:=Pr.bool false) (aw hc37) ?_
   refine rq (out:=Pr.bool false) ag ?_
   exact⟨false,h,⟨⟨aa,trivial⟩,Pick.refl _⟩⟩
  refine W_rs ?_
  refine rq (out:=Pr.i64 (bits .and .i64 x1 127)) ah ?_
  refine rq (out:=Pr.bool (decide ((bits .and .i64 x1 127)>59))) qInt ?_
  refine a8 (b:=decide ((bits .and .i64 x1 127)>59)) rfl (fun hc35=> ?_) (fun hc35=> ?_)
  ·replace h:=iteT hc35 h
   refine W_r ?_
   refine rq (out:=Pr.i64 2) ag ?_
   exact⟨2,h,⟨⟨aa,aa,aa,trivial⟩,Pick.refl _⟩⟩
  replace h:=iteF hc35 h
  refine bj ?_
  exact⟨0,h,⟨⟨aa,aa,aa,trivial⟩,Pick.refl _⟩⟩
 refine W_loop (fun m e C=>∃(x5:List UInt8),∃(x6:List UInt8),∃(x7:List UInt8),∃(x8:List UInt8),∃(x9:Int),fw (fun s=>f8 x1 x2 s.1 s.2.1 s.2.2.1 s.2.2.2.1 s.2.2.2.2) m (x5,x6,x7,x8,x9)=some z4l/\At [(6,Pr.i64 (bits .and .i64 x1 127)),(7,av a7 ([([40]:List UInt8),([33]:List UInt8),([45]:List UInt8),([102,40]:List UInt8)]:List (List UInt8))),(8,av a7 ([([41]:List UInt8),[],[],([41]:List UInt8)]:List (List UInt8))),(9,Pr.i64 (bits .and .i64 x2 3)),(10,ap x5),(11,ap x6),(12,ap x7),(13,ap x8),(14,Pr.i64 x9)] [] e C) n4 ⟨[],[],[],[],0,hN4,⟨⟨aa,aa,aa,aa,aa,aa,aa,aa,aa,trivial⟩,Pick.refl _⟩⟩ ?_
 clear hN4
 rintro m e C ⟨x5,x6,x7,x8,x9,hN4,hatl4⟩
 refine W_at hatl4 ?_
 clear hatl4
 obtain⟨m4,w4l,rfl,h4l,hn4,ho4⟩:=dr hN4
 clear hN4
 replace h4l:f8 x1 x2 x5 x6 x7 x8 x9=some w4l:=h4l
 unfold f8 at h4l
 refine cy ?_
 refine W_rs ?_
 refine rq (out:=Pr.i64 x9) ah ?_
 refine rq (out:=Pr.i64 (bits .and .i64 x1 127)) ah ?_
 refine rq (out:=Pr.bool (decide (x9<(bits .and .i64 x1 127)))) qInt ?_
 refine a8 (b:=decide (x9<(bits .and .i64 x1 127))) rfl (fun hc15=> ?_) (fun hc15=> ?_)
 ·replace h4l:=iteT hc15 h4l
  refine bj ?_
  refine cy ?_
  refine bt ?_
  refine W_rs ?_
  refine rq (out:=ap x5) ah ?_
  refine rq (out:=av a7 ([([40]:List UInt8),([33]:List UInt8),([45]:List UInt8),([102,40]:List UInt8)]:List (List UInt8))) ah ?_
  refine rq (out:=Pr.i64 (bits .and .i64 x2 3)) ah ?_
  obtain⟨x16,hx16,h4l⟩:=ai h4l
  refine rq (out:=bo a7 x16) (qIdxA (R:=a7) (l:=([([40]:List UInt8),([33]:List UInt8),([45]:List UInt8),([102,40]:List UInt8)]:List (List UInt8))) Tryz.underlying44 Tryz.sizeOf9 hx16) ?_
  refine rq (out:=ap x16) (gc (R:=a7) (a:=x16) ty9) ?_
  obtain⟨x17,hx17,h4l⟩:=ai h4l
  refine rq (out:=ap x17) (qCat' hx17) ?_
  refine rq (out:=ap x17) ag ?_
  refine W_rs ?_
  refine rq (out:=ap x6) ah ?_
  refine rq (out:=av a7 ([([41]:List UInt8),[],[],([41]:List UInt8)]:List (List UInt8))) ah ?_
  refine rq (out:=Pr.i64 (bits .and .i64 x2 3)) ah ?_
  obtain⟨x18,hx18,h4l⟩:=ai h4l
  refine rq (out:=bo a7 x18) (qIdxA (R:=a7) (l:=([([41]:List UInt8),[],[],([41]:List UInt8)]:List (List UInt8))) Tryz.underlying44 Tryz.sizeOf9 hx18) ?_
  refine rq (out:=ap x18) (gc (R:=a7) (a:=x18) ty9) ?_
  obtain⟨x19,hx19,h4l⟩:=ai h4l
  refine rq (out:=ap x19) (qCat' hx19) ?_
  refine rq (out:=ap x19) ag ?_
  refine W_rs ?_
  refine rq (out:=ap x7) ah ?_
  obtain⟨x20,hx20,h4l⟩:=ai h4l
  refine rq (out:=ap x20) (qCat' hx20) ?_
  refine rq (out:=ap x20) ag ?_
  refine W_r ?_
  refine rq (out:=ap x8) ah ?_
  obtain⟨x21,hx21,h4l⟩:=ai h4l
  refine rq (out:=ap x21) (qCat' hx21) ?_
  refine rq (out:=ap x21) ag ?_
  refine W_r ?_
  refine rq (out:=Pr.i64 x9) ah ?_
  refine rq (out:=Pr.i64 (w64 (x9+1))) qInt ?_
  refine rq (out:=Pr.i64 (w64 (x9+1))) ag ?_
  exact⟨m4,Nat.lt_succ_self _,x17,x19,x20,x21,w64 (x9+1),hn4 _ (Option.some.inj h4l).symm,⟨⟨aa,aa,aa,aa,aa,aa,aa,aa,aa,trivial⟩,Pick.refl _⟩⟩
 replace h4l:=iteF hc15 h4l
 refine iq ?_
 obtain rfl:=ho4 _ (Option.some.inj h4l).symm
 exact⟨x5,x6,x7,x8,h,⟨⟨aa,aa,aa,aa,aa,trivial⟩,Pick.refl _⟩⟩
end Go.Proofs.YtackaijkmkollaaGreatDoor
