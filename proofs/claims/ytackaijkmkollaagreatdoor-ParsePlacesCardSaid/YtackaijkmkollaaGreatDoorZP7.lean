/- The code comes to what these functions say (printed by wip/gen/gen.py). -/
import Derived.Test.YtackaijkmkollaaGreatDoorZP6
import Derived.Test.YtackaijkmkollaaGreatDoorZT
set_option linter.unusedSimpArgs false
set_option linter.unusedVariables false
set_option linter.unusedSectionVars false
set_option linter.unusedSectionVars false
set_option maxRecDepth 100000
set_option maxHeartbeats 4000000
namespace Go.Proofs.YtackaijkmkollaaGreatDoor
open Go Go.Cn
variable [Known]
theorem law12_short_ok (x1:List UInt8) (r:Bool) (h:law12_short x1=some r):FnP Tryz.prog 8 [au x1] (Pr.bool r):=by
 refine dm (n:=6) (rs:=[2]) Tryz.func8 rfl Tryz.ntmps8 ⟨by decide,Tryz.results8⟩ (by decide) (fun s0=> ?_)
 unfold law12_short at h
 refine W_rs ?_
 refine rq (out:=Pr.bool false) aj ?_
 refine W_rs ?_
 refine rq (out:=au x1) ai ?_
 refine rq (out:=Pr.i64 (x1.length:Int)) (qLenS rfl Tryz.underlying9) ?_
 refine rq (out:=Pr.bool (decide ((x1.length:Int)<=2500))) qInt ?_
 refine rq (out:=Pr.bool (decide ((x1.length:Int)<=2500))) aj ?_
 obtain rfl:=Option.some.inj h
 exact bk ⟨rfl,aa⟩
def rec_ref11_All_spec (R:dj):Prop:=(∀(x1:ApiNode) (x2:Int) (r:(List ApiNode)),R x1 x2=some r->FnP Tryz.prog 24 [(rApiNode).val x1,Pr.i64 x2] (aw rApiNode r))
theorem F_ref11_All_step (R:dj) (ih:rec_ref11_All_spec R) (x1:ApiNode) (x2:Int) (r:(List ApiNode)) (h:F_ref11_All R x1 x2=some r):FnP Tryz.prog 24 [(rApiNode).val x1,Pr.i64 x2] (aw rApiNode r):=by
 refine dm (n:=36) (rs:=[4]) Tryz.func24 rfl Tryz.ntmps24 ⟨by decide,Tryz.results24⟩ (by decide) (fun s0=> ?_)
 unfold F_ref11_All at h
 refine W_rs ?_
 refine rBox (R:=rApiNode) (a:=x1) rfl (fun b3=> ?_)
 refine rq (out:=Pr.is (.slice none 0 0)) aj ?_
 refine W_rs ?_
 refine rq (out:=Pr.is (.slice none 0 0)) aj ?_
 refine W_nil [5] rApiNode 32 (fun v4=> ?_) ⟨rfl,trivial⟩
 refine cl (fun e C=>∃(x11:List ApiNode),∃(v10:Value),ref11_All_j3 R x1 x2 x11=some r/\At [(1,Pr.i64 x2),(2,al b3 0),(5,Pr.is v10)] [Own.box b3 rApiNode x1,Own.vec v10 rApiNode x11 32] e C) ?_ ?_
 ·rintro e C ⟨x11,v10,h,hat3⟩
  refine W_at hat3 ?_
  clear hat3
  unfold ref11_All_j3 at h
  refine cv ?_
  refine W_rs ?_
  refine rq (out:=Pr.i64 0) aj ?_
  refine bx ?_
  obtain⟨z2l,hz2,h⟩:=ak h
  obtain⟨n2,hN2⟩:=dy hz2
  clear hz2
  refine W_after 0 (fun e C=>∃(x14:List ApiNode),∃(v12:Value),ref11_All_k1 R x14=some r/\At [(5,Pr.is v12)] [Own.box b3 rApiNode x1,Own.vec v12 rApiNode x14 32] e C) ?_ ?_
  ·rintro e C ⟨x14,v12,h,hat1⟩
   refine W_at hat1 ?_
   clear hat1
   unfold ref11_All_k1 at h
   refine W_rs ?_
   refine rq (out:=Pr.is v12) ai ?_
   refine rq (out:=Pr.is v12) aj ?_
   refine W_rel 1 [4] ?_ rfl ⟨rfl,trivial⟩
   obtain rfl:=Option.some.inj h
   exact bk ⟨rfl,aa⟩
  refine W_loop (fun m e C=>∃(x13:Int),∃(x14:List ApiNode),∃(v12:Value),ip (fun s=>kb R x1 x2 s.1 s.2) m (x13,x14)=some z2l/\At [(1,Pr.i64 x2),(2,al b3 0),(5,Pr.is v12),(6,Pr.i64 x13)] [Own.box b3 rApiNode x1,Own.vec v12 rApiNode x14 32] e C) n2 ⟨0,x11,v10,hN2,⟨⟨aa,aa,aa,aa,trivial⟩,Pick.refl _⟩⟩ ?_
  clear hN2
  rintro m e C ⟨x13,x14,v12,hN2,hatl2⟩
  refine W_at hatl2 ?_
  clear hatl2
  obtain⟨m2,w2l,rfl,h2l,hn2,ho2⟩:=dw hN2
  clear hN2
  replace h2l:kb R x1 x2 x13 x14=some w2l:=h2l
  unfold kb at h2l
  refine cv ?_
  refine W_rs ?_
  refine rq (out:=Pr.i64 x13) ai ?_
  refine rq (out:=al b3 8) (ax fld32_8) ?_
  refine rq (out:=aw rApiNode x1.Kids) (a6 (R:=rApiNode) (a:=x1) (R':=bc rApiNode) 0 ty24 ez) ?_
  refine rq (out:=Pr.i64 (x1.Kids.length:Int)) (qLenL rfl Tryz.underlying24) ?_
  refine rq (out:=Pr.bool (decide (x13<(x1.Kids.length:Int)))) qInt ?_
  refine bb (b:=decide (x13<(x1.Kids.length:Int))) rfl (fun hc18=> ?_) (fun hc18=> ?_)
  ·replace h2l:=iteT hc18 h2l
   refine bi ?_
   refine cv ?_
   refine bx ?_
   refine W_r ?_
   refine rq (out:=Pr.is v12) ai ?_
   refine rq (out:=al b3 8) (ax fld32_8) ?_
   refine rq (out:=aw rApiNode x1.Kids) (a6 (R:=rApiNode) (a:=x1) (R':=bc rApiNode) 0 ty24 ez) ?_
   refine rq (out:=Pr.i64 x13) ai ?_
   obtain⟨x19,hx19,h2l⟩:=ak h2l
   refine rq (out:=bn rApiNode x19) (qIdxA (R:=rApiNode) (l:=x1.Kids) Tryz.underlying24 Tryz.sizeOf32 hx19) ?_
   refine rq (out:=(rApiNode).val x19) (io (R:=rApiNode) (a:=x19) ty32) ?_
   refine rq (out:=Pr.i64 x2) ai ?_
   obtain⟨x20,hx20,h2l⟩:=ak h2l
   refine rq (out:=aw rApiNode x20) (en (ih x19 x2 _ hx20)) ?_
   obtain⟨x21,hx21,h2l⟩:=ak h2l
   refine jp 1 el24 hx21 (fun v22=> ?_)
   refine rq (out:=Pr.is v22) aj ?_
   refine W_r ?_
   refine rq (out:=Pr.i64 x13) ai ?_
   refine rq (out:=Pr.i64 (w64 (x13+1))) qInt ?_
   refine rq (out:=Pr.i64 (w64 (x13+1))) aj ?_
   exact⟨m2,Nat.lt_succ_self _,w64 (x13+1),x21,v22,hn2 _ (Option.some.inj h2l).symm,⟨⟨aa,aa,aa,aa,trivial⟩,Pick.refl _⟩⟩
  replace h2l:=iteF hc18 h2l
  refine ji ?_
  obtain rfl:=ho2 _ (Option.some.inj h2l).symm
  exact⟨x14,v12,h,⟨⟨aa,trivial⟩,Pick.refl _⟩⟩
 refine cl (fun e C=>∃(x6:Bool),ref11_All_j4 R x1 x2 x6=some r/\At [(1,Pr.i64 x2),(2,al b3 0),(5,Pr.is v4),(14,Pr.bool x6)] [Own.box b3 rApiNode x1,Own.vec v4 rApiNode [] 32] e C) ?_ ?_
 ·rintro e C ⟨x6,h,hat4⟩
  refine W_at hat4 ?_
  clear hat4
  unfold ref11_All_j4 at h
  refine bb (b:=x6) rfl (fun hc7=> ?_) (fun hc7=> ?_)
  ·replace h:=iteT hc7 h
   refine W_r ?_
   refine rq (out:=Pr.is v4) ai ?_
   refine rq (out:=(rApiNode).val x1) (a6 (R:=rApiNode) (a:=x1) (R':=rApiNode) 0 ty32 (Sub.refl _)) ?_
   refine rq (out:=aw rApiNode ([x1]:List ApiNode)) (cd (R:=rApiNode) (a:=x1) el24 (Nat.le_of_ble_eq_true rfl)) ?_
   obtain⟨x8,hx8,h⟩:=ak h
   refine jp 1 el24 hx8 (fun v9=> ?_)
   refine rq (out:=Pr.is v9) aj ?_
   exact⟨x8,v9,h,⟨⟨aa,aa,aa,trivial⟩,Pick.refl _⟩⟩
  replace h:=iteF hc7 h
  refine bi ?_
  exact⟨[],v4,h,⟨⟨aa,aa,aa,trivial⟩,Pick.refl _⟩⟩
 refine W_r ?_
 refine rq (out:=Pr.i64 x2) ai ?_
 refine rq (out:=Pr.bool (x2==0)) qInt ?_
 refine rq (out:=Pr.bool (x2==0)) ai ?_
 rcases bo h with⟨hc5,h⟩|⟨hc5,h⟩
 ·refine rno (neF hc5) ?_
  refine rno (neF hc5) ?_
  refine rno (neF hc5) ?_
  refine rno (neF hc5) ?_
  refine rq (out:=Pr.bool true) (cg hc5) ?_
  exact⟨true,h,⟨⟨aa,aa,aa,aa,trivial⟩,Pick.refl _⟩⟩
 refine rqg hc5 (out:=al b3 0) (ax fld32_0) ?_
 refine rqg hc5 (out:=Pr.i64 x1.Kind) (a6 (R:=rApiNode) (a:=x1) (R':=Rp.int .i64) 0 ty3 gg) ?_
 refine rqg hc5 (out:=Pr.i64 x2) ai ?_
 refine rqg hc5 (out:=Pr.bool (x1.Kind==x2)) qInt ?_
 refine rq (out:=Pr.bool (x1.Kind==x2)) (az hc5) ?_
 exact⟨x1.Kind==x2,h,⟨⟨aa,aa,aa,aa,trivial⟩,Pick.refl _⟩⟩
theorem rec_ref11_All_ok :∀n,rec_ref11_All_spec (gu n):=by
 intro n
 induction n with
 |zero=>exact(fun x1 x2 r h=>nomatch (show none=some r from h))
 |succ n ih=>exact(fun x1 x2 r h=>F_ref11_All_step (gu n) ih x1 x2 r h)
theorem ref11_All_ok (x1:ApiNode) (x2:Int) (r:(List ApiNode)) (h:ref11_All x1 x2=some r):FnP Tryz.prog 24 [(rApiNode).val x1,Pr.i64 x2] (aw rApiNode r):=(rec_ref11_All_ok 1048576) x1 x2 r h
theorem law12_within_ok (x1:List UInt8) (x2:ApiNode) (r:Bool) (h:law12_within x1 x2=some r):FnP Tryz.prog 10 [au x1,(rApiNode).val x2] (Pr.bool r):=by
 refine dm (n:=141) (rs:=[4]) Tryz.func10 rfl Tryz.ntmps10 ⟨by decide,Tryz.results10⟩ (by decide) (fun s0=> ?_)
 unfold law12_within at h
 refine W_rs ?_
 refine rBox (R:=rApiNode) (a:=x2) rfl (fun b3=> ?_)
 refine rq (out:=Pr.bool false) aj ?_
 refine W_rs ?_
 refine rq (out:=(rApiNode).val x2) (a6 (R:=rApiNode) (a:=x2) (R':=rApiNode) 0 ty32 (Sub.refl _)) ?_
 obtain⟨x4,hx4,h⟩:=ak h
 refine rq (out:=aw rApiNode x4) (en (ref11_All_ok x2 0 _ hx4)) ?_
 refine rq (out:=aw rApiNode x4) aj ?_
 refine cv ?_
 refine W_rs ?_
 refine rq (out:=Pr.i64 0) aj ?_
 refine bx ?_
 obtain⟨z2l,hz2,h⟩:=ak h
 obtain⟨n2,hN2⟩:=dy hz2
 clear hz2
 refine W_after 0 (fun e C=>law12_within_k1=some r/\At [] [Own.box b3 rApiNode x2] e C) ?_ ?_
 ·rintro e C ⟨h,hat1⟩
  refine W_at hat1 ?_
  clear hat1
  unfold law12_within_k1 at h
  refine W_rs ?_
  refine rq (out:=Pr.bool true) aj ?_
  obtain rfl:=Option.some.inj h
  exact bk ⟨rfl,aa⟩
 refine W_loop (fun m e C=>∃(x5:Int),ip (fun s=>iy x4 x1 s) m x5=some z2l/\At [(0,au x1),(5,aw rApiNode x4),(6,Pr.i64 x5)] [Own.box b3 rApiNode x2] e C) n2 ⟨0,hN2,⟨⟨aa,aa,aa,trivial⟩,Pick.refl _⟩⟩ ?_
 clear hN2
 rintro m e C ⟨x5,hN2,hatl2⟩
 refine W_at hatl2 ?_
 clear hatl2
 obtain⟨m2,w2l,rfl,h2l,hn2,ho2⟩:=dw hN2
 clear hN2
 replace h2l:iy x4 x1 x5=some w2l:=h2l
 unfold iy at h2l
 refine cv ?_
 refine W_rs ?_
 refine rq (out:=Pr.i64 x5) ai ?_
 refine rq (out:=aw rApiNode x4) ai ?_
 refine rq (out:=Pr.i64 (x4.length:Int)) (qLenL rfl Tryz.underlying24) ?_
 refine rq (out:=Pr.bool (decide (x5<(x4.length:Int)))) qInt ?_
 refine bb (b:=decide (x5<(x4.length:Int))) rfl (fun hc7=> ?_) (fun hc7=> ?_)
 ·replace h2l:=iteT hc7 h2l
  refine bi ?_
  refine cv ?_
  refine bx ?_
  refine W_rs ?_
  refine rq (out:=aw rApiNode x4) ai ?_
  refine rq (out:=Pr.i64 x5) ai ?_
  obtain⟨x8,hx8,h2l⟩:=ak h2l
  refine rq (out:=bn rApiNode x8) (qIdxA (R:=rApiNode) (l:=x4) Tryz.underlying24 Tryz.sizeOf32 hx8) ?_
  refine rq (out:=(rApiNode).val x8) (io (R:=rApiNode) (a:=x8) ty32) ?_
  refine bh (R:=rApiNode) (z:=(ApiNode.mk 0 [] [] 0 0 0 0 0 [])) Tryz.zeroValue32 (fun _=>(by rw[ap];exact⟨_,⟨_,_,rfl,rfl,⟨_,_,rfl,rfl,⟨_,_,rfl,rfl,⟨_,_,rfl,rfl,⟨_,_,rfl,rfl,⟨_,_,rfl,rfl,⟨_,_,rfl,rfl,⟨_,_,rfl,rfl,⟨_,_,rfl,⟨_,rfl,none,0,rfl,⟨Nat.le_refl _,fun _=>rfl⟩,.inl rfl⟩,rfl⟩⟩⟩⟩⟩⟩⟩⟩⟩,rfl⟩)) (fun b9=> ?_)
  refine a5 (R:=rApiNode) (R':=rApiNode) (a:=(ApiNode.mk 0 [] [] 0 0 0 0 0 [])) (y:=x8) 1 Tryz.sizeOf32 (Upd.refl _) ?_
  refine W_rs ?_
  refine rq (out:=al b9 4) (ax fld32_4) ?_
  refine rq (out:=Pr.i64 x8.From) (a6 (R:=rApiNode) (a:=x8) (R':=Rp.int .i64) 1 ty3 fa) ?_
  refine rq (out:=Pr.i64 x8.From) aj ?_
  refine cv ?_
  refine W_rs ?_
  refine rq (out:=Pr.i64 0) aj ?_
  refine bx ?_
  obtain⟨z6l,hz6,h2l⟩:=ak h2l
  obtain⟨n6,hN6⟩:=dy hz6
  clear hz6
  refine W_after 2 (fun e C=>law12_within_k5 x8 x5 x1=some w2l/\At [(0,au x1),(5,aw rApiNode x4),(6,Pr.i64 x5),(7,al b9 0)] [Own.box b3 rApiNode x2,Own.box b9 rApiNode x8] e C) ?_ ?_
  ·rintro e C ⟨h2l,hat5⟩
   refine W_at hat5 ?_
   clear hat5
   unfold law12_within_k5 at h2l
   refine cv ?_
   refine cl (fun e C=>∃(x37:Bool),ef x8 x5 x1 x37=some w2l/\At [(0,au x1),(5,aw rApiNode x4),(6,Pr.i64 x5),(7,al b9 0),(104,Pr.bool x37)] [Own.box b3 rApiNode x2,Own.box b9 rApiNode x8] e C) ?_ ?_
   ·rintro e C ⟨x37,h2l,hat4⟩
    refine W_at hat4 ?_
    clear hat4
    unfold ef at h2l
    refine bb (b:=x37) rfl (fun hc38=> ?_) (fun hc38=> ?_)
    ·replace h2l:=iteT hc38 h2l
     refine W_rs ?_
     refine rq (out:=Pr.bool false) aj ?_
     obtain rfl:=ho2 _ (Option.some.inj h2l).symm
     replace h:some false=some r:=h
     obtain rfl:=Option.some.inj h
     exact bk ⟨rfl,aa⟩
    replace h2l:=iteF hc38 h2l
    refine bi ?_
    refine cl (fun e C=>∃(x45:Bool),gi x5 x45=some w2l/\At [(0,au x1),(5,aw rApiNode x4),(6,Pr.i64 x5),(140,Pr.bool x45)] [Own.box b3 rApiNode x2,Own.box b9 rApiNode x8] e C) ?_ ?_
    ·rintro e C ⟨x45,h2l,hat3⟩
     refine W_at hat3 ?_
     clear hat3
     unfold gi at h2l
     refine bb (b:=x45) rfl (fun hc46=> ?_) (fun hc46=> ?_)
     ·replace h2l:=iteT hc46 h2l
      refine W_rs ?_
      refine rq (out:=Pr.bool false) aj ?_
      obtain rfl:=ho2 _ (Option.some.inj h2l).symm
      replace h:some false=some r:=h
      obtain rfl:=Option.some.inj h
      exact bk ⟨rfl,aa⟩
     replace h2l:=iteF hc46 h2l
     refine bi ?_
     refine W_r ?_
     refine rq (out:=Pr.i64 x5) ai ?_
     refine rq (out:=Pr.i64 (w64 (x5+1))) qInt ?_
     refine rq (out:=Pr.i64 (w64 (x5+1))) aj ?_
     exact⟨m2,Nat.lt_succ_self _,w64 (x5+1),hn2 _ (Option.some.inj h2l).symm,⟨⟨aa,aa,aa,trivial⟩,Pick.of [0] rfl⟩⟩
    refine W_draw 36 hmx (by kernel_rfl) (by kernel_rfl) ?_
    refine qq (out:=al b9 7) (ax fld32_7) ?_
    refine qq (out:=Pr.i64 x8.TypeAt) (a6 (R:=rApiNode) (a:=x8) (R':=Rp.int .i64) 1 ty3 i1) ?_
    refine qq (out:=Pr.bool (decide (x8.TypeAt≥0))) qInt ?_
    refine qq (out:=Pr.bool (decide (x8.TypeAt≥0))) ai ?_
    rcases bo h2l with⟨hc39,h2l⟩|⟨hc39,h2l⟩
    ·refine qqg hc39 (out:=al b9 7) (ax fld32_7) ?_
     refine qqg hc39 (out:=Pr.i64 x8.TypeAt) (a6 (R:=rApiNode) (a:=x8) (R':=Rp.int .i64) 1 ty3 i1) ?_
     refine qqg hc39 (out:=al b9 4) (ax fld32_4) ?_
     refine qqg hc39 (out:=Pr.i64 x8.From) (a6 (R:=rApiNode) (a:=x8) (R':=Rp.int .i64) 1 ty3 fa) ?_
     refine qqg hc39 (out:=Pr.bool (decide (x8.TypeAt<x8.From))) qInt ?_
     refine qqg hc39 (out:=Pr.bool (decide (x8.TypeAt<x8.From))) ai ?_
     rcases bo h2l with⟨hc40,h2l⟩|⟨hc40,h2l⟩
     ·refine qqno (neF hc40) ?_
      refine qqno (neF hc40) ?_
      refine qqno (neF hc40) ?_
      refine qqno (neF hc40) ?_
      refine qqno (neF hc40) ?_
      refine qqno (neF hc40) ?_
      refine qqno (neF hc40) ?_
      refine qqno (neF hc40) ?_
      refine qqno (neF hc40) ?_
      refine qqg hc39 (out:=Pr.bool true) (cg hc40) ?_
      refine qqg hc39 (out:=Pr.bool true) ai ?_
      have hc43:true=true:=rfl
      refine qqno (neF hc43) ?_
      refine qqno (neF hc43) ?_
      refine qqno (neF hc43) ?_
      refine qqno (neF hc43) ?_
      refine qqno (neF hc43) ?_
      refine qqno (neF hc43) ?_
      refine qqno (neF hc43) ?_
      refine qqno (neF hc43) ?_
      refine qqno (neF hc43) ?_
      refine qqno (neF hc43) ?_
      refine qqno (neF hc43) ?_
      refine qqno (neF hc43) ?_
      refine qqno (neF hc43) ?_
      refine qqg hc39 (out:=Pr.bool true) (cg hc43) ?_
      refine qq (out:=Pr.bool true) (cg hc39) ?_
      exact⟨true,h2l,⟨⟨aa,aa,aa,aa,trivial⟩,Pick.refl _⟩⟩
     refine qqg hc40 (out:=al b9 7) (ax fld32_7) ?_
     refine qqg hc40 (out:=Pr.i64 x8.TypeAt) (a6 (R:=rApiNode) (a:=x8) (R':=Rp.int .i64) 1 ty3 i1) ?_
     refine qqg hc40 (out:=al b9 2) (ax fld32_2) ?_
     refine qqg hc40 (out:=au x8.Type_) (a6 (R:=rApiNode) (a:=x8) (R':=bj) 1 ty9 subApiNode_Type) ?_
     refine qqg hc40 (out:=Pr.i64 (x8.Type_.length:Int)) (qLenS rfl Tryz.underlying9) ?_
     refine qqg hc40 (out:=Pr.i64 (w64 (x8.TypeAt+(x8.Type_.length:Int)))) qInt ?_
     refine qqg hc40 (out:=al b9 5) (ax fld32_5) ?_
     refine qqg hc40 (out:=Pr.i64 x8.To) (a6 (R:=rApiNode) (a:=x8) (R':=Rp.int .i64) 1 ty3 gw) ?_
     refine qqg hc40 (out:=Pr.bool (decide ((w64 (x8.TypeAt+(x8.Type_.length:Int)))>x8.To))) qInt ?_
     refine qqg hc39 (out:=Pr.bool (decide ((w64 (x8.TypeAt+(x8.Type_.length:Int)))>x8.To))) (az hc40) ?_
     refine qqg hc39 (out:=Pr.bool (decide ((w64 (x8.TypeAt+(x8.Type_.length:Int)))>x8.To))) ai ?_
     rcases bo h2l with⟨hc41,h2l⟩|⟨hc41,h2l⟩
     ·refine qqno (neF hc41) ?_
      refine qqno (neF hc41) ?_
      refine qqno (neF hc41) ?_
      refine qqno (neF hc41) ?_
      refine qqno (neF hc41) ?_
      refine qqno (neF hc41) ?_
      refine qqno (neF hc41) ?_
      refine qqno (neF hc41) ?_
      refine qqno (neF hc41) ?_
      refine qqno (neF hc41) ?_
      refine qqno (neF hc41) ?_
      refine qqno (neF hc41) ?_
      refine qqno (neF hc41) ?_
      refine qqg hc39 (out:=Pr.bool true) (cg hc41) ?_
      refine qq (out:=Pr.bool true) (cg hc39) ?_
      exact⟨true,h2l,⟨⟨aa,aa,aa,aa,trivial⟩,Pick.refl _⟩⟩
     refine qqg hc41 (out:=au x1) ai ?_
     refine qqg hc41 (out:=al b9 7) (ax fld32_7) ?_
     refine qqg hc41 (out:=Pr.i64 x8.TypeAt) (a6 (R:=rApiNode) (a:=x8) (R':=Rp.int .i64) 1 ty3 i1) ?_
     refine qqg hc41 (out:=al b9 7) (ax fld32_7) ?_
     refine qqg hc41 (out:=Pr.i64 x8.TypeAt) (a6 (R:=rApiNode) (a:=x8) (R':=Rp.int .i64) 1 ty3 i1) ?_
     refine qqg hc41 (out:=al b9 2) (ax fld32_2) ?_
     refine qqg hc41 (out:=au x8.Type_) (a6 (R:=rApiNode) (a:=x8) (R':=bj) 1 ty9 subApiNode_Type) ?_
     refine qqg hc41 (out:=Pr.i64 (x8.Type_.length:Int)) (qLenS rfl Tryz.underlying9) ?_
     refine qqg hc41 (out:=Pr.i64 (w64 (x8.TypeAt+(x8.Type_.length:Int)))) qInt ?_
     obtain⟨x42,hx42,h2l⟩:=ak h2l
     refine qqg hc41 (out:=au x42) (qSubLH Tryz.underlying9 hx42) ?_
     refine qqg hc41 (out:=al b9 2) (ax fld32_2) ?_
     refine qqg hc41 (out:=au x8.Type_) (a6 (R:=rApiNode) (a:=x8) (R':=bj) 1 ty9 subApiNode_Type) ?_
     refine qqg hc41 (out:=Pr.bool (!(x42==x8.Type_))) qStr ?_
     refine qqg hc39 (out:=Pr.bool (!(x42==x8.Type_))) (az hc41) ?_
     refine qq (out:=Pr.bool (!(x42==x8.Type_))) (cg hc39) ?_
     exact⟨!(x42==x8.Type_),h2l,⟨⟨aa,aa,aa,aa,trivial⟩,Pick.refl _⟩⟩
    refine qqno (neT hc39) ?_
    refine qqno (neT hc39) ?_
    refine qqno (neT hc39) ?_
    refine qqno (neT hc39) ?_
    refine qqno (neT hc39) ?_
    refine qqno (neT hc39) ?_
    refine bt ?_
    refine bt ?_
    refine bt ?_
    refine bt ?_
    refine bt ?_
    refine bt ?_
    refine bt ?_
    refine bt ?_
    refine bt ?_
    refine qqno (neT hc39) ?_
    refine qqno (neT hc39) ?_
    refine bt ?_
    refine bt ?_
    refine bt ?_
    refine bt ?_
    refine bt ?_
    refine bt ?_
    refine bt ?_
    refine bt ?_
    refine bt ?_
    refine bt ?_
    refine bt ?_
    refine bt ?_
    refine bt ?_
    refine qqno (neT hc39) ?_
    refine qq (out:=Pr.bool false) (az hc39) ?_
    exact⟨false,h2l,⟨⟨aa,aa,aa,aa,trivial⟩,Pick.refl _⟩⟩
   refine W_draw 48 hmx (by kernel_rfl) (by kernel_rfl) ?_
   refine qq (out:=al b9 4) (ax fld32_4) ?_
   refine qq (out:=Pr.i64 x8.From) (a6 (R:=rApiNode) (a:=x8) (R':=Rp.int .i64) 1 ty3 fa) ?_
   refine qq (out:=Pr.bool (decide (x8.From<0))) qInt ?_
   refine qq (out:=Pr.bool (decide (x8.From<0))) ai ?_
   rcases bo h2l with⟨hc22,h2l⟩|⟨hc22,h2l⟩
   ·refine qqno (neF hc22) ?_
    refine qqno (neF hc22) ?_
    refine qqno (neF hc22) ?_
    refine qqno (neF hc22) ?_
    refine qqno (neF hc22) ?_
    refine qq (out:=Pr.bool true) (cg hc22) ?_
    refine qq (out:=Pr.bool true) ai ?_
    have hc30:true=true:=rfl
    refine qqno (neF hc30) ?_
    refine qqno (neF hc30) ?_
    refine qqno (neF hc30) ?_
    refine qqno (neF hc30) ?_
    refine bt ?_
    refine bt ?_
    refine bt ?_
    refine bt ?_
    refine bt ?_
    refine bt ?_
    refine bt ?_
    refine bt ?_
    refine bt ?_
    refine bt ?_
    refine bt ?_
    refine bt ?_
    refine bt ?_
    refine bt ?_
    refine bt ?_
    refine bt ?_
    refine bt ?_
    refine bt ?_
    refine bt ?_
    refine bt ?_
    refine bt ?_
    refine bt ?_
    refine bt ?_
    refine bt ?_
    refine bt ?_
    refine bt ?_
    refine bt ?_
    refine bt ?_
    refine bt ?_
    refine bt ?_
    refine bt ?_
    refine qqno (neF hc30) ?_
    refine qq (out:=Pr.bool true) (cg hc30) ?_
    exact⟨true,h2l,⟨⟨aa,aa,aa,aa,aa,trivial⟩,Pick.refl _⟩⟩
   refine qqg hc22 (out:=al b9 5) (ax fld32_5) ?_
   refine qqg hc22 (out:=Pr.i64 x8.To) (a6 (R:=rApiNode) (a:=x8) (R':=Rp.int .i64) 1 ty3 gw) ?_
   refine qqg hc22 (out:=au x1) ai ?_
   refine qqg hc22 (out:=Pr.i64 (x1.length:Int)) (qLenS rfl Tryz.underlying9) ?_
   refine qqg hc22 (out:=Pr.bool (decide (x8.To>(x1.length:Int)))) qInt ?_
   refine qq (out:=Pr.bool (decide (x8.To>(x1.length:Int)))) (az hc22) ?_
   refine qq (out:=Pr.bool (decide (x8.To>(x1.length:Int)))) ai ?_
   rcases bo h2l with⟨hc23,h2l⟩|⟨hc23,h2l⟩
   ·refine qqno (neF hc23) ?_
    refine qqno (neF hc23) ?_
    refine qqno (neF hc23) ?_
    refine qqno (neF hc23) ?_
    refine bt ?_
    refine bt ?_
    refine bt ?_
    refine bt ?_
    refine bt ?_
    refine bt ?_
    refine bt ?_
    refine bt ?_
    refine bt ?_
    refine bt ?_
    refine bt ?_
    refine bt ?_
    refine bt ?_
    refine bt ?_
    refine bt ?_
    refine bt ?_
    refine bt ?_
    refine bt ?_
    refine bt ?_
    refine bt ?_
    refine bt ?_
    refine bt ?_
    refine bt ?_
    refine bt ?_
    refine bt ?_
    refine bt ?_
    refine bt ?_
    refine bt ?_
    refine bt ?_
    refine bt ?_
    refine bt ?_
    refine qqno (neF hc23) ?_
    refine qq (out:=Pr.bool true) (cg hc23) ?_
    exact⟨true,h2l,⟨⟨aa,aa,aa,aa,aa,trivial⟩,Pick.refl _⟩⟩
   refine qqg hc23 (out:=al b9 6) (ax fld32_6) ?_
   refine qqg hc23 (out:=Pr.i64 x8.At) (a6 (R:=rApiNode) (a:=x8) (R':=Rp.int .i64) 1 ty3 subApiNode_At) ?_
   refine qqg hc23 (out:=Pr.bool (decide (x8.At≥0))) qInt ?_
   refine qqg hc23 (out:=Pr.bool (decide (x8.At≥0))) ai ?_
   rcases bo h2l with⟨hc24,h2l⟩|⟨hc24,h2l⟩
   ·refine qqg hc24 (out:=al b9 6) (ax fld32_6) ?_
    refine qqg hc24 (out:=Pr.i64 x8.At) (a6 (R:=rApiNode) (a:=x8) (R':=Rp.int .i64) 1 ty3 subApiNode_At) ?_
    refine qqg hc24 (out:=al b9 4) (ax fld32_4) ?_
    refine qqg hc24 (out:=Pr.i64 x8.From) (a6 (R:=rApiNode) (a:=x8) (R':=Rp.int .i64) 1 ty3 fa) ?_
    refine qqg hc24 (out:=Pr.bool (decide (x8.At<x8.From))) qInt ?_
    refine qqg hc24 (out:=Pr.bool (decide (x8.At<x8.From))) ai ?_
    rcases bo h2l with⟨hc25,h2l⟩|⟨hc25,h2l⟩
    ·refine qqno (neF hc25) ?_
     refine qqno (neF hc25) ?_
     refine qqno (neF hc25) ?_
     refine qqno (neF hc25) ?_
     refine qqno (neF hc25) ?_
     refine qqno (neF hc25) ?_
     refine qqno (neF hc25) ?_
     refine qqno (neF hc25) ?_
     refine qqno (neF hc25) ?_
     refine qqg hc24 (out:=Pr.bool true) (cg hc25) ?_
     refine qqg hc24 (out:=Pr.bool true) ai ?_
     have hc28:true=true:=rfl
     refine qqno (neF hc28) ?_
     refine qqno (neF hc28) ?_
     refine qqno (neF hc28) ?_
     refine qqno (neF hc28) ?_
     refine qqno (neF hc28) ?_
     refine qqno (neF hc28) ?_
     refine qqno (neF hc28) ?_
     refine qqno (neF hc28) ?_
     refine qqno (neF hc28) ?_
     refine qqno (neF hc28) ?_
     refine qqno (neF hc28) ?_
     refine qqno (neF hc28) ?_
     refine qqno (neF hc28) ?_
     refine qqg hc24 (out:=Pr.bool true) (cg hc28) ?_
     refine qqg hc23 (out:=Pr.bool true) (cg hc24) ?_
     refine qq (out:=Pr.bool true) (az hc23) ?_
     exact⟨true,h2l,⟨⟨aa,aa,aa,aa,aa,trivial⟩,Pick.refl _⟩⟩
    refine qqg hc25 (out:=al b9 6) (ax fld32_6) ?_
    refine qqg hc25 (out:=Pr.i64 x8.At) (a6 (R:=rApiNode) (a:=x8) (R':=Rp.int .i64) 1 ty3 subApiNode_At) ?_
    refine qqg hc25 (out:=al b9 1) (ax fld32_1) ?_
    refine qqg hc25 (out:=au x8.Text) (a6 (R:=rApiNode) (a:=x8) (R':=bj) 1 ty9 jm) ?_
    refine qqg hc25 (out:=Pr.i64 (x8.Text.length:Int)) (qLenS rfl Tryz.underlying9) ?_
    refine qqg hc25 (out:=Pr.i64 (w64 (x8.At+(x8.Text.length:Int)))) qInt ?_
    refine qqg hc25 (out:=al b9 5) (ax fld32_5) ?_
    refine qqg hc25 (out:=Pr.i64 x8.To) (a6 (R:=rApiNode) (a:=x8) (R':=Rp.int .i64) 1 ty3 gw) ?_
    refine qqg hc25 (out:=Pr.bool (decide ((w64 (x8.At+(x8.Text.length:Int)))>x8.To))) qInt ?_
    refine qqg hc24 (out:=Pr.bool (decide ((w64 (x8.At+(x8.Text.length:Int)))>x8.To))) (az hc25) ?_
    refine qqg hc24 (out:=Pr.bool (decide ((w64 (x8.At+(x8.Text.length:Int)))>x8.To))) ai ?_
    rcases bo h2l with⟨hc26,h2l⟩|⟨hc26,h2l⟩
    ·refine qqno (neF hc26) ?_
     refine qqno (neF hc26) ?_
     refine qqno (neF hc26) ?_
     refine qqno (neF hc26) ?_
     refine qqno (neF hc26) ?_
     refine qqno (neF hc26) ?_
     refine qqno (neF hc26) ?_
     refine qqno (neF hc26) ?_
     refine qqno (neF hc26) ?_
     refine qqno (neF hc26) ?_
     refine qqno (neF hc26) ?_
     refine qqno (neF hc26) ?_
     refine qqno (neF hc26) ?_
     refine qqg hc24 (out:=Pr.bool true) (cg hc26) ?_
     refine qqg hc23 (out:=Pr.bool true) (cg hc24) ?_
     refine qq (out:=Pr.bool true) (az hc23) ?_
     exact⟨true,h2l,⟨⟨aa,aa,aa,aa,aa,trivial⟩,Pick.refl _⟩⟩
    refine qqg hc26 (out:=au x1) ai ?_
    refine qqg hc26 (out:=al b9 6) (ax fld32_6) ?_
    refine qqg hc26 (out:=Pr.i64 x8.At) (a6 (R:=rApiNode) (a:=x8) (R':=Rp.int .i64) 1 ty3 subApiNode_At) ?_
    refine qqg hc26 (out:=al b9 6) (ax fld32_6) ?_
    refine qqg hc26 (out:=Pr.i64 x8.At) (a6 (R:=rApiNode) (a:=x8) (R':=Rp.int .i64) 1 ty3 subApiNode_At) ?_
    refine qqg hc26 (out:=al b9 1) (ax fld32_1) ?_
    refine qqg hc26 (out:=au x8.Text) (a6 (R:=rApiNode) (a:=x8) (R':=bj) 1 ty9 jm) ?_
    refine qqg hc26 (out:=Pr.i64 (x8.Text.length:Int)) (qLenS rfl Tryz.underlying9) ?_
    refine qqg hc26 (out:=Pr.i64 (w64 (x8.At+(x8.Text.length:Int)))) qInt ?_
    obtain⟨x27,hx27,h2l⟩:=ak h2l
    refine qqg hc26 (out:=au x27) (qSubLH Tryz.underlying9 hx27) ?_
    refine qqg hc26 (out:=al b9 1) (ax fld32_1) ?_
    refine qqg hc26 (out:=au x8.Text) (a6 (R:=rApiNode) (a:=x8) (R':=bj) 1 ty9 jm) ?_
    refine qqg hc26 (out:=Pr.bool (!(x27==x8.Text))) qStr ?_
    refine qqg hc24 (out:=Pr.bool (!(x27==x8.Text))) (az hc26) ?_
    refine qqg hc23 (out:=Pr.bool (!(x27==x8.Text))) (cg hc24) ?_
    refine qq (out:=Pr.bool (!(x27==x8.Text))) (az hc23) ?_
    exact⟨!(x27==x8.Text),h2l,⟨⟨aa,aa,aa,aa,aa,trivial⟩,Pick.refl _⟩⟩
   refine qqno (neT hc24) ?_
   refine qqno (neT hc24) ?_
   refine qqno (neT hc24) ?_
   refine qqno (neT hc24) ?_
   refine qqno (neT hc24) ?_
   refine qqno (neT hc24) ?_
   refine bt ?_
   refine bt ?_
   refine bt ?_
   refine bt ?_
   refine bt ?_
   refine bt ?_
   refine bt ?_
   refine bt ?_
   refine bt ?_
   refine qqno (neT hc24) ?_
   refine qqno (neT hc24) ?_
   refine bt ?_
   refine bt ?_
   refine bt ?_
   refine bt ?_
   refine bt ?_
   refine bt ?_
   refine bt ?_
   refine bt ?_
   refine bt ?_
   refine bt ?_
   refine bt ?_
   refine bt ?_
   refine bt ?_
   refine qqno (neT hc24) ?_
   refine qqg hc23 (out:=Pr.bool false) (az hc24) ?_
   refine qq (out:=Pr.bool false) (az hc23) ?_
   exact⟨false,h2l,⟨⟨aa,aa,aa,aa,aa,trivial⟩,Pick.refl _⟩⟩
  refine W_loop (fun m e C=>∃(x10:Int),∃(x11:Int),ip (fun s=>iw x8 s.1 s.2) m (x10,x11)=some z6l/\At [(0,au x1),(5,aw rApiNode x4),(6,Pr.i64 x5),(7,al b9 0),(8,Pr.i64 x10),(9,Pr.i64 x11)] [Own.box b3 rApiNode x2,Own.box b9 rApiNode x8] e C) n6 ⟨x8.From,0,hN6,⟨⟨aa,aa,aa,aa,aa,aa,trivial⟩,Pick.refl _⟩⟩ ?_
  clear hN6
  rintro m e C ⟨x10,x11,hN6,hatl6⟩
  refine W_at hatl6 ?_
  clear hatl6
  obtain⟨m6,w6l,rfl,h6l,hn6,ho6⟩:=dw hN6
  clear hN6
  replace h6l:iw x8 x10 x11=some w6l:=h6l
  unfold iw at h6l
  refine cv ?_
  refine W_rs ?_
  refine rq (out:=Pr.i64 x11) ai ?_
  refine rq (out:=al b9 8) (ax fld32_8) ?_
  refine rq (out:=aw rApiNode x8.Kids) (a6 (R:=rApiNode) (a:=x8) (R':=bc rApiNode) 1 ty24 ez) ?_
  refine rq (out:=Pr.i64 (x8.Kids.length:Int)) (qLenL rfl Tryz.underlying24) ?_
  refine rq (out:=Pr.bool (decide (x11<(x8.Kids.length:Int)))) qInt ?_
  refine bb (b:=decide (x11<(x8.Kids.length:Int))) rfl (fun hc14=> ?_) (fun hc14=> ?_)
  ·replace h6l:=iteT hc14 h6l
   refine bi ?_
   refine cv ?_
   refine bx ?_
   refine W_rs ?_
   refine rq (out:=al b9 8) (ax fld32_8) ?_
   refine rq (out:=aw rApiNode x8.Kids) (a6 (R:=rApiNode) (a:=x8) (R':=bc rApiNode) 1 ty24 ez) ?_
   refine rq (out:=Pr.i64 x11) ai ?_
   obtain⟨x15,hx15,h6l⟩:=ak h6l
   refine rq (out:=bn rApiNode x15) (qIdxA (R:=rApiNode) (l:=x8.Kids) Tryz.underlying24 Tryz.sizeOf32 hx15) ?_
   refine rq (out:=(rApiNode).val x15) (io (R:=rApiNode) (a:=x15) ty32) ?_
   refine bh (R:=rApiNode) (z:=(ApiNode.mk 0 [] [] 0 0 0 0 0 [])) Tryz.zeroValue32 (fun _=>(by rw[ap];exact⟨_,⟨_,_,rfl,rfl,⟨_,_,rfl,rfl,⟨_,_,rfl,rfl,⟨_,_,rfl,rfl,⟨_,_,rfl,rfl,⟨_,_,rfl,rfl,⟨_,_,rfl,rfl,⟨_,_,rfl,rfl,⟨_,_,rfl,⟨_,rfl,none,0,rfl,⟨Nat.le_refl _,fun _=>rfl⟩,.inl rfl⟩,rfl⟩⟩⟩⟩⟩⟩⟩⟩⟩,rfl⟩)) (fun b16=> ?_)
   refine a5 (R:=rApiNode) (R':=rApiNode) (a:=(ApiNode.mk 0 [] [] 0 0 0 0 0 [])) (y:=x15) 2 Tryz.sizeOf32 (Upd.refl _) ?_
   refine cv ?_
   refine cl (fun e C=>∃(x20:Bool),iz x15 x11 x20=some w6l/\At [(0,au x1),(5,aw rApiNode x4),(6,Pr.i64 x5),(7,al b9 0),(9,Pr.i64 x11),(10,al b16 0),(54,Pr.bool x20)] [Own.box b3 rApiNode x2,Own.box b9 rApiNode x8,Own.box b16 rApiNode x15] e C) ?_ ?_
   ·rintro e C ⟨x20,h6l,hat7⟩
    refine W_at hat7 ?_
    clear hat7
    unfold iz at h6l
    refine bb (b:=x20) rfl (fun hc21=> ?_) (fun hc21=> ?_)
    ·replace h6l:=iteT hc21 h6l
     refine W_rs ?_
     refine rq (out:=Pr.bool false) aj ?_
     obtain rfl:=ho6 _ (Option.some.inj h6l).symm
     replace h2l:some (.inr (.done false))=some w2l:=h2l
     obtain rfl:=ho2 _ (Option.some.inj h2l).symm
     replace h:some false=some r:=h
     obtain rfl:=Option.some.inj h
     exact bk ⟨rfl,aa⟩
    replace h6l:=iteF hc21 h6l
    refine bi ?_
    refine W_r ?_
    refine rq (out:=al b16 5) (ax fld32_5) ?_
    refine rq (out:=Pr.i64 x15.To) (a6 (R:=rApiNode) (a:=x15) (R':=Rp.int .i64) 2 ty3 gw) ?_
    refine rq (out:=Pr.i64 x15.To) aj ?_
    refine W_r ?_
    refine rq (out:=Pr.i64 x11) ai ?_
    refine rq (out:=Pr.i64 (w64 (x11+1))) qInt ?_
    refine rq (out:=Pr.i64 (w64 (x11+1))) aj ?_
    exact⟨m6,Nat.lt_succ_self _,x15.To,w64 (x11+1),hn6 _ (Option.some.inj h6l).symm,⟨⟨aa,aa,aa,aa,aa,aa,trivial⟩,Pick.of [0,1] rfl⟩⟩
   refine W_r ?_
   refine rq (out:=al b16 4) (ax fld32_4) ?_
   refine rq (out:=Pr.i64 x15.From) (a6 (R:=rApiNode) (a:=x15) (R':=Rp.int .i64) 2 ty3 fa) ?_
   refine rq (out:=Pr.i64 x10) ai ?_
   refine rq (out:=Pr.bool (decide (x15.From<x10))) qInt ?_
   refine rq (out:=Pr.bool (decide (x15.From<x10))) ai ?_
   rcases bo h6l with⟨hc17,h6l⟩|⟨hc17,h6l⟩
   ·refine rno (neF hc17) ?_
    refine rno (neF hc17) ?_
    refine rno (neF hc17) ?_
    refine rno (neF hc17) ?_
    refine rno (neF hc17) ?_
    refine rq (out:=Pr.bool true) (cg hc17) ?_
    refine rq (out:=Pr.bool true) ai ?_
    have hc19:true=true:=rfl
    refine rno (neF hc19) ?_
    refine rno (neF hc19) ?_
    refine rno (neF hc19) ?_
    refine rno (neF hc19) ?_
    refine rno (neF hc19) ?_
    refine rq (out:=Pr.bool true) (cg hc19) ?_
    exact⟨true,h6l,⟨⟨aa,aa,aa,aa,aa,aa,aa,trivial⟩,Pick.refl _⟩⟩
   refine rqg hc17 (out:=al b16 5) (ax fld32_5) ?_
   refine rqg hc17 (out:=Pr.i64 x15.To) (a6 (R:=rApiNode) (a:=x15) (R':=Rp.int .i64) 2 ty3 gw) ?_
   refine rqg hc17 (out:=al b9 5) (ax fld32_5) ?_
   refine rqg hc17 (out:=Pr.i64 x8.To) (a6 (R:=rApiNode) (a:=x8) (R':=Rp.int .i64) 1 ty3 gw) ?_
   refine rqg hc17 (out:=Pr.bool (decide (x15.To>x8.To))) qInt ?_
   refine rq (out:=Pr.bool (decide (x15.To>x8.To))) (az hc17) ?_
   refine rq (out:=Pr.bool (decide (x15.To>x8.To))) ai ?_
   rcases bo h6l with⟨hc18,h6l⟩|⟨hc18,h6l⟩
   ·refine rno (neF hc18) ?_
    refine rno (neF hc18) ?_
    refine rno (neF hc18) ?_
    refine rno (neF hc18) ?_
    refine rno (neF hc18) ?_
    refine rq (out:=Pr.bool true) (cg hc18) ?_
    exact⟨true,h6l,⟨⟨aa,aa,aa,aa,aa,aa,aa,trivial⟩,Pick.refl _⟩⟩
   refine rqg hc18 (out:=al b16 5) (ax fld32_5) ?_
   refine rqg hc18 (out:=Pr.i64 x15.To) (a6 (R:=rApiNode) (a:=x15) (R':=Rp.int .i64) 2 ty3 gw) ?_
   refine rqg hc18 (out:=al b16 4) (ax fld32_4) ?_
   refine rqg hc18 (out:=Pr.i64 x15.From) (a6 (R:=rApiNode) (a:=x15) (R':=Rp.int .i64) 2 ty3 fa) ?_
   refine rqg hc18 (out:=Pr.bool (decide (x15.To<x15.From))) qInt ?_
   refine rq (out:=Pr.bool (decide (x15.To<x15.From))) (az hc18) ?_
   exact⟨decide (x15.To<x15.From),h6l,⟨⟨aa,aa,aa,aa,aa,aa,aa,trivial⟩,Pick.refl _⟩⟩
  replace h6l:=iteF hc14 h6l
  refine ji ?_
  obtain rfl:=ho6 _ (Option.some.inj h6l).symm
  exact⟨h2l,⟨⟨aa,aa,aa,aa,trivial⟩,Pick.refl _⟩⟩
 replace h2l:=iteF hc7 h2l
 refine ji ?_
 obtain rfl:=ho2 _ (Option.some.inj h2l).symm
 exact⟨h,⟨trivial,Pick.refl _⟩⟩
theorem law12_ParsePlaces_ok (x1:List UInt8) (r:Bool) (h:jt x1=some r):FnP Tryz.prog 3 [au x1] (Pr.bool r):=by
 refine dm (n:=81) (rs:=[2]) Tryz.func3 rfl Tryz.ntmps3 ⟨by decide,Tryz.results3⟩ (by decide) (fun s0=> ?_)
 unfold jt at h
 refine W_rs ?_
 refine rq (out:=Pr.bool false) aj ?_
 refine W_rs ?_
 obtain⟨x2,hx2,h⟩:=ak h
 refine rq (out:=Pr.bool x2) (en (law12_awake_ok _ hx2)) ?_
 refine rq (out:=Pr.bool x2) aj ?_
 refine cv ?_
 refine W_rs ?_
 refine rq (out:=Pr.bool x2) ai ?_
 refine rq (out:=Pr.bool (!x2)) qNot ?_
 refine bb (b:= !x2) rfl (fun hc3=> ?_) (fun hc3=> ?_)
 ·replace h:=iteT hc3 h
  refine W_rs ?_
  refine rq (out:=Pr.bool false) aj ?_
  obtain rfl:=Option.some.inj h
  exact bk ⟨rfl,aa⟩
 replace h:=iteF hc3 h
 refine bi ?_
 refine W_rs ?_
 refine rq (out:=au x1) ai ?_
 obtain⟨x4,hx4,h⟩:=ak h
 refine rq (out:=Pr.bool x4) (en (law12_short_ok x1 _ hx4)) ?_
 refine rq (out:=Pr.bool x4) aj ?_
 refine cv ?_
 refine W_rs ?_
 refine rq (out:=Pr.bool x4) ai ?_
 refine rq (out:=Pr.bool (!x4)) qNot ?_
 refine bb (b:= !x4) rfl (fun hc5=> ?_) (fun hc5=> ?_)
 ·replace h:=iteT hc5 h
  refine W_rs ?_
  refine rq (out:=Pr.bool true) aj ?_
  obtain rfl:=Option.some.inj h
  exact bk ⟨rfl,aa⟩
 replace h:=iteF hc5 h
 refine bi ?_
 refine W_rs ?_
 refine rq (out:=au x1) ai ?_
 obtain⟨⟨x6,x7⟩,hx6,h⟩:=ak h
 refine rq (out:=cp [aw rApiNode x6,(ah).val x7]) (en (parse_File_ok x1 _ hx6)) ?_
 refine rq (out:=cp [aw rApiNode x6,(ah).val x7]) ai ?_
 refine rq (out:=aw rApiNode x6) bw ?_
 refine rq (out:=(ah).val x7) bw ?_
 refine bh (R:=ah) (z:=(ApiMistake.mk 0 0 0)) Tryz.zeroValue27 (fun _=>⟨_,⟨_,_,rfl,rfl,⟨_,_,rfl,rfl,⟨_,_,rfl,rfl,rfl⟩⟩⟩,rfl⟩) (fun b8=> ?_)
 refine rq (out:=aw rApiNode x6) aj ?_
 refine a5 (R:=ah) (R':=ah) (a:=(ApiMistake.mk 0 0 0)) (y:=x7) 0 Tryz.sizeOf27 (Upd.refl _) ?_
 refine cv ?_
 refine W_rs ?_
 refine rq (out:=al b8 0) (ax fld27_0) ?_
 refine rq (out:=Pr.i64 x7.Code) (a6 (R:=ah) (a:=x7) (R':=Rp.int .i64) 0 ty25 eg) ?_
 refine rq (out:=Pr.bool (x7.Code != 0)) qInt ?_
 refine bb (b:=x7.Code != 0) rfl (fun hc9=> ?_) (fun hc9=> ?_)
 ·replace h:=iteT hc9 h
  refine cl (fun e C=>∃(x17:Bool),ek x17=some r/\At [(2,Pr.bool x17)] [Own.box b8 ah x7] e C) ?_ ?_
  ·rintro e C ⟨x17,h,hat1⟩
   refine W_at hat1 ?_
   clear hat1
   unfold ek at h
   obtain rfl:=Option.some.inj h
   exact bk ⟨rfl,aa⟩
  refine W_r ?_
  refine rq (out:=aw rApiNode x6) ai ?_
  refine rq (out:=Pr.i64 (x6.length:Int)) (qLenL rfl Tryz.underlying24) ?_
  refine rq (out:=Pr.bool ((x6.length:Int)==0)) qInt ?_
  refine rq (out:=Pr.bool ((x6.length:Int)==0)) ai ?_
  rcases bo h with⟨hc10,h⟩|⟨hc10,h⟩
  ·refine rqg hc10 (out:=al b8 2) (ax fld27_2) ?_
   refine rqg hc10 (out:=Pr.i64 x7.At) (a6 (R:=ah) (a:=x7) (R':=Rp.int .i64) 0 ty3 subApiMistake_At) ?_
   refine rqg hc10 (out:=Pr.bool (decide (x7.At≥0))) qInt ?_
   refine rq (out:=Pr.bool (decide (x7.At≥0))) (cg hc10) ?_
   refine rq (out:=Pr.bool (decide (x7.At≥0))) ai ?_
   rcases bo h with⟨hc11,h⟩|⟨hc11,h⟩
   ·refine rqg hc11 (out:=al b8 2) (ax fld27_2) ?_
    refine rqg hc11 (out:=Pr.i64 x7.At) (a6 (R:=ah) (a:=x7) (R':=Rp.int .i64) 0 ty3 subApiMistake_At) ?_
    refine rqg hc11 (out:=au x1) ai ?_
    refine rqg hc11 (out:=Pr.i64 (x1.length:Int)) (qLenS rfl Tryz.underlying9) ?_
    refine rqg hc11 (out:=Pr.bool (decide (x7.At<=(x1.length:Int)))) qInt ?_
    refine rq (out:=Pr.bool (decide (x7.At<=(x1.length:Int)))) (cg hc11) ?_
    refine rq (out:=Pr.bool (decide (x7.At<=(x1.length:Int)))) ai ?_
    rcases bo h with⟨hc12,h⟩|⟨hc12,h⟩
    ·refine rqg hc12 (out:=al b8 1) (ax fld27_1) ?_
     refine rqg hc12 (out:=Pr.i64 x7.File) (a6 (R:=ah) (a:=x7) (R':=Rp.int .i64) 0 ty3 subApiMistake_File) ?_
     refine rqg hc12 (out:=Pr.bool (x7.File==0)) qInt ?_
     refine rq (out:=Pr.bool (x7.File==0)) (cg hc12) ?_
     refine rq (out:=Pr.bool (x7.File==0)) aj ?_
     exact⟨x7.File==0,h,⟨⟨aa,trivial⟩,Pick.refl _⟩⟩
    refine rno (neT hc12) ?_
    refine rno (neT hc12) ?_
    refine rno (neT hc12) ?_
    refine rq (out:=Pr.bool false) (az hc12) ?_
    refine rq (out:=Pr.bool false) aj ?_
    exact⟨false,h,⟨⟨aa,trivial⟩,Pick.refl _⟩⟩
   refine rno (neT hc11) ?_
   refine rno (neT hc11) ?_
   refine rno (neT hc11) ?_
   refine rno (neT hc11) ?_
   refine rno (neT hc11) ?_
   refine rq (out:=Pr.bool false) (az hc11) ?_
   refine rq (out:=Pr.bool false) ai ?_
   have hc13:false=false:=rfl
   refine rno (neT hc13) ?_
   refine rno (neT hc13) ?_
   refine rno (neT hc13) ?_
   refine rq (out:=Pr.bool false) (az hc13) ?_
   refine rq (out:=Pr.bool false) aj ?_
   exact⟨false,h,⟨⟨aa,trivial⟩,Pick.refl _⟩⟩
  refine rno (neT hc10) ?_
  refine rno (neT hc10) ?_
  refine rno (neT hc10) ?_
  refine rq (out:=Pr.bool false) (az hc10) ?_
  refine rq (out:=Pr.bool false) ai ?_
  have hc14:false=false:=rfl
  refine rno (neT hc14) ?_
  refine rno (neT hc14) ?_
  refine rno (neT hc14) ?_
  refine rno (neT hc14) ?_
  refine rno (neT hc14) ?_
  refine rq (out:=Pr.bool false) (az hc14) ?_
  refine rq (out:=Pr.bool false) ai ?_
  have hc16:false=false:=rfl
  refine rno (neT hc16) ?_
  refine rno (neT hc16) ?_
  refine rno (neT hc16) ?_
  refine rq (out:=Pr.bool false) (az hc16) ?_
  refine rq (out:=Pr.bool false) aj ?_
  exact⟨false,h,⟨⟨aa,trivial⟩,Pick.refl _⟩⟩
 replace h:=iteF hc9 h
 refine bi ?_
 refine W_rs ?_
 refine rq (out:=Pr.i64 0) aj ?_
 refine cv ?_
 refine W_rs ?_
 refine rq (out:=Pr.i64 0) aj ?_
 refine bx ?_
 obtain⟨z3l,hz3,h⟩:=ak h
 obtain⟨n3,hN3⟩:=dy hz3
 clear hz3
 refine W_after 0 (fun e C=>jx=some r/\At [] [Own.box b8 ah x7] e C) ?_ ?_
 ·rintro e C ⟨h,hat2⟩
  refine W_at hat2 ?_
  clear hat2
  unfold jx at h
  refine W_rs ?_
  refine rq (out:=Pr.bool true) aj ?_
  obtain rfl:=Option.some.inj h
  exact bk ⟨rfl,aa⟩
 refine W_loop (fun m e C=>∃(x18:Int),∃(x19:Int),ip (fun s=>ei x6 x1 s.1 s.2) m (x18,x19)=some z3l/\At [(0,au x1),(5,aw rApiNode x6),(7,Pr.i64 x18),(8,Pr.i64 x19)] [Own.box b8 ah x7] e C) n3 ⟨0,0,hN3,⟨⟨aa,aa,aa,aa,trivial⟩,Pick.refl _⟩⟩ ?_
 clear hN3
 rintro m e C ⟨x18,x19,hN3,hatl3⟩
 refine W_at hatl3 ?_
 clear hatl3
 obtain⟨m3,w3l,rfl,h3l,hn3,ho3⟩:=dw hN3
 clear hN3
 replace h3l:ei x6 x1 x18 x19=some w3l:=h3l
 unfold ei at h3l
 refine cv ?_
 refine W_rs ?_
 refine rq (out:=Pr.i64 x19) ai ?_
 refine rq (out:=aw rApiNode x6) ai ?_
 refine rq (out:=Pr.i64 (x6.length:Int)) (qLenL rfl Tryz.underlying24) ?_
 refine rq (out:=Pr.bool (decide (x19<(x6.length:Int)))) qInt ?_
 refine bb (b:=decide (x19<(x6.length:Int))) rfl (fun hc22=> ?_) (fun hc22=> ?_)
 ·replace h3l:=iteT hc22 h3l
  refine bi ?_
  refine cv ?_
  refine bx ?_
  refine W_rs ?_
  refine rq (out:=au x1) ai ?_
  refine rq (out:=aw rApiNode x6) ai ?_
  refine rq (out:=Pr.i64 x19) ai ?_
  obtain⟨x23,hx23,h3l⟩:=ak h3l
  refine rq (out:=bn rApiNode x23) (qIdxA (R:=rApiNode) (l:=x6) Tryz.underlying24 Tryz.sizeOf32 hx23) ?_
  refine rq (out:=(rApiNode).val x23) (io (R:=rApiNode) (a:=x23) ty32) ?_
  obtain⟨x24,hx24,h3l⟩:=ak h3l
  refine rq (out:=Pr.bool x24) (en (law12_within_ok x1 x23 _ hx24)) ?_
  refine rq (out:=Pr.bool x24) aj ?_
  refine cv ?_
  refine cl (fun e C=>∃(x31:Bool),ej x6 x19 x31=some w3l/\At [(0,au x1),(5,aw rApiNode x6),(8,Pr.i64 x19),(75,Pr.bool x31)] [Own.box b8 ah x7] e C) ?_ ?_
  ·rintro e C ⟨x31,h3l,hat4⟩
   refine W_at hat4 ?_
   clear hat4
   unfold ej at h3l
   refine bb (b:=x31) rfl (fun hc32=> ?_) (fun hc32=> ?_)
   ·replace h3l:=iteT hc32 h3l
    refine W_rs ?_
    refine rq (out:=Pr.bool false) aj ?_
    obtain rfl:=ho3 _ (Option.some.inj h3l).symm
    replace h:some false=some r:=h
    obtain rfl:=Option.some.inj h
    exact bk ⟨rfl,aa⟩
   replace h3l:=iteF hc32 h3l
   refine bi ?_
   refine W_r ?_
   refine rq (out:=aw rApiNode x6) ai ?_
   refine rq (out:=Pr.i64 x19) ai ?_
   obtain⟨x33,hx33,h3l⟩:=ak h3l
   refine rq (out:=bn rApiNode x33) (qIdxA (R:=rApiNode) (l:=x6) Tryz.underlying24 Tryz.sizeOf32 hx33) ?_
   refine rq (out:=bn (Rp.int .i64) x33.To) (j5 (R:=rApiNode) (a:=x33) fld32_5 gw) ?_
   refine rq (out:=Pr.i64 x33.To) (io (R:=Rp.int .i64) (a:=x33.To) ty3) ?_
   refine rq (out:=Pr.i64 x33.To) aj ?_
   refine W_r ?_
   refine rq (out:=Pr.i64 x19) ai ?_
   refine rq (out:=Pr.i64 (w64 (x19+1))) qInt ?_
   refine rq (out:=Pr.i64 (w64 (x19+1))) aj ?_
   exact⟨m3,Nat.lt_succ_self _,x33.To,w64 (x19+1),hn3 _ (Option.some.inj h3l).symm,⟨⟨aa,aa,aa,aa,trivial⟩,Pick.refl _⟩⟩
  refine W_r ?_
  refine rq (out:=Pr.bool x24) ai ?_
  refine rq (out:=Pr.bool (!x24)) qNot ?_
  refine rq (out:=Pr.bool (!x24)) ai ?_
  rcases bo h3l with⟨hc25,h3l⟩|⟨hc25,h3l⟩
  ·refine rno (neF hc25) ?_
   refine rno (neF hc25) ?_
   refine rno (neF hc25) ?_
   refine rno (neF hc25) ?_
   refine rno (neF hc25) ?_
   refine rno (neF hc25) ?_
   refine rq (out:=Pr.bool true) (cg hc25) ?_
   refine rq (out:=Pr.bool true) ai ?_
   have hc29:true=true:=rfl
   refine rno (neF hc29) ?_
   refine rno (neF hc29) ?_
   refine rno (neF hc29) ?_
   refine rno (neF hc29) ?_
   refine rno (neF hc29) ?_
   refine rno (neF hc29) ?_
   refine rno (neF hc29) ?_
   refine rq (out:=Pr.bool true) (cg hc29) ?_
   exact⟨true,h3l,⟨⟨aa,aa,aa,aa,trivial⟩,Pick.refl _⟩⟩
  refine rqg hc25 (out:=aw rApiNode x6) ai ?_
  refine rqg hc25 (out:=Pr.i64 x19) ai ?_
  obtain⟨x26,hx26,h3l⟩:=ak h3l
  refine rqg hc25 (out:=bn rApiNode x26) (qIdxA (R:=rApiNode) (l:=x6) Tryz.underlying24 Tryz.sizeOf32 hx26) ?_
  refine rqg hc25 (out:=bn (Rp.int .i64) x26.Kind) (j5 (R:=rApiNode) (a:=x26) fld32_0 gg) ?_
  refine rqg hc25 (out:=Pr.i64 x26.Kind) (io (R:=Rp.int .i64) (a:=x26.Kind) ty3) ?_
  refine rqg hc25 (out:=Pr.bool (x26.Kind != 1)) qInt ?_
  refine rq (out:=Pr.bool (x26.Kind != 1)) (az hc25) ?_
  refine rq (out:=Pr.bool (x26.Kind != 1)) ai ?_
  rcases bo h3l with⟨hc27,h3l⟩|⟨hc27,h3l⟩
  ·refine rno (neF hc27) ?_
   refine rno (neF hc27) ?_
   refine rno (neF hc27) ?_
   refine rno (neF hc27) ?_
   refine rno (neF hc27) ?_
   refine rno (neF hc27) ?_
   refine rno (neF hc27) ?_
   refine rq (out:=Pr.bool true) (cg hc27) ?_
   exact⟨true,h3l,⟨⟨aa,aa,aa,aa,trivial⟩,Pick.refl _⟩⟩
  refine rqg hc27 (out:=aw rApiNode x6) ai ?_
  refine rqg hc27 (out:=Pr.i64 x19) ai ?_
  obtain⟨x28,hx28,h3l⟩:=ak h3l
  refine rqg hc27 (out:=bn rApiNode x28) (qIdxA (R:=rApiNode) (l:=x6) Tryz.underlying24 Tryz.sizeOf32 hx28) ?_
  refine rqg hc27 (out:=bn (Rp.int .i64) x28.From) (j5 (R:=rApiNode) (a:=x28) fld32_4 fa) ?_
  refine rqg hc27 (out:=Pr.i64 x28.From) (io (R:=Rp.int .i64) (a:=x28.From) ty3) ?_
  refine rqg hc27 (out:=Pr.i64 x18) ai ?_
  refine rqg hc27 (out:=Pr.bool (decide (x28.From<x18))) qInt ?_
  refine rq (out:=Pr.bool (decide (x28.From<x18))) (az hc27) ?_
  exact⟨decide (x28.From<x18),h3l,⟨⟨aa,aa,aa,aa,trivial⟩,Pick.refl _⟩⟩
 replace h3l:=iteF hc22 h3l
 refine ji ?_
 obtain rfl:=ho3 _ (Option.some.inj h3l).symm
 exact⟨h,⟨trivial,Pick.refl _⟩⟩
end Go.Proofs.YtackaijkmkollaaGreatDoor
