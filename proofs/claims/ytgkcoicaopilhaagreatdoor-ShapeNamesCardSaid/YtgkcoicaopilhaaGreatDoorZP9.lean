/- The code comes to what these functions say (printed by wip/gen/gen.py). -/
import Derived.Test.YtgkcoicaopilhaaGreatDoorZP8
import Derived.Test.YtgkcoicaopilhaaGreatDoorZT
set_option linter.unusedSimpArgs false
set_option linter.unusedVariables false
set_option linter.unusedSectionVars false
set_option linter.unusedSectionVars false
set_option maxRecDepth 100000
set_option maxHeartbeats 4000000
namespace Go.Proofs.YtgkcoicaopilhaaGreatDoor
open Go Go.Cn
def rec_ref11_Rename_spec (R:cv):Prop:=(∀(x1:ApiNode) (x2:Int) (x3:List UInt8) (x4:List UInt8) (r:ApiNode),R x1 x2 x3 x4=some r->FnP Tryz.prog 23 [(ab).val x1,Pr.i64 x2,ai x3,ai x4] ((ab).val r))
theorem F_ref11_Rename_step (R:cv) (ih:rec_ref11_Rename_spec R) (x1:ApiNode) (x2:Int) (x3 x4:List UInt8) (r:ApiNode) (h:mw R x1 x2 x3 x4=some r):FnP Tryz.prog 23 [(ab).val x1,Pr.i64 x2,ai x3,ai x4] ((ab).val r):=by
 refine el (n:=68) (rs:=[.cell 8 24]) Tryz.func23 rfl Tryz.ntmps23 Tryz.results23 (by decide) (fun s0=> ?_)
 unfold mw at h
 refine W_rs ?_
 refine rBox (R:=ab) (a:=x1) rfl (fun b5=> ?_)
 refine cb (R:=ab) (z:=(ApiNode.mk 0 [] [] 0 0 0 0 0 [])) Tryz.zeroValue24 (fun _=>(by rw[al];exact⟨_,⟨_,_,rfl,rfl,⟨_,_,rfl,rfl,⟨_,_,rfl,rfl,⟨_,_,rfl,rfl,⟨_,_,rfl,rfl,⟨_,_,rfl,rfl,⟨_,_,rfl,rfl,⟨_,_,rfl,rfl,⟨_,_,rfl,⟨_,rfl,none,0,rfl,⟨Nat.le_refl _,fun _=>rfl⟩,.inl rfl⟩,rfl⟩⟩⟩⟩⟩⟩⟩⟩⟩,rfl⟩)) (fun b6=> ?_)
 refine W_rs ?_
 refine rq (out:=Pr.is (.slice none 0 0)) ae ?_
 refine a5 ?_
 refine W_rs ?_
 refine rq (out:=Pr.i64 0) ae ?_
 refine az ?_
 obtain⟨z6l,hz6,h⟩:=af h
 obtain⟨n6,hN6⟩:=cc hz6
 clear hz6
 refine du 0 (fun e C=>∃(x9:List ApiNode),∃(v7:Value),ref11_Rename_k5 R x1 x3 x2 x4 x9=some r/\At [(1,Pr.i64 x2),(2,ai x3),(3,ai x4),(4,ap b5 0),(8,ap b6 0),(9,Pr.is v7)] [Own.box b5 ab x1,Own.box b6 ab (ApiNode.mk 0 [] [] 0 0 0 0 0 []),Own.vec v7 ab x9 24] e C) ?_ ?_
 ·rintro e C ⟨x9,v7,h,hat5⟩
  refine W_at hat5 ?_
  clear hat5
  unfold ref11_Rename_k5 at h
  refine W_rs ?_
  refine rq (out:=Pr.is v7) ag ?_
  refine rq (out:=ap b5 8) (a4 e8) ?_
  refine rRel 2 [9,30] ?_ rfl ⟨rfl,rfl,trivial⟩
  refine aq (R:=ab) (R':=a9 ab) (a:=x1) (y:=x9) 0 Tryz.sizeOf22 updApiNode_Kids ?_
  refine bc (fun e C=>∃(x26:ApiNode),lq R x2 x4 x3 x26=some r/\At [(1,Pr.i64 x2),(2,ai x3),(3,ai x4),(4,ap b5 0),(8,ap b6 0)] [Own.box b5 ab x26,Own.box b6 ab (ApiNode.mk 0 [] [] 0 0 0 0 0 [])] e C) ?_ ?_
  ·rintro e C ⟨x26,h,hat3⟩
   refine W_at hat3 ?_
   clear hat3
   unfold lq at h
   refine bc (fun e C=>∃(x30:ApiNode),lu R x30=some r/\At [(4,ap b5 0),(8,ap b6 0)] [Own.box b5 ab x30,Own.box b6 ab (ApiNode.mk 0 [] [] 0 0 0 0 0 [])] e C) ?_ ?_
   ·rintro e C ⟨x30,h,hat1⟩
    refine W_at hat1 ?_
    clear hat1
    unfold lu at h
    refine W_rs ?_
    refine rq (out:=(ab).val x30) (a8 (R:=ab) (a:=x30) (R':=ab) 0 ty24 (Sub.refl _)) ?_
    refine aq (R:=ab) (R':=ab) (a:=(ApiNode.mk 0 [] [] 0 0 0 0 0 [])) (y:=x30) 1 Tryz.sizeOf24 (Upd.refl _) ?_
    obtain rfl:=Option.some.inj h
    exact a6 ⟨rfl,[(ab).val x30],⟨yBox 1 ty24 aa,trivial⟩,aa⟩
   refine bc (fun e C=>∃(x28:Bool),lr R x26 x4 x28=some r/\At [(3,ai x4),(4,ap b5 0),(8,ap b6 0),(64,Pr.bool x28)] [Own.box b5 ab x26,Own.box b6 ab (ApiNode.mk 0 [] [] 0 0 0 0 0 [])] e C) ?_ ?_
   ·rintro e C ⟨x28,h,hat2⟩
    refine W_at hat2 ?_
    clear hat2
    unfold lr at h
    refine ao (b:=x28) rfl (fun hc29=> ?_) (fun hc29=> ?_)
    ·replace h:=iteT hc29 h
     refine W_r ?_
     refine rq (out:=ai x4) ag ?_
     refine rq (out:=ap b5 2) (a4 fld24_2) ?_
     refine aq (R:=ab) (R':=am) (a:=x26) (y:=x4) 0 Tryz.sizeOf9 updApiNode_Type ?_
     exact⟨{x26 with Type_:=x4},h,⟨⟨aa,aa,trivial⟩,Pick.refl _⟩⟩
    replace h:=iteF hc29 h
    refine au ?_
    exact⟨x26,h,⟨⟨aa,aa,trivial⟩,Pick.refl _⟩⟩
   refine W_r ?_
   refine rq (out:=Pr.i64 x2) ag ?_
   refine rq (out:=Pr.bool (x2==1)) qInt ?_
   refine rq (out:=Pr.bool (x2==1)) ag ?_
   rcases bv h with⟨hc27,h⟩|⟨hc27,h⟩
   ·refine rqg hc27 (out:=ap b5 2) (a4 fld24_2) ?_
    refine rqg hc27 (out:=ai x26.Type_) (a8 (R:=ab) (a:=x26) (R':=am) 0 ty9 ib) ?_
    refine rqg hc27 (out:=ai x3) ag ?_
    refine rqg hc27 (out:=Pr.bool (x26.Type_==x3)) qStr ?_
    refine rq (out:=Pr.bool (x26.Type_==x3)) (bu hc27) ?_
    exact⟨x26.Type_==x3,h,⟨⟨aa,aa,aa,aa,trivial⟩,Pick.refl _⟩⟩
   refine rno (neT hc27) ?_
   refine rno (neT hc27) ?_
   refine rno (neT hc27) ?_
   refine rno (neT hc27) ?_
   refine rq (out:=Pr.bool false) (bp hc27) ?_
   exact⟨false,h,⟨⟨aa,aa,aa,aa,trivial⟩,Pick.refl _⟩⟩
  refine bc (fun e C=>∃(x24:Bool),f6 R x2 x4 x3 x1 x9 x24=some r/\At [(1,Pr.i64 x2),(2,ai x3),(3,ai x4),(4,ap b5 0),(8,ap b6 0),(54,Pr.bool x24)] [Own.box b5 ab ({x1 with Kids:=x9}),Own.box b6 ab (ApiNode.mk 0 [] [] 0 0 0 0 0 [])] e C) ?_ ?_
  ·rintro e C ⟨x24,h,hat4⟩
   refine W_at hat4 ?_
   clear hat4
   unfold f6 at h
   refine ao (b:=x24) rfl (fun hc25=> ?_) (fun hc25=> ?_)
   ·replace h:=iteT hc25 h
    refine W_r ?_
    refine rq (out:=ai x4) ag ?_
    refine rq (out:=ap b5 1) (a4 gl) ?_
    refine aq (R:=ab) (R':=am) (a:={x1 with Kids:=x9}) (y:=x4) 0 Tryz.sizeOf9 ia ?_
    exact⟨{{x1 with Kids:=x9} with Text:=x4},h,⟨⟨aa,aa,aa,aa,aa,trivial⟩,Pick.refl _⟩⟩
   replace h:=iteF hc25 h
   refine au ?_
   exact⟨{x1 with Kids:=x9},h,⟨⟨aa,aa,aa,aa,aa,trivial⟩,Pick.refl _⟩⟩
  refine W_r ?_
  refine rq (out:=ap b5 1) (a4 gl) ?_
  refine rq (out:=ai (({x1 with Kids:=x9}).Text)) (a8 (R:=ab) (a:={x1 with Kids:=x9}) (R':=am) 0 ty9 ct) ?_
  refine rq (out:=ai x3) ag ?_
  refine rq (out:=Pr.bool ((({x1 with Kids:=x9}).Text)==x3)) qStr ?_
  refine rq (out:=Pr.bool ((({x1 with Kids:=x9}).Text)==x3)) ag ?_
  rcases bv h with⟨hc18,h⟩|⟨hc18,h⟩
  ·refine rqg hc18 (out:=Pr.i64 x2) ag ?_
   refine rqg hc18 (out:=Pr.bool (x2==0)) qInt ?_
   refine rqg hc18 (out:=Pr.bool (x2==0)) ag ?_
   rcases bv h with⟨hc19,h⟩|⟨hc19,h⟩
   ·refine rno (neF hc19) ?_
    refine rno (neF hc19) ?_
    refine rno (neF hc19) ?_
    refine rno (neF hc19) ?_
    refine rqg hc18 (out:=Pr.bool true) (bu hc19) ?_
    refine rqg hc18 (out:=Pr.bool true) ag ?_
    have hc22:true=true:=rfl
    refine rno (neF hc22) ?_
    refine rno (neF hc22) ?_
    refine rno (neF hc22) ?_
    refine rnoU ?_
    refine rnoU ?_
    refine rnoU ?_
    refine rno (neF hc22) ?_
    refine rqg hc18 (out:=Pr.bool true) (bu hc22) ?_
    refine rq (out:=Pr.bool true) (bu hc18) ?_
    exact⟨true,h,⟨⟨aa,aa,aa,aa,aa,aa,trivial⟩,Pick.refl _⟩⟩
   refine rqg hc19 (out:=ap b5 0) (a4 md) ?_
   refine rqg hc19 (out:=Pr.i64 (({x1 with Kids:=x9}).Kind)) (a8 (R:=ab) (a:={x1 with Kids:=x9}) (R':=Rp.int .i64) 0 ty3 c8) ?_
   refine rqg hc19 (out:=Pr.i64 x2) ag ?_
   refine rqg hc19 (out:=Pr.bool ((({x1 with Kids:=x9}).Kind)==x2)) qInt ?_
   refine rqg hc18 (out:=Pr.bool ((({x1 with Kids:=x9}).Kind)==x2)) (bp hc19) ?_
   refine rqg hc18 (out:=Pr.bool ((({x1 with Kids:=x9}).Kind)==x2)) ag ?_
   rcases bv h with⟨hc20,h⟩|⟨hc20,h⟩
   ·refine rno (neF hc20) ?_
    refine rno (neF hc20) ?_
    refine rno (neF hc20) ?_
    refine rnoU ?_
    refine rnoU ?_
    refine rnoU ?_
    refine rno (neF hc20) ?_
    refine rqg hc18 (out:=Pr.bool true) (bu hc20) ?_
    refine rq (out:=Pr.bool true) (bu hc18) ?_
    exact⟨true,h,⟨⟨aa,aa,aa,aa,aa,aa,trivial⟩,Pick.refl _⟩⟩
   refine rqg hc20 (out:=Pr.i64 x2) ag ?_
   refine rqg hc20 (out:=Pr.bool (x2==1)) qInt ?_
   refine rqg hc20 (out:=Pr.bool (x2==1)) ag ?_
   rcases bv h with⟨hc21,h⟩|⟨hc21,h⟩
   ·refine rqg hc21 (out:=ap b5 0) (a4 md) ?_
    refine rqg hc21 (out:=Pr.i64 (({x1 with Kids:=x9}).Kind)) (a8 (R:=ab) (a:={x1 with Kids:=x9}) (R':=Rp.int .i64) 0 ty3 c8) ?_
    refine rqg hc21 (out:=Pr.bool ((({x1 with Kids:=x9}).Kind)==21)) qInt ?_
    refine rqg hc20 (out:=Pr.bool ((({x1 with Kids:=x9}).Kind)==21)) (bu hc21) ?_
    refine rqg hc18 (out:=Pr.bool ((({x1 with Kids:=x9}).Kind)==21)) (bp hc20) ?_
    refine rq (out:=Pr.bool ((({x1 with Kids:=x9}).Kind)==21)) (bu hc18) ?_
    exact⟨(({x1 with Kids:=x9}).Kind)==21,h,⟨⟨aa,aa,aa,aa,aa,aa,trivial⟩,Pick.refl _⟩⟩
   refine rno (neT hc21) ?_
   refine rno (neT hc21) ?_
   refine rno (neT hc21) ?_
   refine rqg hc20 (out:=Pr.bool false) (bp hc21) ?_
   refine rqg hc18 (out:=Pr.bool false) (bp hc20) ?_
   refine rq (out:=Pr.bool false) (bu hc18) ?_
   exact⟨false,h,⟨⟨aa,aa,aa,aa,aa,aa,trivial⟩,Pick.refl _⟩⟩
  refine rno (neT hc18) ?_
  refine rno (neT hc18) ?_
  refine rno (neT hc18) ?_
  refine rnoU ?_
  refine rnoU ?_
  refine rnoU ?_
  refine rnoU ?_
  refine rno (neT hc18) ?_
  refine rno (neT hc18) ?_
  refine rnoU ?_
  refine rnoU ?_
  refine rnoU ?_
  refine rnoU ?_
  refine rnoU ?_
  refine rnoU ?_
  refine rnoU ?_
  refine rno (neT hc18) ?_
  refine rq (out:=Pr.bool false) (bp hc18) ?_
  exact⟨false,h,⟨⟨aa,aa,aa,aa,aa,aa,trivial⟩,Pick.refl _⟩⟩
 refine W_nil [9] ab 24 (fun v31=> ?_) ⟨rfl,trivial⟩
 refine eh (fun m e C=>∃(x8:Int),∃(x9:List ApiNode),∃(v7:Value),en (fun s=>f4 R x1 x2 x3 x4 s.1 s.2) m (x8,x9)=some z6l/\At [(1,Pr.i64 x2),(2,ai x3),(3,ai x4),(4,ap b5 0),(8,ap b6 0),(9,Pr.is v7),(10,Pr.i64 x8)] [Own.box b5 ab x1,Own.box b6 ab (ApiNode.mk 0 [] [] 0 0 0 0 0 []),Own.vec v7 ab x9 24] e C) n6 ⟨0,[],v31,hN6,⟨⟨aa,aa,aa,aa,aa,aa,aa,trivial⟩,Pick.refl _⟩⟩ ?_
 clear hN6
 rintro m e C ⟨x8,x9,v7,hN6,hatl6⟩
 refine W_at hatl6 ?_
 clear hatl6
 obtain⟨m6,w6l,rfl,h6l,hn6,ho6⟩:=bx hN6
 clear hN6
 replace h6l:f4 R x1 x2 x3 x4 x8 x9=some w6l:=h6l
 unfold f4 at h6l
 refine a5 ?_
 refine W_rs ?_
 refine rq (out:=Pr.i64 x8) ag ?_
 refine rq (out:=ap b5 8) (a4 e8) ?_
 refine rq (out:=aj ab x1.Kids) (a8 (R:=ab) (a:=x1) (R':=a9 ab) 0 ty22 bi) ?_
 refine rq (out:=Pr.i64 (x1.Kids.length:Int)) (fi rfl Tryz.underlying22) ?_
 refine rq (out:=Pr.bool (decide (x8<(x1.Kids.length:Int)))) qInt ?_
 refine ao (b:=decide (x8<(x1.Kids.length:Int))) rfl (fun hc13=> ?_) (fun hc13=> ?_)
 ·replace h6l:=iteT hc13 h6l
  refine au ?_
  refine a5 ?_
  refine az ?_
  refine W_r ?_
  refine rq (out:=Pr.is v7) ag ?_
  refine rq (out:=ap b5 8) (a4 e8) ?_
  refine rq (out:=aj ab x1.Kids) (a8 (R:=ab) (a:=x1) (R':=a9 ab) 0 ty22 bi) ?_
  refine rq (out:=Pr.i64 x8) ag ?_
  obtain⟨x14,hx14,h6l⟩:=af h6l
  refine rq (out:=bj ab x14) (ef (R:=ab) (l:=x1.Kids) Tryz.underlying22 Tryz.sizeOf24 hx14) ?_
  refine rq (out:=(ab).val x14) (c5 (R:=ab) (a:=x14) ty24) ?_
  refine rq (out:=Pr.i64 x2) ag ?_
  refine rq (out:=ai x3) ag ?_
  refine rq (out:=ai x4) ag ?_
  obtain⟨x15,hx15,h6l⟩:=af h6l
  refine rq (out:=(ab).val x15) (aw (ih x14 x2 x3 x4 _ hx15)) ?_
  refine rq (out:=aj ab ([x15]:List ApiNode)) (cr (R:=ab) (a:=x15) el22 (Nat.le_of_ble_eq_true rfl)) ?_
  obtain⟨x16,hx16,h6l⟩:=af h6l
  refine ip 2 el22 hx16 (fun v17=> ?_)
  refine rq (out:=Pr.is v17) ae ?_
  refine W_r ?_
  refine rq (out:=Pr.i64 x8) ag ?_
  refine rq (out:=Pr.i64 (w64 (x8+1))) qInt ?_
  refine rq (out:=Pr.i64 (w64 (x8+1))) ae ?_
  exact⟨m6,Nat.lt_succ_self _,w64 (x8+1),x16,v17,hn6 _ (Option.some.inj h6l).symm,⟨⟨aa,aa,aa,aa,aa,aa,aa,trivial⟩,Pick.refl _⟩⟩
 replace h6l:=iteF hc13 h6l
 refine dg ?_
 obtain rfl:=ho6 _ (Option.some.inj h6l).symm
 exact⟨x9,v7,h,⟨⟨aa,aa,aa,aa,aa,aa,trivial⟩,Pick.refl _⟩⟩
theorem rec_ref11_Rename_ok :∀n,rec_ref11_Rename_spec (fr n):=by
 intro n
 induction n with
 |zero=>exact(fun x1 x2 x3 x4 r h=>nomatch (show none=some r from h))
 |succ n ih=>exact(fun x1 x2 x3 x4 r h=>F_ref11_Rename_step (fr n) ih x1 x2 x3 x4 r h)
theorem ref11_Rename_ok (x1:ApiNode) (x2:Int) (x3 x4:List UInt8) (r:ApiNode) (h:ref11_Rename x1 x2 x3 x4=some r):FnP Tryz.prog 23 [(ab).val x1,Pr.i64 x2,ai x3,ai x4] ((ab).val r):=(rec_ref11_Rename_ok 1048576) x1 x2 x3 x4 r h
theorem law14_ShapeNames_ok (x1 x2 x3:List UInt8) (r:Bool) (h:nc x1 x2 x3=some r):FnP Tryz.prog 5 [ai x1,ai x2,ai x3] (Pr.bool r):=by
 refine bo (n:=114) (rs:=[6]) Tryz.func5 rfl Tryz.ntmps5 ⟨by decide,Tryz.results5⟩ (by decide) (fun s0=> ?_)
 unfold nc at h
 refine W_rs ?_
 refine rq (out:=Pr.bool false) ae ?_
 refine W_rs ?_
 obtain⟨x4,hx4,h⟩:=af h
 refine rq (out:=Pr.bool x4) (aw (law14_awake_ok _ hx4)) ?_
 refine rq (out:=Pr.bool x4) ae ?_
 refine a5 ?_
 refine W_rs ?_
 refine rq (out:=Pr.bool x4) ag ?_
 refine rq (out:=Pr.bool (!x4)) qNot ?_
 refine ao (b:= !x4) rfl (fun hc5=> ?_) (fun hc5=> ?_)
 ·replace h:=iteT hc5 h
  refine W_rs ?_
  refine rq (out:=Pr.bool false) ae ?_
  obtain rfl:=Option.some.inj h
  exact a6 ⟨rfl,aa⟩
 replace h:=iteF hc5 h
 refine au ?_
 refine a5 ?_
 refine bc (fun e C=>∃(x21:Bool),dn x1 x2 x3 x21=some r/\At [(0,ai x1),(1,ai x2),(2,ai x3),(37,Pr.bool x21)] [] e C) ?_ ?_
 ·rintro e C ⟨x21,h,hat5⟩
  refine W_at hat5 ?_
  clear hat5
  unfold dn at h
  refine ao (b:=x21) rfl (fun hc22=> ?_) (fun hc22=> ?_)
  ·replace h:=iteT hc22 h
   refine W_rs ?_
   refine rq (out:=Pr.bool true) ae ?_
   obtain rfl:=Option.some.inj h
   exact a6 ⟨rfl,aa⟩
  replace h:=iteF hc22 h
  refine au ?_
  refine W_rs ?_
  refine rq (out:=ai x1) ag ?_
  obtain⟨⟨x23,x24⟩,hx23,h⟩:=af h
  refine rq (out:=bh [(ab).val x23,(ay).val x24]) (aw (ref12_One_ok x1 1 _ hx23)) ?_
  refine rq (out:=bh [(ab).val x23,(ay).val x24]) ag ?_
  refine rq (out:=(ab).val x23) ar ?_
  refine rq (out:=(ay).val x24) ar ?_
  refine cb (R:=ab) (z:=(ApiNode.mk 0 [] [] 0 0 0 0 0 [])) Tryz.zeroValue24 (fun _=>(by rw[al];exact⟨_,⟨_,_,rfl,rfl,⟨_,_,rfl,rfl,⟨_,_,rfl,rfl,⟨_,_,rfl,rfl,⟨_,_,rfl,rfl,⟨_,_,rfl,rfl,⟨_,_,rfl,rfl,⟨_,_,rfl,rfl,⟨_,_,rfl,⟨_,rfl,none,0,rfl,⟨Nat.le_refl _,fun _=>rfl⟩,.inl rfl⟩,rfl⟩⟩⟩⟩⟩⟩⟩⟩⟩,rfl⟩)) (fun b25=> ?_)
  refine cb (R:=ay) (z:=(ApiMistake.mk 0 0 0)) Tryz.zeroValue36 (fun _=>⟨_,⟨_,_,rfl,rfl,⟨_,_,rfl,rfl,⟨_,_,rfl,rfl,rfl⟩⟩⟩,rfl⟩) (fun b26=> ?_)
  refine aq (R:=ab) (R':=ab) (a:=(ApiNode.mk 0 [] [] 0 0 0 0 0 [])) (y:=x23) 0 Tryz.sizeOf24 (Upd.refl _) ?_
  refine aq (R:=ay) (R':=ay) (a:=(ApiMistake.mk 0 0 0)) (y:=x24) 1 Tryz.sizeOf36 (Upd.refl _) ?_
  refine a5 ?_
  refine W_rs ?_
  refine rq (out:=ap b26 0) (a4 fld36_0) ?_
  refine rq (out:=Pr.i64 x24.Code) (a8 (R:=ay) (a:=x24) (R':=Rp.int .i64) 1 ty34 subApiMistake_Code) ?_
  refine rq (out:=Pr.bool (x24.Code != 0)) qInt ?_
  refine ao (b:=x24.Code != 0) rfl (fun hc27=> ?_) (fun hc27=> ?_)
  ·replace h:=iteT hc27 h
   refine W_rs ?_
   refine rq (out:=Pr.bool true) ae ?_
   obtain rfl:=Option.some.inj h
   exact a6 ⟨rfl,aa⟩
  replace h:=iteF hc27 h
  refine au ?_
  refine W_rs ?_
  refine rq (out:=(ab).val x23) (a8 (R:=ab) (a:=x23) (R':=ab) 0 ty24 (Sub.refl _)) ?_
  obtain⟨x28,hx28,h⟩:=af h
  refine rq (out:=aj ab x28) (aw (ref11_All_ok x23 0 _ hx28)) ?_
  refine rq (out:=aj ab x28) ae ?_
  refine a5 ?_
  refine W_rs ?_
  refine rq (out:=Pr.i64 0) ae ?_
  refine az ?_
  obtain⟨z3l,hz3,h⟩:=af h
  obtain⟨n3,hN3⟩:=cc hz3
  clear hz3
  refine du 0 (fun e C=>j4 x23 x2 x3=some r/\At [(1,ai x2),(2,ai x3),(8,ap b25 0)] [Own.box b25 ab x23,Own.box b26 ay x24] e C) ?_ ?_
  ·rintro e C ⟨h,hat2⟩
   refine W_at hat2 ?_
   clear hat2
   unfold j4 at h
   refine W_rs ?_
   refine rq (out:=(ab).val x23) (a8 (R:=ab) (a:=x23) (R':=ab) 0 ty24 (Sub.refl _)) ?_
   refine rq (out:=ai x2) ag ?_
   refine rq (out:=ai x3) ag ?_
   obtain⟨x39,hx39,h⟩:=af h
   refine rq (out:=(ab).val x39) (aw (ref11_Rename_ok x23 0 x2 x3 _ hx39)) ?_
   refine cb (R:=ab) (z:=(ApiNode.mk 0 [] [] 0 0 0 0 0 [])) Tryz.zeroValue24 (fun _=>(by rw[al];exact⟨_,⟨_,_,rfl,rfl,⟨_,_,rfl,rfl,⟨_,_,rfl,rfl,⟨_,_,rfl,rfl,⟨_,_,rfl,rfl,⟨_,_,rfl,rfl,⟨_,_,rfl,rfl,⟨_,_,rfl,rfl,⟨_,_,rfl,⟨_,rfl,none,0,rfl,⟨Nat.le_refl _,fun _=>rfl⟩,.inl rfl⟩,rfl⟩⟩⟩⟩⟩⟩⟩⟩⟩,rfl⟩)) (fun b40=> ?_)
   refine aq (R:=ab) (R':=ab) (a:=(ApiNode.mk 0 [] [] 0 0 0 0 0 [])) (y:=x39) 2 Tryz.sizeOf24 (Upd.refl _) ?_
   refine W_rs ?_
   refine rq (out:=ai x2) ag ?_
   refine rq (out:=ai x3) ag ?_
   refine rq (out:=aj am ([x2,x3]:List (List UInt8))) (fo (R:=am) (ls:=([x2,x3]:List (List UInt8))) el25 (Nat.le_of_ble_eq_true rfl) ⟨rfl,rfl⟩ ⟨rfl,rfl,trivial⟩) ?_
   refine rq (out:=aj am ([x2,x3]:List (List UInt8))) ae ?_
   refine bc (fun e C=>∃(x61:Bool),ev x61=some r/\At [(6,Pr.bool x61)] [Own.box b25 ab x23,Own.box b26 ay x24,Own.box b40 ab x39] e C) ?_ ?_
   ·rintro e C ⟨x61,h,hat1⟩
    refine W_at hat1 ?_
    clear hat1
    unfold ev at h
    obtain rfl:=Option.some.inj h
    exact a6 ⟨rfl,aa⟩
   refine jm 30 hmx (by kernel_rfl) (by kernel_rfl) ?_
   refine qq (out:=(ab).val x39) (a8 (R:=ab) (a:=x39) (R':=ab) 2 ty24 (Sub.refl _)) ?_
   refine qq (out:=aj am ([x2,x3]:List (List UInt8))) ag ?_
   obtain⟨x41,hx41,h⟩:=af h
   refine qq (out:=ai x41) (aw (shape_Of_ok x39 ([x2,x3]:List (List UInt8)) _ hx41)) ?_
   refine qq (out:=(ab).val x23) (a8 (R:=ab) (a:=x23) (R':=ab) 0 ty24 (Sub.refl _)) ?_
   refine qq (out:=aj am ([x2,x3]:List (List UInt8))) ag ?_
   obtain⟨x42,hx42,h⟩:=af h
   refine qq (out:=ai x42) (aw (shape_Of_ok x23 ([x2,x3]:List (List UInt8)) _ hx42)) ?_
   refine qq (out:=Pr.bool (x41==x42)) qStr ?_
   refine qq (out:=Pr.bool (x41==x42)) ag ?_
   rcases bv h with⟨hc43,h⟩|⟨hc43,h⟩
   ·refine qqg hc43 (out:=(ab).val x39) (a8 (R:=ab) (a:=x39) (R':=ab) 2 ty24 (Sub.refl _)) ?_
    refine qqg hc43 (out:=(ab).val x23) (a8 (R:=ab) (a:=x23) (R':=ab) 0 ty24 (Sub.refl _)) ?_
    refine qqg hc43 (out:=aj am ([x2,x3]:List (List UInt8))) ag ?_
    obtain⟨x44,hx44,h⟩:=af h
    refine qqg hc43 (out:=Pr.i64 x44) (aw (ik x39 x23 ([x2,x3]:List (List UInt8)) _ hx44)) ?_
    refine qqg hc43 (out:=Pr.bool (x44==100)) qInt ?_
    refine qq (out:=Pr.bool (x44==100)) (bu hc43) ?_
    refine qq (out:=Pr.bool (x44==100)) ag ?_
    rcases bv h with⟨hc45,h⟩|⟨hc45,h⟩
    ·refine qqg hc45 (out:=(ab).val x23) (a8 (R:=ab) (a:=x23) (R':=ab) 0 ty24 (Sub.refl _)) ?_
     refine qqg hc45 (out:=(ab).val x23) (a8 (R:=ab) (a:=x23) (R':=ab) 0 ty24 (Sub.refl _)) ?_
     obtain⟨x46,hx46,h⟩:=af h
     refine qqg hc45 (out:=Pr.i64 x46) (mc (ik x23 x23 [] _ hx46) ⟨aa,aa,da _,trivial⟩) ?_
     refine qqg hc45 (out:=Pr.bool (x46==100)) qInt ?_
     refine qq (out:=Pr.bool (x46==100)) (bu hc45) ?_
     refine qq (out:=Pr.bool (x46==100)) ag ?_
     rcases bv h with⟨hc47,h⟩|⟨hc47,h⟩
     ·refine qqg hc47 (out:=(ab).val x23) (a8 (R:=ab) (a:=x23) (R':=ab) 0 ty24 (Sub.refl _)) ?_
      refine qqg hc47 (out:=(ab).val x39) (a8 (R:=ab) (a:=x39) (R':=ab) 2 ty24 (Sub.refl _)) ?_
      obtain⟨x48,hx48,h⟩:=af h
      refine qqg hc47 (out:=Pr.i64 x48) (mc (ik x23 x39 [] _ hx48) ⟨aa,aa,da _,trivial⟩) ?_
      refine qqg hc47 (out:=(ab).val x39) (a8 (R:=ab) (a:=x39) (R':=ab) 2 ty24 (Sub.refl _)) ?_
      refine qqg hc47 (out:=(ab).val x23) (a8 (R:=ab) (a:=x23) (R':=ab) 0 ty24 (Sub.refl _)) ?_
      obtain⟨x49,hx49,h⟩:=af h
      refine qqg hc47 (out:=Pr.i64 x49) (mc (ik x39 x23 [] _ hx49) ⟨aa,aa,da _,trivial⟩) ?_
      refine qqg hc47 (out:=Pr.bool (x48==x49)) qInt ?_
      refine qq (out:=Pr.bool (x48==x49)) (bu hc47) ?_
      refine qq (out:=Pr.bool (x48==x49)) ae ?_
      exact⟨x48==x49,h,⟨⟨aa,trivial⟩,Pick.refl _⟩⟩
     refine qqno (neT hc47) ?_
     refine qqno (neT hc47) ?_
     refine qqno (neT hc47) ?_
     refine qqno (neT hc47) ?_
     refine qqno (neT hc47) ?_
     refine qqno (neT hc47) ?_
     refine qqno (neT hc47) ?_
     refine qq (out:=Pr.bool false) (bp hc47) ?_
     refine qq (out:=Pr.bool false) ae ?_
     exact⟨false,h,⟨⟨aa,trivial⟩,Pick.refl _⟩⟩
    refine qqno (neT hc45) ?_
    refine qqno (neT hc45) ?_
    refine qqno (neT hc45) ?_
    refine qqno (neT hc45) ?_
    refine qq (out:=Pr.bool false) (bp hc45) ?_
    refine qq (out:=Pr.bool false) ag ?_
    have hc50:false=false:=rfl
    refine qqno (neT hc50) ?_
    refine qqno (neT hc50) ?_
    refine qqno (neT hc50) ?_
    refine qqno (neT hc50) ?_
    refine qqno (neT hc50) ?_
    refine qqno (neT hc50) ?_
    refine qqno (neT hc50) ?_
    refine qq (out:=Pr.bool false) (bp hc50) ?_
    refine qq (out:=Pr.bool false) ae ?_
    exact⟨false,h,⟨⟨aa,trivial⟩,Pick.refl _⟩⟩
   refine qqno (neT hc43) ?_
   refine qqno (neT hc43) ?_
   refine qqno (neT hc43) ?_
   refine qqno (neT hc43) ?_
   refine qqno (neT hc43) ?_
   refine qq (out:=Pr.bool false) (bp hc43) ?_
   refine qq (out:=Pr.bool false) ag ?_
   have hc53:false=false:=rfl
   refine qqno (neT hc53) ?_
   refine qqno (neT hc53) ?_
   refine qqno (neT hc53) ?_
   refine qqno (neT hc53) ?_
   refine qq (out:=Pr.bool false) (bp hc53) ?_
   refine qq (out:=Pr.bool false) ag ?_
   have hc58:false=false:=rfl
   refine qqno (neT hc58) ?_
   refine qqno (neT hc58) ?_
   refine qqno (neT hc58) ?_
   refine qqno (neT hc58) ?_
   refine qqno (neT hc58) ?_
   refine qqno (neT hc58) ?_
   refine qqno (neT hc58) ?_
   refine qq (out:=Pr.bool false) (bp hc58) ?_
   refine qq (out:=Pr.bool false) ae ?_
   exact⟨false,h,⟨⟨aa,trivial⟩,Pick.refl _⟩⟩
  refine eh (fun m e C=>∃(x29:Int),en (fun s=>ea x28 x2 x3 s) m x29=some z3l/\At [(1,ai x2),(2,ai x3),(8,ap b25 0),(10,aj ab x28),(11,Pr.i64 x29)] [Own.box b25 ab x23,Own.box b26 ay x24] e C) n3 ⟨0,hN3,⟨⟨aa,aa,aa,aa,aa,trivial⟩,Pick.refl _⟩⟩ ?_
  clear hN3
  rintro m e C ⟨x29,hN3,hatl3⟩
  refine W_at hatl3 ?_
  clear hatl3
  obtain⟨m3,w3l,rfl,h3l,hn3,ho3⟩:=bx hN3
  clear hN3
  replace h3l:ea x28 x2 x3 x29=some w3l:=h3l
  unfold ea at h3l
  refine a5 ?_
  refine W_rs ?_
  refine rq (out:=Pr.i64 x29) ag ?_
  refine rq (out:=aj ab x28) ag ?_
  refine rq (out:=Pr.i64 (x28.length:Int)) (fi rfl Tryz.underlying22) ?_
  refine rq (out:=Pr.bool (decide (x29<(x28.length:Int)))) qInt ?_
  refine ao (b:=decide (x29<(x28.length:Int))) rfl (fun hc31=> ?_) (fun hc31=> ?_)
  ·replace h3l:=iteT hc31 h3l
   refine au ?_
   refine a5 ?_
   refine az ?_
   refine bc (fun e C=>∃(x37:Bool),eu x29 x37=some w3l/\At [(1,ai x2),(2,ai x3),(8,ap b25 0),(10,aj ab x28),(11,Pr.i64 x29),(77,Pr.bool x37)] [Own.box b25 ab x23,Own.box b26 ay x24] e C) ?_ ?_
   ·rintro e C ⟨x37,h3l,hat4⟩
    refine W_at hat4 ?_
    clear hat4
    unfold eu at h3l
    refine ao (b:=x37) rfl (fun hc38=> ?_) (fun hc38=> ?_)
    ·replace h3l:=iteT hc38 h3l
     refine W_rs ?_
     refine rq (out:=Pr.bool true) ae ?_
     obtain rfl:=ho3 _ (Option.some.inj h3l).symm
     replace h:some true=some r:=h
     obtain rfl:=Option.some.inj h
     exact a6 ⟨rfl,aa⟩
    replace h3l:=iteF hc38 h3l
    refine au ?_
    refine W_r ?_
    refine rq (out:=Pr.i64 x29) ag ?_
    refine rq (out:=Pr.i64 (w64 (x29+1))) qInt ?_
    refine rq (out:=Pr.i64 (w64 (x29+1))) ae ?_
    exact⟨m3,Nat.lt_succ_self _,w64 (x29+1),hn3 _ (Option.some.inj h3l).symm,⟨⟨aa,aa,aa,aa,aa,trivial⟩,Pick.refl _⟩⟩
   refine W_r ?_
   refine rq (out:=aj ab x28) ag ?_
   refine rq (out:=Pr.i64 x29) ag ?_
   obtain⟨x32,hx32,h3l⟩:=af h3l
   refine rq (out:=bj ab x32) (ef (R:=ab) (l:=x28) Tryz.underlying22 Tryz.sizeOf24 hx32) ?_
   refine rq (out:=bj (Rp.int .i64) x32.Kind) (e7 (R:=ab) (a:=x32) md c8) ?_
   refine rq (out:=Pr.i64 x32.Kind) (c5 (R:=Rp.int .i64) (a:=x32.Kind) ty3) ?_
   refine rq (out:=Pr.bool (x32.Kind==24)) qInt ?_
   refine rq (out:=Pr.bool (x32.Kind==24)) ag ?_
   rcases bv h3l with⟨hc33,h3l⟩|⟨hc33,h3l⟩
   ·refine rqg hc33 (out:=aj ab x28) ag ?_
    refine rqg hc33 (out:=Pr.i64 x29) ag ?_
    obtain⟨x34,hx34,h3l⟩:=af h3l
    refine rqg hc33 (out:=bj ab x34) (ef (R:=ab) (l:=x28) Tryz.underlying22 Tryz.sizeOf24 hx34) ?_
    refine rqg hc33 (out:=bj am x34.Text) (e7 (R:=ab) (a:=x34) gl ct) ?_
    refine rqg hc33 (out:=ai x34.Text) (c5 (R:=am) (a:=x34.Text) ty9) ?_
    refine rqg hc33 (out:=ai x2) ag ?_
    refine rqg hc33 (out:=Pr.bool (x34.Text==x2)) qStr ?_
    refine rqg hc33 (out:=Pr.bool (x34.Text==x2)) ag ?_
    rcases bv h3l with⟨hc35,h3l⟩|⟨hc35,h3l⟩
    ·refine rno (neF hc35) ?_
     refine rno (neF hc35) ?_
     refine rno (neF hc35) ?_
     refine rno (neF hc35) ?_
     refine rno (neF hc35) ?_
     refine rno (neF hc35) ?_
     refine rno (neF hc35) ?_
     refine rqg hc33 (out:=Pr.bool true) (bu hc35) ?_
     refine rq (out:=Pr.bool true) (bu hc33) ?_
     exact⟨true,h3l,⟨⟨aa,aa,aa,aa,aa,aa,trivial⟩,Pick.refl _⟩⟩
    refine rqg hc35 (out:=aj ab x28) ag ?_
    refine rqg hc35 (out:=Pr.i64 x29) ag ?_
    obtain⟨x36,hx36,h3l⟩:=af h3l
    refine rqg hc35 (out:=bj ab x36) (ef (R:=ab) (l:=x28) Tryz.underlying22 Tryz.sizeOf24 hx36) ?_
    refine rqg hc35 (out:=bj am x36.Text) (e7 (R:=ab) (a:=x36) gl ct) ?_
    refine rqg hc35 (out:=ai x36.Text) (c5 (R:=am) (a:=x36.Text) ty9) ?_
    refine rqg hc35 (out:=ai x3) ag ?_
    refine rqg hc35 (out:=Pr.bool (x36.Text==x3)) qStr ?_
    refine rqg hc33 (out:=Pr.bool (x36.Text==x3)) (bp hc35) ?_
    refine rq (out:=Pr.bool (x36.Text==x3)) (bu hc33) ?_
    exact⟨x36.Text==x3,h3l,⟨⟨aa,aa,aa,aa,aa,aa,trivial⟩,Pick.refl _⟩⟩
   refine rno (neT hc33) ?_
   refine rno (neT hc33) ?_
   refine rno (neT hc33) ?_
   refine rno (neT hc33) ?_
   refine rno (neT hc33) ?_
   refine rno (neT hc33) ?_
   refine rno (neT hc33) ?_
   refine rno (neT hc33) ?_
   refine rnoU ?_
   refine rnoU ?_
   refine rnoU ?_
   refine rnoU ?_
   refine rnoU ?_
   refine rnoU ?_
   refine rnoU ?_
   refine rno (neT hc33) ?_
   refine rq (out:=Pr.bool false) (bp hc33) ?_
   exact⟨false,h3l,⟨⟨aa,aa,aa,aa,aa,aa,trivial⟩,Pick.refl _⟩⟩
  replace h3l:=iteF hc31 h3l
  refine dg ?_
  obtain rfl:=ho3 _ (Option.some.inj h3l).symm
  exact⟨h,⟨⟨aa,aa,aa,trivial⟩,Pick.refl _⟩⟩
 refine W_r ?_
 refine rq (out:=ai x1) ag ?_
 refine rq (out:=Pr.i64 (x1.length:Int)) (qLenS rfl Tryz.underlying9) ?_
 refine rq (out:=Pr.bool (decide ((x1.length:Int)>1000))) qInt ?_
 refine rq (out:=Pr.bool (decide ((x1.length:Int)>1000))) ag ?_
 rcases bv h with⟨hc6,h⟩|⟨hc6,h⟩
 ·refine rno (neF hc6) ?_
  refine rno (neF hc6) ?_
  refine rno (neF hc6) ?_
  refine rq (out:=Pr.bool true) (bu hc6) ?_
  refine rq (out:=Pr.bool true) ag ?_
  have hc14:true=true:=rfl
  refine rno (neF hc14) ?_
  refine rno (neF hc14) ?_
  refine rno (neF hc14) ?_
  refine rq (out:=Pr.bool true) (bu hc14) ?_
  refine rq (out:=Pr.bool true) ag ?_
  have hc18:true=true:=rfl
  refine rno (neF hc18) ?_
  refine rno (neF hc18) ?_
  refine rq (out:=Pr.bool true) (bu hc18) ?_
  refine rq (out:=Pr.bool true) ag ?_
  have hc20:true=true:=rfl
  refine rno (neF hc20) ?_
  refine rno (neF hc20) ?_
  refine rq (out:=Pr.bool true) (bu hc20) ?_
  exact⟨true,h,⟨⟨aa,aa,aa,aa,trivial⟩,Pick.refl _⟩⟩
 refine rqg hc6 (out:=ai x2) ag ?_
 refine rqg hc6 (out:=Pr.i64 (x2.length:Int)) (qLenS rfl Tryz.underlying9) ?_
 refine rqg hc6 (out:=Pr.bool (decide ((x2.length:Int)>20))) qInt ?_
 refine rq (out:=Pr.bool (decide ((x2.length:Int)>20))) (bp hc6) ?_
 refine rq (out:=Pr.bool (decide ((x2.length:Int)>20))) ag ?_
 rcases bv h with⟨hc7,h⟩|⟨hc7,h⟩
 ·refine rno (neF hc7) ?_
  refine rno (neF hc7) ?_
  refine rno (neF hc7) ?_
  refine rq (out:=Pr.bool true) (bu hc7) ?_
  refine rq (out:=Pr.bool true) ag ?_
  have hc11:true=true:=rfl
  refine rno (neF hc11) ?_
  refine rno (neF hc11) ?_
  refine rq (out:=Pr.bool true) (bu hc11) ?_
  refine rq (out:=Pr.bool true) ag ?_
  have hc13:true=true:=rfl
  refine rno (neF hc13) ?_
  refine rno (neF hc13) ?_
  refine rq (out:=Pr.bool true) (bu hc13) ?_
  exact⟨true,h,⟨⟨aa,aa,aa,aa,trivial⟩,Pick.refl _⟩⟩
 refine rqg hc7 (out:=ai x3) ag ?_
 refine rqg hc7 (out:=Pr.i64 (x3.length:Int)) (qLenS rfl Tryz.underlying9) ?_
 refine rqg hc7 (out:=Pr.bool (decide ((x3.length:Int)>20))) qInt ?_
 refine rq (out:=Pr.bool (decide ((x3.length:Int)>20))) (bp hc7) ?_
 refine rq (out:=Pr.bool (decide ((x3.length:Int)>20))) ag ?_
 rcases bv h with⟨hc8,h⟩|⟨hc8,h⟩
 ·refine rno (neF hc8) ?_
  refine rno (neF hc8) ?_
  refine rq (out:=Pr.bool true) (bu hc8) ?_
  refine rq (out:=Pr.bool true) ag ?_
  have hc10:true=true:=rfl
  refine rno (neF hc10) ?_
  refine rno (neF hc10) ?_
  refine rq (out:=Pr.bool true) (bu hc10) ?_
  exact⟨true,h,⟨⟨aa,aa,aa,aa,trivial⟩,Pick.refl _⟩⟩
 refine rqg hc8 (out:=ai x2) ag ?_
 refine rqg hc8 (out:=Pr.bool (x2==[])) qStr ?_
 refine rq (out:=Pr.bool (x2==[])) (bp hc8) ?_
 refine rq (out:=Pr.bool (x2==[])) ag ?_
 rcases bv h with⟨hc9,h⟩|⟨hc9,h⟩
 ·refine rno (neF hc9) ?_
  refine rno (neF hc9) ?_
  refine rq (out:=Pr.bool true) (bu hc9) ?_
  exact⟨true,h,⟨⟨aa,aa,aa,aa,trivial⟩,Pick.refl _⟩⟩
 refine rqg hc9 (out:=ai x3) ag ?_
 refine rqg hc9 (out:=Pr.bool (x3==[])) qStr ?_
 refine rq (out:=Pr.bool (x3==[])) (bp hc9) ?_
 exact⟨x3==[],h,⟨⟨aa,aa,aa,aa,trivial⟩,Pick.refl _⟩⟩
end Go.Proofs.YtgkcoicaopilhaaGreatDoor
