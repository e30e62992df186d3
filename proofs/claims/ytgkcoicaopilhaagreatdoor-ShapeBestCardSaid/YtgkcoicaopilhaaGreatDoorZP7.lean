/- The code comes to what these functions say (printed by wip/gen/gen.py). -/
import Derived.Test.YtgkcoicaopilhaaGreatDoorZP6
import Derived.Test.YtgkcoicaopilhaaGreatDoorZT
set_option linter.unusedSimpArgs false
set_option linter.unusedVariables false
set_option linter.unusedSectionVars false
set_option linter.unusedSectionVars false
set_option maxRecDepth 100000
set_option maxHeartbeats 4000000
namespace Go.Proofs.YtgkcoicaopilhaaGreatDoor
open Go Go.Cn
theorem ref14_in_ok (x1:List (List UInt8)) (x2:List UInt8) (r:Bool) (h:ref14_in x1 x2=some r):FnP Tryz.prog 28 [ai ak x1,ah x2] (Pr.bool r):=by
 refine bd (n:=22) (rs:=[4]) Tryz.func28 rfl Tryz.ntmps28 ⟨by decide,Tryz.results28⟩ (by decide) (fun s0=> ?_)
 unfold ref14_in at h
 refine W_rs ?_
 refine rq (out:=Pr.bool false) ae ?_
 refine a4 ?_
 refine W_rs ?_
 refine rq (out:=Pr.i64 0) ae ?_
 refine av ?_
 obtain⟨z2l,hz2,h⟩:=af h
 obtain⟨n2,hN2⟩:=bj hz2
 clear hz2
 refine ct 0 (fun e C=>ref14_in_k1=some r/\At [] [] e C) ?_ ?_
 ·rintro e C ⟨h,hat1⟩
  refine W_at hat1 ?_
  clear hat1
  unfold ref14_in_k1 at h
  refine W_rs ?_
  refine rq (out:=Pr.bool false) ae ?_
  obtain rfl:=Option.some.inj h
  exact a5 ⟨rfl,aa⟩
 refine dg (fun m e C=>∃(x3:Int),d4 (fun s=>ref14_in_l2 x1 x2 s) m x3=some z2l/\At [(0,ai ak x1),(1,ah x2),(5,Pr.i64 x3)] [] e C) n2 ⟨0,hN2,⟨⟨aa,aa,aa,trivial⟩,Pick.refl _⟩⟩ ?_
 clear hN2
 rintro m e C ⟨x3,hN2,hatl2⟩
 refine W_at hatl2 ?_
 clear hatl2
 obtain⟨m2,w2l,rfl,h2l,hn2,ho2⟩:=bg hN2
 clear hN2
 replace h2l:ref14_in_l2 x1 x2 x3=some w2l:=h2l
 unfold ref14_in_l2 at h2l
 refine a4 ?_
 refine W_rs ?_
 refine rq (out:=Pr.i64 x3) ag ?_
 refine rq (out:=ai ak x1) ag ?_
 refine rq (out:=Pr.i64 (x1.length:Int)) (dc rfl Tryz.underlying25) ?_
 refine rq (out:=Pr.bool (decide (x3<(x1.length:Int)))) qInt ?_
 refine al (b:=decide (x3<(x1.length:Int))) rfl (fun hc5=> ?_) (fun hc5=> ?_)
 ·replace h2l:=iteT hc5 h2l
  refine ar ?_
  refine a4 ?_
  refine av ?_
  refine ba (fun e C=>∃(x8:Bool),ref14_in_j3 x3 x8=some w2l/\At [(0,ai ak x1),(1,ah x2),(5,Pr.i64 x3),(21,Pr.bool x8)] [] e C) ?_ ?_
  ·rintro e C ⟨x8,h2l,hat3⟩
   refine W_at hat3 ?_
   clear hat3
   unfold ref14_in_j3 at h2l
   refine al (b:=x8) rfl (fun hc9=> ?_) (fun hc9=> ?_)
   ·replace h2l:=iteT hc9 h2l
    refine W_rs ?_
    refine rq (out:=Pr.bool true) ae ?_
    obtain rfl:=ho2 _ (Option.some.inj h2l).symm
    replace h:some true=some r:=h
    obtain rfl:=Option.some.inj h
    exact a5 ⟨rfl,aa⟩
   replace h2l:=iteF hc9 h2l
   refine ar ?_
   refine W_r ?_
   refine rq (out:=Pr.i64 x3) ag ?_
   refine rq (out:=Pr.i64 (w64 (x3+1))) qInt ?_
   refine rq (out:=Pr.i64 (w64 (x3+1))) ae ?_
   exact⟨m2,Nat.lt_succ_self _,w64 (x3+1),hn2 _ (Option.some.inj h2l).symm,⟨⟨aa,aa,aa,trivial⟩,Pick.refl _⟩⟩
  refine W_r ?_
  refine rq (out:=ai ak x1) ag ?_
  refine rq (out:=Pr.i64 x3) ag ?_
  obtain⟨x6,hx6,h2l⟩:=af h2l
  refine rq (out:=a8 ak x6) (c6 (R:=ak) (l:=x1) Tryz.underlying25 Tryz.sizeOf9 hx6) ?_
  refine rq (out:=ah x6) (bp (R:=ak) (a:=x6) ty9) ?_
  refine rq (out:=ah x2) ag ?_
  refine rq (out:=Pr.bool (x6==x2)) qStr ?_
  refine rq (out:=Pr.bool (x6==x2)) ag ?_
  rcases cc h2l with⟨hc7,h2l⟩|⟨hc7,h2l⟩
  ·refine rqg hc7 (out:=ah x2) ag ?_
   refine rqg hc7 (out:=Pr.bool (!(x2==[]))) qStr ?_
   refine rq (out:=Pr.bool (!(x2==[]))) (cj hc7) ?_
   exact⟨!(x2==[]),h2l,⟨⟨aa,aa,aa,aa,trivial⟩,Pick.refl _⟩⟩
  refine rno (neT hc7) ?_
  refine rno (neT hc7) ?_
  refine rq (out:=Pr.bool false) (bx hc7) ?_
  exact⟨false,h2l,⟨⟨aa,aa,aa,aa,trivial⟩,Pick.refl _⟩⟩
 replace h2l:=iteF hc5 h2l
 refine cr ?_
 obtain rfl:=ho2 _ (Option.some.inj h2l).symm
 exact⟨h,⟨trivial,Pick.refl _⟩⟩
def rec_ref14_Erase_spec (R:dq):Prop:=(∀(x1:ApiNode) (x2:List (List UInt8)) (r:ApiNode),R x1 x2=some r->FnP Tryz.prog 11 [(ab).val x1,ai ak x2] ((ab).val r))
theorem F_ref14_Erase_step (R:dq) (ih:rec_ref14_Erase_spec R) (x1:ApiNode) (x2:List (List UInt8)) (r:ApiNode) (h:F_ref14_Erase R x1 x2=some r):FnP Tryz.prog 11 [(ab).val x1,ai ak x2] ((ab).val r):=by
 refine fa (n:=46) (rs:=[.cell 4 24]) Tryz.func11 rfl Tryz.ntmps11 Tryz.results11 (by decide) (fun s0=> ?_)
 unfold F_ref14_Erase at h
 refine W_rs ?_
 refine rBox (R:=ab) (a:=x1) rfl (fun b3=> ?_)
 refine cg (R:=ab) (z:=(ApiNode.mk 0 [] [] 0 0 0 0 0 [])) Tryz.zeroValue24 (fun _=>(by rw[ao];exact⟨_,⟨_,_,rfl,rfl,⟨_,_,rfl,rfl,⟨_,_,rfl,rfl,⟨_,_,rfl,rfl,⟨_,_,rfl,rfl,⟨_,_,rfl,rfl,⟨_,_,rfl,rfl,⟨_,_,rfl,rfl,⟨_,_,rfl,⟨_,rfl,none,0,rfl,⟨Nat.le_refl _,fun _=>rfl⟩,.inl rfl⟩,rfl⟩⟩⟩⟩⟩⟩⟩⟩⟩,rfl⟩)) (fun b4=> ?_)
 refine W_rs ?_
 refine rq (out:=Pr.is (.slice none 0 0)) ae ?_
 refine a4 ?_
 refine W_rs ?_
 refine rq (out:=Pr.i64 0) ae ?_
 refine av ?_
 obtain⟨z5l,hz5,h⟩:=af h
 obtain⟨n5,hN5⟩:=bj hz5
 clear hz5
 refine ct 0 (fun e C=>∃(x7:List ApiNode),∃(v5:Value),ref14_Erase_k4 R x2 x1 x7=some r/\At [(1,ai ak x2),(2,aq b3 0),(4,aq b4 0),(5,Pr.is v5)] [Own.box b3 ab x1,Own.box b4 ab (ApiNode.mk 0 [] [] 0 0 0 0 0 []),Own.vec v5 ab x7 24] e C) ?_ ?_
 ·rintro e C ⟨x7,v5,h,hat4⟩
  refine W_at hat4 ?_
  clear hat4
  unfold ref14_Erase_k4 at h
  refine W_rs ?_
  refine rq (out:=Pr.is v5) ag ?_
  refine rq (out:=aq b3 8) (au c8) ?_
  refine rRel 2 [5,26] ?_ rfl ⟨rfl,rfl,trivial⟩
  refine az (R:=ab) (R':=ap ab) (a:=x1) (y:=x7) 0 Tryz.sizeOf22 updApiNode_Kids ?_
  refine W_rs ?_
  refine rq (out:=ai ak x2) ag ?_
  refine rq (out:=aq b3 1) (au eu) ?_
  refine rq (out:=ah (({x1 with Kids:=x7}).Text)) (a6 (R:=ab) (a:={x1 with Kids:=x7}) (R':=ak) 0 ty9 bq) ?_
  obtain⟨x16,hx16,h⟩:=af h
  refine rq (out:=Pr.bool x16) (ax (ref14_in_ok x2 (({x1 with Kids:=x7}).Text) _ hx16)) ?_
  refine rq (out:=Pr.bool x16) ae ?_
  refine ba (fun e C=>∃(x20:ApiNode),lj R x2 x20=some r/\At [(1,ai ak x2),(2,aq b3 0),(4,aq b4 0)] [Own.box b3 ab x20,Own.box b4 ab (ApiNode.mk 0 [] [] 0 0 0 0 0 [])] e C) ?_ ?_
  ·rintro e C ⟨x20,h,hat2⟩
   refine W_at hat2 ?_
   clear hat2
   unfold lj at h
   refine W_rs ?_
   refine rq (out:=ai ak x2) ag ?_
   refine rq (out:=aq b3 2) (au oq) ?_
   refine rq (out:=ah x20.Type_) (a6 (R:=ab) (a:=x20) (R':=ak) 0 ty9 d9) ?_
   obtain⟨x21,hx21,h⟩:=af h
   refine rq (out:=Pr.bool x21) (ax (ref14_in_ok x2 x20.Type_ _ hx21)) ?_
   refine rq (out:=Pr.bool x21) ae ?_
   refine ba (fun e C=>∃(x23:ApiNode),np R x23=some r/\At [(2,aq b3 0),(4,aq b4 0)] [Own.box b3 ab x23,Own.box b4 ab (ApiNode.mk 0 [] [] 0 0 0 0 0 [])] e C) ?_ ?_
   ·rintro e C ⟨x23,h,hat1⟩
    refine W_at hat1 ?_
    clear hat1
    unfold np at h
    refine W_rs ?_
    refine rq (out:=(ab).val x23) (a6 (R:=ab) (a:=x23) (R':=ab) 0 ty24 (Sub.refl _)) ?_
    refine az (R:=ab) (R':=ab) (a:=(ApiNode.mk 0 [] [] 0 0 0 0 0 [])) (y:=x23) 1 Tryz.sizeOf24 (Upd.refl _) ?_
    obtain rfl:=Option.some.inj h
    exact a5 ⟨rfl,[(ab).val x23],⟨yBox 1 ty24 aa,trivial⟩,aa⟩
   refine W_rs ?_
   refine rq (out:=Pr.bool x21) ag ?_
   refine al (b:=x21) rfl (fun hc22=> ?_) (fun hc22=> ?_)
   ·replace h:=iteT hc22 h
    refine W_r ?_
    refine rq (out:=aq b3 2) (au oq) ?_
    refine az (R:=ab) (R':=ak) (a:=x20) (y:=([95]:List UInt8)) 0 Tryz.sizeOf9 updApiNode_Type ?_
    exact⟨{x20 with Type_:=([95]:List UInt8)},h,⟨⟨aa,aa,trivial⟩,Pick.refl _⟩⟩
   replace h:=iteF hc22 h
   refine ar ?_
   exact⟨x20,h,⟨⟨aa,aa,trivial⟩,Pick.refl _⟩⟩
  refine ba (fun e C=>∃(x18:Bool),nn R x2 x1 x7 x18=some r/\At [(1,ai ak x2),(2,aq b3 0),(4,aq b4 0),(37,Pr.bool x18)] [Own.box b3 ab ({x1 with Kids:=x7}),Own.box b4 ab (ApiNode.mk 0 [] [] 0 0 0 0 0 [])] e C) ?_ ?_
  ·rintro e C ⟨x18,h,hat3⟩
   refine W_at hat3 ?_
   clear hat3
   unfold nn at h
   refine al (b:=x18) rfl (fun hc19=> ?_) (fun hc19=> ?_)
   ·replace h:=iteT hc19 h
    refine W_r ?_
    refine rq (out:=aq b3 1) (au eu) ?_
    refine az (R:=ab) (R':=ak) (a:={x1 with Kids:=x7}) (y:=([95]:List UInt8)) 0 Tryz.sizeOf9 iv ?_
    exact⟨{{x1 with Kids:=x7} with Text:=([95]:List UInt8)},h,⟨⟨aa,aa,aa,trivial⟩,Pick.refl _⟩⟩
   replace h:=iteF hc19 h
   refine ar ?_
   exact⟨{x1 with Kids:=x7},h,⟨⟨aa,aa,aa,trivial⟩,Pick.refl _⟩⟩
  refine W_r ?_
  refine rq (out:=Pr.bool x16) ag ?_
  refine rq (out:=Pr.bool x16) ag ?_
  rcases cc h with⟨hc17,h⟩|⟨hc17,h⟩
  ·refine rqg hc17 (out:=aq b3 0) (au f8) ?_
   refine rqg hc17 (out:=Pr.i64 (({x1 with Kids:=x7}).Kind)) (a6 (R:=ab) (a:={x1 with Kids:=x7}) (R':=Rp.int .i64) 0 ty3 bv) ?_
   refine rqg hc17 (out:=Pr.bool ((({x1 with Kids:=x7}).Kind) != 24)) qInt ?_
   refine rq (out:=Pr.bool ((({x1 with Kids:=x7}).Kind) != 24)) (cj hc17) ?_
   exact⟨(({x1 with Kids:=x7}).Kind) != 24,h,⟨⟨aa,aa,aa,aa,trivial⟩,Pick.refl _⟩⟩
  refine rno (neT hc17) ?_
  refine rno (neT hc17) ?_
  refine rno (neT hc17) ?_
  refine rq (out:=Pr.bool false) (bx hc17) ?_
  exact⟨false,h,⟨⟨aa,aa,aa,aa,trivial⟩,Pick.refl _⟩⟩
 refine W_nil [5] ab 24 (fun v24=> ?_) ⟨rfl,trivial⟩
 refine dg (fun m e C=>∃(x6:Int),∃(x7:List ApiNode),∃(v5:Value),d4 (fun s=>g7 R x1 x2 s.1 s.2) m (x6,x7)=some z5l/\At [(1,ai ak x2),(2,aq b3 0),(4,aq b4 0),(5,Pr.is v5),(6,Pr.i64 x6)] [Own.box b3 ab x1,Own.box b4 ab (ApiNode.mk 0 [] [] 0 0 0 0 0 []),Own.vec v5 ab x7 24] e C) n5 ⟨0,[],v24,hN5,⟨⟨aa,aa,aa,aa,aa,trivial⟩,Pick.refl _⟩⟩ ?_
 clear hN5
 rintro m e C ⟨x6,x7,v5,hN5,hatl5⟩
 refine W_at hatl5 ?_
 clear hatl5
 obtain⟨m5,w5l,rfl,h5l,hn5,ho5⟩:=bg hN5
 clear hN5
 replace h5l:g7 R x1 x2 x6 x7=some w5l:=h5l
 unfold g7 at h5l
 refine a4 ?_
 refine W_rs ?_
 refine rq (out:=Pr.i64 x6) ag ?_
 refine rq (out:=aq b3 8) (au c8) ?_
 refine rq (out:=ai ab x1.Kids) (a6 (R:=ab) (a:=x1) (R':=ap ab) 0 ty22 ay) ?_
 refine rq (out:=Pr.i64 (x1.Kids.length:Int)) (dc rfl Tryz.underlying22) ?_
 refine rq (out:=Pr.bool (decide (x6<(x1.Kids.length:Int)))) qInt ?_
 refine al (b:=decide (x6<(x1.Kids.length:Int))) rfl (fun hc11=> ?_) (fun hc11=> ?_)
 ·replace h5l:=iteT hc11 h5l
  refine ar ?_
  refine a4 ?_
  refine av ?_
  refine W_r ?_
  refine rq (out:=Pr.is v5) ag ?_
  refine rq (out:=aq b3 8) (au c8) ?_
  refine rq (out:=ai ab x1.Kids) (a6 (R:=ab) (a:=x1) (R':=ap ab) 0 ty22 ay) ?_
  refine rq (out:=Pr.i64 x6) ag ?_
  obtain⟨x12,hx12,h5l⟩:=af h5l
  refine rq (out:=a8 ab x12) (c6 (R:=ab) (l:=x1.Kids) Tryz.underlying22 Tryz.sizeOf24 hx12) ?_
  refine rq (out:=(ab).val x12) (bp (R:=ab) (a:=x12) ty24) ?_
  refine rq (out:=ai ak x2) ag ?_
  obtain⟨x13,hx13,h5l⟩:=af h5l
  refine rq (out:=(ab).val x13) (ax (ih x12 x2 _ hx13)) ?_
  refine rq (out:=ai ab ([x13]:List ApiNode)) (cf (R:=ab) (a:=x13) el22 (Nat.le_of_ble_eq_true rfl)) ?_
  obtain⟨x14,hx14,h5l⟩:=af h5l
  refine f3 2 el22 hx14 (fun v15=> ?_)
  refine rq (out:=Pr.is v15) ae ?_
  refine W_r ?_
  refine rq (out:=Pr.i64 x6) ag ?_
  refine rq (out:=Pr.i64 (w64 (x6+1))) qInt ?_
  refine rq (out:=Pr.i64 (w64 (x6+1))) ae ?_
  exact⟨m5,Nat.lt_succ_self _,w64 (x6+1),x14,v15,hn5 _ (Option.some.inj h5l).symm,⟨⟨aa,aa,aa,aa,aa,trivial⟩,Pick.refl _⟩⟩
 replace h5l:=iteF hc11 h5l
 refine cr ?_
 obtain rfl:=ho5 _ (Option.some.inj h5l).symm
 exact⟨x7,v5,h,⟨⟨aa,aa,aa,aa,trivial⟩,Pick.refl _⟩⟩
theorem rec_ref14_Erase_ok :∀n,rec_ref14_Erase_spec (gn n):=by
 intro n
 induction n with
 |zero=>exact(fun x1 x2 r h=>nomatch (show none=some r from h))
 |succ n ih=>exact(fun x1 x2 r h=>F_ref14_Erase_step (gn n) ih x1 x2 r h)
theorem ref14_Erase_ok (x1:ApiNode) (x2:List (List UInt8)) (r:ApiNode) (h:ref14_Erase x1 x2=some r):FnP Tryz.prog 11 [(ab).val x1,ai ak x2] ((ab).val r):=(rec_ref14_Erase_ok 1048576) x1 x2 r h
theorem ref13_Binds_ok (x1:List UInt8) (r:Int) (h:ref13_Binds x1=some r):FnP Tryz.prog 150 [ah x1] (Pr.i64 r):=by
 refine bd (n:=39) (rs:=[2]) Tryz.func150 rfl Tryz.ntmps150 ⟨by decide,Tryz.results150⟩ (by decide) (fun s0=> ?_)
 unfold ref13_Binds at h
 refine W_rs ?_
 refine rq (out:=Pr.i64 0) ae ?_
 refine W_rs ?_
 refine rq (out:=ai ak ([([124,124]:List UInt8)]:List (List UInt8))) (cf (R:=ak) (a:=([124,124]:List UInt8)) el25 (Nat.le_of_ble_eq_true rfl)) ?_
 refine rq (out:=ai ak ([([38,38]:List UInt8)]:List (List UInt8))) (cf (R:=ak) (a:=([38,38]:List UInt8)) el25 (Nat.le_of_ble_eq_true rfl)) ?_
 refine rq (out:=ai ak ([([61,61]:List UInt8),([33,61]:List UInt8)]:List (List UInt8))) (ef (R:=ak) (ls:=([([61,61]:List UInt8),([33,61]:List UInt8)]:List (List UInt8))) el25 (Nat.le_of_ble_eq_true rfl) ⟨rfl,rfl⟩ ⟨rfl,rfl,trivial⟩) ?_
 refine rq (out:=ai ak ([([60]:List UInt8),([60,61]:List UInt8),([62]:List UInt8),([62,61]:List UInt8)]:List (List UInt8))) (ef (R:=ak) (ls:=([([60]:List UInt8),([60,61]:List UInt8),([62]:List UInt8),([62,61]:List UInt8)]:List (List UInt8))) el25 (Nat.le_of_ble_eq_true rfl) ⟨rfl,rfl⟩ ⟨rfl,rfl,rfl,rfl,trivial⟩) ?_
 refine rq (out:=ai ak ([([43]:List UInt8),([45]:List UInt8)]:List (List UInt8))) (ef (R:=ak) (ls:=([([43]:List UInt8),([45]:List UInt8)]:List (List UInt8))) el25 (Nat.le_of_ble_eq_true rfl) ⟨rfl,rfl⟩ ⟨rfl,rfl,trivial⟩) ?_
 refine rq (out:=ai ak ([([42]:List UInt8),([47]:List UInt8),([37]:List UInt8)]:List (List UInt8))) (ef (R:=ak) (ls:=([([42]:List UInt8),([47]:List UInt8),([37]:List UInt8)]:List (List UInt8))) el25 (Nat.le_of_ble_eq_true rfl) ⟨rfl,rfl⟩ ⟨rfl,rfl,rfl,trivial⟩) ?_
 refine rq (out:=ai (ap ak) ([([([124,124]:List UInt8)]:List (List UInt8)),([([38,38]:List UInt8)]:List (List UInt8)),([([61,61]:List UInt8),([33,61]:List UInt8)]:List (List UInt8)),([([60]:List UInt8),([60,61]:List UInt8),([62]:List UInt8),([62,61]:List UInt8)]:List (List UInt8)),([([43]:List UInt8),([45]:List UInt8)]:List (List UInt8)),([([42]:List UInt8),([47]:List UInt8),([37]:List UInt8)]:List (List UInt8))]:List (List (List UInt8)))) (ef (R:=ap ak) (ls:=([([([124,124]:List UInt8)]:List (List UInt8)),([([38,38]:List UInt8)]:List (List UInt8)),([([61,61]:List UInt8),([33,61]:List UInt8)]:List (List UInt8)),([([60]:List UInt8),([60,61]:List UInt8),([62]:List UInt8),([62,61]:List UInt8)]:List (List UInt8)),([([43]:List UInt8),([45]:List UInt8)]:List (List UInt8)),([([42]:List UInt8),([47]:List UInt8),([37]:List UInt8)]:List (List UInt8))]:List (List (List UInt8)))) el69 (Nat.le_of_ble_eq_true rfl) ⟨rfl,rfl⟩ ⟨rfl,rfl,rfl,rfl,rfl,rfl,trivial⟩) ?_
 refine rq (out:=ai (ap ak) ([([([124,124]:List UInt8)]:List (List UInt8)),([([38,38]:List UInt8)]:List (List UInt8)),([([61,61]:List UInt8),([33,61]:List UInt8)]:List (List UInt8)),([([60]:List UInt8),([60,61]:List UInt8),([62]:List UInt8),([62,61]:List UInt8)]:List (List UInt8)),([([43]:List UInt8),([45]:List UInt8)]:List (List UInt8)),([([42]:List UInt8),([47]:List UInt8),([37]:List UInt8)]:List (List UInt8))]:List (List (List UInt8)))) ae ?_
 refine a4 ?_
 refine W_rs ?_
 refine rq (out:=Pr.i64 0) ae ?_
 refine av ?_
 obtain⟨z2l,hz2,h⟩:=af h
 obtain⟨n2,hN2⟩:=bj hz2
 clear hz2
 refine ct 0 (fun e C=>ref13_Binds_k1=some r/\At [] [] e C) ?_ ?_
 ·rintro e C ⟨h,hat1⟩
  refine W_at hat1 ?_
  clear hat1
  unfold ref13_Binds_k1 at h
  refine W_rs ?_
  refine rq (out:=Pr.i64 0) ae ?_
  obtain rfl:=Option.some.inj h
  exact a5 ⟨rfl,aa⟩
 refine dg (fun m e C=>∃(x2:Int),d4 (fun s=>ia x1 s) m x2=some z2l/\At [(0,ah x1),(3,ai (ap ak) ([([([124,124]:List UInt8)]:List (List UInt8)),([([38,38]:List UInt8)]:List (List UInt8)),([([61,61]:List UInt8),([33,61]:List UInt8)]:List (List UInt8)),([([60]:List UInt8),([60,61]:List UInt8),([62]:List UInt8),([62,61]:List UInt8)]:List (List UInt8)),([([43]:List UInt8),([45]:List UInt8)]:List (List UInt8)),([([42]:List UInt8),([47]:List UInt8),([37]:List UInt8)]:List (List UInt8))]:List (List (List UInt8)))),(4,Pr.i64 x2)] [] e C) n2 ⟨0,hN2,⟨⟨aa,aa,aa,trivial⟩,Pick.refl _⟩⟩ ?_
 clear hN2
 rintro m e C ⟨x2,hN2,hatl2⟩
 refine W_at hatl2 ?_
 clear hatl2
 obtain⟨m2,w2l,rfl,h2l,hn2,ho2⟩:=bg hN2
 clear hN2
 replace h2l:ia x1 x2=some w2l:=h2l
 unfold ia at h2l
 refine a4 ?_
 refine W_rs ?_
 refine rq (out:=Pr.i64 x2) ag ?_
 refine rq (out:=ai (ap ak) ([([([124,124]:List UInt8)]:List (List UInt8)),([([38,38]:List UInt8)]:List (List UInt8)),([([61,61]:List UInt8),([33,61]:List UInt8)]:List (List UInt8)),([([60]:List UInt8),([60,61]:List UInt8),([62]:List UInt8),([62,61]:List UInt8)]:List (List UInt8)),([([43]:List UInt8),([45]:List UInt8)]:List (List UInt8)),([([42]:List UInt8),([47]:List UInt8),([37]:List UInt8)]:List (List UInt8))]:List (List (List UInt8)))) ag ?_
 refine rq (out:=Pr.i64 (([([([124,124]:List UInt8)]:List (List UInt8)),([([38,38]:List UInt8)]:List (List UInt8)),([([61,61]:List UInt8),([33,61]:List UInt8)]:List (List UInt8)),([([60]:List UInt8),([60,61]:List UInt8),([62]:List UInt8),([62,61]:List UInt8)]:List (List UInt8)),([([43]:List UInt8),([45]:List UInt8)]:List (List UInt8)),([([42]:List UInt8),([47]:List UInt8),([37]:List UInt8)]:List (List UInt8))]:List (List (List UInt8))).length:Int)) (dc rfl Tryz.underlying69) ?_
 refine rq (out:=Pr.bool (decide (x2<(([([([124,124]:List UInt8)]:List (List UInt8)),([([38,38]:List UInt8)]:List (List UInt8)),([([61,61]:List UInt8),([33,61]:List UInt8)]:List (List UInt8)),([([60]:List UInt8),([60,61]:List UInt8),([62]:List UInt8),([62,61]:List UInt8)]:List (List UInt8)),([([43]:List UInt8),([45]:List UInt8)]:List (List UInt8)),([([42]:List UInt8),([47]:List UInt8),([37]:List UInt8)]:List (List UInt8))]:List (List (List UInt8))).length:Int)))) qInt ?_
 refine al (b:=decide (x2<(([([([124,124]:List UInt8)]:List (List UInt8)),([([38,38]:List UInt8)]:List (List UInt8)),([([61,61]:List UInt8),([33,61]:List UInt8)]:List (List UInt8)),([([60]:List UInt8),([60,61]:List UInt8),([62]:List UInt8),([62,61]:List UInt8)]:List (List UInt8)),([([43]:List UInt8),([45]:List UInt8)]:List (List UInt8)),([([42]:List UInt8),([47]:List UInt8),([37]:List UInt8)]:List (List UInt8))]:List (List (List UInt8))).length:Int))) rfl (fun hc4=> ?_) (fun hc4=> ?_)
 ·replace h2l:=iteT hc4 h2l
  refine ar ?_
  refine a4 ?_
  refine av ?_
  refine W_rs ?_
  refine rq (out:=Pr.i64 0) ae ?_
  refine av ?_
  obtain⟨z4l,hz4,h2l⟩:=af h2l
  obtain⟨n4,hN4⟩:=bj hz4
  clear hz4
  refine ct 2 (fun e C=>ref13_Binds_k3 x2=some w2l/\At [(0,ah x1),(3,ai (ap ak) ([([([124,124]:List UInt8)]:List (List UInt8)),([([38,38]:List UInt8)]:List (List UInt8)),([([61,61]:List UInt8),([33,61]:List UInt8)]:List (List UInt8)),([([60]:List UInt8),([60,61]:List UInt8),([62]:List UInt8),([62,61]:List UInt8)]:List (List UInt8)),([([43]:List UInt8),([45]:List UInt8)]:List (List UInt8)),([([42]:List UInt8),([47]:List UInt8),([37]:List UInt8)]:List (List UInt8))]:List (List (List UInt8)))),(4,Pr.i64 x2)] [] e C) ?_ ?_
  ·rintro e C ⟨h2l,hat3⟩
   refine W_at hat3 ?_
   clear hat3
   unfold ref13_Binds_k3 at h2l
   refine W_r ?_
   refine rq (out:=Pr.i64 x2) ag ?_
   refine rq (out:=Pr.i64 (w64 (x2+1))) qInt ?_
   refine rq (out:=Pr.i64 (w64 (x2+1))) ae ?_
   exact⟨m2,Nat.lt_succ_self _,w64 (x2+1),hn2 _ (Option.some.inj h2l).symm,⟨⟨aa,aa,aa,trivial⟩,Pick.refl _⟩⟩
  refine dg (fun m e C=>∃(x5:Int),d4 (fun s=>g9 x2 x1 s) m x5=some z4l/\At [(0,ah x1),(3,ai (ap ak) ([([([124,124]:List UInt8)]:List (List UInt8)),([([38,38]:List UInt8)]:List (List UInt8)),([([61,61]:List UInt8),([33,61]:List UInt8)]:List (List UInt8)),([([60]:List UInt8),([60,61]:List UInt8),([62]:List UInt8),([62,61]:List UInt8)]:List (List UInt8)),([([43]:List UInt8),([45]:List UInt8)]:List (List UInt8)),([([42]:List UInt8),([47]:List UInt8),([37]:List UInt8)]:List (List UInt8))]:List (List (List UInt8)))),(4,Pr.i64 x2),(5,Pr.i64 x5)] [] e C) n4 ⟨0,hN4,⟨⟨aa,aa,aa,aa,trivial⟩,Pick.refl _⟩⟩ ?_
  clear hN4
  rintro m e C ⟨x5,hN4,hatl4⟩
  refine W_at hatl4 ?_
  clear hatl4
  obtain⟨m4,w4l,rfl,h4l,hn4,ho4⟩:=bg hN4
  clear hN4
  replace h4l:g9 x2 x1 x5=some w4l:=h4l
  unfold g9 at h4l
  refine a4 ?_
  refine W_rs ?_
  refine rq (out:=Pr.i64 x5) ag ?_
  refine rq (out:=ai (ap ak) ([([([124,124]:List UInt8)]:List (List UInt8)),([([38,38]:List UInt8)]:List (List UInt8)),([([61,61]:List UInt8),([33,61]:List UInt8)]:List (List UInt8)),([([60]:List UInt8),([60,61]:List UInt8),([62]:List UInt8),([62,61]:List UInt8)]:List (List UInt8)),([([43]:List UInt8),([45]:List UInt8)]:List (List UInt8)),([([42]:List UInt8),([47]:List UInt8),([37]:List UInt8)]:List (List UInt8))]:List (List (List UInt8)))) ag ?_
  refine rq (out:=Pr.i64 x2) ag ?_
  obtain⟨x7,hx7,h4l⟩:=af h4l
  refine rq (out:=a8 (ap ak) x7) (c6 (R:=ap ak) (l:=([([([124,124]:List UInt8)]:List (List UInt8)),([([38,38]:List UInt8)]:List (List UInt8)),([([61,61]:List UInt8),([33,61]:List UInt8)]:List (List UInt8)),([([60]:List UInt8),([60,61]:List UInt8),([62]:List UInt8),([62,61]:List UInt8)]:List (List UInt8)),([([43]:List UInt8),([45]:List UInt8)]:List (List UInt8)),([([42]:List UInt8),([47]:List UInt8),([37]:List UInt8)]:List (List UInt8))]:List (List (List UInt8)))) Tryz.underlying69 Tryz.sizeOf25 hx7) ?_
  refine rq (out:=ai ak x7) (bp (R:=ap ak) (a:=x7) ty25) ?_
  refine rq (out:=Pr.i64 (x7.length:Int)) (dc rfl Tryz.underlying25) ?_
  refine rq (out:=Pr.bool (decide (x5<(x7.length:Int)))) qInt ?_
  refine al (b:=decide (x5<(x7.length:Int))) rfl (fun hc8=> ?_) (fun hc8=> ?_)
  ·replace h4l:=iteT hc8 h4l
   refine ar ?_
   refine a4 ?_
   refine av ?_
   refine W_rs ?_
   refine rq (out:=ai (ap ak) ([([([124,124]:List UInt8)]:List (List UInt8)),([([38,38]:List UInt8)]:List (List UInt8)),([([61,61]:List UInt8),([33,61]:List UInt8)]:List (List UInt8)),([([60]:List UInt8),([60,61]:List UInt8),([62]:List UInt8),([62,61]:List UInt8)]:List (List UInt8)),([([43]:List UInt8),([45]:List UInt8)]:List (List UInt8)),([([42]:List UInt8),([47]:List UInt8),([37]:List UInt8)]:List (List UInt8))]:List (List (List UInt8)))) ag ?_
   refine rq (out:=Pr.i64 x2) ag ?_
   obtain⟨x9,hx9,h4l⟩:=af h4l
   refine rq (out:=a8 (ap ak) x9) (c6 (R:=ap ak) (l:=([([([124,124]:List UInt8)]:List (List UInt8)),([([38,38]:List UInt8)]:List (List UInt8)),([([61,61]:List UInt8),([33,61]:List UInt8)]:List (List UInt8)),([([60]:List UInt8),([60,61]:List UInt8),([62]:List UInt8),([62,61]:List UInt8)]:List (List UInt8)),([([43]:List UInt8),([45]:List UInt8)]:List (List UInt8)),([([42]:List UInt8),([47]:List UInt8),([37]:List UInt8)]:List (List UInt8))]:List (List (List UInt8)))) Tryz.underlying69 Tryz.sizeOf25 hx9) ?_
   refine rq (out:=ai ak x9) (bp (R:=ap ak) (a:=x9) ty25) ?_
   refine rq (out:=Pr.i64 x5) ag ?_
   obtain⟨x10,hx10,h4l⟩:=af h4l
   refine rq (out:=a8 ak x10) (c6 (R:=ak) (l:=x9) Tryz.underlying25 Tryz.sizeOf9 hx10) ?_
   refine rq (out:=ah x10) (bp (R:=ak) (a:=x10) ty9) ?_
   refine rq (out:=ah x1) ag ?_
   refine rq (out:=Pr.bool (x10==x1)) qStr ?_
   refine al (b:=x10==x1) rfl (fun hc11=> ?_) (fun hc11=> ?_)
   ·replace h4l:=iteT hc11 h4l
    refine W_rs ?_
    refine rq (out:=Pr.i64 x2) ag ?_
    refine rq (out:=Pr.i64 (w64 (x2+1))) qInt ?_
    refine rq (out:=Pr.i64 (w64 (x2+1))) ae ?_
    obtain rfl:=ho4 _ (Option.some.inj h4l).symm
    replace h2l:some (.inr (.done (w64 (x2+1))))=some w2l:=h2l
    obtain rfl:=ho2 _ (Option.some.inj h2l).symm
    replace h:some (w64 (x2+1))=some r:=h
    obtain rfl:=Option.some.inj h
    exact a5 ⟨rfl,aa⟩
   replace h4l:=iteF hc11 h4l
   refine ar ?_
   refine W_r ?_
   refine rq (out:=Pr.i64 x5) ag ?_
   refine rq (out:=Pr.i64 (w64 (x5+1))) qInt ?_
   refine rq (out:=Pr.i64 (w64 (x5+1))) ae ?_
   exact⟨m4,Nat.lt_succ_self _,w64 (x5+1),hn4 _ (Option.some.inj h4l).symm,⟨⟨aa,aa,aa,aa,trivial⟩,Pick.refl _⟩⟩
  replace h4l:=iteF hc8 h4l
  refine cr ?_
  obtain rfl:=ho4 _ (Option.some.inj h4l).symm
  exact⟨h2l,⟨⟨aa,aa,aa,trivial⟩,Pick.refl _⟩⟩
 replace h2l:=iteF hc4 h2l
 refine cr ?_
 obtain rfl:=ho2 _ (Option.some.inj h2l).symm
 exact⟨h,⟨trivial,Pick.refl _⟩⟩
theorem ref13_binding_ok (x1:ApiNode) (r:Int) (h:ref13_binding x1=some r):FnP Tryz.prog 141 [(ab).val x1] (Pr.i64 r):=by
 refine bd (n:=13) (rs:=[2]) Tryz.func141 rfl Tryz.ntmps141 ⟨by decide,Tryz.results141⟩ (by decide) (fun s0=> ?_)
 unfold ref13_binding at h
 refine W_rs ?_
 refine rBox (R:=ab) (a:=x1) rfl (fun b2=> ?_)
 refine rq (out:=Pr.i64 0) ae ?_
 refine a4 ?_
 refine W_rs ?_
 refine rq (out:=aq b2 0) (au f8) ?_
 refine rq (out:=Pr.i64 x1.Kind) (a6 (R:=ab) (a:=x1) (R':=Rp.int .i64) 0 ty3 bv) ?_
 refine av ?_
 refine W_rs ?_
 refine rq (out:=Pr.bool (x1.Kind==24)) qInt ?_
 refine rq (out:=Pr.bool (x1.Kind==24)) ae ?_
 refine al (b:=x1.Kind==24) rfl (fun hc3=> ?_) (fun hc3=> ?_)
 ·replace h:=iteT hc3 h
  refine W_rs ?_
  refine rq (out:=aq b2 1) (au eu) ?_
  refine rq (out:=ah x1.Text) (a6 (R:=ab) (a:=x1) (R':=ak) 0 ty9 bq) ?_
  obtain⟨x4,hx4,h⟩:=af h
  refine rq (out:=Pr.i64 x4) (ax (ref13_Binds_ok x1.Text _ hx4)) ?_
  refine rq (out:=Pr.i64 x4) ae ?_
  obtain rfl:=Option.some.inj h
  exact a5 ⟨rfl,aa⟩
 replace h:=iteF hc3 h
 refine ba (fun e C=>∃(x6:Bool),k7 x6=some r/\At [(10,Pr.bool x6)] [Own.box b2 ab x1] e C) ?_ ?_
 ·rintro e C ⟨x6,h,hat1⟩
  refine W_at hat1 ?_
  clear hat1
  unfold k7 at h
  refine al (b:=x6) rfl (fun hc7=> ?_) (fun hc7=> ?_)
  ·replace h:=iteT hc7 h
   refine W_rs ?_
   refine rq (out:=Pr.i64 7) ae ?_
   obtain rfl:=Option.some.inj h
   exact a5 ⟨rfl,aa⟩
  replace h:=iteF hc7 h
  refine ar ?_
  refine W_rs ?_
  refine rq (out:=Pr.i64 8) ae ?_
  obtain rfl:=Option.some.inj h
  exact a5 ⟨rfl,aa⟩
 refine W_rs ?_
 refine rq (out:=Pr.bool (x1.Kind==22)) qInt ?_
 refine rq (out:=Pr.bool (x1.Kind==22)) ae ?_
 refine al (b:=x1.Kind==22) rfl (fun hc5=> ?_) (fun hc5=> ?_)
 ·replace h:=iteT hc5 h
  refine ar ?_
  exact⟨x1.Kind==22,h,⟨⟨aa,trivial⟩,Pick.refl _⟩⟩
 replace h:=iteF hc5 h
 refine W_r ?_
 refine rq (out:=Pr.bool (x1.Kind==23)) qInt ?_
 refine rq (out:=Pr.bool (x1.Kind==23)) ae ?_
 exact⟨x1.Kind==23,h,⟨⟨aa,trivial⟩,Pick.refl _⟩⟩
def rec_ref13_digits_spec (R:d3):Prop:=(∀(x1:Int) (r:(List UInt8)),R x1=some r->FnP Tryz.prog 148 [Pr.i64 x1] (ah r))
theorem F_ref13_digits_step (R:d3) (ih:rec_ref13_digits_spec R) (x1:Int) (r:(List UInt8)) (h:im R x1=some r):FnP Tryz.prog 148 [Pr.i64 x1] (ah r):=by
 refine bd (n:=25) (rs:=[2]) Tryz.func148 rfl Tryz.ntmps148 ⟨by decide,Tryz.results148⟩ (by decide) (fun s0=> ?_)
 unfold im at h
 refine W_rs ?_
 refine rq (out:=ah []) ae ?_
 refine a4 ?_
 refine W_rs ?_
 refine rq (out:=Pr.i64 x1) ag ?_
 refine rq (out:=Pr.bool (decide (x1<0))) qInt ?_
 refine al (b:=decide (x1<0)) rfl (fun hc2=> ?_) (fun hc2=> ?_)
 ·replace h:=iteT hc2 h
  refine a4 ?_
  refine W_rs ?_
  refine rq (out:=Pr.i64 x1) ag ?_
  refine rq (out:=Pr.bool (x1==(-9223372036854775808))) qInt ?_
  refine al (b:=x1==(-9223372036854775808)) rfl (fun hc3=> ?_) (fun hc3=> ?_)
  ·replace h:=iteT hc3 h
   refine W_rs ?_
   refine rq (out:=ah ([45,57,50,50,51,51,55,50,48,51,54,56,53,52,55,55,53,56,48,56]:List UInt8)) ae ?_
   obtain rfl:=Option.some.inj h
   exact a5 ⟨rfl,aa⟩
  replace h:=iteF hc3 h
  refine ar ?_
  refine W_rs ?_
  refine rq (out:=Pr.i64 x1) ag ?_
  refine rq (out:=Pr.i64 (w64 (-x1))) qNeg ?_
  obtain⟨x4,hx4,h⟩:=af h
  refine rq (out:=ah x4) (ax (ih (w64 (-x1)) _ hx4)) ?_
  obtain⟨x5,hx5,h⟩:=af h
  refine rq (out:=ah x5) (cm hx5) ?_
  refine rq (out:=ah x5) ae ?_
  obtain rfl:=Option.some.inj h
  exact a5 ⟨rfl,aa⟩
 replace h:=iteF hc2 h
 refine ar ?_
 refine W_rs ?_
 refine rq (out:=ah []) ae ?_
 refine av ?_
 obtain⟨n1,hN1⟩:=bj h
 refine dg (fun m e C=>∃(x6:Int),∃(x7:List UInt8),d4 (fun s=>iw R s.1 s.2) m (x6,x7)=some r/\At [(0,Pr.i64 x6),(3,ah x7)] [] e C) n1 ⟨x1,[],hN1,⟨⟨aa,aa,trivial⟩,Pick.refl _⟩⟩ ?_
 clear hN1
 rintro m e C ⟨x6,x7,hN1,hatl1⟩
 refine W_at hatl1 ?_
 clear hatl1
 obtain⟨m1,w1l,rfl,h1l,hn1,ho1⟩:=bg hN1
 clear hN1
 replace h1l:iw R x6 x7=some w1l:=h1l
 unfold iw at h1l
 refine av ?_
 refine W_rs ?_
 refine rq (out:=Pr.i64 x6) ag ?_
 refine rq (out:=Pr.i64 (Int.tmod x6 10)) (qRem (by decide)) ?_
 refine rq (out:=Pr.i64 (w64 (48+(Int.tmod x6 10)))) qInt ?_
 refine rq (out:=Pr.u8 (IntKind.wrap .u8 (w64 (48+(Int.tmod x6 10))))) (qConv Tryz.underlying2 Tryz.underlying5) ?_
 refine rq (out:=ai (Rp.int .u8) ([IntKind.wrap .u8 (w64 (48+(Int.tmod x6 10)))]:List Int)) (cf (R:=Rp.int .u8) (a:=IntKind.wrap .u8 (w64 (48+(Int.tmod x6 10)))) el107 (Nat.le_of_ble_eq_true rfl)) ?_
 refine rq (out:=ah (strOf ([IntKind.wrap .u8 (w64 (48+(Int.tmod x6 10)))]:List Int))) (qBytesStr (l:=([IntKind.wrap .u8 (w64 (48+(Int.tmod x6 10)))]:List Int)) Tryz.underlying107 Tryz.underlying9 Tryz.underlying5) ?_
 refine rq (out:=ah x7) ag ?_
 obtain⟨x10,hx10,h1l⟩:=af h1l
 refine rq (out:=ah x10) (cm hx10) ?_
 refine rq (out:=ah x10) ae ?_
 refine W_rs ?_
 refine rq (out:=Pr.i64 x6) ag ?_
 refine rq (out:=Pr.i64 (w64 (Int.tdiv x6 10))) (qDiv (by decide)) ?_
 refine rq (out:=Pr.i64 (w64 (Int.tdiv x6 10))) ae ?_
 refine W_rs ?_
 refine rq (out:=Pr.i64 (w64 (Int.tdiv x6 10))) ag ?_
 refine rq (out:=Pr.bool ((w64 (Int.tdiv x6 10))==0)) qInt ?_
 refine al (b:=(w64 (Int.tdiv x6 10))==0) rfl (fun hc11=> ?_) (fun hc11=> ?_)
 ·replace h1l:=iteT hc11 h1l
  refine W_rs ?_
  refine rq (out:=ah x10) ag ?_
  refine rq (out:=ah x10) ae ?_
  have h:some x10=some r:=congrArg some (ho1 _ (Option.some.inj h1l).symm)
  obtain rfl:=Option.some.inj h
  exact a5 ⟨rfl,aa⟩
 replace h1l:=iteF hc11 h1l
 refine ar ?_
 exact⟨m1,Nat.lt_succ_self _,w64 (Int.tdiv x6 10),x10,hn1 _ (Option.some.inj h1l).symm,⟨⟨aa,aa,trivial⟩,Pick.refl _⟩⟩
theorem rec_ref13_digits_ok :∀n,rec_ref13_digits_spec (en n):=by
 intro n
 induction n with
 |zero=>exact(fun x1 r h=>nomatch (show none=some r from h))
 |succ n ih=>exact(fun x1 r h=>F_ref13_digits_step (en n) ih x1 r h)
theorem ref13_digits_ok (x1:Int) (r:(List UInt8)) (h:ref13_digits x1=some r):FnP Tryz.prog 148 [Pr.i64 x1] (ah r):=(rec_ref13_digits_ok 1048576) x1 r h
def md (R:cp):Prop:=(∀(x1:ApiNode) (x2:Int) (x3:Int) (r:(List UInt8)),R.1 x1 x2 x3=some r->FnP Tryz.prog 130 [(ab).val x1,Pr.i64 x2,Pr.i64 x3] (ah r))/\(∀(x1:ApiNode) (r:(List UInt8)),R.2.1 x1=some r->FnP Tryz.prog 140 [(ab).val x1] (ah r))/\(∀(x1:ApiNode) (x2:Int) (r:(List UInt8)),R.2.2 x1 x2=some r->FnP Tryz.prog 149 [(ab).val x1,Pr.i64 x2] (ah r))
theorem F_ref13_kid_step (R:cp) (ih:md R) (x1:ApiNode) (x2 x3:Int) (r:(List UInt8)) (h:oy R x1 x2 x3=some r):FnP Tryz.prog 130 [(ab).val x1,Pr.i64 x2,Pr.i64 x3] (ah r):=by
 refine bd (n:=31) (rs:=[6]) Tryz.func130 rfl Tryz.ntmps130 ⟨by decide,Tryz.results130⟩ (by decide) (fun s0=> ?_)
 unfold oy at h
 refine W_rs ?_
 refine rBox (R:=ab) (a:=x1) rfl (fun b4=> ?_)
 refine rq (out:=ah []) ae ?_
 refine a4 ?_
 refine W_rs ?_
 refine rq (out:=Pr.i64 x2) ag ?_
 refine rq (out:=aq b4 8) (au c8) ?_
 refine rq (out:=ai ab x1.Kids) (a6 (R:=ab) (a:=x1) (R':=ap ab) 0 ty22 ay) ?_
 refine rq (out:=Pr.i64 (x1.Kids.length:Int)) (dc rfl Tryz.underlying22) ?_
 refine rq (out:=Pr.bool (decide (x2≥(x1.Kids.length:Int)))) qInt ?_
 refine al (b:=decide (x2≥(x1.Kids.length:Int))) rfl (fun hc5=> ?_) (fun hc5=> ?_)
 ·replace h:=iteT hc5 h
  refine W_rs ?_
  refine rq (out:=ah []) ae ?_
  obtain rfl:=Option.some.inj h
  exact a5 ⟨rfl,aa⟩
 replace h:=iteF hc5 h
 refine ar ?_
 refine W_rs ?_
 refine rq (out:=aq b4 8) (au c8) ?_
 refine rq (out:=ai ab x1.Kids) (a6 (R:=ab) (a:=x1) (R':=ap ab) 0 ty22 ay) ?_
 refine rq (out:=Pr.i64 x2) ag ?_
 obtain⟨x6,hx6,h⟩:=af h
 refine rq (out:=a8 ab x6) (c6 (R:=ab) (l:=x1.Kids) Tryz.underlying22 Tryz.sizeOf24 hx6) ?_
 refine rq (out:=(ab).val x6) (bp (R:=ab) (a:=x6) ty24) ?_
 obtain⟨x7,hx7,h⟩:=af h
 refine rq (out:=ah x7) (ax (ih.2.1 x6 _ hx7)) ?_
 refine rq (out:=ah x7) ae ?_
 refine a4 ?_
 refine W_rs ?_
 refine rq (out:=aq b4 8) (au c8) ?_
 refine rq (out:=ai ab x1.Kids) (a6 (R:=ab) (a:=x1) (R':=ap ab) 0 ty22 ay) ?_
 refine rq (out:=Pr.i64 x2) ag ?_
 obtain⟨x8,hx8,h⟩:=af h
 refine rq (out:=a8 ab x8) (c6 (R:=ab) (l:=x1.Kids) Tryz.underlying22 Tryz.sizeOf24 hx8) ?_
 refine rq (out:=(ab).val x8) (bp (R:=ab) (a:=x8) ty24) ?_
 obtain⟨x9,hx9,h⟩:=af h
 refine rq (out:=Pr.i64 x9) (ax (ref13_binding_ok x8 _ hx9)) ?_
 refine rq (out:=Pr.i64 x3) ag ?_
 refine rq (out:=Pr.bool (decide (x9<x3))) qInt ?_
 refine al (b:=decide (x9<x3)) rfl (fun hc10=> ?_) (fun hc10=> ?_)
 ·replace h:=iteT hc10 h
  refine W_rs ?_
  refine rq (out:=ah x7) ag ?_
  obtain⟨x11,hx11,h⟩:=af h
  refine rq (out:=ah x11) (cm hx11) ?_
  obtain⟨x12,hx12,h⟩:=af h
  refine rq (out:=ah x12) (cm hx12) ?_
  refine rq (out:=ah x12) ae ?_
  obtain rfl:=Option.some.inj h
  exact a5 ⟨rfl,aa⟩
 replace h:=iteF hc10 h
 refine ar ?_
 refine W_rs ?_
 refine rq (out:=ah x7) ag ?_
 refine rq (out:=ah x7) ae ?_
 obtain rfl:=Option.some.inj h
 exact a5 ⟨rfl,aa⟩
theorem F_ref13_Expression_step (R:cp) (ih:md R) (x1:ApiNode) (r:(List UInt8)) (h:bt R x1=some r):FnP Tryz.prog 140 [(ab).val x1] (ah r):=by
 refine bd (n:=119) (rs:=[2]) Tryz.func140 rfl Tryz.ntmps140 ⟨by decide,Tryz.results140⟩ (by decide) (fun s0=> ?_)
 unfold bt at h
 refine W_rs ?_
 refine rBox (R:=ab) (a:=x1) rfl (fun b2=> ?_)
 refine rq (out:=ah []) ae ?_
 refine a4 ?_
 refine W_rs ?_
 refine rq (out:=aq b2 0) (au f8) ?_
 refine rq (out:=Pr.i64 x1.Kind) (a6 (R:=ab) (a:=x1) (R':=Rp.int .i64) 0 ty3 bv) ?_
 refine av ?_
 refine W_rs ?_
 refine rq (out:=Pr.bool (x1.Kind==13)) qInt ?_
 refine rq (out:=Pr.bool (x1.Kind==13)) ae ?_
 refine al (b:=x1.Kind==13) rfl (fun hc3=> ?_) (fun hc3=> ?_)
 ·replace h:=iteT hc3 h
  refine W_rs ?_
  refine rq (out:=aq b2 3) (au fld24_3) ?_
  refine rq (out:=Pr.i64 x1.N) (a6 (R:=ab) (a:=x1) (R':=Rp.int .i64) 0 ty2 jd) ?_
  obtain⟨x4,hx4,h⟩:=af h
  refine rq (out:=ah x4) (ax (ref13_digits_ok x1.N _ hx4)) ?_
  refine rq (out:=ah x4) ae ?_
  obtain rfl:=Option.some.inj h
  exact a5 ⟨rfl,aa⟩
 replace h:=iteF hc3 h
 refine W_rs ?_
 refine rq (out:=Pr.bool (x1.Kind==14)) qInt ?_
 refine rq (out:=Pr.bool (x1.Kind==14)) ae ?_
 refine al (b:=x1.Kind==14) rfl (fun hc5=> ?_) (fun hc5=> ?_)
 ·replace h:=iteT hc5 h
  refine a4 ?_
  refine W_rs ?_
  refine rq (out:=aq b2 3) (au fld24_3) ?_
  refine rq (out:=Pr.i64 x1.N) (a6 (R:=ab) (a:=x1) (R':=Rp.int .i64) 0 ty2 jd) ?_
  refine rq (out:=Pr.bool (x1.N==1)) qInt ?_
  refine al (b:=x1.N==1) rfl (fun hc6=> ?_) (fun hc6=> ?_)
  ·replace h:=iteT hc6 h
   refine W_rs ?_
   refine rq (out:=ah ([116,114,117,101]:List UInt8)) ae ?_
   obtain rfl:=Option.some.inj h
   exact a5 ⟨rfl,aa⟩
  replace h:=iteF hc6 h
  refine ar ?_
  refine W_rs ?_
  refine rq (out:=ah ([102,97,108,115,101]:List UInt8)) ae ?_
  obtain rfl:=Option.some.inj h
  exact a5 ⟨rfl,aa⟩
 replace h:=iteF hc5 h
 refine W_rs ?_
 refine rq (out:=Pr.bool (x1.Kind==15)) qInt ?_
 refine rq (out:=Pr.bool (x1.Kind==15)) ae ?_
 refine al (b:=x1.Kind==15) rfl (fun hc7=> ?_) (fun hc7=> ?_)
 ·replace h:=iteT hc7 h
  refine W_rs ?_
  refine rq (out:=ah ([110,117,108,108]:List UInt8)) ae ?_
  obtain rfl:=Option.some.inj h
  exact a5 ⟨rfl,aa⟩
 replace h:=iteF hc7 h
 refine W_rs ?_
 refine rq (out:=Pr.bool (x1.Kind==16)) qInt ?_
 refine rq (out:=Pr.bool (x1.Kind==16)) ae ?_
 refine al (b:=x1.Kind==16) rfl (fun hc8=> ?_) (fun hc8=> ?_)
 ·replace h:=iteT hc8 h
  refine W_rs ?_
  refine rq (out:=ah ([116,104,105,115]:List UInt8)) ae ?_
  obtain rfl:=Option.some.inj h
  exact a5 ⟨rfl,aa⟩
 replace h:=iteF hc8 h
 refine W_rs ?_
 refine rq (out:=Pr.bool (x1.Kind==17)) qInt ?_
 refine rq (out:=Pr.bool (x1.Kind==17)) ae ?_
 refine al (b:=x1.Kind==17) rfl (fun hc9=> ?_) (fun hc9=> ?_)
 ·replace h:=iteT hc9 h
  refine W_rs ?_
  refine rq (out:=aq b2 1) (au eu) ?_
  refine rq (out:=ah x1.Text) (a6 (R:=ab) (a:=x1) (R':=ak) 0 ty9 bq) ?_
  refine rq (out:=ah x1.Text) ae ?_
  obtain rfl:=Option.some.inj h
  exact a5 ⟨rfl,aa⟩
 replace h:=iteF hc9 h
 refine W_rs ?_
 refine rq (out:=Pr.bool (x1.Kind==21)) qInt ?_
 refine rq (out:=Pr.bool (x1.Kind==21)) ae ?_
 refine al (b:=x1.Kind==21) rfl (fun hc10=> ?_) (fun hc10=> ?_)
 ·replace h:=iteT hc10 h
  refine W_rs ?_
  refine rq (out:=aq b2 1) (au eu) ?_
  refine rq (out:=ah x1.Text) (a6 (R:=ab) (a:=x1) (R':=ak) 0 ty9 bq) ?_
  obtain⟨x11,hx11,h⟩:=af h
  refine rq (out:=ah x11) (cm hx11) ?_
  obtain⟨x12,hx12,h⟩:=af h
  refine rq (out:=ah x12) (cm hx12) ?_
  refine rq (out:=ah x12) ae ?_
  obtain rfl:=Option.some.inj h
  exact a5 ⟨rfl,aa⟩
 replace h:=iteF hc10 h
 refine W_rs ?_
 refine rq (out:=Pr.bool (x1.Kind==18)) qInt ?_
 refine rq (out:=Pr.bool (x1.Kind==18)) ae ?_
 refine al (b:=x1.Kind==18) rfl (fun hc13=> ?_) (fun hc13=> ?_)
 ·replace h:=iteT hc13 h
  refine ba (fun e C=>∃(x16:List UInt8),o4 R x16=some r/\At [(2,ah x16)] [Own.box b2 ab x1] e C) ?_ ?_
  ·rintro e C ⟨x16,h,hat1⟩
   refine W_at hat1 ?_
   clear hat1
   unfold o4 at h
   obtain rfl:=Option.some.inj h
   exact a5 ⟨rfl,aa⟩
  refine eh 7 hmx (by kernel_rfl) (by kernel_rfl) ?_
  refine qq (out:=(ab).val x1) (a6 (R:=ab) (a:=x1) (R':=ab) 0 ty24 (Sub.refl _)) ?_
  obtain⟨x14,hx14,h⟩:=af h
  refine qq (out:=ah x14) (ax (ih.1 x1 0 8 _ hx14)) ?_
  obtain⟨x15,hx15,h⟩:=af h
  refine qq (out:=ah x15) (cm hx15) ?_
  refine qq (out:=aq b2 1) (au eu) ?_
  refine qq (out:=ah x1.Text) (a6 (R:=ab) (a:=x1) (R':=ak) 0 ty9 bq) ?_
  obtain⟨x16,hx16,h⟩:=af h
  refine qq (out:=ah x16) (cm hx16) ?_
  refine qq (out:=ah x16) ae ?_
  exact⟨x16,h,⟨⟨aa,trivial⟩,Pick.refl _⟩⟩
 replace h:=iteF hc13 h
 refine W_rs ?_
 refine rq (out:=Pr.bool (x1.Kind==19)) qInt ?_
 refine rq (out:=Pr.bool (x1.Kind==19)) ae ?_
 refine al (b:=x1.Kind==19) rfl (fun hc17=> ?_) (fun hc17=> ?_)
 ·replace h:=iteT hc17 h
  refine ba (fun e C=>∃(x19:List UInt8),o3 R x19=some r/\At [(2,ah x19)] [Own.box b2 ab x1] e C) ?_ ?_
  ·rintro e C ⟨x19,h,hat2⟩
   refine W_at hat2 ?_
   clear hat2
   unfold o3 at h
   obtain rfl:=Option.some.inj h
   exact a5 ⟨rfl,aa⟩
  refine eh 6 hmx (by kernel_rfl) (by kernel_rfl) ?_
  refine qq (out:=aq b2 1) (au eu) ?_
  refine qq (out:=ah x1.Text) (a6 (R:=ab) (a:=x1) (R':=ak) 0 ty9 bq) ?_
  refine qq (out:=(ab).val x1) (a6 (R:=ab) (a:=x1) (R':=ab) 0 ty24 (Sub.refl _)) ?_
  obtain⟨x18,hx18,h⟩:=af h
  refine qq (out:=ah x18) (ax (ih.2.2 x1 0 _ hx18)) ?_
  obtain⟨x19,hx19,h⟩:=af h
  refine qq (out:=ah x19) (cm hx19) ?_
  refine qq (out:=ah x19) ae ?_
  exact⟨x19,h,⟨⟨aa,trivial⟩,Pick.refl _⟩⟩
 replace h:=iteF hc17 h
 refine W_rs ?_
 refine rq (out:=Pr.bool (x1.Kind==20)) qInt ?_
 refine rq (out:=Pr.bool (x1.Kind==20)) ae ?_
 refine al (b:=x1.Kind==20) rfl (fun hc20=> ?_) (fun hc20=> ?_)
 ·replace h:=iteT hc20 h
  refine ba (fun e C=>∃(x25:List UInt8),o2 R x25=some r/\At [(2,ah x25)] [Own.box b2 ab x1] e C) ?_ ?_
  ·rintro e C ⟨x25,h,hat3⟩
   refine W_at hat3 ?_
   clear hat3
   unfold o2 at h
   obtain rfl:=Option.some.inj h
   exact a5 ⟨rfl,aa⟩
  refine eh 10 hmx (by kernel_rfl) (by kernel_rfl) ?_
  refine qq (out:=(ab).val x1) (a6 (R:=ab) (a:=x1) (R':=ab) 0 ty24 (Sub.refl _)) ?_
  obtain⟨x21,hx21,h⟩:=af h
  refine qq (out:=ah x21) (ax (ih.1 x1 0 8 _ hx21)) ?_
  obtain⟨x22,hx22,h⟩:=af h
  refine qq (out:=ah x22) (cm hx22) ?_
  refine qq (out:=aq b2 1) (au eu) ?_
  refine qq (out:=ah x1.Text) (a6 (R:=ab) (a:=x1) (R':=ak) 0 ty9 bq) ?_
  obtain⟨x23,hx23,h⟩:=af h
  refine qq (out:=ah x23) (cm hx23) ?_
  refine qq (out:=(ab).val x1) (a6 (R:=ab) (a:=x1) (R':=ab) 0 ty24 (Sub.refl _)) ?_
  obtain⟨x24,hx24,h⟩:=af h
  refine qq (out:=ah x24) (ax (ih.2.2 x1 1 _ hx24)) ?_
  obtain⟨x25,hx25,h⟩:=af h
  refine qq (out:=ah x25) (cm hx25) ?_
  refine qq (out:=ah x25) ae ?_
  exact⟨x25,h,⟨⟨aa,trivial⟩,Pick.refl _⟩⟩
 replace h:=iteF hc20 h
 refine W_rs ?_
 refine rq (out:=Pr.bool (x1.Kind==22)) qInt ?_
 refine rq (out:=Pr.bool (x1.Kind==22)) ae ?_
 refine al (b:=x1.Kind==22) rfl (fun hc26=> ?_) (fun hc26=> ?_)
 ·replace h:=iteT hc26 h
  refine W_rs ?_
  refine rq (out:=(ab).val x1) (a6 (R:=ab) (a:=x1) (R':=ab) 0 ty24 (Sub.refl _)) ?_
  obtain⟨x27,hx27,h⟩:=af h
  refine rq (out:=ah x27) (ax (ih.1 x1 0 7 _ hx27)) ?_
  obtain⟨x28,hx28,h⟩:=af h
  refine rq (out:=ah x28) (cm hx28) ?_
  refine rq (out:=ah x28) ae ?_
  obtain rfl:=Option.some.inj h
  exact a5 ⟨rfl,aa⟩
 replace h:=iteF hc26 h
 refine W_rs ?_
 refine rq (out:=Pr.bool (x1.Kind==23)) qInt ?_
 refine rq (out:=Pr.bool (x1.Kind==23)) ae ?_
 refine al (b:=x1.Kind==23) rfl (fun hc29=> ?_) (fun hc29=> ?_)
 ·replace h:=iteT hc29 h
  refine a4 ?_
  refine ba (fun e C=>∃(x36:Bool),cy R x1 x36=some r/\At [(1,aq b2 0),(90,Pr.bool x36)] [Own.box b2 ab x1] e C) ?_ ?_
  ·rintro e C ⟨x36,h,hat4⟩
   refine W_at hat4 ?_
   clear hat4
   unfold cy at h
   refine al (b:=x36) rfl (fun hc37=> ?_) (fun hc37=> ?_)
   ·replace h:=iteT hc37 h
    refine W_rs ?_
    refine rq (out:=aq b2 8) (au c8) ?_
    refine rq (out:=ai ab x1.Kids) (a6 (R:=ab) (a:=x1) (R':=ap ab) 0 ty22 ay) ?_
    obtain⟨x38,hx38,h⟩:=af h
    refine rq (out:=a8 ab x38) (c6 (R:=ab) (l:=x1.Kids) Tryz.underlying22 Tryz.sizeOf24 hx38) ?_
    refine rq (out:=(ab).val x38) (bp (R:=ab) (a:=x38) ty24) ?_
    obtain⟨x39,hx39,h⟩:=af h
    refine rq (out:=ah x39) (ax (ih.2.1 x38 _ hx39)) ?_
    obtain⟨x40,hx40,h⟩:=af h
    refine rq (out:=ah x40) (cm hx40) ?_
    obtain⟨x41,hx41,h⟩:=af h
    refine rq (out:=ah x41) (cm hx41) ?_
    refine rq (out:=ah x41) ae ?_
    obtain rfl:=Option.some.inj h
    exact a5 ⟨rfl,aa⟩
   replace h:=iteF hc37 h
   refine ar ?_
   refine W_rs ?_
   refine rq (out:=(ab).val x1) (a6 (R:=ab) (a:=x1) (R':=ab) 0 ty24 (Sub.refl _)) ?_
   obtain⟨x42,hx42,h⟩:=af h
   refine rq (out:=ah x42) (ax (ih.1 x1 0 7 _ hx42)) ?_
   obtain⟨x43,hx43,h⟩:=af h
   refine rq (out:=ah x43) (cm hx43) ?_
   refine rq (out:=ah x43) ae ?_
   obtain rfl:=Option.some.inj h
   exact a5 ⟨rfl,aa⟩
  refine W_r ?_
  refine rq (out:=aq b2 8) (au c8) ?_
  refine rq (out:=ai ab x1.Kids) (a6 (R:=ab) (a:=x1) (R':=ap ab) 0 ty22 ay) ?_
  refine rq (out:=Pr.i64 (x1.Kids.length:Int)) (dc rfl Tryz.underlying22) ?_
  refine rq (out:=Pr.bool (decide ((x1.Kids.length:Int)>0))) qInt ?_
  refine rq (out:=Pr.bool (decide ((x1.Kids.length:Int)>0))) ag ?_
  rcases cc h with⟨hc30,h⟩|⟨hc30,h⟩
  ·refine rqg hc30 (out:=aq b2 8) (au c8) ?_
   refine rqg hc30 (out:=ai ab x1.Kids) (a6 (R:=ab) (a:=x1) (R':=ap ab) 0 ty22 ay) ?_
   obtain⟨x31,hx31,h⟩:=af h
   refine rqg hc30 (out:=a8 ab x31) (c6 (R:=ab) (l:=x1.Kids) Tryz.underlying22 Tryz.sizeOf24 hx31) ?_
   refine rqg hc30 (out:=a8 (Rp.int .i64) x31.Kind) (ee (R:=ab) (a:=x31) f8 bv) ?_
   refine rqg hc30 (out:=Pr.i64 x31.Kind) (bp (R:=Rp.int .i64) (a:=x31.Kind) ty3) ?_
   refine rqg hc30 (out:=Pr.bool (x31.Kind==23)) qInt ?_
   refine rqg hc30 (out:=Pr.bool (x31.Kind==23)) ag ?_
   rcases cc h with⟨hc32,h⟩|⟨hc32,h⟩
   ·refine rno (neF hc32) ?_
    refine rno (neF hc32) ?_
    refine rno (neF hc32) ?_
    refine rno (neF hc32) ?_
    refine rno (neF hc32) ?_
    refine rno (neF hc32) ?_
    refine rno (neF hc32) ?_
    refine rnoU ?_
    refine rnoU ?_
    refine rnoU ?_
    refine rnoU ?_
    refine rnoU ?_
    refine rnoU ?_
    refine rno (neF hc32) ?_
    refine rqg hc30 (out:=Pr.bool true) (cj hc32) ?_
    refine rq (out:=Pr.bool true) (cj hc30) ?_
    exact⟨true,h,⟨⟨aa,aa,trivial⟩,Pick.refl _⟩⟩
   refine rqg hc32 (out:=aq b2 8) (au c8) ?_
   refine rqg hc32 (out:=ai ab x1.Kids) (a6 (R:=ab) (a:=x1) (R':=ap ab) 0 ty22 ay) ?_
   obtain⟨x33,hx33,h⟩:=af h
   refine rqg hc32 (out:=a8 ab x33) (c6 (R:=ab) (l:=x1.Kids) Tryz.underlying22 Tryz.sizeOf24 hx33) ?_
   refine rqg hc32 (out:=a8 (Rp.int .i64) x33.Kind) (ee (R:=ab) (a:=x33) f8 bv) ?_
   refine rqg hc32 (out:=Pr.i64 x33.Kind) (bp (R:=Rp.int .i64) (a:=x33.Kind) ty3) ?_
   refine rqg hc32 (out:=Pr.bool (x33.Kind==13)) qInt ?_
   refine rqg hc32 (out:=Pr.bool (x33.Kind==13)) ag ?_
   rcases cc h with⟨hc34,h⟩|⟨hc34,h⟩
   ·refine rqg hc34 (out:=aq b2 8) (au c8) ?_
    refine rqg hc34 (out:=ai ab x1.Kids) (a6 (R:=ab) (a:=x1) (R':=ap ab) 0 ty22 ay) ?_
    obtain⟨x35,hx35,h⟩:=af h
    refine rqg hc34 (out:=a8 ab x35) (c6 (R:=ab) (l:=x1.Kids) Tryz.underlying22 Tryz.sizeOf24 hx35) ?_
    refine rqg hc34 (out:=a8 (Rp.int .i64) x35.N) (ee (R:=ab) (a:=x35) fld24_3 jd) ?_
    refine rqg hc34 (out:=Pr.i64 x35.N) (bp (R:=Rp.int .i64) (a:=x35.N) ty2) ?_
    refine rqg hc34 (out:=Pr.bool (decide (x35.N<0))) qInt ?_
    refine rqg hc32 (out:=Pr.bool (decide (x35.N<0))) (cj hc34) ?_
    refine rqg hc30 (out:=Pr.bool (decide (x35.N<0))) (bx hc32) ?_
    refine rq (out:=Pr.bool (decide (x35.N<0))) (cj hc30) ?_
    exact⟨decide (x35.N<0),h,⟨⟨aa,aa,trivial⟩,Pick.refl _⟩⟩
   refine rno (neT hc34) ?_
   refine rno (neT hc34) ?_
   refine rno (neT hc34) ?_
   refine rno (neT hc34) ?_
   refine rno (neT hc34) ?_
   refine rno (neT hc34) ?_
   refine rqg hc32 (out:=Pr.bool false) (bx hc34) ?_
   refine rqg hc30 (out:=Pr.bool false) (bx hc32) ?_
   refine rq (out:=Pr.bool false) (cj hc30) ?_
   exact⟨false,h,⟨⟨aa,aa,trivial⟩,Pick.refl _⟩⟩
  refine rno (neT hc30) ?_
  refine rno (neT hc30) ?_
  refine rno (neT hc30) ?_
  refine rno (neT hc30) ?_
  refine rno (neT hc30) ?_
  refine rno (neT hc30) ?_
  refine rno (neT hc30) ?_
  refine rnoU ?_
  refine rnoU ?_
  refine rnoU ?_
  refine rnoU ?_
  refine rnoU ?_
  refine rnoU ?_
  refine rnoU ?_
  refine rnoU ?_
  refine rnoU ?_
  refine rnoU ?_
  refine rnoU ?_
  refine rnoU ?_
  refine rnoU ?_
  refine rnoU ?_
  refine rno (neT hc30) ?_
  refine rq (out:=Pr.bool false) (bx hc30) ?_
  exact⟨false,h,⟨⟨aa,aa,trivial⟩,Pick.refl _⟩⟩
 replace h:=iteF hc29 h
 refine W_rs ?_
 refine rq (out:=Pr.bool (x1.Kind==24)) qInt ?_
 refine rq (out:=Pr.bool (x1.Kind==24)) ae ?_
 refine al (b:=x1.Kind==24) rfl (fun hc44=> ?_) (fun hc44=> ?_)
 ·replace h:=iteT hc44 h
  refine W_rs ?_
  refine rq (out:=aq b2 1) (au eu) ?_
  refine rq (out:=ah x1.Text) (a6 (R:=ab) (a:=x1) (R':=ak) 0 ty9 bq) ?_
  obtain⟨x45,hx45,h⟩:=af h
  refine rq (out:=Pr.i64 x45) (ax (ref13_Binds_ok x1.Text _ hx45)) ?_
  refine rq (out:=Pr.i64 x45) ae ?_
  refine ba (fun e C=>∃(x51:List UInt8),o1 R x51=some r/\At [(2,ah x51)] [Own.box b2 ab x1] e C) ?_ ?_
  ·rintro e C ⟨x51,h,hat5⟩
   refine W_at hat5 ?_
   clear hat5
   unfold o1 at h
   obtain rfl:=Option.some.inj h
   exact a5 ⟨rfl,aa⟩
  refine eh 14 hmx (by kernel_rfl) (by kernel_rfl) ?_
  refine qq (out:=(ab).val x1) (a6 (R:=ab) (a:=x1) (R':=ab) 0 ty24 (Sub.refl _)) ?_
  refine qq (out:=Pr.i64 x45) ag ?_
  obtain⟨x46,hx46,h⟩:=af h
  refine qq (out:=ah x46) (ax (ih.1 x1 0 x45 _ hx46)) ?_
  obtain⟨x47,hx47,h⟩:=af h
  refine qq (out:=ah x47) (cm hx47) ?_
  refine qq (out:=aq b2 1) (au eu) ?_
  refine qq (out:=ah x1.Text) (a6 (R:=ab) (a:=x1) (R':=ak) 0 ty9 bq) ?_
  obtain⟨x48,hx48,h⟩:=af h
  refine qq (out:=ah x48) (cm hx48) ?_
  obtain⟨x49,hx49,h⟩:=af h
  refine qq (out:=ah x49) (cm hx49) ?_
  refine qq (out:=(ab).val x1) (a6 (R:=ab) (a:=x1) (R':=ab) 0 ty24 (Sub.refl _)) ?_
  refine qq (out:=Pr.i64 x45) ag ?_
  refine qq (out:=Pr.i64 (w64 (x45+1))) qInt ?_
  obtain⟨x50,hx50,h⟩:=af h
  refine qq (out:=ah x50) (ax (ih.1 x1 1 (w64 (x45+1)) _ hx50)) ?_
  obtain⟨x51,hx51,h⟩:=af h
  refine qq (out:=ah x51) (cm hx51) ?_
  refine qq (out:=ah x51) ae ?_
  exact⟨x51,h,⟨⟨aa,trivial⟩,Pick.refl _⟩⟩
 replace h:=iteF hc44 h
 refine ar ?_
 refine W_rs ?_
 refine rq (out:=ah []) ae ?_
 obtain rfl:=Option.some.inj h
 exact a5 ⟨rfl,aa⟩
theorem F_ref13_arguments_step (R:cp) (ih:md R) (x1:ApiNode) (x2:Int) (r:(List UInt8)) (h:j8 R x1 x2=some r):FnP Tryz.prog 149 [(ab).val x1,Pr.i64 x2] (ah r):=by
 refine bd (n:=30) (rs:=[4]) Tryz.func149 rfl Tryz.ntmps149 ⟨by decide,Tryz.results149⟩ (by decide) (fun s0=> ?_)
 unfold j8 at h
 refine W_rs ?_
 refine rBox (R:=ab) (a:=x1) rfl (fun b3=> ?_)
 refine rq (out:=ah []) ae ?_
 refine W_rs ?_
 refine rq (out:=ah ([40]:List UInt8)) ae ?_
 refine a4 ?_
 refine W_rs ?_
 refine rq (out:=Pr.i64 x2) ag ?_
 refine rq (out:=Pr.i64 x2) ae ?_
 refine av ?_
 obtain⟨z2l,hz2,h⟩:=af h
 obtain⟨n2,hN2⟩:=bj hz2
 clear hz2
 refine ct 0 (fun e C=>∃(x4:List UInt8),mb R x4=some r/\At [(5,ah x4)] [Own.box b3 ab x1] e C) ?_ ?_
 ·rintro e C ⟨x4,h,hat1⟩
  refine W_at hat1 ?_
  clear hat1
  unfold mb at h
  refine W_rs ?_
  refine rq (out:=ah x4) ag ?_
  obtain⟨x15,hx15,h⟩:=af h
  refine rq (out:=ah x15) (cm hx15) ?_
  refine rq (out:=ah x15) ae ?_
  obtain rfl:=Option.some.inj h
  exact a5 ⟨rfl,aa⟩
 refine dg (fun m e C=>∃(x4:List UInt8),∃(x5:Int),d4 (fun s=>ey R x1 x2 s.1 s.2) m (x4,x5)=some z2l/\At [(1,Pr.i64 x2),(2,aq b3 0),(5,ah x4),(6,Pr.i64 x5)] [Own.box b3 ab x1] e C) n2 ⟨([40]:List UInt8),x2,hN2,⟨⟨aa,aa,aa,aa,trivial⟩,Pick.refl _⟩⟩ ?_
 clear hN2
 rintro m e C ⟨x4,x5,hN2,hatl2⟩
 refine W_at hatl2 ?_
 clear hatl2
 obtain⟨m2,w2l,rfl,h2l,hn2,ho2⟩:=bg hN2
 clear hN2
 replace h2l:ey R x1 x2 x4 x5=some w2l:=h2l
 unfold ey at h2l
 refine a4 ?_
 refine W_rs ?_
 refine rq (out:=Pr.i64 x5) ag ?_
 refine rq (out:=aq b3 8) (au c8) ?_
 refine rq (out:=ai ab x1.Kids) (a6 (R:=ab) (a:=x1) (R':=ap ab) 0 ty22 ay) ?_
 refine rq (out:=Pr.i64 (x1.Kids.length:Int)) (dc rfl Tryz.underlying22) ?_
 refine rq (out:=Pr.bool (decide (x5<(x1.Kids.length:Int)))) qInt ?_
 refine al (b:=decide (x5<(x1.Kids.length:Int))) rfl (fun hc8=> ?_) (fun hc8=> ?_)
 ·replace h2l:=iteT hc8 h2l
  refine ar ?_
  refine a4 ?_
  refine av ?_
  refine ba (fun e C=>∃(x11:List UInt8),ji R x1 x5 x11=some w2l/\At [(1,Pr.i64 x2),(2,aq b3 0),(5,ah x11),(6,Pr.i64 x5)] [Own.box b3 ab x1] e C) ?_ ?_
  ·rintro e C ⟨x11,h2l,hat3⟩
   refine W_at hat3 ?_
   clear hat3
   unfold ji at h2l
   refine W_r ?_
   refine rq (out:=ah x11) ag ?_
   refine rq (out:=aq b3 8) (au c8) ?_
   refine rq (out:=ai ab x1.Kids) (a6 (R:=ab) (a:=x1) (R':=ap ab) 0 ty22 ay) ?_
   refine rq (out:=Pr.i64 x5) ag ?_
   obtain⟨x12,hx12,h2l⟩:=af h2l
   refine rq (out:=a8 ab x12) (c6 (R:=ab) (l:=x1.Kids) Tryz.underlying22 Tryz.sizeOf24 hx12) ?_
   refine rq (out:=(ab).val x12) (bp (R:=ab) (a:=x12) ty24) ?_
   obtain⟨x13,hx13,h2l⟩:=af h2l
   refine rq (out:=ah x13) (ax (ih.2.1 x12 _ hx13)) ?_
   obtain⟨x14,hx14,h2l⟩:=af h2l
   refine rq (out:=ah x14) (cm hx14) ?_
   refine rq (out:=ah x14) ae ?_
   refine W_r ?_
   refine rq (out:=Pr.i64 x5) ag ?_
   refine rq (out:=Pr.i64 (w64 (x5+1))) qInt ?_
   refine rq (out:=Pr.i64 (w64 (x5+1))) ae ?_
   exact⟨m2,Nat.lt_succ_self _,x14,w64 (x5+1),hn2 _ (Option.some.inj h2l).symm,⟨⟨aa,aa,aa,aa,trivial⟩,Pick.refl _⟩⟩
  refine W_rs ?_
  refine rq (out:=Pr.i64 x5) ag ?_
  refine rq (out:=Pr.i64 x2) ag ?_
  refine rq (out:=Pr.bool (decide (x5>x2))) qInt ?_
  refine al (b:=decide (x5>x2)) rfl (fun hc9=> ?_) (fun hc9=> ?_)
  ·replace h2l:=iteT hc9 h2l
   refine W_r ?_
   refine rq (out:=ah x4) ag ?_
   obtain⟨x10,hx10,h2l⟩:=af h2l
   refine rq (out:=ah x10) (cm hx10) ?_
   refine rq (out:=ah x10) ae ?_
   exact⟨x10,h2l,⟨⟨aa,aa,aa,aa,trivial⟩,Pick.refl _⟩⟩
  replace h2l:=iteF hc9 h2l
  refine ar ?_
  exact⟨x4,h2l,⟨⟨aa,aa,aa,aa,trivial⟩,Pick.refl _⟩⟩
 replace h2l:=iteF hc8 h2l
 refine cr ?_
 obtain rfl:=ho2 _ (Option.some.inj h2l).symm
 exact⟨x4,h,⟨⟨aa,trivial⟩,Pick.refl _⟩⟩
theorem rec_ref13_kid_ok :∀n,md (dw n):=by
 intro n
 induction n with
 |zero=>exact⟨(fun x1 x2 x3 r h=>nomatch (show none=some r from h)),(fun x1 r h=>nomatch (show none=some r from h)),(fun x1 x2 r h=>nomatch (show none=some r from h))⟩
 |succ n ih=>exact⟨(fun x1 x2 x3 r h=>F_ref13_kid_step (dw n) ih x1 x2 x3 r h),(fun x1 r h=>F_ref13_Expression_step (dw n) ih x1 r h),(fun x1 x2 r h=>F_ref13_arguments_step (dw n) ih x1 x2 r h)⟩
theorem kg (x1:ApiNode) (x2 x3:Int) (r:(List UInt8)) (h:k3 x1 x2 x3=some r):FnP Tryz.prog 130 [(ab).val x1,Pr.i64 x2,Pr.i64 x3] (ah r):=(rec_ref13_kid_ok 1048576).1 x1 x2 x3 r h
def ft (R:bm):Prop:=(∀(x1:ApiNode) (x2:Int) (x3:List UInt8) (r:(List UInt8)),R.1 x1 x2 x3=some r->FnP Tryz.prog 51 [(ab).val x1,Pr.i64 x2,ah x3] (ah r))/\(∀(x1:List ApiNode) (x2:List UInt8) (r:(List UInt8)),R.2.1 x1 x2=some r->FnP Tryz.prog 73 [ai ab x1,ah x2] (ah r))/\(∀(x1:ApiNode) (x2:List UInt8) (r:(List UInt8)),R.2.2.1 x1 x2=some r->FnP Tryz.prog 99 [(ab).val x1,ah x2] (ah r))/\(∀(x1:ApiNode) (x2:List UInt8) (r:(List UInt8) × Bool),R.2.2.2 x1 x2=some r->FnP Tryz.prog 113 [(ab).val x1,ah x2] (bl [ah r.1,Pr.bool r.2]))
theorem F_ref13_belongs_step (R:bm) (ih:ft R) (x1:ApiNode) (x2:Int) (x3:List UInt8) (r:(List UInt8)) (h:iz R x1 x2 x3=some r):FnP Tryz.prog 51 [(ab).val x1,Pr.i64 x2,ah x3] (ah r):=by
 refine bd (n:=37) (rs:=[6]) Tryz.func51 rfl Tryz.ntmps51 ⟨by decide,Tryz.results51⟩ (by decide) (fun s0=> ?_)
 unfold iz at h
 refine W_rs ?_
 refine rBox (R:=ab) (a:=x1) rfl (fun b4=> ?_)
 refine rq (out:=ah []) ae ?_
 refine a4 ?_
 refine W_rs ?_
 refine rq (out:=Pr.i64 x2) ag ?_
 refine rq (out:=aq b4 8) (au c8) ?_
 refine rq (out:=ai ab x1.Kids) (a6 (R:=ab) (a:=x1) (R':=ap ab) 0 ty22 ay) ?_
 refine rq (out:=Pr.i64 (x1.Kids.length:Int)) (dc rfl Tryz.underlying22) ?_
 refine rq (out:=Pr.bool (decide (x2≥(x1.Kids.length:Int)))) qInt ?_
 refine al (b:=decide (x2≥(x1.Kids.length:Int))) rfl (fun hc5=> ?_) (fun hc5=> ?_)
 ·replace h:=iteT hc5 h
  refine W_rs ?_
  refine rq (out:=ah x3) ag ?_
  obtain⟨x6,hx6,h⟩:=af h
  refine rq (out:=ah x6) (o9 (ih.2.1 [] x3 _ hx6) ⟨dn _,aa,trivial⟩) ?_
  refine rq (out:=ah x6) ae ?_
  obtain rfl:=Option.some.inj h
  exact a5 ⟨rfl,aa⟩
 replace h:=iteF hc5 h
 refine ar ?_
 refine a4 ?_
 refine W_rs ?_
 refine rq (out:=aq b4 8) (au c8) ?_
 refine rq (out:=ai ab x1.Kids) (a6 (R:=ab) (a:=x1) (R':=ap ab) 0 ty22 ay) ?_
 refine rq (out:=Pr.i64 x2) ag ?_
 obtain⟨x7,hx7,h⟩:=af h
 refine rq (out:=a8 ab x7) (c6 (R:=ab) (l:=x1.Kids) Tryz.underlying22 Tryz.sizeOf24 hx7) ?_
 refine rq (out:=a8 (Rp.int .i64) x7.Kind) (ee (R:=ab) (a:=x7) f8 bv) ?_
 refine rq (out:=Pr.i64 x7.Kind) (bp (R:=Rp.int .i64) (a:=x7.Kind) ty3) ?_
 refine rq (out:=Pr.bool (x7.Kind==5)) qInt ?_
 refine al (b:=x7.Kind==5) rfl (fun hc8=> ?_) (fun hc8=> ?_)
 ·replace h:=iteT hc8 h
  refine W_rs ?_
  refine rq (out:=aq b4 8) (au c8) ?_
  refine rq (out:=ai ab x1.Kids) (a6 (R:=ab) (a:=x1) (R':=ap ab) 0 ty22 ay) ?_
  refine rq (out:=Pr.i64 x2) ag ?_
  obtain⟨x9,hx9,h⟩:=af h
  refine rq (out:=a8 ab x9) (c6 (R:=ab) (l:=x1.Kids) Tryz.underlying22 Tryz.sizeOf24 hx9) ?_
  refine rq (out:=a8 (ap ab) x9.Kids) (ee (R:=ab) (a:=x9) c8 ay) ?_
  refine rq (out:=ai ab x9.Kids) (bp (R:=ap ab) (a:=x9.Kids) ty22) ?_
  refine rq (out:=ah x3) ag ?_
  obtain⟨x10,hx10,h⟩:=af h
  refine rq (out:=ah x10) (ax (ih.2.1 x9.Kids x3 _ hx10)) ?_
  refine rq (out:=ah x10) ae ?_
  obtain rfl:=Option.some.inj h
  exact a5 ⟨rfl,aa⟩
 replace h:=iteF hc8 h
 refine ar ?_
 refine W_rs ?_
 refine rq (out:=aq b4 8) (au c8) ?_
 refine rq (out:=ai ab x1.Kids) (a6 (R:=ab) (a:=x1) (R':=ap ab) 0 ty22 ay) ?_
 refine rq (out:=Pr.i64 x2) ag ?_
 refine rq (out:=Pr.i64 x2) ag ?_
 refine rq (out:=Pr.i64 (w64 (x2+1))) qInt ?_
 obtain⟨x11,hx11,h⟩:=af h
 refine rq (out:=ai ab x11) (qLSubLH Tryz.underlying22 Tryz.sizeOf24 hx11) ?_
 refine rq (out:=ah x3) ag ?_
 obtain⟨x12,hx12,h⟩:=af h
 refine rq (out:=ah x12) (ax (ih.2.1 x11 x3 _ hx12)) ?_
 refine rq (out:=ah x12) ae ?_
 obtain rfl:=Option.some.inj h
 exact a5 ⟨rfl,aa⟩
theorem F_ref13_blocked_step (R:bm) (ih:ft R) (x1:List ApiNode) (x2:List UInt8) (r:(List UInt8)) (h:j6 R x1 x2=some r):FnP Tryz.prog 73 [ai ab x1,ah x2] (ah r):=by
 refine bd (n:=26) (rs:=[4]) Tryz.func73 rfl Tryz.ntmps73 ⟨by decide,Tryz.results73⟩ (by decide) (fun s0=> ?_)
 unfold j6 at h
 refine W_rs ?_
 refine rq (out:=ah []) ae ?_
 refine W_rs ?_
 refine rq (out:=ah ([123,10]:List UInt8)) ae ?_
 refine a4 ?_
 refine W_rs ?_
 refine rq (out:=Pr.i64 0) ae ?_
 refine av ?_
 obtain⟨z2l,hz2,h⟩:=af h
 obtain⟨n2,hN2⟩:=bj hz2
 clear hz2
 refine ct 0 (fun e C=>∃(x3:List UInt8),ny R x2 x3=some r/\At [(1,ah x2),(5,ah x3)] [] e C) ?_ ?_
 ·rintro e C ⟨x3,h,hat1⟩
  refine W_at hat1 ?_
  clear hat1
  unfold ny at h
  refine W_rs ?_
  refine rq (out:=ah x3) ag ?_
  refine rq (out:=ah x2) ag ?_
  obtain⟨x12,hx12,h⟩:=af h
  refine rq (out:=ah x12) (cm hx12) ?_
  obtain⟨x13,hx13,h⟩:=af h
  refine rq (out:=ah x13) (cm hx13) ?_
  refine rq (out:=ah x13) ae ?_
  obtain rfl:=Option.some.inj h
  exact a5 ⟨rfl,aa⟩
 refine dg (fun m e C=>∃(x3:List UInt8),∃(x4:Int),d4 (fun s=>fm R x1 x2 s.1 s.2) m (x3,x4)=some z2l/\At [(0,ai ab x1),(1,ah x2),(5,ah x3),(6,Pr.i64 x4)] [] e C) n2 ⟨([123,10]:List UInt8),0,hN2,⟨⟨aa,aa,aa,aa,trivial⟩,Pick.refl _⟩⟩ ?_
 clear hN2
 rintro m e C ⟨x3,x4,hN2,hatl2⟩
 refine W_at hatl2 ?_
 clear hatl2
 obtain⟨m2,w2l,rfl,h2l,hn2,ho2⟩:=bg hN2
 clear hN2
 replace h2l:fm R x1 x2 x3 x4=some w2l:=h2l
 unfold fm at h2l
 refine a4 ?_
 refine W_rs ?_
 refine rq (out:=Pr.i64 x4) ag ?_
 refine rq (out:=ai ab x1) ag ?_
 refine rq (out:=Pr.i64 (x1.length:Int)) (dc rfl Tryz.underlying22) ?_
 refine rq (out:=Pr.bool (decide (x4<(x1.length:Int)))) qInt ?_
 refine al (b:=decide (x4<(x1.length:Int))) rfl (fun hc7=> ?_) (fun hc7=> ?_)
 ·replace h2l:=iteT hc7 h2l
  refine ar ?_
  refine a4 ?_
  refine av ?_
  refine W_r ?_
  refine rq (out:=ah x3) ag ?_
  refine rq (out:=ai ab x1) ag ?_
  refine rq (out:=Pr.i64 x4) ag ?_
  obtain⟨x8,hx8,h2l⟩:=af h2l
  refine rq (out:=a8 ab x8) (c6 (R:=ab) (l:=x1) Tryz.underlying22 Tryz.sizeOf24 hx8) ?_
  refine rq (out:=(ab).val x8) (bp (R:=ab) (a:=x8) ty24) ?_
  refine rq (out:=ah x2) ag ?_
  obtain⟨x9,hx9,h2l⟩:=af h2l
  refine rq (out:=ah x9) (cm hx9) ?_
  obtain⟨x10,hx10,h2l⟩:=af h2l
  refine rq (out:=ah x10) (ax (ih.2.2.1 x8 x9 _ hx10)) ?_
  obtain⟨x11,hx11,h2l⟩:=af h2l
  refine rq (out:=ah x11) (cm hx11) ?_
  refine rq (out:=ah x11) ae ?_
  refine W_r ?_
  refine rq (out:=Pr.i64 x4) ag ?_
  refine rq (out:=Pr.i64 (w64 (x4+1))) qInt ?_
  refine rq (out:=Pr.i64 (w64 (x4+1))) ae ?_
  exact⟨m2,Nat.lt_succ_self _,x11,w64 (x4+1),hn2 _ (Option.some.inj h2l).symm,⟨⟨aa,aa,aa,aa,trivial⟩,Pick.refl _⟩⟩
 replace h2l:=iteF hc7 h2l
 refine cr ?_
 obtain rfl:=ho2 _ (Option.some.inj h2l).symm
 exact⟨x3,h,⟨⟨aa,aa,trivial⟩,Pick.refl _⟩⟩
theorem F_ref13_Statement_step (R:bm) (ih:ft R) (x1:ApiNode) (x2:List UInt8) (r:(List UInt8)) (h:j9 R x1 x2=some r):FnP Tryz.prog 99 [(ab).val x1,ah x2] (ah r):=by
 refine bd (n:=19) (rs:=[4]) Tryz.func99 rfl Tryz.ntmps99 ⟨by decide,Tryz.results99⟩ (by decide) (fun s0=> ?_)
 unfold j9 at h
 refine W_rs ?_
 refine rBox (R:=ab) (a:=x1) rfl (fun b3=> ?_)
 refine rq (out:=ah []) ae ?_
 refine W_rs ?_
 refine rq (out:=(ab).val x1) (a6 (R:=ab) (a:=x1) (R':=ab) 0 ty24 (Sub.refl _)) ?_
 refine rq (out:=ah x2) ag ?_
 obtain⟨⟨x4,x5⟩,hx4,h⟩:=af h
 refine rq (out:=bl [ah x4,Pr.bool x5]) (ax (ih.2.2.2 x1 x2 _ hx4)) ?_
 refine rq (out:=bl [ah x4,Pr.bool x5]) ag ?_
 refine rq (out:=ah x4) aw ?_
 refine rq (out:=Pr.bool x5) aw ?_
 refine rq (out:=ah x4) ae ?_
 refine rq (out:=Pr.bool x5) ae ?_
 refine a4 ?_
 refine W_rs ?_
 refine rq (out:=Pr.bool x5) ag ?_
 refine rq (out:=Pr.bool (!x5)) qNot ?_
 refine al (b:= !x5) rfl (fun hc6=> ?_) (fun hc6=> ?_)
 ·replace h:=iteT hc6 h
  refine W_rs ?_
  refine rq (out:=ah []) ae ?_
  obtain rfl:=Option.some.inj h
  exact a5 ⟨rfl,aa⟩
 replace h:=iteF hc6 h
 refine ar ?_
 refine W_rs ?_
 refine rq (out:=ah x2) ag ?_
 refine rq (out:=ah x4) ag ?_
 obtain⟨x7,hx7,h⟩:=af h
 refine rq (out:=ah x7) (cm hx7) ?_
 obtain⟨x8,hx8,h⟩:=af h
 refine rq (out:=ah x8) (cm hx8) ?_
 refine rq (out:=ah x8) ae ?_
 obtain rfl:=Option.some.inj h
 exact a5 ⟨rfl,aa⟩
theorem F_ref13_line_step (R:bm) (ih:ft R) (x1:ApiNode) (x2:List UInt8) (r:(List UInt8) × Bool) (h:ek R x1 x2=some r):FnP Tryz.prog 113 [(ab).val x1,ah x2] (bl [ah r.1,Pr.bool r.2]):=by
 refine bd (n:=89) (rs:=[4,5]) Tryz.func113 rfl Tryz.ntmps113 ⟨by decide,Tryz.results113⟩ (by decide) (fun s0=> ?_)
 unfold ek at h
 refine W_rs ?_
 refine rBox (R:=ab) (a:=x1) rfl (fun b3=> ?_)
 refine rq (out:=ah []) ae ?_
 refine rq (out:=Pr.bool false) ae ?_
 refine a4 ?_
 refine W_rs ?_
 refine rq (out:=aq b3 0) (au f8) ?_
 refine rq (out:=Pr.i64 x1.Kind) (a6 (R:=ab) (a:=x1) (R':=Rp.int .i64) 0 ty3 bv) ?_
 refine av ?_
 refine W_rs ?_
 refine rq (out:=Pr.bool (x1.Kind==6)) qInt ?_
 refine rq (out:=Pr.bool (x1.Kind==6)) ae ?_
 refine al (b:=x1.Kind==6) rfl (fun hc4=> ?_) (fun hc4=> ?_)
 ·replace h:=iteT hc4 h
  refine ba (fun e C=>∃(x10:List UInt8),cw R x10=some r/\At [(4,ah x10),(5,Pr.bool true)] [Own.box b3 ab x1] e C) ?_ ?_
  ·rintro e C ⟨x10,h,hat1⟩
   refine W_at hat1 ?_
   clear hat1
   unfold cw at h
   obtain rfl:=Option.some.inj h
   exact a5 ⟨rfl,aa⟩
  refine eh 13 hmx (by kernel_rfl) (by kernel_rfl) ?_
  refine qq (out:=aq b3 2) (au oq) ?_
  refine qq (out:=ah x1.Type_) (a6 (R:=ab) (a:=x1) (R':=ak) 0 ty9 d9) ?_
  obtain⟨x5,hx5,h⟩:=af h
  refine qq (out:=ah x5) (cm hx5) ?_
  refine qq (out:=aq b3 1) (au eu) ?_
  refine qq (out:=ah x1.Text) (a6 (R:=ab) (a:=x1) (R':=ak) 0 ty9 bq) ?_
  obtain⟨x6,hx6,h⟩:=af h
  refine qq (out:=ah x6) (cm hx6) ?_
  obtain⟨x7,hx7,h⟩:=af h
  refine qq (out:=ah x7) (cm hx7) ?_
  refine qq (out:=(ab).val x1) (a6 (R:=ab) (a:=x1) (R':=ab) 0 ty24 (Sub.refl _)) ?_
  obtain⟨x8,hx8,h⟩:=af h
  refine qq (out:=ah x8) (ax (kg x1 0 0 _ hx8)) ?_
  obtain⟨x9,hx9,h⟩:=af h
  refine qq (out:=ah x9) (cm hx9) ?_
  obtain⟨x10,hx10,h⟩:=af h
  refine qq (out:=ah x10) (cm hx10) ?_
  refine qq (out:=ah x10) ae ?_
  refine qq (out:=Pr.bool true) ae ?_
  exact⟨x10,h,⟨⟨aa,aa,trivial⟩,Pick.refl _⟩⟩
 replace h:=iteF hc4 h
 refine W_rs ?_
 refine rq (out:=Pr.bool (x1.Kind==7)) qInt ?_
 refine rq (out:=Pr.bool (x1.Kind==7)) ae ?_
 refine al (b:=x1.Kind==7) rfl (fun hc11=> ?_) (fun hc11=> ?_)
 ·replace h:=iteT hc11 h
  refine ba (fun e C=>∃(x16:List UInt8),cv R x16=some r/\At [(4,ah x16),(5,Pr.bool true)] [Own.box b3 ab x1] e C) ?_ ?_
  ·rintro e C ⟨x16,h,hat2⟩
   refine W_at hat2 ?_
   clear hat2
   unfold cv at h
   obtain rfl:=Option.some.inj h
   exact a5 ⟨rfl,aa⟩
  refine eh 9 hmx (by kernel_rfl) (by kernel_rfl) ?_
  refine qq (out:=(ab).val x1) (a6 (R:=ab) (a:=x1) (R':=ab) 0 ty24 (Sub.refl _)) ?_
  obtain⟨x12,hx12,h⟩:=af h
  refine qq (out:=ah x12) (ax (kg x1 0 0 _ hx12)) ?_
  obtain⟨x13,hx13,h⟩:=af h
  refine qq (out:=ah x13) (cm hx13) ?_
  refine qq (out:=(ab).val x1) (a6 (R:=ab) (a:=x1) (R':=ab) 0 ty24 (Sub.refl _)) ?_
  obtain⟨x14,hx14,h⟩:=af h
  refine qq (out:=ah x14) (ax (kg x1 1 0 _ hx14)) ?_
  obtain⟨x15,hx15,h⟩:=af h
  refine qq (out:=ah x15) (cm hx15) ?_
  obtain⟨x16,hx16,h⟩:=af h
  refine qq (out:=ah x16) (cm hx16) ?_
  refine qq (out:=ah x16) ae ?_
  refine qq (out:=Pr.bool true) ae ?_
  exact⟨x16,h,⟨⟨aa,aa,trivial⟩,Pick.refl _⟩⟩
 replace h:=iteF hc11 h
 refine W_rs ?_
 refine rq (out:=Pr.bool (x1.Kind==8)) qInt ?_
 refine rq (out:=Pr.bool (x1.Kind==8)) ae ?_
 refine al (b:=x1.Kind==8) rfl (fun hc17=> ?_) (fun hc17=> ?_)
 ·replace h:=iteT hc17 h
  refine W_rs ?_
  refine rq (out:=(ab).val x1) (a6 (R:=ab) (a:=x1) (R':=ab) 0 ty24 (Sub.refl _)) ?_
  obtain⟨x18,hx18,h⟩:=af h
  refine rq (out:=ah x18) (ax (kg x1 0 0 _ hx18)) ?_
  obtain⟨x19,hx19,h⟩:=af h
  refine rq (out:=ah x19) (cm hx19) ?_
  refine rq (out:=ah x19) ae ?_
  refine rq (out:=Pr.bool true) ae ?_
  obtain rfl:=Option.some.inj h
  exact a5 ⟨rfl,aa⟩
 replace h:=iteF hc17 h
 refine W_rs ?_
 refine rq (out:=Pr.bool (x1.Kind==11)) qInt ?_
 refine rq (out:=Pr.bool (x1.Kind==11)) ae ?_
 refine al (b:=x1.Kind==11) rfl (fun hc20=> ?_) (fun hc20=> ?_)
 ·replace h:=iteT hc20 h
  refine a4 ?_
  refine W_rs ?_
  refine rq (out:=aq b3 8) (au c8) ?_
  refine rq (out:=ai ab x1.Kids) (a6 (R:=ab) (a:=x1) (R':=ap ab) 0 ty22 ay) ?_
  refine rq (out:=Pr.i64 (x1.Kids.length:Int)) (dc rfl Tryz.underlying22) ?_
  refine rq (out:=Pr.bool ((x1.Kids.length:Int)==0)) qInt ?_
  refine al (b:=(x1.Kids.length:Int)==0) rfl (fun hc21=> ?_) (fun hc21=> ?_)
  ·replace h:=iteT hc21 h
   refine W_rs ?_
   refine rq (out:=ah ([114,101,116,117,114,110,59]:List UInt8)) ae ?_
   refine rq (out:=Pr.bool true) ae ?_
   obtain rfl:=Option.some.inj h
   exact a5 ⟨rfl,aa⟩
  replace h:=iteF hc21 h
  refine ar ?_
  refine W_rs ?_
  refine rq (out:=(ab).val x1) (a6 (R:=ab) (a:=x1) (R':=ab) 0 ty24 (Sub.refl _)) ?_
  obtain⟨x22,hx22,h⟩:=af h
  refine rq (out:=ah x22) (ax (kg x1 0 0 _ hx22)) ?_
  obtain⟨x23,hx23,h⟩:=af h
  refine rq (out:=ah x23) (cm hx23) ?_
  obtain⟨x24,hx24,h⟩:=af h
  refine rq (out:=ah x24) (cm hx24) ?_
  refine rq (out:=ah x24) ae ?_
  refine rq (out:=Pr.bool true) ae ?_
  obtain rfl:=Option.some.inj h
  exact a5 ⟨rfl,aa⟩
 replace h:=iteF hc20 h
 refine W_rs ?_
 refine rq (out:=Pr.bool (x1.Kind==12)) qInt ?_
 refine rq (out:=Pr.bool (x1.Kind==12)) ae ?_
 refine al (b:=x1.Kind==12) rfl (fun hc25=> ?_) (fun hc25=> ?_)
 ·replace h:=iteT hc25 h
  refine W_rs ?_
  refine rq (out:=(ab).val x1) (a6 (R:=ab) (a:=x1) (R':=ab) 0 ty24 (Sub.refl _)) ?_
  obtain⟨x26,hx26,h⟩:=af h
  refine rq (out:=ah x26) (ax (kg x1 0 0 _ hx26)) ?_
  obtain⟨x27,hx27,h⟩:=af h
  refine rq (out:=ah x27) (cm hx27) ?_
  obtain⟨x28,hx28,h⟩:=af h
  refine rq (out:=ah x28) (cm hx28) ?_
  refine rq (out:=ah x28) ae ?_
  refine rq (out:=Pr.bool true) ae ?_
  obtain rfl:=Option.some.inj h
  exact a5 ⟨rfl,aa⟩
 replace h:=iteF hc25 h
 refine W_rs ?_
 refine rq (out:=Pr.bool (x1.Kind==10)) qInt ?_
 refine rq (out:=Pr.bool (x1.Kind==10)) ae ?_
 refine al (b:=x1.Kind==10) rfl (fun hc29=> ?_) (fun hc29=> ?_)
 ·replace h:=iteT hc29 h
  refine ba (fun e C=>∃(x34:List UInt8),cu R x34=some r/\At [(4,ah x34),(5,Pr.bool true)] [Own.box b3 ab x1] e C) ?_ ?_
  ·rintro e C ⟨x34,h,hat3⟩
   refine W_at hat3 ?_
   clear hat3
   unfold cu at h
   obtain rfl:=Option.some.inj h
   exact a5 ⟨rfl,aa⟩
  refine eh 10 hmx (by kernel_rfl) (by kernel_rfl) ?_
  refine qq (out:=(ab).val x1) (a6 (R:=ab) (a:=x1) (R':=ab) 0 ty24 (Sub.refl _)) ?_
  obtain⟨x30,hx30,h⟩:=af h
  refine qq (out:=ah x30) (ax (kg x1 0 0 _ hx30)) ?_
  obtain⟨x31,hx31,h⟩:=af h
  refine qq (out:=ah x31) (cm hx31) ?_
  obtain⟨x32,hx32,h⟩:=af h
  refine qq (out:=ah x32) (cm hx32) ?_
  refine qq (out:=(ab).val x1) (a6 (R:=ab) (a:=x1) (R':=ab) 0 ty24 (Sub.refl _)) ?_
  refine qq (out:=ah x2) ag ?_
  obtain⟨x33,hx33,h⟩:=af h
  refine qq (out:=ah x33) (ax (ih.1 x1 1 x2 _ hx33)) ?_
  obtain⟨x34,hx34,h⟩:=af h
  refine qq (out:=ah x34) (cm hx34) ?_
  refine qq (out:=ah x34) ae ?_
  refine qq (out:=Pr.bool true) ae ?_
  exact⟨x34,h,⟨⟨aa,aa,trivial⟩,Pick.refl _⟩⟩
 replace h:=iteF hc29 h
 refine W_rs ?_
 refine rq (out:=Pr.bool (x1.Kind==9)) qInt ?_
 refine rq (out:=Pr.bool (x1.Kind==9)) ae ?_
 refine al (b:=x1.Kind==9) rfl (fun hc35=> ?_) (fun hc35=> ?_)
 ·replace h:=iteT hc35 h
  refine ba (fun e C=>∃(x40:List UInt8),ref13_line_j5 R x1 x2 x40=some r/\At [(1,ah x2),(2,aq b3 0),(6,ah x40)] [Own.box b3 ab x1] e C) ?_ ?_
  ·rintro e C ⟨x40,h,hat5⟩
   refine W_at hat5 ?_
   clear hat5
   unfold ref13_line_j5 at h
   refine ba (fun e C=>∃(x45:List UInt8),cq R x45=some r/\At [(6,ah x45)] [Own.box b3 ab x1] e C) ?_ ?_
   ·rintro e C ⟨x45,h,hat4⟩
    refine W_at hat4 ?_
    clear hat4
    unfold cq at h
    refine W_rs ?_
    refine rq (out:=ah x45) ag ?_
    refine rq (out:=ah x45) ae ?_
    refine rq (out:=Pr.bool true) ae ?_
    obtain rfl:=Option.some.inj h
    exact a5 ⟨rfl,aa⟩
   refine W_rs ?_
   refine rq (out:=aq b3 8) (au c8) ?_
   refine rq (out:=ai ab x1.Kids) (a6 (R:=ab) (a:=x1) (R':=ap ab) 0 ty22 ay) ?_
   refine rq (out:=Pr.i64 (x1.Kids.length:Int)) (dc rfl Tryz.underlying22) ?_
   refine rq (out:=Pr.bool (decide ((x1.Kids.length:Int)>2))) qInt ?_
   refine al (b:=decide ((x1.Kids.length:Int)>2)) rfl (fun hc41=> ?_) (fun hc41=> ?_)
   ·replace h:=iteT hc41 h
    refine W_r ?_
    refine rq (out:=ah x40) ag ?_
    obtain⟨x42,hx42,h⟩:=af h
    refine rq (out:=ah x42) (cm hx42) ?_
    refine rq (out:=(ab).val x1) (a6 (R:=ab) (a:=x1) (R':=ab) 0 ty24 (Sub.refl _)) ?_
    refine rq (out:=ah x2) ag ?_
    obtain⟨x43,hx43,h⟩:=af h
    refine rq (out:=ah x43) (ax (ih.1 x1 2 x2 _ hx43)) ?_
    obtain⟨x44,hx44,h⟩:=af h
    refine rq (out:=ah x44) (cm hx44) ?_
    refine rq (out:=ah x44) ae ?_
    exact⟨x44,h,⟨⟨aa,trivial⟩,Pick.refl _⟩⟩
   replace h:=iteF hc41 h
   refine ar ?_
   exact⟨x40,h,⟨⟨aa,trivial⟩,Pick.refl _⟩⟩
  refine eh 9 hmx (by kernel_rfl) (by kernel_rfl) ?_
  refine qq (out:=(ab).val x1) (a6 (R:=ab) (a:=x1) (R':=ab) 0 ty24 (Sub.refl _)) ?_
  obtain⟨x36,hx36,h⟩:=af h
  refine qq (out:=ah x36) (ax (kg x1 0 0 _ hx36)) ?_
  obtain⟨x37,hx37,h⟩:=af h
  refine qq (out:=ah x37) (cm hx37) ?_
  obtain⟨x38,hx38,h⟩:=af h
  refine qq (out:=ah x38) (cm hx38) ?_
  refine qq (out:=(ab).val x1) (a6 (R:=ab) (a:=x1) (R':=ab) 0 ty24 (Sub.refl _)) ?_
  refine qq (out:=ah x2) ag ?_
  obtain⟨x39,hx39,h⟩:=af h
  refine qq (out:=ah x39) (ax (ih.1 x1 1 x2 _ hx39)) ?_
  obtain⟨x40,hx40,h⟩:=af h
  refine qq (out:=ah x40) (cm hx40) ?_
  refine qq (out:=ah x40) ae ?_
  exact⟨x40,h,⟨⟨aa,aa,aa,trivial⟩,Pick.refl _⟩⟩
 replace h:=iteF hc35 h
 refine W_rs ?_
 refine rq (out:=Pr.bool (x1.Kind==5)) qInt ?_
 refine rq (out:=Pr.bool (x1.Kind==5)) ae ?_
 refine al (b:=x1.Kind==5) rfl (fun hc46=> ?_) (fun hc46=> ?_)
 ·replace h:=iteT hc46 h
  refine W_rs ?_
  refine rq (out:=aq b3 8) (au c8) ?_
  refine rq (out:=ai ab x1.Kids) (a6 (R:=ab) (a:=x1) (R':=ap ab) 0 ty22 ay) ?_
  refine rq (out:=ah x2) ag ?_
  obtain⟨x47,hx47,h⟩:=af h
  refine rq (out:=ah x47) (ax (ih.2.1 x1.Kids x2 _ hx47)) ?_
  refine rq (out:=ah x47) ae ?_
  refine rq (out:=Pr.bool true) ae ?_
  obtain rfl:=Option.some.inj h
  exact a5 ⟨rfl,aa⟩
 replace h:=iteF hc46 h
 refine ar ?_
 refine W_rs ?_
 refine rq (out:=ah []) ae ?_
 refine rq (out:=Pr.bool false) ae ?_
 obtain rfl:=Option.some.inj h
 exact a5 ⟨rfl,aa⟩
theorem rec_ref13_belongs_ok :∀n,ft (ca n):=by
 intro n
 induction n with
 |zero=>exact⟨(fun x1 x2 x3 r h=>nomatch (show none=some r from h)),(fun x1 x2 r h=>nomatch (show none=some r from h)),(fun x1 x2 r h=>nomatch (show none=some r from h)),(fun x1 x2 r h=>nomatch (show none=some r from h))⟩
 |succ n ih=>exact⟨(fun x1 x2 x3 r h=>F_ref13_belongs_step (ca n) ih x1 x2 x3 r h),(fun x1 x2 r h=>F_ref13_blocked_step (ca n) ih x1 x2 r h),(fun x1 x2 r h=>F_ref13_Statement_step (ca n) ih x1 x2 r h),(fun x1 x2 r h=>F_ref13_line_step (ca n) ih x1 x2 r h)⟩
theorem ref13_belongs_ok (x1:ApiNode) (x2:Int) (x3:List UInt8) (r:(List UInt8)) (h:ref13_belongs x1 x2 x3=some r):FnP Tryz.prog 51 [(ab).val x1,Pr.i64 x2,ah x3] (ah r):=(rec_ref13_belongs_ok 1048576).1 x1 x2 x3 r h
end Go.Proofs.YtgkcoicaopilhaaGreatDoor
