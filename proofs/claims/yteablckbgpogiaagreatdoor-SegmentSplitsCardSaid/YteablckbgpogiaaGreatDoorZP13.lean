/- The code comes to what these functions say (printed by wip/gen/gen.py). -/
import Derived.Test.YteablckbgpogiaaGreatDoorZX
import Derived.Test.YteablckbgpogiaaGreatDoorZP12
import Derived.Test.YteablckbgpogiaaGreatDoorZT
set_option linter.unusedSimpArgs false
set_option linter.unusedVariables false
set_option linter.unusedSectionVars false
set_option linter.unusedSectionVars false
set_option maxRecDepth 100000
set_option maxHeartbeats 4000000
namespace Go.Proofs.YteablckbgpogiaaGreatDoor
open Go Go.Cn
variable [Known]
attribute [local irreducible] f6 aq
theorem ref28_open_ok (x1:List UInt8) (x2 r:Int) (h:ref28_open x1 x2=some r):FnP Tryz.prog 26 [a6 x1,Pr.i64 x2] (Pr.i64 r):=by
 refine cm (rs:=[4]) Tryz.func26 rfl Tryz.ntmps26 ⟨by decide,Tryz.results26⟩ (by decide) (fun s0=> ?_)
 unfold ref28_open at h
 refine W_rs (kAs rfl (W_rs (kMv rfl ?_)))
 obtain⟨⟨x3,x4,x5⟩,hx3,h⟩:=af h
 refine kUn (dj (ref03_Lex_ok x1 _ hx3)) ?_
 refine kUn (hMv (out:=cd [aq ah x3,Pr.i64 x4,Pr.i64 x5]) rfl) (kUn ao ?_)
 refine kUn ao ?_
 refine kUn ao ?_
 refine kAsL rfl (kAs rfl (kAs rfl (a7 (W_rs (kAs rfl (a5 ?_))))))
 obtain⟨z2l,hz2,h⟩:=af h
 obtain⟨n2,hN2⟩:=bq hz2
 refine eb 0 (fun e C=>ref28_open_k1 x1=some r/\At [(0,a6 x1)] [] e C) ?_ ?_
 ·rintro e C ⟨h,hat1⟩
  refine W_at hat1 ?_
  unfold ref28_open_k1 at h
  refine W_rs (kMv rfl (kUn (oj rfl Tryz.underlying9) ?_))
  refine kAs rfl ?_
  obtain rfl:=osj h
  exact ax ⟨rfl,aa⟩
 refine fb (fun m e C=>∃(x6:Int),fg (fun s=>pf x3 x2 s) m x6=some z2l/\At [(0,a6 x1),(1,Pr.i64 x2),(5,aq ah x3),(8,Pr.i64 x6)] [] e C) n2 ⟨0,hN2,⟨⟨aa,aa,aa,aa,trivial⟩,Pick.refl _⟩⟩ ?_
 rintro m e C ⟨x6,hN2,hatl2⟩
 refine W_at hatl2 ?_
 obtain⟨m2,w2l,rfl,h2l,hn2,ho2⟩:=bj hN2
 replace h2l:pf x3 x2 x6=some w2l:=h2l
 unfold pf at h2l
 refine a7 (W_rs (kMv rfl (kMvL rfl (kUn (l8 rfl Tryz.underlying70) ?_))))
 refine kIn rfl rfl rfl ?_
 refine a8 h2l rfl (fun _ h2l=> ?_) (fun _ h2l=> ?_)
 ·refine ar (a7 (a5 ?_))
  refine bi (fun e C=>∃(x12:Bool),ref28_open_j3 x3 x6 x12=some w2l/\At [(0,a6 x1),(1,Pr.i64 x2),(5,aq ah x3),(8,Pr.i64 x6),(35,Pr.bool x12)] [] e C) ?_ ?_
  ·rintro e C ⟨x12,h2l,hat3⟩
   refine W_at hat3 ?_
   unfold ref28_open_j3 at h2l
   refine a8 h2l rfl (fun _ h2l=> ?_) (fun _ h2l=> ?_)
   ·refine W_rs (kMvL rfl (kMv rfl ?_))
    obtain⟨x14,hx14,h2l⟩:=af h2l
    refine kUn (fi Tryz.underlying70 Tryz.sizeOf74 hx14) ?_
    refine kUn (dc fld74_2 subApiToken_At) ?_
    refine kUn (cw ty3) ?_
    refine kIn rfl rfl rfl (kAs rfl ?_)
    obtain rfl:=ho2 _ (Option.some.inj h2l).symm
    replace h:some (w64 (x14.At+1))=some r:=h
    obtain rfl:=osj h
    exact ax ⟨rfl,aa⟩
   refine ar (W_r (kMv rfl (kIn rfl rfl rfl (kAs rfl ?_))))
   exact⟨m2,Nat.lt_succ_self _,w64 (x6+1),hn2 _ (Option.some.inj h2l).symm,atOk⟩
  refine W_r (kMvL rfl (kMv rfl ?_))
  obtain⟨x9,hx9,h2l⟩:=af h2l
  refine kUn (fi Tryz.underlying70 Tryz.sizeOf74 hx9) ?_
  refine kUn (dc fld74_2 subApiToken_At) ?_
  refine kUn (cw ty3) ?_
  refine kMv rfl (kIn rfl rfl rfl (kMv rfl ?_))
  rcases bw h2l with⟨hc10,h2l⟩|⟨hc10,h2l⟩
  ·refine kGd rfl aa hc10 (hMvL rfl) (kGd rfl aa hc10 (hMvA rfl) ?_)
   obtain⟨x11,hx11,h2l⟩:=af h2l
   refine kGd rfl aa hc10 (fi Tryz.underlying70 Tryz.sizeOf74 hx11) ?_
   refine kGd rfl aa hc10 (dc fld74_1 subApiToken_Text) ?_
   refine kGd rfl aa hc10 (cw ty9) ?_
   refine kGd rfl aa hc10 (qStr rfl rfl rfl) (kPt rfl hc10 rfl ?_)
   exact⟨x11.Text==([123]:List UInt8),h2l,atOk⟩
  refine kSkT rfl aa hc10 (kSkT rfl aa hc10 (kSkT rfl aa hc10 (kSkT rfl aa hc10 (kSkT rfl aa hc10 (kSkT rfl aa hc10 (kPf rfl hc10 rfl ?_))))))
  exact⟨false,h2l,atOk⟩
 refine ek ?_
 obtain rfl:=ho2 _ (Option.some.inj h2l).symm
 exact⟨h,atOk⟩
theorem ref15_Field_ok (x1 x2:List UInt8) (r:(List UInt8)) (h:ref15_Field x1 x2=some r):FnP Tryz.prog 44 [a6 x1,a6 x2] (a6 r):=by
 refine cm (rs:=[4]) Tryz.func44 rfl Tryz.ntmps44 ⟨by decide,Tryz.results44⟩ (by decide) (fun s0=> ?_)
 unfold ref15_Field at h
 refine W_rs (kAs rfl (W_rs (kMv rfl ?_)))
 obtain⟨x3,hx3,h⟩:=af h
 refine kUn (qCat' hx3) ?_
 refine kMv rfl ?_
 obtain⟨x4,hx4,h⟩:=af h
 refine kUn (qCat' hx4) ?_
 refine kAs rfl ?_
 obtain rfl:=osj h
 exact ax ⟨rfl,aa⟩
theorem ref15_Method_ok (x1 x2:List UInt8) (r:(List UInt8)) (h:ref15_Method x1 x2=some r):FnP Tryz.prog 45 [a6 x1,a6 x2] (a6 r):=by
 refine cm (rs:=[4]) Tryz.func45 rfl Tryz.ntmps45 ⟨by decide,Tryz.results45⟩ (by decide) (fun s0=> ?_)
 unfold ref15_Method at h
 refine W_rs (kAs rfl (W_rs (kMv rfl ?_)))
 obtain⟨x3,hx3,h⟩:=af h
 refine kUn (qCat' hx3) ?_
 refine kMv rfl ?_
 obtain⟨x4,hx4,h⟩:=af h
 refine kUn (qCat' hx4) ?_
 obtain⟨x5,hx5,h⟩:=af h
 refine kUn (qCat' hx5) ?_
 refine kAs rfl ?_
 obtain rfl:=osj h
 exact ax ⟨rfl,aa⟩
theorem ref28_id_ok (x1:List UInt8) (x2:ApiNode) (r:(List UInt8)) (h:ref28_id x1 x2=some r):FnP Tryz.prog 27 [a6 x1,(rApiNode).val x2] (a6 r):=by
 refine cm (rs:=[4]) Tryz.func27 rfl Tryz.ntmps27 ⟨by decide,Tryz.results27⟩ (by decide) (fun s0=> ?_)
 unfold ref28_id at h
 refine W_rs ?_
 refine rBox (R:=rApiNode) (a:=x2) rfl (fun b3=> ?_)
 refine kAs rfl (a7 (W_rs (kUn (aw fld48_0) ?_)))
 refine kUn (bc 0 ty3 subApiNode_Kind) ?_
 refine kIn rfl rfl rfl ?_
 refine a8 h rfl (fun _ h=> ?_) (fun _ h=> ?_)
 ·refine W_rs (kMv rfl (kUn (aw oc) ?_))
  refine kUn (bc 0 ty9 ia) ?_
  refine cg h (ref15_Field_ok x1 x2.Text) rfl fun x5 _ h=>kAs rfl ?_
  obtain rfl:=osj h
  exact ax ⟨rfl,aa⟩
 refine ar (W_rs (kMv rfl (kUn (aw oc) ?_)))
 refine kUn (bc 0 ty9 ia) ?_
 refine cg h (ref15_Method_ok x1 x2.Text) rfl fun x6 _ h=>kAs rfl ?_
 obtain rfl:=osj h
 exact ax ⟨rfl,aa⟩
theorem ref28_Split_ok (x1:List UInt8) (r:(List ApiSegment) × ApiMistake) (h:ref28_Split x1=some r):FnC Tryz.prog 8 [a6 x1] [] (fun q C'=>∃u0,q=cd [Pr.is u0,(ai).val r.2]/\C'=[Own.vec u0 ay r.1 25]):=by
 refine fnc_introR (rs:=[.tmp 2,.cell 3 28]) Tryz.func8 rfl Tryz.ntmps8 Tryz.results8 (by decide) (fun s0=> ?_)
 unfold ref28_Split at h
 refine W_rs (kAs rfl (ba al28 fun b2=>W_rs (kMv rfl ?_)))
 obtain⟨⟨x3,x4⟩,hx3,h⟩:=af h
 refine kUn (dj (ref12_File_ok x1 _ hx3)) ?_
 refine kUn (hMv (out:=cd [aq rApiNode x3,(ai).val x4]) rfl) (kUn ao ?_)
 refine kUn ao ?_
 refine ba al28 fun b5=>kAsL rfl (ak 1 rfl rfl (Upd.refl _) rfl Tryz.sizeOf28 (a7 (W_rs (kUn (aw fld28_0) ?_))))
 refine kUn (bc 1 ty26 jy) ?_
 refine kIn rfl rfl rfl ?_
 refine a8 h rfl (fun _ h=> ?_) (fun _ h=> ?_)
 ·refine bi (fun e C=>ref28_Split_j1 x4=some r/\At [(2,Pr.is (.slice none 0 0)),(3,aj b2 0)] [Own.box b2 ai x4,Own.box b5 ai x4] e C) ?_ ?_
  ·rintro e C ⟨h,hat1⟩
   refine W_at hat1 ?_
   unfold ref28_Split_j1 at h
   refine W_nil [2] ay 25 (fun v7=> ?_) ⟨rfl,trivial⟩
   obtain rfl:=osj h
   exact ax ⟨.inl rfl,[Pr.is v7,(ai).val x4],⟨yT aa,yBox 0 ty28 aa,trivial⟩,_,Pick.of [2] rfl,v7,rfl,rfl⟩
  refine i3 2 hmx (by kernel_rfl) (by kernel_rfl) ?_
  refine lUn (bc 1 ty28 (Sub.refl _)) ?_
  refine lUn (hAsA rfl) (ak 0 rfl rfl (Upd.refl _) rfl Tryz.sizeOf28 ?_)
  exact⟨h,atOk⟩
 refine ar (W_rs (kAs rfl (W_rs (kAs rfl (a7 (W_rs (kAs rfl (a5 ?_))))))))
 obtain⟨z3l,hz3,h⟩:=af h
 obtain⟨n3,hN3⟩:=bq hz3
 refine eb 0 (fun e C=>∃(x9:Int),∃(x11:List ApiSegment),∃(v8:Value),ref28_Split_k2 x1 x9 x11=some r/\At [(0,a6 x1),(3,aj b2 0),(6,Pr.is v8),(7,Pr.i64 x9)] [Own.box b2 ai (ApiMistake.mk 0 0 0),Own.box b5 ai x4,Own.vec v8 ay x11 25] e C) ?_ ?_
 ·rintro e C ⟨x9,x11,v8,h,hat2⟩
  refine W_at hat2 ?_
  unfold ref28_Split_k2 at h
  refine W_rs (kMv rfl (kMv rfl (kMv rfl ?_)))
  obtain⟨x49,hx49,h⟩:=af h
  refine kUn (qSubL Tryz.underlying9 hx49) ?_
  refine kUn (k5 st25 ⟨(ApiSegment.mk ([36]:List UInt8) []),⟨_,rfl,rfl,fun j fd hj hf=>by match j,hj with| 0,h=>exact absurd rfl h| 1,_=>cases hf;rfl|_+2,_=>cases hf⟩,⟨(ApiSegment.mk ([36]:List UInt8) x49),⟨_,rfl,rfl,fun j fd hj hf=>by match j,hj with| 0,_=>cases hf;rfl| 1,h=>exact absurd rfl h|_+2,_=>cases hf⟩,rfl⟩⟩) ?_
  refine kUn (br (R:=ay) (a:=(ApiSegment.mk ([36]:List UInt8) x49)) el22 (Nat.le_of_ble_eq_true rfl)) ?_
  obtain⟨x50,hx50,h⟩:=af h
  refine fj 2 el22 hx50 (fun v51=> ?_)
  refine kUn (k5 st28 rfl) ?_
  refine kAs rfl (ak 0 rfl rfl (Upd.refl _) rfl Tryz.sizeOf28 ?_)
  obtain rfl:=osj h
  exact ax ⟨.inl rfl,[Pr.is v51,(ai).val (ApiMistake.mk 0 0 0)],⟨yT aa,yBox 0 ty28 aa,trivial⟩,_,Pick.of [2] rfl,v51,rfl,rfl⟩
 refine W_nil [6] ay 25 (fun v52=> ?_) ⟨rfl,trivial⟩
 refine fb (fun m e C=>∃(x9:Int),∃(x10:Int),∃(x11:List ApiSegment),∃(v8:Value),fg (fun s=>ln x3 x1 s.1 s.2.1 s.2.2) m (x9,x10,x11)=some z3l/\At [(0,a6 x1),(3,aj b2 0),(4,aq rApiNode x3),(6,Pr.is v8),(7,Pr.i64 x9),(8,Pr.i64 x10)] [Own.box b2 ai (ApiMistake.mk 0 0 0),Own.box b5 ai x4,Own.vec v8 ay x11 25] e C) n3 ⟨0,0,[],v52,hN3,⟨⟨aa,aa,aa,aa,aa,aa,trivial⟩,Pick.refl _⟩⟩ ?_
 rintro m e C ⟨x9,x10,x11,v8,hN3,hatl3⟩
 refine W_at hatl3 ?_
 obtain⟨m3,w3l,rfl,h3l,hn3,ho3⟩:=bj hN3
 replace h3l:ln x3 x1 x9 x10 x11=some w3l:=h3l
 unfold ln at h3l
 refine a7 (W_rs (kMv rfl (kMvL rfl (kUn (l8 rfl Tryz.underlying44) ?_))))
 refine kIn rfl rfl rfl ?_
 refine a8 h3l rfl (fun _ h3l=> ?_) (fun _ h3l=> ?_)
 ·refine ar (a7 (a5 (W_rs (kMv rfl (kMvL rfl (kMv rfl ?_))))))
  obtain⟨x17,hx17,h3l⟩:=af h3l
  refine kUn (fi Tryz.underlying44 Tryz.sizeOf48 hx17) ?_
  refine kUn (dc fld48_4 subApiNode_From) ?_
  refine kUn (cw ty3) ?_
  refine cg h3l (ref28_open_ok x1 x17.From) rfl fun x18 _ h3l=>kAs rfl ?_
  refine bi (fun e C=>∃(x22:List ApiSegment),∃(v23:Value),ref28_Split_j8 x3 x10 x1 x18 x22=some w3l/\At [(0,a6 x1),(3,aj b2 0),(4,aq rApiNode x3),(6,Pr.is v23),(8,Pr.i64 x10),(9,Pr.i64 x18)] [Own.box b2 ai (ApiMistake.mk 0 0 0),Own.box b5 ai x4,Own.vec v23 ay x22 25] e C) ?_ ?_
  ·rintro e C ⟨x22,v23,h3l,hat8⟩
   refine W_at hat8 ?_
   unfold ref28_Split_j8 at h3l
   refine W_rs (kMv rfl (kAs rfl (a7 (W_rs (kAs rfl (a5 ?_))))))
   obtain⟨z6l,hz6,h3l⟩:=af h3l
   obtain⟨n6,hN6⟩:=bq hz6
   refine eb 2 (fun e C=>∃(x25:Int),∃(x27:List ApiSegment),∃(v24:Value),ref28_Split_k5 x3 x10 x1 x25 x27=some w3l/\At [(0,a6 x1),(3,aj b2 0),(4,aq rApiNode x3),(6,Pr.is v24),(7,Pr.i64 x25),(8,Pr.i64 x10)] [Own.box b2 ai (ApiMistake.mk 0 0 0),Own.box b5 ai x4,Own.vec v24 ay x27 25] e C) ?_ ?_
   ·rintro e C ⟨x25,x27,v24,h3l,hat5⟩
    refine W_at hat5 ?_
    unfold ref28_Split_k5 at h3l
    refine bi (fun e C=>∃(x46:List ApiSegment),∃(v47:Value),ref28_Split_j4 x3 x10 x46=some w3l/\At [(0,a6 x1),(3,aj b2 0),(4,aq rApiNode x3),(6,Pr.is v47),(8,Pr.i64 x10)] [Own.box b2 ai (ApiMistake.mk 0 0 0),Own.box b5 ai x4,Own.vec v47 ay x46 25] e C) ?_ ?_
    ·rintro e C ⟨x46,v47,h3l,hat4⟩
     refine W_at hat4 ?_
     unfold ref28_Split_j4 at h3l
     refine W_r (kMvL rfl (kMv rfl ?_))
     obtain⟨x48,hx48,h3l⟩:=af h3l
     refine kUn (fi Tryz.underlying44 Tryz.sizeOf48 hx48) ?_
     refine kUn (dc fld48_5 pd) ?_
     refine kUn (cw ty3) ?_
     refine kAs rfl (W_r (kMv rfl (kIn rfl rfl rfl (kAs rfl ?_))))
     exact⟨m3,Nat.lt_succ_self _,x48.To,w64 (x10+1),x46,v47,hn3 _ (Option.some.inj h3l).symm,atOk⟩
    refine i3 17 hmx (by kernel_rfl) (by kernel_rfl) ?_
    refine lUn (hMvA rfl) (lUn (hMvL rfl) (lUn (hMvA rfl) ?_))
    obtain⟨x42,hx42,h3l⟩:=af h3l
    refine lUn (fi Tryz.underlying44 Tryz.sizeOf48 hx42) ?_
    refine lUn (dc oc ia) ?_
    refine lUn (cw ty9) ?_
    obtain⟨x43,hx43,h3l⟩:=af h3l
    refine lUn (qCat' hx43) ?_
    refine lUn (hMvA rfl) (lUn (hMvA rfl) (lUn (hMvL rfl) (lUn (hMvA rfl) ?_)))
    obtain⟨x44,hx44,h3l⟩:=af h3l
    refine lUn (fi Tryz.underlying44 Tryz.sizeOf48 hx44) ?_
    refine lUn (dc fld48_5 pd) ?_
    refine lUn (cw ty3) ?_
    obtain⟨x45,hx45,h3l⟩:=af h3l
    refine lUn (qSubLH Tryz.underlying9 hx45) ?_
    refine lUn (k5 st25 ⟨(ApiSegment.mk x43 []),⟨_,rfl,rfl,fun j fd hj hf=>by match j,hj with| 0,h=>exact absurd rfl h| 1,_=>cases hf;rfl|_+2,_=>cases hf⟩,⟨(ApiSegment.mk x43 x45),⟨_,rfl,rfl,fun j fd hj hf=>by match j,hj with| 0,_=>cases hf;rfl| 1,h=>exact absurd rfl h|_+2,_=>cases hf⟩,rfl⟩⟩) ?_
    refine lUn (br (R:=ay) (a:=(ApiSegment.mk x43 x45)) el22 (Nat.le_of_ble_eq_true rfl)) ?_
    obtain⟨x46,hx46,h3l⟩:=af h3l
    refine fj 2 el22 hx46 (fun v47=> ?_)
    refine kAs rfl ?_
    exact⟨x46,v47,h3l,atOk⟩
   refine fb (fun m e C=>∃(x25:Int),∃(x26:Int),∃(x27:List ApiSegment),∃(v24:Value),fg (fun s=>nu x3 x10 x1 s.1 s.2.1 s.2.2) m (x25,x26,x27)=some z6l/\At [(0,a6 x1),(3,aj b2 0),(4,aq rApiNode x3),(6,Pr.is v24),(7,Pr.i64 x25),(8,Pr.i64 x10),(10,Pr.i64 x26)] [Own.box b2 ai (ApiMistake.mk 0 0 0),Own.box b5 ai x4,Own.vec v24 ay x27 25] e C) n6 ⟨x18,0,x22,v23,hN6,⟨⟨aa,aa,aa,aa,aa,aa,aa,trivial⟩,Pick.refl _⟩⟩ ?_
   rintro m e C ⟨x25,x26,x27,v24,hN6,hatl6⟩
   refine W_at hatl6 ?_
   obtain⟨m6,w6l,rfl,h6l,hn6,ho6⟩:=bj hN6
   replace h6l:nu x3 x10 x1 x25 x26 x27=some w6l:=h6l
   unfold nu at h6l
   refine a7 (W_rs (kMv rfl (kMvL rfl (kMv rfl ?_))))
   obtain⟨x32,hx32,h6l⟩:=af h6l
   refine kUn (fi Tryz.underlying44 Tryz.sizeOf48 hx32) ?_
   refine kUn (dc fld48_8 ma) ?_
   refine kUn (cw ty44) ?_
   refine kUn (l8 rfl Tryz.underlying44) ?_
   refine kIn rfl rfl rfl ?_
   refine a8 h6l rfl (fun _ h6l=> ?_) (fun _ h6l=> ?_)
   ·refine ar (a7 (a5 (W_rs (kMvL rfl (kMv rfl ?_)))))
    obtain⟨x34,hx34,h6l⟩:=af h6l
    refine kUn (fi Tryz.underlying44 Tryz.sizeOf48 hx34) ?_
    refine kUn (dc fld48_8 ma) ?_
    refine kUn (cw ty44) ?_
    refine kMv rfl ?_
    obtain⟨x35,hx35,h6l⟩:=af h6l
    refine kUn (fi Tryz.underlying44 Tryz.sizeOf48 hx35) ?_
    refine kUn (cw ty48) ?_
    refine ba al48 fun b36=>ak 3 rfl rfl (Upd.refl _) rfl Tryz.sizeOf48 ?_
    refine bi (fun e C=>∃(x40:List ApiSegment),∃(v41:Value),ref28_Split_j7 x35 x26 x40=some w6l/\At [(0,a6 x1),(3,aj b2 0),(4,aq rApiNode x3),(6,Pr.is v41),(8,Pr.i64 x10),(10,Pr.i64 x26),(11,aj b36 0)] [Own.box b2 ai (ApiMistake.mk 0 0 0),Own.box b5 ai x4,Own.vec v41 ay x40 25,Own.box b36 rApiNode x35] e C) ?_ ?_
    ·rintro e C ⟨x40,v41,h6l,hat7⟩
     refine W_at hat7 ?_
     unfold ref28_Split_j7 at h6l
     refine W_r (kUn (aw fld48_5) ?_)
     refine kUn (bc 3 ty3 pd) ?_
     refine kAs rfl (W_r (kMv rfl (kIn rfl rfl rfl (kAs rfl ?_))))
     exact⟨m6,Nat.lt_succ_self _,x35.To,w64 (x26+1),x40,v41,hn6 _ (Option.some.inj h6l).symm,⟨⟨aa,aa,aa,aa,aa,aa,aa,trivial⟩,Pick.of [0,1,2] rfl⟩⟩
    refine i3 15 hmx (by kernel_rfl) (by kernel_rfl) ?_
    refine lUn (hMvA rfl) (lUn (hMvL rfl) (lUn (hMvA rfl) ?_))
    obtain⟨x37,hx37,h6l⟩:=af h6l
    refine lUn (fi Tryz.underlying44 Tryz.sizeOf48 hx37) ?_
    refine lUn (dc oc ia) ?_
    refine lUn (cw ty9) ?_
    refine lUn (bc 3 ty48 (Sub.refl _)) ?_
    obtain⟨x38,hx38,h6l⟩:=af h6l
    refine lUn (dj (ref28_id_ok x37.Text x35 _ hx38)) ?_
    refine lUn (hMvA rfl) (lUn (hMvA rfl) (lUn (aw fld48_5) ?_))
    refine lUn (bc 3 ty3 pd) ?_
    obtain⟨x39,hx39,h6l⟩:=af h6l
    refine lUn (qSubLH Tryz.underlying9 hx39) ?_
    refine lUn (k5 st25 ⟨(ApiSegment.mk x38 []),⟨_,rfl,rfl,fun j fd hj hf=>by match j,hj with| 0,h=>exact absurd rfl h| 1,_=>cases hf;rfl|_+2,_=>cases hf⟩,⟨(ApiSegment.mk x38 x39),⟨_,rfl,rfl,fun j fd hj hf=>by match j,hj with| 0,_=>cases hf;rfl| 1,h=>exact absurd rfl h|_+2,_=>cases hf⟩,rfl⟩⟩) ?_
    refine lUn (br (R:=ay) (a:=(ApiSegment.mk x38 x39)) el22 (Nat.le_of_ble_eq_true rfl)) ?_
    obtain⟨x40,hx40,h6l⟩:=af h6l
    refine fj 2 el22 hx40 (fun v41=> ?_)
    refine kAs rfl ?_
    exact⟨x40,v41,h6l,atOk⟩
   refine ek ?_
   obtain rfl:=ho6 _ (Option.some.inj h6l).symm
   exact⟨x25,x27,v24,h3l,atOk⟩
  refine i3 13 hmx (by kernel_rfl) (by kernel_rfl) ?_
  refine lUn (hMvA rfl) (lUn (hMvL rfl) (lUn (hMvA rfl) ?_))
  obtain⟨x19,hx19,h3l⟩:=af h3l
  refine lUn (fi Tryz.underlying44 Tryz.sizeOf48 hx19) ?_
  refine lUn (dc oc ia) ?_
  refine lUn (cw ty9) ?_
  obtain⟨x20,hx20,h3l⟩:=af h3l
  refine lUn (qCat' hx20) ?_
  refine lUn (hMvA rfl) (lUn (hMvA rfl) (lUn (hMvA rfl) ?_))
  obtain⟨x21,hx21,h3l⟩:=af h3l
  refine lUn (qSubLH Tryz.underlying9 hx21) ?_
  refine lUn (k5 st25 ⟨(ApiSegment.mk x20 []),⟨_,rfl,rfl,fun j fd hj hf=>by match j,hj with| 0,h=>exact absurd rfl h| 1,_=>cases hf;rfl|_+2,_=>cases hf⟩,⟨(ApiSegment.mk x20 x21),⟨_,rfl,rfl,fun j fd hj hf=>by match j,hj with| 0,_=>cases hf;rfl| 1,h=>exact absurd rfl h|_+2,_=>cases hf⟩,rfl⟩⟩) ?_
  refine lUn (br (R:=ay) (a:=(ApiSegment.mk x20 x21)) el22 (Nat.le_of_ble_eq_true rfl)) ?_
  obtain⟨x22,hx22,h3l⟩:=af h3l
  refine fj 2 el22 hx22 (fun v23=> ?_)
  refine kAs rfl ?_
  exact⟨x22,v23,h3l,atOk⟩
 refine ek ?_
 obtain rfl:=ho3 _ (Option.some.inj h3l).symm
 exact⟨x9,x11,v8,h,atOk⟩
theorem ref28_Get_ok (x1:List ApiSegment) (x2:List UInt8) (r:(List UInt8) × Bool) (h:ref28_Get x1 x2=some r):FnP Tryz.prog 10 [aq ay x1,a6 x2] (cd [a6 r.1,Pr.bool r.2]):=by
 refine cm (rs:=[4,5]) Tryz.func10 rfl Tryz.ntmps10 ⟨by decide,Tryz.results10⟩ (by decide) (fun s0=> ?_)
 unfold ref28_Get at h
 refine W_rs (kAs rfl (kAs rfl (a7 (W_rs (kAs rfl (a5 ?_))))))
 obtain⟨z2l,hz2,h⟩:=af h
 obtain⟨n2,hN2⟩:=bq hz2
 refine eb 0 (fun e C=>ref28_Get_k1=some r/\At [] [] e C) ?_ ?_
 ·rintro e C ⟨h,hat1⟩
  refine W_at hat1 ?_
  unfold ref28_Get_k1 at h
  refine W_rs (kAs rfl (kAs rfl ?_))
  obtain rfl:=osj h
  exact ax ⟨rfl,aa⟩
 refine fb (fun m e C=>∃(x3:Int),fg (fun s=>q5 x1 x2 s) m x3=some z2l/\At [(0,aq ay x1),(1,a6 x2),(6,Pr.i64 x3)] [] e C) n2 ⟨0,hN2,⟨⟨aa,aa,aa,trivial⟩,Pick.refl _⟩⟩ ?_
 rintro m e C ⟨x3,hN2,hatl2⟩
 refine W_at hatl2 ?_
 obtain⟨m2,w2l,rfl,h2l,hn2,ho2⟩:=bj hN2
 replace h2l:q5 x1 x2 x3=some w2l:=h2l
 unfold q5 at h2l
 refine a7 (W_rs (kMv rfl (kMvL rfl (kUn (l8 rfl Tryz.underlying22) ?_))))
 refine kIn rfl rfl rfl ?_
 refine a8 h2l rfl (fun _ h2l=> ?_) (fun _ h2l=> ?_)
 ·refine ar (a7 (a5 (W_rs (kMvL rfl (kMv rfl ?_)))))
  obtain⟨x6,hx6,h2l⟩:=af h2l
  refine kUn (fi Tryz.underlying22 Tryz.sizeOf25 hx6) ?_
  refine kUn (dc fld25_0 il) ?_
  refine kUn (cw ty9) ?_
  refine kMv rfl (kSt rfl rfl rfl ?_)
  refine a8 h2l rfl (fun _ h2l=> ?_) (fun _ h2l=> ?_)
  ·refine W_rs (kMvL rfl (kMv rfl ?_))
   obtain⟨x8,hx8,h2l⟩:=af h2l
   refine kUn (fi Tryz.underlying22 Tryz.sizeOf25 hx8) ?_
   refine kUn (dc fld25_1 jx) ?_
   refine kUn (cw ty9) ?_
   refine kAs rfl (kAs rfl ?_)
   obtain rfl:=ho2 _ (Option.some.inj h2l).symm
   replace h:some (x8.Text,true)=some r:=h
   obtain rfl:=osj h
   exact ax ⟨rfl,aa⟩
  refine ar (W_r (kMv rfl (kIn rfl rfl rfl (kAs rfl ?_))))
  exact⟨m2,Nat.lt_succ_self _,w64 (x3+1),hn2 _ (Option.some.inj h2l).symm,atOk⟩
 refine ek ?_
 obtain rfl:=ho2 _ (Option.some.inj h2l).symm
 exact⟨h,atOk⟩
theorem ref28_Same_ok (x1 x2:List ApiSegment) (r:Bool) (h:ref28_Same x1 x2=some r):FnP Tryz.prog 11 [aq ay x1,aq ay x2] (Pr.bool r):=by
 refine cm (rs:=[4]) Tryz.func11 rfl Tryz.ntmps11 ⟨by decide,Tryz.results11⟩ (by decide) (fun s0=> ?_)
 unfold ref28_Same at h
 refine W_rs (kAs rfl (a7 (W_rs (kMvL rfl (kUn (l8 rfl Tryz.underlying22) ?_)))))
 refine kMvL rfl (kUn (l8 rfl Tryz.underlying22) ?_)
 refine kIn rfl rfl rfl ?_
 refine a8 h rfl (fun _ h=> ?_) (fun _ h=> ?_)
 ·refine W_rs (kAs rfl ?_)
  obtain rfl:=osj h
  exact ax ⟨rfl,aa⟩
 refine ar (a7 (W_rs (kAs rfl (a5 ?_))))
 obtain⟨z2l,hz2,h⟩:=af h
 obtain⟨n2,hN2⟩:=bq hz2
 refine eb 0 (fun e C=>ref28_Same_k1=some r/\At [] [] e C) ?_ ?_
 ·rintro e C ⟨h,hat1⟩
  refine W_at hat1 ?_
  unfold ref28_Same_k1 at h
  refine W_rs (kAs rfl ?_)
  obtain rfl:=osj h
  exact ax ⟨rfl,aa⟩
 refine fb (fun m e C=>∃(x4:Int),fg (fun s=>pg x1 x2 s) m x4=some z2l/\At [(0,aq ay x1),(1,aq ay x2),(5,Pr.i64 x4)] [] e C) n2 ⟨0,hN2,⟨⟨aa,aa,aa,trivial⟩,Pick.refl _⟩⟩ ?_
 rintro m e C ⟨x4,hN2,hatl2⟩
 refine W_at hatl2 ?_
 obtain⟨m2,w2l,rfl,h2l,hn2,ho2⟩:=bj hN2
 replace h2l:pg x1 x2 x4=some w2l:=h2l
 unfold pg at h2l
 refine a7 (W_rs (kMv rfl (kMvL rfl (kUn (l8 rfl Tryz.underlying22) ?_))))
 refine kIn rfl rfl rfl ?_
 refine a8 h2l rfl (fun _ h2l=> ?_) (fun _ h2l=> ?_)
 ·refine ar (a7 (a5 ?_))
  refine bi (fun e C=>∃(x7:ApiSegment),∃(x8:ApiSegment),ref28_Same_j3 x4 x7 x8=some w2l/\At [(0,aq ay x1),(1,aq ay x2),(5,Pr.i64 x4),(25,Pr.bool (!decide (x7=x8)))] [] e C) ?_ ?_
  ·rintro e C ⟨x7,x8,h2l,hat3⟩
   refine W_at hat3 ?_
   unfold ref28_Same_j3 at h2l
   refine a8 h2l rfl (fun _ h2l=> ?_) (fun _ h2l=> ?_)
   ·refine W_rs (kAs rfl ?_)
    obtain rfl:=ho2 _ (Option.some.inj h2l).symm
    replace h:some false=some r:=h
    obtain rfl:=osj h
    exact ax ⟨rfl,aa⟩
   refine ar (W_r (kMv rfl (kIn rfl rfl rfl (kAs rfl ?_))))
   exact⟨m2,Nat.lt_succ_self _,w64 (x4+1),hn2 _ (Option.some.inj h2l).symm,atOk⟩
  refine i3 9 hmx (by kernel_rfl) (by kernel_rfl) ?_
  refine lUn (hMvL rfl) (lUn (hMvA rfl) ?_)
  obtain⟨x7,hx7,h2l⟩:=af h2l
  refine lUn (fi Tryz.underlying22 Tryz.sizeOf25 hx7) ?_
  refine lUn (cw ty25) ?_
  refine lUn (hMvL rfl) (lUn (hMvA rfl) ?_)
  obtain⟨x8,hx8,h2l⟩:=af h2l
  refine lUn (fi Tryz.underlying22 Tryz.sizeOf25 hx8) ?_
  refine lUn (cw ty25) ?_
  refine lUn (qStNe (a:=x7) (b:=x8) eqApiSegment (by decide) rfl eqgApiSegment) ?_
  exact⟨x7,x8,h2l,atOk⟩
 refine ek ?_
 obtain rfl:=ho2 _ (Option.some.inj h2l).symm
 exact⟨h,atOk⟩
theorem ref28_Join_ok (x1:List ApiSegment) (r:(List UInt8)) (h:ref28_Join x1=some r):FnP Tryz.prog 13 [aq ay x1] (a6 r):=by
 refine cm (rs:=[2]) Tryz.func13 rfl Tryz.ntmps13 ⟨by decide,Tryz.results13⟩ (by decide) (fun s0=> ?_)
 unfold ref28_Join at h
 refine W_rs (kAs rfl (W_rs (kAs rfl (a7 (W_rs (kAs rfl (a5 ?_)))))))
 obtain⟨z2l,hz2,h⟩:=af h
 obtain⟨n2,hN2⟩:=bq hz2
 refine eb 0 (fun e C=>∃(x2:List UInt8),ref28_Join_k1 x2=some r/\At [(3,a6 x2)] [] e C) ?_ ?_
 ·rintro e C ⟨x2,h,hat1⟩
  refine W_at hat1 ?_
  unfold ref28_Join_k1 at h
  refine W_rs (kMv rfl (kAs rfl ?_))
  obtain rfl:=osj h
  exact ax ⟨rfl,aa⟩
 refine fb (fun m e C=>∃(x2:List UInt8),∃(x3:Int),fg (fun s=>pj x1 s.1 s.2) m (x2,x3)=some z2l/\At [(0,aq ay x1),(3,a6 x2),(4,Pr.i64 x3)] [] e C) n2 ⟨[],0,hN2,⟨⟨aa,aa,aa,trivial⟩,Pick.refl _⟩⟩ ?_
 rintro m e C ⟨x2,x3,hN2,hatl2⟩
 refine W_at hatl2 ?_
 obtain⟨m2,w2l,rfl,h2l,hn2,ho2⟩:=bj hN2
 replace h2l:pj x1 x2 x3=some w2l:=h2l
 unfold pj at h2l
 refine a7 (W_rs (kMv rfl (kMvL rfl (kUn (l8 rfl Tryz.underlying22) ?_))))
 refine kIn rfl rfl rfl ?_
 refine a8 h2l rfl (fun _ h2l=> ?_) (fun _ h2l=> ?_)
 ·refine ar (a7 (a5 (W_r (kMv rfl (kMvL rfl (kMv rfl ?_))))))
  obtain⟨x7,hx7,h2l⟩:=af h2l
  refine kUn (fi Tryz.underlying22 Tryz.sizeOf25 hx7) ?_
  refine kUn (dc fld25_1 jx) ?_
  refine kUn (cw ty9) ?_
  obtain⟨x8,hx8,h2l⟩:=af h2l
  refine kUn (qCat' hx8) ?_
  refine kAs rfl (W_r (kMv rfl (kIn rfl rfl rfl (kAs rfl ?_))))
  exact⟨m2,Nat.lt_succ_self _,x8,w64 (x3+1),hn2 _ (Option.some.inj h2l).symm,atOk⟩
 refine ek ?_
 obtain rfl:=ho2 _ (Option.some.inj h2l).symm
 exact⟨x2,h,atOk⟩
theorem ref01_Same_ok (x1 x2:List (List UInt8)) (r:Bool) (h:ref01_Same x1 x2=some r):FnP Tryz.prog 14 [aq ce x1,aq ce x2] (Pr.bool r):=by
 refine cm (rs:=[4]) Tryz.func14 rfl Tryz.ntmps14 ⟨by decide,Tryz.results14⟩ (by decide) (fun s0=> ?_)
 unfold ref01_Same at h
 refine W_rs (kAs rfl (a7 (W_rs (kMvL rfl (kUn (l8 rfl Tryz.underlying36) ?_)))))
 refine kMvL rfl (kUn (l8 rfl Tryz.underlying36) ?_)
 refine kIn rfl rfl rfl ?_
 refine a8 h rfl (fun _ h=> ?_) (fun _ h=> ?_)
 ·refine W_rs (kAs rfl ?_)
  obtain rfl:=osj h
  exact ax ⟨rfl,aa⟩
 refine ar (a7 (W_rs (kAs rfl (a5 ?_))))
 obtain⟨z2l,hz2,h⟩:=af h
 obtain⟨n2,hN2⟩:=bq hz2
 refine eb 0 (fun e C=>ref01_Same_k1=some r/\At [] [] e C) ?_ ?_
 ·rintro e C ⟨h,hat1⟩
  refine W_at hat1 ?_
  unfold ref01_Same_k1 at h
  refine W_rs (kAs rfl ?_)
  obtain rfl:=osj h
  exact ax ⟨rfl,aa⟩
 refine fb (fun m e C=>∃(x4:Int),fg (fun s=>pm x1 x2 s) m x4=some z2l/\At [(0,aq ce x1),(1,aq ce x2),(5,Pr.i64 x4)] [] e C) n2 ⟨0,hN2,⟨⟨aa,aa,aa,trivial⟩,Pick.refl _⟩⟩ ?_
 rintro m e C ⟨x4,hN2,hatl2⟩
 refine W_at hatl2 ?_
 obtain⟨m2,w2l,rfl,h2l,hn2,ho2⟩:=bj hN2
 replace h2l:pm x1 x2 x4=some w2l:=h2l
 unfold pm at h2l
 refine a7 (W_rs (kMv rfl (kMvL rfl (kUn (l8 rfl Tryz.underlying36) ?_))))
 refine kIn rfl rfl rfl ?_
 refine a8 h2l rfl (fun _ h2l=> ?_) (fun _ h2l=> ?_)
 ·refine ar (a7 (a5 ?_))
  refine bi (fun e C=>∃(x7:List UInt8),∃(x8:List UInt8),ref01_Same_j3 x4 x7 x8=some w2l/\At [(0,aq ce x1),(1,aq ce x2),(5,Pr.i64 x4),(25,Pr.bool (!(x7==x8)))] [] e C) ?_ ?_
  ·rintro e C ⟨x7,x8,h2l,hat3⟩
   refine W_at hat3 ?_
   unfold ref01_Same_j3 at h2l
   refine a8 h2l rfl (fun _ h2l=> ?_) (fun _ h2l=> ?_)
   ·refine W_rs (kAs rfl ?_)
    obtain rfl:=ho2 _ (Option.some.inj h2l).symm
    replace h:some false=some r:=h
    obtain rfl:=osj h
    exact ax ⟨rfl,aa⟩
   refine ar (W_r (kMv rfl (kIn rfl rfl rfl (kAs rfl ?_))))
   exact⟨m2,Nat.lt_succ_self _,w64 (x4+1),hn2 _ (Option.some.inj h2l).symm,atOk⟩
  refine i3 9 hmx (by kernel_rfl) (by kernel_rfl) ?_
  refine lUn (hMvL rfl) (lUn (hMvA rfl) ?_)
  obtain⟨x7,hx7,h2l⟩:=af h2l
  refine lUn (fi Tryz.underlying36 Tryz.sizeOf9 hx7) ?_
  refine lUn (cw ty9) ?_
  refine lUn (hMvL rfl) (lUn (hMvA rfl) ?_)
  obtain⟨x8,hx8,h2l⟩:=af h2l
  refine lUn (fi Tryz.underlying36 Tryz.sizeOf9 hx8) ?_
  refine lUn (cw ty9) ?_
  refine lUn (qStr rfl rfl rfl) ?_
  exact⟨x7,x8,h2l,atOk⟩
 refine ek ?_
 obtain rfl:=ho2 _ (Option.some.inj h2l).symm
 exact⟨h,atOk⟩
theorem ref28_Keys_ok (x1:List ApiSegment) (r:(List (List UInt8))) (h:ref28_Keys x1=some r):FnP Tryz.prog 16 [aq ay x1] (aq ce r):=by
 refine cm (rs:=[2]) Tryz.func16 rfl Tryz.ntmps16 ⟨by decide,Tryz.results16⟩ (by decide) (fun s0=> ?_)
 unfold ref28_Keys at h
 refine W_rs (kAs rfl (W_rs (kAs rfl (a7 (W_rs (kAs rfl (a5 ?_)))))))
 obtain⟨z2l,hz2,h⟩:=af h
 obtain⟨n2,hN2⟩:=bq hz2
 refine eb 0 (fun e C=>∃(x4:List (List UInt8)),∃(v2:Value),ref28_Keys_k1 x4=some r/\At [(3,Pr.is v2)] [Own.vec v2 ce x4 9] e C) ?_ ?_
 ·rintro e C ⟨x4,v2,h,hat1⟩
  refine W_at hat1 ?_
  unfold ref28_Keys_k1 at h
  refine W_rs (kMv rfl (kAs rfl ?_))
  refine W_rel 0 [2] ?_ rfl ⟨rfl,trivial⟩
  obtain rfl:=osj h
  exact ax ⟨rfl,aa⟩
 refine W_nil [3] ce 9 (fun v12=> ?_) ⟨rfl,trivial⟩
 refine fb (fun m e C=>∃(x3:Int),∃(x4:List (List UInt8)),∃(v2:Value),fg (fun s=>ph x1 s.1 s.2) m (x3,x4)=some z2l/\At [(0,aq ay x1),(3,Pr.is v2),(4,Pr.i64 x3)] [Own.vec v2 ce x4 9] e C) n2 ⟨0,[],v12,hN2,⟨⟨aa,aa,aa,trivial⟩,Pick.refl _⟩⟩ ?_
 rintro m e C ⟨x3,x4,v2,hN2,hatl2⟩
 refine W_at hatl2 ?_
 obtain⟨m2,w2l,rfl,h2l,hn2,ho2⟩:=bj hN2
 replace h2l:ph x1 x3 x4=some w2l:=h2l
 unfold ph at h2l
 refine a7 (W_rs (kMv rfl (kMvL rfl (kUn (l8 rfl Tryz.underlying22) ?_))))
 refine kIn rfl rfl rfl ?_
 refine a8 h2l rfl (fun _ h2l=> ?_) (fun _ h2l=> ?_)
 ·refine ar (a7 (a5 (W_r (kMv rfl (kMvL rfl (kMv rfl ?_))))))
  obtain⟨x9,hx9,h2l⟩:=af h2l
  refine kUn (fi Tryz.underlying22 Tryz.sizeOf25 hx9) ?_
  refine kUn (dc fld25_0 il) ?_
  refine kUn (cw ty9) ?_
  refine kUn (br (R:=ce) (a:=x9.Key) el36 (Nat.le_of_ble_eq_true rfl)) ?_
  obtain⟨x10,hx10,h2l⟩:=af h2l
  refine fj 0 el36 hx10 (fun v11=> ?_)
  refine kAs rfl (W_r (kMv rfl (kIn rfl rfl rfl (kAs rfl ?_))))
  exact⟨m2,Nat.lt_succ_self _,w64 (x3+1),x10,v11,hn2 _ (Option.some.inj h2l).symm,atOk⟩
 refine ek ?_
 obtain rfl:=ho2 _ (Option.some.inj h2l).symm
 exact⟨x4,v2,h,atOk⟩
theorem ref28_Body_ok (x1:List UInt8) (r:Bool) (h:ref28_Body x1=some r):FnP Tryz.prog 18 [a6 x1] (Pr.bool r):=by
 refine cm (rs:=[2]) Tryz.func18 rfl Tryz.ntmps18 ⟨by decide,Tryz.results18⟩ (by decide) (fun s0=> ?_)
 unfold ref28_Body at h
 refine W_rs (kAs rfl ?_)
 refine bi (fun e C=>∃(x4:Bool),ref28_Body_j1 x4=some r/\At [(2,Pr.bool x4)] [] e C) ?_ ?_
 ·rintro e C ⟨x4,h,hat1⟩
  refine W_at hat1 ?_
  unfold ref28_Body_j1 at h
  obtain rfl:=osj h
  exact ax ⟨rfl,aa⟩
 refine W_r (kMv rfl (kUn (oj rfl Tryz.underlying9) ?_))
 refine kIn rfl rfl rfl (kMv rfl ?_)
 rcases bw h with⟨hc2,h⟩|⟨hc2,h⟩
 ·refine kGd rfl aa hc2 (hMvA rfl) (kGd rfl aa hc2 (hMvA rfl) (kGd rfl aa hc2 (oj rfl Tryz.underlying9) ?_))
  refine kGd rfl aa hc2 (qInt rfl rfl rfl) ?_
  obtain⟨x3,hx3,h⟩:=af h
  refine kGd rfl aa hc2 (qSubL Tryz.underlying9 hx3) ?_
  refine kGd rfl aa hc2 (qStr rfl rfl rfl) (kPt rfl hc2 rfl (kAs rfl ?_))
  exact⟨x3==([40,41]:List UInt8),h,atOk⟩
 refine kSkT rfl aa hc2 (kSkT rfl aa hc2 (kSkT rfl aa hc2 (kSkT rfl aa hc2 (kSkT rfl aa hc2 (kSkT rfl aa hc2 (kPf rfl hc2 rfl (kAs rfl ?_)))))))
 exact⟨false,h,atOk⟩
theorem law28_SegmentSplits_ok (x1:List UInt8) (x2:List ApiSegment) (x3:List UInt8) (r:Bool) (h:nc x1 x2 x3=some r):FnP Tryz.prog 3 [a6 x1,aq ay x2,a6 x3] (Pr.bool r):=by
 refine cm (rs:=[6]) Tryz.func3 rfl Tryz.ntmps3 ⟨by decide,Tryz.results3⟩ (by decide) (fun s0=> ?_)
 unfold nc at h
 refine W_rs (kAs rfl (W_rs (cg h (law28_awake_ok) rfl fun x4 _ h=>kAs rfl (a7 (W_rs (kMv rfl (kNo rfl ?_)))))))
 refine a8 h rfl (fun _ h=> ?_) (fun _ h=> ?_)
 ·refine W_rs (kAs rfl ?_)
  obtain rfl:=osj h
  exact ax ⟨rfl,aa⟩
 refine ar (a7 ?_)
 refine bi (fun e C=>∃(x9:Bool),f5 x2 x1 x3 x9=some r/\At [(0,a6 x1),(1,aq ay x2),(2,a6 x3),(32,Pr.bool x9)] [] e C) ?_ ?_
 ·rintro e C ⟨x9,h,hat5⟩
  refine W_at hat5 ?_
  unfold f5 at h
  refine a8 h rfl (fun _ h=> ?_) (fun _ h=> ?_)
  ·refine W_rs (kAs rfl ?_)
   obtain rfl:=osj h
   exact ax ⟨rfl,aa⟩
  refine ar (a7 (W_rs (kAs rfl (a5 ?_))))
  obtain⟨z3l,hz3,h⟩:=af h
  obtain⟨n3,hN3⟩:=bq hz3
  refine eb 0 (fun e C=>kz x1 x2 x3=some r/\At [(0,a6 x1),(1,aq ay x2),(2,a6 x3)] [] e C) ?_ ?_
  ·rintro e C ⟨h,hat2⟩
   refine W_at hat2 ?_
   unfold kz at h
   refine W_rs (kMv rfl ?_)
   obtain⟨⟨x19,x20⟩,hx19,h⟩:=af h
   refine jk [] (segment_Split_ok x1 _ hx19) (fun q C' hq=> ?_)
   obtain⟨v21,rfl,rfl⟩:=hq
   refine kUn (hMv (out:=cd [Pr.is v21,(ai).val x20]) rfl) (kUn ao ?_)
   refine kUn ao ?_
   refine ba al28 fun b22=>kAs rfl (ak 1 rfl rfl (Upd.refl _) rfl Tryz.sizeOf28 (W_rs (kMv rfl ?_)))
   obtain⟨⟨x23,x24⟩,hx23,h⟩:=af h
   refine jk [] (ref28_Split_ok x1 _ hx23) (fun q C' hq=> ?_)
   obtain⟨v25,rfl,rfl⟩:=hq
   refine kUn (hMv (out:=cd [Pr.is v25,(ai).val x24]) rfl) (kUn ao ?_)
   refine kUn ao ?_
   refine ba al28 fun b26=>kAs rfl (ak 3 rfl rfl (Upd.refl _) rfl Tryz.sizeOf28 (W_rs (kMvL rfl (kMv rfl ?_))))
   obtain⟨⟨x27,x28⟩,hx27,h⟩:=af h
   refine kUn (dj (segment_Get_ok x2 x3 _ hx27)) ?_
   refine kUn (hMv (out:=cd [a6 x27,Pr.bool x28]) rfl) (kUn ao ?_)
   refine kUn ao ?_
   refine kAs rfl (kAs rfl (W_rs (kMvL rfl (kMv rfl ?_))))
   obtain⟨⟨x29,x30⟩,hx29,h⟩:=af h
   refine kUn (dj (ref28_Get_ok x2 x3 _ hx29)) ?_
   refine kUn (hMv (out:=cd [a6 x29,Pr.bool x30]) rfl) (kUn ao ?_)
   refine kUn ao ?_
   refine kAs rfl (kAs rfl ?_)
   refine W_rel 1 [9] ?_ rfl ⟨rfl,trivial⟩
   refine bi (fun e C=>∃(x175:Bool),dy x175=some r/\At [(6,Pr.bool x175)] [Own.box b22 ai x20,Own.box b26 ai x24] e C) ?_ ?_
   ·rintro e C ⟨x175,h,hat1⟩
    refine W_at hat1 ?_
    unfold dy at h
    obtain rfl:=osj h
    exact ax ⟨rfl,aa⟩
   refine W_r (kUn (bc 1 ty28 (Sub.refl _)) ?_)
   refine kUn (bc 2 ty28 (Sub.refl _)) ?_
   refine kUn (qStEq (a:=x20) (b:=x24) eqApiMistake (by decide) rfl eqgApiMistake) ?_
   refine kMv rfl ?_
   rcases bw h with⟨hc31,h⟩|⟨hc31,h⟩
   ·refine kGd rfl aa hc31 (hMvL rfl) (kGd rfl aa hc31 (hMvA rfl) ?_)
    obtain⟨x32,hx32,h⟩:=af h
    refine kGd rfl aa hc31 (qCallB 0 (ref28_Same_ok x19 x23 _ hx32) ⟨.inl aa,.inr ⟨aa,rfl⟩,trivial⟩ (fun _ _ _ h=>h)) ?_
    refine kPt rfl hc31 rfl (kMv rfl ?_)
    rcases bw h with⟨hc33,h⟩|⟨hc33,h⟩
    ·refine kGd rfl aa hc33 (hMvL rfl) ?_
     obtain⟨x34,hx34,h⟩:=af h
     refine kGd rfl aa hc33 (dj (segment_Join_ok x2 _ hx34)) ?_
     refine kGd rfl aa hc33 (hMvL rfl) ?_
     obtain⟨x35,hx35,h⟩:=af h
     refine kGd rfl aa hc33 (dj (ref28_Join_ok x2 _ hx35)) ?_
     refine kGd rfl aa hc33 (qStr rfl rfl rfl) (kPt rfl hc33 rfl (kMv rfl ?_))
     rcases bw h with⟨hc36,h⟩|⟨hc36,h⟩
     ·refine kGd rfl aa hc36 (hMvL rfl) ?_
      obtain⟨x37,hx37,h⟩:=af h
      refine kGd rfl aa hc36 (dj (segment_Keys_ok x2 _ hx37)) ?_
      refine kGd rfl aa hc36 (hMvL rfl) ?_
      obtain⟨x38,hx38,h⟩:=af h
      refine kGd rfl aa hc36 (dj (ref28_Keys_ok x2 _ hx38)) ?_
      obtain⟨x39,hx39,h⟩:=af h
      refine kGd rfl aa hc36 (dj (ref01_Same_ok x37 x38 _ hx39)) ?_
      refine kPt rfl hc36 rfl (kMv rfl ?_)
      rcases bw h with⟨hc40,h⟩|⟨hc40,h⟩
      ·refine kGd rfl aa hc40 (hMvA rfl) (kGd rfl aa hc40 (hMvA rfl) (kGd rfl aa hc40 (qStr rfl rfl rfl) (kPt rfl hc40 rfl (kMv rfl ?_))))
       rcases bw h with⟨hc41,h⟩|⟨hc41,h⟩
       ·refine kGd rfl aa hc41 (hMvA rfl) (kGd rfl aa hc41 (hMvA rfl) (kGd rfl aa hc41 (qBoolEq Tryz.underlying4) ?_))
        refine kPt rfl hc41 rfl (kMv rfl ?_)
        rcases bw h with⟨hc42,h⟩|⟨hc42,h⟩
        ·refine kGd rfl aa hc42 (hMvA rfl) ?_
         obtain⟨x43,hx43,h⟩:=af h
         refine kGd rfl aa hc42 (dj (segment_Body_ok x3 _ hx43)) ?_
         refine kGd rfl aa hc42 (hMvA rfl) ?_
         obtain⟨x44,hx44,h⟩:=af h
         refine kGd rfl aa hc42 (dj (ref28_Body_ok x3 _ hx44)) ?_
         refine kGd rfl aa hc42 (qBoolEq Tryz.underlying4) ?_
         refine kPt rfl hc42 rfl (kAs rfl ?_)
         exact⟨x43==x44,h,⟨⟨aa,trivial⟩,Pick.of [1,2] rfl⟩⟩
        refine kSkT rfl aa hc42 (kSkT rfl aa hc42 (kSkT rfl aa hc42 (kSkT rfl aa hc42 (kSkT rfl aa hc42 (kPf rfl hc42 rfl (kAs rfl ?_))))))
        exact⟨false,h,⟨⟨aa,trivial⟩,Pick.of [1,2] rfl⟩⟩
       refine kSkT rfl aa hc41 (kSkT rfl aa hc41 (kSkT rfl aa hc41 (kPf rfl hc41 rfl (kMv rfl ?_))))
       have hc45:false=false:=rfl
       refine kSkT rfl aa hc45 (kSkT rfl aa hc45 (kSkT rfl aa hc45 (kSkT rfl aa hc45 (kSkT rfl aa hc45 (kPf rfl hc45 rfl (kAs rfl ?_))))))
       exact⟨false,h,⟨⟨aa,trivial⟩,Pick.of [1,2] rfl⟩⟩
      refine kSkT rfl aa hc40 (kSkT rfl aa hc40 (kSkT rfl aa hc40 (kPf rfl hc40 rfl (kMv rfl ?_))))
      have hc48:false=false:=rfl
      refine kSkT rfl aa hc48 (kSkT rfl aa hc48 (kSkT rfl aa hc48 (kPf rfl hc48 rfl (kMv rfl ?_))))
      have hc52:false=false:=rfl
      refine kSkT rfl aa hc52 (kSkT rfl aa hc52 (kSkT rfl aa hc52 (kSkT rfl aa hc52 (kSkT rfl aa hc52 (kPf rfl hc52 rfl (kAs rfl ?_))))))
      exact⟨false,h,⟨⟨aa,trivial⟩,Pick.of [1,2] rfl⟩⟩
     refine kSkT rfl aa hc36 (kSkT rfl aa hc36 (kSkT rfl aa hc36 (kSkT rfl aa hc36 (kSkT rfl aa hc36 (kPf rfl hc36 rfl (kMv rfl ?_))))))
     have hc55:false=false:=rfl
     refine kSkT rfl aa hc55 (kSkT rfl aa hc55 (kSkT rfl aa hc55 (kPf rfl hc55 rfl (kMv rfl ?_))))
     have hc63:false=false:=rfl
     refine kSkT rfl aa hc63 (kSkT rfl aa hc63 (kSkT rfl aa hc63 (kPf rfl hc63 rfl (kMv rfl ?_))))
     have hc67:false=false:=rfl
     refine kSkT rfl aa hc67 (kSkT rfl aa hc67 (kSkT rfl aa hc67 (kSkT rfl aa hc67 (kSkT rfl aa hc67 (kPf rfl hc67 rfl (kAs rfl ?_))))))
     exact⟨false,h,⟨⟨aa,trivial⟩,Pick.of [1,2] rfl⟩⟩
    refine kSkT rfl aa hc33 (kSkT rfl aa hc33 (kSkT rfl aa hc33 (kSkT rfl aa hc33 (kSkT rfl aa hc33 (kPf rfl hc33 rfl (kMv rfl ?_))))))
    have hc70:false=false:=rfl
    refine kSkT rfl aa hc70 (kSkT rfl aa hc70 (kSkT rfl aa hc70 (kSkT rfl aa hc70 (kSkT rfl aa hc70 (kPf rfl hc70 rfl (kMv rfl ?_))))))
    have hc89:false=false:=rfl
    refine kSkT rfl aa hc89 (kSkT rfl aa hc89 (kSkT rfl aa hc89 (kPf rfl hc89 rfl (kMv rfl ?_))))
    have hc97:false=false:=rfl
    refine kSkT rfl aa hc97 (kSkT rfl aa hc97 (kSkT rfl aa hc97 (kPf rfl hc97 rfl (kMv rfl ?_))))
    have hc101:false=false:=rfl
    refine kSkT rfl aa hc101 (kSkT rfl aa hc101 (kSkT rfl aa hc101 (kSkT rfl aa hc101 (kSkT rfl aa hc101 (kPf rfl hc101 rfl (kAs rfl ?_))))))
    exact⟨false,h,⟨⟨aa,trivial⟩,Pick.of [1,2] rfl⟩⟩
   refine kSkT rfl aa hc31 (kSkT rfl aa hc31 (kSkT rfl aa hc31 (kPf rfl hc31 rfl (kMv rfl ?_))))
   have hc104:false=false:=rfl
   refine kSkT rfl aa hc104 (kSkT rfl aa hc104 (kSkT rfl aa hc104 (kSkT rfl aa hc104 (kSkT rfl aa hc104 (kPf rfl hc104 rfl (kMv rfl ?_))))))
   have hc141:false=false:=rfl
   refine kSkT rfl aa hc141 (kSkT rfl aa hc141 (kSkT rfl aa hc141 (kSkT rfl aa hc141 (kSkT rfl aa hc141 (kPf rfl hc141 rfl (kMv rfl ?_))))))
   have hc160:false=false:=rfl
   refine kSkT rfl aa hc160 (kSkT rfl aa hc160 (kSkT rfl aa hc160 (kPf rfl hc160 rfl (kMv rfl ?_))))
   have hc168:false=false:=rfl
   refine kSkT rfl aa hc168 (kSkT rfl aa hc168 (kSkT rfl aa hc168 (kPf rfl hc168 rfl (kMv rfl ?_))))
   have hc172:false=false:=rfl
   refine kSkT rfl aa hc172 (kSkT rfl aa hc172 (kSkT rfl aa hc172 (kSkT rfl aa hc172 (kSkT rfl aa hc172 (kPf rfl hc172 rfl (kAs rfl ?_))))))
   exact⟨false,h,⟨⟨aa,trivial⟩,Pick.of [1,2] rfl⟩⟩
  refine fb (fun m e C=>∃(x11:Int),fg (fun s=>f4 x2 s) m x11=some z3l/\At [(0,a6 x1),(1,aq ay x2),(2,a6 x3),(8,Pr.i64 x11)] [] e C) n3 ⟨0,hN3,⟨⟨aa,aa,aa,aa,trivial⟩,Pick.refl _⟩⟩ ?_
  rintro m e C ⟨x11,hN3,hatl3⟩
  refine W_at hatl3 ?_
  obtain⟨m3,w3l,rfl,h3l,hn3,ho3⟩:=bj hN3
  replace h3l:f4 x2 x11=some w3l:=h3l
  unfold f4 at h3l
  refine a7 (W_rs (kMv rfl (kMvL rfl (kUn (l8 rfl Tryz.underlying22) ?_))))
  refine kIn rfl rfl rfl ?_
  refine a8 h3l rfl (fun _ h3l=> ?_) (fun _ h3l=> ?_)
  ·refine ar (a7 (a5 ?_))
   refine bi (fun e C=>∃(x17:Bool),jh x11 x17=some w3l/\At [(0,a6 x1),(1,aq ay x2),(2,a6 x3),(8,Pr.i64 x11),(54,Pr.bool x17)] [] e C) ?_ ?_
   ·rintro e C ⟨x17,h3l,hat4⟩
    refine W_at hat4 ?_
    unfold jh at h3l
    refine a8 h3l rfl (fun _ h3l=> ?_) (fun _ h3l=> ?_)
    ·refine W_rs (kAs rfl ?_)
     obtain rfl:=ho3 _ (Option.some.inj h3l).symm
     replace h:some true=some r:=h
     obtain rfl:=osj h
     exact ax ⟨rfl,aa⟩
    refine ar (W_r (kMv rfl (kIn rfl rfl rfl (kAs rfl ?_))))
    exact⟨m3,Nat.lt_succ_self _,w64 (x11+1),hn3 _ (Option.some.inj h3l).symm,atOk⟩
   refine W_r (kMvL rfl (kMv rfl ?_))
   obtain⟨x14,hx14,h3l⟩:=af h3l
   refine kUn (fi Tryz.underlying22 Tryz.sizeOf25 hx14) ?_
   refine kUn (dc fld25_1 jx) ?_
   refine kUn (cw ty9) ?_
   refine kUn (oj rfl Tryz.underlying9) ?_
   refine kIn rfl rfl rfl (kMv rfl ?_)
   rcases bw h3l with⟨hc15,h3l⟩|⟨hc15,h3l⟩
   ·refine kSkF rfl aa hc15 (kSkF rfl aa hc15 (kSkF rfl aa hc15 (kSkF rfl aa hc15 (kSkF rfl aa hc15 (kSkF rfl aa hc15 (kSkF rfl aa hc15 (kPt rfl hc15 rfl ?_)))))))
    exact⟨true,h3l,atOk⟩
   refine kGd rfl aa hc15 (hMvL rfl) (kGd rfl aa hc15 (hMvA rfl) ?_)
   obtain⟨x16,hx16,h3l⟩:=af h3l
   refine kGd rfl aa hc15 (fi Tryz.underlying22 Tryz.sizeOf25 hx16) ?_
   refine kGd rfl aa hc15 (dc fld25_0 il) ?_
   refine kGd rfl aa hc15 (cw ty9) ?_
   refine kGd rfl aa hc15 (oj rfl Tryz.underlying9) ?_
   refine kGd rfl aa hc15 (qInt rfl rfl rfl) (kPf rfl hc15 rfl ?_)
   exact⟨decide ((x16.Key.length:Int)>100),h3l,atOk⟩
  refine ek ?_
  obtain rfl:=ho3 _ (Option.some.inj h3l).symm
  exact⟨h,atOk⟩
 refine W_r (kMv rfl (kUn (oj rfl Tryz.underlying9) ?_))
 refine kIn rfl rfl rfl (kMv rfl ?_)
 rcases bw h with⟨hc6,h⟩|⟨hc6,h⟩
 ·refine kSkF rfl aa hc6 (kSkF rfl aa hc6 (kSkF rfl aa hc6 (kPt rfl hc6 rfl (kMv rfl ?_))))
  have hc8:true=true:=rfl
  refine kSkF rfl aa hc8 (kSkF rfl aa hc8 (kSkF rfl aa hc8 (kPt rfl hc8 rfl ?_)))
  exact⟨true,h,atOk⟩
 refine kGd rfl aa hc6 (hMvL rfl) (kGd rfl aa hc6 (l8 rfl Tryz.underlying22) ?_)
 refine kGd rfl aa hc6 (qInt rfl rfl rfl) (kPf rfl hc6 rfl (kMv rfl ?_))
 rcases bw h with⟨hc7,h⟩|⟨hc7,h⟩
 ·refine kSkF rfl aa hc7 (kSkF rfl aa hc7 (kSkF rfl aa hc7 (kPt rfl hc7 rfl ?_)))
  exact⟨true,h,atOk⟩
 refine kGd rfl aa hc7 (hMvA rfl) (kGd rfl aa hc7 (oj rfl Tryz.underlying9) ?_)
 refine kGd rfl aa hc7 (qInt rfl rfl rfl) (kPf rfl hc7 rfl ?_)
 exact⟨decide ((x3.length:Int)>100),h,atOk⟩
end Go.Proofs.YteablckbgpogiaaGreatDoor
