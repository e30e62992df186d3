/- The code comes to what these functions say (printed by wip/gen/gen.py). -/
import Derived.Test.YteablckbgpogiaaGreatDoorZX
import Derived.Test.YteablckbgpogiaaGreatDoorZP12
import Derived.Test.YteablckbgpogiaaGreatDoorZT
set_option linter.unusedSimpArgs false
set_option linter.unusedVariables false
set_option linter.unusedSectionVars false
set_option linter.unusedSectionVars false
set_option maxRecDepth 100000
set_option maxHeartbeats 4000000
namespace Go.Proofs.YteablckbgpogiaaGreatDoor
open Go Go.Cn
variable [Known]
attribute [local irreducible] f5 ap
theorem ref28_open_ok (x1:List UInt8) (x2 r:Int) (h:ref28_open x1 x2=some r):FnP Tryz.prog 26 [ba x1,Pr.i64 x2] (Pr.i64 r):=by
 refine cm (rs:=[4]) Tryz.func26 rfl Tryz.ntmps26 ⟨by decide,Tryz.results26⟩ (by decide) (fun s0=> ?_)
 unfold ref28_open at h
 refine W_rs (kAs rfl (W_rs (kMv rfl ?_)))
 obtain⟨⟨x3,x4,x5⟩,hx3,h⟩:=af h
 refine kUn (dl (ref03_Lex_ok x1 _ hx3)) ?_
 refine kUn (hMv (out:=ce [ap ah x3,Pr.i64 x4,Pr.i64 x5]) rfl) (kUn ao ?_)
 refine kUn ao ?_
 refine kUn ao ?_
 refine kAsL rfl (kAs rfl (kAs rfl (az (W_rs (kAs rfl (a4 ?_))))))
 obtain⟨z2l,hz2,h⟩:=af h
 obtain⟨n2,hN2⟩:=bp hz2
 refine d7 0 (fun e C=>ref28_open_k1 x1=some r/\At [(0,ba x1)] [] e C) ?_ ?_
 ·rintro e C ⟨h,hat1⟩
  refine W_at hat1 ?_
  unfold ref28_open_k1 at h
  refine W_rs (kMv rfl (kUn (ol rfl Tryz.underlying9) ?_))
  refine kAs rfl ?_
  obtain rfl:=osj h
  exact ax ⟨rfl,aa⟩
 refine ew (fun m e C=>∃(x6:Int),ff (fun s=>po x3 x2 s) m x6=some z2l/\At [(0,ba x1),(1,Pr.i64 x2),(5,ap ah x3),(8,Pr.i64 x6)] [] e C) n2 ⟨0,hN2,⟨⟨aa,aa,aa,aa,trivial⟩,Pick.refl _⟩⟩ ?_
 rintro m e C ⟨x6,hN2,hatl2⟩
 refine W_at hatl2 ?_
 obtain⟨m2,w2l,rfl,h2l,hn2,ho2⟩:=bk hN2
 replace h2l:po x3 x2 x6=some w2l:=h2l
 unfold po at h2l
 refine az (W_rs (kMv rfl (kMvL rfl (kUn (mt rfl Tryz.underlying70) ?_))))
 refine kIn rfl rfl rfl ?_
 refine a7 h2l rfl (fun _ h2l=> ?_) (fun _ h2l=> ?_)
 ·refine ar (az (a4 ?_))
  refine bj (fun e C=>∃(x12:Bool),ref28_open_j3 x3 x6 x12=some w2l/\At [(0,ba x1),(1,Pr.i64 x2),(5,ap ah x3),(8,Pr.i64 x6),(35,Pr.bool x12)] [] e C) ?_ ?_
  ·rintro e C ⟨x12,h2l,hat3⟩
   refine W_at hat3 ?_
   unfold ref28_open_j3 at h2l
   refine a7 h2l rfl (fun _ h2l=> ?_) (fun _ h2l=> ?_)
   ·refine W_rs (kMvL rfl (kMv rfl ?_))
    obtain⟨x14,hx14,h2l⟩:=af h2l
    refine kUn (fi Tryz.underlying70 Tryz.sizeOf74 hx14) ?_
    refine kUn (de fld74_2 subApiToken_At) ?_
    refine kUn (cw ty3) ?_
    refine kIn rfl rfl rfl (kAs rfl ?_)
    obtain rfl:=ho2 _ (Option.some.inj h2l).symm
    replace h:some (w64 (x14.At+1))=some r:=h
    obtain rfl:=osj h
    exact ax ⟨rfl,aa⟩
   refine ar (W_r (kMv rfl (kIn rfl rfl rfl (kAs rfl ?_))))
   exact⟨m2,Nat.lt_succ_self _,w64 (x6+1),hn2 _ (Option.some.inj h2l).symm,atOk⟩
  refine W_r (kMvL rfl (kMv rfl ?_))
  obtain⟨x9,hx9,h2l⟩:=af h2l
  refine kUn (fi Tryz.underlying70 Tryz.sizeOf74 hx9) ?_
  refine kUn (de fld74_2 subApiToken_At) ?_
  refine kUn (cw ty3) ?_
  refine kMv rfl (kIn rfl rfl rfl (kMv rfl ?_))
  rcases bd h2l with⟨hc10,h2l⟩|⟨hc10,h2l⟩
  ·refine kGd rfl aa hc10 (hMvL rfl) (kGd rfl aa hc10 (hMvA rfl) ?_)
   obtain⟨x11,hx11,h2l⟩:=af h2l
   refine kGd rfl aa hc10 (fi Tryz.underlying70 Tryz.sizeOf74 hx11) ?_
   refine kGd rfl aa hc10 (de fld74_1 subApiToken_Text) ?_
   refine kGd rfl aa hc10 (cw ty9) ?_
   refine kGd rfl aa hc10 (qStr rfl rfl rfl) (kPt rfl hc10 rfl ?_)
   exact⟨x11.Text==([123]:List UInt8),h2l,atOk⟩
  refine kSkT rfl aa hc10 (kSkT rfl aa hc10 (kSkT rfl aa hc10 (kSkT rfl aa hc10 (kSkT rfl aa hc10 (kSkT rfl aa hc10 (kPf rfl hc10 rfl ?_))))))
  exact⟨false,h2l,atOk⟩
 refine ej ?_
 obtain rfl:=ho2 _ (Option.some.inj h2l).symm
 exact⟨h,atOk⟩
theorem ref15_Field_ok (x1 x2:List UInt8) (r:(List UInt8)) (h:ref15_Field x1 x2=some r):FnP Tryz.prog 44 [ba x1,ba x2] (ba r):=by
 refine cm (rs:=[4]) Tryz.func44 rfl Tryz.ntmps44 ⟨by decide,Tryz.results44⟩ (by decide) (fun s0=> ?_)
 unfold ref15_Field at h
 refine W_rs (kAs rfl (W_rs (kMv rfl ?_)))
 obtain⟨x3,hx3,h⟩:=af h
 refine kUn (qCat' hx3) ?_
 refine kMv rfl ?_
 obtain⟨x4,hx4,h⟩:=af h
 refine kUn (qCat' hx4) ?_
 refine kAs rfl ?_
 obtain rfl:=osj h
 exact ax ⟨rfl,aa⟩
theorem ref15_Method_ok (x1 x2:List UInt8) (r:(List UInt8)) (h:ref15_Method x1 x2=some r):FnP Tryz.prog 45 [ba x1,ba x2] (ba r):=by
 refine cm (rs:=[4]) Tryz.func45 rfl Tryz.ntmps45 ⟨by decide,Tryz.results45⟩ (by decide) (fun s0=> ?_)
 unfold ref15_Method at h
 refine W_rs (kAs rfl (W_rs (kMv rfl ?_)))
 obtain⟨x3,hx3,h⟩:=af h
 refine kUn (qCat' hx3) ?_
 refine kMv rfl ?_
 obtain⟨x4,hx4,h⟩:=af h
 refine kUn (qCat' hx4) ?_
 obtain⟨x5,hx5,h⟩:=af h
 refine kUn (qCat' hx5) ?_
 refine kAs rfl ?_
 obtain rfl:=osj h
 exact ax ⟨rfl,aa⟩
theorem ref28_id_ok (x1:List UInt8) (x2:ApiNode) (r:(List UInt8)) (h:ref28_id x1 x2=some r):FnP Tryz.prog 27 [ba x1,(rApiNode).val x2] (ba r):=by
 refine cm (rs:=[4]) Tryz.func27 rfl Tryz.ntmps27 ⟨by decide,Tryz.results27⟩ (by decide) (fun s0=> ?_)
 unfold ref28_id at h
 refine W_rs ?_
 refine rBox (R:=rApiNode) (a:=x2) rfl (fun b3=> ?_)
 refine kAs rfl (az (W_rs (kUn (av fld48_0) ?_)))
 refine kUn (bb 0 ty3 subApiNode_Kind) ?_
 refine kIn rfl rfl rfl ?_
 refine a7 h rfl (fun _ h=> ?_) (fun _ h=> ?_)
 ·refine W_rs (kMv rfl (kUn (av oo) ?_))
  refine kUn (bb 0 ty9 ie) ?_
  refine cg h (ref15_Field_ok x1 x2.Text) rfl fun x5 _ h=>kAs rfl ?_
  obtain rfl:=osj h
  exact ax ⟨rfl,aa⟩
 refine ar (W_rs (kMv rfl (kUn (av oo) ?_)))
 refine kUn (bb 0 ty9 ie) ?_
 refine cg h (ref15_Method_ok x1 x2.Text) rfl fun x6 _ h=>kAs rfl ?_
 obtain rfl:=osj h
 exact ax ⟨rfl,aa⟩
theorem ref28_Split_ok (x1:List UInt8) (r:(List ApiSegment) × ApiMistake) (h:ref28_Split x1=some r):FnC Tryz.prog 8 [ba x1] [] (fun q C'=>∃u0,q=ce [Pr.is u0,(ai).val r.2]/\C'=[Own.vec u0 a6 r.1 25]):=by
 refine fnc_introR (rs:=[.tmp 2,.cell 3 28]) Tryz.func8 rfl Tryz.ntmps8 Tryz.results8 (by decide) (fun s0=> ?_)
 unfold ref28_Split at h
 refine W_rs (kAs rfl (a8 al28 fun b2=>W_rs (kMv rfl ?_)))
 obtain⟨⟨x3,x4⟩,hx3,h⟩:=af h
 refine kUn (dl (ref12_File_ok x1 _ hx3)) ?_
 refine kUn (hMv (out:=ce [ap rApiNode x3,(ai).val x4]) rfl) (kUn ao ?_)
 refine kUn ao ?_
 refine a8 al28 fun b5=>kAsL rfl (ak 1 rfl rfl (Upd.refl _) rfl Tryz.sizeOf28 (az (W_rs (kUn (av fld28_0) ?_))))
 refine kUn (bb 1 ty26 gu) ?_
 refine kIn rfl rfl rfl ?_
 refine a7 h rfl (fun _ h=> ?_) (fun _ h=> ?_)
 ·refine bj (fun e C=>ref28_Split_j1 x4=some r/\At [(2,Pr.is (.slice none 0 0)),(3,aj b2 0)] [Own.box b2 ai x4,Own.box b5 ai x4] e C) ?_ ?_
  ·rintro e C ⟨h,hat1⟩
   refine W_at hat1 ?_
   unfold ref28_Split_j1 at h
   refine W_nil [2] a6 25 (fun v7=> ?_) ⟨rfl,trivial⟩
   obtain rfl:=osj h
   exact ax ⟨.inl rfl,[Pr.is v7,(ai).val x4],⟨yT aa,yBox 0 ty28 aa,trivial⟩,_,Pick.of [2] rfl,v7,rfl,rfl⟩
  refine ib 2 hmx (by kernel_rfl) (by kernel_rfl) ?_
  refine lUn (bb 1 ty28 (Sub.refl _)) ?_
  refine lUn (hAsA rfl) (ak 0 rfl rfl (Upd.refl _) rfl Tryz.sizeOf28 ?_)
  exact⟨h,atOk⟩
 refine ar (W_rs (kAs rfl (W_rs (kAs rfl (az (W_rs (kAs rfl (a4 ?_))))))))
 obtain⟨z3l,hz3,h⟩:=af h
 obtain⟨n3,hN3⟩:=bp hz3
 refine d7 0 (fun e C=>∃(x9:Int),∃(x11:List ApiSegment),∃(v8:Value),ref28_Split_k2 x1 x9 x11=some r/\At [(0,ba x1),(3,aj b2 0),(6,Pr.is v8),(7,Pr.i64 x9)] [Own.box b2 ai (ApiMistake.mk 0 0 0),Own.box b5 ai x4,Own.vec v8 a6 x11 25] e C) ?_ ?_
 ·rintro e C ⟨x9,x11,v8,h,hat2⟩
  refine W_at hat2 ?_
  unfold ref28_Split_k2 at h
  refine W_rs (kMv rfl (kMv rfl (kMv rfl ?_)))
  obtain⟨x49,hx49,h⟩:=af h
  refine kUn (qSubL Tryz.underlying9 hx49) ?_
  refine kUn (j8 st25 ⟨(ApiSegment.mk ([36]:List UInt8) []),⟨_,rfl,rfl,fun j fd hj hf=>by match j,hj with| 0,h=>exact absurd rfl h| 1,_=>cases hf;rfl|_+2,_=>cases hf⟩,⟨(ApiSegment.mk ([36]:List UInt8) x49),⟨_,rfl,rfl,fun j fd hj hf=>by match j,hj with| 0,_=>cases hf;rfl| 1,h=>exact absurd rfl h|_+2,_=>cases hf⟩,rfl⟩⟩) ?_
  refine kUn (bt (R:=a6) (a:=(ApiSegment.mk ([36]:List UInt8) x49)) el22 (Nat.le_of_ble_eq_true rfl)) ?_
  obtain⟨x50,hx50,h⟩:=af h
  refine fg 2 el22 hx50 (fun v51=> ?_)
  refine kUn (j8 st28 rfl) ?_
  refine kAs rfl (ak 0 rfl rfl (Upd.refl _) rfl Tryz.sizeOf28 ?_)
  obtain rfl:=osj h
  exact ax ⟨.inl rfl,[Pr.is v51,(ai).val (ApiMistake.mk 0 0 0)],⟨yT aa,yBox 0 ty28 aa,trivial⟩,_,Pick.of [2] rfl,v51,rfl,rfl⟩
 refine W_nil [6] a6 25 (fun v52=> ?_) ⟨rfl,trivial⟩
 refine ew (fun m e C=>∃(x9:Int),∃(x10:Int),∃(x11:List ApiSegment),∃(v8:Value),ff (fun s=>lu x3 x1 s.1 s.2.1 s.2.2) m (x9,x10,x11)=some z3l/\At [(0,ba x1),(3,aj b2 0),(4,ap rApiNode x3),(6,Pr.is v8),(7,Pr.i64 x9),(8,Pr.i64 x10)] [Own.box b2 ai (ApiMistake.mk 0 0 0),Own.box b5 ai x4,Own.vec v8 a6 x11 25] e C) n3 ⟨0,0,[],v52,hN3,⟨⟨aa,aa,aa,aa,aa,aa,trivial⟩,Pick.refl _⟩⟩ ?_
 rintro m e C ⟨x9,x10,x11,v8,hN3,hatl3⟩
 refine W_at hatl3 ?_
 obtain⟨m3,w3l,rfl,h3l,hn3,ho3⟩:=bk hN3
 replace h3l:lu x3 x1 x9 x10 x11=some w3l:=h3l
 unfold lu at h3l
 refine az (W_rs (kMv rfl (kMvL rfl (kUn (mt rfl Tryz.underlying44) ?_))))
 refine kIn rfl rfl rfl ?_
 refine a7 h3l rfl (fun _ h3l=> ?_) (fun _ h3l=> ?_)
 ·refine ar (az (a4 (W_rs (kMv rfl (kMvL rfl (kMv rfl ?_))))))
  obtain⟨x17,hx17,h3l⟩:=af h3l
  refine kUn (fi Tryz.underlying44 Tryz.sizeOf48 hx17) ?_
  refine kUn (de fld48_4 subApiNode_From) ?_
  refine kUn (cw ty3) ?_
  refine cg h3l (ref28_open_ok x1 x17.From) rfl fun x18 _ h3l=>kAs rfl ?_
  refine bj (fun e C=>∃(x22:List ApiSegment),∃(v23:Value),ref28_Split_j8 x3 x10 x1 x18 x22=some w3l/\At [(0,ba x1),(3,aj b2 0),(4,ap rApiNode x3),(6,Pr.is v23),(8,Pr.i64 x10),(9,Pr.i64 x18)] [Own.box b2 ai (ApiMistake.mk 0 0 0),Own.box b5 ai x4,Own.vec v23 a6 x22 25] e C) ?_ ?_
  ·rintro e C ⟨x22,v23,h3l,hat8⟩
   refine W_at hat8 ?_
   unfold ref28_Split_j8 at h3l
   refine W_rs (kMv rfl (kAs rfl (az (W_rs (kAs rfl (a4 ?_))))))
   obtain⟨z6l,hz6,h3l⟩:=af h3l
   obtain⟨n6,hN6⟩:=bp hz6
   refine d7 2 (fun e C=>∃(x25:Int),∃(x27:List ApiSegment),∃(v24:Value),ref28_Split_k5 x3 x10 x1 x25 x27=some w3l/\At [(0,ba x1),(3,aj b2 0),(4,ap rApiNode x3),(6,Pr.is v24),(7,Pr.i64 x25),(8,Pr.i64 x10)] [Own.box b2 ai (ApiMistake.mk 0 0 0),Own.box b5 ai x4,Own.vec v24 a6 x27 25] e C) ?_ ?_
   ·rintro e C ⟨x25,x27,v24,h3l,hat5⟩
    refine W_at hat5 ?_
    unfold ref28_Split_k5 at h3l
    refine bj (fun e C=>∃(x46:List ApiSegment),∃(v47:Value),ref28_Split_j4 x3 x10 x46=some w3l/\At [(0,ba x1),(3,aj b2 0),(4,ap rApiNode x3),(6,Pr.is v47),(8,Pr.i64 x10)] [Own.box b2 ai (ApiMistake.mk 0 0 0),Own.box b5 ai x4,Own.vec v47 a6 x46 25] e C) ?_ ?_
    ·rintro e C ⟨x46,v47,h3l,hat4⟩
     refine W_at hat4 ?_
     unfold ref28_Split_j4 at h3l
     refine W_r (kMvL rfl (kMv rfl ?_))
     obtain⟨x48,hx48,h3l⟩:=af h3l
     refine kUn (fi Tryz.underlying44 Tryz.sizeOf48 hx48) ?_
     refine kUn (de fld48_5 pm) ?_
     refine kUn (cw ty3) ?_
     refine kAs rfl (W_r (kMv rfl (kIn rfl rfl rfl (kAs rfl ?_))))
     exact⟨m3,Nat.lt_succ_self _,x48.To,w64 (x10+1),x46,v47,hn3 _ (Option.some.inj h3l).symm,atOk⟩
    refine ib 17 hmx (by kernel_rfl) (by kernel_rfl) ?_
    refine lUn (hMvA rfl) (lUn (hMvL rfl) (lUn (hMvA rfl) ?_))
    obtain⟨x42,hx42,h3l⟩:=af h3l
    refine lUn (fi Tryz.underlying44 Tryz.sizeOf48 hx42) ?_
    refine lUn (de oo ie) ?_
    refine lUn (cw ty9) ?_
    obtain⟨x43,hx43,h3l⟩:=af h3l
    refine lUn (qCat' hx43) ?_
    refine lUn (hMvA rfl) (lUn (hMvA rfl) (lUn (hMvL rfl) (lUn (hMvA rfl) ?_)))
    obtain⟨x44,hx44,h3l⟩:=af h3l
    refine lUn (fi Tryz.underlying44 Tryz.sizeOf48 hx44) ?_
    refine lUn (de fld48_5 pm) ?_
    refine lUn (cw ty3) ?_
    obtain⟨x45,hx45,h3l⟩:=af h3l
    refine lUn (qSubLH Tryz.underlying9 hx45) ?_
    refine lUn (j8 st25 ⟨(ApiSegment.mk x43 []),⟨_,rfl,rfl,fun j fd hj hf=>by match j,hj with| 0,h=>exact absurd rfl h| 1,_=>cases hf;rfl|_+2,_=>cases hf⟩,⟨(ApiSegment.mk x43 x45),⟨_,rfl,rfl,fun j fd hj hf=>by match j,hj with| 0,_=>cases hf;rfl| 1,h=>exact absurd rfl h|_+2,_=>cases hf⟩,rfl⟩⟩) ?_
    refine lUn (bt (R:=a6) (a:=(ApiSegment.mk x43 x45)) el22 (Nat.le_of_ble_eq_true rfl)) ?_
    obtain⟨x46,hx46,h3l⟩:=af h3l
    refine fg 2 el22 hx46 (fun v47=> ?_)
    refine kAs rfl ?_
    exact⟨x46,v47,h3l,atOk⟩
   refine ew (fun m e C=>∃(x25:Int),∃(x26:Int),∃(x27:List ApiSegment),∃(v24:Value),ff (fun s=>n8 x3 x10 x1 s.1 s.2.1 s.2.2) m (x25,x26,x27)=some z6l/\At [(0,ba x1),(3,aj b2 0),(4,ap rApiNode x3),(6,Pr.is v24),(7,Pr.i64 x25),(8,Pr.i64 x10),(10,Pr.i64 x26)] [Own.box b2 ai (ApiMistake.mk 0 0 0),Own.box b5 ai x4,Own.vec v24 a6 x27 25] e C) n6 ⟨x18,0,x22,v23,hN6,⟨⟨aa,aa,aa,aa,aa,aa,aa,trivial⟩,Pick.refl _⟩⟩ ?_
   rintro m e C ⟨x25,x26,x27,v24,hN6,hatl6⟩
   refine W_at hatl6 ?_
   obtain⟨m6,w6l,rfl,h6l,hn6,ho6⟩:=bk hN6
   replace h6l:n8 x3 x10 x1 x25 x26 x27=some w6l:=h6l
   unfold n8 at h6l
   refine az (W_rs (kMv rfl (kMvL rfl (kMv rfl ?_))))
   obtain⟨x32,hx32,h6l⟩:=af h6l
   refine kUn (fi Tryz.underlying44 Tryz.sizeOf48 hx32) ?_
   refine kUn (de fld48_8 mf) ?_
   refine kUn (cw ty44) ?_
   refine kUn (mt rfl Tryz.underlying44) ?_
   refine kIn rfl rfl rfl ?_
   refine a7 h6l rfl (fun _ h6l=> ?_) (fun _ h6l=> ?_)
   ·refine ar (az (a4 (W_rs (kMvL rfl (kMv rfl ?_)))))
    obtain⟨x34,hx34,h6l⟩:=af h6l
    refine kUn (fi Tryz.underlying44 Tryz.sizeOf48 hx34) ?_
    refine kUn (de fld48_8 mf) ?_
    refine kUn (cw ty44) ?_
    refine kMv rfl ?_
    obtain⟨x35,hx35,h6l⟩:=af h6l
    refine kUn (fi Tryz.underlying44 Tryz.sizeOf48 hx35) ?_
    refine kUn (cw ty48) ?_
    refine a8 al48 fun b36=>ak 3 rfl rfl (Upd.refl _) rfl Tryz.sizeOf48 ?_
    refine bj (fun e C=>∃(x40:List ApiSegment),∃(v41:Value),ref28_Split_j7 x35 x26 x40=some w6l/\At [(0,ba x1),(3,aj b2 0),(4,ap rApiNode x3),(6,Pr.is v41),(8,Pr.i64 x10),(10,Pr.i64 x26),(11,aj b36 0)] [Own.box b2 ai (ApiMistake.mk 0 0 0),Own.box b5 ai x4,Own.vec v41 a6 x40 25,Own.box b36 rApiNode x35] e C) ?_ ?_
    ·rintro e C ⟨x40,v41,h6l,hat7⟩
     refine W_at hat7 ?_
     unfold ref28_Split_j7 at h6l
     refine W_r (kUn (av fld48_5) ?_)
     refine kUn (bb 3 ty3 pm) ?_
     refine kAs rfl (W_r (kMv rfl (kIn rfl rfl rfl (kAs rfl ?_))))
     exact⟨m6,Nat.lt_succ_self _,x35.To,w64 (x26+1),x40,v41,hn6 _ (Option.some.inj h6l).symm,⟨⟨aa,aa,aa,aa,aa,aa,aa,trivial⟩,Pick.of [0,1,2] rfl⟩⟩
    refine ib 15 hmx (by kernel_rfl) (by kernel_rfl) ?_
    refine lUn (hMvA rfl) (lUn (hMvL rfl) (lUn (hMvA rfl) ?_))
    obtain⟨x37,hx37,h6l⟩:=af h6l
    refine lUn (fi Tryz.underlying44 Tryz.sizeOf48 hx37) ?_
    refine lUn (de oo ie) ?_
    refine lUn (cw ty9) ?_
    refine lUn (bb 3 ty48 (Sub.refl _)) ?_
    obtain⟨x38,hx38,h6l⟩:=af h6l
    refine lUn (dl (ref28_id_ok x37.Text x35 _ hx38)) ?_
    refine lUn (hMvA rfl) (lUn (hMvA rfl) (lUn (av fld48_5) ?_))
    refine lUn (bb 3 ty3 pm) ?_
    obtain⟨x39,hx39,h6l⟩:=af h6l
    refine lUn (qSubLH Tryz.underlying9 hx39) ?_
    refine lUn (j8 st25 ⟨(ApiSegment.mk x38 []),⟨_,rfl,rfl,fun j fd hj hf=>by match j,hj with| 0,h=>exact absurd rfl h| 1,_=>cases hf;rfl|_+2,_=>cases hf⟩,⟨(ApiSegment.mk x38 x39),⟨_,rfl,rfl,fun j fd hj hf=>by match j,hj with| 0,_=>cases hf;rfl| 1,h=>exact absurd rfl h|_+2,_=>cases hf⟩,rfl⟩⟩) ?_
    refine lUn (bt (R:=a6) (a:=(ApiSegment.mk x38 x39)) el22 (Nat.le_of_ble_eq_true rfl)) ?_
    obtain⟨x40,hx40,h6l⟩:=af h6l
    refine fg 2 el22 hx40 (fun v41=> ?_)
    refine kAs rfl ?_
    exact⟨x40,v41,h6l,atOk⟩
   refine ej ?_
   obtain rfl:=ho6 _ (Option.some.inj h6l).symm
   exact⟨x25,x27,v24,h3l,atOk⟩
  refine ib 13 hmx (by kernel_rfl) (by kernel_rfl) ?_
  refine lUn (hMvA rfl) (lUn (hMvL rfl) (lUn (hMvA rfl) ?_))
  obtain⟨x19,hx19,h3l⟩:=af h3l
  refine lUn (fi Tryz.underlying44 Tryz.sizeOf48 hx19) ?_
  refine lUn (de oo ie) ?_
  refine lUn (cw ty9) ?_
  obtain⟨x20,hx20,h3l⟩:=af h3l
  refine lUn (qCat' hx20) ?_
  refine lUn (hMvA rfl) (lUn (hMvA rfl) (lUn (hMvA rfl) ?_))
  obtain⟨x21,hx21,h3l⟩:=af h3l
  refine lUn (qSubLH Tryz.underlying9 hx21) ?_
  refine lUn (j8 st25 ⟨(ApiSegment.mk x20 []),⟨_,rfl,rfl,fun j fd hj hf=>by match j,hj with| 0,h=>exact absurd rfl h| 1,_=>cases hf;rfl|_+2,_=>cases hf⟩,⟨(ApiSegment.mk x20 x21),⟨_,rfl,rfl,fun j fd hj hf=>by match j,hj with| 0,_=>cases hf;rfl| 1,h=>exact absurd rfl h|_+2,_=>cases hf⟩,rfl⟩⟩) ?_
  refine lUn (bt (R:=a6) (a:=(ApiSegment.mk x20 x21)) el22 (Nat.le_of_ble_eq_true rfl)) ?_
  obtain⟨x22,hx22,h3l⟩:=af h3l
  refine fg 2 el22 hx22 (fun v23=> ?_)
  refine kAs rfl ?_
  exact⟨x22,v23,h3l,atOk⟩
 refine ej ?_
 obtain rfl:=ho3 _ (Option.some.inj h3l).symm
 exact⟨x9,x11,v8,h,atOk⟩
theorem ref28_Same_ok (x1 x2:List ApiSegment) (r:Bool) (h:ref28_Same x1 x2=some r):FnP Tryz.prog 11 [ap a6 x1,ap a6 x2] (Pr.bool r):=by
 refine cm (rs:=[4]) Tryz.func11 rfl Tryz.ntmps11 ⟨by decide,Tryz.results11⟩ (by decide) (fun s0=> ?_)
 unfold ref28_Same at h
 refine W_rs (kAs rfl (az (W_rs (kMvL rfl (kUn (mt rfl Tryz.underlying22) ?_)))))
 refine kMvL rfl (kUn (mt rfl Tryz.underlying22) ?_)
 refine kIn rfl rfl rfl ?_
 refine a7 h rfl (fun _ h=> ?_) (fun _ h=> ?_)
 ·refine W_rs (kAs rfl ?_)
  obtain rfl:=osj h
  exact ax ⟨rfl,aa⟩
 refine ar (az (W_rs (kAs rfl (a4 ?_))))
 obtain⟨z2l,hz2,h⟩:=af h
 obtain⟨n2,hN2⟩:=bp hz2
 refine d7 0 (fun e C=>ref28_Same_k1=some r/\At [] [] e C) ?_ ?_
 ·rintro e C ⟨h,hat1⟩
  refine W_at hat1 ?_
  unfold ref28_Same_k1 at h
  refine W_rs (kAs rfl ?_)
  obtain rfl:=osj h
  exact ax ⟨rfl,aa⟩
 refine ew (fun m e C=>∃(x4:Int),ff (fun s=>pp x1 x2 s) m x4=some z2l/\At [(0,ap a6 x1),(1,ap a6 x2),(5,Pr.i64 x4)] [] e C) n2 ⟨0,hN2,⟨⟨aa,aa,aa,trivial⟩,Pick.refl _⟩⟩ ?_
 rintro m e C ⟨x4,hN2,hatl2⟩
 refine W_at hatl2 ?_
 obtain⟨m2,w2l,rfl,h2l,hn2,ho2⟩:=bk hN2
 replace h2l:pp x1 x2 x4=some w2l:=h2l
 unfold pp at h2l
 refine az (W_rs (kMv rfl (kMvL rfl (kUn (mt rfl Tryz.underlying22) ?_))))
 refine kIn rfl rfl rfl ?_
 refine a7 h2l rfl (fun _ h2l=> ?_) (fun _ h2l=> ?_)
 ·refine ar (az (a4 ?_))
  refine bj (fun e C=>∃(x7:ApiSegment),∃(x8:ApiSegment),ref28_Same_j3 x4 x7 x8=some w2l/\At [(0,ap a6 x1),(1,ap a6 x2),(5,Pr.i64 x4),(25,Pr.bool (!decide (x7=x8)))] [] e C) ?_ ?_
  ·rintro e C ⟨x7,x8,h2l,hat3⟩
   refine W_at hat3 ?_
   unfold ref28_Same_j3 at h2l
   refine a7 h2l rfl (fun _ h2l=> ?_) (fun _ h2l=> ?_)
   ·refine W_rs (kAs rfl ?_)
    obtain rfl:=ho2 _ (Option.some.inj h2l).symm
    replace h:some false=some r:=h
    obtain rfl:=osj h
    exact ax ⟨rfl,aa⟩
   refine ar (W_r (kMv rfl (kIn rfl rfl rfl (kAs rfl ?_))))
   exact⟨m2,Nat.lt_succ_self _,w64 (x4+1),hn2 _ (Option.some.inj h2l).symm,atOk⟩
  refine ib 9 hmx (by kernel_rfl) (by kernel_rfl) ?_
  refine lUn (hMvL rfl) (lUn (hMvA rfl) ?_)
  obtain⟨x7,hx7,h2l⟩:=af h2l
  refine lUn (fi Tryz.underlying22 Tryz.sizeOf25 hx7) ?_
  refine lUn (cw ty25) ?_
  refine lUn (hMvL rfl) (lUn (hMvA rfl) ?_)
  obtain⟨x8,hx8,h2l⟩:=af h2l
  refine lUn (fi Tryz.underlying22 Tryz.sizeOf25 hx8) ?_
  refine lUn (cw ty25) ?_
  refine lUn (qStNe (a:=x7) (b:=x8) eqApiSegment (by decide) rfl eqgApiSegment) ?_
  exact⟨x7,x8,h2l,atOk⟩
 refine ej ?_
 obtain rfl:=ho2 _ (Option.some.inj h2l).symm
 exact⟨h,atOk⟩
end Go.Proofs.YteablckbgpogiaaGreatDoor
