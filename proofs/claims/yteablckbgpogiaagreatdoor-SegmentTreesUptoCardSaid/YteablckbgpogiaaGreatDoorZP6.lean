/- The code comes to what these functions say (printed by wip/gen/gen.py). -/
import Derived.Test.YteablckbgpogiaaGreatDoorZX
import Derived.Test.YteablckbgpogiaaGreatDoorZR
import Derived.Test.YteablckbgpogiaaGreatDoorZT
set_option linter.unusedSimpArgs false
set_option linter.unusedVariables false
set_option linter.unusedSectionVars false
set_option linter.unusedSectionVars false
set_option maxRecDepth 100000
set_option maxHeartbeats 4000000
namespace Go.Proofs.YteablckbgpogiaaGreatDoor
open Go Go.Cn
variable [Known]
attribute [local irreducible] f5 ap
theorem parse_File_ok (x1:List UInt8) (r:(List ApiNode) × ApiMistake) (h:jj x1=some r):FnP Tryz.prog 23 [ba x1] (ce [ap rApiNode r.1,(ai).val r.2]):=by
 refine ep (rs:=[.tmp 2,.cell 3 28]) Tryz.func23 rfl Tryz.ntmps23 Tryz.results23 (by decide) (fun s0=> ?_)
 unfold jj at h
 refine W_rs (kAs rfl (a8 al28 fun b2=>W_rs (kMv rfl ?_)))
 obtain⟨⟨x3,x4⟩,hx3,h⟩:=af h
 refine kUn (qCall' (parse_run_ok _ 38 [] (fun p b r h=>parse_File_1_ok p b r h) x1 _ hx3) ⟨aa,is_clo,trivial⟩) ?_
 refine kUn ao ?_
 refine kUn ao ?_
 refine kAsL rfl (ak 0 rfl rfl (Upd.refl _) rfl Tryz.sizeOf28 ?_)
 obtain rfl:=osj h
 exact ax ⟨rfl,[ap rApiNode x3,(ai).val x4],⟨yT aa,yBox 0 ty28 aa,trivial⟩,aa⟩
theorem segment_Split_1_ok (x1:List UInt8) (x2:Int) (x4:List ApiSegment) (x7:List UInt8) (x9:Int) (b3:Nat) (v5:Value) (b6 b8:Nat) (r:(List ApiSegment) × (List UInt8) × Int) (h:segment_Split_1 x1 x2 x4 x7 x9=some r):FnC Tryz.prog 24 [ba x1,Pr.i64 x2,aj b3 0,aj b6 0,aj b8 0] [Own.cell b3 (Pr.is v5),Own.vec v5 a6 x4 25,Own.box b6 ct x7,Own.box b8 (Rp.int .i64) x9] (fun q C'=>∃w0,q=ce []/\C'=[Own.cell b3 (Pr.is w0),Own.vec w0 a6 r.1 25,Own.box b6 ct r.2.1,Own.box b8 (Rp.int .i64) r.2.2]):=by
 refine fnc_introP (rs:=[]) Tryz.func24 rfl Tryz.ntmps24 ⟨by decide,Tryz.results24⟩ (by decide) (fun s0=> ?_)
 unfold segment_Split_1 at h
 refine bj (fun e C=>∃(x11:List ApiSegment),∃(v12:Value),ou x7 x2 x11=some r/\At [(1,Pr.i64 x2),(4,aj b8 0)] [Own.cell b3 (Pr.is v12),Own.vec v12 a6 x11 25,Own.box b6 ct x7,Own.box b8 (Rp.int .i64) x9] e C) ?_ ?_
 ·rintro e C ⟨x11,v12,h,hat1⟩
  refine W_at hat1 ?_
  unfold ou at h
  refine W_r (kMv rfl (ak 3 rfl rfl (Upd.refl _) rfl Tryz.sizeOf3 ?_))
  obtain rfl:=osj h
  exact⟨.inr rfl,_,Pick.refl _,_,aa,v12,rfl,rfl⟩
 refine ib 8 hmx (by kernel_rfl) (by kernel_rfl) ?_
 refine lUn (qLoadP 0 Tryz.isAgg22) ?_
 refine lUn (hMvA rfl) (lUn (bb 2 ty9 (Sub.refl _)) ?_)
 refine lUn (bb 3 ty3 (Sub.refl _)) ?_
 refine lUn (hMvA rfl) ?_
 obtain⟨x10,hx10,h⟩:=af h
 refine lUn (qSubLH Tryz.underlying9 hx10) ?_
 refine lUn (j8 st25 ⟨(ApiSegment.mk x1 []),⟨_,rfl,rfl,fun j fd hj hf=>by match j,hj with| 0,h=>exact absurd rfl h| 1,_=>cases hf;rfl|_+2,_=>cases hf⟩,⟨(ApiSegment.mk x1 x10),⟨_,rfl,rfl,fun j fd hj hf=>by match j,hj with| 0,_=>cases hf;rfl| 1,h=>exact absurd rfl h|_+2,_=>cases hf⟩,rfl⟩⟩) ?_
 refine lUn (bt (R:=a6) (a:=(ApiSegment.mk x1 x10)) el22 (Nat.le_of_ble_eq_true rfl)) ?_
 obtain⟨x11,hx11,h⟩:=af h
 refine fg 1 el22 hx11 (fun v12=> ?_)
 refine rStoreV 0 1 Tryz.sizeOf22 ?_
 exact⟨x11,v12,h,atOk⟩
theorem segment_open_ok (x1:List UInt8) (x2 r:Int) (h:o7 x1 x2=some r):FnP Tryz.prog 42 [ba x1,Pr.i64 x2] (Pr.i64 r):=by
 refine cm (rs:=[4]) Tryz.func42 rfl Tryz.ntmps42 ⟨by decide,Tryz.results42⟩ (by decide) (fun s0=> ?_)
 unfold o7 at h
 refine W_rs (kAs rfl (W_rs (kMv rfl (kMv rfl ?_))))
 obtain⟨x3,hx3,h⟩:=af h
 refine kUn (qSubL Tryz.underlying9 hx3) ?_
 obtain⟨⟨x4,x5,x6⟩,hx4,h⟩:=af h
 refine kUn (dl (lex_Lex_ok x3 _ hx4)) ?_
 refine kUn (hMv (out:=ce [ap ah x4,Pr.i64 x5,Pr.i64 x6]) rfl) (kUn ao ?_)
 refine kUn ao ?_
 refine kUn ao ?_
 refine kAsL rfl (kAs rfl (kAs rfl (az (W_rs (kMvL rfl (kUn (mt rfl Tryz.underlying70) ?_))))))
 refine kMv rfl (a4 ?_)
 obtain⟨z2l,hz2,h⟩:=af h
 obtain⟨n2,hN2⟩:=bp hz2
 refine d7 0 (fun e C=>segment_open_k1 x1=some r/\At [(0,ba x1)] [] e C) ?_ ?_
 ·rintro e C ⟨h,hat1⟩
  refine W_at hat1 ?_
  unfold segment_open_k1 at h
  refine W_rs (kMv rfl (kUn (ol rfl Tryz.underlying9) ?_))
  refine kAs rfl ?_
  obtain rfl:=osj h
  exact ax ⟨rfl,aa⟩
 refine ew (fun m e C=>∃(x7:Int),ff (fun s=>mg x4 x2 s) m x7=some z2l/\At [(0,ba x1),(1,Pr.i64 x2),(18,ap ah x4),(19,Pr.i64 (x4.length:Int)),(20,Pr.i64 x7)] [] e C) n2 ⟨0,hN2,⟨⟨aa,aa,aa,aa,aa,trivial⟩,Pick.refl _⟩⟩ ?_
 rintro m e C ⟨x7,hN2,hatl2⟩
 refine W_at hatl2 ?_
 obtain⟨m2,w2l,rfl,h2l,hn2,ho2⟩:=bk hN2
 replace h2l:mg x4 x2 x7=some w2l:=h2l
 unfold mg at h2l
 refine W_rs (kIn rfl rfl rfl (az ?_))
 refine a7 h2l rfl (fun _ h2l=> ?_) (fun _ h2l=> ?_)
 ·refine ar (az (a4 (W_rs ?_)))
  obtain⟨x10,hx10,h2l⟩:=af h2l
  refine kUn (fi Tryz.underlying70 Tryz.sizeOf74 hx10) ?_
  refine kUn (cw ty74) ?_
  refine a8 al74 fun b11=>ak 0 rfl rfl (Upd.refl _) rfl Tryz.sizeOf74 (W_rs (kUn (av fld74_1) ?_))
  refine kUn (bb 0 ty9 subApiToken_Text) ?_
  refine kSt rfl rfl rfl ?_
  refine a7 h2l rfl (fun _ h2l=> ?_) (fun _ h2l=> ?_)
  ·refine W_rs (kMv rfl (kUn (av fld74_2) ?_))
   refine kUn (bb 0 ty3 subApiToken_At) ?_
   refine kIn rfl rfl rfl (kIn rfl rfl rfl (kAs rfl ?_))
   obtain rfl:=ho2 _ (Option.some.inj h2l).symm
   replace h:some (w64 ((w64 (x2+x10.At))+1))=some r:=h
   obtain rfl:=osj h
   exact ax ⟨rfl,aa⟩
  refine ar (W_r (kIn rfl rfl rfl (kMv rfl ?_)))
  exact⟨m2,Nat.lt_succ_self _,w64 (x7+1),hn2 _ (Option.some.inj h2l).symm,⟨⟨aa,aa,aa,aa,aa,trivial⟩,Pick.of [] rfl⟩⟩
 refine ej ?_
 obtain rfl:=ho2 _ (Option.some.inj h2l).symm
 exact⟨h,atOk⟩
theorem decls_Field_ok (x1 x2:List UInt8) (r:(List UInt8)) (h:decls_Field x1 x2=some r):FnP Tryz.prog 69 [ba x1,ba x2] (ba r):=by
 refine cm (rs:=[4]) Tryz.func69 rfl Tryz.ntmps69 ⟨by decide,Tryz.results69⟩ (by decide) (fun s0=> ?_)
 unfold decls_Field at h
 refine W_rs (kAs rfl (W_rs (kMv rfl ?_)))
 obtain⟨x3,hx3,h⟩:=af h
 refine kUn (qCat' hx3) ?_
 refine kMv rfl ?_
 obtain⟨x4,hx4,h⟩:=af h
 refine kUn (qCat' hx4) ?_
 refine kAs rfl ?_
 obtain rfl:=osj h
 exact ax ⟨rfl,aa⟩
theorem decls_Method_ok (x1 x2:List UInt8) (r:(List UInt8)) (h:decls_Method x1 x2=some r):FnP Tryz.prog 70 [ba x1,ba x2] (ba r):=by
 refine cm (rs:=[4]) Tryz.func70 rfl Tryz.ntmps70 ⟨by decide,Tryz.results70⟩ (by decide) (fun s0=> ?_)
 unfold decls_Method at h
 refine W_rs (kAs rfl (W_rs (kMv rfl (kMv rfl (cg h (decls_Field_ok x1 x2) rfl fun x3 _ h=> ?_)))))
 obtain⟨x4,hx4,h⟩:=af h
 refine kUn (qCat' hx4) ?_
 refine kAs rfl ?_
 obtain rfl:=osj h
 exact ax ⟨rfl,aa⟩
theorem segment_id_ok (x1:List UInt8) (x2:ApiNode) (r:(List UInt8)) (h:segment_id x1 x2=some r):FnP Tryz.prog 43 [ba x1,(rApiNode).val x2] (ba r):=by
 refine cm (rs:=[4]) Tryz.func43 rfl Tryz.ntmps43 ⟨by decide,Tryz.results43⟩ (by decide) (fun s0=> ?_)
 unfold segment_id at h
 refine W_rs ?_
 refine rBox (R:=rApiNode) (a:=x2) rfl (fun b3=> ?_)
 refine kAs rfl (az (W_rs (kUn (av fld48_0) ?_)))
 refine kUn (bb 0 ty3 subApiNode_Kind) ?_
 refine kIn rfl rfl rfl ?_
 refine a7 h rfl (fun _ h=> ?_) (fun _ h=> ?_)
 ·refine W_rs (kMv rfl (kUn (av oo) ?_))
  refine kUn (bb 0 ty9 ie) ?_
  refine cg h (decls_Field_ok x1 x2.Text) rfl fun x5 _ h=>kAs rfl ?_
  obtain rfl:=osj h
  exact ax ⟨rfl,aa⟩
 refine ar (W_rs (kMv rfl (kUn (av oo) ?_)))
 refine kUn (bb 0 ty9 ie) ?_
 refine cg h (decls_Method_ok x1 x2.Text) rfl fun x6 _ h=>kAs rfl ?_
 obtain rfl:=osj h
 exact ax ⟨rfl,aa⟩
theorem segment_ends_1_ok {σ:Type} (yld:σ->((List UInt8) × Int)->Option (Bool × σ)) (Y:YI σ) (l:Nat) (hY:YOK Tryz.prog Y l (fun a=>[ba a.1,Pr.i64 a.2]) yld) (x2:List ApiNode) (x4:List UInt8) (x5:σ) (b1 b3:Nat) (v6:List Nat) (r:(List ApiNode) × (List UInt8) × (σ)) (h:qf yld x2 x4 x5=some r):FnC Tryz.prog 41 ([]++[Pr.yl l]++[aj b1 0,aj b3 0]) ([Own.box b1 (bx rApiNode) x2,Own.box b3 ct x4]++[Own.grp Y x5 v6]) (fun _ C'=>∃w9,C'=[Own.box b1 (bx rApiNode) r.1,Own.box b3 ct r.2.1]++[Own.grp Y r.2.2 w9]):=by
 refine fnc_introP (rs:=[]) Tryz.func41 rfl Tryz.ntmps41 ⟨by decide,Tryz.results41⟩ (by decide) (fun s0=> ?_)
 unfold qf at h
 refine az (W_rs (kUn (bb 0 ty44 (Sub.refl _)) ?_))
 refine kUn (mt rfl Tryz.underlying44) ?_
 refine kMv rfl (a4 ?_)
 obtain⟨z2l,hz2,h⟩:=af h
 obtain⟨n2,hN2⟩:=bp hz2
 refine d7 0 (fun e C=>∃(x8:σ),∃(v9:List Nat),p7 yld x4 x2 x8=some r/\At [(0,Pr.yl l),(2,aj b3 0)] [Own.box b1 (bx rApiNode) x2,Own.box b3 ct x4,Own.grp Y x8 v9] e C) ?_ ?_
 ·rintro e C ⟨x8,v9,h,hat1⟩
  refine W_at hat1 ?_
  unfold p7 at h
  refine W_r (kUn (hMv (out:=Pr.yl l) rfl) (kUn (bb 1 ty9 (Sub.refl _)) ?_))
  refine kUn (ol rfl Tryz.underlying9) ?_
  obtain⟨⟨x41,x42⟩,hx41,h⟩:=af h
  refine rYield 2 (a:=(([36]:List UInt8),(x4.length:Int))) hY hx41 (fun v43=> ?_)
  obtain rfl:=osj h
  exact⟨.inr rfl,_,Pick.of [1,2,0] rfl,_,aa,v43,rfl⟩
 refine ew (fun m e C=>∃(x7:Int),∃(x8:σ),∃(v9:List Nat),ff (fun s=>kq yld x2 x4 s.1 s.2) m (x7,x8)=some z2l/\At [(0,Pr.yl l),(1,aj b1 0),(2,aj b3 0),(8,ap rApiNode x2),(9,Pr.i64 (x2.length:Int)),(10,Pr.i64 x7)] [Own.box b1 (bx rApiNode) x2,Own.box b3 ct x4,Own.grp Y x8 v9] e C) n2 ⟨0,x5,v6,hN2,⟨⟨aa,aa,aa,aa,aa,aa,trivial⟩,Pick.refl _⟩⟩ ?_
 rintro m e C ⟨x7,x8,v9,hN2,hatl2⟩
 refine W_at hatl2 ?_
 obtain⟨m2,w2l,rfl,h2l,hn2,ho2⟩:=bk hN2
 replace h2l:kq yld x2 x4 x7 x8=some w2l:=h2l
 unfold kq at h2l
 refine W_rs (kIn rfl rfl rfl (az ?_))
 refine a7 h2l rfl (fun _ h2l=> ?_) (fun _ h2l=> ?_)
 ·refine ar (az (a4 (W_rs ?_)))
  obtain⟨x14,hx14,h2l⟩:=af h2l
  refine kUn (fi Tryz.underlying44 Tryz.sizeOf48 hx14) ?_
  refine kUn (cw ty48) ?_
  refine a8 al48 fun b15=>ak 3 rfl rfl (Upd.refl _) rfl Tryz.sizeOf48 (az ?_)
  refine bj (fun e C=>∃(x18:Bool),∃(x19:σ),∃(v20:List Nat),p8 yld x2 x4 x14 x7 x18 x19=some w2l/\At [(0,Pr.yl l),(1,aj b1 0),(2,aj b3 0),(5,aj b15 0),(8,ap rApiNode x2),(9,Pr.i64 (x2.length:Int)),(10,Pr.i64 x7),(23,Pr.bool (!x18))] [Own.grp Y x19 v20,Own.box b1 (bx rApiNode) x2,Own.box b3 ct x4,Own.box b15 rApiNode x14] e C) ?_ ?_
  ·rintro e C ⟨x18,x19,v20,h2l,hat6⟩
   refine W_at hat6 ?_
   unfold p8 at h2l
   refine a7 h2l rfl (fun _ h2l=> ?_) (fun _ h2l=> ?_)
   ·obtain rfl:=ho2 _ (Option.some.inj h2l).symm
    replace h:some (x2,x4,x19)=some r:=h
    obtain rfl:=osj h
    exact ax ⟨.inl rfl,_,Pick.of [1,2,0] rfl,_,aa,v20,rfl⟩
   refine ar (az (W_rs (kUn (av fld48_8) ?_)))
   refine kUn (bb 3 ty44 mf) ?_
   refine kUn (mt rfl Tryz.underlying44) ?_
   refine kMv rfl (a4 ?_)
   obtain⟨z4l,hz4,h2l⟩:=af h2l
   obtain⟨n4,hN4⟩:=bp hz4
   refine d7 2 (fun e C=>∃(x23:σ),∃(v24:List Nat),pz yld x14 x2 x4 x7 x23=some w2l/\At [(0,Pr.yl l),(1,aj b1 0),(2,aj b3 0),(5,aj b15 0),(8,ap rApiNode x2),(9,Pr.i64 (x2.length:Int)),(10,Pr.i64 x7)] [Own.grp Y x23 v24,Own.box b1 (bx rApiNode) x2,Own.box b3 ct x4,Own.box b15 rApiNode x14] e C) ?_ ?_
   ·rintro e C ⟨x23,v24,h2l,hat3⟩
    refine W_at hat3 ?_
    unfold pz at h2l
    refine W_rs (kUn (hMv (out:=Pr.yl l) rfl) (kUn (av oo) ?_))
    refine kUn (bb 3 ty9 ie) ?_
    obtain⟨x36,hx36,h2l⟩:=af h2l
    refine kUn (qCat' hx36) ?_
    refine kUn (av fld48_5) ?_
    refine kUn (bb 3 ty3 pm) ?_
    obtain⟨⟨x37,x38⟩,hx37,h2l⟩:=af h2l
    refine rYield 0 (a:=(x36,x14.To)) hY hx37 (fun v39=> ?_)
    refine kNo rfl ?_
    refine a7 h2l rfl (fun _ h2l=> ?_) (fun _ h2l=> ?_)
    ·obtain rfl:=ho2 _ (Option.some.inj h2l).symm
     replace h:some (x2,x4,x38)=some r:=h
     obtain rfl:=osj h
     exact ax ⟨.inl rfl,_,Pick.of [1,2,0] rfl,_,aa,v39,rfl⟩
    refine ar (W_r (kIn rfl rfl rfl (kMv rfl ?_)))
    exact⟨m2,Nat.lt_succ_self _,w64 (x7+1),x38,v39,hn2 _ (Option.some.inj h2l).symm,⟨⟨aa,aa,aa,aa,aa,aa,trivial⟩,Pick.of [1,2,0] rfl⟩⟩
   refine ew (fun m e C=>∃(x22:Int),∃(x23:σ),∃(v24:List Nat),ff (fun s=>kp yld x14 x2 x4 s.1 s.2) m (x22,x23)=some z4l/\At [(0,Pr.yl l),(1,aj b1 0),(2,aj b3 0),(5,aj b15 0),(8,ap rApiNode x2),(9,Pr.i64 (x2.length:Int)),(10,Pr.i64 x7),(25,ap rApiNode x14.Kids),(26,Pr.i64 (x14.Kids.length:Int)),(27,Pr.i64 x22)] [Own.grp Y x23 v24,Own.box b1 (bx rApiNode) x2,Own.box b3 ct x4,Own.box b15 rApiNode x14] e C) n4 ⟨0,x19,v20,hN4,⟨⟨aa,aa,aa,aa,aa,aa,aa,aa,aa,aa,trivial⟩,Pick.refl _⟩⟩ ?_
   rintro m e C ⟨x22,x23,v24,hN4,hatl4⟩
   refine W_at hatl4 ?_
   obtain⟨m4,w4l,rfl,h4l,hn4,ho4⟩:=bk hN4
   replace h4l:kp yld x14 x2 x4 x22 x23=some w4l:=h4l
   unfold kp at h4l
   refine W_rs (kIn rfl rfl rfl (az ?_))
   refine a7 h4l rfl (fun _ h4l=> ?_) (fun _ h4l=> ?_)
   ·refine ar (az (a4 (W_rs ?_)))
    obtain⟨x29,hx29,h4l⟩:=af h4l
    refine kUn (fi Tryz.underlying44 Tryz.sizeOf48 hx29) ?_
    refine kUn (cw ty48) ?_
    refine a8 al48 fun b30=>ak 4 rfl rfl (Upd.refl _) rfl Tryz.sizeOf48 ?_
    refine bj (fun e C=>∃(x32:Bool),∃(x33:σ),∃(v34:List Nat),p9 yld x2 x4 x22 x32 x33=some w4l/\At [(0,Pr.yl l),(1,aj b1 0),(2,aj b3 0),(5,aj b15 0),(8,ap rApiNode x2),(9,Pr.i64 (x2.length:Int)),(10,Pr.i64 x7),(25,ap rApiNode x14.Kids),(26,Pr.i64 (x14.Kids.length:Int)),(27,Pr.i64 x22),(39,Pr.bool (!x32))] [Own.grp Y x33 v34,Own.box b1 (bx rApiNode) x2,Own.box b3 ct x4,Own.box b15 rApiNode x14,Own.box b30 rApiNode x29] e C) ?_ ?_
    ·rintro e C ⟨x32,x33,v34,h4l,hat5⟩
     refine W_at hat5 ?_
     unfold p9 at h4l
     refine a7 h4l rfl (fun _ h4l=> ?_) (fun _ h4l=> ?_)
     ·obtain rfl:=ho4 _ (Option.some.inj h4l).symm
      replace h2l:some (.inr (.done (x2,x4,x33)))=some w2l:=h2l
      obtain rfl:=ho2 _ (Option.some.inj h2l).symm
      replace h:some (x2,x4,x33)=some r:=h
      obtain rfl:=osj h
      exact ax ⟨.inl rfl,_,Pick.of [1,2,0] rfl,_,aa,v34,rfl⟩
     refine ar (W_r (kIn rfl rfl rfl (kMv rfl ?_)))
     exact⟨m4,Nat.lt_succ_self _,w64 (x22+1),x33,v34,hn4 _ (Option.some.inj h4l).symm,⟨⟨aa,aa,aa,aa,aa,aa,aa,aa,aa,aa,trivial⟩,Pick.of [0,1,2,3] rfl⟩⟩
    refine ib 7 hmx (by kernel_rfl) (by kernel_rfl) ?_
    refine lUn (hMv (out:=Pr.yl l) rfl) (lUn (av oo) ?_)
    refine lUn (bb 3 ty9 ie) ?_
    refine lUn (bb 4 ty48 (Sub.refl _)) ?_
    obtain⟨x31,hx31,h4l⟩:=af h4l
    refine lUn (dl (segment_id_ok x14.Text x29 _ hx31)) ?_
    refine lUn (av fld48_5) ?_
    refine lUn (bb 4 ty3 pm) ?_
    obtain⟨⟨x32,x33⟩,hx32,h4l⟩:=af h4l
    refine rYield 0 (a:=(x31,x29.To)) hY hx32 (fun v34=> ?_)
    refine kNo rfl ?_
    exact⟨x32,x33,v34,h4l,atOk⟩
   refine ej ?_
   obtain rfl:=ho4 _ (Option.some.inj h4l).symm
   exact⟨x23,v24,h2l,atOk⟩
  refine ib 8 hmx (by kernel_rfl) (by kernel_rfl) ?_
  refine lUn (hMv (out:=Pr.yl l) rfl) (lUn (av oo) ?_)
  refine lUn (bb 3 ty9 ie) ?_
  obtain⟨x16,hx16,h2l⟩:=af h2l
  refine lUn (qCat' hx16) ?_
  refine lUn (bb 1 ty9 (Sub.refl _)) ?_
  refine lUn (av fld48_4) ?_
  refine lUn (bb 3 ty3 subApiNode_From) ?_
  obtain⟨x17,hx17,h2l⟩:=af h2l
  refine lUn (dl (segment_open_ok x4 x14.From _ hx17)) ?_
  obtain⟨⟨x18,x19⟩,hx18,h2l⟩:=af h2l
  refine rYield 2 (a:=(x16,x17)) hY hx18 (fun v20=> ?_)
  refine kNo rfl ?_
  exact⟨x18,x19,v20,h2l,atOk⟩
 refine ej ?_
 obtain rfl:=ho2 _ (Option.some.inj h2l).symm
 exact⟨x8,v9,h,atOk⟩
theorem segment_ends_ok (x1:List UInt8) (x2:List ApiNode):FnC Tryz.prog 25 [ba x1,ap rApiNode x2] [] (fun q C'=>∃b4 b3,q=Pr.clo 41 [] [aj b4 0,aj b3 0]/\C'=[Own.box b4 (bx rApiNode) x2,Own.box b3 ct x1]):=by
 refine fnc_introP (rs:=[4]) Tryz.func25 rfl Tryz.ntmps25 ⟨by decide,Tryz.results25⟩ (by decide) (fun s0=> ?_)
 refine W_rs ?_
 refine rBox (R:=ct) (a:=x1) rfl (fun b3=> ?_)
 refine rBox (R:=bx rApiNode) (a:=x2) rfl (fun b4=> ?_)
 refine kAs rfl (W_rs (kUn qMakeFunc ?_))
 refine kUn (hAs (out:=Pr.clo 41 [] [aj b4 0,aj b3 0]) rfl) ?_
 exact ax ⟨.inl rfl,_,Pick.of [1,0] rfl,_,aa,b4,b3,rfl,rfl⟩
theorem segment_Split_ok (x1:List UInt8) (r:(List ApiSegment) × ApiMistake) (h:pn x1=some r):FnC Tryz.prog 7 [ba x1] [] (fun q C'=>∃u0,q=ce [Pr.is u0,(ai).val r.2]/\C'=[Own.vec u0 a6 r.1 25]):=by
 refine fnc_introR (rs:=[.tmp 2,.cell 3 28]) Tryz.func7 rfl Tryz.ntmps7 Tryz.results7 (by decide) (fun s0=> ?_)
 unfold pn at h
 refine W_rs ?_
 refine rBox (R:=ct) (a:=x1) rfl (fun b2=> ?_)
 refine kAs rfl (a8 al28 fun b3=>W_rs (kUn (bb 0 ty9 (Sub.refl _)) ?_))
 obtain⟨⟨x4,x5⟩,hx4,h⟩:=af h
 refine kUn (dl (parse_File_ok x1 _ hx4)) ?_
 refine kUn (hMv (out:=ce [ap rApiNode x4,(ai).val x5]) rfl) (kUn ao ?_)
 refine kUn ao ?_
 refine a8 al28 fun b6=>kAsL rfl (ak 2 rfl rfl (Upd.refl _) rfl Tryz.sizeOf28 (az (W_rs (kUn (av fld28_0) ?_))))
 refine kUn (bb 2 ty26 gu) ?_
 refine kIn rfl rfl rfl ?_
 refine a7 h rfl (fun _ h=> ?_) (fun _ h=> ?_)
 ·refine bj (fun e C=>segment_Split_j1 x5=some r/\At [(2,Pr.is (.slice none 0 0)),(3,aj b3 0)] [Own.box b2 ct x1,Own.box b3 ai x5,Own.box b6 ai x5] e C) ?_ ?_
  ·rintro e C ⟨h,hat1⟩
   refine W_at hat1 ?_
   unfold segment_Split_j1 at h
   refine W_nil [2] a6 25 (fun v8=> ?_) ⟨rfl,trivial⟩
   obtain rfl:=osj h
   exact ax ⟨.inl rfl,[Pr.is v8,(ai).val x5],⟨yT aa,yBox 1 ty28 aa,trivial⟩,_,Pick.of [3] rfl,v8,rfl,rfl⟩
  refine ib 2 hmx (by kernel_rfl) (by kernel_rfl) ?_
  refine lUn (bb 2 ty28 (Sub.refl _)) ?_
  refine lUn (hAsA rfl) (ak 1 rfl rfl (Upd.refl _) rfl Tryz.sizeOf28 ?_)
  exact⟨h,atOk⟩
 refine ar (W_rs ?_)
 refine rAllocC Tryz.zeroValue22 rfl rfl (fun b9=> ?_)
 refine W_rs (a8 al3 fun b10=>ak 4 rfl rfl (Upd.refl _) rfl Tryz.sizeOf3 (W_rs (kUn qMakeFunc ?_)))
 refine rAllocC Tryz.zeroValue51 rfl rfl (fun b11=> ?_)
 refine rStoreC (q:=Pr.clo 24 [] [aj b9 0,aj b2 0,aj b10 0]) 5 Tryz.sizeOf51 (fun _ _ ⟨_,_,h,_⟩=>by cases h;rfl) ?_
 refine W_rs2 ?_
 refine W_r (kUn (bb 0 ty9 (Sub.refl _)) ?_)
 refine kMvL rfl ?_
 refine jp [] (segment_ends_ok x1 x4) (fun q C' hq=> ?_)
 obtain⟨b12,b13,rfl,rfl⟩:=hq
 refine⟨rfl,?_⟩
 obtain⟨⟨x28,x29,x30⟩,hx31,h⟩:=af h
 refine WR_vec a6 25 ?_
 refine WR_ret ?_
 refine W_range [0,1] (fun(s:(List UInt8) × Int × (List ApiSegment)) C=>∃(v17:Value),C=[Own.box b2 ct s.1,Own.box b3 ai (ApiMistake.mk 0 0 0),Own.box b6 ai x5,Own.cell b9 (Pr.is v17),Own.box b10 (Rp.int .i64) s.2.1,Own.cell b11 (Pr.clo 24 [] [aj b9 0,aj b2 0,aj b10 0]),Own.vec v17 a6 s.2.2 25]) (encs:=(fun(a:(List UInt8) × Int)=>[ba a.1,Pr.i64 a.2])) (yld:=(fun(s:(List UInt8) × Int × (List ApiSegment)) (a:(List UInt8) × Int)=>jg s.1 s.2.1 s.2.2 a.1 a.2)) (st0:=(x1,0,[])) (stF:=x30) (Ccap':=[Own.box b12 (bx rApiNode) x28,Own.box b13 ct x29]) (fun l Y L hY=>segment_ends_1_ok _ Y l hY x4 x1 (x1,0,[]) b12 b13 L _ hx31) ⟨(.slice none 0 0),rfl⟩ (fun _=>rfl) ?_ ?_ (fun _ _ _ h=>h.1)
 ·rintro l ⟨x16,x18,x19⟩ ⟨x14,x15⟩ ⟨rb2,rs2⟩ C T s0 ⟨v17,rfl⟩ hy2
  replace hy2:jg x16 x18 x19 x14 x15=some (rb2,rs2):=hy2
  unfold jg at hy2
  refine W_rs (kAs rfl (W_r (kAs rfl ?_)))
  refine⟨rfl,fun T s0=> ?_⟩
  refine W_pickK ?_
  refine a4 (W_r (kUn (qLoadP 5 Tryz.isAgg51) ?_))
  refine kMv rfl (kMv rfl ?_)
  obtain⟨⟨x24,x26,x27⟩,hx24,hy2⟩:=af hy2
  refine rCallK [3,6,0,4] (segment_Split_1_ok x14 x15 x19 x16 x18 b9 v17 b2 b10 _ hx24) (fun q C' hq=> ?_)
  obtain⟨v25,rfl,rfl⟩:=hq
  obtain⟨rfl,rfl⟩:=Prod.mk.inj (Option.some.inj hy2)
  exact⟨_,Pick.of [2,4,5,0,3,6,1] rfl,rfl,rfl,v25,rfl⟩
 rintro D C' T s0 ⟨v17,rfl⟩
 refine bj (fun e C=>qp x30 x5=some r/\At [(2,Pr.is v17),(3,aj b3 0)] [Own.box b12 (bx rApiNode) x28,Own.box b13 ct x29,Own.box b2 ct x30.1,Own.box b3 ai x5,Own.box b6 ai x5,Own.cell b9 (Pr.is v17),Own.box b10 (Rp.int .i64) x30.2.1,Own.cell b11 (Pr.clo 24 [] [aj b9 0,aj b2 0,aj b10 0]),Own.vec v17 a6 x30.2.2 25] e C) ?_ ?_
 ·rintro e C ⟨h,hat3⟩
  refine W_at hat3 ?_
  unfold qp at h
  obtain rfl:=osj h
  exact ax ⟨rfl,.inl rfl,[Pr.is v17,(ai).val x5],⟨yT aa,yBox 3 ty28 aa,trivial⟩,_,Pick.of [8] rfl,v17,rfl,rfl⟩
 refine ib 3 hmx (by kernel_rfl) (by kernel_rfl) ?_
 refine lUn (qLoadP 5 Tryz.isAgg22) ?_
 refine lUn (bb 4 ty28 (Sub.refl _)) ?_
 refine lUn (hAsA rfl) (ak 3 rfl rfl (Upd.refl _) rfl Tryz.sizeOf28 ?_)
 exact⟨h,atOk⟩
theorem segment_Get_ok (x1:List ApiSegment) (x2:List UInt8) (r:(List UInt8) × Bool) (h:segment_Get x1 x2=some r):FnP Tryz.prog 9 [ap a6 x1,ba x2] (ce [ba r.1,Pr.bool r.2]):=by
 refine cm (rs:=[4,5]) Tryz.func9 rfl Tryz.ntmps9 ⟨by decide,Tryz.results9⟩ (by decide) (fun s0=> ?_)
 unfold segment_Get at h
 refine W_rs (kAs rfl (kAs rfl (az (W_rs (kMvL rfl (kUn (mt rfl Tryz.underlying22) ?_))))))
 refine kMv rfl (a4 ?_)
 obtain⟨z2l,hz2,h⟩:=af h
 obtain⟨n2,hN2⟩:=bp hz2
 refine d7 0 (fun e C=>segment_Get_k1=some r/\At [] [] e C) ?_ ?_
 ·rintro e C ⟨h,hat1⟩
  refine W_at hat1 ?_
  unfold segment_Get_k1 at h
  refine W_rs (kAs rfl (kAs rfl ?_))
  obtain rfl:=osj h
  exact ax ⟨rfl,aa⟩
 refine ew (fun m e C=>∃(x3:Int),ff (fun s=>segment_Get_l2 x1 x2 s) m x3=some z2l/\At [(1,ba x2),(8,ap a6 x1),(9,Pr.i64 (x1.length:Int)),(10,Pr.i64 x3)] [] e C) n2 ⟨0,hN2,⟨⟨aa,aa,aa,aa,trivial⟩,Pick.refl _⟩⟩ ?_
 rintro m e C ⟨x3,hN2,hatl2⟩
 refine W_at hatl2 ?_
 obtain⟨m2,w2l,rfl,h2l,hn2,ho2⟩:=bk hN2
 replace h2l:segment_Get_l2 x1 x2 x3=some w2l:=h2l
 unfold segment_Get_l2 at h2l
 refine W_rs (kIn rfl rfl rfl (az ?_))
 refine a7 h2l rfl (fun _ h2l=> ?_) (fun _ h2l=> ?_)
 ·refine ar (az (a4 (W_rs ?_)))
  obtain⟨x6,hx6,h2l⟩:=af h2l
  refine kUn (fi Tryz.underlying22 Tryz.sizeOf25 hx6) ?_
  refine kUn (cw ty25) ?_
  refine a8 al25 fun b7=>ak 0 rfl rfl (Upd.refl _) rfl Tryz.sizeOf25 (W_rs (kUn (av fld25_0) ?_))
  refine kUn (bb 0 ty9 mo) ?_
  refine kMv rfl (kSt rfl rfl rfl ?_)
  refine a7 h2l rfl (fun _ h2l=> ?_) (fun _ h2l=> ?_)
  ·refine W_rs (kUn (av fld25_1) ?_)
   refine kUn (bb 0 ty9 subApiSegment_Text) ?_
   refine kAs rfl (kAs rfl ?_)
   obtain rfl:=ho2 _ (Option.some.inj h2l).symm
   replace h:some (x6.Text,true)=some r:=h
   obtain rfl:=osj h
   exact ax ⟨rfl,aa⟩
  refine ar (W_r (kIn rfl rfl rfl (kMv rfl ?_)))
  exact⟨m2,Nat.lt_succ_self _,w64 (x3+1),hn2 _ (Option.some.inj h2l).symm,⟨⟨aa,aa,aa,aa,trivial⟩,Pick.of [] rfl⟩⟩
 refine ej ?_
 obtain rfl:=ho2 _ (Option.some.inj h2l).symm
 exact⟨h,atOk⟩
theorem segment_Join_ok (x1:List ApiSegment) (r:(List UInt8)) (h:segment_Join x1=some r):FnP Tryz.prog 12 [ap a6 x1] (ba r):=by
 refine cm (rs:=[2]) Tryz.func12 rfl Tryz.ntmps12 ⟨by decide,Tryz.results12⟩ (by decide) (fun s0=> ?_)
 unfold segment_Join at h
 refine W_rs (kAs rfl (W_rs ?_))
 refine rAllocB (e:=5) Tryz.zeroValue60 (fun b2=> ?_)
 refine az (W_rs (kMvL rfl (kUn (mt rfl Tryz.underlying22) ?_)))
 refine kMv rfl (a4 ?_)
 obtain⟨z2l,hz2,h⟩:=af h
 obtain⟨n2,hN2⟩:=bp hz2
 refine d7 0 (fun e C=>∃(x5:List UInt8),∃(v4:Value),segment_Join_k1 x5=some r/\At [(3,aj b2 0)] [Own.bld 60 b2 v4,Own.vec v4 i2 x5 5] e C) ?_ ?_
 ·rintro e C ⟨x5,v4,h,hat1⟩
  refine W_at hat1 ?_
  unfold segment_Join_k1 at h
  refine W_rs ?_
  refine jp [0,1] (Builder_String_ok b2 v4 x5) (fun q C' hq=> ?_)
  obtain⟨rfl,rfl⟩:=hq
  refine kAs rfl ?_
  obtain rfl:=osj h
  exact ax ⟨rfl,aa⟩
 refine ew (fun m e C=>∃(x3:Int),∃(x5:List UInt8),∃(v4:Value),ff (fun s=>segment_Join_l2 x1 s.1 s.2) m (x3,x5)=some z2l/\At [(3,aj b2 0),(6,ap a6 x1),(7,Pr.i64 (x1.length:Int)),(8,Pr.i64 x3)] [Own.bld 60 b2 v4,Own.vec v4 i2 x5 5] e C) n2 ⟨0,[],(.slice none 0 0),hN2,⟨⟨aa,aa,aa,aa,trivial⟩,Pick.refl _⟩⟩ ?_
 rintro m e C ⟨x3,x5,v4,hN2,hatl2⟩
 refine W_at hatl2 ?_
 obtain⟨m2,w2l,rfl,h2l,hn2,ho2⟩:=bk hN2
 replace h2l:segment_Join_l2 x1 x3 x5=some w2l:=h2l
 unfold segment_Join_l2 at h2l
 refine W_rs (kIn rfl rfl rfl (az ?_))
 refine a7 h2l rfl (fun _ h2l=> ?_) (fun _ h2l=> ?_)
 ·refine ar (az (a4 (W_rs ?_)))
  obtain⟨x10,hx10,h2l⟩:=af h2l
  refine kUn (fi Tryz.underlying22 Tryz.sizeOf25 hx10) ?_
  refine kUn (cw ty25) ?_
  refine a8 al25 fun b11=>ak 2 rfl rfl (Upd.refl _) rfl Tryz.sizeOf25 (W_r (kUn (av fld25_1) ?_))
  refine kUn (bb 2 ty9 subApiSegment_Text) ?_
  obtain⟨x12,hx12,h2l⟩:=af h2l
  refine jp [0,1] (Builder_WriteString_ok b2 v4 x5 x10.Text _ hx12) (fun q C' hq=> ?_)
  obtain⟨v13,rfl,rfl⟩:=hq
  refine W_r (kIn rfl rfl rfl (kMv rfl ?_))
  exact⟨m2,Nat.lt_succ_self _,w64 (x3+1),x12,v13,hn2 _ (Option.some.inj h2l).symm,⟨⟨aa,aa,aa,aa,trivial⟩,Pick.of [0,1] rfl⟩⟩
 refine ej ?_
 obtain rfl:=ho2 _ (Option.some.inj h2l).symm
 exact⟨x5,v4,h,atOk⟩
theorem segment_Keys_ok (x1:List ApiSegment) (r:(List (List UInt8))) (h:segment_Keys x1=some r):FnP Tryz.prog 15 [ap a6 x1] (ap ct r):=by
 refine cm (rs:=[2]) Tryz.func15 rfl Tryz.ntmps15 ⟨by decide,Tryz.results15⟩ (by decide) (fun s0=> ?_)
 unfold segment_Keys at h
 refine W_rs (kAs rfl (W_rs (kAs rfl (az (W_rs (kMvL rfl (kUn (mt rfl Tryz.underlying22) ?_)))))))
 refine kMv rfl (a4 ?_)
 obtain⟨z2l,hz2,h⟩:=af h
 obtain⟨n2,hN2⟩:=bp hz2
 refine d7 0 (fun e C=>∃(x4:List (List UInt8)),∃(v2:Value),segment_Keys_k1 x4=some r/\At [(3,Pr.is v2)] [Own.vec v2 ct x4 9] e C) ?_ ?_
 ·rintro e C ⟨x4,v2,h,hat1⟩
  refine W_at hat1 ?_
  unfold segment_Keys_k1 at h
  refine W_rs (kMv rfl (kAs rfl ?_))
  refine W_rel 0 [2] ?_ rfl ⟨rfl,trivial⟩
  obtain rfl:=osj h
  exact ax ⟨rfl,aa⟩
 refine W_nil [3] ct 9 (fun v13=> ?_) ⟨rfl,trivial⟩
 refine ew (fun m e C=>∃(x3:Int),∃(x4:List (List UInt8)),∃(v2:Value),ff (fun s=>segment_Keys_l2 x1 s.1 s.2) m (x3,x4)=some z2l/\At [(3,Pr.is v2),(6,ap a6 x1),(7,Pr.i64 (x1.length:Int)),(8,Pr.i64 x3)] [Own.vec v2 ct x4 9] e C) n2 ⟨0,[],v13,hN2,⟨⟨aa,aa,aa,aa,trivial⟩,Pick.refl _⟩⟩ ?_
 rintro m e C ⟨x3,x4,v2,hN2,hatl2⟩
 refine W_at hatl2 ?_
 obtain⟨m2,w2l,rfl,h2l,hn2,ho2⟩:=bk hN2
 replace h2l:segment_Keys_l2 x1 x3 x4=some w2l:=h2l
 unfold segment_Keys_l2 at h2l
 refine W_rs (kIn rfl rfl rfl (az ?_))
 refine a7 h2l rfl (fun _ h2l=> ?_) (fun _ h2l=> ?_)
 ·refine ar (az (a4 (W_rs ?_)))
  obtain⟨x9,hx9,h2l⟩:=af h2l
  refine kUn (fi Tryz.underlying22 Tryz.sizeOf25 hx9) ?_
  refine kUn (cw ty25) ?_
  refine a8 al25 fun b10=>ak 1 rfl rfl (Upd.refl _) rfl Tryz.sizeOf25 (W_r (kMv rfl (kUn (av fld25_0) ?_)))
  refine kUn (bb 1 ty9 mo) ?_
  refine kUn (bt (R:=ct) (a:=x9.Key) el36 (Nat.le_of_ble_eq_true rfl)) ?_
  obtain⟨x11,hx11,h2l⟩:=af h2l
  refine fg 0 el36 hx11 (fun v12=> ?_)
  refine kAs rfl (W_r (kIn rfl rfl rfl (kMv rfl ?_)))
  exact⟨m2,Nat.lt_succ_self _,w64 (x3+1),x11,v12,hn2 _ (Option.some.inj h2l).symm,⟨⟨aa,aa,aa,aa,trivial⟩,Pick.of [0] rfl⟩⟩
 refine ej ?_
 obtain rfl:=ho2 _ (Option.some.inj h2l).symm
 exact⟨x4,v2,h,atOk⟩
theorem segment_Body_ok (x1:List UInt8) (r:Bool) (h:segment_Body x1=some r):FnP Tryz.prog 17 [ba x1] (Pr.bool r):=by
 refine cm (rs:=[2]) Tryz.func17 rfl Tryz.ntmps17 ⟨by decide,Tryz.results17⟩ (by decide) (fun s0=> ?_)
 unfold segment_Body at h
 refine W_rs (kAs rfl (W_rs (kMv rfl (cg h (strings_HasSuffix_ok x1 ([40,41]:List UInt8)) rfl fun x2 _ h=>kAs rfl ?_))))
 obtain rfl:=osj h
 exact ax ⟨rfl,aa⟩
theorem tree_Size_ok (x1:List ApiFile) (r:Int) (h:tree_Size x1=some r):FnP Tryz.prog 72 [ap en x1] (Pr.i64 r):=by
 refine cm (rs:=[2]) Tryz.func72 rfl Tryz.ntmps72 ⟨by decide,Tryz.results72⟩ (by decide) (fun s0=> ?_)
 unfold tree_Size at h
 refine W_rs (kAs rfl (W_rs (kAs rfl (az (W_rs (kMvL rfl (kUn (mt rfl Tryz.underlying40) ?_)))))))
 refine kMv rfl (a4 ?_)
 obtain⟨z2l,hz2,h⟩:=af h
 obtain⟨n2,hN2⟩:=bp hz2
 refine d7 0 (fun e C=>∃(x2:Int),tree_Size_k1 x2=some r/\At [(3,Pr.i64 x2)] [] e C) ?_ ?_
 ·rintro e C ⟨x2,h,hat1⟩
  refine W_at hat1 ?_
  unfold tree_Size_k1 at h
  refine W_rs (kMv rfl (kAs rfl ?_))
  obtain rfl:=osj h
  exact ax ⟨rfl,aa⟩
 refine ew (fun m e C=>∃(x2:Int),∃(x3:Int),ff (fun s=>q8 x1 s.1 s.2) m (x2,x3)=some z2l/\At [(3,Pr.i64 x2),(6,ap en x1),(7,Pr.i64 (x1.length:Int)),(8,Pr.i64 x3)] [] e C) n2 ⟨0,0,hN2,⟨⟨aa,aa,aa,aa,trivial⟩,Pick.refl _⟩⟩ ?_
 rintro m e C ⟨x2,x3,hN2,hatl2⟩
 refine W_at hatl2 ?_
 obtain⟨m2,w2l,rfl,h2l,hn2,ho2⟩:=bk hN2
 replace h2l:q8 x1 x2 x3=some w2l:=h2l
 unfold q8 at h2l
 refine W_rs (kIn rfl rfl rfl (az ?_))
 refine a7 h2l rfl (fun _ h2l=> ?_) (fun _ h2l=> ?_)
 ·refine ar (az (a4 (W_rs ?_)))
  obtain⟨x7,hx7,h2l⟩:=af h2l
  refine kUn (fi Tryz.underlying40 Tryz.sizeOf50 hx7) ?_
  refine kUn (cw ty50) ?_
  refine a8 al50 fun b8=>ak 0 rfl rfl (Upd.refl _) rfl Tryz.sizeOf50 (W_r (kMv rfl (kUn (av fld50_1) ?_)))
  refine kUn (bb 0 ty9 kz) ?_
  refine kUn (ol rfl Tryz.underlying9) ?_
  refine kIn rfl rfl rfl (kAs rfl (W_r (kIn rfl rfl rfl (kMv rfl ?_))))
  exact⟨m2,Nat.lt_succ_self _,w64 (x2+(x7.Text.length:Int)),w64 (x3+1),hn2 _ (Option.some.inj h2l).symm,⟨⟨aa,aa,aa,aa,trivial⟩,Pick.of [] rfl⟩⟩
 refine ej ?_
 obtain rfl:=ho2 _ (Option.some.inj h2l).symm
 exact⟨x2,h,atOk⟩
theorem tree_Path_ok (x1:List UInt8) (r:Bool) (h:tree_Path x1=some r):FnP Tryz.prog 73 [ba x1] (Pr.bool r):=by
 refine cm (rs:=[2]) Tryz.func73 rfl Tryz.ntmps73 ⟨by decide,Tryz.results73⟩ (by decide) (fun s0=> ?_)
 unfold tree_Path at h
 refine W_rs (kAs rfl ?_)
 refine bj (fun e C=>∃(x31:Bool),mv x31=some r/\At [(2,Pr.bool x31)] [] e C) ?_ ?_
 ·rintro e C ⟨x31,h,hat1⟩
  refine W_at hat1 ?_
  unfold mv at h
  obtain rfl:=osj h
  exact ax ⟨rfl,aa⟩
 refine W_r (kMv rfl (kSt rfl rfl rfl (kMv rfl ?_)))
 rcases bd h with⟨hc2,h⟩|⟨hc2,h⟩
 ·refine kGd rfl aa hc2 (hMvA rfl) (kGd rfl aa hc2 (ol rfl Tryz.underlying9) ?_)
  refine kGd rfl aa hc2 (qInt rfl rfl rfl) (kPt rfl hc2 rfl (kMv rfl ?_))
  rcases bd h with⟨hc3,h⟩|⟨hc3,h⟩
  ·refine kGd rfl aa hc3 (hMvA rfl) ?_
   obtain⟨x4,hx4,h⟩:=af h
   refine kGd rfl aa hc3 (dl (strings_Trim_ok x1 ([97,98,99,100,101,102,103,104,105,106,107,108,109,110,111,112,113,114,115,116,117,118,119,120,121,122,65,66,67,68,69,70,71,72,73,74,75,76,77,78,79,80,81,82,83,84,85,86,87,88,89,90,48,49,50,51,52,53,54,55,56,57,46,95,47]:List UInt8) _ hx4)) ?_
   refine kGd rfl aa hc3 (qStr rfl rfl rfl) (kPt rfl hc3 rfl (kMv rfl ?_))
   rcases bd h with⟨hc5,h⟩|⟨hc5,h⟩
   ·refine kGd rfl aa hc5 (hMvA rfl) ?_
    obtain⟨x6,hx6,h⟩:=af h
    refine kGd rfl aa hc5 (dl (mc x1 ([47]:List UInt8) _ hx6)) ?_
    refine kGd rfl aa hc5 (qNot rfl) (kPt rfl hc5 rfl (kMv rfl ?_))
    rcases bd h with⟨hc7,h⟩|⟨hc7,h⟩
    ·refine kGd rfl aa hc7 (hMvA rfl) ?_
     obtain⟨x8,hx8,h⟩:=af h
     refine kGd rfl aa hc7 (dl (strings_HasSuffix_ok x1 ([47]:List UInt8) _ hx8)) ?_
     refine kGd rfl aa hc7 (qNot rfl) (kPt rfl hc7 rfl (kAs rfl ?_))
     exact⟨!x8,h,atOk⟩
    refine kSkT rfl aa hc7 (kSkT rfl aa hc7 (kSkT rfl aa hc7 (kPf rfl hc7 rfl (kAs rfl ?_))))
    exact⟨false,h,atOk⟩
   refine kSkT rfl aa hc5 (kSkT rfl aa hc5 (kSkT rfl aa hc5 (kPf rfl hc5 rfl (kMv rfl ?_))))
   have hc9:false=false:=rfl
   refine kSkT rfl aa hc9 (kSkT rfl aa hc9 (kSkT rfl aa hc9 (kPf rfl hc9 rfl (kAs rfl ?_))))
   exact⟨false,h,atOk⟩
  refine kSkT rfl aa hc3 (kSkT rfl aa hc3 (kSkT rfl aa hc3 (kPf rfl hc3 rfl (kMv rfl ?_))))
  have hc11:false=false:=rfl
  refine kSkT rfl aa hc11 (kSkT rfl aa hc11 (kSkT rfl aa hc11 (kPf rfl hc11 rfl (kMv rfl ?_))))
  have hc15:false=false:=rfl
  refine kSkT rfl aa hc15 (kSkT rfl aa hc15 (kSkT rfl aa hc15 (kPf rfl hc15 rfl (kAs rfl ?_))))
  exact⟨false,h,atOk⟩
 refine kSkT rfl aa hc2 (kSkT rfl aa hc2 (kSkT rfl aa hc2 (kPf rfl hc2 rfl (kMv rfl ?_))))
 have hc17:false=false:=rfl
 refine kSkT rfl aa hc17 (kSkT rfl aa hc17 (kSkT rfl aa hc17 (kPf rfl hc17 rfl (kMv rfl ?_))))
 have hc25:false=false:=rfl
 refine kSkT rfl aa hc25 (kSkT rfl aa hc25 (kSkT rfl aa hc25 (kPf rfl hc25 rfl (kMv rfl ?_))))
 have hc29:false=false:=rfl
 refine kSkT rfl aa hc29 (kSkT rfl aa hc29 (kSkT rfl aa hc29 (kPf rfl hc29 rfl (kAs rfl ?_))))
 exact⟨false,h,atOk⟩
theorem tree_Check_ok (x1:List ApiFile) (r:Int) (h:tree_Check x1=some r):FnP Tryz.prog 48 [ap en x1] (Pr.i64 r):=by
 refine cm (rs:=[2]) Tryz.func48 rfl Tryz.ntmps48 ⟨by decide,Tryz.results48⟩ (by decide) (fun s0=> ?_)
 unfold tree_Check at h
 refine W_rs (kAs rfl (az ?_))
 refine bj (fun e C=>∃(x4:Bool),nb x1 x4=some r/\At [(0,ap en x1),(12,Pr.bool x4)] [] e C) ?_ ?_
 ·rintro e C ⟨x4,h,hat4⟩
  refine W_at hat4 ?_
  unfold nb at h
  refine a7 h rfl (fun _ h=> ?_) (fun _ h=> ?_)
  ·refine W_rs (kAs rfl ?_)
   obtain rfl:=osj h
   exact ax ⟨rfl,aa⟩
  refine ar (az (W_rs (kMvL rfl (kUn (mt rfl Tryz.underlying40) ?_))))
  refine kMv rfl (a4 ?_)
  obtain⟨z2l,hz2,h⟩:=af h
  obtain⟨n2,hN2⟩:=bp hz2
  refine d7 0 (fun e C=>tree_Check_k1=some r/\At [] [] e C) ?_ ?_
  ·rintro e C ⟨h,hat1⟩
   refine W_at hat1 ?_
   unfold tree_Check_k1 at h
   refine W_rs (kAs rfl ?_)
   obtain rfl:=osj h
   exact ax ⟨rfl,aa⟩
  refine ew (fun m e C=>∃(x6:Int),ff (fun s=>kf x1 s) m x6=some z2l/\At [(0,ap en x1),(13,ap en x1),(14,Pr.i64 (x1.length:Int)),(15,Pr.i64 x6)] [] e C) n2 ⟨0,hN2,⟨⟨aa,aa,aa,aa,trivial⟩,Pick.refl _⟩⟩ ?_
  rintro m e C ⟨x6,hN2,hatl2⟩
  refine W_at hatl2 ?_
  obtain⟨m2,w2l,rfl,h2l,hn2,ho2⟩:=bk hN2
  replace h2l:kf x1 x6=some w2l:=h2l
  unfold kf at h2l
  refine W_rs (kIn rfl rfl rfl (az ?_))
  refine a7 h2l rfl (fun _ h2l=> ?_) (fun _ h2l=> ?_)
  ·refine ar (az (a4 (W_rs (kMv rfl ?_))))
   obtain⟨x9,hx9,h2l⟩:=af h2l
   refine kUn (fi Tryz.underlying40 Tryz.sizeOf50 hx9) ?_
   refine kUn (cw ty50) ?_
   refine a8 al50 fun b10=>kAs rfl (ak 0 rfl rfl (Upd.refl _) rfl Tryz.sizeOf50 ?_)
   refine bj (fun e C=>∃(x15:Bool),lk x6 x15=some w2l/\At [(0,ap en x1),(13,ap en x1),(14,Pr.i64 (x1.length:Int)),(15,Pr.i64 x6),(38,Pr.bool x15)] [Own.box b10 en x9] e C) ?_ ?_
   ·rintro e C ⟨x15,h2l,hat3⟩
    refine W_at hat3 ?_
    unfold lk at h2l
    refine a7 h2l rfl (fun _ h2l=> ?_) (fun _ h2l=> ?_)
    ·refine W_rs (kAs rfl ?_)
     obtain rfl:=ho2 _ (Option.some.inj h2l).symm
     replace h:some 100=some r:=h
     obtain rfl:=osj h
     exact ax ⟨rfl,aa⟩
    refine ar (W_r (kIn rfl rfl rfl (kMv rfl ?_)))
    exact⟨m2,Nat.lt_succ_self _,w64 (x6+1),hn2 _ (Option.some.inj h2l).symm,⟨⟨aa,aa,aa,aa,trivial⟩,Pick.of [] rfl⟩⟩
   refine ib 19 hmx (by kernel_rfl) (by kernel_rfl) ?_
   refine lUn (av fld50_0) ?_
   refine lUn (bb 0 ty9 i6) ?_
   obtain⟨x11,hx11,h2l⟩:=af h2l
   refine lUn (dl (tree_Path_ok x9.Path _ hx11)) ?_
   refine lUn (qNot rfl) (lUn (hMvA rfl) ?_)
   rcases bd h2l with⟨hc12,h2l⟩|⟨hc12,h2l⟩
   ·refine lSkF rfl aa hc12 (lSkF rfl aa hc12 (lSkF rfl aa hc12 (lSkU rfl aa (lSkU rfl aa (lSkU rfl aa (lSkU rfl aa (lSkU rfl aa (lSkU rfl aa (lSkU rfl aa (lSkU rfl aa (lSkU rfl aa ?_)))))))))))
    refine lSkF rfl aa hc12 (lUn (hPt rfl hc12 rfl) ?_)
    exact⟨true,h2l,atOk⟩
   refine lGd rfl aa hc12 (hMvA rfl) (lGd rfl aa hc12 (qInt rfl rfl rfl) (lGd rfl aa hc12 (hMvA rfl) ?_))
   rcases bd h2l with⟨hc13,h2l⟩|⟨hc13,h2l⟩
   ·refine lGd rfl aa hc13 (hMvL rfl) (lGd rfl aa hc13 (hMvA rfl) (lGd rfl aa hc13 (qInt rfl rfl rfl) ?_))
    obtain⟨x14,hx14,h2l⟩:=af h2l
    refine lGd rfl aa hc13 (fi Tryz.underlying40 Tryz.sizeOf50 hx14) ?_
    refine lGd rfl aa hc13 (de fld50_0 i6) ?_
    refine lGd rfl aa hc13 (cw ty9) ?_
    refine lGd rfl aa hc13 (av fld50_0) ?_
    refine lGd rfl aa hc13 (bb 0 ty9 i6) ?_
    refine lGd rfl aa hc13 (qStr rfl rfl rfl) (lGd rfl aa hc12 (hPt rfl hc13 rfl) (lUn (hPf rfl hc12 rfl) ?_))
    exact⟨!(Op.bytesLess x14.Path x9.Path),h2l,atOk⟩
   refine lSkT rfl aa hc13 (lSkT rfl aa hc13 (lSkT rfl aa hc13 (lSkT rfl aa hc13 (lSkT rfl aa hc13 (lSkT rfl aa hc13 (lSkT rfl aa hc13 (lSkT rfl aa hc13 (lSkT rfl aa hc13 (lGd rfl aa hc12 (hPf rfl hc13 rfl) (lUn (hPf rfl hc12 rfl) ?_))))))))))
   exact⟨false,h2l,atOk⟩
  refine ej ?_
  obtain rfl:=ho2 _ (Option.some.inj h2l).symm
  exact⟨h,atOk⟩
 refine W_r (kMvL rfl (kUn (mt rfl Tryz.underlying40) ?_))
 refine kIn rfl rfl rfl (kMv rfl ?_)
 rcases bd h with⟨hc2,h⟩|⟨hc2,h⟩
 ·refine kSkF rfl aa hc2 (kSkF rfl aa hc2 (kSkF rfl aa hc2 (kPt rfl hc2 rfl ?_)))
  exact⟨true,h,atOk⟩
 refine kGd rfl aa hc2 (hMvL rfl) ?_
 obtain⟨x3,hx3,h⟩:=af h
 refine kGd rfl aa hc2 (dl (tree_Size_ok x1 _ hx3)) ?_
 refine kGd rfl aa hc2 (qInt rfl rfl rfl) (kPf rfl hc2 rfl ?_)
 exact⟨decide (x3>1048576),h,atOk⟩
theorem check_Parse_ok (x1:List ApiFile) (r:(List (List ApiNode)) × ApiMistake) (h:q5 x1=some r):FnP Tryz.prog 31 [ap en x1] (ce [ap (bx rApiNode) r.1,(ai).val r.2]):=by
 refine ep (rs:=[.tmp 2,.cell 3 28]) Tryz.func31 rfl Tryz.ntmps31 Tryz.results31 (by decide) (fun s0=> ?_)
 unfold q5 at h
 refine W_rs (kAs rfl (a8 al28 fun b2=>az (W_rs (kMvL rfl (cg h (tree_Check_ok x1) rfl fun x3 _ h=>kAs rfl (W_rs (kMv rfl (kIn rfl rfl rfl ?_))))))))
 refine a7 h rfl (fun _ h=> ?_) (fun _ h=> ?_)
 ·refine W_rs (kMv rfl (kUn (j8 st28 ⟨(ApiMistake.mk x3 0 0),⟨_,rfl,rfl,fun j fd hj hf=>by match j,hj with| 0,h=>exact absurd rfl h| 1,_=>cases hf;rfl| 2,_=>cases hf;rfl|_+3,_=>cases hf⟩,rfl⟩) ?_))
  refine kAs rfl (ak 0 rfl rfl (Upd.refl _) rfl Tryz.sizeOf28 ?_)
  obtain rfl:=osj h
  exact ax ⟨rfl,[ap (bx rApiNode) [],(ai).val (ApiMistake.mk x3 0 0)],⟨yT (cv _),yBox 0 ty28 aa,trivial⟩,aa⟩
 refine ar (W_rs (kAs rfl (az (W_rs (kMvL rfl (kUn (mt rfl Tryz.underlying40) ?_))))))
 refine kMv rfl (a4 ?_)
 obtain⟨z2l,hz2,h⟩:=af h
 obtain⟨n2,hN2⟩:=bp hz2
 refine d7 0 (fun e C=>∃(x7:List (List ApiNode)),∃(v5:Value),check_Parse_k1 x7=some r/\At [(3,aj b2 0),(5,Pr.is v5)] [Own.box b2 ai (ApiMistake.mk 0 0 0),Own.vec v5 (bx rApiNode) x7 44] e C) ?_ ?_
 ·rintro e C ⟨x7,v5,h,hat1⟩
  refine W_at hat1 ?_
  unfold check_Parse_k1 at h
  refine W_rs (kMv rfl (kUn (j8 st28 rfl) ?_))
  refine kAs rfl (ak 0 rfl rfl (Upd.refl _) rfl Tryz.sizeOf28 ?_)
  refine W_rel 1 [2] ?_ rfl ⟨rfl,trivial⟩
  obtain rfl:=osj h
  exact ax ⟨rfl,[ap (bx rApiNode) x7,(ai).val (ApiMistake.mk 0 0 0)],⟨yT aa,yBox 0 ty28 aa,trivial⟩,aa⟩
 refine W_nil [5] (bx rApiNode) 44 (fun v20=> ?_) ⟨rfl,trivial⟩
 refine ew (fun m e C=>∃(x6:Int),∃(x7:List (List ApiNode)),∃(v5:Value),ff (fun s=>jm x1 s.1 s.2) m (x6,x7)=some z2l/\At [(3,aj b2 0),(5,Pr.is v5),(16,ap en x1),(17,Pr.i64 (x1.length:Int)),(18,Pr.i64 x6)] [Own.box b2 ai (ApiMistake.mk 0 0 0),Own.vec v5 (bx rApiNode) x7 44] e C) n2 ⟨0,[],v20,hN2,⟨⟨aa,aa,aa,aa,aa,trivial⟩,Pick.refl _⟩⟩ ?_
 rintro m e C ⟨x6,x7,v5,hN2,hatl2⟩
 refine W_at hatl2 ?_
 obtain⟨m2,w2l,rfl,h2l,hn2,ho2⟩:=bk hN2
 replace h2l:jm x1 x6 x7=some w2l:=h2l
 unfold jm at h2l
 refine W_rs (kIn rfl rfl rfl (az ?_))
 refine a7 h2l rfl (fun _ h2l=> ?_) (fun _ h2l=> ?_)
 ·refine ar (az (a4 (W_rs (kMv rfl ?_))))
  obtain⟨x12,hx12,h2l⟩:=af h2l
  refine kUn (fi Tryz.underlying40 Tryz.sizeOf50 hx12) ?_
  refine kUn (cw ty50) ?_
  refine a8 al50 fun b13=>kAs rfl (ak 2 rfl rfl (Upd.refl _) rfl Tryz.sizeOf50 (W_rs (kUn (av fld50_1) ?_)))
  refine kUn (bb 2 ty9 kz) ?_
  obtain⟨⟨x14,x15⟩,hx14,h2l⟩:=af h2l
  refine kUn (dl (parse_File_ok x12.Text _ hx14)) ?_
  refine kUn (hMv (out:=ce [ap rApiNode x14,(ai).val x15]) rfl) (kUn ao ?_)
  refine kUn ao ?_
  refine a8 al28 fun b16=>kAsL rfl (ak 3 rfl rfl (Upd.refl _) rfl Tryz.sizeOf28 (az (W_rs (kUn (av fld28_0) ?_))))
  refine kUn (bb 3 ty26 gu) ?_
  refine kIn rfl rfl rfl ?_
  refine a7 h2l rfl (fun _ h2l=> ?_) (fun _ h2l=> ?_)
  ·refine W_rs (kMv rfl (kUn (av fld28_1) ?_))
   refine ak 3 rfl rfl updApiMistake_File rfl Tryz.sizeOf3 ?_
   refine bj (fun e C=>check_Parse_j3 x15 x6=some w2l/\At [(2,Pr.is (.slice none 0 0)),(3,aj b2 0)] [Own.box b2 ai ({x15 with File:=x6}),Own.box b13 en x12,Own.box b16 ai ({x15 with File:=x6})] e C) ?_ ?_
   ·rintro e C ⟨h2l,hat3⟩
    refine W_at hat3 ?_
    unfold check_Parse_j3 at h2l
    obtain rfl:=ho2 _ (Option.some.inj h2l).symm
    replace h:some ([],{x15 with File:=x6})=some r:=h
    obtain rfl:=osj h
    exact ax ⟨rfl,[ap (bx rApiNode) [],(ai).val ({x15 with File:=x6})],⟨yT (cv _),yBox 0 ty28 aa,trivial⟩,aa⟩
   refine ib 2 hmx (by kernel_rfl) (by kernel_rfl) ?_
   refine lUn (bb 3 ty28 (Sub.refl _)) ?_
   refine lUn (hAsA rfl) (ak 0 rfl rfl (Upd.refl _) rfl Tryz.sizeOf28 ?_)
   exact⟨h2l,⟨⟨aa,aa,trivial⟩,Pick.of [0,2,3] rfl⟩⟩
  refine ar (W_r (kMv rfl (kMvL rfl (kUn (bt (R:=bx rApiNode) (a:=x14) el67 (Nat.le_of_ble_eq_true rfl)) ?_))))
  obtain⟨x18,hx18,h2l⟩:=af h2l
  refine fg 1 el67 hx18 (fun v19=> ?_)
  refine kAs rfl (W_r (kIn rfl rfl rfl (kMv rfl ?_)))
  exact⟨m2,Nat.lt_succ_self _,w64 (x6+1),x18,v19,hn2 _ (Option.some.inj h2l).symm,⟨⟨aa,aa,aa,aa,aa,trivial⟩,Pick.of [0,1] rfl⟩⟩
 refine ej ?_
 obtain rfl:=ho2 _ (Option.some.inj h2l).symm
 exact⟨x7,v5,h,atOk⟩
theorem segment_All_ok (x1:List ApiFile) (r:(List ApiSegment) × ApiMistake) (h:segment_All x1=some r):FnP Tryz.prog 20 [ap en x1] (ce [ap a6 r.1,(ai).val r.2]):=by
 refine ep (rs:=[.tmp 2,.cell 3 28]) Tryz.func20 rfl Tryz.ntmps20 Tryz.results20 (by decide) (fun s0=> ?_)
 unfold segment_All at h
 refine W_rs (kAs rfl (a8 al28 fun b2=>az (W_rs (kMvL rfl ?_))))
 obtain⟨⟨x3,x4⟩,hx3,h⟩:=af h
 refine kUn (dl (check_Parse_ok x1 _ hx3)) ?_
 refine kUn (hMv (out:=ce [ap (bx rApiNode) x3,(ai).val x4]) rfl) (kUn ao ?_)
 refine kUn ao ?_
 refine a8 al28 fun b5=>kAsL rfl (ak 1 rfl rfl (Upd.refl _) rfl Tryz.sizeOf28 (W_rs (kUn (av fld28_0) ?_)))
 refine kUn (bb 1 ty26 gu) ?_
 refine kIn rfl rfl rfl ?_
 refine a7 h rfl (fun _ h=> ?_) (fun _ h=> ?_)
 ·refine bj (fun e C=>segment_All_j1 x4=some r/\At [(2,Pr.is (.slice none 0 0)),(3,aj b2 0)] [Own.box b2 ai x4,Own.box b5 ai x4] e C) ?_ ?_
  ·rintro e C ⟨h,hat1⟩
   refine W_at hat1 ?_
   unfold segment_All_j1 at h
   obtain rfl:=osj h
   exact ax ⟨rfl,[ap a6 [],(ai).val x4],⟨yT (cv _),yBox 0 ty28 aa,trivial⟩,aa⟩
  refine ib 2 hmx (by kernel_rfl) (by kernel_rfl) ?_
  refine lUn (bb 1 ty28 (Sub.refl _)) ?_
  refine lUn (hAsA rfl) (ak 0 rfl rfl (Upd.refl _) rfl Tryz.sizeOf28 ?_)
  exact⟨h,atOk⟩
 refine ar (W_rs (kAs rfl (az (W_rs (kMvL rfl (kUn (mt rfl Tryz.underlying40) ?_))))))
 refine kMv rfl (a4 ?_)
 obtain⟨z3l,hz3,h⟩:=af h
 obtain⟨n3,hN3⟩:=bp hz3
 refine d7 0 (fun e C=>∃(x9:List ApiSegment),∃(v7:Value),segment_All_k2 x9=some r/\At [(3,aj b2 0),(6,Pr.is v7)] [Own.box b2 ai (ApiMistake.mk 0 0 0),Own.box b5 ai x4,Own.vec v7 a6 x9 25] e C) ?_ ?_
 ·rintro e C ⟨x9,v7,h,hat2⟩
  refine W_at hat2 ?_
  unfold segment_All_k2 at h
  refine W_rs (kMv rfl (kUn (j8 st28 rfl) ?_))
  refine kAs rfl (ak 0 rfl rfl (Upd.refl _) rfl Tryz.sizeOf28 ?_)
  refine W_rel 2 [2] ?_ rfl ⟨rfl,trivial⟩
  obtain rfl:=osj h
  exact ax ⟨rfl,[ap a6 x9,(ai).val (ApiMistake.mk 0 0 0)],⟨yT aa,yBox 0 ty28 aa,trivial⟩,aa⟩
 refine W_nil [6] a6 25 (fun v25=> ?_) ⟨rfl,trivial⟩
 refine ew (fun m e C=>∃(x8:Int),∃(x9:List ApiSegment),∃(v7:Value),ff (fun s=>ki x1 s.1 s.2) m (x8,x9)=some z3l/\At [(3,aj b2 0),(6,Pr.is v7),(20,ap en x1),(21,Pr.i64 (x1.length:Int)),(22,Pr.i64 x8)] [Own.box b2 ai (ApiMistake.mk 0 0 0),Own.box b5 ai x4,Own.vec v7 a6 x9 25] e C) n3 ⟨0,[],v25,hN3,⟨⟨aa,aa,aa,aa,aa,trivial⟩,Pick.refl _⟩⟩ ?_
 rintro m e C ⟨x8,x9,v7,hN3,hatl3⟩
 refine W_at hatl3 ?_
 obtain⟨m3,w3l,rfl,h3l,hn3,ho3⟩:=bk hN3
 replace h3l:ki x1 x8 x9=some w3l:=h3l
 unfold ki at h3l
 refine W_rs (kIn rfl rfl rfl (az ?_))
 refine a7 h3l rfl (fun _ h3l=> ?_) (fun _ h3l=> ?_)
 ·refine ar (az (a4 (W_rs ?_)))
  obtain⟨x14,hx14,h3l⟩:=af h3l
  refine kUn (fi Tryz.underlying40 Tryz.sizeOf50 hx14) ?_
  refine kUn (cw ty50) ?_
  refine a8 al50 fun b15=>ak 3 rfl rfl (Upd.refl _) rfl Tryz.sizeOf50 (W_rs (kUn (av fld50_1) ?_))
  refine kUn (bb 3 ty9 kz) ?_
  obtain⟨⟨x16,x17⟩,hx16,h3l⟩:=af h3l
  refine jp [] (segment_Split_ok x14.Text _ hx16) (fun q C' hq=> ?_)
  obtain⟨v18,rfl,rfl⟩:=hq
  refine kUn (hMv (out:=ce [Pr.is v18,(ai).val x17]) rfl) (kUn ao ?_)
  refine kUn ao ?_
  refine a8 al28 fun b19=>kAs rfl (ak 5 rfl rfl (Upd.refl _) rfl Tryz.sizeOf28 ?_)
  refine bj (fun e C=>∃(x22:ApiSegment),∃(x21:List UInt8),segment_All_j4 x9 x16 x8 x22 x21=some w3l/\At [(3,aj b2 0),(6,Pr.is v7),(9,Pr.is v18),(20,ap en x1),(21,Pr.i64 (x1.length:Int)),(22,Pr.i64 x8)] [Own.vec v18 a6 (List.set x16 (Int.toNat (w64 ((x16.length:Int) - 1))) ({x22 with Key:=x21})) 25,Own.box b2 ai (ApiMistake.mk 0 0 0),Own.box b5 ai x4,Own.vec v7 a6 x9 25,Own.box b15 en x14,Own.box b19 ai x17] e C) ?_ ?_
  ·rintro e C ⟨x22,x21,h3l,hat4⟩
   refine W_at hat4 ?_
   unfold segment_All_j4 at h3l
   refine W_r (kMv rfl (kMv rfl ?_))
   obtain⟨x23,hx23,h3l⟩:=af h3l
   refine rRel 0 [9,45] ?_ rfl ⟨rfl,rfl,trivial⟩
   refine fg 2 el22 hx23 (fun v24=> ?_)
   refine kAs rfl (W_r (kIn rfl rfl rfl (kMv rfl ?_)))
   exact⟨m3,Nat.lt_succ_self _,w64 (x8+1),x23,v24,hn3 _ (Option.some.inj h3l).symm,⟨⟨aa,aa,aa,aa,aa,trivial⟩,Pick.of [0,1,2] rfl⟩⟩
  refine ib 12 hmx (by kernel_rfl) (by kernel_rfl) ?_
  refine lUn (hMvA rfl) (lUn (hMvA rfl) (lUn (qLenV 0 rfl Tryz.underlying22) ?_))
  refine lUn (qInt rfl rfl rfl) ?_
  obtain⟨x20,hx20,h3l⟩:=af h3l
  refine lUn (qIdxV 0 (R:=a6) (l:=x16) Tryz.underlying22 Tryz.sizeOf25 hx20) ?_
  refine lUn (qFieldV fld25_0) ?_
  refine lUn (qLoadV (R:=a6) (R':=ct) (l:=x16) (a:=x20) (o:=0) 0 ty9 mo (Nat.le_of_ble_eq_true rfl) hx20 rfl) ?_
  refine lUn (av fld50_0) ?_
  refine lUn (bb 4 ty9 i6) ?_
  obtain⟨x21,hx21,h3l⟩:=af h3l
  refine lUn (qCat' hx21) ?_
  obtain⟨x22,hx22,h3l⟩:=af h3l
  refine lUn (qIdxV 0 (R:=a6) (l:=x16) Tryz.underlying22 Tryz.sizeOf25 hx22) ?_
  refine lUn (qFieldV fld25_0) ?_
  refine rStoreE (R:=a6) (R':=ct) (l:=x16) (a:=x22) (y:=x21) (o:=0) 0 Tryz.sizeOf9 updApiSegment_Key hx22 rfl ?_
  exact⟨x22,x21,h3l,atOk⟩
 refine ej ?_
 obtain rfl:=ho3 _ (Option.some.inj h3l).symm
 exact⟨x9,v7,h,atOk⟩
end Go.Proofs.YteablckbgpogiaaGreatDoor
