/- The code comes to what these functions say (printed by wip/gen/gen.py). -/
import Derived.Test.YteablckbgpogiaaGreatDoorZX
import Derived.Test.YteablckbgpogiaaGreatDoorZP9
import Derived.Test.YteablckbgpogiaaGreatDoorZT
set_option linter.unusedSimpArgs false
set_option linter.unusedVariables false
set_option linter.unusedSectionVars false
set_option linter.unusedSectionVars false
set_option maxRecDepth 100000
set_option maxHeartbeats 4000000
namespace Go.Proofs.YteablckbgpogiaaGreatDoor
open Go Go.Cn
variable [Known]
attribute [local irreducible] f5 ap
theorem ref12_binds_ok (x1:List ApiToken) (x2 r:Int) (h:ref12_binds x1 x2=some r):FnP Tryz.prog 160 [ap ah x1,Pr.i64 x2] (Pr.i64 r):=by
 refine cm (rs:=[4]) Tryz.func160 rfl Tryz.ntmps160 ⟨by decide,Tryz.results160⟩ (by decide) (fun s0=> ?_)
 unfold ref12_binds at h
 refine W_rs (kAs rfl (W_rs (kUn (bt (R:=ct) (a:=([124,124]:List UInt8)) el36 (Nat.le_of_ble_eq_true rfl)) ?_)))
 refine kUn (bt (R:=ct) (a:=([38,38]:List UInt8)) el36 (Nat.le_of_ble_eq_true rfl)) ?_
 refine kUn (kw (R:=ct) (ls:=([([61,61]:List UInt8),([33,61]:List UInt8)]:List (List UInt8))) el36 (Nat.le_of_ble_eq_true rfl) ⟨rfl,rfl⟩ ⟨rfl,rfl,trivial⟩) ?_
 refine kUn (kw (R:=ct) (ls:=([([60]:List UInt8),([60,61]:List UInt8),([62]:List UInt8),([62,61]:List UInt8)]:List (List UInt8))) el36 (Nat.le_of_ble_eq_true rfl) ⟨rfl,rfl⟩ ⟨rfl,rfl,rfl,rfl,trivial⟩) ?_
 refine kUn (kw (R:=ct) (ls:=([([43]:List UInt8),([45]:List UInt8)]:List (List UInt8))) el36 (Nat.le_of_ble_eq_true rfl) ⟨rfl,rfl⟩ ⟨rfl,rfl,trivial⟩) ?_
 refine kUn (kw (R:=ct) (ls:=([([42]:List UInt8),([47]:List UInt8),([37]:List UInt8)]:List (List UInt8))) el36 (Nat.le_of_ble_eq_true rfl) ⟨rfl,rfl⟩ ⟨rfl,rfl,rfl,trivial⟩) ?_
 refine kUn (kw (R:=bx ct) (ls:=([([([124,124]:List UInt8)]:List (List UInt8)),([([38,38]:List UInt8)]:List (List UInt8)),([([61,61]:List UInt8),([33,61]:List UInt8)]:List (List UInt8)),([([60]:List UInt8),([60,61]:List UInt8),([62]:List UInt8),([62,61]:List UInt8)]:List (List UInt8)),([([43]:List UInt8),([45]:List UInt8)]:List (List UInt8)),([([42]:List UInt8),([47]:List UInt8),([37]:List UInt8)]:List (List UInt8))]:List (List (List UInt8)))) el179 (Nat.le_of_ble_eq_true rfl) ⟨rfl,rfl⟩ ⟨rfl,rfl,rfl,rfl,rfl,rfl,trivial⟩) ?_
 refine kAsL rfl (az (W_rs (kAs rfl (a4 ?_))))
 obtain⟨z2l,hz2,h⟩:=af h
 obtain⟨n2,hN2⟩:=bp hz2
 refine d7 0 (fun e C=>ref12_binds_k1=some r/\At [] [] e C) ?_ ?_
 ·rintro e C ⟨h,hat1⟩
  refine W_at hat1 ?_
  unfold ref12_binds_k1 at h
  refine W_rs (kAs rfl ?_)
  obtain rfl:=osj h
  exact ax ⟨rfl,aa⟩
 refine ew (fun m e C=>∃(x3:Int),ff (fun s=>oa x1 x2 s) m x3=some z2l/\At [(0,ap ah x1),(1,Pr.i64 x2),(5,ap (bx ct) ([([([124,124]:List UInt8)]:List (List UInt8)),([([38,38]:List UInt8)]:List (List UInt8)),([([61,61]:List UInt8),([33,61]:List UInt8)]:List (List UInt8)),([([60]:List UInt8),([60,61]:List UInt8),([62]:List UInt8),([62,61]:List UInt8)]:List (List UInt8)),([([43]:List UInt8),([45]:List UInt8)]:List (List UInt8)),([([42]:List UInt8),([47]:List UInt8),([37]:List UInt8)]:List (List UInt8))]:List (List (List UInt8)))),(6,Pr.i64 x3)] [] e C) n2 ⟨0,hN2,⟨⟨aa,aa,aa,aa,trivial⟩,Pick.refl _⟩⟩ ?_
 rintro m e C ⟨x3,hN2,hatl2⟩
 refine W_at hatl2 ?_
 obtain⟨m2,w2l,rfl,h2l,hn2,ho2⟩:=bk hN2
 replace h2l:oa x1 x2 x3=some w2l:=h2l
 unfold oa at h2l
 refine az (W_rs (kMv rfl (kMvL rfl (kUn (mt rfl Tryz.underlying179) ?_))))
 refine kIn rfl rfl rfl ?_
 refine a7 h2l rfl (fun _ h2l=> ?_) (fun _ h2l=> ?_)
 ·refine ar (az (a4 (W_rs (kAs rfl (a4 ?_)))))
  obtain⟨z4l,hz4,h2l⟩:=af h2l
  obtain⟨n4,hN4⟩:=bp hz4
  refine d7 2 (fun e C=>ref12_binds_k3 x3=some w2l/\At [(0,ap ah x1),(1,Pr.i64 x2),(5,ap (bx ct) ([([([124,124]:List UInt8)]:List (List UInt8)),([([38,38]:List UInt8)]:List (List UInt8)),([([61,61]:List UInt8),([33,61]:List UInt8)]:List (List UInt8)),([([60]:List UInt8),([60,61]:List UInt8),([62]:List UInt8),([62,61]:List UInt8)]:List (List UInt8)),([([43]:List UInt8),([45]:List UInt8)]:List (List UInt8)),([([42]:List UInt8),([47]:List UInt8),([37]:List UInt8)]:List (List UInt8))]:List (List (List UInt8)))),(6,Pr.i64 x3)] [] e C) ?_ ?_
  ·rintro e C ⟨h2l,hat3⟩
   refine W_at hat3 ?_
   unfold ref12_binds_k3 at h2l
   refine W_r (kMv rfl (kIn rfl rfl rfl (kAs rfl ?_)))
   exact⟨m2,Nat.lt_succ_self _,w64 (x3+1),hn2 _ (Option.some.inj h2l).symm,atOk⟩
  refine ew (fun m e C=>∃(x6:Int),ff (fun s=>l0 x3 x1 x2 s) m x6=some z4l/\At [(0,ap ah x1),(1,Pr.i64 x2),(5,ap (bx ct) ([([([124,124]:List UInt8)]:List (List UInt8)),([([38,38]:List UInt8)]:List (List UInt8)),([([61,61]:List UInt8),([33,61]:List UInt8)]:List (List UInt8)),([([60]:List UInt8),([60,61]:List UInt8),([62]:List UInt8),([62,61]:List UInt8)]:List (List UInt8)),([([43]:List UInt8),([45]:List UInt8)]:List (List UInt8)),([([42]:List UInt8),([47]:List UInt8),([37]:List UInt8)]:List (List UInt8))]:List (List (List UInt8)))),(6,Pr.i64 x3),(7,Pr.i64 x6)] [] e C) n4 ⟨0,hN4,⟨⟨aa,aa,aa,aa,aa,trivial⟩,Pick.refl _⟩⟩ ?_
  rintro m e C ⟨x6,hN4,hatl4⟩
  refine W_at hatl4 ?_
  obtain⟨m4,w4l,rfl,h4l,hn4,ho4⟩:=bk hN4
  replace h4l:l0 x3 x1 x2 x6=some w4l:=h4l
  unfold l0 at h4l
  refine az (W_rs (kMv rfl (kMvL rfl (kMv rfl ?_))))
  obtain⟨x8,hx8,h4l⟩:=af h4l
  refine kUn (fi Tryz.underlying179 Tryz.sizeOf36 hx8) ?_
  refine kUn (cw ty36) ?_
  refine kUn (mt rfl Tryz.underlying36) ?_
  refine kIn rfl rfl rfl ?_
  refine a7 h4l rfl (fun _ h4l=> ?_) (fun _ h4l=> ?_)
  ·refine ar (az (a4 (W_rs (kMvL rfl (kMv rfl (kMvL rfl (kMv rfl ?_)))))))
   obtain⟨x10,hx10,h4l⟩:=af h4l
   refine kUn (fi Tryz.underlying179 Tryz.sizeOf36 hx10) ?_
   refine kUn (cw ty36) ?_
   refine kMv rfl ?_
   obtain⟨x11,hx11,h4l⟩:=af h4l
   refine kUn (fi Tryz.underlying36 Tryz.sizeOf9 hx11) ?_
   refine kUn (cw ty9) ?_
   refine cg h4l (bg x1 x2 x11) rfl fun x12 _ h4l=> ?_
   refine a7 h4l rfl (fun _ h4l=> ?_) (fun _ h4l=> ?_)
   ·refine W_rs (kMv rfl (kIn rfl rfl rfl (kAs rfl ?_)))
    obtain rfl:=ho4 _ (Option.some.inj h4l).symm
    replace h2l:some (.inr (.done (w64 (x3+1))))=some w2l:=h2l
    obtain rfl:=ho2 _ (Option.some.inj h2l).symm
    replace h:some (w64 (x3+1))=some r:=h
    obtain rfl:=osj h
    exact ax ⟨rfl,aa⟩
   refine ar (W_r (kMv rfl (kIn rfl rfl rfl (kAs rfl ?_))))
   exact⟨m4,Nat.lt_succ_self _,w64 (x6+1),hn4 _ (Option.some.inj h4l).symm,atOk⟩
  refine ej ?_
  obtain rfl:=ho4 _ (Option.some.inj h4l).symm
  exact⟨h2l,atOk⟩
 refine ej ?_
 obtain rfl:=ho2 _ (Option.some.inj h2l).symm
 exact⟨h,atOk⟩
def fv (R:al):Prop:=(∀(x1:List ApiToken) (x2:Int) (x3:Int) (r:ApiNode × Int × Ref12Wrong),R.1 x1 x2 x3=some r->FnP Tryz.prog 121 [ap ah x1,Pr.i64 x2,Pr.i64 x3] (ce [(rApiNode).val r.1,Pr.i64 r.2.1,(ac).val r.2.2]))/\(∀(x1:List ApiToken) (x2:Int) (x3:Int) (x4:Int) (r:ApiNode × Int × Ref12Wrong),R.2.1 x1 x2 x3 x4=some r->FnP Tryz.prog 138 [ap ah x1,Pr.i64 x2,Pr.i64 x3,Pr.i64 x4] (ce [(rApiNode).val r.1,Pr.i64 r.2.1,(ac).val r.2.2]))/\(∀(x1:List ApiToken) (x2:Int) (x3:Int) (r:ApiNode × Int × Ref12Wrong),R.2.2.1 x1 x2 x3=some r->FnP Tryz.prog 159 [ap ah x1,Pr.i64 x2,Pr.i64 x3] (ce [(rApiNode).val r.1,Pr.i64 r.2.1,(ac).val r.2.2]))/\(∀(x1:List ApiToken) (x2:Int) (x3:Int) (r:ApiNode × Int × Ref12Wrong),R.2.2.2.1 x1 x2 x3=some r->FnP Tryz.prog 172 [ap ah x1,Pr.i64 x2,Pr.i64 x3] (ce [(rApiNode).val r.1,Pr.i64 r.2.1,(ac).val r.2.2]))/\(∀(x1:List ApiToken) (x2:Int) (x3:Int) (r:(List ApiNode) × Int × Ref12Wrong),R.2.2.2.2 x1 x2 x3=some r->FnP Tryz.prog 173 [ap ah x1,Pr.i64 x2,Pr.i64 x3] (ce [ap rApiNode r.1,Pr.i64 r.2.1,(ac).val r.2.2]))
theorem F_ref12_expression_step (R:al) (ih:fv R) (x1:List ApiToken) (x2 x3:Int) (r:ApiNode × Int × Ref12Wrong) (h:ln R x1 x2 x3=some r):FnP Tryz.prog 121 [ap ah x1,Pr.i64 x2,Pr.i64 x3] (ce [(rApiNode).val r.1,Pr.i64 r.2.1,(ac).val r.2.2]):=by
 refine ep (rs:=[.cell 6 48,.tmp 7,.cell 8 76]) Tryz.func121 rfl Tryz.ntmps121 Tryz.results121 (by decide) (fun s0=> ?_)
 unfold ln at h
 refine W_rs (a8 al48 fun b4=>kAs rfl (a8 al76 fun b5=>W_rs (kMvL rfl (kMv rfl (kMv rfl ?_)))))
 obtain⟨⟨x6,x7,x8⟩,hx6,h⟩:=af h
 refine kUn (dl (ih.2.1 x1 x2 x3 1 _ hx6)) ?_
 refine kUn ao ?_
 refine kUn ao ?_
 refine kUn ao ?_
 refine ak 0 rfl rfl (Upd.refl _) rfl Tryz.sizeOf48 (kAs rfl (ak 1 rfl rfl (Upd.refl _) rfl Tryz.sizeOf76 ?_))
 obtain rfl:=osj h
 exact ax ⟨rfl,[(rApiNode).val x6,Pr.i64 x7,(ac).val x8],⟨yBox 0 ty48 aa,yT aa,yBox 1 ty76 aa,trivial⟩,aa⟩
theorem F_ref12_level_step (R:al) (ih:fv R) (x1:List ApiToken) (x2 x3 x4:Int) (r:ApiNode × Int × Ref12Wrong) (h:ni R x1 x2 x3 x4=some r):FnP Tryz.prog 138 [ap ah x1,Pr.i64 x2,Pr.i64 x3,Pr.i64 x4] (ce [(rApiNode).val r.1,Pr.i64 r.2.1,(ac).val r.2.2]):=by
 refine ep (rs:=[.cell 8 48,.tmp 9,.cell 10 76]) Tryz.func138 rfl Tryz.ntmps138 Tryz.results138 (by decide) (fun s0=> ?_)
 unfold ni at h
 refine W_rs (a8 al48 fun b5=>kAs rfl (a8 al76 fun b6=>az (W_rs (kMv rfl (kIn rfl rfl rfl ?_)))))
 refine a7 h rfl (fun _ h=> ?_) (fun _ h=> ?_)
 ·refine W_rs (kMvL rfl (kMv rfl (kMv rfl ?_)))
  obtain⟨⟨x8,x9,x10⟩,hx8,h⟩:=af h
  refine kUn (dl (ih.2.2.1 x1 x2 x3 _ hx8)) ?_
  refine kUn ao ?_
  refine kUn ao ?_
  refine kUn ao ?_
  refine ak 0 rfl rfl (Upd.refl _) rfl Tryz.sizeOf48 (kAs rfl (ak 1 rfl rfl (Upd.refl _) rfl Tryz.sizeOf76 ?_))
  obtain rfl:=osj h
  exact ax ⟨rfl,[(rApiNode).val x8,Pr.i64 x9,(ac).val x10],⟨yBox 0 ty48 aa,yT aa,yBox 1 ty76 aa,trivial⟩,aa⟩
 refine ar (W_rs (kMvL rfl (kMv rfl (kMv rfl (kMv rfl (kIn rfl rfl rfl ?_))))))
 obtain⟨⟨x11,x12,x13⟩,hx11,h⟩:=af h
 refine kUn (dl (ih.2.1 x1 x2 x3 (w64 (x4+1)) _ hx11)) ?_
 refine kUn (hMv (out:=ce [(rApiNode).val x11,Pr.i64 x12,(ac).val x13]) rfl) (kUn ao ?_)
 refine kUn ao ?_
 refine kUn ao ?_
 refine a8 al48 fun b14=> ?_
 refine a8 al76 fun b15=>ak 2 rfl rfl (Upd.refl _) rfl Tryz.sizeOf48 (kAs rfl (ak 3 rfl rfl (Upd.refl _) rfl Tryz.sizeOf76 (az (W_rs (kUn (av kv) ?_)))))
 refine kUn (bb 3 ty3 bq) ?_
 refine kIn rfl rfl rfl ?_
 refine a7 h rfl (fun _ h=> ?_) (fun _ h=> ?_)
 ·refine bj (fun e C=>ref12_level_j1 R x13=some r/\At [(8,aj b5 0),(9,Pr.i64 0),(10,aj b6 0)] [Own.box b5 rApiNode (ApiNode.mk 0 [] [] 0 0 0 0 0 []),Own.box b6 ac x13,Own.box b14 rApiNode x11,Own.box b15 ac x13] e C) ?_ ?_
  ·rintro e C ⟨h,hat1⟩
   refine W_at hat1 ?_
   unfold ref12_level_j1 at h
   obtain rfl:=osj h
   exact ax ⟨rfl,[(rApiNode).val (ApiNode.mk 0 [] [] 0 0 0 0 0 []),Pr.i64 0,(ac).val x13],⟨yBox 0 ty48 aa,yT aa,yBox 1 ty76 aa,trivial⟩,aa⟩
  refine fb [(2,0,Own.box b5 rApiNode (ApiNode.mk 0 [] [] 0 0 0 0 0 [])),(4,1,Own.box b6 ac x13)] [Own.box b5 rApiNode (ApiNode.mk 0 [] [] 0 0 0 0 0 []),Own.box b6 ac x13,Own.box b14 rApiNode x11,Own.box b15 ac x13] hmx (by kernel_rfl) (by kernel_rfl) (show([2,4]:List Nat).Nodup by decide) (show([0,1]:List Nat).Nodup by decide) rfl rfl ?_
  refine eq1 (out:=(rApiNode).val (ApiNode.mk 0 [] [] 0 0 0 0 0 [])) (fun C2 hC=>(du au st48 rfl)) ?_
  refine eq1 (out:=(ac).val x13) (fun C2 hC=>(bb (R:=ac) (a:=x13) (R':=ac) 3 ty76 (Sub.refl _) (hi:=(hC 3 (by kernel_rfl)).trans rfl))) ?_
  refine eqS (fun C2 hC=>dr (R:=rApiNode) (R':=rApiNode) (a:=(ApiNode.mk 0 [] [] 0 0 0 0 0 [])) (y:=(ApiNode.mk 0 [] [] 0 0 0 0 0 [])) 0 Tryz.sizeOf48 (Upd.refl _) ((hC 0 (by kernel_rfl)).trans rfl)) ?_
  refine eq1 (out:=Pr.i64 0) (fun C2 hC=>el) ?_
  refine eqS (fun C2 hC=>dr (R:=ac) (R':=ac) (a:=(Ref12Wrong.mk 0 0)) (y:=x13) 1 Tryz.sizeOf76 (Upd.refl _) ((hC 1 (by kernel_rfl)).trans rfl)) ?_
  exact⟨h,atOk⟩
 refine ar (az (a4 ?_))
 obtain⟨z4l,hz4,h⟩:=af h
 obtain⟨n4,hN4⟩:=bp hz4
 refine d7 0 (fun e C=>∃(x17:Int),∃(x18:ApiNode),ref12_level_k3 R x17 x18=some r/\At [(8,aj b5 0),(10,aj b6 0),(11,aj b14 0),(12,Pr.i64 x17)] [Own.box b5 rApiNode (ApiNode.mk 0 [] [] 0 0 0 0 0 []),Own.box b6 ac (Ref12Wrong.mk 0 0),Own.box b14 rApiNode x18,Own.box b15 ac x13] e C) ?_ ?_
 ·rintro e C ⟨x17,x18,h,hat3⟩
  refine W_at hat3 ?_
  unfold ref12_level_k3 at h
  refine bj (fun e C=>∃(x31:Ref12Wrong),ref12_level_j2 R x18 x17 x31=some r/\At [(8,aj b5 0),(9,Pr.i64 x17),(10,aj b6 0)] [Own.box b5 rApiNode x18,Own.box b6 ac x31,Own.box b14 rApiNode x18,Own.box b15 ac x13] e C) ?_ ?_
  ·rintro e C ⟨x31,h,hat2⟩
   refine W_at hat2 ?_
   unfold ref12_level_j2 at h
   obtain rfl:=osj h
   exact ax ⟨rfl,[(rApiNode).val x18,Pr.i64 x17,(ac).val x31],⟨yBox 0 ty48 aa,yT aa,yBox 1 ty76 aa,trivial⟩,aa⟩
  obtain⟨x31,hx31,h⟩:=af h
  refine fb [(3,0,Own.box b5 rApiNode x18),(5,1,Own.box b6 ac x31)] [Own.box b5 rApiNode x18,Own.box b6 ac x31,Own.box b14 rApiNode x18,Own.box b15 ac x13] hmx (by kernel_rfl) (by kernel_rfl) (show([3,5]:List Nat).Nodup by decide) (show([0,1]:List Nat).Nodup by decide) rfl rfl ?_
  refine eq1 (out:=(rApiNode).val x18) (fun C2 hC=>(bb (R:=rApiNode) (a:=x18) (R':=rApiNode) 2 ty48 (Sub.refl _) (hi:=(hC 2 (by kernel_rfl)).trans rfl))) ?_
  refine eq1 (out:=Pr.i64 x17) (fun C2 hC=>jn) ?_
  refine eq1 (out:=(ac).val x31) (fun C2 hC=>(dl (cu _ hx31))) ?_
  refine eqS (fun C2 hC=>dr (R:=rApiNode) (R':=rApiNode) (a:=(ApiNode.mk 0 [] [] 0 0 0 0 0 [])) (y:=x18) 0 Tryz.sizeOf48 (Upd.refl _) ((hC 0 (by kernel_rfl)).trans rfl)) ?_
  refine eq1 (out:=Pr.i64 x17) (fun C2 hC=>el) ?_
  refine eqS (fun C2 hC=>dr (R:=ac) (R':=ac) (a:=(Ref12Wrong.mk 0 0)) (y:=x31) 1 Tryz.sizeOf76 (Upd.refl _) ((hC 1 (by kernel_rfl)).trans rfl)) ?_
  exact⟨x31,h,atOk⟩
 refine ew (fun m e C=>∃(x17:Int),∃(x18:ApiNode),ff (fun s=>qi R x1 x4 x3 x2 s.1 s.2) m (x17,x18)=some z4l/\At [(0,ap ah x1),(1,Pr.i64 x2),(2,Pr.i64 x3),(3,Pr.i64 x4),(8,aj b5 0),(10,aj b6 0),(11,aj b14 0),(12,Pr.i64 x17)] [Own.box b5 rApiNode (ApiNode.mk 0 [] [] 0 0 0 0 0 []),Own.box b6 ac (Ref12Wrong.mk 0 0),Own.box b14 rApiNode x18,Own.box b15 ac x13] e C) n4 ⟨x12,x11,hN4,⟨⟨aa,aa,aa,aa,aa,aa,aa,aa,trivial⟩,Pick.refl _⟩⟩ ?_
 rintro m e C ⟨x17,x18,hN4,hatl4⟩
 refine W_at hatl4 ?_
 obtain⟨m4,w4l,rfl,h4l,hn4,ho4⟩:=bk hN4
 replace h4l:qi R x1 x4 x3 x2 x17 x18=some w4l:=h4l
 unfold qi at h4l
 refine az (W_rs (kMvL rfl (kMv rfl (cg h4l (ref12_binds_ok x1 x17) rfl fun x21 _ h4l=>kMv rfl (kIn rfl rfl rfl ?_)))))
 refine a7 h4l rfl (fun _ h4l=> ?_) (fun _ h4l=> ?_)
 ·refine ar (a4 (W_rs (kMvL rfl (kMv rfl (kIn rfl rfl rfl (kMv rfl (kMv rfl (kIn rfl rfl rfl ?_))))))))
  obtain⟨⟨x23,x24,x25⟩,hx23,h4l⟩:=af h4l
  refine kUn (dl (ih.2.1 x1 (w64 (x17+1)) x3 (w64 (x4+1)) _ hx23)) ?_
  refine kUn (hMv (out:=ce [(rApiNode).val x23,Pr.i64 x24,(ac).val x25]) rfl) (kUn ao ?_)
  refine kUn ao ?_
  refine kUn ao ?_
  refine a8 al48 fun b26=> ?_
  refine a8 al76 fun b27=>ak 4 rfl rfl (Upd.refl _) rfl Tryz.sizeOf48 (kAs rfl (ak 5 rfl rfl (Upd.refl _) rfl Tryz.sizeOf76 (az (W_rs (kUn (av kv) ?_)))))
  refine kUn (bb 5 ty3 bq) ?_
  refine kIn rfl rfl rfl ?_
  refine a7 h4l rfl (fun _ h4l=> ?_) (fun _ h4l=> ?_)
  ·refine bj (fun e C=>ref12_level_j5 R x25=some w4l/\At [(8,aj b5 0),(9,Pr.i64 0),(10,aj b6 0)] [Own.box b5 rApiNode (ApiNode.mk 0 [] [] 0 0 0 0 0 []),Own.box b6 ac x25,Own.box b14 rApiNode x18,Own.box b15 ac x13,Own.box b26 rApiNode x23,Own.box b27 ac x25] e C) ?_ ?_
   ·rintro e C ⟨h4l,hat5⟩
    refine W_at hat5 ?_
    unfold ref12_level_j5 at h4l
    obtain rfl:=ho4 _ (Option.some.inj h4l).symm
    replace h:some ((ApiNode.mk 0 [] [] 0 0 0 0 0 []),0,x25)=some r:=h
    obtain rfl:=osj h
    exact ax ⟨rfl,[(rApiNode).val (ApiNode.mk 0 [] [] 0 0 0 0 0 []),Pr.i64 0,(ac).val x25],⟨yBox 0 ty48 aa,yT aa,yBox 1 ty76 aa,trivial⟩,aa⟩
   refine fb [(2,0,Own.box b5 rApiNode (ApiNode.mk 0 [] [] 0 0 0 0 0 [])),(4,1,Own.box b6 ac x25)] [Own.box b5 rApiNode (ApiNode.mk 0 [] [] 0 0 0 0 0 []),Own.box b6 ac x25,Own.box b14 rApiNode x18,Own.box b15 ac x13,Own.box b26 rApiNode x23,Own.box b27 ac x25] hmx (by kernel_rfl) (by kernel_rfl) (show([2,4]:List Nat).Nodup by decide) (show([0,1]:List Nat).Nodup by decide) rfl rfl ?_
   refine eq1 (out:=(rApiNode).val (ApiNode.mk 0 [] [] 0 0 0 0 0 [])) (fun C2 hC=>(du au st48 rfl)) ?_
   refine eq1 (out:=(ac).val x25) (fun C2 hC=>(bb (R:=ac) (a:=x25) (R':=ac) 5 ty76 (Sub.refl _) (hi:=(hC 5 (by kernel_rfl)).trans rfl))) ?_
   refine eqS (fun C2 hC=>dr (R:=rApiNode) (R':=rApiNode) (a:=(ApiNode.mk 0 [] [] 0 0 0 0 0 [])) (y:=(ApiNode.mk 0 [] [] 0 0 0 0 0 [])) 0 Tryz.sizeOf48 (Upd.refl _) ((hC 0 (by kernel_rfl)).trans rfl)) ?_
   refine eq1 (out:=Pr.i64 0) (fun C2 hC=>el) ?_
   refine eqS (fun C2 hC=>dr (R:=ac) (R':=ac) (a:=(Ref12Wrong.mk 0 0)) (y:=x25) 1 Tryz.sizeOf76 (Upd.refl _) ((hC 1 (by kernel_rfl)).trans rfl)) ?_
   exact⟨h4l,atOk⟩
  refine ar (W_rs (kMvL rfl (kMv rfl ?_)))
  obtain⟨x29,hx29,h4l⟩:=af h4l
  refine kUn (fi Tryz.underlying70 Tryz.sizeOf74 hx29) ?_
  refine kUn (de fld74_1 subApiToken_Text) ?_
  refine kUn (cw ty9) ?_
  refine kAs rfl (W_rs (kMvL rfl (kMv rfl (kMv rfl (kUn (bb 2 ty48 (Sub.refl _)) ?_)))))
  refine kUn (bb 4 ty48 (Sub.refl _)) ?_
  refine kUn (kw (R:=rApiNode) (ls:=([x18,x23]:List ApiNode)) el44 (Nat.le_of_ble_eq_true rfl) ⟨rfl,rfl⟩ ⟨rfl,rfl,trivial⟩) ?_
  refine cg h4l (dq x1 24 x2 x24 ([x18,x23]:List ApiNode)) rfl fun x30 _ h4l=>ak 2 rfl rfl (Upd.refl _) rfl Tryz.sizeOf48 (W_rs (kMv rfl (kUn (av oo) ?_)))
  refine ak 2 rfl rfl jt rfl Tryz.sizeOf9 (W_r (kMv rfl (kAs rfl ?_)))
  exact⟨m4,Nat.lt_succ_self _,x24,{x30 with Text:=x29.Text},hn4 _ (Option.some.inj h4l).symm,⟨⟨aa,aa,aa,aa,aa,aa,aa,aa,trivial⟩,Pick.of [0,1,2,3] rfl⟩⟩
 refine ej ?_
 obtain rfl:=ho4 _ (Option.some.inj h4l).symm
 exact⟨x17,x18,h,atOk⟩
theorem F_ref12_unary_step (R:al) (ih:fv R) (x1:List ApiToken) (x2 x3:Int) (r:ApiNode × Int × Ref12Wrong) (h:F_ref12_unary R x1 x2 x3=some r):FnP Tryz.prog 159 [ap ah x1,Pr.i64 x2,Pr.i64 x3] (ce [(rApiNode).val r.1,Pr.i64 r.2.1,(ac).val r.2.2]):=by
 refine ep (rs:=[.cell 6 48,.tmp 7,.cell 8 76]) Tryz.func159 rfl Tryz.ntmps159 Tryz.results159 (by decide) (fun s0=> ?_)
 unfold F_ref12_unary at h
 refine W_rs (a8 al48 fun b4=>kAs rfl (a8 al76 fun b5=>az (W_rs (kMv rfl (kIn rfl rfl rfl ?_)))))
 refine a7 h rfl (fun _ h=> ?_) (fun _ h=> ?_)
 ·refine W_rs (kUn (du au st48 rfl) ?_)
  refine kMv rfl (kUn (j8 st76 ⟨(Ref12Wrong.mk x2 0),⟨_,rfl,rfl,fun j fd hj hf=>by match j,hj with| 0,h=>exact absurd rfl h| 1,_=>cases hf;rfl|_+2,_=>cases hf⟩,⟨(Ref12Wrong.mk x2 2),⟨_,rfl,rfl,fun j fd hj hf=>by match j,hj with| 0,_=>cases hf;rfl| 1,h=>exact absurd rfl h|_+2,_=>cases hf⟩,rfl⟩⟩) ?_)
  refine ak 0 rfl rfl (Upd.refl _) rfl Tryz.sizeOf48 (kAs rfl (ak 1 rfl rfl (Upd.refl _) rfl Tryz.sizeOf76 ?_))
  obtain rfl:=osj h
  exact ax ⟨rfl,[(rApiNode).val (ApiNode.mk 0 [] [] 0 0 0 0 0 []),Pr.i64 0,(ac).val (Ref12Wrong.mk x2 2)],⟨yBox 0 ty48 aa,yT aa,yBox 1 ty76 aa,trivial⟩,aa⟩
 refine ar (az ?_)
 refine bj (fun e C=>∃(x10:Bool),lw R x1 x2 x3 x10=some r/\At [(0,ap ah x1),(1,Pr.i64 x2),(2,Pr.i64 x3),(6,aj b4 0),(8,aj b5 0),(34,Pr.bool x10)] [Own.box b4 rApiNode (ApiNode.mk 0 [] [] 0 0 0 0 0 []),Own.box b5 ac (Ref12Wrong.mk 0 0)] e C) ?_ ?_
 ·rintro e C ⟨x10,h,hat9⟩
  refine W_at hat9 ?_
  unfold lw at h
  refine a7 h rfl (fun _ h=> ?_) (fun _ h=> ?_)
  ·refine W_rs (kMvL rfl (kMv rfl (kIn rfl rfl rfl (kMv rfl (kIn rfl rfl rfl ?_)))))
   obtain⟨⟨x12,x13,x14⟩,hx12,h⟩:=af h
   refine kUn (dl (ih.2.2.1 x1 (w64 (x2+1)) (w64 (x3+1)) _ hx12)) ?_
   refine kUn (hMv (out:=ce [(rApiNode).val x12,Pr.i64 x13,(ac).val x14]) rfl) (kUn ao ?_)
   refine kUn ao ?_
   refine kUn ao ?_
   refine a8 al48 fun b15=> ?_
   refine a8 al76 fun b16=>ak 2 rfl rfl (Upd.refl _) rfl Tryz.sizeOf48 (kAs rfl (ak 3 rfl rfl (Upd.refl _) rfl Tryz.sizeOf76 (az (W_rs (kUn (av kv) ?_)))))
   refine kUn (bb 3 ty3 bq) ?_
   refine kIn rfl rfl rfl ?_
   refine a7 h rfl (fun _ h=> ?_) (fun _ h=> ?_)
   ·refine bj (fun e C=>ref12_unary_j1 R x14=some r/\At [(6,aj b4 0),(7,Pr.i64 0),(8,aj b5 0)] [Own.box b4 rApiNode (ApiNode.mk 0 [] [] 0 0 0 0 0 []),Own.box b5 ac x14,Own.box b15 rApiNode x12,Own.box b16 ac x14] e C) ?_ ?_
    ·rintro e C ⟨h,hat1⟩
     refine W_at hat1 ?_
     unfold ref12_unary_j1 at h
     obtain rfl:=osj h
     exact ax ⟨rfl,[(rApiNode).val (ApiNode.mk 0 [] [] 0 0 0 0 0 []),Pr.i64 0,(ac).val x14],⟨yBox 0 ty48 aa,yT aa,yBox 1 ty76 aa,trivial⟩,aa⟩
    refine fb [(2,0,Own.box b4 rApiNode (ApiNode.mk 0 [] [] 0 0 0 0 0 [])),(4,1,Own.box b5 ac x14)] [Own.box b4 rApiNode (ApiNode.mk 0 [] [] 0 0 0 0 0 []),Own.box b5 ac x14,Own.box b15 rApiNode x12,Own.box b16 ac x14] hmx (by kernel_rfl) (by kernel_rfl) (show([2,4]:List Nat).Nodup by decide) (show([0,1]:List Nat).Nodup by decide) rfl rfl ?_
    refine eq1 (out:=(rApiNode).val (ApiNode.mk 0 [] [] 0 0 0 0 0 [])) (fun C2 hC=>(du au st48 rfl)) ?_
    refine eq1 (out:=(ac).val x14) (fun C2 hC=>(bb (R:=ac) (a:=x14) (R':=ac) 3 ty76 (Sub.refl _) (hi:=(hC 3 (by kernel_rfl)).trans rfl))) ?_
    refine eqS (fun C2 hC=>dr (R:=rApiNode) (R':=rApiNode) (a:=(ApiNode.mk 0 [] [] 0 0 0 0 0 [])) (y:=(ApiNode.mk 0 [] [] 0 0 0 0 0 [])) 0 Tryz.sizeOf48 (Upd.refl _) ((hC 0 (by kernel_rfl)).trans rfl)) ?_
    refine eq1 (out:=Pr.i64 0) (fun C2 hC=>el) ?_
    refine eqS (fun C2 hC=>dr (R:=ac) (R':=ac) (a:=(Ref12Wrong.mk 0 0)) (y:=x14) 1 Tryz.sizeOf76 (Upd.refl _) ((hC 1 (by kernel_rfl)).trans rfl)) ?_
    exact⟨h,atOk⟩
   refine ar (W_rs (kAs rfl ?_))
   refine bj (fun e C=>∃(x20:Int),lz R x1 x2 x13 x12 x20=some r/\At [(0,ap ah x1),(1,Pr.i64 x2),(6,aj b4 0),(8,aj b5 0),(9,aj b15 0),(10,Pr.i64 x13),(12,Pr.i64 x20)] [Own.box b4 rApiNode (ApiNode.mk 0 [] [] 0 0 0 0 0 []),Own.box b5 ac (Ref12Wrong.mk 0 0),Own.box b15 rApiNode x12,Own.box b16 ac x14] e C) ?_ ?_
   ·rintro e C ⟨x20,h,hat2⟩
    refine W_at hat2 ?_
    unfold lz at h
    refine W_rs (kMvL rfl (kMv rfl (kMv rfl (kMv rfl (kUn (bb 2 ty48 (Sub.refl _)) ?_)))))
    refine kUn (bt (R:=rApiNode) (a:=x12) el44 (Nat.le_of_ble_eq_true rfl)) ?_
    refine cg h (dq x1 x20 x2 x13 ([x12]:List ApiNode)) rfl fun x21 _ h=>kMv rfl (cg h (cu) rfl fun x22 _ h=>ak 0 rfl rfl (Upd.refl _) rfl Tryz.sizeOf48 (kAs rfl (ak 1 rfl rfl (Upd.refl _) rfl Tryz.sizeOf76 ?_)))
    obtain rfl:=osj h
    exact ax ⟨rfl,[(rApiNode).val x21,Pr.i64 x13,(ac).val x22],⟨yBox 0 ty48 aa,yT aa,yBox 1 ty76 aa,trivial⟩,aa⟩
   refine W_rs (kMvL rfl (kMv rfl ?_))
   obtain⟨x18,hx18,h⟩:=af h
   refine kUn (fi Tryz.underlying70 Tryz.sizeOf74 hx18) ?_
   refine kUn (de fld74_1 subApiToken_Text) ?_
   refine kUn (cw ty9) ?_
   refine kSt rfl rfl rfl ?_
   refine a7 h rfl (fun _ h=> ?_) (fun _ h=> ?_)
   ·refine W_r (kAs rfl ?_)
    exact⟨23,h,atOk⟩
   refine ar ?_
   exact⟨22,h,atOk⟩
  refine ar (W_rs (kMvL rfl (kMv rfl (kMv rfl (kIn rfl rfl rfl ?_)))))
  obtain⟨⟨x23,x24,x25⟩,hx23,h⟩:=af h
  refine kUn (dl (ih.2.2.2.1 x1 x2 (w64 (x3+1)) _ hx23)) ?_
  refine kUn (hMv (out:=ce [(rApiNode).val x23,Pr.i64 x24,(ac).val x25]) rfl) (kUn ao ?_)
  refine kUn ao ?_
  refine kUn ao ?_
  refine a8 al48 fun b26=> ?_
  refine a8 al76 fun b27=>ak 2 rfl rfl (Upd.refl _) rfl Tryz.sizeOf48 (kAs rfl (ak 3 rfl rfl (Upd.refl _) rfl Tryz.sizeOf76 (az (W_rs (kUn (av kv) ?_)))))
  refine kUn (bb 3 ty3 bq) ?_
  refine kIn rfl rfl rfl ?_
  refine a7 h rfl (fun _ h=> ?_) (fun _ h=> ?_)
  ·refine bj (fun e C=>ref12_unary_j3 R x25=some r/\At [(6,aj b4 0),(7,Pr.i64 0),(8,aj b5 0)] [Own.box b4 rApiNode (ApiNode.mk 0 [] [] 0 0 0 0 0 []),Own.box b5 ac x25,Own.box b26 rApiNode x23,Own.box b27 ac x25] e C) ?_ ?_
   ·rintro e C ⟨h,hat3⟩
    refine W_at hat3 ?_
    unfold ref12_unary_j3 at h
    obtain rfl:=osj h
    exact ax ⟨rfl,[(rApiNode).val (ApiNode.mk 0 [] [] 0 0 0 0 0 []),Pr.i64 0,(ac).val x25],⟨yBox 0 ty48 aa,yT aa,yBox 1 ty76 aa,trivial⟩,aa⟩
   refine fb [(2,0,Own.box b4 rApiNode (ApiNode.mk 0 [] [] 0 0 0 0 0 [])),(4,1,Own.box b5 ac x25)] [Own.box b4 rApiNode (ApiNode.mk 0 [] [] 0 0 0 0 0 []),Own.box b5 ac x25,Own.box b26 rApiNode x23,Own.box b27 ac x25] hmx (by kernel_rfl) (by kernel_rfl) (show([2,4]:List Nat).Nodup by decide) (show([0,1]:List Nat).Nodup by decide) rfl rfl ?_
   refine eq1 (out:=(rApiNode).val (ApiNode.mk 0 [] [] 0 0 0 0 0 [])) (fun C2 hC=>(du au st48 rfl)) ?_
   refine eq1 (out:=(ac).val x25) (fun C2 hC=>(bb (R:=ac) (a:=x25) (R':=ac) 3 ty76 (Sub.refl _) (hi:=(hC 3 (by kernel_rfl)).trans rfl))) ?_
   refine eqS (fun C2 hC=>dr (R:=rApiNode) (R':=rApiNode) (a:=(ApiNode.mk 0 [] [] 0 0 0 0 0 [])) (y:=(ApiNode.mk 0 [] [] 0 0 0 0 0 [])) 0 Tryz.sizeOf48 (Upd.refl _) ((hC 0 (by kernel_rfl)).trans rfl)) ?_
   refine eq1 (out:=Pr.i64 0) (fun C2 hC=>el) ?_
   refine eqS (fun C2 hC=>dr (R:=ac) (R':=ac) (a:=(Ref12Wrong.mk 0 0)) (y:=x25) 1 Tryz.sizeOf76 (Upd.refl _) ((hC 1 (by kernel_rfl)).trans rfl)) ?_
   exact⟨h,atOk⟩
  refine ar (az (a4 ?_))
  obtain⟨z6l,hz6,h⟩:=af h
  obtain⟨n6,hN6⟩:=bp hz6
  refine d7 0 (fun e C=>∃(x29:Int),∃(x30:ApiNode),ref12_unary_k5 R x29 x30=some r/\At [(6,aj b4 0),(8,aj b5 0),(13,aj b26 0),(14,Pr.i64 x29)] [Own.box b4 rApiNode (ApiNode.mk 0 [] [] 0 0 0 0 0 []),Own.box b5 ac (Ref12Wrong.mk 0 0),Own.box b26 rApiNode x30,Own.box b27 ac x25] e C) ?_ ?_
  ·rintro e C ⟨x29,x30,h,hat5⟩
   refine W_at hat5 ?_
   unfold ref12_unary_k5 at h
   refine bj (fun e C=>∃(x55:Ref12Wrong),ref12_unary_j4 R x30 x29 x55=some r/\At [(6,aj b4 0),(7,Pr.i64 x29),(8,aj b5 0)] [Own.box b4 rApiNode x30,Own.box b5 ac x55,Own.box b26 rApiNode x30,Own.box b27 ac x25] e C) ?_ ?_
   ·rintro e C ⟨x55,h,hat4⟩
    refine W_at hat4 ?_
    unfold ref12_unary_j4 at h
    obtain rfl:=osj h
    exact ax ⟨rfl,[(rApiNode).val x30,Pr.i64 x29,(ac).val x55],⟨yBox 0 ty48 aa,yT aa,yBox 1 ty76 aa,trivial⟩,aa⟩
   obtain⟨x55,hx55,h⟩:=af h
   refine fb [(3,0,Own.box b4 rApiNode x30),(5,1,Own.box b5 ac x55)] [Own.box b4 rApiNode x30,Own.box b5 ac x55,Own.box b26 rApiNode x30,Own.box b27 ac x25] hmx (by kernel_rfl) (by kernel_rfl) (show([3,5]:List Nat).Nodup by decide) (show([0,1]:List Nat).Nodup by decide) rfl rfl ?_
   refine eq1 (out:=(rApiNode).val x30) (fun C2 hC=>(bb (R:=rApiNode) (a:=x30) (R':=rApiNode) 2 ty48 (Sub.refl _) (hi:=(hC 2 (by kernel_rfl)).trans rfl))) ?_
   refine eq1 (out:=Pr.i64 x29) (fun C2 hC=>jn) ?_
   refine eq1 (out:=(ac).val x55) (fun C2 hC=>(dl (cu _ hx55))) ?_
   refine eqS (fun C2 hC=>dr (R:=rApiNode) (R':=rApiNode) (a:=(ApiNode.mk 0 [] [] 0 0 0 0 0 [])) (y:=x30) 0 Tryz.sizeOf48 (Upd.refl _) ((hC 0 (by kernel_rfl)).trans rfl)) ?_
   refine eq1 (out:=Pr.i64 x29) (fun C2 hC=>el) ?_
   refine eqS (fun C2 hC=>dr (R:=ac) (R':=ac) (a:=(Ref12Wrong.mk 0 0)) (y:=x55) 1 Tryz.sizeOf76 (Upd.refl _) ((hC 1 (by kernel_rfl)).trans rfl)) ?_
   exact⟨x55,h,atOk⟩
  refine ew (fun m e C=>∃(x29:Int),∃(x30:ApiNode),ff (fun s=>qg R x1 x3 x2 s.1 s.2) m (x29,x30)=some z6l/\At [(0,ap ah x1),(1,Pr.i64 x2),(2,Pr.i64 x3),(6,aj b4 0),(8,aj b5 0),(13,aj b26 0),(14,Pr.i64 x29)] [Own.box b4 rApiNode (ApiNode.mk 0 [] [] 0 0 0 0 0 []),Own.box b5 ac (Ref12Wrong.mk 0 0),Own.box b26 rApiNode x30,Own.box b27 ac x25] e C) n6 ⟨x24,x23,hN6,⟨⟨aa,aa,aa,aa,aa,aa,aa,trivial⟩,Pick.refl _⟩⟩ ?_
  rintro m e C ⟨x29,x30,hN6,hatl6⟩
  refine W_at hatl6 ?_
  obtain⟨m6,w6l,rfl,h6l,hn6,ho6⟩:=bk hN6
  replace h6l:qg R x1 x3 x2 x29 x30=some w6l:=h6l
  unfold qg at h6l
  refine az (W_rs (kMvL rfl (kMv rfl (cg h6l (bg x1 x29 ([46]:List UInt8)) rfl fun x33 _ h6l=> ?_))))
  refine a7 h6l rfl (fun _ h6l=> ?_) (fun _ h6l=> ?_)
  ·refine ar (a4 (az (W_rs (kMvL rfl (kMv rfl (kIn rfl rfl rfl (cg h6l (i5 x1 (w64 (x29+1))) rfl fun x35 _ h6l=>kNo rfl ?_)))))))
   refine a7 h6l rfl (fun _ h6l=> ?_) (fun _ h6l=> ?_)
   ·refine W_rs (kUn (du au st48 rfl) ?_)
    refine kMv rfl (kIn rfl rfl rfl (cg h6l (cb (w64 (x29+1))) rfl fun x37 _ h6l=>ak 0 rfl rfl (Upd.refl _) rfl Tryz.sizeOf48 (kAs rfl (ak 1 rfl rfl (Upd.refl _) rfl Tryz.sizeOf76 ?_))))
    obtain rfl:=ho6 _ (Option.some.inj h6l).symm
    replace h:some ((ApiNode.mk 0 [] [] 0 0 0 0 0 []),0,x37)=some r:=h
    obtain rfl:=osj h
    exact ax ⟨rfl,[(rApiNode).val (ApiNode.mk 0 [] [] 0 0 0 0 0 []),Pr.i64 0,(ac).val x37],⟨yBox 0 ty48 aa,yT aa,yBox 1 ty76 aa,trivial⟩,aa⟩
   refine ar (W_rs (kMv rfl (kIn rfl rfl rfl (kAs rfl (W_rs (kAs rfl (W_rs (kUn (bb 2 ty48 (Sub.refl _)) ?_))))))))
   refine rBuildV (R:=rApiNode) (ls:=([x30]:List ApiNode)) el44 (Nat.le_of_ble_eq_true rfl) ⟨rfl,rfl⟩ ⟨rfl,trivial⟩ (fun v38=> ?_)
   refine kAs rfl (W_rs (kMv rfl (kIn rfl rfl rfl (kAs rfl ?_))))
   refine bj (fun e C=>∃(x48:Int),∃(x49:Int),∃(x51:List ApiNode),∃(v50:Value),qh R x1 x2 x29 x48 x49 x51=some w6l/\At [(0,ap ah x1),(1,Pr.i64 x2),(2,Pr.i64 x3),(6,aj b4 0),(8,aj b5 0),(13,aj b26 0),(14,Pr.i64 x48),(16,Pr.i64 (w64 (x29+1))),(17,Pr.i64 x49),(18,Pr.is v50)] [Own.box b4 rApiNode (ApiNode.mk 0 [] [] 0 0 0 0 0 []),Own.box b5 ac (Ref12Wrong.mk 0 0),Own.box b26 rApiNode x30,Own.box b27 ac x25,Own.vec v50 rApiNode x51 48] e C) ?_ ?_
   ·rintro e C ⟨x48,x49,x51,v50,h6l,hat7⟩
    refine W_at hat7 ?_
    unfold qh at h6l
    refine W_rs (kMvL rfl (kMv rfl (kMv rfl (kMv rfl (kMv rfl ?_)))))
    obtain⟨x52,hx52,h6l⟩:=af h6l
    refine rRel 4 [18,123] ?_ rfl ⟨rfl,rfl,trivial⟩
    refine kUn (dl (dq x1 x49 x2 x48 x51 _ hx52)) ?_
    refine ak 2 rfl rfl (Upd.refl _) rfl Tryz.sizeOf48 (W_rs (kMvL rfl (kMv rfl ?_)))
    obtain⟨x53,hx53,h6l⟩:=af h6l
    refine kUn (fi Tryz.underlying70 Tryz.sizeOf74 hx53) ?_
    refine kUn (de fld74_1 subApiToken_Text) ?_
    refine kUn (cw ty9) ?_
    refine kUn (av oo) ?_
    refine ak 2 rfl rfl jt rfl Tryz.sizeOf9 (W_r (kMvL rfl (kMv rfl ?_)))
    obtain⟨x54,hx54,h6l⟩:=af h6l
    refine kUn (fi Tryz.underlying70 Tryz.sizeOf74 hx54) ?_
    refine kUn (de fld74_2 subApiToken_At) ?_
    refine kUn (cw ty3) ?_
    refine kUn (av fld48_6) ?_
    refine ak 2 rfl rfl pl rfl Tryz.sizeOf3 ?_
    exact⟨m6,Nat.lt_succ_self _,x48,{{x52 with Text:=x53.Text} with At:=x54.At},hn6 _ (Option.some.inj h6l).symm,atOk⟩
   refine W_rs (kMvL rfl (kMv rfl (cg h6l (bg x1 (w64 ((w64 (x29+1))+1)) ([40]:List UInt8)) rfl fun x39 _ h6l=> ?_)))
   refine a7 h6l rfl (fun _ h6l=> ?_) (fun _ h6l=> ?_)
   ·refine W_rs (kMvL rfl (kMv rfl (kIn rfl rfl rfl (kMv rfl (kIn rfl rfl rfl ?_)))))
    obtain⟨⟨x41,x42,x43⟩,hx41,h6l⟩:=af h6l
    refine kUn (dl (ih.2.2.2.2 x1 (w64 ((w64 ((w64 (x29+1))+1))+1)) (w64 (x3+1)) _ hx41)) ?_
    refine kUn (hMv (out:=ce [ap rApiNode x41,Pr.i64 x42,(ac).val x43]) rfl) (kUn ao ?_)
    refine kUn ao ?_
    refine kUn ao ?_
    refine a8 al76 fun b44=>kAsL rfl (kAs rfl (ak 5 rfl rfl (Upd.refl _) rfl Tryz.sizeOf76 (az (W_rs (kUn (av kv) ?_)))))
    refine kUn (bb 5 ty3 bq) ?_
    refine kIn rfl rfl rfl ?_
    refine a7 h6l rfl (fun _ h6l=> ?_) (fun _ h6l=> ?_)
    ·refine bj (fun e C=>ref12_unary_j8 R x43=some w6l/\At [(6,aj b4 0),(7,Pr.i64 0),(8,aj b5 0)] [Own.box b4 rApiNode (ApiNode.mk 0 [] [] 0 0 0 0 0 []),Own.box b5 ac x43,Own.box b26 rApiNode x30,Own.box b27 ac x25,Own.box b44 ac x43] e C) ?_ ?_
     ·rintro e C ⟨h6l,hat8⟩
      refine W_at hat8 ?_
      unfold ref12_unary_j8 at h6l
      obtain rfl:=ho6 _ (Option.some.inj h6l).symm
      replace h:some ((ApiNode.mk 0 [] [] 0 0 0 0 0 []),0,x43)=some r:=h
      obtain rfl:=osj h
      exact ax ⟨rfl,[(rApiNode).val (ApiNode.mk 0 [] [] 0 0 0 0 0 []),Pr.i64 0,(ac).val x43],⟨yBox 0 ty48 aa,yT aa,yBox 1 ty76 aa,trivial⟩,aa⟩
     refine fb [(2,0,Own.box b4 rApiNode (ApiNode.mk 0 [] [] 0 0 0 0 0 [])),(4,1,Own.box b5 ac x43)] [Own.box b4 rApiNode (ApiNode.mk 0 [] [] 0 0 0 0 0 []),Own.box b5 ac x43,Own.box b26 rApiNode x30,Own.box b27 ac x25,Own.vec v38 rApiNode ([x30]:List ApiNode) 48,Own.box b44 ac x43] hmx (by kernel_rfl) (by kernel_rfl) (show([2,4]:List Nat).Nodup by decide) (show([0,1]:List Nat).Nodup by decide) rfl rfl ?_
     refine eq1 (out:=(rApiNode).val (ApiNode.mk 0 [] [] 0 0 0 0 0 [])) (fun C2 hC=>(du au st48 rfl)) ?_
     refine eq1 (out:=(ac).val x43) (fun C2 hC=>(bb (R:=ac) (a:=x43) (R':=ac) 5 ty76 (Sub.refl _) (hi:=(hC 5 (by kernel_rfl)).trans rfl))) ?_
     refine eqS (fun C2 hC=>dr (R:=rApiNode) (R':=rApiNode) (a:=(ApiNode.mk 0 [] [] 0 0 0 0 0 [])) (y:=(ApiNode.mk 0 [] [] 0 0 0 0 0 [])) 0 Tryz.sizeOf48 (Upd.refl _) ((hC 0 (by kernel_rfl)).trans rfl)) ?_
     refine eq1 (out:=Pr.i64 0) (fun C2 hC=>el) ?_
     refine eqS (fun C2 hC=>dr (R:=ac) (R':=ac) (a:=(Ref12Wrong.mk 0 0)) (y:=x43) 1 Tryz.sizeOf76 (Upd.refl _) ((hC 1 (by kernel_rfl)).trans rfl)) ?_
     exact⟨h6l,⟨⟨aa,aa,aa,trivial⟩,Pick.of [0,1,2,3,5] rfl⟩⟩
    refine ar (W_rs (kAs rfl (W_rs (kMv rfl (kMvL rfl ?_)))))
    obtain⟨x46,hx46,h6l⟩:=af h6l
    refine fg 4 el44 hx46 (fun v47=> ?_)
    refine kAs rfl (W_r (kMv rfl (kAs rfl ?_)))
    exact⟨x42,20,x46,v47,h6l,⟨⟨aa,aa,aa,aa,aa,aa,aa,aa,aa,aa,trivial⟩,Pick.of [0,1,2,3,4] rfl⟩⟩
   refine ar ?_
   exact⟨w64 ((w64 (x29+1))+1),18,([x30]:List ApiNode),v38,h6l,atOk⟩
  refine ej ?_
  obtain rfl:=ho6 _ (Option.some.inj h6l).symm
  exact⟨x29,x30,h,atOk⟩
 refine W_r (kMvL rfl (kMv rfl (cg h (bg x1 x2 ([33]:List UInt8)) rfl fun x7 _ h=>kMv rfl ?_)))
 rcases bd h with⟨hc8,h⟩|⟨hc8,h⟩
 ·refine kSkF rfl aa hc8 (kSkF rfl aa hc8 (kSkF rfl aa hc8 (kPt rfl hc8 rfl ?_)))
  exact⟨true,h,atOk⟩
 refine kGd rfl aa hc8 (hMvL rfl) (kGd rfl aa hc8 (hMvA rfl) ?_)
 obtain⟨x9,hx9,h⟩:=af h
 refine kGd rfl aa hc8 (dl (bg x1 x2 ([45]:List UInt8) _ hx9)) ?_
 refine kPf rfl hc8 rfl ?_
 exact⟨x9,h,atOk⟩
theorem F_ref12_primary_step (R:al) (ih:fv R) (x1:List ApiToken) (x2 x3:Int) (r:ApiNode × Int × Ref12Wrong) (h:pg R x1 x2 x3=some r):FnP Tryz.prog 172 [ap ah x1,Pr.i64 x2,Pr.i64 x3] (ce [(rApiNode).val r.1,Pr.i64 r.2.1,(ac).val r.2.2]):=by
 refine ep (rs:=[.cell 6 48,.tmp 7,.cell 8 76]) Tryz.func172 rfl Tryz.ntmps172 Tryz.results172 (by decide) (fun s0=> ?_)
 unfold pg at h
 refine W_rs (a8 al48 fun b4=>kAs rfl (a8 al76 fun b5=>az (a4 (W_rs (kMvL rfl (kMv rfl ?_))))))
 obtain⟨x6,hx6,h⟩:=af h
 refine kUn (fi Tryz.underlying70 Tryz.sizeOf74 hx6) ?_
 refine kUn (de qc dn) ?_
 refine kUn (cw ty3) ?_
 refine kIn rfl rfl rfl (kAs rfl ?_)
 refine a7 h rfl (fun _ h=> ?_) (fun _ h=> ?_)
 ·refine W_rs (kMvL rfl (kMv rfl (kMv rfl (kIn rfl rfl rfl ?_))))
  obtain⟨x8,hx8,h⟩:=af h
  refine kUn (qCall' (dq x1 13 x2 (w64 (x2+1)) [] _ hx8) ⟨aa,aa,aa,aa,cv _,trivial⟩) ?_
  refine a8 al48 fun b9=>ak 2 rfl rfl (Upd.refl _) rfl Tryz.sizeOf48 (az (W_rs (kAs rfl (a4 ?_))))
  obtain⟨z3l,hz3,h⟩:=af h
  obtain⟨n3,hN3⟩:=bp hz3
  refine d7 1 (fun e C=>∃(x11:ApiNode),qt R x2 x11=some r/\At [(1,Pr.i64 x2),(6,aj b4 0),(8,aj b5 0),(9,aj b9 0)] [Own.box b4 rApiNode (ApiNode.mk 0 [] [] 0 0 0 0 0 []),Own.box b5 ac (Ref12Wrong.mk 0 0),Own.box b9 rApiNode x11] e C) ?_ ?_
  ·rintro e C ⟨x11,h,hat2⟩
   refine W_at hat2 ?_
   unfold qt at h
   refine bj (fun e C=>∃(x18:Ref12Wrong),qx R x11 x2 x18=some r/\At [(6,aj b4 0),(7,Pr.i64 (w64 (x2+1))),(8,aj b5 0)] [Own.box b4 rApiNode x11,Own.box b5 ac x18,Own.box b9 rApiNode x11] e C) ?_ ?_
   ·rintro e C ⟨x18,h,hat1⟩
    refine W_at hat1 ?_
    unfold qx at h
    obtain rfl:=osj h
    exact ax ⟨rfl,[(rApiNode).val x11,Pr.i64 (w64 (x2+1)),(ac).val x18],⟨yBox 0 ty48 aa,yT aa,yBox 1 ty76 aa,trivial⟩,aa⟩
   obtain⟨x18,hx18,h⟩:=af h
   refine fb [(4,0,Own.box b4 rApiNode x11),(6,1,Own.box b5 ac x18)] [Own.box b4 rApiNode x11,Own.box b5 ac x18,Own.box b9 rApiNode x11] hmx (by kernel_rfl) (by kernel_rfl) (show([4,6]:List Nat).Nodup by decide) (show([0,1]:List Nat).Nodup by decide) rfl rfl ?_
   refine eq1 (out:=(rApiNode).val x11) (fun C2 hC=>(bb (R:=rApiNode) (a:=x11) (R':=rApiNode) 2 ty48 (Sub.refl _) (hi:=(hC 2 (by kernel_rfl)).trans rfl))) ?_
   refine eq1 (out:=Pr.i64 x2) (fun C2 hC=>jn) ?_
   refine eq1 (out:=Pr.i64 (w64 (x2+1))) (fun C2 hC=>qInt) ?_
   refine eq1 (out:=(ac).val x18) (fun C2 hC=>(dl (cu _ hx18))) ?_
   refine eqS (fun C2 hC=>dr (R:=rApiNode) (R':=rApiNode) (a:=(ApiNode.mk 0 [] [] 0 0 0 0 0 [])) (y:=x11) 0 Tryz.sizeOf48 (Upd.refl _) ((hC 0 (by kernel_rfl)).trans rfl)) ?_
   refine eq1 (out:=Pr.i64 (w64 (x2+1))) (fun C2 hC=>el) ?_
   refine eqS (fun C2 hC=>dr (R:=ac) (R':=ac) (a:=(Ref12Wrong.mk 0 0)) (y:=x18) 1 Tryz.sizeOf76 (Upd.refl _) ((hC 1 (by kernel_rfl)).trans rfl)) ?_
   exact⟨x18,h,atOk⟩
  refine ew (fun m e C=>∃(x10:Int),∃(x11:ApiNode),ff (fun s=>j4 R x1 x2 s.1 s.2) m (x10,x11)=some z3l/\At [(0,ap ah x1),(1,Pr.i64 x2),(6,aj b4 0),(8,aj b5 0),(9,aj b9 0),(10,Pr.i64 x10)] [Own.box b4 rApiNode (ApiNode.mk 0 [] [] 0 0 0 0 0 []),Own.box b5 ac (Ref12Wrong.mk 0 0),Own.box b9 rApiNode x11] e C) n3 ⟨0,x8,hN3,⟨⟨aa,aa,aa,aa,aa,aa,trivial⟩,Pick.refl _⟩⟩ ?_
  rintro m e C ⟨x10,x11,hN3,hatl3⟩
  refine W_at hatl3 ?_
  obtain⟨m3,w3l,rfl,h3l,hn3,ho3⟩:=bk hN3
  replace h3l:j4 R x1 x2 x10 x11=some w3l:=h3l
  unfold j4 at h3l
  refine az (W_rs (kMv rfl (kMvL rfl (kMv rfl ?_))))
  obtain⟨x14,hx14,h3l⟩:=af h3l
  refine kUn (fi Tryz.underlying70 Tryz.sizeOf74 hx14) ?_
  refine kUn (de fld74_1 subApiToken_Text) ?_
  refine kUn (cw ty9) ?_
  refine kUn (ol rfl Tryz.underlying9) ?_
  refine kIn rfl rfl rfl ?_
  refine a7 h3l rfl (fun _ h3l=> ?_) (fun _ h3l=> ?_)
  ·refine ar (az (a4 ?_))
   refine ib 14 hmx (by kernel_rfl) (by kernel_rfl) ?_
   refine lUn (av fld48_3) ?_
   refine lUn (bb 2 ty2 subApiNode_N) ?_
   refine lUn (qInt rfl rfl rfl) (lUn (hMvL rfl) (lUn (hMvA rfl) ?_))
   obtain⟨x16,hx16,h3l⟩:=af h3l
   refine lUn (fi Tryz.underlying70 Tryz.sizeOf74 hx16) ?_
   refine lUn (de fld74_1 subApiToken_Text) ?_
   refine lUn (cw ty9) ?_
   refine lUn (hMvA rfl) ?_
   obtain⟨x17,hx17,h3l⟩:=af h3l
   refine lUn (qIdxS Tryz.underlying9 hx17) ?_
   refine lUn (qInt rfl rfl rfl) (lUn (qConv Tryz.underlying5 Tryz.underlying2) ?_)
   refine lUn (qInt rfl rfl rfl) (lUn (av fld48_3) ?_)
   refine ak 2 rfl rfl q7 rfl Tryz.sizeOf2 (W_r (kMv rfl (kIn rfl rfl rfl (kAs rfl ?_))))
   exact⟨m3,Nat.lt_succ_self _,w64 (x10+1),{x11 with N:=w64 ((w64 (10 * x11.N))+(w64 (IntKind.wrap .u8 (x17 - 48))))},hn3 _ (Option.some.inj h3l).symm,atOk⟩
  refine ej ?_
  obtain rfl:=ho3 _ (Option.some.inj h3l).symm
  exact⟨x11,h,atOk⟩
 refine W_rs (kMvL rfl (kMv rfl (cg h (bg x1 x2 ([116,114,117,101]:List UInt8)) rfl fun x19 _ h=>kAs rfl ?_)))
 refine a7 h rfl (fun _ h=> ?_) (fun _ h=> ?_)
 ·refine W_rs (kMvL rfl (kMv rfl (kMv rfl (kIn rfl rfl rfl ?_))))
  obtain⟨x21,hx21,h⟩:=af h
  refine kUn (qCall' (dq x1 14 x2 (w64 (x2+1)) [] _ hx21) ⟨aa,aa,aa,aa,cv _,trivial⟩) ?_
  refine a8 al48 fun b22=>ak 2 rfl rfl (Upd.refl _) rfl Tryz.sizeOf48 (W_rs (kUn (av fld48_3) ?_))
  refine ak 2 rfl rfl q7 rfl Tryz.sizeOf2 ?_
  refine bj (fun e C=>∃(x23:Ref12Wrong),qw R x21 x2 x23=some r/\At [(6,aj b4 0),(7,Pr.i64 (w64 (x2+1))),(8,aj b5 0)] [Own.box b4 rApiNode ({x21 with N:=1}),Own.box b5 ac x23,Own.box b22 rApiNode ({x21 with N:=1})] e C) ?_ ?_
  ·rintro e C ⟨x23,h,hat4⟩
   refine W_at hat4 ?_
   unfold qw at h
   obtain rfl:=osj h
   exact ax ⟨rfl,[(rApiNode).val ({x21 with N:=1}),Pr.i64 (w64 (x2+1)),(ac).val x23],⟨yBox 0 ty48 aa,yT aa,yBox 1 ty76 aa,trivial⟩,aa⟩
  obtain⟨x23,hx23,h⟩:=af h
  refine fb [(4,0,Own.box b4 rApiNode ({x21 with N:=1})),(6,1,Own.box b5 ac x23)] [Own.box b4 rApiNode ({x21 with N:=1}),Own.box b5 ac x23,Own.box b22 rApiNode ({x21 with N:=1})] hmx (by kernel_rfl) (by kernel_rfl) (show([4,6]:List Nat).Nodup by decide) (show([0,1]:List Nat).Nodup by decide) rfl rfl ?_
  refine eq1 (out:=(rApiNode).val ({x21 with N:=1})) (fun C2 hC=>(bb (R:=rApiNode) (a:={x21 with N:=1}) (R':=rApiNode) 2 ty48 (Sub.refl _) (hi:=(hC 2 (by kernel_rfl)).trans rfl))) ?_
  refine eq1 (out:=Pr.i64 x2) (fun C2 hC=>jn) ?_
  refine eq1 (out:=Pr.i64 (w64 (x2+1))) (fun C2 hC=>qInt) ?_
  refine eq1 (out:=(ac).val x23) (fun C2 hC=>(dl (cu _ hx23))) ?_
  refine eqS (fun C2 hC=>dr (R:=rApiNode) (R':=rApiNode) (a:=(ApiNode.mk 0 [] [] 0 0 0 0 0 [])) (y:={x21 with N:=1}) 0 Tryz.sizeOf48 (Upd.refl _) ((hC 0 (by kernel_rfl)).trans rfl)) ?_
  refine eq1 (out:=Pr.i64 (w64 (x2+1))) (fun C2 hC=>el) ?_
  refine eqS (fun C2 hC=>dr (R:=ac) (R':=ac) (a:=(Ref12Wrong.mk 0 0)) (y:=x23) 1 Tryz.sizeOf76 (Upd.refl _) ((hC 1 (by kernel_rfl)).trans rfl)) ?_
  exact⟨x23,h,atOk⟩
 refine W_rs (kMvL rfl (kMv rfl (cg h (bg x1 x2 ([102,97,108,115,101]:List UInt8)) rfl fun x24 _ h=>kAs rfl ?_)))
 refine a7 h rfl (fun _ h=> ?_) (fun _ h=> ?_)
 ·refine W_rs (kMvL rfl (kMv rfl (kMv rfl (kIn rfl rfl rfl ?_))))
  obtain⟨x26,hx26,h⟩:=af h
  refine kUn (qCall' (dq x1 14 x2 (w64 (x2+1)) [] _ hx26) ⟨aa,aa,aa,aa,cv _,trivial⟩) ?_
  refine kMv rfl (kIn rfl rfl rfl (cg h (cu) rfl fun x27 _ h=>ak 0 rfl rfl (Upd.refl _) rfl Tryz.sizeOf48 (kAs rfl (ak 1 rfl rfl (Upd.refl _) rfl Tryz.sizeOf76 ?_))))
  obtain rfl:=osj h
  exact ax ⟨rfl,[(rApiNode).val x26,Pr.i64 (w64 (x2+1)),(ac).val x27],⟨yBox 0 ty48 aa,yT aa,yBox 1 ty76 aa,trivial⟩,aa⟩
 refine W_rs (kMvL rfl (kMv rfl (cg h (bg x1 x2 ([110,117,108,108]:List UInt8)) rfl fun x28 _ h=>kAs rfl ?_)))
 refine a7 h rfl (fun _ h=> ?_) (fun _ h=> ?_)
 ·refine W_rs (kMvL rfl (kMv rfl (kMv rfl (kIn rfl rfl rfl ?_))))
  obtain⟨x30,hx30,h⟩:=af h
  refine kUn (qCall' (dq x1 15 x2 (w64 (x2+1)) [] _ hx30) ⟨aa,aa,aa,aa,cv _,trivial⟩) ?_
  refine kMv rfl (kIn rfl rfl rfl (cg h (cu) rfl fun x31 _ h=>ak 0 rfl rfl (Upd.refl _) rfl Tryz.sizeOf48 (kAs rfl (ak 1 rfl rfl (Upd.refl _) rfl Tryz.sizeOf76 ?_))))
  obtain rfl:=osj h
  exact ax ⟨rfl,[(rApiNode).val x30,Pr.i64 (w64 (x2+1)),(ac).val x31],⟨yBox 0 ty48 aa,yT aa,yBox 1 ty76 aa,trivial⟩,aa⟩
 refine W_rs (kMvL rfl (kMv rfl (cg h (bg x1 x2 ([116,104,105,115]:List UInt8)) rfl fun x32 _ h=>kAs rfl ?_)))
 refine a7 h rfl (fun _ h=> ?_) (fun _ h=> ?_)
 ·refine W_rs (kMvL rfl (kMv rfl (kMv rfl (kIn rfl rfl rfl ?_))))
  obtain⟨x34,hx34,h⟩:=af h
  refine kUn (qCall' (dq x1 16 x2 (w64 (x2+1)) [] _ hx34) ⟨aa,aa,aa,aa,cv _,trivial⟩) ?_
  refine kMv rfl (kIn rfl rfl rfl (cg h (cu) rfl fun x35 _ h=>ak 0 rfl rfl (Upd.refl _) rfl Tryz.sizeOf48 (kAs rfl (ak 1 rfl rfl (Upd.refl _) rfl Tryz.sizeOf76 ?_))))
  obtain rfl:=osj h
  exact ax ⟨rfl,[(rApiNode).val x34,Pr.i64 (w64 (x2+1)),(ac).val x35],⟨yBox 0 ty48 aa,yT aa,yBox 1 ty76 aa,trivial⟩,aa⟩
 refine W_rs (kMvL rfl (kMv rfl (cg h (bg x1 x2 ([110,101,119]:List UInt8)) rfl fun x36 _ h=>kAs rfl ?_)))
 refine a7 h rfl (fun _ h=> ?_) (fun _ h=> ?_)
 ·refine az (W_rs (kMvL rfl (kMv rfl (kIn rfl rfl rfl (cg h (i5 x1 (w64 (x2+1))) rfl fun x38 _ h=>kNo rfl ?_)))))
  refine a7 h rfl (fun _ h=> ?_) (fun _ h=> ?_)
  ·refine W_rs (kUn (du au st48 rfl) ?_)
   refine kMv rfl (kIn rfl rfl rfl (cg h (cb (w64 (x2+1))) rfl fun x40 _ h=>ak 0 rfl rfl (Upd.refl _) rfl Tryz.sizeOf48 (kAs rfl (ak 1 rfl rfl (Upd.refl _) rfl Tryz.sizeOf76 ?_))))
   obtain rfl:=osj h
   exact ax ⟨rfl,[(rApiNode).val (ApiNode.mk 0 [] [] 0 0 0 0 0 []),Pr.i64 0,(ac).val x40],⟨yBox 0 ty48 aa,yT aa,yBox 1 ty76 aa,trivial⟩,aa⟩
  refine ar (az (W_rs (kMvL rfl (kMv rfl (kIn rfl rfl rfl (cg h (bg x1 (w64 (x2+2)) ([40]:List UInt8)) rfl fun x41 _ h=>kNo rfl ?_))))))
  refine a7 h rfl (fun _ h=> ?_) (fun _ h=> ?_)
  ·refine W_rs (kUn (du au st48 rfl) ?_)
   refine kMv rfl (kIn rfl rfl rfl (cg h (cb (w64 (x2+2))) rfl fun x43 _ h=>ak 0 rfl rfl (Upd.refl _) rfl Tryz.sizeOf48 (kAs rfl (ak 1 rfl rfl (Upd.refl _) rfl Tryz.sizeOf76 ?_))))
   obtain rfl:=osj h
   exact ax ⟨rfl,[(rApiNode).val (ApiNode.mk 0 [] [] 0 0 0 0 0 []),Pr.i64 0,(ac).val x43],⟨yBox 0 ty48 aa,yT aa,yBox 1 ty76 aa,trivial⟩,aa⟩
  refine ar (az (W_rs (kMvL rfl (kMv rfl (kIn rfl rfl rfl (cg h (bg x1 (w64 (x2+3)) ([41]:List UInt8)) rfl fun x44 _ h=>kNo rfl ?_))))))
  refine a7 h rfl (fun _ h=> ?_) (fun _ h=> ?_)
  ·refine W_rs (kUn (du au st48 rfl) ?_)
   refine kMv rfl (kIn rfl rfl rfl (cg h (cb (w64 (x2+3))) rfl fun x46 _ h=>ak 0 rfl rfl (Upd.refl _) rfl Tryz.sizeOf48 (kAs rfl (ak 1 rfl rfl (Upd.refl _) rfl Tryz.sizeOf76 ?_))))
   obtain rfl:=osj h
   exact ax ⟨rfl,[(rApiNode).val (ApiNode.mk 0 [] [] 0 0 0 0 0 []),Pr.i64 0,(ac).val x46],⟨yBox 0 ty48 aa,yT aa,yBox 1 ty76 aa,trivial⟩,aa⟩
  refine ar (W_rs (kMvL rfl (kMv rfl (kMv rfl (kIn rfl rfl rfl ?_)))))
  obtain⟨x47,hx47,h⟩:=af h
  refine kUn (qCall' (dq x1 21 x2 (w64 (x2+4)) [] _ hx47) ⟨aa,aa,aa,aa,cv _,trivial⟩) ?_
  refine a8 al48 fun b48=>ak 2 rfl rfl (Upd.refl _) rfl Tryz.sizeOf48 (W_rs (kMvL rfl (kMv rfl (kIn rfl rfl rfl ?_))))
  obtain⟨x49,hx49,h⟩:=af h
  refine kUn (fi Tryz.underlying70 Tryz.sizeOf74 hx49) ?_
  refine kUn (de fld74_1 subApiToken_Text) ?_
  refine kUn (cw ty9) ?_
  refine kUn (av oo) ?_
  refine ak 2 rfl rfl jt rfl Tryz.sizeOf9 (W_rs (kMvL rfl (kMv rfl (kIn rfl rfl rfl ?_))))
  obtain⟨x50,hx50,h⟩:=af h
  refine kUn (fi Tryz.underlying70 Tryz.sizeOf74 hx50) ?_
  refine kUn (de fld74_2 subApiToken_At) ?_
  refine kUn (cw ty3) ?_
  refine kUn (av fld48_6) ?_
  refine ak 2 rfl rfl pl rfl Tryz.sizeOf3 ?_
  refine bj (fun e C=>∃(x51:Ref12Wrong),nt R x47 x49 x50 x2 x51=some r/\At [(6,aj b4 0),(7,Pr.i64 (w64 (x2+4))),(8,aj b5 0)] [Own.box b4 rApiNode ({{x47 with Text:=x49.Text} with At:=x50.At}),Own.box b5 ac x51,Own.box b48 rApiNode ({{x47 with Text:=x49.Text} with At:=x50.At})] e C) ?_ ?_
  ·rintro e C ⟨x51,h,hat5⟩
   refine W_at hat5 ?_
   unfold nt at h
   obtain rfl:=osj h
   exact ax ⟨rfl,[(rApiNode).val ({{x47 with Text:=x49.Text} with At:=x50.At}),Pr.i64 (w64 (x2+4)),(ac).val x51],⟨yBox 0 ty48 aa,yT aa,yBox 1 ty76 aa,trivial⟩,aa⟩
  obtain⟨x51,hx51,h⟩:=af h
  refine fb [(4,0,Own.box b4 rApiNode ({{x47 with Text:=x49.Text} with At:=x50.At})),(6,1,Own.box b5 ac x51)] [Own.box b4 rApiNode ({{x47 with Text:=x49.Text} with At:=x50.At}),Own.box b5 ac x51,Own.box b48 rApiNode ({{x47 with Text:=x49.Text} with At:=x50.At})] hmx (by kernel_rfl) (by kernel_rfl) (show([4,6]:List Nat).Nodup by decide) (show([0,1]:List Nat).Nodup by decide) rfl rfl ?_
  refine eq1 (out:=(rApiNode).val ({{x47 with Text:=x49.Text} with At:=x50.At})) (fun C2 hC=>(bb (R:=rApiNode) (a:={{x47 with Text:=x49.Text} with At:=x50.At}) (R':=rApiNode) 2 ty48 (Sub.refl _) (hi:=(hC 2 (by kernel_rfl)).trans rfl))) ?_
  refine eq1 (out:=Pr.i64 x2) (fun C2 hC=>jn) ?_
  refine eq1 (out:=Pr.i64 (w64 (x2+4))) (fun C2 hC=>qInt) ?_
  refine eq1 (out:=(ac).val x51) (fun C2 hC=>(dl (cu _ hx51))) ?_
  refine eqS (fun C2 hC=>dr (R:=rApiNode) (R':=rApiNode) (a:=(ApiNode.mk 0 [] [] 0 0 0 0 0 [])) (y:={{x47 with Text:=x49.Text} with At:=x50.At}) 0 Tryz.sizeOf48 (Upd.refl _) ((hC 0 (by kernel_rfl)).trans rfl)) ?_
  refine eq1 (out:=Pr.i64 (w64 (x2+4))) (fun C2 hC=>el) ?_
  refine eqS (fun C2 hC=>dr (R:=ac) (R':=ac) (a:=(Ref12Wrong.mk 0 0)) (y:=x51) 1 Tryz.sizeOf76 (Upd.refl _) ((hC 1 (by kernel_rfl)).trans rfl)) ?_
  exact⟨x51,h,atOk⟩
 refine W_rs (kMvL rfl (kMv rfl (cg h (bg x1 x2 ([40]:List UInt8)) rfl fun x52 _ h=>kAs rfl ?_)))
 refine a7 h rfl (fun _ h=> ?_) (fun _ h=> ?_)
 ·refine W_rs (kMvL rfl (kMv rfl (kIn rfl rfl rfl (kMv rfl ?_))))
  obtain⟨⟨x54,x55,x56⟩,hx54,h⟩:=af h
  refine kUn (dl (ih.1 x1 (w64 (x2+1)) x3 _ hx54)) ?_
  refine kUn (hMv (out:=ce [(rApiNode).val x54,Pr.i64 x55,(ac).val x56]) rfl) (kUn ao ?_)
  refine kUn ao ?_
  refine kUn ao ?_
  refine a8 al48 fun b57=> ?_
  refine a8 al76 fun b58=>ak 2 rfl rfl (Upd.refl _) rfl Tryz.sizeOf48 (kAs rfl (ak 3 rfl rfl (Upd.refl _) rfl Tryz.sizeOf76 (az (W_rs (kUn (av kv) ?_)))))
  refine kUn (bb 3 ty3 bq) ?_
  refine kIn rfl rfl rfl ?_
  refine a7 h rfl (fun _ h=> ?_) (fun _ h=> ?_)
  ·refine bj (fun e C=>qv R x56=some r/\At [(6,aj b4 0),(7,Pr.i64 0),(8,aj b5 0)] [Own.box b4 rApiNode (ApiNode.mk 0 [] [] 0 0 0 0 0 []),Own.box b5 ac x56,Own.box b57 rApiNode x54,Own.box b58 ac x56] e C) ?_ ?_
   ·rintro e C ⟨h,hat6⟩
    refine W_at hat6 ?_
    unfold qv at h
    obtain rfl:=osj h
    exact ax ⟨rfl,[(rApiNode).val (ApiNode.mk 0 [] [] 0 0 0 0 0 []),Pr.i64 0,(ac).val x56],⟨yBox 0 ty48 aa,yT aa,yBox 1 ty76 aa,trivial⟩,aa⟩
   refine fb [(2,0,Own.box b4 rApiNode (ApiNode.mk 0 [] [] 0 0 0 0 0 [])),(4,1,Own.box b5 ac x56)] [Own.box b4 rApiNode (ApiNode.mk 0 [] [] 0 0 0 0 0 []),Own.box b5 ac x56,Own.box b57 rApiNode x54,Own.box b58 ac x56] hmx (by kernel_rfl) (by kernel_rfl) (show([2,4]:List Nat).Nodup by decide) (show([0,1]:List Nat).Nodup by decide) rfl rfl ?_
   refine eq1 (out:=(rApiNode).val (ApiNode.mk 0 [] [] 0 0 0 0 0 [])) (fun C2 hC=>(du au st48 rfl)) ?_
   refine eq1 (out:=(ac).val x56) (fun C2 hC=>(bb (R:=ac) (a:=x56) (R':=ac) 3 ty76 (Sub.refl _) (hi:=(hC 3 (by kernel_rfl)).trans rfl))) ?_
   refine eqS (fun C2 hC=>dr (R:=rApiNode) (R':=rApiNode) (a:=(ApiNode.mk 0 [] [] 0 0 0 0 0 [])) (y:=(ApiNode.mk 0 [] [] 0 0 0 0 0 [])) 0 Tryz.sizeOf48 (Upd.refl _) ((hC 0 (by kernel_rfl)).trans rfl)) ?_
   refine eq1 (out:=Pr.i64 0) (fun C2 hC=>el) ?_
   refine eqS (fun C2 hC=>dr (R:=ac) (R':=ac) (a:=(Ref12Wrong.mk 0 0)) (y:=x56) 1 Tryz.sizeOf76 (Upd.refl _) ((hC 1 (by kernel_rfl)).trans rfl)) ?_
   exact⟨h,atOk⟩
  refine ar (az (W_rs (kMvL rfl (kMv rfl (cg h (bg x1 x55 ([41]:List UInt8)) rfl fun x60 _ h=>kNo rfl ?_)))))
  refine a7 h rfl (fun _ h=> ?_) (fun _ h=> ?_)
  ·refine W_rs (kUn (du au st48 rfl) ?_)
   refine kMv rfl (cg h (cb x55) rfl fun x62 _ h=>ak 0 rfl rfl (Upd.refl _) rfl Tryz.sizeOf48 (kAs rfl (ak 1 rfl rfl (Upd.refl _) rfl Tryz.sizeOf76 ?_)))
   obtain rfl:=osj h
   exact ax ⟨rfl,[(rApiNode).val (ApiNode.mk 0 [] [] 0 0 0 0 0 []),Pr.i64 0,(ac).val x62],⟨yBox 0 ty48 aa,yT aa,yBox 1 ty76 aa,trivial⟩,aa⟩
  refine ar ?_
  refine bj (fun e C=>∃(x63:Ref12Wrong),ns R x54 x55 x63=some r/\At [(6,aj b4 0),(7,Pr.i64 (w64 (x55+1))),(8,aj b5 0)] [Own.box b4 rApiNode x54,Own.box b5 ac x63,Own.box b57 rApiNode x54,Own.box b58 ac x56] e C) ?_ ?_
  ·rintro e C ⟨x63,h,hat7⟩
   refine W_at hat7 ?_
   unfold ns at h
   obtain rfl:=osj h
   exact ax ⟨rfl,[(rApiNode).val x54,Pr.i64 (w64 (x55+1)),(ac).val x63],⟨yBox 0 ty48 aa,yT aa,yBox 1 ty76 aa,trivial⟩,aa⟩
  obtain⟨x63,hx63,h⟩:=af h
  refine fb [(4,0,Own.box b4 rApiNode x54),(6,1,Own.box b5 ac x63)] [Own.box b4 rApiNode x54,Own.box b5 ac x63,Own.box b57 rApiNode x54,Own.box b58 ac x56] hmx (by kernel_rfl) (by kernel_rfl) (show([4,6]:List Nat).Nodup by decide) (show([0,1]:List Nat).Nodup by decide) rfl rfl ?_
  refine eq1 (out:=(rApiNode).val x54) (fun C2 hC=>(bb (R:=rApiNode) (a:=x54) (R':=rApiNode) 2 ty48 (Sub.refl _) (hi:=(hC 2 (by kernel_rfl)).trans rfl))) ?_
  refine eq1 (out:=Pr.i64 x55) (fun C2 hC=>jn) ?_
  refine eq1 (out:=Pr.i64 (w64 (x55+1))) (fun C2 hC=>qInt) ?_
  refine eq1 (out:=(ac).val x63) (fun C2 hC=>(dl (cu _ hx63))) ?_
  refine eqS (fun C2 hC=>dr (R:=rApiNode) (R':=rApiNode) (a:=(ApiNode.mk 0 [] [] 0 0 0 0 0 [])) (y:=x54) 0 Tryz.sizeOf48 (Upd.refl _) ((hC 0 (by kernel_rfl)).trans rfl)) ?_
  refine eq1 (out:=Pr.i64 (w64 (x55+1))) (fun C2 hC=>el) ?_
  refine eqS (fun C2 hC=>dr (R:=ac) (R':=ac) (a:=(Ref12Wrong.mk 0 0)) (y:=x63) 1 Tryz.sizeOf76 (Upd.refl _) ((hC 1 (by kernel_rfl)).trans rfl)) ?_
  exact⟨x63,h,atOk⟩
 refine W_rs (kMvL rfl (kMv rfl (cg h (i5 x1 x2) rfl fun x64 _ h=>kAs rfl ?_)))
 refine a7 h rfl (fun _ h=> ?_) (fun _ h=> ?_)
 ·refine W_rs (kMvL rfl (kMv rfl (kMv rfl (kIn rfl rfl rfl ?_))))
  obtain⟨x66,hx66,h⟩:=af h
  refine kUn (qCall' (dq x1 17 x2 (w64 (x2+1)) [] _ hx66) ⟨aa,aa,aa,aa,cv _,trivial⟩) ?_
  refine a8 al48 fun b67=>ak 2 rfl rfl (Upd.refl _) rfl Tryz.sizeOf48 (W_rs (kMvL rfl (kMv rfl ?_)))
  obtain⟨x68,hx68,h⟩:=af h
  refine kUn (fi Tryz.underlying70 Tryz.sizeOf74 hx68) ?_
  refine kUn (de fld74_1 subApiToken_Text) ?_
  refine kUn (cw ty9) ?_
  refine kUn (av oo) ?_
  refine ak 2 rfl rfl jt rfl Tryz.sizeOf9 (W_rs (kMvL rfl (kMv rfl ?_)))
  obtain⟨x69,hx69,h⟩:=af h
  refine kUn (fi Tryz.underlying70 Tryz.sizeOf74 hx69) ?_
  refine kUn (de fld74_2 subApiToken_At) ?_
  refine kUn (cw ty3) ?_
  refine kUn (av fld48_6) ?_
  refine ak 2 rfl rfl pl rfl Tryz.sizeOf3 (az (W_rs (kMvL rfl (kMv rfl (kIn rfl rfl rfl (cg h (bg x1 (w64 (x2+1)) ([40]:List UInt8)) rfl fun x70 _ h=>kNo rfl ?_))))))
  refine a7 h rfl (fun _ h=> ?_) (fun _ h=> ?_)
  ·refine bj (fun e C=>∃(x72:Ref12Wrong),nr R x66 x68 x69 x2 x72=some r/\At [(6,aj b4 0),(7,Pr.i64 (w64 (x2+1))),(8,aj b5 0)] [Own.box b4 rApiNode ({{x66 with Text:=x68.Text} with At:=x69.At}),Own.box b5 ac x72,Own.box b67 rApiNode ({{x66 with Text:=x68.Text} with At:=x69.At})] e C) ?_ ?_
   ·rintro e C ⟨x72,h,hat8⟩
    refine W_at hat8 ?_
    unfold nr at h
    obtain rfl:=osj h
    exact ax ⟨rfl,[(rApiNode).val ({{x66 with Text:=x68.Text} with At:=x69.At}),Pr.i64 (w64 (x2+1)),(ac).val x72],⟨yBox 0 ty48 aa,yT aa,yBox 1 ty76 aa,trivial⟩,aa⟩
   obtain⟨x72,hx72,h⟩:=af h
   refine fb [(4,0,Own.box b4 rApiNode ({{x66 with Text:=x68.Text} with At:=x69.At})),(6,1,Own.box b5 ac x72)] [Own.box b4 rApiNode ({{x66 with Text:=x68.Text} with At:=x69.At}),Own.box b5 ac x72,Own.box b67 rApiNode ({{x66 with Text:=x68.Text} with At:=x69.At})] hmx (by kernel_rfl) (by kernel_rfl) (show([4,6]:List Nat).Nodup by decide) (show([0,1]:List Nat).Nodup by decide) rfl rfl ?_
   refine eq1 (out:=(rApiNode).val ({{x66 with Text:=x68.Text} with At:=x69.At})) (fun C2 hC=>(bb (R:=rApiNode) (a:={{x66 with Text:=x68.Text} with At:=x69.At}) (R':=rApiNode) 2 ty48 (Sub.refl _) (hi:=(hC 2 (by kernel_rfl)).trans rfl))) ?_
   refine eq1 (out:=Pr.i64 x2) (fun C2 hC=>jn) ?_
   refine eq1 (out:=Pr.i64 (w64 (x2+1))) (fun C2 hC=>qInt) ?_
   refine eq1 (out:=(ac).val x72) (fun C2 hC=>(dl (cu _ hx72))) ?_
   refine eqS (fun C2 hC=>dr (R:=rApiNode) (R':=rApiNode) (a:=(ApiNode.mk 0 [] [] 0 0 0 0 0 [])) (y:={{x66 with Text:=x68.Text} with At:=x69.At}) 0 Tryz.sizeOf48 (Upd.refl _) ((hC 0 (by kernel_rfl)).trans rfl)) ?_
   refine eq1 (out:=Pr.i64 (w64 (x2+1))) (fun C2 hC=>el) ?_
   refine eqS (fun C2 hC=>dr (R:=ac) (R':=ac) (a:=(Ref12Wrong.mk 0 0)) (y:=x72) 1 Tryz.sizeOf76 (Upd.refl _) ((hC 1 (by kernel_rfl)).trans rfl)) ?_
   exact⟨x72,h,atOk⟩
  refine ar (W_rs (kMvL rfl (kMv rfl (kIn rfl rfl rfl (kMv rfl ?_)))))
  obtain⟨⟨x73,x74,x75⟩,hx73,h⟩:=af h
  refine kUn (dl (ih.2.2.2.2 x1 (w64 (x2+2)) x3 _ hx73)) ?_
  refine kUn (hMv (out:=ce [ap rApiNode x73,Pr.i64 x74,(ac).val x75]) rfl) (kUn ao ?_)
  refine kUn ao ?_
  refine kUn ao ?_
  refine a8 al76 fun b76=>kAsL rfl (kAs rfl (ak 3 rfl rfl (Upd.refl _) rfl Tryz.sizeOf76 (az (W_rs (kUn (av kv) ?_)))))
  refine kUn (bb 3 ty3 bq) ?_
  refine kIn rfl rfl rfl ?_
  refine a7 h rfl (fun _ h=> ?_) (fun _ h=> ?_)
  ·refine bj (fun e C=>qu R x75=some r/\At [(6,aj b4 0),(7,Pr.i64 0),(8,aj b5 0)] [Own.box b4 rApiNode (ApiNode.mk 0 [] [] 0 0 0 0 0 []),Own.box b5 ac x75,Own.box b67 rApiNode ({{x66 with Text:=x68.Text} with At:=x69.At}),Own.box b76 ac x75] e C) ?_ ?_
   ·rintro e C ⟨h,hat9⟩
    refine W_at hat9 ?_
    unfold qu at h
    obtain rfl:=osj h
    exact ax ⟨rfl,[(rApiNode).val (ApiNode.mk 0 [] [] 0 0 0 0 0 []),Pr.i64 0,(ac).val x75],⟨yBox 0 ty48 aa,yT aa,yBox 1 ty76 aa,trivial⟩,aa⟩
   refine fb [(2,0,Own.box b4 rApiNode (ApiNode.mk 0 [] [] 0 0 0 0 0 [])),(4,1,Own.box b5 ac x75)] [Own.box b4 rApiNode (ApiNode.mk 0 [] [] 0 0 0 0 0 []),Own.box b5 ac x75,Own.box b67 rApiNode ({{x66 with Text:=x68.Text} with At:=x69.At}),Own.box b76 ac x75] hmx (by kernel_rfl) (by kernel_rfl) (show([2,4]:List Nat).Nodup by decide) (show([0,1]:List Nat).Nodup by decide) rfl rfl ?_
   refine eq1 (out:=(rApiNode).val (ApiNode.mk 0 [] [] 0 0 0 0 0 [])) (fun C2 hC=>(du au st48 rfl)) ?_
   refine eq1 (out:=(ac).val x75) (fun C2 hC=>(bb (R:=ac) (a:=x75) (R':=ac) 3 ty76 (Sub.refl _) (hi:=(hC 3 (by kernel_rfl)).trans rfl))) ?_
   refine eqS (fun C2 hC=>dr (R:=rApiNode) (R':=rApiNode) (a:=(ApiNode.mk 0 [] [] 0 0 0 0 0 [])) (y:=(ApiNode.mk 0 [] [] 0 0 0 0 0 [])) 0 Tryz.sizeOf48 (Upd.refl _) ((hC 0 (by kernel_rfl)).trans rfl)) ?_
   refine eq1 (out:=Pr.i64 0) (fun C2 hC=>el) ?_
   refine eqS (fun C2 hC=>dr (R:=ac) (R':=ac) (a:=(Ref12Wrong.mk 0 0)) (y:=x75) 1 Tryz.sizeOf76 (Upd.refl _) ((hC 1 (by kernel_rfl)).trans rfl)) ?_
   exact⟨h,atOk⟩
  refine ar (W_rs (kUn (av fld48_0) ?_))
  refine ak 2 rfl rfl updApiNode_Kind rfl Tryz.sizeOf3 (W_rs (kMvL rfl (kUn (av fld48_8) ?_)))
  refine ak 2 rfl rfl updApiNode_Kids rfl Tryz.sizeOf44 (W_rs (kMvL rfl (kMv rfl (cg h (ref12_end_ok x1 x74) rfl fun x78 _ h=> ?_))))
  refine kUn (av fld48_5) ?_
  refine ak 2 rfl rfl updApiNode_To rfl Tryz.sizeOf3 ?_
  refine bj (fun e C=>∃(x79:Ref12Wrong),qa R x66 x68 x69 x73 x78 x74 x79=some r/\At [(6,aj b4 0),(7,Pr.i64 x74),(8,aj b5 0)] [Own.box b4 rApiNode ({{{{{x66 with Text:=x68.Text} with At:=x69.At} with Kind:=19} with Kids:=x73} with To:=x78}),Own.box b5 ac x79,Own.box b67 rApiNode ({{{{{x66 with Text:=x68.Text} with At:=x69.At} with Kind:=19} with Kids:=x73} with To:=x78}),Own.box b76 ac x75] e C) ?_ ?_
  ·rintro e C ⟨x79,h,hat10⟩
   refine W_at hat10 ?_
   unfold qa at h
   obtain rfl:=osj h
   exact ax ⟨rfl,[(rApiNode).val ({{{{{x66 with Text:=x68.Text} with At:=x69.At} with Kind:=19} with Kids:=x73} with To:=x78}),Pr.i64 x74,(ac).val x79],⟨yBox 0 ty48 aa,yT aa,yBox 1 ty76 aa,trivial⟩,aa⟩
  obtain⟨x79,hx79,h⟩:=af h
  refine fb [(3,0,Own.box b4 rApiNode ({{{{{x66 with Text:=x68.Text} with At:=x69.At} with Kind:=19} with Kids:=x73} with To:=x78})),(5,1,Own.box b5 ac x79)] [Own.box b4 rApiNode ({{{{{x66 with Text:=x68.Text} with At:=x69.At} with Kind:=19} with Kids:=x73} with To:=x78}),Own.box b5 ac x79,Own.box b67 rApiNode ({{{{{x66 with Text:=x68.Text} with At:=x69.At} with Kind:=19} with Kids:=x73} with To:=x78}),Own.box b76 ac x75] hmx (by kernel_rfl) (by kernel_rfl) (show([3,5]:List Nat).Nodup by decide) (show([0,1]:List Nat).Nodup by decide) rfl rfl ?_
  refine eq1 (out:=(rApiNode).val ({{{{{x66 with Text:=x68.Text} with At:=x69.At} with Kind:=19} with Kids:=x73} with To:=x78})) (fun C2 hC=>(bb (R:=rApiNode) (a:={{{{{x66 with Text:=x68.Text} with At:=x69.At} with Kind:=19} with Kids:=x73} with To:=x78}) (R':=rApiNode) 2 ty48 (Sub.refl _) (hi:=(hC 2 (by kernel_rfl)).trans rfl))) ?_
  refine eq1 (out:=Pr.i64 x74) (fun C2 hC=>jn) ?_
  refine eq1 (out:=(ac).val x79) (fun C2 hC=>(dl (cu _ hx79))) ?_
  refine eqS (fun C2 hC=>dr (R:=rApiNode) (R':=rApiNode) (a:=(ApiNode.mk 0 [] [] 0 0 0 0 0 [])) (y:={{{{{x66 with Text:=x68.Text} with At:=x69.At} with Kind:=19} with Kids:=x73} with To:=x78}) 0 Tryz.sizeOf48 (Upd.refl _) ((hC 0 (by kernel_rfl)).trans rfl)) ?_
  refine eq1 (out:=Pr.i64 x74) (fun C2 hC=>el) ?_
  refine eqS (fun C2 hC=>dr (R:=ac) (R':=ac) (a:=(Ref12Wrong.mk 0 0)) (y:=x79) 1 Tryz.sizeOf76 (Upd.refl _) ((hC 1 (by kernel_rfl)).trans rfl)) ?_
  exact⟨x79,h,atOk⟩
 refine ar (W_rs (kUn (du au st48 rfl) ?_))
 refine kMv rfl (cg h (cb x2) rfl fun x80 _ h=>ak 0 rfl rfl (Upd.refl _) rfl Tryz.sizeOf48 (kAs rfl (ak 1 rfl rfl (Upd.refl _) rfl Tryz.sizeOf76 ?_)))
 obtain rfl:=osj h
 exact ax ⟨rfl,[(rApiNode).val (ApiNode.mk 0 [] [] 0 0 0 0 0 []),Pr.i64 0,(ac).val x80],⟨yBox 0 ty48 aa,yT aa,yBox 1 ty76 aa,trivial⟩,aa⟩
theorem F_ref12_arguments_step (R:al) (ih:fv R) (x1:List ApiToken) (x2 x3:Int) (r:(List ApiNode) × Int × Ref12Wrong) (h:mr R x1 x2 x3=some r):FnP Tryz.prog 173 [ap ah x1,Pr.i64 x2,Pr.i64 x3] (ce [ap rApiNode r.1,Pr.i64 r.2.1,(ac).val r.2.2]):=by
 refine ep (rs:=[.tmp 6,.tmp 7,.cell 8 76]) Tryz.func173 rfl Tryz.ntmps173 Tryz.results173 (by decide) (fun s0=> ?_)
 unfold mr at h
 refine W_rs (kAs rfl (kAs rfl (a8 al76 fun b4=>W_rs (kAs rfl (az (W_rs (kMvL rfl (kMv rfl (cg h (bg x1 x2 ([41]:List UInt8)) rfl fun x5 _ h=> ?_)))))))))
 refine a7 h rfl (fun _ h=> ?_) (fun _ h=> ?_)
 ·refine W_rs (kMv rfl (kMv rfl (kIn rfl rfl rfl (cg h (cu) rfl fun x7 _ h=>kAs rfl (kAs rfl (ak 0 rfl rfl (Upd.refl _) rfl Tryz.sizeOf76 ?_))))))
  obtain rfl:=osj h
  exact ax ⟨rfl,[ap rApiNode [],Pr.i64 (w64 (x2+1)),(ac).val x7],⟨yT (cv _),yT aa,yBox 0 ty76 aa,trivial⟩,aa⟩
 refine ar (a4 ?_)
 obtain⟨n1,hN1⟩:=bp h
 refine W_nil [9] rApiNode 48 (fun v28=> ?_) ⟨rfl,trivial⟩
 refine ew (fun m e C=>∃(x8:Int),∃(x10:List ApiNode),∃(v9:Value),ff (fun s=>ll R x1 x3 s.1 s.2) m (x8,x10)=some r/\At [(0,ap ah x1),(1,Pr.i64 x8),(2,Pr.i64 x3),(8,aj b4 0),(9,Pr.is v9)] [Own.box b4 ac (Ref12Wrong.mk 0 0),Own.vec v9 rApiNode x10 48] e C) n1 ⟨x2,[],v28,hN1,⟨⟨aa,aa,aa,aa,aa,trivial⟩,Pick.refl _⟩⟩ ?_
 rintro m e C ⟨x8,x10,v9,hN1,hatl1⟩
 refine W_at hatl1 ?_
 obtain⟨m1,w1l,rfl,h1l,hn1,ho1⟩:=bk hN1
 replace h1l:ll R x1 x3 x8 x10=some w1l:=h1l
 unfold ll at h1l
 refine a4 (W_rs (kMvL rfl (kMv rfl (kMv rfl ?_))))
 obtain⟨⟨x14,x15,x16⟩,hx14,h1l⟩:=af h1l
 refine kUn (dl (ih.1 x1 x8 x3 _ hx14)) ?_
 refine kUn (hMv (out:=ce [(rApiNode).val x14,Pr.i64 x15,(ac).val x16]) rfl) (kUn ao ?_)
 refine kUn ao ?_
 refine kUn ao ?_
 refine a8 al48 fun b17=> ?_
 refine a8 al76 fun b18=>ak 2 rfl rfl (Upd.refl _) rfl Tryz.sizeOf48 (kAs rfl (ak 3 rfl rfl (Upd.refl _) rfl Tryz.sizeOf76 (az (W_rs (kUn (av kv) ?_)))))
 refine kUn (bb 3 ty3 bq) ?_
 refine kIn rfl rfl rfl ?_
 refine a7 h1l rfl (fun _ h1l=> ?_) (fun _ h1l=> ?_)
 ·refine bj (fun e C=>ref12_arguments_j2 R x16=some w1l/\At [(6,Pr.is (.slice none 0 0)),(7,Pr.i64 0),(8,aj b4 0)] [Own.box b4 ac x16,Own.box b17 rApiNode x14,Own.box b18 ac x16] e C) ?_ ?_
  ·rintro e C ⟨h1l,hat2⟩
   refine W_at hat2 ?_
   unfold ref12_arguments_j2 at h1l
   have h:some ([],0,x16)=some r:=congrArg some (ho1 _ (Option.some.inj h1l).symm)
   obtain rfl:=osj h
   exact ax ⟨rfl,[ap rApiNode [],Pr.i64 0,(ac).val x16],⟨yT (cv _),yT aa,yBox 0 ty76 aa,trivial⟩,aa⟩
  refine ib 3 hmx (by kernel_rfl) (by kernel_rfl) ?_
  refine lUn (bb 3 ty76 (Sub.refl _)) ?_
  refine lUn (hAsA rfl) (lUn (hAsA rfl) (ak 0 rfl rfl (Upd.refl _) rfl Tryz.sizeOf76 ?_))
  exact⟨h1l,⟨⟨aa,aa,aa,trivial⟩,Pick.of [0,2,3] rfl⟩⟩
 refine ar (W_rs (kMv rfl (kUn (bb 2 ty48 (Sub.refl _)) ?_)))
 refine kUn (bt (R:=rApiNode) (a:=x14) el44 (Nat.le_of_ble_eq_true rfl)) ?_
 obtain⟨x20,hx20,h1l⟩:=af h1l
 refine fg 1 el44 hx20 (fun v21=> ?_)
 refine kAs rfl (az (W_rs (kMvL rfl (kMv rfl (cg h1l (bg x1 x15 ([41]:List UInt8)) rfl fun x22 _ h1l=> ?_)))))
 refine a7 h1l rfl (fun _ h1l=> ?_) (fun _ h1l=> ?_)
 ·refine W_rs (kMv rfl (kMv rfl (kIn rfl rfl rfl (cg h1l (cu) rfl fun x24 _ h1l=>kAs rfl (kAs rfl (ak 0 rfl rfl (Upd.refl _) rfl Tryz.sizeOf76 ?_))))))
  have h:some (x20,w64 (x15+1),x24)=some r:=congrArg some (ho1 _ (Option.some.inj h1l).symm)
  refine W_rel 1 [6] ?_ rfl ⟨rfl,trivial⟩
  obtain rfl:=osj h
  exact ax ⟨rfl,[ap rApiNode x20,Pr.i64 (w64 (x15+1)),(ac).val x24],⟨yT aa,yT aa,yBox 0 ty76 aa,trivial⟩,aa⟩
 refine ar (az (W_rs (kMvL rfl (kMv rfl (cg h1l (bg x1 x15 ([44]:List UInt8)) rfl fun x25 _ h1l=>kNo rfl ?_)))))
 refine a7 h1l rfl (fun _ h1l=> ?_) (fun _ h1l=> ?_)
 ·refine W_rs (kMv rfl (cg h1l (cb x15) rfl fun x27 _ h1l=>kAs rfl (kAs rfl (ak 0 rfl rfl (Upd.refl _) rfl Tryz.sizeOf76 ?_))))
  have h:some ([],0,x27)=some r:=congrArg some (ho1 _ (Option.some.inj h1l).symm)
  obtain rfl:=osj h
  exact ax ⟨rfl,[ap rApiNode [],Pr.i64 0,(ac).val x27],⟨yT (cv _),yT aa,yBox 0 ty76 aa,trivial⟩,aa⟩
 refine ar (W_r (kMv rfl (kIn rfl rfl rfl (kAs rfl ?_))))
 exact⟨m1,Nat.lt_succ_self _,w64 (x15+1),x20,v21,hn1 _ (Option.some.inj h1l).symm,⟨⟨aa,aa,aa,aa,aa,trivial⟩,Pick.of [0,1] rfl⟩⟩
theorem rec_ref12_expression_ok :∀n,fv (aw n):=by
 intro n
 induction n with
 |zero=>exact⟨(fun x1 x2 x3 r h=>nomatch (show none=some r from h)),(fun x1 x2 x3 x4 r h=>nomatch (show none=some r from h)),(fun x1 x2 x3 r h=>nomatch (show none=some r from h)),(fun x1 x2 x3 r h=>nomatch (show none=some r from h)),(fun x1 x2 x3 r h=>nomatch (show none=some r from h))⟩
 |succ n ih=>exact⟨(fun x1 x2 x3 r h=>F_ref12_expression_step (aw n) ih x1 x2 x3 r h),(fun x1 x2 x3 x4 r h=>F_ref12_level_step (aw n) ih x1 x2 x3 x4 r h),(fun x1 x2 x3 r h=>F_ref12_unary_step (aw n) ih x1 x2 x3 r h),(fun x1 x2 x3 r h=>F_ref12_primary_step (aw n) ih x1 x2 x3 r h),(fun x1 x2 x3 r h=>F_ref12_arguments_step (aw n) ih x1 x2 x3 r h)⟩
theorem k8 (x1:List ApiToken) (x2 x3:Int) (r:ApiNode × Int × Ref12Wrong) (h:j5 x1 x2 x3=some r):FnP Tryz.prog 121 [ap ah x1,Pr.i64 x2,Pr.i64 x3] (ce [(rApiNode).val r.1,Pr.i64 r.2.1,(ac).val r.2.2]):=(rec_ref12_expression_ok 1048576).1 x1 x2 x3 r h
end Go.Proofs.YteablckbgpogiaaGreatDoor
