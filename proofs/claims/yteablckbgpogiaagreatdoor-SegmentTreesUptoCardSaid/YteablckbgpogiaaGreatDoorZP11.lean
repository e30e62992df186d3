/- The code comes to what these functions say (printed by wip/gen/gen.py). -/
import Derived.Test.YteablckbgpogiaaGreatDoorZX
import Derived.Test.YteablckbgpogiaaGreatDoorZP10
import Derived.Test.YteablckbgpogiaaGreatDoorZT
set_option linter.unusedSimpArgs false
set_option linter.unusedVariables false
set_option linter.unusedSectionVars false
set_option linter.unusedSectionVars false
set_option maxRecDepth 100000
set_option maxHeartbeats 4000000
namespace Go.Proofs.YteablckbgpogiaaGreatDoor
open Go Go.Cn
variable [Known]
attribute [local irreducible] f5 ap
theorem ref12_locals_ok (x1:List ApiToken) (x2 x3:Int) (r:ApiNode × Int × Ref12Wrong) (h:ref12_locals x1 x2 x3=some r):FnP Tryz.prog 98 [ap ah x1,Pr.i64 x2,Pr.i64 x3] (ce [(rApiNode).val r.1,Pr.i64 r.2.1,(ac).val r.2.2]):=by
 refine ep (rs:=[.cell 6 48,.tmp 7,.cell 8 76]) Tryz.func98 rfl Tryz.ntmps98 Tryz.results98 (by decide) (fun s0=> ?_)
 unfold ref12_locals at h
 refine W_rs (a8 al48 fun b4=>kAs rfl (a8 al76 fun b5=>az (W_rs (kMvL rfl (kMv rfl (cg h (bg x1 x2 ([118,111,105,100]:List UInt8)) rfl fun x6 _ h=> ?_))))))
 refine a7 h rfl (fun _ h=> ?_) (fun _ h=> ?_)
 ·refine W_rs (kUn (du au st48 rfl) ?_)
  refine kMv rfl (cg h (cb x2) rfl fun x8 _ h=>ak 0 rfl rfl (Upd.refl _) rfl Tryz.sizeOf48 (kAs rfl (ak 1 rfl rfl (Upd.refl _) rfl Tryz.sizeOf76 ?_)))
  obtain rfl:=osj h
  exact ax ⟨rfl,[(rApiNode).val (ApiNode.mk 0 [] [] 0 0 0 0 0 []),Pr.i64 0,(ac).val x8],⟨yBox 0 ty48 aa,yT aa,yBox 1 ty76 aa,trivial⟩,aa⟩
 refine ar (az (W_rs (kMvL rfl (kMv rfl (kIn rfl rfl rfl (cg h (i5 x1 (w64 (x2+1))) rfl fun x9 _ h=>kNo rfl ?_))))))
 refine a7 h rfl (fun _ h=> ?_) (fun _ h=> ?_)
 ·refine W_rs (kUn (du au st48 rfl) ?_)
  refine kMv rfl (kIn rfl rfl rfl (cg h (cb (w64 (x2+1))) rfl fun x11 _ h=>ak 0 rfl rfl (Upd.refl _) rfl Tryz.sizeOf48 (kAs rfl (ak 1 rfl rfl (Upd.refl _) rfl Tryz.sizeOf76 ?_))))
  obtain rfl:=osj h
  exact ax ⟨rfl,[(rApiNode).val (ApiNode.mk 0 [] [] 0 0 0 0 0 []),Pr.i64 0,(ac).val x11],⟨yBox 0 ty48 aa,yT aa,yBox 1 ty76 aa,trivial⟩,aa⟩
 refine ar (az (W_rs (kMvL rfl (kMv rfl (kIn rfl rfl rfl (cg h (bg x1 (w64 (x2+2)) ([61]:List UInt8)) rfl fun x12 _ h=>kNo rfl ?_))))))
 refine a7 h rfl (fun _ h=> ?_) (fun _ h=> ?_)
 ·refine W_rs (kUn (du au st48 rfl) ?_)
  refine kMv rfl (kIn rfl rfl rfl (cg h (cb (w64 (x2+2))) rfl fun x14 _ h=>ak 0 rfl rfl (Upd.refl _) rfl Tryz.sizeOf48 (kAs rfl (ak 1 rfl rfl (Upd.refl _) rfl Tryz.sizeOf76 ?_))))
  obtain rfl:=osj h
  exact ax ⟨rfl,[(rApiNode).val (ApiNode.mk 0 [] [] 0 0 0 0 0 []),Pr.i64 0,(ac).val x14],⟨yBox 0 ty48 aa,yT aa,yBox 1 ty76 aa,trivial⟩,aa⟩
 refine ar (W_rs (kMvL rfl (kMv rfl (kIn rfl rfl rfl (kMv rfl (kIn rfl rfl rfl ?_))))))
 obtain⟨⟨x15,x16,x17⟩,hx15,h⟩:=af h
 refine kUn (dl (k8 x1 (w64 (x2+3)) (w64 (x3+1)) _ hx15)) ?_
 refine kUn (hMv (out:=ce [(rApiNode).val x15,Pr.i64 x16,(ac).val x17]) rfl) (kUn ao ?_)
 refine kUn ao ?_
 refine kUn ao ?_
 refine a8 al48 fun b18=> ?_
 refine a8 al76 fun b19=>ak 2 rfl rfl (Upd.refl _) rfl Tryz.sizeOf48 (kAs rfl (ak 3 rfl rfl (Upd.refl _) rfl Tryz.sizeOf76 (az (W_rs (kUn (av kv) ?_)))))
 refine kUn (bb 3 ty3 bq) ?_
 refine kIn rfl rfl rfl ?_
 refine a7 h rfl (fun _ h=> ?_) (fun _ h=> ?_)
 ·refine bj (fun e C=>ref12_locals_j1 x17=some r/\At [(6,aj b4 0),(7,Pr.i64 0),(8,aj b5 0)] [Own.box b4 rApiNode (ApiNode.mk 0 [] [] 0 0 0 0 0 []),Own.box b5 ac x17,Own.box b18 rApiNode x15,Own.box b19 ac x17] e C) ?_ ?_
  ·rintro e C ⟨h,hat1⟩
   refine W_at hat1 ?_
   unfold ref12_locals_j1 at h
   obtain rfl:=osj h
   exact ax ⟨rfl,[(rApiNode).val (ApiNode.mk 0 [] [] 0 0 0 0 0 []),Pr.i64 0,(ac).val x17],⟨yBox 0 ty48 aa,yT aa,yBox 1 ty76 aa,trivial⟩,aa⟩
  refine fb [(2,0,Own.box b4 rApiNode (ApiNode.mk 0 [] [] 0 0 0 0 0 [])),(4,1,Own.box b5 ac x17)] [Own.box b4 rApiNode (ApiNode.mk 0 [] [] 0 0 0 0 0 []),Own.box b5 ac x17,Own.box b18 rApiNode x15,Own.box b19 ac x17] hmx (by kernel_rfl) (by kernel_rfl) (show([2,4]:List Nat).Nodup by decide) (show([0,1]:List Nat).Nodup by decide) rfl rfl ?_
  refine eq1 (out:=(rApiNode).val (ApiNode.mk 0 [] [] 0 0 0 0 0 [])) (fun C2 hC=>(du au st48 rfl)) ?_
  refine eq1 (out:=(ac).val x17) (fun C2 hC=>(bb (R:=ac) (a:=x17) (R':=ac) 3 ty76 (Sub.refl _) (hi:=(hC 3 (by kernel_rfl)).trans rfl))) ?_
  refine eqS (fun C2 hC=>dr (R:=rApiNode) (R':=rApiNode) (a:=(ApiNode.mk 0 [] [] 0 0 0 0 0 [])) (y:=(ApiNode.mk 0 [] [] 0 0 0 0 0 [])) 0 Tryz.sizeOf48 (Upd.refl _) ((hC 0 (by kernel_rfl)).trans rfl)) ?_
  refine eq1 (out:=Pr.i64 0) (fun C2 hC=>el) ?_
  refine eqS (fun C2 hC=>dr (R:=ac) (R':=ac) (a:=(Ref12Wrong.mk 0 0)) (y:=x17) 1 Tryz.sizeOf76 (Upd.refl _) ((hC 1 (by kernel_rfl)).trans rfl)) ?_
  exact⟨h,atOk⟩
 refine ar (az (W_rs (kMvL rfl (kMv rfl (cg h (bg x1 x16 ([59]:List UInt8)) rfl fun x21 _ h=>kNo rfl ?_)))))
 refine a7 h rfl (fun _ h=> ?_) (fun _ h=> ?_)
 ·refine W_rs (kUn (du au st48 rfl) ?_)
  refine kMv rfl (cg h (cb x16) rfl fun x23 _ h=>ak 0 rfl rfl (Upd.refl _) rfl Tryz.sizeOf48 (kAs rfl (ak 1 rfl rfl (Upd.refl _) rfl Tryz.sizeOf76 ?_)))
  obtain rfl:=osj h
  exact ax ⟨rfl,[(rApiNode).val (ApiNode.mk 0 [] [] 0 0 0 0 0 []),Pr.i64 0,(ac).val x23],⟨yBox 0 ty48 aa,yT aa,yBox 1 ty76 aa,trivial⟩,aa⟩
 refine ar (W_rs (kMvL rfl (kMvL rfl (kMv rfl (kMv rfl (kIn rfl rfl rfl (kUn (bb 2 ty48 (Sub.refl _)) ?_)))))))
 refine kUn (bt (R:=rApiNode) (a:=x15) el44 (Nat.le_of_ble_eq_true rfl)) ?_
 refine cg h (dq x1 6 x2 (w64 (x16+1)) ([x15]:List ApiNode)) rfl fun x24 _ h=>kMv rfl (cg h (ref12_typed_ok x1 x24 x2) rfl fun x25 _ h=>kMv rfl (kIn rfl rfl rfl (cg h (cu) rfl fun x26 _ h=>ak 0 rfl rfl (Upd.refl _) rfl Tryz.sizeOf48 (kAs rfl (ak 1 rfl rfl (Upd.refl _) rfl Tryz.sizeOf76 ?_)))))
 obtain rfl:=osj h
 exact ax ⟨rfl,[(rApiNode).val x25,Pr.i64 (w64 (x16+1)),(ac).val x26],⟨yBox 0 ty48 aa,yT aa,yBox 1 ty76 aa,trivial⟩,aa⟩
theorem ref12_bracketed_ok (x1:List ApiToken) (x2 x3:Int) (r:ApiNode × Int × Ref12Wrong) (h:mj x1 x2 x3=some r):FnP Tryz.prog 139 [ap ah x1,Pr.i64 x2,Pr.i64 x3] (ce [(rApiNode).val r.1,Pr.i64 r.2.1,(ac).val r.2.2]):=by
 refine ep (rs:=[.cell 6 48,.tmp 7,.cell 8 76]) Tryz.func139 rfl Tryz.ntmps139 Tryz.results139 (by decide) (fun s0=> ?_)
 unfold mj at h
 refine W_rs (a8 al48 fun b4=>kAs rfl (a8 al76 fun b5=>az (W_rs (kMvL rfl (kMv rfl (cg h (bg x1 x2 ([40]:List UInt8)) rfl fun x6 _ h=>kNo rfl ?_))))))
 refine a7 h rfl (fun _ h=> ?_) (fun _ h=> ?_)
 ·refine W_rs (kUn (du au st48 rfl) ?_)
  refine kMv rfl (cg h (cb x2) rfl fun x8 _ h=>ak 0 rfl rfl (Upd.refl _) rfl Tryz.sizeOf48 (kAs rfl (ak 1 rfl rfl (Upd.refl _) rfl Tryz.sizeOf76 ?_)))
  obtain rfl:=osj h
  exact ax ⟨rfl,[(rApiNode).val (ApiNode.mk 0 [] [] 0 0 0 0 0 []),Pr.i64 0,(ac).val x8],⟨yBox 0 ty48 aa,yT aa,yBox 1 ty76 aa,trivial⟩,aa⟩
 refine ar (W_rs (kMvL rfl (kMv rfl (kIn rfl rfl rfl (kMv rfl ?_)))))
 obtain⟨⟨x9,x10,x11⟩,hx9,h⟩:=af h
 refine kUn (dl (k8 x1 (w64 (x2+1)) x3 _ hx9)) ?_
 refine kUn (hMv (out:=ce [(rApiNode).val x9,Pr.i64 x10,(ac).val x11]) rfl) (kUn ao ?_)
 refine kUn ao ?_
 refine kUn ao ?_
 refine a8 al48 fun b12=> ?_
 refine a8 al76 fun b13=>ak 2 rfl rfl (Upd.refl _) rfl Tryz.sizeOf48 (kAs rfl (ak 3 rfl rfl (Upd.refl _) rfl Tryz.sizeOf76 (az (W_rs (kUn (av kv) ?_)))))
 refine kUn (bb 3 ty3 bq) ?_
 refine kIn rfl rfl rfl ?_
 refine a7 h rfl (fun _ h=> ?_) (fun _ h=> ?_)
 ·refine bj (fun e C=>ref12_bracketed_j1 x11=some r/\At [(6,aj b4 0),(7,Pr.i64 0),(8,aj b5 0)] [Own.box b4 rApiNode (ApiNode.mk 0 [] [] 0 0 0 0 0 []),Own.box b5 ac x11,Own.box b12 rApiNode x9,Own.box b13 ac x11] e C) ?_ ?_
  ·rintro e C ⟨h,hat1⟩
   refine W_at hat1 ?_
   unfold ref12_bracketed_j1 at h
   obtain rfl:=osj h
   exact ax ⟨rfl,[(rApiNode).val (ApiNode.mk 0 [] [] 0 0 0 0 0 []),Pr.i64 0,(ac).val x11],⟨yBox 0 ty48 aa,yT aa,yBox 1 ty76 aa,trivial⟩,aa⟩
  refine fb [(2,0,Own.box b4 rApiNode (ApiNode.mk 0 [] [] 0 0 0 0 0 [])),(4,1,Own.box b5 ac x11)] [Own.box b4 rApiNode (ApiNode.mk 0 [] [] 0 0 0 0 0 []),Own.box b5 ac x11,Own.box b12 rApiNode x9,Own.box b13 ac x11] hmx (by kernel_rfl) (by kernel_rfl) (show([2,4]:List Nat).Nodup by decide) (show([0,1]:List Nat).Nodup by decide) rfl rfl ?_
  refine eq1 (out:=(rApiNode).val (ApiNode.mk 0 [] [] 0 0 0 0 0 [])) (fun C2 hC=>(du au st48 rfl)) ?_
  refine eq1 (out:=(ac).val x11) (fun C2 hC=>(bb (R:=ac) (a:=x11) (R':=ac) 3 ty76 (Sub.refl _) (hi:=(hC 3 (by kernel_rfl)).trans rfl))) ?_
  refine eqS (fun C2 hC=>dr (R:=rApiNode) (R':=rApiNode) (a:=(ApiNode.mk 0 [] [] 0 0 0 0 0 [])) (y:=(ApiNode.mk 0 [] [] 0 0 0 0 0 [])) 0 Tryz.sizeOf48 (Upd.refl _) ((hC 0 (by kernel_rfl)).trans rfl)) ?_
  refine eq1 (out:=Pr.i64 0) (fun C2 hC=>el) ?_
  refine eqS (fun C2 hC=>dr (R:=ac) (R':=ac) (a:=(Ref12Wrong.mk 0 0)) (y:=x11) 1 Tryz.sizeOf76 (Upd.refl _) ((hC 1 (by kernel_rfl)).trans rfl)) ?_
  exact⟨h,atOk⟩
 refine ar (az (W_rs (kMvL rfl (kMv rfl (cg h (bg x1 x10 ([41]:List UInt8)) rfl fun x15 _ h=>kNo rfl ?_)))))
 refine a7 h rfl (fun _ h=> ?_) (fun _ h=> ?_)
 ·refine W_rs (kUn (du au st48 rfl) ?_)
  refine kMv rfl (cg h (cb x10) rfl fun x17 _ h=>ak 0 rfl rfl (Upd.refl _) rfl Tryz.sizeOf48 (kAs rfl (ak 1 rfl rfl (Upd.refl _) rfl Tryz.sizeOf76 ?_)))
  obtain rfl:=osj h
  exact ax ⟨rfl,[(rApiNode).val (ApiNode.mk 0 [] [] 0 0 0 0 0 []),Pr.i64 0,(ac).val x17],⟨yBox 0 ty48 aa,yT aa,yBox 1 ty76 aa,trivial⟩,aa⟩
 refine ar ?_
 refine bj (fun e C=>∃(x18:Ref12Wrong),ov x9 x10 x18=some r/\At [(6,aj b4 0),(7,Pr.i64 (w64 (x10+1))),(8,aj b5 0)] [Own.box b4 rApiNode x9,Own.box b5 ac x18,Own.box b12 rApiNode x9,Own.box b13 ac x11] e C) ?_ ?_
 ·rintro e C ⟨x18,h,hat2⟩
  refine W_at hat2 ?_
  unfold ov at h
  obtain rfl:=osj h
  exact ax ⟨rfl,[(rApiNode).val x9,Pr.i64 (w64 (x10+1)),(ac).val x18],⟨yBox 0 ty48 aa,yT aa,yBox 1 ty76 aa,trivial⟩,aa⟩
 obtain⟨x18,hx18,h⟩:=af h
 refine fb [(4,0,Own.box b4 rApiNode x9),(6,1,Own.box b5 ac x18)] [Own.box b4 rApiNode x9,Own.box b5 ac x18,Own.box b12 rApiNode x9,Own.box b13 ac x11] hmx (by kernel_rfl) (by kernel_rfl) (show([4,6]:List Nat).Nodup by decide) (show([0,1]:List Nat).Nodup by decide) rfl rfl ?_
 refine eq1 (out:=(rApiNode).val x9) (fun C2 hC=>(bb (R:=rApiNode) (a:=x9) (R':=rApiNode) 2 ty48 (Sub.refl _) (hi:=(hC 2 (by kernel_rfl)).trans rfl))) ?_
 refine eq1 (out:=Pr.i64 x10) (fun C2 hC=>jn) ?_
 refine eq1 (out:=Pr.i64 (w64 (x10+1))) (fun C2 hC=>qInt) ?_
 refine eq1 (out:=(ac).val x18) (fun C2 hC=>(dl (cu _ hx18))) ?_
 refine eqS (fun C2 hC=>dr (R:=rApiNode) (R':=rApiNode) (a:=(ApiNode.mk 0 [] [] 0 0 0 0 0 [])) (y:=x9) 0 Tryz.sizeOf48 (Upd.refl _) ((hC 0 (by kernel_rfl)).trans rfl)) ?_
 refine eq1 (out:=Pr.i64 (w64 (x10+1))) (fun C2 hC=>el) ?_
 refine eqS (fun C2 hC=>dr (R:=ac) (R':=ac) (a:=(Ref12Wrong.mk 0 0)) (y:=x18) 1 Tryz.sizeOf76 (Upd.refl _) ((hC 1 (by kernel_rfl)).trans rfl)) ?_
 exact⟨x18,h,atOk⟩
theorem ref12_simple_ok (x1:List ApiToken) (x2 x3:Int) (r:ApiNode × Int × Ref12Wrong) (h:o8 x1 x2 x3=some r):FnP Tryz.prog 123 [ap ah x1,Pr.i64 x2,Pr.i64 x3] (ce [(rApiNode).val r.1,Pr.i64 r.2.1,(ac).val r.2.2]):=by
 refine ep (rs:=[.cell 6 48,.tmp 7,.cell 8 76]) Tryz.func123 rfl Tryz.ntmps123 Tryz.results123 (by decide) (fun s0=> ?_)
 unfold o8 at h
 refine W_rs (a8 al48 fun b4=>kAs rfl (a8 al76 fun b5=>az (W_rs (kMvL rfl (kMv rfl (cg h (bg x1 x2 ([112,114,105,110,116]:List UInt8)) rfl fun x6 _ h=> ?_))))))
 refine a7 h rfl (fun _ h=> ?_) (fun _ h=> ?_)
 ·refine W_rs (kMvL rfl (kMv rfl (kIn rfl rfl rfl (kMv rfl (kIn rfl rfl rfl ?_)))))
  obtain⟨⟨x8,x9,x10⟩,hx8,h⟩:=af h
  refine kUn (dl (ref12_bracketed_ok x1 (w64 (x2+1)) (w64 (x3+1)) _ hx8)) ?_
  refine kUn (hMv (out:=ce [(rApiNode).val x8,Pr.i64 x9,(ac).val x10]) rfl) (kUn ao ?_)
  refine kUn ao ?_
  refine kUn ao ?_
  refine a8 al48 fun b11=> ?_
  refine a8 al76 fun b12=>ak 2 rfl rfl (Upd.refl _) rfl Tryz.sizeOf48 (kAs rfl (ak 3 rfl rfl (Upd.refl _) rfl Tryz.sizeOf76 (az (W_rs (kUn (av kv) ?_)))))
  refine kUn (bb 3 ty3 bq) ?_
  refine kIn rfl rfl rfl ?_
  refine a7 h rfl (fun _ h=> ?_) (fun _ h=> ?_)
  ·refine bj (fun e C=>ref12_simple_j1 x10=some r/\At [(6,aj b4 0),(7,Pr.i64 0),(8,aj b5 0)] [Own.box b4 rApiNode (ApiNode.mk 0 [] [] 0 0 0 0 0 []),Own.box b5 ac x10,Own.box b11 rApiNode x8,Own.box b12 ac x10] e C) ?_ ?_
   ·rintro e C ⟨h,hat1⟩
    refine W_at hat1 ?_
    unfold ref12_simple_j1 at h
    obtain rfl:=osj h
    exact ax ⟨rfl,[(rApiNode).val (ApiNode.mk 0 [] [] 0 0 0 0 0 []),Pr.i64 0,(ac).val x10],⟨yBox 0 ty48 aa,yT aa,yBox 1 ty76 aa,trivial⟩,aa⟩
   refine fb [(2,0,Own.box b4 rApiNode (ApiNode.mk 0 [] [] 0 0 0 0 0 [])),(4,1,Own.box b5 ac x10)] [Own.box b4 rApiNode (ApiNode.mk 0 [] [] 0 0 0 0 0 []),Own.box b5 ac x10,Own.box b11 rApiNode x8,Own.box b12 ac x10] hmx (by kernel_rfl) (by kernel_rfl) (show([2,4]:List Nat).Nodup by decide) (show([0,1]:List Nat).Nodup by decide) rfl rfl ?_
   refine eq1 (out:=(rApiNode).val (ApiNode.mk 0 [] [] 0 0 0 0 0 [])) (fun C2 hC=>(du au st48 rfl)) ?_
   refine eq1 (out:=(ac).val x10) (fun C2 hC=>(bb (R:=ac) (a:=x10) (R':=ac) 3 ty76 (Sub.refl _) (hi:=(hC 3 (by kernel_rfl)).trans rfl))) ?_
   refine eqS (fun C2 hC=>dr (R:=rApiNode) (R':=rApiNode) (a:=(ApiNode.mk 0 [] [] 0 0 0 0 0 [])) (y:=(ApiNode.mk 0 [] [] 0 0 0 0 0 [])) 0 Tryz.sizeOf48 (Upd.refl _) ((hC 0 (by kernel_rfl)).trans rfl)) ?_
   refine eq1 (out:=Pr.i64 0) (fun C2 hC=>el) ?_
   refine eqS (fun C2 hC=>dr (R:=ac) (R':=ac) (a:=(Ref12Wrong.mk 0 0)) (y:=x10) 1 Tryz.sizeOf76 (Upd.refl _) ((hC 1 (by kernel_rfl)).trans rfl)) ?_
   exact⟨h,atOk⟩
  refine ar (az (W_rs (kMvL rfl (kMv rfl (cg h (bg x1 x9 ([59]:List UInt8)) rfl fun x14 _ h=>kNo rfl ?_)))))
  refine a7 h rfl (fun _ h=> ?_) (fun _ h=> ?_)
  ·refine W_rs (kUn (du au st48 rfl) ?_)
   refine kMv rfl (cg h (cb x9) rfl fun x16 _ h=>ak 0 rfl rfl (Upd.refl _) rfl Tryz.sizeOf48 (kAs rfl (ak 1 rfl rfl (Upd.refl _) rfl Tryz.sizeOf76 ?_)))
   obtain rfl:=osj h
   exact ax ⟨rfl,[(rApiNode).val (ApiNode.mk 0 [] [] 0 0 0 0 0 []),Pr.i64 0,(ac).val x16],⟨yBox 0 ty48 aa,yT aa,yBox 1 ty76 aa,trivial⟩,aa⟩
  refine ar (W_rs (kMvL rfl (kMv rfl (kMv rfl (kIn rfl rfl rfl (kUn (bb 2 ty48 (Sub.refl _)) ?_))))))
  refine kUn (bt (R:=rApiNode) (a:=x8) el44 (Nat.le_of_ble_eq_true rfl)) ?_
  refine cg h (dq x1 12 x2 (w64 (x9+1)) ([x8]:List ApiNode)) rfl fun x17 _ h=>kMv rfl (kIn rfl rfl rfl (cg h (cu) rfl fun x18 _ h=>ak 0 rfl rfl (Upd.refl _) rfl Tryz.sizeOf48 (kAs rfl (ak 1 rfl rfl (Upd.refl _) rfl Tryz.sizeOf76 ?_))))
  obtain rfl:=osj h
  exact ax ⟨rfl,[(rApiNode).val x17,Pr.i64 (w64 (x9+1)),(ac).val x18],⟨yBox 0 ty48 aa,yT aa,yBox 1 ty76 aa,trivial⟩,aa⟩
 refine ar (az (W_rs (kMvL rfl (kMv rfl (kIn rfl rfl rfl (cg h (bg x1 (w64 (x2+1)) ([59]:List UInt8)) rfl fun x19 _ h=> ?_))))))
 refine a7 h rfl (fun _ h=> ?_) (fun _ h=> ?_)
 ·refine W_rs (kMvL rfl (kMv rfl (kMv rfl (kIn rfl rfl rfl ?_))))
  obtain⟨x21,hx21,h⟩:=af h
  refine kUn (qCall' (dq x1 11 x2 (w64 (x2+2)) [] _ hx21) ⟨aa,aa,aa,aa,cv _,trivial⟩) ?_
  refine kMv rfl (kIn rfl rfl rfl (cg h (cu) rfl fun x22 _ h=>ak 0 rfl rfl (Upd.refl _) rfl Tryz.sizeOf48 (kAs rfl (ak 1 rfl rfl (Upd.refl _) rfl Tryz.sizeOf76 ?_))))
  obtain rfl:=osj h
  exact ax ⟨rfl,[(rApiNode).val x21,Pr.i64 (w64 (x2+2)),(ac).val x22],⟨yBox 0 ty48 aa,yT aa,yBox 1 ty76 aa,trivial⟩,aa⟩
 refine ar (W_rs (kMvL rfl (kMv rfl (kIn rfl rfl rfl (kMv rfl (kIn rfl rfl rfl ?_))))))
 obtain⟨⟨x23,x24,x25⟩,hx23,h⟩:=af h
 refine kUn (dl (k8 x1 (w64 (x2+1)) (w64 (x3+1)) _ hx23)) ?_
 refine kUn (hMv (out:=ce [(rApiNode).val x23,Pr.i64 x24,(ac).val x25]) rfl) (kUn ao ?_)
 refine kUn ao ?_
 refine kUn ao ?_
 refine a8 al48 fun b26=> ?_
 refine a8 al76 fun b27=>ak 2 rfl rfl (Upd.refl _) rfl Tryz.sizeOf48 (kAs rfl (ak 3 rfl rfl (Upd.refl _) rfl Tryz.sizeOf76 (az (W_rs (kUn (av kv) ?_)))))
 refine kUn (bb 3 ty3 bq) ?_
 refine kIn rfl rfl rfl ?_
 refine a7 h rfl (fun _ h=> ?_) (fun _ h=> ?_)
 ·refine bj (fun e C=>ref12_simple_j2 x25=some r/\At [(6,aj b4 0),(7,Pr.i64 0),(8,aj b5 0)] [Own.box b4 rApiNode (ApiNode.mk 0 [] [] 0 0 0 0 0 []),Own.box b5 ac x25,Own.box b26 rApiNode x23,Own.box b27 ac x25] e C) ?_ ?_
  ·rintro e C ⟨h,hat2⟩
   refine W_at hat2 ?_
   unfold ref12_simple_j2 at h
   obtain rfl:=osj h
   exact ax ⟨rfl,[(rApiNode).val (ApiNode.mk 0 [] [] 0 0 0 0 0 []),Pr.i64 0,(ac).val x25],⟨yBox 0 ty48 aa,yT aa,yBox 1 ty76 aa,trivial⟩,aa⟩
  refine fb [(2,0,Own.box b4 rApiNode (ApiNode.mk 0 [] [] 0 0 0 0 0 [])),(4,1,Own.box b5 ac x25)] [Own.box b4 rApiNode (ApiNode.mk 0 [] [] 0 0 0 0 0 []),Own.box b5 ac x25,Own.box b26 rApiNode x23,Own.box b27 ac x25] hmx (by kernel_rfl) (by kernel_rfl) (show([2,4]:List Nat).Nodup by decide) (show([0,1]:List Nat).Nodup by decide) rfl rfl ?_
  refine eq1 (out:=(rApiNode).val (ApiNode.mk 0 [] [] 0 0 0 0 0 [])) (fun C2 hC=>(du au st48 rfl)) ?_
  refine eq1 (out:=(ac).val x25) (fun C2 hC=>(bb (R:=ac) (a:=x25) (R':=ac) 3 ty76 (Sub.refl _) (hi:=(hC 3 (by kernel_rfl)).trans rfl))) ?_
  refine eqS (fun C2 hC=>dr (R:=rApiNode) (R':=rApiNode) (a:=(ApiNode.mk 0 [] [] 0 0 0 0 0 [])) (y:=(ApiNode.mk 0 [] [] 0 0 0 0 0 [])) 0 Tryz.sizeOf48 (Upd.refl _) ((hC 0 (by kernel_rfl)).trans rfl)) ?_
  refine eq1 (out:=Pr.i64 0) (fun C2 hC=>el) ?_
  refine eqS (fun C2 hC=>dr (R:=ac) (R':=ac) (a:=(Ref12Wrong.mk 0 0)) (y:=x25) 1 Tryz.sizeOf76 (Upd.refl _) ((hC 1 (by kernel_rfl)).trans rfl)) ?_
  exact⟨h,atOk⟩
 refine ar (az (W_rs (kMvL rfl (kMv rfl (cg h (bg x1 x24 ([59]:List UInt8)) rfl fun x29 _ h=>kNo rfl ?_)))))
 refine a7 h rfl (fun _ h=> ?_) (fun _ h=> ?_)
 ·refine W_rs (kUn (du au st48 rfl) ?_)
  refine kMv rfl (cg h (cb x24) rfl fun x31 _ h=>ak 0 rfl rfl (Upd.refl _) rfl Tryz.sizeOf48 (kAs rfl (ak 1 rfl rfl (Upd.refl _) rfl Tryz.sizeOf76 ?_)))
  obtain rfl:=osj h
  exact ax ⟨rfl,[(rApiNode).val (ApiNode.mk 0 [] [] 0 0 0 0 0 []),Pr.i64 0,(ac).val x31],⟨yBox 0 ty48 aa,yT aa,yBox 1 ty76 aa,trivial⟩,aa⟩
 refine ar (W_rs (kMvL rfl (kMv rfl (kMv rfl (kIn rfl rfl rfl (kUn (bb 2 ty48 (Sub.refl _)) ?_))))))
 refine kUn (bt (R:=rApiNode) (a:=x23) el44 (Nat.le_of_ble_eq_true rfl)) ?_
 refine cg h (dq x1 11 x2 (w64 (x24+1)) ([x23]:List ApiNode)) rfl fun x32 _ h=>kMv rfl (kIn rfl rfl rfl (cg h (cu) rfl fun x33 _ h=>ak 0 rfl rfl (Upd.refl _) rfl Tryz.sizeOf48 (kAs rfl (ak 1 rfl rfl (Upd.refl _) rfl Tryz.sizeOf76 ?_))))
 obtain rfl:=osj h
 exact ax ⟨rfl,[(rApiNode).val x32,Pr.i64 (w64 (x24+1)),(ac).val x33],⟨yBox 0 ty48 aa,yT aa,yBox 1 ty76 aa,trivial⟩,aa⟩
def md (R:bv):Prop:=(∀(x1:List ApiToken) (x2:Int) (x3:Int) (r:ApiNode × Int × Ref12Wrong),R.1 x1 x2 x3=some r->FnP Tryz.prog 83 [ap ah x1,Pr.i64 x2,Pr.i64 x3] (ce [(rApiNode).val r.1,Pr.i64 r.2.1,(ac).val r.2.2]))/\(∀(x1:List ApiToken) (x2:Int) (x3:Int) (r:ApiNode × Int × Ref12Wrong),R.2.1 x1 x2 x3=some r->FnP Tryz.prog 99 [ap ah x1,Pr.i64 x2,Pr.i64 x3] (ce [(rApiNode).val r.1,Pr.i64 r.2.1,(ac).val r.2.2]))/\(∀(x1:List ApiToken) (x2:Int) (x3:Int) (r:ApiNode × Int × Ref12Wrong),R.2.2 x1 x2 x3=some r->FnP Tryz.prog 122 [ap ah x1,Pr.i64 x2,Pr.i64 x3] (ce [(rApiNode).val r.1,Pr.i64 r.2.1,(ac).val r.2.2]))
theorem F_ref12_block_step (R:bv) (ih:md R) (x1:List ApiToken) (x2 x3:Int) (r:ApiNode × Int × Ref12Wrong) (h:F_ref12_block R x1 x2 x3=some r):FnP Tryz.prog 83 [ap ah x1,Pr.i64 x2,Pr.i64 x3] (ce [(rApiNode).val r.1,Pr.i64 r.2.1,(ac).val r.2.2]):=by
 refine ep (rs:=[.cell 6 48,.tmp 7,.cell 8 76]) Tryz.func83 rfl Tryz.ntmps83 Tryz.results83 (by decide) (fun s0=> ?_)
 unfold F_ref12_block at h
 refine W_rs (a8 al48 fun b4=>kAs rfl (a8 al76 fun b5=>az (W_rs (kMvL rfl (kMv rfl (cg h (bg x1 x2 ([123]:List UInt8)) rfl fun x6 _ h=>kNo rfl ?_))))))
 refine a7 h rfl (fun _ h=> ?_) (fun _ h=> ?_)
 ·refine W_rs (kUn (du au st48 rfl) ?_)
  refine kMv rfl (cg h (cb x2) rfl fun x8 _ h=>ak 0 rfl rfl (Upd.refl _) rfl Tryz.sizeOf48 (kAs rfl (ak 1 rfl rfl (Upd.refl _) rfl Tryz.sizeOf76 ?_)))
  obtain rfl:=osj h
  exact ax ⟨rfl,[(rApiNode).val (ApiNode.mk 0 [] [] 0 0 0 0 0 []),Pr.i64 0,(ac).val x8],⟨yBox 0 ty48 aa,yT aa,yBox 1 ty76 aa,trivial⟩,aa⟩
 refine ar (W_rs (kAs rfl (W_rs (kMv rfl (kIn rfl rfl rfl (kAs rfl (az (a4 ?_))))))))
 obtain⟨z2l,hz2,h⟩:=af h
 obtain⟨n2,hN2⟩:=bp hz2
 refine d7 0 (fun e C=>∃(x10:Int),∃(x11:List ApiNode),∃(v9:Value),ref12_block_k1 R x1 x2 x10 x11=some r/\At [(0,ap ah x1),(1,Pr.i64 x2),(6,aj b4 0),(8,aj b5 0),(9,Pr.is v9),(10,Pr.i64 x10)] [Own.box b4 rApiNode (ApiNode.mk 0 [] [] 0 0 0 0 0 []),Own.box b5 ac (Ref12Wrong.mk 0 0),Own.vec v9 rApiNode x11 48] e C) ?_ ?_
 ·rintro e C ⟨x10,x11,v9,h,hat1⟩
  refine W_at hat1 ?_
  unfold ref12_block_k1 at h
  refine W_rs (kMvL rfl (kMv rfl (kMv rfl (kIn rfl rfl rfl (kMv rfl ?_)))))
  obtain⟨x34,hx34,h⟩:=af h
  refine rRel 2 [9,67] ?_ rfl ⟨rfl,rfl,trivial⟩
  refine kUn (dl (dq x1 5 x2 (w64 (x10+1)) x11 _ hx34)) ?_
  refine kMv rfl (kIn rfl rfl rfl (cg h (cu) rfl fun x35 _ h=>ak 0 rfl rfl (Upd.refl _) rfl Tryz.sizeOf48 (kAs rfl (ak 1 rfl rfl (Upd.refl _) rfl Tryz.sizeOf76 ?_))))
  obtain rfl:=osj h
  exact ax ⟨rfl,[(rApiNode).val x34,Pr.i64 (w64 (x10+1)),(ac).val x35],⟨yBox 0 ty48 aa,yT aa,yBox 1 ty76 aa,trivial⟩,aa⟩
 refine W_nil [9] rApiNode 48 (fun v36=> ?_) ⟨rfl,trivial⟩
 refine ew (fun m e C=>∃(x10:Int),∃(x11:List ApiNode),∃(v9:Value),ff (fun s=>ql R x1 x3 s.1 s.2) m (x10,x11)=some z2l/\At [(0,ap ah x1),(1,Pr.i64 x2),(2,Pr.i64 x3),(6,aj b4 0),(8,aj b5 0),(9,Pr.is v9),(10,Pr.i64 x10)] [Own.box b4 rApiNode (ApiNode.mk 0 [] [] 0 0 0 0 0 []),Own.box b5 ac (Ref12Wrong.mk 0 0),Own.vec v9 rApiNode x11 48] e C) n2 ⟨w64 (x2+1),[],v36,hN2,⟨⟨aa,aa,aa,aa,aa,aa,aa,trivial⟩,Pick.refl _⟩⟩ ?_
 rintro m e C ⟨x10,x11,v9,hN2,hatl2⟩
 refine W_at hatl2 ?_
 obtain⟨m2,w2l,rfl,h2l,hn2,ho2⟩:=bk hN2
 replace h2l:ql R x1 x3 x10 x11=some w2l:=h2l
 unfold ql at h2l
 refine az (W_rs (kMvL rfl (kMv rfl (cg h2l (bg x1 x10 ([125]:List UInt8)) rfl fun x15 _ h2l=>kNo rfl ?_))))
 refine a7 h2l rfl (fun _ h2l=> ?_) (fun _ h2l=> ?_)
 ·refine ar (a4 (W_rs (a8 al48 fun b17=>W_rs (a8 al76 fun b18=>W_rs (kAs rfl ?_)))))
  refine bj (fun e C=>∃(x28:Int),∃(x29:ApiNode),∃(x30:Ref12Wrong),kl R x11 x28 x29 x30=some w2l/\At [(0,ap ah x1),(1,Pr.i64 x2),(2,Pr.i64 x3),(6,aj b4 0),(8,aj b5 0),(9,Pr.is v9),(11,aj b17 0),(12,aj b18 0),(13,Pr.i64 x28)] [Own.box b4 rApiNode (ApiNode.mk 0 [] [] 0 0 0 0 0 []),Own.box b5 ac (Ref12Wrong.mk 0 0),Own.vec v9 rApiNode x11 48,Own.box b17 rApiNode x29,Own.box b18 ac x30] e C) ?_ ?_
  ·rintro e C ⟨x28,x29,x30,h2l,hat4⟩
   refine W_at hat4 ?_
   unfold kl at h2l
   refine az (W_rs (kUn (av kv) ?_))
   refine kUn (bb 4 ty3 bq) ?_
   refine kIn rfl rfl rfl ?_
   refine a7 h2l rfl (fun _ h2l=> ?_) (fun _ h2l=> ?_)
   ·refine bj (fun e C=>ref12_block_j3 R x30=some w2l/\At [(6,aj b4 0),(7,Pr.i64 0),(8,aj b5 0)] [Own.box b4 rApiNode (ApiNode.mk 0 [] [] 0 0 0 0 0 []),Own.box b5 ac x30,Own.box b17 rApiNode x29,Own.box b18 ac x30] e C) ?_ ?_
    ·rintro e C ⟨h2l,hat3⟩
     refine W_at hat3 ?_
     unfold ref12_block_j3 at h2l
     obtain rfl:=ho2 _ (Option.some.inj h2l).symm
     replace h:some ((ApiNode.mk 0 [] [] 0 0 0 0 0 []),0,x30)=some r:=h
     obtain rfl:=osj h
     exact ax ⟨rfl,[(rApiNode).val (ApiNode.mk 0 [] [] 0 0 0 0 0 []),Pr.i64 0,(ac).val x30],⟨yBox 0 ty48 aa,yT aa,yBox 1 ty76 aa,trivial⟩,aa⟩
    refine fb [(2,0,Own.box b4 rApiNode (ApiNode.mk 0 [] [] 0 0 0 0 0 [])),(4,1,Own.box b5 ac x30)] [Own.box b4 rApiNode (ApiNode.mk 0 [] [] 0 0 0 0 0 []),Own.box b5 ac x30,Own.vec v9 rApiNode x11 48,Own.box b17 rApiNode x29,Own.box b18 ac x30] hmx (by kernel_rfl) (by kernel_rfl) (show([2,4]:List Nat).Nodup by decide) (show([0,1]:List Nat).Nodup by decide) rfl rfl ?_
    refine eq1 (out:=(rApiNode).val (ApiNode.mk 0 [] [] 0 0 0 0 0 [])) (fun C2 hC=>(du au st48 rfl)) ?_
    refine eq1 (out:=(ac).val x30) (fun C2 hC=>(bb (R:=ac) (a:=x30) (R':=ac) 4 ty76 (Sub.refl _) (hi:=(hC 4 (by kernel_rfl)).trans rfl))) ?_
    refine eqS (fun C2 hC=>dr (R:=rApiNode) (R':=rApiNode) (a:=(ApiNode.mk 0 [] [] 0 0 0 0 0 [])) (y:=(ApiNode.mk 0 [] [] 0 0 0 0 0 [])) 0 Tryz.sizeOf48 (Upd.refl _) ((hC 0 (by kernel_rfl)).trans rfl)) ?_
    refine eq1 (out:=Pr.i64 0) (fun C2 hC=>el) ?_
    refine eqS (fun C2 hC=>dr (R:=ac) (R':=ac) (a:=(Ref12Wrong.mk 0 0)) (y:=x30) 1 Tryz.sizeOf76 (Upd.refl _) ((hC 1 (by kernel_rfl)).trans rfl)) ?_
    exact⟨h2l,⟨⟨aa,aa,aa,trivial⟩,Pick.of [0,1,3,4] rfl⟩⟩
   refine ar (W_rs (kMv rfl (kUn (bb 3 ty48 (Sub.refl _)) ?_)))
   refine kUn (bt (R:=rApiNode) (a:=x29) el44 (Nat.le_of_ble_eq_true rfl)) ?_
   obtain⟨x32,hx32,h2l⟩:=af h2l
   refine fg 2 el44 hx32 (fun v33=> ?_)
   refine kAs rfl (W_r (kMv rfl (kAs rfl ?_)))
   exact⟨m2,Nat.lt_succ_self _,x28,x32,v33,hn2 _ (Option.some.inj h2l).symm,⟨⟨aa,aa,aa,aa,aa,aa,aa,trivial⟩,Pick.of [0,1,2] rfl⟩⟩
  refine W_rs (kMvL rfl (kMv rfl (cg h2l (ref12_local_ok x1 x10) rfl fun x19 _ h2l=> ?_)))
  refine a7 h2l rfl (fun _ h2l=> ?_) (fun _ h2l=> ?_)
  ·refine W_rs (kMvL rfl (kMv rfl (kMv rfl (kIn rfl rfl rfl ?_))))
   obtain⟨⟨x21,x22,x23⟩,hx21,h2l⟩:=af h2l
   refine kUn (dl (ref12_locals_ok x1 x10 (w64 (x3+1)) _ hx21)) ?_
   refine kUn (hMv (out:=ce [(rApiNode).val x21,Pr.i64 x22,(ac).val x23]) rfl) (kUn ao ?_)
   refine kUn ao ?_
   refine kUn ao ?_
   refine ak 3 rfl rfl (Upd.refl _) rfl Tryz.sizeOf48 (kAs rfl (ak 4 rfl rfl (Upd.refl _) rfl Tryz.sizeOf76 (W_rs (kMv rfl (kIn rfl rfl rfl (kIn rfl rfl rfl ?_))))))
   refine a7 h2l rfl (fun _ h2l=> ?_) (fun _ h2l=> ?_)
   ·refine W_r (kMv rfl (kUn (j8 st76 ⟨(Ref12Wrong.mk x10 0),⟨_,rfl,rfl,fun j fd hj hf=>by match j,hj with| 0,h=>exact absurd rfl h| 1,_=>cases hf;rfl|_+2,_=>cases hf⟩,⟨(Ref12Wrong.mk x10 2),⟨_,rfl,rfl,fun j fd hj hf=>by match j,hj with| 0,_=>cases hf;rfl| 1,h=>exact absurd rfl h|_+2,_=>cases hf⟩,rfl⟩⟩) ?_))
    refine ak 4 rfl rfl (Upd.refl _) rfl Tryz.sizeOf76 ?_
    exact⟨x22,x21,(Ref12Wrong.mk x10 2),h2l,atOk⟩
   refine ar ?_
   exact⟨x22,x21,x23,h2l,atOk⟩
  refine W_r (kMvL rfl (kMv rfl (kMv rfl (kIn rfl rfl rfl ?_))))
  obtain⟨⟨x25,x26,x27⟩,hx25,h2l⟩:=af h2l
  refine kUn (dl (ih.2.1 x1 x10 (w64 (x3+1)) _ hx25)) ?_
  refine kUn (hMv (out:=ce [(rApiNode).val x25,Pr.i64 x26,(ac).val x27]) rfl) (kUn ao ?_)
  refine kUn ao ?_
  refine kUn ao ?_
  refine ak 3 rfl rfl (Upd.refl _) rfl Tryz.sizeOf48 (kAs rfl (ak 4 rfl rfl (Upd.refl _) rfl Tryz.sizeOf76 ?_))
  exact⟨x26,x25,x27,h2l,atOk⟩
 refine ej ?_
 obtain rfl:=ho2 _ (Option.some.inj h2l).symm
 exact⟨x10,x11,v9,h,atOk⟩
theorem F_ref12_statement_step (R:bv) (ih:md R) (x1:List ApiToken) (x2 x3:Int) (r:ApiNode × Int × Ref12Wrong) (h:mq R x1 x2 x3=some r):FnP Tryz.prog 99 [ap ah x1,Pr.i64 x2,Pr.i64 x3] (ce [(rApiNode).val r.1,Pr.i64 r.2.1,(ac).val r.2.2]):=by
 refine ep (rs:=[.cell 6 48,.tmp 7,.cell 8 76]) Tryz.func99 rfl Tryz.ntmps99 Tryz.results99 (by decide) (fun s0=> ?_)
 unfold mq at h
 refine W_rs (a8 al48 fun b4=>kAs rfl (a8 al76 fun b5=>az (W_rs (kMv rfl (kIn rfl rfl rfl ?_)))))
 refine a7 h rfl (fun _ h=> ?_) (fun _ h=> ?_)
 ·refine W_rs (kUn (du au st48 rfl) ?_)
  refine kMv rfl (kUn (j8 st76 ⟨(Ref12Wrong.mk x2 0),⟨_,rfl,rfl,fun j fd hj hf=>by match j,hj with| 0,h=>exact absurd rfl h| 1,_=>cases hf;rfl|_+2,_=>cases hf⟩,⟨(Ref12Wrong.mk x2 2),⟨_,rfl,rfl,fun j fd hj hf=>by match j,hj with| 0,_=>cases hf;rfl| 1,h=>exact absurd rfl h|_+2,_=>cases hf⟩,rfl⟩⟩) ?_)
  refine ak 0 rfl rfl (Upd.refl _) rfl Tryz.sizeOf48 (kAs rfl (ak 1 rfl rfl (Upd.refl _) rfl Tryz.sizeOf76 ?_))
  obtain rfl:=osj h
  exact ax ⟨rfl,[(rApiNode).val (ApiNode.mk 0 [] [] 0 0 0 0 0 []),Pr.i64 0,(ac).val (Ref12Wrong.mk x2 2)],⟨yBox 0 ty48 aa,yT aa,yBox 1 ty76 aa,trivial⟩,aa⟩
 refine ar (az (a4 (W_rs (kMvL rfl (kMv rfl (cg h (bg x1 x2 ([123]:List UInt8)) rfl fun x7 _ h=>kAs rfl ?_))))))
 refine a7 h rfl (fun _ h=> ?_) (fun _ h=> ?_)
 ·refine W_rs (kMvL rfl (kMv rfl (kMv rfl ?_)))
  obtain⟨⟨x9,x10,x11⟩,hx9,h⟩:=af h
  refine kUn (dl (ih.1 x1 x2 x3 _ hx9)) ?_
  refine kUn ao ?_
  refine kUn ao ?_
  refine kUn ao ?_
  refine ak 0 rfl rfl (Upd.refl _) rfl Tryz.sizeOf48 (kAs rfl (ak 1 rfl rfl (Upd.refl _) rfl Tryz.sizeOf76 ?_))
  obtain rfl:=osj h
  exact ax ⟨rfl,[(rApiNode).val x9,Pr.i64 x10,(ac).val x11],⟨yBox 0 ty48 aa,yT aa,yBox 1 ty76 aa,trivial⟩,aa⟩
 refine bj (fun e C=>∃(x15:Bool),i8 R x1 x2 x3 x15=some r/\At [(0,ap ah x1),(1,Pr.i64 x2),(2,Pr.i64 x3),(6,aj b4 0),(8,aj b5 0),(33,Pr.bool x15)] [Own.box b4 rApiNode (ApiNode.mk 0 [] [] 0 0 0 0 0 []),Own.box b5 ac (Ref12Wrong.mk 0 0)] e C) ?_ ?_
 ·rintro e C ⟨x15,h,hat5⟩
  refine W_at hat5 ?_
  unfold i8 at h
  refine a7 h rfl (fun _ h=> ?_) (fun _ h=> ?_)
  ·refine W_rs (kMvL rfl (kMv rfl (kMv rfl ?_)))
   obtain⟨⟨x17,x18,x19⟩,hx17,h⟩:=af h
   refine kUn (dl (ih.2.2 x1 x2 x3 _ hx17)) ?_
   refine kUn ao ?_
   refine kUn ao ?_
   refine kUn ao ?_
   refine ak 0 rfl rfl (Upd.refl _) rfl Tryz.sizeOf48 (kAs rfl (ak 1 rfl rfl (Upd.refl _) rfl Tryz.sizeOf76 ?_))
   obtain rfl:=osj h
   exact ax ⟨rfl,[(rApiNode).val x17,Pr.i64 x18,(ac).val x19],⟨yBox 0 ty48 aa,yT aa,yBox 1 ty76 aa,trivial⟩,aa⟩
  refine bj (fun e C=>∃(x23:Bool),gv R x1 x2 x3 x23=some r/\At [(0,ap ah x1),(1,Pr.i64 x2),(2,Pr.i64 x3),(6,aj b4 0),(8,aj b5 0),(47,Pr.bool x23)] [Own.box b4 rApiNode (ApiNode.mk 0 [] [] 0 0 0 0 0 []),Own.box b5 ac (Ref12Wrong.mk 0 0)] e C) ?_ ?_
  ·rintro e C ⟨x23,h,hat4⟩
   refine W_at hat4 ?_
   unfold gv at h
   refine a7 h rfl (fun _ h=> ?_) (fun _ h=> ?_)
   ·refine W_rs (kMvL rfl (kMv rfl (kMv rfl ?_)))
    obtain⟨⟨x25,x26,x27⟩,hx25,h⟩:=af h
    refine kUn (dl (ref12_simple_ok x1 x2 x3 _ hx25)) ?_
    refine kUn ao ?_
    refine kUn ao ?_
    refine kUn ao ?_
    refine ak 0 rfl rfl (Upd.refl _) rfl Tryz.sizeOf48 (kAs rfl (ak 1 rfl rfl (Upd.refl _) rfl Tryz.sizeOf76 ?_))
    obtain rfl:=osj h
    exact ax ⟨rfl,[(rApiNode).val x25,Pr.i64 x26,(ac).val x27],⟨yBox 0 ty48 aa,yT aa,yBox 1 ty76 aa,trivial⟩,aa⟩
   refine ar (W_rs (kMvL rfl (kMv rfl (kMv rfl (kIn rfl rfl rfl ?_)))))
   obtain⟨⟨x28,x29,x30⟩,hx28,h⟩:=af h
   refine kUn (dl (k8 x1 x2 (w64 (x3+1)) _ hx28)) ?_
   refine kUn (hMv (out:=ce [(rApiNode).val x28,Pr.i64 x29,(ac).val x30]) rfl) (kUn ao ?_)
   refine kUn ao ?_
   refine kUn ao ?_
   refine a8 al48 fun b31=> ?_
   refine a8 al76 fun b32=>ak 2 rfl rfl (Upd.refl _) rfl Tryz.sizeOf48 (kAs rfl (ak 3 rfl rfl (Upd.refl _) rfl Tryz.sizeOf76 (az (W_rs (kUn (av kv) ?_)))))
   refine kUn (bb 3 ty3 bq) ?_
   refine kIn rfl rfl rfl ?_
   refine a7 h rfl (fun _ h=> ?_) (fun _ h=> ?_)
   ·refine bj (fun e C=>ref12_statement_j1 R x30=some r/\At [(6,aj b4 0),(7,Pr.i64 0),(8,aj b5 0)] [Own.box b4 rApiNode (ApiNode.mk 0 [] [] 0 0 0 0 0 []),Own.box b5 ac x30,Own.box b31 rApiNode x28,Own.box b32 ac x30] e C) ?_ ?_
    ·rintro e C ⟨h,hat1⟩
     refine W_at hat1 ?_
     unfold ref12_statement_j1 at h
     obtain rfl:=osj h
     exact ax ⟨rfl,[(rApiNode).val (ApiNode.mk 0 [] [] 0 0 0 0 0 []),Pr.i64 0,(ac).val x30],⟨yBox 0 ty48 aa,yT aa,yBox 1 ty76 aa,trivial⟩,aa⟩
    refine fb [(2,0,Own.box b4 rApiNode (ApiNode.mk 0 [] [] 0 0 0 0 0 [])),(4,1,Own.box b5 ac x30)] [Own.box b4 rApiNode (ApiNode.mk 0 [] [] 0 0 0 0 0 []),Own.box b5 ac x30,Own.box b31 rApiNode x28,Own.box b32 ac x30] hmx (by kernel_rfl) (by kernel_rfl) (show([2,4]:List Nat).Nodup by decide) (show([0,1]:List Nat).Nodup by decide) rfl rfl ?_
    refine eq1 (out:=(rApiNode).val (ApiNode.mk 0 [] [] 0 0 0 0 0 [])) (fun C2 hC=>(du au st48 rfl)) ?_
    refine eq1 (out:=(ac).val x30) (fun C2 hC=>(bb (R:=ac) (a:=x30) (R':=ac) 3 ty76 (Sub.refl _) (hi:=(hC 3 (by kernel_rfl)).trans rfl))) ?_
    refine eqS (fun C2 hC=>dr (R:=rApiNode) (R':=rApiNode) (a:=(ApiNode.mk 0 [] [] 0 0 0 0 0 [])) (y:=(ApiNode.mk 0 [] [] 0 0 0 0 0 [])) 0 Tryz.sizeOf48 (Upd.refl _) ((hC 0 (by kernel_rfl)).trans rfl)) ?_
    refine eq1 (out:=Pr.i64 0) (fun C2 hC=>el) ?_
    refine eqS (fun C2 hC=>dr (R:=ac) (R':=ac) (a:=(Ref12Wrong.mk 0 0)) (y:=x30) 1 Tryz.sizeOf76 (Upd.refl _) ((hC 1 (by kernel_rfl)).trans rfl)) ?_
    exact⟨h,atOk⟩
   refine ar (W_rs (kAs rfl (W_rs (kUn (bb 2 ty48 (Sub.refl _)) ?_))))
   refine rBuildV (R:=rApiNode) (ls:=([x28]:List ApiNode)) el44 (Nat.le_of_ble_eq_true rfl) ⟨rfl,rfl⟩ ⟨rfl,trivial⟩ (fun v34=> ?_)
   refine kAs rfl ?_
   refine bj (fun e C=>∃(x45:Int),∃(x46:Int),∃(x48:List ApiNode),∃(v47:Value),j1 R x1 x2 x45 x46 x48=some r/\At [(0,ap ah x1),(1,Pr.i64 x2),(6,aj b4 0),(8,aj b5 0),(10,Pr.i64 x45),(12,Pr.i64 x46),(13,Pr.is v47)] [Own.box b4 rApiNode (ApiNode.mk 0 [] [] 0 0 0 0 0 []),Own.box b5 ac (Ref12Wrong.mk 0 0),Own.box b31 rApiNode x28,Own.box b32 ac x30,Own.vec v47 rApiNode x48 48] e C) ?_ ?_
   ·rintro e C ⟨x45,x46,x48,v47,h,hat2⟩
    refine W_at hat2 ?_
    unfold j1 at h
    refine az (W_rs (kMvL rfl (kMv rfl (cg h (bg x1 x45 ([59]:List UInt8)) rfl fun x49 _ h=>kNo rfl ?_))))
    refine a7 h rfl (fun _ h=> ?_) (fun _ h=> ?_)
    ·refine W_rs (kUn (du au st48 rfl) ?_)
     refine kMv rfl (cg h (cb x45) rfl fun x51 _ h=>ak 0 rfl rfl (Upd.refl _) rfl Tryz.sizeOf48 (kAs rfl (ak 1 rfl rfl (Upd.refl _) rfl Tryz.sizeOf76 ?_)))
     obtain rfl:=osj h
     exact ax ⟨rfl,[(rApiNode).val (ApiNode.mk 0 [] [] 0 0 0 0 0 []),Pr.i64 0,(ac).val x51],⟨yBox 0 ty48 aa,yT aa,yBox 1 ty76 aa,trivial⟩,aa⟩
    refine ar (W_rs (kMvL rfl (kMv rfl (kMv rfl (kMv rfl (kIn rfl rfl rfl (kMv rfl ?_)))))))
    obtain⟨x52,hx52,h⟩:=af h
    refine rRel 4 [13,112] ?_ rfl ⟨rfl,rfl,trivial⟩
    refine kUn (dl (dq x1 x46 x2 (w64 (x45+1)) x48 _ hx52)) ?_
    refine kMv rfl (kIn rfl rfl rfl (cg h (cu) rfl fun x53 _ h=>ak 0 rfl rfl (Upd.refl _) rfl Tryz.sizeOf48 (kAs rfl (ak 1 rfl rfl (Upd.refl _) rfl Tryz.sizeOf76 ?_))))
    obtain rfl:=osj h
    exact ax ⟨rfl,[(rApiNode).val x52,Pr.i64 (w64 (x45+1)),(ac).val x53],⟨yBox 0 ty48 aa,yT aa,yBox 1 ty76 aa,trivial⟩,aa⟩
   refine W_rs (kMvL rfl (kMv rfl (cg h (bg x1 x29 ([61]:List UInt8)) rfl fun x35 _ h=> ?_)))
   refine a7 h rfl (fun _ h=> ?_) (fun _ h=> ?_)
   ·refine W_rs (kMvL rfl (kMv rfl (kIn rfl rfl rfl (kMv rfl (kIn rfl rfl rfl ?_)))))
    obtain⟨⟨x37,x38,x39⟩,hx37,h⟩:=af h
    refine kUn (dl (k8 x1 (w64 (x29+1)) (w64 (x3+1)) _ hx37)) ?_
    refine kUn (hMv (out:=ce [(rApiNode).val x37,Pr.i64 x38,(ac).val x39]) rfl) (kUn ao ?_)
    refine kUn ao ?_
    refine kUn ao ?_
    refine a8 al48 fun b40=> ?_
    refine a8 al76 fun b41=>ak 5 rfl rfl (Upd.refl _) rfl Tryz.sizeOf48 (kAs rfl (ak 6 rfl rfl (Upd.refl _) rfl Tryz.sizeOf76 (az (W_rs (kUn (av kv) ?_)))))
    refine kUn (bb 6 ty3 bq) ?_
    refine kIn rfl rfl rfl ?_
    refine a7 h rfl (fun _ h=> ?_) (fun _ h=> ?_)
    ·refine bj (fun e C=>ref12_statement_j3 R x39=some r/\At [(6,aj b4 0),(7,Pr.i64 0),(8,aj b5 0)] [Own.box b4 rApiNode (ApiNode.mk 0 [] [] 0 0 0 0 0 []),Own.box b5 ac x39,Own.box b31 rApiNode x28,Own.box b32 ac x30,Own.box b40 rApiNode x37,Own.box b41 ac x39] e C) ?_ ?_
     ·rintro e C ⟨h,hat3⟩
      refine W_at hat3 ?_
      unfold ref12_statement_j3 at h
      obtain rfl:=osj h
      exact ax ⟨rfl,[(rApiNode).val (ApiNode.mk 0 [] [] 0 0 0 0 0 []),Pr.i64 0,(ac).val x39],⟨yBox 0 ty48 aa,yT aa,yBox 1 ty76 aa,trivial⟩,aa⟩
     refine fb [(2,0,Own.box b4 rApiNode (ApiNode.mk 0 [] [] 0 0 0 0 0 [])),(4,1,Own.box b5 ac x39)] [Own.box b4 rApiNode (ApiNode.mk 0 [] [] 0 0 0 0 0 []),Own.box b5 ac x39,Own.box b31 rApiNode x28,Own.box b32 ac x30,Own.vec v34 rApiNode ([x28]:List ApiNode) 48,Own.box b40 rApiNode x37,Own.box b41 ac x39] hmx (by kernel_rfl) (by kernel_rfl) (show([2,4]:List Nat).Nodup by decide) (show([0,1]:List Nat).Nodup by decide) rfl rfl ?_
     refine eq1 (out:=(rApiNode).val (ApiNode.mk 0 [] [] 0 0 0 0 0 [])) (fun C2 hC=>(du au st48 rfl)) ?_
     refine eq1 (out:=(ac).val x39) (fun C2 hC=>(bb (R:=ac) (a:=x39) (R':=ac) 6 ty76 (Sub.refl _) (hi:=(hC 6 (by kernel_rfl)).trans rfl))) ?_
     refine eqS (fun C2 hC=>dr (R:=rApiNode) (R':=rApiNode) (a:=(ApiNode.mk 0 [] [] 0 0 0 0 0 [])) (y:=(ApiNode.mk 0 [] [] 0 0 0 0 0 [])) 0 Tryz.sizeOf48 (Upd.refl _) ((hC 0 (by kernel_rfl)).trans rfl)) ?_
     refine eq1 (out:=Pr.i64 0) (fun C2 hC=>el) ?_
     refine eqS (fun C2 hC=>dr (R:=ac) (R':=ac) (a:=(Ref12Wrong.mk 0 0)) (y:=x39) 1 Tryz.sizeOf76 (Upd.refl _) ((hC 1 (by kernel_rfl)).trans rfl)) ?_
     exact⟨h,⟨⟨aa,aa,aa,trivial⟩,Pick.of [0,1,2,3,5,6] rfl⟩⟩
    refine ar (W_rs (kAs rfl (W_rs (kMv rfl (kUn (bb 5 ty48 (Sub.refl _)) ?_)))))
    refine kUn (bt (R:=rApiNode) (a:=x37) el44 (Nat.le_of_ble_eq_true rfl)) ?_
    obtain⟨x43,hx43,h⟩:=af h
    refine fg 4 el44 hx43 (fun v44=> ?_)
    refine kAs rfl (W_r (kMv rfl (kAs rfl ?_)))
    exact⟨x38,7,x43,v44,h,⟨⟨aa,aa,aa,aa,aa,aa,aa,trivial⟩,Pick.of [0,1,2,3,4] rfl⟩⟩
   refine ar ?_
   exact⟨x29,8,([x28]:List ApiNode),v34,h,atOk⟩
  refine W_rs (kMvL rfl (kMv rfl (cg h (bg x1 x2 ([114,101,116,117,114,110]:List UInt8)) rfl fun x20 _ h=>kAs rfl ?_)))
  refine a7 h rfl (fun _ h=> ?_) (fun _ h=> ?_)
  ·refine ar ?_
   exact⟨x20,h,atOk⟩
  refine W_r (kMvL rfl (kMv rfl (cg h (bg x1 x2 ([112,114,105,110,116]:List UInt8)) rfl fun x22 _ h=>kAs rfl ?_)))
  exact⟨x22,h,atOk⟩
 refine W_rs (kMvL rfl (kMv rfl (cg h (bg x1 x2 ([105,102]:List UInt8)) rfl fun x12 _ h=>kAs rfl ?_)))
 refine a7 h rfl (fun _ h=> ?_) (fun _ h=> ?_)
 ·refine ar ?_
  exact⟨x12,h,atOk⟩
 refine W_r (kMvL rfl (kMv rfl (cg h (bg x1 x2 ([119,104,105,108,101]:List UInt8)) rfl fun x14 _ h=>kAs rfl ?_)))
 exact⟨x14,h,atOk⟩
theorem F_ref12_guarded_step (R:bv) (ih:md R) (x1:List ApiToken) (x2 x3:Int) (r:ApiNode × Int × Ref12Wrong) (h:k7 R x1 x2 x3=some r):FnP Tryz.prog 122 [ap ah x1,Pr.i64 x2,Pr.i64 x3] (ce [(rApiNode).val r.1,Pr.i64 r.2.1,(ac).val r.2.2]):=by
 refine ep (rs:=[.cell 6 48,.tmp 7,.cell 8 76]) Tryz.func122 rfl Tryz.ntmps122 Tryz.results122 (by decide) (fun s0=> ?_)
 unfold k7 at h
 refine W_rs (a8 al48 fun b4=>kAs rfl (a8 al76 fun b5=>W_rs (kMvL rfl (kMv rfl (kIn rfl rfl rfl (kMv rfl (kIn rfl rfl rfl ?_)))))))
 obtain⟨⟨x6,x7,x8⟩,hx6,h⟩:=af h
 refine kUn (dl (ref12_bracketed_ok x1 (w64 (x2+1)) (w64 (x3+1)) _ hx6)) ?_
 refine kUn (hMv (out:=ce [(rApiNode).val x6,Pr.i64 x7,(ac).val x8]) rfl) (kUn ao ?_)
 refine kUn ao ?_
 refine kUn ao ?_
 refine a8 al48 fun b9=> ?_
 refine a8 al76 fun b10=>ak 2 rfl rfl (Upd.refl _) rfl Tryz.sizeOf48 (kAs rfl (ak 3 rfl rfl (Upd.refl _) rfl Tryz.sizeOf76 (az (W_rs (kUn (av kv) ?_)))))
 refine kUn (bb 3 ty3 bq) ?_
 refine kIn rfl rfl rfl ?_
 refine a7 h rfl (fun _ h=> ?_) (fun _ h=> ?_)
 ·refine bj (fun e C=>ref12_guarded_j1 R x8=some r/\At [(6,aj b4 0),(7,Pr.i64 0),(8,aj b5 0)] [Own.box b4 rApiNode (ApiNode.mk 0 [] [] 0 0 0 0 0 []),Own.box b5 ac x8,Own.box b9 rApiNode x6,Own.box b10 ac x8] e C) ?_ ?_
  ·rintro e C ⟨h,hat1⟩
   refine W_at hat1 ?_
   unfold ref12_guarded_j1 at h
   obtain rfl:=osj h
   exact ax ⟨rfl,[(rApiNode).val (ApiNode.mk 0 [] [] 0 0 0 0 0 []),Pr.i64 0,(ac).val x8],⟨yBox 0 ty48 aa,yT aa,yBox 1 ty76 aa,trivial⟩,aa⟩
  refine fb [(2,0,Own.box b4 rApiNode (ApiNode.mk 0 [] [] 0 0 0 0 0 [])),(4,1,Own.box b5 ac x8)] [Own.box b4 rApiNode (ApiNode.mk 0 [] [] 0 0 0 0 0 []),Own.box b5 ac x8,Own.box b9 rApiNode x6,Own.box b10 ac x8] hmx (by kernel_rfl) (by kernel_rfl) (show([2,4]:List Nat).Nodup by decide) (show([0,1]:List Nat).Nodup by decide) rfl rfl ?_
  refine eq1 (out:=(rApiNode).val (ApiNode.mk 0 [] [] 0 0 0 0 0 [])) (fun C2 hC=>(du au st48 rfl)) ?_
  refine eq1 (out:=(ac).val x8) (fun C2 hC=>(bb (R:=ac) (a:=x8) (R':=ac) 3 ty76 (Sub.refl _) (hi:=(hC 3 (by kernel_rfl)).trans rfl))) ?_
  refine eqS (fun C2 hC=>dr (R:=rApiNode) (R':=rApiNode) (a:=(ApiNode.mk 0 [] [] 0 0 0 0 0 [])) (y:=(ApiNode.mk 0 [] [] 0 0 0 0 0 [])) 0 Tryz.sizeOf48 (Upd.refl _) ((hC 0 (by kernel_rfl)).trans rfl)) ?_
  refine eq1 (out:=Pr.i64 0) (fun C2 hC=>el) ?_
  refine eqS (fun C2 hC=>dr (R:=ac) (R':=ac) (a:=(Ref12Wrong.mk 0 0)) (y:=x8) 1 Tryz.sizeOf76 (Upd.refl _) ((hC 1 (by kernel_rfl)).trans rfl)) ?_
  exact⟨h,atOk⟩
 refine ar (W_rs (kMvL rfl (kMv rfl (kMv rfl (kIn rfl rfl rfl ?_)))))
 obtain⟨⟨x12,x13,x14⟩,hx12,h⟩:=af h
 refine kUn (dl (ih.2.1 x1 x7 (w64 (x3+1)) _ hx12)) ?_
 refine kUn (hMv (out:=ce [(rApiNode).val x12,Pr.i64 x13,(ac).val x14]) rfl) (kUn ao ?_)
 refine kUn ao ?_
 refine kUn ao ?_
 refine a8 al48 fun b15=> ?_
 refine a8 al76 fun b16=>ak 4 rfl rfl (Upd.refl _) rfl Tryz.sizeOf48 (kAs rfl (ak 5 rfl rfl (Upd.refl _) rfl Tryz.sizeOf76 (az (W_rs (kUn (av kv) ?_)))))
 refine kUn (bb 5 ty3 bq) ?_
 refine kIn rfl rfl rfl ?_
 refine a7 h rfl (fun _ h=> ?_) (fun _ h=> ?_)
 ·refine bj (fun e C=>ref12_guarded_j2 R x14=some r/\At [(6,aj b4 0),(7,Pr.i64 0),(8,aj b5 0)] [Own.box b4 rApiNode (ApiNode.mk 0 [] [] 0 0 0 0 0 []),Own.box b5 ac x14,Own.box b9 rApiNode x6,Own.box b10 ac x8,Own.box b15 rApiNode x12,Own.box b16 ac x14] e C) ?_ ?_
  ·rintro e C ⟨h,hat2⟩
   refine W_at hat2 ?_
   unfold ref12_guarded_j2 at h
   obtain rfl:=osj h
   exact ax ⟨rfl,[(rApiNode).val (ApiNode.mk 0 [] [] 0 0 0 0 0 []),Pr.i64 0,(ac).val x14],⟨yBox 0 ty48 aa,yT aa,yBox 1 ty76 aa,trivial⟩,aa⟩
  refine fb [(2,0,Own.box b4 rApiNode (ApiNode.mk 0 [] [] 0 0 0 0 0 [])),(4,1,Own.box b5 ac x14)] [Own.box b4 rApiNode (ApiNode.mk 0 [] [] 0 0 0 0 0 []),Own.box b5 ac x14,Own.box b9 rApiNode x6,Own.box b10 ac x8,Own.box b15 rApiNode x12,Own.box b16 ac x14] hmx (by kernel_rfl) (by kernel_rfl) (show([2,4]:List Nat).Nodup by decide) (show([0,1]:List Nat).Nodup by decide) rfl rfl ?_
  refine eq1 (out:=(rApiNode).val (ApiNode.mk 0 [] [] 0 0 0 0 0 [])) (fun C2 hC=>(du au st48 rfl)) ?_
  refine eq1 (out:=(ac).val x14) (fun C2 hC=>(bb (R:=ac) (a:=x14) (R':=ac) 5 ty76 (Sub.refl _) (hi:=(hC 5 (by kernel_rfl)).trans rfl))) ?_
  refine eqS (fun C2 hC=>dr (R:=rApiNode) (R':=rApiNode) (a:=(ApiNode.mk 0 [] [] 0 0 0 0 0 [])) (y:=(ApiNode.mk 0 [] [] 0 0 0 0 0 [])) 0 Tryz.sizeOf48 (Upd.refl _) ((hC 0 (by kernel_rfl)).trans rfl)) ?_
  refine eq1 (out:=Pr.i64 0) (fun C2 hC=>el) ?_
  refine eqS (fun C2 hC=>dr (R:=ac) (R':=ac) (a:=(Ref12Wrong.mk 0 0)) (y:=x14) 1 Tryz.sizeOf76 (Upd.refl _) ((hC 1 (by kernel_rfl)).trans rfl)) ?_
  exact⟨h,atOk⟩
 refine ar (W_rs (kUn (bb 2 ty48 (Sub.refl _)) ?_))
 refine kUn (bb 4 ty48 (Sub.refl _)) ?_
 refine rBuildV (R:=rApiNode) (ls:=([x6,x12]:List ApiNode)) el44 (Nat.le_of_ble_eq_true rfl) ⟨rfl,rfl⟩ ⟨rfl,rfl,trivial⟩ (fun v18=> ?_)
 refine kAs rfl (az (W_rs (kMvL rfl (kMv rfl (cg h (bg x1 x2 ([119,104,105,108,101]:List UInt8)) rfl fun x19 _ h=> ?_)))))
 refine a7 h rfl (fun _ h=> ?_) (fun _ h=> ?_)
 ·refine W_rs (kMvL rfl (kMv rfl (kMv rfl (kMv rfl ?_))))
  obtain⟨x21,hx21,h⟩:=af h
  refine rRel 6 [15,57] ?_ rfl ⟨rfl,rfl,trivial⟩
  refine kUn (dl (dq x1 10 x2 x13 ([x6,x12]:List ApiNode) _ hx21)) ?_
  refine kMv rfl (cg h (cu) rfl fun x22 _ h=>ak 0 rfl rfl (Upd.refl _) rfl Tryz.sizeOf48 (kAs rfl (ak 1 rfl rfl (Upd.refl _) rfl Tryz.sizeOf76 ?_)))
  obtain rfl:=osj h
  exact ax ⟨rfl,[(rApiNode).val x21,Pr.i64 x13,(ac).val x22],⟨yBox 0 ty48 aa,yT aa,yBox 1 ty76 aa,trivial⟩,aa⟩
 refine ar ?_
 refine bj (fun e C=>∃(x33:Int),∃(x35:List ApiNode),∃(v34:Value),nu R x1 x2 x33 x35=some r/\At [(0,ap ah x1),(1,Pr.i64 x2),(6,aj b4 0),(8,aj b5 0),(13,Pr.i64 x33),(15,Pr.is v34)] [Own.box b4 rApiNode (ApiNode.mk 0 [] [] 0 0 0 0 0 []),Own.box b5 ac (Ref12Wrong.mk 0 0),Own.box b9 rApiNode x6,Own.box b10 ac x8,Own.box b15 rApiNode x12,Own.box b16 ac x14,Own.vec v34 rApiNode x35 48] e C) ?_ ?_
 ·rintro e C ⟨x33,x35,v34,h,hat3⟩
  refine W_at hat3 ?_
  unfold nu at h
  refine W_rs (kMvL rfl (kMv rfl (kMv rfl (kMv rfl ?_))))
  obtain⟨x36,hx36,h⟩:=af h
  refine rRel 6 [15,87] ?_ rfl ⟨rfl,rfl,trivial⟩
  refine kUn (dl (dq x1 9 x2 x33 x35 _ hx36)) ?_
  refine kMv rfl (cg h (cu) rfl fun x37 _ h=>ak 0 rfl rfl (Upd.refl _) rfl Tryz.sizeOf48 (kAs rfl (ak 1 rfl rfl (Upd.refl _) rfl Tryz.sizeOf76 ?_)))
  obtain rfl:=osj h
  exact ax ⟨rfl,[(rApiNode).val x36,Pr.i64 x33,(ac).val x37],⟨yBox 0 ty48 aa,yT aa,yBox 1 ty76 aa,trivial⟩,aa⟩
 refine W_rs (kMvL rfl (kMv rfl (cg h (bg x1 x13 ([101,108,115,101]:List UInt8)) rfl fun x23 _ h=> ?_)))
 refine a7 h rfl (fun _ h=> ?_) (fun _ h=> ?_)
 ·refine W_rs (kMvL rfl (kMv rfl (kIn rfl rfl rfl (kMv rfl (kIn rfl rfl rfl ?_)))))
  obtain⟨⟨x25,x26,x27⟩,hx25,h⟩:=af h
  refine kUn (dl (ih.2.1 x1 (w64 (x13+1)) (w64 (x3+1)) _ hx25)) ?_
  refine kUn (hMv (out:=ce [(rApiNode).val x25,Pr.i64 x26,(ac).val x27]) rfl) (kUn ao ?_)
  refine kUn ao ?_
  refine kUn ao ?_
  refine a8 al48 fun b28=> ?_
  refine a8 al76 fun b29=>ak 7 rfl rfl (Upd.refl _) rfl Tryz.sizeOf48 (kAs rfl (ak 8 rfl rfl (Upd.refl _) rfl Tryz.sizeOf76 (az (W_rs (kUn (av kv) ?_)))))
  refine kUn (bb 8 ty3 bq) ?_
  refine kIn rfl rfl rfl ?_
  refine a7 h rfl (fun _ h=> ?_) (fun _ h=> ?_)
  ·refine bj (fun e C=>ref12_guarded_j4 R x27=some r/\At [(6,aj b4 0),(7,Pr.i64 0),(8,aj b5 0)] [Own.box b4 rApiNode (ApiNode.mk 0 [] [] 0 0 0 0 0 []),Own.box b5 ac x27,Own.box b9 rApiNode x6,Own.box b10 ac x8,Own.box b15 rApiNode x12,Own.box b16 ac x14,Own.box b28 rApiNode x25,Own.box b29 ac x27] e C) ?_ ?_
   ·rintro e C ⟨h,hat4⟩
    refine W_at hat4 ?_
    unfold ref12_guarded_j4 at h
    obtain rfl:=osj h
    exact ax ⟨rfl,[(rApiNode).val (ApiNode.mk 0 [] [] 0 0 0 0 0 []),Pr.i64 0,(ac).val x27],⟨yBox 0 ty48 aa,yT aa,yBox 1 ty76 aa,trivial⟩,aa⟩
   refine fb [(2,0,Own.box b4 rApiNode (ApiNode.mk 0 [] [] 0 0 0 0 0 [])),(4,1,Own.box b5 ac x27)] [Own.box b4 rApiNode (ApiNode.mk 0 [] [] 0 0 0 0 0 []),Own.box b5 ac x27,Own.box b9 rApiNode x6,Own.box b10 ac x8,Own.box b15 rApiNode x12,Own.box b16 ac x14,Own.vec v18 rApiNode ([x6,x12]:List ApiNode) 48,Own.box b28 rApiNode x25,Own.box b29 ac x27] hmx (by kernel_rfl) (by kernel_rfl) (show([2,4]:List Nat).Nodup by decide) (show([0,1]:List Nat).Nodup by decide) rfl rfl ?_
   refine eq1 (out:=(rApiNode).val (ApiNode.mk 0 [] [] 0 0 0 0 0 [])) (fun C2 hC=>(du au st48 rfl)) ?_
   refine eq1 (out:=(ac).val x27) (fun C2 hC=>(bb (R:=ac) (a:=x27) (R':=ac) 8 ty76 (Sub.refl _) (hi:=(hC 8 (by kernel_rfl)).trans rfl))) ?_
   refine eqS (fun C2 hC=>dr (R:=rApiNode) (R':=rApiNode) (a:=(ApiNode.mk 0 [] [] 0 0 0 0 0 [])) (y:=(ApiNode.mk 0 [] [] 0 0 0 0 0 [])) 0 Tryz.sizeOf48 (Upd.refl _) ((hC 0 (by kernel_rfl)).trans rfl)) ?_
   refine eq1 (out:=Pr.i64 0) (fun C2 hC=>el) ?_
   refine eqS (fun C2 hC=>dr (R:=ac) (R':=ac) (a:=(Ref12Wrong.mk 0 0)) (y:=x27) 1 Tryz.sizeOf76 (Upd.refl _) ((hC 1 (by kernel_rfl)).trans rfl)) ?_
   exact⟨h,⟨⟨aa,aa,aa,trivial⟩,Pick.of [0,1,2,3,4,5,7,8] rfl⟩⟩
  refine ar (W_rs (kMv rfl (kUn (bb 7 ty48 (Sub.refl _)) ?_)))
  refine kUn (bt (R:=rApiNode) (a:=x25) el44 (Nat.le_of_ble_eq_true rfl)) ?_
  obtain⟨x31,hx31,h⟩:=af h
  refine fg 6 el44 hx31 (fun v32=> ?_)
  refine kAs rfl (W_r (kMv rfl (kAs rfl ?_)))
  exact⟨x26,x31,v32,h,⟨⟨aa,aa,aa,aa,aa,aa,trivial⟩,Pick.of [0,1,2,3,4,5,6] rfl⟩⟩
 refine ar ?_
 exact⟨x13,([x6,x12]:List ApiNode),v18,h,atOk⟩
theorem rec_ref12_block_ok :∀n,md (co n):=by
 intro n
 induction n with
 |zero=>exact⟨(fun x1 x2 x3 r h=>nomatch (show none=some r from h)),(fun x1 x2 x3 r h=>nomatch (show none=some r from h)),(fun x1 x2 x3 r h=>nomatch (show none=some r from h))⟩
 |succ n ih=>exact⟨(fun x1 x2 x3 r h=>F_ref12_block_step (co n) ih x1 x2 x3 r h),(fun x1 x2 x3 r h=>F_ref12_statement_step (co n) ih x1 x2 x3 r h),(fun x1 x2 x3 r h=>F_ref12_guarded_step (co n) ih x1 x2 x3 r h)⟩
theorem ref12_block_ok (x1:List ApiToken) (x2 x3:Int) (r:ApiNode × Int × Ref12Wrong) (h:ref12_block x1 x2 x3=some r):FnP Tryz.prog 83 [ap ah x1,Pr.i64 x2,Pr.i64 x3] (ce [(rApiNode).val r.1,Pr.i64 r.2.1,(ac).val r.2.2]):=(rec_ref12_block_ok 1048576).1 x1 x2 x3 r h
end Go.Proofs.YteablckbgpogiaaGreatDoor
