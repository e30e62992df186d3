/- The code comes to what these functions say (printed by wip/gen/gen.py). -/
import Derived.Test.YteablckbgpogiaaGreatDoorZX
import Derived.Test.YteablckbgpogiaaGreatDoorZP11
import Derived.Test.YteablckbgpogiaaGreatDoorZT
set_option linter.unusedSimpArgs false
set_option linter.unusedVariables false
set_option linter.unusedSectionVars false
set_option linter.unusedSectionVars false
set_option maxRecDepth 100000
set_option maxHeartbeats 4000000
namespace Go.Proofs.YteablckbgpogiaaGreatDoor
open Go Go.Cn
variable [Known]
attribute [local irreducible] f5 ap
theorem ref12_member_ok (x1:List ApiToken) (x2:Int) (r:ApiNode × Int × Ref12Wrong) (h:ref12_member x1 x2=some r):FnP Tryz.prog 55 [ap ah x1,Pr.i64 x2] (ce [(rApiNode).val r.1,Pr.i64 r.2.1,(ac).val r.2.2]):=by
 refine ep (rs:=[.cell 4 48,.tmp 5,.cell 6 76]) Tryz.func55 rfl Tryz.ntmps55 Tryz.results55 (by decide) (fun s0=> ?_)
 unfold ref12_member at h
 refine W_rs (a8 al48 fun b3=>kAs rfl (a8 al76 fun b4=>W_rs (kMv rfl (kAs rfl (W_rs (kMvL rfl (kMv rfl (cg h (bg x1 x2 ([115,116,97,116,105,99]:List UInt8)) rfl fun x5 _ h=>kAs rfl ?_))))))))
 refine bj (fun e C=>∃(x7:Int),mh x1 x2 x5 x7=some r/\At [(0,ap ah x1),(1,Pr.i64 x7),(4,aj b3 0),(6,aj b4 0),(7,Pr.i64 x2),(8,Pr.bool x5)] [Own.box b3 rApiNode (ApiNode.mk 0 [] [] 0 0 0 0 0 []),Own.box b4 ac (Ref12Wrong.mk 0 0)] e C) ?_ ?_
 ·rintro e C ⟨x7,h,hat6⟩
  refine W_at hat6 ?_
  unfold mh at h
  refine az (W_rs (kMvL rfl (kMv rfl (cg h (ref12_kind_ok x1 x7) rfl fun x8 _ h=>kNo rfl ?_))))
  refine a7 h rfl (fun _ h=> ?_) (fun _ h=> ?_)
  ·refine W_rs (kUn (du au st48 rfl) ?_)
   refine kMv rfl (cg h (cb x7) rfl fun x10 _ h=>ak 0 rfl rfl (Upd.refl _) rfl Tryz.sizeOf48 (kAs rfl (ak 1 rfl rfl (Upd.refl _) rfl Tryz.sizeOf76 ?_)))
   obtain rfl:=osj h
   exact ax ⟨rfl,[(rApiNode).val (ApiNode.mk 0 [] [] 0 0 0 0 0 []),Pr.i64 0,(ac).val x10],⟨yBox 0 ty48 aa,yT aa,yBox 1 ty76 aa,trivial⟩,aa⟩
  refine ar (az (W_rs (kMvL rfl (kMv rfl (kIn rfl rfl rfl (cg h (i5 x1 (w64 (x7+1))) rfl fun x11 _ h=>kNo rfl ?_))))))
  refine a7 h rfl (fun _ h=> ?_) (fun _ h=> ?_)
  ·refine W_rs (kUn (du au st48 rfl) ?_)
   refine kMv rfl (kIn rfl rfl rfl (cg h (cb (w64 (x7+1))) rfl fun x13 _ h=>ak 0 rfl rfl (Upd.refl _) rfl Tryz.sizeOf48 (kAs rfl (ak 1 rfl rfl (Upd.refl _) rfl Tryz.sizeOf76 ?_))))
   obtain rfl:=osj h
   exact ax ⟨rfl,[(rApiNode).val (ApiNode.mk 0 [] [] 0 0 0 0 0 []),Pr.i64 0,(ac).val x13],⟨yBox 0 ty48 aa,yT aa,yBox 1 ty76 aa,trivial⟩,aa⟩
  refine ar (W_rs (kMv rfl (kIn rfl rfl rfl (kAs rfl (W_rs (kAs rfl (W_rs (kAs rfl ?_))))))))
  refine W_nil [11] rApiNode 48 (fun v14=> ?_) ⟨rfl,trivial⟩
  refine bj (fun e C=>∃(x37:Int),∃(x38:Int),∃(x40:List ApiNode),∃(v39:Value),mi x1 x2 x7 x5 x37 x38 x40=some r/\At [(0,ap ah x1),(1,Pr.i64 x7),(4,aj b3 0),(6,aj b4 0),(7,Pr.i64 x2),(8,Pr.bool x5),(9,Pr.i64 x37),(10,Pr.i64 x38),(11,Pr.is v39)] [Own.box b3 rApiNode (ApiNode.mk 0 [] [] 0 0 0 0 0 []),Own.box b4 ac (Ref12Wrong.mk 0 0),Own.vec v39 rApiNode x40 48] e C) ?_ ?_
  ·rintro e C ⟨x37,x38,x40,v39,h,hat3⟩
   refine W_at hat3 ?_
   unfold mi at h
   refine W_rs (kMvL rfl (kMvL rfl (kMv rfl (kMv rfl (kMv rfl (kMv rfl ?_))))))
   obtain⟨x41,hx41,h⟩:=af h
   refine rRel 2 [11,99] ?_ rfl ⟨rfl,rfl,trivial⟩
   refine kUn (dl (dq x1 x38 x2 x37 x40 _ hx41)) ?_
   refine kMv rfl (cg h (ref12_typed_ok x1 x41 x7) rfl fun x42 _ h=> ?_)
   refine a8 al48 fun b43=>ak 2 rfl rfl (Upd.refl _) rfl Tryz.sizeOf48 ?_
   refine bj (fun e C=>∃(x45:ApiNode),pd x37 x45=some r/\At [(4,aj b3 0),(6,aj b4 0),(9,Pr.i64 x37),(18,aj b43 0)] [Own.box b3 rApiNode (ApiNode.mk 0 [] [] 0 0 0 0 0 []),Own.box b4 ac (Ref12Wrong.mk 0 0),Own.box b43 rApiNode x45] e C) ?_ ?_
   ·rintro e C ⟨x45,h,hat2⟩
    refine W_at hat2 ?_
    unfold pd at h
    refine bj (fun e C=>∃(x46:Ref12Wrong),ref12_member_j1 x45 x37 x46=some r/\At [(4,aj b3 0),(5,Pr.i64 x37),(6,aj b4 0)] [Own.box b3 rApiNode x45,Own.box b4 ac x46,Own.box b43 rApiNode x45] e C) ?_ ?_
    ·rintro e C ⟨x46,h,hat1⟩
     refine W_at hat1 ?_
     unfold ref12_member_j1 at h
     obtain rfl:=osj h
     exact ax ⟨rfl,[(rApiNode).val x45,Pr.i64 x37,(ac).val x46],⟨yBox 0 ty48 aa,yT aa,yBox 1 ty76 aa,trivial⟩,aa⟩
    obtain⟨x46,hx46,h⟩:=af h
    refine fb [(3,0,Own.box b3 rApiNode x45),(5,1,Own.box b4 ac x46)] [Own.box b3 rApiNode x45,Own.box b4 ac x46,Own.box b43 rApiNode x45] hmx (by kernel_rfl) (by kernel_rfl) (show([3,5]:List Nat).Nodup by decide) (show([0,1]:List Nat).Nodup by decide) rfl rfl ?_
    refine eq1 (out:=(rApiNode).val x45) (fun C2 hC=>(bb (R:=rApiNode) (a:=x45) (R':=rApiNode) 2 ty48 (Sub.refl _) (hi:=(hC 2 (by kernel_rfl)).trans rfl))) ?_
    refine eq1 (out:=Pr.i64 x37) (fun C2 hC=>jn) ?_
    refine eq1 (out:=(ac).val x46) (fun C2 hC=>(dl (cu _ hx46))) ?_
    refine eqS (fun C2 hC=>dr (R:=rApiNode) (R':=rApiNode) (a:=(ApiNode.mk 0 [] [] 0 0 0 0 0 [])) (y:=x45) 0 Tryz.sizeOf48 (Upd.refl _) ((hC 0 (by kernel_rfl)).trans rfl)) ?_
    refine eq1 (out:=Pr.i64 x37) (fun C2 hC=>el) ?_
    refine eqS (fun C2 hC=>dr (R:=ac) (R':=ac) (a:=(Ref12Wrong.mk 0 0)) (y:=x46) 1 Tryz.sizeOf76 (Upd.refl _) ((hC 1 (by kernel_rfl)).trans rfl)) ?_
    exact⟨x46,h,atOk⟩
   refine W_rs (kMv rfl ?_)
   refine a7 h rfl (fun _ h=> ?_) (fun _ h=> ?_)
   ·refine W_r (kUn (av fld48_3) ?_)
    refine ak 2 rfl rfl q7 rfl Tryz.sizeOf2 ?_
    exact⟨{x42 with N:=1},h,atOk⟩
   refine ar ?_
   exact⟨x42,h,atOk⟩
  refine a4 (W_rs (kMvL rfl (kMv rfl (cg h (bg x1 (w64 (x7+2)) ([59]:List UInt8)) rfl fun x15 _ h=>kAs rfl ?_))))
  refine a7 h rfl (fun _ h=> ?_) (fun _ h=> ?_)
  ·refine az (W_rs (kMvL rfl (kMv rfl (cg h (bg x1 x7 ([118,111,105,100]:List UInt8)) rfl fun x17 _ h=> ?_))))
   refine a7 h rfl (fun _ h=> ?_) (fun _ h=> ?_)
   ·refine W_rs (kUn (du au st48 rfl) ?_)
    refine kMv rfl (cg h (cb (w64 (x7+2))) rfl fun x19 _ h=>ak 0 rfl rfl (Upd.refl _) rfl Tryz.sizeOf48 (kAs rfl (ak 1 rfl rfl (Upd.refl _) rfl Tryz.sizeOf76 ?_)))
    obtain rfl:=osj h
    exact ax ⟨rfl,[(rApiNode).val (ApiNode.mk 0 [] [] 0 0 0 0 0 []),Pr.i64 0,(ac).val x19],⟨yBox 0 ty48 aa,yT aa,yBox 1 ty76 aa,trivial⟩,aa⟩
   refine ar (W_r (kMv rfl (kIn rfl rfl rfl (kAs rfl ?_))))
   exact⟨w64 ((w64 (x7+2))+1),2,[],v14,h,atOk⟩
  refine W_rs (kMvL rfl (kMv rfl (cg h (bg x1 (w64 (x7+2)) ([40]:List UInt8)) rfl fun x20 _ h=>kAs rfl ?_)))
  refine a7 h rfl (fun _ h=> ?_) (fun _ h=> ?_)
  ·refine W_rs (kAs rfl (W_rs (kMvL rfl (kMv rfl (kIn rfl rfl rfl ?_)))))
   obtain⟨⟨x22,x23,x24⟩,hx22,h⟩:=af h
   refine jp [] (ref12_params_ok x1 (w64 ((w64 (x7+2))+1)) _ hx22) (fun q C' hq=> ?_)
   obtain⟨v25,rfl,rfl⟩:=hq
   refine kUn (hMv (out:=ce [Pr.is v25,Pr.i64 x23,(ac).val x24]) rfl) (kUn ao ?_)
   refine kUn ao ?_
   refine kUn ao ?_
   refine a8 al76 fun b26=>kAs rfl (kAs rfl (ak 4 rfl rfl (Upd.refl _) rfl Tryz.sizeOf76 (az (W_rs (kUn (av kv) ?_)))))
   refine kUn (bb 4 ty3 bq) ?_
   refine kIn rfl rfl rfl ?_
   refine a7 h rfl (fun _ h=> ?_) (fun _ h=> ?_)
   ·refine bj (fun e C=>ref12_member_j4 x24=some r/\At [(4,aj b3 0),(5,Pr.i64 0),(6,aj b4 0)] [Own.box b3 rApiNode (ApiNode.mk 0 [] [] 0 0 0 0 0 []),Own.box b4 ac x24,Own.box b26 ac x24] e C) ?_ ?_
    ·rintro e C ⟨h,hat4⟩
     refine W_at hat4 ?_
     unfold ref12_member_j4 at h
     obtain rfl:=osj h
     exact ax ⟨rfl,[(rApiNode).val (ApiNode.mk 0 [] [] 0 0 0 0 0 []),Pr.i64 0,(ac).val x24],⟨yBox 0 ty48 aa,yT aa,yBox 1 ty76 aa,trivial⟩,aa⟩
    refine fb [(2,1,Own.box b3 rApiNode (ApiNode.mk 0 [] [] 0 0 0 0 0 [])),(4,2,Own.box b4 ac x24)] [Own.vec v25 rApiNode x22 48,Own.box b3 rApiNode (ApiNode.mk 0 [] [] 0 0 0 0 0 []),Own.box b4 ac x24,Own.vec v14 rApiNode [] 48,Own.box b26 ac x24] hmx (by kernel_rfl) (by kernel_rfl) (show([2,4]:List Nat).Nodup by decide) (show([1,2]:List Nat).Nodup by decide) rfl rfl ?_
    refine eq1 (out:=(rApiNode).val (ApiNode.mk 0 [] [] 0 0 0 0 0 [])) (fun C2 hC=>(du au st48 rfl)) ?_
    refine eq1 (out:=(ac).val x24) (fun C2 hC=>(bb (R:=ac) (a:=x24) (R':=ac) 4 ty76 (Sub.refl _) (hi:=(hC 4 (by kernel_rfl)).trans rfl))) ?_
    refine eqS (fun C2 hC=>dr (R:=rApiNode) (R':=rApiNode) (a:=(ApiNode.mk 0 [] [] 0 0 0 0 0 [])) (y:=(ApiNode.mk 0 [] [] 0 0 0 0 0 [])) 1 Tryz.sizeOf48 (Upd.refl _) ((hC 1 (by kernel_rfl)).trans rfl)) ?_
    refine eq1 (out:=Pr.i64 0) (fun C2 hC=>el) ?_
    refine eqS (fun C2 hC=>dr (R:=ac) (R':=ac) (a:=(Ref12Wrong.mk 0 0)) (y:=x24) 2 Tryz.sizeOf76 (Upd.refl _) ((hC 2 (by kernel_rfl)).trans rfl)) ?_
    exact⟨h,⟨⟨aa,aa,aa,trivial⟩,Pick.of [1,2,4] rfl⟩⟩
   refine ar (W_rs (kMvL rfl (kMv rfl ?_)))
   obtain⟨⟨x28,x29,x30⟩,hx28,h⟩:=af h
   refine kUn (dl (ref12_block_ok x1 x23 1 _ hx28)) ?_
   refine kUn (hMv (out:=ce [(rApiNode).val x28,Pr.i64 x29,(ac).val x30]) rfl) (kUn ao ?_)
   refine kUn ao ?_
   refine kUn ao ?_
   refine a8 al48 fun b31=> ?_
   refine a8 al76 fun b32=>ak 5 rfl rfl (Upd.refl _) rfl Tryz.sizeOf48 (kAs rfl (ak 6 rfl rfl (Upd.refl _) rfl Tryz.sizeOf76 (az (W_rs (kUn (av kv) ?_)))))
   refine kUn (bb 6 ty3 bq) ?_
   refine kIn rfl rfl rfl ?_
   refine a7 h rfl (fun _ h=> ?_) (fun _ h=> ?_)
   ·refine bj (fun e C=>ref12_member_j5 x30=some r/\At [(4,aj b3 0),(5,Pr.i64 0),(6,aj b4 0)] [Own.box b3 rApiNode (ApiNode.mk 0 [] [] 0 0 0 0 0 []),Own.box b4 ac x30,Own.box b26 ac x24,Own.box b31 rApiNode x28,Own.box b32 ac x30] e C) ?_ ?_
    ·rintro e C ⟨h,hat5⟩
     refine W_at hat5 ?_
     unfold ref12_member_j5 at h
     obtain rfl:=osj h
     exact ax ⟨rfl,[(rApiNode).val (ApiNode.mk 0 [] [] 0 0 0 0 0 []),Pr.i64 0,(ac).val x30],⟨yBox 0 ty48 aa,yT aa,yBox 1 ty76 aa,trivial⟩,aa⟩
    refine fb [(2,1,Own.box b3 rApiNode (ApiNode.mk 0 [] [] 0 0 0 0 0 [])),(4,2,Own.box b4 ac x30)] [Own.vec v25 rApiNode x22 48,Own.box b3 rApiNode (ApiNode.mk 0 [] [] 0 0 0 0 0 []),Own.box b4 ac x30,Own.vec v14 rApiNode [] 48,Own.box b26 ac x24,Own.box b31 rApiNode x28,Own.box b32 ac x30] hmx (by kernel_rfl) (by kernel_rfl) (show([2,4]:List Nat).Nodup by decide) (show([1,2]:List Nat).Nodup by decide) rfl rfl ?_
    refine eq1 (out:=(rApiNode).val (ApiNode.mk 0 [] [] 0 0 0 0 0 [])) (fun C2 hC=>(du au st48 rfl)) ?_
    refine eq1 (out:=(ac).val x30) (fun C2 hC=>(bb (R:=ac) (a:=x30) (R':=ac) 6 ty76 (Sub.refl _) (hi:=(hC 6 (by kernel_rfl)).trans rfl))) ?_
    refine eqS (fun C2 hC=>dr (R:=rApiNode) (R':=rApiNode) (a:=(ApiNode.mk 0 [] [] 0 0 0 0 0 [])) (y:=(ApiNode.mk 0 [] [] 0 0 0 0 0 [])) 1 Tryz.sizeOf48 (Upd.refl _) ((hC 1 (by kernel_rfl)).trans rfl)) ?_
    refine eq1 (out:=Pr.i64 0) (fun C2 hC=>el) ?_
    refine eqS (fun C2 hC=>dr (R:=ac) (R':=ac) (a:=(Ref12Wrong.mk 0 0)) (y:=x30) 2 Tryz.sizeOf76 (Upd.refl _) ((hC 2 (by kernel_rfl)).trans rfl)) ?_
    exact⟨h,⟨⟨aa,aa,aa,trivial⟩,Pick.of [1,2,4,5,6] rfl⟩⟩
   refine ar (W_rs (kMv rfl (kUn (bb 5 ty48 (Sub.refl _)) ?_)))
   refine kUn (bt (R:=rApiNode) (a:=x28) el44 (Nat.le_of_ble_eq_true rfl)) ?_
   obtain⟨x34,hx34,h⟩:=af h
   refine fg 0 el44 hx34 (fun v35=> ?_)
   refine kAs rfl (W_rs (kMv rfl (kAs rfl (W_r (kMv rfl (kAs rfl ?_))))))
   exact⟨x29,3,x34,v35,h,⟨⟨aa,aa,aa,aa,aa,aa,aa,aa,aa,trivial⟩,Pick.of [1,2,0] rfl⟩⟩
  refine W_rs (kUn (du au st48 rfl) ?_)
  refine kMv rfl (cg h (cb (w64 (x7+2))) rfl fun x36 _ h=>ak 0 rfl rfl (Upd.refl _) rfl Tryz.sizeOf48 (kAs rfl (ak 1 rfl rfl (Upd.refl _) rfl Tryz.sizeOf76 ?_)))
  obtain rfl:=osj h
  exact ax ⟨rfl,[(rApiNode).val (ApiNode.mk 0 [] [] 0 0 0 0 0 []),Pr.i64 0,(ac).val x36],⟨yBox 0 ty48 aa,yT aa,yBox 1 ty76 aa,trivial⟩,aa⟩
 refine W_rs (kMv rfl ?_)
 refine a7 h rfl (fun _ h=> ?_) (fun _ h=> ?_)
 ·refine W_r (kMv rfl (kIn rfl rfl rfl (kAs rfl ?_)))
  exact⟨w64 (x2+1),h,atOk⟩
 refine ar ?_
 exact⟨x2,h,atOk⟩
theorem ref12_class_ok (x1:List ApiToken) (x2:Int) (r:ApiNode × Int × Ref12Wrong) (h:ref12_class x1 x2=some r):FnP Tryz.prog 34 [ap ah x1,Pr.i64 x2] (ce [(rApiNode).val r.1,Pr.i64 r.2.1,(ac).val r.2.2]):=by
 refine ep (rs:=[.cell 4 48,.tmp 5,.cell 6 76]) Tryz.func34 rfl Tryz.ntmps34 Tryz.results34 (by decide) (fun s0=> ?_)
 unfold ref12_class at h
 refine W_rs (a8 al48 fun b3=>kAs rfl (a8 al76 fun b4=>az (W_rs (kMvL rfl (kMv rfl (cg h (bg x1 x2 ([99,108,97,115,115]:List UInt8)) rfl fun x5 _ h=>kNo rfl ?_))))))
 refine a7 h rfl (fun _ h=> ?_) (fun _ h=> ?_)
 ·refine W_rs (kUn (du au st48 rfl) ?_)
  refine kMv rfl (cg h (cb x2) rfl fun x7 _ h=>ak 0 rfl rfl (Upd.refl _) rfl Tryz.sizeOf48 (kAs rfl (ak 1 rfl rfl (Upd.refl _) rfl Tryz.sizeOf76 ?_)))
  obtain rfl:=osj h
  exact ax ⟨rfl,[(rApiNode).val (ApiNode.mk 0 [] [] 0 0 0 0 0 []),Pr.i64 0,(ac).val x7],⟨yBox 0 ty48 aa,yT aa,yBox 1 ty76 aa,trivial⟩,aa⟩
 refine ar (az (W_rs (kMvL rfl (kMv rfl (kIn rfl rfl rfl (cg h (i5 x1 (w64 (x2+1))) rfl fun x8 _ h=>kNo rfl ?_))))))
 refine a7 h rfl (fun _ h=> ?_) (fun _ h=> ?_)
 ·refine W_rs (kUn (du au st48 rfl) ?_)
  refine kMv rfl (kIn rfl rfl rfl (cg h (cb (w64 (x2+1))) rfl fun x10 _ h=>ak 0 rfl rfl (Upd.refl _) rfl Tryz.sizeOf48 (kAs rfl (ak 1 rfl rfl (Upd.refl _) rfl Tryz.sizeOf76 ?_))))
  obtain rfl:=osj h
  exact ax ⟨rfl,[(rApiNode).val (ApiNode.mk 0 [] [] 0 0 0 0 0 []),Pr.i64 0,(ac).val x10],⟨yBox 0 ty48 aa,yT aa,yBox 1 ty76 aa,trivial⟩,aa⟩
 refine ar (W_rs (kMv rfl (kIn rfl rfl rfl (kAs rfl (W_rs (kAs rfl ?_))))))
 refine bj (fun e C=>∃(x16:Int),∃(x17:Int),n9 x1 x2 x16 x17=some r/\At [(0,ap ah x1),(1,Pr.i64 x2),(4,aj b3 0),(6,aj b4 0),(7,Pr.i64 x16),(8,Pr.i64 x17)] [Own.box b3 rApiNode (ApiNode.mk 0 [] [] 0 0 0 0 0 []),Own.box b4 ac (Ref12Wrong.mk 0 0)] e C) ?_ ?_
 ·rintro e C ⟨x16,x17,h,hat6⟩
  refine W_at hat6 ?_
  unfold n9 at h
  refine az (W_rs (kMvL rfl (kMv rfl (cg h (bg x1 x16 ([123]:List UInt8)) rfl fun x18 _ h=>kNo rfl ?_))))
  refine a7 h rfl (fun _ h=> ?_) (fun _ h=> ?_)
  ·refine W_rs (kUn (du au st48 rfl) ?_)
   refine kMv rfl (cg h (cb x16) rfl fun x20 _ h=>ak 0 rfl rfl (Upd.refl _) rfl Tryz.sizeOf48 (kAs rfl (ak 1 rfl rfl (Upd.refl _) rfl Tryz.sizeOf76 ?_)))
   obtain rfl:=osj h
   exact ax ⟨rfl,[(rApiNode).val (ApiNode.mk 0 [] [] 0 0 0 0 0 []),Pr.i64 0,(ac).val x20],⟨yBox 0 ty48 aa,yT aa,yBox 1 ty76 aa,trivial⟩,aa⟩
  refine ar (W_rs (kMv rfl (kIn rfl rfl rfl (kAs rfl (W_rs (kAs rfl (az (a4 ?_))))))))
  obtain⟨z4l,hz4,h⟩:=af h
  obtain⟨n4,hN4⟩:=bp hz4
  refine d7 0 (fun e C=>∃(x21:Int),∃(x23:List ApiNode),∃(v22:Value),ref12_class_k3 x1 x2 x17 x21 x23=some r/\At [(0,ap ah x1),(1,Pr.i64 x2),(4,aj b3 0),(6,aj b4 0),(7,Pr.i64 x21),(8,Pr.i64 x17),(9,Pr.is v22)] [Own.box b3 rApiNode (ApiNode.mk 0 [] [] 0 0 0 0 0 []),Own.box b4 ac (Ref12Wrong.mk 0 0),Own.vec v22 rApiNode x23 48] e C) ?_ ?_
  ·rintro e C ⟨x21,x23,v22,h,hat3⟩
   refine W_at hat3 ?_
   unfold ref12_class_k3 at h
   refine W_rs (kMvL rfl (kMv rfl (kMv rfl (kIn rfl rfl rfl (kMv rfl ?_)))))
   obtain⟨x37,hx37,h⟩:=af h
   refine rRel 2 [9,82] ?_ rfl ⟨rfl,rfl,trivial⟩
   refine kUn (dl (dq x1 1 x2 (w64 (x21+1)) x23 _ hx37)) ?_
   refine a8 al48 fun b38=>ak 2 rfl rfl (Upd.refl _) rfl Tryz.sizeOf48 (W_rs (kMvL rfl (kMv rfl (kIn rfl rfl rfl ?_))))
   obtain⟨x39,hx39,h⟩:=af h
   refine kUn (fi Tryz.underlying70 Tryz.sizeOf74 hx39) ?_
   refine kUn (de fld74_1 subApiToken_Text) ?_
   refine kUn (cw ty9) ?_
   refine kUn (av oo) ?_
   refine ak 2 rfl rfl jt rfl Tryz.sizeOf9 (W_rs (kMvL rfl (kMv rfl (kIn rfl rfl rfl ?_))))
   obtain⟨x40,hx40,h⟩:=af h
   refine kUn (fi Tryz.underlying70 Tryz.sizeOf74 hx40) ?_
   refine kUn (de fld74_2 subApiToken_At) ?_
   refine kUn (cw ty3) ?_
   refine kUn (av fld48_6) ?_
   refine ak 2 rfl rfl pl rfl Tryz.sizeOf3 ?_
   refine bj (fun e C=>∃(x44:ApiNode),qk x21 x44=some r/\At [(4,aj b3 0),(6,aj b4 0),(7,Pr.i64 x21),(13,aj b38 0)] [Own.box b3 rApiNode (ApiNode.mk 0 [] [] 0 0 0 0 0 []),Own.box b4 ac (Ref12Wrong.mk 0 0),Own.box b38 rApiNode x44] e C) ?_ ?_
   ·rintro e C ⟨x44,h,hat2⟩
    refine W_at hat2 ?_
    unfold qk at h
    refine bj (fun e C=>∃(x45:Ref12Wrong),ref12_class_j1 x44 x21 x45=some r/\At [(4,aj b3 0),(5,Pr.i64 (w64 (x21+1))),(6,aj b4 0)] [Own.box b3 rApiNode x44,Own.box b4 ac x45,Own.box b38 rApiNode x44] e C) ?_ ?_
    ·rintro e C ⟨x45,h,hat1⟩
     refine W_at hat1 ?_
     unfold ref12_class_j1 at h
     obtain rfl:=osj h
     exact ax ⟨rfl,[(rApiNode).val x44,Pr.i64 (w64 (x21+1)),(ac).val x45],⟨yBox 0 ty48 aa,yT aa,yBox 1 ty76 aa,trivial⟩,aa⟩
    obtain⟨x45,hx45,h⟩:=af h
    refine fb [(4,0,Own.box b3 rApiNode x44),(6,1,Own.box b4 ac x45)] [Own.box b3 rApiNode x44,Own.box b4 ac x45,Own.box b38 rApiNode x44] hmx (by kernel_rfl) (by kernel_rfl) (show([4,6]:List Nat).Nodup by decide) (show([0,1]:List Nat).Nodup by decide) rfl rfl ?_
    refine eq1 (out:=(rApiNode).val x44) (fun C2 hC=>(bb (R:=rApiNode) (a:=x44) (R':=rApiNode) 2 ty48 (Sub.refl _) (hi:=(hC 2 (by kernel_rfl)).trans rfl))) ?_
    refine eq1 (out:=Pr.i64 x21) (fun C2 hC=>jn) ?_
    refine eq1 (out:=Pr.i64 (w64 (x21+1))) (fun C2 hC=>qInt) ?_
    refine eq1 (out:=(ac).val x45) (fun C2 hC=>(dl (cu _ hx45))) ?_
    refine eqS (fun C2 hC=>dr (R:=rApiNode) (R':=rApiNode) (a:=(ApiNode.mk 0 [] [] 0 0 0 0 0 [])) (y:=x44) 0 Tryz.sizeOf48 (Upd.refl _) ((hC 0 (by kernel_rfl)).trans rfl)) ?_
    refine eq1 (out:=Pr.i64 (w64 (x21+1))) (fun C2 hC=>el) ?_
    refine eqS (fun C2 hC=>dr (R:=ac) (R':=ac) (a:=(Ref12Wrong.mk 0 0)) (y:=x45) 1 Tryz.sizeOf76 (Upd.refl _) ((hC 1 (by kernel_rfl)).trans rfl)) ?_
    exact⟨x45,h,atOk⟩
   refine W_rs (kMv rfl (kIn rfl rfl rfl ?_))
   refine a7 h rfl (fun _ h=> ?_) (fun _ h=> ?_)
   ·refine W_rs (kMvL rfl (kMv rfl ?_))
    obtain⟨x42,hx42,h⟩:=af h
    refine kUn (fi Tryz.underlying70 Tryz.sizeOf74 hx42) ?_
    refine kUn (de fld74_1 subApiToken_Text) ?_
    refine kUn (cw ty9) ?_
    refine kUn (av fld48_2) ?_
    refine ak 2 rfl rfl updApiNode_Type rfl Tryz.sizeOf9 (W_r (kMvL rfl (kMv rfl ?_)))
    obtain⟨x43,hx43,h⟩:=af h
    refine kUn (fi Tryz.underlying70 Tryz.sizeOf74 hx43) ?_
    refine kUn (de fld74_2 subApiToken_At) ?_
    refine kUn (cw ty3) ?_
    refine kUn (av fld48_7) ?_
    refine ak 2 rfl rfl updApiNode_TypeAt rfl Tryz.sizeOf3 ?_
    exact⟨{{{{x37 with Text:=x39.Text} with At:=x40.At} with Type_:=x42.Text} with TypeAt:=x43.At},h,atOk⟩
   refine ar ?_
   exact⟨{{x37 with Text:=x39.Text} with At:=x40.At},h,atOk⟩
  refine W_nil [9] rApiNode 48 (fun v46=> ?_) ⟨rfl,trivial⟩
  refine ew (fun m e C=>∃(x21:Int),∃(x23:List ApiNode),∃(v22:Value),ff (fun s=>qj x1 s.1 s.2) m (x21,x23)=some z4l/\At [(0,ap ah x1),(1,Pr.i64 x2),(4,aj b3 0),(6,aj b4 0),(7,Pr.i64 x21),(8,Pr.i64 x17),(9,Pr.is v22)] [Own.box b3 rApiNode (ApiNode.mk 0 [] [] 0 0 0 0 0 []),Own.box b4 ac (Ref12Wrong.mk 0 0),Own.vec v22 rApiNode x23 48] e C) n4 ⟨w64 (x16+1),[],v46,hN4,⟨⟨aa,aa,aa,aa,aa,aa,aa,trivial⟩,Pick.refl _⟩⟩ ?_
  rintro m e C ⟨x21,x23,v22,hN4,hatl4⟩
  refine W_at hatl4 ?_
  obtain⟨m4,w4l,rfl,h4l,hn4,ho4⟩:=bk hN4
  replace h4l:qj x1 x21 x23=some w4l:=h4l
  unfold qj at h4l
  refine az (W_rs (kMvL rfl (kMv rfl (cg h4l (bg x1 x21 ([125]:List UInt8)) rfl fun x27 _ h4l=>kNo rfl ?_))))
  refine a7 h4l rfl (fun _ h4l=> ?_) (fun _ h4l=> ?_)
  ·refine ar (a4 (W_rs (kMvL rfl (kMv rfl ?_))))
   obtain⟨⟨x29,x30,x31⟩,hx29,h4l⟩:=af h4l
   refine kUn (dl (ref12_member_ok x1 x21 _ hx29)) ?_
   refine kUn (hMv (out:=ce [(rApiNode).val x29,Pr.i64 x30,(ac).val x31]) rfl) (kUn ao ?_)
   refine kUn ao ?_
   refine kUn ao ?_
   refine a8 al48 fun b32=> ?_
   refine a8 al76 fun b33=>ak 3 rfl rfl (Upd.refl _) rfl Tryz.sizeOf48 (kAs rfl (ak 4 rfl rfl (Upd.refl _) rfl Tryz.sizeOf76 (az (W_rs (kUn (av kv) ?_)))))
   refine kUn (bb 4 ty3 bq) ?_
   refine kIn rfl rfl rfl ?_
   refine a7 h4l rfl (fun _ h4l=> ?_) (fun _ h4l=> ?_)
   ·refine bj (fun e C=>ref12_class_j5 x31=some w4l/\At [(4,aj b3 0),(5,Pr.i64 0),(6,aj b4 0)] [Own.box b3 rApiNode (ApiNode.mk 0 [] [] 0 0 0 0 0 []),Own.box b4 ac x31,Own.box b32 rApiNode x29,Own.box b33 ac x31] e C) ?_ ?_
    ·rintro e C ⟨h4l,hat5⟩
     refine W_at hat5 ?_
     unfold ref12_class_j5 at h4l
     obtain rfl:=ho4 _ (Option.some.inj h4l).symm
     replace h:some ((ApiNode.mk 0 [] [] 0 0 0 0 0 []),0,x31)=some r:=h
     obtain rfl:=osj h
     exact ax ⟨rfl,[(rApiNode).val (ApiNode.mk 0 [] [] 0 0 0 0 0 []),Pr.i64 0,(ac).val x31],⟨yBox 0 ty48 aa,yT aa,yBox 1 ty76 aa,trivial⟩,aa⟩
    refine fb [(2,0,Own.box b3 rApiNode (ApiNode.mk 0 [] [] 0 0 0 0 0 [])),(4,1,Own.box b4 ac x31)] [Own.box b3 rApiNode (ApiNode.mk 0 [] [] 0 0 0 0 0 []),Own.box b4 ac x31,Own.vec v22 rApiNode x23 48,Own.box b32 rApiNode x29,Own.box b33 ac x31] hmx (by kernel_rfl) (by kernel_rfl) (show([2,4]:List Nat).Nodup by decide) (show([0,1]:List Nat).Nodup by decide) rfl rfl ?_
    refine eq1 (out:=(rApiNode).val (ApiNode.mk 0 [] [] 0 0 0 0 0 [])) (fun C2 hC=>(du au st48 rfl)) ?_
    refine eq1 (out:=(ac).val x31) (fun C2 hC=>(bb (R:=ac) (a:=x31) (R':=ac) 4 ty76 (Sub.refl _) (hi:=(hC 4 (by kernel_rfl)).trans rfl))) ?_
    refine eqS (fun C2 hC=>dr (R:=rApiNode) (R':=rApiNode) (a:=(ApiNode.mk 0 [] [] 0 0 0 0 0 [])) (y:=(ApiNode.mk 0 [] [] 0 0 0 0 0 [])) 0 Tryz.sizeOf48 (Upd.refl _) ((hC 0 (by kernel_rfl)).trans rfl)) ?_
    refine eq1 (out:=Pr.i64 0) (fun C2 hC=>el) ?_
    refine eqS (fun C2 hC=>dr (R:=ac) (R':=ac) (a:=(Ref12Wrong.mk 0 0)) (y:=x31) 1 Tryz.sizeOf76 (Upd.refl _) ((hC 1 (by kernel_rfl)).trans rfl)) ?_
    exact⟨h4l,⟨⟨aa,aa,aa,trivial⟩,Pick.of [0,1,3,4] rfl⟩⟩
   refine ar (W_rs (kMv rfl (kUn (bb 3 ty48 (Sub.refl _)) ?_)))
   refine kUn (bt (R:=rApiNode) (a:=x29) el44 (Nat.le_of_ble_eq_true rfl)) ?_
   obtain⟨x35,hx35,h4l⟩:=af h4l
   refine fg 2 el44 hx35 (fun v36=> ?_)
   refine kAs rfl (W_r (kMv rfl (kAs rfl ?_)))
   exact⟨m4,Nat.lt_succ_self _,x30,x35,v36,hn4 _ (Option.some.inj h4l).symm,⟨⟨aa,aa,aa,aa,aa,aa,aa,trivial⟩,Pick.of [0,1,2] rfl⟩⟩
  refine ej ?_
  obtain rfl:=ho4 _ (Option.some.inj h4l).symm
  exact⟨x21,x23,v22,h,atOk⟩
 refine W_rs (kMvL rfl (kMv rfl (cg h (bg x1 (w64 (x2+2)) ([101,120,116,101,110,100,115]:List UInt8)) rfl fun x11 _ h=> ?_)))
 refine a7 h rfl (fun _ h=> ?_) (fun _ h=> ?_)
 ·refine az (W_rs (kMvL rfl (kMv rfl (kIn rfl rfl rfl (cg h (i5 x1 (w64 ((w64 (x2+2))+1))) rfl fun x13 _ h=>kNo rfl ?_)))))
  refine a7 h rfl (fun _ h=> ?_) (fun _ h=> ?_)
  ·refine W_rs (kUn (du au st48 rfl) ?_)
   refine kMv rfl (kIn rfl rfl rfl (cg h (cb (w64 ((w64 (x2+2))+1))) rfl fun x15 _ h=>ak 0 rfl rfl (Upd.refl _) rfl Tryz.sizeOf48 (kAs rfl (ak 1 rfl rfl (Upd.refl _) rfl Tryz.sizeOf76 ?_))))
   obtain rfl:=osj h
   exact ax ⟨rfl,[(rApiNode).val (ApiNode.mk 0 [] [] 0 0 0 0 0 []),Pr.i64 0,(ac).val x15],⟨yBox 0 ty48 aa,yT aa,yBox 1 ty76 aa,trivial⟩,aa⟩
  refine ar (W_rs (kMv rfl (kIn rfl rfl rfl (kAs rfl (W_r (kMv rfl (kIn rfl rfl rfl (kAs rfl ?_))))))))
  exact⟨w64 ((w64 (x2+2))+2),w64 ((w64 (x2+2))+1),h,atOk⟩
 refine ar ?_
 exact⟨w64 (x2+2),(-1),h,atOk⟩
theorem ref12_mistake_ok (x1:List ApiToken) (x2:Ref12Wrong) (r:ApiMistake) (h:pq x1 x2=some r):FnP Tryz.prog 35 [ap ah x1,(ac).val x2] ((ai).val r):=by
 refine ep (rs:=[.cell 4 28]) Tryz.func35 rfl Tryz.ntmps35 Tryz.results35 (by decide) (fun s0=> ?_)
 unfold pq at h
 refine W_rs ?_
 refine rBox (R:=ac) (a:=x2) rfl (fun b3=> ?_)
 refine a8 al28 fun b4=> ?_
 refine bj (fun e C=>∃(x5:ApiToken),qy x2 x5=some r/\At [(4,aj b4 0)] [Own.box b3 ac x2,Own.box b4 ai (ApiMistake.mk x2.Code 0 x5.At)] e C) ?_ ?_
 ·rintro e C ⟨x5,h,hat1⟩
  refine W_at hat1 ?_
  unfold qy at h
  obtain rfl:=osj h
  exact ax ⟨rfl,[(ai).val (ApiMistake.mk x2.Code 0 x5.At)],⟨yBox 1 ty28 aa,trivial⟩,aa⟩
 refine ib 13 hmx (by kernel_rfl) (by kernel_rfl) ?_
 refine lUn (av fld76_1) ?_
 refine lUn (bb 0 ty26 subRef12Wrong_Code) ?_
 refine lUn (hMvL rfl) (lUn (av kv) ?_)
 refine lUn (bb 0 ty3 bq) ?_
 refine lUn (hMvL rfl) (lUn (mt rfl Tryz.underlying70) ?_)
 refine lUn (qInt rfl rfl rfl) (lUn (qMin (a:=x2.Place) (b:=w64 ((x1.length:Int) - 1))) ?_)
 obtain⟨x5,hx5,h⟩:=af h
 refine lUn (fi Tryz.underlying70 Tryz.sizeOf74 hx5) ?_
 refine lUn (de fld74_2 subApiToken_At) ?_
 refine lUn (cw ty3) ?_
 refine lUn (j8 st28 ⟨(ApiMistake.mk x2.Code 0 0),⟨_,rfl,rfl,fun j fd hj hf=>by match j,hj with| 0,h=>exact absurd rfl h| 1,_=>cases hf;rfl| 2,_=>cases hf;rfl|_+3,_=>cases hf⟩,⟨(ApiMistake.mk x2.Code 0 x5.At),⟨_,rfl,rfl,fun j fd hj hf=>by match j,hj with| 0,_=>cases hf;rfl| 1,_=>cases hf;rfl| 2,h=>exact absurd rfl h|_+3,_=>cases hf⟩,rfl⟩⟩) ?_
 refine ak 1 rfl rfl (Upd.refl _) rfl Tryz.sizeOf28 ?_
 exact⟨x5,h,atOk⟩
def rec_ref11_Depth_spec (R:gp):Prop:=(∀(x1:ApiNode) (r:Int),R x1=some r->FnP Tryz.prog 36 [(rApiNode).val x1] (Pr.i64 r))
theorem F_ref11_Depth_step (R:gp) (ih:rec_ref11_Depth_spec R) (x1:ApiNode) (r:Int) (h:F_ref11_Depth R x1=some r):FnP Tryz.prog 36 [(rApiNode).val x1] (Pr.i64 r):=by
 refine cm (rs:=[2]) Tryz.func36 rfl Tryz.ntmps36 ⟨by decide,Tryz.results36⟩ (by decide) (fun s0=> ?_)
 unfold F_ref11_Depth at h
 refine W_rs ?_
 refine rBox (R:=rApiNode) (a:=x1) rfl (fun b2=> ?_)
 refine kAs rfl (W_rs (kAs rfl (az (W_rs (kAs rfl (a4 ?_))))))
 obtain⟨z2l,hz2,h⟩:=af h
 obtain⟨n2,hN2⟩:=bp hz2
 refine d7 0 (fun e C=>∃(x3:Int),ref11_Depth_k1 R x3=some r/\At [(3,Pr.i64 x3)] [Own.box b2 rApiNode x1] e C) ?_ ?_
 ·rintro e C ⟨x3,h,hat1⟩
  refine W_at hat1 ?_
  unfold ref11_Depth_k1 at h
  refine W_rs (kMv rfl (kIn rfl rfl rfl (kAs rfl ?_)))
  obtain rfl:=osj h
  exact ax ⟨rfl,aa⟩
 refine ew (fun m e C=>∃(x3:Int),∃(x4:Int),ff (fun s=>ob R x1 s.1 s.2) m (x3,x4)=some z2l/\At [(1,aj b2 0),(3,Pr.i64 x3),(4,Pr.i64 x4)] [Own.box b2 rApiNode x1] e C) n2 ⟨0,0,hN2,⟨⟨aa,aa,aa,trivial⟩,Pick.refl _⟩⟩ ?_
 rintro m e C ⟨x3,x4,hN2,hatl2⟩
 refine W_at hatl2 ?_
 obtain⟨m2,w2l,rfl,h2l,hn2,ho2⟩:=bk hN2
 replace h2l:ob R x1 x3 x4=some w2l:=h2l
 unfold ob at h2l
 refine az (W_rs (kMv rfl (kUn (av fld48_8) ?_)))
 refine kUn (bb 0 ty44 mf) ?_
 refine kUn (mt rfl Tryz.underlying44) ?_
 refine kIn rfl rfl rfl ?_
 refine a7 h2l rfl (fun _ h2l=> ?_) (fun _ h2l=> ?_)
 ·refine ar (az (a4 (W_r (kMv rfl (kUn (av fld48_8) ?_)))))
  refine kUn (bb 0 ty44 mf) ?_
  refine kMv rfl ?_
  obtain⟨x8,hx8,h2l⟩:=af h2l
  refine kUn (fi Tryz.underlying44 Tryz.sizeOf48 hx8) ?_
  refine kUn (cw ty48) ?_
  refine cg h2l (ih x8) rfl fun x9 _ h2l=> ?_
  refine kUn (qMax (a:=x3) (b:=x9)) ?_
  refine kAs rfl (W_r (kMv rfl (kIn rfl rfl rfl (kAs rfl ?_))))
  exact⟨m2,Nat.lt_succ_self _,(if x9>x3 then x9 else x3),w64 (x4+1),hn2 _ (Option.some.inj h2l).symm,atOk⟩
 refine ej ?_
 obtain rfl:=ho2 _ (Option.some.inj h2l).symm
 exact⟨x3,h,atOk⟩
theorem rec_ref11_Depth_ok :∀n,rec_ref11_Depth_spec (j3 n):=by
 intro n
 induction n with
 |zero=>exact(fun x1 r h=>nomatch (show none=some r from h))
 |succ n ih=>exact(fun x1 r h=>F_ref11_Depth_step (j3 n) ih x1 r h)
theorem ref11_Depth_ok (x1:ApiNode) (r:Int) (h:ref11_Depth x1=some r):FnP Tryz.prog 36 [(rApiNode).val x1] (Pr.i64 r):=(rec_ref11_Depth_ok 1048576) x1 r h
theorem ref12_File_ok (x1:List UInt8) (r:(List ApiNode) × ApiMistake) (h:ref12_File x1=some r):FnP Tryz.prog 22 [ba x1] (ce [ap rApiNode r.1,(ai).val r.2]):=by
 refine ep (rs:=[.tmp 2,.cell 3 28]) Tryz.func22 rfl Tryz.ntmps22 Tryz.results22 (by decide) (fun s0=> ?_)
 unfold ref12_File at h
 refine W_rs (kAs rfl (a8 al28 fun b2=>W_rs (kMv rfl ?_)))
 obtain⟨⟨x3,x4,x5⟩,hx3,h⟩:=af h
 refine kUn (dl (ref03_Lex_ok x1 _ hx3)) ?_
 refine kUn (hMv (out:=ce [ap ah x3,Pr.i64 x4,Pr.i64 x5]) rfl) (kUn ao ?_)
 refine kUn ao ?_
 refine kUn ao ?_
 refine kAsL rfl (kAs rfl (kAs rfl (az (W_rs (kMv rfl (kIn rfl rfl rfl ?_))))))
 refine a7 h rfl (fun _ h=> ?_) (fun _ h=> ?_)
 ·refine W_rs (kMv rfl (kMv rfl (kUn (j8 st28 ⟨(ApiMistake.mk x5 0 0),⟨_,rfl,rfl,fun j fd hj hf=>by match j,hj with| 0,h=>exact absurd rfl h| 1,_=>cases hf;rfl| 2,_=>cases hf;rfl|_+3,_=>cases hf⟩,⟨(ApiMistake.mk x5 0 x4),⟨_,rfl,rfl,fun j fd hj hf=>by match j,hj with| 0,_=>cases hf;rfl| 1,_=>cases hf;rfl| 2,h=>exact absurd rfl h|_+3,_=>cases hf⟩,rfl⟩⟩) ?_)))
  refine kAs rfl (ak 0 rfl rfl (Upd.refl _) rfl Tryz.sizeOf28 ?_)
  obtain rfl:=osj h
  exact ax ⟨rfl,[ap rApiNode [],(ai).val (ApiMistake.mk x5 0 x4)],⟨yT (cv _),yBox 0 ty28 aa,trivial⟩,aa⟩
 refine ar (W_rs (kAs rfl (W_rs (kAs rfl (az (a4 ?_))))))
 obtain⟨z5l,hz5,h⟩:=af h
 obtain⟨n5,hN5⟩:=bp hz5
 refine d7 0 (fun e C=>∃(x9:List ApiNode),∃(v7:Value),ref12_File_k4 x9=some r/\At [(3,aj b2 0),(7,Pr.is v7)] [Own.box b2 ai (ApiMistake.mk 0 0 0),Own.vec v7 rApiNode x9 48] e C) ?_ ?_
 ·rintro e C ⟨x9,v7,h,hat4⟩
  refine W_at hat4 ?_
  unfold ref12_File_k4 at h
  refine az (W_rs (kAs rfl (a4 ?_)))
  obtain⟨z2l,hz2,h⟩:=af h
  obtain⟨n2,hN2⟩:=bp hz2
  refine d7 2 (fun e C=>ref12_File_k1 x9=some r/\At [(3,aj b2 0),(7,Pr.is v7)] [Own.box b2 ai (ApiMistake.mk 0 0 0),Own.vec v7 rApiNode x9 48] e C) ?_ ?_
  ·rintro e C ⟨h,hat1⟩
   refine W_at hat1 ?_
   unfold ref12_File_k1 at h
   refine W_rs (kMv rfl (kUn (j8 st28 rfl) ?_))
   refine kAs rfl (ak 0 rfl rfl (Upd.refl _) rfl Tryz.sizeOf28 ?_)
   refine W_rel 1 [2] ?_ rfl ⟨rfl,trivial⟩
   obtain rfl:=osj h
   exact ax ⟨rfl,[ap rApiNode x9,(ai).val (ApiMistake.mk 0 0 0)],⟨yT aa,yBox 0 ty28 aa,trivial⟩,aa⟩
  refine ew (fun m e C=>∃(x24:Int),ff (fun s=>dw x9 s) m x24=some z2l/\At [(3,aj b2 0),(7,Pr.is v7),(12,Pr.i64 x24)] [Own.box b2 ai (ApiMistake.mk 0 0 0),Own.vec v7 rApiNode x9 48] e C) n2 ⟨0,hN2,⟨⟨aa,aa,aa,trivial⟩,Pick.refl _⟩⟩ ?_
  rintro m e C ⟨x24,hN2,hatl2⟩
  refine W_at hatl2 ?_
  obtain⟨m2,w2l,rfl,h2l,hn2,ho2⟩:=bk hN2
  replace h2l:dw x9 x24=some w2l:=h2l
  unfold dw at h2l
  refine az (W_rs (kMv rfl (kMv rfl (kUn (qLenV 1 rfl Tryz.underlying44) ?_))))
  refine kIn rfl rfl rfl ?_
  refine a7 h2l rfl (fun _ h2l=> ?_) (fun _ h2l=> ?_)
  ·refine ar (az (a4 (W_rs (kMv rfl (kMv rfl ?_)))))
   obtain⟨x27,hx27,h2l⟩:=af h2l
   refine kUn (qIdxV 1 (R:=rApiNode) (l:=x9) Tryz.underlying44 Tryz.sizeOf48 hx27) ?_
   refine kUn (qLoadV (R:=rApiNode) (R':=rApiNode) (l:=x9) (a:=x27) (o:=0) 1 ty48 (Sub.refl _) (Nat.le_of_ble_eq_true rfl) hx27 rfl) ?_
   refine cg h2l (ref11_Depth_ok x27) rfl fun x28 _ h2l=>kIn rfl rfl rfl ?_
   refine a7 h2l rfl (fun _ h2l=> ?_) (fun _ h2l=> ?_)
   ·refine bj (fun e C=>∃(x30:ApiNode),ref12_File_j3 x30=some w2l/\At [(2,Pr.is (.slice none 0 0)),(3,aj b2 0)] [Own.box b2 ai (ApiMistake.mk 2 0 x30.From)] e C) ?_ ?_
    ·rintro e C ⟨x30,h2l,hat3⟩
     refine W_at hat3 ?_
     unfold ref12_File_j3 at h2l
     obtain rfl:=ho2 _ (Option.some.inj h2l).symm
     replace h:some ([],(ApiMistake.mk 2 0 x30.From))=some r:=h
     obtain rfl:=osj h
     exact ax ⟨rfl,[ap rApiNode [],(ai).val (ApiMistake.mk 2 0 x30.From)],⟨yT (cv _),yBox 0 ty28 aa,trivial⟩,aa⟩
    refine ib 7 hmx (by kernel_rfl) (by kernel_rfl) ?_
    refine lUn (hMvA rfl) (lUn (hMvA rfl) ?_)
    obtain⟨x30,hx30,h2l⟩:=af h2l
    refine lUn (qIdxV 1 (R:=rApiNode) (l:=x9) Tryz.underlying44 Tryz.sizeOf48 hx30) ?_
    refine lUn (qFieldV fld48_4) ?_
    refine lUn (qLoadV (R:=rApiNode) (R':=Rp.int .i64) (l:=x9) (a:=x30) (o:=4) 1 ty3 subApiNode_From (Nat.le_of_ble_eq_true rfl) hx30 rfl) ?_
    refine lUn (j8 st28 ⟨(ApiMistake.mk 2 0 0),⟨_,rfl,rfl,fun j fd hj hf=>by match j,hj with| 0,h=>exact absurd rfl h| 1,_=>cases hf;rfl| 2,_=>cases hf;rfl|_+3,_=>cases hf⟩,⟨(ApiMistake.mk 2 0 x30.From),⟨_,rfl,rfl,fun j fd hj hf=>by match j,hj with| 0,_=>cases hf;rfl| 1,_=>cases hf;rfl| 2,h=>exact absurd rfl h|_+3,_=>cases hf⟩,rfl⟩⟩) ?_
    refine lUn (hAsA rfl) (ak 0 rfl rfl (Upd.refl _) rfl Tryz.sizeOf28 ?_)
    exact⟨x30,h2l,⟨⟨aa,aa,trivial⟩,Pick.of [0] rfl⟩⟩
   refine ar (W_r (kMv rfl (kIn rfl rfl rfl (kAs rfl ?_))))
   exact⟨m2,Nat.lt_succ_self _,w64 (x24+1),hn2 _ (Option.some.inj h2l).symm,atOk⟩
  refine ej ?_
  obtain rfl:=ho2 _ (Option.some.inj h2l).symm
  exact⟨h,atOk⟩
 refine W_nil [7] rApiNode 48 (fun v31=> ?_) ⟨rfl,trivial⟩
 refine ew (fun m e C=>∃(x8:Int),∃(x9:List ApiNode),∃(v7:Value),ff (fun s=>ig x3 s.1 s.2) m (x8,x9)=some z5l/\At [(3,aj b2 0),(4,ap ah x3),(7,Pr.is v7),(8,Pr.i64 x8)] [Own.box b2 ai (ApiMistake.mk 0 0 0),Own.vec v7 rApiNode x9 48] e C) n5 ⟨0,[],v31,hN5,⟨⟨aa,aa,aa,aa,trivial⟩,Pick.refl _⟩⟩ ?_
 rintro m e C ⟨x8,x9,v7,hN5,hatl5⟩
 refine W_at hatl5 ?_
 obtain⟨m5,w5l,rfl,h5l,hn5,ho5⟩:=bk hN5
 replace h5l:ig x3 x8 x9=some w5l:=h5l
 unfold ig at h5l
 refine az (W_rs (kMvL rfl (kMv rfl ?_)))
 obtain⟨x13,hx13,h5l⟩:=af h5l
 refine kUn (fi Tryz.underlying70 Tryz.sizeOf74 hx13) ?_
 refine kUn (de qc dn) ?_
 refine kUn (cw ty3) ?_
 refine kIn rfl rfl rfl ?_
 refine a7 h5l rfl (fun _ h5l=> ?_) (fun _ h5l=> ?_)
 ·refine ar (a4 (W_rs (kMvL rfl (kMv rfl ?_))))
  obtain⟨⟨x15,x16,x17⟩,hx15,h5l⟩:=af h5l
  refine kUn (dl (ref12_class_ok x3 x8 _ hx15)) ?_
  refine kUn (hMv (out:=ce [(rApiNode).val x15,Pr.i64 x16,(ac).val x17]) rfl) (kUn ao ?_)
  refine kUn ao ?_
  refine kUn ao ?_
  refine a8 al48 fun b18=> ?_
  refine a8 al76 fun b19=>ak 2 rfl rfl (Upd.refl _) rfl Tryz.sizeOf48 (kAs rfl (ak 3 rfl rfl (Upd.refl _) rfl Tryz.sizeOf76 (az (W_rs (kUn (av kv) ?_)))))
  refine kUn (bb 3 ty3 bq) ?_
  refine kIn rfl rfl rfl ?_
  refine a7 h5l rfl (fun _ h5l=> ?_) (fun _ h5l=> ?_)
  ·refine W_rs (kMvL rfl (kUn (bb 3 ty76 (Sub.refl _)) ?_))
   refine cg h5l (ref12_mistake_ok x3 x17) rfl fun x21 _ h5l=>kAs rfl (ak 0 rfl rfl (Upd.refl _) rfl Tryz.sizeOf28 ?_)
   obtain rfl:=ho5 _ (Option.some.inj h5l).symm
   replace h:some ([],x21)=some r:=h
   obtain rfl:=osj h
   exact ax ⟨rfl,[ap rApiNode [],(ai).val x21],⟨yT (cv _),yBox 0 ty28 aa,trivial⟩,aa⟩
  refine ar (W_rs (kMv rfl (kUn (bb 2 ty48 (Sub.refl _)) ?_)))
  refine kUn (bt (R:=rApiNode) (a:=x15) el44 (Nat.le_of_ble_eq_true rfl)) ?_
  obtain⟨x22,hx22,h5l⟩:=af h5l
  refine fg 1 el44 hx22 (fun v23=> ?_)
  refine kAs rfl (W_r (kMv rfl (kAs rfl ?_)))
  exact⟨m5,Nat.lt_succ_self _,x16,x22,v23,hn5 _ (Option.some.inj h5l).symm,⟨⟨aa,aa,aa,aa,trivial⟩,Pick.of [0,1] rfl⟩⟩
 refine ej ?_
 obtain rfl:=ho5 _ (Option.some.inj h5l).symm
 exact⟨x9,v7,h,atOk⟩
end Go.Proofs.YteablckbgpogiaaGreatDoor
