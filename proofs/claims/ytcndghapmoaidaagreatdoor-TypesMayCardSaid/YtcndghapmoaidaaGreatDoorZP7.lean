/- The code comes to what these functions say (printed by wip/gen/gen.py). -/
import Derived.Test.YtcndghapmoaidaaGreatDoorZX
import Derived.Test.YtcndghapmoaidaaGreatDoorZP6
import Derived.Test.YtcndghapmoaidaaGreatDoorZT
set_option linter.unusedSimpArgs false
set_option linter.unusedVariables false
set_option linter.unusedSectionVars false
set_option linter.unusedSectionVars false
set_option maxRecDepth 100000
set_option maxHeartbeats 4000000
namespace Go.Proofs.YtcndghapmoaidaaGreatDoor
open Go Go.Cn
attribute [local irreducible] eg ar
def lz (R:co):Prop:=(∀(x1:List ApiToken) (x2:Int) (x3:Int) (r:ApiNode × Int × Ref12Wrong),R.1 x1 x2 x3=some r->FnP Tryz.prog 140 [ar cf x1,Pr.i64 x2,Pr.i64 x3] (br [(af).val r.1,Pr.i64 r.2.1,(ah).val r.2.2]))/\(∀(x1:List ApiToken) (x2:Int) (x3:Int) (r:ApiNode × Int × Ref12Wrong),R.2.1 x1 x2 x3=some r->FnP Tryz.prog 169 [ar cf x1,Pr.i64 x2,Pr.i64 x3] (br [(af).val r.1,Pr.i64 r.2.1,(ah).val r.2.2]))/\(∀(x1:List ApiToken) (x2:Int) (x3:Int) (r:ApiNode × Int × Ref12Wrong),R.2.2 x1 x2 x3=some r->FnP Tryz.prog 180 [ar cf x1,Pr.i64 x2,Pr.i64 x3] (br [(af).val r.1,Pr.i64 r.2.1,(ah).val r.2.2]))
theorem F_ref12_block_step (R:co) (ih:lz R) (x1:List ApiToken) (x2 x3:Int) (r:ApiNode × Int × Ref12Wrong) (h:F_ref12_block R x1 x2 x3=some r):FnP Tryz.prog 140 [ar cf x1,Pr.i64 x2,Pr.i64 x3] (br [(af).val r.1,Pr.i64 r.2.1,(ah).val r.2.2]):=by
 refine c7 (rs:=[.cell 6 64,.tmp 7,.cell 8 97]) Tryz.func140 rfl Tryz.ntmps140 Tryz.results140 (by decide) (fun s0=> ?_)
 unfold F_ref12_block at h
 refine W_rs (bw al64 fun b4=>kAs rfl (bw al97 fun b5=>ba (W_rs (kMvL rfl (kMv rfl (ct h (cc x1 x2 ([123]:List UInt8)) rfl fun x6 _ h=>kNo rfl ?_))))))
 refine a8 h rfl (fun _ h=> ?_) (fun _ h=> ?_)
 ·refine W_rs (kUn (dp bm st64 rfl) ?_)
  refine kMv rfl (ct h (cp x2) rfl fun x8 _ h=>ax 0 rfl rfl (Upd.refl _) rfl Tryz.sizeOf64 (kAs rfl (ax 1 rfl rfl (Upd.refl _) rfl Tryz.sizeOf97 ?_)))
  obtain rfl:=osj h
  exact bh ⟨rfl,[(af).val (ApiNode.mk 0 [] [] 0 0 0 0 0 []),Pr.i64 0,(ah).val x8],⟨yBox 0 ty64 aa,yT aa,yBox 1 ty97 aa,trivial⟩,aa⟩
 refine az (W_rs (kAs rfl (W_rs (kMv rfl (kIn rfl rfl rfl (kAs rfl (ba (a5 ?_))))))))
 obtain⟨z2l,hz2,h⟩:=aj h
 obtain⟨n2,hN2⟩:=bt hz2
 refine cv 0 (fun e C=>∃(x10:Int),∃(x11:List ApiNode),∃(v9:Value),ref12_block_k1 R x1 x2 x10 x11=some r/\At [(0,ar cf x1),(1,Pr.i64 x2),(6,ao b4 0),(8,ao b5 0),(9,Pr.is v9),(10,Pr.i64 x10)] [Own.box b4 af (ApiNode.mk 0 [] [] 0 0 0 0 0 []),Own.box b5 ah (Ref12Wrong.mk 0 0),Own.vec v9 af x11 64] e C) ?_ ?_
 ·rintro e C ⟨x10,x11,v9,h,hat1⟩
  refine W_at hat1 ?_
  unfold ref12_block_k1 at h
  refine W_rs (kMvL rfl (kMv rfl (kMv rfl (kIn rfl rfl rfl (kMv rfl ?_)))))
  obtain⟨x34,hx34,h⟩:=aj h
  refine rRel 2 [9,67] ?_ rfl ⟨rfl,rfl,trivial⟩
  refine kUn (c5 (dj x1 5 x2 (w64 (x10+1)) x11 _ hx34)) ?_
  refine kMv rfl (kIn rfl rfl rfl (ct h (c3) rfl fun x35 _ h=>ax 0 rfl rfl (Upd.refl _) rfl Tryz.sizeOf64 (kAs rfl (ax 1 rfl rfl (Upd.refl _) rfl Tryz.sizeOf97 ?_))))
  obtain rfl:=osj h
  exact bh ⟨rfl,[(af).val x34,Pr.i64 (w64 (x10+1)),(ah).val x35],⟨yBox 0 ty64 aa,yT aa,yBox 1 ty97 aa,trivial⟩,aa⟩
 refine W_nil [9] af 64 (fun v36=> ?_) ⟨rfl,trivial⟩
 refine da (fun m e C=>∃(x10:Int),∃(x11:List ApiNode),∃(v9:Value),dn (fun s=>ref12_block_l2 R x1 x3 s.1 s.2) m (x10,x11)=some z2l/\At [(0,ar cf x1),(1,Pr.i64 x2),(2,Pr.i64 x3),(6,ao b4 0),(8,ao b5 0),(9,Pr.is v9),(10,Pr.i64 x10)] [Own.box b4 af (ApiNode.mk 0 [] [] 0 0 0 0 0 []),Own.box b5 ah (Ref12Wrong.mk 0 0),Own.vec v9 af x11 64] e C) n2 ⟨w64 (x2+1),[],v36,hN2,⟨⟨aa,aa,aa,aa,aa,aa,aa,trivial⟩,Pick.refl _⟩⟩ ?_
 rintro m e C ⟨x10,x11,v9,hN2,hatl2⟩
 refine W_at hatl2 ?_
 obtain⟨m2,w2l,rfl,h2l,hn2,ho2⟩:=bk hN2
 replace h2l:ref12_block_l2 R x1 x3 x10 x11=some w2l:=h2l
 unfold ref12_block_l2 at h2l
 refine ba (W_rs (kMvL rfl (kMv rfl (ct h2l (cc x1 x10 ([125]:List UInt8)) rfl fun x15 _ h2l=>kNo rfl ?_))))
 refine a8 h2l rfl (fun _ h2l=> ?_) (fun _ h2l=> ?_)
 ·refine az (a5 (W_rs (bw al64 fun b17=>W_rs (bw al97 fun b18=>W_rs (kAs rfl ?_)))))
  refine bj (fun e C=>∃(x28:Int),∃(x29:ApiNode),∃(x30:Ref12Wrong),qv R x11 x28 x29 x30=some w2l/\At [(0,ar cf x1),(1,Pr.i64 x2),(2,Pr.i64 x3),(6,ao b4 0),(8,ao b5 0),(9,Pr.is v9),(11,ao b17 0),(12,ao b18 0),(13,Pr.i64 x28)] [Own.box b4 af (ApiNode.mk 0 [] [] 0 0 0 0 0 []),Own.box b5 ah (Ref12Wrong.mk 0 0),Own.vec v9 af x11 64,Own.box b17 af x29,Own.box b18 ah x30] e C) ?_ ?_
  ·rintro e C ⟨x28,x29,x30,h2l,hat4⟩
   refine W_at hat4 ?_
   unfold qv at h2l
   refine ba (W_rs (kUn (ak j3) ?_))
   refine kUn (au 4 ty3 cg) ?_
   refine kIn rfl rfl rfl ?_
   refine a8 h2l rfl (fun _ h2l=> ?_) (fun _ h2l=> ?_)
   ·refine bj (fun e C=>ref12_block_j3 R x30=some w2l/\At [(6,ao b4 0),(7,Pr.i64 0),(8,ao b5 0)] [Own.box b4 af (ApiNode.mk 0 [] [] 0 0 0 0 0 []),Own.box b5 ah x30,Own.box b17 af x29,Own.box b18 ah x30] e C) ?_ ?_
    ·rintro e C ⟨h2l,hat3⟩
     refine W_at hat3 ?_
     unfold ref12_block_j3 at h2l
     obtain rfl:=ho2 _ (Option.some.inj h2l).symm
     replace h:some ((ApiNode.mk 0 [] [] 0 0 0 0 0 []),0,x30)=some r:=h
     obtain rfl:=osj h
     exact bh ⟨rfl,[(af).val (ApiNode.mk 0 [] [] 0 0 0 0 0 []),Pr.i64 0,(ah).val x30],⟨yBox 0 ty64 aa,yT aa,yBox 1 ty97 aa,trivial⟩,aa⟩
    refine dy [(2,0,Own.box b4 af (ApiNode.mk 0 [] [] 0 0 0 0 0 [])),(4,1,Own.box b5 ah x30)] [Own.box b4 af (ApiNode.mk 0 [] [] 0 0 0 0 0 []),Own.box b5 ah x30,Own.vec v9 af x11 64,Own.box b17 af x29,Own.box b18 ah x30] hmx (by kernel_rfl) (by kernel_rfl) (show([2,4]:List Nat).Nodup by decide) (show([0,1]:List Nat).Nodup by decide) rfl rfl ?_
    refine eq1 (out:=(af).val (ApiNode.mk 0 [] [] 0 0 0 0 0 [])) (fun C2 hC=>(dp bm st64 rfl)) ?_
    refine eq1 (out:=(ah).val x30) (fun C2 hC=>(au (R:=ah) (a:=x30) (R':=ah) 4 ty97 (Sub.refl _) (hi:=(hC 4 (by kernel_rfl)).trans rfl))) ?_
    refine eqS (fun C2 hC=>dk (R:=af) (R':=af) (a:=(ApiNode.mk 0 [] [] 0 0 0 0 0 [])) (y:=(ApiNode.mk 0 [] [] 0 0 0 0 0 [])) 0 Tryz.sizeOf64 (Upd.refl _) ((hC 0 (by kernel_rfl)).trans rfl)) ?_
    refine eq1 (out:=Pr.i64 0) (fun C2 hC=>dz) ?_
    refine eqS (fun C2 hC=>dk (R:=ah) (R':=ah) (a:=(Ref12Wrong.mk 0 0)) (y:=x30) 1 Tryz.sizeOf97 (Upd.refl _) ((hC 1 (by kernel_rfl)).trans rfl)) ?_
    exact⟨h2l,⟨⟨aa,aa,aa,trivial⟩,Pick.of [0,1,3,4] rfl⟩⟩
   refine az (W_rs (kMv rfl (kUn (au 3 ty64 (Sub.refl _)) ?_)))
   refine kUn (cr (R:=af) (a:=x29) el53 (Nat.le_of_ble_eq_true rfl)) ?_
   obtain⟨x32,hx32,h2l⟩:=aj h2l
   refine ff 2 el53 hx32 (fun v33=> ?_)
   refine kAs rfl (W_r (kMv rfl (kAs rfl ?_)))
   exact⟨m2,Nat.lt_succ_self _,x28,x32,v33,hn2 _ (Option.some.inj h2l).symm,⟨⟨aa,aa,aa,aa,aa,aa,aa,trivial⟩,Pick.of [0,1,2] rfl⟩⟩
  refine W_rs (kMvL rfl (kMv rfl (ct h2l (ref12_local_ok x1 x10) rfl fun x19 _ h2l=> ?_)))
  refine a8 h2l rfl (fun _ h2l=> ?_) (fun _ h2l=> ?_)
  ·refine W_rs (kMvL rfl (kMv rfl (kMv rfl (kIn rfl rfl rfl ?_))))
   obtain⟨⟨x21,x22,x23⟩,hx21,h2l⟩:=aj h2l
   refine kUn (c5 (ref12_locals_ok x1 x10 (w64 (x3+1)) _ hx21)) ?_
   refine kUn (hMv (out:=br [(af).val x21,Pr.i64 x22,(ah).val x23]) rfl) (kUn aw ?_)
   refine kUn aw ?_
   refine kUn aw ?_
   refine ax 3 rfl rfl (Upd.refl _) rfl Tryz.sizeOf64 (kAs rfl (ax 4 rfl rfl (Upd.refl _) rfl Tryz.sizeOf97 (W_rs (kMv rfl (kIn rfl rfl rfl (kIn rfl rfl rfl ?_))))))
   refine a8 h2l rfl (fun _ h2l=> ?_) (fun _ h2l=> ?_)
   ·refine W_r (kMv rfl (kUn (fu st97 ⟨(Ref12Wrong.mk x10 0),⟨_,rfl,rfl,fun j fd hj hf=>by match j,hj with| 0,h=>exact absurd rfl h| 1,_=>cases hf;rfl|_+2,_=>cases hf⟩,⟨(Ref12Wrong.mk x10 2),⟨_,rfl,rfl,fun j fd hj hf=>by match j,hj with| 0,_=>cases hf;rfl| 1,h=>exact absurd rfl h|_+2,_=>cases hf⟩,rfl⟩⟩) ?_))
    refine ax 4 rfl rfl (Upd.refl _) rfl Tryz.sizeOf97 ?_
    exact⟨x22,x21,(Ref12Wrong.mk x10 2),h2l,atOk⟩
   refine az ?_
   exact⟨x22,x21,x23,h2l,atOk⟩
  refine W_r (kMvL rfl (kMv rfl (kMv rfl (kIn rfl rfl rfl ?_))))
  obtain⟨⟨x25,x26,x27⟩,hx25,h2l⟩:=aj h2l
  refine kUn (c5 (ih.2.1 x1 x10 (w64 (x3+1)) _ hx25)) ?_
  refine kUn (hMv (out:=br [(af).val x25,Pr.i64 x26,(ah).val x27]) rfl) (kUn aw ?_)
  refine kUn aw ?_
  refine kUn aw ?_
  refine ax 3 rfl rfl (Upd.refl _) rfl Tryz.sizeOf64 (kAs rfl (ax 4 rfl rfl (Upd.refl _) rfl Tryz.sizeOf97 ?_))
  exact⟨x26,x25,x27,h2l,atOk⟩
 refine db ?_
 obtain rfl:=ho2 _ (Option.some.inj h2l).symm
 exact⟨x10,x11,v9,h,atOk⟩
theorem F_ref12_statement_step (R:co) (ih:lz R) (x1:List ApiToken) (x2 x3:Int) (r:ApiNode × Int × Ref12Wrong) (h:F_ref12_statement R x1 x2 x3=some r):FnP Tryz.prog 169 [ar cf x1,Pr.i64 x2,Pr.i64 x3] (br [(af).val r.1,Pr.i64 r.2.1,(ah).val r.2.2]):=by
 refine c7 (rs:=[.cell 6 64,.tmp 7,.cell 8 97]) Tryz.func169 rfl Tryz.ntmps169 Tryz.results169 (by decide) (fun s0=> ?_)
 unfold F_ref12_statement at h
 refine W_rs (bw al64 fun b4=>kAs rfl (bw al97 fun b5=>ba (W_rs (kMv rfl (kIn rfl rfl rfl ?_)))))
 refine a8 h rfl (fun _ h=> ?_) (fun _ h=> ?_)
 ·refine W_rs (kUn (dp bm st64 rfl) ?_)
  refine kMv rfl (kUn (fu st97 ⟨(Ref12Wrong.mk x2 0),⟨_,rfl,rfl,fun j fd hj hf=>by match j,hj with| 0,h=>exact absurd rfl h| 1,_=>cases hf;rfl|_+2,_=>cases hf⟩,⟨(Ref12Wrong.mk x2 2),⟨_,rfl,rfl,fun j fd hj hf=>by match j,hj with| 0,_=>cases hf;rfl| 1,h=>exact absurd rfl h|_+2,_=>cases hf⟩,rfl⟩⟩) ?_)
  refine ax 0 rfl rfl (Upd.refl _) rfl Tryz.sizeOf64 (kAs rfl (ax 1 rfl rfl (Upd.refl _) rfl Tryz.sizeOf97 ?_))
  obtain rfl:=osj h
  exact bh ⟨rfl,[(af).val (ApiNode.mk 0 [] [] 0 0 0 0 0 []),Pr.i64 0,(ah).val (Ref12Wrong.mk x2 2)],⟨yBox 0 ty64 aa,yT aa,yBox 1 ty97 aa,trivial⟩,aa⟩
 refine az (ba (a5 (W_rs (kMvL rfl (kMv rfl (ct h (cc x1 x2 ([123]:List UInt8)) rfl fun x7 _ h=>kAs rfl ?_))))))
 refine a8 h rfl (fun _ h=> ?_) (fun _ h=> ?_)
 ·refine W_rs (kMvL rfl (kMv rfl (kMv rfl ?_)))
  obtain⟨⟨x9,x10,x11⟩,hx9,h⟩:=aj h
  refine kUn (c5 (ih.1 x1 x2 x3 _ hx9)) ?_
  refine kUn aw ?_
  refine kUn aw ?_
  refine kUn aw ?_
  refine ax 0 rfl rfl (Upd.refl _) rfl Tryz.sizeOf64 (kAs rfl (ax 1 rfl rfl (Upd.refl _) rfl Tryz.sizeOf97 ?_))
  obtain rfl:=osj h
  exact bh ⟨rfl,[(af).val x9,Pr.i64 x10,(ah).val x11],⟨yBox 0 ty64 aa,yT aa,yBox 1 ty97 aa,trivial⟩,aa⟩
 refine bj (fun e C=>∃(x15:Bool),od R x1 x2 x3 x15=some r/\At [(0,ar cf x1),(1,Pr.i64 x2),(2,Pr.i64 x3),(6,ao b4 0),(8,ao b5 0),(33,Pr.bool x15)] [Own.box b4 af (ApiNode.mk 0 [] [] 0 0 0 0 0 []),Own.box b5 ah (Ref12Wrong.mk 0 0)] e C) ?_ ?_
 ·rintro e C ⟨x15,h,hat5⟩
  refine W_at hat5 ?_
  unfold od at h
  refine a8 h rfl (fun _ h=> ?_) (fun _ h=> ?_)
  ·refine W_rs (kMvL rfl (kMv rfl (kMv rfl ?_)))
   obtain⟨⟨x17,x18,x19⟩,hx17,h⟩:=aj h
   refine kUn (c5 (ih.2.2 x1 x2 x3 _ hx17)) ?_
   refine kUn aw ?_
   refine kUn aw ?_
   refine kUn aw ?_
   refine ax 0 rfl rfl (Upd.refl _) rfl Tryz.sizeOf64 (kAs rfl (ax 1 rfl rfl (Upd.refl _) rfl Tryz.sizeOf97 ?_))
   obtain rfl:=osj h
   exact bh ⟨rfl,[(af).val x17,Pr.i64 x18,(ah).val x19],⟨yBox 0 ty64 aa,yT aa,yBox 1 ty97 aa,trivial⟩,aa⟩
  refine bj (fun e C=>∃(x23:Bool),oe R x1 x2 x3 x23=some r/\At [(0,ar cf x1),(1,Pr.i64 x2),(2,Pr.i64 x3),(6,ao b4 0),(8,ao b5 0),(47,Pr.bool x23)] [Own.box b4 af (ApiNode.mk 0 [] [] 0 0 0 0 0 []),Own.box b5 ah (Ref12Wrong.mk 0 0)] e C) ?_ ?_
  ·rintro e C ⟨x23,h,hat4⟩
   refine W_at hat4 ?_
   unfold oe at h
   refine a8 h rfl (fun _ h=> ?_) (fun _ h=> ?_)
   ·refine W_rs (kMvL rfl (kMv rfl (kMv rfl ?_)))
    obtain⟨⟨x25,x26,x27⟩,hx25,h⟩:=aj h
    refine kUn (c5 (ref12_simple_ok x1 x2 x3 _ hx25)) ?_
    refine kUn aw ?_
    refine kUn aw ?_
    refine kUn aw ?_
    refine ax 0 rfl rfl (Upd.refl _) rfl Tryz.sizeOf64 (kAs rfl (ax 1 rfl rfl (Upd.refl _) rfl Tryz.sizeOf97 ?_))
    obtain rfl:=osj h
    exact bh ⟨rfl,[(af).val x25,Pr.i64 x26,(ah).val x27],⟨yBox 0 ty64 aa,yT aa,yBox 1 ty97 aa,trivial⟩,aa⟩
   refine az (W_rs (kMvL rfl (kMv rfl (kMv rfl (kIn rfl rfl rfl ?_)))))
   obtain⟨⟨x28,x29,x30⟩,hx28,h⟩:=aj h
   refine kUn (c5 (j8 x1 x2 (w64 (x3+1)) _ hx28)) ?_
   refine kUn (hMv (out:=br [(af).val x28,Pr.i64 x29,(ah).val x30]) rfl) (kUn aw ?_)
   refine kUn aw ?_
   refine kUn aw ?_
   refine bw al64 fun b31=> ?_
   refine bw al97 fun b32=>ax 2 rfl rfl (Upd.refl _) rfl Tryz.sizeOf64 (kAs rfl (ax 3 rfl rfl (Upd.refl _) rfl Tryz.sizeOf97 (ba (W_rs (kUn (ak j3) ?_)))))
   refine kUn (au 3 ty3 cg) ?_
   refine kIn rfl rfl rfl ?_
   refine a8 h rfl (fun _ h=> ?_) (fun _ h=> ?_)
   ·refine bj (fun e C=>ref12_statement_j1 R x30=some r/\At [(6,ao b4 0),(7,Pr.i64 0),(8,ao b5 0)] [Own.box b4 af (ApiNode.mk 0 [] [] 0 0 0 0 0 []),Own.box b5 ah x30,Own.box b31 af x28,Own.box b32 ah x30] e C) ?_ ?_
    ·rintro e C ⟨h,hat1⟩
     refine W_at hat1 ?_
     unfold ref12_statement_j1 at h
     obtain rfl:=osj h
     exact bh ⟨rfl,[(af).val (ApiNode.mk 0 [] [] 0 0 0 0 0 []),Pr.i64 0,(ah).val x30],⟨yBox 0 ty64 aa,yT aa,yBox 1 ty97 aa,trivial⟩,aa⟩
    refine dy [(2,0,Own.box b4 af (ApiNode.mk 0 [] [] 0 0 0 0 0 [])),(4,1,Own.box b5 ah x30)] [Own.box b4 af (ApiNode.mk 0 [] [] 0 0 0 0 0 []),Own.box b5 ah x30,Own.box b31 af x28,Own.box b32 ah x30] hmx (by kernel_rfl) (by kernel_rfl) (show([2,4]:List Nat).Nodup by decide) (show([0,1]:List Nat).Nodup by decide) rfl rfl ?_
    refine eq1 (out:=(af).val (ApiNode.mk 0 [] [] 0 0 0 0 0 [])) (fun C2 hC=>(dp bm st64 rfl)) ?_
    refine eq1 (out:=(ah).val x30) (fun C2 hC=>(au (R:=ah) (a:=x30) (R':=ah) 3 ty97 (Sub.refl _) (hi:=(hC 3 (by kernel_rfl)).trans rfl))) ?_
    refine eqS (fun C2 hC=>dk (R:=af) (R':=af) (a:=(ApiNode.mk 0 [] [] 0 0 0 0 0 [])) (y:=(ApiNode.mk 0 [] [] 0 0 0 0 0 [])) 0 Tryz.sizeOf64 (Upd.refl _) ((hC 0 (by kernel_rfl)).trans rfl)) ?_
    refine eq1 (out:=Pr.i64 0) (fun C2 hC=>dz) ?_
    refine eqS (fun C2 hC=>dk (R:=ah) (R':=ah) (a:=(Ref12Wrong.mk 0 0)) (y:=x30) 1 Tryz.sizeOf97 (Upd.refl _) ((hC 1 (by kernel_rfl)).trans rfl)) ?_
    exact⟨h,atOk⟩
   refine az (W_rs (kAs rfl (W_rs (kUn (au 2 ty64 (Sub.refl _)) ?_))))
   refine rBuildV (R:=af) (ls:=([x28]:List ApiNode)) el53 (Nat.le_of_ble_eq_true rfl) ⟨rfl,rfl⟩ ⟨rfl,trivial⟩ (fun v34=> ?_)
   refine kAs rfl ?_
   refine bj (fun e C=>∃(x45:Int),∃(x46:Int),∃(x48:List ApiNode),∃(v47:Value),og R x1 x2 x45 x46 x48=some r/\At [(0,ar cf x1),(1,Pr.i64 x2),(6,ao b4 0),(8,ao b5 0),(10,Pr.i64 x45),(12,Pr.i64 x46),(13,Pr.is v47)] [Own.box b4 af (ApiNode.mk 0 [] [] 0 0 0 0 0 []),Own.box b5 ah (Ref12Wrong.mk 0 0),Own.box b31 af x28,Own.box b32 ah x30,Own.vec v47 af x48 64] e C) ?_ ?_
   ·rintro e C ⟨x45,x46,x48,v47,h,hat2⟩
    refine W_at hat2 ?_
    unfold og at h
    refine ba (W_rs (kMvL rfl (kMv rfl (ct h (cc x1 x45 ([59]:List UInt8)) rfl fun x49 _ h=>kNo rfl ?_))))
    refine a8 h rfl (fun _ h=> ?_) (fun _ h=> ?_)
    ·refine W_rs (kUn (dp bm st64 rfl) ?_)
     refine kMv rfl (ct h (cp x45) rfl fun x51 _ h=>ax 0 rfl rfl (Upd.refl _) rfl Tryz.sizeOf64 (kAs rfl (ax 1 rfl rfl (Upd.refl _) rfl Tryz.sizeOf97 ?_)))
     obtain rfl:=osj h
     exact bh ⟨rfl,[(af).val (ApiNode.mk 0 [] [] 0 0 0 0 0 []),Pr.i64 0,(ah).val x51],⟨yBox 0 ty64 aa,yT aa,yBox 1 ty97 aa,trivial⟩,aa⟩
    refine az (W_rs (kMvL rfl (kMv rfl (kMv rfl (kMv rfl (kIn rfl rfl rfl (kMv rfl ?_)))))))
    obtain⟨x52,hx52,h⟩:=aj h
    refine rRel 4 [13,112] ?_ rfl ⟨rfl,rfl,trivial⟩
    refine kUn (c5 (dj x1 x46 x2 (w64 (x45+1)) x48 _ hx52)) ?_
    refine kMv rfl (kIn rfl rfl rfl (ct h (c3) rfl fun x53 _ h=>ax 0 rfl rfl (Upd.refl _) rfl Tryz.sizeOf64 (kAs rfl (ax 1 rfl rfl (Upd.refl _) rfl Tryz.sizeOf97 ?_))))
    obtain rfl:=osj h
    exact bh ⟨rfl,[(af).val x52,Pr.i64 (w64 (x45+1)),(ah).val x53],⟨yBox 0 ty64 aa,yT aa,yBox 1 ty97 aa,trivial⟩,aa⟩
   refine W_rs (kMvL rfl (kMv rfl (ct h (cc x1 x29 ([61]:List UInt8)) rfl fun x35 _ h=> ?_)))
   refine a8 h rfl (fun _ h=> ?_) (fun _ h=> ?_)
   ·refine W_rs (kMvL rfl (kMv rfl (kIn rfl rfl rfl (kMv rfl (kIn rfl rfl rfl ?_)))))
    obtain⟨⟨x37,x38,x39⟩,hx37,h⟩:=aj h
    refine kUn (c5 (j8 x1 (w64 (x29+1)) (w64 (x3+1)) _ hx37)) ?_
    refine kUn (hMv (out:=br [(af).val x37,Pr.i64 x38,(ah).val x39]) rfl) (kUn aw ?_)
    refine kUn aw ?_
    refine kUn aw ?_
    refine bw al64 fun b40=> ?_
    refine bw al97 fun b41=>ax 5 rfl rfl (Upd.refl _) rfl Tryz.sizeOf64 (kAs rfl (ax 6 rfl rfl (Upd.refl _) rfl Tryz.sizeOf97 (ba (W_rs (kUn (ak j3) ?_)))))
    refine kUn (au 6 ty3 cg) ?_
    refine kIn rfl rfl rfl ?_
    refine a8 h rfl (fun _ h=> ?_) (fun _ h=> ?_)
    ·refine bj (fun e C=>ref12_statement_j3 R x39=some r/\At [(6,ao b4 0),(7,Pr.i64 0),(8,ao b5 0)] [Own.box b4 af (ApiNode.mk 0 [] [] 0 0 0 0 0 []),Own.box b5 ah x39,Own.box b31 af x28,Own.box b32 ah x30,Own.box b40 af x37,Own.box b41 ah x39] e C) ?_ ?_
     ·rintro e C ⟨h,hat3⟩
      refine W_at hat3 ?_
      unfold ref12_statement_j3 at h
      obtain rfl:=osj h
      exact bh ⟨rfl,[(af).val (ApiNode.mk 0 [] [] 0 0 0 0 0 []),Pr.i64 0,(ah).val x39],⟨yBox 0 ty64 aa,yT aa,yBox 1 ty97 aa,trivial⟩,aa⟩
     refine dy [(2,0,Own.box b4 af (ApiNode.mk 0 [] [] 0 0 0 0 0 [])),(4,1,Own.box b5 ah x39)] [Own.box b4 af (ApiNode.mk 0 [] [] 0 0 0 0 0 []),Own.box b5 ah x39,Own.box b31 af x28,Own.box b32 ah x30,Own.vec v34 af ([x28]:List ApiNode) 64,Own.box b40 af x37,Own.box b41 ah x39] hmx (by kernel_rfl) (by kernel_rfl) (show([2,4]:List Nat).Nodup by decide) (show([0,1]:List Nat).Nodup by decide) rfl rfl ?_
     refine eq1 (out:=(af).val (ApiNode.mk 0 [] [] 0 0 0 0 0 [])) (fun C2 hC=>(dp bm st64 rfl)) ?_
     refine eq1 (out:=(ah).val x39) (fun C2 hC=>(au (R:=ah) (a:=x39) (R':=ah) 6 ty97 (Sub.refl _) (hi:=(hC 6 (by kernel_rfl)).trans rfl))) ?_
     refine eqS (fun C2 hC=>dk (R:=af) (R':=af) (a:=(ApiNode.mk 0 [] [] 0 0 0 0 0 [])) (y:=(ApiNode.mk 0 [] [] 0 0 0 0 0 [])) 0 Tryz.sizeOf64 (Upd.refl _) ((hC 0 (by kernel_rfl)).trans rfl)) ?_
     refine eq1 (out:=Pr.i64 0) (fun C2 hC=>dz) ?_
     refine eqS (fun C2 hC=>dk (R:=ah) (R':=ah) (a:=(Ref12Wrong.mk 0 0)) (y:=x39) 1 Tryz.sizeOf97 (Upd.refl _) ((hC 1 (by kernel_rfl)).trans rfl)) ?_
     exact⟨h,⟨⟨aa,aa,aa,trivial⟩,Pick.of [0,1,2,3,5,6] rfl⟩⟩
    refine az (W_rs (kAs rfl (W_rs (kMv rfl (kUn (au 5 ty64 (Sub.refl _)) ?_)))))
    refine kUn (cr (R:=af) (a:=x37) el53 (Nat.le_of_ble_eq_true rfl)) ?_
    obtain⟨x43,hx43,h⟩:=aj h
    refine ff 4 el53 hx43 (fun v44=> ?_)
    refine kAs rfl (W_r (kMv rfl (kAs rfl ?_)))
    exact⟨x38,7,x43,v44,h,⟨⟨aa,aa,aa,aa,aa,aa,aa,trivial⟩,Pick.of [0,1,2,3,4] rfl⟩⟩
   refine az ?_
   exact⟨x29,8,([x28]:List ApiNode),v34,h,atOk⟩
  refine W_rs (kMvL rfl (kMv rfl (ct h (cc x1 x2 ([114,101,116,117,114,110]:List UInt8)) rfl fun x20 _ h=>kAs rfl ?_)))
  refine a8 h rfl (fun _ h=> ?_) (fun _ h=> ?_)
  ·refine az ?_
   exact⟨x20,h,atOk⟩
  refine W_r (kMvL rfl (kMv rfl (ct h (cc x1 x2 ([112,114,105,110,116]:List UInt8)) rfl fun x22 _ h=>kAs rfl ?_)))
  exact⟨x22,h,atOk⟩
 refine W_rs (kMvL rfl (kMv rfl (ct h (cc x1 x2 ([105,102]:List UInt8)) rfl fun x12 _ h=>kAs rfl ?_)))
 refine a8 h rfl (fun _ h=> ?_) (fun _ h=> ?_)
 ·refine az ?_
  exact⟨x12,h,atOk⟩
 refine W_r (kMvL rfl (kMv rfl (ct h (cc x1 x2 ([119,104,105,108,101]:List UInt8)) rfl fun x14 _ h=>kAs rfl ?_)))
 exact⟨x14,h,atOk⟩
theorem F_ref12_guarded_step (R:co) (ih:lz R) (x1:List ApiToken) (x2 x3:Int) (r:ApiNode × Int × Ref12Wrong) (h:F_ref12_guarded R x1 x2 x3=some r):FnP Tryz.prog 180 [ar cf x1,Pr.i64 x2,Pr.i64 x3] (br [(af).val r.1,Pr.i64 r.2.1,(ah).val r.2.2]):=by
 refine c7 (rs:=[.cell 6 64,.tmp 7,.cell 8 97]) Tryz.func180 rfl Tryz.ntmps180 Tryz.results180 (by decide) (fun s0=> ?_)
 unfold F_ref12_guarded at h
 refine W_rs (bw al64 fun b4=>kAs rfl (bw al97 fun b5=>W_rs (kMvL rfl (kMv rfl (kIn rfl rfl rfl (kMv rfl (kIn rfl rfl rfl ?_)))))))
 obtain⟨⟨x6,x7,x8⟩,hx6,h⟩:=aj h
 refine kUn (c5 (ref12_bracketed_ok x1 (w64 (x2+1)) (w64 (x3+1)) _ hx6)) ?_
 refine kUn (hMv (out:=br [(af).val x6,Pr.i64 x7,(ah).val x8]) rfl) (kUn aw ?_)
 refine kUn aw ?_
 refine kUn aw ?_
 refine bw al64 fun b9=> ?_
 refine bw al97 fun b10=>ax 2 rfl rfl (Upd.refl _) rfl Tryz.sizeOf64 (kAs rfl (ax 3 rfl rfl (Upd.refl _) rfl Tryz.sizeOf97 (ba (W_rs (kUn (ak j3) ?_)))))
 refine kUn (au 3 ty3 cg) ?_
 refine kIn rfl rfl rfl ?_
 refine a8 h rfl (fun _ h=> ?_) (fun _ h=> ?_)
 ·refine bj (fun e C=>ref12_guarded_j1 R x8=some r/\At [(6,ao b4 0),(7,Pr.i64 0),(8,ao b5 0)] [Own.box b4 af (ApiNode.mk 0 [] [] 0 0 0 0 0 []),Own.box b5 ah x8,Own.box b9 af x6,Own.box b10 ah x8] e C) ?_ ?_
  ·rintro e C ⟨h,hat1⟩
   refine W_at hat1 ?_
   unfold ref12_guarded_j1 at h
   obtain rfl:=osj h
   exact bh ⟨rfl,[(af).val (ApiNode.mk 0 [] [] 0 0 0 0 0 []),Pr.i64 0,(ah).val x8],⟨yBox 0 ty64 aa,yT aa,yBox 1 ty97 aa,trivial⟩,aa⟩
  refine dy [(2,0,Own.box b4 af (ApiNode.mk 0 [] [] 0 0 0 0 0 [])),(4,1,Own.box b5 ah x8)] [Own.box b4 af (ApiNode.mk 0 [] [] 0 0 0 0 0 []),Own.box b5 ah x8,Own.box b9 af x6,Own.box b10 ah x8] hmx (by kernel_rfl) (by kernel_rfl) (show([2,4]:List Nat).Nodup by decide) (show([0,1]:List Nat).Nodup by decide) rfl rfl ?_
  refine eq1 (out:=(af).val (ApiNode.mk 0 [] [] 0 0 0 0 0 [])) (fun C2 hC=>(dp bm st64 rfl)) ?_
  refine eq1 (out:=(ah).val x8) (fun C2 hC=>(au (R:=ah) (a:=x8) (R':=ah) 3 ty97 (Sub.refl _) (hi:=(hC 3 (by kernel_rfl)).trans rfl))) ?_
  refine eqS (fun C2 hC=>dk (R:=af) (R':=af) (a:=(ApiNode.mk 0 [] [] 0 0 0 0 0 [])) (y:=(ApiNode.mk 0 [] [] 0 0 0 0 0 [])) 0 Tryz.sizeOf64 (Upd.refl _) ((hC 0 (by kernel_rfl)).trans rfl)) ?_
  refine eq1 (out:=Pr.i64 0) (fun C2 hC=>dz) ?_
  refine eqS (fun C2 hC=>dk (R:=ah) (R':=ah) (a:=(Ref12Wrong.mk 0 0)) (y:=x8) 1 Tryz.sizeOf97 (Upd.refl _) ((hC 1 (by kernel_rfl)).trans rfl)) ?_
  exact⟨h,atOk⟩
 refine az (W_rs (kMvL rfl (kMv rfl (kMv rfl (kIn rfl rfl rfl ?_)))))
 obtain⟨⟨x12,x13,x14⟩,hx12,h⟩:=aj h
 refine kUn (c5 (ih.2.1 x1 x7 (w64 (x3+1)) _ hx12)) ?_
 refine kUn (hMv (out:=br [(af).val x12,Pr.i64 x13,(ah).val x14]) rfl) (kUn aw ?_)
 refine kUn aw ?_
 refine kUn aw ?_
 refine bw al64 fun b15=> ?_
 refine bw al97 fun b16=>ax 4 rfl rfl (Upd.refl _) rfl Tryz.sizeOf64 (kAs rfl (ax 5 rfl rfl (Upd.refl _) rfl Tryz.sizeOf97 (ba (W_rs (kUn (ak j3) ?_)))))
 refine kUn (au 5 ty3 cg) ?_
 refine kIn rfl rfl rfl ?_
 refine a8 h rfl (fun _ h=> ?_) (fun _ h=> ?_)
 ·refine bj (fun e C=>ref12_guarded_j2 R x14=some r/\At [(6,ao b4 0),(7,Pr.i64 0),(8,ao b5 0)] [Own.box b4 af (ApiNode.mk 0 [] [] 0 0 0 0 0 []),Own.box b5 ah x14,Own.box b9 af x6,Own.box b10 ah x8,Own.box b15 af x12,Own.box b16 ah x14] e C) ?_ ?_
  ·rintro e C ⟨h,hat2⟩
   refine W_at hat2 ?_
   unfold ref12_guarded_j2 at h
   obtain rfl:=osj h
   exact bh ⟨rfl,[(af).val (ApiNode.mk 0 [] [] 0 0 0 0 0 []),Pr.i64 0,(ah).val x14],⟨yBox 0 ty64 aa,yT aa,yBox 1 ty97 aa,trivial⟩,aa⟩
  refine dy [(2,0,Own.box b4 af (ApiNode.mk 0 [] [] 0 0 0 0 0 [])),(4,1,Own.box b5 ah x14)] [Own.box b4 af (ApiNode.mk 0 [] [] 0 0 0 0 0 []),Own.box b5 ah x14,Own.box b9 af x6,Own.box b10 ah x8,Own.box b15 af x12,Own.box b16 ah x14] hmx (by kernel_rfl) (by kernel_rfl) (show([2,4]:List Nat).Nodup by decide) (show([0,1]:List Nat).Nodup by decide) rfl rfl ?_
  refine eq1 (out:=(af).val (ApiNode.mk 0 [] [] 0 0 0 0 0 [])) (fun C2 hC=>(dp bm st64 rfl)) ?_
  refine eq1 (out:=(ah).val x14) (fun C2 hC=>(au (R:=ah) (a:=x14) (R':=ah) 5 ty97 (Sub.refl _) (hi:=(hC 5 (by kernel_rfl)).trans rfl))) ?_
  refine eqS (fun C2 hC=>dk (R:=af) (R':=af) (a:=(ApiNode.mk 0 [] [] 0 0 0 0 0 [])) (y:=(ApiNode.mk 0 [] [] 0 0 0 0 0 [])) 0 Tryz.sizeOf64 (Upd.refl _) ((hC 0 (by kernel_rfl)).trans rfl)) ?_
  refine eq1 (out:=Pr.i64 0) (fun C2 hC=>dz) ?_
  refine eqS (fun C2 hC=>dk (R:=ah) (R':=ah) (a:=(Ref12Wrong.mk 0 0)) (y:=x14) 1 Tryz.sizeOf97 (Upd.refl _) ((hC 1 (by kernel_rfl)).trans rfl)) ?_
  exact⟨h,atOk⟩
 refine az (W_rs (kUn (au 2 ty64 (Sub.refl _)) ?_))
 refine kUn (au 4 ty64 (Sub.refl _)) ?_
 refine rBuildV (R:=af) (ls:=([x6,x12]:List ApiNode)) el53 (Nat.le_of_ble_eq_true rfl) ⟨rfl,rfl⟩ ⟨rfl,rfl,trivial⟩ (fun v18=> ?_)
 refine kAs rfl (ba (W_rs (kMvL rfl (kMv rfl (ct h (cc x1 x2 ([119,104,105,108,101]:List UInt8)) rfl fun x19 _ h=> ?_)))))
 refine a8 h rfl (fun _ h=> ?_) (fun _ h=> ?_)
 ·refine W_rs (kMvL rfl (kMv rfl (kMv rfl (kMv rfl ?_))))
  obtain⟨x21,hx21,h⟩:=aj h
  refine rRel 6 [15,57] ?_ rfl ⟨rfl,rfl,trivial⟩
  refine kUn (c5 (dj x1 10 x2 x13 ([x6,x12]:List ApiNode) _ hx21)) ?_
  refine kMv rfl (ct h (c3) rfl fun x22 _ h=>ax 0 rfl rfl (Upd.refl _) rfl Tryz.sizeOf64 (kAs rfl (ax 1 rfl rfl (Upd.refl _) rfl Tryz.sizeOf97 ?_)))
  obtain rfl:=osj h
  exact bh ⟨rfl,[(af).val x21,Pr.i64 x13,(ah).val x22],⟨yBox 0 ty64 aa,yT aa,yBox 1 ty97 aa,trivial⟩,aa⟩
 refine az ?_
 refine bj (fun e C=>∃(x33:Int),∃(x35:List ApiNode),∃(v34:Value),q3 R x1 x2 x33 x35=some r/\At [(0,ar cf x1),(1,Pr.i64 x2),(6,ao b4 0),(8,ao b5 0),(13,Pr.i64 x33),(15,Pr.is v34)] [Own.box b4 af (ApiNode.mk 0 [] [] 0 0 0 0 0 []),Own.box b5 ah (Ref12Wrong.mk 0 0),Own.box b9 af x6,Own.box b10 ah x8,Own.box b15 af x12,Own.box b16 ah x14,Own.vec v34 af x35 64] e C) ?_ ?_
 ·rintro e C ⟨x33,x35,v34,h,hat3⟩
  refine W_at hat3 ?_
  unfold q3 at h
  refine W_rs (kMvL rfl (kMv rfl (kMv rfl (kMv rfl ?_))))
  obtain⟨x36,hx36,h⟩:=aj h
  refine rRel 6 [15,87] ?_ rfl ⟨rfl,rfl,trivial⟩
  refine kUn (c5 (dj x1 9 x2 x33 x35 _ hx36)) ?_
  refine kMv rfl (ct h (c3) rfl fun x37 _ h=>ax 0 rfl rfl (Upd.refl _) rfl Tryz.sizeOf64 (kAs rfl (ax 1 rfl rfl (Upd.refl _) rfl Tryz.sizeOf97 ?_)))
  obtain rfl:=osj h
  exact bh ⟨rfl,[(af).val x36,Pr.i64 x33,(ah).val x37],⟨yBox 0 ty64 aa,yT aa,yBox 1 ty97 aa,trivial⟩,aa⟩
 refine W_rs (kMvL rfl (kMv rfl (ct h (cc x1 x13 ([101,108,115,101]:List UInt8)) rfl fun x23 _ h=> ?_)))
 refine a8 h rfl (fun _ h=> ?_) (fun _ h=> ?_)
 ·refine W_rs (kMvL rfl (kMv rfl (kIn rfl rfl rfl (kMv rfl (kIn rfl rfl rfl ?_)))))
  obtain⟨⟨x25,x26,x27⟩,hx25,h⟩:=aj h
  refine kUn (c5 (ih.2.1 x1 (w64 (x13+1)) (w64 (x3+1)) _ hx25)) ?_
  refine kUn (hMv (out:=br [(af).val x25,Pr.i64 x26,(ah).val x27]) rfl) (kUn aw ?_)
  refine kUn aw ?_
  refine kUn aw ?_
  refine bw al64 fun b28=> ?_
  refine bw al97 fun b29=>ax 7 rfl rfl (Upd.refl _) rfl Tryz.sizeOf64 (kAs rfl (ax 8 rfl rfl (Upd.refl _) rfl Tryz.sizeOf97 (ba (W_rs (kUn (ak j3) ?_)))))
  refine kUn (au 8 ty3 cg) ?_
  refine kIn rfl rfl rfl ?_
  refine a8 h rfl (fun _ h=> ?_) (fun _ h=> ?_)
  ·refine bj (fun e C=>ref12_guarded_j4 R x27=some r/\At [(6,ao b4 0),(7,Pr.i64 0),(8,ao b5 0)] [Own.box b4 af (ApiNode.mk 0 [] [] 0 0 0 0 0 []),Own.box b5 ah x27,Own.box b9 af x6,Own.box b10 ah x8,Own.box b15 af x12,Own.box b16 ah x14,Own.box b28 af x25,Own.box b29 ah x27] e C) ?_ ?_
   ·rintro e C ⟨h,hat4⟩
    refine W_at hat4 ?_
    unfold ref12_guarded_j4 at h
    obtain rfl:=osj h
    exact bh ⟨rfl,[(af).val (ApiNode.mk 0 [] [] 0 0 0 0 0 []),Pr.i64 0,(ah).val x27],⟨yBox 0 ty64 aa,yT aa,yBox 1 ty97 aa,trivial⟩,aa⟩
   refine dy [(2,0,Own.box b4 af (ApiNode.mk 0 [] [] 0 0 0 0 0 [])),(4,1,Own.box b5 ah x27)] [Own.box b4 af (ApiNode.mk 0 [] [] 0 0 0 0 0 []),Own.box b5 ah x27,Own.box b9 af x6,Own.box b10 ah x8,Own.box b15 af x12,Own.box b16 ah x14,Own.vec v18 af ([x6,x12]:List ApiNode) 64,Own.box b28 af x25,Own.box b29 ah x27] hmx (by kernel_rfl) (by kernel_rfl) (show([2,4]:List Nat).Nodup by decide) (show([0,1]:List Nat).Nodup by decide) rfl rfl ?_
   refine eq1 (out:=(af).val (ApiNode.mk 0 [] [] 0 0 0 0 0 [])) (fun C2 hC=>(dp bm st64 rfl)) ?_
   refine eq1 (out:=(ah).val x27) (fun C2 hC=>(au (R:=ah) (a:=x27) (R':=ah) 8 ty97 (Sub.refl _) (hi:=(hC 8 (by kernel_rfl)).trans rfl))) ?_
   refine eqS (fun C2 hC=>dk (R:=af) (R':=af) (a:=(ApiNode.mk 0 [] [] 0 0 0 0 0 [])) (y:=(ApiNode.mk 0 [] [] 0 0 0 0 0 [])) 0 Tryz.sizeOf64 (Upd.refl _) ((hC 0 (by kernel_rfl)).trans rfl)) ?_
   refine eq1 (out:=Pr.i64 0) (fun C2 hC=>dz) ?_
   refine eqS (fun C2 hC=>dk (R:=ah) (R':=ah) (a:=(Ref12Wrong.mk 0 0)) (y:=x27) 1 Tryz.sizeOf97 (Upd.refl _) ((hC 1 (by kernel_rfl)).trans rfl)) ?_
   exact⟨h,⟨⟨aa,aa,aa,trivial⟩,Pick.of [0,1,2,3,4,5,7,8] rfl⟩⟩
  refine az (W_rs (kMv rfl (kUn (au 7 ty64 (Sub.refl _)) ?_)))
  refine kUn (cr (R:=af) (a:=x25) el53 (Nat.le_of_ble_eq_true rfl)) ?_
  obtain⟨x31,hx31,h⟩:=aj h
  refine ff 6 el53 hx31 (fun v32=> ?_)
  refine kAs rfl (W_r (kMv rfl (kAs rfl ?_)))
  exact⟨x26,x31,v32,h,⟨⟨aa,aa,aa,aa,aa,aa,trivial⟩,Pick.of [0,1,2,3,4,5,6] rfl⟩⟩
 refine az ?_
 exact⟨x13,([x6,x12]:List ApiNode),v18,h,atOk⟩
theorem rec_ref12_block_ok :∀n,lz (k6 n):=by
 intro n
 induction n with
 |zero=>exact⟨(fun x1 x2 x3 r h=>nomatch (show none=some r from h)),(fun x1 x2 x3 r h=>nomatch (show none=some r from h)),(fun x1 x2 x3 r h=>nomatch (show none=some r from h))⟩
 |succ n ih=>exact⟨(fun x1 x2 x3 r h=>F_ref12_block_step (k6 n) ih x1 x2 x3 r h),(fun x1 x2 x3 r h=>F_ref12_statement_step (k6 n) ih x1 x2 x3 r h),(fun x1 x2 x3 r h=>F_ref12_guarded_step (k6 n) ih x1 x2 x3 r h)⟩
theorem ref12_block_ok (x1:List ApiToken) (x2 x3:Int) (r:ApiNode × Int × Ref12Wrong) (h:ref12_block x1 x2 x3=some r):FnP Tryz.prog 140 [ar cf x1,Pr.i64 x2,Pr.i64 x3] (br [(af).val r.1,Pr.i64 r.2.1,(ah).val r.2.2]):=(rec_ref12_block_ok 1048576).1 x1 x2 x3 r h
theorem ref12_member_ok (x1:List ApiToken) (x2:Int) (r:ApiNode × Int × Ref12Wrong) (h:ref12_member x1 x2=some r):FnP Tryz.prog 95 [ar cf x1,Pr.i64 x2] (br [(af).val r.1,Pr.i64 r.2.1,(ah).val r.2.2]):=by
 refine c7 (rs:=[.cell 4 64,.tmp 5,.cell 6 97]) Tryz.func95 rfl Tryz.ntmps95 Tryz.results95 (by decide) (fun s0=> ?_)
 unfold ref12_member at h
 refine W_rs (bw al64 fun b3=>kAs rfl (bw al97 fun b4=>W_rs (kMv rfl (kAs rfl (W_rs (kMvL rfl (kMv rfl (ct h (cc x1 x2 ([115,116,97,116,105,99]:List UInt8)) rfl fun x5 _ h=>kAs rfl ?_))))))))
 refine bj (fun e C=>∃(x7:Int),ref12_member_j6 x1 x2 x5 x7=some r/\At [(0,ar cf x1),(1,Pr.i64 x7),(4,ao b3 0),(6,ao b4 0),(7,Pr.i64 x2),(8,Pr.bool x5)] [Own.box b3 af (ApiNode.mk 0 [] [] 0 0 0 0 0 []),Own.box b4 ah (Ref12Wrong.mk 0 0)] e C) ?_ ?_
 ·rintro e C ⟨x7,h,hat6⟩
  refine W_at hat6 ?_
  unfold ref12_member_j6 at h
  refine ba (W_rs (kMvL rfl (kMv rfl (ct h (ref12_kind_ok x1 x7) rfl fun x8 _ h=>kNo rfl ?_))))
  refine a8 h rfl (fun _ h=> ?_) (fun _ h=> ?_)
  ·refine W_rs (kUn (dp bm st64 rfl) ?_)
   refine kMv rfl (ct h (cp x7) rfl fun x10 _ h=>ax 0 rfl rfl (Upd.refl _) rfl Tryz.sizeOf64 (kAs rfl (ax 1 rfl rfl (Upd.refl _) rfl Tryz.sizeOf97 ?_)))
   obtain rfl:=osj h
   exact bh ⟨rfl,[(af).val (ApiNode.mk 0 [] [] 0 0 0 0 0 []),Pr.i64 0,(ah).val x10],⟨yBox 0 ty64 aa,yT aa,yBox 1 ty97 aa,trivial⟩,aa⟩
  refine az (ba (W_rs (kMvL rfl (kMv rfl (kIn rfl rfl rfl (ct h (ig x1 (w64 (x7+1))) rfl fun x11 _ h=>kNo rfl ?_))))))
  refine a8 h rfl (fun _ h=> ?_) (fun _ h=> ?_)
  ·refine W_rs (kUn (dp bm st64 rfl) ?_)
   refine kMv rfl (kIn rfl rfl rfl (ct h (cp (w64 (x7+1))) rfl fun x13 _ h=>ax 0 rfl rfl (Upd.refl _) rfl Tryz.sizeOf64 (kAs rfl (ax 1 rfl rfl (Upd.refl _) rfl Tryz.sizeOf97 ?_))))
   obtain rfl:=osj h
   exact bh ⟨rfl,[(af).val (ApiNode.mk 0 [] [] 0 0 0 0 0 []),Pr.i64 0,(ah).val x13],⟨yBox 0 ty64 aa,yT aa,yBox 1 ty97 aa,trivial⟩,aa⟩
  refine az (W_rs (kMv rfl (kIn rfl rfl rfl (kAs rfl (W_rs (kAs rfl (W_rs (kAs rfl ?_))))))))
  refine W_nil [11] af 64 (fun v14=> ?_) ⟨rfl,trivial⟩
  refine bj (fun e C=>∃(x37:Int),∃(x38:Int),∃(x40:List ApiNode),∃(v39:Value),ref12_member_j3 x1 x2 x7 x5 x37 x38 x40=some r/\At [(0,ar cf x1),(1,Pr.i64 x7),(4,ao b3 0),(6,ao b4 0),(7,Pr.i64 x2),(8,Pr.bool x5),(9,Pr.i64 x37),(10,Pr.i64 x38),(11,Pr.is v39)] [Own.box b3 af (ApiNode.mk 0 [] [] 0 0 0 0 0 []),Own.box b4 ah (Ref12Wrong.mk 0 0),Own.vec v39 af x40 64] e C) ?_ ?_
  ·rintro e C ⟨x37,x38,x40,v39,h,hat3⟩
   refine W_at hat3 ?_
   unfold ref12_member_j3 at h
   refine W_rs (kMvL rfl (kMvL rfl (kMv rfl (kMv rfl (kMv rfl (kMv rfl ?_))))))
   obtain⟨x41,hx41,h⟩:=aj h
   refine rRel 2 [11,99] ?_ rfl ⟨rfl,rfl,trivial⟩
   refine kUn (c5 (dj x1 x38 x2 x37 x40 _ hx41)) ?_
   refine kMv rfl (ct h (ref12_typed_ok x1 x41 x7) rfl fun x42 _ h=> ?_)
   refine bw al64 fun b43=>ax 2 rfl rfl (Upd.refl _) rfl Tryz.sizeOf64 ?_
   refine bj (fun e C=>∃(x45:ApiNode),ref12_member_j2 x37 x45=some r/\At [(4,ao b3 0),(6,ao b4 0),(9,Pr.i64 x37),(18,ao b43 0)] [Own.box b3 af (ApiNode.mk 0 [] [] 0 0 0 0 0 []),Own.box b4 ah (Ref12Wrong.mk 0 0),Own.box b43 af x45] e C) ?_ ?_
   ·rintro e C ⟨x45,h,hat2⟩
    refine W_at hat2 ?_
    unfold ref12_member_j2 at h
    refine bj (fun e C=>∃(x46:Ref12Wrong),ref12_member_j1 x45 x37 x46=some r/\At [(4,ao b3 0),(5,Pr.i64 x37),(6,ao b4 0)] [Own.box b3 af x45,Own.box b4 ah x46,Own.box b43 af x45] e C) ?_ ?_
    ·rintro e C ⟨x46,h,hat1⟩
     refine W_at hat1 ?_
     unfold ref12_member_j1 at h
     obtain rfl:=osj h
     exact bh ⟨rfl,[(af).val x45,Pr.i64 x37,(ah).val x46],⟨yBox 0 ty64 aa,yT aa,yBox 1 ty97 aa,trivial⟩,aa⟩
    obtain⟨x46,hx46,h⟩:=aj h
    refine dy [(3,0,Own.box b3 af x45),(5,1,Own.box b4 ah x46)] [Own.box b3 af x45,Own.box b4 ah x46,Own.box b43 af x45] hmx (by kernel_rfl) (by kernel_rfl) (show([3,5]:List Nat).Nodup by decide) (show([0,1]:List Nat).Nodup by decide) rfl rfl ?_
    refine eq1 (out:=(af).val x45) (fun C2 hC=>(au (R:=af) (a:=x45) (R':=af) 2 ty64 (Sub.refl _) (hi:=(hC 2 (by kernel_rfl)).trans rfl))) ?_
    refine eq1 (out:=Pr.i64 x37) (fun C2 hC=>ef) ?_
    refine eq1 (out:=(ah).val x46) (fun C2 hC=>(c5 (c3 _ hx46))) ?_
    refine eqS (fun C2 hC=>dk (R:=af) (R':=af) (a:=(ApiNode.mk 0 [] [] 0 0 0 0 0 [])) (y:=x45) 0 Tryz.sizeOf64 (Upd.refl _) ((hC 0 (by kernel_rfl)).trans rfl)) ?_
    refine eq1 (out:=Pr.i64 x37) (fun C2 hC=>dz) ?_
    refine eqS (fun C2 hC=>dk (R:=ah) (R':=ah) (a:=(Ref12Wrong.mk 0 0)) (y:=x46) 1 Tryz.sizeOf97 (Upd.refl _) ((hC 1 (by kernel_rfl)).trans rfl)) ?_
    exact⟨x46,h,atOk⟩
   refine W_rs (kMv rfl ?_)
   refine a8 h rfl (fun _ h=> ?_) (fun _ h=> ?_)
   ·refine W_r (kUn (ak fld64_3) ?_)
    refine ax 2 rfl rfl updApiNode_N rfl Tryz.sizeOf2 ?_
    exact⟨{x42 with N:=1},h,atOk⟩
   refine az ?_
   exact⟨x42,h,atOk⟩
  refine a5 (W_rs (kMvL rfl (kMv rfl (ct h (cc x1 (w64 (x7+2)) ([59]:List UInt8)) rfl fun x15 _ h=>kAs rfl ?_))))
  refine a8 h rfl (fun _ h=> ?_) (fun _ h=> ?_)
  ·refine ba (W_rs (kMvL rfl (kMv rfl (ct h (cc x1 x7 ([118,111,105,100]:List UInt8)) rfl fun x17 _ h=> ?_))))
   refine a8 h rfl (fun _ h=> ?_) (fun _ h=> ?_)
   ·refine W_rs (kUn (dp bm st64 rfl) ?_)
    refine kMv rfl (ct h (cp (w64 (x7+2))) rfl fun x19 _ h=>ax 0 rfl rfl (Upd.refl _) rfl Tryz.sizeOf64 (kAs rfl (ax 1 rfl rfl (Upd.refl _) rfl Tryz.sizeOf97 ?_)))
    obtain rfl:=osj h
    exact bh ⟨rfl,[(af).val (ApiNode.mk 0 [] [] 0 0 0 0 0 []),Pr.i64 0,(ah).val x19],⟨yBox 0 ty64 aa,yT aa,yBox 1 ty97 aa,trivial⟩,aa⟩
   refine az (W_r (kMv rfl (kIn rfl rfl rfl (kAs rfl ?_))))
   exact⟨w64 ((w64 (x7+2))+1),2,[],v14,h,atOk⟩
  refine W_rs (kMvL rfl (kMv rfl (ct h (cc x1 (w64 (x7+2)) ([40]:List UInt8)) rfl fun x20 _ h=>kAs rfl ?_)))
  refine a8 h rfl (fun _ h=> ?_) (fun _ h=> ?_)
  ·refine W_rs (kAs rfl (W_rs (kMvL rfl (kMv rfl (kIn rfl rfl rfl ?_)))))
   obtain⟨⟨x22,x23,x24⟩,hx22,h⟩:=aj h
   refine j1 [] (ref12_params_ok x1 (w64 ((w64 (x7+2))+1)) _ hx22) (fun q C' hq=> ?_)
   obtain⟨v25,rfl,rfl⟩:=hq
   refine kUn (hMv (out:=br [Pr.is v25,Pr.i64 x23,(ah).val x24]) rfl) (kUn aw ?_)
   refine kUn aw ?_
   refine kUn aw ?_
   refine bw al97 fun b26=>kAs rfl (kAs rfl (ax 4 rfl rfl (Upd.refl _) rfl Tryz.sizeOf97 (ba (W_rs (kUn (ak j3) ?_)))))
   refine kUn (au 4 ty3 cg) ?_
   refine kIn rfl rfl rfl ?_
   refine a8 h rfl (fun _ h=> ?_) (fun _ h=> ?_)
   ·refine bj (fun e C=>ref12_member_j4 x24=some r/\At [(4,ao b3 0),(5,Pr.i64 0),(6,ao b4 0)] [Own.box b3 af (ApiNode.mk 0 [] [] 0 0 0 0 0 []),Own.box b4 ah x24,Own.box b26 ah x24] e C) ?_ ?_
    ·rintro e C ⟨h,hat4⟩
     refine W_at hat4 ?_
     unfold ref12_member_j4 at h
     obtain rfl:=osj h
     exact bh ⟨rfl,[(af).val (ApiNode.mk 0 [] [] 0 0 0 0 0 []),Pr.i64 0,(ah).val x24],⟨yBox 0 ty64 aa,yT aa,yBox 1 ty97 aa,trivial⟩,aa⟩
    refine dy [(2,1,Own.box b3 af (ApiNode.mk 0 [] [] 0 0 0 0 0 [])),(4,2,Own.box b4 ah x24)] [Own.vec v25 af x22 64,Own.box b3 af (ApiNode.mk 0 [] [] 0 0 0 0 0 []),Own.box b4 ah x24,Own.vec v14 af [] 64,Own.box b26 ah x24] hmx (by kernel_rfl) (by kernel_rfl) (show([2,4]:List Nat).Nodup by decide) (show([1,2]:List Nat).Nodup by decide) rfl rfl ?_
    refine eq1 (out:=(af).val (ApiNode.mk 0 [] [] 0 0 0 0 0 [])) (fun C2 hC=>(dp bm st64 rfl)) ?_
    refine eq1 (out:=(ah).val x24) (fun C2 hC=>(au (R:=ah) (a:=x24) (R':=ah) 4 ty97 (Sub.refl _) (hi:=(hC 4 (by kernel_rfl)).trans rfl))) ?_
    refine eqS (fun C2 hC=>dk (R:=af) (R':=af) (a:=(ApiNode.mk 0 [] [] 0 0 0 0 0 [])) (y:=(ApiNode.mk 0 [] [] 0 0 0 0 0 [])) 1 Tryz.sizeOf64 (Upd.refl _) ((hC 1 (by kernel_rfl)).trans rfl)) ?_
    refine eq1 (out:=Pr.i64 0) (fun C2 hC=>dz) ?_
    refine eqS (fun C2 hC=>dk (R:=ah) (R':=ah) (a:=(Ref12Wrong.mk 0 0)) (y:=x24) 2 Tryz.sizeOf97 (Upd.refl _) ((hC 2 (by kernel_rfl)).trans rfl)) ?_
    exact⟨h,⟨⟨aa,aa,aa,trivial⟩,Pick.of [1,2,4] rfl⟩⟩
   refine az (W_rs (kMvL rfl (kMv rfl ?_)))
   obtain⟨⟨x28,x29,x30⟩,hx28,h⟩:=aj h
   refine kUn (c5 (ref12_block_ok x1 x23 1 _ hx28)) ?_
   refine kUn (hMv (out:=br [(af).val x28,Pr.i64 x29,(ah).val x30]) rfl) (kUn aw ?_)
   refine kUn aw ?_
   refine kUn aw ?_
   refine bw al64 fun b31=> ?_
   refine bw al97 fun b32=>ax 5 rfl rfl (Upd.refl _) rfl Tryz.sizeOf64 (kAs rfl (ax 6 rfl rfl (Upd.refl _) rfl Tryz.sizeOf97 (ba (W_rs (kUn (ak j3) ?_)))))
   refine kUn (au 6 ty3 cg) ?_
   refine kIn rfl rfl rfl ?_
   refine a8 h rfl (fun _ h=> ?_) (fun _ h=> ?_)
   ·refine bj (fun e C=>ref12_member_j5 x30=some r/\At [(4,ao b3 0),(5,Pr.i64 0),(6,ao b4 0)] [Own.box b3 af (ApiNode.mk 0 [] [] 0 0 0 0 0 []),Own.box b4 ah x30,Own.box b26 ah x24,Own.box b31 af x28,Own.box b32 ah x30] e C) ?_ ?_
    ·rintro e C ⟨h,hat5⟩
     refine W_at hat5 ?_
     unfold ref12_member_j5 at h
     obtain rfl:=osj h
     exact bh ⟨rfl,[(af).val (ApiNode.mk 0 [] [] 0 0 0 0 0 []),Pr.i64 0,(ah).val x30],⟨yBox 0 ty64 aa,yT aa,yBox 1 ty97 aa,trivial⟩,aa⟩
    refine dy [(2,1,Own.box b3 af (ApiNode.mk 0 [] [] 0 0 0 0 0 [])),(4,2,Own.box b4 ah x30)] [Own.vec v25 af x22 64,Own.box b3 af (ApiNode.mk 0 [] [] 0 0 0 0 0 []),Own.box b4 ah x30,Own.vec v14 af [] 64,Own.box b26 ah x24,Own.box b31 af x28,Own.box b32 ah x30] hmx (by kernel_rfl) (by kernel_rfl) (show([2,4]:List Nat).Nodup by decide) (show([1,2]:List Nat).Nodup by decide) rfl rfl ?_
    refine eq1 (out:=(af).val (ApiNode.mk 0 [] [] 0 0 0 0 0 [])) (fun C2 hC=>(dp bm st64 rfl)) ?_
    refine eq1 (out:=(ah).val x30) (fun C2 hC=>(au (R:=ah) (a:=x30) (R':=ah) 6 ty97 (Sub.refl _) (hi:=(hC 6 (by kernel_rfl)).trans rfl))) ?_
    refine eqS (fun C2 hC=>dk (R:=af) (R':=af) (a:=(ApiNode.mk 0 [] [] 0 0 0 0 0 [])) (y:=(ApiNode.mk 0 [] [] 0 0 0 0 0 [])) 1 Tryz.sizeOf64 (Upd.refl _) ((hC 1 (by kernel_rfl)).trans rfl)) ?_
    refine eq1 (out:=Pr.i64 0) (fun C2 hC=>dz) ?_
    refine eqS (fun C2 hC=>dk (R:=ah) (R':=ah) (a:=(Ref12Wrong.mk 0 0)) (y:=x30) 2 Tryz.sizeOf97 (Upd.refl _) ((hC 2 (by kernel_rfl)).trans rfl)) ?_
    exact⟨h,⟨⟨aa,aa,aa,trivial⟩,Pick.of [1,2,4,5,6] rfl⟩⟩
   refine az (W_rs (kMv rfl (kUn (au 5 ty64 (Sub.refl _)) ?_)))
   refine kUn (cr (R:=af) (a:=x28) el53 (Nat.le_of_ble_eq_true rfl)) ?_
   obtain⟨x34,hx34,h⟩:=aj h
   refine ff 0 el53 hx34 (fun v35=> ?_)
   refine kAs rfl (W_rs (kMv rfl (kAs rfl (W_r (kMv rfl (kAs rfl ?_))))))
   exact⟨x29,3,x34,v35,h,⟨⟨aa,aa,aa,aa,aa,aa,aa,aa,aa,trivial⟩,Pick.of [1,2,0] rfl⟩⟩
  refine W_rs (kUn (dp bm st64 rfl) ?_)
  refine kMv rfl (ct h (cp (w64 (x7+2))) rfl fun x36 _ h=>ax 0 rfl rfl (Upd.refl _) rfl Tryz.sizeOf64 (kAs rfl (ax 1 rfl rfl (Upd.refl _) rfl Tryz.sizeOf97 ?_)))
  obtain rfl:=osj h
  exact bh ⟨rfl,[(af).val (ApiNode.mk 0 [] [] 0 0 0 0 0 []),Pr.i64 0,(ah).val x36],⟨yBox 0 ty64 aa,yT aa,yBox 1 ty97 aa,trivial⟩,aa⟩
 refine W_rs (kMv rfl ?_)
 refine a8 h rfl (fun _ h=> ?_) (fun _ h=> ?_)
 ·refine W_r (kMv rfl (kIn rfl rfl rfl (kAs rfl ?_)))
  exact⟨w64 (x2+1),h,atOk⟩
 refine az ?_
 exact⟨x2,h,atOk⟩
theorem ref12_class_ok (x1:List ApiToken) (x2:Int) (r:ApiNode × Int × Ref12Wrong) (h:ref12_class x1 x2=some r):FnP Tryz.prog 51 [ar cf x1,Pr.i64 x2] (br [(af).val r.1,Pr.i64 r.2.1,(ah).val r.2.2]):=by
 refine c7 (rs:=[.cell 4 64,.tmp 5,.cell 6 97]) Tryz.func51 rfl Tryz.ntmps51 Tryz.results51 (by decide) (fun s0=> ?_)
 unfold ref12_class at h
 refine W_rs (bw al64 fun b3=>kAs rfl (bw al97 fun b4=>ba (W_rs (kMvL rfl (kMv rfl (ct h (cc x1 x2 ([99,108,97,115,115]:List UInt8)) rfl fun x5 _ h=>kNo rfl ?_))))))
 refine a8 h rfl (fun _ h=> ?_) (fun _ h=> ?_)
 ·refine W_rs (kUn (dp bm st64 rfl) ?_)
  refine kMv rfl (ct h (cp x2) rfl fun x7 _ h=>ax 0 rfl rfl (Upd.refl _) rfl Tryz.sizeOf64 (kAs rfl (ax 1 rfl rfl (Upd.refl _) rfl Tryz.sizeOf97 ?_)))
  obtain rfl:=osj h
  exact bh ⟨rfl,[(af).val (ApiNode.mk 0 [] [] 0 0 0 0 0 []),Pr.i64 0,(ah).val x7],⟨yBox 0 ty64 aa,yT aa,yBox 1 ty97 aa,trivial⟩,aa⟩
 refine az (ba (W_rs (kMvL rfl (kMv rfl (kIn rfl rfl rfl (ct h (ig x1 (w64 (x2+1))) rfl fun x8 _ h=>kNo rfl ?_))))))
 refine a8 h rfl (fun _ h=> ?_) (fun _ h=> ?_)
 ·refine W_rs (kUn (dp bm st64 rfl) ?_)
  refine kMv rfl (kIn rfl rfl rfl (ct h (cp (w64 (x2+1))) rfl fun x10 _ h=>ax 0 rfl rfl (Upd.refl _) rfl Tryz.sizeOf64 (kAs rfl (ax 1 rfl rfl (Upd.refl _) rfl Tryz.sizeOf97 ?_))))
  obtain rfl:=osj h
  exact bh ⟨rfl,[(af).val (ApiNode.mk 0 [] [] 0 0 0 0 0 []),Pr.i64 0,(ah).val x10],⟨yBox 0 ty64 aa,yT aa,yBox 1 ty97 aa,trivial⟩,aa⟩
 refine az (W_rs (kMv rfl (kIn rfl rfl rfl (kAs rfl (W_rs (kAs rfl ?_))))))
 refine bj (fun e C=>∃(x16:Int),∃(x17:Int),ref12_class_j6 x1 x2 x16 x17=some r/\At [(0,ar cf x1),(1,Pr.i64 x2),(4,ao b3 0),(6,ao b4 0),(7,Pr.i64 x16),(8,Pr.i64 x17)] [Own.box b3 af (ApiNode.mk 0 [] [] 0 0 0 0 0 []),Own.box b4 ah (Ref12Wrong.mk 0 0)] e C) ?_ ?_
 ·rintro e C ⟨x16,x17,h,hat6⟩
  refine W_at hat6 ?_
  unfold ref12_class_j6 at h
  refine ba (W_rs (kMvL rfl (kMv rfl (ct h (cc x1 x16 ([123]:List UInt8)) rfl fun x18 _ h=>kNo rfl ?_))))
  refine a8 h rfl (fun _ h=> ?_) (fun _ h=> ?_)
  ·refine W_rs (kUn (dp bm st64 rfl) ?_)
   refine kMv rfl (ct h (cp x16) rfl fun x20 _ h=>ax 0 rfl rfl (Upd.refl _) rfl Tryz.sizeOf64 (kAs rfl (ax 1 rfl rfl (Upd.refl _) rfl Tryz.sizeOf97 ?_)))
   obtain rfl:=osj h
   exact bh ⟨rfl,[(af).val (ApiNode.mk 0 [] [] 0 0 0 0 0 []),Pr.i64 0,(ah).val x20],⟨yBox 0 ty64 aa,yT aa,yBox 1 ty97 aa,trivial⟩,aa⟩
  refine az (W_rs (kMv rfl (kIn rfl rfl rfl (kAs rfl (W_rs (kAs rfl (ba (a5 ?_))))))))
  obtain⟨z4l,hz4,h⟩:=aj h
  obtain⟨n4,hN4⟩:=bt hz4
  refine cv 0 (fun e C=>∃(x21:Int),∃(x23:List ApiNode),∃(v22:Value),ref12_class_k3 x1 x2 x17 x21 x23=some r/\At [(0,ar cf x1),(1,Pr.i64 x2),(4,ao b3 0),(6,ao b4 0),(7,Pr.i64 x21),(8,Pr.i64 x17),(9,Pr.is v22)] [Own.box b3 af (ApiNode.mk 0 [] [] 0 0 0 0 0 []),Own.box b4 ah (Ref12Wrong.mk 0 0),Own.vec v22 af x23 64] e C) ?_ ?_
  ·rintro e C ⟨x21,x23,v22,h,hat3⟩
   refine W_at hat3 ?_
   unfold ref12_class_k3 at h
   refine W_rs (kMvL rfl (kMv rfl (kMv rfl (kIn rfl rfl rfl (kMv rfl ?_)))))
   obtain⟨x37,hx37,h⟩:=aj h
   refine rRel 2 [9,82] ?_ rfl ⟨rfl,rfl,trivial⟩
   refine kUn (c5 (dj x1 1 x2 (w64 (x21+1)) x23 _ hx37)) ?_
   refine bw al64 fun b38=>ax 2 rfl rfl (Upd.refl _) rfl Tryz.sizeOf64 (W_rs (kMvL rfl (kMv rfl (kIn rfl rfl rfl ?_))))
   obtain⟨x39,hx39,h⟩:=aj h
   refine kUn (dh Tryz.underlying41 Tryz.sizeOf45 hx39) ?_
   refine kUn (eh fld45_1 d4) ?_
   refine kUn (cl ty9) ?_
   refine kUn (ak ej) ?_
   refine ax 2 rfl rfl mf rfl Tryz.sizeOf9 (W_rs (kMvL rfl (kMv rfl (kIn rfl rfl rfl ?_))))
   obtain⟨x40,hx40,h⟩:=aj h
   refine kUn (dh Tryz.underlying41 Tryz.sizeOf45 hx40) ?_
   refine kUn (eh fld45_2 ib) ?_
   refine kUn (cl ty3) ?_
   refine kUn (ak mb) ?_
   refine ax 2 rfl rfl updApiNode_At rfl Tryz.sizeOf3 ?_
   refine bj (fun e C=>∃(x44:ApiNode),ref12_class_j2 x21 x44=some r/\At [(4,ao b3 0),(6,ao b4 0),(7,Pr.i64 x21),(13,ao b38 0)] [Own.box b3 af (ApiNode.mk 0 [] [] 0 0 0 0 0 []),Own.box b4 ah (Ref12Wrong.mk 0 0),Own.box b38 af x44] e C) ?_ ?_
   ·rintro e C ⟨x44,h,hat2⟩
    refine W_at hat2 ?_
    unfold ref12_class_j2 at h
    refine bj (fun e C=>∃(x45:Ref12Wrong),ref12_class_j1 x44 x21 x45=some r/\At [(4,ao b3 0),(5,Pr.i64 (w64 (x21+1))),(6,ao b4 0)] [Own.box b3 af x44,Own.box b4 ah x45,Own.box b38 af x44] e C) ?_ ?_
    ·rintro e C ⟨x45,h,hat1⟩
     refine W_at hat1 ?_
     unfold ref12_class_j1 at h
     obtain rfl:=osj h
     exact bh ⟨rfl,[(af).val x44,Pr.i64 (w64 (x21+1)),(ah).val x45],⟨yBox 0 ty64 aa,yT aa,yBox 1 ty97 aa,trivial⟩,aa⟩
    obtain⟨x45,hx45,h⟩:=aj h
    refine dy [(4,0,Own.box b3 af x44),(6,1,Own.box b4 ah x45)] [Own.box b3 af x44,Own.box b4 ah x45,Own.box b38 af x44] hmx (by kernel_rfl) (by kernel_rfl) (show([4,6]:List Nat).Nodup by decide) (show([0,1]:List Nat).Nodup by decide) rfl rfl ?_
    refine eq1 (out:=(af).val x44) (fun C2 hC=>(au (R:=af) (a:=x44) (R':=af) 2 ty64 (Sub.refl _) (hi:=(hC 2 (by kernel_rfl)).trans rfl))) ?_
    refine eq1 (out:=Pr.i64 x21) (fun C2 hC=>ef) ?_
    refine eq1 (out:=Pr.i64 (w64 (x21+1))) (fun C2 hC=>qInt) ?_
    refine eq1 (out:=(ah).val x45) (fun C2 hC=>(c5 (c3 _ hx45))) ?_
    refine eqS (fun C2 hC=>dk (R:=af) (R':=af) (a:=(ApiNode.mk 0 [] [] 0 0 0 0 0 [])) (y:=x44) 0 Tryz.sizeOf64 (Upd.refl _) ((hC 0 (by kernel_rfl)).trans rfl)) ?_
    refine eq1 (out:=Pr.i64 (w64 (x21+1))) (fun C2 hC=>dz) ?_
    refine eqS (fun C2 hC=>dk (R:=ah) (R':=ah) (a:=(Ref12Wrong.mk 0 0)) (y:=x45) 1 Tryz.sizeOf97 (Upd.refl _) ((hC 1 (by kernel_rfl)).trans rfl)) ?_
    exact⟨x45,h,atOk⟩
   refine W_rs (kMv rfl (kIn rfl rfl rfl ?_))
   refine a8 h rfl (fun _ h=> ?_) (fun _ h=> ?_)
   ·refine W_rs (kMvL rfl (kMv rfl ?_))
    obtain⟨x42,hx42,h⟩:=aj h
    refine kUn (dh Tryz.underlying41 Tryz.sizeOf45 hx42) ?_
    refine kUn (eh fld45_1 d4) ?_
    refine kUn (cl ty9) ?_
    refine kUn (ak pz) ?_
    refine ax 2 rfl rfl updApiNode_Type rfl Tryz.sizeOf9 (W_r (kMvL rfl (kMv rfl ?_)))
    obtain⟨x43,hx43,h⟩:=aj h
    refine kUn (dh Tryz.underlying41 Tryz.sizeOf45 hx43) ?_
    refine kUn (eh fld45_2 ib) ?_
    refine kUn (cl ty3) ?_
    refine kUn (ak fld64_7) ?_
    refine ax 2 rfl rfl updApiNode_TypeAt rfl Tryz.sizeOf3 ?_
    exact⟨{{{{x37 with Text:=x39.Text} with At:=x40.At} with Type_:=x42.Text} with TypeAt:=x43.At},h,atOk⟩
   refine az ?_
   exact⟨{{x37 with Text:=x39.Text} with At:=x40.At},h,atOk⟩
  refine W_nil [9] af 64 (fun v46=> ?_) ⟨rfl,trivial⟩
  refine da (fun m e C=>∃(x21:Int),∃(x23:List ApiNode),∃(v22:Value),dn (fun s=>ref12_class_l4 x1 s.1 s.2) m (x21,x23)=some z4l/\At [(0,ar cf x1),(1,Pr.i64 x2),(4,ao b3 0),(6,ao b4 0),(7,Pr.i64 x21),(8,Pr.i64 x17),(9,Pr.is v22)] [Own.box b3 af (ApiNode.mk 0 [] [] 0 0 0 0 0 []),Own.box b4 ah (Ref12Wrong.mk 0 0),Own.vec v22 af x23 64] e C) n4 ⟨w64 (x16+1),[],v46,hN4,⟨⟨aa,aa,aa,aa,aa,aa,aa,trivial⟩,Pick.refl _⟩⟩ ?_
  rintro m e C ⟨x21,x23,v22,hN4,hatl4⟩
  refine W_at hatl4 ?_
  obtain⟨m4,w4l,rfl,h4l,hn4,ho4⟩:=bk hN4
  replace h4l:ref12_class_l4 x1 x21 x23=some w4l:=h4l
  unfold ref12_class_l4 at h4l
  refine ba (W_rs (kMvL rfl (kMv rfl (ct h4l (cc x1 x21 ([125]:List UInt8)) rfl fun x27 _ h4l=>kNo rfl ?_))))
  refine a8 h4l rfl (fun _ h4l=> ?_) (fun _ h4l=> ?_)
  ·refine az (a5 (W_rs (kMvL rfl (kMv rfl ?_))))
   obtain⟨⟨x29,x30,x31⟩,hx29,h4l⟩:=aj h4l
   refine kUn (c5 (ref12_member_ok x1 x21 _ hx29)) ?_
   refine kUn (hMv (out:=br [(af).val x29,Pr.i64 x30,(ah).val x31]) rfl) (kUn aw ?_)
   refine kUn aw ?_
   refine kUn aw ?_
   refine bw al64 fun b32=> ?_
   refine bw al97 fun b33=>ax 3 rfl rfl (Upd.refl _) rfl Tryz.sizeOf64 (kAs rfl (ax 4 rfl rfl (Upd.refl _) rfl Tryz.sizeOf97 (ba (W_rs (kUn (ak j3) ?_)))))
   refine kUn (au 4 ty3 cg) ?_
   refine kIn rfl rfl rfl ?_
   refine a8 h4l rfl (fun _ h4l=> ?_) (fun _ h4l=> ?_)
   ·refine bj (fun e C=>ref12_class_j5 x31=some w4l/\At [(4,ao b3 0),(5,Pr.i64 0),(6,ao b4 0)] [Own.box b3 af (ApiNode.mk 0 [] [] 0 0 0 0 0 []),Own.box b4 ah x31,Own.box b32 af x29,Own.box b33 ah x31] e C) ?_ ?_
    ·rintro e C ⟨h4l,hat5⟩
     refine W_at hat5 ?_
     unfold ref12_class_j5 at h4l
     obtain rfl:=ho4 _ (Option.some.inj h4l).symm
     replace h:some ((ApiNode.mk 0 [] [] 0 0 0 0 0 []),0,x31)=some r:=h
     obtain rfl:=osj h
     exact bh ⟨rfl,[(af).val (ApiNode.mk 0 [] [] 0 0 0 0 0 []),Pr.i64 0,(ah).val x31],⟨yBox 0 ty64 aa,yT aa,yBox 1 ty97 aa,trivial⟩,aa⟩
    refine dy [(2,0,Own.box b3 af (ApiNode.mk 0 [] [] 0 0 0 0 0 [])),(4,1,Own.box b4 ah x31)] [Own.box b3 af (ApiNode.mk 0 [] [] 0 0 0 0 0 []),Own.box b4 ah x31,Own.vec v22 af x23 64,Own.box b32 af x29,Own.box b33 ah x31] hmx (by kernel_rfl) (by kernel_rfl) (show([2,4]:List Nat).Nodup by decide) (show([0,1]:List Nat).Nodup by decide) rfl rfl ?_
    refine eq1 (out:=(af).val (ApiNode.mk 0 [] [] 0 0 0 0 0 [])) (fun C2 hC=>(dp bm st64 rfl)) ?_
    refine eq1 (out:=(ah).val x31) (fun C2 hC=>(au (R:=ah) (a:=x31) (R':=ah) 4 ty97 (Sub.refl _) (hi:=(hC 4 (by kernel_rfl)).trans rfl))) ?_
    refine eqS (fun C2 hC=>dk (R:=af) (R':=af) (a:=(ApiNode.mk 0 [] [] 0 0 0 0 0 [])) (y:=(ApiNode.mk 0 [] [] 0 0 0 0 0 [])) 0 Tryz.sizeOf64 (Upd.refl _) ((hC 0 (by kernel_rfl)).trans rfl)) ?_
    refine eq1 (out:=Pr.i64 0) (fun C2 hC=>dz) ?_
    refine eqS (fun C2 hC=>dk (R:=ah) (R':=ah) (a:=(Ref12Wrong.mk 0 0)) (y:=x31) 1 Tryz.sizeOf97 (Upd.refl _) ((hC 1 (by kernel_rfl)).trans rfl)) ?_
    exact⟨h4l,⟨⟨aa,aa,aa,trivial⟩,Pick.of [0,1,3,4] rfl⟩⟩
   refine az (W_rs (kMv rfl (kUn (au 3 ty64 (Sub.refl _)) ?_)))
   refine kUn (cr (R:=af) (a:=x29) el53 (Nat.le_of_ble_eq_true rfl)) ?_
   obtain⟨x35,hx35,h4l⟩:=aj h4l
   refine ff 2 el53 hx35 (fun v36=> ?_)
   refine kAs rfl (W_r (kMv rfl (kAs rfl ?_)))
   exact⟨m4,Nat.lt_succ_self _,x30,x35,v36,hn4 _ (Option.some.inj h4l).symm,⟨⟨aa,aa,aa,aa,aa,aa,aa,trivial⟩,Pick.of [0,1,2] rfl⟩⟩
  refine db ?_
  obtain rfl:=ho4 _ (Option.some.inj h4l).symm
  exact⟨x21,x23,v22,h,atOk⟩
 refine W_rs (kMvL rfl (kMv rfl (ct h (cc x1 (w64 (x2+2)) ([101,120,116,101,110,100,115]:List UInt8)) rfl fun x11 _ h=> ?_)))
 refine a8 h rfl (fun _ h=> ?_) (fun _ h=> ?_)
 ·refine ba (W_rs (kMvL rfl (kMv rfl (kIn rfl rfl rfl (ct h (ig x1 (w64 ((w64 (x2+2))+1))) rfl fun x13 _ h=>kNo rfl ?_)))))
  refine a8 h rfl (fun _ h=> ?_) (fun _ h=> ?_)
  ·refine W_rs (kUn (dp bm st64 rfl) ?_)
   refine kMv rfl (kIn rfl rfl rfl (ct h (cp (w64 ((w64 (x2+2))+1))) rfl fun x15 _ h=>ax 0 rfl rfl (Upd.refl _) rfl Tryz.sizeOf64 (kAs rfl (ax 1 rfl rfl (Upd.refl _) rfl Tryz.sizeOf97 ?_))))
   obtain rfl:=osj h
   exact bh ⟨rfl,[(af).val (ApiNode.mk 0 [] [] 0 0 0 0 0 []),Pr.i64 0,(ah).val x15],⟨yBox 0 ty64 aa,yT aa,yBox 1 ty97 aa,trivial⟩,aa⟩
  refine az (W_rs (kMv rfl (kIn rfl rfl rfl (kAs rfl (W_r (kMv rfl (kIn rfl rfl rfl (kAs rfl ?_))))))))
  exact⟨w64 ((w64 (x2+2))+2),w64 ((w64 (x2+2))+1),h,atOk⟩
 refine az ?_
 exact⟨w64 (x2+2),(-1),h,atOk⟩
theorem ref12_mistake_ok (x1:List ApiToken) (x2:Ref12Wrong) (r:ApiMistake) (h:ref12_mistake x1 x2=some r):FnP Tryz.prog 52 [ar cf x1,(ah).val x2] ((am).val r):=by
 refine c7 (rs:=[.cell 4 30]) Tryz.func52 rfl Tryz.ntmps52 Tryz.results52 (by decide) (fun s0=> ?_)
 unfold ref12_mistake at h
 refine W_rs ?_
 refine rBox (R:=ah) (a:=x2) rfl (fun b3=> ?_)
 refine bw al30 fun b4=> ?_
 refine bj (fun e C=>∃(x5:ApiToken),ref12_mistake_j1 x2 x5=some r/\At [(4,ao b4 0)] [Own.box b3 ah x2,Own.box b4 am (ApiMistake.mk x2.Code 0 x5.At)] e C) ?_ ?_
 ·rintro e C ⟨x5,h,hat1⟩
  refine W_at hat1 ?_
  unfold ref12_mistake_j1 at h
  obtain rfl:=osj h
  exact bh ⟨rfl,[(am).val (ApiMistake.mk x2.Code 0 x5.At)],⟨yBox 1 ty30 aa,trivial⟩,aa⟩
 refine e7 13 hmx (by kernel_rfl) (by kernel_rfl) ?_
 refine lUn (ak fld97_1) ?_
 refine lUn (au 0 ty28 subRef12Wrong_Code) ?_
 refine lUn (hMvL rfl) (lUn (ak j3) ?_)
 refine lUn (au 0 ty3 cg) ?_
 refine lUn (hMvL rfl) (lUn (gy rfl Tryz.underlying41) ?_)
 refine lUn (qInt rfl rfl rfl) (lUn (qMin (a:=x2.Place) (b:=w64 ((x1.length:Int) - 1))) ?_)
 obtain⟨x5,hx5,h⟩:=aj h
 refine lUn (dh Tryz.underlying41 Tryz.sizeOf45 hx5) ?_
 refine lUn (eh fld45_2 ib) ?_
 refine lUn (cl ty3) ?_
 refine lUn (fu st30 ⟨(ApiMistake.mk x2.Code 0 0),⟨_,rfl,rfl,fun j fd hj hf=>by match j,hj with| 0,h=>exact absurd rfl h| 1,_=>cases hf;rfl| 2,_=>cases hf;rfl|_+3,_=>cases hf⟩,⟨(ApiMistake.mk x2.Code 0 x5.At),⟨_,rfl,rfl,fun j fd hj hf=>by match j,hj with| 0,_=>cases hf;rfl| 1,_=>cases hf;rfl| 2,h=>exact absurd rfl h|_+3,_=>cases hf⟩,rfl⟩⟩) ?_
 refine ax 1 rfl rfl (Upd.refl _) rfl Tryz.sizeOf30 ?_
 exact⟨x5,h,atOk⟩
def rec_ref11_Depth_spec (R:f5):Prop:=(∀(x1:ApiNode) (r:Int),R x1=some r->FnP Tryz.prog 53 [(af).val x1] (Pr.i64 r))
theorem F_ref11_Depth_step (R:f5) (ih:rec_ref11_Depth_spec R) (x1:ApiNode) (r:Int) (h:F_ref11_Depth R x1=some r):FnP Tryz.prog 53 [(af).val x1] (Pr.i64 r):=by
 refine cz (rs:=[2]) Tryz.func53 rfl Tryz.ntmps53 ⟨by decide,Tryz.results53⟩ (by decide) (fun s0=> ?_)
 unfold F_ref11_Depth at h
 refine W_rs ?_
 refine rBox (R:=af) (a:=x1) rfl (fun b2=> ?_)
 refine kAs rfl (W_rs (kAs rfl (ba (W_rs (kAs rfl (a5 ?_))))))
 obtain⟨z2l,hz2,h⟩:=aj h
 obtain⟨n2,hN2⟩:=bt hz2
 refine cv 0 (fun e C=>∃(x3:Int),ref11_Depth_k1 R x3=some r/\At [(3,Pr.i64 x3)] [Own.box b2 af x1] e C) ?_ ?_
 ·rintro e C ⟨x3,h,hat1⟩
  refine W_at hat1 ?_
  unfold ref11_Depth_k1 at h
  refine W_rs (kMv rfl (kIn rfl rfl rfl (kAs rfl ?_)))
  obtain rfl:=osj h
  exact bh ⟨rfl,aa⟩
 refine da (fun m e C=>∃(x3:Int),∃(x4:Int),dn (fun s=>ref11_Depth_l2 R x1 s.1 s.2) m (x3,x4)=some z2l/\At [(1,ao b2 0),(3,Pr.i64 x3),(4,Pr.i64 x4)] [Own.box b2 af x1] e C) n2 ⟨0,0,hN2,⟨⟨aa,aa,aa,trivial⟩,Pick.refl _⟩⟩ ?_
 rintro m e C ⟨x3,x4,hN2,hatl2⟩
 refine W_at hatl2 ?_
 obtain⟨m2,w2l,rfl,h2l,hn2,ho2⟩:=bk hN2
 replace h2l:ref11_Depth_l2 R x1 x3 x4=some w2l:=h2l
 unfold ref11_Depth_l2 at h2l
 refine ba (W_rs (kMv rfl (kUn (ak ei) ?_)))
 refine kUn (au 0 ty53 bu) ?_
 refine kUn (gy rfl Tryz.underlying53) ?_
 refine kIn rfl rfl rfl ?_
 refine a8 h2l rfl (fun _ h2l=> ?_) (fun _ h2l=> ?_)
 ·refine az (ba (a5 (W_r (kMv rfl (kUn (ak ei) ?_)))))
  refine kUn (au 0 ty53 bu) ?_
  refine kMv rfl ?_
  obtain⟨x8,hx8,h2l⟩:=aj h2l
  refine kUn (dh Tryz.underlying53 Tryz.sizeOf64 hx8) ?_
  refine kUn (cl ty64) ?_
  refine ct h2l (ih x8) rfl fun x9 _ h2l=> ?_
  refine kUn (qMax (a:=x3) (b:=x9)) ?_
  refine kAs rfl (W_r (kMv rfl (kIn rfl rfl rfl (kAs rfl ?_))))
  exact⟨m2,Nat.lt_succ_self _,(if x9>x3 then x9 else x3),w64 (x4+1),hn2 _ (Option.some.inj h2l).symm,atOk⟩
 refine db ?_
 obtain rfl:=ho2 _ (Option.some.inj h2l).symm
 exact⟨x3,h,atOk⟩
theorem rec_ref11_Depth_ok :∀n,rec_ref11_Depth_spec (rec_ref11_Depth_at n):=by
 intro n
 induction n with
 |zero=>exact(fun x1 r h=>nomatch (show none=some r from h))
 |succ n ih=>exact(fun x1 r h=>F_ref11_Depth_step (rec_ref11_Depth_at n) ih x1 r h)
theorem ref11_Depth_ok (x1:ApiNode) (r:Int) (h:ref11_Depth x1=some r):FnP Tryz.prog 53 [(af).val x1] (Pr.i64 r):=(rec_ref11_Depth_ok 1048576) x1 r h
theorem ref12_File_ok (x1:List UInt8) (r:(List ApiNode) × ApiMistake) (h:ref12_File x1=some r):FnP Tryz.prog 23 [bq x1] (br [ar af r.1,(am).val r.2]):=by
 refine c7 (rs:=[.tmp 2,.cell 3 30]) Tryz.func23 rfl Tryz.ntmps23 Tryz.results23 (by decide) (fun s0=> ?_)
 unfold ref12_File at h
 refine W_rs (kAs rfl (bw al30 fun b2=>W_rs (kMv rfl ?_)))
 obtain⟨⟨x3,x4,x5⟩,hx3,h⟩:=aj h
 refine kUn (c5 (ref03_Lex_ok x1 _ hx3)) ?_
 refine kUn (hMv (out:=br [ar cf x3,Pr.i64 x4,Pr.i64 x5]) rfl) (kUn aw ?_)
 refine kUn aw ?_
 refine kUn aw ?_
 refine kAsL rfl (kAs rfl (kAs rfl (ba (W_rs (kMv rfl (kIn rfl rfl rfl ?_))))))
 refine a8 h rfl (fun _ h=> ?_) (fun _ h=> ?_)
 ·refine W_rs (kMv rfl (kMv rfl (kUn (fu st30 ⟨(ApiMistake.mk x5 0 0),⟨_,rfl,rfl,fun j fd hj hf=>by match j,hj with| 0,h=>exact absurd rfl h| 1,_=>cases hf;rfl| 2,_=>cases hf;rfl|_+3,_=>cases hf⟩,⟨(ApiMistake.mk x5 0 x4),⟨_,rfl,rfl,fun j fd hj hf=>by match j,hj with| 0,_=>cases hf;rfl| 1,_=>cases hf;rfl| 2,h=>exact absurd rfl h|_+3,_=>cases hf⟩,rfl⟩⟩) ?_)))
  refine kAs rfl (ax 0 rfl rfl (Upd.refl _) rfl Tryz.sizeOf30 ?_)
  obtain rfl:=osj h
  exact bh ⟨rfl,[ar af [],(am).val (ApiMistake.mk x5 0 x4)],⟨yT (dm _),yBox 0 ty30 aa,trivial⟩,aa⟩
 refine az (W_rs (kAs rfl (W_rs (kAs rfl (ba (a5 ?_))))))
 obtain⟨z5l,hz5,h⟩:=aj h
 obtain⟨n5,hN5⟩:=bt hz5
 refine cv 0 (fun e C=>∃(x9:List ApiNode),∃(v7:Value),ref12_File_k4 x9=some r/\At [(3,ao b2 0),(7,Pr.is v7)] [Own.box b2 am (ApiMistake.mk 0 0 0),Own.vec v7 af x9 64] e C) ?_ ?_
 ·rintro e C ⟨x9,v7,h,hat4⟩
  refine W_at hat4 ?_
  unfold ref12_File_k4 at h
  refine ba (W_rs (kAs rfl (a5 ?_)))
  obtain⟨z2l,hz2,h⟩:=aj h
  obtain⟨n2,hN2⟩:=bt hz2
  refine cv 2 (fun e C=>ref12_File_k1 x9=some r/\At [(3,ao b2 0),(7,Pr.is v7)] [Own.box b2 am (ApiMistake.mk 0 0 0),Own.vec v7 af x9 64] e C) ?_ ?_
  ·rintro e C ⟨h,hat1⟩
   refine W_at hat1 ?_
   unfold ref12_File_k1 at h
   refine W_rs (kMv rfl (kUn (fu st30 rfl) ?_))
   refine kAs rfl (ax 0 rfl rfl (Upd.refl _) rfl Tryz.sizeOf30 ?_)
   refine W_rel 1 [2] ?_ rfl ⟨rfl,trivial⟩
   obtain rfl:=osj h
   exact bh ⟨rfl,[ar af x9,(am).val (ApiMistake.mk 0 0 0)],⟨yT aa,yBox 0 ty30 aa,trivial⟩,aa⟩
  refine da (fun m e C=>∃(x24:Int),dn (fun s=>ref12_File_l2 x9 s) m x24=some z2l/\At [(3,ao b2 0),(7,Pr.is v7),(12,Pr.i64 x24)] [Own.box b2 am (ApiMistake.mk 0 0 0),Own.vec v7 af x9 64] e C) n2 ⟨0,hN2,⟨⟨aa,aa,aa,trivial⟩,Pick.refl _⟩⟩ ?_
  rintro m e C ⟨x24,hN2,hatl2⟩
  refine W_at hatl2 ?_
  obtain⟨m2,w2l,rfl,h2l,hn2,ho2⟩:=bk hN2
  replace h2l:ref12_File_l2 x9 x24=some w2l:=h2l
  unfold ref12_File_l2 at h2l
  refine ba (W_rs (kMv rfl (kMv rfl (kUn (qLenV 1 rfl Tryz.underlying53) ?_))))
  refine kIn rfl rfl rfl ?_
  refine a8 h2l rfl (fun _ h2l=> ?_) (fun _ h2l=> ?_)
  ·refine az (ba (a5 (W_rs (kMv rfl (kMv rfl ?_)))))
   obtain⟨x27,hx27,h2l⟩:=aj h2l
   refine kUn (sb 1 (R:=af) (l:=x9) Tryz.underlying53 Tryz.sizeOf64 hx27) ?_
   refine kUn (ru (R:=af) (R':=af) (l:=x9) (a:=x27) (o:=0) 1 ty64 (Sub.refl _) (Nat.le_of_ble_eq_true rfl) hx27 rfl) ?_
   refine ct h2l (ref11_Depth_ok x27) rfl fun x28 _ h2l=>kIn rfl rfl rfl ?_
   refine a8 h2l rfl (fun _ h2l=> ?_) (fun _ h2l=> ?_)
   ·refine bj (fun e C=>∃(x30:ApiNode),ref12_File_j3 x30=some w2l/\At [(2,Pr.is (.slice none 0 0)),(3,ao b2 0)] [Own.box b2 am (ApiMistake.mk 2 0 x30.From)] e C) ?_ ?_
    ·rintro e C ⟨x30,h2l,hat3⟩
     refine W_at hat3 ?_
     unfold ref12_File_j3 at h2l
     obtain rfl:=ho2 _ (Option.some.inj h2l).symm
     replace h:some ([],(ApiMistake.mk 2 0 x30.From))=some r:=h
     obtain rfl:=osj h
     exact bh ⟨rfl,[ar af [],(am).val (ApiMistake.mk 2 0 x30.From)],⟨yT (dm _),yBox 0 ty30 aa,trivial⟩,aa⟩
    refine e7 7 hmx (by kernel_rfl) (by kernel_rfl) ?_
    refine lUn (hMvA rfl) (lUn (hMvA rfl) ?_)
    obtain⟨x30,hx30,h2l⟩:=aj h2l
    refine lUn (sb 1 (R:=af) (l:=x9) Tryz.underlying53 Tryz.sizeOf64 hx30) ?_
    refine lUn (qFieldV fld64_4) ?_
    refine lUn (ru (R:=af) (R':=Rp.int .i64) (l:=x9) (a:=x30) (o:=4) 1 ty3 fb (Nat.le_of_ble_eq_true rfl) hx30 rfl) ?_
    refine lUn (fu st30 ⟨(ApiMistake.mk 2 0 0),⟨_,rfl,rfl,fun j fd hj hf=>by match j,hj with| 0,h=>exact absurd rfl h| 1,_=>cases hf;rfl| 2,_=>cases hf;rfl|_+3,_=>cases hf⟩,⟨(ApiMistake.mk 2 0 x30.From),⟨_,rfl,rfl,fun j fd hj hf=>by match j,hj with| 0,_=>cases hf;rfl| 1,_=>cases hf;rfl| 2,h=>exact absurd rfl h|_+3,_=>cases hf⟩,rfl⟩⟩) ?_
    refine lUn (hAsA rfl) (ax 0 rfl rfl (Upd.refl _) rfl Tryz.sizeOf30 ?_)
    exact⟨x30,h2l,⟨⟨aa,aa,trivial⟩,Pick.of [0] rfl⟩⟩
   refine az (W_r (kMv rfl (kIn rfl rfl rfl (kAs rfl ?_))))
   exact⟨m2,Nat.lt_succ_self _,w64 (x24+1),hn2 _ (Option.some.inj h2l).symm,atOk⟩
  refine db ?_
  obtain rfl:=ho2 _ (Option.some.inj h2l).symm
  exact⟨h,atOk⟩
 refine W_nil [7] af 64 (fun v31=> ?_) ⟨rfl,trivial⟩
 refine da (fun m e C=>∃(x8:Int),∃(x9:List ApiNode),∃(v7:Value),dn (fun s=>ref12_File_l5 x3 s.1 s.2) m (x8,x9)=some z5l/\At [(3,ao b2 0),(4,ar cf x3),(7,Pr.is v7),(8,Pr.i64 x8)] [Own.box b2 am (ApiMistake.mk 0 0 0),Own.vec v7 af x9 64] e C) n5 ⟨0,[],v31,hN5,⟨⟨aa,aa,aa,aa,trivial⟩,Pick.refl _⟩⟩ ?_
 rintro m e C ⟨x8,x9,v7,hN5,hatl5⟩
 refine W_at hatl5 ?_
 obtain⟨m5,w5l,rfl,h5l,hn5,ho5⟩:=bk hN5
 replace h5l:ref12_File_l5 x3 x8 x9=some w5l:=h5l
 unfold ref12_File_l5 at h5l
 refine ba (W_rs (kMvL rfl (kMv rfl ?_)))
 obtain⟨x13,hx13,h5l⟩:=aj h5l
 refine kUn (dh Tryz.underlying41 Tryz.sizeOf45 hx13) ?_
 refine kUn (eh fld45_0 np) ?_
 refine kUn (cl ty3) ?_
 refine kIn rfl rfl rfl ?_
 refine a8 h5l rfl (fun _ h5l=> ?_) (fun _ h5l=> ?_)
 ·refine az (a5 (W_rs (kMvL rfl (kMv rfl ?_))))
  obtain⟨⟨x15,x16,x17⟩,hx15,h5l⟩:=aj h5l
  refine kUn (c5 (ref12_class_ok x3 x8 _ hx15)) ?_
  refine kUn (hMv (out:=br [(af).val x15,Pr.i64 x16,(ah).val x17]) rfl) (kUn aw ?_)
  refine kUn aw ?_
  refine kUn aw ?_
  refine bw al64 fun b18=> ?_
  refine bw al97 fun b19=>ax 2 rfl rfl (Upd.refl _) rfl Tryz.sizeOf64 (kAs rfl (ax 3 rfl rfl (Upd.refl _) rfl Tryz.sizeOf97 (ba (W_rs (kUn (ak j3) ?_)))))
  refine kUn (au 3 ty3 cg) ?_
  refine kIn rfl rfl rfl ?_
  refine a8 h5l rfl (fun _ h5l=> ?_) (fun _ h5l=> ?_)
  ·refine W_rs (kMvL rfl (kUn (au 3 ty97 (Sub.refl _)) ?_))
   refine ct h5l (ref12_mistake_ok x3 x17) rfl fun x21 _ h5l=>kAs rfl (ax 0 rfl rfl (Upd.refl _) rfl Tryz.sizeOf30 ?_)
   obtain rfl:=ho5 _ (Option.some.inj h5l).symm
   replace h:some ([],x21)=some r:=h
   obtain rfl:=osj h
   exact bh ⟨rfl,[ar af [],(am).val x21],⟨yT (dm _),yBox 0 ty30 aa,trivial⟩,aa⟩
  refine az (W_rs (kMv rfl (kUn (au 2 ty64 (Sub.refl _)) ?_)))
  refine kUn (cr (R:=af) (a:=x15) el53 (Nat.le_of_ble_eq_true rfl)) ?_
  obtain⟨x22,hx22,h5l⟩:=aj h5l
  refine ff 1 el53 hx22 (fun v23=> ?_)
  refine kAs rfl (W_r (kMv rfl (kAs rfl ?_)))
  exact⟨m5,Nat.lt_succ_self _,x16,x22,v23,hn5 _ (Option.some.inj h5l).symm,⟨⟨aa,aa,aa,aa,trivial⟩,Pick.of [0,1] rfl⟩⟩
 refine db ?_
 obtain rfl:=ho5 _ (Option.some.inj h5l).symm
 exact⟨x9,v7,h,atOk⟩
theorem ref16_in_ok (x1:List (List UInt8)) (x2:List UInt8) (r:Bool) (h:ref16_in x1 x2=some r):FnP Tryz.prog 110 [ar a7 x1,bq x2] (Pr.bool r):=by
 refine cz (rs:=[4]) Tryz.func110 rfl Tryz.ntmps110 ⟨by decide,Tryz.results110⟩ (by decide) (fun s0=> ?_)
 unfold ref16_in at h
 refine W_rs (kAs rfl (ba (W_rs (kAs rfl (a5 ?_)))))
 obtain⟨z2l,hz2,h⟩:=aj h
 obtain⟨n2,hN2⟩:=bt hz2
 refine cv 0 (fun e C=>ref16_in_k1=some r/\At [] [] e C) ?_ ?_
 ·rintro e C ⟨h,hat1⟩
  refine W_at hat1 ?_
  unfold ref16_in_k1 at h
  refine W_rs (kAs rfl ?_)
  obtain rfl:=osj h
  exact bh ⟨rfl,aa⟩
 refine da (fun m e C=>∃(x3:Int),dn (fun s=>rd x1 x2 s) m x3=some z2l/\At [(0,ar a7 x1),(1,bq x2),(5,Pr.i64 x3)] [] e C) n2 ⟨0,hN2,⟨⟨aa,aa,aa,trivial⟩,Pick.refl _⟩⟩ ?_
 rintro m e C ⟨x3,hN2,hatl2⟩
 refine W_at hatl2 ?_
 obtain⟨m2,w2l,rfl,h2l,hn2,ho2⟩:=bk hN2
 replace h2l:rd x1 x2 x3=some w2l:=h2l
 unfold rd at h2l
 refine ba (W_rs (kMv rfl (kMvL rfl (kUn (gy rfl Tryz.underlying22) ?_))))
 refine kIn rfl rfl rfl ?_
 refine a8 h2l rfl (fun _ h2l=> ?_) (fun _ h2l=> ?_)
 ·refine az (ba (a5 (W_rs (kMvL rfl (kMv rfl ?_)))))
  obtain⟨x6,hx6,h2l⟩:=aj h2l
  refine kUn (dh Tryz.underlying22 Tryz.sizeOf9 hx6) ?_
  refine kUn (cl ty9) ?_
  refine kMv rfl (kSt rfl rfl rfl ?_)
  refine a8 h2l rfl (fun _ h2l=> ?_) (fun _ h2l=> ?_)
  ·refine W_rs (kAs rfl ?_)
   obtain rfl:=ho2 _ (Option.some.inj h2l).symm
   replace h:some true=some r:=h
   obtain rfl:=osj h
   exact bh ⟨rfl,aa⟩
  refine az (W_r (kMv rfl (kIn rfl rfl rfl (kAs rfl ?_))))
  exact⟨m2,Nat.lt_succ_self _,w64 (x3+1),hn2 _ (Option.some.inj h2l).symm,atOk⟩
 refine db ?_
 obtain rfl:=ho2 _ (Option.some.inj h2l).symm
 exact⟨h,atOk⟩
theorem ref16_class_ok (x1:List ApiEntity) (x2:List UInt8) (r:ApiEntity × Bool) (h:ref16_class x1 x2=some r):FnP Tryz.prog 131 [ar ag x1,bq x2] (br [(ag).val r.1,Pr.bool r.2]):=by
 refine c7 (rs:=[.cell 4 49,.tmp 5]) Tryz.func131 rfl Tryz.ntmps131 Tryz.results131 (by decide) (fun s0=> ?_)
 unfold ref16_class at h
 refine W_rs (bw kh fun b3=>kAs rfl (ba (W_rs (kAs rfl (a5 ?_)))))
 obtain⟨z2l,hz2,h⟩:=aj h
 obtain⟨n2,hN2⟩:=bt hz2
 refine cv 0 (fun e C=>ref16_class_k1=some r/\At [(4,ao b3 0)] [Own.box b3 ag (ApiEntity.mk 0 [] [] [] [] false [] 0 0)] e C) ?_ ?_
 ·rintro e C ⟨h,hat1⟩
  refine W_at hat1 ?_
  unfold ref16_class_k1 at h
  refine W_rs (kUn (fu st49 rfl) ?_)
  refine ax 0 rfl rfl (Upd.refl _) rfl Tryz.sizeOf49 (kAs rfl ?_)
  obtain rfl:=osj h
  exact bh ⟨rfl,[(ag).val (ApiEntity.mk 0 [] [] [] [] false [] 0 0),Pr.bool false],⟨yBox 0 ty49 aa,yT aa,trivial⟩,aa⟩
 refine da (fun m e C=>∃(x4:Int),dn (fun s=>lm x1 x2 s) m x4=some z2l/\At [(0,ar ag x1),(1,bq x2),(4,ao b3 0),(6,Pr.i64 x4)] [Own.box b3 ag (ApiEntity.mk 0 [] [] [] [] false [] 0 0)] e C) n2 ⟨0,hN2,⟨⟨aa,aa,aa,aa,trivial⟩,Pick.refl _⟩⟩ ?_
 rintro m e C ⟨x4,hN2,hatl2⟩
 refine W_at hatl2 ?_
 obtain⟨m2,w2l,rfl,h2l,hn2,ho2⟩:=bk hN2
 replace h2l:lm x1 x2 x4=some w2l:=h2l
 unfold lm at h2l
 refine ba (W_rs (kMv rfl (kMvL rfl (kUn (gy rfl Tryz.underlying38) ?_))))
 refine kIn rfl rfl rfl ?_
 refine a8 h2l rfl (fun _ h2l=> ?_) (fun _ h2l=> ?_)
 ·refine az (ba (a5 ?_))
  refine bj (fun e C=>∃(x10:Bool),qp x1 x4 x10=some w2l/\At [(0,ar ag x1),(1,bq x2),(4,ao b3 0),(6,Pr.i64 x4),(27,Pr.bool x10)] [Own.box b3 ag (ApiEntity.mk 0 [] [] [] [] false [] 0 0)] e C) ?_ ?_
  ·rintro e C ⟨x10,h2l,hat3⟩
   refine W_at hat3 ?_
   unfold qp at h2l
   refine a8 h2l rfl (fun _ h2l=> ?_) (fun _ h2l=> ?_)
   ·refine W_rs (kMvL rfl (kMv rfl ?_))
    obtain⟨x12,hx12,h2l⟩:=aj h2l
    refine kUn (dh Tryz.underlying38 Tryz.sizeOf49 hx12) ?_
    refine kUn (cl ty49) ?_
    refine ax 0 rfl rfl (Upd.refl _) rfl Tryz.sizeOf49 (kAs rfl ?_)
    obtain rfl:=ho2 _ (Option.some.inj h2l).symm
    replace h:some (x12,true)=some r:=h
    obtain rfl:=osj h
    exact bh ⟨rfl,[(ag).val x12,Pr.bool true],⟨yBox 0 ty49 aa,yT aa,trivial⟩,aa⟩
   refine az (W_r (kMv rfl (kIn rfl rfl rfl (kAs rfl ?_))))
   exact⟨m2,Nat.lt_succ_self _,w64 (x4+1),hn2 _ (Option.some.inj h2l).symm,atOk⟩
  refine W_r (kMvL rfl (kMv rfl ?_))
  obtain⟨x7,hx7,h2l⟩:=aj h2l
  refine kUn (dh Tryz.underlying38 Tryz.sizeOf49 hx7) ?_
  refine kUn (eh mv de) ?_
  refine kUn (cl ty3) ?_
  refine kIn rfl rfl rfl (kMv rfl ?_)
  rcases bg h2l with⟨hc8,h2l⟩|⟨hc8,h2l⟩
  ·refine kGd rfl aa hc8 (hMvL rfl) (kGd rfl aa hc8 (hMvA rfl) ?_)
   obtain⟨x9,hx9,h2l⟩:=aj h2l
   refine kGd rfl aa hc8 (dh Tryz.underlying38 Tryz.sizeOf49 hx9) ?_
   refine kGd rfl aa hc8 (eh li d9) ?_
   refine kGd rfl aa hc8 (cl ty9) ?_
   refine kGd rfl aa hc8 (hMvA rfl) (kGd rfl aa hc8 (qStr rfl rfl rfl) (kPt rfl hc8 rfl ?_))
   exact⟨x9.Id==x2,h2l,atOk⟩
  refine kSkT rfl aa hc8 (kSkT rfl aa hc8 (kSkT rfl aa hc8 (kSkT rfl aa hc8 (kSkT rfl aa hc8 (kSkT rfl aa hc8 (kSkT rfl aa hc8 (kPf rfl hc8 rfl ?_)))))))
  exact⟨false,h2l,atOk⟩
 refine db ?_
 obtain rfl:=ho2 _ (Option.some.inj h2l).symm
 exact⟨h,atOk⟩
theorem ref16_Above_ok (x1:List ApiEntity) (x2:List UInt8) (r:(List (List UInt8))) (h:ref16_Above x1 x2=some r):FnP Tryz.prog 111 [ar ag x1,bq x2] (ar a7 r):=by
 refine cz (rs:=[4]) Tryz.func111 rfl Tryz.ntmps111 ⟨by decide,Tryz.results111⟩ (by decide) (fun s0=> ?_)
 unfold ref16_Above at h
 refine W_rs (kAs rfl (W_rs (kAs rfl (a5 ?_))))
 obtain⟨n1,hN1⟩:=bt h
 refine W_nil [5] a7 9 (fun v18=> ?_) ⟨rfl,trivial⟩
 refine da (fun m e C=>∃(x3:List UInt8),∃(x5:List (List UInt8)),∃(v4:Value),dn (fun s=>ln x1 s.1 s.2) m (x3,x5)=some r/\At [(0,ar ag x1),(1,bq x3),(5,Pr.is v4)] [Own.vec v4 a7 x5 9] e C) n1 ⟨x2,[],v18,hN1,⟨⟨aa,aa,aa,trivial⟩,Pick.refl _⟩⟩ ?_
 rintro m e C ⟨x3,x5,v4,hN1,hatl1⟩
 refine W_at hatl1 ?_
 obtain⟨m1,w1l,rfl,h1l,hn1,ho1⟩:=bk hN1
 replace h1l:ln x1 x3 x5=some w1l:=h1l
 unfold ln at h1l
 refine a5 (W_rs (kMvL rfl (kMv rfl ?_)))
 obtain⟨⟨x9,x10⟩,hx9,h1l⟩:=aj h1l
 refine kUn (c5 (ref16_class_ok x1 x3 _ hx9)) ?_
 refine kUn (hMv (out:=br [(ag).val x9,Pr.bool x10]) rfl) (kUn aw ?_)
 refine kUn aw ?_
 refine bw kh fun b11=>ax 1 rfl rfl (Upd.refl _) rfl Tryz.sizeOf49 (kAs rfl (W_rs (kMv rfl (kMv rfl ?_))))
 obtain⟨x12,hx12,h1l⟩:=aj h1l
 refine kUn (qCallB 0 (ref16_in_ok x5 x3 _ hx12) ⟨.inr ⟨aa,rfl⟩,.inl aa,trivial⟩ (fun _ _ _ h=>h)) ?_
 refine kAs rfl (ba ?_)
 refine bj (fun e C=>∃(x14:Bool),qt x5 x3 x9 x14=some w1l/\At [(0,ar ag x1),(1,bq x3),(5,Pr.is v4),(6,ao b11 0),(22,Pr.bool x14)] [Own.vec v4 a7 x5 9,Own.box b11 ag x9] e C) ?_ ?_
 ·rintro e C ⟨x14,h1l,hat2⟩
  refine W_at hat2 ?_
  unfold qt at h1l
  refine a8 h1l rfl (fun _ h1l=> ?_) (fun _ h1l=> ?_)
  ·refine W_rs (kMv rfl (kAs rfl ?_))
   have h:some x5=some r:=congrArg some (ho1 _ (Option.some.inj h1l).symm)
   refine W_rel 0 [4] ?_ rfl ⟨rfl,trivial⟩
   obtain rfl:=osj h
   exact bh ⟨rfl,aa⟩
  refine az (W_rs (kMv rfl (kMv rfl (kUn (cr (R:=a7) (a:=x3) el22 (Nat.le_of_ble_eq_true rfl)) ?_))))
  obtain⟨x16,hx16,h1l⟩:=aj h1l
  refine ff 0 el22 hx16 (fun v17=> ?_)
  refine kAs rfl (W_r (kUn (ak fld49_4) ?_))
  refine kUn (au 1 ty9 fr) ?_
  refine kAs rfl ?_
  exact⟨m1,Nat.lt_succ_self _,x9.Type_,x16,v17,hn1 _ (Option.some.inj h1l).symm,⟨⟨aa,aa,aa,trivial⟩,Pick.of [0] rfl⟩⟩
 refine W_r (kMv rfl (kNo rfl (kMv rfl ?_)))
 rcases bg h1l with⟨hc13,h1l⟩|⟨hc13,h1l⟩
 ·refine kSkF rfl aa hc13 (kPt rfl hc13 rfl ?_)
  exact⟨true,h1l,atOk⟩
 refine kGd rfl aa hc13 (hMvA rfl) (kPf rfl hc13 rfl ?_)
 exact⟨x12,h1l,atOk⟩
theorem ref16_Below_ok (x1:List ApiEntity) (x2 x3:List UInt8) (r:Bool) (h:ref16_Below x1 x2 x3=some r):FnP Tryz.prog 62 [ar ag x1,bq x2,bq x3] (Pr.bool r):=by
 refine cz (rs:=[6]) Tryz.func62 rfl Tryz.ntmps62 ⟨by decide,Tryz.results62⟩ (by decide) (fun s0=> ?_)
 unfold ref16_Below at h
 refine W_rs (kAs rfl (W_rs (kMvL rfl (kMv rfl (ct h (ref16_Above_ok x1 x2) rfl fun x4 _ h=>kMv rfl (ct h (ref16_in_ok x4 x3) rfl fun x5 _ h=>kAs rfl ?_))))))
 obtain rfl:=osj h
 exact bh ⟨rfl,aa⟩
end Go.Proofs.YtcndghapmoaidaaGreatDoor
