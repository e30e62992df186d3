/- The code comes to what these functions say (printed by wip/gen/gen.py). -/
import Derived.Test.YtgkcoicaopilhaaGreatDoorZX
import Derived.Test.YtgkcoicaopilhaaGreatDoorZT
set_option linter.unusedSimpArgs false
set_option linter.unusedVariables false
/- The code comes to what these functions say (printed by wip/gen/gen.py). -/
set_option linter.unusedSectionVars false
set_option maxRecDepth 100000
set_option maxHeartbeats 4000000
namespace Go.Proofs.YtgkcoicaopilhaaGreatDoor
open Go Go.Cn

def rec_shape_erase_spec (R : rec_shape_erase_T) : Prop := (∀ (x1 : ApiNode) (x2 : ((List UInt8) → Option (List UInt8))) (r : ApiNode), R x1 x2 = some r → FnP Tryz.prog 26 [(rApiNode).val x1, Pr.pfn Tryz.prog (spec48 x2)] ((rApiNode).val r))
theorem F_shape_erase_step (R : rec_shape_erase_T) (ih : rec_shape_erase_spec R) (x1 : ApiNode) (x2 : ((List UInt8) → Option (List UInt8))) (r : ApiNode) (h : F_shape_erase R x1 x2 = some r) : FnP Tryz.prog 26 [(rApiNode).val x1, Pr.pfn Tryz.prog (spec48 x2)] ((rApiNode).val r) := by
  refine fn_introR (n := 44) (rs := [.cell 4 24]) Tryz.func26 rfl Tryz.ntmps26 Tryz.results26 (by decide) (fun s0 => ?_)
  unfold F_shape_erase at h
  refine W_rs ?_
  refine rBox (R := rApiNode) (a := x1) rfl (fun b3 => ?_)
  refine rAlloc (R := rApiNode) (z := (ApiNode.mk 0 [] [] 0 0 0 0 0 [])) Tryz.zeroValue24 (fun _ => (by rw [rApiNode_eq]; exact ⟨_, ⟨_, _, rfl, rfl, ⟨_, _, rfl, rfl, ⟨_, _, rfl, rfl, ⟨_, _, rfl, rfl, ⟨_, _, rfl, rfl, ⟨_, _, rfl, rfl, ⟨_, _, rfl, rfl, ⟨_, _, rfl, rfl, ⟨_, _, rfl, ⟨_, rfl, none, 0, rfl, ⟨Nat.le_refl _, fun _ => rfl⟩, .inl rfl⟩, rfl⟩⟩⟩⟩⟩⟩⟩⟩⟩, rfl⟩)) (fun b4 => ?_)
  refine W_join (fun e C => ∃ (x7 : ApiNode), shape_erase_j3 R x2 x7 = some r ∧ At [(1, Pr.pfn Tryz.prog (spec48 x2)), (2, Pr.pt b3 0), (4, Pr.pt b4 0)] [Own.box b3 rApiNode x7, Own.box b4 rApiNode (ApiNode.mk 0 [] [] 0 0 0 0 0 [])] e C) ?_ ?_
  · rintro e C ⟨x7, h, hat3⟩
    refine W_at hat3 ?_
    clear hat3
    unfold shape_erase_j3 at h
    refine W_rs ?_
    refine rq (out := Pr.pfn Tryz.prog (spec48 x2)) qMove ?_
    refine rq (out := Pr.pt b3 2) (qFieldP fld24_2) ?_
    refine rq (out := Pr.str x7.Type_) (qLoad (R := rApiNode) (a := x7) (R' := Rp.str) 0 ty9 subApiNode_Type) ?_
    obtain ⟨x8, hx8, h⟩ := bindSome h
    refine rq (out := Pr.str x8) (qCallP (spec := spec48 x2) ⟨_, _, rfl, rfl, hx8⟩) ?_
    refine rq (out := Pr.pt b3 2) (qFieldP fld24_2) ?_
    refine rStore (R := rApiNode) (R' := Rp.str) (a := x7) (y := x8) 0 Tryz.sizeOf9 updApiNode_Type ?_
    refine W_rs ?_
    refine rq (out := Pr.pt b3 8) (qFieldP fld24_8) ?_
    refine rq (out := Pr.lst rApiNode (({ x7 with Type_ := x8 }).Kids)) (qLoad (R := rApiNode) (a := { x7 with Type_ := x8 }) (R' := Rp.list rApiNode) 0 ty22 subApiNode_Kids) ?_
    refine rq (out := Pr.i64 ((({ x7 with Type_ := x8 }).Kids).length : Int)) (qLenL rfl Tryz.underlying22) ?_
    obtain ⟨x9, hx9, h⟩ := bindSome h
    refine rMake (R := rApiNode) (z := (ApiNode.mk 0 [] [] 0 0 0 0 0 [])) el22 Tryz.zeroValue24 (fun _ => (by rw [rApiNode_eq]; exact ⟨_, _, rfl, rfl, ⟨_, _, rfl, rfl, ⟨_, _, rfl, rfl, ⟨_, _, rfl, rfl, ⟨_, _, rfl, rfl, ⟨_, _, rfl, rfl, ⟨_, _, rfl, rfl, ⟨_, _, rfl, rfl, ⟨_, _, rfl, ⟨_, rfl, none, 0, rfl, ⟨Nat.le_refl _, fun _ => rfl⟩, .inl rfl⟩, rfl⟩⟩⟩⟩⟩⟩⟩⟩⟩)) hx9 (fun v10 => ?_)
    refine rq (out := Pr.is v10) qAssign ?_
    refine W_seq ?_
    refine W_rs ?_
    refine rq (out := Pr.pt b3 8) (qFieldP fld24_8) ?_
    refine rq (out := Pr.lst rApiNode (({ x7 with Type_ := x8 }).Kids)) (qLoad (R := rApiNode) (a := { x7 with Type_ := x8 }) (R' := Rp.list rApiNode) 0 ty22 subApiNode_Kids) ?_
    refine rq (out := Pr.i64 ((({ x7 with Type_ := x8 }).Kids).length : Int)) (qLenL rfl Tryz.underlying22) ?_
    refine rq (out := Pr.i64 0) qMove ?_
    refine W_block ?_
    obtain ⟨z2l, hz2, h⟩ := bindSome h
    obtain ⟨n2, hN2⟩ := iter_some hz2
    clear hz2
    refine W_after 0 (fun e C => ∃ (x12 : List ApiNode), shape_erase_k1 R x7 x8 x12 = some r ∧ At [(2, Pr.pt b3 0), (4, Pr.pt b4 0), (5, Pr.is v10)] [Own.box b3 rApiNode ({ x7 with Type_ := x8 }), Own.box b4 rApiNode (ApiNode.mk 0 [] [] 0 0 0 0 0 []), Own.vec v10 rApiNode x12 24] e C) ?_ ?_
    · rintro e C ⟨x12, h, hat1⟩
      refine W_at hat1 ?_
      clear hat1
      unfold shape_erase_k1 at h
      refine W_rs ?_
      refine rq (out := Pr.is v10) qMove ?_
      refine rq (out := Pr.pt b3 8) (qFieldP fld24_8) ?_
      refine rRel 2 [5, 41] ?_ rfl ⟨rfl, rfl, trivial⟩
      refine rStore (R := rApiNode) (R' := Rp.list rApiNode) (a := { x7 with Type_ := x8 }) (y := x12) 0 Tryz.sizeOf22 updApiNode_Kids ?_
      refine W_rs ?_
      refine rq (out := (rApiNode).val ({ { x7 with Type_ := x8 } with Kids := x12 })) (qLoad (R := rApiNode) (a := { { x7 with Type_ := x8 } with Kids := x12 }) (R' := rApiNode) 0 ty24 (Sub.refl _)) ?_
      refine rStore (R := rApiNode) (R' := rApiNode) (a := (ApiNode.mk 0 [] [] 0 0 0 0 0 [])) (y := { { x7 with Type_ := x8 } with Kids := x12 }) 1 Tryz.sizeOf24 (Upd.refl _) ?_
      obtain rfl := Option.some.inj h
      exact W_ret ⟨rfl, [(rApiNode).val ({ { x7 with Type_ := x8 } with Kids := x12 })], ⟨yBox 1 ty24 Pr.le_rfl, trivial⟩, Pr.le_rfl⟩
    · refine W_loop (fun m e C => ∃ (x11 : Int), ∃ (x12 : List ApiNode), IterN (fun s => shape_erase_l2 R x7 x8 x2 s.1 s.2) m (x11, x12) = some z2l ∧ At [(1, Pr.pfn Tryz.prog (spec48 x2)), (2, Pr.pt b3 0), (4, Pr.pt b4 0), (5, Pr.is v10), (26, Pr.i64 ((({ x7 with Type_ := x8 }).Kids).length : Int)), (27, Pr.i64 x11)] [Own.box b3 rApiNode ({ x7 with Type_ := x8 }), Own.box b4 rApiNode (ApiNode.mk 0 [] [] 0 0 0 0 0 []), Own.vec v10 rApiNode x12 24] e C) n2 ⟨0, (List.replicate x9 (ApiNode.mk 0 [] [] 0 0 0 0 0 [])), hN2, ⟨⟨Pr.le_rfl, Pr.le_rfl, Pr.le_rfl, Pr.le_rfl, Pr.le_rfl, Pr.le_rfl, trivial⟩, Pick.refl _⟩⟩ ?_
      clear hN2
      rintro m e C ⟨x11, x12, hN2, hatl2⟩
      refine W_at hatl2 ?_
      clear hatl2
      obtain ⟨m2, w2l, rfl, h2l, hn2, ho2⟩ := iterN_some hN2
      clear hN2
      replace h2l : shape_erase_l2 R x7 x8 x2 x11 x12 = some w2l := h2l
      unfold shape_erase_l2 at h2l
      refine W_rs ?_
      refine rq (out := Pr.bool (decide (x11 < ((({ x7 with Type_ := x8 }).Kids).length : Int)))) qInt ?_
      refine W_seq ?_
      refine W_cond (b := decide (x11 < ((({ x7 with Type_ := x8 }).Kids).length : Int))) rfl (fun hc15 => ?_) (fun hc15 => ?_)
      · replace h2l := iteT hc15 h2l
        refine W_skip ?_
        refine W_seq ?_
        refine W_block ?_
        refine W_rs ?_
        refine rq (out := Pr.i64 x11) qMove ?_
        refine rq (out := Pr.i64 x11) qAssign ?_
        refine W_r ?_
        refine rq (out := Pr.is v10) qMove ?_
        refine rq (out := Pr.i64 x11) qMove ?_
        refine rq (out := Pr.pt b3 8) (qFieldP fld24_8) ?_
        refine rq (out := Pr.lst rApiNode (({ x7 with Type_ := x8 }).Kids)) (qLoad (R := rApiNode) (a := { x7 with Type_ := x8 }) (R' := Rp.list rApiNode) 0 ty22 subApiNode_Kids) ?_
        refine rq (out := Pr.i64 x11) qMove ?_
        obtain ⟨x16, hx16, h2l⟩ := bindSome h2l
        refine rq (out := Pr.cpt rApiNode x16) (qIdxA (R := rApiNode) (l := ({ x7 with Type_ := x8 }).Kids) Tryz.underlying22 Tryz.sizeOf24 hx16) ?_
        refine rq (out := (rApiNode).val x16) (qLoadC (R := rApiNode) (a := x16) ty24) ?_
        refine rq (out := Pr.pfn Tryz.prog (spec48 x2)) qMove ?_
        obtain ⟨x17, hx17, h2l⟩ := bindSome h2l
        refine rq (out := (rApiNode).val x17) (qCall (ih x16 x2 _ hx17)) ?_
        obtain ⟨x18, hx18, h2l⟩ := bindSome h2l
        refine rq (out := Pr.vpt v10 (Int.toNat x11 * (rApiNode).size)) (qIdxV 2 (R := rApiNode) (l := x12) Tryz.underlying22 Tryz.sizeOf24 hx18) ?_
        refine rStoreE (R := rApiNode) (R' := rApiNode) (l := x12) (a := x18) (y := x17) (o := 0) 2 Tryz.sizeOf24 (Upd.refl _) hx18 rfl ?_
        refine W_r ?_
        refine rq (out := Pr.i64 (w64 (x11 + 1))) qInt ?_
        refine rq (out := Pr.i64 (w64 (x11 + 1))) qMove ?_
        exact ⟨m2, Nat.lt_succ_self _, w64 (x11 + 1), (List.set x12 (Int.toNat x11) x17), hn2 _ (Option.some.inj h2l).symm, ⟨⟨Pr.le_rfl, Pr.le_rfl, Pr.le_rfl, Pr.le_rfl, Pr.le_rfl, Pr.le_rfl, trivial⟩, Pick.refl _⟩⟩
      · replace h2l := iteF hc15 h2l
        refine W_exit ?_
        obtain rfl := ho2 _ (Option.some.inj h2l).symm
        exact ⟨x12, h, ⟨⟨Pr.le_rfl, Pr.le_rfl, Pr.le_rfl, trivial⟩, Pick.refl _⟩⟩
  · refine W_rs ?_
    refine rq (out := Pr.pt b3 0) (qFieldP fld24_0) ?_
    refine rq (out := Pr.i64 x1.Kind) (qLoad (R := rApiNode) (a := x1) (R' := Rp.int .i64) 0 ty3 subApiNode_Kind) ?_
    refine rq (out := Pr.bool (x1.Kind != 24)) qInt ?_
    refine W_cond (b := x1.Kind != 24) rfl (fun hc5 => ?_) (fun hc5 => ?_)
    · replace h := iteT hc5 h
      refine W_r ?_
      refine rq (out := Pr.pfn Tryz.prog (spec48 x2)) qMove ?_
      refine rq (out := Pr.pt b3 1) (qFieldP fld24_1) ?_
      refine rq (out := Pr.str x1.Text) (qLoad (R := rApiNode) (a := x1) (R' := Rp.str) 0 ty9 subApiNode_Text) ?_
      obtain ⟨x6, hx6, h⟩ := bindSome h
      refine rq (out := Pr.str x6) (qCallP (spec := spec48 x2) ⟨_, _, rfl, rfl, hx6⟩) ?_
      refine rq (out := Pr.pt b3 1) (qFieldP fld24_1) ?_
      refine rStore (R := rApiNode) (R' := Rp.str) (a := x1) (y := x6) 0 Tryz.sizeOf9 updApiNode_Text ?_
      exact ⟨{ x1 with Text := x6 }, h, ⟨⟨Pr.le_rfl, Pr.le_rfl, Pr.le_rfl, trivial⟩, Pick.refl _⟩⟩
    · replace h := iteF hc5 h
      refine W_skip ?_
      exact ⟨x1, h, ⟨⟨Pr.le_rfl, Pr.le_rfl, Pr.le_rfl, trivial⟩, Pick.refl _⟩⟩
theorem rec_shape_erase_ok : ∀ n, rec_shape_erase_spec (rec_shape_erase_at n) := by
  intro n
  induction n with
  | zero => exact (fun x1 x2 r h => nomatch (show none = some r from h))
  | succ n ih => exact (fun x1 x2 r h => F_shape_erase_step (rec_shape_erase_at n) ih x1 x2 r h)
theorem shape_erase_ok (x1 : ApiNode) (x2 : ((List UInt8) → Option (List UInt8))) (r : ApiNode) (h : shape_erase x1 x2 = some r) : FnP Tryz.prog 26 [(rApiNode).val x1, Pr.pfn Tryz.prog (spec48 x2)] ((rApiNode).val r) := (rec_shape_erase_ok 1048576) x1 x2 r h
theorem shape_Erase_ok (x1 : ApiNode) (x2 : List (List UInt8)) (r : ApiNode) (h : shape_Erase x1 x2 = some r) : FnP Tryz.prog 10 [(rApiNode).val x1, Pr.lst Rp.str x2] ((rApiNode).val r) := by
  refine fn_introR (n := 9) (rs := [.cell 4 24]) Tryz.func10 rfl Tryz.ntmps10 Tryz.results10 (by decide) (fun s0 => ?_)
  unfold shape_Erase at h
  refine W_rs ?_
  refine rBox (R := rApiNode) (a := x1) rfl (fun b3 => ?_)
  refine rAlloc (R := rApiNode) (z := (ApiNode.mk 0 [] [] 0 0 0 0 0 [])) Tryz.zeroValue24 (fun _ => (by rw [rApiNode_eq]; exact ⟨_, ⟨_, _, rfl, rfl, ⟨_, _, rfl, rfl, ⟨_, _, rfl, rfl, ⟨_, _, rfl, rfl, ⟨_, _, rfl, rfl, ⟨_, _, rfl, rfl, ⟨_, _, rfl, rfl, ⟨_, _, rfl, rfl, ⟨_, _, rfl, ⟨_, rfl, none, 0, rfl, ⟨Nat.le_refl _, fun _ => rfl⟩, .inl rfl⟩, rfl⟩⟩⟩⟩⟩⟩⟩⟩⟩, rfl⟩)) (fun b4 => ?_)
  refine W_join (fun e C => ∃ (x6 : ApiNode), shape_Erase_j1 x6 = some r ∧ At [(4, Pr.pt b4 0)] [Own.box b3 rApiNode x1, Own.box b4 rApiNode x6] e C) ?_ ?_
  · rintro e C ⟨x6, h, hat1⟩
    refine W_at hat1 ?_
    clear hat1
    unfold shape_Erase_j1 at h
    obtain rfl := Option.some.inj h
    exact W_ret ⟨rfl, [(rApiNode).val x6], ⟨yBox 1 ty24 Pr.le_rfl, trivial⟩, Pr.le_rfl⟩
  · refine W_draw 4 hmx (by kernel_rfl) (by kernel_rfl) ?_
    refine qq (out := (rApiNode).val x1) (qLoad (R := rApiNode) (a := x1) (R' := rApiNode) 0 ty24 (Sub.refl _)) ?_
    refine qq (out := Pr.lst Rp.str x2) qMove ?_
    obtain ⟨x5, hx5, h⟩ := bindSome h
    refine qq (out := Pr.pfn Tryz.prog (spec48 x5)) (qCall (shape_eraser_ok x2 _ hx5)) ?_
    obtain ⟨x6, hx6, h⟩ := bindSome h
    refine qq (out := (rApiNode).val x6) (qCall (shape_erase_ok x1 x5 _ hx6)) ?_
    refine rStore (R := rApiNode) (R' := rApiNode) (a := (ApiNode.mk 0 [] [] 0 0 0 0 0 [])) (y := x6) 1 Tryz.sizeOf24 (Upd.refl _) ?_
    exact ⟨x6, h, ⟨⟨Pr.le_rfl, trivial⟩, Pick.refl _⟩⟩
theorem print_list_ok (x1 : List ApiNode) (x2 : (ApiNode → Option (List UInt8))) (r : (List UInt8)) (h : print_list x1 x2 = some r) : FnP Tryz.prog 48 [Pr.lst rApiNode x1, Pr.pfn Tryz.prog (spec51 x2)] (Pr.str r) := by
  refine fn_intro (n := 25) (rs := [4]) Tryz.func48 rfl Tryz.ntmps48 ⟨by decide, Tryz.results48⟩ (by decide) (fun s0 => ?_)
  unfold print_list at h
  refine W_rs ?_
  refine rq (out := Pr.str []) qAssign ?_
  refine W_rs ?_
  refine rq (out := Pr.is (.slice none 0 0)) qAssign ?_
  refine W_seq ?_
  refine W_rs ?_
  refine rq (out := Pr.lst rApiNode x1) qMove ?_
  refine rq (out := Pr.i64 (x1.length : Int)) (qLenL rfl Tryz.underlying22) ?_
  refine rq (out := Pr.i64 0) qMove ?_
  refine W_block ?_
  obtain ⟨z2l, hz2, h⟩ := bindSome h
  obtain ⟨n2, hN2⟩ := iter_some hz2
  clear hz2
  refine W_after 0 (fun e C => ∃ (x5 : List (List UInt8)), ∃ (v3 : Value), print_list_k1 x5 = some r ∧ At [(5, Pr.is v3)] [Own.vec v3 Rp.str x5 9] e C) ?_ ?_
  · rintro e C ⟨x5, v3, h, hat1⟩
    refine W_at hat1 ?_
    clear hat1
    unfold print_list_k1 at h
    refine W_rs ?_
    refine rq (out := Pr.is v3) qMove ?_
    obtain ⟨x15, hx15, h⟩ := bindSome h
    refine rRel 0 [5, 21] ?_ rfl ⟨rfl, rfl, trivial⟩
    refine rq (out := Pr.str x15) (qCall (strings_Join_ok x5 ([44, 32] : List UInt8) _ hx15)) ?_
    obtain ⟨x16, hx16, h⟩ := bindSome h
    refine rq (out := Pr.str x16) (qCat' hx16) ?_
    obtain ⟨x17, hx17, h⟩ := bindSome h
    refine rq (out := Pr.str x17) (qCat' hx17) ?_
    refine rq (out := Pr.str x17) qAssign ?_
    obtain rfl := Option.some.inj h
    exact W_ret ⟨rfl, Pr.le_rfl⟩
  · refine W_nil [5] Rp.str 9 (fun v18 => ?_) ⟨rfl, trivial⟩
    refine W_loop (fun m e C => ∃ (x4 : Int), ∃ (x5 : List (List UInt8)), ∃ (v3 : Value), IterN (fun s => print_list_l2 x1 x2 s.1 s.2) m (x4, x5) = some z2l ∧ At [(1, Pr.pfn Tryz.prog (spec51 x2)), (5, Pr.is v3), (8, Pr.lst rApiNode x1), (9, Pr.i64 (x1.length : Int)), (10, Pr.i64 x4)] [Own.vec v3 Rp.str x5 9] e C) n2 ⟨0, [], v18, hN2, ⟨⟨Pr.le_rfl, Pr.le_rfl, Pr.le_rfl, Pr.le_rfl, Pr.le_rfl, trivial⟩, Pick.refl _⟩⟩ ?_
    clear hN2
    rintro m e C ⟨x4, x5, v3, hN2, hatl2⟩
    refine W_at hatl2 ?_
    clear hatl2
    obtain ⟨m2, w2l, rfl, h2l, hn2, ho2⟩ := iterN_some hN2
    clear hN2
    replace h2l : print_list_l2 x1 x2 x4 x5 = some w2l := h2l
    unfold print_list_l2 at h2l
    refine W_rs ?_
    refine rq (out := Pr.bool (decide (x4 < (x1.length : Int)))) qInt ?_
    refine W_seq ?_
    refine W_cond (b := decide (x4 < (x1.length : Int))) rfl (fun hc9 => ?_) (fun hc9 => ?_)
    · replace h2l := iteT hc9 h2l
      refine W_skip ?_
      refine W_seq ?_
      refine W_block ?_
      refine W_rs ?_
      obtain ⟨x10, hx10, h2l⟩ := bindSome h2l
      refine rq (out := Pr.cpt rApiNode x10) (qIdxA (R := rApiNode) (l := x1) Tryz.underlying22 Tryz.sizeOf24 hx10) ?_
      refine rq (out := (rApiNode).val x10) (qLoadC (R := rApiNode) (a := x10) ty24) ?_
      refine rAlloc (R := rApiNode) (z := (ApiNode.mk 0 [] [] 0 0 0 0 0 [])) Tryz.zeroValue24 (fun _ => (by rw [rApiNode_eq]; exact ⟨_, ⟨_, _, rfl, rfl, ⟨_, _, rfl, rfl, ⟨_, _, rfl, rfl, ⟨_, _, rfl, rfl, ⟨_, _, rfl, rfl, ⟨_, _, rfl, rfl, ⟨_, _, rfl, rfl, ⟨_, _, rfl, rfl, ⟨_, _, rfl, ⟨_, rfl, none, 0, rfl, ⟨Nat.le_refl _, fun _ => rfl⟩, .inl rfl⟩, rfl⟩⟩⟩⟩⟩⟩⟩⟩⟩, rfl⟩)) (fun b11 => ?_)
      refine rStore (R := rApiNode) (R' := rApiNode) (a := (ApiNode.mk 0 [] [] 0 0 0 0 0 [])) (y := x10) 1 Tryz.sizeOf24 (Upd.refl _) ?_
      refine W_r ?_
      refine rq (out := Pr.is v3) qMove ?_
      refine rq (out := Pr.pfn Tryz.prog (spec51 x2)) qMove ?_
      refine rq (out := (rApiNode).val x10) (qLoad (R := rApiNode) (a := x10) (R' := rApiNode) 1 ty24 (Sub.refl _)) ?_
      obtain ⟨x12, hx12, h2l⟩ := bindSome h2l
      refine rq (out := Pr.str x12) (qCallP (spec := spec51 x2) ⟨_, _, rfl, rfl, hx12⟩) ?_
      refine rq (out := Pr.lst Rp.str ([x12] : List (List UInt8))) (qBuildSlice1 (R := Rp.str) (a := x12) el25 (Nat.le_of_ble_eq_true rfl)) ?_
      obtain ⟨x13, hx13, h2l⟩ := bindSome h2l
      refine rAppend' 0 el25 hx13 (fun v14 => ?_)
      refine rq (out := Pr.is v14) qAssign ?_
      refine W_r ?_
      refine rq (out := Pr.i64 (w64 (x4 + 1))) qInt ?_
      refine rq (out := Pr.i64 (w64 (x4 + 1))) qMove ?_
      exact ⟨m2, Nat.lt_succ_self _, w64 (x4 + 1), x13, v14, hn2 _ (Option.some.inj h2l).symm, ⟨⟨Pr.le_rfl, Pr.le_rfl, Pr.le_rfl, Pr.le_rfl, Pr.le_rfl, trivial⟩, Pick.of [0] rfl⟩⟩
    · replace h2l := iteF hc9 h2l
      refine W_exit ?_
      obtain rfl := ho2 _ (Option.some.inj h2l).symm
      exact ⟨x5, v3, h, ⟨⟨Pr.le_rfl, trivial⟩, Pick.refl _⟩⟩
theorem print_Member_1_ok (x1 : ApiNode) (r : (List UInt8)) (h : print_Member_1 x1 = some r) : FnP Tryz.prog 49 [(rApiNode).val x1] (Pr.str r) := by
  refine fn_intro (n := 9) (rs := [2]) Tryz.func49 rfl Tryz.ntmps49 ⟨by decide, Tryz.results49⟩ (by decide) (fun s0 => ?_)
  unfold print_Member_1 at h
  refine W_rs ?_
  refine rBox (R := rApiNode) (a := x1) rfl (fun b2 => ?_)
  refine rq (out := Pr.str []) qAssign ?_
  refine W_rs ?_
  refine rq (out := Pr.pt b2 2) (qFieldP fld24_2) ?_
  refine rq (out := Pr.str x1.Type_) (qLoad (R := rApiNode) (a := x1) (R' := Rp.str) 0 ty9 subApiNode_Type) ?_
  obtain ⟨x3, hx3, h⟩ := bindSome h
  refine rq (out := Pr.str x3) (qCat' hx3) ?_
  refine rq (out := Pr.pt b2 1) (qFieldP fld24_1) ?_
  refine rq (out := Pr.str x1.Text) (qLoad (R := rApiNode) (a := x1) (R' := Rp.str) 0 ty9 subApiNode_Text) ?_
  obtain ⟨x4, hx4, h⟩ := bindSome h
  refine rq (out := Pr.str x4) (qCat' hx4) ?_
  refine rq (out := Pr.str x4) qAssign ?_
  obtain rfl := Option.some.inj h
  exact W_ret ⟨rfl, Pr.le_rfl⟩
theorem print_Binds_ok (x1 : List UInt8) (r : Int) (h : print_Binds x1 = some r) : FnP Tryz.prog 147 [Pr.str x1] (Pr.i64 r) := by
  refine fn_intro (n := 37) (rs := [2]) Tryz.func147 rfl Tryz.ntmps147 ⟨by decide, Tryz.results147⟩ (by decide) (fun s0 => ?_)
  unfold print_Binds at h
  refine W_rs ?_
  refine rq (out := Pr.i64 0) qAssign ?_
  refine W_rs ?_
  refine rq (out := Pr.i64 0) qAssign ?_
  refine W_join (fun e C => ∃ (x24 : Int), print_Binds_j1 x24 = some r ∧ At [(3, Pr.i64 x24)] [] e C) ?_ ?_
  · rintro e C ⟨x24, h, hat1⟩
    refine W_at hat1 ?_
    clear hat1
    unfold print_Binds_j1 at h
    refine W_rs ?_
    refine rq (out := Pr.i64 x24) qMove ?_
    refine rq (out := Pr.i64 x24) qAssign ?_
    obtain rfl := Option.some.inj h
    exact W_ret ⟨rfl, Pr.le_rfl⟩
  · refine W_rs ?_
    refine rq (out := Pr.str x1) qMove ?_
    refine W_block ?_
    refine W_join (fun e C => ∃ (x23 : Int), print_Binds_j2 x23 = some r ∧ At [(3, Pr.i64 x23)] [] e C) ?_ ?_
    · rintro e C ⟨x23, h, hat2⟩
      refine W_at hat2 ?_
      clear hat2
      unfold print_Binds_j2 at h
      refine W_rs ?_
      refine rq (out := Pr.i64 x23) qMove ?_
      refine rq (out := Pr.i64 (w64 (x23 + 1))) qInt ?_
      refine rq (out := Pr.i64 (w64 (x23 + 1))) qAssign ?_
      refine W_exit ?_
      exact ⟨w64 (x23 + 1), h, ⟨⟨Pr.le_rfl, trivial⟩, Pick.refl _⟩⟩
    · refine W_block ?_
      refine W_join (fun e C => ∃ (x22 : Int), print_Binds_j3 x22 = some r ∧ At [(3, Pr.i64 x22)] [] e C) ?_ ?_
      · rintro e C ⟨x22, h, hat3⟩
        refine W_at hat3 ?_
        clear hat3
        unfold print_Binds_j3 at h
        refine W_r ?_
        refine rq (out := Pr.i64 x22) qMove ?_
        refine rq (out := Pr.i64 (w64 (x22 + 1))) qInt ?_
        refine rq (out := Pr.i64 (w64 (x22 + 1))) qAssign ?_
        exact ⟨w64 (x22 + 1), h, ⟨⟨Pr.le_rfl, trivial⟩, Pick.refl _⟩⟩
      · refine W_block ?_
        refine W_join (fun e C => ∃ (x21 : Int), print_Binds_j4 x21 = some r ∧ At [(3, Pr.i64 x21)] [] e C) ?_ ?_
        · rintro e C ⟨x21, h, hat4⟩
          refine W_at hat4 ?_
          clear hat4
          unfold print_Binds_j4 at h
          refine W_r ?_
          refine rq (out := Pr.i64 x21) qMove ?_
          refine rq (out := Pr.i64 (w64 (x21 + 1))) qInt ?_
          refine rq (out := Pr.i64 (w64 (x21 + 1))) qAssign ?_
          exact ⟨w64 (x21 + 1), h, ⟨⟨Pr.le_rfl, trivial⟩, Pick.refl _⟩⟩
        · refine W_block ?_
          refine W_join (fun e C => ∃ (x20 : Int), print_Binds_j5 x20 = some r ∧ At [(3, Pr.i64 x20)] [] e C) ?_ ?_
          · rintro e C ⟨x20, h, hat5⟩
            refine W_at hat5 ?_
            clear hat5
            unfold print_Binds_j5 at h
            refine W_r ?_
            refine rq (out := Pr.i64 x20) qMove ?_
            refine rq (out := Pr.i64 (w64 (x20 + 1))) qInt ?_
            refine rq (out := Pr.i64 (w64 (x20 + 1))) qAssign ?_
            exact ⟨w64 (x20 + 1), h, ⟨⟨Pr.le_rfl, trivial⟩, Pick.refl _⟩⟩
          · refine W_block ?_
            refine W_join (fun e C => ∃ (x19 : Int), print_Binds_j6 x19 = some r ∧ At [(3, Pr.i64 x19)] [] e C) ?_ ?_
            · rintro e C ⟨x19, h, hat6⟩
              refine W_at hat6 ?_
              clear hat6
              unfold print_Binds_j6 at h
              refine W_r ?_
              refine rq (out := Pr.i64 x19) qMove ?_
              refine rq (out := Pr.i64 (w64 (x19 + 1))) qInt ?_
              refine rq (out := Pr.i64 (w64 (x19 + 1))) qAssign ?_
              exact ⟨w64 (x19 + 1), h, ⟨⟨Pr.le_rfl, trivial⟩, Pick.refl _⟩⟩
            · refine W_block ?_
              refine W_seq ?_
              refine W_block ?_
              refine W_seq ?_
              refine W_seq ?_
              refine W_join (fun e C => ∃ (x4 : Bool), print_Binds_j10 x1 x4 = some r ∧ At [(3, Pr.i64 0), (4, Pr.str x1), (5, Pr.bool x4)] [] e C) ?_ ?_
              · rintro e C ⟨x4, h, hat10⟩
                refine W_at hat10 ?_
                clear hat10
                unfold print_Binds_j10 at h
                refine W_cond (b := x4) rfl (fun hc5 => ?_) (fun hc5 => ?_)
                · replace h := iteT hc5 h
                  refine W_exit ?_
                  refine W_r ?_
                  refine rq (out := Pr.i64 0) qMove ?_
                  refine rq (out := Pr.i64 (w64 (0 + 1))) qInt ?_
                  refine rq (out := Pr.i64 (w64 (0 + 1))) qAssign ?_
                  exact ⟨w64 (0 + 1), h, ⟨⟨Pr.le_rfl, trivial⟩, Pick.refl _⟩⟩
                · replace h := iteF hc5 h
                  refine W_skip ?_
                  refine W_seq ?_
                  refine W_join (fun e C => ∃ (x7 : Bool), print_Binds_j9 x1 x7 = some r ∧ At [(3, Pr.i64 0), (4, Pr.str x1), (9, Pr.bool x7)] [] e C) ?_ ?_
                  · rintro e C ⟨x7, h, hat9⟩
                    refine W_at hat9 ?_
                    clear hat9
                    unfold print_Binds_j9 at h
                    refine W_cond (b := x7) rfl (fun hc8 => ?_) (fun hc8 => ?_)
                    · replace h := iteT hc8 h
                      refine W_exit ?_
                      exact ⟨0, h, ⟨⟨Pr.le_rfl, trivial⟩, Pick.refl _⟩⟩
                    · replace h := iteF hc8 h
                      refine W_skip ?_
                      refine W_seq ?_
                      refine W_join (fun e C => ∃ (x12 : Bool), print_Binds_j8 x1 x12 = some r ∧ At [(3, Pr.i64 0), (4, Pr.str x1), (12, Pr.bool x12)] [] e C) ?_ ?_
                      · rintro e C ⟨x12, h, hat8⟩
                        refine W_at hat8 ?_
                        clear hat8
                        unfold print_Binds_j8 at h
                        refine W_cond (b := x12) rfl (fun hc13 => ?_) (fun hc13 => ?_)
                        · replace h := iteT hc13 h
                          refine W_exit ?_
                          exact ⟨0, h, ⟨⟨Pr.le_rfl, trivial⟩, Pick.refl _⟩⟩
                        · replace h := iteF hc13 h
                          refine W_skip ?_
                          refine W_seq ?_
                          refine W_join (fun e C => ∃ (x15 : Bool), print_Binds_j7 x1 x15 = some r ∧ At [(3, Pr.i64 0), (4, Pr.str x1), (17, Pr.bool x15)] [] e C) ?_ ?_
                          · rintro e C ⟨x15, h, hat7⟩
                            refine W_at hat7 ?_
                            clear hat7
                            unfold print_Binds_j7 at h
                            refine W_cond (b := x15) rfl (fun hc16 => ?_) (fun hc16 => ?_)
                            · replace h := iteT hc16 h
                              refine W_exit ?_
                              exact ⟨0, h, ⟨⟨Pr.le_rfl, trivial⟩, Pick.refl _⟩⟩
                            · replace h := iteF hc16 h
                              refine W_skip ?_
                              refine W_seq ?_
                              refine W_rs ?_
                              refine rq (out := Pr.bool (x1 == ([38, 38] : List UInt8))) qStr ?_
                              refine rq (out := Pr.bool (x1 == ([38, 38] : List UInt8))) qAssign ?_
                              refine W_cond (b := x1 == ([38, 38] : List UInt8)) rfl (fun hc17 => ?_) (fun hc17 => ?_)
                              · replace h := iteT hc17 h
                                refine W_exit ?_
                                exact ⟨0, h, ⟨⟨Pr.le_rfl, trivial⟩, Pick.refl _⟩⟩
                              · replace h := iteF hc17 h
                                refine W_skip ?_
                                refine W_rs ?_
                                refine rq (out := Pr.bool (x1 == ([124, 124] : List UInt8))) qStr ?_
                                refine rq (out := Pr.bool (x1 == ([124, 124] : List UInt8))) qAssign ?_
                                refine W_cond (b := x1 == ([124, 124] : List UInt8)) rfl (fun hc18 => ?_) (fun hc18 => ?_)
                                · replace h := iteT hc18 h
                                  refine W_exit ?_
                                  exact ⟨0, h, ⟨⟨Pr.le_rfl, trivial⟩, Pick.refl _⟩⟩
                                · replace h := iteF hc18 h
                                  refine W_skip ?_
                                  refine W_exit ?_
                                  exact ⟨0, h, ⟨⟨Pr.le_rfl, trivial⟩, Pick.refl _⟩⟩
                          · refine W_rs ?_
                            refine rq (out := Pr.bool (x1 == ([61, 61] : List UInt8))) qStr ?_
                            refine rq (out := Pr.bool (x1 == ([61, 61] : List UInt8))) qAssign ?_
                            refine W_cond (b := x1 == ([61, 61] : List UInt8)) rfl (fun hc14 => ?_) (fun hc14 => ?_)
                            · replace h := iteT hc14 h
                              refine W_skip ?_
                              exact ⟨x1 == ([61, 61] : List UInt8), h, ⟨⟨Pr.le_rfl, Pr.le_rfl, Pr.le_rfl, trivial⟩, Pick.refl _⟩⟩
                            · replace h := iteF hc14 h
                              refine W_r ?_
                              refine rq (out := Pr.bool (x1 == ([33, 61] : List UInt8))) qStr ?_
                              refine rq (out := Pr.bool (x1 == ([33, 61] : List UInt8))) qAssign ?_
                              exact ⟨x1 == ([33, 61] : List UInt8), h, ⟨⟨Pr.le_rfl, Pr.le_rfl, Pr.le_rfl, trivial⟩, Pick.refl _⟩⟩
                      · refine W_rs ?_
                        refine rq (out := Pr.bool (x1 == ([60] : List UInt8))) qStr ?_
                        refine rq (out := Pr.bool (x1 == ([60] : List UInt8))) qAssign ?_
                        refine W_cond (b := x1 == ([60] : List UInt8)) rfl (fun hc9 => ?_) (fun hc9 => ?_)
                        · replace h := iteT hc9 h
                          refine W_skip ?_
                          exact ⟨x1 == ([60] : List UInt8), h, ⟨⟨Pr.le_rfl, Pr.le_rfl, Pr.le_rfl, trivial⟩, Pick.refl _⟩⟩
                        · replace h := iteF hc9 h
                          refine W_rs ?_
                          refine rq (out := Pr.bool (x1 == ([60, 61] : List UInt8))) qStr ?_
                          refine rq (out := Pr.bool (x1 == ([60, 61] : List UInt8))) qAssign ?_
                          refine W_cond (b := x1 == ([60, 61] : List UInt8)) rfl (fun hc10 => ?_) (fun hc10 => ?_)
                          · replace h := iteT hc10 h
                            refine W_skip ?_
                            exact ⟨x1 == ([60, 61] : List UInt8), h, ⟨⟨Pr.le_rfl, Pr.le_rfl, Pr.le_rfl, trivial⟩, Pick.refl _⟩⟩
                          · replace h := iteF hc10 h
                            refine W_rs ?_
                            refine rq (out := Pr.bool (x1 == ([62] : List UInt8))) qStr ?_
                            refine rq (out := Pr.bool (x1 == ([62] : List UInt8))) qAssign ?_
                            refine W_cond (b := x1 == ([62] : List UInt8)) rfl (fun hc11 => ?_) (fun hc11 => ?_)
                            · replace h := iteT hc11 h
                              refine W_skip ?_
                              exact ⟨x1 == ([62] : List UInt8), h, ⟨⟨Pr.le_rfl, Pr.le_rfl, Pr.le_rfl, trivial⟩, Pick.refl _⟩⟩
                            · replace h := iteF hc11 h
                              refine W_r ?_
                              refine rq (out := Pr.bool (x1 == ([62, 61] : List UInt8))) qStr ?_
                              refine rq (out := Pr.bool (x1 == ([62, 61] : List UInt8))) qAssign ?_
                              exact ⟨x1 == ([62, 61] : List UInt8), h, ⟨⟨Pr.le_rfl, Pr.le_rfl, Pr.le_rfl, trivial⟩, Pick.refl _⟩⟩
                  · refine W_rs ?_
                    refine rq (out := Pr.bool (x1 == ([43] : List UInt8))) qStr ?_
                    refine rq (out := Pr.bool (x1 == ([43] : List UInt8))) qAssign ?_
                    refine W_cond (b := x1 == ([43] : List UInt8)) rfl (fun hc6 => ?_) (fun hc6 => ?_)
                    · replace h := iteT hc6 h
                      refine W_skip ?_
                      exact ⟨x1 == ([43] : List UInt8), h, ⟨⟨Pr.le_rfl, Pr.le_rfl, Pr.le_rfl, trivial⟩, Pick.refl _⟩⟩
                    · replace h := iteF hc6 h
                      refine W_r ?_
                      refine rq (out := Pr.bool (x1 == ([45] : List UInt8))) qStr ?_
                      refine rq (out := Pr.bool (x1 == ([45] : List UInt8))) qAssign ?_
                      exact ⟨x1 == ([45] : List UInt8), h, ⟨⟨Pr.le_rfl, Pr.le_rfl, Pr.le_rfl, trivial⟩, Pick.refl _⟩⟩
              · refine W_rs ?_
                refine rq (out := Pr.bool (x1 == ([42] : List UInt8))) qStr ?_
                refine rq (out := Pr.bool (x1 == ([42] : List UInt8))) qAssign ?_
                refine W_cond (b := x1 == ([42] : List UInt8)) rfl (fun hc2 => ?_) (fun hc2 => ?_)
                · replace h := iteT hc2 h
                  refine W_skip ?_
                  exact ⟨x1 == ([42] : List UInt8), h, ⟨⟨Pr.le_rfl, Pr.le_rfl, Pr.le_rfl, trivial⟩, Pick.refl _⟩⟩
                · replace h := iteF hc2 h
                  refine W_rs ?_
                  refine rq (out := Pr.bool (x1 == ([47] : List UInt8))) qStr ?_
                  refine rq (out := Pr.bool (x1 == ([47] : List UInt8))) qAssign ?_
                  refine W_cond (b := x1 == ([47] : List UInt8)) rfl (fun hc3 => ?_) (fun hc3 => ?_)
                  · replace h := iteT hc3 h
                    refine W_skip ?_
                    exact ⟨x1 == ([47] : List UInt8), h, ⟨⟨Pr.le_rfl, Pr.le_rfl, Pr.le_rfl, trivial⟩, Pick.refl _⟩⟩
                  · replace h := iteF hc3 h
                    refine W_r ?_
                    refine rq (out := Pr.bool (x1 == ([37] : List UInt8))) qStr ?_
                    refine rq (out := Pr.bool (x1 == ([37] : List UInt8))) qAssign ?_
                    exact ⟨x1 == ([37] : List UInt8), h, ⟨⟨Pr.le_rfl, Pr.le_rfl, Pr.le_rfl, trivial⟩, Pick.refl _⟩⟩
theorem print_binding_ok (x1 : ApiNode) (r : Int) (h : print_binding x1 = some r) : FnP Tryz.prog 139 [(rApiNode).val x1] (Pr.i64 r) := by
  refine fn_intro (n := 13) (rs := [2]) Tryz.func139 rfl Tryz.ntmps139 ⟨by decide, Tryz.results139⟩ (by decide) (fun s0 => ?_)
  unfold print_binding at h
  refine W_rs ?_
  refine rBox (R := rApiNode) (a := x1) rfl (fun b2 => ?_)
  refine rq (out := Pr.i64 0) qAssign ?_
  refine W_seq ?_
  refine W_rs ?_
  refine rq (out := Pr.pt b2 0) (qFieldP fld24_0) ?_
  refine rq (out := Pr.i64 x1.Kind) (qLoad (R := rApiNode) (a := x1) (R' := Rp.int .i64) 0 ty3 subApiNode_Kind) ?_
  refine W_block ?_
  refine W_rs ?_
  refine rq (out := Pr.bool (x1.Kind == 24)) qInt ?_
  refine rq (out := Pr.bool (x1.Kind == 24)) qAssign ?_
  refine W_cond (b := x1.Kind == 24) rfl (fun hc3 => ?_) (fun hc3 => ?_)
  · replace h := iteT hc3 h
    refine W_rs ?_
    refine rq (out := Pr.pt b2 1) (qFieldP fld24_1) ?_
    refine rq (out := Pr.str x1.Text) (qLoad (R := rApiNode) (a := x1) (R' := Rp.str) 0 ty9 subApiNode_Text) ?_
    obtain ⟨x4, hx4, h⟩ := bindSome h
    refine rq (out := Pr.i64 x4) (qCall (print_Binds_ok x1.Text _ hx4)) ?_
    refine rq (out := Pr.i64 x4) qAssign ?_
    obtain rfl := Option.some.inj h
    exact W_ret ⟨rfl, Pr.le_rfl⟩
  · replace h := iteF hc3 h
    refine W_join (fun e C => ∃ (x6 : Bool), print_binding_j1 x6 = some r ∧ At [(10, Pr.bool x6)] [Own.box b2 rApiNode x1] e C) ?_ ?_
    · rintro e C ⟨x6, h, hat1⟩
      refine W_at hat1 ?_
      clear hat1
      unfold print_binding_j1 at h
      refine W_cond (b := x6) rfl (fun hc7 => ?_) (fun hc7 => ?_)
      · replace h := iteT hc7 h
        refine W_rs ?_
        refine rq (out := Pr.i64 7) qAssign ?_
        obtain rfl := Option.some.inj h
        exact W_ret ⟨rfl, Pr.le_rfl⟩
      · replace h := iteF hc7 h
        refine W_skip ?_
        refine W_rs ?_
        refine rq (out := Pr.i64 8) qAssign ?_
        obtain rfl := Option.some.inj h
        exact W_ret ⟨rfl, Pr.le_rfl⟩
    · refine W_rs ?_
      refine rq (out := Pr.bool (x1.Kind == 22)) qInt ?_
      refine rq (out := Pr.bool (x1.Kind == 22)) qAssign ?_
      refine W_cond (b := x1.Kind == 22) rfl (fun hc5 => ?_) (fun hc5 => ?_)
      · replace h := iteT hc5 h
        refine W_skip ?_
        exact ⟨x1.Kind == 22, h, ⟨⟨Pr.le_rfl, trivial⟩, Pick.refl _⟩⟩
      · replace h := iteF hc5 h
        refine W_r ?_
        refine rq (out := Pr.bool (x1.Kind == 23)) qInt ?_
        refine rq (out := Pr.bool (x1.Kind == 23)) qAssign ?_
        exact ⟨x1.Kind == 23, h, ⟨⟨Pr.le_rfl, trivial⟩, Pick.refl _⟩⟩
theorem strconv_FormatInt_ok (x1 : Int) (x2 : Int) (r : (List UInt8)) (h : strconv_FormatInt x1 x2 = some r) : FnP Tryz.prog 143 [Pr.i64 x1, Pr.i64 x2] (Pr.str r) := by
  refine fn_intro (n := 8) (rs := [4]) Tryz.func143 rfl Tryz.ntmps143 ⟨by decide, Tryz.results143⟩ (by decide) (fun s0 => ?_)
  unfold strconv_FormatInt at h
  refine W_rs ?_
  refine rq (out := Pr.str []) qAssign ?_
  refine W_rs ?_
  refine rq (out := Pr.i64 x1) qMove ?_
  refine rq (out := Pr.i64 x2) qMove ?_
  obtain ⟨x3, hx3, h⟩ := bindSome h
  refine rq (out := Pr.str x3) (qCall (internal_strconv_FormatInt_ok x1 x2 _ hx3)) ?_
  refine rq (out := Pr.str x3) qAssign ?_
  obtain rfl := Option.some.inj h
  exact W_ret ⟨rfl, Pr.le_rfl⟩
theorem internal_strconv_FormatBool_ok (x1 : Bool) (r : (List UInt8)) (h : internal_strconv_FormatBool x1 = some r) : FnP Tryz.prog 152 [Pr.bool x1] (Pr.str r) := by
  refine fn_intro (n := 4) (rs := [2]) Tryz.func152 rfl Tryz.ntmps152 ⟨by decide, Tryz.results152⟩ (by decide) (fun s0 => ?_)
  unfold internal_strconv_FormatBool at h
  refine W_rs ?_
  refine rq (out := Pr.str []) qAssign ?_
  refine W_seq ?_
  refine W_rs ?_
  refine rq (out := Pr.bool x1) qMove ?_
  refine W_cond (b := x1) rfl (fun hc2 => ?_) (fun hc2 => ?_)
  · replace h := iteT hc2 h
    refine W_rs ?_
    refine rq (out := Pr.str ([116, 114, 117, 101] : List UInt8)) qAssign ?_
    obtain rfl := Option.some.inj h
    exact W_ret ⟨rfl, Pr.le_rfl⟩
  · replace h := iteF hc2 h
    refine W_skip ?_
    refine W_rs ?_
    refine rq (out := Pr.str ([102, 97, 108, 115, 101] : List UInt8)) qAssign ?_
    obtain rfl := Option.some.inj h
    exact W_ret ⟨rfl, Pr.le_rfl⟩
theorem strconv_FormatBool_ok (x1 : Bool) (r : (List UInt8)) (h : strconv_FormatBool x1 = some r) : FnP Tryz.prog 144 [Pr.bool x1] (Pr.str r) := by
  refine fn_intro (n := 5) (rs := [2]) Tryz.func144 rfl Tryz.ntmps144 ⟨by decide, Tryz.results144⟩ (by decide) (fun s0 => ?_)
  unfold strconv_FormatBool at h
  refine W_rs ?_
  refine rq (out := Pr.str []) qAssign ?_
  refine W_rs ?_
  refine rq (out := Pr.bool x1) qMove ?_
  obtain ⟨x2, hx2, h⟩ := bindSome h
  refine rq (out := Pr.str x2) (qCall (internal_strconv_FormatBool_ok x1 _ hx2)) ?_
  refine rq (out := Pr.str x2) qAssign ?_
  obtain rfl := Option.some.inj h
  exact W_ret ⟨rfl, Pr.le_rfl⟩
theorem print_negative_ok (x1 : ApiNode) (r : Bool) (h : print_negative x1 = some r) : FnP Tryz.prog 146 [(rApiNode).val x1] (Pr.bool r) := by
  refine fn_intro (n := 16) (rs := [2]) Tryz.func146 rfl Tryz.ntmps146 ⟨by decide, Tryz.results146⟩ (by decide) (fun s0 => ?_)
  unfold print_negative at h
  refine W_rs ?_
  refine rBox (R := rApiNode) (a := x1) rfl (fun b2 => ?_)
  refine rq (out := Pr.bool false) qAssign ?_
  refine W_join (fun e C => ∃ (x5 : Bool), print_negative_j1 x5 = some r ∧ At [(2, Pr.bool x5)] [Own.box b2 rApiNode x1] e C) ?_ ?_
  · rintro e C ⟨x5, h, hat1⟩
    refine W_at hat1 ?_
    clear hat1
    unfold print_negative_j1 at h
    obtain rfl := Option.some.inj h
    exact W_ret ⟨rfl, Pr.le_rfl⟩
  · refine W_r ?_
    refine rq (out := Pr.pt b2 0) (qFieldP fld24_0) ?_
    refine rq (out := Pr.i64 x1.Kind) (qLoad (R := rApiNode) (a := x1) (R' := Rp.int .i64) 0 ty3 subApiNode_Kind) ?_
    refine rq (out := Pr.bool (x1.Kind == 23)) qInt ?_
    refine rq (out := Pr.bool (x1.Kind == 23)) qMove ?_
    rcases iteSome h with ⟨hc3, h⟩ | ⟨hc3, h⟩
    · refine rno (neF hc3) ?_
      refine rno (neF hc3) ?_
      refine rno (neF hc3) ?_
      refine rno (neF hc3) ?_
      refine rnoU ?_
      refine rnoU ?_
      refine rnoU ?_
      refine rno (neF hc3) ?_
      refine rq (out := Pr.bool true) (qPickT hc3) ?_
      refine rq (out := Pr.bool true) qAssign ?_
      exact ⟨true, h, ⟨⟨Pr.le_rfl, trivial⟩, Pick.refl _⟩⟩
    · refine rqg hc3 (out := Pr.pt b2 0) (qFieldP fld24_0) ?_
      refine rqg hc3 (out := Pr.i64 x1.Kind) (qLoad (R := rApiNode) (a := x1) (R' := Rp.int .i64) 0 ty3 subApiNode_Kind) ?_
      refine rqg hc3 (out := Pr.bool (x1.Kind == 13)) qInt ?_
      refine rqg hc3 (out := Pr.bool (x1.Kind == 13)) qMove ?_
      rcases iteSome h with ⟨hc4, h⟩ | ⟨hc4, h⟩
      · refine rqg hc4 (out := Pr.pt b2 3) (qFieldP fld24_3) ?_
        refine rqg hc4 (out := Pr.i64 x1.N) (qLoad (R := rApiNode) (a := x1) (R' := Rp.int .i64) 0 ty2 subApiNode_N) ?_
        refine rqg hc4 (out := Pr.bool (decide (x1.N < 0))) qInt ?_
        refine rqg hc3 (out := Pr.bool (decide (x1.N < 0))) (qPickT hc4) ?_
        refine rq (out := Pr.bool (decide (x1.N < 0))) (qPickF hc3) ?_
        refine rq (out := Pr.bool (decide (x1.N < 0))) qAssign ?_
        exact ⟨decide (x1.N < 0), h, ⟨⟨Pr.le_rfl, trivial⟩, Pick.refl _⟩⟩
      · refine rno (neT hc4) ?_
        refine rno (neT hc4) ?_
        refine rno (neT hc4) ?_
        refine rqg hc3 (out := Pr.bool false) (qPickF hc4) ?_
        refine rq (out := Pr.bool false) (qPickF hc3) ?_
        refine rq (out := Pr.bool false) qAssign ?_
        exact ⟨false, h, ⟨⟨Pr.le_rfl, trivial⟩, Pick.refl _⟩⟩
def rec_print_kid_spec (R : rec_print_kid_T) : Prop := (∀ (x1 : ApiNode) (x2 : Int) (x3 : Int) (r : (List UInt8)), R.1 x1 x2 x3 = some r → FnP Tryz.prog 129 [(rApiNode).val x1, Pr.i64 x2, Pr.i64 x3] (Pr.str r)) ∧ (∀ (x1 : ApiNode) (r : (List UInt8)), R.2.1 x1 = some r → FnP Tryz.prog 138 [(rApiNode).val x1] (Pr.str r)) ∧ (∀ (x1 : ApiNode) (x2 : Int) (r : (List UInt8)), R.2.2 x1 x2 = some r → FnP Tryz.prog 145 [(rApiNode).val x1, Pr.i64 x2] (Pr.str r))
theorem F_print_kid_step (R : rec_print_kid_T) (ih : rec_print_kid_spec R) (x1 : ApiNode) (x2 : Int) (x3 : Int) (r : (List UInt8)) (h : F_print_kid R x1 x2 x3 = some r) : FnP Tryz.prog 129 [(rApiNode).val x1, Pr.i64 x2, Pr.i64 x3] (Pr.str r) := by
  refine fn_intro (n := 31) (rs := [6]) Tryz.func129 rfl Tryz.ntmps129 ⟨by decide, Tryz.results129⟩ (by decide) (fun s0 => ?_)
  unfold F_print_kid at h
  refine W_rs ?_
  refine rBox (R := rApiNode) (a := x1) rfl (fun b4 => ?_)
  refine rq (out := Pr.str []) qAssign ?_
  refine W_seq ?_
  refine W_rs ?_
  refine rq (out := Pr.i64 x2) qMove ?_
  refine rq (out := Pr.pt b4 8) (qFieldP fld24_8) ?_
  refine rq (out := Pr.lst rApiNode x1.Kids) (qLoad (R := rApiNode) (a := x1) (R' := Rp.list rApiNode) 0 ty22 subApiNode_Kids) ?_
  refine rq (out := Pr.i64 (x1.Kids.length : Int)) (qLenL rfl Tryz.underlying22) ?_
  refine rq (out := Pr.bool (decide (x2 ≥ (x1.Kids.length : Int)))) qInt ?_
  refine W_cond (b := decide (x2 ≥ (x1.Kids.length : Int))) rfl (fun hc5 => ?_) (fun hc5 => ?_)
  · replace h := iteT hc5 h
    refine W_rs ?_
    refine rq (out := Pr.str []) qAssign ?_
    obtain rfl := Option.some.inj h
    exact W_ret ⟨rfl, Pr.le_rfl⟩
  · replace h := iteF hc5 h
    refine W_skip ?_
    refine W_rs ?_
    refine rq (out := Pr.pt b4 8) (qFieldP fld24_8) ?_
    refine rq (out := Pr.lst rApiNode x1.Kids) (qLoad (R := rApiNode) (a := x1) (R' := Rp.list rApiNode) 0 ty22 subApiNode_Kids) ?_
    refine rq (out := Pr.i64 x2) qMove ?_
    obtain ⟨x6, hx6, h⟩ := bindSome h
    refine rq (out := Pr.cpt rApiNode x6) (qIdxA (R := rApiNode) (l := x1.Kids) Tryz.underlying22 Tryz.sizeOf24 hx6) ?_
    refine rq (out := (rApiNode).val x6) (qLoadC (R := rApiNode) (a := x6) ty24) ?_
    obtain ⟨x7, hx7, h⟩ := bindSome h
    refine rq (out := Pr.str x7) (qCall (ih.2.1 x6 _ hx7)) ?_
    refine rq (out := Pr.str x7) qAssign ?_
    refine W_seq ?_
    refine W_rs ?_
    refine rq (out := Pr.pt b4 8) (qFieldP fld24_8) ?_
    refine rq (out := Pr.lst rApiNode x1.Kids) (qLoad (R := rApiNode) (a := x1) (R' := Rp.list rApiNode) 0 ty22 subApiNode_Kids) ?_
    refine rq (out := Pr.i64 x2) qMove ?_
    obtain ⟨x8, hx8, h⟩ := bindSome h
    refine rq (out := Pr.cpt rApiNode x8) (qIdxA (R := rApiNode) (l := x1.Kids) Tryz.underlying22 Tryz.sizeOf24 hx8) ?_
    refine rq (out := (rApiNode).val x8) (qLoadC (R := rApiNode) (a := x8) ty24) ?_
    obtain ⟨x9, hx9, h⟩ := bindSome h
    refine rq (out := Pr.i64 x9) (qCall (print_binding_ok x8 _ hx9)) ?_
    refine rq (out := Pr.i64 x3) qMove ?_
    refine rq (out := Pr.bool (decide (x9 < x3))) qInt ?_
    refine W_cond (b := decide (x9 < x3)) rfl (fun hc10 => ?_) (fun hc10 => ?_)
    · replace h := iteT hc10 h
      refine W_rs ?_
      refine rq (out := Pr.str x7) qMove ?_
      obtain ⟨x11, hx11, h⟩ := bindSome h
      refine rq (out := Pr.str x11) (qCat' hx11) ?_
      obtain ⟨x12, hx12, h⟩ := bindSome h
      refine rq (out := Pr.str x12) (qCat' hx12) ?_
      refine rq (out := Pr.str x12) qAssign ?_
      obtain rfl := Option.some.inj h
      exact W_ret ⟨rfl, Pr.le_rfl⟩
    · replace h := iteF hc10 h
      refine W_skip ?_
      refine W_rs ?_
      refine rq (out := Pr.str x7) qMove ?_
      refine rq (out := Pr.str x7) qAssign ?_
      obtain rfl := Option.some.inj h
      exact W_ret ⟨rfl, Pr.le_rfl⟩
theorem F_print_Expression_step (R : rec_print_kid_T) (ih : rec_print_kid_spec R) (x1 : ApiNode) (r : (List UInt8)) (h : F_print_Expression R x1 = some r) : FnP Tryz.prog 138 [(rApiNode).val x1] (Pr.str r) := by
  refine fn_intro (n := 98) (rs := [2]) Tryz.func138 rfl Tryz.ntmps138 ⟨by decide, Tryz.results138⟩ (by decide) (fun s0 => ?_)
  unfold F_print_Expression at h
  refine W_rs ?_
  refine rBox (R := rApiNode) (a := x1) rfl (fun b2 => ?_)
  refine rq (out := Pr.str []) qAssign ?_
  refine W_seq ?_
  refine W_rs ?_
  refine rq (out := Pr.pt b2 0) (qFieldP fld24_0) ?_
  refine rq (out := Pr.i64 x1.Kind) (qLoad (R := rApiNode) (a := x1) (R' := Rp.int .i64) 0 ty3 subApiNode_Kind) ?_
  refine W_block ?_
  refine W_rs ?_
  refine rq (out := Pr.bool (x1.Kind == 13)) qInt ?_
  refine rq (out := Pr.bool (x1.Kind == 13)) qAssign ?_
  refine W_cond (b := x1.Kind == 13) rfl (fun hc3 => ?_) (fun hc3 => ?_)
  · replace h := iteT hc3 h
    refine W_rs ?_
    refine rq (out := Pr.pt b2 3) (qFieldP fld24_3) ?_
    refine rq (out := Pr.i64 x1.N) (qLoad (R := rApiNode) (a := x1) (R' := Rp.int .i64) 0 ty2 subApiNode_N) ?_
    obtain ⟨x4, hx4, h⟩ := bindSome h
    refine rq (out := Pr.str x4) (qCall (strconv_FormatInt_ok x1.N 10 _ hx4)) ?_
    refine rq (out := Pr.str x4) qAssign ?_
    obtain rfl := Option.some.inj h
    exact W_ret ⟨rfl, Pr.le_rfl⟩
  · replace h := iteF hc3 h
    refine W_rs ?_
    refine rq (out := Pr.bool (x1.Kind == 14)) qInt ?_
    refine rq (out := Pr.bool (x1.Kind == 14)) qAssign ?_
    refine W_cond (b := x1.Kind == 14) rfl (fun hc5 => ?_) (fun hc5 => ?_)
    · replace h := iteT hc5 h
      refine W_rs ?_
      refine rq (out := Pr.pt b2 3) (qFieldP fld24_3) ?_
      refine rq (out := Pr.i64 x1.N) (qLoad (R := rApiNode) (a := x1) (R' := Rp.int .i64) 0 ty2 subApiNode_N) ?_
      refine rq (out := Pr.bool (x1.N == 1)) qInt ?_
      obtain ⟨x6, hx6, h⟩ := bindSome h
      refine rq (out := Pr.str x6) (qCall (strconv_FormatBool_ok (x1.N == 1) _ hx6)) ?_
      refine rq (out := Pr.str x6) qAssign ?_
      obtain rfl := Option.some.inj h
      exact W_ret ⟨rfl, Pr.le_rfl⟩
    · replace h := iteF hc5 h
      refine W_rs ?_
      refine rq (out := Pr.bool (x1.Kind == 15)) qInt ?_
      refine rq (out := Pr.bool (x1.Kind == 15)) qAssign ?_
      refine W_cond (b := x1.Kind == 15) rfl (fun hc7 => ?_) (fun hc7 => ?_)
      · replace h := iteT hc7 h
        refine W_rs ?_
        refine rq (out := Pr.str ([110, 117, 108, 108] : List UInt8)) qAssign ?_
        obtain rfl := Option.some.inj h
        exact W_ret ⟨rfl, Pr.le_rfl⟩
      · replace h := iteF hc7 h
        refine W_rs ?_
        refine rq (out := Pr.bool (x1.Kind == 16)) qInt ?_
        refine rq (out := Pr.bool (x1.Kind == 16)) qAssign ?_
        refine W_cond (b := x1.Kind == 16) rfl (fun hc8 => ?_) (fun hc8 => ?_)
        · replace h := iteT hc8 h
          refine W_rs ?_
          refine rq (out := Pr.str ([116, 104, 105, 115] : List UInt8)) qAssign ?_
          obtain rfl := Option.some.inj h
          exact W_ret ⟨rfl, Pr.le_rfl⟩
        · replace h := iteF hc8 h
          refine W_rs ?_
          refine rq (out := Pr.bool (x1.Kind == 17)) qInt ?_
          refine rq (out := Pr.bool (x1.Kind == 17)) qAssign ?_
          refine W_cond (b := x1.Kind == 17) rfl (fun hc9 => ?_) (fun hc9 => ?_)
          · replace h := iteT hc9 h
            refine W_rs ?_
            refine rq (out := Pr.pt b2 1) (qFieldP fld24_1) ?_
            refine rq (out := Pr.str x1.Text) (qLoad (R := rApiNode) (a := x1) (R' := Rp.str) 0 ty9 subApiNode_Text) ?_
            refine rq (out := Pr.str x1.Text) qAssign ?_
            obtain rfl := Option.some.inj h
            exact W_ret ⟨rfl, Pr.le_rfl⟩
          · replace h := iteF hc9 h
            refine W_rs ?_
            refine rq (out := Pr.bool (x1.Kind == 21)) qInt ?_
            refine rq (out := Pr.bool (x1.Kind == 21)) qAssign ?_
            refine W_cond (b := x1.Kind == 21) rfl (fun hc10 => ?_) (fun hc10 => ?_)
            · replace h := iteT hc10 h
              refine W_rs ?_
              refine rq (out := Pr.pt b2 1) (qFieldP fld24_1) ?_
              refine rq (out := Pr.str x1.Text) (qLoad (R := rApiNode) (a := x1) (R' := Rp.str) 0 ty9 subApiNode_Text) ?_
              obtain ⟨x11, hx11, h⟩ := bindSome h
              refine rq (out := Pr.str x11) (qCat' hx11) ?_
              obtain ⟨x12, hx12, h⟩ := bindSome h
              refine rq (out := Pr.str x12) (qCat' hx12) ?_
              refine rq (out := Pr.str x12) qAssign ?_
              obtain rfl := Option.some.inj h
              exact W_ret ⟨rfl, Pr.le_rfl⟩
            · replace h := iteF hc10 h
              refine W_rs ?_
              refine rq (out := Pr.bool (x1.Kind == 19)) qInt ?_
              refine rq (out := Pr.bool (x1.Kind == 19)) qAssign ?_
              refine W_cond (b := x1.Kind == 19) rfl (fun hc13 => ?_) (fun hc13 => ?_)
              · replace h := iteT hc13 h
                refine W_join (fun e C => ∃ (x15 : List UInt8), print_Expression_j1 R x15 = some r ∧ At [(2, Pr.str x15)] [Own.box b2 rApiNode x1] e C) ?_ ?_
                · rintro e C ⟨x15, h, hat1⟩
                  refine W_at hat1 ?_
                  clear hat1
                  unfold print_Expression_j1 at h
                  obtain rfl := Option.some.inj h
                  exact W_ret ⟨rfl, Pr.le_rfl⟩
                · refine W_draw 6 hmx (by kernel_rfl) (by kernel_rfl) ?_
                  refine qq (out := Pr.pt b2 1) (qFieldP fld24_1) ?_
                  refine qq (out := Pr.str x1.Text) (qLoad (R := rApiNode) (a := x1) (R' := Rp.str) 0 ty9 subApiNode_Text) ?_
                  refine qq (out := (rApiNode).val x1) (qLoad (R := rApiNode) (a := x1) (R' := rApiNode) 0 ty24 (Sub.refl _)) ?_
                  obtain ⟨x14, hx14, h⟩ := bindSome h
                  refine qq (out := Pr.str x14) (qCall (ih.2.2 x1 0 _ hx14)) ?_
                  obtain ⟨x15, hx15, h⟩ := bindSome h
                  refine qq (out := Pr.str x15) (qCat' hx15) ?_
                  refine qq (out := Pr.str x15) qAssign ?_
                  exact ⟨x15, h, ⟨⟨Pr.le_rfl, trivial⟩, Pick.refl _⟩⟩
              · replace h := iteF hc13 h
                refine W_rs ?_
                refine rq (out := Pr.bool (x1.Kind == 18)) qInt ?_
                refine rq (out := Pr.bool (x1.Kind == 18)) qAssign ?_
                refine W_cond (b := x1.Kind == 18) rfl (fun hc16 => ?_) (fun hc16 => ?_)
                · replace h := iteT hc16 h
                  refine W_join (fun e C => ∃ (x19 : List UInt8), print_Expression_j2 R x19 = some r ∧ At [(2, Pr.str x19)] [Own.box b2 rApiNode x1] e C) ?_ ?_
                  · rintro e C ⟨x19, h, hat2⟩
                    refine W_at hat2 ?_
                    clear hat2
                    unfold print_Expression_j2 at h
                    obtain rfl := Option.some.inj h
                    exact W_ret ⟨rfl, Pr.le_rfl⟩
                  · refine W_draw 7 hmx (by kernel_rfl) (by kernel_rfl) ?_
                    refine qq (out := (rApiNode).val x1) (qLoad (R := rApiNode) (a := x1) (R' := rApiNode) 0 ty24 (Sub.refl _)) ?_
                    obtain ⟨x17, hx17, h⟩ := bindSome h
                    refine qq (out := Pr.str x17) (qCall (ih.1 x1 0 8 _ hx17)) ?_
                    obtain ⟨x18, hx18, h⟩ := bindSome h
                    refine qq (out := Pr.str x18) (qCat' hx18) ?_
                    refine qq (out := Pr.pt b2 1) (qFieldP fld24_1) ?_
                    refine qq (out := Pr.str x1.Text) (qLoad (R := rApiNode) (a := x1) (R' := Rp.str) 0 ty9 subApiNode_Text) ?_
                    obtain ⟨x19, hx19, h⟩ := bindSome h
                    refine qq (out := Pr.str x19) (qCat' hx19) ?_
                    refine qq (out := Pr.str x19) qAssign ?_
                    exact ⟨x19, h, ⟨⟨Pr.le_rfl, trivial⟩, Pick.refl _⟩⟩
                · replace h := iteF hc16 h
                  refine W_rs ?_
                  refine rq (out := Pr.bool (x1.Kind == 20)) qInt ?_
                  refine rq (out := Pr.bool (x1.Kind == 20)) qAssign ?_
                  refine W_cond (b := x1.Kind == 20) rfl (fun hc20 => ?_) (fun hc20 => ?_)
                  · replace h := iteT hc20 h
                    refine W_join (fun e C => ∃ (x25 : List UInt8), print_Expression_j3 R x25 = some r ∧ At [(2, Pr.str x25)] [Own.box b2 rApiNode x1] e C) ?_ ?_
                    · rintro e C ⟨x25, h, hat3⟩
                      refine W_at hat3 ?_
                      clear hat3
                      unfold print_Expression_j3 at h
                      obtain rfl := Option.some.inj h
                      exact W_ret ⟨rfl, Pr.le_rfl⟩
                    · refine W_draw 10 hmx (by kernel_rfl) (by kernel_rfl) ?_
                      refine qq (out := (rApiNode).val x1) (qLoad (R := rApiNode) (a := x1) (R' := rApiNode) 0 ty24 (Sub.refl _)) ?_
                      obtain ⟨x21, hx21, h⟩ := bindSome h
                      refine qq (out := Pr.str x21) (qCall (ih.1 x1 0 8 _ hx21)) ?_
                      obtain ⟨x22, hx22, h⟩ := bindSome h
                      refine qq (out := Pr.str x22) (qCat' hx22) ?_
                      refine qq (out := Pr.pt b2 1) (qFieldP fld24_1) ?_
                      refine qq (out := Pr.str x1.Text) (qLoad (R := rApiNode) (a := x1) (R' := Rp.str) 0 ty9 subApiNode_Text) ?_
                      obtain ⟨x23, hx23, h⟩ := bindSome h
                      refine qq (out := Pr.str x23) (qCat' hx23) ?_
                      refine qq (out := (rApiNode).val x1) (qLoad (R := rApiNode) (a := x1) (R' := rApiNode) 0 ty24 (Sub.refl _)) ?_
                      obtain ⟨x24, hx24, h⟩ := bindSome h
                      refine qq (out := Pr.str x24) (qCall (ih.2.2 x1 1 _ hx24)) ?_
                      obtain ⟨x25, hx25, h⟩ := bindSome h
                      refine qq (out := Pr.str x25) (qCat' hx25) ?_
                      refine qq (out := Pr.str x25) qAssign ?_
                      exact ⟨x25, h, ⟨⟨Pr.le_rfl, trivial⟩, Pick.refl _⟩⟩
                  · replace h := iteF hc20 h
                    refine W_rs ?_
                    refine rq (out := Pr.bool (x1.Kind == 22)) qInt ?_
                    refine rq (out := Pr.bool (x1.Kind == 22)) qAssign ?_
                    refine W_cond (b := x1.Kind == 22) rfl (fun hc26 => ?_) (fun hc26 => ?_)
                    · replace h := iteT hc26 h
                      refine W_rs ?_
                      refine rq (out := (rApiNode).val x1) (qLoad (R := rApiNode) (a := x1) (R' := rApiNode) 0 ty24 (Sub.refl _)) ?_
                      obtain ⟨x27, hx27, h⟩ := bindSome h
                      refine rq (out := Pr.str x27) (qCall (ih.1 x1 0 7 _ hx27)) ?_
                      obtain ⟨x28, hx28, h⟩ := bindSome h
                      refine rq (out := Pr.str x28) (qCat' hx28) ?_
                      refine rq (out := Pr.str x28) qAssign ?_
                      obtain rfl := Option.some.inj h
                      exact W_ret ⟨rfl, Pr.le_rfl⟩
                    · replace h := iteF hc26 h
                      refine W_rs ?_
                      refine rq (out := Pr.bool (x1.Kind == 23)) qInt ?_
                      refine rq (out := Pr.bool (x1.Kind == 23)) qAssign ?_
                      refine W_cond (b := x1.Kind == 23) rfl (fun hc29 => ?_) (fun hc29 => ?_)
                      · replace h := iteT hc29 h
                        refine W_rs ?_
                        refine rq (out := Pr.i64 7) qAssign ?_
                        refine W_join (fun e C => ∃ (x35 : Int), print_Expression_j4 R x1 x35 = some r ∧ At [(1, Pr.pt b2 0), (3, Pr.i64 x35)] [Own.box b2 rApiNode x1] e C) ?_ ?_
                        · rintro e C ⟨x35, h, hat4⟩
                          refine W_at hat4 ?_
                          clear hat4
                          unfold print_Expression_j4 at h
                          refine W_rs ?_
                          refine rq (out := (rApiNode).val x1) (qLoad (R := rApiNode) (a := x1) (R' := rApiNode) 0 ty24 (Sub.refl _)) ?_
                          refine rq (out := Pr.i64 x35) qMove ?_
                          obtain ⟨x36, hx36, h⟩ := bindSome h
                          refine rq (out := Pr.str x36) (qCall (ih.1 x1 0 x35 _ hx36)) ?_
                          obtain ⟨x37, hx37, h⟩ := bindSome h
                          refine rq (out := Pr.str x37) (qCat' hx37) ?_
                          refine rq (out := Pr.str x37) qAssign ?_
                          obtain rfl := Option.some.inj h
                          exact W_ret ⟨rfl, Pr.le_rfl⟩
                        · refine W_join (fun e C => ∃ (x33 : Bool), print_Expression_j5 R x1 x33 = some r ∧ At [(1, Pr.pt b2 0), (3, Pr.i64 7), (75, Pr.bool x33)] [Own.box b2 rApiNode x1] e C) ?_ ?_
                          · rintro e C ⟨x33, h, hat5⟩
                            refine W_at hat5 ?_
                            clear hat5
                            unfold print_Expression_j5 at h
                            refine W_cond (b := x33) rfl (fun hc34 => ?_) (fun hc34 => ?_)
                            · replace h := iteT hc34 h
                              refine W_r ?_
                              refine rq (out := Pr.i64 9) qAssign ?_
                              exact ⟨9, h, ⟨⟨Pr.le_rfl, Pr.le_rfl, trivial⟩, Pick.refl _⟩⟩
                            · replace h := iteF hc34 h
                              refine W_skip ?_
                              exact ⟨7, h, ⟨⟨Pr.le_rfl, Pr.le_rfl, trivial⟩, Pick.refl _⟩⟩
                          · refine W_r ?_
                            refine rq (out := Pr.pt b2 8) (qFieldP fld24_8) ?_
                            refine rq (out := Pr.lst rApiNode x1.Kids) (qLoad (R := rApiNode) (a := x1) (R' := Rp.list rApiNode) 0 ty22 subApiNode_Kids) ?_
                            refine rq (out := Pr.i64 (x1.Kids.length : Int)) (qLenL rfl Tryz.underlying22) ?_
                            refine rq (out := Pr.bool (decide ((x1.Kids.length : Int) > 0))) qInt ?_
                            refine rq (out := Pr.bool (decide ((x1.Kids.length : Int) > 0))) qMove ?_
                            rcases iteSome h with ⟨hc30, h⟩ | ⟨hc30, h⟩
                            · refine rqg hc30 (out := Pr.pt b2 8) (qFieldP fld24_8) ?_
                              refine rqg hc30 (out := Pr.lst rApiNode x1.Kids) (qLoad (R := rApiNode) (a := x1) (R' := Rp.list rApiNode) 0 ty22 subApiNode_Kids) ?_
                              obtain ⟨x31, hx31, h⟩ := bindSome h
                              refine rqg hc30 (out := Pr.cpt rApiNode x31) (qIdxA (R := rApiNode) (l := x1.Kids) Tryz.underlying22 Tryz.sizeOf24 hx31) ?_
                              refine rqg hc30 (out := (rApiNode).val x31) (qLoadC (R := rApiNode) (a := x31) ty24) ?_
                              obtain ⟨x32, hx32, h⟩ := bindSome h
                              refine rqg hc30 (out := Pr.bool x32) (qCall (print_negative_ok x31 _ hx32)) ?_
                              refine rq (out := Pr.bool x32) (qPickT hc30) ?_
                              exact ⟨x32, h, ⟨⟨Pr.le_rfl, Pr.le_rfl, Pr.le_rfl, trivial⟩, Pick.refl _⟩⟩
                            · refine rno (neT hc30) ?_
                              refine rno (neT hc30) ?_
                              refine rno (neT hc30) ?_
                              refine rno (neT hc30) ?_
                              refine rno (neT hc30) ?_
                              refine rq (out := Pr.bool false) (qPickF hc30) ?_
                              exact ⟨false, h, ⟨⟨Pr.le_rfl, Pr.le_rfl, Pr.le_rfl, trivial⟩, Pick.refl _⟩⟩
                      · replace h := iteF hc29 h
                        refine W_rs ?_
                        refine rq (out := Pr.bool (x1.Kind == 24)) qInt ?_
                        refine rq (out := Pr.bool (x1.Kind == 24)) qAssign ?_
                        refine W_cond (b := x1.Kind == 24) rfl (fun hc38 => ?_) (fun hc38 => ?_)
                        · replace h := iteT hc38 h
                          refine W_rs ?_
                          refine rq (out := Pr.pt b2 1) (qFieldP fld24_1) ?_
                          refine rq (out := Pr.str x1.Text) (qLoad (R := rApiNode) (a := x1) (R' := Rp.str) 0 ty9 subApiNode_Text) ?_
                          obtain ⟨x39, hx39, h⟩ := bindSome h
                          refine rq (out := Pr.i64 x39) (qCall (print_Binds_ok x1.Text _ hx39)) ?_
                          refine rq (out := Pr.i64 x39) qAssign ?_
                          refine W_join (fun e C => ∃ (x45 : List UInt8), print_Expression_j6 R x45 = some r ∧ At [(2, Pr.str x45)] [Own.box b2 rApiNode x1] e C) ?_ ?_
                          · rintro e C ⟨x45, h, hat6⟩
                            refine W_at hat6 ?_
                            clear hat6
                            unfold print_Expression_j6 at h
                            obtain rfl := Option.some.inj h
                            exact W_ret ⟨rfl, Pr.le_rfl⟩
                          · refine W_draw 14 hmx (by kernel_rfl) (by kernel_rfl) ?_
                            refine qq (out := (rApiNode).val x1) (qLoad (R := rApiNode) (a := x1) (R' := rApiNode) 0 ty24 (Sub.refl _)) ?_
                            refine qq (out := Pr.i64 x39) qMove ?_
                            obtain ⟨x40, hx40, h⟩ := bindSome h
                            refine qq (out := Pr.str x40) (qCall (ih.1 x1 0 x39 _ hx40)) ?_
                            obtain ⟨x41, hx41, h⟩ := bindSome h
                            refine qq (out := Pr.str x41) (qCat' hx41) ?_
                            refine qq (out := Pr.pt b2 1) (qFieldP fld24_1) ?_
                            refine qq (out := Pr.str x1.Text) (qLoad (R := rApiNode) (a := x1) (R' := Rp.str) 0 ty9 subApiNode_Text) ?_
                            obtain ⟨x42, hx42, h⟩ := bindSome h
                            refine qq (out := Pr.str x42) (qCat' hx42) ?_
                            obtain ⟨x43, hx43, h⟩ := bindSome h
                            refine qq (out := Pr.str x43) (qCat' hx43) ?_
                            refine qq (out := (rApiNode).val x1) (qLoad (R := rApiNode) (a := x1) (R' := rApiNode) 0 ty24 (Sub.refl _)) ?_
                            refine qq (out := Pr.i64 x39) qMove ?_
                            refine qq (out := Pr.i64 (w64 (x39 + 1))) qInt ?_
                            obtain ⟨x44, hx44, h⟩ := bindSome h
                            refine qq (out := Pr.str x44) (qCall (ih.1 x1 1 (w64 (x39 + 1)) _ hx44)) ?_
                            obtain ⟨x45, hx45, h⟩ := bindSome h
                            refine qq (out := Pr.str x45) (qCat' hx45) ?_
                            refine qq (out := Pr.str x45) qAssign ?_
                            exact ⟨x45, h, ⟨⟨Pr.le_rfl, trivial⟩, Pick.refl _⟩⟩
                        · replace h := iteF hc38 h
                          refine W_skip ?_
                          refine W_rs ?_
                          refine rq (out := Pr.str []) qAssign ?_
                          obtain rfl := Option.some.inj h
                          exact W_ret ⟨rfl, Pr.le_rfl⟩
theorem F_print_arguments_step (R : rec_print_kid_T) (ih : rec_print_kid_spec R) (x1 : ApiNode) (x2 : Int) (r : (List UInt8)) (h : F_print_arguments R x1 x2 = some r) : FnP Tryz.prog 145 [(rApiNode).val x1, Pr.i64 x2] (Pr.str r) := by
  refine fn_intro (n := 14) (rs := [4]) Tryz.func145 rfl Tryz.ntmps145 ⟨by decide, Tryz.results145⟩ (by decide) (fun s0 => ?_)
  unfold F_print_arguments at h
  refine W_rs ?_
  refine rBox (R := rApiNode) (a := x1) rfl (fun b3 => ?_)
  refine rq (out := Pr.str []) qAssign ?_
  refine W_rs ?_
  refine rq (out := Pr.pt b3 8) (qFieldP fld24_8) ?_
  refine rq (out := Pr.lst rApiNode x1.Kids) (qLoad (R := rApiNode) (a := x1) (R' := Rp.list rApiNode) 0 ty22 subApiNode_Kids) ?_
  refine rq (out := Pr.i64 x2) qMove ?_
  refine rq (out := Pr.pt b3 8) (qFieldP fld24_8) ?_
  refine rq (out := Pr.lst rApiNode x1.Kids) (qLoad (R := rApiNode) (a := x1) (R' := Rp.list rApiNode) 0 ty22 subApiNode_Kids) ?_
  refine rq (out := Pr.i64 (x1.Kids.length : Int)) (qLenL rfl Tryz.underlying22) ?_
  refine rq (out := Pr.i64 (if (x1.Kids.length : Int) < x2 then (x1.Kids.length : Int) else x2)) (qMin (a := x2) (b := (x1.Kids.length : Int))) ?_
  obtain ⟨x4, hx4, h⟩ := bindSome h
  refine rq (out := Pr.lst rApiNode x4) (qLSubL Tryz.underlying22 Tryz.sizeOf24 hx4) ?_
  obtain ⟨x5, hx5, h⟩ := bindSome h
  refine rq (out := Pr.str x5) (qCall' (print_list_ok x4 R.2.1 _ hx5) ⟨Pr.le_rfl, (is_pfn en138 (fun _ _ hs => by obtain ⟨a0, r, rfl, rfl, hr⟩ := hs; exact ih.2.1 a0 r hr)), trivial⟩) ?_
  refine rq (out := Pr.str x5) qAssign ?_
  obtain rfl := Option.some.inj h
  exact W_ret ⟨rfl, Pr.le_rfl⟩
theorem rec_print_kid_ok : ∀ n, rec_print_kid_spec (rec_print_kid_at n) := by
  intro n
  induction n with
  | zero => exact ⟨(fun x1 x2 x3 r h => nomatch (show none = some r from h)), (fun x1 r h => nomatch (show none = some r from h)), (fun x1 x2 r h => nomatch (show none = some r from h))⟩
  | succ n ih => exact ⟨(fun x1 x2 x3 r h => F_print_kid_step (rec_print_kid_at n) ih x1 x2 x3 r h), (fun x1 r h => F_print_Expression_step (rec_print_kid_at n) ih x1 r h), (fun x1 x2 r h => F_print_arguments_step (rec_print_kid_at n) ih x1 x2 r h)⟩
theorem print_kid_ok (x1 : ApiNode) (x2 : Int) (x3 : Int) (r : (List UInt8)) (h : print_kid x1 x2 x3 = some r) : FnP Tryz.prog 129 [(rApiNode).val x1, Pr.i64 x2, Pr.i64 x3] (Pr.str r) := (rec_print_kid_ok 1048576).1 x1 x2 x3 r h
theorem print_Expression_ok (x1 : ApiNode) (r : (List UInt8)) (h : print_Expression x1 = some r) : FnP Tryz.prog 138 [(rApiNode).val x1] (Pr.str r) := (rec_print_kid_ok 1048576).2.1 x1 r h
theorem print_arguments_ok (x1 : ApiNode) (x2 : Int) (r : (List UInt8)) (h : print_arguments x1 x2 = some r) : FnP Tryz.prog 145 [(rApiNode).val x1, Pr.i64 x2] (Pr.str r) := (rec_print_kid_ok 1048576).2.2 x1 x2 r h
def rec_print_belongs_spec (R : rec_print_belongs_T) : Prop := (∀ (x1 : ApiNode) (x2 : Int) (x3 : List UInt8) (r : (List UInt8)), R.1 x1 x2 x3 = some r → FnP Tryz.prog 50 [(rApiNode).val x1, Pr.i64 x2, Pr.str x3] (Pr.str r)) ∧ (∀ (x1 : List ApiNode) (x2 : List UInt8) (r : (List UInt8)), R.2.1 x1 x2 = some r → FnP Tryz.prog 72 [Pr.lst rApiNode x1, Pr.str x2] (Pr.str r)) ∧ (∀ (x1 : ApiNode) (x2 : List UInt8) (r : (List UInt8)), R.2.2.1 x1 x2 = some r → FnP Tryz.prog 98 [(rApiNode).val x1, Pr.str x2] (Pr.str r)) ∧ (∀ (x1 : ApiNode) (x2 : List UInt8) (r : (List UInt8)), R.2.2.2 x1 x2 = some r → FnP Tryz.prog 112 [(rApiNode).val x1, Pr.str x2] (Pr.str r))
theorem F_print_belongs_step (R : rec_print_belongs_T) (ih : rec_print_belongs_spec R) (x1 : ApiNode) (x2 : Int) (x3 : List UInt8) (r : (List UInt8)) (h : F_print_belongs R x1 x2 x3 = some r) : FnP Tryz.prog 50 [(rApiNode).val x1, Pr.i64 x2, Pr.str x3] (Pr.str r) := by
  refine fn_intro (n := 39) (rs := [6]) Tryz.func50 rfl Tryz.ntmps50 ⟨by decide, Tryz.results50⟩ (by decide) (fun s0 => ?_)
  unfold F_print_belongs at h
  refine W_rs ?_
  refine rBox (R := rApiNode) (a := x1) rfl (fun b4 => ?_)
  refine rq (out := Pr.str []) qAssign ?_
  refine W_seq ?_
  refine W_block ?_
  refine W_rs ?_
  refine rq (out := Pr.i64 x2) qMove ?_
  refine rq (out := Pr.pt b4 8) (qFieldP fld24_8) ?_
  refine rq (out := Pr.lst rApiNode x1.Kids) (qLoad (R := rApiNode) (a := x1) (R' := Rp.list rApiNode) 0 ty22 subApiNode_Kids) ?_
  refine rq (out := Pr.i64 (x1.Kids.length : Int)) (qLenL rfl Tryz.underlying22) ?_
  refine rq (out := Pr.bool (decide (x2 ≥ (x1.Kids.length : Int)))) qInt ?_
  refine rq (out := Pr.bool (decide (x2 ≥ (x1.Kids.length : Int)))) qAssign ?_
  refine W_cond (b := decide (x2 ≥ (x1.Kids.length : Int))) rfl (fun hc5 => ?_) (fun hc5 => ?_)
  · replace h := iteT hc5 h
    refine W_rs ?_
    refine rq (out := Pr.str x3) qMove ?_
    obtain ⟨x6, hx6, h⟩ := bindSome h
    refine rq (out := Pr.str x6) (qCall' (ih.2.1 [] x3 _ hx6) ⟨Pr.lst_nil _, Pr.le_rfl, trivial⟩) ?_
    refine rq (out := Pr.str x6) qAssign ?_
    obtain rfl := Option.some.inj h
    exact W_ret ⟨rfl, Pr.le_rfl⟩
  · replace h := iteF hc5 h
    refine W_rs ?_
    refine rq (out := Pr.pt b4 8) (qFieldP fld24_8) ?_
    refine rq (out := Pr.lst rApiNode x1.Kids) (qLoad (R := rApiNode) (a := x1) (R' := Rp.list rApiNode) 0 ty22 subApiNode_Kids) ?_
    refine rq (out := Pr.i64 x2) qMove ?_
    obtain ⟨x7, hx7, h⟩ := bindSome h
    refine rq (out := Pr.cpt rApiNode x7) (qIdxA (R := rApiNode) (l := x1.Kids) Tryz.underlying22 Tryz.sizeOf24 hx7) ?_
    refine rq (out := Pr.cpt (Rp.int .i64) x7.Kind) (qFieldC (R := rApiNode) (a := x7) fld24_0 subApiNode_Kind) ?_
    refine rq (out := Pr.i64 x7.Kind) (qLoadC (R := Rp.int .i64) (a := x7.Kind) ty3) ?_
    refine rq (out := Pr.bool (x7.Kind == 5)) qInt ?_
    refine rq (out := Pr.bool (x7.Kind == 5)) qAssign ?_
    refine W_cond (b := x7.Kind == 5) rfl (fun hc8 => ?_) (fun hc8 => ?_)
    · replace h := iteT hc8 h
      refine W_rs ?_
      refine rq (out := Pr.pt b4 8) (qFieldP fld24_8) ?_
      refine rq (out := Pr.lst rApiNode x1.Kids) (qLoad (R := rApiNode) (a := x1) (R' := Rp.list rApiNode) 0 ty22 subApiNode_Kids) ?_
      refine rq (out := Pr.i64 x2) qMove ?_
      obtain ⟨x9, hx9, h⟩ := bindSome h
      refine rq (out := Pr.cpt rApiNode x9) (qIdxA (R := rApiNode) (l := x1.Kids) Tryz.underlying22 Tryz.sizeOf24 hx9) ?_
      refine rq (out := Pr.cpt (Rp.list rApiNode) x9.Kids) (qFieldC (R := rApiNode) (a := x9) fld24_8 subApiNode_Kids) ?_
      refine rq (out := Pr.lst rApiNode x9.Kids) (qLoadC (R := Rp.list rApiNode) (a := x9.Kids) ty22) ?_
      refine rq (out := Pr.str x3) qMove ?_
      obtain ⟨x10, hx10, h⟩ := bindSome h
      refine rq (out := Pr.str x10) (qCall (ih.2.1 x9.Kids x3 _ hx10)) ?_
      refine rq (out := Pr.str x10) qAssign ?_
      obtain rfl := Option.some.inj h
      exact W_ret ⟨rfl, Pr.le_rfl⟩
    · replace h := iteF hc8 h
      refine W_skip ?_
      refine W_rs ?_
      refine rq (out := Pr.pt b4 8) (qFieldP fld24_8) ?_
      refine rq (out := Pr.lst rApiNode x1.Kids) (qLoad (R := rApiNode) (a := x1) (R' := Rp.list rApiNode) 0 ty22 subApiNode_Kids) ?_
      refine rq (out := Pr.i64 x2) qMove ?_
      refine rq (out := Pr.i64 x2) qMove ?_
      refine rq (out := Pr.i64 (w64 (x2 + 1))) qInt ?_
      obtain ⟨x11, hx11, h⟩ := bindSome h
      refine rq (out := Pr.lst rApiNode x11) (qLSubLH Tryz.underlying22 Tryz.sizeOf24 hx11) ?_
      refine rq (out := Pr.str x3) qMove ?_
      obtain ⟨x12, hx12, h⟩ := bindSome h
      refine rq (out := Pr.str x12) (qCall (ih.2.1 x11 x3 _ hx12)) ?_
      refine rq (out := Pr.str x12) qAssign ?_
      obtain rfl := Option.some.inj h
      exact W_ret ⟨rfl, Pr.le_rfl⟩
theorem F_print_block_step (R : rec_print_belongs_T) (ih : rec_print_belongs_spec R) (x1 : List ApiNode) (x2 : List UInt8) (r : (List UInt8)) (h : F_print_block R x1 x2 = some r) : FnP Tryz.prog 72 [Pr.lst rApiNode x1, Pr.str x2] (Pr.str r) := by
  refine fn_intro (n := 25) (rs := [4]) Tryz.func72 rfl Tryz.ntmps72 ⟨by decide, Tryz.results72⟩ (by decide) (fun s0 => ?_)
  unfold F_print_block at h
  refine W_rs ?_
  refine rq (out := Pr.str []) qAssign ?_
  refine W_rs ?_
  refine rq (out := Pr.str ([123, 10] : List UInt8)) qAssign ?_
  refine W_seq ?_
  refine W_rs ?_
  refine rq (out := Pr.lst rApiNode x1) qMove ?_
  refine rq (out := Pr.i64 (x1.length : Int)) (qLenL rfl Tryz.underlying22) ?_
  refine rq (out := Pr.i64 0) qMove ?_
  refine W_block ?_
  obtain ⟨z2l, hz2, h⟩ := bindSome h
  obtain ⟨n2, hN2⟩ := iter_some hz2
  clear hz2
  refine W_after 0 (fun e C => ∃ (x3 : List UInt8), print_block_k1 R x2 x3 = some r ∧ At [(1, Pr.str x2), (5, Pr.str x3)] [] e C) ?_ ?_
  · rintro e C ⟨x3, h, hat1⟩
    refine W_at hat1 ?_
    clear hat1
    unfold print_block_k1 at h
    refine W_rs ?_
    refine rq (out := Pr.str x3) qMove ?_
    refine rq (out := Pr.str x2) qMove ?_
    obtain ⟨x13, hx13, h⟩ := bindSome h
    refine rq (out := Pr.str x13) (qCat' hx13) ?_
    obtain ⟨x14, hx14, h⟩ := bindSome h
    refine rq (out := Pr.str x14) (qCat' hx14) ?_
    refine rq (out := Pr.str x14) qAssign ?_
    obtain rfl := Option.some.inj h
    exact W_ret ⟨rfl, Pr.le_rfl⟩
  · refine W_loop (fun m e C => ∃ (x3 : List UInt8), ∃ (x4 : Int), IterN (fun s => print_block_l2 R x1 x2 s.1 s.2) m (x3, x4) = some z2l ∧ At [(1, Pr.str x2), (5, Pr.str x3), (8, Pr.lst rApiNode x1), (9, Pr.i64 (x1.length : Int)), (10, Pr.i64 x4)] [] e C) n2 ⟨([123, 10] : List UInt8), 0, hN2, ⟨⟨Pr.le_rfl, Pr.le_rfl, Pr.le_rfl, Pr.le_rfl, Pr.le_rfl, trivial⟩, Pick.refl _⟩⟩ ?_
    clear hN2
    rintro m e C ⟨x3, x4, hN2, hatl2⟩
    refine W_at hatl2 ?_
    clear hatl2
    obtain ⟨m2, w2l, rfl, h2l, hn2, ho2⟩ := iterN_some hN2
    clear hN2
    replace h2l : print_block_l2 R x1 x2 x3 x4 = some w2l := h2l
    unfold print_block_l2 at h2l
    refine W_rs ?_
    refine rq (out := Pr.bool (decide (x4 < (x1.length : Int)))) qInt ?_
    refine W_seq ?_
    refine W_cond (b := decide (x4 < (x1.length : Int))) rfl (fun hc7 => ?_) (fun hc7 => ?_)
    · replace h2l := iteT hc7 h2l
      refine W_skip ?_
      refine W_seq ?_
      refine W_block ?_
      refine W_rs ?_
      obtain ⟨x8, hx8, h2l⟩ := bindSome h2l
      refine rq (out := Pr.cpt rApiNode x8) (qIdxA (R := rApiNode) (l := x1) Tryz.underlying22 Tryz.sizeOf24 hx8) ?_
      refine rq (out := (rApiNode).val x8) (qLoadC (R := rApiNode) (a := x8) ty24) ?_
      refine rAlloc (R := rApiNode) (z := (ApiNode.mk 0 [] [] 0 0 0 0 0 [])) Tryz.zeroValue24 (fun _ => (by rw [rApiNode_eq]; exact ⟨_, ⟨_, _, rfl, rfl, ⟨_, _, rfl, rfl, ⟨_, _, rfl, rfl, ⟨_, _, rfl, rfl, ⟨_, _, rfl, rfl, ⟨_, _, rfl, rfl, ⟨_, _, rfl, rfl, ⟨_, _, rfl, rfl, ⟨_, _, rfl, ⟨_, rfl, none, 0, rfl, ⟨Nat.le_refl _, fun _ => rfl⟩, .inl rfl⟩, rfl⟩⟩⟩⟩⟩⟩⟩⟩⟩, rfl⟩)) (fun b9 => ?_)
      refine rStore (R := rApiNode) (R' := rApiNode) (a := (ApiNode.mk 0 [] [] 0 0 0 0 0 [])) (y := x8) 0 Tryz.sizeOf24 (Upd.refl _) ?_
      refine W_r ?_
      refine rq (out := Pr.str x3) qMove ?_
      refine rq (out := (rApiNode).val x8) (qLoad (R := rApiNode) (a := x8) (R' := rApiNode) 0 ty24 (Sub.refl _)) ?_
      refine rq (out := Pr.str x2) qMove ?_
      obtain ⟨x10, hx10, h2l⟩ := bindSome h2l
      refine rq (out := Pr.str x10) (qCat' hx10) ?_
      obtain ⟨x11, hx11, h2l⟩ := bindSome h2l
      refine rq (out := Pr.str x11) (qCall (ih.2.2.1 x8 x10 _ hx11)) ?_
      obtain ⟨x12, hx12, h2l⟩ := bindSome h2l
      refine rq (out := Pr.str x12) (qCat' hx12) ?_
      refine rq (out := Pr.str x12) qAssign ?_
      refine W_r ?_
      refine rq (out := Pr.i64 (w64 (x4 + 1))) qInt ?_
      refine rq (out := Pr.i64 (w64 (x4 + 1))) qMove ?_
      exact ⟨m2, Nat.lt_succ_self _, x12, w64 (x4 + 1), hn2 _ (Option.some.inj h2l).symm, ⟨⟨Pr.le_rfl, Pr.le_rfl, Pr.le_rfl, Pr.le_rfl, Pr.le_rfl, trivial⟩, Pick.of [] rfl⟩⟩
    · replace h2l := iteF hc7 h2l
      refine W_exit ?_
      obtain rfl := ho2 _ (Option.some.inj h2l).symm
      exact ⟨x3, h, ⟨⟨Pr.le_rfl, Pr.le_rfl, trivial⟩, Pick.refl _⟩⟩
theorem F_print_Statement_step (R : rec_print_belongs_T) (ih : rec_print_belongs_spec R) (x1 : ApiNode) (x2 : List UInt8) (r : (List UInt8)) (h : F_print_Statement R x1 x2 = some r) : FnP Tryz.prog 98 [(rApiNode).val x1, Pr.str x2] (Pr.str r) := by
  refine fn_intro (n := 15) (rs := [4]) Tryz.func98 rfl Tryz.ntmps98 ⟨by decide, Tryz.results98⟩ (by decide) (fun s0 => ?_)
  unfold F_print_Statement at h
  refine W_rs ?_
  refine rBox (R := rApiNode) (a := x1) rfl (fun b3 => ?_)
  refine rq (out := Pr.str []) qAssign ?_
  refine W_rs ?_
  refine rq (out := (rApiNode).val x1) (qLoad (R := rApiNode) (a := x1) (R' := rApiNode) 0 ty24 (Sub.refl _)) ?_
  refine rq (out := Pr.str x2) qMove ?_
  obtain ⟨x4, hx4, h⟩ := bindSome h
  refine rq (out := Pr.str x4) (qCall (ih.2.2.2 x1 x2 _ hx4)) ?_
  refine rq (out := Pr.str x4) qAssign ?_
  refine W_seq ?_
  refine W_rs ?_
  refine rq (out := Pr.str x4) qMove ?_
  refine rq (out := Pr.bool (x4 == [])) qStr ?_
  refine W_cond (b := x4 == []) rfl (fun hc5 => ?_) (fun hc5 => ?_)
  · replace h := iteT hc5 h
    refine W_rs ?_
    refine rq (out := Pr.str []) qAssign ?_
    obtain rfl := Option.some.inj h
    exact W_ret ⟨rfl, Pr.le_rfl⟩
  · replace h := iteF hc5 h
    refine W_skip ?_
    refine W_rs ?_
    refine rq (out := Pr.str x2) qMove ?_
    refine rq (out := Pr.str x4) qMove ?_
    obtain ⟨x6, hx6, h⟩ := bindSome h
    refine rq (out := Pr.str x6) (qCat' hx6) ?_
    obtain ⟨x7, hx7, h⟩ := bindSome h
    refine rq (out := Pr.str x7) (qCat' hx7) ?_
    refine rq (out := Pr.str x7) qAssign ?_
    obtain rfl := Option.some.inj h
    exact W_ret ⟨rfl, Pr.le_rfl⟩
theorem F_print_line_step (R : rec_print_belongs_T) (ih : rec_print_belongs_spec R) (x1 : ApiNode) (x2 : List UInt8) (r : (List UInt8)) (h : F_print_line R x1 x2 = some r) : FnP Tryz.prog 112 [(rApiNode).val x1, Pr.str x2] (Pr.str r) := by
  refine fn_intro (n := 84) (rs := [4]) Tryz.func112 rfl Tryz.ntmps112 ⟨by decide, Tryz.results112⟩ (by decide) (fun s0 => ?_)
  unfold F_print_line at h
  refine W_rs ?_
  refine rBox (R := rApiNode) (a := x1) rfl (fun b3 => ?_)
  refine rq (out := Pr.str []) qAssign ?_
  refine W_rs ?_
  refine rq (out := (rApiNode).val x1) (qLoad (R := rApiNode) (a := x1) (R' := rApiNode) 0 ty24 (Sub.refl _)) ?_
  obtain ⟨x4, hx4, h⟩ := bindSome h
  refine rq (out := Pr.str x4) (qCall (print_kid_ok x1 0 0 _ hx4)) ?_
  refine rq (out := Pr.str x4) qAssign ?_
  refine W_seq ?_
  refine W_rs ?_
  refine rq (out := Pr.pt b3 0) (qFieldP fld24_0) ?_
  refine rq (out := Pr.i64 x1.Kind) (qLoad (R := rApiNode) (a := x1) (R' := Rp.int .i64) 0 ty3 subApiNode_Kind) ?_
  refine W_block ?_
  refine W_rs ?_
  refine rq (out := Pr.bool (x1.Kind == 6)) qInt ?_
  refine rq (out := Pr.bool (x1.Kind == 6)) qAssign ?_
  refine W_cond (b := x1.Kind == 6) rfl (fun hc5 => ?_) (fun hc5 => ?_)
  · replace h := iteT hc5 h
    refine W_rs ?_
    refine rq (out := Pr.pt b3 2) (qFieldP fld24_2) ?_
    refine rq (out := Pr.str x1.Type_) (qLoad (R := rApiNode) (a := x1) (R' := Rp.str) 0 ty9 subApiNode_Type) ?_
    obtain ⟨x6, hx6, h⟩ := bindSome h
    refine rq (out := Pr.str x6) (qCat' hx6) ?_
    refine rq (out := Pr.pt b3 1) (qFieldP fld24_1) ?_
    refine rq (out := Pr.str x1.Text) (qLoad (R := rApiNode) (a := x1) (R' := Rp.str) 0 ty9 subApiNode_Text) ?_
    obtain ⟨x7, hx7, h⟩ := bindSome h
    refine rq (out := Pr.str x7) (qCat' hx7) ?_
    obtain ⟨x8, hx8, h⟩ := bindSome h
    refine rq (out := Pr.str x8) (qCat' hx8) ?_
    refine rq (out := Pr.str x4) qMove ?_
    obtain ⟨x9, hx9, h⟩ := bindSome h
    refine rq (out := Pr.str x9) (qCat' hx9) ?_
    obtain ⟨x10, hx10, h⟩ := bindSome h
    refine rq (out := Pr.str x10) (qCat' hx10) ?_
    refine rq (out := Pr.str x10) qAssign ?_
    obtain rfl := Option.some.inj h
    exact W_ret ⟨rfl, Pr.le_rfl⟩
  · replace h := iteF hc5 h
    refine W_rs ?_
    refine rq (out := Pr.bool (x1.Kind == 7)) qInt ?_
    refine rq (out := Pr.bool (x1.Kind == 7)) qAssign ?_
    refine W_cond (b := x1.Kind == 7) rfl (fun hc11 => ?_) (fun hc11 => ?_)
    · replace h := iteT hc11 h
      refine W_rs ?_
      refine rq (out := Pr.str x4) qMove ?_
      obtain ⟨x12, hx12, h⟩ := bindSome h
      refine rq (out := Pr.str x12) (qCat' hx12) ?_
      refine rq (out := (rApiNode).val x1) (qLoad (R := rApiNode) (a := x1) (R' := rApiNode) 0 ty24 (Sub.refl _)) ?_
      obtain ⟨x13, hx13, h⟩ := bindSome h
      refine rq (out := Pr.str x13) (qCall (print_kid_ok x1 1 0 _ hx13)) ?_
      obtain ⟨x14, hx14, h⟩ := bindSome h
      refine rq (out := Pr.str x14) (qCat' hx14) ?_
      obtain ⟨x15, hx15, h⟩ := bindSome h
      refine rq (out := Pr.str x15) (qCat' hx15) ?_
      refine rq (out := Pr.str x15) qAssign ?_
      obtain rfl := Option.some.inj h
      exact W_ret ⟨rfl, Pr.le_rfl⟩
    · replace h := iteF hc11 h
      refine W_rs ?_
      refine rq (out := Pr.bool (x1.Kind == 8)) qInt ?_
      refine rq (out := Pr.bool (x1.Kind == 8)) qAssign ?_
      refine W_cond (b := x1.Kind == 8) rfl (fun hc16 => ?_) (fun hc16 => ?_)
      · replace h := iteT hc16 h
        refine W_rs ?_
        refine rq (out := Pr.str x4) qMove ?_
        obtain ⟨x17, hx17, h⟩ := bindSome h
        refine rq (out := Pr.str x17) (qCat' hx17) ?_
        refine rq (out := Pr.str x17) qAssign ?_
        obtain rfl := Option.some.inj h
        exact W_ret ⟨rfl, Pr.le_rfl⟩
      · replace h := iteF hc16 h
        refine W_rs ?_
        refine rq (out := Pr.bool (x1.Kind == 11)) qInt ?_
        refine rq (out := Pr.bool (x1.Kind == 11)) qAssign ?_
        refine W_cond (b := x1.Kind == 11) rfl (fun hc18 => ?_) (fun hc18 => ?_)
        · replace h := iteT hc18 h
          refine W_seq ?_
          refine W_rs ?_
          refine rq (out := Pr.pt b3 8) (qFieldP fld24_8) ?_
          refine rq (out := Pr.lst rApiNode x1.Kids) (qLoad (R := rApiNode) (a := x1) (R' := Rp.list rApiNode) 0 ty22 subApiNode_Kids) ?_
          refine rq (out := Pr.i64 (x1.Kids.length : Int)) (qLenL rfl Tryz.underlying22) ?_
          refine rq (out := Pr.bool (decide ((x1.Kids.length : Int) > 0))) qInt ?_
          refine W_cond (b := decide ((x1.Kids.length : Int) > 0)) rfl (fun hc19 => ?_) (fun hc19 => ?_)
          · replace h := iteT hc19 h
            refine W_rs ?_
            refine rq (out := Pr.str x4) qMove ?_
            obtain ⟨x20, hx20, h⟩ := bindSome h
            refine rq (out := Pr.str x20) (qCat' hx20) ?_
            obtain ⟨x21, hx21, h⟩ := bindSome h
            refine rq (out := Pr.str x21) (qCat' hx21) ?_
            refine rq (out := Pr.str x21) qAssign ?_
            obtain rfl := Option.some.inj h
            exact W_ret ⟨rfl, Pr.le_rfl⟩
          · replace h := iteF hc19 h
            refine W_skip ?_
            refine W_rs ?_
            refine rq (out := Pr.str ([114, 101, 116, 117, 114, 110, 59] : List UInt8)) qAssign ?_
            obtain rfl := Option.some.inj h
            exact W_ret ⟨rfl, Pr.le_rfl⟩
        · replace h := iteF hc18 h
          refine W_rs ?_
          refine rq (out := Pr.bool (x1.Kind == 12)) qInt ?_
          refine rq (out := Pr.bool (x1.Kind == 12)) qAssign ?_
          refine W_cond (b := x1.Kind == 12) rfl (fun hc22 => ?_) (fun hc22 => ?_)
          · replace h := iteT hc22 h
            refine W_rs ?_
            refine rq (out := Pr.str x4) qMove ?_
            obtain ⟨x23, hx23, h⟩ := bindSome h
            refine rq (out := Pr.str x23) (qCat' hx23) ?_
            obtain ⟨x24, hx24, h⟩ := bindSome h
            refine rq (out := Pr.str x24) (qCat' hx24) ?_
            refine rq (out := Pr.str x24) qAssign ?_
            obtain rfl := Option.some.inj h
            exact W_ret ⟨rfl, Pr.le_rfl⟩
          · replace h := iteF hc22 h
            refine W_rs ?_
            refine rq (out := Pr.bool (x1.Kind == 10)) qInt ?_
            refine rq (out := Pr.bool (x1.Kind == 10)) qAssign ?_
            refine W_cond (b := x1.Kind == 10) rfl (fun hc25 => ?_) (fun hc25 => ?_)
            · replace h := iteT hc25 h
              refine W_rs ?_
              refine rq (out := Pr.str x4) qMove ?_
              obtain ⟨x26, hx26, h⟩ := bindSome h
              refine rq (out := Pr.str x26) (qCat' hx26) ?_
              obtain ⟨x27, hx27, h⟩ := bindSome h
              refine rq (out := Pr.str x27) (qCat' hx27) ?_
              refine rq (out := (rApiNode).val x1) (qLoad (R := rApiNode) (a := x1) (R' := rApiNode) 0 ty24 (Sub.refl _)) ?_
              refine rq (out := Pr.str x2) qMove ?_
              obtain ⟨x28, hx28, h⟩ := bindSome h
              refine rq (out := Pr.str x28) (qCall (ih.1 x1 1 x2 _ hx28)) ?_
              obtain ⟨x29, hx29, h⟩ := bindSome h
              refine rq (out := Pr.str x29) (qCat' hx29) ?_
              refine rq (out := Pr.str x29) qAssign ?_
              obtain rfl := Option.some.inj h
              exact W_ret ⟨rfl, Pr.le_rfl⟩
            · replace h := iteF hc25 h
              refine W_rs ?_
              refine rq (out := Pr.bool (x1.Kind == 9)) qInt ?_
              refine rq (out := Pr.bool (x1.Kind == 9)) qAssign ?_
              refine W_cond (b := x1.Kind == 9) rfl (fun hc30 => ?_) (fun hc30 => ?_)
              · replace h := iteT hc30 h
                refine W_rs ?_
                refine rq (out := Pr.str x4) qMove ?_
                obtain ⟨x31, hx31, h⟩ := bindSome h
                refine rq (out := Pr.str x31) (qCat' hx31) ?_
                obtain ⟨x32, hx32, h⟩ := bindSome h
                refine rq (out := Pr.str x32) (qCat' hx32) ?_
                refine rq (out := (rApiNode).val x1) (qLoad (R := rApiNode) (a := x1) (R' := rApiNode) 0 ty24 (Sub.refl _)) ?_
                refine rq (out := Pr.str x2) qMove ?_
                obtain ⟨x33, hx33, h⟩ := bindSome h
                refine rq (out := Pr.str x33) (qCall (ih.1 x1 1 x2 _ hx33)) ?_
                obtain ⟨x34, hx34, h⟩ := bindSome h
                refine rq (out := Pr.str x34) (qCat' hx34) ?_
                refine rq (out := Pr.str x34) qAssign ?_
                refine W_join (fun e C => ∃ (x39 : List UInt8), print_line_j1 R x39 = some r ∧ At [(6, Pr.str x39)] [Own.box b3 rApiNode x1] e C) ?_ ?_
                · rintro e C ⟨x39, h, hat1⟩
                  refine W_at hat1 ?_
                  clear hat1
                  unfold print_line_j1 at h
                  refine W_rs ?_
                  refine rq (out := Pr.str x39) qMove ?_
                  refine rq (out := Pr.str x39) qAssign ?_
                  obtain rfl := Option.some.inj h
                  exact W_ret ⟨rfl, Pr.le_rfl⟩
                · refine W_rs ?_
                  refine rq (out := Pr.pt b3 8) (qFieldP fld24_8) ?_
                  refine rq (out := Pr.lst rApiNode x1.Kids) (qLoad (R := rApiNode) (a := x1) (R' := Rp.list rApiNode) 0 ty22 subApiNode_Kids) ?_
                  refine rq (out := Pr.i64 (x1.Kids.length : Int)) (qLenL rfl Tryz.underlying22) ?_
                  refine rq (out := Pr.bool (decide ((x1.Kids.length : Int) > 2))) qInt ?_
                  refine W_cond (b := decide ((x1.Kids.length : Int) > 2)) rfl (fun hc35 => ?_) (fun hc35 => ?_)
                  · replace h := iteT hc35 h
                    refine W_r ?_
                    refine rq (out := Pr.str x34) qMove ?_
                    refine rq (out := (rApiNode).val x1) (qLoad (R := rApiNode) (a := x1) (R' := rApiNode) 0 ty24 (Sub.refl _)) ?_
                    refine rq (out := Pr.str x2) qMove ?_
                    obtain ⟨x36, hx36, h⟩ := bindSome h
                    refine rq (out := Pr.str x36) (qCall (ih.1 x1 2 x2 _ hx36)) ?_
                    obtain ⟨x37, hx37, h⟩ := bindSome h
                    refine rq (out := Pr.str x37) (qCat' hx37) ?_
                    obtain ⟨x38, hx38, h⟩ := bindSome h
                    refine rq (out := Pr.str x38) (qCat' hx38) ?_
                    refine rq (out := Pr.str x38) qAssign ?_
                    exact ⟨x38, h, ⟨⟨Pr.le_rfl, trivial⟩, Pick.refl _⟩⟩
                  · replace h := iteF hc35 h
                    refine W_skip ?_
                    exact ⟨x34, h, ⟨⟨Pr.le_rfl, trivial⟩, Pick.refl _⟩⟩
              · replace h := iteF hc30 h
                refine W_rs ?_
                refine rq (out := Pr.bool (x1.Kind == 5)) qInt ?_
                refine rq (out := Pr.bool (x1.Kind == 5)) qAssign ?_
                refine W_cond (b := x1.Kind == 5) rfl (fun hc40 => ?_) (fun hc40 => ?_)
                · replace h := iteT hc40 h
                  refine W_rs ?_
                  refine rq (out := Pr.pt b3 8) (qFieldP fld24_8) ?_
                  refine rq (out := Pr.lst rApiNode x1.Kids) (qLoad (R := rApiNode) (a := x1) (R' := Rp.list rApiNode) 0 ty22 subApiNode_Kids) ?_
                  refine rq (out := Pr.str x2) qMove ?_
                  obtain ⟨x41, hx41, h⟩ := bindSome h
                  refine rq (out := Pr.str x41) (qCall (ih.2.1 x1.Kids x2 _ hx41)) ?_
                  refine rq (out := Pr.str x41) qAssign ?_
                  obtain rfl := Option.some.inj h
                  exact W_ret ⟨rfl, Pr.le_rfl⟩
                · replace h := iteF hc40 h
                  refine W_skip ?_
                  refine W_rs ?_
                  refine rq (out := Pr.str []) qAssign ?_
                  obtain rfl := Option.some.inj h
                  exact W_ret ⟨rfl, Pr.le_rfl⟩
theorem rec_print_belongs_ok : ∀ n, rec_print_belongs_spec (rec_print_belongs_at n) := by
  intro n
  induction n with
  | zero => exact ⟨(fun x1 x2 x3 r h => nomatch (show none = some r from h)), (fun x1 x2 r h => nomatch (show none = some r from h)), (fun x1 x2 r h => nomatch (show none = some r from h)), (fun x1 x2 r h => nomatch (show none = some r from h))⟩
  | succ n ih => exact ⟨(fun x1 x2 x3 r h => F_print_belongs_step (rec_print_belongs_at n) ih x1 x2 x3 r h), (fun x1 x2 r h => F_print_block_step (rec_print_belongs_at n) ih x1 x2 r h), (fun x1 x2 r h => F_print_Statement_step (rec_print_belongs_at n) ih x1 x2 r h), (fun x1 x2 r h => F_print_line_step (rec_print_belongs_at n) ih x1 x2 r h)⟩
theorem print_belongs_ok (x1 : ApiNode) (x2 : Int) (x3 : List UInt8) (r : (List UInt8)) (h : print_belongs x1 x2 x3 = some r) : FnP Tryz.prog 50 [(rApiNode).val x1, Pr.i64 x2, Pr.str x3] (Pr.str r) := (rec_print_belongs_ok 1048576).1 x1 x2 x3 r h
theorem print_block_ok (x1 : List ApiNode) (x2 : List UInt8) (r : (List UInt8)) (h : print_block x1 x2 = some r) : FnP Tryz.prog 72 [Pr.lst rApiNode x1, Pr.str x2] (Pr.str r) := (rec_print_belongs_ok 1048576).2.1 x1 x2 r h
theorem print_Statement_ok (x1 : ApiNode) (x2 : List UInt8) (r : (List UInt8)) (h : print_Statement x1 x2 = some r) : FnP Tryz.prog 98 [(rApiNode).val x1, Pr.str x2] (Pr.str r) := (rec_print_belongs_ok 1048576).2.2.1 x1 x2 r h
theorem print_line_ok (x1 : ApiNode) (x2 : List UInt8) (r : (List UInt8)) (h : print_line x1 x2 = some r) : FnP Tryz.prog 112 [(rApiNode).val x1, Pr.str x2] (Pr.str r) := (rec_print_belongs_ok 1048576).2.2.2 x1 x2 r h
theorem print_Member_ok (x1 : ApiNode) (r : (List UInt8)) (h : print_Member x1 = some r) : FnP Tryz.prog 30 [(rApiNode).val x1] (Pr.str r) := by
  refine fn_intro (n := 46) (rs := [2]) Tryz.func30 rfl Tryz.ntmps30 ⟨by decide, Tryz.results30⟩ (by decide) (fun s0 => ?_)
  unfold print_Member at h
  refine W_rs ?_
  refine rBox (R := rApiNode) (a := x1) rfl (fun b2 => ?_)
  refine rq (out := Pr.str []) qAssign ?_
  refine W_rs ?_
  refine rq (out := Pr.str ([32, 32] : List UInt8)) qAssign ?_
  refine W_join (fun e C => ∃ (x5 : List UInt8), print_Member_j1 x1 x5 = some r ∧ At [(1, Pr.pt b2 0), (3, Pr.str x5)] [Own.box b2 rApiNode x1] e C) ?_ ?_
  · rintro e C ⟨x5, h, hat1⟩
    refine W_at hat1 ?_
    clear hat1
    unfold print_Member_j1 at h
    refine W_rs ?_
    refine rq (out := Pr.str x5) qMove ?_
    refine rq (out := Pr.pt b2 2) (qFieldP fld24_2) ?_
    refine rq (out := Pr.str x1.Type_) (qLoad (R := rApiNode) (a := x1) (R' := Rp.str) 0 ty9 subApiNode_Type) ?_
    obtain ⟨x6, hx6, h⟩ := bindSome h
    refine rq (out := Pr.str x6) (qCat' hx6) ?_
    refine rq (out := Pr.pt b2 1) (qFieldP fld24_1) ?_
    refine rq (out := Pr.str x1.Text) (qLoad (R := rApiNode) (a := x1) (R' := Rp.str) 0 ty9 subApiNode_Text) ?_
    obtain ⟨x7, hx7, h⟩ := bindSome h
    refine rq (out := Pr.str x7) (qCat' hx7) ?_
    obtain ⟨x8, hx8, h⟩ := bindSome h
    refine rq (out := Pr.str x8) (qCat' hx8) ?_
    refine rq (out := Pr.str x8) qAssign ?_
    refine W_seq ?_
    refine W_rs ?_
    refine rq (out := Pr.pt b2 0) (qFieldP fld24_0) ?_
    refine rq (out := Pr.i64 x1.Kind) (qLoad (R := rApiNode) (a := x1) (R' := Rp.int .i64) 0 ty3 subApiNode_Kind) ?_
    refine W_block ?_
    refine W_rs ?_
    refine rq (out := Pr.bool (x1.Kind == 2)) qInt ?_
    refine rq (out := Pr.bool (x1.Kind == 2)) qAssign ?_
    refine W_cond (b := x1.Kind == 2) rfl (fun hc9 => ?_) (fun hc9 => ?_)
    · replace h := iteT hc9 h
      refine W_rs ?_
      refine rq (out := Pr.str x8) qMove ?_
      obtain ⟨x10, hx10, h⟩ := bindSome h
      refine rq (out := Pr.str x10) (qCat' hx10) ?_
      refine rq (out := Pr.str x10) qAssign ?_
      obtain rfl := Option.some.inj h
      exact W_ret ⟨rfl, Pr.le_rfl⟩
    · replace h := iteF hc9 h
      refine W_rs ?_
      refine rq (out := Pr.bool (x1.Kind == 3)) qInt ?_
      refine rq (out := Pr.bool (x1.Kind == 3)) qAssign ?_
      refine W_cond (b := x1.Kind == 3) rfl (fun hc11 => ?_) (fun hc11 => ?_)
      · replace h := iteT hc11 h
        refine W_rs ?_
        refine rq (out := Pr.pt b2 8) (qFieldP fld24_8) ?_
        refine rq (out := Pr.lst rApiNode x1.Kids) (qLoad (R := rApiNode) (a := x1) (R' := Rp.list rApiNode) 0 ty22 subApiNode_Kids) ?_
        refine rq (out := Pr.i64 (x1.Kids.length : Int)) (qLenL rfl Tryz.underlying22) ?_
        refine rq (out := Pr.i64 (w64 ((x1.Kids.length : Int) - 1))) qInt ?_
        refine rq (out := Pr.i64 (if (w64 ((x1.Kids.length : Int) - 1)) > 0 then (w64 ((x1.Kids.length : Int) - 1)) else 0)) (qMax (a := 0) (b := w64 ((x1.Kids.length : Int) - 1))) ?_
        refine rq (out := Pr.i64 (if (w64 ((x1.Kids.length : Int) - 1)) > 0 then (w64 ((x1.Kids.length : Int) - 1)) else 0)) qAssign ?_
        refine W_rs ?_
        refine rq (out := Pr.pt b2 8) (qFieldP fld24_8) ?_
        refine rq (out := Pr.lst rApiNode x1.Kids) (qLoad (R := rApiNode) (a := x1) (R' := Rp.list rApiNode) 0 ty22 subApiNode_Kids) ?_
        refine rq (out := Pr.i64 (if (w64 ((x1.Kids.length : Int) - 1)) > 0 then (w64 ((x1.Kids.length : Int) - 1)) else 0)) qMove ?_
        obtain ⟨x12, hx12, h⟩ := bindSome h
        refine rq (out := Pr.lst rApiNode x12) (qLSubH Tryz.underlying22 Tryz.sizeOf24 hx12) ?_
        obtain ⟨x13, hx13, h⟩ := bindSome h
        refine rq (out := Pr.str x13) (qCall' (print_list_ok x12 print_Member_1 _ hx13) ⟨Pr.le_rfl, (is_pfn en49 (fun _ _ hs => by obtain ⟨a0, r, rfl, rfl, hr⟩ := hs; exact print_Member_1_ok a0 r hr)), trivial⟩) ?_
        refine rq (out := Pr.str x13) qAssign ?_
        refine W_rs ?_
        refine rq (out := Pr.str x8) qMove ?_
        refine rq (out := Pr.str x13) qMove ?_
        obtain ⟨x14, hx14, h⟩ := bindSome h
        refine rq (out := Pr.str x14) (qCat' hx14) ?_
        obtain ⟨x15, hx15, h⟩ := bindSome h
        refine rq (out := Pr.str x15) (qCat' hx15) ?_
        refine rq (out := (rApiNode).val x1) (qLoad (R := rApiNode) (a := x1) (R' := rApiNode) 0 ty24 (Sub.refl _)) ?_
        refine rq (out := Pr.i64 (if (w64 ((x1.Kids.length : Int) - 1)) > 0 then (w64 ((x1.Kids.length : Int) - 1)) else 0)) qMove ?_
        obtain ⟨x16, hx16, h⟩ := bindSome h
        refine rq (out := Pr.str x16) (qCall (print_belongs_ok x1 (if (w64 ((x1.Kids.length : Int) - 1)) > 0 then (w64 ((x1.Kids.length : Int) - 1)) else 0) ([32, 32] : List UInt8) _ hx16)) ?_
        obtain ⟨x17, hx17, h⟩ := bindSome h
        refine rq (out := Pr.str x17) (qCat' hx17) ?_
        obtain ⟨x18, hx18, h⟩ := bindSome h
        refine rq (out := Pr.str x18) (qCat' hx18) ?_
        refine rq (out := Pr.str x18) qAssign ?_
        obtain rfl := Option.some.inj h
        exact W_ret ⟨rfl, Pr.le_rfl⟩
      · replace h := iteF hc11 h
        refine W_skip ?_
        refine W_rs ?_
        refine rq (out := Pr.str []) qAssign ?_
        obtain rfl := Option.some.inj h
        exact W_ret ⟨rfl, Pr.le_rfl⟩
  · refine W_rs ?_
    refine rq (out := Pr.pt b2 3) (qFieldP fld24_3) ?_
    refine rq (out := Pr.i64 x1.N) (qLoad (R := rApiNode) (a := x1) (R' := Rp.int .i64) 0 ty2 subApiNode_N) ?_
    refine rq (out := Pr.bool (x1.N == 1)) qInt ?_
    refine W_cond (b := x1.N == 1) rfl (fun hc3 => ?_) (fun hc3 => ?_)
    · replace h := iteT hc3 h
      refine W_r ?_
      refine rq (out := Pr.str ([32, 32] : List UInt8)) qMove ?_
      obtain ⟨x4, hx4, h⟩ := bindSome h
      refine rq (out := Pr.str x4) (qCat' hx4) ?_
      refine rq (out := Pr.str x4) qAssign ?_
      exact ⟨x4, h, ⟨⟨Pr.le_rfl, Pr.le_rfl, trivial⟩, Pick.refl _⟩⟩
    · replace h := iteF hc3 h
      refine W_skip ?_
      exact ⟨([32, 32] : List UInt8), h, ⟨⟨Pr.le_rfl, Pr.le_rfl, trivial⟩, Pick.refl _⟩⟩
theorem print_Class_ok (x1 : ApiNode) (r : (List UInt8)) (h : print_Class x1 = some r) : FnP Tryz.prog 29 [(rApiNode).val x1] (Pr.str r) := by
  refine fn_intro (n := 33) (rs := [2]) Tryz.func29 rfl Tryz.ntmps29 ⟨by decide, Tryz.results29⟩ (by decide) (fun s0 => ?_)
  unfold print_Class at h
  refine W_rs ?_
  refine rBox (R := rApiNode) (a := x1) rfl (fun b2 => ?_)
  refine rq (out := Pr.str []) qAssign ?_
  refine W_rs ?_
  refine rq (out := Pr.pt b2 1) (qFieldP fld24_1) ?_
  refine rq (out := Pr.str x1.Text) (qLoad (R := rApiNode) (a := x1) (R' := Rp.str) 0 ty9 subApiNode_Text) ?_
  obtain ⟨x3, hx3, h⟩ := bindSome h
  refine rq (out := Pr.str x3) (qCat' hx3) ?_
  refine rq (out := Pr.str x3) qAssign ?_
  refine W_join (fun e C => ∃ (x7 : List UInt8), print_Class_j3 x1 x7 = some r ∧ At [(1, Pr.pt b2 0), (3, Pr.str x7)] [Own.box b2 rApiNode x1] e C) ?_ ?_
  · rintro e C ⟨x7, h, hat3⟩
    refine W_at hat3 ?_
    clear hat3
    unfold print_Class_j3 at h
    refine W_rs ?_
    refine rq (out := Pr.str x7) qMove ?_
    obtain ⟨x8, hx8, h⟩ := bindSome h
    refine rq (out := Pr.str x8) (qCat' hx8) ?_
    refine rq (out := Pr.str x8) qAssign ?_
    refine W_seq ?_
    refine W_rs ?_
    refine rq (out := Pr.pt b2 8) (qFieldP fld24_8) ?_
    refine rq (out := Pr.lst rApiNode x1.Kids) (qLoad (R := rApiNode) (a := x1) (R' := Rp.list rApiNode) 0 ty22 subApiNode_Kids) ?_
    refine rq (out := Pr.i64 (x1.Kids.length : Int)) (qLenL rfl Tryz.underlying22) ?_
    refine rq (out := Pr.i64 0) qMove ?_
    refine W_block ?_
    obtain ⟨z2l, hz2, h⟩ := bindSome h
    obtain ⟨n2, hN2⟩ := iter_some hz2
    clear hz2
    refine W_after 0 (fun e C => ∃ (x9 : List UInt8), print_Class_k1 x9 = some r ∧ At [(3, Pr.str x9)] [Own.box b2 rApiNode x1] e C) ?_ ?_
    · rintro e C ⟨x9, h, hat1⟩
      refine W_at hat1 ?_
      clear hat1
      unfold print_Class_k1 at h
      refine W_rs ?_
      refine rq (out := Pr.str x9) qMove ?_
      obtain ⟨x18, hx18, h⟩ := bindSome h
      refine rq (out := Pr.str x18) (qCat' hx18) ?_
      refine rq (out := Pr.str x18) qAssign ?_
      obtain rfl := Option.some.inj h
      exact W_ret ⟨rfl, Pr.le_rfl⟩
    · refine W_loop (fun m e C => ∃ (x9 : List UInt8), ∃ (x10 : Int), IterN (fun s => print_Class_l2 x1 s.1 s.2) m (x9, x10) = some z2l ∧ At [(3, Pr.str x9), (20, Pr.lst rApiNode x1.Kids), (21, Pr.i64 (x1.Kids.length : Int)), (22, Pr.i64 x10)] [Own.box b2 rApiNode x1] e C) n2 ⟨x8, 0, hN2, ⟨⟨Pr.le_rfl, Pr.le_rfl, Pr.le_rfl, Pr.le_rfl, trivial⟩, Pick.refl _⟩⟩ ?_
      clear hN2
      rintro m e C ⟨x9, x10, hN2, hatl2⟩
      refine W_at hatl2 ?_
      clear hatl2
      obtain ⟨m2, w2l, rfl, h2l, hn2, ho2⟩ := iterN_some hN2
      clear hN2
      replace h2l : print_Class_l2 x1 x9 x10 = some w2l := h2l
      unfold print_Class_l2 at h2l
      refine W_rs ?_
      refine rq (out := Pr.bool (decide (x10 < (x1.Kids.length : Int)))) qInt ?_
      refine W_seq ?_
      refine W_cond (b := decide (x10 < (x1.Kids.length : Int))) rfl (fun hc13 => ?_) (fun hc13 => ?_)
      · replace h2l := iteT hc13 h2l
        refine W_skip ?_
        refine W_seq ?_
        refine W_block ?_
        refine W_rs ?_
        obtain ⟨x14, hx14, h2l⟩ := bindSome h2l
        refine rq (out := Pr.cpt rApiNode x14) (qIdxA (R := rApiNode) (l := x1.Kids) Tryz.underlying22 Tryz.sizeOf24 hx14) ?_
        refine rq (out := (rApiNode).val x14) (qLoadC (R := rApiNode) (a := x14) ty24) ?_
        refine rAlloc (R := rApiNode) (z := (ApiNode.mk 0 [] [] 0 0 0 0 0 [])) Tryz.zeroValue24 (fun _ => (by rw [rApiNode_eq]; exact ⟨_, ⟨_, _, rfl, rfl, ⟨_, _, rfl, rfl, ⟨_, _, rfl, rfl, ⟨_, _, rfl, rfl, ⟨_, _, rfl, rfl, ⟨_, _, rfl, rfl, ⟨_, _, rfl, rfl, ⟨_, _, rfl, rfl, ⟨_, _, rfl, ⟨_, rfl, none, 0, rfl, ⟨Nat.le_refl _, fun _ => rfl⟩, .inl rfl⟩, rfl⟩⟩⟩⟩⟩⟩⟩⟩⟩, rfl⟩)) (fun b15 => ?_)
        refine rStore (R := rApiNode) (R' := rApiNode) (a := (ApiNode.mk 0 [] [] 0 0 0 0 0 [])) (y := x14) 1 Tryz.sizeOf24 (Upd.refl _) ?_
        refine W_r ?_
        refine rq (out := Pr.str x9) qMove ?_
        refine rq (out := (rApiNode).val x14) (qLoad (R := rApiNode) (a := x14) (R' := rApiNode) 1 ty24 (Sub.refl _)) ?_
        obtain ⟨x16, hx16, h2l⟩ := bindSome h2l
        refine rq (out := Pr.str x16) (qCall (print_Member_ok x14 _ hx16)) ?_
        obtain ⟨x17, hx17, h2l⟩ := bindSome h2l
        refine rq (out := Pr.str x17) (qCat' hx17) ?_
        refine rq (out := Pr.str x17) qAssign ?_
        refine W_r ?_
        refine rq (out := Pr.i64 (w64 (x10 + 1))) qInt ?_
        refine rq (out := Pr.i64 (w64 (x10 + 1))) qMove ?_
        exact ⟨m2, Nat.lt_succ_self _, x17, w64 (x10 + 1), hn2 _ (Option.some.inj h2l).symm, ⟨⟨Pr.le_rfl, Pr.le_rfl, Pr.le_rfl, Pr.le_rfl, trivial⟩, Pick.of [0] rfl⟩⟩
      · replace h2l := iteF hc13 h2l
        refine W_exit ?_
        obtain rfl := ho2 _ (Option.some.inj h2l).symm
        exact ⟨x9, h, ⟨⟨Pr.le_rfl, trivial⟩, Pick.refl _⟩⟩
  · refine W_rs ?_
    refine rq (out := Pr.pt b2 2) (qFieldP fld24_2) ?_
    refine rq (out := Pr.str x1.Type_) (qLoad (R := rApiNode) (a := x1) (R' := Rp.str) 0 ty9 subApiNode_Type) ?_
    refine rq (out := Pr.bool (!(x1.Type_ == []))) qStr ?_
    refine W_cond (b := !(x1.Type_ == [])) rfl (fun hc4 => ?_) (fun hc4 => ?_)
    · replace h := iteT hc4 h
      refine W_r ?_
      refine rq (out := Pr.str x3) qMove ?_
      refine rq (out := Pr.pt b2 2) (qFieldP fld24_2) ?_
      refine rq (out := Pr.str x1.Type_) (qLoad (R := rApiNode) (a := x1) (R' := Rp.str) 0 ty9 subApiNode_Type) ?_
      obtain ⟨x5, hx5, h⟩ := bindSome h
      refine rq (out := Pr.str x5) (qCat' hx5) ?_
      obtain ⟨x6, hx6, h⟩ := bindSome h
      refine rq (out := Pr.str x6) (qCat' hx6) ?_
      refine rq (out := Pr.str x6) qAssign ?_
      exact ⟨x6, h, ⟨⟨Pr.le_rfl, Pr.le_rfl, trivial⟩, Pick.refl _⟩⟩
    · replace h := iteF hc4 h
      refine W_skip ?_
      exact ⟨x3, h, ⟨⟨Pr.le_rfl, Pr.le_rfl, trivial⟩, Pick.refl _⟩⟩
theorem shape_Of_ok (x1 : ApiNode) (x2 : List (List UInt8)) (r : (List UInt8)) (h : shape_Of x1 x2 = some r) : FnP Tryz.prog 12 [(rApiNode).val x1, Pr.lst Rp.str x2] (Pr.str r) := by
  refine fn_intro (n := 20) (rs := [4]) Tryz.func12 rfl Tryz.ntmps12 ⟨by decide, Tryz.results12⟩ (by decide) (fun s0 => ?_)
  unfold shape_Of at h
  refine W_rs ?_
  refine rBox (R := rApiNode) (a := x1) rfl (fun b3 => ?_)
  refine rq (out := Pr.str []) qAssign ?_
  refine W_rs ?_
  refine rq (out := (rApiNode).val x1) (qLoad (R := rApiNode) (a := x1) (R' := rApiNode) 0 ty24 (Sub.refl _)) ?_
  refine rq (out := Pr.lst Rp.str x2) qMove ?_
  obtain ⟨x4, hx4, h⟩ := bindSome h
  refine rq (out := (rApiNode).val x4) (qCall (shape_Erase_ok x1 x2 _ hx4)) ?_
  refine rAlloc (R := rApiNode) (z := (ApiNode.mk 0 [] [] 0 0 0 0 0 [])) Tryz.zeroValue24 (fun _ => (by rw [rApiNode_eq]; exact ⟨_, ⟨_, _, rfl, rfl, ⟨_, _, rfl, rfl, ⟨_, _, rfl, rfl, ⟨_, _, rfl, rfl, ⟨_, _, rfl, rfl, ⟨_, _, rfl, rfl, ⟨_, _, rfl, rfl, ⟨_, _, rfl, rfl, ⟨_, _, rfl, ⟨_, rfl, none, 0, rfl, ⟨Nat.le_refl _, fun _ => rfl⟩, .inl rfl⟩, rfl⟩⟩⟩⟩⟩⟩⟩⟩⟩, rfl⟩)) (fun b5 => ?_)
  refine rStore (R := rApiNode) (R' := rApiNode) (a := (ApiNode.mk 0 [] [] 0 0 0 0 0 [])) (y := x4) 1 Tryz.sizeOf24 (Upd.refl _) ?_
  refine W_seq ?_
  refine W_rs ?_
  refine rq (out := Pr.pt b3 0) (qFieldP fld24_0) ?_
  refine rq (out := Pr.i64 x1.Kind) (qLoad (R := rApiNode) (a := x1) (R' := Rp.int .i64) 0 ty3 subApiNode_Kind) ?_
  refine W_block ?_
  refine W_rs ?_
  refine rq (out := Pr.bool (x1.Kind == 1)) qInt ?_
  refine rq (out := Pr.bool (x1.Kind == 1)) qAssign ?_
  refine W_cond (b := x1.Kind == 1) rfl (fun hc6 => ?_) (fun hc6 => ?_)
  · replace h := iteT hc6 h
    refine W_rs ?_
    refine rq (out := (rApiNode).val x4) (qLoad (R := rApiNode) (a := x4) (R' := rApiNode) 1 ty24 (Sub.refl _)) ?_
    obtain ⟨x7, hx7, h⟩ := bindSome h
    refine rq (out := Pr.str x7) (qCall (print_Class_ok x4 _ hx7)) ?_
    refine rq (out := Pr.str x7) qAssign ?_
    obtain rfl := Option.some.inj h
    exact W_ret ⟨rfl, Pr.le_rfl⟩
  · replace h := iteF hc6 h
    refine W_join (fun e C => ∃ (x9 : Bool), shape_Of_j1 x4 x9 = some r ∧ At [(5, Pr.pt b5 0), (15, Pr.bool x9)] [Own.box b3 rApiNode x1, Own.box b5 rApiNode x4] e C) ?_ ?_
    · rintro e C ⟨x9, h, hat1⟩
      refine W_at hat1 ?_
      clear hat1
      unfold shape_Of_j1 at h
      refine W_cond (b := x9) rfl (fun hc10 => ?_) (fun hc10 => ?_)
      · replace h := iteT hc10 h
        refine W_rs ?_
        refine rq (out := (rApiNode).val x4) (qLoad (R := rApiNode) (a := x4) (R' := rApiNode) 1 ty24 (Sub.refl _)) ?_
        obtain ⟨x11, hx11, h⟩ := bindSome h
        refine rq (out := Pr.str x11) (qCall (print_Member_ok x4 _ hx11)) ?_
        refine rq (out := Pr.str x11) qAssign ?_
        obtain rfl := Option.some.inj h
        exact W_ret ⟨rfl, Pr.le_rfl⟩
      · replace h := iteF hc10 h
        refine W_skip ?_
        refine W_rs ?_
        refine rq (out := Pr.str []) qAssign ?_
        obtain rfl := Option.some.inj h
        exact W_ret ⟨rfl, Pr.le_rfl⟩
    · refine W_rs ?_
      refine rq (out := Pr.bool (x1.Kind == 2)) qInt ?_
      refine rq (out := Pr.bool (x1.Kind == 2)) qAssign ?_
      refine W_cond (b := x1.Kind == 2) rfl (fun hc8 => ?_) (fun hc8 => ?_)
      · replace h := iteT hc8 h
        refine W_skip ?_
        exact ⟨x1.Kind == 2, h, ⟨⟨Pr.le_rfl, Pr.le_rfl, trivial⟩, Pick.refl _⟩⟩
      · replace h := iteF hc8 h
        refine W_r ?_
        refine rq (out := Pr.bool (x1.Kind == 3)) qInt ?_
        refine rq (out := Pr.bool (x1.Kind == 3)) qAssign ?_
        exact ⟨x1.Kind == 3, h, ⟨⟨Pr.le_rfl, Pr.le_rfl, trivial⟩, Pick.refl _⟩⟩
theorem lex_Lex_1_ok (x1 : Int) (x2 : Int) (x3 : Int) (x5 : List ApiToken) (x8 : List UInt8) (x10 : Int) (b4 : Nat) (v6 : Value) (b7 : Nat) (b9 : Nat) (r : (List ApiToken) × (List UInt8) × Int) (h : lex_Lex_1 x1 x2 x3 x5 x8 x10 = some r) : FnC Tryz.prog 52 [Pr.i64 x1, Pr.i64 x2, Pr.i64 x3, Pr.pt b4 0, Pr.pt b7 0, Pr.pt b9 0] [Own.cell b4 (Pr.is v6), Own.vec v6 rApiToken x5 56, Own.box b7 Rp.str x8, Own.box b9 (Rp.int .i64) x10] (fun q C' => ∃ w0, q = Pr.tup [] ∧ C' = [Own.cell b4 (Pr.is w0), Own.vec w0 rApiToken r.1 56, Own.box b7 Rp.str r.2.1, Own.box b9 (Rp.int .i64) r.2.2]) := by
  refine fnc_introP (n := 38) (rs := []) Tryz.func52 rfl Tryz.ntmps52 ⟨by decide, Tryz.results52⟩ (by decide) (fun s0 => ?_)
  unfold lex_Lex_1 at h
  refine W_join (fun e C => ∃ (x13 : List ApiToken), ∃ (v14 : Value), lex_Lex_1_j1 x8 x10 x2 x3 x13 = some r ∧ At [(1, Pr.i64 x2), (2, Pr.i64 x3), (5, Pr.pt b9 0)] [Own.cell b4 (Pr.is v14), Own.vec v14 rApiToken x13 56, Own.box b7 Rp.str x8, Own.box b9 (Rp.int .i64) x10] e C) ?_ ?_
  · rintro e C ⟨x13, v14, h, hat1⟩
    refine W_at hat1 ?_
    clear hat1
    unfold lex_Lex_1_j1 at h
    refine W_r ?_
    refine rq (out := Pr.i64 x10) (qLoad (R := Rp.int .i64) (a := x10) (R' := Rp.int .i64) 3 ty3 (Sub.refl _)) ?_
    refine rq (out := Pr.i64 x2) qMove ?_
    refine rq (out := Pr.i64 x3) qMove ?_
    refine rq (out := Pr.i64 (w64 (x2 + x3))) qInt ?_
    refine rq (out := Pr.i64 (w64 (x10 + (w64 (x2 + x3))))) qInt ?_
    refine rStore (R := Rp.int .i64) (R' := Rp.int .i64) (a := x10) (y := w64 (x10 + (w64 (x2 + x3)))) 3 Tryz.sizeOf3 (Upd.refl _) ?_
    obtain rfl := Option.some.inj h
    exact ⟨.inr rfl, _, Pick.refl _, _, Pr.le_rfl, v14, rfl, rfl⟩
  · refine W_draw 23 hmx (by kernel_rfl) (by kernel_rfl) ?_
    refine qq (out := Pr.is v6) (qLoadP 0 Tryz.isAgg52) ?_
    refine qq (out := Pr.i64 x1) qMove ?_
    refine qq (out := Pr.str x8) (qLoad (R := Rp.str) (a := x8) (R' := Rp.str) 2 ty9 (Sub.refl _)) ?_
    refine qq (out := Pr.i64 x10) (qLoad (R := Rp.int .i64) (a := x10) (R' := Rp.int .i64) 3 ty3 (Sub.refl _)) ?_
    refine qq (out := Pr.i64 x2) qMove ?_
    refine qq (out := Pr.i64 (w64 (x10 + x2))) qInt ?_
    refine qq (out := Pr.i64 x10) (qLoad (R := Rp.int .i64) (a := x10) (R' := Rp.int .i64) 3 ty3 (Sub.refl _)) ?_
    refine qq (out := Pr.i64 x2) qMove ?_
    refine qq (out := Pr.i64 (w64 (x10 + x2))) qInt ?_
    refine qq (out := Pr.i64 x3) qMove ?_
    refine qq (out := Pr.i64 (w64 ((w64 (x10 + x2)) + x3))) qInt ?_
    obtain ⟨x11, hx11, h⟩ := bindSome h
    refine qq (out := Pr.str x11) (qSubLH Tryz.underlying9 hx11) ?_
    refine qq (out := Pr.i64 x10) (qLoad (R := Rp.int .i64) (a := x10) (R' := Rp.int .i64) 3 ty3 (Sub.refl _)) ?_
    refine qq (out := Pr.i64 x2) qMove ?_
    refine qq (out := Pr.i64 (w64 (x10 + x2))) qInt ?_
    refine qq (out := Pr.str x8) (qLoad (R := Rp.str) (a := x8) (R' := Rp.str) 2 ty9 (Sub.refl _)) ?_
    refine qq (out := Pr.i64 x10) (qLoad (R := Rp.int .i64) (a := x10) (R' := Rp.int .i64) 3 ty3 (Sub.refl _)) ?_
    refine qq (out := Pr.i64 x10) (qLoad (R := Rp.int .i64) (a := x10) (R' := Rp.int .i64) 3 ty3 (Sub.refl _)) ?_
    refine qq (out := Pr.i64 x2) qMove ?_
    refine qq (out := Pr.i64 (w64 (x10 + x2))) qInt ?_
    obtain ⟨x12, hx12, h⟩ := bindSome h
    refine qq (out := Pr.str x12) (qSubLH Tryz.underlying9 hx12) ?_
    refine qq (out := (rApiToken).val (ApiToken.mk x1 x11 (w64 (x10 + x2)) x12)) (qBuild st56 ⟨(ApiToken.mk x1 [] 0 []), ⟨_, rfl, rfl, fun j fd hj hf => by match j, hj with | 0, h => exact absurd rfl h | 1, _ => cases hf; rfl | 2, _ => cases hf; rfl | 3, _ => cases hf; rfl | _ + 4, _ => cases hf⟩, ⟨(ApiToken.mk x1 x11 0 []), ⟨_, rfl, rfl, fun j fd hj hf => by match j, hj with | 0, _ => cases hf; rfl | 1, h => exact absurd rfl h | 2, _ => cases hf; rfl | 3, _ => cases hf; rfl | _ + 4, _ => cases hf⟩, ⟨(ApiToken.mk x1 x11 (w64 (x10 + x2)) []), ⟨_, rfl, rfl, fun j fd hj hf => by match j, hj with | 0, _ => cases hf; rfl | 1, _ => cases hf; rfl | 2, h => exact absurd rfl h | 3, _ => cases hf; rfl | _ + 4, _ => cases hf⟩, ⟨(ApiToken.mk x1 x11 (w64 (x10 + x2)) x12), ⟨_, rfl, rfl, fun j fd hj hf => by match j, hj with | 0, _ => cases hf; rfl | 1, _ => cases hf; rfl | 2, _ => cases hf; rfl | 3, h => exact absurd rfl h | _ + 4, _ => cases hf⟩, rfl⟩⟩⟩⟩) ?_
    refine qq (out := Pr.lst rApiToken ([(ApiToken.mk x1 x11 (w64 (x10 + x2)) x12)] : List ApiToken)) (qBuildSlice1 (R := rApiToken) (a := (ApiToken.mk x1 x11 (w64 (x10 + x2)) x12)) el52 (Nat.le_of_ble_eq_true rfl)) ?_
    obtain ⟨x13, hx13, h⟩ := bindSome h
    refine rAppend' 1 el52 hx13 (fun v14 => ?_)
    refine rStoreV 0 1 Tryz.sizeOf52 ?_
    exact ⟨x13, v14, h, ⟨⟨Pr.le_rfl, Pr.le_rfl, Pr.le_rfl, trivial⟩, Pick.refl _⟩⟩
theorem internal_stringslite_HasPrefix_ok (x1 : List UInt8) (x2 : List UInt8) (r : Bool) (h : internal_stringslite_HasPrefix x1 x2 = some r) : FnP Tryz.prog 100 [Pr.str x1, Pr.str x2] (Pr.bool r) := by
  refine fn_intro (n := 18) (rs := [4]) Tryz.func100 rfl Tryz.ntmps100 ⟨by decide, Tryz.results100⟩ (by decide) (fun s0 => ?_)
  unfold internal_stringslite_HasPrefix at h
  refine W_rs ?_
  refine rq (out := Pr.bool false) qAssign ?_
  refine W_join (fun e C => ∃ (x5 : Bool), internal_stringslite_HasPrefix_j1 x5 = some r ∧ At [(4, Pr.bool x5)] [] e C) ?_ ?_
  · rintro e C ⟨x5, h, hat1⟩
    refine W_at hat1 ?_
    clear hat1
    unfold internal_stringslite_HasPrefix_j1 at h
    obtain rfl := Option.some.inj h
    exact W_ret ⟨rfl, Pr.le_rfl⟩
  · refine W_r ?_
    refine rq (out := Pr.str x1) qMove ?_
    refine rq (out := Pr.i64 (x1.length : Int)) (qLenS rfl Tryz.underlying9) ?_
    refine rq (out := Pr.str x2) qMove ?_
    refine rq (out := Pr.i64 (x2.length : Int)) (qLenS rfl Tryz.underlying9) ?_
    refine rq (out := Pr.bool (decide ((x1.length : Int) ≥ (x2.length : Int)))) qInt ?_
    refine rq (out := Pr.bool (decide ((x1.length : Int) ≥ (x2.length : Int)))) qMove ?_
    rcases iteSome h with ⟨hc3, h⟩ | ⟨hc3, h⟩
    · refine rqg hc3 (out := Pr.str x1) qMove ?_
      refine rqg hc3 (out := Pr.str x2) qMove ?_
      refine rqg hc3 (out := Pr.i64 (x2.length : Int)) (qLenS rfl Tryz.underlying9) ?_
      obtain ⟨x4, hx4, h⟩ := bindSome h
      refine rqg hc3 (out := Pr.str x4) (qSubH Tryz.underlying9 hx4) ?_
      refine rqg hc3 (out := Pr.str x2) qMove ?_
      refine rqg hc3 (out := Pr.bool (x4 == x2)) qStr ?_
      refine rq (out := Pr.bool (x4 == x2)) (qPickT hc3) ?_
      refine rq (out := Pr.bool (x4 == x2)) qAssign ?_
      exact ⟨x4 == x2, h, ⟨⟨Pr.le_rfl, trivial⟩, Pick.refl _⟩⟩
    · refine rno (neT hc3) ?_
      refine rno (neT hc3) ?_
      refine rno (neT hc3) ?_
      refine rno (neT hc3) ?_
      refine rno (neT hc3) ?_
      refine rno (neT hc3) ?_
      refine rq (out := Pr.bool false) (qPickF hc3) ?_
      refine rq (out := Pr.bool false) qAssign ?_
      exact ⟨false, h, ⟨⟨Pr.le_rfl, trivial⟩, Pick.refl _⟩⟩
theorem strings_HasPrefix_ok (x1 : List UInt8) (x2 : List UInt8) (r : Bool) (h : strings_HasPrefix x1 x2 = some r) : FnP Tryz.prog 74 [Pr.str x1, Pr.str x2] (Pr.bool r) := by
  refine fn_intro (n := 8) (rs := [4]) Tryz.func74 rfl Tryz.ntmps74 ⟨by decide, Tryz.results74⟩ (by decide) (fun s0 => ?_)
  unfold strings_HasPrefix at h
  refine W_rs ?_
  refine rq (out := Pr.bool false) qAssign ?_
  refine W_rs ?_
  refine rq (out := Pr.str x1) qMove ?_
  refine rq (out := Pr.str x2) qMove ?_
  obtain ⟨x3, hx3, h⟩ := bindSome h
  refine rq (out := Pr.bool x3) (qCall (internal_stringslite_HasPrefix_ok x1 x2 _ hx3)) ?_
  refine rq (out := Pr.bool x3) qAssign ?_
  obtain rfl := Option.some.inj h
  exact W_ret ⟨rfl, Pr.le_rfl⟩
theorem lex_run_ok (x1 : List UInt8) (x2 : (Int → Option Bool)) (r : Int) (h : lex_run x1 x2 = some r) : FnP Tryz.prog 75 [Pr.str x1, Pr.pfn Tryz.prog (spec94 x2)] (Pr.i64 r) := by
  refine fn_intro (n := 21) (rs := [4]) Tryz.func75 rfl Tryz.ntmps75 ⟨by decide, Tryz.results75⟩ (by decide) (fun s0 => ?_)
  unfold lex_run at h
  refine W_rs ?_
  refine rq (out := Pr.i64 0) qAssign ?_
  refine W_seq ?_
  refine W_rs ?_
  refine rq (out := Pr.str x1) qMove ?_
  refine rq (out := Pr.i64 (x1.length : Int)) (qLenS rfl Tryz.underlying9) ?_
  refine rq (out := Pr.i64 0) qMove ?_
  refine W_block ?_
  obtain ⟨z2l, hz2, h⟩ := bindSome h
  obtain ⟨n2, hN2⟩ := iter_some hz2
  clear hz2
  refine W_after 0 (fun e C => lex_run_k1 x1 = some r ∧ At [(0, Pr.str x1)] [] e C) ?_ ?_
  · rintro e C ⟨h, hat1⟩
    refine W_at hat1 ?_
    clear hat1
    unfold lex_run_k1 at h
    refine W_rs ?_
    refine rq (out := Pr.str x1) qMove ?_
    refine rq (out := Pr.i64 (x1.length : Int)) (qLenS rfl Tryz.underlying9) ?_
    refine rq (out := Pr.i64 (x1.length : Int)) qAssign ?_
    obtain rfl := Option.some.inj h
    exact W_ret ⟨rfl, Pr.le_rfl⟩
  · refine W_loop (fun m e C => ∃ (x3 : Int), IterN (fun s => lex_run_l2 x1 x2 s) m x3 = some z2l ∧ At [(0, Pr.str x1), (1, Pr.pfn Tryz.prog (spec94 x2)), (7, Pr.i64 (x1.length : Int)), (8, Pr.i64 x3)] [] e C) n2 ⟨0, hN2, ⟨⟨Pr.le_rfl, Pr.le_rfl, Pr.le_rfl, Pr.le_rfl, trivial⟩, Pick.refl _⟩⟩ ?_
    clear hN2
    rintro m e C ⟨x3, hN2, hatl2⟩
    refine W_at hatl2 ?_
    clear hatl2
    obtain ⟨m2, w2l, rfl, h2l, hn2, ho2⟩ := iterN_some hN2
    clear hN2
    replace h2l : lex_run_l2 x1 x2 x3 = some w2l := h2l
    unfold lex_run_l2 at h2l
    refine W_rs ?_
    refine rq (out := Pr.bool (decide (x3 < (x1.length : Int)))) qInt ?_
    refine W_seq ?_
    refine W_cond (b := decide (x3 < (x1.length : Int))) rfl (fun hc5 => ?_) (fun hc5 => ?_)
    · replace h2l := iteT hc5 h2l
      refine W_skip ?_
      refine W_seq ?_
      refine W_block ?_
      refine W_rs ?_
      refine rq (out := Pr.i64 x3) qMove ?_
      refine rq (out := Pr.i64 x3) qAssign ?_
      refine W_rs ?_
      refine rq (out := Pr.pfn Tryz.prog (spec94 x2)) qMove ?_
      refine rq (out := Pr.str x1) qMove ?_
      refine rq (out := Pr.i64 x3) qMove ?_
      obtain ⟨x6, hx6, h2l⟩ := bindSome h2l
      refine rq (out := Pr.u8 x6) (qIdxS Tryz.underlying9 hx6) ?_
      obtain ⟨x7, hx7, h2l⟩ := bindSome h2l
      refine rq (out := Pr.bool x7) (qCallP (spec := spec94 x2) ⟨_, _, rfl, rfl, hx7⟩) ?_
      refine rq (out := Pr.bool (!x7)) qNot ?_
      refine W_cond (b := !x7) rfl (fun hc8 => ?_) (fun hc8 => ?_)
      · replace h2l := iteT hc8 h2l
        refine W_rs ?_
        refine rq (out := Pr.i64 x3) qMove ?_
        refine rq (out := Pr.i64 x3) qAssign ?_
        obtain rfl := ho2 _ (Option.some.inj h2l).symm
        replace h : some x3 = some r := h
        obtain rfl := Option.some.inj h
        exact W_ret ⟨rfl, Pr.le_rfl⟩
      · replace h2l := iteF hc8 h2l
        refine W_skip ?_
        refine W_r ?_
        refine rq (out := Pr.i64 (w64 (x3 + 1))) qInt ?_
        refine rq (out := Pr.i64 (w64 (x3 + 1))) qMove ?_
        exact ⟨m2, Nat.lt_succ_self _, w64 (x3 + 1), hn2 _ (Option.some.inj h2l).symm, ⟨⟨Pr.le_rfl, Pr.le_rfl, Pr.le_rfl, Pr.le_rfl, trivial⟩, Pick.refl _⟩⟩
    · replace h2l := iteF hc5 h2l
      refine W_exit ?_
      obtain rfl := ho2 _ (Option.some.inj h2l).symm
      exact ⟨h, ⟨⟨Pr.le_rfl, trivial⟩, Pick.refl _⟩⟩
theorem lex_between_1_ok (x1 : Int) (r : Bool) (h : lex_between_1 x1 = some r) : FnP Tryz.prog 76 [Pr.u8 x1] (Pr.bool r) := by
  refine fn_intro (n := 5) (rs := [2]) Tryz.func76 rfl Tryz.ntmps76 ⟨by decide, Tryz.results76⟩ (by decide) (fun s0 => ?_)
  unfold lex_between_1 at h
  refine W_rs ?_
  refine rq (out := Pr.bool false) qAssign ?_
  refine W_rs ?_
  refine rq (out := Pr.u8 x1) qMove ?_
  refine rq (out := Pr.bool (x1 != 10)) qInt ?_
  refine rq (out := Pr.bool (x1 != 10)) qAssign ?_
  obtain rfl := Option.some.inj h
  exact W_ret ⟨rfl, Pr.le_rfl⟩
theorem lex_between_ok (x1 : List UInt8) (r : Int × Bool) (h : lex_between x1 = some r) : FnP Tryz.prog 53 [Pr.str x1] (Pr.tup [Pr.i64 r.1, Pr.bool r.2]) := by
  refine fn_intro (n := 48) (rs := [2, 3]) Tryz.func53 rfl Tryz.ntmps53 ⟨by decide, Tryz.results53⟩ (by decide) (fun s0 => ?_)
  unfold lex_between at h
  refine W_rs ?_
  refine rq (out := Pr.i64 0) qAssign ?_
  refine rq (out := Pr.bool false) qAssign ?_
  refine W_scope ?_
  refine W_rs ?_
  refine rq (out := Pr.i64 0) qAssign ?_
  refine W_seq ?_
  refine W_label ?_
  refine W_join (fun e C => ∃ (x2 : Int), lex_between_j1 x2 = some r ∧ At [(4, Pr.i64 x2)] [] e C) ?_ ?_
  · rintro e C ⟨x2, h, hat1⟩
    refine W_at hat1 ?_
    clear hat1
    unfold lex_between_j1 at h
    refine W_rs ?_
    refine rq (out := Pr.i64 x2) qMove ?_
    refine rq (out := Pr.i64 x2) qAssign ?_
    refine rq (out := Pr.bool true) qAssign ?_
    obtain rfl := Option.some.inj h
    exact W_ret ⟨rfl, Pr.le_rfl⟩
  · refine W_block ?_
    obtain ⟨z3l, hz3, h⟩ := bindSome h
    obtain ⟨n3, hN3⟩ := iter_some hz3
    clear hz3
    refine W_after 0 (fun e C => ∃ (x2 : Int), lex_between_k2 x2 = some r ∧ At [(4, Pr.i64 x2)] [] e C) ?_ ?_
    · rintro e C ⟨x2, h, hat2⟩
      unfold lex_between_k2 at h
      exact ⟨x2, h, (At.trans hat2 ⟨⟨Pr.le_rfl, trivial⟩, Pick.refl _⟩)⟩
    · refine W_loop (fun m e C => ∃ (x2 : Int), IterN (fun s => lex_between_l3 x1 s) m x2 = some z3l ∧ At [(0, Pr.str x1), (4, Pr.i64 x2)] [] e C) n3 ⟨0, hN3, ⟨⟨Pr.le_rfl, Pr.le_rfl, trivial⟩, Pick.refl _⟩⟩ ?_
      clear hN3
      rintro m e C ⟨x2, hN3, hatl3⟩
      refine W_at hatl3 ?_
      clear hatl3
      obtain ⟨m3, w3l, rfl, h3l, hn3, ho3⟩ := iterN_some hN3
      clear hN3
      replace h3l : lex_between_l3 x1 x2 = some w3l := h3l
      unfold lex_between_l3 at h3l
      refine W_seq ?_
      refine W_rs ?_
      refine rq (out := Pr.i64 x2) qMove ?_
      refine rq (out := Pr.str x1) qMove ?_
      refine rq (out := Pr.i64 (x1.length : Int)) (qLenS rfl Tryz.underlying9) ?_
      refine rq (out := Pr.bool (decide (x2 < (x1.length : Int)))) qInt ?_
      refine W_cond (b := decide (x2 < (x1.length : Int))) rfl (fun hc4 => ?_) (fun hc4 => ?_)
      · replace h3l := iteT hc4 h3l
        refine W_skip ?_
        refine W_block ?_
        refine W_rs ?_
        refine rq (out := Pr.str x1) qMove ?_
        refine rq (out := Pr.i64 x2) qMove ?_
        obtain ⟨x5, hx5, h3l⟩ := bindSome h3l
        refine rq (out := Pr.str x5) (qSubL Tryz.underlying9 hx5) ?_
        refine rq (out := Pr.str x5) qAssign ?_
        refine W_seq ?_
        refine W_block ?_
        refine W_rs ?_
        refine rq (out := Pr.str x5) qMove ?_
        obtain ⟨x6, hx6, h3l⟩ := bindSome h3l
        refine rq (out := Pr.bool x6) (qCall (strings_HasPrefix_ok x5 ([47, 47] : List UInt8) _ hx6)) ?_
        refine rq (out := Pr.bool x6) qAssign ?_
        refine W_cond (b := x6) rfl (fun hc7 => ?_) (fun hc7 => ?_)
        · replace h3l := iteT hc7 h3l
          refine W_rs ?_
          refine rq (out := Pr.i64 x2) qMove ?_
          refine rq (out := Pr.str x5) qMove ?_
          obtain ⟨x8, hx8, h3l⟩ := bindSome h3l
          refine rq (out := Pr.i64 x8) (qCall' (lex_run_ok x5 lex_between_1 _ hx8) ⟨Pr.le_rfl, (is_pfn en76 (fun _ _ hs => by obtain ⟨a0, r, rfl, rfl, hr⟩ := hs; exact lex_between_1_ok a0 r hr)), trivial⟩) ?_
          refine rq (out := Pr.i64 (w64 (x2 + x8))) qInt ?_
          refine rq (out := Pr.i64 (w64 (x2 + x8))) qAssign ?_
          refine W_exit ?_
          exact ⟨m3, Nat.lt_succ_self _, w64 (x2 + x8), hn3 _ (Option.some.inj h3l).symm, ⟨⟨Pr.le_rfl, Pr.le_rfl, trivial⟩, Pick.refl _⟩⟩
        · replace h3l := iteF hc7 h3l
          refine W_rs ?_
          refine rq (out := Pr.str x5) qMove ?_
          obtain ⟨x9, hx9, h3l⟩ := bindSome h3l
          refine rq (out := Pr.bool x9) (qCall (strings_HasPrefix_ok x5 ([47, 42] : List UInt8) _ hx9)) ?_
          refine rq (out := Pr.bool x9) qAssign ?_
          refine W_cond (b := x9) rfl (fun hc10 => ?_) (fun hc10 => ?_)
          · replace h3l := iteT hc10 h3l
            refine W_rs ?_
            refine rq (out := Pr.str x5) qMove ?_
            obtain ⟨x11, hx11, h3l⟩ := bindSome h3l
            refine rq (out := Pr.str x11) (qSubL Tryz.underlying9 hx11) ?_
            obtain ⟨x12, hx12, h3l⟩ := bindSome h3l
            refine rq (out := Pr.i64 x12) (qCall (strings_Index_ok x11 ([42, 47] : List UInt8) _ hx12)) ?_
            refine rq (out := Pr.i64 x12) qAssign ?_
            refine W_seq ?_
            refine W_rs ?_
            refine rq (out := Pr.i64 x12) qMove ?_
            refine rq (out := Pr.bool (decide (x12 < 0))) qInt ?_
            refine W_cond (b := decide (x12 < 0)) rfl (fun hc13 => ?_) (fun hc13 => ?_)
            · replace h3l := iteT hc13 h3l
              refine W_rs ?_
              refine rq (out := Pr.i64 x2) qMove ?_
              refine rq (out := Pr.i64 x2) qAssign ?_
              refine rq (out := Pr.bool false) qAssign ?_
              obtain rfl := ho3 _ (Option.some.inj h3l).symm
              replace h : some (x2, false) = some r := h
              obtain rfl := Option.some.inj h
              exact W_ret ⟨rfl, Pr.le_rfl⟩
            · replace h3l := iteF hc13 h3l
              refine W_skip ?_
              refine W_rs ?_
              refine rq (out := Pr.i64 x2) qMove ?_
              refine rq (out := Pr.i64 x12) qMove ?_
              refine rq (out := Pr.i64 (w64 (2 + x12))) qInt ?_
              refine rq (out := Pr.i64 (w64 ((w64 (2 + x12)) + 2))) qInt ?_
              refine rq (out := Pr.i64 (w64 (x2 + (w64 ((w64 (2 + x12)) + 2))))) qInt ?_
              refine rq (out := Pr.i64 (w64 (x2 + (w64 ((w64 (2 + x12)) + 2))))) qAssign ?_
              refine W_exit ?_
              exact ⟨m3, Nat.lt_succ_self _, w64 (x2 + (w64 ((w64 (2 + x12)) + 2))), hn3 _ (Option.some.inj h3l).symm, ⟨⟨Pr.le_rfl, Pr.le_rfl, trivial⟩, Pick.refl _⟩⟩
          · replace h3l := iteF hc10 h3l
            refine W_skip ?_
            refine W_rs ?_
            refine rq (out := Pr.str x5) qMove ?_
            obtain ⟨x14, hx14, h3l⟩ := bindSome h3l
            refine rq (out := Pr.u8 x14) (qIdxS Tryz.underlying9 hx14) ?_
            refine W_block ?_
            refine W_seq ?_
            refine W_block ?_
            refine W_join (fun e C => lex_between_j4 x2 = some w3l ∧ At [(0, Pr.str x1), (4, Pr.i64 x2)] [] e C) ?_ ?_
            · rintro e C ⟨h3l, hat4⟩
              refine W_at hat4 ?_
              clear hat4
              unfold lex_between_j4 at h3l
              refine W_rs ?_
              refine rq (out := Pr.i64 x2) qMove ?_
              refine rq (out := Pr.i64 (w64 (x2 + 1))) qInt ?_
              refine rq (out := Pr.i64 (w64 (x2 + 1))) qAssign ?_
              refine W_exit ?_
              exact ⟨m3, Nat.lt_succ_self _, w64 (x2 + 1), hn3 _ (Option.some.inj h3l).symm, ⟨⟨Pr.le_rfl, Pr.le_rfl, trivial⟩, Pick.refl _⟩⟩
            · refine W_block ?_
              refine W_block ?_
              refine W_block ?_
              refine W_block ?_
              refine W_seq ?_
              refine W_seq ?_
              refine W_rs ?_
              refine rq (out := Pr.bool (x14 == 32)) qInt ?_
              refine rq (out := Pr.bool (x14 == 32)) qAssign ?_
              refine W_cond (b := x14 == 32) rfl (fun hc15 => ?_) (fun hc15 => ?_)
              · replace h3l := iteT hc15 h3l
                refine W_exit ?_
                exact ⟨h3l, ⟨⟨Pr.le_rfl, Pr.le_rfl, trivial⟩, Pick.refl _⟩⟩
              · replace h3l := iteF hc15 h3l
                refine W_skip ?_
                refine W_seq ?_
                refine W_rs ?_
                refine rq (out := Pr.bool (x14 == 9)) qInt ?_
                refine rq (out := Pr.bool (x14 == 9)) qAssign ?_
                refine W_cond (b := x14 == 9) rfl (fun hc16 => ?_) (fun hc16 => ?_)
                · replace h3l := iteT hc16 h3l
                  refine W_exit ?_
                  exact ⟨h3l, ⟨⟨Pr.le_rfl, Pr.le_rfl, trivial⟩, Pick.refl _⟩⟩
                · replace h3l := iteF hc16 h3l
                  refine W_skip ?_
                  refine W_seq ?_
                  refine W_rs ?_
                  refine rq (out := Pr.bool (x14 == 13)) qInt ?_
                  refine rq (out := Pr.bool (x14 == 13)) qAssign ?_
                  refine W_cond (b := x14 == 13) rfl (fun hc17 => ?_) (fun hc17 => ?_)
                  · replace h3l := iteT hc17 h3l
                    refine W_exit ?_
                    exact ⟨h3l, ⟨⟨Pr.le_rfl, Pr.le_rfl, trivial⟩, Pick.refl _⟩⟩
                  · replace h3l := iteF hc17 h3l
                    refine W_skip ?_
                    refine W_rs ?_
                    refine rq (out := Pr.bool (x14 == 10)) qInt ?_
                    refine rq (out := Pr.bool (x14 == 10)) qAssign ?_
                    refine W_cond (b := x14 == 10) rfl (fun hc18 => ?_) (fun hc18 => ?_)
                    · replace h3l := iteT hc18 h3l
                      refine W_exit ?_
                      exact ⟨h3l, ⟨⟨Pr.le_rfl, Pr.le_rfl, trivial⟩, Pick.refl _⟩⟩
                    · replace h3l := iteF hc18 h3l
                      refine W_skip ?_
                      refine W_exit ?_
                      refine W_seq ?_
                      refine W_exit ?_
                      obtain rfl := ho3 _ (Option.some.inj h3l).symm
                      exact ⟨x2, h, ⟨⟨Pr.le_rfl, trivial⟩, Pick.refl _⟩⟩
      · replace h3l := iteF hc4 h3l
        refine W_exit ?_
        obtain rfl := ho3 _ (Option.some.inj h3l).symm
        exact ⟨x2, h, ⟨⟨Pr.le_rfl, trivial⟩, Pick.refl _⟩⟩
theorem lex_digit_ok (x1 : Int) (r : Bool) (h : lex_digit x1 = some r) : FnP Tryz.prog 78 [Pr.u8 x1] (Pr.bool r) := by
  refine fn_intro (n := 9) (rs := [2]) Tryz.func78 rfl Tryz.ntmps78 ⟨by decide, Tryz.results78⟩ (by decide) (fun s0 => ?_)
  unfold lex_digit at h
  refine W_rs ?_
  refine rq (out := Pr.bool false) qAssign ?_
  refine W_join (fun e C => ∃ (x3 : Bool), lex_digit_j1 x3 = some r ∧ At [(2, Pr.bool x3)] [] e C) ?_ ?_
  · rintro e C ⟨x3, h, hat1⟩
    refine W_at hat1 ?_
    clear hat1
    unfold lex_digit_j1 at h
    obtain rfl := Option.some.inj h
    exact W_ret ⟨rfl, Pr.le_rfl⟩
  · refine W_r ?_
    refine rq (out := Pr.u8 x1) qMove ?_
    refine rq (out := Pr.bool (decide (x1 ≥ 48))) qInt ?_
    refine rq (out := Pr.bool (decide (x1 ≥ 48))) qMove ?_
    rcases iteSome h with ⟨hc2, h⟩ | ⟨hc2, h⟩
    · refine rqg hc2 (out := Pr.u8 x1) qMove ?_
      refine rqg hc2 (out := Pr.bool (decide (x1 ≤ 57))) qInt ?_
      refine rq (out := Pr.bool (decide (x1 ≤ 57))) (qPickT hc2) ?_
      refine rq (out := Pr.bool (decide (x1 ≤ 57))) qAssign ?_
      exact ⟨decide (x1 ≤ 57), h, ⟨⟨Pr.le_rfl, trivial⟩, Pick.refl _⟩⟩
    · refine rno (neT hc2) ?_
      refine rno (neT hc2) ?_
      refine rq (out := Pr.bool false) (qPickF hc2) ?_
      refine rq (out := Pr.bool false) qAssign ?_
      exact ⟨false, h, ⟨⟨Pr.le_rfl, trivial⟩, Pick.refl _⟩⟩
theorem lex_letter_ok (x1 : Int) (r : Bool) (h : lex_letter x1 = some r) : FnP Tryz.prog 80 [Pr.u8 x1] (Pr.bool r) := by
  refine fn_intro (n := 15) (rs := [2]) Tryz.func80 rfl Tryz.ntmps80 ⟨by decide, Tryz.results80⟩ (by decide) (fun s0 => ?_)
  unfold lex_letter at h
  refine W_rs ?_
  refine rq (out := Pr.bool false) qAssign ?_
  refine W_join (fun e C => ∃ (x5 : Bool), lex_letter_j1 x5 = some r ∧ At [(2, Pr.bool x5)] [] e C) ?_ ?_
  · rintro e C ⟨x5, h, hat1⟩
    refine W_at hat1 ?_
    clear hat1
    unfold lex_letter_j1 at h
    obtain rfl := Option.some.inj h
    exact W_ret ⟨rfl, Pr.le_rfl⟩
  · refine W_r ?_
    refine rq (out := Pr.u8 x1) qMove ?_
    refine rq (out := Pr.u8 (bits .or .u8 x1 32)) (qBits (by simp) rfl) ?_
    refine rq (out := Pr.bool (decide ((bits .or .u8 x1 32) ≥ 97))) qInt ?_
    refine rq (out := Pr.bool (decide ((bits .or .u8 x1 32) ≥ 97))) qMove ?_
    rcases iteSome h with ⟨hc2, h⟩ | ⟨hc2, h⟩
    · refine rqg hc2 (out := Pr.u8 x1) qMove ?_
      refine rqg hc2 (out := Pr.u8 (bits .or .u8 x1 32)) (qBits (by simp) rfl) ?_
      refine rqg hc2 (out := Pr.bool (decide ((bits .or .u8 x1 32) ≤ 122))) qInt ?_
      refine rq (out := Pr.bool (decide ((bits .or .u8 x1 32) ≤ 122))) (qPickT hc2) ?_
      refine rq (out := Pr.bool (decide ((bits .or .u8 x1 32) ≤ 122))) qMove ?_
      rcases iteSome h with ⟨hc3, h⟩ | ⟨hc3, h⟩
      · refine rno (neF hc3) ?_
        refine rno (neF hc3) ?_
        refine rq (out := Pr.bool true) (qPickT hc3) ?_
        refine rq (out := Pr.bool true) qAssign ?_
        exact ⟨true, h, ⟨⟨Pr.le_rfl, trivial⟩, Pick.refl _⟩⟩
      · refine rqg hc3 (out := Pr.u8 x1) qMove ?_
        refine rqg hc3 (out := Pr.bool (x1 == 95)) qInt ?_
        refine rq (out := Pr.bool (x1 == 95)) (qPickF hc3) ?_
        refine rq (out := Pr.bool (x1 == 95)) qAssign ?_
        exact ⟨x1 == 95, h, ⟨⟨Pr.le_rfl, trivial⟩, Pick.refl _⟩⟩
    · refine rno (neT hc2) ?_
      refine rno (neT hc2) ?_
      refine rno (neT hc2) ?_
      refine rq (out := Pr.bool false) (qPickF hc2) ?_
      refine rq (out := Pr.bool false) qMove ?_
      have hc4 : false = false := rfl
      refine rqg hc4 (out := Pr.u8 x1) qMove ?_
      refine rqg hc4 (out := Pr.bool (x1 == 95)) qInt ?_
      refine rq (out := Pr.bool (x1 == 95)) (qPickF hc4) ?_
      refine rq (out := Pr.bool (x1 == 95)) qAssign ?_
      exact ⟨x1 == 95, h, ⟨⟨Pr.le_rfl, trivial⟩, Pick.refl _⟩⟩
theorem lex_token_1_ok (x1 : Int) (r : Bool) (h : lex_token_1 x1 = some r) : FnP Tryz.prog 81 [Pr.u8 x1] (Pr.bool r) := by
  refine fn_intro (n := 9) (rs := [2]) Tryz.func81 rfl Tryz.ntmps81 ⟨by decide, Tryz.results81⟩ (by decide) (fun s0 => ?_)
  unfold lex_token_1 at h
  refine W_rs ?_
  refine rq (out := Pr.bool false) qAssign ?_
  refine W_join (fun e C => ∃ (x5 : Bool), lex_token_1_j1 x5 = some r ∧ At [(2, Pr.bool x5)] [] e C) ?_ ?_
  · rintro e C ⟨x5, h, hat1⟩
    refine W_at hat1 ?_
    clear hat1
    unfold lex_token_1_j1 at h
    obtain rfl := Option.some.inj h
    exact W_ret ⟨rfl, Pr.le_rfl⟩
  · refine W_r ?_
    refine rq (out := Pr.u8 x1) qMove ?_
    obtain ⟨x2, hx2, h⟩ := bindSome h
    refine rq (out := Pr.bool x2) (qCall (lex_letter_ok x1 _ hx2)) ?_
    refine rq (out := Pr.bool x2) qMove ?_
    rcases iteSome h with ⟨hc3, h⟩ | ⟨hc3, h⟩
    · refine rno (neF hc3) ?_
      refine rno (neF hc3) ?_
      refine rq (out := Pr.bool true) (qPickT hc3) ?_
      refine rq (out := Pr.bool true) qAssign ?_
      exact ⟨true, h, ⟨⟨Pr.le_rfl, trivial⟩, Pick.refl _⟩⟩
    · refine rqg hc3 (out := Pr.u8 x1) qMove ?_
      obtain ⟨x4, hx4, h⟩ := bindSome h
      refine rqg hc3 (out := Pr.bool x4) (qCall (lex_digit_ok x1 _ hx4)) ?_
      refine rq (out := Pr.bool x4) (qPickF hc3) ?_
      refine rq (out := Pr.bool x4) qAssign ?_
      exact ⟨x4, h, ⟨⟨Pr.le_rfl, trivial⟩, Pick.refl _⟩⟩
theorem slices_Index_string_string_ok (x1 : List (List UInt8)) (x2 : List UInt8) (r : Int) (h : slices_Index_string_string x1 x2 = some r) : FnP Tryz.prog 123 [Pr.lst Rp.str x1, Pr.str x2] (Pr.i64 r) := by
  refine fn_intro (n := 19) (rs := [4]) Tryz.func123 rfl Tryz.ntmps123 ⟨by decide, Tryz.results123⟩ (by decide) (fun s0 => ?_)
  unfold slices_Index_string_string at h
  refine W_rs ?_
  refine rq (out := Pr.i64 0) qAssign ?_
  refine W_seq ?_
  refine W_rs ?_
  refine rq (out := Pr.lst Rp.str x1) qMove ?_
  refine rq (out := Pr.i64 (x1.length : Int)) (qLenL rfl Tryz.underlying25) ?_
  refine rq (out := Pr.i64 0) qMove ?_
  refine W_block ?_
  obtain ⟨z2l, hz2, h⟩ := bindSome h
  obtain ⟨n2, hN2⟩ := iter_some hz2
  clear hz2
  refine W_after 0 (fun e C => slices_Index_string_string_k1 = some r ∧ At [] [] e C) ?_ ?_
  · rintro e C ⟨h, hat1⟩
    refine W_at hat1 ?_
    clear hat1
    unfold slices_Index_string_string_k1 at h
    refine W_rs ?_
    refine rq (out := Pr.i64 (-1)) qAssign ?_
    obtain rfl := Option.some.inj h
    exact W_ret ⟨rfl, Pr.le_rfl⟩
  · refine W_loop (fun m e C => ∃ (x3 : Int), IterN (fun s => slices_Index_string_string_l2 x1 x2 s) m x3 = some z2l ∧ At [(0, Pr.lst Rp.str x1), (1, Pr.str x2), (7, Pr.i64 (x1.length : Int)), (8, Pr.i64 x3)] [] e C) n2 ⟨0, hN2, ⟨⟨Pr.le_rfl, Pr.le_rfl, Pr.le_rfl, Pr.le_rfl, trivial⟩, Pick.refl _⟩⟩ ?_
    clear hN2
    rintro m e C ⟨x3, hN2, hatl2⟩
    refine W_at hatl2 ?_
    clear hatl2
    obtain ⟨m2, w2l, rfl, h2l, hn2, ho2⟩ := iterN_some hN2
    clear hN2
    replace h2l : slices_Index_string_string_l2 x1 x2 x3 = some w2l := h2l
    unfold slices_Index_string_string_l2 at h2l
    refine W_rs ?_
    refine rq (out := Pr.bool (decide (x3 < (x1.length : Int)))) qInt ?_
    refine W_seq ?_
    refine W_cond (b := decide (x3 < (x1.length : Int))) rfl (fun hc5 => ?_) (fun hc5 => ?_)
    · replace h2l := iteT hc5 h2l
      refine W_skip ?_
      refine W_seq ?_
      refine W_block ?_
      refine W_rs ?_
      refine rq (out := Pr.i64 x3) qMove ?_
      refine rq (out := Pr.i64 x3) qAssign ?_
      refine W_rs ?_
      refine rq (out := Pr.str x2) qMove ?_
      refine rq (out := Pr.lst Rp.str x1) qMove ?_
      refine rq (out := Pr.i64 x3) qMove ?_
      obtain ⟨x6, hx6, h2l⟩ := bindSome h2l
      refine rq (out := Pr.cpt Rp.str x6) (qIdxA (R := Rp.str) (l := x1) Tryz.underlying25 Tryz.sizeOf9 hx6) ?_
      refine rq (out := Pr.str x6) (qLoadC (R := Rp.str) (a := x6) ty9) ?_
      refine rq (out := Pr.bool (x2 == x6)) qStr ?_
      refine W_cond (b := x2 == x6) rfl (fun hc7 => ?_) (fun hc7 => ?_)
      · replace h2l := iteT hc7 h2l
        refine W_rs ?_
        refine rq (out := Pr.i64 x3) qMove ?_
        refine rq (out := Pr.i64 x3) qAssign ?_
        obtain rfl := ho2 _ (Option.some.inj h2l).symm
        replace h : some x3 = some r := h
        obtain rfl := Option.some.inj h
        exact W_ret ⟨rfl, Pr.le_rfl⟩
      · replace h2l := iteF hc7 h2l
        refine W_skip ?_
        refine W_r ?_
        refine rq (out := Pr.i64 (w64 (x3 + 1))) qInt ?_
        refine rq (out := Pr.i64 (w64 (x3 + 1))) qMove ?_
        exact ⟨m2, Nat.lt_succ_self _, w64 (x3 + 1), hn2 _ (Option.some.inj h2l).symm, ⟨⟨Pr.le_rfl, Pr.le_rfl, Pr.le_rfl, Pr.le_rfl, trivial⟩, Pick.refl _⟩⟩
    · replace h2l := iteF hc5 h2l
      refine W_exit ?_
      obtain rfl := ho2 _ (Option.some.inj h2l).symm
      exact ⟨h, ⟨trivial, Pick.refl _⟩⟩
end Go.Proofs.YtgkcoicaopilhaaGreatDoor
