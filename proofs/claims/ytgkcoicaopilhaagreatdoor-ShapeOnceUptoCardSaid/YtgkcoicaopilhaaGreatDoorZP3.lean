/- The code comes to what these functions say (printed by wip/gen/gen.py). -/
import Derived.Test.YtgkcoicaopilhaaGreatDoorZP2
import Derived.Test.YtgkcoicaopilhaaGreatDoorZT
set_option linter.unusedSimpArgs false
set_option linter.unusedVariables false
/- The code comes to what these functions say (printed by wip/gen/gen.py). -/
set_option linter.unusedSectionVars false
set_option maxRecDepth 100000
set_option maxHeartbeats 4000000
namespace Go.Proofs.YtgkcoicaopilhaaGreatDoor
open Go Go.Cn

def rec_ref12_expression_spec (R : rec_ref12_expression_T) : Prop := (∀ (x1 : List ApiToken) (x2 : Int) (x3 : Int) (r : ApiNode × Int × Ref12Wrong), R.1 x1 x2 x3 = some r → FnP Tryz.prog 40 [Pr.lst rApiToken x1, Pr.i64 x2, Pr.i64 x3] (Pr.tup [(rApiNode).val r.1, Pr.i64 r.2.1, (rRef12Wrong).val r.2.2])) ∧ (∀ (x1 : List ApiToken) (x2 : Int) (x3 : Int) (x4 : Int) (r : ApiNode × Int × Ref12Wrong), R.2.1 x1 x2 x3 x4 = some r → FnP Tryz.prog 67 [Pr.lst rApiToken x1, Pr.i64 x2, Pr.i64 x3, Pr.i64 x4] (Pr.tup [(rApiNode).val r.1, Pr.i64 r.2.1, (rRef12Wrong).val r.2.2])) ∧ (∀ (x1 : List ApiToken) (x2 : Int) (x3 : Int) (r : ApiNode × Int × Ref12Wrong), R.2.2.1 x1 x2 x3 = some r → FnP Tryz.prog 91 [Pr.lst rApiToken x1, Pr.i64 x2, Pr.i64 x3] (Pr.tup [(rApiNode).val r.1, Pr.i64 r.2.1, (rRef12Wrong).val r.2.2])) ∧ (∀ (x1 : List ApiToken) (x2 : Int) (x3 : Int) (r : ApiNode × Int × Ref12Wrong), R.2.2.2.1 x1 x2 x3 = some r → FnP Tryz.prog 106 [Pr.lst rApiToken x1, Pr.i64 x2, Pr.i64 x3] (Pr.tup [(rApiNode).val r.1, Pr.i64 r.2.1, (rRef12Wrong).val r.2.2])) ∧ (∀ (x1 : List ApiToken) (x2 : Int) (x3 : Int) (r : (List ApiNode) × Int × Ref12Wrong), R.2.2.2.2 x1 x2 x3 = some r → FnP Tryz.prog 107 [Pr.lst rApiToken x1, Pr.i64 x2, Pr.i64 x3] (Pr.tup [Pr.lst rApiNode r.1, Pr.i64 r.2.1, (rRef12Wrong).val r.2.2]))
theorem F_ref12_expression_step (R : rec_ref12_expression_T) (ih : rec_ref12_expression_spec R) (x1 : List ApiToken) (x2 : Int) (x3 : Int) (r : ApiNode × Int × Ref12Wrong) (h : F_ref12_expression R x1 x2 x3 = some r) : FnP Tryz.prog 40 [Pr.lst rApiToken x1, Pr.i64 x2, Pr.i64 x3] (Pr.tup [(rApiNode).val r.1, Pr.i64 r.2.1, (rRef12Wrong).val r.2.2]) := by
  refine fn_introR (n := 16) (rs := [.cell 6 24, .tmp 7, .cell 8 59]) Tryz.func40 rfl Tryz.ntmps40 Tryz.results40 (by decide) (fun s0 => ?_)
  unfold F_ref12_expression at h
  refine W_rs ?_
  refine rAlloc (R := rApiNode) (z := (ApiNode.mk 0 [] [] 0 0 0 0 0 [])) Tryz.zeroValue24 (fun _ => (by rw [rApiNode_eq]; exact ⟨_, ⟨_, _, rfl, rfl, ⟨_, _, rfl, rfl, ⟨_, _, rfl, rfl, ⟨_, _, rfl, rfl, ⟨_, _, rfl, rfl, ⟨_, _, rfl, rfl, ⟨_, _, rfl, rfl, ⟨_, _, rfl, rfl, ⟨_, _, rfl, ⟨_, rfl, none, 0, rfl, ⟨Nat.le_refl _, fun _ => rfl⟩, .inl rfl⟩, rfl⟩⟩⟩⟩⟩⟩⟩⟩⟩, rfl⟩)) (fun b4 => ?_)
  refine rq (out := Pr.i64 0) qAssign ?_
  refine rAlloc (R := rRef12Wrong) (z := (Ref12Wrong.mk 0 0)) Tryz.zeroValue59 (fun _ => ⟨_, ⟨_, _, rfl, rfl, ⟨_, _, rfl, rfl, rfl⟩⟩, rfl⟩) (fun b5 => ?_)
  refine W_rs ?_
  refine rq (out := Pr.lst rApiToken x1) qMove ?_
  refine rq (out := Pr.i64 x2) qMove ?_
  refine rq (out := Pr.i64 x3) qMove ?_
  obtain ⟨⟨x6, x7, x8⟩, hx6, h⟩ := bindSome h
  refine rq (out := Pr.tup [(rApiNode).val x6, Pr.i64 x7, (rRef12Wrong).val x8]) (qCall (ih.2.1 x1 x2 x3 1 _ hx6)) ?_
  refine rq (out := (rApiNode).val x6) qExtract ?_
  refine rq (out := Pr.i64 x7) qExtract ?_
  refine rq (out := (rRef12Wrong).val x8) qExtract ?_
  refine rStore (R := rApiNode) (R' := rApiNode) (a := (ApiNode.mk 0 [] [] 0 0 0 0 0 [])) (y := x6) 0 Tryz.sizeOf24 (Upd.refl _) ?_
  refine rq (out := Pr.i64 x7) qAssign ?_
  refine rStore (R := rRef12Wrong) (R' := rRef12Wrong) (a := (Ref12Wrong.mk 0 0)) (y := x8) 1 Tryz.sizeOf59 (Upd.refl _) ?_
  obtain rfl := Option.some.inj h
  exact W_ret ⟨rfl, [(rApiNode).val x6, Pr.i64 x7, (rRef12Wrong).val x8], ⟨yBox 0 ty24 Pr.le_rfl, yT Pr.le_rfl, yBox 1 ty59 Pr.le_rfl, trivial⟩, Pr.le_rfl⟩
theorem F_ref12_level_step (R : rec_ref12_expression_T) (ih : rec_ref12_expression_spec R) (x1 : List ApiToken) (x2 : Int) (x3 : Int) (x4 : Int) (r : ApiNode × Int × Ref12Wrong) (h : F_ref12_level R x1 x2 x3 x4 = some r) : FnP Tryz.prog 67 [Pr.lst rApiToken x1, Pr.i64 x2, Pr.i64 x3, Pr.i64 x4] (Pr.tup [(rApiNode).val r.1, Pr.i64 r.2.1, (rRef12Wrong).val r.2.2]) := by
  refine fn_introR (n := 81) (rs := [.cell 8 24, .tmp 9, .cell 10 59]) Tryz.func67 rfl Tryz.ntmps67 Tryz.results67 (by decide) (fun s0 => ?_)
  unfold F_ref12_level at h
  refine W_rs ?_
  refine rAlloc (R := rApiNode) (z := (ApiNode.mk 0 [] [] 0 0 0 0 0 [])) Tryz.zeroValue24 (fun _ => (by rw [rApiNode_eq]; exact ⟨_, ⟨_, _, rfl, rfl, ⟨_, _, rfl, rfl, ⟨_, _, rfl, rfl, ⟨_, _, rfl, rfl, ⟨_, _, rfl, rfl, ⟨_, _, rfl, rfl, ⟨_, _, rfl, rfl, ⟨_, _, rfl, rfl, ⟨_, _, rfl, ⟨_, rfl, none, 0, rfl, ⟨Nat.le_refl _, fun _ => rfl⟩, .inl rfl⟩, rfl⟩⟩⟩⟩⟩⟩⟩⟩⟩, rfl⟩)) (fun b5 => ?_)
  refine rq (out := Pr.i64 0) qAssign ?_
  refine rAlloc (R := rRef12Wrong) (z := (Ref12Wrong.mk 0 0)) Tryz.zeroValue59 (fun _ => ⟨_, ⟨_, _, rfl, rfl, ⟨_, _, rfl, rfl, rfl⟩⟩, rfl⟩) (fun b6 => ?_)
  refine W_seq ?_
  refine W_rs ?_
  refine rq (out := Pr.i64 x4) qMove ?_
  refine rq (out := Pr.bool (decide (x4 > 6))) qInt ?_
  refine W_cond (b := decide (x4 > 6)) rfl (fun hc7 => ?_) (fun hc7 => ?_)
  · replace h := iteT hc7 h
    refine W_rs ?_
    refine rq (out := Pr.lst rApiToken x1) qMove ?_
    refine rq (out := Pr.i64 x2) qMove ?_
    refine rq (out := Pr.i64 x3) qMove ?_
    obtain ⟨⟨x8, x9, x10⟩, hx8, h⟩ := bindSome h
    refine rq (out := Pr.tup [(rApiNode).val x8, Pr.i64 x9, (rRef12Wrong).val x10]) (qCall (ih.2.2.1 x1 x2 x3 _ hx8)) ?_
    refine rq (out := (rApiNode).val x8) qExtract ?_
    refine rq (out := Pr.i64 x9) qExtract ?_
    refine rq (out := (rRef12Wrong).val x10) qExtract ?_
    refine rStore (R := rApiNode) (R' := rApiNode) (a := (ApiNode.mk 0 [] [] 0 0 0 0 0 [])) (y := x8) 0 Tryz.sizeOf24 (Upd.refl _) ?_
    refine rq (out := Pr.i64 x9) qAssign ?_
    refine rStore (R := rRef12Wrong) (R' := rRef12Wrong) (a := (Ref12Wrong.mk 0 0)) (y := x10) 1 Tryz.sizeOf59 (Upd.refl _) ?_
    obtain rfl := Option.some.inj h
    exact W_ret ⟨rfl, [(rApiNode).val x8, Pr.i64 x9, (rRef12Wrong).val x10], ⟨yBox 0 ty24 Pr.le_rfl, yT Pr.le_rfl, yBox 1 ty59 Pr.le_rfl, trivial⟩, Pr.le_rfl⟩
  · replace h := iteF hc7 h
    refine W_skip ?_
    refine W_rs ?_
    refine rq (out := Pr.lst rApiToken x1) qMove ?_
    refine rq (out := Pr.i64 x2) qMove ?_
    refine rq (out := Pr.i64 x3) qMove ?_
    refine rq (out := Pr.i64 x4) qMove ?_
    refine rq (out := Pr.i64 (w64 (x4 + 1))) qInt ?_
    obtain ⟨⟨x11, x12, x13⟩, hx11, h⟩ := bindSome h
    refine rq (out := Pr.tup [(rApiNode).val x11, Pr.i64 x12, (rRef12Wrong).val x13]) (qCall (ih.2.1 x1 x2 x3 (w64 (x4 + 1)) _ hx11)) ?_
    refine rq (out := Pr.tup [(rApiNode).val x11, Pr.i64 x12, (rRef12Wrong).val x13]) qMove ?_
    refine rq (out := (rApiNode).val x11) qExtract ?_
    refine rq (out := Pr.i64 x12) qExtract ?_
    refine rq (out := (rRef12Wrong).val x13) qExtract ?_
    refine rAlloc (R := rApiNode) (z := (ApiNode.mk 0 [] [] 0 0 0 0 0 [])) Tryz.zeroValue24 (fun _ => (by rw [rApiNode_eq]; exact ⟨_, ⟨_, _, rfl, rfl, ⟨_, _, rfl, rfl, ⟨_, _, rfl, rfl, ⟨_, _, rfl, rfl, ⟨_, _, rfl, rfl, ⟨_, _, rfl, rfl, ⟨_, _, rfl, rfl, ⟨_, _, rfl, rfl, ⟨_, _, rfl, ⟨_, rfl, none, 0, rfl, ⟨Nat.le_refl _, fun _ => rfl⟩, .inl rfl⟩, rfl⟩⟩⟩⟩⟩⟩⟩⟩⟩, rfl⟩)) (fun b14 => ?_)
    refine rAlloc (R := rRef12Wrong) (z := (Ref12Wrong.mk 0 0)) Tryz.zeroValue59 (fun _ => ⟨_, ⟨_, _, rfl, rfl, ⟨_, _, rfl, rfl, rfl⟩⟩, rfl⟩) (fun b15 => ?_)
    refine rStore (R := rApiNode) (R' := rApiNode) (a := (ApiNode.mk 0 [] [] 0 0 0 0 0 [])) (y := x11) 2 Tryz.sizeOf24 (Upd.refl _) ?_
    refine rq (out := Pr.i64 x12) qAssign ?_
    refine rStore (R := rRef12Wrong) (R' := rRef12Wrong) (a := (Ref12Wrong.mk 0 0)) (y := x13) 3 Tryz.sizeOf59 (Upd.refl _) ?_
    refine W_seq ?_
    refine W_rs ?_
    refine rq (out := Pr.pt b15 0) (qFieldP fld59_0) ?_
    refine rq (out := Pr.i64 x13.Place) (qLoad (R := rRef12Wrong) (a := x13) (R' := Rp.int .i64) 3 ty3 subRef12Wrong_Place) ?_
    refine rq (out := Pr.bool (decide (x13.Place ≥ 0))) qInt ?_
    refine W_cond (b := decide (x13.Place ≥ 0)) rfl (fun hc16 => ?_) (fun hc16 => ?_)
    · replace h := iteT hc16 h
      refine W_join (fun e C => ref12_level_j1 R x13 = some r ∧ At [(8, Pr.pt b5 0), (9, Pr.i64 0), (10, Pr.pt b6 0)] [Own.box b5 rApiNode (ApiNode.mk 0 [] [] 0 0 0 0 0 []), Own.box b6 rRef12Wrong x13, Own.box b14 rApiNode x11, Own.box b15 rRef12Wrong x13] e C) ?_ ?_
      · rintro e C ⟨h, hat1⟩
        refine W_at hat1 ?_
        clear hat1
        unfold ref12_level_j1 at h
        obtain rfl := Option.some.inj h
        exact W_ret ⟨rfl, [(rApiNode).val (ApiNode.mk 0 [] [] 0 0 0 0 0 []), Pr.i64 0, (rRef12Wrong).val x13], ⟨yBox 0 ty24 Pr.le_rfl, yT Pr.le_rfl, yBox 1 ty59 Pr.le_rfl, trivial⟩, Pr.le_rfl⟩
      · refine W_drawEx [(2, 0, Own.box b5 rApiNode (ApiNode.mk 0 [] [] 0 0 0 0 0 [])), (4, 1, Own.box b6 rRef12Wrong x13)] [Own.box b5 rApiNode (ApiNode.mk 0 [] [] 0 0 0 0 0 []), Own.box b6 rRef12Wrong x13, Own.box b14 rApiNode x11, Own.box b15 rRef12Wrong x13] hmx (by kernel_rfl) (by kernel_rfl) (show ([2, 4] : List Nat).Nodup by decide) (show ([0, 1] : List Nat).Nodup by decide) rfl rfl ?_
        refine eq1 (out := (rApiNode).val (ApiNode.mk 0 [] [] 0 0 0 0 0 [])) (fun C2 hC => (qBuildR rApiNode_eq st24 rfl)) ?_
        refine eq1 (out := (rRef12Wrong).val x13) (fun C2 hC => (qLoad (R := rRef12Wrong) (a := x13) (R' := rRef12Wrong) 3 ty59 (Sub.refl _) (hi := (hC 3 (by kernel_rfl)).trans rfl))) ?_
        refine eqS (fun C2 hC => sStore (R := rApiNode) (R' := rApiNode) (a := (ApiNode.mk 0 [] [] 0 0 0 0 0 [])) (y := (ApiNode.mk 0 [] [] 0 0 0 0 0 [])) 0 Tryz.sizeOf24 (Upd.refl _) ((hC 0 (by kernel_rfl)).trans rfl)) ?_
        refine eq1 (out := Pr.i64 0) (fun C2 hC => qAssign) ?_
        refine eqS (fun C2 hC => sStore (R := rRef12Wrong) (R' := rRef12Wrong) (a := (Ref12Wrong.mk 0 0)) (y := x13) 1 Tryz.sizeOf59 (Upd.refl _) ((hC 1 (by kernel_rfl)).trans rfl)) ?_
        exact ⟨h, ⟨⟨Pr.le_rfl, Pr.le_rfl, Pr.le_rfl, trivial⟩, Pick.refl _⟩⟩
    · replace h := iteF hc16 h
      refine W_skip ?_
      refine W_seq ?_
      refine W_block ?_
      obtain ⟨z4l, hz4, h⟩ := bindSome h
      obtain ⟨n4, hN4⟩ := iter_some hz4
      clear hz4
      refine W_after 0 (fun e C => ∃ (x17 : Int), ∃ (x18 : ApiNode), ref12_level_k3 R x17 x18 = some r ∧ At [(8, Pr.pt b5 0), (10, Pr.pt b6 0), (11, Pr.pt b14 0), (12, Pr.i64 x17)] [Own.box b5 rApiNode (ApiNode.mk 0 [] [] 0 0 0 0 0 []), Own.box b6 rRef12Wrong (Ref12Wrong.mk 0 0), Own.box b14 rApiNode x18, Own.box b15 rRef12Wrong x13] e C) ?_ ?_
      · rintro e C ⟨x17, x18, h, hat3⟩
        refine W_at hat3 ?_
        clear hat3
        unfold ref12_level_k3 at h
        refine W_join (fun e C => ∃ (x31 : Ref12Wrong), ref12_level_j2 R x18 x17 x31 = some r ∧ At [(8, Pr.pt b5 0), (9, Pr.i64 x17), (10, Pr.pt b6 0)] [Own.box b5 rApiNode x18, Own.box b6 rRef12Wrong x31, Own.box b14 rApiNode x18, Own.box b15 rRef12Wrong x13] e C) ?_ ?_
        · rintro e C ⟨x31, h, hat2⟩
          refine W_at hat2 ?_
          clear hat2
          unfold ref12_level_j2 at h
          obtain rfl := Option.some.inj h
          exact W_ret ⟨rfl, [(rApiNode).val x18, Pr.i64 x17, (rRef12Wrong).val x31], ⟨yBox 0 ty24 Pr.le_rfl, yT Pr.le_rfl, yBox 1 ty59 Pr.le_rfl, trivial⟩, Pr.le_rfl⟩
        · obtain ⟨x31, hx31, h⟩ := bindSome h
          refine W_drawEx [(3, 0, Own.box b5 rApiNode x18), (5, 1, Own.box b6 rRef12Wrong x31)] [Own.box b5 rApiNode x18, Own.box b6 rRef12Wrong x31, Own.box b14 rApiNode x18, Own.box b15 rRef12Wrong x13] hmx (by kernel_rfl) (by kernel_rfl) (show ([3, 5] : List Nat).Nodup by decide) (show ([0, 1] : List Nat).Nodup by decide) rfl rfl ?_
          refine eq1 (out := (rApiNode).val x18) (fun C2 hC => (qLoad (R := rApiNode) (a := x18) (R' := rApiNode) 2 ty24 (Sub.refl _) (hi := (hC 2 (by kernel_rfl)).trans rfl))) ?_
          refine eq1 (out := Pr.i64 x17) (fun C2 hC => qMove) ?_
          refine eq1 (out := (rRef12Wrong).val x31) (fun C2 hC => (qCall (ref12_fine_ok  _ hx31))) ?_
          refine eqS (fun C2 hC => sStore (R := rApiNode) (R' := rApiNode) (a := (ApiNode.mk 0 [] [] 0 0 0 0 0 [])) (y := x18) 0 Tryz.sizeOf24 (Upd.refl _) ((hC 0 (by kernel_rfl)).trans rfl)) ?_
          refine eq1 (out := Pr.i64 x17) (fun C2 hC => qAssign) ?_
          refine eqS (fun C2 hC => sStore (R := rRef12Wrong) (R' := rRef12Wrong) (a := (Ref12Wrong.mk 0 0)) (y := x31) 1 Tryz.sizeOf59 (Upd.refl _) ((hC 1 (by kernel_rfl)).trans rfl)) ?_
          exact ⟨x31, h, ⟨⟨Pr.le_rfl, Pr.le_rfl, Pr.le_rfl, trivial⟩, Pick.refl _⟩⟩
      · refine W_loop (fun m e C => ∃ (x17 : Int), ∃ (x18 : ApiNode), IterN (fun s => ref12_level_l4 R x1 x4 x3 x2 s.1 s.2) m (x17, x18) = some z4l ∧ At [(0, Pr.lst rApiToken x1), (1, Pr.i64 x2), (2, Pr.i64 x3), (3, Pr.i64 x4), (8, Pr.pt b5 0), (10, Pr.pt b6 0), (11, Pr.pt b14 0), (12, Pr.i64 x17)] [Own.box b5 rApiNode (ApiNode.mk 0 [] [] 0 0 0 0 0 []), Own.box b6 rRef12Wrong (Ref12Wrong.mk 0 0), Own.box b14 rApiNode x18, Own.box b15 rRef12Wrong x13] e C) n4 ⟨x12, x11, hN4, ⟨⟨Pr.le_rfl, Pr.le_rfl, Pr.le_rfl, Pr.le_rfl, Pr.le_rfl, Pr.le_rfl, Pr.le_rfl, Pr.le_rfl, trivial⟩, Pick.refl _⟩⟩ ?_
        clear hN4
        rintro m e C ⟨x17, x18, hN4, hatl4⟩
        refine W_at hatl4 ?_
        clear hatl4
        obtain ⟨m4, w4l, rfl, h4l, hn4, ho4⟩ := iterN_some hN4
        clear hN4
        replace h4l : ref12_level_l4 R x1 x4 x3 x2 x17 x18 = some w4l := h4l
        unfold ref12_level_l4 at h4l
        refine W_seq ?_
        refine W_rs ?_
        refine rq (out := Pr.lst rApiToken x1) qMove ?_
        refine rq (out := Pr.i64 x17) qMove ?_
        obtain ⟨x21, hx21, h4l⟩ := bindSome h4l
        refine rq (out := Pr.i64 x21) (qCall (ref12_binds_ok x1 x17 _ hx21)) ?_
        refine rq (out := Pr.i64 x4) qMove ?_
        refine rq (out := Pr.bool (x21 == x4)) qInt ?_
        refine W_cond (b := x21 == x4) rfl (fun hc22 => ?_) (fun hc22 => ?_)
        · replace h4l := iteT hc22 h4l
          refine W_skip ?_
          refine W_block ?_
          refine W_rs ?_
          refine rq (out := Pr.lst rApiToken x1) qMove ?_
          refine rq (out := Pr.i64 x17) qMove ?_
          refine rq (out := Pr.i64 (w64 (x17 + 1))) qInt ?_
          refine rq (out := Pr.i64 x3) qMove ?_
          refine rq (out := Pr.i64 x4) qMove ?_
          refine rq (out := Pr.i64 (w64 (x4 + 1))) qInt ?_
          obtain ⟨⟨x23, x24, x25⟩, hx23, h4l⟩ := bindSome h4l
          refine rq (out := Pr.tup [(rApiNode).val x23, Pr.i64 x24, (rRef12Wrong).val x25]) (qCall (ih.2.1 x1 (w64 (x17 + 1)) x3 (w64 (x4 + 1)) _ hx23)) ?_
          refine rq (out := Pr.tup [(rApiNode).val x23, Pr.i64 x24, (rRef12Wrong).val x25]) qMove ?_
          refine rq (out := (rApiNode).val x23) qExtract ?_
          refine rq (out := Pr.i64 x24) qExtract ?_
          refine rq (out := (rRef12Wrong).val x25) qExtract ?_
          refine rAlloc (R := rApiNode) (z := (ApiNode.mk 0 [] [] 0 0 0 0 0 [])) Tryz.zeroValue24 (fun _ => (by rw [rApiNode_eq]; exact ⟨_, ⟨_, _, rfl, rfl, ⟨_, _, rfl, rfl, ⟨_, _, rfl, rfl, ⟨_, _, rfl, rfl, ⟨_, _, rfl, rfl, ⟨_, _, rfl, rfl, ⟨_, _, rfl, rfl, ⟨_, _, rfl, rfl, ⟨_, _, rfl, ⟨_, rfl, none, 0, rfl, ⟨Nat.le_refl _, fun _ => rfl⟩, .inl rfl⟩, rfl⟩⟩⟩⟩⟩⟩⟩⟩⟩, rfl⟩)) (fun b26 => ?_)
          refine rAlloc (R := rRef12Wrong) (z := (Ref12Wrong.mk 0 0)) Tryz.zeroValue59 (fun _ => ⟨_, ⟨_, _, rfl, rfl, ⟨_, _, rfl, rfl, rfl⟩⟩, rfl⟩) (fun b27 => ?_)
          refine rStore (R := rApiNode) (R' := rApiNode) (a := (ApiNode.mk 0 [] [] 0 0 0 0 0 [])) (y := x23) 4 Tryz.sizeOf24 (Upd.refl _) ?_
          refine rq (out := Pr.i64 x24) qAssign ?_
          refine rStore (R := rRef12Wrong) (R' := rRef12Wrong) (a := (Ref12Wrong.mk 0 0)) (y := x25) 5 Tryz.sizeOf59 (Upd.refl _) ?_
          refine W_seq ?_
          refine W_rs ?_
          refine rq (out := Pr.pt b27 0) (qFieldP fld59_0) ?_
          refine rq (out := Pr.i64 x25.Place) (qLoad (R := rRef12Wrong) (a := x25) (R' := Rp.int .i64) 5 ty3 subRef12Wrong_Place) ?_
          refine rq (out := Pr.bool (decide (x25.Place ≥ 0))) qInt ?_
          refine W_cond (b := decide (x25.Place ≥ 0)) rfl (fun hc28 => ?_) (fun hc28 => ?_)
          · replace h4l := iteT hc28 h4l
            refine W_join (fun e C => ref12_level_j5 R x25 = some w4l ∧ At [(8, Pr.pt b5 0), (9, Pr.i64 0), (10, Pr.pt b6 0)] [Own.box b5 rApiNode (ApiNode.mk 0 [] [] 0 0 0 0 0 []), Own.box b6 rRef12Wrong x25, Own.box b14 rApiNode x18, Own.box b15 rRef12Wrong x13, Own.box b26 rApiNode x23, Own.box b27 rRef12Wrong x25] e C) ?_ ?_
            · rintro e C ⟨h4l, hat5⟩
              refine W_at hat5 ?_
              clear hat5
              unfold ref12_level_j5 at h4l
              obtain rfl := ho4 _ (Option.some.inj h4l).symm
              replace h : some ((ApiNode.mk 0 [] [] 0 0 0 0 0 []), 0, x25) = some r := h
              obtain rfl := Option.some.inj h
              exact W_ret ⟨rfl, [(rApiNode).val (ApiNode.mk 0 [] [] 0 0 0 0 0 []), Pr.i64 0, (rRef12Wrong).val x25], ⟨yBox 0 ty24 Pr.le_rfl, yT Pr.le_rfl, yBox 1 ty59 Pr.le_rfl, trivial⟩, Pr.le_rfl⟩
            · refine W_drawEx [(2, 0, Own.box b5 rApiNode (ApiNode.mk 0 [] [] 0 0 0 0 0 [])), (4, 1, Own.box b6 rRef12Wrong x25)] [Own.box b5 rApiNode (ApiNode.mk 0 [] [] 0 0 0 0 0 []), Own.box b6 rRef12Wrong x25, Own.box b14 rApiNode x18, Own.box b15 rRef12Wrong x13, Own.box b26 rApiNode x23, Own.box b27 rRef12Wrong x25] hmx (by kernel_rfl) (by kernel_rfl) (show ([2, 4] : List Nat).Nodup by decide) (show ([0, 1] : List Nat).Nodup by decide) rfl rfl ?_
              refine eq1 (out := (rApiNode).val (ApiNode.mk 0 [] [] 0 0 0 0 0 [])) (fun C2 hC => (qBuildR rApiNode_eq st24 rfl)) ?_
              refine eq1 (out := (rRef12Wrong).val x25) (fun C2 hC => (qLoad (R := rRef12Wrong) (a := x25) (R' := rRef12Wrong) 5 ty59 (Sub.refl _) (hi := (hC 5 (by kernel_rfl)).trans rfl))) ?_
              refine eqS (fun C2 hC => sStore (R := rApiNode) (R' := rApiNode) (a := (ApiNode.mk 0 [] [] 0 0 0 0 0 [])) (y := (ApiNode.mk 0 [] [] 0 0 0 0 0 [])) 0 Tryz.sizeOf24 (Upd.refl _) ((hC 0 (by kernel_rfl)).trans rfl)) ?_
              refine eq1 (out := Pr.i64 0) (fun C2 hC => qAssign) ?_
              refine eqS (fun C2 hC => sStore (R := rRef12Wrong) (R' := rRef12Wrong) (a := (Ref12Wrong.mk 0 0)) (y := x25) 1 Tryz.sizeOf59 (Upd.refl _) ((hC 1 (by kernel_rfl)).trans rfl)) ?_
              exact ⟨h4l, ⟨⟨Pr.le_rfl, Pr.le_rfl, Pr.le_rfl, trivial⟩, Pick.refl _⟩⟩
          · replace h4l := iteF hc28 h4l
            refine W_skip ?_
            refine W_rs ?_
            refine rq (out := Pr.lst rApiToken x1) qMove ?_
            refine rq (out := Pr.i64 x17) qMove ?_
            obtain ⟨x29, hx29, h4l⟩ := bindSome h4l
            refine rq (out := Pr.cpt rApiToken x29) (qIdxA (R := rApiToken) (l := x1) Tryz.underlying52 Tryz.sizeOf56 hx29) ?_
            refine rq (out := Pr.cpt Rp.str x29.Text) (qFieldC (R := rApiToken) (a := x29) fld56_1 subApiToken_Text) ?_
            refine rq (out := Pr.str x29.Text) (qLoadC (R := Rp.str) (a := x29.Text) ty9) ?_
            refine rq (out := Pr.str x29.Text) qAssign ?_
            refine W_rs ?_
            refine rq (out := Pr.lst rApiToken x1) qMove ?_
            refine rq (out := Pr.i64 x2) qMove ?_
            refine rq (out := Pr.i64 x24) qMove ?_
            refine rq (out := (rApiNode).val x18) (qLoad (R := rApiNode) (a := x18) (R' := rApiNode) 2 ty24 (Sub.refl _)) ?_
            refine rq (out := (rApiNode).val x23) (qLoad (R := rApiNode) (a := x23) (R' := rApiNode) 4 ty24 (Sub.refl _)) ?_
            refine rq (out := Pr.lst rApiNode ([x18, x23] : List ApiNode)) (qBuildSlice (R := rApiNode) (ls := ([x18, x23] : List ApiNode)) el22 (Nat.le_of_ble_eq_true rfl) ⟨rfl, rfl⟩ ⟨rfl, rfl, trivial⟩) ?_
            obtain ⟨x30, hx30, h4l⟩ := bindSome h4l
            refine rq (out := (rApiNode).val x30) (qCall (ref12_made_ok x1 24 x2 x24 ([x18, x23] : List ApiNode) _ hx30)) ?_
            refine rStore (R := rApiNode) (R' := rApiNode) (a := x18) (y := x30) 2 Tryz.sizeOf24 (Upd.refl _) ?_
            refine W_rs ?_
            refine rq (out := Pr.str x29.Text) qMove ?_
            refine rq (out := Pr.pt b14 1) (qFieldP fld24_1) ?_
            refine rStore (R := rApiNode) (R' := Rp.str) (a := x30) (y := x29.Text) 2 Tryz.sizeOf9 updApiNode_Text ?_
            refine W_r ?_
            refine rq (out := Pr.i64 x24) qMove ?_
            refine rq (out := Pr.i64 x24) qAssign ?_
            exact ⟨m4, Nat.lt_succ_self _, x24, { x30 with Text := x29.Text }, hn4 _ (Option.some.inj h4l).symm, ⟨⟨Pr.le_rfl, Pr.le_rfl, Pr.le_rfl, Pr.le_rfl, Pr.le_rfl, Pr.le_rfl, Pr.le_rfl, Pr.le_rfl, trivial⟩, Pick.of [0, 1, 2, 3] rfl⟩⟩
        · replace h4l := iteF hc22 h4l
          refine W_exit ?_
          obtain rfl := ho4 _ (Option.some.inj h4l).symm
          exact ⟨x17, x18, h, ⟨⟨Pr.le_rfl, Pr.le_rfl, Pr.le_rfl, Pr.le_rfl, trivial⟩, Pick.refl _⟩⟩
theorem F_ref12_unary_step (R : rec_ref12_expression_T) (ih : rec_ref12_expression_spec R) (x1 : List ApiToken) (x2 : Int) (x3 : Int) (r : ApiNode × Int × Ref12Wrong) (h : F_ref12_unary R x1 x2 x3 = some r) : FnP Tryz.prog 91 [Pr.lst rApiToken x1, Pr.i64 x2, Pr.i64 x3] (Pr.tup [(rApiNode).val r.1, Pr.i64 r.2.1, (rRef12Wrong).val r.2.2]) := by
  refine fn_introR (n := 140) (rs := [.cell 6 24, .tmp 7, .cell 8 59]) Tryz.func91 rfl Tryz.ntmps91 Tryz.results91 (by decide) (fun s0 => ?_)
  unfold F_ref12_unary at h
  refine W_rs ?_
  refine rAlloc (R := rApiNode) (z := (ApiNode.mk 0 [] [] 0 0 0 0 0 [])) Tryz.zeroValue24 (fun _ => (by rw [rApiNode_eq]; exact ⟨_, ⟨_, _, rfl, rfl, ⟨_, _, rfl, rfl, ⟨_, _, rfl, rfl, ⟨_, _, rfl, rfl, ⟨_, _, rfl, rfl, ⟨_, _, rfl, rfl, ⟨_, _, rfl, rfl, ⟨_, _, rfl, rfl, ⟨_, _, rfl, ⟨_, rfl, none, 0, rfl, ⟨Nat.le_refl _, fun _ => rfl⟩, .inl rfl⟩, rfl⟩⟩⟩⟩⟩⟩⟩⟩⟩, rfl⟩)) (fun b4 => ?_)
  refine rq (out := Pr.i64 0) qAssign ?_
  refine rAlloc (R := rRef12Wrong) (z := (Ref12Wrong.mk 0 0)) Tryz.zeroValue59 (fun _ => ⟨_, ⟨_, _, rfl, rfl, ⟨_, _, rfl, rfl, rfl⟩⟩, rfl⟩) (fun b5 => ?_)
  refine W_seq ?_
  refine W_rs ?_
  refine rq (out := Pr.i64 x3) qMove ?_
  refine rq (out := Pr.bool (decide (x3 > 60))) qInt ?_
  refine W_cond (b := decide (x3 > 60)) rfl (fun hc6 => ?_) (fun hc6 => ?_)
  · replace h := iteT hc6 h
    refine W_rs ?_
    refine rq (out := (rApiNode).val (ApiNode.mk 0 [] [] 0 0 0 0 0 [])) (qBuildR rApiNode_eq st24 rfl) ?_
    refine rq (out := Pr.i64 x2) qMove ?_
    refine rq (out := (rRef12Wrong).val (Ref12Wrong.mk x2 2)) (qBuild st59 ⟨(Ref12Wrong.mk x2 0), ⟨_, rfl, rfl, fun j fd hj hf => by match j, hj with | 0, h => exact absurd rfl h | 1, _ => cases hf; rfl | _ + 2, _ => cases hf⟩, ⟨(Ref12Wrong.mk x2 2), ⟨_, rfl, rfl, fun j fd hj hf => by match j, hj with | 0, _ => cases hf; rfl | 1, h => exact absurd rfl h | _ + 2, _ => cases hf⟩, rfl⟩⟩) ?_
    refine rStore (R := rApiNode) (R' := rApiNode) (a := (ApiNode.mk 0 [] [] 0 0 0 0 0 [])) (y := (ApiNode.mk 0 [] [] 0 0 0 0 0 [])) 0 Tryz.sizeOf24 (Upd.refl _) ?_
    refine rq (out := Pr.i64 0) qAssign ?_
    refine rStore (R := rRef12Wrong) (R' := rRef12Wrong) (a := (Ref12Wrong.mk 0 0)) (y := (Ref12Wrong.mk x2 2)) 1 Tryz.sizeOf59 (Upd.refl _) ?_
    obtain rfl := Option.some.inj h
    exact W_ret ⟨rfl, [(rApiNode).val (ApiNode.mk 0 [] [] 0 0 0 0 0 []), Pr.i64 0, (rRef12Wrong).val (Ref12Wrong.mk x2 2)], ⟨yBox 0 ty24 Pr.le_rfl, yT Pr.le_rfl, yBox 1 ty59 Pr.le_rfl, trivial⟩, Pr.le_rfl⟩
  · replace h := iteF hc6 h
    refine W_skip ?_
    refine W_seq ?_
    refine W_join (fun e C => ∃ (x10 : Bool), ref12_unary_j9 R x1 x2 x3 x10 = some r ∧ At [(0, Pr.lst rApiToken x1), (1, Pr.i64 x2), (2, Pr.i64 x3), (6, Pr.pt b4 0), (8, Pr.pt b5 0), (34, Pr.bool x10)] [Own.box b4 rApiNode (ApiNode.mk 0 [] [] 0 0 0 0 0 []), Own.box b5 rRef12Wrong (Ref12Wrong.mk 0 0)] e C) ?_ ?_
    · rintro e C ⟨x10, h, hat9⟩
      refine W_at hat9 ?_
      clear hat9
      unfold ref12_unary_j9 at h
      refine W_cond (b := x10) rfl (fun hc11 => ?_) (fun hc11 => ?_)
      · replace h := iteT hc11 h
        refine W_rs ?_
        refine rq (out := Pr.lst rApiToken x1) qMove ?_
        refine rq (out := Pr.i64 x2) qMove ?_
        refine rq (out := Pr.i64 (w64 (x2 + 1))) qInt ?_
        refine rq (out := Pr.i64 x3) qMove ?_
        refine rq (out := Pr.i64 (w64 (x3 + 1))) qInt ?_
        obtain ⟨⟨x12, x13, x14⟩, hx12, h⟩ := bindSome h
        refine rq (out := Pr.tup [(rApiNode).val x12, Pr.i64 x13, (rRef12Wrong).val x14]) (qCall (ih.2.2.1 x1 (w64 (x2 + 1)) (w64 (x3 + 1)) _ hx12)) ?_
        refine rq (out := Pr.tup [(rApiNode).val x12, Pr.i64 x13, (rRef12Wrong).val x14]) qMove ?_
        refine rq (out := (rApiNode).val x12) qExtract ?_
        refine rq (out := Pr.i64 x13) qExtract ?_
        refine rq (out := (rRef12Wrong).val x14) qExtract ?_
        refine rAlloc (R := rApiNode) (z := (ApiNode.mk 0 [] [] 0 0 0 0 0 [])) Tryz.zeroValue24 (fun _ => (by rw [rApiNode_eq]; exact ⟨_, ⟨_, _, rfl, rfl, ⟨_, _, rfl, rfl, ⟨_, _, rfl, rfl, ⟨_, _, rfl, rfl, ⟨_, _, rfl, rfl, ⟨_, _, rfl, rfl, ⟨_, _, rfl, rfl, ⟨_, _, rfl, rfl, ⟨_, _, rfl, ⟨_, rfl, none, 0, rfl, ⟨Nat.le_refl _, fun _ => rfl⟩, .inl rfl⟩, rfl⟩⟩⟩⟩⟩⟩⟩⟩⟩, rfl⟩)) (fun b15 => ?_)
        refine rAlloc (R := rRef12Wrong) (z := (Ref12Wrong.mk 0 0)) Tryz.zeroValue59 (fun _ => ⟨_, ⟨_, _, rfl, rfl, ⟨_, _, rfl, rfl, rfl⟩⟩, rfl⟩) (fun b16 => ?_)
        refine rStore (R := rApiNode) (R' := rApiNode) (a := (ApiNode.mk 0 [] [] 0 0 0 0 0 [])) (y := x12) 2 Tryz.sizeOf24 (Upd.refl _) ?_
        refine rq (out := Pr.i64 x13) qAssign ?_
        refine rStore (R := rRef12Wrong) (R' := rRef12Wrong) (a := (Ref12Wrong.mk 0 0)) (y := x14) 3 Tryz.sizeOf59 (Upd.refl _) ?_
        refine W_seq ?_
        refine W_rs ?_
        refine rq (out := Pr.pt b16 0) (qFieldP fld59_0) ?_
        refine rq (out := Pr.i64 x14.Place) (qLoad (R := rRef12Wrong) (a := x14) (R' := Rp.int .i64) 3 ty3 subRef12Wrong_Place) ?_
        refine rq (out := Pr.bool (decide (x14.Place ≥ 0))) qInt ?_
        refine W_cond (b := decide (x14.Place ≥ 0)) rfl (fun hc17 => ?_) (fun hc17 => ?_)
        · replace h := iteT hc17 h
          refine W_join (fun e C => ref12_unary_j1 R x14 = some r ∧ At [(6, Pr.pt b4 0), (7, Pr.i64 0), (8, Pr.pt b5 0)] [Own.box b4 rApiNode (ApiNode.mk 0 [] [] 0 0 0 0 0 []), Own.box b5 rRef12Wrong x14, Own.box b15 rApiNode x12, Own.box b16 rRef12Wrong x14] e C) ?_ ?_
          · rintro e C ⟨h, hat1⟩
            refine W_at hat1 ?_
            clear hat1
            unfold ref12_unary_j1 at h
            obtain rfl := Option.some.inj h
            exact W_ret ⟨rfl, [(rApiNode).val (ApiNode.mk 0 [] [] 0 0 0 0 0 []), Pr.i64 0, (rRef12Wrong).val x14], ⟨yBox 0 ty24 Pr.le_rfl, yT Pr.le_rfl, yBox 1 ty59 Pr.le_rfl, trivial⟩, Pr.le_rfl⟩
          · refine W_drawEx [(2, 0, Own.box b4 rApiNode (ApiNode.mk 0 [] [] 0 0 0 0 0 [])), (4, 1, Own.box b5 rRef12Wrong x14)] [Own.box b4 rApiNode (ApiNode.mk 0 [] [] 0 0 0 0 0 []), Own.box b5 rRef12Wrong x14, Own.box b15 rApiNode x12, Own.box b16 rRef12Wrong x14] hmx (by kernel_rfl) (by kernel_rfl) (show ([2, 4] : List Nat).Nodup by decide) (show ([0, 1] : List Nat).Nodup by decide) rfl rfl ?_
            refine eq1 (out := (rApiNode).val (ApiNode.mk 0 [] [] 0 0 0 0 0 [])) (fun C2 hC => (qBuildR rApiNode_eq st24 rfl)) ?_
            refine eq1 (out := (rRef12Wrong).val x14) (fun C2 hC => (qLoad (R := rRef12Wrong) (a := x14) (R' := rRef12Wrong) 3 ty59 (Sub.refl _) (hi := (hC 3 (by kernel_rfl)).trans rfl))) ?_
            refine eqS (fun C2 hC => sStore (R := rApiNode) (R' := rApiNode) (a := (ApiNode.mk 0 [] [] 0 0 0 0 0 [])) (y := (ApiNode.mk 0 [] [] 0 0 0 0 0 [])) 0 Tryz.sizeOf24 (Upd.refl _) ((hC 0 (by kernel_rfl)).trans rfl)) ?_
            refine eq1 (out := Pr.i64 0) (fun C2 hC => qAssign) ?_
            refine eqS (fun C2 hC => sStore (R := rRef12Wrong) (R' := rRef12Wrong) (a := (Ref12Wrong.mk 0 0)) (y := x14) 1 Tryz.sizeOf59 (Upd.refl _) ((hC 1 (by kernel_rfl)).trans rfl)) ?_
            exact ⟨h, ⟨⟨Pr.le_rfl, Pr.le_rfl, Pr.le_rfl, trivial⟩, Pick.refl _⟩⟩
        · replace h := iteF hc17 h
          refine W_skip ?_
          refine W_rs ?_
          refine rq (out := Pr.i64 22) qAssign ?_
          refine W_join (fun e C => ∃ (x20 : Int), ref12_unary_j2 R x1 x2 x13 x12 x20 = some r ∧ At [(0, Pr.lst rApiToken x1), (1, Pr.i64 x2), (6, Pr.pt b4 0), (8, Pr.pt b5 0), (9, Pr.pt b15 0), (10, Pr.i64 x13), (12, Pr.i64 x20)] [Own.box b4 rApiNode (ApiNode.mk 0 [] [] 0 0 0 0 0 []), Own.box b5 rRef12Wrong (Ref12Wrong.mk 0 0), Own.box b15 rApiNode x12, Own.box b16 rRef12Wrong x14] e C) ?_ ?_
          · rintro e C ⟨x20, h, hat2⟩
            refine W_at hat2 ?_
            clear hat2
            unfold ref12_unary_j2 at h
            refine W_rs ?_
            refine rq (out := Pr.lst rApiToken x1) qMove ?_
            refine rq (out := Pr.i64 x20) qMove ?_
            refine rq (out := Pr.i64 x2) qMove ?_
            refine rq (out := Pr.i64 x13) qMove ?_
            refine rq (out := (rApiNode).val x12) (qLoad (R := rApiNode) (a := x12) (R' := rApiNode) 2 ty24 (Sub.refl _)) ?_
            refine rq (out := Pr.lst rApiNode ([x12] : List ApiNode)) (qBuildSlice1 (R := rApiNode) (a := x12) el22 (Nat.le_of_ble_eq_true rfl)) ?_
            obtain ⟨x21, hx21, h⟩ := bindSome h
            refine rq (out := (rApiNode).val x21) (qCall (ref12_made_ok x1 x20 x2 x13 ([x12] : List ApiNode) _ hx21)) ?_
            refine rq (out := Pr.i64 x13) qMove ?_
            obtain ⟨x22, hx22, h⟩ := bindSome h
            refine rq (out := (rRef12Wrong).val x22) (qCall (ref12_fine_ok  _ hx22)) ?_
            refine rStore (R := rApiNode) (R' := rApiNode) (a := (ApiNode.mk 0 [] [] 0 0 0 0 0 [])) (y := x21) 0 Tryz.sizeOf24 (Upd.refl _) ?_
            refine rq (out := Pr.i64 x13) qAssign ?_
            refine rStore (R := rRef12Wrong) (R' := rRef12Wrong) (a := (Ref12Wrong.mk 0 0)) (y := x22) 1 Tryz.sizeOf59 (Upd.refl _) ?_
            obtain rfl := Option.some.inj h
            exact W_ret ⟨rfl, [(rApiNode).val x21, Pr.i64 x13, (rRef12Wrong).val x22], ⟨yBox 0 ty24 Pr.le_rfl, yT Pr.le_rfl, yBox 1 ty59 Pr.le_rfl, trivial⟩, Pr.le_rfl⟩
          · refine W_rs ?_
            refine rq (out := Pr.lst rApiToken x1) qMove ?_
            refine rq (out := Pr.i64 x2) qMove ?_
            obtain ⟨x18, hx18, h⟩ := bindSome h
            refine rq (out := Pr.cpt rApiToken x18) (qIdxA (R := rApiToken) (l := x1) Tryz.underlying52 Tryz.sizeOf56 hx18) ?_
            refine rq (out := Pr.cpt Rp.str x18.Text) (qFieldC (R := rApiToken) (a := x18) fld56_1 subApiToken_Text) ?_
            refine rq (out := Pr.str x18.Text) (qLoadC (R := Rp.str) (a := x18.Text) ty9) ?_
            refine rq (out := Pr.bool (x18.Text == ([45] : List UInt8))) qStr ?_
            refine W_cond (b := x18.Text == ([45] : List UInt8)) rfl (fun hc19 => ?_) (fun hc19 => ?_)
            · replace h := iteT hc19 h
              refine W_r ?_
              refine rq (out := Pr.i64 23) qAssign ?_
              exact ⟨23, h, ⟨⟨Pr.le_rfl, Pr.le_rfl, Pr.le_rfl, Pr.le_rfl, Pr.le_rfl, Pr.le_rfl, Pr.le_rfl, trivial⟩, Pick.refl _⟩⟩
            · replace h := iteF hc19 h
              refine W_skip ?_
              exact ⟨22, h, ⟨⟨Pr.le_rfl, Pr.le_rfl, Pr.le_rfl, Pr.le_rfl, Pr.le_rfl, Pr.le_rfl, Pr.le_rfl, trivial⟩, Pick.refl _⟩⟩
      · replace h := iteF hc11 h
        refine W_skip ?_
        refine W_rs ?_
        refine rq (out := Pr.lst rApiToken x1) qMove ?_
        refine rq (out := Pr.i64 x2) qMove ?_
        refine rq (out := Pr.i64 x3) qMove ?_
        refine rq (out := Pr.i64 (w64 (x3 + 1))) qInt ?_
        obtain ⟨⟨x23, x24, x25⟩, hx23, h⟩ := bindSome h
        refine rq (out := Pr.tup [(rApiNode).val x23, Pr.i64 x24, (rRef12Wrong).val x25]) (qCall (ih.2.2.2.1 x1 x2 (w64 (x3 + 1)) _ hx23)) ?_
        refine rq (out := Pr.tup [(rApiNode).val x23, Pr.i64 x24, (rRef12Wrong).val x25]) qMove ?_
        refine rq (out := (rApiNode).val x23) qExtract ?_
        refine rq (out := Pr.i64 x24) qExtract ?_
        refine rq (out := (rRef12Wrong).val x25) qExtract ?_
        refine rAlloc (R := rApiNode) (z := (ApiNode.mk 0 [] [] 0 0 0 0 0 [])) Tryz.zeroValue24 (fun _ => (by rw [rApiNode_eq]; exact ⟨_, ⟨_, _, rfl, rfl, ⟨_, _, rfl, rfl, ⟨_, _, rfl, rfl, ⟨_, _, rfl, rfl, ⟨_, _, rfl, rfl, ⟨_, _, rfl, rfl, ⟨_, _, rfl, rfl, ⟨_, _, rfl, rfl, ⟨_, _, rfl, ⟨_, rfl, none, 0, rfl, ⟨Nat.le_refl _, fun _ => rfl⟩, .inl rfl⟩, rfl⟩⟩⟩⟩⟩⟩⟩⟩⟩, rfl⟩)) (fun b26 => ?_)
        refine rAlloc (R := rRef12Wrong) (z := (Ref12Wrong.mk 0 0)) Tryz.zeroValue59 (fun _ => ⟨_, ⟨_, _, rfl, rfl, ⟨_, _, rfl, rfl, rfl⟩⟩, rfl⟩) (fun b27 => ?_)
        refine rStore (R := rApiNode) (R' := rApiNode) (a := (ApiNode.mk 0 [] [] 0 0 0 0 0 [])) (y := x23) 2 Tryz.sizeOf24 (Upd.refl _) ?_
        refine rq (out := Pr.i64 x24) qAssign ?_
        refine rStore (R := rRef12Wrong) (R' := rRef12Wrong) (a := (Ref12Wrong.mk 0 0)) (y := x25) 3 Tryz.sizeOf59 (Upd.refl _) ?_
        refine W_seq ?_
        refine W_rs ?_
        refine rq (out := Pr.pt b27 0) (qFieldP fld59_0) ?_
        refine rq (out := Pr.i64 x25.Place) (qLoad (R := rRef12Wrong) (a := x25) (R' := Rp.int .i64) 3 ty3 subRef12Wrong_Place) ?_
        refine rq (out := Pr.bool (decide (x25.Place ≥ 0))) qInt ?_
        refine W_cond (b := decide (x25.Place ≥ 0)) rfl (fun hc28 => ?_) (fun hc28 => ?_)
        · replace h := iteT hc28 h
          refine W_join (fun e C => ref12_unary_j3 R x25 = some r ∧ At [(6, Pr.pt b4 0), (7, Pr.i64 0), (8, Pr.pt b5 0)] [Own.box b4 rApiNode (ApiNode.mk 0 [] [] 0 0 0 0 0 []), Own.box b5 rRef12Wrong x25, Own.box b26 rApiNode x23, Own.box b27 rRef12Wrong x25] e C) ?_ ?_
          · rintro e C ⟨h, hat3⟩
            refine W_at hat3 ?_
            clear hat3
            unfold ref12_unary_j3 at h
            obtain rfl := Option.some.inj h
            exact W_ret ⟨rfl, [(rApiNode).val (ApiNode.mk 0 [] [] 0 0 0 0 0 []), Pr.i64 0, (rRef12Wrong).val x25], ⟨yBox 0 ty24 Pr.le_rfl, yT Pr.le_rfl, yBox 1 ty59 Pr.le_rfl, trivial⟩, Pr.le_rfl⟩
          · refine W_drawEx [(2, 0, Own.box b4 rApiNode (ApiNode.mk 0 [] [] 0 0 0 0 0 [])), (4, 1, Own.box b5 rRef12Wrong x25)] [Own.box b4 rApiNode (ApiNode.mk 0 [] [] 0 0 0 0 0 []), Own.box b5 rRef12Wrong x25, Own.box b26 rApiNode x23, Own.box b27 rRef12Wrong x25] hmx (by kernel_rfl) (by kernel_rfl) (show ([2, 4] : List Nat).Nodup by decide) (show ([0, 1] : List Nat).Nodup by decide) rfl rfl ?_
            refine eq1 (out := (rApiNode).val (ApiNode.mk 0 [] [] 0 0 0 0 0 [])) (fun C2 hC => (qBuildR rApiNode_eq st24 rfl)) ?_
            refine eq1 (out := (rRef12Wrong).val x25) (fun C2 hC => (qLoad (R := rRef12Wrong) (a := x25) (R' := rRef12Wrong) 3 ty59 (Sub.refl _) (hi := (hC 3 (by kernel_rfl)).trans rfl))) ?_
            refine eqS (fun C2 hC => sStore (R := rApiNode) (R' := rApiNode) (a := (ApiNode.mk 0 [] [] 0 0 0 0 0 [])) (y := (ApiNode.mk 0 [] [] 0 0 0 0 0 [])) 0 Tryz.sizeOf24 (Upd.refl _) ((hC 0 (by kernel_rfl)).trans rfl)) ?_
            refine eq1 (out := Pr.i64 0) (fun C2 hC => qAssign) ?_
            refine eqS (fun C2 hC => sStore (R := rRef12Wrong) (R' := rRef12Wrong) (a := (Ref12Wrong.mk 0 0)) (y := x25) 1 Tryz.sizeOf59 (Upd.refl _) ((hC 1 (by kernel_rfl)).trans rfl)) ?_
            exact ⟨h, ⟨⟨Pr.le_rfl, Pr.le_rfl, Pr.le_rfl, trivial⟩, Pick.refl _⟩⟩
        · replace h := iteF hc28 h
          refine W_skip ?_
          refine W_seq ?_
          refine W_block ?_
          obtain ⟨z6l, hz6, h⟩ := bindSome h
          obtain ⟨n6, hN6⟩ := iter_some hz6
          clear hz6
          refine W_after 0 (fun e C => ∃ (x29 : Int), ∃ (x30 : ApiNode), ref12_unary_k5 R x29 x30 = some r ∧ At [(6, Pr.pt b4 0), (8, Pr.pt b5 0), (13, Pr.pt b26 0), (14, Pr.i64 x29)] [Own.box b4 rApiNode (ApiNode.mk 0 [] [] 0 0 0 0 0 []), Own.box b5 rRef12Wrong (Ref12Wrong.mk 0 0), Own.box b26 rApiNode x30, Own.box b27 rRef12Wrong x25] e C) ?_ ?_
          · rintro e C ⟨x29, x30, h, hat5⟩
            refine W_at hat5 ?_
            clear hat5
            unfold ref12_unary_k5 at h
            refine W_join (fun e C => ∃ (x55 : Ref12Wrong), ref12_unary_j4 R x30 x29 x55 = some r ∧ At [(6, Pr.pt b4 0), (7, Pr.i64 x29), (8, Pr.pt b5 0)] [Own.box b4 rApiNode x30, Own.box b5 rRef12Wrong x55, Own.box b26 rApiNode x30, Own.box b27 rRef12Wrong x25] e C) ?_ ?_
            · rintro e C ⟨x55, h, hat4⟩
              refine W_at hat4 ?_
              clear hat4
              unfold ref12_unary_j4 at h
              obtain rfl := Option.some.inj h
              exact W_ret ⟨rfl, [(rApiNode).val x30, Pr.i64 x29, (rRef12Wrong).val x55], ⟨yBox 0 ty24 Pr.le_rfl, yT Pr.le_rfl, yBox 1 ty59 Pr.le_rfl, trivial⟩, Pr.le_rfl⟩
            · obtain ⟨x55, hx55, h⟩ := bindSome h
              refine W_drawEx [(3, 0, Own.box b4 rApiNode x30), (5, 1, Own.box b5 rRef12Wrong x55)] [Own.box b4 rApiNode x30, Own.box b5 rRef12Wrong x55, Own.box b26 rApiNode x30, Own.box b27 rRef12Wrong x25] hmx (by kernel_rfl) (by kernel_rfl) (show ([3, 5] : List Nat).Nodup by decide) (show ([0, 1] : List Nat).Nodup by decide) rfl rfl ?_
              refine eq1 (out := (rApiNode).val x30) (fun C2 hC => (qLoad (R := rApiNode) (a := x30) (R' := rApiNode) 2 ty24 (Sub.refl _) (hi := (hC 2 (by kernel_rfl)).trans rfl))) ?_
              refine eq1 (out := Pr.i64 x29) (fun C2 hC => qMove) ?_
              refine eq1 (out := (rRef12Wrong).val x55) (fun C2 hC => (qCall (ref12_fine_ok  _ hx55))) ?_
              refine eqS (fun C2 hC => sStore (R := rApiNode) (R' := rApiNode) (a := (ApiNode.mk 0 [] [] 0 0 0 0 0 [])) (y := x30) 0 Tryz.sizeOf24 (Upd.refl _) ((hC 0 (by kernel_rfl)).trans rfl)) ?_
              refine eq1 (out := Pr.i64 x29) (fun C2 hC => qAssign) ?_
              refine eqS (fun C2 hC => sStore (R := rRef12Wrong) (R' := rRef12Wrong) (a := (Ref12Wrong.mk 0 0)) (y := x55) 1 Tryz.sizeOf59 (Upd.refl _) ((hC 1 (by kernel_rfl)).trans rfl)) ?_
              exact ⟨x55, h, ⟨⟨Pr.le_rfl, Pr.le_rfl, Pr.le_rfl, trivial⟩, Pick.refl _⟩⟩
          · refine W_loop (fun m e C => ∃ (x29 : Int), ∃ (x30 : ApiNode), IterN (fun s => ref12_unary_l6 R x1 x3 x2 s.1 s.2) m (x29, x30) = some z6l ∧ At [(0, Pr.lst rApiToken x1), (1, Pr.i64 x2), (2, Pr.i64 x3), (6, Pr.pt b4 0), (8, Pr.pt b5 0), (13, Pr.pt b26 0), (14, Pr.i64 x29)] [Own.box b4 rApiNode (ApiNode.mk 0 [] [] 0 0 0 0 0 []), Own.box b5 rRef12Wrong (Ref12Wrong.mk 0 0), Own.box b26 rApiNode x30, Own.box b27 rRef12Wrong x25] e C) n6 ⟨x24, x23, hN6, ⟨⟨Pr.le_rfl, Pr.le_rfl, Pr.le_rfl, Pr.le_rfl, Pr.le_rfl, Pr.le_rfl, Pr.le_rfl, trivial⟩, Pick.refl _⟩⟩ ?_
            clear hN6
            rintro m e C ⟨x29, x30, hN6, hatl6⟩
            refine W_at hatl6 ?_
            clear hatl6
            obtain ⟨m6, w6l, rfl, h6l, hn6, ho6⟩ := iterN_some hN6
            clear hN6
            replace h6l : ref12_unary_l6 R x1 x3 x2 x29 x30 = some w6l := h6l
            unfold ref12_unary_l6 at h6l
            refine W_seq ?_
            refine W_rs ?_
            refine rq (out := Pr.lst rApiToken x1) qMove ?_
            refine rq (out := Pr.i64 x29) qMove ?_
            obtain ⟨x33, hx33, h6l⟩ := bindSome h6l
            refine rq (out := Pr.bool x33) (qCall (ref12_is_ok x1 x29 ([46] : List UInt8) _ hx33)) ?_
            refine W_cond (b := x33) rfl (fun hc34 => ?_) (fun hc34 => ?_)
            · replace h6l := iteT hc34 h6l
              refine W_skip ?_
              refine W_block ?_
              refine W_seq ?_
              refine W_rs ?_
              refine rq (out := Pr.lst rApiToken x1) qMove ?_
              refine rq (out := Pr.i64 x29) qMove ?_
              refine rq (out := Pr.i64 (w64 (x29 + 1))) qInt ?_
              obtain ⟨x35, hx35, h6l⟩ := bindSome h6l
              refine rq (out := Pr.bool x35) (qCall (ref12_name_ok x1 (w64 (x29 + 1)) _ hx35)) ?_
              refine rq (out := Pr.bool (!x35)) qNot ?_
              refine W_cond (b := !x35) rfl (fun hc36 => ?_) (fun hc36 => ?_)
              · replace h6l := iteT hc36 h6l
                refine W_rs ?_
                refine rq (out := (rApiNode).val (ApiNode.mk 0 [] [] 0 0 0 0 0 [])) (qBuildR rApiNode_eq st24 rfl) ?_
                refine rq (out := Pr.i64 x29) qMove ?_
                refine rq (out := Pr.i64 (w64 (x29 + 1))) qInt ?_
                obtain ⟨x37, hx37, h6l⟩ := bindSome h6l
                refine rq (out := (rRef12Wrong).val x37) (qCall (ref12_syntax_ok (w64 (x29 + 1)) _ hx37)) ?_
                refine rStore (R := rApiNode) (R' := rApiNode) (a := (ApiNode.mk 0 [] [] 0 0 0 0 0 [])) (y := (ApiNode.mk 0 [] [] 0 0 0 0 0 [])) 0 Tryz.sizeOf24 (Upd.refl _) ?_
                refine rq (out := Pr.i64 0) qAssign ?_
                refine rStore (R := rRef12Wrong) (R' := rRef12Wrong) (a := (Ref12Wrong.mk 0 0)) (y := x37) 1 Tryz.sizeOf59 (Upd.refl _) ?_
                obtain rfl := ho6 _ (Option.some.inj h6l).symm
                replace h : some ((ApiNode.mk 0 [] [] 0 0 0 0 0 []), 0, x37) = some r := h
                obtain rfl := Option.some.inj h
                exact W_ret ⟨rfl, [(rApiNode).val (ApiNode.mk 0 [] [] 0 0 0 0 0 []), Pr.i64 0, (rRef12Wrong).val x37], ⟨yBox 0 ty24 Pr.le_rfl, yT Pr.le_rfl, yBox 1 ty59 Pr.le_rfl, trivial⟩, Pr.le_rfl⟩
              · replace h6l := iteF hc36 h6l
                refine W_skip ?_
                refine W_rs ?_
                refine rq (out := Pr.i64 x29) qMove ?_
                refine rq (out := Pr.i64 (w64 (x29 + 1))) qInt ?_
                refine rq (out := Pr.i64 (w64 (x29 + 1))) qAssign ?_
                refine W_rs ?_
                refine rq (out := Pr.i64 18) qAssign ?_
                refine W_rs ?_
                refine rq (out := (rApiNode).val x30) (qLoad (R := rApiNode) (a := x30) (R' := rApiNode) 2 ty24 (Sub.refl _)) ?_
                refine rBuildV (R := rApiNode) (ls := ([x30] : List ApiNode)) el22 (Nat.le_of_ble_eq_true rfl) ⟨rfl, rfl⟩ ⟨rfl, trivial⟩ (fun v38 => ?_)
                refine rq (out := Pr.is v38) qAssign ?_
                refine W_rs ?_
                refine rq (out := Pr.i64 (w64 (x29 + 1))) qMove ?_
                refine rq (out := Pr.i64 (w64 ((w64 (x29 + 1)) + 1))) qInt ?_
                refine rq (out := Pr.i64 (w64 ((w64 (x29 + 1)) + 1))) qAssign ?_
                refine W_join (fun e C => ∃ (x48 : Int), ∃ (x49 : Int), ∃ (x51 : List ApiNode), ∃ (v50 : Value), ref12_unary_j7 R x1 x2 x29 x48 x49 x51 = some w6l ∧ At [(0, Pr.lst rApiToken x1), (1, Pr.i64 x2), (2, Pr.i64 x3), (6, Pr.pt b4 0), (8, Pr.pt b5 0), (13, Pr.pt b26 0), (14, Pr.i64 x48), (16, Pr.i64 (w64 (x29 + 1))), (17, Pr.i64 x49), (18, Pr.is v50)] [Own.box b4 rApiNode (ApiNode.mk 0 [] [] 0 0 0 0 0 []), Own.box b5 rRef12Wrong (Ref12Wrong.mk 0 0), Own.box b26 rApiNode x30, Own.box b27 rRef12Wrong x25, Own.vec v50 rApiNode x51 24] e C) ?_ ?_
                · rintro e C ⟨x48, x49, x51, v50, h6l, hat7⟩
                  refine W_at hat7 ?_
                  clear hat7
                  unfold ref12_unary_j7 at h6l
                  refine W_rs ?_
                  refine rq (out := Pr.lst rApiToken x1) qMove ?_
                  refine rq (out := Pr.i64 x49) qMove ?_
                  refine rq (out := Pr.i64 x2) qMove ?_
                  refine rq (out := Pr.i64 x48) qMove ?_
                  refine rq (out := Pr.is v50) qMove ?_
                  obtain ⟨x52, hx52, h6l⟩ := bindSome h6l
                  refine rRel 4 [18, 123] ?_ rfl ⟨rfl, rfl, trivial⟩
                  refine rq (out := (rApiNode).val x52) (qCall (ref12_made_ok x1 x49 x2 x48 x51 _ hx52)) ?_
                  refine rStore (R := rApiNode) (R' := rApiNode) (a := x30) (y := x52) 2 Tryz.sizeOf24 (Upd.refl _) ?_
                  refine W_rs ?_
                  refine rq (out := Pr.lst rApiToken x1) qMove ?_
                  refine rq (out := Pr.i64 (w64 (x29 + 1))) qMove ?_
                  obtain ⟨x53, hx53, h6l⟩ := bindSome h6l
                  refine rq (out := Pr.cpt rApiToken x53) (qIdxA (R := rApiToken) (l := x1) Tryz.underlying52 Tryz.sizeOf56 hx53) ?_
                  refine rq (out := Pr.cpt Rp.str x53.Text) (qFieldC (R := rApiToken) (a := x53) fld56_1 subApiToken_Text) ?_
                  refine rq (out := Pr.str x53.Text) (qLoadC (R := Rp.str) (a := x53.Text) ty9) ?_
                  refine rq (out := Pr.pt b26 1) (qFieldP fld24_1) ?_
                  refine rStore (R := rApiNode) (R' := Rp.str) (a := x52) (y := x53.Text) 2 Tryz.sizeOf9 updApiNode_Text ?_
                  refine W_r ?_
                  refine rq (out := Pr.lst rApiToken x1) qMove ?_
                  refine rq (out := Pr.i64 (w64 (x29 + 1))) qMove ?_
                  obtain ⟨x54, hx54, h6l⟩ := bindSome h6l
                  refine rq (out := Pr.cpt rApiToken x54) (qIdxA (R := rApiToken) (l := x1) Tryz.underlying52 Tryz.sizeOf56 hx54) ?_
                  refine rq (out := Pr.cpt (Rp.int .i64) x54.At) (qFieldC (R := rApiToken) (a := x54) fld56_2 subApiToken_At) ?_
                  refine rq (out := Pr.i64 x54.At) (qLoadC (R := Rp.int .i64) (a := x54.At) ty3) ?_
                  refine rq (out := Pr.pt b26 6) (qFieldP fld24_6) ?_
                  refine rStore (R := rApiNode) (R' := Rp.int .i64) (a := { x52 with Text := x53.Text }) (y := x54.At) 2 Tryz.sizeOf3 updApiNode_At ?_
                  exact ⟨m6, Nat.lt_succ_self _, x48, { { x52 with Text := x53.Text } with At := x54.At }, hn6 _ (Option.some.inj h6l).symm, ⟨⟨Pr.le_rfl, Pr.le_rfl, Pr.le_rfl, Pr.le_rfl, Pr.le_rfl, Pr.le_rfl, Pr.le_rfl, trivial⟩, Pick.refl _⟩⟩
                · refine W_rs ?_
                  refine rq (out := Pr.lst rApiToken x1) qMove ?_
                  refine rq (out := Pr.i64 (w64 ((w64 (x29 + 1)) + 1))) qMove ?_
                  obtain ⟨x39, hx39, h6l⟩ := bindSome h6l
                  refine rq (out := Pr.bool x39) (qCall (ref12_is_ok x1 (w64 ((w64 (x29 + 1)) + 1)) ([40] : List UInt8) _ hx39)) ?_
                  refine W_cond (b := x39) rfl (fun hc40 => ?_) (fun hc40 => ?_)
                  · replace h6l := iteT hc40 h6l
                    refine W_rs ?_
                    refine rq (out := Pr.lst rApiToken x1) qMove ?_
                    refine rq (out := Pr.i64 (w64 ((w64 (x29 + 1)) + 1))) qMove ?_
                    refine rq (out := Pr.i64 (w64 ((w64 ((w64 (x29 + 1)) + 1)) + 1))) qInt ?_
                    refine rq (out := Pr.i64 x3) qMove ?_
                    refine rq (out := Pr.i64 (w64 (x3 + 1))) qInt ?_
                    obtain ⟨⟨x41, x42, x43⟩, hx41, h6l⟩ := bindSome h6l
                    refine rq (out := Pr.tup [Pr.lst rApiNode x41, Pr.i64 x42, (rRef12Wrong).val x43]) (qCall (ih.2.2.2.2 x1 (w64 ((w64 ((w64 (x29 + 1)) + 1)) + 1)) (w64 (x3 + 1)) _ hx41)) ?_
                    refine rq (out := Pr.tup [Pr.lst rApiNode x41, Pr.i64 x42, (rRef12Wrong).val x43]) qMove ?_
                    refine rq (out := Pr.lst rApiNode x41) qExtract ?_
                    refine rq (out := Pr.i64 x42) qExtract ?_
                    refine rq (out := (rRef12Wrong).val x43) qExtract ?_
                    refine rAlloc (R := rRef12Wrong) (z := (Ref12Wrong.mk 0 0)) Tryz.zeroValue59 (fun _ => ⟨_, ⟨_, _, rfl, rfl, ⟨_, _, rfl, rfl, rfl⟩⟩, rfl⟩) (fun b44 => ?_)
                    refine rq (out := Pr.lst rApiNode x41) qAssign ?_
                    refine rq (out := Pr.i64 x42) qAssign ?_
                    refine rStore (R := rRef12Wrong) (R' := rRef12Wrong) (a := (Ref12Wrong.mk 0 0)) (y := x43) 5 Tryz.sizeOf59 (Upd.refl _) ?_
                    refine W_seq ?_
                    refine W_rs ?_
                    refine rq (out := Pr.pt b44 0) (qFieldP fld59_0) ?_
                    refine rq (out := Pr.i64 x43.Place) (qLoad (R := rRef12Wrong) (a := x43) (R' := Rp.int .i64) 5 ty3 subRef12Wrong_Place) ?_
                    refine rq (out := Pr.bool (decide (x43.Place ≥ 0))) qInt ?_
                    refine W_cond (b := decide (x43.Place ≥ 0)) rfl (fun hc45 => ?_) (fun hc45 => ?_)
                    · replace h6l := iteT hc45 h6l
                      refine W_join (fun e C => ref12_unary_j8 R x43 = some w6l ∧ At [(6, Pr.pt b4 0), (7, Pr.i64 0), (8, Pr.pt b5 0)] [Own.box b4 rApiNode (ApiNode.mk 0 [] [] 0 0 0 0 0 []), Own.box b5 rRef12Wrong x43, Own.box b26 rApiNode x30, Own.box b27 rRef12Wrong x25, Own.box b44 rRef12Wrong x43] e C) ?_ ?_
                      · rintro e C ⟨h6l, hat8⟩
                        refine W_at hat8 ?_
                        clear hat8
                        unfold ref12_unary_j8 at h6l
                        obtain rfl := ho6 _ (Option.some.inj h6l).symm
                        replace h : some ((ApiNode.mk 0 [] [] 0 0 0 0 0 []), 0, x43) = some r := h
                        obtain rfl := Option.some.inj h
                        exact W_ret ⟨rfl, [(rApiNode).val (ApiNode.mk 0 [] [] 0 0 0 0 0 []), Pr.i64 0, (rRef12Wrong).val x43], ⟨yBox 0 ty24 Pr.le_rfl, yT Pr.le_rfl, yBox 1 ty59 Pr.le_rfl, trivial⟩, Pr.le_rfl⟩
                      · refine W_drawEx [(2, 0, Own.box b4 rApiNode (ApiNode.mk 0 [] [] 0 0 0 0 0 [])), (4, 1, Own.box b5 rRef12Wrong x43)] [Own.box b4 rApiNode (ApiNode.mk 0 [] [] 0 0 0 0 0 []), Own.box b5 rRef12Wrong x43, Own.box b26 rApiNode x30, Own.box b27 rRef12Wrong x25, Own.vec v38 rApiNode ([x30] : List ApiNode) 24, Own.box b44 rRef12Wrong x43] hmx (by kernel_rfl) (by kernel_rfl) (show ([2, 4] : List Nat).Nodup by decide) (show ([0, 1] : List Nat).Nodup by decide) rfl rfl ?_
                        refine eq1 (out := (rApiNode).val (ApiNode.mk 0 [] [] 0 0 0 0 0 [])) (fun C2 hC => (qBuildR rApiNode_eq st24 rfl)) ?_
                        refine eq1 (out := (rRef12Wrong).val x43) (fun C2 hC => (qLoad (R := rRef12Wrong) (a := x43) (R' := rRef12Wrong) 5 ty59 (Sub.refl _) (hi := (hC 5 (by kernel_rfl)).trans rfl))) ?_
                        refine eqS (fun C2 hC => sStore (R := rApiNode) (R' := rApiNode) (a := (ApiNode.mk 0 [] [] 0 0 0 0 0 [])) (y := (ApiNode.mk 0 [] [] 0 0 0 0 0 [])) 0 Tryz.sizeOf24 (Upd.refl _) ((hC 0 (by kernel_rfl)).trans rfl)) ?_
                        refine eq1 (out := Pr.i64 0) (fun C2 hC => qAssign) ?_
                        refine eqS (fun C2 hC => sStore (R := rRef12Wrong) (R' := rRef12Wrong) (a := (Ref12Wrong.mk 0 0)) (y := x43) 1 Tryz.sizeOf59 (Upd.refl _) ((hC 1 (by kernel_rfl)).trans rfl)) ?_
                        exact ⟨h6l, ⟨⟨Pr.le_rfl, Pr.le_rfl, Pr.le_rfl, trivial⟩, Pick.of [0, 1, 2, 3, 5] rfl⟩⟩
                    · replace h6l := iteF hc45 h6l
                      refine W_skip ?_
                      refine W_rs ?_
                      refine rq (out := Pr.i64 20) qAssign ?_
                      refine W_rs ?_
                      refine rq (out := Pr.is v38) qMove ?_
                      refine rq (out := Pr.lst rApiNode x41) qMove ?_
                      obtain ⟨x46, hx46, h6l⟩ := bindSome h6l
                      refine rAppend' 4 el22 hx46 (fun v47 => ?_)
                      refine rq (out := Pr.is v47) qAssign ?_
                      refine W_r ?_
                      refine rq (out := Pr.i64 x42) qMove ?_
                      refine rq (out := Pr.i64 x42) qAssign ?_
                      exact ⟨x42, 20, x46, v47, h6l, ⟨⟨Pr.le_rfl, Pr.le_rfl, Pr.le_rfl, Pr.le_rfl, Pr.le_rfl, Pr.le_rfl, Pr.le_rfl, Pr.le_rfl, Pr.le_rfl, Pr.le_rfl, trivial⟩, Pick.of [0, 1, 2, 3, 4] rfl⟩⟩
                  · replace h6l := iteF hc40 h6l
                    refine W_skip ?_
                    exact ⟨w64 ((w64 (x29 + 1)) + 1), 18, ([x30] : List ApiNode), v38, h6l, ⟨⟨Pr.le_rfl, Pr.le_rfl, Pr.le_rfl, Pr.le_rfl, Pr.le_rfl, Pr.le_rfl, Pr.le_rfl, Pr.le_rfl, Pr.le_rfl, Pr.le_rfl, trivial⟩, Pick.refl _⟩⟩
            · replace h6l := iteF hc34 h6l
              refine W_exit ?_
              obtain rfl := ho6 _ (Option.some.inj h6l).symm
              exact ⟨x29, x30, h, ⟨⟨Pr.le_rfl, Pr.le_rfl, Pr.le_rfl, Pr.le_rfl, trivial⟩, Pick.refl _⟩⟩
    · refine W_r ?_
      refine rq (out := Pr.lst rApiToken x1) qMove ?_
      refine rq (out := Pr.i64 x2) qMove ?_
      obtain ⟨x7, hx7, h⟩ := bindSome h
      refine rq (out := Pr.bool x7) (qCall (ref12_is_ok x1 x2 ([33] : List UInt8) _ hx7)) ?_
      refine rq (out := Pr.bool x7) qMove ?_
      rcases iteSome h with ⟨hc8, h⟩ | ⟨hc8, h⟩
      · refine rno (neF hc8) ?_
        refine rno (neF hc8) ?_
        refine rno (neF hc8) ?_
        refine rq (out := Pr.bool true) (qPickT hc8) ?_
        exact ⟨true, h, ⟨⟨Pr.le_rfl, Pr.le_rfl, Pr.le_rfl, Pr.le_rfl, Pr.le_rfl, Pr.le_rfl, trivial⟩, Pick.refl _⟩⟩
      · refine rqg hc8 (out := Pr.lst rApiToken x1) qMove ?_
        refine rqg hc8 (out := Pr.i64 x2) qMove ?_
        obtain ⟨x9, hx9, h⟩ := bindSome h
        refine rqg hc8 (out := Pr.bool x9) (qCall (ref12_is_ok x1 x2 ([45] : List UInt8) _ hx9)) ?_
        refine rq (out := Pr.bool x9) (qPickF hc8) ?_
        exact ⟨x9, h, ⟨⟨Pr.le_rfl, Pr.le_rfl, Pr.le_rfl, Pr.le_rfl, Pr.le_rfl, Pr.le_rfl, trivial⟩, Pick.refl _⟩⟩
theorem F_ref12_primary_step (R : rec_ref12_expression_T) (ih : rec_ref12_expression_spec R) (x1 : List ApiToken) (x2 : Int) (x3 : Int) (r : ApiNode × Int × Ref12Wrong) (h : F_ref12_primary R x1 x2 x3 = some r) : FnP Tryz.prog 106 [Pr.lst rApiToken x1, Pr.i64 x2, Pr.i64 x3] (Pr.tup [(rApiNode).val r.1, Pr.i64 r.2.1, (rRef12Wrong).val r.2.2]) := by
  refine fn_introR (n := 250) (rs := [.cell 6 24, .tmp 7, .cell 8 59]) Tryz.func106 rfl Tryz.ntmps106 Tryz.results106 (by decide) (fun s0 => ?_)
  unfold F_ref12_primary at h
  refine W_rs ?_
  refine rAlloc (R := rApiNode) (z := (ApiNode.mk 0 [] [] 0 0 0 0 0 [])) Tryz.zeroValue24 (fun _ => (by rw [rApiNode_eq]; exact ⟨_, ⟨_, _, rfl, rfl, ⟨_, _, rfl, rfl, ⟨_, _, rfl, rfl, ⟨_, _, rfl, rfl, ⟨_, _, rfl, rfl, ⟨_, _, rfl, rfl, ⟨_, _, rfl, rfl, ⟨_, _, rfl, rfl, ⟨_, _, rfl, ⟨_, rfl, none, 0, rfl, ⟨Nat.le_refl _, fun _ => rfl⟩, .inl rfl⟩, rfl⟩⟩⟩⟩⟩⟩⟩⟩⟩, rfl⟩)) (fun b4 => ?_)
  refine rq (out := Pr.i64 0) qAssign ?_
  refine rAlloc (R := rRef12Wrong) (z := (Ref12Wrong.mk 0 0)) Tryz.zeroValue59 (fun _ => ⟨_, ⟨_, _, rfl, rfl, ⟨_, _, rfl, rfl, rfl⟩⟩, rfl⟩) (fun b5 => ?_)
  refine W_seq ?_
  refine W_block ?_
  refine W_rs ?_
  refine rq (out := Pr.lst rApiToken x1) qMove ?_
  refine rq (out := Pr.i64 x2) qMove ?_
  obtain ⟨x6, hx6, h⟩ := bindSome h
  refine rq (out := Pr.cpt rApiToken x6) (qIdxA (R := rApiToken) (l := x1) Tryz.underlying52 Tryz.sizeOf56 hx6) ?_
  refine rq (out := Pr.cpt (Rp.int .i64) x6.Kind) (qFieldC (R := rApiToken) (a := x6) fld56_0 subApiToken_Kind) ?_
  refine rq (out := Pr.i64 x6.Kind) (qLoadC (R := Rp.int .i64) (a := x6.Kind) ty3) ?_
  refine rq (out := Pr.bool (x6.Kind == 2)) qInt ?_
  refine rq (out := Pr.bool (x6.Kind == 2)) qAssign ?_
  refine W_cond (b := x6.Kind == 2) rfl (fun hc7 => ?_) (fun hc7 => ?_)
  · replace h := iteT hc7 h
    refine W_rs ?_
    refine rq (out := Pr.lst rApiToken x1) qMove ?_
    refine rq (out := Pr.i64 x2) qMove ?_
    refine rq (out := Pr.i64 x2) qMove ?_
    refine rq (out := Pr.i64 (w64 (x2 + 1))) qInt ?_
    obtain ⟨x8, hx8, h⟩ := bindSome h
    refine rq (out := (rApiNode).val x8) (qCall' (ref12_made_ok x1 13 x2 (w64 (x2 + 1)) [] _ hx8) ⟨Pr.le_rfl, Pr.le_rfl, Pr.le_rfl, Pr.le_rfl, Pr.lst_nil _, trivial⟩) ?_
    refine rAlloc (R := rApiNode) (z := (ApiNode.mk 0 [] [] 0 0 0 0 0 [])) Tryz.zeroValue24 (fun _ => (by rw [rApiNode_eq]; exact ⟨_, ⟨_, _, rfl, rfl, ⟨_, _, rfl, rfl, ⟨_, _, rfl, rfl, ⟨_, _, rfl, rfl, ⟨_, _, rfl, rfl, ⟨_, _, rfl, rfl, ⟨_, _, rfl, rfl, ⟨_, _, rfl, rfl, ⟨_, _, rfl, ⟨_, rfl, none, 0, rfl, ⟨Nat.le_refl _, fun _ => rfl⟩, .inl rfl⟩, rfl⟩⟩⟩⟩⟩⟩⟩⟩⟩, rfl⟩)) (fun b9 => ?_)
    refine rStore (R := rApiNode) (R' := rApiNode) (a := (ApiNode.mk 0 [] [] 0 0 0 0 0 [])) (y := x8) 2 Tryz.sizeOf24 (Upd.refl _) ?_
    refine W_seq ?_
    refine W_rs ?_
    refine rq (out := Pr.i64 0) qAssign ?_
    refine W_block ?_
    obtain ⟨z3l, hz3, h⟩ := bindSome h
    obtain ⟨n3, hN3⟩ := iter_some hz3
    clear hz3
    refine W_after 1 (fun e C => ∃ (x11 : ApiNode), ref12_primary_k2 R x2 x11 = some r ∧ At [(1, Pr.i64 x2), (6, Pr.pt b4 0), (8, Pr.pt b5 0), (9, Pr.pt b9 0)] [Own.box b4 rApiNode (ApiNode.mk 0 [] [] 0 0 0 0 0 []), Own.box b5 rRef12Wrong (Ref12Wrong.mk 0 0), Own.box b9 rApiNode x11] e C) ?_ ?_
    · rintro e C ⟨x11, h, hat2⟩
      refine W_at hat2 ?_
      clear hat2
      unfold ref12_primary_k2 at h
      refine W_join (fun e C => ∃ (x18 : Ref12Wrong), ref12_primary_j1 R x11 x2 x18 = some r ∧ At [(6, Pr.pt b4 0), (7, Pr.i64 (w64 (x2 + 1))), (8, Pr.pt b5 0)] [Own.box b4 rApiNode x11, Own.box b5 rRef12Wrong x18, Own.box b9 rApiNode x11] e C) ?_ ?_
      · rintro e C ⟨x18, h, hat1⟩
        refine W_at hat1 ?_
        clear hat1
        unfold ref12_primary_j1 at h
        obtain rfl := Option.some.inj h
        exact W_ret ⟨rfl, [(rApiNode).val x11, Pr.i64 (w64 (x2 + 1)), (rRef12Wrong).val x18], ⟨yBox 0 ty24 Pr.le_rfl, yT Pr.le_rfl, yBox 1 ty59 Pr.le_rfl, trivial⟩, Pr.le_rfl⟩
      · obtain ⟨x18, hx18, h⟩ := bindSome h
        refine W_drawEx [(4, 0, Own.box b4 rApiNode x11), (6, 1, Own.box b5 rRef12Wrong x18)] [Own.box b4 rApiNode x11, Own.box b5 rRef12Wrong x18, Own.box b9 rApiNode x11] hmx (by kernel_rfl) (by kernel_rfl) (show ([4, 6] : List Nat).Nodup by decide) (show ([0, 1] : List Nat).Nodup by decide) rfl rfl ?_
        refine eq1 (out := (rApiNode).val x11) (fun C2 hC => (qLoad (R := rApiNode) (a := x11) (R' := rApiNode) 2 ty24 (Sub.refl _) (hi := (hC 2 (by kernel_rfl)).trans rfl))) ?_
        refine eq1 (out := Pr.i64 x2) (fun C2 hC => qMove) ?_
        refine eq1 (out := Pr.i64 (w64 (x2 + 1))) (fun C2 hC => qInt) ?_
        refine eq1 (out := (rRef12Wrong).val x18) (fun C2 hC => (qCall (ref12_fine_ok  _ hx18))) ?_
        refine eqS (fun C2 hC => sStore (R := rApiNode) (R' := rApiNode) (a := (ApiNode.mk 0 [] [] 0 0 0 0 0 [])) (y := x11) 0 Tryz.sizeOf24 (Upd.refl _) ((hC 0 (by kernel_rfl)).trans rfl)) ?_
        refine eq1 (out := Pr.i64 (w64 (x2 + 1))) (fun C2 hC => qAssign) ?_
        refine eqS (fun C2 hC => sStore (R := rRef12Wrong) (R' := rRef12Wrong) (a := (Ref12Wrong.mk 0 0)) (y := x18) 1 Tryz.sizeOf59 (Upd.refl _) ((hC 1 (by kernel_rfl)).trans rfl)) ?_
        exact ⟨x18, h, ⟨⟨Pr.le_rfl, Pr.le_rfl, Pr.le_rfl, trivial⟩, Pick.refl _⟩⟩
    · refine W_loop (fun m e C => ∃ (x10 : Int), ∃ (x11 : ApiNode), IterN (fun s => ref12_primary_l3 R x1 x2 s.1 s.2) m (x10, x11) = some z3l ∧ At [(0, Pr.lst rApiToken x1), (1, Pr.i64 x2), (6, Pr.pt b4 0), (8, Pr.pt b5 0), (9, Pr.pt b9 0), (10, Pr.i64 x10)] [Own.box b4 rApiNode (ApiNode.mk 0 [] [] 0 0 0 0 0 []), Own.box b5 rRef12Wrong (Ref12Wrong.mk 0 0), Own.box b9 rApiNode x11] e C) n3 ⟨0, x8, hN3, ⟨⟨Pr.le_rfl, Pr.le_rfl, Pr.le_rfl, Pr.le_rfl, Pr.le_rfl, Pr.le_rfl, trivial⟩, Pick.refl _⟩⟩ ?_
      clear hN3
      rintro m e C ⟨x10, x11, hN3, hatl3⟩
      refine W_at hatl3 ?_
      clear hatl3
      obtain ⟨m3, w3l, rfl, h3l, hn3, ho3⟩ := iterN_some hN3
      clear hN3
      replace h3l : ref12_primary_l3 R x1 x2 x10 x11 = some w3l := h3l
      unfold ref12_primary_l3 at h3l
      refine W_seq ?_
      refine W_rs ?_
      refine rq (out := Pr.i64 x10) qMove ?_
      refine rq (out := Pr.lst rApiToken x1) qMove ?_
      refine rq (out := Pr.i64 x2) qMove ?_
      obtain ⟨x14, hx14, h3l⟩ := bindSome h3l
      refine rq (out := Pr.cpt rApiToken x14) (qIdxA (R := rApiToken) (l := x1) Tryz.underlying52 Tryz.sizeOf56 hx14) ?_
      refine rq (out := Pr.cpt Rp.str x14.Text) (qFieldC (R := rApiToken) (a := x14) fld56_1 subApiToken_Text) ?_
      refine rq (out := Pr.str x14.Text) (qLoadC (R := Rp.str) (a := x14.Text) ty9) ?_
      refine rq (out := Pr.i64 (x14.Text.length : Int)) (qLenS rfl Tryz.underlying9) ?_
      refine rq (out := Pr.bool (decide (x10 < (x14.Text.length : Int)))) qInt ?_
      refine W_cond (b := decide (x10 < (x14.Text.length : Int))) rfl (fun hc15 => ?_) (fun hc15 => ?_)
      · replace h3l := iteT hc15 h3l
        refine W_skip ?_
        refine W_seq ?_
        refine W_block ?_
        refine W_draw 14 hmx (by kernel_rfl) (by kernel_rfl) ?_
        refine qq (out := Pr.pt b9 3) (qFieldP fld24_3) ?_
        refine qq (out := Pr.i64 x11.N) (qLoad (R := rApiNode) (a := x11) (R' := Rp.int .i64) 2 ty2 subApiNode_N) ?_
        refine qq (out := Pr.i64 (w64 (10 * x11.N))) qInt ?_
        refine qq (out := Pr.lst rApiToken x1) qMove ?_
        refine qq (out := Pr.i64 x2) qMove ?_
        obtain ⟨x16, hx16, h3l⟩ := bindSome h3l
        refine qq (out := Pr.cpt rApiToken x16) (qIdxA (R := rApiToken) (l := x1) Tryz.underlying52 Tryz.sizeOf56 hx16) ?_
        refine qq (out := Pr.cpt Rp.str x16.Text) (qFieldC (R := rApiToken) (a := x16) fld56_1 subApiToken_Text) ?_
        refine qq (out := Pr.str x16.Text) (qLoadC (R := Rp.str) (a := x16.Text) ty9) ?_
        refine qq (out := Pr.i64 x10) qMove ?_
        obtain ⟨x17, hx17, h3l⟩ := bindSome h3l
        refine qq (out := Pr.u8 x17) (qIdxS Tryz.underlying9 hx17) ?_
        refine qq (out := Pr.u8 (IntKind.wrap .u8 (x17 - 48))) qInt ?_
        refine qq (out := Pr.i64 (w64 (IntKind.wrap .u8 (x17 - 48)))) (qConv Tryz.underlying5 Tryz.underlying2) ?_
        refine qq (out := Pr.i64 (w64 ((w64 (10 * x11.N)) + (w64 (IntKind.wrap .u8 (x17 - 48)))))) qInt ?_
        refine qq (out := Pr.pt b9 3) (qFieldP fld24_3) ?_
        refine rStore (R := rApiNode) (R' := Rp.int .i64) (a := x11) (y := w64 ((w64 (10 * x11.N)) + (w64 (IntKind.wrap .u8 (x17 - 48))))) 2 Tryz.sizeOf2 updApiNode_N ?_
        refine W_r ?_
        refine rq (out := Pr.i64 x10) qMove ?_
        refine rq (out := Pr.i64 (w64 (x10 + 1))) qInt ?_
        refine rq (out := Pr.i64 (w64 (x10 + 1))) qAssign ?_
        exact ⟨m3, Nat.lt_succ_self _, w64 (x10 + 1), { x11 with N := w64 ((w64 (10 * x11.N)) + (w64 (IntKind.wrap .u8 (x17 - 48)))) }, hn3 _ (Option.some.inj h3l).symm, ⟨⟨Pr.le_rfl, Pr.le_rfl, Pr.le_rfl, Pr.le_rfl, Pr.le_rfl, Pr.le_rfl, trivial⟩, Pick.refl _⟩⟩
      · replace h3l := iteF hc15 h3l
        refine W_exit ?_
        obtain rfl := ho3 _ (Option.some.inj h3l).symm
        exact ⟨x11, h, ⟨⟨Pr.le_rfl, Pr.le_rfl, Pr.le_rfl, Pr.le_rfl, trivial⟩, Pick.refl _⟩⟩
  · replace h := iteF hc7 h
    refine W_rs ?_
    refine rq (out := Pr.lst rApiToken x1) qMove ?_
    refine rq (out := Pr.i64 x2) qMove ?_
    obtain ⟨x19, hx19, h⟩ := bindSome h
    refine rq (out := Pr.bool x19) (qCall (ref12_is_ok x1 x2 ([116, 114, 117, 101] : List UInt8) _ hx19)) ?_
    refine rq (out := Pr.bool x19) qAssign ?_
    refine W_cond (b := x19) rfl (fun hc20 => ?_) (fun hc20 => ?_)
    · replace h := iteT hc20 h
      refine W_rs ?_
      refine rq (out := Pr.lst rApiToken x1) qMove ?_
      refine rq (out := Pr.i64 x2) qMove ?_
      refine rq (out := Pr.i64 x2) qMove ?_
      refine rq (out := Pr.i64 (w64 (x2 + 1))) qInt ?_
      obtain ⟨x21, hx21, h⟩ := bindSome h
      refine rq (out := (rApiNode).val x21) (qCall' (ref12_made_ok x1 14 x2 (w64 (x2 + 1)) [] _ hx21) ⟨Pr.le_rfl, Pr.le_rfl, Pr.le_rfl, Pr.le_rfl, Pr.lst_nil _, trivial⟩) ?_
      refine rAlloc (R := rApiNode) (z := (ApiNode.mk 0 [] [] 0 0 0 0 0 [])) Tryz.zeroValue24 (fun _ => (by rw [rApiNode_eq]; exact ⟨_, ⟨_, _, rfl, rfl, ⟨_, _, rfl, rfl, ⟨_, _, rfl, rfl, ⟨_, _, rfl, rfl, ⟨_, _, rfl, rfl, ⟨_, _, rfl, rfl, ⟨_, _, rfl, rfl, ⟨_, _, rfl, rfl, ⟨_, _, rfl, ⟨_, rfl, none, 0, rfl, ⟨Nat.le_refl _, fun _ => rfl⟩, .inl rfl⟩, rfl⟩⟩⟩⟩⟩⟩⟩⟩⟩, rfl⟩)) (fun b22 => ?_)
      refine rStore (R := rApiNode) (R' := rApiNode) (a := (ApiNode.mk 0 [] [] 0 0 0 0 0 [])) (y := x21) 2 Tryz.sizeOf24 (Upd.refl _) ?_
      refine W_rs ?_
      refine rq (out := Pr.pt b22 3) (qFieldP fld24_3) ?_
      refine rStore (R := rApiNode) (R' := Rp.int .i64) (a := x21) (y := 1) 2 Tryz.sizeOf2 updApiNode_N ?_
      refine W_join (fun e C => ∃ (x23 : Ref12Wrong), ref12_primary_j4 R x21 x2 x23 = some r ∧ At [(6, Pr.pt b4 0), (7, Pr.i64 (w64 (x2 + 1))), (8, Pr.pt b5 0)] [Own.box b4 rApiNode ({ x21 with N := 1 }), Own.box b5 rRef12Wrong x23, Own.box b22 rApiNode ({ x21 with N := 1 })] e C) ?_ ?_
      · rintro e C ⟨x23, h, hat4⟩
        refine W_at hat4 ?_
        clear hat4
        unfold ref12_primary_j4 at h
        obtain rfl := Option.some.inj h
        exact W_ret ⟨rfl, [(rApiNode).val ({ x21 with N := 1 }), Pr.i64 (w64 (x2 + 1)), (rRef12Wrong).val x23], ⟨yBox 0 ty24 Pr.le_rfl, yT Pr.le_rfl, yBox 1 ty59 Pr.le_rfl, trivial⟩, Pr.le_rfl⟩
      · obtain ⟨x23, hx23, h⟩ := bindSome h
        refine W_drawEx [(4, 0, Own.box b4 rApiNode ({ x21 with N := 1 })), (6, 1, Own.box b5 rRef12Wrong x23)] [Own.box b4 rApiNode ({ x21 with N := 1 }), Own.box b5 rRef12Wrong x23, Own.box b22 rApiNode ({ x21 with N := 1 })] hmx (by kernel_rfl) (by kernel_rfl) (show ([4, 6] : List Nat).Nodup by decide) (show ([0, 1] : List Nat).Nodup by decide) rfl rfl ?_
        refine eq1 (out := (rApiNode).val ({ x21 with N := 1 })) (fun C2 hC => (qLoad (R := rApiNode) (a := { x21 with N := 1 }) (R' := rApiNode) 2 ty24 (Sub.refl _) (hi := (hC 2 (by kernel_rfl)).trans rfl))) ?_
        refine eq1 (out := Pr.i64 x2) (fun C2 hC => qMove) ?_
        refine eq1 (out := Pr.i64 (w64 (x2 + 1))) (fun C2 hC => qInt) ?_
        refine eq1 (out := (rRef12Wrong).val x23) (fun C2 hC => (qCall (ref12_fine_ok  _ hx23))) ?_
        refine eqS (fun C2 hC => sStore (R := rApiNode) (R' := rApiNode) (a := (ApiNode.mk 0 [] [] 0 0 0 0 0 [])) (y := { x21 with N := 1 }) 0 Tryz.sizeOf24 (Upd.refl _) ((hC 0 (by kernel_rfl)).trans rfl)) ?_
        refine eq1 (out := Pr.i64 (w64 (x2 + 1))) (fun C2 hC => qAssign) ?_
        refine eqS (fun C2 hC => sStore (R := rRef12Wrong) (R' := rRef12Wrong) (a := (Ref12Wrong.mk 0 0)) (y := x23) 1 Tryz.sizeOf59 (Upd.refl _) ((hC 1 (by kernel_rfl)).trans rfl)) ?_
        exact ⟨x23, h, ⟨⟨Pr.le_rfl, Pr.le_rfl, Pr.le_rfl, trivial⟩, Pick.refl _⟩⟩
    · replace h := iteF hc20 h
      refine W_rs ?_
      refine rq (out := Pr.lst rApiToken x1) qMove ?_
      refine rq (out := Pr.i64 x2) qMove ?_
      obtain ⟨x24, hx24, h⟩ := bindSome h
      refine rq (out := Pr.bool x24) (qCall (ref12_is_ok x1 x2 ([102, 97, 108, 115, 101] : List UInt8) _ hx24)) ?_
      refine rq (out := Pr.bool x24) qAssign ?_
      refine W_cond (b := x24) rfl (fun hc25 => ?_) (fun hc25 => ?_)
      · replace h := iteT hc25 h
        refine W_rs ?_
        refine rq (out := Pr.lst rApiToken x1) qMove ?_
        refine rq (out := Pr.i64 x2) qMove ?_
        refine rq (out := Pr.i64 x2) qMove ?_
        refine rq (out := Pr.i64 (w64 (x2 + 1))) qInt ?_
        obtain ⟨x26, hx26, h⟩ := bindSome h
        refine rq (out := (rApiNode).val x26) (qCall' (ref12_made_ok x1 14 x2 (w64 (x2 + 1)) [] _ hx26) ⟨Pr.le_rfl, Pr.le_rfl, Pr.le_rfl, Pr.le_rfl, Pr.lst_nil _, trivial⟩) ?_
        refine rq (out := Pr.i64 x2) qMove ?_
        refine rq (out := Pr.i64 (w64 (x2 + 1))) qInt ?_
        obtain ⟨x27, hx27, h⟩ := bindSome h
        refine rq (out := (rRef12Wrong).val x27) (qCall (ref12_fine_ok  _ hx27)) ?_
        refine rStore (R := rApiNode) (R' := rApiNode) (a := (ApiNode.mk 0 [] [] 0 0 0 0 0 [])) (y := x26) 0 Tryz.sizeOf24 (Upd.refl _) ?_
        refine rq (out := Pr.i64 (w64 (x2 + 1))) qAssign ?_
        refine rStore (R := rRef12Wrong) (R' := rRef12Wrong) (a := (Ref12Wrong.mk 0 0)) (y := x27) 1 Tryz.sizeOf59 (Upd.refl _) ?_
        obtain rfl := Option.some.inj h
        exact W_ret ⟨rfl, [(rApiNode).val x26, Pr.i64 (w64 (x2 + 1)), (rRef12Wrong).val x27], ⟨yBox 0 ty24 Pr.le_rfl, yT Pr.le_rfl, yBox 1 ty59 Pr.le_rfl, trivial⟩, Pr.le_rfl⟩
      · replace h := iteF hc25 h
        refine W_rs ?_
        refine rq (out := Pr.lst rApiToken x1) qMove ?_
        refine rq (out := Pr.i64 x2) qMove ?_
        obtain ⟨x28, hx28, h⟩ := bindSome h
        refine rq (out := Pr.bool x28) (qCall (ref12_is_ok x1 x2 ([110, 117, 108, 108] : List UInt8) _ hx28)) ?_
        refine rq (out := Pr.bool x28) qAssign ?_
        refine W_cond (b := x28) rfl (fun hc29 => ?_) (fun hc29 => ?_)
        · replace h := iteT hc29 h
          refine W_rs ?_
          refine rq (out := Pr.lst rApiToken x1) qMove ?_
          refine rq (out := Pr.i64 x2) qMove ?_
          refine rq (out := Pr.i64 x2) qMove ?_
          refine rq (out := Pr.i64 (w64 (x2 + 1))) qInt ?_
          obtain ⟨x30, hx30, h⟩ := bindSome h
          refine rq (out := (rApiNode).val x30) (qCall' (ref12_made_ok x1 15 x2 (w64 (x2 + 1)) [] _ hx30) ⟨Pr.le_rfl, Pr.le_rfl, Pr.le_rfl, Pr.le_rfl, Pr.lst_nil _, trivial⟩) ?_
          refine rq (out := Pr.i64 x2) qMove ?_
          refine rq (out := Pr.i64 (w64 (x2 + 1))) qInt ?_
          obtain ⟨x31, hx31, h⟩ := bindSome h
          refine rq (out := (rRef12Wrong).val x31) (qCall (ref12_fine_ok  _ hx31)) ?_
          refine rStore (R := rApiNode) (R' := rApiNode) (a := (ApiNode.mk 0 [] [] 0 0 0 0 0 [])) (y := x30) 0 Tryz.sizeOf24 (Upd.refl _) ?_
          refine rq (out := Pr.i64 (w64 (x2 + 1))) qAssign ?_
          refine rStore (R := rRef12Wrong) (R' := rRef12Wrong) (a := (Ref12Wrong.mk 0 0)) (y := x31) 1 Tryz.sizeOf59 (Upd.refl _) ?_
          obtain rfl := Option.some.inj h
          exact W_ret ⟨rfl, [(rApiNode).val x30, Pr.i64 (w64 (x2 + 1)), (rRef12Wrong).val x31], ⟨yBox 0 ty24 Pr.le_rfl, yT Pr.le_rfl, yBox 1 ty59 Pr.le_rfl, trivial⟩, Pr.le_rfl⟩
        · replace h := iteF hc29 h
          refine W_rs ?_
          refine rq (out := Pr.lst rApiToken x1) qMove ?_
          refine rq (out := Pr.i64 x2) qMove ?_
          obtain ⟨x32, hx32, h⟩ := bindSome h
          refine rq (out := Pr.bool x32) (qCall (ref12_is_ok x1 x2 ([116, 104, 105, 115] : List UInt8) _ hx32)) ?_
          refine rq (out := Pr.bool x32) qAssign ?_
          refine W_cond (b := x32) rfl (fun hc33 => ?_) (fun hc33 => ?_)
          · replace h := iteT hc33 h
            refine W_rs ?_
            refine rq (out := Pr.lst rApiToken x1) qMove ?_
            refine rq (out := Pr.i64 x2) qMove ?_
            refine rq (out := Pr.i64 x2) qMove ?_
            refine rq (out := Pr.i64 (w64 (x2 + 1))) qInt ?_
            obtain ⟨x34, hx34, h⟩ := bindSome h
            refine rq (out := (rApiNode).val x34) (qCall' (ref12_made_ok x1 16 x2 (w64 (x2 + 1)) [] _ hx34) ⟨Pr.le_rfl, Pr.le_rfl, Pr.le_rfl, Pr.le_rfl, Pr.lst_nil _, trivial⟩) ?_
            refine rq (out := Pr.i64 x2) qMove ?_
            refine rq (out := Pr.i64 (w64 (x2 + 1))) qInt ?_
            obtain ⟨x35, hx35, h⟩ := bindSome h
            refine rq (out := (rRef12Wrong).val x35) (qCall (ref12_fine_ok  _ hx35)) ?_
            refine rStore (R := rApiNode) (R' := rApiNode) (a := (ApiNode.mk 0 [] [] 0 0 0 0 0 [])) (y := x34) 0 Tryz.sizeOf24 (Upd.refl _) ?_
            refine rq (out := Pr.i64 (w64 (x2 + 1))) qAssign ?_
            refine rStore (R := rRef12Wrong) (R' := rRef12Wrong) (a := (Ref12Wrong.mk 0 0)) (y := x35) 1 Tryz.sizeOf59 (Upd.refl _) ?_
            obtain rfl := Option.some.inj h
            exact W_ret ⟨rfl, [(rApiNode).val x34, Pr.i64 (w64 (x2 + 1)), (rRef12Wrong).val x35], ⟨yBox 0 ty24 Pr.le_rfl, yT Pr.le_rfl, yBox 1 ty59 Pr.le_rfl, trivial⟩, Pr.le_rfl⟩
          · replace h := iteF hc33 h
            refine W_rs ?_
            refine rq (out := Pr.lst rApiToken x1) qMove ?_
            refine rq (out := Pr.i64 x2) qMove ?_
            obtain ⟨x36, hx36, h⟩ := bindSome h
            refine rq (out := Pr.bool x36) (qCall (ref12_is_ok x1 x2 ([110, 101, 119] : List UInt8) _ hx36)) ?_
            refine rq (out := Pr.bool x36) qAssign ?_
            refine W_cond (b := x36) rfl (fun hc37 => ?_) (fun hc37 => ?_)
            · replace h := iteT hc37 h
              refine W_seq ?_
              refine W_rs ?_
              refine rq (out := Pr.lst rApiToken x1) qMove ?_
              refine rq (out := Pr.i64 x2) qMove ?_
              refine rq (out := Pr.i64 (w64 (x2 + 1))) qInt ?_
              obtain ⟨x38, hx38, h⟩ := bindSome h
              refine rq (out := Pr.bool x38) (qCall (ref12_name_ok x1 (w64 (x2 + 1)) _ hx38)) ?_
              refine rq (out := Pr.bool (!x38)) qNot ?_
              refine W_cond (b := !x38) rfl (fun hc39 => ?_) (fun hc39 => ?_)
              · replace h := iteT hc39 h
                refine W_rs ?_
                refine rq (out := (rApiNode).val (ApiNode.mk 0 [] [] 0 0 0 0 0 [])) (qBuildR rApiNode_eq st24 rfl) ?_
                refine rq (out := Pr.i64 x2) qMove ?_
                refine rq (out := Pr.i64 (w64 (x2 + 1))) qInt ?_
                obtain ⟨x40, hx40, h⟩ := bindSome h
                refine rq (out := (rRef12Wrong).val x40) (qCall (ref12_syntax_ok (w64 (x2 + 1)) _ hx40)) ?_
                refine rStore (R := rApiNode) (R' := rApiNode) (a := (ApiNode.mk 0 [] [] 0 0 0 0 0 [])) (y := (ApiNode.mk 0 [] [] 0 0 0 0 0 [])) 0 Tryz.sizeOf24 (Upd.refl _) ?_
                refine rq (out := Pr.i64 0) qAssign ?_
                refine rStore (R := rRef12Wrong) (R' := rRef12Wrong) (a := (Ref12Wrong.mk 0 0)) (y := x40) 1 Tryz.sizeOf59 (Upd.refl _) ?_
                obtain rfl := Option.some.inj h
                exact W_ret ⟨rfl, [(rApiNode).val (ApiNode.mk 0 [] [] 0 0 0 0 0 []), Pr.i64 0, (rRef12Wrong).val x40], ⟨yBox 0 ty24 Pr.le_rfl, yT Pr.le_rfl, yBox 1 ty59 Pr.le_rfl, trivial⟩, Pr.le_rfl⟩
              · replace h := iteF hc39 h
                refine W_skip ?_
                refine W_seq ?_
                refine W_rs ?_
                refine rq (out := Pr.lst rApiToken x1) qMove ?_
                refine rq (out := Pr.i64 x2) qMove ?_
                refine rq (out := Pr.i64 (w64 (x2 + 2))) qInt ?_
                obtain ⟨x41, hx41, h⟩ := bindSome h
                refine rq (out := Pr.bool x41) (qCall (ref12_is_ok x1 (w64 (x2 + 2)) ([40] : List UInt8) _ hx41)) ?_
                refine rq (out := Pr.bool (!x41)) qNot ?_
                refine W_cond (b := !x41) rfl (fun hc42 => ?_) (fun hc42 => ?_)
                · replace h := iteT hc42 h
                  refine W_rs ?_
                  refine rq (out := (rApiNode).val (ApiNode.mk 0 [] [] 0 0 0 0 0 [])) (qBuildR rApiNode_eq st24 rfl) ?_
                  refine rq (out := Pr.i64 x2) qMove ?_
                  refine rq (out := Pr.i64 (w64 (x2 + 2))) qInt ?_
                  obtain ⟨x43, hx43, h⟩ := bindSome h
                  refine rq (out := (rRef12Wrong).val x43) (qCall (ref12_syntax_ok (w64 (x2 + 2)) _ hx43)) ?_
                  refine rStore (R := rApiNode) (R' := rApiNode) (a := (ApiNode.mk 0 [] [] 0 0 0 0 0 [])) (y := (ApiNode.mk 0 [] [] 0 0 0 0 0 [])) 0 Tryz.sizeOf24 (Upd.refl _) ?_
                  refine rq (out := Pr.i64 0) qAssign ?_
                  refine rStore (R := rRef12Wrong) (R' := rRef12Wrong) (a := (Ref12Wrong.mk 0 0)) (y := x43) 1 Tryz.sizeOf59 (Upd.refl _) ?_
                  obtain rfl := Option.some.inj h
                  exact W_ret ⟨rfl, [(rApiNode).val (ApiNode.mk 0 [] [] 0 0 0 0 0 []), Pr.i64 0, (rRef12Wrong).val x43], ⟨yBox 0 ty24 Pr.le_rfl, yT Pr.le_rfl, yBox 1 ty59 Pr.le_rfl, trivial⟩, Pr.le_rfl⟩
                · replace h := iteF hc42 h
                  refine W_skip ?_
                  refine W_seq ?_
                  refine W_rs ?_
                  refine rq (out := Pr.lst rApiToken x1) qMove ?_
                  refine rq (out := Pr.i64 x2) qMove ?_
                  refine rq (out := Pr.i64 (w64 (x2 + 3))) qInt ?_
                  obtain ⟨x44, hx44, h⟩ := bindSome h
                  refine rq (out := Pr.bool x44) (qCall (ref12_is_ok x1 (w64 (x2 + 3)) ([41] : List UInt8) _ hx44)) ?_
                  refine rq (out := Pr.bool (!x44)) qNot ?_
                  refine W_cond (b := !x44) rfl (fun hc45 => ?_) (fun hc45 => ?_)
                  · replace h := iteT hc45 h
                    refine W_rs ?_
                    refine rq (out := (rApiNode).val (ApiNode.mk 0 [] [] 0 0 0 0 0 [])) (qBuildR rApiNode_eq st24 rfl) ?_
                    refine rq (out := Pr.i64 x2) qMove ?_
                    refine rq (out := Pr.i64 (w64 (x2 + 3))) qInt ?_
                    obtain ⟨x46, hx46, h⟩ := bindSome h
                    refine rq (out := (rRef12Wrong).val x46) (qCall (ref12_syntax_ok (w64 (x2 + 3)) _ hx46)) ?_
                    refine rStore (R := rApiNode) (R' := rApiNode) (a := (ApiNode.mk 0 [] [] 0 0 0 0 0 [])) (y := (ApiNode.mk 0 [] [] 0 0 0 0 0 [])) 0 Tryz.sizeOf24 (Upd.refl _) ?_
                    refine rq (out := Pr.i64 0) qAssign ?_
                    refine rStore (R := rRef12Wrong) (R' := rRef12Wrong) (a := (Ref12Wrong.mk 0 0)) (y := x46) 1 Tryz.sizeOf59 (Upd.refl _) ?_
                    obtain rfl := Option.some.inj h
                    exact W_ret ⟨rfl, [(rApiNode).val (ApiNode.mk 0 [] [] 0 0 0 0 0 []), Pr.i64 0, (rRef12Wrong).val x46], ⟨yBox 0 ty24 Pr.le_rfl, yT Pr.le_rfl, yBox 1 ty59 Pr.le_rfl, trivial⟩, Pr.le_rfl⟩
                  · replace h := iteF hc45 h
                    refine W_skip ?_
                    refine W_rs ?_
                    refine rq (out := Pr.lst rApiToken x1) qMove ?_
                    refine rq (out := Pr.i64 x2) qMove ?_
                    refine rq (out := Pr.i64 x2) qMove ?_
                    refine rq (out := Pr.i64 (w64 (x2 + 4))) qInt ?_
                    obtain ⟨x47, hx47, h⟩ := bindSome h
                    refine rq (out := (rApiNode).val x47) (qCall' (ref12_made_ok x1 21 x2 (w64 (x2 + 4)) [] _ hx47) ⟨Pr.le_rfl, Pr.le_rfl, Pr.le_rfl, Pr.le_rfl, Pr.lst_nil _, trivial⟩) ?_
                    refine rAlloc (R := rApiNode) (z := (ApiNode.mk 0 [] [] 0 0 0 0 0 [])) Tryz.zeroValue24 (fun _ => (by rw [rApiNode_eq]; exact ⟨_, ⟨_, _, rfl, rfl, ⟨_, _, rfl, rfl, ⟨_, _, rfl, rfl, ⟨_, _, rfl, rfl, ⟨_, _, rfl, rfl, ⟨_, _, rfl, rfl, ⟨_, _, rfl, rfl, ⟨_, _, rfl, rfl, ⟨_, _, rfl, ⟨_, rfl, none, 0, rfl, ⟨Nat.le_refl _, fun _ => rfl⟩, .inl rfl⟩, rfl⟩⟩⟩⟩⟩⟩⟩⟩⟩, rfl⟩)) (fun b48 => ?_)
                    refine rStore (R := rApiNode) (R' := rApiNode) (a := (ApiNode.mk 0 [] [] 0 0 0 0 0 [])) (y := x47) 2 Tryz.sizeOf24 (Upd.refl _) ?_
                    refine W_rs ?_
                    refine rq (out := Pr.lst rApiToken x1) qMove ?_
                    refine rq (out := Pr.i64 x2) qMove ?_
                    refine rq (out := Pr.i64 (w64 (x2 + 1))) qInt ?_
                    obtain ⟨x49, hx49, h⟩ := bindSome h
                    refine rq (out := Pr.cpt rApiToken x49) (qIdxA (R := rApiToken) (l := x1) Tryz.underlying52 Tryz.sizeOf56 hx49) ?_
                    refine rq (out := Pr.cpt Rp.str x49.Text) (qFieldC (R := rApiToken) (a := x49) fld56_1 subApiToken_Text) ?_
                    refine rq (out := Pr.str x49.Text) (qLoadC (R := Rp.str) (a := x49.Text) ty9) ?_
                    refine rq (out := Pr.pt b48 1) (qFieldP fld24_1) ?_
                    refine rStore (R := rApiNode) (R' := Rp.str) (a := x47) (y := x49.Text) 2 Tryz.sizeOf9 updApiNode_Text ?_
                    refine W_rs ?_
                    refine rq (out := Pr.lst rApiToken x1) qMove ?_
                    refine rq (out := Pr.i64 x2) qMove ?_
                    refine rq (out := Pr.i64 (w64 (x2 + 1))) qInt ?_
                    obtain ⟨x50, hx50, h⟩ := bindSome h
                    refine rq (out := Pr.cpt rApiToken x50) (qIdxA (R := rApiToken) (l := x1) Tryz.underlying52 Tryz.sizeOf56 hx50) ?_
                    refine rq (out := Pr.cpt (Rp.int .i64) x50.At) (qFieldC (R := rApiToken) (a := x50) fld56_2 subApiToken_At) ?_
                    refine rq (out := Pr.i64 x50.At) (qLoadC (R := Rp.int .i64) (a := x50.At) ty3) ?_
                    refine rq (out := Pr.pt b48 6) (qFieldP fld24_6) ?_
                    refine rStore (R := rApiNode) (R' := Rp.int .i64) (a := { x47 with Text := x49.Text }) (y := x50.At) 2 Tryz.sizeOf3 updApiNode_At ?_
                    refine W_join (fun e C => ∃ (x51 : Ref12Wrong), ref12_primary_j5 R x47 x49 x50 x2 x51 = some r ∧ At [(6, Pr.pt b4 0), (7, Pr.i64 (w64 (x2 + 4))), (8, Pr.pt b5 0)] [Own.box b4 rApiNode ({ { x47 with Text := x49.Text } with At := x50.At }), Own.box b5 rRef12Wrong x51, Own.box b48 rApiNode ({ { x47 with Text := x49.Text } with At := x50.At })] e C) ?_ ?_
                    · rintro e C ⟨x51, h, hat5⟩
                      refine W_at hat5 ?_
                      clear hat5
                      unfold ref12_primary_j5 at h
                      obtain rfl := Option.some.inj h
                      exact W_ret ⟨rfl, [(rApiNode).val ({ { x47 with Text := x49.Text } with At := x50.At }), Pr.i64 (w64 (x2 + 4)), (rRef12Wrong).val x51], ⟨yBox 0 ty24 Pr.le_rfl, yT Pr.le_rfl, yBox 1 ty59 Pr.le_rfl, trivial⟩, Pr.le_rfl⟩
                    · obtain ⟨x51, hx51, h⟩ := bindSome h
                      refine W_drawEx [(4, 0, Own.box b4 rApiNode ({ { x47 with Text := x49.Text } with At := x50.At })), (6, 1, Own.box b5 rRef12Wrong x51)] [Own.box b4 rApiNode ({ { x47 with Text := x49.Text } with At := x50.At }), Own.box b5 rRef12Wrong x51, Own.box b48 rApiNode ({ { x47 with Text := x49.Text } with At := x50.At })] hmx (by kernel_rfl) (by kernel_rfl) (show ([4, 6] : List Nat).Nodup by decide) (show ([0, 1] : List Nat).Nodup by decide) rfl rfl ?_
                      refine eq1 (out := (rApiNode).val ({ { x47 with Text := x49.Text } with At := x50.At })) (fun C2 hC => (qLoad (R := rApiNode) (a := { { x47 with Text := x49.Text } with At := x50.At }) (R' := rApiNode) 2 ty24 (Sub.refl _) (hi := (hC 2 (by kernel_rfl)).trans rfl))) ?_
                      refine eq1 (out := Pr.i64 x2) (fun C2 hC => qMove) ?_
                      refine eq1 (out := Pr.i64 (w64 (x2 + 4))) (fun C2 hC => qInt) ?_
                      refine eq1 (out := (rRef12Wrong).val x51) (fun C2 hC => (qCall (ref12_fine_ok  _ hx51))) ?_
                      refine eqS (fun C2 hC => sStore (R := rApiNode) (R' := rApiNode) (a := (ApiNode.mk 0 [] [] 0 0 0 0 0 [])) (y := { { x47 with Text := x49.Text } with At := x50.At }) 0 Tryz.sizeOf24 (Upd.refl _) ((hC 0 (by kernel_rfl)).trans rfl)) ?_
                      refine eq1 (out := Pr.i64 (w64 (x2 + 4))) (fun C2 hC => qAssign) ?_
                      refine eqS (fun C2 hC => sStore (R := rRef12Wrong) (R' := rRef12Wrong) (a := (Ref12Wrong.mk 0 0)) (y := x51) 1 Tryz.sizeOf59 (Upd.refl _) ((hC 1 (by kernel_rfl)).trans rfl)) ?_
                      exact ⟨x51, h, ⟨⟨Pr.le_rfl, Pr.le_rfl, Pr.le_rfl, trivial⟩, Pick.refl _⟩⟩
            · replace h := iteF hc37 h
              refine W_rs ?_
              refine rq (out := Pr.lst rApiToken x1) qMove ?_
              refine rq (out := Pr.i64 x2) qMove ?_
              obtain ⟨x52, hx52, h⟩ := bindSome h
              refine rq (out := Pr.bool x52) (qCall (ref12_is_ok x1 x2 ([40] : List UInt8) _ hx52)) ?_
              refine rq (out := Pr.bool x52) qAssign ?_
              refine W_cond (b := x52) rfl (fun hc53 => ?_) (fun hc53 => ?_)
              · replace h := iteT hc53 h
                refine W_rs ?_
                refine rq (out := Pr.lst rApiToken x1) qMove ?_
                refine rq (out := Pr.i64 x2) qMove ?_
                refine rq (out := Pr.i64 (w64 (x2 + 1))) qInt ?_
                refine rq (out := Pr.i64 x3) qMove ?_
                obtain ⟨⟨x54, x55, x56⟩, hx54, h⟩ := bindSome h
                refine rq (out := Pr.tup [(rApiNode).val x54, Pr.i64 x55, (rRef12Wrong).val x56]) (qCall (ih.1 x1 (w64 (x2 + 1)) x3 _ hx54)) ?_
                refine rq (out := Pr.tup [(rApiNode).val x54, Pr.i64 x55, (rRef12Wrong).val x56]) qMove ?_
                refine rq (out := (rApiNode).val x54) qExtract ?_
                refine rq (out := Pr.i64 x55) qExtract ?_
                refine rq (out := (rRef12Wrong).val x56) qExtract ?_
                refine rAlloc (R := rApiNode) (z := (ApiNode.mk 0 [] [] 0 0 0 0 0 [])) Tryz.zeroValue24 (fun _ => (by rw [rApiNode_eq]; exact ⟨_, ⟨_, _, rfl, rfl, ⟨_, _, rfl, rfl, ⟨_, _, rfl, rfl, ⟨_, _, rfl, rfl, ⟨_, _, rfl, rfl, ⟨_, _, rfl, rfl, ⟨_, _, rfl, rfl, ⟨_, _, rfl, rfl, ⟨_, _, rfl, ⟨_, rfl, none, 0, rfl, ⟨Nat.le_refl _, fun _ => rfl⟩, .inl rfl⟩, rfl⟩⟩⟩⟩⟩⟩⟩⟩⟩, rfl⟩)) (fun b57 => ?_)
                refine rAlloc (R := rRef12Wrong) (z := (Ref12Wrong.mk 0 0)) Tryz.zeroValue59 (fun _ => ⟨_, ⟨_, _, rfl, rfl, ⟨_, _, rfl, rfl, rfl⟩⟩, rfl⟩) (fun b58 => ?_)
                refine rStore (R := rApiNode) (R' := rApiNode) (a := (ApiNode.mk 0 [] [] 0 0 0 0 0 [])) (y := x54) 2 Tryz.sizeOf24 (Upd.refl _) ?_
                refine rq (out := Pr.i64 x55) qAssign ?_
                refine rStore (R := rRef12Wrong) (R' := rRef12Wrong) (a := (Ref12Wrong.mk 0 0)) (y := x56) 3 Tryz.sizeOf59 (Upd.refl _) ?_
                refine W_seq ?_
                refine W_rs ?_
                refine rq (out := Pr.pt b58 0) (qFieldP fld59_0) ?_
                refine rq (out := Pr.i64 x56.Place) (qLoad (R := rRef12Wrong) (a := x56) (R' := Rp.int .i64) 3 ty3 subRef12Wrong_Place) ?_
                refine rq (out := Pr.bool (decide (x56.Place ≥ 0))) qInt ?_
                refine W_cond (b := decide (x56.Place ≥ 0)) rfl (fun hc59 => ?_) (fun hc59 => ?_)
                · replace h := iteT hc59 h
                  refine W_join (fun e C => ref12_primary_j6 R x56 = some r ∧ At [(6, Pr.pt b4 0), (7, Pr.i64 0), (8, Pr.pt b5 0)] [Own.box b4 rApiNode (ApiNode.mk 0 [] [] 0 0 0 0 0 []), Own.box b5 rRef12Wrong x56, Own.box b57 rApiNode x54, Own.box b58 rRef12Wrong x56] e C) ?_ ?_
                  · rintro e C ⟨h, hat6⟩
                    refine W_at hat6 ?_
                    clear hat6
                    unfold ref12_primary_j6 at h
                    obtain rfl := Option.some.inj h
                    exact W_ret ⟨rfl, [(rApiNode).val (ApiNode.mk 0 [] [] 0 0 0 0 0 []), Pr.i64 0, (rRef12Wrong).val x56], ⟨yBox 0 ty24 Pr.le_rfl, yT Pr.le_rfl, yBox 1 ty59 Pr.le_rfl, trivial⟩, Pr.le_rfl⟩
                  · refine W_drawEx [(2, 0, Own.box b4 rApiNode (ApiNode.mk 0 [] [] 0 0 0 0 0 [])), (4, 1, Own.box b5 rRef12Wrong x56)] [Own.box b4 rApiNode (ApiNode.mk 0 [] [] 0 0 0 0 0 []), Own.box b5 rRef12Wrong x56, Own.box b57 rApiNode x54, Own.box b58 rRef12Wrong x56] hmx (by kernel_rfl) (by kernel_rfl) (show ([2, 4] : List Nat).Nodup by decide) (show ([0, 1] : List Nat).Nodup by decide) rfl rfl ?_
                    refine eq1 (out := (rApiNode).val (ApiNode.mk 0 [] [] 0 0 0 0 0 [])) (fun C2 hC => (qBuildR rApiNode_eq st24 rfl)) ?_
                    refine eq1 (out := (rRef12Wrong).val x56) (fun C2 hC => (qLoad (R := rRef12Wrong) (a := x56) (R' := rRef12Wrong) 3 ty59 (Sub.refl _) (hi := (hC 3 (by kernel_rfl)).trans rfl))) ?_
                    refine eqS (fun C2 hC => sStore (R := rApiNode) (R' := rApiNode) (a := (ApiNode.mk 0 [] [] 0 0 0 0 0 [])) (y := (ApiNode.mk 0 [] [] 0 0 0 0 0 [])) 0 Tryz.sizeOf24 (Upd.refl _) ((hC 0 (by kernel_rfl)).trans rfl)) ?_
                    refine eq1 (out := Pr.i64 0) (fun C2 hC => qAssign) ?_
                    refine eqS (fun C2 hC => sStore (R := rRef12Wrong) (R' := rRef12Wrong) (a := (Ref12Wrong.mk 0 0)) (y := x56) 1 Tryz.sizeOf59 (Upd.refl _) ((hC 1 (by kernel_rfl)).trans rfl)) ?_
                    exact ⟨h, ⟨⟨Pr.le_rfl, Pr.le_rfl, Pr.le_rfl, trivial⟩, Pick.refl _⟩⟩
                · replace h := iteF hc59 h
                  refine W_skip ?_
                  refine W_seq ?_
                  refine W_rs ?_
                  refine rq (out := Pr.lst rApiToken x1) qMove ?_
                  refine rq (out := Pr.i64 x55) qMove ?_
                  obtain ⟨x60, hx60, h⟩ := bindSome h
                  refine rq (out := Pr.bool x60) (qCall (ref12_is_ok x1 x55 ([41] : List UInt8) _ hx60)) ?_
                  refine rq (out := Pr.bool (!x60)) qNot ?_
                  refine W_cond (b := !x60) rfl (fun hc61 => ?_) (fun hc61 => ?_)
                  · replace h := iteT hc61 h
                    refine W_rs ?_
                    refine rq (out := (rApiNode).val (ApiNode.mk 0 [] [] 0 0 0 0 0 [])) (qBuildR rApiNode_eq st24 rfl) ?_
                    refine rq (out := Pr.i64 x55) qMove ?_
                    obtain ⟨x62, hx62, h⟩ := bindSome h
                    refine rq (out := (rRef12Wrong).val x62) (qCall (ref12_syntax_ok x55 _ hx62)) ?_
                    refine rStore (R := rApiNode) (R' := rApiNode) (a := (ApiNode.mk 0 [] [] 0 0 0 0 0 [])) (y := (ApiNode.mk 0 [] [] 0 0 0 0 0 [])) 0 Tryz.sizeOf24 (Upd.refl _) ?_
                    refine rq (out := Pr.i64 0) qAssign ?_
                    refine rStore (R := rRef12Wrong) (R' := rRef12Wrong) (a := (Ref12Wrong.mk 0 0)) (y := x62) 1 Tryz.sizeOf59 (Upd.refl _) ?_
                    obtain rfl := Option.some.inj h
                    exact W_ret ⟨rfl, [(rApiNode).val (ApiNode.mk 0 [] [] 0 0 0 0 0 []), Pr.i64 0, (rRef12Wrong).val x62], ⟨yBox 0 ty24 Pr.le_rfl, yT Pr.le_rfl, yBox 1 ty59 Pr.le_rfl, trivial⟩, Pr.le_rfl⟩
                  · replace h := iteF hc61 h
                    refine W_skip ?_
                    refine W_join (fun e C => ∃ (x63 : Ref12Wrong), ref12_primary_j7 R x54 x55 x63 = some r ∧ At [(6, Pr.pt b4 0), (7, Pr.i64 (w64 (x55 + 1))), (8, Pr.pt b5 0)] [Own.box b4 rApiNode x54, Own.box b5 rRef12Wrong x63, Own.box b57 rApiNode x54, Own.box b58 rRef12Wrong x56] e C) ?_ ?_
                    · rintro e C ⟨x63, h, hat7⟩
                      refine W_at hat7 ?_
                      clear hat7
                      unfold ref12_primary_j7 at h
                      obtain rfl := Option.some.inj h
                      exact W_ret ⟨rfl, [(rApiNode).val x54, Pr.i64 (w64 (x55 + 1)), (rRef12Wrong).val x63], ⟨yBox 0 ty24 Pr.le_rfl, yT Pr.le_rfl, yBox 1 ty59 Pr.le_rfl, trivial⟩, Pr.le_rfl⟩
                    · obtain ⟨x63, hx63, h⟩ := bindSome h
                      refine W_drawEx [(4, 0, Own.box b4 rApiNode x54), (6, 1, Own.box b5 rRef12Wrong x63)] [Own.box b4 rApiNode x54, Own.box b5 rRef12Wrong x63, Own.box b57 rApiNode x54, Own.box b58 rRef12Wrong x56] hmx (by kernel_rfl) (by kernel_rfl) (show ([4, 6] : List Nat).Nodup by decide) (show ([0, 1] : List Nat).Nodup by decide) rfl rfl ?_
                      refine eq1 (out := (rApiNode).val x54) (fun C2 hC => (qLoad (R := rApiNode) (a := x54) (R' := rApiNode) 2 ty24 (Sub.refl _) (hi := (hC 2 (by kernel_rfl)).trans rfl))) ?_
                      refine eq1 (out := Pr.i64 x55) (fun C2 hC => qMove) ?_
                      refine eq1 (out := Pr.i64 (w64 (x55 + 1))) (fun C2 hC => qInt) ?_
                      refine eq1 (out := (rRef12Wrong).val x63) (fun C2 hC => (qCall (ref12_fine_ok  _ hx63))) ?_
                      refine eqS (fun C2 hC => sStore (R := rApiNode) (R' := rApiNode) (a := (ApiNode.mk 0 [] [] 0 0 0 0 0 [])) (y := x54) 0 Tryz.sizeOf24 (Upd.refl _) ((hC 0 (by kernel_rfl)).trans rfl)) ?_
                      refine eq1 (out := Pr.i64 (w64 (x55 + 1))) (fun C2 hC => qAssign) ?_
                      refine eqS (fun C2 hC => sStore (R := rRef12Wrong) (R' := rRef12Wrong) (a := (Ref12Wrong.mk 0 0)) (y := x63) 1 Tryz.sizeOf59 (Upd.refl _) ((hC 1 (by kernel_rfl)).trans rfl)) ?_
                      exact ⟨x63, h, ⟨⟨Pr.le_rfl, Pr.le_rfl, Pr.le_rfl, trivial⟩, Pick.refl _⟩⟩
              · replace h := iteF hc53 h
                refine W_rs ?_
                refine rq (out := Pr.lst rApiToken x1) qMove ?_
                refine rq (out := Pr.i64 x2) qMove ?_
                obtain ⟨x64, hx64, h⟩ := bindSome h
                refine rq (out := Pr.bool x64) (qCall (ref12_name_ok x1 x2 _ hx64)) ?_
                refine rq (out := Pr.bool x64) qAssign ?_
                refine W_cond (b := x64) rfl (fun hc65 => ?_) (fun hc65 => ?_)
                · replace h := iteT hc65 h
                  refine W_rs ?_
                  refine rq (out := Pr.lst rApiToken x1) qMove ?_
                  refine rq (out := Pr.i64 x2) qMove ?_
                  refine rq (out := Pr.i64 x2) qMove ?_
                  refine rq (out := Pr.i64 (w64 (x2 + 1))) qInt ?_
                  obtain ⟨x66, hx66, h⟩ := bindSome h
                  refine rq (out := (rApiNode).val x66) (qCall' (ref12_made_ok x1 17 x2 (w64 (x2 + 1)) [] _ hx66) ⟨Pr.le_rfl, Pr.le_rfl, Pr.le_rfl, Pr.le_rfl, Pr.lst_nil _, trivial⟩) ?_
                  refine rAlloc (R := rApiNode) (z := (ApiNode.mk 0 [] [] 0 0 0 0 0 [])) Tryz.zeroValue24 (fun _ => (by rw [rApiNode_eq]; exact ⟨_, ⟨_, _, rfl, rfl, ⟨_, _, rfl, rfl, ⟨_, _, rfl, rfl, ⟨_, _, rfl, rfl, ⟨_, _, rfl, rfl, ⟨_, _, rfl, rfl, ⟨_, _, rfl, rfl, ⟨_, _, rfl, rfl, ⟨_, _, rfl, ⟨_, rfl, none, 0, rfl, ⟨Nat.le_refl _, fun _ => rfl⟩, .inl rfl⟩, rfl⟩⟩⟩⟩⟩⟩⟩⟩⟩, rfl⟩)) (fun b67 => ?_)
                  refine rStore (R := rApiNode) (R' := rApiNode) (a := (ApiNode.mk 0 [] [] 0 0 0 0 0 [])) (y := x66) 2 Tryz.sizeOf24 (Upd.refl _) ?_
                  refine W_rs ?_
                  refine rq (out := Pr.lst rApiToken x1) qMove ?_
                  refine rq (out := Pr.i64 x2) qMove ?_
                  obtain ⟨x68, hx68, h⟩ := bindSome h
                  refine rq (out := Pr.cpt rApiToken x68) (qIdxA (R := rApiToken) (l := x1) Tryz.underlying52 Tryz.sizeOf56 hx68) ?_
                  refine rq (out := Pr.cpt Rp.str x68.Text) (qFieldC (R := rApiToken) (a := x68) fld56_1 subApiToken_Text) ?_
                  refine rq (out := Pr.str x68.Text) (qLoadC (R := Rp.str) (a := x68.Text) ty9) ?_
                  refine rq (out := Pr.pt b67 1) (qFieldP fld24_1) ?_
                  refine rStore (R := rApiNode) (R' := Rp.str) (a := x66) (y := x68.Text) 2 Tryz.sizeOf9 updApiNode_Text ?_
                  refine W_rs ?_
                  refine rq (out := Pr.lst rApiToken x1) qMove ?_
                  refine rq (out := Pr.i64 x2) qMove ?_
                  obtain ⟨x69, hx69, h⟩ := bindSome h
                  refine rq (out := Pr.cpt rApiToken x69) (qIdxA (R := rApiToken) (l := x1) Tryz.underlying52 Tryz.sizeOf56 hx69) ?_
                  refine rq (out := Pr.cpt (Rp.int .i64) x69.At) (qFieldC (R := rApiToken) (a := x69) fld56_2 subApiToken_At) ?_
                  refine rq (out := Pr.i64 x69.At) (qLoadC (R := Rp.int .i64) (a := x69.At) ty3) ?_
                  refine rq (out := Pr.pt b67 6) (qFieldP fld24_6) ?_
                  refine rStore (R := rApiNode) (R' := Rp.int .i64) (a := { x66 with Text := x68.Text }) (y := x69.At) 2 Tryz.sizeOf3 updApiNode_At ?_
                  refine W_seq ?_
                  refine W_rs ?_
                  refine rq (out := Pr.lst rApiToken x1) qMove ?_
                  refine rq (out := Pr.i64 x2) qMove ?_
                  refine rq (out := Pr.i64 (w64 (x2 + 1))) qInt ?_
                  obtain ⟨x70, hx70, h⟩ := bindSome h
                  refine rq (out := Pr.bool x70) (qCall (ref12_is_ok x1 (w64 (x2 + 1)) ([40] : List UInt8) _ hx70)) ?_
                  refine rq (out := Pr.bool (!x70)) qNot ?_
                  refine W_cond (b := !x70) rfl (fun hc71 => ?_) (fun hc71 => ?_)
                  · replace h := iteT hc71 h
                    refine W_join (fun e C => ∃ (x72 : Ref12Wrong), ref12_primary_j8 R x66 x68 x69 x2 x72 = some r ∧ At [(6, Pr.pt b4 0), (7, Pr.i64 (w64 (x2 + 1))), (8, Pr.pt b5 0)] [Own.box b4 rApiNode ({ { x66 with Text := x68.Text } with At := x69.At }), Own.box b5 rRef12Wrong x72, Own.box b67 rApiNode ({ { x66 with Text := x68.Text } with At := x69.At })] e C) ?_ ?_
                    · rintro e C ⟨x72, h, hat8⟩
                      refine W_at hat8 ?_
                      clear hat8
                      unfold ref12_primary_j8 at h
                      obtain rfl := Option.some.inj h
                      exact W_ret ⟨rfl, [(rApiNode).val ({ { x66 with Text := x68.Text } with At := x69.At }), Pr.i64 (w64 (x2 + 1)), (rRef12Wrong).val x72], ⟨yBox 0 ty24 Pr.le_rfl, yT Pr.le_rfl, yBox 1 ty59 Pr.le_rfl, trivial⟩, Pr.le_rfl⟩
                    · obtain ⟨x72, hx72, h⟩ := bindSome h
                      refine W_drawEx [(4, 0, Own.box b4 rApiNode ({ { x66 with Text := x68.Text } with At := x69.At })), (6, 1, Own.box b5 rRef12Wrong x72)] [Own.box b4 rApiNode ({ { x66 with Text := x68.Text } with At := x69.At }), Own.box b5 rRef12Wrong x72, Own.box b67 rApiNode ({ { x66 with Text := x68.Text } with At := x69.At })] hmx (by kernel_rfl) (by kernel_rfl) (show ([4, 6] : List Nat).Nodup by decide) (show ([0, 1] : List Nat).Nodup by decide) rfl rfl ?_
                      refine eq1 (out := (rApiNode).val ({ { x66 with Text := x68.Text } with At := x69.At })) (fun C2 hC => (qLoad (R := rApiNode) (a := { { x66 with Text := x68.Text } with At := x69.At }) (R' := rApiNode) 2 ty24 (Sub.refl _) (hi := (hC 2 (by kernel_rfl)).trans rfl))) ?_
                      refine eq1 (out := Pr.i64 x2) (fun C2 hC => qMove) ?_
                      refine eq1 (out := Pr.i64 (w64 (x2 + 1))) (fun C2 hC => qInt) ?_
                      refine eq1 (out := (rRef12Wrong).val x72) (fun C2 hC => (qCall (ref12_fine_ok  _ hx72))) ?_
                      refine eqS (fun C2 hC => sStore (R := rApiNode) (R' := rApiNode) (a := (ApiNode.mk 0 [] [] 0 0 0 0 0 [])) (y := { { x66 with Text := x68.Text } with At := x69.At }) 0 Tryz.sizeOf24 (Upd.refl _) ((hC 0 (by kernel_rfl)).trans rfl)) ?_
                      refine eq1 (out := Pr.i64 (w64 (x2 + 1))) (fun C2 hC => qAssign) ?_
                      refine eqS (fun C2 hC => sStore (R := rRef12Wrong) (R' := rRef12Wrong) (a := (Ref12Wrong.mk 0 0)) (y := x72) 1 Tryz.sizeOf59 (Upd.refl _) ((hC 1 (by kernel_rfl)).trans rfl)) ?_
                      exact ⟨x72, h, ⟨⟨Pr.le_rfl, Pr.le_rfl, Pr.le_rfl, trivial⟩, Pick.refl _⟩⟩
                  · replace h := iteF hc71 h
                    refine W_skip ?_
                    refine W_rs ?_
                    refine rq (out := Pr.lst rApiToken x1) qMove ?_
                    refine rq (out := Pr.i64 x2) qMove ?_
                    refine rq (out := Pr.i64 (w64 (x2 + 2))) qInt ?_
                    refine rq (out := Pr.i64 x3) qMove ?_
                    obtain ⟨⟨x73, x74, x75⟩, hx73, h⟩ := bindSome h
                    refine rq (out := Pr.tup [Pr.lst rApiNode x73, Pr.i64 x74, (rRef12Wrong).val x75]) (qCall (ih.2.2.2.2 x1 (w64 (x2 + 2)) x3 _ hx73)) ?_
                    refine rq (out := Pr.tup [Pr.lst rApiNode x73, Pr.i64 x74, (rRef12Wrong).val x75]) qMove ?_
                    refine rq (out := Pr.lst rApiNode x73) qExtract ?_
                    refine rq (out := Pr.i64 x74) qExtract ?_
                    refine rq (out := (rRef12Wrong).val x75) qExtract ?_
                    refine rAlloc (R := rRef12Wrong) (z := (Ref12Wrong.mk 0 0)) Tryz.zeroValue59 (fun _ => ⟨_, ⟨_, _, rfl, rfl, ⟨_, _, rfl, rfl, rfl⟩⟩, rfl⟩) (fun b76 => ?_)
                    refine rq (out := Pr.lst rApiNode x73) qAssign ?_
                    refine rq (out := Pr.i64 x74) qAssign ?_
                    refine rStore (R := rRef12Wrong) (R' := rRef12Wrong) (a := (Ref12Wrong.mk 0 0)) (y := x75) 3 Tryz.sizeOf59 (Upd.refl _) ?_
                    refine W_seq ?_
                    refine W_rs ?_
                    refine rq (out := Pr.pt b76 0) (qFieldP fld59_0) ?_
                    refine rq (out := Pr.i64 x75.Place) (qLoad (R := rRef12Wrong) (a := x75) (R' := Rp.int .i64) 3 ty3 subRef12Wrong_Place) ?_
                    refine rq (out := Pr.bool (decide (x75.Place ≥ 0))) qInt ?_
                    refine W_cond (b := decide (x75.Place ≥ 0)) rfl (fun hc77 => ?_) (fun hc77 => ?_)
                    · replace h := iteT hc77 h
                      refine W_join (fun e C => ref12_primary_j9 R x75 = some r ∧ At [(6, Pr.pt b4 0), (7, Pr.i64 0), (8, Pr.pt b5 0)] [Own.box b4 rApiNode (ApiNode.mk 0 [] [] 0 0 0 0 0 []), Own.box b5 rRef12Wrong x75, Own.box b67 rApiNode ({ { x66 with Text := x68.Text } with At := x69.At }), Own.box b76 rRef12Wrong x75] e C) ?_ ?_
                      · rintro e C ⟨h, hat9⟩
                        refine W_at hat9 ?_
                        clear hat9
                        unfold ref12_primary_j9 at h
                        obtain rfl := Option.some.inj h
                        exact W_ret ⟨rfl, [(rApiNode).val (ApiNode.mk 0 [] [] 0 0 0 0 0 []), Pr.i64 0, (rRef12Wrong).val x75], ⟨yBox 0 ty24 Pr.le_rfl, yT Pr.le_rfl, yBox 1 ty59 Pr.le_rfl, trivial⟩, Pr.le_rfl⟩
                      · refine W_drawEx [(2, 0, Own.box b4 rApiNode (ApiNode.mk 0 [] [] 0 0 0 0 0 [])), (4, 1, Own.box b5 rRef12Wrong x75)] [Own.box b4 rApiNode (ApiNode.mk 0 [] [] 0 0 0 0 0 []), Own.box b5 rRef12Wrong x75, Own.box b67 rApiNode ({ { x66 with Text := x68.Text } with At := x69.At }), Own.box b76 rRef12Wrong x75] hmx (by kernel_rfl) (by kernel_rfl) (show ([2, 4] : List Nat).Nodup by decide) (show ([0, 1] : List Nat).Nodup by decide) rfl rfl ?_
                        refine eq1 (out := (rApiNode).val (ApiNode.mk 0 [] [] 0 0 0 0 0 [])) (fun C2 hC => (qBuildR rApiNode_eq st24 rfl)) ?_
                        refine eq1 (out := (rRef12Wrong).val x75) (fun C2 hC => (qLoad (R := rRef12Wrong) (a := x75) (R' := rRef12Wrong) 3 ty59 (Sub.refl _) (hi := (hC 3 (by kernel_rfl)).trans rfl))) ?_
                        refine eqS (fun C2 hC => sStore (R := rApiNode) (R' := rApiNode) (a := (ApiNode.mk 0 [] [] 0 0 0 0 0 [])) (y := (ApiNode.mk 0 [] [] 0 0 0 0 0 [])) 0 Tryz.sizeOf24 (Upd.refl _) ((hC 0 (by kernel_rfl)).trans rfl)) ?_
                        refine eq1 (out := Pr.i64 0) (fun C2 hC => qAssign) ?_
                        refine eqS (fun C2 hC => sStore (R := rRef12Wrong) (R' := rRef12Wrong) (a := (Ref12Wrong.mk 0 0)) (y := x75) 1 Tryz.sizeOf59 (Upd.refl _) ((hC 1 (by kernel_rfl)).trans rfl)) ?_
                        exact ⟨h, ⟨⟨Pr.le_rfl, Pr.le_rfl, Pr.le_rfl, trivial⟩, Pick.refl _⟩⟩
                    · replace h := iteF hc77 h
                      refine W_skip ?_
                      refine W_rs ?_
                      refine rq (out := Pr.pt b67 0) (qFieldP fld24_0) ?_
                      refine rStore (R := rApiNode) (R' := Rp.int .i64) (a := { { x66 with Text := x68.Text } with At := x69.At }) (y := 19) 2 Tryz.sizeOf3 updApiNode_Kind ?_
                      refine W_rs ?_
                      refine rq (out := Pr.lst rApiNode x73) qMove ?_
                      refine rq (out := Pr.pt b67 8) (qFieldP fld24_8) ?_
                      refine rStore (R := rApiNode) (R' := Rp.list rApiNode) (a := { { { x66 with Text := x68.Text } with At := x69.At } with Kind := 19 }) (y := x73) 2 Tryz.sizeOf22 updApiNode_Kids ?_
                      refine W_rs ?_
                      refine rq (out := Pr.lst rApiToken x1) qMove ?_
                      refine rq (out := Pr.i64 x74) qMove ?_
                      obtain ⟨x78, hx78, h⟩ := bindSome h
                      refine rq (out := Pr.i64 x78) (qCall (ref12_end_ok x1 x74 _ hx78)) ?_
                      refine rq (out := Pr.pt b67 5) (qFieldP fld24_5) ?_
                      refine rStore (R := rApiNode) (R' := Rp.int .i64) (a := { { { { x66 with Text := x68.Text } with At := x69.At } with Kind := 19 } with Kids := x73 }) (y := x78) 2 Tryz.sizeOf3 updApiNode_To ?_
                      refine W_join (fun e C => ∃ (x79 : Ref12Wrong), ref12_primary_j10 R x66 x68 x69 x73 x78 x74 x79 = some r ∧ At [(6, Pr.pt b4 0), (7, Pr.i64 x74), (8, Pr.pt b5 0)] [Own.box b4 rApiNode ({ { { { { x66 with Text := x68.Text } with At := x69.At } with Kind := 19 } with Kids := x73 } with To := x78 }), Own.box b5 rRef12Wrong x79, Own.box b67 rApiNode ({ { { { { x66 with Text := x68.Text } with At := x69.At } with Kind := 19 } with Kids := x73 } with To := x78 }), Own.box b76 rRef12Wrong x75] e C) ?_ ?_
                      · rintro e C ⟨x79, h, hat10⟩
                        refine W_at hat10 ?_
                        clear hat10
                        unfold ref12_primary_j10 at h
                        obtain rfl := Option.some.inj h
                        exact W_ret ⟨rfl, [(rApiNode).val ({ { { { { x66 with Text := x68.Text } with At := x69.At } with Kind := 19 } with Kids := x73 } with To := x78 }), Pr.i64 x74, (rRef12Wrong).val x79], ⟨yBox 0 ty24 Pr.le_rfl, yT Pr.le_rfl, yBox 1 ty59 Pr.le_rfl, trivial⟩, Pr.le_rfl⟩
                      · obtain ⟨x79, hx79, h⟩ := bindSome h
                        refine W_drawEx [(3, 0, Own.box b4 rApiNode ({ { { { { x66 with Text := x68.Text } with At := x69.At } with Kind := 19 } with Kids := x73 } with To := x78 })), (5, 1, Own.box b5 rRef12Wrong x79)] [Own.box b4 rApiNode ({ { { { { x66 with Text := x68.Text } with At := x69.At } with Kind := 19 } with Kids := x73 } with To := x78 }), Own.box b5 rRef12Wrong x79, Own.box b67 rApiNode ({ { { { { x66 with Text := x68.Text } with At := x69.At } with Kind := 19 } with Kids := x73 } with To := x78 }), Own.box b76 rRef12Wrong x75] hmx (by kernel_rfl) (by kernel_rfl) (show ([3, 5] : List Nat).Nodup by decide) (show ([0, 1] : List Nat).Nodup by decide) rfl rfl ?_
                        refine eq1 (out := (rApiNode).val ({ { { { { x66 with Text := x68.Text } with At := x69.At } with Kind := 19 } with Kids := x73 } with To := x78 })) (fun C2 hC => (qLoad (R := rApiNode) (a := { { { { { x66 with Text := x68.Text } with At := x69.At } with Kind := 19 } with Kids := x73 } with To := x78 }) (R' := rApiNode) 2 ty24 (Sub.refl _) (hi := (hC 2 (by kernel_rfl)).trans rfl))) ?_
                        refine eq1 (out := Pr.i64 x74) (fun C2 hC => qMove) ?_
                        refine eq1 (out := (rRef12Wrong).val x79) (fun C2 hC => (qCall (ref12_fine_ok  _ hx79))) ?_
                        refine eqS (fun C2 hC => sStore (R := rApiNode) (R' := rApiNode) (a := (ApiNode.mk 0 [] [] 0 0 0 0 0 [])) (y := { { { { { x66 with Text := x68.Text } with At := x69.At } with Kind := 19 } with Kids := x73 } with To := x78 }) 0 Tryz.sizeOf24 (Upd.refl _) ((hC 0 (by kernel_rfl)).trans rfl)) ?_
                        refine eq1 (out := Pr.i64 x74) (fun C2 hC => qAssign) ?_
                        refine eqS (fun C2 hC => sStore (R := rRef12Wrong) (R' := rRef12Wrong) (a := (Ref12Wrong.mk 0 0)) (y := x79) 1 Tryz.sizeOf59 (Upd.refl _) ((hC 1 (by kernel_rfl)).trans rfl)) ?_
                        exact ⟨x79, h, ⟨⟨Pr.le_rfl, Pr.le_rfl, Pr.le_rfl, trivial⟩, Pick.refl _⟩⟩
                · replace h := iteF hc65 h
                  refine W_skip ?_
                  refine W_rs ?_
                  refine rq (out := (rApiNode).val (ApiNode.mk 0 [] [] 0 0 0 0 0 [])) (qBuildR rApiNode_eq st24 rfl) ?_
                  refine rq (out := Pr.i64 x2) qMove ?_
                  obtain ⟨x80, hx80, h⟩ := bindSome h
                  refine rq (out := (rRef12Wrong).val x80) (qCall (ref12_syntax_ok x2 _ hx80)) ?_
                  refine rStore (R := rApiNode) (R' := rApiNode) (a := (ApiNode.mk 0 [] [] 0 0 0 0 0 [])) (y := (ApiNode.mk 0 [] [] 0 0 0 0 0 [])) 0 Tryz.sizeOf24 (Upd.refl _) ?_
                  refine rq (out := Pr.i64 0) qAssign ?_
                  refine rStore (R := rRef12Wrong) (R' := rRef12Wrong) (a := (Ref12Wrong.mk 0 0)) (y := x80) 1 Tryz.sizeOf59 (Upd.refl _) ?_
                  obtain rfl := Option.some.inj h
                  exact W_ret ⟨rfl, [(rApiNode).val (ApiNode.mk 0 [] [] 0 0 0 0 0 []), Pr.i64 0, (rRef12Wrong).val x80], ⟨yBox 0 ty24 Pr.le_rfl, yT Pr.le_rfl, yBox 1 ty59 Pr.le_rfl, trivial⟩, Pr.le_rfl⟩
theorem F_ref12_arguments_step (R : rec_ref12_expression_T) (ih : rec_ref12_expression_spec R) (x1 : List ApiToken) (x2 : Int) (x3 : Int) (r : (List ApiNode) × Int × Ref12Wrong) (h : F_ref12_arguments R x1 x2 x3 = some r) : FnP Tryz.prog 107 [Pr.lst rApiToken x1, Pr.i64 x2, Pr.i64 x3] (Pr.tup [Pr.lst rApiNode r.1, Pr.i64 r.2.1, (rRef12Wrong).val r.2.2]) := by
  refine fn_introR (n := 51) (rs := [.tmp 6, .tmp 7, .cell 8 59]) Tryz.func107 rfl Tryz.ntmps107 Tryz.results107 (by decide) (fun s0 => ?_)
  unfold F_ref12_arguments at h
  refine W_rs ?_
  refine rq (out := Pr.is (.slice none 0 0)) qAssign ?_
  refine rq (out := Pr.i64 0) qAssign ?_
  refine rAlloc (R := rRef12Wrong) (z := (Ref12Wrong.mk 0 0)) Tryz.zeroValue59 (fun _ => ⟨_, ⟨_, _, rfl, rfl, ⟨_, _, rfl, rfl, rfl⟩⟩, rfl⟩) (fun b4 => ?_)
  refine W_rs ?_
  refine rq (out := Pr.is (.slice none 0 0)) qAssign ?_
  refine W_seq ?_
  refine W_rs ?_
  refine rq (out := Pr.lst rApiToken x1) qMove ?_
  refine rq (out := Pr.i64 x2) qMove ?_
  obtain ⟨x5, hx5, h⟩ := bindSome h
  refine rq (out := Pr.bool x5) (qCall (ref12_is_ok x1 x2 ([41] : List UInt8) _ hx5)) ?_
  refine W_cond (b := x5) rfl (fun hc6 => ?_) (fun hc6 => ?_)
  · replace h := iteT hc6 h
    refine W_rs ?_
    refine rq (out := Pr.is (.slice none 0 0)) qMove ?_
    refine rq (out := Pr.i64 x2) qMove ?_
    refine rq (out := Pr.i64 (w64 (x2 + 1))) qInt ?_
    obtain ⟨x7, hx7, h⟩ := bindSome h
    refine rq (out := (rRef12Wrong).val x7) (qCall (ref12_fine_ok  _ hx7)) ?_
    refine rq (out := Pr.is (.slice none 0 0)) qAssign ?_
    refine rq (out := Pr.i64 (w64 (x2 + 1))) qAssign ?_
    refine rStore (R := rRef12Wrong) (R' := rRef12Wrong) (a := (Ref12Wrong.mk 0 0)) (y := x7) 0 Tryz.sizeOf59 (Upd.refl _) ?_
    obtain rfl := Option.some.inj h
    exact W_ret ⟨rfl, [Pr.lst rApiNode [], Pr.i64 (w64 (x2 + 1)), (rRef12Wrong).val x7], ⟨yT (Pr.lst_nil _), yT Pr.le_rfl, yBox 0 ty59 Pr.le_rfl, trivial⟩, Pr.le_rfl⟩
  · replace h := iteF hc6 h
    refine W_skip ?_
    refine W_block ?_
    obtain ⟨n1, hN1⟩ := iter_some h
    refine W_nil [9] rApiNode 24 (fun v28 => ?_) ⟨rfl, trivial⟩
    refine W_loop (fun m e C => ∃ (x8 : Int), ∃ (x10 : List ApiNode), ∃ (v9 : Value), IterN (fun s => ref12_arguments_l1 R x1 x3 s.1 s.2) m (x8, x10) = some r ∧ At [(0, Pr.lst rApiToken x1), (1, Pr.i64 x8), (2, Pr.i64 x3), (8, Pr.pt b4 0), (9, Pr.is v9)] [Own.box b4 rRef12Wrong (Ref12Wrong.mk 0 0), Own.vec v9 rApiNode x10 24] e C) n1 ⟨x2, [], v28, hN1, ⟨⟨Pr.le_rfl, Pr.le_rfl, Pr.le_rfl, Pr.le_rfl, Pr.le_rfl, trivial⟩, Pick.refl _⟩⟩ ?_
    clear hN1
    rintro m e C ⟨x8, x10, v9, hN1, hatl1⟩
    refine W_at hatl1 ?_
    clear hatl1
    obtain ⟨m1, w1l, rfl, h1l, hn1, ho1⟩ := iterN_some hN1
    clear hN1
    replace h1l : ref12_arguments_l1 R x1 x3 x8 x10 = some w1l := h1l
    unfold ref12_arguments_l1 at h1l
    refine W_block ?_
    refine W_rs ?_
    refine rq (out := Pr.lst rApiToken x1) qMove ?_
    refine rq (out := Pr.i64 x8) qMove ?_
    refine rq (out := Pr.i64 x3) qMove ?_
    obtain ⟨⟨x14, x15, x16⟩, hx14, h1l⟩ := bindSome h1l
    refine rq (out := Pr.tup [(rApiNode).val x14, Pr.i64 x15, (rRef12Wrong).val x16]) (qCall (ih.1 x1 x8 x3 _ hx14)) ?_
    refine rq (out := Pr.tup [(rApiNode).val x14, Pr.i64 x15, (rRef12Wrong).val x16]) qMove ?_
    refine rq (out := (rApiNode).val x14) qExtract ?_
    refine rq (out := Pr.i64 x15) qExtract ?_
    refine rq (out := (rRef12Wrong).val x16) qExtract ?_
    refine rAlloc (R := rApiNode) (z := (ApiNode.mk 0 [] [] 0 0 0 0 0 [])) Tryz.zeroValue24 (fun _ => (by rw [rApiNode_eq]; exact ⟨_, ⟨_, _, rfl, rfl, ⟨_, _, rfl, rfl, ⟨_, _, rfl, rfl, ⟨_, _, rfl, rfl, ⟨_, _, rfl, rfl, ⟨_, _, rfl, rfl, ⟨_, _, rfl, rfl, ⟨_, _, rfl, rfl, ⟨_, _, rfl, ⟨_, rfl, none, 0, rfl, ⟨Nat.le_refl _, fun _ => rfl⟩, .inl rfl⟩, rfl⟩⟩⟩⟩⟩⟩⟩⟩⟩, rfl⟩)) (fun b17 => ?_)
    refine rAlloc (R := rRef12Wrong) (z := (Ref12Wrong.mk 0 0)) Tryz.zeroValue59 (fun _ => ⟨_, ⟨_, _, rfl, rfl, ⟨_, _, rfl, rfl, rfl⟩⟩, rfl⟩) (fun b18 => ?_)
    refine rStore (R := rApiNode) (R' := rApiNode) (a := (ApiNode.mk 0 [] [] 0 0 0 0 0 [])) (y := x14) 2 Tryz.sizeOf24 (Upd.refl _) ?_
    refine rq (out := Pr.i64 x15) qAssign ?_
    refine rStore (R := rRef12Wrong) (R' := rRef12Wrong) (a := (Ref12Wrong.mk 0 0)) (y := x16) 3 Tryz.sizeOf59 (Upd.refl _) ?_
    refine W_seq ?_
    refine W_rs ?_
    refine rq (out := Pr.pt b18 0) (qFieldP fld59_0) ?_
    refine rq (out := Pr.i64 x16.Place) (qLoad (R := rRef12Wrong) (a := x16) (R' := Rp.int .i64) 3 ty3 subRef12Wrong_Place) ?_
    refine rq (out := Pr.bool (decide (x16.Place ≥ 0))) qInt ?_
    refine W_cond (b := decide (x16.Place ≥ 0)) rfl (fun hc19 => ?_) (fun hc19 => ?_)
    · replace h1l := iteT hc19 h1l
      refine W_join (fun e C => ref12_arguments_j2 R x16 = some w1l ∧ At [(6, Pr.is (.slice none 0 0)), (7, Pr.i64 0), (8, Pr.pt b4 0)] [Own.box b4 rRef12Wrong x16, Own.box b17 rApiNode x14, Own.box b18 rRef12Wrong x16] e C) ?_ ?_
      · rintro e C ⟨h1l, hat2⟩
        refine W_at hat2 ?_
        clear hat2
        unfold ref12_arguments_j2 at h1l
        have h : some ([], 0, x16) = some r := congrArg some (ho1 _ (Option.some.inj h1l).symm)
        obtain rfl := Option.some.inj h
        exact W_ret ⟨rfl, [Pr.lst rApiNode [], Pr.i64 0, (rRef12Wrong).val x16], ⟨yT (Pr.lst_nil _), yT Pr.le_rfl, yBox 0 ty59 Pr.le_rfl, trivial⟩, Pr.le_rfl⟩
      · refine W_draw 3 hmx (by kernel_rfl) (by kernel_rfl) ?_
        refine qq (out := (rRef12Wrong).val x16) (qLoad (R := rRef12Wrong) (a := x16) (R' := rRef12Wrong) 3 ty59 (Sub.refl _)) ?_
        refine qq (out := Pr.is (.slice none 0 0)) qAssign ?_
        refine qq (out := Pr.i64 0) qAssign ?_
        refine rStore (R := rRef12Wrong) (R' := rRef12Wrong) (a := (Ref12Wrong.mk 0 0)) (y := x16) 0 Tryz.sizeOf59 (Upd.refl _) ?_
        exact ⟨h1l, ⟨⟨Pr.le_rfl, Pr.le_rfl, Pr.le_rfl, trivial⟩, Pick.of [0, 2, 3] rfl⟩⟩
    · replace h1l := iteF hc19 h1l
      refine W_skip ?_
      refine W_rs ?_
      refine rq (out := Pr.is v9) qMove ?_
      refine rq (out := (rApiNode).val x14) (qLoad (R := rApiNode) (a := x14) (R' := rApiNode) 2 ty24 (Sub.refl _)) ?_
      refine rq (out := Pr.lst rApiNode ([x14] : List ApiNode)) (qBuildSlice1 (R := rApiNode) (a := x14) el22 (Nat.le_of_ble_eq_true rfl)) ?_
      obtain ⟨x20, hx20, h1l⟩ := bindSome h1l
      refine rAppend' 1 el22 hx20 (fun v21 => ?_)
      refine rq (out := Pr.is v21) qAssign ?_
      refine W_seq ?_
      refine W_rs ?_
      refine rq (out := Pr.lst rApiToken x1) qMove ?_
      refine rq (out := Pr.i64 x15) qMove ?_
      obtain ⟨x22, hx22, h1l⟩ := bindSome h1l
      refine rq (out := Pr.bool x22) (qCall (ref12_is_ok x1 x15 ([41] : List UInt8) _ hx22)) ?_
      refine W_cond (b := x22) rfl (fun hc23 => ?_) (fun hc23 => ?_)
      · replace h1l := iteT hc23 h1l
        refine W_rs ?_
        refine rq (out := Pr.is v21) qMove ?_
        refine rq (out := Pr.i64 x15) qMove ?_
        refine rq (out := Pr.i64 (w64 (x15 + 1))) qInt ?_
        obtain ⟨x24, hx24, h1l⟩ := bindSome h1l
        refine rq (out := (rRef12Wrong).val x24) (qCall (ref12_fine_ok  _ hx24)) ?_
        refine rq (out := Pr.is v21) qAssign ?_
        refine rq (out := Pr.i64 (w64 (x15 + 1))) qAssign ?_
        refine rStore (R := rRef12Wrong) (R' := rRef12Wrong) (a := (Ref12Wrong.mk 0 0)) (y := x24) 0 Tryz.sizeOf59 (Upd.refl _) ?_
        have h : some (x20, w64 (x15 + 1), x24) = some r := congrArg some (ho1 _ (Option.some.inj h1l).symm)
        refine W_rel 1 [6] ?_ rfl ⟨rfl, trivial⟩
        obtain rfl := Option.some.inj h
        exact W_ret ⟨rfl, [Pr.lst rApiNode x20, Pr.i64 (w64 (x15 + 1)), (rRef12Wrong).val x24], ⟨yT Pr.le_rfl, yT Pr.le_rfl, yBox 0 ty59 Pr.le_rfl, trivial⟩, Pr.le_rfl⟩
      · replace h1l := iteF hc23 h1l
        refine W_skip ?_
        refine W_seq ?_
        refine W_rs ?_
        refine rq (out := Pr.lst rApiToken x1) qMove ?_
        refine rq (out := Pr.i64 x15) qMove ?_
        obtain ⟨x25, hx25, h1l⟩ := bindSome h1l
        refine rq (out := Pr.bool x25) (qCall (ref12_is_ok x1 x15 ([44] : List UInt8) _ hx25)) ?_
        refine rq (out := Pr.bool (!x25)) qNot ?_
        refine W_cond (b := !x25) rfl (fun hc26 => ?_) (fun hc26 => ?_)
        · replace h1l := iteT hc26 h1l
          refine W_rs ?_
          refine rq (out := Pr.i64 x15) qMove ?_
          obtain ⟨x27, hx27, h1l⟩ := bindSome h1l
          refine rq (out := (rRef12Wrong).val x27) (qCall (ref12_syntax_ok x15 _ hx27)) ?_
          refine rq (out := Pr.is (.slice none 0 0)) qAssign ?_
          refine rq (out := Pr.i64 0) qAssign ?_
          refine rStore (R := rRef12Wrong) (R' := rRef12Wrong) (a := (Ref12Wrong.mk 0 0)) (y := x27) 0 Tryz.sizeOf59 (Upd.refl _) ?_
          have h : some ([], 0, x27) = some r := congrArg some (ho1 _ (Option.some.inj h1l).symm)
          obtain rfl := Option.some.inj h
          exact W_ret ⟨rfl, [Pr.lst rApiNode [], Pr.i64 0, (rRef12Wrong).val x27], ⟨yT (Pr.lst_nil _), yT Pr.le_rfl, yBox 0 ty59 Pr.le_rfl, trivial⟩, Pr.le_rfl⟩
        · replace h1l := iteF hc26 h1l
          refine W_skip ?_
          refine W_r ?_
          refine rq (out := Pr.i64 x15) qMove ?_
          refine rq (out := Pr.i64 (w64 (x15 + 1))) qInt ?_
          refine rq (out := Pr.i64 (w64 (x15 + 1))) qAssign ?_
          exact ⟨m1, Nat.lt_succ_self _, w64 (x15 + 1), x20, v21, hn1 _ (Option.some.inj h1l).symm, ⟨⟨Pr.le_rfl, Pr.le_rfl, Pr.le_rfl, Pr.le_rfl, Pr.le_rfl, trivial⟩, Pick.of [0, 1] rfl⟩⟩
theorem rec_ref12_expression_ok : ∀ n, rec_ref12_expression_spec (rec_ref12_expression_at n) := by
  intro n
  induction n with
  | zero => exact ⟨(fun x1 x2 x3 r h => nomatch (show none = some r from h)), (fun x1 x2 x3 x4 r h => nomatch (show none = some r from h)), (fun x1 x2 x3 r h => nomatch (show none = some r from h)), (fun x1 x2 x3 r h => nomatch (show none = some r from h)), (fun x1 x2 x3 r h => nomatch (show none = some r from h))⟩
  | succ n ih => exact ⟨(fun x1 x2 x3 r h => F_ref12_expression_step (rec_ref12_expression_at n) ih x1 x2 x3 r h), (fun x1 x2 x3 x4 r h => F_ref12_level_step (rec_ref12_expression_at n) ih x1 x2 x3 x4 r h), (fun x1 x2 x3 r h => F_ref12_unary_step (rec_ref12_expression_at n) ih x1 x2 x3 r h), (fun x1 x2 x3 r h => F_ref12_primary_step (rec_ref12_expression_at n) ih x1 x2 x3 r h), (fun x1 x2 x3 r h => F_ref12_arguments_step (rec_ref12_expression_at n) ih x1 x2 x3 r h)⟩
theorem ref12_expression_ok (x1 : List ApiToken) (x2 : Int) (x3 : Int) (r : ApiNode × Int × Ref12Wrong) (h : ref12_expression x1 x2 x3 = some r) : FnP Tryz.prog 40 [Pr.lst rApiToken x1, Pr.i64 x2, Pr.i64 x3] (Pr.tup [(rApiNode).val r.1, Pr.i64 r.2.1, (rRef12Wrong).val r.2.2]) := (rec_ref12_expression_ok 1048576).1 x1 x2 x3 r h
theorem ref12_level_ok (x1 : List ApiToken) (x2 : Int) (x3 : Int) (x4 : Int) (r : ApiNode × Int × Ref12Wrong) (h : ref12_level x1 x2 x3 x4 = some r) : FnP Tryz.prog 67 [Pr.lst rApiToken x1, Pr.i64 x2, Pr.i64 x3, Pr.i64 x4] (Pr.tup [(rApiNode).val r.1, Pr.i64 r.2.1, (rRef12Wrong).val r.2.2]) := (rec_ref12_expression_ok 1048576).2.1 x1 x2 x3 x4 r h
theorem ref12_unary_ok (x1 : List ApiToken) (x2 : Int) (x3 : Int) (r : ApiNode × Int × Ref12Wrong) (h : ref12_unary x1 x2 x3 = some r) : FnP Tryz.prog 91 [Pr.lst rApiToken x1, Pr.i64 x2, Pr.i64 x3] (Pr.tup [(rApiNode).val r.1, Pr.i64 r.2.1, (rRef12Wrong).val r.2.2]) := (rec_ref12_expression_ok 1048576).2.2.1 x1 x2 x3 r h
theorem ref12_primary_ok (x1 : List ApiToken) (x2 : Int) (x3 : Int) (r : ApiNode × Int × Ref12Wrong) (h : ref12_primary x1 x2 x3 = some r) : FnP Tryz.prog 106 [Pr.lst rApiToken x1, Pr.i64 x2, Pr.i64 x3] (Pr.tup [(rApiNode).val r.1, Pr.i64 r.2.1, (rRef12Wrong).val r.2.2]) := (rec_ref12_expression_ok 1048576).2.2.2.1 x1 x2 x3 r h
theorem ref12_arguments_ok (x1 : List ApiToken) (x2 : Int) (x3 : Int) (r : (List ApiNode) × Int × Ref12Wrong) (h : ref12_arguments x1 x2 x3 = some r) : FnP Tryz.prog 107 [Pr.lst rApiToken x1, Pr.i64 x2, Pr.i64 x3] (Pr.tup [Pr.lst rApiNode r.1, Pr.i64 r.2.1, (rRef12Wrong).val r.2.2]) := (rec_ref12_expression_ok 1048576).2.2.2.2 x1 x2 x3 r h
theorem ref12_bracketed_ok (x1 : List ApiToken) (x2 : Int) (x3 : Int) (r : ApiNode × Int × Ref12Wrong) (h : ref12_bracketed x1 x2 x3 = some r) : FnP Tryz.prog 90 [Pr.lst rApiToken x1, Pr.i64 x2, Pr.i64 x3] (Pr.tup [(rApiNode).val r.1, Pr.i64 r.2.1, (rRef12Wrong).val r.2.2]) := by
  refine fn_introR (n := 44) (rs := [.cell 6 24, .tmp 7, .cell 8 59]) Tryz.func90 rfl Tryz.ntmps90 Tryz.results90 (by decide) (fun s0 => ?_)
  unfold ref12_bracketed at h
  refine W_rs ?_
  refine rAlloc (R := rApiNode) (z := (ApiNode.mk 0 [] [] 0 0 0 0 0 [])) Tryz.zeroValue24 (fun _ => (by rw [rApiNode_eq]; exact ⟨_, ⟨_, _, rfl, rfl, ⟨_, _, rfl, rfl, ⟨_, _, rfl, rfl, ⟨_, _, rfl, rfl, ⟨_, _, rfl, rfl, ⟨_, _, rfl, rfl, ⟨_, _, rfl, rfl, ⟨_, _, rfl, rfl, ⟨_, _, rfl, ⟨_, rfl, none, 0, rfl, ⟨Nat.le_refl _, fun _ => rfl⟩, .inl rfl⟩, rfl⟩⟩⟩⟩⟩⟩⟩⟩⟩, rfl⟩)) (fun b4 => ?_)
  refine rq (out := Pr.i64 0) qAssign ?_
  refine rAlloc (R := rRef12Wrong) (z := (Ref12Wrong.mk 0 0)) Tryz.zeroValue59 (fun _ => ⟨_, ⟨_, _, rfl, rfl, ⟨_, _, rfl, rfl, rfl⟩⟩, rfl⟩) (fun b5 => ?_)
  refine W_seq ?_
  refine W_rs ?_
  refine rq (out := Pr.lst rApiToken x1) qMove ?_
  refine rq (out := Pr.i64 x2) qMove ?_
  obtain ⟨x6, hx6, h⟩ := bindSome h
  refine rq (out := Pr.bool x6) (qCall (ref12_is_ok x1 x2 ([40] : List UInt8) _ hx6)) ?_
  refine rq (out := Pr.bool (!x6)) qNot ?_
  refine W_cond (b := !x6) rfl (fun hc7 => ?_) (fun hc7 => ?_)
  · replace h := iteT hc7 h
    refine W_rs ?_
    refine rq (out := (rApiNode).val (ApiNode.mk 0 [] [] 0 0 0 0 0 [])) (qBuildR rApiNode_eq st24 rfl) ?_
    refine rq (out := Pr.i64 x2) qMove ?_
    obtain ⟨x8, hx8, h⟩ := bindSome h
    refine rq (out := (rRef12Wrong).val x8) (qCall (ref12_syntax_ok x2 _ hx8)) ?_
    refine rStore (R := rApiNode) (R' := rApiNode) (a := (ApiNode.mk 0 [] [] 0 0 0 0 0 [])) (y := (ApiNode.mk 0 [] [] 0 0 0 0 0 [])) 0 Tryz.sizeOf24 (Upd.refl _) ?_
    refine rq (out := Pr.i64 0) qAssign ?_
    refine rStore (R := rRef12Wrong) (R' := rRef12Wrong) (a := (Ref12Wrong.mk 0 0)) (y := x8) 1 Tryz.sizeOf59 (Upd.refl _) ?_
    obtain rfl := Option.some.inj h
    exact W_ret ⟨rfl, [(rApiNode).val (ApiNode.mk 0 [] [] 0 0 0 0 0 []), Pr.i64 0, (rRef12Wrong).val x8], ⟨yBox 0 ty24 Pr.le_rfl, yT Pr.le_rfl, yBox 1 ty59 Pr.le_rfl, trivial⟩, Pr.le_rfl⟩
  · replace h := iteF hc7 h
    refine W_skip ?_
    refine W_rs ?_
    refine rq (out := Pr.lst rApiToken x1) qMove ?_
    refine rq (out := Pr.i64 x2) qMove ?_
    refine rq (out := Pr.i64 (w64 (x2 + 1))) qInt ?_
    refine rq (out := Pr.i64 x3) qMove ?_
    obtain ⟨⟨x9, x10, x11⟩, hx9, h⟩ := bindSome h
    refine rq (out := Pr.tup [(rApiNode).val x9, Pr.i64 x10, (rRef12Wrong).val x11]) (qCall (ref12_expression_ok x1 (w64 (x2 + 1)) x3 _ hx9)) ?_
    refine rq (out := Pr.tup [(rApiNode).val x9, Pr.i64 x10, (rRef12Wrong).val x11]) qMove ?_
    refine rq (out := (rApiNode).val x9) qExtract ?_
    refine rq (out := Pr.i64 x10) qExtract ?_
    refine rq (out := (rRef12Wrong).val x11) qExtract ?_
    refine rAlloc (R := rApiNode) (z := (ApiNode.mk 0 [] [] 0 0 0 0 0 [])) Tryz.zeroValue24 (fun _ => (by rw [rApiNode_eq]; exact ⟨_, ⟨_, _, rfl, rfl, ⟨_, _, rfl, rfl, ⟨_, _, rfl, rfl, ⟨_, _, rfl, rfl, ⟨_, _, rfl, rfl, ⟨_, _, rfl, rfl, ⟨_, _, rfl, rfl, ⟨_, _, rfl, rfl, ⟨_, _, rfl, ⟨_, rfl, none, 0, rfl, ⟨Nat.le_refl _, fun _ => rfl⟩, .inl rfl⟩, rfl⟩⟩⟩⟩⟩⟩⟩⟩⟩, rfl⟩)) (fun b12 => ?_)
    refine rAlloc (R := rRef12Wrong) (z := (Ref12Wrong.mk 0 0)) Tryz.zeroValue59 (fun _ => ⟨_, ⟨_, _, rfl, rfl, ⟨_, _, rfl, rfl, rfl⟩⟩, rfl⟩) (fun b13 => ?_)
    refine rStore (R := rApiNode) (R' := rApiNode) (a := (ApiNode.mk 0 [] [] 0 0 0 0 0 [])) (y := x9) 2 Tryz.sizeOf24 (Upd.refl _) ?_
    refine rq (out := Pr.i64 x10) qAssign ?_
    refine rStore (R := rRef12Wrong) (R' := rRef12Wrong) (a := (Ref12Wrong.mk 0 0)) (y := x11) 3 Tryz.sizeOf59 (Upd.refl _) ?_
    refine W_seq ?_
    refine W_rs ?_
    refine rq (out := Pr.pt b13 0) (qFieldP fld59_0) ?_
    refine rq (out := Pr.i64 x11.Place) (qLoad (R := rRef12Wrong) (a := x11) (R' := Rp.int .i64) 3 ty3 subRef12Wrong_Place) ?_
    refine rq (out := Pr.bool (decide (x11.Place ≥ 0))) qInt ?_
    refine W_cond (b := decide (x11.Place ≥ 0)) rfl (fun hc14 => ?_) (fun hc14 => ?_)
    · replace h := iteT hc14 h
      refine W_join (fun e C => ref12_bracketed_j1 x11 = some r ∧ At [(6, Pr.pt b4 0), (7, Pr.i64 0), (8, Pr.pt b5 0)] [Own.box b4 rApiNode (ApiNode.mk 0 [] [] 0 0 0 0 0 []), Own.box b5 rRef12Wrong x11, Own.box b12 rApiNode x9, Own.box b13 rRef12Wrong x11] e C) ?_ ?_
      · rintro e C ⟨h, hat1⟩
        refine W_at hat1 ?_
        clear hat1
        unfold ref12_bracketed_j1 at h
        obtain rfl := Option.some.inj h
        exact W_ret ⟨rfl, [(rApiNode).val (ApiNode.mk 0 [] [] 0 0 0 0 0 []), Pr.i64 0, (rRef12Wrong).val x11], ⟨yBox 0 ty24 Pr.le_rfl, yT Pr.le_rfl, yBox 1 ty59 Pr.le_rfl, trivial⟩, Pr.le_rfl⟩
      · refine W_drawEx [(2, 0, Own.box b4 rApiNode (ApiNode.mk 0 [] [] 0 0 0 0 0 [])), (4, 1, Own.box b5 rRef12Wrong x11)] [Own.box b4 rApiNode (ApiNode.mk 0 [] [] 0 0 0 0 0 []), Own.box b5 rRef12Wrong x11, Own.box b12 rApiNode x9, Own.box b13 rRef12Wrong x11] hmx (by kernel_rfl) (by kernel_rfl) (show ([2, 4] : List Nat).Nodup by decide) (show ([0, 1] : List Nat).Nodup by decide) rfl rfl ?_
        refine eq1 (out := (rApiNode).val (ApiNode.mk 0 [] [] 0 0 0 0 0 [])) (fun C2 hC => (qBuildR rApiNode_eq st24 rfl)) ?_
        refine eq1 (out := (rRef12Wrong).val x11) (fun C2 hC => (qLoad (R := rRef12Wrong) (a := x11) (R' := rRef12Wrong) 3 ty59 (Sub.refl _) (hi := (hC 3 (by kernel_rfl)).trans rfl))) ?_
        refine eqS (fun C2 hC => sStore (R := rApiNode) (R' := rApiNode) (a := (ApiNode.mk 0 [] [] 0 0 0 0 0 [])) (y := (ApiNode.mk 0 [] [] 0 0 0 0 0 [])) 0 Tryz.sizeOf24 (Upd.refl _) ((hC 0 (by kernel_rfl)).trans rfl)) ?_
        refine eq1 (out := Pr.i64 0) (fun C2 hC => qAssign) ?_
        refine eqS (fun C2 hC => sStore (R := rRef12Wrong) (R' := rRef12Wrong) (a := (Ref12Wrong.mk 0 0)) (y := x11) 1 Tryz.sizeOf59 (Upd.refl _) ((hC 1 (by kernel_rfl)).trans rfl)) ?_
        exact ⟨h, ⟨⟨Pr.le_rfl, Pr.le_rfl, Pr.le_rfl, trivial⟩, Pick.refl _⟩⟩
    · replace h := iteF hc14 h
      refine W_skip ?_
      refine W_seq ?_
      refine W_rs ?_
      refine rq (out := Pr.lst rApiToken x1) qMove ?_
      refine rq (out := Pr.i64 x10) qMove ?_
      obtain ⟨x15, hx15, h⟩ := bindSome h
      refine rq (out := Pr.bool x15) (qCall (ref12_is_ok x1 x10 ([41] : List UInt8) _ hx15)) ?_
      refine rq (out := Pr.bool (!x15)) qNot ?_
      refine W_cond (b := !x15) rfl (fun hc16 => ?_) (fun hc16 => ?_)
      · replace h := iteT hc16 h
        refine W_rs ?_
        refine rq (out := (rApiNode).val (ApiNode.mk 0 [] [] 0 0 0 0 0 [])) (qBuildR rApiNode_eq st24 rfl) ?_
        refine rq (out := Pr.i64 x10) qMove ?_
        obtain ⟨x17, hx17, h⟩ := bindSome h
        refine rq (out := (rRef12Wrong).val x17) (qCall (ref12_syntax_ok x10 _ hx17)) ?_
        refine rStore (R := rApiNode) (R' := rApiNode) (a := (ApiNode.mk 0 [] [] 0 0 0 0 0 [])) (y := (ApiNode.mk 0 [] [] 0 0 0 0 0 [])) 0 Tryz.sizeOf24 (Upd.refl _) ?_
        refine rq (out := Pr.i64 0) qAssign ?_
        refine rStore (R := rRef12Wrong) (R' := rRef12Wrong) (a := (Ref12Wrong.mk 0 0)) (y := x17) 1 Tryz.sizeOf59 (Upd.refl _) ?_
        obtain rfl := Option.some.inj h
        exact W_ret ⟨rfl, [(rApiNode).val (ApiNode.mk 0 [] [] 0 0 0 0 0 []), Pr.i64 0, (rRef12Wrong).val x17], ⟨yBox 0 ty24 Pr.le_rfl, yT Pr.le_rfl, yBox 1 ty59 Pr.le_rfl, trivial⟩, Pr.le_rfl⟩
      · replace h := iteF hc16 h
        refine W_skip ?_
        refine W_join (fun e C => ∃ (x18 : Ref12Wrong), ref12_bracketed_j2 x9 x10 x18 = some r ∧ At [(6, Pr.pt b4 0), (7, Pr.i64 (w64 (x10 + 1))), (8, Pr.pt b5 0)] [Own.box b4 rApiNode x9, Own.box b5 rRef12Wrong x18, Own.box b12 rApiNode x9, Own.box b13 rRef12Wrong x11] e C) ?_ ?_
        · rintro e C ⟨x18, h, hat2⟩
          refine W_at hat2 ?_
          clear hat2
          unfold ref12_bracketed_j2 at h
          obtain rfl := Option.some.inj h
          exact W_ret ⟨rfl, [(rApiNode).val x9, Pr.i64 (w64 (x10 + 1)), (rRef12Wrong).val x18], ⟨yBox 0 ty24 Pr.le_rfl, yT Pr.le_rfl, yBox 1 ty59 Pr.le_rfl, trivial⟩, Pr.le_rfl⟩
        · obtain ⟨x18, hx18, h⟩ := bindSome h
          refine W_drawEx [(4, 0, Own.box b4 rApiNode x9), (6, 1, Own.box b5 rRef12Wrong x18)] [Own.box b4 rApiNode x9, Own.box b5 rRef12Wrong x18, Own.box b12 rApiNode x9, Own.box b13 rRef12Wrong x11] hmx (by kernel_rfl) (by kernel_rfl) (show ([4, 6] : List Nat).Nodup by decide) (show ([0, 1] : List Nat).Nodup by decide) rfl rfl ?_
          refine eq1 (out := (rApiNode).val x9) (fun C2 hC => (qLoad (R := rApiNode) (a := x9) (R' := rApiNode) 2 ty24 (Sub.refl _) (hi := (hC 2 (by kernel_rfl)).trans rfl))) ?_
          refine eq1 (out := Pr.i64 x10) (fun C2 hC => qMove) ?_
          refine eq1 (out := Pr.i64 (w64 (x10 + 1))) (fun C2 hC => qInt) ?_
          refine eq1 (out := (rRef12Wrong).val x18) (fun C2 hC => (qCall (ref12_fine_ok  _ hx18))) ?_
          refine eqS (fun C2 hC => sStore (R := rApiNode) (R' := rApiNode) (a := (ApiNode.mk 0 [] [] 0 0 0 0 0 [])) (y := x9) 0 Tryz.sizeOf24 (Upd.refl _) ((hC 0 (by kernel_rfl)).trans rfl)) ?_
          refine eq1 (out := Pr.i64 (w64 (x10 + 1))) (fun C2 hC => qAssign) ?_
          refine eqS (fun C2 hC => sStore (R := rRef12Wrong) (R' := rRef12Wrong) (a := (Ref12Wrong.mk 0 0)) (y := x18) 1 Tryz.sizeOf59 (Upd.refl _) ((hC 1 (by kernel_rfl)).trans rfl)) ?_
          exact ⟨x18, h, ⟨⟨Pr.le_rfl, Pr.le_rfl, Pr.le_rfl, trivial⟩, Pick.refl _⟩⟩
theorem ref12_simple_ok (x1 : List ApiToken) (x2 : Int) (x3 : Int) (r : ApiNode × Int × Ref12Wrong) (h : ref12_simple x1 x2 x3 = some r) : FnP Tryz.prog 66 [Pr.lst rApiToken x1, Pr.i64 x2, Pr.i64 x3] (Pr.tup [(rApiNode).val r.1, Pr.i64 r.2.1, (rRef12Wrong).val r.2.2]) := by
  refine fn_introR (n := 94) (rs := [.cell 6 24, .tmp 7, .cell 8 59]) Tryz.func66 rfl Tryz.ntmps66 Tryz.results66 (by decide) (fun s0 => ?_)
  unfold ref12_simple at h
  refine W_rs ?_
  refine rAlloc (R := rApiNode) (z := (ApiNode.mk 0 [] [] 0 0 0 0 0 [])) Tryz.zeroValue24 (fun _ => (by rw [rApiNode_eq]; exact ⟨_, ⟨_, _, rfl, rfl, ⟨_, _, rfl, rfl, ⟨_, _, rfl, rfl, ⟨_, _, rfl, rfl, ⟨_, _, rfl, rfl, ⟨_, _, rfl, rfl, ⟨_, _, rfl, rfl, ⟨_, _, rfl, rfl, ⟨_, _, rfl, ⟨_, rfl, none, 0, rfl, ⟨Nat.le_refl _, fun _ => rfl⟩, .inl rfl⟩, rfl⟩⟩⟩⟩⟩⟩⟩⟩⟩, rfl⟩)) (fun b4 => ?_)
  refine rq (out := Pr.i64 0) qAssign ?_
  refine rAlloc (R := rRef12Wrong) (z := (Ref12Wrong.mk 0 0)) Tryz.zeroValue59 (fun _ => ⟨_, ⟨_, _, rfl, rfl, ⟨_, _, rfl, rfl, rfl⟩⟩, rfl⟩) (fun b5 => ?_)
  refine W_seq ?_
  refine W_rs ?_
  refine rq (out := Pr.lst rApiToken x1) qMove ?_
  refine rq (out := Pr.i64 x2) qMove ?_
  obtain ⟨x6, hx6, h⟩ := bindSome h
  refine rq (out := Pr.bool x6) (qCall (ref12_is_ok x1 x2 ([112, 114, 105, 110, 116] : List UInt8) _ hx6)) ?_
  refine W_cond (b := x6) rfl (fun hc7 => ?_) (fun hc7 => ?_)
  · replace h := iteT hc7 h
    refine W_rs ?_
    refine rq (out := Pr.lst rApiToken x1) qMove ?_
    refine rq (out := Pr.i64 x2) qMove ?_
    refine rq (out := Pr.i64 (w64 (x2 + 1))) qInt ?_
    refine rq (out := Pr.i64 x3) qMove ?_
    refine rq (out := Pr.i64 (w64 (x3 + 1))) qInt ?_
    obtain ⟨⟨x8, x9, x10⟩, hx8, h⟩ := bindSome h
    refine rq (out := Pr.tup [(rApiNode).val x8, Pr.i64 x9, (rRef12Wrong).val x10]) (qCall (ref12_bracketed_ok x1 (w64 (x2 + 1)) (w64 (x3 + 1)) _ hx8)) ?_
    refine rq (out := Pr.tup [(rApiNode).val x8, Pr.i64 x9, (rRef12Wrong).val x10]) qMove ?_
    refine rq (out := (rApiNode).val x8) qExtract ?_
    refine rq (out := Pr.i64 x9) qExtract ?_
    refine rq (out := (rRef12Wrong).val x10) qExtract ?_
    refine rAlloc (R := rApiNode) (z := (ApiNode.mk 0 [] [] 0 0 0 0 0 [])) Tryz.zeroValue24 (fun _ => (by rw [rApiNode_eq]; exact ⟨_, ⟨_, _, rfl, rfl, ⟨_, _, rfl, rfl, ⟨_, _, rfl, rfl, ⟨_, _, rfl, rfl, ⟨_, _, rfl, rfl, ⟨_, _, rfl, rfl, ⟨_, _, rfl, rfl, ⟨_, _, rfl, rfl, ⟨_, _, rfl, ⟨_, rfl, none, 0, rfl, ⟨Nat.le_refl _, fun _ => rfl⟩, .inl rfl⟩, rfl⟩⟩⟩⟩⟩⟩⟩⟩⟩, rfl⟩)) (fun b11 => ?_)
    refine rAlloc (R := rRef12Wrong) (z := (Ref12Wrong.mk 0 0)) Tryz.zeroValue59 (fun _ => ⟨_, ⟨_, _, rfl, rfl, ⟨_, _, rfl, rfl, rfl⟩⟩, rfl⟩) (fun b12 => ?_)
    refine rStore (R := rApiNode) (R' := rApiNode) (a := (ApiNode.mk 0 [] [] 0 0 0 0 0 [])) (y := x8) 2 Tryz.sizeOf24 (Upd.refl _) ?_
    refine rq (out := Pr.i64 x9) qAssign ?_
    refine rStore (R := rRef12Wrong) (R' := rRef12Wrong) (a := (Ref12Wrong.mk 0 0)) (y := x10) 3 Tryz.sizeOf59 (Upd.refl _) ?_
    refine W_seq ?_
    refine W_rs ?_
    refine rq (out := Pr.pt b12 0) (qFieldP fld59_0) ?_
    refine rq (out := Pr.i64 x10.Place) (qLoad (R := rRef12Wrong) (a := x10) (R' := Rp.int .i64) 3 ty3 subRef12Wrong_Place) ?_
    refine rq (out := Pr.bool (decide (x10.Place ≥ 0))) qInt ?_
    refine W_cond (b := decide (x10.Place ≥ 0)) rfl (fun hc13 => ?_) (fun hc13 => ?_)
    · replace h := iteT hc13 h
      refine W_join (fun e C => ref12_simple_j1 x10 = some r ∧ At [(6, Pr.pt b4 0), (7, Pr.i64 0), (8, Pr.pt b5 0)] [Own.box b4 rApiNode (ApiNode.mk 0 [] [] 0 0 0 0 0 []), Own.box b5 rRef12Wrong x10, Own.box b11 rApiNode x8, Own.box b12 rRef12Wrong x10] e C) ?_ ?_
      · rintro e C ⟨h, hat1⟩
        refine W_at hat1 ?_
        clear hat1
        unfold ref12_simple_j1 at h
        obtain rfl := Option.some.inj h
        exact W_ret ⟨rfl, [(rApiNode).val (ApiNode.mk 0 [] [] 0 0 0 0 0 []), Pr.i64 0, (rRef12Wrong).val x10], ⟨yBox 0 ty24 Pr.le_rfl, yT Pr.le_rfl, yBox 1 ty59 Pr.le_rfl, trivial⟩, Pr.le_rfl⟩
      · refine W_drawEx [(2, 0, Own.box b4 rApiNode (ApiNode.mk 0 [] [] 0 0 0 0 0 [])), (4, 1, Own.box b5 rRef12Wrong x10)] [Own.box b4 rApiNode (ApiNode.mk 0 [] [] 0 0 0 0 0 []), Own.box b5 rRef12Wrong x10, Own.box b11 rApiNode x8, Own.box b12 rRef12Wrong x10] hmx (by kernel_rfl) (by kernel_rfl) (show ([2, 4] : List Nat).Nodup by decide) (show ([0, 1] : List Nat).Nodup by decide) rfl rfl ?_
        refine eq1 (out := (rApiNode).val (ApiNode.mk 0 [] [] 0 0 0 0 0 [])) (fun C2 hC => (qBuildR rApiNode_eq st24 rfl)) ?_
        refine eq1 (out := (rRef12Wrong).val x10) (fun C2 hC => (qLoad (R := rRef12Wrong) (a := x10) (R' := rRef12Wrong) 3 ty59 (Sub.refl _) (hi := (hC 3 (by kernel_rfl)).trans rfl))) ?_
        refine eqS (fun C2 hC => sStore (R := rApiNode) (R' := rApiNode) (a := (ApiNode.mk 0 [] [] 0 0 0 0 0 [])) (y := (ApiNode.mk 0 [] [] 0 0 0 0 0 [])) 0 Tryz.sizeOf24 (Upd.refl _) ((hC 0 (by kernel_rfl)).trans rfl)) ?_
        refine eq1 (out := Pr.i64 0) (fun C2 hC => qAssign) ?_
        refine eqS (fun C2 hC => sStore (R := rRef12Wrong) (R' := rRef12Wrong) (a := (Ref12Wrong.mk 0 0)) (y := x10) 1 Tryz.sizeOf59 (Upd.refl _) ((hC 1 (by kernel_rfl)).trans rfl)) ?_
        exact ⟨h, ⟨⟨Pr.le_rfl, Pr.le_rfl, Pr.le_rfl, trivial⟩, Pick.refl _⟩⟩
    · replace h := iteF hc13 h
      refine W_skip ?_
      refine W_seq ?_
      refine W_rs ?_
      refine rq (out := Pr.lst rApiToken x1) qMove ?_
      refine rq (out := Pr.i64 x9) qMove ?_
      obtain ⟨x14, hx14, h⟩ := bindSome h
      refine rq (out := Pr.bool x14) (qCall (ref12_is_ok x1 x9 ([59] : List UInt8) _ hx14)) ?_
      refine rq (out := Pr.bool (!x14)) qNot ?_
      refine W_cond (b := !x14) rfl (fun hc15 => ?_) (fun hc15 => ?_)
      · replace h := iteT hc15 h
        refine W_rs ?_
        refine rq (out := (rApiNode).val (ApiNode.mk 0 [] [] 0 0 0 0 0 [])) (qBuildR rApiNode_eq st24 rfl) ?_
        refine rq (out := Pr.i64 x9) qMove ?_
        obtain ⟨x16, hx16, h⟩ := bindSome h
        refine rq (out := (rRef12Wrong).val x16) (qCall (ref12_syntax_ok x9 _ hx16)) ?_
        refine rStore (R := rApiNode) (R' := rApiNode) (a := (ApiNode.mk 0 [] [] 0 0 0 0 0 [])) (y := (ApiNode.mk 0 [] [] 0 0 0 0 0 [])) 0 Tryz.sizeOf24 (Upd.refl _) ?_
        refine rq (out := Pr.i64 0) qAssign ?_
        refine rStore (R := rRef12Wrong) (R' := rRef12Wrong) (a := (Ref12Wrong.mk 0 0)) (y := x16) 1 Tryz.sizeOf59 (Upd.refl _) ?_
        obtain rfl := Option.some.inj h
        exact W_ret ⟨rfl, [(rApiNode).val (ApiNode.mk 0 [] [] 0 0 0 0 0 []), Pr.i64 0, (rRef12Wrong).val x16], ⟨yBox 0 ty24 Pr.le_rfl, yT Pr.le_rfl, yBox 1 ty59 Pr.le_rfl, trivial⟩, Pr.le_rfl⟩
      · replace h := iteF hc15 h
        refine W_skip ?_
        refine W_rs ?_
        refine rq (out := Pr.lst rApiToken x1) qMove ?_
        refine rq (out := Pr.i64 x2) qMove ?_
        refine rq (out := Pr.i64 x9) qMove ?_
        refine rq (out := Pr.i64 (w64 (x9 + 1))) qInt ?_
        refine rq (out := (rApiNode).val x8) (qLoad (R := rApiNode) (a := x8) (R' := rApiNode) 2 ty24 (Sub.refl _)) ?_
        refine rq (out := Pr.lst rApiNode ([x8] : List ApiNode)) (qBuildSlice1 (R := rApiNode) (a := x8) el22 (Nat.le_of_ble_eq_true rfl)) ?_
        obtain ⟨x17, hx17, h⟩ := bindSome h
        refine rq (out := (rApiNode).val x17) (qCall (ref12_made_ok x1 12 x2 (w64 (x9 + 1)) ([x8] : List ApiNode) _ hx17)) ?_
        refine rq (out := Pr.i64 x9) qMove ?_
        refine rq (out := Pr.i64 (w64 (x9 + 1))) qInt ?_
        obtain ⟨x18, hx18, h⟩ := bindSome h
        refine rq (out := (rRef12Wrong).val x18) (qCall (ref12_fine_ok  _ hx18)) ?_
        refine rStore (R := rApiNode) (R' := rApiNode) (a := (ApiNode.mk 0 [] [] 0 0 0 0 0 [])) (y := x17) 0 Tryz.sizeOf24 (Upd.refl _) ?_
        refine rq (out := Pr.i64 (w64 (x9 + 1))) qAssign ?_
        refine rStore (R := rRef12Wrong) (R' := rRef12Wrong) (a := (Ref12Wrong.mk 0 0)) (y := x18) 1 Tryz.sizeOf59 (Upd.refl _) ?_
        obtain rfl := Option.some.inj h
        exact W_ret ⟨rfl, [(rApiNode).val x17, Pr.i64 (w64 (x9 + 1)), (rRef12Wrong).val x18], ⟨yBox 0 ty24 Pr.le_rfl, yT Pr.le_rfl, yBox 1 ty59 Pr.le_rfl, trivial⟩, Pr.le_rfl⟩
  · replace h := iteF hc7 h
    refine W_skip ?_
    refine W_seq ?_
    refine W_rs ?_
    refine rq (out := Pr.lst rApiToken x1) qMove ?_
    refine rq (out := Pr.i64 x2) qMove ?_
    refine rq (out := Pr.i64 (w64 (x2 + 1))) qInt ?_
    obtain ⟨x19, hx19, h⟩ := bindSome h
    refine rq (out := Pr.bool x19) (qCall (ref12_is_ok x1 (w64 (x2 + 1)) ([59] : List UInt8) _ hx19)) ?_
    refine W_cond (b := x19) rfl (fun hc20 => ?_) (fun hc20 => ?_)
    · replace h := iteT hc20 h
      refine W_rs ?_
      refine rq (out := Pr.lst rApiToken x1) qMove ?_
      refine rq (out := Pr.i64 x2) qMove ?_
      refine rq (out := Pr.i64 x2) qMove ?_
      refine rq (out := Pr.i64 (w64 (x2 + 2))) qInt ?_
      obtain ⟨x21, hx21, h⟩ := bindSome h
      refine rq (out := (rApiNode).val x21) (qCall' (ref12_made_ok x1 11 x2 (w64 (x2 + 2)) [] _ hx21) ⟨Pr.le_rfl, Pr.le_rfl, Pr.le_rfl, Pr.le_rfl, Pr.lst_nil _, trivial⟩) ?_
      refine rq (out := Pr.i64 x2) qMove ?_
      refine rq (out := Pr.i64 (w64 (x2 + 2))) qInt ?_
      obtain ⟨x22, hx22, h⟩ := bindSome h
      refine rq (out := (rRef12Wrong).val x22) (qCall (ref12_fine_ok  _ hx22)) ?_
      refine rStore (R := rApiNode) (R' := rApiNode) (a := (ApiNode.mk 0 [] [] 0 0 0 0 0 [])) (y := x21) 0 Tryz.sizeOf24 (Upd.refl _) ?_
      refine rq (out := Pr.i64 (w64 (x2 + 2))) qAssign ?_
      refine rStore (R := rRef12Wrong) (R' := rRef12Wrong) (a := (Ref12Wrong.mk 0 0)) (y := x22) 1 Tryz.sizeOf59 (Upd.refl _) ?_
      obtain rfl := Option.some.inj h
      exact W_ret ⟨rfl, [(rApiNode).val x21, Pr.i64 (w64 (x2 + 2)), (rRef12Wrong).val x22], ⟨yBox 0 ty24 Pr.le_rfl, yT Pr.le_rfl, yBox 1 ty59 Pr.le_rfl, trivial⟩, Pr.le_rfl⟩
    · replace h := iteF hc20 h
      refine W_skip ?_
      refine W_rs ?_
      refine rq (out := Pr.lst rApiToken x1) qMove ?_
      refine rq (out := Pr.i64 x2) qMove ?_
      refine rq (out := Pr.i64 (w64 (x2 + 1))) qInt ?_
      refine rq (out := Pr.i64 x3) qMove ?_
      refine rq (out := Pr.i64 (w64 (x3 + 1))) qInt ?_
      obtain ⟨⟨x23, x24, x25⟩, hx23, h⟩ := bindSome h
      refine rq (out := Pr.tup [(rApiNode).val x23, Pr.i64 x24, (rRef12Wrong).val x25]) (qCall (ref12_expression_ok x1 (w64 (x2 + 1)) (w64 (x3 + 1)) _ hx23)) ?_
      refine rq (out := Pr.tup [(rApiNode).val x23, Pr.i64 x24, (rRef12Wrong).val x25]) qMove ?_
      refine rq (out := (rApiNode).val x23) qExtract ?_
      refine rq (out := Pr.i64 x24) qExtract ?_
      refine rq (out := (rRef12Wrong).val x25) qExtract ?_
      refine rAlloc (R := rApiNode) (z := (ApiNode.mk 0 [] [] 0 0 0 0 0 [])) Tryz.zeroValue24 (fun _ => (by rw [rApiNode_eq]; exact ⟨_, ⟨_, _, rfl, rfl, ⟨_, _, rfl, rfl, ⟨_, _, rfl, rfl, ⟨_, _, rfl, rfl, ⟨_, _, rfl, rfl, ⟨_, _, rfl, rfl, ⟨_, _, rfl, rfl, ⟨_, _, rfl, rfl, ⟨_, _, rfl, ⟨_, rfl, none, 0, rfl, ⟨Nat.le_refl _, fun _ => rfl⟩, .inl rfl⟩, rfl⟩⟩⟩⟩⟩⟩⟩⟩⟩, rfl⟩)) (fun b26 => ?_)
      refine rAlloc (R := rRef12Wrong) (z := (Ref12Wrong.mk 0 0)) Tryz.zeroValue59 (fun _ => ⟨_, ⟨_, _, rfl, rfl, ⟨_, _, rfl, rfl, rfl⟩⟩, rfl⟩) (fun b27 => ?_)
      refine rStore (R := rApiNode) (R' := rApiNode) (a := (ApiNode.mk 0 [] [] 0 0 0 0 0 [])) (y := x23) 2 Tryz.sizeOf24 (Upd.refl _) ?_
      refine rq (out := Pr.i64 x24) qAssign ?_
      refine rStore (R := rRef12Wrong) (R' := rRef12Wrong) (a := (Ref12Wrong.mk 0 0)) (y := x25) 3 Tryz.sizeOf59 (Upd.refl _) ?_
      refine W_seq ?_
      refine W_rs ?_
      refine rq (out := Pr.pt b27 0) (qFieldP fld59_0) ?_
      refine rq (out := Pr.i64 x25.Place) (qLoad (R := rRef12Wrong) (a := x25) (R' := Rp.int .i64) 3 ty3 subRef12Wrong_Place) ?_
      refine rq (out := Pr.bool (decide (x25.Place ≥ 0))) qInt ?_
      refine W_cond (b := decide (x25.Place ≥ 0)) rfl (fun hc28 => ?_) (fun hc28 => ?_)
      · replace h := iteT hc28 h
        refine W_join (fun e C => ref12_simple_j2 x25 = some r ∧ At [(6, Pr.pt b4 0), (7, Pr.i64 0), (8, Pr.pt b5 0)] [Own.box b4 rApiNode (ApiNode.mk 0 [] [] 0 0 0 0 0 []), Own.box b5 rRef12Wrong x25, Own.box b26 rApiNode x23, Own.box b27 rRef12Wrong x25] e C) ?_ ?_
        · rintro e C ⟨h, hat2⟩
          refine W_at hat2 ?_
          clear hat2
          unfold ref12_simple_j2 at h
          obtain rfl := Option.some.inj h
          exact W_ret ⟨rfl, [(rApiNode).val (ApiNode.mk 0 [] [] 0 0 0 0 0 []), Pr.i64 0, (rRef12Wrong).val x25], ⟨yBox 0 ty24 Pr.le_rfl, yT Pr.le_rfl, yBox 1 ty59 Pr.le_rfl, trivial⟩, Pr.le_rfl⟩
        · refine W_drawEx [(2, 0, Own.box b4 rApiNode (ApiNode.mk 0 [] [] 0 0 0 0 0 [])), (4, 1, Own.box b5 rRef12Wrong x25)] [Own.box b4 rApiNode (ApiNode.mk 0 [] [] 0 0 0 0 0 []), Own.box b5 rRef12Wrong x25, Own.box b26 rApiNode x23, Own.box b27 rRef12Wrong x25] hmx (by kernel_rfl) (by kernel_rfl) (show ([2, 4] : List Nat).Nodup by decide) (show ([0, 1] : List Nat).Nodup by decide) rfl rfl ?_
          refine eq1 (out := (rApiNode).val (ApiNode.mk 0 [] [] 0 0 0 0 0 [])) (fun C2 hC => (qBuildR rApiNode_eq st24 rfl)) ?_
          refine eq1 (out := (rRef12Wrong).val x25) (fun C2 hC => (qLoad (R := rRef12Wrong) (a := x25) (R' := rRef12Wrong) 3 ty59 (Sub.refl _) (hi := (hC 3 (by kernel_rfl)).trans rfl))) ?_
          refine eqS (fun C2 hC => sStore (R := rApiNode) (R' := rApiNode) (a := (ApiNode.mk 0 [] [] 0 0 0 0 0 [])) (y := (ApiNode.mk 0 [] [] 0 0 0 0 0 [])) 0 Tryz.sizeOf24 (Upd.refl _) ((hC 0 (by kernel_rfl)).trans rfl)) ?_
          refine eq1 (out := Pr.i64 0) (fun C2 hC => qAssign) ?_
          refine eqS (fun C2 hC => sStore (R := rRef12Wrong) (R' := rRef12Wrong) (a := (Ref12Wrong.mk 0 0)) (y := x25) 1 Tryz.sizeOf59 (Upd.refl _) ((hC 1 (by kernel_rfl)).trans rfl)) ?_
          exact ⟨h, ⟨⟨Pr.le_rfl, Pr.le_rfl, Pr.le_rfl, trivial⟩, Pick.refl _⟩⟩
      · replace h := iteF hc28 h
        refine W_skip ?_
        refine W_seq ?_
        refine W_rs ?_
        refine rq (out := Pr.lst rApiToken x1) qMove ?_
        refine rq (out := Pr.i64 x24) qMove ?_
        obtain ⟨x29, hx29, h⟩ := bindSome h
        refine rq (out := Pr.bool x29) (qCall (ref12_is_ok x1 x24 ([59] : List UInt8) _ hx29)) ?_
        refine rq (out := Pr.bool (!x29)) qNot ?_
        refine W_cond (b := !x29) rfl (fun hc30 => ?_) (fun hc30 => ?_)
        · replace h := iteT hc30 h
          refine W_rs ?_
          refine rq (out := (rApiNode).val (ApiNode.mk 0 [] [] 0 0 0 0 0 [])) (qBuildR rApiNode_eq st24 rfl) ?_
          refine rq (out := Pr.i64 x24) qMove ?_
          obtain ⟨x31, hx31, h⟩ := bindSome h
          refine rq (out := (rRef12Wrong).val x31) (qCall (ref12_syntax_ok x24 _ hx31)) ?_
          refine rStore (R := rApiNode) (R' := rApiNode) (a := (ApiNode.mk 0 [] [] 0 0 0 0 0 [])) (y := (ApiNode.mk 0 [] [] 0 0 0 0 0 [])) 0 Tryz.sizeOf24 (Upd.refl _) ?_
          refine rq (out := Pr.i64 0) qAssign ?_
          refine rStore (R := rRef12Wrong) (R' := rRef12Wrong) (a := (Ref12Wrong.mk 0 0)) (y := x31) 1 Tryz.sizeOf59 (Upd.refl _) ?_
          obtain rfl := Option.some.inj h
          exact W_ret ⟨rfl, [(rApiNode).val (ApiNode.mk 0 [] [] 0 0 0 0 0 []), Pr.i64 0, (rRef12Wrong).val x31], ⟨yBox 0 ty24 Pr.le_rfl, yT Pr.le_rfl, yBox 1 ty59 Pr.le_rfl, trivial⟩, Pr.le_rfl⟩
        · replace h := iteF hc30 h
          refine W_skip ?_
          refine W_rs ?_
          refine rq (out := Pr.lst rApiToken x1) qMove ?_
          refine rq (out := Pr.i64 x2) qMove ?_
          refine rq (out := Pr.i64 x24) qMove ?_
          refine rq (out := Pr.i64 (w64 (x24 + 1))) qInt ?_
          refine rq (out := (rApiNode).val x23) (qLoad (R := rApiNode) (a := x23) (R' := rApiNode) 2 ty24 (Sub.refl _)) ?_
          refine rq (out := Pr.lst rApiNode ([x23] : List ApiNode)) (qBuildSlice1 (R := rApiNode) (a := x23) el22 (Nat.le_of_ble_eq_true rfl)) ?_
          obtain ⟨x32, hx32, h⟩ := bindSome h
          refine rq (out := (rApiNode).val x32) (qCall (ref12_made_ok x1 11 x2 (w64 (x24 + 1)) ([x23] : List ApiNode) _ hx32)) ?_
          refine rq (out := Pr.i64 x24) qMove ?_
          refine rq (out := Pr.i64 (w64 (x24 + 1))) qInt ?_
          obtain ⟨x33, hx33, h⟩ := bindSome h
          refine rq (out := (rRef12Wrong).val x33) (qCall (ref12_fine_ok  _ hx33)) ?_
          refine rStore (R := rApiNode) (R' := rApiNode) (a := (ApiNode.mk 0 [] [] 0 0 0 0 0 [])) (y := x32) 0 Tryz.sizeOf24 (Upd.refl _) ?_
          refine rq (out := Pr.i64 (w64 (x24 + 1))) qAssign ?_
          refine rStore (R := rRef12Wrong) (R' := rRef12Wrong) (a := (Ref12Wrong.mk 0 0)) (y := x33) 1 Tryz.sizeOf59 (Upd.refl _) ?_
          obtain rfl := Option.some.inj h
          exact W_ret ⟨rfl, [(rApiNode).val x32, Pr.i64 (w64 (x24 + 1)), (rRef12Wrong).val x33], ⟨yBox 0 ty24 Pr.le_rfl, yT Pr.le_rfl, yBox 1 ty59 Pr.le_rfl, trivial⟩, Pr.le_rfl⟩
theorem ref12_local_ok (x1 : List ApiToken) (x2 : Int) (r : Bool) (h : ref12_local x1 x2 = some r) : FnP Tryz.prog 37 [Pr.lst rApiToken x1, Pr.i64 x2] (Pr.bool r) := by
  refine fn_intro (n := 29) (rs := [4]) Tryz.func37 rfl Tryz.ntmps37 ⟨by decide, Tryz.results37⟩ (by decide) (fun s0 => ?_)
  unfold ref12_local at h
  refine W_rs ?_
  refine rq (out := Pr.bool false) qAssign ?_
  refine W_join (fun e C => ∃ (x26 : Bool), ref12_local_j1 x26 = some r ∧ At [(4, Pr.bool x26)] [] e C) ?_ ?_
  · rintro e C ⟨x26, h, hat1⟩
    refine W_at hat1 ?_
    clear hat1
    unfold ref12_local_j1 at h
    obtain rfl := Option.some.inj h
    exact W_ret ⟨rfl, Pr.le_rfl⟩
  · refine W_r ?_
    refine rq (out := Pr.lst rApiToken x1) qMove ?_
    refine rq (out := Pr.i64 x2) qMove ?_
    obtain ⟨x3, hx3, h⟩ := bindSome h
    refine rq (out := Pr.bool x3) (qCall (ref12_is_ok x1 x2 ([105, 110, 116] : List UInt8) _ hx3)) ?_
    refine rq (out := Pr.bool x3) qMove ?_
    rcases iteSome h with ⟨hc4, h⟩ | ⟨hc4, h⟩
    · refine rno (neF hc4) ?_
      refine rno (neF hc4) ?_
      refine rno (neF hc4) ?_
      refine rq (out := Pr.bool true) (qPickT hc4) ?_
      refine rq (out := Pr.bool true) qMove ?_
      have hc16 : true = true := rfl
      refine rno (neF hc16) ?_
      refine rno (neF hc16) ?_
      refine rno (neF hc16) ?_
      refine rq (out := Pr.bool true) (qPickT hc16) ?_
      refine rq (out := Pr.bool true) qMove ?_
      have hc22 : true = true := rfl
      refine rno (neF hc22) ?_
      refine rno (neF hc22) ?_
      refine rno (neF hc22) ?_
      refine rno (neF hc22) ?_
      refine rnoU ?_
      refine rnoU ?_
      refine rnoU ?_
      refine rnoU ?_
      refine rno (neF hc22) ?_
      refine rq (out := Pr.bool true) (qPickT hc22) ?_
      refine rq (out := Pr.bool true) qAssign ?_
      exact ⟨true, h, ⟨⟨Pr.le_rfl, trivial⟩, Pick.refl _⟩⟩
    · refine rqg hc4 (out := Pr.lst rApiToken x1) qMove ?_
      refine rqg hc4 (out := Pr.i64 x2) qMove ?_
      obtain ⟨x5, hx5, h⟩ := bindSome h
      refine rqg hc4 (out := Pr.bool x5) (qCall (ref12_is_ok x1 x2 ([98, 111, 111, 108, 101, 97, 110] : List UInt8) _ hx5)) ?_
      refine rq (out := Pr.bool x5) (qPickF hc4) ?_
      refine rq (out := Pr.bool x5) qMove ?_
      rcases iteSome h with ⟨hc6, h⟩ | ⟨hc6, h⟩
      · refine rno (neF hc6) ?_
        refine rno (neF hc6) ?_
        refine rno (neF hc6) ?_
        refine rq (out := Pr.bool true) (qPickT hc6) ?_
        refine rq (out := Pr.bool true) qMove ?_
        have hc12 : true = true := rfl
        refine rno (neF hc12) ?_
        refine rno (neF hc12) ?_
        refine rno (neF hc12) ?_
        refine rno (neF hc12) ?_
        refine rnoU ?_
        refine rnoU ?_
        refine rnoU ?_
        refine rnoU ?_
        refine rno (neF hc12) ?_
        refine rq (out := Pr.bool true) (qPickT hc12) ?_
        refine rq (out := Pr.bool true) qAssign ?_
        exact ⟨true, h, ⟨⟨Pr.le_rfl, trivial⟩, Pick.refl _⟩⟩
      · refine rqg hc6 (out := Pr.lst rApiToken x1) qMove ?_
        refine rqg hc6 (out := Pr.i64 x2) qMove ?_
        obtain ⟨x7, hx7, h⟩ := bindSome h
        refine rqg hc6 (out := Pr.bool x7) (qCall (ref12_is_ok x1 x2 ([118, 111, 105, 100] : List UInt8) _ hx7)) ?_
        refine rq (out := Pr.bool x7) (qPickF hc6) ?_
        refine rq (out := Pr.bool x7) qMove ?_
        rcases iteSome h with ⟨hc8, h⟩ | ⟨hc8, h⟩
        · refine rno (neF hc8) ?_
          refine rno (neF hc8) ?_
          refine rno (neF hc8) ?_
          refine rno (neF hc8) ?_
          refine rnoU ?_
          refine rnoU ?_
          refine rnoU ?_
          refine rnoU ?_
          refine rno (neF hc8) ?_
          refine rq (out := Pr.bool true) (qPickT hc8) ?_
          refine rq (out := Pr.bool true) qAssign ?_
          exact ⟨true, h, ⟨⟨Pr.le_rfl, trivial⟩, Pick.refl _⟩⟩
        · refine rqg hc8 (out := Pr.lst rApiToken x1) qMove ?_
          refine rqg hc8 (out := Pr.i64 x2) qMove ?_
          obtain ⟨x9, hx9, h⟩ := bindSome h
          refine rqg hc8 (out := Pr.bool x9) (qCall (ref12_name_ok x1 x2 _ hx9)) ?_
          refine rqg hc8 (out := Pr.bool x9) qMove ?_
          rcases iteSome h with ⟨hc10, h⟩ | ⟨hc10, h⟩
          · refine rqg hc10 (out := Pr.lst rApiToken x1) qMove ?_
            refine rqg hc10 (out := Pr.i64 x2) qMove ?_
            refine rqg hc10 (out := Pr.i64 (w64 (x2 + 1))) qInt ?_
            obtain ⟨x11, hx11, h⟩ := bindSome h
            refine rqg hc10 (out := Pr.bool x11) (qCall (ref12_name_ok x1 (w64 (x2 + 1)) _ hx11)) ?_
            refine rqg hc8 (out := Pr.bool x11) (qPickT hc10) ?_
            refine rq (out := Pr.bool x11) (qPickF hc8) ?_
            refine rq (out := Pr.bool x11) qAssign ?_
            exact ⟨x11, h, ⟨⟨Pr.le_rfl, trivial⟩, Pick.refl _⟩⟩
          · refine rno (neT hc10) ?_
            refine rno (neT hc10) ?_
            refine rno (neT hc10) ?_
            refine rno (neT hc10) ?_
            refine rqg hc8 (out := Pr.bool false) (qPickF hc10) ?_
            refine rq (out := Pr.bool false) (qPickF hc8) ?_
            refine rq (out := Pr.bool false) qAssign ?_
            exact ⟨false, h, ⟨⟨Pr.le_rfl, trivial⟩, Pick.refl _⟩⟩
end Go.Proofs.YtgkcoicaopilhaaGreatDoor
