/- The code comes to what these functions say (printed by wip/gen/gen.py). -/
import Derived.Test.YtphkaogfinjbjaaGreatDoorZX
import Derived.Test.YtphkaogfinjbjaaGreatDoorZT
set_option linter.unusedSimpArgs false
set_option linter.unusedVariables false
set_option linter.unusedSectionVars false
/- The code comes to what these functions say (printed by wip/gen/gen.py). -/
set_option linter.unusedSectionVars false
set_option maxRecDepth 100000
set_option maxHeartbeats 4000000
namespace Go.Proofs.YtphkaogfinjbjaaGreatDoor
open Go Go.Cn
variable [Known]
theorem cells_once_ok (x1 : List (List UInt8)) (r : (List (List UInt8))) (h : cells_once x1 = some r) : FnP Tryz.prog 26 [Pr.lst Rp.str x1] (Pr.lst Rp.str r) := by
  refine fn_intro (n := 26) (rs := [2]) Tryz.func26 rfl Tryz.ntmps26 ⟨by decide, Tryz.results26⟩ (by decide) (fun s0 => ?_)
  unfold cells_once at h
  refine W_rs ?_
  refine rq (out := Pr.is (.slice none 0 0)) qAssign ?_
  refine W_rs ?_
  refine rMakeMap Rp.bool (fun b2 => ?_)
  refine rq (out := Pr.mp b2) qAssign ?_
  refine W_rs ?_
  refine rq (out := Pr.is (.slice none 0 0)) qAssign ?_
  refine W_seq ?_
  refine W_rs ?_
  refine rq (out := Pr.lst Rp.str x1) qMove ?_
  refine rq (out := Pr.i64 (x1.length : Int)) (qLenL rfl Tryz.underlying33) ?_
  refine rq (out := Pr.i64 0) qMove ?_
  refine W_block ?_
  obtain ⟨z2l, hz2, h⟩ := bindSome h
  obtain ⟨n2, hN2⟩ := iter_some hz2
  clear hz2
  refine W_after 0 (fun e C => ∃ (x5 : SMap Bool), ∃ (x6 : List (List UInt8)), ∃ (v3 : Value), cells_once_k1 x5 x6 = some r ∧ At [(4, Pr.is v3)] [Own.smap b2 Rp.bool x5, Own.vec v3 Rp.str x6 9] e C) ?_ ?_
  · rintro e C ⟨x5, x6, v3, h, hat1⟩
    refine W_at hat1 ?_
    clear hat1
    unfold cells_once_k1 at h
    refine W_rs ?_
    refine rq (out := Pr.is v3) qMove ?_
    refine rq (out := Pr.is v3) qAssign ?_
    refine W_rel 1 [2] ?_ rfl ⟨rfl, trivial⟩
    obtain rfl := Option.some.inj h
    exact W_ret ⟨rfl, Pr.le_rfl⟩
  · refine W_nil [4] Rp.str 9 (fun v18 => ?_) ⟨rfl, trivial⟩
    refine W_loop (fun m e C => ∃ (x4 : Int), ∃ (x5 : SMap Bool), ∃ (x6 : List (List UInt8)), ∃ (v3 : Value), IterN (fun s => cells_once_l2 x1 s.1 s.2.1 s.2.2) m (x4, x5, x6) = some z2l ∧ At [(3, Pr.mp b2), (4, Pr.is v3), (8, Pr.lst Rp.str x1), (9, Pr.i64 (x1.length : Int)), (10, Pr.i64 x4)] [Own.smap b2 Rp.bool x5, Own.vec v3 Rp.str x6 9] e C) n2 ⟨0, ([] : SMap Bool), [], v18, hN2, ⟨⟨Pr.le_rfl, Pr.le_rfl, Pr.le_rfl, Pr.le_rfl, Pr.le_rfl, trivial⟩, Pick.refl _⟩⟩ ?_
    clear hN2
    rintro m e C ⟨x4, x5, x6, v3, hN2, hatl2⟩
    refine W_at hatl2 ?_
    clear hatl2
    obtain ⟨m2, w2l, rfl, h2l, hn2, ho2⟩ := iterN_some hN2
    clear hN2
    replace h2l : cells_once_l2 x1 x4 x5 x6 = some w2l := h2l
    unfold cells_once_l2 at h2l
    refine W_rs ?_
    refine rq (out := Pr.bool (decide (x4 < (x1.length : Int)))) qInt ?_
    refine W_seq ?_
    refine W_cond (b := decide (x4 < (x1.length : Int))) rfl (fun hc11 => ?_) (fun hc11 => ?_)
    · replace h2l := iteT hc11 h2l
      refine W_skip ?_
      refine W_seq ?_
      refine W_block ?_
      refine W_rs ?_
      obtain ⟨x12, hx12, h2l⟩ := bindSome h2l
      refine rq (out := Pr.cpt Rp.str x12) (qIdxA (R := Rp.str) (l := x1) Tryz.underlying33 Tryz.sizeOf9 hx12) ?_
      refine rq (out := Pr.str x12) (qLoadC (R := Rp.str) (a := x12) ty9) ?_
      refine rq (out := Pr.str x12) qAssign ?_
      refine W_join (fun e C => ∃ (x17 : List (List UInt8)), ∃ (v16 : Value), cells_once_j3 x4 x12 x5 x17 = some w2l ∧ At [(3, Pr.mp b2), (4, Pr.is v16), (6, Pr.str x12), (8, Pr.lst Rp.str x1), (9, Pr.i64 (x1.length : Int)), (10, Pr.i64 x4)] [Own.smap b2 Rp.bool x5, Own.vec v16 Rp.str x17 9] e C) ?_ ?_
      · rintro e C ⟨x17, v16, h2l, hat3⟩
        refine W_at hat3 ?_
        clear hat3
        unfold cells_once_j3 at h2l
        refine W_r ?_
        refine rq (out := Pr.mp b2) qMove ?_
        refine rq (out := Pr.str x12) qMove ?_
        refine rMapSet (R := Rp.bool) (m := x5) (kx := x12) (v := true) 0 Tryz.underlying77 Tryz.underlying9 ?_
        refine W_r ?_
        refine rq (out := Pr.i64 (w64 (x4 + 1))) qInt ?_
        refine rq (out := Pr.i64 (w64 (x4 + 1))) qMove ?_
        exact ⟨m2, Nat.lt_succ_self _, w64 (x4 + 1), (mset x12 true x5), x17, v16, hn2 _ (Option.some.inj h2l).symm, ⟨⟨Pr.le_rfl, Pr.le_rfl, Pr.le_rfl, Pr.le_rfl, Pr.le_rfl, trivial⟩, Pick.refl _⟩⟩
      · refine W_rs ?_
        refine rq (out := Pr.mp b2) qMove ?_
        refine rq (out := Pr.str x12) qMove ?_
        refine rq (out := Pr.bool (mget x12 false x5)) (qMapGet (R := Rp.bool) (m := x5) (kx := x12) (z := false) 0 Tryz.underlying77 Tryz.underlying9 Tryz.zeroValue4 (fun _ => rfl)) ?_
        refine rq (out := Pr.bool (!(mget x12 false x5))) qNot ?_
        refine W_cond (b := !(mget x12 false x5)) rfl (fun hc13 => ?_) (fun hc13 => ?_)
        · replace h2l := iteT hc13 h2l
          refine W_r ?_
          refine rq (out := Pr.is v3) qMove ?_
          refine rq (out := Pr.str x12) qMove ?_
          refine rq (out := Pr.lst Rp.str ([x12] : List (List UInt8))) (qBuildSlice1 (R := Rp.str) (a := x12) el33 (Nat.le_of_ble_eq_true rfl)) ?_
          obtain ⟨x14, hx14, h2l⟩ := bindSome h2l
          refine rAppend' 1 el33 hx14 (fun v15 => ?_)
          refine rq (out := Pr.is v15) qAssign ?_
          exact ⟨x14, v15, h2l, ⟨⟨Pr.le_rfl, Pr.le_rfl, Pr.le_rfl, Pr.le_rfl, Pr.le_rfl, Pr.le_rfl, trivial⟩, Pick.refl _⟩⟩
        · replace h2l := iteF hc13 h2l
          refine W_skip ?_
          exact ⟨x6, v3, h2l, ⟨⟨Pr.le_rfl, Pr.le_rfl, Pr.le_rfl, Pr.le_rfl, Pr.le_rfl, Pr.le_rfl, trivial⟩, Pick.refl _⟩⟩
    · replace h2l := iteF hc11 h2l
      refine W_exit ?_
      obtain rfl := ho2 _ (Option.some.inj h2l).symm
      exact ⟨x5, x6, v3, h, ⟨⟨Pr.le_rfl, trivial⟩, Pick.refl _⟩⟩
theorem cells_keys_ok (x1 : List (List ApiSegment)) (r : (List (List UInt8))) (h : cells_keys x1 = some r) : FnP Tryz.prog 24 [Pr.lst (Rp.list rApiSegment) x1] (Pr.lst Rp.str r) := by
  refine fn_intro (n := 29) (rs := [2]) Tryz.func24 rfl Tryz.ntmps24 ⟨by decide, Tryz.results24⟩ (by decide) (fun s0 => ?_)
  unfold cells_keys at h
  refine W_rs ?_
  refine rq (out := Pr.is (.slice none 0 0)) qAssign ?_
  refine W_rs ?_
  refine rq (out := Pr.is (.slice none 0 0)) qAssign ?_
  refine W_seq ?_
  refine W_rs ?_
  refine rq (out := Pr.lst (Rp.list rApiSegment) x1) qMove ?_
  refine rq (out := Pr.i64 (x1.length : Int)) (qLenL rfl Tryz.underlying73) ?_
  refine rq (out := Pr.i64 0) qMove ?_
  refine W_block ?_
  obtain ⟨z2l, hz2, h⟩ := bindSome h
  obtain ⟨n2, hN2⟩ := iter_some hz2
  clear hz2
  refine W_after 0 (fun e C => ∃ (x4 : List (List UInt8)), ∃ (v2 : Value), cells_keys_k1 x4 = some r ∧ At [(3, Pr.is v2)] [Own.vec v2 Rp.str x4 9] e C) ?_ ?_
  · rintro e C ⟨x4, v2, h, hat1⟩
    refine W_at hat1 ?_
    clear hat1
    unfold cells_keys_k1 at h
    refine W_rs ?_
    refine rq (out := Pr.is v2) qMove ?_
    obtain ⟨x21, hx21, h⟩ := bindSome h
    refine rRel 0 [3, 27] ?_ rfl ⟨rfl, rfl, trivial⟩
    refine rq (out := Pr.lst Rp.str x21) (qCall (cells_once_ok x4 _ hx21)) ?_
    refine rq (out := Pr.lst Rp.str x21) qAssign ?_
    obtain rfl := Option.some.inj h
    exact W_ret ⟨rfl, Pr.le_rfl⟩
  · refine W_nil [3] Rp.str 9 (fun v22 => ?_) ⟨rfl, trivial⟩
    refine W_loop (fun m e C => ∃ (x3 : Int), ∃ (x4 : List (List UInt8)), ∃ (v2 : Value), IterN (fun s => cells_keys_l2 x1 s.1 s.2) m (x3, x4) = some z2l ∧ At [(3, Pr.is v2), (8, Pr.lst (Rp.list rApiSegment) x1), (9, Pr.i64 (x1.length : Int)), (10, Pr.i64 x3)] [Own.vec v2 Rp.str x4 9] e C) n2 ⟨0, [], v22, hN2, ⟨⟨Pr.le_rfl, Pr.le_rfl, Pr.le_rfl, Pr.le_rfl, trivial⟩, Pick.refl _⟩⟩ ?_
    clear hN2
    rintro m e C ⟨x3, x4, v2, hN2, hatl2⟩
    refine W_at hatl2 ?_
    clear hatl2
    obtain ⟨m2, w2l, rfl, h2l, hn2, ho2⟩ := iterN_some hN2
    clear hN2
    replace h2l : cells_keys_l2 x1 x3 x4 = some w2l := h2l
    unfold cells_keys_l2 at h2l
    refine W_rs ?_
    refine rq (out := Pr.bool (decide (x3 < (x1.length : Int)))) qInt ?_
    refine W_seq ?_
    refine W_cond (b := decide (x3 < (x1.length : Int))) rfl (fun hc8 => ?_) (fun hc8 => ?_)
    · replace h2l := iteT hc8 h2l
      refine W_skip ?_
      refine W_seq ?_
      refine W_block ?_
      refine W_rs ?_
      obtain ⟨x9, hx9, h2l⟩ := bindSome h2l
      refine rq (out := Pr.cpt (Rp.list rApiSegment) x9) (qIdxA (R := Rp.list rApiSegment) (l := x1) Tryz.underlying73 Tryz.sizeOf22 hx9) ?_
      refine rq (out := Pr.lst rApiSegment x9) (qLoadC (R := Rp.list rApiSegment) (a := x9) ty22) ?_
      refine rq (out := Pr.lst rApiSegment x9) qAssign ?_
      refine W_rs ?_
      refine rq (out := Pr.lst rApiSegment x9) qMove ?_
      refine rq (out := Pr.i64 (x9.length : Int)) (qLenL rfl Tryz.underlying22) ?_
      refine rq (out := Pr.i64 0) qMove ?_
      refine W_block ?_
      obtain ⟨z4l, hz4, h2l⟩ := bindSome h2l
      obtain ⟨n4, hN4⟩ := iter_some hz4
      clear hz4
      refine W_after 2 (fun e C => ∃ (x12 : List (List UInt8)), ∃ (v10 : Value), cells_keys_k3 x3 x12 = some w2l ∧ At [(3, Pr.is v10), (8, Pr.lst (Rp.list rApiSegment) x1), (9, Pr.i64 (x1.length : Int)), (10, Pr.i64 x3)] [Own.vec v10 Rp.str x12 9] e C) ?_ ?_
      · rintro e C ⟨x12, v10, h2l, hat3⟩
        refine W_at hat3 ?_
        clear hat3
        unfold cells_keys_k3 at h2l
        refine W_r ?_
        refine rq (out := Pr.i64 (w64 (x3 + 1))) qInt ?_
        refine rq (out := Pr.i64 (w64 (x3 + 1))) qMove ?_
        exact ⟨m2, Nat.lt_succ_self _, w64 (x3 + 1), x12, v10, hn2 _ (Option.some.inj h2l).symm, ⟨⟨Pr.le_rfl, Pr.le_rfl, Pr.le_rfl, Pr.le_rfl, trivial⟩, Pick.refl _⟩⟩
      · refine W_loop (fun m e C => ∃ (x11 : Int), ∃ (x12 : List (List UInt8)), ∃ (v10 : Value), IterN (fun s => cells_keys_l4 x9 s.1 s.2) m (x11, x12) = some z4l ∧ At [(3, Pr.is v10), (8, Pr.lst (Rp.list rApiSegment) x1), (9, Pr.i64 (x1.length : Int)), (10, Pr.i64 x3), (14, Pr.lst rApiSegment x9), (15, Pr.i64 (x9.length : Int)), (16, Pr.i64 x11)] [Own.vec v10 Rp.str x12 9] e C) n4 ⟨0, x4, v2, hN4, ⟨⟨Pr.le_rfl, Pr.le_rfl, Pr.le_rfl, Pr.le_rfl, Pr.le_rfl, Pr.le_rfl, Pr.le_rfl, trivial⟩, Pick.refl _⟩⟩ ?_
        clear hN4
        rintro m e C ⟨x11, x12, v10, hN4, hatl4⟩
        refine W_at hatl4 ?_
        clear hatl4
        obtain ⟨m4, w4l, rfl, h4l, hn4, ho4⟩ := iterN_some hN4
        clear hN4
        replace h4l : cells_keys_l4 x9 x11 x12 = some w4l := h4l
        unfold cells_keys_l4 at h4l
        refine W_rs ?_
        refine rq (out := Pr.bool (decide (x11 < (x9.length : Int)))) qInt ?_
        refine W_seq ?_
        refine W_cond (b := decide (x11 < (x9.length : Int))) rfl (fun hc16 => ?_) (fun hc16 => ?_)
        · replace h4l := iteT hc16 h4l
          refine W_skip ?_
          refine W_seq ?_
          refine W_block ?_
          refine W_rs ?_
          obtain ⟨x17, hx17, h4l⟩ := bindSome h4l
          refine rq (out := Pr.cpt rApiSegment x17) (qIdxA (R := rApiSegment) (l := x9) Tryz.underlying22 Tryz.sizeOf38 hx17) ?_
          refine rq (out := (rApiSegment).val x17) (qLoadC (R := rApiSegment) (a := x17) ty38) ?_
          refine rAlloc (R := rApiSegment) (z := (ApiSegment.mk [] [])) Tryz.zeroValue38 (fun _ => ⟨_, ⟨_, _, rfl, rfl, ⟨_, _, rfl, rfl, rfl⟩⟩, rfl⟩) (fun b18 => ?_)
          refine rStore (R := rApiSegment) (R' := rApiSegment) (a := (ApiSegment.mk [] [])) (y := x17) 1 Tryz.sizeOf38 (Upd.refl _) ?_
          refine W_r ?_
          refine rq (out := Pr.is v10) qMove ?_
          refine rq (out := Pr.pt b18 0) (qFieldP fld38_0) ?_
          refine rq (out := Pr.str x17.Key) (qLoad (R := rApiSegment) (a := x17) (R' := Rp.str) 1 ty9 subApiSegment_Key) ?_
          refine rq (out := Pr.lst Rp.str ([x17.Key] : List (List UInt8))) (qBuildSlice1 (R := Rp.str) (a := x17.Key) el33 (Nat.le_of_ble_eq_true rfl)) ?_
          obtain ⟨x19, hx19, h4l⟩ := bindSome h4l
          refine rAppend' 0 el33 hx19 (fun v20 => ?_)
          refine rq (out := Pr.is v20) qAssign ?_
          refine W_r ?_
          refine rq (out := Pr.i64 (w64 (x11 + 1))) qInt ?_
          refine rq (out := Pr.i64 (w64 (x11 + 1))) qMove ?_
          exact ⟨m4, Nat.lt_succ_self _, w64 (x11 + 1), x19, v20, hn4 _ (Option.some.inj h4l).symm, ⟨⟨Pr.le_rfl, Pr.le_rfl, Pr.le_rfl, Pr.le_rfl, Pr.le_rfl, Pr.le_rfl, Pr.le_rfl, trivial⟩, Pick.of [0] rfl⟩⟩
        · replace h4l := iteF hc16 h4l
          refine W_exit ?_
          obtain rfl := ho4 _ (Option.some.inj h4l).symm
          exact ⟨x12, v10, h2l, ⟨⟨Pr.le_rfl, Pr.le_rfl, Pr.le_rfl, Pr.le_rfl, trivial⟩, Pick.refl _⟩⟩
    · replace h2l := iteF hc8 h2l
      refine W_exit ?_
      obtain rfl := ho2 _ (Option.some.inj h2l).symm
      exact ⟨x4, v2, h, ⟨⟨Pr.le_rfl, trivial⟩, Pick.refl _⟩⟩
theorem cells_of_ok (x1 : List UInt8) (x2 : Bool) (r : (List (List UInt8))) (h : cells_of x1 x2 = some r) : FnP Tryz.prog 33 [Pr.str x1, Pr.bool x2] ((Rp.arr 2 Rp.str).val r) := by
  refine fn_introR (n := 10) (rs := [.cell 4 56]) Tryz.func33 rfl Tryz.ntmps33 Tryz.results33 (by decide) (fun s0 => ?_)
  unfold cells_of at h
  refine W_rs ?_
  refine rAlloc (R := Rp.arr 2 Rp.str) (z := (List.replicate 2 [])) Tryz.zeroValue56 (fun _ => ⟨_, ⟨rfl, ⟨_, _, rfl, rfl, ⟨_, _, rfl, rfl, rfl⟩⟩⟩, rfl⟩) (fun b3 => ?_)
  refine W_seq ?_
  refine W_rs ?_
  refine rq (out := Pr.bool x2) qMove ?_
  refine rq (out := Pr.bool (!x2)) qNot ?_
  refine W_cond (b := !x2) rfl (fun hc4 => ?_) (fun hc4 => ?_)
  · replace h := iteT hc4 h
    refine W_rs ?_
    refine rq (out := (Rp.arr 2 Rp.str).val (List.replicate 2 [])) (qBuildZ (R := Rp.str) (z := (List.replicate 2 [])) Tryz.underlying56 Tryz.zeroValue56 (fun _ => ⟨_, ⟨rfl, ⟨_, _, rfl, rfl, ⟨_, _, rfl, rfl, rfl⟩⟩⟩, rfl⟩) Tryz.sizeOf9) ?_
    refine rStore (R := Rp.arr 2 Rp.str) (R' := Rp.arr 2 Rp.str) (a := (List.replicate 2 [])) (y := (List.replicate 2 [])) 0 Tryz.sizeOf56 (Upd.refl _) ?_
    obtain rfl := Option.some.inj h
    exact W_ret ⟨rfl, [(Rp.arr 2 Rp.str).val (List.replicate 2 [])], ⟨yBox 0 ty56 Pr.le_rfl, trivial⟩, Pr.le_rfl⟩
  · replace h := iteF hc4 h
    refine W_skip ?_
    refine W_rs ?_
    refine rq (out := Pr.str x1) qMove ?_
    refine rq (out := (Rp.arr 2 Rp.str).val ([([116, 104, 101, 114, 101] : List UInt8), x1] : List (List UInt8))) (qBuildA (R := Rp.str) (ls := ([([116, 104, 101, 114, 101] : List UInt8), x1] : List (List UInt8))) Tryz.underlying56 Tryz.zeroValue56 rfl Tryz.sizeOf9 (by decide) ⟨rfl, rfl⟩ ⟨rfl, rfl, trivial⟩) ?_
    refine rStore (R := Rp.arr 2 Rp.str) (R' := Rp.arr 2 Rp.str) (a := (List.replicate 2 [])) (y := ([([116, 104, 101, 114, 101] : List UInt8), x1] : List (List UInt8))) 0 Tryz.sizeOf56 (Upd.refl _) ?_
    obtain rfl := Option.some.inj h
    exact W_ret ⟨rfl, [(Rp.arr 2 Rp.str).val ([([116, 104, 101, 114, 101] : List UInt8), x1] : List (List UInt8))], ⟨yBox 0 ty56 Pr.le_rfl, trivial⟩, Pr.le_rfl⟩
theorem slices_Backward_api_Segment_api_Segment_1_ok {σ : Type} (yld : σ → (Int × ApiSegment) → Option (Bool × σ)) (Y : YI σ) (l : Nat) (hY : YOK Tryz.prog Y l (fun a => [Pr.i64 a.1, (rApiSegment).val a.2]) yld) (x2 : List ApiSegment) (x3 : σ) (b1 : Nat) (v4 : List Nat) (r : (List ApiSegment) × (σ)) (h : slices_Backward_api_Segment_api_Segment_1 yld x2 x3 = some r) : FnC Tryz.prog 57 ([] ++ [Pr.yl l] ++ [Pr.pt b1 0]) ([Own.box b1 (Rp.list rApiSegment) x2] ++ [Own.grp Y x3 v4]) (fun _ C' => ∃ w9, C' = [Own.box b1 (Rp.list rApiSegment) r.1] ++ [Own.grp Y r.2 w9]) := by
  refine fnc_introP (n := 19) (rs := []) Tryz.func57 rfl Tryz.ntmps57 ⟨by decide, Tryz.results57⟩ (by decide) (fun s0 => ?_)
  unfold slices_Backward_api_Segment_api_Segment_1 at h
  refine W_rs ?_
  refine rq (out := Pr.lst rApiSegment x2) (qLoad (R := Rp.list rApiSegment) (a := x2) (R' := Rp.list rApiSegment) 0 ty22 (Sub.refl _)) ?_
  refine rq (out := Pr.i64 (x2.length : Int)) (qLenL rfl Tryz.underlying22) ?_
  refine rq (out := Pr.i64 (w64 ((x2.length : Int) - 1))) qInt ?_
  refine rq (out := Pr.i64 (w64 ((x2.length : Int) - 1))) qAssign ?_
  refine W_block ?_
  obtain ⟨z2l, hz2, h⟩ := bindSome h
  obtain ⟨n2, hN2⟩ := iter_some hz2
  clear hz2
  refine W_after 0 (fun e C => ∃ (x6 : σ), ∃ (v7 : List Nat), slices_Backward_api_Segment_api_Segment_1_k1 yld x2 x6 = some r ∧ At [] [Own.box b1 (Rp.list rApiSegment) x2, Own.grp Y x6 v7] e C) ?_ ?_
  · rintro e C ⟨x6, v7, h, hat1⟩
    unfold slices_Backward_api_Segment_api_Segment_1_k1 at h
    obtain rfl := Option.some.inj h
    exact ⟨.inr rfl, _, (Pick.trans hat1.2 (Pick.refl _)), _, Pr.le_rfl, v7, rfl⟩
  · refine W_loop (fun m e C => ∃ (x5 : Int), ∃ (x6 : σ), ∃ (v7 : List Nat), IterN (fun s => slices_Backward_api_Segment_api_Segment_1_l2 yld x2 s.1 s.2) m (x5, x6) = some z2l ∧ At [(0, Pr.yl l), (1, Pr.pt b1 0), (3, Pr.i64 x5)] [Own.box b1 (Rp.list rApiSegment) x2, Own.grp Y x6 v7] e C) n2 ⟨w64 ((x2.length : Int) - 1), x3, v4, hN2, ⟨⟨Pr.le_rfl, Pr.le_rfl, Pr.le_rfl, trivial⟩, Pick.refl _⟩⟩ ?_
    clear hN2
    rintro m e C ⟨x5, x6, v7, hN2, hatl2⟩
    refine W_at hatl2 ?_
    clear hatl2
    obtain ⟨m2, w2l, rfl, h2l, hn2, ho2⟩ := iterN_some hN2
    clear hN2
    replace h2l : slices_Backward_api_Segment_api_Segment_1_l2 yld x2 x5 x6 = some w2l := h2l
    unfold slices_Backward_api_Segment_api_Segment_1_l2 at h2l
    refine W_seq ?_
    refine W_rs ?_
    refine rq (out := Pr.i64 x5) qMove ?_
    refine rq (out := Pr.bool (decide (x5 ≥ 0))) qInt ?_
    refine W_cond (b := decide (x5 ≥ 0)) rfl (fun hc11 => ?_) (fun hc11 => ?_)
    · replace h2l := iteT hc11 h2l
      refine W_skip ?_
      refine W_seq ?_
      refine W_block ?_
      refine W_rs ?_
      refine rq (out := Pr.yl l) qMove ?_
      refine rq (out := Pr.i64 x5) qMove ?_
      refine rq (out := Pr.lst rApiSegment x2) (qLoad (R := Rp.list rApiSegment) (a := x2) (R' := Rp.list rApiSegment) 0 ty22 (Sub.refl _)) ?_
      refine rq (out := Pr.i64 x5) qMove ?_
      obtain ⟨x12, hx12, h2l⟩ := bindSome h2l
      refine rq (out := Pr.cpt rApiSegment x12) (qIdxA (R := rApiSegment) (l := x2) Tryz.underlying22 Tryz.sizeOf38 hx12) ?_
      refine rq (out := (rApiSegment).val x12) (qLoadC (R := rApiSegment) (a := x12) ty38) ?_
      obtain ⟨⟨x13, x14⟩, hx13, h2l⟩ := bindSome h2l
      refine rYield 1 (a := (x5, x12)) hY hx13 (fun v15 => ?_)
      refine rq (out := Pr.bool (!x13)) qNot ?_
      refine W_cond (b := !x13) rfl (fun hc16 => ?_) (fun hc16 => ?_)
      · replace h2l := iteT hc16 h2l
        obtain rfl := ho2 _ (Option.some.inj h2l).symm
        replace h : some (x2, x14) = some r := h
        obtain rfl := Option.some.inj h
        exact W_ret ⟨.inl rfl, _, Pick.of [1, 0] rfl, _, Pr.le_rfl, v15, rfl⟩
      · replace h2l := iteF hc16 h2l
        refine W_skip ?_
        refine W_r ?_
        refine rq (out := Pr.i64 x5) qMove ?_
        refine rq (out := Pr.i64 (w64 (x5 - 1))) qInt ?_
        refine rq (out := Pr.i64 (w64 (x5 - 1))) qAssign ?_
        exact ⟨m2, Nat.lt_succ_self _, w64 (x5 - 1), x14, v15, hn2 _ (Option.some.inj h2l).symm, ⟨⟨Pr.le_rfl, Pr.le_rfl, Pr.le_rfl, trivial⟩, Pick.of [1, 0] rfl⟩⟩
    · replace h2l := iteF hc11 h2l
      refine W_exit ?_
      obtain rfl := ho2 _ (Option.some.inj h2l).symm
      exact ⟨x6, v7, h, ⟨trivial, Pick.refl _⟩⟩
theorem slices_Backward_api_Segment_api_Segment_ok (x1 : List ApiSegment) : FnC Tryz.prog 45 [Pr.lst rApiSegment x1] [] (fun q C' => ∃ b2, q = Pr.clo 57 [] [Pr.pt b2 0] ∧ C' = [Own.box b2 (Rp.list rApiSegment) x1]) := by
  refine fnc_introP (n := 4) (rs := [2]) Tryz.func45 rfl Tryz.ntmps45 ⟨by decide, Tryz.results45⟩ (by decide) (fun s0 => ?_)
  refine W_rs ?_
  refine rBox (R := Rp.list rApiSegment) (a := x1) rfl (fun b2 => ?_)
  refine rq (out := Pr.is .nilFunc) qAssign ?_
  refine W_rs ?_
  refine rq (out := Pr.clo 57 [] [Pr.pt b2 0]) qMakeFunc ?_
  refine rq (out := Pr.clo 57 [] [Pr.pt b2 0]) qAssign ?_
  exact W_ret ⟨.inl rfl, _, Pick.refl _, _, Pr.le_rfl, b2, rfl, rfl⟩
theorem cells_table_ok (x1 : List ApiSegment) (r : (SMap (List (List UInt8)))) (h : cells_table x1 = some r) : FnP Tryz.prog 25 [Pr.lst rApiSegment x1] (Pr.mapS (Rp.arr 2 Rp.str) r) := by
  refine fn_intro (n := 18) (rs := [2]) Tryz.func25 rfl Tryz.ntmps25 ⟨by decide, Tryz.results25⟩ (by decide) (fun s0 => ?_)
  unfold cells_table at h
  refine W_rs ?_
  refine rq (out := Pr.is (.map none)) qAssign ?_
  refine W_rs ?_
  refine rMakeMap (Rp.arr 2 Rp.str) (fun b2 => ?_)
  refine rAlloc (R := Rp.mapO) (z := none) Tryz.zeroValue51 (fun _ => rfl) (fun b3 => ?_)
  refine rStore (R := Rp.mapO) (R' := Rp.mapO) (a := none) (y := (some b2)) 1 Tryz.sizeOf51 (Upd.refl _) ?_
  refine W_rs2 ?_
  refine W_r ?_
  refine rq (out := Pr.lst rApiSegment x1) qMove ?_
  refine rCallC [] (slices_Backward_api_Segment_api_Segment_ok x1) (fun q C' hq => ?_)
  obtain ⟨b4, rfl, rfl⟩ := hq
  refine ⟨rfl, ?_⟩
  obtain ⟨⟨x11, x12⟩, hx13, h⟩ := bindSome h
  refine W_range [0] (fun (s : (SMap (List (List UInt8)))) C => C = [Own.smap b2 (Rp.arr 2 Rp.str) s, Own.box b3 Rp.mapO (some b2)]) (encs := (fun (a : Int × ApiSegment) => [Pr.i64 a.1, (rApiSegment).val a.2])) (yld := (fun (s : (SMap (List (List UInt8)))) (a : Int × ApiSegment) => cells_table_r1 s a.1 a.2)) (st0 := ([] : SMap (List (List UInt8)))) (stF := x12) (Ccap' := [Own.box b4 (Rp.list rApiSegment) x11]) (fun l Y L hY => slices_Backward_api_Segment_api_Segment_1_ok _ Y l hY x1 ([] : SMap (List (List UInt8))) b4 L _ hx13) rfl (fun _ => rfl) ?_ ?_ (fun _ _ _ h => h.1)
  · rintro l x7 ⟨x5, x6⟩ ⟨rb1, rs1⟩ C T s0 rfl hy1
    replace hy1 : cells_table_r1 x7 x5 x6 = some (rb1, rs1) := hy1
    unfold cells_table_r1 at hy1
    refine W_r ?_
    refine rAlloc (R := rApiSegment) (z := (ApiSegment.mk [] [])) Tryz.zeroValue38 (fun _ => ⟨_, ⟨_, _, rfl, rfl, ⟨_, _, rfl, rfl, rfl⟩⟩, rfl⟩) (fun b9 => ?_)
    refine rStore (R := rApiSegment) (R' := rApiSegment) (a := (ApiSegment.mk [] [])) (y := x6) 2 Tryz.sizeOf38 (Upd.refl _) ?_
    refine ⟨rfl, fun T s0 => ?_⟩
    refine W_pickK ?_
    refine W_block ?_
    refine W_draw 6 hmx (by kernel_rfl) (by kernel_rfl) ?_
    refine qq (out := Pr.mp b2) (qLoad (R := Rp.mapO) (a := (some b2)) (R' := Rp.mapO) 1 ty51 (Sub.refl _)) ?_
    refine qq (out := Pr.pt b9 0) (qFieldP fld38_0) ?_
    refine qq (out := Pr.str x6.Key) (qLoad (R := rApiSegment) (a := x6) (R' := Rp.str) 2 ty9 subApiSegment_Key) ?_
    refine qq (out := Pr.pt b9 1) (qFieldP fld38_1) ?_
    refine qq (out := Pr.str x6.Text) (qLoad (R := rApiSegment) (a := x6) (R' := Rp.str) 2 ty9 subApiSegment_Text) ?_
    obtain ⟨x10, hx10, hy1⟩ := bindSome hy1
    refine qq (out := (Rp.arr 2 Rp.str).val x10) (qCall (cells_of_ok x6.Text true _ hx10)) ?_
    refine rMapSet (R := Rp.arr 2 Rp.str) (m := x7) (kx := x6.Key) (v := x10) 0 Tryz.underlying51 Tryz.underlying9 ?_
    obtain ⟨rfl, rfl⟩ := Prod.mk.inj (Option.some.inj hy1)
    exact ⟨_, Pick.of [0, 1] rfl, rfl, rfl, rfl⟩
  · rintro D C' T s0 rfl
    refine W_rs ?_
    refine rq (out := Pr.mp b2) (qLoad (R := Rp.mapO) (a := (some b2)) (R' := Rp.mapO) 2 ty51 (Sub.refl _)) ?_
    refine rq (out := Pr.mp b2) qAssign ?_
    refine W_relM 1 [2] ?_ rfl ⟨rfl, trivial⟩
    obtain rfl := Option.some.inj h
    exact W_ret ⟨rfl, Pr.le_rfl⟩
theorem cells_cell_there_ok (x1 : List (List UInt8)) (r : Bool) (h : cells_cell_there x1 = some r) : FnP Tryz.prog 28 [(Rp.arr 2 Rp.str).val x1] (Pr.bool r) := by
  refine fn_intro (n := 6) (rs := [2]) Tryz.func28 rfl Tryz.ntmps28 ⟨by decide, Tryz.results28⟩ (by decide) (fun s0 => ?_)
  unfold cells_cell_there at h
  refine W_rs ?_
  refine rBox (R := Rp.arr 2 Rp.str) (a := x1) rfl (fun b2 => ?_)
  refine rq (out := Pr.bool false) qAssign ?_
  refine W_rs ?_
  obtain ⟨x3, hx3, h⟩ := bindSome h
  refine rq (out := Pr.pt b2 (x3 * 1)) (qIdxP Tryz.underlying56 Tryz.sizeOf9 hx3) ?_
  refine rq (out := Pr.str (List.getD x1 x3 [])) (qLoad (R := Rp.arr 2 Rp.str) (a := x1) (R' := Rp.str) 0 ty9 (Sub.arr [] (arrIx_lt hx3))) ?_
  refine rq (out := Pr.bool ((List.getD x1 x3 []) == ([116, 104, 101, 114, 101] : List UInt8))) qStr ?_
  refine rq (out := Pr.bool ((List.getD x1 x3 []) == ([116, 104, 101, 114, 101] : List UInt8))) qAssign ?_
  obtain rfl := Option.some.inj h
  exact W_ret ⟨rfl, Pr.le_rfl⟩
theorem slices_Index_string_string_ok (x1 : List (List UInt8)) (x2 : List UInt8) (r : Int) (h : slices_Index_string_string x1 x2 = some r) : FnP Tryz.prog 52 [Pr.lst Rp.str x1, Pr.str x2] (Pr.i64 r) := by
  refine fn_intro (n := 19) (rs := [4]) Tryz.func52 rfl Tryz.ntmps52 ⟨by decide, Tryz.results52⟩ (by decide) (fun s0 => ?_)
  unfold slices_Index_string_string at h
  refine W_rs ?_
  refine rq (out := Pr.i64 0) qAssign ?_
  refine W_seq ?_
  refine W_rs ?_
  refine rq (out := Pr.lst Rp.str x1) qMove ?_
  refine rq (out := Pr.i64 (x1.length : Int)) (qLenL rfl Tryz.underlying33) ?_
  refine rq (out := Pr.i64 0) qMove ?_
  refine W_block ?_
  obtain ⟨z2l, hz2, h⟩ := bindSome h
  obtain ⟨n2, hN2⟩ := iter_some hz2
  clear hz2
  refine W_after 0 (fun e C => slices_Index_string_string_k1 = some r ∧ At [] [] e C) ?_ ?_
  · rintro e C ⟨h, hat1⟩
    refine W_at hat1 ?_
    clear hat1
    unfold slices_Index_string_string_k1 at h
    refine W_rs ?_
    refine rq (out := Pr.i64 (-1)) qAssign ?_
    obtain rfl := Option.some.inj h
    exact W_ret ⟨rfl, Pr.le_rfl⟩
  · refine W_loop (fun m e C => ∃ (x3 : Int), IterN (fun s => slices_Index_string_string_l2 x1 x2 s) m x3 = some z2l ∧ At [(0, Pr.lst Rp.str x1), (1, Pr.str x2), (7, Pr.i64 (x1.length : Int)), (8, Pr.i64 x3)] [] e C) n2 ⟨0, hN2, ⟨⟨Pr.le_rfl, Pr.le_rfl, Pr.le_rfl, Pr.le_rfl, trivial⟩, Pick.refl _⟩⟩ ?_
    clear hN2
    rintro m e C ⟨x3, hN2, hatl2⟩
    refine W_at hatl2 ?_
    clear hatl2
    obtain ⟨m2, w2l, rfl, h2l, hn2, ho2⟩ := iterN_some hN2
    clear hN2
    replace h2l : slices_Index_string_string_l2 x1 x2 x3 = some w2l := h2l
    unfold slices_Index_string_string_l2 at h2l
    refine W_rs ?_
    refine rq (out := Pr.bool (decide (x3 < (x1.length : Int)))) qInt ?_
    refine W_seq ?_
    refine W_cond (b := decide (x3 < (x1.length : Int))) rfl (fun hc5 => ?_) (fun hc5 => ?_)
    · replace h2l := iteT hc5 h2l
      refine W_skip ?_
      refine W_seq ?_
      refine W_block ?_
      refine W_rs ?_
      refine rq (out := Pr.i64 x3) qMove ?_
      refine rq (out := Pr.i64 x3) qAssign ?_
      refine W_rs ?_
      refine rq (out := Pr.str x2) qMove ?_
      refine rq (out := Pr.lst Rp.str x1) qMove ?_
      refine rq (out := Pr.i64 x3) qMove ?_
      obtain ⟨x6, hx6, h2l⟩ := bindSome h2l
      refine rq (out := Pr.cpt Rp.str x6) (qIdxA (R := Rp.str) (l := x1) Tryz.underlying33 Tryz.sizeOf9 hx6) ?_
      refine rq (out := Pr.str x6) (qLoadC (R := Rp.str) (a := x6) ty9) ?_
      refine rq (out := Pr.bool (x2 == x6)) qStr ?_
      refine W_cond (b := x2 == x6) rfl (fun hc7 => ?_) (fun hc7 => ?_)
      · replace h2l := iteT hc7 h2l
        refine W_rs ?_
        refine rq (out := Pr.i64 x3) qMove ?_
        refine rq (out := Pr.i64 x3) qAssign ?_
        obtain rfl := ho2 _ (Option.some.inj h2l).symm
        replace h : some x3 = some r := h
        obtain rfl := Option.some.inj h
        exact W_ret ⟨rfl, Pr.le_rfl⟩
      · replace h2l := iteF hc7 h2l
        refine W_skip ?_
        refine W_r ?_
        refine rq (out := Pr.i64 (w64 (x3 + 1))) qInt ?_
        refine rq (out := Pr.i64 (w64 (x3 + 1))) qMove ?_
        exact ⟨m2, Nat.lt_succ_self _, w64 (x3 + 1), hn2 _ (Option.some.inj h2l).symm, ⟨⟨Pr.le_rfl, Pr.le_rfl, Pr.le_rfl, Pr.le_rfl, trivial⟩, Pick.refl _⟩⟩
    · replace h2l := iteF hc5 h2l
      refine W_exit ?_
      obtain rfl := ho2 _ (Option.some.inj h2l).symm
      exact ⟨h, ⟨trivial, Pick.refl _⟩⟩
theorem slices_Contains_string_string_ok (x1 : List (List UInt8)) (x2 : List UInt8) (r : Bool) (h : slices_Contains_string_string x1 x2 = some r) : FnP Tryz.prog 40 [Pr.lst Rp.str x1, Pr.str x2] (Pr.bool r) := by
  refine fn_intro (n := 9) (rs := [4]) Tryz.func40 rfl Tryz.ntmps40 ⟨by decide, Tryz.results40⟩ (by decide) (fun s0 => ?_)
  unfold slices_Contains_string_string at h
  refine W_rs ?_
  refine rq (out := Pr.bool false) qAssign ?_
  refine W_rs ?_
  refine rq (out := Pr.lst Rp.str x1) qMove ?_
  refine rq (out := Pr.str x2) qMove ?_
  obtain ⟨x3, hx3, h⟩ := bindSome h
  refine rq (out := Pr.i64 x3) (qCall (slices_Index_string_string_ok x1 x2 _ hx3)) ?_
  refine rq (out := Pr.bool (decide (x3 ≥ 0))) qInt ?_
  refine rq (out := Pr.bool (decide (x3 ≥ 0))) qAssign ?_
  obtain rfl := Option.some.inj h
  exact W_ret ⟨rfl, Pr.le_rfl⟩
theorem slices_Equal_string_string_ok (x1 : List (List UInt8)) (x2 : List (List UInt8)) (r : Bool) (h : slices_Equal_string_string x1 x2 = some r) : FnP Tryz.prog 35 [Pr.lst Rp.str x1, Pr.lst Rp.str x2] (Pr.bool r) := by
  refine fn_intro (n := 26) (rs := [4]) Tryz.func35 rfl Tryz.ntmps35 ⟨by decide, Tryz.results35⟩ (by decide) (fun s0 => ?_)
  unfold slices_Equal_string_string at h
  refine W_rs ?_
  refine rq (out := Pr.bool false) qAssign ?_
  refine W_seq ?_
  refine W_rs ?_
  refine rq (out := Pr.lst Rp.str x1) qMove ?_
  refine rq (out := Pr.i64 (x1.length : Int)) (qLenL rfl Tryz.underlying33) ?_
  refine rq (out := Pr.lst Rp.str x2) qMove ?_
  refine rq (out := Pr.i64 (x2.length : Int)) (qLenL rfl Tryz.underlying33) ?_
  refine rq (out := Pr.bool ((x1.length : Int) != (x2.length : Int))) qInt ?_
  refine W_cond (b := (x1.length : Int) != (x2.length : Int)) rfl (fun hc3 => ?_) (fun hc3 => ?_)
  · replace h := iteT hc3 h
    refine W_rs ?_
    refine rq (out := Pr.bool false) qAssign ?_
    obtain rfl := Option.some.inj h
    exact W_ret ⟨rfl, Pr.le_rfl⟩
  · replace h := iteF hc3 h
    refine W_skip ?_
    refine W_seq ?_
    refine W_rs ?_
    refine rq (out := Pr.lst Rp.str x1) qMove ?_
    refine rq (out := Pr.i64 (x1.length : Int)) (qLenL rfl Tryz.underlying33) ?_
    refine rq (out := Pr.i64 0) qMove ?_
    refine W_block ?_
    obtain ⟨z2l, hz2, h⟩ := bindSome h
    obtain ⟨n2, hN2⟩ := iter_some hz2
    clear hz2
    refine W_after 0 (fun e C => slices_Equal_string_string_k1 = some r ∧ At [] [] e C) ?_ ?_
    · rintro e C ⟨h, hat1⟩
      refine W_at hat1 ?_
      clear hat1
      unfold slices_Equal_string_string_k1 at h
      refine W_rs ?_
      refine rq (out := Pr.bool true) qAssign ?_
      obtain rfl := Option.some.inj h
      exact W_ret ⟨rfl, Pr.le_rfl⟩
    · refine W_loop (fun m e C => ∃ (x4 : Int), IterN (fun s => slices_Equal_string_string_l2 x1 x2 s) m x4 = some z2l ∧ At [(0, Pr.lst Rp.str x1), (1, Pr.lst Rp.str x2), (12, Pr.i64 (x1.length : Int)), (13, Pr.i64 x4)] [] e C) n2 ⟨0, hN2, ⟨⟨Pr.le_rfl, Pr.le_rfl, Pr.le_rfl, Pr.le_rfl, trivial⟩, Pick.refl _⟩⟩ ?_
      clear hN2
      rintro m e C ⟨x4, hN2, hatl2⟩
      refine W_at hatl2 ?_
      clear hatl2
      obtain ⟨m2, w2l, rfl, h2l, hn2, ho2⟩ := iterN_some hN2
      clear hN2
      replace h2l : slices_Equal_string_string_l2 x1 x2 x4 = some w2l := h2l
      unfold slices_Equal_string_string_l2 at h2l
      refine W_rs ?_
      refine rq (out := Pr.bool (decide (x4 < (x1.length : Int)))) qInt ?_
      refine W_seq ?_
      refine W_cond (b := decide (x4 < (x1.length : Int))) rfl (fun hc6 => ?_) (fun hc6 => ?_)
      · replace h2l := iteT hc6 h2l
        refine W_skip ?_
        refine W_seq ?_
        refine W_block ?_
        refine W_rs ?_
        refine rq (out := Pr.i64 x4) qMove ?_
        refine rq (out := Pr.i64 x4) qAssign ?_
        refine W_join (fun e C => ∃ (x7 : List UInt8), ∃ (x8 : List UInt8), slices_Equal_string_string_j3 x4 x7 x8 = some w2l ∧ At [(0, Pr.lst Rp.str x1), (1, Pr.lst Rp.str x2), (12, Pr.i64 (x1.length : Int)), (13, Pr.i64 x4), (24, Pr.bool (!(x7 == x8)))] [] e C) ?_ ?_
        · rintro e C ⟨x7, x8, h2l, hat3⟩
          refine W_at hat3 ?_
          clear hat3
          unfold slices_Equal_string_string_j3 at h2l
          refine W_cond (b := !(x7 == x8)) rfl (fun hc9 => ?_) (fun hc9 => ?_)
          · replace h2l := iteT hc9 h2l
            refine W_rs ?_
            refine rq (out := Pr.bool false) qAssign ?_
            obtain rfl := ho2 _ (Option.some.inj h2l).symm
            replace h : some false = some r := h
            obtain rfl := Option.some.inj h
            exact W_ret ⟨rfl, Pr.le_rfl⟩
          · replace h2l := iteF hc9 h2l
            refine W_skip ?_
            refine W_r ?_
            refine rq (out := Pr.i64 (w64 (x4 + 1))) qInt ?_
            refine rq (out := Pr.i64 (w64 (x4 + 1))) qMove ?_
            exact ⟨m2, Nat.lt_succ_self _, w64 (x4 + 1), hn2 _ (Option.some.inj h2l).symm, ⟨⟨Pr.le_rfl, Pr.le_rfl, Pr.le_rfl, Pr.le_rfl, trivial⟩, Pick.refl _⟩⟩
        · refine W_draw 9 hmx (by kernel_rfl) (by kernel_rfl) ?_
          refine qq (out := Pr.lst Rp.str x1) qMove ?_
          refine qq (out := Pr.i64 x4) qMove ?_
          obtain ⟨x7, hx7, h2l⟩ := bindSome h2l
          refine qq (out := Pr.cpt Rp.str x7) (qIdxA (R := Rp.str) (l := x1) Tryz.underlying33 Tryz.sizeOf9 hx7) ?_
          refine qq (out := Pr.str x7) (qLoadC (R := Rp.str) (a := x7) ty9) ?_
          refine qq (out := Pr.lst Rp.str x2) qMove ?_
          refine qq (out := Pr.i64 x4) qMove ?_
          obtain ⟨x8, hx8, h2l⟩ := bindSome h2l
          refine qq (out := Pr.cpt Rp.str x8) (qIdxA (R := Rp.str) (l := x2) Tryz.underlying33 Tryz.sizeOf9 hx8) ?_
          refine qq (out := Pr.str x8) (qLoadC (R := Rp.str) (a := x8) ty9) ?_
          refine qq (out := Pr.bool (!(x7 == x8))) qStr ?_
          exact ⟨x7, x8, h2l, ⟨⟨Pr.le_rfl, Pr.le_rfl, Pr.le_rfl, Pr.le_rfl, Pr.le_rfl, trivial⟩, Pick.refl _⟩⟩
      · replace h2l := iteF hc6 h2l
        refine W_exit ?_
        obtain rfl := ho2 _ (Option.some.inj h2l).symm
        exact ⟨h, ⟨trivial, Pick.refl _⟩⟩
theorem slices_IndexFunc_string_string_ok (x1 : List (List UInt8)) (x2 : ((List UInt8) → Option Bool)) (r : Int) (h : slices_IndexFunc_string_string x1 x2 = some r) : FnP Tryz.prog 51 [Pr.lst Rp.str x1, Pr.pfn Tryz.prog (spec64 x2)] (Pr.i64 r) := by
  refine fn_intro (n := 19) (rs := [4]) Tryz.func51 rfl Tryz.ntmps51 ⟨by decide, Tryz.results51⟩ (by decide) (fun s0 => ?_)
  unfold slices_IndexFunc_string_string at h
  refine W_rs ?_
  refine rq (out := Pr.i64 0) qAssign ?_
  refine W_seq ?_
  refine W_rs ?_
  refine rq (out := Pr.lst Rp.str x1) qMove ?_
  refine rq (out := Pr.i64 (x1.length : Int)) (qLenL rfl Tryz.underlying33) ?_
  refine rq (out := Pr.i64 0) qMove ?_
  refine W_block ?_
  obtain ⟨z2l, hz2, h⟩ := bindSome h
  obtain ⟨n2, hN2⟩ := iter_some hz2
  clear hz2
  refine W_after 0 (fun e C => slices_IndexFunc_string_string_k1 = some r ∧ At [] [] e C) ?_ ?_
  · rintro e C ⟨h, hat1⟩
    refine W_at hat1 ?_
    clear hat1
    unfold slices_IndexFunc_string_string_k1 at h
    refine W_rs ?_
    refine rq (out := Pr.i64 (-1)) qAssign ?_
    obtain rfl := Option.some.inj h
    exact W_ret ⟨rfl, Pr.le_rfl⟩
  · refine W_loop (fun m e C => ∃ (x3 : Int), IterN (fun s => slices_IndexFunc_string_string_l2 x1 x2 s) m x3 = some z2l ∧ At [(0, Pr.lst Rp.str x1), (1, Pr.pfn Tryz.prog (spec64 x2)), (7, Pr.i64 (x1.length : Int)), (8, Pr.i64 x3)] [] e C) n2 ⟨0, hN2, ⟨⟨Pr.le_rfl, Pr.le_rfl, Pr.le_rfl, Pr.le_rfl, trivial⟩, Pick.refl _⟩⟩ ?_
    clear hN2
    rintro m e C ⟨x3, hN2, hatl2⟩
    refine W_at hatl2 ?_
    clear hatl2
    obtain ⟨m2, w2l, rfl, h2l, hn2, ho2⟩ := iterN_some hN2
    clear hN2
    replace h2l : slices_IndexFunc_string_string_l2 x1 x2 x3 = some w2l := h2l
    unfold slices_IndexFunc_string_string_l2 at h2l
    refine W_rs ?_
    refine rq (out := Pr.bool (decide (x3 < (x1.length : Int)))) qInt ?_
    refine W_seq ?_
    refine W_cond (b := decide (x3 < (x1.length : Int))) rfl (fun hc5 => ?_) (fun hc5 => ?_)
    · replace h2l := iteT hc5 h2l
      refine W_skip ?_
      refine W_seq ?_
      refine W_block ?_
      refine W_rs ?_
      refine rq (out := Pr.i64 x3) qMove ?_
      refine rq (out := Pr.i64 x3) qAssign ?_
      refine W_rs ?_
      refine rq (out := Pr.pfn Tryz.prog (spec64 x2)) qMove ?_
      refine rq (out := Pr.lst Rp.str x1) qMove ?_
      refine rq (out := Pr.i64 x3) qMove ?_
      obtain ⟨x6, hx6, h2l⟩ := bindSome h2l
      refine rq (out := Pr.cpt Rp.str x6) (qIdxA (R := Rp.str) (l := x1) Tryz.underlying33 Tryz.sizeOf9 hx6) ?_
      refine rq (out := Pr.str x6) (qLoadC (R := Rp.str) (a := x6) ty9) ?_
      obtain ⟨x7, hx7, h2l⟩ := bindSome h2l
      refine rq (out := Pr.bool x7) (qCallP (spec := spec64 x2) ⟨_, _, rfl, rfl, hx7⟩) ?_
      refine W_cond (b := x7) rfl (fun hc8 => ?_) (fun hc8 => ?_)
      · replace h2l := iteT hc8 h2l
        refine W_rs ?_
        refine rq (out := Pr.i64 x3) qMove ?_
        refine rq (out := Pr.i64 x3) qAssign ?_
        obtain rfl := ho2 _ (Option.some.inj h2l).symm
        replace h : some x3 = some r := h
        obtain rfl := Option.some.inj h
        exact W_ret ⟨rfl, Pr.le_rfl⟩
      · replace h2l := iteF hc8 h2l
        refine W_skip ?_
        refine W_r ?_
        refine rq (out := Pr.i64 (w64 (x3 + 1))) qInt ?_
        refine rq (out := Pr.i64 (w64 (x3 + 1))) qMove ?_
        exact ⟨m2, Nat.lt_succ_self _, w64 (x3 + 1), hn2 _ (Option.some.inj h2l).symm, ⟨⟨Pr.le_rfl, Pr.le_rfl, Pr.le_rfl, Pr.le_rfl, trivial⟩, Pick.refl _⟩⟩
    · replace h2l := iteF hc5 h2l
      refine W_exit ?_
      obtain rfl := ho2 _ (Option.some.inj h2l).symm
      exact ⟨h, ⟨trivial, Pick.refl _⟩⟩
theorem slices_DeleteFunc_string_string_ok (x1 : ((List UInt8) → Option Bool)) (x3 : List (List UInt8)) (v2 : Value) (r : (List (List UInt8))) (h : slices_DeleteFunc_string_string x1 x3 = some r) : FnC Tryz.prog 37 [Pr.is v2, Pr.pfn Tryz.prog (spec64 x1)] [Own.vec v2 Rp.str x3 9] (fun q C' => q = Pr.lst Rp.str r ∧ C' = []) := by
  refine fnc_introP (n := 42) (rs := [4]) Tryz.func37 rfl Tryz.ntmps37 ⟨by decide, Tryz.results37⟩ (by decide) (fun s0 => ?_)
  unfold slices_DeleteFunc_string_string at h
  refine W_rs ?_
  refine rq (out := Pr.is (.slice none 0 0)) qAssign ?_
  refine W_rs ?_
  refine rq (out := Pr.is v2) qMove ?_
  refine rq (out := Pr.pfn Tryz.prog (spec64 x1)) qMove ?_
  obtain ⟨x4, hx4, h⟩ := bindSome h
  refine rq (out := Pr.i64 x4) (qCallB 0 (slices_IndexFunc_string_string_ok x3 x1 _ hx4) ⟨.inr ⟨Pr.le_rfl, rfl⟩, .inl Pr.le_rfl, trivial⟩ (fun _ _ _ h => h)) ?_
  refine rq (out := Pr.i64 x4) qAssign ?_
  refine W_seq ?_
  refine W_rs ?_
  refine rq (out := Pr.i64 x4) qMove ?_
  refine rq (out := Pr.bool (x4 == (-1))) qInt ?_
  refine W_cond (b := x4 == (-1)) rfl (fun hc5 => ?_) (fun hc5 => ?_)
  · replace h := iteT hc5 h
    refine W_rs ?_
    refine rq (out := Pr.is v2) qMove ?_
    refine rq (out := Pr.is v2) qAssign ?_
    refine W_rel 0 [0, 4] ?_ rfl ⟨rfl, rfl, trivial⟩
    obtain rfl := Option.some.inj h
    exact W_ret ⟨.inl rfl, _, Pick.refl _, _, (Pr.le_rfl), rfl, rfl⟩
  · replace h := iteF hc5 h
    refine W_skip ?_
    refine W_seq ?_
    refine W_rs ?_
    refine rq (out := Pr.i64 x4) qMove ?_
    refine rq (out := Pr.i64 (w64 (x4 + 1))) qInt ?_
    refine rq (out := Pr.i64 (w64 (x4 + 1))) qAssign ?_
    refine W_block ?_
    obtain ⟨z2l, hz2, h⟩ := bindSome h
    obtain ⟨n2, hN2⟩ := iter_some hz2
    clear hz2
    refine W_after 0 (fun e C => ∃ (x6 : Int), ∃ (x8 : List (List UInt8)), slices_DeleteFunc_string_string_k1 x6 x8 = some r ∧ At [(0, Pr.is v2), (5, Pr.i64 x6)] [Own.vec v2 Rp.str x8 9] e C) ?_ ?_
    · rintro e C ⟨x6, x8, h, hat1⟩
      refine W_at hat1 ?_
      clear hat1
      unfold slices_DeleteFunc_string_string_k1 at h
      refine W_rs ?_
      refine rq (out := Pr.is v2) qMove ?_
      refine rq (out := Pr.i64 x6) qMove ?_
      obtain ⟨x19, hx19, h⟩ := bindSome h
      refine rq (out := Pr.is (vtail v2 (Int.toNat x6) (Rp.str).size)) (qTail 0 Tryz.underlying33 Tryz.sizeOf9 (subL_lo hx19).1 (subL_lo hx19).2.1) ?_
      refine rClearTail (R := Rp.str) (z := []) 0 rfl Tryz.underlying33 Tryz.zeroValue9 (fun _ => rfl) (by decide) (subL_lo hx19).2.2 ?_
      refine W_rs ?_
      refine rq (out := Pr.is v2) qMove ?_
      refine rq (out := Pr.i64 x6) qMove ?_
      obtain ⟨x20, hx20, h⟩ := bindSome h
      refine rRel 0 [0, 39] ?_ rfl ⟨rfl, rfl, trivial⟩
      refine rq (out := Pr.lst Rp.str x20) (qLSubH Tryz.underlying33 Tryz.sizeOf9 hx20) ?_
      refine rq (out := Pr.lst Rp.str x20) qAssign ?_
      obtain rfl := Option.some.inj h
      exact W_ret ⟨.inl rfl, _, Pick.refl _, _, (Pr.le_rfl), rfl, rfl⟩
    · refine W_loop (fun m e C => ∃ (x6 : Int), ∃ (x7 : Int), ∃ (x8 : List (List UInt8)), IterN (fun s => slices_DeleteFunc_string_string_l2 x1 s.1 s.2.1 s.2.2) m (x6, x7, x8) = some z2l ∧ At [(0, Pr.is v2), (1, Pr.pfn Tryz.prog (spec64 x1)), (5, Pr.i64 x6), (6, Pr.i64 x7)] [Own.vec v2 Rp.str x8 9] e C) n2 ⟨x4, w64 (x4 + 1), x3, hN2, ⟨⟨Pr.le_rfl, Pr.le_rfl, Pr.le_rfl, Pr.le_rfl, trivial⟩, Pick.refl _⟩⟩ ?_
      clear hN2
      rintro m e C ⟨x6, x7, x8, hN2, hatl2⟩
      refine W_at hatl2 ?_
      clear hatl2
      obtain ⟨m2, w2l, rfl, h2l, hn2, ho2⟩ := iterN_some hN2
      clear hN2
      replace h2l : slices_DeleteFunc_string_string_l2 x1 x6 x7 x8 = some w2l := h2l
      unfold slices_DeleteFunc_string_string_l2 at h2l
      refine W_seq ?_
      refine W_rs ?_
      refine rq (out := Pr.i64 x7) qMove ?_
      refine rq (out := Pr.is v2) qMove ?_
      refine rq (out := Pr.i64 (x8.length : Int)) (qLenV 0 rfl Tryz.underlying33) ?_
      refine rq (out := Pr.bool (decide (x7 < (x8.length : Int)))) qInt ?_
      refine W_cond (b := decide (x7 < (x8.length : Int))) rfl (fun hc12 => ?_) (fun hc12 => ?_)
      · replace h2l := iteT hc12 h2l
        refine W_skip ?_
        refine W_join (fun e C => ∃ (x17 : Int), ∃ (x18 : List (List UInt8)), slices_DeleteFunc_string_string_j3 x7 x17 x18 = some w2l ∧ At [(0, Pr.is v2), (1, Pr.pfn Tryz.prog (spec64 x1)), (5, Pr.i64 x17), (6, Pr.i64 x7)] [Own.vec v2 Rp.str x18 9] e C) ?_ ?_
        · rintro e C ⟨x17, x18, h2l, hat3⟩
          refine W_at hat3 ?_
          clear hat3
          unfold slices_DeleteFunc_string_string_j3 at h2l
          refine W_r ?_
          refine rq (out := Pr.i64 x7) qMove ?_
          refine rq (out := Pr.i64 (w64 (x7 + 1))) qInt ?_
          refine rq (out := Pr.i64 (w64 (x7 + 1))) qAssign ?_
          exact ⟨m2, Nat.lt_succ_self _, x17, w64 (x7 + 1), x18, hn2 _ (Option.some.inj h2l).symm, ⟨⟨Pr.le_rfl, Pr.le_rfl, Pr.le_rfl, Pr.le_rfl, trivial⟩, Pick.refl _⟩⟩
        · refine W_block ?_
          refine W_rs ?_
          refine rq (out := Pr.is v2) qMove ?_
          refine rq (out := Pr.i64 x7) qMove ?_
          obtain ⟨x13, hx13, h2l⟩ := bindSome h2l
          refine rq (out := Pr.vpt v2 (Int.toNat x7 * (Rp.str).size)) (qIdxV 0 (R := Rp.str) (l := x8) Tryz.underlying33 Tryz.sizeOf9 hx13) ?_
          refine rq (out := Pr.str x13) (qLoadV (R := Rp.str) (R' := Rp.str) (l := x8) (a := x13) (o := 0) 0 ty9 (Sub.refl _) (Nat.le_of_ble_eq_true rfl) hx13 rfl) ?_
          refine rq (out := Pr.str x13) qAssign ?_
          refine W_rs ?_
          refine rq (out := Pr.pfn Tryz.prog (spec64 x1)) qMove ?_
          refine rq (out := Pr.str x13) qMove ?_
          obtain ⟨x14, hx14, h2l⟩ := bindSome h2l
          refine rq (out := Pr.bool x14) (qCallP (spec := spec64 x1) ⟨_, _, rfl, rfl, hx14⟩) ?_
          refine rq (out := Pr.bool (!x14)) qNot ?_
          refine W_cond (b := !x14) rfl (fun hc15 => ?_) (fun hc15 => ?_)
          · replace h2l := iteT hc15 h2l
            refine W_rs ?_
            refine rq (out := Pr.is v2) qMove ?_
            refine rq (out := Pr.i64 x6) qMove ?_
            refine rq (out := Pr.str x13) qMove ?_
            obtain ⟨x16, hx16, h2l⟩ := bindSome h2l
            refine rq (out := Pr.vpt v2 (Int.toNat x6 * (Rp.str).size)) (qIdxV 0 (R := Rp.str) (l := x8) Tryz.underlying33 Tryz.sizeOf9 hx16) ?_
            refine rStoreE (R := Rp.str) (R' := Rp.str) (l := x8) (a := x16) (y := x13) (o := 0) 0 Tryz.sizeOf9 (Upd.refl _) hx16 rfl ?_
            refine W_r ?_
            refine rq (out := Pr.i64 x6) qMove ?_
            refine rq (out := Pr.i64 (w64 (x6 + 1))) qInt ?_
            refine rq (out := Pr.i64 (w64 (x6 + 1))) qAssign ?_
            exact ⟨w64 (x6 + 1), (List.set x8 (Int.toNat x6) x13), h2l, ⟨⟨Pr.le_rfl, Pr.le_rfl, Pr.le_rfl, Pr.le_rfl, trivial⟩, Pick.refl _⟩⟩
          · replace h2l := iteF hc15 h2l
            refine W_skip ?_
            exact ⟨x6, x8, h2l, ⟨⟨Pr.le_rfl, Pr.le_rfl, Pr.le_rfl, Pr.le_rfl, trivial⟩, Pick.refl _⟩⟩
      · replace h2l := iteF hc12 h2l
        refine W_exit ?_
        obtain rfl := ho2 _ (Option.some.inj h2l).symm
        exact ⟨x6, x8, h, ⟨⟨Pr.le_rfl, Pr.le_rfl, trivial⟩, Pick.refl _⟩⟩
theorem cells_Order_1_1_ok (x1 : List UInt8) (x2 : List (List UInt8)) (x3 : List (List UInt8)) (x4 : List (List UInt8)) (r : Bool) (h : cells_Order_1_1 x1 x2 x3 x4 = some r) : FnP Tryz.prog 39 [Pr.str x1, Pr.cpt (Rp.list Rp.str) x2, Pr.cpt (Rp.list Rp.str) x3, Pr.cpt (Rp.list Rp.str) x4] (Pr.bool r) := by
  refine fn_intro (n := 20) (rs := [5]) Tryz.func39 rfl Tryz.ntmps39 ⟨by decide, Tryz.results39⟩ (by decide) (fun s0 => ?_)
  unfold cells_Order_1_1 at h
  refine W_rs ?_
  refine rq (out := Pr.bool false) qAssign ?_
  refine W_join (fun e C => ∃ (x10 : Bool), cells_Order_1_1_j1 x10 = some r ∧ At [(5, Pr.bool x10)] [] e C) ?_ ?_
  · rintro e C ⟨x10, h, hat1⟩
    refine W_at hat1 ?_
    clear hat1
    unfold cells_Order_1_1_j1 at h
    obtain rfl := Option.some.inj h
    exact W_ret ⟨rfl, Pr.le_rfl⟩
  · refine W_r ?_
    refine rq (out := Pr.lst Rp.str x2) (qLoadC (R := Rp.list Rp.str) (a := x2) ty33) ?_
    refine rq (out := Pr.str x1) qMove ?_
    obtain ⟨x5, hx5, h⟩ := bindSome h
    refine rq (out := Pr.bool x5) (qCall (slices_Contains_string_string_ok x2 x1 _ hx5)) ?_
    refine rq (out := Pr.bool x5) qMove ?_
    rcases iteSome h with ⟨hc6, h⟩ | ⟨hc6, h⟩
    · refine rqg hc6 (out := Pr.lst Rp.str x3) (qLoadC (R := Rp.list Rp.str) (a := x3) ty33) ?_
      refine rqg hc6 (out := Pr.str x1) qMove ?_
      obtain ⟨x7, hx7, h⟩ := bindSome h
      refine rqg hc6 (out := Pr.bool x7) (qCall (slices_Contains_string_string_ok x3 x1 _ hx7)) ?_
      refine rqg hc6 (out := Pr.bool x7) qMove ?_
      rcases iteSome h with ⟨hc8, h⟩ | ⟨hc8, h⟩
      · refine rqg hc8 (out := Pr.lst Rp.str x4) (qLoadC (R := Rp.list Rp.str) (a := x4) ty33) ?_
        refine rqg hc8 (out := Pr.str x1) qMove ?_
        obtain ⟨x9, hx9, h⟩ := bindSome h
        refine rqg hc8 (out := Pr.bool x9) (qCall (slices_Contains_string_string_ok x4 x1 _ hx9)) ?_
        refine rqg hc6 (out := Pr.bool x9) (qPickT hc8) ?_
        refine rqg hc6 (out := Pr.bool (!x9)) qNot ?_
        refine rq (out := Pr.bool (!x9)) (qPickT hc6) ?_
        refine rq (out := Pr.bool (!x9)) qAssign ?_
        exact ⟨!x9, h, ⟨⟨Pr.le_rfl, trivial⟩, Pick.refl _⟩⟩
      · refine rno (neT hc8) ?_
        refine rno (neT hc8) ?_
        refine rno (neT hc8) ?_
        refine rqg hc6 (out := Pr.bool false) (qPickF hc8) ?_
        refine rqg hc6 (out := Pr.bool (!false)) qNot ?_
        refine rq (out := Pr.bool (!false)) (qPickT hc6) ?_
        refine rq (out := Pr.bool (!false)) qAssign ?_
        exact ⟨!false, h, ⟨⟨Pr.le_rfl, trivial⟩, Pick.refl _⟩⟩
    · refine rno (neT hc6) ?_
      refine rno (neT hc6) ?_
      refine rno (neT hc6) ?_
      refine rno (neT hc6) ?_
      refine rnoU ?_
      refine rnoU ?_
      refine rnoU ?_
      refine rno (neT hc6) ?_
      refine rno (neT hc6) ?_
      refine rq (out := Pr.bool false) (qPickF hc6) ?_
      refine rq (out := Pr.bool false) qAssign ?_
      exact ⟨false, h, ⟨⟨Pr.le_rfl, trivial⟩, Pick.refl _⟩⟩
theorem cells_Order_1_ok (x1 : List (List UInt8)) (x2 : List (List UInt8)) (x3 : List (List UInt8)) (x4 : List (List UInt8)) (r : (List (List UInt8))) (h : cells_Order_1 x1 x2 x3 x4 = some r) : FnP Tryz.prog 36 [Pr.lst Rp.str x1, Pr.cpt (Rp.list Rp.str) x2, Pr.cpt (Rp.list Rp.str) x3, Pr.cpt (Rp.list Rp.str) x4] (Pr.lst Rp.str r) := by
  refine fn_intro (n := 10) (rs := [5]) Tryz.func36 rfl Tryz.ntmps36 ⟨by decide, Tryz.results36⟩ (by decide) (fun s0 => ?_)
  unfold cells_Order_1 at h
  refine W_rs ?_
  refine rq (out := Pr.is (.slice none 0 0)) qAssign ?_
  refine W_rs ?_
  refine rq (out := Pr.lst Rp.str x1) qMove ?_
  obtain ⟨x5, hx5, h⟩ := bindSome h
  refine rCallC [] (slices_Clone_ok x1 _ hx5) (fun q C' hq => ?_)
  obtain ⟨v6, rfl, rfl⟩ := hq
  refine rq (out := Pr.clo 39 [] [Pr.cpt (Rp.list Rp.str) x2, Pr.cpt (Rp.list Rp.str) x3, Pr.cpt (Rp.list Rp.str) x4]) qMakeFunc ?_
  obtain ⟨x7, hx7, h⟩ := bindSome h
  refine rCallC' [0] (slices_DeleteFunc_string_string_ok (fun a0 => cells_Order_1_1 a0 x2 x3 x4) x5 v6 _ hx7) ⟨Pr.le_rfl, (clo_pfn en39 (fun _ _ hs => by obtain ⟨a0, r, rfl, rfl, hr⟩ := hs; exact cells_Order_1_1_ok a0 x2 x3 x4 r hr)), trivial⟩ (fun q C' hq => ?_)
  obtain ⟨rfl, rfl⟩ := hq
  refine rq (out := Pr.lst Rp.str x7) qAssign ?_
  obtain rfl := Option.some.inj h
  exact W_ret ⟨rfl, Pr.le_rfl⟩
theorem cells_woven_1_ok (x1 : List UInt8) (x2 : List (List UInt8)) (r : Bool) (h : cells_woven_1 x1 x2 = some r) : FnP Tryz.prog 54 [Pr.str x1, Pr.cpt (Rp.list Rp.str) x2] (Pr.bool r) := by
  refine fn_intro (n := 7) (rs := [3]) Tryz.func54 rfl Tryz.ntmps54 ⟨by decide, Tryz.results54⟩ (by decide) (fun s0 => ?_)
  unfold cells_woven_1 at h
  refine W_rs ?_
  refine rq (out := Pr.bool false) qAssign ?_
  refine W_rs ?_
  refine rq (out := Pr.lst Rp.str x2) (qLoadC (R := Rp.list Rp.str) (a := x2) ty33) ?_
  refine rq (out := Pr.str x1) qMove ?_
  obtain ⟨x3, hx3, h⟩ := bindSome h
  refine rq (out := Pr.bool x3) (qCall (slices_Contains_string_string_ok x2 x1 _ hx3)) ?_
  refine rq (out := Pr.bool x3) qAssign ?_
  obtain rfl := Option.some.inj h
  exact W_ret ⟨rfl, Pr.le_rfl⟩
end Go.Proofs.YtphkaogfinjbjaaGreatDoor
