/- The code comes to what these functions say (printed by wip/gen/gen.py). -/
import Derived.Test.YtphkaogfinjbjaaGreatDoorZP1
import Derived.Test.YtphkaogfinjbjaaGreatDoorZT
set_option linter.unusedSimpArgs false
set_option linter.unusedVariables false
set_option linter.unusedSectionVars false
/- The code comes to what these functions say (printed by wip/gen/gen.py). -/
set_option linter.unusedSectionVars false
set_option maxRecDepth 100000
set_option maxHeartbeats 4000000
namespace Go.Proofs.YtphkaogfinjbjaaGreatDoor
open Go Go.Cn
variable [Known]
theorem lcs_Numbers_ok (x1 : List (List (List UInt8))) (r : (List (List Int))) (h : lcs_Numbers x1 = some r) : FnP Tryz.prog 64 [Pr.lst (Rp.list Rp.str) x1] (Pr.lst (Rp.list (Rp.int .i64)) r) := by
  refine fn_intro (n := 49) (rs := [2]) Tryz.func64 rfl Tryz.ntmps64 ⟨by decide, Tryz.results64⟩ (by decide) (fun s0 => ?_)
  unfold lcs_Numbers at h
  refine W_rs ?_
  refine rq (out := Pr.is (.slice none 0 0)) qAssign ?_
  refine W_rs ?_
  refine rMakeMap (Rp.int .i64) (fun b2 => ?_)
  refine rq (out := Pr.mp b2) qAssign ?_
  refine W_rs ?_
  refine rq (out := Pr.is (.slice none 0 0)) qAssign ?_
  refine W_seq ?_
  refine W_rs ?_
  refine rq (out := Pr.lst (Rp.list Rp.str) x1) qMove ?_
  refine rq (out := Pr.i64 (x1.length : Int)) (qLenL rfl Tryz.underlying78) ?_
  refine rq (out := Pr.i64 0) qMove ?_
  refine W_block ?_
  obtain ⟨z2l, hz2, h⟩ := bindSome h
  obtain ⟨n2, hN2⟩ := iter_some hz2
  clear hz2
  refine W_after 0 (fun e C => ∃ (x5 : SMap Int), ∃ (x6 : List (List Int)), ∃ (v3 : Value), lcs_Numbers_k1 x5 x6 = some r ∧ At [(4, Pr.is v3)] [Own.smap b2 (Rp.int .i64) x5, Own.vec v3 (Rp.list (Rp.int .i64)) x6 90] e C) ?_ ?_
  · rintro e C ⟨x5, x6, v3, h, hat1⟩
    refine W_at hat1 ?_
    clear hat1
    unfold lcs_Numbers_k1 at h
    refine W_rs ?_
    refine rq (out := Pr.is v3) qMove ?_
    refine rq (out := Pr.is v3) qAssign ?_
    refine W_rel 1 [2] ?_ rfl ⟨rfl, trivial⟩
    obtain rfl := Option.some.inj h
    exact W_ret ⟨rfl, Pr.le_rfl⟩
  · refine W_nil [4] (Rp.list (Rp.int .i64)) 90 (fun v31 => ?_) ⟨rfl, trivial⟩
    refine W_loop (fun m e C => ∃ (x4 : Int), ∃ (x5 : SMap Int), ∃ (x6 : List (List Int)), ∃ (v3 : Value), IterN (fun s => lcs_Numbers_l2 x1 s.1 s.2.1 s.2.2) m (x4, x5, x6) = some z2l ∧ At [(3, Pr.mp b2), (4, Pr.is v3), (13, Pr.lst (Rp.list Rp.str) x1), (14, Pr.i64 (x1.length : Int)), (15, Pr.i64 x4)] [Own.smap b2 (Rp.int .i64) x5, Own.vec v3 (Rp.list (Rp.int .i64)) x6 90] e C) n2 ⟨0, ([] : SMap Int), [], v31, hN2, ⟨⟨Pr.le_rfl, Pr.le_rfl, Pr.le_rfl, Pr.le_rfl, Pr.le_rfl, trivial⟩, Pick.refl _⟩⟩ ?_
    clear hN2
    rintro m e C ⟨x4, x5, x6, v3, hN2, hatl2⟩
    refine W_at hatl2 ?_
    clear hatl2
    obtain ⟨m2, w2l, rfl, h2l, hn2, ho2⟩ := iterN_some hN2
    clear hN2
    replace h2l : lcs_Numbers_l2 x1 x4 x5 x6 = some w2l := h2l
    unfold lcs_Numbers_l2 at h2l
    refine W_rs ?_
    refine rq (out := Pr.bool (decide (x4 < (x1.length : Int)))) qInt ?_
    refine W_seq ?_
    refine W_cond (b := decide (x4 < (x1.length : Int))) rfl (fun hc11 => ?_) (fun hc11 => ?_)
    · replace h2l := iteT hc11 h2l
      refine W_skip ?_
      refine W_seq ?_
      refine W_block ?_
      refine W_rs ?_
      obtain ⟨x12, hx12, h2l⟩ := bindSome h2l
      refine rq (out := Pr.cpt (Rp.list Rp.str) x12) (qIdxA (R := Rp.list Rp.str) (l := x1) Tryz.underlying78 Tryz.sizeOf33 hx12) ?_
      refine rq (out := Pr.lst Rp.str x12) (qLoadC (R := Rp.list Rp.str) (a := x12) ty33) ?_
      refine rq (out := Pr.lst Rp.str x12) qAssign ?_
      refine W_rs ?_
      refine rq (out := Pr.is (.slice none 0 0)) qAssign ?_
      refine W_seq ?_
      refine W_rs ?_
      refine rq (out := Pr.lst Rp.str x12) qMove ?_
      refine rq (out := Pr.i64 (x12.length : Int)) (qLenL rfl Tryz.underlying33) ?_
      refine rq (out := Pr.i64 0) qMove ?_
      refine W_block ?_
      obtain ⟨z4l, hz4, h2l⟩ := bindSome h2l
      obtain ⟨n4, hN4⟩ := iter_some hz4
      clear hz4
      refine W_after 2 (fun e C => ∃ (x15 : SMap Int), ∃ (x16 : List Int), ∃ (v13 : Value), lcs_Numbers_k3 x6 x4 x15 x16 = some w2l ∧ At [(3, Pr.mp b2), (4, Pr.is v3), (7, Pr.is v13), (13, Pr.lst (Rp.list Rp.str) x1), (14, Pr.i64 (x1.length : Int)), (15, Pr.i64 x4)] [Own.smap b2 (Rp.int .i64) x15, Own.vec v3 (Rp.list (Rp.int .i64)) x6 90, Own.vec v13 (Rp.int .i64) x16 3] e C) ?_ ?_
      · rintro e C ⟨x15, x16, v13, h2l, hat3⟩
        refine W_at hat3 ?_
        clear hat3
        unfold lcs_Numbers_k3 at h2l
        refine W_r ?_
        refine rq (out := Pr.is v3) qMove ?_
        refine rq (out := Pr.is v13) qMove ?_
        refine rRel 2 [7, 44] ?_ rfl ⟨rfl, rfl, trivial⟩
        refine rq (out := Pr.lst (Rp.list (Rp.int .i64)) ([x16] : List (List Int))) (qBuildSlice1 (R := Rp.list (Rp.int .i64)) (a := x16) el87 (Nat.le_of_ble_eq_true rfl)) ?_
        obtain ⟨x28, hx28, h2l⟩ := bindSome h2l
        refine rAppend' 1 el87 hx28 (fun v29 => ?_)
        refine rq (out := Pr.is v29) qAssign ?_
        refine W_r ?_
        refine rq (out := Pr.i64 (w64 (x4 + 1))) qInt ?_
        refine rq (out := Pr.i64 (w64 (x4 + 1))) qMove ?_
        exact ⟨m2, Nat.lt_succ_self _, w64 (x4 + 1), x15, x28, v29, hn2 _ (Option.some.inj h2l).symm, ⟨⟨Pr.le_rfl, Pr.le_rfl, Pr.le_rfl, Pr.le_rfl, Pr.le_rfl, trivial⟩, Pick.refl _⟩⟩
      · refine W_nil [7] (Rp.int .i64) 3 (fun v30 => ?_) ⟨rfl, trivial⟩
        refine W_loop (fun m e C => ∃ (x14 : Int), ∃ (x15 : SMap Int), ∃ (x16 : List Int), ∃ (v13 : Value), IterN (fun s => lcs_Numbers_l4 x12 s.1 s.2.1 s.2.2) m (x14, x15, x16) = some z4l ∧ At [(3, Pr.mp b2), (4, Pr.is v3), (7, Pr.is v13), (13, Pr.lst (Rp.list Rp.str) x1), (14, Pr.i64 (x1.length : Int)), (15, Pr.i64 x4), (19, Pr.lst Rp.str x12), (20, Pr.i64 (x12.length : Int)), (21, Pr.i64 x14)] [Own.smap b2 (Rp.int .i64) x15, Own.vec v3 (Rp.list (Rp.int .i64)) x6 90, Own.vec v13 (Rp.int .i64) x16 3] e C) n4 ⟨0, x5, [], v30, hN4, ⟨⟨Pr.le_rfl, Pr.le_rfl, Pr.le_rfl, Pr.le_rfl, Pr.le_rfl, Pr.le_rfl, Pr.le_rfl, Pr.le_rfl, Pr.le_rfl, trivial⟩, Pick.refl _⟩⟩ ?_
        clear hN4
        rintro m e C ⟨x14, x15, x16, v13, hN4, hatl4⟩
        refine W_at hatl4 ?_
        clear hatl4
        obtain ⟨m4, w4l, rfl, h4l, hn4, ho4⟩ := iterN_some hN4
        clear hN4
        replace h4l : lcs_Numbers_l4 x12 x14 x15 x16 = some w4l := h4l
        unfold lcs_Numbers_l4 at h4l
        refine W_rs ?_
        refine rq (out := Pr.bool (decide (x14 < (x12.length : Int)))) qInt ?_
        refine W_seq ?_
        refine W_cond (b := decide (x14 < (x12.length : Int))) rfl (fun hc21 => ?_) (fun hc21 => ?_)
        · replace h4l := iteT hc21 h4l
          refine W_skip ?_
          refine W_seq ?_
          refine W_block ?_
          refine W_rs ?_
          obtain ⟨x22, hx22, h4l⟩ := bindSome h4l
          refine rq (out := Pr.cpt Rp.str x22) (qIdxA (R := Rp.str) (l := x12) Tryz.underlying33 Tryz.sizeOf9 hx22) ?_
          refine rq (out := Pr.str x22) (qLoadC (R := Rp.str) (a := x22) ty9) ?_
          refine rq (out := Pr.str x22) qAssign ?_
          refine W_rs ?_
          refine rq (out := Pr.mp b2) qMove ?_
          refine rq (out := Pr.str x22) qMove ?_
          refine rq (out := Pr.tup [Pr.i64 (mget x22 0 x15), Pr.bool (mhas x22 x15)]) (qMapGet2 (R := Rp.int .i64) (m := x15) (kx := x22) (z := 0) 0 Tryz.underlying111 Tryz.underlying9 Tryz.zeroValue3 (fun _ => rfl)) ?_
          refine rq (out := Pr.tup [Pr.i64 (mget x22 0 x15), Pr.bool (mhas x22 x15)]) qMove ?_
          refine rq (out := Pr.i64 (mget x22 0 x15)) qExtract ?_
          refine rq (out := Pr.bool (mhas x22 x15)) qExtract ?_
          refine rq (out := Pr.i64 (mget x22 0 x15)) qAssign ?_
          refine rq (out := Pr.bool (mhas x22 x15)) qAssign ?_
          refine W_join (fun e C => ∃ (x24 : Int), ∃ (x25 : SMap Int), lcs_Numbers_j5 x16 x14 x24 x25 = some w4l ∧ At [(3, Pr.mp b2), (4, Pr.is v3), (7, Pr.is v13), (10, Pr.i64 x24), (13, Pr.lst (Rp.list Rp.str) x1), (14, Pr.i64 (x1.length : Int)), (15, Pr.i64 x4), (19, Pr.lst Rp.str x12), (20, Pr.i64 (x12.length : Int)), (21, Pr.i64 x14)] [Own.smap b2 (Rp.int .i64) x25, Own.vec v3 (Rp.list (Rp.int .i64)) x6 90, Own.vec v13 (Rp.int .i64) x16 3] e C) ?_ ?_
          · rintro e C ⟨x24, x25, h4l, hat5⟩
            refine W_at hat5 ?_
            clear hat5
            unfold lcs_Numbers_j5 at h4l
            refine W_r ?_
            refine rq (out := Pr.is v13) qMove ?_
            refine rq (out := Pr.i64 x24) qMove ?_
            refine rq (out := Pr.lst (Rp.int .i64) ([x24] : List Int)) (qBuildSlice1 (R := Rp.int .i64) (a := x24) el90 (Nat.le_of_ble_eq_true rfl)) ?_
            obtain ⟨x26, hx26, h4l⟩ := bindSome h4l
            refine rAppend' 2 el90 hx26 (fun v27 => ?_)
            refine rq (out := Pr.is v27) qAssign ?_
            refine W_r ?_
            refine rq (out := Pr.i64 (w64 (x14 + 1))) qInt ?_
            refine rq (out := Pr.i64 (w64 (x14 + 1))) qMove ?_
            exact ⟨m4, Nat.lt_succ_self _, w64 (x14 + 1), x25, x26, v27, hn4 _ (Option.some.inj h4l).symm, ⟨⟨Pr.le_rfl, Pr.le_rfl, Pr.le_rfl, Pr.le_rfl, Pr.le_rfl, Pr.le_rfl, Pr.le_rfl, Pr.le_rfl, Pr.le_rfl, trivial⟩, Pick.refl _⟩⟩
          · refine W_rs ?_
            refine rq (out := Pr.bool (mhas x22 x15)) qMove ?_
            refine rq (out := Pr.bool (!(mhas x22 x15))) qNot ?_
            refine W_cond (b := !(mhas x22 x15)) rfl (fun hc23 => ?_) (fun hc23 => ?_)
            · replace h4l := iteT hc23 h4l
              refine W_rs ?_
              refine rq (out := Pr.mp b2) qMove ?_
              refine rq (out := Pr.i64 (x15.length : Int)) (qMapLen 0 rfl Tryz.underlying111) ?_
              refine rq (out := Pr.i64 (x15.length : Int)) qAssign ?_
              refine W_r ?_
              refine rq (out := Pr.mp b2) qMove ?_
              refine rq (out := Pr.str x22) qMove ?_
              refine rq (out := Pr.i64 (x15.length : Int)) qMove ?_
              refine rMapSet (R := Rp.int .i64) (m := x15) (kx := x22) (v := (x15.length : Int)) 0 Tryz.underlying111 Tryz.underlying9 ?_
              exact ⟨(x15.length : Int), (mset x22 (x15.length : Int) x15), h4l, ⟨⟨Pr.le_rfl, Pr.le_rfl, Pr.le_rfl, Pr.le_rfl, Pr.le_rfl, Pr.le_rfl, Pr.le_rfl, Pr.le_rfl, Pr.le_rfl, Pr.le_rfl, trivial⟩, Pick.refl _⟩⟩
            · replace h4l := iteF hc23 h4l
              refine W_skip ?_
              exact ⟨(mget x22 0 x15), x15, h4l, ⟨⟨Pr.le_rfl, Pr.le_rfl, Pr.le_rfl, Pr.le_rfl, Pr.le_rfl, Pr.le_rfl, Pr.le_rfl, Pr.le_rfl, Pr.le_rfl, Pr.le_rfl, trivial⟩, Pick.refl _⟩⟩
        · replace h4l := iteF hc21 h4l
          refine W_exit ?_
          obtain rfl := ho4 _ (Option.some.inj h4l).symm
          exact ⟨x15, x16, v13, h2l, ⟨⟨Pr.le_rfl, Pr.le_rfl, Pr.le_rfl, Pr.le_rfl, Pr.le_rfl, Pr.le_rfl, trivial⟩, Pick.refl _⟩⟩
    · replace h2l := iteF hc11 h2l
      refine W_exit ?_
      obtain rfl := ho2 _ (Option.some.inj h2l).symm
      exact ⟨x5, x6, v3, h, ⟨⟨Pr.le_rfl, trivial⟩, Pick.refl _⟩⟩
theorem lcs_none_ok (x1 : Int) (r : (List Int)) (h : lcs_none x1 = some r) : FnC Tryz.prog 101 [Pr.i64 x1] [] (fun q C' => ∃ u0, q = Pr.is u0 ∧ C' = [Own.vec u0 (Rp.int .i64) r 3]) := by
  refine fnc_introP (n := 16) (rs := [2]) Tryz.func101 rfl Tryz.ntmps101 ⟨by decide, Tryz.results101⟩ (by decide) (fun s0 => ?_)
  unfold lcs_none at h
  refine W_rs ?_
  refine rq (out := Pr.is (.slice none 0 0)) qAssign ?_
  refine W_rs ?_
  refine rq (out := Pr.i64 x1) qMove ?_
  obtain ⟨x2, hx2, h⟩ := bindSome h
  refine rMake (R := Rp.int .i64) (z := 0) el90 Tryz.zeroValue3 (fun _ => rfl) hx2 (fun v3 => ?_)
  refine rq (out := Pr.is v3) qAssign ?_
  refine W_seq ?_
  refine W_rs ?_
  refine rq (out := Pr.i64 x1) qMove ?_
  refine rq (out := Pr.i64 0) qMove ?_
  refine W_block ?_
  obtain ⟨z2l, hz2, h⟩ := bindSome h
  obtain ⟨n2, hN2⟩ := iter_some hz2
  clear hz2
  refine W_after 0 (fun e C => ∃ (x5 : List Int), lcs_none_k1 x5 = some r ∧ At [(3, Pr.is v3)] [Own.vec v3 (Rp.int .i64) x5 3] e C) ?_ ?_
  · rintro e C ⟨x5, h, hat1⟩
    refine W_at hat1 ?_
    clear hat1
    unfold lcs_none_k1 at h
    refine W_rs ?_
    refine rq (out := Pr.is v3) qMove ?_
    refine rq (out := Pr.is v3) qAssign ?_
    obtain rfl := Option.some.inj h
    exact W_ret ⟨.inl rfl, _, Pick.refl _, _, (Pr.le_rfl), v3, rfl, rfl⟩
  · refine W_loop (fun m e C => ∃ (x4 : Int), ∃ (x5 : List Int), IterN (fun s => lcs_none_l2 x1 s.1 s.2) m (x4, x5) = some z2l ∧ At [(3, Pr.is v3), (7, Pr.i64 x1), (8, Pr.i64 x4)] [Own.vec v3 (Rp.int .i64) x5 3] e C) n2 ⟨0, (List.replicate x2 0), hN2, ⟨⟨Pr.le_rfl, Pr.le_rfl, Pr.le_rfl, trivial⟩, Pick.refl _⟩⟩ ?_
    clear hN2
    rintro m e C ⟨x4, x5, hN2, hatl2⟩
    refine W_at hatl2 ?_
    clear hatl2
    obtain ⟨m2, w2l, rfl, h2l, hn2, ho2⟩ := iterN_some hN2
    clear hN2
    replace h2l : lcs_none_l2 x1 x4 x5 = some w2l := h2l
    unfold lcs_none_l2 at h2l
    refine W_rs ?_
    refine rq (out := Pr.bool (decide (x4 < x1))) qInt ?_
    refine W_seq ?_
    refine W_cond (b := decide (x4 < x1)) rfl (fun hc8 => ?_) (fun hc8 => ?_)
    · replace h2l := iteT hc8 h2l
      refine W_skip ?_
      refine W_seq ?_
      refine W_block ?_
      refine W_rs ?_
      refine rq (out := Pr.i64 x4) qMove ?_
      refine rq (out := Pr.i64 x4) qAssign ?_
      refine W_r ?_
      refine rq (out := Pr.is v3) qMove ?_
      refine rq (out := Pr.i64 x4) qMove ?_
      obtain ⟨x9, hx9, h2l⟩ := bindSome h2l
      refine rq (out := Pr.vpt v3 (Int.toNat x4 * (Rp.int .i64).size)) (qIdxV 0 (R := Rp.int .i64) (l := x5) Tryz.underlying90 Tryz.sizeOf3 hx9) ?_
      refine rStoreE (R := Rp.int .i64) (R' := Rp.int .i64) (l := x5) (a := x9) (y := (-1)) (o := 0) 0 Tryz.sizeOf3 (Upd.refl _) hx9 rfl ?_
      refine W_r ?_
      refine rq (out := Pr.i64 (w64 (x4 + 1))) qInt ?_
      refine rq (out := Pr.i64 (w64 (x4 + 1))) qMove ?_
      exact ⟨m2, Nat.lt_succ_self _, w64 (x4 + 1), (List.set x5 (Int.toNat x4) (-1)), hn2 _ (Option.some.inj h2l).symm, ⟨⟨Pr.le_rfl, Pr.le_rfl, Pr.le_rfl, trivial⟩, Pick.refl _⟩⟩
    · replace h2l := iteF hc8 h2l
      refine W_exit ?_
      obtain rfl := ho2 _ (Option.some.inj h2l).symm
      exact ⟨x5, h, ⟨⟨Pr.le_rfl, trivial⟩, Pick.refl _⟩⟩
theorem lcs_ends_ok (x1 : List Int) (x2 : List Int) (x4 : List Int) (v3 : Value) (r : Int × Int × (List Int)) (h : lcs_ends x1 x2 x4 = some r) : FnC Tryz.prog 102 [Pr.lst (Rp.int .i64) x1, Pr.lst (Rp.int .i64) x2, Pr.is v3] [Own.vec v3 (Rp.int .i64) x4 3] (fun q C' => q = Pr.tup [Pr.i64 r.1, Pr.i64 r.2.1] ∧ C' = [Own.vec v3 (Rp.int .i64) r.2.2 3]) := by
  refine fnc_introP (n := 84) (rs := [6, 7]) Tryz.func102 rfl Tryz.ntmps102 ⟨by decide, Tryz.results102⟩ (by decide) (fun s0 => ?_)
  unfold lcs_ends at h
  refine W_rs ?_
  refine rq (out := Pr.i64 0) qAssign ?_
  refine rq (out := Pr.i64 0) qAssign ?_
  refine W_rs ?_
  refine rq (out := Pr.i64 0) qAssign ?_
  refine W_seq ?_
  refine W_block ?_
  obtain ⟨z7l, hz7, h⟩ := bindSome h
  obtain ⟨n7, hN7⟩ := iter_some hz7
  clear hz7
  refine W_after 0 (fun e C => ∃ (x5 : Int), ∃ (x6 : List Int), lcs_ends_k6 x2 x1 x5 x6 = some r ∧ At [(0, Pr.lst (Rp.int .i64) x1), (1, Pr.lst (Rp.int .i64) x2), (2, Pr.is v3), (8, Pr.i64 x5)] [Own.vec v3 (Rp.int .i64) x6 3] e C) ?_ ?_
  · rintro e C ⟨x5, x6, h, hat6⟩
    refine W_at hat6 ?_
    clear hat6
    unfold lcs_ends_k6 at h
    refine W_rs ?_
    refine rq (out := Pr.i64 0) qAssign ?_
    refine W_seq ?_
    refine W_block ?_
    obtain ⟨z4l, hz4, h⟩ := bindSome h
    obtain ⟨n4, hN4⟩ := iter_some hz4
    clear hz4
    refine W_after 2 (fun e C => ∃ (x15 : Int), lcs_ends_k3 x1 x2 x6 x5 x15 = some r ∧ At [(0, Pr.lst (Rp.int .i64) x1), (1, Pr.lst (Rp.int .i64) x2), (2, Pr.is v3), (8, Pr.i64 x5), (9, Pr.i64 x15)] [Own.vec v3 (Rp.int .i64) x6 3] e C) ?_ ?_
    · rintro e C ⟨x15, h, hat3⟩
      refine W_at hat3 ?_
      clear hat3
      unfold lcs_ends_k3 at h
      refine W_seq ?_
      refine W_rs ?_
      refine rq (out := Pr.i64 x15) qMove ?_
      refine rq (out := Pr.i64 0) qMove ?_
      refine W_block ?_
      obtain ⟨z2l, hz2, h⟩ := bindSome h
      obtain ⟨n2, hN2⟩ := iter_some hz2
      clear hz2
      refine W_after 4 (fun e C => ∃ (x23 : List Int), lcs_ends_k1 x5 x15 x23 = some r ∧ At [(2, Pr.is v3), (8, Pr.i64 x5), (9, Pr.i64 x15)] [Own.vec v3 (Rp.int .i64) x23 3] e C) ?_ ?_
      · rintro e C ⟨x23, h, hat1⟩
        refine W_at hat1 ?_
        clear hat1
        unfold lcs_ends_k1 at h
        refine W_rs ?_
        refine rq (out := Pr.i64 x5) qMove ?_
        refine rq (out := Pr.i64 x15) qMove ?_
        refine rq (out := Pr.i64 x5) qAssign ?_
        refine rq (out := Pr.i64 x15) qAssign ?_
        obtain rfl := Option.some.inj h
        exact W_ret ⟨.inl rfl, _, Pick.refl _, _, (Pr.le_rfl), rfl, rfl⟩
      · refine W_loop (fun m e C => ∃ (x22 : Int), ∃ (x23 : List Int), IterN (fun s => lcs_ends_l2 x15 x1 x2 s.1 s.2) m (x22, x23) = some z2l ∧ At [(0, Pr.lst (Rp.int .i64) x1), (1, Pr.lst (Rp.int .i64) x2), (2, Pr.is v3), (8, Pr.i64 x5), (9, Pr.i64 x15), (65, Pr.i64 x15), (66, Pr.i64 x22)] [Own.vec v3 (Rp.int .i64) x23 3] e C) n2 ⟨0, x6, hN2, ⟨⟨Pr.le_rfl, Pr.le_rfl, Pr.le_rfl, Pr.le_rfl, Pr.le_rfl, Pr.le_rfl, Pr.le_rfl, trivial⟩, Pick.refl _⟩⟩ ?_
        clear hN2
        rintro m e C ⟨x22, x23, hN2, hatl2⟩
        refine W_at hatl2 ?_
        clear hatl2
        obtain ⟨m2, w2l, rfl, h2l, hn2, ho2⟩ := iterN_some hN2
        clear hN2
        replace h2l : lcs_ends_l2 x15 x1 x2 x22 x23 = some w2l := h2l
        unfold lcs_ends_l2 at h2l
        refine W_rs ?_
        refine rq (out := Pr.bool (decide (x22 < x15))) qInt ?_
        refine W_seq ?_
        refine W_cond (b := decide (x22 < x15)) rfl (fun hc26 => ?_) (fun hc26 => ?_)
        · replace h2l := iteT hc26 h2l
          refine W_skip ?_
          refine W_seq ?_
          refine W_block ?_
          refine W_rs ?_
          refine rq (out := Pr.i64 x22) qMove ?_
          refine rq (out := Pr.i64 x22) qAssign ?_
          refine W_r ?_
          refine rq (out := Pr.is v3) qMove ?_
          refine rq (out := Pr.lst (Rp.int .i64) x1) qMove ?_
          refine rq (out := Pr.i64 (x1.length : Int)) (qLenL rfl Tryz.underlying90) ?_
          refine rq (out := Pr.i64 (w64 ((x1.length : Int) - 1))) qInt ?_
          refine rq (out := Pr.i64 x22) qMove ?_
          refine rq (out := Pr.i64 (w64 ((w64 ((x1.length : Int) - 1)) - x22))) qInt ?_
          refine rq (out := Pr.lst (Rp.int .i64) x2) qMove ?_
          refine rq (out := Pr.i64 (x2.length : Int)) (qLenL rfl Tryz.underlying90) ?_
          refine rq (out := Pr.i64 (w64 ((x2.length : Int) - 1))) qInt ?_
          refine rq (out := Pr.i64 x22) qMove ?_
          refine rq (out := Pr.i64 (w64 ((w64 ((x2.length : Int) - 1)) - x22))) qInt ?_
          obtain ⟨x27, hx27, h2l⟩ := bindSome h2l
          refine rq (out := Pr.vpt v3 (Int.toNat (w64 ((w64 ((x1.length : Int) - 1)) - x22)) * (Rp.int .i64).size)) (qIdxV 0 (R := Rp.int .i64) (l := x23) Tryz.underlying90 Tryz.sizeOf3 hx27) ?_
          refine rStoreE (R := Rp.int .i64) (R' := Rp.int .i64) (l := x23) (a := x27) (y := w64 ((w64 ((x2.length : Int) - 1)) - x22)) (o := 0) 0 Tryz.sizeOf3 (Upd.refl _) hx27 rfl ?_
          refine W_r ?_
          refine rq (out := Pr.i64 (w64 (x22 + 1))) qInt ?_
          refine rq (out := Pr.i64 (w64 (x22 + 1))) qMove ?_
          exact ⟨m2, Nat.lt_succ_self _, w64 (x22 + 1), (List.set x23 (Int.toNat (w64 ((w64 ((x1.length : Int) - 1)) - x22))) (w64 ((w64 ((x2.length : Int) - 1)) - x22))), hn2 _ (Option.some.inj h2l).symm, ⟨⟨Pr.le_rfl, Pr.le_rfl, Pr.le_rfl, Pr.le_rfl, Pr.le_rfl, Pr.le_rfl, Pr.le_rfl, trivial⟩, Pick.refl _⟩⟩
        · replace h2l := iteF hc26 h2l
          refine W_exit ?_
          obtain rfl := ho2 _ (Option.some.inj h2l).symm
          exact ⟨x23, h, ⟨⟨Pr.le_rfl, Pr.le_rfl, Pr.le_rfl, trivial⟩, Pick.refl _⟩⟩
    · refine W_loop (fun m e C => ∃ (x15 : Int), IterN (fun s => lcs_ends_l4 x2 x1 x5 s) m x15 = some z4l ∧ At [(0, Pr.lst (Rp.int .i64) x1), (1, Pr.lst (Rp.int .i64) x2), (2, Pr.is v3), (8, Pr.i64 x5), (9, Pr.i64 x15)] [Own.vec v3 (Rp.int .i64) x6 3] e C) n4 ⟨0, hN4, ⟨⟨Pr.le_rfl, Pr.le_rfl, Pr.le_rfl, Pr.le_rfl, Pr.le_rfl, trivial⟩, Pick.refl _⟩⟩ ?_
      clear hN4
      rintro m e C ⟨x15, hN4, hatl4⟩
      refine W_at hatl4 ?_
      clear hatl4
      obtain ⟨m4, w4l, rfl, h4l, hn4, ho4⟩ := iterN_some hN4
      clear hN4
      replace h4l : lcs_ends_l4 x2 x1 x5 x15 = some w4l := h4l
      unfold lcs_ends_l4 at h4l
      refine W_seq ?_
      refine W_join (fun e C => ∃ (x20 : Bool), lcs_ends_j5 x15 x20 = some w4l ∧ At [(0, Pr.lst (Rp.int .i64) x1), (1, Pr.lst (Rp.int .i64) x2), (2, Pr.is v3), (8, Pr.i64 x5), (9, Pr.i64 x15), (62, Pr.bool x20)] [Own.vec v3 (Rp.int .i64) x6 3] e C) ?_ ?_
      · rintro e C ⟨x20, h4l, hat5⟩
        refine W_at hat5 ?_
        clear hat5
        unfold lcs_ends_j5 at h4l
        refine W_cond (b := x20) rfl (fun hc21 => ?_) (fun hc21 => ?_)
        · replace h4l := iteT hc21 h4l
          refine W_skip ?_
          refine W_block ?_
          refine W_r ?_
          refine rq (out := Pr.i64 x15) qMove ?_
          refine rq (out := Pr.i64 (w64 (x15 + 1))) qInt ?_
          refine rq (out := Pr.i64 (w64 (x15 + 1))) qAssign ?_
          exact ⟨m4, Nat.lt_succ_self _, w64 (x15 + 1), hn4 _ (Option.some.inj h4l).symm, ⟨⟨Pr.le_rfl, Pr.le_rfl, Pr.le_rfl, Pr.le_rfl, Pr.le_rfl, trivial⟩, Pick.refl _⟩⟩
        · replace h4l := iteF hc21 h4l
          refine W_exit ?_
          obtain rfl := ho4 _ (Option.some.inj h4l).symm
          exact ⟨x15, h, ⟨⟨Pr.le_rfl, Pr.le_rfl, Pr.le_rfl, Pr.le_rfl, Pr.le_rfl, trivial⟩, Pick.refl _⟩⟩
      · refine W_draw 28 hmx (by kernel_rfl) (by kernel_rfl) ?_
        refine qq (out := Pr.i64 x15) qMove ?_
        refine qq (out := Pr.lst (Rp.int .i64) x1) qMove ?_
        refine qq (out := Pr.i64 (x1.length : Int)) (qLenL rfl Tryz.underlying90) ?_
        refine qq (out := Pr.lst (Rp.int .i64) x2) qMove ?_
        refine qq (out := Pr.i64 (x2.length : Int)) (qLenL rfl Tryz.underlying90) ?_
        refine qq (out := Pr.i64 (if (x2.length : Int) < (x1.length : Int) then (x2.length : Int) else (x1.length : Int))) (qMin (a := (x1.length : Int)) (b := (x2.length : Int))) ?_
        refine qq (out := Pr.i64 x5) qMove ?_
        refine qq (out := Pr.i64 (w64 ((if (x2.length : Int) < (x1.length : Int) then (x2.length : Int) else (x1.length : Int)) - x5))) qInt ?_
        refine qq (out := Pr.bool (decide (x15 < (w64 ((if (x2.length : Int) < (x1.length : Int) then (x2.length : Int) else (x1.length : Int)) - x5))))) qInt ?_
        refine qq (out := Pr.bool (decide (x15 < (w64 ((if (x2.length : Int) < (x1.length : Int) then (x2.length : Int) else (x1.length : Int)) - x5))))) qMove ?_
        rcases iteSome h4l with ⟨hc17, h4l⟩ | ⟨hc17, h4l⟩
        · refine qqg hc17 (out := Pr.lst (Rp.int .i64) x1) qMove ?_
          refine qqg hc17 (out := Pr.lst (Rp.int .i64) x1) qMove ?_
          refine qqg hc17 (out := Pr.i64 (x1.length : Int)) (qLenL rfl Tryz.underlying90) ?_
          refine qqg hc17 (out := Pr.i64 (w64 ((x1.length : Int) - 1))) qInt ?_
          refine qqg hc17 (out := Pr.i64 x15) qMove ?_
          refine qqg hc17 (out := Pr.i64 (w64 ((w64 ((x1.length : Int) - 1)) - x15))) qInt ?_
          obtain ⟨x18, hx18, h4l⟩ := bindSome h4l
          refine qqg hc17 (out := Pr.cpt (Rp.int .i64) x18) (qIdxA (R := Rp.int .i64) (l := x1) Tryz.underlying90 Tryz.sizeOf3 hx18) ?_
          refine qqg hc17 (out := Pr.i64 x18) (qLoadC (R := Rp.int .i64) (a := x18) ty3) ?_
          refine qqg hc17 (out := Pr.lst (Rp.int .i64) x2) qMove ?_
          refine qqg hc17 (out := Pr.lst (Rp.int .i64) x2) qMove ?_
          refine qqg hc17 (out := Pr.i64 (x2.length : Int)) (qLenL rfl Tryz.underlying90) ?_
          refine qqg hc17 (out := Pr.i64 (w64 ((x2.length : Int) - 1))) qInt ?_
          refine qqg hc17 (out := Pr.i64 x15) qMove ?_
          refine qqg hc17 (out := Pr.i64 (w64 ((w64 ((x2.length : Int) - 1)) - x15))) qInt ?_
          obtain ⟨x19, hx19, h4l⟩ := bindSome h4l
          refine qqg hc17 (out := Pr.cpt (Rp.int .i64) x19) (qIdxA (R := Rp.int .i64) (l := x2) Tryz.underlying90 Tryz.sizeOf3 hx19) ?_
          refine qqg hc17 (out := Pr.i64 x19) (qLoadC (R := Rp.int .i64) (a := x19) ty3) ?_
          refine qqg hc17 (out := Pr.bool (x18 == x19)) qInt ?_
          refine qq (out := Pr.bool (x18 == x19)) (qPickT hc17) ?_
          exact ⟨x18 == x19, h4l, ⟨⟨Pr.le_rfl, Pr.le_rfl, Pr.le_rfl, Pr.le_rfl, Pr.le_rfl, Pr.le_rfl, trivial⟩, Pick.refl _⟩⟩
        · refine qqno (neT hc17) ?_
          refine qqno (neT hc17) ?_
          refine qqno (neT hc17) ?_
          refine qqno (neT hc17) ?_
          refine qqno (neT hc17) ?_
          refine qqno (neT hc17) ?_
          refine qqno (neT hc17) ?_
          refine qqno (neT hc17) ?_
          refine qqno (neT hc17) ?_
          refine qqno (neT hc17) ?_
          refine qqno (neT hc17) ?_
          refine qqno (neT hc17) ?_
          refine qqno (neT hc17) ?_
          refine qqno (neT hc17) ?_
          refine qqno (neT hc17) ?_
          refine qqno (neT hc17) ?_
          refine qqno (neT hc17) ?_
          refine qq (out := Pr.bool false) (qPickF hc17) ?_
          exact ⟨false, h4l, ⟨⟨Pr.le_rfl, Pr.le_rfl, Pr.le_rfl, Pr.le_rfl, Pr.le_rfl, Pr.le_rfl, trivial⟩, Pick.refl _⟩⟩
  · refine W_loop (fun m e C => ∃ (x5 : Int), ∃ (x6 : List Int), IterN (fun s => lcs_ends_l7 x2 x1 s.1 s.2) m (x5, x6) = some z7l ∧ At [(0, Pr.lst (Rp.int .i64) x1), (1, Pr.lst (Rp.int .i64) x2), (2, Pr.is v3), (8, Pr.i64 x5)] [Own.vec v3 (Rp.int .i64) x6 3] e C) n7 ⟨0, x4, hN7, ⟨⟨Pr.le_rfl, Pr.le_rfl, Pr.le_rfl, Pr.le_rfl, trivial⟩, Pick.refl _⟩⟩ ?_
    clear hN7
    rintro m e C ⟨x5, x6, hN7, hatl7⟩
    refine W_at hatl7 ?_
    clear hatl7
    obtain ⟨m7, w7l, rfl, h7l, hn7, ho7⟩ := iterN_some hN7
    clear hN7
    replace h7l : lcs_ends_l7 x2 x1 x5 x6 = some w7l := h7l
    unfold lcs_ends_l7 at h7l
    refine W_seq ?_
    refine W_join (fun e C => ∃ (x12 : Bool), lcs_ends_j8 x6 x5 x12 = some w7l ∧ At [(0, Pr.lst (Rp.int .i64) x1), (1, Pr.lst (Rp.int .i64) x2), (2, Pr.is v3), (8, Pr.i64 x5), (28, Pr.bool x12)] [Own.vec v3 (Rp.int .i64) x6 3] e C) ?_ ?_
    · rintro e C ⟨x12, h7l, hat8⟩
      refine W_at hat8 ?_
      clear hat8
      unfold lcs_ends_j8 at h7l
      refine W_cond (b := x12) rfl (fun hc13 => ?_) (fun hc13 => ?_)
      · replace h7l := iteT hc13 h7l
        refine W_skip ?_
        refine W_block ?_
        refine W_rs ?_
        refine rq (out := Pr.is v3) qMove ?_
        refine rq (out := Pr.i64 x5) qMove ?_
        refine rq (out := Pr.i64 x5) qMove ?_
        obtain ⟨x14, hx14, h7l⟩ := bindSome h7l
        refine rq (out := Pr.vpt v3 (Int.toNat x5 * (Rp.int .i64).size)) (qIdxV 0 (R := Rp.int .i64) (l := x6) Tryz.underlying90 Tryz.sizeOf3 hx14) ?_
        refine rStoreE (R := Rp.int .i64) (R' := Rp.int .i64) (l := x6) (a := x14) (y := x5) (o := 0) 0 Tryz.sizeOf3 (Upd.refl _) hx14 rfl ?_
        refine W_r ?_
        refine rq (out := Pr.i64 x5) qMove ?_
        refine rq (out := Pr.i64 (w64 (x5 + 1))) qInt ?_
        refine rq (out := Pr.i64 (w64 (x5 + 1))) qAssign ?_
        exact ⟨m7, Nat.lt_succ_self _, w64 (x5 + 1), (List.set x6 (Int.toNat x5) x5), hn7 _ (Option.some.inj h7l).symm, ⟨⟨Pr.le_rfl, Pr.le_rfl, Pr.le_rfl, Pr.le_rfl, trivial⟩, Pick.refl _⟩⟩
      · replace h7l := iteF hc13 h7l
        refine W_exit ?_
        obtain rfl := ho7 _ (Option.some.inj h7l).symm
        exact ⟨x5, x6, h, ⟨⟨Pr.le_rfl, Pr.le_rfl, Pr.le_rfl, Pr.le_rfl, trivial⟩, Pick.refl _⟩⟩
    · refine W_draw 18 hmx (by kernel_rfl) (by kernel_rfl) ?_
      refine qq (out := Pr.i64 x5) qMove ?_
      refine qq (out := Pr.lst (Rp.int .i64) x1) qMove ?_
      refine qq (out := Pr.i64 (x1.length : Int)) (qLenL rfl Tryz.underlying90) ?_
      refine qq (out := Pr.lst (Rp.int .i64) x2) qMove ?_
      refine qq (out := Pr.i64 (x2.length : Int)) (qLenL rfl Tryz.underlying90) ?_
      refine qq (out := Pr.i64 (if (x2.length : Int) < (x1.length : Int) then (x2.length : Int) else (x1.length : Int))) (qMin (a := (x1.length : Int)) (b := (x2.length : Int))) ?_
      refine qq (out := Pr.bool (decide (x5 < (if (x2.length : Int) < (x1.length : Int) then (x2.length : Int) else (x1.length : Int))))) qInt ?_
      refine qq (out := Pr.bool (decide (x5 < (if (x2.length : Int) < (x1.length : Int) then (x2.length : Int) else (x1.length : Int))))) qMove ?_
      rcases iteSome h7l with ⟨hc9, h7l⟩ | ⟨hc9, h7l⟩
      · refine qqg hc9 (out := Pr.lst (Rp.int .i64) x1) qMove ?_
        refine qqg hc9 (out := Pr.i64 x5) qMove ?_
        obtain ⟨x10, hx10, h7l⟩ := bindSome h7l
        refine qqg hc9 (out := Pr.cpt (Rp.int .i64) x10) (qIdxA (R := Rp.int .i64) (l := x1) Tryz.underlying90 Tryz.sizeOf3 hx10) ?_
        refine qqg hc9 (out := Pr.i64 x10) (qLoadC (R := Rp.int .i64) (a := x10) ty3) ?_
        refine qqg hc9 (out := Pr.lst (Rp.int .i64) x2) qMove ?_
        refine qqg hc9 (out := Pr.i64 x5) qMove ?_
        obtain ⟨x11, hx11, h7l⟩ := bindSome h7l
        refine qqg hc9 (out := Pr.cpt (Rp.int .i64) x11) (qIdxA (R := Rp.int .i64) (l := x2) Tryz.underlying90 Tryz.sizeOf3 hx11) ?_
        refine qqg hc9 (out := Pr.i64 x11) (qLoadC (R := Rp.int .i64) (a := x11) ty3) ?_
        refine qqg hc9 (out := Pr.bool (x10 == x11)) qInt ?_
        refine qq (out := Pr.bool (x10 == x11)) (qPickT hc9) ?_
        exact ⟨x10 == x11, h7l, ⟨⟨Pr.le_rfl, Pr.le_rfl, Pr.le_rfl, Pr.le_rfl, Pr.le_rfl, trivial⟩, Pick.refl _⟩⟩
      · refine qqno (neT hc9) ?_
        refine qqno (neT hc9) ?_
        refine qqno (neT hc9) ?_
        refine qqno (neT hc9) ?_
        refine qqno (neT hc9) ?_
        refine qqno (neT hc9) ?_
        refine qqno (neT hc9) ?_
        refine qqno (neT hc9) ?_
        refine qqno (neT hc9) ?_
        refine qq (out := Pr.bool false) (qPickF hc9) ?_
        exact ⟨false, h7l, ⟨⟨Pr.le_rfl, Pr.le_rfl, Pr.le_rfl, Pr.le_rfl, Pr.le_rfl, trivial⟩, Pick.refl _⟩⟩
theorem lcs_Match_ok (x1 : List Int) (x2 : List Int) (r : (List Int)) (h : lcs_Match x1 x2 = some r) : FnP Tryz.prog 86 [Pr.lst (Rp.int .i64) x1, Pr.lst (Rp.int .i64) x2] (Pr.lst (Rp.int .i64) r) := by
  refine fn_intro (n := 79) (rs := [4]) Tryz.func86 rfl Tryz.ntmps86 ⟨by decide, Tryz.results86⟩ (by decide) (fun s0 => ?_)
  unfold lcs_Match at h
  refine W_rs ?_
  refine rq (out := Pr.is (.slice none 0 0)) qAssign ?_
  refine W_rs ?_
  refine rq (out := Pr.lst (Rp.int .i64) x1) qMove ?_
  refine rq (out := Pr.i64 (x1.length : Int)) (qLenL rfl Tryz.underlying90) ?_
  obtain ⟨x3, hx3, h⟩ := bindSome h
  refine rCallC [] (lcs_none_ok (x1.length : Int) _ hx3) (fun q C' hq => ?_)
  obtain ⟨v4, rfl, rfl⟩ := hq
  refine rq (out := Pr.is v4) qAssign ?_
  refine W_seq ?_
  refine W_join (fun e C => ∃ (x6 : Bool), lcs_Match_j6 x1 x2 x3 x6 = some r ∧ At [(0, Pr.lst (Rp.int .i64) x1), (1, Pr.lst (Rp.int .i64) x2), (5, Pr.is v4), (19, Pr.bool x6)] [Own.vec v4 (Rp.int .i64) x3 3] e C) ?_ ?_
  · rintro e C ⟨x6, h, hat6⟩
    refine W_at hat6 ?_
    clear hat6
    unfold lcs_Match_j6 at h
    refine W_cond (b := x6) rfl (fun hc7 => ?_) (fun hc7 => ?_)
    · replace h := iteT hc7 h
      refine W_rs ?_
      refine rq (out := Pr.lst (Rp.int .i64) x1) qMove ?_
      refine rq (out := Pr.lst (Rp.int .i64) x2) qMove ?_
      refine rq (out := Pr.is v4) qMove ?_
      obtain ⟨⟨x8, x9, x10⟩, hx8, h⟩ := bindSome h
      refine rCallC [0] (lcs_ends_ok x1 x2 x3 v4 _ hx8) (fun q C' hq => ?_)
      obtain ⟨rfl, rfl⟩ := hq
      refine W_rs ?_
      refine rq (out := Pr.is v4) qMove ?_
      refine rq (out := Pr.is v4) qAssign ?_
      refine W_rel 0 [4] ?_ rfl ⟨rfl, trivial⟩
      obtain rfl := Option.some.inj h
      exact W_ret ⟨rfl, Pr.le_rfl⟩
    · replace h := iteF hc7 h
      refine W_skip ?_
      refine W_rs ?_
      refine rq (out := Pr.lst (Rp.int .i64) x1) qMove ?_
      refine rq (out := Pr.lst (Rp.int .i64) x2) qMove ?_
      obtain ⟨x11, hx11, h⟩ := bindSome h
      refine rq (out := Pr.lst (Rp.list (Rp.int .i32)) x11) (qCall (lcs_left_ok x1 x2 _ hx11)) ?_
      refine rq (out := Pr.lst (Rp.list (Rp.int .i32)) x11) qAssign ?_
      refine W_seq ?_
      refine W_rs ?_
      refine rq (out := Pr.i64 0) qAssign ?_
      refine rq (out := Pr.i64 0) qAssign ?_
      refine W_block ?_
      obtain ⟨z2l, hz2, h⟩ := bindSome h
      obtain ⟨n2, hN2⟩ := iter_some hz2
      clear hz2
      refine W_after 0 (fun e C => ∃ (x14 : List Int), lcs_Match_k1 x14 = some r ∧ At [(5, Pr.is v4)] [Own.vec v4 (Rp.int .i64) x14 3] e C) ?_ ?_
      · rintro e C ⟨x14, h, hat1⟩
        refine W_at hat1 ?_
        clear hat1
        unfold lcs_Match_k1 at h
        refine W_rs ?_
        refine rq (out := Pr.is v4) qMove ?_
        refine rq (out := Pr.is v4) qAssign ?_
        refine W_rel 0 [4] ?_ rfl ⟨rfl, trivial⟩
        obtain rfl := Option.some.inj h
        exact W_ret ⟨rfl, Pr.le_rfl⟩
      · refine W_loop (fun m e C => ∃ (x12 : Int), ∃ (x13 : Int), ∃ (x14 : List Int), IterN (fun s => lcs_Match_l2 x1 x2 x11 s.1 s.2.1 s.2.2) m (x12, x13, x14) = some z2l ∧ At [(0, Pr.lst (Rp.int .i64) x1), (1, Pr.lst (Rp.int .i64) x2), (5, Pr.is v4), (6, Pr.lst (Rp.list (Rp.int .i32)) x11), (7, Pr.i64 x12), (8, Pr.i64 x13)] [Own.vec v4 (Rp.int .i64) x14 3] e C) n2 ⟨0, 0, x3, hN2, ⟨⟨Pr.le_rfl, Pr.le_rfl, Pr.le_rfl, Pr.le_rfl, Pr.le_rfl, Pr.le_rfl, trivial⟩, Pick.refl _⟩⟩ ?_
        clear hN2
        rintro m e C ⟨x12, x13, x14, hN2, hatl2⟩
        refine W_at hatl2 ?_
        clear hatl2
        obtain ⟨m2, w2l, rfl, h2l, hn2, ho2⟩ := iterN_some hN2
        clear hN2
        replace h2l : lcs_Match_l2 x1 x2 x11 x12 x13 x14 = some w2l := h2l
        unfold lcs_Match_l2 at h2l
        refine W_seq ?_
        refine W_join (fun e C => ∃ (x19 : Bool), lcs_Match_j5 x1 x12 x2 x13 x14 x11 x19 = some w2l ∧ At [(0, Pr.lst (Rp.int .i64) x1), (1, Pr.lst (Rp.int .i64) x2), (5, Pr.is v4), (6, Pr.lst (Rp.list (Rp.int .i32)) x11), (7, Pr.i64 x12), (8, Pr.i64 x13), (37, Pr.bool x19)] [Own.vec v4 (Rp.int .i64) x14 3] e C) ?_ ?_
        · rintro e C ⟨x19, h2l, hat5⟩
          refine W_at hat5 ?_
          clear hat5
          unfold lcs_Match_j5 at h2l
          refine W_cond (b := x19) rfl (fun hc20 => ?_) (fun hc20 => ?_)
          · replace h2l := iteT hc20 h2l
            refine W_skip ?_
            refine W_block ?_
            refine W_block ?_
            refine W_join (fun e C => ∃ (x21 : Int), ∃ (x22 : Int), lcs_Match_j4 x14 x12 x13 x11 x21 x22 = some w2l ∧ At [(0, Pr.lst (Rp.int .i64) x1), (1, Pr.lst (Rp.int .i64) x2), (5, Pr.is v4), (6, Pr.lst (Rp.list (Rp.int .i32)) x11), (7, Pr.i64 x12), (8, Pr.i64 x13), (40, Pr.bool (x21 == x22))] [Own.vec v4 (Rp.int .i64) x14 3] e C) ?_ ?_
            · rintro e C ⟨x21, x22, h2l, hat4⟩
              refine W_at hat4 ?_
              clear hat4
              unfold lcs_Match_j4 at h2l
              refine W_cond (b := x21 == x22) rfl (fun hc23 => ?_) (fun hc23 => ?_)
              · replace h2l := iteT hc23 h2l
                refine W_rs ?_
                refine rq (out := Pr.is v4) qMove ?_
                refine rq (out := Pr.i64 x12) qMove ?_
                refine rq (out := Pr.i64 x13) qMove ?_
                obtain ⟨x24, hx24, h2l⟩ := bindSome h2l
                refine rq (out := Pr.vpt v4 (Int.toNat x12 * (Rp.int .i64).size)) (qIdxV 0 (R := Rp.int .i64) (l := x14) Tryz.underlying90 Tryz.sizeOf3 hx24) ?_
                refine rStoreE (R := Rp.int .i64) (R' := Rp.int .i64) (l := x14) (a := x24) (y := x13) (o := 0) 0 Tryz.sizeOf3 (Upd.refl _) hx24 rfl ?_
                refine W_r ?_
                refine rq (out := Pr.i64 x12) qMove ?_
                refine rq (out := Pr.i64 (w64 (x12 + 1))) qInt ?_
                refine rq (out := Pr.i64 x13) qMove ?_
                refine rq (out := Pr.i64 (w64 (x13 + 1))) qInt ?_
                refine rq (out := Pr.i64 (w64 (x12 + 1))) qAssign ?_
                refine rq (out := Pr.i64 (w64 (x13 + 1))) qAssign ?_
                exact ⟨m2, Nat.lt_succ_self _, w64 (x12 + 1), w64 (x13 + 1), (List.set x14 (Int.toNat x12) x13), hn2 _ (Option.some.inj h2l).symm, ⟨⟨Pr.le_rfl, Pr.le_rfl, Pr.le_rfl, Pr.le_rfl, Pr.le_rfl, Pr.le_rfl, trivial⟩, Pick.refl _⟩⟩
              · replace h2l := iteF hc23 h2l
                refine W_join (fun e C => ∃ (x26 : Int), ∃ (x28 : Int), lcs_Match_j3 x12 x13 x14 x26 x28 = some w2l ∧ At [(0, Pr.lst (Rp.int .i64) x1), (1, Pr.lst (Rp.int .i64) x2), (5, Pr.is v4), (6, Pr.lst (Rp.list (Rp.int .i32)) x11), (7, Pr.i64 x12), (8, Pr.i64 x13), (58, Pr.bool (decide (x26 ≥ x28)))] [Own.vec v4 (Rp.int .i64) x14 3] e C) ?_ ?_
                · rintro e C ⟨x26, x28, h2l, hat3⟩
                  refine W_at hat3 ?_
                  clear hat3
                  unfold lcs_Match_j3 at h2l
                  refine W_cond (b := decide (x26 ≥ x28)) rfl (fun hc29 => ?_) (fun hc29 => ?_)
                  · replace h2l := iteT hc29 h2l
                    refine W_r ?_
                    refine rq (out := Pr.i64 x12) qMove ?_
                    refine rq (out := Pr.i64 (w64 (x12 + 1))) qInt ?_
                    refine rq (out := Pr.i64 (w64 (x12 + 1))) qAssign ?_
                    exact ⟨m2, Nat.lt_succ_self _, w64 (x12 + 1), x13, x14, hn2 _ (Option.some.inj h2l).symm, ⟨⟨Pr.le_rfl, Pr.le_rfl, Pr.le_rfl, Pr.le_rfl, Pr.le_rfl, Pr.le_rfl, trivial⟩, Pick.refl _⟩⟩
                  · replace h2l := iteF hc29 h2l
                    refine W_r ?_
                    refine rq (out := Pr.i64 x13) qMove ?_
                    refine rq (out := Pr.i64 (w64 (x13 + 1))) qInt ?_
                    refine rq (out := Pr.i64 (w64 (x13 + 1))) qAssign ?_
                    exact ⟨m2, Nat.lt_succ_self _, x12, w64 (x13 + 1), x14, hn2 _ (Option.some.inj h2l).symm, ⟨⟨Pr.le_rfl, Pr.le_rfl, Pr.le_rfl, Pr.le_rfl, Pr.le_rfl, Pr.le_rfl, trivial⟩, Pick.refl _⟩⟩
                · refine W_draw 18 hmx (by kernel_rfl) (by kernel_rfl) ?_
                  refine qq (out := Pr.lst (Rp.list (Rp.int .i32)) x11) qMove ?_
                  refine qq (out := Pr.i64 x12) qMove ?_
                  refine qq (out := Pr.i64 (w64 (x12 + 1))) qInt ?_
                  obtain ⟨x25, hx25, h2l⟩ := bindSome h2l
                  refine qq (out := Pr.cpt (Rp.list (Rp.int .i32)) x25) (qIdxA (R := Rp.list (Rp.int .i32)) (l := x11) Tryz.underlying150 Tryz.sizeOf152 hx25) ?_
                  refine qq (out := Pr.lst (Rp.int .i32) x25) (qLoadC (R := Rp.list (Rp.int .i32)) (a := x25) ty152) ?_
                  refine qq (out := Pr.i64 x13) qMove ?_
                  obtain ⟨x26, hx26, h2l⟩ := bindSome h2l
                  refine qq (out := Pr.cpt (Rp.int .i32) x26) (qIdxA (R := Rp.int .i32) (l := x25) Tryz.underlying152 Tryz.sizeOf21 hx26) ?_
                  refine qq (out := Pr.int .i32 x26) (qLoadC (R := Rp.int .i32) (a := x26) ty21) ?_
                  refine qq (out := Pr.lst (Rp.list (Rp.int .i32)) x11) qMove ?_
                  refine qq (out := Pr.i64 x12) qMove ?_
                  obtain ⟨x27, hx27, h2l⟩ := bindSome h2l
                  refine qq (out := Pr.cpt (Rp.list (Rp.int .i32)) x27) (qIdxA (R := Rp.list (Rp.int .i32)) (l := x11) Tryz.underlying150 Tryz.sizeOf152 hx27) ?_
                  refine qq (out := Pr.lst (Rp.int .i32) x27) (qLoadC (R := Rp.list (Rp.int .i32)) (a := x27) ty152) ?_
                  refine qq (out := Pr.i64 x13) qMove ?_
                  refine qq (out := Pr.i64 (w64 (x13 + 1))) qInt ?_
                  obtain ⟨x28, hx28, h2l⟩ := bindSome h2l
                  refine qq (out := Pr.cpt (Rp.int .i32) x28) (qIdxA (R := Rp.int .i32) (l := x27) Tryz.underlying152 Tryz.sizeOf21 hx28) ?_
                  refine qq (out := Pr.int .i32 x28) (qLoadC (R := Rp.int .i32) (a := x28) ty21) ?_
                  refine qq (out := Pr.bool (decide (x26 ≥ x28))) qInt ?_
                  refine qq (out := Pr.bool (decide (x26 ≥ x28))) qAssign ?_
                  exact ⟨x26, x28, h2l, ⟨⟨Pr.le_rfl, Pr.le_rfl, Pr.le_rfl, Pr.le_rfl, Pr.le_rfl, Pr.le_rfl, Pr.le_rfl, trivial⟩, Pick.refl _⟩⟩
            · refine W_draw 10 hmx (by kernel_rfl) (by kernel_rfl) ?_
              refine qq (out := Pr.lst (Rp.int .i64) x1) qMove ?_
              refine qq (out := Pr.i64 x12) qMove ?_
              obtain ⟨x21, hx21, h2l⟩ := bindSome h2l
              refine qq (out := Pr.cpt (Rp.int .i64) x21) (qIdxA (R := Rp.int .i64) (l := x1) Tryz.underlying90 Tryz.sizeOf3 hx21) ?_
              refine qq (out := Pr.i64 x21) (qLoadC (R := Rp.int .i64) (a := x21) ty3) ?_
              refine qq (out := Pr.lst (Rp.int .i64) x2) qMove ?_
              refine qq (out := Pr.i64 x13) qMove ?_
              obtain ⟨x22, hx22, h2l⟩ := bindSome h2l
              refine qq (out := Pr.cpt (Rp.int .i64) x22) (qIdxA (R := Rp.int .i64) (l := x2) Tryz.underlying90 Tryz.sizeOf3 hx22) ?_
              refine qq (out := Pr.i64 x22) (qLoadC (R := Rp.int .i64) (a := x22) ty3) ?_
              refine qq (out := Pr.bool (x21 == x22)) qInt ?_
              refine qq (out := Pr.bool (x21 == x22)) qAssign ?_
              exact ⟨x21, x22, h2l, ⟨⟨Pr.le_rfl, Pr.le_rfl, Pr.le_rfl, Pr.le_rfl, Pr.le_rfl, Pr.le_rfl, Pr.le_rfl, trivial⟩, Pick.refl _⟩⟩
          · replace h2l := iteF hc20 h2l
            refine W_exit ?_
            obtain rfl := ho2 _ (Option.some.inj h2l).symm
            exact ⟨x14, h, ⟨⟨Pr.le_rfl, trivial⟩, Pick.refl _⟩⟩
        · refine W_r ?_
          refine rq (out := Pr.i64 x12) qMove ?_
          refine rq (out := Pr.lst (Rp.int .i64) x1) qMove ?_
          refine rq (out := Pr.i64 (x1.length : Int)) (qLenL rfl Tryz.underlying90) ?_
          refine rq (out := Pr.bool (decide (x12 < (x1.length : Int)))) qInt ?_
          refine rq (out := Pr.bool (decide (x12 < (x1.length : Int)))) qMove ?_
          rcases iteSome h2l with ⟨hc18, h2l⟩ | ⟨hc18, h2l⟩
          · refine rqg hc18 (out := Pr.i64 x13) qMove ?_
            refine rqg hc18 (out := Pr.lst (Rp.int .i64) x2) qMove ?_
            refine rqg hc18 (out := Pr.i64 (x2.length : Int)) (qLenL rfl Tryz.underlying90) ?_
            refine rqg hc18 (out := Pr.bool (decide (x13 < (x2.length : Int)))) qInt ?_
            refine rq (out := Pr.bool (decide (x13 < (x2.length : Int)))) (qPickT hc18) ?_
            exact ⟨decide (x13 < (x2.length : Int)), h2l, ⟨⟨Pr.le_rfl, Pr.le_rfl, Pr.le_rfl, Pr.le_rfl, Pr.le_rfl, Pr.le_rfl, Pr.le_rfl, trivial⟩, Pick.refl _⟩⟩
          · refine rno (neT hc18) ?_
            refine rno (neT hc18) ?_
            refine rno (neT hc18) ?_
            refine rno (neT hc18) ?_
            refine rq (out := Pr.bool false) (qPickF hc18) ?_
            exact ⟨false, h2l, ⟨⟨Pr.le_rfl, Pr.le_rfl, Pr.le_rfl, Pr.le_rfl, Pr.le_rfl, Pr.le_rfl, Pr.le_rfl, trivial⟩, Pick.refl _⟩⟩
  · refine W_r ?_
    refine rq (out := Pr.lst (Rp.int .i64) x1) qMove ?_
    refine rq (out := Pr.i64 (x1.length : Int)) (qLenL rfl Tryz.underlying90) ?_
    refine rq (out := Pr.bool (decide ((x1.length : Int) > 2000))) qInt ?_
    refine rq (out := Pr.bool (decide ((x1.length : Int) > 2000))) qMove ?_
    rcases iteSome h with ⟨hc5, h⟩ | ⟨hc5, h⟩
    · refine rno (neF hc5) ?_
      refine rno (neF hc5) ?_
      refine rno (neF hc5) ?_
      refine rq (out := Pr.bool true) (qPickT hc5) ?_
      exact ⟨true, h, ⟨⟨Pr.le_rfl, Pr.le_rfl, Pr.le_rfl, Pr.le_rfl, trivial⟩, Pick.refl _⟩⟩
    · refine rqg hc5 (out := Pr.lst (Rp.int .i64) x2) qMove ?_
      refine rqg hc5 (out := Pr.i64 (x2.length : Int)) (qLenL rfl Tryz.underlying90) ?_
      refine rqg hc5 (out := Pr.bool (decide ((x2.length : Int) > 2000))) qInt ?_
      refine rq (out := Pr.bool (decide ((x2.length : Int) > 2000))) (qPickF hc5) ?_
      exact ⟨decide ((x2.length : Int) > 2000), h, ⟨⟨Pr.le_rfl, Pr.le_rfl, Pr.le_rfl, Pr.le_rfl, trivial⟩, Pick.refl _⟩⟩
theorem diff3_chunks_1_1_ok (x2 : Diff3Ends) (x4 : Diff3Ends) (x6 : List Int) (x8 : List Int) (b1 : Nat) (b3 : Nat) (b5 : Nat) (b7 : Nat) (r : Int × Diff3Ends × Diff3Ends × (List Int) × (List Int)) (h : diff3_chunks_1_1 x2 x4 x6 x8 = some r) : FnC Tryz.prog 87 [Pr.pt b1 0, Pr.pt b3 0, Pr.pt b5 0, Pr.pt b7 0] [Own.box b1 rDiff3Ends x2, Own.box b3 rDiff3Ends x4, Own.box b5 (Rp.list (Rp.int .i64)) x6, Own.box b7 (Rp.list (Rp.int .i64)) x8] (fun q C' => q = Pr.i64 r.1 ∧ C' = [Own.box b1 rDiff3Ends r.2.1, Own.box b3 rDiff3Ends r.2.2.1, Own.box b5 (Rp.list (Rp.int .i64)) r.2.2.2.1, Own.box b7 (Rp.list (Rp.int .i64)) r.2.2.2.2]) := by
  refine fnc_introP (n := 44) (rs := [4]) Tryz.func87 rfl Tryz.ntmps87 ⟨by decide, Tryz.results87⟩ (by decide) (fun s0 => ?_)
  unfold diff3_chunks_1_1 at h
  refine W_rs ?_
  refine rq (out := Pr.i64 0) qAssign ?_
  refine W_rs ?_
  refine rq (out := Pr.i64 0) qAssign ?_
  refine W_seq ?_
  refine W_block ?_
  obtain ⟨z2l, hz2, h⟩ := bindSome h
  obtain ⟨n2, hN2⟩ := iter_some hz2
  clear hz2
  refine W_after 0 (fun e C => ∃ (x9 : Int), diff3_chunks_1_1_k1 x2 x4 x6 x8 x9 = some r ∧ At [(0, Pr.pt b1 0), (1, Pr.pt b3 0), (2, Pr.pt b5 0), (3, Pr.pt b7 0), (5, Pr.i64 x9)] [Own.box b1 rDiff3Ends x2, Own.box b3 rDiff3Ends x4, Own.box b5 (Rp.list (Rp.int .i64)) x6, Own.box b7 (Rp.list (Rp.int .i64)) x8] e C) ?_ ?_
  · rintro e C ⟨x9, h, hat1⟩
    refine W_at hat1 ?_
    clear hat1
    unfold diff3_chunks_1_1_k1 at h
    refine W_rs ?_
    refine rq (out := Pr.i64 x9) qMove ?_
    refine rq (out := Pr.i64 x9) qAssign ?_
    obtain rfl := Option.some.inj h
    exact W_ret ⟨.inl rfl, _, Pick.refl _, _, (Pr.le_rfl), rfl, rfl⟩
  · refine W_loop (fun m e C => ∃ (x9 : Int), IterN (fun s => diff3_chunks_1_1_l2 x2 x4 x6 x8 s) m x9 = some z2l ∧ At [(0, Pr.pt b1 0), (1, Pr.pt b3 0), (2, Pr.pt b5 0), (3, Pr.pt b7 0), (5, Pr.i64 x9)] [Own.box b1 rDiff3Ends x2, Own.box b3 rDiff3Ends x4, Own.box b5 (Rp.list (Rp.int .i64)) x6, Own.box b7 (Rp.list (Rp.int .i64)) x8] e C) n2 ⟨0, hN2, ⟨⟨Pr.le_rfl, Pr.le_rfl, Pr.le_rfl, Pr.le_rfl, Pr.le_rfl, trivial⟩, Pick.refl _⟩⟩ ?_
    clear hN2
    rintro m e C ⟨x9, hN2, hatl2⟩
    refine W_at hatl2 ?_
    clear hatl2
    obtain ⟨m2, w2l, rfl, h2l, hn2, ho2⟩ := iterN_some hN2
    clear hN2
    replace h2l : diff3_chunks_1_1_l2 x2 x4 x6 x8 x9 = some w2l := h2l
    unfold diff3_chunks_1_1_l2 at h2l
    refine W_seq ?_
    refine W_join (fun e C => ∃ (x17 : Bool), diff3_chunks_1_1_j3 x9 x17 = some w2l ∧ At [(0, Pr.pt b1 0), (1, Pr.pt b3 0), (2, Pr.pt b5 0), (3, Pr.pt b7 0), (5, Pr.i64 x9), (40, Pr.bool x17)] [Own.box b1 rDiff3Ends x2, Own.box b3 rDiff3Ends x4, Own.box b5 (Rp.list (Rp.int .i64)) x6, Own.box b7 (Rp.list (Rp.int .i64)) x8] e C) ?_ ?_
    · rintro e C ⟨x17, h2l, hat3⟩
      refine W_at hat3 ?_
      clear hat3
      unfold diff3_chunks_1_1_j3 at h2l
      refine W_cond (b := x17) rfl (fun hc18 => ?_) (fun hc18 => ?_)
      · replace h2l := iteT hc18 h2l
        refine W_skip ?_
        refine W_block ?_
        refine W_r ?_
        refine rq (out := Pr.i64 x9) qMove ?_
        refine rq (out := Pr.i64 (w64 (x9 + 1))) qInt ?_
        refine rq (out := Pr.i64 (w64 (x9 + 1))) qAssign ?_
        exact ⟨m2, Nat.lt_succ_self _, w64 (x9 + 1), hn2 _ (Option.some.inj h2l).symm, ⟨⟨Pr.le_rfl, Pr.le_rfl, Pr.le_rfl, Pr.le_rfl, Pr.le_rfl, trivial⟩, Pick.refl _⟩⟩
      · replace h2l := iteF hc18 h2l
        refine W_exit ?_
        obtain rfl := ho2 _ (Option.some.inj h2l).symm
        exact ⟨x9, h, ⟨⟨Pr.le_rfl, Pr.le_rfl, Pr.le_rfl, Pr.le_rfl, Pr.le_rfl, trivial⟩, Pick.refl _⟩⟩
    · refine W_draw 35 hmx (by kernel_rfl) (by kernel_rfl) ?_
      refine qq (out := Pr.pt b1 0) (qFieldP fld117_0) ?_
      refine qq (out := Pr.i64 x2.o) (qLoad (R := rDiff3Ends) (a := x2) (R' := Rp.int .i64) 0 ty3 subDiff3Ends_o) ?_
      refine qq (out := Pr.i64 x9) qMove ?_
      refine qq (out := Pr.i64 (w64 (x2.o + x9))) qInt ?_
      refine qq (out := Pr.pt b3 0) (qFieldP fld117_0) ?_
      refine qq (out := Pr.i64 x4.o) (qLoad (R := rDiff3Ends) (a := x4) (R' := Rp.int .i64) 1 ty3 subDiff3Ends_o) ?_
      refine qq (out := Pr.bool (decide ((w64 (x2.o + x9)) < x4.o))) qInt ?_
      refine qq (out := Pr.bool (decide ((w64 (x2.o + x9)) < x4.o))) qMove ?_
      rcases iteSome h2l with ⟨hc11, h2l⟩ | ⟨hc11, h2l⟩
      · refine qqg hc11 (out := Pr.lst (Rp.int .i64) x6) (qLoad (R := Rp.list (Rp.int .i64)) (a := x6) (R' := Rp.list (Rp.int .i64)) 2 ty90 (Sub.refl _)) ?_
        refine qqg hc11 (out := Pr.pt b1 0) (qFieldP fld117_0) ?_
        refine qqg hc11 (out := Pr.i64 x2.o) (qLoad (R := rDiff3Ends) (a := x2) (R' := Rp.int .i64) 0 ty3 subDiff3Ends_o) ?_
        refine qqg hc11 (out := Pr.i64 x9) qMove ?_
        refine qqg hc11 (out := Pr.i64 (w64 (x2.o + x9))) qInt ?_
        obtain ⟨x12, hx12, h2l⟩ := bindSome h2l
        refine qqg hc11 (out := Pr.cpt (Rp.int .i64) x12) (qIdxA (R := Rp.int .i64) (l := x6) Tryz.underlying90 Tryz.sizeOf3 hx12) ?_
        refine qqg hc11 (out := Pr.i64 x12) (qLoadC (R := Rp.int .i64) (a := x12) ty3) ?_
        refine qqg hc11 (out := Pr.pt b1 1) (qFieldP fld117_1) ?_
        refine qqg hc11 (out := Pr.i64 x2.a) (qLoad (R := rDiff3Ends) (a := x2) (R' := Rp.int .i64) 0 ty3 subDiff3Ends_a) ?_
        refine qqg hc11 (out := Pr.i64 x9) qMove ?_
        refine qqg hc11 (out := Pr.i64 (w64 (x2.a + x9))) qInt ?_
        refine qqg hc11 (out := Pr.bool (x12 == (w64 (x2.a + x9)))) qInt ?_
        refine qq (out := Pr.bool (x12 == (w64 (x2.a + x9)))) (qPickT hc11) ?_
        refine qq (out := Pr.bool (x12 == (w64 (x2.a + x9)))) qMove ?_
        rcases iteSome h2l with ⟨hc13, h2l⟩ | ⟨hc13, h2l⟩
        · refine qqg hc13 (out := Pr.lst (Rp.int .i64) x8) (qLoad (R := Rp.list (Rp.int .i64)) (a := x8) (R' := Rp.list (Rp.int .i64)) 3 ty90 (Sub.refl _)) ?_
          refine qqg hc13 (out := Pr.pt b1 0) (qFieldP fld117_0) ?_
          refine qqg hc13 (out := Pr.i64 x2.o) (qLoad (R := rDiff3Ends) (a := x2) (R' := Rp.int .i64) 0 ty3 subDiff3Ends_o) ?_
          refine qqg hc13 (out := Pr.i64 x9) qMove ?_
          refine qqg hc13 (out := Pr.i64 (w64 (x2.o + x9))) qInt ?_
          obtain ⟨x14, hx14, h2l⟩ := bindSome h2l
          refine qqg hc13 (out := Pr.cpt (Rp.int .i64) x14) (qIdxA (R := Rp.int .i64) (l := x8) Tryz.underlying90 Tryz.sizeOf3 hx14) ?_
          refine qqg hc13 (out := Pr.i64 x14) (qLoadC (R := Rp.int .i64) (a := x14) ty3) ?_
          refine qqg hc13 (out := Pr.pt b1 2) (qFieldP fld117_2) ?_
          refine qqg hc13 (out := Pr.i64 x2.b) (qLoad (R := rDiff3Ends) (a := x2) (R' := Rp.int .i64) 0 ty3 subDiff3Ends_b) ?_
          refine qqg hc13 (out := Pr.i64 x9) qMove ?_
          refine qqg hc13 (out := Pr.i64 (w64 (x2.b + x9))) qInt ?_
          refine qqg hc13 (out := Pr.bool (x14 == (w64 (x2.b + x9)))) qInt ?_
          refine qq (out := Pr.bool (x14 == (w64 (x2.b + x9)))) (qPickT hc13) ?_
          exact ⟨x14 == (w64 (x2.b + x9)), h2l, ⟨⟨Pr.le_rfl, Pr.le_rfl, Pr.le_rfl, Pr.le_rfl, Pr.le_rfl, Pr.le_rfl, trivial⟩, Pick.refl _⟩⟩
        · refine qqno (neT hc13) ?_
          refine qqno (neT hc13) ?_
          refine qqno (neT hc13) ?_
          refine qqno (neT hc13) ?_
          refine qqno (neT hc13) ?_
          refine qqno (neT hc13) ?_
          refine qqno (neT hc13) ?_
          refine qqno (neT hc13) ?_
          refine qqno (neT hc13) ?_
          refine qqno (neT hc13) ?_
          refine qqno (neT hc13) ?_
          refine qqno (neT hc13) ?_
          refine qq (out := Pr.bool false) (qPickF hc13) ?_
          exact ⟨false, h2l, ⟨⟨Pr.le_rfl, Pr.le_rfl, Pr.le_rfl, Pr.le_rfl, Pr.le_rfl, Pr.le_rfl, trivial⟩, Pick.refl _⟩⟩
      · refine qqno (neT hc11) ?_
        refine qqno (neT hc11) ?_
        refine qqno (neT hc11) ?_
        refine qqno (neT hc11) ?_
        refine qqno (neT hc11) ?_
        refine qqno (neT hc11) ?_
        refine qqno (neT hc11) ?_
        refine qqno (neT hc11) ?_
        refine qqno (neT hc11) ?_
        refine qqno (neT hc11) ?_
        refine qqno (neT hc11) ?_
        refine qqno (neT hc11) ?_
        refine qq (out := Pr.bool false) (qPickF hc11) ?_
        refine qq (out := Pr.bool false) qMove ?_
        have hc15 : false = false := rfl
        refine qqno (neT hc15) ?_
        refine qqno (neT hc15) ?_
        refine qqno (neT hc15) ?_
        refine qqno (neT hc15) ?_
        refine qqno (neT hc15) ?_
        refine qqno (neT hc15) ?_
        refine qqno (neT hc15) ?_
        refine qqno (neT hc15) ?_
        refine qqno (neT hc15) ?_
        refine qqno (neT hc15) ?_
        refine qqno (neT hc15) ?_
        refine qqno (neT hc15) ?_
        refine qq (out := Pr.bool false) (qPickF hc15) ?_
        exact ⟨false, h2l, ⟨⟨Pr.le_rfl, Pr.le_rfl, Pr.le_rfl, Pr.le_rfl, Pr.le_rfl, Pr.le_rfl, trivial⟩, Pick.refl _⟩⟩
theorem diff3_chunks_1_2_ok (x2 : Diff3Ends) (x4 : Diff3Ends) (x6 : List Int) (x8 : List Int) (b1 : Nat) (b3 : Nat) (b5 : Nat) (b7 : Nat) (r : Diff3Ends × Diff3Ends × Diff3Ends × (List Int) × (List Int)) (h : diff3_chunks_1_2 x2 x4 x6 x8 = some r) : FnC Tryz.prog 88 [Pr.pt b1 0, Pr.pt b3 0, Pr.pt b5 0, Pr.pt b7 0] [Own.box b1 rDiff3Ends x2, Own.box b3 rDiff3Ends x4, Own.box b5 (Rp.list (Rp.int .i64)) x6, Own.box b7 (Rp.list (Rp.int .i64)) x8] (fun q C' => q = (rDiff3Ends).val r.1 ∧ C' = [Own.box b1 rDiff3Ends r.2.1, Own.box b3 rDiff3Ends r.2.2.1, Own.box b5 (Rp.list (Rp.int .i64)) r.2.2.2.1, Own.box b7 (Rp.list (Rp.int .i64)) r.2.2.2.2]) := by
  refine fnc_introR (n := 37) (rs := [.cell 4 117]) Tryz.func88 rfl Tryz.ntmps88 Tryz.results88 (by decide) (fun s0 => ?_)
  unfold diff3_chunks_1_2 at h
  refine W_rs ?_
  refine rAlloc (R := rDiff3Ends) (z := (Diff3Ends.mk 0 0 0)) Tryz.zeroValue117 (fun _ => ⟨_, ⟨_, _, rfl, rfl, ⟨_, _, rfl, rfl, ⟨_, _, rfl, rfl, rfl⟩⟩⟩, rfl⟩) (fun b9 => ?_)
  refine W_seq ?_
  refine W_rs ?_
  refine rq (out := Pr.pt b1 0) (qFieldP fld117_0) ?_
  refine rq (out := Pr.i64 x2.o) (qLoad (R := rDiff3Ends) (a := x2) (R' := Rp.int .i64) 0 ty3 subDiff3Ends_o) ?_
  refine rq (out := Pr.i64 x2.o) qAssign ?_
  refine W_block ?_
  obtain ⟨z2l, hz2, h⟩ := bindSome h
  obtain ⟨n2, hN2⟩ := iter_some hz2
  clear hz2
  refine W_after 0 (fun e C => diff3_chunks_1_2_k1 x4 x2 x6 x8 = some r ∧ At [(0, Pr.pt b1 0), (1, Pr.pt b3 0), (2, Pr.pt b5 0), (3, Pr.pt b7 0), (4, Pr.pt b9 0)] [Own.box b1 rDiff3Ends x2, Own.box b3 rDiff3Ends x4, Own.box b5 (Rp.list (Rp.int .i64)) x6, Own.box b7 (Rp.list (Rp.int .i64)) x8, Own.box b9 rDiff3Ends (Diff3Ends.mk 0 0 0)] e C) ?_ ?_
  · rintro e C ⟨h, hat1⟩
    refine W_at hat1 ?_
    clear hat1
    unfold diff3_chunks_1_2_k1 at h
    refine W_rs ?_
    refine rq (out := (rDiff3Ends).val x4) (qLoad (R := rDiff3Ends) (a := x4) (R' := rDiff3Ends) 1 ty117 (Sub.refl _)) ?_
    refine rStore (R := rDiff3Ends) (R' := rDiff3Ends) (a := (Diff3Ends.mk 0 0 0)) (y := x4) 4 Tryz.sizeOf117 (Upd.refl _) ?_
    obtain rfl := Option.some.inj h
    exact W_ret ⟨.inl rfl, [(rDiff3Ends).val x4], ⟨yBox 4 ty117 Pr.le_rfl, trivial⟩, _, Pick.of [0, 1, 2, 3] rfl, rfl, rfl⟩
  · refine W_loop (fun m e C => ∃ (x10 : Int), IterN (fun s => diff3_chunks_1_2_l2 x4 x6 x8 x2 s) m x10 = some z2l ∧ At [(0, Pr.pt b1 0), (1, Pr.pt b3 0), (2, Pr.pt b5 0), (3, Pr.pt b7 0), (4, Pr.pt b9 0), (5, Pr.i64 x10)] [Own.box b1 rDiff3Ends x2, Own.box b3 rDiff3Ends x4, Own.box b5 (Rp.list (Rp.int .i64)) x6, Own.box b7 (Rp.list (Rp.int .i64)) x8, Own.box b9 rDiff3Ends (Diff3Ends.mk 0 0 0)] e C) n2 ⟨x2.o, hN2, ⟨⟨Pr.le_rfl, Pr.le_rfl, Pr.le_rfl, Pr.le_rfl, Pr.le_rfl, Pr.le_rfl, trivial⟩, Pick.refl _⟩⟩ ?_
    clear hN2
    rintro m e C ⟨x10, hN2, hatl2⟩
    refine W_at hatl2 ?_
    clear hatl2
    obtain ⟨m2, w2l, rfl, h2l, hn2, ho2⟩ := iterN_some hN2
    clear hN2
    replace h2l : diff3_chunks_1_2_l2 x4 x6 x8 x2 x10 = some w2l := h2l
    unfold diff3_chunks_1_2_l2 at h2l
    refine W_seq ?_
    refine W_rs ?_
    refine rq (out := Pr.i64 x10) qMove ?_
    refine rq (out := Pr.pt b3 0) (qFieldP fld117_0) ?_
    refine rq (out := Pr.i64 x4.o) (qLoad (R := rDiff3Ends) (a := x4) (R' := Rp.int .i64) 1 ty3 subDiff3Ends_o) ?_
    refine rq (out := Pr.bool (decide (x10 < x4.o))) qInt ?_
    refine W_cond (b := decide (x10 < x4.o)) rfl (fun hc12 => ?_) (fun hc12 => ?_)
    · replace h2l := iteT hc12 h2l
      refine W_skip ?_
      refine W_seq ?_
      refine W_block ?_
      refine W_join (fun e C => ∃ (x16 : Bool), diff3_chunks_1_2_j4 x6 x10 x8 x2 x4 x16 = some w2l ∧ At [(0, Pr.pt b1 0), (1, Pr.pt b3 0), (2, Pr.pt b5 0), (3, Pr.pt b7 0), (4, Pr.pt b9 0), (5, Pr.i64 x10), (25, Pr.bool x16)] [Own.box b1 rDiff3Ends x2, Own.box b3 rDiff3Ends x4, Own.box b5 (Rp.list (Rp.int .i64)) x6, Own.box b7 (Rp.list (Rp.int .i64)) x8, Own.box b9 rDiff3Ends (Diff3Ends.mk 0 0 0)] e C) ?_ ?_
      · rintro e C ⟨x16, h2l, hat4⟩
        refine W_at hat4 ?_
        clear hat4
        unfold diff3_chunks_1_2_j4 at h2l
        refine W_cond (b := x16) rfl (fun hc17 => ?_) (fun hc17 => ?_)
        · replace h2l := iteT hc17 h2l
          refine W_join (fun e C => ∃ (x18 : Int), ∃ (x19 : Int), diff3_chunks_1_2_j3 x10 x2 x4 x6 x8 x18 x19 = some w2l ∧ At [(0, Pr.pt b1 0), (1, Pr.pt b3 0), (2, Pr.pt b5 0), (3, Pr.pt b7 0), (4, Pr.pt b9 0)] [Own.box b1 rDiff3Ends x2, Own.box b3 rDiff3Ends x4, Own.box b5 (Rp.list (Rp.int .i64)) x6, Own.box b7 (Rp.list (Rp.int .i64)) x8, Own.box b9 rDiff3Ends (Diff3Ends.mk x10 x18 x19)] e C) ?_ ?_
          · rintro e C ⟨x18, x19, h2l, hat3⟩
            refine W_at hat3 ?_
            clear hat3
            unfold diff3_chunks_1_2_j3 at h2l
            obtain rfl := ho2 _ (Option.some.inj h2l).symm
            replace h : some ((Diff3Ends.mk x10 x18 x19), x2, x4, x6, x8) = some r := h
            obtain rfl := Option.some.inj h
            exact W_ret ⟨.inl rfl, [(rDiff3Ends).val (Diff3Ends.mk x10 x18 x19)], ⟨yBox 4 ty117 Pr.le_rfl, trivial⟩, _, Pick.of [0, 1, 2, 3] rfl, rfl, rfl⟩
          · refine W_draw 10 hmx (by kernel_rfl) (by kernel_rfl) ?_
            refine qq (out := Pr.i64 x10) qMove ?_
            refine qq (out := Pr.lst (Rp.int .i64) x6) (qLoad (R := Rp.list (Rp.int .i64)) (a := x6) (R' := Rp.list (Rp.int .i64)) 2 ty90 (Sub.refl _)) ?_
            refine qq (out := Pr.i64 x10) qMove ?_
            obtain ⟨x18, hx18, h2l⟩ := bindSome h2l
            refine qq (out := Pr.cpt (Rp.int .i64) x18) (qIdxA (R := Rp.int .i64) (l := x6) Tryz.underlying90 Tryz.sizeOf3 hx18) ?_
            refine qq (out := Pr.i64 x18) (qLoadC (R := Rp.int .i64) (a := x18) ty3) ?_
            refine qq (out := Pr.lst (Rp.int .i64) x8) (qLoad (R := Rp.list (Rp.int .i64)) (a := x8) (R' := Rp.list (Rp.int .i64)) 3 ty90 (Sub.refl _)) ?_
            refine qq (out := Pr.i64 x10) qMove ?_
            obtain ⟨x19, hx19, h2l⟩ := bindSome h2l
            refine qq (out := Pr.cpt (Rp.int .i64) x19) (qIdxA (R := Rp.int .i64) (l := x8) Tryz.underlying90 Tryz.sizeOf3 hx19) ?_
            refine qq (out := Pr.i64 x19) (qLoadC (R := Rp.int .i64) (a := x19) ty3) ?_
            refine qq (out := (rDiff3Ends).val (Diff3Ends.mk x10 x18 x19)) (qBuild st117 ⟨(Diff3Ends.mk x10 0 0), ⟨_, rfl, rfl, fun j fd hj hf => by match j, hj with | 0, h => exact absurd rfl h | 1, _ => cases hf; rfl | 2, _ => cases hf; rfl | _ + 3, _ => cases hf⟩, ⟨(Diff3Ends.mk x10 x18 0), ⟨_, rfl, rfl, fun j fd hj hf => by match j, hj with | 0, _ => cases hf; rfl | 1, h => exact absurd rfl h | 2, _ => cases hf; rfl | _ + 3, _ => cases hf⟩, ⟨(Diff3Ends.mk x10 x18 x19), ⟨_, rfl, rfl, fun j fd hj hf => by match j, hj with | 0, _ => cases hf; rfl | 1, _ => cases hf; rfl | 2, h => exact absurd rfl h | _ + 3, _ => cases hf⟩, rfl⟩⟩⟩) ?_
            refine rStore (R := rDiff3Ends) (R' := rDiff3Ends) (a := (Diff3Ends.mk 0 0 0)) (y := (Diff3Ends.mk x10 x18 x19)) 4 Tryz.sizeOf117 (Upd.refl _) ?_
            exact ⟨x18, x19, h2l, ⟨⟨Pr.le_rfl, Pr.le_rfl, Pr.le_rfl, Pr.le_rfl, Pr.le_rfl, trivial⟩, Pick.refl _⟩⟩
        · replace h2l := iteF hc17 h2l
          refine W_skip ?_
          refine W_r ?_
          refine rq (out := Pr.i64 x10) qMove ?_
          refine rq (out := Pr.i64 (w64 (x10 + 1))) qInt ?_
          refine rq (out := Pr.i64 (w64 (x10 + 1))) qAssign ?_
          exact ⟨m2, Nat.lt_succ_self _, w64 (x10 + 1), hn2 _ (Option.some.inj h2l).symm, ⟨⟨Pr.le_rfl, Pr.le_rfl, Pr.le_rfl, Pr.le_rfl, Pr.le_rfl, Pr.le_rfl, trivial⟩, Pick.refl _⟩⟩
      · refine W_r ?_
        refine rq (out := Pr.lst (Rp.int .i64) x6) (qLoad (R := Rp.list (Rp.int .i64)) (a := x6) (R' := Rp.list (Rp.int .i64)) 2 ty90 (Sub.refl _)) ?_
        refine rq (out := Pr.i64 x10) qMove ?_
        obtain ⟨x13, hx13, h2l⟩ := bindSome h2l
        refine rq (out := Pr.cpt (Rp.int .i64) x13) (qIdxA (R := Rp.int .i64) (l := x6) Tryz.underlying90 Tryz.sizeOf3 hx13) ?_
        refine rq (out := Pr.i64 x13) (qLoadC (R := Rp.int .i64) (a := x13) ty3) ?_
        refine rq (out := Pr.bool (decide (x13 ≥ 0))) qInt ?_
        refine rq (out := Pr.bool (decide (x13 ≥ 0))) qMove ?_
        rcases iteSome h2l with ⟨hc14, h2l⟩ | ⟨hc14, h2l⟩
        · refine rqg hc14 (out := Pr.lst (Rp.int .i64) x8) (qLoad (R := Rp.list (Rp.int .i64)) (a := x8) (R' := Rp.list (Rp.int .i64)) 3 ty90 (Sub.refl _)) ?_
          refine rqg hc14 (out := Pr.i64 x10) qMove ?_
          obtain ⟨x15, hx15, h2l⟩ := bindSome h2l
          refine rqg hc14 (out := Pr.cpt (Rp.int .i64) x15) (qIdxA (R := Rp.int .i64) (l := x8) Tryz.underlying90 Tryz.sizeOf3 hx15) ?_
          refine rqg hc14 (out := Pr.i64 x15) (qLoadC (R := Rp.int .i64) (a := x15) ty3) ?_
          refine rqg hc14 (out := Pr.bool (decide (x15 ≥ 0))) qInt ?_
          refine rq (out := Pr.bool (decide (x15 ≥ 0))) (qPickT hc14) ?_
          exact ⟨decide (x15 ≥ 0), h2l, ⟨⟨Pr.le_rfl, Pr.le_rfl, Pr.le_rfl, Pr.le_rfl, Pr.le_rfl, Pr.le_rfl, Pr.le_rfl, trivial⟩, Pick.refl _⟩⟩
        · refine rno (neT hc14) ?_
          refine rno (neT hc14) ?_
          refine rno (neT hc14) ?_
          refine rno (neT hc14) ?_
          refine rno (neT hc14) ?_
          refine rq (out := Pr.bool false) (qPickF hc14) ?_
          exact ⟨false, h2l, ⟨⟨Pr.le_rfl, Pr.le_rfl, Pr.le_rfl, Pr.le_rfl, Pr.le_rfl, Pr.le_rfl, Pr.le_rfl, trivial⟩, Pick.refl _⟩⟩
    · replace h2l := iteF hc12 h2l
      refine W_exit ?_
      obtain rfl := ho2 _ (Option.some.inj h2l).symm
      exact ⟨h, ⟨⟨Pr.le_rfl, Pr.le_rfl, Pr.le_rfl, Pr.le_rfl, Pr.le_rfl, trivial⟩, Pick.refl _⟩⟩
theorem diff3_chunks_1_ok {σ : Type} (yld : σ → (Diff3Ends × Diff3Ends) → Option (Bool × σ)) (Y : YI σ) (l : Nat) (hY : YOK Tryz.prog Y l (fun a => [(rDiff3Ends).val a.1, (rDiff3Ends).val a.2]) yld) (x2 : List Int) (x4 : List Int) (x6 : List Int) (x7 : σ) (b1 : Nat) (b3 : Nat) (b5 : Nat) (v8 : List Nat) (r : (List Int) × (List Int) × (List Int) × (σ)) (h : diff3_chunks_1 yld x2 x4 x6 x7 = some r) : FnC Tryz.prog 85 ([] ++ [Pr.yl l] ++ [Pr.pt b1 0, Pr.pt b3 0, Pr.pt b5 0]) ([Own.box b1 (Rp.list (Rp.int .i64)) x2, Own.box b3 (Rp.list (Rp.int .i64)) x4, Own.box b5 (Rp.list (Rp.int .i64)) x6] ++ [Own.grp Y x7 v8]) (fun _ C' => ∃ w9, C' = [Own.box b1 (Rp.list (Rp.int .i64)) r.1, Own.box b3 (Rp.list (Rp.int .i64)) r.2.1, Own.box b5 (Rp.list (Rp.int .i64)) r.2.2.1] ++ [Own.grp Y r.2.2.2 w9]) := by
  refine fnc_introP (n := 57) (rs := []) Tryz.func85 rfl Tryz.ntmps85 ⟨by decide, Tryz.results85⟩ (by decide) (fun s0 => ?_)
  unfold diff3_chunks_1 at h
  refine W_join (fun e C => ∃ (x9 : List Int), ∃ (x10 : List Int), ∃ (b11 : Nat), ∃ (b12 : Nat), diff3_chunks_1_j5 yld x2 x4 x6 x7 x9 x10 = some r ∧ At [(0, Pr.yl l), (1, Pr.pt b1 0), (2, Pr.pt b3 0), (3, Pr.pt b5 0), (5, Pr.pt b11 0), (6, Pr.pt b12 0)] [Own.box b1 (Rp.list (Rp.int .i64)) x2, Own.box b3 (Rp.list (Rp.int .i64)) x4, Own.box b5 (Rp.list (Rp.int .i64)) x6, Own.grp Y x7 v8, Own.box b11 (Rp.list (Rp.int .i64)) x9, Own.box b12 (Rp.list (Rp.int .i64)) x10] e C) ?_ ?_
  · rintro e C ⟨x9, x10, b11, b12, h, hat5⟩
    refine W_at hat5 ?_
    clear hat5
    unfold diff3_chunks_1_j5 at h
    refine W_join (fun e C => ∃ (b13 : Nat), ∃ (b14 : Nat), diff3_chunks_1_j4 yld x2 x4 x6 x7 x9 x10 = some r ∧ At [(0, Pr.yl l), (1, Pr.pt b1 0), (2, Pr.pt b3 0), (3, Pr.pt b5 0), (5, Pr.pt b11 0), (6, Pr.pt b12 0), (7, Pr.pt b13 0), (8, Pr.pt b14 0)] [Own.box b1 (Rp.list (Rp.int .i64)) x2, Own.box b3 (Rp.list (Rp.int .i64)) x4, Own.box b5 (Rp.list (Rp.int .i64)) x6, Own.grp Y x7 v8, Own.box b11 (Rp.list (Rp.int .i64)) x9, Own.box b12 (Rp.list (Rp.int .i64)) x10, Own.box b13 rDiff3Ends (Diff3Ends.mk 0 0 0), Own.box b14 rDiff3Ends (Diff3Ends.mk (x2.length : Int) (x4.length : Int) (x6.length : Int))] e C) ?_ ?_
    · rintro e C ⟨b13, b14, h, hat4⟩
      refine W_at hat4 ?_
      clear hat4
      unfold diff3_chunks_1_j4 at h
      refine W_rs ?_
      refine rq (out := Pr.clo 87 [] [Pr.pt b13 0, Pr.pt b14 0, Pr.pt b11 0, Pr.pt b12 0]) qMakeFunc ?_
      refine rq (out := Pr.clo 87 [] [Pr.pt b13 0, Pr.pt b14 0, Pr.pt b11 0, Pr.pt b12 0]) qAssign ?_
      refine W_rs ?_
      refine rq (out := Pr.clo 88 [] [Pr.pt b13 0, Pr.pt b14 0, Pr.pt b11 0, Pr.pt b12 0]) qMakeFunc ?_
      refine rq (out := Pr.clo 88 [] [Pr.pt b13 0, Pr.pt b14 0, Pr.pt b11 0, Pr.pt b12 0]) qAssign ?_
      refine W_block ?_
      obtain ⟨z2l, hz2, h⟩ := bindSome h
      obtain ⟨n2, hN2⟩ := iter_some hz2
      clear hz2
      refine W_after 0 (fun e C => ∃ (x15 : σ), ∃ (x17 : List Int), ∃ (x18 : List Int), ∃ (x19 : Diff3Ends), ∃ (x20 : Diff3Ends), ∃ (v16 : List Nat), diff3_chunks_1_k1 yld x2 x4 x6 x15 x17 x18 x19 x20 = some r ∧ At [] [Own.box b1 (Rp.list (Rp.int .i64)) x2, Own.box b3 (Rp.list (Rp.int .i64)) x4, Own.box b5 (Rp.list (Rp.int .i64)) x6, Own.grp Y x15 v16, Own.box b11 (Rp.list (Rp.int .i64)) x17, Own.box b12 (Rp.list (Rp.int .i64)) x18, Own.box b13 rDiff3Ends x19, Own.box b14 rDiff3Ends x20] e C) ?_ ?_
      · rintro e C ⟨x15, x17, x18, x19, x20, v16, h, hat1⟩
        unfold diff3_chunks_1_k1 at h
        obtain rfl := Option.some.inj h
        exact ⟨.inr rfl, _, (Pick.trans hat1.2 (Pick.of [0, 1, 2, 3] rfl)), _, Pr.le_rfl, v16, rfl⟩
      · refine W_loop (fun m e C => ∃ (x15 : σ), ∃ (x17 : List Int), ∃ (x18 : List Int), ∃ (x19 : Diff3Ends), ∃ (x20 : Diff3Ends), ∃ (v16 : List Nat), IterN (fun s => diff3_chunks_1_l2 yld x2 x4 x6 s.1 s.2.1 s.2.2.1 s.2.2.2.1 s.2.2.2.2) m (x15, x17, x18, x19, x20) = some z2l ∧ At [(0, Pr.yl l), (1, Pr.pt b1 0), (2, Pr.pt b3 0), (3, Pr.pt b5 0), (7, Pr.pt b13 0), (8, Pr.pt b14 0), (9, Pr.clo 87 [] [Pr.pt b13 0, Pr.pt b14 0, Pr.pt b11 0, Pr.pt b12 0]), (10, Pr.clo 88 [] [Pr.pt b13 0, Pr.pt b14 0, Pr.pt b11 0, Pr.pt b12 0])] [Own.box b1 (Rp.list (Rp.int .i64)) x2, Own.box b3 (Rp.list (Rp.int .i64)) x4, Own.box b5 (Rp.list (Rp.int .i64)) x6, Own.grp Y x15 v16, Own.box b11 (Rp.list (Rp.int .i64)) x17, Own.box b12 (Rp.list (Rp.int .i64)) x18, Own.box b13 rDiff3Ends x19, Own.box b14 rDiff3Ends x20] e C) n2 ⟨x7, x9, x10, (Diff3Ends.mk 0 0 0), (Diff3Ends.mk (x2.length : Int) (x4.length : Int) (x6.length : Int)), v8, hN2, ⟨⟨Pr.le_rfl, Pr.le_rfl, Pr.le_rfl, Pr.le_rfl, Pr.le_rfl, Pr.le_rfl, Pr.le_rfl, Pr.le_rfl, trivial⟩, Pick.refl _⟩⟩ ?_
        clear hN2
        rintro m e C ⟨x15, x17, x18, x19, x20, v16, hN2, hatl2⟩
        refine W_at hatl2 ?_
        clear hatl2
        obtain ⟨m2, w2l, rfl, h2l, hn2, ho2⟩ := iterN_some hN2
        clear hN2
        replace h2l : diff3_chunks_1_l2 yld x2 x4 x6 x15 x17 x18 x19 x20 = some w2l := h2l
        unfold diff3_chunks_1_l2 at h2l
        refine W_seq ?_
        refine W_rs ?_
        refine rq (out := (rDiff3Ends).val x19) (qLoad (R := rDiff3Ends) (a := x19) (R' := rDiff3Ends) 6 ty117 (Sub.refl _)) ?_
        refine rq (out := (rDiff3Ends).val x20) (qLoad (R := rDiff3Ends) (a := x20) (R' := rDiff3Ends) 7 ty117 (Sub.refl _)) ?_
        refine rq (out := Pr.bool (!decide (x19 = x20))) (qStNe (a := x19) (b := x20) eqDiff3Ends (by decide) rfl eqgDiff3Ends) ?_
        refine W_cond (b := !decide (x19 = x20)) rfl (fun hc27 => ?_) (fun hc27 => ?_)
        · replace h2l := iteT hc27 h2l
          refine W_skip ?_
          refine W_block ?_
          refine W_rs ?_
          refine rq (out := Pr.clo 88 [] [Pr.pt b13 0, Pr.pt b14 0, Pr.pt b11 0, Pr.pt b12 0]) qMove ?_
          obtain ⟨⟨x28, x29, x30, x31, x32⟩, hx28, h2l⟩ := bindSome h2l
          refine rCallK [6, 7, 4, 5] (diff3_chunks_1_2_ok x19 x20 x17 x18 b13 b14 b11 b12 _ hx28) (fun q C' hq => ?_)
          obtain ⟨rfl, rfl⟩ := hq
          refine rAlloc (R := rDiff3Ends) (z := (Diff3Ends.mk 0 0 0)) Tryz.zeroValue117 (fun _ => ⟨_, ⟨_, _, rfl, rfl, ⟨_, _, rfl, rfl, ⟨_, _, rfl, rfl, rfl⟩⟩⟩, rfl⟩) (fun b33 => ?_)
          refine rStore (R := rDiff3Ends) (R' := rDiff3Ends) (a := (Diff3Ends.mk 0 0 0)) (y := x28) 8 Tryz.sizeOf117 (Upd.refl _) ?_
          refine W_join (fun e C => ∃ (x40 : Diff3Ends), ∃ (x35 : Diff3Ends), ∃ (x36 : Diff3Ends), ∃ (x37 : List Int), ∃ (x38 : List Int), diff3_chunks_1_j3 yld x15 x2 x4 x6 x40 x35 x36 x37 x38 = some w2l ∧ At [(0, Pr.yl l), (1, Pr.pt b1 0), (2, Pr.pt b3 0), (3, Pr.pt b5 0), (7, Pr.pt b13 0), (8, Pr.pt b14 0), (9, Pr.clo 87 [] [Pr.pt b13 0, Pr.pt b14 0, Pr.pt b11 0, Pr.pt b12 0]), (10, Pr.clo 88 [] [Pr.pt b13 0, Pr.pt b14 0, Pr.pt b11 0, Pr.pt b12 0]), (11, Pr.pt b33 0)] [Own.box b13 rDiff3Ends x35, Own.box b14 rDiff3Ends x36, Own.box b11 (Rp.list (Rp.int .i64)) x37, Own.box b12 (Rp.list (Rp.int .i64)) x38, Own.box b1 (Rp.list (Rp.int .i64)) x2, Own.box b3 (Rp.list (Rp.int .i64)) x4, Own.box b5 (Rp.list (Rp.int .i64)) x6, Own.grp Y x15 v16, Own.box b33 rDiff3Ends x40] e C) ?_ ?_
          · rintro e C ⟨x40, x35, x36, x37, x38, h2l, hat3⟩
            refine W_at hat3 ?_
            clear hat3
            unfold diff3_chunks_1_j3 at h2l
            refine W_seq ?_
            refine W_rs ?_
            refine rq (out := Pr.yl l) qMove ?_
            refine rq (out := (rDiff3Ends).val x35) (qLoad (R := rDiff3Ends) (a := x35) (R' := rDiff3Ends) 0 ty117 (Sub.refl _)) ?_
            refine rq (out := (rDiff3Ends).val x40) (qLoad (R := rDiff3Ends) (a := x40) (R' := rDiff3Ends) 8 ty117 (Sub.refl _)) ?_
            obtain ⟨⟨x41, x42⟩, hx41, h2l⟩ := bindSome h2l
            refine rYield 7 (a := (x35, x40)) hY hx41 (fun v43 => ?_)
            refine rq (out := Pr.bool (!x41)) qNot ?_
            refine W_cond (b := !x41) rfl (fun hc44 => ?_) (fun hc44 => ?_)
            · replace h2l := iteT hc44 h2l
              obtain rfl := ho2 _ (Option.some.inj h2l).symm
              replace h : some (x2, x4, x6, x42) = some r := h
              obtain rfl := Option.some.inj h
              exact W_ret ⟨.inl rfl, _, Pick.of [5, 6, 7, 0] rfl, _, Pr.le_rfl, v43, rfl⟩
            · replace h2l := iteF hc44 h2l
              refine W_skip ?_
              refine W_r ?_
              refine rq (out := (rDiff3Ends).val x40) (qLoad (R := rDiff3Ends) (a := x40) (R' := rDiff3Ends) 8 ty117 (Sub.refl _)) ?_
              refine rStore (R := rDiff3Ends) (R' := rDiff3Ends) (a := x35) (y := x40) 1 Tryz.sizeOf117 (Upd.refl _) ?_
              exact ⟨m2, Nat.lt_succ_self _, x42, x37, x38, x40, x36, v43, hn2 _ (Option.some.inj h2l).symm, ⟨⟨Pr.le_rfl, Pr.le_rfl, Pr.le_rfl, Pr.le_rfl, Pr.le_rfl, Pr.le_rfl, Pr.le_rfl, Pr.le_rfl, trivial⟩, Pick.of [5, 6, 7, 0, 3, 4, 1, 2] rfl⟩⟩
          · refine W_rs ?_
            refine rq (out := Pr.clo 87 [] [Pr.pt b13 0, Pr.pt b14 0, Pr.pt b11 0, Pr.pt b12 0]) qMove ?_
            obtain ⟨⟨x34, x35, x36, x37, x38⟩, hx34, h2l⟩ := bindSome h2l
            refine rCallK [0, 1, 2, 3] (diff3_chunks_1_1_ok x29 x30 x31 x32 b13 b14 b11 b12 _ hx34) (fun q C' hq => ?_)
            obtain ⟨rfl, rfl⟩ := hq
            refine rq (out := Pr.i64 x34) qAssign ?_
            refine W_rs ?_
            refine rq (out := Pr.i64 x34) qMove ?_
            refine rq (out := Pr.bool (decide (x34 > 0))) qInt ?_
            refine W_cond (b := decide (x34 > 0)) rfl (fun hc39 => ?_) (fun hc39 => ?_)
            · replace h2l := iteT hc39 h2l
              refine W_r ?_
              refine rq (out := Pr.pt b13 0) (qFieldP fld117_0) ?_
              refine rq (out := Pr.i64 x35.o) (qLoad (R := rDiff3Ends) (a := x35) (R' := Rp.int .i64) 0 ty3 subDiff3Ends_o) ?_
              refine rq (out := Pr.i64 x34) qMove ?_
              refine rq (out := Pr.i64 (w64 (x35.o + x34))) qInt ?_
              refine rq (out := Pr.pt b13 1) (qFieldP fld117_1) ?_
              refine rq (out := Pr.i64 x35.a) (qLoad (R := rDiff3Ends) (a := x35) (R' := Rp.int .i64) 0 ty3 subDiff3Ends_a) ?_
              refine rq (out := Pr.i64 x34) qMove ?_
              refine rq (out := Pr.i64 (w64 (x35.a + x34))) qInt ?_
              refine rq (out := Pr.pt b13 2) (qFieldP fld117_2) ?_
              refine rq (out := Pr.i64 x35.b) (qLoad (R := rDiff3Ends) (a := x35) (R' := Rp.int .i64) 0 ty3 subDiff3Ends_b) ?_
              refine rq (out := Pr.i64 x34) qMove ?_
              refine rq (out := Pr.i64 (w64 (x35.b + x34))) qInt ?_
              refine rq (out := (rDiff3Ends).val (Diff3Ends.mk (w64 (x35.o + x34)) (w64 (x35.a + x34)) (w64 (x35.b + x34)))) (qBuild st117 ⟨(Diff3Ends.mk (w64 (x35.o + x34)) 0 0), ⟨_, rfl, rfl, fun j fd hj hf => by match j, hj with | 0, h => exact absurd rfl h | 1, _ => cases hf; rfl | 2, _ => cases hf; rfl | _ + 3, _ => cases hf⟩, ⟨(Diff3Ends.mk (w64 (x35.o + x34)) (w64 (x35.a + x34)) 0), ⟨_, rfl, rfl, fun j fd hj hf => by match j, hj with | 0, _ => cases hf; rfl | 1, h => exact absurd rfl h | 2, _ => cases hf; rfl | _ + 3, _ => cases hf⟩, ⟨(Diff3Ends.mk (w64 (x35.o + x34)) (w64 (x35.a + x34)) (w64 (x35.b + x34))), ⟨_, rfl, rfl, fun j fd hj hf => by match j, hj with | 0, _ => cases hf; rfl | 1, _ => cases hf; rfl | 2, h => exact absurd rfl h | _ + 3, _ => cases hf⟩, rfl⟩⟩⟩) ?_
              refine rStore (R := rDiff3Ends) (R' := rDiff3Ends) (a := x28) (y := (Diff3Ends.mk (w64 (x35.o + x34)) (w64 (x35.a + x34)) (w64 (x35.b + x34)))) 8 Tryz.sizeOf117 (Upd.refl _) ?_
              exact ⟨(Diff3Ends.mk (w64 (x35.o + x34)) (w64 (x35.a + x34)) (w64 (x35.b + x34))), x35, x36, x37, x38, h2l, ⟨⟨Pr.le_rfl, Pr.le_rfl, Pr.le_rfl, Pr.le_rfl, Pr.le_rfl, Pr.le_rfl, Pr.le_rfl, Pr.le_rfl, Pr.le_rfl, trivial⟩, Pick.refl _⟩⟩
            · replace h2l := iteF hc39 h2l
              refine W_skip ?_
              exact ⟨x28, x35, x36, x37, x38, h2l, ⟨⟨Pr.le_rfl, Pr.le_rfl, Pr.le_rfl, Pr.le_rfl, Pr.le_rfl, Pr.le_rfl, Pr.le_rfl, Pr.le_rfl, Pr.le_rfl, trivial⟩, Pick.refl _⟩⟩
        · replace h2l := iteF hc27 h2l
          refine W_exit ?_
          obtain rfl := ho2 _ (Option.some.inj h2l).symm
          exact ⟨x15, x17, x18, x19, x20, v16, h, ⟨trivial, Pick.refl _⟩⟩
    · refine W_drawG 2 (fun B S => [Own.box b1 (Rp.list (Rp.int .i64)) x2, Own.box b3 (Rp.list (Rp.int .i64)) x4, Own.box b5 (Rp.list (Rp.int .i64)) x6, Own.grp Y x7 v8, Own.box b11 (Rp.list (Rp.int .i64)) x9, Own.box b12 (Rp.list (Rp.int .i64)) x10, (cond (S 10) (Own.box (B 8) rDiff3Ends (Diff3Ends.mk 0 0 0)) (cond (S 8) (Own.box (B 8) rDiff3Ends (Diff3Ends.mk 0 0 0)) Own.nil)), (cond (S 11) (Own.box (B 9) rDiff3Ends (Diff3Ends.mk (x2.length : Int) (x4.length : Int) (x6.length : Int))) (cond (S 9) (Own.box (B 9) rDiff3Ends (Diff3Ends.mk 0 0 0)) Own.nil))]) (fun B => [Own.box b1 (Rp.list (Rp.int .i64)) x2, Own.box b3 (Rp.list (Rp.int .i64)) x4, Own.box b5 (Rp.list (Rp.int .i64)) x6, Own.grp Y x7 v8, Own.box b11 (Rp.list (Rp.int .i64)) x9, Own.box b12 (Rp.list (Rp.int .i64)) x10, Own.box (B 8) rDiff3Ends (Diff3Ends.mk 0 0 0), Own.box (B 9) rDiff3Ends (Diff3Ends.mk (x2.length : Int) (x4.length : Int) (x6.length : Int))]) [(rDiff3Ends).val (Diff3Ends.mk 0 0 0), Pr.lst (Rp.int .i64) x2, Pr.i64 (x2.length : Int), Pr.lst (Rp.int .i64) x4, Pr.i64 (x4.length : Int), Pr.lst (Rp.int .i64) x6, Pr.i64 (x6.length : Int), (rDiff3Ends).val (Diff3Ends.mk (x2.length : Int) (x4.length : Int) (x6.length : Int)), .any, .any, .any, .any] (fun k => ([0, 0, 0, 0, 0, 0, 0, 0, 2, 2, 1, 1] : List Nat).getD k 0) hmx (by kernel_rfl) (by kernel_rfl) (fun _ => rfl) (fun B S S' h => by show ([Own.box b1 (Rp.list (Rp.int .i64)) x2, Own.box b3 (Rp.list (Rp.int .i64)) x4, Own.box b5 (Rp.list (Rp.int .i64)) x6, Own.grp Y x7 v8, Own.box b11 (Rp.list (Rp.int .i64)) x9, Own.box b12 (Rp.list (Rp.int .i64)) x10, (cond (S 10) (Own.box (B 8) rDiff3Ends (Diff3Ends.mk 0 0 0)) (cond (S 8) (Own.box (B 8) rDiff3Ends (Diff3Ends.mk 0 0 0)) Own.nil)), (cond (S 11) (Own.box (B 9) rDiff3Ends (Diff3Ends.mk (x2.length : Int) (x4.length : Int) (x6.length : Int))) (cond (S 9) (Own.box (B 9) rDiff3Ends (Diff3Ends.mk 0 0 0)) Own.nil))] : Ctx) = [Own.box b1 (Rp.list (Rp.int .i64)) x2, Own.box b3 (Rp.list (Rp.int .i64)) x4, Own.box b5 (Rp.list (Rp.int .i64)) x6, Own.grp Y x7 v8, Own.box b11 (Rp.list (Rp.int .i64)) x9, Own.box b12 (Rp.list (Rp.int .i64)) x10, (cond (S' 10) (Own.box (B 8) rDiff3Ends (Diff3Ends.mk 0 0 0)) (cond (S' 8) (Own.box (B 8) rDiff3Ends (Diff3Ends.mk 0 0 0)) Own.nil)), (cond (S' 11) (Own.box (B 9) rDiff3Ends (Diff3Ends.mk (x2.length : Int) (x4.length : Int) (x6.length : Int))) (cond (S' 9) (Own.box (B 9) rDiff3Ends (Diff3Ends.mk 0 0 0)) Own.nil))]; simp only [h 8 (Nat.le_of_ble_eq_true (by kernel_rfl)), h 9 (Nat.le_of_ble_eq_true (by kernel_rfl)), h 10 (Nat.le_of_ble_eq_true (by kernel_rfl)), h 11 (Nat.le_of_ble_eq_true (by kernel_rfl))]) (fun _ => rfl) (fun B => ?_)
      refine gq1 (fun S hK => (qBuild st117 rfl)) ?_
      refine gq1 (fun S hK => (qLoad (R := Rp.list (Rp.int .i64)) (a := x2) (R' := Rp.list (Rp.int .i64)) 0 ty90 (Sub.refl _) (hi := rfl))) ?_
      refine gq1 (fun S hK => (qLenL rfl Tryz.underlying90)) ?_
      refine gq1 (fun S hK => (qLoad (R := Rp.list (Rp.int .i64)) (a := x4) (R' := Rp.list (Rp.int .i64)) 1 ty90 (Sub.refl _) (hi := rfl))) ?_
      refine gq1 (fun S hK => (qLenL rfl Tryz.underlying90)) ?_
      refine gq1 (fun S hK => (qLoad (R := Rp.list (Rp.int .i64)) (a := x6) (R' := Rp.list (Rp.int .i64)) 2 ty90 (Sub.refl _) (hi := rfl))) ?_
      refine gq1 (fun S hK => (qLenL rfl Tryz.underlying90)) ?_
      refine gq1 (fun S hK => (qBuild st117 ⟨(Diff3Ends.mk (x2.length : Int) 0 0), ⟨_, rfl, rfl, fun j fd hj hf => by match j, hj with | 0, h => exact absurd rfl h | 1, _ => cases hf; rfl | 2, _ => cases hf; rfl | _ + 3, _ => cases hf⟩, ⟨(Diff3Ends.mk (x2.length : Int) (x4.length : Int) 0), ⟨_, rfl, rfl, fun j fd hj hf => by match j, hj with | 0, _ => cases hf; rfl | 1, h => exact absurd rfl h | 2, _ => cases hf; rfl | _ + 3, _ => cases hf⟩, ⟨(Diff3Ends.mk (x2.length : Int) (x4.length : Int) (x6.length : Int)), ⟨_, rfl, rfl, fun j fd hj hf => by match j, hj with | 0, _ => cases hf; rfl | 1, _ => cases hf; rfl | 2, h => exact absurd rfl h | _ + 3, _ => cases hf⟩, rfl⟩⟩⟩)) ?_
      refine gqA (fun S hK => ⟨fun B' hB => by show ([Own.box b1 (Rp.list (Rp.int .i64)) x2, Own.box b3 (Rp.list (Rp.int .i64)) x4, Own.box b5 (Rp.list (Rp.int .i64)) x6, Own.grp Y x7 v8, Own.box b11 (Rp.list (Rp.int .i64)) x9, Own.box b12 (Rp.list (Rp.int .i64)) x10, (cond (S 10) (Own.box (B' 8) rDiff3Ends (Diff3Ends.mk 0 0 0)) (cond (S 8) (Own.box (B' 8) rDiff3Ends (Diff3Ends.mk 0 0 0)) Own.nil)), (cond (S 11) (Own.box (B' 9) rDiff3Ends (Diff3Ends.mk (x2.length : Int) (x4.length : Int) (x6.length : Int))) (cond (S 9) (Own.box (B' 9) rDiff3Ends (Diff3Ends.mk 0 0 0)) Own.nil))] : Ctx) = [Own.box b1 (Rp.list (Rp.int .i64)) x2, Own.box b3 (Rp.list (Rp.int .i64)) x4, Own.box b5 (Rp.list (Rp.int .i64)) x6, Own.grp Y x7 v8, Own.box b11 (Rp.list (Rp.int .i64)) x9, Own.box b12 (Rp.list (Rp.int .i64)) x10, (cond (S 10) (Own.box (B 8) rDiff3Ends (Diff3Ends.mk 0 0 0)) (cond (S 8) (Own.box (B 8) rDiff3Ends (Diff3Ends.mk 0 0 0)) Own.nil)), (cond (S 11) (Own.box (B 9) rDiff3Ends (Diff3Ends.mk (x2.length : Int) (x4.length : Int) (x6.length : Int))) (cond (S 9) (Own.box (B 9) rDiff3Ends (Diff3Ends.mk 0 0 0)) Own.nil))]; simp only [hK.me, hK.F 10 (by kernel_rfl), hB 9 (by decide), cond_false], fun s ρ hg _ => sAlloc (R := rDiff3Ends) (z := (Diff3Ends.mk 0 0 0)) 6 Tryz.zeroValue117 (fun _ => ⟨_, ⟨_, _, rfl, rfl, ⟨_, _, rfl, rfl, ⟨_, _, rfl, rfl, rfl⟩⟩⟩, rfl⟩) (congrArg some ((condF (hK.F 10 (by kernel_rfl)) _ _).trans (condF (hK.me) _ _))) (fun b => by show ([Own.box b1 (Rp.list (Rp.int .i64)) x2, Own.box b3 (Rp.list (Rp.int .i64)) x4, Own.box b5 (Rp.list (Rp.int .i64)) x6, Own.grp Y x7 v8, Own.box b11 (Rp.list (Rp.int .i64)) x9, Own.box b12 (Rp.list (Rp.int .i64)) x10, (cond (S 10) (Own.box b rDiff3Ends (Diff3Ends.mk 0 0 0)) (Own.box b rDiff3Ends (Diff3Ends.mk 0 0 0))), (cond (S 11) (Own.box (B 9) rDiff3Ends (Diff3Ends.mk (x2.length : Int) (x4.length : Int) (x6.length : Int))) (cond (S 9) (Own.box (B 9) rDiff3Ends (Diff3Ends.mk 0 0 0)) Own.nil))] : Ctx) = _; rw [hK.F 10 (by kernel_rfl)]; rfl) s ρ hg⟩) ?_
      refine gqA (fun S hK => ⟨fun B' hB => by show ([Own.box b1 (Rp.list (Rp.int .i64)) x2, Own.box b3 (Rp.list (Rp.int .i64)) x4, Own.box b5 (Rp.list (Rp.int .i64)) x6, Own.grp Y x7 v8, Own.box b11 (Rp.list (Rp.int .i64)) x9, Own.box b12 (Rp.list (Rp.int .i64)) x10, (cond (S 10) (Own.box (B' 8) rDiff3Ends (Diff3Ends.mk 0 0 0)) (cond (S 8) (Own.box (B' 8) rDiff3Ends (Diff3Ends.mk 0 0 0)) Own.nil)), (cond (S 11) (Own.box (B' 9) rDiff3Ends (Diff3Ends.mk (x2.length : Int) (x4.length : Int) (x6.length : Int))) (cond (S 9) (Own.box (B' 9) rDiff3Ends (Diff3Ends.mk 0 0 0)) Own.nil))] : Ctx) = [Own.box b1 (Rp.list (Rp.int .i64)) x2, Own.box b3 (Rp.list (Rp.int .i64)) x4, Own.box b5 (Rp.list (Rp.int .i64)) x6, Own.grp Y x7 v8, Own.box b11 (Rp.list (Rp.int .i64)) x9, Own.box b12 (Rp.list (Rp.int .i64)) x10, (cond (S 10) (Own.box (B 8) rDiff3Ends (Diff3Ends.mk 0 0 0)) (cond (S 8) (Own.box (B 8) rDiff3Ends (Diff3Ends.mk 0 0 0)) Own.nil)), (cond (S 11) (Own.box (B 9) rDiff3Ends (Diff3Ends.mk (x2.length : Int) (x4.length : Int) (x6.length : Int))) (cond (S 9) (Own.box (B 9) rDiff3Ends (Diff3Ends.mk 0 0 0)) Own.nil))]; simp only [hK.me, hK.F 11 (by kernel_rfl), hB 8 (by decide), cond_false], fun s ρ hg _ => sAlloc (R := rDiff3Ends) (z := (Diff3Ends.mk 0 0 0)) 7 Tryz.zeroValue117 (fun _ => ⟨_, ⟨_, _, rfl, rfl, ⟨_, _, rfl, rfl, ⟨_, _, rfl, rfl, rfl⟩⟩⟩, rfl⟩) (congrArg some ((condF (hK.F 11 (by kernel_rfl)) _ _).trans (condF (hK.me) _ _))) (fun b => by show ([Own.box b1 (Rp.list (Rp.int .i64)) x2, Own.box b3 (Rp.list (Rp.int .i64)) x4, Own.box b5 (Rp.list (Rp.int .i64)) x6, Own.grp Y x7 v8, Own.box b11 (Rp.list (Rp.int .i64)) x9, Own.box b12 (Rp.list (Rp.int .i64)) x10, (cond (S 10) (Own.box (B 8) rDiff3Ends (Diff3Ends.mk 0 0 0)) (cond (S 8) (Own.box (B 8) rDiff3Ends (Diff3Ends.mk 0 0 0)) Own.nil)), (cond (S 11) (Own.box b rDiff3Ends (Diff3Ends.mk (x2.length : Int) (x4.length : Int) (x6.length : Int))) (Own.box b rDiff3Ends (Diff3Ends.mk 0 0 0)))] : Ctx) = _; rw [hK.F 11 (by kernel_rfl)]; rfl) s ρ hg⟩) ?_
      refine gqS (fun S hK => SStep.as (sStore (R := rDiff3Ends) (R' := rDiff3Ends) (a := (Diff3Ends.mk 0 0 0)) (y := (Diff3Ends.mk 0 0 0)) 6 Tryz.sizeOf117 (Upd.refl _) (congrArg some ((condF (hK.me) _ _).trans (condT (hK.T 8 (by kernel_rfl)) _ _)))) (by show (_ : Ctx) = [Own.box b1 (Rp.list (Rp.int .i64)) x2, Own.box b3 (Rp.list (Rp.int .i64)) x4, Own.box b5 (Rp.list (Rp.int .i64)) x6, Own.grp Y x7 v8, Own.box b11 (Rp.list (Rp.int .i64)) x9, Own.box b12 (Rp.list (Rp.int .i64)) x10, Own.box (B 8) rDiff3Ends (Diff3Ends.mk 0 0 0), (cond (S 11) (Own.box (B 9) rDiff3Ends (Diff3Ends.mk (x2.length : Int) (x4.length : Int) (x6.length : Int))) (cond (S 9) (Own.box (B 9) rDiff3Ends (Diff3Ends.mk 0 0 0)) Own.nil))]; rfl)) ?_
      refine gqS (fun S hK => SStep.as (sStore (R := rDiff3Ends) (R' := rDiff3Ends) (a := (Diff3Ends.mk 0 0 0)) (y := (Diff3Ends.mk (x2.length : Int) (x4.length : Int) (x6.length : Int))) 7 Tryz.sizeOf117 (Upd.refl _) (congrArg some ((condF (hK.me) _ _).trans (condT (hK.T 9 (by kernel_rfl)) _ _)))) (by show (_ : Ctx) = [Own.box b1 (Rp.list (Rp.int .i64)) x2, Own.box b3 (Rp.list (Rp.int .i64)) x4, Own.box b5 (Rp.list (Rp.int .i64)) x6, Own.grp Y x7 v8, Own.box b11 (Rp.list (Rp.int .i64)) x9, Own.box b12 (Rp.list (Rp.int .i64)) x10, (cond (S 10) (Own.box (B 8) rDiff3Ends (Diff3Ends.mk 0 0 0)) (cond (S 8) (Own.box (B 8) rDiff3Ends (Diff3Ends.mk 0 0 0)) Own.nil)), Own.box (B 9) rDiff3Ends (Diff3Ends.mk (x2.length : Int) (x4.length : Int) (x6.length : Int))]; rfl)) ?_
      exact ⟨(B 8), (B 9), h, ⟨⟨Pr.le_rfl, Pr.le_rfl, Pr.le_rfl, Pr.le_rfl, Pr.le_rfl, Pr.le_rfl, Pr.le_rfl, Pr.le_rfl, trivial⟩, Pick.refl _⟩⟩
  · obtain ⟨x9, hx9, h⟩ := bindSome h
    obtain ⟨x10, hx10, h⟩ := bindSome h
    refine W_drawG 2 (fun B S => [Own.box b1 (Rp.list (Rp.int .i64)) x2, Own.box b3 (Rp.list (Rp.int .i64)) x4, Own.box b5 (Rp.list (Rp.int .i64)) x6, Own.grp Y x7 v8, (cond (S 8) (Own.box (B 6) (Rp.list (Rp.int .i64)) x9) (cond (S 6) (Own.box (B 6) (Rp.list (Rp.int .i64)) []) Own.nil)), (cond (S 9) (Own.box (B 7) (Rp.list (Rp.int .i64)) x10) (cond (S 7) (Own.box (B 7) (Rp.list (Rp.int .i64)) []) Own.nil))]) (fun B => [Own.box b1 (Rp.list (Rp.int .i64)) x2, Own.box b3 (Rp.list (Rp.int .i64)) x4, Own.box b5 (Rp.list (Rp.int .i64)) x6, Own.grp Y x7 v8, Own.box (B 6) (Rp.list (Rp.int .i64)) x9, Own.box (B 7) (Rp.list (Rp.int .i64)) x10]) [Pr.lst (Rp.int .i64) x2, Pr.lst (Rp.int .i64) x4, Pr.lst (Rp.int .i64) x9, Pr.lst (Rp.int .i64) x2, Pr.lst (Rp.int .i64) x6, Pr.lst (Rp.int .i64) x10, .any, .any, .any, .any] (fun k => ([0, 0, 0, 0, 0, 0, 2, 2, 1, 1] : List Nat).getD k 0) hmx (by kernel_rfl) (by kernel_rfl) (fun _ => rfl) (fun B S S' h => by show ([Own.box b1 (Rp.list (Rp.int .i64)) x2, Own.box b3 (Rp.list (Rp.int .i64)) x4, Own.box b5 (Rp.list (Rp.int .i64)) x6, Own.grp Y x7 v8, (cond (S 8) (Own.box (B 6) (Rp.list (Rp.int .i64)) x9) (cond (S 6) (Own.box (B 6) (Rp.list (Rp.int .i64)) []) Own.nil)), (cond (S 9) (Own.box (B 7) (Rp.list (Rp.int .i64)) x10) (cond (S 7) (Own.box (B 7) (Rp.list (Rp.int .i64)) []) Own.nil))] : Ctx) = [Own.box b1 (Rp.list (Rp.int .i64)) x2, Own.box b3 (Rp.list (Rp.int .i64)) x4, Own.box b5 (Rp.list (Rp.int .i64)) x6, Own.grp Y x7 v8, (cond (S' 8) (Own.box (B 6) (Rp.list (Rp.int .i64)) x9) (cond (S' 6) (Own.box (B 6) (Rp.list (Rp.int .i64)) []) Own.nil)), (cond (S' 9) (Own.box (B 7) (Rp.list (Rp.int .i64)) x10) (cond (S' 7) (Own.box (B 7) (Rp.list (Rp.int .i64)) []) Own.nil))]; simp only [h 6 (Nat.le_of_ble_eq_true (by kernel_rfl)), h 7 (Nat.le_of_ble_eq_true (by kernel_rfl)), h 8 (Nat.le_of_ble_eq_true (by kernel_rfl)), h 9 (Nat.le_of_ble_eq_true (by kernel_rfl))]) (fun _ => rfl) (fun B => ?_)
    refine gq1 (fun S hK => (qLoad (R := Rp.list (Rp.int .i64)) (a := x2) (R' := Rp.list (Rp.int .i64)) 0 ty90 (Sub.refl _) (hi := rfl))) ?_
    refine gq1 (fun S hK => (qLoad (R := Rp.list (Rp.int .i64)) (a := x4) (R' := Rp.list (Rp.int .i64)) 1 ty90 (Sub.refl _) (hi := rfl))) ?_
    refine gq1 (fun S hK => (qCall (lcs_Match_ok x2 x4 _ hx9))) ?_
    refine gq1 (fun S hK => (qLoad (R := Rp.list (Rp.int .i64)) (a := x2) (R' := Rp.list (Rp.int .i64)) 0 ty90 (Sub.refl _) (hi := rfl))) ?_
    refine gq1 (fun S hK => (qLoad (R := Rp.list (Rp.int .i64)) (a := x6) (R' := Rp.list (Rp.int .i64)) 2 ty90 (Sub.refl _) (hi := rfl))) ?_
    refine gq1 (fun S hK => (qCall (lcs_Match_ok x2 x6 _ hx10))) ?_
    refine gqA (fun S hK => ⟨fun B' hB => by show ([Own.box b1 (Rp.list (Rp.int .i64)) x2, Own.box b3 (Rp.list (Rp.int .i64)) x4, Own.box b5 (Rp.list (Rp.int .i64)) x6, Own.grp Y x7 v8, (cond (S 8) (Own.box (B' 6) (Rp.list (Rp.int .i64)) x9) (cond (S 6) (Own.box (B' 6) (Rp.list (Rp.int .i64)) []) Own.nil)), (cond (S 9) (Own.box (B' 7) (Rp.list (Rp.int .i64)) x10) (cond (S 7) (Own.box (B' 7) (Rp.list (Rp.int .i64)) []) Own.nil))] : Ctx) = [Own.box b1 (Rp.list (Rp.int .i64)) x2, Own.box b3 (Rp.list (Rp.int .i64)) x4, Own.box b5 (Rp.list (Rp.int .i64)) x6, Own.grp Y x7 v8, (cond (S 8) (Own.box (B 6) (Rp.list (Rp.int .i64)) x9) (cond (S 6) (Own.box (B 6) (Rp.list (Rp.int .i64)) []) Own.nil)), (cond (S 9) (Own.box (B 7) (Rp.list (Rp.int .i64)) x10) (cond (S 7) (Own.box (B 7) (Rp.list (Rp.int .i64)) []) Own.nil))]; simp only [hK.me, hK.F 8 (by kernel_rfl), hB 7 (by decide), cond_false], fun s ρ hg _ => sAlloc (R := Rp.list (Rp.int .i64)) (z := []) 4 Tryz.zeroValue90 (fun _ => ⟨none, 0, rfl, ⟨Nat.le_refl _, fun _ => rfl⟩, .inl rfl⟩) (congrArg some ((condF (hK.F 8 (by kernel_rfl)) _ _).trans (condF (hK.me) _ _))) (fun b => by show ([Own.box b1 (Rp.list (Rp.int .i64)) x2, Own.box b3 (Rp.list (Rp.int .i64)) x4, Own.box b5 (Rp.list (Rp.int .i64)) x6, Own.grp Y x7 v8, (cond (S 8) (Own.box b (Rp.list (Rp.int .i64)) x9) (Own.box b (Rp.list (Rp.int .i64)) [])), (cond (S 9) (Own.box (B 7) (Rp.list (Rp.int .i64)) x10) (cond (S 7) (Own.box (B 7) (Rp.list (Rp.int .i64)) []) Own.nil))] : Ctx) = _; rw [hK.F 8 (by kernel_rfl)]; rfl) s ρ hg⟩) ?_
    refine gqA (fun S hK => ⟨fun B' hB => by show ([Own.box b1 (Rp.list (Rp.int .i64)) x2, Own.box b3 (Rp.list (Rp.int .i64)) x4, Own.box b5 (Rp.list (Rp.int .i64)) x6, Own.grp Y x7 v8, (cond (S 8) (Own.box (B' 6) (Rp.list (Rp.int .i64)) x9) (cond (S 6) (Own.box (B' 6) (Rp.list (Rp.int .i64)) []) Own.nil)), (cond (S 9) (Own.box (B' 7) (Rp.list (Rp.int .i64)) x10) (cond (S 7) (Own.box (B' 7) (Rp.list (Rp.int .i64)) []) Own.nil))] : Ctx) = [Own.box b1 (Rp.list (Rp.int .i64)) x2, Own.box b3 (Rp.list (Rp.int .i64)) x4, Own.box b5 (Rp.list (Rp.int .i64)) x6, Own.grp Y x7 v8, (cond (S 8) (Own.box (B 6) (Rp.list (Rp.int .i64)) x9) (cond (S 6) (Own.box (B 6) (Rp.list (Rp.int .i64)) []) Own.nil)), (cond (S 9) (Own.box (B 7) (Rp.list (Rp.int .i64)) x10) (cond (S 7) (Own.box (B 7) (Rp.list (Rp.int .i64)) []) Own.nil))]; simp only [hK.me, hK.F 9 (by kernel_rfl), hB 6 (by decide), cond_false], fun s ρ hg _ => sAlloc (R := Rp.list (Rp.int .i64)) (z := []) 5 Tryz.zeroValue90 (fun _ => ⟨none, 0, rfl, ⟨Nat.le_refl _, fun _ => rfl⟩, .inl rfl⟩) (congrArg some ((condF (hK.F 9 (by kernel_rfl)) _ _).trans (condF (hK.me) _ _))) (fun b => by show ([Own.box b1 (Rp.list (Rp.int .i64)) x2, Own.box b3 (Rp.list (Rp.int .i64)) x4, Own.box b5 (Rp.list (Rp.int .i64)) x6, Own.grp Y x7 v8, (cond (S 8) (Own.box (B 6) (Rp.list (Rp.int .i64)) x9) (cond (S 6) (Own.box (B 6) (Rp.list (Rp.int .i64)) []) Own.nil)), (cond (S 9) (Own.box b (Rp.list (Rp.int .i64)) x10) (Own.box b (Rp.list (Rp.int .i64)) []))] : Ctx) = _; rw [hK.F 9 (by kernel_rfl)]; rfl) s ρ hg⟩) ?_
    refine gqS (fun S hK => SStep.as (sStore (R := Rp.list (Rp.int .i64)) (R' := Rp.list (Rp.int .i64)) (a := []) (y := x9) 4 Tryz.sizeOf90 (Upd.refl _) (congrArg some ((condF (hK.me) _ _).trans (condT (hK.T 6 (by kernel_rfl)) _ _)))) (by show (_ : Ctx) = [Own.box b1 (Rp.list (Rp.int .i64)) x2, Own.box b3 (Rp.list (Rp.int .i64)) x4, Own.box b5 (Rp.list (Rp.int .i64)) x6, Own.grp Y x7 v8, Own.box (B 6) (Rp.list (Rp.int .i64)) x9, (cond (S 9) (Own.box (B 7) (Rp.list (Rp.int .i64)) x10) (cond (S 7) (Own.box (B 7) (Rp.list (Rp.int .i64)) []) Own.nil))]; rfl)) ?_
    refine gqS (fun S hK => SStep.as (sStore (R := Rp.list (Rp.int .i64)) (R' := Rp.list (Rp.int .i64)) (a := []) (y := x10) 5 Tryz.sizeOf90 (Upd.refl _) (congrArg some ((condF (hK.me) _ _).trans (condT (hK.T 7 (by kernel_rfl)) _ _)))) (by show (_ : Ctx) = [Own.box b1 (Rp.list (Rp.int .i64)) x2, Own.box b3 (Rp.list (Rp.int .i64)) x4, Own.box b5 (Rp.list (Rp.int .i64)) x6, Own.grp Y x7 v8, (cond (S 8) (Own.box (B 6) (Rp.list (Rp.int .i64)) x9) (cond (S 6) (Own.box (B 6) (Rp.list (Rp.int .i64)) []) Own.nil)), Own.box (B 7) (Rp.list (Rp.int .i64)) x10]; rfl)) ?_
    exact ⟨x9, x10, (B 6), (B 7), h, ⟨⟨Pr.le_rfl, Pr.le_rfl, Pr.le_rfl, Pr.le_rfl, Pr.le_rfl, Pr.le_rfl, trivial⟩, Pick.refl _⟩⟩
theorem diff3_chunks_ok (x1 : List Int) (x2 : List Int) (x3 : List Int) : FnC Tryz.prog 74 [Pr.lst (Rp.int .i64) x1, Pr.lst (Rp.int .i64) x2, Pr.lst (Rp.int .i64) x3] [] (fun q C' => ∃ b4 b5 b6, q = Pr.clo 85 [] [Pr.pt b4 0, Pr.pt b5 0, Pr.pt b6 0] ∧ C' = [Own.box b4 (Rp.list (Rp.int .i64)) x1, Own.box b5 (Rp.list (Rp.int .i64)) x2, Own.box b6 (Rp.list (Rp.int .i64)) x3]) := by
  refine fnc_introP (n := 8) (rs := [6]) Tryz.func74 rfl Tryz.ntmps74 ⟨by decide, Tryz.results74⟩ (by decide) (fun s0 => ?_)
  refine W_rs ?_
  refine rBox (R := Rp.list (Rp.int .i64)) (a := x1) rfl (fun b4 => ?_)
  refine rBox (R := Rp.list (Rp.int .i64)) (a := x2) rfl (fun b5 => ?_)
  refine rBox (R := Rp.list (Rp.int .i64)) (a := x3) rfl (fun b6 => ?_)
  refine rq (out := Pr.is .nilFunc) qAssign ?_
  refine W_rs ?_
  refine rq (out := Pr.clo 85 [] [Pr.pt b4 0, Pr.pt b5 0, Pr.pt b6 0]) qMakeFunc ?_
  refine rq (out := Pr.clo 85 [] [Pr.pt b4 0, Pr.pt b5 0, Pr.pt b6 0]) qAssign ?_
  exact W_ret ⟨.inl rfl, _, Pick.refl _, _, Pr.le_rfl, b4, b5, b6, rfl, rfl⟩
theorem slices_Equal_int_int_ok (x1 : List Int) (x2 : List Int) (r : Bool) (h : slices_Equal_int_int x1 x2 = some r) : FnP Tryz.prog 89 [Pr.lst (Rp.int .i64) x1, Pr.lst (Rp.int .i64) x2] (Pr.bool r) := by
  refine fn_intro (n := 26) (rs := [4]) Tryz.func89 rfl Tryz.ntmps89 ⟨by decide, Tryz.results89⟩ (by decide) (fun s0 => ?_)
  unfold slices_Equal_int_int at h
  refine W_rs ?_
  refine rq (out := Pr.bool false) qAssign ?_
  refine W_seq ?_
  refine W_rs ?_
  refine rq (out := Pr.lst (Rp.int .i64) x1) qMove ?_
  refine rq (out := Pr.i64 (x1.length : Int)) (qLenL rfl Tryz.underlying90) ?_
  refine rq (out := Pr.lst (Rp.int .i64) x2) qMove ?_
  refine rq (out := Pr.i64 (x2.length : Int)) (qLenL rfl Tryz.underlying90) ?_
  refine rq (out := Pr.bool ((x1.length : Int) != (x2.length : Int))) qInt ?_
  refine W_cond (b := (x1.length : Int) != (x2.length : Int)) rfl (fun hc3 => ?_) (fun hc3 => ?_)
  · replace h := iteT hc3 h
    refine W_rs ?_
    refine rq (out := Pr.bool false) qAssign ?_
    obtain rfl := Option.some.inj h
    exact W_ret ⟨rfl, Pr.le_rfl⟩
  · replace h := iteF hc3 h
    refine W_skip ?_
    refine W_seq ?_
    refine W_rs ?_
    refine rq (out := Pr.lst (Rp.int .i64) x1) qMove ?_
    refine rq (out := Pr.i64 (x1.length : Int)) (qLenL rfl Tryz.underlying90) ?_
    refine rq (out := Pr.i64 0) qMove ?_
    refine W_block ?_
    obtain ⟨z2l, hz2, h⟩ := bindSome h
    obtain ⟨n2, hN2⟩ := iter_some hz2
    clear hz2
    refine W_after 0 (fun e C => slices_Equal_int_int_k1 = some r ∧ At [] [] e C) ?_ ?_
    · rintro e C ⟨h, hat1⟩
      refine W_at hat1 ?_
      clear hat1
      unfold slices_Equal_int_int_k1 at h
      refine W_rs ?_
      refine rq (out := Pr.bool true) qAssign ?_
      obtain rfl := Option.some.inj h
      exact W_ret ⟨rfl, Pr.le_rfl⟩
    · refine W_loop (fun m e C => ∃ (x4 : Int), IterN (fun s => slices_Equal_int_int_l2 x1 x2 s) m x4 = some z2l ∧ At [(0, Pr.lst (Rp.int .i64) x1), (1, Pr.lst (Rp.int .i64) x2), (12, Pr.i64 (x1.length : Int)), (13, Pr.i64 x4)] [] e C) n2 ⟨0, hN2, ⟨⟨Pr.le_rfl, Pr.le_rfl, Pr.le_rfl, Pr.le_rfl, trivial⟩, Pick.refl _⟩⟩ ?_
      clear hN2
      rintro m e C ⟨x4, hN2, hatl2⟩
      refine W_at hatl2 ?_
      clear hatl2
      obtain ⟨m2, w2l, rfl, h2l, hn2, ho2⟩ := iterN_some hN2
      clear hN2
      replace h2l : slices_Equal_int_int_l2 x1 x2 x4 = some w2l := h2l
      unfold slices_Equal_int_int_l2 at h2l
      refine W_rs ?_
      refine rq (out := Pr.bool (decide (x4 < (x1.length : Int)))) qInt ?_
      refine W_seq ?_
      refine W_cond (b := decide (x4 < (x1.length : Int))) rfl (fun hc6 => ?_) (fun hc6 => ?_)
      · replace h2l := iteT hc6 h2l
        refine W_skip ?_
        refine W_seq ?_
        refine W_block ?_
        refine W_rs ?_
        refine rq (out := Pr.i64 x4) qMove ?_
        refine rq (out := Pr.i64 x4) qAssign ?_
        refine W_join (fun e C => ∃ (x7 : Int), ∃ (x8 : Int), slices_Equal_int_int_j3 x4 x7 x8 = some w2l ∧ At [(0, Pr.lst (Rp.int .i64) x1), (1, Pr.lst (Rp.int .i64) x2), (12, Pr.i64 (x1.length : Int)), (13, Pr.i64 x4), (24, Pr.bool (x7 != x8))] [] e C) ?_ ?_
        · rintro e C ⟨x7, x8, h2l, hat3⟩
          refine W_at hat3 ?_
          clear hat3
          unfold slices_Equal_int_int_j3 at h2l
          refine W_cond (b := x7 != x8) rfl (fun hc9 => ?_) (fun hc9 => ?_)
          · replace h2l := iteT hc9 h2l
            refine W_rs ?_
            refine rq (out := Pr.bool false) qAssign ?_
            obtain rfl := ho2 _ (Option.some.inj h2l).symm
            replace h : some false = some r := h
            obtain rfl := Option.some.inj h
            exact W_ret ⟨rfl, Pr.le_rfl⟩
          · replace h2l := iteF hc9 h2l
            refine W_skip ?_
            refine W_r ?_
            refine rq (out := Pr.i64 (w64 (x4 + 1))) qInt ?_
            refine rq (out := Pr.i64 (w64 (x4 + 1))) qMove ?_
            exact ⟨m2, Nat.lt_succ_self _, w64 (x4 + 1), hn2 _ (Option.some.inj h2l).symm, ⟨⟨Pr.le_rfl, Pr.le_rfl, Pr.le_rfl, Pr.le_rfl, trivial⟩, Pick.refl _⟩⟩
        · refine W_draw 9 hmx (by kernel_rfl) (by kernel_rfl) ?_
          refine qq (out := Pr.lst (Rp.int .i64) x1) qMove ?_
          refine qq (out := Pr.i64 x4) qMove ?_
          obtain ⟨x7, hx7, h2l⟩ := bindSome h2l
          refine qq (out := Pr.cpt (Rp.int .i64) x7) (qIdxA (R := Rp.int .i64) (l := x1) Tryz.underlying90 Tryz.sizeOf3 hx7) ?_
          refine qq (out := Pr.i64 x7) (qLoadC (R := Rp.int .i64) (a := x7) ty3) ?_
          refine qq (out := Pr.lst (Rp.int .i64) x2) qMove ?_
          refine qq (out := Pr.i64 x4) qMove ?_
          obtain ⟨x8, hx8, h2l⟩ := bindSome h2l
          refine qq (out := Pr.cpt (Rp.int .i64) x8) (qIdxA (R := Rp.int .i64) (l := x2) Tryz.underlying90 Tryz.sizeOf3 hx8) ?_
          refine qq (out := Pr.i64 x8) (qLoadC (R := Rp.int .i64) (a := x8) ty3) ?_
          refine qq (out := Pr.bool (x7 != x8)) qInt ?_
          exact ⟨x7, x8, h2l, ⟨⟨Pr.le_rfl, Pr.le_rfl, Pr.le_rfl, Pr.le_rfl, Pr.le_rfl, trivial⟩, Pick.refl _⟩⟩
      · replace h2l := iteF hc6 h2l
        refine W_exit ?_
        obtain rfl := ho2 _ (Option.some.inj h2l).symm
        exact ⟨h, ⟨trivial, Pick.refl _⟩⟩
theorem diff3_kind_ok (x1 : List Int) (x2 : List Int) (x3 : List Int) (r : Int) (h : diff3_kind x1 x2 x3 = some r) : FnP Tryz.prog 75 [Pr.lst (Rp.int .i64) x1, Pr.lst (Rp.int .i64) x2, Pr.lst (Rp.int .i64) x3] (Pr.i64 r) := by
  refine fn_intro (n := 36) (rs := [6]) Tryz.func75 rfl Tryz.ntmps75 ⟨by decide, Tryz.results75⟩ (by decide) (fun s0 => ?_)
  unfold diff3_kind at h
  refine W_rs ?_
  refine rq (out := Pr.i64 0) qAssign ?_
  refine W_rs ?_
  refine rq (out := Pr.lst (Rp.int .i64) x1) qMove ?_
  refine rq (out := Pr.lst (Rp.int .i64) x2) qMove ?_
  obtain ⟨x4, hx4, h⟩ := bindSome h
  refine rq (out := Pr.bool x4) (qCall (slices_Equal_int_int_ok x1 x2 _ hx4)) ?_
  refine rq (out := Pr.bool (!x4)) qNot ?_
  refine rq (out := Pr.lst (Rp.int .i64) x1) qMove ?_
  refine rq (out := Pr.lst (Rp.int .i64) x3) qMove ?_
  obtain ⟨x5, hx5, h⟩ := bindSome h
  refine rq (out := Pr.bool x5) (qCall (slices_Equal_int_int_ok x1 x3 _ hx5)) ?_
  refine rq (out := Pr.bool (!x5)) qNot ?_
  refine rq (out := Pr.bool (!x4)) qAssign ?_
  refine rq (out := Pr.bool (!x5)) qAssign ?_
  refine W_seq ?_
  refine W_block ?_
  refine W_join (fun e C => ∃ (x11 : Bool), diff3_kind_j2 x4 x5 x11 = some r ∧ At [(7, Pr.bool (!x4)), (8, Pr.bool (!x5)), (17, Pr.bool x11)] [] e C) ?_ ?_
  · rintro e C ⟨x11, h, hat2⟩
    refine W_at hat2 ?_
    clear hat2
    unfold diff3_kind_j2 at h
    refine W_cond (b := x11) rfl (fun hc12 => ?_) (fun hc12 => ?_)
    · replace h := iteT hc12 h
      refine W_rs ?_
      refine rq (out := Pr.i64 3) qAssign ?_
      obtain rfl := Option.some.inj h
      exact W_ret ⟨rfl, Pr.le_rfl⟩
    · replace h := iteF hc12 h
      refine W_join (fun e C => ∃ (x14 : Bool), diff3_kind_j1 x4 x5 x14 = some r ∧ At [(7, Pr.bool (!x4)), (8, Pr.bool (!x5)), (27, Pr.bool x14)] [] e C) ?_ ?_
      · rintro e C ⟨x14, h, hat1⟩
        refine W_at hat1 ?_
        clear hat1
        unfold diff3_kind_j1 at h
        refine W_cond (b := x14) rfl (fun hc15 => ?_) (fun hc15 => ?_)
        · replace h := iteT hc15 h
          refine W_rs ?_
          refine rq (out := Pr.i64 4) qAssign ?_
          obtain rfl := Option.some.inj h
          exact W_ret ⟨rfl, Pr.le_rfl⟩
        · replace h := iteF hc15 h
          refine W_rs ?_
          refine rq (out := Pr.bool (!x4)) qMove ?_
          refine rq (out := Pr.bool (!x4)) qAssign ?_
          refine W_cond (b := !x4) rfl (fun hc16 => ?_) (fun hc16 => ?_)
          · replace h := iteT hc16 h
            refine W_rs ?_
            refine rq (out := Pr.i64 1) qAssign ?_
            obtain rfl := Option.some.inj h
            exact W_ret ⟨rfl, Pr.le_rfl⟩
          · replace h := iteF hc16 h
            refine W_rs ?_
            refine rq (out := Pr.bool (!x5)) qMove ?_
            refine rq (out := Pr.bool (!x5)) qAssign ?_
            refine W_cond (b := !x5) rfl (fun hc17 => ?_) (fun hc17 => ?_)
            · replace h := iteT hc17 h
              refine W_rs ?_
              refine rq (out := Pr.i64 2) qAssign ?_
              obtain rfl := Option.some.inj h
              exact W_ret ⟨rfl, Pr.le_rfl⟩
            · replace h := iteF hc17 h
              refine W_skip ?_
              refine W_rs ?_
              refine rq (out := Pr.i64 0) qAssign ?_
              obtain rfl := Option.some.inj h
              exact W_ret ⟨rfl, Pr.le_rfl⟩
      · refine W_r ?_
        refine rq (out := Pr.bool (!x4)) qMove ?_
        refine rq (out := Pr.bool (!x4)) qMove ?_
        rcases iteSome h with ⟨hc13, h⟩ | ⟨hc13, h⟩
        · refine rqg hc13 (out := Pr.bool (!x5)) qMove ?_
          refine rq (out := Pr.bool (!x5)) (qPickT hc13) ?_
          refine rq (out := Pr.bool (!x5)) qAssign ?_
          exact ⟨!x5, h, ⟨⟨Pr.le_rfl, Pr.le_rfl, Pr.le_rfl, trivial⟩, Pick.refl _⟩⟩
        · refine rno (neT hc13) ?_
          refine rq (out := Pr.bool false) (qPickF hc13) ?_
          refine rq (out := Pr.bool false) qAssign ?_
          exact ⟨false, h, ⟨⟨Pr.le_rfl, Pr.le_rfl, Pr.le_rfl, trivial⟩, Pick.refl _⟩⟩
  · refine W_r ?_
    refine rq (out := Pr.bool (!x4)) qMove ?_
    refine rq (out := Pr.bool (!x4)) qMove ?_
    rcases iteSome h with ⟨hc6, h⟩ | ⟨hc6, h⟩
    · refine rqg hc6 (out := Pr.bool (!x5)) qMove ?_
      refine rq (out := Pr.bool (!x5)) (qPickT hc6) ?_
      refine rq (out := Pr.bool (!x5)) qMove ?_
      rcases iteSome h with ⟨hc7, h⟩ | ⟨hc7, h⟩
      · refine rqg hc7 (out := Pr.lst (Rp.int .i64) x2) qMove ?_
        refine rqg hc7 (out := Pr.lst (Rp.int .i64) x3) qMove ?_
        obtain ⟨x8, hx8, h⟩ := bindSome h
        refine rqg hc7 (out := Pr.bool x8) (qCall (slices_Equal_int_int_ok x2 x3 _ hx8)) ?_
        refine rq (out := Pr.bool x8) (qPickT hc7) ?_
        refine rq (out := Pr.bool x8) qAssign ?_
        exact ⟨x8, h, ⟨⟨Pr.le_rfl, Pr.le_rfl, Pr.le_rfl, trivial⟩, Pick.refl _⟩⟩
      · refine rno (neT hc7) ?_
        refine rno (neT hc7) ?_
        refine rno (neT hc7) ?_
        refine rq (out := Pr.bool false) (qPickF hc7) ?_
        refine rq (out := Pr.bool false) qAssign ?_
        exact ⟨false, h, ⟨⟨Pr.le_rfl, Pr.le_rfl, Pr.le_rfl, trivial⟩, Pick.refl _⟩⟩
    · refine rno (neT hc6) ?_
      refine rq (out := Pr.bool false) (qPickF hc6) ?_
      refine rq (out := Pr.bool false) qMove ?_
      have hc9 : false = false := rfl
      refine rno (neT hc9) ?_
      refine rno (neT hc9) ?_
      refine rno (neT hc9) ?_
      refine rq (out := Pr.bool false) (qPickF hc9) ?_
      refine rq (out := Pr.bool false) qAssign ?_
      exact ⟨false, h, ⟨⟨Pr.le_rfl, Pr.le_rfl, Pr.le_rfl, trivial⟩, Pick.refl _⟩⟩
theorem diff3_Chunks_ok (x1 : List Int) (x2 : List Int) (x3 : List Int) (r : (List ApiChunk)) (h : diff3_Chunks x1 x2 x3 = some r) : FnP Tryz.prog 65 [Pr.lst (Rp.int .i64) x1, Pr.lst (Rp.int .i64) x2, Pr.lst (Rp.int .i64) x3] (Pr.lst rApiChunk r) := by
  refine fn_intro (n := 55) (rs := [6]) Tryz.func65 rfl Tryz.ntmps65 ⟨by decide, Tryz.results65⟩ (by decide) (fun s0 => ?_)
  unfold diff3_Chunks at h
  refine W_rs ?_
  refine rBox (R := Rp.list (Rp.int .i64)) (a := x1) rfl (fun b4 => ?_)
  refine rBox (R := Rp.list (Rp.int .i64)) (a := x2) rfl (fun b5 => ?_)
  refine rBox (R := Rp.list (Rp.int .i64)) (a := x3) rfl (fun b6 => ?_)
  refine rq (out := Pr.is (.slice none 0 0)) qAssign ?_
  refine W_rs ?_
  refine rAllocC Tryz.zeroValue66 rfl rfl (fun b7 => ?_)
  refine W_rs2 ?_
  refine W_r ?_
  refine rq (out := Pr.lst (Rp.int .i64) x1) (qLoad (R := Rp.list (Rp.int .i64)) (a := x1) (R' := Rp.list (Rp.int .i64)) 0 ty90 (Sub.refl _)) ?_
  refine rq (out := Pr.lst (Rp.int .i64) x2) (qLoad (R := Rp.list (Rp.int .i64)) (a := x2) (R' := Rp.list (Rp.int .i64)) 1 ty90 (Sub.refl _)) ?_
  refine rq (out := Pr.lst (Rp.int .i64) x3) (qLoad (R := Rp.list (Rp.int .i64)) (a := x3) (R' := Rp.list (Rp.int .i64)) 2 ty90 (Sub.refl _)) ?_
  refine rCallC [] (diff3_chunks_ok x1 x2 x3) (fun q C' hq => ?_)
  obtain ⟨b8, b9, b10, rfl, rfl⟩ := hq
  refine ⟨rfl, ?_⟩
  obtain ⟨⟨x25, x26, x27, x28⟩, hx29, h⟩ := bindSome h
  refine WR_vec rApiChunk 71 ?_
  refine W_range [0, 1, 2] (fun (s : (List ApiChunk)) C => ∃ (v13 : Value), C = [Own.box b4 (Rp.list (Rp.int .i64)) x1, Own.box b5 (Rp.list (Rp.int .i64)) x2, Own.box b6 (Rp.list (Rp.int .i64)) x3, Own.cell b7 (Pr.is v13), Own.vec v13 rApiChunk s 71]) (encs := (fun (a : Diff3Ends × Diff3Ends) => [(rDiff3Ends).val a.1, (rDiff3Ends).val a.2])) (yld := (fun (s : (List ApiChunk)) (a : Diff3Ends × Diff3Ends) => diff3_Chunks_r1 x1 x2 x3 s a.1 a.2)) (st0 := []) (stF := x28) (Ccap' := [Own.box b8 (Rp.list (Rp.int .i64)) x25, Own.box b9 (Rp.list (Rp.int .i64)) x26, Own.box b10 (Rp.list (Rp.int .i64)) x27]) (fun l Y L hY => diff3_chunks_1_ok _ Y l hY x1 x2 x3 [] b8 b9 b10 L _ hx29) ⟨(.slice none 0 0), rfl⟩ (fun _ => rfl) ?_ ?_ (fun _ _ _ h => h.1)
  · rintro l x14 ⟨x11, x12⟩ ⟨rb1, rs1⟩ C T s0 ⟨v13, rfl⟩ hy1
    replace hy1 : diff3_Chunks_r1 x1 x2 x3 x14 x11 x12 = some (rb1, rs1) := hy1
    unfold diff3_Chunks_r1 at hy1
    refine W_rs ?_
    refine rAlloc (R := rDiff3Ends) (z := (Diff3Ends.mk 0 0 0)) Tryz.zeroValue117 (fun _ => ⟨_, ⟨_, _, rfl, rfl, ⟨_, _, rfl, rfl, ⟨_, _, rfl, rfl, rfl⟩⟩⟩, rfl⟩) (fun b17 => ?_)
    refine rStore (R := rDiff3Ends) (R' := rDiff3Ends) (a := (Diff3Ends.mk 0 0 0)) (y := x11) 5 Tryz.sizeOf117 (Upd.refl _) ?_
    refine W_r ?_
    refine rAlloc (R := rDiff3Ends) (z := (Diff3Ends.mk 0 0 0)) Tryz.zeroValue117 (fun _ => ⟨_, ⟨_, _, rfl, rfl, ⟨_, _, rfl, rfl, ⟨_, _, rfl, rfl, rfl⟩⟩⟩, rfl⟩) (fun b18 => ?_)
    refine rStore (R := rDiff3Ends) (R' := rDiff3Ends) (a := (Diff3Ends.mk 0 0 0)) (y := x12) 6 Tryz.sizeOf117 (Upd.refl _) ?_
    refine ⟨rfl, fun T s0 => ?_⟩
    refine W_pickK ?_
    refine W_block ?_
    refine W_draw 37 hmx (by kernel_rfl) (by kernel_rfl) ?_
    refine qq (out := Pr.is v13) (qLoadP 3 Tryz.isAgg66) ?_
    refine qq (out := Pr.lst (Rp.int .i64) x1) (qLoad (R := Rp.list (Rp.int .i64)) (a := x1) (R' := Rp.list (Rp.int .i64)) 0 ty90 (Sub.refl _)) ?_
    refine qq (out := Pr.pt b17 0) (qFieldP fld117_0) ?_
    refine qq (out := Pr.i64 x11.o) (qLoad (R := rDiff3Ends) (a := x11) (R' := Rp.int .i64) 5 ty3 subDiff3Ends_o) ?_
    refine qq (out := Pr.pt b18 0) (qFieldP fld117_0) ?_
    refine qq (out := Pr.i64 x12.o) (qLoad (R := rDiff3Ends) (a := x12) (R' := Rp.int .i64) 6 ty3 subDiff3Ends_o) ?_
    obtain ⟨x19, hx19, hy1⟩ := bindSome hy1
    refine qq (out := Pr.lst (Rp.int .i64) x19) (qLSubLH Tryz.underlying90 Tryz.sizeOf3 hx19) ?_
    refine qq (out := Pr.lst (Rp.int .i64) x2) (qLoad (R := Rp.list (Rp.int .i64)) (a := x2) (R' := Rp.list (Rp.int .i64)) 1 ty90 (Sub.refl _)) ?_
    refine qq (out := Pr.pt b17 1) (qFieldP fld117_1) ?_
    refine qq (out := Pr.i64 x11.a) (qLoad (R := rDiff3Ends) (a := x11) (R' := Rp.int .i64) 5 ty3 subDiff3Ends_a) ?_
    refine qq (out := Pr.pt b18 1) (qFieldP fld117_1) ?_
    refine qq (out := Pr.i64 x12.a) (qLoad (R := rDiff3Ends) (a := x12) (R' := Rp.int .i64) 6 ty3 subDiff3Ends_a) ?_
    obtain ⟨x20, hx20, hy1⟩ := bindSome hy1
    refine qq (out := Pr.lst (Rp.int .i64) x20) (qLSubLH Tryz.underlying90 Tryz.sizeOf3 hx20) ?_
    refine qq (out := Pr.lst (Rp.int .i64) x3) (qLoad (R := Rp.list (Rp.int .i64)) (a := x3) (R' := Rp.list (Rp.int .i64)) 2 ty90 (Sub.refl _)) ?_
    refine qq (out := Pr.pt b17 2) (qFieldP fld117_2) ?_
    refine qq (out := Pr.i64 x11.b) (qLoad (R := rDiff3Ends) (a := x11) (R' := Rp.int .i64) 5 ty3 subDiff3Ends_b) ?_
    refine qq (out := Pr.pt b18 2) (qFieldP fld117_2) ?_
    refine qq (out := Pr.i64 x12.b) (qLoad (R := rDiff3Ends) (a := x12) (R' := Rp.int .i64) 6 ty3 subDiff3Ends_b) ?_
    obtain ⟨x21, hx21, hy1⟩ := bindSome hy1
    refine qq (out := Pr.lst (Rp.int .i64) x21) (qLSubLH Tryz.underlying90 Tryz.sizeOf3 hx21) ?_
    obtain ⟨x22, hx22, hy1⟩ := bindSome hy1
    refine qq (out := Pr.i64 x22) (qCall (diff3_kind_ok x19 x20 x21 _ hx22)) ?_
    refine qq (out := Pr.pt b17 0) (qFieldP fld117_0) ?_
    refine qq (out := Pr.i64 x11.o) (qLoad (R := rDiff3Ends) (a := x11) (R' := Rp.int .i64) 5 ty3 subDiff3Ends_o) ?_
    refine qq (out := Pr.pt b18 0) (qFieldP fld117_0) ?_
    refine qq (out := Pr.i64 x12.o) (qLoad (R := rDiff3Ends) (a := x12) (R' := Rp.int .i64) 6 ty3 subDiff3Ends_o) ?_
    refine qq (out := (rApiSpan).val (ApiSpan.mk x11.o x12.o)) (qBuild st69 ⟨(ApiSpan.mk x11.o 0), ⟨_, rfl, rfl, fun j fd hj hf => by match j, hj with | 0, h => exact absurd rfl h | 1, _ => cases hf; rfl | _ + 2, _ => cases hf⟩, ⟨(ApiSpan.mk x11.o x12.o), ⟨_, rfl, rfl, fun j fd hj hf => by match j, hj with | 0, _ => cases hf; rfl | 1, h => exact absurd rfl h | _ + 2, _ => cases hf⟩, rfl⟩⟩) ?_
    refine qq (out := Pr.pt b17 1) (qFieldP fld117_1) ?_
    refine qq (out := Pr.i64 x11.a) (qLoad (R := rDiff3Ends) (a := x11) (R' := Rp.int .i64) 5 ty3 subDiff3Ends_a) ?_
    refine qq (out := Pr.pt b18 1) (qFieldP fld117_1) ?_
    refine qq (out := Pr.i64 x12.a) (qLoad (R := rDiff3Ends) (a := x12) (R' := Rp.int .i64) 6 ty3 subDiff3Ends_a) ?_
    refine qq (out := (rApiSpan).val (ApiSpan.mk x11.a x12.a)) (qBuild st69 ⟨(ApiSpan.mk x11.a 0), ⟨_, rfl, rfl, fun j fd hj hf => by match j, hj with | 0, h => exact absurd rfl h | 1, _ => cases hf; rfl | _ + 2, _ => cases hf⟩, ⟨(ApiSpan.mk x11.a x12.a), ⟨_, rfl, rfl, fun j fd hj hf => by match j, hj with | 0, _ => cases hf; rfl | 1, h => exact absurd rfl h | _ + 2, _ => cases hf⟩, rfl⟩⟩) ?_
    refine qq (out := Pr.pt b17 2) (qFieldP fld117_2) ?_
    refine qq (out := Pr.i64 x11.b) (qLoad (R := rDiff3Ends) (a := x11) (R' := Rp.int .i64) 5 ty3 subDiff3Ends_b) ?_
    refine qq (out := Pr.pt b18 2) (qFieldP fld117_2) ?_
    refine qq (out := Pr.i64 x12.b) (qLoad (R := rDiff3Ends) (a := x12) (R' := Rp.int .i64) 6 ty3 subDiff3Ends_b) ?_
    refine qq (out := (rApiSpan).val (ApiSpan.mk x11.b x12.b)) (qBuild st69 ⟨(ApiSpan.mk x11.b 0), ⟨_, rfl, rfl, fun j fd hj hf => by match j, hj with | 0, h => exact absurd rfl h | 1, _ => cases hf; rfl | _ + 2, _ => cases hf⟩, ⟨(ApiSpan.mk x11.b x12.b), ⟨_, rfl, rfl, fun j fd hj hf => by match j, hj with | 0, _ => cases hf; rfl | 1, h => exact absurd rfl h | _ + 2, _ => cases hf⟩, rfl⟩⟩) ?_
    refine qq (out := (rApiChunk).val (ApiChunk.mk x22 (ApiSpan.mk x11.o x12.o) (ApiSpan.mk x11.a x12.a) (ApiSpan.mk x11.b x12.b))) (qBuild st71 ⟨(ApiChunk.mk x22 (ApiSpan.mk 0 0) (ApiSpan.mk 0 0) (ApiSpan.mk 0 0)), ⟨_, rfl, rfl, fun j fd hj hf => by match j, hj with | 0, h => exact absurd rfl h | 1, _ => cases hf; rfl | 2, _ => cases hf; rfl | 3, _ => cases hf; rfl | _ + 4, _ => cases hf⟩, ⟨(ApiChunk.mk x22 (ApiSpan.mk x11.o x12.o) (ApiSpan.mk 0 0) (ApiSpan.mk 0 0)), ⟨_, rfl, rfl, fun j fd hj hf => by match j, hj with | 0, _ => cases hf; rfl | 1, h => exact absurd rfl h | 2, _ => cases hf; rfl | 3, _ => cases hf; rfl | _ + 4, _ => cases hf⟩, ⟨(ApiChunk.mk x22 (ApiSpan.mk x11.o x12.o) (ApiSpan.mk x11.a x12.a) (ApiSpan.mk 0 0)), ⟨_, rfl, rfl, fun j fd hj hf => by match j, hj with | 0, _ => cases hf; rfl | 1, _ => cases hf; rfl | 2, h => exact absurd rfl h | 3, _ => cases hf; rfl | _ + 4, _ => cases hf⟩, ⟨(ApiChunk.mk x22 (ApiSpan.mk x11.o x12.o) (ApiSpan.mk x11.a x12.a) (ApiSpan.mk x11.b x12.b)), ⟨_, rfl, rfl, fun j fd hj hf => by match j, hj with | 0, _ => cases hf; rfl | 1, _ => cases hf; rfl | 2, _ => cases hf; rfl | 3, h => exact absurd rfl h | _ + 4, _ => cases hf⟩, rfl⟩⟩⟩⟩) ?_
    refine qq (out := Pr.lst rApiChunk ([(ApiChunk.mk x22 (ApiSpan.mk x11.o x12.o) (ApiSpan.mk x11.a x12.a) (ApiSpan.mk x11.b x12.b))] : List ApiChunk)) (qBuildSlice1 (R := rApiChunk) (a := (ApiChunk.mk x22 (ApiSpan.mk x11.o x12.o) (ApiSpan.mk x11.a x12.a) (ApiSpan.mk x11.b x12.b))) el66 (Nat.le_of_ble_eq_true rfl)) ?_
    obtain ⟨x23, hx23, hy1⟩ := bindSome hy1
    refine rAppend' 4 el66 hx23 (fun v24 => ?_)
    refine rStoreV 3 4 Tryz.sizeOf66 ?_
    obtain ⟨rfl, rfl⟩ := Prod.mk.inj (Option.some.inj hy1)
    exact ⟨_, Pick.of [0, 1, 2, 3, 4] rfl, rfl, rfl, v24, rfl⟩
  · rintro D C' T s0 ⟨v13, rfl⟩
    refine W_rs ?_
    refine rq (out := Pr.is v13) (qLoadP 6 Tryz.isAgg66) ?_
    refine rq (out := Pr.is v13) qAssign ?_
    refine W_rel 7 [6] ?_ rfl ⟨rfl, trivial⟩
    obtain rfl := Option.some.inj h
    exact W_ret ⟨rfl, Pr.le_rfl⟩
theorem diff3_Parts_ok (x1 : List (List UInt8)) (x2 : List (List UInt8)) (x3 : List (List UInt8)) (r : (List ApiChunk)) (h : diff3_Parts x1 x2 x3 = some r) : FnP Tryz.prog 53 [Pr.lst Rp.str x1, Pr.lst Rp.str x2, Pr.lst Rp.str x3] (Pr.lst rApiChunk r) := by
  refine fn_intro (n := 23) (rs := [6]) Tryz.func53 rfl Tryz.ntmps53 ⟨by decide, Tryz.results53⟩ (by decide) (fun s0 => ?_)
  unfold diff3_Parts at h
  refine W_rs ?_
  refine rq (out := Pr.is (.slice none 0 0)) qAssign ?_
  refine W_rs ?_
  refine rq (out := Pr.lst Rp.str x1) qMove ?_
  refine rq (out := Pr.lst Rp.str x2) qMove ?_
  refine rq (out := Pr.lst Rp.str x3) qMove ?_
  refine rq (out := Pr.lst (Rp.list Rp.str) ([x1, x2, x3] : List (List (List UInt8)))) (qBuildSlice (R := Rp.list Rp.str) (ls := ([x1, x2, x3] : List (List (List UInt8)))) el78 (Nat.le_of_ble_eq_true rfl) ⟨rfl, rfl⟩ ⟨rfl, rfl, rfl, trivial⟩) ?_
  obtain ⟨x4, hx4, h⟩ := bindSome h
  refine rq (out := Pr.lst (Rp.list (Rp.int .i64)) x4) (qCall (lcs_Numbers_ok ([x1, x2, x3] : List (List (List UInt8))) _ hx4)) ?_
  refine rq (out := Pr.lst (Rp.list (Rp.int .i64)) x4) qAssign ?_
  refine W_join (fun e C => ∃ (x8 : List ApiChunk), diff3_Parts_j1 x8 = some r ∧ At [(6, Pr.lst rApiChunk x8)] [] e C) ?_ ?_
  · rintro e C ⟨x8, h, hat1⟩
    refine W_at hat1 ?_
    clear hat1
    unfold diff3_Parts_j1 at h
    obtain rfl := Option.some.inj h
    exact W_ret ⟨rfl, Pr.le_rfl⟩
  · refine W_draw 11 hmx (by kernel_rfl) (by kernel_rfl) ?_
    refine qq (out := Pr.lst (Rp.list (Rp.int .i64)) x4) qMove ?_
    obtain ⟨x5, hx5, h⟩ := bindSome h
    refine qq (out := Pr.cpt (Rp.list (Rp.int .i64)) x5) (qIdxA (R := Rp.list (Rp.int .i64)) (l := x4) Tryz.underlying87 Tryz.sizeOf90 hx5) ?_
    refine qq (out := Pr.lst (Rp.int .i64) x5) (qLoadC (R := Rp.list (Rp.int .i64)) (a := x5) ty90) ?_
    refine qq (out := Pr.lst (Rp.list (Rp.int .i64)) x4) qMove ?_
    obtain ⟨x6, hx6, h⟩ := bindSome h
    refine qq (out := Pr.cpt (Rp.list (Rp.int .i64)) x6) (qIdxA (R := Rp.list (Rp.int .i64)) (l := x4) Tryz.underlying87 Tryz.sizeOf90 hx6) ?_
    refine qq (out := Pr.lst (Rp.int .i64) x6) (qLoadC (R := Rp.list (Rp.int .i64)) (a := x6) ty90) ?_
    refine qq (out := Pr.lst (Rp.list (Rp.int .i64)) x4) qMove ?_
    obtain ⟨x7, hx7, h⟩ := bindSome h
    refine qq (out := Pr.cpt (Rp.list (Rp.int .i64)) x7) (qIdxA (R := Rp.list (Rp.int .i64)) (l := x4) Tryz.underlying87 Tryz.sizeOf90 hx7) ?_
    refine qq (out := Pr.lst (Rp.int .i64) x7) (qLoadC (R := Rp.list (Rp.int .i64)) (a := x7) ty90) ?_
    obtain ⟨x8, hx8, h⟩ := bindSome h
    refine qq (out := Pr.lst rApiChunk x8) (qCall (diff3_Chunks_ok x5 x6 x7 _ hx8)) ?_
    refine qq (out := Pr.lst rApiChunk x8) qAssign ?_
    exact ⟨x8, h, ⟨⟨Pr.le_rfl, trivial⟩, Pick.refl _⟩⟩
theorem weave_parts_ok (x1 : List (List UInt8)) (x2 : List (List UInt8)) (x3 : List (List UInt8)) (r : (List ApiPart)) (h : weave_parts x1 x2 x3 = some r) : FnP Tryz.prog 78 [Pr.lst Rp.str x1, Pr.lst Rp.str x2, Pr.lst Rp.str x3] (Pr.lst rApiPart r) := by
  refine fn_intro (n := 123) (rs := [6]) Tryz.func78 rfl Tryz.ntmps78 ⟨by decide, Tryz.results78⟩ (by decide) (fun s0 => ?_)
  unfold weave_parts at h
  refine W_rs ?_
  refine rq (out := Pr.is (.slice none 0 0)) qAssign ?_
  refine W_scope ?_
  refine W_rs ?_
  refine rq (out := Pr.is (.slice none 0 0)) qAssign ?_
  refine W_seq ?_
  refine W_label ?_
  refine W_seq ?_
  refine W_rs ?_
  refine rq (out := Pr.lst Rp.str x1) qMove ?_
  refine rq (out := Pr.lst Rp.str x2) qMove ?_
  refine rq (out := Pr.lst Rp.str x3) qMove ?_
  obtain ⟨x4, hx4, h⟩ := bindSome h
  refine rq (out := Pr.lst rApiChunk x4) (qCall (diff3_Parts_ok x1 x2 x3 _ hx4)) ?_
  refine rq (out := Pr.i64 (x4.length : Int)) (qLenL rfl Tryz.underlying66) ?_
  refine rq (out := Pr.i64 0) qMove ?_
  refine W_block ?_
  obtain ⟨z2l, hz2, h⟩ := bindSome h
  obtain ⟨n2, hN2⟩ := iter_some hz2
  clear hz2
  refine W_after 0 (fun e C => ∃ (x7 : List ApiPart), ∃ (v5 : Value), weave_parts_k1 x7 = some r ∧ At [(7, Pr.is v5)] [Own.vec v5 rApiPart x7 95] e C) ?_ ?_
  · rintro e C ⟨x7, v5, h, hat1⟩
    refine W_at hat1 ?_
    clear hat1
    unfold weave_parts_k1 at h
    refine W_rs ?_
    refine rq (out := Pr.is v5) qMove ?_
    refine rq (out := Pr.is v5) qAssign ?_
    refine W_rel 0 [6] ?_ rfl ⟨rfl, trivial⟩
    obtain rfl := Option.some.inj h
    exact W_ret ⟨rfl, Pr.le_rfl⟩
  · refine W_nil [7] rApiPart 95 (fun v39 => ?_) ⟨rfl, trivial⟩
    refine W_loop (fun m e C => ∃ (x6 : Int), ∃ (x7 : List ApiPart), ∃ (v5 : Value), IterN (fun s => weave_parts_l2 x4 x1 x2 x3 s.1 s.2) m (x6, x7) = some z2l ∧ At [(0, Pr.lst Rp.str x1), (1, Pr.lst Rp.str x2), (2, Pr.lst Rp.str x3), (7, Pr.is v5), (16, Pr.lst rApiChunk x4), (17, Pr.i64 (x4.length : Int)), (18, Pr.i64 x6)] [Own.vec v5 rApiPart x7 95] e C) n2 ⟨0, [], v39, hN2, ⟨⟨Pr.le_rfl, Pr.le_rfl, Pr.le_rfl, Pr.le_rfl, Pr.le_rfl, Pr.le_rfl, Pr.le_rfl, trivial⟩, Pick.refl _⟩⟩ ?_
    clear hN2
    rintro m e C ⟨x6, x7, v5, hN2, hatl2⟩
    refine W_at hatl2 ?_
    clear hatl2
    obtain ⟨m2, w2l, rfl, h2l, hn2, ho2⟩ := iterN_some hN2
    clear hN2
    replace h2l : weave_parts_l2 x4 x1 x2 x3 x6 x7 = some w2l := h2l
    unfold weave_parts_l2 at h2l
    refine W_rs ?_
    refine rq (out := Pr.bool (decide (x6 < (x4.length : Int)))) qInt ?_
    refine W_seq ?_
    refine W_cond (b := decide (x6 < (x4.length : Int))) rfl (fun hc11 => ?_) (fun hc11 => ?_)
    · replace h2l := iteT hc11 h2l
      refine W_skip ?_
      refine W_join (fun e C => ∃ (x38 : List ApiPart), ∃ (x12 : ApiChunk), ∃ (x23 : ApiPart), ∃ (v37 : Value), ∃ (b13 : Nat), ∃ (b20 : Nat), weave_parts_j3 x6 x38 x12 x23 = some w2l ∧ At [(0, Pr.lst Rp.str x1), (1, Pr.lst Rp.str x2), (2, Pr.lst Rp.str x3), (7, Pr.is v37), (16, Pr.lst rApiChunk x4), (17, Pr.i64 (x4.length : Int)), (18, Pr.i64 x6)] [Own.vec v37 rApiPart x38 95, Own.box b13 rApiChunk x12, Own.box b20 rApiPart x23] e C) ?_ ?_
      · rintro e C ⟨x38, x12, x23, v37, b13, b20, h2l, hat3⟩
        refine W_at hat3 ?_
        clear hat3
        unfold weave_parts_j3 at h2l
        refine W_r ?_
        refine rq (out := Pr.i64 (w64 (x6 + 1))) qInt ?_
        refine rq (out := Pr.i64 (w64 (x6 + 1))) qMove ?_
        exact ⟨m2, Nat.lt_succ_self _, w64 (x6 + 1), x38, v37, hn2 _ (Option.some.inj h2l).symm, ⟨⟨Pr.le_rfl, Pr.le_rfl, Pr.le_rfl, Pr.le_rfl, Pr.le_rfl, Pr.le_rfl, Pr.le_rfl, trivial⟩, Pick.of [0] rfl⟩⟩
      · refine W_block ?_
        refine W_rs ?_
        obtain ⟨x12, hx12, h2l⟩ := bindSome h2l
        refine rq (out := Pr.cpt rApiChunk x12) (qIdxA (R := rApiChunk) (l := x4) Tryz.underlying66 Tryz.sizeOf71 hx12) ?_
        refine rq (out := (rApiChunk).val x12) (qLoadC (R := rApiChunk) (a := x12) ty71) ?_
        refine rAlloc (R := rApiChunk) (z := (ApiChunk.mk 0 (ApiSpan.mk 0 0) (ApiSpan.mk 0 0) (ApiSpan.mk 0 0))) Tryz.zeroValue71 (fun _ => ⟨_, ⟨_, _, rfl, rfl, ⟨_, _, rfl, ⟨_, _, rfl, rfl, ⟨_, _, rfl, rfl, rfl⟩⟩, ⟨_, _, rfl, ⟨_, _, rfl, rfl, ⟨_, _, rfl, rfl, rfl⟩⟩, ⟨_, _, rfl, ⟨_, _, rfl, rfl, ⟨_, _, rfl, rfl, rfl⟩⟩, rfl⟩⟩⟩⟩, rfl⟩) (fun b13 => ?_)
        refine rStore (R := rApiChunk) (R' := rApiChunk) (a := (ApiChunk.mk 0 (ApiSpan.mk 0 0) (ApiSpan.mk 0 0) (ApiSpan.mk 0 0))) (y := x12) 1 Tryz.sizeOf71 (Upd.refl _) ?_
        refine W_join (fun e C => ∃ (x15 : List UInt8), ∃ (x17 : List UInt8), ∃ (x19 : List UInt8), ∃ (b20 : Nat), weave_parts_j7 x12 x7 x6 x15 x17 x19 = some w2l ∧ At [(0, Pr.lst Rp.str x1), (1, Pr.lst Rp.str x2), (2, Pr.lst Rp.str x3), (7, Pr.is v5), (9, Pr.pt b13 0), (10, Pr.pt b20 0), (16, Pr.lst rApiChunk x4), (17, Pr.i64 (x4.length : Int)), (18, Pr.i64 x6)] [Own.vec v5 rApiPart x7 95, Own.box b13 rApiChunk x12, Own.box b20 rApiPart (ApiPart.mk (x12.Kind == 4) x15 x17 x19)] e C) ?_ ?_
        · rintro e C ⟨x15, x17, x19, b20, h2l, hat7⟩
          refine W_at hat7 ?_
          clear hat7
          unfold weave_parts_j7 at h2l
          refine W_join (fun e C => ∃ (x23 : ApiPart), weave_parts_j6 x7 x6 x12 x23 = some w2l ∧ At [(0, Pr.lst Rp.str x1), (1, Pr.lst Rp.str x2), (2, Pr.lst Rp.str x3), (7, Pr.is v5), (10, Pr.pt b20 0), (16, Pr.lst rApiChunk x4), (17, Pr.i64 (x4.length : Int)), (18, Pr.i64 x6)] [Own.vec v5 rApiPart x7 95, Own.box b13 rApiChunk x12, Own.box b20 rApiPart x23] e C) ?_ ?_
          · rintro e C ⟨x23, h2l, hat6⟩
            refine W_at hat6 ?_
            clear hat6
            unfold weave_parts_j6 at h2l
            refine W_seq ?_
            refine W_rs ?_
            refine rq (out := Pr.is v5) qMove ?_
            refine rq (out := Pr.i64 (x7.length : Int)) (qLenV 0 rfl Tryz.underlying80) ?_
            refine rq (out := Pr.i64 (x7.length : Int)) qAssign ?_
            refine W_join (fun e C => ∃ (x29 : Bool), weave_parts_j5 x7 x23 x6 x12 x29 = some w2l ∧ At [(0, Pr.lst Rp.str x1), (1, Pr.lst Rp.str x2), (2, Pr.lst Rp.str x3), (7, Pr.is v5), (10, Pr.pt b20 0), (11, Pr.i64 (x7.length : Int)), (16, Pr.lst rApiChunk x4), (17, Pr.i64 (x4.length : Int)), (18, Pr.i64 x6), (82, Pr.bool x29)] [Own.vec v5 rApiPart x7 95, Own.box b13 rApiChunk x12, Own.box b20 rApiPart x23] e C) ?_ ?_
            · rintro e C ⟨x29, h2l, hat5⟩
              refine W_at hat5 ?_
              clear hat5
              unfold weave_parts_j5 at h2l
              refine W_cond (b := x29) rfl (fun hc30 => ?_) (fun hc30 => ?_)
              · replace h2l := iteT hc30 h2l
                refine W_rs ?_
                refine rq (out := Pr.is v5) qMove ?_
                refine rq (out := Pr.i64 (x7.length : Int)) qMove ?_
                refine rq (out := Pr.i64 (w64 ((x7.length : Int) - 1))) qInt ?_
                obtain ⟨x31, hx31, h2l⟩ := bindSome h2l
                refine rq (out := Pr.vpt v5 (Int.toNat (w64 ((x7.length : Int) - 1)) * (rApiPart).size)) (qIdxV 0 (R := rApiPart) (l := x7) Tryz.underlying80 Tryz.sizeOf95 hx31) ?_
                refine rq (out := Pr.vpt v5 (Int.toNat (w64 ((x7.length : Int) - 1)) * (rApiPart).size)) qAssign ?_
                refine W_join (fun e C => ∃ (x32 : List UInt8), ∃ (x33 : List UInt8), ∃ (x34 : List UInt8), weave_parts_j4 x6 x7 x31 x12 x23 x32 x33 x34 = some w2l ∧ At [(0, Pr.lst Rp.str x1), (1, Pr.lst Rp.str x2), (2, Pr.lst Rp.str x3), (7, Pr.is v5), (16, Pr.lst rApiChunk x4), (17, Pr.i64 (x4.length : Int)), (18, Pr.i64 x6)] [Own.vec v5 rApiPart (List.set x7 (Int.toNat (w64 ((x7.length : Int) - 1))) (ApiPart.mk x31.Clash x32 x33 x34)) 95, Own.box b13 rApiChunk x12, Own.box b20 rApiPart x23] e C) ?_ ?_
                · rintro e C ⟨x32, x33, x34, h2l, hat4⟩
                  refine W_at hat4 ?_
                  clear hat4
                  unfold weave_parts_j4 at h2l
                  refine W_exit ?_
                  exact ⟨(List.set x7 (Int.toNat (w64 ((x7.length : Int) - 1))) (ApiPart.mk x31.Clash x32 x33 x34)), x12, x23, v5, b13, b20, h2l, ⟨⟨Pr.le_rfl, Pr.le_rfl, Pr.le_rfl, Pr.le_rfl, Pr.le_rfl, Pr.le_rfl, Pr.le_rfl, trivial⟩, Pick.refl _⟩⟩
                · obtain ⟨x32, hx32, h2l⟩ := bindSome h2l
                  obtain ⟨x33, hx33, h2l⟩ := bindSome h2l
                  obtain ⟨x34, hx34, h2l⟩ := bindSome h2l
                  refine W_drawG 0 (fun B S => [Own.vec v5 rApiPart (List.set x7 (Int.toNat (w64 ((x7.length : Int) - 1))) (ApiPart.mk x31.Clash (cond (S 26) x32 x31.O) (cond (S 29) x33 x31.A) (cond (S 32) x34 x31.B))) 95, Own.box b13 rApiChunk x12, Own.box b20 rApiPart x23]) (fun B => [Own.vec v5 rApiPart (List.set x7 (Int.toNat (w64 ((x7.length : Int) - 1))) (ApiPart.mk x31.Clash x32 x33 x34)) 95, Own.box b13 rApiChunk x12, Own.box b20 rApiPart x23]) [Pr.vpt v5 (Int.toNat (w64 ((x7.length : Int) - 1)) * (rApiPart).size), Pr.vpt v5 (Int.toNat (w64 ((x7.length : Int) - 1)) * (rApiPart).size), Pr.vpt v5 (Int.toNat (w64 ((x7.length : Int) - 1)) * (rApiPart).size), Pr.vpt v5 (Int.toNat (w64 ((x7.length : Int) - 1)) * (rApiPart).size), Pr.vpt v5 (Int.toNat (w64 ((x7.length : Int) - 1)) * (rApiPart).size), Pr.vpt v5 ((Int.toNat (w64 ((x7.length : Int) - 1)) * (rApiPart).size) + 1), Pr.str x31.O, Pr.pt b20 1, Pr.str x23.O, Pr.str x32, Pr.vpt v5 (Int.toNat (w64 ((x7.length : Int) - 1)) * (rApiPart).size), Pr.vpt v5 (Int.toNat (w64 ((x7.length : Int) - 1)) * (rApiPart).size), Pr.vpt v5 ((Int.toNat (w64 ((x7.length : Int) - 1)) * (rApiPart).size) + 2), Pr.str x31.A, Pr.pt b20 2, Pr.str x23.A, Pr.str x33, Pr.vpt v5 (Int.toNat (w64 ((x7.length : Int) - 1)) * (rApiPart).size), Pr.vpt v5 (Int.toNat (w64 ((x7.length : Int) - 1)) * (rApiPart).size), Pr.vpt v5 ((Int.toNat (w64 ((x7.length : Int) - 1)) * (rApiPart).size) + 3), Pr.str x31.B, Pr.pt b20 3, Pr.str x23.B, Pr.str x34, Pr.vpt v5 (Int.toNat (w64 ((x7.length : Int) - 1)) * (rApiPart).size), Pr.vpt v5 ((Int.toNat (w64 ((x7.length : Int) - 1)) * (rApiPart).size) + 1), .any, Pr.vpt v5 (Int.toNat (w64 ((x7.length : Int) - 1)) * (rApiPart).size), Pr.vpt v5 ((Int.toNat (w64 ((x7.length : Int) - 1)) * (rApiPart).size) + 2), .any, Pr.vpt v5 (Int.toNat (w64 ((x7.length : Int) - 1)) * (rApiPart).size), Pr.vpt v5 ((Int.toNat (w64 ((x7.length : Int) - 1)) * (rApiPart).size) + 3), .any] (fun k => ([0, 0, 0, 0, 0, 0, 0, 0, 0, 0, 0, 0, 0, 0, 0, 0, 0, 0, 0, 0, 0, 0, 0, 0, 0, 0, 1, 0, 0, 1, 0, 0, 1] : List Nat).getD k 0) hmx (by kernel_rfl) (by kernel_rfl) (fun B => congrArg (fun L => ([Own.vec v5 rApiPart L 95, Own.box b13 rApiChunk x12, Own.box b20 rApiPart x23] : Ctx)) (set_idx hx31)) (fun B S S' h => by show ([Own.vec v5 rApiPart (List.set x7 (Int.toNat (w64 ((x7.length : Int) - 1))) (ApiPart.mk x31.Clash (cond (S 26) x32 x31.O) (cond (S 29) x33 x31.A) (cond (S 32) x34 x31.B))) 95, Own.box b13 rApiChunk x12, Own.box b20 rApiPart x23] : Ctx) = [Own.vec v5 rApiPart (List.set x7 (Int.toNat (w64 ((x7.length : Int) - 1))) (ApiPart.mk x31.Clash (cond (S' 26) x32 x31.O) (cond (S' 29) x33 x31.A) (cond (S' 32) x34 x31.B))) 95, Own.box b13 rApiChunk x12, Own.box b20 rApiPart x23]; simp only [h 26 (Nat.le_of_ble_eq_true (by kernel_rfl)), h 29 (Nat.le_of_ble_eq_true (by kernel_rfl)), h 32 (Nat.le_of_ble_eq_true (by kernel_rfl))]) (fun _ => rfl) (fun B => ?_)
                  refine gq1 (fun S hK => qMove) ?_
                  refine gq1 (fun S hK => qMove) ?_
                  refine gq1 (fun S hK => qMove) ?_
                  refine gq1 (fun S hK => qMove) ?_
                  refine gq1 (fun S hK => qNilV) ?_
                  refine gq1 (fun S hK => (qFieldV fld95_1)) ?_
                  refine gq1 (fun S hK => (qLoadV (R := rApiPart) (R' := Rp.str) (l := (List.set x7 (Int.toNat (w64 ((x7.length : Int) - 1))) (ApiPart.mk x31.Clash (cond (S 26) x32 x31.O) (cond (S 29) x33 x31.A) (cond (S 32) x34 x31.B)))) (a := (ApiPart.mk x31.Clash (cond (S 26) x32 x31.O) (cond (S 29) x33 x31.A) (cond (S 32) x34 x31.B))) (o := 1) 0 ty9 subApiPart_O (Nat.le_of_ble_eq_true rfl) (idx_set hx31 _) rfl).as (congrArg Pr.str (condF (hK.F 26 (by kernel_rfl)) _ _))) ?_
                  refine gq1 (fun S hK => (qFieldP fld95_1)) ?_
                  refine gq1 (fun S hK => (qLoad (R := rApiPart) (a := x23) (R' := Rp.str) 2 ty9 subApiPart_O (hi := rfl))) ?_
                  refine gq1 (fun S hK => (qCat' hx32)) ?_
                  refine gq1 (fun S hK => qMove) ?_
                  refine gq1 (fun S hK => qNilV) ?_
                  refine gq1 (fun S hK => (qFieldV fld95_2)) ?_
                  refine gq1 (fun S hK => (qLoadV (R := rApiPart) (R' := Rp.str) (l := (List.set x7 (Int.toNat (w64 ((x7.length : Int) - 1))) (ApiPart.mk x31.Clash (cond (S 26) x32 x31.O) (cond (S 29) x33 x31.A) (cond (S 32) x34 x31.B)))) (a := (ApiPart.mk x31.Clash (cond (S 26) x32 x31.O) (cond (S 29) x33 x31.A) (cond (S 32) x34 x31.B))) (o := 2) 0 ty9 subApiPart_A (Nat.le_of_ble_eq_true rfl) (idx_set hx31 _) rfl).as (congrArg Pr.str (condF (hK.F 29 (by kernel_rfl)) _ _))) ?_
                  refine gq1 (fun S hK => (qFieldP fld95_2)) ?_
                  refine gq1 (fun S hK => (qLoad (R := rApiPart) (a := x23) (R' := Rp.str) 2 ty9 subApiPart_A (hi := rfl))) ?_
                  refine gq1 (fun S hK => (qCat' hx33)) ?_
                  refine gq1 (fun S hK => qMove) ?_
                  refine gq1 (fun S hK => qNilV) ?_
                  refine gq1 (fun S hK => (qFieldV fld95_3)) ?_
                  refine gq1 (fun S hK => (qLoadV (R := rApiPart) (R' := Rp.str) (l := (List.set x7 (Int.toNat (w64 ((x7.length : Int) - 1))) (ApiPart.mk x31.Clash (cond (S 26) x32 x31.O) (cond (S 29) x33 x31.A) (cond (S 32) x34 x31.B)))) (a := (ApiPart.mk x31.Clash (cond (S 26) x32 x31.O) (cond (S 29) x33 x31.A) (cond (S 32) x34 x31.B))) (o := 3) 0 ty9 subApiPart_B (Nat.le_of_ble_eq_true rfl) (idx_set hx31 _) rfl).as (congrArg Pr.str (condF (hK.F 32 (by kernel_rfl)) _ _))) ?_
                  refine gq1 (fun S hK => (qFieldP fld95_3)) ?_
                  refine gq1 (fun S hK => (qLoad (R := rApiPart) (a := x23) (R' := Rp.str) 2 ty9 subApiPart_B (hi := rfl))) ?_
                  refine gq1 (fun S hK => (qCat' hx34)) ?_
                  refine gq1 (fun S hK => qNilV) ?_
                  refine gq1 (fun S hK => (qFieldV fld95_1)) ?_
                  refine gqS (fun S hK => SStep.as (sStoreE (R := rApiPart) (R' := Rp.str) (l := (List.set x7 (Int.toNat (w64 ((x7.length : Int) - 1))) (ApiPart.mk x31.Clash (cond (S 26) x32 x31.O) (cond (S 29) x33 x31.A) (cond (S 32) x34 x31.B)))) (a := (ApiPart.mk x31.Clash (cond (S 26) x32 x31.O) (cond (S 29) x33 x31.A) (cond (S 32) x34 x31.B))) (y := x32) (o := 1) 0 Tryz.sizeOf9 updApiPart_O (idx_set hx31 _) rfl) (congrArg (fun L => ([Own.vec v5 rApiPart L 95, Own.box b13 rApiChunk x12, Own.box b20 rApiPart x23] : Ctx)) (List.set_set ..))) ?_
                  refine gq1 (fun S hK => qNilV) ?_
                  refine gq1 (fun S hK => (qFieldV fld95_2)) ?_
                  refine gqS (fun S hK => SStep.as (sStoreE (R := rApiPart) (R' := Rp.str) (l := (List.set x7 (Int.toNat (w64 ((x7.length : Int) - 1))) (ApiPart.mk x31.Clash (cond (S 26) x32 x31.O) (cond (S 29) x33 x31.A) (cond (S 32) x34 x31.B)))) (a := (ApiPart.mk x31.Clash (cond (S 26) x32 x31.O) (cond (S 29) x33 x31.A) (cond (S 32) x34 x31.B))) (y := x33) (o := 2) 0 Tryz.sizeOf9 updApiPart_A (idx_set hx31 _) rfl) (congrArg (fun L => ([Own.vec v5 rApiPart L 95, Own.box b13 rApiChunk x12, Own.box b20 rApiPart x23] : Ctx)) (List.set_set ..))) ?_
                  refine gq1 (fun S hK => qNilV) ?_
                  refine gq1 (fun S hK => (qFieldV fld95_3)) ?_
                  refine gqS (fun S hK => SStep.as (sStoreE (R := rApiPart) (R' := Rp.str) (l := (List.set x7 (Int.toNat (w64 ((x7.length : Int) - 1))) (ApiPart.mk x31.Clash (cond (S 26) x32 x31.O) (cond (S 29) x33 x31.A) (cond (S 32) x34 x31.B)))) (a := (ApiPart.mk x31.Clash (cond (S 26) x32 x31.O) (cond (S 29) x33 x31.A) (cond (S 32) x34 x31.B))) (y := x34) (o := 3) 0 Tryz.sizeOf9 updApiPart_B (idx_set hx31 _) rfl) (congrArg (fun L => ([Own.vec v5 rApiPart L 95, Own.box b13 rApiChunk x12, Own.box b20 rApiPart x23] : Ctx)) (List.set_set ..))) ?_
                  exact ⟨x32, x33, x34, h2l, ⟨⟨Pr.le_rfl, Pr.le_rfl, Pr.le_rfl, Pr.le_rfl, Pr.le_rfl, Pr.le_rfl, Pr.le_rfl, trivial⟩, Pick.refl _⟩⟩
              · replace h2l := iteF hc30 h2l
                refine W_skip ?_
                refine W_r ?_
                refine rq (out := Pr.is v5) qMove ?_
                refine rq (out := (rApiPart).val x23) (qLoad (R := rApiPart) (a := x23) (R' := rApiPart) 2 ty95 (Sub.refl _)) ?_
                refine rq (out := Pr.lst rApiPart ([x23] : List ApiPart)) (qBuildSlice1 (R := rApiPart) (a := x23) el80 (Nat.le_of_ble_eq_true rfl)) ?_
                obtain ⟨x35, hx35, h2l⟩ := bindSome h2l
                refine rAppend' 0 el80 hx35 (fun v36 => ?_)
                refine rq (out := Pr.is v36) qAssign ?_
                exact ⟨x35, x12, x23, v36, b13, b20, h2l, ⟨⟨Pr.le_rfl, Pr.le_rfl, Pr.le_rfl, Pr.le_rfl, Pr.le_rfl, Pr.le_rfl, Pr.le_rfl, trivial⟩, Pick.refl _⟩⟩
            · refine W_r ?_
              refine rq (out := Pr.pt b20 0) (qFieldP fld95_0) ?_
              refine rq (out := Pr.bool x23.Clash) (qLoad (R := rApiPart) (a := x23) (R' := Rp.bool) 2 ty4 subApiPart_Clash) ?_
              refine rq (out := Pr.bool (!x23.Clash)) qNot ?_
              refine rq (out := Pr.bool (!x23.Clash)) qMove ?_
              rcases iteSome h2l with ⟨hc24, h2l⟩ | ⟨hc24, h2l⟩
              · refine rqg hc24 (out := Pr.i64 (x7.length : Int)) qMove ?_
                refine rqg hc24 (out := Pr.bool (decide ((x7.length : Int) > 0))) qInt ?_
                refine rq (out := Pr.bool (decide ((x7.length : Int) > 0))) (qPickT hc24) ?_
                refine rq (out := Pr.bool (decide ((x7.length : Int) > 0))) qMove ?_
                rcases iteSome h2l with ⟨hc25, h2l⟩ | ⟨hc25, h2l⟩
                · refine rqg hc25 (out := Pr.is v5) qMove ?_
                  refine rqg hc25 (out := Pr.i64 (x7.length : Int)) qMove ?_
                  refine rqg hc25 (out := Pr.i64 (w64 ((x7.length : Int) - 1))) qInt ?_
                  obtain ⟨x26, hx26, h2l⟩ := bindSome h2l
                  refine rqg hc25 (out := Pr.vpt v5 (Int.toNat (w64 ((x7.length : Int) - 1)) * (rApiPart).size)) (qIdxV 0 (R := rApiPart) (l := x7) Tryz.underlying80 Tryz.sizeOf95 hx26) ?_
                  refine rqg hc25 (out := Pr.vpt v5 ((Int.toNat (w64 ((x7.length : Int) - 1)) * (rApiPart).size) + 0)) (qFieldV fld95_0) ?_
                  refine rqg hc25 (out := Pr.bool x26.Clash) (qLoadV (R := rApiPart) (R' := Rp.bool) (l := x7) (a := x26) (o := 0) 0 ty4 subApiPart_Clash (Nat.le_of_ble_eq_true rfl) hx26 rfl) ?_
                  refine rqg hc25 (out := Pr.bool (!x26.Clash)) qNot ?_
                  refine rq (out := Pr.bool (!x26.Clash)) (qPickT hc25) ?_
                  exact ⟨!x26.Clash, h2l, ⟨⟨Pr.le_rfl, Pr.le_rfl, Pr.le_rfl, Pr.le_rfl, Pr.le_rfl, Pr.le_rfl, Pr.le_rfl, Pr.le_rfl, Pr.le_rfl, Pr.le_rfl, trivial⟩, Pick.refl _⟩⟩
                · refine rno (neT hc25) ?_
                  refine rno (neT hc25) ?_
                  refine rno (neT hc25) ?_
                  refine rno (neT hc25) ?_
                  refine rno (neT hc25) ?_
                  refine rno (neT hc25) ?_
                  refine rno (neT hc25) ?_
                  refine rq (out := Pr.bool false) (qPickF hc25) ?_
                  exact ⟨false, h2l, ⟨⟨Pr.le_rfl, Pr.le_rfl, Pr.le_rfl, Pr.le_rfl, Pr.le_rfl, Pr.le_rfl, Pr.le_rfl, Pr.le_rfl, Pr.le_rfl, Pr.le_rfl, trivial⟩, Pick.refl _⟩⟩
              · refine rno (neT hc24) ?_
                refine rno (neT hc24) ?_
                refine rq (out := Pr.bool false) (qPickF hc24) ?_
                refine rq (out := Pr.bool false) qMove ?_
                have hc27 : false = false := rfl
                refine rno (neT hc27) ?_
                refine rno (neT hc27) ?_
                refine rno (neT hc27) ?_
                refine rno (neT hc27) ?_
                refine rno (neT hc27) ?_
                refine rno (neT hc27) ?_
                refine rno (neT hc27) ?_
                refine rq (out := Pr.bool false) (qPickF hc27) ?_
                exact ⟨false, h2l, ⟨⟨Pr.le_rfl, Pr.le_rfl, Pr.le_rfl, Pr.le_rfl, Pr.le_rfl, Pr.le_rfl, Pr.le_rfl, Pr.le_rfl, Pr.le_rfl, Pr.le_rfl, trivial⟩, Pick.refl _⟩⟩
          · refine W_rs ?_
            refine rq (out := Pr.pt b13 0) (qFieldP fld71_0) ?_
            refine rq (out := Pr.i64 x12.Kind) (qLoad (R := rApiChunk) (a := x12) (R' := Rp.int .i64) 1 ty3 subApiChunk_Kind) ?_
            refine W_block ?_
            refine W_rs ?_
            refine rq (out := Pr.bool (x12.Kind == 4)) qInt ?_
            refine rq (out := Pr.bool (x12.Kind == 4)) qAssign ?_
            refine W_cond (b := x12.Kind == 4) rfl (fun hc21 => ?_) (fun hc21 => ?_)
            · replace h2l := iteT hc21 h2l
              refine W_skip ?_
              exact ⟨(ApiPart.mk (x12.Kind == 4) x15 x17 x19), h2l, ⟨⟨Pr.le_rfl, Pr.le_rfl, Pr.le_rfl, Pr.le_rfl, Pr.le_rfl, Pr.le_rfl, Pr.le_rfl, Pr.le_rfl, trivial⟩, Pick.refl _⟩⟩
            · replace h2l := iteF hc21 h2l
              refine W_rs ?_
              refine rq (out := Pr.bool (x12.Kind == 2)) qInt ?_
              refine rq (out := Pr.bool (x12.Kind == 2)) qAssign ?_
              refine W_cond (b := x12.Kind == 2) rfl (fun hc22 => ?_) (fun hc22 => ?_)
              · replace h2l := iteT hc22 h2l
                refine W_r ?_
                refine rq (out := Pr.pt b20 3) (qFieldP fld95_3) ?_
                refine rq (out := Pr.str ((ApiPart.mk (x12.Kind == 4) x15 x17 x19).B)) (qLoad (R := rApiPart) (a := (ApiPart.mk (x12.Kind == 4) x15 x17 x19)) (R' := Rp.str) 2 ty9 subApiPart_B) ?_
                refine rq (out := Pr.pt b20 2) (qFieldP fld95_2) ?_
                refine rStore (R := rApiPart) (R' := Rp.str) (a := (ApiPart.mk (x12.Kind == 4) x15 x17 x19)) (y := (ApiPart.mk (x12.Kind == 4) x15 x17 x19).B) 2 Tryz.sizeOf9 updApiPart_A ?_
                exact ⟨{ (ApiPart.mk (x12.Kind == 4) x15 x17 x19) with A := (ApiPart.mk (x12.Kind == 4) x15 x17 x19).B }, h2l, ⟨⟨Pr.le_rfl, Pr.le_rfl, Pr.le_rfl, Pr.le_rfl, Pr.le_rfl, Pr.le_rfl, Pr.le_rfl, Pr.le_rfl, trivial⟩, Pick.refl _⟩⟩
              · replace h2l := iteF hc22 h2l
                refine W_r ?_
                refine rq (out := Pr.pt b20 2) (qFieldP fld95_2) ?_
                refine rq (out := Pr.str ((ApiPart.mk (x12.Kind == 4) x15 x17 x19).A)) (qLoad (R := rApiPart) (a := (ApiPart.mk (x12.Kind == 4) x15 x17 x19)) (R' := Rp.str) 2 ty9 subApiPart_A) ?_
                refine rq (out := Pr.pt b20 3) (qFieldP fld95_3) ?_
                refine rStore (R := rApiPart) (R' := Rp.str) (a := (ApiPart.mk (x12.Kind == 4) x15 x17 x19)) (y := (ApiPart.mk (x12.Kind == 4) x15 x17 x19).A) 2 Tryz.sizeOf9 updApiPart_B ?_
                exact ⟨{ (ApiPart.mk (x12.Kind == 4) x15 x17 x19) with B := (ApiPart.mk (x12.Kind == 4) x15 x17 x19).A }, h2l, ⟨⟨Pr.le_rfl, Pr.le_rfl, Pr.le_rfl, Pr.le_rfl, Pr.le_rfl, Pr.le_rfl, Pr.le_rfl, Pr.le_rfl, trivial⟩, Pick.refl _⟩⟩
        · obtain ⟨x14, hx14, h2l⟩ := bindSome h2l
          obtain ⟨x15, hx15, h2l⟩ := bindSome h2l
          obtain ⟨x16, hx16, h2l⟩ := bindSome h2l
          obtain ⟨x17, hx17, h2l⟩ := bindSome h2l
          obtain ⟨x18, hx18, h2l⟩ := bindSome h2l
          obtain ⟨x19, hx19, h2l⟩ := bindSome h2l
          refine W_drawG 1 (fun B S => [Own.vec v5 rApiPart x7 95, Own.box b13 rApiChunk x12, (cond (S 32) (Own.box (B 31) rApiPart (ApiPart.mk (x12.Kind == 4) x15 x17 x19)) (cond (S 31) (Own.box (B 31) rApiPart (ApiPart.mk false [] [] [])) Own.nil))]) (fun B => [Own.vec v5 rApiPart x7 95, Own.box b13 rApiChunk x12, Own.box (B 31) rApiPart (ApiPart.mk (x12.Kind == 4) x15 x17 x19)]) [Pr.pt b13 0, Pr.i64 x12.Kind, Pr.bool (x12.Kind == 4), Pr.lst Rp.str x1, Pr.pt b13 1, Pr.pt b13 1, Pr.i64 x12.O.From, Pr.pt b13 1, Pr.pt b13 2, Pr.i64 x12.O.To, Pr.lst Rp.str x14, Pr.str x15, Pr.lst Rp.str x2, Pr.pt b13 3, Pr.pt b13 3, Pr.i64 x12.A.From, Pr.pt b13 3, Pr.pt b13 4, Pr.i64 x12.A.To, Pr.lst Rp.str x16, Pr.str x17, Pr.lst Rp.str x3, Pr.pt b13 5, Pr.pt b13 5, Pr.i64 x12.B.From, Pr.pt b13 5, Pr.pt b13 6, Pr.i64 x12.B.To, Pr.lst Rp.str x18, Pr.str x19, (rApiPart).val (ApiPart.mk (x12.Kind == 4) x15 x17 x19), .any, .any] (fun k => ([0, 0, 0, 0, 0, 0, 0, 0, 0, 0, 0, 0, 0, 0, 0, 0, 0, 0, 0, 0, 0, 0, 0, 0, 0, 0, 0, 0, 0, 0, 0, 2, 1] : List Nat).getD k 0) hmx (by kernel_rfl) (by kernel_rfl) (fun _ => rfl) (fun B S S' h => by show ([Own.vec v5 rApiPart x7 95, Own.box b13 rApiChunk x12, (cond (S 32) (Own.box (B 31) rApiPart (ApiPart.mk (x12.Kind == 4) x15 x17 x19)) (cond (S 31) (Own.box (B 31) rApiPart (ApiPart.mk false [] [] [])) Own.nil))] : Ctx) = [Own.vec v5 rApiPart x7 95, Own.box b13 rApiChunk x12, (cond (S' 32) (Own.box (B 31) rApiPart (ApiPart.mk (x12.Kind == 4) x15 x17 x19)) (cond (S' 31) (Own.box (B 31) rApiPart (ApiPart.mk false [] [] [])) Own.nil))]; simp only [h 31 (Nat.le_of_ble_eq_true (by kernel_rfl)), h 32 (Nat.le_of_ble_eq_true (by kernel_rfl))]) (fun _ => rfl) (fun B => ?_)
          refine gq1 (fun S hK => (qFieldP fld71_0)) ?_
          refine gq1 (fun S hK => (qLoad (R := rApiChunk) (a := x12) (R' := Rp.int .i64) 1 ty3 subApiChunk_Kind (hi := rfl))) ?_
          refine gq1 (fun S hK => qInt) ?_
          refine gq1 (fun S hK => qMove) ?_
          refine gq1 (fun S hK => (qFieldP fld71_1)) ?_
          refine gq1 (fun S hK => (qFieldP fld69_0)) ?_
          refine gq1 (fun S hK => (qLoad (R := rApiChunk) (a := x12) (R' := Rp.int .i64) 1 ty3 (subApiChunk_O.trans subApiSpan_From (Nat.le_of_ble_eq_true rfl)) (hi := rfl))) ?_
          refine gq1 (fun S hK => (qFieldP fld71_1)) ?_
          refine gq1 (fun S hK => (qFieldP fld69_1)) ?_
          refine gq1 (fun S hK => (qLoad (R := rApiChunk) (a := x12) (R' := Rp.int .i64) 1 ty3 (subApiChunk_O.trans subApiSpan_To (Nat.le_of_ble_eq_true rfl)) (hi := rfl))) ?_
          refine gq1 (fun S hK => (qLSubLH Tryz.underlying33 Tryz.sizeOf9 hx14)) ?_
          refine gq1 (fun S hK => (qCall (strings_Join_ok x14 [] _ hx15))) ?_
          refine gq1 (fun S hK => qMove) ?_
          refine gq1 (fun S hK => (qFieldP fld71_2)) ?_
          refine gq1 (fun S hK => (qFieldP fld69_0)) ?_
          refine gq1 (fun S hK => (qLoad (R := rApiChunk) (a := x12) (R' := Rp.int .i64) 1 ty3 (subApiChunk_A.trans subApiSpan_From (Nat.le_of_ble_eq_true rfl)) (hi := rfl))) ?_
          refine gq1 (fun S hK => (qFieldP fld71_2)) ?_
          refine gq1 (fun S hK => (qFieldP fld69_1)) ?_
          refine gq1 (fun S hK => (qLoad (R := rApiChunk) (a := x12) (R' := Rp.int .i64) 1 ty3 (subApiChunk_A.trans subApiSpan_To (Nat.le_of_ble_eq_true rfl)) (hi := rfl))) ?_
          refine gq1 (fun S hK => (qLSubLH Tryz.underlying33 Tryz.sizeOf9 hx16)) ?_
          refine gq1 (fun S hK => (qCall (strings_Join_ok x16 [] _ hx17))) ?_
          refine gq1 (fun S hK => qMove) ?_
          refine gq1 (fun S hK => (qFieldP fld71_3)) ?_
          refine gq1 (fun S hK => (qFieldP fld69_0)) ?_
          refine gq1 (fun S hK => (qLoad (R := rApiChunk) (a := x12) (R' := Rp.int .i64) 1 ty3 (subApiChunk_B.trans subApiSpan_From (Nat.le_of_ble_eq_true rfl)) (hi := rfl))) ?_
          refine gq1 (fun S hK => (qFieldP fld71_3)) ?_
          refine gq1 (fun S hK => (qFieldP fld69_1)) ?_
          refine gq1 (fun S hK => (qLoad (R := rApiChunk) (a := x12) (R' := Rp.int .i64) 1 ty3 (subApiChunk_B.trans subApiSpan_To (Nat.le_of_ble_eq_true rfl)) (hi := rfl))) ?_
          refine gq1 (fun S hK => (qLSubLH Tryz.underlying33 Tryz.sizeOf9 hx18)) ?_
          refine gq1 (fun S hK => (qCall (strings_Join_ok x18 [] _ hx19))) ?_
          refine gq1 (fun S hK => (qBuild st95 ⟨(ApiPart.mk (x12.Kind == 4) [] [] []), ⟨_, rfl, rfl, fun j fd hj hf => by match j, hj with | 0, h => exact absurd rfl h | 1, _ => cases hf; rfl | 2, _ => cases hf; rfl | 3, _ => cases hf; rfl | _ + 4, _ => cases hf⟩, ⟨(ApiPart.mk (x12.Kind == 4) x15 [] []), ⟨_, rfl, rfl, fun j fd hj hf => by match j, hj with | 0, _ => cases hf; rfl | 1, h => exact absurd rfl h | 2, _ => cases hf; rfl | 3, _ => cases hf; rfl | _ + 4, _ => cases hf⟩, ⟨(ApiPart.mk (x12.Kind == 4) x15 x17 []), ⟨_, rfl, rfl, fun j fd hj hf => by match j, hj with | 0, _ => cases hf; rfl | 1, _ => cases hf; rfl | 2, h => exact absurd rfl h | 3, _ => cases hf; rfl | _ + 4, _ => cases hf⟩, ⟨(ApiPart.mk (x12.Kind == 4) x15 x17 x19), ⟨_, rfl, rfl, fun j fd hj hf => by match j, hj with | 0, _ => cases hf; rfl | 1, _ => cases hf; rfl | 2, _ => cases hf; rfl | 3, h => exact absurd rfl h | _ + 4, _ => cases hf⟩, rfl⟩⟩⟩⟩)) ?_
          refine gqA (fun S hK => ⟨fun B' hB => by show ([Own.vec v5 rApiPart x7 95, Own.box b13 rApiChunk x12, (cond (S 32) (Own.box (B' 31) rApiPart (ApiPart.mk (x12.Kind == 4) x15 x17 x19)) (cond (S 31) (Own.box (B' 31) rApiPart (ApiPart.mk false [] [] [])) Own.nil))] : Ctx) = [Own.vec v5 rApiPart x7 95, Own.box b13 rApiChunk x12, (cond (S 32) (Own.box (B 31) rApiPart (ApiPart.mk (x12.Kind == 4) x15 x17 x19)) (cond (S 31) (Own.box (B 31) rApiPart (ApiPart.mk false [] [] [])) Own.nil))]; simp only [hK.me, hK.F 32 (by kernel_rfl), cond_false], fun s ρ hg _ => sAlloc (R := rApiPart) (z := (ApiPart.mk false [] [] [])) 2 Tryz.zeroValue95 (fun _ => ⟨_, ⟨_, _, rfl, rfl, ⟨_, _, rfl, rfl, ⟨_, _, rfl, rfl, ⟨_, _, rfl, rfl, rfl⟩⟩⟩⟩, rfl⟩) (congrArg some ((condF (hK.F 32 (by kernel_rfl)) _ _).trans (condF (hK.me) _ _))) (fun b => by show ([Own.vec v5 rApiPart x7 95, Own.box b13 rApiChunk x12, (cond (S 32) (Own.box b rApiPart (ApiPart.mk (x12.Kind == 4) x15 x17 x19)) (Own.box b rApiPart (ApiPart.mk false [] [] [])))] : Ctx) = _; rw [hK.F 32 (by kernel_rfl)]; rfl) s ρ hg⟩) ?_
          refine gqS (fun S hK => SStep.as (sStore (R := rApiPart) (R' := rApiPart) (a := (ApiPart.mk false [] [] [])) (y := (ApiPart.mk (x12.Kind == 4) x15 x17 x19)) 2 Tryz.sizeOf95 (Upd.refl _) (congrArg some ((condF (hK.me) _ _).trans (condT (hK.T 31 (by kernel_rfl)) _ _)))) (by show (_ : Ctx) = [Own.vec v5 rApiPart x7 95, Own.box b13 rApiChunk x12, Own.box (B 31) rApiPart (ApiPart.mk (x12.Kind == 4) x15 x17 x19)]; rfl)) ?_
          exact ⟨x15, x17, x19, (B 31), h2l, ⟨⟨Pr.le_rfl, Pr.le_rfl, Pr.le_rfl, Pr.le_rfl, Pr.le_rfl, Pr.le_rfl, Pr.le_rfl, Pr.le_rfl, Pr.le_rfl, trivial⟩, Pick.refl _⟩⟩
    · replace h2l := iteF hc11 h2l
      refine W_exit ?_
      obtain rfl := ho2 _ (Option.some.inj h2l).symm
      exact ⟨x7, v5, h, ⟨⟨Pr.le_rfl, trivial⟩, Pick.refl _⟩⟩
theorem weave_apart_ok (x1 : (Unit → Option ((List (List UInt8)) × Bool))) (x2 : (Unit → Option ((List (List UInt8)) × Bool))) (x3 : (Unit → Option ((List (List UInt8)) × Bool))) (r : (List ApiPart) × Bool) (h : weave_apart x1 x2 x3 = some r) : FnP Tryz.prog 68 [Pr.pfn Tryz.prog (spec101 x1), Pr.pfn Tryz.prog (spec101 x2), Pr.pfn Tryz.prog (spec101 x3)] (Pr.tup [Pr.lst rApiPart r.1, Pr.bool r.2]) := by
  refine fn_intro (n := 41) (rs := [6, 7]) Tryz.func68 rfl Tryz.ntmps68 ⟨by decide, Tryz.results68⟩ (by decide) (fun s0 => ?_)
  unfold weave_apart at h
  refine W_rs ?_
  refine rq (out := Pr.is (.slice none 0 0)) qAssign ?_
  refine rq (out := Pr.bool false) qAssign ?_
  refine W_rs ?_
  refine rAlloc (R := Rp.arr 3 (Rp.list Rp.str)) (z := (List.replicate 3 [])) Tryz.zeroValue34 (fun _ => ⟨_, ⟨rfl, ⟨[Value.slice none 0 0], _, rfl, ⟨_, rfl, none, 0, rfl, ⟨Nat.le_refl _, fun _ => rfl⟩, .inl rfl⟩, ⟨[Value.slice none 0 0], _, rfl, ⟨_, rfl, none, 0, rfl, ⟨Nat.le_refl _, fun _ => rfl⟩, .inl rfl⟩, ⟨[Value.slice none 0 0], _, rfl, ⟨_, rfl, none, 0, rfl, ⟨Nat.le_refl _, fun _ => rfl⟩, .inl rfl⟩, rfl⟩⟩⟩⟩, rfl⟩) (fun b4 => ?_)
  refine W_seq ?_
  refine W_rs ?_
  refine rq (out := Pr.pfn Tryz.prog (spec101 x1)) qMove ?_
  refine rq (out := Pr.pfn Tryz.prog (spec101 x2)) qMove ?_
  refine rq (out := Pr.pfn Tryz.prog (spec101 x3)) qMove ?_
  refine rq (out := Pr.lst (Rp.fn (fun x => Pr.pfn Tryz.prog (spec101 x)) pfn_one) ([x1, x2, x3] : List (Unit → Option ((List (List UInt8)) × Bool)))) (qBuildSlice (R := Rp.fn (fun x => Pr.pfn Tryz.prog (spec101 x)) pfn_one) (ls := ([x1, x2, x3] : List (Unit → Option ((List (List UInt8)) × Bool)))) el120 (Nat.le_of_ble_eq_true rfl) ⟨rfl, rfl⟩ ⟨rfl, rfl, rfl, trivial⟩) ?_
  refine rq (out := Pr.i64 (([x1, x2, x3] : List (Unit → Option ((List (List UInt8)) × Bool))).length : Int)) (qLenL rfl Tryz.underlying120) ?_
  refine rq (out := Pr.i64 0) qMove ?_
  refine W_block ?_
  obtain ⟨z2l, hz2, h⟩ := bindSome h
  obtain ⟨n2, hN2⟩ := iter_some hz2
  clear hz2
  refine W_after 0 (fun e C => ∃ (x6 : List (List (List UInt8))), weave_apart_k1 x6 = some r ∧ At [(8, Pr.pt b4 0)] [Own.box b4 (Rp.arr 3 (Rp.list Rp.str)) x6] e C) ?_ ?_
  · rintro e C ⟨x6, h, hat1⟩
    refine W_at hat1 ?_
    clear hat1
    unfold weave_apart_k1 at h
    refine W_rs ?_
    obtain ⟨x15, hx15, h⟩ := bindSome h
    refine rq (out := Pr.pt b4 (x15 * 1)) (qIdxP Tryz.underlying34 Tryz.sizeOf33 hx15) ?_
    refine rq (out := Pr.lst Rp.str (List.getD x6 x15 [])) (qLoad (R := Rp.arr 3 (Rp.list Rp.str)) (a := x6) (R' := Rp.list Rp.str) 0 ty33 (Sub.arr [] (arrIx_lt hx15))) ?_
    obtain ⟨x16, hx16, h⟩ := bindSome h
    refine rq (out := Pr.pt b4 (x16 * 1)) (qIdxP Tryz.underlying34 Tryz.sizeOf33 hx16) ?_
    refine rq (out := Pr.lst Rp.str (List.getD x6 x16 [])) (qLoad (R := Rp.arr 3 (Rp.list Rp.str)) (a := x6) (R' := Rp.list Rp.str) 0 ty33 (Sub.arr [] (arrIx_lt hx16))) ?_
    obtain ⟨x17, hx17, h⟩ := bindSome h
    refine rq (out := Pr.pt b4 (x17 * 1)) (qIdxP Tryz.underlying34 Tryz.sizeOf33 hx17) ?_
    refine rq (out := Pr.lst Rp.str (List.getD x6 x17 [])) (qLoad (R := Rp.arr 3 (Rp.list Rp.str)) (a := x6) (R' := Rp.list Rp.str) 0 ty33 (Sub.arr [] (arrIx_lt hx17))) ?_
    obtain ⟨x18, hx18, h⟩ := bindSome h
    refine rq (out := Pr.lst rApiPart x18) (qCall (weave_parts_ok (List.getD x6 x15 []) (List.getD x6 x16 []) (List.getD x6 x17 []) _ hx18)) ?_
    refine rq (out := Pr.lst rApiPart x18) qAssign ?_
    refine rq (out := Pr.bool true) qAssign ?_
    obtain rfl := Option.some.inj h
    exact W_ret ⟨rfl, Pr.le_rfl⟩
  · refine W_loop (fun m e C => ∃ (x5 : Int), ∃ (x6 : List (List (List UInt8))), IterN (fun s => weave_apart_l2 x1 x2 x3 s.1 s.2) m (x5, x6) = some z2l ∧ At [(8, Pr.pt b4 0), (16, Pr.lst (Rp.fn (fun x => Pr.pfn Tryz.prog (spec101 x)) pfn_one) ([x1, x2, x3] : List (Unit → Option ((List (List UInt8)) × Bool)))), (17, Pr.i64 (([x1, x2, x3] : List (Unit → Option ((List (List UInt8)) × Bool))).length : Int)), (18, Pr.i64 x5)] [Own.box b4 (Rp.arr 3 (Rp.list Rp.str)) x6] e C) n2 ⟨0, (List.replicate 3 []), hN2, ⟨⟨Pr.le_rfl, Pr.le_rfl, Pr.le_rfl, Pr.le_rfl, trivial⟩, Pick.refl _⟩⟩ ?_
    clear hN2
    rintro m e C ⟨x5, x6, hN2, hatl2⟩
    refine W_at hatl2 ?_
    clear hatl2
    obtain ⟨m2, w2l, rfl, h2l, hn2, ho2⟩ := iterN_some hN2
    clear hN2
    replace h2l : weave_apart_l2 x1 x2 x3 x5 x6 = some w2l := h2l
    unfold weave_apart_l2 at h2l
    refine W_rs ?_
    refine rq (out := Pr.bool (decide (x5 < (([x1, x2, x3] : List (Unit → Option ((List (List UInt8)) × Bool))).length : Int)))) qInt ?_
    refine W_seq ?_
    refine W_cond (b := decide (x5 < (([x1, x2, x3] : List (Unit → Option ((List (List UInt8)) × Bool))).length : Int))) rfl (fun hc9 => ?_) (fun hc9 => ?_)
    · replace h2l := iteT hc9 h2l
      refine W_skip ?_
      refine W_seq ?_
      refine W_block ?_
      refine W_rs ?_
      refine rq (out := Pr.i64 x5) qMove ?_
      obtain ⟨x10, hx10, h2l⟩ := bindSome h2l
      refine rq (out := Pr.cpt (Rp.fn (fun x => Pr.pfn Tryz.prog (spec101 x)) pfn_one) x10) (qIdxA (R := Rp.fn (fun x => Pr.pfn Tryz.prog (spec101 x)) pfn_one) (l := ([x1, x2, x3] : List (Unit → Option ((List (List UInt8)) × Bool)))) Tryz.underlying120 Tryz.sizeOf101 hx10) ?_
      refine rq (out := Pr.pfn Tryz.prog (spec101 x10)) (qLoadC (R := Rp.fn (fun x => Pr.pfn Tryz.prog (spec101 x)) pfn_one) (a := x10) ty101) ?_
      refine rq (out := Pr.i64 x5) qAssign ?_
      refine rq (out := Pr.pfn Tryz.prog (spec101 x10)) qAssign ?_
      refine W_rs ?_
      refine rq (out := Pr.pfn Tryz.prog (spec101 x10)) qMove ?_
      obtain ⟨⟨x11, x12⟩, hx11, h2l⟩ := bindSome h2l
      refine rq (out := Pr.tup [Pr.lst Rp.str x11, Pr.bool x12]) (qCallP (spec := spec101 x10) ⟨_, rfl, rfl, hx11⟩) ?_
      refine rq (out := Pr.tup [Pr.lst Rp.str x11, Pr.bool x12]) qMove ?_
      refine rq (out := Pr.lst Rp.str x11) qExtract ?_
      refine rq (out := Pr.bool x12) qExtract ?_
      refine rq (out := Pr.lst Rp.str x11) qAssign ?_
      refine rq (out := Pr.bool x12) qAssign ?_
      refine W_seq ?_
      refine W_rs ?_
      refine rq (out := Pr.bool x12) qMove ?_
      refine rq (out := Pr.bool (!x12)) qNot ?_
      refine W_cond (b := !x12) rfl (fun hc13 => ?_) (fun hc13 => ?_)
      · replace h2l := iteT hc13 h2l
        refine W_rs ?_
        refine rq (out := Pr.is (.slice none 0 0)) qAssign ?_
        refine rq (out := Pr.bool false) qAssign ?_
        obtain rfl := ho2 _ (Option.some.inj h2l).symm
        replace h : some ([], false) = some r := h
        obtain rfl := Option.some.inj h
        exact W_ret ⟨rfl, tup_le ⟨Pr.lst_nil _, Pr.le_rfl, trivial⟩⟩
      · replace h2l := iteF hc13 h2l
        refine W_skip ?_
        refine W_r ?_
        refine rq (out := Pr.i64 x5) qMove ?_
        refine rq (out := Pr.lst Rp.str x11) qMove ?_
        obtain ⟨x14, hx14, h2l⟩ := bindSome h2l
        refine rq (out := Pr.pt b4 (x14 * 1)) (qIdxP Tryz.underlying34 Tryz.sizeOf33 hx14) ?_
        refine rStore (R := Rp.arr 3 (Rp.list Rp.str)) (R' := Rp.list Rp.str) (a := x6) (y := x11) 0 Tryz.sizeOf33 (Upd.arr (arrIx_lt hx14)) ?_
        refine W_r ?_
        refine rq (out := Pr.i64 (w64 (x5 + 1))) qInt ?_
        refine rq (out := Pr.i64 (w64 (x5 + 1))) qMove ?_
        exact ⟨m2, Nat.lt_succ_self _, w64 (x5 + 1), (List.set x6 x14 x11), hn2 _ (Option.some.inj h2l).symm, ⟨⟨Pr.le_rfl, Pr.le_rfl, Pr.le_rfl, Pr.le_rfl, trivial⟩, Pick.refl _⟩⟩
    · replace h2l := iteF hc9 h2l
      refine W_exit ?_
      obtain rfl := ho2 _ (Option.some.inj h2l).symm
      exact ⟨x6, h, ⟨⟨Pr.le_rfl, trivial⟩, Pick.refl _⟩⟩
theorem weave_source_units_ok (x1 : List UInt8) (r : (List (List UInt8)) × Bool) (h : weave_source_units x1 = some r) : FnP Tryz.prog 69 [Pr.str x1] (Pr.tup [Pr.lst Rp.str r.1, Pr.bool r.2]) := by
  refine fn_intro (n := 34) (rs := [2, 3]) Tryz.func69 rfl Tryz.ntmps69 ⟨by decide, Tryz.results69⟩ (by decide) (fun s0 => ?_)
  unfold weave_source_units at h
  refine W_rs ?_
  refine rq (out := Pr.is (.slice none 0 0)) qAssign ?_
  refine rq (out := Pr.bool false) qAssign ?_
  refine W_rs ?_
  refine rq (out := Pr.str x1) qMove ?_
  obtain ⟨⟨x2, x3, x4⟩, hx2, h⟩ := bindSome h
  refine rq (out := Pr.tup [Pr.lst rApiToken x2, Pr.i64 x3, Pr.i64 x4]) (qCall (lex_Lex_ok x1 _ hx2)) ?_
  refine rq (out := Pr.tup [Pr.lst rApiToken x2, Pr.i64 x3, Pr.i64 x4]) qMove ?_
  refine rq (out := Pr.lst rApiToken x2) qExtract ?_
  refine rq (out := Pr.i64 x3) qExtract ?_
  refine rq (out := Pr.i64 x4) qExtract ?_
  refine rq (out := Pr.lst rApiToken x2) qAssign ?_
  refine rq (out := Pr.i64 x3) qAssign ?_
  refine rq (out := Pr.i64 x4) qAssign ?_
  refine W_seq ?_
  refine W_rs ?_
  refine rq (out := Pr.i64 x4) qMove ?_
  refine rq (out := Pr.bool (x4 != 0)) qInt ?_
  refine W_cond (b := x4 != 0) rfl (fun hc5 => ?_) (fun hc5 => ?_)
  · replace h := iteT hc5 h
    refine W_rs ?_
    refine rq (out := Pr.is (.slice none 0 0)) qAssign ?_
    refine rq (out := Pr.bool false) qAssign ?_
    obtain rfl := Option.some.inj h
    exact W_ret ⟨rfl, tup_le ⟨Pr.lst_nil _, Pr.le_rfl, trivial⟩⟩
  · replace h := iteF hc5 h
    refine W_skip ?_
    refine W_rs ?_
    refine rq (out := Pr.is (.slice none 0 0)) qAssign ?_
    refine W_seq ?_
    refine W_rs ?_
    refine rq (out := Pr.lst rApiToken x2) qMove ?_
    refine rq (out := Pr.i64 (x2.length : Int)) (qLenL rfl Tryz.underlying104) ?_
    refine rq (out := Pr.i64 0) qMove ?_
    refine W_block ?_
    obtain ⟨z2l, hz2, h⟩ := bindSome h
    obtain ⟨n2, hN2⟩ := iter_some hz2
    clear hz2
    refine W_after 0 (fun e C => ∃ (x8 : List (List UInt8)), ∃ (v6 : Value), weave_source_units_k1 x8 = some r ∧ At [(7, Pr.is v6)] [Own.vec v6 Rp.str x8 9] e C) ?_ ?_
    · rintro e C ⟨x8, v6, h, hat1⟩
      refine W_at hat1 ?_
      clear hat1
      unfold weave_source_units_k1 at h
      refine W_rs ?_
      refine rq (out := Pr.is v6) qMove ?_
      refine rq (out := Pr.is v6) qAssign ?_
      refine rq (out := Pr.bool true) qAssign ?_
      refine W_rel 0 [2] ?_ rfl ⟨rfl, trivial⟩
      obtain rfl := Option.some.inj h
      exact W_ret ⟨rfl, Pr.le_rfl⟩
    · refine W_nil [7] Rp.str 9 (fun v18 => ?_) ⟨rfl, trivial⟩
      refine W_loop (fun m e C => ∃ (x7 : Int), ∃ (x8 : List (List UInt8)), ∃ (v6 : Value), IterN (fun s => weave_source_units_l2 x2 s.1 s.2) m (x7, x8) = some z2l ∧ At [(7, Pr.is v6), (18, Pr.lst rApiToken x2), (19, Pr.i64 (x2.length : Int)), (20, Pr.i64 x7)] [Own.vec v6 Rp.str x8 9] e C) n2 ⟨0, [], v18, hN2, ⟨⟨Pr.le_rfl, Pr.le_rfl, Pr.le_rfl, Pr.le_rfl, trivial⟩, Pick.refl _⟩⟩ ?_
      clear hN2
      rintro m e C ⟨x7, x8, v6, hN2, hatl2⟩
      refine W_at hatl2 ?_
      clear hatl2
      obtain ⟨m2, w2l, rfl, h2l, hn2, ho2⟩ := iterN_some hN2
      clear hN2
      replace h2l : weave_source_units_l2 x2 x7 x8 = some w2l := h2l
      unfold weave_source_units_l2 at h2l
      refine W_rs ?_
      refine rq (out := Pr.bool (decide (x7 < (x2.length : Int)))) qInt ?_
      refine W_seq ?_
      refine W_cond (b := decide (x7 < (x2.length : Int))) rfl (fun hc12 => ?_) (fun hc12 => ?_)
      · replace h2l := iteT hc12 h2l
        refine W_skip ?_
        refine W_seq ?_
        refine W_block ?_
        refine W_rs ?_
        obtain ⟨x13, hx13, h2l⟩ := bindSome h2l
        refine rq (out := Pr.cpt rApiToken x13) (qIdxA (R := rApiToken) (l := x2) Tryz.underlying104 Tryz.sizeOf109 hx13) ?_
        refine rq (out := (rApiToken).val x13) (qLoadC (R := rApiToken) (a := x13) ty109) ?_
        refine rAlloc (R := rApiToken) (z := (ApiToken.mk 0 [] 0 [])) Tryz.zeroValue109 (fun _ => ⟨_, ⟨_, _, rfl, rfl, ⟨_, _, rfl, rfl, ⟨_, _, rfl, rfl, ⟨_, _, rfl, rfl, rfl⟩⟩⟩⟩, rfl⟩) (fun b14 => ?_)
        refine rStore (R := rApiToken) (R' := rApiToken) (a := (ApiToken.mk 0 [] 0 [])) (y := x13) 1 Tryz.sizeOf109 (Upd.refl _) ?_
        refine W_r ?_
        refine rq (out := Pr.is v6) qMove ?_
        refine rq (out := Pr.pt b14 3) (qFieldP fld109_3) ?_
        refine rq (out := Pr.str x13.Lead) (qLoad (R := rApiToken) (a := x13) (R' := Rp.str) 1 ty9 subApiToken_Lead) ?_
        refine rq (out := Pr.pt b14 1) (qFieldP fld109_1) ?_
        refine rq (out := Pr.str x13.Text) (qLoad (R := rApiToken) (a := x13) (R' := Rp.str) 1 ty9 subApiToken_Text) ?_
        obtain ⟨x15, hx15, h2l⟩ := bindSome h2l
        refine rq (out := Pr.str x15) (qCat' hx15) ?_
        refine rq (out := Pr.lst Rp.str ([x15] : List (List UInt8))) (qBuildSlice1 (R := Rp.str) (a := x15) el33 (Nat.le_of_ble_eq_true rfl)) ?_
        obtain ⟨x16, hx16, h2l⟩ := bindSome h2l
        refine rAppend' 0 el33 hx16 (fun v17 => ?_)
        refine rq (out := Pr.is v17) qAssign ?_
        refine W_r ?_
        refine rq (out := Pr.i64 (w64 (x7 + 1))) qInt ?_
        refine rq (out := Pr.i64 (w64 (x7 + 1))) qMove ?_
        exact ⟨m2, Nat.lt_succ_self _, w64 (x7 + 1), x16, v17, hn2 _ (Option.some.inj h2l).symm, ⟨⟨Pr.le_rfl, Pr.le_rfl, Pr.le_rfl, Pr.le_rfl, trivial⟩, Pick.of [0] rfl⟩⟩
      · replace h2l := iteF hc12 h2l
        refine W_exit ?_
        obtain rfl := ho2 _ (Option.some.inj h2l).symm
        exact ⟨x8, v6, h, ⟨⟨Pr.le_rfl, trivial⟩, Pick.refl _⟩⟩
theorem weave_Tokens_ok (x1 : List UInt8) (x2 : List UInt8) (x3 : List UInt8) (r : (List ApiPart) × Bool) (h : weave_Tokens x1 x2 x3 = some r) : FnP Tryz.prog 58 [Pr.str x1, Pr.str x2, Pr.str x3] (Pr.tup [Pr.lst rApiPart r.1, Pr.bool r.2]) := by
  refine fn_intro (n := 17) (rs := [6, 7]) Tryz.func58 rfl Tryz.ntmps58 ⟨by decide, Tryz.results58⟩ (by decide) (fun s0 => ?_)
  unfold weave_Tokens at h
  refine W_rs ?_
  refine rq (out := Pr.is (.slice none 0 0)) qAssign ?_
  refine rq (out := Pr.bool false) qAssign ?_
  refine W_rs ?_
  refine rq (out := Pr.str x1) qMove ?_
  refine rq (out := Pr.clo 69 [Pr.str x1] []) qMakeFunc ?_
  refine rq (out := Pr.str x2) qMove ?_
  refine rq (out := Pr.clo 69 [Pr.str x2] []) qMakeFunc ?_
  refine rq (out := Pr.str x3) qMove ?_
  refine rq (out := Pr.clo 69 [Pr.str x3] []) qMakeFunc ?_
  obtain ⟨⟨x4, x5⟩, hx4, h⟩ := bindSome h
  refine rq (out := Pr.tup [Pr.lst rApiPart x4, Pr.bool x5]) (qCall' (weave_apart_ok (fun _ => weave_source_units x1) (fun _ => weave_source_units x2) (fun _ => weave_source_units x3) _ hx4) ⟨(clo_pfn en69 (fun _ _ hs => by obtain ⟨r, rfl, rfl, hr⟩ := hs; exact weave_source_units_ok x1 r hr)), (clo_pfn en69 (fun _ _ hs => by obtain ⟨r, rfl, rfl, hr⟩ := hs; exact weave_source_units_ok x2 r hr)), (clo_pfn en69 (fun _ _ hs => by obtain ⟨r, rfl, rfl, hr⟩ := hs; exact weave_source_units_ok x3 r hr)), trivial⟩) ?_
  refine rq (out := Pr.lst rApiPart x4) qExtract ?_
  refine rq (out := Pr.bool x5) qExtract ?_
  refine rq (out := Pr.lst rApiPart x4) qAssign ?_
  refine rq (out := Pr.bool x5) qAssign ?_
  obtain rfl := Option.some.inj h
  exact W_ret ⟨rfl, Pr.le_rfl⟩
theorem weave_Side_ok (x1 : List ApiPart) (x2 : Int) (r : (List UInt8)) (h : weave_Side x1 x2 = some r) : FnP Tryz.prog 70 [Pr.lst rApiPart x1, Pr.i64 x2] (Pr.str r) := by
  refine fn_intro (n := 32) (rs := [4]) Tryz.func70 rfl Tryz.ntmps70 ⟨by decide, Tryz.results70⟩ (by decide) (fun s0 => ?_)
  unfold weave_Side at h
  refine W_rs ?_
  refine rq (out := Pr.str []) qAssign ?_
  refine W_seq ?_
  refine W_join (fun e C => ∃ (x4 : Bool), weave_Side_j3 x1 x2 x4 = some r ∧ At [(0, Pr.lst rApiPart x1), (1, Pr.i64 x2), (13, Pr.bool x4)] [] e C) ?_ ?_
  · rintro e C ⟨x4, h, hat3⟩
    refine W_at hat3 ?_
    clear hat3
    unfold weave_Side_j3 at h
    refine W_cond (b := x4) rfl (fun hc5 => ?_) (fun hc5 => ?_)
    · replace h := iteT hc5 h
      refine W_rs ?_
      refine rq (out := Pr.str []) qAssign ?_
      obtain rfl := Option.some.inj h
      exact W_ret ⟨rfl, Pr.le_rfl⟩
    · replace h := iteF hc5 h
      refine W_skip ?_
      refine W_rs ?_
      refine rAllocB (e := 5) Tryz.zeroValue124 (fun b6 => ?_)
      refine W_seq ?_
      refine W_rs ?_
      refine rq (out := Pr.lst rApiPart x1) qMove ?_
      refine rq (out := Pr.i64 (x1.length : Int)) (qLenL rfl Tryz.underlying80) ?_
      refine rq (out := Pr.i64 0) qMove ?_
      refine W_block ?_
      obtain ⟨z2l, hz2, h⟩ := bindSome h
      obtain ⟨n2, hN2⟩ := iter_some hz2
      clear hz2
      refine W_after 0 (fun e C => ∃ (x9 : List UInt8), ∃ (v8 : Value), weave_Side_k1 x9 = some r ∧ At [(5, Pr.pt b6 0)] [Own.bld 124 b6 v8, Own.vec v8 Rp.byte x9 5] e C) ?_ ?_
      · rintro e C ⟨x9, v8, h, hat1⟩
        refine W_at hat1 ?_
        clear hat1
        unfold weave_Side_k1 at h
        refine W_rs ?_
        refine rCallC [0, 1] (Builder_String_ok b6 v8 x9) (fun q C' hq => ?_)
        obtain ⟨rfl, rfl⟩ := hq
        refine rq (out := Pr.str x9) qAssign ?_
        obtain rfl := Option.some.inj h
        exact W_ret ⟨rfl, Pr.le_rfl⟩
      · refine W_loop (fun m e C => ∃ (x7 : Int), ∃ (x9 : List UInt8), ∃ (v8 : Value), IterN (fun s => weave_Side_l2 x1 x2 s.1 s.2) m (x7, x9) = some z2l ∧ At [(1, Pr.i64 x2), (5, Pr.pt b6 0), (14, Pr.lst rApiPart x1), (15, Pr.i64 (x1.length : Int)), (16, Pr.i64 x7)] [Own.bld 124 b6 v8, Own.vec v8 Rp.byte x9 5] e C) n2 ⟨0, [], (.slice none 0 0), hN2, ⟨⟨Pr.le_rfl, Pr.le_rfl, Pr.le_rfl, Pr.le_rfl, Pr.le_rfl, trivial⟩, Pick.refl _⟩⟩ ?_
        clear hN2
        rintro m e C ⟨x7, x9, v8, hN2, hatl2⟩
        refine W_at hatl2 ?_
        clear hatl2
        obtain ⟨m2, w2l, rfl, h2l, hn2, ho2⟩ := iterN_some hN2
        clear hN2
        replace h2l : weave_Side_l2 x1 x2 x7 x9 = some w2l := h2l
        unfold weave_Side_l2 at h2l
        refine W_rs ?_
        refine rq (out := Pr.bool (decide (x7 < (x1.length : Int)))) qInt ?_
        refine W_seq ?_
        refine W_cond (b := decide (x7 < (x1.length : Int))) rfl (fun hc13 => ?_) (fun hc13 => ?_)
        · replace h2l := iteT hc13 h2l
          refine W_skip ?_
          refine W_seq ?_
          refine W_block ?_
          refine W_rs ?_
          obtain ⟨x14, hx14, h2l⟩ := bindSome h2l
          refine rq (out := Pr.cpt rApiPart x14) (qIdxA (R := rApiPart) (l := x1) Tryz.underlying80 Tryz.sizeOf95 hx14) ?_
          refine rq (out := (rApiPart).val x14) (qLoadC (R := rApiPart) (a := x14) ty95) ?_
          refine rAlloc (R := rApiPart) (z := (ApiPart.mk false [] [] [])) Tryz.zeroValue95 (fun _ => ⟨_, ⟨_, _, rfl, rfl, ⟨_, _, rfl, rfl, ⟨_, _, rfl, rfl, ⟨_, _, rfl, rfl, rfl⟩⟩⟩⟩, rfl⟩) (fun b15 => ?_)
          refine rStore (R := rApiPart) (R' := rApiPart) (a := (ApiPart.mk false [] [] [])) (y := x14) 2 Tryz.sizeOf95 (Upd.refl _) ?_
          refine W_r ?_
          refine rq (out := Pr.pt b15 1) (qFieldP fld95_1) ?_
          refine rq (out := Pr.str x14.O) (qLoad (R := rApiPart) (a := x14) (R' := Rp.str) 2 ty9 subApiPart_O) ?_
          refine rq (out := Pr.pt b15 2) (qFieldP fld95_2) ?_
          refine rq (out := Pr.str x14.A) (qLoad (R := rApiPart) (a := x14) (R' := Rp.str) 2 ty9 subApiPart_A) ?_
          refine rq (out := Pr.pt b15 3) (qFieldP fld95_3) ?_
          refine rq (out := Pr.str x14.B) (qLoad (R := rApiPart) (a := x14) (R' := Rp.str) 2 ty9 subApiPart_B) ?_
          refine rq (out := (Rp.arr 3 Rp.str).val ([x14.O, x14.A, x14.B] : List (List UInt8))) (qBuildA (R := Rp.str) (ls := ([x14.O, x14.A, x14.B] : List (List UInt8))) Tryz.underlying31 Tryz.zeroValue31 rfl Tryz.sizeOf9 (by decide) ⟨rfl, rfl⟩ ⟨rfl, rfl, rfl, trivial⟩) ?_
          refine rq (out := Pr.i64 x2) qMove ?_
          obtain ⟨x16, hx16, h2l⟩ := bindSome h2l
          refine rq (out := Pr.str x16) (qIdxArr (R := Rp.str) (l := ([x14.O, x14.A, x14.B] : List (List UInt8))) Tryz.underlying31 Tryz.sizeOf9 Tryz.isAgg9 hx16) ?_
          obtain ⟨x17, hx17, h2l⟩ := bindSome h2l
          refine rCallC [0, 1] (Builder_WriteString_ok b6 v8 x9 x16 _ hx17) (fun q C' hq => ?_)
          obtain ⟨v18, rfl, rfl⟩ := hq
          refine W_r ?_
          refine rq (out := Pr.i64 (w64 (x7 + 1))) qInt ?_
          refine rq (out := Pr.i64 (w64 (x7 + 1))) qMove ?_
          exact ⟨m2, Nat.lt_succ_self _, w64 (x7 + 1), x17, v18, hn2 _ (Option.some.inj h2l).symm, ⟨⟨Pr.le_rfl, Pr.le_rfl, Pr.le_rfl, Pr.le_rfl, Pr.le_rfl, trivial⟩, Pick.of [0, 1] rfl⟩⟩
        · replace h2l := iteF hc13 h2l
          refine W_exit ?_
          obtain rfl := ho2 _ (Option.some.inj h2l).symm
          exact ⟨x9, v8, h, ⟨⟨Pr.le_rfl, trivial⟩, Pick.refl _⟩⟩
  · refine W_r ?_
    refine rq (out := Pr.i64 x2) qMove ?_
    refine rq (out := Pr.bool (decide (x2 < 0))) qInt ?_
    refine rq (out := Pr.bool (decide (x2 < 0))) qMove ?_
    rcases iteSome h with ⟨hc3, h⟩ | ⟨hc3, h⟩
    · refine rno (neF hc3) ?_
      refine rno (neF hc3) ?_
      refine rq (out := Pr.bool true) (qPickT hc3) ?_
      exact ⟨true, h, ⟨⟨Pr.le_rfl, Pr.le_rfl, Pr.le_rfl, trivial⟩, Pick.refl _⟩⟩
    · refine rqg hc3 (out := Pr.i64 x2) qMove ?_
      refine rqg hc3 (out := Pr.bool (decide (x2 > 2))) qInt ?_
      refine rq (out := Pr.bool (decide (x2 > 2))) (qPickF hc3) ?_
      exact ⟨decide (x2 > 2), h, ⟨⟨Pr.le_rfl, Pr.le_rfl, Pr.le_rfl, trivial⟩, Pick.refl _⟩⟩
theorem weave_Join_ok (x1 : List ApiPart) (r : (List UInt8) × Bool) (h : weave_Join x1 = some r) : FnP Tryz.prog 59 [Pr.lst rApiPart x1] (Pr.tup [Pr.str r.1, Pr.bool r.2]) := by
  refine fn_intro (n := 17) (rs := [2, 3]) Tryz.func59 rfl Tryz.ntmps59 ⟨by decide, Tryz.results59⟩ (by decide) (fun s0 => ?_)
  unfold weave_Join at h
  refine W_rs ?_
  refine rq (out := Pr.str []) qAssign ?_
  refine rq (out := Pr.bool false) qAssign ?_
  refine W_seq ?_
  refine W_rs ?_
  refine rq (out := Pr.lst rApiPart x1) qMove ?_
  refine rq (out := Pr.i64 (x1.length : Int)) (qLenL rfl Tryz.underlying80) ?_
  refine rq (out := Pr.i64 0) qMove ?_
  refine W_block ?_
  obtain ⟨z2l, hz2, h⟩ := bindSome h
  obtain ⟨n2, hN2⟩ := iter_some hz2
  clear hz2
  refine W_after 0 (fun e C => weave_Join_k1 x1 = some r ∧ At [(0, Pr.lst rApiPart x1)] [] e C) ?_ ?_
  · rintro e C ⟨h, hat1⟩
    refine W_at hat1 ?_
    clear hat1
    unfold weave_Join_k1 at h
    refine W_rs ?_
    refine rq (out := Pr.lst rApiPart x1) qMove ?_
    obtain ⟨x8, hx8, h⟩ := bindSome h
    refine rq (out := Pr.str x8) (qCall (weave_Side_ok x1 1 _ hx8)) ?_
    refine rq (out := Pr.str x8) qAssign ?_
    refine rq (out := Pr.bool true) qAssign ?_
    obtain rfl := Option.some.inj h
    exact W_ret ⟨rfl, Pr.le_rfl⟩
  · refine W_loop (fun m e C => ∃ (x2 : Int), IterN (fun s => weave_Join_l2 x1 s) m x2 = some z2l ∧ At [(0, Pr.lst rApiPart x1), (6, Pr.lst rApiPart x1), (7, Pr.i64 (x1.length : Int)), (8, Pr.i64 x2)] [] e C) n2 ⟨0, hN2, ⟨⟨Pr.le_rfl, Pr.le_rfl, Pr.le_rfl, Pr.le_rfl, trivial⟩, Pick.refl _⟩⟩ ?_
    clear hN2
    rintro m e C ⟨x2, hN2, hatl2⟩
    refine W_at hatl2 ?_
    clear hatl2
    obtain ⟨m2, w2l, rfl, h2l, hn2, ho2⟩ := iterN_some hN2
    clear hN2
    replace h2l : weave_Join_l2 x1 x2 = some w2l := h2l
    unfold weave_Join_l2 at h2l
    refine W_rs ?_
    refine rq (out := Pr.bool (decide (x2 < (x1.length : Int)))) qInt ?_
    refine W_seq ?_
    refine W_cond (b := decide (x2 < (x1.length : Int))) rfl (fun hc4 => ?_) (fun hc4 => ?_)
    · replace h2l := iteT hc4 h2l
      refine W_skip ?_
      refine W_seq ?_
      refine W_block ?_
      refine W_rs ?_
      obtain ⟨x5, hx5, h2l⟩ := bindSome h2l
      refine rq (out := Pr.cpt rApiPart x5) (qIdxA (R := rApiPart) (l := x1) Tryz.underlying80 Tryz.sizeOf95 hx5) ?_
      refine rq (out := (rApiPart).val x5) (qLoadC (R := rApiPart) (a := x5) ty95) ?_
      refine rAlloc (R := rApiPart) (z := (ApiPart.mk false [] [] [])) Tryz.zeroValue95 (fun _ => ⟨_, ⟨_, _, rfl, rfl, ⟨_, _, rfl, rfl, ⟨_, _, rfl, rfl, ⟨_, _, rfl, rfl, rfl⟩⟩⟩⟩, rfl⟩) (fun b6 => ?_)
      refine rStore (R := rApiPart) (R' := rApiPart) (a := (ApiPart.mk false [] [] [])) (y := x5) 0 Tryz.sizeOf95 (Upd.refl _) ?_
      refine W_rs ?_
      refine rq (out := Pr.pt b6 0) (qFieldP fld95_0) ?_
      refine rq (out := Pr.bool x5.Clash) (qLoad (R := rApiPart) (a := x5) (R' := Rp.bool) 0 ty4 subApiPart_Clash) ?_
      refine W_cond (b := x5.Clash) rfl (fun hc7 => ?_) (fun hc7 => ?_)
      · replace h2l := iteT hc7 h2l
        refine W_rs ?_
        refine rq (out := Pr.str []) qAssign ?_
        refine rq (out := Pr.bool false) qAssign ?_
        obtain rfl := ho2 _ (Option.some.inj h2l).symm
        replace h : some ([], false) = some r := h
        obtain rfl := Option.some.inj h
        exact W_ret ⟨rfl, Pr.le_rfl⟩
      · replace h2l := iteF hc7 h2l
        refine W_skip ?_
        refine W_r ?_
        refine rq (out := Pr.i64 (w64 (x2 + 1))) qInt ?_
        refine rq (out := Pr.i64 (w64 (x2 + 1))) qMove ?_
        exact ⟨m2, Nat.lt_succ_self _, w64 (x2 + 1), hn2 _ (Option.some.inj h2l).symm, ⟨⟨Pr.le_rfl, Pr.le_rfl, Pr.le_rfl, Pr.le_rfl, trivial⟩, Pick.of [] rfl⟩⟩
    · replace h2l := iteF hc4 h2l
      refine W_exit ?_
      obtain rfl := ho2 _ (Option.some.inj h2l).symm
      exact ⟨h, ⟨⟨Pr.le_rfl, trivial⟩, Pick.refl _⟩⟩
theorem lines_all_1_ok {σ : Type} (yld : σ → (Int × (List UInt8)) → Option (Bool × σ)) (Y : YI σ) (l : Nat) (hY : YOK Tryz.prog Y l (fun a => [Pr.i64 a.1, Pr.str a.2]) yld) (x2 : List UInt8) (x3 : σ) (b1 : Nat) (v4 : List Nat) (r : (List UInt8) × (σ)) (h : lines_all_1 yld x2 x3 = some r) : FnC Tryz.prog 116 ([] ++ [Pr.yl l] ++ [Pr.pt b1 0]) ([Own.box b1 Rp.str x2] ++ [Own.grp Y x3 v4]) (fun _ C' => ∃ w9, C' = [Own.box b1 Rp.str r.1] ++ [Own.grp Y r.2 w9]) := by
  refine fnc_introP (n := 33) (rs := []) Tryz.func116 rfl Tryz.ntmps116 ⟨by decide, Tryz.results116⟩ (by decide) (fun s0 => ?_)
  unfold lines_all_1 at h
  refine W_rs ?_
  refine rq (out := Pr.i64 0) qAssign ?_
  refine W_block ?_
  obtain ⟨z2l, hz2, h⟩ := bindSome h
  obtain ⟨n2, hN2⟩ := iter_some hz2
  clear hz2
  refine W_after 0 (fun e C => ∃ (x6 : σ), ∃ (v7 : List Nat), lines_all_1_k1 yld x2 x6 = some r ∧ At [] [Own.box b1 Rp.str x2, Own.grp Y x6 v7] e C) ?_ ?_
  · rintro e C ⟨x6, v7, h, hat1⟩
    unfold lines_all_1_k1 at h
    obtain rfl := Option.some.inj h
    exact ⟨.inr rfl, _, (Pick.trans hat1.2 (Pick.refl _)), _, Pr.le_rfl, v7, rfl⟩
  · refine W_loop (fun m e C => ∃ (x5 : Int), ∃ (x6 : σ), ∃ (v7 : List Nat), IterN (fun s => lines_all_1_l2 yld x2 s.1 s.2) m (x5, x6) = some z2l ∧ At [(0, Pr.yl l), (1, Pr.pt b1 0), (3, Pr.i64 x5)] [Own.box b1 Rp.str x2, Own.grp Y x6 v7] e C) n2 ⟨0, x3, v4, hN2, ⟨⟨Pr.le_rfl, Pr.le_rfl, Pr.le_rfl, trivial⟩, Pick.refl _⟩⟩ ?_
    clear hN2
    rintro m e C ⟨x5, x6, v7, hN2, hatl2⟩
    refine W_at hatl2 ?_
    clear hatl2
    obtain ⟨m2, w2l, rfl, h2l, hn2, ho2⟩ := iterN_some hN2
    clear hN2
    replace h2l : lines_all_1_l2 yld x2 x5 x6 = some w2l := h2l
    unfold lines_all_1_l2 at h2l
    refine W_seq ?_
    refine W_rs ?_
    refine rq (out := Pr.i64 x5) qMove ?_
    refine rq (out := Pr.str x2) (qLoad (R := Rp.str) (a := x2) (R' := Rp.str) 0 ty9 (Sub.refl _)) ?_
    refine rq (out := Pr.i64 (x2.length : Int)) (qLenS rfl Tryz.underlying9) ?_
    refine rq (out := Pr.bool (decide (x5 < (x2.length : Int)))) qInt ?_
    refine W_cond (b := decide (x5 < (x2.length : Int))) rfl (fun hc11 => ?_) (fun hc11 => ?_)
    · replace h2l := iteT hc11 h2l
      refine W_skip ?_
      refine W_block ?_
      refine W_rs ?_
      refine rq (out := Pr.str x2) (qLoad (R := Rp.str) (a := x2) (R' := Rp.str) 0 ty9 (Sub.refl _)) ?_
      refine rq (out := Pr.i64 x5) qMove ?_
      obtain ⟨x12, hx12, h2l⟩ := bindSome h2l
      refine rq (out := Pr.str x12) (qSubL Tryz.underlying9 hx12) ?_
      obtain ⟨x13, hx13, h2l⟩ := bindSome h2l
      refine rq (out := Pr.i64 x13) (qCall (strings_IndexByte_ok x12 10 _ hx13)) ?_
      refine rq (out := Pr.i64 (w64 (x13 + 1))) qInt ?_
      refine rq (out := Pr.i64 (w64 (x13 + 1))) qAssign ?_
      refine W_join (fun e C => ∃ (x15 : Int), lines_all_1_j3 yld x2 x5 x6 x15 = some w2l ∧ At [(0, Pr.yl l), (1, Pr.pt b1 0), (3, Pr.i64 x5), (4, Pr.i64 x15)] [Own.box b1 Rp.str x2, Own.grp Y x6 v7] e C) ?_ ?_
      · rintro e C ⟨x15, h2l, hat3⟩
        refine W_at hat3 ?_
        clear hat3
        unfold lines_all_1_j3 at h2l
        refine W_seq ?_
        refine W_rs ?_
        refine rq (out := Pr.yl l) qMove ?_
        refine rq (out := Pr.i64 x5) qMove ?_
        refine rq (out := Pr.str x2) (qLoad (R := Rp.str) (a := x2) (R' := Rp.str) 0 ty9 (Sub.refl _)) ?_
        refine rq (out := Pr.i64 x5) qMove ?_
        refine rq (out := Pr.i64 x5) qMove ?_
        refine rq (out := Pr.i64 x15) qMove ?_
        refine rq (out := Pr.i64 (w64 (x5 + x15))) qInt ?_
        obtain ⟨x16, hx16, h2l⟩ := bindSome h2l
        refine rq (out := Pr.str x16) (qSubLH Tryz.underlying9 hx16) ?_
        obtain ⟨⟨x17, x18⟩, hx17, h2l⟩ := bindSome h2l
        refine rYield 1 (a := (x5, x16)) hY hx17 (fun v19 => ?_)
        refine rq (out := Pr.bool (!x17)) qNot ?_
        refine W_cond (b := !x17) rfl (fun hc20 => ?_) (fun hc20 => ?_)
        · replace h2l := iteT hc20 h2l
          obtain rfl := ho2 _ (Option.some.inj h2l).symm
          replace h : some (x2, x18) = some r := h
          obtain rfl := Option.some.inj h
          exact W_ret ⟨.inl rfl, _, Pick.of [1, 0] rfl, _, Pr.le_rfl, v19, rfl⟩
        · replace h2l := iteF hc20 h2l
          refine W_skip ?_
          refine W_r ?_
          refine rq (out := Pr.i64 x5) qMove ?_
          refine rq (out := Pr.i64 x15) qMove ?_
          refine rq (out := Pr.i64 (w64 (x5 + x15))) qInt ?_
          refine rq (out := Pr.i64 (w64 (x5 + x15))) qAssign ?_
          exact ⟨m2, Nat.lt_succ_self _, w64 (x5 + x15), x18, v19, hn2 _ (Option.some.inj h2l).symm, ⟨⟨Pr.le_rfl, Pr.le_rfl, Pr.le_rfl, trivial⟩, Pick.of [1, 0] rfl⟩⟩
      · refine W_rs ?_
        refine rq (out := Pr.i64 (w64 (x13 + 1))) qMove ?_
        refine rq (out := Pr.bool ((w64 (x13 + 1)) == 0)) qInt ?_
        refine W_cond (b := (w64 (x13 + 1)) == 0) rfl (fun hc14 => ?_) (fun hc14 => ?_)
        · replace h2l := iteT hc14 h2l
          refine W_r ?_
          refine rq (out := Pr.str x2) (qLoad (R := Rp.str) (a := x2) (R' := Rp.str) 0 ty9 (Sub.refl _)) ?_
          refine rq (out := Pr.i64 (x2.length : Int)) (qLenS rfl Tryz.underlying9) ?_
          refine rq (out := Pr.i64 x5) qMove ?_
          refine rq (out := Pr.i64 (w64 ((x2.length : Int) - x5))) qInt ?_
          refine rq (out := Pr.i64 (w64 ((x2.length : Int) - x5))) qAssign ?_
          exact ⟨w64 ((x2.length : Int) - x5), h2l, ⟨⟨Pr.le_rfl, Pr.le_rfl, Pr.le_rfl, Pr.le_rfl, trivial⟩, Pick.refl _⟩⟩
        · replace h2l := iteF hc14 h2l
          refine W_skip ?_
          exact ⟨w64 (x13 + 1), h2l, ⟨⟨Pr.le_rfl, Pr.le_rfl, Pr.le_rfl, Pr.le_rfl, trivial⟩, Pick.refl _⟩⟩
    · replace h2l := iteF hc11 h2l
      refine W_exit ?_
      obtain rfl := ho2 _ (Option.some.inj h2l).symm
      exact ⟨x6, v7, h, ⟨trivial, Pick.refl _⟩⟩
theorem lines_all_ok (x1 : List UInt8) : FnC Tryz.prog 95 [Pr.str x1] [] (fun q C' => ∃ b2, q = Pr.clo 116 [] [Pr.pt b2 0] ∧ C' = [Own.box b2 Rp.str x1]) := by
  refine fnc_introP (n := 4) (rs := [2]) Tryz.func95 rfl Tryz.ntmps95 ⟨by decide, Tryz.results95⟩ (by decide) (fun s0 => ?_)
  refine W_rs ?_
  refine rBox (R := Rp.str) (a := x1) rfl (fun b2 => ?_)
  refine rq (out := Pr.is .nilFunc) qAssign ?_
  refine W_rs ?_
  refine rq (out := Pr.clo 116 [] [Pr.pt b2 0]) qMakeFunc ?_
  refine rq (out := Pr.clo 116 [] [Pr.pt b2 0]) qAssign ?_
  exact W_ret ⟨.inl rfl, _, Pick.refl _, _, Pr.le_rfl, b2, rfl, rfl⟩
theorem lines_Split_ok (x1 : List UInt8) (r : (List (List UInt8))) (h : lines_Split x1 = some r) : FnP Tryz.prog 82 [Pr.str x1] (Pr.lst Rp.str r) := by
  refine fn_intro (n := 15) (rs := [2]) Tryz.func82 rfl Tryz.ntmps82 ⟨by decide, Tryz.results82⟩ (by decide) (fun s0 => ?_)
  unfold lines_Split at h
  refine W_rs ?_
  refine rq (out := Pr.is (.slice none 0 0)) qAssign ?_
  refine W_rs ?_
  refine rAllocC Tryz.zeroValue33 rfl rfl (fun b2 => ?_)
  refine W_rs2 ?_
  refine W_r ?_
  refine rq (out := Pr.str x1) qMove ?_
  refine rCallC [] (lines_all_ok x1) (fun q C' hq => ?_)
  obtain ⟨b3, rfl, rfl⟩ := hq
  refine ⟨rfl, ?_⟩
  obtain ⟨⟨x12, x13⟩, hx14, h⟩ := bindSome h
  refine WR_vec Rp.str 9 ?_
  refine W_range [0] (fun (s : (List (List UInt8))) C => ∃ (v6 : Value), C = [Own.cell b2 (Pr.is v6), Own.vec v6 Rp.str s 9]) (encs := (fun (a : Int × (List UInt8)) => [Pr.i64 a.1, Pr.str a.2])) (yld := (fun (s : (List (List UInt8))) (a : Int × (List UInt8)) => lines_Split_r1 s a.1 a.2)) (st0 := []) (stF := x13) (Ccap' := [Own.box b3 Rp.str x12]) (fun l Y L hY => lines_all_1_ok _ Y l hY x1 [] b3 L _ hx14) ⟨(.slice none 0 0), rfl⟩ (fun _ => rfl) ?_ ?_ (fun _ _ _ h => h.1)
  · rintro l x7 ⟨x4, x5⟩ ⟨rb1, rs1⟩ C T s0 ⟨v6, rfl⟩ hy1
    replace hy1 : lines_Split_r1 x7 x4 x5 = some (rb1, rs1) := hy1
    unfold lines_Split_r1 at hy1
    refine W_r ?_
    refine rq (out := Pr.str x5) qAssign ?_
    refine ⟨rfl, fun T s0 => ?_⟩
    refine W_pickK ?_
    refine W_block ?_
    refine W_r ?_
    refine rq (out := Pr.is v6) (qLoadP 0 Tryz.isAgg33) ?_
    refine rq (out := Pr.str x5) qMove ?_
    refine rq (out := Pr.lst Rp.str ([x5] : List (List UInt8))) (qBuildSlice1 (R := Rp.str) (a := x5) el33 (Nat.le_of_ble_eq_true rfl)) ?_
    obtain ⟨x10, hx10, hy1⟩ := bindSome hy1
    refine rAppend' 1 el33 hx10 (fun v11 => ?_)
    refine rStoreV 0 1 Tryz.sizeOf33 ?_
    obtain ⟨rfl, rfl⟩ := Prod.mk.inj (Option.some.inj hy1)
    exact ⟨_, Pick.refl _, rfl, rfl, v11, rfl⟩
  · rintro D C' T s0 ⟨v6, rfl⟩
    refine W_rs ?_
    refine rq (out := Pr.is v6) (qLoadP 1 Tryz.isAgg33) ?_
    refine rq (out := Pr.is v6) qAssign ?_
    refine W_rel 2 [2] ?_ rfl ⟨rfl, trivial⟩
    obtain rfl := Option.some.inj h
    exact W_ret ⟨rfl, Pr.le_rfl⟩
theorem weave_source_lines_ok (x1 : List UInt8) (r : (List (List UInt8)) × Bool) (h : weave_source_lines x1 = some r) : FnP Tryz.prog 71 [Pr.str x1] (Pr.tup [Pr.lst Rp.str r.1, Pr.bool r.2]) := by
  refine fn_intro (n := 6) (rs := [2, 3]) Tryz.func71 rfl Tryz.ntmps71 ⟨by decide, Tryz.results71⟩ (by decide) (fun s0 => ?_)
  unfold weave_source_lines at h
  refine W_rs ?_
  refine rq (out := Pr.is (.slice none 0 0)) qAssign ?_
  refine rq (out := Pr.bool false) qAssign ?_
  refine W_rs ?_
  refine rq (out := Pr.str x1) qMove ?_
  obtain ⟨x2, hx2, h⟩ := bindSome h
  refine rq (out := Pr.lst Rp.str x2) (qCall (lines_Split_ok x1 _ hx2)) ?_
  refine rq (out := Pr.lst Rp.str x2) qAssign ?_
  refine rq (out := Pr.bool true) qAssign ?_
  obtain rfl := Option.some.inj h
  exact W_ret ⟨rfl, Pr.le_rfl⟩
theorem weave_Lines_ok (x1 : List UInt8) (x2 : List UInt8) (x3 : List UInt8) (r : (List ApiPart)) (h : weave_Lines x1 x2 x3 = some r) : FnP Tryz.prog 60 [Pr.str x1, Pr.str x2, Pr.str x3] (Pr.lst rApiPart r) := by
  refine fn_intro (n := 20) (rs := [6]) Tryz.func60 rfl Tryz.ntmps60 ⟨by decide, Tryz.results60⟩ (by decide) (fun s0 => ?_)
  unfold weave_Lines at h
  refine W_rs ?_
  refine rq (out := Pr.is (.slice none 0 0)) qAssign ?_
  refine W_rs ?_
  refine rq (out := Pr.str x1) qMove ?_
  refine rq (out := Pr.clo 71 [Pr.str x1] []) qMakeFunc ?_
  refine rq (out := Pr.str x2) qMove ?_
  refine rq (out := Pr.clo 71 [Pr.str x2] []) qMakeFunc ?_
  refine rq (out := Pr.str x3) qMove ?_
  refine rq (out := Pr.clo 71 [Pr.str x3] []) qMakeFunc ?_
  obtain ⟨⟨x4, x5⟩, hx4, h⟩ := bindSome h
  refine rq (out := Pr.tup [Pr.lst rApiPart x4, Pr.bool x5]) (qCall' (weave_apart_ok (fun _ => weave_source_lines x1) (fun _ => weave_source_lines x2) (fun _ => weave_source_lines x3) _ hx4) ⟨(clo_pfn en71 (fun _ _ hs => by obtain ⟨r, rfl, rfl, hr⟩ := hs; exact weave_source_lines_ok x1 r hr)), (clo_pfn en71 (fun _ _ hs => by obtain ⟨r, rfl, rfl, hr⟩ := hs; exact weave_source_lines_ok x2 r hr)), (clo_pfn en71 (fun _ _ hs => by obtain ⟨r, rfl, rfl, hr⟩ := hs; exact weave_source_lines_ok x3 r hr)), trivial⟩) ?_
  refine rq (out := Pr.tup [Pr.lst rApiPart x4, Pr.bool x5]) qMove ?_
  refine rq (out := Pr.lst rApiPart x4) qExtract ?_
  refine rq (out := Pr.bool x5) qExtract ?_
  refine rq (out := Pr.lst rApiPart x4) qAssign ?_
  refine rq (out := Pr.bool x5) qAssign ?_
  refine W_rs ?_
  refine rq (out := Pr.lst rApiPart x4) qMove ?_
  refine rq (out := Pr.lst rApiPart x4) qAssign ?_
  obtain rfl := Option.some.inj h
  exact W_ret ⟨rfl, Pr.le_rfl⟩
theorem weave_Text_ok (x1 : List UInt8) (x2 : List UInt8) (x3 : List UInt8) (r : (List UInt8) × Bool) (h : weave_Text x1 x2 x3 = some r) : FnP Tryz.prog 47 [Pr.str x1, Pr.str x2, Pr.str x3] (Pr.tup [Pr.str r.1, Pr.bool r.2]) := by
  refine fn_intro (n := 47) (rs := [6, 7]) Tryz.func47 rfl Tryz.ntmps47 ⟨by decide, Tryz.results47⟩ (by decide) (fun s0 => ?_)
  unfold weave_Text at h
  refine W_rs ?_
  refine rq (out := Pr.str []) qAssign ?_
  refine rq (out := Pr.bool false) qAssign ?_
  refine W_seq ?_
  refine W_block ?_
  refine W_rs ?_
  refine rq (out := Pr.str x2) qMove ?_
  refine rq (out := Pr.str x1) qMove ?_
  refine rq (out := Pr.bool (x2 == x1)) qStr ?_
  refine rq (out := Pr.bool (x2 == x1)) qAssign ?_
  refine W_cond (b := x2 == x1) rfl (fun hc4 => ?_) (fun hc4 => ?_)
  · replace h := iteT hc4 h
    refine W_rs ?_
    refine rq (out := Pr.str x3) qMove ?_
    refine rq (out := Pr.str x3) qAssign ?_
    refine rq (out := Pr.bool true) qAssign ?_
    obtain rfl := Option.some.inj h
    exact W_ret ⟨rfl, Pr.le_rfl⟩
  · replace h := iteF hc4 h
    refine W_join (fun e C => ∃ (x6 : Bool), weave_Text_j2 x2 x1 x3 x6 = some r ∧ At [(0, Pr.str x1), (1, Pr.str x2), (2, Pr.str x3), (17, Pr.bool x6)] [] e C) ?_ ?_
    · rintro e C ⟨x6, h, hat2⟩
      refine W_at hat2 ?_
      clear hat2
      unfold weave_Text_j2 at h
      refine W_cond (b := x6) rfl (fun hc7 => ?_) (fun hc7 => ?_)
      · replace h := iteT hc7 h
        refine W_rs ?_
        refine rq (out := Pr.str x2) qMove ?_
        refine rq (out := Pr.str x2) qAssign ?_
        refine rq (out := Pr.bool true) qAssign ?_
        obtain rfl := Option.some.inj h
        exact W_ret ⟨rfl, Pr.le_rfl⟩
      · replace h := iteF hc7 h
        refine W_skip ?_
        refine W_join (fun e C => weave_Text_j1 x1 x2 x3 = some r ∧ At [(0, Pr.str x1), (1, Pr.str x2), (2, Pr.str x3)] [] e C) ?_ ?_
        · rintro e C ⟨h, hat1⟩
          refine W_at hat1 ?_
          clear hat1
          unfold weave_Text_j1 at h
          refine W_rs ?_
          refine rq (out := Pr.str x1) qMove ?_
          refine rq (out := Pr.str x2) qMove ?_
          refine rq (out := Pr.str x3) qMove ?_
          obtain ⟨x14, hx14, h⟩ := bindSome h
          refine rq (out := Pr.lst rApiPart x14) (qCall (weave_Lines_ok x1 x2 x3 _ hx14)) ?_
          obtain ⟨⟨x15, x16⟩, hx15, h⟩ := bindSome h
          refine rq (out := Pr.tup [Pr.str x15, Pr.bool x16]) (qCall (weave_Join_ok x14 _ hx15)) ?_
          refine rq (out := Pr.str x15) qExtract ?_
          refine rq (out := Pr.bool x16) qExtract ?_
          refine rq (out := Pr.str x15) qAssign ?_
          refine rq (out := Pr.bool x16) qAssign ?_
          obtain rfl := Option.some.inj h
          exact W_ret ⟨rfl, Pr.le_rfl⟩
        · refine W_rs ?_
          refine rq (out := Pr.str x1) qMove ?_
          refine rq (out := Pr.str x2) qMove ?_
          refine rq (out := Pr.str x3) qMove ?_
          obtain ⟨⟨x8, x9⟩, hx8, h⟩ := bindSome h
          refine rq (out := Pr.tup [Pr.lst rApiPart x8, Pr.bool x9]) (qCall (weave_Tokens_ok x1 x2 x3 _ hx8)) ?_
          refine rq (out := Pr.tup [Pr.lst rApiPart x8, Pr.bool x9]) qMove ?_
          refine rq (out := Pr.lst rApiPart x8) qExtract ?_
          refine rq (out := Pr.bool x9) qExtract ?_
          refine rq (out := Pr.lst rApiPart x8) qAssign ?_
          refine rq (out := Pr.bool x9) qAssign ?_
          refine W_rs ?_
          refine rq (out := Pr.bool x9) qMove ?_
          refine W_cond (b := x9) rfl (fun hc10 => ?_) (fun hc10 => ?_)
          · replace h := iteT hc10 h
            refine W_rs ?_
            refine rq (out := Pr.lst rApiPart x8) qMove ?_
            obtain ⟨⟨x11, x12⟩, hx11, h⟩ := bindSome h
            refine rq (out := Pr.tup [Pr.str x11, Pr.bool x12]) (qCall (weave_Join_ok x8 _ hx11)) ?_
            refine rq (out := Pr.tup [Pr.str x11, Pr.bool x12]) qMove ?_
            refine rq (out := Pr.str x11) qExtract ?_
            refine rq (out := Pr.bool x12) qExtract ?_
            refine rq (out := Pr.str x11) qAssign ?_
            refine rq (out := Pr.bool x12) qAssign ?_
            refine W_rs ?_
            refine rq (out := Pr.bool x12) qMove ?_
            refine W_cond (b := x12) rfl (fun hc13 => ?_) (fun hc13 => ?_)
            · replace h := iteT hc13 h
              refine W_rs ?_
              refine rq (out := Pr.str x11) qMove ?_
              refine rq (out := Pr.str x11) qAssign ?_
              refine rq (out := Pr.bool true) qAssign ?_
              obtain rfl := Option.some.inj h
              exact W_ret ⟨rfl, Pr.le_rfl⟩
            · replace h := iteF hc13 h
              refine W_skip ?_
              exact ⟨h, ⟨⟨Pr.le_rfl, Pr.le_rfl, Pr.le_rfl, trivial⟩, Pick.refl _⟩⟩
          · replace h := iteF hc10 h
            refine W_skip ?_
            exact ⟨h, ⟨⟨Pr.le_rfl, Pr.le_rfl, Pr.le_rfl, trivial⟩, Pick.refl _⟩⟩
    · refine W_rs ?_
      refine rq (out := Pr.str x3) qMove ?_
      refine rq (out := Pr.str x1) qMove ?_
      refine rq (out := Pr.bool (x3 == x1)) qStr ?_
      refine rq (out := Pr.bool (x3 == x1)) qAssign ?_
      refine W_cond (b := x3 == x1) rfl (fun hc5 => ?_) (fun hc5 => ?_)
      · replace h := iteT hc5 h
        refine W_skip ?_
        exact ⟨x3 == x1, h, ⟨⟨Pr.le_rfl, Pr.le_rfl, Pr.le_rfl, Pr.le_rfl, trivial⟩, Pick.refl _⟩⟩
      · replace h := iteF hc5 h
        refine W_r ?_
        refine rq (out := Pr.str x2) qMove ?_
        refine rq (out := Pr.str x3) qMove ?_
        refine rq (out := Pr.bool (x2 == x3)) qStr ?_
        refine rq (out := Pr.bool (x2 == x3)) qAssign ?_
        exact ⟨x2 == x3, h, ⟨⟨Pr.le_rfl, Pr.le_rfl, Pr.le_rfl, Pr.le_rfl, trivial⟩, Pick.refl _⟩⟩
end Go.Proofs.YtphkaogfinjbjaaGreatDoor
