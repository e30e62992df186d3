/- The code comes to what these functions say (printed by wip/gen/gen.py). -/
import Derived.Test.YtgkcoicaopilhaaGreatDoorZP4
import Derived.Test.YtgkcoicaopilhaaGreatDoorZT
set_option linter.unusedSimpArgs false
set_option linter.unusedVariables false
/- The code comes to what these functions say (printed by wip/gen/gen.py). -/
set_option linter.unusedSectionVars false
set_option maxRecDepth 100000
set_option maxHeartbeats 4000000
namespace Go.Proofs.YtgkcoicaopilhaaGreatDoor
open Go Go.Cn

theorem lcs_Numbers_ok (x1 : List (List (List UInt8))) (r : (List (List Int))) (h : lcs_Numbers x1 = some r) : FnP Tryz.prog 68 [Pr.lst (Rp.list Rp.str) x1] (Pr.lst (Rp.list (Rp.int .i64)) r) := by
  refine fn_intro (n := 49) (rs := [2]) Tryz.func68 rfl Tryz.ntmps68 ⟨by decide, Tryz.results68⟩ (by decide) (fun s0 => ?_)
  unfold lcs_Numbers at h
  refine W_rs ?_
  refine rq (out := Pr.is (.slice none 0 0)) qAssign ?_
  refine W_rs ?_
  refine rMakeMap (Rp.int .i64) (fun b2 => ?_)
  refine rq (out := Pr.mp b2) qAssign ?_
  refine W_rs ?_
  refine rq (out := Pr.is (.slice none 0 0)) qAssign ?_
  refine W_seq ?_
  refine W_rs ?_
  refine rq (out := Pr.lst (Rp.list Rp.str) x1) qMove ?_
  refine rq (out := Pr.i64 (x1.length : Int)) (qLenL rfl Tryz.underlying69) ?_
  refine rq (out := Pr.i64 0) qMove ?_
  refine W_block ?_
  obtain ⟨z2l, hz2, h⟩ := bindSome h
  obtain ⟨n2, hN2⟩ := iter_some hz2
  clear hz2
  refine W_after 0 (fun e C => ∃ (x5 : SMap Int), ∃ (x6 : List (List Int)), ∃ (v3 : Value), lcs_Numbers_k1 x5 x6 = some r ∧ At [(4, Pr.is v3)] [Own.smap b2 (Rp.int .i64) x5, Own.vec v3 (Rp.list (Rp.int .i64)) x6 71] e C) ?_ ?_
  · rintro e C ⟨x5, x6, v3, h, hat1⟩
    refine W_at hat1 ?_
    clear hat1
    unfold lcs_Numbers_k1 at h
    refine W_rs ?_
    refine rq (out := Pr.is v3) qMove ?_
    refine rq (out := Pr.is v3) qAssign ?_
    refine W_rel 1 [2] ?_ rfl ⟨rfl, trivial⟩
    obtain rfl := Option.some.inj h
    exact W_ret ⟨rfl, Pr.le_rfl⟩
  · refine W_nil [4] (Rp.list (Rp.int .i64)) 71 (fun v31 => ?_) ⟨rfl, trivial⟩
    refine W_loop (fun m e C => ∃ (x4 : Int), ∃ (x5 : SMap Int), ∃ (x6 : List (List Int)), ∃ (v3 : Value), IterN (fun s => lcs_Numbers_l2 x1 s.1 s.2.1 s.2.2) m (x4, x5, x6) = some z2l ∧ At [(3, Pr.mp b2), (4, Pr.is v3), (13, Pr.lst (Rp.list Rp.str) x1), (14, Pr.i64 (x1.length : Int)), (15, Pr.i64 x4)] [Own.smap b2 (Rp.int .i64) x5, Own.vec v3 (Rp.list (Rp.int .i64)) x6 71] e C) n2 ⟨0, ([] : SMap Int), [], v31, hN2, ⟨⟨Pr.le_rfl, Pr.le_rfl, Pr.le_rfl, Pr.le_rfl, Pr.le_rfl, trivial⟩, Pick.refl _⟩⟩ ?_
    clear hN2
    rintro m e C ⟨x4, x5, x6, v3, hN2, hatl2⟩
    refine W_at hatl2 ?_
    clear hatl2
    obtain ⟨m2, w2l, rfl, h2l, hn2, ho2⟩ := iterN_some hN2
    clear hN2
    replace h2l : lcs_Numbers_l2 x1 x4 x5 x6 = some w2l := h2l
    unfold lcs_Numbers_l2 at h2l
    refine W_rs ?_
    refine rq (out := Pr.bool (decide (x4 < (x1.length : Int)))) qInt ?_
    refine W_seq ?_
    refine W_cond (b := decide (x4 < (x1.length : Int))) rfl (fun hc11 => ?_) (fun hc11 => ?_)
    · replace h2l := iteT hc11 h2l
      refine W_skip ?_
      refine W_seq ?_
      refine W_block ?_
      refine W_rs ?_
      obtain ⟨x12, hx12, h2l⟩ := bindSome h2l
      refine rq (out := Pr.cpt (Rp.list Rp.str) x12) (qIdxA (R := Rp.list Rp.str) (l := x1) Tryz.underlying69 Tryz.sizeOf25 hx12) ?_
      refine rq (out := Pr.lst Rp.str x12) (qLoadC (R := Rp.list Rp.str) (a := x12) ty25) ?_
      refine rq (out := Pr.lst Rp.str x12) qAssign ?_
      refine W_rs ?_
      refine rq (out := Pr.is (.slice none 0 0)) qAssign ?_
      refine W_seq ?_
      refine W_rs ?_
      refine rq (out := Pr.lst Rp.str x12) qMove ?_
      refine rq (out := Pr.i64 (x12.length : Int)) (qLenL rfl Tryz.underlying25) ?_
      refine rq (out := Pr.i64 0) qMove ?_
      refine W_block ?_
      obtain ⟨z4l, hz4, h2l⟩ := bindSome h2l
      obtain ⟨n4, hN4⟩ := iter_some hz4
      clear hz4
      refine W_after 2 (fun e C => ∃ (x15 : SMap Int), ∃ (x16 : List Int), ∃ (v13 : Value), lcs_Numbers_k3 x6 x4 x15 x16 = some w2l ∧ At [(3, Pr.mp b2), (4, Pr.is v3), (7, Pr.is v13), (13, Pr.lst (Rp.list Rp.str) x1), (14, Pr.i64 (x1.length : Int)), (15, Pr.i64 x4)] [Own.smap b2 (Rp.int .i64) x15, Own.vec v3 (Rp.list (Rp.int .i64)) x6 71, Own.vec v13 (Rp.int .i64) x16 3] e C) ?_ ?_
      · rintro e C ⟨x15, x16, v13, h2l, hat3⟩
        refine W_at hat3 ?_
        clear hat3
        unfold lcs_Numbers_k3 at h2l
        refine W_r ?_
        refine rq (out := Pr.is v3) qMove ?_
        refine rq (out := Pr.is v13) qMove ?_
        refine rRel 2 [7, 44] ?_ rfl ⟨rfl, rfl, trivial⟩
        refine rq (out := Pr.lst (Rp.list (Rp.int .i64)) ([x16] : List (List Int))) (qBuildSlice1 (R := Rp.list (Rp.int .i64)) (a := x16) el67 (Nat.le_of_ble_eq_true rfl)) ?_
        obtain ⟨x28, hx28, h2l⟩ := bindSome h2l
        refine rAppend' 1 el67 hx28 (fun v29 => ?_)
        refine rq (out := Pr.is v29) qAssign ?_
        refine W_r ?_
        refine rq (out := Pr.i64 (w64 (x4 + 1))) qInt ?_
        refine rq (out := Pr.i64 (w64 (x4 + 1))) qMove ?_
        exact ⟨m2, Nat.lt_succ_self _, w64 (x4 + 1), x15, x28, v29, hn2 _ (Option.some.inj h2l).symm, ⟨⟨Pr.le_rfl, Pr.le_rfl, Pr.le_rfl, Pr.le_rfl, Pr.le_rfl, trivial⟩, Pick.refl _⟩⟩
      · refine W_nil [7] (Rp.int .i64) 3 (fun v30 => ?_) ⟨rfl, trivial⟩
        refine W_loop (fun m e C => ∃ (x14 : Int), ∃ (x15 : SMap Int), ∃ (x16 : List Int), ∃ (v13 : Value), IterN (fun s => lcs_Numbers_l4 x12 s.1 s.2.1 s.2.2) m (x14, x15, x16) = some z4l ∧ At [(3, Pr.mp b2), (4, Pr.is v3), (7, Pr.is v13), (13, Pr.lst (Rp.list Rp.str) x1), (14, Pr.i64 (x1.length : Int)), (15, Pr.i64 x4), (19, Pr.lst Rp.str x12), (20, Pr.i64 (x12.length : Int)), (21, Pr.i64 x14)] [Own.smap b2 (Rp.int .i64) x15, Own.vec v3 (Rp.list (Rp.int .i64)) x6 71, Own.vec v13 (Rp.int .i64) x16 3] e C) n4 ⟨0, x5, [], v30, hN4, ⟨⟨Pr.le_rfl, Pr.le_rfl, Pr.le_rfl, Pr.le_rfl, Pr.le_rfl, Pr.le_rfl, Pr.le_rfl, Pr.le_rfl, Pr.le_rfl, trivial⟩, Pick.refl _⟩⟩ ?_
        clear hN4
        rintro m e C ⟨x14, x15, x16, v13, hN4, hatl4⟩
        refine W_at hatl4 ?_
        clear hatl4
        obtain ⟨m4, w4l, rfl, h4l, hn4, ho4⟩ := iterN_some hN4
        clear hN4
        replace h4l : lcs_Numbers_l4 x12 x14 x15 x16 = some w4l := h4l
        unfold lcs_Numbers_l4 at h4l
        refine W_rs ?_
        refine rq (out := Pr.bool (decide (x14 < (x12.length : Int)))) qInt ?_
        refine W_seq ?_
        refine W_cond (b := decide (x14 < (x12.length : Int))) rfl (fun hc21 => ?_) (fun hc21 => ?_)
        · replace h4l := iteT hc21 h4l
          refine W_skip ?_
          refine W_seq ?_
          refine W_block ?_
          refine W_rs ?_
          obtain ⟨x22, hx22, h4l⟩ := bindSome h4l
          refine rq (out := Pr.cpt Rp.str x22) (qIdxA (R := Rp.str) (l := x12) Tryz.underlying25 Tryz.sizeOf9 hx22) ?_
          refine rq (out := Pr.str x22) (qLoadC (R := Rp.str) (a := x22) ty9) ?_
          refine rq (out := Pr.str x22) qAssign ?_
          refine W_rs ?_
          refine rq (out := Pr.mp b2) qMove ?_
          refine rq (out := Pr.str x22) qMove ?_
          refine rq (out := Pr.tup [Pr.i64 (mget x22 0 x15), Pr.bool (mhas x22 x15)]) (qMapGet2 (R := Rp.int .i64) (m := x15) (kx := x22) (z := 0) 0 Tryz.underlying104 Tryz.underlying9 Tryz.zeroValue3 (fun _ => rfl)) ?_
          refine rq (out := Pr.tup [Pr.i64 (mget x22 0 x15), Pr.bool (mhas x22 x15)]) qMove ?_
          refine rq (out := Pr.i64 (mget x22 0 x15)) qExtract ?_
          refine rq (out := Pr.bool (mhas x22 x15)) qExtract ?_
          refine rq (out := Pr.i64 (mget x22 0 x15)) qAssign ?_
          refine rq (out := Pr.bool (mhas x22 x15)) qAssign ?_
          refine W_join (fun e C => ∃ (x24 : Int), ∃ (x25 : SMap Int), lcs_Numbers_j5 x16 x14 x24 x25 = some w4l ∧ At [(3, Pr.mp b2), (4, Pr.is v3), (7, Pr.is v13), (10, Pr.i64 x24), (13, Pr.lst (Rp.list Rp.str) x1), (14, Pr.i64 (x1.length : Int)), (15, Pr.i64 x4), (19, Pr.lst Rp.str x12), (20, Pr.i64 (x12.length : Int)), (21, Pr.i64 x14)] [Own.smap b2 (Rp.int .i64) x25, Own.vec v3 (Rp.list (Rp.int .i64)) x6 71, Own.vec v13 (Rp.int .i64) x16 3] e C) ?_ ?_
          · rintro e C ⟨x24, x25, h4l, hat5⟩
            refine W_at hat5 ?_
            clear hat5
            unfold lcs_Numbers_j5 at h4l
            refine W_r ?_
            refine rq (out := Pr.is v13) qMove ?_
            refine rq (out := Pr.i64 x24) qMove ?_
            refine rq (out := Pr.lst (Rp.int .i64) ([x24] : List Int)) (qBuildSlice1 (R := Rp.int .i64) (a := x24) el71 (Nat.le_of_ble_eq_true rfl)) ?_
            obtain ⟨x26, hx26, h4l⟩ := bindSome h4l
            refine rAppend' 2 el71 hx26 (fun v27 => ?_)
            refine rq (out := Pr.is v27) qAssign ?_
            refine W_r ?_
            refine rq (out := Pr.i64 (w64 (x14 + 1))) qInt ?_
            refine rq (out := Pr.i64 (w64 (x14 + 1))) qMove ?_
            exact ⟨m4, Nat.lt_succ_self _, w64 (x14 + 1), x25, x26, v27, hn4 _ (Option.some.inj h4l).symm, ⟨⟨Pr.le_rfl, Pr.le_rfl, Pr.le_rfl, Pr.le_rfl, Pr.le_rfl, Pr.le_rfl, Pr.le_rfl, Pr.le_rfl, Pr.le_rfl, trivial⟩, Pick.refl _⟩⟩
          · refine W_rs ?_
            refine rq (out := Pr.bool (mhas x22 x15)) qMove ?_
            refine rq (out := Pr.bool (!(mhas x22 x15))) qNot ?_
            refine W_cond (b := !(mhas x22 x15)) rfl (fun hc23 => ?_) (fun hc23 => ?_)
            · replace h4l := iteT hc23 h4l
              refine W_rs ?_
              refine rq (out := Pr.mp b2) qMove ?_
              refine rq (out := Pr.i64 (x15.length : Int)) (qMapLen 0 rfl Tryz.underlying104) ?_
              refine rq (out := Pr.i64 (x15.length : Int)) qAssign ?_
              refine W_r ?_
              refine rq (out := Pr.mp b2) qMove ?_
              refine rq (out := Pr.str x22) qMove ?_
              refine rq (out := Pr.i64 (x15.length : Int)) qMove ?_
              refine rMapSet (R := Rp.int .i64) (m := x15) (kx := x22) (v := (x15.length : Int)) 0 Tryz.underlying104 Tryz.underlying9 ?_
              exact ⟨(x15.length : Int), (mset x22 (x15.length : Int) x15), h4l, ⟨⟨Pr.le_rfl, Pr.le_rfl, Pr.le_rfl, Pr.le_rfl, Pr.le_rfl, Pr.le_rfl, Pr.le_rfl, Pr.le_rfl, Pr.le_rfl, Pr.le_rfl, trivial⟩, Pick.refl _⟩⟩
            · replace h4l := iteF hc23 h4l
              refine W_skip ?_
              exact ⟨(mget x22 0 x15), x15, h4l, ⟨⟨Pr.le_rfl, Pr.le_rfl, Pr.le_rfl, Pr.le_rfl, Pr.le_rfl, Pr.le_rfl, Pr.le_rfl, Pr.le_rfl, Pr.le_rfl, Pr.le_rfl, trivial⟩, Pick.refl _⟩⟩
        · replace h4l := iteF hc21 h4l
          refine W_exit ?_
          obtain rfl := ho4 _ (Option.some.inj h4l).symm
          exact ⟨x15, x16, v13, h2l, ⟨⟨Pr.le_rfl, Pr.le_rfl, Pr.le_rfl, Pr.le_rfl, Pr.le_rfl, Pr.le_rfl, trivial⟩, Pick.refl _⟩⟩
    · replace h2l := iteF hc11 h2l
      refine W_exit ?_
      obtain rfl := ho2 _ (Option.some.inj h2l).symm
      exact ⟨x5, x6, v3, h, ⟨⟨Pr.le_rfl, trivial⟩, Pick.refl _⟩⟩
theorem lcs_none_ok (x1 : Int) (r : (List Int)) (h : lcs_none x1 = some r) : FnC Tryz.prog 124 [Pr.i64 x1] [] (fun q C' => ∃ u0, q = Pr.is u0 ∧ C' = [Own.vec u0 (Rp.int .i64) r 3]) := by
  refine fnc_introP (n := 16) (rs := [2]) Tryz.func124 rfl Tryz.ntmps124 ⟨by decide, Tryz.results124⟩ (by decide) (fun s0 => ?_)
  unfold lcs_none at h
  refine W_rs ?_
  refine rq (out := Pr.is (.slice none 0 0)) qAssign ?_
  refine W_rs ?_
  refine rq (out := Pr.i64 x1) qMove ?_
  obtain ⟨x2, hx2, h⟩ := bindSome h
  refine rMake (R := Rp.int .i64) (z := 0) el71 Tryz.zeroValue3 (fun _ => rfl) hx2 (fun v3 => ?_)
  refine rq (out := Pr.is v3) qAssign ?_
  refine W_seq ?_
  refine W_rs ?_
  refine rq (out := Pr.i64 x1) qMove ?_
  refine rq (out := Pr.i64 0) qMove ?_
  refine W_block ?_
  obtain ⟨z2l, hz2, h⟩ := bindSome h
  obtain ⟨n2, hN2⟩ := iter_some hz2
  clear hz2
  refine W_after 0 (fun e C => ∃ (x5 : List Int), lcs_none_k1 x5 = some r ∧ At [(3, Pr.is v3)] [Own.vec v3 (Rp.int .i64) x5 3] e C) ?_ ?_
  · rintro e C ⟨x5, h, hat1⟩
    refine W_at hat1 ?_
    clear hat1
    unfold lcs_none_k1 at h
    refine W_rs ?_
    refine rq (out := Pr.is v3) qMove ?_
    refine rq (out := Pr.is v3) qAssign ?_
    obtain rfl := Option.some.inj h
    exact W_ret ⟨.inl rfl, _, Pick.refl _, _, (Pr.le_rfl), v3, rfl, rfl⟩
  · refine W_loop (fun m e C => ∃ (x4 : Int), ∃ (x5 : List Int), IterN (fun s => lcs_none_l2 x1 s.1 s.2) m (x4, x5) = some z2l ∧ At [(3, Pr.is v3), (7, Pr.i64 x1), (8, Pr.i64 x4)] [Own.vec v3 (Rp.int .i64) x5 3] e C) n2 ⟨0, (List.replicate x2 0), hN2, ⟨⟨Pr.le_rfl, Pr.le_rfl, Pr.le_rfl, trivial⟩, Pick.refl _⟩⟩ ?_
    clear hN2
    rintro m e C ⟨x4, x5, hN2, hatl2⟩
    refine W_at hatl2 ?_
    clear hatl2
    obtain ⟨m2, w2l, rfl, h2l, hn2, ho2⟩ := iterN_some hN2
    clear hN2
    replace h2l : lcs_none_l2 x1 x4 x5 = some w2l := h2l
    unfold lcs_none_l2 at h2l
    refine W_rs ?_
    refine rq (out := Pr.bool (decide (x4 < x1))) qInt ?_
    refine W_seq ?_
    refine W_cond (b := decide (x4 < x1)) rfl (fun hc8 => ?_) (fun hc8 => ?_)
    · replace h2l := iteT hc8 h2l
      refine W_skip ?_
      refine W_seq ?_
      refine W_block ?_
      refine W_rs ?_
      refine rq (out := Pr.i64 x4) qMove ?_
      refine rq (out := Pr.i64 x4) qAssign ?_
      refine W_r ?_
      refine rq (out := Pr.is v3) qMove ?_
      refine rq (out := Pr.i64 x4) qMove ?_
      obtain ⟨x9, hx9, h2l⟩ := bindSome h2l
      refine rq (out := Pr.vpt v3 (Int.toNat x4 * (Rp.int .i64).size)) (qIdxV 0 (R := Rp.int .i64) (l := x5) Tryz.underlying71 Tryz.sizeOf3 hx9) ?_
      refine rStoreE (R := Rp.int .i64) (R' := Rp.int .i64) (l := x5) (a := x9) (y := (-1)) (o := 0) 0 Tryz.sizeOf3 (Upd.refl _) hx9 rfl ?_
      refine W_r ?_
      refine rq (out := Pr.i64 (w64 (x4 + 1))) qInt ?_
      refine rq (out := Pr.i64 (w64 (x4 + 1))) qMove ?_
      exact ⟨m2, Nat.lt_succ_self _, w64 (x4 + 1), (List.set x5 (Int.toNat x4) (-1)), hn2 _ (Option.some.inj h2l).symm, ⟨⟨Pr.le_rfl, Pr.le_rfl, Pr.le_rfl, trivial⟩, Pick.refl _⟩⟩
    · replace h2l := iteF hc8 h2l
      refine W_exit ?_
      obtain rfl := ho2 _ (Option.some.inj h2l).symm
      exact ⟨x5, h, ⟨⟨Pr.le_rfl, trivial⟩, Pick.refl _⟩⟩
theorem lcs_ends_ok (x1 : List Int) (x2 : List Int) (x4 : List Int) (v3 : Value) (r : Int × Int × (List Int)) (h : lcs_ends x1 x2 x4 = some r) : FnC Tryz.prog 125 [Pr.lst (Rp.int .i64) x1, Pr.lst (Rp.int .i64) x2, Pr.is v3] [Own.vec v3 (Rp.int .i64) x4 3] (fun q C' => q = Pr.tup [Pr.i64 r.1, Pr.i64 r.2.1] ∧ C' = [Own.vec v3 (Rp.int .i64) r.2.2 3]) := by
  refine fnc_introP (n := 84) (rs := [6, 7]) Tryz.func125 rfl Tryz.ntmps125 ⟨by decide, Tryz.results125⟩ (by decide) (fun s0 => ?_)
  unfold lcs_ends at h
  refine W_rs ?_
  refine rq (out := Pr.i64 0) qAssign ?_
  refine rq (out := Pr.i64 0) qAssign ?_
  refine W_rs ?_
  refine rq (out := Pr.i64 0) qAssign ?_
  refine W_seq ?_
  refine W_block ?_
  obtain ⟨z7l, hz7, h⟩ := bindSome h
  obtain ⟨n7, hN7⟩ := iter_some hz7
  clear hz7
  refine W_after 0 (fun e C => ∃ (x5 : Int), ∃ (x6 : List Int), lcs_ends_k6 x2 x1 x5 x6 = some r ∧ At [(0, Pr.lst (Rp.int .i64) x1), (1, Pr.lst (Rp.int .i64) x2), (2, Pr.is v3), (8, Pr.i64 x5)] [Own.vec v3 (Rp.int .i64) x6 3] e C) ?_ ?_
  · rintro e C ⟨x5, x6, h, hat6⟩
    refine W_at hat6 ?_
    clear hat6
    unfold lcs_ends_k6 at h
    refine W_rs ?_
    refine rq (out := Pr.i64 0) qAssign ?_
    refine W_seq ?_
    refine W_block ?_
    obtain ⟨z4l, hz4, h⟩ := bindSome h
    obtain ⟨n4, hN4⟩ := iter_some hz4
    clear hz4
    refine W_after 2 (fun e C => ∃ (x15 : Int), lcs_ends_k3 x1 x2 x6 x5 x15 = some r ∧ At [(0, Pr.lst (Rp.int .i64) x1), (1, Pr.lst (Rp.int .i64) x2), (2, Pr.is v3), (8, Pr.i64 x5), (9, Pr.i64 x15)] [Own.vec v3 (Rp.int .i64) x6 3] e C) ?_ ?_
    · rintro e C ⟨x15, h, hat3⟩
      refine W_at hat3 ?_
      clear hat3
      unfold lcs_ends_k3 at h
      refine W_seq ?_
      refine W_rs ?_
      refine rq (out := Pr.i64 x15) qMove ?_
      refine rq (out := Pr.i64 0) qMove ?_
      refine W_block ?_
      obtain ⟨z2l, hz2, h⟩ := bindSome h
      obtain ⟨n2, hN2⟩ := iter_some hz2
      clear hz2
      refine W_after 4 (fun e C => ∃ (x23 : List Int), lcs_ends_k1 x5 x15 x23 = some r ∧ At [(2, Pr.is v3), (8, Pr.i64 x5), (9, Pr.i64 x15)] [Own.vec v3 (Rp.int .i64) x23 3] e C) ?_ ?_
      · rintro e C ⟨x23, h, hat1⟩
        refine W_at hat1 ?_
        clear hat1
        unfold lcs_ends_k1 at h
        refine W_rs ?_
        refine rq (out := Pr.i64 x5) qMove ?_
        refine rq (out := Pr.i64 x15) qMove ?_
        refine rq (out := Pr.i64 x5) qAssign ?_
        refine rq (out := Pr.i64 x15) qAssign ?_
        obtain rfl := Option.some.inj h
        exact W_ret ⟨.inl rfl, _, Pick.refl _, _, (Pr.le_rfl), rfl, rfl⟩
      · refine W_loop (fun m e C => ∃ (x22 : Int), ∃ (x23 : List Int), IterN (fun s => lcs_ends_l2 x15 x1 x2 s.1 s.2) m (x22, x23) = some z2l ∧ At [(0, Pr.lst (Rp.int .i64) x1), (1, Pr.lst (Rp.int .i64) x2), (2, Pr.is v3), (8, Pr.i64 x5), (9, Pr.i64 x15), (65, Pr.i64 x15), (66, Pr.i64 x22)] [Own.vec v3 (Rp.int .i64) x23 3] e C) n2 ⟨0, x6, hN2, ⟨⟨Pr.le_rfl, Pr.le_rfl, Pr.le_rfl, Pr.le_rfl, Pr.le_rfl, Pr.le_rfl, Pr.le_rfl, trivial⟩, Pick.refl _⟩⟩ ?_
        clear hN2
        rintro m e C ⟨x22, x23, hN2, hatl2⟩
        refine W_at hatl2 ?_
        clear hatl2
        obtain ⟨m2, w2l, rfl, h2l, hn2, ho2⟩ := iterN_some hN2
        clear hN2
        replace h2l : lcs_ends_l2 x15 x1 x2 x22 x23 = some w2l := h2l
        unfold lcs_ends_l2 at h2l
        refine W_rs ?_
        refine rq (out := Pr.bool (decide (x22 < x15))) qInt ?_
        refine W_seq ?_
        refine W_cond (b := decide (x22 < x15)) rfl (fun hc26 => ?_) (fun hc26 => ?_)
        · replace h2l := iteT hc26 h2l
          refine W_skip ?_
          refine W_seq ?_
          refine W_block ?_
          refine W_rs ?_
          refine rq (out := Pr.i64 x22) qMove ?_
          refine rq (out := Pr.i64 x22) qAssign ?_
          refine W_r ?_
          refine rq (out := Pr.is v3) qMove ?_
          refine rq (out := Pr.lst (Rp.int .i64) x1) qMove ?_
          refine rq (out := Pr.i64 (x1.length : Int)) (qLenL rfl Tryz.underlying71) ?_
          refine rq (out := Pr.i64 (w64 ((x1.length : Int) - 1))) qInt ?_
          refine rq (out := Pr.i64 x22) qMove ?_
          refine rq (out := Pr.i64 (w64 ((w64 ((x1.length : Int) - 1)) - x22))) qInt ?_
          refine rq (out := Pr.lst (Rp.int .i64) x2) qMove ?_
          refine rq (out := Pr.i64 (x2.length : Int)) (qLenL rfl Tryz.underlying71) ?_
          refine rq (out := Pr.i64 (w64 ((x2.length : Int) - 1))) qInt ?_
          refine rq (out := Pr.i64 x22) qMove ?_
          refine rq (out := Pr.i64 (w64 ((w64 ((x2.length : Int) - 1)) - x22))) qInt ?_
          obtain ⟨x27, hx27, h2l⟩ := bindSome h2l
          refine rq (out := Pr.vpt v3 (Int.toNat (w64 ((w64 ((x1.length : Int) - 1)) - x22)) * (Rp.int .i64).size)) (qIdxV 0 (R := Rp.int .i64) (l := x23) Tryz.underlying71 Tryz.sizeOf3 hx27) ?_
          refine rStoreE (R := Rp.int .i64) (R' := Rp.int .i64) (l := x23) (a := x27) (y := w64 ((w64 ((x2.length : Int) - 1)) - x22)) (o := 0) 0 Tryz.sizeOf3 (Upd.refl _) hx27 rfl ?_
          refine W_r ?_
          refine rq (out := Pr.i64 (w64 (x22 + 1))) qInt ?_
          refine rq (out := Pr.i64 (w64 (x22 + 1))) qMove ?_
          exact ⟨m2, Nat.lt_succ_self _, w64 (x22 + 1), (List.set x23 (Int.toNat (w64 ((w64 ((x1.length : Int) - 1)) - x22))) (w64 ((w64 ((x2.length : Int) - 1)) - x22))), hn2 _ (Option.some.inj h2l).symm, ⟨⟨Pr.le_rfl, Pr.le_rfl, Pr.le_rfl, Pr.le_rfl, Pr.le_rfl, Pr.le_rfl, Pr.le_rfl, trivial⟩, Pick.refl _⟩⟩
        · replace h2l := iteF hc26 h2l
          refine W_exit ?_
          obtain rfl := ho2 _ (Option.some.inj h2l).symm
          exact ⟨x23, h, ⟨⟨Pr.le_rfl, Pr.le_rfl, Pr.le_rfl, trivial⟩, Pick.refl _⟩⟩
    · refine W_loop (fun m e C => ∃ (x15 : Int), IterN (fun s => lcs_ends_l4 x2 x1 x5 s) m x15 = some z4l ∧ At [(0, Pr.lst (Rp.int .i64) x1), (1, Pr.lst (Rp.int .i64) x2), (2, Pr.is v3), (8, Pr.i64 x5), (9, Pr.i64 x15)] [Own.vec v3 (Rp.int .i64) x6 3] e C) n4 ⟨0, hN4, ⟨⟨Pr.le_rfl, Pr.le_rfl, Pr.le_rfl, Pr.le_rfl, Pr.le_rfl, trivial⟩, Pick.refl _⟩⟩ ?_
      clear hN4
      rintro m e C ⟨x15, hN4, hatl4⟩
      refine W_at hatl4 ?_
      clear hatl4
      obtain ⟨m4, w4l, rfl, h4l, hn4, ho4⟩ := iterN_some hN4
      clear hN4
      replace h4l : lcs_ends_l4 x2 x1 x5 x15 = some w4l := h4l
      unfold lcs_ends_l4 at h4l
      refine W_seq ?_
      refine W_join (fun e C => ∃ (x20 : Bool), lcs_ends_j5 x15 x20 = some w4l ∧ At [(0, Pr.lst (Rp.int .i64) x1), (1, Pr.lst (Rp.int .i64) x2), (2, Pr.is v3), (8, Pr.i64 x5), (9, Pr.i64 x15), (62, Pr.bool x20)] [Own.vec v3 (Rp.int .i64) x6 3] e C) ?_ ?_
      · rintro e C ⟨x20, h4l, hat5⟩
        refine W_at hat5 ?_
        clear hat5
        unfold lcs_ends_j5 at h4l
        refine W_cond (b := x20) rfl (fun hc21 => ?_) (fun hc21 => ?_)
        · replace h4l := iteT hc21 h4l
          refine W_skip ?_
          refine W_block ?_
          refine W_r ?_
          refine rq (out := Pr.i64 x15) qMove ?_
          refine rq (out := Pr.i64 (w64 (x15 + 1))) qInt ?_
          refine rq (out := Pr.i64 (w64 (x15 + 1))) qAssign ?_
          exact ⟨m4, Nat.lt_succ_self _, w64 (x15 + 1), hn4 _ (Option.some.inj h4l).symm, ⟨⟨Pr.le_rfl, Pr.le_rfl, Pr.le_rfl, Pr.le_rfl, Pr.le_rfl, trivial⟩, Pick.refl _⟩⟩
        · replace h4l := iteF hc21 h4l
          refine W_exit ?_
          obtain rfl := ho4 _ (Option.some.inj h4l).symm
          exact ⟨x15, h, ⟨⟨Pr.le_rfl, Pr.le_rfl, Pr.le_rfl, Pr.le_rfl, Pr.le_rfl, trivial⟩, Pick.refl _⟩⟩
      · refine W_draw 28 hmx (by kernel_rfl) (by kernel_rfl) ?_
        refine qq (out := Pr.i64 x15) qMove ?_
        refine qq (out := Pr.lst (Rp.int .i64) x1) qMove ?_
        refine qq (out := Pr.i64 (x1.length : Int)) (qLenL rfl Tryz.underlying71) ?_
        refine qq (out := Pr.lst (Rp.int .i64) x2) qMove ?_
        refine qq (out := Pr.i64 (x2.length : Int)) (qLenL rfl Tryz.underlying71) ?_
        refine qq (out := Pr.i64 (if (x2.length : Int) < (x1.length : Int) then (x2.length : Int) else (x1.length : Int))) (qMin (a := (x1.length : Int)) (b := (x2.length : Int))) ?_
        refine qq (out := Pr.i64 x5) qMove ?_
        refine qq (out := Pr.i64 (w64 ((if (x2.length : Int) < (x1.length : Int) then (x2.length : Int) else (x1.length : Int)) - x5))) qInt ?_
        refine qq (out := Pr.bool (decide (x15 < (w64 ((if (x2.length : Int) < (x1.length : Int) then (x2.length : Int) else (x1.length : Int)) - x5))))) qInt ?_
        refine qq (out := Pr.bool (decide (x15 < (w64 ((if (x2.length : Int) < (x1.length : Int) then (x2.length : Int) else (x1.length : Int)) - x5))))) qMove ?_
        rcases iteSome h4l with ⟨hc17, h4l⟩ | ⟨hc17, h4l⟩
        · refine qqg hc17 (out := Pr.lst (Rp.int .i64) x1) qMove ?_
          refine qqg hc17 (out := Pr.lst (Rp.int .i64) x1) qMove ?_
          refine qqg hc17 (out := Pr.i64 (x1.length : Int)) (qLenL rfl Tryz.underlying71) ?_
          refine qqg hc17 (out := Pr.i64 (w64 ((x1.length : Int) - 1))) qInt ?_
          refine qqg hc17 (out := Pr.i64 x15) qMove ?_
          refine qqg hc17 (out := Pr.i64 (w64 ((w64 ((x1.length : Int) - 1)) - x15))) qInt ?_
          obtain ⟨x18, hx18, h4l⟩ := bindSome h4l
          refine qqg hc17 (out := Pr.cpt (Rp.int .i64) x18) (qIdxA (R := Rp.int .i64) (l := x1) Tryz.underlying71 Tryz.sizeOf3 hx18) ?_
          refine qqg hc17 (out := Pr.i64 x18) (qLoadC (R := Rp.int .i64) (a := x18) ty3) ?_
          refine qqg hc17 (out := Pr.lst (Rp.int .i64) x2) qMove ?_
          refine qqg hc17 (out := Pr.lst (Rp.int .i64) x2) qMove ?_
          refine qqg hc17 (out := Pr.i64 (x2.length : Int)) (qLenL rfl Tryz.underlying71) ?_
          refine qqg hc17 (out := Pr.i64 (w64 ((x2.length : Int) - 1))) qInt ?_
          refine qqg hc17 (out := Pr.i64 x15) qMove ?_
          refine qqg hc17 (out := Pr.i64 (w64 ((w64 ((x2.length : Int) - 1)) - x15))) qInt ?_
          obtain ⟨x19, hx19, h4l⟩ := bindSome h4l
          refine qqg hc17 (out := Pr.cpt (Rp.int .i64) x19) (qIdxA (R := Rp.int .i64) (l := x2) Tryz.underlying71 Tryz.sizeOf3 hx19) ?_
          refine qqg hc17 (out := Pr.i64 x19) (qLoadC (R := Rp.int .i64) (a := x19) ty3) ?_
          refine qqg hc17 (out := Pr.bool (x18 == x19)) qInt ?_
          refine qq (out := Pr.bool (x18 == x19)) (qPickT hc17) ?_
          exact ⟨x18 == x19, h4l, ⟨⟨Pr.le_rfl, Pr.le_rfl, Pr.le_rfl, Pr.le_rfl, Pr.le_rfl, Pr.le_rfl, trivial⟩, Pick.refl _⟩⟩
        · refine qqno (neT hc17) ?_
          refine qqno (neT hc17) ?_
          refine qqno (neT hc17) ?_
          refine qqno (neT hc17) ?_
          refine qqno (neT hc17) ?_
          refine qqno (neT hc17) ?_
          refine qqno (neT hc17) ?_
          refine qqno (neT hc17) ?_
          refine qqno (neT hc17) ?_
          refine qqno (neT hc17) ?_
          refine qqno (neT hc17) ?_
          refine qqno (neT hc17) ?_
          refine qqno (neT hc17) ?_
          refine qqno (neT hc17) ?_
          refine qqno (neT hc17) ?_
          refine qqno (neT hc17) ?_
          refine qqno (neT hc17) ?_
          refine qq (out := Pr.bool false) (qPickF hc17) ?_
          exact ⟨false, h4l, ⟨⟨Pr.le_rfl, Pr.le_rfl, Pr.le_rfl, Pr.le_rfl, Pr.le_rfl, Pr.le_rfl, trivial⟩, Pick.refl _⟩⟩
  · refine W_loop (fun m e C => ∃ (x5 : Int), ∃ (x6 : List Int), IterN (fun s => lcs_ends_l7 x2 x1 s.1 s.2) m (x5, x6) = some z7l ∧ At [(0, Pr.lst (Rp.int .i64) x1), (1, Pr.lst (Rp.int .i64) x2), (2, Pr.is v3), (8, Pr.i64 x5)] [Own.vec v3 (Rp.int .i64) x6 3] e C) n7 ⟨0, x4, hN7, ⟨⟨Pr.le_rfl, Pr.le_rfl, Pr.le_rfl, Pr.le_rfl, trivial⟩, Pick.refl _⟩⟩ ?_
    clear hN7
    rintro m e C ⟨x5, x6, hN7, hatl7⟩
    refine W_at hatl7 ?_
    clear hatl7
    obtain ⟨m7, w7l, rfl, h7l, hn7, ho7⟩ := iterN_some hN7
    clear hN7
    replace h7l : lcs_ends_l7 x2 x1 x5 x6 = some w7l := h7l
    unfold lcs_ends_l7 at h7l
    refine W_seq ?_
    refine W_join (fun e C => ∃ (x12 : Bool), lcs_ends_j8 x6 x5 x12 = some w7l ∧ At [(0, Pr.lst (Rp.int .i64) x1), (1, Pr.lst (Rp.int .i64) x2), (2, Pr.is v3), (8, Pr.i64 x5), (28, Pr.bool x12)] [Own.vec v3 (Rp.int .i64) x6 3] e C) ?_ ?_
    · rintro e C ⟨x12, h7l, hat8⟩
      refine W_at hat8 ?_
      clear hat8
      unfold lcs_ends_j8 at h7l
      refine W_cond (b := x12) rfl (fun hc13 => ?_) (fun hc13 => ?_)
      · replace h7l := iteT hc13 h7l
        refine W_skip ?_
        refine W_block ?_
        refine W_rs ?_
        refine rq (out := Pr.is v3) qMove ?_
        refine rq (out := Pr.i64 x5) qMove ?_
        refine rq (out := Pr.i64 x5) qMove ?_
        obtain ⟨x14, hx14, h7l⟩ := bindSome h7l
        refine rq (out := Pr.vpt v3 (Int.toNat x5 * (Rp.int .i64).size)) (qIdxV 0 (R := Rp.int .i64) (l := x6) Tryz.underlying71 Tryz.sizeOf3 hx14) ?_
        refine rStoreE (R := Rp.int .i64) (R' := Rp.int .i64) (l := x6) (a := x14) (y := x5) (o := 0) 0 Tryz.sizeOf3 (Upd.refl _) hx14 rfl ?_
        refine W_r ?_
        refine rq (out := Pr.i64 x5) qMove ?_
        refine rq (out := Pr.i64 (w64 (x5 + 1))) qInt ?_
        refine rq (out := Pr.i64 (w64 (x5 + 1))) qAssign ?_
        exact ⟨m7, Nat.lt_succ_self _, w64 (x5 + 1), (List.set x6 (Int.toNat x5) x5), hn7 _ (Option.some.inj h7l).symm, ⟨⟨Pr.le_rfl, Pr.le_rfl, Pr.le_rfl, Pr.le_rfl, trivial⟩, Pick.refl _⟩⟩
      · replace h7l := iteF hc13 h7l
        refine W_exit ?_
        obtain rfl := ho7 _ (Option.some.inj h7l).symm
        exact ⟨x5, x6, h, ⟨⟨Pr.le_rfl, Pr.le_rfl, Pr.le_rfl, Pr.le_rfl, trivial⟩, Pick.refl _⟩⟩
    · refine W_draw 18 hmx (by kernel_rfl) (by kernel_rfl) ?_
      refine qq (out := Pr.i64 x5) qMove ?_
      refine qq (out := Pr.lst (Rp.int .i64) x1) qMove ?_
      refine qq (out := Pr.i64 (x1.length : Int)) (qLenL rfl Tryz.underlying71) ?_
      refine qq (out := Pr.lst (Rp.int .i64) x2) qMove ?_
      refine qq (out := Pr.i64 (x2.length : Int)) (qLenL rfl Tryz.underlying71) ?_
      refine qq (out := Pr.i64 (if (x2.length : Int) < (x1.length : Int) then (x2.length : Int) else (x1.length : Int))) (qMin (a := (x1.length : Int)) (b := (x2.length : Int))) ?_
      refine qq (out := Pr.bool (decide (x5 < (if (x2.length : Int) < (x1.length : Int) then (x2.length : Int) else (x1.length : Int))))) qInt ?_
      refine qq (out := Pr.bool (decide (x5 < (if (x2.length : Int) < (x1.length : Int) then (x2.length : Int) else (x1.length : Int))))) qMove ?_
      rcases iteSome h7l with ⟨hc9, h7l⟩ | ⟨hc9, h7l⟩
      · refine qqg hc9 (out := Pr.lst (Rp.int .i64) x1) qMove ?_
        refine qqg hc9 (out := Pr.i64 x5) qMove ?_
        obtain ⟨x10, hx10, h7l⟩ := bindSome h7l
        refine qqg hc9 (out := Pr.cpt (Rp.int .i64) x10) (qIdxA (R := Rp.int .i64) (l := x1) Tryz.underlying71 Tryz.sizeOf3 hx10) ?_
        refine qqg hc9 (out := Pr.i64 x10) (qLoadC (R := Rp.int .i64) (a := x10) ty3) ?_
        refine qqg hc9 (out := Pr.lst (Rp.int .i64) x2) qMove ?_
        refine qqg hc9 (out := Pr.i64 x5) qMove ?_
        obtain ⟨x11, hx11, h7l⟩ := bindSome h7l
        refine qqg hc9 (out := Pr.cpt (Rp.int .i64) x11) (qIdxA (R := Rp.int .i64) (l := x2) Tryz.underlying71 Tryz.sizeOf3 hx11) ?_
        refine qqg hc9 (out := Pr.i64 x11) (qLoadC (R := Rp.int .i64) (a := x11) ty3) ?_
        refine qqg hc9 (out := Pr.bool (x10 == x11)) qInt ?_
        refine qq (out := Pr.bool (x10 == x11)) (qPickT hc9) ?_
        exact ⟨x10 == x11, h7l, ⟨⟨Pr.le_rfl, Pr.le_rfl, Pr.le_rfl, Pr.le_rfl, Pr.le_rfl, trivial⟩, Pick.refl _⟩⟩
      · refine qqno (neT hc9) ?_
        refine qqno (neT hc9) ?_
        refine qqno (neT hc9) ?_
        refine qqno (neT hc9) ?_
        refine qqno (neT hc9) ?_
        refine qqno (neT hc9) ?_
        refine qqno (neT hc9) ?_
        refine qqno (neT hc9) ?_
        refine qqno (neT hc9) ?_
        refine qq (out := Pr.bool false) (qPickF hc9) ?_
        exact ⟨false, h7l, ⟨⟨Pr.le_rfl, Pr.le_rfl, Pr.le_rfl, Pr.le_rfl, Pr.le_rfl, trivial⟩, Pick.refl _⟩⟩
theorem lcs_Match_ok (x1 : List Int) (x2 : List Int) (r : (List Int)) (h : lcs_Match x1 x2 = some r) : FnP Tryz.prog 108 [Pr.lst (Rp.int .i64) x1, Pr.lst (Rp.int .i64) x2] (Pr.lst (Rp.int .i64) r) := by
  refine fn_intro (n := 79) (rs := [4]) Tryz.func108 rfl Tryz.ntmps108 ⟨by decide, Tryz.results108⟩ (by decide) (fun s0 => ?_)
  unfold lcs_Match at h
  refine W_rs ?_
  refine rq (out := Pr.is (.slice none 0 0)) qAssign ?_
  refine W_rs ?_
  refine rq (out := Pr.lst (Rp.int .i64) x1) qMove ?_
  refine rq (out := Pr.i64 (x1.length : Int)) (qLenL rfl Tryz.underlying71) ?_
  obtain ⟨x3, hx3, h⟩ := bindSome h
  refine rCallC [] (lcs_none_ok (x1.length : Int) _ hx3) (fun q C' hq => ?_)
  obtain ⟨v4, rfl, rfl⟩ := hq
  refine rq (out := Pr.is v4) qAssign ?_
  refine W_seq ?_
  refine W_join (fun e C => ∃ (x6 : Bool), lcs_Match_j6 x1 x2 x3 x6 = some r ∧ At [(0, Pr.lst (Rp.int .i64) x1), (1, Pr.lst (Rp.int .i64) x2), (5, Pr.is v4), (19, Pr.bool x6)] [Own.vec v4 (Rp.int .i64) x3 3] e C) ?_ ?_
  · rintro e C ⟨x6, h, hat6⟩
    refine W_at hat6 ?_
    clear hat6
    unfold lcs_Match_j6 at h
    refine W_cond (b := x6) rfl (fun hc7 => ?_) (fun hc7 => ?_)
    · replace h := iteT hc7 h
      refine W_rs ?_
      refine rq (out := Pr.lst (Rp.int .i64) x1) qMove ?_
      refine rq (out := Pr.lst (Rp.int .i64) x2) qMove ?_
      refine rq (out := Pr.is v4) qMove ?_
      obtain ⟨⟨x8, x9, x10⟩, hx8, h⟩ := bindSome h
      refine rCallC [0] (lcs_ends_ok x1 x2 x3 v4 _ hx8) (fun q C' hq => ?_)
      obtain ⟨rfl, rfl⟩ := hq
      refine W_rs ?_
      refine rq (out := Pr.is v4) qMove ?_
      refine rq (out := Pr.is v4) qAssign ?_
      refine W_rel 0 [4] ?_ rfl ⟨rfl, trivial⟩
      obtain rfl := Option.some.inj h
      exact W_ret ⟨rfl, Pr.le_rfl⟩
    · replace h := iteF hc7 h
      refine W_skip ?_
      refine W_rs ?_
      refine rq (out := Pr.lst (Rp.int .i64) x1) qMove ?_
      refine rq (out := Pr.lst (Rp.int .i64) x2) qMove ?_
      obtain ⟨x11, hx11, h⟩ := bindSome h
      refine rq (out := Pr.lst (Rp.list (Rp.int .i32)) x11) (qCall (lcs_left_ok x1 x2 _ hx11)) ?_
      refine rq (out := Pr.lst (Rp.list (Rp.int .i32)) x11) qAssign ?_
      refine W_seq ?_
      refine W_rs ?_
      refine rq (out := Pr.i64 0) qAssign ?_
      refine rq (out := Pr.i64 0) qAssign ?_
      refine W_block ?_
      obtain ⟨z2l, hz2, h⟩ := bindSome h
      obtain ⟨n2, hN2⟩ := iter_some hz2
      clear hz2
      refine W_after 0 (fun e C => ∃ (x14 : List Int), lcs_Match_k1 x14 = some r ∧ At [(5, Pr.is v4)] [Own.vec v4 (Rp.int .i64) x14 3] e C) ?_ ?_
      · rintro e C ⟨x14, h, hat1⟩
        refine W_at hat1 ?_
        clear hat1
        unfold lcs_Match_k1 at h
        refine W_rs ?_
        refine rq (out := Pr.is v4) qMove ?_
        refine rq (out := Pr.is v4) qAssign ?_
        refine W_rel 0 [4] ?_ rfl ⟨rfl, trivial⟩
        obtain rfl := Option.some.inj h
        exact W_ret ⟨rfl, Pr.le_rfl⟩
      · refine W_loop (fun m e C => ∃ (x12 : Int), ∃ (x13 : Int), ∃ (x14 : List Int), IterN (fun s => lcs_Match_l2 x1 x2 x11 s.1 s.2.1 s.2.2) m (x12, x13, x14) = some z2l ∧ At [(0, Pr.lst (Rp.int .i64) x1), (1, Pr.lst (Rp.int .i64) x2), (5, Pr.is v4), (6, Pr.lst (Rp.list (Rp.int .i32)) x11), (7, Pr.i64 x12), (8, Pr.i64 x13)] [Own.vec v4 (Rp.int .i64) x14 3] e C) n2 ⟨0, 0, x3, hN2, ⟨⟨Pr.le_rfl, Pr.le_rfl, Pr.le_rfl, Pr.le_rfl, Pr.le_rfl, Pr.le_rfl, trivial⟩, Pick.refl _⟩⟩ ?_
        clear hN2
        rintro m e C ⟨x12, x13, x14, hN2, hatl2⟩
        refine W_at hatl2 ?_
        clear hatl2
        obtain ⟨m2, w2l, rfl, h2l, hn2, ho2⟩ := iterN_some hN2
        clear hN2
        replace h2l : lcs_Match_l2 x1 x2 x11 x12 x13 x14 = some w2l := h2l
        unfold lcs_Match_l2 at h2l
        refine W_seq ?_
        refine W_join (fun e C => ∃ (x19 : Bool), lcs_Match_j5 x1 x12 x2 x13 x14 x11 x19 = some w2l ∧ At [(0, Pr.lst (Rp.int .i64) x1), (1, Pr.lst (Rp.int .i64) x2), (5, Pr.is v4), (6, Pr.lst (Rp.list (Rp.int .i32)) x11), (7, Pr.i64 x12), (8, Pr.i64 x13), (37, Pr.bool x19)] [Own.vec v4 (Rp.int .i64) x14 3] e C) ?_ ?_
        · rintro e C ⟨x19, h2l, hat5⟩
          refine W_at hat5 ?_
          clear hat5
          unfold lcs_Match_j5 at h2l
          refine W_cond (b := x19) rfl (fun hc20 => ?_) (fun hc20 => ?_)
          · replace h2l := iteT hc20 h2l
            refine W_skip ?_
            refine W_block ?_
            refine W_block ?_
            refine W_join (fun e C => ∃ (x21 : Int), ∃ (x22 : Int), lcs_Match_j4 x14 x12 x13 x11 x21 x22 = some w2l ∧ At [(0, Pr.lst (Rp.int .i64) x1), (1, Pr.lst (Rp.int .i64) x2), (5, Pr.is v4), (6, Pr.lst (Rp.list (Rp.int .i32)) x11), (7, Pr.i64 x12), (8, Pr.i64 x13), (40, Pr.bool (x21 == x22))] [Own.vec v4 (Rp.int .i64) x14 3] e C) ?_ ?_
            · rintro e C ⟨x21, x22, h2l, hat4⟩
              refine W_at hat4 ?_
              clear hat4
              unfold lcs_Match_j4 at h2l
              refine W_cond (b := x21 == x22) rfl (fun hc23 => ?_) (fun hc23 => ?_)
              · replace h2l := iteT hc23 h2l
                refine W_rs ?_
                refine rq (out := Pr.is v4) qMove ?_
                refine rq (out := Pr.i64 x12) qMove ?_
                refine rq (out := Pr.i64 x13) qMove ?_
                obtain ⟨x24, hx24, h2l⟩ := bindSome h2l
                refine rq (out := Pr.vpt v4 (Int.toNat x12 * (Rp.int .i64).size)) (qIdxV 0 (R := Rp.int .i64) (l := x14) Tryz.underlying71 Tryz.sizeOf3 hx24) ?_
                refine rStoreE (R := Rp.int .i64) (R' := Rp.int .i64) (l := x14) (a := x24) (y := x13) (o := 0) 0 Tryz.sizeOf3 (Upd.refl _) hx24 rfl ?_
                refine W_r ?_
                refine rq (out := Pr.i64 x12) qMove ?_
                refine rq (out := Pr.i64 (w64 (x12 + 1))) qInt ?_
                refine rq (out := Pr.i64 x13) qMove ?_
                refine rq (out := Pr.i64 (w64 (x13 + 1))) qInt ?_
                refine rq (out := Pr.i64 (w64 (x12 + 1))) qAssign ?_
                refine rq (out := Pr.i64 (w64 (x13 + 1))) qAssign ?_
                exact ⟨m2, Nat.lt_succ_self _, w64 (x12 + 1), w64 (x13 + 1), (List.set x14 (Int.toNat x12) x13), hn2 _ (Option.some.inj h2l).symm, ⟨⟨Pr.le_rfl, Pr.le_rfl, Pr.le_rfl, Pr.le_rfl, Pr.le_rfl, Pr.le_rfl, trivial⟩, Pick.refl _⟩⟩
              · replace h2l := iteF hc23 h2l
                refine W_join (fun e C => ∃ (x26 : Int), ∃ (x28 : Int), lcs_Match_j3 x12 x13 x14 x26 x28 = some w2l ∧ At [(0, Pr.lst (Rp.int .i64) x1), (1, Pr.lst (Rp.int .i64) x2), (5, Pr.is v4), (6, Pr.lst (Rp.list (Rp.int .i32)) x11), (7, Pr.i64 x12), (8, Pr.i64 x13), (58, Pr.bool (decide (x26 ≥ x28)))] [Own.vec v4 (Rp.int .i64) x14 3] e C) ?_ ?_
                · rintro e C ⟨x26, x28, h2l, hat3⟩
                  refine W_at hat3 ?_
                  clear hat3
                  unfold lcs_Match_j3 at h2l
                  refine W_cond (b := decide (x26 ≥ x28)) rfl (fun hc29 => ?_) (fun hc29 => ?_)
                  · replace h2l := iteT hc29 h2l
                    refine W_r ?_
                    refine rq (out := Pr.i64 x12) qMove ?_
                    refine rq (out := Pr.i64 (w64 (x12 + 1))) qInt ?_
                    refine rq (out := Pr.i64 (w64 (x12 + 1))) qAssign ?_
                    exact ⟨m2, Nat.lt_succ_self _, w64 (x12 + 1), x13, x14, hn2 _ (Option.some.inj h2l).symm, ⟨⟨Pr.le_rfl, Pr.le_rfl, Pr.le_rfl, Pr.le_rfl, Pr.le_rfl, Pr.le_rfl, trivial⟩, Pick.refl _⟩⟩
                  · replace h2l := iteF hc29 h2l
                    refine W_r ?_
                    refine rq (out := Pr.i64 x13) qMove ?_
                    refine rq (out := Pr.i64 (w64 (x13 + 1))) qInt ?_
                    refine rq (out := Pr.i64 (w64 (x13 + 1))) qAssign ?_
                    exact ⟨m2, Nat.lt_succ_self _, x12, w64 (x13 + 1), x14, hn2 _ (Option.some.inj h2l).symm, ⟨⟨Pr.le_rfl, Pr.le_rfl, Pr.le_rfl, Pr.le_rfl, Pr.le_rfl, Pr.le_rfl, trivial⟩, Pick.refl _⟩⟩
                · refine W_draw 18 hmx (by kernel_rfl) (by kernel_rfl) ?_
                  refine qq (out := Pr.lst (Rp.list (Rp.int .i32)) x11) qMove ?_
                  refine qq (out := Pr.i64 x12) qMove ?_
                  refine qq (out := Pr.i64 (w64 (x12 + 1))) qInt ?_
                  obtain ⟨x25, hx25, h2l⟩ := bindSome h2l
                  refine qq (out := Pr.cpt (Rp.list (Rp.int .i32)) x25) (qIdxA (R := Rp.list (Rp.int .i32)) (l := x11) Tryz.underlying136 Tryz.sizeOf138 hx25) ?_
                  refine qq (out := Pr.lst (Rp.int .i32) x25) (qLoadC (R := Rp.list (Rp.int .i32)) (a := x25) ty138) ?_
                  refine qq (out := Pr.i64 x13) qMove ?_
                  obtain ⟨x26, hx26, h2l⟩ := bindSome h2l
                  refine qq (out := Pr.cpt (Rp.int .i32) x26) (qIdxA (R := Rp.int .i32) (l := x25) Tryz.underlying138 Tryz.sizeOf21 hx26) ?_
                  refine qq (out := Pr.int .i32 x26) (qLoadC (R := Rp.int .i32) (a := x26) ty21) ?_
                  refine qq (out := Pr.lst (Rp.list (Rp.int .i32)) x11) qMove ?_
                  refine qq (out := Pr.i64 x12) qMove ?_
                  obtain ⟨x27, hx27, h2l⟩ := bindSome h2l
                  refine qq (out := Pr.cpt (Rp.list (Rp.int .i32)) x27) (qIdxA (R := Rp.list (Rp.int .i32)) (l := x11) Tryz.underlying136 Tryz.sizeOf138 hx27) ?_
                  refine qq (out := Pr.lst (Rp.int .i32) x27) (qLoadC (R := Rp.list (Rp.int .i32)) (a := x27) ty138) ?_
                  refine qq (out := Pr.i64 x13) qMove ?_
                  refine qq (out := Pr.i64 (w64 (x13 + 1))) qInt ?_
                  obtain ⟨x28, hx28, h2l⟩ := bindSome h2l
                  refine qq (out := Pr.cpt (Rp.int .i32) x28) (qIdxA (R := Rp.int .i32) (l := x27) Tryz.underlying138 Tryz.sizeOf21 hx28) ?_
                  refine qq (out := Pr.int .i32 x28) (qLoadC (R := Rp.int .i32) (a := x28) ty21) ?_
                  refine qq (out := Pr.bool (decide (x26 ≥ x28))) qInt ?_
                  refine qq (out := Pr.bool (decide (x26 ≥ x28))) qAssign ?_
                  exact ⟨x26, x28, h2l, ⟨⟨Pr.le_rfl, Pr.le_rfl, Pr.le_rfl, Pr.le_rfl, Pr.le_rfl, Pr.le_rfl, Pr.le_rfl, trivial⟩, Pick.refl _⟩⟩
            · refine W_draw 10 hmx (by kernel_rfl) (by kernel_rfl) ?_
              refine qq (out := Pr.lst (Rp.int .i64) x1) qMove ?_
              refine qq (out := Pr.i64 x12) qMove ?_
              obtain ⟨x21, hx21, h2l⟩ := bindSome h2l
              refine qq (out := Pr.cpt (Rp.int .i64) x21) (qIdxA (R := Rp.int .i64) (l := x1) Tryz.underlying71 Tryz.sizeOf3 hx21) ?_
              refine qq (out := Pr.i64 x21) (qLoadC (R := Rp.int .i64) (a := x21) ty3) ?_
              refine qq (out := Pr.lst (Rp.int .i64) x2) qMove ?_
              refine qq (out := Pr.i64 x13) qMove ?_
              obtain ⟨x22, hx22, h2l⟩ := bindSome h2l
              refine qq (out := Pr.cpt (Rp.int .i64) x22) (qIdxA (R := Rp.int .i64) (l := x2) Tryz.underlying71 Tryz.sizeOf3 hx22) ?_
              refine qq (out := Pr.i64 x22) (qLoadC (R := Rp.int .i64) (a := x22) ty3) ?_
              refine qq (out := Pr.bool (x21 == x22)) qInt ?_
              refine qq (out := Pr.bool (x21 == x22)) qAssign ?_
              exact ⟨x21, x22, h2l, ⟨⟨Pr.le_rfl, Pr.le_rfl, Pr.le_rfl, Pr.le_rfl, Pr.le_rfl, Pr.le_rfl, Pr.le_rfl, trivial⟩, Pick.refl _⟩⟩
          · replace h2l := iteF hc20 h2l
            refine W_exit ?_
            obtain rfl := ho2 _ (Option.some.inj h2l).symm
            exact ⟨x14, h, ⟨⟨Pr.le_rfl, trivial⟩, Pick.refl _⟩⟩
        · refine W_r ?_
          refine rq (out := Pr.i64 x12) qMove ?_
          refine rq (out := Pr.lst (Rp.int .i64) x1) qMove ?_
          refine rq (out := Pr.i64 (x1.length : Int)) (qLenL rfl Tryz.underlying71) ?_
          refine rq (out := Pr.bool (decide (x12 < (x1.length : Int)))) qInt ?_
          refine rq (out := Pr.bool (decide (x12 < (x1.length : Int)))) qMove ?_
          rcases iteSome h2l with ⟨hc18, h2l⟩ | ⟨hc18, h2l⟩
          · refine rqg hc18 (out := Pr.i64 x13) qMove ?_
            refine rqg hc18 (out := Pr.lst (Rp.int .i64) x2) qMove ?_
            refine rqg hc18 (out := Pr.i64 (x2.length : Int)) (qLenL rfl Tryz.underlying71) ?_
            refine rqg hc18 (out := Pr.bool (decide (x13 < (x2.length : Int)))) qInt ?_
            refine rq (out := Pr.bool (decide (x13 < (x2.length : Int)))) (qPickT hc18) ?_
            exact ⟨decide (x13 < (x2.length : Int)), h2l, ⟨⟨Pr.le_rfl, Pr.le_rfl, Pr.le_rfl, Pr.le_rfl, Pr.le_rfl, Pr.le_rfl, Pr.le_rfl, trivial⟩, Pick.refl _⟩⟩
          · refine rno (neT hc18) ?_
            refine rno (neT hc18) ?_
            refine rno (neT hc18) ?_
            refine rno (neT hc18) ?_
            refine rq (out := Pr.bool false) (qPickF hc18) ?_
            exact ⟨false, h2l, ⟨⟨Pr.le_rfl, Pr.le_rfl, Pr.le_rfl, Pr.le_rfl, Pr.le_rfl, Pr.le_rfl, Pr.le_rfl, trivial⟩, Pick.refl _⟩⟩
  · refine W_r ?_
    refine rq (out := Pr.lst (Rp.int .i64) x1) qMove ?_
    refine rq (out := Pr.i64 (x1.length : Int)) (qLenL rfl Tryz.underlying71) ?_
    refine rq (out := Pr.bool (decide ((x1.length : Int) > 2000))) qInt ?_
    refine rq (out := Pr.bool (decide ((x1.length : Int) > 2000))) qMove ?_
    rcases iteSome h with ⟨hc5, h⟩ | ⟨hc5, h⟩
    · refine rno (neF hc5) ?_
      refine rno (neF hc5) ?_
      refine rno (neF hc5) ?_
      refine rq (out := Pr.bool true) (qPickT hc5) ?_
      exact ⟨true, h, ⟨⟨Pr.le_rfl, Pr.le_rfl, Pr.le_rfl, Pr.le_rfl, trivial⟩, Pick.refl _⟩⟩
    · refine rqg hc5 (out := Pr.lst (Rp.int .i64) x2) qMove ?_
      refine rqg hc5 (out := Pr.i64 (x2.length : Int)) (qLenL rfl Tryz.underlying71) ?_
      refine rqg hc5 (out := Pr.bool (decide ((x2.length : Int) > 2000))) qInt ?_
      refine rq (out := Pr.bool (decide ((x2.length : Int) > 2000))) (qPickF hc5) ?_
      exact ⟨decide ((x2.length : Int) > 2000), h, ⟨⟨Pr.le_rfl, Pr.le_rfl, Pr.le_rfl, Pr.le_rfl, trivial⟩, Pick.refl _⟩⟩
theorem lcs_Length_ok (x1 : List Int) (x2 : List Int) (r : Int) (h : lcs_Length x1 x2 = some r) : FnP Tryz.prog 93 [Pr.lst (Rp.int .i64) x1, Pr.lst (Rp.int .i64) x2] (Pr.i64 r) := by
  refine fn_intro (n := 22) (rs := [4]) Tryz.func93 rfl Tryz.ntmps93 ⟨by decide, Tryz.results93⟩ (by decide) (fun s0 => ?_)
  unfold lcs_Length at h
  refine W_rs ?_
  refine rq (out := Pr.i64 0) qAssign ?_
  refine W_rs ?_
  refine rq (out := Pr.i64 0) qAssign ?_
  refine W_seq ?_
  refine W_rs ?_
  refine rq (out := Pr.lst (Rp.int .i64) x1) qMove ?_
  refine rq (out := Pr.lst (Rp.int .i64) x2) qMove ?_
  obtain ⟨x3, hx3, h⟩ := bindSome h
  refine rq (out := Pr.lst (Rp.int .i64) x3) (qCall (lcs_Match_ok x1 x2 _ hx3)) ?_
  refine rq (out := Pr.i64 (x3.length : Int)) (qLenL rfl Tryz.underlying71) ?_
  refine rq (out := Pr.i64 0) qMove ?_
  refine W_block ?_
  obtain ⟨z2l, hz2, h⟩ := bindSome h
  obtain ⟨n2, hN2⟩ := iter_some hz2
  clear hz2
  refine W_after 0 (fun e C => ∃ (x4 : Int), lcs_Length_k1 x4 = some r ∧ At [(5, Pr.i64 x4)] [] e C) ?_ ?_
  · rintro e C ⟨x4, h, hat1⟩
    refine W_at hat1 ?_
    clear hat1
    unfold lcs_Length_k1 at h
    refine W_rs ?_
    refine rq (out := Pr.i64 x4) qMove ?_
    refine rq (out := Pr.i64 x4) qAssign ?_
    obtain rfl := Option.some.inj h
    exact W_ret ⟨rfl, Pr.le_rfl⟩
  · refine W_loop (fun m e C => ∃ (x4 : Int), ∃ (x5 : Int), IterN (fun s => lcs_Length_l2 x3 s.1 s.2) m (x4, x5) = some z2l ∧ At [(5, Pr.i64 x4), (10, Pr.lst (Rp.int .i64) x3), (11, Pr.i64 (x3.length : Int)), (12, Pr.i64 x5)] [] e C) n2 ⟨0, 0, hN2, ⟨⟨Pr.le_rfl, Pr.le_rfl, Pr.le_rfl, Pr.le_rfl, trivial⟩, Pick.refl _⟩⟩ ?_
    clear hN2
    rintro m e C ⟨x4, x5, hN2, hatl2⟩
    refine W_at hatl2 ?_
    clear hatl2
    obtain ⟨m2, w2l, rfl, h2l, hn2, ho2⟩ := iterN_some hN2
    clear hN2
    replace h2l : lcs_Length_l2 x3 x4 x5 = some w2l := h2l
    unfold lcs_Length_l2 at h2l
    refine W_rs ?_
    refine rq (out := Pr.bool (decide (x5 < (x3.length : Int)))) qInt ?_
    refine W_seq ?_
    refine W_cond (b := decide (x5 < (x3.length : Int))) rfl (fun hc8 => ?_) (fun hc8 => ?_)
    · replace h2l := iteT hc8 h2l
      refine W_skip ?_
      refine W_join (fun e C => ∃ (x11 : Int), lcs_Length_j3 x5 x11 = some w2l ∧ At [(5, Pr.i64 x11), (10, Pr.lst (Rp.int .i64) x3), (11, Pr.i64 (x3.length : Int)), (12, Pr.i64 x5)] [] e C) ?_ ?_
      · rintro e C ⟨x11, h2l, hat3⟩
        refine W_at hat3 ?_
        clear hat3
        unfold lcs_Length_j3 at h2l
        refine W_r ?_
        refine rq (out := Pr.i64 (w64 (x5 + 1))) qInt ?_
        refine rq (out := Pr.i64 (w64 (x5 + 1))) qMove ?_
        exact ⟨m2, Nat.lt_succ_self _, x11, w64 (x5 + 1), hn2 _ (Option.some.inj h2l).symm, ⟨⟨Pr.le_rfl, Pr.le_rfl, Pr.le_rfl, Pr.le_rfl, trivial⟩, Pick.refl _⟩⟩
      · refine W_block ?_
        refine W_rs ?_
        obtain ⟨x9, hx9, h2l⟩ := bindSome h2l
        refine rq (out := Pr.cpt (Rp.int .i64) x9) (qIdxA (R := Rp.int .i64) (l := x3) Tryz.underlying71 Tryz.sizeOf3 hx9) ?_
        refine rq (out := Pr.i64 x9) (qLoadC (R := Rp.int .i64) (a := x9) ty3) ?_
        refine rq (out := Pr.i64 x9) qAssign ?_
        refine W_rs ?_
        refine rq (out := Pr.i64 x9) qMove ?_
        refine rq (out := Pr.bool (decide (x9 ≥ 0))) qInt ?_
        refine W_cond (b := decide (x9 ≥ 0)) rfl (fun hc10 => ?_) (fun hc10 => ?_)
        · replace h2l := iteT hc10 h2l
          refine W_r ?_
          refine rq (out := Pr.i64 x4) qMove ?_
          refine rq (out := Pr.i64 (w64 (x4 + 1))) qInt ?_
          refine rq (out := Pr.i64 (w64 (x4 + 1))) qAssign ?_
          exact ⟨w64 (x4 + 1), h2l, ⟨⟨Pr.le_rfl, Pr.le_rfl, Pr.le_rfl, Pr.le_rfl, trivial⟩, Pick.refl _⟩⟩
        · replace h2l := iteF hc10 h2l
          refine W_skip ?_
          exact ⟨x4, h2l, ⟨⟨Pr.le_rfl, Pr.le_rfl, Pr.le_rfl, Pr.le_rfl, trivial⟩, Pick.refl _⟩⟩
    · replace h2l := iteF hc8 h2l
      refine W_exit ?_
      obtain rfl := ho2 _ (Option.some.inj h2l).symm
      exact ⟨x4, h, ⟨⟨Pr.le_rfl, trivial⟩, Pick.refl _⟩⟩
theorem lcs_Percent_ok (x1 : List Int) (x2 : List Int) (r : Int) (h : lcs_Percent x1 x2 = some r) : FnP Tryz.prog 69 [Pr.lst (Rp.int .i64) x1, Pr.lst (Rp.int .i64) x2] (Pr.i64 r) := by
  refine fn_intro (n := 21) (rs := [4]) Tryz.func69 rfl Tryz.ntmps69 ⟨by decide, Tryz.results69⟩ (by decide) (fun s0 => ?_)
  unfold lcs_Percent at h
  refine W_rs ?_
  refine rq (out := Pr.i64 0) qAssign ?_
  refine W_seq ?_
  refine W_rs ?_
  refine rq (out := Pr.lst (Rp.int .i64) x1) qMove ?_
  refine rq (out := Pr.i64 (x1.length : Int)) (qLenL rfl Tryz.underlying71) ?_
  refine rq (out := Pr.lst (Rp.int .i64) x2) qMove ?_
  refine rq (out := Pr.i64 (x2.length : Int)) (qLenL rfl Tryz.underlying71) ?_
  refine rq (out := Pr.i64 (w64 ((x1.length : Int) + (x2.length : Int)))) qInt ?_
  refine rq (out := Pr.bool ((w64 ((x1.length : Int) + (x2.length : Int))) == 0)) qInt ?_
  refine W_cond (b := (w64 ((x1.length : Int) + (x2.length : Int))) == 0) rfl (fun hc3 => ?_) (fun hc3 => ?_)
  · replace h := iteT hc3 h
    refine W_rs ?_
    refine rq (out := Pr.i64 100) qAssign ?_
    obtain rfl := Option.some.inj h
    exact W_ret ⟨rfl, Pr.le_rfl⟩
  · replace h := iteF hc3 h
    refine W_skip ?_
    refine W_rs ?_
    refine rq (out := Pr.lst (Rp.int .i64) x1) qMove ?_
    refine rq (out := Pr.lst (Rp.int .i64) x2) qMove ?_
    obtain ⟨x4, hx4, h⟩ := bindSome h
    refine rq (out := Pr.i64 x4) (qCall (lcs_Length_ok x1 x2 _ hx4)) ?_
    refine rq (out := Pr.i64 (w64 (200 * x4))) qInt ?_
    refine rq (out := Pr.lst (Rp.int .i64) x1) qMove ?_
    refine rq (out := Pr.i64 (x1.length : Int)) (qLenL rfl Tryz.underlying71) ?_
    refine rq (out := Pr.lst (Rp.int .i64) x2) qMove ?_
    refine rq (out := Pr.i64 (x2.length : Int)) (qLenL rfl Tryz.underlying71) ?_
    refine rq (out := Pr.i64 (w64 ((x1.length : Int) + (x2.length : Int)))) qInt ?_
    obtain ⟨_, hx5, h⟩ := bindSome h
    refine rq (out := Pr.i64 (w64 (Int.tdiv (w64 (200 * x4)) (w64 ((x1.length : Int) + (x2.length : Int)))))) (qDiv (nz_some hx5)) ?_
    refine rq (out := Pr.i64 (w64 (Int.tdiv (w64 (200 * x4)) (w64 ((x1.length : Int) + (x2.length : Int)))))) qAssign ?_
    obtain rfl := Option.some.inj h
    exact W_ret ⟨rfl, Pr.le_rfl⟩
theorem shape_alike_ok (x1 : List (List UInt8)) (x2 : List (List UInt8)) (r : Int) (h : shape_alike x1 x2 = some r) : FnP Tryz.prog 44 [Pr.lst Rp.str x1, Pr.lst Rp.str x2] (Pr.i64 r) := by
  refine fn_intro (n := 17) (rs := [4]) Tryz.func44 rfl Tryz.ntmps44 ⟨by decide, Tryz.results44⟩ (by decide) (fun s0 => ?_)
  unfold shape_alike at h
  refine W_rs ?_
  refine rq (out := Pr.i64 0) qAssign ?_
  refine W_rs ?_
  refine rq (out := Pr.lst Rp.str x1) qMove ?_
  refine rq (out := Pr.lst Rp.str x2) qMove ?_
  refine rq (out := Pr.lst (Rp.list Rp.str) ([x1, x2] : List (List (List UInt8)))) (qBuildSlice (R := Rp.list Rp.str) (ls := ([x1, x2] : List (List (List UInt8)))) el69 (Nat.le_of_ble_eq_true rfl) ⟨rfl, rfl⟩ ⟨rfl, rfl, trivial⟩) ?_
  obtain ⟨x3, hx3, h⟩ := bindSome h
  refine rq (out := Pr.lst (Rp.list (Rp.int .i64)) x3) (qCall (lcs_Numbers_ok ([x1, x2] : List (List (List UInt8))) _ hx3)) ?_
  refine rq (out := Pr.lst (Rp.list (Rp.int .i64)) x3) qAssign ?_
  refine W_join (fun e C => ∃ (x6 : Int), shape_alike_j1 x6 = some r ∧ At [(4, Pr.i64 x6)] [] e C) ?_ ?_
  · rintro e C ⟨x6, h, hat1⟩
    refine W_at hat1 ?_
    clear hat1
    unfold shape_alike_j1 at h
    obtain rfl := Option.some.inj h
    exact W_ret ⟨rfl, Pr.le_rfl⟩
  · refine W_draw 8 hmx (by kernel_rfl) (by kernel_rfl) ?_
    refine qq (out := Pr.lst (Rp.list (Rp.int .i64)) x3) qMove ?_
    obtain ⟨x4, hx4, h⟩ := bindSome h
    refine qq (out := Pr.cpt (Rp.list (Rp.int .i64)) x4) (qIdxA (R := Rp.list (Rp.int .i64)) (l := x3) Tryz.underlying67 Tryz.sizeOf71 hx4) ?_
    refine qq (out := Pr.lst (Rp.int .i64) x4) (qLoadC (R := Rp.list (Rp.int .i64)) (a := x4) ty71) ?_
    refine qq (out := Pr.lst (Rp.list (Rp.int .i64)) x3) qMove ?_
    obtain ⟨x5, hx5, h⟩ := bindSome h
    refine qq (out := Pr.cpt (Rp.list (Rp.int .i64)) x5) (qIdxA (R := Rp.list (Rp.int .i64)) (l := x3) Tryz.underlying67 Tryz.sizeOf71 hx5) ?_
    refine qq (out := Pr.lst (Rp.int .i64) x5) (qLoadC (R := Rp.list (Rp.int .i64)) (a := x5) ty71) ?_
    obtain ⟨x6, hx6, h⟩ := bindSome h
    refine qq (out := Pr.i64 x6) (qCall (lcs_Percent_ok x4 x5 _ hx6)) ?_
    refine qq (out := Pr.i64 x6) qAssign ?_
    exact ⟨x6, h, ⟨⟨Pr.le_rfl, trivial⟩, Pick.refl _⟩⟩
theorem shape_Percent_ok (x1 : ApiNode) (x2 : ApiNode) (x3 : List (List UInt8)) (r : Int) (h : shape_Percent x1 x2 x3 = some r) : FnP Tryz.prog 18 [(rApiNode).val x1, (rApiNode).val x2, Pr.lst Rp.str x3] (Pr.i64 r) := by
  refine fn_intro (n := 14) (rs := [6]) Tryz.func18 rfl Tryz.ntmps18 ⟨by decide, Tryz.results18⟩ (by decide) (fun s0 => ?_)
  unfold shape_Percent at h
  refine W_rs ?_
  refine rBox (R := rApiNode) (a := x1) rfl (fun b4 => ?_)
  refine rBox (R := rApiNode) (a := x2) rfl (fun b5 => ?_)
  refine rq (out := Pr.i64 0) qAssign ?_
  refine W_join (fun e C => ∃ (x8 : Int), shape_Percent_j1 x8 = some r ∧ At [(6, Pr.i64 x8)] [Own.box b4 rApiNode x1, Own.box b5 rApiNode x2] e C) ?_ ?_
  · rintro e C ⟨x8, h, hat1⟩
    refine W_at hat1 ?_
    clear hat1
    unfold shape_Percent_j1 at h
    obtain rfl := Option.some.inj h
    exact W_ret ⟨rfl, Pr.le_rfl⟩
  · refine W_draw 8 hmx (by kernel_rfl) (by kernel_rfl) ?_
    refine qq (out := (rApiNode).val x1) (qLoad (R := rApiNode) (a := x1) (R' := rApiNode) 0 ty24 (Sub.refl _)) ?_
    refine qq (out := Pr.lst Rp.str x3) qMove ?_
    obtain ⟨x6, hx6, h⟩ := bindSome h
    refine qq (out := Pr.lst Rp.str x6) (qCall (shape_Tokens_ok x1 x3 _ hx6)) ?_
    refine qq (out := (rApiNode).val x2) (qLoad (R := rApiNode) (a := x2) (R' := rApiNode) 1 ty24 (Sub.refl _)) ?_
    refine qq (out := Pr.lst Rp.str x3) qMove ?_
    obtain ⟨x7, hx7, h⟩ := bindSome h
    refine qq (out := Pr.lst Rp.str x7) (qCall (shape_Tokens_ok x2 x3 _ hx7)) ?_
    obtain ⟨x8, hx8, h⟩ := bindSome h
    refine qq (out := Pr.i64 x8) (qCall (shape_alike_ok x6 x7 _ hx8)) ?_
    refine qq (out := Pr.i64 x8) qAssign ?_
    exact ⟨x8, h, ⟨⟨Pr.le_rfl, trivial⟩, Pick.refl _⟩⟩
end Go.Proofs.YtgkcoicaopilhaaGreatDoor
