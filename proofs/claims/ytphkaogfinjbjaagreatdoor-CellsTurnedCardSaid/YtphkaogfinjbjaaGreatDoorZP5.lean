/- The code comes to what these functions say (printed by wip/gen/gen.py). -/
import Derived.Test.YtphkaogfinjbjaaGreatDoorZP4
import Derived.Test.YtphkaogfinjbjaaGreatDoorZT
set_option linter.unusedSimpArgs false
set_option linter.unusedVariables false
set_option linter.unusedSectionVars false
/- The code comes to what these functions say (printed by wip/gen/gen.py). -/
set_option linter.unusedSectionVars false
set_option maxRecDepth 100000
set_option maxHeartbeats 4000000
namespace Go.Proofs.YtphkaogfinjbjaaGreatDoor
open Go Go.Cn
variable [Known]
theorem law30_CellsTurned_ok (x1 : List ApiSegment) (x2 : List ApiSegment) (x3 : List ApiSegment) (r : Bool) (h : law30_CellsTurned x1 x2 x3 = some r) : FnP Tryz.prog 6 [Pr.lst rApiSegment x1, Pr.lst rApiSegment x2, Pr.lst rApiSegment x3] (Pr.bool r) := by
  refine fn_intro (n := 118) (rs := [6]) Tryz.func6 rfl Tryz.ntmps6 ⟨by decide, Tryz.results6⟩ (by decide) (fun s0 => ?_)
  unfold law30_CellsTurned at h
  refine W_rs ?_
  refine rq (out := Pr.bool false) qAssign ?_
  refine W_rs ?_
  obtain ⟨x4, hx4, h⟩ := bindSome h
  refine rq (out := Pr.bool x4) (qCall (law30_awake_ok  _ hx4)) ?_
  refine rq (out := Pr.bool x4) qAssign ?_
  refine W_seq ?_
  refine W_rs ?_
  refine rq (out := Pr.bool x4) qMove ?_
  refine rq (out := Pr.bool (!x4)) qNot ?_
  refine W_cond (b := !x4) rfl (fun hc5 => ?_) (fun hc5 => ?_)
  · replace h := iteT hc5 h
    refine W_rs ?_
    refine rq (out := Pr.bool false) qAssign ?_
    obtain rfl := Option.some.inj h
    exact W_ret ⟨rfl, Pr.le_rfl⟩
  · replace h := iteF hc5 h
    refine W_skip ?_
    refine W_rs ?_
    refine rq (out := Pr.lst rApiSegment x1) qMove ?_
    obtain ⟨x6, hx6, h⟩ := bindSome h
    refine rq (out := Pr.bool x6) (qCall (law30_few_ok x1 _ hx6)) ?_
    refine rq (out := Pr.bool x6) qAssign ?_
    refine W_rs ?_
    refine rq (out := Pr.lst rApiSegment x2) qMove ?_
    obtain ⟨x7, hx7, h⟩ := bindSome h
    refine rq (out := Pr.bool x7) (qCall (law30_few_ok x2 _ hx7)) ?_
    refine rq (out := Pr.bool x7) qAssign ?_
    refine W_rs ?_
    refine rq (out := Pr.lst rApiSegment x3) qMove ?_
    obtain ⟨x8, hx8, h⟩ := bindSome h
    refine rq (out := Pr.bool x8) (qCall (law30_few_ok x3 _ hx8)) ?_
    refine rq (out := Pr.bool x8) qAssign ?_
    refine W_seq ?_
    refine W_join (fun e C => ∃ (x12 : Bool), law30_CellsTurned_j11 x1 x2 x3 x12 = some r ∧ At [(0, Pr.lst rApiSegment x1), (1, Pr.lst rApiSegment x2), (2, Pr.lst rApiSegment x3), (39, Pr.bool x12)] [] e C) ?_ ?_
    · rintro e C ⟨x12, h, hat11⟩
      refine W_at hat11 ?_
      clear hat11
      unfold law30_CellsTurned_j11 at h
      refine W_cond (b := x12) rfl (fun hc13 => ?_) (fun hc13 => ?_)
      · replace h := iteT hc13 h
        refine W_rs ?_
        refine rq (out := Pr.bool true) qAssign ?_
        obtain rfl := Option.some.inj h
        exact W_ret ⟨rfl, Pr.le_rfl⟩
      · replace h := iteF hc13 h
        refine W_skip ?_
        refine W_rs ?_
        refine rq (out := Pr.lst rApiSegment x1) qMove ?_
        refine rq (out := Pr.lst rApiSegment x2) qMove ?_
        refine rq (out := Pr.lst rApiSegment x3) qMove ?_
        obtain ⟨⟨x14, x15⟩, hx14, h⟩ := bindSome h
        refine rCallC [] (cells_Texts_ok x1 x2 x3 _ hx14) (fun q C' hq => ?_)
        obtain ⟨v16, rfl, rfl⟩ := hq
        refine rq (out := Pr.tup [Pr.lst rApiSegment x14, Pr.is v16]) qMove ?_
        refine rq (out := Pr.lst rApiSegment x14) qExtract ?_
        refine rq (out := Pr.is v16) qExtract ?_
        refine rq (out := Pr.lst rApiSegment x14) qAssign ?_
        refine rq (out := Pr.is v16) qAssign ?_
        refine W_rs ?_
        refine rq (out := Pr.lst rApiSegment x1) qMove ?_
        refine rq (out := Pr.lst rApiSegment x3) qMove ?_
        refine rq (out := Pr.lst rApiSegment x2) qMove ?_
        obtain ⟨⟨x17, x18⟩, hx17, h⟩ := bindSome h
        refine rCallC [] (cells_Texts_ok x1 x3 x2 _ hx17) (fun q C' hq => ?_)
        obtain ⟨v19, rfl, rfl⟩ := hq
        refine rq (out := Pr.tup [Pr.lst rApiSegment x17, Pr.is v19]) qMove ?_
        refine rq (out := Pr.lst rApiSegment x17) qExtract ?_
        refine rq (out := Pr.is v19) qExtract ?_
        refine rq (out := Pr.lst rApiSegment x17) qAssign ?_
        refine rq (out := Pr.is v19) qAssign ?_
        refine W_seq ?_
        refine W_join (fun e C => ∃ (x21 : Bool), law30_CellsTurned_j10 x14 x17 x15 x18 x21 = some r ∧ At [(11, Pr.lst rApiSegment x14), (12, Pr.is v16), (13, Pr.lst rApiSegment x17), (14, Pr.is v19), (65, Pr.bool x21)] [Own.vec v19 rApiConflict x18 46, Own.vec v16 rApiConflict x15 46] e C) ?_ ?_
        · rintro e C ⟨x21, h, hat10⟩
          refine W_at hat10 ?_
          clear hat10
          unfold law30_CellsTurned_j10 at h
          refine W_cond (b := x21) rfl (fun hc22 => ?_) (fun hc22 => ?_)
          · replace h := iteT hc22 h
            refine W_rs ?_
            refine rq (out := Pr.bool false) qAssign ?_
            obtain rfl := Option.some.inj h
            exact W_ret ⟨rfl, Pr.le_rfl⟩
          · replace h := iteF hc22 h
            refine W_skip ?_
            refine W_seq ?_
            refine W_rs ?_
            refine rq (out := Pr.i64 0) qAssign ?_
            refine W_block ?_
            obtain ⟨z8l, hz8, h⟩ := bindSome h
            obtain ⟨n8, hN8⟩ := iter_some hz8
            clear hz8
            refine W_after 0 (fun e C => law30_CellsTurned_k7 x15 x18 = some r ∧ At [(12, Pr.is v16), (14, Pr.is v19)] [Own.vec v19 rApiConflict x18 46, Own.vec v16 rApiConflict x15 46] e C) ?_ ?_
            · rintro e C ⟨h, hat7⟩
              refine W_at hat7 ?_
              clear hat7
              unfold law30_CellsTurned_k7 at h
              refine W_seq ?_
              refine W_rs ?_
              refine rq (out := Pr.i64 0) qAssign ?_
              refine W_block ?_
              obtain ⟨z2l, hz2, h⟩ := bindSome h
              obtain ⟨n2, hN2⟩ := iter_some hz2
              clear hz2
              refine W_after 2 (fun e C => law30_CellsTurned_k1 = some r ∧ At [] [] e C) ?_ ?_
              · rintro e C ⟨h, hat1⟩
                refine W_at hat1 ?_
                clear hat1
                unfold law30_CellsTurned_k1 at h
                refine W_rs ?_
                refine rq (out := Pr.bool true) qAssign ?_
                obtain rfl := Option.some.inj h
                exact W_ret ⟨rfl, Pr.le_rfl⟩
              · refine W_loop (fun m e C => ∃ (x33 : Int), IterN (fun s => law30_CellsTurned_l2 x15 x18 s) m x33 = some z2l ∧ At [(12, Pr.is v16), (14, Pr.is v19), (18, Pr.i64 x33)] [Own.vec v19 rApiConflict x18 46, Own.vec v16 rApiConflict x15 46] e C) n2 ⟨0, hN2, ⟨⟨Pr.le_rfl, Pr.le_rfl, Pr.le_rfl, trivial⟩, Pick.refl _⟩⟩ ?_
                clear hN2
                rintro m e C ⟨x33, hN2, hatl2⟩
                refine W_at hatl2 ?_
                clear hatl2
                obtain ⟨m2, w2l, rfl, h2l, hn2, ho2⟩ := iterN_some hN2
                clear hN2
                replace h2l : law30_CellsTurned_l2 x15 x18 x33 = some w2l := h2l
                unfold law30_CellsTurned_l2 at h2l
                refine W_seq ?_
                refine W_rs ?_
                refine rq (out := Pr.i64 x33) qMove ?_
                refine rq (out := Pr.is v16) qMove ?_
                refine rq (out := Pr.i64 (x15.length : Int)) (qLenV 1 rfl Tryz.underlying25) ?_
                refine rq (out := Pr.bool (decide (x33 < (x15.length : Int)))) qInt ?_
                refine W_cond (b := decide (x33 < (x15.length : Int))) rfl (fun hc35 => ?_) (fun hc35 => ?_)
                · replace h2l := iteT hc35 h2l
                  refine W_skip ?_
                  refine W_seq ?_
                  refine W_block ?_
                  refine W_rs ?_
                  refine rq (out := Pr.i64 0) qAssign ?_
                  refine W_seq ?_
                  refine W_rs ?_
                  refine rq (out := Pr.i64 0) qAssign ?_
                  refine W_block ?_
                  obtain ⟨z4l, hz4, h2l⟩ := bindSome h2l
                  obtain ⟨n4, hN4⟩ := iter_some hz4
                  clear hz4
                  refine W_after 4 (fun e C => ∃ (x36 : Int), law30_CellsTurned_k3 x33 x36 = some w2l ∧ At [(12, Pr.is v16), (14, Pr.is v19), (18, Pr.i64 x33), (19, Pr.i64 x36)] [Own.vec v19 rApiConflict x18 46, Own.vec v16 rApiConflict x15 46] e C) ?_ ?_
                  · rintro e C ⟨x36, h2l, hat3⟩
                    refine W_at hat3 ?_
                    clear hat3
                    unfold law30_CellsTurned_k3 at h2l
                    refine W_rs ?_
                    refine rq (out := Pr.i64 x36) qMove ?_
                    refine rq (out := Pr.bool (x36 != 1)) qInt ?_
                    refine W_cond (b := x36 != 1) rfl (fun hc45 => ?_) (fun hc45 => ?_)
                    · replace h2l := iteT hc45 h2l
                      refine W_rs ?_
                      refine rq (out := Pr.bool false) qAssign ?_
                      obtain rfl := ho2 _ (Option.some.inj h2l).symm
                      replace h : some false = some r := h
                      obtain rfl := Option.some.inj h
                      exact W_ret ⟨rfl, Pr.le_rfl⟩
                    · replace h2l := iteF hc45 h2l
                      refine W_skip ?_
                      refine W_r ?_
                      refine rq (out := Pr.i64 x33) qMove ?_
                      refine rq (out := Pr.i64 (w64 (x33 + 1))) qInt ?_
                      refine rq (out := Pr.i64 (w64 (x33 + 1))) qAssign ?_
                      exact ⟨m2, Nat.lt_succ_self _, w64 (x33 + 1), hn2 _ (Option.some.inj h2l).symm, ⟨⟨Pr.le_rfl, Pr.le_rfl, Pr.le_rfl, trivial⟩, Pick.refl _⟩⟩
                  · refine W_loop (fun m e C => ∃ (x36 : Int), ∃ (x37 : Int), IterN (fun s => law30_CellsTurned_l4 x18 x15 x33 s.1 s.2) m (x36, x37) = some z4l ∧ At [(12, Pr.is v16), (14, Pr.is v19), (18, Pr.i64 x33), (19, Pr.i64 x36), (20, Pr.i64 x37)] [Own.vec v19 rApiConflict x18 46, Own.vec v16 rApiConflict x15 46] e C) n4 ⟨0, 0, hN4, ⟨⟨Pr.le_rfl, Pr.le_rfl, Pr.le_rfl, Pr.le_rfl, Pr.le_rfl, trivial⟩, Pick.refl _⟩⟩ ?_
                    clear hN4
                    rintro m e C ⟨x36, x37, hN4, hatl4⟩
                    refine W_at hatl4 ?_
                    clear hatl4
                    obtain ⟨m4, w4l, rfl, h4l, hn4, ho4⟩ := iterN_some hN4
                    clear hN4
                    replace h4l : law30_CellsTurned_l4 x18 x15 x33 x36 x37 = some w4l := h4l
                    unfold law30_CellsTurned_l4 at h4l
                    refine W_seq ?_
                    refine W_rs ?_
                    refine rq (out := Pr.i64 x37) qMove ?_
                    refine rq (out := Pr.is v19) qMove ?_
                    refine rq (out := Pr.i64 (x18.length : Int)) (qLenV 0 rfl Tryz.underlying25) ?_
                    refine rq (out := Pr.bool (decide (x37 < (x18.length : Int)))) qInt ?_
                    refine W_cond (b := decide (x37 < (x18.length : Int))) rfl (fun hc40 => ?_) (fun hc40 => ?_)
                    · replace h4l := iteT hc40 h4l
                      refine W_skip ?_
                      refine W_join (fun e C => ∃ (x44 : Int), law30_CellsTurned_j5 x37 x44 = some w4l ∧ At [(12, Pr.is v16), (14, Pr.is v19), (18, Pr.i64 x33), (19, Pr.i64 x44), (20, Pr.i64 x37)] [Own.vec v19 rApiConflict x18 46, Own.vec v16 rApiConflict x15 46] e C) ?_ ?_
                      · rintro e C ⟨x44, h4l, hat5⟩
                        refine W_at hat5 ?_
                        clear hat5
                        unfold law30_CellsTurned_j5 at h4l
                        refine W_r ?_
                        refine rq (out := Pr.i64 x37) qMove ?_
                        refine rq (out := Pr.i64 (w64 (x37 + 1))) qInt ?_
                        refine rq (out := Pr.i64 (w64 (x37 + 1))) qAssign ?_
                        exact ⟨m4, Nat.lt_succ_self _, x44, w64 (x37 + 1), hn4 _ (Option.some.inj h4l).symm, ⟨⟨Pr.le_rfl, Pr.le_rfl, Pr.le_rfl, Pr.le_rfl, Pr.le_rfl, trivial⟩, Pick.refl _⟩⟩
                      · refine W_block ?_
                        refine W_join (fun e C => ∃ (x41 : ApiConflict), ∃ (x42 : ApiConflict), law30_CellsTurned_j6 x37 x36 x41 x42 = some w4l ∧ At [(12, Pr.is v16), (14, Pr.is v19), (18, Pr.i64 x33), (19, Pr.i64 x36), (20, Pr.i64 x37), (113, Pr.bool (decide (x41 = x42)))] [Own.vec v19 rApiConflict x18 46, Own.vec v16 rApiConflict x15 46] e C) ?_ ?_
                        · rintro e C ⟨x41, x42, h4l, hat6⟩
                          refine W_at hat6 ?_
                          clear hat6
                          unfold law30_CellsTurned_j6 at h4l
                          refine W_cond (b := decide (x41 = x42)) rfl (fun hc43 => ?_) (fun hc43 => ?_)
                          · replace h4l := iteT hc43 h4l
                            refine W_r ?_
                            refine rq (out := Pr.i64 x36) qMove ?_
                            refine rq (out := Pr.i64 (w64 (x36 + 1))) qInt ?_
                            refine rq (out := Pr.i64 (w64 (x36 + 1))) qAssign ?_
                            exact ⟨w64 (x36 + 1), h4l, ⟨⟨Pr.le_rfl, Pr.le_rfl, Pr.le_rfl, Pr.le_rfl, Pr.le_rfl, trivial⟩, Pick.refl _⟩⟩
                          · replace h4l := iteF hc43 h4l
                            refine W_skip ?_
                            exact ⟨x36, h4l, ⟨⟨Pr.le_rfl, Pr.le_rfl, Pr.le_rfl, Pr.le_rfl, Pr.le_rfl, trivial⟩, Pick.refl _⟩⟩
                        · refine W_draw 9 hmx (by kernel_rfl) (by kernel_rfl) ?_
                          refine qq (out := Pr.is v19) qMove ?_
                          refine qq (out := Pr.i64 x37) qMove ?_
                          obtain ⟨x41, hx41, h4l⟩ := bindSome h4l
                          refine qq (out := Pr.vpt v19 (Int.toNat x37 * (rApiConflict).size)) (qIdxV 0 (R := rApiConflict) (l := x18) Tryz.underlying25 Tryz.sizeOf46 hx41) ?_
                          refine qq (out := (rApiConflict).val x41) (qLoadV (R := rApiConflict) (R' := rApiConflict) (l := x18) (a := x41) (o := 0) 0 ty46 (Sub.refl _) (Nat.le_of_ble_eq_true rfl) hx41 rfl) ?_
                          refine qq (out := Pr.is v16) qMove ?_
                          refine qq (out := Pr.i64 x33) qMove ?_
                          obtain ⟨x42, hx42, h4l⟩ := bindSome h4l
                          refine qq (out := Pr.vpt v16 (Int.toNat x33 * (rApiConflict).size)) (qIdxV 1 (R := rApiConflict) (l := x15) Tryz.underlying25 Tryz.sizeOf46 hx42) ?_
                          refine qq (out := (rApiConflict).val x42) (qLoadV (R := rApiConflict) (R' := rApiConflict) (l := x15) (a := x42) (o := 0) 1 ty46 (Sub.refl _) (Nat.le_of_ble_eq_true rfl) hx42 rfl) ?_
                          refine qq (out := Pr.bool (decide (x41 = x42))) (qStEq (a := x41) (b := x42) eqApiConflict (by decide) rfl eqgApiConflict) ?_
                          exact ⟨x41, x42, h4l, ⟨⟨Pr.le_rfl, Pr.le_rfl, Pr.le_rfl, Pr.le_rfl, Pr.le_rfl, Pr.le_rfl, trivial⟩, Pick.refl _⟩⟩
                    · replace h4l := iteF hc40 h4l
                      refine W_exit ?_
                      obtain rfl := ho4 _ (Option.some.inj h4l).symm
                      exact ⟨x36, h2l, ⟨⟨Pr.le_rfl, Pr.le_rfl, Pr.le_rfl, Pr.le_rfl, trivial⟩, Pick.refl _⟩⟩
                · replace h2l := iteF hc35 h2l
                  refine W_exit ?_
                  obtain rfl := ho2 _ (Option.some.inj h2l).symm
                  exact ⟨h, ⟨trivial, Pick.of [] rfl⟩⟩
            · refine W_loop (fun m e C => ∃ (x23 : Int), IterN (fun s => law30_CellsTurned_l8 x14 x17 s) m x23 = some z8l ∧ At [(11, Pr.lst rApiSegment x14), (12, Pr.is v16), (13, Pr.lst rApiSegment x17), (14, Pr.is v19), (15, Pr.i64 x23)] [Own.vec v19 rApiConflict x18 46, Own.vec v16 rApiConflict x15 46] e C) n8 ⟨0, hN8, ⟨⟨Pr.le_rfl, Pr.le_rfl, Pr.le_rfl, Pr.le_rfl, Pr.le_rfl, trivial⟩, Pick.refl _⟩⟩ ?_
              clear hN8
              rintro m e C ⟨x23, hN8, hatl8⟩
              refine W_at hatl8 ?_
              clear hatl8
              obtain ⟨m8, w8l, rfl, h8l, hn8, ho8⟩ := iterN_some hN8
              clear hN8
              replace h8l : law30_CellsTurned_l8 x14 x17 x23 = some w8l := h8l
              unfold law30_CellsTurned_l8 at h8l
              refine W_seq ?_
              refine W_rs ?_
              refine rq (out := Pr.i64 x23) qMove ?_
              refine rq (out := Pr.lst rApiSegment x14) qMove ?_
              refine rq (out := Pr.i64 (x14.length : Int)) (qLenL rfl Tryz.underlying22) ?_
              refine rq (out := Pr.bool (decide (x23 < (x14.length : Int)))) qInt ?_
              refine W_cond (b := decide (x23 < (x14.length : Int))) rfl (fun hc25 => ?_) (fun hc25 => ?_)
              · replace h8l := iteT hc25 h8l
                refine W_skip ?_
                refine W_seq ?_
                refine W_block ?_
                refine W_rs ?_
                refine rq (out := Pr.lst rApiSegment x17) qMove ?_
                refine rq (out := Pr.lst rApiSegment x14) qMove ?_
                refine rq (out := Pr.i64 x23) qMove ?_
                obtain ⟨x26, hx26, h8l⟩ := bindSome h8l
                refine rq (out := Pr.cpt rApiSegment x26) (qIdxA (R := rApiSegment) (l := x14) Tryz.underlying22 Tryz.sizeOf38 hx26) ?_
                refine rq (out := Pr.cpt Rp.str x26.Key) (qFieldC (R := rApiSegment) (a := x26) fld38_0 subApiSegment_Key) ?_
                refine rq (out := Pr.str x26.Key) (qLoadC (R := Rp.str) (a := x26.Key) ty9) ?_
                obtain ⟨⟨x27, x28⟩, hx27, h8l⟩ := bindSome h8l
                refine rq (out := Pr.tup [Pr.str x27, Pr.bool x28]) (qCall (ref28_Get_ok x17 x26.Key _ hx27)) ?_
                refine rq (out := Pr.tup [Pr.str x27, Pr.bool x28]) qMove ?_
                refine rq (out := Pr.str x27) qExtract ?_
                refine rq (out := Pr.bool x28) qExtract ?_
                refine rq (out := Pr.str x27) qAssign ?_
                refine rq (out := Pr.bool x28) qAssign ?_
                refine W_join (fun e C => ∃ (x31 : Bool), law30_CellsTurned_j9 x23 x31 = some w8l ∧ At [(11, Pr.lst rApiSegment x14), (12, Pr.is v16), (13, Pr.lst rApiSegment x17), (14, Pr.is v19), (15, Pr.i64 x23), (92, Pr.bool x31)] [Own.vec v19 rApiConflict x18 46, Own.vec v16 rApiConflict x15 46] e C) ?_ ?_
                · rintro e C ⟨x31, h8l, hat9⟩
                  refine W_at hat9 ?_
                  clear hat9
                  unfold law30_CellsTurned_j9 at h8l
                  refine W_cond (b := x31) rfl (fun hc32 => ?_) (fun hc32 => ?_)
                  · replace h8l := iteT hc32 h8l
                    refine W_rs ?_
                    refine rq (out := Pr.bool false) qAssign ?_
                    obtain rfl := ho8 _ (Option.some.inj h8l).symm
                    replace h : some false = some r := h
                    obtain rfl := Option.some.inj h
                    exact W_ret ⟨rfl, Pr.le_rfl⟩
                  · replace h8l := iteF hc32 h8l
                    refine W_skip ?_
                    refine W_r ?_
                    refine rq (out := Pr.i64 x23) qMove ?_
                    refine rq (out := Pr.i64 (w64 (x23 + 1))) qInt ?_
                    refine rq (out := Pr.i64 (w64 (x23 + 1))) qAssign ?_
                    exact ⟨m8, Nat.lt_succ_self _, w64 (x23 + 1), hn8 _ (Option.some.inj h8l).symm, ⟨⟨Pr.le_rfl, Pr.le_rfl, Pr.le_rfl, Pr.le_rfl, Pr.le_rfl, trivial⟩, Pick.refl _⟩⟩
                · refine W_r ?_
                  refine rq (out := Pr.bool x28) qMove ?_
                  refine rq (out := Pr.bool (!x28)) qNot ?_
                  refine rq (out := Pr.bool (!x28)) qMove ?_
                  rcases iteSome h8l with ⟨hc29, h8l⟩ | ⟨hc29, h8l⟩
                  · refine rno (neF hc29) ?_
                    refine rno (neF hc29) ?_
                    refine rno (neF hc29) ?_
                    refine rno (neF hc29) ?_
                    refine rno (neF hc29) ?_
                    refine rno (neF hc29) ?_
                    refine rno (neF hc29) ?_
                    refine rq (out := Pr.bool true) (qPickT hc29) ?_
                    exact ⟨true, h8l, ⟨⟨Pr.le_rfl, Pr.le_rfl, Pr.le_rfl, Pr.le_rfl, Pr.le_rfl, Pr.le_rfl, trivial⟩, Pick.refl _⟩⟩
                  · refine rqg hc29 (out := Pr.str x27) qMove ?_
                    refine rqg hc29 (out := Pr.lst rApiSegment x14) qMove ?_
                    refine rqg hc29 (out := Pr.i64 x23) qMove ?_
                    obtain ⟨x30, hx30, h8l⟩ := bindSome h8l
                    refine rqg hc29 (out := Pr.cpt rApiSegment x30) (qIdxA (R := rApiSegment) (l := x14) Tryz.underlying22 Tryz.sizeOf38 hx30) ?_
                    refine rqg hc29 (out := Pr.cpt Rp.str x30.Text) (qFieldC (R := rApiSegment) (a := x30) fld38_1 subApiSegment_Text) ?_
                    refine rqg hc29 (out := Pr.str x30.Text) (qLoadC (R := Rp.str) (a := x30.Text) ty9) ?_
                    refine rqg hc29 (out := Pr.bool (!(x27 == x30.Text))) qStr ?_
                    refine rq (out := Pr.bool (!(x27 == x30.Text))) (qPickF hc29) ?_
                    exact ⟨!(x27 == x30.Text), h8l, ⟨⟨Pr.le_rfl, Pr.le_rfl, Pr.le_rfl, Pr.le_rfl, Pr.le_rfl, Pr.le_rfl, trivial⟩, Pick.refl _⟩⟩
              · replace h8l := iteF hc25 h8l
                refine W_exit ?_
                obtain rfl := ho8 _ (Option.some.inj h8l).symm
                exact ⟨h, ⟨⟨Pr.le_rfl, Pr.le_rfl, trivial⟩, Pick.refl _⟩⟩
        · refine W_r ?_
          refine rq (out := Pr.lst rApiSegment x14) qMove ?_
          refine rq (out := Pr.i64 (x14.length : Int)) (qLenL rfl Tryz.underlying22) ?_
          refine rq (out := Pr.lst rApiSegment x17) qMove ?_
          refine rq (out := Pr.i64 (x17.length : Int)) (qLenL rfl Tryz.underlying22) ?_
          refine rq (out := Pr.bool ((x14.length : Int) != (x17.length : Int))) qInt ?_
          refine rq (out := Pr.bool ((x14.length : Int) != (x17.length : Int))) qMove ?_
          rcases iteSome h with ⟨hc20, h⟩ | ⟨hc20, h⟩
          · refine rno (neF hc20) ?_
            refine rno (neF hc20) ?_
            refine rno (neF hc20) ?_
            refine rno (neF hc20) ?_
            refine rno (neF hc20) ?_
            refine rq (out := Pr.bool true) (qPickT hc20) ?_
            exact ⟨true, h, ⟨⟨Pr.le_rfl, Pr.le_rfl, Pr.le_rfl, Pr.le_rfl, Pr.le_rfl, trivial⟩, Pick.refl _⟩⟩
          · refine rqg hc20 (out := Pr.is v16) qMove ?_
            refine rqg hc20 (out := Pr.i64 (x15.length : Int)) (qLenV 1 rfl Tryz.underlying25) ?_
            refine rqg hc20 (out := Pr.is v19) qMove ?_
            refine rqg hc20 (out := Pr.i64 (x18.length : Int)) (qLenV 0 rfl Tryz.underlying25) ?_
            refine rqg hc20 (out := Pr.bool ((x15.length : Int) != (x18.length : Int))) qInt ?_
            refine rq (out := Pr.bool ((x15.length : Int) != (x18.length : Int))) (qPickF hc20) ?_
            exact ⟨(x15.length : Int) != (x18.length : Int), h, ⟨⟨Pr.le_rfl, Pr.le_rfl, Pr.le_rfl, Pr.le_rfl, Pr.le_rfl, trivial⟩, Pick.refl _⟩⟩
    · refine W_r ?_
      refine rq (out := Pr.bool x6) qMove ?_
      refine rq (out := Pr.bool (!x6)) qNot ?_
      refine rq (out := Pr.bool (!x6)) qMove ?_
      rcases iteSome h with ⟨hc9, h⟩ | ⟨hc9, h⟩
      · refine rno (neF hc9) ?_
        refine rno (neF hc9) ?_
        refine rq (out := Pr.bool true) (qPickT hc9) ?_
        refine rq (out := Pr.bool true) qMove ?_
        have hc11 : true = true := rfl
        refine rno (neF hc11) ?_
        refine rno (neF hc11) ?_
        refine rq (out := Pr.bool true) (qPickT hc11) ?_
        exact ⟨true, h, ⟨⟨Pr.le_rfl, Pr.le_rfl, Pr.le_rfl, Pr.le_rfl, trivial⟩, Pick.refl _⟩⟩
      · refine rqg hc9 (out := Pr.bool x7) qMove ?_
        refine rqg hc9 (out := Pr.bool (!x7)) qNot ?_
        refine rq (out := Pr.bool (!x7)) (qPickF hc9) ?_
        refine rq (out := Pr.bool (!x7)) qMove ?_
        rcases iteSome h with ⟨hc10, h⟩ | ⟨hc10, h⟩
        · refine rno (neF hc10) ?_
          refine rno (neF hc10) ?_
          refine rq (out := Pr.bool true) (qPickT hc10) ?_
          exact ⟨true, h, ⟨⟨Pr.le_rfl, Pr.le_rfl, Pr.le_rfl, Pr.le_rfl, trivial⟩, Pick.refl _⟩⟩
        · refine rqg hc10 (out := Pr.bool x8) qMove ?_
          refine rqg hc10 (out := Pr.bool (!x8)) qNot ?_
          refine rq (out := Pr.bool (!x8)) (qPickF hc10) ?_
          exact ⟨!x8, h, ⟨⟨Pr.le_rfl, Pr.le_rfl, Pr.le_rfl, Pr.le_rfl, trivial⟩, Pick.refl _⟩⟩
end Go.Proofs.YtphkaogfinjbjaaGreatDoor
