/- The code comes to what these functions say (printed by wip/gen/gen.py). -/
import Derived.Test.YtphkaogfinjbjaaGreatDoorZP4
import Derived.Test.YtphkaogfinjbjaaGreatDoorZT
set_option linter.unusedSimpArgs false
set_option linter.unusedVariables false
set_option linter.unusedSectionVars false
/- The code comes to what these functions say (printed by wip/gen/gen.py). -/
set_option linter.unusedSectionVars false
set_option maxRecDepth 100000
set_option maxHeartbeats 4000000
namespace Go.Proofs.YtphkaogfinjbjaaGreatDoor
open Go Go.Cn
variable [Known]
theorem law30_CellsOne_ok (x1 : List ApiSegment) (x2 : List ApiSegment) (r : Bool) (h : law30_CellsOne x1 x2 = some r) : FnP Tryz.prog 5 [Pr.lst rApiSegment x1, Pr.lst rApiSegment x2] (Pr.bool r) := by
  refine fn_intro (n := 87) (rs := [4]) Tryz.func5 rfl Tryz.ntmps5 ⟨by decide, Tryz.results5⟩ (by decide) (fun s0 => ?_)
  unfold law30_CellsOne at h
  refine W_rs ?_
  refine rq (out := Pr.bool false) qAssign ?_
  refine W_rs ?_
  obtain ⟨x3, hx3, h⟩ := bindSome h
  refine rq (out := Pr.bool x3) (qCall (law30_awake_ok  _ hx3)) ?_
  refine rq (out := Pr.bool x3) qAssign ?_
  refine W_seq ?_
  refine W_rs ?_
  refine rq (out := Pr.bool x3) qMove ?_
  refine rq (out := Pr.bool (!x3)) qNot ?_
  refine W_cond (b := !x3) rfl (fun hc4 => ?_) (fun hc4 => ?_)
  · replace h := iteT hc4 h
    refine W_rs ?_
    refine rq (out := Pr.bool false) qAssign ?_
    obtain rfl := Option.some.inj h
    exact W_ret ⟨rfl, Pr.le_rfl⟩
  · replace h := iteF hc4 h
    refine W_skip ?_
    refine W_rs ?_
    refine rq (out := Pr.lst rApiSegment x1) qMove ?_
    obtain ⟨x5, hx5, h⟩ := bindSome h
    refine rq (out := Pr.bool x5) (qCall (law30_few_ok x1 _ hx5)) ?_
    refine rq (out := Pr.bool x5) qAssign ?_
    refine W_rs ?_
    refine rq (out := Pr.lst rApiSegment x2) qMove ?_
    obtain ⟨x6, hx6, h⟩ := bindSome h
    refine rq (out := Pr.bool x6) (qCall (law30_few_ok x2 _ hx6)) ?_
    refine rq (out := Pr.bool x6) qAssign ?_
    refine W_seq ?_
    refine W_join (fun e C => ∃ (x8 : Bool), law30_CellsOne_j4 x2 x1 x8 = some r ∧ At [(0, Pr.lst rApiSegment x1), (1, Pr.lst rApiSegment x2), (28, Pr.bool x8)] [] e C) ?_ ?_
    · rintro e C ⟨x8, h, hat4⟩
      refine W_at hat4 ?_
      clear hat4
      unfold law30_CellsOne_j4 at h
      refine W_cond (b := x8) rfl (fun hc9 => ?_) (fun hc9 => ?_)
      · replace h := iteT hc9 h
        refine W_rs ?_
        refine rq (out := Pr.bool true) qAssign ?_
        obtain rfl := Option.some.inj h
        exact W_ret ⟨rfl, Pr.le_rfl⟩
      · replace h := iteF hc9 h
        refine W_skip ?_
        refine W_rs ?_
        refine rq (out := Pr.lst rApiSegment x2) qMove ?_
        obtain ⟨x10, hx10, h⟩ := bindSome h
        refine rq (out := Pr.lst rApiSegment x10) (qCall (ref30_Once_ok x2 _ hx10)) ?_
        refine rq (out := Pr.lst rApiSegment x10) qAssign ?_
        refine W_rs ?_
        refine rq (out := Pr.lst rApiSegment x1) qMove ?_
        refine rq (out := Pr.lst rApiSegment x1) qMove ?_
        refine rq (out := Pr.lst rApiSegment x2) qMove ?_
        obtain ⟨⟨x11, x12⟩, hx11, h⟩ := bindSome h
        refine rq (out := Pr.tup [Pr.lst rApiSegment x11, Pr.lst rApiConflict x12]) (qCall (cells_Row_ok x1 x1 x2 _ hx11)) ?_
        refine rq (out := Pr.tup [Pr.lst rApiSegment x11, Pr.lst rApiConflict x12]) qMove ?_
        refine rq (out := Pr.lst rApiSegment x11) qExtract ?_
        refine rq (out := Pr.lst rApiConflict x12) qExtract ?_
        refine rq (out := Pr.lst rApiSegment x11) qAssign ?_
        refine rq (out := Pr.lst rApiConflict x12) qAssign ?_
        refine W_rs ?_
        refine rq (out := Pr.lst rApiSegment x1) qMove ?_
        refine rq (out := Pr.lst rApiSegment x2) qMove ?_
        refine rq (out := Pr.lst rApiSegment x1) qMove ?_
        obtain ⟨⟨x13, x14⟩, hx13, h⟩ := bindSome h
        refine rq (out := Pr.tup [Pr.lst rApiSegment x13, Pr.lst rApiConflict x14]) (qCall (cells_Row_ok x1 x2 x1 _ hx13)) ?_
        refine rq (out := Pr.tup [Pr.lst rApiSegment x13, Pr.lst rApiConflict x14]) qMove ?_
        refine rq (out := Pr.lst rApiSegment x13) qExtract ?_
        refine rq (out := Pr.lst rApiConflict x14) qExtract ?_
        refine rq (out := Pr.lst rApiSegment x13) qAssign ?_
        refine rq (out := Pr.lst rApiConflict x14) qAssign ?_
        refine W_rs ?_
        refine rq (out := Pr.lst rApiSegment x1) qMove ?_
        refine rq (out := Pr.lst rApiSegment x2) qMove ?_
        refine rq (out := Pr.lst rApiSegment x2) qMove ?_
        obtain ⟨⟨x15, x16⟩, hx15, h⟩ := bindSome h
        refine rq (out := Pr.tup [Pr.lst rApiSegment x15, Pr.lst rApiConflict x16]) (qCall (cells_Row_ok x1 x2 x2 _ hx15)) ?_
        refine rq (out := Pr.tup [Pr.lst rApiSegment x15, Pr.lst rApiConflict x16]) qMove ?_
        refine rq (out := Pr.lst rApiSegment x15) qExtract ?_
        refine rq (out := Pr.lst rApiConflict x16) qExtract ?_
        refine rq (out := Pr.lst rApiSegment x15) qAssign ?_
        refine rq (out := Pr.lst rApiConflict x16) qAssign ?_
        refine W_seq ?_
        refine W_join (fun e C => ∃ (x23 : Bool), law30_CellsOne_j3 x16 x15 x10 x23 = some r ∧ At [(8, Pr.lst rApiSegment x10), (13, Pr.lst rApiSegment x15), (14, Pr.lst rApiConflict x16), (69, Pr.bool x23)] [] e C) ?_ ?_
        · rintro e C ⟨x23, h, hat3⟩
          refine W_at hat3 ?_
          clear hat3
          unfold law30_CellsOne_j3 at h
          refine W_cond (b := x23) rfl (fun hc24 => ?_) (fun hc24 => ?_)
          · replace h := iteT hc24 h
            refine W_rs ?_
            refine rq (out := Pr.bool false) qAssign ?_
            obtain rfl := Option.some.inj h
            exact W_ret ⟨rfl, Pr.le_rfl⟩
          · replace h := iteF hc24 h
            refine W_skip ?_
            refine W_seq ?_
            refine W_rs ?_
            refine rq (out := Pr.i64 0) qAssign ?_
            refine W_block ?_
            obtain ⟨z2l, hz2, h⟩ := bindSome h
            obtain ⟨n2, hN2⟩ := iter_some hz2
            clear hz2
            refine W_after 0 (fun e C => law30_CellsOne_k1 x15 x10 = some r ∧ At [(8, Pr.lst rApiSegment x10), (13, Pr.lst rApiSegment x15)] [] e C) ?_ ?_
            · rintro e C ⟨h, hat1⟩
              refine W_at hat1 ?_
              clear hat1
              unfold law30_CellsOne_k1 at h
              refine W_rs ?_
              refine rq (out := Pr.lst rApiSegment x15) qMove ?_
              refine rq (out := Pr.i64 (x15.length : Int)) (qLenL rfl Tryz.underlying22) ?_
              refine rq (out := Pr.lst rApiSegment x10) qMove ?_
              refine rq (out := Pr.i64 (x10.length : Int)) (qLenL rfl Tryz.underlying22) ?_
              refine rq (out := Pr.bool ((x15.length : Int) == (x10.length : Int))) qInt ?_
              refine rq (out := Pr.bool ((x15.length : Int) == (x10.length : Int))) qAssign ?_
              obtain rfl := Option.some.inj h
              exact W_ret ⟨rfl, Pr.le_rfl⟩
            · refine W_loop (fun m e C => ∃ (x25 : Int), IterN (fun s => law30_CellsOne_l2 x16 s) m x25 = some z2l ∧ At [(8, Pr.lst rApiSegment x10), (13, Pr.lst rApiSegment x15), (14, Pr.lst rApiConflict x16), (15, Pr.i64 x25)] [] e C) n2 ⟨0, hN2, ⟨⟨Pr.le_rfl, Pr.le_rfl, Pr.le_rfl, Pr.le_rfl, trivial⟩, Pick.refl _⟩⟩ ?_
              clear hN2
              rintro m e C ⟨x25, hN2, hatl2⟩
              refine W_at hatl2 ?_
              clear hatl2
              obtain ⟨m2, w2l, rfl, h2l, hn2, ho2⟩ := iterN_some hN2
              clear hN2
              replace h2l : law30_CellsOne_l2 x16 x25 = some w2l := h2l
              unfold law30_CellsOne_l2 at h2l
              refine W_seq ?_
              refine W_rs ?_
              refine rq (out := Pr.i64 x25) qMove ?_
              refine rq (out := Pr.lst rApiConflict x16) qMove ?_
              refine rq (out := Pr.i64 (x16.length : Int)) (qLenL rfl Tryz.underlying25) ?_
              refine rq (out := Pr.bool (decide (x25 < (x16.length : Int)))) qInt ?_
              refine W_cond (b := decide (x25 < (x16.length : Int))) rfl (fun hc27 => ?_) (fun hc27 => ?_)
              · replace h2l := iteT hc27 h2l
                refine W_skip ?_
                refine W_seq ?_
                refine W_block ?_
                refine W_rs ?_
                refine rq (out := Pr.lst rApiConflict x16) qMove ?_
                refine rq (out := Pr.i64 x25) qMove ?_
                obtain ⟨x28, hx28, h2l⟩ := bindSome h2l
                refine rq (out := Pr.cpt rApiConflict x28) (qIdxA (R := rApiConflict) (l := x16) Tryz.underlying25 Tryz.sizeOf46 hx28) ?_
                refine rq (out := Pr.cpt (Rp.int .i64) x28.Kind) (qFieldC (R := rApiConflict) (a := x28) fld46_0 subApiConflict_Kind) ?_
                refine rq (out := Pr.i64 x28.Kind) (qLoadC (R := Rp.int .i64) (a := x28.Kind) ty3) ?_
                refine rq (out := Pr.bool (x28.Kind != 2)) qInt ?_
                refine W_cond (b := x28.Kind != 2) rfl (fun hc29 => ?_) (fun hc29 => ?_)
                · replace h2l := iteT hc29 h2l
                  refine W_rs ?_
                  refine rq (out := Pr.bool false) qAssign ?_
                  obtain rfl := ho2 _ (Option.some.inj h2l).symm
                  replace h : some false = some r := h
                  obtain rfl := Option.some.inj h
                  exact W_ret ⟨rfl, Pr.le_rfl⟩
                · replace h2l := iteF hc29 h2l
                  refine W_skip ?_
                  refine W_r ?_
                  refine rq (out := Pr.i64 x25) qMove ?_
                  refine rq (out := Pr.i64 (w64 (x25 + 1))) qInt ?_
                  refine rq (out := Pr.i64 (w64 (x25 + 1))) qAssign ?_
                  exact ⟨m2, Nat.lt_succ_self _, w64 (x25 + 1), hn2 _ (Option.some.inj h2l).symm, ⟨⟨Pr.le_rfl, Pr.le_rfl, Pr.le_rfl, Pr.le_rfl, trivial⟩, Pick.refl _⟩⟩
              · replace h2l := iteF hc27 h2l
                refine W_exit ?_
                obtain rfl := ho2 _ (Option.some.inj h2l).symm
                exact ⟨h, ⟨⟨Pr.le_rfl, Pr.le_rfl, trivial⟩, Pick.refl _⟩⟩
        · refine W_r ?_
          refine rq (out := Pr.lst rApiConflict x12) qMove ?_
          refine rq (out := Pr.i64 (x12.length : Int)) (qLenL rfl Tryz.underlying25) ?_
          refine rq (out := Pr.lst rApiConflict x14) qMove ?_
          refine rq (out := Pr.i64 (x14.length : Int)) (qLenL rfl Tryz.underlying25) ?_
          refine rq (out := Pr.i64 (w64 ((x12.length : Int) + (x14.length : Int)))) qInt ?_
          refine rq (out := Pr.bool ((w64 ((x12.length : Int) + (x14.length : Int))) != 0)) qInt ?_
          refine rq (out := Pr.bool ((w64 ((x12.length : Int) + (x14.length : Int))) != 0)) qMove ?_
          rcases iteSome h with ⟨hc17, h⟩ | ⟨hc17, h⟩
          · refine rno (neF hc17) ?_
            refine rno (neF hc17) ?_
            refine rno (neF hc17) ?_
            refine rno (neF hc17) ?_
            refine rq (out := Pr.bool true) (qPickT hc17) ?_
            refine rq (out := Pr.bool true) qMove ?_
            have hc21 : true = true := rfl
            refine rno (neF hc21) ?_
            refine rno (neF hc21) ?_
            refine rno (neF hc21) ?_
            refine rno (neF hc21) ?_
            refine rq (out := Pr.bool true) (qPickT hc21) ?_
            exact ⟨true, h, ⟨⟨Pr.le_rfl, Pr.le_rfl, Pr.le_rfl, Pr.le_rfl, trivial⟩, Pick.refl _⟩⟩
          · refine rqg hc17 (out := Pr.lst rApiSegment x11) qMove ?_
            refine rqg hc17 (out := Pr.lst rApiSegment x10) qMove ?_
            obtain ⟨x18, hx18, h⟩ := bindSome h
            refine rqg hc17 (out := Pr.bool x18) (qCall (ref28_Same_ok x11 x10 _ hx18)) ?_
            refine rqg hc17 (out := Pr.bool (!x18)) qNot ?_
            refine rq (out := Pr.bool (!x18)) (qPickF hc17) ?_
            refine rq (out := Pr.bool (!x18)) qMove ?_
            rcases iteSome h with ⟨hc19, h⟩ | ⟨hc19, h⟩
            · refine rno (neF hc19) ?_
              refine rno (neF hc19) ?_
              refine rno (neF hc19) ?_
              refine rno (neF hc19) ?_
              refine rq (out := Pr.bool true) (qPickT hc19) ?_
              exact ⟨true, h, ⟨⟨Pr.le_rfl, Pr.le_rfl, Pr.le_rfl, Pr.le_rfl, trivial⟩, Pick.refl _⟩⟩
            · refine rqg hc19 (out := Pr.lst rApiSegment x13) qMove ?_
              refine rqg hc19 (out := Pr.lst rApiSegment x10) qMove ?_
              obtain ⟨x20, hx20, h⟩ := bindSome h
              refine rqg hc19 (out := Pr.bool x20) (qCall (ref28_Same_ok x13 x10 _ hx20)) ?_
              refine rqg hc19 (out := Pr.bool (!x20)) qNot ?_
              refine rq (out := Pr.bool (!x20)) (qPickF hc19) ?_
              exact ⟨!x20, h, ⟨⟨Pr.le_rfl, Pr.le_rfl, Pr.le_rfl, Pr.le_rfl, trivial⟩, Pick.refl _⟩⟩
    · refine W_r ?_
      refine rq (out := Pr.bool x5) qMove ?_
      refine rq (out := Pr.bool (!x5)) qNot ?_
      refine rq (out := Pr.bool (!x5)) qMove ?_
      rcases iteSome h with ⟨hc7, h⟩ | ⟨hc7, h⟩
      · refine rno (neF hc7) ?_
        refine rno (neF hc7) ?_
        refine rq (out := Pr.bool true) (qPickT hc7) ?_
        exact ⟨true, h, ⟨⟨Pr.le_rfl, Pr.le_rfl, Pr.le_rfl, trivial⟩, Pick.refl _⟩⟩
      · refine rqg hc7 (out := Pr.bool x6) qMove ?_
        refine rqg hc7 (out := Pr.bool (!x6)) qNot ?_
        refine rq (out := Pr.bool (!x6)) (qPickF hc7) ?_
        exact ⟨!x6, h, ⟨⟨Pr.le_rfl, Pr.le_rfl, Pr.le_rfl, trivial⟩, Pick.refl _⟩⟩
theorem law30_CellsKept_ok (x1 : List ApiSegment) (x2 : List ApiSegment) (x3 : List ApiSegment) (r : Bool) (h : law30_CellsKept x1 x2 x3 = some r) : FnP Tryz.prog 7 [Pr.lst rApiSegment x1, Pr.lst rApiSegment x2, Pr.lst rApiSegment x3] (Pr.bool r) := by
  refine fn_intro (n := 171) (rs := [6]) Tryz.func7 rfl Tryz.ntmps7 ⟨by decide, Tryz.results7⟩ (by decide) (fun s0 => ?_)
  unfold law30_CellsKept at h
  refine W_rs ?_
  refine rq (out := Pr.bool false) qAssign ?_
  refine W_rs ?_
  obtain ⟨x4, hx4, h⟩ := bindSome h
  refine rq (out := Pr.bool x4) (qCall (law30_awake_ok  _ hx4)) ?_
  refine rq (out := Pr.bool x4) qAssign ?_
  refine W_seq ?_
  refine W_rs ?_
  refine rq (out := Pr.bool x4) qMove ?_
  refine rq (out := Pr.bool (!x4)) qNot ?_
  refine W_cond (b := !x4) rfl (fun hc5 => ?_) (fun hc5 => ?_)
  · replace h := iteT hc5 h
    refine W_rs ?_
    refine rq (out := Pr.bool false) qAssign ?_
    obtain rfl := Option.some.inj h
    exact W_ret ⟨rfl, Pr.le_rfl⟩
  · replace h := iteF hc5 h
    refine W_skip ?_
    refine W_rs ?_
    refine rq (out := Pr.lst rApiSegment x1) qMove ?_
    obtain ⟨x6, hx6, h⟩ := bindSome h
    refine rq (out := Pr.bool x6) (qCall (law30_few_ok x1 _ hx6)) ?_
    refine rq (out := Pr.bool x6) qAssign ?_
    refine W_rs ?_
    refine rq (out := Pr.lst rApiSegment x2) qMove ?_
    obtain ⟨x7, hx7, h⟩ := bindSome h
    refine rq (out := Pr.bool x7) (qCall (law30_few_ok x2 _ hx7)) ?_
    refine rq (out := Pr.bool x7) qAssign ?_
    refine W_rs ?_
    refine rq (out := Pr.lst rApiSegment x3) qMove ?_
    obtain ⟨x8, hx8, h⟩ := bindSome h
    refine rq (out := Pr.bool x8) (qCall (law30_few_ok x3 _ hx8)) ?_
    refine rq (out := Pr.bool x8) qAssign ?_
    refine W_seq ?_
    refine W_join (fun e C => ∃ (x12 : Bool), law30_CellsKept_j12 x1 x2 x3 x12 = some r ∧ At [(0, Pr.lst rApiSegment x1), (1, Pr.lst rApiSegment x2), (2, Pr.lst rApiSegment x3), (46, Pr.bool x12)] [] e C) ?_ ?_
    · rintro e C ⟨x12, h, hat12⟩
      refine W_at hat12 ?_
      clear hat12
      unfold law30_CellsKept_j12 at h
      refine W_cond (b := x12) rfl (fun hc13 => ?_) (fun hc13 => ?_)
      · replace h := iteT hc13 h
        refine W_rs ?_
        refine rq (out := Pr.bool true) qAssign ?_
        obtain rfl := Option.some.inj h
        exact W_ret ⟨rfl, Pr.le_rfl⟩
      · replace h := iteF hc13 h
        refine W_skip ?_
        refine W_rs ?_
        refine rq (out := Pr.lst rApiSegment x1) qMove ?_
        refine rq (out := Pr.lst rApiSegment x2) qMove ?_
        refine rq (out := Pr.lst rApiSegment x3) qMove ?_
        obtain ⟨⟨x14, x15⟩, hx14, h⟩ := bindSome h
        refine rq (out := Pr.tup [Pr.lst rApiSegment x14, Pr.lst rApiConflict x15]) (qCall (cells_Row_ok x1 x2 x3 _ hx14)) ?_
        refine rq (out := Pr.tup [Pr.lst rApiSegment x14, Pr.lst rApiConflict x15]) qMove ?_
        refine rq (out := Pr.lst rApiSegment x14) qExtract ?_
        refine rq (out := Pr.lst rApiConflict x15) qExtract ?_
        refine rq (out := Pr.lst rApiSegment x14) qAssign ?_
        refine rq (out := Pr.lst rApiConflict x15) qAssign ?_
        refine W_seq ?_
        refine W_rs ?_
        refine rq (out := Pr.i64 0) qAssign ?_
        refine W_block ?_
        obtain ⟨z7l, hz7, h⟩ := bindSome h
        obtain ⟨n7, hN7⟩ := iter_some hz7
        clear hz7
        refine W_after 0 (fun e C => law30_CellsKept_k6 x1 x2 x3 x14 = some r ∧ At [(0, Pr.lst rApiSegment x1), (1, Pr.lst rApiSegment x2), (2, Pr.lst rApiSegment x3), (11, Pr.lst rApiSegment x14)] [] e C) ?_ ?_
        · rintro e C ⟨h, hat6⟩
          refine W_at hat6 ?_
          clear hat6
          unfold law30_CellsKept_k6 at h
          refine W_seq ?_
          refine W_rs ?_
          refine rq (out := Pr.i64 0) qAssign ?_
          refine W_block ?_
          obtain ⟨z2l, hz2, h⟩ := bindSome h
          obtain ⟨n2, hN2⟩ := iter_some hz2
          clear hz2
          refine W_after 4 (fun e C => law30_CellsKept_k1 = some r ∧ At [] [] e C) ?_ ?_
          · rintro e C ⟨h, hat1⟩
            refine W_at hat1 ?_
            clear hat1
            unfold law30_CellsKept_k1 at h
            refine W_rs ?_
            refine rq (out := Pr.bool true) qAssign ?_
            obtain rfl := Option.some.inj h
            exact W_ret ⟨rfl, Pr.le_rfl⟩
          · refine W_loop (fun m e C => ∃ (x34 : Int), IterN (fun s => law30_CellsKept_l2 x1 x2 x3 x14 s) m x34 = some z2l ∧ At [(0, Pr.lst rApiSegment x1), (1, Pr.lst rApiSegment x2), (2, Pr.lst rApiSegment x3), (11, Pr.lst rApiSegment x14), (19, Pr.i64 x34)] [] e C) n2 ⟨0, hN2, ⟨⟨Pr.le_rfl, Pr.le_rfl, Pr.le_rfl, Pr.le_rfl, Pr.le_rfl, trivial⟩, Pick.refl _⟩⟩ ?_
            clear hN2
            rintro m e C ⟨x34, hN2, hatl2⟩
            refine W_at hatl2 ?_
            clear hatl2
            obtain ⟨m2, w2l, rfl, h2l, hn2, ho2⟩ := iterN_some hN2
            clear hN2
            replace h2l : law30_CellsKept_l2 x1 x2 x3 x14 x34 = some w2l := h2l
            unfold law30_CellsKept_l2 at h2l
            refine W_seq ?_
            refine W_rs ?_
            refine rq (out := Pr.i64 x34) qMove ?_
            refine rq (out := Pr.lst rApiSegment x1) qMove ?_
            refine rq (out := Pr.i64 (x1.length : Int)) (qLenL rfl Tryz.underlying22) ?_
            refine rq (out := Pr.bool (decide (x34 < (x1.length : Int)))) qInt ?_
            refine W_cond (b := decide (x34 < (x1.length : Int))) rfl (fun hc36 => ?_) (fun hc36 => ?_)
            · replace h2l := iteT hc36 h2l
              refine W_skip ?_
              refine W_join (fun e C => law30_CellsKept_j3 x34 = some w2l ∧ At [(0, Pr.lst rApiSegment x1), (1, Pr.lst rApiSegment x2), (2, Pr.lst rApiSegment x3), (11, Pr.lst rApiSegment x14), (19, Pr.i64 x34)] [] e C) ?_ ?_
              · rintro e C ⟨h2l, hat3⟩
                refine W_at hat3 ?_
                clear hat3
                unfold law30_CellsKept_j3 at h2l
                refine W_r ?_
                refine rq (out := Pr.i64 x34) qMove ?_
                refine rq (out := Pr.i64 (w64 (x34 + 1))) qInt ?_
                refine rq (out := Pr.i64 (w64 (x34 + 1))) qAssign ?_
                exact ⟨m2, Nat.lt_succ_self _, w64 (x34 + 1), hn2 _ (Option.some.inj h2l).symm, ⟨⟨Pr.le_rfl, Pr.le_rfl, Pr.le_rfl, Pr.le_rfl, Pr.le_rfl, trivial⟩, Pick.refl _⟩⟩
              · refine W_block ?_
                refine W_rs ?_
                refine rq (out := Pr.lst rApiSegment x1) qMove ?_
                refine rq (out := Pr.lst rApiSegment x1) qMove ?_
                refine rq (out := Pr.i64 x34) qMove ?_
                obtain ⟨x37, hx37, h2l⟩ := bindSome h2l
                refine rq (out := Pr.cpt rApiSegment x37) (qIdxA (R := rApiSegment) (l := x1) Tryz.underlying22 Tryz.sizeOf38 hx37) ?_
                refine rq (out := Pr.cpt Rp.str x37.Key) (qFieldC (R := rApiSegment) (a := x37) fld38_0 subApiSegment_Key) ?_
                refine rq (out := Pr.str x37.Key) (qLoadC (R := Rp.str) (a := x37.Key) ty9) ?_
                obtain ⟨⟨x38, x39⟩, hx38, h2l⟩ := bindSome h2l
                refine rq (out := Pr.tup [Pr.str x38, Pr.bool x39]) (qCall (ref28_Get_ok x1 x37.Key _ hx38)) ?_
                refine rq (out := Pr.tup [Pr.str x38, Pr.bool x39]) qMove ?_
                refine rq (out := Pr.str x38) qExtract ?_
                refine rq (out := Pr.bool x39) qExtract ?_
                refine rq (out := Pr.str x38) qAssign ?_
                refine rq (out := Pr.bool x39) qAssign ?_
                refine W_rs ?_
                refine rq (out := Pr.lst rApiSegment x2) qMove ?_
                refine rq (out := Pr.lst rApiSegment x1) qMove ?_
                refine rq (out := Pr.i64 x34) qMove ?_
                obtain ⟨x40, hx40, h2l⟩ := bindSome h2l
                refine rq (out := Pr.cpt rApiSegment x40) (qIdxA (R := rApiSegment) (l := x1) Tryz.underlying22 Tryz.sizeOf38 hx40) ?_
                refine rq (out := Pr.cpt Rp.str x40.Key) (qFieldC (R := rApiSegment) (a := x40) fld38_0 subApiSegment_Key) ?_
                refine rq (out := Pr.str x40.Key) (qLoadC (R := Rp.str) (a := x40.Key) ty9) ?_
                obtain ⟨⟨x41, x42⟩, hx41, h2l⟩ := bindSome h2l
                refine rq (out := Pr.tup [Pr.str x41, Pr.bool x42]) (qCall (ref28_Get_ok x2 x40.Key _ hx41)) ?_
                refine rq (out := Pr.tup [Pr.str x41, Pr.bool x42]) qMove ?_
                refine rq (out := Pr.str x41) qExtract ?_
                refine rq (out := Pr.bool x42) qExtract ?_
                refine rq (out := Pr.str x41) qAssign ?_
                refine rq (out := Pr.bool x42) qAssign ?_
                refine W_rs ?_
                refine rq (out := Pr.lst rApiSegment x3) qMove ?_
                refine rq (out := Pr.lst rApiSegment x1) qMove ?_
                refine rq (out := Pr.i64 x34) qMove ?_
                obtain ⟨x43, hx43, h2l⟩ := bindSome h2l
                refine rq (out := Pr.cpt rApiSegment x43) (qIdxA (R := rApiSegment) (l := x1) Tryz.underlying22 Tryz.sizeOf38 hx43) ?_
                refine rq (out := Pr.cpt Rp.str x43.Key) (qFieldC (R := rApiSegment) (a := x43) fld38_0 subApiSegment_Key) ?_
                refine rq (out := Pr.str x43.Key) (qLoadC (R := Rp.str) (a := x43.Key) ty9) ?_
                obtain ⟨⟨x44, x45⟩, hx44, h2l⟩ := bindSome h2l
                refine rq (out := Pr.tup [Pr.str x44, Pr.bool x45]) (qCall (ref28_Get_ok x3 x43.Key _ hx44)) ?_
                refine rq (out := Pr.tup [Pr.str x44, Pr.bool x45]) qMove ?_
                refine rq (out := Pr.str x44) qExtract ?_
                refine rq (out := Pr.bool x45) qExtract ?_
                refine rq (out := Pr.str x44) qAssign ?_
                refine rq (out := Pr.bool x45) qAssign ?_
                refine W_seq ?_
                refine W_join (fun e C => ∃ (x53 : Bool), law30_CellsKept_j5 x34 x1 x14 x38 x53 = some w2l ∧ At [(0, Pr.lst rApiSegment x1), (1, Pr.lst rApiSegment x2), (2, Pr.lst rApiSegment x3), (11, Pr.lst rApiSegment x14), (19, Pr.i64 x34), (20, Pr.str x38), (153, Pr.bool x53)] [] e C) ?_ ?_
                · rintro e C ⟨x53, h2l, hat5⟩
                  refine W_at hat5 ?_
                  clear hat5
                  unfold law30_CellsKept_j5 at h2l
                  refine W_cond (b := x53) rfl (fun hc54 => ?_) (fun hc54 => ?_)
                  · replace h2l := iteT hc54 h2l
                    refine W_exit ?_
                    exact ⟨h2l, ⟨⟨Pr.le_rfl, Pr.le_rfl, Pr.le_rfl, Pr.le_rfl, Pr.le_rfl, trivial⟩, Pick.refl _⟩⟩
                  · replace h2l := iteF hc54 h2l
                    refine W_skip ?_
                    refine W_rs ?_
                    refine rq (out := Pr.lst rApiSegment x14) qMove ?_
                    refine rq (out := Pr.lst rApiSegment x1) qMove ?_
                    refine rq (out := Pr.i64 x34) qMove ?_
                    obtain ⟨x55, hx55, h2l⟩ := bindSome h2l
                    refine rq (out := Pr.cpt rApiSegment x55) (qIdxA (R := rApiSegment) (l := x1) Tryz.underlying22 Tryz.sizeOf38 hx55) ?_
                    refine rq (out := Pr.cpt Rp.str x55.Key) (qFieldC (R := rApiSegment) (a := x55) fld38_0 subApiSegment_Key) ?_
                    refine rq (out := Pr.str x55.Key) (qLoadC (R := Rp.str) (a := x55.Key) ty9) ?_
                    obtain ⟨⟨x56, x57⟩, hx56, h2l⟩ := bindSome h2l
                    refine rq (out := Pr.tup [Pr.str x56, Pr.bool x57]) (qCall (ref28_Get_ok x14 x55.Key _ hx56)) ?_
                    refine rq (out := Pr.tup [Pr.str x56, Pr.bool x57]) qMove ?_
                    refine rq (out := Pr.str x56) qExtract ?_
                    refine rq (out := Pr.bool x57) qExtract ?_
                    refine rq (out := Pr.str x56) qAssign ?_
                    refine rq (out := Pr.bool x57) qAssign ?_
                    refine W_join (fun e C => ∃ (x59 : Bool), law30_CellsKept_j4 x34 x59 = some w2l ∧ At [(0, Pr.lst rApiSegment x1), (1, Pr.lst rApiSegment x2), (2, Pr.lst rApiSegment x3), (11, Pr.lst rApiSegment x14), (19, Pr.i64 x34), (170, Pr.bool x59)] [] e C) ?_ ?_
                    · rintro e C ⟨x59, h2l, hat4⟩
                      refine W_at hat4 ?_
                      clear hat4
                      unfold law30_CellsKept_j4 at h2l
                      refine W_cond (b := x59) rfl (fun hc60 => ?_) (fun hc60 => ?_)
                      · replace h2l := iteT hc60 h2l
                        refine W_rs ?_
                        refine rq (out := Pr.bool false) qAssign ?_
                        obtain rfl := ho2 _ (Option.some.inj h2l).symm
                        replace h : some false = some r := h
                        obtain rfl := Option.some.inj h
                        exact W_ret ⟨rfl, Pr.le_rfl⟩
                      · replace h2l := iteF hc60 h2l
                        refine W_skip ?_
                        exact ⟨h2l, ⟨⟨Pr.le_rfl, Pr.le_rfl, Pr.le_rfl, Pr.le_rfl, Pr.le_rfl, trivial⟩, Pick.refl _⟩⟩
                    · refine W_r ?_
                      refine rq (out := Pr.bool x57) qMove ?_
                      refine rq (out := Pr.bool (!x57)) qNot ?_
                      refine rq (out := Pr.bool (!x57)) qMove ?_
                      rcases iteSome h2l with ⟨hc58, h2l⟩ | ⟨hc58, h2l⟩
                      · refine rno (neF hc58) ?_
                        refine rno (neF hc58) ?_
                        refine rno (neF hc58) ?_
                        refine rq (out := Pr.bool true) (qPickT hc58) ?_
                        exact ⟨true, h2l, ⟨⟨Pr.le_rfl, Pr.le_rfl, Pr.le_rfl, Pr.le_rfl, Pr.le_rfl, Pr.le_rfl, trivial⟩, Pick.refl _⟩⟩
                      · refine rqg hc58 (out := Pr.str x56) qMove ?_
                        refine rqg hc58 (out := Pr.str x38) qMove ?_
                        refine rqg hc58 (out := Pr.bool (!(x56 == x38))) qStr ?_
                        refine rq (out := Pr.bool (!(x56 == x38))) (qPickF hc58) ?_
                        exact ⟨!(x56 == x38), h2l, ⟨⟨Pr.le_rfl, Pr.le_rfl, Pr.le_rfl, Pr.le_rfl, Pr.le_rfl, Pr.le_rfl, trivial⟩, Pick.refl _⟩⟩
                · refine W_r ?_
                  refine rq (out := Pr.bool x42) qMove ?_
                  refine rq (out := Pr.bool (!x42)) qNot ?_
                  refine rq (out := Pr.bool (!x42)) qMove ?_
                  rcases iteSome h2l with ⟨hc46, h2l⟩ | ⟨hc46, h2l⟩
                  · refine rno (neF hc46) ?_
                    refine rno (neF hc46) ?_
                    refine rq (out := Pr.bool true) (qPickT hc46) ?_
                    refine rq (out := Pr.bool true) qMove ?_
                    have hc50 : true = true := rfl
                    refine rno (neF hc50) ?_
                    refine rno (neF hc50) ?_
                    refine rno (neF hc50) ?_
                    refine rq (out := Pr.bool true) (qPickT hc50) ?_
                    refine rq (out := Pr.bool true) qMove ?_
                    have hc52 : true = true := rfl
                    refine rno (neF hc52) ?_
                    refine rno (neF hc52) ?_
                    refine rno (neF hc52) ?_
                    refine rq (out := Pr.bool true) (qPickT hc52) ?_
                    exact ⟨true, h2l, ⟨⟨Pr.le_rfl, Pr.le_rfl, Pr.le_rfl, Pr.le_rfl, Pr.le_rfl, Pr.le_rfl, Pr.le_rfl, trivial⟩, Pick.refl _⟩⟩
                  · refine rqg hc46 (out := Pr.bool x45) qMove ?_
                    refine rqg hc46 (out := Pr.bool (!x45)) qNot ?_
                    refine rq (out := Pr.bool (!x45)) (qPickF hc46) ?_
                    refine rq (out := Pr.bool (!x45)) qMove ?_
                    rcases iteSome h2l with ⟨hc47, h2l⟩ | ⟨hc47, h2l⟩
                    · refine rno (neF hc47) ?_
                      refine rno (neF hc47) ?_
                      refine rno (neF hc47) ?_
                      refine rq (out := Pr.bool true) (qPickT hc47) ?_
                      refine rq (out := Pr.bool true) qMove ?_
                      have hc49 : true = true := rfl
                      refine rno (neF hc49) ?_
                      refine rno (neF hc49) ?_
                      refine rno (neF hc49) ?_
                      refine rq (out := Pr.bool true) (qPickT hc49) ?_
                      exact ⟨true, h2l, ⟨⟨Pr.le_rfl, Pr.le_rfl, Pr.le_rfl, Pr.le_rfl, Pr.le_rfl, Pr.le_rfl, Pr.le_rfl, trivial⟩, Pick.refl _⟩⟩
                    · refine rqg hc47 (out := Pr.str x41) qMove ?_
                      refine rqg hc47 (out := Pr.str x38) qMove ?_
                      refine rqg hc47 (out := Pr.bool (!(x41 == x38))) qStr ?_
                      refine rq (out := Pr.bool (!(x41 == x38))) (qPickF hc47) ?_
                      refine rq (out := Pr.bool (!(x41 == x38))) qMove ?_
                      rcases iteSome h2l with ⟨hc48, h2l⟩ | ⟨hc48, h2l⟩
                      · refine rno (neF hc48) ?_
                        refine rno (neF hc48) ?_
                        refine rno (neF hc48) ?_
                        refine rq (out := Pr.bool true) (qPickT hc48) ?_
                        exact ⟨true, h2l, ⟨⟨Pr.le_rfl, Pr.le_rfl, Pr.le_rfl, Pr.le_rfl, Pr.le_rfl, Pr.le_rfl, Pr.le_rfl, trivial⟩, Pick.refl _⟩⟩
                      · refine rqg hc48 (out := Pr.str x44) qMove ?_
                        refine rqg hc48 (out := Pr.str x38) qMove ?_
                        refine rqg hc48 (out := Pr.bool (!(x44 == x38))) qStr ?_
                        refine rq (out := Pr.bool (!(x44 == x38))) (qPickF hc48) ?_
                        exact ⟨!(x44 == x38), h2l, ⟨⟨Pr.le_rfl, Pr.le_rfl, Pr.le_rfl, Pr.le_rfl, Pr.le_rfl, Pr.le_rfl, Pr.le_rfl, trivial⟩, Pick.refl _⟩⟩
            · replace h2l := iteF hc36 h2l
              refine W_exit ?_
              obtain rfl := ho2 _ (Option.some.inj h2l).symm
              exact ⟨h, ⟨trivial, Pick.refl _⟩⟩
        · refine W_loop (fun m e C => ∃ (x16 : Int), IterN (fun s => law30_CellsKept_l7 x14 x2 x3 s) m x16 = some z7l ∧ At [(0, Pr.lst rApiSegment x1), (1, Pr.lst rApiSegment x2), (2, Pr.lst rApiSegment x3), (11, Pr.lst rApiSegment x14), (13, Pr.i64 x16)] [] e C) n7 ⟨0, hN7, ⟨⟨Pr.le_rfl, Pr.le_rfl, Pr.le_rfl, Pr.le_rfl, Pr.le_rfl, trivial⟩, Pick.refl _⟩⟩ ?_
          clear hN7
          rintro m e C ⟨x16, hN7, hatl7⟩
          refine W_at hatl7 ?_
          clear hatl7
          obtain ⟨m7, w7l, rfl, h7l, hn7, ho7⟩ := iterN_some hN7
          clear hN7
          replace h7l : law30_CellsKept_l7 x14 x2 x3 x16 = some w7l := h7l
          unfold law30_CellsKept_l7 at h7l
          refine W_seq ?_
          refine W_rs ?_
          refine rq (out := Pr.i64 x16) qMove ?_
          refine rq (out := Pr.lst rApiSegment x14) qMove ?_
          refine rq (out := Pr.i64 (x14.length : Int)) (qLenL rfl Tryz.underlying22) ?_
          refine rq (out := Pr.bool (decide (x16 < (x14.length : Int)))) qInt ?_
          refine W_cond (b := decide (x16 < (x14.length : Int))) rfl (fun hc18 => ?_) (fun hc18 => ?_)
          · replace h7l := iteT hc18 h7l
            refine W_skip ?_
            refine W_seq ?_
            refine W_block ?_
            refine W_rs ?_
            refine rq (out := Pr.lst rApiSegment x2) qMove ?_
            refine rq (out := Pr.lst rApiSegment x14) qMove ?_
            refine rq (out := Pr.i64 x16) qMove ?_
            obtain ⟨x19, hx19, h7l⟩ := bindSome h7l
            refine rq (out := Pr.cpt rApiSegment x19) (qIdxA (R := rApiSegment) (l := x14) Tryz.underlying22 Tryz.sizeOf38 hx19) ?_
            refine rq (out := Pr.cpt Rp.str x19.Key) (qFieldC (R := rApiSegment) (a := x19) fld38_0 subApiSegment_Key) ?_
            refine rq (out := Pr.str x19.Key) (qLoadC (R := Rp.str) (a := x19.Key) ty9) ?_
            obtain ⟨⟨x20, x21⟩, hx20, h7l⟩ := bindSome h7l
            refine rq (out := Pr.tup [Pr.str x20, Pr.bool x21]) (qCall (ref28_Get_ok x2 x19.Key _ hx20)) ?_
            refine rq (out := Pr.tup [Pr.str x20, Pr.bool x21]) qMove ?_
            refine rq (out := Pr.str x20) qExtract ?_
            refine rq (out := Pr.bool x21) qExtract ?_
            refine rq (out := Pr.str x20) qAssign ?_
            refine rq (out := Pr.bool x21) qAssign ?_
            refine W_rs ?_
            refine rq (out := Pr.lst rApiSegment x3) qMove ?_
            refine rq (out := Pr.lst rApiSegment x14) qMove ?_
            refine rq (out := Pr.i64 x16) qMove ?_
            obtain ⟨x22, hx22, h7l⟩ := bindSome h7l
            refine rq (out := Pr.cpt rApiSegment x22) (qIdxA (R := rApiSegment) (l := x14) Tryz.underlying22 Tryz.sizeOf38 hx22) ?_
            refine rq (out := Pr.cpt Rp.str x22.Key) (qFieldC (R := rApiSegment) (a := x22) fld38_0 subApiSegment_Key) ?_
            refine rq (out := Pr.str x22.Key) (qLoadC (R := Rp.str) (a := x22.Key) ty9) ?_
            obtain ⟨⟨x23, x24⟩, hx23, h7l⟩ := bindSome h7l
            refine rq (out := Pr.tup [Pr.str x23, Pr.bool x24]) (qCall (ref28_Get_ok x3 x22.Key _ hx23)) ?_
            refine rq (out := Pr.tup [Pr.str x23, Pr.bool x24]) qMove ?_
            refine rq (out := Pr.str x23) qExtract ?_
            refine rq (out := Pr.bool x24) qExtract ?_
            refine rq (out := Pr.str x23) qAssign ?_
            refine rq (out := Pr.bool x24) qAssign ?_
            refine W_seq ?_
            refine W_join (fun e C => ∃ (x26 : Bool), law30_CellsKept_j11 x16 x14 x26 = some w7l ∧ At [(0, Pr.lst rApiSegment x1), (1, Pr.lst rApiSegment x2), (2, Pr.lst rApiSegment x3), (11, Pr.lst rApiSegment x14), (13, Pr.i64 x16), (85, Pr.bool x26)] [] e C) ?_ ?_
            · rintro e C ⟨x26, h7l, hat11⟩
              refine W_at hat11 ?_
              clear hat11
              unfold law30_CellsKept_j11 at h7l
              refine W_cond (b := x26) rfl (fun hc27 => ?_) (fun hc27 => ?_)
              · replace h7l := iteT hc27 h7l
                refine W_rs ?_
                refine rq (out := Pr.bool false) qAssign ?_
                obtain rfl := ho7 _ (Option.some.inj h7l).symm
                replace h : some false = some r := h
                obtain rfl := Option.some.inj h
                exact W_ret ⟨rfl, Pr.le_rfl⟩
              · replace h7l := iteF hc27 h7l
                refine W_skip ?_
                refine W_rs ?_
                refine rq (out := Pr.i64 0) qAssign ?_
                refine W_block ?_
                obtain ⟨z9l, hz9, h7l⟩ := bindSome h7l
                obtain ⟨n9, hN9⟩ := iter_some hz9
                clear hz9
                refine W_after 2 (fun e C => law30_CellsKept_k8 x16 = some w7l ∧ At [(0, Pr.lst rApiSegment x1), (1, Pr.lst rApiSegment x2), (2, Pr.lst rApiSegment x3), (11, Pr.lst rApiSegment x14), (13, Pr.i64 x16)] [] e C) ?_ ?_
                · rintro e C ⟨h7l, hat8⟩
                  refine W_at hat8 ?_
                  clear hat8
                  unfold law30_CellsKept_k8 at h7l
                  refine W_r ?_
                  refine rq (out := Pr.i64 x16) qMove ?_
                  refine rq (out := Pr.i64 (w64 (x16 + 1))) qInt ?_
                  refine rq (out := Pr.i64 (w64 (x16 + 1))) qAssign ?_
                  exact ⟨m7, Nat.lt_succ_self _, w64 (x16 + 1), hn7 _ (Option.some.inj h7l).symm, ⟨⟨Pr.le_rfl, Pr.le_rfl, Pr.le_rfl, Pr.le_rfl, Pr.le_rfl, trivial⟩, Pick.refl _⟩⟩
                · refine W_loop (fun m e C => ∃ (x28 : Int), IterN (fun s => law30_CellsKept_l9 x16 x14 s) m x28 = some z9l ∧ At [(0, Pr.lst rApiSegment x1), (1, Pr.lst rApiSegment x2), (2, Pr.lst rApiSegment x3), (11, Pr.lst rApiSegment x14), (13, Pr.i64 x16), (18, Pr.i64 x28)] [] e C) n9 ⟨0, hN9, ⟨⟨Pr.le_rfl, Pr.le_rfl, Pr.le_rfl, Pr.le_rfl, Pr.le_rfl, Pr.le_rfl, trivial⟩, Pick.refl _⟩⟩ ?_
                  clear hN9
                  rintro m e C ⟨x28, hN9, hatl9⟩
                  refine W_at hatl9 ?_
                  clear hatl9
                  obtain ⟨m9, w9l, rfl, h9l, hn9, ho9⟩ := iterN_some hN9
                  clear hN9
                  replace h9l : law30_CellsKept_l9 x16 x14 x28 = some w9l := h9l
                  unfold law30_CellsKept_l9 at h9l
                  refine W_seq ?_
                  refine W_rs ?_
                  refine rq (out := Pr.i64 x28) qMove ?_
                  refine rq (out := Pr.i64 x16) qMove ?_
                  refine rq (out := Pr.bool (decide (x28 < x16))) qInt ?_
                  refine W_cond (b := decide (x28 < x16)) rfl (fun hc30 => ?_) (fun hc30 => ?_)
                  · replace h9l := iteT hc30 h9l
                    refine W_skip ?_
                    refine W_seq ?_
                    refine W_block ?_
                    refine W_join (fun e C => ∃ (x31 : ApiSegment), ∃ (x32 : ApiSegment), law30_CellsKept_j10 x28 x31 x32 = some w9l ∧ At [(0, Pr.lst rApiSegment x1), (1, Pr.lst rApiSegment x2), (2, Pr.lst rApiSegment x3), (11, Pr.lst rApiSegment x14), (13, Pr.i64 x16), (18, Pr.i64 x28), (101, Pr.bool (x31.Key == x32.Key))] [] e C) ?_ ?_
                    · rintro e C ⟨x31, x32, h9l, hat10⟩
                      refine W_at hat10 ?_
                      clear hat10
                      unfold law30_CellsKept_j10 at h9l
                      refine W_cond (b := x31.Key == x32.Key) rfl (fun hc33 => ?_) (fun hc33 => ?_)
                      · replace h9l := iteT hc33 h9l
                        refine W_rs ?_
                        refine rq (out := Pr.bool false) qAssign ?_
                        obtain rfl := ho9 _ (Option.some.inj h9l).symm
                        replace h7l : some (.inr (.done false)) = some w7l := h7l
                        obtain rfl := ho7 _ (Option.some.inj h7l).symm
                        replace h : some false = some r := h
                        obtain rfl := Option.some.inj h
                        exact W_ret ⟨rfl, Pr.le_rfl⟩
                      · replace h9l := iteF hc33 h9l
                        refine W_skip ?_
                        refine W_r ?_
                        refine rq (out := Pr.i64 x28) qMove ?_
                        refine rq (out := Pr.i64 (w64 (x28 + 1))) qInt ?_
                        refine rq (out := Pr.i64 (w64 (x28 + 1))) qAssign ?_
                        exact ⟨m9, Nat.lt_succ_self _, w64 (x28 + 1), hn9 _ (Option.some.inj h9l).symm, ⟨⟨Pr.le_rfl, Pr.le_rfl, Pr.le_rfl, Pr.le_rfl, Pr.le_rfl, Pr.le_rfl, trivial⟩, Pick.refl _⟩⟩
                    · refine W_draw 11 hmx (by kernel_rfl) (by kernel_rfl) ?_
                      refine qq (out := Pr.lst rApiSegment x14) qMove ?_
                      refine qq (out := Pr.i64 x28) qMove ?_
                      obtain ⟨x31, hx31, h9l⟩ := bindSome h9l
                      refine qq (out := Pr.cpt rApiSegment x31) (qIdxA (R := rApiSegment) (l := x14) Tryz.underlying22 Tryz.sizeOf38 hx31) ?_
                      refine qq (out := Pr.cpt Rp.str x31.Key) (qFieldC (R := rApiSegment) (a := x31) fld38_0 subApiSegment_Key) ?_
                      refine qq (out := Pr.str x31.Key) (qLoadC (R := Rp.str) (a := x31.Key) ty9) ?_
                      refine qq (out := Pr.lst rApiSegment x14) qMove ?_
                      refine qq (out := Pr.i64 x16) qMove ?_
                      obtain ⟨x32, hx32, h9l⟩ := bindSome h9l
                      refine qq (out := Pr.cpt rApiSegment x32) (qIdxA (R := rApiSegment) (l := x14) Tryz.underlying22 Tryz.sizeOf38 hx32) ?_
                      refine qq (out := Pr.cpt Rp.str x32.Key) (qFieldC (R := rApiSegment) (a := x32) fld38_0 subApiSegment_Key) ?_
                      refine qq (out := Pr.str x32.Key) (qLoadC (R := Rp.str) (a := x32.Key) ty9) ?_
                      refine qq (out := Pr.bool (x31.Key == x32.Key)) qStr ?_
                      exact ⟨x31, x32, h9l, ⟨⟨Pr.le_rfl, Pr.le_rfl, Pr.le_rfl, Pr.le_rfl, Pr.le_rfl, Pr.le_rfl, Pr.le_rfl, trivial⟩, Pick.refl _⟩⟩
                  · replace h9l := iteF hc30 h9l
                    refine W_exit ?_
                    obtain rfl := ho9 _ (Option.some.inj h9l).symm
                    exact ⟨h7l, ⟨⟨Pr.le_rfl, Pr.le_rfl, Pr.le_rfl, Pr.le_rfl, Pr.le_rfl, trivial⟩, Pick.refl _⟩⟩
            · refine W_r ?_
              refine rq (out := Pr.bool x21) qMove ?_
              refine rq (out := Pr.bool (!x21)) qNot ?_
              refine rq (out := Pr.bool (!x21)) qMove ?_
              rcases iteSome h7l with ⟨hc25, h7l⟩ | ⟨hc25, h7l⟩
              · refine rqg hc25 (out := Pr.bool x24) qMove ?_
                refine rqg hc25 (out := Pr.bool (!x24)) qNot ?_
                refine rq (out := Pr.bool (!x24)) (qPickT hc25) ?_
                exact ⟨!x24, h7l, ⟨⟨Pr.le_rfl, Pr.le_rfl, Pr.le_rfl, Pr.le_rfl, Pr.le_rfl, Pr.le_rfl, trivial⟩, Pick.refl _⟩⟩
              · refine rno (neT hc25) ?_
                refine rno (neT hc25) ?_
                refine rq (out := Pr.bool false) (qPickF hc25) ?_
                exact ⟨false, h7l, ⟨⟨Pr.le_rfl, Pr.le_rfl, Pr.le_rfl, Pr.le_rfl, Pr.le_rfl, Pr.le_rfl, trivial⟩, Pick.refl _⟩⟩
          · replace h7l := iteF hc18 h7l
            refine W_exit ?_
            obtain rfl := ho7 _ (Option.some.inj h7l).symm
            exact ⟨h, ⟨⟨Pr.le_rfl, Pr.le_rfl, Pr.le_rfl, Pr.le_rfl, trivial⟩, Pick.refl _⟩⟩
    · refine W_r ?_
      refine rq (out := Pr.bool x6) qMove ?_
      refine rq (out := Pr.bool (!x6)) qNot ?_
      refine rq (out := Pr.bool (!x6)) qMove ?_
      rcases iteSome h with ⟨hc9, h⟩ | ⟨hc9, h⟩
      · refine rno (neF hc9) ?_
        refine rno (neF hc9) ?_
        refine rq (out := Pr.bool true) (qPickT hc9) ?_
        refine rq (out := Pr.bool true) qMove ?_
        have hc11 : true = true := rfl
        refine rno (neF hc11) ?_
        refine rno (neF hc11) ?_
        refine rq (out := Pr.bool true) (qPickT hc11) ?_
        exact ⟨true, h, ⟨⟨Pr.le_rfl, Pr.le_rfl, Pr.le_rfl, Pr.le_rfl, trivial⟩, Pick.refl _⟩⟩
      · refine rqg hc9 (out := Pr.bool x7) qMove ?_
        refine rqg hc9 (out := Pr.bool (!x7)) qNot ?_
        refine rq (out := Pr.bool (!x7)) (qPickF hc9) ?_
        refine rq (out := Pr.bool (!x7)) qMove ?_
        rcases iteSome h with ⟨hc10, h⟩ | ⟨hc10, h⟩
        · refine rno (neF hc10) ?_
          refine rno (neF hc10) ?_
          refine rq (out := Pr.bool true) (qPickT hc10) ?_
          exact ⟨true, h, ⟨⟨Pr.le_rfl, Pr.le_rfl, Pr.le_rfl, Pr.le_rfl, trivial⟩, Pick.refl _⟩⟩
        · refine rqg hc10 (out := Pr.bool x8) qMove ?_
          refine rqg hc10 (out := Pr.bool (!x8)) qNot ?_
          refine rq (out := Pr.bool (!x8)) (qPickF hc10) ?_
          exact ⟨!x8, h, ⟨⟨Pr.le_rfl, Pr.le_rfl, Pr.le_rfl, Pr.le_rfl, trivial⟩, Pick.refl _⟩⟩
end Go.Proofs.YtphkaogfinjbjaaGreatDoor
