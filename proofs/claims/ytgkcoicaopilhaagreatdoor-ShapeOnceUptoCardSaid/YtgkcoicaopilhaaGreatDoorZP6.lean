/- The code comes to what these functions say (printed by wip/gen/gen.py). -/
import Derived.Test.YtgkcoicaopilhaaGreatDoorZP5
import Derived.Test.YtgkcoicaopilhaaGreatDoorZT
set_option linter.unusedSimpArgs false
set_option linter.unusedVariables false
/- The code comes to what these functions say (printed by wip/gen/gen.py). -/
set_option linter.unusedSectionVars false
set_option maxRecDepth 100000
set_option maxHeartbeats 4000000
namespace Go.Proofs.YtgkcoicaopilhaaGreatDoor
open Go Go.Cn

theorem shape_Best_ok (x1 : ApiNode) (x2 : List ApiNode) (x3 : List (List UInt8)) (x4 : Int) (r : Int) (h : shape_Best x1 x2 x3 x4 = some r) : FnP Tryz.prog 20 [(rApiNode).val x1, Pr.lst rApiNode x2, Pr.lst Rp.str x3, Pr.i64 x4] (Pr.i64 r) := by
  refine fn_intro (n := 47) (rs := [8]) Tryz.func20 rfl Tryz.ntmps20 ⟨by decide, Tryz.results20⟩ (by decide) (fun s0 => ?_)
  unfold shape_Best at h
  refine W_rs ?_
  refine rBox (R := rApiNode) (a := x1) rfl (fun b5 => ?_)
  refine rq (out := Pr.i64 0) qAssign ?_
  refine W_rs ?_
  refine rq (out := (rApiNode).val x1) (qLoad (R := rApiNode) (a := x1) (R' := rApiNode) 0 ty24 (Sub.refl _)) ?_
  refine rq (out := Pr.lst Rp.str x3) qMove ?_
  obtain ⟨x6, hx6, h⟩ := bindSome h
  refine rq (out := Pr.lst Rp.str x6) (qCall (shape_Tokens_ok x1 x3 _ hx6)) ?_
  refine rq (out := Pr.lst Rp.str x6) qAssign ?_
  refine W_rs ?_
  refine rq (out := Pr.i64 (-1)) qAssign ?_
  refine rq (out := Pr.i64 (-1)) qAssign ?_
  refine W_seq ?_
  refine W_rs ?_
  refine rq (out := Pr.lst rApiNode x2) qMove ?_
  refine rq (out := Pr.i64 (x2.length : Int)) (qLenL rfl Tryz.underlying22) ?_
  refine rq (out := Pr.i64 0) qMove ?_
  refine W_block ?_
  obtain ⟨z2l, hz2, h⟩ := bindSome h
  obtain ⟨n2, hN2⟩ := iter_some hz2
  clear hz2
  refine W_after 0 (fun e C => ∃ (x7 : Int), shape_Best_k1 x7 = some r ∧ At [(10, Pr.i64 x7)] [Own.box b5 rApiNode x1] e C) ?_ ?_
  · rintro e C ⟨x7, h, hat1⟩
    refine W_at hat1 ?_
    clear hat1
    unfold shape_Best_k1 at h
    refine W_rs ?_
    refine rq (out := Pr.i64 x7) qMove ?_
    refine rq (out := Pr.i64 x7) qAssign ?_
    obtain rfl := Option.some.inj h
    exact W_ret ⟨rfl, Pr.le_rfl⟩
  · refine W_loop (fun m e C => ∃ (x7 : Int), ∃ (x8 : Int), ∃ (x9 : Int), IterN (fun s => shape_Best_l2 x2 x1 x3 x6 x4 s.1 s.2.1 s.2.2) m (x7, x8, x9) = some z2l ∧ At [(2, Pr.lst Rp.str x3), (3, Pr.i64 x4), (4, Pr.pt b5 0), (9, Pr.lst Rp.str x6), (10, Pr.i64 x7), (11, Pr.i64 x8), (18, Pr.lst rApiNode x2), (19, Pr.i64 (x2.length : Int)), (20, Pr.i64 x9)] [Own.box b5 rApiNode x1] e C) n2 ⟨(-1), (-1), 0, hN2, ⟨⟨Pr.le_rfl, Pr.le_rfl, Pr.le_rfl, Pr.le_rfl, Pr.le_rfl, Pr.le_rfl, Pr.le_rfl, Pr.le_rfl, Pr.le_rfl, trivial⟩, Pick.refl _⟩⟩ ?_
    clear hN2
    rintro m e C ⟨x7, x8, x9, hN2, hatl2⟩
    refine W_at hatl2 ?_
    clear hatl2
    obtain ⟨m2, w2l, rfl, h2l, hn2, ho2⟩ := iterN_some hN2
    clear hN2
    replace h2l : shape_Best_l2 x2 x1 x3 x6 x4 x7 x8 x9 = some w2l := h2l
    unfold shape_Best_l2 at h2l
    refine W_rs ?_
    refine rq (out := Pr.bool (decide (x9 < (x2.length : Int)))) qInt ?_
    refine W_seq ?_
    refine W_cond (b := decide (x9 < (x2.length : Int))) rfl (fun hc13 => ?_) (fun hc13 => ?_)
    · replace h2l := iteT hc13 h2l
      refine W_skip ?_
      refine W_join (fun e C => ∃ (x22 : Int), ∃ (x23 : Int), ∃ (x14 : ApiNode), ∃ (b15 : Nat), shape_Best_j3 x9 x22 x23 x14 = some w2l ∧ At [(2, Pr.lst Rp.str x3), (3, Pr.i64 x4), (4, Pr.pt b5 0), (9, Pr.lst Rp.str x6), (10, Pr.i64 x22), (11, Pr.i64 x23), (18, Pr.lst rApiNode x2), (19, Pr.i64 (x2.length : Int)), (20, Pr.i64 x9)] [Own.box b5 rApiNode x1, Own.box b15 rApiNode x14] e C) ?_ ?_
      · rintro e C ⟨x22, x23, x14, b15, h2l, hat3⟩
        refine W_at hat3 ?_
        clear hat3
        unfold shape_Best_j3 at h2l
        refine W_r ?_
        refine rq (out := Pr.i64 (w64 (x9 + 1))) qInt ?_
        refine rq (out := Pr.i64 (w64 (x9 + 1))) qMove ?_
        exact ⟨m2, Nat.lt_succ_self _, x22, x23, w64 (x9 + 1), hn2 _ (Option.some.inj h2l).symm, ⟨⟨Pr.le_rfl, Pr.le_rfl, Pr.le_rfl, Pr.le_rfl, Pr.le_rfl, Pr.le_rfl, Pr.le_rfl, Pr.le_rfl, Pr.le_rfl, trivial⟩, Pick.of [0] rfl⟩⟩
      · refine W_block ?_
        refine W_rs ?_
        refine rq (out := Pr.i64 x9) qMove ?_
        obtain ⟨x14, hx14, h2l⟩ := bindSome h2l
        refine rq (out := Pr.cpt rApiNode x14) (qIdxA (R := rApiNode) (l := x2) Tryz.underlying22 Tryz.sizeOf24 hx14) ?_
        refine rq (out := (rApiNode).val x14) (qLoadC (R := rApiNode) (a := x14) ty24) ?_
        refine rAlloc (R := rApiNode) (z := (ApiNode.mk 0 [] [] 0 0 0 0 0 [])) Tryz.zeroValue24 (fun _ => (by rw [rApiNode_eq]; exact ⟨_, ⟨_, _, rfl, rfl, ⟨_, _, rfl, rfl, ⟨_, _, rfl, rfl, ⟨_, _, rfl, rfl, ⟨_, _, rfl, rfl, ⟨_, _, rfl, rfl, ⟨_, _, rfl, rfl, ⟨_, _, rfl, rfl, ⟨_, _, rfl, ⟨_, rfl, none, 0, rfl, ⟨Nat.le_refl _, fun _ => rfl⟩, .inl rfl⟩, rfl⟩⟩⟩⟩⟩⟩⟩⟩⟩, rfl⟩)) (fun b15 => ?_)
        refine rq (out := Pr.i64 x9) qAssign ?_
        refine rStore (R := rApiNode) (R' := rApiNode) (a := (ApiNode.mk 0 [] [] 0 0 0 0 0 [])) (y := x14) 1 Tryz.sizeOf24 (Upd.refl _) ?_
        refine W_seq ?_
        refine W_rs ?_
        refine rq (out := Pr.pt b15 0) (qFieldP fld24_0) ?_
        refine rq (out := Pr.i64 x14.Kind) (qLoad (R := rApiNode) (a := x14) (R' := Rp.int .i64) 1 ty3 subApiNode_Kind) ?_
        refine rq (out := Pr.pt b5 0) (qFieldP fld24_0) ?_
        refine rq (out := Pr.i64 x1.Kind) (qLoad (R := rApiNode) (a := x1) (R' := Rp.int .i64) 0 ty3 subApiNode_Kind) ?_
        refine rq (out := Pr.bool (x14.Kind != x1.Kind)) qInt ?_
        refine W_cond (b := x14.Kind != x1.Kind) rfl (fun hc16 => ?_) (fun hc16 => ?_)
        · replace h2l := iteT hc16 h2l
          refine W_exit ?_
          exact ⟨x7, x8, x14, b15, h2l, ⟨⟨Pr.le_rfl, Pr.le_rfl, Pr.le_rfl, Pr.le_rfl, Pr.le_rfl, Pr.le_rfl, Pr.le_rfl, Pr.le_rfl, Pr.le_rfl, trivial⟩, Pick.refl _⟩⟩
        · replace h2l := iteF hc16 h2l
          refine W_skip ?_
          refine W_rs ?_
          refine rq (out := Pr.lst Rp.str x6) qMove ?_
          refine rq (out := (rApiNode).val x14) (qLoad (R := rApiNode) (a := x14) (R' := rApiNode) 1 ty24 (Sub.refl _)) ?_
          refine rq (out := Pr.lst Rp.str x3) qMove ?_
          obtain ⟨x17, hx17, h2l⟩ := bindSome h2l
          refine rq (out := Pr.lst Rp.str x17) (qCall (shape_Tokens_ok x14 x3 _ hx17)) ?_
          obtain ⟨x18, hx18, h2l⟩ := bindSome h2l
          refine rq (out := Pr.i64 x18) (qCall (shape_alike_ok x6 x17 _ hx18)) ?_
          refine rq (out := Pr.i64 x18) qAssign ?_
          refine W_join (fun e C => ∃ (x20 : Bool), shape_Best_j4 x9 x18 x14 x7 x8 x20 = some w2l ∧ At [(2, Pr.lst Rp.str x3), (3, Pr.i64 x4), (4, Pr.pt b5 0), (9, Pr.lst Rp.str x6), (10, Pr.i64 x7), (11, Pr.i64 x8), (12, Pr.i64 x9), (14, Pr.i64 x18), (18, Pr.lst rApiNode x2), (19, Pr.i64 (x2.length : Int)), (20, Pr.i64 x9), (42, Pr.bool x20)] [Own.box b5 rApiNode x1, Own.box b15 rApiNode x14] e C) ?_ ?_
          · rintro e C ⟨x20, h2l, hat4⟩
            refine W_at hat4 ?_
            clear hat4
            unfold shape_Best_j4 at h2l
            refine W_cond (b := x20) rfl (fun hc21 => ?_) (fun hc21 => ?_)
            · replace h2l := iteT hc21 h2l
              refine W_r ?_
              refine rq (out := Pr.i64 x9) qMove ?_
              refine rq (out := Pr.i64 x18) qMove ?_
              refine rq (out := Pr.i64 x9) qAssign ?_
              refine rq (out := Pr.i64 x18) qAssign ?_
              exact ⟨x9, x18, x14, b15, h2l, ⟨⟨Pr.le_rfl, Pr.le_rfl, Pr.le_rfl, Pr.le_rfl, Pr.le_rfl, Pr.le_rfl, Pr.le_rfl, Pr.le_rfl, Pr.le_rfl, trivial⟩, Pick.refl _⟩⟩
            · replace h2l := iteF hc21 h2l
              refine W_skip ?_
              exact ⟨x7, x8, x14, b15, h2l, ⟨⟨Pr.le_rfl, Pr.le_rfl, Pr.le_rfl, Pr.le_rfl, Pr.le_rfl, Pr.le_rfl, Pr.le_rfl, Pr.le_rfl, Pr.le_rfl, trivial⟩, Pick.refl _⟩⟩
          · refine W_r ?_
            refine rq (out := Pr.i64 x18) qMove ?_
            refine rq (out := Pr.i64 x4) qMove ?_
            refine rq (out := Pr.bool (decide (x18 ≥ x4))) qInt ?_
            refine rq (out := Pr.bool (decide (x18 ≥ x4))) qMove ?_
            rcases iteSome h2l with ⟨hc19, h2l⟩ | ⟨hc19, h2l⟩
            · refine rqg hc19 (out := Pr.i64 x18) qMove ?_
              refine rqg hc19 (out := Pr.i64 x8) qMove ?_
              refine rqg hc19 (out := Pr.bool (decide (x18 > x8))) qInt ?_
              refine rq (out := Pr.bool (decide (x18 > x8))) (qPickT hc19) ?_
              exact ⟨decide (x18 > x8), h2l, ⟨⟨Pr.le_rfl, Pr.le_rfl, Pr.le_rfl, Pr.le_rfl, Pr.le_rfl, Pr.le_rfl, Pr.le_rfl, Pr.le_rfl, Pr.le_rfl, Pr.le_rfl, Pr.le_rfl, Pr.le_rfl, trivial⟩, Pick.refl _⟩⟩
            · refine rno (neT hc19) ?_
              refine rno (neT hc19) ?_
              refine rno (neT hc19) ?_
              refine rq (out := Pr.bool false) (qPickF hc19) ?_
              exact ⟨false, h2l, ⟨⟨Pr.le_rfl, Pr.le_rfl, Pr.le_rfl, Pr.le_rfl, Pr.le_rfl, Pr.le_rfl, Pr.le_rfl, Pr.le_rfl, Pr.le_rfl, Pr.le_rfl, Pr.le_rfl, Pr.le_rfl, trivial⟩, Pick.refl _⟩⟩
    · replace h2l := iteF hc13 h2l
      refine W_exit ?_
      obtain rfl := ho2 _ (Option.some.inj h2l).symm
      exact ⟨x7, h, ⟨⟨Pr.le_rfl, trivial⟩, Pick.refl _⟩⟩
theorem law14_awake_ok (r : Bool) (h : law14_awake = some r) : FnP Tryz.prog 7 [] (Pr.bool r) := by
  refine fn_intro (n := 51) (rs := [0]) Tryz.func7 rfl Tryz.ntmps7 ⟨by decide, Tryz.results7⟩ (by decide) (fun s0 => ?_)
  unfold law14_awake at h
  refine W_rs ?_
  refine rq (out := Pr.bool false) qAssign ?_
  refine W_rs ?_
  obtain ⟨⟨x1, x2⟩, hx1, h⟩ := bindSome h
  refine rq (out := Pr.tup [(rApiNode).val x1, (rApiMistake).val x2]) (qCall (ref12_One_ok ([105, 110, 116, 32, 102, 40, 41, 123, 114, 101, 116, 117, 114, 110, 32, 102, 40, 41, 59, 125] : List UInt8) 1 _ hx1)) ?_
  refine rq (out := Pr.tup [(rApiNode).val x1, (rApiMistake).val x2]) qMove ?_
  refine rq (out := (rApiNode).val x1) qExtract ?_
  refine rq (out := (rApiMistake).val x2) qExtract ?_
  refine rAlloc (R := rApiNode) (z := (ApiNode.mk 0 [] [] 0 0 0 0 0 [])) Tryz.zeroValue24 (fun _ => (by rw [rApiNode_eq]; exact ⟨_, ⟨_, _, rfl, rfl, ⟨_, _, rfl, rfl, ⟨_, _, rfl, rfl, ⟨_, _, rfl, rfl, ⟨_, _, rfl, rfl, ⟨_, _, rfl, rfl, ⟨_, _, rfl, rfl, ⟨_, _, rfl, rfl, ⟨_, _, rfl, ⟨_, rfl, none, 0, rfl, ⟨Nat.le_refl _, fun _ => rfl⟩, .inl rfl⟩, rfl⟩⟩⟩⟩⟩⟩⟩⟩⟩, rfl⟩)) (fun b3 => ?_)
  refine rAlloc (R := rApiMistake) (z := (ApiMistake.mk 0 0 0)) Tryz.zeroValue36 (fun _ => ⟨_, ⟨_, _, rfl, rfl, ⟨_, _, rfl, rfl, ⟨_, _, rfl, rfl, rfl⟩⟩⟩, rfl⟩) (fun b4 => ?_)
  refine rStore (R := rApiNode) (R' := rApiNode) (a := (ApiNode.mk 0 [] [] 0 0 0 0 0 [])) (y := x1) 0 Tryz.sizeOf24 (Upd.refl _) ?_
  refine rStore (R := rApiMistake) (R' := rApiMistake) (a := (ApiMistake.mk 0 0 0)) (y := x2) 1 Tryz.sizeOf36 (Upd.refl _) ?_
  refine W_rs ?_
  obtain ⟨⟨x5, x6⟩, hx5, h⟩ := bindSome h
  refine rq (out := Pr.tup [(rApiNode).val x5, (rApiMistake).val x6]) (qCall (ref12_One_ok ([105, 110, 116, 32, 103, 40, 41, 123, 114, 101, 116, 117, 114, 110, 32, 103, 40, 41, 59, 125] : List UInt8) 1 _ hx5)) ?_
  refine rq (out := Pr.tup [(rApiNode).val x5, (rApiMistake).val x6]) qMove ?_
  refine rq (out := (rApiNode).val x5) qExtract ?_
  refine rq (out := (rApiMistake).val x6) qExtract ?_
  refine rAlloc (R := rApiNode) (z := (ApiNode.mk 0 [] [] 0 0 0 0 0 [])) Tryz.zeroValue24 (fun _ => (by rw [rApiNode_eq]; exact ⟨_, ⟨_, _, rfl, rfl, ⟨_, _, rfl, rfl, ⟨_, _, rfl, rfl, ⟨_, _, rfl, rfl, ⟨_, _, rfl, rfl, ⟨_, _, rfl, rfl, ⟨_, _, rfl, rfl, ⟨_, _, rfl, rfl, ⟨_, _, rfl, ⟨_, rfl, none, 0, rfl, ⟨Nat.le_refl _, fun _ => rfl⟩, .inl rfl⟩, rfl⟩⟩⟩⟩⟩⟩⟩⟩⟩, rfl⟩)) (fun b7 => ?_)
  refine rAlloc (R := rApiMistake) (z := (ApiMistake.mk 0 0 0)) Tryz.zeroValue36 (fun _ => ⟨_, ⟨_, _, rfl, rfl, ⟨_, _, rfl, rfl, ⟨_, _, rfl, rfl, rfl⟩⟩⟩, rfl⟩) (fun b8 => ?_)
  refine rStore (R := rApiNode) (R' := rApiNode) (a := (ApiNode.mk 0 [] [] 0 0 0 0 0 [])) (y := x5) 2 Tryz.sizeOf24 (Upd.refl _) ?_
  refine rStore (R := rApiMistake) (R' := rApiMistake) (a := (ApiMistake.mk 0 0 0)) (y := x6) 3 Tryz.sizeOf36 (Upd.refl _) ?_
  refine W_join (fun e C => ∃ (x72 : Bool), law14_awake_j1 x72 = some r ∧ At [(0, Pr.bool x72)] [Own.box b3 rApiNode x1, Own.box b4 rApiMistake x2, Own.box b7 rApiNode x5, Own.box b8 rApiMistake x6] e C) ?_ ?_
  · rintro e C ⟨x72, h, hat1⟩
    refine W_at hat1 ?_
    clear hat1
    unfold law14_awake_j1 at h
    obtain rfl := Option.some.inj h
    exact W_ret ⟨rfl, Pr.le_rfl⟩
  · refine W_r ?_
    refine rq (out := (rApiNode).val x1) (qLoad (R := rApiNode) (a := x1) (R' := rApiNode) 0 ty24 (Sub.refl _)) ?_
    refine rq (out := Pr.lst Rp.str ([([102] : List UInt8)] : List (List UInt8))) (qBuildSlice1 (R := Rp.str) (a := ([102] : List UInt8)) el25 (Nat.le_of_ble_eq_true rfl)) ?_
    obtain ⟨x9, hx9, h⟩ := bindSome h
    refine rq (out := Pr.str x9) (qCall (shape_Of_ok x1 ([([102] : List UInt8)] : List (List UInt8)) _ hx9)) ?_
    refine rq (out := Pr.bool (x9 == ([32, 32, 105, 110, 116, 32, 95, 40, 41, 32, 123, 10, 32, 32, 32, 32, 114, 101, 116, 117, 114, 110, 32, 95, 40, 41, 59, 10, 32, 32, 125, 10] : List UInt8))) qStr ?_
    refine rq (out := Pr.bool (x9 == ([32, 32, 105, 110, 116, 32, 95, 40, 41, 32, 123, 10, 32, 32, 32, 32, 114, 101, 116, 117, 114, 110, 32, 95, 40, 41, 59, 10, 32, 32, 125, 10] : List UInt8))) qMove ?_
    rcases iteSome h with ⟨hc10, h⟩ | ⟨hc10, h⟩
    · refine rqg hc10 (out := (rApiNode).val x1) (qLoad (R := rApiNode) (a := x1) (R' := rApiNode) 0 ty24 (Sub.refl _)) ?_
      refine rqg hc10 (out := (rApiNode).val x5) (qLoad (R := rApiNode) (a := x5) (R' := rApiNode) 2 ty24 (Sub.refl _)) ?_
      refine rqg hc10 (out := Pr.lst Rp.str ([([102] : List UInt8), ([103] : List UInt8)] : List (List UInt8))) (qBuildSlice (R := Rp.str) (ls := ([([102] : List UInt8), ([103] : List UInt8)] : List (List UInt8))) el25 (Nat.le_of_ble_eq_true rfl) ⟨rfl, rfl⟩ ⟨rfl, rfl, trivial⟩) ?_
      obtain ⟨x11, hx11, h⟩ := bindSome h
      refine rqg hc10 (out := Pr.i64 x11) (qCall (shape_Percent_ok x1 x5 ([([102] : List UInt8), ([103] : List UInt8)] : List (List UInt8)) _ hx11)) ?_
      refine rqg hc10 (out := Pr.bool (x11 == 100)) qInt ?_
      refine rq (out := Pr.bool (x11 == 100)) (qPickT hc10) ?_
      refine rq (out := Pr.bool (x11 == 100)) qMove ?_
      rcases iteSome h with ⟨hc12, h⟩ | ⟨hc12, h⟩
      · refine rqg hc12 (out := (rApiNode).val x1) (qLoad (R := rApiNode) (a := x1) (R' := rApiNode) 0 ty24 (Sub.refl _)) ?_
        refine rqg hc12 (out := (rApiNode).val x5) (qLoad (R := rApiNode) (a := x5) (R' := rApiNode) 2 ty24 (Sub.refl _)) ?_
        obtain ⟨x13, hx13, h⟩ := bindSome h
        refine rqg hc12 (out := Pr.i64 x13) (qCall' (shape_Percent_ok x1 x5 [] _ hx13) ⟨Pr.le_rfl, Pr.le_rfl, Pr.lst_nil _, trivial⟩) ?_
        refine rqg hc12 (out := Pr.bool (decide (x13 < 100))) qInt ?_
        refine rq (out := Pr.bool (decide (x13 < 100))) (qPickT hc12) ?_
        refine rq (out := Pr.bool (decide (x13 < 100))) qMove ?_
        rcases iteSome h with ⟨hc14, h⟩ | ⟨hc14, h⟩
        · refine rqg hc14 (out := (rApiNode).val x1) (qLoad (R := rApiNode) (a := x1) (R' := rApiNode) 0 ty24 (Sub.refl _)) ?_
          obtain ⟨x15, hx15, h⟩ := bindSome h
          refine rqg hc14 (out := Pr.lst Rp.str x15) (qCall' (shape_Tokens_ok x1 [] _ hx15) ⟨Pr.le_rfl, Pr.lst_nil _, trivial⟩) ?_
          refine rqg hc14 (out := Pr.i64 (x15.length : Int)) (qLenL rfl Tryz.underlying25) ?_
          refine rqg hc14 (out := Pr.bool ((x15.length : Int) == 11)) qInt ?_
          refine rq (out := Pr.bool ((x15.length : Int) == 11)) (qPickT hc14) ?_
          refine rq (out := Pr.bool ((x15.length : Int) == 11)) qMove ?_
          rcases iteSome h with ⟨hc16, h⟩ | ⟨hc16, h⟩
          · refine rqg hc16 (out := (rApiNode).val x1) (qLoad (R := rApiNode) (a := x1) (R' := rApiNode) 0 ty24 (Sub.refl _)) ?_
            refine rqg hc16 (out := (rApiNode).val x5) (qLoad (R := rApiNode) (a := x5) (R' := rApiNode) 2 ty24 (Sub.refl _)) ?_
            refine rqg hc16 (out := (rApiNode).val x1) (qLoad (R := rApiNode) (a := x1) (R' := rApiNode) 0 ty24 (Sub.refl _)) ?_
            refine rqg hc16 (out := Pr.lst rApiNode ([x5, x1] : List ApiNode)) (qBuildSlice (R := rApiNode) (ls := ([x5, x1] : List ApiNode)) el22 (Nat.le_of_ble_eq_true rfl) ⟨rfl, rfl⟩ ⟨rfl, rfl, trivial⟩) ?_
            obtain ⟨x17, hx17, h⟩ := bindSome h
            refine rqg hc16 (out := Pr.i64 x17) (qCall' (shape_Best_ok x1 ([x5, x1] : List ApiNode) [] 50 _ hx17) ⟨Pr.le_rfl, Pr.le_rfl, Pr.lst_nil _, Pr.le_rfl, trivial⟩) ?_
            refine rqg hc16 (out := Pr.bool (x17 == 1)) qInt ?_
            refine rq (out := Pr.bool (x17 == 1)) (qPickT hc16) ?_
            refine rq (out := Pr.bool (x17 == 1)) qMove ?_
            rcases iteSome h with ⟨hc18, h⟩ | ⟨hc18, h⟩
            · refine rqg hc18 (out := (rApiNode).val x1) (qLoad (R := rApiNode) (a := x1) (R' := rApiNode) 0 ty24 (Sub.refl _)) ?_
              refine rqg hc18 (out := Pr.lst Rp.str ([([102] : List UInt8)] : List (List UInt8))) (qBuildSlice1 (R := Rp.str) (a := ([102] : List UInt8)) el25 (Nat.le_of_ble_eq_true rfl)) ?_
              obtain ⟨x19, hx19, h⟩ := bindSome h
              refine rqg hc18 (out := (rApiNode).val x19) (qCall (shape_Erase_ok x1 ([([102] : List UInt8)] : List (List UInt8)) _ hx19)) ?_
              refine rqg hc18 (out := Pr.str x19.Text) (qField (R := rApiNode) (R' := Rp.str) (a := x19) rfl fld24_1 subApiNode_Text (Nat.le_of_ble_eq_true rfl)) ?_
              refine rqg hc18 (out := Pr.bool (x19.Text == ([95] : List UInt8))) qStr ?_
              refine rq (out := Pr.bool (x19.Text == ([95] : List UInt8))) (qPickT hc18) ?_
              refine rq (out := Pr.bool (x19.Text == ([95] : List UInt8))) qAssign ?_
              exact ⟨x19.Text == ([95] : List UInt8), h, ⟨⟨Pr.le_rfl, trivial⟩, Pick.refl _⟩⟩
            · refine rno (neT hc18) ?_
              refine rno (neT hc18) ?_
              refine rno (neT hc18) ?_
              refine rno (neT hc18) ?_
              refine rno (neT hc18) ?_
              refine rq (out := Pr.bool false) (qPickF hc18) ?_
              refine rq (out := Pr.bool false) qAssign ?_
              exact ⟨false, h, ⟨⟨Pr.le_rfl, trivial⟩, Pick.refl _⟩⟩
          · refine rno (neT hc16) ?_
            refine rno (neT hc16) ?_
            refine rno (neT hc16) ?_
            refine rno (neT hc16) ?_
            refine rno (neT hc16) ?_
            refine rno (neT hc16) ?_
            refine rq (out := Pr.bool false) (qPickF hc16) ?_
            refine rq (out := Pr.bool false) qMove ?_
            have hc20 : false = false := rfl
            refine rno (neT hc20) ?_
            refine rno (neT hc20) ?_
            refine rno (neT hc20) ?_
            refine rno (neT hc20) ?_
            refine rno (neT hc20) ?_
            refine rq (out := Pr.bool false) (qPickF hc20) ?_
            refine rq (out := Pr.bool false) qAssign ?_
            exact ⟨false, h, ⟨⟨Pr.le_rfl, trivial⟩, Pick.refl _⟩⟩
        · refine rno (neT hc14) ?_
          refine rno (neT hc14) ?_
          refine rno (neT hc14) ?_
          refine rno (neT hc14) ?_
          refine rq (out := Pr.bool false) (qPickF hc14) ?_
          refine rq (out := Pr.bool false) qMove ?_
          have hc22 : false = false := rfl
          refine rno (neT hc22) ?_
          refine rno (neT hc22) ?_
          refine rno (neT hc22) ?_
          refine rno (neT hc22) ?_
          refine rno (neT hc22) ?_
          refine rno (neT hc22) ?_
          refine rq (out := Pr.bool false) (qPickF hc22) ?_
          refine rq (out := Pr.bool false) qMove ?_
          have hc26 : false = false := rfl
          refine rno (neT hc26) ?_
          refine rno (neT hc26) ?_
          refine rno (neT hc26) ?_
          refine rno (neT hc26) ?_
          refine rno (neT hc26) ?_
          refine rq (out := Pr.bool false) (qPickF hc26) ?_
          refine rq (out := Pr.bool false) qAssign ?_
          exact ⟨false, h, ⟨⟨Pr.le_rfl, trivial⟩, Pick.refl _⟩⟩
      · refine rno (neT hc12) ?_
        refine rno (neT hc12) ?_
        refine rno (neT hc12) ?_
        refine rno (neT hc12) ?_
        refine rq (out := Pr.bool false) (qPickF hc12) ?_
        refine rq (out := Pr.bool false) qMove ?_
        have hc28 : false = false := rfl
        refine rno (neT hc28) ?_
        refine rno (neT hc28) ?_
        refine rno (neT hc28) ?_
        refine rno (neT hc28) ?_
        refine rq (out := Pr.bool false) (qPickF hc28) ?_
        refine rq (out := Pr.bool false) qMove ?_
        have hc36 : false = false := rfl
        refine rno (neT hc36) ?_
        refine rno (neT hc36) ?_
        refine rno (neT hc36) ?_
        refine rno (neT hc36) ?_
        refine rno (neT hc36) ?_
        refine rno (neT hc36) ?_
        refine rq (out := Pr.bool false) (qPickF hc36) ?_
        refine rq (out := Pr.bool false) qMove ?_
        have hc40 : false = false := rfl
        refine rno (neT hc40) ?_
        refine rno (neT hc40) ?_
        refine rno (neT hc40) ?_
        refine rno (neT hc40) ?_
        refine rno (neT hc40) ?_
        refine rq (out := Pr.bool false) (qPickF hc40) ?_
        refine rq (out := Pr.bool false) qAssign ?_
        exact ⟨false, h, ⟨⟨Pr.le_rfl, trivial⟩, Pick.refl _⟩⟩
    · refine rno (neT hc10) ?_
      refine rno (neT hc10) ?_
      refine rno (neT hc10) ?_
      refine rno (neT hc10) ?_
      refine rno (neT hc10) ?_
      refine rq (out := Pr.bool false) (qPickF hc10) ?_
      refine rq (out := Pr.bool false) qMove ?_
      have hc42 : false = false := rfl
      refine rno (neT hc42) ?_
      refine rno (neT hc42) ?_
      refine rno (neT hc42) ?_
      refine rno (neT hc42) ?_
      refine rq (out := Pr.bool false) (qPickF hc42) ?_
      refine rq (out := Pr.bool false) qMove ?_
      have hc58 : false = false := rfl
      refine rno (neT hc58) ?_
      refine rno (neT hc58) ?_
      refine rno (neT hc58) ?_
      refine rno (neT hc58) ?_
      refine rq (out := Pr.bool false) (qPickF hc58) ?_
      refine rq (out := Pr.bool false) qMove ?_
      have hc66 : false = false := rfl
      refine rno (neT hc66) ?_
      refine rno (neT hc66) ?_
      refine rno (neT hc66) ?_
      refine rno (neT hc66) ?_
      refine rno (neT hc66) ?_
      refine rno (neT hc66) ?_
      refine rq (out := Pr.bool false) (qPickF hc66) ?_
      refine rq (out := Pr.bool false) qMove ?_
      have hc70 : false = false := rfl
      refine rno (neT hc70) ?_
      refine rno (neT hc70) ?_
      refine rno (neT hc70) ?_
      refine rno (neT hc70) ?_
      refine rno (neT hc70) ?_
      refine rq (out := Pr.bool false) (qPickF hc70) ?_
      refine rq (out := Pr.bool false) qAssign ?_
      exact ⟨false, h, ⟨⟨Pr.le_rfl, trivial⟩, Pick.refl _⟩⟩
def rec_ref11_All_spec (R : rec_ref11_All_T) : Prop := (∀ (x1 : ApiNode) (x2 : Int) (r : (List ApiNode)), R x1 x2 = some r → FnP Tryz.prog 22 [(rApiNode).val x1, Pr.i64 x2] (Pr.lst rApiNode r))
theorem F_ref11_All_step (R : rec_ref11_All_T) (ih : rec_ref11_All_spec R) (x1 : ApiNode) (x2 : Int) (r : (List ApiNode)) (h : F_ref11_All R x1 x2 = some r) : FnP Tryz.prog 22 [(rApiNode).val x1, Pr.i64 x2] (Pr.lst rApiNode r) := by
  refine fn_intro (n := 36) (rs := [4]) Tryz.func22 rfl Tryz.ntmps22 ⟨by decide, Tryz.results22⟩ (by decide) (fun s0 => ?_)
  unfold F_ref11_All at h
  refine W_rs ?_
  refine rBox (R := rApiNode) (a := x1) rfl (fun b3 => ?_)
  refine rq (out := Pr.is (.slice none 0 0)) qAssign ?_
  refine W_rs ?_
  refine rq (out := Pr.is (.slice none 0 0)) qAssign ?_
  refine W_nil [5] rApiNode 24 (fun v4 => ?_) ⟨rfl, trivial⟩
  refine W_join (fun e C => ∃ (x11 : List ApiNode), ∃ (v10 : Value), ref11_All_j3 R x1 x2 x11 = some r ∧ At [(1, Pr.i64 x2), (2, Pr.pt b3 0), (5, Pr.is v10)] [Own.box b3 rApiNode x1, Own.vec v10 rApiNode x11 24] e C) ?_ ?_
  · rintro e C ⟨x11, v10, h, hat3⟩
    refine W_at hat3 ?_
    clear hat3
    unfold ref11_All_j3 at h
    refine W_seq ?_
    refine W_rs ?_
    refine rq (out := Pr.i64 0) qAssign ?_
    refine W_block ?_
    obtain ⟨z2l, hz2, h⟩ := bindSome h
    obtain ⟨n2, hN2⟩ := iter_some hz2
    clear hz2
    refine W_after 0 (fun e C => ∃ (x14 : List ApiNode), ∃ (v12 : Value), ref11_All_k1 R x14 = some r ∧ At [(5, Pr.is v12)] [Own.box b3 rApiNode x1, Own.vec v12 rApiNode x14 24] e C) ?_ ?_
    · rintro e C ⟨x14, v12, h, hat1⟩
      refine W_at hat1 ?_
      clear hat1
      unfold ref11_All_k1 at h
      refine W_rs ?_
      refine rq (out := Pr.is v12) qMove ?_
      refine rq (out := Pr.is v12) qAssign ?_
      refine W_rel 1 [4] ?_ rfl ⟨rfl, trivial⟩
      obtain rfl := Option.some.inj h
      exact W_ret ⟨rfl, Pr.le_rfl⟩
    · refine W_loop (fun m e C => ∃ (x13 : Int), ∃ (x14 : List ApiNode), ∃ (v12 : Value), IterN (fun s => ref11_All_l2 R x1 x2 s.1 s.2) m (x13, x14) = some z2l ∧ At [(1, Pr.i64 x2), (2, Pr.pt b3 0), (5, Pr.is v12), (6, Pr.i64 x13)] [Own.box b3 rApiNode x1, Own.vec v12 rApiNode x14 24] e C) n2 ⟨0, x11, v10, hN2, ⟨⟨Pr.le_rfl, Pr.le_rfl, Pr.le_rfl, Pr.le_rfl, trivial⟩, Pick.refl _⟩⟩ ?_
      clear hN2
      rintro m e C ⟨x13, x14, v12, hN2, hatl2⟩
      refine W_at hatl2 ?_
      clear hatl2
      obtain ⟨m2, w2l, rfl, h2l, hn2, ho2⟩ := iterN_some hN2
      clear hN2
      replace h2l : ref11_All_l2 R x1 x2 x13 x14 = some w2l := h2l
      unfold ref11_All_l2 at h2l
      refine W_seq ?_
      refine W_rs ?_
      refine rq (out := Pr.i64 x13) qMove ?_
      refine rq (out := Pr.pt b3 8) (qFieldP fld24_8) ?_
      refine rq (out := Pr.lst rApiNode x1.Kids) (qLoad (R := rApiNode) (a := x1) (R' := Rp.list rApiNode) 0 ty22 subApiNode_Kids) ?_
      refine rq (out := Pr.i64 (x1.Kids.length : Int)) (qLenL rfl Tryz.underlying22) ?_
      refine rq (out := Pr.bool (decide (x13 < (x1.Kids.length : Int)))) qInt ?_
      refine W_cond (b := decide (x13 < (x1.Kids.length : Int))) rfl (fun hc18 => ?_) (fun hc18 => ?_)
      · replace h2l := iteT hc18 h2l
        refine W_skip ?_
        refine W_seq ?_
        refine W_block ?_
        refine W_r ?_
        refine rq (out := Pr.is v12) qMove ?_
        refine rq (out := Pr.pt b3 8) (qFieldP fld24_8) ?_
        refine rq (out := Pr.lst rApiNode x1.Kids) (qLoad (R := rApiNode) (a := x1) (R' := Rp.list rApiNode) 0 ty22 subApiNode_Kids) ?_
        refine rq (out := Pr.i64 x13) qMove ?_
        obtain ⟨x19, hx19, h2l⟩ := bindSome h2l
        refine rq (out := Pr.cpt rApiNode x19) (qIdxA (R := rApiNode) (l := x1.Kids) Tryz.underlying22 Tryz.sizeOf24 hx19) ?_
        refine rq (out := (rApiNode).val x19) (qLoadC (R := rApiNode) (a := x19) ty24) ?_
        refine rq (out := Pr.i64 x2) qMove ?_
        obtain ⟨x20, hx20, h2l⟩ := bindSome h2l
        refine rq (out := Pr.lst rApiNode x20) (qCall (ih x19 x2 _ hx20)) ?_
        obtain ⟨x21, hx21, h2l⟩ := bindSome h2l
        refine rAppend' 1 el22 hx21 (fun v22 => ?_)
        refine rq (out := Pr.is v22) qAssign ?_
        refine W_r ?_
        refine rq (out := Pr.i64 x13) qMove ?_
        refine rq (out := Pr.i64 (w64 (x13 + 1))) qInt ?_
        refine rq (out := Pr.i64 (w64 (x13 + 1))) qAssign ?_
        exact ⟨m2, Nat.lt_succ_self _, w64 (x13 + 1), x21, v22, hn2 _ (Option.some.inj h2l).symm, ⟨⟨Pr.le_rfl, Pr.le_rfl, Pr.le_rfl, Pr.le_rfl, trivial⟩, Pick.refl _⟩⟩
      · replace h2l := iteF hc18 h2l
        refine W_exit ?_
        obtain rfl := ho2 _ (Option.some.inj h2l).symm
        exact ⟨x14, v12, h, ⟨⟨Pr.le_rfl, trivial⟩, Pick.refl _⟩⟩
  · refine W_join (fun e C => ∃ (x6 : Bool), ref11_All_j4 R x1 x2 x6 = some r ∧ At [(1, Pr.i64 x2), (2, Pr.pt b3 0), (5, Pr.is v4), (14, Pr.bool x6)] [Own.box b3 rApiNode x1, Own.vec v4 rApiNode [] 24] e C) ?_ ?_
    · rintro e C ⟨x6, h, hat4⟩
      refine W_at hat4 ?_
      clear hat4
      unfold ref11_All_j4 at h
      refine W_cond (b := x6) rfl (fun hc7 => ?_) (fun hc7 => ?_)
      · replace h := iteT hc7 h
        refine W_r ?_
        refine rq (out := Pr.is v4) qMove ?_
        refine rq (out := (rApiNode).val x1) (qLoad (R := rApiNode) (a := x1) (R' := rApiNode) 0 ty24 (Sub.refl _)) ?_
        refine rq (out := Pr.lst rApiNode ([x1] : List ApiNode)) (qBuildSlice1 (R := rApiNode) (a := x1) el22 (Nat.le_of_ble_eq_true rfl)) ?_
        obtain ⟨x8, hx8, h⟩ := bindSome h
        refine rAppend' 1 el22 hx8 (fun v9 => ?_)
        refine rq (out := Pr.is v9) qAssign ?_
        exact ⟨x8, v9, h, ⟨⟨Pr.le_rfl, Pr.le_rfl, Pr.le_rfl, trivial⟩, Pick.refl _⟩⟩
      · replace h := iteF hc7 h
        refine W_skip ?_
        exact ⟨[], v4, h, ⟨⟨Pr.le_rfl, Pr.le_rfl, Pr.le_rfl, trivial⟩, Pick.refl _⟩⟩
    · refine W_r ?_
      refine rq (out := Pr.i64 x2) qMove ?_
      refine rq (out := Pr.bool (x2 == 0)) qInt ?_
      refine rq (out := Pr.bool (x2 == 0)) qMove ?_
      rcases iteSome h with ⟨hc5, h⟩ | ⟨hc5, h⟩
      · refine rno (neF hc5) ?_
        refine rno (neF hc5) ?_
        refine rno (neF hc5) ?_
        refine rno (neF hc5) ?_
        refine rq (out := Pr.bool true) (qPickT hc5) ?_
        exact ⟨true, h, ⟨⟨Pr.le_rfl, Pr.le_rfl, Pr.le_rfl, Pr.le_rfl, trivial⟩, Pick.refl _⟩⟩
      · refine rqg hc5 (out := Pr.pt b3 0) (qFieldP fld24_0) ?_
        refine rqg hc5 (out := Pr.i64 x1.Kind) (qLoad (R := rApiNode) (a := x1) (R' := Rp.int .i64) 0 ty3 subApiNode_Kind) ?_
        refine rqg hc5 (out := Pr.i64 x2) qMove ?_
        refine rqg hc5 (out := Pr.bool (x1.Kind == x2)) qInt ?_
        refine rq (out := Pr.bool (x1.Kind == x2)) (qPickF hc5) ?_
        exact ⟨x1.Kind == x2, h, ⟨⟨Pr.le_rfl, Pr.le_rfl, Pr.le_rfl, Pr.le_rfl, trivial⟩, Pick.refl _⟩⟩
theorem rec_ref11_All_ok : ∀ n, rec_ref11_All_spec (rec_ref11_All_at n) := by
  intro n
  induction n with
  | zero => exact (fun x1 x2 r h => nomatch (show none = some r from h))
  | succ n ih => exact (fun x1 x2 r h => F_ref11_All_step (rec_ref11_All_at n) ih x1 x2 r h)
theorem ref11_All_ok (x1 : ApiNode) (x2 : Int) (r : (List ApiNode)) (h : ref11_All x1 x2 = some r) : FnP Tryz.prog 22 [(rApiNode).val x1, Pr.i64 x2] (Pr.lst rApiNode r) := (rec_ref11_All_ok 1048576) x1 x2 r h
theorem ref11_Count_ok (x1 : ApiNode) (r : Int) (h : ref11_Count x1 = some r) : FnP Tryz.prog 24 [(rApiNode).val x1] (Pr.i64 r) := by
  refine fn_intro (n := 6) (rs := [2]) Tryz.func24 rfl Tryz.ntmps24 ⟨by decide, Tryz.results24⟩ (by decide) (fun s0 => ?_)
  unfold ref11_Count at h
  refine W_rs ?_
  refine rBox (R := rApiNode) (a := x1) rfl (fun b2 => ?_)
  refine rq (out := Pr.i64 0) qAssign ?_
  refine W_rs ?_
  refine rq (out := (rApiNode).val x1) (qLoad (R := rApiNode) (a := x1) (R' := rApiNode) 0 ty24 (Sub.refl _)) ?_
  obtain ⟨x3, hx3, h⟩ := bindSome h
  refine rq (out := Pr.lst rApiNode x3) (qCall (ref11_All_ok x1 0 _ hx3)) ?_
  refine rq (out := Pr.i64 (x3.length : Int)) (qLenL rfl Tryz.underlying22) ?_
  refine rq (out := Pr.i64 (x3.length : Int)) qAssign ?_
  obtain rfl := Option.some.inj h
  exact W_ret ⟨rfl, Pr.le_rfl⟩
def rec_ref11_Deep_spec (R : rec_ref11_Deep_T) : Prop := (∀ (x1 : ApiNode) (x2 : Int) (r : Bool), R x1 x2 = some r → FnP Tryz.prog 25 [(rApiNode).val x1, Pr.i64 x2] (Pr.bool r))
theorem F_ref11_Deep_step (R : rec_ref11_Deep_T) (ih : rec_ref11_Deep_spec R) (x1 : ApiNode) (x2 : Int) (r : Bool) (h : F_ref11_Deep R x1 x2 = some r) : FnP Tryz.prog 25 [(rApiNode).val x1, Pr.i64 x2] (Pr.bool r) := by
  refine fn_intro (n := 25) (rs := [4]) Tryz.func25 rfl Tryz.ntmps25 ⟨by decide, Tryz.results25⟩ (by decide) (fun s0 => ?_)
  unfold F_ref11_Deep at h
  refine W_rs ?_
  refine rBox (R := rApiNode) (a := x1) rfl (fun b3 => ?_)
  refine rq (out := Pr.bool false) qAssign ?_
  refine W_seq ?_
  refine W_rs ?_
  refine rq (out := Pr.i64 x2) qMove ?_
  refine rq (out := Pr.bool (decide (x2 ≤ 0))) qInt ?_
  refine W_cond (b := decide (x2 ≤ 0)) rfl (fun hc4 => ?_) (fun hc4 => ?_)
  · replace h := iteT hc4 h
    refine W_rs ?_
    refine rq (out := Pr.bool true) qAssign ?_
    obtain rfl := Option.some.inj h
    exact W_ret ⟨rfl, Pr.le_rfl⟩
  · replace h := iteF hc4 h
    refine W_skip ?_
    refine W_seq ?_
    refine W_rs ?_
    refine rq (out := Pr.i64 0) qAssign ?_
    refine W_block ?_
    obtain ⟨z2l, hz2, h⟩ := bindSome h
    obtain ⟨n2, hN2⟩ := iter_some hz2
    clear hz2
    refine W_after 0 (fun e C => ref11_Deep_k1 R = some r ∧ At [] [Own.box b3 rApiNode x1] e C) ?_ ?_
    · rintro e C ⟨h, hat1⟩
      refine W_at hat1 ?_
      clear hat1
      unfold ref11_Deep_k1 at h
      refine W_rs ?_
      refine rq (out := Pr.bool false) qAssign ?_
      obtain rfl := Option.some.inj h
      exact W_ret ⟨rfl, Pr.le_rfl⟩
    · refine W_loop (fun m e C => ∃ (x5 : Int), IterN (fun s => ref11_Deep_l2 R x1 x2 s) m x5 = some z2l ∧ At [(1, Pr.i64 x2), (2, Pr.pt b3 0), (5, Pr.i64 x5)] [Own.box b3 rApiNode x1] e C) n2 ⟨0, hN2, ⟨⟨Pr.le_rfl, Pr.le_rfl, Pr.le_rfl, trivial⟩, Pick.refl _⟩⟩ ?_
      clear hN2
      rintro m e C ⟨x5, hN2, hatl2⟩
      refine W_at hatl2 ?_
      clear hatl2
      obtain ⟨m2, w2l, rfl, h2l, hn2, ho2⟩ := iterN_some hN2
      clear hN2
      replace h2l : ref11_Deep_l2 R x1 x2 x5 = some w2l := h2l
      unfold ref11_Deep_l2 at h2l
      refine W_seq ?_
      refine W_rs ?_
      refine rq (out := Pr.i64 x5) qMove ?_
      refine rq (out := Pr.pt b3 8) (qFieldP fld24_8) ?_
      refine rq (out := Pr.lst rApiNode x1.Kids) (qLoad (R := rApiNode) (a := x1) (R' := Rp.list rApiNode) 0 ty22 subApiNode_Kids) ?_
      refine rq (out := Pr.i64 (x1.Kids.length : Int)) (qLenL rfl Tryz.underlying22) ?_
      refine rq (out := Pr.bool (decide (x5 < (x1.Kids.length : Int)))) qInt ?_
      refine W_cond (b := decide (x5 < (x1.Kids.length : Int))) rfl (fun hc7 => ?_) (fun hc7 => ?_)
      · replace h2l := iteT hc7 h2l
        refine W_skip ?_
        refine W_seq ?_
        refine W_block ?_
        refine W_rs ?_
        refine rq (out := Pr.pt b3 8) (qFieldP fld24_8) ?_
        refine rq (out := Pr.lst rApiNode x1.Kids) (qLoad (R := rApiNode) (a := x1) (R' := Rp.list rApiNode) 0 ty22 subApiNode_Kids) ?_
        refine rq (out := Pr.i64 x5) qMove ?_
        obtain ⟨x8, hx8, h2l⟩ := bindSome h2l
        refine rq (out := Pr.cpt rApiNode x8) (qIdxA (R := rApiNode) (l := x1.Kids) Tryz.underlying22 Tryz.sizeOf24 hx8) ?_
        refine rq (out := (rApiNode).val x8) (qLoadC (R := rApiNode) (a := x8) ty24) ?_
        refine rq (out := Pr.i64 x2) qMove ?_
        refine rq (out := Pr.i64 (w64 (x2 - 1))) qInt ?_
        obtain ⟨x9, hx9, h2l⟩ := bindSome h2l
        refine rq (out := Pr.bool x9) (qCall (ih x8 (w64 (x2 - 1)) _ hx9)) ?_
        refine rq (out := Pr.bool x9) qAssign ?_
        refine W_rs ?_
        refine rq (out := Pr.bool x9) qMove ?_
        refine W_cond (b := x9) rfl (fun hc10 => ?_) (fun hc10 => ?_)
        · replace h2l := iteT hc10 h2l
          refine W_rs ?_
          refine rq (out := Pr.bool true) qAssign ?_
          obtain rfl := ho2 _ (Option.some.inj h2l).symm
          replace h : some true = some r := h
          obtain rfl := Option.some.inj h
          exact W_ret ⟨rfl, Pr.le_rfl⟩
        · replace h2l := iteF hc10 h2l
          refine W_skip ?_
          refine W_r ?_
          refine rq (out := Pr.i64 x5) qMove ?_
          refine rq (out := Pr.i64 (w64 (x5 + 1))) qInt ?_
          refine rq (out := Pr.i64 (w64 (x5 + 1))) qAssign ?_
          exact ⟨m2, Nat.lt_succ_self _, w64 (x5 + 1), hn2 _ (Option.some.inj h2l).symm, ⟨⟨Pr.le_rfl, Pr.le_rfl, Pr.le_rfl, trivial⟩, Pick.refl _⟩⟩
      · replace h2l := iteF hc7 h2l
        refine W_exit ?_
        obtain rfl := ho2 _ (Option.some.inj h2l).symm
        exact ⟨h, ⟨trivial, Pick.refl _⟩⟩
theorem rec_ref11_Deep_ok : ∀ n, rec_ref11_Deep_spec (rec_ref11_Deep_at n) := by
  intro n
  induction n with
  | zero => exact (fun x1 x2 r h => nomatch (show none = some r from h))
  | succ n ih => exact (fun x1 x2 r h => F_ref11_Deep_step (rec_ref11_Deep_at n) ih x1 x2 r h)
theorem ref11_Deep_ok (x1 : ApiNode) (x2 : Int) (r : Bool) (h : ref11_Deep x1 x2 = some r) : FnP Tryz.prog 25 [(rApiNode).val x1, Pr.i64 x2] (Pr.bool r) := (rec_ref11_Deep_ok 1048576) x1 x2 r h
theorem law14_few_ok (x1 : ApiNode) (r : Bool) (h : law14_few x1 = some r) : FnP Tryz.prog 8 [(rApiNode).val x1] (Pr.bool r) := by
  refine fn_intro (n := 13) (rs := [2]) Tryz.func8 rfl Tryz.ntmps8 ⟨by decide, Tryz.results8⟩ (by decide) (fun s0 => ?_)
  unfold law14_few at h
  refine W_rs ?_
  refine rBox (R := rApiNode) (a := x1) rfl (fun b2 => ?_)
  refine rq (out := Pr.bool false) qAssign ?_
  refine W_rs ?_
  refine rq (out := (rApiNode).val x1) (qLoad (R := rApiNode) (a := x1) (R' := rApiNode) 0 ty24 (Sub.refl _)) ?_
  obtain ⟨x3, hx3, h⟩ := bindSome h
  refine rq (out := Pr.bool x3) (qCall (ref11_Deep_ok x1 60 _ hx3)) ?_
  refine rq (out := Pr.bool x3) qAssign ?_
  refine W_join (fun e C => ∃ (x6 : Bool), law14_few_j1 x6 = some r ∧ At [(2, Pr.bool x6)] [Own.box b2 rApiNode x1] e C) ?_ ?_
  · rintro e C ⟨x6, h, hat1⟩
    refine W_at hat1 ?_
    clear hat1
    unfold law14_few_j1 at h
    obtain rfl := Option.some.inj h
    exact W_ret ⟨rfl, Pr.le_rfl⟩
  · refine W_r ?_
    refine rq (out := Pr.bool x3) qMove ?_
    refine rq (out := Pr.bool (!x3)) qNot ?_
    refine rq (out := Pr.bool (!x3)) qMove ?_
    rcases iteSome h with ⟨hc4, h⟩ | ⟨hc4, h⟩
    · refine rqg hc4 (out := (rApiNode).val x1) (qLoad (R := rApiNode) (a := x1) (R' := rApiNode) 0 ty24 (Sub.refl _)) ?_
      obtain ⟨x5, hx5, h⟩ := bindSome h
      refine rqg hc4 (out := Pr.i64 x5) (qCall (ref11_Count_ok x1 _ hx5)) ?_
      refine rqg hc4 (out := Pr.bool (decide (x5 ≤ 150))) qInt ?_
      refine rq (out := Pr.bool (decide (x5 ≤ 150))) (qPickT hc4) ?_
      refine rq (out := Pr.bool (decide (x5 ≤ 150))) qAssign ?_
      exact ⟨decide (x5 ≤ 150), h, ⟨⟨Pr.le_rfl, trivial⟩, Pick.refl _⟩⟩
    · refine rno (neT hc4) ?_
      refine rno (neT hc4) ?_
      refine rno (neT hc4) ?_
      refine rq (out := Pr.bool false) (qPickF hc4) ?_
      refine rq (out := Pr.bool false) qAssign ?_
      exact ⟨false, h, ⟨⟨Pr.le_rfl, trivial⟩, Pick.refl _⟩⟩
def rec_ref11_Exact_spec (R : rec_ref11_Exact_T) : Prop := (∀ (x1 : ApiNode) (x2 : ApiNode) (r : Bool), R x1 x2 = some r → FnP Tryz.prog 9 [(rApiNode).val x1, (rApiNode).val x2] (Pr.bool r))
theorem F_ref11_Exact_step (R : rec_ref11_Exact_T) (ih : rec_ref11_Exact_spec R) (x1 : ApiNode) (x2 : ApiNode) (r : Bool) (h : F_ref11_Exact R x1 x2 = some r) : FnP Tryz.prog 9 [(rApiNode).val x1, (rApiNode).val x2] (Pr.bool r) := by
  refine fn_intro (n := 90) (rs := [4]) Tryz.func9 rfl Tryz.ntmps9 ⟨by decide, Tryz.results9⟩ (by decide) (fun s0 => ?_)
  unfold F_ref11_Exact at h
  refine W_rs ?_
  refine rBox (R := rApiNode) (a := x1) rfl (fun b3 => ?_)
  refine rBox (R := rApiNode) (a := x2) rfl (fun b4 => ?_)
  refine rq (out := Pr.bool false) qAssign ?_
  refine W_seq ?_
  refine W_join (fun e C => ∃ (x260 : Bool), ref11_Exact_j4 R x1 x2 x260 = some r ∧ At [(2, Pr.pt b3 0), (3, Pr.pt b4 0), (69, Pr.bool x260)] [Own.box b3 rApiNode x1, Own.box b4 rApiNode x2] e C) ?_ ?_
  · rintro e C ⟨x260, h, hat4⟩
    refine W_at hat4 ?_
    clear hat4
    unfold ref11_Exact_j4 at h
    refine W_cond (b := x260) rfl (fun hc261 => ?_) (fun hc261 => ?_)
    · replace h := iteT hc261 h
      refine W_rs ?_
      refine rq (out := Pr.bool false) qAssign ?_
      obtain rfl := Option.some.inj h
      exact W_ret ⟨rfl, Pr.le_rfl⟩
    · replace h := iteF hc261 h
      refine W_skip ?_
      refine W_seq ?_
      refine W_rs ?_
      refine rq (out := Pr.i64 0) qAssign ?_
      refine W_block ?_
      obtain ⟨z2l, hz2, h⟩ := bindSome h
      obtain ⟨n2, hN2⟩ := iter_some hz2
      clear hz2
      refine W_after 0 (fun e C => ref11_Exact_k1 R = some r ∧ At [] [Own.box b3 rApiNode x1, Own.box b4 rApiNode x2] e C) ?_ ?_
      · rintro e C ⟨h, hat1⟩
        refine W_at hat1 ?_
        clear hat1
        unfold ref11_Exact_k1 at h
        refine W_rs ?_
        refine rq (out := Pr.bool true) qAssign ?_
        obtain rfl := Option.some.inj h
        exact W_ret ⟨rfl, Pr.le_rfl⟩
      · refine W_loop (fun m e C => ∃ (x262 : Int), IterN (fun s => ref11_Exact_l2 R x1 x2 s) m x262 = some z2l ∧ At [(2, Pr.pt b3 0), (3, Pr.pt b4 0), (5, Pr.i64 x262)] [Own.box b3 rApiNode x1, Own.box b4 rApiNode x2] e C) n2 ⟨0, hN2, ⟨⟨Pr.le_rfl, Pr.le_rfl, Pr.le_rfl, trivial⟩, Pick.refl _⟩⟩ ?_
        clear hN2
        rintro m e C ⟨x262, hN2, hatl2⟩
        refine W_at hatl2 ?_
        clear hatl2
        obtain ⟨m2, w2l, rfl, h2l, hn2, ho2⟩ := iterN_some hN2
        clear hN2
        replace h2l : ref11_Exact_l2 R x1 x2 x262 = some w2l := h2l
        unfold ref11_Exact_l2 at h2l
        refine W_seq ?_
        refine W_rs ?_
        refine rq (out := Pr.i64 x262) qMove ?_
        refine rq (out := Pr.pt b3 8) (qFieldP fld24_8) ?_
        refine rq (out := Pr.lst rApiNode x1.Kids) (qLoad (R := rApiNode) (a := x1) (R' := Rp.list rApiNode) 0 ty22 subApiNode_Kids) ?_
        refine rq (out := Pr.i64 (x1.Kids.length : Int)) (qLenL rfl Tryz.underlying22) ?_
        refine rq (out := Pr.bool (decide (x262 < (x1.Kids.length : Int)))) qInt ?_
        refine W_cond (b := decide (x262 < (x1.Kids.length : Int))) rfl (fun hc264 => ?_) (fun hc264 => ?_)
        · replace h2l := iteT hc264 h2l
          refine W_skip ?_
          refine W_seq ?_
          refine W_block ?_
          refine W_join (fun e C => ∃ (x267 : Bool), ref11_Exact_j3 R x262 x267 = some w2l ∧ At [(2, Pr.pt b3 0), (3, Pr.pt b4 0), (5, Pr.i64 x262), (6, Pr.bool x267)] [Own.box b3 rApiNode x1, Own.box b4 rApiNode x2] e C) ?_ ?_
          · rintro e C ⟨x267, h2l, hat3⟩
            refine W_at hat3 ?_
            clear hat3
            unfold ref11_Exact_j3 at h2l
            refine W_rs ?_
            refine rq (out := Pr.bool x267) qMove ?_
            refine rq (out := Pr.bool (!x267)) qNot ?_
            refine W_cond (b := !x267) rfl (fun hc268 => ?_) (fun hc268 => ?_)
            · replace h2l := iteT hc268 h2l
              refine W_rs ?_
              refine rq (out := Pr.bool false) qAssign ?_
              obtain rfl := ho2 _ (Option.some.inj h2l).symm
              replace h : some false = some r := h
              obtain rfl := Option.some.inj h
              exact W_ret ⟨rfl, Pr.le_rfl⟩
            · replace h2l := iteF hc268 h2l
              refine W_skip ?_
              refine W_r ?_
              refine rq (out := Pr.i64 x262) qMove ?_
              refine rq (out := Pr.i64 (w64 (x262 + 1))) qInt ?_
              refine rq (out := Pr.i64 (w64 (x262 + 1))) qAssign ?_
              exact ⟨m2, Nat.lt_succ_self _, w64 (x262 + 1), hn2 _ (Option.some.inj h2l).symm, ⟨⟨Pr.le_rfl, Pr.le_rfl, Pr.le_rfl, trivial⟩, Pick.refl _⟩⟩
          · refine W_draw 12 hmx (by kernel_rfl) (by kernel_rfl) ?_
            refine qq (out := Pr.pt b3 8) (qFieldP fld24_8) ?_
            refine qq (out := Pr.lst rApiNode x1.Kids) (qLoad (R := rApiNode) (a := x1) (R' := Rp.list rApiNode) 0 ty22 subApiNode_Kids) ?_
            refine qq (out := Pr.i64 x262) qMove ?_
            obtain ⟨x265, hx265, h2l⟩ := bindSome h2l
            refine qq (out := Pr.cpt rApiNode x265) (qIdxA (R := rApiNode) (l := x1.Kids) Tryz.underlying22 Tryz.sizeOf24 hx265) ?_
            refine qq (out := (rApiNode).val x265) (qLoadC (R := rApiNode) (a := x265) ty24) ?_
            refine qq (out := Pr.pt b4 8) (qFieldP fld24_8) ?_
            refine qq (out := Pr.lst rApiNode x2.Kids) (qLoad (R := rApiNode) (a := x2) (R' := Rp.list rApiNode) 1 ty22 subApiNode_Kids) ?_
            refine qq (out := Pr.i64 x262) qMove ?_
            obtain ⟨x266, hx266, h2l⟩ := bindSome h2l
            refine qq (out := Pr.cpt rApiNode x266) (qIdxA (R := rApiNode) (l := x2.Kids) Tryz.underlying22 Tryz.sizeOf24 hx266) ?_
            refine qq (out := (rApiNode).val x266) (qLoadC (R := rApiNode) (a := x266) ty24) ?_
            obtain ⟨x267, hx267, h2l⟩ := bindSome h2l
            refine qq (out := Pr.bool x267) (qCall (ih x265 x266 _ hx267)) ?_
            refine qq (out := Pr.bool x267) qAssign ?_
            exact ⟨x267, h2l, ⟨⟨Pr.le_rfl, Pr.le_rfl, Pr.le_rfl, Pr.le_rfl, trivial⟩, Pick.refl _⟩⟩
        · replace h2l := iteF hc264 h2l
          refine W_exit ?_
          obtain rfl := ho2 _ (Option.some.inj h2l).symm
          exact ⟨h, ⟨trivial, Pick.refl _⟩⟩
  · refine W_r ?_
    refine rq (out := Pr.pt b3 4) (qFieldP fld24_4) ?_
    refine rq (out := Pr.i64 x1.From) (qLoad (R := rApiNode) (a := x1) (R' := Rp.int .i64) 0 ty3 subApiNode_From) ?_
    refine rq (out := Pr.pt b4 4) (qFieldP fld24_4) ?_
    refine rq (out := Pr.i64 x2.From) (qLoad (R := rApiNode) (a := x2) (R' := Rp.int .i64) 1 ty3 subApiNode_From) ?_
    refine rq (out := Pr.bool (x1.From != x2.From)) qInt ?_
    refine rq (out := Pr.bool (x1.From != x2.From)) qMove ?_
    rcases iteSome h with ⟨hc5, h⟩ | ⟨hc5, h⟩
    · refine rno (neF hc5) ?_
      refine rno (neF hc5) ?_
      refine rno (neF hc5) ?_
      refine rno (neF hc5) ?_
      refine rno (neF hc5) ?_
      refine rq (out := Pr.bool true) (qPickT hc5) ?_
      refine rq (out := Pr.bool true) qMove ?_
      have hc133 : true = true := rfl
      refine rno (neF hc133) ?_
      refine rno (neF hc133) ?_
      refine rno (neF hc133) ?_
      refine rno (neF hc133) ?_
      refine rno (neF hc133) ?_
      refine rq (out := Pr.bool true) (qPickT hc133) ?_
      refine rq (out := Pr.bool true) qMove ?_
      have hc197 : true = true := rfl
      refine rno (neF hc197) ?_
      refine rno (neF hc197) ?_
      refine rno (neF hc197) ?_
      refine rno (neF hc197) ?_
      refine rno (neF hc197) ?_
      refine rq (out := Pr.bool true) (qPickT hc197) ?_
      refine rq (out := Pr.bool true) qMove ?_
      have hc229 : true = true := rfl
      refine rno (neF hc229) ?_
      refine rno (neF hc229) ?_
      refine rno (neF hc229) ?_
      refine rno (neF hc229) ?_
      refine rno (neF hc229) ?_
      refine rq (out := Pr.bool true) (qPickT hc229) ?_
      refine rq (out := Pr.bool true) qMove ?_
      have hc245 : true = true := rfl
      refine rno (neF hc245) ?_
      refine rno (neF hc245) ?_
      refine rno (neF hc245) ?_
      refine rno (neF hc245) ?_
      refine rno (neF hc245) ?_
      refine rq (out := Pr.bool true) (qPickT hc245) ?_
      refine rq (out := Pr.bool true) qMove ?_
      have hc253 : true = true := rfl
      refine rno (neF hc253) ?_
      refine rno (neF hc253) ?_
      refine rno (neF hc253) ?_
      refine rno (neF hc253) ?_
      refine rno (neF hc253) ?_
      refine rq (out := Pr.bool true) (qPickT hc253) ?_
      refine rq (out := Pr.bool true) qMove ?_
      have hc257 : true = true := rfl
      refine rno (neF hc257) ?_
      refine rno (neF hc257) ?_
      refine rno (neF hc257) ?_
      refine rno (neF hc257) ?_
      refine rno (neF hc257) ?_
      refine rq (out := Pr.bool true) (qPickT hc257) ?_
      refine rq (out := Pr.bool true) qMove ?_
      have hc259 : true = true := rfl
      refine rno (neF hc259) ?_
      refine rno (neF hc259) ?_
      refine rno (neF hc259) ?_
      refine rno (neF hc259) ?_
      refine rno (neF hc259) ?_
      refine rno (neF hc259) ?_
      refine rno (neF hc259) ?_
      refine rq (out := Pr.bool true) (qPickT hc259) ?_
      exact ⟨true, h, ⟨⟨Pr.le_rfl, Pr.le_rfl, Pr.le_rfl, trivial⟩, Pick.refl _⟩⟩
    · refine rqg hc5 (out := Pr.pt b3 5) (qFieldP fld24_5) ?_
      refine rqg hc5 (out := Pr.i64 x1.To) (qLoad (R := rApiNode) (a := x1) (R' := Rp.int .i64) 0 ty3 subApiNode_To) ?_
      refine rqg hc5 (out := Pr.pt b4 5) (qFieldP fld24_5) ?_
      refine rqg hc5 (out := Pr.i64 x2.To) (qLoad (R := rApiNode) (a := x2) (R' := Rp.int .i64) 1 ty3 subApiNode_To) ?_
      refine rqg hc5 (out := Pr.bool (x1.To != x2.To)) qInt ?_
      refine rq (out := Pr.bool (x1.To != x2.To)) (qPickF hc5) ?_
      refine rq (out := Pr.bool (x1.To != x2.To)) qMove ?_
      rcases iteSome h with ⟨hc6, h⟩ | ⟨hc6, h⟩
      · refine rno (neF hc6) ?_
        refine rno (neF hc6) ?_
        refine rno (neF hc6) ?_
        refine rno (neF hc6) ?_
        refine rno (neF hc6) ?_
        refine rq (out := Pr.bool true) (qPickT hc6) ?_
        refine rq (out := Pr.bool true) qMove ?_
        have hc70 : true = true := rfl
        refine rno (neF hc70) ?_
        refine rno (neF hc70) ?_
        refine rno (neF hc70) ?_
        refine rno (neF hc70) ?_
        refine rno (neF hc70) ?_
        refine rq (out := Pr.bool true) (qPickT hc70) ?_
        refine rq (out := Pr.bool true) qMove ?_
        have hc102 : true = true := rfl
        refine rno (neF hc102) ?_
        refine rno (neF hc102) ?_
        refine rno (neF hc102) ?_
        refine rno (neF hc102) ?_
        refine rno (neF hc102) ?_
        refine rq (out := Pr.bool true) (qPickT hc102) ?_
        refine rq (out := Pr.bool true) qMove ?_
        have hc118 : true = true := rfl
        refine rno (neF hc118) ?_
        refine rno (neF hc118) ?_
        refine rno (neF hc118) ?_
        refine rno (neF hc118) ?_
        refine rno (neF hc118) ?_
        refine rq (out := Pr.bool true) (qPickT hc118) ?_
        refine rq (out := Pr.bool true) qMove ?_
        have hc126 : true = true := rfl
        refine rno (neF hc126) ?_
        refine rno (neF hc126) ?_
        refine rno (neF hc126) ?_
        refine rno (neF hc126) ?_
        refine rno (neF hc126) ?_
        refine rq (out := Pr.bool true) (qPickT hc126) ?_
        refine rq (out := Pr.bool true) qMove ?_
        have hc130 : true = true := rfl
        refine rno (neF hc130) ?_
        refine rno (neF hc130) ?_
        refine rno (neF hc130) ?_
        refine rno (neF hc130) ?_
        refine rno (neF hc130) ?_
        refine rq (out := Pr.bool true) (qPickT hc130) ?_
        refine rq (out := Pr.bool true) qMove ?_
        have hc132 : true = true := rfl
        refine rno (neF hc132) ?_
        refine rno (neF hc132) ?_
        refine rno (neF hc132) ?_
        refine rno (neF hc132) ?_
        refine rno (neF hc132) ?_
        refine rno (neF hc132) ?_
        refine rno (neF hc132) ?_
        refine rq (out := Pr.bool true) (qPickT hc132) ?_
        exact ⟨true, h, ⟨⟨Pr.le_rfl, Pr.le_rfl, Pr.le_rfl, trivial⟩, Pick.refl _⟩⟩
      · refine rqg hc6 (out := Pr.pt b3 6) (qFieldP fld24_6) ?_
        refine rqg hc6 (out := Pr.i64 x1.At) (qLoad (R := rApiNode) (a := x1) (R' := Rp.int .i64) 0 ty3 subApiNode_At) ?_
        refine rqg hc6 (out := Pr.pt b4 6) (qFieldP fld24_6) ?_
        refine rqg hc6 (out := Pr.i64 x2.At) (qLoad (R := rApiNode) (a := x2) (R' := Rp.int .i64) 1 ty3 subApiNode_At) ?_
        refine rqg hc6 (out := Pr.bool (x1.At != x2.At)) qInt ?_
        refine rq (out := Pr.bool (x1.At != x2.At)) (qPickF hc6) ?_
        refine rq (out := Pr.bool (x1.At != x2.At)) qMove ?_
        rcases iteSome h with ⟨hc7, h⟩ | ⟨hc7, h⟩
        · refine rno (neF hc7) ?_
          refine rno (neF hc7) ?_
          refine rno (neF hc7) ?_
          refine rno (neF hc7) ?_
          refine rno (neF hc7) ?_
          refine rq (out := Pr.bool true) (qPickT hc7) ?_
          refine rq (out := Pr.bool true) qMove ?_
          have hc39 : true = true := rfl
          refine rno (neF hc39) ?_
          refine rno (neF hc39) ?_
          refine rno (neF hc39) ?_
          refine rno (neF hc39) ?_
          refine rno (neF hc39) ?_
          refine rq (out := Pr.bool true) (qPickT hc39) ?_
          refine rq (out := Pr.bool true) qMove ?_
          have hc55 : true = true := rfl
          refine rno (neF hc55) ?_
          refine rno (neF hc55) ?_
          refine rno (neF hc55) ?_
          refine rno (neF hc55) ?_
          refine rno (neF hc55) ?_
          refine rq (out := Pr.bool true) (qPickT hc55) ?_
          refine rq (out := Pr.bool true) qMove ?_
          have hc63 : true = true := rfl
          refine rno (neF hc63) ?_
          refine rno (neF hc63) ?_
          refine rno (neF hc63) ?_
          refine rno (neF hc63) ?_
          refine rno (neF hc63) ?_
          refine rq (out := Pr.bool true) (qPickT hc63) ?_
          refine rq (out := Pr.bool true) qMove ?_
          have hc67 : true = true := rfl
          refine rno (neF hc67) ?_
          refine rno (neF hc67) ?_
          refine rno (neF hc67) ?_
          refine rno (neF hc67) ?_
          refine rno (neF hc67) ?_
          refine rq (out := Pr.bool true) (qPickT hc67) ?_
          refine rq (out := Pr.bool true) qMove ?_
          have hc69 : true = true := rfl
          refine rno (neF hc69) ?_
          refine rno (neF hc69) ?_
          refine rno (neF hc69) ?_
          refine rno (neF hc69) ?_
          refine rno (neF hc69) ?_
          refine rno (neF hc69) ?_
          refine rno (neF hc69) ?_
          refine rq (out := Pr.bool true) (qPickT hc69) ?_
          exact ⟨true, h, ⟨⟨Pr.le_rfl, Pr.le_rfl, Pr.le_rfl, trivial⟩, Pick.refl _⟩⟩
        · refine rqg hc7 (out := Pr.pt b3 7) (qFieldP fld24_7) ?_
          refine rqg hc7 (out := Pr.i64 x1.TypeAt) (qLoad (R := rApiNode) (a := x1) (R' := Rp.int .i64) 0 ty3 subApiNode_TypeAt) ?_
          refine rqg hc7 (out := Pr.pt b4 7) (qFieldP fld24_7) ?_
          refine rqg hc7 (out := Pr.i64 x2.TypeAt) (qLoad (R := rApiNode) (a := x2) (R' := Rp.int .i64) 1 ty3 subApiNode_TypeAt) ?_
          refine rqg hc7 (out := Pr.bool (x1.TypeAt != x2.TypeAt)) qInt ?_
          refine rq (out := Pr.bool (x1.TypeAt != x2.TypeAt)) (qPickF hc7) ?_
          refine rq (out := Pr.bool (x1.TypeAt != x2.TypeAt)) qMove ?_
          rcases iteSome h with ⟨hc8, h⟩ | ⟨hc8, h⟩
          · refine rno (neF hc8) ?_
            refine rno (neF hc8) ?_
            refine rno (neF hc8) ?_
            refine rno (neF hc8) ?_
            refine rno (neF hc8) ?_
            refine rq (out := Pr.bool true) (qPickT hc8) ?_
            refine rq (out := Pr.bool true) qMove ?_
            have hc24 : true = true := rfl
            refine rno (neF hc24) ?_
            refine rno (neF hc24) ?_
            refine rno (neF hc24) ?_
            refine rno (neF hc24) ?_
            refine rno (neF hc24) ?_
            refine rq (out := Pr.bool true) (qPickT hc24) ?_
            refine rq (out := Pr.bool true) qMove ?_
            have hc32 : true = true := rfl
            refine rno (neF hc32) ?_
            refine rno (neF hc32) ?_
            refine rno (neF hc32) ?_
            refine rno (neF hc32) ?_
            refine rno (neF hc32) ?_
            refine rq (out := Pr.bool true) (qPickT hc32) ?_
            refine rq (out := Pr.bool true) qMove ?_
            have hc36 : true = true := rfl
            refine rno (neF hc36) ?_
            refine rno (neF hc36) ?_
            refine rno (neF hc36) ?_
            refine rno (neF hc36) ?_
            refine rno (neF hc36) ?_
            refine rq (out := Pr.bool true) (qPickT hc36) ?_
            refine rq (out := Pr.bool true) qMove ?_
            have hc38 : true = true := rfl
            refine rno (neF hc38) ?_
            refine rno (neF hc38) ?_
            refine rno (neF hc38) ?_
            refine rno (neF hc38) ?_
            refine rno (neF hc38) ?_
            refine rno (neF hc38) ?_
            refine rno (neF hc38) ?_
            refine rq (out := Pr.bool true) (qPickT hc38) ?_
            exact ⟨true, h, ⟨⟨Pr.le_rfl, Pr.le_rfl, Pr.le_rfl, trivial⟩, Pick.refl _⟩⟩
          · refine rqg hc8 (out := Pr.pt b3 0) (qFieldP fld24_0) ?_
            refine rqg hc8 (out := Pr.i64 x1.Kind) (qLoad (R := rApiNode) (a := x1) (R' := Rp.int .i64) 0 ty3 subApiNode_Kind) ?_
            refine rqg hc8 (out := Pr.pt b4 0) (qFieldP fld24_0) ?_
            refine rqg hc8 (out := Pr.i64 x2.Kind) (qLoad (R := rApiNode) (a := x2) (R' := Rp.int .i64) 1 ty3 subApiNode_Kind) ?_
            refine rqg hc8 (out := Pr.bool (x1.Kind != x2.Kind)) qInt ?_
            refine rq (out := Pr.bool (x1.Kind != x2.Kind)) (qPickF hc8) ?_
            refine rq (out := Pr.bool (x1.Kind != x2.Kind)) qMove ?_
            rcases iteSome h with ⟨hc9, h⟩ | ⟨hc9, h⟩
            · refine rno (neF hc9) ?_
              refine rno (neF hc9) ?_
              refine rno (neF hc9) ?_
              refine rno (neF hc9) ?_
              refine rno (neF hc9) ?_
              refine rq (out := Pr.bool true) (qPickT hc9) ?_
              refine rq (out := Pr.bool true) qMove ?_
              have hc17 : true = true := rfl
              refine rno (neF hc17) ?_
              refine rno (neF hc17) ?_
              refine rno (neF hc17) ?_
              refine rno (neF hc17) ?_
              refine rno (neF hc17) ?_
              refine rq (out := Pr.bool true) (qPickT hc17) ?_
              refine rq (out := Pr.bool true) qMove ?_
              have hc21 : true = true := rfl
              refine rno (neF hc21) ?_
              refine rno (neF hc21) ?_
              refine rno (neF hc21) ?_
              refine rno (neF hc21) ?_
              refine rno (neF hc21) ?_
              refine rq (out := Pr.bool true) (qPickT hc21) ?_
              refine rq (out := Pr.bool true) qMove ?_
              have hc23 : true = true := rfl
              refine rno (neF hc23) ?_
              refine rno (neF hc23) ?_
              refine rno (neF hc23) ?_
              refine rno (neF hc23) ?_
              refine rno (neF hc23) ?_
              refine rno (neF hc23) ?_
              refine rno (neF hc23) ?_
              refine rq (out := Pr.bool true) (qPickT hc23) ?_
              exact ⟨true, h, ⟨⟨Pr.le_rfl, Pr.le_rfl, Pr.le_rfl, trivial⟩, Pick.refl _⟩⟩
            · refine rqg hc9 (out := Pr.pt b3 1) (qFieldP fld24_1) ?_
              refine rqg hc9 (out := Pr.str x1.Text) (qLoad (R := rApiNode) (a := x1) (R' := Rp.str) 0 ty9 subApiNode_Text) ?_
              refine rqg hc9 (out := Pr.pt b4 1) (qFieldP fld24_1) ?_
              refine rqg hc9 (out := Pr.str x2.Text) (qLoad (R := rApiNode) (a := x2) (R' := Rp.str) 1 ty9 subApiNode_Text) ?_
              refine rqg hc9 (out := Pr.bool (!(x1.Text == x2.Text))) qStr ?_
              refine rq (out := Pr.bool (!(x1.Text == x2.Text))) (qPickF hc9) ?_
              refine rq (out := Pr.bool (!(x1.Text == x2.Text))) qMove ?_
              rcases iteSome h with ⟨hc10, h⟩ | ⟨hc10, h⟩
              · refine rno (neF hc10) ?_
                refine rno (neF hc10) ?_
                refine rno (neF hc10) ?_
                refine rno (neF hc10) ?_
                refine rno (neF hc10) ?_
                refine rq (out := Pr.bool true) (qPickT hc10) ?_
                refine rq (out := Pr.bool true) qMove ?_
                have hc14 : true = true := rfl
                refine rno (neF hc14) ?_
                refine rno (neF hc14) ?_
                refine rno (neF hc14) ?_
                refine rno (neF hc14) ?_
                refine rno (neF hc14) ?_
                refine rq (out := Pr.bool true) (qPickT hc14) ?_
                refine rq (out := Pr.bool true) qMove ?_
                have hc16 : true = true := rfl
                refine rno (neF hc16) ?_
                refine rno (neF hc16) ?_
                refine rno (neF hc16) ?_
                refine rno (neF hc16) ?_
                refine rno (neF hc16) ?_
                refine rno (neF hc16) ?_
                refine rno (neF hc16) ?_
                refine rq (out := Pr.bool true) (qPickT hc16) ?_
                exact ⟨true, h, ⟨⟨Pr.le_rfl, Pr.le_rfl, Pr.le_rfl, trivial⟩, Pick.refl _⟩⟩
              · refine rqg hc10 (out := Pr.pt b3 2) (qFieldP fld24_2) ?_
                refine rqg hc10 (out := Pr.str x1.Type_) (qLoad (R := rApiNode) (a := x1) (R' := Rp.str) 0 ty9 subApiNode_Type) ?_
                refine rqg hc10 (out := Pr.pt b4 2) (qFieldP fld24_2) ?_
                refine rqg hc10 (out := Pr.str x2.Type_) (qLoad (R := rApiNode) (a := x2) (R' := Rp.str) 1 ty9 subApiNode_Type) ?_
                refine rqg hc10 (out := Pr.bool (!(x1.Type_ == x2.Type_))) qStr ?_
                refine rq (out := Pr.bool (!(x1.Type_ == x2.Type_))) (qPickF hc10) ?_
                refine rq (out := Pr.bool (!(x1.Type_ == x2.Type_))) qMove ?_
                rcases iteSome h with ⟨hc11, h⟩ | ⟨hc11, h⟩
                · refine rno (neF hc11) ?_
                  refine rno (neF hc11) ?_
                  refine rno (neF hc11) ?_
                  refine rno (neF hc11) ?_
                  refine rno (neF hc11) ?_
                  refine rq (out := Pr.bool true) (qPickT hc11) ?_
                  refine rq (out := Pr.bool true) qMove ?_
                  have hc13 : true = true := rfl
                  refine rno (neF hc13) ?_
                  refine rno (neF hc13) ?_
                  refine rno (neF hc13) ?_
                  refine rno (neF hc13) ?_
                  refine rno (neF hc13) ?_
                  refine rno (neF hc13) ?_
                  refine rno (neF hc13) ?_
                  refine rq (out := Pr.bool true) (qPickT hc13) ?_
                  exact ⟨true, h, ⟨⟨Pr.le_rfl, Pr.le_rfl, Pr.le_rfl, trivial⟩, Pick.refl _⟩⟩
                · refine rqg hc11 (out := Pr.pt b3 3) (qFieldP fld24_3) ?_
                  refine rqg hc11 (out := Pr.i64 x1.N) (qLoad (R := rApiNode) (a := x1) (R' := Rp.int .i64) 0 ty2 subApiNode_N) ?_
                  refine rqg hc11 (out := Pr.pt b4 3) (qFieldP fld24_3) ?_
                  refine rqg hc11 (out := Pr.i64 x2.N) (qLoad (R := rApiNode) (a := x2) (R' := Rp.int .i64) 1 ty2 subApiNode_N) ?_
                  refine rqg hc11 (out := Pr.bool (x1.N != x2.N)) qInt ?_
                  refine rq (out := Pr.bool (x1.N != x2.N)) (qPickF hc11) ?_
                  refine rq (out := Pr.bool (x1.N != x2.N)) qMove ?_
                  rcases iteSome h with ⟨hc12, h⟩ | ⟨hc12, h⟩
                  · refine rno (neF hc12) ?_
                    refine rno (neF hc12) ?_
                    refine rno (neF hc12) ?_
                    refine rno (neF hc12) ?_
                    refine rno (neF hc12) ?_
                    refine rno (neF hc12) ?_
                    refine rno (neF hc12) ?_
                    refine rq (out := Pr.bool true) (qPickT hc12) ?_
                    exact ⟨true, h, ⟨⟨Pr.le_rfl, Pr.le_rfl, Pr.le_rfl, trivial⟩, Pick.refl _⟩⟩
                  · refine rqg hc12 (out := Pr.pt b3 8) (qFieldP fld24_8) ?_
                    refine rqg hc12 (out := Pr.lst rApiNode x1.Kids) (qLoad (R := rApiNode) (a := x1) (R' := Rp.list rApiNode) 0 ty22 subApiNode_Kids) ?_
                    refine rqg hc12 (out := Pr.i64 (x1.Kids.length : Int)) (qLenL rfl Tryz.underlying22) ?_
                    refine rqg hc12 (out := Pr.pt b4 8) (qFieldP fld24_8) ?_
                    refine rqg hc12 (out := Pr.lst rApiNode x2.Kids) (qLoad (R := rApiNode) (a := x2) (R' := Rp.list rApiNode) 1 ty22 subApiNode_Kids) ?_
                    refine rqg hc12 (out := Pr.i64 (x2.Kids.length : Int)) (qLenL rfl Tryz.underlying22) ?_
                    refine rqg hc12 (out := Pr.bool ((x1.Kids.length : Int) != (x2.Kids.length : Int))) qInt ?_
                    refine rq (out := Pr.bool ((x1.Kids.length : Int) != (x2.Kids.length : Int))) (qPickF hc12) ?_
                    exact ⟨(x1.Kids.length : Int) != (x2.Kids.length : Int), h, ⟨⟨Pr.le_rfl, Pr.le_rfl, Pr.le_rfl, trivial⟩, Pick.refl _⟩⟩
theorem rec_ref11_Exact_ok : ∀ n, rec_ref11_Exact_spec (rec_ref11_Exact_at n) := by
  intro n
  induction n with
  | zero => exact (fun x1 x2 r h => nomatch (show none = some r from h))
  | succ n ih => exact (fun x1 x2 r h => F_ref11_Exact_step (rec_ref11_Exact_at n) ih x1 x2 r h)
theorem ref11_Exact_ok (x1 : ApiNode) (x2 : ApiNode) (r : Bool) (h : ref11_Exact x1 x2 = some r) : FnP Tryz.prog 9 [(rApiNode).val x1, (rApiNode).val x2] (Pr.bool r) := (rec_ref11_Exact_ok 1048576) x1 x2 r h
theorem law14_ShapeOnce_ok (x1 : ApiNode) (x2 : List (List UInt8)) (r : Bool) (h : law14_ShapeOnce x1 x2 = some r) : FnP Tryz.prog 6 [(rApiNode).val x1, Pr.lst Rp.str x2] (Pr.bool r) := by
  refine fn_intro (n := 64) (rs := [4]) Tryz.func6 rfl Tryz.ntmps6 ⟨by decide, Tryz.results6⟩ (by decide) (fun s0 => ?_)
  unfold law14_ShapeOnce at h
  refine W_rs ?_
  refine rBox (R := rApiNode) (a := x1) rfl (fun b3 => ?_)
  refine rq (out := Pr.bool false) qAssign ?_
  refine W_rs ?_
  obtain ⟨x4, hx4, h⟩ := bindSome h
  refine rq (out := Pr.bool x4) (qCall (law14_awake_ok  _ hx4)) ?_
  refine rq (out := Pr.bool x4) qAssign ?_
  refine W_seq ?_
  refine W_rs ?_
  refine rq (out := Pr.bool x4) qMove ?_
  refine rq (out := Pr.bool (!x4)) qNot ?_
  refine W_cond (b := !x4) rfl (fun hc5 => ?_) (fun hc5 => ?_)
  · replace h := iteT hc5 h
    refine W_rs ?_
    refine rq (out := Pr.bool false) qAssign ?_
    obtain rfl := Option.some.inj h
    exact W_ret ⟨rfl, Pr.le_rfl⟩
  · replace h := iteF hc5 h
    refine W_skip ?_
    refine W_rs ?_
    refine rq (out := (rApiNode).val x1) (qLoad (R := rApiNode) (a := x1) (R' := rApiNode) 0 ty24 (Sub.refl _)) ?_
    obtain ⟨x6, hx6, h⟩ := bindSome h
    refine rq (out := Pr.bool x6) (qCall (law14_few_ok x1 _ hx6)) ?_
    refine rq (out := Pr.bool x6) qAssign ?_
    refine W_seq ?_
    refine W_join (fun e C => ∃ (x8 : Bool), law14_ShapeOnce_j4 x2 x1 x8 = some r ∧ At [(1, Pr.lst Rp.str x2), (2, Pr.pt b3 0), (21, Pr.bool x8)] [Own.box b3 rApiNode x1] e C) ?_ ?_
    · rintro e C ⟨x8, h, hat4⟩
      refine W_at hat4 ?_
      clear hat4
      unfold law14_ShapeOnce_j4 at h
      refine W_cond (b := x8) rfl (fun hc9 => ?_) (fun hc9 => ?_)
      · replace h := iteT hc9 h
        refine W_rs ?_
        refine rq (out := Pr.bool true) qAssign ?_
        obtain rfl := Option.some.inj h
        exact W_ret ⟨rfl, Pr.le_rfl⟩
      · replace h := iteF hc9 h
        refine W_skip ?_
        refine W_rs ?_
        refine rq (out := Pr.is (.slice none 0 0)) qAssign ?_
        refine W_seq ?_
        refine W_rs ?_
        refine rq (out := Pr.lst Rp.str x2) qMove ?_
        refine rq (out := Pr.i64 (x2.length : Int)) (qLenL rfl Tryz.underlying25) ?_
        refine rq (out := Pr.i64 (w64 ((x2.length : Int) - 1))) qInt ?_
        refine rq (out := Pr.i64 (w64 ((x2.length : Int) - 1))) qAssign ?_
        refine W_block ?_
        obtain ⟨z3l, hz3, h⟩ := bindSome h
        obtain ⟨n3, hN3⟩ := iter_some hz3
        clear hz3
        refine W_after 0 (fun e C => ∃ (x12 : List (List UInt8)), ∃ (v10 : Value), law14_ShapeOnce_k2 x1 x2 x12 = some r ∧ At [(1, Pr.lst Rp.str x2), (2, Pr.pt b3 0), (7, Pr.is v10)] [Own.box b3 rApiNode x1, Own.vec v10 Rp.str x12 9] e C) ?_ ?_
        · rintro e C ⟨x12, v10, h, hat2⟩
          refine W_at hat2 ?_
          clear hat2
          unfold law14_ShapeOnce_k2 at h
          refine W_rs ?_
          refine rq (out := (rApiNode).val x1) (qLoad (R := rApiNode) (a := x1) (R' := rApiNode) 0 ty24 (Sub.refl _)) ?_
          refine rq (out := Pr.lst Rp.str x2) qMove ?_
          obtain ⟨x20, hx20, h⟩ := bindSome h
          refine rq (out := (rApiNode).val x20) (qCall (shape_Erase_ok x1 x2 _ hx20)) ?_
          refine rAlloc (R := rApiNode) (z := (ApiNode.mk 0 [] [] 0 0 0 0 0 [])) Tryz.zeroValue24 (fun _ => (by rw [rApiNode_eq]; exact ⟨_, ⟨_, _, rfl, rfl, ⟨_, _, rfl, rfl, ⟨_, _, rfl, rfl, ⟨_, _, rfl, rfl, ⟨_, _, rfl, rfl, ⟨_, _, rfl, rfl, ⟨_, _, rfl, rfl, ⟨_, _, rfl, rfl, ⟨_, _, rfl, ⟨_, rfl, none, 0, rfl, ⟨Nat.le_refl _, fun _ => rfl⟩, .inl rfl⟩, rfl⟩⟩⟩⟩⟩⟩⟩⟩⟩, rfl⟩)) (fun b21 => ?_)
          refine rStore (R := rApiNode) (R' := rApiNode) (a := (ApiNode.mk 0 [] [] 0 0 0 0 0 [])) (y := x20) 2 Tryz.sizeOf24 (Upd.refl _) ?_
          refine W_rel 1 [7] ?_ rfl ⟨rfl, trivial⟩
          refine W_join (fun e C => ∃ (x45 : Bool), law14_ShapeOnce_j1 x45 = some r ∧ At [(4, Pr.bool x45)] [Own.box b3 rApiNode x1, Own.box b21 rApiNode x20] e C) ?_ ?_
          · rintro e C ⟨x45, h, hat1⟩
            refine W_at hat1 ?_
            clear hat1
            unfold law14_ShapeOnce_j1 at h
            obtain rfl := Option.some.inj h
            exact W_ret ⟨rfl, Pr.le_rfl⟩
          · refine W_draw 26 hmx (by kernel_rfl) (by kernel_rfl) ?_
            refine qq (out := (rApiNode).val x20) (qLoad (R := rApiNode) (a := x20) (R' := rApiNode) 1 ty24 (Sub.refl _)) ?_
            refine qq (out := Pr.lst Rp.str x2) qMove ?_
            obtain ⟨x22, hx22, h⟩ := bindSome h
            refine qq (out := (rApiNode).val x22) (qCall (shape_Erase_ok x20 x2 _ hx22)) ?_
            refine qq (out := (rApiNode).val x20) (qLoad (R := rApiNode) (a := x20) (R' := rApiNode) 1 ty24 (Sub.refl _)) ?_
            obtain ⟨x23, hx23, h⟩ := bindSome h
            refine qq (out := Pr.bool x23) (qCall (ref11_Exact_ok x22 x20 _ hx23)) ?_
            refine qq (out := Pr.bool x23) qMove ?_
            rcases iteSome h with ⟨hc24, h⟩ | ⟨hc24, h⟩
            · refine qqg hc24 (out := (rApiNode).val x1) (qLoad (R := rApiNode) (a := x1) (R' := rApiNode) 0 ty24 (Sub.refl _)) ?_
              refine qqg hc24 (out := Pr.lst Rp.str x12) qMove ?_
              obtain ⟨x25, hx25, h⟩ := bindSome h
              refine qqg hc24 (out := (rApiNode).val x25) (qCall (shape_Erase_ok x1 x12 _ hx25)) ?_
              refine qqg hc24 (out := (rApiNode).val x20) (qLoad (R := rApiNode) (a := x20) (R' := rApiNode) 1 ty24 (Sub.refl _)) ?_
              obtain ⟨x26, hx26, h⟩ := bindSome h
              refine qqg hc24 (out := Pr.bool x26) (qCall (ref11_Exact_ok x25 x20 _ hx26)) ?_
              refine qq (out := Pr.bool x26) (qPickT hc24) ?_
              refine qq (out := Pr.bool x26) qMove ?_
              rcases iteSome h with ⟨hc27, h⟩ | ⟨hc27, h⟩
              · refine qqg hc27 (out := (rApiNode).val x1) (qLoad (R := rApiNode) (a := x1) (R' := rApiNode) 0 ty24 (Sub.refl _)) ?_
                obtain ⟨x28, hx28, h⟩ := bindSome h
                refine qqg hc27 (out := (rApiNode).val x28) (qCall' (shape_Erase_ok x1 [] _ hx28) ⟨Pr.le_rfl, Pr.lst_nil _, trivial⟩) ?_
                refine qqg hc27 (out := (rApiNode).val x1) (qLoad (R := rApiNode) (a := x1) (R' := rApiNode) 0 ty24 (Sub.refl _)) ?_
                obtain ⟨x29, hx29, h⟩ := bindSome h
                refine qqg hc27 (out := Pr.bool x29) (qCall (ref11_Exact_ok x28 x1 _ hx29)) ?_
                refine qq (out := Pr.bool x29) (qPickT hc27) ?_
                refine qq (out := Pr.bool x29) qMove ?_
                rcases iteSome h with ⟨hc30, h⟩ | ⟨hc30, h⟩
                · refine qqg hc30 (out := (rApiNode).val x20) (qLoad (R := rApiNode) (a := x20) (R' := rApiNode) 1 ty24 (Sub.refl _)) ?_
                  obtain ⟨x31, hx31, h⟩ := bindSome h
                  refine qqg hc30 (out := Pr.i64 x31) (qCall (ref11_Count_ok x20 _ hx31)) ?_
                  refine qqg hc30 (out := (rApiNode).val x1) (qLoad (R := rApiNode) (a := x1) (R' := rApiNode) 0 ty24 (Sub.refl _)) ?_
                  obtain ⟨x32, hx32, h⟩ := bindSome h
                  refine qqg hc30 (out := Pr.i64 x32) (qCall (ref11_Count_ok x1 _ hx32)) ?_
                  refine qqg hc30 (out := Pr.bool (x31 == x32)) qInt ?_
                  refine qq (out := Pr.bool (x31 == x32)) (qPickT hc30) ?_
                  refine qq (out := Pr.bool (x31 == x32)) qAssign ?_
                  exact ⟨x31 == x32, h, ⟨⟨Pr.le_rfl, trivial⟩, Pick.refl _⟩⟩
                · refine qqno (neT hc30) ?_
                  refine qqno (neT hc30) ?_
                  refine qqno (neT hc30) ?_
                  refine qqno (neT hc30) ?_
                  refine qqno (neT hc30) ?_
                  refine qq (out := Pr.bool false) (qPickF hc30) ?_
                  refine qq (out := Pr.bool false) qAssign ?_
                  exact ⟨false, h, ⟨⟨Pr.le_rfl, trivial⟩, Pick.refl _⟩⟩
              · refine qqno (neT hc27) ?_
                refine qqno (neT hc27) ?_
                refine qqno (neT hc27) ?_
                refine qqno (neT hc27) ?_
                refine qq (out := Pr.bool false) (qPickF hc27) ?_
                refine qq (out := Pr.bool false) qMove ?_
                have hc33 : false = false := rfl
                refine qqno (neT hc33) ?_
                refine qqno (neT hc33) ?_
                refine qqno (neT hc33) ?_
                refine qqno (neT hc33) ?_
                refine qqno (neT hc33) ?_
                refine qq (out := Pr.bool false) (qPickF hc33) ?_
                refine qq (out := Pr.bool false) qAssign ?_
                exact ⟨false, h, ⟨⟨Pr.le_rfl, trivial⟩, Pick.refl _⟩⟩
            · refine qqno (neT hc24) ?_
              refine qqno (neT hc24) ?_
              refine qqno (neT hc24) ?_
              refine qqno (neT hc24) ?_
              refine qqno (neT hc24) ?_
              refine qq (out := Pr.bool false) (qPickF hc24) ?_
              refine qq (out := Pr.bool false) qMove ?_
              have hc36 : false = false := rfl
              refine qqno (neT hc36) ?_
              refine qqno (neT hc36) ?_
              refine qqno (neT hc36) ?_
              refine qqno (neT hc36) ?_
              refine qq (out := Pr.bool false) (qPickF hc36) ?_
              refine qq (out := Pr.bool false) qMove ?_
              have hc42 : false = false := rfl
              refine qqno (neT hc42) ?_
              refine qqno (neT hc42) ?_
              refine qqno (neT hc42) ?_
              refine qqno (neT hc42) ?_
              refine qqno (neT hc42) ?_
              refine qq (out := Pr.bool false) (qPickF hc42) ?_
              refine qq (out := Pr.bool false) qAssign ?_
              exact ⟨false, h, ⟨⟨Pr.le_rfl, trivial⟩, Pick.refl _⟩⟩
        · refine W_nil [7] Rp.str 9 (fun v46 => ?_) ⟨rfl, trivial⟩
          refine W_loop (fun m e C => ∃ (x11 : Int), ∃ (x12 : List (List UInt8)), ∃ (v10 : Value), IterN (fun s => law14_ShapeOnce_l3 x2 s.1 s.2) m (x11, x12) = some z3l ∧ At [(1, Pr.lst Rp.str x2), (2, Pr.pt b3 0), (7, Pr.is v10), (8, Pr.i64 x11)] [Own.box b3 rApiNode x1, Own.vec v10 Rp.str x12 9] e C) n3 ⟨w64 ((x2.length : Int) - 1), [], v46, hN3, ⟨⟨Pr.le_rfl, Pr.le_rfl, Pr.le_rfl, Pr.le_rfl, trivial⟩, Pick.refl _⟩⟩ ?_
          clear hN3
          rintro m e C ⟨x11, x12, v10, hN3, hatl3⟩
          refine W_at hatl3 ?_
          clear hatl3
          obtain ⟨m3, w3l, rfl, h3l, hn3, ho3⟩ := iterN_some hN3
          clear hN3
          replace h3l : law14_ShapeOnce_l3 x2 x11 x12 = some w3l := h3l
          unfold law14_ShapeOnce_l3 at h3l
          refine W_seq ?_
          refine W_rs ?_
          refine rq (out := Pr.i64 x11) qMove ?_
          refine rq (out := Pr.bool (decide (x11 ≥ 0))) qInt ?_
          refine W_cond (b := decide (x11 ≥ 0)) rfl (fun hc16 => ?_) (fun hc16 => ?_)
          · replace h3l := iteT hc16 h3l
            refine W_skip ?_
            refine W_seq ?_
            refine W_block ?_
            refine W_r ?_
            refine rq (out := Pr.is v10) qMove ?_
            refine rq (out := Pr.lst Rp.str x2) qMove ?_
            refine rq (out := Pr.i64 x11) qMove ?_
            obtain ⟨x17, hx17, h3l⟩ := bindSome h3l
            refine rq (out := Pr.cpt Rp.str x17) (qIdxA (R := Rp.str) (l := x2) Tryz.underlying25 Tryz.sizeOf9 hx17) ?_
            refine rq (out := Pr.str x17) (qLoadC (R := Rp.str) (a := x17) ty9) ?_
            refine rq (out := Pr.lst Rp.str ([x17] : List (List UInt8))) (qBuildSlice1 (R := Rp.str) (a := x17) el25 (Nat.le_of_ble_eq_true rfl)) ?_
            obtain ⟨x18, hx18, h3l⟩ := bindSome h3l
            refine rAppend' 1 el25 hx18 (fun v19 => ?_)
            refine rq (out := Pr.is v19) qAssign ?_
            refine W_r ?_
            refine rq (out := Pr.i64 x11) qMove ?_
            refine rq (out := Pr.i64 (w64 (x11 - 1))) qInt ?_
            refine rq (out := Pr.i64 (w64 (x11 - 1))) qAssign ?_
            exact ⟨m3, Nat.lt_succ_self _, w64 (x11 - 1), x18, v19, hn3 _ (Option.some.inj h3l).symm, ⟨⟨Pr.le_rfl, Pr.le_rfl, Pr.le_rfl, Pr.le_rfl, trivial⟩, Pick.refl _⟩⟩
          · replace h3l := iteF hc16 h3l
            refine W_exit ?_
            obtain rfl := ho3 _ (Option.some.inj h3l).symm
            exact ⟨x12, v10, h, ⟨⟨Pr.le_rfl, Pr.le_rfl, Pr.le_rfl, trivial⟩, Pick.refl _⟩⟩
    · refine W_r ?_
      refine rq (out := Pr.bool x6) qMove ?_
      refine rq (out := Pr.bool (!x6)) qNot ?_
      refine rq (out := Pr.bool (!x6)) qMove ?_
      rcases iteSome h with ⟨hc7, h⟩ | ⟨hc7, h⟩
      · refine rno (neF hc7) ?_
        refine rno (neF hc7) ?_
        refine rno (neF hc7) ?_
        refine rq (out := Pr.bool true) (qPickT hc7) ?_
        exact ⟨true, h, ⟨⟨Pr.le_rfl, Pr.le_rfl, Pr.le_rfl, trivial⟩, Pick.refl _⟩⟩
      · refine rqg hc7 (out := Pr.lst Rp.str x2) qMove ?_
        refine rqg hc7 (out := Pr.i64 (x2.length : Int)) (qLenL rfl Tryz.underlying25) ?_
        refine rqg hc7 (out := Pr.bool (decide ((x2.length : Int) > 10))) qInt ?_
        refine rq (out := Pr.bool (decide ((x2.length : Int) > 10))) (qPickF hc7) ?_
        exact ⟨decide ((x2.length : Int) > 10), h, ⟨⟨Pr.le_rfl, Pr.le_rfl, Pr.le_rfl, trivial⟩, Pick.refl _⟩⟩
end Go.Proofs.YtgkcoicaopilhaaGreatDoor
