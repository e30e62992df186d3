/- The code comes to what these functions say (printed by wip/gen/gen.py). -/
import Derived.Test.YtphkaogfinjbjaaGreatDoorZP2
import Derived.Test.YtphkaogfinjbjaaGreatDoorZT
set_option linter.unusedSimpArgs false
set_option linter.unusedVariables false
set_option linter.unusedSectionVars false
/- The code comes to what these functions say (printed by wip/gen/gen.py). -/
set_option linter.unusedSectionVars false
set_option maxRecDepth 100000
set_option maxHeartbeats 4000000
namespace Go.Proofs.YtphkaogfinjbjaaGreatDoor
open Go Go.Cn
variable [Known]
theorem cells_three_ok (x1 : List (List UInt8)) (x2 : List (List UInt8)) (x3 : List (List UInt8)) (r : (List (List UInt8)) × Int) (h : cells_three x1 x2 x3 = some r) : FnP Tryz.prog 31 [(Rp.arr 2 Rp.str).val x1, (Rp.arr 2 Rp.str).val x2, (Rp.arr 2 Rp.str).val x3] (Pr.tup [(Rp.arr 2 Rp.str).val r.1, Pr.i64 r.2]) := by
  refine fn_introR (n := 48) (rs := [.cell 6 56, .tmp 7]) Tryz.func31 rfl Tryz.ntmps31 Tryz.results31 (by decide) (fun s0 => ?_)
  unfold cells_three at h
  refine W_rs ?_
  refine rBox (R := Rp.arr 2 Rp.str) (a := x1) rfl (fun b4 => ?_)
  refine rBox (R := Rp.arr 2 Rp.str) (a := x2) rfl (fun b5 => ?_)
  refine rBox (R := Rp.arr 2 Rp.str) (a := x3) rfl (fun b6 => ?_)
  refine rAlloc (R := Rp.arr 2 Rp.str) (z := (List.replicate 2 [])) Tryz.zeroValue56 (fun _ => ⟨_, ⟨rfl, ⟨_, _, rfl, rfl, ⟨_, _, rfl, rfl, rfl⟩⟩⟩, rfl⟩) (fun b7 => ?_)
  refine rq (out := Pr.i64 0) qAssign ?_
  refine W_seq ?_
  refine W_block ?_
  refine W_rs ?_
  refine rq (out := (Rp.arr 2 Rp.str).val x2) (qLoad (R := Rp.arr 2 Rp.str) (a := x2) (R' := Rp.arr 2 Rp.str) 1 ty56 (Sub.refl _)) ?_
  refine rq (out := (Rp.arr 2 Rp.str).val x3) (qLoad (R := Rp.arr 2 Rp.str) (a := x3) (R' := Rp.arr 2 Rp.str) 2 ty56 (Sub.refl _)) ?_
  refine rq (out := Pr.bool (decide (x2 = x3))) (qStEq (R := Rp.arr 2 Rp.str) (a := x2) (b := x3) eqA56 (by decide) rfl eqg56) ?_
  refine rq (out := Pr.bool (decide (x2 = x3))) qAssign ?_
  refine W_cond (b := decide (x2 = x3)) rfl (fun hc8 => ?_) (fun hc8 => ?_)
  · replace h := iteT hc8 h
    refine W_rs ?_
    refine rq (out := (Rp.arr 2 Rp.str).val x2) (qLoad (R := Rp.arr 2 Rp.str) (a := x2) (R' := Rp.arr 2 Rp.str) 1 ty56 (Sub.refl _)) ?_
    refine rStore (R := Rp.arr 2 Rp.str) (R' := Rp.arr 2 Rp.str) (a := (List.replicate 2 [])) (y := x2) 3 Tryz.sizeOf56 (Upd.refl _) ?_
    refine rq (out := Pr.i64 0) qAssign ?_
    obtain rfl := Option.some.inj h
    exact W_ret ⟨rfl, [(Rp.arr 2 Rp.str).val x2, Pr.i64 0], ⟨yBox 3 ty56 Pr.le_rfl, yT Pr.le_rfl, trivial⟩, Pr.le_rfl⟩
  · replace h := iteF hc8 h
    refine W_rs ?_
    refine rq (out := (Rp.arr 2 Rp.str).val x2) (qLoad (R := Rp.arr 2 Rp.str) (a := x2) (R' := Rp.arr 2 Rp.str) 1 ty56 (Sub.refl _)) ?_
    refine rq (out := (Rp.arr 2 Rp.str).val x1) (qLoad (R := Rp.arr 2 Rp.str) (a := x1) (R' := Rp.arr 2 Rp.str) 0 ty56 (Sub.refl _)) ?_
    refine rq (out := Pr.bool (decide (x2 = x1))) (qStEq (R := Rp.arr 2 Rp.str) (a := x2) (b := x1) eqA56 (by decide) rfl eqg56) ?_
    refine rq (out := Pr.bool (decide (x2 = x1))) qAssign ?_
    refine W_cond (b := decide (x2 = x1)) rfl (fun hc9 => ?_) (fun hc9 => ?_)
    · replace h := iteT hc9 h
      refine W_rs ?_
      refine rq (out := (Rp.arr 2 Rp.str).val x3) (qLoad (R := Rp.arr 2 Rp.str) (a := x3) (R' := Rp.arr 2 Rp.str) 2 ty56 (Sub.refl _)) ?_
      refine rStore (R := Rp.arr 2 Rp.str) (R' := Rp.arr 2 Rp.str) (a := (List.replicate 2 [])) (y := x3) 3 Tryz.sizeOf56 (Upd.refl _) ?_
      refine rq (out := Pr.i64 0) qAssign ?_
      obtain rfl := Option.some.inj h
      exact W_ret ⟨rfl, [(Rp.arr 2 Rp.str).val x3, Pr.i64 0], ⟨yBox 3 ty56 Pr.le_rfl, yT Pr.le_rfl, trivial⟩, Pr.le_rfl⟩
    · replace h := iteF hc9 h
      refine W_rs ?_
      refine rq (out := (Rp.arr 2 Rp.str).val x3) (qLoad (R := Rp.arr 2 Rp.str) (a := x3) (R' := Rp.arr 2 Rp.str) 2 ty56 (Sub.refl _)) ?_
      refine rq (out := (Rp.arr 2 Rp.str).val x1) (qLoad (R := Rp.arr 2 Rp.str) (a := x1) (R' := Rp.arr 2 Rp.str) 0 ty56 (Sub.refl _)) ?_
      refine rq (out := Pr.bool (decide (x3 = x1))) (qStEq (R := Rp.arr 2 Rp.str) (a := x3) (b := x1) eqA56 (by decide) rfl eqg56) ?_
      refine rq (out := Pr.bool (decide (x3 = x1))) qAssign ?_
      refine W_cond (b := decide (x3 = x1)) rfl (fun hc10 => ?_) (fun hc10 => ?_)
      · replace h := iteT hc10 h
        refine W_rs ?_
        refine rq (out := (Rp.arr 2 Rp.str).val x2) (qLoad (R := Rp.arr 2 Rp.str) (a := x2) (R' := Rp.arr 2 Rp.str) 1 ty56 (Sub.refl _)) ?_
        refine rStore (R := Rp.arr 2 Rp.str) (R' := Rp.arr 2 Rp.str) (a := (List.replicate 2 [])) (y := x2) 3 Tryz.sizeOf56 (Upd.refl _) ?_
        refine rq (out := Pr.i64 0) qAssign ?_
        obtain rfl := Option.some.inj h
        exact W_ret ⟨rfl, [(Rp.arr 2 Rp.str).val x2, Pr.i64 0], ⟨yBox 3 ty56 Pr.le_rfl, yT Pr.le_rfl, trivial⟩, Pr.le_rfl⟩
      · replace h := iteF hc10 h
        refine W_join (fun e C => ∃ (x14 : Bool), cells_three_j1 x1 x2 x3 x14 = some r ∧ At [(3, Pr.pt b4 0), (4, Pr.pt b5 0), (5, Pr.pt b6 0), (6, Pr.pt b7 0), (25, Pr.bool x14)] [Own.box b4 (Rp.arr 2 Rp.str) x1, Own.box b5 (Rp.arr 2 Rp.str) x2, Own.box b6 (Rp.arr 2 Rp.str) x3, Own.box b7 (Rp.arr 2 Rp.str) (List.replicate 2 [])] e C) ?_ ?_
        · rintro e C ⟨x14, h, hat1⟩
          refine W_at hat1 ?_
          clear hat1
          unfold cells_three_j1 at h
          refine W_cond (b := x14) rfl (fun hc15 => ?_) (fun hc15 => ?_)
          · replace h := iteT hc15 h
            refine W_rs ?_
            refine rq (out := (Rp.arr 2 Rp.str).val (List.replicate 2 [])) (qBuildZ (R := Rp.str) (z := (List.replicate 2 [])) Tryz.underlying56 Tryz.zeroValue56 (fun _ => ⟨_, ⟨rfl, ⟨_, _, rfl, rfl, ⟨_, _, rfl, rfl, rfl⟩⟩⟩, rfl⟩) Tryz.sizeOf9) ?_
            refine rStore (R := Rp.arr 2 Rp.str) (R' := Rp.arr 2 Rp.str) (a := (List.replicate 2 [])) (y := (List.replicate 2 [])) 3 Tryz.sizeOf56 (Upd.refl _) ?_
            refine rq (out := Pr.i64 3) qAssign ?_
            obtain rfl := Option.some.inj h
            exact W_ret ⟨rfl, [(Rp.arr 2 Rp.str).val (List.replicate 2 []), Pr.i64 3], ⟨yBox 3 ty56 Pr.le_rfl, yT Pr.le_rfl, trivial⟩, Pr.le_rfl⟩
          · replace h := iteF hc15 h
            refine W_skip ?_
            refine W_rs ?_
            obtain ⟨x16, hx16, h⟩ := bindSome h
            refine rq (out := Pr.pt b4 (x16 * 1)) (qIdxP Tryz.underlying56 Tryz.sizeOf9 hx16) ?_
            refine rq (out := Pr.str (List.getD x1 x16 [])) (qLoad (R := Rp.arr 2 Rp.str) (a := x1) (R' := Rp.str) 0 ty9 (Sub.arr [] (arrIx_lt hx16))) ?_
            obtain ⟨x17, hx17, h⟩ := bindSome h
            refine rq (out := Pr.pt b5 (x17 * 1)) (qIdxP Tryz.underlying56 Tryz.sizeOf9 hx17) ?_
            refine rq (out := Pr.str (List.getD x2 x17 [])) (qLoad (R := Rp.arr 2 Rp.str) (a := x2) (R' := Rp.str) 1 ty9 (Sub.arr [] (arrIx_lt hx17))) ?_
            obtain ⟨x18, hx18, h⟩ := bindSome h
            refine rq (out := Pr.pt b6 (x18 * 1)) (qIdxP Tryz.underlying56 Tryz.sizeOf9 hx18) ?_
            refine rq (out := Pr.str (List.getD x3 x18 [])) (qLoad (R := Rp.arr 2 Rp.str) (a := x3) (R' := Rp.str) 2 ty9 (Sub.arr [] (arrIx_lt hx18))) ?_
            obtain ⟨⟨x19, x20⟩, hx19, h⟩ := bindSome h
            refine rq (out := Pr.tup [Pr.str x19, Pr.bool x20]) (qCall (weave_Text_ok (List.getD x1 x16 []) (List.getD x2 x17 []) (List.getD x3 x18 []) _ hx19)) ?_
            refine rq (out := Pr.tup [Pr.str x19, Pr.bool x20]) qMove ?_
            refine rq (out := Pr.str x19) qExtract ?_
            refine rq (out := Pr.bool x20) qExtract ?_
            refine rq (out := Pr.str x19) qAssign ?_
            refine rq (out := Pr.bool x20) qAssign ?_
            refine W_seq ?_
            refine W_rs ?_
            refine rq (out := Pr.bool x20) qMove ?_
            refine rq (out := Pr.bool (!x20)) qNot ?_
            refine W_cond (b := !x20) rfl (fun hc21 => ?_) (fun hc21 => ?_)
            · replace h := iteT hc21 h
              refine W_rs ?_
              refine rq (out := (Rp.arr 2 Rp.str).val (List.replicate 2 [])) (qBuildZ (R := Rp.str) (z := (List.replicate 2 [])) Tryz.underlying56 Tryz.zeroValue56 (fun _ => ⟨_, ⟨rfl, ⟨_, _, rfl, rfl, ⟨_, _, rfl, rfl, rfl⟩⟩⟩, rfl⟩) Tryz.sizeOf9) ?_
              refine rStore (R := Rp.arr 2 Rp.str) (R' := Rp.arr 2 Rp.str) (a := (List.replicate 2 [])) (y := (List.replicate 2 [])) 3 Tryz.sizeOf56 (Upd.refl _) ?_
              refine rq (out := Pr.i64 1) qAssign ?_
              obtain rfl := Option.some.inj h
              exact W_ret ⟨rfl, [(Rp.arr 2 Rp.str).val (List.replicate 2 []), Pr.i64 1], ⟨yBox 3 ty56 Pr.le_rfl, yT Pr.le_rfl, trivial⟩, Pr.le_rfl⟩
            · replace h := iteF hc21 h
              refine W_skip ?_
              refine W_rs ?_
              refine rq (out := Pr.str x19) qMove ?_
              obtain ⟨x22, hx22, h⟩ := bindSome h
              refine rq (out := (Rp.arr 2 Rp.str).val x22) (qCall (cells_of_ok x19 true _ hx22)) ?_
              refine rStore (R := Rp.arr 2 Rp.str) (R' := Rp.arr 2 Rp.str) (a := (List.replicate 2 [])) (y := x22) 3 Tryz.sizeOf56 (Upd.refl _) ?_
              refine rq (out := Pr.i64 0) qAssign ?_
              obtain rfl := Option.some.inj h
              exact W_ret ⟨rfl, [(Rp.arr 2 Rp.str).val x22, Pr.i64 0], ⟨yBox 3 ty56 Pr.le_rfl, yT Pr.le_rfl, trivial⟩, Pr.le_rfl⟩
        · refine W_rs ?_
          refine rq (out := (Rp.arr 2 Rp.str).val x2) (qLoad (R := Rp.arr 2 Rp.str) (a := x2) (R' := Rp.arr 2 Rp.str) 1 ty56 (Sub.refl _)) ?_
          obtain ⟨x11, hx11, h⟩ := bindSome h
          refine rq (out := Pr.bool x11) (qCall (cells_cell_there_ok x2 _ hx11)) ?_
          refine rq (out := Pr.bool (!x11)) qNot ?_
          refine rq (out := Pr.bool (!x11)) qAssign ?_
          refine W_cond (b := !x11) rfl (fun hc12 => ?_) (fun hc12 => ?_)
          · replace h := iteT hc12 h
            refine W_skip ?_
            exact ⟨!x11, h, ⟨⟨Pr.le_rfl, Pr.le_rfl, Pr.le_rfl, Pr.le_rfl, Pr.le_rfl, trivial⟩, Pick.refl _⟩⟩
          · replace h := iteF hc12 h
            refine W_r ?_
            refine rq (out := (Rp.arr 2 Rp.str).val x3) (qLoad (R := Rp.arr 2 Rp.str) (a := x3) (R' := Rp.arr 2 Rp.str) 2 ty56 (Sub.refl _)) ?_
            obtain ⟨x13, hx13, h⟩ := bindSome h
            refine rq (out := Pr.bool x13) (qCall (cells_cell_there_ok x3 _ hx13)) ?_
            refine rq (out := Pr.bool (!x13)) qNot ?_
            refine rq (out := Pr.bool (!x13)) qAssign ?_
            exact ⟨!x13, h, ⟨⟨Pr.le_rfl, Pr.le_rfl, Pr.le_rfl, Pr.le_rfl, Pr.le_rfl, trivial⟩, Pick.refl _⟩⟩
theorem cells_Texts_ok (x1 : List ApiSegment) (x2 : List ApiSegment) (x3 : List ApiSegment) (r : (List ApiSegment) × (List ApiConflict)) (h : cells_Texts x1 x2 x3 = some r) : FnC Tryz.prog 12 [Pr.lst rApiSegment x1, Pr.lst rApiSegment x2, Pr.lst rApiSegment x3] [] (fun q C' => ∃ u0, q = Pr.tup [Pr.lst rApiSegment r.1, Pr.is u0] ∧ C' = [Own.vec u0 rApiConflict r.2 46]) := by
  refine fnc_introP (n := 66) (rs := [6, 7]) Tryz.func12 rfl Tryz.ntmps12 ⟨by decide, Tryz.results12⟩ (by decide) (fun s0 => ?_)
  unfold cells_Texts at h
  refine W_rs ?_
  refine rq (out := Pr.is (.slice none 0 0)) qAssign ?_
  refine rq (out := Pr.is (.slice none 0 0)) qAssign ?_
  refine W_rs ?_
  refine rq (out := Pr.lst rApiSegment x1) qMove ?_
  obtain ⟨x4, hx4, h⟩ := bindSome h
  refine rq (out := Pr.mapS (Rp.arr 2 Rp.str) x4) (qCall (cells_table_ok x1 _ hx4)) ?_
  refine rq (out := Pr.lst rApiSegment x2) qMove ?_
  obtain ⟨x5, hx5, h⟩ := bindSome h
  refine rq (out := Pr.mapS (Rp.arr 2 Rp.str) x5) (qCall (cells_table_ok x2 _ hx5)) ?_
  refine rq (out := Pr.lst rApiSegment x3) qMove ?_
  obtain ⟨x6, hx6, h⟩ := bindSome h
  refine rq (out := Pr.mapS (Rp.arr 2 Rp.str) x6) (qCall (cells_table_ok x3 _ hx6)) ?_
  refine rq (out := Pr.mapS (Rp.arr 2 Rp.str) x4) qAssign ?_
  refine rq (out := Pr.mapS (Rp.arr 2 Rp.str) x5) qAssign ?_
  refine rq (out := Pr.mapS (Rp.arr 2 Rp.str) x6) qAssign ?_
  refine W_rs ?_
  refine rq (out := Pr.is (.slice none 0 0)) qAssign ?_
  refine W_rs ?_
  refine rq (out := Pr.is (.slice none 0 0)) qAssign ?_
  refine W_seq ?_
  refine W_rs ?_
  refine rq (out := Pr.lst rApiSegment x2) qMove ?_
  refine rq (out := Pr.lst rApiSegment x1) qMove ?_
  refine rq (out := Pr.lst rApiSegment x3) qMove ?_
  refine rq (out := Pr.lst (Rp.list rApiSegment) ([x2, x1, x3] : List (List ApiSegment))) (qBuildSlice (R := Rp.list rApiSegment) (ls := ([x2, x1, x3] : List (List ApiSegment))) el73 (Nat.le_of_ble_eq_true rfl) ⟨rfl, rfl⟩ ⟨rfl, rfl, rfl, trivial⟩) ?_
  obtain ⟨x7, hx7, h⟩ := bindSome h
  refine rq (out := Pr.lst Rp.str x7) (qCall (cells_keys_ok ([x2, x1, x3] : List (List ApiSegment)) _ hx7)) ?_
  refine rq (out := Pr.i64 (x7.length : Int)) (qLenL rfl Tryz.underlying33) ?_
  refine rq (out := Pr.i64 0) qMove ?_
  refine W_block ?_
  obtain ⟨z2l, hz2, h⟩ := bindSome h
  obtain ⟨n2, hN2⟩ := iter_some hz2
  clear hz2
  refine W_after 0 (fun e C => ∃ (x11 : List ApiSegment), ∃ (x12 : List ApiConflict), ∃ (v8 : Value), ∃ (v9 : Value), cells_Texts_k1 x11 x12 = some r ∧ At [(11, Pr.is v8), (12, Pr.is v9)] [Own.vec v8 rApiSegment x11 38, Own.vec v9 rApiConflict x12 46] e C) ?_ ?_
  · rintro e C ⟨x11, x12, v8, v9, h, hat1⟩
    refine W_at hat1 ?_
    clear hat1
    unfold cells_Texts_k1 at h
    refine W_rs ?_
    refine rq (out := Pr.is v8) qMove ?_
    refine rq (out := Pr.is v9) qMove ?_
    refine rq (out := Pr.is v8) qAssign ?_
    refine rq (out := Pr.is v9) qAssign ?_
    refine W_rel 0 [6] ?_ rfl ⟨rfl, trivial⟩
    obtain rfl := Option.some.inj h
    exact W_ret ⟨.inl rfl, _, Pick.refl _, _, (Pr.le_rfl), v9, rfl, rfl⟩
  · refine W_nil [11] rApiSegment 38 (fun v35 => ?_) ⟨rfl, trivial⟩
    refine W_nil [12] rApiConflict 46 (fun v36 => ?_) ⟨rfl, trivial⟩
    refine W_loop (fun m e C => ∃ (x10 : Int), ∃ (x11 : List ApiSegment), ∃ (x12 : List ApiConflict), ∃ (v8 : Value), ∃ (v9 : Value), IterN (fun s => cells_Texts_l2 x7 x4 x5 x6 s.1 s.2.1 s.2.2) m (x10, x11, x12) = some z2l ∧ At [(8, Pr.mapS (Rp.arr 2 Rp.str) x4), (9, Pr.mapS (Rp.arr 2 Rp.str) x5), (10, Pr.mapS (Rp.arr 2 Rp.str) x6), (11, Pr.is v8), (12, Pr.is v9), (27, Pr.lst Rp.str x7), (28, Pr.i64 (x7.length : Int)), (29, Pr.i64 x10)] [Own.vec v8 rApiSegment x11 38, Own.vec v9 rApiConflict x12 46] e C) n2 ⟨0, [], [], v35, v36, hN2, ⟨⟨Pr.le_rfl, Pr.le_rfl, Pr.le_rfl, Pr.le_rfl, Pr.le_rfl, Pr.le_rfl, Pr.le_rfl, Pr.le_rfl, trivial⟩, Pick.refl _⟩⟩ ?_
    clear hN2
    rintro m e C ⟨x10, x11, x12, v8, v9, hN2, hatl2⟩
    refine W_at hatl2 ?_
    clear hatl2
    obtain ⟨m2, w2l, rfl, h2l, hn2, ho2⟩ := iterN_some hN2
    clear hN2
    replace h2l : cells_Texts_l2 x7 x4 x5 x6 x10 x11 x12 = some w2l := h2l
    unfold cells_Texts_l2 at h2l
    refine W_rs ?_
    refine rq (out := Pr.bool (decide (x10 < (x7.length : Int)))) qInt ?_
    refine W_seq ?_
    refine W_cond (b := decide (x10 < (x7.length : Int))) rfl (fun hc18 => ?_) (fun hc18 => ?_)
    · replace h2l := iteT hc18 h2l
      refine W_skip ?_
      refine W_join (fun e C => ∃ (x34 : List ApiSegment), ∃ (x27 : List ApiConflict), ∃ (x20 : List (List UInt8)), ∃ (v33 : Value), ∃ (v26 : Value), ∃ (b22 : Nat), cells_Texts_j3 x10 x34 x27 x20 = some w2l ∧ At [(8, Pr.mapS (Rp.arr 2 Rp.str) x4), (9, Pr.mapS (Rp.arr 2 Rp.str) x5), (10, Pr.mapS (Rp.arr 2 Rp.str) x6), (11, Pr.is v33), (12, Pr.is v26), (27, Pr.lst Rp.str x7), (28, Pr.i64 (x7.length : Int)), (29, Pr.i64 x10)] [Own.vec v33 rApiSegment x34 38, Own.vec v26 rApiConflict x27 46, Own.box b22 (Rp.arr 2 Rp.str) x20] e C) ?_ ?_
      · rintro e C ⟨x34, x27, x20, v33, v26, b22, h2l, hat3⟩
        refine W_at hat3 ?_
        clear hat3
        unfold cells_Texts_j3 at h2l
        refine W_r ?_
        refine rq (out := Pr.i64 (w64 (x10 + 1))) qInt ?_
        refine rq (out := Pr.i64 (w64 (x10 + 1))) qMove ?_
        exact ⟨m2, Nat.lt_succ_self _, w64 (x10 + 1), x34, x27, v33, v26, hn2 _ (Option.some.inj h2l).symm, ⟨⟨Pr.le_rfl, Pr.le_rfl, Pr.le_rfl, Pr.le_rfl, Pr.le_rfl, Pr.le_rfl, Pr.le_rfl, Pr.le_rfl, trivial⟩, Pick.of [0, 1] rfl⟩⟩
      · refine W_block ?_
        refine W_rs ?_
        obtain ⟨x19, hx19, h2l⟩ := bindSome h2l
        refine rq (out := Pr.cpt Rp.str x19) (qIdxA (R := Rp.str) (l := x7) Tryz.underlying33 Tryz.sizeOf9 hx19) ?_
        refine rq (out := Pr.str x19) (qLoadC (R := Rp.str) (a := x19) ty9) ?_
        refine rq (out := Pr.str x19) qAssign ?_
        refine W_rs ?_
        refine rq (out := Pr.mapS (Rp.arr 2 Rp.str) x4) qMove ?_
        refine rq (out := Pr.str x19) qMove ?_
        refine rq (out := (Rp.arr 2 Rp.str).val (mget x19 (List.replicate 2 []) x4)) (qMapGetS (R := Rp.arr 2 Rp.str) (m := x4) (kx := x19) (z := (List.replicate 2 [])) Tryz.underlying51 Tryz.underlying9 Tryz.zeroValue56 (fun _ => ⟨_, ⟨rfl, ⟨_, _, rfl, rfl, ⟨_, _, rfl, rfl, rfl⟩⟩⟩, rfl⟩)) ?_
        refine rq (out := Pr.mapS (Rp.arr 2 Rp.str) x5) qMove ?_
        refine rq (out := Pr.str x19) qMove ?_
        refine rq (out := (Rp.arr 2 Rp.str).val (mget x19 (List.replicate 2 []) x5)) (qMapGetS (R := Rp.arr 2 Rp.str) (m := x5) (kx := x19) (z := (List.replicate 2 [])) Tryz.underlying51 Tryz.underlying9 Tryz.zeroValue56 (fun _ => ⟨_, ⟨rfl, ⟨_, _, rfl, rfl, ⟨_, _, rfl, rfl, rfl⟩⟩⟩, rfl⟩)) ?_
        refine rq (out := Pr.mapS (Rp.arr 2 Rp.str) x6) qMove ?_
        refine rq (out := Pr.str x19) qMove ?_
        refine rq (out := (Rp.arr 2 Rp.str).val (mget x19 (List.replicate 2 []) x6)) (qMapGetS (R := Rp.arr 2 Rp.str) (m := x6) (kx := x19) (z := (List.replicate 2 [])) Tryz.underlying51 Tryz.underlying9 Tryz.zeroValue56 (fun _ => ⟨_, ⟨rfl, ⟨_, _, rfl, rfl, ⟨_, _, rfl, rfl, rfl⟩⟩⟩, rfl⟩)) ?_
        obtain ⟨⟨x20, x21⟩, hx20, h2l⟩ := bindSome h2l
        refine rq (out := Pr.tup [(Rp.arr 2 Rp.str).val x20, Pr.i64 x21]) (qCall (cells_three_ok (mget x19 (List.replicate 2 []) x4) (mget x19 (List.replicate 2 []) x5) (mget x19 (List.replicate 2 []) x6) _ hx20)) ?_
        refine rq (out := Pr.tup [(Rp.arr 2 Rp.str).val x20, Pr.i64 x21]) qMove ?_
        refine rq (out := (Rp.arr 2 Rp.str).val x20) qExtract ?_
        refine rq (out := Pr.i64 x21) qExtract ?_
        refine rAlloc (R := Rp.arr 2 Rp.str) (z := (List.replicate 2 [])) Tryz.zeroValue56 (fun _ => ⟨_, ⟨rfl, ⟨_, _, rfl, rfl, ⟨_, _, rfl, rfl, rfl⟩⟩⟩, rfl⟩) (fun b22 => ?_)
        refine rStore (R := Rp.arr 2 Rp.str) (R' := Rp.arr 2 Rp.str) (a := (List.replicate 2 [])) (y := x20) 2 Tryz.sizeOf56 (Upd.refl _) ?_
        refine rq (out := Pr.i64 x21) qAssign ?_
        refine W_join (fun e C => ∃ (x27 : List ApiConflict), ∃ (v26 : Value), cells_Texts_j4 x20 x11 x19 x10 x27 = some w2l ∧ At [(8, Pr.mapS (Rp.arr 2 Rp.str) x4), (9, Pr.mapS (Rp.arr 2 Rp.str) x5), (10, Pr.mapS (Rp.arr 2 Rp.str) x6), (11, Pr.is v8), (12, Pr.is v26), (14, Pr.str x19), (15, Pr.pt b22 0), (27, Pr.lst Rp.str x7), (28, Pr.i64 (x7.length : Int)), (29, Pr.i64 x10)] [Own.vec v8 rApiSegment x11 38, Own.vec v26 rApiConflict x27 46, Own.box b22 (Rp.arr 2 Rp.str) x20] e C) ?_ ?_
        · rintro e C ⟨x27, v26, h2l, hat4⟩
          refine W_at hat4 ?_
          clear hat4
          unfold cells_Texts_j4 at h2l
          refine W_rs ?_
          refine rq (out := (Rp.arr 2 Rp.str).val x20) (qLoad (R := Rp.arr 2 Rp.str) (a := x20) (R' := Rp.arr 2 Rp.str) 2 ty56 (Sub.refl _)) ?_
          obtain ⟨x28, hx28, h2l⟩ := bindSome h2l
          refine rq (out := Pr.bool x28) (qCall (cells_cell_there_ok x20 _ hx28)) ?_
          refine W_cond (b := x28) rfl (fun hc29 => ?_) (fun hc29 => ?_)
          · replace h2l := iteT hc29 h2l
            refine W_r ?_
            refine rq (out := Pr.is v8) qMove ?_
            refine rq (out := Pr.str x19) qMove ?_
            obtain ⟨x30, hx30, h2l⟩ := bindSome h2l
            refine rq (out := Pr.pt b22 (x30 * 1)) (qIdxP Tryz.underlying56 Tryz.sizeOf9 hx30) ?_
            refine rq (out := Pr.str (List.getD x20 x30 [])) (qLoad (R := Rp.arr 2 Rp.str) (a := x20) (R' := Rp.str) 2 ty9 (Sub.arr [] (arrIx_lt hx30))) ?_
            refine rq (out := (rApiSegment).val (ApiSegment.mk x19 (List.getD x20 x30 []))) (qBuild st38 ⟨(ApiSegment.mk x19 []), ⟨_, rfl, rfl, fun j fd hj hf => by match j, hj with | 0, h => exact absurd rfl h | 1, _ => cases hf; rfl | _ + 2, _ => cases hf⟩, ⟨(ApiSegment.mk x19 (List.getD x20 x30 [])), ⟨_, rfl, rfl, fun j fd hj hf => by match j, hj with | 0, _ => cases hf; rfl | 1, h => exact absurd rfl h | _ + 2, _ => cases hf⟩, rfl⟩⟩) ?_
            refine rq (out := Pr.lst rApiSegment ([(ApiSegment.mk x19 (List.getD x20 x30 []))] : List ApiSegment)) (qBuildSlice1 (R := rApiSegment) (a := (ApiSegment.mk x19 (List.getD x20 x30 []))) el22 (Nat.le_of_ble_eq_true rfl)) ?_
            obtain ⟨x31, hx31, h2l⟩ := bindSome h2l
            refine rAppend' 0 el22 hx31 (fun v32 => ?_)
            refine rq (out := Pr.is v32) qAssign ?_
            exact ⟨x31, x27, x20, v32, v26, b22, h2l, ⟨⟨Pr.le_rfl, Pr.le_rfl, Pr.le_rfl, Pr.le_rfl, Pr.le_rfl, Pr.le_rfl, Pr.le_rfl, Pr.le_rfl, trivial⟩, Pick.refl _⟩⟩
          · replace h2l := iteF hc29 h2l
            refine W_skip ?_
            exact ⟨x11, x27, x20, v8, v26, b22, h2l, ⟨⟨Pr.le_rfl, Pr.le_rfl, Pr.le_rfl, Pr.le_rfl, Pr.le_rfl, Pr.le_rfl, Pr.le_rfl, Pr.le_rfl, trivial⟩, Pick.refl _⟩⟩
        · refine W_rs ?_
          refine rq (out := Pr.i64 x21) qMove ?_
          refine rq (out := Pr.bool (x21 != 0)) qInt ?_
          refine W_cond (b := x21 != 0) rfl (fun hc23 => ?_) (fun hc23 => ?_)
          · replace h2l := iteT hc23 h2l
            refine W_r ?_
            refine rq (out := Pr.is v9) qMove ?_
            refine rq (out := Pr.i64 x21) qMove ?_
            refine rq (out := Pr.str x19) qMove ?_
            refine rq (out := (rApiConflict).val (ApiConflict.mk x21 x19)) (qBuild st46 ⟨(ApiConflict.mk x21 []), ⟨_, rfl, rfl, fun j fd hj hf => by match j, hj with | 0, h => exact absurd rfl h | 1, _ => cases hf; rfl | _ + 2, _ => cases hf⟩, ⟨(ApiConflict.mk x21 x19), ⟨_, rfl, rfl, fun j fd hj hf => by match j, hj with | 0, _ => cases hf; rfl | 1, h => exact absurd rfl h | _ + 2, _ => cases hf⟩, rfl⟩⟩) ?_
            refine rq (out := Pr.lst rApiConflict ([(ApiConflict.mk x21 x19)] : List ApiConflict)) (qBuildSlice1 (R := rApiConflict) (a := (ApiConflict.mk x21 x19)) el25 (Nat.le_of_ble_eq_true rfl)) ?_
            obtain ⟨x24, hx24, h2l⟩ := bindSome h2l
            refine rAppend' 1 el25 hx24 (fun v25 => ?_)
            refine rq (out := Pr.is v25) qAssign ?_
            exact ⟨x24, v25, h2l, ⟨⟨Pr.le_rfl, Pr.le_rfl, Pr.le_rfl, Pr.le_rfl, Pr.le_rfl, Pr.le_rfl, Pr.le_rfl, Pr.le_rfl, Pr.le_rfl, Pr.le_rfl, trivial⟩, Pick.refl _⟩⟩
          · replace h2l := iteF hc23 h2l
            refine W_skip ?_
            exact ⟨x12, v9, h2l, ⟨⟨Pr.le_rfl, Pr.le_rfl, Pr.le_rfl, Pr.le_rfl, Pr.le_rfl, Pr.le_rfl, Pr.le_rfl, Pr.le_rfl, Pr.le_rfl, Pr.le_rfl, trivial⟩, Pick.refl _⟩⟩
    · replace h2l := iteF hc18 h2l
      refine W_exit ?_
      obtain rfl := ho2 _ (Option.some.inj h2l).symm
      exact ⟨x11, x12, v8, v9, h, ⟨⟨Pr.le_rfl, Pr.le_rfl, trivial⟩, Pick.refl _⟩⟩
theorem cells_woven_ok (x1 : List (List UInt8)) (x2 : List (List UInt8)) (x3 : List (List UInt8)) (r : (List (List UInt8)) × Bool) (h : cells_woven x1 x2 x3 = some r) : FnP Tryz.prog 41 [Pr.lst Rp.str x1, Pr.lst Rp.str x2, Pr.lst Rp.str x3] (Pr.tup [Pr.lst Rp.str r.1, Pr.bool r.2]) := by
  refine fn_intro (n := 68) (rs := [6, 7]) Tryz.func41 rfl Tryz.ntmps41 ⟨by decide, Tryz.results41⟩ (by decide) (fun s0 => ?_)
  unfold cells_woven at h
  refine W_rs ?_
  refine rq (out := Pr.is (.slice none 0 0)) qAssign ?_
  refine rq (out := Pr.bool false) qAssign ?_
  refine W_rs ?_
  refine rq (out := Pr.is (.slice none 0 0)) qAssign ?_
  refine W_seq ?_
  refine W_rs ?_
  refine rq (out := Pr.lst Rp.str x1) qMove ?_
  refine rq (out := Pr.lst Rp.str x2) qMove ?_
  refine rq (out := Pr.lst Rp.str x3) qMove ?_
  obtain ⟨x4, hx4, h⟩ := bindSome h
  refine rq (out := Pr.lst rApiChunk x4) (qCall (diff3_Parts_ok x1 x2 x3 _ hx4)) ?_
  refine rq (out := Pr.i64 (x4.length : Int)) (qLenL rfl Tryz.underlying66) ?_
  refine rq (out := Pr.i64 0) qMove ?_
  refine W_block ?_
  obtain ⟨z2l, hz2, h⟩ := bindSome h
  obtain ⟨n2, hN2⟩ := iter_some hz2
  clear hz2
  refine W_after 0 (fun e C => ∃ (x7 : List (List UInt8)), ∃ (v5 : Value), cells_woven_k1 x7 = some r ∧ At [(8, Pr.is v5)] [Own.vec v5 Rp.str x7 9] e C) ?_ ?_
  · rintro e C ⟨x7, v5, h, hat1⟩
    refine W_at hat1 ?_
    clear hat1
    unfold cells_woven_k1 at h
    refine W_rs ?_
    refine rq (out := Pr.is v5) qMove ?_
    refine rq (out := Pr.is v5) qAssign ?_
    refine rq (out := Pr.bool true) qAssign ?_
    refine W_rel 0 [6] ?_ rfl ⟨rfl, trivial⟩
    obtain rfl := Option.some.inj h
    exact W_ret ⟨rfl, Pr.le_rfl⟩
  · refine W_nil [8] Rp.str 9 (fun v33 => ?_) ⟨rfl, trivial⟩
    refine W_loop (fun m e C => ∃ (x6 : Int), ∃ (x7 : List (List UInt8)), ∃ (v5 : Value), IterN (fun s => cells_woven_l2 x4 x2 x3 s.1 s.2) m (x6, x7) = some z2l ∧ At [(1, Pr.lst Rp.str x2), (2, Pr.lst Rp.str x3), (8, Pr.is v5), (16, Pr.lst rApiChunk x4), (17, Pr.i64 (x4.length : Int)), (18, Pr.i64 x6)] [Own.vec v5 Rp.str x7 9] e C) n2 ⟨0, [], v33, hN2, ⟨⟨Pr.le_rfl, Pr.le_rfl, Pr.le_rfl, Pr.le_rfl, Pr.le_rfl, Pr.le_rfl, trivial⟩, Pick.refl _⟩⟩ ?_
    clear hN2
    rintro m e C ⟨x6, x7, v5, hN2, hatl2⟩
    refine W_at hatl2 ?_
    clear hatl2
    obtain ⟨m2, w2l, rfl, h2l, hn2, ho2⟩ := iterN_some hN2
    clear hN2
    replace h2l : cells_woven_l2 x4 x2 x3 x6 x7 = some w2l := h2l
    unfold cells_woven_l2 at h2l
    refine W_rs ?_
    refine rq (out := Pr.bool (decide (x6 < (x4.length : Int)))) qInt ?_
    refine W_seq ?_
    refine W_cond (b := decide (x6 < (x4.length : Int))) rfl (fun hc11 => ?_) (fun hc11 => ?_)
    · replace h2l := iteT hc11 h2l
      refine W_skip ?_
      refine W_join (fun e C => ∃ (x32 : List (List UInt8)), ∃ (x12 : ApiChunk), ∃ (v31 : Value), ∃ (b13 : Nat), cells_woven_j3 x6 x32 x12 = some w2l ∧ At [(1, Pr.lst Rp.str x2), (2, Pr.lst Rp.str x3), (8, Pr.is v31), (16, Pr.lst rApiChunk x4), (17, Pr.i64 (x4.length : Int)), (18, Pr.i64 x6)] [Own.vec v31 Rp.str x32 9, Own.box b13 rApiChunk x12] e C) ?_ ?_
      · rintro e C ⟨x32, x12, v31, b13, h2l, hat3⟩
        refine W_at hat3 ?_
        clear hat3
        unfold cells_woven_j3 at h2l
        refine W_r ?_
        refine rq (out := Pr.i64 (w64 (x6 + 1))) qInt ?_
        refine rq (out := Pr.i64 (w64 (x6 + 1))) qMove ?_
        exact ⟨m2, Nat.lt_succ_self _, w64 (x6 + 1), x32, v31, hn2 _ (Option.some.inj h2l).symm, ⟨⟨Pr.le_rfl, Pr.le_rfl, Pr.le_rfl, Pr.le_rfl, Pr.le_rfl, Pr.le_rfl, trivial⟩, Pick.of [0] rfl⟩⟩
      · refine W_block ?_
        refine W_rs ?_
        obtain ⟨x12, hx12, h2l⟩ := bindSome h2l
        refine rq (out := Pr.cpt rApiChunk x12) (qIdxA (R := rApiChunk) (l := x4) Tryz.underlying66 Tryz.sizeOf71 hx12) ?_
        refine rq (out := (rApiChunk).val x12) (qLoadC (R := rApiChunk) (a := x12) ty71) ?_
        refine rAlloc (R := rApiChunk) (z := (ApiChunk.mk 0 (ApiSpan.mk 0 0) (ApiSpan.mk 0 0) (ApiSpan.mk 0 0))) Tryz.zeroValue71 (fun _ => ⟨_, ⟨_, _, rfl, rfl, ⟨_, _, rfl, ⟨_, _, rfl, rfl, ⟨_, _, rfl, rfl, rfl⟩⟩, ⟨_, _, rfl, ⟨_, _, rfl, rfl, ⟨_, _, rfl, rfl, rfl⟩⟩, ⟨_, _, rfl, ⟨_, _, rfl, rfl, ⟨_, _, rfl, rfl, rfl⟩⟩, rfl⟩⟩⟩⟩, rfl⟩) (fun b13 => ?_)
        refine rStore (R := rApiChunk) (R' := rApiChunk) (a := (ApiChunk.mk 0 (ApiSpan.mk 0 0) (ApiSpan.mk 0 0) (ApiSpan.mk 0 0))) (y := x12) 1 Tryz.sizeOf71 (Upd.refl _) ?_
        refine W_join (fun e C => ∃ (x15 : List (List UInt8)), ∃ (x14 : List (List UInt8)), ∃ (b16 : Nat), cells_woven_j4 x12 x7 x6 x15 x14 = some w2l ∧ At [(1, Pr.lst Rp.str x2), (2, Pr.lst Rp.str x3), (8, Pr.is v5), (10, Pr.pt b13 0), (11, Pr.pt b16 0), (12, Pr.lst Rp.str x15), (16, Pr.lst rApiChunk x4), (17, Pr.i64 (x4.length : Int)), (18, Pr.i64 x6)] [Own.vec v5 Rp.str x7 9, Own.box b13 rApiChunk x12, Own.box b16 (Rp.list Rp.str) x14] e C) ?_ ?_
        · rintro e C ⟨x15, x14, b16, h2l, hat4⟩
          refine W_at hat4 ?_
          clear hat4
          unfold cells_woven_j4 at h2l
          refine W_rs ?_
          refine rq (out := Pr.pt b13 0) (qFieldP fld71_0) ?_
          refine rq (out := Pr.i64 x12.Kind) (qLoad (R := rApiChunk) (a := x12) (R' := Rp.int .i64) 1 ty3 subApiChunk_Kind) ?_
          refine W_block ?_
          refine W_rs ?_
          refine rq (out := Pr.bool (x12.Kind == 2)) qInt ?_
          refine rq (out := Pr.bool (x12.Kind == 2)) qAssign ?_
          refine W_cond (b := x12.Kind == 2) rfl (fun hc17 => ?_) (fun hc17 => ?_)
          · replace h2l := iteT hc17 h2l
            refine W_r ?_
            refine rq (out := Pr.is v5) qMove ?_
            refine rq (out := Pr.lst Rp.str x15) qMove ?_
            obtain ⟨x18, hx18, h2l⟩ := bindSome h2l
            refine rAppend' 0 el33 hx18 (fun v19 => ?_)
            refine rq (out := Pr.is v19) qAssign ?_
            exact ⟨x18, x12, v19, b13, h2l, ⟨⟨Pr.le_rfl, Pr.le_rfl, Pr.le_rfl, Pr.le_rfl, Pr.le_rfl, Pr.le_rfl, trivial⟩, Pick.of [0, 1] rfl⟩⟩
          · replace h2l := iteF hc17 h2l
            refine W_rs ?_
            refine rq (out := Pr.bool (x12.Kind == 4)) qInt ?_
            refine rq (out := Pr.bool (x12.Kind == 4)) qAssign ?_
            refine W_cond (b := x12.Kind == 4) rfl (fun hc20 => ?_) (fun hc20 => ?_)
            · replace h2l := iteT hc20 h2l
              refine W_seq ?_
              refine W_rs ?_
              refine rq (out := Pr.pt b13 1) (qFieldP fld71_1) ?_
              refine rq (out := Pr.pt b13 1) (qFieldP fld69_0) ?_
              refine rq (out := Pr.i64 x12.O.From) (qLoad (R := rApiChunk) (a := x12) (R' := Rp.int .i64) 1 ty3 (subApiChunk_O.trans subApiSpan_From (Nat.le_of_ble_eq_true rfl))) ?_
              refine rq (out := Pr.pt b13 1) (qFieldP fld71_1) ?_
              refine rq (out := Pr.pt b13 2) (qFieldP fld69_1) ?_
              refine rq (out := Pr.i64 x12.O.To) (qLoad (R := rApiChunk) (a := x12) (R' := Rp.int .i64) 1 ty3 (subApiChunk_O.trans subApiSpan_To (Nat.le_of_ble_eq_true rfl))) ?_
              refine rq (out := Pr.bool (decide (x12.O.From < x12.O.To))) qInt ?_
              refine W_cond (b := decide (x12.O.From < x12.O.To)) rfl (fun hc21 => ?_) (fun hc21 => ?_)
              · replace h2l := iteT hc21 h2l
                refine W_rs ?_
                refine rq (out := Pr.is (.slice none 0 0)) qAssign ?_
                refine rq (out := Pr.bool false) qAssign ?_
                obtain rfl := ho2 _ (Option.some.inj h2l).symm
                replace h : some ([], false) = some r := h
                obtain rfl := Option.some.inj h
                exact W_ret ⟨rfl, tup_le ⟨Pr.lst_nil _, Pr.le_rfl, trivial⟩⟩
              · replace h2l := iteF hc21 h2l
                refine W_skip ?_
                refine W_rs ?_
                refine rq (out := Pr.is v5) qMove ?_
                refine rq (out := Pr.lst Rp.str x14) (qLoad (R := Rp.list Rp.str) (a := x14) (R' := Rp.list Rp.str) 2 ty33 (Sub.refl _)) ?_
                obtain ⟨x22, hx22, h2l⟩ := bindSome h2l
                refine rAppend' 0 el33 hx22 (fun v23 => ?_)
                refine rq (out := Pr.is v23) qAssign ?_
                refine W_r ?_
                refine rq (out := Pr.is v23) qMove ?_
                refine rq (out := Pr.lst Rp.str x15) qMove ?_
                obtain ⟨x24, hx24, h2l⟩ := bindSome h2l
                refine rCallC [] (slices_Clone_ok x15 _ hx24) (fun q C' hq => ?_)
                obtain ⟨v25, rfl, rfl⟩ := hq
                refine rRelB 3 [11] ?_ rfl ⟨rfl, trivial⟩
                refine rq (out := Pr.clo 54 [] [Pr.cpt (Rp.list Rp.str) x14]) qMakeFunc ?_
                obtain ⟨x26, hx26, h2l⟩ := bindSome h2l
                refine rCallC' [0] (slices_DeleteFunc_string_string_ok (fun a0 => cells_woven_1 a0 x14) x24 v25 _ hx26) ⟨Pr.le_rfl, (clo_pfn en54 (fun _ _ hs => by obtain ⟨a0, r, rfl, rfl, hr⟩ := hs; exact cells_woven_1_ok a0 x14 r hr)), trivial⟩ (fun q C' hq => ?_)
                obtain ⟨rfl, rfl⟩ := hq
                obtain ⟨x27, hx27, h2l⟩ := bindSome h2l
                refine rAppend' 0 el33 hx27 (fun v28 => ?_)
                refine rq (out := Pr.is v28) qAssign ?_
                exact ⟨x27, x12, v28, b13, h2l, ⟨⟨Pr.le_rfl, Pr.le_rfl, Pr.le_rfl, Pr.le_rfl, Pr.le_rfl, Pr.le_rfl, trivial⟩, Pick.refl _⟩⟩
            · replace h2l := iteF hc20 h2l
              refine W_r ?_
              refine rq (out := Pr.is v5) qMove ?_
              refine rq (out := Pr.lst Rp.str x14) (qLoad (R := Rp.list Rp.str) (a := x14) (R' := Rp.list Rp.str) 2 ty33 (Sub.refl _)) ?_
              obtain ⟨x29, hx29, h2l⟩ := bindSome h2l
              refine rAppend' 0 el33 hx29 (fun v30 => ?_)
              refine rq (out := Pr.is v30) qAssign ?_
              exact ⟨x29, x12, v30, b13, h2l, ⟨⟨Pr.le_rfl, Pr.le_rfl, Pr.le_rfl, Pr.le_rfl, Pr.le_rfl, Pr.le_rfl, trivial⟩, Pick.of [0, 1] rfl⟩⟩
        · obtain ⟨x14, hx14, h2l⟩ := bindSome h2l
          obtain ⟨x15, hx15, h2l⟩ := bindSome h2l
          refine W_drawG 1 (fun B S => [Own.vec v5 Rp.str x7 9, Own.box b13 rApiChunk x12, (cond (S 17) (Own.box (B 16) (Rp.list Rp.str) x14) (cond (S 16) (Own.box (B 16) (Rp.list Rp.str) []) Own.nil))]) (fun B => [Own.vec v5 Rp.str x7 9, Own.box b13 rApiChunk x12, Own.box (B 16) (Rp.list Rp.str) x14]) [Pr.lst Rp.str x2, Pr.pt b13 3, Pr.pt b13 3, Pr.i64 x12.A.From, Pr.pt b13 3, Pr.pt b13 4, Pr.i64 x12.A.To, Pr.lst Rp.str x14, Pr.lst Rp.str x3, Pr.pt b13 5, Pr.pt b13 5, Pr.i64 x12.B.From, Pr.pt b13 5, Pr.pt b13 6, Pr.i64 x12.B.To, Pr.lst Rp.str x15, .any, .any, Pr.lst Rp.str x15] (fun k => ([0, 0, 0, 0, 0, 0, 0, 0, 0, 0, 0, 0, 0, 0, 0, 0, 2, 1, 0] : List Nat).getD k 0) hmx (by kernel_rfl) (by kernel_rfl) (fun _ => rfl) (fun B S S' h => by show ([Own.vec v5 Rp.str x7 9, Own.box b13 rApiChunk x12, (cond (S 17) (Own.box (B 16) (Rp.list Rp.str) x14) (cond (S 16) (Own.box (B 16) (Rp.list Rp.str) []) Own.nil))] : Ctx) = [Own.vec v5 Rp.str x7 9, Own.box b13 rApiChunk x12, (cond (S' 17) (Own.box (B 16) (Rp.list Rp.str) x14) (cond (S' 16) (Own.box (B 16) (Rp.list Rp.str) []) Own.nil))]; simp only [h 16 (Nat.le_of_ble_eq_true (by kernel_rfl)), h 17 (Nat.le_of_ble_eq_true (by kernel_rfl))]) (fun _ => rfl) (fun B => ?_)
          refine gq1 (fun S hK => qMove) ?_
          refine gq1 (fun S hK => (qFieldP fld71_2)) ?_
          refine gq1 (fun S hK => (qFieldP fld69_0)) ?_
          refine gq1 (fun S hK => (qLoad (R := rApiChunk) (a := x12) (R' := Rp.int .i64) 1 ty3 (subApiChunk_A.trans subApiSpan_From (Nat.le_of_ble_eq_true rfl)) (hi := rfl))) ?_
          refine gq1 (fun S hK => (qFieldP fld71_2)) ?_
          refine gq1 (fun S hK => (qFieldP fld69_1)) ?_
          refine gq1 (fun S hK => (qLoad (R := rApiChunk) (a := x12) (R' := Rp.int .i64) 1 ty3 (subApiChunk_A.trans subApiSpan_To (Nat.le_of_ble_eq_true rfl)) (hi := rfl))) ?_
          refine gq1 (fun S hK => (qLSubLH Tryz.underlying33 Tryz.sizeOf9 hx14)) ?_
          refine gq1 (fun S hK => qMove) ?_
          refine gq1 (fun S hK => (qFieldP fld71_3)) ?_
          refine gq1 (fun S hK => (qFieldP fld69_0)) ?_
          refine gq1 (fun S hK => (qLoad (R := rApiChunk) (a := x12) (R' := Rp.int .i64) 1 ty3 (subApiChunk_B.trans subApiSpan_From (Nat.le_of_ble_eq_true rfl)) (hi := rfl))) ?_
          refine gq1 (fun S hK => (qFieldP fld71_3)) ?_
          refine gq1 (fun S hK => (qFieldP fld69_1)) ?_
          refine gq1 (fun S hK => (qLoad (R := rApiChunk) (a := x12) (R' := Rp.int .i64) 1 ty3 (subApiChunk_B.trans subApiSpan_To (Nat.le_of_ble_eq_true rfl)) (hi := rfl))) ?_
          refine gq1 (fun S hK => (qLSubLH Tryz.underlying33 Tryz.sizeOf9 hx15)) ?_
          refine gqA (fun S hK => ⟨fun B' hB => by show ([Own.vec v5 Rp.str x7 9, Own.box b13 rApiChunk x12, (cond (S 17) (Own.box (B' 16) (Rp.list Rp.str) x14) (cond (S 16) (Own.box (B' 16) (Rp.list Rp.str) []) Own.nil))] : Ctx) = [Own.vec v5 Rp.str x7 9, Own.box b13 rApiChunk x12, (cond (S 17) (Own.box (B 16) (Rp.list Rp.str) x14) (cond (S 16) (Own.box (B 16) (Rp.list Rp.str) []) Own.nil))]; simp only [hK.me, hK.F 17 (by kernel_rfl), cond_false], fun s ρ hg _ => sAlloc (R := Rp.list Rp.str) (z := []) 2 Tryz.zeroValue33 (fun _ => ⟨none, 0, rfl, ⟨Nat.le_refl _, fun _ => rfl⟩, .inl rfl⟩) (congrArg some ((condF (hK.F 17 (by kernel_rfl)) _ _).trans (condF (hK.me) _ _))) (fun b => by show ([Own.vec v5 Rp.str x7 9, Own.box b13 rApiChunk x12, (cond (S 17) (Own.box b (Rp.list Rp.str) x14) (Own.box b (Rp.list Rp.str) []))] : Ctx) = _; rw [hK.F 17 (by kernel_rfl)]; rfl) s ρ hg⟩) ?_
          refine gqS (fun S hK => SStep.as (sStore (R := Rp.list Rp.str) (R' := Rp.list Rp.str) (a := []) (y := x14) 2 Tryz.sizeOf33 (Upd.refl _) (congrArg some ((condF (hK.me) _ _).trans (condT (hK.T 16 (by kernel_rfl)) _ _)))) (by show (_ : Ctx) = [Own.vec v5 Rp.str x7 9, Own.box b13 rApiChunk x12, Own.box (B 16) (Rp.list Rp.str) x14]; rfl)) ?_
          refine gq1 (fun S hK => qAssign) ?_
          exact ⟨x15, x14, (B 16), h2l, ⟨⟨Pr.le_rfl, Pr.le_rfl, Pr.le_rfl, Pr.le_rfl, Pr.le_rfl, Pr.le_rfl, Pr.le_rfl, Pr.le_rfl, Pr.le_rfl, trivial⟩, Pick.refl _⟩⟩
    · replace h2l := iteF hc11 h2l
      refine W_exit ?_
      obtain rfl := ho2 _ (Option.some.inj h2l).symm
      exact ⟨x7, v5, h, ⟨⟨Pr.le_rfl, trivial⟩, Pick.refl _⟩⟩
theorem cells_Order_ok (x1 : List (List UInt8)) (x2 : List (List UInt8)) (x3 : List (List UInt8)) (r : (List (List UInt8)) × Bool) (h : cells_Order x1 x2 x3 = some r) : FnP Tryz.prog 18 [Pr.lst Rp.str x1, Pr.lst Rp.str x2, Pr.lst Rp.str x3] (Pr.tup [Pr.lst Rp.str r.1, Pr.bool r.2]) := by
  refine fn_intro (n := 52) (rs := [6, 7]) Tryz.func18 rfl Tryz.ntmps18 ⟨by decide, Tryz.results18⟩ (by decide) (fun s0 => ?_)
  unfold cells_Order at h
  refine W_rs ?_
  refine rBox (R := Rp.list Rp.str) (a := x1) rfl (fun b4 => ?_)
  refine rBox (R := Rp.list Rp.str) (a := x2) rfl (fun b5 => ?_)
  refine rBox (R := Rp.list Rp.str) (a := x3) rfl (fun b6 => ?_)
  refine rq (out := Pr.is (.slice none 0 0)) qAssign ?_
  refine rq (out := Pr.bool false) qAssign ?_
  refine W_join (fun e C => ∃ (x7 : List (List UInt8)), ∃ (x8 : List (List UInt8)), ∃ (x9 : List (List UInt8)), cells_Order_j3 x7 x8 x9 = some r ∧ At [(3, Pr.pt b4 0), (4, Pr.pt b5 0), (5, Pr.pt b6 0)] [Own.box b4 (Rp.list Rp.str) x7, Own.box b5 (Rp.list Rp.str) x8, Own.box b6 (Rp.list Rp.str) x9] e C) ?_ ?_
  · rintro e C ⟨x7, x8, x9, h, hat3⟩
    refine W_at hat3 ?_
    clear hat3
    unfold cells_Order_j3 at h
    refine W_seq ?_
    refine W_block ?_
    refine W_rs ?_
    refine rq (out := Pr.lst Rp.str x9) (qLoad (R := Rp.list Rp.str) (a := x9) (R' := Rp.list Rp.str) 2 ty33 (Sub.refl _)) ?_
    refine rq (out := Pr.lst Rp.str x7) (qLoad (R := Rp.list Rp.str) (a := x7) (R' := Rp.list Rp.str) 0 ty33 (Sub.refl _)) ?_
    obtain ⟨x10, hx10, h⟩ := bindSome h
    refine rq (out := Pr.bool x10) (qCall (slices_Equal_string_string_ok x9 x7 _ hx10)) ?_
    refine rq (out := Pr.bool x10) qAssign ?_
    refine W_cond (b := x10) rfl (fun hc11 => ?_) (fun hc11 => ?_)
    · replace h := iteT hc11 h
      refine W_rs ?_
      refine rq (out := Pr.lst Rp.str x8) (qLoad (R := Rp.list Rp.str) (a := x8) (R' := Rp.list Rp.str) 1 ty33 (Sub.refl _)) ?_
      refine rq (out := Pr.lst Rp.str x8) qAssign ?_
      refine rq (out := Pr.bool true) qAssign ?_
      obtain rfl := Option.some.inj h
      exact W_ret ⟨rfl, Pr.le_rfl⟩
    · replace h := iteF hc11 h
      refine W_rs ?_
      refine rq (out := Pr.lst Rp.str x8) (qLoad (R := Rp.list Rp.str) (a := x8) (R' := Rp.list Rp.str) 1 ty33 (Sub.refl _)) ?_
      refine rq (out := Pr.lst Rp.str x7) (qLoad (R := Rp.list Rp.str) (a := x7) (R' := Rp.list Rp.str) 0 ty33 (Sub.refl _)) ?_
      obtain ⟨x12, hx12, h⟩ := bindSome h
      refine rq (out := Pr.bool x12) (qCall (slices_Equal_string_string_ok x8 x7 _ hx12)) ?_
      refine rq (out := Pr.bool x12) qAssign ?_
      refine W_cond (b := x12) rfl (fun hc13 => ?_) (fun hc13 => ?_)
      · replace h := iteT hc13 h
        refine W_rs ?_
        refine rq (out := Pr.lst Rp.str x9) (qLoad (R := Rp.list Rp.str) (a := x9) (R' := Rp.list Rp.str) 2 ty33 (Sub.refl _)) ?_
        refine rq (out := Pr.lst Rp.str x9) qAssign ?_
        refine rq (out := Pr.bool true) qAssign ?_
        obtain rfl := Option.some.inj h
        exact W_ret ⟨rfl, Pr.le_rfl⟩
      · replace h := iteF hc13 h
        refine W_skip ?_
        refine W_rs ?_
        refine rRelB 0 [3] ?_ rfl ⟨rfl, trivial⟩
        refine rRelB 0 [4] ?_ rfl ⟨rfl, trivial⟩
        refine rRelB 0 [5] ?_ rfl ⟨rfl, trivial⟩
        refine rq (out := Pr.clo 36 [] [Pr.cpt (Rp.list Rp.str) x7, Pr.cpt (Rp.list Rp.str) x8, Pr.cpt (Rp.list Rp.str) x9]) qMakeFunc ?_
        refine rq (out := Pr.clo 36 [] [Pr.cpt (Rp.list Rp.str) x7, Pr.cpt (Rp.list Rp.str) x8, Pr.cpt (Rp.list Rp.str) x9]) qAssign ?_
        refine W_join (fun e C => ∃ (x17 : List (List UInt8)), ∃ (x18 : Bool), cells_Order_j2 x17 x18 = some r ∧ At [(9, Pr.lst Rp.str x17), (10, Pr.bool x18)] [] e C) ?_ ?_
        · rintro e C ⟨x17, x18, h, hat2⟩
          refine W_at hat2 ?_
          clear hat2
          unfold cells_Order_j2 at h
          refine W_seq ?_
          refine W_join (fun e C => ∃ (x21 : Bool), cells_Order_j1 x17 x21 = some r ∧ At [(9, Pr.lst Rp.str x17), (50, Pr.bool x21)] [] e C) ?_ ?_
          · rintro e C ⟨x21, h, hat1⟩
            refine W_at hat1 ?_
            clear hat1
            unfold cells_Order_j1 at h
            refine W_cond (b := x21) rfl (fun hc22 => ?_) (fun hc22 => ?_)
            · replace h := iteT hc22 h
              refine W_rs ?_
              refine rq (out := Pr.is (.slice none 0 0)) qAssign ?_
              refine rq (out := Pr.bool false) qAssign ?_
              obtain rfl := Option.some.inj h
              exact W_ret ⟨rfl, tup_le ⟨Pr.lst_nil _, Pr.le_rfl, trivial⟩⟩
            · replace h := iteF hc22 h
              refine W_skip ?_
              refine W_rs ?_
              refine rq (out := Pr.lst Rp.str x17) qMove ?_
              refine rq (out := Pr.lst Rp.str x17) qAssign ?_
              refine rq (out := Pr.bool true) qAssign ?_
              obtain rfl := Option.some.inj h
              exact W_ret ⟨rfl, Pr.le_rfl⟩
          · refine W_r ?_
            refine rq (out := Pr.bool x18) qMove ?_
            refine rq (out := Pr.bool (!x18)) qNot ?_
            refine rq (out := Pr.bool (!x18)) qMove ?_
            rcases iteSome h with ⟨hc19, h⟩ | ⟨hc19, h⟩
            · refine rno (neF hc19) ?_
              refine rno (neF hc19) ?_
              refine rno (neF hc19) ?_
              refine rno (neF hc19) ?_
              refine rno (neF hc19) ?_
              refine rno (neF hc19) ?_
              refine rq (out := Pr.bool true) (qPickT hc19) ?_
              exact ⟨true, h, ⟨⟨Pr.le_rfl, Pr.le_rfl, trivial⟩, Pick.refl _⟩⟩
            · refine rqg hc19 (out := Pr.lst Rp.str x17) qMove ?_
              obtain ⟨x20, hx20, h⟩ := bindSome h
              refine rqg hc19 (out := Pr.lst Rp.str x20) (qCall (cells_once_ok x17 _ hx20)) ?_
              refine rqg hc19 (out := Pr.i64 (x20.length : Int)) (qLenL rfl Tryz.underlying33) ?_
              refine rqg hc19 (out := Pr.lst Rp.str x17) qMove ?_
              refine rqg hc19 (out := Pr.i64 (x17.length : Int)) (qLenL rfl Tryz.underlying33) ?_
              refine rqg hc19 (out := Pr.bool ((x20.length : Int) != (x17.length : Int))) qInt ?_
              refine rq (out := Pr.bool ((x20.length : Int) != (x17.length : Int))) (qPickF hc19) ?_
              exact ⟨(x20.length : Int) != (x17.length : Int), h, ⟨⟨Pr.le_rfl, Pr.le_rfl, trivial⟩, Pick.refl _⟩⟩
        · refine W_draw 15 hmx (by kernel_rfl) (by kernel_rfl) ?_
          refine qq (out := Pr.clo 36 [] [Pr.cpt (Rp.list Rp.str) x7, Pr.cpt (Rp.list Rp.str) x8, Pr.cpt (Rp.list Rp.str) x9]) qMove ?_
          refine qq (out := Pr.lst Rp.str x7) (qLoadC (R := Rp.list Rp.str) (a := x7) ty33) ?_
          obtain ⟨x14, hx14, h⟩ := bindSome h
          refine qq (out := Pr.lst Rp.str x14) (qCallClo (cells_Order_1_ok x7 x7 x8 x9 _ hx14)) ?_
          refine qq (out := Pr.clo 36 [] [Pr.cpt (Rp.list Rp.str) x7, Pr.cpt (Rp.list Rp.str) x8, Pr.cpt (Rp.list Rp.str) x9]) qMove ?_
          refine qq (out := Pr.lst Rp.str x8) (qLoadC (R := Rp.list Rp.str) (a := x8) ty33) ?_
          obtain ⟨x15, hx15, h⟩ := bindSome h
          refine qq (out := Pr.lst Rp.str x15) (qCallClo (cells_Order_1_ok x8 x7 x8 x9 _ hx15)) ?_
          refine qq (out := Pr.clo 36 [] [Pr.cpt (Rp.list Rp.str) x7, Pr.cpt (Rp.list Rp.str) x8, Pr.cpt (Rp.list Rp.str) x9]) qMove ?_
          refine qq (out := Pr.lst Rp.str x9) (qLoadC (R := Rp.list Rp.str) (a := x9) ty33) ?_
          obtain ⟨x16, hx16, h⟩ := bindSome h
          refine qq (out := Pr.lst Rp.str x16) (qCallClo (cells_Order_1_ok x9 x7 x8 x9 _ hx16)) ?_
          obtain ⟨⟨x17, x18⟩, hx17, h⟩ := bindSome h
          refine qq (out := Pr.tup [Pr.lst Rp.str x17, Pr.bool x18]) (qCall (cells_woven_ok x14 x15 x16 _ hx17)) ?_
          refine qq (out := Pr.tup [Pr.lst Rp.str x17, Pr.bool x18]) qMove ?_
          refine qq (out := Pr.lst Rp.str x17) qExtract ?_
          refine qq (out := Pr.bool x18) qExtract ?_
          refine qq (out := Pr.lst Rp.str x17) qAssign ?_
          refine qq (out := Pr.bool x18) qAssign ?_
          exact ⟨x17, x18, h, ⟨⟨Pr.le_rfl, Pr.le_rfl, trivial⟩, Pick.refl _⟩⟩
  · refine W_draw 6 hmx (by kernel_rfl) (by kernel_rfl) ?_
    refine qq (out := Pr.lst Rp.str x1) (qLoad (R := Rp.list Rp.str) (a := x1) (R' := Rp.list Rp.str) 0 ty33 (Sub.refl _)) ?_
    obtain ⟨x7, hx7, h⟩ := bindSome h
    refine qq (out := Pr.lst Rp.str x7) (qCall (cells_once_ok x1 _ hx7)) ?_
    refine qq (out := Pr.lst Rp.str x2) (qLoad (R := Rp.list Rp.str) (a := x2) (R' := Rp.list Rp.str) 1 ty33 (Sub.refl _)) ?_
    obtain ⟨x8, hx8, h⟩ := bindSome h
    refine qq (out := Pr.lst Rp.str x8) (qCall (cells_once_ok x2 _ hx8)) ?_
    refine qq (out := Pr.lst Rp.str x3) (qLoad (R := Rp.list Rp.str) (a := x3) (R' := Rp.list Rp.str) 2 ty33 (Sub.refl _)) ?_
    obtain ⟨x9, hx9, h⟩ := bindSome h
    refine qq (out := Pr.lst Rp.str x9) (qCall (cells_once_ok x3 _ hx9)) ?_
    refine rStore (R := Rp.list Rp.str) (R' := Rp.list Rp.str) (a := x1) (y := x7) 0 Tryz.sizeOf33 (Upd.refl _) ?_
    refine rStore (R := Rp.list Rp.str) (R' := Rp.list Rp.str) (a := x2) (y := x8) 1 Tryz.sizeOf33 (Upd.refl _) ?_
    refine rStore (R := Rp.list Rp.str) (R' := Rp.list Rp.str) (a := x3) (y := x9) 2 Tryz.sizeOf33 (Upd.refl _) ?_
    exact ⟨x7, x8, x9, h, ⟨⟨Pr.le_rfl, Pr.le_rfl, Pr.le_rfl, trivial⟩, Pick.refl _⟩⟩
theorem slices_Concat_string_string_ok (x1 : List (List (List UInt8))) (r : (List (List UInt8))) (h : slices_Concat_string_string x1 = some r) : FnP Tryz.prog 27 [Pr.lst (Rp.list Rp.str) x1] (Pr.lst Rp.str r) := by
  refine fn_intro (n := 36) (rs := [2]) Tryz.func27 rfl Tryz.ntmps27 ⟨by decide, Tryz.results27⟩ (by decide) (fun s0 => ?_)
  unfold slices_Concat_string_string at h
  refine W_rs ?_
  refine rq (out := Pr.is (.slice none 0 0)) qAssign ?_
  refine W_rs ?_
  refine rq (out := Pr.i64 0) qAssign ?_
  refine W_seq ?_
  refine W_rs ?_
  refine rq (out := Pr.lst (Rp.list Rp.str) x1) qMove ?_
  refine rq (out := Pr.i64 (x1.length : Int)) (qLenL rfl Tryz.underlying78) ?_
  refine rq (out := Pr.i64 0) qMove ?_
  refine W_block ?_
  obtain ⟨z4l, hz4, h⟩ := bindSome h
  obtain ⟨n4, hN4⟩ := iter_some hz4
  clear hz4
  refine W_after 0 (fun e C => ∃ (x2 : Int), slices_Concat_string_string_k3 x1 x2 = some r ∧ At [(0, Pr.lst (Rp.list Rp.str) x1), (3, Pr.i64 x2)] [] e C) ?_ ?_
  · rintro e C ⟨x2, h, hat3⟩
    refine W_at hat3 ?_
    clear hat3
    unfold slices_Concat_string_string_k3 at h
    refine W_rs ?_
    refine rq (out := Pr.i64 x2) qMove ?_
    obtain ⟨x9, hx9, h⟩ := bindSome h
    refine rCallC [] (slices_Grow_ok x2 _ hx9) (fun q C' hq => ?_)
    obtain ⟨v10, rfl, rfl⟩ := hq
    refine rq (out := Pr.is v10) qAssign ?_
    refine W_seq ?_
    refine W_rs ?_
    refine rq (out := Pr.lst (Rp.list Rp.str) x1) qMove ?_
    refine rq (out := Pr.i64 (x1.length : Int)) (qLenL rfl Tryz.underlying78) ?_
    refine rq (out := Pr.i64 0) qMove ?_
    refine W_block ?_
    obtain ⟨z2l, hz2, h⟩ := bindSome h
    obtain ⟨n2, hN2⟩ := iter_some hz2
    clear hz2
    refine W_after 2 (fun e C => ∃ (x13 : List (List UInt8)), ∃ (v11 : Value), slices_Concat_string_string_k1 x13 = some r ∧ At [(6, Pr.is v11)] [Own.vec v11 Rp.str x13 9] e C) ?_ ?_
    · rintro e C ⟨x13, v11, h, hat1⟩
      refine W_at hat1 ?_
      clear hat1
      unfold slices_Concat_string_string_k1 at h
      refine W_rs ?_
      refine rq (out := Pr.is v11) qMove ?_
      refine rq (out := Pr.is v11) qAssign ?_
      refine W_rel 0 [2] ?_ rfl ⟨rfl, trivial⟩
      obtain rfl := Option.some.inj h
      exact W_ret ⟨rfl, Pr.le_rfl⟩
    · refine W_loop (fun m e C => ∃ (x12 : Int), ∃ (x13 : List (List UInt8)), ∃ (v11 : Value), IterN (fun s => slices_Concat_string_string_l2 x1 s.1 s.2) m (x12, x13) = some z2l ∧ At [(6, Pr.is v11), (25, Pr.lst (Rp.list Rp.str) x1), (26, Pr.i64 (x1.length : Int)), (27, Pr.i64 x12)] [Own.vec v11 Rp.str x13 9] e C) n2 ⟨0, x9, v10, hN2, ⟨⟨Pr.le_rfl, Pr.le_rfl, Pr.le_rfl, Pr.le_rfl, trivial⟩, Pick.refl _⟩⟩ ?_
      clear hN2
      rintro m e C ⟨x12, x13, v11, hN2, hatl2⟩
      refine W_at hatl2 ?_
      clear hatl2
      obtain ⟨m2, w2l, rfl, h2l, hn2, ho2⟩ := iterN_some hN2
      clear hN2
      replace h2l : slices_Concat_string_string_l2 x1 x12 x13 = some w2l := h2l
      unfold slices_Concat_string_string_l2 at h2l
      refine W_rs ?_
      refine rq (out := Pr.bool (decide (x12 < (x1.length : Int)))) qInt ?_
      refine W_seq ?_
      refine W_cond (b := decide (x12 < (x1.length : Int))) rfl (fun hc17 => ?_) (fun hc17 => ?_)
      · replace h2l := iteT hc17 h2l
        refine W_skip ?_
        refine W_seq ?_
        refine W_block ?_
        refine W_rs ?_
        obtain ⟨x18, hx18, h2l⟩ := bindSome h2l
        refine rq (out := Pr.cpt (Rp.list Rp.str) x18) (qIdxA (R := Rp.list Rp.str) (l := x1) Tryz.underlying78 Tryz.sizeOf33 hx18) ?_
        refine rq (out := Pr.lst Rp.str x18) (qLoadC (R := Rp.list Rp.str) (a := x18) ty33) ?_
        refine rq (out := Pr.lst Rp.str x18) qAssign ?_
        refine W_r ?_
        refine rq (out := Pr.is v11) qMove ?_
        refine rq (out := Pr.lst Rp.str x18) qMove ?_
        obtain ⟨x19, hx19, h2l⟩ := bindSome h2l
        refine rAppend' 0 el33 hx19 (fun v20 => ?_)
        refine rq (out := Pr.is v20) qAssign ?_
        refine W_r ?_
        refine rq (out := Pr.i64 (w64 (x12 + 1))) qInt ?_
        refine rq (out := Pr.i64 (w64 (x12 + 1))) qMove ?_
        exact ⟨m2, Nat.lt_succ_self _, w64 (x12 + 1), x19, v20, hn2 _ (Option.some.inj h2l).symm, ⟨⟨Pr.le_rfl, Pr.le_rfl, Pr.le_rfl, Pr.le_rfl, trivial⟩, Pick.refl _⟩⟩
      · replace h2l := iteF hc17 h2l
        refine W_exit ?_
        obtain rfl := ho2 _ (Option.some.inj h2l).symm
        exact ⟨x13, v11, h, ⟨⟨Pr.le_rfl, trivial⟩, Pick.refl _⟩⟩
  · refine W_loop (fun m e C => ∃ (x2 : Int), ∃ (x3 : Int), IterN (fun s => slices_Concat_string_string_l4 x1 s.1 s.2) m (x2, x3) = some z4l ∧ At [(0, Pr.lst (Rp.list Rp.str) x1), (3, Pr.i64 x2), (9, Pr.lst (Rp.list Rp.str) x1), (10, Pr.i64 (x1.length : Int)), (11, Pr.i64 x3)] [] e C) n4 ⟨0, 0, hN4, ⟨⟨Pr.le_rfl, Pr.le_rfl, Pr.le_rfl, Pr.le_rfl, Pr.le_rfl, trivial⟩, Pick.refl _⟩⟩ ?_
    clear hN4
    rintro m e C ⟨x2, x3, hN4, hatl4⟩
    refine W_at hatl4 ?_
    clear hatl4
    obtain ⟨m4, w4l, rfl, h4l, hn4, ho4⟩ := iterN_some hN4
    clear hN4
    replace h4l : slices_Concat_string_string_l4 x1 x2 x3 = some w4l := h4l
    unfold slices_Concat_string_string_l4 at h4l
    refine W_rs ?_
    refine rq (out := Pr.bool (decide (x3 < (x1.length : Int)))) qInt ?_
    refine W_seq ?_
    refine W_cond (b := decide (x3 < (x1.length : Int))) rfl (fun hc6 => ?_) (fun hc6 => ?_)
    · replace h4l := iteT hc6 h4l
      refine W_skip ?_
      refine W_join (fun e C => ∃ (x7 : List (List UInt8)), slices_Concat_string_string_j5 x2 x3 x7 = some w4l ∧ At [(0, Pr.lst (Rp.list Rp.str) x1), (3, Pr.i64 (w64 (x2 + (x7.length : Int)))), (9, Pr.lst (Rp.list Rp.str) x1), (10, Pr.i64 (x1.length : Int)), (11, Pr.i64 x3)] [] e C) ?_ ?_
      · rintro e C ⟨x7, h4l, hat5⟩
        refine W_at hat5 ?_
        clear hat5
        unfold slices_Concat_string_string_j5 at h4l
        refine W_r ?_
        refine rq (out := Pr.i64 (w64 (x3 + 1))) qInt ?_
        refine rq (out := Pr.i64 (w64 (x3 + 1))) qMove ?_
        exact ⟨m4, Nat.lt_succ_self _, w64 (x2 + (x7.length : Int)), w64 (x3 + 1), hn4 _ (Option.some.inj h4l).symm, ⟨⟨Pr.le_rfl, Pr.le_rfl, Pr.le_rfl, Pr.le_rfl, Pr.le_rfl, trivial⟩, Pick.refl _⟩⟩
      · refine W_block ?_
        refine W_rs ?_
        obtain ⟨x7, hx7, h4l⟩ := bindSome h4l
        refine rq (out := Pr.cpt (Rp.list Rp.str) x7) (qIdxA (R := Rp.list Rp.str) (l := x1) Tryz.underlying78 Tryz.sizeOf33 hx7) ?_
        refine rq (out := Pr.lst Rp.str x7) (qLoadC (R := Rp.list Rp.str) (a := x7) ty33) ?_
        refine rq (out := Pr.lst Rp.str x7) qAssign ?_
        refine W_rs ?_
        refine rq (out := Pr.i64 x2) qMove ?_
        refine rq (out := Pr.lst Rp.str x7) qMove ?_
        refine rq (out := Pr.i64 (x7.length : Int)) (qLenL rfl Tryz.underlying33) ?_
        refine rq (out := Pr.i64 (w64 (x2 + (x7.length : Int)))) qInt ?_
        refine rq (out := Pr.i64 (w64 (x2 + (x7.length : Int)))) qAssign ?_
        refine W_rs ?_
        refine rq (out := Pr.i64 (w64 (x2 + (x7.length : Int)))) qMove ?_
        refine rq (out := Pr.bool (decide ((w64 (x2 + (x7.length : Int))) < 0))) qInt ?_
        refine W_cond (b := decide ((w64 (x2 + (x7.length : Int))) < 0)) rfl (fun hc8 => ?_) (fun hc8 => ?_)
        · replace h4l := iteT hc8 h4l
          exact nomatch h4l
        · replace h4l := iteF hc8 h4l
          refine W_skip ?_
          exact ⟨x7, h4l, ⟨⟨Pr.le_rfl, Pr.le_rfl, Pr.le_rfl, Pr.le_rfl, Pr.le_rfl, trivial⟩, Pick.refl _⟩⟩
    · replace h4l := iteF hc6 h4l
      refine W_exit ?_
      obtain rfl := ho4 _ (Option.some.inj h4l).symm
      exact ⟨x2, h, ⟨⟨Pr.le_rfl, Pr.le_rfl, trivial⟩, Pick.refl _⟩⟩
theorem cells_Row_ok (x1 : List ApiSegment) (x2 : List ApiSegment) (x3 : List ApiSegment) (r : (List ApiSegment) × (List ApiConflict)) (h : cells_Row x1 x2 x3 = some r) : FnP Tryz.prog 10 [Pr.lst rApiSegment x1, Pr.lst rApiSegment x2, Pr.lst rApiSegment x3] (Pr.tup [Pr.lst rApiSegment r.1, Pr.lst rApiConflict r.2]) := by
  refine fn_intro (n := 73) (rs := [6, 7]) Tryz.func10 rfl Tryz.ntmps10 ⟨by decide, Tryz.results10⟩ (by decide) (fun s0 => ?_)
  unfold cells_Row at h
  refine W_rs ?_
  refine rq (out := Pr.is (.slice none 0 0)) qAssign ?_
  refine rq (out := Pr.is (.slice none 0 0)) qAssign ?_
  refine W_rs ?_
  refine rq (out := Pr.lst rApiSegment x1) qMove ?_
  refine rq (out := Pr.lst rApiSegment x2) qMove ?_
  refine rq (out := Pr.lst rApiSegment x3) qMove ?_
  obtain ⟨⟨x4, x5⟩, hx4, h⟩ := bindSome h
  refine rCallC [] (cells_Texts_ok x1 x2 x3 _ hx4) (fun q C' hq => ?_)
  obtain ⟨v6, rfl, rfl⟩ := hq
  refine rq (out := Pr.tup [Pr.lst rApiSegment x4, Pr.is v6]) qMove ?_
  refine rq (out := Pr.lst rApiSegment x4) qExtract ?_
  refine rq (out := Pr.is v6) qExtract ?_
  refine rq (out := Pr.lst rApiSegment x4) qAssign ?_
  refine rq (out := Pr.is v6) qAssign ?_
  refine W_rs ?_
  refine rq (out := Pr.lst rApiSegment x1) qMove ?_
  refine rq (out := Pr.lst (Rp.list rApiSegment) ([x1] : List (List ApiSegment))) (qBuildSlice1 (R := Rp.list rApiSegment) (a := x1) el73 (Nat.le_of_ble_eq_true rfl)) ?_
  obtain ⟨x7, hx7, h⟩ := bindSome h
  refine rq (out := Pr.lst Rp.str x7) (qCall (cells_keys_ok ([x1] : List (List ApiSegment)) _ hx7)) ?_
  refine rq (out := Pr.lst rApiSegment x2) qMove ?_
  refine rq (out := Pr.lst (Rp.list rApiSegment) ([x2] : List (List ApiSegment))) (qBuildSlice1 (R := Rp.list rApiSegment) (a := x2) el73 (Nat.le_of_ble_eq_true rfl)) ?_
  obtain ⟨x8, hx8, h⟩ := bindSome h
  refine rq (out := Pr.lst Rp.str x8) (qCall (cells_keys_ok ([x2] : List (List ApiSegment)) _ hx8)) ?_
  refine rq (out := Pr.lst rApiSegment x3) qMove ?_
  refine rq (out := Pr.lst (Rp.list rApiSegment) ([x3] : List (List ApiSegment))) (qBuildSlice1 (R := Rp.list rApiSegment) (a := x3) el73 (Nat.le_of_ble_eq_true rfl)) ?_
  obtain ⟨x9, hx9, h⟩ := bindSome h
  refine rq (out := Pr.lst Rp.str x9) (qCall (cells_keys_ok ([x3] : List (List ApiSegment)) _ hx9)) ?_
  obtain ⟨⟨x10, x11⟩, hx10, h⟩ := bindSome h
  refine rq (out := Pr.tup [Pr.lst Rp.str x10, Pr.bool x11]) (qCall (cells_Order_ok x7 x8 x9 _ hx10)) ?_
  refine rq (out := Pr.tup [Pr.lst Rp.str x10, Pr.bool x11]) qMove ?_
  refine rq (out := Pr.lst Rp.str x10) qExtract ?_
  refine rq (out := Pr.bool x11) qExtract ?_
  refine rq (out := Pr.lst Rp.str x10) qAssign ?_
  refine rq (out := Pr.bool x11) qAssign ?_
  refine W_seq ?_
  refine W_rs ?_
  refine rq (out := Pr.bool x11) qMove ?_
  refine rq (out := Pr.bool (!x11)) qNot ?_
  refine W_cond (b := !x11) rfl (fun hc12 => ?_) (fun hc12 => ?_)
  · replace h := iteT hc12 h
    refine W_rs ?_
    refine rq (out := Pr.lst rApiSegment x4) qMove ?_
    refine rq (out := Pr.is v6) qMove ?_
    refine rq (out := (rApiConflict).val (ApiConflict.mk 2 [])) (qBuild st46 ⟨(ApiConflict.mk 2 []), ⟨_, rfl, rfl, fun j fd hj hf => by match j, hj with | 0, h => exact absurd rfl h | 1, _ => cases hf; rfl | _ + 2, _ => cases hf⟩, rfl⟩) ?_
    refine rq (out := Pr.lst rApiConflict ([(ApiConflict.mk 2 [])] : List ApiConflict)) (qBuildSlice1 (R := rApiConflict) (a := (ApiConflict.mk 2 [])) el25 (Nat.le_of_ble_eq_true rfl)) ?_
    obtain ⟨x13, hx13, h⟩ := bindSome h
    refine rAppend' 0 el25 hx13 (fun v14 => ?_)
    refine rq (out := Pr.lst rApiSegment x4) qAssign ?_
    refine rq (out := Pr.is v14) qAssign ?_
    refine W_rel 0 [7] ?_ rfl ⟨rfl, trivial⟩
    obtain rfl := Option.some.inj h
    exact W_ret ⟨rfl, Pr.le_rfl⟩
  · replace h := iteF hc12 h
    refine W_skip ?_
    refine W_rs ?_
    refine rq (out := Pr.lst rApiSegment x4) qMove ?_
    obtain ⟨x15, hx15, h⟩ := bindSome h
    refine rq (out := Pr.mapS (Rp.arr 2 Rp.str) x15) (qCall (cells_table_ok x4 _ hx15)) ?_
    refine rq (out := Pr.mapS (Rp.arr 2 Rp.str) x15) qAssign ?_
    refine W_rs ?_
    refine rq (out := Pr.is (.slice none 0 0)) qAssign ?_
    refine W_seq ?_
    refine W_rs ?_
    refine rq (out := Pr.lst Rp.str x10) qMove ?_
    refine rq (out := Pr.lst rApiSegment x4) qMove ?_
    refine rq (out := Pr.lst (Rp.list rApiSegment) ([x4] : List (List ApiSegment))) (qBuildSlice1 (R := Rp.list rApiSegment) (a := x4) el73 (Nat.le_of_ble_eq_true rfl)) ?_
    obtain ⟨x16, hx16, h⟩ := bindSome h
    refine rq (out := Pr.lst Rp.str x16) (qCall (cells_keys_ok ([x4] : List (List ApiSegment)) _ hx16)) ?_
    refine rq (out := Pr.lst (Rp.list Rp.str) ([x10, x16] : List (List (List UInt8)))) (qBuildSlice (R := Rp.list Rp.str) (ls := ([x10, x16] : List (List (List UInt8)))) el78 (Nat.le_of_ble_eq_true rfl) ⟨rfl, rfl⟩ ⟨rfl, rfl, trivial⟩) ?_
    obtain ⟨x17, hx17, h⟩ := bindSome h
    refine rq (out := Pr.lst Rp.str x17) (qCall (slices_Concat_string_string_ok ([x10, x16] : List (List (List UInt8))) _ hx17)) ?_
    obtain ⟨x18, hx18, h⟩ := bindSome h
    refine rq (out := Pr.lst Rp.str x18) (qCall (cells_once_ok x17 _ hx18)) ?_
    refine rq (out := Pr.i64 (x18.length : Int)) (qLenL rfl Tryz.underlying33) ?_
    refine rq (out := Pr.i64 0) qMove ?_
    refine W_block ?_
    obtain ⟨z2l, hz2, h⟩ := bindSome h
    obtain ⟨n2, hN2⟩ := iter_some hz2
    clear hz2
    refine W_after 0 (fun e C => ∃ (x21 : List ApiSegment), ∃ (v19 : Value), cells_Row_k1 x5 x21 = some r ∧ At [(9, Pr.is v6), (13, Pr.is v19)] [Own.vec v6 rApiConflict x5 46, Own.vec v19 rApiSegment x21 38] e C) ?_ ?_
    · rintro e C ⟨x21, v19, h, hat1⟩
      refine W_at hat1 ?_
      clear hat1
      unfold cells_Row_k1 at h
      refine W_rs ?_
      refine rq (out := Pr.is v19) qMove ?_
      refine rq (out := Pr.is v6) qMove ?_
      refine rq (out := Pr.is v19) qAssign ?_
      refine rq (out := Pr.is v6) qAssign ?_
      refine W_rel 1 [6] ?_ rfl ⟨rfl, trivial⟩
      refine W_rel 0 [7] ?_ rfl ⟨rfl, trivial⟩
      obtain rfl := Option.some.inj h
      exact W_ret ⟨rfl, Pr.le_rfl⟩
    · refine W_nil [13] rApiSegment 38 (fun v35 => ?_) ⟨rfl, trivial⟩
      refine W_loop (fun m e C => ∃ (x20 : Int), ∃ (x21 : List ApiSegment), ∃ (v19 : Value), IterN (fun s => cells_Row_l2 x18 x15 s.1 s.2) m (x20, x21) = some z2l ∧ At [(9, Pr.is v6), (12, Pr.mapS (Rp.arr 2 Rp.str) x15), (13, Pr.is v19), (52, Pr.lst Rp.str x18), (53, Pr.i64 (x18.length : Int)), (54, Pr.i64 x20)] [Own.vec v6 rApiConflict x5 46, Own.vec v19 rApiSegment x21 38] e C) n2 ⟨0, [], v35, hN2, ⟨⟨Pr.le_rfl, Pr.le_rfl, Pr.le_rfl, Pr.le_rfl, Pr.le_rfl, Pr.le_rfl, trivial⟩, Pick.refl _⟩⟩ ?_
      clear hN2
      rintro m e C ⟨x20, x21, v19, hN2, hatl2⟩
      refine W_at hatl2 ?_
      clear hatl2
      obtain ⟨m2, w2l, rfl, h2l, hn2, ho2⟩ := iterN_some hN2
      clear hN2
      replace h2l : cells_Row_l2 x18 x15 x20 x21 = some w2l := h2l
      unfold cells_Row_l2 at h2l
      refine W_rs ?_
      refine rq (out := Pr.bool (decide (x20 < (x18.length : Int)))) qInt ?_
      refine W_seq ?_
      refine W_cond (b := decide (x20 < (x18.length : Int))) rfl (fun hc25 => ?_) (fun hc25 => ?_)
      · replace h2l := iteT hc25 h2l
        refine W_skip ?_
        refine W_join (fun e C => ∃ (x34 : List ApiSegment), ∃ (x26 : List UInt8), ∃ (v33 : Value), ∃ (b27 : Nat), cells_Row_j3 x20 x34 x26 = some w2l ∧ At [(9, Pr.is v6), (12, Pr.mapS (Rp.arr 2 Rp.str) x15), (13, Pr.is v33), (52, Pr.lst Rp.str x18), (53, Pr.i64 (x18.length : Int)), (54, Pr.i64 x20)] [Own.vec v6 rApiConflict x5 46, Own.vec v33 rApiSegment x34 38, Own.box b27 (Rp.arr 2 Rp.str) (mget x26 (List.replicate 2 []) x15)] e C) ?_ ?_
        · rintro e C ⟨x34, x26, v33, b27, h2l, hat3⟩
          refine W_at hat3 ?_
          clear hat3
          unfold cells_Row_j3 at h2l
          refine W_r ?_
          refine rq (out := Pr.i64 (w64 (x20 + 1))) qInt ?_
          refine rq (out := Pr.i64 (w64 (x20 + 1))) qMove ?_
          exact ⟨m2, Nat.lt_succ_self _, w64 (x20 + 1), x34, v33, hn2 _ (Option.some.inj h2l).symm, ⟨⟨Pr.le_rfl, Pr.le_rfl, Pr.le_rfl, Pr.le_rfl, Pr.le_rfl, Pr.le_rfl, trivial⟩, Pick.of [0, 1] rfl⟩⟩
        · refine W_block ?_
          refine W_rs ?_
          obtain ⟨x26, hx26, h2l⟩ := bindSome h2l
          refine rq (out := Pr.cpt Rp.str x26) (qIdxA (R := Rp.str) (l := x18) Tryz.underlying33 Tryz.sizeOf9 hx26) ?_
          refine rq (out := Pr.str x26) (qLoadC (R := Rp.str) (a := x26) ty9) ?_
          refine rq (out := Pr.str x26) qAssign ?_
          refine W_rs ?_
          refine rq (out := Pr.mapS (Rp.arr 2 Rp.str) x15) qMove ?_
          refine rq (out := Pr.str x26) qMove ?_
          refine rq (out := (Rp.arr 2 Rp.str).val (mget x26 (List.replicate 2 []) x15)) (qMapGetS (R := Rp.arr 2 Rp.str) (m := x15) (kx := x26) (z := (List.replicate 2 [])) Tryz.underlying51 Tryz.underlying9 Tryz.zeroValue56 (fun _ => ⟨_, ⟨rfl, ⟨_, _, rfl, rfl, ⟨_, _, rfl, rfl, rfl⟩⟩⟩, rfl⟩)) ?_
          refine rAlloc (R := Rp.arr 2 Rp.str) (z := (List.replicate 2 [])) Tryz.zeroValue56 (fun _ => ⟨_, ⟨rfl, ⟨_, _, rfl, rfl, ⟨_, _, rfl, rfl, rfl⟩⟩⟩, rfl⟩) (fun b27 => ?_)
          refine rStore (R := Rp.arr 2 Rp.str) (R' := Rp.arr 2 Rp.str) (a := (List.replicate 2 [])) (y := (mget x26 (List.replicate 2 []) x15)) 2 Tryz.sizeOf56 (Upd.refl _) ?_
          refine W_rs ?_
          refine rq (out := (Rp.arr 2 Rp.str).val (mget x26 (List.replicate 2 []) x15)) (qLoad (R := Rp.arr 2 Rp.str) (a := (mget x26 (List.replicate 2 []) x15)) (R' := Rp.arr 2 Rp.str) 2 ty56 (Sub.refl _)) ?_
          obtain ⟨x28, hx28, h2l⟩ := bindSome h2l
          refine rq (out := Pr.bool x28) (qCall (cells_cell_there_ok (mget x26 (List.replicate 2 []) x15) _ hx28)) ?_
          refine W_cond (b := x28) rfl (fun hc29 => ?_) (fun hc29 => ?_)
          · replace h2l := iteT hc29 h2l
            refine W_r ?_
            refine rq (out := Pr.is v19) qMove ?_
            refine rq (out := Pr.str x26) qMove ?_
            obtain ⟨x30, hx30, h2l⟩ := bindSome h2l
            refine rq (out := Pr.pt b27 (x30 * 1)) (qIdxP Tryz.underlying56 Tryz.sizeOf9 hx30) ?_
            refine rq (out := Pr.str (List.getD (mget x26 (List.replicate 2 []) x15) x30 [])) (qLoad (R := Rp.arr 2 Rp.str) (a := (mget x26 (List.replicate 2 []) x15)) (R' := Rp.str) 2 ty9 (Sub.arr [] (arrIx_lt hx30))) ?_
            refine rq (out := (rApiSegment).val (ApiSegment.mk x26 (List.getD (mget x26 (List.replicate 2 []) x15) x30 []))) (qBuild st38 ⟨(ApiSegment.mk x26 []), ⟨_, rfl, rfl, fun j fd hj hf => by match j, hj with | 0, h => exact absurd rfl h | 1, _ => cases hf; rfl | _ + 2, _ => cases hf⟩, ⟨(ApiSegment.mk x26 (List.getD (mget x26 (List.replicate 2 []) x15) x30 [])), ⟨_, rfl, rfl, fun j fd hj hf => by match j, hj with | 0, _ => cases hf; rfl | 1, h => exact absurd rfl h | _ + 2, _ => cases hf⟩, rfl⟩⟩) ?_
            refine rq (out := Pr.lst rApiSegment ([(ApiSegment.mk x26 (List.getD (mget x26 (List.replicate 2 []) x15) x30 []))] : List ApiSegment)) (qBuildSlice1 (R := rApiSegment) (a := (ApiSegment.mk x26 (List.getD (mget x26 (List.replicate 2 []) x15) x30 []))) el22 (Nat.le_of_ble_eq_true rfl)) ?_
            obtain ⟨x31, hx31, h2l⟩ := bindSome h2l
            refine rAppend' 1 el22 hx31 (fun v32 => ?_)
            refine rq (out := Pr.is v32) qAssign ?_
            exact ⟨x31, x26, v32, b27, h2l, ⟨⟨Pr.le_rfl, Pr.le_rfl, Pr.le_rfl, Pr.le_rfl, Pr.le_rfl, Pr.le_rfl, trivial⟩, Pick.refl _⟩⟩
          · replace h2l := iteF hc29 h2l
            refine W_skip ?_
            exact ⟨x21, x26, v19, b27, h2l, ⟨⟨Pr.le_rfl, Pr.le_rfl, Pr.le_rfl, Pr.le_rfl, Pr.le_rfl, Pr.le_rfl, trivial⟩, Pick.refl _⟩⟩
      · replace h2l := iteF hc25 h2l
        refine W_exit ?_
        obtain rfl := ho2 _ (Option.some.inj h2l).symm
        exact ⟨x21, v19, h, ⟨⟨Pr.le_rfl, Pr.le_rfl, trivial⟩, Pick.refl _⟩⟩
theorem cells_Three_ok (x1 : ApiSegment) (x2 : ApiSegment) (x3 : ApiSegment) (x4 : List Bool) (r : (List UInt8) × Bool × Int) (h : cells_Three x1 x2 x3 x4 = some r) : FnP Tryz.prog 16 [(rApiSegment).val x1, (rApiSegment).val x2, (rApiSegment).val x3, (Rp.arr 3 Rp.bool).val x4] (Pr.tup [Pr.str r.1, Pr.bool r.2.1, Pr.i64 r.2.2]) := by
  refine fn_intro (n := 37) (rs := [8, 9, 10]) Tryz.func16 rfl Tryz.ntmps16 ⟨by decide, Tryz.results16⟩ (by decide) (fun s0 => ?_)
  unfold cells_Three at h
  refine W_rs ?_
  refine rBox (R := rApiSegment) (a := x1) rfl (fun b5 => ?_)
  refine rBox (R := rApiSegment) (a := x2) rfl (fun b6 => ?_)
  refine rBox (R := rApiSegment) (a := x3) rfl (fun b7 => ?_)
  refine rBox (R := Rp.arr 3 Rp.bool) (a := x4) rfl (fun b8 => ?_)
  refine rq (out := Pr.str []) qAssign ?_
  refine rq (out := Pr.bool false) qAssign ?_
  refine rq (out := Pr.i64 0) qAssign ?_
  refine W_join (fun e C => ∃ (x16 : Int), ∃ (x15 : List (List UInt8)), ∃ (b17 : Nat), cells_Three_j2 x16 x15 = some r ∧ At [(11, Pr.pt b17 0), (12, Pr.i64 x16)] [Own.box b5 rApiSegment x1, Own.box b6 rApiSegment x2, Own.box b7 rApiSegment x3, Own.box b8 (Rp.arr 3 Rp.bool) x4, Own.box b17 (Rp.arr 2 Rp.str) x15] e C) ?_ ?_
  · rintro e C ⟨x16, x15, b17, h, hat2⟩
    refine W_at hat2 ?_
    clear hat2
    unfold cells_Three_j2 at h
    refine W_join (fun e C => ∃ (x18 : Nat), ∃ (x19 : Bool), cells_Three_j1 x15 x16 x18 x19 = some r ∧ At [(8, Pr.str (List.getD x15 x18 [])), (9, Pr.bool x19), (10, Pr.i64 x16)] [Own.box b5 rApiSegment x1, Own.box b6 rApiSegment x2, Own.box b7 rApiSegment x3, Own.box b8 (Rp.arr 3 Rp.bool) x4, Own.box b17 (Rp.arr 2 Rp.str) x15] e C) ?_ ?_
    · rintro e C ⟨x18, x19, h, hat1⟩
      refine W_at hat1 ?_
      clear hat1
      unfold cells_Three_j1 at h
      obtain rfl := Option.some.inj h
      exact W_ret ⟨rfl, Pr.le_rfl⟩
    · refine W_draw 8 hmx (by kernel_rfl) (by kernel_rfl) ?_
      obtain ⟨x18, hx18, h⟩ := bindSome h
      refine qq (out := Pr.pt b17 (x18 * 1)) (qIdxP Tryz.underlying56 Tryz.sizeOf9 hx18) ?_
      refine qq (out := Pr.str (List.getD x15 x18 [])) (qLoad (R := Rp.arr 2 Rp.str) (a := x15) (R' := Rp.str) 4 ty9 (Sub.arr [] (arrIx_lt hx18))) ?_
      refine qq (out := (Rp.arr 2 Rp.str).val x15) (qLoad (R := Rp.arr 2 Rp.str) (a := x15) (R' := Rp.arr 2 Rp.str) 4 ty56 (Sub.refl _)) ?_
      obtain ⟨x19, hx19, h⟩ := bindSome h
      refine qq (out := Pr.bool x19) (qCall (cells_cell_there_ok x15 _ hx19)) ?_
      refine qq (out := Pr.i64 x16) qMove ?_
      refine qq (out := Pr.str (List.getD x15 x18 [])) qAssign ?_
      refine qq (out := Pr.bool x19) qAssign ?_
      refine qq (out := Pr.i64 x16) qAssign ?_
      exact ⟨x18, x19, h, ⟨⟨Pr.le_rfl, Pr.le_rfl, Pr.le_rfl, trivial⟩, Pick.refl _⟩⟩
  · obtain ⟨x9, hx9, h⟩ := bindSome h
    obtain ⟨x10, hx10, h⟩ := bindSome h
    obtain ⟨x11, hx11, h⟩ := bindSome h
    obtain ⟨x12, hx12, h⟩ := bindSome h
    obtain ⟨x13, hx13, h⟩ := bindSome h
    obtain ⟨x14, hx14, h⟩ := bindSome h
    obtain ⟨⟨x15, x16⟩, hx15, h⟩ := bindSome h
    refine W_drawG 1 (fun B S => [Own.box b5 rApiSegment x1, Own.box b6 rApiSegment x2, Own.box b7 rApiSegment x3, Own.box b8 (Rp.arr 3 Rp.bool) x4, (cond (S 20) (Own.box (B 19) (Rp.arr 2 Rp.str) x15) (cond (S 19) (Own.box (B 19) (Rp.arr 2 Rp.str) (List.replicate 2 [])) Own.nil))]) (fun B => [Own.box b5 rApiSegment x1, Own.box b6 rApiSegment x2, Own.box b7 rApiSegment x3, Own.box b8 (Rp.arr 3 Rp.bool) x4, Own.box (B 19) (Rp.arr 2 Rp.str) x15]) [Pr.pt b5 1, Pr.str x1.Text, Pr.pt b8 (x9 * 1), Pr.bool (List.getD x4 x9 false), (Rp.arr 2 Rp.str).val x10, Pr.pt b6 1, Pr.str x2.Text, Pr.pt b8 (x11 * 1), Pr.bool (List.getD x4 x11 false), (Rp.arr 2 Rp.str).val x12, Pr.pt b7 1, Pr.str x3.Text, Pr.pt b8 (x13 * 1), Pr.bool (List.getD x4 x13 false), (Rp.arr 2 Rp.str).val x14, Pr.tup [(Rp.arr 2 Rp.str).val x15, Pr.i64 x16], Pr.tup [(Rp.arr 2 Rp.str).val x15, Pr.i64 x16], (Rp.arr 2 Rp.str).val x15, Pr.i64 x16, .any, .any, Pr.i64 x16] (fun k => ([0, 0, 0, 0, 0, 0, 0, 0, 0, 0, 0, 0, 0, 0, 0, 0, 0, 0, 0, 2, 1, 0] : List Nat).getD k 0) hmx (by kernel_rfl) (by kernel_rfl) (fun _ => rfl) (fun B S S' h => by show ([Own.box b5 rApiSegment x1, Own.box b6 rApiSegment x2, Own.box b7 rApiSegment x3, Own.box b8 (Rp.arr 3 Rp.bool) x4, (cond (S 20) (Own.box (B 19) (Rp.arr 2 Rp.str) x15) (cond (S 19) (Own.box (B 19) (Rp.arr 2 Rp.str) (List.replicate 2 [])) Own.nil))] : Ctx) = [Own.box b5 rApiSegment x1, Own.box b6 rApiSegment x2, Own.box b7 rApiSegment x3, Own.box b8 (Rp.arr 3 Rp.bool) x4, (cond (S' 20) (Own.box (B 19) (Rp.arr 2 Rp.str) x15) (cond (S' 19) (Own.box (B 19) (Rp.arr 2 Rp.str) (List.replicate 2 [])) Own.nil))]; simp only [h 19 (Nat.le_of_ble_eq_true (by kernel_rfl)), h 20 (Nat.le_of_ble_eq_true (by kernel_rfl))]) (fun _ => rfl) (fun B => ?_)
    refine gq1 (fun S hK => (qFieldP fld38_1)) ?_
    refine gq1 (fun S hK => (qLoad (R := rApiSegment) (a := x1) (R' := Rp.str) 0 ty9 subApiSegment_Text (hi := rfl))) ?_
    refine gq1 (fun S hK => (qIdxP Tryz.underlying32 Tryz.sizeOf4 hx9)) ?_
    refine gq1 (fun S hK => (qLoad (R := Rp.arr 3 Rp.bool) (a := x4) (R' := Rp.bool) 3 ty4 (Sub.arr false (arrIx_lt hx9)) (hi := rfl))) ?_
    refine gq1 (fun S hK => (qCall (cells_of_ok x1.Text (List.getD x4 x9 false) _ hx10))) ?_
    refine gq1 (fun S hK => (qFieldP fld38_1)) ?_
    refine gq1 (fun S hK => (qLoad (R := rApiSegment) (a := x2) (R' := Rp.str) 1 ty9 subApiSegment_Text (hi := rfl))) ?_
    refine gq1 (fun S hK => (qIdxP Tryz.underlying32 Tryz.sizeOf4 hx11)) ?_
    refine gq1 (fun S hK => (qLoad (R := Rp.arr 3 Rp.bool) (a := x4) (R' := Rp.bool) 3 ty4 (Sub.arr false (arrIx_lt hx11)) (hi := rfl))) ?_
    refine gq1 (fun S hK => (qCall (cells_of_ok x2.Text (List.getD x4 x11 false) _ hx12))) ?_
    refine gq1 (fun S hK => (qFieldP fld38_1)) ?_
    refine gq1 (fun S hK => (qLoad (R := rApiSegment) (a := x3) (R' := Rp.str) 2 ty9 subApiSegment_Text (hi := rfl))) ?_
    refine gq1 (fun S hK => (qIdxP Tryz.underlying32 Tryz.sizeOf4 hx13)) ?_
    refine gq1 (fun S hK => (qLoad (R := Rp.arr 3 Rp.bool) (a := x4) (R' := Rp.bool) 3 ty4 (Sub.arr false (arrIx_lt hx13)) (hi := rfl))) ?_
    refine gq1 (fun S hK => (qCall (cells_of_ok x3.Text (List.getD x4 x13 false) _ hx14))) ?_
    refine gq1 (fun S hK => (qCall (cells_three_ok x10 x12 x14 _ hx15))) ?_
    refine gq1 (fun S hK => qMove) ?_
    refine gq1 (fun S hK => qExtract) ?_
    refine gq1 (fun S hK => qExtract) ?_
    refine gqA (fun S hK => ⟨fun B' hB => by show ([Own.box b5 rApiSegment x1, Own.box b6 rApiSegment x2, Own.box b7 rApiSegment x3, Own.box b8 (Rp.arr 3 Rp.bool) x4, (cond (S 20) (Own.box (B' 19) (Rp.arr 2 Rp.str) x15) (cond (S 19) (Own.box (B' 19) (Rp.arr 2 Rp.str) (List.replicate 2 [])) Own.nil))] : Ctx) = [Own.box b5 rApiSegment x1, Own.box b6 rApiSegment x2, Own.box b7 rApiSegment x3, Own.box b8 (Rp.arr 3 Rp.bool) x4, (cond (S 20) (Own.box (B 19) (Rp.arr 2 Rp.str) x15) (cond (S 19) (Own.box (B 19) (Rp.arr 2 Rp.str) (List.replicate 2 [])) Own.nil))]; simp only [hK.me, hK.F 20 (by kernel_rfl), cond_false], fun s ρ hg _ => sAlloc (R := Rp.arr 2 Rp.str) (z := (List.replicate 2 [])) 4 Tryz.zeroValue56 (fun _ => ⟨_, ⟨rfl, ⟨_, _, rfl, rfl, ⟨_, _, rfl, rfl, rfl⟩⟩⟩, rfl⟩) (congrArg some ((condF (hK.F 20 (by kernel_rfl)) _ _).trans (condF (hK.me) _ _))) (fun b => by show ([Own.box b5 rApiSegment x1, Own.box b6 rApiSegment x2, Own.box b7 rApiSegment x3, Own.box b8 (Rp.arr 3 Rp.bool) x4, (cond (S 20) (Own.box b (Rp.arr 2 Rp.str) x15) (Own.box b (Rp.arr 2 Rp.str) (List.replicate 2 [])))] : Ctx) = _; rw [hK.F 20 (by kernel_rfl)]; rfl) s ρ hg⟩) ?_
    refine gqS (fun S hK => SStep.as (sStore (R := Rp.arr 2 Rp.str) (R' := Rp.arr 2 Rp.str) (a := (List.replicate 2 [])) (y := x15) 4 Tryz.sizeOf56 (Upd.refl _) (congrArg some ((condF (hK.me) _ _).trans (condT (hK.T 19 (by kernel_rfl)) _ _)))) (by show (_ : Ctx) = [Own.box b5 rApiSegment x1, Own.box b6 rApiSegment x2, Own.box b7 rApiSegment x3, Own.box b8 (Rp.arr 3 Rp.bool) x4, Own.box (B 19) (Rp.arr 2 Rp.str) x15]; rfl)) ?_
    refine gq1 (fun S hK => qAssign) ?_
    exact ⟨x16, x15, (B 19), h, ⟨⟨Pr.le_rfl, Pr.le_rfl, trivial⟩, Pick.refl _⟩⟩
theorem ref01_Same_ok (x1 : List (List UInt8)) (x2 : List (List UInt8)) (r : Bool) (h : ref01_Same x1 x2 = some r) : FnP Tryz.prog 20 [Pr.lst Rp.str x1, Pr.lst Rp.str x2] (Pr.bool r) := by
  refine fn_intro (n := 26) (rs := [4]) Tryz.func20 rfl Tryz.ntmps20 ⟨by decide, Tryz.results20⟩ (by decide) (fun s0 => ?_)
  unfold ref01_Same at h
  refine W_rs ?_
  refine rq (out := Pr.bool false) qAssign ?_
  refine W_seq ?_
  refine W_rs ?_
  refine rq (out := Pr.lst Rp.str x1) qMove ?_
  refine rq (out := Pr.i64 (x1.length : Int)) (qLenL rfl Tryz.underlying33) ?_
  refine rq (out := Pr.lst Rp.str x2) qMove ?_
  refine rq (out := Pr.i64 (x2.length : Int)) (qLenL rfl Tryz.underlying33) ?_
  refine rq (out := Pr.bool ((x1.length : Int) != (x2.length : Int))) qInt ?_
  refine W_cond (b := (x1.length : Int) != (x2.length : Int)) rfl (fun hc3 => ?_) (fun hc3 => ?_)
  · replace h := iteT hc3 h
    refine W_rs ?_
    refine rq (out := Pr.bool false) qAssign ?_
    obtain rfl := Option.some.inj h
    exact W_ret ⟨rfl, Pr.le_rfl⟩
  · replace h := iteF hc3 h
    refine W_skip ?_
    refine W_seq ?_
    refine W_rs ?_
    refine rq (out := Pr.i64 0) qAssign ?_
    refine W_block ?_
    obtain ⟨z2l, hz2, h⟩ := bindSome h
    obtain ⟨n2, hN2⟩ := iter_some hz2
    clear hz2
    refine W_after 0 (fun e C => ref01_Same_k1 = some r ∧ At [] [] e C) ?_ ?_
    · rintro e C ⟨h, hat1⟩
      refine W_at hat1 ?_
      clear hat1
      unfold ref01_Same_k1 at h
      refine W_rs ?_
      refine rq (out := Pr.bool true) qAssign ?_
      obtain rfl := Option.some.inj h
      exact W_ret ⟨rfl, Pr.le_rfl⟩
    · refine W_loop (fun m e C => ∃ (x4 : Int), IterN (fun s => ref01_Same_l2 x1 x2 s) m x4 = some z2l ∧ At [(0, Pr.lst Rp.str x1), (1, Pr.lst Rp.str x2), (5, Pr.i64 x4)] [] e C) n2 ⟨0, hN2, ⟨⟨Pr.le_rfl, Pr.le_rfl, Pr.le_rfl, trivial⟩, Pick.refl _⟩⟩ ?_
      clear hN2
      rintro m e C ⟨x4, hN2, hatl2⟩
      refine W_at hatl2 ?_
      clear hatl2
      obtain ⟨m2, w2l, rfl, h2l, hn2, ho2⟩ := iterN_some hN2
      clear hN2
      replace h2l : ref01_Same_l2 x1 x2 x4 = some w2l := h2l
      unfold ref01_Same_l2 at h2l
      refine W_seq ?_
      refine W_rs ?_
      refine rq (out := Pr.i64 x4) qMove ?_
      refine rq (out := Pr.lst Rp.str x1) qMove ?_
      refine rq (out := Pr.i64 (x1.length : Int)) (qLenL rfl Tryz.underlying33) ?_
      refine rq (out := Pr.bool (decide (x4 < (x1.length : Int)))) qInt ?_
      refine W_cond (b := decide (x4 < (x1.length : Int))) rfl (fun hc6 => ?_) (fun hc6 => ?_)
      · replace h2l := iteT hc6 h2l
        refine W_skip ?_
        refine W_seq ?_
        refine W_block ?_
        refine W_join (fun e C => ∃ (x7 : List UInt8), ∃ (x8 : List UInt8), ref01_Same_j3 x4 x7 x8 = some w2l ∧ At [(0, Pr.lst Rp.str x1), (1, Pr.lst Rp.str x2), (5, Pr.i64 x4), (25, Pr.bool (!(x7 == x8)))] [] e C) ?_ ?_
        · rintro e C ⟨x7, x8, h2l, hat3⟩
          refine W_at hat3 ?_
          clear hat3
          unfold ref01_Same_j3 at h2l
          refine W_cond (b := !(x7 == x8)) rfl (fun hc9 => ?_) (fun hc9 => ?_)
          · replace h2l := iteT hc9 h2l
            refine W_rs ?_
            refine rq (out := Pr.bool false) qAssign ?_
            obtain rfl := ho2 _ (Option.some.inj h2l).symm
            replace h : some false = some r := h
            obtain rfl := Option.some.inj h
            exact W_ret ⟨rfl, Pr.le_rfl⟩
          · replace h2l := iteF hc9 h2l
            refine W_skip ?_
            refine W_r ?_
            refine rq (out := Pr.i64 x4) qMove ?_
            refine rq (out := Pr.i64 (w64 (x4 + 1))) qInt ?_
            refine rq (out := Pr.i64 (w64 (x4 + 1))) qAssign ?_
            exact ⟨m2, Nat.lt_succ_self _, w64 (x4 + 1), hn2 _ (Option.some.inj h2l).symm, ⟨⟨Pr.le_rfl, Pr.le_rfl, Pr.le_rfl, trivial⟩, Pick.refl _⟩⟩
        · refine W_draw 9 hmx (by kernel_rfl) (by kernel_rfl) ?_
          refine qq (out := Pr.lst Rp.str x1) qMove ?_
          refine qq (out := Pr.i64 x4) qMove ?_
          obtain ⟨x7, hx7, h2l⟩ := bindSome h2l
          refine qq (out := Pr.cpt Rp.str x7) (qIdxA (R := Rp.str) (l := x1) Tryz.underlying33 Tryz.sizeOf9 hx7) ?_
          refine qq (out := Pr.str x7) (qLoadC (R := Rp.str) (a := x7) ty9) ?_
          refine qq (out := Pr.lst Rp.str x2) qMove ?_
          refine qq (out := Pr.i64 x4) qMove ?_
          obtain ⟨x8, hx8, h2l⟩ := bindSome h2l
          refine qq (out := Pr.cpt Rp.str x8) (qIdxA (R := Rp.str) (l := x2) Tryz.underlying33 Tryz.sizeOf9 hx8) ?_
          refine qq (out := Pr.str x8) (qLoadC (R := Rp.str) (a := x8) ty9) ?_
          refine qq (out := Pr.bool (!(x7 == x8))) qStr ?_
          exact ⟨x7, x8, h2l, ⟨⟨Pr.le_rfl, Pr.le_rfl, Pr.le_rfl, Pr.le_rfl, trivial⟩, Pick.refl _⟩⟩
      · replace h2l := iteF hc6 h2l
        refine W_exit ?_
        obtain rfl := ho2 _ (Option.some.inj h2l).symm
        exact ⟨h, ⟨trivial, Pick.refl _⟩⟩
theorem law30_row_ok (x1 : List (List UInt8)) (r : (List ApiSegment)) (h : law30_row x1 = some r) : FnP Tryz.prog 23 [Pr.lst Rp.str x1] (Pr.lst rApiSegment r) := by
  refine fn_intro (n := 25) (rs := [2]) Tryz.func23 rfl Tryz.ntmps23 ⟨by decide, Tryz.results23⟩ (by decide) (fun s0 => ?_)
  unfold law30_row at h
  refine W_rs ?_
  refine rq (out := Pr.is (.slice none 0 0)) qAssign ?_
  refine W_rs ?_
  refine rq (out := Pr.is (.slice none 0 0)) qAssign ?_
  refine W_seq ?_
  refine W_rs ?_
  refine rq (out := Pr.i64 0) qAssign ?_
  refine W_block ?_
  obtain ⟨z2l, hz2, h⟩ := bindSome h
  obtain ⟨n2, hN2⟩ := iter_some hz2
  clear hz2
  refine W_after 0 (fun e C => ∃ (x4 : List ApiSegment), ∃ (v2 : Value), law30_row_k1 x4 = some r ∧ At [(3, Pr.is v2)] [Own.vec v2 rApiSegment x4 38] e C) ?_ ?_
  · rintro e C ⟨x4, v2, h, hat1⟩
    refine W_at hat1 ?_
    clear hat1
    unfold law30_row_k1 at h
    refine W_rs ?_
    refine rq (out := Pr.is v2) qMove ?_
    refine rq (out := Pr.is v2) qAssign ?_
    refine W_rel 0 [2] ?_ rfl ⟨rfl, trivial⟩
    obtain rfl := Option.some.inj h
    exact W_ret ⟨rfl, Pr.le_rfl⟩
  · refine W_nil [3] rApiSegment 38 (fun v14 => ?_) ⟨rfl, trivial⟩
    refine W_loop (fun m e C => ∃ (x3 : Int), ∃ (x4 : List ApiSegment), ∃ (v2 : Value), IterN (fun s => law30_row_l2 x1 s.1 s.2) m (x3, x4) = some z2l ∧ At [(0, Pr.lst Rp.str x1), (3, Pr.is v2), (4, Pr.i64 x3)] [Own.vec v2 rApiSegment x4 38] e C) n2 ⟨0, [], v14, hN2, ⟨⟨Pr.le_rfl, Pr.le_rfl, Pr.le_rfl, trivial⟩, Pick.refl _⟩⟩ ?_
    clear hN2
    rintro m e C ⟨x3, x4, v2, hN2, hatl2⟩
    refine W_at hatl2 ?_
    clear hatl2
    obtain ⟨m2, w2l, rfl, h2l, hn2, ho2⟩ := iterN_some hN2
    clear hN2
    replace h2l : law30_row_l2 x1 x3 x4 = some w2l := h2l
    unfold law30_row_l2 at h2l
    refine W_seq ?_
    refine W_rs ?_
    refine rq (out := Pr.i64 x3) qMove ?_
    refine rq (out := Pr.lst Rp.str x1) qMove ?_
    refine rq (out := Pr.i64 (x1.length : Int)) (qLenL rfl Tryz.underlying33) ?_
    refine rq (out := Pr.bool (decide (x3 < (x1.length : Int)))) qInt ?_
    refine W_cond (b := decide (x3 < (x1.length : Int))) rfl (fun hc8 => ?_) (fun hc8 => ?_)
    · replace h2l := iteT hc8 h2l
      refine W_skip ?_
      refine W_seq ?_
      refine W_block ?_
      refine W_draw 12 hmx (by kernel_rfl) (by kernel_rfl) ?_
      refine qq (out := Pr.is v2) qMove ?_
      refine qq (out := Pr.lst Rp.str x1) qMove ?_
      refine qq (out := Pr.i64 x3) qMove ?_
      obtain ⟨x9, hx9, h2l⟩ := bindSome h2l
      refine qq (out := Pr.cpt Rp.str x9) (qIdxA (R := Rp.str) (l := x1) Tryz.underlying33 Tryz.sizeOf9 hx9) ?_
      refine qq (out := Pr.str x9) (qLoadC (R := Rp.str) (a := x9) ty9) ?_
      refine qq (out := Pr.lst Rp.str x1) qMove ?_
      refine qq (out := Pr.i64 x3) qMove ?_
      obtain ⟨x10, hx10, h2l⟩ := bindSome h2l
      refine qq (out := Pr.cpt Rp.str x10) (qIdxA (R := Rp.str) (l := x1) Tryz.underlying33 Tryz.sizeOf9 hx10) ?_
      refine qq (out := Pr.str x10) (qLoadC (R := Rp.str) (a := x10) ty9) ?_
      obtain ⟨x11, hx11, h2l⟩ := bindSome h2l
      refine qq (out := Pr.str x11) (qCat' hx11) ?_
      refine qq (out := (rApiSegment).val (ApiSegment.mk x9 x11)) (qBuild st38 ⟨(ApiSegment.mk x9 []), ⟨_, rfl, rfl, fun j fd hj hf => by match j, hj with | 0, h => exact absurd rfl h | 1, _ => cases hf; rfl | _ + 2, _ => cases hf⟩, ⟨(ApiSegment.mk x9 x11), ⟨_, rfl, rfl, fun j fd hj hf => by match j, hj with | 0, _ => cases hf; rfl | 1, h => exact absurd rfl h | _ + 2, _ => cases hf⟩, rfl⟩⟩) ?_
      refine qq (out := Pr.lst rApiSegment ([(ApiSegment.mk x9 x11)] : List ApiSegment)) (qBuildSlice1 (R := rApiSegment) (a := (ApiSegment.mk x9 x11)) el22 (Nat.le_of_ble_eq_true rfl)) ?_
      obtain ⟨x12, hx12, h2l⟩ := bindSome h2l
      refine rAppend' 0 el22 hx12 (fun v13 => ?_)
      refine rq (out := Pr.is v13) qAssign ?_
      refine W_r ?_
      refine rq (out := Pr.i64 x3) qMove ?_
      refine rq (out := Pr.i64 (w64 (x3 + 1))) qInt ?_
      refine rq (out := Pr.i64 (w64 (x3 + 1))) qAssign ?_
      exact ⟨m2, Nat.lt_succ_self _, w64 (x3 + 1), x12, v13, hn2 _ (Option.some.inj h2l).symm, ⟨⟨Pr.le_rfl, Pr.le_rfl, Pr.le_rfl, trivial⟩, Pick.refl _⟩⟩
    · replace h2l := iteF hc8 h2l
      refine W_exit ?_
      obtain rfl := ho2 _ (Option.some.inj h2l).symm
      exact ⟨x4, v2, h, ⟨⟨Pr.le_rfl, trivial⟩, Pick.refl _⟩⟩
theorem law30_awake_ok (r : Bool) (h : law30_awake = some r) : FnP Tryz.prog 8 [] (Pr.bool r) := by
  refine fn_intro (n := 88) (rs := [0]) Tryz.func8 rfl Tryz.ntmps8 ⟨by decide, Tryz.results8⟩ (by decide) (fun s0 => ?_)
  unfold law30_awake at h
  refine W_rs ?_
  refine rq (out := Pr.bool false) qAssign ?_
  refine W_rs ?_
  refine rq (out := Pr.lst Rp.str ([([102] : List UInt8), ([103] : List UInt8)] : List (List UInt8))) (qBuildSlice (R := Rp.str) (ls := ([([102] : List UInt8), ([103] : List UInt8)] : List (List UInt8))) el33 (Nat.le_of_ble_eq_true rfl) ⟨rfl, rfl⟩ ⟨rfl, rfl, trivial⟩) ?_
  refine rq (out := Pr.lst Rp.str ([([102] : List UInt8), ([104] : List UInt8), ([103] : List UInt8)] : List (List UInt8))) (qBuildSlice (R := Rp.str) (ls := ([([102] : List UInt8), ([104] : List UInt8), ([103] : List UInt8)] : List (List UInt8))) el33 (Nat.le_of_ble_eq_true rfl) ⟨rfl, rfl⟩ ⟨rfl, rfl, rfl, trivial⟩) ?_
  refine rq (out := Pr.lst Rp.str ([([103] : List UInt8)] : List (List UInt8))) (qBuildSlice1 (R := Rp.str) (a := ([103] : List UInt8)) el33 (Nat.le_of_ble_eq_true rfl)) ?_
  obtain ⟨⟨x1, x2⟩, hx1, h⟩ := bindSome h
  refine rq (out := Pr.tup [Pr.lst Rp.str x1, Pr.bool x2]) (qCall (cells_Order_ok ([([102] : List UInt8), ([103] : List UInt8)] : List (List UInt8)) ([([102] : List UInt8), ([104] : List UInt8), ([103] : List UInt8)] : List (List UInt8)) ([([103] : List UInt8)] : List (List UInt8)) _ hx1)) ?_
  refine rq (out := Pr.tup [Pr.lst Rp.str x1, Pr.bool x2]) qMove ?_
  refine rq (out := Pr.lst Rp.str x1) qExtract ?_
  refine rq (out := Pr.bool x2) qExtract ?_
  refine rq (out := Pr.lst Rp.str x1) qAssign ?_
  refine rq (out := Pr.bool x2) qAssign ?_
  refine W_rs ?_
  refine rq (out := Pr.lst Rp.str ([([102] : List UInt8), ([103] : List UInt8)] : List (List UInt8))) (qBuildSlice (R := Rp.str) (ls := ([([102] : List UInt8), ([103] : List UInt8)] : List (List UInt8))) el33 (Nat.le_of_ble_eq_true rfl) ⟨rfl, rfl⟩ ⟨rfl, rfl, trivial⟩) ?_
  obtain ⟨x3, hx3, h⟩ := bindSome h
  refine rq (out := Pr.lst rApiSegment x3) (qCall (law30_row_ok ([([102] : List UInt8), ([103] : List UInt8)] : List (List UInt8)) _ hx3)) ?_
  refine rq (out := Pr.lst Rp.str ([([102] : List UInt8), ([104] : List UInt8), ([103] : List UInt8)] : List (List UInt8))) (qBuildSlice (R := Rp.str) (ls := ([([102] : List UInt8), ([104] : List UInt8), ([103] : List UInt8)] : List (List UInt8))) el33 (Nat.le_of_ble_eq_true rfl) ⟨rfl, rfl⟩ ⟨rfl, rfl, rfl, trivial⟩) ?_
  obtain ⟨x4, hx4, h⟩ := bindSome h
  refine rq (out := Pr.lst rApiSegment x4) (qCall (law30_row_ok ([([102] : List UInt8), ([104] : List UInt8), ([103] : List UInt8)] : List (List UInt8)) _ hx4)) ?_
  refine rq (out := Pr.lst Rp.str ([([103] : List UInt8)] : List (List UInt8))) (qBuildSlice1 (R := Rp.str) (a := ([103] : List UInt8)) el33 (Nat.le_of_ble_eq_true rfl)) ?_
  obtain ⟨x5, hx5, h⟩ := bindSome h
  refine rq (out := Pr.lst rApiSegment x5) (qCall (law30_row_ok ([([103] : List UInt8)] : List (List UInt8)) _ hx5)) ?_
  obtain ⟨⟨x6, x7⟩, hx6, h⟩ := bindSome h
  refine rq (out := Pr.tup [Pr.lst rApiSegment x6, Pr.lst rApiConflict x7]) (qCall (cells_Row_ok x3 x4 x5 _ hx6)) ?_
  refine rq (out := Pr.tup [Pr.lst rApiSegment x6, Pr.lst rApiConflict x7]) qMove ?_
  refine rq (out := Pr.lst rApiSegment x6) qExtract ?_
  refine rq (out := Pr.lst rApiConflict x7) qExtract ?_
  refine rq (out := Pr.lst rApiSegment x6) qAssign ?_
  refine rq (out := Pr.lst rApiConflict x7) qAssign ?_
  refine W_rs ?_
  refine rq (out := Pr.lst Rp.str ([([102] : List UInt8)] : List (List UInt8))) (qBuildSlice1 (R := Rp.str) (a := ([102] : List UInt8)) el33 (Nat.le_of_ble_eq_true rfl)) ?_
  obtain ⟨x8, hx8, h⟩ := bindSome h
  refine rq (out := Pr.lst rApiSegment x8) (qCall (law30_row_ok ([([102] : List UInt8)] : List (List UInt8)) _ hx8)) ?_
  refine rq (out := Pr.lst Rp.str ([([102] : List UInt8)] : List (List UInt8))) (qBuildSlice1 (R := Rp.str) (a := ([102] : List UInt8)) el33 (Nat.le_of_ble_eq_true rfl)) ?_
  obtain ⟨x9, hx9, h⟩ := bindSome h
  refine rq (out := Pr.lst rApiSegment x9) (qCall (law30_row_ok ([([102] : List UInt8)] : List (List UInt8)) _ hx9)) ?_
  obtain ⟨⟨x10, x11⟩, hx10, h⟩ := bindSome h
  refine rCallC' [] (cells_Texts_ok x8 x9 [] _ hx10) ⟨Pr.le_rfl, Pr.le_rfl, Pr.lst_nil _, trivial⟩ (fun q C' hq => ?_)
  obtain ⟨v12, rfl, rfl⟩ := hq
  refine rq (out := Pr.tup [Pr.lst rApiSegment x10, Pr.is v12]) qMove ?_
  refine rq (out := Pr.lst rApiSegment x10) qExtract ?_
  refine rq (out := Pr.is v12) qExtract ?_
  refine rq (out := Pr.lst rApiSegment x10) qAssign ?_
  refine rq (out := Pr.is v12) qAssign ?_
  refine W_rs ?_
  refine rq (out := (rApiSegment).val (ApiSegment.mk [] ([97] : List UInt8))) (qBuild st38 ⟨(ApiSegment.mk [] ([97] : List UInt8)), ⟨_, rfl, rfl, fun j fd hj hf => by match j, hj with | 0, _ => cases hf; rfl | 1, h => exact absurd rfl h | _ + 2, _ => cases hf⟩, rfl⟩) ?_
  refine rq (out := (rApiSegment).val (ApiSegment.mk [] ([97] : List UInt8))) (qBuild st38 ⟨(ApiSegment.mk [] ([97] : List UInt8)), ⟨_, rfl, rfl, fun j fd hj hf => by match j, hj with | 0, _ => cases hf; rfl | 1, h => exact absurd rfl h | _ + 2, _ => cases hf⟩, rfl⟩) ?_
  refine rq (out := (rApiSegment).val (ApiSegment.mk [] ([98] : List UInt8))) (qBuild st38 ⟨(ApiSegment.mk [] ([98] : List UInt8)), ⟨_, rfl, rfl, fun j fd hj hf => by match j, hj with | 0, _ => cases hf; rfl | 1, h => exact absurd rfl h | _ + 2, _ => cases hf⟩, rfl⟩) ?_
  refine rq (out := (Rp.arr 3 Rp.bool).val ([true, true, true] : List Bool)) (qBuildA (R := Rp.bool) (ls := ([true, true, true] : List Bool)) Tryz.underlying32 Tryz.zeroValue32 rfl Tryz.sizeOf4 (by decide) ⟨rfl, rfl⟩ ⟨rfl, rfl, rfl, trivial⟩) ?_
  obtain ⟨⟨x13, x14, x15⟩, hx13, h⟩ := bindSome h
  refine rq (out := Pr.tup [Pr.str x13, Pr.bool x14, Pr.i64 x15]) (qCall (cells_Three_ok (ApiSegment.mk [] ([97] : List UInt8)) (ApiSegment.mk [] ([97] : List UInt8)) (ApiSegment.mk [] ([98] : List UInt8)) ([true, true, true] : List Bool) _ hx13)) ?_
  refine rq (out := Pr.tup [Pr.str x13, Pr.bool x14, Pr.i64 x15]) qMove ?_
  refine rq (out := Pr.str x13) qExtract ?_
  refine rq (out := Pr.bool x14) qExtract ?_
  refine rq (out := Pr.i64 x15) qExtract ?_
  refine rq (out := Pr.str x13) qAssign ?_
  refine rq (out := Pr.bool x14) qAssign ?_
  refine rq (out := Pr.i64 x15) qAssign ?_
  refine W_join (fun e C => ∃ (x532 : Bool), law30_awake_j1 x532 = some r ∧ At [(0, Pr.bool x532)] [] e C) ?_ ?_
  · rintro e C ⟨x532, h, hat1⟩
    refine W_at hat1 ?_
    clear hat1
    unfold law30_awake_j1 at h
    obtain rfl := Option.some.inj h
    exact W_ret ⟨rfl, Pr.le_rfl⟩
  · refine W_r ?_
    refine rq (out := Pr.bool x2) qMove ?_
    refine rq (out := Pr.bool x2) qMove ?_
    rcases iteSome h with ⟨hc16, h⟩ | ⟨hc16, h⟩
    · refine rqg hc16 (out := Pr.lst Rp.str x1) qMove ?_
      refine rqg hc16 (out := Pr.lst Rp.str ([([104] : List UInt8), ([103] : List UInt8)] : List (List UInt8))) (qBuildSlice (R := Rp.str) (ls := ([([104] : List UInt8), ([103] : List UInt8)] : List (List UInt8))) el33 (Nat.le_of_ble_eq_true rfl) ⟨rfl, rfl⟩ ⟨rfl, rfl, trivial⟩) ?_
      obtain ⟨x17, hx17, h⟩ := bindSome h
      refine rqg hc16 (out := Pr.bool x17) (qCall (ref01_Same_ok x1 ([([104] : List UInt8), ([103] : List UInt8)] : List (List UInt8)) _ hx17)) ?_
      refine rq (out := Pr.bool x17) (qPickT hc16) ?_
      refine rq (out := Pr.bool x17) qMove ?_
      rcases iteSome h with ⟨hc18, h⟩ | ⟨hc18, h⟩
      · refine rqg hc18 (out := Pr.lst rApiSegment x6) qMove ?_
        refine rqg hc18 (out := Pr.i64 (x6.length : Int)) (qLenL rfl Tryz.underlying22) ?_
        refine rqg hc18 (out := Pr.bool ((x6.length : Int) == 2)) qInt ?_
        refine rq (out := Pr.bool ((x6.length : Int) == 2)) (qPickT hc18) ?_
        refine rq (out := Pr.bool ((x6.length : Int) == 2)) qMove ?_
        rcases iteSome h with ⟨hc19, h⟩ | ⟨hc19, h⟩
        · refine rqg hc19 (out := Pr.lst rApiSegment x6) qMove ?_
          obtain ⟨x20, hx20, h⟩ := bindSome h
          refine rqg hc19 (out := Pr.cpt rApiSegment x20) (qIdxA (R := rApiSegment) (l := x6) Tryz.underlying22 Tryz.sizeOf38 hx20) ?_
          refine rqg hc19 (out := Pr.cpt Rp.str x20.Key) (qFieldC (R := rApiSegment) (a := x20) fld38_0 subApiSegment_Key) ?_
          refine rqg hc19 (out := Pr.str x20.Key) (qLoadC (R := Rp.str) (a := x20.Key) ty9) ?_
          refine rqg hc19 (out := Pr.bool (x20.Key == ([104] : List UInt8))) qStr ?_
          refine rq (out := Pr.bool (x20.Key == ([104] : List UInt8))) (qPickT hc19) ?_
          refine rq (out := Pr.bool (x20.Key == ([104] : List UInt8))) qMove ?_
          rcases iteSome h with ⟨hc21, h⟩ | ⟨hc21, h⟩
          · refine rqg hc21 (out := Pr.lst rApiConflict x7) qMove ?_
            refine rqg hc21 (out := Pr.i64 (x7.length : Int)) (qLenL rfl Tryz.underlying25) ?_
            refine rqg hc21 (out := Pr.bool ((x7.length : Int) == 0)) qInt ?_
            refine rq (out := Pr.bool ((x7.length : Int) == 0)) (qPickT hc21) ?_
            refine rq (out := Pr.bool ((x7.length : Int) == 0)) qMove ?_
            rcases iteSome h with ⟨hc22, h⟩ | ⟨hc22, h⟩
            · refine rqg hc22 (out := Pr.lst rApiSegment x10) qMove ?_
              refine rqg hc22 (out := Pr.i64 (x10.length : Int)) (qLenL rfl Tryz.underlying22) ?_
              refine rqg hc22 (out := Pr.bool ((x10.length : Int) == 0)) qInt ?_
              refine rq (out := Pr.bool ((x10.length : Int) == 0)) (qPickT hc22) ?_
              refine rq (out := Pr.bool ((x10.length : Int) == 0)) qMove ?_
              rcases iteSome h with ⟨hc23, h⟩ | ⟨hc23, h⟩
              · refine rqg hc23 (out := Pr.is v12) qMove ?_
                refine rqg hc23 (out := Pr.i64 (x11.length : Int)) (qLenV 0 rfl Tryz.underlying25) ?_
                refine rqg hc23 (out := Pr.bool ((x11.length : Int) == 0)) qInt ?_
                refine rq (out := Pr.bool ((x11.length : Int) == 0)) (qPickT hc23) ?_
                refine rq (out := Pr.bool ((x11.length : Int) == 0)) qMove ?_
                rcases iteSome h with ⟨hc24, h⟩ | ⟨hc24, h⟩
                · refine rqg hc24 (out := Pr.str x13) qMove ?_
                  refine rqg hc24 (out := Pr.bool (x13 == ([98] : List UInt8))) qStr ?_
                  refine rq (out := Pr.bool (x13 == ([98] : List UInt8))) (qPickT hc24) ?_
                  refine rq (out := Pr.bool (x13 == ([98] : List UInt8))) qMove ?_
                  rcases iteSome h with ⟨hc25, h⟩ | ⟨hc25, h⟩
                  · refine rqg hc25 (out := Pr.bool x14) qMove ?_
                    refine rq (out := Pr.bool x14) (qPickT hc25) ?_
                    refine rq (out := Pr.bool x14) qMove ?_
                    rcases iteSome h with ⟨hc26, h⟩ | ⟨hc26, h⟩
                    · refine rqg hc26 (out := Pr.i64 x15) qMove ?_
                      refine rqg hc26 (out := Pr.bool (x15 == 0)) qInt ?_
                      refine rq (out := Pr.bool (x15 == 0)) (qPickT hc26) ?_
                      refine rq (out := Pr.bool (x15 == 0)) qAssign ?_
                      exact ⟨x15 == 0, h, ⟨⟨Pr.le_rfl, trivial⟩, Pick.of [] rfl⟩⟩
                    · refine rno (neT hc26) ?_
                      refine rno (neT hc26) ?_
                      refine rq (out := Pr.bool false) (qPickF hc26) ?_
                      refine rq (out := Pr.bool false) qAssign ?_
                      exact ⟨false, h, ⟨⟨Pr.le_rfl, trivial⟩, Pick.of [] rfl⟩⟩
                  · refine rno (neT hc25) ?_
                    refine rq (out := Pr.bool false) (qPickF hc25) ?_
                    refine rq (out := Pr.bool false) qMove ?_
                    have hc27 : false = false := rfl
                    refine rno (neT hc27) ?_
                    refine rno (neT hc27) ?_
                    refine rq (out := Pr.bool false) (qPickF hc27) ?_
                    refine rq (out := Pr.bool false) qAssign ?_
                    exact ⟨false, h, ⟨⟨Pr.le_rfl, trivial⟩, Pick.of [] rfl⟩⟩
                · refine rno (neT hc24) ?_
                  refine rno (neT hc24) ?_
                  refine rq (out := Pr.bool false) (qPickF hc24) ?_
                  refine rq (out := Pr.bool false) qMove ?_
                  have hc28 : false = false := rfl
                  refine rno (neT hc28) ?_
                  refine rq (out := Pr.bool false) (qPickF hc28) ?_
                  refine rq (out := Pr.bool false) qMove ?_
                  have hc30 : false = false := rfl
                  refine rno (neT hc30) ?_
                  refine rno (neT hc30) ?_
                  refine rq (out := Pr.bool false) (qPickF hc30) ?_
                  refine rq (out := Pr.bool false) qAssign ?_
                  exact ⟨false, h, ⟨⟨Pr.le_rfl, trivial⟩, Pick.of [] rfl⟩⟩
              · refine rno (neT hc23) ?_
                refine rno (neT hc23) ?_
                refine rno (neT hc23) ?_
                refine rq (out := Pr.bool false) (qPickF hc23) ?_
                refine rq (out := Pr.bool false) qMove ?_
                have hc31 : false = false := rfl
                refine rno (neT hc31) ?_
                refine rno (neT hc31) ?_
                refine rq (out := Pr.bool false) (qPickF hc31) ?_
                refine rq (out := Pr.bool false) qMove ?_
                have hc35 : false = false := rfl
                refine rno (neT hc35) ?_
                refine rq (out := Pr.bool false) (qPickF hc35) ?_
                refine rq (out := Pr.bool false) qMove ?_
                have hc37 : false = false := rfl
                refine rno (neT hc37) ?_
                refine rno (neT hc37) ?_
                refine rq (out := Pr.bool false) (qPickF hc37) ?_
                refine rq (out := Pr.bool false) qAssign ?_
                exact ⟨false, h, ⟨⟨Pr.le_rfl, trivial⟩, Pick.of [] rfl⟩⟩
            · refine rno (neT hc22) ?_
              refine rno (neT hc22) ?_
              refine rno (neT hc22) ?_
              refine rq (out := Pr.bool false) (qPickF hc22) ?_
              refine rq (out := Pr.bool false) qMove ?_
              have hc38 : false = false := rfl
              refine rno (neT hc38) ?_
              refine rno (neT hc38) ?_
              refine rno (neT hc38) ?_
              refine rq (out := Pr.bool false) (qPickF hc38) ?_
              refine rq (out := Pr.bool false) qMove ?_
              have hc46 : false = false := rfl
              refine rno (neT hc46) ?_
              refine rno (neT hc46) ?_
              refine rq (out := Pr.bool false) (qPickF hc46) ?_
              refine rq (out := Pr.bool false) qMove ?_
              have hc50 : false = false := rfl
              refine rno (neT hc50) ?_
              refine rq (out := Pr.bool false) (qPickF hc50) ?_
              refine rq (out := Pr.bool false) qMove ?_
              have hc52 : false = false := rfl
              refine rno (neT hc52) ?_
              refine rno (neT hc52) ?_
              refine rq (out := Pr.bool false) (qPickF hc52) ?_
              refine rq (out := Pr.bool false) qAssign ?_
              exact ⟨false, h, ⟨⟨Pr.le_rfl, trivial⟩, Pick.of [] rfl⟩⟩
          · refine rno (neT hc21) ?_
            refine rno (neT hc21) ?_
            refine rno (neT hc21) ?_
            refine rq (out := Pr.bool false) (qPickF hc21) ?_
            refine rq (out := Pr.bool false) qMove ?_
            have hc53 : false = false := rfl
            refine rno (neT hc53) ?_
            refine rno (neT hc53) ?_
            refine rno (neT hc53) ?_
            refine rq (out := Pr.bool false) (qPickF hc53) ?_
            refine rq (out := Pr.bool false) qMove ?_
            have hc69 : false = false := rfl
            refine rno (neT hc69) ?_
            refine rno (neT hc69) ?_
            refine rno (neT hc69) ?_
            refine rq (out := Pr.bool false) (qPickF hc69) ?_
            refine rq (out := Pr.bool false) qMove ?_
            have hc77 : false = false := rfl
            refine rno (neT hc77) ?_
            refine rno (neT hc77) ?_
            refine rq (out := Pr.bool false) (qPickF hc77) ?_
            refine rq (out := Pr.bool false) qMove ?_
            have hc81 : false = false := rfl
            refine rno (neT hc81) ?_
            refine rq (out := Pr.bool false) (qPickF hc81) ?_
            refine rq (out := Pr.bool false) qMove ?_
            have hc83 : false = false := rfl
            refine rno (neT hc83) ?_
            refine rno (neT hc83) ?_
            refine rq (out := Pr.bool false) (qPickF hc83) ?_
            refine rq (out := Pr.bool false) qAssign ?_
            exact ⟨false, h, ⟨⟨Pr.le_rfl, trivial⟩, Pick.of [] rfl⟩⟩
        · refine rno (neT hc19) ?_
          refine rno (neT hc19) ?_
          refine rno (neT hc19) ?_
          refine rno (neT hc19) ?_
          refine rno (neT hc19) ?_
          refine rq (out := Pr.bool false) (qPickF hc19) ?_
          refine rq (out := Pr.bool false) qMove ?_
          have hc84 : false = false := rfl
          refine rno (neT hc84) ?_
          refine rno (neT hc84) ?_
          refine rno (neT hc84) ?_
          refine rq (out := Pr.bool false) (qPickF hc84) ?_
          refine rq (out := Pr.bool false) qMove ?_
          have hc116 : false = false := rfl
          refine rno (neT hc116) ?_
          refine rno (neT hc116) ?_
          refine rno (neT hc116) ?_
          refine rq (out := Pr.bool false) (qPickF hc116) ?_
          refine rq (out := Pr.bool false) qMove ?_
          have hc132 : false = false := rfl
          refine rno (neT hc132) ?_
          refine rno (neT hc132) ?_
          refine rno (neT hc132) ?_
          refine rq (out := Pr.bool false) (qPickF hc132) ?_
          refine rq (out := Pr.bool false) qMove ?_
          have hc140 : false = false := rfl
          refine rno (neT hc140) ?_
          refine rno (neT hc140) ?_
          refine rq (out := Pr.bool false) (qPickF hc140) ?_
          refine rq (out := Pr.bool false) qMove ?_
          have hc144 : false = false := rfl
          refine rno (neT hc144) ?_
          refine rq (out := Pr.bool false) (qPickF hc144) ?_
          refine rq (out := Pr.bool false) qMove ?_
          have hc146 : false = false := rfl
          refine rno (neT hc146) ?_
          refine rno (neT hc146) ?_
          refine rq (out := Pr.bool false) (qPickF hc146) ?_
          refine rq (out := Pr.bool false) qAssign ?_
          exact ⟨false, h, ⟨⟨Pr.le_rfl, trivial⟩, Pick.of [] rfl⟩⟩
      · refine rno (neT hc18) ?_
        refine rno (neT hc18) ?_
        refine rno (neT hc18) ?_
        refine rq (out := Pr.bool false) (qPickF hc18) ?_
        refine rq (out := Pr.bool false) qMove ?_
        have hc147 : false = false := rfl
        refine rno (neT hc147) ?_
        refine rno (neT hc147) ?_
        refine rno (neT hc147) ?_
        refine rno (neT hc147) ?_
        refine rno (neT hc147) ?_
        refine rq (out := Pr.bool false) (qPickF hc147) ?_
        refine rq (out := Pr.bool false) qMove ?_
        have hc212 : false = false := rfl
        refine rno (neT hc212) ?_
        refine rno (neT hc212) ?_
        refine rno (neT hc212) ?_
        refine rq (out := Pr.bool false) (qPickF hc212) ?_
        refine rq (out := Pr.bool false) qMove ?_
        have hc244 : false = false := rfl
        refine rno (neT hc244) ?_
        refine rno (neT hc244) ?_
        refine rno (neT hc244) ?_
        refine rq (out := Pr.bool false) (qPickF hc244) ?_
        refine rq (out := Pr.bool false) qMove ?_
        have hc260 : false = false := rfl
        refine rno (neT hc260) ?_
        refine rno (neT hc260) ?_
        refine rno (neT hc260) ?_
        refine rq (out := Pr.bool false) (qPickF hc260) ?_
        refine rq (out := Pr.bool false) qMove ?_
        have hc268 : false = false := rfl
        refine rno (neT hc268) ?_
        refine rno (neT hc268) ?_
        refine rq (out := Pr.bool false) (qPickF hc268) ?_
        refine rq (out := Pr.bool false) qMove ?_
        have hc272 : false = false := rfl
        refine rno (neT hc272) ?_
        refine rq (out := Pr.bool false) (qPickF hc272) ?_
        refine rq (out := Pr.bool false) qMove ?_
        have hc274 : false = false := rfl
        refine rno (neT hc274) ?_
        refine rno (neT hc274) ?_
        refine rq (out := Pr.bool false) (qPickF hc274) ?_
        refine rq (out := Pr.bool false) qAssign ?_
        exact ⟨false, h, ⟨⟨Pr.le_rfl, trivial⟩, Pick.of [] rfl⟩⟩
    · refine rno (neT hc16) ?_
      refine rno (neT hc16) ?_
      refine rno (neT hc16) ?_
      refine rq (out := Pr.bool false) (qPickF hc16) ?_
      refine rq (out := Pr.bool false) qMove ?_
      have hc275 : false = false := rfl
      refine rno (neT hc275) ?_
      refine rno (neT hc275) ?_
      refine rno (neT hc275) ?_
      refine rq (out := Pr.bool false) (qPickF hc275) ?_
      refine rq (out := Pr.bool false) qMove ?_
      have hc404 : false = false := rfl
      refine rno (neT hc404) ?_
      refine rno (neT hc404) ?_
      refine rno (neT hc404) ?_
      refine rno (neT hc404) ?_
      refine rno (neT hc404) ?_
      refine rq (out := Pr.bool false) (qPickF hc404) ?_
      refine rq (out := Pr.bool false) qMove ?_
      have hc469 : false = false := rfl
      refine rno (neT hc469) ?_
      refine rno (neT hc469) ?_
      refine rno (neT hc469) ?_
      refine rq (out := Pr.bool false) (qPickF hc469) ?_
      refine rq (out := Pr.bool false) qMove ?_
      have hc501 : false = false := rfl
      refine rno (neT hc501) ?_
      refine rno (neT hc501) ?_
      refine rno (neT hc501) ?_
      refine rq (out := Pr.bool false) (qPickF hc501) ?_
      refine rq (out := Pr.bool false) qMove ?_
      have hc517 : false = false := rfl
      refine rno (neT hc517) ?_
      refine rno (neT hc517) ?_
      refine rno (neT hc517) ?_
      refine rq (out := Pr.bool false) (qPickF hc517) ?_
      refine rq (out := Pr.bool false) qMove ?_
      have hc525 : false = false := rfl
      refine rno (neT hc525) ?_
      refine rno (neT hc525) ?_
      refine rq (out := Pr.bool false) (qPickF hc525) ?_
      refine rq (out := Pr.bool false) qMove ?_
      have hc529 : false = false := rfl
      refine rno (neT hc529) ?_
      refine rq (out := Pr.bool false) (qPickF hc529) ?_
      refine rq (out := Pr.bool false) qMove ?_
      have hc531 : false = false := rfl
      refine rno (neT hc531) ?_
      refine rno (neT hc531) ?_
      refine rq (out := Pr.bool false) (qPickF hc531) ?_
      refine rq (out := Pr.bool false) qAssign ?_
      exact ⟨false, h, ⟨⟨Pr.le_rfl, trivial⟩, Pick.of [] rfl⟩⟩
theorem law30_few_ok (x1 : List ApiSegment) (r : Bool) (h : law30_few x1 = some r) : FnP Tryz.prog 9 [Pr.lst rApiSegment x1] (Pr.bool r) := by
  refine fn_intro (n := 29) (rs := [2]) Tryz.func9 rfl Tryz.ntmps9 ⟨by decide, Tryz.results9⟩ (by decide) (fun s0 => ?_)
  unfold law30_few at h
  refine W_rs ?_
  refine rq (out := Pr.bool false) qAssign ?_
  refine W_seq ?_
  refine W_rs ?_
  refine rq (out := Pr.lst rApiSegment x1) qMove ?_
  refine rq (out := Pr.i64 (x1.length : Int)) (qLenL rfl Tryz.underlying22) ?_
  refine rq (out := Pr.bool (decide ((x1.length : Int) > 20))) qInt ?_
  refine W_cond (b := decide ((x1.length : Int) > 20)) rfl (fun hc2 => ?_) (fun hc2 => ?_)
  · replace h := iteT hc2 h
    refine W_rs ?_
    refine rq (out := Pr.bool false) qAssign ?_
    obtain rfl := Option.some.inj h
    exact W_ret ⟨rfl, Pr.le_rfl⟩
  · replace h := iteF hc2 h
    refine W_skip ?_
    refine W_seq ?_
    refine W_rs ?_
    refine rq (out := Pr.i64 0) qAssign ?_
    refine W_block ?_
    obtain ⟨z2l, hz2, h⟩ := bindSome h
    obtain ⟨n2, hN2⟩ := iter_some hz2
    clear hz2
    refine W_after 0 (fun e C => law30_few_k1 = some r ∧ At [] [] e C) ?_ ?_
    · rintro e C ⟨h, hat1⟩
      refine W_at hat1 ?_
      clear hat1
      unfold law30_few_k1 at h
      refine W_rs ?_
      refine rq (out := Pr.bool true) qAssign ?_
      obtain rfl := Option.some.inj h
      exact W_ret ⟨rfl, Pr.le_rfl⟩
    · refine W_loop (fun m e C => ∃ (x3 : Int), IterN (fun s => law30_few_l2 x1 s) m x3 = some z2l ∧ At [(0, Pr.lst rApiSegment x1), (3, Pr.i64 x3)] [] e C) n2 ⟨0, hN2, ⟨⟨Pr.le_rfl, Pr.le_rfl, trivial⟩, Pick.refl _⟩⟩ ?_
      clear hN2
      rintro m e C ⟨x3, hN2, hatl2⟩
      refine W_at hatl2 ?_
      clear hatl2
      obtain ⟨m2, w2l, rfl, h2l, hn2, ho2⟩ := iterN_some hN2
      clear hN2
      replace h2l : law30_few_l2 x1 x3 = some w2l := h2l
      unfold law30_few_l2 at h2l
      refine W_seq ?_
      refine W_rs ?_
      refine rq (out := Pr.i64 x3) qMove ?_
      refine rq (out := Pr.lst rApiSegment x1) qMove ?_
      refine rq (out := Pr.i64 (x1.length : Int)) (qLenL rfl Tryz.underlying22) ?_
      refine rq (out := Pr.bool (decide (x3 < (x1.length : Int)))) qInt ?_
      refine W_cond (b := decide (x3 < (x1.length : Int))) rfl (fun hc5 => ?_) (fun hc5 => ?_)
      · replace h2l := iteT hc5 h2l
        refine W_skip ?_
        refine W_seq ?_
        refine W_block ?_
        refine W_join (fun e C => ∃ (x9 : Bool), law30_few_j3 x3 x9 = some w2l ∧ At [(0, Pr.lst rApiSegment x1), (3, Pr.i64 x3), (28, Pr.bool x9)] [] e C) ?_ ?_
        · rintro e C ⟨x9, h2l, hat3⟩
          refine W_at hat3 ?_
          clear hat3
          unfold law30_few_j3 at h2l
          refine W_cond (b := x9) rfl (fun hc10 => ?_) (fun hc10 => ?_)
          · replace h2l := iteT hc10 h2l
            refine W_rs ?_
            refine rq (out := Pr.bool false) qAssign ?_
            obtain rfl := ho2 _ (Option.some.inj h2l).symm
            replace h : some false = some r := h
            obtain rfl := Option.some.inj h
            exact W_ret ⟨rfl, Pr.le_rfl⟩
          · replace h2l := iteF hc10 h2l
            refine W_skip ?_
            refine W_r ?_
            refine rq (out := Pr.i64 x3) qMove ?_
            refine rq (out := Pr.i64 (w64 (x3 + 1))) qInt ?_
            refine rq (out := Pr.i64 (w64 (x3 + 1))) qAssign ?_
            exact ⟨m2, Nat.lt_succ_self _, w64 (x3 + 1), hn2 _ (Option.some.inj h2l).symm, ⟨⟨Pr.le_rfl, Pr.le_rfl, trivial⟩, Pick.refl _⟩⟩
        · refine W_r ?_
          refine rq (out := Pr.lst rApiSegment x1) qMove ?_
          refine rq (out := Pr.i64 x3) qMove ?_
          obtain ⟨x6, hx6, h2l⟩ := bindSome h2l
          refine rq (out := Pr.cpt rApiSegment x6) (qIdxA (R := rApiSegment) (l := x1) Tryz.underlying22 Tryz.sizeOf38 hx6) ?_
          refine rq (out := Pr.cpt Rp.str x6.Text) (qFieldC (R := rApiSegment) (a := x6) fld38_1 subApiSegment_Text) ?_
          refine rq (out := Pr.str x6.Text) (qLoadC (R := Rp.str) (a := x6.Text) ty9) ?_
          refine rq (out := Pr.i64 (x6.Text.length : Int)) (qLenS rfl Tryz.underlying9) ?_
          refine rq (out := Pr.bool (decide ((x6.Text.length : Int) > 120))) qInt ?_
          refine rq (out := Pr.bool (decide ((x6.Text.length : Int) > 120))) qMove ?_
          rcases iteSome h2l with ⟨hc7, h2l⟩ | ⟨hc7, h2l⟩
          · refine rno (neF hc7) ?_
            refine rno (neF hc7) ?_
            refine rno (neF hc7) ?_
            refine rno (neF hc7) ?_
            refine rno (neF hc7) ?_
            refine rno (neF hc7) ?_
            refine rno (neF hc7) ?_
            refine rq (out := Pr.bool true) (qPickT hc7) ?_
            exact ⟨true, h2l, ⟨⟨Pr.le_rfl, Pr.le_rfl, Pr.le_rfl, trivial⟩, Pick.refl _⟩⟩
          · refine rqg hc7 (out := Pr.lst rApiSegment x1) qMove ?_
            refine rqg hc7 (out := Pr.i64 x3) qMove ?_
            obtain ⟨x8, hx8, h2l⟩ := bindSome h2l
            refine rqg hc7 (out := Pr.cpt rApiSegment x8) (qIdxA (R := rApiSegment) (l := x1) Tryz.underlying22 Tryz.sizeOf38 hx8) ?_
            refine rqg hc7 (out := Pr.cpt Rp.str x8.Key) (qFieldC (R := rApiSegment) (a := x8) fld38_0 subApiSegment_Key) ?_
            refine rqg hc7 (out := Pr.str x8.Key) (qLoadC (R := Rp.str) (a := x8.Key) ty9) ?_
            refine rqg hc7 (out := Pr.i64 (x8.Key.length : Int)) (qLenS rfl Tryz.underlying9) ?_
            refine rqg hc7 (out := Pr.bool (decide ((x8.Key.length : Int) > 60))) qInt ?_
            refine rq (out := Pr.bool (decide ((x8.Key.length : Int) > 60))) (qPickF hc7) ?_
            exact ⟨decide ((x8.Key.length : Int) > 60), h2l, ⟨⟨Pr.le_rfl, Pr.le_rfl, Pr.le_rfl, trivial⟩, Pick.refl _⟩⟩
      · replace h2l := iteF hc5 h2l
        refine W_exit ?_
        obtain rfl := ho2 _ (Option.some.inj h2l).symm
        exact ⟨h, ⟨trivial, Pick.refl _⟩⟩
end Go.Proofs.YtphkaogfinjbjaaGreatDoor
