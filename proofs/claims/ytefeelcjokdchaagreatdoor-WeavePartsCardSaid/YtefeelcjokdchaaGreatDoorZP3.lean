/- The code comes to what these functions say (printed by wip/gen/gen.py). -/
import Derived.Test.YtefeelcjokdchaaGreatDoorZP2
import Derived.Test.YtefeelcjokdchaaGreatDoorZT
set_option linter.unusedSimpArgs false
set_option linter.unusedVariables false
set_option linter.unusedSectionVars false
/- The code comes to what these functions say (printed by wip/gen/gen.py). -/
set_option linter.unusedSectionVars false
set_option maxRecDepth 100000
set_option maxHeartbeats 4000000
namespace Go.Proofs.YtefeelcjokdchaaGreatDoor
open Go Go.Cn
variable [Known]
theorem ref08_parts_ok (x1 : List (List UInt8)) (x2 : List (List UInt8)) (x3 : List (List UInt8)) (r : (List ApiPart)) (h : ref08_parts x1 x2 x3 = some r) : FnP Tryz.prog 20 [Pr.lst Rp.str x1, Pr.lst Rp.str x2, Pr.lst Rp.str x3] (Pr.lst rApiPart r) := by
  refine fn_intro (n := 133) (rs := [6]) Tryz.func20 rfl Tryz.ntmps20 ⟨by decide, Tryz.results20⟩ (by decide) (fun s0 => ?_)
  unfold ref08_parts at h
  refine W_rs ?_
  refine rq (out := Pr.is (.slice none 0 0)) qAssign ?_
  refine W_rs ?_
  refine rq (out := Pr.is (.slice none 0 0)) qAssign ?_
  refine W_rs ?_
  refine rq (out := Pr.lst Rp.str x1) qMove ?_
  refine rq (out := Pr.lst Rp.str x2) qMove ?_
  refine rq (out := Pr.lst Rp.str x3) qMove ?_
  obtain ⟨x4, hx4, h⟩ := bindSome h
  refine rq (out := Pr.lst rApiChunk x4) (qCall (ref07_Parts_ok x1 x2 x3 _ hx4)) ?_
  refine rq (out := Pr.lst rApiChunk x4) qAssign ?_
  refine W_seq ?_
  refine W_rs ?_
  refine rq (out := Pr.i64 0) qAssign ?_
  refine W_block ?_
  obtain ⟨z2l, hz2, h⟩ := bindSome h
  obtain ⟨n2, hN2⟩ := iter_some hz2
  clear hz2
  refine W_after 0 (fun e C => ∃ (x7 : List ApiPart), ∃ (v5 : Value), ref08_parts_k1 x7 = some r ∧ At [(7, Pr.is v5)] [Own.vec v5 rApiPart x7 37] e C) ?_ ?_
  · rintro e C ⟨x7, v5, h, hat1⟩
    refine W_at hat1 ?_
    clear hat1
    unfold ref08_parts_k1 at h
    refine W_rs ?_
    refine rq (out := Pr.is v5) qMove ?_
    refine rq (out := Pr.is v5) qAssign ?_
    refine W_rel 0 [6] ?_ rfl ⟨rfl, trivial⟩
    obtain rfl := Option.some.inj h
    exact W_ret ⟨rfl, Pr.le_rfl⟩
  · refine W_nil [7] rApiPart 37 (fun v43 => ?_) ⟨rfl, trivial⟩
    refine W_loop (fun m e C => ∃ (x6 : Int), ∃ (x7 : List ApiPart), ∃ (v5 : Value), IterN (fun s => ref08_parts_l2 x4 x1 x2 x3 s.1 s.2) m (x6, x7) = some z2l ∧ At [(0, Pr.lst Rp.str x1), (1, Pr.lst Rp.str x2), (2, Pr.lst Rp.str x3), (7, Pr.is v5), (8, Pr.lst rApiChunk x4), (9, Pr.i64 x6)] [Own.vec v5 rApiPart x7 37] e C) n2 ⟨0, [], v43, hN2, ⟨⟨Pr.le_rfl, Pr.le_rfl, Pr.le_rfl, Pr.le_rfl, Pr.le_rfl, Pr.le_rfl, trivial⟩, Pick.refl _⟩⟩ ?_
    clear hN2
    rintro m e C ⟨x6, x7, v5, hN2, hatl2⟩
    refine W_at hatl2 ?_
    clear hatl2
    obtain ⟨m2, w2l, rfl, h2l, hn2, ho2⟩ := iterN_some hN2
    clear hN2
    replace h2l : ref08_parts_l2 x4 x1 x2 x3 x6 x7 = some w2l := h2l
    unfold ref08_parts_l2 at h2l
    refine W_seq ?_
    refine W_rs ?_
    refine rq (out := Pr.i64 x6) qMove ?_
    refine rq (out := Pr.lst rApiChunk x4) qMove ?_
    refine rq (out := Pr.i64 (x4.length : Int)) (qLenL rfl Tryz.underlying62) ?_
    refine rq (out := Pr.bool (decide (x6 < (x4.length : Int)))) qInt ?_
    refine W_cond (b := decide (x6 < (x4.length : Int))) rfl (fun hc11 => ?_) (fun hc11 => ?_)
    · replace h2l := iteT hc11 h2l
      refine W_skip ?_
      refine W_join (fun e C => ∃ (x41 : ApiPart), ∃ (x42 : List ApiPart), ∃ (x12 : ApiChunk), ∃ (v40 : Value), ∃ (b13 : Nat), ∃ (b14 : Nat), ref08_parts_j3 x6 x41 x42 x12 = some w2l ∧ At [(0, Pr.lst Rp.str x1), (1, Pr.lst Rp.str x2), (2, Pr.lst Rp.str x3), (7, Pr.is v40), (8, Pr.lst rApiChunk x4), (9, Pr.i64 x6)] [Own.vec v40 rApiPart x42 37, Own.box b13 rApiChunk x12, Own.box b14 rApiPart x41] e C) ?_ ?_
      · rintro e C ⟨x41, x42, x12, v40, b13, b14, h2l, hat3⟩
        refine W_at hat3 ?_
        clear hat3
        unfold ref08_parts_j3 at h2l
        refine W_r ?_
        refine rq (out := Pr.i64 x6) qMove ?_
        refine rq (out := Pr.i64 (w64 (x6 + 1))) qInt ?_
        refine rq (out := Pr.i64 (w64 (x6 + 1))) qAssign ?_
        exact ⟨m2, Nat.lt_succ_self _, w64 (x6 + 1), x42, v40, hn2 _ (Option.some.inj h2l).symm, ⟨⟨Pr.le_rfl, Pr.le_rfl, Pr.le_rfl, Pr.le_rfl, Pr.le_rfl, Pr.le_rfl, trivial⟩, Pick.of [0] rfl⟩⟩
      · refine W_block ?_
        refine W_rs ?_
        refine rq (out := Pr.lst rApiChunk x4) qMove ?_
        refine rq (out := Pr.i64 x6) qMove ?_
        obtain ⟨x12, hx12, h2l⟩ := bindSome h2l
        refine rq (out := Pr.cpt rApiChunk x12) (qIdxA (R := rApiChunk) (l := x4) Tryz.underlying62 Tryz.sizeOf67 hx12) ?_
        refine rq (out := (rApiChunk).val x12) (qLoadC (R := rApiChunk) (a := x12) ty67) ?_
        refine rAlloc (R := rApiChunk) (z := (ApiChunk.mk 0 (ApiSpan.mk 0 0) (ApiSpan.mk 0 0) (ApiSpan.mk 0 0))) Tryz.zeroValue67 (fun _ => ⟨_, ⟨_, _, rfl, rfl, ⟨_, _, rfl, ⟨_, _, rfl, rfl, ⟨_, _, rfl, rfl, rfl⟩⟩, ⟨_, _, rfl, ⟨_, _, rfl, rfl, ⟨_, _, rfl, rfl, rfl⟩⟩, ⟨_, _, rfl, ⟨_, _, rfl, rfl, ⟨_, _, rfl, rfl, rfl⟩⟩, rfl⟩⟩⟩⟩, rfl⟩) (fun b13 => ?_)
        refine rStore (R := rApiChunk) (R' := rApiChunk) (a := (ApiChunk.mk 0 (ApiSpan.mk 0 0) (ApiSpan.mk 0 0) (ApiSpan.mk 0 0))) (y := x12) 1 Tryz.sizeOf67 (Upd.refl _) ?_
        refine W_rs ?_
        refine rq (out := Pr.pt b13 0) (qFieldP fld67_0) ?_
        refine rq (out := Pr.i64 x12.Kind) (qLoad (R := rApiChunk) (a := x12) (R' := Rp.int .i64) 1 ty3 subApiChunk_Kind) ?_
        refine rq (out := Pr.bool (x12.Kind == 4)) qInt ?_
        refine rq (out := (rApiPart).val (ApiPart.mk (x12.Kind == 4) [] [] [])) (qBuild st37 ⟨(ApiPart.mk (x12.Kind == 4) [] [] []), ⟨_, rfl, rfl, fun j fd hj hf => by match j, hj with | 0, h => exact absurd rfl h | 1, _ => cases hf; rfl | 2, _ => cases hf; rfl | 3, _ => cases hf; rfl | _ + 4, _ => cases hf⟩, rfl⟩) ?_
        refine rAlloc (R := rApiPart) (z := (ApiPart.mk false [] [] [])) Tryz.zeroValue37 (fun _ => ⟨_, ⟨_, _, rfl, rfl, ⟨_, _, rfl, rfl, ⟨_, _, rfl, rfl, ⟨_, _, rfl, rfl, rfl⟩⟩⟩⟩, rfl⟩) (fun b14 => ?_)
        refine rStore (R := rApiPart) (R' := rApiPart) (a := (ApiPart.mk false [] [] [])) (y := (ApiPart.mk (x12.Kind == 4) [] [] [])) 2 Tryz.sizeOf37 (Upd.refl _) ?_
        refine W_rs ?_
        refine rq (out := Pr.lst Rp.str x1) qMove ?_
        refine rq (out := Pr.pt b13 1) (qFieldP fld67_1) ?_
        refine rq (out := Pr.pt b13 1) (qFieldP fld65_0) ?_
        refine rq (out := Pr.i64 x12.O.From) (qLoad (R := rApiChunk) (a := x12) (R' := Rp.int .i64) 1 ty3 (subApiChunk_O.trans subApiSpan_From (Nat.le_of_ble_eq_true rfl))) ?_
        refine rq (out := Pr.pt b13 1) (qFieldP fld67_1) ?_
        refine rq (out := Pr.pt b13 2) (qFieldP fld65_1) ?_
        refine rq (out := Pr.i64 x12.O.To) (qLoad (R := rApiChunk) (a := x12) (R' := Rp.int .i64) 1 ty3 (subApiChunk_O.trans subApiSpan_To (Nat.le_of_ble_eq_true rfl))) ?_
        obtain ⟨x15, hx15, h2l⟩ := bindSome h2l
        refine rq (out := Pr.lst Rp.str x15) (qLSubLH Tryz.underlying27 Tryz.sizeOf9 hx15) ?_
        obtain ⟨x16, hx16, h2l⟩ := bindSome h2l
        refine rq (out := Pr.str x16) (qCall (ref01_Join_ok x15 _ hx16)) ?_
        refine rq (out := Pr.pt b14 1) (qFieldP fld37_1) ?_
        refine rStore (R := rApiPart) (R' := Rp.str) (a := (ApiPart.mk (x12.Kind == 4) [] [] [])) (y := x16) 2 Tryz.sizeOf9 updApiPart_O ?_
        refine W_rs ?_
        refine rq (out := Pr.lst Rp.str x2) qMove ?_
        refine rq (out := Pr.pt b13 3) (qFieldP fld67_2) ?_
        refine rq (out := Pr.pt b13 3) (qFieldP fld65_0) ?_
        refine rq (out := Pr.i64 x12.A.From) (qLoad (R := rApiChunk) (a := x12) (R' := Rp.int .i64) 1 ty3 (subApiChunk_A.trans subApiSpan_From (Nat.le_of_ble_eq_true rfl))) ?_
        refine rq (out := Pr.pt b13 3) (qFieldP fld67_2) ?_
        refine rq (out := Pr.pt b13 4) (qFieldP fld65_1) ?_
        refine rq (out := Pr.i64 x12.A.To) (qLoad (R := rApiChunk) (a := x12) (R' := Rp.int .i64) 1 ty3 (subApiChunk_A.trans subApiSpan_To (Nat.le_of_ble_eq_true rfl))) ?_
        obtain ⟨x17, hx17, h2l⟩ := bindSome h2l
        refine rq (out := Pr.lst Rp.str x17) (qLSubLH Tryz.underlying27 Tryz.sizeOf9 hx17) ?_
        obtain ⟨x18, hx18, h2l⟩ := bindSome h2l
        refine rq (out := Pr.str x18) (qCall (ref01_Join_ok x17 _ hx18)) ?_
        refine rq (out := Pr.pt b14 2) (qFieldP fld37_2) ?_
        refine rStore (R := rApiPart) (R' := Rp.str) (a := { (ApiPart.mk (x12.Kind == 4) [] [] []) with O := x16 }) (y := x18) 2 Tryz.sizeOf9 updApiPart_A ?_
        refine W_rs ?_
        refine rq (out := Pr.lst Rp.str x3) qMove ?_
        refine rq (out := Pr.pt b13 5) (qFieldP fld67_3) ?_
        refine rq (out := Pr.pt b13 5) (qFieldP fld65_0) ?_
        refine rq (out := Pr.i64 x12.B.From) (qLoad (R := rApiChunk) (a := x12) (R' := Rp.int .i64) 1 ty3 (subApiChunk_B.trans subApiSpan_From (Nat.le_of_ble_eq_true rfl))) ?_
        refine rq (out := Pr.pt b13 5) (qFieldP fld67_3) ?_
        refine rq (out := Pr.pt b13 6) (qFieldP fld65_1) ?_
        refine rq (out := Pr.i64 x12.B.To) (qLoad (R := rApiChunk) (a := x12) (R' := Rp.int .i64) 1 ty3 (subApiChunk_B.trans subApiSpan_To (Nat.le_of_ble_eq_true rfl))) ?_
        obtain ⟨x19, hx19, h2l⟩ := bindSome h2l
        refine rq (out := Pr.lst Rp.str x19) (qLSubLH Tryz.underlying27 Tryz.sizeOf9 hx19) ?_
        obtain ⟨x20, hx20, h2l⟩ := bindSome h2l
        refine rq (out := Pr.str x20) (qCall (ref01_Join_ok x19 _ hx20)) ?_
        refine rq (out := Pr.pt b14 3) (qFieldP fld37_3) ?_
        refine rStore (R := rApiPart) (R' := Rp.str) (a := { { (ApiPart.mk (x12.Kind == 4) [] [] []) with O := x16 } with A := x18 }) (y := x20) 2 Tryz.sizeOf9 updApiPart_B ?_
        refine W_join (fun e C => ∃ (x22 : ApiPart), ref08_parts_j9 x7 x6 x12 x22 = some w2l ∧ At [(0, Pr.lst Rp.str x1), (1, Pr.lst Rp.str x2), (2, Pr.lst Rp.str x3), (7, Pr.is v5), (8, Pr.lst rApiChunk x4), (9, Pr.i64 x6), (11, Pr.pt b14 0)] [Own.vec v5 rApiPart x7 37, Own.box b13 rApiChunk x12, Own.box b14 rApiPart x22] e C) ?_ ?_
        · rintro e C ⟨x22, h2l, hat9⟩
          refine W_at hat9 ?_
          clear hat9
          unfold ref08_parts_j9 at h2l
          refine W_rs ?_
          refine rq (out := Pr.is v5) qMove ?_
          refine rq (out := Pr.i64 (x7.length : Int)) (qLenV 0 rfl Tryz.underlying24) ?_
          refine rq (out := Pr.i64 (x7.length : Int)) qAssign ?_
          refine W_join (fun e C => ∃ (x37 : ApiPart), ref08_parts_j4 x7 x6 x12 x37 = some w2l ∧ At [(0, Pr.lst Rp.str x1), (1, Pr.lst Rp.str x2), (2, Pr.lst Rp.str x3), (7, Pr.is v5), (8, Pr.lst rApiChunk x4), (9, Pr.i64 x6), (11, Pr.pt b14 0)] [Own.vec v5 rApiPart x7 37, Own.box b13 rApiChunk x12, Own.box b14 rApiPart x37] e C) ?_ ?_
          · rintro e C ⟨x37, h2l, hat4⟩
            refine W_at hat4 ?_
            clear hat4
            unfold ref08_parts_j4 at h2l
            refine W_r ?_
            refine rq (out := Pr.is v5) qMove ?_
            refine rq (out := (rApiPart).val x37) (qLoad (R := rApiPart) (a := x37) (R' := rApiPart) 2 ty37 (Sub.refl _)) ?_
            refine rq (out := Pr.lst rApiPart ([x37] : List ApiPart)) (qBuildSlice1 (R := rApiPart) (a := x37) el24 (Nat.le_of_ble_eq_true rfl)) ?_
            obtain ⟨x38, hx38, h2l⟩ := bindSome h2l
            refine rAppend' 0 el24 hx38 (fun v39 => ?_)
            refine rq (out := Pr.is v39) qAssign ?_
            exact ⟨x37, x38, x12, v39, b13, b14, h2l, ⟨⟨Pr.le_rfl, Pr.le_rfl, Pr.le_rfl, Pr.le_rfl, Pr.le_rfl, Pr.le_rfl, trivial⟩, Pick.refl _⟩⟩
          · refine W_rs ?_
            refine rq (out := Pr.pt b14 0) (qFieldP fld37_0) ?_
            refine rq (out := Pr.bool x22.Clash) (qLoad (R := rApiPart) (a := x22) (R' := Rp.bool) 2 ty4 subApiPart_Clash) ?_
            refine rq (out := Pr.bool (!x22.Clash)) qNot ?_
            refine W_cond (b := !x22.Clash) rfl (fun hc23 => ?_) (fun hc23 => ?_)
            · replace h2l := iteT hc23 h2l
              refine W_rs ?_
              refine rq (out := Pr.pt b14 2) (qFieldP fld37_2) ?_
              refine rq (out := Pr.str x22.A) (qLoad (R := rApiPart) (a := x22) (R' := Rp.str) 2 ty9 subApiPart_A) ?_
              refine rq (out := Pr.pt b14 3) (qFieldP fld37_3) ?_
              refine rStore (R := rApiPart) (R' := Rp.str) (a := x22) (y := x22.A) 2 Tryz.sizeOf9 updApiPart_B ?_
              refine W_join (fun e C => ∃ (x26 : Bool), ref08_parts_j8 x7 x22 x6 x12 x26 = some w2l ∧ At [(0, Pr.lst Rp.str x1), (1, Pr.lst Rp.str x2), (2, Pr.lst Rp.str x3), (7, Pr.is v5), (8, Pr.lst rApiChunk x4), (9, Pr.i64 x6), (11, Pr.pt b14 0), (12, Pr.i64 (x7.length : Int)), (85, Pr.bool x26)] [Own.vec v5 rApiPart x7 37, Own.box b13 rApiChunk x12, Own.box b14 rApiPart ({ x22 with B := x22.A })] e C) ?_ ?_
              · rintro e C ⟨x26, h2l, hat8⟩
                refine W_at hat8 ?_
                clear hat8
                unfold ref08_parts_j8 at h2l
                refine W_cond (b := x26) rfl (fun hc27 => ?_) (fun hc27 => ?_)
                · replace h2l := iteT hc27 h2l
                  refine W_join (fun e C => ∃ (x30 : ApiPart), ∃ (x29 : List UInt8), ref08_parts_j7 x7 x22 x6 x12 x30 x29 = some w2l ∧ At [(0, Pr.lst Rp.str x1), (1, Pr.lst Rp.str x2), (2, Pr.lst Rp.str x3), (7, Pr.is v5), (8, Pr.lst rApiChunk x4), (9, Pr.i64 x6), (11, Pr.pt b14 0), (12, Pr.i64 (x7.length : Int))] [Own.vec v5 rApiPart (List.set x7 (Int.toNat (w64 ((x7.length : Int) - 1))) ({ x30 with O := x29 })) 37, Own.box b13 rApiChunk x12, Own.box b14 rApiPart ({ x22 with B := x22.A })] e C) ?_ ?_
                  · rintro e C ⟨x30, x29, h2l, hat7⟩
                    refine W_at hat7 ?_
                    clear hat7
                    unfold ref08_parts_j7 at h2l
                    refine W_join (fun e C => ∃ (x33 : ApiPart), ∃ (x32 : List UInt8), ref08_parts_j6 x7 x30 x29 x22 x6 x12 x33 x32 = some w2l ∧ At [(0, Pr.lst Rp.str x1), (1, Pr.lst Rp.str x2), (2, Pr.lst Rp.str x3), (7, Pr.is v5), (8, Pr.lst rApiChunk x4), (9, Pr.i64 x6), (11, Pr.pt b14 0), (12, Pr.i64 (x7.length : Int))] [Own.vec v5 rApiPart (List.set (List.set x7 (Int.toNat (w64 ((x7.length : Int) - 1))) ({ x30 with O := x29 })) (Int.toNat (w64 ((x7.length : Int) - 1))) ({ x33 with A := x32 })) 37, Own.box b13 rApiChunk x12, Own.box b14 rApiPart ({ x22 with B := x22.A })] e C) ?_ ?_
                    · rintro e C ⟨x33, x32, h2l, hat6⟩
                      refine W_at hat6 ?_
                      clear hat6
                      unfold ref08_parts_j6 at h2l
                      refine W_join (fun e C => ∃ (x36 : ApiPart), ∃ (x35 : List UInt8), ref08_parts_j5 x6 x22 x7 x30 x29 x33 x32 x12 x36 x35 = some w2l ∧ At [(0, Pr.lst Rp.str x1), (1, Pr.lst Rp.str x2), (2, Pr.lst Rp.str x3), (7, Pr.is v5), (8, Pr.lst rApiChunk x4), (9, Pr.i64 x6)] [Own.vec v5 rApiPart (List.set (List.set (List.set x7 (Int.toNat (w64 ((x7.length : Int) - 1))) ({ x30 with O := x29 })) (Int.toNat (w64 ((x7.length : Int) - 1))) ({ x33 with A := x32 })) (Int.toNat (w64 ((x7.length : Int) - 1))) ({ x36 with B := x35 })) 37, Own.box b13 rApiChunk x12, Own.box b14 rApiPart ({ x22 with B := x22.A })] e C) ?_ ?_
                      · rintro e C ⟨x36, x35, h2l, hat5⟩
                        refine W_at hat5 ?_
                        clear hat5
                        unfold ref08_parts_j5 at h2l
                        refine W_exit ?_
                        exact ⟨{ x22 with B := x22.A }, (List.set (List.set (List.set x7 (Int.toNat (w64 ((x7.length : Int) - 1))) ({ x30 with O := x29 })) (Int.toNat (w64 ((x7.length : Int) - 1))) ({ x33 with A := x32 })) (Int.toNat (w64 ((x7.length : Int) - 1))) ({ x36 with B := x35 })), x12, v5, b13, b14, h2l, ⟨⟨Pr.le_rfl, Pr.le_rfl, Pr.le_rfl, Pr.le_rfl, Pr.le_rfl, Pr.le_rfl, trivial⟩, Pick.refl _⟩⟩
                      · refine W_draw 14 hmx (by kernel_rfl) (by kernel_rfl) ?_
                        refine qq (out := Pr.is v5) qMove ?_
                        refine qq (out := Pr.i64 (x7.length : Int)) qMove ?_
                        refine qq (out := Pr.i64 (w64 ((x7.length : Int) - 1))) qInt ?_
                        refine qq (out := Pr.is v5) qMove ?_
                        refine qq (out := Pr.i64 (x7.length : Int)) qMove ?_
                        refine qq (out := Pr.i64 (w64 ((x7.length : Int) - 1))) qInt ?_
                        obtain ⟨x34, hx34, h2l⟩ := bindSome h2l
                        refine qq (out := Pr.vpt v5 (Int.toNat (w64 ((x7.length : Int) - 1)) * (rApiPart).size)) (qIdxV 0 (R := rApiPart) (l := (List.set (List.set x7 (Int.toNat (w64 ((x7.length : Int) - 1))) ({ x30 with O := x29 })) (Int.toNat (w64 ((x7.length : Int) - 1))) ({ x33 with A := x32 }))) Tryz.underlying24 Tryz.sizeOf37 hx34) ?_
                        refine qq (out := Pr.vpt v5 ((Int.toNat (w64 ((x7.length : Int) - 1)) * (rApiPart).size) + 3)) (qFieldV fld37_3) ?_
                        refine qq (out := Pr.str x34.B) (qLoadV (R := rApiPart) (R' := Rp.str) (l := (List.set (List.set x7 (Int.toNat (w64 ((x7.length : Int) - 1))) ({ x30 with O := x29 })) (Int.toNat (w64 ((x7.length : Int) - 1))) ({ x33 with A := x32 }))) (a := x34) (o := 3) 0 ty9 subApiPart_B (Nat.le_of_ble_eq_true rfl) hx34 rfl) ?_
                        refine qq (out := Pr.pt b14 3) (qFieldP fld37_3) ?_
                        refine qq (out := Pr.str (({ x22 with B := x22.A }).B)) (qLoad (R := rApiPart) (a := { x22 with B := x22.A }) (R' := Rp.str) 2 ty9 subApiPart_B) ?_
                        obtain ⟨x35, hx35, h2l⟩ := bindSome h2l
                        refine qq (out := Pr.str x35) (qCat' hx35) ?_
                        obtain ⟨x36, hx36, h2l⟩ := bindSome h2l
                        refine qq (out := Pr.vpt v5 (Int.toNat (w64 ((x7.length : Int) - 1)) * (rApiPart).size)) (qIdxV 0 (R := rApiPart) (l := (List.set (List.set x7 (Int.toNat (w64 ((x7.length : Int) - 1))) ({ x30 with O := x29 })) (Int.toNat (w64 ((x7.length : Int) - 1))) ({ x33 with A := x32 }))) Tryz.underlying24 Tryz.sizeOf37 hx36) ?_
                        refine qq (out := Pr.vpt v5 ((Int.toNat (w64 ((x7.length : Int) - 1)) * (rApiPart).size) + 3)) (qFieldV fld37_3) ?_
                        refine rStoreE (R := rApiPart) (R' := Rp.str) (l := (List.set (List.set x7 (Int.toNat (w64 ((x7.length : Int) - 1))) ({ x30 with O := x29 })) (Int.toNat (w64 ((x7.length : Int) - 1))) ({ x33 with A := x32 }))) (a := x36) (y := x35) (o := 3) 0 Tryz.sizeOf9 updApiPart_B hx36 rfl ?_
                        exact ⟨x36, x35, h2l, ⟨⟨Pr.le_rfl, Pr.le_rfl, Pr.le_rfl, Pr.le_rfl, Pr.le_rfl, Pr.le_rfl, trivial⟩, Pick.refl _⟩⟩
                    · refine W_draw 14 hmx (by kernel_rfl) (by kernel_rfl) ?_
                      refine qq (out := Pr.is v5) qMove ?_
                      refine qq (out := Pr.i64 (x7.length : Int)) qMove ?_
                      refine qq (out := Pr.i64 (w64 ((x7.length : Int) - 1))) qInt ?_
                      refine qq (out := Pr.is v5) qMove ?_
                      refine qq (out := Pr.i64 (x7.length : Int)) qMove ?_
                      refine qq (out := Pr.i64 (w64 ((x7.length : Int) - 1))) qInt ?_
                      obtain ⟨x31, hx31, h2l⟩ := bindSome h2l
                      refine qq (out := Pr.vpt v5 (Int.toNat (w64 ((x7.length : Int) - 1)) * (rApiPart).size)) (qIdxV 0 (R := rApiPart) (l := (List.set x7 (Int.toNat (w64 ((x7.length : Int) - 1))) ({ x30 with O := x29 }))) Tryz.underlying24 Tryz.sizeOf37 hx31) ?_
                      refine qq (out := Pr.vpt v5 ((Int.toNat (w64 ((x7.length : Int) - 1)) * (rApiPart).size) + 2)) (qFieldV fld37_2) ?_
                      refine qq (out := Pr.str x31.A) (qLoadV (R := rApiPart) (R' := Rp.str) (l := (List.set x7 (Int.toNat (w64 ((x7.length : Int) - 1))) ({ x30 with O := x29 }))) (a := x31) (o := 2) 0 ty9 subApiPart_A (Nat.le_of_ble_eq_true rfl) hx31 rfl) ?_
                      refine qq (out := Pr.pt b14 2) (qFieldP fld37_2) ?_
                      refine qq (out := Pr.str (({ x22 with B := x22.A }).A)) (qLoad (R := rApiPart) (a := { x22 with B := x22.A }) (R' := Rp.str) 2 ty9 subApiPart_A) ?_
                      obtain ⟨x32, hx32, h2l⟩ := bindSome h2l
                      refine qq (out := Pr.str x32) (qCat' hx32) ?_
                      obtain ⟨x33, hx33, h2l⟩ := bindSome h2l
                      refine qq (out := Pr.vpt v5 (Int.toNat (w64 ((x7.length : Int) - 1)) * (rApiPart).size)) (qIdxV 0 (R := rApiPart) (l := (List.set x7 (Int.toNat (w64 ((x7.length : Int) - 1))) ({ x30 with O := x29 }))) Tryz.underlying24 Tryz.sizeOf37 hx33) ?_
                      refine qq (out := Pr.vpt v5 ((Int.toNat (w64 ((x7.length : Int) - 1)) * (rApiPart).size) + 2)) (qFieldV fld37_2) ?_
                      refine rStoreE (R := rApiPart) (R' := Rp.str) (l := (List.set x7 (Int.toNat (w64 ((x7.length : Int) - 1))) ({ x30 with O := x29 }))) (a := x33) (y := x32) (o := 2) 0 Tryz.sizeOf9 updApiPart_A hx33 rfl ?_
                      exact ⟨x33, x32, h2l, ⟨⟨Pr.le_rfl, Pr.le_rfl, Pr.le_rfl, Pr.le_rfl, Pr.le_rfl, Pr.le_rfl, Pr.le_rfl, Pr.le_rfl, trivial⟩, Pick.refl _⟩⟩
                  · refine W_draw 14 hmx (by kernel_rfl) (by kernel_rfl) ?_
                    refine qq (out := Pr.is v5) qMove ?_
                    refine qq (out := Pr.i64 (x7.length : Int)) qMove ?_
                    refine qq (out := Pr.i64 (w64 ((x7.length : Int) - 1))) qInt ?_
                    refine qq (out := Pr.is v5) qMove ?_
                    refine qq (out := Pr.i64 (x7.length : Int)) qMove ?_
                    refine qq (out := Pr.i64 (w64 ((x7.length : Int) - 1))) qInt ?_
                    obtain ⟨x28, hx28, h2l⟩ := bindSome h2l
                    refine qq (out := Pr.vpt v5 (Int.toNat (w64 ((x7.length : Int) - 1)) * (rApiPart).size)) (qIdxV 0 (R := rApiPart) (l := x7) Tryz.underlying24 Tryz.sizeOf37 hx28) ?_
                    refine qq (out := Pr.vpt v5 ((Int.toNat (w64 ((x7.length : Int) - 1)) * (rApiPart).size) + 1)) (qFieldV fld37_1) ?_
                    refine qq (out := Pr.str x28.O) (qLoadV (R := rApiPart) (R' := Rp.str) (l := x7) (a := x28) (o := 1) 0 ty9 subApiPart_O (Nat.le_of_ble_eq_true rfl) hx28 rfl) ?_
                    refine qq (out := Pr.pt b14 1) (qFieldP fld37_1) ?_
                    refine qq (out := Pr.str (({ x22 with B := x22.A }).O)) (qLoad (R := rApiPart) (a := { x22 with B := x22.A }) (R' := Rp.str) 2 ty9 subApiPart_O) ?_
                    obtain ⟨x29, hx29, h2l⟩ := bindSome h2l
                    refine qq (out := Pr.str x29) (qCat' hx29) ?_
                    obtain ⟨x30, hx30, h2l⟩ := bindSome h2l
                    refine qq (out := Pr.vpt v5 (Int.toNat (w64 ((x7.length : Int) - 1)) * (rApiPart).size)) (qIdxV 0 (R := rApiPart) (l := x7) Tryz.underlying24 Tryz.sizeOf37 hx30) ?_
                    refine qq (out := Pr.vpt v5 ((Int.toNat (w64 ((x7.length : Int) - 1)) * (rApiPart).size) + 1)) (qFieldV fld37_1) ?_
                    refine rStoreE (R := rApiPart) (R' := Rp.str) (l := x7) (a := x30) (y := x29) (o := 1) 0 Tryz.sizeOf9 updApiPart_O hx30 rfl ?_
                    exact ⟨x30, x29, h2l, ⟨⟨Pr.le_rfl, Pr.le_rfl, Pr.le_rfl, Pr.le_rfl, Pr.le_rfl, Pr.le_rfl, Pr.le_rfl, Pr.le_rfl, trivial⟩, Pick.refl _⟩⟩
                · replace h2l := iteF hc27 h2l
                  refine W_skip ?_
                  exact ⟨{ x22 with B := x22.A }, h2l, ⟨⟨Pr.le_rfl, Pr.le_rfl, Pr.le_rfl, Pr.le_rfl, Pr.le_rfl, Pr.le_rfl, Pr.le_rfl, trivial⟩, Pick.refl _⟩⟩
              · refine W_r ?_
                refine rq (out := Pr.i64 (x7.length : Int)) qMove ?_
                refine rq (out := Pr.bool (decide ((x7.length : Int) > 0))) qInt ?_
                refine rq (out := Pr.bool (decide ((x7.length : Int) > 0))) qMove ?_
                rcases iteSome h2l with ⟨hc24, h2l⟩ | ⟨hc24, h2l⟩
                · refine rqg hc24 (out := Pr.is v5) qMove ?_
                  refine rqg hc24 (out := Pr.i64 (x7.length : Int)) qMove ?_
                  refine rqg hc24 (out := Pr.i64 (w64 ((x7.length : Int) - 1))) qInt ?_
                  obtain ⟨x25, hx25, h2l⟩ := bindSome h2l
                  refine rqg hc24 (out := Pr.vpt v5 (Int.toNat (w64 ((x7.length : Int) - 1)) * (rApiPart).size)) (qIdxV 0 (R := rApiPart) (l := x7) Tryz.underlying24 Tryz.sizeOf37 hx25) ?_
                  refine rqg hc24 (out := Pr.vpt v5 ((Int.toNat (w64 ((x7.length : Int) - 1)) * (rApiPart).size) + 0)) (qFieldV fld37_0) ?_
                  refine rqg hc24 (out := Pr.bool x25.Clash) (qLoadV (R := rApiPart) (R' := Rp.bool) (l := x7) (a := x25) (o := 0) 0 ty4 subApiPart_Clash (Nat.le_of_ble_eq_true rfl) hx25 rfl) ?_
                  refine rqg hc24 (out := Pr.bool (!x25.Clash)) qNot ?_
                  refine rq (out := Pr.bool (!x25.Clash)) (qPickT hc24) ?_
                  exact ⟨!x25.Clash, h2l, ⟨⟨Pr.le_rfl, Pr.le_rfl, Pr.le_rfl, Pr.le_rfl, Pr.le_rfl, Pr.le_rfl, Pr.le_rfl, Pr.le_rfl, Pr.le_rfl, trivial⟩, Pick.refl _⟩⟩
                · refine rno (neT hc24) ?_
                  refine rno (neT hc24) ?_
                  refine rno (neT hc24) ?_
                  refine rno (neT hc24) ?_
                  refine rno (neT hc24) ?_
                  refine rno (neT hc24) ?_
                  refine rno (neT hc24) ?_
                  refine rq (out := Pr.bool false) (qPickF hc24) ?_
                  exact ⟨false, h2l, ⟨⟨Pr.le_rfl, Pr.le_rfl, Pr.le_rfl, Pr.le_rfl, Pr.le_rfl, Pr.le_rfl, Pr.le_rfl, Pr.le_rfl, Pr.le_rfl, trivial⟩, Pick.refl _⟩⟩
            · replace h2l := iteF hc23 h2l
              refine W_skip ?_
              exact ⟨x22, h2l, ⟨⟨Pr.le_rfl, Pr.le_rfl, Pr.le_rfl, Pr.le_rfl, Pr.le_rfl, Pr.le_rfl, Pr.le_rfl, trivial⟩, Pick.refl _⟩⟩
        · refine W_rs ?_
          refine rq (out := Pr.pt b13 0) (qFieldP fld67_0) ?_
          refine rq (out := Pr.i64 x12.Kind) (qLoad (R := rApiChunk) (a := x12) (R' := Rp.int .i64) 1 ty3 subApiChunk_Kind) ?_
          refine rq (out := Pr.bool (x12.Kind == 2)) qInt ?_
          refine W_cond (b := x12.Kind == 2) rfl (fun hc21 => ?_) (fun hc21 => ?_)
          · replace h2l := iteT hc21 h2l
            refine W_r ?_
            refine rq (out := Pr.pt b14 3) (qFieldP fld37_3) ?_
            refine rq (out := Pr.str (({ { { (ApiPart.mk (x12.Kind == 4) [] [] []) with O := x16 } with A := x18 } with B := x20 }).B)) (qLoad (R := rApiPart) (a := { { { (ApiPart.mk (x12.Kind == 4) [] [] []) with O := x16 } with A := x18 } with B := x20 }) (R' := Rp.str) 2 ty9 subApiPart_B) ?_
            refine rq (out := Pr.pt b14 2) (qFieldP fld37_2) ?_
            refine rStore (R := rApiPart) (R' := Rp.str) (a := { { { (ApiPart.mk (x12.Kind == 4) [] [] []) with O := x16 } with A := x18 } with B := x20 }) (y := ({ { { (ApiPart.mk (x12.Kind == 4) [] [] []) with O := x16 } with A := x18 } with B := x20 }).B) 2 Tryz.sizeOf9 updApiPart_A ?_
            exact ⟨{ { { { (ApiPart.mk (x12.Kind == 4) [] [] []) with O := x16 } with A := x18 } with B := x20 } with A := ({ { { (ApiPart.mk (x12.Kind == 4) [] [] []) with O := x16 } with A := x18 } with B := x20 }).B }, h2l, ⟨⟨Pr.le_rfl, Pr.le_rfl, Pr.le_rfl, Pr.le_rfl, Pr.le_rfl, Pr.le_rfl, Pr.le_rfl, trivial⟩, Pick.refl _⟩⟩
          · replace h2l := iteF hc21 h2l
            refine W_skip ?_
            exact ⟨{ { { (ApiPart.mk (x12.Kind == 4) [] [] []) with O := x16 } with A := x18 } with B := x20 }, h2l, ⟨⟨Pr.le_rfl, Pr.le_rfl, Pr.le_rfl, Pr.le_rfl, Pr.le_rfl, Pr.le_rfl, Pr.le_rfl, trivial⟩, Pick.refl _⟩⟩
    · replace h2l := iteF hc11 h2l
      refine W_exit ?_
      obtain rfl := ho2 _ (Option.some.inj h2l).symm
      exact ⟨x7, v5, h, ⟨⟨Pr.le_rfl, trivial⟩, Pick.refl _⟩⟩
theorem ref08_Tokens_ok (x1 : List UInt8) (x2 : List UInt8) (x3 : List UInt8) (r : (List ApiPart) × Bool) (h : ref08_Tokens x1 x2 x3 = some r) : FnP Tryz.prog 7 [Pr.str x1, Pr.str x2, Pr.str x3] (Pr.tup [Pr.lst rApiPart r.1, Pr.bool r.2]) := by
  refine fn_intro (n := 43) (rs := [6, 7]) Tryz.func7 rfl Tryz.ntmps7 ⟨by decide, Tryz.results7⟩ (by decide) (fun s0 => ?_)
  unfold ref08_Tokens at h
  refine W_rs ?_
  refine rq (out := Pr.is (.slice none 0 0)) qAssign ?_
  refine rq (out := Pr.bool false) qAssign ?_
  refine W_rs ?_
  refine rq (out := Pr.str x1) qMove ?_
  obtain ⟨⟨x4, x5⟩, hx4, h⟩ := bindSome h
  refine rq (out := Pr.tup [Pr.lst Rp.str x4, Pr.bool x5]) (qCall (ref08_Units_ok x1 _ hx4)) ?_
  refine rq (out := Pr.tup [Pr.lst Rp.str x4, Pr.bool x5]) qMove ?_
  refine rq (out := Pr.lst Rp.str x4) qExtract ?_
  refine rq (out := Pr.bool x5) qExtract ?_
  refine rq (out := Pr.lst Rp.str x4) qAssign ?_
  refine rq (out := Pr.bool x5) qAssign ?_
  refine W_rs ?_
  refine rq (out := Pr.str x2) qMove ?_
  obtain ⟨⟨x6, x7⟩, hx6, h⟩ := bindSome h
  refine rq (out := Pr.tup [Pr.lst Rp.str x6, Pr.bool x7]) (qCall (ref08_Units_ok x2 _ hx6)) ?_
  refine rq (out := Pr.tup [Pr.lst Rp.str x6, Pr.bool x7]) qMove ?_
  refine rq (out := Pr.lst Rp.str x6) qExtract ?_
  refine rq (out := Pr.bool x7) qExtract ?_
  refine rq (out := Pr.lst Rp.str x6) qAssign ?_
  refine rq (out := Pr.bool x7) qAssign ?_
  refine W_rs ?_
  refine rq (out := Pr.str x3) qMove ?_
  obtain ⟨⟨x8, x9⟩, hx8, h⟩ := bindSome h
  refine rq (out := Pr.tup [Pr.lst Rp.str x8, Pr.bool x9]) (qCall (ref08_Units_ok x3 _ hx8)) ?_
  refine rq (out := Pr.tup [Pr.lst Rp.str x8, Pr.bool x9]) qMove ?_
  refine rq (out := Pr.lst Rp.str x8) qExtract ?_
  refine rq (out := Pr.bool x9) qExtract ?_
  refine rq (out := Pr.lst Rp.str x8) qAssign ?_
  refine rq (out := Pr.bool x9) qAssign ?_
  refine W_seq ?_
  refine W_join (fun e C => ∃ (x13 : Bool), ref08_Tokens_j1 x4 x6 x8 x13 = some r ∧ At [(8, Pr.lst Rp.str x4), (10, Pr.lst Rp.str x6), (12, Pr.lst Rp.str x8), (38, Pr.bool x13)] [] e C) ?_ ?_
  · rintro e C ⟨x13, h, hat1⟩
    refine W_at hat1 ?_
    clear hat1
    unfold ref08_Tokens_j1 at h
    refine W_cond (b := x13) rfl (fun hc14 => ?_) (fun hc14 => ?_)
    · replace h := iteT hc14 h
      refine W_rs ?_
      refine rq (out := Pr.is (.slice none 0 0)) qAssign ?_
      refine rq (out := Pr.bool false) qAssign ?_
      obtain rfl := Option.some.inj h
      exact W_ret ⟨rfl, tup_le ⟨Pr.lst_nil _, Pr.le_rfl, trivial⟩⟩
    · replace h := iteF hc14 h
      refine W_skip ?_
      refine W_rs ?_
      refine rq (out := Pr.lst Rp.str x4) qMove ?_
      refine rq (out := Pr.lst Rp.str x6) qMove ?_
      refine rq (out := Pr.lst Rp.str x8) qMove ?_
      obtain ⟨x15, hx15, h⟩ := bindSome h
      refine rq (out := Pr.lst rApiPart x15) (qCall (ref08_parts_ok x4 x6 x8 _ hx15)) ?_
      refine rq (out := Pr.lst rApiPart x15) qAssign ?_
      refine rq (out := Pr.bool true) qAssign ?_
      obtain rfl := Option.some.inj h
      exact W_ret ⟨rfl, Pr.le_rfl⟩
  · refine W_r ?_
    refine rq (out := Pr.bool x5) qMove ?_
    refine rq (out := Pr.bool (!x5)) qNot ?_
    refine rq (out := Pr.bool (!x5)) qMove ?_
    rcases iteSome h with ⟨hc10, h⟩ | ⟨hc10, h⟩
    · refine rno (neF hc10) ?_
      refine rno (neF hc10) ?_
      refine rq (out := Pr.bool true) (qPickT hc10) ?_
      refine rq (out := Pr.bool true) qMove ?_
      have hc12 : true = true := rfl
      refine rno (neF hc12) ?_
      refine rno (neF hc12) ?_
      refine rq (out := Pr.bool true) (qPickT hc12) ?_
      exact ⟨true, h, ⟨⟨Pr.le_rfl, Pr.le_rfl, Pr.le_rfl, Pr.le_rfl, trivial⟩, Pick.refl _⟩⟩
    · refine rqg hc10 (out := Pr.bool x7) qMove ?_
      refine rqg hc10 (out := Pr.bool (!x7)) qNot ?_
      refine rq (out := Pr.bool (!x7)) (qPickF hc10) ?_
      refine rq (out := Pr.bool (!x7)) qMove ?_
      rcases iteSome h with ⟨hc11, h⟩ | ⟨hc11, h⟩
      · refine rno (neF hc11) ?_
        refine rno (neF hc11) ?_
        refine rq (out := Pr.bool true) (qPickT hc11) ?_
        exact ⟨true, h, ⟨⟨Pr.le_rfl, Pr.le_rfl, Pr.le_rfl, Pr.le_rfl, trivial⟩, Pick.refl _⟩⟩
      · refine rqg hc11 (out := Pr.bool x9) qMove ?_
        refine rqg hc11 (out := Pr.bool (!x9)) qNot ?_
        refine rq (out := Pr.bool (!x9)) (qPickF hc11) ?_
        exact ⟨!x9, h, ⟨⟨Pr.le_rfl, Pr.le_rfl, Pr.le_rfl, Pr.le_rfl, trivial⟩, Pick.refl _⟩⟩
theorem ref01_Split_ok (x1 : List UInt8) (r : (List (List UInt8))) (h : ref01_Split x1 = some r) : FnP Tryz.prog 24 [Pr.str x1] (Pr.lst Rp.str r) := by
  refine fn_intro (n := 37) (rs := [2]) Tryz.func24 rfl Tryz.ntmps24 ⟨by decide, Tryz.results24⟩ (by decide) (fun s0 => ?_)
  unfold ref01_Split at h
  refine W_rs ?_
  refine rq (out := Pr.is (.slice none 0 0)) qAssign ?_
  refine W_rs ?_
  refine rq (out := Pr.is (.slice none 0 0)) qAssign ?_
  refine W_rs ?_
  refine rq (out := Pr.i64 0) qAssign ?_
  refine W_seq ?_
  refine W_rs ?_
  refine rq (out := Pr.i64 0) qAssign ?_
  refine W_block ?_
  obtain ⟨z3l, hz3, h⟩ := bindSome h
  obtain ⟨n3, hN3⟩ := iter_some hz3
  clear hz3
  refine W_after 0 (fun e C => ∃ (x3 : Int), ∃ (x5 : List (List UInt8)), ∃ (v2 : Value), ref01_Split_k2 x1 x3 x5 = some r ∧ At [(0, Pr.str x1), (3, Pr.is v2), (4, Pr.i64 x3)] [Own.vec v2 Rp.str x5 9] e C) ?_ ?_
  · rintro e C ⟨x3, x5, v2, h, hat2⟩
    refine W_at hat2 ?_
    clear hat2
    unfold ref01_Split_k2 at h
    refine W_join (fun e C => ∃ (x24 : List (List UInt8)), ∃ (v23 : Value), ref01_Split_j1 x24 = some r ∧ At [(3, Pr.is v23)] [Own.vec v23 Rp.str x24 9] e C) ?_ ?_
    · rintro e C ⟨x24, v23, h, hat1⟩
      refine W_at hat1 ?_
      clear hat1
      unfold ref01_Split_j1 at h
      refine W_rs ?_
      refine rq (out := Pr.is v23) qMove ?_
      refine rq (out := Pr.is v23) qAssign ?_
      refine W_rel 0 [2] ?_ rfl ⟨rfl, trivial⟩
      obtain rfl := Option.some.inj h
      exact W_ret ⟨rfl, Pr.le_rfl⟩
    · refine W_rs ?_
      refine rq (out := Pr.i64 x3) qMove ?_
      refine rq (out := Pr.str x1) qMove ?_
      refine rq (out := Pr.i64 (x1.length : Int)) (qLenS rfl Tryz.underlying9) ?_
      refine rq (out := Pr.bool (decide (x3 < (x1.length : Int)))) qInt ?_
      refine W_cond (b := decide (x3 < (x1.length : Int))) rfl (fun hc19 => ?_) (fun hc19 => ?_)
      · replace h := iteT hc19 h
        refine W_r ?_
        refine rq (out := Pr.is v2) qMove ?_
        refine rq (out := Pr.str x1) qMove ?_
        refine rq (out := Pr.i64 x3) qMove ?_
        obtain ⟨x20, hx20, h⟩ := bindSome h
        refine rq (out := Pr.str x20) (qSubL Tryz.underlying9 hx20) ?_
        refine rq (out := Pr.lst Rp.str ([x20] : List (List UInt8))) (qBuildSlice1 (R := Rp.str) (a := x20) el27 (Nat.le_of_ble_eq_true rfl)) ?_
        obtain ⟨x21, hx21, h⟩ := bindSome h
        refine rAppend' 0 el27 hx21 (fun v22 => ?_)
        refine rq (out := Pr.is v22) qAssign ?_
        exact ⟨x21, v22, h, ⟨⟨Pr.le_rfl, trivial⟩, Pick.refl _⟩⟩
      · replace h := iteF hc19 h
        refine W_skip ?_
        exact ⟨x5, v2, h, ⟨⟨Pr.le_rfl, trivial⟩, Pick.refl _⟩⟩
  · refine W_nil [3] Rp.str 9 (fun v25 => ?_) ⟨rfl, trivial⟩
    refine W_loop (fun m e C => ∃ (x3 : Int), ∃ (x4 : Int), ∃ (x5 : List (List UInt8)), ∃ (v2 : Value), IterN (fun s => ref01_Split_l3 x1 s.1 s.2.1 s.2.2) m (x3, x4, x5) = some z3l ∧ At [(0, Pr.str x1), (3, Pr.is v2), (4, Pr.i64 x3), (5, Pr.i64 x4)] [Own.vec v2 Rp.str x5 9] e C) n3 ⟨0, 0, [], v25, hN3, ⟨⟨Pr.le_rfl, Pr.le_rfl, Pr.le_rfl, Pr.le_rfl, trivial⟩, Pick.refl _⟩⟩ ?_
    clear hN3
    rintro m e C ⟨x3, x4, x5, v2, hN3, hatl3⟩
    refine W_at hatl3 ?_
    clear hatl3
    obtain ⟨m3, w3l, rfl, h3l, hn3, ho3⟩ := iterN_some hN3
    clear hN3
    replace h3l : ref01_Split_l3 x1 x3 x4 x5 = some w3l := h3l
    unfold ref01_Split_l3 at h3l
    refine W_seq ?_
    refine W_rs ?_
    refine rq (out := Pr.i64 x4) qMove ?_
    refine rq (out := Pr.str x1) qMove ?_
    refine rq (out := Pr.i64 (x1.length : Int)) (qLenS rfl Tryz.underlying9) ?_
    refine rq (out := Pr.bool (decide (x4 < (x1.length : Int)))) qInt ?_
    refine W_cond (b := decide (x4 < (x1.length : Int))) rfl (fun hc10 => ?_) (fun hc10 => ?_)
    · replace h3l := iteT hc10 h3l
      refine W_skip ?_
      refine W_join (fun e C => ∃ (x17 : Int), ∃ (x18 : List (List UInt8)), ∃ (v16 : Value), ref01_Split_j4 x4 x17 x18 = some w3l ∧ At [(0, Pr.str x1), (3, Pr.is v16), (4, Pr.i64 x17), (5, Pr.i64 x4)] [Own.vec v16 Rp.str x18 9] e C) ?_ ?_
      · rintro e C ⟨x17, x18, v16, h3l, hat4⟩
        refine W_at hat4 ?_
        clear hat4
        unfold ref01_Split_j4 at h3l
        refine W_r ?_
        refine rq (out := Pr.i64 x4) qMove ?_
        refine rq (out := Pr.i64 (w64 (x4 + 1))) qInt ?_
        refine rq (out := Pr.i64 (w64 (x4 + 1))) qAssign ?_
        exact ⟨m3, Nat.lt_succ_self _, x17, w64 (x4 + 1), x18, v16, hn3 _ (Option.some.inj h3l).symm, ⟨⟨Pr.le_rfl, Pr.le_rfl, Pr.le_rfl, Pr.le_rfl, trivial⟩, Pick.refl _⟩⟩
      · refine W_block ?_
        refine W_rs ?_
        refine rq (out := Pr.str x1) qMove ?_
        refine rq (out := Pr.i64 x4) qMove ?_
        obtain ⟨x11, hx11, h3l⟩ := bindSome h3l
        refine rq (out := Pr.u8 x11) (qIdxS Tryz.underlying9 hx11) ?_
        refine rq (out := Pr.bool (x11 == 10)) qInt ?_
        refine W_cond (b := x11 == 10) rfl (fun hc12 => ?_) (fun hc12 => ?_)
        · replace h3l := iteT hc12 h3l
          refine W_rs ?_
          refine rq (out := Pr.is v2) qMove ?_
          refine rq (out := Pr.str x1) qMove ?_
          refine rq (out := Pr.i64 x3) qMove ?_
          refine rq (out := Pr.i64 x4) qMove ?_
          refine rq (out := Pr.i64 (w64 (x4 + 1))) qInt ?_
          obtain ⟨x13, hx13, h3l⟩ := bindSome h3l
          refine rq (out := Pr.str x13) (qSubLH Tryz.underlying9 hx13) ?_
          refine rq (out := Pr.lst Rp.str ([x13] : List (List UInt8))) (qBuildSlice1 (R := Rp.str) (a := x13) el27 (Nat.le_of_ble_eq_true rfl)) ?_
          obtain ⟨x14, hx14, h3l⟩ := bindSome h3l
          refine rAppend' 0 el27 hx14 (fun v15 => ?_)
          refine rq (out := Pr.is v15) qAssign ?_
          refine W_r ?_
          refine rq (out := Pr.i64 x4) qMove ?_
          refine rq (out := Pr.i64 (w64 (x4 + 1))) qInt ?_
          refine rq (out := Pr.i64 (w64 (x4 + 1))) qAssign ?_
          exact ⟨w64 (x4 + 1), x14, v15, h3l, ⟨⟨Pr.le_rfl, Pr.le_rfl, Pr.le_rfl, Pr.le_rfl, trivial⟩, Pick.refl _⟩⟩
        · replace h3l := iteF hc12 h3l
          refine W_skip ?_
          exact ⟨x3, x5, v2, h3l, ⟨⟨Pr.le_rfl, Pr.le_rfl, Pr.le_rfl, Pr.le_rfl, trivial⟩, Pick.refl _⟩⟩
    · replace h3l := iteF hc10 h3l
      refine W_exit ?_
      obtain rfl := ho3 _ (Option.some.inj h3l).symm
      exact ⟨x3, x5, v2, h, ⟨⟨Pr.le_rfl, Pr.le_rfl, Pr.le_rfl, trivial⟩, Pick.refl _⟩⟩
theorem ref08_Lines_ok (x1 : List UInt8) (x2 : List UInt8) (x3 : List UInt8) (r : (List ApiPart)) (h : ref08_Lines x1 x2 x3 = some r) : FnP Tryz.prog 14 [Pr.str x1, Pr.str x2, Pr.str x3] (Pr.lst rApiPart r) := by
  refine fn_intro (n := 14) (rs := [6]) Tryz.func14 rfl Tryz.ntmps14 ⟨by decide, Tryz.results14⟩ (by decide) (fun s0 => ?_)
  unfold ref08_Lines at h
  refine W_rs ?_
  refine rq (out := Pr.is (.slice none 0 0)) qAssign ?_
  refine W_rs ?_
  refine rq (out := Pr.str x1) qMove ?_
  obtain ⟨x4, hx4, h⟩ := bindSome h
  refine rq (out := Pr.lst Rp.str x4) (qCall (ref01_Split_ok x1 _ hx4)) ?_
  refine rq (out := Pr.str x2) qMove ?_
  obtain ⟨x5, hx5, h⟩ := bindSome h
  refine rq (out := Pr.lst Rp.str x5) (qCall (ref01_Split_ok x2 _ hx5)) ?_
  refine rq (out := Pr.str x3) qMove ?_
  obtain ⟨x6, hx6, h⟩ := bindSome h
  refine rq (out := Pr.lst Rp.str x6) (qCall (ref01_Split_ok x3 _ hx6)) ?_
  obtain ⟨x7, hx7, h⟩ := bindSome h
  refine rq (out := Pr.lst rApiPart x7) (qCall (ref08_parts_ok x4 x5 x6 _ hx7)) ?_
  refine rq (out := Pr.lst rApiPart x7) qAssign ?_
  obtain rfl := Option.some.inj h
  exact W_ret ⟨rfl, Pr.le_rfl⟩
theorem ref08_Join_ok (x1 : List ApiPart) (r : (List UInt8) × Bool) (h : ref08_Join x1 = some r) : FnP Tryz.prog 22 [Pr.lst rApiPart x1] (Pr.tup [Pr.str r.1, Pr.bool r.2]) := by
  refine fn_intro (n := 25) (rs := [2, 3]) Tryz.func22 rfl Tryz.ntmps22 ⟨by decide, Tryz.results22⟩ (by decide) (fun s0 => ?_)
  unfold ref08_Join at h
  refine W_rs ?_
  refine rq (out := Pr.str []) qAssign ?_
  refine rq (out := Pr.bool false) qAssign ?_
  refine W_rs ?_
  refine rq (out := Pr.str []) qAssign ?_
  refine W_seq ?_
  refine W_rs ?_
  refine rq (out := Pr.i64 0) qAssign ?_
  refine W_block ?_
  obtain ⟨z2l, hz2, h⟩ := bindSome h
  obtain ⟨n2, hN2⟩ := iter_some hz2
  clear hz2
  refine W_after 0 (fun e C => ∃ (x2 : List UInt8), ref08_Join_k1 x2 = some r ∧ At [(4, Pr.str x2)] [] e C) ?_ ?_
  · rintro e C ⟨x2, h, hat1⟩
    refine W_at hat1 ?_
    clear hat1
    unfold ref08_Join_k1 at h
    refine W_rs ?_
    refine rq (out := Pr.str x2) qMove ?_
    refine rq (out := Pr.str x2) qAssign ?_
    refine rq (out := Pr.bool true) qAssign ?_
    obtain rfl := Option.some.inj h
    exact W_ret ⟨rfl, Pr.le_rfl⟩
  · refine W_loop (fun m e C => ∃ (x2 : List UInt8), ∃ (x3 : Int), IterN (fun s => ref08_Join_l2 x1 s.1 s.2) m (x2, x3) = some z2l ∧ At [(0, Pr.lst rApiPart x1), (4, Pr.str x2), (5, Pr.i64 x3)] [] e C) n2 ⟨[], 0, hN2, ⟨⟨Pr.le_rfl, Pr.le_rfl, Pr.le_rfl, trivial⟩, Pick.refl _⟩⟩ ?_
    clear hN2
    rintro m e C ⟨x2, x3, hN2, hatl2⟩
    refine W_at hatl2 ?_
    clear hatl2
    obtain ⟨m2, w2l, rfl, h2l, hn2, ho2⟩ := iterN_some hN2
    clear hN2
    replace h2l : ref08_Join_l2 x1 x2 x3 = some w2l := h2l
    unfold ref08_Join_l2 at h2l
    refine W_seq ?_
    refine W_rs ?_
    refine rq (out := Pr.i64 x3) qMove ?_
    refine rq (out := Pr.lst rApiPart x1) qMove ?_
    refine rq (out := Pr.i64 (x1.length : Int)) (qLenL rfl Tryz.underlying24) ?_
    refine rq (out := Pr.bool (decide (x3 < (x1.length : Int)))) qInt ?_
    refine W_cond (b := decide (x3 < (x1.length : Int))) rfl (fun hc6 => ?_) (fun hc6 => ?_)
    · replace h2l := iteT hc6 h2l
      refine W_skip ?_
      refine W_seq ?_
      refine W_block ?_
      refine W_seq ?_
      refine W_rs ?_
      refine rq (out := Pr.lst rApiPart x1) qMove ?_
      refine rq (out := Pr.i64 x3) qMove ?_
      obtain ⟨x7, hx7, h2l⟩ := bindSome h2l
      refine rq (out := Pr.cpt rApiPart x7) (qIdxA (R := rApiPart) (l := x1) Tryz.underlying24 Tryz.sizeOf37 hx7) ?_
      refine rq (out := Pr.cpt Rp.bool x7.Clash) (qFieldC (R := rApiPart) (a := x7) fld37_0 subApiPart_Clash) ?_
      refine rq (out := Pr.bool x7.Clash) (qLoadC (R := Rp.bool) (a := x7.Clash) ty4) ?_
      refine W_cond (b := x7.Clash) rfl (fun hc8 => ?_) (fun hc8 => ?_)
      · replace h2l := iteT hc8 h2l
        refine W_rs ?_
        refine rq (out := Pr.str []) qAssign ?_
        refine rq (out := Pr.bool false) qAssign ?_
        obtain rfl := ho2 _ (Option.some.inj h2l).symm
        replace h : some ([], false) = some r := h
        obtain rfl := Option.some.inj h
        exact W_ret ⟨rfl, Pr.le_rfl⟩
      · replace h2l := iteF hc8 h2l
        refine W_skip ?_
        refine W_r ?_
        refine rq (out := Pr.str x2) qMove ?_
        refine rq (out := Pr.lst rApiPart x1) qMove ?_
        refine rq (out := Pr.i64 x3) qMove ?_
        obtain ⟨x9, hx9, h2l⟩ := bindSome h2l
        refine rq (out := Pr.cpt rApiPart x9) (qIdxA (R := rApiPart) (l := x1) Tryz.underlying24 Tryz.sizeOf37 hx9) ?_
        refine rq (out := Pr.cpt Rp.str x9.A) (qFieldC (R := rApiPart) (a := x9) fld37_2 subApiPart_A) ?_
        refine rq (out := Pr.str x9.A) (qLoadC (R := Rp.str) (a := x9.A) ty9) ?_
        obtain ⟨x10, hx10, h2l⟩ := bindSome h2l
        refine rq (out := Pr.str x10) (qCat' hx10) ?_
        refine rq (out := Pr.str x10) qAssign ?_
        refine W_r ?_
        refine rq (out := Pr.i64 x3) qMove ?_
        refine rq (out := Pr.i64 (w64 (x3 + 1))) qInt ?_
        refine rq (out := Pr.i64 (w64 (x3 + 1))) qAssign ?_
        exact ⟨m2, Nat.lt_succ_self _, x10, w64 (x3 + 1), hn2 _ (Option.some.inj h2l).symm, ⟨⟨Pr.le_rfl, Pr.le_rfl, Pr.le_rfl, trivial⟩, Pick.refl _⟩⟩
    · replace h2l := iteF hc6 h2l
      refine W_exit ?_
      obtain rfl := ho2 _ (Option.some.inj h2l).symm
      exact ⟨x2, h, ⟨⟨Pr.le_rfl, trivial⟩, Pick.refl _⟩⟩
theorem ref08_Text_ok (x1 : List UInt8) (x2 : List UInt8) (x3 : List UInt8) (r : (List UInt8) × Bool) (h : ref08_Text x1 x2 x3 = some r) : FnP Tryz.prog 11 [Pr.str x1, Pr.str x2, Pr.str x3] (Pr.tup [Pr.str r.1, Pr.bool r.2]) := by
  refine fn_intro (n := 47) (rs := [6, 7]) Tryz.func11 rfl Tryz.ntmps11 ⟨by decide, Tryz.results11⟩ (by decide) (fun s0 => ?_)
  unfold ref08_Text at h
  refine W_rs ?_
  refine rq (out := Pr.str []) qAssign ?_
  refine rq (out := Pr.bool false) qAssign ?_
  refine W_seq ?_
  refine W_rs ?_
  refine rq (out := Pr.str x2) qMove ?_
  refine rq (out := Pr.str x1) qMove ?_
  refine rq (out := Pr.bool (x2 == x1)) qStr ?_
  refine W_cond (b := x2 == x1) rfl (fun hc4 => ?_) (fun hc4 => ?_)
  · replace h := iteT hc4 h
    refine W_rs ?_
    refine rq (out := Pr.str x3) qMove ?_
    refine rq (out := Pr.str x3) qAssign ?_
    refine rq (out := Pr.bool true) qAssign ?_
    obtain rfl := Option.some.inj h
    exact W_ret ⟨rfl, Pr.le_rfl⟩
  · replace h := iteF hc4 h
    refine W_skip ?_
    refine W_seq ?_
    refine W_join (fun e C => ∃ (x6 : Bool), ref08_Text_j2 x2 x1 x3 x6 = some r ∧ At [(0, Pr.str x1), (1, Pr.str x2), (2, Pr.str x3), (23, Pr.bool x6)] [] e C) ?_ ?_
    · rintro e C ⟨x6, h, hat2⟩
      refine W_at hat2 ?_
      clear hat2
      unfold ref08_Text_j2 at h
      refine W_cond (b := x6) rfl (fun hc7 => ?_) (fun hc7 => ?_)
      · replace h := iteT hc7 h
        refine W_rs ?_
        refine rq (out := Pr.str x2) qMove ?_
        refine rq (out := Pr.str x2) qAssign ?_
        refine rq (out := Pr.bool true) qAssign ?_
        obtain rfl := Option.some.inj h
        exact W_ret ⟨rfl, Pr.le_rfl⟩
      · replace h := iteF hc7 h
        refine W_skip ?_
        refine W_rs ?_
        refine rq (out := Pr.str x1) qMove ?_
        refine rq (out := Pr.str x2) qMove ?_
        refine rq (out := Pr.str x3) qMove ?_
        obtain ⟨⟨x8, x9⟩, hx8, h⟩ := bindSome h
        refine rq (out := Pr.tup [Pr.lst rApiPart x8, Pr.bool x9]) (qCall (ref08_Tokens_ok x1 x2 x3 _ hx8)) ?_
        refine rq (out := Pr.tup [Pr.lst rApiPart x8, Pr.bool x9]) qMove ?_
        refine rq (out := Pr.lst rApiPart x8) qExtract ?_
        refine rq (out := Pr.bool x9) qExtract ?_
        refine rq (out := Pr.lst rApiPart x8) qAssign ?_
        refine rq (out := Pr.bool x9) qAssign ?_
        refine W_join (fun e C => ref08_Text_j1 x1 x2 x3 = some r ∧ At [(0, Pr.str x1), (1, Pr.str x2), (2, Pr.str x3)] [] e C) ?_ ?_
        · rintro e C ⟨h, hat1⟩
          refine W_at hat1 ?_
          clear hat1
          unfold ref08_Text_j1 at h
          refine W_rs ?_
          refine rq (out := Pr.str x1) qMove ?_
          refine rq (out := Pr.str x2) qMove ?_
          refine rq (out := Pr.str x3) qMove ?_
          obtain ⟨x14, hx14, h⟩ := bindSome h
          refine rq (out := Pr.lst rApiPart x14) (qCall (ref08_Lines_ok x1 x2 x3 _ hx14)) ?_
          obtain ⟨⟨x15, x16⟩, hx15, h⟩ := bindSome h
          refine rq (out := Pr.tup [Pr.str x15, Pr.bool x16]) (qCall (ref08_Join_ok x14 _ hx15)) ?_
          refine rq (out := Pr.str x15) qExtract ?_
          refine rq (out := Pr.bool x16) qExtract ?_
          refine rq (out := Pr.str x15) qAssign ?_
          refine rq (out := Pr.bool x16) qAssign ?_
          obtain rfl := Option.some.inj h
          exact W_ret ⟨rfl, Pr.le_rfl⟩
        · refine W_rs ?_
          refine rq (out := Pr.bool x9) qMove ?_
          refine W_cond (b := x9) rfl (fun hc10 => ?_) (fun hc10 => ?_)
          · replace h := iteT hc10 h
            refine W_rs ?_
            refine rq (out := Pr.lst rApiPart x8) qMove ?_
            obtain ⟨⟨x11, x12⟩, hx11, h⟩ := bindSome h
            refine rq (out := Pr.tup [Pr.str x11, Pr.bool x12]) (qCall (ref08_Join_ok x8 _ hx11)) ?_
            refine rq (out := Pr.tup [Pr.str x11, Pr.bool x12]) qMove ?_
            refine rq (out := Pr.str x11) qExtract ?_
            refine rq (out := Pr.bool x12) qExtract ?_
            refine rq (out := Pr.str x11) qAssign ?_
            refine rq (out := Pr.bool x12) qAssign ?_
            refine W_rs ?_
            refine rq (out := Pr.bool x12) qMove ?_
            refine W_cond (b := x12) rfl (fun hc13 => ?_) (fun hc13 => ?_)
            · replace h := iteT hc13 h
              refine W_rs ?_
              refine rq (out := Pr.str x11) qMove ?_
              refine rq (out := Pr.str x11) qAssign ?_
              refine rq (out := Pr.bool true) qAssign ?_
              obtain rfl := Option.some.inj h
              exact W_ret ⟨rfl, Pr.le_rfl⟩
            · replace h := iteF hc13 h
              refine W_skip ?_
              exact ⟨h, ⟨⟨Pr.le_rfl, Pr.le_rfl, Pr.le_rfl, trivial⟩, Pick.refl _⟩⟩
          · replace h := iteF hc10 h
            refine W_skip ?_
            exact ⟨h, ⟨⟨Pr.le_rfl, Pr.le_rfl, Pr.le_rfl, trivial⟩, Pick.refl _⟩⟩
    · refine W_r ?_
      refine rq (out := Pr.str x3) qMove ?_
      refine rq (out := Pr.str x1) qMove ?_
      refine rq (out := Pr.bool (x3 == x1)) qStr ?_
      refine rq (out := Pr.bool (x3 == x1)) qMove ?_
      rcases iteSome h with ⟨hc5, h⟩ | ⟨hc5, h⟩
      · refine rno (neF hc5) ?_
        refine rno (neF hc5) ?_
        refine rno (neF hc5) ?_
        refine rq (out := Pr.bool true) (qPickT hc5) ?_
        exact ⟨true, h, ⟨⟨Pr.le_rfl, Pr.le_rfl, Pr.le_rfl, Pr.le_rfl, trivial⟩, Pick.refl _⟩⟩
      · refine rqg hc5 (out := Pr.str x2) qMove ?_
        refine rqg hc5 (out := Pr.str x3) qMove ?_
        refine rqg hc5 (out := Pr.bool (x2 == x3)) qStr ?_
        refine rq (out := Pr.bool (x2 == x3)) (qPickF hc5) ?_
        exact ⟨x2 == x3, h, ⟨⟨Pr.le_rfl, Pr.le_rfl, Pr.le_rfl, Pr.le_rfl, trivial⟩, Pick.refl _⟩⟩
theorem ref08_Same_ok (x1 : List ApiPart) (x2 : List ApiPart) (r : Bool) (h : ref08_Same x1 x2 = some r) : FnP Tryz.prog 12 [Pr.lst rApiPart x1, Pr.lst rApiPart x2] (Pr.bool r) := by
  refine fn_intro (n := 26) (rs := [4]) Tryz.func12 rfl Tryz.ntmps12 ⟨by decide, Tryz.results12⟩ (by decide) (fun s0 => ?_)
  unfold ref08_Same at h
  refine W_rs ?_
  refine rq (out := Pr.bool false) qAssign ?_
  refine W_seq ?_
  refine W_rs ?_
  refine rq (out := Pr.lst rApiPart x1) qMove ?_
  refine rq (out := Pr.i64 (x1.length : Int)) (qLenL rfl Tryz.underlying24) ?_
  refine rq (out := Pr.lst rApiPart x2) qMove ?_
  refine rq (out := Pr.i64 (x2.length : Int)) (qLenL rfl Tryz.underlying24) ?_
  refine rq (out := Pr.bool ((x1.length : Int) != (x2.length : Int))) qInt ?_
  refine W_cond (b := (x1.length : Int) != (x2.length : Int)) rfl (fun hc3 => ?_) (fun hc3 => ?_)
  · replace h := iteT hc3 h
    refine W_rs ?_
    refine rq (out := Pr.bool false) qAssign ?_
    obtain rfl := Option.some.inj h
    exact W_ret ⟨rfl, Pr.le_rfl⟩
  · replace h := iteF hc3 h
    refine W_skip ?_
    refine W_seq ?_
    refine W_rs ?_
    refine rq (out := Pr.i64 0) qAssign ?_
    refine W_block ?_
    obtain ⟨z2l, hz2, h⟩ := bindSome h
    obtain ⟨n2, hN2⟩ := iter_some hz2
    clear hz2
    refine W_after 0 (fun e C => ref08_Same_k1 = some r ∧ At [] [] e C) ?_ ?_
    · rintro e C ⟨h, hat1⟩
      refine W_at hat1 ?_
      clear hat1
      unfold ref08_Same_k1 at h
      refine W_rs ?_
      refine rq (out := Pr.bool true) qAssign ?_
      obtain rfl := Option.some.inj h
      exact W_ret ⟨rfl, Pr.le_rfl⟩
    · refine W_loop (fun m e C => ∃ (x4 : Int), IterN (fun s => ref08_Same_l2 x1 x2 s) m x4 = some z2l ∧ At [(0, Pr.lst rApiPart x1), (1, Pr.lst rApiPart x2), (5, Pr.i64 x4)] [] e C) n2 ⟨0, hN2, ⟨⟨Pr.le_rfl, Pr.le_rfl, Pr.le_rfl, trivial⟩, Pick.refl _⟩⟩ ?_
      clear hN2
      rintro m e C ⟨x4, hN2, hatl2⟩
      refine W_at hatl2 ?_
      clear hatl2
      obtain ⟨m2, w2l, rfl, h2l, hn2, ho2⟩ := iterN_some hN2
      clear hN2
      replace h2l : ref08_Same_l2 x1 x2 x4 = some w2l := h2l
      unfold ref08_Same_l2 at h2l
      refine W_seq ?_
      refine W_rs ?_
      refine rq (out := Pr.i64 x4) qMove ?_
      refine rq (out := Pr.lst rApiPart x1) qMove ?_
      refine rq (out := Pr.i64 (x1.length : Int)) (qLenL rfl Tryz.underlying24) ?_
      refine rq (out := Pr.bool (decide (x4 < (x1.length : Int)))) qInt ?_
      refine W_cond (b := decide (x4 < (x1.length : Int))) rfl (fun hc6 => ?_) (fun hc6 => ?_)
      · replace h2l := iteT hc6 h2l
        refine W_skip ?_
        refine W_seq ?_
        refine W_block ?_
        refine W_join (fun e C => ∃ (x7 : ApiPart), ∃ (x8 : ApiPart), ref08_Same_j3 x4 x7 x8 = some w2l ∧ At [(0, Pr.lst rApiPart x1), (1, Pr.lst rApiPart x2), (5, Pr.i64 x4), (25, Pr.bool (!decide (x7 = x8)))] [] e C) ?_ ?_
        · rintro e C ⟨x7, x8, h2l, hat3⟩
          refine W_at hat3 ?_
          clear hat3
          unfold ref08_Same_j3 at h2l
          refine W_cond (b := !decide (x7 = x8)) rfl (fun hc9 => ?_) (fun hc9 => ?_)
          · replace h2l := iteT hc9 h2l
            refine W_rs ?_
            refine rq (out := Pr.bool false) qAssign ?_
            obtain rfl := ho2 _ (Option.some.inj h2l).symm
            replace h : some false = some r := h
            obtain rfl := Option.some.inj h
            exact W_ret ⟨rfl, Pr.le_rfl⟩
          · replace h2l := iteF hc9 h2l
            refine W_skip ?_
            refine W_r ?_
            refine rq (out := Pr.i64 x4) qMove ?_
            refine rq (out := Pr.i64 (w64 (x4 + 1))) qInt ?_
            refine rq (out := Pr.i64 (w64 (x4 + 1))) qAssign ?_
            exact ⟨m2, Nat.lt_succ_self _, w64 (x4 + 1), hn2 _ (Option.some.inj h2l).symm, ⟨⟨Pr.le_rfl, Pr.le_rfl, Pr.le_rfl, trivial⟩, Pick.refl _⟩⟩
        · refine W_draw 9 hmx (by kernel_rfl) (by kernel_rfl) ?_
          refine qq (out := Pr.lst rApiPart x1) qMove ?_
          refine qq (out := Pr.i64 x4) qMove ?_
          obtain ⟨x7, hx7, h2l⟩ := bindSome h2l
          refine qq (out := Pr.cpt rApiPart x7) (qIdxA (R := rApiPart) (l := x1) Tryz.underlying24 Tryz.sizeOf37 hx7) ?_
          refine qq (out := (rApiPart).val x7) (qLoadC (R := rApiPart) (a := x7) ty37) ?_
          refine qq (out := Pr.lst rApiPart x2) qMove ?_
          refine qq (out := Pr.i64 x4) qMove ?_
          obtain ⟨x8, hx8, h2l⟩ := bindSome h2l
          refine qq (out := Pr.cpt rApiPart x8) (qIdxA (R := rApiPart) (l := x2) Tryz.underlying24 Tryz.sizeOf37 hx8) ?_
          refine qq (out := (rApiPart).val x8) (qLoadC (R := rApiPart) (a := x8) ty37) ?_
          refine qq (out := Pr.bool (!decide (x7 = x8))) (qStNe (a := x7) (b := x8) eqApiPart (by decide) rfl eqgApiPart) ?_
          exact ⟨x7, x8, h2l, ⟨⟨Pr.le_rfl, Pr.le_rfl, Pr.le_rfl, Pr.le_rfl, trivial⟩, Pick.refl _⟩⟩
      · replace h2l := iteF hc6 h2l
        refine W_exit ?_
        obtain rfl := ho2 _ (Option.some.inj h2l).symm
        exact ⟨h, ⟨trivial, Pick.refl _⟩⟩
theorem ref01_Same_ok (x1 : List (List UInt8)) (x2 : List (List UInt8)) (r : Bool) (h : ref01_Same x1 x2 = some r) : FnP Tryz.prog 15 [Pr.lst Rp.str x1, Pr.lst Rp.str x2] (Pr.bool r) := by
  refine fn_intro (n := 26) (rs := [4]) Tryz.func15 rfl Tryz.ntmps15 ⟨by decide, Tryz.results15⟩ (by decide) (fun s0 => ?_)
  unfold ref01_Same at h
  refine W_rs ?_
  refine rq (out := Pr.bool false) qAssign ?_
  refine W_seq ?_
  refine W_rs ?_
  refine rq (out := Pr.lst Rp.str x1) qMove ?_
  refine rq (out := Pr.i64 (x1.length : Int)) (qLenL rfl Tryz.underlying27) ?_
  refine rq (out := Pr.lst Rp.str x2) qMove ?_
  refine rq (out := Pr.i64 (x2.length : Int)) (qLenL rfl Tryz.underlying27) ?_
  refine rq (out := Pr.bool ((x1.length : Int) != (x2.length : Int))) qInt ?_
  refine W_cond (b := (x1.length : Int) != (x2.length : Int)) rfl (fun hc3 => ?_) (fun hc3 => ?_)
  · replace h := iteT hc3 h
    refine W_rs ?_
    refine rq (out := Pr.bool false) qAssign ?_
    obtain rfl := Option.some.inj h
    exact W_ret ⟨rfl, Pr.le_rfl⟩
  · replace h := iteF hc3 h
    refine W_skip ?_
    refine W_seq ?_
    refine W_rs ?_
    refine rq (out := Pr.i64 0) qAssign ?_
    refine W_block ?_
    obtain ⟨z2l, hz2, h⟩ := bindSome h
    obtain ⟨n2, hN2⟩ := iter_some hz2
    clear hz2
    refine W_after 0 (fun e C => ref01_Same_k1 = some r ∧ At [] [] e C) ?_ ?_
    · rintro e C ⟨h, hat1⟩
      refine W_at hat1 ?_
      clear hat1
      unfold ref01_Same_k1 at h
      refine W_rs ?_
      refine rq (out := Pr.bool true) qAssign ?_
      obtain rfl := Option.some.inj h
      exact W_ret ⟨rfl, Pr.le_rfl⟩
    · refine W_loop (fun m e C => ∃ (x4 : Int), IterN (fun s => ref01_Same_l2 x1 x2 s) m x4 = some z2l ∧ At [(0, Pr.lst Rp.str x1), (1, Pr.lst Rp.str x2), (5, Pr.i64 x4)] [] e C) n2 ⟨0, hN2, ⟨⟨Pr.le_rfl, Pr.le_rfl, Pr.le_rfl, trivial⟩, Pick.refl _⟩⟩ ?_
      clear hN2
      rintro m e C ⟨x4, hN2, hatl2⟩
      refine W_at hatl2 ?_
      clear hatl2
      obtain ⟨m2, w2l, rfl, h2l, hn2, ho2⟩ := iterN_some hN2
      clear hN2
      replace h2l : ref01_Same_l2 x1 x2 x4 = some w2l := h2l
      unfold ref01_Same_l2 at h2l
      refine W_seq ?_
      refine W_rs ?_
      refine rq (out := Pr.i64 x4) qMove ?_
      refine rq (out := Pr.lst Rp.str x1) qMove ?_
      refine rq (out := Pr.i64 (x1.length : Int)) (qLenL rfl Tryz.underlying27) ?_
      refine rq (out := Pr.bool (decide (x4 < (x1.length : Int)))) qInt ?_
      refine W_cond (b := decide (x4 < (x1.length : Int))) rfl (fun hc6 => ?_) (fun hc6 => ?_)
      · replace h2l := iteT hc6 h2l
        refine W_skip ?_
        refine W_seq ?_
        refine W_block ?_
        refine W_join (fun e C => ∃ (x7 : List UInt8), ∃ (x8 : List UInt8), ref01_Same_j3 x4 x7 x8 = some w2l ∧ At [(0, Pr.lst Rp.str x1), (1, Pr.lst Rp.str x2), (5, Pr.i64 x4), (25, Pr.bool (!(x7 == x8)))] [] e C) ?_ ?_
        · rintro e C ⟨x7, x8, h2l, hat3⟩
          refine W_at hat3 ?_
          clear hat3
          unfold ref01_Same_j3 at h2l
          refine W_cond (b := !(x7 == x8)) rfl (fun hc9 => ?_) (fun hc9 => ?_)
          · replace h2l := iteT hc9 h2l
            refine W_rs ?_
            refine rq (out := Pr.bool false) qAssign ?_
            obtain rfl := ho2 _ (Option.some.inj h2l).symm
            replace h : some false = some r := h
            obtain rfl := Option.some.inj h
            exact W_ret ⟨rfl, Pr.le_rfl⟩
          · replace h2l := iteF hc9 h2l
            refine W_skip ?_
            refine W_r ?_
            refine rq (out := Pr.i64 x4) qMove ?_
            refine rq (out := Pr.i64 (w64 (x4 + 1))) qInt ?_
            refine rq (out := Pr.i64 (w64 (x4 + 1))) qAssign ?_
            exact ⟨m2, Nat.lt_succ_self _, w64 (x4 + 1), hn2 _ (Option.some.inj h2l).symm, ⟨⟨Pr.le_rfl, Pr.le_rfl, Pr.le_rfl, trivial⟩, Pick.refl _⟩⟩
        · refine W_draw 9 hmx (by kernel_rfl) (by kernel_rfl) ?_
          refine qq (out := Pr.lst Rp.str x1) qMove ?_
          refine qq (out := Pr.i64 x4) qMove ?_
          obtain ⟨x7, hx7, h2l⟩ := bindSome h2l
          refine qq (out := Pr.cpt Rp.str x7) (qIdxA (R := Rp.str) (l := x1) Tryz.underlying27 Tryz.sizeOf9 hx7) ?_
          refine qq (out := Pr.str x7) (qLoadC (R := Rp.str) (a := x7) ty9) ?_
          refine qq (out := Pr.lst Rp.str x2) qMove ?_
          refine qq (out := Pr.i64 x4) qMove ?_
          obtain ⟨x8, hx8, h2l⟩ := bindSome h2l
          refine qq (out := Pr.cpt Rp.str x8) (qIdxA (R := Rp.str) (l := x2) Tryz.underlying27 Tryz.sizeOf9 hx8) ?_
          refine qq (out := Pr.str x8) (qLoadC (R := Rp.str) (a := x8) ty9) ?_
          refine qq (out := Pr.bool (!(x7 == x8))) qStr ?_
          exact ⟨x7, x8, h2l, ⟨⟨Pr.le_rfl, Pr.le_rfl, Pr.le_rfl, Pr.le_rfl, trivial⟩, Pick.refl _⟩⟩
      · replace h2l := iteF hc6 h2l
        refine W_exit ?_
        obtain rfl := ho2 _ (Option.some.inj h2l).symm
        exact ⟨h, ⟨trivial, Pick.refl _⟩⟩
theorem law08_awake_ok (r : Bool) (h : law08_awake = some r) : FnP Tryz.prog 4 [] (Pr.bool r) := by
  refine fn_intro (n := 80) (rs := [0]) Tryz.func4 rfl Tryz.ntmps4 ⟨by decide, Tryz.results4⟩ (by decide) (fun s0 => ?_)
  unfold law08_awake at h
  refine W_rs ?_
  refine rq (out := Pr.bool false) qAssign ?_
  refine W_rs ?_
  obtain ⟨⟨x1, x2⟩, hx1, h⟩ := bindSome h
  refine rq (out := Pr.tup [Pr.str x1, Pr.bool x2]) (qCall (weave_Text_ok ([97, 61, 98, 43, 99, 59] : List UInt8) ([120, 61, 98, 43, 99, 59] : List UInt8) ([97, 61, 98, 43, 100, 59] : List UInt8) _ hx1)) ?_
  refine rq (out := Pr.tup [Pr.str x1, Pr.bool x2]) qMove ?_
  refine rq (out := Pr.str x1) qExtract ?_
  refine rq (out := Pr.bool x2) qExtract ?_
  refine rq (out := Pr.str x1) qAssign ?_
  refine rq (out := Pr.bool x2) qAssign ?_
  refine W_rs ?_
  obtain ⟨x3, hx3, h⟩ := bindSome h
  refine rq (out := Pr.lst rApiPart x3) (qCall (weave_Lines_ok ([97, 10] : List UInt8) ([98, 10] : List UInt8) ([99, 10] : List UInt8) _ hx3)) ?_
  refine rq (out := Pr.lst rApiPart x3) qAssign ?_
  refine W_rs ?_
  obtain ⟨⟨x4, x5⟩, hx4, h⟩ := bindSome h
  refine rq (out := Pr.tup [Pr.lst Rp.str x4, Pr.bool x5]) (qCall (weave_Units_ok ([97, 32, 98] : List UInt8) _ hx4)) ?_
  refine rq (out := Pr.tup [Pr.lst Rp.str x4, Pr.bool x5]) qMove ?_
  refine rq (out := Pr.lst Rp.str x4) qExtract ?_
  refine rq (out := Pr.bool x5) qExtract ?_
  refine rq (out := Pr.lst Rp.str x4) qAssign ?_
  refine rq (out := Pr.bool x5) qAssign ?_
  refine W_rs ?_
  obtain ⟨⟨x6, x7⟩, hx6, h⟩ := bindSome h
  refine rq (out := Pr.tup [Pr.lst rApiPart x6, Pr.bool x7]) (qCall (weave_Tokens_ok ([97] : List UInt8) ([97] : List UInt8) ([98] : List UInt8) _ hx6)) ?_
  refine rq (out := Pr.tup [Pr.lst rApiPart x6, Pr.bool x7]) qMove ?_
  refine rq (out := Pr.lst rApiPart x6) qExtract ?_
  refine rq (out := Pr.bool x7) qExtract ?_
  refine rq (out := Pr.lst rApiPart x6) qAssign ?_
  refine rq (out := Pr.bool x7) qAssign ?_
  refine W_rs ?_
  refine rq (out := Pr.lst rApiPart x6) qMove ?_
  obtain ⟨⟨x8, x9⟩, hx8, h⟩ := bindSome h
  refine rq (out := Pr.tup [Pr.str x8, Pr.bool x9]) (qCall (weave_Join_ok x6 _ hx8)) ?_
  refine rq (out := Pr.tup [Pr.str x8, Pr.bool x9]) qMove ?_
  refine rq (out := Pr.str x8) qExtract ?_
  refine rq (out := Pr.bool x9) qExtract ?_
  refine rq (out := Pr.str x8) qAssign ?_
  refine rq (out := Pr.bool x9) qAssign ?_
  refine W_join (fun e C => ∃ (x3157 : Bool), law08_awake_j1 x3157 = some r ∧ At [(0, Pr.bool x3157)] [] e C) ?_ ?_
  · rintro e C ⟨x3157, h, hat1⟩
    refine W_at hat1 ?_
    clear hat1
    unfold law08_awake_j1 at h
    obtain rfl := Option.some.inj h
    exact W_ret ⟨rfl, Pr.le_rfl⟩
  · refine W_r ?_
    refine rq (out := Pr.bool x2) qMove ?_
    refine rq (out := Pr.bool x2) qMove ?_
    rcases iteSome h with ⟨hc10, h⟩ | ⟨hc10, h⟩
    · refine rqg hc10 (out := Pr.str x1) qMove ?_
      refine rqg hc10 (out := Pr.bool (x1 == ([120, 61, 98, 43, 100, 59] : List UInt8))) qStr ?_
      refine rq (out := Pr.bool (x1 == ([120, 61, 98, 43, 100, 59] : List UInt8))) (qPickT hc10) ?_
      refine rq (out := Pr.bool (x1 == ([120, 61, 98, 43, 100, 59] : List UInt8))) qMove ?_
      rcases iteSome h with ⟨hc11, h⟩ | ⟨hc11, h⟩
      · refine rqg hc11 (out := Pr.lst rApiPart x3) qMove ?_
        refine rqg hc11 (out := Pr.i64 (x3.length : Int)) (qLenL rfl Tryz.underlying24) ?_
        refine rqg hc11 (out := Pr.bool ((x3.length : Int) == 1)) qInt ?_
        refine rq (out := Pr.bool ((x3.length : Int) == 1)) (qPickT hc11) ?_
        refine rq (out := Pr.bool ((x3.length : Int) == 1)) qMove ?_
        rcases iteSome h with ⟨hc12, h⟩ | ⟨hc12, h⟩
        · refine rqg hc12 (out := Pr.lst rApiPart x3) qMove ?_
          obtain ⟨x13, hx13, h⟩ := bindSome h
          refine rqg hc12 (out := Pr.cpt rApiPart x13) (qIdxA (R := rApiPart) (l := x3) Tryz.underlying24 Tryz.sizeOf37 hx13) ?_
          refine rqg hc12 (out := Pr.cpt Rp.bool x13.Clash) (qFieldC (R := rApiPart) (a := x13) fld37_0 subApiPart_Clash) ?_
          refine rqg hc12 (out := Pr.bool x13.Clash) (qLoadC (R := Rp.bool) (a := x13.Clash) ty4) ?_
          refine rq (out := Pr.bool x13.Clash) (qPickT hc12) ?_
          refine rq (out := Pr.bool x13.Clash) qMove ?_
          rcases iteSome h with ⟨hc14, h⟩ | ⟨hc14, h⟩
          · refine rqg hc14 (out := Pr.lst rApiPart x3) qMove ?_
            obtain ⟨x15, hx15, h⟩ := bindSome h
            refine rqg hc14 (out := Pr.cpt rApiPart x15) (qIdxA (R := rApiPart) (l := x3) Tryz.underlying24 Tryz.sizeOf37 hx15) ?_
            refine rqg hc14 (out := Pr.cpt Rp.str x15.B) (qFieldC (R := rApiPart) (a := x15) fld37_3 subApiPart_B) ?_
            refine rqg hc14 (out := Pr.str x15.B) (qLoadC (R := Rp.str) (a := x15.B) ty9) ?_
            refine rqg hc14 (out := Pr.bool (x15.B == ([99, 10] : List UInt8))) qStr ?_
            refine rq (out := Pr.bool (x15.B == ([99, 10] : List UInt8))) (qPickT hc14) ?_
            refine rq (out := Pr.bool (x15.B == ([99, 10] : List UInt8))) qMove ?_
            rcases iteSome h with ⟨hc16, h⟩ | ⟨hc16, h⟩
            · refine rqg hc16 (out := Pr.bool x5) qMove ?_
              refine rq (out := Pr.bool x5) (qPickT hc16) ?_
              refine rq (out := Pr.bool x5) qMove ?_
              rcases iteSome h with ⟨hc17, h⟩ | ⟨hc17, h⟩
              · refine rqg hc17 (out := Pr.lst Rp.str x4) qMove ?_
                refine rqg hc17 (out := Pr.i64 (x4.length : Int)) (qLenL rfl Tryz.underlying27) ?_
                refine rqg hc17 (out := Pr.bool ((x4.length : Int) == 3)) qInt ?_
                refine rq (out := Pr.bool ((x4.length : Int) == 3)) (qPickT hc17) ?_
                refine rq (out := Pr.bool ((x4.length : Int) == 3)) qMove ?_
                rcases iteSome h with ⟨hc18, h⟩ | ⟨hc18, h⟩
                · refine rqg hc18 (out := Pr.lst Rp.str x4) qMove ?_
                  obtain ⟨x19, hx19, h⟩ := bindSome h
                  refine rqg hc18 (out := Pr.cpt Rp.str x19) (qIdxA (R := Rp.str) (l := x4) Tryz.underlying27 Tryz.sizeOf9 hx19) ?_
                  refine rqg hc18 (out := Pr.str x19) (qLoadC (R := Rp.str) (a := x19) ty9) ?_
                  refine rqg hc18 (out := Pr.bool (x19 == ([32, 98] : List UInt8))) qStr ?_
                  refine rq (out := Pr.bool (x19 == ([32, 98] : List UInt8))) (qPickT hc18) ?_
                  refine rq (out := Pr.bool (x19 == ([32, 98] : List UInt8))) qMove ?_
                  rcases iteSome h with ⟨hc20, h⟩ | ⟨hc20, h⟩
                  · refine rqg hc20 (out := Pr.bool x7) qMove ?_
                    refine rq (out := Pr.bool x7) (qPickT hc20) ?_
                    refine rq (out := Pr.bool x7) qMove ?_
                    rcases iteSome h with ⟨hc21, h⟩ | ⟨hc21, h⟩
                    · refine rqg hc21 (out := Pr.str x8) qMove ?_
                      refine rqg hc21 (out := Pr.bool (x8 == ([98] : List UInt8))) qStr ?_
                      refine rq (out := Pr.bool (x8 == ([98] : List UInt8))) (qPickT hc21) ?_
                      refine rq (out := Pr.bool (x8 == ([98] : List UInt8))) qMove ?_
                      rcases iteSome h with ⟨hc22, h⟩ | ⟨hc22, h⟩
                      · refine rqg hc22 (out := Pr.bool x9) qMove ?_
                        refine rq (out := Pr.bool x9) (qPickT hc22) ?_
                        refine rq (out := Pr.bool x9) qMove ?_
                        rcases iteSome h with ⟨hc23, h⟩ | ⟨hc23, h⟩
                        · refine rqg hc23 (out := Pr.lst rApiPart x3) qMove ?_
                          obtain ⟨x24, hx24, h⟩ := bindSome h
                          refine rqg hc23 (out := Pr.str x24) (qCall (weave_Side_ok x3 1 _ hx24)) ?_
                          refine rqg hc23 (out := Pr.bool (x24 == ([98, 10] : List UInt8))) qStr ?_
                          refine rq (out := Pr.bool (x24 == ([98, 10] : List UInt8))) (qPickT hc23) ?_
                          refine rq (out := Pr.bool (x24 == ([98, 10] : List UInt8))) qAssign ?_
                          exact ⟨x24 == ([98, 10] : List UInt8), h, ⟨⟨Pr.le_rfl, trivial⟩, Pick.refl _⟩⟩
                        · refine rno (neT hc23) ?_
                          refine rno (neT hc23) ?_
                          refine rno (neT hc23) ?_
                          refine rq (out := Pr.bool false) (qPickF hc23) ?_
                          refine rq (out := Pr.bool false) qAssign ?_
                          exact ⟨false, h, ⟨⟨Pr.le_rfl, trivial⟩, Pick.refl _⟩⟩
                      · refine rno (neT hc22) ?_
                        refine rq (out := Pr.bool false) (qPickF hc22) ?_
                        refine rq (out := Pr.bool false) qMove ?_
                        have hc25 : false = false := rfl
                        refine rno (neT hc25) ?_
                        refine rno (neT hc25) ?_
                        refine rno (neT hc25) ?_
                        refine rq (out := Pr.bool false) (qPickF hc25) ?_
                        refine rq (out := Pr.bool false) qAssign ?_
                        exact ⟨false, h, ⟨⟨Pr.le_rfl, trivial⟩, Pick.refl _⟩⟩
                    · refine rno (neT hc21) ?_
                      refine rno (neT hc21) ?_
                      refine rq (out := Pr.bool false) (qPickF hc21) ?_
                      refine rq (out := Pr.bool false) qMove ?_
                      have hc27 : false = false := rfl
                      refine rno (neT hc27) ?_
                      refine rq (out := Pr.bool false) (qPickF hc27) ?_
                      refine rq (out := Pr.bool false) qMove ?_
                      have hc30 : false = false := rfl
                      refine rno (neT hc30) ?_
                      refine rno (neT hc30) ?_
                      refine rno (neT hc30) ?_
                      refine rq (out := Pr.bool false) (qPickF hc30) ?_
                      refine rq (out := Pr.bool false) qAssign ?_
                      exact ⟨false, h, ⟨⟨Pr.le_rfl, trivial⟩, Pick.refl _⟩⟩
                  · refine rno (neT hc20) ?_
                    refine rq (out := Pr.bool false) (qPickF hc20) ?_
                    refine rq (out := Pr.bool false) qMove ?_
                    have hc32 : false = false := rfl
                    refine rno (neT hc32) ?_
                    refine rno (neT hc32) ?_
                    refine rq (out := Pr.bool false) (qPickF hc32) ?_
                    refine rq (out := Pr.bool false) qMove ?_
                    have hc38 : false = false := rfl
                    refine rno (neT hc38) ?_
                    refine rq (out := Pr.bool false) (qPickF hc38) ?_
                    refine rq (out := Pr.bool false) qMove ?_
                    have hc41 : false = false := rfl
                    refine rno (neT hc41) ?_
                    refine rno (neT hc41) ?_
                    refine rno (neT hc41) ?_
                    refine rq (out := Pr.bool false) (qPickF hc41) ?_
                    refine rq (out := Pr.bool false) qAssign ?_
                    exact ⟨false, h, ⟨⟨Pr.le_rfl, trivial⟩, Pick.refl _⟩⟩
                · refine rno (neT hc18) ?_
                  refine rno (neT hc18) ?_
                  refine rno (neT hc18) ?_
                  refine rno (neT hc18) ?_
                  refine rq (out := Pr.bool false) (qPickF hc18) ?_
                  refine rq (out := Pr.bool false) qMove ?_
                  have hc43 : false = false := rfl
                  refine rno (neT hc43) ?_
                  refine rq (out := Pr.bool false) (qPickF hc43) ?_
                  refine rq (out := Pr.bool false) qMove ?_
                  have hc55 : false = false := rfl
                  refine rno (neT hc55) ?_
                  refine rno (neT hc55) ?_
                  refine rq (out := Pr.bool false) (qPickF hc55) ?_
                  refine rq (out := Pr.bool false) qMove ?_
                  have hc61 : false = false := rfl
                  refine rno (neT hc61) ?_
                  refine rq (out := Pr.bool false) (qPickF hc61) ?_
                  refine rq (out := Pr.bool false) qMove ?_
                  have hc64 : false = false := rfl
                  refine rno (neT hc64) ?_
                  refine rno (neT hc64) ?_
                  refine rno (neT hc64) ?_
                  refine rq (out := Pr.bool false) (qPickF hc64) ?_
                  refine rq (out := Pr.bool false) qAssign ?_
                  exact ⟨false, h, ⟨⟨Pr.le_rfl, trivial⟩, Pick.refl _⟩⟩
              · refine rno (neT hc17) ?_
                refine rno (neT hc17) ?_
                refine rno (neT hc17) ?_
                refine rq (out := Pr.bool false) (qPickF hc17) ?_
                refine rq (out := Pr.bool false) qMove ?_
                have hc66 : false = false := rfl
                refine rno (neT hc66) ?_
                refine rno (neT hc66) ?_
                refine rno (neT hc66) ?_
                refine rno (neT hc66) ?_
                refine rq (out := Pr.bool false) (qPickF hc66) ?_
                refine rq (out := Pr.bool false) qMove ?_
                have hc91 : false = false := rfl
                refine rno (neT hc91) ?_
                refine rq (out := Pr.bool false) (qPickF hc91) ?_
                refine rq (out := Pr.bool false) qMove ?_
                have hc103 : false = false := rfl
                refine rno (neT hc103) ?_
                refine rno (neT hc103) ?_
                refine rq (out := Pr.bool false) (qPickF hc103) ?_
                refine rq (out := Pr.bool false) qMove ?_
                have hc109 : false = false := rfl
                refine rno (neT hc109) ?_
                refine rq (out := Pr.bool false) (qPickF hc109) ?_
                refine rq (out := Pr.bool false) qMove ?_
                have hc112 : false = false := rfl
                refine rno (neT hc112) ?_
                refine rno (neT hc112) ?_
                refine rno (neT hc112) ?_
                refine rq (out := Pr.bool false) (qPickF hc112) ?_
                refine rq (out := Pr.bool false) qAssign ?_
                exact ⟨false, h, ⟨⟨Pr.le_rfl, trivial⟩, Pick.refl _⟩⟩
            · refine rno (neT hc16) ?_
              refine rq (out := Pr.bool false) (qPickF hc16) ?_
              refine rq (out := Pr.bool false) qMove ?_
              have hc114 : false = false := rfl
              refine rno (neT hc114) ?_
              refine rno (neT hc114) ?_
              refine rno (neT hc114) ?_
              refine rq (out := Pr.bool false) (qPickF hc114) ?_
              refine rq (out := Pr.bool false) qMove ?_
              have hc163 : false = false := rfl
              refine rno (neT hc163) ?_
              refine rno (neT hc163) ?_
              refine rno (neT hc163) ?_
              refine rno (neT hc163) ?_
              refine rq (out := Pr.bool false) (qPickF hc163) ?_
              refine rq (out := Pr.bool false) qMove ?_
              have hc188 : false = false := rfl
              refine rno (neT hc188) ?_
              refine rq (out := Pr.bool false) (qPickF hc188) ?_
              refine rq (out := Pr.bool false) qMove ?_
              have hc200 : false = false := rfl
              refine rno (neT hc200) ?_
              refine rno (neT hc200) ?_
              refine rq (out := Pr.bool false) (qPickF hc200) ?_
              refine rq (out := Pr.bool false) qMove ?_
              have hc206 : false = false := rfl
              refine rno (neT hc206) ?_
              refine rq (out := Pr.bool false) (qPickF hc206) ?_
              refine rq (out := Pr.bool false) qMove ?_
              have hc209 : false = false := rfl
              refine rno (neT hc209) ?_
              refine rno (neT hc209) ?_
              refine rno (neT hc209) ?_
              refine rq (out := Pr.bool false) (qPickF hc209) ?_
              refine rq (out := Pr.bool false) qAssign ?_
              exact ⟨false, h, ⟨⟨Pr.le_rfl, trivial⟩, Pick.refl _⟩⟩
          · refine rno (neT hc14) ?_
            refine rno (neT hc14) ?_
            refine rno (neT hc14) ?_
            refine rno (neT hc14) ?_
            refine rno (neT hc14) ?_
            refine rq (out := Pr.bool false) (qPickF hc14) ?_
            refine rq (out := Pr.bool false) qMove ?_
            have hc211 : false = false := rfl
            refine rno (neT hc211) ?_
            refine rq (out := Pr.bool false) (qPickF hc211) ?_
            refine rq (out := Pr.bool false) qMove ?_
            have hc309 : false = false := rfl
            refine rno (neT hc309) ?_
            refine rno (neT hc309) ?_
            refine rno (neT hc309) ?_
            refine rq (out := Pr.bool false) (qPickF hc309) ?_
            refine rq (out := Pr.bool false) qMove ?_
            have hc358 : false = false := rfl
            refine rno (neT hc358) ?_
            refine rno (neT hc358) ?_
            refine rno (neT hc358) ?_
            refine rno (neT hc358) ?_
            refine rq (out := Pr.bool false) (qPickF hc358) ?_
            refine rq (out := Pr.bool false) qMove ?_
            have hc383 : false = false := rfl
            refine rno (neT hc383) ?_
            refine rq (out := Pr.bool false) (qPickF hc383) ?_
            refine rq (out := Pr.bool false) qMove ?_
            have hc395 : false = false := rfl
            refine rno (neT hc395) ?_
            refine rno (neT hc395) ?_
            refine rq (out := Pr.bool false) (qPickF hc395) ?_
            refine rq (out := Pr.bool false) qMove ?_
            have hc401 : false = false := rfl
            refine rno (neT hc401) ?_
            refine rq (out := Pr.bool false) (qPickF hc401) ?_
            refine rq (out := Pr.bool false) qMove ?_
            have hc404 : false = false := rfl
            refine rno (neT hc404) ?_
            refine rno (neT hc404) ?_
            refine rno (neT hc404) ?_
            refine rq (out := Pr.bool false) (qPickF hc404) ?_
            refine rq (out := Pr.bool false) qAssign ?_
            exact ⟨false, h, ⟨⟨Pr.le_rfl, trivial⟩, Pick.refl _⟩⟩
        · refine rno (neT hc12) ?_
          refine rno (neT hc12) ?_
          refine rno (neT hc12) ?_
          refine rno (neT hc12) ?_
          refine rq (out := Pr.bool false) (qPickF hc12) ?_
          refine rq (out := Pr.bool false) qMove ?_
          have hc406 : false = false := rfl
          refine rno (neT hc406) ?_
          refine rno (neT hc406) ?_
          refine rno (neT hc406) ?_
          refine rno (neT hc406) ?_
          refine rno (neT hc406) ?_
          refine rq (out := Pr.bool false) (qPickF hc406) ?_
          refine rq (out := Pr.bool false) qMove ?_
          have hc603 : false = false := rfl
          refine rno (neT hc603) ?_
          refine rq (out := Pr.bool false) (qPickF hc603) ?_
          refine rq (out := Pr.bool false) qMove ?_
          have hc701 : false = false := rfl
          refine rno (neT hc701) ?_
          refine rno (neT hc701) ?_
          refine rno (neT hc701) ?_
          refine rq (out := Pr.bool false) (qPickF hc701) ?_
          refine rq (out := Pr.bool false) qMove ?_
          have hc750 : false = false := rfl
          refine rno (neT hc750) ?_
          refine rno (neT hc750) ?_
          refine rno (neT hc750) ?_
          refine rno (neT hc750) ?_
          refine rq (out := Pr.bool false) (qPickF hc750) ?_
          refine rq (out := Pr.bool false) qMove ?_
          have hc775 : false = false := rfl
          refine rno (neT hc775) ?_
          refine rq (out := Pr.bool false) (qPickF hc775) ?_
          refine rq (out := Pr.bool false) qMove ?_
          have hc787 : false = false := rfl
          refine rno (neT hc787) ?_
          refine rno (neT hc787) ?_
          refine rq (out := Pr.bool false) (qPickF hc787) ?_
          refine rq (out := Pr.bool false) qMove ?_
          have hc793 : false = false := rfl
          refine rno (neT hc793) ?_
          refine rq (out := Pr.bool false) (qPickF hc793) ?_
          refine rq (out := Pr.bool false) qMove ?_
          have hc796 : false = false := rfl
          refine rno (neT hc796) ?_
          refine rno (neT hc796) ?_
          refine rno (neT hc796) ?_
          refine rq (out := Pr.bool false) (qPickF hc796) ?_
          refine rq (out := Pr.bool false) qAssign ?_
          exact ⟨false, h, ⟨⟨Pr.le_rfl, trivial⟩, Pick.refl _⟩⟩
      · refine rno (neT hc11) ?_
        refine rno (neT hc11) ?_
        refine rno (neT hc11) ?_
        refine rq (out := Pr.bool false) (qPickF hc11) ?_
        refine rq (out := Pr.bool false) qMove ?_
        have hc798 : false = false := rfl
        refine rno (neT hc798) ?_
        refine rno (neT hc798) ?_
        refine rno (neT hc798) ?_
        refine rno (neT hc798) ?_
        refine rq (out := Pr.bool false) (qPickF hc798) ?_
        refine rq (out := Pr.bool false) qMove ?_
        have hc1192 : false = false := rfl
        refine rno (neT hc1192) ?_
        refine rno (neT hc1192) ?_
        refine rno (neT hc1192) ?_
        refine rno (neT hc1192) ?_
        refine rno (neT hc1192) ?_
        refine rq (out := Pr.bool false) (qPickF hc1192) ?_
        refine rq (out := Pr.bool false) qMove ?_
        have hc1389 : false = false := rfl
        refine rno (neT hc1389) ?_
        refine rq (out := Pr.bool false) (qPickF hc1389) ?_
        refine rq (out := Pr.bool false) qMove ?_
        have hc1487 : false = false := rfl
        refine rno (neT hc1487) ?_
        refine rno (neT hc1487) ?_
        refine rno (neT hc1487) ?_
        refine rq (out := Pr.bool false) (qPickF hc1487) ?_
        refine rq (out := Pr.bool false) qMove ?_
        have hc1536 : false = false := rfl
        refine rno (neT hc1536) ?_
        refine rno (neT hc1536) ?_
        refine rno (neT hc1536) ?_
        refine rno (neT hc1536) ?_
        refine rq (out := Pr.bool false) (qPickF hc1536) ?_
        refine rq (out := Pr.bool false) qMove ?_
        have hc1561 : false = false := rfl
        refine rno (neT hc1561) ?_
        refine rq (out := Pr.bool false) (qPickF hc1561) ?_
        refine rq (out := Pr.bool false) qMove ?_
        have hc1573 : false = false := rfl
        refine rno (neT hc1573) ?_
        refine rno (neT hc1573) ?_
        refine rq (out := Pr.bool false) (qPickF hc1573) ?_
        refine rq (out := Pr.bool false) qMove ?_
        have hc1579 : false = false := rfl
        refine rno (neT hc1579) ?_
        refine rq (out := Pr.bool false) (qPickF hc1579) ?_
        refine rq (out := Pr.bool false) qMove ?_
        have hc1582 : false = false := rfl
        refine rno (neT hc1582) ?_
        refine rno (neT hc1582) ?_
        refine rno (neT hc1582) ?_
        refine rq (out := Pr.bool false) (qPickF hc1582) ?_
        refine rq (out := Pr.bool false) qAssign ?_
        exact ⟨false, h, ⟨⟨Pr.le_rfl, trivial⟩, Pick.refl _⟩⟩
    · refine rno (neT hc10) ?_
      refine rno (neT hc10) ?_
      refine rq (out := Pr.bool false) (qPickF hc10) ?_
      refine rq (out := Pr.bool false) qMove ?_
      have hc1584 : false = false := rfl
      refine rno (neT hc1584) ?_
      refine rno (neT hc1584) ?_
      refine rno (neT hc1584) ?_
      refine rq (out := Pr.bool false) (qPickF hc1584) ?_
      refine rq (out := Pr.bool false) qMove ?_
      have hc2371 : false = false := rfl
      refine rno (neT hc2371) ?_
      refine rno (neT hc2371) ?_
      refine rno (neT hc2371) ?_
      refine rno (neT hc2371) ?_
      refine rq (out := Pr.bool false) (qPickF hc2371) ?_
      refine rq (out := Pr.bool false) qMove ?_
      have hc2765 : false = false := rfl
      refine rno (neT hc2765) ?_
      refine rno (neT hc2765) ?_
      refine rno (neT hc2765) ?_
      refine rno (neT hc2765) ?_
      refine rno (neT hc2765) ?_
      refine rq (out := Pr.bool false) (qPickF hc2765) ?_
      refine rq (out := Pr.bool false) qMove ?_
      have hc2962 : false = false := rfl
      refine rno (neT hc2962) ?_
      refine rq (out := Pr.bool false) (qPickF hc2962) ?_
      refine rq (out := Pr.bool false) qMove ?_
      have hc3060 : false = false := rfl
      refine rno (neT hc3060) ?_
      refine rno (neT hc3060) ?_
      refine rno (neT hc3060) ?_
      refine rq (out := Pr.bool false) (qPickF hc3060) ?_
      refine rq (out := Pr.bool false) qMove ?_
      have hc3109 : false = false := rfl
      refine rno (neT hc3109) ?_
      refine rno (neT hc3109) ?_
      refine rno (neT hc3109) ?_
      refine rno (neT hc3109) ?_
      refine rq (out := Pr.bool false) (qPickF hc3109) ?_
      refine rq (out := Pr.bool false) qMove ?_
      have hc3134 : false = false := rfl
      refine rno (neT hc3134) ?_
      refine rq (out := Pr.bool false) (qPickF hc3134) ?_
      refine rq (out := Pr.bool false) qMove ?_
      have hc3146 : false = false := rfl
      refine rno (neT hc3146) ?_
      refine rno (neT hc3146) ?_
      refine rq (out := Pr.bool false) (qPickF hc3146) ?_
      refine rq (out := Pr.bool false) qMove ?_
      have hc3152 : false = false := rfl
      refine rno (neT hc3152) ?_
      refine rq (out := Pr.bool false) (qPickF hc3152) ?_
      refine rq (out := Pr.bool false) qMove ?_
      have hc3155 : false = false := rfl
      refine rno (neT hc3155) ?_
      refine rno (neT hc3155) ?_
      refine rno (neT hc3155) ?_
      refine rq (out := Pr.bool false) (qPickF hc3155) ?_
      refine rq (out := Pr.bool false) qAssign ?_
      exact ⟨false, h, ⟨⟨Pr.le_rfl, trivial⟩, Pick.refl _⟩⟩
theorem law08_few_ok (x1 : List UInt8) (x2 : List UInt8) (x3 : List UInt8) (r : Bool) (h : law08_few x1 x2 x3 = some r) : FnP Tryz.prog 5 [Pr.str x1, Pr.str x2, Pr.str x3] (Pr.bool r) := by
  refine fn_intro (n := 20) (rs := [6]) Tryz.func5 rfl Tryz.ntmps5 ⟨by decide, Tryz.results5⟩ (by decide) (fun s0 => ?_)
  unfold law08_few at h
  refine W_rs ?_
  refine rq (out := Pr.bool false) qAssign ?_
  refine W_join (fun e C => ∃ (x7 : Bool), law08_few_j1 x7 = some r ∧ At [(6, Pr.bool x7)] [] e C) ?_ ?_
  · rintro e C ⟨x7, h, hat1⟩
    refine W_at hat1 ?_
    clear hat1
    unfold law08_few_j1 at h
    obtain rfl := Option.some.inj h
    exact W_ret ⟨rfl, Pr.le_rfl⟩
  · refine W_r ?_
    refine rq (out := Pr.str x1) qMove ?_
    refine rq (out := Pr.i64 (x1.length : Int)) (qLenS rfl Tryz.underlying9) ?_
    refine rq (out := Pr.bool (decide ((x1.length : Int) ≤ 600))) qInt ?_
    refine rq (out := Pr.bool (decide ((x1.length : Int) ≤ 600))) qMove ?_
    rcases iteSome h with ⟨hc4, h⟩ | ⟨hc4, h⟩
    · refine rqg hc4 (out := Pr.str x2) qMove ?_
      refine rqg hc4 (out := Pr.i64 (x2.length : Int)) (qLenS rfl Tryz.underlying9) ?_
      refine rqg hc4 (out := Pr.bool (decide ((x2.length : Int) ≤ 600))) qInt ?_
      refine rq (out := Pr.bool (decide ((x2.length : Int) ≤ 600))) (qPickT hc4) ?_
      refine rq (out := Pr.bool (decide ((x2.length : Int) ≤ 600))) qMove ?_
      rcases iteSome h with ⟨hc5, h⟩ | ⟨hc5, h⟩
      · refine rqg hc5 (out := Pr.str x3) qMove ?_
        refine rqg hc5 (out := Pr.i64 (x3.length : Int)) (qLenS rfl Tryz.underlying9) ?_
        refine rqg hc5 (out := Pr.bool (decide ((x3.length : Int) ≤ 600))) qInt ?_
        refine rq (out := Pr.bool (decide ((x3.length : Int) ≤ 600))) (qPickT hc5) ?_
        refine rq (out := Pr.bool (decide ((x3.length : Int) ≤ 600))) qAssign ?_
        exact ⟨decide ((x3.length : Int) ≤ 600), h, ⟨⟨Pr.le_rfl, trivial⟩, Pick.refl _⟩⟩
      · refine rno (neT hc5) ?_
        refine rno (neT hc5) ?_
        refine rno (neT hc5) ?_
        refine rq (out := Pr.bool false) (qPickF hc5) ?_
        refine rq (out := Pr.bool false) qAssign ?_
        exact ⟨false, h, ⟨⟨Pr.le_rfl, trivial⟩, Pick.refl _⟩⟩
    · refine rno (neT hc4) ?_
      refine rno (neT hc4) ?_
      refine rno (neT hc4) ?_
      refine rq (out := Pr.bool false) (qPickF hc4) ?_
      refine rq (out := Pr.bool false) qMove ?_
      have hc6 : false = false := rfl
      refine rno (neT hc6) ?_
      refine rno (neT hc6) ?_
      refine rno (neT hc6) ?_
      refine rq (out := Pr.bool false) (qPickF hc6) ?_
      refine rq (out := Pr.bool false) qAssign ?_
      exact ⟨false, h, ⟨⟨Pr.le_rfl, trivial⟩, Pick.refl _⟩⟩
theorem law08_WeaveParts_ok (x1 : List UInt8) (x2 : List UInt8) (x3 : List UInt8) (r : Bool) (h : law08_WeaveParts x1 x2 x3 = some r) : FnP Tryz.prog 3 [Pr.str x1, Pr.str x2, Pr.str x3] (Pr.bool r) := by
  refine fn_intro (n := 107) (rs := [6]) Tryz.func3 rfl Tryz.ntmps3 ⟨by decide, Tryz.results3⟩ (by decide) (fun s0 => ?_)
  unfold law08_WeaveParts at h
  refine W_rs ?_
  refine rq (out := Pr.bool false) qAssign ?_
  refine W_rs ?_
  obtain ⟨x4, hx4, h⟩ := bindSome h
  refine rq (out := Pr.bool x4) (qCall (law08_awake_ok  _ hx4)) ?_
  refine rq (out := Pr.bool x4) qAssign ?_
  refine W_seq ?_
  refine W_rs ?_
  refine rq (out := Pr.bool x4) qMove ?_
  refine rq (out := Pr.bool (!x4)) qNot ?_
  refine W_cond (b := !x4) rfl (fun hc5 => ?_) (fun hc5 => ?_)
  · replace h := iteT hc5 h
    refine W_rs ?_
    refine rq (out := Pr.bool false) qAssign ?_
    obtain rfl := Option.some.inj h
    exact W_ret ⟨rfl, Pr.le_rfl⟩
  · replace h := iteF hc5 h
    refine W_skip ?_
    refine W_rs ?_
    refine rq (out := Pr.str x1) qMove ?_
    refine rq (out := Pr.str x2) qMove ?_
    refine rq (out := Pr.str x3) qMove ?_
    obtain ⟨x6, hx6, h⟩ := bindSome h
    refine rq (out := Pr.bool x6) (qCall (law08_few_ok x1 x2 x3 _ hx6)) ?_
    refine rq (out := Pr.bool x6) qAssign ?_
    refine W_seq ?_
    refine W_rs ?_
    refine rq (out := Pr.bool x6) qMove ?_
    refine rq (out := Pr.bool (!x6)) qNot ?_
    refine W_cond (b := !x6) rfl (fun hc7 => ?_) (fun hc7 => ?_)
    · replace h := iteT hc7 h
      refine W_rs ?_
      refine rq (out := Pr.bool true) qAssign ?_
      obtain rfl := Option.some.inj h
      exact W_ret ⟨rfl, Pr.le_rfl⟩
    · replace h := iteF hc7 h
      refine W_skip ?_
      refine W_rs ?_
      refine rq (out := Pr.str x1) qMove ?_
      refine rq (out := Pr.str x2) qMove ?_
      refine rq (out := Pr.str x3) qMove ?_
      obtain ⟨⟨x8, x9⟩, hx8, h⟩ := bindSome h
      refine rq (out := Pr.tup [Pr.lst rApiPart x8, Pr.bool x9]) (qCall (weave_Tokens_ok x1 x2 x3 _ hx8)) ?_
      refine rq (out := Pr.tup [Pr.lst rApiPart x8, Pr.bool x9]) qMove ?_
      refine rq (out := Pr.lst rApiPart x8) qExtract ?_
      refine rq (out := Pr.bool x9) qExtract ?_
      refine rq (out := Pr.lst rApiPart x8) qAssign ?_
      refine rq (out := Pr.bool x9) qAssign ?_
      refine W_rs ?_
      refine rq (out := Pr.str x1) qMove ?_
      refine rq (out := Pr.str x2) qMove ?_
      refine rq (out := Pr.str x3) qMove ?_
      obtain ⟨⟨x10, x11⟩, hx10, h⟩ := bindSome h
      refine rq (out := Pr.tup [Pr.lst rApiPart x10, Pr.bool x11]) (qCall (ref08_Tokens_ok x1 x2 x3 _ hx10)) ?_
      refine rq (out := Pr.tup [Pr.lst rApiPart x10, Pr.bool x11]) qMove ?_
      refine rq (out := Pr.lst rApiPart x10) qExtract ?_
      refine rq (out := Pr.bool x11) qExtract ?_
      refine rq (out := Pr.lst rApiPart x10) qAssign ?_
      refine rq (out := Pr.bool x11) qAssign ?_
      refine W_rs ?_
      refine rq (out := Pr.str x1) qMove ?_
      obtain ⟨⟨x12, x13⟩, hx12, h⟩ := bindSome h
      refine rq (out := Pr.tup [Pr.lst Rp.str x12, Pr.bool x13]) (qCall (weave_Units_ok x1 _ hx12)) ?_
      refine rq (out := Pr.tup [Pr.lst Rp.str x12, Pr.bool x13]) qMove ?_
      refine rq (out := Pr.lst Rp.str x12) qExtract ?_
      refine rq (out := Pr.bool x13) qExtract ?_
      refine rq (out := Pr.lst Rp.str x12) qAssign ?_
      refine rq (out := Pr.bool x13) qAssign ?_
      refine W_rs ?_
      refine rq (out := Pr.str x1) qMove ?_
      obtain ⟨⟨x14, x15⟩, hx14, h⟩ := bindSome h
      refine rq (out := Pr.tup [Pr.lst Rp.str x14, Pr.bool x15]) (qCall (ref08_Units_ok x1 _ hx14)) ?_
      refine rq (out := Pr.tup [Pr.lst Rp.str x14, Pr.bool x15]) qMove ?_
      refine rq (out := Pr.lst Rp.str x14) qExtract ?_
      refine rq (out := Pr.bool x15) qExtract ?_
      refine rq (out := Pr.lst Rp.str x14) qAssign ?_
      refine rq (out := Pr.bool x15) qAssign ?_
      refine W_rs ?_
      refine rq (out := Pr.str x1) qMove ?_
      refine rq (out := Pr.str x2) qMove ?_
      refine rq (out := Pr.str x3) qMove ?_
      obtain ⟨⟨x16, x17⟩, hx16, h⟩ := bindSome h
      refine rq (out := Pr.tup [Pr.str x16, Pr.bool x17]) (qCall (weave_Text_ok x1 x2 x3 _ hx16)) ?_
      refine rq (out := Pr.tup [Pr.str x16, Pr.bool x17]) qMove ?_
      refine rq (out := Pr.str x16) qExtract ?_
      refine rq (out := Pr.bool x17) qExtract ?_
      refine rq (out := Pr.str x16) qAssign ?_
      refine rq (out := Pr.bool x17) qAssign ?_
      refine W_rs ?_
      refine rq (out := Pr.str x1) qMove ?_
      refine rq (out := Pr.str x2) qMove ?_
      refine rq (out := Pr.str x3) qMove ?_
      obtain ⟨⟨x18, x19⟩, hx18, h⟩ := bindSome h
      refine rq (out := Pr.tup [Pr.str x18, Pr.bool x19]) (qCall (ref08_Text_ok x1 x2 x3 _ hx18)) ?_
      refine rq (out := Pr.tup [Pr.str x18, Pr.bool x19]) qMove ?_
      refine rq (out := Pr.str x18) qExtract ?_
      refine rq (out := Pr.bool x19) qExtract ?_
      refine rq (out := Pr.str x18) qAssign ?_
      refine rq (out := Pr.bool x19) qAssign ?_
      refine W_join (fun e C => ∃ (x96 : Bool), law08_WeaveParts_j1 x96 = some r ∧ At [(6, Pr.bool x96)] [] e C) ?_ ?_
      · rintro e C ⟨x96, h, hat1⟩
        refine W_at hat1 ?_
        clear hat1
        unfold law08_WeaveParts_j1 at h
        obtain rfl := Option.some.inj h
        exact W_ret ⟨rfl, Pr.le_rfl⟩
      · refine W_r ?_
        refine rq (out := Pr.str x1) qMove ?_
        refine rq (out := Pr.str x2) qMove ?_
        refine rq (out := Pr.str x3) qMove ?_
        obtain ⟨x20, hx20, h⟩ := bindSome h
        refine rq (out := Pr.lst rApiPart x20) (qCall (weave_Lines_ok x1 x2 x3 _ hx20)) ?_
        refine rq (out := Pr.str x1) qMove ?_
        refine rq (out := Pr.str x2) qMove ?_
        refine rq (out := Pr.str x3) qMove ?_
        obtain ⟨x21, hx21, h⟩ := bindSome h
        refine rq (out := Pr.lst rApiPart x21) (qCall (ref08_Lines_ok x1 x2 x3 _ hx21)) ?_
        obtain ⟨x22, hx22, h⟩ := bindSome h
        refine rq (out := Pr.bool x22) (qCall (ref08_Same_ok x20 x21 _ hx22)) ?_
        refine rq (out := Pr.bool x22) qMove ?_
        rcases iteSome h with ⟨hc23, h⟩ | ⟨hc23, h⟩
        · refine rqg hc23 (out := Pr.bool x9) qMove ?_
          refine rqg hc23 (out := Pr.bool x11) qMove ?_
          refine rqg hc23 (out := Pr.bool (x9 == x11)) (qBoolEq Tryz.underlying4) ?_
          refine rq (out := Pr.bool (x9 == x11)) (qPickT hc23) ?_
          refine rq (out := Pr.bool (x9 == x11)) qMove ?_
          rcases iteSome h with ⟨hc24, h⟩ | ⟨hc24, h⟩
          · refine rqg hc24 (out := Pr.lst rApiPart x8) qMove ?_
            refine rqg hc24 (out := Pr.lst rApiPart x10) qMove ?_
            obtain ⟨x25, hx25, h⟩ := bindSome h
            refine rqg hc24 (out := Pr.bool x25) (qCall (ref08_Same_ok x8 x10 _ hx25)) ?_
            refine rq (out := Pr.bool x25) (qPickT hc24) ?_
            refine rq (out := Pr.bool x25) qMove ?_
            rcases iteSome h with ⟨hc26, h⟩ | ⟨hc26, h⟩
            · refine rqg hc26 (out := Pr.bool x13) qMove ?_
              refine rqg hc26 (out := Pr.bool x15) qMove ?_
              refine rqg hc26 (out := Pr.bool (x13 == x15)) (qBoolEq Tryz.underlying4) ?_
              refine rq (out := Pr.bool (x13 == x15)) (qPickT hc26) ?_
              refine rq (out := Pr.bool (x13 == x15)) qMove ?_
              rcases iteSome h with ⟨hc27, h⟩ | ⟨hc27, h⟩
              · refine rqg hc27 (out := Pr.lst Rp.str x12) qMove ?_
                refine rqg hc27 (out := Pr.lst Rp.str x14) qMove ?_
                obtain ⟨x28, hx28, h⟩ := bindSome h
                refine rqg hc27 (out := Pr.bool x28) (qCall (ref01_Same_ok x12 x14 _ hx28)) ?_
                refine rq (out := Pr.bool x28) (qPickT hc27) ?_
                refine rq (out := Pr.bool x28) qMove ?_
                rcases iteSome h with ⟨hc29, h⟩ | ⟨hc29, h⟩
                · refine rqg hc29 (out := Pr.str x16) qMove ?_
                  refine rqg hc29 (out := Pr.str x18) qMove ?_
                  refine rqg hc29 (out := Pr.bool (x16 == x18)) qStr ?_
                  refine rq (out := Pr.bool (x16 == x18)) (qPickT hc29) ?_
                  refine rq (out := Pr.bool (x16 == x18)) qMove ?_
                  rcases iteSome h with ⟨hc30, h⟩ | ⟨hc30, h⟩
                  · refine rqg hc30 (out := Pr.bool x17) qMove ?_
                    refine rqg hc30 (out := Pr.bool x19) qMove ?_
                    refine rqg hc30 (out := Pr.bool (x17 == x19)) (qBoolEq Tryz.underlying4) ?_
                    refine rq (out := Pr.bool (x17 == x19)) (qPickT hc30) ?_
                    refine rq (out := Pr.bool (x17 == x19)) qAssign ?_
                    exact ⟨x17 == x19, h, ⟨⟨Pr.le_rfl, trivial⟩, Pick.refl _⟩⟩
                  · refine rno (neT hc30) ?_
                    refine rno (neT hc30) ?_
                    refine rno (neT hc30) ?_
                    refine rq (out := Pr.bool false) (qPickF hc30) ?_
                    refine rq (out := Pr.bool false) qAssign ?_
                    exact ⟨false, h, ⟨⟨Pr.le_rfl, trivial⟩, Pick.refl _⟩⟩
                · refine rno (neT hc29) ?_
                  refine rno (neT hc29) ?_
                  refine rno (neT hc29) ?_
                  refine rq (out := Pr.bool false) (qPickF hc29) ?_
                  refine rq (out := Pr.bool false) qMove ?_
                  have hc31 : false = false := rfl
                  refine rno (neT hc31) ?_
                  refine rno (neT hc31) ?_
                  refine rno (neT hc31) ?_
                  refine rq (out := Pr.bool false) (qPickF hc31) ?_
                  refine rq (out := Pr.bool false) qAssign ?_
                  exact ⟨false, h, ⟨⟨Pr.le_rfl, trivial⟩, Pick.refl _⟩⟩
              · refine rno (neT hc27) ?_
                refine rno (neT hc27) ?_
                refine rno (neT hc27) ?_
                refine rq (out := Pr.bool false) (qPickF hc27) ?_
                refine rq (out := Pr.bool false) qMove ?_
                have hc32 : false = false := rfl
                refine rno (neT hc32) ?_
                refine rno (neT hc32) ?_
                refine rno (neT hc32) ?_
                refine rq (out := Pr.bool false) (qPickF hc32) ?_
                refine rq (out := Pr.bool false) qMove ?_
                have hc34 : false = false := rfl
                refine rno (neT hc34) ?_
                refine rno (neT hc34) ?_
                refine rno (neT hc34) ?_
                refine rq (out := Pr.bool false) (qPickF hc34) ?_
                refine rq (out := Pr.bool false) qAssign ?_
                exact ⟨false, h, ⟨⟨Pr.le_rfl, trivial⟩, Pick.refl _⟩⟩
            · refine rno (neT hc26) ?_
              refine rno (neT hc26) ?_
              refine rno (neT hc26) ?_
              refine rq (out := Pr.bool false) (qPickF hc26) ?_
              refine rq (out := Pr.bool false) qMove ?_
              have hc35 : false = false := rfl
              refine rno (neT hc35) ?_
              refine rno (neT hc35) ?_
              refine rno (neT hc35) ?_
              refine rq (out := Pr.bool false) (qPickF hc35) ?_
              refine rq (out := Pr.bool false) qMove ?_
              have hc40 : false = false := rfl
              refine rno (neT hc40) ?_
              refine rno (neT hc40) ?_
              refine rno (neT hc40) ?_
              refine rq (out := Pr.bool false) (qPickF hc40) ?_
              refine rq (out := Pr.bool false) qMove ?_
              have hc42 : false = false := rfl
              refine rno (neT hc42) ?_
              refine rno (neT hc42) ?_
              refine rno (neT hc42) ?_
              refine rq (out := Pr.bool false) (qPickF hc42) ?_
              refine rq (out := Pr.bool false) qAssign ?_
              exact ⟨false, h, ⟨⟨Pr.le_rfl, trivial⟩, Pick.refl _⟩⟩
          · refine rno (neT hc24) ?_
            refine rno (neT hc24) ?_
            refine rno (neT hc24) ?_
            refine rq (out := Pr.bool false) (qPickF hc24) ?_
            refine rq (out := Pr.bool false) qMove ?_
            have hc43 : false = false := rfl
            refine rno (neT hc43) ?_
            refine rno (neT hc43) ?_
            refine rno (neT hc43) ?_
            refine rq (out := Pr.bool false) (qPickF hc43) ?_
            refine rq (out := Pr.bool false) qMove ?_
            have hc52 : false = false := rfl
            refine rno (neT hc52) ?_
            refine rno (neT hc52) ?_
            refine rno (neT hc52) ?_
            refine rq (out := Pr.bool false) (qPickF hc52) ?_
            refine rq (out := Pr.bool false) qMove ?_
            have hc57 : false = false := rfl
            refine rno (neT hc57) ?_
            refine rno (neT hc57) ?_
            refine rno (neT hc57) ?_
            refine rq (out := Pr.bool false) (qPickF hc57) ?_
            refine rq (out := Pr.bool false) qMove ?_
            have hc59 : false = false := rfl
            refine rno (neT hc59) ?_
            refine rno (neT hc59) ?_
            refine rno (neT hc59) ?_
            refine rq (out := Pr.bool false) (qPickF hc59) ?_
            refine rq (out := Pr.bool false) qAssign ?_
            exact ⟨false, h, ⟨⟨Pr.le_rfl, trivial⟩, Pick.refl _⟩⟩
        · refine rno (neT hc23) ?_
          refine rno (neT hc23) ?_
          refine rno (neT hc23) ?_
          refine rq (out := Pr.bool false) (qPickF hc23) ?_
          refine rq (out := Pr.bool false) qMove ?_
          have hc60 : false = false := rfl
          refine rno (neT hc60) ?_
          refine rno (neT hc60) ?_
          refine rno (neT hc60) ?_
          refine rq (out := Pr.bool false) (qPickF hc60) ?_
          refine rq (out := Pr.bool false) qMove ?_
          have hc79 : false = false := rfl
          refine rno (neT hc79) ?_
          refine rno (neT hc79) ?_
          refine rno (neT hc79) ?_
          refine rq (out := Pr.bool false) (qPickF hc79) ?_
          refine rq (out := Pr.bool false) qMove ?_
          have hc88 : false = false := rfl
          refine rno (neT hc88) ?_
          refine rno (neT hc88) ?_
          refine rno (neT hc88) ?_
          refine rq (out := Pr.bool false) (qPickF hc88) ?_
          refine rq (out := Pr.bool false) qMove ?_
          have hc93 : false = false := rfl
          refine rno (neT hc93) ?_
          refine rno (neT hc93) ?_
          refine rno (neT hc93) ?_
          refine rq (out := Pr.bool false) (qPickF hc93) ?_
          refine rq (out := Pr.bool false) qMove ?_
          have hc95 : false = false := rfl
          refine rno (neT hc95) ?_
          refine rno (neT hc95) ?_
          refine rno (neT hc95) ?_
          refine rq (out := Pr.bool false) (qPickF hc95) ?_
          refine rq (out := Pr.bool false) qAssign ?_
          exact ⟨false, h, ⟨⟨Pr.le_rfl, trivial⟩, Pick.refl _⟩⟩
end Go.Proofs.YtefeelcjokdchaaGreatDoor
