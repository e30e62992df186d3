/- The code comes to what these functions say (printed by wip/gen/gen.py). -/
import Derived.Test.YtefeelcjokdchaaDoorZP1
import Derived.Test.YtefeelcjokdchaaDoorZT
set_option linter.unusedSimpArgs false
set_option linter.unusedVariables false
set_option linter.unusedSectionVars false
/- The code comes to what these functions say (printed by wip/gen/gen.py). -/
set_option linter.unusedSectionVars false
set_option maxRecDepth 100000
set_option maxHeartbeats 4000000
namespace Go.Proofs.YtefeelcjokdchaaDoor
open Go Go.Cn
variable [Known]
theorem weave_Side_ok (x1 : List ApiPart) (x2 : Int) (r : (List UInt8)) (h : weave_Side x1 x2 = some r) : FnP Tryd.prog 38 [Pr.lst rApiPart x1, Pr.i64 x2] (Pr.str r) := by
  refine fn_intro (n := 32) (rs := [4]) Tryd.func38 rfl Tryd.ntmps38 ⟨by decide, Tryd.results38⟩ (by decide) (fun s0 => ?_)
  unfold weave_Side at h
  refine W_rs ?_
  refine rq (out := Pr.str []) qAssign ?_
  refine W_seq ?_
  refine W_join (fun e C => ∃ (x4 : Bool), weave_Side_j3 x1 x2 x4 = some r ∧ At [(0, Pr.lst rApiPart x1), (1, Pr.i64 x2), (13, Pr.bool x4)] [] e C) ?_ ?_
  · rintro e C ⟨x4, h, hat3⟩
    refine W_at hat3 ?_
    clear hat3
    unfold weave_Side_j3 at h
    refine W_cond (b := x4) rfl (fun hc5 => ?_) (fun hc5 => ?_)
    · replace h := iteT hc5 h
      refine W_rs ?_
      refine rq (out := Pr.str []) qAssign ?_
      obtain rfl := Option.some.inj h
      exact W_ret ⟨rfl, Pr.le_rfl⟩
    · replace h := iteF hc5 h
      refine W_skip ?_
      refine W_rs ?_
      refine rAllocB (e := 5) Tryd.zeroValue66 (fun b6 => ?_)
      refine W_seq ?_
      refine W_rs ?_
      refine rq (out := Pr.lst rApiPart x1) qMove ?_
      refine rq (out := Pr.i64 (x1.length : Int)) (qLenL rfl Tryd.underlying43) ?_
      refine rq (out := Pr.i64 0) qMove ?_
      refine W_block ?_
      obtain ⟨z2l, hz2, h⟩ := bindSome h
      obtain ⟨n2, hN2⟩ := iter_some hz2
      clear hz2
      refine W_after 0 (fun e C => ∃ (x9 : List UInt8), ∃ (v8 : Value), weave_Side_k1 x9 = some r ∧ At [(5, Pr.pt b6 0)] [Own.bld 66 b6 v8, Own.vec v8 Rp.byte x9 5] e C) ?_ ?_
      · rintro e C ⟨x9, v8, h, hat1⟩
        refine W_at hat1 ?_
        clear hat1
        unfold weave_Side_k1 at h
        refine W_rs ?_
        refine rCallC [0, 1] (Builder_String_ok b6 v8 x9) (fun q C' hq => ?_)
        obtain ⟨rfl, rfl⟩ := hq
        refine rq (out := Pr.str x9) qAssign ?_
        obtain rfl := Option.some.inj h
        exact W_ret ⟨rfl, Pr.le_rfl⟩
      · refine W_loop (fun m e C => ∃ (x7 : Int), ∃ (x9 : List UInt8), ∃ (v8 : Value), IterN (fun s => weave_Side_l2 x1 x2 s.1 s.2) m (x7, x9) = some z2l ∧ At [(1, Pr.i64 x2), (5, Pr.pt b6 0), (14, Pr.lst rApiPart x1), (15, Pr.i64 (x1.length : Int)), (16, Pr.i64 x7)] [Own.bld 66 b6 v8, Own.vec v8 Rp.byte x9 5] e C) n2 ⟨0, [], (.slice none 0 0), hN2, ⟨⟨Pr.le_rfl, Pr.le_rfl, Pr.le_rfl, Pr.le_rfl, Pr.le_rfl, trivial⟩, Pick.refl _⟩⟩ ?_
        clear hN2
        rintro m e C ⟨x7, x9, v8, hN2, hatl2⟩
        refine W_at hatl2 ?_
        clear hatl2
        obtain ⟨m2, w2l, rfl, h2l, hn2, ho2⟩ := iterN_some hN2
        clear hN2
        replace h2l : weave_Side_l2 x1 x2 x7 x9 = some w2l := h2l
        unfold weave_Side_l2 at h2l
        refine W_rs ?_
        refine rq (out := Pr.bool (decide (x7 < (x1.length : Int)))) qInt ?_
        refine W_seq ?_
        refine W_cond (b := decide (x7 < (x1.length : Int))) rfl (fun hc13 => ?_) (fun hc13 => ?_)
        · replace h2l := iteT hc13 h2l
          refine W_skip ?_
          refine W_seq ?_
          refine W_block ?_
          refine W_rs ?_
          obtain ⟨x14, hx14, h2l⟩ := bindSome h2l
          refine rq (out := Pr.cpt rApiPart x14) (qIdxA (R := rApiPart) (l := x1) Tryd.underlying43 Tryd.sizeOf46 hx14) ?_
          refine rq (out := (rApiPart).val x14) (qLoadC (R := rApiPart) (a := x14) ty46) ?_
          refine rAlloc (R := rApiPart) (z := (ApiPart.mk false [] [] [])) Tryd.zeroValue46 (fun _ => ⟨_, ⟨_, _, rfl, rfl, ⟨_, _, rfl, rfl, ⟨_, _, rfl, rfl, ⟨_, _, rfl, rfl, rfl⟩⟩⟩⟩, rfl⟩) (fun b15 => ?_)
          refine rStore (R := rApiPart) (R' := rApiPart) (a := (ApiPart.mk false [] [] [])) (y := x14) 2 Tryd.sizeOf46 (Upd.refl _) ?_
          refine W_r ?_
          refine rq (out := Pr.pt b15 1) (qFieldP fld46_1) ?_
          refine rq (out := Pr.str x14.O) (qLoad (R := rApiPart) (a := x14) (R' := Rp.str) 2 ty9 subApiPart_O) ?_
          refine rq (out := Pr.pt b15 2) (qFieldP fld46_2) ?_
          refine rq (out := Pr.str x14.A) (qLoad (R := rApiPart) (a := x14) (R' := Rp.str) 2 ty9 subApiPart_A) ?_
          refine rq (out := Pr.pt b15 3) (qFieldP fld46_3) ?_
          refine rq (out := Pr.str x14.B) (qLoad (R := rApiPart) (a := x14) (R' := Rp.str) 2 ty9 subApiPart_B) ?_
          refine rq (out := (Rp.arr 3 Rp.str).val ([x14.O, x14.A, x14.B] : List (List UInt8))) (qBuildA (R := Rp.str) (ls := ([x14.O, x14.A, x14.B] : List (List UInt8))) Tryd.underlying81 Tryd.zeroValue81 rfl Tryd.sizeOf9 (by decide) ⟨rfl, rfl⟩ ⟨rfl, rfl, rfl, trivial⟩) ?_
          refine rq (out := Pr.i64 x2) qMove ?_
          obtain ⟨x16, hx16, h2l⟩ := bindSome h2l
          refine rq (out := Pr.str x16) (qIdxArr (R := Rp.str) (l := ([x14.O, x14.A, x14.B] : List (List UInt8))) Tryd.underlying81 Tryd.sizeOf9 Tryd.isAgg9 hx16) ?_
          obtain ⟨x17, hx17, h2l⟩ := bindSome h2l
          refine rCallC [0, 1] (Builder_WriteString_ok b6 v8 x9 x16 _ hx17) (fun q C' hq => ?_)
          obtain ⟨v18, rfl, rfl⟩ := hq
          refine W_r ?_
          refine rq (out := Pr.i64 (w64 (x7 + 1))) qInt ?_
          refine rq (out := Pr.i64 (w64 (x7 + 1))) qMove ?_
          exact ⟨m2, Nat.lt_succ_self _, w64 (x7 + 1), x17, v18, hn2 _ (Option.some.inj h2l).symm, ⟨⟨Pr.le_rfl, Pr.le_rfl, Pr.le_rfl, Pr.le_rfl, Pr.le_rfl, trivial⟩, Pick.of [0, 1] rfl⟩⟩
        · replace h2l := iteF hc13 h2l
          refine W_exit ?_
          obtain rfl := ho2 _ (Option.some.inj h2l).symm
          exact ⟨x9, v8, h, ⟨⟨Pr.le_rfl, trivial⟩, Pick.refl _⟩⟩
  · refine W_r ?_
    refine rq (out := Pr.i64 x2) qMove ?_
    refine rq (out := Pr.bool (decide (x2 < 0))) qInt ?_
    refine rq (out := Pr.bool (decide (x2 < 0))) qMove ?_
    rcases iteSome h with ⟨hc3, h⟩ | ⟨hc3, h⟩
    · refine rno (neF hc3) ?_
      refine rno (neF hc3) ?_
      refine rq (out := Pr.bool true) (qPickT hc3) ?_
      exact ⟨true, h, ⟨⟨Pr.le_rfl, Pr.le_rfl, Pr.le_rfl, trivial⟩, Pick.refl _⟩⟩
    · refine rqg hc3 (out := Pr.i64 x2) qMove ?_
      refine rqg hc3 (out := Pr.bool (decide (x2 > 2))) qInt ?_
      refine rq (out := Pr.bool (decide (x2 > 2))) (qPickF hc3) ?_
      exact ⟨decide (x2 > 2), h, ⟨⟨Pr.le_rfl, Pr.le_rfl, Pr.le_rfl, trivial⟩, Pick.refl _⟩⟩
theorem weave_Join_ok (x1 : List ApiPart) (r : (List UInt8) × Bool) (h : weave_Join x1 = some r) : FnP Tryd.prog 36 [Pr.lst rApiPart x1] (Pr.tup [Pr.str r.1, Pr.bool r.2]) := by
  refine fn_intro (n := 17) (rs := [2, 3]) Tryd.func36 rfl Tryd.ntmps36 ⟨by decide, Tryd.results36⟩ (by decide) (fun s0 => ?_)
  unfold weave_Join at h
  refine W_rs ?_
  refine rq (out := Pr.str []) qAssign ?_
  refine rq (out := Pr.bool false) qAssign ?_
  refine W_seq ?_
  refine W_rs ?_
  refine rq (out := Pr.lst rApiPart x1) qMove ?_
  refine rq (out := Pr.i64 (x1.length : Int)) (qLenL rfl Tryd.underlying43) ?_
  refine rq (out := Pr.i64 0) qMove ?_
  refine W_block ?_
  obtain ⟨z2l, hz2, h⟩ := bindSome h
  obtain ⟨n2, hN2⟩ := iter_some hz2
  clear hz2
  refine W_after 0 (fun e C => weave_Join_k1 x1 = some r ∧ At [(0, Pr.lst rApiPart x1)] [] e C) ?_ ?_
  · rintro e C ⟨h, hat1⟩
    refine W_at hat1 ?_
    clear hat1
    unfold weave_Join_k1 at h
    refine W_rs ?_
    refine rq (out := Pr.lst rApiPart x1) qMove ?_
    obtain ⟨x8, hx8, h⟩ := bindSome h
    refine rq (out := Pr.str x8) (qCall (weave_Side_ok x1 1 _ hx8)) ?_
    refine rq (out := Pr.str x8) qAssign ?_
    refine rq (out := Pr.bool true) qAssign ?_
    obtain rfl := Option.some.inj h
    exact W_ret ⟨rfl, Pr.le_rfl⟩
  · refine W_loop (fun m e C => ∃ (x2 : Int), IterN (fun s => weave_Join_l2 x1 s) m x2 = some z2l ∧ At [(0, Pr.lst rApiPart x1), (6, Pr.lst rApiPart x1), (7, Pr.i64 (x1.length : Int)), (8, Pr.i64 x2)] [] e C) n2 ⟨0, hN2, ⟨⟨Pr.le_rfl, Pr.le_rfl, Pr.le_rfl, Pr.le_rfl, trivial⟩, Pick.refl _⟩⟩ ?_
    clear hN2
    rintro m e C ⟨x2, hN2, hatl2⟩
    refine W_at hatl2 ?_
    clear hatl2
    obtain ⟨m2, w2l, rfl, h2l, hn2, ho2⟩ := iterN_some hN2
    clear hN2
    replace h2l : weave_Join_l2 x1 x2 = some w2l := h2l
    unfold weave_Join_l2 at h2l
    refine W_rs ?_
    refine rq (out := Pr.bool (decide (x2 < (x1.length : Int)))) qInt ?_
    refine W_seq ?_
    refine W_cond (b := decide (x2 < (x1.length : Int))) rfl (fun hc4 => ?_) (fun hc4 => ?_)
    · replace h2l := iteT hc4 h2l
      refine W_skip ?_
      refine W_seq ?_
      refine W_block ?_
      refine W_rs ?_
      obtain ⟨x5, hx5, h2l⟩ := bindSome h2l
      refine rq (out := Pr.cpt rApiPart x5) (qIdxA (R := rApiPart) (l := x1) Tryd.underlying43 Tryd.sizeOf46 hx5) ?_
      refine rq (out := (rApiPart).val x5) (qLoadC (R := rApiPart) (a := x5) ty46) ?_
      refine rAlloc (R := rApiPart) (z := (ApiPart.mk false [] [] [])) Tryd.zeroValue46 (fun _ => ⟨_, ⟨_, _, rfl, rfl, ⟨_, _, rfl, rfl, ⟨_, _, rfl, rfl, ⟨_, _, rfl, rfl, rfl⟩⟩⟩⟩, rfl⟩) (fun b6 => ?_)
      refine rStore (R := rApiPart) (R' := rApiPart) (a := (ApiPart.mk false [] [] [])) (y := x5) 0 Tryd.sizeOf46 (Upd.refl _) ?_
      refine W_rs ?_
      refine rq (out := Pr.pt b6 0) (qFieldP fld46_0) ?_
      refine rq (out := Pr.bool x5.Clash) (qLoad (R := rApiPart) (a := x5) (R' := Rp.bool) 0 ty4 subApiPart_Clash) ?_
      refine W_cond (b := x5.Clash) rfl (fun hc7 => ?_) (fun hc7 => ?_)
      · replace h2l := iteT hc7 h2l
        refine W_rs ?_
        refine rq (out := Pr.str []) qAssign ?_
        refine rq (out := Pr.bool false) qAssign ?_
        obtain rfl := ho2 _ (Option.some.inj h2l).symm
        replace h : some ([], false) = some r := h
        obtain rfl := Option.some.inj h
        exact W_ret ⟨rfl, Pr.le_rfl⟩
      · replace h2l := iteF hc7 h2l
        refine W_skip ?_
        refine W_r ?_
        refine rq (out := Pr.i64 (w64 (x2 + 1))) qInt ?_
        refine rq (out := Pr.i64 (w64 (x2 + 1))) qMove ?_
        exact ⟨m2, Nat.lt_succ_self _, w64 (x2 + 1), hn2 _ (Option.some.inj h2l).symm, ⟨⟨Pr.le_rfl, Pr.le_rfl, Pr.le_rfl, Pr.le_rfl, trivial⟩, Pick.of [] rfl⟩⟩
    · replace h2l := iteF hc4 h2l
      refine W_exit ?_
      obtain rfl := ho2 _ (Option.some.inj h2l).symm
      exact ⟨h, ⟨⟨Pr.le_rfl, trivial⟩, Pick.refl _⟩⟩
theorem weave_parts_ok (x1 : List (List UInt8)) (x2 : List (List UInt8)) (x3 : List (List UInt8)) (r : (List ApiPart)) (h : weave_parts x1 x2 x3 = some r) : FnP Tryd.prog 73 [Pr.lst Rp.str x1, Pr.lst Rp.str x2, Pr.lst Rp.str x3] (Pr.lst rApiPart r) := by
  refine fn_intro (n := 123) (rs := [6]) Tryd.func73 rfl Tryd.ntmps73 ⟨by decide, Tryd.results73⟩ (by decide) (fun s0 => ?_)
  unfold weave_parts at h
  refine W_rs ?_
  refine rq (out := Pr.is (.slice none 0 0)) qAssign ?_
  refine W_scope ?_
  refine W_rs ?_
  refine rq (out := Pr.is (.slice none 0 0)) qAssign ?_
  refine W_seq ?_
  refine W_label ?_
  refine W_seq ?_
  refine W_rs ?_
  refine rq (out := Pr.lst Rp.str x1) qMove ?_
  refine rq (out := Pr.lst Rp.str x2) qMove ?_
  refine rq (out := Pr.lst Rp.str x3) qMove ?_
  obtain ⟨x4, hx4, h⟩ := bindSome h
  refine rq (out := Pr.lst rApiChunk x4) (qCall (diff3_Parts_ok x1 x2 x3 _ hx4)) ?_
  refine rq (out := Pr.i64 (x4.length : Int)) (qLenL rfl Tryd.underlying99) ?_
  refine rq (out := Pr.i64 0) qMove ?_
  refine W_block ?_
  obtain ⟨z2l, hz2, h⟩ := bindSome h
  obtain ⟨n2, hN2⟩ := iter_some hz2
  clear hz2
  refine W_after 0 (fun e C => ∃ (x7 : List ApiPart), ∃ (v5 : Value), weave_parts_k1 x7 = some r ∧ At [(7, Pr.is v5)] [Own.vec v5 rApiPart x7 46] e C) ?_ ?_
  · rintro e C ⟨x7, v5, h, hat1⟩
    refine W_at hat1 ?_
    clear hat1
    unfold weave_parts_k1 at h
    refine W_rs ?_
    refine rq (out := Pr.is v5) qMove ?_
    refine rq (out := Pr.is v5) qAssign ?_
    refine W_rel 0 [6] ?_ rfl ⟨rfl, trivial⟩
    obtain rfl := Option.some.inj h
    exact W_ret ⟨rfl, Pr.le_rfl⟩
  · refine W_nil [7] rApiPart 46 (fun v39 => ?_) ⟨rfl, trivial⟩
    refine W_loop (fun m e C => ∃ (x6 : Int), ∃ (x7 : List ApiPart), ∃ (v5 : Value), IterN (fun s => weave_parts_l2 x4 x1 x2 x3 s.1 s.2) m (x6, x7) = some z2l ∧ At [(0, Pr.lst Rp.str x1), (1, Pr.lst Rp.str x2), (2, Pr.lst Rp.str x3), (7, Pr.is v5), (16, Pr.lst rApiChunk x4), (17, Pr.i64 (x4.length : Int)), (18, Pr.i64 x6)] [Own.vec v5 rApiPart x7 46] e C) n2 ⟨0, [], v39, hN2, ⟨⟨Pr.le_rfl, Pr.le_rfl, Pr.le_rfl, Pr.le_rfl, Pr.le_rfl, Pr.le_rfl, Pr.le_rfl, trivial⟩, Pick.refl _⟩⟩ ?_
    clear hN2
    rintro m e C ⟨x6, x7, v5, hN2, hatl2⟩
    refine W_at hatl2 ?_
    clear hatl2
    obtain ⟨m2, w2l, rfl, h2l, hn2, ho2⟩ := iterN_some hN2
    clear hN2
    replace h2l : weave_parts_l2 x4 x1 x2 x3 x6 x7 = some w2l := h2l
    unfold weave_parts_l2 at h2l
    refine W_rs ?_
    refine rq (out := Pr.bool (decide (x6 < (x4.length : Int)))) qInt ?_
    refine W_seq ?_
    refine W_cond (b := decide (x6 < (x4.length : Int))) rfl (fun hc11 => ?_) (fun hc11 => ?_)
    · replace h2l := iteT hc11 h2l
      refine W_skip ?_
      refine W_join (fun e C => ∃ (x38 : List ApiPart), ∃ (x12 : ApiChunk), ∃ (x23 : ApiPart), ∃ (v37 : Value), ∃ (b13 : Nat), ∃ (b20 : Nat), weave_parts_j3 x6 x38 x12 x23 = some w2l ∧ At [(0, Pr.lst Rp.str x1), (1, Pr.lst Rp.str x2), (2, Pr.lst Rp.str x3), (7, Pr.is v37), (16, Pr.lst rApiChunk x4), (17, Pr.i64 (x4.length : Int)), (18, Pr.i64 x6)] [Own.vec v37 rApiPart x38 46, Own.box b13 rApiChunk x12, Own.box b20 rApiPart x23] e C) ?_ ?_
      · rintro e C ⟨x38, x12, x23, v37, b13, b20, h2l, hat3⟩
        refine W_at hat3 ?_
        clear hat3
        unfold weave_parts_j3 at h2l
        refine W_r ?_
        refine rq (out := Pr.i64 (w64 (x6 + 1))) qInt ?_
        refine rq (out := Pr.i64 (w64 (x6 + 1))) qMove ?_
        exact ⟨m2, Nat.lt_succ_self _, w64 (x6 + 1), x38, v37, hn2 _ (Option.some.inj h2l).symm, ⟨⟨Pr.le_rfl, Pr.le_rfl, Pr.le_rfl, Pr.le_rfl, Pr.le_rfl, Pr.le_rfl, Pr.le_rfl, trivial⟩, Pick.of [0] rfl⟩⟩
      · refine W_block ?_
        refine W_rs ?_
        obtain ⟨x12, hx12, h2l⟩ := bindSome h2l
        refine rq (out := Pr.cpt rApiChunk x12) (qIdxA (R := rApiChunk) (l := x4) Tryd.underlying99 Tryd.sizeOf104 hx12) ?_
        refine rq (out := (rApiChunk).val x12) (qLoadC (R := rApiChunk) (a := x12) ty104) ?_
        refine rAlloc (R := rApiChunk) (z := (ApiChunk.mk 0 (ApiSpan.mk 0 0) (ApiSpan.mk 0 0) (ApiSpan.mk 0 0))) Tryd.zeroValue104 (fun _ => ⟨_, ⟨_, _, rfl, rfl, ⟨_, _, rfl, ⟨_, _, rfl, rfl, ⟨_, _, rfl, rfl, rfl⟩⟩, ⟨_, _, rfl, ⟨_, _, rfl, rfl, ⟨_, _, rfl, rfl, rfl⟩⟩, ⟨_, _, rfl, ⟨_, _, rfl, rfl, ⟨_, _, rfl, rfl, rfl⟩⟩, rfl⟩⟩⟩⟩, rfl⟩) (fun b13 => ?_)
        refine rStore (R := rApiChunk) (R' := rApiChunk) (a := (ApiChunk.mk 0 (ApiSpan.mk 0 0) (ApiSpan.mk 0 0) (ApiSpan.mk 0 0))) (y := x12) 1 Tryd.sizeOf104 (Upd.refl _) ?_
        refine W_join (fun e C => ∃ (x15 : List UInt8), ∃ (x17 : List UInt8), ∃ (x19 : List UInt8), ∃ (b20 : Nat), weave_parts_j7 x12 x7 x6 x15 x17 x19 = some w2l ∧ At [(0, Pr.lst Rp.str x1), (1, Pr.lst Rp.str x2), (2, Pr.lst Rp.str x3), (7, Pr.is v5), (9, Pr.pt b13 0), (10, Pr.pt b20 0), (16, Pr.lst rApiChunk x4), (17, Pr.i64 (x4.length : Int)), (18, Pr.i64 x6)] [Own.vec v5 rApiPart x7 46, Own.box b13 rApiChunk x12, Own.box b20 rApiPart (ApiPart.mk (x12.Kind == 4) x15 x17 x19)] e C) ?_ ?_
        · rintro e C ⟨x15, x17, x19, b20, h2l, hat7⟩
          refine W_at hat7 ?_
          clear hat7
          unfold weave_parts_j7 at h2l
          refine W_join (fun e C => ∃ (x23 : ApiPart), weave_parts_j6 x7 x6 x12 x23 = some w2l ∧ At [(0, Pr.lst Rp.str x1), (1, Pr.lst Rp.str x2), (2, Pr.lst Rp.str x3), (7, Pr.is v5), (10, Pr.pt b20 0), (16, Pr.lst rApiChunk x4), (17, Pr.i64 (x4.length : Int)), (18, Pr.i64 x6)] [Own.vec v5 rApiPart x7 46, Own.box b13 rApiChunk x12, Own.box b20 rApiPart x23] e C) ?_ ?_
          · rintro e C ⟨x23, h2l, hat6⟩
            refine W_at hat6 ?_
            clear hat6
            unfold weave_parts_j6 at h2l
            refine W_seq ?_
            refine W_rs ?_
            refine rq (out := Pr.is v5) qMove ?_
            refine rq (out := Pr.i64 (x7.length : Int)) (qLenV 0 rfl Tryd.underlying43) ?_
            refine rq (out := Pr.i64 (x7.length : Int)) qAssign ?_
            refine W_join (fun e C => ∃ (x29 : Bool), weave_parts_j5 x7 x23 x6 x12 x29 = some w2l ∧ At [(0, Pr.lst Rp.str x1), (1, Pr.lst Rp.str x2), (2, Pr.lst Rp.str x3), (7, Pr.is v5), (10, Pr.pt b20 0), (11, Pr.i64 (x7.length : Int)), (16, Pr.lst rApiChunk x4), (17, Pr.i64 (x4.length : Int)), (18, Pr.i64 x6), (82, Pr.bool x29)] [Own.vec v5 rApiPart x7 46, Own.box b13 rApiChunk x12, Own.box b20 rApiPart x23] e C) ?_ ?_
            · rintro e C ⟨x29, h2l, hat5⟩
              refine W_at hat5 ?_
              clear hat5
              unfold weave_parts_j5 at h2l
              refine W_cond (b := x29) rfl (fun hc30 => ?_) (fun hc30 => ?_)
              · replace h2l := iteT hc30 h2l
                refine W_rs ?_
                refine rq (out := Pr.is v5) qMove ?_
                refine rq (out := Pr.i64 (x7.length : Int)) qMove ?_
                refine rq (out := Pr.i64 (w64 ((x7.length : Int) - 1))) qInt ?_
                obtain ⟨x31, hx31, h2l⟩ := bindSome h2l
                refine rq (out := Pr.vpt v5 (Int.toNat (w64 ((x7.length : Int) - 1)) * (rApiPart).size)) (qIdxV 0 (R := rApiPart) (l := x7) Tryd.underlying43 Tryd.sizeOf46 hx31) ?_
                refine rq (out := Pr.vpt v5 (Int.toNat (w64 ((x7.length : Int) - 1)) * (rApiPart).size)) qAssign ?_
                refine W_join (fun e C => ∃ (x32 : List UInt8), ∃ (x33 : List UInt8), ∃ (x34 : List UInt8), weave_parts_j4 x6 x7 x31 x12 x23 x32 x33 x34 = some w2l ∧ At [(0, Pr.lst Rp.str x1), (1, Pr.lst Rp.str x2), (2, Pr.lst Rp.str x3), (7, Pr.is v5), (16, Pr.lst rApiChunk x4), (17, Pr.i64 (x4.length : Int)), (18, Pr.i64 x6)] [Own.vec v5 rApiPart (List.set x7 (Int.toNat (w64 ((x7.length : Int) - 1))) (ApiPart.mk x31.Clash x32 x33 x34)) 46, Own.box b13 rApiChunk x12, Own.box b20 rApiPart x23] e C) ?_ ?_
                · rintro e C ⟨x32, x33, x34, h2l, hat4⟩
                  refine W_at hat4 ?_
                  clear hat4
                  unfold weave_parts_j4 at h2l
                  refine W_exit ?_
                  exact ⟨(List.set x7 (Int.toNat (w64 ((x7.length : Int) - 1))) (ApiPart.mk x31.Clash x32 x33 x34)), x12, x23, v5, b13, b20, h2l, ⟨⟨Pr.le_rfl, Pr.le_rfl, Pr.le_rfl, Pr.le_rfl, Pr.le_rfl, Pr.le_rfl, Pr.le_rfl, trivial⟩, Pick.refl _⟩⟩
                · obtain ⟨x32, hx32, h2l⟩ := bindSome h2l
                  obtain ⟨x33, hx33, h2l⟩ := bindSome h2l
                  obtain ⟨x34, hx34, h2l⟩ := bindSome h2l
                  refine W_drawG 0 (fun B S => [Own.vec v5 rApiPart (List.set x7 (Int.toNat (w64 ((x7.length : Int) - 1))) (ApiPart.mk x31.Clash (cond (S 26) x32 x31.O) (cond (S 29) x33 x31.A) (cond (S 32) x34 x31.B))) 46, Own.box b13 rApiChunk x12, Own.box b20 rApiPart x23]) (fun B => [Own.vec v5 rApiPart (List.set x7 (Int.toNat (w64 ((x7.length : Int) - 1))) (ApiPart.mk x31.Clash x32 x33 x34)) 46, Own.box b13 rApiChunk x12, Own.box b20 rApiPart x23]) [Pr.vpt v5 (Int.toNat (w64 ((x7.length : Int) - 1)) * (rApiPart).size), Pr.vpt v5 (Int.toNat (w64 ((x7.length : Int) - 1)) * (rApiPart).size), Pr.vpt v5 (Int.toNat (w64 ((x7.length : Int) - 1)) * (rApiPart).size), Pr.vpt v5 (Int.toNat (w64 ((x7.length : Int) - 1)) * (rApiPart).size), Pr.vpt v5 (Int.toNat (w64 ((x7.length : Int) - 1)) * (rApiPart).size), Pr.vpt v5 ((Int.toNat (w64 ((x7.length : Int) - 1)) * (rApiPart).size) + 1), Pr.str x31.O, Pr.pt b20 1, Pr.str x23.O, Pr.str x32, Pr.vpt v5 (Int.toNat (w64 ((x7.length : Int) - 1)) * (rApiPart).size), Pr.vpt v5 (Int.toNat (w64 ((x7.length : Int) - 1)) * (rApiPart).size), Pr.vpt v5 ((Int.toNat (w64 ((x7.length : Int) - 1)) * (rApiPart).size) + 2), Pr.str x31.A, Pr.pt b20 2, Pr.str x23.A, Pr.str x33, Pr.vpt v5 (Int.toNat (w64 ((x7.length : Int) - 1)) * (rApiPart).size), Pr.vpt v5 (Int.toNat (w64 ((x7.length : Int) - 1)) * (rApiPart).size), Pr.vpt v5 ((Int.toNat (w64 ((x7.length : Int) - 1)) * (rApiPart).size) + 3), Pr.str x31.B, Pr.pt b20 3, Pr.str x23.B, Pr.str x34, Pr.vpt v5 (Int.toNat (w64 ((x7.length : Int) - 1)) * (rApiPart).size), Pr.vpt v5 ((Int.toNat (w64 ((x7.length : Int) - 1)) * (rApiPart).size) + 1), .any, Pr.vpt v5 (Int.toNat (w64 ((x7.length : Int) - 1)) * (rApiPart).size), Pr.vpt v5 ((Int.toNat (w64 ((x7.length : Int) - 1)) * (rApiPart).size) + 2), .any, Pr.vpt v5 (Int.toNat (w64 ((x7.length : Int) - 1)) * (rApiPart).size), Pr.vpt v5 ((Int.toNat (w64 ((x7.length : Int) - 1)) * (rApiPart).size) + 3), .any] (fun k => ([0, 0, 0, 0, 0, 0, 0, 0, 0, 0, 0, 0, 0, 0, 0, 0, 0, 0, 0, 0, 0, 0, 0, 0, 0, 0, 1, 0, 0, 1, 0, 0, 1] : List Nat).getD k 0) hmx (by kernel_rfl) (by kernel_rfl) (fun B => congrArg (fun L => ([Own.vec v5 rApiPart L 46, Own.box b13 rApiChunk x12, Own.box b20 rApiPart x23] : Ctx)) (set_idx hx31)) (fun B S S' h => by show ([Own.vec v5 rApiPart (List.set x7 (Int.toNat (w64 ((x7.length : Int) - 1))) (ApiPart.mk x31.Clash (cond (S 26) x32 x31.O) (cond (S 29) x33 x31.A) (cond (S 32) x34 x31.B))) 46, Own.box b13 rApiChunk x12, Own.box b20 rApiPart x23] : Ctx) = [Own.vec v5 rApiPart (List.set x7 (Int.toNat (w64 ((x7.length : Int) - 1))) (ApiPart.mk x31.Clash (cond (S' 26) x32 x31.O) (cond (S' 29) x33 x31.A) (cond (S' 32) x34 x31.B))) 46, Own.box b13 rApiChunk x12, Own.box b20 rApiPart x23]; simp only [h 26 (Nat.le_of_ble_eq_true (by kernel_rfl)), h 29 (Nat.le_of_ble_eq_true (by kernel_rfl)), h 32 (Nat.le_of_ble_eq_true (by kernel_rfl))]) (fun _ => rfl) (fun B => ?_)
                  refine gq1 (fun S hK => qMove) ?_
                  refine gq1 (fun S hK => qMove) ?_
                  refine gq1 (fun S hK => qMove) ?_
                  refine gq1 (fun S hK => qMove) ?_
                  refine gq1 (fun S hK => qNilV) ?_
                  refine gq1 (fun S hK => (qFieldV fld46_1)) ?_
                  refine gq1 (fun S hK => (qLoadV (R := rApiPart) (R' := Rp.str) (l := (List.set x7 (Int.toNat (w64 ((x7.length : Int) - 1))) (ApiPart.mk x31.Clash (cond (S 26) x32 x31.O) (cond (S 29) x33 x31.A) (cond (S 32) x34 x31.B)))) (a := (ApiPart.mk x31.Clash (cond (S 26) x32 x31.O) (cond (S 29) x33 x31.A) (cond (S 32) x34 x31.B))) (o := 1) 0 ty9 subApiPart_O (Nat.le_of_ble_eq_true rfl) (idx_set hx31 _) rfl).as (congrArg Pr.str (condF (hK.F 26 (by kernel_rfl)) _ _))) ?_
                  refine gq1 (fun S hK => (qFieldP fld46_1)) ?_
                  refine gq1 (fun S hK => (qLoad (R := rApiPart) (a := x23) (R' := Rp.str) 2 ty9 subApiPart_O (hi := rfl))) ?_
                  refine gq1 (fun S hK => (qCat' hx32)) ?_
                  refine gq1 (fun S hK => qMove) ?_
                  refine gq1 (fun S hK => qNilV) ?_
                  refine gq1 (fun S hK => (qFieldV fld46_2)) ?_
                  refine gq1 (fun S hK => (qLoadV (R := rApiPart) (R' := Rp.str) (l := (List.set x7 (Int.toNat (w64 ((x7.length : Int) - 1))) (ApiPart.mk x31.Clash (cond (S 26) x32 x31.O) (cond (S 29) x33 x31.A) (cond (S 32) x34 x31.B)))) (a := (ApiPart.mk x31.Clash (cond (S 26) x32 x31.O) (cond (S 29) x33 x31.A) (cond (S 32) x34 x31.B))) (o := 2) 0 ty9 subApiPart_A (Nat.le_of_ble_eq_true rfl) (idx_set hx31 _) rfl).as (congrArg Pr.str (condF (hK.F 29 (by kernel_rfl)) _ _))) ?_
                  refine gq1 (fun S hK => (qFieldP fld46_2)) ?_
                  refine gq1 (fun S hK => (qLoad (R := rApiPart) (a := x23) (R' := Rp.str) 2 ty9 subApiPart_A (hi := rfl))) ?_
                  refine gq1 (fun S hK => (qCat' hx33)) ?_
                  refine gq1 (fun S hK => qMove) ?_
                  refine gq1 (fun S hK => qNilV) ?_
                  refine gq1 (fun S hK => (qFieldV fld46_3)) ?_
                  refine gq1 (fun S hK => (qLoadV (R := rApiPart) (R' := Rp.str) (l := (List.set x7 (Int.toNat (w64 ((x7.length : Int) - 1))) (ApiPart.mk x31.Clash (cond (S 26) x32 x31.O) (cond (S 29) x33 x31.A) (cond (S 32) x34 x31.B)))) (a := (ApiPart.mk x31.Clash (cond (S 26) x32 x31.O) (cond (S 29) x33 x31.A) (cond (S 32) x34 x31.B))) (o := 3) 0 ty9 subApiPart_B (Nat.le_of_ble_eq_true rfl) (idx_set hx31 _) rfl).as (congrArg Pr.str (condF (hK.F 32 (by kernel_rfl)) _ _))) ?_
                  refine gq1 (fun S hK => (qFieldP fld46_3)) ?_
                  refine gq1 (fun S hK => (qLoad (R := rApiPart) (a := x23) (R' := Rp.str) 2 ty9 subApiPart_B (hi := rfl))) ?_
                  refine gq1 (fun S hK => (qCat' hx34)) ?_
                  refine gq1 (fun S hK => qNilV) ?_
                  refine gq1 (fun S hK => (qFieldV fld46_1)) ?_
                  refine gqS (fun S hK => SStep.as (sStoreE (R := rApiPart) (R' := Rp.str) (l := (List.set x7 (Int.toNat (w64 ((x7.length : Int) - 1))) (ApiPart.mk x31.Clash (cond (S 26) x32 x31.O) (cond (S 29) x33 x31.A) (cond (S 32) x34 x31.B)))) (a := (ApiPart.mk x31.Clash (cond (S 26) x32 x31.O) (cond (S 29) x33 x31.A) (cond (S 32) x34 x31.B))) (y := x32) (o := 1) 0 Tryd.sizeOf9 updApiPart_O (idx_set hx31 _) rfl) (congrArg (fun L => ([Own.vec v5 rApiPart L 46, Own.box b13 rApiChunk x12, Own.box b20 rApiPart x23] : Ctx)) (List.set_set ..))) ?_
                  refine gq1 (fun S hK => qNilV) ?_
                  refine gq1 (fun S hK => (qFieldV fld46_2)) ?_
                  refine gqS (fun S hK => SStep.as (sStoreE (R := rApiPart) (R' := Rp.str) (l := (List.set x7 (Int.toNat (w64 ((x7.length : Int) - 1))) (ApiPart.mk x31.Clash (cond (S 26) x32 x31.O) (cond (S 29) x33 x31.A) (cond (S 32) x34 x31.B)))) (a := (ApiPart.mk x31.Clash (cond (S 26) x32 x31.O) (cond (S 29) x33 x31.A) (cond (S 32) x34 x31.B))) (y := x33) (o := 2) 0 Tryd.sizeOf9 updApiPart_A (idx_set hx31 _) rfl) (congrArg (fun L => ([Own.vec v5 rApiPart L 46, Own.box b13 rApiChunk x12, Own.box b20 rApiPart x23] : Ctx)) (List.set_set ..))) ?_
                  refine gq1 (fun S hK => qNilV) ?_
                  refine gq1 (fun S hK => (qFieldV fld46_3)) ?_
                  refine gqS (fun S hK => SStep.as (sStoreE (R := rApiPart) (R' := Rp.str) (l := (List.set x7 (Int.toNat (w64 ((x7.length : Int) - 1))) (ApiPart.mk x31.Clash (cond (S 26) x32 x31.O) (cond (S 29) x33 x31.A) (cond (S 32) x34 x31.B)))) (a := (ApiPart.mk x31.Clash (cond (S 26) x32 x31.O) (cond (S 29) x33 x31.A) (cond (S 32) x34 x31.B))) (y := x34) (o := 3) 0 Tryd.sizeOf9 updApiPart_B (idx_set hx31 _) rfl) (congrArg (fun L => ([Own.vec v5 rApiPart L 46, Own.box b13 rApiChunk x12, Own.box b20 rApiPart x23] : Ctx)) (List.set_set ..))) ?_
                  exact ⟨x32, x33, x34, h2l, ⟨⟨Pr.le_rfl, Pr.le_rfl, Pr.le_rfl, Pr.le_rfl, Pr.le_rfl, Pr.le_rfl, Pr.le_rfl, trivial⟩, Pick.refl _⟩⟩
              · replace h2l := iteF hc30 h2l
                refine W_skip ?_
                refine W_r ?_
                refine rq (out := Pr.is v5) qMove ?_
                refine rq (out := (rApiPart).val x23) (qLoad (R := rApiPart) (a := x23) (R' := rApiPart) 2 ty46 (Sub.refl _)) ?_
                refine rq (out := Pr.lst rApiPart ([x23] : List ApiPart)) (qBuildSlice1 (R := rApiPart) (a := x23) el43 (Nat.le_of_ble_eq_true rfl)) ?_
                obtain ⟨x35, hx35, h2l⟩ := bindSome h2l
                refine rAppend' 0 el43 hx35 (fun v36 => ?_)
                refine rq (out := Pr.is v36) qAssign ?_
                exact ⟨x35, x12, x23, v36, b13, b20, h2l, ⟨⟨Pr.le_rfl, Pr.le_rfl, Pr.le_rfl, Pr.le_rfl, Pr.le_rfl, Pr.le_rfl, Pr.le_rfl, trivial⟩, Pick.refl _⟩⟩
            · refine W_r ?_
              refine rq (out := Pr.pt b20 0) (qFieldP fld46_0) ?_
              refine rq (out := Pr.bool x23.Clash) (qLoad (R := rApiPart) (a := x23) (R' := Rp.bool) 2 ty4 subApiPart_Clash) ?_
              refine rq (out := Pr.bool (!x23.Clash)) qNot ?_
              refine rq (out := Pr.bool (!x23.Clash)) qMove ?_
              rcases iteSome h2l with ⟨hc24, h2l⟩ | ⟨hc24, h2l⟩
              · refine rqg hc24 (out := Pr.i64 (x7.length : Int)) qMove ?_
                refine rqg hc24 (out := Pr.bool (decide ((x7.length : Int) > 0))) qInt ?_
                refine rq (out := Pr.bool (decide ((x7.length : Int) > 0))) (qPickT hc24) ?_
                refine rq (out := Pr.bool (decide ((x7.length : Int) > 0))) qMove ?_
                rcases iteSome h2l with ⟨hc25, h2l⟩ | ⟨hc25, h2l⟩
                · refine rqg hc25 (out := Pr.is v5) qMove ?_
                  refine rqg hc25 (out := Pr.i64 (x7.length : Int)) qMove ?_
                  refine rqg hc25 (out := Pr.i64 (w64 ((x7.length : Int) - 1))) qInt ?_
                  obtain ⟨x26, hx26, h2l⟩ := bindSome h2l
                  refine rqg hc25 (out := Pr.vpt v5 (Int.toNat (w64 ((x7.length : Int) - 1)) * (rApiPart).size)) (qIdxV 0 (R := rApiPart) (l := x7) Tryd.underlying43 Tryd.sizeOf46 hx26) ?_
                  refine rqg hc25 (out := Pr.vpt v5 ((Int.toNat (w64 ((x7.length : Int) - 1)) * (rApiPart).size) + 0)) (qFieldV fld46_0) ?_
                  refine rqg hc25 (out := Pr.bool x26.Clash) (qLoadV (R := rApiPart) (R' := Rp.bool) (l := x7) (a := x26) (o := 0) 0 ty4 subApiPart_Clash (Nat.le_of_ble_eq_true rfl) hx26 rfl) ?_
                  refine rqg hc25 (out := Pr.bool (!x26.Clash)) qNot ?_
                  refine rq (out := Pr.bool (!x26.Clash)) (qPickT hc25) ?_
                  exact ⟨!x26.Clash, h2l, ⟨⟨Pr.le_rfl, Pr.le_rfl, Pr.le_rfl, Pr.le_rfl, Pr.le_rfl, Pr.le_rfl, Pr.le_rfl, Pr.le_rfl, Pr.le_rfl, Pr.le_rfl, trivial⟩, Pick.refl _⟩⟩
                · refine rno (neT hc25) ?_
                  refine rno (neT hc25) ?_
                  refine rno (neT hc25) ?_
                  refine rno (neT hc25) ?_
                  refine rno (neT hc25) ?_
                  refine rno (neT hc25) ?_
                  refine rno (neT hc25) ?_
                  refine rq (out := Pr.bool false) (qPickF hc25) ?_
                  exact ⟨false, h2l, ⟨⟨Pr.le_rfl, Pr.le_rfl, Pr.le_rfl, Pr.le_rfl, Pr.le_rfl, Pr.le_rfl, Pr.le_rfl, Pr.le_rfl, Pr.le_rfl, Pr.le_rfl, trivial⟩, Pick.refl _⟩⟩
              · refine rno (neT hc24) ?_
                refine rno (neT hc24) ?_
                refine rq (out := Pr.bool false) (qPickF hc24) ?_
                refine rq (out := Pr.bool false) qMove ?_
                have hc27 : false = false := rfl
                refine rno (neT hc27) ?_
                refine rno (neT hc27) ?_
                refine rno (neT hc27) ?_
                refine rno (neT hc27) ?_
                refine rno (neT hc27) ?_
                refine rno (neT hc27) ?_
                refine rno (neT hc27) ?_
                refine rq (out := Pr.bool false) (qPickF hc27) ?_
                exact ⟨false, h2l, ⟨⟨Pr.le_rfl, Pr.le_rfl, Pr.le_rfl, Pr.le_rfl, Pr.le_rfl, Pr.le_rfl, Pr.le_rfl, Pr.le_rfl, Pr.le_rfl, Pr.le_rfl, trivial⟩, Pick.refl _⟩⟩
          · refine W_rs ?_
            refine rq (out := Pr.pt b13 0) (qFieldP fld104_0) ?_
            refine rq (out := Pr.i64 x12.Kind) (qLoad (R := rApiChunk) (a := x12) (R' := Rp.int .i64) 1 ty3 subApiChunk_Kind) ?_
            refine W_block ?_
            refine W_rs ?_
            refine rq (out := Pr.bool (x12.Kind == 4)) qInt ?_
            refine rq (out := Pr.bool (x12.Kind == 4)) qAssign ?_
            refine W_cond (b := x12.Kind == 4) rfl (fun hc21 => ?_) (fun hc21 => ?_)
            · replace h2l := iteT hc21 h2l
              refine W_skip ?_
              exact ⟨(ApiPart.mk (x12.Kind == 4) x15 x17 x19), h2l, ⟨⟨Pr.le_rfl, Pr.le_rfl, Pr.le_rfl, Pr.le_rfl, Pr.le_rfl, Pr.le_rfl, Pr.le_rfl, Pr.le_rfl, trivial⟩, Pick.refl _⟩⟩
            · replace h2l := iteF hc21 h2l
              refine W_rs ?_
              refine rq (out := Pr.bool (x12.Kind == 2)) qInt ?_
              refine rq (out := Pr.bool (x12.Kind == 2)) qAssign ?_
              refine W_cond (b := x12.Kind == 2) rfl (fun hc22 => ?_) (fun hc22 => ?_)
              · replace h2l := iteT hc22 h2l
                refine W_r ?_
                refine rq (out := Pr.pt b20 3) (qFieldP fld46_3) ?_
                refine rq (out := Pr.str ((ApiPart.mk (x12.Kind == 4) x15 x17 x19).B)) (qLoad (R := rApiPart) (a := (ApiPart.mk (x12.Kind == 4) x15 x17 x19)) (R' := Rp.str) 2 ty9 subApiPart_B) ?_
                refine rq (out := Pr.pt b20 2) (qFieldP fld46_2) ?_
                refine rStore (R := rApiPart) (R' := Rp.str) (a := (ApiPart.mk (x12.Kind == 4) x15 x17 x19)) (y := (ApiPart.mk (x12.Kind == 4) x15 x17 x19).B) 2 Tryd.sizeOf9 updApiPart_A ?_
                exact ⟨{ (ApiPart.mk (x12.Kind == 4) x15 x17 x19) with A := (ApiPart.mk (x12.Kind == 4) x15 x17 x19).B }, h2l, ⟨⟨Pr.le_rfl, Pr.le_rfl, Pr.le_rfl, Pr.le_rfl, Pr.le_rfl, Pr.le_rfl, Pr.le_rfl, Pr.le_rfl, trivial⟩, Pick.refl _⟩⟩
              · replace h2l := iteF hc22 h2l
                refine W_r ?_
                refine rq (out := Pr.pt b20 2) (qFieldP fld46_2) ?_
                refine rq (out := Pr.str ((ApiPart.mk (x12.Kind == 4) x15 x17 x19).A)) (qLoad (R := rApiPart) (a := (ApiPart.mk (x12.Kind == 4) x15 x17 x19)) (R' := Rp.str) 2 ty9 subApiPart_A) ?_
                refine rq (out := Pr.pt b20 3) (qFieldP fld46_3) ?_
                refine rStore (R := rApiPart) (R' := Rp.str) (a := (ApiPart.mk (x12.Kind == 4) x15 x17 x19)) (y := (ApiPart.mk (x12.Kind == 4) x15 x17 x19).A) 2 Tryd.sizeOf9 updApiPart_B ?_
                exact ⟨{ (ApiPart.mk (x12.Kind == 4) x15 x17 x19) with B := (ApiPart.mk (x12.Kind == 4) x15 x17 x19).A }, h2l, ⟨⟨Pr.le_rfl, Pr.le_rfl, Pr.le_rfl, Pr.le_rfl, Pr.le_rfl, Pr.le_rfl, Pr.le_rfl, Pr.le_rfl, trivial⟩, Pick.refl _⟩⟩
        · obtain ⟨x14, hx14, h2l⟩ := bindSome h2l
          obtain ⟨x15, hx15, h2l⟩ := bindSome h2l
          obtain ⟨x16, hx16, h2l⟩ := bindSome h2l
          obtain ⟨x17, hx17, h2l⟩ := bindSome h2l
          obtain ⟨x18, hx18, h2l⟩ := bindSome h2l
          obtain ⟨x19, hx19, h2l⟩ := bindSome h2l
          refine W_drawG 1 (fun B S => [Own.vec v5 rApiPart x7 46, Own.box b13 rApiChunk x12, (cond (S 32) (Own.box (B 31) rApiPart (ApiPart.mk (x12.Kind == 4) x15 x17 x19)) (cond (S 31) (Own.box (B 31) rApiPart (ApiPart.mk false [] [] [])) Own.nil))]) (fun B => [Own.vec v5 rApiPart x7 46, Own.box b13 rApiChunk x12, Own.box (B 31) rApiPart (ApiPart.mk (x12.Kind == 4) x15 x17 x19)]) [Pr.pt b13 0, Pr.i64 x12.Kind, Pr.bool (x12.Kind == 4), Pr.lst Rp.str x1, Pr.pt b13 1, Pr.pt b13 1, Pr.i64 x12.O.From, Pr.pt b13 1, Pr.pt b13 2, Pr.i64 x12.O.To, Pr.lst Rp.str x14, Pr.str x15, Pr.lst Rp.str x2, Pr.pt b13 3, Pr.pt b13 3, Pr.i64 x12.A.From, Pr.pt b13 3, Pr.pt b13 4, Pr.i64 x12.A.To, Pr.lst Rp.str x16, Pr.str x17, Pr.lst Rp.str x3, Pr.pt b13 5, Pr.pt b13 5, Pr.i64 x12.B.From, Pr.pt b13 5, Pr.pt b13 6, Pr.i64 x12.B.To, Pr.lst Rp.str x18, Pr.str x19, (rApiPart).val (ApiPart.mk (x12.Kind == 4) x15 x17 x19), .any, .any] (fun k => ([0, 0, 0, 0, 0, 0, 0, 0, 0, 0, 0, 0, 0, 0, 0, 0, 0, 0, 0, 0, 0, 0, 0, 0, 0, 0, 0, 0, 0, 0, 0, 2, 1] : List Nat).getD k 0) hmx (by kernel_rfl) (by kernel_rfl) (fun _ => rfl) (fun B S S' h => by show ([Own.vec v5 rApiPart x7 46, Own.box b13 rApiChunk x12, (cond (S 32) (Own.box (B 31) rApiPart (ApiPart.mk (x12.Kind == 4) x15 x17 x19)) (cond (S 31) (Own.box (B 31) rApiPart (ApiPart.mk false [] [] [])) Own.nil))] : Ctx) = [Own.vec v5 rApiPart x7 46, Own.box b13 rApiChunk x12, (cond (S' 32) (Own.box (B 31) rApiPart (ApiPart.mk (x12.Kind == 4) x15 x17 x19)) (cond (S' 31) (Own.box (B 31) rApiPart (ApiPart.mk false [] [] [])) Own.nil))]; simp only [h 31 (Nat.le_of_ble_eq_true (by kernel_rfl)), h 32 (Nat.le_of_ble_eq_true (by kernel_rfl))]) (fun _ => rfl) (fun B => ?_)
          refine gq1 (fun S hK => (qFieldP fld104_0)) ?_
          refine gq1 (fun S hK => (qLoad (R := rApiChunk) (a := x12) (R' := Rp.int .i64) 1 ty3 subApiChunk_Kind (hi := rfl))) ?_
          refine gq1 (fun S hK => qInt) ?_
          refine gq1 (fun S hK => qMove) ?_
          refine gq1 (fun S hK => (qFieldP fld104_1)) ?_
          refine gq1 (fun S hK => (qFieldP fld102_0)) ?_
          refine gq1 (fun S hK => (qLoad (R := rApiChunk) (a := x12) (R' := Rp.int .i64) 1 ty3 (subApiChunk_O.trans subApiSpan_From (Nat.le_of_ble_eq_true rfl)) (hi := rfl))) ?_
          refine gq1 (fun S hK => (qFieldP fld104_1)) ?_
          refine gq1 (fun S hK => (qFieldP fld102_1)) ?_
          refine gq1 (fun S hK => (qLoad (R := rApiChunk) (a := x12) (R' := Rp.int .i64) 1 ty3 (subApiChunk_O.trans subApiSpan_To (Nat.le_of_ble_eq_true rfl)) (hi := rfl))) ?_
          refine gq1 (fun S hK => (qLSubLH Tryd.underlying35 Tryd.sizeOf9 hx14)) ?_
          refine gq1 (fun S hK => (qCall (strings_Join_ok x14 [] _ hx15))) ?_
          refine gq1 (fun S hK => qMove) ?_
          refine gq1 (fun S hK => (qFieldP fld104_2)) ?_
          refine gq1 (fun S hK => (qFieldP fld102_0)) ?_
          refine gq1 (fun S hK => (qLoad (R := rApiChunk) (a := x12) (R' := Rp.int .i64) 1 ty3 (subApiChunk_A.trans subApiSpan_From (Nat.le_of_ble_eq_true rfl)) (hi := rfl))) ?_
          refine gq1 (fun S hK => (qFieldP fld104_2)) ?_
          refine gq1 (fun S hK => (qFieldP fld102_1)) ?_
          refine gq1 (fun S hK => (qLoad (R := rApiChunk) (a := x12) (R' := Rp.int .i64) 1 ty3 (subApiChunk_A.trans subApiSpan_To (Nat.le_of_ble_eq_true rfl)) (hi := rfl))) ?_
          refine gq1 (fun S hK => (qLSubLH Tryd.underlying35 Tryd.sizeOf9 hx16)) ?_
          refine gq1 (fun S hK => (qCall (strings_Join_ok x16 [] _ hx17))) ?_
          refine gq1 (fun S hK => qMove) ?_
          refine gq1 (fun S hK => (qFieldP fld104_3)) ?_
          refine gq1 (fun S hK => (qFieldP fld102_0)) ?_
          refine gq1 (fun S hK => (qLoad (R := rApiChunk) (a := x12) (R' := Rp.int .i64) 1 ty3 (subApiChunk_B.trans subApiSpan_From (Nat.le_of_ble_eq_true rfl)) (hi := rfl))) ?_
          refine gq1 (fun S hK => (qFieldP fld104_3)) ?_
          refine gq1 (fun S hK => (qFieldP fld102_1)) ?_
          refine gq1 (fun S hK => (qLoad (R := rApiChunk) (a := x12) (R' := Rp.int .i64) 1 ty3 (subApiChunk_B.trans subApiSpan_To (Nat.le_of_ble_eq_true rfl)) (hi := rfl))) ?_
          refine gq1 (fun S hK => (qLSubLH Tryd.underlying35 Tryd.sizeOf9 hx18)) ?_
          refine gq1 (fun S hK => (qCall (strings_Join_ok x18 [] _ hx19))) ?_
          refine gq1 (fun S hK => (qBuild st46 ⟨(ApiPart.mk (x12.Kind == 4) [] [] []), ⟨_, rfl, rfl, fun j fd hj hf => by match j, hj with | 0, h => exact absurd rfl h | 1, _ => cases hf; rfl | 2, _ => cases hf; rfl | 3, _ => cases hf; rfl | _ + 4, _ => cases hf⟩, ⟨(ApiPart.mk (x12.Kind == 4) x15 [] []), ⟨_, rfl, rfl, fun j fd hj hf => by match j, hj with | 0, _ => cases hf; rfl | 1, h => exact absurd rfl h | 2, _ => cases hf; rfl | 3, _ => cases hf; rfl | _ + 4, _ => cases hf⟩, ⟨(ApiPart.mk (x12.Kind == 4) x15 x17 []), ⟨_, rfl, rfl, fun j fd hj hf => by match j, hj with | 0, _ => cases hf; rfl | 1, _ => cases hf; rfl | 2, h => exact absurd rfl h | 3, _ => cases hf; rfl | _ + 4, _ => cases hf⟩, ⟨(ApiPart.mk (x12.Kind == 4) x15 x17 x19), ⟨_, rfl, rfl, fun j fd hj hf => by match j, hj with | 0, _ => cases hf; rfl | 1, _ => cases hf; rfl | 2, _ => cases hf; rfl | 3, h => exact absurd rfl h | _ + 4, _ => cases hf⟩, rfl⟩⟩⟩⟩)) ?_
          refine gqA (fun S hK => ⟨fun B' hB => by show ([Own.vec v5 rApiPart x7 46, Own.box b13 rApiChunk x12, (cond (S 32) (Own.box (B' 31) rApiPart (ApiPart.mk (x12.Kind == 4) x15 x17 x19)) (cond (S 31) (Own.box (B' 31) rApiPart (ApiPart.mk false [] [] [])) Own.nil))] : Ctx) = [Own.vec v5 rApiPart x7 46, Own.box b13 rApiChunk x12, (cond (S 32) (Own.box (B 31) rApiPart (ApiPart.mk (x12.Kind == 4) x15 x17 x19)) (cond (S 31) (Own.box (B 31) rApiPart (ApiPart.mk false [] [] [])) Own.nil))]; simp only [hK.me, hK.F 32 (by kernel_rfl), cond_false], fun s ρ hg _ => sAlloc (R := rApiPart) (z := (ApiPart.mk false [] [] [])) 2 Tryd.zeroValue46 (fun _ => ⟨_, ⟨_, _, rfl, rfl, ⟨_, _, rfl, rfl, ⟨_, _, rfl, rfl, ⟨_, _, rfl, rfl, rfl⟩⟩⟩⟩, rfl⟩) (congrArg some ((condF (hK.F 32 (by kernel_rfl)) _ _).trans (condF (hK.me) _ _))) (fun b => by show ([Own.vec v5 rApiPart x7 46, Own.box b13 rApiChunk x12, (cond (S 32) (Own.box b rApiPart (ApiPart.mk (x12.Kind == 4) x15 x17 x19)) (Own.box b rApiPart (ApiPart.mk false [] [] [])))] : Ctx) = _; rw [hK.F 32 (by kernel_rfl)]; rfl) s ρ hg⟩) ?_
          refine gqS (fun S hK => SStep.as (sStore (R := rApiPart) (R' := rApiPart) (a := (ApiPart.mk false [] [] [])) (y := (ApiPart.mk (x12.Kind == 4) x15 x17 x19)) 2 Tryd.sizeOf46 (Upd.refl _) (congrArg some ((condF (hK.me) _ _).trans (condT (hK.T 31 (by kernel_rfl)) _ _)))) (by show (_ : Ctx) = [Own.vec v5 rApiPart x7 46, Own.box b13 rApiChunk x12, Own.box (B 31) rApiPart (ApiPart.mk (x12.Kind == 4) x15 x17 x19)]; rfl)) ?_
          exact ⟨x15, x17, x19, (B 31), h2l, ⟨⟨Pr.le_rfl, Pr.le_rfl, Pr.le_rfl, Pr.le_rfl, Pr.le_rfl, Pr.le_rfl, Pr.le_rfl, Pr.le_rfl, Pr.le_rfl, trivial⟩, Pick.refl _⟩⟩
    · replace h2l := iteF hc11 h2l
      refine W_exit ?_
      obtain rfl := ho2 _ (Option.some.inj h2l).symm
      exact ⟨x7, v5, h, ⟨⟨Pr.le_rfl, trivial⟩, Pick.refl _⟩⟩
theorem weave_apart_ok (x1 : (Unit → Option ((List (List UInt8)) × Bool))) (x2 : (Unit → Option ((List (List UInt8)) × Bool))) (x3 : (Unit → Option ((List (List UInt8)) × Bool))) (r : (List ApiPart) × Bool) (h : weave_apart x1 x2 x3 = some r) : FnP Tryd.prog 60 [Pr.pfn Tryd.prog (spec83 x1), Pr.pfn Tryd.prog (spec83 x2), Pr.pfn Tryd.prog (spec83 x3)] (Pr.tup [Pr.lst rApiPart r.1, Pr.bool r.2]) := by
  refine fn_intro (n := 41) (rs := [6, 7]) Tryd.func60 rfl Tryd.ntmps60 ⟨by decide, Tryd.results60⟩ (by decide) (fun s0 => ?_)
  unfold weave_apart at h
  refine W_rs ?_
  refine rq (out := Pr.is (.slice none 0 0)) qAssign ?_
  refine rq (out := Pr.bool false) qAssign ?_
  refine W_rs ?_
  refine rAlloc (R := Rp.arr 3 (Rp.list Rp.str)) (z := (List.replicate 3 [])) Tryd.zeroValue91 (fun _ => ⟨_, ⟨rfl, ⟨[Value.slice none 0 0], _, rfl, ⟨_, rfl, none, 0, rfl, ⟨Nat.le_refl _, fun _ => rfl⟩, .inl rfl⟩, ⟨[Value.slice none 0 0], _, rfl, ⟨_, rfl, none, 0, rfl, ⟨Nat.le_refl _, fun _ => rfl⟩, .inl rfl⟩, ⟨[Value.slice none 0 0], _, rfl, ⟨_, rfl, none, 0, rfl, ⟨Nat.le_refl _, fun _ => rfl⟩, .inl rfl⟩, rfl⟩⟩⟩⟩, rfl⟩) (fun b4 => ?_)
  refine W_seq ?_
  refine W_rs ?_
  refine rq (out := Pr.pfn Tryd.prog (spec83 x1)) qMove ?_
  refine rq (out := Pr.pfn Tryd.prog (spec83 x2)) qMove ?_
  refine rq (out := Pr.pfn Tryd.prog (spec83 x3)) qMove ?_
  refine rq (out := Pr.lst (Rp.fn (fun x => Pr.pfn Tryd.prog (spec83 x)) pfn_one) ([x1, x2, x3] : List (Unit → Option ((List (List UInt8)) × Bool)))) (qBuildSlice (R := Rp.fn (fun x => Pr.pfn Tryd.prog (spec83 x)) pfn_one) (ls := ([x1, x2, x3] : List (Unit → Option ((List (List UInt8)) × Bool)))) el92 (Nat.le_of_ble_eq_true rfl) ⟨rfl, rfl⟩ ⟨rfl, rfl, rfl, trivial⟩) ?_
  refine rq (out := Pr.i64 (([x1, x2, x3] : List (Unit → Option ((List (List UInt8)) × Bool))).length : Int)) (qLenL rfl Tryd.underlying92) ?_
  refine rq (out := Pr.i64 0) qMove ?_
  refine W_block ?_
  obtain ⟨z2l, hz2, h⟩ := bindSome h
  obtain ⟨n2, hN2⟩ := iter_some hz2
  clear hz2
  refine W_after 0 (fun e C => ∃ (x6 : List (List (List UInt8))), weave_apart_k1 x6 = some r ∧ At [(8, Pr.pt b4 0)] [Own.box b4 (Rp.arr 3 (Rp.list Rp.str)) x6] e C) ?_ ?_
  · rintro e C ⟨x6, h, hat1⟩
    refine W_at hat1 ?_
    clear hat1
    unfold weave_apart_k1 at h
    refine W_rs ?_
    obtain ⟨x15, hx15, h⟩ := bindSome h
    refine rq (out := Pr.pt b4 (x15 * 1)) (qIdxP Tryd.underlying91 Tryd.sizeOf35 hx15) ?_
    refine rq (out := Pr.lst Rp.str (List.getD x6 x15 [])) (qLoad (R := Rp.arr 3 (Rp.list Rp.str)) (a := x6) (R' := Rp.list Rp.str) 0 ty35 (Sub.arr [] (arrIx_lt hx15))) ?_
    obtain ⟨x16, hx16, h⟩ := bindSome h
    refine rq (out := Pr.pt b4 (x16 * 1)) (qIdxP Tryd.underlying91 Tryd.sizeOf35 hx16) ?_
    refine rq (out := Pr.lst Rp.str (List.getD x6 x16 [])) (qLoad (R := Rp.arr 3 (Rp.list Rp.str)) (a := x6) (R' := Rp.list Rp.str) 0 ty35 (Sub.arr [] (arrIx_lt hx16))) ?_
    obtain ⟨x17, hx17, h⟩ := bindSome h
    refine rq (out := Pr.pt b4 (x17 * 1)) (qIdxP Tryd.underlying91 Tryd.sizeOf35 hx17) ?_
    refine rq (out := Pr.lst Rp.str (List.getD x6 x17 [])) (qLoad (R := Rp.arr 3 (Rp.list Rp.str)) (a := x6) (R' := Rp.list Rp.str) 0 ty35 (Sub.arr [] (arrIx_lt hx17))) ?_
    obtain ⟨x18, hx18, h⟩ := bindSome h
    refine rq (out := Pr.lst rApiPart x18) (qCall (weave_parts_ok (List.getD x6 x15 []) (List.getD x6 x16 []) (List.getD x6 x17 []) _ hx18)) ?_
    refine rq (out := Pr.lst rApiPart x18) qAssign ?_
    refine rq (out := Pr.bool true) qAssign ?_
    obtain rfl := Option.some.inj h
    exact W_ret ⟨rfl, Pr.le_rfl⟩
  · refine W_loop (fun m e C => ∃ (x5 : Int), ∃ (x6 : List (List (List UInt8))), IterN (fun s => weave_apart_l2 x1 x2 x3 s.1 s.2) m (x5, x6) = some z2l ∧ At [(8, Pr.pt b4 0), (16, Pr.lst (Rp.fn (fun x => Pr.pfn Tryd.prog (spec83 x)) pfn_one) ([x1, x2, x3] : List (Unit → Option ((List (List UInt8)) × Bool)))), (17, Pr.i64 (([x1, x2, x3] : List (Unit → Option ((List (List UInt8)) × Bool))).length : Int)), (18, Pr.i64 x5)] [Own.box b4 (Rp.arr 3 (Rp.list Rp.str)) x6] e C) n2 ⟨0, (List.replicate 3 []), hN2, ⟨⟨Pr.le_rfl, Pr.le_rfl, Pr.le_rfl, Pr.le_rfl, trivial⟩, Pick.refl _⟩⟩ ?_
    clear hN2
    rintro m e C ⟨x5, x6, hN2, hatl2⟩
    refine W_at hatl2 ?_
    clear hatl2
    obtain ⟨m2, w2l, rfl, h2l, hn2, ho2⟩ := iterN_some hN2
    clear hN2
    replace h2l : weave_apart_l2 x1 x2 x3 x5 x6 = some w2l := h2l
    unfold weave_apart_l2 at h2l
    refine W_rs ?_
    refine rq (out := Pr.bool (decide (x5 < (([x1, x2, x3] : List (Unit → Option ((List (List UInt8)) × Bool))).length : Int)))) qInt ?_
    refine W_seq ?_
    refine W_cond (b := decide (x5 < (([x1, x2, x3] : List (Unit → Option ((List (List UInt8)) × Bool))).length : Int))) rfl (fun hc9 => ?_) (fun hc9 => ?_)
    · replace h2l := iteT hc9 h2l
      refine W_skip ?_
      refine W_seq ?_
      refine W_block ?_
      refine W_rs ?_
      refine rq (out := Pr.i64 x5) qMove ?_
      obtain ⟨x10, hx10, h2l⟩ := bindSome h2l
      refine rq (out := Pr.cpt (Rp.fn (fun x => Pr.pfn Tryd.prog (spec83 x)) pfn_one) x10) (qIdxA (R := Rp.fn (fun x => Pr.pfn Tryd.prog (spec83 x)) pfn_one) (l := ([x1, x2, x3] : List (Unit → Option ((List (List UInt8)) × Bool)))) Tryd.underlying92 Tryd.sizeOf83 hx10) ?_
      refine rq (out := Pr.pfn Tryd.prog (spec83 x10)) (qLoadC (R := Rp.fn (fun x => Pr.pfn Tryd.prog (spec83 x)) pfn_one) (a := x10) ty83) ?_
      refine rq (out := Pr.i64 x5) qAssign ?_
      refine rq (out := Pr.pfn Tryd.prog (spec83 x10)) qAssign ?_
      refine W_rs ?_
      refine rq (out := Pr.pfn Tryd.prog (spec83 x10)) qMove ?_
      obtain ⟨⟨x11, x12⟩, hx11, h2l⟩ := bindSome h2l
      refine rq (out := Pr.tup [Pr.lst Rp.str x11, Pr.bool x12]) (qCallP (spec := spec83 x10) ⟨_, rfl, rfl, hx11⟩) ?_
      refine rq (out := Pr.tup [Pr.lst Rp.str x11, Pr.bool x12]) qMove ?_
      refine rq (out := Pr.lst Rp.str x11) qExtract ?_
      refine rq (out := Pr.bool x12) qExtract ?_
      refine rq (out := Pr.lst Rp.str x11) qAssign ?_
      refine rq (out := Pr.bool x12) qAssign ?_
      refine W_seq ?_
      refine W_rs ?_
      refine rq (out := Pr.bool x12) qMove ?_
      refine rq (out := Pr.bool (!x12)) qNot ?_
      refine W_cond (b := !x12) rfl (fun hc13 => ?_) (fun hc13 => ?_)
      · replace h2l := iteT hc13 h2l
        refine W_rs ?_
        refine rq (out := Pr.is (.slice none 0 0)) qAssign ?_
        refine rq (out := Pr.bool false) qAssign ?_
        obtain rfl := ho2 _ (Option.some.inj h2l).symm
        replace h : some ([], false) = some r := h
        obtain rfl := Option.some.inj h
        exact W_ret ⟨rfl, tup_le ⟨Pr.lst_nil _, Pr.le_rfl, trivial⟩⟩
      · replace h2l := iteF hc13 h2l
        refine W_skip ?_
        refine W_r ?_
        refine rq (out := Pr.i64 x5) qMove ?_
        refine rq (out := Pr.lst Rp.str x11) qMove ?_
        obtain ⟨x14, hx14, h2l⟩ := bindSome h2l
        refine rq (out := Pr.pt b4 (x14 * 1)) (qIdxP Tryd.underlying91 Tryd.sizeOf35 hx14) ?_
        refine rStore (R := Rp.arr 3 (Rp.list Rp.str)) (R' := Rp.list Rp.str) (a := x6) (y := x11) 0 Tryd.sizeOf35 (Upd.arr (arrIx_lt hx14)) ?_
        refine W_r ?_
        refine rq (out := Pr.i64 (w64 (x5 + 1))) qInt ?_
        refine rq (out := Pr.i64 (w64 (x5 + 1))) qMove ?_
        exact ⟨m2, Nat.lt_succ_self _, w64 (x5 + 1), (List.set x6 x14 x11), hn2 _ (Option.some.inj h2l).symm, ⟨⟨Pr.le_rfl, Pr.le_rfl, Pr.le_rfl, Pr.le_rfl, trivial⟩, Pick.refl _⟩⟩
    · replace h2l := iteF hc9 h2l
      refine W_exit ?_
      obtain rfl := ho2 _ (Option.some.inj h2l).symm
      exact ⟨x6, h, ⟨⟨Pr.le_rfl, trivial⟩, Pick.refl _⟩⟩
theorem weave_source_lines_ok (x1 : List UInt8) (r : (List (List UInt8)) × Bool) (h : weave_source_lines x1 = some r) : FnP Tryd.prog 61 [Pr.str x1] (Pr.tup [Pr.lst Rp.str r.1, Pr.bool r.2]) := by
  refine fn_intro (n := 6) (rs := [2, 3]) Tryd.func61 rfl Tryd.ntmps61 ⟨by decide, Tryd.results61⟩ (by decide) (fun s0 => ?_)
  unfold weave_source_lines at h
  refine W_rs ?_
  refine rq (out := Pr.is (.slice none 0 0)) qAssign ?_
  refine rq (out := Pr.bool false) qAssign ?_
  refine W_rs ?_
  refine rq (out := Pr.str x1) qMove ?_
  obtain ⟨x2, hx2, h⟩ := bindSome h
  refine rq (out := Pr.lst Rp.str x2) (qCall (lines_Split_ok x1 _ hx2)) ?_
  refine rq (out := Pr.lst Rp.str x2) qAssign ?_
  refine rq (out := Pr.bool true) qAssign ?_
  obtain rfl := Option.some.inj h
  exact W_ret ⟨rfl, Pr.le_rfl⟩
theorem weave_Lines_ok (x1 : List UInt8) (x2 : List UInt8) (x3 : List UInt8) (r : (List ApiPart)) (h : weave_Lines x1 x2 x3 = some r) : FnP Tryd.prog 40 [Pr.str x1, Pr.str x2, Pr.str x3] (Pr.lst rApiPart r) := by
  refine fn_intro (n := 20) (rs := [6]) Tryd.func40 rfl Tryd.ntmps40 ⟨by decide, Tryd.results40⟩ (by decide) (fun s0 => ?_)
  unfold weave_Lines at h
  refine W_rs ?_
  refine rq (out := Pr.is (.slice none 0 0)) qAssign ?_
  refine W_rs ?_
  refine rq (out := Pr.str x1) qMove ?_
  refine rq (out := Pr.clo 61 [Pr.str x1] []) qMakeFunc ?_
  refine rq (out := Pr.str x2) qMove ?_
  refine rq (out := Pr.clo 61 [Pr.str x2] []) qMakeFunc ?_
  refine rq (out := Pr.str x3) qMove ?_
  refine rq (out := Pr.clo 61 [Pr.str x3] []) qMakeFunc ?_
  obtain ⟨⟨x4, x5⟩, hx4, h⟩ := bindSome h
  refine rq (out := Pr.tup [Pr.lst rApiPart x4, Pr.bool x5]) (qCall' (weave_apart_ok (fun _ => weave_source_lines x1) (fun _ => weave_source_lines x2) (fun _ => weave_source_lines x3) _ hx4) ⟨(clo_pfn en61 (fun _ _ hs => by obtain ⟨r, rfl, rfl, hr⟩ := hs; exact weave_source_lines_ok x1 r hr)), (clo_pfn en61 (fun _ _ hs => by obtain ⟨r, rfl, rfl, hr⟩ := hs; exact weave_source_lines_ok x2 r hr)), (clo_pfn en61 (fun _ _ hs => by obtain ⟨r, rfl, rfl, hr⟩ := hs; exact weave_source_lines_ok x3 r hr)), trivial⟩) ?_
  refine rq (out := Pr.tup [Pr.lst rApiPart x4, Pr.bool x5]) qMove ?_
  refine rq (out := Pr.lst rApiPart x4) qExtract ?_
  refine rq (out := Pr.bool x5) qExtract ?_
  refine rq (out := Pr.lst rApiPart x4) qAssign ?_
  refine rq (out := Pr.bool x5) qAssign ?_
  refine W_rs ?_
  refine rq (out := Pr.lst rApiPart x4) qMove ?_
  refine rq (out := Pr.lst rApiPart x4) qAssign ?_
  obtain rfl := Option.some.inj h
  exact W_ret ⟨rfl, Pr.le_rfl⟩
theorem weave_source_units_ok (x1 : List UInt8) (r : (List (List UInt8)) × Bool) (h : weave_source_units x1 = some r) : FnP Tryd.prog 72 [Pr.str x1] (Pr.tup [Pr.lst Rp.str r.1, Pr.bool r.2]) := by
  refine fn_intro (n := 34) (rs := [2, 3]) Tryd.func72 rfl Tryd.ntmps72 ⟨by decide, Tryd.results72⟩ (by decide) (fun s0 => ?_)
  unfold weave_source_units at h
  refine W_rs ?_
  refine rq (out := Pr.is (.slice none 0 0)) qAssign ?_
  refine rq (out := Pr.bool false) qAssign ?_
  refine W_rs ?_
  refine rq (out := Pr.str x1) qMove ?_
  obtain ⟨⟨x2, x3, x4⟩, hx2, h⟩ := bindSome h
  refine rq (out := Pr.tup [Pr.lst rApiToken x2, Pr.i64 x3, Pr.i64 x4]) (qCall (lex_Lex_ok x1 _ hx2)) ?_
  refine rq (out := Pr.tup [Pr.lst rApiToken x2, Pr.i64 x3, Pr.i64 x4]) qMove ?_
  refine rq (out := Pr.lst rApiToken x2) qExtract ?_
  refine rq (out := Pr.i64 x3) qExtract ?_
  refine rq (out := Pr.i64 x4) qExtract ?_
  refine rq (out := Pr.lst rApiToken x2) qAssign ?_
  refine rq (out := Pr.i64 x3) qAssign ?_
  refine rq (out := Pr.i64 x4) qAssign ?_
  refine W_seq ?_
  refine W_rs ?_
  refine rq (out := Pr.i64 x4) qMove ?_
  refine rq (out := Pr.bool (x4 != 0)) qInt ?_
  refine W_cond (b := x4 != 0) rfl (fun hc5 => ?_) (fun hc5 => ?_)
  · replace h := iteT hc5 h
    refine W_rs ?_
    refine rq (out := Pr.is (.slice none 0 0)) qAssign ?_
    refine rq (out := Pr.bool false) qAssign ?_
    obtain rfl := Option.some.inj h
    exact W_ret ⟨rfl, tup_le ⟨Pr.lst_nil _, Pr.le_rfl, trivial⟩⟩
  · replace h := iteF hc5 h
    refine W_skip ?_
    refine W_rs ?_
    refine rq (out := Pr.is (.slice none 0 0)) qAssign ?_
    refine W_seq ?_
    refine W_rs ?_
    refine rq (out := Pr.lst rApiToken x2) qMove ?_
    refine rq (out := Pr.i64 (x2.length : Int)) (qLenL rfl Tryd.underlying23) ?_
    refine rq (out := Pr.i64 0) qMove ?_
    refine W_block ?_
    obtain ⟨z2l, hz2, h⟩ := bindSome h
    obtain ⟨n2, hN2⟩ := iter_some hz2
    clear hz2
    refine W_after 0 (fun e C => ∃ (x8 : List (List UInt8)), ∃ (v6 : Value), weave_source_units_k1 x8 = some r ∧ At [(7, Pr.is v6)] [Own.vec v6 Rp.str x8 9] e C) ?_ ?_
    · rintro e C ⟨x8, v6, h, hat1⟩
      refine W_at hat1 ?_
      clear hat1
      unfold weave_source_units_k1 at h
      refine W_rs ?_
      refine rq (out := Pr.is v6) qMove ?_
      refine rq (out := Pr.is v6) qAssign ?_
      refine rq (out := Pr.bool true) qAssign ?_
      refine W_rel 0 [2] ?_ rfl ⟨rfl, trivial⟩
      obtain rfl := Option.some.inj h
      exact W_ret ⟨rfl, Pr.le_rfl⟩
    · refine W_nil [7] Rp.str 9 (fun v18 => ?_) ⟨rfl, trivial⟩
      refine W_loop (fun m e C => ∃ (x7 : Int), ∃ (x8 : List (List UInt8)), ∃ (v6 : Value), IterN (fun s => weave_source_units_l2 x2 s.1 s.2) m (x7, x8) = some z2l ∧ At [(7, Pr.is v6), (18, Pr.lst rApiToken x2), (19, Pr.i64 (x2.length : Int)), (20, Pr.i64 x7)] [Own.vec v6 Rp.str x8 9] e C) n2 ⟨0, [], v18, hN2, ⟨⟨Pr.le_rfl, Pr.le_rfl, Pr.le_rfl, Pr.le_rfl, trivial⟩, Pick.refl _⟩⟩ ?_
      clear hN2
      rintro m e C ⟨x7, x8, v6, hN2, hatl2⟩
      refine W_at hatl2 ?_
      clear hatl2
      obtain ⟨m2, w2l, rfl, h2l, hn2, ho2⟩ := iterN_some hN2
      clear hN2
      replace h2l : weave_source_units_l2 x2 x7 x8 = some w2l := h2l
      unfold weave_source_units_l2 at h2l
      refine W_rs ?_
      refine rq (out := Pr.bool (decide (x7 < (x2.length : Int)))) qInt ?_
      refine W_seq ?_
      refine W_cond (b := decide (x7 < (x2.length : Int))) rfl (fun hc12 => ?_) (fun hc12 => ?_)
      · replace h2l := iteT hc12 h2l
        refine W_skip ?_
        refine W_seq ?_
        refine W_block ?_
        refine W_rs ?_
        obtain ⟨x13, hx13, h2l⟩ := bindSome h2l
        refine rq (out := Pr.cpt rApiToken x13) (qIdxA (R := rApiToken) (l := x2) Tryd.underlying23 Tryd.sizeOf30 hx13) ?_
        refine rq (out := (rApiToken).val x13) (qLoadC (R := rApiToken) (a := x13) ty30) ?_
        refine rAlloc (R := rApiToken) (z := (ApiToken.mk 0 [] 0 [])) Tryd.zeroValue30 (fun _ => ⟨_, ⟨_, _, rfl, rfl, ⟨_, _, rfl, rfl, ⟨_, _, rfl, rfl, ⟨_, _, rfl, rfl, rfl⟩⟩⟩⟩, rfl⟩) (fun b14 => ?_)
        refine rStore (R := rApiToken) (R' := rApiToken) (a := (ApiToken.mk 0 [] 0 [])) (y := x13) 1 Tryd.sizeOf30 (Upd.refl _) ?_
        refine W_r ?_
        refine rq (out := Pr.is v6) qMove ?_
        refine rq (out := Pr.pt b14 3) (qFieldP fld30_3) ?_
        refine rq (out := Pr.str x13.Lead) (qLoad (R := rApiToken) (a := x13) (R' := Rp.str) 1 ty9 subApiToken_Lead) ?_
        refine rq (out := Pr.pt b14 1) (qFieldP fld30_1) ?_
        refine rq (out := Pr.str x13.Text) (qLoad (R := rApiToken) (a := x13) (R' := Rp.str) 1 ty9 subApiToken_Text) ?_
        obtain ⟨x15, hx15, h2l⟩ := bindSome h2l
        refine rq (out := Pr.str x15) (qCat' hx15) ?_
        refine rq (out := Pr.lst Rp.str ([x15] : List (List UInt8))) (qBuildSlice1 (R := Rp.str) (a := x15) el35 (Nat.le_of_ble_eq_true rfl)) ?_
        obtain ⟨x16, hx16, h2l⟩ := bindSome h2l
        refine rAppend' 0 el35 hx16 (fun v17 => ?_)
        refine rq (out := Pr.is v17) qAssign ?_
        refine W_r ?_
        refine rq (out := Pr.i64 (w64 (x7 + 1))) qInt ?_
        refine rq (out := Pr.i64 (w64 (x7 + 1))) qMove ?_
        exact ⟨m2, Nat.lt_succ_self _, w64 (x7 + 1), x16, v17, hn2 _ (Option.some.inj h2l).symm, ⟨⟨Pr.le_rfl, Pr.le_rfl, Pr.le_rfl, Pr.le_rfl, trivial⟩, Pick.of [0] rfl⟩⟩
      · replace h2l := iteF hc12 h2l
        refine W_exit ?_
        obtain rfl := ho2 _ (Option.some.inj h2l).symm
        exact ⟨x8, v6, h, ⟨⟨Pr.le_rfl, trivial⟩, Pick.refl _⟩⟩
theorem weave_Tokens_ok (x1 : List UInt8) (x2 : List UInt8) (x3 : List UInt8) (r : (List ApiPart) × Bool) (h : weave_Tokens x1 x2 x3 = some r) : FnP Tryd.prog 59 [Pr.str x1, Pr.str x2, Pr.str x3] (Pr.tup [Pr.lst rApiPart r.1, Pr.bool r.2]) := by
  refine fn_intro (n := 17) (rs := [6, 7]) Tryd.func59 rfl Tryd.ntmps59 ⟨by decide, Tryd.results59⟩ (by decide) (fun s0 => ?_)
  unfold weave_Tokens at h
  refine W_rs ?_
  refine rq (out := Pr.is (.slice none 0 0)) qAssign ?_
  refine rq (out := Pr.bool false) qAssign ?_
  refine W_rs ?_
  refine rq (out := Pr.str x1) qMove ?_
  refine rq (out := Pr.clo 72 [Pr.str x1] []) qMakeFunc ?_
  refine rq (out := Pr.str x2) qMove ?_
  refine rq (out := Pr.clo 72 [Pr.str x2] []) qMakeFunc ?_
  refine rq (out := Pr.str x3) qMove ?_
  refine rq (out := Pr.clo 72 [Pr.str x3] []) qMakeFunc ?_
  obtain ⟨⟨x4, x5⟩, hx4, h⟩ := bindSome h
  refine rq (out := Pr.tup [Pr.lst rApiPart x4, Pr.bool x5]) (qCall' (weave_apart_ok (fun _ => weave_source_units x1) (fun _ => weave_source_units x2) (fun _ => weave_source_units x3) _ hx4) ⟨(clo_pfn en72 (fun _ _ hs => by obtain ⟨r, rfl, rfl, hr⟩ := hs; exact weave_source_units_ok x1 r hr)), (clo_pfn en72 (fun _ _ hs => by obtain ⟨r, rfl, rfl, hr⟩ := hs; exact weave_source_units_ok x2 r hr)), (clo_pfn en72 (fun _ _ hs => by obtain ⟨r, rfl, rfl, hr⟩ := hs; exact weave_source_units_ok x3 r hr)), trivial⟩) ?_
  refine rq (out := Pr.lst rApiPart x4) qExtract ?_
  refine rq (out := Pr.bool x5) qExtract ?_
  refine rq (out := Pr.lst rApiPart x4) qAssign ?_
  refine rq (out := Pr.bool x5) qAssign ?_
  obtain rfl := Option.some.inj h
  exact W_ret ⟨rfl, Pr.le_rfl⟩
theorem weave_Text_ok (x1 : List UInt8) (x2 : List UInt8) (x3 : List UInt8) (r : (List UInt8) × Bool) (h : weave_Text x1 x2 x3 = some r) : FnP Tryd.prog 41 [Pr.str x1, Pr.str x2, Pr.str x3] (Pr.tup [Pr.str r.1, Pr.bool r.2]) := by
  refine fn_intro (n := 47) (rs := [6, 7]) Tryd.func41 rfl Tryd.ntmps41 ⟨by decide, Tryd.results41⟩ (by decide) (fun s0 => ?_)
  unfold weave_Text at h
  refine W_rs ?_
  refine rq (out := Pr.str []) qAssign ?_
  refine rq (out := Pr.bool false) qAssign ?_
  refine W_seq ?_
  refine W_block ?_
  refine W_rs ?_
  refine rq (out := Pr.str x2) qMove ?_
  refine rq (out := Pr.str x1) qMove ?_
  refine rq (out := Pr.bool (x2 == x1)) qStr ?_
  refine rq (out := Pr.bool (x2 == x1)) qAssign ?_
  refine W_cond (b := x2 == x1) rfl (fun hc4 => ?_) (fun hc4 => ?_)
  · replace h := iteT hc4 h
    refine W_rs ?_
    refine rq (out := Pr.str x3) qMove ?_
    refine rq (out := Pr.str x3) qAssign ?_
    refine rq (out := Pr.bool true) qAssign ?_
    obtain rfl := Option.some.inj h
    exact W_ret ⟨rfl, Pr.le_rfl⟩
  · replace h := iteF hc4 h
    refine W_join (fun e C => ∃ (x6 : Bool), weave_Text_j2 x2 x1 x3 x6 = some r ∧ At [(0, Pr.str x1), (1, Pr.str x2), (2, Pr.str x3), (17, Pr.bool x6)] [] e C) ?_ ?_
    · rintro e C ⟨x6, h, hat2⟩
      refine W_at hat2 ?_
      clear hat2
      unfold weave_Text_j2 at h
      refine W_cond (b := x6) rfl (fun hc7 => ?_) (fun hc7 => ?_)
      · replace h := iteT hc7 h
        refine W_rs ?_
        refine rq (out := Pr.str x2) qMove ?_
        refine rq (out := Pr.str x2) qAssign ?_
        refine rq (out := Pr.bool true) qAssign ?_
        obtain rfl := Option.some.inj h
        exact W_ret ⟨rfl, Pr.le_rfl⟩
      · replace h := iteF hc7 h
        refine W_skip ?_
        refine W_join (fun e C => weave_Text_j1 x1 x2 x3 = some r ∧ At [(0, Pr.str x1), (1, Pr.str x2), (2, Pr.str x3)] [] e C) ?_ ?_
        · rintro e C ⟨h, hat1⟩
          refine W_at hat1 ?_
          clear hat1
          unfold weave_Text_j1 at h
          refine W_rs ?_
          refine rq (out := Pr.str x1) qMove ?_
          refine rq (out := Pr.str x2) qMove ?_
          refine rq (out := Pr.str x3) qMove ?_
          obtain ⟨x14, hx14, h⟩ := bindSome h
          refine rq (out := Pr.lst rApiPart x14) (qCall (weave_Lines_ok x1 x2 x3 _ hx14)) ?_
          obtain ⟨⟨x15, x16⟩, hx15, h⟩ := bindSome h
          refine rq (out := Pr.tup [Pr.str x15, Pr.bool x16]) (qCall (weave_Join_ok x14 _ hx15)) ?_
          refine rq (out := Pr.str x15) qExtract ?_
          refine rq (out := Pr.bool x16) qExtract ?_
          refine rq (out := Pr.str x15) qAssign ?_
          refine rq (out := Pr.bool x16) qAssign ?_
          obtain rfl := Option.some.inj h
          exact W_ret ⟨rfl, Pr.le_rfl⟩
        · refine W_rs ?_
          refine rq (out := Pr.str x1) qMove ?_
          refine rq (out := Pr.str x2) qMove ?_
          refine rq (out := Pr.str x3) qMove ?_
          obtain ⟨⟨x8, x9⟩, hx8, h⟩ := bindSome h
          refine rq (out := Pr.tup [Pr.lst rApiPart x8, Pr.bool x9]) (qCall (weave_Tokens_ok x1 x2 x3 _ hx8)) ?_
          refine rq (out := Pr.tup [Pr.lst rApiPart x8, Pr.bool x9]) qMove ?_
          refine rq (out := Pr.lst rApiPart x8) qExtract ?_
          refine rq (out := Pr.bool x9) qExtract ?_
          refine rq (out := Pr.lst rApiPart x8) qAssign ?_
          refine rq (out := Pr.bool x9) qAssign ?_
          refine W_rs ?_
          refine rq (out := Pr.bool x9) qMove ?_
          refine W_cond (b := x9) rfl (fun hc10 => ?_) (fun hc10 => ?_)
          · replace h := iteT hc10 h
            refine W_rs ?_
            refine rq (out := Pr.lst rApiPart x8) qMove ?_
            obtain ⟨⟨x11, x12⟩, hx11, h⟩ := bindSome h
            refine rq (out := Pr.tup [Pr.str x11, Pr.bool x12]) (qCall (weave_Join_ok x8 _ hx11)) ?_
            refine rq (out := Pr.tup [Pr.str x11, Pr.bool x12]) qMove ?_
            refine rq (out := Pr.str x11) qExtract ?_
            refine rq (out := Pr.bool x12) qExtract ?_
            refine rq (out := Pr.str x11) qAssign ?_
            refine rq (out := Pr.bool x12) qAssign ?_
            refine W_rs ?_
            refine rq (out := Pr.bool x12) qMove ?_
            refine W_cond (b := x12) rfl (fun hc13 => ?_) (fun hc13 => ?_)
            · replace h := iteT hc13 h
              refine W_rs ?_
              refine rq (out := Pr.str x11) qMove ?_
              refine rq (out := Pr.str x11) qAssign ?_
              refine rq (out := Pr.bool true) qAssign ?_
              obtain rfl := Option.some.inj h
              exact W_ret ⟨rfl, Pr.le_rfl⟩
            · replace h := iteF hc13 h
              refine W_skip ?_
              exact ⟨h, ⟨⟨Pr.le_rfl, Pr.le_rfl, Pr.le_rfl, trivial⟩, Pick.refl _⟩⟩
          · replace h := iteF hc10 h
            refine W_skip ?_
            exact ⟨h, ⟨⟨Pr.le_rfl, Pr.le_rfl, Pr.le_rfl, trivial⟩, Pick.refl _⟩⟩
    · refine W_rs ?_
      refine rq (out := Pr.str x3) qMove ?_
      refine rq (out := Pr.str x1) qMove ?_
      refine rq (out := Pr.bool (x3 == x1)) qStr ?_
      refine rq (out := Pr.bool (x3 == x1)) qAssign ?_
      refine W_cond (b := x3 == x1) rfl (fun hc5 => ?_) (fun hc5 => ?_)
      · replace h := iteT hc5 h
        refine W_skip ?_
        exact ⟨x3 == x1, h, ⟨⟨Pr.le_rfl, Pr.le_rfl, Pr.le_rfl, Pr.le_rfl, trivial⟩, Pick.refl _⟩⟩
      · replace h := iteF hc5 h
        refine W_r ?_
        refine rq (out := Pr.str x2) qMove ?_
        refine rq (out := Pr.str x3) qMove ?_
        refine rq (out := Pr.bool (x2 == x3)) qStr ?_
        refine rq (out := Pr.bool (x2 == x3)) qAssign ?_
        exact ⟨x2 == x3, h, ⟨⟨Pr.le_rfl, Pr.le_rfl, Pr.le_rfl, Pr.le_rfl, trivial⟩, Pick.refl _⟩⟩
theorem weave_Units_ok (x1 : List UInt8) (r : (List (List UInt8)) × Bool) (h : weave_Units x1 = some r) : FnP Tryd.prog 58 [Pr.str x1] (Pr.tup [Pr.lst Rp.str r.1, Pr.bool r.2]) := by
  refine fn_intro (n := 8) (rs := [2, 3]) Tryd.func58 rfl Tryd.ntmps58 ⟨by decide, Tryd.results58⟩ (by decide) (fun s0 => ?_)
  unfold weave_Units at h
  refine W_rs ?_
  refine rq (out := Pr.is (.slice none 0 0)) qAssign ?_
  refine rq (out := Pr.bool false) qAssign ?_
  refine W_rs ?_
  refine rq (out := Pr.str x1) qMove ?_
  obtain ⟨⟨x2, x3⟩, hx2, h⟩ := bindSome h
  refine rq (out := Pr.tup [Pr.lst Rp.str x2, Pr.bool x3]) (qCall (weave_source_units_ok x1 _ hx2)) ?_
  refine rq (out := Pr.lst Rp.str x2) qExtract ?_
  refine rq (out := Pr.bool x3) qExtract ?_
  refine rq (out := Pr.lst Rp.str x2) qAssign ?_
  refine rq (out := Pr.bool x3) qAssign ?_
  obtain rfl := Option.some.inj h
  exact W_ret ⟨rfl, Pr.le_rfl⟩
end Go.Proofs.YtefeelcjokdchaaDoor
