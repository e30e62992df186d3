/- The code comes to what these functions say (printed by wip/gen/gen.py). -/
import Derived.Test.YtefeelcjokdchaaGreatDoorZP1
import Derived.Test.YtefeelcjokdchaaGreatDoorZT
set_option linter.unusedSimpArgs false
set_option linter.unusedVariables false
set_option linter.unusedSectionVars false
/- The code comes to what these functions say (printed by wip/gen/gen.py). -/
set_option linter.unusedSectionVars false
set_option maxRecDepth 100000
set_option maxHeartbeats 4000000
namespace Go.Proofs.YtefeelcjokdchaaGreatDoor
open Go Go.Cn
variable [Known]
theorem weave_Side_ok (x1 : List ApiPart) (x2 : Int) (r : (List UInt8)) (h : weave_Side x1 x2 = some r) : FnP Tryz.prog 17 [Pr.lst rApiPart x1, Pr.i64 x2] (Pr.str r) := by
  refine fn_intro (n := 32) (rs := [4]) Tryz.func17 rfl Tryz.ntmps17 ⟨by decide, Tryz.results17⟩ (by decide) (fun s0 => ?_)
  unfold weave_Side at h
  refine W_rs ?_
  refine rq (out := Pr.str []) qAssign ?_
  refine W_seq ?_
  refine W_join (fun e C => ∃ (x4 : Bool), weave_Side_j3 x1 x2 x4 = some r ∧ At [(0, Pr.lst rApiPart x1), (1, Pr.i64 x2), (13, Pr.bool x4)] [] e C) ?_ ?_
  · rintro e C ⟨x4, h, hat3⟩
    refine W_at hat3 ?_
    clear hat3
    unfold weave_Side_j3 at h
    refine W_cond (b := x4) rfl (fun hc5 => ?_) (fun hc5 => ?_)
    · replace h := iteT hc5 h
      refine W_rs ?_
      refine rq (out := Pr.str []) qAssign ?_
      obtain rfl := Option.some.inj h
      exact W_ret ⟨rfl, Pr.le_rfl⟩
    · replace h := iteF hc5 h
      refine W_skip ?_
      refine W_rs ?_
      refine rAllocB (e := 5) Tryz.zeroValue53 (fun b6 => ?_)
      refine W_seq ?_
      refine W_rs ?_
      refine rq (out := Pr.lst rApiPart x1) qMove ?_
      refine rq (out := Pr.i64 (x1.length : Int)) (qLenL rfl Tryz.underlying24) ?_
      refine rq (out := Pr.i64 0) qMove ?_
      refine W_block ?_
      obtain ⟨z2l, hz2, h⟩ := bindSome h
      obtain ⟨n2, hN2⟩ := iter_some hz2
      clear hz2
      refine W_after 0 (fun e C => ∃ (x9 : List UInt8), ∃ (v8 : Value), weave_Side_k1 x9 = some r ∧ At [(5, Pr.pt b6 0)] [Own.bld 53 b6 v8, Own.vec v8 Rp.byte x9 5] e C) ?_ ?_
      · rintro e C ⟨x9, v8, h, hat1⟩
        refine W_at hat1 ?_
        clear hat1
        unfold weave_Side_k1 at h
        refine W_rs ?_
        refine rCallC [0, 1] (Builder_String_ok b6 v8 x9) (fun q C' hq => ?_)
        obtain ⟨rfl, rfl⟩ := hq
        refine rq (out := Pr.str x9) qAssign ?_
        obtain rfl := Option.some.inj h
        exact W_ret ⟨rfl, Pr.le_rfl⟩
      · refine W_loop (fun m e C => ∃ (x7 : Int), ∃ (x9 : List UInt8), ∃ (v8 : Value), IterN (fun s => weave_Side_l2 x1 x2 s.1 s.2) m (x7, x9) = some z2l ∧ At [(1, Pr.i64 x2), (5, Pr.pt b6 0), (14, Pr.lst rApiPart x1), (15, Pr.i64 (x1.length : Int)), (16, Pr.i64 x7)] [Own.bld 53 b6 v8, Own.vec v8 Rp.byte x9 5] e C) n2 ⟨0, [], (.slice none 0 0), hN2, ⟨⟨Pr.le_rfl, Pr.le_rfl, Pr.le_rfl, Pr.le_rfl, Pr.le_rfl, trivial⟩, Pick.refl _⟩⟩ ?_
        clear hN2
        rintro m e C ⟨x7, x9, v8, hN2, hatl2⟩
        refine W_at hatl2 ?_
        clear hatl2
        obtain ⟨m2, w2l, rfl, h2l, hn2, ho2⟩ := iterN_some hN2
        clear hN2
        replace h2l : weave_Side_l2 x1 x2 x7 x9 = some w2l := h2l
        unfold weave_Side_l2 at h2l
        refine W_rs ?_
        refine rq (out := Pr.bool (decide (x7 < (x1.length : Int)))) qInt ?_
        refine W_seq ?_
        refine W_cond (b := decide (x7 < (x1.length : Int))) rfl (fun hc13 => ?_) (fun hc13 => ?_)
        · replace h2l := iteT hc13 h2l
          refine W_skip ?_
          refine W_seq ?_
          refine W_block ?_
          refine W_rs ?_
          obtain ⟨x14, hx14, h2l⟩ := bindSome h2l
          refine rq (out := Pr.cpt rApiPart x14) (qIdxA (R := rApiPart) (l := x1) Tryz.underlying24 Tryz.sizeOf37 hx14) ?_
          refine rq (out := (rApiPart).val x14) (qLoadC (R := rApiPart) (a := x14) ty37) ?_
          refine rAlloc (R := rApiPart) (z := (ApiPart.mk false [] [] [])) Tryz.zeroValue37 (fun _ => ⟨_, ⟨_, _, rfl, rfl, ⟨_, _, rfl, rfl, ⟨_, _, rfl, rfl, ⟨_, _, rfl, rfl, rfl⟩⟩⟩⟩, rfl⟩) (fun b15 => ?_)
          refine rStore (R := rApiPart) (R' := rApiPart) (a := (ApiPart.mk false [] [] [])) (y := x14) 2 Tryz.sizeOf37 (Upd.refl _) ?_
          refine W_r ?_
          refine rq (out := Pr.pt b15 1) (qFieldP fld37_1) ?_
          refine rq (out := Pr.str x14.O) (qLoad (R := rApiPart) (a := x14) (R' := Rp.str) 2 ty9 subApiPart_O) ?_
          refine rq (out := Pr.pt b15 2) (qFieldP fld37_2) ?_
          refine rq (out := Pr.str x14.A) (qLoad (R := rApiPart) (a := x14) (R' := Rp.str) 2 ty9 subApiPart_A) ?_
          refine rq (out := Pr.pt b15 3) (qFieldP fld37_3) ?_
          refine rq (out := Pr.str x14.B) (qLoad (R := rApiPart) (a := x14) (R' := Rp.str) 2 ty9 subApiPart_B) ?_
          refine rq (out := (Rp.arr 3 Rp.str).val ([x14.O, x14.A, x14.B] : List (List UInt8))) (qBuildA (R := Rp.str) (ls := ([x14.O, x14.A, x14.B] : List (List UInt8))) Tryz.underlying58 Tryz.zeroValue58 rfl Tryz.sizeOf9 (by decide) ⟨rfl, rfl⟩ ⟨rfl, rfl, rfl, trivial⟩) ?_
          refine rq (out := Pr.i64 x2) qMove ?_
          obtain ⟨x16, hx16, h2l⟩ := bindSome h2l
          refine rq (out := Pr.str x16) (qIdxArr (R := Rp.str) (l := ([x14.O, x14.A, x14.B] : List (List UInt8))) Tryz.underlying58 Tryz.sizeOf9 Tryz.isAgg9 hx16) ?_
          obtain ⟨x17, hx17, h2l⟩ := bindSome h2l
          refine rCallC [0, 1] (Builder_WriteString_ok b6 v8 x9 x16 _ hx17) (fun q C' hq => ?_)
          obtain ⟨v18, rfl, rfl⟩ := hq
          refine W_r ?_
          refine rq (out := Pr.i64 (w64 (x7 + 1))) qInt ?_
          refine rq (out := Pr.i64 (w64 (x7 + 1))) qMove ?_
          exact ⟨m2, Nat.lt_succ_self _, w64 (x7 + 1), x17, v18, hn2 _ (Option.some.inj h2l).symm, ⟨⟨Pr.le_rfl, Pr.le_rfl, Pr.le_rfl, Pr.le_rfl, Pr.le_rfl, trivial⟩, Pick.of [0, 1] rfl⟩⟩
        · replace h2l := iteF hc13 h2l
          refine W_exit ?_
          obtain rfl := ho2 _ (Option.some.inj h2l).symm
          exact ⟨x9, v8, h, ⟨⟨Pr.le_rfl, trivial⟩, Pick.refl _⟩⟩
  · refine W_r ?_
    refine rq (out := Pr.i64 x2) qMove ?_
    refine rq (out := Pr.bool (decide (x2 < 0))) qInt ?_
    refine rq (out := Pr.bool (decide (x2 < 0))) qMove ?_
    rcases iteSome h with ⟨hc3, h⟩ | ⟨hc3, h⟩
    · refine rno (neF hc3) ?_
      refine rno (neF hc3) ?_
      refine rq (out := Pr.bool true) (qPickT hc3) ?_
      exact ⟨true, h, ⟨⟨Pr.le_rfl, Pr.le_rfl, Pr.le_rfl, trivial⟩, Pick.refl _⟩⟩
    · refine rqg hc3 (out := Pr.i64 x2) qMove ?_
      refine rqg hc3 (out := Pr.bool (decide (x2 > 2))) qInt ?_
      refine rq (out := Pr.bool (decide (x2 > 2))) (qPickF hc3) ?_
      exact ⟨decide (x2 > 2), h, ⟨⟨Pr.le_rfl, Pr.le_rfl, Pr.le_rfl, trivial⟩, Pick.refl _⟩⟩
theorem weave_Join_ok (x1 : List ApiPart) (r : (List UInt8) × Bool) (h : weave_Join x1 = some r) : FnP Tryz.prog 16 [Pr.lst rApiPart x1] (Pr.tup [Pr.str r.1, Pr.bool r.2]) := by
  refine fn_intro (n := 17) (rs := [2, 3]) Tryz.func16 rfl Tryz.ntmps16 ⟨by decide, Tryz.results16⟩ (by decide) (fun s0 => ?_)
  unfold weave_Join at h
  refine W_rs ?_
  refine rq (out := Pr.str []) qAssign ?_
  refine rq (out := Pr.bool false) qAssign ?_
  refine W_seq ?_
  refine W_rs ?_
  refine rq (out := Pr.lst rApiPart x1) qMove ?_
  refine rq (out := Pr.i64 (x1.length : Int)) (qLenL rfl Tryz.underlying24) ?_
  refine rq (out := Pr.i64 0) qMove ?_
  refine W_block ?_
  obtain ⟨z2l, hz2, h⟩ := bindSome h
  obtain ⟨n2, hN2⟩ := iter_some hz2
  clear hz2
  refine W_after 0 (fun e C => weave_Join_k1 x1 = some r ∧ At [(0, Pr.lst rApiPart x1)] [] e C) ?_ ?_
  · rintro e C ⟨h, hat1⟩
    refine W_at hat1 ?_
    clear hat1
    unfold weave_Join_k1 at h
    refine W_rs ?_
    refine rq (out := Pr.lst rApiPart x1) qMove ?_
    obtain ⟨x8, hx8, h⟩ := bindSome h
    refine rq (out := Pr.str x8) (qCall (weave_Side_ok x1 1 _ hx8)) ?_
    refine rq (out := Pr.str x8) qAssign ?_
    refine rq (out := Pr.bool true) qAssign ?_
    obtain rfl := Option.some.inj h
    exact W_ret ⟨rfl, Pr.le_rfl⟩
  · refine W_loop (fun m e C => ∃ (x2 : Int), IterN (fun s => weave_Join_l2 x1 s) m x2 = some z2l ∧ At [(0, Pr.lst rApiPart x1), (6, Pr.lst rApiPart x1), (7, Pr.i64 (x1.length : Int)), (8, Pr.i64 x2)] [] e C) n2 ⟨0, hN2, ⟨⟨Pr.le_rfl, Pr.le_rfl, Pr.le_rfl, Pr.le_rfl, trivial⟩, Pick.refl _⟩⟩ ?_
    clear hN2
    rintro m e C ⟨x2, hN2, hatl2⟩
    refine W_at hatl2 ?_
    clear hatl2
    obtain ⟨m2, w2l, rfl, h2l, hn2, ho2⟩ := iterN_some hN2
    clear hN2
    replace h2l : weave_Join_l2 x1 x2 = some w2l := h2l
    unfold weave_Join_l2 at h2l
    refine W_rs ?_
    refine rq (out := Pr.bool (decide (x2 < (x1.length : Int)))) qInt ?_
    refine W_seq ?_
    refine W_cond (b := decide (x2 < (x1.length : Int))) rfl (fun hc4 => ?_) (fun hc4 => ?_)
    · replace h2l := iteT hc4 h2l
      refine W_skip ?_
      refine W_seq ?_
      refine W_block ?_
      refine W_rs ?_
      obtain ⟨x5, hx5, h2l⟩ := bindSome h2l
      refine rq (out := Pr.cpt rApiPart x5) (qIdxA (R := rApiPart) (l := x1) Tryz.underlying24 Tryz.sizeOf37 hx5) ?_
      refine rq (out := (rApiPart).val x5) (qLoadC (R := rApiPart) (a := x5) ty37) ?_
      refine rAlloc (R := rApiPart) (z := (ApiPart.mk false [] [] [])) Tryz.zeroValue37 (fun _ => ⟨_, ⟨_, _, rfl, rfl, ⟨_, _, rfl, rfl, ⟨_, _, rfl, rfl, ⟨_, _, rfl, rfl, rfl⟩⟩⟩⟩, rfl⟩) (fun b6 => ?_)
      refine rStore (R := rApiPart) (R' := rApiPart) (a := (ApiPart.mk false [] [] [])) (y := x5) 0 Tryz.sizeOf37 (Upd.refl _) ?_
      refine W_rs ?_
      refine rq (out := Pr.pt b6 0) (qFieldP fld37_0) ?_
      refine rq (out := Pr.bool x5.Clash) (qLoad (R := rApiPart) (a := x5) (R' := Rp.bool) 0 ty4 subApiPart_Clash) ?_
      refine W_cond (b := x5.Clash) rfl (fun hc7 => ?_) (fun hc7 => ?_)
      · replace h2l := iteT hc7 h2l
        refine W_rs ?_
        refine rq (out := Pr.str []) qAssign ?_
        refine rq (out := Pr.bool false) qAssign ?_
        obtain rfl := ho2 _ (Option.some.inj h2l).symm
        replace h : some ([], false) = some r := h
        obtain rfl := Option.some.inj h
        exact W_ret ⟨rfl, Pr.le_rfl⟩
      · replace h2l := iteF hc7 h2l
        refine W_skip ?_
        refine W_r ?_
        refine rq (out := Pr.i64 (w64 (x2 + 1))) qInt ?_
        refine rq (out := Pr.i64 (w64 (x2 + 1))) qMove ?_
        exact ⟨m2, Nat.lt_succ_self _, w64 (x2 + 1), hn2 _ (Option.some.inj h2l).symm, ⟨⟨Pr.le_rfl, Pr.le_rfl, Pr.le_rfl, Pr.le_rfl, trivial⟩, Pick.of [] rfl⟩⟩
    · replace h2l := iteF hc4 h2l
      refine W_exit ?_
      obtain rfl := ho2 _ (Option.some.inj h2l).symm
      exact ⟨h, ⟨⟨Pr.le_rfl, trivial⟩, Pick.refl _⟩⟩
theorem weave_Text_ok (x1 : List UInt8) (x2 : List UInt8) (x3 : List UInt8) (r : (List UInt8) × Bool) (h : weave_Text x1 x2 x3 = some r) : FnP Tryz.prog 10 [Pr.str x1, Pr.str x2, Pr.str x3] (Pr.tup [Pr.str r.1, Pr.bool r.2]) := by
  refine fn_intro (n := 47) (rs := [6, 7]) Tryz.func10 rfl Tryz.ntmps10 ⟨by decide, Tryz.results10⟩ (by decide) (fun s0 => ?_)
  unfold weave_Text at h
  refine W_rs ?_
  refine rq (out := Pr.str []) qAssign ?_
  refine rq (out := Pr.bool false) qAssign ?_
  refine W_seq ?_
  refine W_block ?_
  refine W_rs ?_
  refine rq (out := Pr.str x2) qMove ?_
  refine rq (out := Pr.str x1) qMove ?_
  refine rq (out := Pr.bool (x2 == x1)) qStr ?_
  refine rq (out := Pr.bool (x2 == x1)) qAssign ?_
  refine W_cond (b := x2 == x1) rfl (fun hc4 => ?_) (fun hc4 => ?_)
  · replace h := iteT hc4 h
    refine W_rs ?_
    refine rq (out := Pr.str x3) qMove ?_
    refine rq (out := Pr.str x3) qAssign ?_
    refine rq (out := Pr.bool true) qAssign ?_
    obtain rfl := Option.some.inj h
    exact W_ret ⟨rfl, Pr.le_rfl⟩
  · replace h := iteF hc4 h
    refine W_join (fun e C => ∃ (x6 : Bool), weave_Text_j2 x2 x1 x3 x6 = some r ∧ At [(0, Pr.str x1), (1, Pr.str x2), (2, Pr.str x3), (17, Pr.bool x6)] [] e C) ?_ ?_
    · rintro e C ⟨x6, h, hat2⟩
      refine W_at hat2 ?_
      clear hat2
      unfold weave_Text_j2 at h
      refine W_cond (b := x6) rfl (fun hc7 => ?_) (fun hc7 => ?_)
      · replace h := iteT hc7 h
        refine W_rs ?_
        refine rq (out := Pr.str x2) qMove ?_
        refine rq (out := Pr.str x2) qAssign ?_
        refine rq (out := Pr.bool true) qAssign ?_
        obtain rfl := Option.some.inj h
        exact W_ret ⟨rfl, Pr.le_rfl⟩
      · replace h := iteF hc7 h
        refine W_skip ?_
        refine W_join (fun e C => weave_Text_j1 x1 x2 x3 = some r ∧ At [(0, Pr.str x1), (1, Pr.str x2), (2, Pr.str x3)] [] e C) ?_ ?_
        · rintro e C ⟨h, hat1⟩
          refine W_at hat1 ?_
          clear hat1
          unfold weave_Text_j1 at h
          refine W_rs ?_
          refine rq (out := Pr.str x1) qMove ?_
          refine rq (out := Pr.str x2) qMove ?_
          refine rq (out := Pr.str x3) qMove ?_
          obtain ⟨x14, hx14, h⟩ := bindSome h
          refine rq (out := Pr.lst rApiPart x14) (qCall (weave_Lines_ok x1 x2 x3 _ hx14)) ?_
          obtain ⟨⟨x15, x16⟩, hx15, h⟩ := bindSome h
          refine rq (out := Pr.tup [Pr.str x15, Pr.bool x16]) (qCall (weave_Join_ok x14 _ hx15)) ?_
          refine rq (out := Pr.str x15) qExtract ?_
          refine rq (out := Pr.bool x16) qExtract ?_
          refine rq (out := Pr.str x15) qAssign ?_
          refine rq (out := Pr.bool x16) qAssign ?_
          obtain rfl := Option.some.inj h
          exact W_ret ⟨rfl, Pr.le_rfl⟩
        · refine W_rs ?_
          refine rq (out := Pr.str x1) qMove ?_
          refine rq (out := Pr.str x2) qMove ?_
          refine rq (out := Pr.str x3) qMove ?_
          obtain ⟨⟨x8, x9⟩, hx8, h⟩ := bindSome h
          refine rq (out := Pr.tup [Pr.lst rApiPart x8, Pr.bool x9]) (qCall (weave_Tokens_ok x1 x2 x3 _ hx8)) ?_
          refine rq (out := Pr.tup [Pr.lst rApiPart x8, Pr.bool x9]) qMove ?_
          refine rq (out := Pr.lst rApiPart x8) qExtract ?_
          refine rq (out := Pr.bool x9) qExtract ?_
          refine rq (out := Pr.lst rApiPart x8) qAssign ?_
          refine rq (out := Pr.bool x9) qAssign ?_
          refine W_rs ?_
          refine rq (out := Pr.bool x9) qMove ?_
          refine W_cond (b := x9) rfl (fun hc10 => ?_) (fun hc10 => ?_)
          · replace h := iteT hc10 h
            refine W_rs ?_
            refine rq (out := Pr.lst rApiPart x8) qMove ?_
            obtain ⟨⟨x11, x12⟩, hx11, h⟩ := bindSome h
            refine rq (out := Pr.tup [Pr.str x11, Pr.bool x12]) (qCall (weave_Join_ok x8 _ hx11)) ?_
            refine rq (out := Pr.tup [Pr.str x11, Pr.bool x12]) qMove ?_
            refine rq (out := Pr.str x11) qExtract ?_
            refine rq (out := Pr.bool x12) qExtract ?_
            refine rq (out := Pr.str x11) qAssign ?_
            refine rq (out := Pr.bool x12) qAssign ?_
            refine W_rs ?_
            refine rq (out := Pr.bool x12) qMove ?_
            refine W_cond (b := x12) rfl (fun hc13 => ?_) (fun hc13 => ?_)
            · replace h := iteT hc13 h
              refine W_rs ?_
              refine rq (out := Pr.str x11) qMove ?_
              refine rq (out := Pr.str x11) qAssign ?_
              refine rq (out := Pr.bool true) qAssign ?_
              obtain rfl := Option.some.inj h
              exact W_ret ⟨rfl, Pr.le_rfl⟩
            · replace h := iteF hc13 h
              refine W_skip ?_
              exact ⟨h, ⟨⟨Pr.le_rfl, Pr.le_rfl, Pr.le_rfl, trivial⟩, Pick.refl _⟩⟩
          · replace h := iteF hc10 h
            refine W_skip ?_
            exact ⟨h, ⟨⟨Pr.le_rfl, Pr.le_rfl, Pr.le_rfl, trivial⟩, Pick.refl _⟩⟩
    · refine W_rs ?_
      refine rq (out := Pr.str x3) qMove ?_
      refine rq (out := Pr.str x1) qMove ?_
      refine rq (out := Pr.bool (x3 == x1)) qStr ?_
      refine rq (out := Pr.bool (x3 == x1)) qAssign ?_
      refine W_cond (b := x3 == x1) rfl (fun hc5 => ?_) (fun hc5 => ?_)
      · replace h := iteT hc5 h
        refine W_skip ?_
        exact ⟨x3 == x1, h, ⟨⟨Pr.le_rfl, Pr.le_rfl, Pr.le_rfl, Pr.le_rfl, trivial⟩, Pick.refl _⟩⟩
      · replace h := iteF hc5 h
        refine W_r ?_
        refine rq (out := Pr.str x2) qMove ?_
        refine rq (out := Pr.str x3) qMove ?_
        refine rq (out := Pr.bool (x2 == x3)) qStr ?_
        refine rq (out := Pr.bool (x2 == x3)) qAssign ?_
        exact ⟨x2 == x3, h, ⟨⟨Pr.le_rfl, Pr.le_rfl, Pr.le_rfl, Pr.le_rfl, trivial⟩, Pick.refl _⟩⟩
theorem ref08_Units_ok (x1 : List UInt8) (r : (List (List UInt8)) × Bool) (h : ref08_Units x1 = some r) : FnP Tryz.prog 9 [Pr.str x1] (Pr.tup [Pr.lst Rp.str r.1, Pr.bool r.2]) := by
  refine fn_intro (n := 38) (rs := [2, 3]) Tryz.func9 rfl Tryz.ntmps9 ⟨by decide, Tryz.results9⟩ (by decide) (fun s0 => ?_)
  unfold ref08_Units at h
  refine W_rs ?_
  refine rq (out := Pr.is (.slice none 0 0)) qAssign ?_
  refine rq (out := Pr.bool false) qAssign ?_
  refine W_rs ?_
  refine rq (out := Pr.str x1) qMove ?_
  obtain ⟨⟨x2, x3, x4⟩, hx2, h⟩ := bindSome h
  refine rq (out := Pr.tup [Pr.lst rApiToken x2, Pr.i64 x3, Pr.i64 x4]) (qCall (ref03_Lex_ok x1 _ hx2)) ?_
  refine rq (out := Pr.tup [Pr.lst rApiToken x2, Pr.i64 x3, Pr.i64 x4]) qMove ?_
  refine rq (out := Pr.lst rApiToken x2) qExtract ?_
  refine rq (out := Pr.i64 x3) qExtract ?_
  refine rq (out := Pr.i64 x4) qExtract ?_
  refine rq (out := Pr.lst rApiToken x2) qAssign ?_
  refine rq (out := Pr.i64 x3) qAssign ?_
  refine rq (out := Pr.i64 x4) qAssign ?_
  refine W_seq ?_
  refine W_rs ?_
  refine rq (out := Pr.i64 x4) qMove ?_
  refine rq (out := Pr.bool (x4 != 0)) qInt ?_
  refine W_cond (b := x4 != 0) rfl (fun hc5 => ?_) (fun hc5 => ?_)
  · replace h := iteT hc5 h
    refine W_rs ?_
    refine rq (out := Pr.is (.slice none 0 0)) qAssign ?_
    refine rq (out := Pr.bool false) qAssign ?_
    obtain rfl := Option.some.inj h
    exact W_ret ⟨rfl, tup_le ⟨Pr.lst_nil _, Pr.le_rfl, trivial⟩⟩
  · replace h := iteF hc5 h
    refine W_skip ?_
    refine W_rs ?_
    refine rq (out := Pr.is (.slice none 0 0)) qAssign ?_
    refine W_seq ?_
    refine W_rs ?_
    refine rq (out := Pr.i64 0) qAssign ?_
    refine W_block ?_
    obtain ⟨z2l, hz2, h⟩ := bindSome h
    obtain ⟨n2, hN2⟩ := iter_some hz2
    clear hz2
    refine W_after 0 (fun e C => ∃ (x8 : List (List UInt8)), ∃ (v6 : Value), ref08_Units_k1 x8 = some r ∧ At [(7, Pr.is v6)] [Own.vec v6 Rp.str x8 9] e C) ?_ ?_
    · rintro e C ⟨x8, v6, h, hat1⟩
      refine W_at hat1 ?_
      clear hat1
      unfold ref08_Units_k1 at h
      refine W_rs ?_
      refine rq (out := Pr.is v6) qMove ?_
      refine rq (out := Pr.is v6) qAssign ?_
      refine rq (out := Pr.bool true) qAssign ?_
      refine W_rel 0 [2] ?_ rfl ⟨rfl, trivial⟩
      obtain rfl := Option.some.inj h
      exact W_ret ⟨rfl, Pr.le_rfl⟩
    · refine W_nil [7] Rp.str 9 (fun v18 => ?_) ⟨rfl, trivial⟩
      refine W_loop (fun m e C => ∃ (x7 : Int), ∃ (x8 : List (List UInt8)), ∃ (v6 : Value), IterN (fun s => ref08_Units_l2 x2 s.1 s.2) m (x7, x8) = some z2l ∧ At [(4, Pr.lst rApiToken x2), (7, Pr.is v6), (8, Pr.i64 x7)] [Own.vec v6 Rp.str x8 9] e C) n2 ⟨0, [], v18, hN2, ⟨⟨Pr.le_rfl, Pr.le_rfl, Pr.le_rfl, trivial⟩, Pick.refl _⟩⟩ ?_
      clear hN2
      rintro m e C ⟨x7, x8, v6, hN2, hatl2⟩
      refine W_at hatl2 ?_
      clear hatl2
      obtain ⟨m2, w2l, rfl, h2l, hn2, ho2⟩ := iterN_some hN2
      clear hN2
      replace h2l : ref08_Units_l2 x2 x7 x8 = some w2l := h2l
      unfold ref08_Units_l2 at h2l
      refine W_seq ?_
      refine W_rs ?_
      refine rq (out := Pr.i64 x7) qMove ?_
      refine rq (out := Pr.lst rApiToken x2) qMove ?_
      refine rq (out := Pr.i64 (x2.length : Int)) (qLenL rfl Tryz.underlying43) ?_
      refine rq (out := Pr.bool (decide (x7 < (x2.length : Int)))) qInt ?_
      refine W_cond (b := decide (x7 < (x2.length : Int))) rfl (fun hc12 => ?_) (fun hc12 => ?_)
      · replace h2l := iteT hc12 h2l
        refine W_skip ?_
        refine W_seq ?_
        refine W_block ?_
        refine W_draw 13 hmx (by kernel_rfl) (by kernel_rfl) ?_
        refine qq (out := Pr.is v6) qMove ?_
        refine qq (out := Pr.lst rApiToken x2) qMove ?_
        refine qq (out := Pr.i64 x7) qMove ?_
        obtain ⟨x13, hx13, h2l⟩ := bindSome h2l
        refine qq (out := Pr.cpt rApiToken x13) (qIdxA (R := rApiToken) (l := x2) Tryz.underlying43 Tryz.sizeOf48 hx13) ?_
        refine qq (out := Pr.cpt Rp.str x13.Lead) (qFieldC (R := rApiToken) (a := x13) fld48_3 subApiToken_Lead) ?_
        refine qq (out := Pr.str x13.Lead) (qLoadC (R := Rp.str) (a := x13.Lead) ty9) ?_
        refine qq (out := Pr.lst rApiToken x2) qMove ?_
        refine qq (out := Pr.i64 x7) qMove ?_
        obtain ⟨x14, hx14, h2l⟩ := bindSome h2l
        refine qq (out := Pr.cpt rApiToken x14) (qIdxA (R := rApiToken) (l := x2) Tryz.underlying43 Tryz.sizeOf48 hx14) ?_
        refine qq (out := Pr.cpt Rp.str x14.Text) (qFieldC (R := rApiToken) (a := x14) fld48_1 subApiToken_Text) ?_
        refine qq (out := Pr.str x14.Text) (qLoadC (R := Rp.str) (a := x14.Text) ty9) ?_
        obtain ⟨x15, hx15, h2l⟩ := bindSome h2l
        refine qq (out := Pr.str x15) (qCat' hx15) ?_
        refine qq (out := Pr.lst Rp.str ([x15] : List (List UInt8))) (qBuildSlice1 (R := Rp.str) (a := x15) el27 (Nat.le_of_ble_eq_true rfl)) ?_
        obtain ⟨x16, hx16, h2l⟩ := bindSome h2l
        refine rAppend' 0 el27 hx16 (fun v17 => ?_)
        refine rq (out := Pr.is v17) qAssign ?_
        refine W_r ?_
        refine rq (out := Pr.i64 x7) qMove ?_
        refine rq (out := Pr.i64 (w64 (x7 + 1))) qInt ?_
        refine rq (out := Pr.i64 (w64 (x7 + 1))) qAssign ?_
        exact ⟨m2, Nat.lt_succ_self _, w64 (x7 + 1), x16, v17, hn2 _ (Option.some.inj h2l).symm, ⟨⟨Pr.le_rfl, Pr.le_rfl, Pr.le_rfl, trivial⟩, Pick.refl _⟩⟩
      · replace h2l := iteF hc12 h2l
        refine W_exit ?_
        obtain rfl := ho2 _ (Option.some.inj h2l).symm
        exact ⟨x8, v6, h, ⟨⟨Pr.le_rfl, trivial⟩, Pick.refl _⟩⟩
theorem ref05_Numbers_ok (x1 : List (List (List UInt8))) (r : (List (List Int))) (h : ref05_Numbers x1 = some r) : FnP Tryz.prog 40 [Pr.lst (Rp.list Rp.str) x1] (Pr.lst (Rp.list (Rp.int .i64)) r) := by
  refine fn_intro (n := 67) (rs := [2]) Tryz.func40 rfl Tryz.ntmps40 ⟨by decide, Tryz.results40⟩ (by decide) (fun s0 => ?_)
  unfold ref05_Numbers at h
  refine W_rs ?_
  refine rq (out := Pr.is (.slice none 0 0)) qAssign ?_
  refine W_rs ?_
  refine rq (out := Pr.is (.slice none 0 0)) qAssign ?_
  refine W_rs ?_
  refine rq (out := Pr.is (.slice none 0 0)) qAssign ?_
  refine W_seq ?_
  refine W_rs ?_
  refine rq (out := Pr.i64 0) qAssign ?_
  refine W_block ?_
  obtain ⟨z2l, hz2, h⟩ := bindSome h
  obtain ⟨n2, hN2⟩ := iter_some hz2
  clear hz2
  refine W_after 0 (fun e C => ∃ (x6 : List (List Int)), ∃ (v3 : Value), ref05_Numbers_k1 x6 = some r ∧ At [(4, Pr.is v3)] [Own.vec v3 (Rp.list (Rp.int .i64)) x6 83] e C) ?_ ?_
  · rintro e C ⟨x6, v3, h, hat1⟩
    refine W_at hat1 ?_
    clear hat1
    unfold ref05_Numbers_k1 at h
    refine W_rs ?_
    refine rq (out := Pr.is v3) qMove ?_
    refine rq (out := Pr.is v3) qAssign ?_
    refine W_rel 0 [2] ?_ rfl ⟨rfl, trivial⟩
    obtain rfl := Option.some.inj h
    exact W_ret ⟨rfl, Pr.le_rfl⟩
  · refine W_nil [3] Rp.str 9 (fun v45 => ?_) ⟨rfl, trivial⟩
    refine W_nil [4] (Rp.list (Rp.int .i64)) 83 (fun v46 => ?_) ⟨rfl, trivial⟩
    refine W_loop (fun m e C => ∃ (x4 : Int), ∃ (x5 : List (List UInt8)), ∃ (x6 : List (List Int)), ∃ (v2 : Value), ∃ (v3 : Value), IterN (fun s => ref05_Numbers_l2 x1 s.1 s.2.1 s.2.2) m (x4, x5, x6) = some z2l ∧ At [(0, Pr.lst (Rp.list Rp.str) x1), (3, Pr.is v2), (4, Pr.is v3), (5, Pr.i64 x4)] [Own.vec v2 Rp.str x5 9, Own.vec v3 (Rp.list (Rp.int .i64)) x6 83] e C) n2 ⟨0, [], [], v45, v46, hN2, ⟨⟨Pr.le_rfl, Pr.le_rfl, Pr.le_rfl, Pr.le_rfl, trivial⟩, Pick.refl _⟩⟩ ?_
    clear hN2
    rintro m e C ⟨x4, x5, x6, v2, v3, hN2, hatl2⟩
    refine W_at hatl2 ?_
    clear hatl2
    obtain ⟨m2, w2l, rfl, h2l, hn2, ho2⟩ := iterN_some hN2
    clear hN2
    replace h2l : ref05_Numbers_l2 x1 x4 x5 x6 = some w2l := h2l
    unfold ref05_Numbers_l2 at h2l
    refine W_seq ?_
    refine W_rs ?_
    refine rq (out := Pr.i64 x4) qMove ?_
    refine rq (out := Pr.lst (Rp.list Rp.str) x1) qMove ?_
    refine rq (out := Pr.i64 (x1.length : Int)) (qLenL rfl Tryz.underlying81) ?_
    refine rq (out := Pr.bool (decide (x4 < (x1.length : Int)))) qInt ?_
    refine W_cond (b := decide (x4 < (x1.length : Int))) rfl (fun hc12 => ?_) (fun hc12 => ?_)
    · replace h2l := iteT hc12 h2l
      refine W_skip ?_
      refine W_seq ?_
      refine W_block ?_
      refine W_rs ?_
      refine rq (out := Pr.is (.slice none 0 0)) qAssign ?_
      refine W_seq ?_
      refine W_rs ?_
      refine rq (out := Pr.i64 0) qAssign ?_
      refine W_block ?_
      obtain ⟨z4l, hz4, h2l⟩ := bindSome h2l
      obtain ⟨n4, hN4⟩ := iter_some hz4
      clear hz4
      refine W_after 2 (fun e C => ∃ (x16 : List (List UInt8)), ∃ (x17 : List Int), ∃ (v13 : Value), ∃ (v14 : Value), ref05_Numbers_k3 x6 x4 x16 x17 = some w2l ∧ At [(0, Pr.lst (Rp.list Rp.str) x1), (3, Pr.is v13), (4, Pr.is v3), (5, Pr.i64 x4), (6, Pr.is v14)] [Own.vec v13 Rp.str x16 9, Own.vec v3 (Rp.list (Rp.int .i64)) x6 83, Own.vec v14 (Rp.int .i64) x17 3] e C) ?_ ?_
      · rintro e C ⟨x16, x17, v13, v14, h2l, hat3⟩
        refine W_at hat3 ?_
        clear hat3
        unfold ref05_Numbers_k3 at h2l
        refine W_r ?_
        refine rq (out := Pr.is v3) qMove ?_
        refine rq (out := Pr.is v14) qMove ?_
        refine rRel 2 [6, 63] ?_ rfl ⟨rfl, rfl, trivial⟩
        refine rq (out := Pr.lst (Rp.list (Rp.int .i64)) ([x17] : List (List Int))) (qBuildSlice1 (R := Rp.list (Rp.int .i64)) (a := x17) el79 (Nat.le_of_ble_eq_true rfl)) ?_
        obtain ⟨x42, hx42, h2l⟩ := bindSome h2l
        refine rAppend' 1 el79 hx42 (fun v43 => ?_)
        refine rq (out := Pr.is v43) qAssign ?_
        refine W_r ?_
        refine rq (out := Pr.i64 x4) qMove ?_
        refine rq (out := Pr.i64 (w64 (x4 + 1))) qInt ?_
        refine rq (out := Pr.i64 (w64 (x4 + 1))) qAssign ?_
        exact ⟨m2, Nat.lt_succ_self _, w64 (x4 + 1), x16, x42, v13, v43, hn2 _ (Option.some.inj h2l).symm, ⟨⟨Pr.le_rfl, Pr.le_rfl, Pr.le_rfl, Pr.le_rfl, trivial⟩, Pick.refl _⟩⟩
      · refine W_nil [6] (Rp.int .i64) 3 (fun v44 => ?_) ⟨rfl, trivial⟩
        refine W_loop (fun m e C => ∃ (x15 : Int), ∃ (x16 : List (List UInt8)), ∃ (x17 : List Int), ∃ (v13 : Value), ∃ (v14 : Value), IterN (fun s => ref05_Numbers_l4 x1 x4 s.1 s.2.1 s.2.2) m (x15, x16, x17) = some z4l ∧ At [(0, Pr.lst (Rp.list Rp.str) x1), (3, Pr.is v13), (4, Pr.is v3), (5, Pr.i64 x4), (6, Pr.is v14), (7, Pr.i64 x15)] [Own.vec v13 Rp.str x16 9, Own.vec v3 (Rp.list (Rp.int .i64)) x6 83, Own.vec v14 (Rp.int .i64) x17 3] e C) n4 ⟨0, x5, [], v2, v44, hN4, ⟨⟨Pr.le_rfl, Pr.le_rfl, Pr.le_rfl, Pr.le_rfl, Pr.le_rfl, Pr.le_rfl, trivial⟩, Pick.refl _⟩⟩ ?_
        clear hN4
        rintro m e C ⟨x15, x16, x17, v13, v14, hN4, hatl4⟩
        refine W_at hatl4 ?_
        clear hatl4
        obtain ⟨m4, w4l, rfl, h4l, hn4, ho4⟩ := iterN_some hN4
        clear hN4
        replace h4l : ref05_Numbers_l4 x1 x4 x15 x16 x17 = some w4l := h4l
        unfold ref05_Numbers_l4 at h4l
        refine W_seq ?_
        refine W_rs ?_
        refine rq (out := Pr.i64 x15) qMove ?_
        refine rq (out := Pr.lst (Rp.list Rp.str) x1) qMove ?_
        refine rq (out := Pr.i64 x4) qMove ?_
        obtain ⟨x23, hx23, h4l⟩ := bindSome h4l
        refine rq (out := Pr.cpt (Rp.list Rp.str) x23) (qIdxA (R := Rp.list Rp.str) (l := x1) Tryz.underlying81 Tryz.sizeOf27 hx23) ?_
        refine rq (out := Pr.lst Rp.str x23) (qLoadC (R := Rp.list Rp.str) (a := x23) ty27) ?_
        refine rq (out := Pr.i64 (x23.length : Int)) (qLenL rfl Tryz.underlying27) ?_
        refine rq (out := Pr.bool (decide (x15 < (x23.length : Int)))) qInt ?_
        refine W_cond (b := decide (x15 < (x23.length : Int))) rfl (fun hc24 => ?_) (fun hc24 => ?_)
        · replace h4l := iteT hc24 h4l
          refine W_skip ?_
          refine W_seq ?_
          refine W_block ?_
          refine W_rs ?_
          refine rq (out := Pr.i64 0) qAssign ?_
          refine W_seq ?_
          refine W_block ?_
          obtain ⟨z7l, hz7, h4l⟩ := bindSome h4l
          obtain ⟨n7, hN7⟩ := iter_some hz7
          clear hz7
          refine W_after 4 (fun e C => ∃ (x25 : Int), ref05_Numbers_k6 x16 x1 x4 x15 x17 x25 = some w4l ∧ At [(0, Pr.lst (Rp.list Rp.str) x1), (3, Pr.is v13), (4, Pr.is v3), (5, Pr.i64 x4), (6, Pr.is v14), (7, Pr.i64 x15), (8, Pr.i64 x25)] [Own.vec v13 Rp.str x16 9, Own.vec v3 (Rp.list (Rp.int .i64)) x6 83, Own.vec v14 (Rp.int .i64) x17 3] e C) ?_ ?_
          · rintro e C ⟨x25, h4l, hat6⟩
            refine W_at hat6 ?_
            clear hat6
            unfold ref05_Numbers_k6 at h4l
            refine W_join (fun e C => ∃ (x39 : List (List UInt8)), ∃ (v38 : Value), ref05_Numbers_j5 x17 x25 x15 x39 = some w4l ∧ At [(0, Pr.lst (Rp.list Rp.str) x1), (3, Pr.is v38), (4, Pr.is v3), (5, Pr.i64 x4), (6, Pr.is v14), (7, Pr.i64 x15), (8, Pr.i64 x25)] [Own.vec v38 Rp.str x39 9, Own.vec v3 (Rp.list (Rp.int .i64)) x6 83, Own.vec v14 (Rp.int .i64) x17 3] e C) ?_ ?_
            · rintro e C ⟨x39, v38, h4l, hat5⟩
              refine W_at hat5 ?_
              clear hat5
              unfold ref05_Numbers_j5 at h4l
              refine W_r ?_
              refine rq (out := Pr.is v14) qMove ?_
              refine rq (out := Pr.i64 x25) qMove ?_
              refine rq (out := Pr.lst (Rp.int .i64) ([x25] : List Int)) (qBuildSlice1 (R := Rp.int .i64) (a := x25) el83 (Nat.le_of_ble_eq_true rfl)) ?_
              obtain ⟨x40, hx40, h4l⟩ := bindSome h4l
              refine rAppend' 2 el83 hx40 (fun v41 => ?_)
              refine rq (out := Pr.is v41) qAssign ?_
              refine W_r ?_
              refine rq (out := Pr.i64 x15) qMove ?_
              refine rq (out := Pr.i64 (w64 (x15 + 1))) qInt ?_
              refine rq (out := Pr.i64 (w64 (x15 + 1))) qAssign ?_
              exact ⟨m4, Nat.lt_succ_self _, w64 (x15 + 1), x39, x40, v38, v41, hn4 _ (Option.some.inj h4l).symm, ⟨⟨Pr.le_rfl, Pr.le_rfl, Pr.le_rfl, Pr.le_rfl, Pr.le_rfl, Pr.le_rfl, trivial⟩, Pick.refl _⟩⟩
            · refine W_rs ?_
              refine rq (out := Pr.i64 x25) qMove ?_
              refine rq (out := Pr.is v13) qMove ?_
              refine rq (out := Pr.i64 (x16.length : Int)) (qLenV 0 rfl Tryz.underlying27) ?_
              refine rq (out := Pr.bool (x25 == (x16.length : Int))) qInt ?_
              refine W_cond (b := x25 == (x16.length : Int)) rfl (fun hc33 => ?_) (fun hc33 => ?_)
              · replace h4l := iteT hc33 h4l
                refine W_r ?_
                refine rq (out := Pr.is v13) qMove ?_
                refine rq (out := Pr.lst (Rp.list Rp.str) x1) qMove ?_
                refine rq (out := Pr.i64 x4) qMove ?_
                obtain ⟨x34, hx34, h4l⟩ := bindSome h4l
                refine rq (out := Pr.cpt (Rp.list Rp.str) x34) (qIdxA (R := Rp.list Rp.str) (l := x1) Tryz.underlying81 Tryz.sizeOf27 hx34) ?_
                refine rq (out := Pr.lst Rp.str x34) (qLoadC (R := Rp.list Rp.str) (a := x34) ty27) ?_
                refine rq (out := Pr.i64 x15) qMove ?_
                obtain ⟨x35, hx35, h4l⟩ := bindSome h4l
                refine rq (out := Pr.cpt Rp.str x35) (qIdxA (R := Rp.str) (l := x34) Tryz.underlying27 Tryz.sizeOf9 hx35) ?_
                refine rq (out := Pr.str x35) (qLoadC (R := Rp.str) (a := x35) ty9) ?_
                refine rq (out := Pr.lst Rp.str ([x35] : List (List UInt8))) (qBuildSlice1 (R := Rp.str) (a := x35) el27 (Nat.le_of_ble_eq_true rfl)) ?_
                obtain ⟨x36, hx36, h4l⟩ := bindSome h4l
                refine rAppend' 0 el27 hx36 (fun v37 => ?_)
                refine rq (out := Pr.is v37) qAssign ?_
                exact ⟨x36, v37, h4l, ⟨⟨Pr.le_rfl, Pr.le_rfl, Pr.le_rfl, Pr.le_rfl, Pr.le_rfl, Pr.le_rfl, Pr.le_rfl, trivial⟩, Pick.refl _⟩⟩
              · replace h4l := iteF hc33 h4l
                refine W_skip ?_
                exact ⟨x16, v13, h4l, ⟨⟨Pr.le_rfl, Pr.le_rfl, Pr.le_rfl, Pr.le_rfl, Pr.le_rfl, Pr.le_rfl, Pr.le_rfl, trivial⟩, Pick.refl _⟩⟩
          · refine W_loop (fun m e C => ∃ (x25 : Int), IterN (fun s => ref05_Numbers_l7 x16 x1 x4 x15 s) m x25 = some z7l ∧ At [(0, Pr.lst (Rp.list Rp.str) x1), (3, Pr.is v13), (4, Pr.is v3), (5, Pr.i64 x4), (6, Pr.is v14), (7, Pr.i64 x15), (8, Pr.i64 x25)] [Own.vec v13 Rp.str x16 9, Own.vec v3 (Rp.list (Rp.int .i64)) x6 83, Own.vec v14 (Rp.int .i64) x17 3] e C) n7 ⟨0, hN7, ⟨⟨Pr.le_rfl, Pr.le_rfl, Pr.le_rfl, Pr.le_rfl, Pr.le_rfl, Pr.le_rfl, Pr.le_rfl, trivial⟩, Pick.refl _⟩⟩ ?_
            clear hN7
            rintro m e C ⟨x25, hN7, hatl7⟩
            refine W_at hatl7 ?_
            clear hatl7
            obtain ⟨m7, w7l, rfl, h7l, hn7, ho7⟩ := iterN_some hN7
            clear hN7
            replace h7l : ref05_Numbers_l7 x16 x1 x4 x15 x25 = some w7l := h7l
            unfold ref05_Numbers_l7 at h7l
            refine W_seq ?_
            refine W_join (fun e C => ∃ (x31 : Bool), ref05_Numbers_j8 x25 x31 = some w7l ∧ At [(0, Pr.lst (Rp.list Rp.str) x1), (3, Pr.is v13), (4, Pr.is v3), (5, Pr.i64 x4), (6, Pr.is v14), (7, Pr.i64 x15), (8, Pr.i64 x25), (41, Pr.bool x31)] [Own.vec v13 Rp.str x16 9, Own.vec v3 (Rp.list (Rp.int .i64)) x6 83, Own.vec v14 (Rp.int .i64) x17 3] e C) ?_ ?_
            · rintro e C ⟨x31, h7l, hat8⟩
              refine W_at hat8 ?_
              clear hat8
              unfold ref05_Numbers_j8 at h7l
              refine W_cond (b := x31) rfl (fun hc32 => ?_) (fun hc32 => ?_)
              · replace h7l := iteT hc32 h7l
                refine W_skip ?_
                refine W_block ?_
                refine W_r ?_
                refine rq (out := Pr.i64 x25) qMove ?_
                refine rq (out := Pr.i64 (w64 (x25 + 1))) qInt ?_
                refine rq (out := Pr.i64 (w64 (x25 + 1))) qAssign ?_
                exact ⟨m7, Nat.lt_succ_self _, w64 (x25 + 1), hn7 _ (Option.some.inj h7l).symm, ⟨⟨Pr.le_rfl, Pr.le_rfl, Pr.le_rfl, Pr.le_rfl, Pr.le_rfl, Pr.le_rfl, Pr.le_rfl, trivial⟩, Pick.refl _⟩⟩
              · replace h7l := iteF hc32 h7l
                refine W_exit ?_
                obtain rfl := ho7 _ (Option.some.inj h7l).symm
                exact ⟨x25, h4l, ⟨⟨Pr.le_rfl, Pr.le_rfl, Pr.le_rfl, Pr.le_rfl, Pr.le_rfl, Pr.le_rfl, Pr.le_rfl, trivial⟩, Pick.refl _⟩⟩
            · refine W_draw 18 hmx (by kernel_rfl) (by kernel_rfl) ?_
              refine qq (out := Pr.i64 x25) qMove ?_
              refine qq (out := Pr.is v13) qMove ?_
              refine qq (out := Pr.i64 (x16.length : Int)) (qLenV 0 rfl Tryz.underlying27) ?_
              refine qq (out := Pr.bool (decide (x25 < (x16.length : Int)))) qInt ?_
              refine qq (out := Pr.bool (decide (x25 < (x16.length : Int)))) qMove ?_
              rcases iteSome h7l with ⟨hc27, h7l⟩ | ⟨hc27, h7l⟩
              · refine qqg hc27 (out := Pr.is v13) qMove ?_
                refine qqg hc27 (out := Pr.i64 x25) qMove ?_
                obtain ⟨x28, hx28, h7l⟩ := bindSome h7l
                refine qqg hc27 (out := Pr.vpt v13 (Int.toNat x25 * (Rp.str).size)) (qIdxV 0 (R := Rp.str) (l := x16) Tryz.underlying27 Tryz.sizeOf9 hx28) ?_
                refine qqg hc27 (out := Pr.str x28) (qLoadV (R := Rp.str) (R' := Rp.str) (l := x16) (a := x28) (o := 0) 0 ty9 (Sub.refl _) (Nat.le_of_ble_eq_true rfl) hx28 rfl) ?_
                refine qqg hc27 (out := Pr.lst (Rp.list Rp.str) x1) qMove ?_
                refine qqg hc27 (out := Pr.i64 x4) qMove ?_
                obtain ⟨x29, hx29, h7l⟩ := bindSome h7l
                refine qqg hc27 (out := Pr.cpt (Rp.list Rp.str) x29) (qIdxA (R := Rp.list Rp.str) (l := x1) Tryz.underlying81 Tryz.sizeOf27 hx29) ?_
                refine qqg hc27 (out := Pr.lst Rp.str x29) (qLoadC (R := Rp.list Rp.str) (a := x29) ty27) ?_
                refine qqg hc27 (out := Pr.i64 x15) qMove ?_
                obtain ⟨x30, hx30, h7l⟩ := bindSome h7l
                refine qqg hc27 (out := Pr.cpt Rp.str x30) (qIdxA (R := Rp.str) (l := x29) Tryz.underlying27 Tryz.sizeOf9 hx30) ?_
                refine qqg hc27 (out := Pr.str x30) (qLoadC (R := Rp.str) (a := x30) ty9) ?_
                refine qqg hc27 (out := Pr.bool (!(x28 == x30))) qStr ?_
                refine qq (out := Pr.bool (!(x28 == x30))) (qPickT hc27) ?_
                exact ⟨!(x28 == x30), h7l, ⟨⟨Pr.le_rfl, Pr.le_rfl, Pr.le_rfl, Pr.le_rfl, Pr.le_rfl, Pr.le_rfl, Pr.le_rfl, Pr.le_rfl, trivial⟩, Pick.refl _⟩⟩
              · refine qqno (neT hc27) ?_
                refine qqno (neT hc27) ?_
                refine qqno (neT hc27) ?_
                refine qqno (neT hc27) ?_
                refine qqno (neT hc27) ?_
                refine qqno (neT hc27) ?_
                refine qqno (neT hc27) ?_
                refine qqno (neT hc27) ?_
                refine qqno (neT hc27) ?_
                refine qqno (neT hc27) ?_
                refine qqno (neT hc27) ?_
                refine qqno (neT hc27) ?_
                refine qq (out := Pr.bool false) (qPickF hc27) ?_
                exact ⟨false, h7l, ⟨⟨Pr.le_rfl, Pr.le_rfl, Pr.le_rfl, Pr.le_rfl, Pr.le_rfl, Pr.le_rfl, Pr.le_rfl, Pr.le_rfl, trivial⟩, Pick.refl _⟩⟩
        · replace h4l := iteF hc24 h4l
          refine W_exit ?_
          obtain rfl := ho4 _ (Option.some.inj h4l).symm
          exact ⟨x16, x17, v13, v14, h2l, ⟨⟨Pr.le_rfl, Pr.le_rfl, Pr.le_rfl, Pr.le_rfl, Pr.le_rfl, trivial⟩, Pick.refl _⟩⟩
    · replace h2l := iteF hc12 h2l
      refine W_exit ?_
      obtain rfl := ho2 _ (Option.some.inj h2l).symm
      exact ⟨x6, v3, h, ⟨⟨Pr.le_rfl, trivial⟩, Pick.of [1] rfl⟩⟩
theorem ref05_Match_ok (x1 : List Int) (x2 : List Int) (r : (List Int)) (h : ref05_Match x1 x2 = some r) : FnP Tryz.prog 62 [Pr.lst (Rp.int .i64) x1, Pr.lst (Rp.int .i64) x2] (Pr.lst (Rp.int .i64) r) := by
  refine fn_intro (n := 158) (rs := [4]) Tryz.func62 rfl Tryz.ntmps62 ⟨by decide, Tryz.results62⟩ (by decide) (fun s0 => ?_)
  unfold ref05_Match at h
  refine W_rs ?_
  refine rq (out := Pr.is (.slice none 0 0)) qAssign ?_
  refine W_rs ?_
  refine rq (out := Pr.is (.slice none 0 0)) qAssign ?_
  refine W_seq ?_
  refine W_rs ?_
  refine rq (out := Pr.i64 0) qAssign ?_
  refine W_block ?_
  obtain ⟨z14l, hz14, h⟩ := bindSome h
  obtain ⟨n14, hN14⟩ := iter_some hz14
  clear hz14
  refine W_after 0 (fun e C => ∃ (x5 : List Int), ∃ (v3 : Value), ref05_Match_k13 x1 x2 x5 = some r ∧ At [(0, Pr.lst (Rp.int .i64) x1), (1, Pr.lst (Rp.int .i64) x2), (5, Pr.is v3)] [Own.vec v3 (Rp.int .i64) x5 3] e C) ?_ ?_
  · rintro e C ⟨x5, v3, h, hat13⟩
    refine W_at hat13 ?_
    clear hat13
    unfold ref05_Match_k13 at h
    refine W_seq ?_
    refine W_join (fun e C => ∃ (x13 : Bool), ref05_Match_j12 x1 x2 x5 x13 = some r ∧ At [(0, Pr.lst (Rp.int .i64) x1), (1, Pr.lst (Rp.int .i64) x2), (5, Pr.is v3), (28, Pr.bool x13)] [Own.vec v3 (Rp.int .i64) x5 3] e C) ?_ ?_
    · rintro e C ⟨x13, h, hat12⟩
      refine W_at hat12 ?_
      clear hat12
      unfold ref05_Match_j12 at h
      refine W_cond (b := x13) rfl (fun hc14 => ?_) (fun hc14 => ?_)
      · replace h := iteT hc14 h
        refine W_rs ?_
        refine rq (out := Pr.i64 0) qAssign ?_
        refine W_seq ?_
        refine W_block ?_
        obtain ⟨z5l, hz5, h⟩ := bindSome h
        obtain ⟨n5, hN5⟩ := iter_some hz5
        clear hz5
        refine W_after 2 (fun e C => ∃ (x15 : Int), ∃ (x16 : List Int), ref05_Match_k4 x1 x2 x15 x16 = some r ∧ At [(0, Pr.lst (Rp.int .i64) x1), (1, Pr.lst (Rp.int .i64) x2), (5, Pr.is v3), (7, Pr.i64 x15)] [Own.vec v3 (Rp.int .i64) x16 3] e C) ?_ ?_
        · rintro e C ⟨x15, x16, h, hat4⟩
          refine W_at hat4 ?_
          clear hat4
          unfold ref05_Match_k4 at h
          refine W_rs ?_
          refine rq (out := Pr.i64 0) qAssign ?_
          refine W_seq ?_
          refine W_block ?_
          obtain ⟨z2l, hz2, h⟩ := bindSome h
          obtain ⟨n2, hN2⟩ := iter_some hz2
          clear hz2
          refine W_after 4 (fun e C => ∃ (x30 : List Int), ref05_Match_k1 x30 = some r ∧ At [(5, Pr.is v3)] [Own.vec v3 (Rp.int .i64) x30 3] e C) ?_ ?_
          · rintro e C ⟨x30, h, hat1⟩
            refine W_at hat1 ?_
            clear hat1
            unfold ref05_Match_k1 at h
            refine W_rs ?_
            refine rq (out := Pr.is v3) qMove ?_
            refine rq (out := Pr.is v3) qAssign ?_
            refine W_rel 0 [4] ?_ rfl ⟨rfl, trivial⟩
            obtain rfl := Option.some.inj h
            exact W_ret ⟨rfl, Pr.le_rfl⟩
          · refine W_loop (fun m e C => ∃ (x29 : Int), ∃ (x30 : List Int), IterN (fun s => ref05_Match_l2 x1 x15 x2 s.1 s.2) m (x29, x30) = some z2l ∧ At [(0, Pr.lst (Rp.int .i64) x1), (1, Pr.lst (Rp.int .i64) x2), (5, Pr.is v3), (7, Pr.i64 x15), (8, Pr.i64 x29)] [Own.vec v3 (Rp.int .i64) x30 3] e C) n2 ⟨0, x16, hN2, ⟨⟨Pr.le_rfl, Pr.le_rfl, Pr.le_rfl, Pr.le_rfl, Pr.le_rfl, trivial⟩, Pick.refl _⟩⟩ ?_
            clear hN2
            rintro m e C ⟨x29, x30, hN2, hatl2⟩
            refine W_at hatl2 ?_
            clear hatl2
            obtain ⟨m2, w2l, rfl, h2l, hn2, ho2⟩ := iterN_some hN2
            clear hN2
            replace h2l : ref05_Match_l2 x1 x15 x2 x29 x30 = some w2l := h2l
            unfold ref05_Match_l2 at h2l
            refine W_seq ?_
            refine W_join (fun e C => ∃ (x40 : Bool), ref05_Match_j3 x30 x1 x29 x2 x40 = some w2l ∧ At [(0, Pr.lst (Rp.int .i64) x1), (1, Pr.lst (Rp.int .i64) x2), (5, Pr.is v3), (7, Pr.i64 x15), (8, Pr.i64 x29), (88, Pr.bool x40)] [Own.vec v3 (Rp.int .i64) x30 3] e C) ?_ ?_
            · rintro e C ⟨x40, h2l, hat3⟩
              refine W_at hat3 ?_
              clear hat3
              unfold ref05_Match_j3 at h2l
              refine W_cond (b := x40) rfl (fun hc41 => ?_) (fun hc41 => ?_)
              · replace h2l := iteT hc41 h2l
                refine W_skip ?_
                refine W_block ?_
                refine W_rs ?_
                refine rq (out := Pr.is v3) qMove ?_
                refine rq (out := Pr.lst (Rp.int .i64) x1) qMove ?_
                refine rq (out := Pr.i64 (x1.length : Int)) (qLenL rfl Tryz.underlying83) ?_
                refine rq (out := Pr.i64 (w64 ((x1.length : Int) - 1))) qInt ?_
                refine rq (out := Pr.i64 x29) qMove ?_
                refine rq (out := Pr.i64 (w64 ((w64 ((x1.length : Int) - 1)) - x29))) qInt ?_
                refine rq (out := Pr.lst (Rp.int .i64) x2) qMove ?_
                refine rq (out := Pr.i64 (x2.length : Int)) (qLenL rfl Tryz.underlying83) ?_
                refine rq (out := Pr.i64 (w64 ((x2.length : Int) - 1))) qInt ?_
                refine rq (out := Pr.i64 x29) qMove ?_
                refine rq (out := Pr.i64 (w64 ((w64 ((x2.length : Int) - 1)) - x29))) qInt ?_
                obtain ⟨x42, hx42, h2l⟩ := bindSome h2l
                refine rq (out := Pr.vpt v3 (Int.toNat (w64 ((w64 ((x1.length : Int) - 1)) - x29)) * (Rp.int .i64).size)) (qIdxV 0 (R := Rp.int .i64) (l := x30) Tryz.underlying83 Tryz.sizeOf3 hx42) ?_
                refine rStoreE (R := Rp.int .i64) (R' := Rp.int .i64) (l := x30) (a := x42) (y := w64 ((w64 ((x2.length : Int) - 1)) - x29)) (o := 0) 0 Tryz.sizeOf3 (Upd.refl _) hx42 rfl ?_
                refine W_r ?_
                refine rq (out := Pr.i64 x29) qMove ?_
                refine rq (out := Pr.i64 (w64 (x29 + 1))) qInt ?_
                refine rq (out := Pr.i64 (w64 (x29 + 1))) qAssign ?_
                exact ⟨m2, Nat.lt_succ_self _, w64 (x29 + 1), (List.set x30 (Int.toNat (w64 ((w64 ((x1.length : Int) - 1)) - x29))) (w64 ((w64 ((x2.length : Int) - 1)) - x29))), hn2 _ (Option.some.inj h2l).symm, ⟨⟨Pr.le_rfl, Pr.le_rfl, Pr.le_rfl, Pr.le_rfl, Pr.le_rfl, trivial⟩, Pick.refl _⟩⟩
              · replace h2l := iteF hc41 h2l
                refine W_exit ?_
                obtain rfl := ho2 _ (Option.some.inj h2l).symm
                exact ⟨x30, h, ⟨⟨Pr.le_rfl, trivial⟩, Pick.refl _⟩⟩
            · refine W_draw 33 hmx (by kernel_rfl) (by kernel_rfl) ?_
              refine qq (out := Pr.i64 x29) qMove ?_
              refine qq (out := Pr.lst (Rp.int .i64) x1) qMove ?_
              refine qq (out := Pr.i64 (x1.length : Int)) (qLenL rfl Tryz.underlying83) ?_
              refine qq (out := Pr.i64 x15) qMove ?_
              refine qq (out := Pr.i64 (w64 ((x1.length : Int) - x15))) qInt ?_
              refine qq (out := Pr.bool (decide (x29 < (w64 ((x1.length : Int) - x15))))) qInt ?_
              refine qq (out := Pr.bool (decide (x29 < (w64 ((x1.length : Int) - x15))))) qMove ?_
              rcases iteSome h2l with ⟨hc33, h2l⟩ | ⟨hc33, h2l⟩
              · refine qqg hc33 (out := Pr.i64 x29) qMove ?_
                refine qqg hc33 (out := Pr.lst (Rp.int .i64) x2) qMove ?_
                refine qqg hc33 (out := Pr.i64 (x2.length : Int)) (qLenL rfl Tryz.underlying83) ?_
                refine qqg hc33 (out := Pr.i64 x15) qMove ?_
                refine qqg hc33 (out := Pr.i64 (w64 ((x2.length : Int) - x15))) qInt ?_
                refine qqg hc33 (out := Pr.bool (decide (x29 < (w64 ((x2.length : Int) - x15))))) qInt ?_
                refine qq (out := Pr.bool (decide (x29 < (w64 ((x2.length : Int) - x15))))) (qPickT hc33) ?_
                refine qq (out := Pr.bool (decide (x29 < (w64 ((x2.length : Int) - x15))))) qMove ?_
                rcases iteSome h2l with ⟨hc34, h2l⟩ | ⟨hc34, h2l⟩
                · refine qqg hc34 (out := Pr.lst (Rp.int .i64) x1) qMove ?_
                  refine qqg hc34 (out := Pr.lst (Rp.int .i64) x1) qMove ?_
                  refine qqg hc34 (out := Pr.i64 (x1.length : Int)) (qLenL rfl Tryz.underlying83) ?_
                  refine qqg hc34 (out := Pr.i64 (w64 ((x1.length : Int) - 1))) qInt ?_
                  refine qqg hc34 (out := Pr.i64 x29) qMove ?_
                  refine qqg hc34 (out := Pr.i64 (w64 ((w64 ((x1.length : Int) - 1)) - x29))) qInt ?_
                  obtain ⟨x35, hx35, h2l⟩ := bindSome h2l
                  refine qqg hc34 (out := Pr.cpt (Rp.int .i64) x35) (qIdxA (R := Rp.int .i64) (l := x1) Tryz.underlying83 Tryz.sizeOf3 hx35) ?_
                  refine qqg hc34 (out := Pr.i64 x35) (qLoadC (R := Rp.int .i64) (a := x35) ty3) ?_
                  refine qqg hc34 (out := Pr.lst (Rp.int .i64) x2) qMove ?_
                  refine qqg hc34 (out := Pr.lst (Rp.int .i64) x2) qMove ?_
                  refine qqg hc34 (out := Pr.i64 (x2.length : Int)) (qLenL rfl Tryz.underlying83) ?_
                  refine qqg hc34 (out := Pr.i64 (w64 ((x2.length : Int) - 1))) qInt ?_
                  refine qqg hc34 (out := Pr.i64 x29) qMove ?_
                  refine qqg hc34 (out := Pr.i64 (w64 ((w64 ((x2.length : Int) - 1)) - x29))) qInt ?_
                  obtain ⟨x36, hx36, h2l⟩ := bindSome h2l
                  refine qqg hc34 (out := Pr.cpt (Rp.int .i64) x36) (qIdxA (R := Rp.int .i64) (l := x2) Tryz.underlying83 Tryz.sizeOf3 hx36) ?_
                  refine qqg hc34 (out := Pr.i64 x36) (qLoadC (R := Rp.int .i64) (a := x36) ty3) ?_
                  refine qqg hc34 (out := Pr.bool (x35 == x36)) qInt ?_
                  refine qq (out := Pr.bool (x35 == x36)) (qPickT hc34) ?_
                  exact ⟨x35 == x36, h2l, ⟨⟨Pr.le_rfl, Pr.le_rfl, Pr.le_rfl, Pr.le_rfl, Pr.le_rfl, Pr.le_rfl, trivial⟩, Pick.refl _⟩⟩
                · refine qqno (neT hc34) ?_
                  refine qqno (neT hc34) ?_
                  refine qqno (neT hc34) ?_
                  refine qqno (neT hc34) ?_
                  refine qqno (neT hc34) ?_
                  refine qqno (neT hc34) ?_
                  refine qqno (neT hc34) ?_
                  refine qqno (neT hc34) ?_
                  refine qqno (neT hc34) ?_
                  refine qqno (neT hc34) ?_
                  refine qqno (neT hc34) ?_
                  refine qqno (neT hc34) ?_
                  refine qqno (neT hc34) ?_
                  refine qqno (neT hc34) ?_
                  refine qqno (neT hc34) ?_
                  refine qqno (neT hc34) ?_
                  refine qqno (neT hc34) ?_
                  refine qq (out := Pr.bool false) (qPickF hc34) ?_
                  exact ⟨false, h2l, ⟨⟨Pr.le_rfl, Pr.le_rfl, Pr.le_rfl, Pr.le_rfl, Pr.le_rfl, Pr.le_rfl, trivial⟩, Pick.refl _⟩⟩
              · refine qqno (neT hc33) ?_
                refine qqno (neT hc33) ?_
                refine qqno (neT hc33) ?_
                refine qqno (neT hc33) ?_
                refine qqno (neT hc33) ?_
                refine qqno (neT hc33) ?_
                refine qq (out := Pr.bool false) (qPickF hc33) ?_
                refine qq (out := Pr.bool false) qMove ?_
                have hc37 : false = false := rfl
                refine qqno (neT hc37) ?_
                refine qqno (neT hc37) ?_
                refine qqno (neT hc37) ?_
                refine qqno (neT hc37) ?_
                refine qqno (neT hc37) ?_
                refine qqno (neT hc37) ?_
                refine qqno (neT hc37) ?_
                refine qqno (neT hc37) ?_
                refine qqno (neT hc37) ?_
                refine qqno (neT hc37) ?_
                refine qqno (neT hc37) ?_
                refine qqno (neT hc37) ?_
                refine qqno (neT hc37) ?_
                refine qqno (neT hc37) ?_
                refine qqno (neT hc37) ?_
                refine qqno (neT hc37) ?_
                refine qqno (neT hc37) ?_
                refine qq (out := Pr.bool false) (qPickF hc37) ?_
                exact ⟨false, h2l, ⟨⟨Pr.le_rfl, Pr.le_rfl, Pr.le_rfl, Pr.le_rfl, Pr.le_rfl, Pr.le_rfl, trivial⟩, Pick.refl _⟩⟩
        · refine W_loop (fun m e C => ∃ (x15 : Int), ∃ (x16 : List Int), IterN (fun s => ref05_Match_l5 x1 x2 s.1 s.2) m (x15, x16) = some z5l ∧ At [(0, Pr.lst (Rp.int .i64) x1), (1, Pr.lst (Rp.int .i64) x2), (5, Pr.is v3), (7, Pr.i64 x15)] [Own.vec v3 (Rp.int .i64) x16 3] e C) n5 ⟨0, x5, hN5, ⟨⟨Pr.le_rfl, Pr.le_rfl, Pr.le_rfl, Pr.le_rfl, trivial⟩, Pick.refl _⟩⟩ ?_
          clear hN5
          rintro m e C ⟨x15, x16, hN5, hatl5⟩
          refine W_at hatl5 ?_
          clear hatl5
          obtain ⟨m5, w5l, rfl, h5l, hn5, ho5⟩ := iterN_some hN5
          clear hN5
          replace h5l : ref05_Match_l5 x1 x2 x15 x16 = some w5l := h5l
          unfold ref05_Match_l5 at h5l
          refine W_seq ?_
          refine W_join (fun e C => ∃ (x26 : Bool), ref05_Match_j6 x16 x15 x26 = some w5l ∧ At [(0, Pr.lst (Rp.int .i64) x1), (1, Pr.lst (Rp.int .i64) x2), (5, Pr.is v3), (7, Pr.i64 x15), (49, Pr.bool x26)] [Own.vec v3 (Rp.int .i64) x16 3] e C) ?_ ?_
          · rintro e C ⟨x26, h5l, hat6⟩
            refine W_at hat6 ?_
            clear hat6
            unfold ref05_Match_j6 at h5l
            refine W_cond (b := x26) rfl (fun hc27 => ?_) (fun hc27 => ?_)
            · replace h5l := iteT hc27 h5l
              refine W_skip ?_
              refine W_block ?_
              refine W_rs ?_
              refine rq (out := Pr.is v3) qMove ?_
              refine rq (out := Pr.i64 x15) qMove ?_
              refine rq (out := Pr.i64 x15) qMove ?_
              obtain ⟨x28, hx28, h5l⟩ := bindSome h5l
              refine rq (out := Pr.vpt v3 (Int.toNat x15 * (Rp.int .i64).size)) (qIdxV 0 (R := Rp.int .i64) (l := x16) Tryz.underlying83 Tryz.sizeOf3 hx28) ?_
              refine rStoreE (R := Rp.int .i64) (R' := Rp.int .i64) (l := x16) (a := x28) (y := x15) (o := 0) 0 Tryz.sizeOf3 (Upd.refl _) hx28 rfl ?_
              refine W_r ?_
              refine rq (out := Pr.i64 x15) qMove ?_
              refine rq (out := Pr.i64 (w64 (x15 + 1))) qInt ?_
              refine rq (out := Pr.i64 (w64 (x15 + 1))) qAssign ?_
              exact ⟨m5, Nat.lt_succ_self _, w64 (x15 + 1), (List.set x16 (Int.toNat x15) x15), hn5 _ (Option.some.inj h5l).symm, ⟨⟨Pr.le_rfl, Pr.le_rfl, Pr.le_rfl, Pr.le_rfl, trivial⟩, Pick.refl _⟩⟩
            · replace h5l := iteF hc27 h5l
              refine W_exit ?_
              obtain rfl := ho5 _ (Option.some.inj h5l).symm
              exact ⟨x15, x16, h, ⟨⟨Pr.le_rfl, Pr.le_rfl, Pr.le_rfl, Pr.le_rfl, trivial⟩, Pick.refl _⟩⟩
          · refine W_draw 21 hmx (by kernel_rfl) (by kernel_rfl) ?_
            refine qq (out := Pr.i64 x15) qMove ?_
            refine qq (out := Pr.lst (Rp.int .i64) x1) qMove ?_
            refine qq (out := Pr.i64 (x1.length : Int)) (qLenL rfl Tryz.underlying83) ?_
            refine qq (out := Pr.bool (decide (x15 < (x1.length : Int)))) qInt ?_
            refine qq (out := Pr.bool (decide (x15 < (x1.length : Int)))) qMove ?_
            rcases iteSome h5l with ⟨hc19, h5l⟩ | ⟨hc19, h5l⟩
            · refine qqg hc19 (out := Pr.i64 x15) qMove ?_
              refine qqg hc19 (out := Pr.lst (Rp.int .i64) x2) qMove ?_
              refine qqg hc19 (out := Pr.i64 (x2.length : Int)) (qLenL rfl Tryz.underlying83) ?_
              refine qqg hc19 (out := Pr.bool (decide (x15 < (x2.length : Int)))) qInt ?_
              refine qq (out := Pr.bool (decide (x15 < (x2.length : Int)))) (qPickT hc19) ?_
              refine qq (out := Pr.bool (decide (x15 < (x2.length : Int)))) qMove ?_
              rcases iteSome h5l with ⟨hc20, h5l⟩ | ⟨hc20, h5l⟩
              · refine qqg hc20 (out := Pr.lst (Rp.int .i64) x1) qMove ?_
                refine qqg hc20 (out := Pr.i64 x15) qMove ?_
                obtain ⟨x21, hx21, h5l⟩ := bindSome h5l
                refine qqg hc20 (out := Pr.cpt (Rp.int .i64) x21) (qIdxA (R := Rp.int .i64) (l := x1) Tryz.underlying83 Tryz.sizeOf3 hx21) ?_
                refine qqg hc20 (out := Pr.i64 x21) (qLoadC (R := Rp.int .i64) (a := x21) ty3) ?_
                refine qqg hc20 (out := Pr.lst (Rp.int .i64) x2) qMove ?_
                refine qqg hc20 (out := Pr.i64 x15) qMove ?_
                obtain ⟨x22, hx22, h5l⟩ := bindSome h5l
                refine qqg hc20 (out := Pr.cpt (Rp.int .i64) x22) (qIdxA (R := Rp.int .i64) (l := x2) Tryz.underlying83 Tryz.sizeOf3 hx22) ?_
                refine qqg hc20 (out := Pr.i64 x22) (qLoadC (R := Rp.int .i64) (a := x22) ty3) ?_
                refine qqg hc20 (out := Pr.bool (x21 == x22)) qInt ?_
                refine qq (out := Pr.bool (x21 == x22)) (qPickT hc20) ?_
                exact ⟨x21 == x22, h5l, ⟨⟨Pr.le_rfl, Pr.le_rfl, Pr.le_rfl, Pr.le_rfl, Pr.le_rfl, trivial⟩, Pick.refl _⟩⟩
              · refine qqno (neT hc20) ?_
                refine qqno (neT hc20) ?_
                refine qqno (neT hc20) ?_
                refine qqno (neT hc20) ?_
                refine qqno (neT hc20) ?_
                refine qqno (neT hc20) ?_
                refine qqno (neT hc20) ?_
                refine qqno (neT hc20) ?_
                refine qqno (neT hc20) ?_
                refine qq (out := Pr.bool false) (qPickF hc20) ?_
                exact ⟨false, h5l, ⟨⟨Pr.le_rfl, Pr.le_rfl, Pr.le_rfl, Pr.le_rfl, Pr.le_rfl, trivial⟩, Pick.refl _⟩⟩
            · refine qqno (neT hc19) ?_
              refine qqno (neT hc19) ?_
              refine qqno (neT hc19) ?_
              refine qqno (neT hc19) ?_
              refine qq (out := Pr.bool false) (qPickF hc19) ?_
              refine qq (out := Pr.bool false) qMove ?_
              have hc23 : false = false := rfl
              refine qqno (neT hc23) ?_
              refine qqno (neT hc23) ?_
              refine qqno (neT hc23) ?_
              refine qqno (neT hc23) ?_
              refine qqno (neT hc23) ?_
              refine qqno (neT hc23) ?_
              refine qqno (neT hc23) ?_
              refine qqno (neT hc23) ?_
              refine qqno (neT hc23) ?_
              refine qq (out := Pr.bool false) (qPickF hc23) ?_
              exact ⟨false, h5l, ⟨⟨Pr.le_rfl, Pr.le_rfl, Pr.le_rfl, Pr.le_rfl, Pr.le_rfl, trivial⟩, Pick.refl _⟩⟩
      · replace h := iteF hc14 h
        refine W_skip ?_
        refine W_rs ?_
        refine rq (out := Pr.lst (Rp.int .i64) x1) qMove ?_
        refine rq (out := Pr.lst (Rp.int .i64) x2) qMove ?_
        obtain ⟨x43, hx43, h⟩ := bindSome h
        refine rq (out := Pr.lst (Rp.list (Rp.int .i64)) x43) (qCall (ref05_table_ok x1 x2 _ hx43)) ?_
        refine rq (out := Pr.lst (Rp.list (Rp.int .i64)) x43) qAssign ?_
        refine W_rs ?_
        refine rq (out := Pr.i64 0) qAssign ?_
        refine W_rs ?_
        refine rq (out := Pr.i64 0) qAssign ?_
        refine W_seq ?_
        refine W_block ?_
        obtain ⟨z8l, hz8, h⟩ := bindSome h
        obtain ⟨n8, hN8⟩ := iter_some hz8
        clear hz8
        refine W_after 6 (fun e C => ∃ (x46 : List Int), ref05_Match_k7 x46 = some r ∧ At [(5, Pr.is v3)] [Own.vec v3 (Rp.int .i64) x46 3] e C) ?_ ?_
        · rintro e C ⟨x46, h, hat7⟩
          refine W_at hat7 ?_
          clear hat7
          unfold ref05_Match_k7 at h
          refine W_rs ?_
          refine rq (out := Pr.is v3) qMove ?_
          refine rq (out := Pr.is v3) qAssign ?_
          refine W_rel 0 [4] ?_ rfl ⟨rfl, trivial⟩
          obtain rfl := Option.some.inj h
          exact W_ret ⟨rfl, Pr.le_rfl⟩
        · refine W_loop (fun m e C => ∃ (x44 : Int), ∃ (x45 : Int), ∃ (x46 : List Int), IterN (fun s => ref05_Match_l8 x1 x2 x43 s.1 s.2.1 s.2.2) m (x44, x45, x46) = some z8l ∧ At [(0, Pr.lst (Rp.int .i64) x1), (1, Pr.lst (Rp.int .i64) x2), (5, Pr.is v3), (9, Pr.lst (Rp.list (Rp.int .i64)) x43), (10, Pr.i64 x44), (11, Pr.i64 x45)] [Own.vec v3 (Rp.int .i64) x46 3] e C) n8 ⟨0, 0, x5, hN8, ⟨⟨Pr.le_rfl, Pr.le_rfl, Pr.le_rfl, Pr.le_rfl, Pr.le_rfl, Pr.le_rfl, trivial⟩, Pick.refl _⟩⟩ ?_
          clear hN8
          rintro m e C ⟨x44, x45, x46, hN8, hatl8⟩
          refine W_at hatl8 ?_
          clear hatl8
          obtain ⟨m8, w8l, rfl, h8l, hn8, ho8⟩ := iterN_some hN8
          clear hN8
          replace h8l : ref05_Match_l8 x1 x2 x43 x44 x45 x46 = some w8l := h8l
          unfold ref05_Match_l8 at h8l
          refine W_seq ?_
          refine W_join (fun e C => ∃ (x51 : Bool), ref05_Match_j11 x1 x44 x2 x45 x46 x43 x51 = some w8l ∧ At [(0, Pr.lst (Rp.int .i64) x1), (1, Pr.lst (Rp.int .i64) x2), (5, Pr.is v3), (9, Pr.lst (Rp.list (Rp.int .i64)) x43), (10, Pr.i64 x44), (11, Pr.i64 x45), (116, Pr.bool x51)] [Own.vec v3 (Rp.int .i64) x46 3] e C) ?_ ?_
          · rintro e C ⟨x51, h8l, hat11⟩
            refine W_at hat11 ?_
            clear hat11
            unfold ref05_Match_j11 at h8l
            refine W_cond (b := x51) rfl (fun hc52 => ?_) (fun hc52 => ?_)
            · replace h8l := iteT hc52 h8l
              refine W_skip ?_
              refine W_block ?_
              refine W_block ?_
              refine W_join (fun e C => ∃ (x53 : Int), ∃ (x54 : Int), ref05_Match_j10 x46 x44 x45 x43 x53 x54 = some w8l ∧ At [(0, Pr.lst (Rp.int .i64) x1), (1, Pr.lst (Rp.int .i64) x2), (5, Pr.is v3), (9, Pr.lst (Rp.list (Rp.int .i64)) x43), (10, Pr.i64 x44), (11, Pr.i64 x45), (119, Pr.bool (x53 == x54))] [Own.vec v3 (Rp.int .i64) x46 3] e C) ?_ ?_
              · rintro e C ⟨x53, x54, h8l, hat10⟩
                refine W_at hat10 ?_
                clear hat10
                unfold ref05_Match_j10 at h8l
                refine W_cond (b := x53 == x54) rfl (fun hc55 => ?_) (fun hc55 => ?_)
                · replace h8l := iteT hc55 h8l
                  refine W_rs ?_
                  refine rq (out := Pr.is v3) qMove ?_
                  refine rq (out := Pr.i64 x44) qMove ?_
                  refine rq (out := Pr.i64 x45) qMove ?_
                  obtain ⟨x56, hx56, h8l⟩ := bindSome h8l
                  refine rq (out := Pr.vpt v3 (Int.toNat x44 * (Rp.int .i64).size)) (qIdxV 0 (R := Rp.int .i64) (l := x46) Tryz.underlying83 Tryz.sizeOf3 hx56) ?_
                  refine rStoreE (R := Rp.int .i64) (R' := Rp.int .i64) (l := x46) (a := x56) (y := x45) (o := 0) 0 Tryz.sizeOf3 (Upd.refl _) hx56 rfl ?_
                  refine W_rs ?_
                  refine rq (out := Pr.i64 x44) qMove ?_
                  refine rq (out := Pr.i64 (w64 (x44 + 1))) qInt ?_
                  refine rq (out := Pr.i64 (w64 (x44 + 1))) qAssign ?_
                  refine W_r ?_
                  refine rq (out := Pr.i64 x45) qMove ?_
                  refine rq (out := Pr.i64 (w64 (x45 + 1))) qInt ?_
                  refine rq (out := Pr.i64 (w64 (x45 + 1))) qAssign ?_
                  exact ⟨m8, Nat.lt_succ_self _, w64 (x44 + 1), w64 (x45 + 1), (List.set x46 (Int.toNat x44) x45), hn8 _ (Option.some.inj h8l).symm, ⟨⟨Pr.le_rfl, Pr.le_rfl, Pr.le_rfl, Pr.le_rfl, Pr.le_rfl, Pr.le_rfl, trivial⟩, Pick.refl _⟩⟩
                · replace h8l := iteF hc55 h8l
                  refine W_join (fun e C => ∃ (x58 : Int), ∃ (x60 : Int), ref05_Match_j9 x44 x45 x46 x58 x60 = some w8l ∧ At [(0, Pr.lst (Rp.int .i64) x1), (1, Pr.lst (Rp.int .i64) x2), (5, Pr.is v3), (9, Pr.lst (Rp.list (Rp.int .i64)) x43), (10, Pr.i64 x44), (11, Pr.i64 x45), (137, Pr.bool (decide (x58 ≥ x60)))] [Own.vec v3 (Rp.int .i64) x46 3] e C) ?_ ?_
                  · rintro e C ⟨x58, x60, h8l, hat9⟩
                    refine W_at hat9 ?_
                    clear hat9
                    unfold ref05_Match_j9 at h8l
                    refine W_cond (b := decide (x58 ≥ x60)) rfl (fun hc61 => ?_) (fun hc61 => ?_)
                    · replace h8l := iteT hc61 h8l
                      refine W_r ?_
                      refine rq (out := Pr.i64 x44) qMove ?_
                      refine rq (out := Pr.i64 (w64 (x44 + 1))) qInt ?_
                      refine rq (out := Pr.i64 (w64 (x44 + 1))) qAssign ?_
                      exact ⟨m8, Nat.lt_succ_self _, w64 (x44 + 1), x45, x46, hn8 _ (Option.some.inj h8l).symm, ⟨⟨Pr.le_rfl, Pr.le_rfl, Pr.le_rfl, Pr.le_rfl, Pr.le_rfl, Pr.le_rfl, trivial⟩, Pick.refl _⟩⟩
                    · replace h8l := iteF hc61 h8l
                      refine W_r ?_
                      refine rq (out := Pr.i64 x45) qMove ?_
                      refine rq (out := Pr.i64 (w64 (x45 + 1))) qInt ?_
                      refine rq (out := Pr.i64 (w64 (x45 + 1))) qAssign ?_
                      exact ⟨m8, Nat.lt_succ_self _, x44, w64 (x45 + 1), x46, hn8 _ (Option.some.inj h8l).symm, ⟨⟨Pr.le_rfl, Pr.le_rfl, Pr.le_rfl, Pr.le_rfl, Pr.le_rfl, Pr.le_rfl, trivial⟩, Pick.refl _⟩⟩
                  · refine W_draw 18 hmx (by kernel_rfl) (by kernel_rfl) ?_
                    refine qq (out := Pr.lst (Rp.list (Rp.int .i64)) x43) qMove ?_
                    refine qq (out := Pr.i64 x44) qMove ?_
                    refine qq (out := Pr.i64 (w64 (x44 + 1))) qInt ?_
                    obtain ⟨x57, hx57, h8l⟩ := bindSome h8l
                    refine qq (out := Pr.cpt (Rp.list (Rp.int .i64)) x57) (qIdxA (R := Rp.list (Rp.int .i64)) (l := x43) Tryz.underlying79 Tryz.sizeOf83 hx57) ?_
                    refine qq (out := Pr.lst (Rp.int .i64) x57) (qLoadC (R := Rp.list (Rp.int .i64)) (a := x57) ty83) ?_
                    refine qq (out := Pr.i64 x45) qMove ?_
                    obtain ⟨x58, hx58, h8l⟩ := bindSome h8l
                    refine qq (out := Pr.cpt (Rp.int .i64) x58) (qIdxA (R := Rp.int .i64) (l := x57) Tryz.underlying83 Tryz.sizeOf3 hx58) ?_
                    refine qq (out := Pr.i64 x58) (qLoadC (R := Rp.int .i64) (a := x58) ty3) ?_
                    refine qq (out := Pr.lst (Rp.list (Rp.int .i64)) x43) qMove ?_
                    refine qq (out := Pr.i64 x44) qMove ?_
                    obtain ⟨x59, hx59, h8l⟩ := bindSome h8l
                    refine qq (out := Pr.cpt (Rp.list (Rp.int .i64)) x59) (qIdxA (R := Rp.list (Rp.int .i64)) (l := x43) Tryz.underlying79 Tryz.sizeOf83 hx59) ?_
                    refine qq (out := Pr.lst (Rp.int .i64) x59) (qLoadC (R := Rp.list (Rp.int .i64)) (a := x59) ty83) ?_
                    refine qq (out := Pr.i64 x45) qMove ?_
                    refine qq (out := Pr.i64 (w64 (x45 + 1))) qInt ?_
                    obtain ⟨x60, hx60, h8l⟩ := bindSome h8l
                    refine qq (out := Pr.cpt (Rp.int .i64) x60) (qIdxA (R := Rp.int .i64) (l := x59) Tryz.underlying83 Tryz.sizeOf3 hx60) ?_
                    refine qq (out := Pr.i64 x60) (qLoadC (R := Rp.int .i64) (a := x60) ty3) ?_
                    refine qq (out := Pr.bool (decide (x58 ≥ x60))) qInt ?_
                    refine qq (out := Pr.bool (decide (x58 ≥ x60))) qAssign ?_
                    exact ⟨x58, x60, h8l, ⟨⟨Pr.le_rfl, Pr.le_rfl, Pr.le_rfl, Pr.le_rfl, Pr.le_rfl, Pr.le_rfl, Pr.le_rfl, trivial⟩, Pick.refl _⟩⟩
              · refine W_draw 10 hmx (by kernel_rfl) (by kernel_rfl) ?_
                refine qq (out := Pr.lst (Rp.int .i64) x1) qMove ?_
                refine qq (out := Pr.i64 x44) qMove ?_
                obtain ⟨x53, hx53, h8l⟩ := bindSome h8l
                refine qq (out := Pr.cpt (Rp.int .i64) x53) (qIdxA (R := Rp.int .i64) (l := x1) Tryz.underlying83 Tryz.sizeOf3 hx53) ?_
                refine qq (out := Pr.i64 x53) (qLoadC (R := Rp.int .i64) (a := x53) ty3) ?_
                refine qq (out := Pr.lst (Rp.int .i64) x2) qMove ?_
                refine qq (out := Pr.i64 x45) qMove ?_
                obtain ⟨x54, hx54, h8l⟩ := bindSome h8l
                refine qq (out := Pr.cpt (Rp.int .i64) x54) (qIdxA (R := Rp.int .i64) (l := x2) Tryz.underlying83 Tryz.sizeOf3 hx54) ?_
                refine qq (out := Pr.i64 x54) (qLoadC (R := Rp.int .i64) (a := x54) ty3) ?_
                refine qq (out := Pr.bool (x53 == x54)) qInt ?_
                refine qq (out := Pr.bool (x53 == x54)) qAssign ?_
                exact ⟨x53, x54, h8l, ⟨⟨Pr.le_rfl, Pr.le_rfl, Pr.le_rfl, Pr.le_rfl, Pr.le_rfl, Pr.le_rfl, Pr.le_rfl, trivial⟩, Pick.refl _⟩⟩
            · replace h8l := iteF hc52 h8l
              refine W_exit ?_
              obtain rfl := ho8 _ (Option.some.inj h8l).symm
              exact ⟨x46, h, ⟨⟨Pr.le_rfl, trivial⟩, Pick.refl _⟩⟩
          · refine W_r ?_
            refine rq (out := Pr.i64 x44) qMove ?_
            refine rq (out := Pr.lst (Rp.int .i64) x1) qMove ?_
            refine rq (out := Pr.i64 (x1.length : Int)) (qLenL rfl Tryz.underlying83) ?_
            refine rq (out := Pr.bool (decide (x44 < (x1.length : Int)))) qInt ?_
            refine rq (out := Pr.bool (decide (x44 < (x1.length : Int)))) qMove ?_
            rcases iteSome h8l with ⟨hc50, h8l⟩ | ⟨hc50, h8l⟩
            · refine rqg hc50 (out := Pr.i64 x45) qMove ?_
              refine rqg hc50 (out := Pr.lst (Rp.int .i64) x2) qMove ?_
              refine rqg hc50 (out := Pr.i64 (x2.length : Int)) (qLenL rfl Tryz.underlying83) ?_
              refine rqg hc50 (out := Pr.bool (decide (x45 < (x2.length : Int)))) qInt ?_
              refine rq (out := Pr.bool (decide (x45 < (x2.length : Int)))) (qPickT hc50) ?_
              exact ⟨decide (x45 < (x2.length : Int)), h8l, ⟨⟨Pr.le_rfl, Pr.le_rfl, Pr.le_rfl, Pr.le_rfl, Pr.le_rfl, Pr.le_rfl, Pr.le_rfl, trivial⟩, Pick.refl _⟩⟩
            · refine rno (neT hc50) ?_
              refine rno (neT hc50) ?_
              refine rno (neT hc50) ?_
              refine rno (neT hc50) ?_
              refine rq (out := Pr.bool false) (qPickF hc50) ?_
              exact ⟨false, h8l, ⟨⟨Pr.le_rfl, Pr.le_rfl, Pr.le_rfl, Pr.le_rfl, Pr.le_rfl, Pr.le_rfl, Pr.le_rfl, trivial⟩, Pick.refl _⟩⟩
    · refine W_r ?_
      refine rq (out := Pr.lst (Rp.int .i64) x1) qMove ?_
      refine rq (out := Pr.i64 (x1.length : Int)) (qLenL rfl Tryz.underlying83) ?_
      refine rq (out := Pr.bool (decide ((x1.length : Int) > 2000))) qInt ?_
      refine rq (out := Pr.bool (decide ((x1.length : Int) > 2000))) qMove ?_
      rcases iteSome h with ⟨hc12, h⟩ | ⟨hc12, h⟩
      · refine rno (neF hc12) ?_
        refine rno (neF hc12) ?_
        refine rno (neF hc12) ?_
        refine rq (out := Pr.bool true) (qPickT hc12) ?_
        exact ⟨true, h, ⟨⟨Pr.le_rfl, Pr.le_rfl, Pr.le_rfl, Pr.le_rfl, trivial⟩, Pick.refl _⟩⟩
      · refine rqg hc12 (out := Pr.lst (Rp.int .i64) x2) qMove ?_
        refine rqg hc12 (out := Pr.i64 (x2.length : Int)) (qLenL rfl Tryz.underlying83) ?_
        refine rqg hc12 (out := Pr.bool (decide ((x2.length : Int) > 2000))) qInt ?_
        refine rq (out := Pr.bool (decide ((x2.length : Int) > 2000))) (qPickF hc12) ?_
        exact ⟨decide ((x2.length : Int) > 2000), h, ⟨⟨Pr.le_rfl, Pr.le_rfl, Pr.le_rfl, Pr.le_rfl, trivial⟩, Pick.refl _⟩⟩
  · refine W_nil [5] (Rp.int .i64) 3 (fun v62 => ?_) ⟨rfl, trivial⟩
    refine W_loop (fun m e C => ∃ (x4 : Int), ∃ (x5 : List Int), ∃ (v3 : Value), IterN (fun s => ref05_Match_l14 x1 s.1 s.2) m (x4, x5) = some z14l ∧ At [(0, Pr.lst (Rp.int .i64) x1), (1, Pr.lst (Rp.int .i64) x2), (5, Pr.is v3), (6, Pr.i64 x4)] [Own.vec v3 (Rp.int .i64) x5 3] e C) n14 ⟨0, [], v62, hN14, ⟨⟨Pr.le_rfl, Pr.le_rfl, Pr.le_rfl, Pr.le_rfl, trivial⟩, Pick.refl _⟩⟩ ?_
    clear hN14
    rintro m e C ⟨x4, x5, v3, hN14, hatl14⟩
    refine W_at hatl14 ?_
    clear hatl14
    obtain ⟨m14, w14l, rfl, h14l, hn14, ho14⟩ := iterN_some hN14
    clear hN14
    replace h14l : ref05_Match_l14 x1 x4 x5 = some w14l := h14l
    unfold ref05_Match_l14 at h14l
    refine W_seq ?_
    refine W_rs ?_
    refine rq (out := Pr.i64 x4) qMove ?_
    refine rq (out := Pr.lst (Rp.int .i64) x1) qMove ?_
    refine rq (out := Pr.i64 (x1.length : Int)) (qLenL rfl Tryz.underlying83) ?_
    refine rq (out := Pr.bool (decide (x4 < (x1.length : Int)))) qInt ?_
    refine W_cond (b := decide (x4 < (x1.length : Int))) rfl (fun hc9 => ?_) (fun hc9 => ?_)
    · replace h14l := iteT hc9 h14l
      refine W_skip ?_
      refine W_seq ?_
      refine W_block ?_
      refine W_r ?_
      refine rq (out := Pr.is v3) qMove ?_
      refine rq (out := Pr.lst (Rp.int .i64) ([(-1)] : List Int)) (qBuildSlice1 (R := Rp.int .i64) (a := (-1)) el83 (Nat.le_of_ble_eq_true rfl)) ?_
      obtain ⟨x10, hx10, h14l⟩ := bindSome h14l
      refine rAppend' 0 el83 hx10 (fun v11 => ?_)
      refine rq (out := Pr.is v11) qAssign ?_
      refine W_r ?_
      refine rq (out := Pr.i64 x4) qMove ?_
      refine rq (out := Pr.i64 (w64 (x4 + 1))) qInt ?_
      refine rq (out := Pr.i64 (w64 (x4 + 1))) qAssign ?_
      exact ⟨m14, Nat.lt_succ_self _, w64 (x4 + 1), x10, v11, hn14 _ (Option.some.inj h14l).symm, ⟨⟨Pr.le_rfl, Pr.le_rfl, Pr.le_rfl, Pr.le_rfl, trivial⟩, Pick.refl _⟩⟩
    · replace h14l := iteF hc9 h14l
      refine W_exit ?_
      obtain rfl := ho14 _ (Option.some.inj h14l).symm
      exact ⟨x5, v3, h, ⟨⟨Pr.le_rfl, Pr.le_rfl, Pr.le_rfl, trivial⟩, Pick.refl _⟩⟩
theorem ref05_Same_ok (x1 : List Int) (x2 : List Int) (r : Bool) (h : ref05_Same x1 x2 = some r) : FnP Tryz.prog 75 [Pr.lst (Rp.int .i64) x1, Pr.lst (Rp.int .i64) x2] (Pr.bool r) := by
  refine fn_intro (n := 26) (rs := [4]) Tryz.func75 rfl Tryz.ntmps75 ⟨by decide, Tryz.results75⟩ (by decide) (fun s0 => ?_)
  unfold ref05_Same at h
  refine W_rs ?_
  refine rq (out := Pr.bool false) qAssign ?_
  refine W_seq ?_
  refine W_rs ?_
  refine rq (out := Pr.lst (Rp.int .i64) x1) qMove ?_
  refine rq (out := Pr.i64 (x1.length : Int)) (qLenL rfl Tryz.underlying83) ?_
  refine rq (out := Pr.lst (Rp.int .i64) x2) qMove ?_
  refine rq (out := Pr.i64 (x2.length : Int)) (qLenL rfl Tryz.underlying83) ?_
  refine rq (out := Pr.bool ((x1.length : Int) != (x2.length : Int))) qInt ?_
  refine W_cond (b := (x1.length : Int) != (x2.length : Int)) rfl (fun hc3 => ?_) (fun hc3 => ?_)
  · replace h := iteT hc3 h
    refine W_rs ?_
    refine rq (out := Pr.bool false) qAssign ?_
    obtain rfl := Option.some.inj h
    exact W_ret ⟨rfl, Pr.le_rfl⟩
  · replace h := iteF hc3 h
    refine W_skip ?_
    refine W_seq ?_
    refine W_rs ?_
    refine rq (out := Pr.i64 0) qAssign ?_
    refine W_block ?_
    obtain ⟨z2l, hz2, h⟩ := bindSome h
    obtain ⟨n2, hN2⟩ := iter_some hz2
    clear hz2
    refine W_after 0 (fun e C => ref05_Same_k1 = some r ∧ At [] [] e C) ?_ ?_
    · rintro e C ⟨h, hat1⟩
      refine W_at hat1 ?_
      clear hat1
      unfold ref05_Same_k1 at h
      refine W_rs ?_
      refine rq (out := Pr.bool true) qAssign ?_
      obtain rfl := Option.some.inj h
      exact W_ret ⟨rfl, Pr.le_rfl⟩
    · refine W_loop (fun m e C => ∃ (x4 : Int), IterN (fun s => ref05_Same_l2 x1 x2 s) m x4 = some z2l ∧ At [(0, Pr.lst (Rp.int .i64) x1), (1, Pr.lst (Rp.int .i64) x2), (5, Pr.i64 x4)] [] e C) n2 ⟨0, hN2, ⟨⟨Pr.le_rfl, Pr.le_rfl, Pr.le_rfl, trivial⟩, Pick.refl _⟩⟩ ?_
      clear hN2
      rintro m e C ⟨x4, hN2, hatl2⟩
      refine W_at hatl2 ?_
      clear hatl2
      obtain ⟨m2, w2l, rfl, h2l, hn2, ho2⟩ := iterN_some hN2
      clear hN2
      replace h2l : ref05_Same_l2 x1 x2 x4 = some w2l := h2l
      unfold ref05_Same_l2 at h2l
      refine W_seq ?_
      refine W_rs ?_
      refine rq (out := Pr.i64 x4) qMove ?_
      refine rq (out := Pr.lst (Rp.int .i64) x1) qMove ?_
      refine rq (out := Pr.i64 (x1.length : Int)) (qLenL rfl Tryz.underlying83) ?_
      refine rq (out := Pr.bool (decide (x4 < (x1.length : Int)))) qInt ?_
      refine W_cond (b := decide (x4 < (x1.length : Int))) rfl (fun hc6 => ?_) (fun hc6 => ?_)
      · replace h2l := iteT hc6 h2l
        refine W_skip ?_
        refine W_seq ?_
        refine W_block ?_
        refine W_join (fun e C => ∃ (x7 : Int), ∃ (x8 : Int), ref05_Same_j3 x4 x7 x8 = some w2l ∧ At [(0, Pr.lst (Rp.int .i64) x1), (1, Pr.lst (Rp.int .i64) x2), (5, Pr.i64 x4), (25, Pr.bool (x7 != x8))] [] e C) ?_ ?_
        · rintro e C ⟨x7, x8, h2l, hat3⟩
          refine W_at hat3 ?_
          clear hat3
          unfold ref05_Same_j3 at h2l
          refine W_cond (b := x7 != x8) rfl (fun hc9 => ?_) (fun hc9 => ?_)
          · replace h2l := iteT hc9 h2l
            refine W_rs ?_
            refine rq (out := Pr.bool false) qAssign ?_
            obtain rfl := ho2 _ (Option.some.inj h2l).symm
            replace h : some false = some r := h
            obtain rfl := Option.some.inj h
            exact W_ret ⟨rfl, Pr.le_rfl⟩
          · replace h2l := iteF hc9 h2l
            refine W_skip ?_
            refine W_r ?_
            refine rq (out := Pr.i64 x4) qMove ?_
            refine rq (out := Pr.i64 (w64 (x4 + 1))) qInt ?_
            refine rq (out := Pr.i64 (w64 (x4 + 1))) qAssign ?_
            exact ⟨m2, Nat.lt_succ_self _, w64 (x4 + 1), hn2 _ (Option.some.inj h2l).symm, ⟨⟨Pr.le_rfl, Pr.le_rfl, Pr.le_rfl, trivial⟩, Pick.refl _⟩⟩
        · refine W_draw 9 hmx (by kernel_rfl) (by kernel_rfl) ?_
          refine qq (out := Pr.lst (Rp.int .i64) x1) qMove ?_
          refine qq (out := Pr.i64 x4) qMove ?_
          obtain ⟨x7, hx7, h2l⟩ := bindSome h2l
          refine qq (out := Pr.cpt (Rp.int .i64) x7) (qIdxA (R := Rp.int .i64) (l := x1) Tryz.underlying83 Tryz.sizeOf3 hx7) ?_
          refine qq (out := Pr.i64 x7) (qLoadC (R := Rp.int .i64) (a := x7) ty3) ?_
          refine qq (out := Pr.lst (Rp.int .i64) x2) qMove ?_
          refine qq (out := Pr.i64 x4) qMove ?_
          obtain ⟨x8, hx8, h2l⟩ := bindSome h2l
          refine qq (out := Pr.cpt (Rp.int .i64) x8) (qIdxA (R := Rp.int .i64) (l := x2) Tryz.underlying83 Tryz.sizeOf3 hx8) ?_
          refine qq (out := Pr.i64 x8) (qLoadC (R := Rp.int .i64) (a := x8) ty3) ?_
          refine qq (out := Pr.bool (x7 != x8)) qInt ?_
          exact ⟨x7, x8, h2l, ⟨⟨Pr.le_rfl, Pr.le_rfl, Pr.le_rfl, Pr.le_rfl, trivial⟩, Pick.refl _⟩⟩
      · replace h2l := iteF hc6 h2l
        refine W_exit ?_
        obtain rfl := ho2 _ (Option.some.inj h2l).symm
        exact ⟨h, ⟨trivial, Pick.refl _⟩⟩
theorem ref07_kind_ok (x1 : List Int) (x2 : List Int) (x3 : List Int) (r : Int) (h : ref07_kind x1 x2 x3 = some r) : FnP Tryz.prog 63 [Pr.lst (Rp.int .i64) x1, Pr.lst (Rp.int .i64) x2, Pr.lst (Rp.int .i64) x3] (Pr.i64 r) := by
  refine fn_intro (n := 32) (rs := [6]) Tryz.func63 rfl Tryz.ntmps63 ⟨by decide, Tryz.results63⟩ (by decide) (fun s0 => ?_)
  unfold ref07_kind at h
  refine W_rs ?_
  refine rq (out := Pr.i64 0) qAssign ?_
  refine W_rs ?_
  refine rq (out := Pr.lst (Rp.int .i64) x1) qMove ?_
  refine rq (out := Pr.lst (Rp.int .i64) x2) qMove ?_
  obtain ⟨x4, hx4, h⟩ := bindSome h
  refine rq (out := Pr.bool x4) (qCall (ref05_Same_ok x1 x2 _ hx4)) ?_
  refine rq (out := Pr.bool (!x4)) qNot ?_
  refine rq (out := Pr.bool (!x4)) qAssign ?_
  refine W_rs ?_
  refine rq (out := Pr.lst (Rp.int .i64) x1) qMove ?_
  refine rq (out := Pr.lst (Rp.int .i64) x3) qMove ?_
  obtain ⟨x5, hx5, h⟩ := bindSome h
  refine rq (out := Pr.bool x5) (qCall (ref05_Same_ok x1 x3 _ hx5)) ?_
  refine rq (out := Pr.bool (!x5)) qNot ?_
  refine rq (out := Pr.bool (!x5)) qAssign ?_
  refine W_seq ?_
  refine W_join (fun e C => ∃ (x7 : Bool), ref07_kind_j1 x4 x5 x2 x3 x7 = some r ∧ At [(1, Pr.lst (Rp.int .i64) x2), (2, Pr.lst (Rp.int .i64) x3), (7, Pr.bool (!x4)), (8, Pr.bool (!x5)), (23, Pr.bool x7)] [] e C) ?_ ?_
  · rintro e C ⟨x7, h, hat1⟩
    refine W_at hat1 ?_
    clear hat1
    unfold ref07_kind_j1 at h
    refine W_cond (b := x7) rfl (fun hc8 => ?_) (fun hc8 => ?_)
    · replace h := iteT hc8 h
      refine W_rs ?_
      refine rq (out := Pr.i64 0) qAssign ?_
      obtain rfl := Option.some.inj h
      exact W_ret ⟨rfl, Pr.le_rfl⟩
    · replace h := iteF hc8 h
      refine W_skip ?_
      refine W_seq ?_
      refine W_rs ?_
      refine rq (out := Pr.bool (!x4)) qMove ?_
      refine rq (out := Pr.bool (!(!x4))) qNot ?_
      refine W_cond (b := !(!x4)) rfl (fun hc9 => ?_) (fun hc9 => ?_)
      · replace h := iteT hc9 h
        refine W_rs ?_
        refine rq (out := Pr.i64 2) qAssign ?_
        obtain rfl := Option.some.inj h
        exact W_ret ⟨rfl, Pr.le_rfl⟩
      · replace h := iteF hc9 h
        refine W_skip ?_
        refine W_seq ?_
        refine W_rs ?_
        refine rq (out := Pr.bool (!x5)) qMove ?_
        refine rq (out := Pr.bool (!(!x5))) qNot ?_
        refine W_cond (b := !(!x5)) rfl (fun hc10 => ?_) (fun hc10 => ?_)
        · replace h := iteT hc10 h
          refine W_rs ?_
          refine rq (out := Pr.i64 1) qAssign ?_
          obtain rfl := Option.some.inj h
          exact W_ret ⟨rfl, Pr.le_rfl⟩
        · replace h := iteF hc10 h
          refine W_skip ?_
          refine W_rs ?_
          refine rq (out := Pr.lst (Rp.int .i64) x2) qMove ?_
          refine rq (out := Pr.lst (Rp.int .i64) x3) qMove ?_
          obtain ⟨x11, hx11, h⟩ := bindSome h
          refine rq (out := Pr.bool x11) (qCall (ref05_Same_ok x2 x3 _ hx11)) ?_
          refine rq (out := Pr.bool x11) qAssign ?_
          refine W_seq ?_
          refine W_rs ?_
          refine rq (out := Pr.bool x11) qMove ?_
          refine W_cond (b := x11) rfl (fun hc12 => ?_) (fun hc12 => ?_)
          · replace h := iteT hc12 h
            refine W_rs ?_
            refine rq (out := Pr.i64 3) qAssign ?_
            obtain rfl := Option.some.inj h
            exact W_ret ⟨rfl, Pr.le_rfl⟩
          · replace h := iteF hc12 h
            refine W_skip ?_
            refine W_rs ?_
            refine rq (out := Pr.i64 4) qAssign ?_
            obtain rfl := Option.some.inj h
            exact W_ret ⟨rfl, Pr.le_rfl⟩
  · refine W_r ?_
    refine rq (out := Pr.bool (!x4)) qMove ?_
    refine rq (out := Pr.bool (!(!x4))) qNot ?_
    refine rq (out := Pr.bool (!(!x4))) qMove ?_
    rcases iteSome h with ⟨hc6, h⟩ | ⟨hc6, h⟩
    · refine rqg hc6 (out := Pr.bool (!x5)) qMove ?_
      refine rqg hc6 (out := Pr.bool (!(!x5))) qNot ?_
      refine rq (out := Pr.bool (!(!x5))) (qPickT hc6) ?_
      exact ⟨!(!x5), h, ⟨⟨Pr.le_rfl, Pr.le_rfl, Pr.le_rfl, Pr.le_rfl, Pr.le_rfl, trivial⟩, Pick.refl _⟩⟩
    · refine rno (neT hc6) ?_
      refine rno (neT hc6) ?_
      refine rq (out := Pr.bool false) (qPickF hc6) ?_
      exact ⟨false, h, ⟨⟨Pr.le_rfl, Pr.le_rfl, Pr.le_rfl, Pr.le_rfl, Pr.le_rfl, trivial⟩, Pick.refl _⟩⟩
theorem ref07_Chunks_ok (x1 : List Int) (x2 : List Int) (x3 : List Int) (r : (List ApiChunk)) (h : ref07_Chunks x1 x2 x3 = some r) : FnP Tryz.prog 41 [Pr.lst (Rp.int .i64) x1, Pr.lst (Rp.int .i64) x2, Pr.lst (Rp.int .i64) x3] (Pr.lst rApiChunk r) := by
  refine fn_intro (n := 148) (rs := [6]) Tryz.func41 rfl Tryz.ntmps41 ⟨by decide, Tryz.results41⟩ (by decide) (fun s0 => ?_)
  unfold ref07_Chunks at h
  refine W_rs ?_
  refine rq (out := Pr.is (.slice none 0 0)) qAssign ?_
  refine W_rs ?_
  refine rq (out := Pr.lst (Rp.int .i64) x1) qMove ?_
  refine rq (out := Pr.lst (Rp.int .i64) x2) qMove ?_
  obtain ⟨x4, hx4, h⟩ := bindSome h
  refine rq (out := Pr.lst (Rp.int .i64) x4) (qCall (ref05_Match_ok x1 x2 _ hx4)) ?_
  refine rq (out := Pr.lst (Rp.int .i64) x4) qAssign ?_
  refine W_rs ?_
  refine rq (out := Pr.lst (Rp.int .i64) x1) qMove ?_
  refine rq (out := Pr.lst (Rp.int .i64) x3) qMove ?_
  obtain ⟨x5, hx5, h⟩ := bindSome h
  refine rq (out := Pr.lst (Rp.int .i64) x5) (qCall (ref05_Match_ok x1 x3 _ hx5)) ?_
  refine rq (out := Pr.lst (Rp.int .i64) x5) qAssign ?_
  refine W_rs ?_
  refine rq (out := Pr.is (.slice none 0 0)) qAssign ?_
  refine W_rs ?_
  refine rq (out := Pr.i64 0) qAssign ?_
  refine W_rs ?_
  refine rq (out := Pr.i64 0) qAssign ?_
  refine W_rs ?_
  refine rq (out := Pr.i64 0) qAssign ?_
  refine W_seq ?_
  refine W_block ?_
  obtain ⟨z2l, hz2, h⟩ := bindSome h
  obtain ⟨n2, hN2⟩ := iter_some hz2
  clear hz2
  refine W_after 0 (fun e C => ∃ (x10 : List ApiChunk), ∃ (v6 : Value), ref07_Chunks_k1 x10 = some r ∧ At [(9, Pr.is v6)] [Own.vec v6 rApiChunk x10 67] e C) ?_ ?_
  · rintro e C ⟨x10, v6, h, hat1⟩
    refine W_at hat1 ?_
    clear hat1
    unfold ref07_Chunks_k1 at h
    refine W_rs ?_
    refine rq (out := Pr.is v6) qMove ?_
    refine rq (out := Pr.is v6) qAssign ?_
    refine W_rel 0 [6] ?_ rfl ⟨rfl, trivial⟩
    obtain rfl := Option.some.inj h
    exact W_ret ⟨rfl, Pr.le_rfl⟩
  · refine W_nil [9] rApiChunk 67 (fun v52 => ?_) ⟨rfl, trivial⟩
    refine W_loop (fun m e C => ∃ (x7 : Int), ∃ (x8 : Int), ∃ (x9 : Int), ∃ (x10 : List ApiChunk), ∃ (v6 : Value), IterN (fun s => ref07_Chunks_l2 x1 x4 x5 x2 x3 s.1 s.2.1 s.2.2.1 s.2.2.2) m (x7, x8, x9, x10) = some z2l ∧ At [(0, Pr.lst (Rp.int .i64) x1), (1, Pr.lst (Rp.int .i64) x2), (2, Pr.lst (Rp.int .i64) x3), (7, Pr.lst (Rp.int .i64) x4), (8, Pr.lst (Rp.int .i64) x5), (9, Pr.is v6), (10, Pr.i64 x7), (11, Pr.i64 x8), (12, Pr.i64 x9)] [Own.vec v6 rApiChunk x10 67] e C) n2 ⟨0, 0, 0, [], v52, hN2, ⟨⟨Pr.le_rfl, Pr.le_rfl, Pr.le_rfl, Pr.le_rfl, Pr.le_rfl, Pr.le_rfl, Pr.le_rfl, Pr.le_rfl, Pr.le_rfl, trivial⟩, Pick.refl _⟩⟩ ?_
    clear hN2
    rintro m e C ⟨x7, x8, x9, x10, v6, hN2, hatl2⟩
    refine W_at hatl2 ?_
    clear hatl2
    obtain ⟨m2, w2l, rfl, h2l, hn2, ho2⟩ := iterN_some hN2
    clear hN2
    replace h2l : ref07_Chunks_l2 x1 x4 x5 x2 x3 x7 x8 x9 x10 = some w2l := h2l
    unfold ref07_Chunks_l2 at h2l
    refine W_seq ?_
    refine W_join (fun e C => ∃ (x19 : Bool), ref07_Chunks_j11 x7 x1 x4 x8 x5 x9 x2 x3 x10 x19 = some w2l ∧ At [(0, Pr.lst (Rp.int .i64) x1), (1, Pr.lst (Rp.int .i64) x2), (2, Pr.lst (Rp.int .i64) x3), (7, Pr.lst (Rp.int .i64) x4), (8, Pr.lst (Rp.int .i64) x5), (9, Pr.is v6), (10, Pr.i64 x7), (11, Pr.i64 x8), (12, Pr.i64 x9), (38, Pr.bool x19)] [Own.vec v6 rApiChunk x10 67] e C) ?_ ?_
    · rintro e C ⟨x19, h2l, hat11⟩
      refine W_at hat11 ?_
      clear hat11
      unfold ref07_Chunks_j11 at h2l
      refine W_cond (b := x19) rfl (fun hc20 => ?_) (fun hc20 => ?_)
      · replace h2l := iteT hc20 h2l
        refine W_skip ?_
        refine W_block ?_
        refine W_rs ?_
        refine rq (out := Pr.i64 0) qAssign ?_
        refine W_seq ?_
        refine W_block ?_
        obtain ⟨z9l, hz9, h2l⟩ := bindSome h2l
        obtain ⟨n9, hN9⟩ := iter_some hz9
        clear hz9
        refine W_after 2 (fun e C => ∃ (x21 : Int), ref07_Chunks_k8 x1 x4 x5 x7 x2 x8 x3 x9 x10 x21 = some w2l ∧ At [(0, Pr.lst (Rp.int .i64) x1), (1, Pr.lst (Rp.int .i64) x2), (2, Pr.lst (Rp.int .i64) x3), (7, Pr.lst (Rp.int .i64) x4), (8, Pr.lst (Rp.int .i64) x5), (9, Pr.is v6), (10, Pr.i64 x7), (11, Pr.i64 x8), (12, Pr.i64 x9), (13, Pr.i64 x21)] [Own.vec v6 rApiChunk x10 67] e C) ?_ ?_
        · rintro e C ⟨x21, h2l, hat8⟩
          refine W_at hat8 ?_
          clear hat8
          unfold ref07_Chunks_k8 at h2l
          refine W_rs ?_
          refine rq (out := Pr.i64 x7) qMove ?_
          refine rq (out := Pr.i64 x21) qMove ?_
          refine rq (out := Pr.i64 (w64 (x7 + x21))) qInt ?_
          refine rq (out := Pr.i64 (w64 (x7 + x21))) qAssign ?_
          refine W_rs ?_
          refine rq (out := Pr.i64 x8) qMove ?_
          refine rq (out := Pr.i64 x21) qMove ?_
          refine rq (out := Pr.i64 (w64 (x8 + x21))) qInt ?_
          refine rq (out := Pr.i64 (w64 (x8 + x21))) qAssign ?_
          refine W_rs ?_
          refine rq (out := Pr.i64 x9) qMove ?_
          refine rq (out := Pr.i64 x21) qMove ?_
          refine rq (out := Pr.i64 (w64 (x9 + x21))) qInt ?_
          refine rq (out := Pr.i64 (w64 (x9 + x21))) qAssign ?_
          refine W_join (fun e C => ∃ (x43 : Int), ∃ (x44 : Int), ∃ (x45 : Int), ref07_Chunks_j4 x1 x7 x2 x8 x3 x9 x10 x43 x44 x45 = some w2l ∧ At [(0, Pr.lst (Rp.int .i64) x1), (1, Pr.lst (Rp.int .i64) x2), (2, Pr.lst (Rp.int .i64) x3), (7, Pr.lst (Rp.int .i64) x4), (8, Pr.lst (Rp.int .i64) x5), (9, Pr.is v6), (10, Pr.i64 x7), (11, Pr.i64 x8), (12, Pr.i64 x9), (14, Pr.i64 x43), (15, Pr.i64 x44), (16, Pr.i64 x45)] [Own.vec v6 rApiChunk x10 67] e C) ?_ ?_
          · rintro e C ⟨x43, x44, x45, h2l, hat4⟩
            refine W_at hat4 ?_
            clear hat4
            unfold ref07_Chunks_j4 at h2l
            refine W_join (fun e C => ∃ (x50 : List ApiChunk), ∃ (v51 : Value), ref07_Chunks_j3 x43 x44 x45 x50 = some w2l ∧ At [(0, Pr.lst (Rp.int .i64) x1), (1, Pr.lst (Rp.int .i64) x2), (2, Pr.lst (Rp.int .i64) x3), (7, Pr.lst (Rp.int .i64) x4), (8, Pr.lst (Rp.int .i64) x5), (9, Pr.is v51), (14, Pr.i64 x43), (15, Pr.i64 x44), (16, Pr.i64 x45)] [Own.vec v51 rApiChunk x50 67] e C) ?_ ?_
            · rintro e C ⟨x50, v51, h2l, hat3⟩
              refine W_at hat3 ?_
              clear hat3
              unfold ref07_Chunks_j3 at h2l
              refine W_rs ?_
              refine rq (out := Pr.i64 x43) qMove ?_
              refine rq (out := Pr.i64 x43) qAssign ?_
              refine W_rs ?_
              refine rq (out := Pr.i64 x44) qMove ?_
              refine rq (out := Pr.i64 x44) qAssign ?_
              refine W_r ?_
              refine rq (out := Pr.i64 x45) qMove ?_
              refine rq (out := Pr.i64 x45) qAssign ?_
              exact ⟨m2, Nat.lt_succ_self _, x43, x44, x45, x50, v51, hn2 _ (Option.some.inj h2l).symm, ⟨⟨Pr.le_rfl, Pr.le_rfl, Pr.le_rfl, Pr.le_rfl, Pr.le_rfl, Pr.le_rfl, Pr.le_rfl, Pr.le_rfl, Pr.le_rfl, trivial⟩, Pick.refl _⟩⟩
            · refine W_draw 25 hmx (by kernel_rfl) (by kernel_rfl) ?_
              refine qq (out := Pr.is v6) qMove ?_
              refine qq (out := Pr.lst (Rp.int .i64) x1) qMove ?_
              refine qq (out := Pr.i64 x7) qMove ?_
              refine qq (out := Pr.i64 x43) qMove ?_
              obtain ⟨x46, hx46, h2l⟩ := bindSome h2l
              refine qq (out := Pr.lst (Rp.int .i64) x46) (qLSubLH Tryz.underlying83 Tryz.sizeOf3 hx46) ?_
              refine qq (out := Pr.lst (Rp.int .i64) x2) qMove ?_
              refine qq (out := Pr.i64 x8) qMove ?_
              refine qq (out := Pr.i64 x44) qMove ?_
              obtain ⟨x47, hx47, h2l⟩ := bindSome h2l
              refine qq (out := Pr.lst (Rp.int .i64) x47) (qLSubLH Tryz.underlying83 Tryz.sizeOf3 hx47) ?_
              refine qq (out := Pr.lst (Rp.int .i64) x3) qMove ?_
              refine qq (out := Pr.i64 x9) qMove ?_
              refine qq (out := Pr.i64 x45) qMove ?_
              obtain ⟨x48, hx48, h2l⟩ := bindSome h2l
              refine qq (out := Pr.lst (Rp.int .i64) x48) (qLSubLH Tryz.underlying83 Tryz.sizeOf3 hx48) ?_
              obtain ⟨x49, hx49, h2l⟩ := bindSome h2l
              refine qq (out := Pr.i64 x49) (qCall (ref07_kind_ok x46 x47 x48 _ hx49)) ?_
              refine qq (out := Pr.i64 x7) qMove ?_
              refine qq (out := Pr.i64 x43) qMove ?_
              refine qq (out := (rApiSpan).val (ApiSpan.mk x7 x43)) (qBuild st65 ⟨(ApiSpan.mk x7 0), ⟨_, rfl, rfl, fun j fd hj hf => by match j, hj with | 0, h => exact absurd rfl h | 1, _ => cases hf; rfl | _ + 2, _ => cases hf⟩, ⟨(ApiSpan.mk x7 x43), ⟨_, rfl, rfl, fun j fd hj hf => by match j, hj with | 0, _ => cases hf; rfl | 1, h => exact absurd rfl h | _ + 2, _ => cases hf⟩, rfl⟩⟩) ?_
              refine qq (out := Pr.i64 x8) qMove ?_
              refine qq (out := Pr.i64 x44) qMove ?_
              refine qq (out := (rApiSpan).val (ApiSpan.mk x8 x44)) (qBuild st65 ⟨(ApiSpan.mk x8 0), ⟨_, rfl, rfl, fun j fd hj hf => by match j, hj with | 0, h => exact absurd rfl h | 1, _ => cases hf; rfl | _ + 2, _ => cases hf⟩, ⟨(ApiSpan.mk x8 x44), ⟨_, rfl, rfl, fun j fd hj hf => by match j, hj with | 0, _ => cases hf; rfl | 1, h => exact absurd rfl h | _ + 2, _ => cases hf⟩, rfl⟩⟩) ?_
              refine qq (out := Pr.i64 x9) qMove ?_
              refine qq (out := Pr.i64 x45) qMove ?_
              refine qq (out := (rApiSpan).val (ApiSpan.mk x9 x45)) (qBuild st65 ⟨(ApiSpan.mk x9 0), ⟨_, rfl, rfl, fun j fd hj hf => by match j, hj with | 0, h => exact absurd rfl h | 1, _ => cases hf; rfl | _ + 2, _ => cases hf⟩, ⟨(ApiSpan.mk x9 x45), ⟨_, rfl, rfl, fun j fd hj hf => by match j, hj with | 0, _ => cases hf; rfl | 1, h => exact absurd rfl h | _ + 2, _ => cases hf⟩, rfl⟩⟩) ?_
              refine qq (out := (rApiChunk).val (ApiChunk.mk x49 (ApiSpan.mk x7 x43) (ApiSpan.mk x8 x44) (ApiSpan.mk x9 x45))) (qBuild st67 ⟨(ApiChunk.mk x49 (ApiSpan.mk 0 0) (ApiSpan.mk 0 0) (ApiSpan.mk 0 0)), ⟨_, rfl, rfl, fun j fd hj hf => by match j, hj with | 0, h => exact absurd rfl h | 1, _ => cases hf; rfl | 2, _ => cases hf; rfl | 3, _ => cases hf; rfl | _ + 4, _ => cases hf⟩, ⟨(ApiChunk.mk x49 (ApiSpan.mk x7 x43) (ApiSpan.mk 0 0) (ApiSpan.mk 0 0)), ⟨_, rfl, rfl, fun j fd hj hf => by match j, hj with | 0, _ => cases hf; rfl | 1, h => exact absurd rfl h | 2, _ => cases hf; rfl | 3, _ => cases hf; rfl | _ + 4, _ => cases hf⟩, ⟨(ApiChunk.mk x49 (ApiSpan.mk x7 x43) (ApiSpan.mk x8 x44) (ApiSpan.mk 0 0)), ⟨_, rfl, rfl, fun j fd hj hf => by match j, hj with | 0, _ => cases hf; rfl | 1, _ => cases hf; rfl | 2, h => exact absurd rfl h | 3, _ => cases hf; rfl | _ + 4, _ => cases hf⟩, ⟨(ApiChunk.mk x49 (ApiSpan.mk x7 x43) (ApiSpan.mk x8 x44) (ApiSpan.mk x9 x45)), ⟨_, rfl, rfl, fun j fd hj hf => by match j, hj with | 0, _ => cases hf; rfl | 1, _ => cases hf; rfl | 2, _ => cases hf; rfl | 3, h => exact absurd rfl h | _ + 4, _ => cases hf⟩, rfl⟩⟩⟩⟩) ?_
              refine qq (out := Pr.lst rApiChunk ([(ApiChunk.mk x49 (ApiSpan.mk x7 x43) (ApiSpan.mk x8 x44) (ApiSpan.mk x9 x45))] : List ApiChunk)) (qBuildSlice1 (R := rApiChunk) (a := (ApiChunk.mk x49 (ApiSpan.mk x7 x43) (ApiSpan.mk x8 x44) (ApiSpan.mk x9 x45))) el62 (Nat.le_of_ble_eq_true rfl)) ?_
              obtain ⟨x50, hx50, h2l⟩ := bindSome h2l
              refine rAppend' 0 el62 hx50 (fun v51 => ?_)
              refine rq (out := Pr.is v51) qAssign ?_
              exact ⟨x50, v51, h2l, ⟨⟨Pr.le_rfl, Pr.le_rfl, Pr.le_rfl, Pr.le_rfl, Pr.le_rfl, Pr.le_rfl, Pr.le_rfl, Pr.le_rfl, Pr.le_rfl, trivial⟩, Pick.refl _⟩⟩
          · refine W_rs ?_
            refine rq (out := Pr.i64 x21) qMove ?_
            refine rq (out := Pr.bool (x21 == 0)) qInt ?_
            refine W_cond (b := x21 == 0) rfl (fun hc31 => ?_) (fun hc31 => ?_)
            · replace h2l := iteT hc31 h2l
              refine W_seq ?_
              refine W_block ?_
              obtain ⟨z6l, hz6, h2l⟩ := bindSome h2l
              obtain ⟨n6, hN6⟩ := iter_some hz6
              clear hz6
              refine W_after 4 (fun e C => ∃ (x32 : Int), ref07_Chunks_k5 x1 x4 x5 x7 x2 x8 x3 x9 x10 x32 = some w2l ∧ At [(0, Pr.lst (Rp.int .i64) x1), (1, Pr.lst (Rp.int .i64) x2), (2, Pr.lst (Rp.int .i64) x3), (7, Pr.lst (Rp.int .i64) x4), (8, Pr.lst (Rp.int .i64) x5), (9, Pr.is v6), (10, Pr.i64 x7), (11, Pr.i64 x8), (12, Pr.i64 x9), (14, Pr.i64 x32)] [Own.vec v6 rApiChunk x10 67] e C) ?_ ?_
              · rintro e C ⟨x32, h2l, hat5⟩
                refine W_at hat5 ?_
                clear hat5
                unfold ref07_Chunks_k5 at h2l
                refine W_rs ?_
                refine rq (out := Pr.lst (Rp.int .i64) x2) qMove ?_
                refine rq (out := Pr.i64 (x2.length : Int)) (qLenL rfl Tryz.underlying83) ?_
                refine rq (out := Pr.i64 (x2.length : Int)) qAssign ?_
                refine W_rs ?_
                refine rq (out := Pr.lst (Rp.int .i64) x3) qMove ?_
                refine rq (out := Pr.i64 (x3.length : Int)) (qLenL rfl Tryz.underlying83) ?_
                refine rq (out := Pr.i64 (x3.length : Int)) qAssign ?_
                refine W_rs ?_
                refine rq (out := Pr.i64 x32) qMove ?_
                refine rq (out := Pr.lst (Rp.int .i64) x1) qMove ?_
                refine rq (out := Pr.i64 (x1.length : Int)) (qLenL rfl Tryz.underlying83) ?_
                refine rq (out := Pr.bool (decide (x32 < (x1.length : Int)))) qInt ?_
                refine W_cond (b := decide (x32 < (x1.length : Int))) rfl (fun hc40 => ?_) (fun hc40 => ?_)
                · replace h2l := iteT hc40 h2l
                  refine W_rs ?_
                  refine rq (out := Pr.lst (Rp.int .i64) x4) qMove ?_
                  refine rq (out := Pr.i64 x32) qMove ?_
                  obtain ⟨x41, hx41, h2l⟩ := bindSome h2l
                  refine rq (out := Pr.cpt (Rp.int .i64) x41) (qIdxA (R := Rp.int .i64) (l := x4) Tryz.underlying83 Tryz.sizeOf3 hx41) ?_
                  refine rq (out := Pr.i64 x41) (qLoadC (R := Rp.int .i64) (a := x41) ty3) ?_
                  refine rq (out := Pr.i64 x41) qAssign ?_
                  refine W_r ?_
                  refine rq (out := Pr.lst (Rp.int .i64) x5) qMove ?_
                  refine rq (out := Pr.i64 x32) qMove ?_
                  obtain ⟨x42, hx42, h2l⟩ := bindSome h2l
                  refine rq (out := Pr.cpt (Rp.int .i64) x42) (qIdxA (R := Rp.int .i64) (l := x5) Tryz.underlying83 Tryz.sizeOf3 hx42) ?_
                  refine rq (out := Pr.i64 x42) (qLoadC (R := Rp.int .i64) (a := x42) ty3) ?_
                  refine rq (out := Pr.i64 x42) qAssign ?_
                  exact ⟨x32, x41, x42, h2l, ⟨⟨Pr.le_rfl, Pr.le_rfl, Pr.le_rfl, Pr.le_rfl, Pr.le_rfl, Pr.le_rfl, Pr.le_rfl, Pr.le_rfl, Pr.le_rfl, Pr.le_rfl, Pr.le_rfl, Pr.le_rfl, trivial⟩, Pick.refl _⟩⟩
                · replace h2l := iteF hc40 h2l
                  refine W_skip ?_
                  exact ⟨x32, (x2.length : Int), (x3.length : Int), h2l, ⟨⟨Pr.le_rfl, Pr.le_rfl, Pr.le_rfl, Pr.le_rfl, Pr.le_rfl, Pr.le_rfl, Pr.le_rfl, Pr.le_rfl, Pr.le_rfl, Pr.le_rfl, Pr.le_rfl, Pr.le_rfl, trivial⟩, Pick.refl _⟩⟩
              · refine W_loop (fun m e C => ∃ (x32 : Int), IterN (fun s => ref07_Chunks_l6 x1 x4 x5 s) m x32 = some z6l ∧ At [(0, Pr.lst (Rp.int .i64) x1), (1, Pr.lst (Rp.int .i64) x2), (2, Pr.lst (Rp.int .i64) x3), (7, Pr.lst (Rp.int .i64) x4), (8, Pr.lst (Rp.int .i64) x5), (9, Pr.is v6), (10, Pr.i64 x7), (11, Pr.i64 x8), (12, Pr.i64 x9), (14, Pr.i64 x32)] [Own.vec v6 rApiChunk x10 67] e C) n6 ⟨w64 (x7 + x21), hN6, ⟨⟨Pr.le_rfl, Pr.le_rfl, Pr.le_rfl, Pr.le_rfl, Pr.le_rfl, Pr.le_rfl, Pr.le_rfl, Pr.le_rfl, Pr.le_rfl, Pr.le_rfl, trivial⟩, Pick.refl _⟩⟩ ?_
                clear hN6
                rintro m e C ⟨x32, hN6, hatl6⟩
                refine W_at hatl6 ?_
                clear hatl6
                obtain ⟨m6, w6l, rfl, h6l, hn6, ho6⟩ := iterN_some hN6
                clear hN6
                replace h6l : ref07_Chunks_l6 x1 x4 x5 x32 = some w6l := h6l
                unfold ref07_Chunks_l6 at h6l
                refine W_seq ?_
                refine W_join (fun e C => ∃ (x38 : Bool), ref07_Chunks_j7 x32 x38 = some w6l ∧ At [(0, Pr.lst (Rp.int .i64) x1), (1, Pr.lst (Rp.int .i64) x2), (2, Pr.lst (Rp.int .i64) x3), (7, Pr.lst (Rp.int .i64) x4), (8, Pr.lst (Rp.int .i64) x5), (9, Pr.is v6), (10, Pr.i64 x7), (11, Pr.i64 x8), (12, Pr.i64 x9), (14, Pr.i64 x32), (99, Pr.bool x38)] [Own.vec v6 rApiChunk x10 67] e C) ?_ ?_
                · rintro e C ⟨x38, h6l, hat7⟩
                  refine W_at hat7 ?_
                  clear hat7
                  unfold ref07_Chunks_j7 at h6l
                  refine W_cond (b := x38) rfl (fun hc39 => ?_) (fun hc39 => ?_)
                  · replace h6l := iteT hc39 h6l
                    refine W_skip ?_
                    refine W_block ?_
                    refine W_r ?_
                    refine rq (out := Pr.i64 x32) qMove ?_
                    refine rq (out := Pr.i64 (w64 (x32 + 1))) qInt ?_
                    refine rq (out := Pr.i64 (w64 (x32 + 1))) qAssign ?_
                    exact ⟨m6, Nat.lt_succ_self _, w64 (x32 + 1), hn6 _ (Option.some.inj h6l).symm, ⟨⟨Pr.le_rfl, Pr.le_rfl, Pr.le_rfl, Pr.le_rfl, Pr.le_rfl, Pr.le_rfl, Pr.le_rfl, Pr.le_rfl, Pr.le_rfl, Pr.le_rfl, trivial⟩, Pick.refl _⟩⟩
                  · replace h6l := iteF hc39 h6l
                    refine W_exit ?_
                    obtain rfl := ho6 _ (Option.some.inj h6l).symm
                    exact ⟨x32, h2l, ⟨⟨Pr.le_rfl, Pr.le_rfl, Pr.le_rfl, Pr.le_rfl, Pr.le_rfl, Pr.le_rfl, Pr.le_rfl, Pr.le_rfl, Pr.le_rfl, Pr.le_rfl, trivial⟩, Pick.refl _⟩⟩
                · refine W_r ?_
                  refine rq (out := Pr.i64 x32) qMove ?_
                  refine rq (out := Pr.lst (Rp.int .i64) x1) qMove ?_
                  refine rq (out := Pr.i64 (x1.length : Int)) (qLenL rfl Tryz.underlying83) ?_
                  refine rq (out := Pr.bool (decide (x32 < (x1.length : Int)))) qInt ?_
                  refine rq (out := Pr.bool (decide (x32 < (x1.length : Int)))) qMove ?_
                  rcases iteSome h6l with ⟨hc34, h6l⟩ | ⟨hc34, h6l⟩
                  · refine rqg hc34 (out := Pr.lst (Rp.int .i64) x4) qMove ?_
                    refine rqg hc34 (out := Pr.i64 x32) qMove ?_
                    obtain ⟨x35, hx35, h6l⟩ := bindSome h6l
                    refine rqg hc34 (out := Pr.cpt (Rp.int .i64) x35) (qIdxA (R := Rp.int .i64) (l := x4) Tryz.underlying83 Tryz.sizeOf3 hx35) ?_
                    refine rqg hc34 (out := Pr.i64 x35) (qLoadC (R := Rp.int .i64) (a := x35) ty3) ?_
                    refine rqg hc34 (out := Pr.bool (decide (x35 < 0))) qInt ?_
                    refine rqg hc34 (out := Pr.bool (decide (x35 < 0))) qMove ?_
                    rcases iteSome h6l with ⟨hc36, h6l⟩ | ⟨hc36, h6l⟩
                    · refine rno (neF hc36) ?_
                      refine rno (neF hc36) ?_
                      refine rno (neF hc36) ?_
                      refine rno (neF hc36) ?_
                      refine rno (neF hc36) ?_
                      refine rqg hc34 (out := Pr.bool true) (qPickT hc36) ?_
                      refine rq (out := Pr.bool true) (qPickT hc34) ?_
                      exact ⟨true, h6l, ⟨⟨Pr.le_rfl, Pr.le_rfl, Pr.le_rfl, Pr.le_rfl, Pr.le_rfl, Pr.le_rfl, Pr.le_rfl, Pr.le_rfl, Pr.le_rfl, Pr.le_rfl, Pr.le_rfl, trivial⟩, Pick.refl _⟩⟩
                    · refine rqg hc36 (out := Pr.lst (Rp.int .i64) x5) qMove ?_
                      refine rqg hc36 (out := Pr.i64 x32) qMove ?_
                      obtain ⟨x37, hx37, h6l⟩ := bindSome h6l
                      refine rqg hc36 (out := Pr.cpt (Rp.int .i64) x37) (qIdxA (R := Rp.int .i64) (l := x5) Tryz.underlying83 Tryz.sizeOf3 hx37) ?_
                      refine rqg hc36 (out := Pr.i64 x37) (qLoadC (R := Rp.int .i64) (a := x37) ty3) ?_
                      refine rqg hc36 (out := Pr.bool (decide (x37 < 0))) qInt ?_
                      refine rqg hc34 (out := Pr.bool (decide (x37 < 0))) (qPickF hc36) ?_
                      refine rq (out := Pr.bool (decide (x37 < 0))) (qPickT hc34) ?_
                      exact ⟨decide (x37 < 0), h6l, ⟨⟨Pr.le_rfl, Pr.le_rfl, Pr.le_rfl, Pr.le_rfl, Pr.le_rfl, Pr.le_rfl, Pr.le_rfl, Pr.le_rfl, Pr.le_rfl, Pr.le_rfl, Pr.le_rfl, trivial⟩, Pick.refl _⟩⟩
                  · refine rno (neT hc34) ?_
                    refine rno (neT hc34) ?_
                    refine rno (neT hc34) ?_
                    refine rno (neT hc34) ?_
                    refine rno (neT hc34) ?_
                    refine rno (neT hc34) ?_
                    refine rnoU ?_
                    refine rnoU ?_
                    refine rnoU ?_
                    refine rnoU ?_
                    refine rnoU ?_
                    refine rno (neT hc34) ?_
                    refine rq (out := Pr.bool false) (qPickF hc34) ?_
                    exact ⟨false, h6l, ⟨⟨Pr.le_rfl, Pr.le_rfl, Pr.le_rfl, Pr.le_rfl, Pr.le_rfl, Pr.le_rfl, Pr.le_rfl, Pr.le_rfl, Pr.le_rfl, Pr.le_rfl, Pr.le_rfl, trivial⟩, Pick.refl _⟩⟩
            · replace h2l := iteF hc31 h2l
              refine W_skip ?_
              exact ⟨w64 (x7 + x21), w64 (x8 + x21), w64 (x9 + x21), h2l, ⟨⟨Pr.le_rfl, Pr.le_rfl, Pr.le_rfl, Pr.le_rfl, Pr.le_rfl, Pr.le_rfl, Pr.le_rfl, Pr.le_rfl, Pr.le_rfl, Pr.le_rfl, Pr.le_rfl, Pr.le_rfl, trivial⟩, Pick.refl _⟩⟩
        · refine W_loop (fun m e C => ∃ (x21 : Int), IterN (fun s => ref07_Chunks_l9 x7 x1 x4 x8 x5 x9 s) m x21 = some z9l ∧ At [(0, Pr.lst (Rp.int .i64) x1), (1, Pr.lst (Rp.int .i64) x2), (2, Pr.lst (Rp.int .i64) x3), (7, Pr.lst (Rp.int .i64) x4), (8, Pr.lst (Rp.int .i64) x5), (9, Pr.is v6), (10, Pr.i64 x7), (11, Pr.i64 x8), (12, Pr.i64 x9), (13, Pr.i64 x21)] [Own.vec v6 rApiChunk x10 67] e C) n9 ⟨0, hN9, ⟨⟨Pr.le_rfl, Pr.le_rfl, Pr.le_rfl, Pr.le_rfl, Pr.le_rfl, Pr.le_rfl, Pr.le_rfl, Pr.le_rfl, Pr.le_rfl, Pr.le_rfl, trivial⟩, Pick.refl _⟩⟩ ?_
          clear hN9
          rintro m e C ⟨x21, hN9, hatl9⟩
          refine W_at hatl9 ?_
          clear hatl9
          obtain ⟨m9, w9l, rfl, h9l, hn9, ho9⟩ := iterN_some hN9
          clear hN9
          replace h9l : ref07_Chunks_l9 x7 x1 x4 x8 x5 x9 x21 = some w9l := h9l
          unfold ref07_Chunks_l9 at h9l
          refine W_seq ?_
          refine W_join (fun e C => ∃ (x29 : Bool), ref07_Chunks_j10 x21 x29 = some w9l ∧ At [(0, Pr.lst (Rp.int .i64) x1), (1, Pr.lst (Rp.int .i64) x2), (2, Pr.lst (Rp.int .i64) x3), (7, Pr.lst (Rp.int .i64) x4), (8, Pr.lst (Rp.int .i64) x5), (9, Pr.is v6), (10, Pr.i64 x7), (11, Pr.i64 x8), (12, Pr.i64 x9), (13, Pr.i64 x21), (68, Pr.bool x29)] [Own.vec v6 rApiChunk x10 67] e C) ?_ ?_
          · rintro e C ⟨x29, h9l, hat10⟩
            refine W_at hat10 ?_
            clear hat10
            unfold ref07_Chunks_j10 at h9l
            refine W_cond (b := x29) rfl (fun hc30 => ?_) (fun hc30 => ?_)
            · replace h9l := iteT hc30 h9l
              refine W_skip ?_
              refine W_block ?_
              refine W_r ?_
              refine rq (out := Pr.i64 x21) qMove ?_
              refine rq (out := Pr.i64 (w64 (x21 + 1))) qInt ?_
              refine rq (out := Pr.i64 (w64 (x21 + 1))) qAssign ?_
              exact ⟨m9, Nat.lt_succ_self _, w64 (x21 + 1), hn9 _ (Option.some.inj h9l).symm, ⟨⟨Pr.le_rfl, Pr.le_rfl, Pr.le_rfl, Pr.le_rfl, Pr.le_rfl, Pr.le_rfl, Pr.le_rfl, Pr.le_rfl, Pr.le_rfl, Pr.le_rfl, trivial⟩, Pick.refl _⟩⟩
            · replace h9l := iteF hc30 h9l
              refine W_exit ?_
              obtain rfl := ho9 _ (Option.some.inj h9l).symm
              exact ⟨x21, h2l, ⟨⟨Pr.le_rfl, Pr.le_rfl, Pr.le_rfl, Pr.le_rfl, Pr.le_rfl, Pr.le_rfl, Pr.le_rfl, Pr.le_rfl, Pr.le_rfl, Pr.le_rfl, trivial⟩, Pick.refl _⟩⟩
          · refine W_r ?_
            refine rq (out := Pr.i64 x7) qMove ?_
            refine rq (out := Pr.i64 x21) qMove ?_
            refine rq (out := Pr.i64 (w64 (x7 + x21))) qInt ?_
            refine rq (out := Pr.lst (Rp.int .i64) x1) qMove ?_
            refine rq (out := Pr.i64 (x1.length : Int)) (qLenL rfl Tryz.underlying83) ?_
            refine rq (out := Pr.bool (decide ((w64 (x7 + x21)) < (x1.length : Int)))) qInt ?_
            refine rq (out := Pr.bool (decide ((w64 (x7 + x21)) < (x1.length : Int)))) qMove ?_
            rcases iteSome h9l with ⟨hc23, h9l⟩ | ⟨hc23, h9l⟩
            · refine rqg hc23 (out := Pr.lst (Rp.int .i64) x4) qMove ?_
              refine rqg hc23 (out := Pr.i64 x7) qMove ?_
              refine rqg hc23 (out := Pr.i64 x21) qMove ?_
              refine rqg hc23 (out := Pr.i64 (w64 (x7 + x21))) qInt ?_
              obtain ⟨x24, hx24, h9l⟩ := bindSome h9l
              refine rqg hc23 (out := Pr.cpt (Rp.int .i64) x24) (qIdxA (R := Rp.int .i64) (l := x4) Tryz.underlying83 Tryz.sizeOf3 hx24) ?_
              refine rqg hc23 (out := Pr.i64 x24) (qLoadC (R := Rp.int .i64) (a := x24) ty3) ?_
              refine rqg hc23 (out := Pr.i64 x8) qMove ?_
              refine rqg hc23 (out := Pr.i64 x21) qMove ?_
              refine rqg hc23 (out := Pr.i64 (w64 (x8 + x21))) qInt ?_
              refine rqg hc23 (out := Pr.bool (x24 == (w64 (x8 + x21)))) qInt ?_
              refine rq (out := Pr.bool (x24 == (w64 (x8 + x21)))) (qPickT hc23) ?_
              refine rq (out := Pr.bool (x24 == (w64 (x8 + x21)))) qMove ?_
              rcases iteSome h9l with ⟨hc25, h9l⟩ | ⟨hc25, h9l⟩
              · refine rqg hc25 (out := Pr.lst (Rp.int .i64) x5) qMove ?_
                refine rqg hc25 (out := Pr.i64 x7) qMove ?_
                refine rqg hc25 (out := Pr.i64 x21) qMove ?_
                refine rqg hc25 (out := Pr.i64 (w64 (x7 + x21))) qInt ?_
                obtain ⟨x26, hx26, h9l⟩ := bindSome h9l
                refine rqg hc25 (out := Pr.cpt (Rp.int .i64) x26) (qIdxA (R := Rp.int .i64) (l := x5) Tryz.underlying83 Tryz.sizeOf3 hx26) ?_
                refine rqg hc25 (out := Pr.i64 x26) (qLoadC (R := Rp.int .i64) (a := x26) ty3) ?_
                refine rqg hc25 (out := Pr.i64 x9) qMove ?_
                refine rqg hc25 (out := Pr.i64 x21) qMove ?_
                refine rqg hc25 (out := Pr.i64 (w64 (x9 + x21))) qInt ?_
                refine rqg hc25 (out := Pr.bool (x26 == (w64 (x9 + x21)))) qInt ?_
                refine rq (out := Pr.bool (x26 == (w64 (x9 + x21)))) (qPickT hc25) ?_
                exact ⟨x26 == (w64 (x9 + x21)), h9l, ⟨⟨Pr.le_rfl, Pr.le_rfl, Pr.le_rfl, Pr.le_rfl, Pr.le_rfl, Pr.le_rfl, Pr.le_rfl, Pr.le_rfl, Pr.le_rfl, Pr.le_rfl, Pr.le_rfl, trivial⟩, Pick.refl _⟩⟩
              · refine rno (neT hc25) ?_
                refine rno (neT hc25) ?_
                refine rno (neT hc25) ?_
                refine rno (neT hc25) ?_
                refine rno (neT hc25) ?_
                refine rno (neT hc25) ?_
                refine rno (neT hc25) ?_
                refine rno (neT hc25) ?_
                refine rno (neT hc25) ?_
                refine rno (neT hc25) ?_
                refine rq (out := Pr.bool false) (qPickF hc25) ?_
                exact ⟨false, h9l, ⟨⟨Pr.le_rfl, Pr.le_rfl, Pr.le_rfl, Pr.le_rfl, Pr.le_rfl, Pr.le_rfl, Pr.le_rfl, Pr.le_rfl, Pr.le_rfl, Pr.le_rfl, Pr.le_rfl, trivial⟩, Pick.refl _⟩⟩
            · refine rno (neT hc23) ?_
              refine rno (neT hc23) ?_
              refine rno (neT hc23) ?_
              refine rno (neT hc23) ?_
              refine rno (neT hc23) ?_
              refine rno (neT hc23) ?_
              refine rno (neT hc23) ?_
              refine rno (neT hc23) ?_
              refine rno (neT hc23) ?_
              refine rno (neT hc23) ?_
              refine rq (out := Pr.bool false) (qPickF hc23) ?_
              refine rq (out := Pr.bool false) qMove ?_
              have hc27 : false = false := rfl
              refine rno (neT hc27) ?_
              refine rno (neT hc27) ?_
              refine rno (neT hc27) ?_
              refine rno (neT hc27) ?_
              refine rno (neT hc27) ?_
              refine rno (neT hc27) ?_
              refine rno (neT hc27) ?_
              refine rno (neT hc27) ?_
              refine rno (neT hc27) ?_
              refine rno (neT hc27) ?_
              refine rq (out := Pr.bool false) (qPickF hc27) ?_
              exact ⟨false, h9l, ⟨⟨Pr.le_rfl, Pr.le_rfl, Pr.le_rfl, Pr.le_rfl, Pr.le_rfl, Pr.le_rfl, Pr.le_rfl, Pr.le_rfl, Pr.le_rfl, Pr.le_rfl, Pr.le_rfl, trivial⟩, Pick.refl _⟩⟩
      · replace h2l := iteF hc20 h2l
        refine W_exit ?_
        obtain rfl := ho2 _ (Option.some.inj h2l).symm
        exact ⟨x10, v6, h, ⟨⟨Pr.le_rfl, trivial⟩, Pick.refl _⟩⟩
    · refine W_r ?_
      refine rq (out := Pr.i64 x7) qMove ?_
      refine rq (out := Pr.lst (Rp.int .i64) x1) qMove ?_
      refine rq (out := Pr.i64 (x1.length : Int)) (qLenL rfl Tryz.underlying83) ?_
      refine rq (out := Pr.bool (decide (x7 < (x1.length : Int)))) qInt ?_
      refine rq (out := Pr.bool (decide (x7 < (x1.length : Int)))) qMove ?_
      rcases iteSome h2l with ⟨hc16, h2l⟩ | ⟨hc16, h2l⟩
      · refine rno (neF hc16) ?_
        refine rno (neF hc16) ?_
        refine rno (neF hc16) ?_
        refine rno (neF hc16) ?_
        refine rq (out := Pr.bool true) (qPickT hc16) ?_
        refine rq (out := Pr.bool true) qMove ?_
        have hc18 : true = true := rfl
        refine rno (neF hc18) ?_
        refine rno (neF hc18) ?_
        refine rno (neF hc18) ?_
        refine rno (neF hc18) ?_
        refine rq (out := Pr.bool true) (qPickT hc18) ?_
        exact ⟨true, h2l, ⟨⟨Pr.le_rfl, Pr.le_rfl, Pr.le_rfl, Pr.le_rfl, Pr.le_rfl, Pr.le_rfl, Pr.le_rfl, Pr.le_rfl, Pr.le_rfl, Pr.le_rfl, trivial⟩, Pick.refl _⟩⟩
      · refine rqg hc16 (out := Pr.i64 x8) qMove ?_
        refine rqg hc16 (out := Pr.lst (Rp.int .i64) x2) qMove ?_
        refine rqg hc16 (out := Pr.i64 (x2.length : Int)) (qLenL rfl Tryz.underlying83) ?_
        refine rqg hc16 (out := Pr.bool (decide (x8 < (x2.length : Int)))) qInt ?_
        refine rq (out := Pr.bool (decide (x8 < (x2.length : Int)))) (qPickF hc16) ?_
        refine rq (out := Pr.bool (decide (x8 < (x2.length : Int)))) qMove ?_
        rcases iteSome h2l with ⟨hc17, h2l⟩ | ⟨hc17, h2l⟩
        · refine rno (neF hc17) ?_
          refine rno (neF hc17) ?_
          refine rno (neF hc17) ?_
          refine rno (neF hc17) ?_
          refine rq (out := Pr.bool true) (qPickT hc17) ?_
          exact ⟨true, h2l, ⟨⟨Pr.le_rfl, Pr.le_rfl, Pr.le_rfl, Pr.le_rfl, Pr.le_rfl, Pr.le_rfl, Pr.le_rfl, Pr.le_rfl, Pr.le_rfl, Pr.le_rfl, trivial⟩, Pick.refl _⟩⟩
        · refine rqg hc17 (out := Pr.i64 x9) qMove ?_
          refine rqg hc17 (out := Pr.lst (Rp.int .i64) x3) qMove ?_
          refine rqg hc17 (out := Pr.i64 (x3.length : Int)) (qLenL rfl Tryz.underlying83) ?_
          refine rqg hc17 (out := Pr.bool (decide (x9 < (x3.length : Int)))) qInt ?_
          refine rq (out := Pr.bool (decide (x9 < (x3.length : Int)))) (qPickF hc17) ?_
          exact ⟨decide (x9 < (x3.length : Int)), h2l, ⟨⟨Pr.le_rfl, Pr.le_rfl, Pr.le_rfl, Pr.le_rfl, Pr.le_rfl, Pr.le_rfl, Pr.le_rfl, Pr.le_rfl, Pr.le_rfl, Pr.le_rfl, trivial⟩, Pick.refl _⟩⟩
theorem ref07_Parts_ok (x1 : List (List UInt8)) (x2 : List (List UInt8)) (x3 : List (List UInt8)) (r : (List ApiChunk)) (h : ref07_Parts x1 x2 x3 = some r) : FnP Tryz.prog 29 [Pr.lst Rp.str x1, Pr.lst Rp.str x2, Pr.lst Rp.str x3] (Pr.lst rApiChunk r) := by
  refine fn_intro (n := 23) (rs := [6]) Tryz.func29 rfl Tryz.ntmps29 ⟨by decide, Tryz.results29⟩ (by decide) (fun s0 => ?_)
  unfold ref07_Parts at h
  refine W_rs ?_
  refine rq (out := Pr.is (.slice none 0 0)) qAssign ?_
  refine W_rs ?_
  refine rq (out := Pr.lst Rp.str x1) qMove ?_
  refine rq (out := Pr.lst Rp.str x2) qMove ?_
  refine rq (out := Pr.lst Rp.str x3) qMove ?_
  refine rq (out := Pr.lst (Rp.list Rp.str) ([x1, x2, x3] : List (List (List UInt8)))) (qBuildSlice (R := Rp.list Rp.str) (ls := ([x1, x2, x3] : List (List (List UInt8)))) el81 (Nat.le_of_ble_eq_true rfl) ⟨rfl, rfl⟩ ⟨rfl, rfl, rfl, trivial⟩) ?_
  obtain ⟨x4, hx4, h⟩ := bindSome h
  refine rq (out := Pr.lst (Rp.list (Rp.int .i64)) x4) (qCall (ref05_Numbers_ok ([x1, x2, x3] : List (List (List UInt8))) _ hx4)) ?_
  refine rq (out := Pr.lst (Rp.list (Rp.int .i64)) x4) qAssign ?_
  refine W_join (fun e C => ∃ (x8 : List ApiChunk), ref07_Parts_j1 x8 = some r ∧ At [(6, Pr.lst rApiChunk x8)] [] e C) ?_ ?_
  · rintro e C ⟨x8, h, hat1⟩
    refine W_at hat1 ?_
    clear hat1
    unfold ref07_Parts_j1 at h
    obtain rfl := Option.some.inj h
    exact W_ret ⟨rfl, Pr.le_rfl⟩
  · refine W_draw 11 hmx (by kernel_rfl) (by kernel_rfl) ?_
    refine qq (out := Pr.lst (Rp.list (Rp.int .i64)) x4) qMove ?_
    obtain ⟨x5, hx5, h⟩ := bindSome h
    refine qq (out := Pr.cpt (Rp.list (Rp.int .i64)) x5) (qIdxA (R := Rp.list (Rp.int .i64)) (l := x4) Tryz.underlying79 Tryz.sizeOf83 hx5) ?_
    refine qq (out := Pr.lst (Rp.int .i64) x5) (qLoadC (R := Rp.list (Rp.int .i64)) (a := x5) ty83) ?_
    refine qq (out := Pr.lst (Rp.list (Rp.int .i64)) x4) qMove ?_
    obtain ⟨x6, hx6, h⟩ := bindSome h
    refine qq (out := Pr.cpt (Rp.list (Rp.int .i64)) x6) (qIdxA (R := Rp.list (Rp.int .i64)) (l := x4) Tryz.underlying79 Tryz.sizeOf83 hx6) ?_
    refine qq (out := Pr.lst (Rp.int .i64) x6) (qLoadC (R := Rp.list (Rp.int .i64)) (a := x6) ty83) ?_
    refine qq (out := Pr.lst (Rp.list (Rp.int .i64)) x4) qMove ?_
    obtain ⟨x7, hx7, h⟩ := bindSome h
    refine qq (out := Pr.cpt (Rp.list (Rp.int .i64)) x7) (qIdxA (R := Rp.list (Rp.int .i64)) (l := x4) Tryz.underlying79 Tryz.sizeOf83 hx7) ?_
    refine qq (out := Pr.lst (Rp.int .i64) x7) (qLoadC (R := Rp.list (Rp.int .i64)) (a := x7) ty83) ?_
    obtain ⟨x8, hx8, h⟩ := bindSome h
    refine qq (out := Pr.lst rApiChunk x8) (qCall (ref07_Chunks_ok x5 x6 x7 _ hx8)) ?_
    refine qq (out := Pr.lst rApiChunk x8) qAssign ?_
    exact ⟨x8, h, ⟨⟨Pr.le_rfl, trivial⟩, Pick.refl _⟩⟩
theorem ref01_Join_ok (x1 : List (List UInt8)) (r : (List UInt8)) (h : ref01_Join x1 = some r) : FnP Tryz.prog 30 [Pr.lst Rp.str x1] (Pr.str r) := by
  refine fn_intro (n := 18) (rs := [2]) Tryz.func30 rfl Tryz.ntmps30 ⟨by decide, Tryz.results30⟩ (by decide) (fun s0 => ?_)
  unfold ref01_Join at h
  refine W_rs ?_
  refine rq (out := Pr.str []) qAssign ?_
  refine W_rs ?_
  refine rq (out := Pr.str []) qAssign ?_
  refine W_seq ?_
  refine W_rs ?_
  refine rq (out := Pr.i64 0) qAssign ?_
  refine W_block ?_
  obtain ⟨z2l, hz2, h⟩ := bindSome h
  obtain ⟨n2, hN2⟩ := iter_some hz2
  clear hz2
  refine W_after 0 (fun e C => ∃ (x2 : List UInt8), ref01_Join_k1 x2 = some r ∧ At [(3, Pr.str x2)] [] e C) ?_ ?_
  · rintro e C ⟨x2, h, hat1⟩
    refine W_at hat1 ?_
    clear hat1
    unfold ref01_Join_k1 at h
    refine W_rs ?_
    refine rq (out := Pr.str x2) qMove ?_
    refine rq (out := Pr.str x2) qAssign ?_
    obtain rfl := Option.some.inj h
    exact W_ret ⟨rfl, Pr.le_rfl⟩
  · refine W_loop (fun m e C => ∃ (x2 : List UInt8), ∃ (x3 : Int), IterN (fun s => ref01_Join_l2 x1 s.1 s.2) m (x2, x3) = some z2l ∧ At [(0, Pr.lst Rp.str x1), (3, Pr.str x2), (4, Pr.i64 x3)] [] e C) n2 ⟨[], 0, hN2, ⟨⟨Pr.le_rfl, Pr.le_rfl, Pr.le_rfl, trivial⟩, Pick.refl _⟩⟩ ?_
    clear hN2
    rintro m e C ⟨x2, x3, hN2, hatl2⟩
    refine W_at hatl2 ?_
    clear hatl2
    obtain ⟨m2, w2l, rfl, h2l, hn2, ho2⟩ := iterN_some hN2
    clear hN2
    replace h2l : ref01_Join_l2 x1 x2 x3 = some w2l := h2l
    unfold ref01_Join_l2 at h2l
    refine W_seq ?_
    refine W_rs ?_
    refine rq (out := Pr.i64 x3) qMove ?_
    refine rq (out := Pr.lst Rp.str x1) qMove ?_
    refine rq (out := Pr.i64 (x1.length : Int)) (qLenL rfl Tryz.underlying27) ?_
    refine rq (out := Pr.bool (decide (x3 < (x1.length : Int)))) qInt ?_
    refine W_cond (b := decide (x3 < (x1.length : Int))) rfl (fun hc6 => ?_) (fun hc6 => ?_)
    · replace h2l := iteT hc6 h2l
      refine W_skip ?_
      refine W_seq ?_
      refine W_block ?_
      refine W_r ?_
      refine rq (out := Pr.str x2) qMove ?_
      refine rq (out := Pr.lst Rp.str x1) qMove ?_
      refine rq (out := Pr.i64 x3) qMove ?_
      obtain ⟨x7, hx7, h2l⟩ := bindSome h2l
      refine rq (out := Pr.cpt Rp.str x7) (qIdxA (R := Rp.str) (l := x1) Tryz.underlying27 Tryz.sizeOf9 hx7) ?_
      refine rq (out := Pr.str x7) (qLoadC (R := Rp.str) (a := x7) ty9) ?_
      obtain ⟨x8, hx8, h2l⟩ := bindSome h2l
      refine rq (out := Pr.str x8) (qCat' hx8) ?_
      refine rq (out := Pr.str x8) qAssign ?_
      refine W_r ?_
      refine rq (out := Pr.i64 x3) qMove ?_
      refine rq (out := Pr.i64 (w64 (x3 + 1))) qInt ?_
      refine rq (out := Pr.i64 (w64 (x3 + 1))) qAssign ?_
      exact ⟨m2, Nat.lt_succ_self _, x8, w64 (x3 + 1), hn2 _ (Option.some.inj h2l).symm, ⟨⟨Pr.le_rfl, Pr.le_rfl, Pr.le_rfl, trivial⟩, Pick.refl _⟩⟩
    · replace h2l := iteF hc6 h2l
      refine W_exit ?_
      obtain rfl := ho2 _ (Option.some.inj h2l).symm
      exact ⟨x2, h, ⟨⟨Pr.le_rfl, trivial⟩, Pick.refl _⟩⟩
end Go.Proofs.YtefeelcjokdchaaGreatDoor
