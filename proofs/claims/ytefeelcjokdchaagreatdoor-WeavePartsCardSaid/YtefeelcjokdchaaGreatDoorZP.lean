/- The code comes to what these functions say (printed by wip/gen/gen.py). -/
import Derived.Test.YtefeelcjokdchaaGreatDoorZX
import Derived.Test.YtefeelcjokdchaaGreatDoorZT
set_option linter.unusedSimpArgs false
set_option linter.unusedVariables false
set_option linter.unusedSectionVars false
/- The code comes to what these functions say (printed by wip/gen/gen.py). -/
set_option linter.unusedSectionVars false
set_option maxRecDepth 100000
set_option maxHeartbeats 4000000
namespace Go.Proofs.YtefeelcjokdchaaGreatDoor
open Go Go.Cn
variable [Known]
theorem internal_stringslite_HasPrefix_ok (x1 : List UInt8) (x2 : List UInt8) (r : Bool) (h : internal_stringslite_HasPrefix x1 x2 = some r) : FnP Tryz.prog 69 [Pr.str x1, Pr.str x2] (Pr.bool r) := by
  refine fn_intro (n := 18) (rs := [4]) Tryz.func69 rfl Tryz.ntmps69 ⟨by decide, Tryz.results69⟩ (by decide) (fun s0 => ?_)
  unfold internal_stringslite_HasPrefix at h
  refine W_rs ?_
  refine rq (out := Pr.bool false) qAssign ?_
  refine W_join (fun e C => ∃ (x5 : Bool), internal_stringslite_HasPrefix_j1 x5 = some r ∧ At [(4, Pr.bool x5)] [] e C) ?_ ?_
  · rintro e C ⟨x5, h, hat1⟩
    refine W_at hat1 ?_
    clear hat1
    unfold internal_stringslite_HasPrefix_j1 at h
    obtain rfl := Option.some.inj h
    exact W_ret ⟨rfl, Pr.le_rfl⟩
  · refine W_r ?_
    refine rq (out := Pr.str x1) qMove ?_
    refine rq (out := Pr.i64 (x1.length : Int)) (qLenS rfl Tryz.underlying9) ?_
    refine rq (out := Pr.str x2) qMove ?_
    refine rq (out := Pr.i64 (x2.length : Int)) (qLenS rfl Tryz.underlying9) ?_
    refine rq (out := Pr.bool (decide ((x1.length : Int) ≥ (x2.length : Int)))) qInt ?_
    refine rq (out := Pr.bool (decide ((x1.length : Int) ≥ (x2.length : Int)))) qMove ?_
    rcases iteSome h with ⟨hc3, h⟩ | ⟨hc3, h⟩
    · refine rqg hc3 (out := Pr.str x1) qMove ?_
      refine rqg hc3 (out := Pr.str x2) qMove ?_
      refine rqg hc3 (out := Pr.i64 (x2.length : Int)) (qLenS rfl Tryz.underlying9) ?_
      obtain ⟨x4, hx4, h⟩ := bindSome h
      refine rqg hc3 (out := Pr.str x4) (qSubH Tryz.underlying9 hx4) ?_
      refine rqg hc3 (out := Pr.str x2) qMove ?_
      refine rqg hc3 (out := Pr.bool (x4 == x2)) qStr ?_
      refine rq (out := Pr.bool (x4 == x2)) (qPickT hc3) ?_
      refine rq (out := Pr.bool (x4 == x2)) qAssign ?_
      exact ⟨x4 == x2, h, ⟨⟨Pr.le_rfl, trivial⟩, Pick.refl _⟩⟩
    · refine rno (neT hc3) ?_
      refine rno (neT hc3) ?_
      refine rno (neT hc3) ?_
      refine rno (neT hc3) ?_
      refine rno (neT hc3) ?_
      refine rno (neT hc3) ?_
      refine rq (out := Pr.bool false) (qPickF hc3) ?_
      refine rq (out := Pr.bool false) qAssign ?_
      exact ⟨false, h, ⟨⟨Pr.le_rfl, trivial⟩, Pick.refl _⟩⟩
theorem strings_HasPrefix_ok (x1 : List UInt8) (x2 : List UInt8) (r : Bool) (h : strings_HasPrefix x1 x2 = some r) : FnP Tryz.prog 52 [Pr.str x1, Pr.str x2] (Pr.bool r) := by
  refine fn_intro (n := 8) (rs := [4]) Tryz.func52 rfl Tryz.ntmps52 ⟨by decide, Tryz.results52⟩ (by decide) (fun s0 => ?_)
  unfold strings_HasPrefix at h
  refine W_rs ?_
  refine rq (out := Pr.bool false) qAssign ?_
  refine W_rs ?_
  refine rq (out := Pr.str x1) qMove ?_
  refine rq (out := Pr.str x2) qMove ?_
  obtain ⟨x3, hx3, h⟩ := bindSome h
  refine rq (out := Pr.bool x3) (qCall (internal_stringslite_HasPrefix_ok x1 x2 _ hx3)) ?_
  refine rq (out := Pr.bool x3) qAssign ?_
  obtain rfl := Option.some.inj h
  exact W_ret ⟨rfl, Pr.le_rfl⟩
theorem lex_run_ok (x1 : List UInt8) (x2 : (Int → Option Bool)) (r : Int) (h : lex_run x1 x2 = some r) : FnP Tryz.prog 53 [Pr.str x1, Pr.pfn Tryz.prog (spec84 x2)] (Pr.i64 r) := by
  refine fn_intro (n := 21) (rs := [4]) Tryz.func53 rfl Tryz.ntmps53 ⟨by decide, Tryz.results53⟩ (by decide) (fun s0 => ?_)
  unfold lex_run at h
  refine W_rs ?_
  refine rq (out := Pr.i64 0) qAssign ?_
  refine W_seq ?_
  refine W_rs ?_
  refine rq (out := Pr.str x1) qMove ?_
  refine rq (out := Pr.i64 (x1.length : Int)) (qLenS rfl Tryz.underlying9) ?_
  refine rq (out := Pr.i64 0) qMove ?_
  refine W_block ?_
  obtain ⟨z2l, hz2, h⟩ := bindSome h
  obtain ⟨n2, hN2⟩ := iter_some hz2
  clear hz2
  refine W_after 0 (fun e C => lex_run_k1 x1 = some r ∧ At [(0, Pr.str x1)] [] e C) ?_ ?_
  · rintro e C ⟨h, hat1⟩
    refine W_at hat1 ?_
    clear hat1
    unfold lex_run_k1 at h
    refine W_rs ?_
    refine rq (out := Pr.str x1) qMove ?_
    refine rq (out := Pr.i64 (x1.length : Int)) (qLenS rfl Tryz.underlying9) ?_
    refine rq (out := Pr.i64 (x1.length : Int)) qAssign ?_
    obtain rfl := Option.some.inj h
    exact W_ret ⟨rfl, Pr.le_rfl⟩
  · refine W_loop (fun m e C => ∃ (x3 : Int), IterN (fun s => lex_run_l2 x1 x2 s) m x3 = some z2l ∧ At [(0, Pr.str x1), (1, Pr.pfn Tryz.prog (spec84 x2)), (7, Pr.i64 (x1.length : Int)), (8, Pr.i64 x3)] [] e C) n2 ⟨0, hN2, ⟨⟨Pr.le_rfl, Pr.le_rfl, Pr.le_rfl, Pr.le_rfl, trivial⟩, Pick.refl _⟩⟩ ?_
    clear hN2
    rintro m e C ⟨x3, hN2, hatl2⟩
    refine W_at hatl2 ?_
    clear hatl2
    obtain ⟨m2, w2l, rfl, h2l, hn2, ho2⟩ := iterN_some hN2
    clear hN2
    replace h2l : lex_run_l2 x1 x2 x3 = some w2l := h2l
    unfold lex_run_l2 at h2l
    refine W_rs ?_
    refine rq (out := Pr.bool (decide (x3 < (x1.length : Int)))) qInt ?_
    refine W_seq ?_
    refine W_cond (b := decide (x3 < (x1.length : Int))) rfl (fun hc5 => ?_) (fun hc5 => ?_)
    · replace h2l := iteT hc5 h2l
      refine W_skip ?_
      refine W_seq ?_
      refine W_block ?_
      refine W_rs ?_
      refine rq (out := Pr.i64 x3) qMove ?_
      refine rq (out := Pr.i64 x3) qAssign ?_
      refine W_rs ?_
      refine rq (out := Pr.pfn Tryz.prog (spec84 x2)) qMove ?_
      refine rq (out := Pr.str x1) qMove ?_
      refine rq (out := Pr.i64 x3) qMove ?_
      obtain ⟨x6, hx6, h2l⟩ := bindSome h2l
      refine rq (out := Pr.u8 x6) (qIdxS Tryz.underlying9 hx6) ?_
      obtain ⟨x7, hx7, h2l⟩ := bindSome h2l
      refine rq (out := Pr.bool x7) (qCallP (spec := spec84 x2) ⟨_, _, rfl, rfl, hx7⟩) ?_
      refine rq (out := Pr.bool (!x7)) qNot ?_
      refine W_cond (b := !x7) rfl (fun hc8 => ?_) (fun hc8 => ?_)
      · replace h2l := iteT hc8 h2l
        refine W_rs ?_
        refine rq (out := Pr.i64 x3) qMove ?_
        refine rq (out := Pr.i64 x3) qAssign ?_
        obtain rfl := ho2 _ (Option.some.inj h2l).symm
        replace h : some x3 = some r := h
        obtain rfl := Option.some.inj h
        exact W_ret ⟨rfl, Pr.le_rfl⟩
      · replace h2l := iteF hc8 h2l
        refine W_skip ?_
        refine W_r ?_
        refine rq (out := Pr.i64 (w64 (x3 + 1))) qInt ?_
        refine rq (out := Pr.i64 (w64 (x3 + 1))) qMove ?_
        exact ⟨m2, Nat.lt_succ_self _, w64 (x3 + 1), hn2 _ (Option.some.inj h2l).symm, ⟨⟨Pr.le_rfl, Pr.le_rfl, Pr.le_rfl, Pr.le_rfl, trivial⟩, Pick.refl _⟩⟩
    · replace h2l := iteF hc5 h2l
      refine W_exit ?_
      obtain rfl := ho2 _ (Option.some.inj h2l).symm
      exact ⟨h, ⟨⟨Pr.le_rfl, trivial⟩, Pick.refl _⟩⟩
theorem lex_between_1_ok (x1 : Int) (r : Bool) (h : lex_between_1 x1 = some r) : FnP Tryz.prog 54 [Pr.u8 x1] (Pr.bool r) := by
  refine fn_intro (n := 5) (rs := [2]) Tryz.func54 rfl Tryz.ntmps54 ⟨by decide, Tryz.results54⟩ (by decide) (fun s0 => ?_)
  unfold lex_between_1 at h
  refine W_rs ?_
  refine rq (out := Pr.bool false) qAssign ?_
  refine W_rs ?_
  refine rq (out := Pr.u8 x1) qMove ?_
  refine rq (out := Pr.bool (x1 != 10)) qInt ?_
  refine rq (out := Pr.bool (x1 != 10)) qAssign ?_
  obtain rfl := Option.some.inj h
  exact W_ret ⟨rfl, Pr.le_rfl⟩
theorem lex_between_ok (x1 : List UInt8) (r : Int × Bool) (h : lex_between x1 = some r) : FnP Tryz.prog 38 [Pr.str x1] (Pr.tup [Pr.i64 r.1, Pr.bool r.2]) := by
  refine fn_intro (n := 48) (rs := [2, 3]) Tryz.func38 rfl Tryz.ntmps38 ⟨by decide, Tryz.results38⟩ (by decide) (fun s0 => ?_)
  unfold lex_between at h
  refine W_rs ?_
  refine rq (out := Pr.i64 0) qAssign ?_
  refine rq (out := Pr.bool false) qAssign ?_
  refine W_scope ?_
  refine W_rs ?_
  refine rq (out := Pr.i64 0) qAssign ?_
  refine W_seq ?_
  refine W_label ?_
  refine W_join (fun e C => ∃ (x2 : Int), lex_between_j1 x2 = some r ∧ At [(4, Pr.i64 x2)] [] e C) ?_ ?_
  · rintro e C ⟨x2, h, hat1⟩
    refine W_at hat1 ?_
    clear hat1
    unfold lex_between_j1 at h
    refine W_rs ?_
    refine rq (out := Pr.i64 x2) qMove ?_
    refine rq (out := Pr.i64 x2) qAssign ?_
    refine rq (out := Pr.bool true) qAssign ?_
    obtain rfl := Option.some.inj h
    exact W_ret ⟨rfl, Pr.le_rfl⟩
  · refine W_block ?_
    obtain ⟨z3l, hz3, h⟩ := bindSome h
    obtain ⟨n3, hN3⟩ := iter_some hz3
    clear hz3
    refine W_after 0 (fun e C => ∃ (x2 : Int), lex_between_k2 x2 = some r ∧ At [(4, Pr.i64 x2)] [] e C) ?_ ?_
    · rintro e C ⟨x2, h, hat2⟩
      unfold lex_between_k2 at h
      exact ⟨x2, h, (At.trans hat2 ⟨⟨Pr.le_rfl, trivial⟩, Pick.refl _⟩)⟩
    · refine W_loop (fun m e C => ∃ (x2 : Int), IterN (fun s => lex_between_l3 x1 s) m x2 = some z3l ∧ At [(0, Pr.str x1), (4, Pr.i64 x2)] [] e C) n3 ⟨0, hN3, ⟨⟨Pr.le_rfl, Pr.le_rfl, trivial⟩, Pick.refl _⟩⟩ ?_
      clear hN3
      rintro m e C ⟨x2, hN3, hatl3⟩
      refine W_at hatl3 ?_
      clear hatl3
      obtain ⟨m3, w3l, rfl, h3l, hn3, ho3⟩ := iterN_some hN3
      clear hN3
      replace h3l : lex_between_l3 x1 x2 = some w3l := h3l
      unfold lex_between_l3 at h3l
      refine W_seq ?_
      refine W_rs ?_
      refine rq (out := Pr.i64 x2) qMove ?_
      refine rq (out := Pr.str x1) qMove ?_
      refine rq (out := Pr.i64 (x1.length : Int)) (qLenS rfl Tryz.underlying9) ?_
      refine rq (out := Pr.bool (decide (x2 < (x1.length : Int)))) qInt ?_
      refine W_cond (b := decide (x2 < (x1.length : Int))) rfl (fun hc4 => ?_) (fun hc4 => ?_)
      · replace h3l := iteT hc4 h3l
        refine W_skip ?_
        refine W_block ?_
        refine W_rs ?_
        refine rq (out := Pr.str x1) qMove ?_
        refine rq (out := Pr.i64 x2) qMove ?_
        obtain ⟨x5, hx5, h3l⟩ := bindSome h3l
        refine rq (out := Pr.str x5) (qSubL Tryz.underlying9 hx5) ?_
        refine rq (out := Pr.str x5) qAssign ?_
        refine W_seq ?_
        refine W_block ?_
        refine W_rs ?_
        refine rq (out := Pr.str x5) qMove ?_
        obtain ⟨x6, hx6, h3l⟩ := bindSome h3l
        refine rq (out := Pr.bool x6) (qCall (strings_HasPrefix_ok x5 ([47, 47] : List UInt8) _ hx6)) ?_
        refine rq (out := Pr.bool x6) qAssign ?_
        refine W_cond (b := x6) rfl (fun hc7 => ?_) (fun hc7 => ?_)
        · replace h3l := iteT hc7 h3l
          refine W_rs ?_
          refine rq (out := Pr.i64 x2) qMove ?_
          refine rq (out := Pr.str x5) qMove ?_
          obtain ⟨x8, hx8, h3l⟩ := bindSome h3l
          refine rq (out := Pr.i64 x8) (qCall' (lex_run_ok x5 lex_between_1 _ hx8) ⟨Pr.le_rfl, (is_pfn en54 (fun _ _ hs => by obtain ⟨a0, r, rfl, rfl, hr⟩ := hs; exact lex_between_1_ok a0 r hr)), trivial⟩) ?_
          refine rq (out := Pr.i64 (w64 (x2 + x8))) qInt ?_
          refine rq (out := Pr.i64 (w64 (x2 + x8))) qAssign ?_
          refine W_exit ?_
          exact ⟨m3, Nat.lt_succ_self _, w64 (x2 + x8), hn3 _ (Option.some.inj h3l).symm, ⟨⟨Pr.le_rfl, Pr.le_rfl, trivial⟩, Pick.refl _⟩⟩
        · replace h3l := iteF hc7 h3l
          refine W_rs ?_
          refine rq (out := Pr.str x5) qMove ?_
          obtain ⟨x9, hx9, h3l⟩ := bindSome h3l
          refine rq (out := Pr.bool x9) (qCall (strings_HasPrefix_ok x5 ([47, 42] : List UInt8) _ hx9)) ?_
          refine rq (out := Pr.bool x9) qAssign ?_
          refine W_cond (b := x9) rfl (fun hc10 => ?_) (fun hc10 => ?_)
          · replace h3l := iteT hc10 h3l
            refine W_rs ?_
            refine rq (out := Pr.str x5) qMove ?_
            obtain ⟨x11, hx11, h3l⟩ := bindSome h3l
            refine rq (out := Pr.str x11) (qSubL Tryz.underlying9 hx11) ?_
            obtain ⟨x12, hx12, h3l⟩ := bindSome h3l
            refine rq (out := Pr.i64 x12) (qCall (strings_Index_ok x11 ([42, 47] : List UInt8) _ hx12)) ?_
            refine rq (out := Pr.i64 x12) qAssign ?_
            refine W_seq ?_
            refine W_rs ?_
            refine rq (out := Pr.i64 x12) qMove ?_
            refine rq (out := Pr.bool (decide (x12 < 0))) qInt ?_
            refine W_cond (b := decide (x12 < 0)) rfl (fun hc13 => ?_) (fun hc13 => ?_)
            · replace h3l := iteT hc13 h3l
              refine W_rs ?_
              refine rq (out := Pr.i64 x2) qMove ?_
              refine rq (out := Pr.i64 x2) qAssign ?_
              refine rq (out := Pr.bool false) qAssign ?_
              obtain rfl := ho3 _ (Option.some.inj h3l).symm
              replace h : some (x2, false) = some r := h
              obtain rfl := Option.some.inj h
              exact W_ret ⟨rfl, Pr.le_rfl⟩
            · replace h3l := iteF hc13 h3l
              refine W_skip ?_
              refine W_rs ?_
              refine rq (out := Pr.i64 x2) qMove ?_
              refine rq (out := Pr.i64 x12) qMove ?_
              refine rq (out := Pr.i64 (w64 (2 + x12))) qInt ?_
              refine rq (out := Pr.i64 (w64 ((w64 (2 + x12)) + 2))) qInt ?_
              refine rq (out := Pr.i64 (w64 (x2 + (w64 ((w64 (2 + x12)) + 2))))) qInt ?_
              refine rq (out := Pr.i64 (w64 (x2 + (w64 ((w64 (2 + x12)) + 2))))) qAssign ?_
              refine W_exit ?_
              exact ⟨m3, Nat.lt_succ_self _, w64 (x2 + (w64 ((w64 (2 + x12)) + 2))), hn3 _ (Option.some.inj h3l).symm, ⟨⟨Pr.le_rfl, Pr.le_rfl, trivial⟩, Pick.refl _⟩⟩
          · replace h3l := iteF hc10 h3l
            refine W_skip ?_
            refine W_rs ?_
            refine rq (out := Pr.str x5) qMove ?_
            obtain ⟨x14, hx14, h3l⟩ := bindSome h3l
            refine rq (out := Pr.u8 x14) (qIdxS Tryz.underlying9 hx14) ?_
            refine W_block ?_
            refine W_seq ?_
            refine W_block ?_
            refine W_join (fun e C => lex_between_j4 x2 = some w3l ∧ At [(0, Pr.str x1), (4, Pr.i64 x2)] [] e C) ?_ ?_
            · rintro e C ⟨h3l, hat4⟩
              refine W_at hat4 ?_
              clear hat4
              unfold lex_between_j4 at h3l
              refine W_rs ?_
              refine rq (out := Pr.i64 x2) qMove ?_
              refine rq (out := Pr.i64 (w64 (x2 + 1))) qInt ?_
              refine rq (out := Pr.i64 (w64 (x2 + 1))) qAssign ?_
              refine W_exit ?_
              exact ⟨m3, Nat.lt_succ_self _, w64 (x2 + 1), hn3 _ (Option.some.inj h3l).symm, ⟨⟨Pr.le_rfl, Pr.le_rfl, trivial⟩, Pick.refl _⟩⟩
            · refine W_block ?_
              refine W_block ?_
              refine W_block ?_
              refine W_block ?_
              refine W_seq ?_
              refine W_seq ?_
              refine W_rs ?_
              refine rq (out := Pr.bool (x14 == 32)) qInt ?_
              refine rq (out := Pr.bool (x14 == 32)) qAssign ?_
              refine W_cond (b := x14 == 32) rfl (fun hc15 => ?_) (fun hc15 => ?_)
              · replace h3l := iteT hc15 h3l
                refine W_exit ?_
                exact ⟨h3l, ⟨⟨Pr.le_rfl, Pr.le_rfl, trivial⟩, Pick.refl _⟩⟩
              · replace h3l := iteF hc15 h3l
                refine W_skip ?_
                refine W_seq ?_
                refine W_rs ?_
                refine rq (out := Pr.bool (x14 == 9)) qInt ?_
                refine rq (out := Pr.bool (x14 == 9)) qAssign ?_
                refine W_cond (b := x14 == 9) rfl (fun hc16 => ?_) (fun hc16 => ?_)
                · replace h3l := iteT hc16 h3l
                  refine W_exit ?_
                  exact ⟨h3l, ⟨⟨Pr.le_rfl, Pr.le_rfl, trivial⟩, Pick.refl _⟩⟩
                · replace h3l := iteF hc16 h3l
                  refine W_skip ?_
                  refine W_seq ?_
                  refine W_rs ?_
                  refine rq (out := Pr.bool (x14 == 13)) qInt ?_
                  refine rq (out := Pr.bool (x14 == 13)) qAssign ?_
                  refine W_cond (b := x14 == 13) rfl (fun hc17 => ?_) (fun hc17 => ?_)
                  · replace h3l := iteT hc17 h3l
                    refine W_exit ?_
                    exact ⟨h3l, ⟨⟨Pr.le_rfl, Pr.le_rfl, trivial⟩, Pick.refl _⟩⟩
                  · replace h3l := iteF hc17 h3l
                    refine W_skip ?_
                    refine W_rs ?_
                    refine rq (out := Pr.bool (x14 == 10)) qInt ?_
                    refine rq (out := Pr.bool (x14 == 10)) qAssign ?_
                    refine W_cond (b := x14 == 10) rfl (fun hc18 => ?_) (fun hc18 => ?_)
                    · replace h3l := iteT hc18 h3l
                      refine W_exit ?_
                      exact ⟨h3l, ⟨⟨Pr.le_rfl, Pr.le_rfl, trivial⟩, Pick.refl _⟩⟩
                    · replace h3l := iteF hc18 h3l
                      refine W_skip ?_
                      refine W_exit ?_
                      refine W_seq ?_
                      refine W_exit ?_
                      obtain rfl := ho3 _ (Option.some.inj h3l).symm
                      exact ⟨x2, h, ⟨⟨Pr.le_rfl, trivial⟩, Pick.refl _⟩⟩
      · replace h3l := iteF hc4 h3l
        refine W_exit ?_
        obtain rfl := ho3 _ (Option.some.inj h3l).symm
        exact ⟨x2, h, ⟨⟨Pr.le_rfl, trivial⟩, Pick.refl _⟩⟩
theorem lex_digit_ok (x1 : Int) (r : Bool) (h : lex_digit x1 = some r) : FnP Tryz.prog 56 [Pr.u8 x1] (Pr.bool r) := by
  refine fn_intro (n := 9) (rs := [2]) Tryz.func56 rfl Tryz.ntmps56 ⟨by decide, Tryz.results56⟩ (by decide) (fun s0 => ?_)
  unfold lex_digit at h
  refine W_rs ?_
  refine rq (out := Pr.bool false) qAssign ?_
  refine W_join (fun e C => ∃ (x3 : Bool), lex_digit_j1 x3 = some r ∧ At [(2, Pr.bool x3)] [] e C) ?_ ?_
  · rintro e C ⟨x3, h, hat1⟩
    refine W_at hat1 ?_
    clear hat1
    unfold lex_digit_j1 at h
    obtain rfl := Option.some.inj h
    exact W_ret ⟨rfl, Pr.le_rfl⟩
  · refine W_r ?_
    refine rq (out := Pr.u8 x1) qMove ?_
    refine rq (out := Pr.bool (decide (x1 ≥ 48))) qInt ?_
    refine rq (out := Pr.bool (decide (x1 ≥ 48))) qMove ?_
    rcases iteSome h with ⟨hc2, h⟩ | ⟨hc2, h⟩
    · refine rqg hc2 (out := Pr.u8 x1) qMove ?_
      refine rqg hc2 (out := Pr.bool (decide (x1 ≤ 57))) qInt ?_
      refine rq (out := Pr.bool (decide (x1 ≤ 57))) (qPickT hc2) ?_
      refine rq (out := Pr.bool (decide (x1 ≤ 57))) qAssign ?_
      exact ⟨decide (x1 ≤ 57), h, ⟨⟨Pr.le_rfl, trivial⟩, Pick.refl _⟩⟩
    · refine rno (neT hc2) ?_
      refine rno (neT hc2) ?_
      refine rq (out := Pr.bool false) (qPickF hc2) ?_
      refine rq (out := Pr.bool false) qAssign ?_
      exact ⟨false, h, ⟨⟨Pr.le_rfl, trivial⟩, Pick.refl _⟩⟩
theorem lex_letter_ok (x1 : Int) (r : Bool) (h : lex_letter x1 = some r) : FnP Tryz.prog 58 [Pr.u8 x1] (Pr.bool r) := by
  refine fn_intro (n := 15) (rs := [2]) Tryz.func58 rfl Tryz.ntmps58 ⟨by decide, Tryz.results58⟩ (by decide) (fun s0 => ?_)
  unfold lex_letter at h
  refine W_rs ?_
  refine rq (out := Pr.bool false) qAssign ?_
  refine W_join (fun e C => ∃ (x5 : Bool), lex_letter_j1 x5 = some r ∧ At [(2, Pr.bool x5)] [] e C) ?_ ?_
  · rintro e C ⟨x5, h, hat1⟩
    refine W_at hat1 ?_
    clear hat1
    unfold lex_letter_j1 at h
    obtain rfl := Option.some.inj h
    exact W_ret ⟨rfl, Pr.le_rfl⟩
  · refine W_r ?_
    refine rq (out := Pr.u8 x1) qMove ?_
    refine rq (out := Pr.u8 (bits .or .u8 x1 32)) (qBits (by simp) rfl) ?_
    refine rq (out := Pr.bool (decide ((bits .or .u8 x1 32) ≥ 97))) qInt ?_
    refine rq (out := Pr.bool (decide ((bits .or .u8 x1 32) ≥ 97))) qMove ?_
    rcases iteSome h with ⟨hc2, h⟩ | ⟨hc2, h⟩
    · refine rqg hc2 (out := Pr.u8 x1) qMove ?_
      refine rqg hc2 (out := Pr.u8 (bits .or .u8 x1 32)) (qBits (by simp) rfl) ?_
      refine rqg hc2 (out := Pr.bool (decide ((bits .or .u8 x1 32) ≤ 122))) qInt ?_
      refine rq (out := Pr.bool (decide ((bits .or .u8 x1 32) ≤ 122))) (qPickT hc2) ?_
      refine rq (out := Pr.bool (decide ((bits .or .u8 x1 32) ≤ 122))) qMove ?_
      rcases iteSome h with ⟨hc3, h⟩ | ⟨hc3, h⟩
      · refine rno (neF hc3) ?_
        refine rno (neF hc3) ?_
        refine rq (out := Pr.bool true) (qPickT hc3) ?_
        refine rq (out := Pr.bool true) qAssign ?_
        exact ⟨true, h, ⟨⟨Pr.le_rfl, trivial⟩, Pick.refl _⟩⟩
      · refine rqg hc3 (out := Pr.u8 x1) qMove ?_
        refine rqg hc3 (out := Pr.bool (x1 == 95)) qInt ?_
        refine rq (out := Pr.bool (x1 == 95)) (qPickF hc3) ?_
        refine rq (out := Pr.bool (x1 == 95)) qAssign ?_
        exact ⟨x1 == 95, h, ⟨⟨Pr.le_rfl, trivial⟩, Pick.refl _⟩⟩
    · refine rno (neT hc2) ?_
      refine rno (neT hc2) ?_
      refine rno (neT hc2) ?_
      refine rq (out := Pr.bool false) (qPickF hc2) ?_
      refine rq (out := Pr.bool false) qMove ?_
      have hc4 : false = false := rfl
      refine rqg hc4 (out := Pr.u8 x1) qMove ?_
      refine rqg hc4 (out := Pr.bool (x1 == 95)) qInt ?_
      refine rq (out := Pr.bool (x1 == 95)) (qPickF hc4) ?_
      refine rq (out := Pr.bool (x1 == 95)) qAssign ?_
      exact ⟨x1 == 95, h, ⟨⟨Pr.le_rfl, trivial⟩, Pick.refl _⟩⟩
theorem lex_token_1_ok (x1 : Int) (r : Bool) (h : lex_token_1 x1 = some r) : FnP Tryz.prog 59 [Pr.u8 x1] (Pr.bool r) := by
  refine fn_intro (n := 9) (rs := [2]) Tryz.func59 rfl Tryz.ntmps59 ⟨by decide, Tryz.results59⟩ (by decide) (fun s0 => ?_)
  unfold lex_token_1 at h
  refine W_rs ?_
  refine rq (out := Pr.bool false) qAssign ?_
  refine W_join (fun e C => ∃ (x5 : Bool), lex_token_1_j1 x5 = some r ∧ At [(2, Pr.bool x5)] [] e C) ?_ ?_
  · rintro e C ⟨x5, h, hat1⟩
    refine W_at hat1 ?_
    clear hat1
    unfold lex_token_1_j1 at h
    obtain rfl := Option.some.inj h
    exact W_ret ⟨rfl, Pr.le_rfl⟩
  · refine W_r ?_
    refine rq (out := Pr.u8 x1) qMove ?_
    obtain ⟨x2, hx2, h⟩ := bindSome h
    refine rq (out := Pr.bool x2) (qCall (lex_letter_ok x1 _ hx2)) ?_
    refine rq (out := Pr.bool x2) qMove ?_
    rcases iteSome h with ⟨hc3, h⟩ | ⟨hc3, h⟩
    · refine rno (neF hc3) ?_
      refine rno (neF hc3) ?_
      refine rq (out := Pr.bool true) (qPickT hc3) ?_
      refine rq (out := Pr.bool true) qAssign ?_
      exact ⟨true, h, ⟨⟨Pr.le_rfl, trivial⟩, Pick.refl _⟩⟩
    · refine rqg hc3 (out := Pr.u8 x1) qMove ?_
      obtain ⟨x4, hx4, h⟩ := bindSome h
      refine rqg hc3 (out := Pr.bool x4) (qCall (lex_digit_ok x1 _ hx4)) ?_
      refine rq (out := Pr.bool x4) (qPickF hc3) ?_
      refine rq (out := Pr.bool x4) qAssign ?_
      exact ⟨x4, h, ⟨⟨Pr.le_rfl, trivial⟩, Pick.refl _⟩⟩
theorem slices_Index_string_string_ok (x1 : List (List UInt8)) (x2 : List UInt8) (r : Int) (h : slices_Index_string_string x1 x2 = some r) : FnP Tryz.prog 91 [Pr.lst Rp.str x1, Pr.str x2] (Pr.i64 r) := by
  refine fn_intro (n := 19) (rs := [4]) Tryz.func91 rfl Tryz.ntmps91 ⟨by decide, Tryz.results91⟩ (by decide) (fun s0 => ?_)
  unfold slices_Index_string_string at h
  refine W_rs ?_
  refine rq (out := Pr.i64 0) qAssign ?_
  refine W_seq ?_
  refine W_rs ?_
  refine rq (out := Pr.lst Rp.str x1) qMove ?_
  refine rq (out := Pr.i64 (x1.length : Int)) (qLenL rfl Tryz.underlying27) ?_
  refine rq (out := Pr.i64 0) qMove ?_
  refine W_block ?_
  obtain ⟨z2l, hz2, h⟩ := bindSome h
  obtain ⟨n2, hN2⟩ := iter_some hz2
  clear hz2
  refine W_after 0 (fun e C => slices_Index_string_string_k1 = some r ∧ At [] [] e C) ?_ ?_
  · rintro e C ⟨h, hat1⟩
    refine W_at hat1 ?_
    clear hat1
    unfold slices_Index_string_string_k1 at h
    refine W_rs ?_
    refine rq (out := Pr.i64 (-1)) qAssign ?_
    obtain rfl := Option.some.inj h
    exact W_ret ⟨rfl, Pr.le_rfl⟩
  · refine W_loop (fun m e C => ∃ (x3 : Int), IterN (fun s => slices_Index_string_string_l2 x1 x2 s) m x3 = some z2l ∧ At [(0, Pr.lst Rp.str x1), (1, Pr.str x2), (7, Pr.i64 (x1.length : Int)), (8, Pr.i64 x3)] [] e C) n2 ⟨0, hN2, ⟨⟨Pr.le_rfl, Pr.le_rfl, Pr.le_rfl, Pr.le_rfl, trivial⟩, Pick.refl _⟩⟩ ?_
    clear hN2
    rintro m e C ⟨x3, hN2, hatl2⟩
    refine W_at hatl2 ?_
    clear hatl2
    obtain ⟨m2, w2l, rfl, h2l, hn2, ho2⟩ := iterN_some hN2
    clear hN2
    replace h2l : slices_Index_string_string_l2 x1 x2 x3 = some w2l := h2l
    unfold slices_Index_string_string_l2 at h2l
    refine W_rs ?_
    refine rq (out := Pr.bool (decide (x3 < (x1.length : Int)))) qInt ?_
    refine W_seq ?_
    refine W_cond (b := decide (x3 < (x1.length : Int))) rfl (fun hc5 => ?_) (fun hc5 => ?_)
    · replace h2l := iteT hc5 h2l
      refine W_skip ?_
      refine W_seq ?_
      refine W_block ?_
      refine W_rs ?_
      refine rq (out := Pr.i64 x3) qMove ?_
      refine rq (out := Pr.i64 x3) qAssign ?_
      refine W_rs ?_
      refine rq (out := Pr.str x2) qMove ?_
      refine rq (out := Pr.lst Rp.str x1) qMove ?_
      refine rq (out := Pr.i64 x3) qMove ?_
      obtain ⟨x6, hx6, h2l⟩ := bindSome h2l
      refine rq (out := Pr.cpt Rp.str x6) (qIdxA (R := Rp.str) (l := x1) Tryz.underlying27 Tryz.sizeOf9 hx6) ?_
      refine rq (out := Pr.str x6) (qLoadC (R := Rp.str) (a := x6) ty9) ?_
      refine rq (out := Pr.bool (x2 == x6)) qStr ?_
      refine W_cond (b := x2 == x6) rfl (fun hc7 => ?_) (fun hc7 => ?_)
      · replace h2l := iteT hc7 h2l
        refine W_rs ?_
        refine rq (out := Pr.i64 x3) qMove ?_
        refine rq (out := Pr.i64 x3) qAssign ?_
        obtain rfl := ho2 _ (Option.some.inj h2l).symm
        replace h : some x3 = some r := h
        obtain rfl := Option.some.inj h
        exact W_ret ⟨rfl, Pr.le_rfl⟩
      · replace h2l := iteF hc7 h2l
        refine W_skip ?_
        refine W_r ?_
        refine rq (out := Pr.i64 (w64 (x3 + 1))) qInt ?_
        refine rq (out := Pr.i64 (w64 (x3 + 1))) qMove ?_
        exact ⟨m2, Nat.lt_succ_self _, w64 (x3 + 1), hn2 _ (Option.some.inj h2l).symm, ⟨⟨Pr.le_rfl, Pr.le_rfl, Pr.le_rfl, Pr.le_rfl, trivial⟩, Pick.refl _⟩⟩
    · replace h2l := iteF hc5 h2l
      refine W_exit ?_
      obtain rfl := ho2 _ (Option.some.inj h2l).symm
      exact ⟨h, ⟨trivial, Pick.refl _⟩⟩
theorem slices_Contains_string_string_ok (x1 : List (List UInt8)) (x2 : List UInt8) (r : Bool) (h : slices_Contains_string_string x1 x2 = some r) : FnP Tryz.prog 73 [Pr.lst Rp.str x1, Pr.str x2] (Pr.bool r) := by
  refine fn_intro (n := 9) (rs := [4]) Tryz.func73 rfl Tryz.ntmps73 ⟨by decide, Tryz.results73⟩ (by decide) (fun s0 => ?_)
  unfold slices_Contains_string_string at h
  refine W_rs ?_
  refine rq (out := Pr.bool false) qAssign ?_
  refine W_rs ?_
  refine rq (out := Pr.lst Rp.str x1) qMove ?_
  refine rq (out := Pr.str x2) qMove ?_
  obtain ⟨x3, hx3, h⟩ := bindSome h
  refine rq (out := Pr.i64 x3) (qCall (slices_Index_string_string_ok x1 x2 _ hx3)) ?_
  refine rq (out := Pr.bool (decide (x3 ≥ 0))) qInt ?_
  refine rq (out := Pr.bool (decide (x3 ≥ 0))) qAssign ?_
  obtain rfl := Option.some.inj h
  exact W_ret ⟨rfl, Pr.le_rfl⟩
theorem lex_Kept_ok (x1 : List UInt8) (r : Bool) (h : lex_Kept x1 = some r) : FnP Tryz.prog 60 [Pr.str x1] (Pr.bool r) := by
  refine fn_intro (n := 6) (rs := [2]) Tryz.func60 rfl Tryz.ntmps60 ⟨by decide, Tryz.results60⟩ (by decide) (fun s0 => ?_)
  unfold lex_Kept at h
  refine W_rs ?_
  refine rq (out := Pr.bool false) qAssign ?_
  refine W_rs ?_
  refine rq (out := Pr.lst Rp.str kept) (qGSlice (R := Rp.str) (L := kept) gKept Tryz.underlying112 Tryz.sizeOf9 rfl) ?_
  refine rq (out := Pr.str x1) qMove ?_
  obtain ⟨x2, hx2, h⟩ := bindSome h
  refine rq (out := Pr.bool x2) (qCall (slices_Contains_string_string_ok kept x1 _ hx2)) ?_
  refine rq (out := Pr.bool x2) qAssign ?_
  obtain rfl := Option.some.inj h
  exact W_ret ⟨rfl, Pr.le_rfl⟩
theorem lex_mark_ok (x1 : List UInt8) (r : Int) (h : lex_mark x1 = some r) : FnP Tryz.prog 61 [Pr.str x1] (Pr.i64 r) := by
  refine fn_intro (n := 19) (rs := [2]) Tryz.func61 rfl Tryz.ntmps61 ⟨by decide, Tryz.results61⟩ (by decide) (fun s0 => ?_)
  unfold lex_mark at h
  refine W_rs ?_
  refine rq (out := Pr.i64 0) qAssign ?_
  refine W_seq ?_
  refine W_rs ?_
  refine rq (out := Pr.lst Rp.str ([([61, 61] : List UInt8), ([33, 61] : List UInt8), ([60, 61] : List UInt8), ([62, 61] : List UInt8), ([38, 38] : List UInt8), ([124, 124] : List UInt8)] : List (List UInt8))) (qBuildSlice (R := Rp.str) (ls := ([([61, 61] : List UInt8), ([33, 61] : List UInt8), ([60, 61] : List UInt8), ([62, 61] : List UInt8), ([38, 38] : List UInt8), ([124, 124] : List UInt8)] : List (List UInt8))) el27 (Nat.le_of_ble_eq_true rfl) ⟨rfl, rfl⟩ ⟨rfl, rfl, rfl, rfl, rfl, rfl, trivial⟩) ?_
  refine rq (out := Pr.i64 (([([61, 61] : List UInt8), ([33, 61] : List UInt8), ([60, 61] : List UInt8), ([62, 61] : List UInt8), ([38, 38] : List UInt8), ([124, 124] : List UInt8)] : List (List UInt8)).length : Int)) (qLenL rfl Tryz.underlying27) ?_
  refine rq (out := Pr.i64 0) qMove ?_
  refine W_block ?_
  obtain ⟨z2l, hz2, h⟩ := bindSome h
  obtain ⟨n2, hN2⟩ := iter_some hz2
  clear hz2
  refine W_after 0 (fun e C => lex_mark_k1 x1 = some r ∧ At [(0, Pr.str x1)] [] e C) ?_ ?_
  · rintro e C ⟨h, hat1⟩
    refine W_at hat1 ?_
    clear hat1
    unfold lex_mark_k1 at h
    refine W_seq ?_
    refine W_rs ?_
    refine rq (out := Pr.str x1) qMove ?_
    obtain ⟨x8, hx8, h⟩ := bindSome h
    refine rq (out := Pr.u8 x8) (qIdxS Tryz.underlying9 hx8) ?_
    obtain ⟨x9, hx9, h⟩ := bindSome h
    refine rq (out := Pr.i64 x9) (qCall (strings_IndexByte_ok ([43, 45, 42, 47, 37, 60, 62, 61, 33, 40, 41, 123, 125, 59, 44, 46] : List UInt8) x8 _ hx9)) ?_
    refine rq (out := Pr.bool (decide (x9 ≥ 0))) qInt ?_
    refine W_cond (b := decide (x9 ≥ 0)) rfl (fun hc10 => ?_) (fun hc10 => ?_)
    · replace h := iteT hc10 h
      refine W_rs ?_
      refine rq (out := Pr.i64 1) qAssign ?_
      obtain rfl := Option.some.inj h
      exact W_ret ⟨rfl, Pr.le_rfl⟩
    · replace h := iteF hc10 h
      refine W_skip ?_
      refine W_rs ?_
      refine rq (out := Pr.i64 0) qAssign ?_
      obtain rfl := Option.some.inj h
      exact W_ret ⟨rfl, Pr.le_rfl⟩
  · refine W_loop (fun m e C => ∃ (x2 : Int), IterN (fun s => lex_mark_l2 x1 s) m x2 = some z2l ∧ At [(0, Pr.str x1), (5, Pr.lst Rp.str ([([61, 61] : List UInt8), ([33, 61] : List UInt8), ([60, 61] : List UInt8), ([62, 61] : List UInt8), ([38, 38] : List UInt8), ([124, 124] : List UInt8)] : List (List UInt8))), (6, Pr.i64 (([([61, 61] : List UInt8), ([33, 61] : List UInt8), ([60, 61] : List UInt8), ([62, 61] : List UInt8), ([38, 38] : List UInt8), ([124, 124] : List UInt8)] : List (List UInt8)).length : Int)), (7, Pr.i64 x2)] [] e C) n2 ⟨0, hN2, ⟨⟨Pr.le_rfl, Pr.le_rfl, Pr.le_rfl, Pr.le_rfl, trivial⟩, Pick.refl _⟩⟩ ?_
    clear hN2
    rintro m e C ⟨x2, hN2, hatl2⟩
    refine W_at hatl2 ?_
    clear hatl2
    obtain ⟨m2, w2l, rfl, h2l, hn2, ho2⟩ := iterN_some hN2
    clear hN2
    replace h2l : lex_mark_l2 x1 x2 = some w2l := h2l
    unfold lex_mark_l2 at h2l
    refine W_rs ?_
    refine rq (out := Pr.bool (decide (x2 < (([([61, 61] : List UInt8), ([33, 61] : List UInt8), ([60, 61] : List UInt8), ([62, 61] : List UInt8), ([38, 38] : List UInt8), ([124, 124] : List UInt8)] : List (List UInt8)).length : Int)))) qInt ?_
    refine W_seq ?_
    refine W_cond (b := decide (x2 < (([([61, 61] : List UInt8), ([33, 61] : List UInt8), ([60, 61] : List UInt8), ([62, 61] : List UInt8), ([38, 38] : List UInt8), ([124, 124] : List UInt8)] : List (List UInt8)).length : Int))) rfl (fun hc4 => ?_) (fun hc4 => ?_)
    · replace h2l := iteT hc4 h2l
      refine W_skip ?_
      refine W_seq ?_
      refine W_block ?_
      refine W_rs ?_
      obtain ⟨x5, hx5, h2l⟩ := bindSome h2l
      refine rq (out := Pr.cpt Rp.str x5) (qIdxA (R := Rp.str) (l := ([([61, 61] : List UInt8), ([33, 61] : List UInt8), ([60, 61] : List UInt8), ([62, 61] : List UInt8), ([38, 38] : List UInt8), ([124, 124] : List UInt8)] : List (List UInt8))) Tryz.underlying27 Tryz.sizeOf9 hx5) ?_
      refine rq (out := Pr.str x5) (qLoadC (R := Rp.str) (a := x5) ty9) ?_
      refine rq (out := Pr.str x5) qAssign ?_
      refine W_rs ?_
      refine rq (out := Pr.str x1) qMove ?_
      refine rq (out := Pr.str x5) qMove ?_
      obtain ⟨x6, hx6, h2l⟩ := bindSome h2l
      refine rq (out := Pr.bool x6) (qCall (strings_HasPrefix_ok x1 x5 _ hx6)) ?_
      refine W_cond (b := x6) rfl (fun hc7 => ?_) (fun hc7 => ?_)
      · replace h2l := iteT hc7 h2l
        refine W_rs ?_
        refine rq (out := Pr.i64 2) qAssign ?_
        obtain rfl := ho2 _ (Option.some.inj h2l).symm
        replace h : some 2 = some r := h
        obtain rfl := Option.some.inj h
        exact W_ret ⟨rfl, Pr.le_rfl⟩
      · replace h2l := iteF hc7 h2l
        refine W_skip ?_
        refine W_r ?_
        refine rq (out := Pr.i64 (w64 (x2 + 1))) qInt ?_
        refine rq (out := Pr.i64 (w64 (x2 + 1))) qMove ?_
        exact ⟨m2, Nat.lt_succ_self _, w64 (x2 + 1), hn2 _ (Option.some.inj h2l).symm, ⟨⟨Pr.le_rfl, Pr.le_rfl, Pr.le_rfl, Pr.le_rfl, trivial⟩, Pick.refl _⟩⟩
    · replace h2l := iteF hc4 h2l
      refine W_exit ?_
      obtain rfl := ho2 _ (Option.some.inj h2l).symm
      exact ⟨h, ⟨⟨Pr.le_rfl, trivial⟩, Pick.refl _⟩⟩
theorem lex_token_ok (x1 : List UInt8) (r : Int × Int × Int) (h : lex_token x1 = some r) : FnP Tryz.prog 39 [Pr.str x1] (Pr.tup [Pr.i64 r.1, Pr.i64 r.2.1, Pr.i64 r.2.2]) := by
  refine fn_intro (n := 60) (rs := [2, 3, 4]) Tryz.func39 rfl Tryz.ntmps39 ⟨by decide, Tryz.results39⟩ (by decide) (fun s0 => ?_)
  unfold lex_token at h
  refine W_rs ?_
  refine rq (out := Pr.i64 0) qAssign ?_
  refine rq (out := Pr.i64 0) qAssign ?_
  refine rq (out := Pr.i64 0) qAssign ?_
  refine W_seq ?_
  refine W_block ?_
  refine W_rs ?_
  refine rq (out := Pr.str x1) qMove ?_
  obtain ⟨x2, hx2, h⟩ := bindSome h
  refine rq (out := Pr.u8 x2) (qIdxS Tryz.underlying9 hx2) ?_
  obtain ⟨x3, hx3, h⟩ := bindSome h
  refine rq (out := Pr.bool x3) (qCall (lex_digit_ok x2 _ hx3)) ?_
  refine rq (out := Pr.bool x3) qAssign ?_
  refine W_cond (b := x3) rfl (fun hc4 => ?_) (fun hc4 => ?_)
  · replace h := iteT hc4 h
    refine W_rs ?_
    refine rq (out := Pr.str x1) qMove ?_
    obtain ⟨x5, hx5, h⟩ := bindSome h
    refine rq (out := Pr.i64 x5) (qCall' (lex_run_ok x1 lex_digit _ hx5) ⟨Pr.le_rfl, (is_pfn en56 (fun _ _ hs => by obtain ⟨a0, r, rfl, rfl, hr⟩ := hs; exact lex_digit_ok a0 r hr)), trivial⟩) ?_
    refine rq (out := Pr.i64 x5) qAssign ?_
    refine W_rs ?_
    refine rq (out := Pr.str x1) qMove ?_
    refine rq (out := Pr.i64 x5) qMove ?_
    obtain ⟨x6, hx6, h⟩ := bindSome h
    refine rq (out := Pr.str x6) (qSubH Tryz.underlying9 hx6) ?_
    obtain ⟨⟨x7, x8⟩, hx7, h⟩ := bindSome h
    refine rq (out := Pr.tup [Pr.i64 x7, Pr.err x8]) (qCall (strconv_ParseInt_ok x6 10 64 _ hx7)) ?_
    refine rq (out := Pr.tup [Pr.i64 x7, Pr.err x8]) qMove ?_
    refine rq (out := Pr.i64 x7) qExtract ?_
    refine rq (out := Pr.err x8) qExtract ?_
    refine rq (out := Pr.i64 x7) qAssign ?_
    refine rq (out := Pr.err x8) qAssign ?_
    refine W_seq ?_
    refine W_join (fun e C => ∃ (x16 : Bool), lex_token_j1 x5 x16 = some r ∧ At [(5, Pr.i64 x5), (37, Pr.bool x16)] [] e C) ?_ ?_
    · rintro e C ⟨x16, h, hat1⟩
      refine W_at hat1 ?_
      clear hat1
      unfold lex_token_j1 at h
      refine W_cond (b := x16) rfl (fun hc17 => ?_) (fun hc17 => ?_)
      · replace h := iteT hc17 h
        refine W_rs ?_
        refine rq (out := Pr.i64 0) qAssign ?_
        refine rq (out := Pr.i64 0) qAssign ?_
        refine rq (out := Pr.i64 31) qAssign ?_
        obtain rfl := Option.some.inj h
        exact W_ret ⟨rfl, Pr.le_rfl⟩
      · replace h := iteF hc17 h
        refine W_skip ?_
        refine W_rs ?_
        refine rq (out := Pr.i64 x5) qMove ?_
        refine rq (out := Pr.i64 2) qAssign ?_
        refine rq (out := Pr.i64 x5) qAssign ?_
        refine rq (out := Pr.i64 0) qAssign ?_
        obtain rfl := Option.some.inj h
        exact W_ret ⟨rfl, Pr.le_rfl⟩
    · refine W_r ?_
      refine rq (out := Pr.err x8) qMove ?_
      refine rq (out := Pr.bool x8) (qErrNe Tryz.underlying55) ?_
      refine rq (out := Pr.bool x8) qMove ?_
      rcases iteSome h with ⟨hc9, h⟩ | ⟨hc9, h⟩
      · refine rno (neF hc9) ?_
        refine rno (neF hc9) ?_
        refine rq (out := Pr.bool true) (qPickT hc9) ?_
        refine rq (out := Pr.bool true) qMove ?_
        have hc13 : true = true := rfl
        refine rno (neF hc13) ?_
        refine rno (neF hc13) ?_
        refine rno (neF hc13) ?_
        refine rnoU ?_
        refine rnoU ?_
        refine rnoU ?_
        refine rno (neF hc13) ?_
        refine rq (out := Pr.bool true) (qPickT hc13) ?_
        exact ⟨true, h, ⟨⟨Pr.le_rfl, Pr.le_rfl, trivial⟩, Pick.refl _⟩⟩
      · refine rqg hc9 (out := Pr.i64 x7) qMove ?_
        refine rqg hc9 (out := Pr.bool (decide (x7 > 2147483647))) qInt ?_
        refine rq (out := Pr.bool (decide (x7 > 2147483647))) (qPickF hc9) ?_
        refine rq (out := Pr.bool (decide (x7 > 2147483647))) qMove ?_
        rcases iteSome h with ⟨hc10, h⟩ | ⟨hc10, h⟩
        · refine rno (neF hc10) ?_
          refine rno (neF hc10) ?_
          refine rno (neF hc10) ?_
          refine rnoU ?_
          refine rnoU ?_
          refine rnoU ?_
          refine rno (neF hc10) ?_
          refine rq (out := Pr.bool true) (qPickT hc10) ?_
          exact ⟨true, h, ⟨⟨Pr.le_rfl, Pr.le_rfl, trivial⟩, Pick.refl _⟩⟩
        · refine rqg hc10 (out := Pr.i64 x5) qMove ?_
          refine rqg hc10 (out := Pr.bool (decide (x5 > 1))) qInt ?_
          refine rqg hc10 (out := Pr.bool (decide (x5 > 1))) qMove ?_
          rcases iteSome h with ⟨hc11, h⟩ | ⟨hc11, h⟩
          · refine rqg hc11 (out := Pr.str x1) qMove ?_
            obtain ⟨x12, hx12, h⟩ := bindSome h
            refine rqg hc11 (out := Pr.u8 x12) (qIdxS Tryz.underlying9 hx12) ?_
            refine rqg hc11 (out := Pr.bool (x12 == 48)) qInt ?_
            refine rqg hc10 (out := Pr.bool (x12 == 48)) (qPickT hc11) ?_
            refine rq (out := Pr.bool (x12 == 48)) (qPickF hc10) ?_
            exact ⟨x12 == 48, h, ⟨⟨Pr.le_rfl, Pr.le_rfl, trivial⟩, Pick.refl _⟩⟩
          · refine rno (neT hc11) ?_
            refine rno (neT hc11) ?_
            refine rno (neT hc11) ?_
            refine rqg hc10 (out := Pr.bool false) (qPickF hc11) ?_
            refine rq (out := Pr.bool false) (qPickF hc10) ?_
            exact ⟨false, h, ⟨⟨Pr.le_rfl, Pr.le_rfl, trivial⟩, Pick.refl _⟩⟩
  · replace h := iteF hc4 h
    refine W_rs ?_
    refine rq (out := Pr.str x1) qMove ?_
    obtain ⟨x18, hx18, h⟩ := bindSome h
    refine rq (out := Pr.u8 x18) (qIdxS Tryz.underlying9 hx18) ?_
    obtain ⟨x19, hx19, h⟩ := bindSome h
    refine rq (out := Pr.bool x19) (qCall (lex_letter_ok x18 _ hx19)) ?_
    refine rq (out := Pr.bool x19) qAssign ?_
    refine W_cond (b := x19) rfl (fun hc20 => ?_) (fun hc20 => ?_)
    · replace h := iteT hc20 h
      refine W_rs ?_
      refine rq (out := Pr.str x1) qMove ?_
      obtain ⟨x21, hx21, h⟩ := bindSome h
      refine rq (out := Pr.i64 x21) (qCall' (lex_run_ok x1 lex_token_1 _ hx21) ⟨Pr.le_rfl, (is_pfn en59 (fun _ _ hs => by obtain ⟨a0, r, rfl, rfl, hr⟩ := hs; exact lex_token_1_ok a0 r hr)), trivial⟩) ?_
      refine rq (out := Pr.i64 x21) qAssign ?_
      refine W_seq ?_
      refine W_block ?_
      refine W_rs ?_
      refine rq (out := Pr.i64 x21) qMove ?_
      refine rq (out := Pr.bool (decide (x21 > 20))) qInt ?_
      refine rq (out := Pr.bool (decide (x21 > 20))) qAssign ?_
      refine W_cond (b := decide (x21 > 20)) rfl (fun hc22 => ?_) (fun hc22 => ?_)
      · replace h := iteT hc22 h
        refine W_rs ?_
        refine rq (out := Pr.i64 0) qAssign ?_
        refine rq (out := Pr.i64 0) qAssign ?_
        refine rq (out := Pr.i64 2) qAssign ?_
        obtain rfl := Option.some.inj h
        exact W_ret ⟨rfl, Pr.le_rfl⟩
      · replace h := iteF hc22 h
        refine W_rs ?_
        refine rq (out := Pr.str x1) qMove ?_
        refine rq (out := Pr.i64 x21) qMove ?_
        obtain ⟨x23, hx23, h⟩ := bindSome h
        refine rq (out := Pr.str x23) (qSubH Tryz.underlying9 hx23) ?_
        obtain ⟨x24, hx24, h⟩ := bindSome h
        refine rq (out := Pr.bool x24) (qCall (lex_Kept_ok x23 _ hx24)) ?_
        refine rq (out := Pr.bool x24) qAssign ?_
        refine W_cond (b := x24) rfl (fun hc25 => ?_) (fun hc25 => ?_)
        · replace h := iteT hc25 h
          refine W_rs ?_
          refine rq (out := Pr.i64 x21) qMove ?_
          refine rq (out := Pr.i64 3) qAssign ?_
          refine rq (out := Pr.i64 x21) qAssign ?_
          refine rq (out := Pr.i64 0) qAssign ?_
          obtain rfl := Option.some.inj h
          exact W_ret ⟨rfl, Pr.le_rfl⟩
        · replace h := iteF hc25 h
          refine W_skip ?_
          refine W_rs ?_
          refine rq (out := Pr.i64 x21) qMove ?_
          refine rq (out := Pr.i64 1) qAssign ?_
          refine rq (out := Pr.i64 x21) qAssign ?_
          refine rq (out := Pr.i64 0) qAssign ?_
          obtain rfl := Option.some.inj h
          exact W_ret ⟨rfl, Pr.le_rfl⟩
    · replace h := iteF hc20 h
      refine W_skip ?_
      refine W_rs ?_
      refine rq (out := Pr.str x1) qMove ?_
      obtain ⟨x26, hx26, h⟩ := bindSome h
      refine rq (out := Pr.i64 x26) (qCall (lex_mark_ok x1 _ hx26)) ?_
      refine rq (out := Pr.i64 x26) qAssign ?_
      refine W_seq ?_
      refine W_rs ?_
      refine rq (out := Pr.i64 x26) qMove ?_
      refine rq (out := Pr.bool (x26 == 0)) qInt ?_
      refine W_cond (b := x26 == 0) rfl (fun hc27 => ?_) (fun hc27 => ?_)
      · replace h := iteT hc27 h
        refine W_rs ?_
        refine rq (out := Pr.i64 0) qAssign ?_
        refine rq (out := Pr.i64 0) qAssign ?_
        refine rq (out := Pr.i64 30) qAssign ?_
        obtain rfl := Option.some.inj h
        exact W_ret ⟨rfl, Pr.le_rfl⟩
      · replace h := iteF hc27 h
        refine W_skip ?_
        refine W_rs ?_
        refine rq (out := Pr.i64 x26) qMove ?_
        refine rq (out := Pr.i64 4) qAssign ?_
        refine rq (out := Pr.i64 x26) qAssign ?_
        refine rq (out := Pr.i64 0) qAssign ?_
        obtain rfl := Option.some.inj h
        exact W_ret ⟨rfl, Pr.le_rfl⟩
theorem lex_Lex_1_ok (x1 : Int) (x2 : Int) (x3 : Int) (x5 : List ApiToken) (x8 : List UInt8) (x10 : Int) (b4 : Nat) (v6 : Value) (b7 : Nat) (b9 : Nat) (r : (List ApiToken) × (List UInt8) × Int) (h : lex_Lex_1 x1 x2 x3 x5 x8 x10 = some r) : FnC Tryz.prog 37 [Pr.i64 x1, Pr.i64 x2, Pr.i64 x3, Pr.pt b4 0, Pr.pt b7 0, Pr.pt b9 0] [Own.cell b4 (Pr.is v6), Own.vec v6 rApiToken x5 48, Own.box b7 Rp.str x8, Own.box b9 (Rp.int .i64) x10] (fun q C' => ∃ w0, q = Pr.tup [] ∧ C' = [Own.cell b4 (Pr.is w0), Own.vec w0 rApiToken r.1 48, Own.box b7 Rp.str r.2.1, Own.box b9 (Rp.int .i64) r.2.2]) := by
  refine fnc_introP (n := 38) (rs := []) Tryz.func37 rfl Tryz.ntmps37 ⟨by decide, Tryz.results37⟩ (by decide) (fun s0 => ?_)
  unfold lex_Lex_1 at h
  refine W_join (fun e C => ∃ (x13 : List ApiToken), ∃ (v14 : Value), lex_Lex_1_j1 x8 x10 x2 x3 x13 = some r ∧ At [(1, Pr.i64 x2), (2, Pr.i64 x3), (5, Pr.pt b9 0)] [Own.cell b4 (Pr.is v14), Own.vec v14 rApiToken x13 48, Own.box b7 Rp.str x8, Own.box b9 (Rp.int .i64) x10] e C) ?_ ?_
  · rintro e C ⟨x13, v14, h, hat1⟩
    refine W_at hat1 ?_
    clear hat1
    unfold lex_Lex_1_j1 at h
    refine W_r ?_
    refine rq (out := Pr.i64 x10) (qLoad (R := Rp.int .i64) (a := x10) (R' := Rp.int .i64) 3 ty3 (Sub.refl _)) ?_
    refine rq (out := Pr.i64 x2) qMove ?_
    refine rq (out := Pr.i64 x3) qMove ?_
    refine rq (out := Pr.i64 (w64 (x2 + x3))) qInt ?_
    refine rq (out := Pr.i64 (w64 (x10 + (w64 (x2 + x3))))) qInt ?_
    refine rStore (R := Rp.int .i64) (R' := Rp.int .i64) (a := x10) (y := w64 (x10 + (w64 (x2 + x3)))) 3 Tryz.sizeOf3 (Upd.refl _) ?_
    obtain rfl := Option.some.inj h
    exact ⟨.inr rfl, _, Pick.refl _, _, Pr.le_rfl, v14, rfl, rfl⟩
  · refine W_draw 23 hmx (by kernel_rfl) (by kernel_rfl) ?_
    refine qq (out := Pr.is v6) (qLoadP 0 Tryz.isAgg43) ?_
    refine qq (out := Pr.i64 x1) qMove ?_
    refine qq (out := Pr.str x8) (qLoad (R := Rp.str) (a := x8) (R' := Rp.str) 2 ty9 (Sub.refl _)) ?_
    refine qq (out := Pr.i64 x10) (qLoad (R := Rp.int .i64) (a := x10) (R' := Rp.int .i64) 3 ty3 (Sub.refl _)) ?_
    refine qq (out := Pr.i64 x2) qMove ?_
    refine qq (out := Pr.i64 (w64 (x10 + x2))) qInt ?_
    refine qq (out := Pr.i64 x10) (qLoad (R := Rp.int .i64) (a := x10) (R' := Rp.int .i64) 3 ty3 (Sub.refl _)) ?_
    refine qq (out := Pr.i64 x2) qMove ?_
    refine qq (out := Pr.i64 (w64 (x10 + x2))) qInt ?_
    refine qq (out := Pr.i64 x3) qMove ?_
    refine qq (out := Pr.i64 (w64 ((w64 (x10 + x2)) + x3))) qInt ?_
    obtain ⟨x11, hx11, h⟩ := bindSome h
    refine qq (out := Pr.str x11) (qSubLH Tryz.underlying9 hx11) ?_
    refine qq (out := Pr.i64 x10) (qLoad (R := Rp.int .i64) (a := x10) (R' := Rp.int .i64) 3 ty3 (Sub.refl _)) ?_
    refine qq (out := Pr.i64 x2) qMove ?_
    refine qq (out := Pr.i64 (w64 (x10 + x2))) qInt ?_
    refine qq (out := Pr.str x8) (qLoad (R := Rp.str) (a := x8) (R' := Rp.str) 2 ty9 (Sub.refl _)) ?_
    refine qq (out := Pr.i64 x10) (qLoad (R := Rp.int .i64) (a := x10) (R' := Rp.int .i64) 3 ty3 (Sub.refl _)) ?_
    refine qq (out := Pr.i64 x10) (qLoad (R := Rp.int .i64) (a := x10) (R' := Rp.int .i64) 3 ty3 (Sub.refl _)) ?_
    refine qq (out := Pr.i64 x2) qMove ?_
    refine qq (out := Pr.i64 (w64 (x10 + x2))) qInt ?_
    obtain ⟨x12, hx12, h⟩ := bindSome h
    refine qq (out := Pr.str x12) (qSubLH Tryz.underlying9 hx12) ?_
    refine qq (out := (rApiToken).val (ApiToken.mk x1 x11 (w64 (x10 + x2)) x12)) (qBuild st48 ⟨(ApiToken.mk x1 [] 0 []), ⟨_, rfl, rfl, fun j fd hj hf => by match j, hj with | 0, h => exact absurd rfl h | 1, _ => cases hf; rfl | 2, _ => cases hf; rfl | 3, _ => cases hf; rfl | _ + 4, _ => cases hf⟩, ⟨(ApiToken.mk x1 x11 0 []), ⟨_, rfl, rfl, fun j fd hj hf => by match j, hj with | 0, _ => cases hf; rfl | 1, h => exact absurd rfl h | 2, _ => cases hf; rfl | 3, _ => cases hf; rfl | _ + 4, _ => cases hf⟩, ⟨(ApiToken.mk x1 x11 (w64 (x10 + x2)) []), ⟨_, rfl, rfl, fun j fd hj hf => by match j, hj with | 0, _ => cases hf; rfl | 1, _ => cases hf; rfl | 2, h => exact absurd rfl h | 3, _ => cases hf; rfl | _ + 4, _ => cases hf⟩, ⟨(ApiToken.mk x1 x11 (w64 (x10 + x2)) x12), ⟨_, rfl, rfl, fun j fd hj hf => by match j, hj with | 0, _ => cases hf; rfl | 1, _ => cases hf; rfl | 2, _ => cases hf; rfl | 3, h => exact absurd rfl h | _ + 4, _ => cases hf⟩, rfl⟩⟩⟩⟩) ?_
    refine qq (out := Pr.lst rApiToken ([(ApiToken.mk x1 x11 (w64 (x10 + x2)) x12)] : List ApiToken)) (qBuildSlice1 (R := rApiToken) (a := (ApiToken.mk x1 x11 (w64 (x10 + x2)) x12)) el43 (Nat.le_of_ble_eq_true rfl)) ?_
    obtain ⟨x13, hx13, h⟩ := bindSome h
    refine rAppend' 1 el43 hx13 (fun v14 => ?_)
    refine rStoreV 0 1 Tryz.sizeOf43 ?_
    exact ⟨x13, v14, h, ⟨⟨Pr.le_rfl, Pr.le_rfl, Pr.le_rfl, trivial⟩, Pick.refl _⟩⟩
theorem lex_Lex_ok (x1 : List UInt8) (r : (List ApiToken) × Int × Int) (h : lex_Lex x1 = some r) : FnP Tryz.prog 28 [Pr.str x1] (Pr.tup [Pr.lst rApiToken r.1, Pr.i64 r.2.1, Pr.i64 r.2.2]) := by
  refine fn_intro (n := 60) (rs := [2, 3, 4]) Tryz.func28 rfl Tryz.ntmps28 ⟨by decide, Tryz.results28⟩ (by decide) (fun s0 => ?_)
  unfold lex_Lex at h
  refine W_rs ?_
  refine rBox (R := Rp.str) (a := x1) rfl (fun b2 => ?_)
  refine rq (out := Pr.is (.slice none 0 0)) qAssign ?_
  refine rq (out := Pr.i64 0) qAssign ?_
  refine rq (out := Pr.i64 0) qAssign ?_
  refine W_seq ?_
  refine W_rs ?_
  refine rq (out := Pr.str x1) (qLoad (R := Rp.str) (a := x1) (R' := Rp.str) 0 ty9 (Sub.refl _)) ?_
  refine rq (out := Pr.i64 (x1.length : Int)) (qLenS rfl Tryz.underlying9) ?_
  refine rq (out := Pr.bool (decide ((x1.length : Int) > 1048576))) qInt ?_
  refine W_cond (b := decide ((x1.length : Int) > 1048576)) rfl (fun hc3 => ?_) (fun hc3 => ?_)
  · replace h := iteT hc3 h
    refine W_rs ?_
    refine rq (out := Pr.is (.slice none 0 0)) qAssign ?_
    refine rq (out := Pr.i64 0) qAssign ?_
    refine rq (out := Pr.i64 2) qAssign ?_
    obtain rfl := Option.some.inj h
    exact W_ret ⟨rfl, tup_le ⟨Pr.lst_nil _, Pr.le_rfl, Pr.le_rfl, trivial⟩⟩
  · replace h := iteF hc3 h
    refine W_skip ?_
    refine W_rs ?_
    refine rAllocC Tryz.zeroValue43 rfl rfl (fun b4 => ?_)
    refine W_rs ?_
    refine rAlloc (R := Rp.int .i64) (z := 0) Tryz.zeroValue3 (fun _ => rfl) (fun b5 => ?_)
    refine rStore (R := Rp.int .i64) (R' := Rp.int .i64) (a := 0) (y := 0) 2 Tryz.sizeOf3 (Upd.refl _) ?_
    refine W_rs ?_
    refine rq (out := Pr.clo 37 [] [Pr.pt b4 0, Pr.pt b2 0, Pr.pt b5 0]) qMakeFunc ?_
    refine rq (out := Pr.clo 37 [] [Pr.pt b4 0, Pr.pt b2 0, Pr.pt b5 0]) qAssign ?_
    refine W_block ?_
    obtain ⟨n1, hN1⟩ := iter_some h
    refine W_vec rApiToken 48 ?_
    refine W_loop (fun m e C => ∃ (x6 : List UInt8), ∃ (x8 : Int), ∃ (x9 : List ApiToken), ∃ (v7 : Value), IterN (fun s => lex_Lex_l1 s.1 s.2.1 s.2.2) m (x6, x8, x9) = some r ∧ At [(1, Pr.pt b2 0), (5, Pr.pt b4 0), (6, Pr.pt b5 0), (7, Pr.clo 37 [] [Pr.pt b4 0, Pr.pt b2 0, Pr.pt b5 0])] [Own.box b2 Rp.str x6, Own.cell b4 (Pr.is v7), Own.box b5 (Rp.int .i64) x8, Own.vec v7 rApiToken x9 48] e C) n1 ⟨x1, 0, [], (.slice none 0 0), hN1, ⟨⟨Pr.le_rfl, Pr.le_rfl, Pr.le_rfl, Pr.le_rfl, trivial⟩, Pick.refl _⟩⟩ ?_
    clear hN1
    rintro m e C ⟨x6, x8, x9, v7, hN1, hatl1⟩
    refine W_at hatl1 ?_
    clear hatl1
    obtain ⟨m1, w1l, rfl, h1l, hn1, ho1⟩ := iterN_some hN1
    clear hN1
    replace h1l : lex_Lex_l1 x6 x8 x9 = some w1l := h1l
    unfold lex_Lex_l1 at h1l
    refine W_block ?_
    refine W_rs ?_
    refine rq (out := Pr.str x6) (qLoad (R := Rp.str) (a := x6) (R' := Rp.str) 0 ty9 (Sub.refl _)) ?_
    refine rq (out := Pr.i64 x8) (qLoad (R := Rp.int .i64) (a := x8) (R' := Rp.int .i64) 2 ty3 (Sub.refl _)) ?_
    obtain ⟨x14, hx14, h1l⟩ := bindSome h1l
    refine rq (out := Pr.str x14) (qSubL Tryz.underlying9 hx14) ?_
    obtain ⟨⟨x15, x16⟩, hx15, h1l⟩ := bindSome h1l
    refine rq (out := Pr.tup [Pr.i64 x15, Pr.bool x16]) (qCall (lex_between_ok x14 _ hx15)) ?_
    refine rq (out := Pr.tup [Pr.i64 x15, Pr.bool x16]) qMove ?_
    refine rq (out := Pr.i64 x15) qExtract ?_
    refine rq (out := Pr.bool x16) qExtract ?_
    refine rq (out := Pr.i64 x15) qAssign ?_
    refine rq (out := Pr.bool x16) qAssign ?_
    refine W_seq ?_
    refine W_rs ?_
    refine rq (out := Pr.bool x16) qMove ?_
    refine rq (out := Pr.bool (!x16)) qNot ?_
    refine W_cond (b := !x16) rfl (fun hc17 => ?_) (fun hc17 => ?_)
    · replace h1l := iteT hc17 h1l
      refine W_join (fun e C => lex_Lex_j2 x8 x15 = some w1l ∧ At [(2, Pr.is (.slice none 0 0)), (3, Pr.i64 (w64 (x8 + x15))), (4, Pr.i64 32)] [Own.box b2 Rp.str x6, Own.cell b4 (Pr.is v7), Own.box b5 (Rp.int .i64) x8, Own.vec v7 rApiToken x9 48] e C) ?_ ?_
      · rintro e C ⟨h1l, hat2⟩
        refine W_at hat2 ?_
        clear hat2
        unfold lex_Lex_j2 at h1l
        have h : some ([], w64 (x8 + x15), 32) = some r := congrArg some (ho1 _ (Option.some.inj h1l).symm)
        obtain rfl := Option.some.inj h
        exact W_ret ⟨rfl, tup_le ⟨Pr.lst_nil _, Pr.le_rfl, Pr.le_rfl, trivial⟩⟩
      · refine W_draw 6 hmx (by kernel_rfl) (by kernel_rfl) ?_
        refine qq (out := Pr.i64 x8) (qLoad (R := Rp.int .i64) (a := x8) (R' := Rp.int .i64) 2 ty3 (Sub.refl _)) ?_
        refine qq (out := Pr.i64 x15) qMove ?_
        refine qq (out := Pr.i64 (w64 (x8 + x15))) qInt ?_
        refine qq (out := Pr.is (.slice none 0 0)) qAssign ?_
        refine qq (out := Pr.i64 (w64 (x8 + x15))) qAssign ?_
        refine qq (out := Pr.i64 32) qAssign ?_
        exact ⟨h1l, ⟨⟨Pr.le_rfl, Pr.le_rfl, Pr.le_rfl, trivial⟩, Pick.refl _⟩⟩
    · replace h1l := iteF hc17 h1l
      refine W_skip ?_
      refine W_seq ?_
      refine W_rs ?_
      refine rq (out := Pr.i64 x8) (qLoad (R := Rp.int .i64) (a := x8) (R' := Rp.int .i64) 2 ty3 (Sub.refl _)) ?_
      refine rq (out := Pr.i64 x15) qMove ?_
      refine rq (out := Pr.i64 (w64 (x8 + x15))) qInt ?_
      refine rq (out := Pr.str x6) (qLoad (R := Rp.str) (a := x6) (R' := Rp.str) 0 ty9 (Sub.refl _)) ?_
      refine rq (out := Pr.i64 (x6.length : Int)) (qLenS rfl Tryz.underlying9) ?_
      refine rq (out := Pr.bool ((w64 (x8 + x15)) == (x6.length : Int))) qInt ?_
      refine W_cond (b := (w64 (x8 + x15)) == (x6.length : Int)) rfl (fun hc18 => ?_) (fun hc18 => ?_)
      · replace h1l := iteT hc18 h1l
        refine W_rs ?_
        refine rq (out := Pr.clo 37 [] [Pr.pt b4 0, Pr.pt b2 0, Pr.pt b5 0]) qMove ?_
        refine rq (out := Pr.i64 x15) qMove ?_
        obtain ⟨⟨x19, x21, x22⟩, hx19, h1l⟩ := bindSome h1l
        refine rCallK [1, 3, 0, 2] (lex_Lex_1_ok 5 x15 0 x9 x6 x8 b4 v7 b2 b5 _ hx19) (fun q C' hq => ?_)
        obtain ⟨v20, rfl, rfl⟩ := hq
        refine W_rs ?_
        refine rq (out := Pr.is v20) (qLoadP 0 Tryz.isAgg43) ?_
        refine rq (out := Pr.is v20) qAssign ?_
        refine rq (out := Pr.i64 0) qAssign ?_
        refine rq (out := Pr.i64 0) qAssign ?_
        have h : some (x19, 0, 0) = some r := congrArg some (ho1 _ (Option.some.inj h1l).symm)
        refine W_rel 1 [2] ?_ rfl ⟨rfl, trivial⟩
        obtain rfl := Option.some.inj h
        exact W_ret ⟨rfl, Pr.le_rfl⟩
      · replace h1l := iteF hc18 h1l
        refine W_skip ?_
        refine W_rs ?_
        refine rq (out := Pr.str x6) (qLoad (R := Rp.str) (a := x6) (R' := Rp.str) 0 ty9 (Sub.refl _)) ?_
        refine rq (out := Pr.i64 x8) (qLoad (R := Rp.int .i64) (a := x8) (R' := Rp.int .i64) 2 ty3 (Sub.refl _)) ?_
        refine rq (out := Pr.i64 x15) qMove ?_
        refine rq (out := Pr.i64 (w64 (x8 + x15))) qInt ?_
        obtain ⟨x23, hx23, h1l⟩ := bindSome h1l
        refine rq (out := Pr.str x23) (qSubL Tryz.underlying9 hx23) ?_
        obtain ⟨⟨x24, x25, x26⟩, hx24, h1l⟩ := bindSome h1l
        refine rq (out := Pr.tup [Pr.i64 x24, Pr.i64 x25, Pr.i64 x26]) (qCall (lex_token_ok x23 _ hx24)) ?_
        refine rq (out := Pr.tup [Pr.i64 x24, Pr.i64 x25, Pr.i64 x26]) qMove ?_
        refine rq (out := Pr.i64 x24) qExtract ?_
        refine rq (out := Pr.i64 x25) qExtract ?_
        refine rq (out := Pr.i64 x26) qExtract ?_
        refine rq (out := Pr.i64 x24) qAssign ?_
        refine rq (out := Pr.i64 x25) qAssign ?_
        refine rq (out := Pr.i64 x26) qAssign ?_
        refine W_seq ?_
        refine W_rs ?_
        refine rq (out := Pr.i64 x26) qMove ?_
        refine rq (out := Pr.bool (x26 != 0)) qInt ?_
        refine W_cond (b := x26 != 0) rfl (fun hc27 => ?_) (fun hc27 => ?_)
        · replace h1l := iteT hc27 h1l
          refine W_join (fun e C => lex_Lex_j3 x8 x15 x26 = some w1l ∧ At [(2, Pr.is (.slice none 0 0)), (3, Pr.i64 (w64 (x8 + x15))), (4, Pr.i64 x26)] [Own.box b2 Rp.str x6, Own.cell b4 (Pr.is v7), Own.box b5 (Rp.int .i64) x8, Own.vec v7 rApiToken x9 48] e C) ?_ ?_
          · rintro e C ⟨h1l, hat3⟩
            refine W_at hat3 ?_
            clear hat3
            unfold lex_Lex_j3 at h1l
            have h : some ([], w64 (x8 + x15), x26) = some r := congrArg some (ho1 _ (Option.some.inj h1l).symm)
            obtain rfl := Option.some.inj h
            exact W_ret ⟨rfl, tup_le ⟨Pr.lst_nil _, Pr.le_rfl, Pr.le_rfl, trivial⟩⟩
          · refine W_draw 7 hmx (by kernel_rfl) (by kernel_rfl) ?_
            refine qq (out := Pr.i64 x8) (qLoad (R := Rp.int .i64) (a := x8) (R' := Rp.int .i64) 2 ty3 (Sub.refl _)) ?_
            refine qq (out := Pr.i64 x15) qMove ?_
            refine qq (out := Pr.i64 (w64 (x8 + x15))) qInt ?_
            refine qq (out := Pr.i64 x26) qMove ?_
            refine qq (out := Pr.is (.slice none 0 0)) qAssign ?_
            refine qq (out := Pr.i64 (w64 (x8 + x15))) qAssign ?_
            refine qq (out := Pr.i64 x26) qAssign ?_
            exact ⟨h1l, ⟨⟨Pr.le_rfl, Pr.le_rfl, Pr.le_rfl, trivial⟩, Pick.refl _⟩⟩
        · replace h1l := iteF hc27 h1l
          refine W_skip ?_
          refine W_r ?_
          refine rq (out := Pr.clo 37 [] [Pr.pt b4 0, Pr.pt b2 0, Pr.pt b5 0]) qMove ?_
          refine rq (out := Pr.i64 x24) qMove ?_
          refine rq (out := Pr.i64 x15) qMove ?_
          refine rq (out := Pr.i64 x25) qMove ?_
          obtain ⟨⟨x28, x30, x31⟩, hx28, h1l⟩ := bindSome h1l
          refine rCallK [1, 3, 0, 2] (lex_Lex_1_ok x24 x15 x25 x9 x6 x8 b4 v7 b2 b5 _ hx28) (fun q C' hq => ?_)
          obtain ⟨v29, rfl, rfl⟩ := hq
          exact ⟨m1, Nat.lt_succ_self _, x30, x31, x28, v29, hn1 _ (Option.some.inj h1l).symm, ⟨⟨Pr.le_rfl, Pr.le_rfl, Pr.le_rfl, Pr.le_rfl, trivial⟩, Pick.of [2, 0, 3, 1] rfl⟩⟩
theorem ref03_between_ok (x1 : List UInt8) (x2 : Int) (r : Int × Bool) (h : ref03_between x1 x2 = some r) : FnP Tryz.prog 31 [Pr.str x1, Pr.i64 x2] (Pr.tup [Pr.i64 r.1, Pr.bool r.2]) := by
  refine fn_intro (n := 103) (rs := [4, 5]) Tryz.func31 rfl Tryz.ntmps31 ⟨by decide, Tryz.results31⟩ (by decide) (fun s0 => ?_)
  unfold ref03_between at h
  refine W_rs ?_
  refine rq (out := Pr.i64 0) qAssign ?_
  refine rq (out := Pr.bool false) qAssign ?_
  refine W_seq ?_
  refine W_block ?_
  obtain ⟨z2l, hz2, h⟩ := bindSome h
  obtain ⟨n2, hN2⟩ := iter_some hz2
  clear hz2
  refine W_after 0 (fun e C => ∃ (x3 : Int), ref03_between_k1 x3 = some r ∧ At [(1, Pr.i64 x3)] [] e C) ?_ ?_
  · rintro e C ⟨x3, h, hat1⟩
    refine W_at hat1 ?_
    clear hat1
    unfold ref03_between_k1 at h
    refine W_rs ?_
    refine rq (out := Pr.i64 x3) qMove ?_
    refine rq (out := Pr.i64 x3) qAssign ?_
    refine rq (out := Pr.bool true) qAssign ?_
    obtain rfl := Option.some.inj h
    exact W_ret ⟨rfl, Pr.le_rfl⟩
  · refine W_loop (fun m e C => ∃ (x3 : Int), IterN (fun s => ref03_between_l2 x1 s) m x3 = some z2l ∧ At [(0, Pr.str x1), (1, Pr.i64 x3)] [] e C) n2 ⟨x2, hN2, ⟨⟨Pr.le_rfl, Pr.le_rfl, trivial⟩, Pick.refl _⟩⟩ ?_
    clear hN2
    rintro m e C ⟨x3, hN2, hatl2⟩
    refine W_at hatl2 ?_
    clear hatl2
    obtain ⟨m2, w2l, rfl, h2l, hn2, ho2⟩ := iterN_some hN2
    clear hN2
    replace h2l : ref03_between_l2 x1 x3 = some w2l := h2l
    unfold ref03_between_l2 at h2l
    refine W_seq ?_
    refine W_rs ?_
    refine rq (out := Pr.i64 x3) qMove ?_
    refine rq (out := Pr.str x1) qMove ?_
    refine rq (out := Pr.i64 (x1.length : Int)) (qLenS rfl Tryz.underlying9) ?_
    refine rq (out := Pr.bool (decide (x3 < (x1.length : Int)))) qInt ?_
    refine W_cond (b := decide (x3 < (x1.length : Int))) rfl (fun hc5 => ?_) (fun hc5 => ?_)
    · replace h2l := iteT hc5 h2l
      refine W_skip ?_
      refine W_block ?_
      refine W_rs ?_
      refine rq (out := Pr.str x1) qMove ?_
      refine rq (out := Pr.i64 x3) qMove ?_
      obtain ⟨x6, hx6, h2l⟩ := bindSome h2l
      refine rq (out := Pr.u8 x6) (qIdxS Tryz.underlying9 hx6) ?_
      refine rq (out := Pr.u8 x6) qAssign ?_
      refine W_seq ?_
      refine W_join (fun e C => ∃ (x14 : Bool), ref03_between_j10 x3 x1 x6 x14 = some w2l ∧ At [(0, Pr.str x1), (1, Pr.i64 x3), (6, Pr.u8 x6), (28, Pr.bool x14)] [] e C) ?_ ?_
      · rintro e C ⟨x14, h2l, hat10⟩
        refine W_at hat10 ?_
        clear hat10
        unfold ref03_between_j10 at h2l
        refine W_cond (b := x14) rfl (fun hc15 => ?_) (fun hc15 => ?_)
        · replace h2l := iteT hc15 h2l
          refine W_rs ?_
          refine rq (out := Pr.i64 x3) qMove ?_
          refine rq (out := Pr.i64 (w64 (x3 + 1))) qInt ?_
          refine rq (out := Pr.i64 (w64 (x3 + 1))) qAssign ?_
          refine W_exit ?_
          exact ⟨m2, Nat.lt_succ_self _, w64 (x3 + 1), hn2 _ (Option.some.inj h2l).symm, ⟨⟨Pr.le_rfl, Pr.le_rfl, trivial⟩, Pick.refl _⟩⟩
        · replace h2l := iteF hc15 h2l
          refine W_skip ?_
          refine W_seq ?_
          refine W_join (fun e C => ∃ (x25 : Bool), ref03_between_j9 x3 x1 x25 = some w2l ∧ At [(0, Pr.str x1), (1, Pr.i64 x3), (53, Pr.bool x25)] [] e C) ?_ ?_
          · rintro e C ⟨x25, h2l, hat9⟩
            refine W_at hat9 ?_
            clear hat9
            unfold ref03_between_j9 at h2l
            refine W_cond (b := x25) rfl (fun hc26 => ?_) (fun hc26 => ?_)
            · replace h2l := iteT hc26 h2l
              refine W_rs ?_
              refine rq (out := Pr.i64 x3) qMove ?_
              refine rq (out := Pr.i64 x3) qAssign ?_
              refine rq (out := Pr.bool true) qAssign ?_
              obtain rfl := ho2 _ (Option.some.inj h2l).symm
              replace h : some (x3, true) = some r := h
              obtain rfl := Option.some.inj h
              exact W_ret ⟨rfl, Pr.le_rfl⟩
            · replace h2l := iteF hc26 h2l
              refine W_skip ?_
              refine W_seq ?_
              refine W_rs ?_
              refine rq (out := Pr.str x1) qMove ?_
              refine rq (out := Pr.i64 x3) qMove ?_
              refine rq (out := Pr.i64 (w64 (x3 + 1))) qInt ?_
              obtain ⟨x27, hx27, h2l⟩ := bindSome h2l
              refine rq (out := Pr.u8 x27) (qIdxS Tryz.underlying9 hx27) ?_
              refine rq (out := Pr.bool (x27 == 47)) qInt ?_
              refine W_cond (b := x27 == 47) rfl (fun hc28 => ?_) (fun hc28 => ?_)
              · replace h2l := iteT hc28 h2l
                refine W_seq ?_
                refine W_block ?_
                obtain ⟨z4l, hz4, h2l⟩ := bindSome h2l
                obtain ⟨n4, hN4⟩ := iter_some hz4
                clear hz4
                refine W_after 2 (fun e C => ∃ (x29 : Int), ref03_between_k3 x29 = some w2l ∧ At [(0, Pr.str x1), (1, Pr.i64 x29)] [] e C) ?_ ?_
                · rintro e C ⟨x29, h2l, hat3⟩
                  refine W_at hat3 ?_
                  clear hat3
                  unfold ref03_between_k3 at h2l
                  refine W_exit ?_
                  exact ⟨m2, Nat.lt_succ_self _, x29, hn2 _ (Option.some.inj h2l).symm, ⟨⟨Pr.le_rfl, Pr.le_rfl, trivial⟩, Pick.refl _⟩⟩
                · refine W_loop (fun m e C => ∃ (x29 : Int), IterN (fun s => ref03_between_l4 x1 s) m x29 = some z4l ∧ At [(0, Pr.str x1), (1, Pr.i64 x29)] [] e C) n4 ⟨x3, hN4, ⟨⟨Pr.le_rfl, Pr.le_rfl, trivial⟩, Pick.refl _⟩⟩ ?_
                  clear hN4
                  rintro m e C ⟨x29, hN4, hatl4⟩
                  refine W_at hatl4 ?_
                  clear hatl4
                  obtain ⟨m4, w4l, rfl, h4l, hn4, ho4⟩ := iterN_some hN4
                  clear hN4
                  replace h4l : ref03_between_l4 x1 x29 = some w4l := h4l
                  unfold ref03_between_l4 at h4l
                  refine W_seq ?_
                  refine W_join (fun e C => ∃ (x33 : Bool), ref03_between_j5 x29 x33 = some w4l ∧ At [(0, Pr.str x1), (1, Pr.i64 x29), (69, Pr.bool x33)] [] e C) ?_ ?_
                  · rintro e C ⟨x33, h4l, hat5⟩
                    refine W_at hat5 ?_
                    clear hat5
                    unfold ref03_between_j5 at h4l
                    refine W_cond (b := x33) rfl (fun hc34 => ?_) (fun hc34 => ?_)
                    · replace h4l := iteT hc34 h4l
                      refine W_skip ?_
                      refine W_block ?_
                      refine W_r ?_
                      refine rq (out := Pr.i64 x29) qMove ?_
                      refine rq (out := Pr.i64 (w64 (x29 + 1))) qInt ?_
                      refine rq (out := Pr.i64 (w64 (x29 + 1))) qAssign ?_
                      exact ⟨m4, Nat.lt_succ_self _, w64 (x29 + 1), hn4 _ (Option.some.inj h4l).symm, ⟨⟨Pr.le_rfl, Pr.le_rfl, trivial⟩, Pick.refl _⟩⟩
                    · replace h4l := iteF hc34 h4l
                      refine W_exit ?_
                      obtain rfl := ho4 _ (Option.some.inj h4l).symm
                      exact ⟨x29, h2l, ⟨⟨Pr.le_rfl, Pr.le_rfl, trivial⟩, Pick.refl _⟩⟩
                  · refine W_r ?_
                    refine rq (out := Pr.i64 x29) qMove ?_
                    refine rq (out := Pr.str x1) qMove ?_
                    refine rq (out := Pr.i64 (x1.length : Int)) (qLenS rfl Tryz.underlying9) ?_
                    refine rq (out := Pr.bool (decide (x29 < (x1.length : Int)))) qInt ?_
                    refine rq (out := Pr.bool (decide (x29 < (x1.length : Int)))) qMove ?_
                    rcases iteSome h4l with ⟨hc31, h4l⟩ | ⟨hc31, h4l⟩
                    · refine rqg hc31 (out := Pr.str x1) qMove ?_
                      refine rqg hc31 (out := Pr.i64 x29) qMove ?_
                      obtain ⟨x32, hx32, h4l⟩ := bindSome h4l
                      refine rqg hc31 (out := Pr.u8 x32) (qIdxS Tryz.underlying9 hx32) ?_
                      refine rqg hc31 (out := Pr.bool (x32 != 10)) qInt ?_
                      refine rq (out := Pr.bool (x32 != 10)) (qPickT hc31) ?_
                      exact ⟨x32 != 10, h4l, ⟨⟨Pr.le_rfl, Pr.le_rfl, Pr.le_rfl, trivial⟩, Pick.refl _⟩⟩
                    · refine rno (neT hc31) ?_
                      refine rno (neT hc31) ?_
                      refine rno (neT hc31) ?_
                      refine rno (neT hc31) ?_
                      refine rq (out := Pr.bool false) (qPickF hc31) ?_
                      exact ⟨false, h4l, ⟨⟨Pr.le_rfl, Pr.le_rfl, Pr.le_rfl, trivial⟩, Pick.refl _⟩⟩
              · replace h2l := iteF hc28 h2l
                refine W_skip ?_
                refine W_rs ?_
                refine rq (out := Pr.i64 x3) qMove ?_
                refine rq (out := Pr.i64 (w64 (x3 + 2))) qInt ?_
                refine rq (out := Pr.i64 (w64 (x3 + 2))) qAssign ?_
                refine W_seq ?_
                refine W_block ?_
                obtain ⟨z7l, hz7, h2l⟩ := bindSome h2l
                obtain ⟨n7, hN7⟩ := iter_some hz7
                clear hz7
                refine W_after 4 (fun e C => ∃ (x35 : Int), ref03_between_k6 x1 x3 x35 = some w2l ∧ At [(0, Pr.str x1), (1, Pr.i64 x3), (7, Pr.i64 x35)] [] e C) ?_ ?_
                · rintro e C ⟨x35, h2l, hat6⟩
                  refine W_at hat6 ?_
                  clear hat6
                  unfold ref03_between_k6 at h2l
                  refine W_seq ?_
                  refine W_rs ?_
                  refine rq (out := Pr.i64 x35) qMove ?_
                  refine rq (out := Pr.i64 (w64 (x35 + 1))) qInt ?_
                  refine rq (out := Pr.str x1) qMove ?_
                  refine rq (out := Pr.i64 (x1.length : Int)) (qLenS rfl Tryz.underlying9) ?_
                  refine rq (out := Pr.bool (decide ((w64 (x35 + 1)) ≥ (x1.length : Int)))) qInt ?_
                  refine W_cond (b := decide ((w64 (x35 + 1)) ≥ (x1.length : Int))) rfl (fun hc43 => ?_) (fun hc43 => ?_)
                  · replace h2l := iteT hc43 h2l
                    refine W_rs ?_
                    refine rq (out := Pr.i64 x3) qMove ?_
                    refine rq (out := Pr.i64 x3) qAssign ?_
                    refine rq (out := Pr.bool false) qAssign ?_
                    obtain rfl := ho2 _ (Option.some.inj h2l).symm
                    replace h : some (x3, false) = some r := h
                    obtain rfl := Option.some.inj h
                    exact W_ret ⟨rfl, Pr.le_rfl⟩
                  · replace h2l := iteF hc43 h2l
                    refine W_skip ?_
                    refine W_r ?_
                    refine rq (out := Pr.i64 x35) qMove ?_
                    refine rq (out := Pr.i64 (w64 (x35 + 2))) qInt ?_
                    refine rq (out := Pr.i64 (w64 (x35 + 2))) qAssign ?_
                    exact ⟨m2, Nat.lt_succ_self _, w64 (x35 + 2), hn2 _ (Option.some.inj h2l).symm, ⟨⟨Pr.le_rfl, Pr.le_rfl, trivial⟩, Pick.refl _⟩⟩
                · refine W_loop (fun m e C => ∃ (x35 : Int), IterN (fun s => ref03_between_l7 x1 s) m x35 = some z7l ∧ At [(0, Pr.str x1), (1, Pr.i64 x3), (7, Pr.i64 x35)] [] e C) n7 ⟨w64 (x3 + 2), hN7, ⟨⟨Pr.le_rfl, Pr.le_rfl, Pr.le_rfl, trivial⟩, Pick.refl _⟩⟩ ?_
                  clear hN7
                  rintro m e C ⟨x35, hN7, hatl7⟩
                  refine W_at hatl7 ?_
                  clear hatl7
                  obtain ⟨m7, w7l, rfl, h7l, hn7, ho7⟩ := iterN_some hN7
                  clear hN7
                  replace h7l : ref03_between_l7 x1 x35 = some w7l := h7l
                  unfold ref03_between_l7 at h7l
                  refine W_seq ?_
                  refine W_join (fun e C => ∃ (x41 : Bool), ref03_between_j8 x35 x41 = some w7l ∧ At [(0, Pr.str x1), (1, Pr.i64 x3), (7, Pr.i64 x35), (91, Pr.bool x41)] [] e C) ?_ ?_
                  · rintro e C ⟨x41, h7l, hat8⟩
                    refine W_at hat8 ?_
                    clear hat8
                    unfold ref03_between_j8 at h7l
                    refine W_cond (b := x41) rfl (fun hc42 => ?_) (fun hc42 => ?_)
                    · replace h7l := iteT hc42 h7l
                      refine W_skip ?_
                      refine W_block ?_
                      refine W_r ?_
                      refine rq (out := Pr.i64 x35) qMove ?_
                      refine rq (out := Pr.i64 (w64 (x35 + 1))) qInt ?_
                      refine rq (out := Pr.i64 (w64 (x35 + 1))) qAssign ?_
                      exact ⟨m7, Nat.lt_succ_self _, w64 (x35 + 1), hn7 _ (Option.some.inj h7l).symm, ⟨⟨Pr.le_rfl, Pr.le_rfl, Pr.le_rfl, trivial⟩, Pick.refl _⟩⟩
                    · replace h7l := iteF hc42 h7l
                      refine W_exit ?_
                      obtain rfl := ho7 _ (Option.some.inj h7l).symm
                      exact ⟨x35, h2l, ⟨⟨Pr.le_rfl, Pr.le_rfl, Pr.le_rfl, trivial⟩, Pick.refl _⟩⟩
                  · refine W_r ?_
                    refine rq (out := Pr.i64 x35) qMove ?_
                    refine rq (out := Pr.i64 (w64 (x35 + 1))) qInt ?_
                    refine rq (out := Pr.str x1) qMove ?_
                    refine rq (out := Pr.i64 (x1.length : Int)) (qLenS rfl Tryz.underlying9) ?_
                    refine rq (out := Pr.bool (decide ((w64 (x35 + 1)) < (x1.length : Int)))) qInt ?_
                    refine rq (out := Pr.bool (decide ((w64 (x35 + 1)) < (x1.length : Int)))) qMove ?_
                    rcases iteSome h7l with ⟨hc37, h7l⟩ | ⟨hc37, h7l⟩
                    · refine rqg hc37 (out := Pr.str x1) qMove ?_
                      refine rqg hc37 (out := Pr.i64 x35) qMove ?_
                      obtain ⟨x38, hx38, h7l⟩ := bindSome h7l
                      refine rqg hc37 (out := Pr.u8 x38) (qIdxS Tryz.underlying9 hx38) ?_
                      refine rqg hc37 (out := Pr.bool (x38 != 42)) qInt ?_
                      refine rqg hc37 (out := Pr.bool (x38 != 42)) qMove ?_
                      rcases iteSome h7l with ⟨hc39, h7l⟩ | ⟨hc39, h7l⟩
                      · refine rno (neF hc39) ?_
                        refine rno (neF hc39) ?_
                        refine rno (neF hc39) ?_
                        refine rno (neF hc39) ?_
                        refine rno (neF hc39) ?_
                        refine rqg hc37 (out := Pr.bool true) (qPickT hc39) ?_
                        refine rq (out := Pr.bool true) (qPickT hc37) ?_
                        exact ⟨true, h7l, ⟨⟨Pr.le_rfl, Pr.le_rfl, Pr.le_rfl, Pr.le_rfl, trivial⟩, Pick.refl _⟩⟩
                      · refine rqg hc39 (out := Pr.str x1) qMove ?_
                        refine rqg hc39 (out := Pr.i64 x35) qMove ?_
                        refine rqg hc39 (out := Pr.i64 (w64 (x35 + 1))) qInt ?_
                        obtain ⟨x40, hx40, h7l⟩ := bindSome h7l
                        refine rqg hc39 (out := Pr.u8 x40) (qIdxS Tryz.underlying9 hx40) ?_
                        refine rqg hc39 (out := Pr.bool (x40 != 47)) qInt ?_
                        refine rqg hc37 (out := Pr.bool (x40 != 47)) (qPickF hc39) ?_
                        refine rq (out := Pr.bool (x40 != 47)) (qPickT hc37) ?_
                        exact ⟨x40 != 47, h7l, ⟨⟨Pr.le_rfl, Pr.le_rfl, Pr.le_rfl, Pr.le_rfl, trivial⟩, Pick.refl _⟩⟩
                    · refine rno (neT hc37) ?_
                      refine rno (neT hc37) ?_
                      refine rno (neT hc37) ?_
                      refine rno (neT hc37) ?_
                      refine rno (neT hc37) ?_
                      refine rnoU ?_
                      refine rnoU ?_
                      refine rnoU ?_
                      refine rnoU ?_
                      refine rnoU ?_
                      refine rno (neT hc37) ?_
                      refine rq (out := Pr.bool false) (qPickF hc37) ?_
                      exact ⟨false, h7l, ⟨⟨Pr.le_rfl, Pr.le_rfl, Pr.le_rfl, Pr.le_rfl, trivial⟩, Pick.refl _⟩⟩
          · refine W_r ?_
            refine rq (out := Pr.i64 x3) qMove ?_
            refine rq (out := Pr.i64 (w64 (x3 + 1))) qInt ?_
            refine rq (out := Pr.str x1) qMove ?_
            refine rq (out := Pr.i64 (x1.length : Int)) (qLenS rfl Tryz.underlying9) ?_
            refine rq (out := Pr.bool (decide ((w64 (x3 + 1)) ≥ (x1.length : Int)))) qInt ?_
            refine rq (out := Pr.bool (decide ((w64 (x3 + 1)) ≥ (x1.length : Int)))) qMove ?_
            rcases iteSome h2l with ⟨hc16, h2l⟩ | ⟨hc16, h2l⟩
            · refine rno (neF hc16) ?_
              refine rno (neF hc16) ?_
              refine rq (out := Pr.bool true) (qPickT hc16) ?_
              refine rq (out := Pr.bool true) qMove ?_
              have hc21 : true = true := rfl
              refine rno (neF hc21) ?_
              refine rno (neF hc21) ?_
              refine rno (neF hc21) ?_
              refine rno (neF hc21) ?_
              refine rno (neF hc21) ?_
              refine rno (neF hc21) ?_
              refine rnoU ?_
              refine rnoU ?_
              refine rnoU ?_
              refine rnoU ?_
              refine rnoU ?_
              refine rno (neF hc21) ?_
              refine rq (out := Pr.bool true) (qPickT hc21) ?_
              exact ⟨true, h2l, ⟨⟨Pr.le_rfl, Pr.le_rfl, Pr.le_rfl, trivial⟩, Pick.refl _⟩⟩
            · refine rqg hc16 (out := Pr.u8 x6) qMove ?_
              refine rqg hc16 (out := Pr.bool (x6 != 47)) qInt ?_
              refine rq (out := Pr.bool (x6 != 47)) (qPickF hc16) ?_
              refine rq (out := Pr.bool (x6 != 47)) qMove ?_
              rcases iteSome h2l with ⟨hc17, h2l⟩ | ⟨hc17, h2l⟩
              · refine rno (neF hc17) ?_
                refine rno (neF hc17) ?_
                refine rno (neF hc17) ?_
                refine rno (neF hc17) ?_
                refine rno (neF hc17) ?_
                refine rno (neF hc17) ?_
                refine rnoU ?_
                refine rnoU ?_
                refine rnoU ?_
                refine rnoU ?_
                refine rnoU ?_
                refine rno (neF hc17) ?_
                refine rq (out := Pr.bool true) (qPickT hc17) ?_
                exact ⟨true, h2l, ⟨⟨Pr.le_rfl, Pr.le_rfl, Pr.le_rfl, trivial⟩, Pick.refl _⟩⟩
              · refine rqg hc17 (out := Pr.str x1) qMove ?_
                refine rqg hc17 (out := Pr.i64 x3) qMove ?_
                refine rqg hc17 (out := Pr.i64 (w64 (x3 + 1))) qInt ?_
                obtain ⟨x18, hx18, h2l⟩ := bindSome h2l
                refine rqg hc17 (out := Pr.u8 x18) (qIdxS Tryz.underlying9 hx18) ?_
                refine rqg hc17 (out := Pr.bool (x18 != 47)) qInt ?_
                refine rqg hc17 (out := Pr.bool (x18 != 47)) qMove ?_
                rcases iteSome h2l with ⟨hc19, h2l⟩ | ⟨hc19, h2l⟩
                · refine rqg hc19 (out := Pr.str x1) qMove ?_
                  refine rqg hc19 (out := Pr.i64 x3) qMove ?_
                  refine rqg hc19 (out := Pr.i64 (w64 (x3 + 1))) qInt ?_
                  obtain ⟨x20, hx20, h2l⟩ := bindSome h2l
                  refine rqg hc19 (out := Pr.u8 x20) (qIdxS Tryz.underlying9 hx20) ?_
                  refine rqg hc19 (out := Pr.bool (x20 != 42)) qInt ?_
                  refine rqg hc17 (out := Pr.bool (x20 != 42)) (qPickT hc19) ?_
                  refine rq (out := Pr.bool (x20 != 42)) (qPickF hc17) ?_
                  exact ⟨x20 != 42, h2l, ⟨⟨Pr.le_rfl, Pr.le_rfl, Pr.le_rfl, trivial⟩, Pick.refl _⟩⟩
                · refine rno (neT hc19) ?_
                  refine rno (neT hc19) ?_
                  refine rno (neT hc19) ?_
                  refine rno (neT hc19) ?_
                  refine rno (neT hc19) ?_
                  refine rqg hc17 (out := Pr.bool false) (qPickF hc19) ?_
                  refine rq (out := Pr.bool false) (qPickF hc17) ?_
                  exact ⟨false, h2l, ⟨⟨Pr.le_rfl, Pr.le_rfl, Pr.le_rfl, trivial⟩, Pick.refl _⟩⟩
      · refine W_r ?_
        refine rq (out := Pr.u8 x6) qMove ?_
        refine rq (out := Pr.bool (x6 == 32)) qInt ?_
        refine rq (out := Pr.bool (x6 == 32)) qMove ?_
        rcases iteSome h2l with ⟨hc7, h2l⟩ | ⟨hc7, h2l⟩
        · refine rno (neF hc7) ?_
          refine rno (neF hc7) ?_
          refine rq (out := Pr.bool true) (qPickT hc7) ?_
          refine rq (out := Pr.bool true) qMove ?_
          have hc11 : true = true := rfl
          refine rno (neF hc11) ?_
          refine rno (neF hc11) ?_
          refine rq (out := Pr.bool true) (qPickT hc11) ?_
          refine rq (out := Pr.bool true) qMove ?_
          have hc13 : true = true := rfl
          refine rno (neF hc13) ?_
          refine rno (neF hc13) ?_
          refine rq (out := Pr.bool true) (qPickT hc13) ?_
          exact ⟨true, h2l, ⟨⟨Pr.le_rfl, Pr.le_rfl, Pr.le_rfl, Pr.le_rfl, trivial⟩, Pick.refl _⟩⟩
        · refine rqg hc7 (out := Pr.u8 x6) qMove ?_
          refine rqg hc7 (out := Pr.bool (x6 == 9)) qInt ?_
          refine rq (out := Pr.bool (x6 == 9)) (qPickF hc7) ?_
          refine rq (out := Pr.bool (x6 == 9)) qMove ?_
          rcases iteSome h2l with ⟨hc8, h2l⟩ | ⟨hc8, h2l⟩
          · refine rno (neF hc8) ?_
            refine rno (neF hc8) ?_
            refine rq (out := Pr.bool true) (qPickT hc8) ?_
            refine rq (out := Pr.bool true) qMove ?_
            have hc10 : true = true := rfl
            refine rno (neF hc10) ?_
            refine rno (neF hc10) ?_
            refine rq (out := Pr.bool true) (qPickT hc10) ?_
            exact ⟨true, h2l, ⟨⟨Pr.le_rfl, Pr.le_rfl, Pr.le_rfl, Pr.le_rfl, trivial⟩, Pick.refl _⟩⟩
          · refine rqg hc8 (out := Pr.u8 x6) qMove ?_
            refine rqg hc8 (out := Pr.bool (x6 == 10)) qInt ?_
            refine rq (out := Pr.bool (x6 == 10)) (qPickF hc8) ?_
            refine rq (out := Pr.bool (x6 == 10)) qMove ?_
            rcases iteSome h2l with ⟨hc9, h2l⟩ | ⟨hc9, h2l⟩
            · refine rno (neF hc9) ?_
              refine rno (neF hc9) ?_
              refine rq (out := Pr.bool true) (qPickT hc9) ?_
              exact ⟨true, h2l, ⟨⟨Pr.le_rfl, Pr.le_rfl, Pr.le_rfl, Pr.le_rfl, trivial⟩, Pick.refl _⟩⟩
            · refine rqg hc9 (out := Pr.u8 x6) qMove ?_
              refine rqg hc9 (out := Pr.bool (x6 == 13)) qInt ?_
              refine rq (out := Pr.bool (x6 == 13)) (qPickF hc9) ?_
              exact ⟨x6 == 13, h2l, ⟨⟨Pr.le_rfl, Pr.le_rfl, Pr.le_rfl, Pr.le_rfl, trivial⟩, Pick.refl _⟩⟩
    · replace h2l := iteF hc5 h2l
      refine W_exit ?_
      obtain rfl := ho2 _ (Option.some.inj h2l).symm
      exact ⟨x3, h, ⟨⟨Pr.le_rfl, trivial⟩, Pick.refl _⟩⟩
theorem ref03_digit_ok (x1 : Int) (r : Bool) (h : ref03_digit x1 = some r) : FnP Tryz.prog 42 [Pr.u8 x1] (Pr.bool r) := by
  refine fn_intro (n := 9) (rs := [2]) Tryz.func42 rfl Tryz.ntmps42 ⟨by decide, Tryz.results42⟩ (by decide) (fun s0 => ?_)
  unfold ref03_digit at h
  refine W_rs ?_
  refine rq (out := Pr.bool false) qAssign ?_
  refine W_join (fun e C => ∃ (x3 : Bool), ref03_digit_j1 x3 = some r ∧ At [(2, Pr.bool x3)] [] e C) ?_ ?_
  · rintro e C ⟨x3, h, hat1⟩
    refine W_at hat1 ?_
    clear hat1
    unfold ref03_digit_j1 at h
    obtain rfl := Option.some.inj h
    exact W_ret ⟨rfl, Pr.le_rfl⟩
  · refine W_r ?_
    refine rq (out := Pr.u8 x1) qMove ?_
    refine rq (out := Pr.bool (decide (x1 ≥ 48))) qInt ?_
    refine rq (out := Pr.bool (decide (x1 ≥ 48))) qMove ?_
    rcases iteSome h with ⟨hc2, h⟩ | ⟨hc2, h⟩
    · refine rqg hc2 (out := Pr.u8 x1) qMove ?_
      refine rqg hc2 (out := Pr.bool (decide (x1 ≤ 57))) qInt ?_
      refine rq (out := Pr.bool (decide (x1 ≤ 57))) (qPickT hc2) ?_
      refine rq (out := Pr.bool (decide (x1 ≤ 57))) qAssign ?_
      exact ⟨decide (x1 ≤ 57), h, ⟨⟨Pr.le_rfl, trivial⟩, Pick.refl _⟩⟩
    · refine rno (neT hc2) ?_
      refine rno (neT hc2) ?_
      refine rq (out := Pr.bool false) (qPickF hc2) ?_
      refine rq (out := Pr.bool false) qAssign ?_
      exact ⟨false, h, ⟨⟨Pr.le_rfl, trivial⟩, Pick.refl _⟩⟩
theorem ref03_great_ok (x1 : List UInt8) (r : Bool) (h : ref03_great x1 = some r) : FnP Tryz.prog 43 [Pr.str x1] (Pr.bool r) := by
  refine fn_intro (n := 24) (rs := [2]) Tryz.func43 rfl Tryz.ntmps43 ⟨by decide, Tryz.results43⟩ (by decide) (fun s0 => ?_)
  unfold ref03_great at h
  refine W_rs ?_
  refine rq (out := Pr.bool false) qAssign ?_
  refine W_seq ?_
  refine W_rs ?_
  refine rq (out := Pr.str x1) qMove ?_
  refine rq (out := Pr.i64 (x1.length : Int)) (qLenS rfl Tryz.underlying9) ?_
  refine rq (out := Pr.bool (decide ((x1.length : Int) > 10))) qInt ?_
  refine W_cond (b := decide ((x1.length : Int) > 10)) rfl (fun hc2 => ?_) (fun hc2 => ?_)
  · replace h := iteT hc2 h
    refine W_rs ?_
    refine rq (out := Pr.bool true) qAssign ?_
    obtain rfl := Option.some.inj h
    exact W_ret ⟨rfl, Pr.le_rfl⟩
  · replace h := iteF hc2 h
    refine W_skip ?_
    refine W_rs ?_
    refine rq (out := Pr.i64 0) qAssign ?_
    refine W_seq ?_
    refine W_rs ?_
    refine rq (out := Pr.i64 0) qAssign ?_
    refine W_block ?_
    obtain ⟨z2l, hz2, h⟩ := bindSome h
    obtain ⟨n2, hN2⟩ := iter_some hz2
    clear hz2
    refine W_after 0 (fun e C => ∃ (x3 : Int), ref03_great_k1 x3 = some r ∧ At [(3, Pr.i64 x3)] [] e C) ?_ ?_
    · rintro e C ⟨x3, h, hat1⟩
      refine W_at hat1 ?_
      clear hat1
      unfold ref03_great_k1 at h
      refine W_rs ?_
      refine rq (out := Pr.i64 x3) qMove ?_
      refine rq (out := Pr.bool (decide (x3 > 2147483647))) qInt ?_
      refine rq (out := Pr.bool (decide (x3 > 2147483647))) qAssign ?_
      obtain rfl := Option.some.inj h
      exact W_ret ⟨rfl, Pr.le_rfl⟩
    · refine W_loop (fun m e C => ∃ (x3 : Int), ∃ (x4 : Int), IterN (fun s => ref03_great_l2 x1 s.1 s.2) m (x3, x4) = some z2l ∧ At [(0, Pr.str x1), (3, Pr.i64 x3), (4, Pr.i64 x4)] [] e C) n2 ⟨0, 0, hN2, ⟨⟨Pr.le_rfl, Pr.le_rfl, Pr.le_rfl, trivial⟩, Pick.refl _⟩⟩ ?_
      clear hN2
      rintro m e C ⟨x3, x4, hN2, hatl2⟩
      refine W_at hatl2 ?_
      clear hatl2
      obtain ⟨m2, w2l, rfl, h2l, hn2, ho2⟩ := iterN_some hN2
      clear hN2
      replace h2l : ref03_great_l2 x1 x3 x4 = some w2l := h2l
      unfold ref03_great_l2 at h2l
      refine W_seq ?_
      refine W_rs ?_
      refine rq (out := Pr.i64 x4) qMove ?_
      refine rq (out := Pr.str x1) qMove ?_
      refine rq (out := Pr.i64 (x1.length : Int)) (qLenS rfl Tryz.underlying9) ?_
      refine rq (out := Pr.bool (decide (x4 < (x1.length : Int)))) qInt ?_
      refine W_cond (b := decide (x4 < (x1.length : Int))) rfl (fun hc7 => ?_) (fun hc7 => ?_)
      · replace h2l := iteT hc7 h2l
        refine W_skip ?_
        refine W_seq ?_
        refine W_block ?_
        refine W_r ?_
        refine rq (out := Pr.i64 x3) qMove ?_
        refine rq (out := Pr.i64 (w64 (10 * x3))) qInt ?_
        refine rq (out := Pr.str x1) qMove ?_
        refine rq (out := Pr.i64 x4) qMove ?_
        obtain ⟨x8, hx8, h2l⟩ := bindSome h2l
        refine rq (out := Pr.u8 x8) (qIdxS Tryz.underlying9 hx8) ?_
        refine rq (out := Pr.u8 (IntKind.wrap .u8 (x8 - 48))) qInt ?_
        refine rq (out := Pr.i64 (w64 (IntKind.wrap .u8 (x8 - 48)))) (qConv Tryz.underlying5 Tryz.underlying3) ?_
        refine rq (out := Pr.i64 (w64 ((w64 (10 * x3)) + (w64 (IntKind.wrap .u8 (x8 - 48)))))) qInt ?_
        refine rq (out := Pr.i64 (w64 ((w64 (10 * x3)) + (w64 (IntKind.wrap .u8 (x8 - 48)))))) qAssign ?_
        refine W_r ?_
        refine rq (out := Pr.i64 x4) qMove ?_
        refine rq (out := Pr.i64 (w64 (x4 + 1))) qInt ?_
        refine rq (out := Pr.i64 (w64 (x4 + 1))) qAssign ?_
        exact ⟨m2, Nat.lt_succ_self _, w64 ((w64 (10 * x3)) + (w64 (IntKind.wrap .u8 (x8 - 48)))), w64 (x4 + 1), hn2 _ (Option.some.inj h2l).symm, ⟨⟨Pr.le_rfl, Pr.le_rfl, Pr.le_rfl, trivial⟩, Pick.refl _⟩⟩
      · replace h2l := iteF hc7 h2l
        refine W_exit ?_
        obtain rfl := ho2 _ (Option.some.inj h2l).symm
        exact ⟨x3, h, ⟨⟨Pr.le_rfl, trivial⟩, Pick.refl _⟩⟩
theorem ref03_letter_ok (x1 : Int) (r : Bool) (h : ref03_letter x1 = some r) : FnP Tryz.prog 44 [Pr.u8 x1] (Pr.bool r) := by
  refine fn_intro (n := 21) (rs := [2]) Tryz.func44 rfl Tryz.ntmps44 ⟨by decide, Tryz.results44⟩ (by decide) (fun s0 => ?_)
  unfold ref03_letter at h
  refine W_rs ?_
  refine rq (out := Pr.bool false) qAssign ?_
  refine W_join (fun e C => ∃ (x13 : Bool), ref03_letter_j1 x13 = some r ∧ At [(2, Pr.bool x13)] [] e C) ?_ ?_
  · rintro e C ⟨x13, h, hat1⟩
    refine W_at hat1 ?_
    clear hat1
    unfold ref03_letter_j1 at h
    obtain rfl := Option.some.inj h
    exact W_ret ⟨rfl, Pr.le_rfl⟩
  · refine W_r ?_
    refine rq (out := Pr.u8 x1) qMove ?_
    refine rq (out := Pr.bool (decide (x1 ≥ 97))) qInt ?_
    refine rq (out := Pr.bool (decide (x1 ≥ 97))) qMove ?_
    rcases iteSome h with ⟨hc2, h⟩ | ⟨hc2, h⟩
    · refine rqg hc2 (out := Pr.u8 x1) qMove ?_
      refine rqg hc2 (out := Pr.bool (decide (x1 ≤ 122))) qInt ?_
      refine rq (out := Pr.bool (decide (x1 ≤ 122))) (qPickT hc2) ?_
      refine rq (out := Pr.bool (decide (x1 ≤ 122))) qMove ?_
      rcases iteSome h with ⟨hc3, h⟩ | ⟨hc3, h⟩
      · refine rno (neF hc3) ?_
        refine rno (neF hc3) ?_
        refine rno (neF hc3) ?_
        refine rnoU ?_
        refine rnoU ?_
        refine rno (neF hc3) ?_
        refine rq (out := Pr.bool true) (qPickT hc3) ?_
        refine rq (out := Pr.bool true) qMove ?_
        have hc7 : true = true := rfl
        refine rno (neF hc7) ?_
        refine rno (neF hc7) ?_
        refine rq (out := Pr.bool true) (qPickT hc7) ?_
        refine rq (out := Pr.bool true) qAssign ?_
        exact ⟨true, h, ⟨⟨Pr.le_rfl, trivial⟩, Pick.refl _⟩⟩
      · refine rqg hc3 (out := Pr.u8 x1) qMove ?_
        refine rqg hc3 (out := Pr.bool (decide (x1 ≥ 65))) qInt ?_
        refine rqg hc3 (out := Pr.bool (decide (x1 ≥ 65))) qMove ?_
        rcases iteSome h with ⟨hc4, h⟩ | ⟨hc4, h⟩
        · refine rqg hc4 (out := Pr.u8 x1) qMove ?_
          refine rqg hc4 (out := Pr.bool (decide (x1 ≤ 90))) qInt ?_
          refine rqg hc3 (out := Pr.bool (decide (x1 ≤ 90))) (qPickT hc4) ?_
          refine rq (out := Pr.bool (decide (x1 ≤ 90))) (qPickF hc3) ?_
          refine rq (out := Pr.bool (decide (x1 ≤ 90))) qMove ?_
          rcases iteSome h with ⟨hc5, h⟩ | ⟨hc5, h⟩
          · refine rno (neF hc5) ?_
            refine rno (neF hc5) ?_
            refine rq (out := Pr.bool true) (qPickT hc5) ?_
            refine rq (out := Pr.bool true) qAssign ?_
            exact ⟨true, h, ⟨⟨Pr.le_rfl, trivial⟩, Pick.refl _⟩⟩
          · refine rqg hc5 (out := Pr.u8 x1) qMove ?_
            refine rqg hc5 (out := Pr.bool (x1 == 95)) qInt ?_
            refine rq (out := Pr.bool (x1 == 95)) (qPickF hc5) ?_
            refine rq (out := Pr.bool (x1 == 95)) qAssign ?_
            exact ⟨x1 == 95, h, ⟨⟨Pr.le_rfl, trivial⟩, Pick.refl _⟩⟩
        · refine rno (neT hc4) ?_
          refine rno (neT hc4) ?_
          refine rqg hc3 (out := Pr.bool false) (qPickF hc4) ?_
          refine rq (out := Pr.bool false) (qPickF hc3) ?_
          refine rq (out := Pr.bool false) qMove ?_
          have hc6 : false = false := rfl
          refine rqg hc6 (out := Pr.u8 x1) qMove ?_
          refine rqg hc6 (out := Pr.bool (x1 == 95)) qInt ?_
          refine rq (out := Pr.bool (x1 == 95)) (qPickF hc6) ?_
          refine rq (out := Pr.bool (x1 == 95)) qAssign ?_
          exact ⟨x1 == 95, h, ⟨⟨Pr.le_rfl, trivial⟩, Pick.refl _⟩⟩
    · refine rno (neT hc2) ?_
      refine rno (neT hc2) ?_
      refine rq (out := Pr.bool false) (qPickF hc2) ?_
      refine rq (out := Pr.bool false) qMove ?_
      have hc8 : false = false := rfl
      refine rqg hc8 (out := Pr.u8 x1) qMove ?_
      refine rqg hc8 (out := Pr.bool (decide (x1 ≥ 65))) qInt ?_
      refine rqg hc8 (out := Pr.bool (decide (x1 ≥ 65))) qMove ?_
      rcases iteSome h with ⟨hc9, h⟩ | ⟨hc9, h⟩
      · refine rqg hc9 (out := Pr.u8 x1) qMove ?_
        refine rqg hc9 (out := Pr.bool (decide (x1 ≤ 90))) qInt ?_
        refine rqg hc8 (out := Pr.bool (decide (x1 ≤ 90))) (qPickT hc9) ?_
        refine rq (out := Pr.bool (decide (x1 ≤ 90))) (qPickF hc8) ?_
        refine rq (out := Pr.bool (decide (x1 ≤ 90))) qMove ?_
        rcases iteSome h with ⟨hc10, h⟩ | ⟨hc10, h⟩
        · refine rno (neF hc10) ?_
          refine rno (neF hc10) ?_
          refine rq (out := Pr.bool true) (qPickT hc10) ?_
          refine rq (out := Pr.bool true) qAssign ?_
          exact ⟨true, h, ⟨⟨Pr.le_rfl, trivial⟩, Pick.refl _⟩⟩
        · refine rqg hc10 (out := Pr.u8 x1) qMove ?_
          refine rqg hc10 (out := Pr.bool (x1 == 95)) qInt ?_
          refine rq (out := Pr.bool (x1 == 95)) (qPickF hc10) ?_
          refine rq (out := Pr.bool (x1 == 95)) qAssign ?_
          exact ⟨x1 == 95, h, ⟨⟨Pr.le_rfl, trivial⟩, Pick.refl _⟩⟩
      · refine rno (neT hc9) ?_
        refine rno (neT hc9) ?_
        refine rqg hc8 (out := Pr.bool false) (qPickF hc9) ?_
        refine rq (out := Pr.bool false) (qPickF hc8) ?_
        refine rq (out := Pr.bool false) qMove ?_
        have hc11 : false = false := rfl
        refine rqg hc11 (out := Pr.u8 x1) qMove ?_
        refine rqg hc11 (out := Pr.bool (x1 == 95)) qInt ?_
        refine rq (out := Pr.bool (x1 == 95)) (qPickF hc11) ?_
        refine rq (out := Pr.bool (x1 == 95)) qAssign ?_
        exact ⟨x1 == 95, h, ⟨⟨Pr.le_rfl, trivial⟩, Pick.refl _⟩⟩
theorem ref03_Kept_ok (x1 : List UInt8) (r : Bool) (h : ref03_Kept x1 = some r) : FnP Tryz.prog 45 [Pr.str x1] (Pr.bool r) := by
  refine fn_intro (n := 18) (rs := [2]) Tryz.func45 rfl Tryz.ntmps45 ⟨by decide, Tryz.results45⟩ (by decide) (fun s0 => ?_)
  unfold ref03_Kept at h
  refine W_rs ?_
  refine rq (out := Pr.bool false) qAssign ?_
  refine W_rs ?_
  refine rq (out := Pr.lst Rp.str ([([99, 108, 97, 115, 115] : List UInt8), ([101, 120, 116, 101, 110, 100, 115] : List UInt8), ([115, 116, 97, 116, 105, 99] : List UInt8), ([118, 111, 105, 100] : List UInt8), ([105, 110, 116] : List UInt8), ([98, 111, 111, 108, 101, 97, 110] : List UInt8), ([105, 102] : List UInt8), ([101, 108, 115, 101] : List UInt8), ([119, 104, 105, 108, 101] : List UInt8), ([114, 101, 116, 117, 114, 110] : List UInt8), ([112, 114, 105, 110, 116] : List UInt8), ([116, 114, 117, 101] : List UInt8), ([102, 97, 108, 115, 101] : List UInt8), ([110, 117, 108, 108] : List UInt8), ([116, 104, 105, 115] : List UInt8), ([110, 101, 119] : List UInt8)] : List (List UInt8))) (qBuildSlice (R := Rp.str) (ls := ([([99, 108, 97, 115, 115] : List UInt8), ([101, 120, 116, 101, 110, 100, 115] : List UInt8), ([115, 116, 97, 116, 105, 99] : List UInt8), ([118, 111, 105, 100] : List UInt8), ([105, 110, 116] : List UInt8), ([98, 111, 111, 108, 101, 97, 110] : List UInt8), ([105, 102] : List UInt8), ([101, 108, 115, 101] : List UInt8), ([119, 104, 105, 108, 101] : List UInt8), ([114, 101, 116, 117, 114, 110] : List UInt8), ([112, 114, 105, 110, 116] : List UInt8), ([116, 114, 117, 101] : List UInt8), ([102, 97, 108, 115, 101] : List UInt8), ([110, 117, 108, 108] : List UInt8), ([116, 104, 105, 115] : List UInt8), ([110, 101, 119] : List UInt8)] : List (List UInt8))) el27 (Nat.le_of_ble_eq_true rfl) ⟨rfl, rfl⟩ ⟨rfl, rfl, rfl, rfl, rfl, rfl, rfl, rfl, rfl, rfl, rfl, rfl, rfl, rfl, rfl, rfl, trivial⟩) ?_
  refine rq (out := Pr.lst Rp.str ([([99, 108, 97, 115, 115] : List UInt8), ([101, 120, 116, 101, 110, 100, 115] : List UInt8), ([115, 116, 97, 116, 105, 99] : List UInt8), ([118, 111, 105, 100] : List UInt8), ([105, 110, 116] : List UInt8), ([98, 111, 111, 108, 101, 97, 110] : List UInt8), ([105, 102] : List UInt8), ([101, 108, 115, 101] : List UInt8), ([119, 104, 105, 108, 101] : List UInt8), ([114, 101, 116, 117, 114, 110] : List UInt8), ([112, 114, 105, 110, 116] : List UInt8), ([116, 114, 117, 101] : List UInt8), ([102, 97, 108, 115, 101] : List UInt8), ([110, 117, 108, 108] : List UInt8), ([116, 104, 105, 115] : List UInt8), ([110, 101, 119] : List UInt8)] : List (List UInt8))) qAssign ?_
  refine W_seq ?_
  refine W_rs ?_
  refine rq (out := Pr.i64 0) qAssign ?_
  refine W_block ?_
  obtain ⟨z2l, hz2, h⟩ := bindSome h
  obtain ⟨n2, hN2⟩ := iter_some hz2
  clear hz2
  refine W_after 0 (fun e C => ref03_Kept_k1 = some r ∧ At [] [] e C) ?_ ?_
  · rintro e C ⟨h, hat1⟩
    refine W_at hat1 ?_
    clear hat1
    unfold ref03_Kept_k1 at h
    refine W_rs ?_
    refine rq (out := Pr.bool false) qAssign ?_
    obtain rfl := Option.some.inj h
    exact W_ret ⟨rfl, Pr.le_rfl⟩
  · refine W_loop (fun m e C => ∃ (x2 : Int), IterN (fun s => ref03_Kept_l2 x1 s) m x2 = some z2l ∧ At [(0, Pr.str x1), (3, Pr.lst Rp.str ([([99, 108, 97, 115, 115] : List UInt8), ([101, 120, 116, 101, 110, 100, 115] : List UInt8), ([115, 116, 97, 116, 105, 99] : List UInt8), ([118, 111, 105, 100] : List UInt8), ([105, 110, 116] : List UInt8), ([98, 111, 111, 108, 101, 97, 110] : List UInt8), ([105, 102] : List UInt8), ([101, 108, 115, 101] : List UInt8), ([119, 104, 105, 108, 101] : List UInt8), ([114, 101, 116, 117, 114, 110] : List UInt8), ([112, 114, 105, 110, 116] : List UInt8), ([116, 114, 117, 101] : List UInt8), ([102, 97, 108, 115, 101] : List UInt8), ([110, 117, 108, 108] : List UInt8), ([116, 104, 105, 115] : List UInt8), ([110, 101, 119] : List UInt8)] : List (List UInt8))), (4, Pr.i64 x2)] [] e C) n2 ⟨0, hN2, ⟨⟨Pr.le_rfl, Pr.le_rfl, Pr.le_rfl, trivial⟩, Pick.refl _⟩⟩ ?_
    clear hN2
    rintro m e C ⟨x2, hN2, hatl2⟩
    refine W_at hatl2 ?_
    clear hatl2
    obtain ⟨m2, w2l, rfl, h2l, hn2, ho2⟩ := iterN_some hN2
    clear hN2
    replace h2l : ref03_Kept_l2 x1 x2 = some w2l := h2l
    unfold ref03_Kept_l2 at h2l
    refine W_seq ?_
    refine W_rs ?_
    refine rq (out := Pr.i64 x2) qMove ?_
    refine rq (out := Pr.lst Rp.str ([([99, 108, 97, 115, 115] : List UInt8), ([101, 120, 116, 101, 110, 100, 115] : List UInt8), ([115, 116, 97, 116, 105, 99] : List UInt8), ([118, 111, 105, 100] : List UInt8), ([105, 110, 116] : List UInt8), ([98, 111, 111, 108, 101, 97, 110] : List UInt8), ([105, 102] : List UInt8), ([101, 108, 115, 101] : List UInt8), ([119, 104, 105, 108, 101] : List UInt8), ([114, 101, 116, 117, 114, 110] : List UInt8), ([112, 114, 105, 110, 116] : List UInt8), ([116, 114, 117, 101] : List UInt8), ([102, 97, 108, 115, 101] : List UInt8), ([110, 117, 108, 108] : List UInt8), ([116, 104, 105, 115] : List UInt8), ([110, 101, 119] : List UInt8)] : List (List UInt8))) qMove ?_
    refine rq (out := Pr.i64 (([([99, 108, 97, 115, 115] : List UInt8), ([101, 120, 116, 101, 110, 100, 115] : List UInt8), ([115, 116, 97, 116, 105, 99] : List UInt8), ([118, 111, 105, 100] : List UInt8), ([105, 110, 116] : List UInt8), ([98, 111, 111, 108, 101, 97, 110] : List UInt8), ([105, 102] : List UInt8), ([101, 108, 115, 101] : List UInt8), ([119, 104, 105, 108, 101] : List UInt8), ([114, 101, 116, 117, 114, 110] : List UInt8), ([112, 114, 105, 110, 116] : List UInt8), ([116, 114, 117, 101] : List UInt8), ([102, 97, 108, 115, 101] : List UInt8), ([110, 117, 108, 108] : List UInt8), ([116, 104, 105, 115] : List UInt8), ([110, 101, 119] : List UInt8)] : List (List UInt8)).length : Int)) (qLenL rfl Tryz.underlying27) ?_
    refine rq (out := Pr.bool (decide (x2 < (([([99, 108, 97, 115, 115] : List UInt8), ([101, 120, 116, 101, 110, 100, 115] : List UInt8), ([115, 116, 97, 116, 105, 99] : List UInt8), ([118, 111, 105, 100] : List UInt8), ([105, 110, 116] : List UInt8), ([98, 111, 111, 108, 101, 97, 110] : List UInt8), ([105, 102] : List UInt8), ([101, 108, 115, 101] : List UInt8), ([119, 104, 105, 108, 101] : List UInt8), ([114, 101, 116, 117, 114, 110] : List UInt8), ([112, 114, 105, 110, 116] : List UInt8), ([116, 114, 117, 101] : List UInt8), ([102, 97, 108, 115, 101] : List UInt8), ([110, 117, 108, 108] : List UInt8), ([116, 104, 105, 115] : List UInt8), ([110, 101, 119] : List UInt8)] : List (List UInt8)).length : Int)))) qInt ?_
    refine W_cond (b := decide (x2 < (([([99, 108, 97, 115, 115] : List UInt8), ([101, 120, 116, 101, 110, 100, 115] : List UInt8), ([115, 116, 97, 116, 105, 99] : List UInt8), ([118, 111, 105, 100] : List UInt8), ([105, 110, 116] : List UInt8), ([98, 111, 111, 108, 101, 97, 110] : List UInt8), ([105, 102] : List UInt8), ([101, 108, 115, 101] : List UInt8), ([119, 104, 105, 108, 101] : List UInt8), ([114, 101, 116, 117, 114, 110] : List UInt8), ([112, 114, 105, 110, 116] : List UInt8), ([116, 114, 117, 101] : List UInt8), ([102, 97, 108, 115, 101] : List UInt8), ([110, 117, 108, 108] : List UInt8), ([116, 104, 105, 115] : List UInt8), ([110, 101, 119] : List UInt8)] : List (List UInt8)).length : Int))) rfl (fun hc4 => ?_) (fun hc4 => ?_)
    · replace h2l := iteT hc4 h2l
      refine W_skip ?_
      refine W_seq ?_
      refine W_block ?_
      refine W_rs ?_
      refine rq (out := Pr.lst Rp.str ([([99, 108, 97, 115, 115] : List UInt8), ([101, 120, 116, 101, 110, 100, 115] : List UInt8), ([115, 116, 97, 116, 105, 99] : List UInt8), ([118, 111, 105, 100] : List UInt8), ([105, 110, 116] : List UInt8), ([98, 111, 111, 108, 101, 97, 110] : List UInt8), ([105, 102] : List UInt8), ([101, 108, 115, 101] : List UInt8), ([119, 104, 105, 108, 101] : List UInt8), ([114, 101, 116, 117, 114, 110] : List UInt8), ([112, 114, 105, 110, 116] : List UInt8), ([116, 114, 117, 101] : List UInt8), ([102, 97, 108, 115, 101] : List UInt8), ([110, 117, 108, 108] : List UInt8), ([116, 104, 105, 115] : List UInt8), ([110, 101, 119] : List UInt8)] : List (List UInt8))) qMove ?_
      refine rq (out := Pr.i64 x2) qMove ?_
      obtain ⟨x5, hx5, h2l⟩ := bindSome h2l
      refine rq (out := Pr.cpt Rp.str x5) (qIdxA (R := Rp.str) (l := ([([99, 108, 97, 115, 115] : List UInt8), ([101, 120, 116, 101, 110, 100, 115] : List UInt8), ([115, 116, 97, 116, 105, 99] : List UInt8), ([118, 111, 105, 100] : List UInt8), ([105, 110, 116] : List UInt8), ([98, 111, 111, 108, 101, 97, 110] : List UInt8), ([105, 102] : List UInt8), ([101, 108, 115, 101] : List UInt8), ([119, 104, 105, 108, 101] : List UInt8), ([114, 101, 116, 117, 114, 110] : List UInt8), ([112, 114, 105, 110, 116] : List UInt8), ([116, 114, 117, 101] : List UInt8), ([102, 97, 108, 115, 101] : List UInt8), ([110, 117, 108, 108] : List UInt8), ([116, 104, 105, 115] : List UInt8), ([110, 101, 119] : List UInt8)] : List (List UInt8))) Tryz.underlying27 Tryz.sizeOf9 hx5) ?_
      refine rq (out := Pr.str x5) (qLoadC (R := Rp.str) (a := x5) ty9) ?_
      refine rq (out := Pr.str x1) qMove ?_
      refine rq (out := Pr.bool (x5 == x1)) qStr ?_
      refine W_cond (b := x5 == x1) rfl (fun hc6 => ?_) (fun hc6 => ?_)
      · replace h2l := iteT hc6 h2l
        refine W_rs ?_
        refine rq (out := Pr.bool true) qAssign ?_
        obtain rfl := ho2 _ (Option.some.inj h2l).symm
        replace h : some true = some r := h
        obtain rfl := Option.some.inj h
        exact W_ret ⟨rfl, Pr.le_rfl⟩
      · replace h2l := iteF hc6 h2l
        refine W_skip ?_
        refine W_r ?_
        refine rq (out := Pr.i64 x2) qMove ?_
        refine rq (out := Pr.i64 (w64 (x2 + 1))) qInt ?_
        refine rq (out := Pr.i64 (w64 (x2 + 1))) qAssign ?_
        exact ⟨m2, Nat.lt_succ_self _, w64 (x2 + 1), hn2 _ (Option.some.inj h2l).symm, ⟨⟨Pr.le_rfl, Pr.le_rfl, Pr.le_rfl, trivial⟩, Pick.refl _⟩⟩
    · replace h2l := iteF hc4 h2l
      refine W_exit ?_
      obtain rfl := ho2 _ (Option.some.inj h2l).symm
      exact ⟨h, ⟨trivial, Pick.refl _⟩⟩
theorem ref03_mark_ok (x1 : List UInt8) (x2 : Int) (r : Int) (h : ref03_mark x1 x2 = some r) : FnP Tryz.prog 46 [Pr.str x1, Pr.i64 x2] (Pr.i64 r) := by
  refine fn_intro (n := 46) (rs := [4]) Tryz.func46 rfl Tryz.ntmps46 ⟨by decide, Tryz.results46⟩ (by decide) (fun s0 => ?_)
  unfold ref03_mark at h
  refine W_rs ?_
  refine rq (out := Pr.i64 0) qAssign ?_
  refine W_rs ?_
  refine rq (out := Pr.lst Rp.str ([([61, 61] : List UInt8), ([33, 61] : List UInt8), ([60, 61] : List UInt8), ([62, 61] : List UInt8), ([38, 38] : List UInt8), ([124, 124] : List UInt8)] : List (List UInt8))) (qBuildSlice (R := Rp.str) (ls := ([([61, 61] : List UInt8), ([33, 61] : List UInt8), ([60, 61] : List UInt8), ([62, 61] : List UInt8), ([38, 38] : List UInt8), ([124, 124] : List UInt8)] : List (List UInt8))) el27 (Nat.le_of_ble_eq_true rfl) ⟨rfl, rfl⟩ ⟨rfl, rfl, rfl, rfl, rfl, rfl, trivial⟩) ?_
  refine rq (out := Pr.lst Rp.str ([([61, 61] : List UInt8), ([33, 61] : List UInt8), ([60, 61] : List UInt8), ([62, 61] : List UInt8), ([38, 38] : List UInt8), ([124, 124] : List UInt8)] : List (List UInt8))) qAssign ?_
  refine W_seq ?_
  refine W_rs ?_
  refine rq (out := Pr.i64 0) qAssign ?_
  refine W_block ?_
  obtain ⟨z5l, hz5, h⟩ := bindSome h
  obtain ⟨n5, hN5⟩ := iter_some hz5
  clear hz5
  refine W_after 0 (fun e C => ref03_mark_k4 x1 x2 = some r ∧ At [(0, Pr.str x1), (1, Pr.i64 x2)] [] e C) ?_ ?_
  · rintro e C ⟨h, hat4⟩
    refine W_at hat4 ?_
    clear hat4
    unfold ref03_mark_k4 at h
    refine W_rs ?_
    refine rq (out := Pr.str ([43, 45, 42, 47, 37, 60, 62, 61, 33, 40, 41, 123, 125, 59, 44, 46] : List UInt8)) qAssign ?_
    refine W_seq ?_
    refine W_rs ?_
    refine rq (out := Pr.i64 0) qAssign ?_
    refine W_block ?_
    obtain ⟨z2l, hz2, h⟩ := bindSome h
    obtain ⟨n2, hN2⟩ := iter_some hz2
    clear hz2
    refine W_after 2 (fun e C => ref03_mark_k1 = some r ∧ At [] [] e C) ?_ ?_
    · rintro e C ⟨h, hat1⟩
      refine W_at hat1 ?_
      clear hat1
      unfold ref03_mark_k1 at h
      refine W_rs ?_
      refine rq (out := Pr.i64 0) qAssign ?_
      obtain rfl := Option.some.inj h
      exact W_ret ⟨rfl, Pr.le_rfl⟩
    · refine W_loop (fun m e C => ∃ (x11 : Int), IterN (fun s => ref03_mark_l2 x1 x2 s) m x11 = some z2l ∧ At [(0, Pr.str x1), (1, Pr.i64 x2), (7, Pr.str ([43, 45, 42, 47, 37, 60, 62, 61, 33, 40, 41, 123, 125, 59, 44, 46] : List UInt8)), (8, Pr.i64 x11)] [] e C) n2 ⟨0, hN2, ⟨⟨Pr.le_rfl, Pr.le_rfl, Pr.le_rfl, Pr.le_rfl, trivial⟩, Pick.refl _⟩⟩ ?_
      clear hN2
      rintro m e C ⟨x11, hN2, hatl2⟩
      refine W_at hatl2 ?_
      clear hatl2
      obtain ⟨m2, w2l, rfl, h2l, hn2, ho2⟩ := iterN_some hN2
      clear hN2
      replace h2l : ref03_mark_l2 x1 x2 x11 = some w2l := h2l
      unfold ref03_mark_l2 at h2l
      refine W_seq ?_
      refine W_rs ?_
      refine rq (out := Pr.i64 x11) qMove ?_
      refine rq (out := Pr.str ([43, 45, 42, 47, 37, 60, 62, 61, 33, 40, 41, 123, 125, 59, 44, 46] : List UInt8)) qMove ?_
      refine rq (out := Pr.i64 (([43, 45, 42, 47, 37, 60, 62, 61, 33, 40, 41, 123, 125, 59, 44, 46] : List UInt8).length : Int)) (qLenS rfl Tryz.underlying9) ?_
      refine rq (out := Pr.bool (decide (x11 < (([43, 45, 42, 47, 37, 60, 62, 61, 33, 40, 41, 123, 125, 59, 44, 46] : List UInt8).length : Int)))) qInt ?_
      refine W_cond (b := decide (x11 < (([43, 45, 42, 47, 37, 60, 62, 61, 33, 40, 41, 123, 125, 59, 44, 46] : List UInt8).length : Int))) rfl (fun hc13 => ?_) (fun hc13 => ?_)
      · replace h2l := iteT hc13 h2l
        refine W_skip ?_
        refine W_seq ?_
        refine W_block ?_
        refine W_join (fun e C => ∃ (x14 : Int), ∃ (x15 : Int), ref03_mark_j3 x11 x14 x15 = some w2l ∧ At [(0, Pr.str x1), (1, Pr.i64 x2), (7, Pr.str ([43, 45, 42, 47, 37, 60, 62, 61, 33, 40, 41, 123, 125, 59, 44, 46] : List UInt8)), (8, Pr.i64 x11), (45, Pr.bool (x14 == x15))] [] e C) ?_ ?_
        · rintro e C ⟨x14, x15, h2l, hat3⟩
          refine W_at hat3 ?_
          clear hat3
          unfold ref03_mark_j3 at h2l
          refine W_cond (b := x14 == x15) rfl (fun hc16 => ?_) (fun hc16 => ?_)
          · replace h2l := iteT hc16 h2l
            refine W_rs ?_
            refine rq (out := Pr.i64 1) qAssign ?_
            obtain rfl := ho2 _ (Option.some.inj h2l).symm
            replace h : some 1 = some r := h
            obtain rfl := Option.some.inj h
            exact W_ret ⟨rfl, Pr.le_rfl⟩
          · replace h2l := iteF hc16 h2l
            refine W_skip ?_
            refine W_r ?_
            refine rq (out := Pr.i64 x11) qMove ?_
            refine rq (out := Pr.i64 (w64 (x11 + 1))) qInt ?_
            refine rq (out := Pr.i64 (w64 (x11 + 1))) qAssign ?_
            exact ⟨m2, Nat.lt_succ_self _, w64 (x11 + 1), hn2 _ (Option.some.inj h2l).symm, ⟨⟨Pr.le_rfl, Pr.le_rfl, Pr.le_rfl, Pr.le_rfl, trivial⟩, Pick.refl _⟩⟩
        · refine W_draw 7 hmx (by kernel_rfl) (by kernel_rfl) ?_
          refine qq (out := Pr.str x1) qMove ?_
          refine qq (out := Pr.i64 x2) qMove ?_
          obtain ⟨x14, hx14, h2l⟩ := bindSome h2l
          refine qq (out := Pr.u8 x14) (qIdxS Tryz.underlying9 hx14) ?_
          refine qq (out := Pr.str ([43, 45, 42, 47, 37, 60, 62, 61, 33, 40, 41, 123, 125, 59, 44, 46] : List UInt8)) qMove ?_
          refine qq (out := Pr.i64 x11) qMove ?_
          obtain ⟨x15, hx15, h2l⟩ := bindSome h2l
          refine qq (out := Pr.u8 x15) (qIdxS Tryz.underlying9 hx15) ?_
          refine qq (out := Pr.bool (x14 == x15)) qInt ?_
          exact ⟨x14, x15, h2l, ⟨⟨Pr.le_rfl, Pr.le_rfl, Pr.le_rfl, Pr.le_rfl, Pr.le_rfl, trivial⟩, Pick.refl _⟩⟩
      · replace h2l := iteF hc13 h2l
        refine W_exit ?_
        obtain rfl := ho2 _ (Option.some.inj h2l).symm
        exact ⟨h, ⟨trivial, Pick.refl _⟩⟩
  · refine W_loop (fun m e C => ∃ (x3 : Int), IterN (fun s => ref03_mark_l5 x1 x2 s) m x3 = some z5l ∧ At [(0, Pr.str x1), (1, Pr.i64 x2), (5, Pr.lst Rp.str ([([61, 61] : List UInt8), ([33, 61] : List UInt8), ([60, 61] : List UInt8), ([62, 61] : List UInt8), ([38, 38] : List UInt8), ([124, 124] : List UInt8)] : List (List UInt8))), (6, Pr.i64 x3)] [] e C) n5 ⟨0, hN5, ⟨⟨Pr.le_rfl, Pr.le_rfl, Pr.le_rfl, Pr.le_rfl, trivial⟩, Pick.refl _⟩⟩ ?_
    clear hN5
    rintro m e C ⟨x3, hN5, hatl5⟩
    refine W_at hatl5 ?_
    clear hatl5
    obtain ⟨m5, w5l, rfl, h5l, hn5, ho5⟩ := iterN_some hN5
    clear hN5
    replace h5l : ref03_mark_l5 x1 x2 x3 = some w5l := h5l
    unfold ref03_mark_l5 at h5l
    refine W_seq ?_
    refine W_join (fun e C => ∃ (x6 : Bool), ref03_mark_j7 x1 x2 x3 x6 = some w5l ∧ At [(0, Pr.str x1), (1, Pr.i64 x2), (5, Pr.lst Rp.str ([([61, 61] : List UInt8), ([33, 61] : List UInt8), ([60, 61] : List UInt8), ([62, 61] : List UInt8), ([38, 38] : List UInt8), ([124, 124] : List UInt8)] : List (List UInt8))), (6, Pr.i64 x3), (20, Pr.bool x6)] [] e C) ?_ ?_
    · rintro e C ⟨x6, h5l, hat7⟩
      refine W_at hat7 ?_
      clear hat7
      unfold ref03_mark_j7 at h5l
      refine W_cond (b := x6) rfl (fun hc7 => ?_) (fun hc7 => ?_)
      · replace h5l := iteT hc7 h5l
        refine W_skip ?_
        refine W_seq ?_
        refine W_block ?_
        refine W_join (fun e C => ∃ (x8 : List UInt8), ∃ (x9 : List UInt8), ref03_mark_j6 x3 x8 x9 = some w5l ∧ At [(0, Pr.str x1), (1, Pr.i64 x2), (5, Pr.lst Rp.str ([([61, 61] : List UInt8), ([33, 61] : List UInt8), ([60, 61] : List UInt8), ([62, 61] : List UInt8), ([38, 38] : List UInt8), ([124, 124] : List UInt8)] : List (List UInt8))), (6, Pr.i64 x3), (32, Pr.bool (x8 == x9))] [] e C) ?_ ?_
        · rintro e C ⟨x8, x9, h5l, hat6⟩
          refine W_at hat6 ?_
          clear hat6
          unfold ref03_mark_j6 at h5l
          refine W_cond (b := x8 == x9) rfl (fun hc10 => ?_) (fun hc10 => ?_)
          · replace h5l := iteT hc10 h5l
            refine W_rs ?_
            refine rq (out := Pr.i64 2) qAssign ?_
            obtain rfl := ho5 _ (Option.some.inj h5l).symm
            replace h : some 2 = some r := h
            obtain rfl := Option.some.inj h
            exact W_ret ⟨rfl, Pr.le_rfl⟩
          · replace h5l := iteF hc10 h5l
            refine W_skip ?_
            refine W_r ?_
            refine rq (out := Pr.i64 x3) qMove ?_
            refine rq (out := Pr.i64 (w64 (x3 + 1))) qInt ?_
            refine rq (out := Pr.i64 (w64 (x3 + 1))) qAssign ?_
            exact ⟨m5, Nat.lt_succ_self _, w64 (x3 + 1), hn5 _ (Option.some.inj h5l).symm, ⟨⟨Pr.le_rfl, Pr.le_rfl, Pr.le_rfl, Pr.le_rfl, trivial⟩, Pick.refl _⟩⟩
        · refine W_draw 10 hmx (by kernel_rfl) (by kernel_rfl) ?_
          refine qq (out := Pr.str x1) qMove ?_
          refine qq (out := Pr.i64 x2) qMove ?_
          refine qq (out := Pr.i64 x2) qMove ?_
          refine qq (out := Pr.i64 (w64 (x2 + 2))) qInt ?_
          obtain ⟨x8, hx8, h5l⟩ := bindSome h5l
          refine qq (out := Pr.str x8) (qSubLH Tryz.underlying9 hx8) ?_
          refine qq (out := Pr.lst Rp.str ([([61, 61] : List UInt8), ([33, 61] : List UInt8), ([60, 61] : List UInt8), ([62, 61] : List UInt8), ([38, 38] : List UInt8), ([124, 124] : List UInt8)] : List (List UInt8))) qMove ?_
          refine qq (out := Pr.i64 x3) qMove ?_
          obtain ⟨x9, hx9, h5l⟩ := bindSome h5l
          refine qq (out := Pr.cpt Rp.str x9) (qIdxA (R := Rp.str) (l := ([([61, 61] : List UInt8), ([33, 61] : List UInt8), ([60, 61] : List UInt8), ([62, 61] : List UInt8), ([38, 38] : List UInt8), ([124, 124] : List UInt8)] : List (List UInt8))) Tryz.underlying27 Tryz.sizeOf9 hx9) ?_
          refine qq (out := Pr.str x9) (qLoadC (R := Rp.str) (a := x9) ty9) ?_
          refine qq (out := Pr.bool (x8 == x9)) qStr ?_
          exact ⟨x8, x9, h5l, ⟨⟨Pr.le_rfl, Pr.le_rfl, Pr.le_rfl, Pr.le_rfl, Pr.le_rfl, trivial⟩, Pick.refl _⟩⟩
      · replace h5l := iteF hc7 h5l
        refine W_exit ?_
        obtain rfl := ho5 _ (Option.some.inj h5l).symm
        exact ⟨h, ⟨⟨Pr.le_rfl, Pr.le_rfl, trivial⟩, Pick.refl _⟩⟩
    · refine W_r ?_
      refine rq (out := Pr.i64 x3) qMove ?_
      refine rq (out := Pr.lst Rp.str ([([61, 61] : List UInt8), ([33, 61] : List UInt8), ([60, 61] : List UInt8), ([62, 61] : List UInt8), ([38, 38] : List UInt8), ([124, 124] : List UInt8)] : List (List UInt8))) qMove ?_
      refine rq (out := Pr.i64 (([([61, 61] : List UInt8), ([33, 61] : List UInt8), ([60, 61] : List UInt8), ([62, 61] : List UInt8), ([38, 38] : List UInt8), ([124, 124] : List UInt8)] : List (List UInt8)).length : Int)) (qLenL rfl Tryz.underlying27) ?_
      refine rq (out := Pr.bool (decide (x3 < (([([61, 61] : List UInt8), ([33, 61] : List UInt8), ([60, 61] : List UInt8), ([62, 61] : List UInt8), ([38, 38] : List UInt8), ([124, 124] : List UInt8)] : List (List UInt8)).length : Int)))) qInt ?_
      refine rq (out := Pr.bool (decide (x3 < (([([61, 61] : List UInt8), ([33, 61] : List UInt8), ([60, 61] : List UInt8), ([62, 61] : List UInt8), ([38, 38] : List UInt8), ([124, 124] : List UInt8)] : List (List UInt8)).length : Int)))) qMove ?_
      rcases iteSome h5l with ⟨hc5, h5l⟩ | ⟨hc5, h5l⟩
      · refine rqg hc5 (out := Pr.i64 x2) qMove ?_
        refine rqg hc5 (out := Pr.i64 (w64 (x2 + 2))) qInt ?_
        refine rqg hc5 (out := Pr.str x1) qMove ?_
        refine rqg hc5 (out := Pr.i64 (x1.length : Int)) (qLenS rfl Tryz.underlying9) ?_
        refine rqg hc5 (out := Pr.bool (decide ((w64 (x2 + 2)) ≤ (x1.length : Int)))) qInt ?_
        refine rq (out := Pr.bool (decide ((w64 (x2 + 2)) ≤ (x1.length : Int)))) (qPickT hc5) ?_
        exact ⟨decide ((w64 (x2 + 2)) ≤ (x1.length : Int)), h5l, ⟨⟨Pr.le_rfl, Pr.le_rfl, Pr.le_rfl, Pr.le_rfl, Pr.le_rfl, trivial⟩, Pick.refl _⟩⟩
      · refine rno (neT hc5) ?_
        refine rno (neT hc5) ?_
        refine rno (neT hc5) ?_
        refine rno (neT hc5) ?_
        refine rno (neT hc5) ?_
        refine rq (out := Pr.bool false) (qPickF hc5) ?_
        exact ⟨false, h5l, ⟨⟨Pr.le_rfl, Pr.le_rfl, Pr.le_rfl, Pr.le_rfl, Pr.le_rfl, trivial⟩, Pick.refl _⟩⟩
theorem ref03_token_ok (x1 : List UInt8) (x2 : Int) (r : Int × Int × Int) (h : ref03_token x1 x2 = some r) : FnP Tryz.prog 32 [Pr.str x1, Pr.i64 x2] (Pr.tup [Pr.i64 r.1, Pr.i64 r.2.1, Pr.i64 r.2.2]) := by
  refine fn_intro (n := 95) (rs := [4, 5, 6]) Tryz.func32 rfl Tryz.ntmps32 ⟨by decide, Tryz.results32⟩ (by decide) (fun s0 => ?_)
  unfold ref03_token at h
  refine W_rs ?_
  refine rq (out := Pr.i64 0) qAssign ?_
  refine rq (out := Pr.i64 0) qAssign ?_
  refine rq (out := Pr.i64 0) qAssign ?_
  refine W_rs ?_
  refine rq (out := Pr.i64 0) qAssign ?_
  refine W_seq ?_
  refine W_rs ?_
  refine rq (out := Pr.str x1) qMove ?_
  refine rq (out := Pr.i64 x2) qMove ?_
  obtain ⟨x3, hx3, h⟩ := bindSome h
  refine rq (out := Pr.u8 x3) (qIdxS Tryz.underlying9 hx3) ?_
  obtain ⟨x4, hx4, h⟩ := bindSome h
  refine rq (out := Pr.bool x4) (qCall (ref03_digit_ok x3 _ hx4)) ?_
  refine W_cond (b := x4) rfl (fun hc5 => ?_) (fun hc5 => ?_)
  · replace h := iteT hc5 h
    refine W_seq ?_
    refine W_block ?_
    obtain ⟨z3l, hz3, h⟩ := bindSome h
    obtain ⟨n3, hN3⟩ := iter_some hz3
    clear hz3
    refine W_after 0 (fun e C => ∃ (x6 : Int), ref03_token_k2 x1 x2 x6 = some r ∧ At [(0, Pr.str x1), (1, Pr.i64 x2), (7, Pr.i64 x6)] [] e C) ?_ ?_
    · rintro e C ⟨x6, h, hat2⟩
      refine W_at hat2 ?_
      clear hat2
      unfold ref03_token_k2 at h
      refine W_rs ?_
      refine rq (out := Pr.str x1) qMove ?_
      refine rq (out := Pr.i64 x2) qMove ?_
      refine rq (out := Pr.i64 x2) qMove ?_
      refine rq (out := Pr.i64 x6) qMove ?_
      refine rq (out := Pr.i64 (w64 (x2 + x6))) qInt ?_
      obtain ⟨x13, hx13, h⟩ := bindSome h
      refine rq (out := Pr.str x13) (qSubLH Tryz.underlying9 hx13) ?_
      obtain ⟨x14, hx14, h⟩ := bindSome h
      refine rq (out := Pr.bool x14) (qCall (ref03_great_ok x13 _ hx14)) ?_
      refine rq (out := Pr.bool x14) qAssign ?_
      refine W_seq ?_
      refine W_join (fun e C => ∃ (x18 : Bool), ref03_token_j1 x6 x18 = some r ∧ At [(7, Pr.i64 x6), (47, Pr.bool x18)] [] e C) ?_ ?_
      · rintro e C ⟨x18, h, hat1⟩
        refine W_at hat1 ?_
        clear hat1
        unfold ref03_token_j1 at h
        refine W_cond (b := x18) rfl (fun hc19 => ?_) (fun hc19 => ?_)
        · replace h := iteT hc19 h
          refine W_rs ?_
          refine rq (out := Pr.i64 0) qAssign ?_
          refine rq (out := Pr.i64 0) qAssign ?_
          refine rq (out := Pr.i64 31) qAssign ?_
          obtain rfl := Option.some.inj h
          exact W_ret ⟨rfl, Pr.le_rfl⟩
        · replace h := iteF hc19 h
          refine W_skip ?_
          refine W_rs ?_
          refine rq (out := Pr.i64 x6) qMove ?_
          refine rq (out := Pr.i64 2) qAssign ?_
          refine rq (out := Pr.i64 x6) qAssign ?_
          refine rq (out := Pr.i64 0) qAssign ?_
          obtain rfl := Option.some.inj h
          exact W_ret ⟨rfl, Pr.le_rfl⟩
      · refine W_r ?_
        refine rq (out := Pr.bool x14) qMove ?_
        refine rq (out := Pr.bool x14) qMove ?_
        rcases iteSome h with ⟨hc15, h⟩ | ⟨hc15, h⟩
        · refine rno (neF hc15) ?_
          refine rno (neF hc15) ?_
          refine rno (neF hc15) ?_
          refine rnoU ?_
          refine rnoU ?_
          refine rnoU ?_
          refine rnoU ?_
          refine rno (neF hc15) ?_
          refine rq (out := Pr.bool true) (qPickT hc15) ?_
          exact ⟨true, h, ⟨⟨Pr.le_rfl, Pr.le_rfl, trivial⟩, Pick.refl _⟩⟩
        · refine rqg hc15 (out := Pr.i64 x6) qMove ?_
          refine rqg hc15 (out := Pr.bool (decide (x6 > 1))) qInt ?_
          refine rqg hc15 (out := Pr.bool (decide (x6 > 1))) qMove ?_
          rcases iteSome h with ⟨hc16, h⟩ | ⟨hc16, h⟩
          · refine rqg hc16 (out := Pr.str x1) qMove ?_
            refine rqg hc16 (out := Pr.i64 x2) qMove ?_
            obtain ⟨x17, hx17, h⟩ := bindSome h
            refine rqg hc16 (out := Pr.u8 x17) (qIdxS Tryz.underlying9 hx17) ?_
            refine rqg hc16 (out := Pr.bool (x17 == 48)) qInt ?_
            refine rqg hc15 (out := Pr.bool (x17 == 48)) (qPickT hc16) ?_
            refine rq (out := Pr.bool (x17 == 48)) (qPickF hc15) ?_
            exact ⟨x17 == 48, h, ⟨⟨Pr.le_rfl, Pr.le_rfl, trivial⟩, Pick.refl _⟩⟩
          · refine rno (neT hc16) ?_
            refine rno (neT hc16) ?_
            refine rno (neT hc16) ?_
            refine rno (neT hc16) ?_
            refine rqg hc15 (out := Pr.bool false) (qPickF hc16) ?_
            refine rq (out := Pr.bool false) (qPickF hc15) ?_
            exact ⟨false, h, ⟨⟨Pr.le_rfl, Pr.le_rfl, trivial⟩, Pick.refl _⟩⟩
    · refine W_loop (fun m e C => ∃ (x6 : Int), IterN (fun s => ref03_token_l3 x2 x1 s) m x6 = some z3l ∧ At [(0, Pr.str x1), (1, Pr.i64 x2), (7, Pr.i64 x6)] [] e C) n3 ⟨0, hN3, ⟨⟨Pr.le_rfl, Pr.le_rfl, Pr.le_rfl, trivial⟩, Pick.refl _⟩⟩ ?_
      clear hN3
      rintro m e C ⟨x6, hN3, hatl3⟩
      refine W_at hatl3 ?_
      clear hatl3
      obtain ⟨m3, w3l, rfl, h3l, hn3, ho3⟩ := iterN_some hN3
      clear hN3
      replace h3l : ref03_token_l3 x2 x1 x6 = some w3l := h3l
      unfold ref03_token_l3 at h3l
      refine W_seq ?_
      refine W_join (fun e C => ∃ (x11 : Bool), ref03_token_j4 x6 x11 = some w3l ∧ At [(0, Pr.str x1), (1, Pr.i64 x2), (7, Pr.i64 x6), (27, Pr.bool x11)] [] e C) ?_ ?_
      · rintro e C ⟨x11, h3l, hat4⟩
        refine W_at hat4 ?_
        clear hat4
        unfold ref03_token_j4 at h3l
        refine W_cond (b := x11) rfl (fun hc12 => ?_) (fun hc12 => ?_)
        · replace h3l := iteT hc12 h3l
          refine W_skip ?_
          refine W_block ?_
          refine W_r ?_
          refine rq (out := Pr.i64 x6) qMove ?_
          refine rq (out := Pr.i64 (w64 (x6 + 1))) qInt ?_
          refine rq (out := Pr.i64 (w64 (x6 + 1))) qAssign ?_
          exact ⟨m3, Nat.lt_succ_self _, w64 (x6 + 1), hn3 _ (Option.some.inj h3l).symm, ⟨⟨Pr.le_rfl, Pr.le_rfl, Pr.le_rfl, trivial⟩, Pick.refl _⟩⟩
        · replace h3l := iteF hc12 h3l
          refine W_exit ?_
          obtain rfl := ho3 _ (Option.some.inj h3l).symm
          exact ⟨x6, h, ⟨⟨Pr.le_rfl, Pr.le_rfl, Pr.le_rfl, trivial⟩, Pick.refl _⟩⟩
      · refine W_r ?_
        refine rq (out := Pr.i64 x2) qMove ?_
        refine rq (out := Pr.i64 x6) qMove ?_
        refine rq (out := Pr.i64 (w64 (x2 + x6))) qInt ?_
        refine rq (out := Pr.str x1) qMove ?_
        refine rq (out := Pr.i64 (x1.length : Int)) (qLenS rfl Tryz.underlying9) ?_
        refine rq (out := Pr.bool (decide ((w64 (x2 + x6)) < (x1.length : Int)))) qInt ?_
        refine rq (out := Pr.bool (decide ((w64 (x2 + x6)) < (x1.length : Int)))) qMove ?_
        rcases iteSome h3l with ⟨hc8, h3l⟩ | ⟨hc8, h3l⟩
        · refine rqg hc8 (out := Pr.str x1) qMove ?_
          refine rqg hc8 (out := Pr.i64 x2) qMove ?_
          refine rqg hc8 (out := Pr.i64 x6) qMove ?_
          refine rqg hc8 (out := Pr.i64 (w64 (x2 + x6))) qInt ?_
          obtain ⟨x9, hx9, h3l⟩ := bindSome h3l
          refine rqg hc8 (out := Pr.u8 x9) (qIdxS Tryz.underlying9 hx9) ?_
          obtain ⟨x10, hx10, h3l⟩ := bindSome h3l
          refine rqg hc8 (out := Pr.bool x10) (qCall (ref03_digit_ok x9 _ hx10)) ?_
          refine rq (out := Pr.bool x10) (qPickT hc8) ?_
          exact ⟨x10, h3l, ⟨⟨Pr.le_rfl, Pr.le_rfl, Pr.le_rfl, Pr.le_rfl, trivial⟩, Pick.refl _⟩⟩
        · refine rno (neT hc8) ?_
          refine rno (neT hc8) ?_
          refine rno (neT hc8) ?_
          refine rno (neT hc8) ?_
          refine rno (neT hc8) ?_
          refine rno (neT hc8) ?_
          refine rq (out := Pr.bool false) (qPickF hc8) ?_
          exact ⟨false, h3l, ⟨⟨Pr.le_rfl, Pr.le_rfl, Pr.le_rfl, Pr.le_rfl, trivial⟩, Pick.refl _⟩⟩
  · replace h := iteF hc5 h
    refine W_skip ?_
    refine W_seq ?_
    refine W_rs ?_
    refine rq (out := Pr.str x1) qMove ?_
    refine rq (out := Pr.i64 x2) qMove ?_
    obtain ⟨x20, hx20, h⟩ := bindSome h
    refine rq (out := Pr.u8 x20) (qIdxS Tryz.underlying9 hx20) ?_
    obtain ⟨x21, hx21, h⟩ := bindSome h
    refine rq (out := Pr.bool x21) (qCall (ref03_letter_ok x20 _ hx21)) ?_
    refine W_cond (b := x21) rfl (fun hc22 => ?_) (fun hc22 => ?_)
    · replace h := iteT hc22 h
      refine W_seq ?_
      refine W_block ?_
      obtain ⟨z6l, hz6, h⟩ := bindSome h
      obtain ⟨n6, hN6⟩ := iter_some hz6
      clear hz6
      refine W_after 2 (fun e C => ∃ (x23 : Int), ref03_token_k5 x1 x2 x23 = some r ∧ At [(0, Pr.str x1), (1, Pr.i64 x2), (7, Pr.i64 x23)] [] e C) ?_ ?_
      · rintro e C ⟨x23, h, hat5⟩
        refine W_at hat5 ?_
        clear hat5
        unfold ref03_token_k5 at h
        refine W_seq ?_
        refine W_rs ?_
        refine rq (out := Pr.i64 x23) qMove ?_
        refine rq (out := Pr.bool (decide (x23 > 20))) qInt ?_
        refine W_cond (b := decide (x23 > 20)) rfl (fun hc33 => ?_) (fun hc33 => ?_)
        · replace h := iteT hc33 h
          refine W_rs ?_
          refine rq (out := Pr.i64 0) qAssign ?_
          refine rq (out := Pr.i64 0) qAssign ?_
          refine rq (out := Pr.i64 2) qAssign ?_
          obtain rfl := Option.some.inj h
          exact W_ret ⟨rfl, Pr.le_rfl⟩
        · replace h := iteF hc33 h
          refine W_skip ?_
          refine W_rs ?_
          refine rq (out := Pr.str x1) qMove ?_
          refine rq (out := Pr.i64 x2) qMove ?_
          refine rq (out := Pr.i64 x2) qMove ?_
          refine rq (out := Pr.i64 x23) qMove ?_
          refine rq (out := Pr.i64 (w64 (x2 + x23))) qInt ?_
          obtain ⟨x34, hx34, h⟩ := bindSome h
          refine rq (out := Pr.str x34) (qSubLH Tryz.underlying9 hx34) ?_
          obtain ⟨x35, hx35, h⟩ := bindSome h
          refine rq (out := Pr.bool x35) (qCall (ref03_Kept_ok x34 _ hx35)) ?_
          refine rq (out := Pr.bool x35) qAssign ?_
          refine W_seq ?_
          refine W_rs ?_
          refine rq (out := Pr.bool x35) qMove ?_
          refine W_cond (b := x35) rfl (fun hc36 => ?_) (fun hc36 => ?_)
          · replace h := iteT hc36 h
            refine W_rs ?_
            refine rq (out := Pr.i64 x23) qMove ?_
            refine rq (out := Pr.i64 3) qAssign ?_
            refine rq (out := Pr.i64 x23) qAssign ?_
            refine rq (out := Pr.i64 0) qAssign ?_
            obtain rfl := Option.some.inj h
            exact W_ret ⟨rfl, Pr.le_rfl⟩
          · replace h := iteF hc36 h
            refine W_skip ?_
            refine W_rs ?_
            refine rq (out := Pr.i64 x23) qMove ?_
            refine rq (out := Pr.i64 1) qAssign ?_
            refine rq (out := Pr.i64 x23) qAssign ?_
            refine rq (out := Pr.i64 0) qAssign ?_
            obtain rfl := Option.some.inj h
            exact W_ret ⟨rfl, Pr.le_rfl⟩
      · refine W_loop (fun m e C => ∃ (x23 : Int), IterN (fun s => ref03_token_l6 x2 x1 s) m x23 = some z6l ∧ At [(0, Pr.str x1), (1, Pr.i64 x2), (7, Pr.i64 x23)] [] e C) n6 ⟨0, hN6, ⟨⟨Pr.le_rfl, Pr.le_rfl, Pr.le_rfl, trivial⟩, Pick.refl _⟩⟩ ?_
        clear hN6
        rintro m e C ⟨x23, hN6, hatl6⟩
        refine W_at hatl6 ?_
        clear hatl6
        obtain ⟨m6, w6l, rfl, h6l, hn6, ho6⟩ := iterN_some hN6
        clear hN6
        replace h6l : ref03_token_l6 x2 x1 x23 = some w6l := h6l
        unfold ref03_token_l6 at h6l
        refine W_seq ?_
        refine W_join (fun e C => ∃ (x31 : Bool), ref03_token_j7 x23 x31 = some w6l ∧ At [(0, Pr.str x1), (1, Pr.i64 x2), (7, Pr.i64 x23), (74, Pr.bool x31)] [] e C) ?_ ?_
        · rintro e C ⟨x31, h6l, hat7⟩
          refine W_at hat7 ?_
          clear hat7
          unfold ref03_token_j7 at h6l
          refine W_cond (b := x31) rfl (fun hc32 => ?_) (fun hc32 => ?_)
          · replace h6l := iteT hc32 h6l
            refine W_skip ?_
            refine W_block ?_
            refine W_r ?_
            refine rq (out := Pr.i64 x23) qMove ?_
            refine rq (out := Pr.i64 (w64 (x23 + 1))) qInt ?_
            refine rq (out := Pr.i64 (w64 (x23 + 1))) qAssign ?_
            exact ⟨m6, Nat.lt_succ_self _, w64 (x23 + 1), hn6 _ (Option.some.inj h6l).symm, ⟨⟨Pr.le_rfl, Pr.le_rfl, Pr.le_rfl, trivial⟩, Pick.refl _⟩⟩
          · replace h6l := iteF hc32 h6l
            refine W_exit ?_
            obtain rfl := ho6 _ (Option.some.inj h6l).symm
            exact ⟨x23, h, ⟨⟨Pr.le_rfl, Pr.le_rfl, Pr.le_rfl, trivial⟩, Pick.refl _⟩⟩
        · refine W_r ?_
          refine rq (out := Pr.i64 x2) qMove ?_
          refine rq (out := Pr.i64 x23) qMove ?_
          refine rq (out := Pr.i64 (w64 (x2 + x23))) qInt ?_
          refine rq (out := Pr.str x1) qMove ?_
          refine rq (out := Pr.i64 (x1.length : Int)) (qLenS rfl Tryz.underlying9) ?_
          refine rq (out := Pr.bool (decide ((w64 (x2 + x23)) < (x1.length : Int)))) qInt ?_
          refine rq (out := Pr.bool (decide ((w64 (x2 + x23)) < (x1.length : Int)))) qMove ?_
          rcases iteSome h6l with ⟨hc25, h6l⟩ | ⟨hc25, h6l⟩
          · refine rqg hc25 (out := Pr.str x1) qMove ?_
            refine rqg hc25 (out := Pr.i64 x2) qMove ?_
            refine rqg hc25 (out := Pr.i64 x23) qMove ?_
            refine rqg hc25 (out := Pr.i64 (w64 (x2 + x23))) qInt ?_
            obtain ⟨x26, hx26, h6l⟩ := bindSome h6l
            refine rqg hc25 (out := Pr.u8 x26) (qIdxS Tryz.underlying9 hx26) ?_
            obtain ⟨x27, hx27, h6l⟩ := bindSome h6l
            refine rqg hc25 (out := Pr.bool x27) (qCall (ref03_letter_ok x26 _ hx27)) ?_
            refine rqg hc25 (out := Pr.bool x27) qMove ?_
            rcases iteSome h6l with ⟨hc28, h6l⟩ | ⟨hc28, h6l⟩
            · refine rno (neF hc28) ?_
              refine rno (neF hc28) ?_
              refine rno (neF hc28) ?_
              refine rno (neF hc28) ?_
              refine rno (neF hc28) ?_
              refine rno (neF hc28) ?_
              refine rqg hc25 (out := Pr.bool true) (qPickT hc28) ?_
              refine rq (out := Pr.bool true) (qPickT hc25) ?_
              exact ⟨true, h6l, ⟨⟨Pr.le_rfl, Pr.le_rfl, Pr.le_rfl, Pr.le_rfl, trivial⟩, Pick.refl _⟩⟩
            · refine rqg hc28 (out := Pr.str x1) qMove ?_
              refine rqg hc28 (out := Pr.i64 x2) qMove ?_
              refine rqg hc28 (out := Pr.i64 x23) qMove ?_
              refine rqg hc28 (out := Pr.i64 (w64 (x2 + x23))) qInt ?_
              obtain ⟨x29, hx29, h6l⟩ := bindSome h6l
              refine rqg hc28 (out := Pr.u8 x29) (qIdxS Tryz.underlying9 hx29) ?_
              obtain ⟨x30, hx30, h6l⟩ := bindSome h6l
              refine rqg hc28 (out := Pr.bool x30) (qCall (ref03_digit_ok x29 _ hx30)) ?_
              refine rqg hc25 (out := Pr.bool x30) (qPickF hc28) ?_
              refine rq (out := Pr.bool x30) (qPickT hc25) ?_
              exact ⟨x30, h6l, ⟨⟨Pr.le_rfl, Pr.le_rfl, Pr.le_rfl, Pr.le_rfl, trivial⟩, Pick.refl _⟩⟩
          · refine rno (neT hc25) ?_
            refine rno (neT hc25) ?_
            refine rno (neT hc25) ?_
            refine rno (neT hc25) ?_
            refine rno (neT hc25) ?_
            refine rno (neT hc25) ?_
            refine rno (neT hc25) ?_
            refine rnoU ?_
            refine rnoU ?_
            refine rnoU ?_
            refine rnoU ?_
            refine rnoU ?_
            refine rnoU ?_
            refine rno (neT hc25) ?_
            refine rq (out := Pr.bool false) (qPickF hc25) ?_
            exact ⟨false, h6l, ⟨⟨Pr.le_rfl, Pr.le_rfl, Pr.le_rfl, Pr.le_rfl, trivial⟩, Pick.refl _⟩⟩
    · replace h := iteF hc22 h
      refine W_skip ?_
      refine W_rs ?_
      refine rq (out := Pr.str x1) qMove ?_
      refine rq (out := Pr.i64 x2) qMove ?_
      obtain ⟨x37, hx37, h⟩ := bindSome h
      refine rq (out := Pr.i64 x37) (qCall (ref03_mark_ok x1 x2 _ hx37)) ?_
      refine rq (out := Pr.i64 x37) qAssign ?_
      refine W_seq ?_
      refine W_rs ?_
      refine rq (out := Pr.i64 x37) qMove ?_
      refine rq (out := Pr.bool (x37 == 0)) qInt ?_
      refine W_cond (b := x37 == 0) rfl (fun hc38 => ?_) (fun hc38 => ?_)
      · replace h := iteT hc38 h
        refine W_rs ?_
        refine rq (out := Pr.i64 0) qAssign ?_
        refine rq (out := Pr.i64 0) qAssign ?_
        refine rq (out := Pr.i64 30) qAssign ?_
        obtain rfl := Option.some.inj h
        exact W_ret ⟨rfl, Pr.le_rfl⟩
      · replace h := iteF hc38 h
        refine W_skip ?_
        refine W_rs ?_
        refine rq (out := Pr.i64 x37) qMove ?_
        refine rq (out := Pr.i64 4) qAssign ?_
        refine rq (out := Pr.i64 x37) qAssign ?_
        refine rq (out := Pr.i64 0) qAssign ?_
        obtain rfl := Option.some.inj h
        exact W_ret ⟨rfl, Pr.le_rfl⟩
theorem ref03_Lex_ok (x1 : List UInt8) (r : (List ApiToken) × Int × Int) (h : ref03_Lex x1 = some r) : FnP Tryz.prog 21 [Pr.str x1] (Pr.tup [Pr.lst rApiToken r.1, Pr.i64 r.2.1, Pr.i64 r.2.2]) := by
  refine fn_intro (n := 66) (rs := [2, 3, 4]) Tryz.func21 rfl Tryz.ntmps21 ⟨by decide, Tryz.results21⟩ (by decide) (fun s0 => ?_)
  unfold ref03_Lex at h
  refine W_rs ?_
  refine rq (out := Pr.is (.slice none 0 0)) qAssign ?_
  refine rq (out := Pr.i64 0) qAssign ?_
  refine rq (out := Pr.i64 0) qAssign ?_
  refine W_seq ?_
  refine W_rs ?_
  refine rq (out := Pr.str x1) qMove ?_
  refine rq (out := Pr.i64 (x1.length : Int)) (qLenS rfl Tryz.underlying9) ?_
  refine rq (out := Pr.bool (decide ((x1.length : Int) > 1048576))) qInt ?_
  refine W_cond (b := decide ((x1.length : Int) > 1048576)) rfl (fun hc2 => ?_) (fun hc2 => ?_)
  · replace h := iteT hc2 h
    refine W_rs ?_
    refine rq (out := Pr.is (.slice none 0 0)) qAssign ?_
    refine rq (out := Pr.i64 0) qAssign ?_
    refine rq (out := Pr.i64 2) qAssign ?_
    obtain rfl := Option.some.inj h
    exact W_ret ⟨rfl, tup_le ⟨Pr.lst_nil _, Pr.le_rfl, Pr.le_rfl, trivial⟩⟩
  · replace h := iteF hc2 h
    refine W_skip ?_
    refine W_rs ?_
    refine rq (out := Pr.is (.slice none 0 0)) qAssign ?_
    refine W_rs ?_
    refine rq (out := Pr.i64 0) qAssign ?_
    refine W_block ?_
    obtain ⟨n1, hN1⟩ := iter_some h
    refine W_nil [5] rApiToken 48 (fun v24 => ?_) ⟨rfl, trivial⟩
    refine W_loop (fun m e C => ∃ (x4 : Int), ∃ (x5 : List ApiToken), ∃ (v3 : Value), IterN (fun s => ref03_Lex_l1 x1 s.1 s.2) m (x4, x5) = some r ∧ At [(0, Pr.str x1), (5, Pr.is v3), (6, Pr.i64 x4)] [Own.vec v3 rApiToken x5 48] e C) n1 ⟨0, [], v24, hN1, ⟨⟨Pr.le_rfl, Pr.le_rfl, Pr.le_rfl, trivial⟩, Pick.refl _⟩⟩ ?_
    clear hN1
    rintro m e C ⟨x4, x5, v3, hN1, hatl1⟩
    refine W_at hatl1 ?_
    clear hatl1
    obtain ⟨m1, w1l, rfl, h1l, hn1, ho1⟩ := iterN_some hN1
    clear hN1
    replace h1l : ref03_Lex_l1 x1 x4 x5 = some w1l := h1l
    unfold ref03_Lex_l1 at h1l
    refine W_block ?_
    refine W_rs ?_
    refine rq (out := Pr.str x1) qMove ?_
    refine rq (out := Pr.i64 x4) qMove ?_
    obtain ⟨⟨x9, x10⟩, hx9, h1l⟩ := bindSome h1l
    refine rq (out := Pr.tup [Pr.i64 x9, Pr.bool x10]) (qCall (ref03_between_ok x1 x4 _ hx9)) ?_
    refine rq (out := Pr.tup [Pr.i64 x9, Pr.bool x10]) qMove ?_
    refine rq (out := Pr.i64 x9) qExtract ?_
    refine rq (out := Pr.bool x10) qExtract ?_
    refine rq (out := Pr.i64 x9) qAssign ?_
    refine rq (out := Pr.bool x10) qAssign ?_
    refine W_seq ?_
    refine W_rs ?_
    refine rq (out := Pr.bool x10) qMove ?_
    refine rq (out := Pr.bool (!x10)) qNot ?_
    refine W_cond (b := !x10) rfl (fun hc11 => ?_) (fun hc11 => ?_)
    · replace h1l := iteT hc11 h1l
      refine W_rs ?_
      refine rq (out := Pr.i64 x9) qMove ?_
      refine rq (out := Pr.is (.slice none 0 0)) qAssign ?_
      refine rq (out := Pr.i64 x9) qAssign ?_
      refine rq (out := Pr.i64 32) qAssign ?_
      have h : some ([], x9, 32) = some r := congrArg some (ho1 _ (Option.some.inj h1l).symm)
      obtain rfl := Option.some.inj h
      exact W_ret ⟨rfl, tup_le ⟨Pr.lst_nil _, Pr.le_rfl, Pr.le_rfl, trivial⟩⟩
    · replace h1l := iteF hc11 h1l
      refine W_skip ?_
      refine W_seq ?_
      refine W_rs ?_
      refine rq (out := Pr.i64 x9) qMove ?_
      refine rq (out := Pr.str x1) qMove ?_
      refine rq (out := Pr.i64 (x1.length : Int)) (qLenS rfl Tryz.underlying9) ?_
      refine rq (out := Pr.bool (x9 == (x1.length : Int))) qInt ?_
      refine W_cond (b := x9 == (x1.length : Int)) rfl (fun hc12 => ?_) (fun hc12 => ?_)
      · replace h1l := iteT hc12 h1l
        refine W_rs ?_
        refine rq (out := Pr.is v3) qMove ?_
        refine rq (out := Pr.i64 x9) qMove ?_
        refine rq (out := Pr.str x1) qMove ?_
        refine rq (out := Pr.i64 x4) qMove ?_
        obtain ⟨x13, hx13, h1l⟩ := bindSome h1l
        refine rq (out := Pr.str x13) (qSubL Tryz.underlying9 hx13) ?_
        refine rq (out := (rApiToken).val (ApiToken.mk 5 [] x9 x13)) (qBuild st48 ⟨(ApiToken.mk 5 [] 0 []), ⟨_, rfl, rfl, fun j fd hj hf => by match j, hj with | 0, h => exact absurd rfl h | 1, _ => cases hf; rfl | 2, _ => cases hf; rfl | 3, _ => cases hf; rfl | _ + 4, _ => cases hf⟩, ⟨(ApiToken.mk 5 [] x9 []), ⟨_, rfl, rfl, fun j fd hj hf => by match j, hj with | 0, _ => cases hf; rfl | 1, _ => cases hf; rfl | 2, h => exact absurd rfl h | 3, _ => cases hf; rfl | _ + 4, _ => cases hf⟩, ⟨(ApiToken.mk 5 [] x9 x13), ⟨_, rfl, rfl, fun j fd hj hf => by match j, hj with | 0, _ => cases hf; rfl | 1, _ => cases hf; rfl | 2, _ => cases hf; rfl | 3, h => exact absurd rfl h | _ + 4, _ => cases hf⟩, rfl⟩⟩⟩) ?_
        refine rq (out := Pr.lst rApiToken ([(ApiToken.mk 5 [] x9 x13)] : List ApiToken)) (qBuildSlice1 (R := rApiToken) (a := (ApiToken.mk 5 [] x9 x13)) el43 (Nat.le_of_ble_eq_true rfl)) ?_
        obtain ⟨x14, hx14, h1l⟩ := bindSome h1l
        refine rAppend' 0 el43 hx14 (fun v15 => ?_)
        refine rq (out := Pr.is v15) qAssign ?_
        refine rq (out := Pr.i64 0) qAssign ?_
        refine rq (out := Pr.i64 0) qAssign ?_
        have h : some (x14, 0, 0) = some r := congrArg some (ho1 _ (Option.some.inj h1l).symm)
        refine W_rel 0 [2] ?_ rfl ⟨rfl, trivial⟩
        obtain rfl := Option.some.inj h
        exact W_ret ⟨rfl, Pr.le_rfl⟩
      · replace h1l := iteF hc12 h1l
        refine W_skip ?_
        refine W_rs ?_
        refine rq (out := Pr.str x1) qMove ?_
        refine rq (out := Pr.i64 x9) qMove ?_
        obtain ⟨⟨x16, x17, x18⟩, hx16, h1l⟩ := bindSome h1l
        refine rq (out := Pr.tup [Pr.i64 x16, Pr.i64 x17, Pr.i64 x18]) (qCall (ref03_token_ok x1 x9 _ hx16)) ?_
        refine rq (out := Pr.tup [Pr.i64 x16, Pr.i64 x17, Pr.i64 x18]) qMove ?_
        refine rq (out := Pr.i64 x16) qExtract ?_
        refine rq (out := Pr.i64 x17) qExtract ?_
        refine rq (out := Pr.i64 x18) qExtract ?_
        refine rq (out := Pr.i64 x16) qAssign ?_
        refine rq (out := Pr.i64 x17) qAssign ?_
        refine rq (out := Pr.i64 x18) qAssign ?_
        refine W_seq ?_
        refine W_rs ?_
        refine rq (out := Pr.i64 x18) qMove ?_
        refine rq (out := Pr.bool (x18 != 0)) qInt ?_
        refine W_cond (b := x18 != 0) rfl (fun hc19 => ?_) (fun hc19 => ?_)
        · replace h1l := iteT hc19 h1l
          refine W_rs ?_
          refine rq (out := Pr.i64 x9) qMove ?_
          refine rq (out := Pr.i64 x18) qMove ?_
          refine rq (out := Pr.is (.slice none 0 0)) qAssign ?_
          refine rq (out := Pr.i64 x9) qAssign ?_
          refine rq (out := Pr.i64 x18) qAssign ?_
          have h : some ([], x9, x18) = some r := congrArg some (ho1 _ (Option.some.inj h1l).symm)
          obtain rfl := Option.some.inj h
          exact W_ret ⟨rfl, tup_le ⟨Pr.lst_nil _, Pr.le_rfl, Pr.le_rfl, trivial⟩⟩
        · replace h1l := iteF hc19 h1l
          refine W_skip ?_
          refine W_join (fun e C => ∃ (x22 : List ApiToken), ∃ (v23 : Value), ref03_Lex_j2 x9 x17 x22 = some w1l ∧ At [(0, Pr.str x1), (5, Pr.is v23), (7, Pr.i64 x9), (10, Pr.i64 x17)] [Own.vec v23 rApiToken x22 48] e C) ?_ ?_
          · rintro e C ⟨x22, v23, h1l, hat2⟩
            refine W_at hat2 ?_
            clear hat2
            unfold ref03_Lex_j2 at h1l
            refine W_r ?_
            refine rq (out := Pr.i64 x9) qMove ?_
            refine rq (out := Pr.i64 x17) qMove ?_
            refine rq (out := Pr.i64 (w64 (x9 + x17))) qInt ?_
            refine rq (out := Pr.i64 (w64 (x9 + x17))) qAssign ?_
            exact ⟨m1, Nat.lt_succ_self _, w64 (x9 + x17), x22, v23, hn1 _ (Option.some.inj h1l).symm, ⟨⟨Pr.le_rfl, Pr.le_rfl, Pr.le_rfl, trivial⟩, Pick.refl _⟩⟩
          · refine W_draw 15 hmx (by kernel_rfl) (by kernel_rfl) ?_
            refine qq (out := Pr.is v3) qMove ?_
            refine qq (out := Pr.i64 x16) qMove ?_
            refine qq (out := Pr.str x1) qMove ?_
            refine qq (out := Pr.i64 x9) qMove ?_
            refine qq (out := Pr.i64 x9) qMove ?_
            refine qq (out := Pr.i64 x17) qMove ?_
            refine qq (out := Pr.i64 (w64 (x9 + x17))) qInt ?_
            obtain ⟨x20, hx20, h1l⟩ := bindSome h1l
            refine qq (out := Pr.str x20) (qSubLH Tryz.underlying9 hx20) ?_
            refine qq (out := Pr.i64 x9) qMove ?_
            refine qq (out := Pr.str x1) qMove ?_
            refine qq (out := Pr.i64 x4) qMove ?_
            refine qq (out := Pr.i64 x9) qMove ?_
            obtain ⟨x21, hx21, h1l⟩ := bindSome h1l
            refine qq (out := Pr.str x21) (qSubLH Tryz.underlying9 hx21) ?_
            refine qq (out := (rApiToken).val (ApiToken.mk x16 x20 x9 x21)) (qBuild st48 ⟨(ApiToken.mk x16 [] 0 []), ⟨_, rfl, rfl, fun j fd hj hf => by match j, hj with | 0, h => exact absurd rfl h | 1, _ => cases hf; rfl | 2, _ => cases hf; rfl | 3, _ => cases hf; rfl | _ + 4, _ => cases hf⟩, ⟨(ApiToken.mk x16 x20 0 []), ⟨_, rfl, rfl, fun j fd hj hf => by match j, hj with | 0, _ => cases hf; rfl | 1, h => exact absurd rfl h | 2, _ => cases hf; rfl | 3, _ => cases hf; rfl | _ + 4, _ => cases hf⟩, ⟨(ApiToken.mk x16 x20 x9 []), ⟨_, rfl, rfl, fun j fd hj hf => by match j, hj with | 0, _ => cases hf; rfl | 1, _ => cases hf; rfl | 2, h => exact absurd rfl h | 3, _ => cases hf; rfl | _ + 4, _ => cases hf⟩, ⟨(ApiToken.mk x16 x20 x9 x21), ⟨_, rfl, rfl, fun j fd hj hf => by match j, hj with | 0, _ => cases hf; rfl | 1, _ => cases hf; rfl | 2, _ => cases hf; rfl | 3, h => exact absurd rfl h | _ + 4, _ => cases hf⟩, rfl⟩⟩⟩⟩) ?_
            refine qq (out := Pr.lst rApiToken ([(ApiToken.mk x16 x20 x9 x21)] : List ApiToken)) (qBuildSlice1 (R := rApiToken) (a := (ApiToken.mk x16 x20 x9 x21)) el43 (Nat.le_of_ble_eq_true rfl)) ?_
            obtain ⟨x22, hx22, h1l⟩ := bindSome h1l
            refine rAppend' 0 el43 hx22 (fun v23 => ?_)
            refine rq (out := Pr.is v23) qAssign ?_
            exact ⟨x22, v23, h1l, ⟨⟨Pr.le_rfl, Pr.le_rfl, Pr.le_rfl, Pr.le_rfl, trivial⟩, Pick.refl _⟩⟩
end Go.Proofs.YtefeelcjokdchaaGreatDoor
