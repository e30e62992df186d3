/- The code comes to what these functions say (printed by wip/gen/gen.py). -/
import Derived.Test.YtphkaogfinjbjaaGreatDoorZP
import Derived.Test.YtphkaogfinjbjaaGreatDoorZT
set_option linter.unusedSimpArgs false
set_option linter.unusedVariables false
set_option linter.unusedSectionVars false
/- The code comes to what these functions say (printed by wip/gen/gen.py). -/
set_option linter.unusedSectionVars false
set_option maxRecDepth 100000
set_option maxHeartbeats 4000000
namespace Go.Proofs.YtphkaogfinjbjaaGreatDoor
open Go Go.Cn
variable [Known]
theorem internal_stringslite_HasPrefix_ok (x1 : List UInt8) (x2 : List UInt8) (r : Bool) (h : internal_stringslite_HasPrefix x1 x2 = some r) : FnP Tryz.prog 119 [Pr.str x1, Pr.str x2] (Pr.bool r) := by
  refine fn_intro (n := 18) (rs := [4]) Tryz.func119 rfl Tryz.ntmps119 ⟨by decide, Tryz.results119⟩ (by decide) (fun s0 => ?_)
  unfold internal_stringslite_HasPrefix at h
  refine W_rs ?_
  refine rq (out := Pr.bool false) qAssign ?_
  refine W_join (fun e C => ∃ (x5 : Bool), internal_stringslite_HasPrefix_j1 x5 = some r ∧ At [(4, Pr.bool x5)] [] e C) ?_ ?_
  · rintro e C ⟨x5, h, hat1⟩
    refine W_at hat1 ?_
    clear hat1
    unfold internal_stringslite_HasPrefix_j1 at h
    obtain rfl := Option.some.inj h
    exact W_ret ⟨rfl, Pr.le_rfl⟩
  · refine W_r ?_
    refine rq (out := Pr.str x1) qMove ?_
    refine rq (out := Pr.i64 (x1.length : Int)) (qLenS rfl Tryz.underlying9) ?_
    refine rq (out := Pr.str x2) qMove ?_
    refine rq (out := Pr.i64 (x2.length : Int)) (qLenS rfl Tryz.underlying9) ?_
    refine rq (out := Pr.bool (decide ((x1.length : Int) ≥ (x2.length : Int)))) qInt ?_
    refine rq (out := Pr.bool (decide ((x1.length : Int) ≥ (x2.length : Int)))) qMove ?_
    rcases iteSome h with ⟨hc3, h⟩ | ⟨hc3, h⟩
    · refine rqg hc3 (out := Pr.str x1) qMove ?_
      refine rqg hc3 (out := Pr.str x2) qMove ?_
      refine rqg hc3 (out := Pr.i64 (x2.length : Int)) (qLenS rfl Tryz.underlying9) ?_
      obtain ⟨x4, hx4, h⟩ := bindSome h
      refine rqg hc3 (out := Pr.str x4) (qSubH Tryz.underlying9 hx4) ?_
      refine rqg hc3 (out := Pr.str x2) qMove ?_
      refine rqg hc3 (out := Pr.bool (x4 == x2)) qStr ?_
      refine rq (out := Pr.bool (x4 == x2)) (qPickT hc3) ?_
      refine rq (out := Pr.bool (x4 == x2)) qAssign ?_
      exact ⟨x4 == x2, h, ⟨⟨Pr.le_rfl, trivial⟩, Pick.refl _⟩⟩
    · refine rno (neT hc3) ?_
      refine rno (neT hc3) ?_
      refine rno (neT hc3) ?_
      refine rno (neT hc3) ?_
      refine rno (neT hc3) ?_
      refine rno (neT hc3) ?_
      refine rq (out := Pr.bool false) (qPickF hc3) ?_
      refine rq (out := Pr.bool false) qAssign ?_
      exact ⟨false, h, ⟨⟨Pr.le_rfl, trivial⟩, Pick.refl _⟩⟩
theorem strings_HasPrefix_ok (x1 : List UInt8) (x2 : List UInt8) (r : Bool) (h : strings_HasPrefix x1 x2 = some r) : FnP Tryz.prog 105 [Pr.str x1, Pr.str x2] (Pr.bool r) := by
  refine fn_intro (n := 8) (rs := [4]) Tryz.func105 rfl Tryz.ntmps105 ⟨by decide, Tryz.results105⟩ (by decide) (fun s0 => ?_)
  unfold strings_HasPrefix at h
  refine W_rs ?_
  refine rq (out := Pr.bool false) qAssign ?_
  refine W_rs ?_
  refine rq (out := Pr.str x1) qMove ?_
  refine rq (out := Pr.str x2) qMove ?_
  obtain ⟨x3, hx3, h⟩ := bindSome h
  refine rq (out := Pr.bool x3) (qCall (internal_stringslite_HasPrefix_ok x1 x2 _ hx3)) ?_
  refine rq (out := Pr.bool x3) qAssign ?_
  obtain rfl := Option.some.inj h
  exact W_ret ⟨rfl, Pr.le_rfl⟩
theorem lex_run_ok (x1 : List UInt8) (x2 : (Int → Option Bool)) (r : Int) (h : lex_run x1 x2 = some r) : FnP Tryz.prog 106 [Pr.str x1, Pr.pfn Tryz.prog (spec145 x2)] (Pr.i64 r) := by
  refine fn_intro (n := 21) (rs := [4]) Tryz.func106 rfl Tryz.ntmps106 ⟨by decide, Tryz.results106⟩ (by decide) (fun s0 => ?_)
  unfold lex_run at h
  refine W_rs ?_
  refine rq (out := Pr.i64 0) qAssign ?_
  refine W_seq ?_
  refine W_rs ?_
  refine rq (out := Pr.str x1) qMove ?_
  refine rq (out := Pr.i64 (x1.length : Int)) (qLenS rfl Tryz.underlying9) ?_
  refine rq (out := Pr.i64 0) qMove ?_
  refine W_block ?_
  obtain ⟨z2l, hz2, h⟩ := bindSome h
  obtain ⟨n2, hN2⟩ := iter_some hz2
  clear hz2
  refine W_after 0 (fun e C => lex_run_k1 x1 = some r ∧ At [(0, Pr.str x1)] [] e C) ?_ ?_
  · rintro e C ⟨h, hat1⟩
    refine W_at hat1 ?_
    clear hat1
    unfold lex_run_k1 at h
    refine W_rs ?_
    refine rq (out := Pr.str x1) qMove ?_
    refine rq (out := Pr.i64 (x1.length : Int)) (qLenS rfl Tryz.underlying9) ?_
    refine rq (out := Pr.i64 (x1.length : Int)) qAssign ?_
    obtain rfl := Option.some.inj h
    exact W_ret ⟨rfl, Pr.le_rfl⟩
  · refine W_loop (fun m e C => ∃ (x3 : Int), IterN (fun s => lex_run_l2 x1 x2 s) m x3 = some z2l ∧ At [(0, Pr.str x1), (1, Pr.pfn Tryz.prog (spec145 x2)), (7, Pr.i64 (x1.length : Int)), (8, Pr.i64 x3)] [] e C) n2 ⟨0, hN2, ⟨⟨Pr.le_rfl, Pr.le_rfl, Pr.le_rfl, Pr.le_rfl, trivial⟩, Pick.refl _⟩⟩ ?_
    clear hN2
    rintro m e C ⟨x3, hN2, hatl2⟩
    refine W_at hatl2 ?_
    clear hatl2
    obtain ⟨m2, w2l, rfl, h2l, hn2, ho2⟩ := iterN_some hN2
    clear hN2
    replace h2l : lex_run_l2 x1 x2 x3 = some w2l := h2l
    unfold lex_run_l2 at h2l
    refine W_rs ?_
    refine rq (out := Pr.bool (decide (x3 < (x1.length : Int)))) qInt ?_
    refine W_seq ?_
    refine W_cond (b := decide (x3 < (x1.length : Int))) rfl (fun hc5 => ?_) (fun hc5 => ?_)
    · replace h2l := iteT hc5 h2l
      refine W_skip ?_
      refine W_seq ?_
      refine W_block ?_
      refine W_rs ?_
      refine rq (out := Pr.i64 x3) qMove ?_
      refine rq (out := Pr.i64 x3) qAssign ?_
      refine W_rs ?_
      refine rq (out := Pr.pfn Tryz.prog (spec145 x2)) qMove ?_
      refine rq (out := Pr.str x1) qMove ?_
      refine rq (out := Pr.i64 x3) qMove ?_
      obtain ⟨x6, hx6, h2l⟩ := bindSome h2l
      refine rq (out := Pr.u8 x6) (qIdxS Tryz.underlying9 hx6) ?_
      obtain ⟨x7, hx7, h2l⟩ := bindSome h2l
      refine rq (out := Pr.bool x7) (qCallP (spec := spec145 x2) ⟨_, _, rfl, rfl, hx7⟩) ?_
      refine rq (out := Pr.bool (!x7)) qNot ?_
      refine W_cond (b := !x7) rfl (fun hc8 => ?_) (fun hc8 => ?_)
      · replace h2l := iteT hc8 h2l
        refine W_rs ?_
        refine rq (out := Pr.i64 x3) qMove ?_
        refine rq (out := Pr.i64 x3) qAssign ?_
        obtain rfl := ho2 _ (Option.some.inj h2l).symm
        replace h : some x3 = some r := h
        obtain rfl := Option.some.inj h
        exact W_ret ⟨rfl, Pr.le_rfl⟩
      · replace h2l := iteF hc8 h2l
        refine W_skip ?_
        refine W_r ?_
        refine rq (out := Pr.i64 (w64 (x3 + 1))) qInt ?_
        refine rq (out := Pr.i64 (w64 (x3 + 1))) qMove ?_
        exact ⟨m2, Nat.lt_succ_self _, w64 (x3 + 1), hn2 _ (Option.some.inj h2l).symm, ⟨⟨Pr.le_rfl, Pr.le_rfl, Pr.le_rfl, Pr.le_rfl, trivial⟩, Pick.refl _⟩⟩
    · replace h2l := iteF hc5 h2l
      refine W_exit ?_
      obtain rfl := ho2 _ (Option.some.inj h2l).symm
      exact ⟨h, ⟨⟨Pr.le_rfl, trivial⟩, Pick.refl _⟩⟩
theorem lex_between_1_ok (x1 : Int) (r : Bool) (h : lex_between_1 x1 = some r) : FnP Tryz.prog 107 [Pr.u8 x1] (Pr.bool r) := by
  refine fn_intro (n := 5) (rs := [2]) Tryz.func107 rfl Tryz.ntmps107 ⟨by decide, Tryz.results107⟩ (by decide) (fun s0 => ?_)
  unfold lex_between_1 at h
  refine W_rs ?_
  refine rq (out := Pr.bool false) qAssign ?_
  refine W_rs ?_
  refine rq (out := Pr.u8 x1) qMove ?_
  refine rq (out := Pr.bool (x1 != 10)) qInt ?_
  refine rq (out := Pr.bool (x1 != 10)) qAssign ?_
  obtain rfl := Option.some.inj h
  exact W_ret ⟨rfl, Pr.le_rfl⟩
theorem lex_between_ok (x1 : List UInt8) (r : Int × Bool) (h : lex_between x1 = some r) : FnP Tryz.prog 92 [Pr.str x1] (Pr.tup [Pr.i64 r.1, Pr.bool r.2]) := by
  refine fn_intro (n := 48) (rs := [2, 3]) Tryz.func92 rfl Tryz.ntmps92 ⟨by decide, Tryz.results92⟩ (by decide) (fun s0 => ?_)
  unfold lex_between at h
  refine W_rs ?_
  refine rq (out := Pr.i64 0) qAssign ?_
  refine rq (out := Pr.bool false) qAssign ?_
  refine W_scope ?_
  refine W_rs ?_
  refine rq (out := Pr.i64 0) qAssign ?_
  refine W_seq ?_
  refine W_label ?_
  refine W_join (fun e C => ∃ (x2 : Int), lex_between_j1 x2 = some r ∧ At [(4, Pr.i64 x2)] [] e C) ?_ ?_
  · rintro e C ⟨x2, h, hat1⟩
    refine W_at hat1 ?_
    clear hat1
    unfold lex_between_j1 at h
    refine W_rs ?_
    refine rq (out := Pr.i64 x2) qMove ?_
    refine rq (out := Pr.i64 x2) qAssign ?_
    refine rq (out := Pr.bool true) qAssign ?_
    obtain rfl := Option.some.inj h
    exact W_ret ⟨rfl, Pr.le_rfl⟩
  · refine W_block ?_
    obtain ⟨z3l, hz3, h⟩ := bindSome h
    obtain ⟨n3, hN3⟩ := iter_some hz3
    clear hz3
    refine W_after 0 (fun e C => ∃ (x2 : Int), lex_between_k2 x2 = some r ∧ At [(4, Pr.i64 x2)] [] e C) ?_ ?_
    · rintro e C ⟨x2, h, hat2⟩
      unfold lex_between_k2 at h
      exact ⟨x2, h, (At.trans hat2 ⟨⟨Pr.le_rfl, trivial⟩, Pick.refl _⟩)⟩
    · refine W_loop (fun m e C => ∃ (x2 : Int), IterN (fun s => lex_between_l3 x1 s) m x2 = some z3l ∧ At [(0, Pr.str x1), (4, Pr.i64 x2)] [] e C) n3 ⟨0, hN3, ⟨⟨Pr.le_rfl, Pr.le_rfl, trivial⟩, Pick.refl _⟩⟩ ?_
      clear hN3
      rintro m e C ⟨x2, hN3, hatl3⟩
      refine W_at hatl3 ?_
      clear hatl3
      obtain ⟨m3, w3l, rfl, h3l, hn3, ho3⟩ := iterN_some hN3
      clear hN3
      replace h3l : lex_between_l3 x1 x2 = some w3l := h3l
      unfold lex_between_l3 at h3l
      refine W_seq ?_
      refine W_rs ?_
      refine rq (out := Pr.i64 x2) qMove ?_
      refine rq (out := Pr.str x1) qMove ?_
      refine rq (out := Pr.i64 (x1.length : Int)) (qLenS rfl Tryz.underlying9) ?_
      refine rq (out := Pr.bool (decide (x2 < (x1.length : Int)))) qInt ?_
      refine W_cond (b := decide (x2 < (x1.length : Int))) rfl (fun hc4 => ?_) (fun hc4 => ?_)
      · replace h3l := iteT hc4 h3l
        refine W_skip ?_
        refine W_block ?_
        refine W_rs ?_
        refine rq (out := Pr.str x1) qMove ?_
        refine rq (out := Pr.i64 x2) qMove ?_
        obtain ⟨x5, hx5, h3l⟩ := bindSome h3l
        refine rq (out := Pr.str x5) (qSubL Tryz.underlying9 hx5) ?_
        refine rq (out := Pr.str x5) qAssign ?_
        refine W_seq ?_
        refine W_block ?_
        refine W_rs ?_
        refine rq (out := Pr.str x5) qMove ?_
        obtain ⟨x6, hx6, h3l⟩ := bindSome h3l
        refine rq (out := Pr.bool x6) (qCall (strings_HasPrefix_ok x5 ([47, 47] : List UInt8) _ hx6)) ?_
        refine rq (out := Pr.bool x6) qAssign ?_
        refine W_cond (b := x6) rfl (fun hc7 => ?_) (fun hc7 => ?_)
        · replace h3l := iteT hc7 h3l
          refine W_rs ?_
          refine rq (out := Pr.i64 x2) qMove ?_
          refine rq (out := Pr.str x5) qMove ?_
          obtain ⟨x8, hx8, h3l⟩ := bindSome h3l
          refine rq (out := Pr.i64 x8) (qCall' (lex_run_ok x5 lex_between_1 _ hx8) ⟨Pr.le_rfl, (is_pfn en107 (fun _ _ hs => by obtain ⟨a0, r, rfl, rfl, hr⟩ := hs; exact lex_between_1_ok a0 r hr)), trivial⟩) ?_
          refine rq (out := Pr.i64 (w64 (x2 + x8))) qInt ?_
          refine rq (out := Pr.i64 (w64 (x2 + x8))) qAssign ?_
          refine W_exit ?_
          exact ⟨m3, Nat.lt_succ_self _, w64 (x2 + x8), hn3 _ (Option.some.inj h3l).symm, ⟨⟨Pr.le_rfl, Pr.le_rfl, trivial⟩, Pick.refl _⟩⟩
        · replace h3l := iteF hc7 h3l
          refine W_rs ?_
          refine rq (out := Pr.str x5) qMove ?_
          obtain ⟨x9, hx9, h3l⟩ := bindSome h3l
          refine rq (out := Pr.bool x9) (qCall (strings_HasPrefix_ok x5 ([47, 42] : List UInt8) _ hx9)) ?_
          refine rq (out := Pr.bool x9) qAssign ?_
          refine W_cond (b := x9) rfl (fun hc10 => ?_) (fun hc10 => ?_)
          · replace h3l := iteT hc10 h3l
            refine W_rs ?_
            refine rq (out := Pr.str x5) qMove ?_
            obtain ⟨x11, hx11, h3l⟩ := bindSome h3l
            refine rq (out := Pr.str x11) (qSubL Tryz.underlying9 hx11) ?_
            obtain ⟨x12, hx12, h3l⟩ := bindSome h3l
            refine rq (out := Pr.i64 x12) (qCall (strings_Index_ok x11 ([42, 47] : List UInt8) _ hx12)) ?_
            refine rq (out := Pr.i64 x12) qAssign ?_
            refine W_seq ?_
            refine W_rs ?_
            refine rq (out := Pr.i64 x12) qMove ?_
            refine rq (out := Pr.bool (decide (x12 < 0))) qInt ?_
            refine W_cond (b := decide (x12 < 0)) rfl (fun hc13 => ?_) (fun hc13 => ?_)
            · replace h3l := iteT hc13 h3l
              refine W_rs ?_
              refine rq (out := Pr.i64 x2) qMove ?_
              refine rq (out := Pr.i64 x2) qAssign ?_
              refine rq (out := Pr.bool false) qAssign ?_
              obtain rfl := ho3 _ (Option.some.inj h3l).symm
              replace h : some (x2, false) = some r := h
              obtain rfl := Option.some.inj h
              exact W_ret ⟨rfl, Pr.le_rfl⟩
            · replace h3l := iteF hc13 h3l
              refine W_skip ?_
              refine W_rs ?_
              refine rq (out := Pr.i64 x2) qMove ?_
              refine rq (out := Pr.i64 x12) qMove ?_
              refine rq (out := Pr.i64 (w64 (2 + x12))) qInt ?_
              refine rq (out := Pr.i64 (w64 ((w64 (2 + x12)) + 2))) qInt ?_
              refine rq (out := Pr.i64 (w64 (x2 + (w64 ((w64 (2 + x12)) + 2))))) qInt ?_
              refine rq (out := Pr.i64 (w64 (x2 + (w64 ((w64 (2 + x12)) + 2))))) qAssign ?_
              refine W_exit ?_
              exact ⟨m3, Nat.lt_succ_self _, w64 (x2 + (w64 ((w64 (2 + x12)) + 2))), hn3 _ (Option.some.inj h3l).symm, ⟨⟨Pr.le_rfl, Pr.le_rfl, trivial⟩, Pick.refl _⟩⟩
          · replace h3l := iteF hc10 h3l
            refine W_skip ?_
            refine W_rs ?_
            refine rq (out := Pr.str x5) qMove ?_
            obtain ⟨x14, hx14, h3l⟩ := bindSome h3l
            refine rq (out := Pr.u8 x14) (qIdxS Tryz.underlying9 hx14) ?_
            refine W_block ?_
            refine W_seq ?_
            refine W_block ?_
            refine W_join (fun e C => lex_between_j4 x2 = some w3l ∧ At [(0, Pr.str x1), (4, Pr.i64 x2)] [] e C) ?_ ?_
            · rintro e C ⟨h3l, hat4⟩
              refine W_at hat4 ?_
              clear hat4
              unfold lex_between_j4 at h3l
              refine W_rs ?_
              refine rq (out := Pr.i64 x2) qMove ?_
              refine rq (out := Pr.i64 (w64 (x2 + 1))) qInt ?_
              refine rq (out := Pr.i64 (w64 (x2 + 1))) qAssign ?_
              refine W_exit ?_
              exact ⟨m3, Nat.lt_succ_self _, w64 (x2 + 1), hn3 _ (Option.some.inj h3l).symm, ⟨⟨Pr.le_rfl, Pr.le_rfl, trivial⟩, Pick.refl _⟩⟩
            · refine W_block ?_
              refine W_block ?_
              refine W_block ?_
              refine W_block ?_
              refine W_seq ?_
              refine W_seq ?_
              refine W_rs ?_
              refine rq (out := Pr.bool (x14 == 32)) qInt ?_
              refine rq (out := Pr.bool (x14 == 32)) qAssign ?_
              refine W_cond (b := x14 == 32) rfl (fun hc15 => ?_) (fun hc15 => ?_)
              · replace h3l := iteT hc15 h3l
                refine W_exit ?_
                exact ⟨h3l, ⟨⟨Pr.le_rfl, Pr.le_rfl, trivial⟩, Pick.refl _⟩⟩
              · replace h3l := iteF hc15 h3l
                refine W_skip ?_
                refine W_seq ?_
                refine W_rs ?_
                refine rq (out := Pr.bool (x14 == 9)) qInt ?_
                refine rq (out := Pr.bool (x14 == 9)) qAssign ?_
                refine W_cond (b := x14 == 9) rfl (fun hc16 => ?_) (fun hc16 => ?_)
                · replace h3l := iteT hc16 h3l
                  refine W_exit ?_
                  exact ⟨h3l, ⟨⟨Pr.le_rfl, Pr.le_rfl, trivial⟩, Pick.refl _⟩⟩
                · replace h3l := iteF hc16 h3l
                  refine W_skip ?_
                  refine W_seq ?_
                  refine W_rs ?_
                  refine rq (out := Pr.bool (x14 == 13)) qInt ?_
                  refine rq (out := Pr.bool (x14 == 13)) qAssign ?_
                  refine W_cond (b := x14 == 13) rfl (fun hc17 => ?_) (fun hc17 => ?_)
                  · replace h3l := iteT hc17 h3l
                    refine W_exit ?_
                    exact ⟨h3l, ⟨⟨Pr.le_rfl, Pr.le_rfl, trivial⟩, Pick.refl _⟩⟩
                  · replace h3l := iteF hc17 h3l
                    refine W_skip ?_
                    refine W_rs ?_
                    refine rq (out := Pr.bool (x14 == 10)) qInt ?_
                    refine rq (out := Pr.bool (x14 == 10)) qAssign ?_
                    refine W_cond (b := x14 == 10) rfl (fun hc18 => ?_) (fun hc18 => ?_)
                    · replace h3l := iteT hc18 h3l
                      refine W_exit ?_
                      exact ⟨h3l, ⟨⟨Pr.le_rfl, Pr.le_rfl, trivial⟩, Pick.refl _⟩⟩
                    · replace h3l := iteF hc18 h3l
                      refine W_skip ?_
                      refine W_exit ?_
                      refine W_seq ?_
                      refine W_exit ?_
                      obtain rfl := ho3 _ (Option.some.inj h3l).symm
                      exact ⟨x2, h, ⟨⟨Pr.le_rfl, trivial⟩, Pick.refl _⟩⟩
      · replace h3l := iteF hc4 h3l
        refine W_exit ?_
        obtain rfl := ho3 _ (Option.some.inj h3l).symm
        exact ⟨x2, h, ⟨⟨Pr.le_rfl, trivial⟩, Pick.refl _⟩⟩
theorem lex_digit_ok (x1 : Int) (r : Bool) (h : lex_digit x1 = some r) : FnP Tryz.prog 109 [Pr.u8 x1] (Pr.bool r) := by
  refine fn_intro (n := 9) (rs := [2]) Tryz.func109 rfl Tryz.ntmps109 ⟨by decide, Tryz.results109⟩ (by decide) (fun s0 => ?_)
  unfold lex_digit at h
  refine W_rs ?_
  refine rq (out := Pr.bool false) qAssign ?_
  refine W_join (fun e C => ∃ (x3 : Bool), lex_digit_j1 x3 = some r ∧ At [(2, Pr.bool x3)] [] e C) ?_ ?_
  · rintro e C ⟨x3, h, hat1⟩
    refine W_at hat1 ?_
    clear hat1
    unfold lex_digit_j1 at h
    obtain rfl := Option.some.inj h
    exact W_ret ⟨rfl, Pr.le_rfl⟩
  · refine W_r ?_
    refine rq (out := Pr.u8 x1) qMove ?_
    refine rq (out := Pr.bool (decide (x1 ≥ 48))) qInt ?_
    refine rq (out := Pr.bool (decide (x1 ≥ 48))) qMove ?_
    rcases iteSome h with ⟨hc2, h⟩ | ⟨hc2, h⟩
    · refine rqg hc2 (out := Pr.u8 x1) qMove ?_
      refine rqg hc2 (out := Pr.bool (decide (x1 ≤ 57))) qInt ?_
      refine rq (out := Pr.bool (decide (x1 ≤ 57))) (qPickT hc2) ?_
      refine rq (out := Pr.bool (decide (x1 ≤ 57))) qAssign ?_
      exact ⟨decide (x1 ≤ 57), h, ⟨⟨Pr.le_rfl, trivial⟩, Pick.refl _⟩⟩
    · refine rno (neT hc2) ?_
      refine rno (neT hc2) ?_
      refine rq (out := Pr.bool false) (qPickF hc2) ?_
      refine rq (out := Pr.bool false) qAssign ?_
      exact ⟨false, h, ⟨⟨Pr.le_rfl, trivial⟩, Pick.refl _⟩⟩
theorem lex_letter_ok (x1 : Int) (r : Bool) (h : lex_letter x1 = some r) : FnP Tryz.prog 111 [Pr.u8 x1] (Pr.bool r) := by
  refine fn_intro (n := 15) (rs := [2]) Tryz.func111 rfl Tryz.ntmps111 ⟨by decide, Tryz.results111⟩ (by decide) (fun s0 => ?_)
  unfold lex_letter at h
  refine W_rs ?_
  refine rq (out := Pr.bool false) qAssign ?_
  refine W_join (fun e C => ∃ (x5 : Bool), lex_letter_j1 x5 = some r ∧ At [(2, Pr.bool x5)] [] e C) ?_ ?_
  · rintro e C ⟨x5, h, hat1⟩
    refine W_at hat1 ?_
    clear hat1
    unfold lex_letter_j1 at h
    obtain rfl := Option.some.inj h
    exact W_ret ⟨rfl, Pr.le_rfl⟩
  · refine W_r ?_
    refine rq (out := Pr.u8 x1) qMove ?_
    refine rq (out := Pr.u8 (bits .or .u8 x1 32)) (qBits (by simp) rfl) ?_
    refine rq (out := Pr.bool (decide ((bits .or .u8 x1 32) ≥ 97))) qInt ?_
    refine rq (out := Pr.bool (decide ((bits .or .u8 x1 32) ≥ 97))) qMove ?_
    rcases iteSome h with ⟨hc2, h⟩ | ⟨hc2, h⟩
    · refine rqg hc2 (out := Pr.u8 x1) qMove ?_
      refine rqg hc2 (out := Pr.u8 (bits .or .u8 x1 32)) (qBits (by simp) rfl) ?_
      refine rqg hc2 (out := Pr.bool (decide ((bits .or .u8 x1 32) ≤ 122))) qInt ?_
      refine rq (out := Pr.bool (decide ((bits .or .u8 x1 32) ≤ 122))) (qPickT hc2) ?_
      refine rq (out := Pr.bool (decide ((bits .or .u8 x1 32) ≤ 122))) qMove ?_
      rcases iteSome h with ⟨hc3, h⟩ | ⟨hc3, h⟩
      · refine rno (neF hc3) ?_
        refine rno (neF hc3) ?_
        refine rq (out := Pr.bool true) (qPickT hc3) ?_
        refine rq (out := Pr.bool true) qAssign ?_
        exact ⟨true, h, ⟨⟨Pr.le_rfl, trivial⟩, Pick.refl _⟩⟩
      · refine rqg hc3 (out := Pr.u8 x1) qMove ?_
        refine rqg hc3 (out := Pr.bool (x1 == 95)) qInt ?_
        refine rq (out := Pr.bool (x1 == 95)) (qPickF hc3) ?_
        refine rq (out := Pr.bool (x1 == 95)) qAssign ?_
        exact ⟨x1 == 95, h, ⟨⟨Pr.le_rfl, trivial⟩, Pick.refl _⟩⟩
    · refine rno (neT hc2) ?_
      refine rno (neT hc2) ?_
      refine rno (neT hc2) ?_
      refine rq (out := Pr.bool false) (qPickF hc2) ?_
      refine rq (out := Pr.bool false) qMove ?_
      have hc4 : false = false := rfl
      refine rqg hc4 (out := Pr.u8 x1) qMove ?_
      refine rqg hc4 (out := Pr.bool (x1 == 95)) qInt ?_
      refine rq (out := Pr.bool (x1 == 95)) (qPickF hc4) ?_
      refine rq (out := Pr.bool (x1 == 95)) qAssign ?_
      exact ⟨x1 == 95, h, ⟨⟨Pr.le_rfl, trivial⟩, Pick.refl _⟩⟩
theorem lex_token_1_ok (x1 : Int) (r : Bool) (h : lex_token_1 x1 = some r) : FnP Tryz.prog 112 [Pr.u8 x1] (Pr.bool r) := by
  refine fn_intro (n := 9) (rs := [2]) Tryz.func112 rfl Tryz.ntmps112 ⟨by decide, Tryz.results112⟩ (by decide) (fun s0 => ?_)
  unfold lex_token_1 at h
  refine W_rs ?_
  refine rq (out := Pr.bool false) qAssign ?_
  refine W_join (fun e C => ∃ (x5 : Bool), lex_token_1_j1 x5 = some r ∧ At [(2, Pr.bool x5)] [] e C) ?_ ?_
  · rintro e C ⟨x5, h, hat1⟩
    refine W_at hat1 ?_
    clear hat1
    unfold lex_token_1_j1 at h
    obtain rfl := Option.some.inj h
    exact W_ret ⟨rfl, Pr.le_rfl⟩
  · refine W_r ?_
    refine rq (out := Pr.u8 x1) qMove ?_
    obtain ⟨x2, hx2, h⟩ := bindSome h
    refine rq (out := Pr.bool x2) (qCall (lex_letter_ok x1 _ hx2)) ?_
    refine rq (out := Pr.bool x2) qMove ?_
    rcases iteSome h with ⟨hc3, h⟩ | ⟨hc3, h⟩
    · refine rno (neF hc3) ?_
      refine rno (neF hc3) ?_
      refine rq (out := Pr.bool true) (qPickT hc3) ?_
      refine rq (out := Pr.bool true) qAssign ?_
      exact ⟨true, h, ⟨⟨Pr.le_rfl, trivial⟩, Pick.refl _⟩⟩
    · refine rqg hc3 (out := Pr.u8 x1) qMove ?_
      obtain ⟨x4, hx4, h⟩ := bindSome h
      refine rqg hc3 (out := Pr.bool x4) (qCall (lex_digit_ok x1 _ hx4)) ?_
      refine rq (out := Pr.bool x4) (qPickF hc3) ?_
      refine rq (out := Pr.bool x4) qAssign ?_
      exact ⟨x4, h, ⟨⟨Pr.le_rfl, trivial⟩, Pick.refl _⟩⟩
theorem lex_Kept_ok (x1 : List UInt8) (r : Bool) (h : lex_Kept x1 = some r) : FnP Tryz.prog 113 [Pr.str x1] (Pr.bool r) := by
  refine fn_intro (n := 6) (rs := [2]) Tryz.func113 rfl Tryz.ntmps113 ⟨by decide, Tryz.results113⟩ (by decide) (fun s0 => ?_)
  unfold lex_Kept at h
  refine W_rs ?_
  refine rq (out := Pr.bool false) qAssign ?_
  refine W_rs ?_
  refine rq (out := Pr.lst Rp.str kept) (qGSlice (R := Rp.str) (L := kept) gKept Tryz.underlying165 Tryz.sizeOf9 rfl) ?_
  refine rq (out := Pr.str x1) qMove ?_
  obtain ⟨x2, hx2, h⟩ := bindSome h
  refine rq (out := Pr.bool x2) (qCall (slices_Contains_string_string_ok kept x1 _ hx2)) ?_
  refine rq (out := Pr.bool x2) qAssign ?_
  obtain rfl := Option.some.inj h
  exact W_ret ⟨rfl, Pr.le_rfl⟩
theorem lex_mark_ok (x1 : List UInt8) (r : Int) (h : lex_mark x1 = some r) : FnP Tryz.prog 114 [Pr.str x1] (Pr.i64 r) := by
  refine fn_intro (n := 19) (rs := [2]) Tryz.func114 rfl Tryz.ntmps114 ⟨by decide, Tryz.results114⟩ (by decide) (fun s0 => ?_)
  unfold lex_mark at h
  refine W_rs ?_
  refine rq (out := Pr.i64 0) qAssign ?_
  refine W_seq ?_
  refine W_rs ?_
  refine rq (out := Pr.lst Rp.str ([([61, 61] : List UInt8), ([33, 61] : List UInt8), ([60, 61] : List UInt8), ([62, 61] : List UInt8), ([38, 38] : List UInt8), ([124, 124] : List UInt8)] : List (List UInt8))) (qBuildSlice (R := Rp.str) (ls := ([([61, 61] : List UInt8), ([33, 61] : List UInt8), ([60, 61] : List UInt8), ([62, 61] : List UInt8), ([38, 38] : List UInt8), ([124, 124] : List UInt8)] : List (List UInt8))) el33 (Nat.le_of_ble_eq_true rfl) ⟨rfl, rfl⟩ ⟨rfl, rfl, rfl, rfl, rfl, rfl, trivial⟩) ?_
  refine rq (out := Pr.i64 (([([61, 61] : List UInt8), ([33, 61] : List UInt8), ([60, 61] : List UInt8), ([62, 61] : List UInt8), ([38, 38] : List UInt8), ([124, 124] : List UInt8)] : List (List UInt8)).length : Int)) (qLenL rfl Tryz.underlying33) ?_
  refine rq (out := Pr.i64 0) qMove ?_
  refine W_block ?_
  obtain ⟨z2l, hz2, h⟩ := bindSome h
  obtain ⟨n2, hN2⟩ := iter_some hz2
  clear hz2
  refine W_after 0 (fun e C => lex_mark_k1 x1 = some r ∧ At [(0, Pr.str x1)] [] e C) ?_ ?_
  · rintro e C ⟨h, hat1⟩
    refine W_at hat1 ?_
    clear hat1
    unfold lex_mark_k1 at h
    refine W_seq ?_
    refine W_rs ?_
    refine rq (out := Pr.str x1) qMove ?_
    obtain ⟨x8, hx8, h⟩ := bindSome h
    refine rq (out := Pr.u8 x8) (qIdxS Tryz.underlying9 hx8) ?_
    obtain ⟨x9, hx9, h⟩ := bindSome h
    refine rq (out := Pr.i64 x9) (qCall (strings_IndexByte_ok ([43, 45, 42, 47, 37, 60, 62, 61, 33, 40, 41, 123, 125, 59, 44, 46] : List UInt8) x8 _ hx9)) ?_
    refine rq (out := Pr.bool (decide (x9 ≥ 0))) qInt ?_
    refine W_cond (b := decide (x9 ≥ 0)) rfl (fun hc10 => ?_) (fun hc10 => ?_)
    · replace h := iteT hc10 h
      refine W_rs ?_
      refine rq (out := Pr.i64 1) qAssign ?_
      obtain rfl := Option.some.inj h
      exact W_ret ⟨rfl, Pr.le_rfl⟩
    · replace h := iteF hc10 h
      refine W_skip ?_
      refine W_rs ?_
      refine rq (out := Pr.i64 0) qAssign ?_
      obtain rfl := Option.some.inj h
      exact W_ret ⟨rfl, Pr.le_rfl⟩
  · refine W_loop (fun m e C => ∃ (x2 : Int), IterN (fun s => lex_mark_l2 x1 s) m x2 = some z2l ∧ At [(0, Pr.str x1), (5, Pr.lst Rp.str ([([61, 61] : List UInt8), ([33, 61] : List UInt8), ([60, 61] : List UInt8), ([62, 61] : List UInt8), ([38, 38] : List UInt8), ([124, 124] : List UInt8)] : List (List UInt8))), (6, Pr.i64 (([([61, 61] : List UInt8), ([33, 61] : List UInt8), ([60, 61] : List UInt8), ([62, 61] : List UInt8), ([38, 38] : List UInt8), ([124, 124] : List UInt8)] : List (List UInt8)).length : Int)), (7, Pr.i64 x2)] [] e C) n2 ⟨0, hN2, ⟨⟨Pr.le_rfl, Pr.le_rfl, Pr.le_rfl, Pr.le_rfl, trivial⟩, Pick.refl _⟩⟩ ?_
    clear hN2
    rintro m e C ⟨x2, hN2, hatl2⟩
    refine W_at hatl2 ?_
    clear hatl2
    obtain ⟨m2, w2l, rfl, h2l, hn2, ho2⟩ := iterN_some hN2
    clear hN2
    replace h2l : lex_mark_l2 x1 x2 = some w2l := h2l
    unfold lex_mark_l2 at h2l
    refine W_rs ?_
    refine rq (out := Pr.bool (decide (x2 < (([([61, 61] : List UInt8), ([33, 61] : List UInt8), ([60, 61] : List UInt8), ([62, 61] : List UInt8), ([38, 38] : List UInt8), ([124, 124] : List UInt8)] : List (List UInt8)).length : Int)))) qInt ?_
    refine W_seq ?_
    refine W_cond (b := decide (x2 < (([([61, 61] : List UInt8), ([33, 61] : List UInt8), ([60, 61] : List UInt8), ([62, 61] : List UInt8), ([38, 38] : List UInt8), ([124, 124] : List UInt8)] : List (List UInt8)).length : Int))) rfl (fun hc4 => ?_) (fun hc4 => ?_)
    · replace h2l := iteT hc4 h2l
      refine W_skip ?_
      refine W_seq ?_
      refine W_block ?_
      refine W_rs ?_
      obtain ⟨x5, hx5, h2l⟩ := bindSome h2l
      refine rq (out := Pr.cpt Rp.str x5) (qIdxA (R := Rp.str) (l := ([([61, 61] : List UInt8), ([33, 61] : List UInt8), ([60, 61] : List UInt8), ([62, 61] : List UInt8), ([38, 38] : List UInt8), ([124, 124] : List UInt8)] : List (List UInt8))) Tryz.underlying33 Tryz.sizeOf9 hx5) ?_
      refine rq (out := Pr.str x5) (qLoadC (R := Rp.str) (a := x5) ty9) ?_
      refine rq (out := Pr.str x5) qAssign ?_
      refine W_rs ?_
      refine rq (out := Pr.str x1) qMove ?_
      refine rq (out := Pr.str x5) qMove ?_
      obtain ⟨x6, hx6, h2l⟩ := bindSome h2l
      refine rq (out := Pr.bool x6) (qCall (strings_HasPrefix_ok x1 x5 _ hx6)) ?_
      refine W_cond (b := x6) rfl (fun hc7 => ?_) (fun hc7 => ?_)
      · replace h2l := iteT hc7 h2l
        refine W_rs ?_
        refine rq (out := Pr.i64 2) qAssign ?_
        obtain rfl := ho2 _ (Option.some.inj h2l).symm
        replace h : some 2 = some r := h
        obtain rfl := Option.some.inj h
        exact W_ret ⟨rfl, Pr.le_rfl⟩
      · replace h2l := iteF hc7 h2l
        refine W_skip ?_
        refine W_r ?_
        refine rq (out := Pr.i64 (w64 (x2 + 1))) qInt ?_
        refine rq (out := Pr.i64 (w64 (x2 + 1))) qMove ?_
        exact ⟨m2, Nat.lt_succ_self _, w64 (x2 + 1), hn2 _ (Option.some.inj h2l).symm, ⟨⟨Pr.le_rfl, Pr.le_rfl, Pr.le_rfl, Pr.le_rfl, trivial⟩, Pick.refl _⟩⟩
    · replace h2l := iteF hc4 h2l
      refine W_exit ?_
      obtain rfl := ho2 _ (Option.some.inj h2l).symm
      exact ⟨h, ⟨⟨Pr.le_rfl, trivial⟩, Pick.refl _⟩⟩
theorem lex_token_ok (x1 : List UInt8) (r : Int × Int × Int) (h : lex_token x1 = some r) : FnP Tryz.prog 93 [Pr.str x1] (Pr.tup [Pr.i64 r.1, Pr.i64 r.2.1, Pr.i64 r.2.2]) := by
  refine fn_intro (n := 60) (rs := [2, 3, 4]) Tryz.func93 rfl Tryz.ntmps93 ⟨by decide, Tryz.results93⟩ (by decide) (fun s0 => ?_)
  unfold lex_token at h
  refine W_rs ?_
  refine rq (out := Pr.i64 0) qAssign ?_
  refine rq (out := Pr.i64 0) qAssign ?_
  refine rq (out := Pr.i64 0) qAssign ?_
  refine W_seq ?_
  refine W_block ?_
  refine W_rs ?_
  refine rq (out := Pr.str x1) qMove ?_
  obtain ⟨x2, hx2, h⟩ := bindSome h
  refine rq (out := Pr.u8 x2) (qIdxS Tryz.underlying9 hx2) ?_
  obtain ⟨x3, hx3, h⟩ := bindSome h
  refine rq (out := Pr.bool x3) (qCall (lex_digit_ok x2 _ hx3)) ?_
  refine rq (out := Pr.bool x3) qAssign ?_
  refine W_cond (b := x3) rfl (fun hc4 => ?_) (fun hc4 => ?_)
  · replace h := iteT hc4 h
    refine W_rs ?_
    refine rq (out := Pr.str x1) qMove ?_
    obtain ⟨x5, hx5, h⟩ := bindSome h
    refine rq (out := Pr.i64 x5) (qCall' (lex_run_ok x1 lex_digit _ hx5) ⟨Pr.le_rfl, (is_pfn en109 (fun _ _ hs => by obtain ⟨a0, r, rfl, rfl, hr⟩ := hs; exact lex_digit_ok a0 r hr)), trivial⟩) ?_
    refine rq (out := Pr.i64 x5) qAssign ?_
    refine W_rs ?_
    refine rq (out := Pr.str x1) qMove ?_
    refine rq (out := Pr.i64 x5) qMove ?_
    obtain ⟨x6, hx6, h⟩ := bindSome h
    refine rq (out := Pr.str x6) (qSubH Tryz.underlying9 hx6) ?_
    obtain ⟨⟨x7, x8⟩, hx7, h⟩ := bindSome h
    refine rq (out := Pr.tup [Pr.i64 x7, Pr.err x8]) (qCall (strconv_ParseInt_ok x6 10 64 _ hx7)) ?_
    refine rq (out := Pr.tup [Pr.i64 x7, Pr.err x8]) qMove ?_
    refine rq (out := Pr.i64 x7) qExtract ?_
    refine rq (out := Pr.err x8) qExtract ?_
    refine rq (out := Pr.i64 x7) qAssign ?_
    refine rq (out := Pr.err x8) qAssign ?_
    refine W_seq ?_
    refine W_join (fun e C => ∃ (x16 : Bool), lex_token_j1 x5 x16 = some r ∧ At [(5, Pr.i64 x5), (37, Pr.bool x16)] [] e C) ?_ ?_
    · rintro e C ⟨x16, h, hat1⟩
      refine W_at hat1 ?_
      clear hat1
      unfold lex_token_j1 at h
      refine W_cond (b := x16) rfl (fun hc17 => ?_) (fun hc17 => ?_)
      · replace h := iteT hc17 h
        refine W_rs ?_
        refine rq (out := Pr.i64 0) qAssign ?_
        refine rq (out := Pr.i64 0) qAssign ?_
        refine rq (out := Pr.i64 31) qAssign ?_
        obtain rfl := Option.some.inj h
        exact W_ret ⟨rfl, Pr.le_rfl⟩
      · replace h := iteF hc17 h
        refine W_skip ?_
        refine W_rs ?_
        refine rq (out := Pr.i64 x5) qMove ?_
        refine rq (out := Pr.i64 2) qAssign ?_
        refine rq (out := Pr.i64 x5) qAssign ?_
        refine rq (out := Pr.i64 0) qAssign ?_
        obtain rfl := Option.some.inj h
        exact W_ret ⟨rfl, Pr.le_rfl⟩
    · refine W_r ?_
      refine rq (out := Pr.err x8) qMove ?_
      refine rq (out := Pr.bool x8) (qErrNe Tryz.underlying126) ?_
      refine rq (out := Pr.bool x8) qMove ?_
      rcases iteSome h with ⟨hc9, h⟩ | ⟨hc9, h⟩
      · refine rno (neF hc9) ?_
        refine rno (neF hc9) ?_
        refine rq (out := Pr.bool true) (qPickT hc9) ?_
        refine rq (out := Pr.bool true) qMove ?_
        have hc13 : true = true := rfl
        refine rno (neF hc13) ?_
        refine rno (neF hc13) ?_
        refine rno (neF hc13) ?_
        refine rnoU ?_
        refine rnoU ?_
        refine rnoU ?_
        refine rno (neF hc13) ?_
        refine rq (out := Pr.bool true) (qPickT hc13) ?_
        exact ⟨true, h, ⟨⟨Pr.le_rfl, Pr.le_rfl, trivial⟩, Pick.refl _⟩⟩
      · refine rqg hc9 (out := Pr.i64 x7) qMove ?_
        refine rqg hc9 (out := Pr.bool (decide (x7 > 2147483647))) qInt ?_
        refine rq (out := Pr.bool (decide (x7 > 2147483647))) (qPickF hc9) ?_
        refine rq (out := Pr.bool (decide (x7 > 2147483647))) qMove ?_
        rcases iteSome h with ⟨hc10, h⟩ | ⟨hc10, h⟩
        · refine rno (neF hc10) ?_
          refine rno (neF hc10) ?_
          refine rno (neF hc10) ?_
          refine rnoU ?_
          refine rnoU ?_
          refine rnoU ?_
          refine rno (neF hc10) ?_
          refine rq (out := Pr.bool true) (qPickT hc10) ?_
          exact ⟨true, h, ⟨⟨Pr.le_rfl, Pr.le_rfl, trivial⟩, Pick.refl _⟩⟩
        · refine rqg hc10 (out := Pr.i64 x5) qMove ?_
          refine rqg hc10 (out := Pr.bool (decide (x5 > 1))) qInt ?_
          refine rqg hc10 (out := Pr.bool (decide (x5 > 1))) qMove ?_
          rcases iteSome h with ⟨hc11, h⟩ | ⟨hc11, h⟩
          · refine rqg hc11 (out := Pr.str x1) qMove ?_
            obtain ⟨x12, hx12, h⟩ := bindSome h
            refine rqg hc11 (out := Pr.u8 x12) (qIdxS Tryz.underlying9 hx12) ?_
            refine rqg hc11 (out := Pr.bool (x12 == 48)) qInt ?_
            refine rqg hc10 (out := Pr.bool (x12 == 48)) (qPickT hc11) ?_
            refine rq (out := Pr.bool (x12 == 48)) (qPickF hc10) ?_
            exact ⟨x12 == 48, h, ⟨⟨Pr.le_rfl, Pr.le_rfl, trivial⟩, Pick.refl _⟩⟩
          · refine rno (neT hc11) ?_
            refine rno (neT hc11) ?_
            refine rno (neT hc11) ?_
            refine rqg hc10 (out := Pr.bool false) (qPickF hc11) ?_
            refine rq (out := Pr.bool false) (qPickF hc10) ?_
            exact ⟨false, h, ⟨⟨Pr.le_rfl, Pr.le_rfl, trivial⟩, Pick.refl _⟩⟩
  · replace h := iteF hc4 h
    refine W_rs ?_
    refine rq (out := Pr.str x1) qMove ?_
    obtain ⟨x18, hx18, h⟩ := bindSome h
    refine rq (out := Pr.u8 x18) (qIdxS Tryz.underlying9 hx18) ?_
    obtain ⟨x19, hx19, h⟩ := bindSome h
    refine rq (out := Pr.bool x19) (qCall (lex_letter_ok x18 _ hx19)) ?_
    refine rq (out := Pr.bool x19) qAssign ?_
    refine W_cond (b := x19) rfl (fun hc20 => ?_) (fun hc20 => ?_)
    · replace h := iteT hc20 h
      refine W_rs ?_
      refine rq (out := Pr.str x1) qMove ?_
      obtain ⟨x21, hx21, h⟩ := bindSome h
      refine rq (out := Pr.i64 x21) (qCall' (lex_run_ok x1 lex_token_1 _ hx21) ⟨Pr.le_rfl, (is_pfn en112 (fun _ _ hs => by obtain ⟨a0, r, rfl, rfl, hr⟩ := hs; exact lex_token_1_ok a0 r hr)), trivial⟩) ?_
      refine rq (out := Pr.i64 x21) qAssign ?_
      refine W_seq ?_
      refine W_block ?_
      refine W_rs ?_
      refine rq (out := Pr.i64 x21) qMove ?_
      refine rq (out := Pr.bool (decide (x21 > 20))) qInt ?_
      refine rq (out := Pr.bool (decide (x21 > 20))) qAssign ?_
      refine W_cond (b := decide (x21 > 20)) rfl (fun hc22 => ?_) (fun hc22 => ?_)
      · replace h := iteT hc22 h
        refine W_rs ?_
        refine rq (out := Pr.i64 0) qAssign ?_
        refine rq (out := Pr.i64 0) qAssign ?_
        refine rq (out := Pr.i64 2) qAssign ?_
        obtain rfl := Option.some.inj h
        exact W_ret ⟨rfl, Pr.le_rfl⟩
      · replace h := iteF hc22 h
        refine W_rs ?_
        refine rq (out := Pr.str x1) qMove ?_
        refine rq (out := Pr.i64 x21) qMove ?_
        obtain ⟨x23, hx23, h⟩ := bindSome h
        refine rq (out := Pr.str x23) (qSubH Tryz.underlying9 hx23) ?_
        obtain ⟨x24, hx24, h⟩ := bindSome h
        refine rq (out := Pr.bool x24) (qCall (lex_Kept_ok x23 _ hx24)) ?_
        refine rq (out := Pr.bool x24) qAssign ?_
        refine W_cond (b := x24) rfl (fun hc25 => ?_) (fun hc25 => ?_)
        · replace h := iteT hc25 h
          refine W_rs ?_
          refine rq (out := Pr.i64 x21) qMove ?_
          refine rq (out := Pr.i64 3) qAssign ?_
          refine rq (out := Pr.i64 x21) qAssign ?_
          refine rq (out := Pr.i64 0) qAssign ?_
          obtain rfl := Option.some.inj h
          exact W_ret ⟨rfl, Pr.le_rfl⟩
        · replace h := iteF hc25 h
          refine W_skip ?_
          refine W_rs ?_
          refine rq (out := Pr.i64 x21) qMove ?_
          refine rq (out := Pr.i64 1) qAssign ?_
          refine rq (out := Pr.i64 x21) qAssign ?_
          refine rq (out := Pr.i64 0) qAssign ?_
          obtain rfl := Option.some.inj h
          exact W_ret ⟨rfl, Pr.le_rfl⟩
    · replace h := iteF hc20 h
      refine W_skip ?_
      refine W_rs ?_
      refine rq (out := Pr.str x1) qMove ?_
      obtain ⟨x26, hx26, h⟩ := bindSome h
      refine rq (out := Pr.i64 x26) (qCall (lex_mark_ok x1 _ hx26)) ?_
      refine rq (out := Pr.i64 x26) qAssign ?_
      refine W_seq ?_
      refine W_rs ?_
      refine rq (out := Pr.i64 x26) qMove ?_
      refine rq (out := Pr.bool (x26 == 0)) qInt ?_
      refine W_cond (b := x26 == 0) rfl (fun hc27 => ?_) (fun hc27 => ?_)
      · replace h := iteT hc27 h
        refine W_rs ?_
        refine rq (out := Pr.i64 0) qAssign ?_
        refine rq (out := Pr.i64 0) qAssign ?_
        refine rq (out := Pr.i64 30) qAssign ?_
        obtain rfl := Option.some.inj h
        exact W_ret ⟨rfl, Pr.le_rfl⟩
      · replace h := iteF hc27 h
        refine W_skip ?_
        refine W_rs ?_
        refine rq (out := Pr.i64 x26) qMove ?_
        refine rq (out := Pr.i64 4) qAssign ?_
        refine rq (out := Pr.i64 x26) qAssign ?_
        refine rq (out := Pr.i64 0) qAssign ?_
        obtain rfl := Option.some.inj h
        exact W_ret ⟨rfl, Pr.le_rfl⟩
theorem lex_Lex_1_ok (x1 : Int) (x2 : Int) (x3 : Int) (x5 : List ApiToken) (x8 : List UInt8) (x10 : Int) (b4 : Nat) (v6 : Value) (b7 : Nat) (b9 : Nat) (r : (List ApiToken) × (List UInt8) × Int) (h : lex_Lex_1 x1 x2 x3 x5 x8 x10 = some r) : FnC Tryz.prog 91 [Pr.i64 x1, Pr.i64 x2, Pr.i64 x3, Pr.pt b4 0, Pr.pt b7 0, Pr.pt b9 0] [Own.cell b4 (Pr.is v6), Own.vec v6 rApiToken x5 109, Own.box b7 Rp.str x8, Own.box b9 (Rp.int .i64) x10] (fun q C' => ∃ w0, q = Pr.tup [] ∧ C' = [Own.cell b4 (Pr.is w0), Own.vec w0 rApiToken r.1 109, Own.box b7 Rp.str r.2.1, Own.box b9 (Rp.int .i64) r.2.2]) := by
  refine fnc_introP (n := 38) (rs := []) Tryz.func91 rfl Tryz.ntmps91 ⟨by decide, Tryz.results91⟩ (by decide) (fun s0 => ?_)
  unfold lex_Lex_1 at h
  refine W_join (fun e C => ∃ (x13 : List ApiToken), ∃ (v14 : Value), lex_Lex_1_j1 x8 x10 x2 x3 x13 = some r ∧ At [(1, Pr.i64 x2), (2, Pr.i64 x3), (5, Pr.pt b9 0)] [Own.cell b4 (Pr.is v14), Own.vec v14 rApiToken x13 109, Own.box b7 Rp.str x8, Own.box b9 (Rp.int .i64) x10] e C) ?_ ?_
  · rintro e C ⟨x13, v14, h, hat1⟩
    refine W_at hat1 ?_
    clear hat1
    unfold lex_Lex_1_j1 at h
    refine W_r ?_
    refine rq (out := Pr.i64 x10) (qLoad (R := Rp.int .i64) (a := x10) (R' := Rp.int .i64) 3 ty3 (Sub.refl _)) ?_
    refine rq (out := Pr.i64 x2) qMove ?_
    refine rq (out := Pr.i64 x3) qMove ?_
    refine rq (out := Pr.i64 (w64 (x2 + x3))) qInt ?_
    refine rq (out := Pr.i64 (w64 (x10 + (w64 (x2 + x3))))) qInt ?_
    refine rStore (R := Rp.int .i64) (R' := Rp.int .i64) (a := x10) (y := w64 (x10 + (w64 (x2 + x3)))) 3 Tryz.sizeOf3 (Upd.refl _) ?_
    obtain rfl := Option.some.inj h
    exact ⟨.inr rfl, _, Pick.refl _, _, Pr.le_rfl, v14, rfl, rfl⟩
  · refine W_draw 23 hmx (by kernel_rfl) (by kernel_rfl) ?_
    refine qq (out := Pr.is v6) (qLoadP 0 Tryz.isAgg104) ?_
    refine qq (out := Pr.i64 x1) qMove ?_
    refine qq (out := Pr.str x8) (qLoad (R := Rp.str) (a := x8) (R' := Rp.str) 2 ty9 (Sub.refl _)) ?_
    refine qq (out := Pr.i64 x10) (qLoad (R := Rp.int .i64) (a := x10) (R' := Rp.int .i64) 3 ty3 (Sub.refl _)) ?_
    refine qq (out := Pr.i64 x2) qMove ?_
    refine qq (out := Pr.i64 (w64 (x10 + x2))) qInt ?_
    refine qq (out := Pr.i64 x10) (qLoad (R := Rp.int .i64) (a := x10) (R' := Rp.int .i64) 3 ty3 (Sub.refl _)) ?_
    refine qq (out := Pr.i64 x2) qMove ?_
    refine qq (out := Pr.i64 (w64 (x10 + x2))) qInt ?_
    refine qq (out := Pr.i64 x3) qMove ?_
    refine qq (out := Pr.i64 (w64 ((w64 (x10 + x2)) + x3))) qInt ?_
    obtain ⟨x11, hx11, h⟩ := bindSome h
    refine qq (out := Pr.str x11) (qSubLH Tryz.underlying9 hx11) ?_
    refine qq (out := Pr.i64 x10) (qLoad (R := Rp.int .i64) (a := x10) (R' := Rp.int .i64) 3 ty3 (Sub.refl _)) ?_
    refine qq (out := Pr.i64 x2) qMove ?_
    refine qq (out := Pr.i64 (w64 (x10 + x2))) qInt ?_
    refine qq (out := Pr.str x8) (qLoad (R := Rp.str) (a := x8) (R' := Rp.str) 2 ty9 (Sub.refl _)) ?_
    refine qq (out := Pr.i64 x10) (qLoad (R := Rp.int .i64) (a := x10) (R' := Rp.int .i64) 3 ty3 (Sub.refl _)) ?_
    refine qq (out := Pr.i64 x10) (qLoad (R := Rp.int .i64) (a := x10) (R' := Rp.int .i64) 3 ty3 (Sub.refl _)) ?_
    refine qq (out := Pr.i64 x2) qMove ?_
    refine qq (out := Pr.i64 (w64 (x10 + x2))) qInt ?_
    obtain ⟨x12, hx12, h⟩ := bindSome h
    refine qq (out := Pr.str x12) (qSubLH Tryz.underlying9 hx12) ?_
    refine qq (out := (rApiToken).val (ApiToken.mk x1 x11 (w64 (x10 + x2)) x12)) (qBuild st109 ⟨(ApiToken.mk x1 [] 0 []), ⟨_, rfl, rfl, fun j fd hj hf => by match j, hj with | 0, h => exact absurd rfl h | 1, _ => cases hf; rfl | 2, _ => cases hf; rfl | 3, _ => cases hf; rfl | _ + 4, _ => cases hf⟩, ⟨(ApiToken.mk x1 x11 0 []), ⟨_, rfl, rfl, fun j fd hj hf => by match j, hj with | 0, _ => cases hf; rfl | 1, h => exact absurd rfl h | 2, _ => cases hf; rfl | 3, _ => cases hf; rfl | _ + 4, _ => cases hf⟩, ⟨(ApiToken.mk x1 x11 (w64 (x10 + x2)) []), ⟨_, rfl, rfl, fun j fd hj hf => by match j, hj with | 0, _ => cases hf; rfl | 1, _ => cases hf; rfl | 2, h => exact absurd rfl h | 3, _ => cases hf; rfl | _ + 4, _ => cases hf⟩, ⟨(ApiToken.mk x1 x11 (w64 (x10 + x2)) x12), ⟨_, rfl, rfl, fun j fd hj hf => by match j, hj with | 0, _ => cases hf; rfl | 1, _ => cases hf; rfl | 2, _ => cases hf; rfl | 3, h => exact absurd rfl h | _ + 4, _ => cases hf⟩, rfl⟩⟩⟩⟩) ?_
    refine qq (out := Pr.lst rApiToken ([(ApiToken.mk x1 x11 (w64 (x10 + x2)) x12)] : List ApiToken)) (qBuildSlice1 (R := rApiToken) (a := (ApiToken.mk x1 x11 (w64 (x10 + x2)) x12)) el104 (Nat.le_of_ble_eq_true rfl)) ?_
    obtain ⟨x13, hx13, h⟩ := bindSome h
    refine rAppend' 1 el104 hx13 (fun v14 => ?_)
    refine rStoreV 0 1 Tryz.sizeOf104 ?_
    exact ⟨x13, v14, h, ⟨⟨Pr.le_rfl, Pr.le_rfl, Pr.le_rfl, trivial⟩, Pick.refl _⟩⟩
theorem lex_Lex_ok (x1 : List UInt8) (r : (List ApiToken) × Int × Int) (h : lex_Lex x1 = some r) : FnP Tryz.prog 79 [Pr.str x1] (Pr.tup [Pr.lst rApiToken r.1, Pr.i64 r.2.1, Pr.i64 r.2.2]) := by
  refine fn_intro (n := 60) (rs := [2, 3, 4]) Tryz.func79 rfl Tryz.ntmps79 ⟨by decide, Tryz.results79⟩ (by decide) (fun s0 => ?_)
  unfold lex_Lex at h
  refine W_rs ?_
  refine rBox (R := Rp.str) (a := x1) rfl (fun b2 => ?_)
  refine rq (out := Pr.is (.slice none 0 0)) qAssign ?_
  refine rq (out := Pr.i64 0) qAssign ?_
  refine rq (out := Pr.i64 0) qAssign ?_
  refine W_seq ?_
  refine W_rs ?_
  refine rq (out := Pr.str x1) (qLoad (R := Rp.str) (a := x1) (R' := Rp.str) 0 ty9 (Sub.refl _)) ?_
  refine rq (out := Pr.i64 (x1.length : Int)) (qLenS rfl Tryz.underlying9) ?_
  refine rq (out := Pr.bool (decide ((x1.length : Int) > 1048576))) qInt ?_
  refine W_cond (b := decide ((x1.length : Int) > 1048576)) rfl (fun hc3 => ?_) (fun hc3 => ?_)
  · replace h := iteT hc3 h
    refine W_rs ?_
    refine rq (out := Pr.is (.slice none 0 0)) qAssign ?_
    refine rq (out := Pr.i64 0) qAssign ?_
    refine rq (out := Pr.i64 2) qAssign ?_
    obtain rfl := Option.some.inj h
    exact W_ret ⟨rfl, tup_le ⟨Pr.lst_nil _, Pr.le_rfl, Pr.le_rfl, trivial⟩⟩
  · replace h := iteF hc3 h
    refine W_skip ?_
    refine W_rs ?_
    refine rAllocC Tryz.zeroValue104 rfl rfl (fun b4 => ?_)
    refine W_rs ?_
    refine rAlloc (R := Rp.int .i64) (z := 0) Tryz.zeroValue3 (fun _ => rfl) (fun b5 => ?_)
    refine rStore (R := Rp.int .i64) (R' := Rp.int .i64) (a := 0) (y := 0) 2 Tryz.sizeOf3 (Upd.refl _) ?_
    refine W_rs ?_
    refine rq (out := Pr.clo 91 [] [Pr.pt b4 0, Pr.pt b2 0, Pr.pt b5 0]) qMakeFunc ?_
    refine rq (out := Pr.clo 91 [] [Pr.pt b4 0, Pr.pt b2 0, Pr.pt b5 0]) qAssign ?_
    refine W_block ?_
    obtain ⟨n1, hN1⟩ := iter_some h
    refine W_vec rApiToken 109 ?_
    refine W_loop (fun m e C => ∃ (x6 : List UInt8), ∃ (x8 : Int), ∃ (x9 : List ApiToken), ∃ (v7 : Value), IterN (fun s => lex_Lex_l1 s.1 s.2.1 s.2.2) m (x6, x8, x9) = some r ∧ At [(1, Pr.pt b2 0), (5, Pr.pt b4 0), (6, Pr.pt b5 0), (7, Pr.clo 91 [] [Pr.pt b4 0, Pr.pt b2 0, Pr.pt b5 0])] [Own.box b2 Rp.str x6, Own.cell b4 (Pr.is v7), Own.box b5 (Rp.int .i64) x8, Own.vec v7 rApiToken x9 109] e C) n1 ⟨x1, 0, [], (.slice none 0 0), hN1, ⟨⟨Pr.le_rfl, Pr.le_rfl, Pr.le_rfl, Pr.le_rfl, trivial⟩, Pick.refl _⟩⟩ ?_
    clear hN1
    rintro m e C ⟨x6, x8, x9, v7, hN1, hatl1⟩
    refine W_at hatl1 ?_
    clear hatl1
    obtain ⟨m1, w1l, rfl, h1l, hn1, ho1⟩ := iterN_some hN1
    clear hN1
    replace h1l : lex_Lex_l1 x6 x8 x9 = some w1l := h1l
    unfold lex_Lex_l1 at h1l
    refine W_block ?_
    refine W_rs ?_
    refine rq (out := Pr.str x6) (qLoad (R := Rp.str) (a := x6) (R' := Rp.str) 0 ty9 (Sub.refl _)) ?_
    refine rq (out := Pr.i64 x8) (qLoad (R := Rp.int .i64) (a := x8) (R' := Rp.int .i64) 2 ty3 (Sub.refl _)) ?_
    obtain ⟨x14, hx14, h1l⟩ := bindSome h1l
    refine rq (out := Pr.str x14) (qSubL Tryz.underlying9 hx14) ?_
    obtain ⟨⟨x15, x16⟩, hx15, h1l⟩ := bindSome h1l
    refine rq (out := Pr.tup [Pr.i64 x15, Pr.bool x16]) (qCall (lex_between_ok x14 _ hx15)) ?_
    refine rq (out := Pr.tup [Pr.i64 x15, Pr.bool x16]) qMove ?_
    refine rq (out := Pr.i64 x15) qExtract ?_
    refine rq (out := Pr.bool x16) qExtract ?_
    refine rq (out := Pr.i64 x15) qAssign ?_
    refine rq (out := Pr.bool x16) qAssign ?_
    refine W_seq ?_
    refine W_rs ?_
    refine rq (out := Pr.bool x16) qMove ?_
    refine rq (out := Pr.bool (!x16)) qNot ?_
    refine W_cond (b := !x16) rfl (fun hc17 => ?_) (fun hc17 => ?_)
    · replace h1l := iteT hc17 h1l
      refine W_join (fun e C => lex_Lex_j2 x8 x15 = some w1l ∧ At [(2, Pr.is (.slice none 0 0)), (3, Pr.i64 (w64 (x8 + x15))), (4, Pr.i64 32)] [Own.box b2 Rp.str x6, Own.cell b4 (Pr.is v7), Own.box b5 (Rp.int .i64) x8, Own.vec v7 rApiToken x9 109] e C) ?_ ?_
      · rintro e C ⟨h1l, hat2⟩
        refine W_at hat2 ?_
        clear hat2
        unfold lex_Lex_j2 at h1l
        have h : some ([], w64 (x8 + x15), 32) = some r := congrArg some (ho1 _ (Option.some.inj h1l).symm)
        obtain rfl := Option.some.inj h
        exact W_ret ⟨rfl, tup_le ⟨Pr.lst_nil _, Pr.le_rfl, Pr.le_rfl, trivial⟩⟩
      · refine W_draw 6 hmx (by kernel_rfl) (by kernel_rfl) ?_
        refine qq (out := Pr.i64 x8) (qLoad (R := Rp.int .i64) (a := x8) (R' := Rp.int .i64) 2 ty3 (Sub.refl _)) ?_
        refine qq (out := Pr.i64 x15) qMove ?_
        refine qq (out := Pr.i64 (w64 (x8 + x15))) qInt ?_
        refine qq (out := Pr.is (.slice none 0 0)) qAssign ?_
        refine qq (out := Pr.i64 (w64 (x8 + x15))) qAssign ?_
        refine qq (out := Pr.i64 32) qAssign ?_
        exact ⟨h1l, ⟨⟨Pr.le_rfl, Pr.le_rfl, Pr.le_rfl, trivial⟩, Pick.refl _⟩⟩
    · replace h1l := iteF hc17 h1l
      refine W_skip ?_
      refine W_seq ?_
      refine W_rs ?_
      refine rq (out := Pr.i64 x8) (qLoad (R := Rp.int .i64) (a := x8) (R' := Rp.int .i64) 2 ty3 (Sub.refl _)) ?_
      refine rq (out := Pr.i64 x15) qMove ?_
      refine rq (out := Pr.i64 (w64 (x8 + x15))) qInt ?_
      refine rq (out := Pr.str x6) (qLoad (R := Rp.str) (a := x6) (R' := Rp.str) 0 ty9 (Sub.refl _)) ?_
      refine rq (out := Pr.i64 (x6.length : Int)) (qLenS rfl Tryz.underlying9) ?_
      refine rq (out := Pr.bool ((w64 (x8 + x15)) == (x6.length : Int))) qInt ?_
      refine W_cond (b := (w64 (x8 + x15)) == (x6.length : Int)) rfl (fun hc18 => ?_) (fun hc18 => ?_)
      · replace h1l := iteT hc18 h1l
        refine W_rs ?_
        refine rq (out := Pr.clo 91 [] [Pr.pt b4 0, Pr.pt b2 0, Pr.pt b5 0]) qMove ?_
        refine rq (out := Pr.i64 x15) qMove ?_
        obtain ⟨⟨x19, x21, x22⟩, hx19, h1l⟩ := bindSome h1l
        refine rCallK [1, 3, 0, 2] (lex_Lex_1_ok 5 x15 0 x9 x6 x8 b4 v7 b2 b5 _ hx19) (fun q C' hq => ?_)
        obtain ⟨v20, rfl, rfl⟩ := hq
        refine W_rs ?_
        refine rq (out := Pr.is v20) (qLoadP 0 Tryz.isAgg104) ?_
        refine rq (out := Pr.is v20) qAssign ?_
        refine rq (out := Pr.i64 0) qAssign ?_
        refine rq (out := Pr.i64 0) qAssign ?_
        have h : some (x19, 0, 0) = some r := congrArg some (ho1 _ (Option.some.inj h1l).symm)
        refine W_rel 1 [2] ?_ rfl ⟨rfl, trivial⟩
        obtain rfl := Option.some.inj h
        exact W_ret ⟨rfl, Pr.le_rfl⟩
      · replace h1l := iteF hc18 h1l
        refine W_skip ?_
        refine W_rs ?_
        refine rq (out := Pr.str x6) (qLoad (R := Rp.str) (a := x6) (R' := Rp.str) 0 ty9 (Sub.refl _)) ?_
        refine rq (out := Pr.i64 x8) (qLoad (R := Rp.int .i64) (a := x8) (R' := Rp.int .i64) 2 ty3 (Sub.refl _)) ?_
        refine rq (out := Pr.i64 x15) qMove ?_
        refine rq (out := Pr.i64 (w64 (x8 + x15))) qInt ?_
        obtain ⟨x23, hx23, h1l⟩ := bindSome h1l
        refine rq (out := Pr.str x23) (qSubL Tryz.underlying9 hx23) ?_
        obtain ⟨⟨x24, x25, x26⟩, hx24, h1l⟩ := bindSome h1l
        refine rq (out := Pr.tup [Pr.i64 x24, Pr.i64 x25, Pr.i64 x26]) (qCall (lex_token_ok x23 _ hx24)) ?_
        refine rq (out := Pr.tup [Pr.i64 x24, Pr.i64 x25, Pr.i64 x26]) qMove ?_
        refine rq (out := Pr.i64 x24) qExtract ?_
        refine rq (out := Pr.i64 x25) qExtract ?_
        refine rq (out := Pr.i64 x26) qExtract ?_
        refine rq (out := Pr.i64 x24) qAssign ?_
        refine rq (out := Pr.i64 x25) qAssign ?_
        refine rq (out := Pr.i64 x26) qAssign ?_
        refine W_seq ?_
        refine W_rs ?_
        refine rq (out := Pr.i64 x26) qMove ?_
        refine rq (out := Pr.bool (x26 != 0)) qInt ?_
        refine W_cond (b := x26 != 0) rfl (fun hc27 => ?_) (fun hc27 => ?_)
        · replace h1l := iteT hc27 h1l
          refine W_join (fun e C => lex_Lex_j3 x8 x15 x26 = some w1l ∧ At [(2, Pr.is (.slice none 0 0)), (3, Pr.i64 (w64 (x8 + x15))), (4, Pr.i64 x26)] [Own.box b2 Rp.str x6, Own.cell b4 (Pr.is v7), Own.box b5 (Rp.int .i64) x8, Own.vec v7 rApiToken x9 109] e C) ?_ ?_
          · rintro e C ⟨h1l, hat3⟩
            refine W_at hat3 ?_
            clear hat3
            unfold lex_Lex_j3 at h1l
            have h : some ([], w64 (x8 + x15), x26) = some r := congrArg some (ho1 _ (Option.some.inj h1l).symm)
            obtain rfl := Option.some.inj h
            exact W_ret ⟨rfl, tup_le ⟨Pr.lst_nil _, Pr.le_rfl, Pr.le_rfl, trivial⟩⟩
          · refine W_draw 7 hmx (by kernel_rfl) (by kernel_rfl) ?_
            refine qq (out := Pr.i64 x8) (qLoad (R := Rp.int .i64) (a := x8) (R' := Rp.int .i64) 2 ty3 (Sub.refl _)) ?_
            refine qq (out := Pr.i64 x15) qMove ?_
            refine qq (out := Pr.i64 (w64 (x8 + x15))) qInt ?_
            refine qq (out := Pr.i64 x26) qMove ?_
            refine qq (out := Pr.is (.slice none 0 0)) qAssign ?_
            refine qq (out := Pr.i64 (w64 (x8 + x15))) qAssign ?_
            refine qq (out := Pr.i64 x26) qAssign ?_
            exact ⟨h1l, ⟨⟨Pr.le_rfl, Pr.le_rfl, Pr.le_rfl, trivial⟩, Pick.refl _⟩⟩
        · replace h1l := iteF hc27 h1l
          refine W_skip ?_
          refine W_r ?_
          refine rq (out := Pr.clo 91 [] [Pr.pt b4 0, Pr.pt b2 0, Pr.pt b5 0]) qMove ?_
          refine rq (out := Pr.i64 x24) qMove ?_
          refine rq (out := Pr.i64 x15) qMove ?_
          refine rq (out := Pr.i64 x25) qMove ?_
          obtain ⟨⟨x28, x30, x31⟩, hx28, h1l⟩ := bindSome h1l
          refine rCallK [1, 3, 0, 2] (lex_Lex_1_ok x24 x15 x25 x9 x6 x8 b4 v7 b2 b5 _ hx28) (fun q C' hq => ?_)
          obtain ⟨v29, rfl, rfl⟩ := hq
          exact ⟨m1, Nat.lt_succ_self _, x30, x31, x28, v29, hn1 _ (Option.some.inj h1l).symm, ⟨⟨Pr.le_rfl, Pr.le_rfl, Pr.le_rfl, Pr.le_rfl, trivial⟩, Pick.of [2, 0, 3, 1] rfl⟩⟩
end Go.Proofs.YtphkaogfinjbjaaGreatDoor
