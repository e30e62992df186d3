/- The code comes to what these functions say (printed by wip/gen/gen.py). -/
import Derived.Test.YtefeelcjokdchaaDoorZP
import Derived.Test.YtefeelcjokdchaaDoorZT
set_option linter.unusedSimpArgs false
set_option linter.unusedVariables false
/- The code comes to what these functions say (printed by wip/gen/gen.py). -/
set_option linter.unusedSectionVars false
set_option maxRecDepth 100000
set_option maxHeartbeats 4000000
namespace Go.Proofs.YtefeelcjokdchaaDoor
open Go Go.Cn
variable [Known] [HasClashes]
theorem token_Kind_ok (x1 : List UInt8) (r : Int) (h : token_Kind x1 = some r) : FnP Tryd.prog 25 [Pr.str x1] (Pr.i64 r) := by
  refine fn_intro (n := 37) (rs := [2]) Tryd.func25 rfl Tryd.ntmps25 ⟨by decide, Tryd.results25⟩ (by decide) (fun s0 => ?_)
  unfold token_Kind at h
  refine W_rs ?_
  refine rq (out := Pr.i64 0) qAssign ?_
  refine W_rs ?_
  refine rq (out := Pr.str x1) qMove ?_
  obtain ⟨⟨x2, x3, x4⟩, hx2, h⟩ := bindSome h
  refine rq (out := Pr.tup [Pr.lst rApiToken x2, Pr.i64 x3, Pr.i64 x4]) (qCall (lex_Lex_ok x1 _ hx2)) ?_
  refine rq (out := Pr.tup [Pr.lst rApiToken x2, Pr.i64 x3, Pr.i64 x4]) qMove ?_
  refine rq (out := Pr.lst rApiToken x2) qExtract ?_
  refine rq (out := Pr.i64 x3) qExtract ?_
  refine rq (out := Pr.i64 x4) qExtract ?_
  refine rq (out := Pr.lst rApiToken x2) qAssign ?_
  refine rq (out := Pr.i64 x3) qAssign ?_
  refine rq (out := Pr.i64 x4) qAssign ?_
  refine W_seq ?_
  refine W_join (fun e C => ∃ (x18 : Bool), token_Kind_j1 x2 x18 = some r ∧ At [(3, Pr.lst rApiToken x2), (32, Pr.bool x18)] [] e C) ?_ ?_
  · rintro e C ⟨x18, h, hat1⟩
    refine W_at hat1 ?_
    clear hat1
    unfold token_Kind_j1 at h
    refine W_cond (b := x18) rfl (fun hc19 => ?_) (fun hc19 => ?_)
    · replace h := iteT hc19 h
      refine W_rs ?_
      refine rq (out := Pr.i64 0) qAssign ?_
      obtain rfl := Option.some.inj h
      exact W_ret ⟨rfl, Pr.le_rfl⟩
    · replace h := iteF hc19 h
      refine W_skip ?_
      refine W_rs ?_
      refine rq (out := Pr.lst rApiToken x2) qMove ?_
      obtain ⟨x20, hx20, h⟩ := bindSome h
      refine rq (out := Pr.cpt rApiToken x20) (qIdxA (R := rApiToken) (l := x2) Tryd.underlying23 Tryd.sizeOf30 hx20) ?_
      refine rq (out := Pr.cpt (Rp.int .i64) x20.Kind) (qFieldC (R := rApiToken) (a := x20) fld30_0 subApiToken_Kind) ?_
      refine rq (out := Pr.i64 x20.Kind) (qLoadC (R := Rp.int .i64) (a := x20.Kind) ty3) ?_
      refine rq (out := Pr.i64 x20.Kind) qAssign ?_
      obtain rfl := Option.some.inj h
      exact W_ret ⟨rfl, Pr.le_rfl⟩
  · refine W_r ?_
    refine rq (out := Pr.i64 x4) qMove ?_
    refine rq (out := Pr.bool (x4 != 0)) qInt ?_
    refine rq (out := Pr.bool (x4 != 0)) qMove ?_
    rcases iteSome h with ⟨hc5, h⟩ | ⟨hc5, h⟩
    · refine rno (neF hc5) ?_
      refine rno (neF hc5) ?_
      refine rno (neF hc5) ?_
      refine rq (out := Pr.bool true) (qPickT hc5) ?_
      refine rq (out := Pr.bool true) qMove ?_
      have hc12 : true = true := rfl
      refine rno (neF hc12) ?_
      refine rno (neF hc12) ?_
      refine rno (neF hc12) ?_
      refine rno (neF hc12) ?_
      refine rno (neF hc12) ?_
      refine rq (out := Pr.bool true) (qPickT hc12) ?_
      refine rq (out := Pr.bool true) qMove ?_
      have hc16 : true = true := rfl
      refine rno (neF hc16) ?_
      refine rno (neF hc16) ?_
      refine rno (neF hc16) ?_
      refine rno (neF hc16) ?_
      refine rno (neF hc16) ?_
      refine rq (out := Pr.bool true) (qPickT hc16) ?_
      exact ⟨true, h, ⟨⟨Pr.le_rfl, Pr.le_rfl, trivial⟩, Pick.refl _⟩⟩
    · refine rqg hc5 (out := Pr.lst rApiToken x2) qMove ?_
      refine rqg hc5 (out := Pr.i64 (x2.length : Int)) (qLenL rfl Tryd.underlying23) ?_
      refine rqg hc5 (out := Pr.bool ((x2.length : Int) != 2)) qInt ?_
      refine rq (out := Pr.bool ((x2.length : Int) != 2)) (qPickF hc5) ?_
      refine rq (out := Pr.bool ((x2.length : Int) != 2)) qMove ?_
      rcases iteSome h with ⟨hc6, h⟩ | ⟨hc6, h⟩
      · refine rno (neF hc6) ?_
        refine rno (neF hc6) ?_
        refine rno (neF hc6) ?_
        refine rno (neF hc6) ?_
        refine rno (neF hc6) ?_
        refine rq (out := Pr.bool true) (qPickT hc6) ?_
        refine rq (out := Pr.bool true) qMove ?_
        have hc10 : true = true := rfl
        refine rno (neF hc10) ?_
        refine rno (neF hc10) ?_
        refine rno (neF hc10) ?_
        refine rno (neF hc10) ?_
        refine rno (neF hc10) ?_
        refine rq (out := Pr.bool true) (qPickT hc10) ?_
        exact ⟨true, h, ⟨⟨Pr.le_rfl, Pr.le_rfl, trivial⟩, Pick.refl _⟩⟩
      · refine rqg hc6 (out := Pr.lst rApiToken x2) qMove ?_
        obtain ⟨x7, hx7, h⟩ := bindSome h
        refine rqg hc6 (out := Pr.cpt rApiToken x7) (qIdxA (R := rApiToken) (l := x2) Tryd.underlying23 Tryd.sizeOf30 hx7) ?_
        refine rqg hc6 (out := Pr.cpt Rp.str x7.Lead) (qFieldC (R := rApiToken) (a := x7) fld30_3 subApiToken_Lead) ?_
        refine rqg hc6 (out := Pr.str x7.Lead) (qLoadC (R := Rp.str) (a := x7.Lead) ty9) ?_
        refine rqg hc6 (out := Pr.bool (!(x7.Lead == []))) qStr ?_
        refine rq (out := Pr.bool (!(x7.Lead == []))) (qPickF hc6) ?_
        refine rq (out := Pr.bool (!(x7.Lead == []))) qMove ?_
        rcases iteSome h with ⟨hc8, h⟩ | ⟨hc8, h⟩
        · refine rno (neF hc8) ?_
          refine rno (neF hc8) ?_
          refine rno (neF hc8) ?_
          refine rno (neF hc8) ?_
          refine rno (neF hc8) ?_
          refine rq (out := Pr.bool true) (qPickT hc8) ?_
          exact ⟨true, h, ⟨⟨Pr.le_rfl, Pr.le_rfl, trivial⟩, Pick.refl _⟩⟩
        · refine rqg hc8 (out := Pr.lst rApiToken x2) qMove ?_
          obtain ⟨x9, hx9, h⟩ := bindSome h
          refine rqg hc8 (out := Pr.cpt rApiToken x9) (qIdxA (R := rApiToken) (l := x2) Tryd.underlying23 Tryd.sizeOf30 hx9) ?_
          refine rqg hc8 (out := Pr.cpt Rp.str x9.Lead) (qFieldC (R := rApiToken) (a := x9) fld30_3 subApiToken_Lead) ?_
          refine rqg hc8 (out := Pr.str x9.Lead) (qLoadC (R := Rp.str) (a := x9.Lead) ty9) ?_
          refine rqg hc8 (out := Pr.bool (!(x9.Lead == []))) qStr ?_
          refine rq (out := Pr.bool (!(x9.Lead == []))) (qPickF hc8) ?_
          exact ⟨!(x9.Lead == []), h, ⟨⟨Pr.le_rfl, Pr.le_rfl, trivial⟩, Pick.refl _⟩⟩
theorem ref04_Kind_ok (x1 : List UInt8) (r : Int) (h : ref04_Kind x1 = some r) : FnP Tryd.prog 26 [Pr.str x1] (Pr.i64 r) := by
  refine fn_intro (n := 31) (rs := [2]) Tryd.func26 rfl Tryd.ntmps26 ⟨by decide, Tryd.results26⟩ (by decide) (fun s0 => ?_)
  unfold ref04_Kind at h
  refine W_rs ?_
  refine rq (out := Pr.i64 0) qAssign ?_
  refine W_rs ?_
  refine rq (out := Pr.str x1) qMove ?_
  obtain ⟨⟨x2, x3, x4⟩, hx2, h⟩ := bindSome h
  refine rq (out := Pr.tup [Pr.lst rApiToken x2, Pr.i64 x3, Pr.i64 x4]) (qCall (ref03_Lex_ok x1 _ hx2)) ?_
  refine rq (out := Pr.tup [Pr.lst rApiToken x2, Pr.i64 x3, Pr.i64 x4]) qMove ?_
  refine rq (out := Pr.lst rApiToken x2) qExtract ?_
  refine rq (out := Pr.i64 x3) qExtract ?_
  refine rq (out := Pr.i64 x4) qExtract ?_
  refine rq (out := Pr.lst rApiToken x2) qAssign ?_
  refine rq (out := Pr.i64 x3) qAssign ?_
  refine rq (out := Pr.i64 x4) qAssign ?_
  refine W_seq ?_
  refine W_join (fun e C => ∃ (x10 : Bool), ref04_Kind_j1 x2 x10 = some r ∧ At [(3, Pr.lst rApiToken x2), (26, Pr.bool x10)] [] e C) ?_ ?_
  · rintro e C ⟨x10, h, hat1⟩
    refine W_at hat1 ?_
    clear hat1
    unfold ref04_Kind_j1 at h
    refine W_cond (b := x10) rfl (fun hc11 => ?_) (fun hc11 => ?_)
    · replace h := iteT hc11 h
      refine W_rs ?_
      refine rq (out := Pr.i64 0) qAssign ?_
      obtain rfl := Option.some.inj h
      exact W_ret ⟨rfl, Pr.le_rfl⟩
    · replace h := iteF hc11 h
      refine W_skip ?_
      refine W_rs ?_
      refine rq (out := Pr.lst rApiToken x2) qMove ?_
      obtain ⟨x12, hx12, h⟩ := bindSome h
      refine rq (out := Pr.cpt rApiToken x12) (qIdxA (R := rApiToken) (l := x2) Tryd.underlying23 Tryd.sizeOf30 hx12) ?_
      refine rq (out := Pr.cpt (Rp.int .i64) x12.Kind) (qFieldC (R := rApiToken) (a := x12) fld30_0 subApiToken_Kind) ?_
      refine rq (out := Pr.i64 x12.Kind) (qLoadC (R := Rp.int .i64) (a := x12.Kind) ty3) ?_
      refine rq (out := Pr.i64 x12.Kind) qAssign ?_
      obtain rfl := Option.some.inj h
      exact W_ret ⟨rfl, Pr.le_rfl⟩
  · refine W_r ?_
    refine rq (out := Pr.i64 x4) qMove ?_
    refine rq (out := Pr.bool (x4 != 0)) qInt ?_
    refine rq (out := Pr.bool (x4 != 0)) qMove ?_
    rcases iteSome h with ⟨hc5, h⟩ | ⟨hc5, h⟩
    · refine rno (neF hc5) ?_
      refine rno (neF hc5) ?_
      refine rno (neF hc5) ?_
      refine rq (out := Pr.bool true) (qPickT hc5) ?_
      refine rq (out := Pr.bool true) qMove ?_
      have hc8 : true = true := rfl
      refine rno (neF hc8) ?_
      refine rno (neF hc8) ?_
      refine rno (neF hc8) ?_
      refine rno (neF hc8) ?_
      refine rno (neF hc8) ?_
      refine rno (neF hc8) ?_
      refine rq (out := Pr.bool true) (qPickT hc8) ?_
      exact ⟨true, h, ⟨⟨Pr.le_rfl, Pr.le_rfl, trivial⟩, Pick.refl _⟩⟩
    · refine rqg hc5 (out := Pr.lst rApiToken x2) qMove ?_
      refine rqg hc5 (out := Pr.i64 (x2.length : Int)) (qLenL rfl Tryd.underlying23) ?_
      refine rqg hc5 (out := Pr.bool ((x2.length : Int) != 2)) qInt ?_
      refine rq (out := Pr.bool ((x2.length : Int) != 2)) (qPickF hc5) ?_
      refine rq (out := Pr.bool ((x2.length : Int) != 2)) qMove ?_
      rcases iteSome h with ⟨hc6, h⟩ | ⟨hc6, h⟩
      · refine rno (neF hc6) ?_
        refine rno (neF hc6) ?_
        refine rno (neF hc6) ?_
        refine rno (neF hc6) ?_
        refine rno (neF hc6) ?_
        refine rno (neF hc6) ?_
        refine rq (out := Pr.bool true) (qPickT hc6) ?_
        exact ⟨true, h, ⟨⟨Pr.le_rfl, Pr.le_rfl, trivial⟩, Pick.refl _⟩⟩
      · refine rqg hc6 (out := Pr.lst rApiToken x2) qMove ?_
        obtain ⟨x7, hx7, h⟩ := bindSome h
        refine rqg hc6 (out := Pr.cpt rApiToken x7) (qIdxA (R := rApiToken) (l := x2) Tryd.underlying23 Tryd.sizeOf30 hx7) ?_
        refine rqg hc6 (out := Pr.cpt Rp.str x7.Text) (qFieldC (R := rApiToken) (a := x7) fld30_1 subApiToken_Text) ?_
        refine rqg hc6 (out := Pr.str x7.Text) (qLoadC (R := Rp.str) (a := x7.Text) ty9) ?_
        refine rqg hc6 (out := Pr.str x1) qMove ?_
        refine rqg hc6 (out := Pr.bool (!(x7.Text == x1))) qStr ?_
        refine rq (out := Pr.bool (!(x7.Text == x1))) (qPickF hc6) ?_
        exact ⟨!(x7.Text == x1), h, ⟨⟨Pr.le_rfl, Pr.le_rfl, trivial⟩, Pick.refl _⟩⟩
theorem ref01_Same_ok (x1 : List (List UInt8)) (x2 : List (List UInt8)) (r : Bool) (h : ref01_Same x1 x2 = some r) : FnP Tryd.prog 31 [Pr.lst Rp.str x1, Pr.lst Rp.str x2] (Pr.bool r) := by
  refine fn_intro (n := 26) (rs := [4]) Tryd.func31 rfl Tryd.ntmps31 ⟨by decide, Tryd.results31⟩ (by decide) (fun s0 => ?_)
  unfold ref01_Same at h
  refine W_rs ?_
  refine rq (out := Pr.bool false) qAssign ?_
  refine W_seq ?_
  refine W_rs ?_
  refine rq (out := Pr.lst Rp.str x1) qMove ?_
  refine rq (out := Pr.i64 (x1.length : Int)) (qLenL rfl Tryd.underlying35) ?_
  refine rq (out := Pr.lst Rp.str x2) qMove ?_
  refine rq (out := Pr.i64 (x2.length : Int)) (qLenL rfl Tryd.underlying35) ?_
  refine rq (out := Pr.bool ((x1.length : Int) != (x2.length : Int))) qInt ?_
  refine W_cond (b := (x1.length : Int) != (x2.length : Int)) rfl (fun hc3 => ?_) (fun hc3 => ?_)
  · replace h := iteT hc3 h
    refine W_rs ?_
    refine rq (out := Pr.bool false) qAssign ?_
    obtain rfl := Option.some.inj h
    exact W_ret ⟨rfl, Pr.le_rfl⟩
  · replace h := iteF hc3 h
    refine W_skip ?_
    refine W_seq ?_
    refine W_rs ?_
    refine rq (out := Pr.i64 0) qAssign ?_
    refine W_block ?_
    obtain ⟨z2l, hz2, h⟩ := bindSome h
    obtain ⟨n2, hN2⟩ := iter_some hz2
    clear hz2
    refine W_after 0 (fun e C => ref01_Same_k1 = some r ∧ At [] [] e C) ?_ ?_
    · rintro e C ⟨h, hat1⟩
      refine W_at hat1 ?_
      clear hat1
      unfold ref01_Same_k1 at h
      refine W_rs ?_
      refine rq (out := Pr.bool true) qAssign ?_
      obtain rfl := Option.some.inj h
      exact W_ret ⟨rfl, Pr.le_rfl⟩
    · refine W_loop (fun m e C => ∃ (x4 : Int), IterN (fun s => ref01_Same_l2 x1 x2 s) m x4 = some z2l ∧ At [(0, Pr.lst Rp.str x1), (1, Pr.lst Rp.str x2), (5, Pr.i64 x4)] [] e C) n2 ⟨0, hN2, ⟨⟨Pr.le_rfl, Pr.le_rfl, Pr.le_rfl, trivial⟩, Pick.refl _⟩⟩ ?_
      clear hN2
      rintro m e C ⟨x4, hN2, hatl2⟩
      refine W_at hatl2 ?_
      clear hatl2
      obtain ⟨m2, w2l, rfl, h2l, hn2, ho2⟩ := iterN_some hN2
      clear hN2
      replace h2l : ref01_Same_l2 x1 x2 x4 = some w2l := h2l
      unfold ref01_Same_l2 at h2l
      refine W_seq ?_
      refine W_rs ?_
      refine rq (out := Pr.i64 x4) qMove ?_
      refine rq (out := Pr.lst Rp.str x1) qMove ?_
      refine rq (out := Pr.i64 (x1.length : Int)) (qLenL rfl Tryd.underlying35) ?_
      refine rq (out := Pr.bool (decide (x4 < (x1.length : Int)))) qInt ?_
      refine W_cond (b := decide (x4 < (x1.length : Int))) rfl (fun hc6 => ?_) (fun hc6 => ?_)
      · replace h2l := iteT hc6 h2l
        refine W_skip ?_
        refine W_seq ?_
        refine W_block ?_
        refine W_join (fun e C => ∃ (x7 : List UInt8), ∃ (x8 : List UInt8), ref01_Same_j3 x4 x7 x8 = some w2l ∧ At [(0, Pr.lst Rp.str x1), (1, Pr.lst Rp.str x2), (5, Pr.i64 x4), (25, Pr.bool (!(x7 == x8)))] [] e C) ?_ ?_
        · rintro e C ⟨x7, x8, h2l, hat3⟩
          refine W_at hat3 ?_
          clear hat3
          unfold ref01_Same_j3 at h2l
          refine W_cond (b := !(x7 == x8)) rfl (fun hc9 => ?_) (fun hc9 => ?_)
          · replace h2l := iteT hc9 h2l
            refine W_rs ?_
            refine rq (out := Pr.bool false) qAssign ?_
            obtain rfl := ho2 _ (Option.some.inj h2l).symm
            replace h : some false = some r := h
            obtain rfl := Option.some.inj h
            exact W_ret ⟨rfl, Pr.le_rfl⟩
          · replace h2l := iteF hc9 h2l
            refine W_skip ?_
            refine W_r ?_
            refine rq (out := Pr.i64 x4) qMove ?_
            refine rq (out := Pr.i64 (w64 (x4 + 1))) qInt ?_
            refine rq (out := Pr.i64 (w64 (x4 + 1))) qAssign ?_
            exact ⟨m2, Nat.lt_succ_self _, w64 (x4 + 1), hn2 _ (Option.some.inj h2l).symm, ⟨⟨Pr.le_rfl, Pr.le_rfl, Pr.le_rfl, trivial⟩, Pick.refl _⟩⟩
        · refine W_draw 9 hmx (by kernel_rfl) (by kernel_rfl) ?_
          refine qq (out := Pr.lst Rp.str x1) qMove ?_
          refine qq (out := Pr.i64 x4) qMove ?_
          obtain ⟨x7, hx7, h2l⟩ := bindSome h2l
          refine qq (out := Pr.cpt Rp.str x7) (qIdxA (R := Rp.str) (l := x1) Tryd.underlying35 Tryd.sizeOf9 hx7) ?_
          refine qq (out := Pr.str x7) (qLoadC (R := Rp.str) (a := x7) ty9) ?_
          refine qq (out := Pr.lst Rp.str x2) qMove ?_
          refine qq (out := Pr.i64 x4) qMove ?_
          obtain ⟨x8, hx8, h2l⟩ := bindSome h2l
          refine qq (out := Pr.cpt Rp.str x8) (qIdxA (R := Rp.str) (l := x2) Tryd.underlying35 Tryd.sizeOf9 hx8) ?_
          refine qq (out := Pr.str x8) (qLoadC (R := Rp.str) (a := x8) ty9) ?_
          refine qq (out := Pr.bool (!(x7 == x8))) qStr ?_
          exact ⟨x7, x8, h2l, ⟨⟨Pr.le_rfl, Pr.le_rfl, Pr.le_rfl, Pr.le_rfl, trivial⟩, Pick.refl _⟩⟩
      · replace h2l := iteF hc6 h2l
        refine W_exit ?_
        obtain rfl := ho2 _ (Option.some.inj h2l).symm
        exact ⟨h, ⟨trivial, Pick.refl _⟩⟩
theorem token_Gap_ok (x1 : List UInt8) (x2 : List UInt8) (r : Bool) (h : token_Gap x1 x2 = some r) : FnP Tryd.prog 27 [Pr.str x1, Pr.str x2] (Pr.bool r) := by
  refine fn_intro (n := 51) (rs := [4]) Tryd.func27 rfl Tryd.ntmps27 ⟨by decide, Tryd.results27⟩ (by decide) (fun s0 => ?_)
  unfold token_Gap at h
  refine W_rs ?_
  refine rq (out := Pr.bool false) qAssign ?_
  refine W_rs ?_
  refine rq (out := Pr.str x1) qMove ?_
  obtain ⟨x3, hx3, h⟩ := bindSome h
  refine rq (out := Pr.i64 x3) (qCall (token_Kind_ok x1 _ hx3)) ?_
  refine rq (out := Pr.str x2) qMove ?_
  obtain ⟨x4, hx4, h⟩ := bindSome h
  refine rq (out := Pr.i64 x4) (qCall (token_Kind_ok x2 _ hx4)) ?_
  refine rq (out := Pr.i64 x3) qAssign ?_
  refine rq (out := Pr.i64 x4) qAssign ?_
  refine W_seq ?_
  refine W_block ?_
  refine W_join (fun e C => ∃ (x6 : Bool), token_Gap_j5 x3 x4 x1 x2 x6 = some r ∧ At [(0, Pr.str x1), (1, Pr.str x2), (5, Pr.i64 x3), (6, Pr.i64 x4), (12, Pr.bool x6)] [] e C) ?_ ?_
  · rintro e C ⟨x6, h, hat5⟩
    refine W_at hat5 ?_
    clear hat5
    unfold token_Gap_j5 at h
    refine W_cond (b := x6) rfl (fun hc7 => ?_) (fun hc7 => ?_)
    · replace h := iteT hc7 h
      refine W_rs ?_
      refine rq (out := Pr.bool false) qAssign ?_
      obtain rfl := Option.some.inj h
      exact W_ret ⟨rfl, Pr.le_rfl⟩
    · replace h := iteF hc7 h
      refine W_join (fun e C => ∃ (x9 : Bool), token_Gap_j4 x4 x3 x1 x2 x9 = some r ∧ At [(0, Pr.str x1), (1, Pr.str x2), (5, Pr.i64 x3), (6, Pr.i64 x4), (19, Pr.bool x9)] [] e C) ?_ ?_
      · rintro e C ⟨x9, h, hat4⟩
        refine W_at hat4 ?_
        clear hat4
        unfold token_Gap_j4 at h
        refine W_cond (b := x9) rfl (fun hc10 => ?_) (fun hc10 => ?_)
        · replace h := iteT hc10 h
          refine W_rs ?_
          refine rq (out := Pr.i64 x4) qMove ?_
          refine rq (out := Pr.bool (x4 != 4)) qInt ?_
          refine rq (out := Pr.bool (x4 != 4)) qAssign ?_
          obtain rfl := Option.some.inj h
          exact W_ret ⟨rfl, Pr.le_rfl⟩
        · replace h := iteF hc10 h
          refine W_rs ?_
          refine rq (out := Pr.i64 x3) qMove ?_
          refine rq (out := Pr.bool (x3 == 2)) qInt ?_
          refine rq (out := Pr.bool (x3 == 2)) qAssign ?_
          refine W_cond (b := x3 == 2) rfl (fun hc11 => ?_) (fun hc11 => ?_)
          · replace h := iteT hc11 h
            refine W_rs ?_
            refine rq (out := Pr.i64 x4) qMove ?_
            refine rq (out := Pr.bool (x4 == 2)) qInt ?_
            refine rq (out := Pr.bool (x4 == 2)) qAssign ?_
            obtain rfl := Option.some.inj h
            exact W_ret ⟨rfl, Pr.le_rfl⟩
          · replace h := iteF hc11 h
            refine W_skip ?_
            refine W_seq ?_
            refine W_rs ?_
            refine rq (out := Pr.i64 0) qMove ?_
            refine W_block ?_
            obtain ⟨z2l, hz2, h⟩ := bindSome h
            obtain ⟨n2, hN2⟩ := iter_some hz2
            clear hz2
            refine W_after 1 (fun e C => token_Gap_k1 = some r ∧ At [] [] e C) ?_ ?_
            · rintro e C ⟨h, hat1⟩
              refine W_at hat1 ?_
              clear hat1
              unfold token_Gap_k1 at h
              refine W_rs ?_
              refine rq (out := Pr.bool false) qAssign ?_
              obtain rfl := Option.some.inj h
              exact W_ret ⟨rfl, Pr.le_rfl⟩
            · refine W_loop (fun m e C => ∃ (x12 : Int), IterN (fun s => token_Gap_l2 x1 x2 s) m x12 = some z2l ∧ At [(0, Pr.str x1), (1, Pr.str x2), (33, Pr.i64 x12)] [] e C) n2 ⟨0, hN2, ⟨⟨Pr.le_rfl, Pr.le_rfl, Pr.le_rfl, trivial⟩, Pick.refl _⟩⟩ ?_
              clear hN2
              rintro m e C ⟨x12, hN2, hatl2⟩
              refine W_at hatl2 ?_
              clear hatl2
              obtain ⟨m2, w2l, rfl, h2l, hn2, ho2⟩ := iterN_some hN2
              clear hN2
              replace h2l : token_Gap_l2 x1 x2 x12 = some w2l := h2l
              unfold token_Gap_l2 at h2l
              refine W_rs ?_
              refine rq (out := Pr.bool (decide (x12 < 6))) qInt ?_
              refine W_seq ?_
              refine W_cond (b := decide (x12 < 6)) rfl (fun hc14 => ?_) (fun hc14 => ?_)
              · replace h2l := iteT hc14 h2l
                refine W_skip ?_
                refine W_seq ?_
                refine W_block ?_
                refine W_rs ?_
                refine rq (out := Pr.i64 x12) qMove ?_
                refine rq (out := Pr.i64 x12) qAssign ?_
                refine W_join (fun e C => ∃ (x19 : Bool), token_Gap_j3 x12 x19 = some w2l ∧ At [(0, Pr.str x1), (1, Pr.str x2), (33, Pr.i64 x12), (49, Pr.bool x19)] [] e C) ?_ ?_
                · rintro e C ⟨x19, h2l, hat3⟩
                  refine W_at hat3 ?_
                  clear hat3
                  unfold token_Gap_j3 at h2l
                  refine W_cond (b := x19) rfl (fun hc20 => ?_) (fun hc20 => ?_)
                  · replace h2l := iteT hc20 h2l
                    refine W_rs ?_
                    refine rq (out := Pr.bool true) qAssign ?_
                    obtain rfl := ho2 _ (Option.some.inj h2l).symm
                    replace h : some true = some r := h
                    obtain rfl := Option.some.inj h
                    exact W_ret ⟨rfl, Pr.le_rfl⟩
                  · replace h2l := iteF hc20 h2l
                    refine W_skip ?_
                    refine W_r ?_
                    refine rq (out := Pr.i64 (w64 (x12 + 1))) qInt ?_
                    refine rq (out := Pr.i64 (w64 (x12 + 1))) qMove ?_
                    exact ⟨m2, Nat.lt_succ_self _, w64 (x12 + 1), hn2 _ (Option.some.inj h2l).symm, ⟨⟨Pr.le_rfl, Pr.le_rfl, Pr.le_rfl, trivial⟩, Pick.refl _⟩⟩
                · refine W_r ?_
                  refine rq (out := Pr.i64 x12) qMove ?_
                  obtain ⟨x15, hx15, h2l⟩ := bindSome h2l
                  refine rq (out := Pr.cpt rTokenClash x15) (qGIdx (R := rTokenClash) (L := lclashes) gClashes Tryd.underlying74 Tryd.sizeOf73 rfl hx15) ?_
                  refine rq (out := Pr.cpt Rp.str x15.mark) (qFieldC (R := rTokenClash) (a := x15) fld73_0 subTokenClash_mark) ?_
                  refine rq (out := Pr.str x15.mark) (qLoadC (R := Rp.str) (a := x15.mark) ty9) ?_
                  refine rq (out := Pr.str x1) qMove ?_
                  refine rq (out := Pr.bool (x15.mark == x1)) qStr ?_
                  refine rq (out := Pr.bool (x15.mark == x1)) qMove ?_
                  rcases iteSome h2l with ⟨hc16, h2l⟩ | ⟨hc16, h2l⟩
                  · refine rqg hc16 (out := Pr.str x2) qMove ?_
                    refine rqg hc16 (out := Pr.i64 x12) qMove ?_
                    obtain ⟨x17, hx17, h2l⟩ := bindSome h2l
                    refine rqg hc16 (out := Pr.cpt rTokenClash x17) (qGIdx (R := rTokenClash) (L := lclashes) gClashes Tryd.underlying74 Tryd.sizeOf73 rfl hx17) ?_
                    refine rqg hc16 (out := Pr.cpt Rp.str x17.behind) (qFieldC (R := rTokenClash) (a := x17) fld73_1 subTokenClash_behind) ?_
                    refine rqg hc16 (out := Pr.str x17.behind) (qLoadC (R := Rp.str) (a := x17.behind) ty9) ?_
                    obtain ⟨x18, hx18, h2l⟩ := bindSome h2l
                    refine rqg hc16 (out := Pr.bool x18) (qCall (strings_HasPrefix_ok x2 x17.behind _ hx18)) ?_
                    refine rq (out := Pr.bool x18) (qPickT hc16) ?_
                    exact ⟨x18, h2l, ⟨⟨Pr.le_rfl, Pr.le_rfl, Pr.le_rfl, Pr.le_rfl, trivial⟩, Pick.refl _⟩⟩
                  · refine rno (neT hc16) ?_
                    refine rno (neT hc16) ?_
                    refine rno (neT hc16) ?_
                    refine rno (neT hc16) ?_
                    refine rno (neT hc16) ?_
                    refine rno (neT hc16) ?_
                    refine rq (out := Pr.bool false) (qPickF hc16) ?_
                    exact ⟨false, h2l, ⟨⟨Pr.le_rfl, Pr.le_rfl, Pr.le_rfl, Pr.le_rfl, trivial⟩, Pick.refl _⟩⟩
              · replace h2l := iteF hc14 h2l
                refine W_exit ?_
                obtain rfl := ho2 _ (Option.some.inj h2l).symm
                exact ⟨h, ⟨trivial, Pick.refl _⟩⟩
      · refine W_r ?_
        refine rq (out := Pr.i64 x3) qMove ?_
        refine rq (out := Pr.bool (x3 == 1)) qInt ?_
        refine rq (out := Pr.bool (x3 == 1)) qMove ?_
        rcases iteSome h with ⟨hc8, h⟩ | ⟨hc8, h⟩
        · refine rno (neF hc8) ?_
          refine rno (neF hc8) ?_
          refine rq (out := Pr.bool true) (qPickT hc8) ?_
          refine rq (out := Pr.bool true) qAssign ?_
          exact ⟨true, h, ⟨⟨Pr.le_rfl, Pr.le_rfl, Pr.le_rfl, Pr.le_rfl, Pr.le_rfl, trivial⟩, Pick.refl _⟩⟩
        · refine rqg hc8 (out := Pr.i64 x3) qMove ?_
          refine rqg hc8 (out := Pr.bool (x3 == 3)) qInt ?_
          refine rq (out := Pr.bool (x3 == 3)) (qPickF hc8) ?_
          refine rq (out := Pr.bool (x3 == 3)) qAssign ?_
          exact ⟨x3 == 3, h, ⟨⟨Pr.le_rfl, Pr.le_rfl, Pr.le_rfl, Pr.le_rfl, Pr.le_rfl, trivial⟩, Pick.refl _⟩⟩
  · refine W_r ?_
    refine rq (out := Pr.i64 x3) qMove ?_
    refine rq (out := Pr.bool (x3 == 0)) qInt ?_
    refine rq (out := Pr.bool (x3 == 0)) qMove ?_
    rcases iteSome h with ⟨hc5, h⟩ | ⟨hc5, h⟩
    · refine rno (neF hc5) ?_
      refine rno (neF hc5) ?_
      refine rq (out := Pr.bool true) (qPickT hc5) ?_
      refine rq (out := Pr.bool true) qAssign ?_
      exact ⟨true, h, ⟨⟨Pr.le_rfl, Pr.le_rfl, Pr.le_rfl, Pr.le_rfl, Pr.le_rfl, trivial⟩, Pick.refl _⟩⟩
    · refine rqg hc5 (out := Pr.i64 x4) qMove ?_
      refine rqg hc5 (out := Pr.bool (x4 == 0)) qInt ?_
      refine rq (out := Pr.bool (x4 == 0)) (qPickF hc5) ?_
      refine rq (out := Pr.bool (x4 == 0)) qAssign ?_
      exact ⟨x4 == 0, h, ⟨⟨Pr.le_rfl, Pr.le_rfl, Pr.le_rfl, Pr.le_rfl, Pr.le_rfl, trivial⟩, Pick.refl _⟩⟩
theorem ref04_Gap_ok (x1 : List UInt8) (x2 : List UInt8) (r : Bool) (h : ref04_Gap x1 x2 = some r) : FnP Tryd.prog 28 [Pr.str x1, Pr.str x2] (Pr.bool r) := by
  refine fn_intro (n := 54) (rs := [4]) Tryd.func28 rfl Tryd.ntmps28 ⟨by decide, Tryd.results28⟩ (by decide) (fun s0 => ?_)
  unfold ref04_Gap at h
  refine W_rs ?_
  refine rq (out := Pr.bool false) qAssign ?_
  refine W_seq ?_
  refine W_join (fun e C => ∃ (x6 : Bool), ref04_Gap_j2 x1 x2 x6 = some r ∧ At [(0, Pr.str x1), (1, Pr.str x2), (15, Pr.bool x6)] [] e C) ?_ ?_
  · rintro e C ⟨x6, h, hat2⟩
    refine W_at hat2 ?_
    clear hat2
    unfold ref04_Gap_j2 at h
    refine W_cond (b := x6) rfl (fun hc7 => ?_) (fun hc7 => ?_)
    · replace h := iteT hc7 h
      refine W_rs ?_
      refine rq (out := Pr.bool false) qAssign ?_
      obtain rfl := Option.some.inj h
      exact W_ret ⟨rfl, Pr.le_rfl⟩
    · replace h := iteF hc7 h
      refine W_skip ?_
      refine W_rs ?_
      refine rq (out := Pr.str x1) qMove ?_
      refine rq (out := Pr.str x2) qMove ?_
      obtain ⟨x8, hx8, h⟩ := bindSome h
      refine rq (out := Pr.str x8) (qCat' hx8) ?_
      obtain ⟨⟨x9, x10, x11⟩, hx9, h⟩ := bindSome h
      refine rq (out := Pr.tup [Pr.lst rApiToken x9, Pr.i64 x10, Pr.i64 x11]) (qCall (ref03_Lex_ok x8 _ hx9)) ?_
      refine rq (out := Pr.tup [Pr.lst rApiToken x9, Pr.i64 x10, Pr.i64 x11]) qMove ?_
      refine rq (out := Pr.lst rApiToken x9) qExtract ?_
      refine rq (out := Pr.i64 x10) qExtract ?_
      refine rq (out := Pr.i64 x11) qExtract ?_
      refine rq (out := Pr.lst rApiToken x9) qAssign ?_
      refine rq (out := Pr.i64 x10) qAssign ?_
      refine rq (out := Pr.i64 x11) qAssign ?_
      refine W_join (fun e C => ∃ (x41 : Bool), ref04_Gap_j1 x41 = some r ∧ At [(4, Pr.bool x41)] [] e C) ?_ ?_
      · rintro e C ⟨x41, h, hat1⟩
        refine W_at hat1 ?_
        clear hat1
        unfold ref04_Gap_j1 at h
        obtain rfl := Option.some.inj h
        exact W_ret ⟨rfl, Pr.le_rfl⟩
      · refine W_r ?_
        refine rq (out := Pr.i64 x11) qMove ?_
        refine rq (out := Pr.bool (x11 != 0)) qInt ?_
        refine rq (out := Pr.bool (x11 != 0)) qMove ?_
        rcases iteSome h with ⟨hc12, h⟩ | ⟨hc12, h⟩
        · refine rno (neF hc12) ?_
          refine rno (neF hc12) ?_
          refine rno (neF hc12) ?_
          refine rq (out := Pr.bool true) (qPickT hc12) ?_
          refine rq (out := Pr.bool true) qMove ?_
          have hc27 : true = true := rfl
          refine rno (neF hc27) ?_
          refine rno (neF hc27) ?_
          refine rno (neF hc27) ?_
          refine rno (neF hc27) ?_
          refine rno (neF hc27) ?_
          refine rno (neF hc27) ?_
          refine rq (out := Pr.bool true) (qPickT hc27) ?_
          refine rq (out := Pr.bool true) qMove ?_
          have hc35 : true = true := rfl
          refine rno (neF hc35) ?_
          refine rno (neF hc35) ?_
          refine rno (neF hc35) ?_
          refine rno (neF hc35) ?_
          refine rno (neF hc35) ?_
          refine rno (neF hc35) ?_
          refine rq (out := Pr.bool true) (qPickT hc35) ?_
          refine rq (out := Pr.bool true) qMove ?_
          have hc39 : true = true := rfl
          refine rno (neF hc39) ?_
          refine rno (neF hc39) ?_
          refine rno (neF hc39) ?_
          refine rno (neF hc39) ?_
          refine rno (neF hc39) ?_
          refine rq (out := Pr.bool true) (qPickT hc39) ?_
          refine rq (out := Pr.bool true) qAssign ?_
          exact ⟨true, h, ⟨⟨Pr.le_rfl, trivial⟩, Pick.refl _⟩⟩
        · refine rqg hc12 (out := Pr.lst rApiToken x9) qMove ?_
          refine rqg hc12 (out := Pr.i64 (x9.length : Int)) (qLenL rfl Tryd.underlying23) ?_
          refine rqg hc12 (out := Pr.bool ((x9.length : Int) != 3)) qInt ?_
          refine rq (out := Pr.bool ((x9.length : Int) != 3)) (qPickF hc12) ?_
          refine rq (out := Pr.bool ((x9.length : Int) != 3)) qMove ?_
          rcases iteSome h with ⟨hc13, h⟩ | ⟨hc13, h⟩
          · refine rno (neF hc13) ?_
            refine rno (neF hc13) ?_
            refine rno (neF hc13) ?_
            refine rno (neF hc13) ?_
            refine rno (neF hc13) ?_
            refine rno (neF hc13) ?_
            refine rq (out := Pr.bool true) (qPickT hc13) ?_
            refine rq (out := Pr.bool true) qMove ?_
            have hc21 : true = true := rfl
            refine rno (neF hc21) ?_
            refine rno (neF hc21) ?_
            refine rno (neF hc21) ?_
            refine rno (neF hc21) ?_
            refine rno (neF hc21) ?_
            refine rno (neF hc21) ?_
            refine rq (out := Pr.bool true) (qPickT hc21) ?_
            refine rq (out := Pr.bool true) qMove ?_
            have hc25 : true = true := rfl
            refine rno (neF hc25) ?_
            refine rno (neF hc25) ?_
            refine rno (neF hc25) ?_
            refine rno (neF hc25) ?_
            refine rno (neF hc25) ?_
            refine rq (out := Pr.bool true) (qPickT hc25) ?_
            refine rq (out := Pr.bool true) qAssign ?_
            exact ⟨true, h, ⟨⟨Pr.le_rfl, trivial⟩, Pick.refl _⟩⟩
          · refine rqg hc13 (out := Pr.lst rApiToken x9) qMove ?_
            obtain ⟨x14, hx14, h⟩ := bindSome h
            refine rqg hc13 (out := Pr.cpt rApiToken x14) (qIdxA (R := rApiToken) (l := x9) Tryd.underlying23 Tryd.sizeOf30 hx14) ?_
            refine rqg hc13 (out := Pr.cpt Rp.str x14.Text) (qFieldC (R := rApiToken) (a := x14) fld30_1 subApiToken_Text) ?_
            refine rqg hc13 (out := Pr.str x14.Text) (qLoadC (R := Rp.str) (a := x14.Text) ty9) ?_
            refine rqg hc13 (out := Pr.str x1) qMove ?_
            refine rqg hc13 (out := Pr.bool (!(x14.Text == x1))) qStr ?_
            refine rq (out := Pr.bool (!(x14.Text == x1))) (qPickF hc13) ?_
            refine rq (out := Pr.bool (!(x14.Text == x1))) qMove ?_
            rcases iteSome h with ⟨hc15, h⟩ | ⟨hc15, h⟩
            · refine rno (neF hc15) ?_
              refine rno (neF hc15) ?_
              refine rno (neF hc15) ?_
              refine rno (neF hc15) ?_
              refine rno (neF hc15) ?_
              refine rno (neF hc15) ?_
              refine rq (out := Pr.bool true) (qPickT hc15) ?_
              refine rq (out := Pr.bool true) qMove ?_
              have hc19 : true = true := rfl
              refine rno (neF hc19) ?_
              refine rno (neF hc19) ?_
              refine rno (neF hc19) ?_
              refine rno (neF hc19) ?_
              refine rno (neF hc19) ?_
              refine rq (out := Pr.bool true) (qPickT hc19) ?_
              refine rq (out := Pr.bool true) qAssign ?_
              exact ⟨true, h, ⟨⟨Pr.le_rfl, trivial⟩, Pick.refl _⟩⟩
            · refine rqg hc15 (out := Pr.lst rApiToken x9) qMove ?_
              obtain ⟨x16, hx16, h⟩ := bindSome h
              refine rqg hc15 (out := Pr.cpt rApiToken x16) (qIdxA (R := rApiToken) (l := x9) Tryd.underlying23 Tryd.sizeOf30 hx16) ?_
              refine rqg hc15 (out := Pr.cpt Rp.str x16.Text) (qFieldC (R := rApiToken) (a := x16) fld30_1 subApiToken_Text) ?_
              refine rqg hc15 (out := Pr.str x16.Text) (qLoadC (R := Rp.str) (a := x16.Text) ty9) ?_
              refine rqg hc15 (out := Pr.str x2) qMove ?_
              refine rqg hc15 (out := Pr.bool (!(x16.Text == x2))) qStr ?_
              refine rq (out := Pr.bool (!(x16.Text == x2))) (qPickF hc15) ?_
              refine rq (out := Pr.bool (!(x16.Text == x2))) qMove ?_
              rcases iteSome h with ⟨hc17, h⟩ | ⟨hc17, h⟩
              · refine rno (neF hc17) ?_
                refine rno (neF hc17) ?_
                refine rno (neF hc17) ?_
                refine rno (neF hc17) ?_
                refine rno (neF hc17) ?_
                refine rq (out := Pr.bool true) (qPickT hc17) ?_
                refine rq (out := Pr.bool true) qAssign ?_
                exact ⟨true, h, ⟨⟨Pr.le_rfl, trivial⟩, Pick.refl _⟩⟩
              · refine rqg hc17 (out := Pr.lst rApiToken x9) qMove ?_
                obtain ⟨x18, hx18, h⟩ := bindSome h
                refine rqg hc17 (out := Pr.cpt rApiToken x18) (qIdxA (R := rApiToken) (l := x9) Tryd.underlying23 Tryd.sizeOf30 hx18) ?_
                refine rqg hc17 (out := Pr.cpt Rp.str x18.Lead) (qFieldC (R := rApiToken) (a := x18) fld30_3 subApiToken_Lead) ?_
                refine rqg hc17 (out := Pr.str x18.Lead) (qLoadC (R := Rp.str) (a := x18.Lead) ty9) ?_
                refine rqg hc17 (out := Pr.bool (!(x18.Lead == []))) qStr ?_
                refine rq (out := Pr.bool (!(x18.Lead == []))) (qPickF hc17) ?_
                refine rq (out := Pr.bool (!(x18.Lead == []))) qAssign ?_
                exact ⟨!(x18.Lead == []), h, ⟨⟨Pr.le_rfl, trivial⟩, Pick.refl _⟩⟩
  · refine W_r ?_
    refine rq (out := Pr.str x1) qMove ?_
    obtain ⟨x3, hx3, h⟩ := bindSome h
    refine rq (out := Pr.i64 x3) (qCall (ref04_Kind_ok x1 _ hx3)) ?_
    refine rq (out := Pr.bool (x3 == 0)) qInt ?_
    refine rq (out := Pr.bool (x3 == 0)) qMove ?_
    rcases iteSome h with ⟨hc4, h⟩ | ⟨hc4, h⟩
    · refine rno (neF hc4) ?_
      refine rno (neF hc4) ?_
      refine rno (neF hc4) ?_
      refine rq (out := Pr.bool true) (qPickT hc4) ?_
      exact ⟨true, h, ⟨⟨Pr.le_rfl, Pr.le_rfl, Pr.le_rfl, trivial⟩, Pick.refl _⟩⟩
    · refine rqg hc4 (out := Pr.str x2) qMove ?_
      obtain ⟨x5, hx5, h⟩ := bindSome h
      refine rqg hc4 (out := Pr.i64 x5) (qCall (ref04_Kind_ok x2 _ hx5)) ?_
      refine rqg hc4 (out := Pr.bool (x5 == 0)) qInt ?_
      refine rq (out := Pr.bool (x5 == 0)) (qPickF hc4) ?_
      exact ⟨x5 == 0, h, ⟨⟨Pr.le_rfl, Pr.le_rfl, Pr.le_rfl, trivial⟩, Pick.refl _⟩⟩
theorem token_Spell_ok (x1 : List (List UInt8)) (r : (List UInt8) × Bool) (h : token_Spell x1 = some r) : FnP Tryd.prog 30 [Pr.lst Rp.str x1] (Pr.tup [Pr.str r.1, Pr.bool r.2]) := by
  refine fn_intro (n := 39) (rs := [2, 3]) Tryd.func30 rfl Tryd.ntmps30 ⟨by decide, Tryd.results30⟩ (by decide) (fun s0 => ?_)
  unfold token_Spell at h
  refine W_rs ?_
  refine rq (out := Pr.str []) qAssign ?_
  refine rq (out := Pr.bool false) qAssign ?_
  refine W_rs ?_
  refine rAllocB (e := 5) Tryd.zeroValue66 (fun b2 => ?_)
  refine W_seq ?_
  refine W_rs ?_
  refine rq (out := Pr.lst Rp.str x1) qMove ?_
  refine rq (out := Pr.i64 (x1.length : Int)) (qLenL rfl Tryd.underlying35) ?_
  refine rq (out := Pr.i64 0) qMove ?_
  refine W_block ?_
  obtain ⟨z2l, hz2, h⟩ := bindSome h
  obtain ⟨n2, hN2⟩ := iter_some hz2
  clear hz2
  refine W_after 0 (fun e C => ∃ (x5 : List UInt8), ∃ (v4 : Value), token_Spell_k1 x5 = some r ∧ At [(4, Pr.pt b2 0)] [Own.bld 66 b2 v4, Own.vec v4 Rp.byte x5 5] e C) ?_ ?_
  · rintro e C ⟨x5, v4, h, hat1⟩
    refine W_at hat1 ?_
    clear hat1
    unfold token_Spell_k1 at h
    refine W_rs ?_
    refine rCallC [0, 1] (Builder_String_ok b2 v4 x5) (fun q C' hq => ?_)
    obtain ⟨rfl, rfl⟩ := hq
    refine rq (out := Pr.str x5) qAssign ?_
    refine rq (out := Pr.bool true) qAssign ?_
    obtain rfl := Option.some.inj h
    exact W_ret ⟨rfl, Pr.le_rfl⟩
  · refine W_loop (fun m e C => ∃ (x3 : Int), ∃ (x5 : List UInt8), ∃ (v4 : Value), IterN (fun s => token_Spell_l2 x1 s.1 s.2) m (x3, x5) = some z2l ∧ At [(0, Pr.lst Rp.str x1), (4, Pr.pt b2 0), (7, Pr.i64 (x1.length : Int)), (8, Pr.i64 x3)] [Own.bld 66 b2 v4, Own.vec v4 Rp.byte x5 5] e C) n2 ⟨0, [], (.slice none 0 0), hN2, ⟨⟨Pr.le_rfl, Pr.le_rfl, Pr.le_rfl, Pr.le_rfl, trivial⟩, Pick.refl _⟩⟩ ?_
    clear hN2
    rintro m e C ⟨x3, x5, v4, hN2, hatl2⟩
    refine W_at hatl2 ?_
    clear hatl2
    obtain ⟨m2, w2l, rfl, h2l, hn2, ho2⟩ := iterN_some hN2
    clear hN2
    replace h2l : token_Spell_l2 x1 x3 x5 = some w2l := h2l
    unfold token_Spell_l2 at h2l
    refine W_rs ?_
    refine rq (out := Pr.bool (decide (x3 < (x1.length : Int)))) qInt ?_
    refine W_seq ?_
    refine W_cond (b := decide (x3 < (x1.length : Int))) rfl (fun hc9 => ?_) (fun hc9 => ?_)
    · replace h2l := iteT hc9 h2l
      refine W_skip ?_
      refine W_seq ?_
      refine W_block ?_
      refine W_rs ?_
      refine rq (out := Pr.i64 x3) qMove ?_
      refine rq (out := Pr.i64 x3) qAssign ?_
      refine W_seq ?_
      refine W_rs ?_
      refine rq (out := Pr.lst Rp.str x1) qMove ?_
      refine rq (out := Pr.i64 x3) qMove ?_
      obtain ⟨x10, hx10, h2l⟩ := bindSome h2l
      refine rq (out := Pr.cpt Rp.str x10) (qIdxA (R := Rp.str) (l := x1) Tryd.underlying35 Tryd.sizeOf9 hx10) ?_
      refine rq (out := Pr.str x10) (qLoadC (R := Rp.str) (a := x10) ty9) ?_
      obtain ⟨x11, hx11, h2l⟩ := bindSome h2l
      refine rq (out := Pr.i64 x11) (qCall (token_Kind_ok x10 _ hx11)) ?_
      refine rq (out := Pr.bool (x11 == 0)) qInt ?_
      refine W_cond (b := x11 == 0) rfl (fun hc12 => ?_) (fun hc12 => ?_)
      · replace h2l := iteT hc12 h2l
        refine W_rs ?_
        refine rq (out := Pr.str []) qAssign ?_
        refine rq (out := Pr.bool false) qAssign ?_
        obtain rfl := ho2 _ (Option.some.inj h2l).symm
        replace h : some ([], false) = some r := h
        obtain rfl := Option.some.inj h
        exact W_ret ⟨rfl, Pr.le_rfl⟩
      · replace h2l := iteF hc12 h2l
        refine W_skip ?_
        refine W_join (fun e C => ∃ (x22 : List UInt8), ∃ (v21 : Value), token_Spell_j3 x1 x3 x22 = some w2l ∧ At [(0, Pr.lst Rp.str x1), (4, Pr.pt b2 0), (5, Pr.i64 x3), (7, Pr.i64 (x1.length : Int)), (8, Pr.i64 x3)] [Own.bld 66 b2 v21, Own.vec v21 Rp.byte x22 5] e C) ?_ ?_
        · rintro e C ⟨x22, v21, h2l, hat3⟩
          refine W_at hat3 ?_
          clear hat3
          unfold token_Spell_j3 at h2l
          refine W_r ?_
          refine rq (out := Pr.lst Rp.str x1) qMove ?_
          refine rq (out := Pr.i64 x3) qMove ?_
          obtain ⟨x23, hx23, h2l⟩ := bindSome h2l
          refine rq (out := Pr.cpt Rp.str x23) (qIdxA (R := Rp.str) (l := x1) Tryd.underlying35 Tryd.sizeOf9 hx23) ?_
          refine rq (out := Pr.str x23) (qLoadC (R := Rp.str) (a := x23) ty9) ?_
          obtain ⟨x24, hx24, h2l⟩ := bindSome h2l
          refine rCallC [0, 1] (Builder_WriteString_ok b2 v21 x22 x23 _ hx24) (fun q C' hq => ?_)
          obtain ⟨v25, rfl, rfl⟩ := hq
          refine W_r ?_
          refine rq (out := Pr.i64 (w64 (x3 + 1))) qInt ?_
          refine rq (out := Pr.i64 (w64 (x3 + 1))) qMove ?_
          exact ⟨m2, Nat.lt_succ_self _, w64 (x3 + 1), x24, v25, hn2 _ (Option.some.inj h2l).symm, ⟨⟨Pr.le_rfl, Pr.le_rfl, Pr.le_rfl, Pr.le_rfl, trivial⟩, Pick.refl _⟩⟩
        · refine W_join (fun e C => ∃ (x17 : Bool), token_Spell_j4 x5 x1 x3 x17 = some w2l ∧ At [(0, Pr.lst Rp.str x1), (4, Pr.pt b2 0), (5, Pr.i64 x3), (7, Pr.i64 (x1.length : Int)), (8, Pr.i64 x3), (30, Pr.bool x17)] [Own.bld 66 b2 v4, Own.vec v4 Rp.byte x5 5] e C) ?_ ?_
          · rintro e C ⟨x17, h2l, hat4⟩
            refine W_at hat4 ?_
            clear hat4
            unfold token_Spell_j4 at h2l
            refine W_cond (b := x17) rfl (fun hc18 => ?_) (fun hc18 => ?_)
            · replace h2l := iteT hc18 h2l
              refine W_r ?_
              obtain ⟨x19, hx19, h2l⟩ := bindSome h2l
              refine rCallC [0, 1] (Builder_WriteByte_ok b2 v4 x5 32 _ hx19) (fun q C' hq => ?_)
              obtain ⟨v20, rfl, rfl⟩ := hq
              exact ⟨x19, v20, h2l, ⟨⟨Pr.le_rfl, Pr.le_rfl, Pr.le_rfl, Pr.le_rfl, Pr.le_rfl, trivial⟩, Pick.refl _⟩⟩
            · replace h2l := iteF hc18 h2l
              refine W_skip ?_
              exact ⟨x5, v4, h2l, ⟨⟨Pr.le_rfl, Pr.le_rfl, Pr.le_rfl, Pr.le_rfl, Pr.le_rfl, trivial⟩, Pick.refl _⟩⟩
          · refine W_draw 14 hmx (by kernel_rfl) (by kernel_rfl) ?_
            refine qq (out := Pr.i64 x3) qMove ?_
            refine qq (out := Pr.bool (decide (x3 > 0))) qInt ?_
            refine qq (out := Pr.bool (decide (x3 > 0))) qMove ?_
            rcases iteSome h2l with ⟨hc13, h2l⟩ | ⟨hc13, h2l⟩
            · refine qqg hc13 (out := Pr.lst Rp.str x1) qMove ?_
              refine qqg hc13 (out := Pr.i64 x3) qMove ?_
              refine qqg hc13 (out := Pr.i64 (w64 (x3 - 1))) qInt ?_
              obtain ⟨x14, hx14, h2l⟩ := bindSome h2l
              refine qqg hc13 (out := Pr.cpt Rp.str x14) (qIdxA (R := Rp.str) (l := x1) Tryd.underlying35 Tryd.sizeOf9 hx14) ?_
              refine qqg hc13 (out := Pr.str x14) (qLoadC (R := Rp.str) (a := x14) ty9) ?_
              refine qqg hc13 (out := Pr.lst Rp.str x1) qMove ?_
              refine qqg hc13 (out := Pr.i64 x3) qMove ?_
              obtain ⟨x15, hx15, h2l⟩ := bindSome h2l
              refine qqg hc13 (out := Pr.cpt Rp.str x15) (qIdxA (R := Rp.str) (l := x1) Tryd.underlying35 Tryd.sizeOf9 hx15) ?_
              refine qqg hc13 (out := Pr.str x15) (qLoadC (R := Rp.str) (a := x15) ty9) ?_
              obtain ⟨x16, hx16, h2l⟩ := bindSome h2l
              refine qqg hc13 (out := Pr.bool x16) (qCall (token_Gap_ok x14 x15 _ hx16)) ?_
              refine qq (out := Pr.bool x16) (qPickT hc13) ?_
              exact ⟨x16, h2l, ⟨⟨Pr.le_rfl, Pr.le_rfl, Pr.le_rfl, Pr.le_rfl, Pr.le_rfl, Pr.le_rfl, trivial⟩, Pick.refl _⟩⟩
            · refine qqno (neT hc13) ?_
              refine qqno (neT hc13) ?_
              refine qqno (neT hc13) ?_
              refine qqno (neT hc13) ?_
              refine qqno (neT hc13) ?_
              refine qqno (neT hc13) ?_
              refine qqno (neT hc13) ?_
              refine qqno (neT hc13) ?_
              refine qqno (neT hc13) ?_
              refine qqno (neT hc13) ?_
              refine qq (out := Pr.bool false) (qPickF hc13) ?_
              exact ⟨false, h2l, ⟨⟨Pr.le_rfl, Pr.le_rfl, Pr.le_rfl, Pr.le_rfl, Pr.le_rfl, Pr.le_rfl, trivial⟩, Pick.refl _⟩⟩
    · replace h2l := iteF hc9 h2l
      refine W_exit ?_
      obtain rfl := ho2 _ (Option.some.inj h2l).symm
      exact ⟨x5, v4, h, ⟨⟨Pr.le_rfl, trivial⟩, Pick.refl _⟩⟩
theorem token_At_ok (x1 : List ApiToken) (x2 : Int) (r : Int) (h : token_At x1 x2 = some r) : FnP Tryd.prog 33 [Pr.lst rApiToken x1, Pr.i64 x2] (Pr.i64 r) := by
  refine fn_intro (n := 33) (rs := [4]) Tryd.func33 rfl Tryd.ntmps33 ⟨by decide, Tryd.results33⟩ (by decide) (fun s0 => ?_)
  unfold token_At at h
  refine W_rs ?_
  refine rq (out := Pr.i64 0) qAssign ?_
  refine W_seq ?_
  refine W_rs ?_
  refine rq (out := Pr.lst rApiToken x1) qMove ?_
  refine rq (out := Pr.i64 (x1.length : Int)) (qLenL rfl Tryd.underlying23) ?_
  refine rq (out := Pr.i64 0) qMove ?_
  refine W_block ?_
  obtain ⟨z2l, hz2, h⟩ := bindSome h
  obtain ⟨n2, hN2⟩ := iter_some hz2
  clear hz2
  refine W_after 0 (fun e C => token_At_k1 = some r ∧ At [] [] e C) ?_ ?_
  · rintro e C ⟨h, hat1⟩
    refine W_at hat1 ?_
    clear hat1
    unfold token_At_k1 at h
    refine W_rs ?_
    refine rq (out := Pr.i64 (-1)) qAssign ?_
    obtain rfl := Option.some.inj h
    exact W_ret ⟨rfl, Pr.le_rfl⟩
  · refine W_loop (fun m e C => ∃ (x3 : Int), IterN (fun s => token_At_l2 x1 x2 s) m x3 = some z2l ∧ At [(1, Pr.i64 x2), (7, Pr.lst rApiToken x1), (8, Pr.i64 (x1.length : Int)), (9, Pr.i64 x3)] [] e C) n2 ⟨0, hN2, ⟨⟨Pr.le_rfl, Pr.le_rfl, Pr.le_rfl, Pr.le_rfl, trivial⟩, Pick.refl _⟩⟩ ?_
    clear hN2
    rintro m e C ⟨x3, hN2, hatl2⟩
    refine W_at hatl2 ?_
    clear hatl2
    obtain ⟨m2, w2l, rfl, h2l, hn2, ho2⟩ := iterN_some hN2
    clear hN2
    replace h2l : token_At_l2 x1 x2 x3 = some w2l := h2l
    unfold token_At_l2 at h2l
    refine W_rs ?_
    refine rq (out := Pr.bool (decide (x3 < (x1.length : Int)))) qInt ?_
    refine W_seq ?_
    refine W_cond (b := decide (x3 < (x1.length : Int))) rfl (fun hc5 => ?_) (fun hc5 => ?_)
    · replace h2l := iteT hc5 h2l
      refine W_skip ?_
      refine W_seq ?_
      refine W_block ?_
      refine W_rs ?_
      refine rq (out := Pr.i64 x3) qMove ?_
      obtain ⟨x6, hx6, h2l⟩ := bindSome h2l
      refine rq (out := Pr.cpt rApiToken x6) (qIdxA (R := rApiToken) (l := x1) Tryd.underlying23 Tryd.sizeOf30 hx6) ?_
      refine rq (out := (rApiToken).val x6) (qLoadC (R := rApiToken) (a := x6) ty30) ?_
      refine rAlloc (R := rApiToken) (z := (ApiToken.mk 0 [] 0 [])) Tryd.zeroValue30 (fun _ => ⟨_, ⟨_, _, rfl, rfl, ⟨_, _, rfl, rfl, ⟨_, _, rfl, rfl, ⟨_, _, rfl, rfl, rfl⟩⟩⟩⟩, rfl⟩) (fun b7 => ?_)
      refine rq (out := Pr.i64 x3) qAssign ?_
      refine rStore (R := rApiToken) (R' := rApiToken) (a := (ApiToken.mk 0 [] 0 [])) (y := x6) 0 Tryd.sizeOf30 (Upd.refl _) ?_
      refine W_join (fun e C => ∃ (x9 : Bool), token_At_j3 x3 x9 = some w2l ∧ At [(1, Pr.i64 x2), (5, Pr.i64 x3), (7, Pr.lst rApiToken x1), (8, Pr.i64 (x1.length : Int)), (9, Pr.i64 x3), (30, Pr.bool x9)] [Own.box b7 rApiToken x6] e C) ?_ ?_
      · rintro e C ⟨x9, h2l, hat3⟩
        refine W_at hat3 ?_
        clear hat3
        unfold token_At_j3 at h2l
        refine W_cond (b := x9) rfl (fun hc10 => ?_) (fun hc10 => ?_)
        · replace h2l := iteT hc10 h2l
          refine W_rs ?_
          refine rq (out := Pr.i64 x3) qMove ?_
          refine rq (out := Pr.i64 x3) qAssign ?_
          obtain rfl := ho2 _ (Option.some.inj h2l).symm
          replace h : some x3 = some r := h
          obtain rfl := Option.some.inj h
          exact W_ret ⟨rfl, Pr.le_rfl⟩
        · replace h2l := iteF hc10 h2l
          refine W_skip ?_
          refine W_r ?_
          refine rq (out := Pr.i64 (w64 (x3 + 1))) qInt ?_
          refine rq (out := Pr.i64 (w64 (x3 + 1))) qMove ?_
          exact ⟨m2, Nat.lt_succ_self _, w64 (x3 + 1), hn2 _ (Option.some.inj h2l).symm, ⟨⟨Pr.le_rfl, Pr.le_rfl, Pr.le_rfl, Pr.le_rfl, trivial⟩, Pick.of [] rfl⟩⟩
      · refine W_r ?_
        refine rq (out := Pr.pt b7 2) (qFieldP fld30_2) ?_
        refine rq (out := Pr.i64 x6.At) (qLoad (R := rApiToken) (a := x6) (R' := Rp.int .i64) 0 ty3 subApiToken_At) ?_
        refine rq (out := Pr.i64 x2) qMove ?_
        refine rq (out := Pr.bool (decide (x6.At ≤ x2))) qInt ?_
        refine rq (out := Pr.bool (decide (x6.At ≤ x2))) qMove ?_
        rcases iteSome h2l with ⟨hc8, h2l⟩ | ⟨hc8, h2l⟩
        · refine rqg hc8 (out := Pr.i64 x2) qMove ?_
          refine rqg hc8 (out := Pr.int .u64 (IntKind.wrap .u64 x2)) (qConv Tryd.underlying3 Tryd.underlying76) ?_
          refine rqg hc8 (out := Pr.pt b7 2) (qFieldP fld30_2) ?_
          refine rqg hc8 (out := Pr.i64 x6.At) (qLoad (R := rApiToken) (a := x6) (R' := Rp.int .i64) 0 ty3 subApiToken_At) ?_
          refine rqg hc8 (out := Pr.int .u64 (IntKind.wrap .u64 x6.At)) (qConv Tryd.underlying3 Tryd.underlying76) ?_
          refine rqg hc8 (out := Pr.int .u64 (IntKind.wrap .u64 ((IntKind.wrap .u64 x2) - (IntKind.wrap .u64 x6.At)))) qInt ?_
          refine rqg hc8 (out := Pr.pt b7 1) (qFieldP fld30_1) ?_
          refine rqg hc8 (out := Pr.str x6.Text) (qLoad (R := rApiToken) (a := x6) (R' := Rp.str) 0 ty9 subApiToken_Text) ?_
          refine rqg hc8 (out := Pr.i64 (x6.Text.length : Int)) (qLenS rfl Tryd.underlying9) ?_
          refine rqg hc8 (out := Pr.int .u64 (IntKind.wrap .u64 (x6.Text.length : Int))) (qConv Tryd.underlying3 Tryd.underlying76) ?_
          refine rqg hc8 (out := Pr.bool (decide ((IntKind.wrap .u64 ((IntKind.wrap .u64 x2) - (IntKind.wrap .u64 x6.At))) < (IntKind.wrap .u64 (x6.Text.length : Int))))) qInt ?_
          refine rq (out := Pr.bool (decide ((IntKind.wrap .u64 ((IntKind.wrap .u64 x2) - (IntKind.wrap .u64 x6.At))) < (IntKind.wrap .u64 (x6.Text.length : Int))))) (qPickT hc8) ?_
          exact ⟨decide ((IntKind.wrap .u64 ((IntKind.wrap .u64 x2) - (IntKind.wrap .u64 x6.At))) < (IntKind.wrap .u64 (x6.Text.length : Int))), h2l, ⟨⟨Pr.le_rfl, Pr.le_rfl, Pr.le_rfl, Pr.le_rfl, Pr.le_rfl, Pr.le_rfl, trivial⟩, Pick.refl _⟩⟩
        · refine rno (neT hc8) ?_
          refine rno (neT hc8) ?_
          refine rno (neT hc8) ?_
          refine rno (neT hc8) ?_
          refine rno (neT hc8) ?_
          refine rno (neT hc8) ?_
          refine rno (neT hc8) ?_
          refine rno (neT hc8) ?_
          refine rno (neT hc8) ?_
          refine rno (neT hc8) ?_
          refine rno (neT hc8) ?_
          refine rq (out := Pr.bool false) (qPickF hc8) ?_
          exact ⟨false, h2l, ⟨⟨Pr.le_rfl, Pr.le_rfl, Pr.le_rfl, Pr.le_rfl, Pr.le_rfl, Pr.le_rfl, trivial⟩, Pick.refl _⟩⟩
    · replace h2l := iteF hc5 h2l
      refine W_exit ?_
      obtain rfl := ho2 _ (Option.some.inj h2l).symm
      exact ⟨h, ⟨trivial, Pick.refl _⟩⟩
theorem law04_short_ok (x1 : List (List UInt8)) (r : Bool) (h : law04_short x1 = some r) : FnP Tryd.prog 29 [Pr.lst Rp.str x1] (Pr.bool r) := by
  refine fn_intro (n := 19) (rs := [2]) Tryd.func29 rfl Tryd.ntmps29 ⟨by decide, Tryd.results29⟩ (by decide) (fun s0 => ?_)
  unfold law04_short at h
  refine W_rs ?_
  refine rq (out := Pr.bool false) qAssign ?_
  refine W_seq ?_
  refine W_rs ?_
  refine rq (out := Pr.lst Rp.str x1) qMove ?_
  refine rq (out := Pr.i64 (x1.length : Int)) (qLenL rfl Tryd.underlying35) ?_
  refine rq (out := Pr.bool (decide ((x1.length : Int) > 60))) qInt ?_
  refine W_cond (b := decide ((x1.length : Int) > 60)) rfl (fun hc2 => ?_) (fun hc2 => ?_)
  · replace h := iteT hc2 h
    refine W_rs ?_
    refine rq (out := Pr.bool false) qAssign ?_
    obtain rfl := Option.some.inj h
    exact W_ret ⟨rfl, Pr.le_rfl⟩
  · replace h := iteF hc2 h
    refine W_skip ?_
    refine W_seq ?_
    refine W_rs ?_
    refine rq (out := Pr.i64 0) qAssign ?_
    refine W_block ?_
    obtain ⟨z2l, hz2, h⟩ := bindSome h
    obtain ⟨n2, hN2⟩ := iter_some hz2
    clear hz2
    refine W_after 0 (fun e C => law04_short_k1 = some r ∧ At [] [] e C) ?_ ?_
    · rintro e C ⟨h, hat1⟩
      refine W_at hat1 ?_
      clear hat1
      unfold law04_short_k1 at h
      refine W_rs ?_
      refine rq (out := Pr.bool true) qAssign ?_
      obtain rfl := Option.some.inj h
      exact W_ret ⟨rfl, Pr.le_rfl⟩
    · refine W_loop (fun m e C => ∃ (x3 : Int), IterN (fun s => law04_short_l2 x1 s) m x3 = some z2l ∧ At [(0, Pr.lst Rp.str x1), (3, Pr.i64 x3)] [] e C) n2 ⟨0, hN2, ⟨⟨Pr.le_rfl, Pr.le_rfl, trivial⟩, Pick.refl _⟩⟩ ?_
      clear hN2
      rintro m e C ⟨x3, hN2, hatl2⟩
      refine W_at hatl2 ?_
      clear hatl2
      obtain ⟨m2, w2l, rfl, h2l, hn2, ho2⟩ := iterN_some hN2
      clear hN2
      replace h2l : law04_short_l2 x1 x3 = some w2l := h2l
      unfold law04_short_l2 at h2l
      refine W_seq ?_
      refine W_rs ?_
      refine rq (out := Pr.i64 x3) qMove ?_
      refine rq (out := Pr.lst Rp.str x1) qMove ?_
      refine rq (out := Pr.i64 (x1.length : Int)) (qLenL rfl Tryd.underlying35) ?_
      refine rq (out := Pr.bool (decide (x3 < (x1.length : Int)))) qInt ?_
      refine W_cond (b := decide (x3 < (x1.length : Int))) rfl (fun hc5 => ?_) (fun hc5 => ?_)
      · replace h2l := iteT hc5 h2l
        refine W_skip ?_
        refine W_seq ?_
        refine W_block ?_
        refine W_rs ?_
        refine rq (out := Pr.lst Rp.str x1) qMove ?_
        refine rq (out := Pr.i64 x3) qMove ?_
        obtain ⟨x6, hx6, h2l⟩ := bindSome h2l
        refine rq (out := Pr.cpt Rp.str x6) (qIdxA (R := Rp.str) (l := x1) Tryd.underlying35 Tryd.sizeOf9 hx6) ?_
        refine rq (out := Pr.str x6) (qLoadC (R := Rp.str) (a := x6) ty9) ?_
        refine rq (out := Pr.i64 (x6.length : Int)) (qLenS rfl Tryd.underlying9) ?_
        refine rq (out := Pr.bool (decide ((x6.length : Int) > 60))) qInt ?_
        refine W_cond (b := decide ((x6.length : Int) > 60)) rfl (fun hc7 => ?_) (fun hc7 => ?_)
        · replace h2l := iteT hc7 h2l
          refine W_rs ?_
          refine rq (out := Pr.bool false) qAssign ?_
          obtain rfl := ho2 _ (Option.some.inj h2l).symm
          replace h : some false = some r := h
          obtain rfl := Option.some.inj h
          exact W_ret ⟨rfl, Pr.le_rfl⟩
        · replace h2l := iteF hc7 h2l
          refine W_skip ?_
          refine W_r ?_
          refine rq (out := Pr.i64 x3) qMove ?_
          refine rq (out := Pr.i64 (w64 (x3 + 1))) qInt ?_
          refine rq (out := Pr.i64 (w64 (x3 + 1))) qAssign ?_
          exact ⟨m2, Nat.lt_succ_self _, w64 (x3 + 1), hn2 _ (Option.some.inj h2l).symm, ⟨⟨Pr.le_rfl, Pr.le_rfl, trivial⟩, Pick.refl _⟩⟩
      · replace h2l := iteF hc5 h2l
        refine W_exit ?_
        obtain rfl := ho2 _ (Option.some.inj h2l).symm
        exact ⟨h, ⟨trivial, Pick.refl _⟩⟩
theorem token_Texts_ok (x1 : List ApiToken) (r : (List (List UInt8))) (h : token_Texts x1 = some r) : FnP Tryd.prog 32 [Pr.lst rApiToken x1] (Pr.lst Rp.str r) := by
  refine fn_intro (n := 22) (rs := [2]) Tryd.func32 rfl Tryd.ntmps32 ⟨by decide, Tryd.results32⟩ (by decide) (fun s0 => ?_)
  unfold token_Texts at h
  refine W_rs ?_
  refine rq (out := Pr.is (.slice none 0 0)) qAssign ?_
  refine W_rs ?_
  refine rq (out := Pr.is (.slice none 0 0)) qAssign ?_
  refine W_seq ?_
  refine W_rs ?_
  refine rq (out := Pr.lst rApiToken x1) qMove ?_
  refine rq (out := Pr.i64 (x1.length : Int)) (qLenL rfl Tryd.underlying23) ?_
  refine rq (out := Pr.i64 0) qMove ?_
  refine W_block ?_
  obtain ⟨z2l, hz2, h⟩ := bindSome h
  obtain ⟨n2, hN2⟩ := iter_some hz2
  clear hz2
  refine W_after 0 (fun e C => ∃ (x4 : List (List UInt8)), ∃ (v2 : Value), token_Texts_k1 x4 = some r ∧ At [(3, Pr.is v2)] [Own.vec v2 Rp.str x4 9] e C) ?_ ?_
  · rintro e C ⟨x4, v2, h, hat1⟩
    refine W_at hat1 ?_
    clear hat1
    unfold token_Texts_k1 at h
    refine W_rs ?_
    refine rq (out := Pr.is v2) qMove ?_
    refine rq (out := Pr.is v2) qAssign ?_
    refine W_rel 0 [2] ?_ rfl ⟨rfl, trivial⟩
    obtain rfl := Option.some.inj h
    exact W_ret ⟨rfl, Pr.le_rfl⟩
  · refine W_vec Rp.str 9 ?_
    refine W_loop (fun m e C => ∃ (x3 : Int), ∃ (x4 : List (List UInt8)), ∃ (v2 : Value), IterN (fun s => token_Texts_l2 x1 s.1 s.2) m (x3, x4) = some z2l ∧ At [(3, Pr.is v2), (6, Pr.lst rApiToken x1), (7, Pr.i64 (x1.length : Int)), (8, Pr.i64 x3)] [Own.vec v2 Rp.str x4 9] e C) n2 ⟨0, [], (.slice none 0 0), hN2, ⟨⟨Pr.le_rfl, Pr.le_rfl, Pr.le_rfl, Pr.le_rfl, trivial⟩, Pick.refl _⟩⟩ ?_
    clear hN2
    rintro m e C ⟨x3, x4, v2, hN2, hatl2⟩
    refine W_at hatl2 ?_
    clear hatl2
    obtain ⟨m2, w2l, rfl, h2l, hn2, ho2⟩ := iterN_some hN2
    clear hN2
    replace h2l : token_Texts_l2 x1 x3 x4 = some w2l := h2l
    unfold token_Texts_l2 at h2l
    refine W_rs ?_
    refine rq (out := Pr.bool (decide (x3 < (x1.length : Int)))) qInt ?_
    refine W_seq ?_
    refine W_cond (b := decide (x3 < (x1.length : Int))) rfl (fun hc8 => ?_) (fun hc8 => ?_)
    · replace h2l := iteT hc8 h2l
      refine W_skip ?_
      refine W_join (fun e C => ∃ (x15 : List (List UInt8)), ∃ (x9 : ApiToken), ∃ (v14 : Value), ∃ (b10 : Nat), token_Texts_j3 x3 x15 x9 = some w2l ∧ At [(3, Pr.is v14), (6, Pr.lst rApiToken x1), (7, Pr.i64 (x1.length : Int)), (8, Pr.i64 x3)] [Own.vec v14 Rp.str x15 9, Own.box b10 rApiToken x9] e C) ?_ ?_
      · rintro e C ⟨x15, x9, v14, b10, h2l, hat3⟩
        refine W_at hat3 ?_
        clear hat3
        unfold token_Texts_j3 at h2l
        refine W_r ?_
        refine rq (out := Pr.i64 (w64 (x3 + 1))) qInt ?_
        refine rq (out := Pr.i64 (w64 (x3 + 1))) qMove ?_
        exact ⟨m2, Nat.lt_succ_self _, w64 (x3 + 1), x15, v14, hn2 _ (Option.some.inj h2l).symm, ⟨⟨Pr.le_rfl, Pr.le_rfl, Pr.le_rfl, Pr.le_rfl, trivial⟩, Pick.of [0] rfl⟩⟩
      · refine W_block ?_
        refine W_rs ?_
        obtain ⟨x9, hx9, h2l⟩ := bindSome h2l
        refine rq (out := Pr.cpt rApiToken x9) (qIdxA (R := rApiToken) (l := x1) Tryd.underlying23 Tryd.sizeOf30 hx9) ?_
        refine rq (out := (rApiToken).val x9) (qLoadC (R := rApiToken) (a := x9) ty30) ?_
        refine rAlloc (R := rApiToken) (z := (ApiToken.mk 0 [] 0 [])) Tryd.zeroValue30 (fun _ => ⟨_, ⟨_, _, rfl, rfl, ⟨_, _, rfl, rfl, ⟨_, _, rfl, rfl, ⟨_, _, rfl, rfl, rfl⟩⟩⟩⟩, rfl⟩) (fun b10 => ?_)
        refine rStore (R := rApiToken) (R' := rApiToken) (a := (ApiToken.mk 0 [] 0 [])) (y := x9) 1 Tryd.sizeOf30 (Upd.refl _) ?_
        refine W_rs ?_
        refine rq (out := Pr.pt b10 0) (qFieldP fld30_0) ?_
        refine rq (out := Pr.i64 x9.Kind) (qLoad (R := rApiToken) (a := x9) (R' := Rp.int .i64) 1 ty3 subApiToken_Kind) ?_
        refine rq (out := Pr.bool (x9.Kind != 5)) qInt ?_
        refine W_cond (b := x9.Kind != 5) rfl (fun hc11 => ?_) (fun hc11 => ?_)
        · replace h2l := iteT hc11 h2l
          refine W_r ?_
          refine rq (out := Pr.is v2) qMove ?_
          refine rq (out := Pr.pt b10 1) (qFieldP fld30_1) ?_
          refine rq (out := Pr.str x9.Text) (qLoad (R := rApiToken) (a := x9) (R' := Rp.str) 1 ty9 subApiToken_Text) ?_
          refine rq (out := Pr.lst Rp.str ([x9.Text] : List (List UInt8))) (qBuildSlice1 (R := Rp.str) (a := x9.Text) el35 (Nat.le_of_ble_eq_true rfl)) ?_
          obtain ⟨x12, hx12, h2l⟩ := bindSome h2l
          refine rAppend' 0 el35 hx12 (fun v13 => ?_)
          refine rq (out := Pr.is v13) qAssign ?_
          exact ⟨x12, x9, v13, b10, h2l, ⟨⟨Pr.le_rfl, Pr.le_rfl, Pr.le_rfl, Pr.le_rfl, trivial⟩, Pick.refl _⟩⟩
        · replace h2l := iteF hc11 h2l
          refine W_skip ?_
          exact ⟨x4, x9, v2, b10, h2l, ⟨⟨Pr.le_rfl, Pr.le_rfl, Pr.le_rfl, Pr.le_rfl, trivial⟩, Pick.refl _⟩⟩
    · replace h2l := iteF hc8 h2l
      refine W_exit ?_
      obtain rfl := ho2 _ (Option.some.inj h2l).symm
      exact ⟨x4, v2, h, ⟨⟨Pr.le_rfl, trivial⟩, Pick.refl _⟩⟩
theorem law04_awake_ok (r : Bool) (h : law04_awake = some r) : FnP Tryd.prog 24 [] (Pr.bool r) := by
  refine fn_intro (n := 47) (rs := [0]) Tryd.func24 rfl Tryd.ntmps24 ⟨by decide, Tryd.results24⟩ (by decide) (fun s0 => ?_)
  unfold law04_awake at h
  refine W_rs ?_
  refine rq (out := Pr.bool false) qAssign ?_
  refine W_rs ?_
  refine rq (out := Pr.lst Rp.str ([([97] : List UInt8), ([49] : List UInt8), ([60] : List UInt8), ([61] : List UInt8), ([41] : List UInt8), ([98] : List UInt8)] : List (List UInt8))) (qBuildSlice (R := Rp.str) (ls := ([([97] : List UInt8), ([49] : List UInt8), ([60] : List UInt8), ([61] : List UInt8), ([41] : List UInt8), ([98] : List UInt8)] : List (List UInt8))) el35 (Nat.le_of_ble_eq_true rfl) ⟨rfl, rfl⟩ ⟨rfl, rfl, rfl, rfl, rfl, rfl, trivial⟩) ?_
  obtain ⟨⟨x1, x2⟩, hx1, h⟩ := bindSome h
  refine rq (out := Pr.tup [Pr.str x1, Pr.bool x2]) (qCall (token_Spell_ok ([([97] : List UInt8), ([49] : List UInt8), ([60] : List UInt8), ([61] : List UInt8), ([41] : List UInt8), ([98] : List UInt8)] : List (List UInt8)) _ hx1)) ?_
  refine rq (out := Pr.tup [Pr.str x1, Pr.bool x2]) qMove ?_
  refine rq (out := Pr.str x1) qExtract ?_
  refine rq (out := Pr.bool x2) qExtract ?_
  refine rq (out := Pr.str x1) qAssign ?_
  refine rq (out := Pr.bool x2) qAssign ?_
  refine W_join (fun e C => ∃ (x978 : Bool), law04_awake_j1 x978 = some r ∧ At [(0, Pr.bool x978)] [] e C) ?_ ?_
  · rintro e C ⟨x978, h, hat1⟩
    refine W_at hat1 ?_
    clear hat1
    unfold law04_awake_j1 at h
    obtain rfl := Option.some.inj h
    exact W_ret ⟨rfl, Pr.le_rfl⟩
  · refine W_r ?_
    obtain ⟨x3, hx3, h⟩ := bindSome h
    refine rq (out := Pr.bool x3) (qCall (token_Gap_ok ([97] : List UInt8) ([49] : List UInt8) _ hx3)) ?_
    refine rq (out := Pr.bool x3) qMove ?_
    rcases iteSome h with ⟨hc4, h⟩ | ⟨hc4, h⟩
    · obtain ⟨x5, hx5, h⟩ := bindSome h
      refine rqg hc4 (out := Pr.bool x5) (qCall (token_Gap_ok ([60] : List UInt8) ([61] : List UInt8) _ hx5)) ?_
      refine rq (out := Pr.bool x5) (qPickT hc4) ?_
      refine rq (out := Pr.bool x5) qMove ?_
      rcases iteSome h with ⟨hc6, h⟩ | ⟨hc6, h⟩
      · obtain ⟨x7, hx7, h⟩ := bindSome h
        refine rqg hc6 (out := Pr.bool x7) (qCall (token_Gap_ok ([47] : List UInt8) ([42] : List UInt8) _ hx7)) ?_
        refine rq (out := Pr.bool x7) (qPickT hc6) ?_
        refine rq (out := Pr.bool x7) qMove ?_
        rcases iteSome h with ⟨hc8, h⟩ | ⟨hc8, h⟩
        · obtain ⟨x9, hx9, h⟩ := bindSome h
          refine rqg hc8 (out := Pr.bool x9) (qCall (token_Gap_ok ([49] : List UInt8) ([97] : List UInt8) _ hx9)) ?_
          refine rqg hc8 (out := Pr.bool (!x9)) qNot ?_
          refine rq (out := Pr.bool (!x9)) (qPickT hc8) ?_
          refine rq (out := Pr.bool (!x9)) qMove ?_
          rcases iteSome h with ⟨hc10, h⟩ | ⟨hc10, h⟩
          · obtain ⟨x11, hx11, h⟩ := bindSome h
            refine rqg hc10 (out := Pr.bool x11) (qCall (token_Gap_ok ([41] : List UInt8) ([97] : List UInt8) _ hx11)) ?_
            refine rqg hc10 (out := Pr.bool (!x11)) qNot ?_
            refine rq (out := Pr.bool (!x11)) (qPickT hc10) ?_
            refine rq (out := Pr.bool (!x11)) qMove ?_
            rcases iteSome h with ⟨hc12, h⟩ | ⟨hc12, h⟩
            · refine rqg hc12 (out := Pr.str x1) qMove ?_
              refine rqg hc12 (out := Pr.bool (x1 == ([97, 32, 49, 60, 32, 61, 41, 98] : List UInt8))) qStr ?_
              refine rq (out := Pr.bool (x1 == ([97, 32, 49, 60, 32, 61, 41, 98] : List UInt8))) (qPickT hc12) ?_
              refine rq (out := Pr.bool (x1 == ([97, 32, 49, 60, 32, 61, 41, 98] : List UInt8))) qMove ?_
              rcases iteSome h with ⟨hc13, h⟩ | ⟨hc13, h⟩
              · refine rqg hc13 (out := Pr.bool x2) qMove ?_
                refine rq (out := Pr.bool x2) (qPickT hc13) ?_
                refine rq (out := Pr.bool x2) qMove ?_
                rcases iteSome h with ⟨hc14, h⟩ | ⟨hc14, h⟩
                · obtain ⟨x15, hx15, h⟩ := bindSome h
                  refine rqg hc14 (out := Pr.i64 x15) (qCall (token_Kind_ok ([119, 104, 105, 108, 101] : List UInt8) _ hx15)) ?_
                  refine rqg hc14 (out := Pr.bool (x15 == 3)) qInt ?_
                  refine rq (out := Pr.bool (x15 == 3)) (qPickT hc14) ?_
                  refine rq (out := Pr.bool (x15 == 3)) qMove ?_
                  rcases iteSome h with ⟨hc16, h⟩ | ⟨hc16, h⟩
                  · refine rqg hc16 (out := (rApiToken).val (ApiToken.mk 0 ([97, 98] : List UInt8) 3 [])) (qBuild st30 ⟨(ApiToken.mk 0 ([97, 98] : List UInt8) 0 []), ⟨_, rfl, rfl, fun j fd hj hf => by match j, hj with | 0, _ => cases hf; rfl | 1, h => exact absurd rfl h | 2, _ => cases hf; rfl | 3, _ => cases hf; rfl | _ + 4, _ => cases hf⟩, ⟨(ApiToken.mk 0 ([97, 98] : List UInt8) 3 []), ⟨_, rfl, rfl, fun j fd hj hf => by match j, hj with | 0, _ => cases hf; rfl | 1, _ => cases hf; rfl | 2, h => exact absurd rfl h | 3, _ => cases hf; rfl | _ + 4, _ => cases hf⟩, rfl⟩⟩) ?_
                    refine rqg hc16 (out := Pr.lst rApiToken ([(ApiToken.mk 0 ([97, 98] : List UInt8) 3 [])] : List ApiToken)) (qBuildSlice1 (R := rApiToken) (a := (ApiToken.mk 0 ([97, 98] : List UInt8) 3 [])) el23 (Nat.le_of_ble_eq_true rfl)) ?_
                    obtain ⟨x17, hx17, h⟩ := bindSome h
                    refine rqg hc16 (out := Pr.i64 x17) (qCall (token_At_ok ([(ApiToken.mk 0 ([97, 98] : List UInt8) 3 [])] : List ApiToken) 4 _ hx17)) ?_
                    refine rqg hc16 (out := Pr.bool (x17 == 0)) qInt ?_
                    refine rq (out := Pr.bool (x17 == 0)) (qPickT hc16) ?_
                    refine rq (out := Pr.bool (x17 == 0)) qMove ?_
                    rcases iteSome h with ⟨hc18, h⟩ | ⟨hc18, h⟩
                    · refine rqg hc18 (out := (rApiToken).val (ApiToken.mk 1 ([97] : List UInt8) 0 [])) (qBuild st30 ⟨(ApiToken.mk 1 [] 0 []), ⟨_, rfl, rfl, fun j fd hj hf => by match j, hj with | 0, h => exact absurd rfl h | 1, _ => cases hf; rfl | 2, _ => cases hf; rfl | 3, _ => cases hf; rfl | _ + 4, _ => cases hf⟩, ⟨(ApiToken.mk 1 ([97] : List UInt8) 0 []), ⟨_, rfl, rfl, fun j fd hj hf => by match j, hj with | 0, _ => cases hf; rfl | 1, h => exact absurd rfl h | 2, _ => cases hf; rfl | 3, _ => cases hf; rfl | _ + 4, _ => cases hf⟩, rfl⟩⟩) ?_
                      refine rqg hc18 (out := Pr.lst rApiToken ([(ApiToken.mk 1 ([97] : List UInt8) 0 [])] : List ApiToken)) (qBuildSlice1 (R := rApiToken) (a := (ApiToken.mk 1 ([97] : List UInt8) 0 [])) el23 (Nat.le_of_ble_eq_true rfl)) ?_
                      obtain ⟨x19, hx19, h⟩ := bindSome h
                      refine rqg hc18 (out := Pr.lst Rp.str x19) (qCall (token_Texts_ok ([(ApiToken.mk 1 ([97] : List UInt8) 0 [])] : List ApiToken) _ hx19)) ?_
                      refine rqg hc18 (out := Pr.i64 (x19.length : Int)) (qLenL rfl Tryd.underlying35) ?_
                      refine rqg hc18 (out := Pr.bool ((x19.length : Int) == 1)) qInt ?_
                      refine rq (out := Pr.bool ((x19.length : Int) == 1)) (qPickT hc18) ?_
                      refine rq (out := Pr.bool ((x19.length : Int) == 1)) qAssign ?_
                      exact ⟨(x19.length : Int) == 1, h, ⟨⟨Pr.le_rfl, trivial⟩, Pick.refl _⟩⟩
                    · refine rno (neT hc18) ?_
                      refine rno (neT hc18) ?_
                      refine rno (neT hc18) ?_
                      refine rno (neT hc18) ?_
                      refine rno (neT hc18) ?_
                      refine rq (out := Pr.bool false) (qPickF hc18) ?_
                      refine rq (out := Pr.bool false) qAssign ?_
                      exact ⟨false, h, ⟨⟨Pr.le_rfl, trivial⟩, Pick.refl _⟩⟩
                  · refine rno (neT hc16) ?_
                    refine rno (neT hc16) ?_
                    refine rno (neT hc16) ?_
                    refine rno (neT hc16) ?_
                    refine rq (out := Pr.bool false) (qPickF hc16) ?_
                    refine rq (out := Pr.bool false) qMove ?_
                    have hc20 : false = false := rfl
                    refine rno (neT hc20) ?_
                    refine rno (neT hc20) ?_
                    refine rno (neT hc20) ?_
                    refine rno (neT hc20) ?_
                    refine rno (neT hc20) ?_
                    refine rq (out := Pr.bool false) (qPickF hc20) ?_
                    refine rq (out := Pr.bool false) qAssign ?_
                    exact ⟨false, h, ⟨⟨Pr.le_rfl, trivial⟩, Pick.refl _⟩⟩
                · refine rno (neT hc14) ?_
                  refine rno (neT hc14) ?_
                  refine rq (out := Pr.bool false) (qPickF hc14) ?_
                  refine rq (out := Pr.bool false) qMove ?_
                  have hc22 : false = false := rfl
                  refine rno (neT hc22) ?_
                  refine rno (neT hc22) ?_
                  refine rno (neT hc22) ?_
                  refine rno (neT hc22) ?_
                  refine rq (out := Pr.bool false) (qPickF hc22) ?_
                  refine rq (out := Pr.bool false) qMove ?_
                  have hc26 : false = false := rfl
                  refine rno (neT hc26) ?_
                  refine rno (neT hc26) ?_
                  refine rno (neT hc26) ?_
                  refine rno (neT hc26) ?_
                  refine rno (neT hc26) ?_
                  refine rq (out := Pr.bool false) (qPickF hc26) ?_
                  refine rq (out := Pr.bool false) qAssign ?_
                  exact ⟨false, h, ⟨⟨Pr.le_rfl, trivial⟩, Pick.refl _⟩⟩
              · refine rno (neT hc13) ?_
                refine rq (out := Pr.bool false) (qPickF hc13) ?_
                refine rq (out := Pr.bool false) qMove ?_
                have hc28 : false = false := rfl
                refine rno (neT hc28) ?_
                refine rno (neT hc28) ?_
                refine rq (out := Pr.bool false) (qPickF hc28) ?_
                refine rq (out := Pr.bool false) qMove ?_
                have hc36 : false = false := rfl
                refine rno (neT hc36) ?_
                refine rno (neT hc36) ?_
                refine rno (neT hc36) ?_
                refine rno (neT hc36) ?_
                refine rq (out := Pr.bool false) (qPickF hc36) ?_
                refine rq (out := Pr.bool false) qMove ?_
                have hc40 : false = false := rfl
                refine rno (neT hc40) ?_
                refine rno (neT hc40) ?_
                refine rno (neT hc40) ?_
                refine rno (neT hc40) ?_
                refine rno (neT hc40) ?_
                refine rq (out := Pr.bool false) (qPickF hc40) ?_
                refine rq (out := Pr.bool false) qAssign ?_
                exact ⟨false, h, ⟨⟨Pr.le_rfl, trivial⟩, Pick.refl _⟩⟩
            · refine rno (neT hc12) ?_
              refine rno (neT hc12) ?_
              refine rq (out := Pr.bool false) (qPickF hc12) ?_
              refine rq (out := Pr.bool false) qMove ?_
              have hc42 : false = false := rfl
              refine rno (neT hc42) ?_
              refine rq (out := Pr.bool false) (qPickF hc42) ?_
              refine rq (out := Pr.bool false) qMove ?_
              have hc57 : false = false := rfl
              refine rno (neT hc57) ?_
              refine rno (neT hc57) ?_
              refine rq (out := Pr.bool false) (qPickF hc57) ?_
              refine rq (out := Pr.bool false) qMove ?_
              have hc65 : false = false := rfl
              refine rno (neT hc65) ?_
              refine rno (neT hc65) ?_
              refine rno (neT hc65) ?_
              refine rno (neT hc65) ?_
              refine rq (out := Pr.bool false) (qPickF hc65) ?_
              refine rq (out := Pr.bool false) qMove ?_
              have hc69 : false = false := rfl
              refine rno (neT hc69) ?_
              refine rno (neT hc69) ?_
              refine rno (neT hc69) ?_
              refine rno (neT hc69) ?_
              refine rno (neT hc69) ?_
              refine rq (out := Pr.bool false) (qPickF hc69) ?_
              refine rq (out := Pr.bool false) qAssign ?_
              exact ⟨false, h, ⟨⟨Pr.le_rfl, trivial⟩, Pick.refl _⟩⟩
          · refine rno (neT hc10) ?_
            refine rno (neT hc10) ?_
            refine rq (out := Pr.bool false) (qPickF hc10) ?_
            refine rq (out := Pr.bool false) qMove ?_
            have hc71 : false = false := rfl
            refine rno (neT hc71) ?_
            refine rno (neT hc71) ?_
            refine rq (out := Pr.bool false) (qPickF hc71) ?_
            refine rq (out := Pr.bool false) qMove ?_
            have hc101 : false = false := rfl
            refine rno (neT hc101) ?_
            refine rq (out := Pr.bool false) (qPickF hc101) ?_
            refine rq (out := Pr.bool false) qMove ?_
            have hc116 : false = false := rfl
            refine rno (neT hc116) ?_
            refine rno (neT hc116) ?_
            refine rq (out := Pr.bool false) (qPickF hc116) ?_
            refine rq (out := Pr.bool false) qMove ?_
            have hc124 : false = false := rfl
            refine rno (neT hc124) ?_
            refine rno (neT hc124) ?_
            refine rno (neT hc124) ?_
            refine rno (neT hc124) ?_
            refine rq (out := Pr.bool false) (qPickF hc124) ?_
            refine rq (out := Pr.bool false) qMove ?_
            have hc128 : false = false := rfl
            refine rno (neT hc128) ?_
            refine rno (neT hc128) ?_
            refine rno (neT hc128) ?_
            refine rno (neT hc128) ?_
            refine rno (neT hc128) ?_
            refine rq (out := Pr.bool false) (qPickF hc128) ?_
            refine rq (out := Pr.bool false) qAssign ?_
            exact ⟨false, h, ⟨⟨Pr.le_rfl, trivial⟩, Pick.refl _⟩⟩
        · refine rno (neT hc8) ?_
          refine rno (neT hc8) ?_
          refine rq (out := Pr.bool false) (qPickF hc8) ?_
          refine rq (out := Pr.bool false) qMove ?_
          have hc130 : false = false := rfl
          refine rno (neT hc130) ?_
          refine rno (neT hc130) ?_
          refine rq (out := Pr.bool false) (qPickF hc130) ?_
          refine rq (out := Pr.bool false) qMove ?_
          have hc191 : false = false := rfl
          refine rno (neT hc191) ?_
          refine rno (neT hc191) ?_
          refine rq (out := Pr.bool false) (qPickF hc191) ?_
          refine rq (out := Pr.bool false) qMove ?_
          have hc221 : false = false := rfl
          refine rno (neT hc221) ?_
          refine rq (out := Pr.bool false) (qPickF hc221) ?_
          refine rq (out := Pr.bool false) qMove ?_
          have hc236 : false = false := rfl
          refine rno (neT hc236) ?_
          refine rno (neT hc236) ?_
          refine rq (out := Pr.bool false) (qPickF hc236) ?_
          refine rq (out := Pr.bool false) qMove ?_
          have hc244 : false = false := rfl
          refine rno (neT hc244) ?_
          refine rno (neT hc244) ?_
          refine rno (neT hc244) ?_
          refine rno (neT hc244) ?_
          refine rq (out := Pr.bool false) (qPickF hc244) ?_
          refine rq (out := Pr.bool false) qMove ?_
          have hc248 : false = false := rfl
          refine rno (neT hc248) ?_
          refine rno (neT hc248) ?_
          refine rno (neT hc248) ?_
          refine rno (neT hc248) ?_
          refine rno (neT hc248) ?_
          refine rq (out := Pr.bool false) (qPickF hc248) ?_
          refine rq (out := Pr.bool false) qAssign ?_
          exact ⟨false, h, ⟨⟨Pr.le_rfl, trivial⟩, Pick.refl _⟩⟩
      · refine rno (neT hc6) ?_
        refine rq (out := Pr.bool false) (qPickF hc6) ?_
        refine rq (out := Pr.bool false) qMove ?_
        have hc250 : false = false := rfl
        refine rno (neT hc250) ?_
        refine rno (neT hc250) ?_
        refine rq (out := Pr.bool false) (qPickF hc250) ?_
        refine rq (out := Pr.bool false) qMove ?_
        have hc372 : false = false := rfl
        refine rno (neT hc372) ?_
        refine rno (neT hc372) ?_
        refine rq (out := Pr.bool false) (qPickF hc372) ?_
        refine rq (out := Pr.bool false) qMove ?_
        have hc433 : false = false := rfl
        refine rno (neT hc433) ?_
        refine rno (neT hc433) ?_
        refine rq (out := Pr.bool false) (qPickF hc433) ?_
        refine rq (out := Pr.bool false) qMove ?_
        have hc463 : false = false := rfl
        refine rno (neT hc463) ?_
        refine rq (out := Pr.bool false) (qPickF hc463) ?_
        refine rq (out := Pr.bool false) qMove ?_
        have hc478 : false = false := rfl
        refine rno (neT hc478) ?_
        refine rno (neT hc478) ?_
        refine rq (out := Pr.bool false) (qPickF hc478) ?_
        refine rq (out := Pr.bool false) qMove ?_
        have hc486 : false = false := rfl
        refine rno (neT hc486) ?_
        refine rno (neT hc486) ?_
        refine rno (neT hc486) ?_
        refine rno (neT hc486) ?_
        refine rq (out := Pr.bool false) (qPickF hc486) ?_
        refine rq (out := Pr.bool false) qMove ?_
        have hc490 : false = false := rfl
        refine rno (neT hc490) ?_
        refine rno (neT hc490) ?_
        refine rno (neT hc490) ?_
        refine rno (neT hc490) ?_
        refine rno (neT hc490) ?_
        refine rq (out := Pr.bool false) (qPickF hc490) ?_
        refine rq (out := Pr.bool false) qAssign ?_
        exact ⟨false, h, ⟨⟨Pr.le_rfl, trivial⟩, Pick.refl _⟩⟩
    · refine rno (neT hc4) ?_
      refine rq (out := Pr.bool false) (qPickF hc4) ?_
      refine rq (out := Pr.bool false) qMove ?_
      have hc492 : false = false := rfl
      refine rno (neT hc492) ?_
      refine rq (out := Pr.bool false) (qPickF hc492) ?_
      refine rq (out := Pr.bool false) qMove ?_
      have hc736 : false = false := rfl
      refine rno (neT hc736) ?_
      refine rno (neT hc736) ?_
      refine rq (out := Pr.bool false) (qPickF hc736) ?_
      refine rq (out := Pr.bool false) qMove ?_
      have hc858 : false = false := rfl
      refine rno (neT hc858) ?_
      refine rno (neT hc858) ?_
      refine rq (out := Pr.bool false) (qPickF hc858) ?_
      refine rq (out := Pr.bool false) qMove ?_
      have hc919 : false = false := rfl
      refine rno (neT hc919) ?_
      refine rno (neT hc919) ?_
      refine rq (out := Pr.bool false) (qPickF hc919) ?_
      refine rq (out := Pr.bool false) qMove ?_
      have hc949 : false = false := rfl
      refine rno (neT hc949) ?_
      refine rq (out := Pr.bool false) (qPickF hc949) ?_
      refine rq (out := Pr.bool false) qMove ?_
      have hc964 : false = false := rfl
      refine rno (neT hc964) ?_
      refine rno (neT hc964) ?_
      refine rq (out := Pr.bool false) (qPickF hc964) ?_
      refine rq (out := Pr.bool false) qMove ?_
      have hc972 : false = false := rfl
      refine rno (neT hc972) ?_
      refine rno (neT hc972) ?_
      refine rno (neT hc972) ?_
      refine rno (neT hc972) ?_
      refine rq (out := Pr.bool false) (qPickF hc972) ?_
      refine rq (out := Pr.bool false) qMove ?_
      have hc976 : false = false := rfl
      refine rno (neT hc976) ?_
      refine rno (neT hc976) ?_
      refine rno (neT hc976) ?_
      refine rno (neT hc976) ?_
      refine rno (neT hc976) ?_
      refine rq (out := Pr.bool false) (qPickF hc976) ?_
      refine rq (out := Pr.bool false) qAssign ?_
      exact ⟨false, h, ⟨⟨Pr.le_rfl, trivial⟩, Pick.refl _⟩⟩
theorem law04_TokenKinds_ok (x1 : List UInt8) (x2 : List UInt8) (r : Bool) (h : law04_TokenKinds x1 x2 = some r) : FnP Tryd.prog 8 [Pr.str x1, Pr.str x2] (Pr.bool r) := by
  refine fn_intro (n := 31) (rs := [4]) Tryd.func8 rfl Tryd.ntmps8 ⟨by decide, Tryd.results8⟩ (by decide) (fun s0 => ?_)
  unfold law04_TokenKinds at h
  refine W_rs ?_
  refine rq (out := Pr.bool false) qAssign ?_
  refine W_rs ?_
  obtain ⟨x3, hx3, h⟩ := bindSome h
  refine rq (out := Pr.bool x3) (qCall (law04_awake_ok  _ hx3)) ?_
  refine rq (out := Pr.bool x3) qAssign ?_
  refine W_seq ?_
  refine W_rs ?_
  refine rq (out := Pr.bool x3) qMove ?_
  refine rq (out := Pr.bool (!x3)) qNot ?_
  refine W_cond (b := !x3) rfl (fun hc4 => ?_) (fun hc4 => ?_)
  · replace h := iteT hc4 h
    refine W_rs ?_
    refine rq (out := Pr.bool false) qAssign ?_
    obtain rfl := Option.some.inj h
    exact W_ret ⟨rfl, Pr.le_rfl⟩
  · replace h := iteF hc4 h
    refine W_skip ?_
    refine W_seq ?_
    refine W_join (fun e C => ∃ (x6 : Bool), law04_TokenKinds_j2 x1 x2 x6 = some r ∧ At [(0, Pr.str x1), (1, Pr.str x2), (16, Pr.bool x6)] [] e C) ?_ ?_
    · rintro e C ⟨x6, h, hat2⟩
      refine W_at hat2 ?_
      clear hat2
      unfold law04_TokenKinds_j2 at h
      refine W_cond (b := x6) rfl (fun hc7 => ?_) (fun hc7 => ?_)
      · replace h := iteT hc7 h
        refine W_rs ?_
        refine rq (out := Pr.bool true) qAssign ?_
        obtain rfl := Option.some.inj h
        exact W_ret ⟨rfl, Pr.le_rfl⟩
      · replace h := iteF hc7 h
        refine W_skip ?_
        refine W_join (fun e C => ∃ (x13 : Bool), law04_TokenKinds_j1 x13 = some r ∧ At [(4, Pr.bool x13)] [] e C) ?_ ?_
        · rintro e C ⟨x13, h, hat1⟩
          refine W_at hat1 ?_
          clear hat1
          unfold law04_TokenKinds_j1 at h
          obtain rfl := Option.some.inj h
          exact W_ret ⟨rfl, Pr.le_rfl⟩
        · refine W_r ?_
          refine rq (out := Pr.str x1) qMove ?_
          obtain ⟨x8, hx8, h⟩ := bindSome h
          refine rq (out := Pr.i64 x8) (qCall (token_Kind_ok x1 _ hx8)) ?_
          refine rq (out := Pr.str x1) qMove ?_
          obtain ⟨x9, hx9, h⟩ := bindSome h
          refine rq (out := Pr.i64 x9) (qCall (ref04_Kind_ok x1 _ hx9)) ?_
          refine rq (out := Pr.bool (x8 == x9)) qInt ?_
          refine rq (out := Pr.bool (x8 == x9)) qMove ?_
          rcases iteSome h with ⟨hc10, h⟩ | ⟨hc10, h⟩
          · refine rqg hc10 (out := Pr.str x1) qMove ?_
            refine rqg hc10 (out := Pr.str x2) qMove ?_
            obtain ⟨x11, hx11, h⟩ := bindSome h
            refine rqg hc10 (out := Pr.bool x11) (qCall (token_Gap_ok x1 x2 _ hx11)) ?_
            refine rqg hc10 (out := Pr.str x1) qMove ?_
            refine rqg hc10 (out := Pr.str x2) qMove ?_
            obtain ⟨x12, hx12, h⟩ := bindSome h
            refine rqg hc10 (out := Pr.bool x12) (qCall (ref04_Gap_ok x1 x2 _ hx12)) ?_
            refine rqg hc10 (out := Pr.bool (x11 == x12)) (qBoolEq Tryd.underlying4) ?_
            refine rq (out := Pr.bool (x11 == x12)) (qPickT hc10) ?_
            refine rq (out := Pr.bool (x11 == x12)) qAssign ?_
            exact ⟨x11 == x12, h, ⟨⟨Pr.le_rfl, trivial⟩, Pick.refl _⟩⟩
          · refine rno (neT hc10) ?_
            refine rno (neT hc10) ?_
            refine rno (neT hc10) ?_
            refine rno (neT hc10) ?_
            refine rno (neT hc10) ?_
            refine rno (neT hc10) ?_
            refine rno (neT hc10) ?_
            refine rq (out := Pr.bool false) (qPickF hc10) ?_
            refine rq (out := Pr.bool false) qAssign ?_
            exact ⟨false, h, ⟨⟨Pr.le_rfl, trivial⟩, Pick.refl _⟩⟩
    · refine W_r ?_
      refine rq (out := Pr.str x1) qMove ?_
      refine rq (out := Pr.i64 (x1.length : Int)) (qLenS rfl Tryd.underlying9) ?_
      refine rq (out := Pr.bool (decide ((x1.length : Int) > 100))) qInt ?_
      refine rq (out := Pr.bool (decide ((x1.length : Int) > 100))) qMove ?_
      rcases iteSome h with ⟨hc5, h⟩ | ⟨hc5, h⟩
      · refine rno (neF hc5) ?_
        refine rno (neF hc5) ?_
        refine rno (neF hc5) ?_
        refine rq (out := Pr.bool true) (qPickT hc5) ?_
        exact ⟨true, h, ⟨⟨Pr.le_rfl, Pr.le_rfl, Pr.le_rfl, trivial⟩, Pick.refl _⟩⟩
      · refine rqg hc5 (out := Pr.str x2) qMove ?_
        refine rqg hc5 (out := Pr.i64 (x2.length : Int)) (qLenS rfl Tryd.underlying9) ?_
        refine rqg hc5 (out := Pr.bool (decide ((x2.length : Int) > 100))) qInt ?_
        refine rq (out := Pr.bool (decide ((x2.length : Int) > 100))) (qPickF hc5) ?_
        exact ⟨decide ((x2.length : Int) > 100), h, ⟨⟨Pr.le_rfl, Pr.le_rfl, Pr.le_rfl, trivial⟩, Pick.refl _⟩⟩
theorem law04_TokenBack_ok (x1 : List (List UInt8)) (r : Bool) (h : law04_TokenBack x1 = some r) : FnP Tryd.prog 9 [Pr.lst Rp.str x1] (Pr.bool r) := by
  refine fn_intro (n := 102) (rs := [2]) Tryd.func9 rfl Tryd.ntmps9 ⟨by decide, Tryd.results9⟩ (by decide) (fun s0 => ?_)
  unfold law04_TokenBack at h
  refine W_rs ?_
  refine rq (out := Pr.bool false) qAssign ?_
  refine W_rs ?_
  obtain ⟨x2, hx2, h⟩ := bindSome h
  refine rq (out := Pr.bool x2) (qCall (law04_awake_ok  _ hx2)) ?_
  refine rq (out := Pr.bool x2) qAssign ?_
  refine W_seq ?_
  refine W_rs ?_
  refine rq (out := Pr.bool x2) qMove ?_
  refine rq (out := Pr.bool (!x2)) qNot ?_
  refine W_cond (b := !x2) rfl (fun hc3 => ?_) (fun hc3 => ?_)
  · replace h := iteT hc3 h
    refine W_rs ?_
    refine rq (out := Pr.bool false) qAssign ?_
    obtain rfl := Option.some.inj h
    exact W_ret ⟨rfl, Pr.le_rfl⟩
  · replace h := iteF hc3 h
    refine W_skip ?_
    refine W_rs ?_
    refine rq (out := Pr.lst Rp.str x1) qMove ?_
    obtain ⟨x4, hx4, h⟩ := bindSome h
    refine rq (out := Pr.bool x4) (qCall (law04_short_ok x1 _ hx4)) ?_
    refine rq (out := Pr.bool x4) qAssign ?_
    refine W_seq ?_
    refine W_rs ?_
    refine rq (out := Pr.bool x4) qMove ?_
    refine rq (out := Pr.bool (!x4)) qNot ?_
    refine W_cond (b := !x4) rfl (fun hc5 => ?_) (fun hc5 => ?_)
    · replace h := iteT hc5 h
      refine W_rs ?_
      refine rq (out := Pr.bool true) qAssign ?_
      obtain rfl := Option.some.inj h
      exact W_ret ⟨rfl, Pr.le_rfl⟩
    · replace h := iteF hc5 h
      refine W_skip ?_
      refine W_rs ?_
      refine rq (out := Pr.lst Rp.str x1) qMove ?_
      obtain ⟨⟨x6, x7⟩, hx6, h⟩ := bindSome h
      refine rq (out := Pr.tup [Pr.str x6, Pr.bool x7]) (qCall (token_Spell_ok x1 _ hx6)) ?_
      refine rq (out := Pr.tup [Pr.str x6, Pr.bool x7]) qMove ?_
      refine rq (out := Pr.str x6) qExtract ?_
      refine rq (out := Pr.bool x7) qExtract ?_
      refine rq (out := Pr.str x6) qAssign ?_
      refine rq (out := Pr.bool x7) qAssign ?_
      refine W_seq ?_
      refine W_rs ?_
      refine rq (out := Pr.i64 0) qAssign ?_
      refine W_block ?_
      obtain ⟨z6l, hz6, h⟩ := bindSome h
      obtain ⟨n6, hN6⟩ := iter_some hz6
      clear hz6
      refine W_after 0 (fun e C => law04_TokenBack_k5 x6 x7 x1 = some r ∧ At [(0, Pr.lst Rp.str x1), (5, Pr.str x6), (6, Pr.bool x7)] [] e C) ?_ ?_
      · rintro e C ⟨h, hat5⟩
        refine W_at hat5 ?_
        clear hat5
        unfold law04_TokenBack_k5 at h
        refine W_rs ?_
        refine rq (out := Pr.str x6) qMove ?_
        obtain ⟨⟨x16, x17, x18⟩, hx16, h⟩ := bindSome h
        refine rq (out := Pr.tup [Pr.lst rApiToken x16, Pr.i64 x17, Pr.i64 x18]) (qCall (ref03_Lex_ok x6 _ hx16)) ?_
        refine rq (out := Pr.tup [Pr.lst rApiToken x16, Pr.i64 x17, Pr.i64 x18]) qMove ?_
        refine rq (out := Pr.lst rApiToken x16) qExtract ?_
        refine rq (out := Pr.i64 x17) qExtract ?_
        refine rq (out := Pr.i64 x18) qExtract ?_
        refine rq (out := Pr.lst rApiToken x16) qAssign ?_
        refine rq (out := Pr.i64 x17) qAssign ?_
        refine rq (out := Pr.i64 x18) qAssign ?_
        refine W_seq ?_
        refine W_join (fun e C => ∃ (x34 : Bool), law04_TokenBack_j4 x1 x16 x34 = some r ∧ At [(0, Pr.lst Rp.str x1), (8, Pr.lst rApiToken x16), (68, Pr.bool x34)] [] e C) ?_ ?_
        · rintro e C ⟨x34, h, hat4⟩
          refine W_at hat4 ?_
          clear hat4
          unfold law04_TokenBack_j4 at h
          refine W_cond (b := x34) rfl (fun hc35 => ?_) (fun hc35 => ?_)
          · replace h := iteT hc35 h
            refine W_rs ?_
            refine rq (out := Pr.bool false) qAssign ?_
            obtain rfl := Option.some.inj h
            exact W_ret ⟨rfl, Pr.le_rfl⟩
          · replace h := iteF hc35 h
            refine W_skip ?_
            refine W_seq ?_
            refine W_rs ?_
            refine rq (out := Pr.i64 0) qAssign ?_
            refine W_block ?_
            obtain ⟨z2l, hz2, h⟩ := bindSome h
            obtain ⟨n2, hN2⟩ := iter_some hz2
            clear hz2
            refine W_after 2 (fun e C => law04_TokenBack_k1 = some r ∧ At [] [] e C) ?_ ?_
            · rintro e C ⟨h, hat1⟩
              refine W_at hat1 ?_
              clear hat1
              unfold law04_TokenBack_k1 at h
              refine W_rs ?_
              refine rq (out := Pr.bool true) qAssign ?_
              obtain rfl := Option.some.inj h
              exact W_ret ⟨rfl, Pr.le_rfl⟩
            · refine W_loop (fun m e C => ∃ (x36 : Int), IterN (fun s => law04_TokenBack_l2 x1 x16 s) m x36 = some z2l ∧ At [(0, Pr.lst Rp.str x1), (8, Pr.lst rApiToken x16), (11, Pr.i64 x36)] [] e C) n2 ⟨0, hN2, ⟨⟨Pr.le_rfl, Pr.le_rfl, Pr.le_rfl, trivial⟩, Pick.refl _⟩⟩ ?_
              clear hN2
              rintro m e C ⟨x36, hN2, hatl2⟩
              refine W_at hatl2 ?_
              clear hatl2
              obtain ⟨m2, w2l, rfl, h2l, hn2, ho2⟩ := iterN_some hN2
              clear hN2
              replace h2l : law04_TokenBack_l2 x1 x16 x36 = some w2l := h2l
              unfold law04_TokenBack_l2 at h2l
              refine W_seq ?_
              refine W_rs ?_
              refine rq (out := Pr.i64 x36) qMove ?_
              refine rq (out := Pr.lst Rp.str x1) qMove ?_
              refine rq (out := Pr.i64 (x1.length : Int)) (qLenL rfl Tryd.underlying35) ?_
              refine rq (out := Pr.bool (decide (x36 < (x1.length : Int)))) qInt ?_
              refine W_cond (b := decide (x36 < (x1.length : Int))) rfl (fun hc38 => ?_) (fun hc38 => ?_)
              · replace h2l := iteT hc38 h2l
                refine W_skip ?_
                refine W_seq ?_
                refine W_block ?_
                refine W_join (fun e C => ∃ (x50 : Bool), law04_TokenBack_j3 x36 x50 = some w2l ∧ At [(0, Pr.lst Rp.str x1), (8, Pr.lst rApiToken x16), (11, Pr.i64 x36), (101, Pr.bool x50)] [] e C) ?_ ?_
                · rintro e C ⟨x50, h2l, hat3⟩
                  refine W_at hat3 ?_
                  clear hat3
                  unfold law04_TokenBack_j3 at h2l
                  refine W_cond (b := x50) rfl (fun hc51 => ?_) (fun hc51 => ?_)
                  · replace h2l := iteT hc51 h2l
                    refine W_rs ?_
                    refine rq (out := Pr.bool false) qAssign ?_
                    obtain rfl := ho2 _ (Option.some.inj h2l).symm
                    replace h : some false = some r := h
                    obtain rfl := Option.some.inj h
                    exact W_ret ⟨rfl, Pr.le_rfl⟩
                  · replace h2l := iteF hc51 h2l
                    refine W_skip ?_
                    refine W_r ?_
                    refine rq (out := Pr.i64 x36) qMove ?_
                    refine rq (out := Pr.i64 (w64 (x36 + 1))) qInt ?_
                    refine rq (out := Pr.i64 (w64 (x36 + 1))) qAssign ?_
                    exact ⟨m2, Nat.lt_succ_self _, w64 (x36 + 1), hn2 _ (Option.some.inj h2l).symm, ⟨⟨Pr.le_rfl, Pr.le_rfl, Pr.le_rfl, trivial⟩, Pick.refl _⟩⟩
                · refine W_draw 27 hmx (by kernel_rfl) (by kernel_rfl) ?_
                  refine qq (out := Pr.lst rApiToken x16) qMove ?_
                  refine qq (out := Pr.i64 x36) qMove ?_
                  obtain ⟨x39, hx39, h2l⟩ := bindSome h2l
                  refine qq (out := Pr.cpt rApiToken x39) (qIdxA (R := rApiToken) (l := x16) Tryd.underlying23 Tryd.sizeOf30 hx39) ?_
                  refine qq (out := Pr.cpt Rp.str x39.Lead) (qFieldC (R := rApiToken) (a := x39) fld30_3 subApiToken_Lead) ?_
                  refine qq (out := Pr.str x39.Lead) (qLoadC (R := Rp.str) (a := x39.Lead) ty9) ?_
                  refine qq (out := Pr.bool (!(x39.Lead == []))) qStr ?_
                  refine qq (out := Pr.bool (!(x39.Lead == []))) qMove ?_
                  rcases iteSome h2l with ⟨hc40, h2l⟩ | ⟨hc40, h2l⟩
                  · refine qqg hc40 (out := Pr.lst rApiToken x16) qMove ?_
                    refine qqg hc40 (out := Pr.i64 x36) qMove ?_
                    obtain ⟨x41, hx41, h2l⟩ := bindSome h2l
                    refine qqg hc40 (out := Pr.cpt rApiToken x41) (qIdxA (R := rApiToken) (l := x16) Tryd.underlying23 Tryd.sizeOf30 hx41) ?_
                    refine qqg hc40 (out := Pr.cpt Rp.str x41.Lead) (qFieldC (R := rApiToken) (a := x41) fld30_3 subApiToken_Lead) ?_
                    refine qqg hc40 (out := Pr.str x41.Lead) (qLoadC (R := Rp.str) (a := x41.Lead) ty9) ?_
                    refine qqg hc40 (out := Pr.bool (!(x41.Lead == ([32] : List UInt8)))) qStr ?_
                    refine qq (out := Pr.bool (!(x41.Lead == ([32] : List UInt8)))) (qPickT hc40) ?_
                    refine qq (out := Pr.bool (!(x41.Lead == ([32] : List UInt8)))) qMove ?_
                    rcases iteSome h2l with ⟨hc42, h2l⟩ | ⟨hc42, h2l⟩
                    · refine qqno (neF hc42) ?_
                      refine qqno (neF hc42) ?_
                      refine qqno (neF hc42) ?_
                      refine qqno (neF hc42) ?_
                      refine qqno (neF hc42) ?_
                      refine qqno (neF hc42) ?_
                      refine qqno (neF hc42) ?_
                      refine qqno (neF hc42) ?_
                      refine qqno (neF hc42) ?_
                      refine qqno (neF hc42) ?_
                      refine qqno (neF hc42) ?_
                      refine qq (out := Pr.bool true) (qPickT hc42) ?_
                      exact ⟨true, h2l, ⟨⟨Pr.le_rfl, Pr.le_rfl, Pr.le_rfl, Pr.le_rfl, trivial⟩, Pick.refl _⟩⟩
                    · refine qqg hc42 (out := Pr.lst rApiToken x16) qMove ?_
                      refine qqg hc42 (out := Pr.i64 x36) qMove ?_
                      obtain ⟨x43, hx43, h2l⟩ := bindSome h2l
                      refine qqg hc42 (out := Pr.cpt rApiToken x43) (qIdxA (R := rApiToken) (l := x16) Tryd.underlying23 Tryd.sizeOf30 hx43) ?_
                      refine qqg hc42 (out := Pr.cpt (Rp.int .i64) x43.Kind) (qFieldC (R := rApiToken) (a := x43) fld30_0 subApiToken_Kind) ?_
                      refine qqg hc42 (out := Pr.i64 x43.Kind) (qLoadC (R := Rp.int .i64) (a := x43.Kind) ty3) ?_
                      refine qqg hc42 (out := Pr.lst Rp.str x1) qMove ?_
                      refine qqg hc42 (out := Pr.i64 x36) qMove ?_
                      obtain ⟨x44, hx44, h2l⟩ := bindSome h2l
                      refine qqg hc42 (out := Pr.cpt Rp.str x44) (qIdxA (R := Rp.str) (l := x1) Tryd.underlying35 Tryd.sizeOf9 hx44) ?_
                      refine qqg hc42 (out := Pr.str x44) (qLoadC (R := Rp.str) (a := x44) ty9) ?_
                      obtain ⟨x45, hx45, h2l⟩ := bindSome h2l
                      refine qqg hc42 (out := Pr.i64 x45) (qCall (token_Kind_ok x44 _ hx45)) ?_
                      refine qqg hc42 (out := Pr.bool (x43.Kind != x45)) qInt ?_
                      refine qq (out := Pr.bool (x43.Kind != x45)) (qPickF hc42) ?_
                      exact ⟨x43.Kind != x45, h2l, ⟨⟨Pr.le_rfl, Pr.le_rfl, Pr.le_rfl, Pr.le_rfl, trivial⟩, Pick.refl _⟩⟩
                  · refine qqno (neT hc40) ?_
                    refine qqno (neT hc40) ?_
                    refine qqno (neT hc40) ?_
                    refine qqno (neT hc40) ?_
                    refine qqno (neT hc40) ?_
                    refine qqno (neT hc40) ?_
                    refine qq (out := Pr.bool false) (qPickF hc40) ?_
                    refine qq (out := Pr.bool false) qMove ?_
                    have hc46 : false = false := rfl
                    refine qqg hc46 (out := Pr.lst rApiToken x16) qMove ?_
                    refine qqg hc46 (out := Pr.i64 x36) qMove ?_
                    obtain ⟨x47, hx47, h2l⟩ := bindSome h2l
                    refine qqg hc46 (out := Pr.cpt rApiToken x47) (qIdxA (R := rApiToken) (l := x16) Tryd.underlying23 Tryd.sizeOf30 hx47) ?_
                    refine qqg hc46 (out := Pr.cpt (Rp.int .i64) x47.Kind) (qFieldC (R := rApiToken) (a := x47) fld30_0 subApiToken_Kind) ?_
                    refine qqg hc46 (out := Pr.i64 x47.Kind) (qLoadC (R := Rp.int .i64) (a := x47.Kind) ty3) ?_
                    refine qqg hc46 (out := Pr.lst Rp.str x1) qMove ?_
                    refine qqg hc46 (out := Pr.i64 x36) qMove ?_
                    obtain ⟨x48, hx48, h2l⟩ := bindSome h2l
                    refine qqg hc46 (out := Pr.cpt Rp.str x48) (qIdxA (R := Rp.str) (l := x1) Tryd.underlying35 Tryd.sizeOf9 hx48) ?_
                    refine qqg hc46 (out := Pr.str x48) (qLoadC (R := Rp.str) (a := x48) ty9) ?_
                    obtain ⟨x49, hx49, h2l⟩ := bindSome h2l
                    refine qqg hc46 (out := Pr.i64 x49) (qCall (token_Kind_ok x48 _ hx49)) ?_
                    refine qqg hc46 (out := Pr.bool (x47.Kind != x49)) qInt ?_
                    refine qq (out := Pr.bool (x47.Kind != x49)) (qPickF hc46) ?_
                    exact ⟨x47.Kind != x49, h2l, ⟨⟨Pr.le_rfl, Pr.le_rfl, Pr.le_rfl, Pr.le_rfl, trivial⟩, Pick.refl _⟩⟩
              · replace h2l := iteF hc38 h2l
                refine W_exit ?_
                obtain rfl := ho2 _ (Option.some.inj h2l).symm
                exact ⟨h, ⟨trivial, Pick.refl _⟩⟩
        · refine W_r ?_
          refine rq (out := Pr.bool x7) qMove ?_
          refine rq (out := Pr.bool (!x7)) qNot ?_
          refine rq (out := Pr.bool (!x7)) qMove ?_
          rcases iteSome h with ⟨hc19, h⟩ | ⟨hc19, h⟩
          · refine rno (neF hc19) ?_
            refine rno (neF hc19) ?_
            refine rq (out := Pr.bool true) (qPickT hc19) ?_
            refine rq (out := Pr.bool true) qMove ?_
            have hc27 : true = true := rfl
            refine rno (neF hc27) ?_
            refine rno (neF hc27) ?_
            refine rno (neF hc27) ?_
            refine rno (neF hc27) ?_
            refine rno (neF hc27) ?_
            refine rno (neF hc27) ?_
            refine rq (out := Pr.bool true) (qPickT hc27) ?_
            refine rq (out := Pr.bool true) qMove ?_
            have hc31 : true = true := rfl
            refine rno (neF hc31) ?_
            refine rno (neF hc31) ?_
            refine rno (neF hc31) ?_
            refine rno (neF hc31) ?_
            refine rno (neF hc31) ?_
            refine rq (out := Pr.bool true) (qPickT hc31) ?_
            exact ⟨true, h, ⟨⟨Pr.le_rfl, Pr.le_rfl, Pr.le_rfl, trivial⟩, Pick.refl _⟩⟩
          · refine rqg hc19 (out := Pr.i64 x18) qMove ?_
            refine rqg hc19 (out := Pr.bool (x18 != 0)) qInt ?_
            refine rq (out := Pr.bool (x18 != 0)) (qPickF hc19) ?_
            refine rq (out := Pr.bool (x18 != 0)) qMove ?_
            rcases iteSome h with ⟨hc20, h⟩ | ⟨hc20, h⟩
            · refine rno (neF hc20) ?_
              refine rno (neF hc20) ?_
              refine rno (neF hc20) ?_
              refine rno (neF hc20) ?_
              refine rno (neF hc20) ?_
              refine rno (neF hc20) ?_
              refine rq (out := Pr.bool true) (qPickT hc20) ?_
              refine rq (out := Pr.bool true) qMove ?_
              have hc24 : true = true := rfl
              refine rno (neF hc24) ?_
              refine rno (neF hc24) ?_
              refine rno (neF hc24) ?_
              refine rno (neF hc24) ?_
              refine rno (neF hc24) ?_
              refine rq (out := Pr.bool true) (qPickT hc24) ?_
              exact ⟨true, h, ⟨⟨Pr.le_rfl, Pr.le_rfl, Pr.le_rfl, trivial⟩, Pick.refl _⟩⟩
            · refine rqg hc20 (out := Pr.lst rApiToken x16) qMove ?_
              refine rqg hc20 (out := Pr.i64 (x16.length : Int)) (qLenL rfl Tryd.underlying23) ?_
              refine rqg hc20 (out := Pr.lst Rp.str x1) qMove ?_
              refine rqg hc20 (out := Pr.i64 (x1.length : Int)) (qLenL rfl Tryd.underlying35) ?_
              refine rqg hc20 (out := Pr.i64 (w64 ((x1.length : Int) + 1))) qInt ?_
              refine rqg hc20 (out := Pr.bool ((x16.length : Int) != (w64 ((x1.length : Int) + 1)))) qInt ?_
              refine rq (out := Pr.bool ((x16.length : Int) != (w64 ((x1.length : Int) + 1)))) (qPickF hc20) ?_
              refine rq (out := Pr.bool ((x16.length : Int) != (w64 ((x1.length : Int) + 1)))) qMove ?_
              rcases iteSome h with ⟨hc21, h⟩ | ⟨hc21, h⟩
              · refine rno (neF hc21) ?_
                refine rno (neF hc21) ?_
                refine rno (neF hc21) ?_
                refine rno (neF hc21) ?_
                refine rno (neF hc21) ?_
                refine rq (out := Pr.bool true) (qPickT hc21) ?_
                exact ⟨true, h, ⟨⟨Pr.le_rfl, Pr.le_rfl, Pr.le_rfl, trivial⟩, Pick.refl _⟩⟩
              · refine rqg hc21 (out := Pr.lst rApiToken x16) qMove ?_
                obtain ⟨x22, hx22, h⟩ := bindSome h
                refine rqg hc21 (out := Pr.lst Rp.str x22) (qCall (token_Texts_ok x16 _ hx22)) ?_
                refine rqg hc21 (out := Pr.lst Rp.str x1) qMove ?_
                obtain ⟨x23, hx23, h⟩ := bindSome h
                refine rqg hc21 (out := Pr.bool x23) (qCall (ref01_Same_ok x22 x1 _ hx23)) ?_
                refine rqg hc21 (out := Pr.bool (!x23)) qNot ?_
                refine rq (out := Pr.bool (!x23)) (qPickF hc21) ?_
                exact ⟨!x23, h, ⟨⟨Pr.le_rfl, Pr.le_rfl, Pr.le_rfl, trivial⟩, Pick.refl _⟩⟩
      · refine W_loop (fun m e C => ∃ (x8 : Int), IterN (fun s => law04_TokenBack_l6 x1 x7 x6 s) m x8 = some z6l ∧ At [(0, Pr.lst Rp.str x1), (5, Pr.str x6), (6, Pr.bool x7), (7, Pr.i64 x8)] [] e C) n6 ⟨0, hN6, ⟨⟨Pr.le_rfl, Pr.le_rfl, Pr.le_rfl, Pr.le_rfl, trivial⟩, Pick.refl _⟩⟩ ?_
        clear hN6
        rintro m e C ⟨x8, hN6, hatl6⟩
        refine W_at hatl6 ?_
        clear hatl6
        obtain ⟨m6, w6l, rfl, h6l, hn6, ho6⟩ := iterN_some hN6
        clear hN6
        replace h6l : law04_TokenBack_l6 x1 x7 x6 x8 = some w6l := h6l
        unfold law04_TokenBack_l6 at h6l
        refine W_seq ?_
        refine W_rs ?_
        refine rq (out := Pr.i64 x8) qMove ?_
        refine rq (out := Pr.lst Rp.str x1) qMove ?_
        refine rq (out := Pr.i64 (x1.length : Int)) (qLenL rfl Tryd.underlying35) ?_
        refine rq (out := Pr.bool (decide (x8 < (x1.length : Int)))) qInt ?_
        refine W_cond (b := decide (x8 < (x1.length : Int))) rfl (fun hc10 => ?_) (fun hc10 => ?_)
        · replace h6l := iteT hc10 h6l
          refine W_skip ?_
          refine W_seq ?_
          refine W_block ?_
          refine W_rs ?_
          refine rq (out := Pr.lst Rp.str x1) qMove ?_
          refine rq (out := Pr.i64 x8) qMove ?_
          obtain ⟨x11, hx11, h6l⟩ := bindSome h6l
          refine rq (out := Pr.cpt Rp.str x11) (qIdxA (R := Rp.str) (l := x1) Tryd.underlying35 Tryd.sizeOf9 hx11) ?_
          refine rq (out := Pr.str x11) (qLoadC (R := Rp.str) (a := x11) ty9) ?_
          obtain ⟨x12, hx12, h6l⟩ := bindSome h6l
          refine rq (out := Pr.i64 x12) (qCall (token_Kind_ok x11 _ hx12)) ?_
          refine rq (out := Pr.bool (x12 == 0)) qInt ?_
          refine W_cond (b := x12 == 0) rfl (fun hc13 => ?_) (fun hc13 => ?_)
          · replace h6l := iteT hc13 h6l
            refine W_join (fun e C => ∃ (x15 : Bool), law04_TokenBack_j7 x15 = some w6l ∧ At [(2, Pr.bool x15)] [] e C) ?_ ?_
            · rintro e C ⟨x15, h6l, hat7⟩
              refine W_at hat7 ?_
              clear hat7
              unfold law04_TokenBack_j7 at h6l
              obtain rfl := ho6 _ (Option.some.inj h6l).symm
              replace h : some x15 = some r := h
              obtain rfl := Option.some.inj h
              exact W_ret ⟨rfl, Pr.le_rfl⟩
            · refine W_r ?_
              refine rq (out := Pr.bool x7) qMove ?_
              refine rq (out := Pr.bool (!x7)) qNot ?_
              refine rq (out := Pr.bool (!x7)) qMove ?_
              rcases iteSome h6l with ⟨hc14, h6l⟩ | ⟨hc14, h6l⟩
              · refine rqg hc14 (out := Pr.str x6) qMove ?_
                refine rqg hc14 (out := Pr.bool (x6 == [])) qStr ?_
                refine rq (out := Pr.bool (x6 == [])) (qPickT hc14) ?_
                refine rq (out := Pr.bool (x6 == [])) qAssign ?_
                exact ⟨x6 == [], h6l, ⟨⟨Pr.le_rfl, trivial⟩, Pick.refl _⟩⟩
              · refine rno (neT hc14) ?_
                refine rno (neT hc14) ?_
                refine rq (out := Pr.bool false) (qPickF hc14) ?_
                refine rq (out := Pr.bool false) qAssign ?_
                exact ⟨false, h6l, ⟨⟨Pr.le_rfl, trivial⟩, Pick.refl _⟩⟩
          · replace h6l := iteF hc13 h6l
            refine W_skip ?_
            refine W_r ?_
            refine rq (out := Pr.i64 x8) qMove ?_
            refine rq (out := Pr.i64 (w64 (x8 + 1))) qInt ?_
            refine rq (out := Pr.i64 (w64 (x8 + 1))) qAssign ?_
            exact ⟨m6, Nat.lt_succ_self _, w64 (x8 + 1), hn6 _ (Option.some.inj h6l).symm, ⟨⟨Pr.le_rfl, Pr.le_rfl, Pr.le_rfl, Pr.le_rfl, trivial⟩, Pick.refl _⟩⟩
        · replace h6l := iteF hc10 h6l
          refine W_exit ?_
          obtain rfl := ho6 _ (Option.some.inj h6l).symm
          exact ⟨h, ⟨⟨Pr.le_rfl, Pr.le_rfl, Pr.le_rfl, trivial⟩, Pick.refl _⟩⟩
theorem law04_TokenPlaces_ok (x1 : List UInt8) (x2 : Int) (r : Bool) (h : law04_TokenPlaces x1 x2 = some r) : FnP Tryd.prog 10 [Pr.str x1, Pr.i64 x2] (Pr.bool r) := by
  refine fn_intro (n := 115) (rs := [4]) Tryd.func10 rfl Tryd.ntmps10 ⟨by decide, Tryd.results10⟩ (by decide) (fun s0 => ?_)
  unfold law04_TokenPlaces at h
  refine W_rs ?_
  refine rq (out := Pr.bool false) qAssign ?_
  refine W_rs ?_
  obtain ⟨x3, hx3, h⟩ := bindSome h
  refine rq (out := Pr.bool x3) (qCall (law04_awake_ok  _ hx3)) ?_
  refine rq (out := Pr.bool x3) qAssign ?_
  refine W_seq ?_
  refine W_rs ?_
  refine rq (out := Pr.bool x3) qMove ?_
  refine rq (out := Pr.bool (!x3)) qNot ?_
  refine W_cond (b := !x3) rfl (fun hc4 => ?_) (fun hc4 => ?_)
  · replace h := iteT hc4 h
    refine W_rs ?_
    refine rq (out := Pr.bool false) qAssign ?_
    obtain rfl := Option.some.inj h
    exact W_ret ⟨rfl, Pr.le_rfl⟩
  · replace h := iteF hc4 h
    refine W_skip ?_
    refine W_seq ?_
    refine W_join (fun e C => ∃ (x8 : Bool), law04_TokenPlaces_j5 x1 x2 x8 = some r ∧ At [(0, Pr.str x1), (1, Pr.i64 x2), (26, Pr.bool x8)] [] e C) ?_ ?_
    · rintro e C ⟨x8, h, hat5⟩
      refine W_at hat5 ?_
      clear hat5
      unfold law04_TokenPlaces_j5 at h
      refine W_cond (b := x8) rfl (fun hc9 => ?_) (fun hc9 => ?_)
      · replace h := iteT hc9 h
        refine W_rs ?_
        refine rq (out := Pr.bool true) qAssign ?_
        obtain rfl := Option.some.inj h
        exact W_ret ⟨rfl, Pr.le_rfl⟩
      · replace h := iteF hc9 h
        refine W_skip ?_
        refine W_rs ?_
        refine rq (out := Pr.str x1) qMove ?_
        obtain ⟨⟨x10, x11, x12⟩, hx10, h⟩ := bindSome h
        refine rq (out := Pr.tup [Pr.lst rApiToken x10, Pr.i64 x11, Pr.i64 x12]) (qCall (ref03_Lex_ok x1 _ hx10)) ?_
        refine rq (out := Pr.tup [Pr.lst rApiToken x10, Pr.i64 x11, Pr.i64 x12]) qMove ?_
        refine rq (out := Pr.lst rApiToken x10) qExtract ?_
        refine rq (out := Pr.i64 x11) qExtract ?_
        refine rq (out := Pr.i64 x12) qExtract ?_
        refine rq (out := Pr.lst rApiToken x10) qAssign ?_
        refine rq (out := Pr.i64 x11) qAssign ?_
        refine rq (out := Pr.i64 x12) qAssign ?_
        refine W_seq ?_
        refine W_rs ?_
        refine rq (out := Pr.i64 x12) qMove ?_
        refine rq (out := Pr.bool (x12 != 0)) qInt ?_
        refine W_cond (b := x12 != 0) rfl (fun hc13 => ?_) (fun hc13 => ?_)
        · replace h := iteT hc13 h
          refine W_rs ?_
          refine rq (out := Pr.bool true) qAssign ?_
          obtain rfl := Option.some.inj h
          exact W_ret ⟨rfl, Pr.le_rfl⟩
        · replace h := iteF hc13 h
          refine W_skip ?_
          refine W_rs ?_
          refine rq (out := Pr.lst rApiToken x10) qMove ?_
          refine rq (out := Pr.i64 x2) qMove ?_
          obtain ⟨x14, hx14, h⟩ := bindSome h
          refine rq (out := Pr.i64 x14) (qCall (token_At_ok x10 x2 _ hx14)) ?_
          refine rq (out := Pr.i64 x14) qAssign ?_
          refine W_seq ?_
          refine W_rs ?_
          refine rq (out := Pr.i64 x14) qMove ?_
          refine rq (out := Pr.lst rApiToken x10) qMove ?_
          refine rq (out := Pr.i64 (x10.length : Int)) (qLenL rfl Tryd.underlying23) ?_
          refine rq (out := Pr.bool (decide (x14 ≥ (x10.length : Int)))) qInt ?_
          refine W_cond (b := decide (x14 ≥ (x10.length : Int))) rfl (fun hc15 => ?_) (fun hc15 => ?_)
          · replace h := iteT hc15 h
            refine W_rs ?_
            refine rq (out := Pr.bool false) qAssign ?_
            obtain rfl := Option.some.inj h
            exact W_ret ⟨rfl, Pr.le_rfl⟩
          · replace h := iteF hc15 h
            refine W_skip ?_
            refine W_seq ?_
            refine W_rs ?_
            refine rq (out := Pr.i64 x14) qMove ?_
            refine rq (out := Pr.bool (decide (x14 ≥ 0))) qInt ?_
            refine W_cond (b := decide (x14 ≥ 0)) rfl (fun hc16 => ?_) (fun hc16 => ?_)
            · replace h := iteT hc16 h
              refine W_join (fun e C => ∃ (x31 : Bool), law04_TokenPlaces_j1 x31 = some r ∧ At [(4, Pr.bool x31)] [] e C) ?_ ?_
              · rintro e C ⟨x31, h, hat1⟩
                refine W_at hat1 ?_
                clear hat1
                unfold law04_TokenPlaces_j1 at h
                obtain rfl := Option.some.inj h
                exact W_ret ⟨rfl, Pr.le_rfl⟩
              · refine W_draw 43 hmx (by kernel_rfl) (by kernel_rfl) ?_
                refine qq (out := Pr.lst rApiToken x10) qMove ?_
                refine qq (out := Pr.i64 x14) qMove ?_
                obtain ⟨x17, hx17, h⟩ := bindSome h
                refine qq (out := Pr.cpt rApiToken x17) (qIdxA (R := rApiToken) (l := x10) Tryd.underlying23 Tryd.sizeOf30 hx17) ?_
                refine qq (out := Pr.cpt (Rp.int .i64) x17.At) (qFieldC (R := rApiToken) (a := x17) fld30_2 subApiToken_At) ?_
                refine qq (out := Pr.i64 x17.At) (qLoadC (R := Rp.int .i64) (a := x17.At) ty3) ?_
                refine qq (out := Pr.i64 x2) qMove ?_
                refine qq (out := Pr.bool (decide (x17.At ≤ x2))) qInt ?_
                refine qq (out := Pr.bool (decide (x17.At ≤ x2))) qMove ?_
                rcases iteSome h with ⟨hc18, h⟩ | ⟨hc18, h⟩
                · refine qqg hc18 (out := Pr.i64 x2) qMove ?_
                  refine qqg hc18 (out := Pr.lst rApiToken x10) qMove ?_
                  refine qqg hc18 (out := Pr.i64 x14) qMove ?_
                  obtain ⟨x19, hx19, h⟩ := bindSome h
                  refine qqg hc18 (out := Pr.cpt rApiToken x19) (qIdxA (R := rApiToken) (l := x10) Tryd.underlying23 Tryd.sizeOf30 hx19) ?_
                  refine qqg hc18 (out := Pr.cpt (Rp.int .i64) x19.At) (qFieldC (R := rApiToken) (a := x19) fld30_2 subApiToken_At) ?_
                  refine qqg hc18 (out := Pr.i64 x19.At) (qLoadC (R := Rp.int .i64) (a := x19.At) ty3) ?_
                  refine qqg hc18 (out := Pr.lst rApiToken x10) qMove ?_
                  refine qqg hc18 (out := Pr.i64 x14) qMove ?_
                  obtain ⟨x20, hx20, h⟩ := bindSome h
                  refine qqg hc18 (out := Pr.cpt rApiToken x20) (qIdxA (R := rApiToken) (l := x10) Tryd.underlying23 Tryd.sizeOf30 hx20) ?_
                  refine qqg hc18 (out := Pr.cpt Rp.str x20.Text) (qFieldC (R := rApiToken) (a := x20) fld30_1 subApiToken_Text) ?_
                  refine qqg hc18 (out := Pr.str x20.Text) (qLoadC (R := Rp.str) (a := x20.Text) ty9) ?_
                  refine qqg hc18 (out := Pr.i64 (x20.Text.length : Int)) (qLenS rfl Tryd.underlying9) ?_
                  refine qqg hc18 (out := Pr.i64 (w64 (x19.At + (x20.Text.length : Int)))) qInt ?_
                  refine qqg hc18 (out := Pr.bool (decide (x2 < (w64 (x19.At + (x20.Text.length : Int)))))) qInt ?_
                  refine qq (out := Pr.bool (decide (x2 < (w64 (x19.At + (x20.Text.length : Int)))))) (qPickT hc18) ?_
                  refine qq (out := Pr.bool (decide (x2 < (w64 (x19.At + (x20.Text.length : Int)))))) qMove ?_
                  rcases iteSome h with ⟨hc21, h⟩ | ⟨hc21, h⟩
                  · refine qqg hc21 (out := Pr.lst rApiToken x10) qMove ?_
                    refine qqg hc21 (out := Pr.i64 x14) qMove ?_
                    obtain ⟨x22, hx22, h⟩ := bindSome h
                    refine qqg hc21 (out := Pr.cpt rApiToken x22) (qIdxA (R := rApiToken) (l := x10) Tryd.underlying23 Tryd.sizeOf30 hx22) ?_
                    refine qqg hc21 (out := Pr.cpt Rp.str x22.Text) (qFieldC (R := rApiToken) (a := x22) fld30_1 subApiToken_Text) ?_
                    refine qqg hc21 (out := Pr.str x22.Text) (qLoadC (R := Rp.str) (a := x22.Text) ty9) ?_
                    refine qqg hc21 (out := Pr.i64 x2) qMove ?_
                    refine qqg hc21 (out := Pr.lst rApiToken x10) qMove ?_
                    refine qqg hc21 (out := Pr.i64 x14) qMove ?_
                    obtain ⟨x23, hx23, h⟩ := bindSome h
                    refine qqg hc21 (out := Pr.cpt rApiToken x23) (qIdxA (R := rApiToken) (l := x10) Tryd.underlying23 Tryd.sizeOf30 hx23) ?_
                    refine qqg hc21 (out := Pr.cpt (Rp.int .i64) x23.At) (qFieldC (R := rApiToken) (a := x23) fld30_2 subApiToken_At) ?_
                    refine qqg hc21 (out := Pr.i64 x23.At) (qLoadC (R := Rp.int .i64) (a := x23.At) ty3) ?_
                    refine qqg hc21 (out := Pr.i64 (w64 (x2 - x23.At))) qInt ?_
                    obtain ⟨x24, hx24, h⟩ := bindSome h
                    refine qqg hc21 (out := Pr.u8 x24) (qIdxS Tryd.underlying9 hx24) ?_
                    refine qqg hc21 (out := Pr.str x1) qMove ?_
                    refine qqg hc21 (out := Pr.i64 x2) qMove ?_
                    obtain ⟨x25, hx25, h⟩ := bindSome h
                    refine qqg hc21 (out := Pr.u8 x25) (qIdxS Tryd.underlying9 hx25) ?_
                    refine qqg hc21 (out := Pr.bool (x24 == x25)) qInt ?_
                    refine qq (out := Pr.bool (x24 == x25)) (qPickT hc21) ?_
                    refine qq (out := Pr.bool (x24 == x25)) qAssign ?_
                    exact ⟨x24 == x25, h, ⟨⟨Pr.le_rfl, trivial⟩, Pick.refl _⟩⟩
                  · refine qqno (neT hc21) ?_
                    refine qqno (neT hc21) ?_
                    refine qqno (neT hc21) ?_
                    refine qqno (neT hc21) ?_
                    refine qqno (neT hc21) ?_
                    refine qqno (neT hc21) ?_
                    refine qqno (neT hc21) ?_
                    refine qqno (neT hc21) ?_
                    refine qqno (neT hc21) ?_
                    refine qqno (neT hc21) ?_
                    refine qqno (neT hc21) ?_
                    refine qqno (neT hc21) ?_
                    refine qqno (neT hc21) ?_
                    refine qqno (neT hc21) ?_
                    refine qqno (neT hc21) ?_
                    refine qqno (neT hc21) ?_
                    refine qqno (neT hc21) ?_
                    refine qq (out := Pr.bool false) (qPickF hc21) ?_
                    refine qq (out := Pr.bool false) qAssign ?_
                    exact ⟨false, h, ⟨⟨Pr.le_rfl, trivial⟩, Pick.refl _⟩⟩
                · refine qqno (neT hc18) ?_
                  refine qqno (neT hc18) ?_
                  refine qqno (neT hc18) ?_
                  refine qqno (neT hc18) ?_
                  refine qqno (neT hc18) ?_
                  refine qqno (neT hc18) ?_
                  refine qqno (neT hc18) ?_
                  refine qqno (neT hc18) ?_
                  refine qqno (neT hc18) ?_
                  refine qqno (neT hc18) ?_
                  refine qqno (neT hc18) ?_
                  refine qqno (neT hc18) ?_
                  refine qqno (neT hc18) ?_
                  refine qqno (neT hc18) ?_
                  refine qq (out := Pr.bool false) (qPickF hc18) ?_
                  refine qq (out := Pr.bool false) qMove ?_
                  have hc26 : false = false := rfl
                  refine qqno (neT hc26) ?_
                  refine qqno (neT hc26) ?_
                  refine qqno (neT hc26) ?_
                  refine qqno (neT hc26) ?_
                  refine qqno (neT hc26) ?_
                  refine qqno (neT hc26) ?_
                  refine qqno (neT hc26) ?_
                  refine qqno (neT hc26) ?_
                  refine qqno (neT hc26) ?_
                  refine qqno (neT hc26) ?_
                  refine qqno (neT hc26) ?_
                  refine qqno (neT hc26) ?_
                  refine qqno (neT hc26) ?_
                  refine qqno (neT hc26) ?_
                  refine qqno (neT hc26) ?_
                  refine qqno (neT hc26) ?_
                  refine qqno (neT hc26) ?_
                  refine qq (out := Pr.bool false) (qPickF hc26) ?_
                  refine qq (out := Pr.bool false) qAssign ?_
                  exact ⟨false, h, ⟨⟨Pr.le_rfl, trivial⟩, Pick.refl _⟩⟩
            · replace h := iteF hc16 h
              refine W_skip ?_
              refine W_seq ?_
              refine W_rs ?_
              refine rq (out := Pr.i64 0) qAssign ?_
              refine W_block ?_
              obtain ⟨z3l, hz3, h⟩ := bindSome h
              obtain ⟨n3, hN3⟩ := iter_some hz3
              clear hz3
              refine W_after 0 (fun e C => law04_TokenPlaces_k2 = some r ∧ At [] [] e C) ?_ ?_
              · rintro e C ⟨h, hat2⟩
                refine W_at hat2 ?_
                clear hat2
                unfold law04_TokenPlaces_k2 at h
                refine W_rs ?_
                refine rq (out := Pr.bool false) qAssign ?_
                obtain rfl := Option.some.inj h
                exact W_ret ⟨rfl, Pr.le_rfl⟩
              · refine W_loop (fun m e C => ∃ (x32 : Int), IterN (fun s => law04_TokenPlaces_l3 x10 x2 s) m x32 = some z3l ∧ At [(1, Pr.i64 x2), (6, Pr.lst rApiToken x10), (10, Pr.i64 x32)] [] e C) n3 ⟨0, hN3, ⟨⟨Pr.le_rfl, Pr.le_rfl, Pr.le_rfl, trivial⟩, Pick.refl _⟩⟩ ?_
                clear hN3
                rintro m e C ⟨x32, hN3, hatl3⟩
                refine W_at hatl3 ?_
                clear hatl3
                obtain ⟨m3, w3l, rfl, h3l, hn3, ho3⟩ := iterN_some hN3
                clear hN3
                replace h3l : law04_TokenPlaces_l3 x10 x2 x32 = some w3l := h3l
                unfold law04_TokenPlaces_l3 at h3l
                refine W_seq ?_
                refine W_rs ?_
                refine rq (out := Pr.i64 x32) qMove ?_
                refine rq (out := Pr.lst rApiToken x10) qMove ?_
                refine rq (out := Pr.i64 (x10.length : Int)) (qLenL rfl Tryd.underlying23) ?_
                refine rq (out := Pr.bool (decide (x32 < (x10.length : Int)))) qInt ?_
                refine W_cond (b := decide (x32 < (x10.length : Int))) rfl (fun hc34 => ?_) (fun hc34 => ?_)
                · replace h3l := iteT hc34 h3l
                  refine W_skip ?_
                  refine W_seq ?_
                  refine W_block ?_
                  refine W_join (fun e C => ∃ (x39 : Bool), law04_TokenPlaces_j4 x32 x39 = some w3l ∧ At [(1, Pr.i64 x2), (6, Pr.lst rApiToken x10), (10, Pr.i64 x32), (114, Pr.bool x39)] [] e C) ?_ ?_
                  · rintro e C ⟨x39, h3l, hat4⟩
                    refine W_at hat4 ?_
                    clear hat4
                    unfold law04_TokenPlaces_j4 at h3l
                    refine W_cond (b := x39) rfl (fun hc40 => ?_) (fun hc40 => ?_)
                    · replace h3l := iteT hc40 h3l
                      refine W_rs ?_
                      refine rq (out := Pr.bool true) qAssign ?_
                      obtain rfl := ho3 _ (Option.some.inj h3l).symm
                      replace h : some true = some r := h
                      obtain rfl := Option.some.inj h
                      exact W_ret ⟨rfl, Pr.le_rfl⟩
                    · replace h3l := iteF hc40 h3l
                      refine W_skip ?_
                      refine W_r ?_
                      refine rq (out := Pr.i64 x32) qMove ?_
                      refine rq (out := Pr.i64 (w64 (x32 + 1))) qInt ?_
                      refine rq (out := Pr.i64 (w64 (x32 + 1))) qAssign ?_
                      exact ⟨m3, Nat.lt_succ_self _, w64 (x32 + 1), hn3 _ (Option.some.inj h3l).symm, ⟨⟨Pr.le_rfl, Pr.le_rfl, Pr.le_rfl, trivial⟩, Pick.refl _⟩⟩
                  · refine W_draw 23 hmx (by kernel_rfl) (by kernel_rfl) ?_
                    refine qq (out := Pr.i64 x2) qMove ?_
                    refine qq (out := Pr.lst rApiToken x10) qMove ?_
                    refine qq (out := Pr.i64 x32) qMove ?_
                    obtain ⟨x35, hx35, h3l⟩ := bindSome h3l
                    refine qq (out := Pr.cpt rApiToken x35) (qIdxA (R := rApiToken) (l := x10) Tryd.underlying23 Tryd.sizeOf30 hx35) ?_
                    refine qq (out := Pr.cpt (Rp.int .i64) x35.At) (qFieldC (R := rApiToken) (a := x35) fld30_2 subApiToken_At) ?_
                    refine qq (out := Pr.i64 x35.At) (qLoadC (R := Rp.int .i64) (a := x35.At) ty3) ?_
                    refine qq (out := Pr.lst rApiToken x10) qMove ?_
                    refine qq (out := Pr.i64 x32) qMove ?_
                    obtain ⟨x36, hx36, h3l⟩ := bindSome h3l
                    refine qq (out := Pr.cpt rApiToken x36) (qIdxA (R := rApiToken) (l := x10) Tryd.underlying23 Tryd.sizeOf30 hx36) ?_
                    refine qq (out := Pr.cpt Rp.str x36.Lead) (qFieldC (R := rApiToken) (a := x36) fld30_3 subApiToken_Lead) ?_
                    refine qq (out := Pr.str x36.Lead) (qLoadC (R := Rp.str) (a := x36.Lead) ty9) ?_
                    refine qq (out := Pr.i64 (x36.Lead.length : Int)) (qLenS rfl Tryd.underlying9) ?_
                    refine qq (out := Pr.i64 (w64 (x35.At - (x36.Lead.length : Int)))) qInt ?_
                    refine qq (out := Pr.bool (decide (x2 ≥ (w64 (x35.At - (x36.Lead.length : Int)))))) qInt ?_
                    refine qq (out := Pr.bool (decide (x2 ≥ (w64 (x35.At - (x36.Lead.length : Int)))))) qMove ?_
                    rcases iteSome h3l with ⟨hc37, h3l⟩ | ⟨hc37, h3l⟩
                    · refine qqg hc37 (out := Pr.i64 x2) qMove ?_
                      refine qqg hc37 (out := Pr.lst rApiToken x10) qMove ?_
                      refine qqg hc37 (out := Pr.i64 x32) qMove ?_
                      obtain ⟨x38, hx38, h3l⟩ := bindSome h3l
                      refine qqg hc37 (out := Pr.cpt rApiToken x38) (qIdxA (R := rApiToken) (l := x10) Tryd.underlying23 Tryd.sizeOf30 hx38) ?_
                      refine qqg hc37 (out := Pr.cpt (Rp.int .i64) x38.At) (qFieldC (R := rApiToken) (a := x38) fld30_2 subApiToken_At) ?_
                      refine qqg hc37 (out := Pr.i64 x38.At) (qLoadC (R := Rp.int .i64) (a := x38.At) ty3) ?_
                      refine qqg hc37 (out := Pr.bool (decide (x2 < x38.At))) qInt ?_
                      refine qq (out := Pr.bool (decide (x2 < x38.At))) (qPickT hc37) ?_
                      exact ⟨decide (x2 < x38.At), h3l, ⟨⟨Pr.le_rfl, Pr.le_rfl, Pr.le_rfl, Pr.le_rfl, trivial⟩, Pick.refl _⟩⟩
                    · refine qqno (neT hc37) ?_
                      refine qqno (neT hc37) ?_
                      refine qqno (neT hc37) ?_
                      refine qqno (neT hc37) ?_
                      refine qqno (neT hc37) ?_
                      refine qqno (neT hc37) ?_
                      refine qqno (neT hc37) ?_
                      refine qq (out := Pr.bool false) (qPickF hc37) ?_
                      exact ⟨false, h3l, ⟨⟨Pr.le_rfl, Pr.le_rfl, Pr.le_rfl, Pr.le_rfl, trivial⟩, Pick.refl _⟩⟩
                · replace h3l := iteF hc34 h3l
                  refine W_exit ?_
                  obtain rfl := ho3 _ (Option.some.inj h3l).symm
                  exact ⟨h, ⟨trivial, Pick.refl _⟩⟩
    · refine W_r ?_
      refine rq (out := Pr.str x1) qMove ?_
      refine rq (out := Pr.i64 (x1.length : Int)) (qLenS rfl Tryd.underlying9) ?_
      refine rq (out := Pr.bool (decide ((x1.length : Int) > 1000))) qInt ?_
      refine rq (out := Pr.bool (decide ((x1.length : Int) > 1000))) qMove ?_
      rcases iteSome h with ⟨hc5, h⟩ | ⟨hc5, h⟩
      · refine rno (neF hc5) ?_
        refine rno (neF hc5) ?_
        refine rq (out := Pr.bool true) (qPickT hc5) ?_
        refine rq (out := Pr.bool true) qMove ?_
        have hc7 : true = true := rfl
        refine rno (neF hc7) ?_
        refine rno (neF hc7) ?_
        refine rno (neF hc7) ?_
        refine rno (neF hc7) ?_
        refine rq (out := Pr.bool true) (qPickT hc7) ?_
        exact ⟨true, h, ⟨⟨Pr.le_rfl, Pr.le_rfl, Pr.le_rfl, trivial⟩, Pick.refl _⟩⟩
      · refine rqg hc5 (out := Pr.i64 x2) qMove ?_
        refine rqg hc5 (out := Pr.bool (decide (x2 < 0))) qInt ?_
        refine rq (out := Pr.bool (decide (x2 < 0))) (qPickF hc5) ?_
        refine rq (out := Pr.bool (decide (x2 < 0))) qMove ?_
        rcases iteSome h with ⟨hc6, h⟩ | ⟨hc6, h⟩
        · refine rno (neF hc6) ?_
          refine rno (neF hc6) ?_
          refine rno (neF hc6) ?_
          refine rno (neF hc6) ?_
          refine rq (out := Pr.bool true) (qPickT hc6) ?_
          exact ⟨true, h, ⟨⟨Pr.le_rfl, Pr.le_rfl, Pr.le_rfl, trivial⟩, Pick.refl _⟩⟩
        · refine rqg hc6 (out := Pr.i64 x2) qMove ?_
          refine rqg hc6 (out := Pr.str x1) qMove ?_
          refine rqg hc6 (out := Pr.i64 (x1.length : Int)) (qLenS rfl Tryd.underlying9) ?_
          refine rqg hc6 (out := Pr.bool (decide (x2 ≥ (x1.length : Int)))) qInt ?_
          refine rq (out := Pr.bool (decide (x2 ≥ (x1.length : Int)))) (qPickF hc6) ?_
          exact ⟨decide (x2 ≥ (x1.length : Int)), h, ⟨⟨Pr.le_rfl, Pr.le_rfl, Pr.le_rfl, trivial⟩, Pick.refl _⟩⟩
end Go.Proofs.YtefeelcjokdchaaDoor
