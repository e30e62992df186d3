/- The code comes to what these functions say (printed by wip/gen/gen.py). -/
import Derived.Test.YtefeelcjokdchaaDoorZP2
import Derived.Test.YtefeelcjokdchaaDoorZT
set_option linter.unusedSimpArgs false
set_option linter.unusedVariables false
set_option linter.unusedSectionVars false
/- The code comes to what these functions say (printed by wip/gen/gen.py). -/
set_option linter.unusedSectionVars false
set_option maxRecDepth 100000
set_option maxHeartbeats 4000000
namespace Go.Proofs.YtefeelcjokdchaaDoor
open Go Go.Cn
variable [Known]
theorem law08_awake_ok (r : Bool) (h : law08_awake = some r) : FnP Tryd.prog 34 [] (Pr.bool r) := by
  refine fn_intro (n := 80) (rs := [0]) Tryd.func34 rfl Tryd.ntmps34 ⟨by decide, Tryd.results34⟩ (by decide) (fun s0 => ?_)
  unfold law08_awake at h
  refine W_rs ?_
  refine rq (out := Pr.bool false) qAssign ?_
  refine W_rs ?_
  obtain ⟨⟨x1, x2⟩, hx1, h⟩ := bindSome h
  refine rq (out := Pr.tup [Pr.str x1, Pr.bool x2]) (qCall (weave_Text_ok ([97, 61, 98, 43, 99, 59] : List UInt8) ([120, 61, 98, 43, 99, 59] : List UInt8) ([97, 61, 98, 43, 100, 59] : List UInt8) _ hx1)) ?_
  refine rq (out := Pr.tup [Pr.str x1, Pr.bool x2]) qMove ?_
  refine rq (out := Pr.str x1) qExtract ?_
  refine rq (out := Pr.bool x2) qExtract ?_
  refine rq (out := Pr.str x1) qAssign ?_
  refine rq (out := Pr.bool x2) qAssign ?_
  refine W_rs ?_
  obtain ⟨x3, hx3, h⟩ := bindSome h
  refine rq (out := Pr.lst rApiPart x3) (qCall (weave_Lines_ok ([97, 10] : List UInt8) ([98, 10] : List UInt8) ([99, 10] : List UInt8) _ hx3)) ?_
  refine rq (out := Pr.lst rApiPart x3) qAssign ?_
  refine W_rs ?_
  obtain ⟨⟨x4, x5⟩, hx4, h⟩ := bindSome h
  refine rq (out := Pr.tup [Pr.lst Rp.str x4, Pr.bool x5]) (qCall (weave_Units_ok ([97, 32, 98] : List UInt8) _ hx4)) ?_
  refine rq (out := Pr.tup [Pr.lst Rp.str x4, Pr.bool x5]) qMove ?_
  refine rq (out := Pr.lst Rp.str x4) qExtract ?_
  refine rq (out := Pr.bool x5) qExtract ?_
  refine rq (out := Pr.lst Rp.str x4) qAssign ?_
  refine rq (out := Pr.bool x5) qAssign ?_
  refine W_rs ?_
  obtain ⟨⟨x6, x7⟩, hx6, h⟩ := bindSome h
  refine rq (out := Pr.tup [Pr.lst rApiPart x6, Pr.bool x7]) (qCall (weave_Tokens_ok ([97] : List UInt8) ([97] : List UInt8) ([98] : List UInt8) _ hx6)) ?_
  refine rq (out := Pr.tup [Pr.lst rApiPart x6, Pr.bool x7]) qMove ?_
  refine rq (out := Pr.lst rApiPart x6) qExtract ?_
  refine rq (out := Pr.bool x7) qExtract ?_
  refine rq (out := Pr.lst rApiPart x6) qAssign ?_
  refine rq (out := Pr.bool x7) qAssign ?_
  refine W_rs ?_
  refine rq (out := Pr.lst rApiPart x6) qMove ?_
  obtain ⟨⟨x8, x9⟩, hx8, h⟩ := bindSome h
  refine rq (out := Pr.tup [Pr.str x8, Pr.bool x9]) (qCall (weave_Join_ok x6 _ hx8)) ?_
  refine rq (out := Pr.tup [Pr.str x8, Pr.bool x9]) qMove ?_
  refine rq (out := Pr.str x8) qExtract ?_
  refine rq (out := Pr.bool x9) qExtract ?_
  refine rq (out := Pr.str x8) qAssign ?_
  refine rq (out := Pr.bool x9) qAssign ?_
  refine W_join (fun e C => ∃ (x3157 : Bool), law08_awake_j1 x3157 = some r ∧ At [(0, Pr.bool x3157)] [] e C) ?_ ?_
  · rintro e C ⟨x3157, h, hat1⟩
    refine W_at hat1 ?_
    clear hat1
    unfold law08_awake_j1 at h
    obtain rfl := Option.some.inj h
    exact W_ret ⟨rfl, Pr.le_rfl⟩
  · refine W_r ?_
    refine rq (out := Pr.bool x2) qMove ?_
    refine rq (out := Pr.bool x2) qMove ?_
    rcases iteSome h with ⟨hc10, h⟩ | ⟨hc10, h⟩
    · refine rqg hc10 (out := Pr.str x1) qMove ?_
      refine rqg hc10 (out := Pr.bool (x1 == ([120, 61, 98, 43, 100, 59] : List UInt8))) qStr ?_
      refine rq (out := Pr.bool (x1 == ([120, 61, 98, 43, 100, 59] : List UInt8))) (qPickT hc10) ?_
      refine rq (out := Pr.bool (x1 == ([120, 61, 98, 43, 100, 59] : List UInt8))) qMove ?_
      rcases iteSome h with ⟨hc11, h⟩ | ⟨hc11, h⟩
      · refine rqg hc11 (out := Pr.lst rApiPart x3) qMove ?_
        refine rqg hc11 (out := Pr.i64 (x3.length : Int)) (qLenL rfl Tryd.underlying43) ?_
        refine rqg hc11 (out := Pr.bool ((x3.length : Int) == 1)) qInt ?_
        refine rq (out := Pr.bool ((x3.length : Int) == 1)) (qPickT hc11) ?_
        refine rq (out := Pr.bool ((x3.length : Int) == 1)) qMove ?_
        rcases iteSome h with ⟨hc12, h⟩ | ⟨hc12, h⟩
        · refine rqg hc12 (out := Pr.lst rApiPart x3) qMove ?_
          obtain ⟨x13, hx13, h⟩ := bindSome h
          refine rqg hc12 (out := Pr.cpt rApiPart x13) (qIdxA (R := rApiPart) (l := x3) Tryd.underlying43 Tryd.sizeOf46 hx13) ?_
          refine rqg hc12 (out := Pr.cpt Rp.bool x13.Clash) (qFieldC (R := rApiPart) (a := x13) fld46_0 subApiPart_Clash) ?_
          refine rqg hc12 (out := Pr.bool x13.Clash) (qLoadC (R := Rp.bool) (a := x13.Clash) ty4) ?_
          refine rq (out := Pr.bool x13.Clash) (qPickT hc12) ?_
          refine rq (out := Pr.bool x13.Clash) qMove ?_
          rcases iteSome h with ⟨hc14, h⟩ | ⟨hc14, h⟩
          · refine rqg hc14 (out := Pr.lst rApiPart x3) qMove ?_
            obtain ⟨x15, hx15, h⟩ := bindSome h
            refine rqg hc14 (out := Pr.cpt rApiPart x15) (qIdxA (R := rApiPart) (l := x3) Tryd.underlying43 Tryd.sizeOf46 hx15) ?_
            refine rqg hc14 (out := Pr.cpt Rp.str x15.B) (qFieldC (R := rApiPart) (a := x15) fld46_3 subApiPart_B) ?_
            refine rqg hc14 (out := Pr.str x15.B) (qLoadC (R := Rp.str) (a := x15.B) ty9) ?_
            refine rqg hc14 (out := Pr.bool (x15.B == ([99, 10] : List UInt8))) qStr ?_
            refine rq (out := Pr.bool (x15.B == ([99, 10] : List UInt8))) (qPickT hc14) ?_
            refine rq (out := Pr.bool (x15.B == ([99, 10] : List UInt8))) qMove ?_
            rcases iteSome h with ⟨hc16, h⟩ | ⟨hc16, h⟩
            · refine rqg hc16 (out := Pr.bool x5) qMove ?_
              refine rq (out := Pr.bool x5) (qPickT hc16) ?_
              refine rq (out := Pr.bool x5) qMove ?_
              rcases iteSome h with ⟨hc17, h⟩ | ⟨hc17, h⟩
              · refine rqg hc17 (out := Pr.lst Rp.str x4) qMove ?_
                refine rqg hc17 (out := Pr.i64 (x4.length : Int)) (qLenL rfl Tryd.underlying35) ?_
                refine rqg hc17 (out := Pr.bool ((x4.length : Int) == 3)) qInt ?_
                refine rq (out := Pr.bool ((x4.length : Int) == 3)) (qPickT hc17) ?_
                refine rq (out := Pr.bool ((x4.length : Int) == 3)) qMove ?_
                rcases iteSome h with ⟨hc18, h⟩ | ⟨hc18, h⟩
                · refine rqg hc18 (out := Pr.lst Rp.str x4) qMove ?_
                  obtain ⟨x19, hx19, h⟩ := bindSome h
                  refine rqg hc18 (out := Pr.cpt Rp.str x19) (qIdxA (R := Rp.str) (l := x4) Tryd.underlying35 Tryd.sizeOf9 hx19) ?_
                  refine rqg hc18 (out := Pr.str x19) (qLoadC (R := Rp.str) (a := x19) ty9) ?_
                  refine rqg hc18 (out := Pr.bool (x19 == ([32, 98] : List UInt8))) qStr ?_
                  refine rq (out := Pr.bool (x19 == ([32, 98] : List UInt8))) (qPickT hc18) ?_
                  refine rq (out := Pr.bool (x19 == ([32, 98] : List UInt8))) qMove ?_
                  rcases iteSome h with ⟨hc20, h⟩ | ⟨hc20, h⟩
                  · refine rqg hc20 (out := Pr.bool x7) qMove ?_
                    refine rq (out := Pr.bool x7) (qPickT hc20) ?_
                    refine rq (out := Pr.bool x7) qMove ?_
                    rcases iteSome h with ⟨hc21, h⟩ | ⟨hc21, h⟩
                    · refine rqg hc21 (out := Pr.str x8) qMove ?_
                      refine rqg hc21 (out := Pr.bool (x8 == ([98] : List UInt8))) qStr ?_
                      refine rq (out := Pr.bool (x8 == ([98] : List UInt8))) (qPickT hc21) ?_
                      refine rq (out := Pr.bool (x8 == ([98] : List UInt8))) qMove ?_
                      rcases iteSome h with ⟨hc22, h⟩ | ⟨hc22, h⟩
                      · refine rqg hc22 (out := Pr.bool x9) qMove ?_
                        refine rq (out := Pr.bool x9) (qPickT hc22) ?_
                        refine rq (out := Pr.bool x9) qMove ?_
                        rcases iteSome h with ⟨hc23, h⟩ | ⟨hc23, h⟩
                        · refine rqg hc23 (out := Pr.lst rApiPart x3) qMove ?_
                          obtain ⟨x24, hx24, h⟩ := bindSome h
                          refine rqg hc23 (out := Pr.str x24) (qCall (weave_Side_ok x3 1 _ hx24)) ?_
                          refine rqg hc23 (out := Pr.bool (x24 == ([98, 10] : List UInt8))) qStr ?_
                          refine rq (out := Pr.bool (x24 == ([98, 10] : List UInt8))) (qPickT hc23) ?_
                          refine rq (out := Pr.bool (x24 == ([98, 10] : List UInt8))) qAssign ?_
                          exact ⟨x24 == ([98, 10] : List UInt8), h, ⟨⟨Pr.le_rfl, trivial⟩, Pick.refl _⟩⟩
                        · refine rno (neT hc23) ?_
                          refine rno (neT hc23) ?_
                          refine rno (neT hc23) ?_
                          refine rq (out := Pr.bool false) (qPickF hc23) ?_
                          refine rq (out := Pr.bool false) qAssign ?_
                          exact ⟨false, h, ⟨⟨Pr.le_rfl, trivial⟩, Pick.refl _⟩⟩
                      · refine rno (neT hc22) ?_
                        refine rq (out := Pr.bool false) (qPickF hc22) ?_
                        refine rq (out := Pr.bool false) qMove ?_
                        have hc25 : false = false := rfl
                        refine rno (neT hc25) ?_
                        refine rno (neT hc25) ?_
                        refine rno (neT hc25) ?_
                        refine rq (out := Pr.bool false) (qPickF hc25) ?_
                        refine rq (out := Pr.bool false) qAssign ?_
                        exact ⟨false, h, ⟨⟨Pr.le_rfl, trivial⟩, Pick.refl _⟩⟩
                    · refine rno (neT hc21) ?_
                      refine rno (neT hc21) ?_
                      refine rq (out := Pr.bool false) (qPickF hc21) ?_
                      refine rq (out := Pr.bool false) qMove ?_
                      have hc27 : false = false := rfl
                      refine rno (neT hc27) ?_
                      refine rq (out := Pr.bool false) (qPickF hc27) ?_
                      refine rq (out := Pr.bool false) qMove ?_
                      have hc30 : false = false := rfl
                      refine rno (neT hc30) ?_
                      refine rno (neT hc30) ?_
                      refine rno (neT hc30) ?_
                      refine rq (out := Pr.bool false) (qPickF hc30) ?_
                      refine rq (out := Pr.bool false) qAssign ?_
                      exact ⟨false, h, ⟨⟨Pr.le_rfl, trivial⟩, Pick.refl _⟩⟩
                  · refine rno (neT hc20) ?_
                    refine rq (out := Pr.bool false) (qPickF hc20) ?_
                    refine rq (out := Pr.bool false) qMove ?_
                    have hc32 : false = false := rfl
                    refine rno (neT hc32) ?_
                    refine rno (neT hc32) ?_
                    refine rq (out := Pr.bool false) (qPickF hc32) ?_
                    refine rq (out := Pr.bool false) qMove ?_
                    have hc38 : false = false := rfl
                    refine rno (neT hc38) ?_
                    refine rq (out := Pr.bool false) (qPickF hc38) ?_
                    refine rq (out := Pr.bool false) qMove ?_
                    have hc41 : false = false := rfl
                    refine rno (neT hc41) ?_
                    refine rno (neT hc41) ?_
                    refine rno (neT hc41) ?_
                    refine rq (out := Pr.bool false) (qPickF hc41) ?_
                    refine rq (out := Pr.bool false) qAssign ?_
                    exact ⟨false, h, ⟨⟨Pr.le_rfl, trivial⟩, Pick.refl _⟩⟩
                · refine rno (neT hc18) ?_
                  refine rno (neT hc18) ?_
                  refine rno (neT hc18) ?_
                  refine rno (neT hc18) ?_
                  refine rq (out := Pr.bool false) (qPickF hc18) ?_
                  refine rq (out := Pr.bool false) qMove ?_
                  have hc43 : false = false := rfl
                  refine rno (neT hc43) ?_
                  refine rq (out := Pr.bool false) (qPickF hc43) ?_
                  refine rq (out := Pr.bool false) qMove ?_
                  have hc55 : false = false := rfl
                  refine rno (neT hc55) ?_
                  refine rno (neT hc55) ?_
                  refine rq (out := Pr.bool false) (qPickF hc55) ?_
                  refine rq (out := Pr.bool false) qMove ?_
                  have hc61 : false = false := rfl
                  refine rno (neT hc61) ?_
                  refine rq (out := Pr.bool false) (qPickF hc61) ?_
                  refine rq (out := Pr.bool false) qMove ?_
                  have hc64 : false = false := rfl
                  refine rno (neT hc64) ?_
                  refine rno (neT hc64) ?_
                  refine rno (neT hc64) ?_
                  refine rq (out := Pr.bool false) (qPickF hc64) ?_
                  refine rq (out := Pr.bool false) qAssign ?_
                  exact ⟨false, h, ⟨⟨Pr.le_rfl, trivial⟩, Pick.refl _⟩⟩
              · refine rno (neT hc17) ?_
                refine rno (neT hc17) ?_
                refine rno (neT hc17) ?_
                refine rq (out := Pr.bool false) (qPickF hc17) ?_
                refine rq (out := Pr.bool false) qMove ?_
                have hc66 : false = false := rfl
                refine rno (neT hc66) ?_
                refine rno (neT hc66) ?_
                refine rno (neT hc66) ?_
                refine rno (neT hc66) ?_
                refine rq (out := Pr.bool false) (qPickF hc66) ?_
                refine rq (out := Pr.bool false) qMove ?_
                have hc91 : false = false := rfl
                refine rno (neT hc91) ?_
                refine rq (out := Pr.bool false) (qPickF hc91) ?_
                refine rq (out := Pr.bool false) qMove ?_
                have hc103 : false = false := rfl
                refine rno (neT hc103) ?_
                refine rno (neT hc103) ?_
                refine rq (out := Pr.bool false) (qPickF hc103) ?_
                refine rq (out := Pr.bool false) qMove ?_
                have hc109 : false = false := rfl
                refine rno (neT hc109) ?_
                refine rq (out := Pr.bool false) (qPickF hc109) ?_
                refine rq (out := Pr.bool false) qMove ?_
                have hc112 : false = false := rfl
                refine rno (neT hc112) ?_
                refine rno (neT hc112) ?_
                refine rno (neT hc112) ?_
                refine rq (out := Pr.bool false) (qPickF hc112) ?_
                refine rq (out := Pr.bool false) qAssign ?_
                exact ⟨false, h, ⟨⟨Pr.le_rfl, trivial⟩, Pick.refl _⟩⟩
            · refine rno (neT hc16) ?_
              refine rq (out := Pr.bool false) (qPickF hc16) ?_
              refine rq (out := Pr.bool false) qMove ?_
              have hc114 : false = false := rfl
              refine rno (neT hc114) ?_
              refine rno (neT hc114) ?_
              refine rno (neT hc114) ?_
              refine rq (out := Pr.bool false) (qPickF hc114) ?_
              refine rq (out := Pr.bool false) qMove ?_
              have hc163 : false = false := rfl
              refine rno (neT hc163) ?_
              refine rno (neT hc163) ?_
              refine rno (neT hc163) ?_
              refine rno (neT hc163) ?_
              refine rq (out := Pr.bool false) (qPickF hc163) ?_
              refine rq (out := Pr.bool false) qMove ?_
              have hc188 : false = false := rfl
              refine rno (neT hc188) ?_
              refine rq (out := Pr.bool false) (qPickF hc188) ?_
              refine rq (out := Pr.bool false) qMove ?_
              have hc200 : false = false := rfl
              refine rno (neT hc200) ?_
              refine rno (neT hc200) ?_
              refine rq (out := Pr.bool false) (qPickF hc200) ?_
              refine rq (out := Pr.bool false) qMove ?_
              have hc206 : false = false := rfl
              refine rno (neT hc206) ?_
              refine rq (out := Pr.bool false) (qPickF hc206) ?_
              refine rq (out := Pr.bool false) qMove ?_
              have hc209 : false = false := rfl
              refine rno (neT hc209) ?_
              refine rno (neT hc209) ?_
              refine rno (neT hc209) ?_
              refine rq (out := Pr.bool false) (qPickF hc209) ?_
              refine rq (out := Pr.bool false) qAssign ?_
              exact ⟨false, h, ⟨⟨Pr.le_rfl, trivial⟩, Pick.refl _⟩⟩
          · refine rno (neT hc14) ?_
            refine rno (neT hc14) ?_
            refine rno (neT hc14) ?_
            refine rno (neT hc14) ?_
            refine rno (neT hc14) ?_
            refine rq (out := Pr.bool false) (qPickF hc14) ?_
            refine rq (out := Pr.bool false) qMove ?_
            have hc211 : false = false := rfl
            refine rno (neT hc211) ?_
            refine rq (out := Pr.bool false) (qPickF hc211) ?_
            refine rq (out := Pr.bool false) qMove ?_
            have hc309 : false = false := rfl
            refine rno (neT hc309) ?_
            refine rno (neT hc309) ?_
            refine rno (neT hc309) ?_
            refine rq (out := Pr.bool false) (qPickF hc309) ?_
            refine rq (out := Pr.bool false) qMove ?_
            have hc358 : false = false := rfl
            refine rno (neT hc358) ?_
            refine rno (neT hc358) ?_
            refine rno (neT hc358) ?_
            refine rno (neT hc358) ?_
            refine rq (out := Pr.bool false) (qPickF hc358) ?_
            refine rq (out := Pr.bool false) qMove ?_
            have hc383 : false = false := rfl
            refine rno (neT hc383) ?_
            refine rq (out := Pr.bool false) (qPickF hc383) ?_
            refine rq (out := Pr.bool false) qMove ?_
            have hc395 : false = false := rfl
            refine rno (neT hc395) ?_
            refine rno (neT hc395) ?_
            refine rq (out := Pr.bool false) (qPickF hc395) ?_
            refine rq (out := Pr.bool false) qMove ?_
            have hc401 : false = false := rfl
            refine rno (neT hc401) ?_
            refine rq (out := Pr.bool false) (qPickF hc401) ?_
            refine rq (out := Pr.bool false) qMove ?_
            have hc404 : false = false := rfl
            refine rno (neT hc404) ?_
            refine rno (neT hc404) ?_
            refine rno (neT hc404) ?_
            refine rq (out := Pr.bool false) (qPickF hc404) ?_
            refine rq (out := Pr.bool false) qAssign ?_
            exact ⟨false, h, ⟨⟨Pr.le_rfl, trivial⟩, Pick.refl _⟩⟩
        · refine rno (neT hc12) ?_
          refine rno (neT hc12) ?_
          refine rno (neT hc12) ?_
          refine rno (neT hc12) ?_
          refine rq (out := Pr.bool false) (qPickF hc12) ?_
          refine rq (out := Pr.bool false) qMove ?_
          have hc406 : false = false := rfl
          refine rno (neT hc406) ?_
          refine rno (neT hc406) ?_
          refine rno (neT hc406) ?_
          refine rno (neT hc406) ?_
          refine rno (neT hc406) ?_
          refine rq (out := Pr.bool false) (qPickF hc406) ?_
          refine rq (out := Pr.bool false) qMove ?_
          have hc603 : false = false := rfl
          refine rno (neT hc603) ?_
          refine rq (out := Pr.bool false) (qPickF hc603) ?_
          refine rq (out := Pr.bool false) qMove ?_
          have hc701 : false = false := rfl
          refine rno (neT hc701) ?_
          refine rno (neT hc701) ?_
          refine rno (neT hc701) ?_
          refine rq (out := Pr.bool false) (qPickF hc701) ?_
          refine rq (out := Pr.bool false) qMove ?_
          have hc750 : false = false := rfl
          refine rno (neT hc750) ?_
          refine rno (neT hc750) ?_
          refine rno (neT hc750) ?_
          refine rno (neT hc750) ?_
          refine rq (out := Pr.bool false) (qPickF hc750) ?_
          refine rq (out := Pr.bool false) qMove ?_
          have hc775 : false = false := rfl
          refine rno (neT hc775) ?_
          refine rq (out := Pr.bool false) (qPickF hc775) ?_
          refine rq (out := Pr.bool false) qMove ?_
          have hc787 : false = false := rfl
          refine rno (neT hc787) ?_
          refine rno (neT hc787) ?_
          refine rq (out := Pr.bool false) (qPickF hc787) ?_
          refine rq (out := Pr.bool false) qMove ?_
          have hc793 : false = false := rfl
          refine rno (neT hc793) ?_
          refine rq (out := Pr.bool false) (qPickF hc793) ?_
          refine rq (out := Pr.bool false) qMove ?_
          have hc796 : false = false := rfl
          refine rno (neT hc796) ?_
          refine rno (neT hc796) ?_
          refine rno (neT hc796) ?_
          refine rq (out := Pr.bool false) (qPickF hc796) ?_
          refine rq (out := Pr.bool false) qAssign ?_
          exact ⟨false, h, ⟨⟨Pr.le_rfl, trivial⟩, Pick.refl _⟩⟩
      · refine rno (neT hc11) ?_
        refine rno (neT hc11) ?_
        refine rno (neT hc11) ?_
        refine rq (out := Pr.bool false) (qPickF hc11) ?_
        refine rq (out := Pr.bool false) qMove ?_
        have hc798 : false = false := rfl
        refine rno (neT hc798) ?_
        refine rno (neT hc798) ?_
        refine rno (neT hc798) ?_
        refine rno (neT hc798) ?_
        refine rq (out := Pr.bool false) (qPickF hc798) ?_
        refine rq (out := Pr.bool false) qMove ?_
        have hc1192 : false = false := rfl
        refine rno (neT hc1192) ?_
        refine rno (neT hc1192) ?_
        refine rno (neT hc1192) ?_
        refine rno (neT hc1192) ?_
        refine rno (neT hc1192) ?_
        refine rq (out := Pr.bool false) (qPickF hc1192) ?_
        refine rq (out := Pr.bool false) qMove ?_
        have hc1389 : false = false := rfl
        refine rno (neT hc1389) ?_
        refine rq (out := Pr.bool false) (qPickF hc1389) ?_
        refine rq (out := Pr.bool false) qMove ?_
        have hc1487 : false = false := rfl
        refine rno (neT hc1487) ?_
        refine rno (neT hc1487) ?_
        refine rno (neT hc1487) ?_
        refine rq (out := Pr.bool false) (qPickF hc1487) ?_
        refine rq (out := Pr.bool false) qMove ?_
        have hc1536 : false = false := rfl
        refine rno (neT hc1536) ?_
        refine rno (neT hc1536) ?_
        refine rno (neT hc1536) ?_
        refine rno (neT hc1536) ?_
        refine rq (out := Pr.bool false) (qPickF hc1536) ?_
        refine rq (out := Pr.bool false) qMove ?_
        have hc1561 : false = false := rfl
        refine rno (neT hc1561) ?_
        refine rq (out := Pr.bool false) (qPickF hc1561) ?_
        refine rq (out := Pr.bool false) qMove ?_
        have hc1573 : false = false := rfl
        refine rno (neT hc1573) ?_
        refine rno (neT hc1573) ?_
        refine rq (out := Pr.bool false) (qPickF hc1573) ?_
        refine rq (out := Pr.bool false) qMove ?_
        have hc1579 : false = false := rfl
        refine rno (neT hc1579) ?_
        refine rq (out := Pr.bool false) (qPickF hc1579) ?_
        refine rq (out := Pr.bool false) qMove ?_
        have hc1582 : false = false := rfl
        refine rno (neT hc1582) ?_
        refine rno (neT hc1582) ?_
        refine rno (neT hc1582) ?_
        refine rq (out := Pr.bool false) (qPickF hc1582) ?_
        refine rq (out := Pr.bool false) qAssign ?_
        exact ⟨false, h, ⟨⟨Pr.le_rfl, trivial⟩, Pick.refl _⟩⟩
    · refine rno (neT hc10) ?_
      refine rno (neT hc10) ?_
      refine rq (out := Pr.bool false) (qPickF hc10) ?_
      refine rq (out := Pr.bool false) qMove ?_
      have hc1584 : false = false := rfl
      refine rno (neT hc1584) ?_
      refine rno (neT hc1584) ?_
      refine rno (neT hc1584) ?_
      refine rq (out := Pr.bool false) (qPickF hc1584) ?_
      refine rq (out := Pr.bool false) qMove ?_
      have hc2371 : false = false := rfl
      refine rno (neT hc2371) ?_
      refine rno (neT hc2371) ?_
      refine rno (neT hc2371) ?_
      refine rno (neT hc2371) ?_
      refine rq (out := Pr.bool false) (qPickF hc2371) ?_
      refine rq (out := Pr.bool false) qMove ?_
      have hc2765 : false = false := rfl
      refine rno (neT hc2765) ?_
      refine rno (neT hc2765) ?_
      refine rno (neT hc2765) ?_
      refine rno (neT hc2765) ?_
      refine rno (neT hc2765) ?_
      refine rq (out := Pr.bool false) (qPickF hc2765) ?_
      refine rq (out := Pr.bool false) qMove ?_
      have hc2962 : false = false := rfl
      refine rno (neT hc2962) ?_
      refine rq (out := Pr.bool false) (qPickF hc2962) ?_
      refine rq (out := Pr.bool false) qMove ?_
      have hc3060 : false = false := rfl
      refine rno (neT hc3060) ?_
      refine rno (neT hc3060) ?_
      refine rno (neT hc3060) ?_
      refine rq (out := Pr.bool false) (qPickF hc3060) ?_
      refine rq (out := Pr.bool false) qMove ?_
      have hc3109 : false = false := rfl
      refine rno (neT hc3109) ?_
      refine rno (neT hc3109) ?_
      refine rno (neT hc3109) ?_
      refine rno (neT hc3109) ?_
      refine rq (out := Pr.bool false) (qPickF hc3109) ?_
      refine rq (out := Pr.bool false) qMove ?_
      have hc3134 : false = false := rfl
      refine rno (neT hc3134) ?_
      refine rq (out := Pr.bool false) (qPickF hc3134) ?_
      refine rq (out := Pr.bool false) qMove ?_
      have hc3146 : false = false := rfl
      refine rno (neT hc3146) ?_
      refine rno (neT hc3146) ?_
      refine rq (out := Pr.bool false) (qPickF hc3146) ?_
      refine rq (out := Pr.bool false) qMove ?_
      have hc3152 : false = false := rfl
      refine rno (neT hc3152) ?_
      refine rq (out := Pr.bool false) (qPickF hc3152) ?_
      refine rq (out := Pr.bool false) qMove ?_
      have hc3155 : false = false := rfl
      refine rno (neT hc3155) ?_
      refine rno (neT hc3155) ?_
      refine rno (neT hc3155) ?_
      refine rq (out := Pr.bool false) (qPickF hc3155) ?_
      refine rq (out := Pr.bool false) qAssign ?_
      exact ⟨false, h, ⟨⟨Pr.le_rfl, trivial⟩, Pick.refl _⟩⟩
theorem law08_few_ok (x1 : List UInt8) (x2 : List UInt8) (x3 : List UInt8) (r : Bool) (h : law08_few x1 x2 x3 = some r) : FnP Tryd.prog 35 [Pr.str x1, Pr.str x2, Pr.str x3] (Pr.bool r) := by
  refine fn_intro (n := 20) (rs := [6]) Tryd.func35 rfl Tryd.ntmps35 ⟨by decide, Tryd.results35⟩ (by decide) (fun s0 => ?_)
  unfold law08_few at h
  refine W_rs ?_
  refine rq (out := Pr.bool false) qAssign ?_
  refine W_join (fun e C => ∃ (x7 : Bool), law08_few_j1 x7 = some r ∧ At [(6, Pr.bool x7)] [] e C) ?_ ?_
  · rintro e C ⟨x7, h, hat1⟩
    refine W_at hat1 ?_
    clear hat1
    unfold law08_few_j1 at h
    obtain rfl := Option.some.inj h
    exact W_ret ⟨rfl, Pr.le_rfl⟩
  · refine W_r ?_
    refine rq (out := Pr.str x1) qMove ?_
    refine rq (out := Pr.i64 (x1.length : Int)) (qLenS rfl Tryd.underlying9) ?_
    refine rq (out := Pr.bool (decide ((x1.length : Int) ≤ 600))) qInt ?_
    refine rq (out := Pr.bool (decide ((x1.length : Int) ≤ 600))) qMove ?_
    rcases iteSome h with ⟨hc4, h⟩ | ⟨hc4, h⟩
    · refine rqg hc4 (out := Pr.str x2) qMove ?_
      refine rqg hc4 (out := Pr.i64 (x2.length : Int)) (qLenS rfl Tryd.underlying9) ?_
      refine rqg hc4 (out := Pr.bool (decide ((x2.length : Int) ≤ 600))) qInt ?_
      refine rq (out := Pr.bool (decide ((x2.length : Int) ≤ 600))) (qPickT hc4) ?_
      refine rq (out := Pr.bool (decide ((x2.length : Int) ≤ 600))) qMove ?_
      rcases iteSome h with ⟨hc5, h⟩ | ⟨hc5, h⟩
      · refine rqg hc5 (out := Pr.str x3) qMove ?_
        refine rqg hc5 (out := Pr.i64 (x3.length : Int)) (qLenS rfl Tryd.underlying9) ?_
        refine rqg hc5 (out := Pr.bool (decide ((x3.length : Int) ≤ 600))) qInt ?_
        refine rq (out := Pr.bool (decide ((x3.length : Int) ≤ 600))) (qPickT hc5) ?_
        refine rq (out := Pr.bool (decide ((x3.length : Int) ≤ 600))) qAssign ?_
        exact ⟨decide ((x3.length : Int) ≤ 600), h, ⟨⟨Pr.le_rfl, trivial⟩, Pick.refl _⟩⟩
      · refine rno (neT hc5) ?_
        refine rno (neT hc5) ?_
        refine rno (neT hc5) ?_
        refine rq (out := Pr.bool false) (qPickF hc5) ?_
        refine rq (out := Pr.bool false) qAssign ?_
        exact ⟨false, h, ⟨⟨Pr.le_rfl, trivial⟩, Pick.refl _⟩⟩
    · refine rno (neT hc4) ?_
      refine rno (neT hc4) ?_
      refine rno (neT hc4) ?_
      refine rq (out := Pr.bool false) (qPickF hc4) ?_
      refine rq (out := Pr.bool false) qMove ?_
      have hc6 : false = false := rfl
      refine rno (neT hc6) ?_
      refine rno (neT hc6) ?_
      refine rno (neT hc6) ?_
      refine rq (out := Pr.bool false) (qPickF hc6) ?_
      refine rq (out := Pr.bool false) qAssign ?_
      exact ⟨false, h, ⟨⟨Pr.le_rfl, trivial⟩, Pick.refl _⟩⟩
theorem ref08_Join_ok (x1 : List ApiPart) (r : (List UInt8) × Bool) (h : ref08_Join x1 = some r) : FnP Tryd.prog 37 [Pr.lst rApiPart x1] (Pr.tup [Pr.str r.1, Pr.bool r.2]) := by
  refine fn_intro (n := 25) (rs := [2, 3]) Tryd.func37 rfl Tryd.ntmps37 ⟨by decide, Tryd.results37⟩ (by decide) (fun s0 => ?_)
  unfold ref08_Join at h
  refine W_rs ?_
  refine rq (out := Pr.str []) qAssign ?_
  refine rq (out := Pr.bool false) qAssign ?_
  refine W_rs ?_
  refine rq (out := Pr.str []) qAssign ?_
  refine W_seq ?_
  refine W_rs ?_
  refine rq (out := Pr.i64 0) qAssign ?_
  refine W_block ?_
  obtain ⟨z2l, hz2, h⟩ := bindSome h
  obtain ⟨n2, hN2⟩ := iter_some hz2
  clear hz2
  refine W_after 0 (fun e C => ∃ (x2 : List UInt8), ref08_Join_k1 x2 = some r ∧ At [(4, Pr.str x2)] [] e C) ?_ ?_
  · rintro e C ⟨x2, h, hat1⟩
    refine W_at hat1 ?_
    clear hat1
    unfold ref08_Join_k1 at h
    refine W_rs ?_
    refine rq (out := Pr.str x2) qMove ?_
    refine rq (out := Pr.str x2) qAssign ?_
    refine rq (out := Pr.bool true) qAssign ?_
    obtain rfl := Option.some.inj h
    exact W_ret ⟨rfl, Pr.le_rfl⟩
  · refine W_loop (fun m e C => ∃ (x2 : List UInt8), ∃ (x3 : Int), IterN (fun s => ref08_Join_l2 x1 s.1 s.2) m (x2, x3) = some z2l ∧ At [(0, Pr.lst rApiPart x1), (4, Pr.str x2), (5, Pr.i64 x3)] [] e C) n2 ⟨[], 0, hN2, ⟨⟨Pr.le_rfl, Pr.le_rfl, Pr.le_rfl, trivial⟩, Pick.refl _⟩⟩ ?_
    clear hN2
    rintro m e C ⟨x2, x3, hN2, hatl2⟩
    refine W_at hatl2 ?_
    clear hatl2
    obtain ⟨m2, w2l, rfl, h2l, hn2, ho2⟩ := iterN_some hN2
    clear hN2
    replace h2l : ref08_Join_l2 x1 x2 x3 = some w2l := h2l
    unfold ref08_Join_l2 at h2l
    refine W_seq ?_
    refine W_rs ?_
    refine rq (out := Pr.i64 x3) qMove ?_
    refine rq (out := Pr.lst rApiPart x1) qMove ?_
    refine rq (out := Pr.i64 (x1.length : Int)) (qLenL rfl Tryd.underlying43) ?_
    refine rq (out := Pr.bool (decide (x3 < (x1.length : Int)))) qInt ?_
    refine W_cond (b := decide (x3 < (x1.length : Int))) rfl (fun hc6 => ?_) (fun hc6 => ?_)
    · replace h2l := iteT hc6 h2l
      refine W_skip ?_
      refine W_seq ?_
      refine W_block ?_
      refine W_seq ?_
      refine W_rs ?_
      refine rq (out := Pr.lst rApiPart x1) qMove ?_
      refine rq (out := Pr.i64 x3) qMove ?_
      obtain ⟨x7, hx7, h2l⟩ := bindSome h2l
      refine rq (out := Pr.cpt rApiPart x7) (qIdxA (R := rApiPart) (l := x1) Tryd.underlying43 Tryd.sizeOf46 hx7) ?_
      refine rq (out := Pr.cpt Rp.bool x7.Clash) (qFieldC (R := rApiPart) (a := x7) fld46_0 subApiPart_Clash) ?_
      refine rq (out := Pr.bool x7.Clash) (qLoadC (R := Rp.bool) (a := x7.Clash) ty4) ?_
      refine W_cond (b := x7.Clash) rfl (fun hc8 => ?_) (fun hc8 => ?_)
      · replace h2l := iteT hc8 h2l
        refine W_rs ?_
        refine rq (out := Pr.str []) qAssign ?_
        refine rq (out := Pr.bool false) qAssign ?_
        obtain rfl := ho2 _ (Option.some.inj h2l).symm
        replace h : some ([], false) = some r := h
        obtain rfl := Option.some.inj h
        exact W_ret ⟨rfl, Pr.le_rfl⟩
      · replace h2l := iteF hc8 h2l
        refine W_skip ?_
        refine W_r ?_
        refine rq (out := Pr.str x2) qMove ?_
        refine rq (out := Pr.lst rApiPart x1) qMove ?_
        refine rq (out := Pr.i64 x3) qMove ?_
        obtain ⟨x9, hx9, h2l⟩ := bindSome h2l
        refine rq (out := Pr.cpt rApiPart x9) (qIdxA (R := rApiPart) (l := x1) Tryd.underlying43 Tryd.sizeOf46 hx9) ?_
        refine rq (out := Pr.cpt Rp.str x9.A) (qFieldC (R := rApiPart) (a := x9) fld46_2 subApiPart_A) ?_
        refine rq (out := Pr.str x9.A) (qLoadC (R := Rp.str) (a := x9.A) ty9) ?_
        obtain ⟨x10, hx10, h2l⟩ := bindSome h2l
        refine rq (out := Pr.str x10) (qCat' hx10) ?_
        refine rq (out := Pr.str x10) qAssign ?_
        refine W_r ?_
        refine rq (out := Pr.i64 x3) qMove ?_
        refine rq (out := Pr.i64 (w64 (x3 + 1))) qInt ?_
        refine rq (out := Pr.i64 (w64 (x3 + 1))) qAssign ?_
        exact ⟨m2, Nat.lt_succ_self _, x10, w64 (x3 + 1), hn2 _ (Option.some.inj h2l).symm, ⟨⟨Pr.le_rfl, Pr.le_rfl, Pr.le_rfl, trivial⟩, Pick.refl _⟩⟩
    · replace h2l := iteF hc6 h2l
      refine W_exit ?_
      obtain rfl := ho2 _ (Option.some.inj h2l).symm
      exact ⟨x2, h, ⟨⟨Pr.le_rfl, trivial⟩, Pick.refl _⟩⟩
theorem ref08_Side_ok (x1 : List ApiPart) (x2 : Int) (r : (List UInt8)) (h : ref08_Side x1 x2 = some r) : FnP Tryd.prog 39 [Pr.lst rApiPart x1, Pr.i64 x2] (Pr.str r) := by
  refine fn_intro (n := 42) (rs := [4]) Tryd.func39 rfl Tryd.ntmps39 ⟨by decide, Tryd.results39⟩ (by decide) (fun s0 => ?_)
  unfold ref08_Side at h
  refine W_rs ?_
  refine rq (out := Pr.str []) qAssign ?_
  refine W_rs ?_
  refine rq (out := Pr.str []) qAssign ?_
  refine W_seq ?_
  refine W_rs ?_
  refine rq (out := Pr.i64 0) qAssign ?_
  refine W_block ?_
  obtain ⟨z2l, hz2, h⟩ := bindSome h
  obtain ⟨n2, hN2⟩ := iter_some hz2
  clear hz2
  refine W_after 0 (fun e C => ∃ (x3 : List UInt8), ref08_Side_k1 x3 = some r ∧ At [(5, Pr.str x3)] [] e C) ?_ ?_
  · rintro e C ⟨x3, h, hat1⟩
    refine W_at hat1 ?_
    clear hat1
    unfold ref08_Side_k1 at h
    refine W_rs ?_
    refine rq (out := Pr.str x3) qMove ?_
    refine rq (out := Pr.str x3) qAssign ?_
    obtain rfl := Option.some.inj h
    exact W_ret ⟨rfl, Pr.le_rfl⟩
  · refine W_loop (fun m e C => ∃ (x3 : List UInt8), ∃ (x4 : Int), IterN (fun s => ref08_Side_l2 x1 x2 s.1 s.2) m (x3, x4) = some z2l ∧ At [(0, Pr.lst rApiPart x1), (1, Pr.i64 x2), (5, Pr.str x3), (6, Pr.i64 x4)] [] e C) n2 ⟨[], 0, hN2, ⟨⟨Pr.le_rfl, Pr.le_rfl, Pr.le_rfl, Pr.le_rfl, trivial⟩, Pick.refl _⟩⟩ ?_
    clear hN2
    rintro m e C ⟨x3, x4, hN2, hatl2⟩
    refine W_at hatl2 ?_
    clear hatl2
    obtain ⟨m2, w2l, rfl, h2l, hn2, ho2⟩ := iterN_some hN2
    clear hN2
    replace h2l : ref08_Side_l2 x1 x2 x3 x4 = some w2l := h2l
    unfold ref08_Side_l2 at h2l
    refine W_seq ?_
    refine W_rs ?_
    refine rq (out := Pr.i64 x4) qMove ?_
    refine rq (out := Pr.lst rApiPart x1) qMove ?_
    refine rq (out := Pr.i64 (x1.length : Int)) (qLenL rfl Tryd.underlying43) ?_
    refine rq (out := Pr.bool (decide (x4 < (x1.length : Int)))) qInt ?_
    refine W_cond (b := decide (x4 < (x1.length : Int))) rfl (fun hc7 => ?_) (fun hc7 => ?_)
    · replace h2l := iteT hc7 h2l
      refine W_skip ?_
      refine W_join (fun e C => ∃ (x17 : List UInt8), ref08_Side_j3 x4 x17 = some w2l ∧ At [(0, Pr.lst rApiPart x1), (1, Pr.i64 x2), (5, Pr.str x17), (6, Pr.i64 x4)] [] e C) ?_ ?_
      · rintro e C ⟨x17, h2l, hat3⟩
        refine W_at hat3 ?_
        clear hat3
        unfold ref08_Side_j3 at h2l
        refine W_r ?_
        refine rq (out := Pr.i64 x4) qMove ?_
        refine rq (out := Pr.i64 (w64 (x4 + 1))) qInt ?_
        refine rq (out := Pr.i64 (w64 (x4 + 1))) qAssign ?_
        exact ⟨m2, Nat.lt_succ_self _, x17, w64 (x4 + 1), hn2 _ (Option.some.inj h2l).symm, ⟨⟨Pr.le_rfl, Pr.le_rfl, Pr.le_rfl, Pr.le_rfl, trivial⟩, Pick.refl _⟩⟩
      · refine W_block ?_
        refine W_rs ?_
        refine rq (out := Pr.i64 x2) qMove ?_
        refine W_block ?_
        refine W_rs ?_
        refine rq (out := Pr.bool (x2 == 0)) qInt ?_
        refine rq (out := Pr.bool (x2 == 0)) qAssign ?_
        refine W_cond (b := x2 == 0) rfl (fun hc8 => ?_) (fun hc8 => ?_)
        · replace h2l := iteT hc8 h2l
          refine W_r ?_
          refine rq (out := Pr.str x3) qMove ?_
          refine rq (out := Pr.lst rApiPart x1) qMove ?_
          refine rq (out := Pr.i64 x4) qMove ?_
          obtain ⟨x9, hx9, h2l⟩ := bindSome h2l
          refine rq (out := Pr.cpt rApiPart x9) (qIdxA (R := rApiPart) (l := x1) Tryd.underlying43 Tryd.sizeOf46 hx9) ?_
          refine rq (out := Pr.cpt Rp.str x9.O) (qFieldC (R := rApiPart) (a := x9) fld46_1 subApiPart_O) ?_
          refine rq (out := Pr.str x9.O) (qLoadC (R := Rp.str) (a := x9.O) ty9) ?_
          obtain ⟨x10, hx10, h2l⟩ := bindSome h2l
          refine rq (out := Pr.str x10) (qCat' hx10) ?_
          refine rq (out := Pr.str x10) qAssign ?_
          exact ⟨x10, h2l, ⟨⟨Pr.le_rfl, Pr.le_rfl, Pr.le_rfl, Pr.le_rfl, trivial⟩, Pick.refl _⟩⟩
        · replace h2l := iteF hc8 h2l
          refine W_rs ?_
          refine rq (out := Pr.bool (x2 == 1)) qInt ?_
          refine rq (out := Pr.bool (x2 == 1)) qAssign ?_
          refine W_cond (b := x2 == 1) rfl (fun hc11 => ?_) (fun hc11 => ?_)
          · replace h2l := iteT hc11 h2l
            refine W_r ?_
            refine rq (out := Pr.str x3) qMove ?_
            refine rq (out := Pr.lst rApiPart x1) qMove ?_
            refine rq (out := Pr.i64 x4) qMove ?_
            obtain ⟨x12, hx12, h2l⟩ := bindSome h2l
            refine rq (out := Pr.cpt rApiPart x12) (qIdxA (R := rApiPart) (l := x1) Tryd.underlying43 Tryd.sizeOf46 hx12) ?_
            refine rq (out := Pr.cpt Rp.str x12.A) (qFieldC (R := rApiPart) (a := x12) fld46_2 subApiPart_A) ?_
            refine rq (out := Pr.str x12.A) (qLoadC (R := Rp.str) (a := x12.A) ty9) ?_
            obtain ⟨x13, hx13, h2l⟩ := bindSome h2l
            refine rq (out := Pr.str x13) (qCat' hx13) ?_
            refine rq (out := Pr.str x13) qAssign ?_
            exact ⟨x13, h2l, ⟨⟨Pr.le_rfl, Pr.le_rfl, Pr.le_rfl, Pr.le_rfl, trivial⟩, Pick.refl _⟩⟩
          · replace h2l := iteF hc11 h2l
            refine W_rs ?_
            refine rq (out := Pr.bool (x2 == 2)) qInt ?_
            refine rq (out := Pr.bool (x2 == 2)) qAssign ?_
            refine W_cond (b := x2 == 2) rfl (fun hc14 => ?_) (fun hc14 => ?_)
            · replace h2l := iteT hc14 h2l
              refine W_r ?_
              refine rq (out := Pr.str x3) qMove ?_
              refine rq (out := Pr.lst rApiPart x1) qMove ?_
              refine rq (out := Pr.i64 x4) qMove ?_
              obtain ⟨x15, hx15, h2l⟩ := bindSome h2l
              refine rq (out := Pr.cpt rApiPart x15) (qIdxA (R := rApiPart) (l := x1) Tryd.underlying43 Tryd.sizeOf46 hx15) ?_
              refine rq (out := Pr.cpt Rp.str x15.B) (qFieldC (R := rApiPart) (a := x15) fld46_3 subApiPart_B) ?_
              refine rq (out := Pr.str x15.B) (qLoadC (R := Rp.str) (a := x15.B) ty9) ?_
              obtain ⟨x16, hx16, h2l⟩ := bindSome h2l
              refine rq (out := Pr.str x16) (qCat' hx16) ?_
              refine rq (out := Pr.str x16) qAssign ?_
              exact ⟨x16, h2l, ⟨⟨Pr.le_rfl, Pr.le_rfl, Pr.le_rfl, Pr.le_rfl, trivial⟩, Pick.refl _⟩⟩
            · replace h2l := iteF hc14 h2l
              refine W_skip ?_
              exact ⟨x3, h2l, ⟨⟨Pr.le_rfl, Pr.le_rfl, Pr.le_rfl, Pr.le_rfl, trivial⟩, Pick.refl _⟩⟩
    · replace h2l := iteF hc7 h2l
      refine W_exit ?_
      obtain rfl := ho2 _ (Option.some.inj h2l).symm
      exact ⟨x3, h, ⟨⟨Pr.le_rfl, trivial⟩, Pick.refl _⟩⟩
theorem law08_WeaveJoins_ok (x1 : List ApiPart) (x2 : Int) (r : Bool) (h : law08_WeaveJoins x1 x2 = some r) : FnP Tryd.prog 11 [Pr.lst rApiPart x1, Pr.i64 x2] (Pr.bool r) := by
  refine fn_intro (n := 69) (rs := [4]) Tryd.func11 rfl Tryd.ntmps11 ⟨by decide, Tryd.results11⟩ (by decide) (fun s0 => ?_)
  unfold law08_WeaveJoins at h
  refine W_rs ?_
  refine rq (out := Pr.bool false) qAssign ?_
  refine W_rs ?_
  obtain ⟨x3, hx3, h⟩ := bindSome h
  refine rq (out := Pr.bool x3) (qCall (law08_awake_ok  _ hx3)) ?_
  refine rq (out := Pr.bool x3) qAssign ?_
  refine W_seq ?_
  refine W_rs ?_
  refine rq (out := Pr.bool x3) qMove ?_
  refine rq (out := Pr.bool (!x3)) qNot ?_
  refine W_cond (b := !x3) rfl (fun hc4 => ?_) (fun hc4 => ?_)
  · replace h := iteT hc4 h
    refine W_rs ?_
    refine rq (out := Pr.bool false) qAssign ?_
    obtain rfl := Option.some.inj h
    exact W_ret ⟨rfl, Pr.le_rfl⟩
  · replace h := iteF hc4 h
    refine W_skip ?_
    refine W_seq ?_
    refine W_rs ?_
    refine rq (out := Pr.lst rApiPart x1) qMove ?_
    refine rq (out := Pr.i64 (x1.length : Int)) (qLenL rfl Tryd.underlying43) ?_
    refine rq (out := Pr.bool (decide ((x1.length : Int) > 50))) qInt ?_
    refine W_cond (b := decide ((x1.length : Int) > 50)) rfl (fun hc5 => ?_) (fun hc5 => ?_)
    · replace h := iteT hc5 h
      refine W_rs ?_
      refine rq (out := Pr.bool true) qAssign ?_
      obtain rfl := Option.some.inj h
      exact W_ret ⟨rfl, Pr.le_rfl⟩
    · replace h := iteF hc5 h
      refine W_skip ?_
      refine W_seq ?_
      refine W_rs ?_
      refine rq (out := Pr.i64 0) qAssign ?_
      refine W_block ?_
      obtain ⟨z3l, hz3, h⟩ := bindSome h
      obtain ⟨n3, hN3⟩ := iter_some hz3
      clear hz3
      refine W_after 0 (fun e C => law08_WeaveJoins_k2 x1 x2 = some r ∧ At [(0, Pr.lst rApiPart x1), (1, Pr.i64 x2)] [] e C) ?_ ?_
      · rintro e C ⟨h, hat2⟩
        refine W_at hat2 ?_
        clear hat2
        unfold law08_WeaveJoins_k2 at h
        refine W_rs ?_
        refine rq (out := Pr.lst rApiPart x1) qMove ?_
        obtain ⟨⟨x14, x15⟩, hx14, h⟩ := bindSome h
        refine rq (out := Pr.tup [Pr.str x14, Pr.bool x15]) (qCall (weave_Join_ok x1 _ hx14)) ?_
        refine rq (out := Pr.tup [Pr.str x14, Pr.bool x15]) qMove ?_
        refine rq (out := Pr.str x14) qExtract ?_
        refine rq (out := Pr.bool x15) qExtract ?_
        refine rq (out := Pr.str x14) qAssign ?_
        refine rq (out := Pr.bool x15) qAssign ?_
        refine W_rs ?_
        refine rq (out := Pr.lst rApiPart x1) qMove ?_
        obtain ⟨⟨x16, x17⟩, hx16, h⟩ := bindSome h
        refine rq (out := Pr.tup [Pr.str x16, Pr.bool x17]) (qCall (ref08_Join_ok x1 _ hx16)) ?_
        refine rq (out := Pr.tup [Pr.str x16, Pr.bool x17]) qMove ?_
        refine rq (out := Pr.str x16) qExtract ?_
        refine rq (out := Pr.bool x17) qExtract ?_
        refine rq (out := Pr.str x16) qAssign ?_
        refine rq (out := Pr.bool x17) qAssign ?_
        refine W_join (fun e C => ∃ (x25 : Bool), law08_WeaveJoins_j1 x25 = some r ∧ At [(4, Pr.bool x25)] [] e C) ?_ ?_
        · rintro e C ⟨x25, h, hat1⟩
          refine W_at hat1 ?_
          clear hat1
          unfold law08_WeaveJoins_j1 at h
          obtain rfl := Option.some.inj h
          exact W_ret ⟨rfl, Pr.le_rfl⟩
        · refine W_r ?_
          refine rq (out := Pr.str x14) qMove ?_
          refine rq (out := Pr.str x16) qMove ?_
          refine rq (out := Pr.bool (x14 == x16)) qStr ?_
          refine rq (out := Pr.bool (x14 == x16)) qMove ?_
          rcases iteSome h with ⟨hc18, h⟩ | ⟨hc18, h⟩
          · refine rqg hc18 (out := Pr.bool x15) qMove ?_
            refine rqg hc18 (out := Pr.bool x17) qMove ?_
            refine rqg hc18 (out := Pr.bool (x15 == x17)) (qBoolEq Tryd.underlying4) ?_
            refine rq (out := Pr.bool (x15 == x17)) (qPickT hc18) ?_
            refine rq (out := Pr.bool (x15 == x17)) qMove ?_
            rcases iteSome h with ⟨hc19, h⟩ | ⟨hc19, h⟩
            · refine rqg hc19 (out := Pr.lst rApiPart x1) qMove ?_
              refine rqg hc19 (out := Pr.i64 x2) qMove ?_
              obtain ⟨x20, hx20, h⟩ := bindSome h
              refine rqg hc19 (out := Pr.str x20) (qCall (weave_Side_ok x1 x2 _ hx20)) ?_
              refine rqg hc19 (out := Pr.lst rApiPart x1) qMove ?_
              refine rqg hc19 (out := Pr.i64 x2) qMove ?_
              obtain ⟨x21, hx21, h⟩ := bindSome h
              refine rqg hc19 (out := Pr.str x21) (qCall (ref08_Side_ok x1 x2 _ hx21)) ?_
              refine rqg hc19 (out := Pr.bool (x20 == x21)) qStr ?_
              refine rq (out := Pr.bool (x20 == x21)) (qPickT hc19) ?_
              refine rq (out := Pr.bool (x20 == x21)) qAssign ?_
              exact ⟨x20 == x21, h, ⟨⟨Pr.le_rfl, trivial⟩, Pick.refl _⟩⟩
            · refine rno (neT hc19) ?_
              refine rno (neT hc19) ?_
              refine rno (neT hc19) ?_
              refine rno (neT hc19) ?_
              refine rno (neT hc19) ?_
              refine rno (neT hc19) ?_
              refine rno (neT hc19) ?_
              refine rq (out := Pr.bool false) (qPickF hc19) ?_
              refine rq (out := Pr.bool false) qAssign ?_
              exact ⟨false, h, ⟨⟨Pr.le_rfl, trivial⟩, Pick.refl _⟩⟩
          · refine rno (neT hc18) ?_
            refine rno (neT hc18) ?_
            refine rno (neT hc18) ?_
            refine rq (out := Pr.bool false) (qPickF hc18) ?_
            refine rq (out := Pr.bool false) qMove ?_
            have hc22 : false = false := rfl
            refine rno (neT hc22) ?_
            refine rno (neT hc22) ?_
            refine rno (neT hc22) ?_
            refine rno (neT hc22) ?_
            refine rno (neT hc22) ?_
            refine rno (neT hc22) ?_
            refine rno (neT hc22) ?_
            refine rq (out := Pr.bool false) (qPickF hc22) ?_
            refine rq (out := Pr.bool false) qAssign ?_
            exact ⟨false, h, ⟨⟨Pr.le_rfl, trivial⟩, Pick.refl _⟩⟩
      · refine W_loop (fun m e C => ∃ (x6 : Int), IterN (fun s => law08_WeaveJoins_l3 x1 s) m x6 = some z3l ∧ At [(0, Pr.lst rApiPart x1), (1, Pr.i64 x2), (6, Pr.i64 x6)] [] e C) n3 ⟨0, hN3, ⟨⟨Pr.le_rfl, Pr.le_rfl, Pr.le_rfl, trivial⟩, Pick.refl _⟩⟩ ?_
        clear hN3
        rintro m e C ⟨x6, hN3, hatl3⟩
        refine W_at hatl3 ?_
        clear hatl3
        obtain ⟨m3, w3l, rfl, h3l, hn3, ho3⟩ := iterN_some hN3
        clear hN3
        replace h3l : law08_WeaveJoins_l3 x1 x6 = some w3l := h3l
        unfold law08_WeaveJoins_l3 at h3l
        refine W_seq ?_
        refine W_rs ?_
        refine rq (out := Pr.i64 x6) qMove ?_
        refine rq (out := Pr.lst rApiPart x1) qMove ?_
        refine rq (out := Pr.i64 (x1.length : Int)) (qLenL rfl Tryd.underlying43) ?_
        refine rq (out := Pr.bool (decide (x6 < (x1.length : Int)))) qInt ?_
        refine W_cond (b := decide (x6 < (x1.length : Int))) rfl (fun hc8 => ?_) (fun hc8 => ?_)
        · replace h3l := iteT hc8 h3l
          refine W_skip ?_
          refine W_seq ?_
          refine W_block ?_
          refine W_join (fun e C => ∃ (x12 : Bool), law08_WeaveJoins_j4 x6 x12 = some w3l ∧ At [(0, Pr.lst rApiPart x1), (1, Pr.i64 x2), (6, Pr.i64 x6), (7, Pr.bool x12)] [] e C) ?_ ?_
          · rintro e C ⟨x12, h3l, hat4⟩
            refine W_at hat4 ?_
            clear hat4
            unfold law08_WeaveJoins_j4 at h3l
            refine W_rs ?_
            refine rq (out := Pr.bool x12) qMove ?_
            refine rq (out := Pr.bool (!x12)) qNot ?_
            refine W_cond (b := !x12) rfl (fun hc13 => ?_) (fun hc13 => ?_)
            · replace h3l := iteT hc13 h3l
              refine W_rs ?_
              refine rq (out := Pr.bool true) qAssign ?_
              obtain rfl := ho3 _ (Option.some.inj h3l).symm
              replace h : some true = some r := h
              obtain rfl := Option.some.inj h
              exact W_ret ⟨rfl, Pr.le_rfl⟩
            · replace h3l := iteF hc13 h3l
              refine W_skip ?_
              refine W_r ?_
              refine rq (out := Pr.i64 x6) qMove ?_
              refine rq (out := Pr.i64 (w64 (x6 + 1))) qInt ?_
              refine rq (out := Pr.i64 (w64 (x6 + 1))) qAssign ?_
              exact ⟨m3, Nat.lt_succ_self _, w64 (x6 + 1), hn3 _ (Option.some.inj h3l).symm, ⟨⟨Pr.le_rfl, Pr.le_rfl, Pr.le_rfl, trivial⟩, Pick.refl _⟩⟩
          · refine W_draw 17 hmx (by kernel_rfl) (by kernel_rfl) ?_
            refine qq (out := Pr.lst rApiPart x1) qMove ?_
            refine qq (out := Pr.i64 x6) qMove ?_
            obtain ⟨x9, hx9, h3l⟩ := bindSome h3l
            refine qq (out := Pr.cpt rApiPart x9) (qIdxA (R := rApiPart) (l := x1) Tryd.underlying43 Tryd.sizeOf46 hx9) ?_
            refine qq (out := Pr.cpt Rp.str x9.O) (qFieldC (R := rApiPart) (a := x9) fld46_1 subApiPart_O) ?_
            refine qq (out := Pr.str x9.O) (qLoadC (R := Rp.str) (a := x9.O) ty9) ?_
            refine qq (out := Pr.lst rApiPart x1) qMove ?_
            refine qq (out := Pr.i64 x6) qMove ?_
            obtain ⟨x10, hx10, h3l⟩ := bindSome h3l
            refine qq (out := Pr.cpt rApiPart x10) (qIdxA (R := rApiPart) (l := x1) Tryd.underlying43 Tryd.sizeOf46 hx10) ?_
            refine qq (out := Pr.cpt Rp.str x10.A) (qFieldC (R := rApiPart) (a := x10) fld46_2 subApiPart_A) ?_
            refine qq (out := Pr.str x10.A) (qLoadC (R := Rp.str) (a := x10.A) ty9) ?_
            refine qq (out := Pr.lst rApiPart x1) qMove ?_
            refine qq (out := Pr.i64 x6) qMove ?_
            obtain ⟨x11, hx11, h3l⟩ := bindSome h3l
            refine qq (out := Pr.cpt rApiPart x11) (qIdxA (R := rApiPart) (l := x1) Tryd.underlying43 Tryd.sizeOf46 hx11) ?_
            refine qq (out := Pr.cpt Rp.str x11.B) (qFieldC (R := rApiPart) (a := x11) fld46_3 subApiPart_B) ?_
            refine qq (out := Pr.str x11.B) (qLoadC (R := Rp.str) (a := x11.B) ty9) ?_
            obtain ⟨x12, hx12, h3l⟩ := bindSome h3l
            refine qq (out := Pr.bool x12) (qCall (law08_few_ok x9.O x10.A x11.B _ hx12)) ?_
            refine qq (out := Pr.bool x12) qAssign ?_
            exact ⟨x12, h3l, ⟨⟨Pr.le_rfl, Pr.le_rfl, Pr.le_rfl, Pr.le_rfl, trivial⟩, Pick.refl _⟩⟩
        · replace h3l := iteF hc8 h3l
          refine W_exit ?_
          obtain rfl := ho3 _ (Option.some.inj h3l).symm
          exact ⟨h, ⟨⟨Pr.le_rfl, Pr.le_rfl, trivial⟩, Pick.refl _⟩⟩
theorem law08_WeaveSides_ok (x1 : List UInt8) (x2 : List UInt8) (x3 : List UInt8) (r : Bool) (h : law08_WeaveSides x1 x2 x3 = some r) : FnP Tryd.prog 12 [Pr.str x1, Pr.str x2, Pr.str x3] (Pr.bool r) := by
  refine fn_intro (n := 111) (rs := [6]) Tryd.func12 rfl Tryd.ntmps12 ⟨by decide, Tryd.results12⟩ (by decide) (fun s0 => ?_)
  unfold law08_WeaveSides at h
  refine W_rs ?_
  refine rq (out := Pr.bool false) qAssign ?_
  refine W_rs ?_
  obtain ⟨x4, hx4, h⟩ := bindSome h
  refine rq (out := Pr.bool x4) (qCall (law08_awake_ok  _ hx4)) ?_
  refine rq (out := Pr.bool x4) qAssign ?_
  refine W_seq ?_
  refine W_rs ?_
  refine rq (out := Pr.bool x4) qMove ?_
  refine rq (out := Pr.bool (!x4)) qNot ?_
  refine W_cond (b := !x4) rfl (fun hc5 => ?_) (fun hc5 => ?_)
  · replace h := iteT hc5 h
    refine W_rs ?_
    refine rq (out := Pr.bool false) qAssign ?_
    obtain rfl := Option.some.inj h
    exact W_ret ⟨rfl, Pr.le_rfl⟩
  · replace h := iteF hc5 h
    refine W_skip ?_
    refine W_rs ?_
    refine rq (out := Pr.str x1) qMove ?_
    refine rq (out := Pr.str x2) qMove ?_
    refine rq (out := Pr.str x3) qMove ?_
    obtain ⟨x6, hx6, h⟩ := bindSome h
    refine rq (out := Pr.bool x6) (qCall (law08_few_ok x1 x2 x3 _ hx6)) ?_
    refine rq (out := Pr.bool x6) qAssign ?_
    refine W_seq ?_
    refine W_rs ?_
    refine rq (out := Pr.bool x6) qMove ?_
    refine rq (out := Pr.bool (!x6)) qNot ?_
    refine W_cond (b := !x6) rfl (fun hc7 => ?_) (fun hc7 => ?_)
    · replace h := iteT hc7 h
      refine W_rs ?_
      refine rq (out := Pr.bool true) qAssign ?_
      obtain rfl := Option.some.inj h
      exact W_ret ⟨rfl, Pr.le_rfl⟩
    · replace h := iteF hc7 h
      refine W_skip ?_
      refine W_rs ?_
      refine rq (out := Pr.str x1) qMove ?_
      refine rq (out := Pr.str x2) qMove ?_
      refine rq (out := Pr.str x3) qMove ?_
      obtain ⟨x8, hx8, h⟩ := bindSome h
      refine rq (out := Pr.lst rApiPart x8) (qCall (weave_Lines_ok x1 x2 x3 _ hx8)) ?_
      refine rq (out := Pr.lst rApiPart x8) qAssign ?_
      refine W_rs ?_
      refine rq (out := Pr.i64 0) qAssign ?_
      refine W_seq ?_
      refine W_rs ?_
      refine rq (out := Pr.i64 0) qAssign ?_
      refine W_block ?_
      obtain ⟨z3l, hz3, h⟩ := bindSome h
      obtain ⟨n3, hN3⟩ := iter_some hz3
      clear hz3
      refine W_after 0 (fun e C => ∃ (x9 : Int), law08_WeaveSides_k2 x8 x1 x9 = some r ∧ At [(0, Pr.str x1), (9, Pr.lst rApiPart x8), (10, Pr.i64 x9)] [] e C) ?_ ?_
      · rintro e C ⟨x9, h, hat2⟩
        refine W_at hat2 ?_
        clear hat2
        unfold law08_WeaveSides_k2 at h
        refine W_rs ?_
        refine rq (out := Pr.lst rApiPart x8) qMove ?_
        obtain ⟨⟨x27, x28⟩, hx27, h⟩ := bindSome h
        refine rq (out := Pr.tup [Pr.str x27, Pr.bool x28]) (qCall (weave_Join_ok x8 _ hx27)) ?_
        refine rq (out := Pr.tup [Pr.str x27, Pr.bool x28]) qMove ?_
        refine rq (out := Pr.str x27) qExtract ?_
        refine rq (out := Pr.bool x28) qExtract ?_
        refine rq (out := Pr.str x27) qAssign ?_
        refine rq (out := Pr.bool x28) qAssign ?_
        refine W_join (fun e C => ∃ (x57 : Bool), law08_WeaveSides_j1 x57 = some r ∧ At [(6, Pr.bool x57)] [] e C) ?_ ?_
        · rintro e C ⟨x57, h, hat1⟩
          refine W_at hat1 ?_
          clear hat1
          unfold law08_WeaveSides_j1 at h
          obtain rfl := Option.some.inj h
          exact W_ret ⟨rfl, Pr.le_rfl⟩
        · refine W_r ?_
          refine rq (out := Pr.lst rApiPart x8) qMove ?_
          obtain ⟨x29, hx29, h⟩ := bindSome h
          refine rq (out := Pr.str x29) (qCall (weave_Side_ok x8 0 _ hx29)) ?_
          refine rq (out := Pr.str x1) qMove ?_
          refine rq (out := Pr.bool (x29 == x1)) qStr ?_
          refine rq (out := Pr.bool (x29 == x1)) qMove ?_
          rcases iteSome h with ⟨hc30, h⟩ | ⟨hc30, h⟩
          · refine rqg hc30 (out := Pr.bool x28) qMove ?_
            refine rqg hc30 (out := Pr.i64 x9) qMove ?_
            refine rqg hc30 (out := Pr.bool (x9 == 0)) qInt ?_
            refine rqg hc30 (out := Pr.bool (x28 == (x9 == 0))) (qBoolEq Tryd.underlying4) ?_
            refine rq (out := Pr.bool (x28 == (x9 == 0))) (qPickT hc30) ?_
            refine rq (out := Pr.bool (x28 == (x9 == 0))) qMove ?_
            rcases iteSome h with ⟨hc31, h⟩ | ⟨hc31, h⟩
            · refine rqg hc31 (out := Pr.bool x28) qMove ?_
              refine rqg hc31 (out := Pr.bool (!x28)) qNot ?_
              refine rqg hc31 (out := Pr.bool (!x28)) qMove ?_
              rcases iteSome h with ⟨hc32, h⟩ | ⟨hc32, h⟩
              · refine rno (neF hc32) ?_
                refine rno (neF hc32) ?_
                refine rno (neF hc32) ?_
                refine rno (neF hc32) ?_
                refine rno (neF hc32) ?_
                refine rnoU ?_
                refine rnoU ?_
                refine rnoU ?_
                refine rnoU ?_
                refine rno (neF hc32) ?_
                refine rqg hc31 (out := Pr.bool true) (qPickT hc32) ?_
                refine rq (out := Pr.bool true) (qPickT hc31) ?_
                refine rq (out := Pr.bool true) qMove ?_
                have hc40 : true = true := rfl
                refine rqg hc40 (out := Pr.lst rApiPart x8) qMove ?_
                obtain ⟨x41, hx41, h⟩ := bindSome h
                refine rqg hc40 (out := Pr.str x41) (qCall (weave_Side_ok x8 3 _ hx41)) ?_
                refine rqg hc40 (out := Pr.bool (x41 == [])) qStr ?_
                refine rq (out := Pr.bool (x41 == [])) (qPickT hc40) ?_
                refine rq (out := Pr.bool (x41 == [])) qAssign ?_
                exact ⟨x41 == [], h, ⟨⟨Pr.le_rfl, trivial⟩, Pick.refl _⟩⟩
              · refine rqg hc32 (out := Pr.str x27) qMove ?_
                refine rqg hc32 (out := Pr.lst rApiPart x8) qMove ?_
                obtain ⟨x33, hx33, h⟩ := bindSome h
                refine rqg hc32 (out := Pr.str x33) (qCall (weave_Side_ok x8 1 _ hx33)) ?_
                refine rqg hc32 (out := Pr.bool (x27 == x33)) qStr ?_
                refine rqg hc32 (out := Pr.bool (x27 == x33)) qMove ?_
                rcases iteSome h with ⟨hc34, h⟩ | ⟨hc34, h⟩
                · refine rqg hc34 (out := Pr.str x27) qMove ?_
                  refine rqg hc34 (out := Pr.lst rApiPart x8) qMove ?_
                  obtain ⟨x35, hx35, h⟩ := bindSome h
                  refine rqg hc34 (out := Pr.str x35) (qCall (weave_Side_ok x8 2 _ hx35)) ?_
                  refine rqg hc34 (out := Pr.bool (x27 == x35)) qStr ?_
                  refine rqg hc32 (out := Pr.bool (x27 == x35)) (qPickT hc34) ?_
                  refine rqg hc31 (out := Pr.bool (x27 == x35)) (qPickF hc32) ?_
                  refine rq (out := Pr.bool (x27 == x35)) (qPickT hc31) ?_
                  refine rq (out := Pr.bool (x27 == x35)) qMove ?_
                  rcases iteSome h with ⟨hc36, h⟩ | ⟨hc36, h⟩
                  · refine rqg hc36 (out := Pr.lst rApiPart x8) qMove ?_
                    obtain ⟨x37, hx37, h⟩ := bindSome h
                    refine rqg hc36 (out := Pr.str x37) (qCall (weave_Side_ok x8 3 _ hx37)) ?_
                    refine rqg hc36 (out := Pr.bool (x37 == [])) qStr ?_
                    refine rq (out := Pr.bool (x37 == [])) (qPickT hc36) ?_
                    refine rq (out := Pr.bool (x37 == [])) qAssign ?_
                    exact ⟨x37 == [], h, ⟨⟨Pr.le_rfl, trivial⟩, Pick.refl _⟩⟩
                  · refine rno (neT hc36) ?_
                    refine rno (neT hc36) ?_
                    refine rno (neT hc36) ?_
                    refine rq (out := Pr.bool false) (qPickF hc36) ?_
                    refine rq (out := Pr.bool false) qAssign ?_
                    exact ⟨false, h, ⟨⟨Pr.le_rfl, trivial⟩, Pick.refl _⟩⟩
                · refine rno (neT hc34) ?_
                  refine rno (neT hc34) ?_
                  refine rno (neT hc34) ?_
                  refine rno (neT hc34) ?_
                  refine rqg hc32 (out := Pr.bool false) (qPickF hc34) ?_
                  refine rqg hc31 (out := Pr.bool false) (qPickF hc32) ?_
                  refine rq (out := Pr.bool false) (qPickT hc31) ?_
                  refine rq (out := Pr.bool false) qMove ?_
                  have hc38 : false = false := rfl
                  refine rno (neT hc38) ?_
                  refine rno (neT hc38) ?_
                  refine rno (neT hc38) ?_
                  refine rq (out := Pr.bool false) (qPickF hc38) ?_
                  refine rq (out := Pr.bool false) qAssign ?_
                  exact ⟨false, h, ⟨⟨Pr.le_rfl, trivial⟩, Pick.refl _⟩⟩
            · refine rno (neT hc31) ?_
              refine rno (neT hc31) ?_
              refine rno (neT hc31) ?_
              refine rnoU ?_
              refine rnoU ?_
              refine rnoU ?_
              refine rnoU ?_
              refine rnoU ?_
              refine rnoU ?_
              refine rnoU ?_
              refine rnoU ?_
              refine rnoU ?_
              refine rnoU ?_
              refine rno (neT hc31) ?_
              refine rq (out := Pr.bool false) (qPickF hc31) ?_
              refine rq (out := Pr.bool false) qMove ?_
              have hc42 : false = false := rfl
              refine rno (neT hc42) ?_
              refine rno (neT hc42) ?_
              refine rno (neT hc42) ?_
              refine rq (out := Pr.bool false) (qPickF hc42) ?_
              refine rq (out := Pr.bool false) qAssign ?_
              exact ⟨false, h, ⟨⟨Pr.le_rfl, trivial⟩, Pick.refl _⟩⟩
          · refine rno (neT hc30) ?_
            refine rno (neT hc30) ?_
            refine rno (neT hc30) ?_
            refine rno (neT hc30) ?_
            refine rq (out := Pr.bool false) (qPickF hc30) ?_
            refine rq (out := Pr.bool false) qMove ?_
            have hc44 : false = false := rfl
            refine rno (neT hc44) ?_
            refine rno (neT hc44) ?_
            refine rno (neT hc44) ?_
            refine rnoU ?_
            refine rnoU ?_
            refine rnoU ?_
            refine rnoU ?_
            refine rnoU ?_
            refine rnoU ?_
            refine rnoU ?_
            refine rnoU ?_
            refine rnoU ?_
            refine rnoU ?_
            refine rno (neT hc44) ?_
            refine rq (out := Pr.bool false) (qPickF hc44) ?_
            refine rq (out := Pr.bool false) qMove ?_
            have hc55 : false = false := rfl
            refine rno (neT hc55) ?_
            refine rno (neT hc55) ?_
            refine rno (neT hc55) ?_
            refine rq (out := Pr.bool false) (qPickF hc55) ?_
            refine rq (out := Pr.bool false) qAssign ?_
            exact ⟨false, h, ⟨⟨Pr.le_rfl, trivial⟩, Pick.refl _⟩⟩
      · refine W_loop (fun m e C => ∃ (x9 : Int), ∃ (x10 : Int), IterN (fun s => law08_WeaveSides_l3 x8 s.1 s.2) m (x9, x10) = some z3l ∧ At [(0, Pr.str x1), (9, Pr.lst rApiPart x8), (10, Pr.i64 x9), (11, Pr.i64 x10)] [] e C) n3 ⟨0, 0, hN3, ⟨⟨Pr.le_rfl, Pr.le_rfl, Pr.le_rfl, Pr.le_rfl, trivial⟩, Pick.refl _⟩⟩ ?_
        clear hN3
        rintro m e C ⟨x9, x10, hN3, hatl3⟩
        refine W_at hatl3 ?_
        clear hatl3
        obtain ⟨m3, w3l, rfl, h3l, hn3, ho3⟩ := iterN_some hN3
        clear hN3
        replace h3l : law08_WeaveSides_l3 x8 x9 x10 = some w3l := h3l
        unfold law08_WeaveSides_l3 at h3l
        refine W_seq ?_
        refine W_rs ?_
        refine rq (out := Pr.i64 x10) qMove ?_
        refine rq (out := Pr.lst rApiPart x8) qMove ?_
        refine rq (out := Pr.i64 (x8.length : Int)) (qLenL rfl Tryd.underlying43) ?_
        refine rq (out := Pr.bool (decide (x10 < (x8.length : Int)))) qInt ?_
        refine W_cond (b := decide (x10 < (x8.length : Int))) rfl (fun hc13 => ?_) (fun hc13 => ?_)
        · replace h3l := iteT hc13 h3l
          refine W_skip ?_
          refine W_join (fun e C => ∃ (x26 : Int), law08_WeaveSides_j4 x10 x26 = some w3l ∧ At [(0, Pr.str x1), (9, Pr.lst rApiPart x8), (10, Pr.i64 x26), (11, Pr.i64 x10)] [] e C) ?_ ?_
          · rintro e C ⟨x26, h3l, hat4⟩
            refine W_at hat4 ?_
            clear hat4
            unfold law08_WeaveSides_j4 at h3l
            refine W_r ?_
            refine rq (out := Pr.i64 x10) qMove ?_
            refine rq (out := Pr.i64 (w64 (x10 + 1))) qInt ?_
            refine rq (out := Pr.i64 (w64 (x10 + 1))) qAssign ?_
            exact ⟨m3, Nat.lt_succ_self _, x26, w64 (x10 + 1), hn3 _ (Option.some.inj h3l).symm, ⟨⟨Pr.le_rfl, Pr.le_rfl, Pr.le_rfl, Pr.le_rfl, trivial⟩, Pick.refl _⟩⟩
          · refine W_block ?_
            refine W_rs ?_
            refine rq (out := Pr.lst rApiPart x8) qMove ?_
            refine rq (out := Pr.i64 x10) qMove ?_
            obtain ⟨x14, hx14, h3l⟩ := bindSome h3l
            refine rq (out := Pr.cpt rApiPart x14) (qIdxA (R := rApiPart) (l := x8) Tryd.underlying43 Tryd.sizeOf46 hx14) ?_
            refine rq (out := Pr.cpt Rp.bool x14.Clash) (qFieldC (R := rApiPart) (a := x14) fld46_0 subApiPart_Clash) ?_
            refine rq (out := Pr.bool x14.Clash) (qLoadC (R := Rp.bool) (a := x14.Clash) ty4) ?_
            refine W_cond (b := x14.Clash) rfl (fun hc15 => ?_) (fun hc15 => ?_)
            · replace h3l := iteT hc15 h3l
              refine W_rs ?_
              refine rq (out := Pr.i64 x9) qMove ?_
              refine rq (out := Pr.i64 (w64 (x9 + 1))) qInt ?_
              refine rq (out := Pr.i64 (w64 (x9 + 1))) qAssign ?_
              refine W_join (fun e C => ∃ (x16 : ApiPart), ∃ (x17 : ApiPart), law08_WeaveSides_j5 x10 x9 x16 x17 = some w3l ∧ At [(0, Pr.str x1), (9, Pr.lst rApiPart x8), (10, Pr.i64 (w64 (x9 + 1))), (11, Pr.i64 x10), (50, Pr.bool (x16.A == x17.B))] [] e C) ?_ ?_
              · rintro e C ⟨x16, x17, h3l, hat5⟩
                refine W_at hat5 ?_
                clear hat5
                unfold law08_WeaveSides_j5 at h3l
                refine W_cond (b := x16.A == x17.B) rfl (fun hc18 => ?_) (fun hc18 => ?_)
                · replace h3l := iteT hc18 h3l
                  refine W_rs ?_
                  refine rq (out := Pr.bool false) qAssign ?_
                  obtain rfl := ho3 _ (Option.some.inj h3l).symm
                  replace h : some false = some r := h
                  obtain rfl := Option.some.inj h
                  exact W_ret ⟨rfl, Pr.le_rfl⟩
                · replace h3l := iteF hc18 h3l
                  refine W_skip ?_
                  exact ⟨w64 (x9 + 1), h3l, ⟨⟨Pr.le_rfl, Pr.le_rfl, Pr.le_rfl, Pr.le_rfl, trivial⟩, Pick.refl _⟩⟩
              · refine W_draw 11 hmx (by kernel_rfl) (by kernel_rfl) ?_
                refine qq (out := Pr.lst rApiPart x8) qMove ?_
                refine qq (out := Pr.i64 x10) qMove ?_
                obtain ⟨x16, hx16, h3l⟩ := bindSome h3l
                refine qq (out := Pr.cpt rApiPart x16) (qIdxA (R := rApiPart) (l := x8) Tryd.underlying43 Tryd.sizeOf46 hx16) ?_
                refine qq (out := Pr.cpt Rp.str x16.A) (qFieldC (R := rApiPart) (a := x16) fld46_2 subApiPart_A) ?_
                refine qq (out := Pr.str x16.A) (qLoadC (R := Rp.str) (a := x16.A) ty9) ?_
                refine qq (out := Pr.lst rApiPart x8) qMove ?_
                refine qq (out := Pr.i64 x10) qMove ?_
                obtain ⟨x17, hx17, h3l⟩ := bindSome h3l
                refine qq (out := Pr.cpt rApiPart x17) (qIdxA (R := rApiPart) (l := x8) Tryd.underlying43 Tryd.sizeOf46 hx17) ?_
                refine qq (out := Pr.cpt Rp.str x17.B) (qFieldC (R := rApiPart) (a := x17) fld46_3 subApiPart_B) ?_
                refine qq (out := Pr.str x17.B) (qLoadC (R := Rp.str) (a := x17.B) ty9) ?_
                refine qq (out := Pr.bool (x16.A == x17.B)) qStr ?_
                exact ⟨x16, x17, h3l, ⟨⟨Pr.le_rfl, Pr.le_rfl, Pr.le_rfl, Pr.le_rfl, Pr.le_rfl, trivial⟩, Pick.refl _⟩⟩
            · replace h3l := iteF hc15 h3l
              refine W_join (fun e C => ∃ (x24 : Bool), law08_WeaveSides_j6 x10 x9 x24 = some w3l ∧ At [(0, Pr.str x1), (9, Pr.lst rApiPart x8), (10, Pr.i64 x9), (11, Pr.i64 x10), (74, Pr.bool x24)] [] e C) ?_ ?_
              · rintro e C ⟨x24, h3l, hat6⟩
                refine W_at hat6 ?_
                clear hat6
                unfold law08_WeaveSides_j6 at h3l
                refine W_cond (b := x24) rfl (fun hc25 => ?_) (fun hc25 => ?_)
                · replace h3l := iteT hc25 h3l
                  refine W_rs ?_
                  refine rq (out := Pr.bool false) qAssign ?_
                  obtain rfl := ho3 _ (Option.some.inj h3l).symm
                  replace h : some false = some r := h
                  obtain rfl := Option.some.inj h
                  exact W_ret ⟨rfl, Pr.le_rfl⟩
                · replace h3l := iteF hc25 h3l
                  refine W_skip ?_
                  exact ⟨x9, h3l, ⟨⟨Pr.le_rfl, Pr.le_rfl, Pr.le_rfl, Pr.le_rfl, trivial⟩, Pick.refl _⟩⟩
              · refine W_draw 24 hmx (by kernel_rfl) (by kernel_rfl) ?_
                refine qq (out := Pr.lst rApiPart x8) qMove ?_
                refine qq (out := Pr.i64 x10) qMove ?_
                obtain ⟨x19, hx19, h3l⟩ := bindSome h3l
                refine qq (out := Pr.cpt rApiPart x19) (qIdxA (R := rApiPart) (l := x8) Tryd.underlying43 Tryd.sizeOf46 hx19) ?_
                refine qq (out := Pr.cpt Rp.str x19.A) (qFieldC (R := rApiPart) (a := x19) fld46_2 subApiPart_A) ?_
                refine qq (out := Pr.str x19.A) (qLoadC (R := Rp.str) (a := x19.A) ty9) ?_
                refine qq (out := Pr.lst rApiPart x8) qMove ?_
                refine qq (out := Pr.i64 x10) qMove ?_
                obtain ⟨x20, hx20, h3l⟩ := bindSome h3l
                refine qq (out := Pr.cpt rApiPart x20) (qIdxA (R := rApiPart) (l := x8) Tryd.underlying43 Tryd.sizeOf46 hx20) ?_
                refine qq (out := Pr.cpt Rp.str x20.B) (qFieldC (R := rApiPart) (a := x20) fld46_3 subApiPart_B) ?_
                refine qq (out := Pr.str x20.B) (qLoadC (R := Rp.str) (a := x20.B) ty9) ?_
                refine qq (out := Pr.bool (!(x19.A == x20.B))) qStr ?_
                refine qq (out := Pr.bool (!(x19.A == x20.B))) qMove ?_
                rcases iteSome h3l with ⟨hc21, h3l⟩ | ⟨hc21, h3l⟩
                · refine qqno (neF hc21) ?_
                  refine qqno (neF hc21) ?_
                  refine qqno (neF hc21) ?_
                  refine qqnoU ?_
                  refine qqnoU ?_
                  refine qqnoU ?_
                  refine qqnoU ?_
                  refine qqnoU ?_
                  refine qqnoU ?_
                  refine qqnoU ?_
                  refine qqno (neF hc21) ?_
                  refine qq (out := Pr.bool true) (qPickT hc21) ?_
                  exact ⟨true, h3l, ⟨⟨Pr.le_rfl, Pr.le_rfl, Pr.le_rfl, Pr.le_rfl, Pr.le_rfl, trivial⟩, Pick.refl _⟩⟩
                · refine qqg hc21 (out := Pr.i64 x10) qMove ?_
                  refine qqg hc21 (out := Pr.bool (decide (x10 > 0))) qInt ?_
                  refine qqg hc21 (out := Pr.bool (decide (x10 > 0))) qMove ?_
                  rcases iteSome h3l with ⟨hc22, h3l⟩ | ⟨hc22, h3l⟩
                  · refine qqg hc22 (out := Pr.lst rApiPart x8) qMove ?_
                    refine qqg hc22 (out := Pr.i64 x10) qMove ?_
                    refine qqg hc22 (out := Pr.i64 (w64 (x10 - 1))) qInt ?_
                    obtain ⟨x23, hx23, h3l⟩ := bindSome h3l
                    refine qqg hc22 (out := Pr.cpt rApiPart x23) (qIdxA (R := rApiPart) (l := x8) Tryd.underlying43 Tryd.sizeOf46 hx23) ?_
                    refine qqg hc22 (out := Pr.cpt Rp.bool x23.Clash) (qFieldC (R := rApiPart) (a := x23) fld46_0 subApiPart_Clash) ?_
                    refine qqg hc22 (out := Pr.bool x23.Clash) (qLoadC (R := Rp.bool) (a := x23.Clash) ty4) ?_
                    refine qqg hc22 (out := Pr.bool (!x23.Clash)) qNot ?_
                    refine qqg hc21 (out := Pr.bool (!x23.Clash)) (qPickT hc22) ?_
                    refine qq (out := Pr.bool (!x23.Clash)) (qPickF hc21) ?_
                    exact ⟨!x23.Clash, h3l, ⟨⟨Pr.le_rfl, Pr.le_rfl, Pr.le_rfl, Pr.le_rfl, Pr.le_rfl, trivial⟩, Pick.refl _⟩⟩
                  · refine qqno (neT hc22) ?_
                    refine qqno (neT hc22) ?_
                    refine qqno (neT hc22) ?_
                    refine qqno (neT hc22) ?_
                    refine qqno (neT hc22) ?_
                    refine qqno (neT hc22) ?_
                    refine qqno (neT hc22) ?_
                    refine qqg hc21 (out := Pr.bool false) (qPickF hc22) ?_
                    refine qq (out := Pr.bool false) (qPickF hc21) ?_
                    exact ⟨false, h3l, ⟨⟨Pr.le_rfl, Pr.le_rfl, Pr.le_rfl, Pr.le_rfl, Pr.le_rfl, trivial⟩, Pick.refl _⟩⟩
        · replace h3l := iteF hc13 h3l
          refine W_exit ?_
          obtain rfl := ho3 _ (Option.some.inj h3l).symm
          exact ⟨x9, h, ⟨⟨Pr.le_rfl, Pr.le_rfl, Pr.le_rfl, trivial⟩, Pick.refl _⟩⟩
theorem law08_WeaveOne_ok (x1 : List UInt8) (x2 : List UInt8) (x3 : List UInt8) (r : Bool) (h : law08_WeaveOne x1 x2 x3 = some r) : FnP Tryd.prog 13 [Pr.str x1, Pr.str x2, Pr.str x3] (Pr.bool r) := by
  refine fn_intro (n := 102) (rs := [6]) Tryd.func13 rfl Tryd.ntmps13 ⟨by decide, Tryd.results13⟩ (by decide) (fun s0 => ?_)
  unfold law08_WeaveOne at h
  refine W_rs ?_
  refine rq (out := Pr.bool false) qAssign ?_
  refine W_rs ?_
  obtain ⟨x4, hx4, h⟩ := bindSome h
  refine rq (out := Pr.bool x4) (qCall (law08_awake_ok  _ hx4)) ?_
  refine rq (out := Pr.bool x4) qAssign ?_
  refine W_seq ?_
  refine W_rs ?_
  refine rq (out := Pr.bool x4) qMove ?_
  refine rq (out := Pr.bool (!x4)) qNot ?_
  refine W_cond (b := !x4) rfl (fun hc5 => ?_) (fun hc5 => ?_)
  · replace h := iteT hc5 h
    refine W_rs ?_
    refine rq (out := Pr.bool false) qAssign ?_
    obtain rfl := Option.some.inj h
    exact W_ret ⟨rfl, Pr.le_rfl⟩
  · replace h := iteF hc5 h
    refine W_skip ?_
    refine W_rs ?_
    refine rq (out := Pr.str x1) qMove ?_
    refine rq (out := Pr.str x2) qMove ?_
    refine rq (out := Pr.str x3) qMove ?_
    obtain ⟨x6, hx6, h⟩ := bindSome h
    refine rq (out := Pr.bool x6) (qCall (law08_few_ok x1 x2 x3 _ hx6)) ?_
    refine rq (out := Pr.bool x6) qAssign ?_
    refine W_seq ?_
    refine W_rs ?_
    refine rq (out := Pr.bool x6) qMove ?_
    refine rq (out := Pr.bool (!x6)) qNot ?_
    refine W_cond (b := !x6) rfl (fun hc7 => ?_) (fun hc7 => ?_)
    · replace h := iteT hc7 h
      refine W_rs ?_
      refine rq (out := Pr.bool true) qAssign ?_
      obtain rfl := Option.some.inj h
      exact W_ret ⟨rfl, Pr.le_rfl⟩
    · replace h := iteF hc7 h
      refine W_skip ?_
      refine W_rs ?_
      refine rq (out := Pr.str x1) qMove ?_
      refine rq (out := Pr.str x1) qMove ?_
      refine rq (out := Pr.str x3) qMove ?_
      obtain ⟨⟨x8, x9⟩, hx8, h⟩ := bindSome h
      refine rq (out := Pr.tup [Pr.str x8, Pr.bool x9]) (qCall (weave_Text_ok x1 x1 x3 _ hx8)) ?_
      refine rq (out := Pr.tup [Pr.str x8, Pr.bool x9]) qMove ?_
      refine rq (out := Pr.str x8) qExtract ?_
      refine rq (out := Pr.bool x9) qExtract ?_
      refine rq (out := Pr.str x8) qAssign ?_
      refine rq (out := Pr.bool x9) qAssign ?_
      refine W_rs ?_
      refine rq (out := Pr.str x1) qMove ?_
      refine rq (out := Pr.str x2) qMove ?_
      refine rq (out := Pr.str x1) qMove ?_
      obtain ⟨⟨x10, x11⟩, hx10, h⟩ := bindSome h
      refine rq (out := Pr.tup [Pr.str x10, Pr.bool x11]) (qCall (weave_Text_ok x1 x2 x1 _ hx10)) ?_
      refine rq (out := Pr.tup [Pr.str x10, Pr.bool x11]) qMove ?_
      refine rq (out := Pr.str x10) qExtract ?_
      refine rq (out := Pr.bool x11) qExtract ?_
      refine rq (out := Pr.str x10) qAssign ?_
      refine rq (out := Pr.bool x11) qAssign ?_
      refine W_rs ?_
      refine rq (out := Pr.str x1) qMove ?_
      refine rq (out := Pr.str x2) qMove ?_
      refine rq (out := Pr.str x2) qMove ?_
      obtain ⟨⟨x12, x13⟩, hx12, h⟩ := bindSome h
      refine rq (out := Pr.tup [Pr.str x12, Pr.bool x13]) (qCall (weave_Text_ok x1 x2 x2 _ hx12)) ?_
      refine rq (out := Pr.tup [Pr.str x12, Pr.bool x13]) qMove ?_
      refine rq (out := Pr.str x12) qExtract ?_
      refine rq (out := Pr.bool x13) qExtract ?_
      refine rq (out := Pr.str x12) qAssign ?_
      refine rq (out := Pr.bool x13) qAssign ?_
      refine W_rs ?_
      refine rq (out := Pr.str x1) qMove ?_
      refine rq (out := Pr.str x2) qMove ?_
      refine rq (out := Pr.str x3) qMove ?_
      obtain ⟨⟨x14, x15⟩, hx14, h⟩ := bindSome h
      refine rq (out := Pr.tup [Pr.str x14, Pr.bool x15]) (qCall (weave_Text_ok x1 x2 x3 _ hx14)) ?_
      refine rq (out := Pr.tup [Pr.str x14, Pr.bool x15]) qMove ?_
      refine rq (out := Pr.str x14) qExtract ?_
      refine rq (out := Pr.bool x15) qExtract ?_
      refine rq (out := Pr.str x14) qAssign ?_
      refine rq (out := Pr.bool x15) qAssign ?_
      refine W_rs ?_
      refine rq (out := Pr.str x1) qMove ?_
      refine rq (out := Pr.str x3) qMove ?_
      refine rq (out := Pr.str x2) qMove ?_
      obtain ⟨⟨x16, x17⟩, hx16, h⟩ := bindSome h
      refine rq (out := Pr.tup [Pr.str x16, Pr.bool x17]) (qCall (weave_Text_ok x1 x3 x2 _ hx16)) ?_
      refine rq (out := Pr.tup [Pr.str x16, Pr.bool x17]) qMove ?_
      refine rq (out := Pr.str x16) qExtract ?_
      refine rq (out := Pr.bool x17) qExtract ?_
      refine rq (out := Pr.str x16) qAssign ?_
      refine rq (out := Pr.bool x17) qAssign ?_
      refine W_join (fun e C => ∃ (x401 : Bool), law08_WeaveOne_j1 x401 = some r ∧ At [(6, Pr.bool x401)] [] e C) ?_ ?_
      · rintro e C ⟨x401, h, hat1⟩
        refine W_at hat1 ?_
        clear hat1
        unfold law08_WeaveOne_j1 at h
        obtain rfl := Option.some.inj h
        exact W_ret ⟨rfl, Pr.le_rfl⟩
      · refine W_r ?_
        refine rq (out := Pr.bool x9) qMove ?_
        refine rq (out := Pr.bool x9) qMove ?_
        rcases iteSome h with ⟨hc18, h⟩ | ⟨hc18, h⟩
        · refine rqg hc18 (out := Pr.str x8) qMove ?_
          refine rqg hc18 (out := Pr.str x3) qMove ?_
          refine rqg hc18 (out := Pr.bool (x8 == x3)) qStr ?_
          refine rq (out := Pr.bool (x8 == x3)) (qPickT hc18) ?_
          refine rq (out := Pr.bool (x8 == x3)) qMove ?_
          rcases iteSome h with ⟨hc19, h⟩ | ⟨hc19, h⟩
          · refine rqg hc19 (out := Pr.bool x11) qMove ?_
            refine rq (out := Pr.bool x11) (qPickT hc19) ?_
            refine rq (out := Pr.bool x11) qMove ?_
            rcases iteSome h with ⟨hc20, h⟩ | ⟨hc20, h⟩
            · refine rqg hc20 (out := Pr.str x10) qMove ?_
              refine rqg hc20 (out := Pr.str x2) qMove ?_
              refine rqg hc20 (out := Pr.bool (x10 == x2)) qStr ?_
              refine rq (out := Pr.bool (x10 == x2)) (qPickT hc20) ?_
              refine rq (out := Pr.bool (x10 == x2)) qMove ?_
              rcases iteSome h with ⟨hc21, h⟩ | ⟨hc21, h⟩
              · refine rqg hc21 (out := Pr.bool x13) qMove ?_
                refine rq (out := Pr.bool x13) (qPickT hc21) ?_
                refine rq (out := Pr.bool x13) qMove ?_
                rcases iteSome h with ⟨hc22, h⟩ | ⟨hc22, h⟩
                · refine rqg hc22 (out := Pr.str x12) qMove ?_
                  refine rqg hc22 (out := Pr.str x2) qMove ?_
                  refine rqg hc22 (out := Pr.bool (x12 == x2)) qStr ?_
                  refine rq (out := Pr.bool (x12 == x2)) (qPickT hc22) ?_
                  refine rq (out := Pr.bool (x12 == x2)) qMove ?_
                  rcases iteSome h with ⟨hc23, h⟩ | ⟨hc23, h⟩
                  · refine rqg hc23 (out := Pr.bool x15) qMove ?_
                    refine rqg hc23 (out := Pr.bool x17) qMove ?_
                    refine rqg hc23 (out := Pr.bool (x15 == x17)) (qBoolEq Tryd.underlying4) ?_
                    refine rq (out := Pr.bool (x15 == x17)) (qPickT hc23) ?_
                    refine rq (out := Pr.bool (x15 == x17)) qMove ?_
                    rcases iteSome h with ⟨hc24, h⟩ | ⟨hc24, h⟩
                    · refine rqg hc24 (out := Pr.str x14) qMove ?_
                      refine rqg hc24 (out := Pr.str x16) qMove ?_
                      refine rqg hc24 (out := Pr.bool (x14 == x16)) qStr ?_
                      refine rq (out := Pr.bool (x14 == x16)) (qPickT hc24) ?_
                      refine rq (out := Pr.bool (x14 == x16)) qMove ?_
                      rcases iteSome h with ⟨hc25, h⟩ | ⟨hc25, h⟩
                      · refine rqg hc25 (out := Pr.bool x15) qMove ?_
                        refine rqg hc25 (out := Pr.bool x15) qMove ?_
                        rcases iteSome h with ⟨hc26, h⟩ | ⟨hc26, h⟩
                        · refine rno (neF hc26) ?_
                          refine rno (neF hc26) ?_
                          refine rqg hc25 (out := Pr.bool true) (qPickT hc26) ?_
                          refine rq (out := Pr.bool true) (qPickT hc25) ?_
                          refine rq (out := Pr.bool true) qAssign ?_
                          exact ⟨true, h, ⟨⟨Pr.le_rfl, trivial⟩, Pick.refl _⟩⟩
                        · refine rqg hc26 (out := Pr.str x14) qMove ?_
                          refine rqg hc26 (out := Pr.bool (x14 == [])) qStr ?_
                          refine rqg hc25 (out := Pr.bool (x14 == [])) (qPickF hc26) ?_
                          refine rq (out := Pr.bool (x14 == [])) (qPickT hc25) ?_
                          refine rq (out := Pr.bool (x14 == [])) qAssign ?_
                          exact ⟨x14 == [], h, ⟨⟨Pr.le_rfl, trivial⟩, Pick.refl _⟩⟩
                      · refine rno (neT hc25) ?_
                        refine rno (neT hc25) ?_
                        refine rnoU ?_
                        refine rnoU ?_
                        refine rno (neT hc25) ?_
                        refine rq (out := Pr.bool false) (qPickF hc25) ?_
                        refine rq (out := Pr.bool false) qAssign ?_
                        exact ⟨false, h, ⟨⟨Pr.le_rfl, trivial⟩, Pick.refl _⟩⟩
                    · refine rno (neT hc24) ?_
                      refine rno (neT hc24) ?_
                      refine rno (neT hc24) ?_
                      refine rq (out := Pr.bool false) (qPickF hc24) ?_
                      refine rq (out := Pr.bool false) qMove ?_
                      have hc27 : false = false := rfl
                      refine rno (neT hc27) ?_
                      refine rno (neT hc27) ?_
                      refine rnoU ?_
                      refine rnoU ?_
                      refine rno (neT hc27) ?_
                      refine rq (out := Pr.bool false) (qPickF hc27) ?_
                      refine rq (out := Pr.bool false) qAssign ?_
                      exact ⟨false, h, ⟨⟨Pr.le_rfl, trivial⟩, Pick.refl _⟩⟩
                  · refine rno (neT hc23) ?_
                    refine rno (neT hc23) ?_
                    refine rno (neT hc23) ?_
                    refine rq (out := Pr.bool false) (qPickF hc23) ?_
                    refine rq (out := Pr.bool false) qMove ?_
                    have hc29 : false = false := rfl
                    refine rno (neT hc29) ?_
                    refine rno (neT hc29) ?_
                    refine rno (neT hc29) ?_
                    refine rq (out := Pr.bool false) (qPickF hc29) ?_
                    refine rq (out := Pr.bool false) qMove ?_
                    have hc32 : false = false := rfl
                    refine rno (neT hc32) ?_
                    refine rno (neT hc32) ?_
                    refine rnoU ?_
                    refine rnoU ?_
                    refine rno (neT hc32) ?_
                    refine rq (out := Pr.bool false) (qPickF hc32) ?_
                    refine rq (out := Pr.bool false) qAssign ?_
                    exact ⟨false, h, ⟨⟨Pr.le_rfl, trivial⟩, Pick.refl _⟩⟩
                · refine rno (neT hc22) ?_
                  refine rno (neT hc22) ?_
                  refine rno (neT hc22) ?_
                  refine rq (out := Pr.bool false) (qPickF hc22) ?_
                  refine rq (out := Pr.bool false) qMove ?_
                  have hc34 : false = false := rfl
                  refine rno (neT hc34) ?_
                  refine rno (neT hc34) ?_
                  refine rno (neT hc34) ?_
                  refine rq (out := Pr.bool false) (qPickF hc34) ?_
                  refine rq (out := Pr.bool false) qMove ?_
                  have hc40 : false = false := rfl
                  refine rno (neT hc40) ?_
                  refine rno (neT hc40) ?_
                  refine rno (neT hc40) ?_
                  refine rq (out := Pr.bool false) (qPickF hc40) ?_
                  refine rq (out := Pr.bool false) qMove ?_
                  have hc43 : false = false := rfl
                  refine rno (neT hc43) ?_
                  refine rno (neT hc43) ?_
                  refine rnoU ?_
                  refine rnoU ?_
                  refine rno (neT hc43) ?_
                  refine rq (out := Pr.bool false) (qPickF hc43) ?_
                  refine rq (out := Pr.bool false) qAssign ?_
                  exact ⟨false, h, ⟨⟨Pr.le_rfl, trivial⟩, Pick.refl _⟩⟩
              · refine rno (neT hc21) ?_
                refine rq (out := Pr.bool false) (qPickF hc21) ?_
                refine rq (out := Pr.bool false) qMove ?_
                have hc45 : false = false := rfl
                refine rno (neT hc45) ?_
                refine rno (neT hc45) ?_
                refine rno (neT hc45) ?_
                refine rq (out := Pr.bool false) (qPickF hc45) ?_
                refine rq (out := Pr.bool false) qMove ?_
                have hc57 : false = false := rfl
                refine rno (neT hc57) ?_
                refine rno (neT hc57) ?_
                refine rno (neT hc57) ?_
                refine rq (out := Pr.bool false) (qPickF hc57) ?_
                refine rq (out := Pr.bool false) qMove ?_
                have hc63 : false = false := rfl
                refine rno (neT hc63) ?_
                refine rno (neT hc63) ?_
                refine rno (neT hc63) ?_
                refine rq (out := Pr.bool false) (qPickF hc63) ?_
                refine rq (out := Pr.bool false) qMove ?_
                have hc66 : false = false := rfl
                refine rno (neT hc66) ?_
                refine rno (neT hc66) ?_
                refine rnoU ?_
                refine rnoU ?_
                refine rno (neT hc66) ?_
                refine rq (out := Pr.bool false) (qPickF hc66) ?_
                refine rq (out := Pr.bool false) qAssign ?_
                exact ⟨false, h, ⟨⟨Pr.le_rfl, trivial⟩, Pick.refl _⟩⟩
            · refine rno (neT hc20) ?_
              refine rno (neT hc20) ?_
              refine rno (neT hc20) ?_
              refine rq (out := Pr.bool false) (qPickF hc20) ?_
              refine rq (out := Pr.bool false) qMove ?_
              have hc68 : false = false := rfl
              refine rno (neT hc68) ?_
              refine rq (out := Pr.bool false) (qPickF hc68) ?_
              refine rq (out := Pr.bool false) qMove ?_
              have hc92 : false = false := rfl
              refine rno (neT hc92) ?_
              refine rno (neT hc92) ?_
              refine rno (neT hc92) ?_
              refine rq (out := Pr.bool false) (qPickF hc92) ?_
              refine rq (out := Pr.bool false) qMove ?_
              have hc104 : false = false := rfl
              refine rno (neT hc104) ?_
              refine rno (neT hc104) ?_
              refine rno (neT hc104) ?_
              refine rq (out := Pr.bool false) (qPickF hc104) ?_
              refine rq (out := Pr.bool false) qMove ?_
              have hc110 : false = false := rfl
              refine rno (neT hc110) ?_
              refine rno (neT hc110) ?_
              refine rno (neT hc110) ?_
              refine rq (out := Pr.bool false) (qPickF hc110) ?_
              refine rq (out := Pr.bool false) qMove ?_
              have hc113 : false = false := rfl
              refine rno (neT hc113) ?_
              refine rno (neT hc113) ?_
              refine rnoU ?_
              refine rnoU ?_
              refine rno (neT hc113) ?_
              refine rq (out := Pr.bool false) (qPickF hc113) ?_
              refine rq (out := Pr.bool false) qAssign ?_
              exact ⟨false, h, ⟨⟨Pr.le_rfl, trivial⟩, Pick.refl _⟩⟩
          · refine rno (neT hc19) ?_
            refine rq (out := Pr.bool false) (qPickF hc19) ?_
            refine rq (out := Pr.bool false) qMove ?_
            have hc115 : false = false := rfl
            refine rno (neT hc115) ?_
            refine rno (neT hc115) ?_
            refine rno (neT hc115) ?_
            refine rq (out := Pr.bool false) (qPickF hc115) ?_
            refine rq (out := Pr.bool false) qMove ?_
            have hc163 : false = false := rfl
            refine rno (neT hc163) ?_
            refine rq (out := Pr.bool false) (qPickF hc163) ?_
            refine rq (out := Pr.bool false) qMove ?_
            have hc187 : false = false := rfl
            refine rno (neT hc187) ?_
            refine rno (neT hc187) ?_
            refine rno (neT hc187) ?_
            refine rq (out := Pr.bool false) (qPickF hc187) ?_
            refine rq (out := Pr.bool false) qMove ?_
            have hc199 : false = false := rfl
            refine rno (neT hc199) ?_
            refine rno (neT hc199) ?_
            refine rno (neT hc199) ?_
            refine rq (out := Pr.bool false) (qPickF hc199) ?_
            refine rq (out := Pr.bool false) qMove ?_
            have hc205 : false = false := rfl
            refine rno (neT hc205) ?_
            refine rno (neT hc205) ?_
            refine rno (neT hc205) ?_
            refine rq (out := Pr.bool false) (qPickF hc205) ?_
            refine rq (out := Pr.bool false) qMove ?_
            have hc208 : false = false := rfl
            refine rno (neT hc208) ?_
            refine rno (neT hc208) ?_
            refine rnoU ?_
            refine rnoU ?_
            refine rno (neT hc208) ?_
            refine rq (out := Pr.bool false) (qPickF hc208) ?_
            refine rq (out := Pr.bool false) qAssign ?_
            exact ⟨false, h, ⟨⟨Pr.le_rfl, trivial⟩, Pick.refl _⟩⟩
        · refine rno (neT hc18) ?_
          refine rno (neT hc18) ?_
          refine rno (neT hc18) ?_
          refine rq (out := Pr.bool false) (qPickF hc18) ?_
          refine rq (out := Pr.bool false) qMove ?_
          have hc210 : false = false := rfl
          refine rno (neT hc210) ?_
          refine rq (out := Pr.bool false) (qPickF hc210) ?_
          refine rq (out := Pr.bool false) qMove ?_
          have hc306 : false = false := rfl
          refine rno (neT hc306) ?_
          refine rno (neT hc306) ?_
          refine rno (neT hc306) ?_
          refine rq (out := Pr.bool false) (qPickF hc306) ?_
          refine rq (out := Pr.bool false) qMove ?_
          have hc354 : false = false := rfl
          refine rno (neT hc354) ?_
          refine rq (out := Pr.bool false) (qPickF hc354) ?_
          refine rq (out := Pr.bool false) qMove ?_
          have hc378 : false = false := rfl
          refine rno (neT hc378) ?_
          refine rno (neT hc378) ?_
          refine rno (neT hc378) ?_
          refine rq (out := Pr.bool false) (qPickF hc378) ?_
          refine rq (out := Pr.bool false) qMove ?_
          have hc390 : false = false := rfl
          refine rno (neT hc390) ?_
          refine rno (neT hc390) ?_
          refine rno (neT hc390) ?_
          refine rq (out := Pr.bool false) (qPickF hc390) ?_
          refine rq (out := Pr.bool false) qMove ?_
          have hc396 : false = false := rfl
          refine rno (neT hc396) ?_
          refine rno (neT hc396) ?_
          refine rno (neT hc396) ?_
          refine rq (out := Pr.bool false) (qPickF hc396) ?_
          refine rq (out := Pr.bool false) qMove ?_
          have hc399 : false = false := rfl
          refine rno (neT hc399) ?_
          refine rno (neT hc399) ?_
          refine rnoU ?_
          refine rnoU ?_
          refine rno (neT hc399) ?_
          refine rq (out := Pr.bool false) (qPickF hc399) ?_
          refine rq (out := Pr.bool false) qAssign ?_
          exact ⟨false, h, ⟨⟨Pr.le_rfl, trivial⟩, Pick.refl _⟩⟩
end Go.Proofs.YtefeelcjokdchaaDoor
