/- The code comes to what these functions say (printed by wip/gen/gen.py). -/
import Derived.Test.YteablckbgpogiaaGreatDoorZX
import Derived.Test.YteablckbgpogiaaGreatDoorZP6
import Derived.Test.YteablckbgpogiaaGreatDoorZT
set_option linter.unusedSimpArgs false
set_option linter.unusedVariables false
set_option linter.unusedSectionVars false
set_option linter.unusedSectionVars false
set_option maxRecDepth 100000
set_option maxHeartbeats 4000000
namespace Go.Proofs.YteablckbgpogiaaGreatDoor
open Go Go.Cn
variable [Known]
attribute [local irreducible] f5 ap
theorem law28_awake_ok (r:Bool) (h:law28_awake=some r):FnP Tryz.prog 6 [] (Pr.bool r):=by
  refine cm (rs:=[0]) Tryz.func6 rfl Tryz.ntmps6 ⟨by decide,Tryz.results6⟩ (by decide) (fun s0=> ?_)
  unfold law28_awake at h
  refine W_rs (kAs rfl (W_rs ?_))
  obtain⟨⟨x1,x2⟩,hx1,h⟩:=af h
  refine jp [] (segment_Split_ok ([99,108,97,115,115,32,65,32,123,32,105,110,116,32,102,59,32,125,32,47,47,32,120]:List UInt8) _ hx1) (fun q C' hq=> ?_)
  obtain⟨v3,rfl,rfl⟩:=hq
  refine kUn (hMv (out:=ce [Pr.is v3,(ai).val x2]) rfl) (kUn ao ?_)
  refine kUn ao ?_
  refine a8 al28 fun b4=>kAs rfl (ak 1 rfl rfl (Upd.refl _) rfl Tryz.sizeOf28 (W_rs (kMv rfl ?_)))
  obtain⟨⟨x5,x6⟩,hx5,h⟩:=af h
  refine kUn (qCallB 0 (segment_Get_ok x1 ([65,125]:List UInt8) _ hx5) ⟨.inr ⟨aa,rfl⟩,.inl aa,trivial⟩ (fun _ _ _ ⟨vs,e,l⟩=>⟨vs,e,match vs,l with| [_,_],l=>l⟩)) ?_
  refine kUn (hMv (out:=ce [ba x5,Pr.bool x6]) rfl) (kUn ao ?_)
  refine kUn ao ?_
  refine kAs rfl (kAs rfl (W_rs (kUn (j8 st50 ⟨(ApiFile.mk ([112]:List UInt8) []),⟨_,rfl,rfl,fun j fd hj hf=>by match j,hj with| 0,h=>exact absurd rfl h| 1,_=>cases hf;rfl|_+2,_=>cases hf⟩,⟨(ApiFile.mk ([112]:List UInt8) ([99,108,97,115,115,32,65,123,125]:List UInt8)),⟨_,rfl,rfl,fun j fd hj hf=>by match j,hj with| 0,_=>cases hf;rfl| 1,h=>exact absurd rfl h|_+2,_=>cases hf⟩,rfl⟩⟩) ?_)))
  refine kUn (bt (R:=en) (a:=(ApiFile.mk ([112]:List UInt8) ([99,108,97,115,115,32,65,123,125]:List UInt8))) el40 (Nat.le_of_ble_eq_true rfl)) ?_
  obtain⟨⟨x7,x8⟩,hx7,h⟩:=af h
  refine kUn (dl (segment_All_ok ([(ApiFile.mk ([112]:List UInt8) ([99,108,97,115,115,32,65,123,125]:List UInt8))]:List ApiFile) _ hx7)) ?_
  refine kUn (hMv (out:=ce [ap a6 x7,(ai).val x8]) rfl) (kUn ao ?_)
  refine kUn ao ?_
  refine a8 al28 fun b9=>kAsL rfl (ak 2 rfl rfl (Upd.refl _) rfl Tryz.sizeOf28 ?_)
  refine W_rel 0 [1] ?_ rfl ⟨rfl,trivial⟩
  refine bj (fun e C=>∃(x7791:Bool),eq x7791=some r/\At [(0,Pr.bool x7791)] [Own.box b4 ai x2,Own.box b9 ai x8] e C) ?_ ?_
  · rintro e C ⟨x7791,h,hat1⟩
    refine W_at hat1 ?_
    unfold eq at h
    obtain rfl:=osj h
    exact ax ⟨rfl,aa⟩
  refine W_r (kUn (av fld28_0) ?_)
  refine kUn (bb 0 ty26 gu) ?_
  refine kIn rfl rfl rfl (kMv rfl ?_)
  rcases bd h with⟨hc10,h⟩|⟨hc10,h⟩
  · refine kGd rfl aa hc10 (hMvL rfl) (kGd rfl aa hc10 (mt rfl Tryz.underlying22) ?_)
    refine kGd rfl aa hc10 (qInt rfl rfl rfl) (kPt rfl hc10 rfl (kMv rfl ?_))
    rcases bd h with⟨hc11,h⟩|⟨hc11,h⟩
    · refine kGd rfl aa hc11 (hMvL rfl) ?_
      obtain⟨x12,hx12,h⟩:=af h
      refine kGd rfl aa hc11 (fi Tryz.underlying22 Tryz.sizeOf25 hx12) ?_
      refine kGd rfl aa hc11 (de fld25_0 mo) ?_
      refine kGd rfl aa hc11 (cw ty9) ?_
      refine kGd rfl aa hc11 (qStr rfl rfl rfl) (kPt rfl hc11 rfl (kMv rfl ?_))
      rcases bd h with⟨hc13,h⟩|⟨hc13,h⟩
      · refine kGd rfl aa hc13 (hMvL rfl) ?_
        obtain⟨x14,hx14,h⟩:=af h
        refine kGd rfl aa hc13 (fi Tryz.underlying22 Tryz.sizeOf25 hx14) ?_
        refine kGd rfl aa hc13 (de fld25_1 subApiSegment_Text) ?_
        refine kGd rfl aa hc13 (cw ty9) ?_
        refine kGd rfl aa hc13 (qStr rfl rfl rfl) (kPt rfl hc13 rfl (kMv rfl ?_))
        rcases bd h with⟨hc15,h⟩|⟨hc15,h⟩
        · refine kGd rfl aa hc15 (hMvA rfl) (kGd rfl aa hc15 (qStr rfl rfl rfl) (kPt rfl hc15 rfl (kMv rfl ?_)))
          rcases bd h with⟨hc16,h⟩|⟨hc16,h⟩
          · refine kGd rfl aa hc16 (hMvA rfl) (kPt rfl hc16 rfl (kMv rfl ?_))
            rcases bd h with⟨hc17,h⟩|⟨hc17,h⟩
            · refine kGd rfl aa hc17 (hMvL rfl) ?_
              obtain⟨x18,hx18,h⟩:=af h
              refine kGd rfl aa hc17 (dl (segment_Join_ok x1 _ hx18)) ?_
              refine kGd rfl aa hc17 (qStr rfl rfl rfl) (kPt rfl hc17 rfl (kMv rfl ?_))
              rcases bd h with⟨hc19,h⟩|⟨hc19,h⟩
              · refine kGd rfl aa hc19 (hMvL rfl) ?_
                obtain⟨x20,hx20,h⟩:=af h
                refine kGd rfl aa hc19 (dl (segment_Keys_ok x1 _ hx20)) ?_
                refine kGd rfl aa hc19 (mt rfl Tryz.underlying36) ?_
                refine kGd rfl aa hc19 (qInt rfl rfl rfl) (kPt rfl hc19 rfl (kMv rfl ?_))
                rcases bd h with⟨hc21,h⟩|⟨hc21,h⟩
                · refine kGd rfl aa hc21 (av fld28_0) ?_
                  refine kGd rfl aa hc21 (bb 1 ty26 gu) ?_
                  refine kGd rfl aa hc21 (qInt rfl rfl rfl) (kPt rfl hc21 rfl (kMv rfl ?_))
                  rcases bd h with⟨hc22,h⟩|⟨hc22,h⟩
                  · refine kGd rfl aa hc22 (hMvL rfl) (kGd rfl aa hc22 (mt rfl Tryz.underlying22) ?_)
                    refine kGd rfl aa hc22 (qInt rfl rfl rfl) (kPt rfl hc22 rfl (kMv rfl ?_))
                    rcases bd h with⟨hc23,h⟩|⟨hc23,h⟩
                    · refine kGd rfl aa hc23 (hMvL rfl) ?_
                      obtain⟨x24,hx24,h⟩:=af h
                      refine kGd rfl aa hc23 (fi Tryz.underlying22 Tryz.sizeOf25 hx24) ?_
                      refine kGd rfl aa hc23 (de fld25_0 mo) ?_
                      refine kGd rfl aa hc23 (cw ty9) ?_
                      refine kGd rfl aa hc23 (qStr rfl rfl rfl) (kPt rfl hc23 rfl (kMv rfl ?_))
                      rcases bd h with⟨hc25,h⟩|⟨hc25,h⟩
                      · obtain⟨x26,hx26,h⟩:=af h
                        refine kGd rfl aa hc25 (dl (segment_Body_ok ([65,46,109,40,41]:List UInt8) _ hx26)) ?_
                        refine kPt rfl hc25 rfl (kMv rfl ?_)
                        rcases bd h with⟨hc27,h⟩|⟨hc27,h⟩
                        · obtain⟨x28,hx28,h⟩:=af h
                          refine kGd rfl aa hc27 (dl (segment_Body_ok ([65,46,109]:List UInt8) _ hx28)) ?_
                          refine kGd rfl aa hc27 (qNot rfl) (kPt rfl hc27 rfl (kAs rfl ?_))
                          exact⟨!x28,h,atOk⟩
                        refine kSkT rfl aa hc27 (kSkT rfl aa hc27 (kPf rfl hc27 rfl (kAs rfl ?_)))
                        exact⟨false,h,atOk⟩
                      refine kSkT rfl aa hc25 (kPf rfl hc25 rfl (kMv rfl ?_))
                      have hc29:false=false:=rfl
                      refine kSkT rfl aa hc29 (kSkT rfl aa hc29 (kPf rfl hc29 rfl (kAs rfl ?_)))
                      exact⟨false,h,atOk⟩
                    refine kSkT rfl aa hc23 (kSkT rfl aa hc23 (kSkT rfl aa hc23 (kSkT rfl aa hc23 (kSkT rfl aa hc23 (kPf rfl hc23 rfl (kMv rfl ?_))))))
                    have hc31:false=false:=rfl
                    refine kSkT rfl aa hc31 (kPf rfl hc31 rfl (kMv rfl ?_))
                    have hc35:false=false:=rfl
                    refine kSkT rfl aa hc35 (kSkT rfl aa hc35 (kPf rfl hc35 rfl (kAs rfl ?_)))
                    exact⟨false,h,atOk⟩
                  refine kSkT rfl aa hc22 (kSkT rfl aa hc22 (kSkT rfl aa hc22 (kPf rfl hc22 rfl (kMv rfl ?_))))
                  have hc37:false=false:=rfl
                  refine kSkT rfl aa hc37 (kSkT rfl aa hc37 (kSkT rfl aa hc37 (kSkT rfl aa hc37 (kSkT rfl aa hc37 (kPf rfl hc37 rfl (kMv rfl ?_))))))
                  have hc45:false=false:=rfl
                  refine kSkT rfl aa hc45 (kPf rfl hc45 rfl (kMv rfl ?_))
                  have hc49:false=false:=rfl
                  refine kSkT rfl aa hc49 (kSkT rfl aa hc49 (kPf rfl hc49 rfl (kAs rfl ?_)))
                  exact⟨false,h,atOk⟩
                refine kSkT rfl aa hc21 (kSkT rfl aa hc21 (kSkT rfl aa hc21 (kPf rfl hc21 rfl (kMv rfl ?_))))
                have hc51:false=false:=rfl
                refine kSkT rfl aa hc51 (kSkT rfl aa hc51 (kSkT rfl aa hc51 (kPf rfl hc51 rfl (kMv rfl ?_))))
                have hc66:false=false:=rfl
                refine kSkT rfl aa hc66 (kSkT rfl aa hc66 (kSkT rfl aa hc66 (kSkT rfl aa hc66 (kSkT rfl aa hc66 (kPf rfl hc66 rfl (kMv rfl ?_))))))
                have hc74:false=false:=rfl
                refine kSkT rfl aa hc74 (kPf rfl hc74 rfl (kMv rfl ?_))
                have hc78:false=false:=rfl
                refine kSkT rfl aa hc78 (kSkT rfl aa hc78 (kPf rfl hc78 rfl (kAs rfl ?_)))
                exact⟨false,h,atOk⟩
              refine kSkT rfl aa hc19 (kSkT rfl aa hc19 (kSkT rfl aa hc19 (kSkT rfl aa hc19 (kPf rfl hc19 rfl (kMv rfl ?_)))))
              have hc80:false=false:=rfl
              refine kSkT rfl aa hc80 (kSkT rfl aa hc80 (kSkT rfl aa hc80 (kPf rfl hc80 rfl (kMv rfl ?_))))
              have hc110:false=false:=rfl
              refine kSkT rfl aa hc110 (kSkT rfl aa hc110 (kSkT rfl aa hc110 (kPf rfl hc110 rfl (kMv rfl ?_))))
              have hc125:false=false:=rfl
              refine kSkT rfl aa hc125 (kSkT rfl aa hc125 (kSkT rfl aa hc125 (kSkT rfl aa hc125 (kSkT rfl aa hc125 (kPf rfl hc125 rfl (kMv rfl ?_))))))
              have hc133:false=false:=rfl
              refine kSkT rfl aa hc133 (kPf rfl hc133 rfl (kMv rfl ?_))
              have hc137:false=false:=rfl
              refine kSkT rfl aa hc137 (kSkT rfl aa hc137 (kPf rfl hc137 rfl (kAs rfl ?_)))
              exact⟨false,h,atOk⟩
            refine kSkT rfl aa hc17 (kSkT rfl aa hc17 (kSkT rfl aa hc17 (kPf rfl hc17 rfl (kMv rfl ?_))))
            have hc139:false=false:=rfl
            refine kSkT rfl aa hc139 (kSkT rfl aa hc139 (kSkT rfl aa hc139 (kSkT rfl aa hc139 (kPf rfl hc139 rfl (kMv rfl ?_)))))
            have hc200:false=false:=rfl
            refine kSkT rfl aa hc200 (kSkT rfl aa hc200 (kSkT rfl aa hc200 (kPf rfl hc200 rfl (kMv rfl ?_))))
            have hc230:false=false:=rfl
            refine kSkT rfl aa hc230 (kSkT rfl aa hc230 (kSkT rfl aa hc230 (kPf rfl hc230 rfl (kMv rfl ?_))))
            have hc245:false=false:=rfl
            refine kSkT rfl aa hc245 (kSkT rfl aa hc245 (kSkT rfl aa hc245 (kSkT rfl aa hc245 (kSkT rfl aa hc245 (kPf rfl hc245 rfl (kMv rfl ?_))))))
            have hc253:false=false:=rfl
            refine kSkT rfl aa hc253 (kPf rfl hc253 rfl (kMv rfl ?_))
            have hc257:false=false:=rfl
            refine kSkT rfl aa hc257 (kSkT rfl aa hc257 (kPf rfl hc257 rfl (kAs rfl ?_)))
            exact⟨false,h,atOk⟩
          refine kSkT rfl aa hc16 (kPf rfl hc16 rfl (kMv rfl ?_))
          have hc259:false=false:=rfl
          refine kSkT rfl aa hc259 (kSkT rfl aa hc259 (kSkT rfl aa hc259 (kPf rfl hc259 rfl (kMv rfl ?_))))
          have hc381:false=false:=rfl
          refine kSkT rfl aa hc381 (kSkT rfl aa hc381 (kSkT rfl aa hc381 (kSkT rfl aa hc381 (kPf rfl hc381 rfl (kMv rfl ?_)))))
          have hc442:false=false:=rfl
          refine kSkT rfl aa hc442 (kSkT rfl aa hc442 (kSkT rfl aa hc442 (kPf rfl hc442 rfl (kMv rfl ?_))))
          have hc472:false=false:=rfl
          refine kSkT rfl aa hc472 (kSkT rfl aa hc472 (kSkT rfl aa hc472 (kPf rfl hc472 rfl (kMv rfl ?_))))
          have hc487:false=false:=rfl
          refine kSkT rfl aa hc487 (kSkT rfl aa hc487 (kSkT rfl aa hc487 (kSkT rfl aa hc487 (kSkT rfl aa hc487 (kPf rfl hc487 rfl (kMv rfl ?_))))))
          have hc495:false=false:=rfl
          refine kSkT rfl aa hc495 (kPf rfl hc495 rfl (kMv rfl ?_))
          have hc499:false=false:=rfl
          refine kSkT rfl aa hc499 (kSkT rfl aa hc499 (kPf rfl hc499 rfl (kAs rfl ?_)))
          exact⟨false,h,atOk⟩
        refine kSkT rfl aa hc15 (kSkT rfl aa hc15 (kPf rfl hc15 rfl (kMv rfl ?_)))
        have hc501:false=false:=rfl
        refine kSkT rfl aa hc501 (kPf rfl hc501 rfl (kMv rfl ?_))
        have hc744:false=false:=rfl
        refine kSkT rfl aa hc744 (kSkT rfl aa hc744 (kSkT rfl aa hc744 (kPf rfl hc744 rfl (kMv rfl ?_))))
        have hc866:false=false:=rfl
        refine kSkT rfl aa hc866 (kSkT rfl aa hc866 (kSkT rfl aa hc866 (kSkT rfl aa hc866 (kPf rfl hc866 rfl (kMv rfl ?_)))))
        have hc927:false=false:=rfl
        refine kSkT rfl aa hc927 (kSkT rfl aa hc927 (kSkT rfl aa hc927 (kPf rfl hc927 rfl (kMv rfl ?_))))
        have hc957:false=false:=rfl
        refine kSkT rfl aa hc957 (kSkT rfl aa hc957 (kSkT rfl aa hc957 (kPf rfl hc957 rfl (kMv rfl ?_))))
        have hc972:false=false:=rfl
        refine kSkT rfl aa hc972 (kSkT rfl aa hc972 (kSkT rfl aa hc972 (kSkT rfl aa hc972 (kSkT rfl aa hc972 (kPf rfl hc972 rfl (kMv rfl ?_))))))
        have hc980:false=false:=rfl
        refine kSkT rfl aa hc980 (kPf rfl hc980 rfl (kMv rfl ?_))
        have hc984:false=false:=rfl
        refine kSkT rfl aa hc984 (kSkT rfl aa hc984 (kPf rfl hc984 rfl (kAs rfl ?_)))
        exact⟨false,h,atOk⟩
      refine kSkT rfl aa hc13 (kSkT rfl aa hc13 (kSkT rfl aa hc13 (kSkT rfl aa hc13 (kSkT rfl aa hc13 (kPf rfl hc13 rfl (kMv rfl ?_))))))
      have hc986:false=false:=rfl
      refine kSkT rfl aa hc986 (kSkT rfl aa hc986 (kPf rfl hc986 rfl (kMv rfl ?_)))
      have hc1472:false=false:=rfl
      refine kSkT rfl aa hc1472 (kPf rfl hc1472 rfl (kMv rfl ?_))
      have hc1715:false=false:=rfl
      refine kSkT rfl aa hc1715 (kSkT rfl aa hc1715 (kSkT rfl aa hc1715 (kPf rfl hc1715 rfl (kMv rfl ?_))))
      have hc1837:false=false:=rfl
      refine kSkT rfl aa hc1837 (kSkT rfl aa hc1837 (kSkT rfl aa hc1837 (kSkT rfl aa hc1837 (kPf rfl hc1837 rfl (kMv rfl ?_)))))
      have hc1898:false=false:=rfl
      refine kSkT rfl aa hc1898 (kSkT rfl aa hc1898 (kSkT rfl aa hc1898 (kPf rfl hc1898 rfl (kMv rfl ?_))))
      have hc1928:false=false:=rfl
      refine kSkT rfl aa hc1928 (kSkT rfl aa hc1928 (kSkT rfl aa hc1928 (kPf rfl hc1928 rfl (kMv rfl ?_))))
      have hc1943:false=false:=rfl
      refine kSkT rfl aa hc1943 (kSkT rfl aa hc1943 (kSkT rfl aa hc1943 (kSkT rfl aa hc1943 (kSkT rfl aa hc1943 (kPf rfl hc1943 rfl (kMv rfl ?_))))))
      have hc1951:false=false:=rfl
      refine kSkT rfl aa hc1951 (kPf rfl hc1951 rfl (kMv rfl ?_))
      have hc1955:false=false:=rfl
      refine kSkT rfl aa hc1955 (kSkT rfl aa hc1955 (kPf rfl hc1955 rfl (kAs rfl ?_)))
      exact⟨false,h,atOk⟩
    refine kSkT rfl aa hc11 (kSkT rfl aa hc11 (kSkT rfl aa hc11 (kSkT rfl aa hc11 (kSkT rfl aa hc11 (kPf rfl hc11 rfl (kMv rfl ?_))))))
    have hc1957:false=false:=rfl
    refine kSkT rfl aa hc1957 (kSkT rfl aa hc1957 (kSkT rfl aa hc1957 (kSkT rfl aa hc1957 (kSkT rfl aa hc1957 (kPf rfl hc1957 rfl (kMv rfl ?_))))))
    have hc2930:false=false:=rfl
    refine kSkT rfl aa hc2930 (kSkT rfl aa hc2930 (kPf rfl hc2930 rfl (kMv rfl ?_)))
    have hc3416:false=false:=rfl
    refine kSkT rfl aa hc3416 (kPf rfl hc3416 rfl (kMv rfl ?_))
    have hc3659:false=false:=rfl
    refine kSkT rfl aa hc3659 (kSkT rfl aa hc3659 (kSkT rfl aa hc3659 (kPf rfl hc3659 rfl (kMv rfl ?_))))
    have hc3781:false=false:=rfl
    refine kSkT rfl aa hc3781 (kSkT rfl aa hc3781 (kSkT rfl aa hc3781 (kSkT rfl aa hc3781 (kPf rfl hc3781 rfl (kMv rfl ?_)))))
    have hc3842:false=false:=rfl
    refine kSkT rfl aa hc3842 (kSkT rfl aa hc3842 (kSkT rfl aa hc3842 (kPf rfl hc3842 rfl (kMv rfl ?_))))
    have hc3872:false=false:=rfl
    refine kSkT rfl aa hc3872 (kSkT rfl aa hc3872 (kSkT rfl aa hc3872 (kPf rfl hc3872 rfl (kMv rfl ?_))))
    have hc3887:false=false:=rfl
    refine kSkT rfl aa hc3887 (kSkT rfl aa hc3887 (kSkT rfl aa hc3887 (kSkT rfl aa hc3887 (kSkT rfl aa hc3887 (kPf rfl hc3887 rfl (kMv rfl ?_))))))
    have hc3895:false=false:=rfl
    refine kSkT rfl aa hc3895 (kPf rfl hc3895 rfl (kMv rfl ?_))
    have hc3899:false=false:=rfl
    refine kSkT rfl aa hc3899 (kSkT rfl aa hc3899 (kPf rfl hc3899 rfl (kAs rfl ?_)))
    exact⟨false,h,atOk⟩
  refine kSkT rfl aa hc10 (kSkT rfl aa hc10 (kSkT rfl aa hc10 (kPf rfl hc10 rfl (kMv rfl ?_))))
  have hc3901:false=false:=rfl
  refine kSkT rfl aa hc3901 (kSkT rfl aa hc3901 (kSkT rfl aa hc3901 (kSkT rfl aa hc3901 (kSkT rfl aa hc3901 (kPf rfl hc3901 rfl (kMv rfl ?_))))))
  have hc5847:false=false:=rfl
  refine kSkT rfl aa hc5847 (kSkT rfl aa hc5847 (kSkT rfl aa hc5847 (kSkT rfl aa hc5847 (kSkT rfl aa hc5847 (kPf rfl hc5847 rfl (kMv rfl ?_))))))
  have hc6820:false=false:=rfl
  refine kSkT rfl aa hc6820 (kSkT rfl aa hc6820 (kPf rfl hc6820 rfl (kMv rfl ?_)))
  have hc7306:false=false:=rfl
  refine kSkT rfl aa hc7306 (kPf rfl hc7306 rfl (kMv rfl ?_))
  have hc7549:false=false:=rfl
  refine kSkT rfl aa hc7549 (kSkT rfl aa hc7549 (kSkT rfl aa hc7549 (kPf rfl hc7549 rfl (kMv rfl ?_))))
  have hc7671:false=false:=rfl
  refine kSkT rfl aa hc7671 (kSkT rfl aa hc7671 (kSkT rfl aa hc7671 (kSkT rfl aa hc7671 (kPf rfl hc7671 rfl (kMv rfl ?_)))))
  have hc7732:false=false:=rfl
  refine kSkT rfl aa hc7732 (kSkT rfl aa hc7732 (kSkT rfl aa hc7732 (kPf rfl hc7732 rfl (kMv rfl ?_))))
  have hc7762:false=false:=rfl
  refine kSkT rfl aa hc7762 (kSkT rfl aa hc7762 (kSkT rfl aa hc7762 (kPf rfl hc7762 rfl (kMv rfl ?_))))
  have hc7777:false=false:=rfl
  refine kSkT rfl aa hc7777 (kSkT rfl aa hc7777 (kSkT rfl aa hc7777 (kSkT rfl aa hc7777 (kSkT rfl aa hc7777 (kPf rfl hc7777 rfl (kMv rfl ?_))))))
  have hc7785:false=false:=rfl
  refine kSkT rfl aa hc7785 (kPf rfl hc7785 rfl (kMv rfl ?_))
  have hc7789:false=false:=rfl
  refine kSkT rfl aa hc7789 (kSkT rfl aa hc7789 (kPf rfl hc7789 rfl (kAs rfl ?_)))
  exact⟨false,h,atOk⟩
end Go.Proofs.YteablckbgpogiaaGreatDoor
