/- The code comes to what these functions say (printed by wip/gen/gen.py). -/
import Derived.Test.YtcndghapmoaidaaGreatDoorZX
import Derived.Test.YtcndghapmoaidaaGreatDoorZP9
import Derived.Test.YtcndghapmoaidaaGreatDoorZT
set_option linter.unusedSimpArgs false
set_option linter.unusedVariables false
set_option linter.unusedSectionVars false
set_option linter.unusedSectionVars false
set_option maxRecDepth 100000
set_option maxHeartbeats 4000000
namespace Go.Proofs.YtcndghapmoaidaaGreatDoor
open Go Go.Cn
attribute [local irreducible] ec aq
theorem types_Operator_ok (x1:List ApiEntity) (x2 x3 x4:List UInt8) (r:(List UInt8)) (h:ma x1 x2 x3 x4=some r):FnP Tryz.prog 30 [aq af x1,bv x2,bv x3,bv x4] (bv r):=by
 refine cu (rs:=[8]) Tryz.func30 rfl Tryz.ntmps30 ⟨by decide,Tryz.results30⟩ (by decide) (fun s0=> ?_)
 unfold ma at h
 refine W_rs ?_
 refine rBox (R:=a6) (a:=x3) rfl (fun b5=> ?_)
 refine rBox (R:=a6) (a:=x4) rfl (fun b6=> ?_)
 refine kAs rfl (W_rs ?_)
 refine rRelB 0 [6] ?_ rfl ⟨rfl,trivial⟩
 refine rRelB 0 [7] ?_ rfl ⟨rfl,trivial⟩
 refine kUn mz ?_
 refine kUn (hAs (out:=j2 63 [] [ec a6 x3,ec a6 x4]) rfl) ?_
 refine bh (fun e C=>g0=some r/\At [] [] e C) ?_ ?_
 ·rintro e C ⟨h,hat1⟩
  refine W_at hat1 ?_
  unfold g0 at h
  refine W_rs (kAs rfl ?_)
  obtain rfl:=osj h
  exact bc ⟨rfl,aa⟩
 refine W_rs (kMv rfl (az ?_))
 refine bh (fun e C=>∃(x11:Bool),gz x3 x4 x2 x1 x11=some r/\At [(0,aq af x1),(6,ec a6 x3),(7,ec a6 x4),(9,j2 63 [] [ec a6 x3,ec a6 x4]),(11,bv x2),(12,Pr.bool x11)] [] e C) ?_ ?_
 ·rintro e C ⟨x11,h,hat6⟩
  refine W_at hat6 ?_
  unfold gz at h
  refine a5 h rfl (fun _ h=> ?_) (fun _ h=> ?_)
  ·refine W_rs (kUn (hMv (out:=j2 63 [] [ec a6 x3,ec a6 x4]) rfl) ?_)
   obtain⟨x13,hx13,h⟩:=ah h
   refine kUn (qCallClo (oc ([105,110,116]:List UInt8) x3 x4 _ hx13)) ?_
   refine a5 h rfl (fun _ h=> ?_) (fun _ h=> ?_)
   ·refine W_rs (kAs rfl ?_)
    obtain rfl:=osj h
    exact bc ⟨rfl,aa⟩
   refine ax ?_
   exact⟨h,atOk⟩
  refine bh (fun e C=>∃(x18:Bool),i7 x3 x4 x2 x1 x18=some r/\At [(0,aq af x1),(6,ec a6 x3),(7,ec a6 x4),(9,j2 63 [] [ec a6 x3,ec a6 x4]),(11,bv x2),(20,Pr.bool x18)] [] e C) ?_ ?_
  ·rintro e C ⟨x18,h,hat5⟩
   refine W_at hat5 ?_
   unfold i7 at h
   refine a5 h rfl (fun _ h=> ?_) (fun _ h=> ?_)
   ·refine W_rs (kUn (hMv (out:=j2 63 [] [ec a6 x3,ec a6 x4]) rfl) ?_)
    obtain⟨x20,hx20,h⟩:=ah h
    refine kUn (qCallClo (oc ([105,110,116]:List UInt8) x3 x4 _ hx20)) ?_
    refine a5 h rfl (fun _ h=> ?_) (fun _ h=> ?_)
    ·refine W_rs (kAs rfl ?_)
     obtain rfl:=osj h
     exact bc ⟨rfl,aa⟩
    refine ax ?_
    exact⟨h,atOk⟩
   refine bh (fun e C=>∃(x23:Bool),nl x3 x4 x2 x1 x23=some r/\At [(0,aq af x1),(6,ec a6 x3),(7,ec a6 x4),(9,j2 63 [] [ec a6 x3,ec a6 x4]),(11,bv x2),(27,Pr.bool x23)] [] e C) ?_ ?_
   ·rintro e C ⟨x23,h,hat4⟩
    refine W_at hat4 ?_
    unfold nl at h
    refine a5 h rfl (fun _ h=> ?_) (fun _ h=> ?_)
    ·refine W_rs (kUn (hMv (out:=j2 63 [] [ec a6 x3,ec a6 x4]) rfl) ?_)
     obtain⟨x25,hx25,h⟩:=ah h
     refine kUn (qCallClo (oc ([98,111,111,108,101,97,110]:List UInt8) x3 x4 _ hx25)) ?_
     refine a5 h rfl (fun _ h=> ?_) (fun _ h=> ?_)
     ·refine W_rs (kAs rfl ?_)
      obtain rfl:=osj h
      exact bc ⟨rfl,aa⟩
     refine ax ?_
     exact⟨h,atOk⟩
    refine bh (fun e C=>∃(x28:Bool),nm x1 x3 x4 x28=some r/\At [(0,aq af x1),(6,ec a6 x3),(7,ec a6 x4),(9,j2 63 [] [ec a6 x3,ec a6 x4]),(32,Pr.bool x28)] [] e C) ?_ ?_
    ·rintro e C ⟨x28,h,hat3⟩
     refine W_at hat3 ?_
     unfold nm at h
     refine a5 h rfl (fun _ h=> ?_) (fun _ h=> ?_)
     ·refine bh (fun e C=>∃(x37:Bool),kf x37=some r/\At [(48,Pr.bool x37)] [] e C) ?_ ?_
      ·rintro e C ⟨x37,h,hat2⟩
       refine W_at hat2 ?_
       unfold kf at h
       refine a5 h rfl (fun _ h=> ?_) (fun _ h=> ?_)
       ·refine W_rs (kAs rfl ?_)
        obtain rfl:=osj h
        exact bc ⟨rfl,aa⟩
       refine ax ?_
       exact⟨h,atOk⟩
      refine W_r (kMvL rfl (kUn (cf ty9) ?_))
      refine kUn (cf ty9) ?_
      refine cm h (fm x1 x3 x4) rfl fun x30 _ h=>kMv rfl ?_
      rcases bo h with⟨hc31,h⟩|⟨hc31,h⟩
      ·refine kSkF rfl aa hc31 (kSkF rfl aa hc31 (kSkF rfl aa hc31 (kSkF rfl aa hc31 (kPt rfl hc31 rfl (kMv rfl ?_)))))
       have hc35:true=true:=rfl
       refine kSkF rfl aa hc35 (kSkF rfl aa hc35 (kPt rfl hc35 rfl ?_))
       exact⟨true,h,atOk⟩
      refine kGd rfl aa hc31 (hMvL rfl) (kGd rfl aa hc31 (cf ty9) ?_)
      refine kGd rfl aa hc31 (cf ty9) ?_
      obtain⟨x32,hx32,h⟩:=ah h
      refine kGd rfl aa hc31 (ct (fm x1 x4 x3 _ hx32)) ?_
      refine kPf rfl hc31 rfl (kMv rfl ?_)
      rcases bo h with⟨hc33,h⟩|⟨hc33,h⟩
      ·refine kSkF rfl aa hc33 (kSkF rfl aa hc33 (kPt rfl hc33 rfl ?_))
       exact⟨true,h,atOk⟩
      refine kGd rfl aa hc33 (hMv (out:=j2 63 [] [ec a6 x3,ec a6 x4]) rfl) ?_
      obtain⟨x34,hx34,h⟩:=ah h
      refine kGd rfl aa hc33 (qCallClo (oc ([110,117,108,108]:List UInt8) x3 x4 _ hx34)) ?_
      refine kPf rfl hc33 rfl ?_
      exact⟨x34,h,atOk⟩
     refine ax ?_
     exact⟨h,atOk⟩
    refine W_rs (kSt rfl rfl rfl (kAs rfl ?_))
    refine a5 h rfl (fun _ h=> ?_) (fun _ h=> ?_)
    ·refine ax ?_
     exact⟨x2==([61,61]:List UInt8),h,atOk⟩
    refine W_r (kSt rfl rfl rfl (kAs rfl ?_))
    exact⟨x2==([33,61]:List UInt8),h,atOk⟩
   refine W_rs (kSt rfl rfl rfl (kAs rfl ?_))
   refine a5 h rfl (fun _ h=> ?_) (fun _ h=> ?_)
   ·refine ax ?_
    exact⟨x2==([38,38]:List UInt8),h,atOk⟩
   refine W_r (kSt rfl rfl rfl (kAs rfl ?_))
   exact⟨x2==([124,124]:List UInt8),h,atOk⟩
  refine W_rs (kSt rfl rfl rfl (kAs rfl ?_))
  refine a5 h rfl (fun _ h=> ?_) (fun _ h=> ?_)
  ·refine ax ?_
   exact⟨x2==([60]:List UInt8),h,atOk⟩
  refine W_rs (kSt rfl rfl rfl (kAs rfl ?_))
  refine a5 h rfl (fun _ h=> ?_) (fun _ h=> ?_)
  ·refine ax ?_
   exact⟨x2==([60,61]:List UInt8),h,atOk⟩
  refine W_rs (kSt rfl rfl rfl (kAs rfl ?_))
  refine a5 h rfl (fun _ h=> ?_) (fun _ h=> ?_)
  ·refine ax ?_
   exact⟨x2==([62]:List UInt8),h,atOk⟩
  refine W_r (kSt rfl rfl rfl (kAs rfl ?_))
  exact⟨x2==([62,61]:List UInt8),h,atOk⟩
 refine W_rs (kSt rfl rfl rfl (kAs rfl ?_))
 refine a5 h rfl (fun _ h=> ?_) (fun _ h=> ?_)
 ·refine ax ?_
  exact⟨x2==([43]:List UInt8),h,atOk⟩
 refine W_rs (kSt rfl rfl rfl (kAs rfl ?_))
 refine a5 h rfl (fun _ h=> ?_) (fun _ h=> ?_)
 ·refine ax ?_
  exact⟨x2==([45]:List UInt8),h,atOk⟩
 refine W_rs (kSt rfl rfl rfl (kAs rfl ?_))
 refine a5 h rfl (fun _ h=> ?_) (fun _ h=> ?_)
 ·refine ax ?_
  exact⟨x2==([42]:List UInt8),h,atOk⟩
 refine W_rs (kSt rfl rfl rfl (kAs rfl ?_))
 refine a5 h rfl (fun _ h=> ?_) (fun _ h=> ?_)
 ·refine ax ?_
  exact⟨x2==([47]:List UInt8),h,atOk⟩
 refine W_r (kSt rfl rfl rfl (kAs rfl ?_))
 exact⟨x2==([37]:List UInt8),h,atOk⟩
theorem uy (x1:TypesChecker) (x2:ApiNode) (r:Bool) (h:lr x1 x2=some r):FnP Tryz.prog 172 [(al).val x1,(ab).val x2] (Pr.bool r):=by
 refine cu (rs:=[4]) Tryz.func172 rfl Tryz.ntmps172 ⟨by decide,Tryz.results172⟩ (by decide) (fun s0=> ?_)
 unfold lr at h
 refine W_rs ?_
 refine rBox (R:=al) (a:=x1) rfl (fun b3=> ?_)
 refine rBox (R:=ab) (a:=x2) rfl (fun b4=> ?_)
 refine kAs rfl (W_rs (kUn (ai rj) ?_))
 refine kUn (ap 0 ty66 cw) ?_
 refine kUn (ap 1 ty64 (Sub.refl _)) ?_
 obtain⟨⟨x5,x6⟩,hx5,h⟩:=ah h
 refine kUn (ct (se x1.Scope x2 _ hx5)) ?_
 refine kUn (hMv (out:=bk [(af).val x5,Pr.i64 x6]) rfl) (kUn au ?_)
 refine kUn au ?_
 refine bq oy fun b7=>av 2 rfl rfl (Upd.refl _) rfl Tryz.sizeOf49 (kAs rfl ?_)
 refine bh (fun e C=>∃(x9:Bool),jp x9=some r/\At [(4,Pr.bool x9)] [Own.box b3 al x1,Own.box b4 ab x2,Own.box b7 af x5] e C) ?_ ?_
 ·rintro e C ⟨x9,h,hat1⟩
  refine W_at hat1 ?_
  unfold jp at h
  obtain rfl:=osj h
  exact bc ⟨rfl,aa⟩
 refine W_r (kUn (ai dr) ?_)
 refine kUn (ap 1 ty3 bg) ?_
 refine kIn rfl rfl rfl (kMv rfl ?_)
 rcases bo h with⟨hc8,h⟩|⟨hc8,h⟩
 ·refine kGd rfl aa hc8 (ai pr) ?_
  refine kGd rfl aa hc8 (ap 2 ty3 da) ?_
  refine kGd rfl aa hc8 (qInt rfl rfl rfl) (kPt rfl hc8 rfl (kAs rfl ?_))
  exact⟨x5.Kind==1,h,atOk⟩
 refine kSkT rfl aa hc8 (kSkT rfl aa hc8 (kSkT rfl aa hc8 (kPf rfl hc8 rfl (kAs rfl ?_))))
 exact⟨false,h,atOk⟩
def ft (R:bm):Prop:=(∀(x1:TypesChecker) (x2:ApiNode) (x3:Bool) (r:PX TypesWrong Unit),R.1 x1 x2 x3=some r->FnX Tryz.prog 173 [(al).val x1,(ab).val x2,Pr.bool x3] [] (fun q C'=>∃a9,r= .ok a9/\q=bk []/\C'=[]) (fun v=>∃m,r= .bad m/\v=gt m))/\(∀(x1:TypesChecker) (x2:ApiNode) (x3:List (List UInt8)) (r:PX TypesWrong Unit),R.2.1 x1 x2 x3=some r->FnX Tryz.prog 174 [(al).val x1,(ab).val x2,aq a6 x3] [] (fun q C'=>∃a9,r= .ok a9/\q=bk []/\C'=[]) (fun v=>∃m,r= .bad m/\v=gt m))/\(∀(x1:TypesChecker) (x2:ApiNode) (x3:List ApiNode) (r:PX TypesWrong Unit),R.2.2 x1 x2 x3=some r->FnX Tryz.prog 182 [(al).val x1,(ab).val x2,aq ab x3] [] (fun q C'=>∃a9,r= .ok a9/\q=bk []/\C'=[]) (fun v=>∃m,r= .bad m/\v=gt m))
theorem F_types_checker_expression_step (R:bm) (ih:ft R) (x1:TypesChecker) (x2:ApiNode) (x3:Bool) (r:PX TypesWrong Unit) (h:lf R x1 x2 x3=some r):FnX Tryz.prog 173 [(al).val x1,(ab).val x2,Pr.bool x3] [] (fun q C'=>∃a9,r= .ok a9/\q=bk []/\C'=[]) (fun v=>∃m,r= .bad m/\v=gt m):=by
 refine gy (rs:=[]) Tryz.func173 rfl Tryz.ntmps173 ⟨by decide,Tryz.results173⟩ (by decide) (fun s0=> ?_)
 unfold lf at h
 refine W_rs ?_
 refine rBox (R:=al) (a:=x1) rfl (fun b4=> ?_)
 refine rBox (R:=ab) (a:=x2) rfl (fun b5=> ?_)
 refine W_rs (kUn (ai dr) ?_)
 refine kUn (ap 1 ty3 bg) ?_
 refine az (W_rs (kIn rfl rfl rfl (kAs rfl ?_)))
 refine a5 h rfl (fun _ h=> ?_) (fun _ h=> ?_)
 ·refine eo 10 hmx (by kernel_rfl) (by kernel_rfl) ?_
  refine lUn (ap 0 pq (Sub.refl _)) ?_
  refine lUn (hMvA rfl) (lUn (hMvA rfl) ?_)
  rcases bo h with⟨hc7,h⟩|⟨hc7,h⟩
  ·refine lSkF rfl aa hc7 (lSkF rfl aa hc7 (lSkF rfl aa hc7 (lSkF rfl aa hc7 (lUn (hPt rfl hc7 rfl) (lUn (ai my) ?_)))))
   refine lUn (ap 1 ty3 ek) ?_
   rcases ce h with⟨m12,hm12,h⟩|⟨_,hx11,h⟩
   ·refine cv [] (bt x1 true 170 x2.At _ hm12) ⟨aa,aa,aa,aa,trivial⟩ (fun q C' hq=> ?_) (fun v9 hv=> ?_)
    ·obtain⟨_,h9,_⟩:=hq;cases h9
    obtain⟨_,h9,rfl⟩:=hv
    cases h9
    obtain rfl:=osj h
    exact .inr ⟨_,rfl,_,rfl,rfl⟩
   refine cv [] (bt x1 true 170 x2.At _ hx11) ⟨aa,aa,aa,aa,trivial⟩ (fun q C' hq=> ?_) (fun v9 hv=>by obtain⟨_,h9,_⟩:=hv;cases h9)
   obtain⟨_,h9,rfl,rfl⟩:=hq
   cases h9
   refine rCtx [Own.box b4 al x1,Own.box b5 ab x2] ?_
   obtain rfl:=osj h
   exact(.inl ⟨.inr rfl,_,Pick.of [] rfl,_,aa,_,rfl,rfl,rfl⟩)
  refine lGd rfl aa hc7 (ap 0 pq (Sub.refl _)) ?_
  refine lGd rfl aa hc7 (ap 1 ty64 (Sub.refl _)) ?_
  obtain⟨x8,hx8,h⟩:=ah h
  refine lGd rfl aa hc7 (ct (uy x1 x2 _ hx8)) ?_
  refine lGd rfl aa hc7 (qNot rfl) (lUn (hPf rfl hc7 rfl) (lUn (ai my) ?_))
  refine lUn (ap 1 ty3 ek) ?_
  rcases ce h with⟨m10,hm10,h⟩|⟨_,hx9,h⟩
  ·refine cv [] (bt x1 (!x8) 170 x2.At _ hm10) ⟨aa,aa,aa,aa,trivial⟩ (fun q C' hq=> ?_) (fun v9 hv=> ?_)
   ·obtain⟨_,h9,_⟩:=hq;cases h9
   obtain⟨_,h9,rfl⟩:=hv
   cases h9
   obtain rfl:=osj h
   exact .inr ⟨_,rfl,_,rfl,rfl⟩
  refine cv [] (bt x1 (!x8) 170 x2.At _ hx9) ⟨aa,aa,aa,aa,trivial⟩ (fun q C' hq=> ?_) (fun v9 hv=>by obtain⟨_,h9,_⟩:=hv;cases h9)
  obtain⟨_,h9,rfl,rfl⟩:=hq
  cases h9
  refine rCtx [Own.box b4 al x1,Own.box b5 ab x2] ?_
  obtain rfl:=osj h
  exact(.inl ⟨.inr rfl,_,Pick.of [] rfl,_,aa,_,rfl,rfl,rfl⟩)
 refine W_rs (kIn rfl rfl rfl (kAs rfl ?_))
 refine a5 h rfl (fun _ h=> ?_) (fun _ h=> ?_)
 ·refine eo 5 hmx (by kernel_rfl) (by kernel_rfl) ?_
  refine lUn (ap 0 pq (Sub.refl _)) ?_
  refine lUn (ai ee) ?_
  refine lUn (ap 1 ty53 bl) ?_
  obtain⟨x14,hx14,h⟩:=ah h
  refine lUn (dg Tryz.underlying53 Tryz.sizeOf64 hx14) ?_
  refine lUn (cf ty64) ?_
  rcases ce h with⟨m16,hm16,h⟩|⟨_,hx15,h⟩
  ·refine cv [] (ih.1 x1 x14 true _ hm16) ⟨aa,aa,aa,trivial⟩ (fun q C' hq=> ?_) (fun v9 hv=> ?_)
   ·obtain⟨_,h9,_⟩:=hq;cases h9
   obtain⟨_,h9,rfl⟩:=hv
   cases h9
   obtain rfl:=osj h
   exact .inr ⟨_,rfl,_,rfl,rfl⟩
  refine cv [] (ih.1 x1 x14 true _ hx15) ⟨aa,aa,aa,trivial⟩ (fun q C' hq=> ?_) (fun v9 hv=>by obtain⟨_,h9,_⟩:=hv;cases h9)
  obtain⟨_,h9,rfl,rfl⟩:=hq
  cases h9
  refine rCtx [Own.box b4 al x1,Own.box b5 ab x2] ?_
  obtain rfl:=osj h
  exact(.inl ⟨.inr rfl,_,Pick.of [] rfl,_,aa,_,rfl,rfl,rfl⟩)
 refine W_rs (kIn rfl rfl rfl (kAs rfl ?_))
 refine a5 h rfl (fun _ h=> ?_) (fun _ h=> ?_)
 ·refine bh (fun e C=>kz R x2 x1=some r/\At [(3,am b4 0),(4,am b5 0)] [Own.box b4 al x1,Own.box b5 ab x2] e C) ?_ ?_
  ·rintro e C ⟨h,hat1⟩
   refine W_at hat1 ?_
   unfold kz at h
   refine eo 5 hmx (by kernel_rfl) (by kernel_rfl) ?_
   refine lUn (ap 0 pq (Sub.refl _)) ?_
   refine lUn (ap 1 ty64 (Sub.refl _)) ?_
   refine lUn (ai ee) ?_
   refine lUn (ap 1 ty53 bl) ?_
   obtain⟨x21,hx21,h⟩:=ah h
   refine lUn (qLSubL Tryz.underlying53 Tryz.sizeOf64 hx21) ?_
   rcases ce h with⟨m23,hm23,h⟩|⟨_,hx22,h⟩
   ·refine cv [] (ih.2.2 x1 x2 x21 _ hm23) ⟨aa,aa,aa,trivial⟩ (fun q C' hq=> ?_) (fun v9 hv=> ?_)
    ·obtain⟨_,h9,_⟩:=hq;cases h9
    obtain⟨_,h9,rfl⟩:=hv
    cases h9
    obtain rfl:=osj h
    exact .inr ⟨_,rfl,_,rfl,rfl⟩
   refine cv [] (ih.2.2 x1 x2 x21 _ hx22) ⟨aa,aa,aa,trivial⟩ (fun q C' hq=> ?_) (fun v9 hv=>by obtain⟨_,h9,_⟩:=hv;cases h9)
   obtain⟨_,h9,rfl,rfl⟩:=hq
   cases h9
   refine rCtx [Own.box b4 al x1,Own.box b5 ab x2] ?_
   obtain rfl:=osj h
   exact(.inl ⟨.inr rfl,_,Pick.of [] rfl,_,aa,_,rfl,rfl,rfl⟩)
  refine eo 5 hmx (by kernel_rfl) (by kernel_rfl) ?_
  refine lUn (ap 0 pq (Sub.refl _)) ?_
  refine lUn (ai ee) ?_
  refine lUn (ap 1 ty53 bl) ?_
  obtain⟨x18,hx18,h⟩:=ah h
  refine lUn (dg Tryz.underlying53 Tryz.sizeOf64 hx18) ?_
  refine lUn (cf ty64) ?_
  rcases ce h with⟨m20,hm20,h⟩|⟨_,hx19,h⟩
  ·refine cv [] (ih.1 x1 x18 true _ hm20) ⟨aa,aa,aa,trivial⟩ (fun q C' hq=> ?_) (fun v9 hv=> ?_)
   ·obtain⟨_,h9,_⟩:=hq;cases h9
   obtain⟨_,h9,rfl⟩:=hv
   cases h9
   obtain rfl:=osj h
   exact .inr ⟨_,rfl,_,rfl,rfl⟩
  refine cv [] (ih.1 x1 x18 true _ hx19) ⟨aa,aa,aa,trivial⟩ (fun q C' hq=> ?_) (fun v9 hv=>by obtain⟨_,h9,_⟩:=hv;cases h9)
  obtain⟨_,h9,rfl,rfl⟩:=hq
  cases h9
  refine rCtx [Own.box b4 al x1,Own.box b5 ab x2] ?_
  exact⟨h,atOk⟩
 refine W_rs (kIn rfl rfl rfl (kAs rfl ?_))
 refine a5 h rfl (fun _ h=> ?_) (fun _ h=> ?_)
 ·refine W_r (kUn (ap 0 pq (Sub.refl _)) ?_)
  refine kUn (ap 1 ty64 (Sub.refl _)) ?_
  refine kUn (ai ee) ?_
  refine kUn (ap 1 ty53 bl) ?_
  rcases ce h with⟨m26,hm26,h⟩|⟨_,hx25,h⟩
  ·refine cv [] (ih.2.2 x1 x2 x2.Kids _ hm26) ⟨aa,aa,aa,trivial⟩ (fun q C' hq=> ?_) (fun v9 hv=> ?_)
   ·obtain⟨_,h9,_⟩:=hq;cases h9
   obtain⟨_,h9,rfl⟩:=hv
   cases h9
   obtain rfl:=osj h
   exact .inr ⟨_,rfl,_,rfl,rfl⟩
  refine cv [] (ih.2.2 x1 x2 x2.Kids _ hx25) ⟨aa,aa,aa,trivial⟩ (fun q C' hq=> ?_) (fun v9 hv=>by obtain⟨_,h9,_⟩:=hv;cases h9)
  obtain⟨_,h9,rfl,rfl⟩:=hq
  cases h9
  refine rCtx [Own.box b4 al x1,Own.box b5 ab x2] ?_
  obtain rfl:=osj h
  exact(.inl ⟨.inr rfl,_,Pick.of [] rfl,_,aa,_,rfl,rfl,rfl⟩)
 refine W_rs (kIn rfl rfl rfl (kAs rfl ?_))
 refine a5 h rfl (fun _ h=> ?_) (fun _ h=> ?_)
 ·refine eo 6 hmx (by kernel_rfl) (by kernel_rfl) ?_
  refine lUn (ap 0 pq (Sub.refl _)) ?_
  refine lUn (ai ee) ?_
  refine lUn (ap 1 ty53 bl) ?_
  obtain⟨x28,hx28,h⟩:=ah h
  refine lUn (dg Tryz.underlying53 Tryz.sizeOf64 hx28) ?_
  refine lUn (cf ty64) ?_
  refine lUn (cl (R:=a6) (a:=([98,111,111,108,101,97,110]:List UInt8)) el22 (Nat.le_of_ble_eq_true rfl)) ?_
  rcases ce h with⟨m30,hm30,h⟩|⟨_,hx29,h⟩
  ·refine cv [] (ih.2.1 x1 x28 ([([98,111,111,108,101,97,110]:List UInt8)]:List (List UInt8)) _ hm30) ⟨aa,aa,aa,trivial⟩ (fun q C' hq=> ?_) (fun v9 hv=> ?_)
   ·obtain⟨_,h9,_⟩:=hq;cases h9
   obtain⟨_,h9,rfl⟩:=hv
   cases h9
   obtain rfl:=osj h
   exact .inr ⟨_,rfl,_,rfl,rfl⟩
  refine cv [] (ih.2.1 x1 x28 ([([98,111,111,108,101,97,110]:List UInt8)]:List (List UInt8)) _ hx29) ⟨aa,aa,aa,trivial⟩ (fun q C' hq=> ?_) (fun v9 hv=>by obtain⟨_,h9,_⟩:=hv;cases h9)
  obtain⟨_,h9,rfl,rfl⟩:=hq
  cases h9
  refine rCtx [Own.box b4 al x1,Own.box b5 ab x2] ?_
  obtain rfl:=osj h
  exact(.inl ⟨.inr rfl,_,Pick.of [] rfl,_,aa,_,rfl,rfl,rfl⟩)
 refine W_rs (kIn rfl rfl rfl (kAs rfl ?_))
 refine a5 h rfl (fun _ h=> ?_) (fun _ h=> ?_)
 ·refine eo 6 hmx (by kernel_rfl) (by kernel_rfl) ?_
  refine lUn (ap 0 pq (Sub.refl _)) ?_
  refine lUn (ai ee) ?_
  refine lUn (ap 1 ty53 bl) ?_
  obtain⟨x32,hx32,h⟩:=ah h
  refine lUn (dg Tryz.underlying53 Tryz.sizeOf64 hx32) ?_
  refine lUn (cf ty64) ?_
  refine lUn (cl (R:=a6) (a:=([105,110,116]:List UInt8)) el22 (Nat.le_of_ble_eq_true rfl)) ?_
  rcases ce h with⟨m34,hm34,h⟩|⟨_,hx33,h⟩
  ·refine cv [] (ih.2.1 x1 x32 ([([105,110,116]:List UInt8)]:List (List UInt8)) _ hm34) ⟨aa,aa,aa,trivial⟩ (fun q C' hq=> ?_) (fun v9 hv=> ?_)
   ·obtain⟨_,h9,_⟩:=hq;cases h9
   obtain⟨_,h9,rfl⟩:=hv
   cases h9
   obtain rfl:=osj h
   exact .inr ⟨_,rfl,_,rfl,rfl⟩
  refine cv [] (ih.2.1 x1 x32 ([([105,110,116]:List UInt8)]:List (List UInt8)) _ hx33) ⟨aa,aa,aa,trivial⟩ (fun q C' hq=> ?_) (fun v9 hv=>by obtain⟨_,h9,_⟩:=hv;cases h9)
  obtain⟨_,h9,rfl,rfl⟩:=hq
  cases h9
  refine rCtx [Own.box b4 al x1,Own.box b5 ab x2] ?_
  obtain rfl:=osj h
  exact(.inl ⟨.inr rfl,_,Pick.of [] rfl,_,aa,_,rfl,rfl,rfl⟩)
 refine W_rs (kIn rfl rfl rfl (kAs rfl ?_))
 refine a5 h rfl (fun _ h=> ?_) (fun _ h=> ?_)
 ·refine bh (fun e C=>∃(x36:ApiNode),∃(x37:ApiNode),∃(b38:Nat),∃(b39:Nat),ky R x1 x2 x36 x37=some r/\At [(3,am b4 0),(4,am b5 0),(6,am b38 0),(7,am b39 0)] [Own.box b4 al x1,Own.box b5 ab x2,Own.box b38 ab x36,Own.box b39 ab x37] e C) ?_ ?_
  ·rintro e C ⟨x36,x37,b38,b39,h,hat2⟩
   refine W_at hat2 ?_
   unfold ky at h
   refine W_rs (kUn (ap 0 pq (Sub.refl _)) ?_)
   refine kUn (ap 2 ty64 (Sub.refl _)) ?_
   rcases ce h with⟨m48,hm48,h⟩|⟨_,hx40,h⟩
   ·refine cv [] (ih.1 x1 x36 false _ hm48) ⟨aa,aa,aa,trivial⟩ (fun q C' hq=> ?_) (fun v9 hv=> ?_)
    ·obtain⟨_,h9,_⟩:=hq;cases h9
    obtain⟨_,h9,rfl⟩:=hv
    cases h9
    obtain rfl:=osj h
    exact .inr ⟨_,rfl,_,rfl,rfl⟩
   refine cv [] (ih.1 x1 x36 false _ hx40) ⟨aa,aa,aa,trivial⟩ (fun q C' hq=> ?_) (fun v9 hv=>by obtain⟨_,h9,_⟩:=hv;cases h9)
   obtain⟨_,h9,rfl,rfl⟩:=hq
   cases h9
   refine rCtx [Own.box b4 al x1,Own.box b5 ab x2,Own.box b38 ab x36,Own.box b39 ab x37] ?_
   refine W_rs (kUn (ap 0 pq (Sub.refl _)) ?_)
   refine kUn (ap 3 ty64 (Sub.refl _)) ?_
   rcases ce h with⟨m47,hm47,h⟩|⟨_,hx41,h⟩
   ·refine cv [] (ih.1 x1 x37 false _ hm47) ⟨aa,aa,aa,trivial⟩ (fun q C' hq=> ?_) (fun v9 hv=> ?_)
    ·obtain⟨_,h9,_⟩:=hq;cases h9
    obtain⟨_,h9,rfl⟩:=hv
    cases h9
    obtain rfl:=osj h
    exact .inr ⟨_,rfl,_,rfl,rfl⟩
   refine cv [] (ih.1 x1 x37 false _ hx41) ⟨aa,aa,aa,trivial⟩ (fun q C' hq=> ?_) (fun v9 hv=>by obtain⟨_,h9,_⟩:=hv;cases h9)
   obtain⟨_,h9,rfl,rfl⟩:=hq
   cases h9
   refine rCtx [Own.box b4 al x1,Own.box b5 ab x2,Own.box b38 ab x36,Own.box b39 ab x37] ?_
   refine eo 18 hmx (by kernel_rfl) (by kernel_rfl) ?_
   refine lUn (ap 0 pq (Sub.refl _)) ?_
   refine lUn (ai rj) ?_
   refine lUn (ai fld66_0) ?_
   refine lUn (ap 0 ty38 (cw.trans gl (Nat.le_of_ble_eq_true rfl))) ?_
   refine lUn (ai ef) ?_
   refine lUn (ap 1 ty9 bw) ?_
   refine lUn (ai rj) ?_
   refine lUn (ap 0 ty66 cw) ?_
   refine lUn (ap 2 ty64 (Sub.refl _)) ?_
   obtain⟨x42,hx42,h⟩:=ah h
   refine lUn (ct (jo x1.Scope x36 _ hx42)) ?_
   refine lUn (ai rj) ?_
   refine lUn (ap 0 ty66 cw) ?_
   refine lUn (ap 3 ty64 (Sub.refl _)) ?_
   obtain⟨x43,hx43,h⟩:=ah h
   refine lUn (ct (jo x1.Scope x37 _ hx43)) ?_
   obtain⟨x44,hx44,h⟩:=ah h
   refine lUn (ct (types_Operator_ok x1.Scope.Table x2.Text x42 x43 _ hx44)) ?_
   refine lUn (qStr rfl rfl rfl) (lUn (ai fld64_4) ?_)
   refine lUn (ap 1 ty3 ep) ?_
   rcases ce h with⟨m46,hm46,h⟩|⟨_,hx45,h⟩
   ·refine cv [] (bt x1 (!(x44==[])) 180 x2.From _ hm46) ⟨aa,aa,aa,aa,trivial⟩ (fun q C' hq=> ?_) (fun v9 hv=> ?_)
    ·obtain⟨_,h9,_⟩:=hq;cases h9
    obtain⟨_,h9,rfl⟩:=hv
    cases h9
    obtain rfl:=osj h
    exact .inr ⟨_,rfl,_,rfl,rfl⟩
   refine cv [] (bt x1 (!(x44==[])) 180 x2.From _ hx45) ⟨aa,aa,aa,aa,trivial⟩ (fun q C' hq=> ?_) (fun v9 hv=>by obtain⟨_,h9,_⟩:=hv;cases h9)
   obtain⟨_,h9,rfl,rfl⟩:=hq
   cases h9
   refine rCtx [Own.box b4 al x1,Own.box b5 ab x2,Own.box b38 ab x36,Own.box b39 ab x37] ?_
   obtain rfl:=osj h
   exact(.inl ⟨.inr rfl,_,Pick.of [] rfl,_,aa,_,rfl,rfl,rfl⟩)
  obtain⟨x36,hx36,h⟩:=ah h
  obtain⟨x37,hx37,h⟩:=ah h
  refine W_drawG 2 (fun B S=>[Own.box b4 al x1,Own.box b5 ab x2,(cond (S 10) (Own.box (B 8) ab x36) (cond (S 8) (Own.box (B 8) ab (ApiNode.mk 0 [] [] 0 0 0 0 0 [])) Own.nil)),(cond (S 11) (Own.box (B 9) ab x37) (cond (S 9) (Own.box (B 9) ab (ApiNode.mk 0 [] [] 0 0 0 0 0 [])) Own.nil))]) (fun B=>[Own.box b4 al x1,Own.box b5 ab x2,Own.box (B 8) ab x36,Own.box (B 9) ab x37]) [am b5 8,aq ab x2.Kids,ec ab x36,(ab).val x36,am b5 8,aq ab x2.Kids,ec ab x37,(ab).val x37,.any,.any,.any,.any] (fun k=>([0,0,0,0,0,0,0,0,2,2,1,1]:List Nat).getD k 0) hmx (by kernel_rfl) (by kernel_rfl) (fun _=>rfl) (fun B S S' h=>by show([Own.box b4 al x1,Own.box b5 ab x2,(cond (S 10) (Own.box (B 8) ab x36) (cond (S 8) (Own.box (B 8) ab (ApiNode.mk 0 [] [] 0 0 0 0 0 [])) Own.nil)),(cond (S 11) (Own.box (B 9) ab x37) (cond (S 9) (Own.box (B 9) ab (ApiNode.mk 0 [] [] 0 0 0 0 0 [])) Own.nil))]:Ctx)=[Own.box b4 al x1,Own.box b5 ab x2,(cond (S' 10) (Own.box (B 8) ab x36) (cond (S' 8) (Own.box (B 8) ab (ApiNode.mk 0 [] [] 0 0 0 0 0 [])) Own.nil)),(cond (S' 11) (Own.box (B 9) ab x37) (cond (S' 9) (Own.box (B 9) ab (ApiNode.mk 0 [] [] 0 0 0 0 0 [])) Own.nil))];simp only[h 8 (Nat.le_of_ble_eq_true (by kernel_rfl)),h 9 (Nat.le_of_ble_eq_true (by kernel_rfl)),h 10 (Nat.le_of_ble_eq_true (by kernel_rfl)),h 11 (Nat.le_of_ble_eq_true (by kernel_rfl))]) (fun _=>rfl) (fun B=> ?_)
  refine gq1 (fun S hK=>(ai ee)) ?_
  refine gq1 (fun S hK=>(ap (R:=ab) (a:=x2) (R':=ba ab) 1 ty53 bl (hi:=rfl))) ?_
  refine gq1 (fun S hK=>(dg (R:=ab) (l:=x2.Kids) Tryz.underlying53 Tryz.sizeOf64 hx36)) ?_
  refine gq1 (fun S hK=>(cf (R:=ab) (a:=x36) ty64)) ?_
  refine gq1 (fun S hK=>(ai ee)) ?_
  refine gq1 (fun S hK=>(ap (R:=ab) (a:=x2) (R':=ba ab) 1 ty53 bl (hi:=rfl))) ?_
  refine gq1 (fun S hK=>(dg (R:=ab) (l:=x2.Kids) Tryz.underlying53 Tryz.sizeOf64 hx37)) ?_
  refine gq1 (fun S hK=>(cf (R:=ab) (a:=x37) ty64)) ?_
  refine gqA (fun S hK=>⟨fun B' hB=>by show([Own.box b4 al x1,Own.box b5 ab x2,(cond (S 10) (Own.box (B' 8) ab x36) (cond (S 8) (Own.box (B' 8) ab (ApiNode.mk 0 [] [] 0 0 0 0 0 [])) Own.nil)),(cond (S 11) (Own.box (B' 9) ab x37) (cond (S 9) (Own.box (B' 9) ab (ApiNode.mk 0 [] [] 0 0 0 0 0 [])) Own.nil))]:Ctx)=[Own.box b4 al x1,Own.box b5 ab x2,(cond (S 10) (Own.box (B 8) ab x36) (cond (S 8) (Own.box (B 8) ab (ApiNode.mk 0 [] [] 0 0 0 0 0 [])) Own.nil)),(cond (S 11) (Own.box (B 9) ab x37) (cond (S 9) (Own.box (B 9) ab (ApiNode.mk 0 [] [] 0 0 0 0 0 [])) Own.nil))];simp only[hK.me,hK.F 10 (by kernel_rfl),hB 9 (by decide),cond_false],fun s ρ hg _=>sAlloc (R:=ab) (z:=(ApiNode.mk 0 [] [] 0 0 0 0 0 [])) 2 Tryz.zeroValue64 (fun _=>(by rw[bb];exact⟨_,⟨_,_,rfl,rfl,⟨_,_,rfl,rfl,⟨_,_,rfl,rfl,⟨_,_,rfl,rfl,⟨_,_,rfl,rfl,⟨_,_,rfl,rfl,⟨_,_,rfl,rfl,⟨_,_,rfl,rfl,⟨_,_,rfl,⟨_,rfl,none,0,rfl,⟨Nat.le_refl _,fun _=>rfl⟩,.inl rfl⟩,rfl⟩⟩⟩⟩⟩⟩⟩⟩⟩,rfl⟩)) (congrArg some ((condF (hK.F 10 (by kernel_rfl)) _ _).trans (condF (hK.me) _ _))) (fun b=>by show([Own.box b4 al x1,Own.box b5 ab x2,(cond (S 10) (Own.box b ab x36) (Own.box b ab (ApiNode.mk 0 [] [] 0 0 0 0 0 []))),(cond (S 11) (Own.box (B 9) ab x37) (cond (S 9) (Own.box (B 9) ab (ApiNode.mk 0 [] [] 0 0 0 0 0 [])) Own.nil))]:Ctx)=_;rw[hK.F 10 (by kernel_rfl)];rfl) s ρ hg⟩) ?_
  refine gqA (fun S hK=>⟨fun B' hB=>by show([Own.box b4 al x1,Own.box b5 ab x2,(cond (S 10) (Own.box (B' 8) ab x36) (cond (S 8) (Own.box (B' 8) ab (ApiNode.mk 0 [] [] 0 0 0 0 0 [])) Own.nil)),(cond (S 11) (Own.box (B' 9) ab x37) (cond (S 9) (Own.box (B' 9) ab (ApiNode.mk 0 [] [] 0 0 0 0 0 [])) Own.nil))]:Ctx)=[Own.box b4 al x1,Own.box b5 ab x2,(cond (S 10) (Own.box (B 8) ab x36) (cond (S 8) (Own.box (B 8) ab (ApiNode.mk 0 [] [] 0 0 0 0 0 [])) Own.nil)),(cond (S 11) (Own.box (B 9) ab x37) (cond (S 9) (Own.box (B 9) ab (ApiNode.mk 0 [] [] 0 0 0 0 0 [])) Own.nil))];simp only[hK.me,hK.F 11 (by kernel_rfl),hB 8 (by decide),cond_false],fun s ρ hg _=>sAlloc (R:=ab) (z:=(ApiNode.mk 0 [] [] 0 0 0 0 0 [])) 3 Tryz.zeroValue64 (fun _=>(by rw[bb];exact⟨_,⟨_,_,rfl,rfl,⟨_,_,rfl,rfl,⟨_,_,rfl,rfl,⟨_,_,rfl,rfl,⟨_,_,rfl,rfl,⟨_,_,rfl,rfl,⟨_,_,rfl,rfl,⟨_,_,rfl,rfl,⟨_,_,rfl,⟨_,rfl,none,0,rfl,⟨Nat.le_refl _,fun _=>rfl⟩,.inl rfl⟩,rfl⟩⟩⟩⟩⟩⟩⟩⟩⟩,rfl⟩)) (congrArg some ((condF (hK.F 11 (by kernel_rfl)) _ _).trans (condF (hK.me) _ _))) (fun b=>by show([Own.box b4 al x1,Own.box b5 ab x2,(cond (S 10) (Own.box (B 8) ab x36) (cond (S 8) (Own.box (B 8) ab (ApiNode.mk 0 [] [] 0 0 0 0 0 [])) Own.nil)),(cond (S 11) (Own.box b ab x37) (Own.box b ab (ApiNode.mk 0 [] [] 0 0 0 0 0 [])))]:Ctx)=_;rw[hK.F 11 (by kernel_rfl)];rfl) s ρ hg⟩) ?_
  refine gqS (fun S hK=>SStep.as (dc (R:=ab) (R':=ab) (a:=(ApiNode.mk 0 [] [] 0 0 0 0 0 [])) (y:=x36) 2 Tryz.sizeOf64 (Upd.refl _) (congrArg some ((condF (hK.me) _ _).trans (condT (hK.T 8 (by kernel_rfl)) _ _)))) (by show(_:Ctx)=[Own.box b4 al x1,Own.box b5 ab x2,Own.box (B 8) ab x36,(cond (S 11) (Own.box (B 9) ab x37) (cond (S 9) (Own.box (B 9) ab (ApiNode.mk 0 [] [] 0 0 0 0 0 [])) Own.nil))];rfl)) ?_
  refine gqS (fun S hK=>SStep.as (dc (R:=ab) (R':=ab) (a:=(ApiNode.mk 0 [] [] 0 0 0 0 0 [])) (y:=x37) 3 Tryz.sizeOf64 (Upd.refl _) (congrArg some ((condF (hK.me) _ _).trans (condT (hK.T 9 (by kernel_rfl)) _ _)))) (by show(_:Ctx)=[Own.box b4 al x1,Own.box b5 ab x2,(cond (S 10) (Own.box (B 8) ab x36) (cond (S 8) (Own.box (B 8) ab (ApiNode.mk 0 [] [] 0 0 0 0 0 [])) Own.nil)),Own.box (B 9) ab x37];rfl)) ?_
  exact⟨x36,x37,(B 8),(B 9),h,atOk⟩
 refine ax ?_
 obtain rfl:=osj h
 exact(.inl ⟨.inr rfl,_,Pick.of [] rfl,_,aa,_,rfl,rfl,rfl⟩)
theorem F_types_checker_want_step (R:bm) (ih:ft R) (x1:TypesChecker) (x2:ApiNode) (x3:List (List UInt8)) (r:PX TypesWrong Unit) (h:sf R x1 x2 x3=some r):FnX Tryz.prog 174 [(al).val x1,(ab).val x2,aq a6 x3] [] (fun q C'=>∃a9,r= .ok a9/\q=bk []/\C'=[]) (fun v=>∃m,r= .bad m/\v=gt m):=by
 refine gy (rs:=[]) Tryz.func174 rfl Tryz.ntmps174 ⟨by decide,Tryz.results174⟩ (by decide) (fun s0=> ?_)
 unfold sf at h
 refine W_rs ?_
 refine rBox (R:=al) (a:=x1) rfl (fun b4=> ?_)
 refine rBox (R:=ab) (a:=x2) rfl (fun b5=> ?_)
 refine W_rs (kUn (ap 0 pq (Sub.refl _)) ?_)
 refine kUn (ap 1 ty64 (Sub.refl _)) ?_
 rcases ce h with⟨m11,hm11,h⟩|⟨_,hx6,h⟩
 ·refine cv [] (ih.1 x1 x2 false _ hm11) ⟨aa,aa,aa,trivial⟩ (fun q C' hq=> ?_) (fun v9 hv=> ?_)
  ·obtain⟨_,h9,_⟩:=hq;cases h9
  obtain⟨_,h9,rfl⟩:=hv
  cases h9
  obtain rfl:=osj h
  exact .inr ⟨_,rfl,_,rfl,rfl⟩
 refine cv [] (ih.1 x1 x2 false _ hx6) ⟨aa,aa,aa,trivial⟩ (fun q C' hq=> ?_) (fun v9 hv=>by obtain⟨_,h9,_⟩:=hv;cases h9)
 obtain⟨_,h9,rfl,rfl⟩:=hq
 cases h9
 refine rCtx [Own.box b4 al x1,Own.box b5 ab x2] ?_
 refine eo 9 hmx (by kernel_rfl) (by kernel_rfl) ?_
 refine lUn (ap 0 pq (Sub.refl _)) ?_
 refine lUn (hMvL rfl) (lUn (ai rj) ?_)
 refine lUn (ap 0 ty66 cw) ?_
 refine lUn (ap 1 ty64 (Sub.refl _)) ?_
 obtain⟨x7,hx7,h⟩:=ah h
 refine lUn (ct (jo x1.Scope x2 _ hx7)) ?_
 obtain⟨x8,hx8,h⟩:=ah h
 refine lUn (ct (i1 x3 x7 _ hx8)) ?_
 refine lUn (ai fld64_4) ?_
 refine lUn (ap 1 ty3 ep) ?_
 rcases ce h with⟨m10,hm10,h⟩|⟨_,hx9,h⟩
 ·refine cv [] (bt x1 x8 180 x2.From _ hm10) ⟨aa,aa,aa,aa,trivial⟩ (fun q C' hq=> ?_) (fun v9 hv=> ?_)
  ·obtain⟨_,h9,_⟩:=hq;cases h9
  obtain⟨_,h9,rfl⟩:=hv
  cases h9
  obtain rfl:=osj h
  exact .inr ⟨_,rfl,_,rfl,rfl⟩
 refine cv [] (bt x1 x8 180 x2.From _ hx9) ⟨aa,aa,aa,aa,trivial⟩ (fun q C' hq=> ?_) (fun v9 hv=>by obtain⟨_,h9,_⟩:=hv;cases h9)
 obtain⟨_,h9,rfl,rfl⟩:=hq
 cases h9
 refine rCtx [Own.box b4 al x1,Own.box b5 ab x2] ?_
 obtain rfl:=osj h
 exact(.inl ⟨.inr rfl,_,Pick.of [] rfl,_,aa,_,rfl,rfl,rfl⟩)
theorem F_types_checker_arguments_step (R:bm) (ih:ft R) (x1:TypesChecker) (x2:ApiNode) (x3:List ApiNode) (r:PX TypesWrong Unit) (h:mq R x1 x2 x3=some r):FnX Tryz.prog 182 [(al).val x1,(ab).val x2,aq ab x3] [] (fun q C'=>∃a9,r= .ok a9/\q=bk []/\C'=[]) (fun v=>∃m,r= .bad m/\v=gt m):=by
 refine gy (rs:=[]) Tryz.func182 rfl Tryz.ntmps182 ⟨by decide,Tryz.results182⟩ (by decide) (fun s0=> ?_)
 unfold mq at h
 refine W_rs ?_
 refine rBox (R:=al) (a:=x1) rfl (fun b4=> ?_)
 refine rBox (R:=ab) (a:=x2) rfl (fun b5=> ?_)
 refine a8 (W_rs (kMvL rfl (kUn (iz rfl Tryz.underlying53) ?_)))
 refine kMv rfl (az ?_)
 obtain⟨z4l,hz4,h⟩:=ah h
 obtain⟨n4,hN4⟩:=bp hz4
 refine cq 0 (fun e C=>k9 R x1 x2 x3=some r/\At [(2,aq ab x3),(3,am b4 0),(4,am b5 0)] [Own.box b4 al x1,Own.box b5 ab x2] e C) ?_ ?_
 ·rintro e C ⟨h,hat3⟩
  refine W_at hat3 ?_
  unfold k9 at h
  refine W_rs (kUn (ai rj) ?_)
  refine kUn (ap 0 ty66 cw) ?_
  refine kUn (ap 1 ty64 (Sub.refl _)) ?_
  obtain⟨⟨x13,x14⟩,hx13,h⟩:=ah h
  refine kUn (ct (se x1.Scope x2 _ hx13)) ?_
  refine kUn (hMv (out:=bk [(af).val x13,Pr.i64 x14]) rfl) (kUn au ?_)
  refine kUn au ?_
  refine bq oy fun b15=>av 2 rfl rfl (Upd.refl _) rfl Tryz.sizeOf49 (kAs rfl (W_rs (kUn (ap 0 pq (Sub.refl _)) ?_)))
  refine kMvL rfl (kUn (iz rfl Tryz.underlying53) ?_)
  refine kUn (ai fld49_6) ?_
  refine kUn (ap 2 ty22 od) ?_
  refine kUn (iz rfl Tryz.underlying22) ?_
  refine kIn rfl rfl rfl (kUn (ai my) ?_)
  refine kUn (ap 1 ty3 ek) ?_
  rcases ce h with⟨m27,hm27,h⟩|⟨_,hx16,h⟩
  ·refine cv [] (bt x1 ((x3.length:Int)==(x13.Params.length:Int)) 181 x2.At _ hm27) ⟨aa,aa,aa,aa,trivial⟩ (fun q C' hq=> ?_) (fun v9 hv=> ?_)
   ·obtain⟨_,h9,_⟩:=hq;cases h9
   obtain⟨_,h9,rfl⟩:=hv
   cases h9
   obtain rfl:=osj h
   exact .inr ⟨_,rfl,_,rfl,rfl⟩
  refine cv [] (bt x1 ((x3.length:Int)==(x13.Params.length:Int)) 181 x2.At _ hx16) ⟨aa,aa,aa,aa,trivial⟩ (fun q C' hq=> ?_) (fun v9 hv=>by obtain⟨_,h9,_⟩:=hv;cases h9)
  obtain⟨_,h9,rfl,rfl⟩:=hq
  cases h9
  refine rCtx [Own.box b4 al x1,Own.box b5 ab x2,Own.box b15 af x13] ?_
  refine W_rs (kMvL rfl (kUn (iz rfl Tryz.underlying53) ?_))
  refine kMv rfl (az ?_)
  obtain⟨z2l,hz2,h⟩:=ah h
  obtain⟨n2,hN2⟩:=bp hz2
  refine cq 2 (fun e C=>la R=some r/\At [] [Own.box b4 al x1,Own.box b5 ab x2,Own.box b15 af x13] e C) ?_ ?_
  ·rintro e C ⟨h,hat1⟩
   unfold la at h
   obtain rfl:=osj h
   exact(.inl ⟨.inr rfl,_,(Pick.trans hat1.2 (Pick.of [] rfl)),_,aa,_,rfl,rfl,rfl⟩)
  refine c8 (fun m e C=>∃(x17:Int),dj (fun s=>i5 R x3 x1 x13 s) m x17=some z2l/\At [(3,am b4 0),(8,am b15 0),(39,aq ab x3),(40,Pr.i64 (x3.length:Int)),(41,Pr.i64 x17)] [Own.box b4 al x1,Own.box b5 ab x2,Own.box b15 af x13] e C) n2 ⟨0,hN2,⟨⟨aa,aa,aa,aa,aa,trivial⟩,Pick.refl _⟩⟩ ?_
  rintro m e C ⟨x17,hN2,hatl2⟩
  refine W_at hatl2 ?_
  obtain⟨m2,w2l,rfl,h2l,hn2,ho2⟩:=bj hN2
  replace h2l:i5 R x3 x1 x13 x17=some w2l:=h2l
  unfold i5 at h2l
  refine W_rs (kIn rfl rfl rfl (a8 ?_))
  refine a5 h2l rfl (fun _ h2l=> ?_) (fun _ h2l=> ?_)
  ·refine ax (a8 (az (W_rs (kMv rfl ?_))))
   obtain⟨x20,hx20,h2l⟩:=ah h2l
   refine kUn (dg Tryz.underlying53 Tryz.sizeOf64 hx20) ?_
   refine kUn (cf ty64) ?_
   refine bq al64 fun b21=>kAs rfl (av 3 rfl rfl (Upd.refl _) rfl Tryz.sizeOf64 ?_)
   refine eo 16 hmx (by kernel_rfl) (by kernel_rfl) ?_
   refine lUn (ap 0 pq (Sub.refl _)) ?_
   refine lUn (ai rj) ?_
   refine lUn (ai fld66_0) ?_
   refine lUn (ap 0 ty38 (cw.trans gl (Nat.le_of_ble_eq_true rfl))) ?_
   refine lUn (ai rj) ?_
   refine lUn (ap 0 ty66 cw) ?_
   refine lUn (ap 3 ty64 (Sub.refl _)) ?_
   obtain⟨x22,hx22,h2l⟩:=ah h2l
   refine lUn (ct (jo x1.Scope x20 _ hx22)) ?_
   refine lUn (ai fld49_6) ?_
   refine lUn (ap 2 ty22 od) ?_
   refine lUn (hMvA rfl) ?_
   obtain⟨x23,hx23,h2l⟩:=ah h2l
   refine lUn (dg Tryz.underlying22 Tryz.sizeOf9 hx23) ?_
   refine lUn (cf ty9) ?_
   obtain⟨x24,hx24,h2l⟩:=ah h2l
   refine lUn (ct (fm x1.Scope.Table x22 x23 _ hx24)) ?_
   refine lUn (ai fld64_4) ?_
   refine lUn (ap 3 ty3 ep) ?_
   rcases ce h2l with⟨m26,hm26,h2l⟩|⟨_,hx25,h2l⟩
   ·refine cv [] (bt x1 x24 180 x20.From _ hm26) ⟨aa,aa,aa,aa,trivial⟩ (fun q C' hq=> ?_) (fun v9 hv=> ?_)
    ·obtain⟨_,h9,_⟩:=hq;cases h9
    obtain⟨_,h9,rfl⟩:=hv
    cases h9
    obtain rfl:=ho2 _ (Option.some.inj h2l).symm
    replace h:some (.bad m26)=some r:=h
    obtain rfl:=osj h
    exact .inr ⟨_,rfl,_,rfl,rfl⟩
   refine cv [] (bt x1 x24 180 x20.From _ hx25) ⟨aa,aa,aa,aa,trivial⟩ (fun q C' hq=> ?_) (fun v9 hv=>by obtain⟨_,h9,_⟩:=hv;cases h9)
   obtain⟨_,h9,rfl,rfl⟩:=hq
   cases h9
   refine rCtx [Own.box b4 al x1,Own.box b5 ab x2,Own.box b15 af x13,Own.box b21 ab x20] ?_
   refine W_r (kIn rfl rfl rfl (kMv rfl ?_))
   exact⟨m2,Nat.lt_succ_self _,w64 (x17+1),hn2 _ (Option.some.inj h2l).symm,⟨⟨aa,aa,aa,aa,aa,trivial⟩,Pick.of [0,1,2] rfl⟩⟩
  refine c6 ?_
  obtain rfl:=ho2 _ (Option.some.inj h2l).symm
  exact⟨h,atOk⟩
 refine c8 (fun m e C=>∃(x6:Int),dj (fun s=>i4 R x3 x1 s) m x6=some z4l/\At [(2,aq ab x3),(3,am b4 0),(4,am b5 0),(12,aq ab x3),(13,Pr.i64 (x3.length:Int)),(14,Pr.i64 x6)] [Own.box b4 al x1,Own.box b5 ab x2] e C) n4 ⟨0,hN4,⟨⟨aa,aa,aa,aa,aa,aa,trivial⟩,Pick.refl _⟩⟩ ?_
 rintro m e C ⟨x6,hN4,hatl4⟩
 refine W_at hatl4 ?_
 obtain⟨m4,w4l,rfl,h4l,hn4,ho4⟩:=bj hN4
 replace h4l:i4 R x3 x1 x6=some w4l:=h4l
 unfold i4 at h4l
 refine W_rs (kIn rfl rfl rfl (a8 ?_))
 refine a5 h4l rfl (fun _ h4l=> ?_) (fun _ h4l=> ?_)
 ·refine ax (a8 (az (W_rs ?_)))
  obtain⟨x9,hx9,h4l⟩:=ah h4l
  refine kUn (dg Tryz.underlying53 Tryz.sizeOf64 hx9) ?_
  refine kUn (cf ty64) ?_
  refine bq al64 fun b10=>av 2 rfl rfl (Upd.refl _) rfl Tryz.sizeOf64 (W_r (kUn (ap 0 pq (Sub.refl _)) ?_))
  refine kUn (ap 2 ty64 (Sub.refl _)) ?_
  rcases ce h4l with⟨m12,hm12,h4l⟩|⟨_,hx11,h4l⟩
  ·refine cv [] (ih.1 x1 x9 false _ hm12) ⟨aa,aa,aa,trivial⟩ (fun q C' hq=> ?_) (fun v9 hv=> ?_)
   ·obtain⟨_,h9,_⟩:=hq;cases h9
   obtain⟨_,h9,rfl⟩:=hv
   cases h9
   obtain rfl:=ho4 _ (Option.some.inj h4l).symm
   replace h:some (.bad m12)=some r:=h
   obtain rfl:=osj h
   exact .inr ⟨_,rfl,_,rfl,rfl⟩
  refine cv [] (ih.1 x1 x9 false _ hx11) ⟨aa,aa,aa,trivial⟩ (fun q C' hq=> ?_) (fun v9 hv=>by obtain⟨_,h9,_⟩:=hv;cases h9)
  obtain⟨_,h9,rfl,rfl⟩:=hq
  cases h9
  refine rCtx [Own.box b4 al x1,Own.box b5 ab x2,Own.box b10 ab x9] ?_
  refine W_r (kIn rfl rfl rfl (kMv rfl ?_))
  exact⟨m4,Nat.lt_succ_self _,w64 (x6+1),hn4 _ (Option.some.inj h4l).symm,⟨⟨aa,aa,aa,aa,aa,aa,trivial⟩,Pick.of [0,1] rfl⟩⟩
 refine c6 ?_
 obtain rfl:=ho4 _ (Option.some.inj h4l).symm
 exact⟨h,atOk⟩
theorem nu :∀n,ft (dk n):=by
 intro n
 induction n with
 |zero=>exact⟨(fun x1 x2 x3 r h=>nomatch (show none=some r from h)),(fun x1 x2 x3 r h=>nomatch (show none=some r from h)),(fun x1 x2 x3 r h=>nomatch (show none=some r from h))⟩
 |succ n ih=>exact⟨(fun x1 x2 x3 r h=>F_types_checker_expression_step (dk n) ih x1 x2 x3 r h),(fun x1 x2 x3 r h=>F_types_checker_want_step (dk n) ih x1 x2 x3 r h),(fun x1 x2 x3 r h=>F_types_checker_arguments_step (dk n) ih x1 x2 x3 r h)⟩
theorem eg (x1:TypesChecker) (x2:ApiNode) (x3:Bool) (r:PX TypesWrong Unit) (h:jr x1 x2 x3=some r):FnX Tryz.prog 173 [(al).val x1,(ab).val x2,Pr.bool x3] [] (fun q C'=>∃a9,r= .ok a9/\q=bk []/\C'=[]) (fun v=>∃m,r= .bad m/\v=gt m):=(nu 1048576).1 x1 x2 x3 r h
theorem lq (x1:TypesChecker) (x2:ApiNode) (x3:List (List UInt8)) (r:PX TypesWrong Unit) (h:types_checker_want x1 x2 x3=some r):FnX Tryz.prog 174 [(al).val x1,(ab).val x2,aq a6 x3] [] (fun q C'=>∃a9,r= .ok a9/\q=bk []/\C'=[]) (fun v=>∃m,r= .bad m/\v=gt m):=(nu 1048576).2.1 x1 x2 x3 r h
theorem g8 (x1:TypesChecker) (x2:ApiNode) (x3:List UInt8) (r:PX TypesWrong Unit) (h:lj x1 x2 x3=some r):FnX Tryz.prog 170 [(al).val x1,(ab).val x2,bv x3] [] (fun q C'=>∃a9,r= .ok a9/\q=bk []/\C'=[]) (fun v=>∃m,r= .bad m/\v=gt m):=by
 refine gy (rs:=[]) Tryz.func170 rfl Tryz.ntmps170 ⟨by decide,Tryz.results170⟩ (by decide) (fun s0=> ?_)
 unfold lj at h
 refine W_rs ?_
 refine rBox (R:=al) (a:=x1) rfl (fun b4=> ?_)
 refine rBox (R:=ab) (a:=x2) rfl (fun b5=> ?_)
 refine W_rs (kUn (ap 0 pq (Sub.refl _)) ?_)
 refine kUn (ap 1 ty64 (Sub.refl _)) ?_
 rcases ce h with⟨m11,hm11,h⟩|⟨_,hx6,h⟩
 ·refine cv [] (eg x1 x2 false _ hm11) ⟨aa,aa,aa,trivial⟩ (fun q C' hq=> ?_) (fun v9 hv=> ?_)
  ·obtain⟨_,h9,_⟩:=hq;cases h9
  obtain⟨_,h9,rfl⟩:=hv
  cases h9
  obtain rfl:=osj h
  exact .inr ⟨_,rfl,_,rfl,rfl⟩
 refine cv [] (eg x1 x2 false _ hx6) ⟨aa,aa,aa,trivial⟩ (fun q C' hq=> ?_) (fun v9 hv=>by obtain⟨_,h9,_⟩:=hv;cases h9)
 obtain⟨_,h9,rfl,rfl⟩:=hq
 cases h9
 refine rCtx [Own.box b4 al x1,Own.box b5 ab x2] ?_
 refine eo 12 hmx (by kernel_rfl) (by kernel_rfl) ?_
 refine lUn (ap 0 pq (Sub.refl _)) ?_
 refine lUn (ai rj) ?_
 refine lUn (ai fld66_0) ?_
 refine lUn (ap 0 ty38 (cw.trans gl (Nat.le_of_ble_eq_true rfl))) ?_
 refine lUn (ai rj) ?_
 refine lUn (ap 0 ty66 cw) ?_
 refine lUn (ap 1 ty64 (Sub.refl _)) ?_
 obtain⟨x7,hx7,h⟩:=ah h
 refine lUn (ct (jo x1.Scope x2 _ hx7)) ?_
 refine lUn (hMvA rfl) ?_
 obtain⟨x8,hx8,h⟩:=ah h
 refine lUn (ct (fm x1.Scope.Table x7 x3 _ hx8)) ?_
 refine lUn (ai fld64_4) ?_
 refine lUn (ap 1 ty3 ep) ?_
 rcases ce h with⟨m10,hm10,h⟩|⟨_,hx9,h⟩
 ·refine cv [] (bt x1 x8 180 x2.From _ hm10) ⟨aa,aa,aa,aa,trivial⟩ (fun q C' hq=> ?_) (fun v9 hv=> ?_)
  ·obtain⟨_,h9,_⟩:=hq;cases h9
  obtain⟨_,h9,rfl⟩:=hv
  cases h9
  obtain rfl:=osj h
  exact .inr ⟨_,rfl,_,rfl,rfl⟩
 refine cv [] (bt x1 x8 180 x2.From _ hx9) ⟨aa,aa,aa,aa,trivial⟩ (fun q C' hq=> ?_) (fun v9 hv=>by obtain⟨_,h9,_⟩:=hv;cases h9)
 obtain⟨_,h9,rfl,rfl⟩:=hq
 cases h9
 refine rCtx [Own.box b4 al x1,Own.box b5 ab x2] ?_
 obtain rfl:=osj h
 exact(.inl ⟨.inr rfl,_,Pick.of [] rfl,_,aa,_,rfl,rfl,rfl⟩)
theorem types_checker_local_ok (x1:TypesChecker) (x2:ApiNode) (r:PX TypesWrong Unit) (h:ud x1 x2=some r):FnX Tryz.prog 143 [(al).val x1,(ab).val x2] [] (fun q C'=>∃a9,r= .ok a9/\q=bk []/\C'=[]) (fun v=>∃m,r= .bad m/\v=gt m):=by
 refine gy (rs:=[]) Tryz.func143 rfl Tryz.ntmps143 ⟨by decide,Tryz.results143⟩ (by decide) (fun s0=> ?_)
 unfold ud at h
 refine W_rs ?_
 refine rBox (R:=al) (a:=x1) rfl (fun b3=> ?_)
 refine rBox (R:=ab) (a:=x2) rfl (fun b4=> ?_)
 refine eo 7 hmx (by kernel_rfl) (by kernel_rfl) ?_
 refine lUn (ap 0 pq (Sub.refl _)) ?_
 refine lUn (ai ee) ?_
 refine lUn (ap 1 ty53 bl) ?_
 obtain⟨x5,hx5,h⟩:=ah h
 refine lUn (dg Tryz.underlying53 Tryz.sizeOf64 hx5) ?_
 refine lUn (cf ty64) ?_
 refine lUn (ai r4) ?_
 refine lUn (ap 1 ty9 dz) ?_
 rcases ce h with⟨m7,hm7,h⟩|⟨_,hx6,h⟩
 ·refine cv [] (g8 x1 x5 x2.Type_ _ hm7) ⟨aa,aa,aa,trivial⟩ (fun q C' hq=> ?_) (fun v9 hv=> ?_)
  ·obtain⟨_,h9,_⟩:=hq;cases h9
  obtain⟨_,h9,rfl⟩:=hv
  cases h9
  obtain rfl:=osj h
  exact .inr ⟨_,rfl,_,rfl,rfl⟩
 refine cv [] (g8 x1 x5 x2.Type_ _ hx6) ⟨aa,aa,aa,trivial⟩ (fun q C' hq=> ?_) (fun v9 hv=>by obtain⟨_,h9,_⟩:=hv;cases h9)
 obtain⟨_,h9,rfl,rfl⟩:=hq
 cases h9
 refine rCtx [Own.box b3 al x1,Own.box b4 ab x2] ?_
 obtain rfl:=osj h
 exact(.inl ⟨.inr rfl,_,Pick.of [] rfl,_,aa,_,rfl,rfl,rfl⟩)
theorem types_checker_set_ok (x1:TypesChecker) (x2:ApiNode) (r:PX TypesWrong Unit) (h:types_checker_set x1 x2=some r):FnX Tryz.prog 144 [(al).val x1,(ab).val x2] [] (fun q C'=>∃a9,r= .ok a9/\q=bk []/\C'=[]) (fun v=>∃m,r= .bad m/\v=gt m):=by
 refine gy (rs:=[]) Tryz.func144 rfl Tryz.ntmps144 ⟨by decide,Tryz.results144⟩ (by decide) (fun s0=> ?_)
 unfold types_checker_set at h
 refine W_rs ?_
 refine rBox (R:=al) (a:=x1) rfl (fun b3=> ?_)
 refine rBox (R:=ab) (a:=x2) rfl (fun b4=> ?_)
 refine W_rs (kUn (ai ee) ?_)
 refine kUn (ap 1 ty53 bl) ?_
 obtain⟨x5,hx5,h⟩:=ah h
 refine kUn (dg Tryz.underlying53 Tryz.sizeOf64 hx5) ?_
 refine kUn (cf ty64) ?_
 refine bq al64 fun b6=>av 2 rfl rfl (Upd.refl _) rfl Tryz.sizeOf64 ?_
 refine bh (fun e C=>j3 x1 x5 x2=some r/\At [(2,am b3 0),(3,am b4 0),(4,am b6 0)] [Own.box b3 al x1,Own.box b4 ab x2,Own.box b6 ab x5] e C) ?_ ?_
 ·rintro e C ⟨h,hat1⟩
  refine W_at hat1 ?_
  unfold j3 at h
  refine W_rs (kUn (ap 0 pq (Sub.refl _)) ?_)
  refine kUn (ap 2 ty64 (Sub.refl _)) ?_
  rcases ce h with⟨m21,hm21,h⟩|⟨_,hx16,h⟩
  ·refine cv [] (eg x1 x5 false _ hm21) ⟨aa,aa,aa,trivial⟩ (fun q C' hq=> ?_) (fun v9 hv=> ?_)
   ·obtain⟨_,h9,_⟩:=hq;cases h9
   obtain⟨_,h9,rfl⟩:=hv
   cases h9
   obtain rfl:=osj h
   exact .inr ⟨_,rfl,_,rfl,rfl⟩
  refine cv [] (eg x1 x5 false _ hx16) ⟨aa,aa,aa,trivial⟩ (fun q C' hq=> ?_) (fun v9 hv=>by obtain⟨_,h9,_⟩:=hv;cases h9)
  obtain⟨_,h9,rfl,rfl⟩:=hq
  cases h9
  refine rCtx [Own.box b3 al x1,Own.box b4 ab x2,Own.box b6 ab x5] ?_
  refine eo 9 hmx (by kernel_rfl) (by kernel_rfl) ?_
  refine lUn (ap 0 pq (Sub.refl _)) ?_
  refine lUn (ai ee) ?_
  refine lUn (ap 1 ty53 bl) ?_
  obtain⟨x17,hx17,h⟩:=ah h
  refine lUn (dg Tryz.underlying53 Tryz.sizeOf64 hx17) ?_
  refine lUn (cf ty64) ?_
  refine lUn (ai rj) ?_
  refine lUn (ap 0 ty66 cw) ?_
  refine lUn (ap 2 ty64 (Sub.refl _)) ?_
  obtain⟨x18,hx18,h⟩:=ah h
  refine lUn (ct (jo x1.Scope x5 _ hx18)) ?_
  rcases ce h with⟨m20,hm20,h⟩|⟨_,hx19,h⟩
  ·refine cv [] (g8 x1 x17 x18 _ hm20) ⟨aa,aa,aa,trivial⟩ (fun q C' hq=> ?_) (fun v9 hv=> ?_)
   ·obtain⟨_,h9,_⟩:=hq;cases h9
   obtain⟨_,h9,rfl⟩:=hv
   cases h9
   obtain rfl:=osj h
   exact .inr ⟨_,rfl,_,rfl,rfl⟩
  refine cv [] (g8 x1 x17 x18 _ hx19) ⟨aa,aa,aa,trivial⟩ (fun q C' hq=> ?_) (fun v9 hv=>by obtain⟨_,h9,_⟩:=hv;cases h9)
  obtain⟨_,h9,rfl,rfl⟩:=hq
  cases h9
  refine rCtx [Own.box b3 al x1,Own.box b4 ab x2,Own.box b6 ab x5] ?_
  obtain rfl:=osj h
  exact(.inl ⟨.inr rfl,_,Pick.of [] rfl,_,aa,_,rfl,rfl,rfl⟩)
 refine eo 17 hmx (by kernel_rfl) (by kernel_rfl) ?_
 refine lUn (ap 0 pq (Sub.refl _)) ?_
 refine lUn (ai dr) ?_
 refine lUn (ap 2 ty3 bg) ?_
 refine lUn (qInt rfl rfl rfl) (lUn (hMvA rfl) ?_)
 rcases bo h with⟨hc7,h⟩|⟨hc7,h⟩
 ·refine lSkF rfl aa hc7 (lSkF rfl aa hc7 (lSkF rfl aa hc7 (lSkF rfl aa hc7 (lSkU rfl aa (lSkU rfl aa (lSkU rfl aa (lSkU rfl aa (lSkF rfl aa hc7 (lUn (hPt rfl hc7 rfl) (lUn (ai fld64_4) ?_))))))))))
  refine lUn (ap 2 ty3 ep) ?_
  rcases ce h with⟨m15,hm15,h⟩|⟨_,hx14,h⟩
  ·refine cv [] (bt x1 true 182 x5.From _ hm15) ⟨aa,aa,aa,aa,trivial⟩ (fun q C' hq=> ?_) (fun v9 hv=> ?_)
   ·obtain⟨_,h9,_⟩:=hq;cases h9
   obtain⟨_,h9,rfl⟩:=hv
   cases h9
   obtain rfl:=osj h
   exact .inr ⟨_,rfl,_,rfl,rfl⟩
  refine cv [] (bt x1 true 182 x5.From _ hx14) ⟨aa,aa,aa,aa,trivial⟩ (fun q C' hq=> ?_) (fun v9 hv=>by obtain⟨_,h9,_⟩:=hv;cases h9)
  obtain⟨_,h9,rfl,rfl⟩:=hq
  cases h9
  refine rCtx [Own.box b3 al x1,Own.box b4 ab x2,Own.box b6 ab x5] ?_
  exact⟨h,atOk⟩
 refine lGd rfl aa hc7 (ai dr) ?_
 refine lGd rfl aa hc7 (ap 2 ty3 bg) ?_
 refine lGd rfl aa hc7 (qInt rfl rfl rfl) (lGd rfl aa hc7 (hMvA rfl) ?_)
 rcases bo h with⟨hc8,h⟩|⟨hc8,h⟩
 ·refine lGd rfl aa hc8 (ap 0 pq (Sub.refl _)) ?_
  refine lGd rfl aa hc8 (ap 2 ty64 (Sub.refl _)) ?_
  obtain⟨x9,hx9,h⟩:=ah h
  refine lGd rfl aa hc8 (ct (uy x1 x5 _ hx9)) ?_
  refine lGd rfl aa hc8 (qNot rfl) (lGd rfl aa hc7 (hPt rfl hc8 rfl) (lUn (hPf rfl hc7 rfl) (lUn (ai fld64_4) ?_)))
  refine lUn (ap 2 ty3 ep) ?_
  rcases ce h with⟨m11,hm11,h⟩|⟨_,hx10,h⟩
  ·refine cv [] (bt x1 (!x9) 182 x5.From _ hm11) ⟨aa,aa,aa,aa,trivial⟩ (fun q C' hq=> ?_) (fun v9 hv=> ?_)
   ·obtain⟨_,h9,_⟩:=hq;cases h9
   obtain⟨_,h9,rfl⟩:=hv
   cases h9
   obtain rfl:=osj h
   exact .inr ⟨_,rfl,_,rfl,rfl⟩
  refine cv [] (bt x1 (!x9) 182 x5.From _ hx10) ⟨aa,aa,aa,aa,trivial⟩ (fun q C' hq=> ?_) (fun v9 hv=>by obtain⟨_,h9,_⟩:=hv;cases h9)
  obtain⟨_,h9,rfl,rfl⟩:=hq
  cases h9
  refine rCtx [Own.box b3 al x1,Own.box b4 ab x2,Own.box b6 ab x5] ?_
  exact⟨h,atOk⟩
 refine lSkT rfl aa hc8 (lSkT rfl aa hc8 (lSkT rfl aa hc8 (lSkT rfl aa hc8 (lGd rfl aa hc7 (hPf rfl hc8 rfl) (lUn (hPf rfl hc7 rfl) (lUn (ai fld64_4) ?_))))))
 refine lUn (ap 2 ty3 ep) ?_
 rcases ce h with⟨m13,hm13,h⟩|⟨_,hx12,h⟩
 ·refine cv [] (bt x1 false 182 x5.From _ hm13) ⟨aa,aa,aa,aa,trivial⟩ (fun q C' hq=> ?_) (fun v9 hv=> ?_)
  ·obtain⟨_,h9,_⟩:=hq;cases h9
  obtain⟨_,h9,rfl⟩:=hv
  cases h9
  obtain rfl:=osj h
  exact .inr ⟨_,rfl,_,rfl,rfl⟩
 refine cv [] (bt x1 false 182 x5.From _ hx12) ⟨aa,aa,aa,aa,trivial⟩ (fun q C' hq=> ?_) (fun v9 hv=>by obtain⟨_,h9,_⟩:=hv;cases h9)
 obtain⟨_,h9,rfl,rfl⟩:=hq
 cases h9
 refine rCtx [Own.box b3 al x1,Own.box b4 ab x2,Own.box b6 ab x5] ?_
 exact⟨h,atOk⟩
theorem types_checker_do_ok (x1:TypesChecker) (x2:ApiNode) (r:PX TypesWrong Unit) (h:types_checker_do x1 x2=some r):FnX Tryz.prog 145 [(al).val x1,(ab).val x2] [] (fun q C'=>∃a9,r= .ok a9/\q=bk []/\C'=[]) (fun v=>∃m,r= .bad m/\v=gt m):=by
 refine gy (rs:=[]) Tryz.func145 rfl Tryz.ntmps145 ⟨by decide,Tryz.results145⟩ (by decide) (fun s0=> ?_)
 unfold types_checker_do at h
 refine W_rs ?_
 refine rBox (R:=al) (a:=x1) rfl (fun b3=> ?_)
 refine rBox (R:=ab) (a:=x2) rfl (fun b4=> ?_)
 refine W_rs (kUn (ai ee) ?_)
 refine kUn (ap 1 ty53 bl) ?_
 obtain⟨x5,hx5,h⟩:=ah h
 refine kUn (dg Tryz.underlying53 Tryz.sizeOf64 hx5) ?_
 refine kUn (cf ty64) ?_
 refine bq al64 fun b6=>av 2 rfl rfl (Upd.refl _) rfl Tryz.sizeOf64 ?_
 refine bh (fun e C=>ob x1 x5=some r/\At [(2,am b3 0),(4,am b6 0)] [Own.box b3 al x1,Own.box b4 ab x2,Own.box b6 ab x5] e C) ?_ ?_
 ·rintro e C ⟨h,hat1⟩
  refine W_at hat1 ?_
  unfold ob at h
  refine W_r (kUn (ap 0 pq (Sub.refl _)) ?_)
  refine kUn (ap 2 ty64 (Sub.refl _)) ?_
  rcases ce h with⟨m13,hm13,h⟩|⟨_,hx12,h⟩
  ·refine cv [] (eg x1 x5 false _ hm13) ⟨aa,aa,aa,trivial⟩ (fun q C' hq=> ?_) (fun v9 hv=> ?_)
   ·obtain⟨_,h9,_⟩:=hq;cases h9
   obtain⟨_,h9,rfl⟩:=hv
   cases h9
   obtain rfl:=osj h
   exact .inr ⟨_,rfl,_,rfl,rfl⟩
  refine cv [] (eg x1 x5 false _ hx12) ⟨aa,aa,aa,trivial⟩ (fun q C' hq=> ?_) (fun v9 hv=>by obtain⟨_,h9,_⟩:=hv;cases h9)
  obtain⟨_,h9,rfl,rfl⟩:=hq
  cases h9
  refine rCtx [Own.box b3 al x1,Own.box b4 ab x2,Own.box b6 ab x5] ?_
  obtain rfl:=osj h
  exact(.inl ⟨.inr rfl,_,Pick.of [] rfl,_,aa,_,rfl,rfl,rfl⟩)
 refine W_r (kUn (ap 0 pq (Sub.refl _)) ?_)
 refine kUn (ai dr) ?_
 refine kUn (ap 2 ty3 bg) ?_
 refine kIn rfl rfl rfl (kMv rfl ?_)
 rcases bo h with⟨hc7,h⟩|⟨hc7,h⟩
 ·refine kSkF rfl aa hc7 (kSkF rfl aa hc7 (kSkF rfl aa hc7 (kPt rfl hc7 rfl (kUn (ai fld64_4) ?_))))
  refine kUn (ap 2 ty3 ep) ?_
  rcases ce h with⟨m11,hm11,h⟩|⟨_,hx10,h⟩
  ·refine cv [] (bt x1 true 182 x5.From _ hm11) ⟨aa,aa,aa,aa,trivial⟩ (fun q C' hq=> ?_) (fun v9 hv=> ?_)
   ·obtain⟨_,h9,_⟩:=hq;cases h9
   obtain⟨_,h9,rfl⟩:=hv
   cases h9
   obtain rfl:=osj h
   exact .inr ⟨_,rfl,_,rfl,rfl⟩
  refine cv [] (bt x1 true 182 x5.From _ hx10) ⟨aa,aa,aa,aa,trivial⟩ (fun q C' hq=> ?_) (fun v9 hv=>by obtain⟨_,h9,_⟩:=hv;cases h9)
  obtain⟨_,h9,rfl,rfl⟩:=hq
  cases h9
  refine rCtx [Own.box b3 al x1,Own.box b4 ab x2,Own.box b6 ab x5] ?_
  exact⟨h,atOk⟩
 refine kGd rfl aa hc7 (ai dr) ?_
 refine kGd rfl aa hc7 (ap 2 ty3 bg) ?_
 refine kGd rfl aa hc7 (qInt rfl rfl rfl) (kPf rfl hc7 rfl (kUn (ai fld64_4) ?_))
 refine kUn (ap 2 ty3 ep) ?_
 rcases ce h with⟨m9,hm9,h⟩|⟨_,hx8,h⟩
 ·refine cv [] (bt x1 (x5.Kind==20) 182 x5.From _ hm9) ⟨aa,aa,aa,aa,trivial⟩ (fun q C' hq=> ?_) (fun v9 hv=> ?_)
  ·obtain⟨_,h9,_⟩:=hq;cases h9
  obtain⟨_,h9,rfl⟩:=hv
  cases h9
  obtain rfl:=osj h
  exact .inr ⟨_,rfl,_,rfl,rfl⟩
 refine cv [] (bt x1 (x5.Kind==20) 182 x5.From _ hx8) ⟨aa,aa,aa,aa,trivial⟩ (fun q C' hq=> ?_) (fun v9 hv=>by obtain⟨_,h9,_⟩:=hv;cases h9)
 obtain⟨_,h9,rfl,rfl⟩:=hq
 cases h9
 refine rCtx [Own.box b3 al x1,Own.box b4 ab x2,Own.box b6 ab x5] ?_
 exact⟨h,atOk⟩
theorem types_checker_back_ok (x1:TypesChecker) (x2:ApiNode) (r:PX TypesWrong Unit) (h:types_checker_back x1 x2=some r):FnX Tryz.prog 147 [(al).val x1,(ab).val x2] [] (fun q C'=>∃a9,r= .ok a9/\q=bk []/\C'=[]) (fun v=>∃m,r= .bad m/\v=gt m):=by
 refine gy (rs:=[]) Tryz.func147 rfl Tryz.ntmps147 ⟨by decide,Tryz.results147⟩ (by decide) (fun s0=> ?_)
 unfold types_checker_back at h
 refine W_rs ?_
 refine rBox (R:=al) (a:=x1) rfl (fun b3=> ?_)
 refine rBox (R:=ab) (a:=x2) rfl (fun b4=> ?_)
 refine a8 (W_rs (kUn (ai ee) ?_))
 refine kUn (ap 1 ty53 bl) ?_
 refine kUn (iz rfl Tryz.underlying53) ?_
 refine kIn rfl rfl rfl ?_
 refine a5 h rfl (fun _ h=> ?_) (fun _ h=> ?_)
 ·refine W_rs (kUn (ap 0 pq (Sub.refl _)) ?_)
  refine kUn (ai fld138_1) ?_
  refine kUn (ap 0 ty9 subTypesChecker_kind) ?_
  refine kSt rfl rfl rfl (kUn (ai fld64_4) ?_)
  refine kUn (ap 1 ty3 ep) ?_
  rcases ce h with⟨m7,hm7,h⟩|⟨_,hx6,h⟩
  ·refine cv [] (bt x1 (x1.kind==([118,111,105,100]:List UInt8)) 180 x2.From _ hm7) ⟨aa,aa,aa,aa,trivial⟩ (fun q C' hq=> ?_) (fun v9 hv=> ?_)
   ·obtain⟨_,h9,_⟩:=hq;cases h9
   obtain⟨_,h9,rfl⟩:=hv
   cases h9
   obtain rfl:=osj h
   exact .inr ⟨_,rfl,_,rfl,rfl⟩
  refine cv [] (bt x1 (x1.kind==([118,111,105,100]:List UInt8)) 180 x2.From _ hx6) ⟨aa,aa,aa,aa,trivial⟩ (fun q C' hq=> ?_) (fun v9 hv=>by obtain⟨_,h9,_⟩:=hv;cases h9)
  obtain⟨_,h9,rfl,rfl⟩:=hq
  cases h9
  refine rCtx [Own.box b3 al x1,Own.box b4 ab x2] ?_
  obtain rfl:=osj h
  exact bc (.inl ⟨.inl rfl,_,Pick.of [] rfl,_,aa,_,rfl,rfl,rfl⟩)
 refine ax ?_
 refine eo 7 hmx (by kernel_rfl) (by kernel_rfl) ?_
 refine lUn (ap 0 pq (Sub.refl _)) ?_
 refine lUn (ai ee) ?_
 refine lUn (ap 1 ty53 bl) ?_
 obtain⟨x8,hx8,h⟩:=ah h
 refine lUn (dg Tryz.underlying53 Tryz.sizeOf64 hx8) ?_
 refine lUn (cf ty64) ?_
 refine lUn (ai fld138_1) ?_
 refine lUn (ap 0 ty9 subTypesChecker_kind) ?_
 rcases ce h with⟨m10,hm10,h⟩|⟨_,hx9,h⟩
 ·refine cv [] (g8 x1 x8 x1.kind _ hm10) ⟨aa,aa,aa,trivial⟩ (fun q C' hq=> ?_) (fun v9 hv=> ?_)
  ·obtain⟨_,h9,_⟩:=hq;cases h9
  obtain⟨_,h9,rfl⟩:=hv
  cases h9
  obtain rfl:=osj h
  exact .inr ⟨_,rfl,_,rfl,rfl⟩
 refine cv [] (g8 x1 x8 x1.kind _ hx9) ⟨aa,aa,aa,trivial⟩ (fun q C' hq=> ?_) (fun v9 hv=>by obtain⟨_,h9,_⟩:=hv;cases h9)
 obtain⟨_,h9,rfl,rfl⟩:=hq
 cases h9
 refine rCtx [Own.box b3 al x1,Own.box b4 ab x2] ?_
 obtain rfl:=osj h
 exact(.inl ⟨.inr rfl,_,Pick.of [] rfl,_,aa,_,rfl,rfl,rfl⟩)
theorem types_checker_show_ok (x1:TypesChecker) (x2:ApiNode) (r:PX TypesWrong Unit) (h:types_checker_show x1 x2=some r):FnX Tryz.prog 148 [(al).val x1,(ab).val x2] [] (fun q C'=>∃a9,r= .ok a9/\q=bk []/\C'=[]) (fun v=>∃m,r= .bad m/\v=gt m):=by
 refine gy (rs:=[]) Tryz.func148 rfl Tryz.ntmps148 ⟨by decide,Tryz.results148⟩ (by decide) (fun s0=> ?_)
 unfold types_checker_show at h
 refine W_rs ?_
 refine rBox (R:=al) (a:=x1) rfl (fun b3=> ?_)
 refine rBox (R:=ab) (a:=x2) rfl (fun b4=> ?_)
 refine eo 6 hmx (by kernel_rfl) (by kernel_rfl) ?_
 refine lUn (ap 0 pq (Sub.refl _)) ?_
 refine lUn (ai ee) ?_
 refine lUn (ap 1 ty53 bl) ?_
 obtain⟨x5,hx5,h⟩:=ah h
 refine lUn (dg Tryz.underlying53 Tryz.sizeOf64 hx5) ?_
 refine lUn (cf ty64) ?_
 refine lUn (ju (R:=a6) (ls:=([([105,110,116]:List UInt8),([98,111,111,108,101,97,110]:List UInt8)]:List (List UInt8))) el22 (Nat.le_of_ble_eq_true rfl) ⟨rfl,rfl⟩ ⟨rfl,rfl,trivial⟩) ?_
 rcases ce h with⟨m7,hm7,h⟩|⟨_,hx6,h⟩
 ·refine cv [] (lq x1 x5 ([([105,110,116]:List UInt8),([98,111,111,108,101,97,110]:List UInt8)]:List (List UInt8)) _ hm7) ⟨aa,aa,aa,trivial⟩ (fun q C' hq=> ?_) (fun v9 hv=> ?_)
  ·obtain⟨_,h9,_⟩:=hq;cases h9
  obtain⟨_,h9,rfl⟩:=hv
  cases h9
  obtain rfl:=osj h
  exact .inr ⟨_,rfl,_,rfl,rfl⟩
 refine cv [] (lq x1 x5 ([([105,110,116]:List UInt8),([98,111,111,108,101,97,110]:List UInt8)]:List (List UInt8)) _ hx6) ⟨aa,aa,aa,trivial⟩ (fun q C' hq=> ?_) (fun v9 hv=>by obtain⟨_,h9,_⟩:=hv;cases h9)
 obtain⟨_,h9,rfl,rfl⟩:=hq
 cases h9
 refine rCtx [Own.box b3 al x1,Own.box b4 ab x2] ?_
 obtain rfl:=osj h
 exact(.inl ⟨.inr rfl,_,Pick.of [] rfl,_,aa,_,rfl,rfl,rfl⟩)
def fw (R:br):Prop:=(∀(x1:TypesChecker) (x2:ApiNode) (r:PX TypesWrong Unit),R.1 x1 x2=some r->FnX Tryz.prog 99 [(al).val x1,(ab).val x2] [] (fun q C'=>∃a9,r= .ok a9/\q=bk []/\C'=[]) (fun v=>∃m,r= .bad m/\v=gt m))/\(∀(x1:TypesChecker) (x2:ApiNode) (r:PX TypesWrong Unit),R.2.1 x1 x2=some r->FnX Tryz.prog 146 [(al).val x1,(ab).val x2] [] (fun q C'=>∃a9,r= .ok a9/\q=bk []/\C'=[]) (fun v=>∃m,r= .bad m/\v=gt m))/\(∀(x1:TypesChecker) (x2:ApiNode) (r:PX TypesWrong Unit),R.2.2 x1 x2=some r->FnX Tryz.prog 149 [(al).val x1,(ab).val x2] [] (fun q C'=>∃a9,r= .ok a9/\q=bk []/\C'=[]) (fun v=>∃m,r= .bad m/\v=gt m))
theorem F_types_checker_statement_step (R:br) (ih:fw R) (x1:TypesChecker) (x2:ApiNode) (r:PX TypesWrong Unit) (h:mo R x1 x2=some r):FnX Tryz.prog 99 [(al).val x1,(ab).val x2] [] (fun q C'=>∃a9,r= .ok a9/\q=bk []/\C'=[]) (fun v=>∃m,r= .bad m/\v=gt m):=by
 refine gy (rs:=[]) Tryz.func99 rfl Tryz.ntmps99 ⟨by decide,Tryz.results99⟩ (by decide) (fun s0=> ?_)
 unfold mo at h
 refine W_rs ?_
 refine rBox (R:=al) (a:=x1) rfl (fun b3=> ?_)
 refine rBox (R:=ab) (a:=x2) rfl (fun b4=> ?_)
 refine W_rs ?_
 refine rMakeMapG (Rp.int .i64) sj (fun b5=> ?_)
 refine ri (Rk:=Rp.int .i64) (R:=sj) (m:=([]:GMap Int (Option Nat))) (kx:=6) (v:=(some 143)) 2 (kj Tryz.underlying3) Tryz.underlying179 ?_ (hu:=(Pr.is_le rfl))
 refine ri (Rk:=Rp.int .i64) (R:=sj) (m:=(gset 6 (some 143) ([]:GMap Int (Option Nat)))) (kx:=7) (v:=(some 144)) 2 (kj Tryz.underlying3) Tryz.underlying179 ?_ (hu:=(Pr.is_le rfl))
 refine ri (Rk:=Rp.int .i64) (R:=sj) (m:=(gset 7 (some 144) (gset 6 (some 143) ([]:GMap Int (Option Nat))))) (kx:=8) (v:=(some 145)) 2 (kj Tryz.underlying3) Tryz.underlying179 ?_ (hu:=(Pr.is_le rfl))
 refine ri (Rk:=Rp.int .i64) (R:=sj) (m:=(gset 8 (some 145) (gset 7 (some 144) (gset 6 (some 143) ([]:GMap Int (Option Nat)))))) (kx:=9) (v:=(some 146)) 2 (kj Tryz.underlying3) Tryz.underlying179 ?_ (hu:=(Pr.is_le rfl))
 refine ri (Rk:=Rp.int .i64) (R:=sj) (m:=(gset 9 (some 146) (gset 8 (some 145) (gset 7 (some 144) (gset 6 (some 143) ([]:GMap Int (Option Nat))))))) (kx:=10) (v:=(some 146)) 2 (kj Tryz.underlying3) Tryz.underlying179 ?_ (hu:=(Pr.is_le rfl))
 refine ri (Rk:=Rp.int .i64) (R:=sj) (m:=(gset 10 (some 146) (gset 9 (some 146) (gset 8 (some 145) (gset 7 (some 144) (gset 6 (some 143) ([]:GMap Int (Option Nat)))))))) (kx:=11) (v:=(some 147)) 2 (kj Tryz.underlying3) Tryz.underlying179 ?_ (hu:=(Pr.is_le rfl))
 refine ri (Rk:=Rp.int .i64) (R:=sj) (m:=(gset 11 (some 147) (gset 10 (some 146) (gset 9 (some 146) (gset 8 (some 145) (gset 7 (some 144) (gset 6 (some 143) ([]:GMap Int (Option Nat))))))))) (kx:=12) (v:=(some 148)) 2 (kj Tryz.underlying3) Tryz.underlying179 ?_ (hu:=(Pr.is_le rfl))
 refine ri (Rk:=Rp.int .i64) (R:=sj) (m:=(gset 12 (some 148) (gset 11 (some 147) (gset 10 (some 146) (gset 9 (some 146) (gset 8 (some 145) (gset 7 (some 144) (gset 6 (some 143) ([]:GMap Int (Option Nat)))))))))) (kx:=5) (v:=(some 149)) 2 (kj Tryz.underlying3) Tryz.underlying179 ?_ (hu:=(Pr.is_le rfl))
 refine kUn (hMv (out:=l7 b5) rfl) (kUn (ai dr) ?_)
 refine kUn (ap 1 ty3 bg) ?_
 refine kUn (qMapGetG2 (Rk:=Rp.int .i64) (R:=sj) (m:=(gset 5 (some 149) (gset 12 (some 148) (gset 11 (some 147) (gset 10 (some 146) (gset 9 (some 146) (gset 8 (some 145) (gset 7 (some 144) (gset 6 (some 143) ([]:GMap Int (Option Nat))))))))))) (kx:=x2.Kind) (z:=none) 2 (kj Tryz.underlying3) Tryz.underlying179 Tryz.zeroValue177 (fun _=>rfl)) ?_
 refine kUn (hMv (out:=bk [(sj).val (gget x2.Kind none (gset 5 (some 149) (gset 12 (some 148) (gset 11 (some 147) (gset 10 (some 146) (gset 9 (some 146) (gset 8 (some 145) (gset 7 (some 144) (gset 6 (some 143) ([]:GMap Int (Option Nat))))))))))),Pr.bool (ghas x2.Kind (gset 5 (some 149) (gset 12 (some 148) (gset 11 (some 147) (gset 10 (some 146) (gset 9 (some 146) (gset 8 (some 145) (gset 7 (some 144) (gset 6 (some 143) ([]:GMap Int (Option Nat)))))))))))]) rfl) (kUn au ?_)
 refine kUn au ?_
 refine kUn (hAs (out:=(sj).val (gget x2.Kind none (gset 5 (some 149) (gset 12 (some 148) (gset 11 (some 147) (gset 10 (some 146) (gset 9 (some 146) (gset 8 (some 145) (gset 7 (some 144) (gset 6 (some 143) ([]:GMap Int (Option Nat)))))))))))) rfl) (kAs rfl (W_rs (kMv rfl ?_)))
 refine a5 h rfl (fun _ h=> ?_) (fun _ h=> ?_)
 ·refine W_r (kUn (hMv (out:=(sj).val (gget x2.Kind none (gset 5 (some 149) (gset 12 (some 148) (gset 11 (some 147) (gset 10 (some 146) (gset 9 (some 146) (gset 8 (some 145) (gset 7 (some 144) (gset 6 (some 143) ([]:GMap Int (Option Nat)))))))))))) rfl) (kUn (ap 0 pq (Sub.refl _)) ?_))
  refine kUn (ap 1 ty64 (Sub.refl _)) ?_
  rcases bo h with⟨hc7,h⟩|⟨hc7,h⟩
  ·refine rEnv 15 (q:=Pr.is (.func (.func 143) #[] #[])) (fid_le hc7) ?_
   rcases ce h with⟨m9,hm9,h⟩|⟨_,hx8,h⟩
   ·refine rCallXT [] (types_checker_local_ok x1 x2 _ hm9) ⟨aa,aa,trivial⟩ (fun q C' hq=> ?_) (fun v9 hv=> ?_)
    ·obtain⟨_,h9,_⟩:=hq;cases h9
    obtain⟨_,h9,rfl⟩:=hv
    cases h9
    obtain rfl:=osj h
    exact .inr ⟨_,rfl,_,rfl,rfl⟩
   refine rCallXT [] (types_checker_local_ok x1 x2 _ hx8) ⟨aa,aa,trivial⟩ (fun q C' hq=> ?_) (fun v9 hv=>by obtain⟨_,h9,_⟩:=hv;cases h9)
   obtain⟨_,h9,rfl,rfl⟩:=hq
   cases h9
   refine rCtx [Own.box b3 al x1,Own.box b4 ab x2,Own.gmap b5 (Rp.int .i64) sj (gset 5 (some 149) (gset 12 (some 148) (gset 11 (some 147) (gset 10 (some 146) (gset 9 (some 146) (gset 8 (some 145) (gset 7 (some 144) (gset 6 (some 143) ([]:GMap Int (Option Nat))))))))))] ?_
   obtain rfl:=osj h
   exact(.inl ⟨.inr rfl,_,Pick.of [] rfl,_,aa,_,rfl,rfl,rfl⟩)
  rcases bo h with⟨hc10,h⟩|⟨hc10,h⟩
  ·refine rEnv 15 (q:=Pr.is (.func (.func 144) #[] #[])) (fid_le hc10) ?_
   rcases ce h with⟨m12,hm12,h⟩|⟨_,hx11,h⟩
   ·refine rCallXT [] (types_checker_set_ok x1 x2 _ hm12) ⟨aa,aa,trivial⟩ (fun q C' hq=> ?_) (fun v9 hv=> ?_)
    ·obtain⟨_,h9,_⟩:=hq;cases h9
    obtain⟨_,h9,rfl⟩:=hv
    cases h9
    obtain rfl:=osj h
    exact .inr ⟨_,rfl,_,rfl,rfl⟩
   refine rCallXT [] (types_checker_set_ok x1 x2 _ hx11) ⟨aa,aa,trivial⟩ (fun q C' hq=> ?_) (fun v9 hv=>by obtain⟨_,h9,_⟩:=hv;cases h9)
   obtain⟨_,h9,rfl,rfl⟩:=hq
   cases h9
   refine rCtx [Own.box b3 al x1,Own.box b4 ab x2,Own.gmap b5 (Rp.int .i64) sj (gset 5 (some 149) (gset 12 (some 148) (gset 11 (some 147) (gset 10 (some 146) (gset 9 (some 146) (gset 8 (some 145) (gset 7 (some 144) (gset 6 (some 143) ([]:GMap Int (Option Nat))))))))))] ?_
   obtain rfl:=osj h
   exact(.inl ⟨.inr rfl,_,Pick.of [] rfl,_,aa,_,rfl,rfl,rfl⟩)
  rcases bo h with⟨hc13,h⟩|⟨hc13,h⟩
  ·refine rEnv 15 (q:=Pr.is (.func (.func 145) #[] #[])) (fid_le hc13) ?_
   rcases ce h with⟨m15,hm15,h⟩|⟨_,hx14,h⟩
   ·refine rCallXT [] (types_checker_do_ok x1 x2 _ hm15) ⟨aa,aa,trivial⟩ (fun q C' hq=> ?_) (fun v9 hv=> ?_)
    ·obtain⟨_,h9,_⟩:=hq;cases h9
    obtain⟨_,h9,rfl⟩:=hv
    cases h9
    obtain rfl:=osj h
    exact .inr ⟨_,rfl,_,rfl,rfl⟩
   refine rCallXT [] (types_checker_do_ok x1 x2 _ hx14) ⟨aa,aa,trivial⟩ (fun q C' hq=> ?_) (fun v9 hv=>by obtain⟨_,h9,_⟩:=hv;cases h9)
   obtain⟨_,h9,rfl,rfl⟩:=hq
   cases h9
   refine rCtx [Own.box b3 al x1,Own.box b4 ab x2,Own.gmap b5 (Rp.int .i64) sj (gset 5 (some 149) (gset 12 (some 148) (gset 11 (some 147) (gset 10 (some 146) (gset 9 (some 146) (gset 8 (some 145) (gset 7 (some 144) (gset 6 (some 143) ([]:GMap Int (Option Nat))))))))))] ?_
   obtain rfl:=osj h
   exact(.inl ⟨.inr rfl,_,Pick.of [] rfl,_,aa,_,rfl,rfl,rfl⟩)
  rcases bo h with⟨hc16,h⟩|⟨hc16,h⟩
  ·refine rEnv 15 (q:=Pr.is (.func (.func 146) #[] #[])) (fid_le hc16) ?_
   rcases ce h with⟨m18,hm18,h⟩|⟨_,hx17,h⟩
   ·refine rCallXT [] (ih.2.1 x1 x2 _ hm18) ⟨aa,aa,trivial⟩ (fun q C' hq=> ?_) (fun v9 hv=> ?_)
    ·obtain⟨_,h9,_⟩:=hq;cases h9
    obtain⟨_,h9,rfl⟩:=hv
    cases h9
    obtain rfl:=osj h
    exact .inr ⟨_,rfl,_,rfl,rfl⟩
   refine rCallXT [] (ih.2.1 x1 x2 _ hx17) ⟨aa,aa,trivial⟩ (fun q C' hq=> ?_) (fun v9 hv=>by obtain⟨_,h9,_⟩:=hv;cases h9)
   obtain⟨_,h9,rfl,rfl⟩:=hq
   cases h9
   refine rCtx [Own.box b3 al x1,Own.box b4 ab x2,Own.gmap b5 (Rp.int .i64) sj (gset 5 (some 149) (gset 12 (some 148) (gset 11 (some 147) (gset 10 (some 146) (gset 9 (some 146) (gset 8 (some 145) (gset 7 (some 144) (gset 6 (some 143) ([]:GMap Int (Option Nat))))))))))] ?_
   obtain rfl:=osj h
   exact(.inl ⟨.inr rfl,_,Pick.of [] rfl,_,aa,_,rfl,rfl,rfl⟩)
  rcases bo h with⟨hc19,h⟩|⟨hc19,h⟩
  ·refine rEnv 15 (q:=Pr.is (.func (.func 147) #[] #[])) (fid_le hc19) ?_
   rcases ce h with⟨m21,hm21,h⟩|⟨_,hx20,h⟩
   ·refine rCallXT [] (types_checker_back_ok x1 x2 _ hm21) ⟨aa,aa,trivial⟩ (fun q C' hq=> ?_) (fun v9 hv=> ?_)
    ·obtain⟨_,h9,_⟩:=hq;cases h9
    obtain⟨_,h9,rfl⟩:=hv
    cases h9
    obtain rfl:=osj h
    exact .inr ⟨_,rfl,_,rfl,rfl⟩
   refine rCallXT [] (types_checker_back_ok x1 x2 _ hx20) ⟨aa,aa,trivial⟩ (fun q C' hq=> ?_) (fun v9 hv=>by obtain⟨_,h9,_⟩:=hv;cases h9)
   obtain⟨_,h9,rfl,rfl⟩:=hq
   cases h9
   refine rCtx [Own.box b3 al x1,Own.box b4 ab x2,Own.gmap b5 (Rp.int .i64) sj (gset 5 (some 149) (gset 12 (some 148) (gset 11 (some 147) (gset 10 (some 146) (gset 9 (some 146) (gset 8 (some 145) (gset 7 (some 144) (gset 6 (some 143) ([]:GMap Int (Option Nat))))))))))] ?_
   obtain rfl:=osj h
   exact(.inl ⟨.inr rfl,_,Pick.of [] rfl,_,aa,_,rfl,rfl,rfl⟩)
  rcases bo h with⟨hc22,h⟩|⟨hc22,h⟩
  ·refine rEnv 15 (q:=Pr.is (.func (.func 148) #[] #[])) (fid_le hc22) ?_
   rcases ce h with⟨m24,hm24,h⟩|⟨_,hx23,h⟩
   ·refine rCallXT [] (types_checker_show_ok x1 x2 _ hm24) ⟨aa,aa,trivial⟩ (fun q C' hq=> ?_) (fun v9 hv=> ?_)
    ·obtain⟨_,h9,_⟩:=hq;cases h9
    obtain⟨_,h9,rfl⟩:=hv
    cases h9
    obtain rfl:=osj h
    exact .inr ⟨_,rfl,_,rfl,rfl⟩
   refine rCallXT [] (types_checker_show_ok x1 x2 _ hx23) ⟨aa,aa,trivial⟩ (fun q C' hq=> ?_) (fun v9 hv=>by obtain⟨_,h9,_⟩:=hv;cases h9)
   obtain⟨_,h9,rfl,rfl⟩:=hq
   cases h9
   refine rCtx [Own.box b3 al x1,Own.box b4 ab x2,Own.gmap b5 (Rp.int .i64) sj (gset 5 (some 149) (gset 12 (some 148) (gset 11 (some 147) (gset 10 (some 146) (gset 9 (some 146) (gset 8 (some 145) (gset 7 (some 144) (gset 6 (some 143) ([]:GMap Int (Option Nat))))))))))] ?_
   obtain rfl:=osj h
   exact(.inl ⟨.inr rfl,_,Pick.of [] rfl,_,aa,_,rfl,rfl,rfl⟩)
  rcases bo h with⟨hc25,h⟩|⟨hc25,h⟩
  ·refine rEnv 15 (q:=Pr.is (.func (.func 149) #[] #[])) (fid_le hc25) ?_
   rcases ce h with⟨m27,hm27,h⟩|⟨_,hx26,h⟩
   ·refine rCallXT [] (ih.2.2 x1 x2 _ hm27) ⟨aa,aa,trivial⟩ (fun q C' hq=> ?_) (fun v9 hv=> ?_)
    ·obtain⟨_,h9,_⟩:=hq;cases h9
    obtain⟨_,h9,rfl⟩:=hv
    cases h9
    obtain rfl:=osj h
    exact .inr ⟨_,rfl,_,rfl,rfl⟩
   refine rCallXT [] (ih.2.2 x1 x2 _ hx26) ⟨aa,aa,trivial⟩ (fun q C' hq=> ?_) (fun v9 hv=>by obtain⟨_,h9,_⟩:=hv;cases h9)
   obtain⟨_,h9,rfl,rfl⟩:=hq
   cases h9
   refine rCtx [Own.box b3 al x1,Own.box b4 ab x2,Own.gmap b5 (Rp.int .i64) sj (gset 5 (some 149) (gset 12 (some 148) (gset 11 (some 147) (gset 10 (some 146) (gset 9 (some 146) (gset 8 (some 145) (gset 7 (some 144) (gset 6 (some 143) ([]:GMap Int (Option Nat))))))))))] ?_
   obtain rfl:=osj h
   exact(.inl ⟨.inr rfl,_,Pick.of [] rfl,_,aa,_,rfl,rfl,rfl⟩)
  cases h
 refine ax ?_
 obtain rfl:=osj h
 exact(.inl ⟨.inr rfl,_,Pick.of [] rfl,_,aa,_,rfl,rfl,rfl⟩)
theorem F_types_checker_guarded_step (R:br) (ih:fw R) (x1:TypesChecker) (x2:ApiNode) (r:PX TypesWrong Unit) (h:ox R x1 x2=some r):FnX Tryz.prog 146 [(al).val x1,(ab).val x2] [] (fun q C'=>∃a9,r= .ok a9/\q=bk []/\C'=[]) (fun v=>∃m,r= .bad m/\v=gt m):=by
 refine gy (rs:=[]) Tryz.func146 rfl Tryz.ntmps146 ⟨by decide,Tryz.results146⟩ (by decide) (fun s0=> ?_)
 unfold ox at h
 refine W_rs ?_
 refine rBox (R:=al) (a:=x1) rfl (fun b3=> ?_)
 refine rBox (R:=ab) (a:=x2) rfl (fun b4=> ?_)
 refine bh (fun e C=>nt R x2 x1=some r/\At [(2,am b3 0),(3,am b4 0)] [Own.box b3 al x1,Own.box b4 ab x2] e C) ?_ ?_
 ·rintro e C ⟨h,hat3⟩
  refine W_at hat3 ?_
  unfold nt at h
  refine W_rs (kUn (ai ee) ?_)
  refine kUn (ap 1 ty53 bl) ?_
  obtain⟨x8,hx8,h⟩:=ah h
  refine kUn (qLSubL Tryz.underlying53 Tryz.sizeOf64 hx8) ?_
  refine kUn (iz rfl Tryz.underlying53) ?_
  refine kMv rfl (az ?_)
  obtain⟨z2l,hz2,h⟩:=ah h
  obtain⟨n2,hN2⟩:=bp hz2
  refine cq 0 (fun e C=>nr R=some r/\At [] [Own.box b3 al x1,Own.box b4 ab x2] e C) ?_ ?_
  ·rintro e C ⟨h,hat1⟩
   unfold nr at h
   obtain rfl:=osj h
   exact(.inl ⟨.inr rfl,_,(Pick.trans hat1.2 (Pick.of [] rfl)),_,aa,_,rfl,rfl,rfl⟩)
  refine c8 (fun m e C=>∃(x9:Int),dj (fun s=>jq R x8 x1 s) m x9=some z2l/\At [(2,am b3 0),(15,aq ab x8),(16,Pr.i64 (x8.length:Int)),(17,Pr.i64 x9)] [Own.box b3 al x1,Own.box b4 ab x2] e C) n2 ⟨0,hN2,⟨⟨aa,aa,aa,aa,trivial⟩,Pick.refl _⟩⟩ ?_
  rintro m e C ⟨x9,hN2,hatl2⟩
  refine W_at hatl2 ?_
  obtain⟨m2,w2l,rfl,h2l,hn2,ho2⟩:=bj hN2
  replace h2l:jq R x8 x1 x9=some w2l:=h2l
  unfold jq at h2l
  refine W_rs (kIn rfl rfl rfl (a8 ?_))
  refine a5 h2l rfl (fun _ h2l=> ?_) (fun _ h2l=> ?_)
  ·refine ax (a8 (az (W_rs ?_)))
   obtain⟨x12,hx12,h2l⟩:=ah h2l
   refine kUn (dg Tryz.underlying53 Tryz.sizeOf64 hx12) ?_
   refine kUn (cf ty64) ?_
   refine bq al64 fun b13=>av 2 rfl rfl (Upd.refl _) rfl Tryz.sizeOf64 (W_r (kUn (ap 0 pq (Sub.refl _)) ?_))
   refine kUn (ap 2 ty64 (Sub.refl _)) ?_
   rcases ce h2l with⟨m15,hm15,h2l⟩|⟨_,hx14,h2l⟩
   ·refine cv [] (ih.1 x1 x12 _ hm15) ⟨aa,aa,trivial⟩ (fun q C' hq=> ?_) (fun v9 hv=> ?_)
    ·obtain⟨_,h9,_⟩:=hq;cases h9
    obtain⟨_,h9,rfl⟩:=hv
    cases h9
    obtain rfl:=ho2 _ (Option.some.inj h2l).symm
    replace h:some (.bad m15)=some r:=h
    obtain rfl:=osj h
    exact .inr ⟨_,rfl,_,rfl,rfl⟩
   refine cv [] (ih.1 x1 x12 _ hx14) ⟨aa,aa,trivial⟩ (fun q C' hq=> ?_) (fun v9 hv=>by obtain⟨_,h9,_⟩:=hv;cases h9)
   obtain⟨_,h9,rfl,rfl⟩:=hq
   cases h9
   refine rCtx [Own.box b3 al x1,Own.box b4 ab x2,Own.box b13 ab x12] ?_
   refine W_r (kIn rfl rfl rfl (kMv rfl ?_))
   exact⟨m2,Nat.lt_succ_self _,w64 (x9+1),hn2 _ (Option.some.inj h2l).symm,⟨⟨aa,aa,aa,aa,trivial⟩,Pick.of [0,1] rfl⟩⟩
  refine c6 ?_
  obtain rfl:=ho2 _ (Option.some.inj h2l).symm
  exact⟨h,atOk⟩
 refine eo 6 hmx (by kernel_rfl) (by kernel_rfl) ?_
 refine lUn (ap 0 pq (Sub.refl _)) ?_
 refine lUn (ai ee) ?_
 refine lUn (ap 1 ty53 bl) ?_
 obtain⟨x5,hx5,h⟩:=ah h
 refine lUn (dg Tryz.underlying53 Tryz.sizeOf64 hx5) ?_
 refine lUn (cf ty64) ?_
 refine lUn (cl (R:=a6) (a:=([98,111,111,108,101,97,110]:List UInt8)) el22 (Nat.le_of_ble_eq_true rfl)) ?_
 rcases ce h with⟨m7,hm7,h⟩|⟨_,hx6,h⟩
 ·refine cv [] (lq x1 x5 ([([98,111,111,108,101,97,110]:List UInt8)]:List (List UInt8)) _ hm7) ⟨aa,aa,aa,trivial⟩ (fun q C' hq=> ?_) (fun v9 hv=> ?_)
  ·obtain⟨_,h9,_⟩:=hq;cases h9
  obtain⟨_,h9,rfl⟩:=hv
  cases h9
  obtain rfl:=osj h
  exact .inr ⟨_,rfl,_,rfl,rfl⟩
 refine cv [] (lq x1 x5 ([([98,111,111,108,101,97,110]:List UInt8)]:List (List UInt8)) _ hx6) ⟨aa,aa,aa,trivial⟩ (fun q C' hq=> ?_) (fun v9 hv=>by obtain⟨_,h9,_⟩:=hv;cases h9)
 obtain⟨_,h9,rfl,rfl⟩:=hq
 cases h9
 refine rCtx [Own.box b3 al x1,Own.box b4 ab x2] ?_
 exact⟨h,atOk⟩
theorem F_types_checker_block_step (R:br) (ih:fw R) (x1:TypesChecker) (x2:ApiNode) (r:PX TypesWrong Unit) (h:rg R x1 x2=some r):FnX Tryz.prog 149 [(al).val x1,(ab).val x2] [] (fun q C'=>∃a9,r= .ok a9/\q=bk []/\C'=[]) (fun v=>∃m,r= .bad m/\v=gt m):=by
 refine gy (rs:=[]) Tryz.func149 rfl Tryz.ntmps149 ⟨by decide,Tryz.results149⟩ (by decide) (fun s0=> ?_)
 unfold rg at h
 refine W_rs ?_
 refine rBox (R:=al) (a:=x1) rfl (fun b3=> ?_)
 refine rBox (R:=ab) (a:=x2) rfl (fun b4=> ?_)
 refine W_rs (kUn (ai ee) ?_)
 refine kUn (ap 1 ty53 bl) ?_
 refine kUn (iz rfl Tryz.underlying53) ?_
 refine kMv rfl (az ?_)
 obtain⟨z2l,hz2,h⟩:=ah h
 obtain⟨n2,hN2⟩:=bp hz2
 refine cq 0 (fun e C=>∃(x6:TypesChecker),pu R x6=some r/\At [] [Own.box b3 al x6,Own.box b4 ab x2] e C) ?_ ?_
 ·rintro e C ⟨x6,h,hat1⟩
  unfold pu at h
  obtain rfl:=osj h
  exact(.inl ⟨.inr rfl,_,(Pick.trans hat1.2 (Pick.of [] rfl)),_,aa,_,rfl,rfl,rfl⟩)
 refine c8 (fun m e C=>∃(x5:Int),∃(x6:TypesChecker),dj (fun s=>k6 R x2 s.1 s.2) m (x5,x6)=some z2l/\At [(2,am b3 0),(7,aq ab x2.Kids),(8,Pr.i64 (x2.Kids.length:Int)),(9,Pr.i64 x5)] [Own.box b3 al x6,Own.box b4 ab x2] e C) n2 ⟨0,x1,hN2,⟨⟨aa,aa,aa,aa,trivial⟩,Pick.refl _⟩⟩ ?_
 rintro m e C ⟨x5,x6,hN2,hatl2⟩
 refine W_at hatl2 ?_
 obtain⟨m2,w2l,rfl,h2l,hn2,ho2⟩:=bj hN2
 replace h2l:k6 R x2 x5 x6=some w2l:=h2l
 unfold k6 at h2l
 refine W_rs (kIn rfl rfl rfl (a8 ?_))
 refine a5 h2l rfl (fun _ h2l=> ?_) (fun _ h2l=> ?_)
 ·refine ax ?_
  refine bh (fun e C=>∃(x16:TypesChecker),∃(x10:ApiNode),∃(b11:Nat),k7 R x5 x16 x10=some w2l/\At [(2,am b3 0),(7,aq ab x2.Kids),(8,Pr.i64 (x2.Kids.length:Int)),(9,Pr.i64 x5)] [Own.box b3 al x16,Own.box b4 ab x2,Own.box b11 ab x10] e C) ?_ ?_
  ·rintro e C ⟨x16,x10,b11,h2l,hat3⟩
   refine W_at hat3 ?_
   unfold k7 at h2l
   refine W_r (kIn rfl rfl rfl (kMv rfl ?_))
   exact⟨m2,Nat.lt_succ_self _,w64 (x5+1),x16,hn2 _ (Option.some.inj h2l).symm,⟨⟨aa,aa,aa,aa,trivial⟩,Pick.of [0,1] rfl⟩⟩
  refine az (W_rs ?_)
  obtain⟨x10,hx10,h2l⟩:=ah h2l
  refine kUn (dg Tryz.underlying53 Tryz.sizeOf64 hx10) ?_
  refine kUn (cf ty64) ?_
  refine bq al64 fun b11=>av 2 rfl rfl (Upd.refl _) rfl Tryz.sizeOf64 (W_rs (kUn (ap 0 pq (Sub.refl _)) ?_))
  refine kUn (ap 2 ty64 (Sub.refl _)) ?_
  rcases ce h2l with⟨m15,hm15,h2l⟩|⟨_,hx12,h2l⟩
  ·refine cv [] (ih.1 x6 x10 _ hm15) ⟨aa,aa,trivial⟩ (fun q C' hq=> ?_) (fun v9 hv=> ?_)
   ·obtain⟨_,h9,_⟩:=hq;cases h9
   obtain⟨_,h9,rfl⟩:=hv
   cases h9
   obtain rfl:=ho2 _ (Option.some.inj h2l).symm
   replace h:some (.bad m15)=some r:=h
   obtain rfl:=osj h
   exact .inr ⟨_,rfl,_,rfl,rfl⟩
  refine cv [] (ih.1 x6 x10 _ hx12) ⟨aa,aa,trivial⟩ (fun q C' hq=> ?_) (fun v9 hv=>by obtain⟨_,h9,_⟩:=hv;cases h9)
  obtain⟨_,h9,rfl,rfl⟩:=hq
  cases h9
  refine rCtx [Own.box b3 al x6,Own.box b4 ab x2,Own.box b11 ab x10] ?_
  refine W_rs (kUn (ai dr) ?_)
  refine kUn (ap 2 ty3 bg) ?_
  refine kIn rfl rfl rfl ?_
  refine a5 h2l rfl (fun _ h2l=> ?_) (fun _ h2l=> ?_)
  ·refine W_r (kUn (ap 0 pq (Sub.refl _)) ?_)
   refine kUn (ap 2 ty64 (Sub.refl _)) ?_
   refine cm h2l (types_checker_with_ok x6 x10) rfl fun x14 _ h2l=>av 0 rfl rfl (Upd.refl _) rfl Tryz.sizeOf138 ?_
   exact⟨x14,x10,b11,h2l,atOk⟩
  refine ax ?_
  exact⟨x6,x10,b11,h2l,atOk⟩
 refine c6 ?_
 obtain rfl:=ho2 _ (Option.some.inj h2l).symm
 exact⟨x6,h,atOk⟩
theorem rec_types_checker_statement_ok :∀n,fw (ei n):=by
 intro n
 induction n with
 |zero=>exact⟨(fun x1 x2 r h=>nomatch (show none=some r from h)),(fun x1 x2 r h=>nomatch (show none=some r from h)),(fun x1 x2 r h=>nomatch (show none=some r from h))⟩
 |succ n ih=>exact⟨(fun x1 x2 r h=>F_types_checker_statement_step (ei n) ih x1 x2 r h),(fun x1 x2 r h=>F_types_checker_guarded_step (ei n) ih x1 x2 r h),(fun x1 x2 r h=>F_types_checker_block_step (ei n) ih x1 x2 r h)⟩
theorem rv (x1:TypesChecker) (x2:ApiNode) (r:PX TypesWrong Unit) (h:types_checker_statement x1 x2=some r):FnX Tryz.prog 99 [(al).val x1,(ab).val x2] [] (fun q C'=>∃a9,r= .ok a9/\q=bk []/\C'=[]) (fun v=>∃m,r= .bad m/\v=gt m):=(rec_types_checker_statement_ok 1048576).1 x1 x2 r h
end Go.Proofs.YtcndghapmoaidaaGreatDoor
