/- The code comes to what these functions say (printed by wip/gen/gen.py). -/
import Derived.Test.YtcndghapmoaidaaGreatDoorZX
import Derived.Test.YtcndghapmoaidaaGreatDoorZP9
import Derived.Test.YtcndghapmoaidaaGreatDoorZT
set_option linter.unusedSimpArgs false
set_option linter.unusedVariables false
set_option linter.unusedSectionVars false
set_option linter.unusedSectionVars false
set_option maxRecDepth 100000
set_option maxHeartbeats 4000000
namespace Go.Proofs.YtcndghapmoaidaaGreatDoor
open Go Go.Cn
attribute [local irreducible] eg ar
theorem types_Operator_ok (x1:List ApiEntity) (x2 x3 x4:List UInt8) (r:(List UInt8)) (h:lk x1 x2 x3 x4=some r):FnP Tryz.prog 30 [ar ag x1,bq x2,bq x3,bq x4] (bq r):=by
 refine cz (rs:=[8]) Tryz.func30 rfl Tryz.ntmps30 ⟨by decide,Tryz.results30⟩ (by decide) (fun s0=> ?_)
 unfold lk at h
 refine W_rs ?_
 refine rBox (R:=a7) (a:=x3) rfl (fun b5=> ?_)
 refine rBox (R:=a7) (a:=x4) rfl (fun b6=> ?_)
 refine kAs rfl (W_rs ?_)
 refine rRelB 0 [6] ?_ rfl ⟨rfl,trivial⟩
 refine rRelB 0 [7] ?_ rfl ⟨rfl,trivial⟩
 refine kUn mc ?_
 refine kUn (hAs (out:=jq 63 [] [eg a7 x3,eg a7 x4]) rfl) ?_
 refine bj (fun e C=>gv=some r/\At [] [] e C) ?_ ?_
 ·rintro e C ⟨h,hat1⟩
  refine W_at hat1 ?_
  unfold gv at h
  refine W_rs (kAs rfl ?_)
  obtain rfl:=osj h
  exact bh ⟨rfl,aa⟩
 refine W_rs (kMv rfl (a5 ?_))
 refine bj (fun e C=>∃(x11:Bool),gu x3 x4 x2 x1 x11=some r/\At [(0,ar ag x1),(6,eg a7 x3),(7,eg a7 x4),(9,jq 63 [] [eg a7 x3,eg a7 x4]),(11,bq x2),(12,Pr.bool x11)] [] e C) ?_ ?_
 ·rintro e C ⟨x11,h,hat6⟩
  refine W_at hat6 ?_
  unfold gu at h
  refine a8 h rfl (fun _ h=> ?_) (fun _ h=> ?_)
  ·refine W_rs (kUn (hMv (out:=jq 63 [] [eg a7 x3,eg a7 x4]) rfl) ?_)
   obtain⟨x13,hx13,h⟩:=aj h
   refine kUn (qCallClo (mz ([105,110,116]:List UInt8) x3 x4 _ hx13)) ?_
   refine a8 h rfl (fun _ h=> ?_) (fun _ h=> ?_)
   ·refine W_rs (kAs rfl ?_)
    obtain rfl:=osj h
    exact bh ⟨rfl,aa⟩
   refine az ?_
   exact⟨h,atOk⟩
  refine bj (fun e C=>∃(x18:Bool),i0 x3 x4 x2 x1 x18=some r/\At [(0,ar ag x1),(6,eg a7 x3),(7,eg a7 x4),(9,jq 63 [] [eg a7 x3,eg a7 x4]),(11,bq x2),(20,Pr.bool x18)] [] e C) ?_ ?_
  ·rintro e C ⟨x18,h,hat5⟩
   refine W_at hat5 ?_
   unfold i0 at h
   refine a8 h rfl (fun _ h=> ?_) (fun _ h=> ?_)
   ·refine W_rs (kUn (hMv (out:=jq 63 [] [eg a7 x3,eg a7 x4]) rfl) ?_)
    obtain⟨x20,hx20,h⟩:=aj h
    refine kUn (qCallClo (mz ([105,110,116]:List UInt8) x3 x4 _ hx20)) ?_
    refine a8 h rfl (fun _ h=> ?_) (fun _ h=> ?_)
    ·refine W_rs (kAs rfl ?_)
     obtain rfl:=osj h
     exact bh ⟨rfl,aa⟩
    refine az ?_
    exact⟨h,atOk⟩
   refine bj (fun e C=>∃(x23:Bool),mh x3 x4 x2 x1 x23=some r/\At [(0,ar ag x1),(6,eg a7 x3),(7,eg a7 x4),(9,jq 63 [] [eg a7 x3,eg a7 x4]),(11,bq x2),(27,Pr.bool x23)] [] e C) ?_ ?_
   ·rintro e C ⟨x23,h,hat4⟩
    refine W_at hat4 ?_
    unfold mh at h
    refine a8 h rfl (fun _ h=> ?_) (fun _ h=> ?_)
    ·refine W_rs (kUn (hMv (out:=jq 63 [] [eg a7 x3,eg a7 x4]) rfl) ?_)
     obtain⟨x25,hx25,h⟩:=aj h
     refine kUn (qCallClo (mz ([98,111,111,108,101,97,110]:List UInt8) x3 x4 _ hx25)) ?_
     refine a8 h rfl (fun _ h=> ?_) (fun _ h=> ?_)
     ·refine W_rs (kAs rfl ?_)
      obtain rfl:=osj h
      exact bh ⟨rfl,aa⟩
     refine az ?_
     exact⟨h,atOk⟩
    refine bj (fun e C=>∃(x28:Bool),mi x1 x3 x4 x28=some r/\At [(0,ar ag x1),(6,eg a7 x3),(7,eg a7 x4),(9,jq 63 [] [eg a7 x3,eg a7 x4]),(32,Pr.bool x28)] [] e C) ?_ ?_
    ·rintro e C ⟨x28,h,hat3⟩
     refine W_at hat3 ?_
     unfold mi at h
     refine a8 h rfl (fun _ h=> ?_) (fun _ h=> ?_)
     ·refine bj (fun e C=>∃(x37:Bool),jz x37=some r/\At [(48,Pr.bool x37)] [] e C) ?_ ?_
      ·rintro e C ⟨x37,h,hat2⟩
       refine W_at hat2 ?_
       unfold jz at h
       refine a8 h rfl (fun _ h=> ?_) (fun _ h=> ?_)
       ·refine W_rs (kAs rfl ?_)
        obtain rfl:=osj h
        exact bh ⟨rfl,aa⟩
       refine az ?_
       exact⟨h,atOk⟩
      refine W_r (kMvL rfl (kUn (cl ty9) ?_))
      refine kUn (cl ty9) ?_
      refine ct h (o0 x1 x3 x4) rfl fun x30 _ h=>kMv rfl ?_
      rcases bg h with⟨hc31,h⟩|⟨hc31,h⟩
      ·refine kSkF rfl aa hc31 (kSkF rfl aa hc31 (kSkF rfl aa hc31 (kSkF rfl aa hc31 (kPt rfl hc31 rfl (kMv rfl ?_)))))
       have hc35:true=true:=rfl
       refine kSkF rfl aa hc35 (kSkF rfl aa hc35 (kPt rfl hc35 rfl ?_))
       exact⟨true,h,atOk⟩
      refine kGd rfl aa hc31 (hMvL rfl) (kGd rfl aa hc31 (cl ty9) ?_)
      refine kGd rfl aa hc31 (cl ty9) ?_
      obtain⟨x32,hx32,h⟩:=aj h
      refine kGd rfl aa hc31 (c5 (o0 x1 x4 x3 _ hx32)) ?_
      refine kPf rfl hc31 rfl (kMv rfl ?_)
      rcases bg h with⟨hc33,h⟩|⟨hc33,h⟩
      ·refine kSkF rfl aa hc33 (kSkF rfl aa hc33 (kPt rfl hc33 rfl ?_))
       exact⟨true,h,atOk⟩
      refine kGd rfl aa hc33 (hMv (out:=jq 63 [] [eg a7 x3,eg a7 x4]) rfl) ?_
      obtain⟨x34,hx34,h⟩:=aj h
      refine kGd rfl aa hc33 (qCallClo (mz ([110,117,108,108]:List UInt8) x3 x4 _ hx34)) ?_
      refine kPf rfl hc33 rfl ?_
      exact⟨x34,h,atOk⟩
     refine az ?_
     exact⟨h,atOk⟩
    refine W_rs (kSt rfl rfl rfl (kAs rfl ?_))
    refine a8 h rfl (fun _ h=> ?_) (fun _ h=> ?_)
    ·refine az ?_
     exact⟨x2==([61,61]:List UInt8),h,atOk⟩
    refine W_r (kSt rfl rfl rfl (kAs rfl ?_))
    exact⟨x2==([33,61]:List UInt8),h,atOk⟩
   refine W_rs (kSt rfl rfl rfl (kAs rfl ?_))
   refine a8 h rfl (fun _ h=> ?_) (fun _ h=> ?_)
   ·refine az ?_
    exact⟨x2==([38,38]:List UInt8),h,atOk⟩
   refine W_r (kSt rfl rfl rfl (kAs rfl ?_))
   exact⟨x2==([124,124]:List UInt8),h,atOk⟩
  refine W_rs (kSt rfl rfl rfl (kAs rfl ?_))
  refine a8 h rfl (fun _ h=> ?_) (fun _ h=> ?_)
  ·refine az ?_
   exact⟨x2==([60]:List UInt8),h,atOk⟩
  refine W_rs (kSt rfl rfl rfl (kAs rfl ?_))
  refine a8 h rfl (fun _ h=> ?_) (fun _ h=> ?_)
  ·refine az ?_
   exact⟨x2==([60,61]:List UInt8),h,atOk⟩
  refine W_rs (kSt rfl rfl rfl (kAs rfl ?_))
  refine a8 h rfl (fun _ h=> ?_) (fun _ h=> ?_)
  ·refine az ?_
   exact⟨x2==([62]:List UInt8),h,atOk⟩
  refine W_r (kSt rfl rfl rfl (kAs rfl ?_))
  exact⟨x2==([62,61]:List UInt8),h,atOk⟩
 refine W_rs (kSt rfl rfl rfl (kAs rfl ?_))
 refine a8 h rfl (fun _ h=> ?_) (fun _ h=> ?_)
 ·refine az ?_
  exact⟨x2==([43]:List UInt8),h,atOk⟩
 refine W_rs (kSt rfl rfl rfl (kAs rfl ?_))
 refine a8 h rfl (fun _ h=> ?_) (fun _ h=> ?_)
 ·refine az ?_
  exact⟨x2==([45]:List UInt8),h,atOk⟩
 refine W_rs (kSt rfl rfl rfl (kAs rfl ?_))
 refine a8 h rfl (fun _ h=> ?_) (fun _ h=> ?_)
 ·refine az ?_
  exact⟨x2==([42]:List UInt8),h,atOk⟩
 refine W_rs (kSt rfl rfl rfl (kAs rfl ?_))
 refine a8 h rfl (fun _ h=> ?_) (fun _ h=> ?_)
 ·refine az ?_
  exact⟨x2==([47]:List UInt8),h,atOk⟩
 refine W_r (kSt rfl rfl rfl (kAs rfl ?_))
 exact⟨x2==([37]:List UInt8),h,atOk⟩
theorem r9 (x1:TypesChecker) (x2:ApiNode) (r:Bool) (h:k8 x1 x2=some r):FnP Tryz.prog 172 [(ap).val x1,(af).val x2] (Pr.bool r):=by
 refine cz (rs:=[4]) Tryz.func172 rfl Tryz.ntmps172 ⟨by decide,Tryz.results172⟩ (by decide) (fun s0=> ?_)
 unfold k8 at h
 refine W_rs ?_
 refine rBox (R:=ap) (a:=x1) rfl (fun b3=> ?_)
 refine rBox (R:=af) (a:=x2) rfl (fun b4=> ?_)
 refine kAs rfl (W_rs (kUn (ak pj) ?_))
 refine kUn (au 0 ty66 c8) ?_
 refine kUn (au 1 ty64 (Sub.refl _)) ?_
 obtain⟨⟨x5,x6⟩,hx5,h⟩:=aj h
 refine kUn (c5 (qg x1.Scope x2 _ hx5)) ?_
 refine kUn (hMv (out:=br [(ag).val x5,Pr.i64 x6]) rfl) (kUn aw ?_)
 refine kUn aw ?_
 refine bw kh fun b7=>ax 2 rfl rfl (Upd.refl _) rfl Tryz.sizeOf49 (kAs rfl ?_)
 refine bj (fun e C=>∃(x9:Bool),jf x9=some r/\At [(4,Pr.bool x9)] [Own.box b3 ap x1,Own.box b4 af x2,Own.box b7 ag x5] e C) ?_ ?_
 ·rintro e C ⟨x9,h,hat1⟩
  refine W_at hat1 ?_
  unfold jf at h
  obtain rfl:=osj h
  exact bh ⟨rfl,aa⟩
 refine W_r (kUn (ak dx) ?_)
 refine kUn (au 1 ty3 bo) ?_
 refine kIn rfl rfl rfl (kMv rfl ?_)
 rcases bg h with⟨hc8,h⟩|⟨hc8,h⟩
 ·refine kGd rfl aa hc8 (ak mv) ?_
  refine kGd rfl aa hc8 (au 2 ty3 de) ?_
  refine kGd rfl aa hc8 (qInt rfl rfl rfl) (kPt rfl hc8 rfl (kAs rfl ?_))
  exact⟨x5.Kind==1,h,atOk⟩
 refine kSkT rfl aa hc8 (kSkT rfl aa hc8 (kSkT rfl aa hc8 (kPf rfl hc8 rfl (kAs rfl ?_))))
 exact⟨false,h,atOk⟩
def f0 (R:bv):Prop:=(∀(x1:TypesChecker) (x2:ApiNode) (x3:Bool) (r:PX TypesWrong Unit),R.1 x1 x2 x3=some r->FnX Tryz.prog 173 [(ap).val x1,(af).val x2,Pr.bool x3] [] (fun q C'=>∃a9,r= .ok a9/\q=br []/\C'=[]) (fun v=>∃m,r= .bad m/\v=gq m))/\(∀(x1:TypesChecker) (x2:ApiNode) (x3:List (List UInt8)) (r:PX TypesWrong Unit),R.2.1 x1 x2 x3=some r->FnX Tryz.prog 174 [(ap).val x1,(af).val x2,ar a7 x3] [] (fun q C'=>∃a9,r= .ok a9/\q=br []/\C'=[]) (fun v=>∃m,r= .bad m/\v=gq m))/\(∀(x1:TypesChecker) (x2:ApiNode) (x3:List ApiNode) (r:PX TypesWrong Unit),R.2.2 x1 x2 x3=some r->FnX Tryz.prog 182 [(ap).val x1,(af).val x2,ar af x3] [] (fun q C'=>∃a9,r= .ok a9/\q=br []/\C'=[]) (fun v=>∃m,r= .bad m/\v=gq m))
theorem F_types_checker_expression_step (R:bv) (ih:f0 R) (x1:TypesChecker) (x2:ApiNode) (x3:Bool) (r:PX TypesWrong Unit) (h:ko R x1 x2 x3=some r):FnX Tryz.prog 173 [(ap).val x1,(af).val x2,Pr.bool x3] [] (fun q C'=>∃a9,r= .ok a9/\q=br []/\C'=[]) (fun v=>∃m,r= .bad m/\v=gq m):=by
 refine gt (rs:=[]) Tryz.func173 rfl Tryz.ntmps173 ⟨by decide,Tryz.results173⟩ (by decide) (fun s0=> ?_)
 unfold ko at h
 refine W_rs ?_
 refine rBox (R:=ap) (a:=x1) rfl (fun b4=> ?_)
 refine rBox (R:=af) (a:=x2) rfl (fun b5=> ?_)
 refine W_rs (kUn (ak dx) ?_)
 refine kUn (au 1 ty3 bo) ?_
 refine a5 (W_rs (kIn rfl rfl rfl (kAs rfl ?_)))
 refine a8 h rfl (fun _ h=> ?_) (fun _ h=> ?_)
 ·refine e7 10 hmx (by kernel_rfl) (by kernel_rfl) ?_
  refine lUn (au 0 ny (Sub.refl _)) ?_
  refine lUn (hMvA rfl) (lUn (hMvA rfl) ?_)
  rcases bg h with⟨hc7,h⟩|⟨hc7,h⟩
  ·refine lSkF rfl aa hc7 (lSkF rfl aa hc7 (lSkF rfl aa hc7 (lSkF rfl aa hc7 (lUn (hPt rfl hc7 rfl) (lUn (ak mb) ?_)))))
   refine lUn (au 1 ty3 eu) ?_
   rcases cn h with⟨m12,hm12,h⟩|⟨_,hx11,h⟩
   ·refine c6 [] (cb x1 true 170 x2.At _ hm12) ⟨aa,aa,aa,aa,trivial⟩ (fun q C' hq=> ?_) (fun v9 hv=> ?_)
    ·obtain⟨_,h9,_⟩:=hq;cases h9
    obtain⟨_,h9,rfl⟩:=hv
    cases h9
    obtain rfl:=osj h
    exact .inr ⟨_,rfl,_,rfl,rfl⟩
   refine c6 [] (cb x1 true 170 x2.At _ hx11) ⟨aa,aa,aa,aa,trivial⟩ (fun q C' hq=> ?_) (fun v9 hv=>by obtain⟨_,h9,_⟩:=hv;cases h9)
   obtain⟨_,h9,rfl,rfl⟩:=hq
   cases h9
   refine rCtx [Own.box b4 ap x1,Own.box b5 af x2] ?_
   obtain rfl:=osj h
   exact(.inl ⟨.inr rfl,_,Pick.of [] rfl,_,aa,_,rfl,rfl,rfl⟩)
  refine lGd rfl aa hc7 (au 0 ny (Sub.refl _)) ?_
  refine lGd rfl aa hc7 (au 1 ty64 (Sub.refl _)) ?_
  obtain⟨x8,hx8,h⟩:=aj h
  refine lGd rfl aa hc7 (c5 (r9 x1 x2 _ hx8)) ?_
  refine lGd rfl aa hc7 (qNot rfl) (lUn (hPf rfl hc7 rfl) (lUn (ak mb) ?_))
  refine lUn (au 1 ty3 eu) ?_
  rcases cn h with⟨m10,hm10,h⟩|⟨_,hx9,h⟩
  ·refine c6 [] (cb x1 (!x8) 170 x2.At _ hm10) ⟨aa,aa,aa,aa,trivial⟩ (fun q C' hq=> ?_) (fun v9 hv=> ?_)
   ·obtain⟨_,h9,_⟩:=hq;cases h9
   obtain⟨_,h9,rfl⟩:=hv
   cases h9
   obtain rfl:=osj h
   exact .inr ⟨_,rfl,_,rfl,rfl⟩
  refine c6 [] (cb x1 (!x8) 170 x2.At _ hx9) ⟨aa,aa,aa,aa,trivial⟩ (fun q C' hq=> ?_) (fun v9 hv=>by obtain⟨_,h9,_⟩:=hv;cases h9)
  obtain⟨_,h9,rfl,rfl⟩:=hq
  cases h9
  refine rCtx [Own.box b4 ap x1,Own.box b5 af x2] ?_
  obtain rfl:=osj h
  exact(.inl ⟨.inr rfl,_,Pick.of [] rfl,_,aa,_,rfl,rfl,rfl⟩)
 refine W_rs (kIn rfl rfl rfl (kAs rfl ?_))
 refine a8 h rfl (fun _ h=> ?_) (fun _ h=> ?_)
 ·refine e7 5 hmx (by kernel_rfl) (by kernel_rfl) ?_
  refine lUn (au 0 ny (Sub.refl _)) ?_
  refine lUn (ak ei) ?_
  refine lUn (au 1 ty53 bu) ?_
  obtain⟨x14,hx14,h⟩:=aj h
  refine lUn (dh Tryz.underlying53 Tryz.sizeOf64 hx14) ?_
  refine lUn (cl ty64) ?_
  rcases cn h with⟨m16,hm16,h⟩|⟨_,hx15,h⟩
  ·refine c6 [] (ih.1 x1 x14 true _ hm16) ⟨aa,aa,aa,trivial⟩ (fun q C' hq=> ?_) (fun v9 hv=> ?_)
   ·obtain⟨_,h9,_⟩:=hq;cases h9
   obtain⟨_,h9,rfl⟩:=hv
   cases h9
   obtain rfl:=osj h
   exact .inr ⟨_,rfl,_,rfl,rfl⟩
  refine c6 [] (ih.1 x1 x14 true _ hx15) ⟨aa,aa,aa,trivial⟩ (fun q C' hq=> ?_) (fun v9 hv=>by obtain⟨_,h9,_⟩:=hv;cases h9)
  obtain⟨_,h9,rfl,rfl⟩:=hq
  cases h9
  refine rCtx [Own.box b4 ap x1,Own.box b5 af x2] ?_
  obtain rfl:=osj h
  exact(.inl ⟨.inr rfl,_,Pick.of [] rfl,_,aa,_,rfl,rfl,rfl⟩)
 refine W_rs (kIn rfl rfl rfl (kAs rfl ?_))
 refine a8 h rfl (fun _ h=> ?_) (fun _ h=> ?_)
 ·refine bj (fun e C=>kb R x2 x1=some r/\At [(3,ao b4 0),(4,ao b5 0)] [Own.box b4 ap x1,Own.box b5 af x2] e C) ?_ ?_
  ·rintro e C ⟨h,hat1⟩
   refine W_at hat1 ?_
   unfold kb at h
   refine e7 5 hmx (by kernel_rfl) (by kernel_rfl) ?_
   refine lUn (au 0 ny (Sub.refl _)) ?_
   refine lUn (au 1 ty64 (Sub.refl _)) ?_
   refine lUn (ak ei) ?_
   refine lUn (au 1 ty53 bu) ?_
   obtain⟨x21,hx21,h⟩:=aj h
   refine lUn (qLSubL Tryz.underlying53 Tryz.sizeOf64 hx21) ?_
   rcases cn h with⟨m23,hm23,h⟩|⟨_,hx22,h⟩
   ·refine c6 [] (ih.2.2 x1 x2 x21 _ hm23) ⟨aa,aa,aa,trivial⟩ (fun q C' hq=> ?_) (fun v9 hv=> ?_)
    ·obtain⟨_,h9,_⟩:=hq;cases h9
    obtain⟨_,h9,rfl⟩:=hv
    cases h9
    obtain rfl:=osj h
    exact .inr ⟨_,rfl,_,rfl,rfl⟩
   refine c6 [] (ih.2.2 x1 x2 x21 _ hx22) ⟨aa,aa,aa,trivial⟩ (fun q C' hq=> ?_) (fun v9 hv=>by obtain⟨_,h9,_⟩:=hv;cases h9)
   obtain⟨_,h9,rfl,rfl⟩:=hq
   cases h9
   refine rCtx [Own.box b4 ap x1,Own.box b5 af x2] ?_
   obtain rfl:=osj h
   exact(.inl ⟨.inr rfl,_,Pick.of [] rfl,_,aa,_,rfl,rfl,rfl⟩)
  refine e7 5 hmx (by kernel_rfl) (by kernel_rfl) ?_
  refine lUn (au 0 ny (Sub.refl _)) ?_
  refine lUn (ak ei) ?_
  refine lUn (au 1 ty53 bu) ?_
  obtain⟨x18,hx18,h⟩:=aj h
  refine lUn (dh Tryz.underlying53 Tryz.sizeOf64 hx18) ?_
  refine lUn (cl ty64) ?_
  rcases cn h with⟨m20,hm20,h⟩|⟨_,hx19,h⟩
  ·refine c6 [] (ih.1 x1 x18 true _ hm20) ⟨aa,aa,aa,trivial⟩ (fun q C' hq=> ?_) (fun v9 hv=> ?_)
   ·obtain⟨_,h9,_⟩:=hq;cases h9
   obtain⟨_,h9,rfl⟩:=hv
   cases h9
   obtain rfl:=osj h
   exact .inr ⟨_,rfl,_,rfl,rfl⟩
  refine c6 [] (ih.1 x1 x18 true _ hx19) ⟨aa,aa,aa,trivial⟩ (fun q C' hq=> ?_) (fun v9 hv=>by obtain⟨_,h9,_⟩:=hv;cases h9)
  obtain⟨_,h9,rfl,rfl⟩:=hq
  cases h9
  refine rCtx [Own.box b4 ap x1,Own.box b5 af x2] ?_
  exact⟨h,atOk⟩
 refine W_rs (kIn rfl rfl rfl (kAs rfl ?_))
 refine a8 h rfl (fun _ h=> ?_) (fun _ h=> ?_)
 ·refine W_r (kUn (au 0 ny (Sub.refl _)) ?_)
  refine kUn (au 1 ty64 (Sub.refl _)) ?_
  refine kUn (ak ei) ?_
  refine kUn (au 1 ty53 bu) ?_
  rcases cn h with⟨m26,hm26,h⟩|⟨_,hx25,h⟩
  ·refine c6 [] (ih.2.2 x1 x2 x2.Kids _ hm26) ⟨aa,aa,aa,trivial⟩ (fun q C' hq=> ?_) (fun v9 hv=> ?_)
   ·obtain⟨_,h9,_⟩:=hq;cases h9
   obtain⟨_,h9,rfl⟩:=hv
   cases h9
   obtain rfl:=osj h
   exact .inr ⟨_,rfl,_,rfl,rfl⟩
  refine c6 [] (ih.2.2 x1 x2 x2.Kids _ hx25) ⟨aa,aa,aa,trivial⟩ (fun q C' hq=> ?_) (fun v9 hv=>by obtain⟨_,h9,_⟩:=hv;cases h9)
  obtain⟨_,h9,rfl,rfl⟩:=hq
  cases h9
  refine rCtx [Own.box b4 ap x1,Own.box b5 af x2] ?_
  obtain rfl:=osj h
  exact(.inl ⟨.inr rfl,_,Pick.of [] rfl,_,aa,_,rfl,rfl,rfl⟩)
 refine W_rs (kIn rfl rfl rfl (kAs rfl ?_))
 refine a8 h rfl (fun _ h=> ?_) (fun _ h=> ?_)
 ·refine e7 6 hmx (by kernel_rfl) (by kernel_rfl) ?_
  refine lUn (au 0 ny (Sub.refl _)) ?_
  refine lUn (ak ei) ?_
  refine lUn (au 1 ty53 bu) ?_
  obtain⟨x28,hx28,h⟩:=aj h
  refine lUn (dh Tryz.underlying53 Tryz.sizeOf64 hx28) ?_
  refine lUn (cl ty64) ?_
  refine lUn (cr (R:=a7) (a:=([98,111,111,108,101,97,110]:List UInt8)) el22 (Nat.le_of_ble_eq_true rfl)) ?_
  rcases cn h with⟨m30,hm30,h⟩|⟨_,hx29,h⟩
  ·refine c6 [] (ih.2.1 x1 x28 ([([98,111,111,108,101,97,110]:List UInt8)]:List (List UInt8)) _ hm30) ⟨aa,aa,aa,trivial⟩ (fun q C' hq=> ?_) (fun v9 hv=> ?_)
   ·obtain⟨_,h9,_⟩:=hq;cases h9
   obtain⟨_,h9,rfl⟩:=hv
   cases h9
   obtain rfl:=osj h
   exact .inr ⟨_,rfl,_,rfl,rfl⟩
  refine c6 [] (ih.2.1 x1 x28 ([([98,111,111,108,101,97,110]:List UInt8)]:List (List UInt8)) _ hx29) ⟨aa,aa,aa,trivial⟩ (fun q C' hq=> ?_) (fun v9 hv=>by obtain⟨_,h9,_⟩:=hv;cases h9)
  obtain⟨_,h9,rfl,rfl⟩:=hq
  cases h9
  refine rCtx [Own.box b4 ap x1,Own.box b5 af x2] ?_
  obtain rfl:=osj h
  exact(.inl ⟨.inr rfl,_,Pick.of [] rfl,_,aa,_,rfl,rfl,rfl⟩)
 refine W_rs (kIn rfl rfl rfl (kAs rfl ?_))
 refine a8 h rfl (fun _ h=> ?_) (fun _ h=> ?_)
 ·refine e7 6 hmx (by kernel_rfl) (by kernel_rfl) ?_
  refine lUn (au 0 ny (Sub.refl _)) ?_
  refine lUn (ak ei) ?_
  refine lUn (au 1 ty53 bu) ?_
  obtain⟨x32,hx32,h⟩:=aj h
  refine lUn (dh Tryz.underlying53 Tryz.sizeOf64 hx32) ?_
  refine lUn (cl ty64) ?_
  refine lUn (cr (R:=a7) (a:=([105,110,116]:List UInt8)) el22 (Nat.le_of_ble_eq_true rfl)) ?_
  rcases cn h with⟨m34,hm34,h⟩|⟨_,hx33,h⟩
  ·refine c6 [] (ih.2.1 x1 x32 ([([105,110,116]:List UInt8)]:List (List UInt8)) _ hm34) ⟨aa,aa,aa,trivial⟩ (fun q C' hq=> ?_) (fun v9 hv=> ?_)
   ·obtain⟨_,h9,_⟩:=hq;cases h9
   obtain⟨_,h9,rfl⟩:=hv
   cases h9
   obtain rfl:=osj h
   exact .inr ⟨_,rfl,_,rfl,rfl⟩
  refine c6 [] (ih.2.1 x1 x32 ([([105,110,116]:List UInt8)]:List (List UInt8)) _ hx33) ⟨aa,aa,aa,trivial⟩ (fun q C' hq=> ?_) (fun v9 hv=>by obtain⟨_,h9,_⟩:=hv;cases h9)
  obtain⟨_,h9,rfl,rfl⟩:=hq
  cases h9
  refine rCtx [Own.box b4 ap x1,Own.box b5 af x2] ?_
  obtain rfl:=osj h
  exact(.inl ⟨.inr rfl,_,Pick.of [] rfl,_,aa,_,rfl,rfl,rfl⟩)
 refine W_rs (kIn rfl rfl rfl (kAs rfl ?_))
 refine a8 h rfl (fun _ h=> ?_) (fun _ h=> ?_)
 ·refine bj (fun e C=>∃(x36:ApiNode),∃(x37:ApiNode),∃(b38:Nat),∃(b39:Nat),ka R x1 x2 x36 x37=some r/\At [(3,ao b4 0),(4,ao b5 0),(6,ao b38 0),(7,ao b39 0)] [Own.box b4 ap x1,Own.box b5 af x2,Own.box b38 af x36,Own.box b39 af x37] e C) ?_ ?_
  ·rintro e C ⟨x36,x37,b38,b39,h,hat2⟩
   refine W_at hat2 ?_
   unfold ka at h
   refine W_rs (kUn (au 0 ny (Sub.refl _)) ?_)
   refine kUn (au 2 ty64 (Sub.refl _)) ?_
   rcases cn h with⟨m48,hm48,h⟩|⟨_,hx40,h⟩
   ·refine c6 [] (ih.1 x1 x36 false _ hm48) ⟨aa,aa,aa,trivial⟩ (fun q C' hq=> ?_) (fun v9 hv=> ?_)
    ·obtain⟨_,h9,_⟩:=hq;cases h9
    obtain⟨_,h9,rfl⟩:=hv
    cases h9
    obtain rfl:=osj h
    exact .inr ⟨_,rfl,_,rfl,rfl⟩
   refine c6 [] (ih.1 x1 x36 false _ hx40) ⟨aa,aa,aa,trivial⟩ (fun q C' hq=> ?_) (fun v9 hv=>by obtain⟨_,h9,_⟩:=hv;cases h9)
   obtain⟨_,h9,rfl,rfl⟩:=hq
   cases h9
   refine rCtx [Own.box b4 ap x1,Own.box b5 af x2,Own.box b38 af x36,Own.box b39 af x37] ?_
   refine W_rs (kUn (au 0 ny (Sub.refl _)) ?_)
   refine kUn (au 3 ty64 (Sub.refl _)) ?_
   rcases cn h with⟨m47,hm47,h⟩|⟨_,hx41,h⟩
   ·refine c6 [] (ih.1 x1 x37 false _ hm47) ⟨aa,aa,aa,trivial⟩ (fun q C' hq=> ?_) (fun v9 hv=> ?_)
    ·obtain⟨_,h9,_⟩:=hq;cases h9
    obtain⟨_,h9,rfl⟩:=hv
    cases h9
    obtain rfl:=osj h
    exact .inr ⟨_,rfl,_,rfl,rfl⟩
   refine c6 [] (ih.1 x1 x37 false _ hx41) ⟨aa,aa,aa,trivial⟩ (fun q C' hq=> ?_) (fun v9 hv=>by obtain⟨_,h9,_⟩:=hv;cases h9)
   obtain⟨_,h9,rfl,rfl⟩:=hq
   cases h9
   refine rCtx [Own.box b4 ap x1,Own.box b5 af x2,Own.box b38 af x36,Own.box b39 af x37] ?_
   refine e7 18 hmx (by kernel_rfl) (by kernel_rfl) ?_
   refine lUn (au 0 ny (Sub.refl _)) ?_
   refine lUn (ak pj) ?_
   refine lUn (ak fld66_0) ?_
   refine lUn (au 0 ty38 (c8.trans gl (Nat.le_of_ble_eq_true rfl))) ?_
   refine lUn (ak ej) ?_
   refine lUn (au 1 ty9 cd) ?_
   refine lUn (ak pj) ?_
   refine lUn (au 0 ty66 c8) ?_
   refine lUn (au 2 ty64 (Sub.refl _)) ?_
   obtain⟨x42,hx42,h⟩:=aj h
   refine lUn (c5 (je x1.Scope x36 _ hx42)) ?_
   refine lUn (ak pj) ?_
   refine lUn (au 0 ty66 c8) ?_
   refine lUn (au 3 ty64 (Sub.refl _)) ?_
   obtain⟨x43,hx43,h⟩:=aj h
   refine lUn (c5 (je x1.Scope x37 _ hx43)) ?_
   obtain⟨x44,hx44,h⟩:=aj h
   refine lUn (c5 (types_Operator_ok x1.Scope.Table x2.Text x42 x43 _ hx44)) ?_
   refine lUn (qStr rfl rfl rfl) (lUn (ak fld64_4) ?_)
   refine lUn (au 1 ty3 fb) ?_
   rcases cn h with⟨m46,hm46,h⟩|⟨_,hx45,h⟩
   ·refine c6 [] (cb x1 (!(x44==[])) 180 x2.From _ hm46) ⟨aa,aa,aa,aa,trivial⟩ (fun q C' hq=> ?_) (fun v9 hv=> ?_)
    ·obtain⟨_,h9,_⟩:=hq;cases h9
    obtain⟨_,h9,rfl⟩:=hv
    cases h9
    obtain rfl:=osj h
    exact .inr ⟨_,rfl,_,rfl,rfl⟩
   refine c6 [] (cb x1 (!(x44==[])) 180 x2.From _ hx45) ⟨aa,aa,aa,aa,trivial⟩ (fun q C' hq=> ?_) (fun v9 hv=>by obtain⟨_,h9,_⟩:=hv;cases h9)
   obtain⟨_,h9,rfl,rfl⟩:=hq
   cases h9
   refine rCtx [Own.box b4 ap x1,Own.box b5 af x2,Own.box b38 af x36,Own.box b39 af x37] ?_
   obtain rfl:=osj h
   exact(.inl ⟨.inr rfl,_,Pick.of [] rfl,_,aa,_,rfl,rfl,rfl⟩)
  obtain⟨x36,hx36,h⟩:=aj h
  obtain⟨x37,hx37,h⟩:=aj h
  refine W_drawG 2 (fun B S=>[Own.box b4 ap x1,Own.box b5 af x2,(cond (S 10) (Own.box (B 8) af x36) (cond (S 8) (Own.box (B 8) af (ApiNode.mk 0 [] [] 0 0 0 0 0 [])) Own.nil)),(cond (S 11) (Own.box (B 9) af x37) (cond (S 9) (Own.box (B 9) af (ApiNode.mk 0 [] [] 0 0 0 0 0 [])) Own.nil))]) (fun B=>[Own.box b4 ap x1,Own.box b5 af x2,Own.box (B 8) af x36,Own.box (B 9) af x37]) [ao b5 8,ar af x2.Kids,eg af x36,(af).val x36,ao b5 8,ar af x2.Kids,eg af x37,(af).val x37,.any,.any,.any,.any] (fun k=>([0,0,0,0,0,0,0,0,2,2,1,1]:List Nat).getD k 0) hmx (by kernel_rfl) (by kernel_rfl) (fun _=>rfl) (fun B S S' h=>by show([Own.box b4 ap x1,Own.box b5 af x2,(cond (S 10) (Own.box (B 8) af x36) (cond (S 8) (Own.box (B 8) af (ApiNode.mk 0 [] [] 0 0 0 0 0 [])) Own.nil)),(cond (S 11) (Own.box (B 9) af x37) (cond (S 9) (Own.box (B 9) af (ApiNode.mk 0 [] [] 0 0 0 0 0 [])) Own.nil))]:Ctx)=[Own.box b4 ap x1,Own.box b5 af x2,(cond (S' 10) (Own.box (B 8) af x36) (cond (S' 8) (Own.box (B 8) af (ApiNode.mk 0 [] [] 0 0 0 0 0 [])) Own.nil)),(cond (S' 11) (Own.box (B 9) af x37) (cond (S' 9) (Own.box (B 9) af (ApiNode.mk 0 [] [] 0 0 0 0 0 [])) Own.nil))];simp only[h 8 (Nat.le_of_ble_eq_true (by kernel_rfl)),h 9 (Nat.le_of_ble_eq_true (by kernel_rfl)),h 10 (Nat.le_of_ble_eq_true (by kernel_rfl)),h 11 (Nat.le_of_ble_eq_true (by kernel_rfl))]) (fun _=>rfl) (fun B=> ?_)
  refine gq1 (fun S hK=>(ak ei)) ?_
  refine gq1 (fun S hK=>(au (R:=af) (a:=x2) (R':=bl af) 1 ty53 bu (hi:=rfl))) ?_
  refine gq1 (fun S hK=>(dh (R:=af) (l:=x2.Kids) Tryz.underlying53 Tryz.sizeOf64 hx36)) ?_
  refine gq1 (fun S hK=>(cl (R:=af) (a:=x36) ty64)) ?_
  refine gq1 (fun S hK=>(ak ei)) ?_
  refine gq1 (fun S hK=>(au (R:=af) (a:=x2) (R':=bl af) 1 ty53 bu (hi:=rfl))) ?_
  refine gq1 (fun S hK=>(dh (R:=af) (l:=x2.Kids) Tryz.underlying53 Tryz.sizeOf64 hx37)) ?_
  refine gq1 (fun S hK=>(cl (R:=af) (a:=x37) ty64)) ?_
  refine gqA (fun S hK=>⟨fun B' hB=>by show([Own.box b4 ap x1,Own.box b5 af x2,(cond (S 10) (Own.box (B' 8) af x36) (cond (S 8) (Own.box (B' 8) af (ApiNode.mk 0 [] [] 0 0 0 0 0 [])) Own.nil)),(cond (S 11) (Own.box (B' 9) af x37) (cond (S 9) (Own.box (B' 9) af (ApiNode.mk 0 [] [] 0 0 0 0 0 [])) Own.nil))]:Ctx)=[Own.box b4 ap x1,Own.box b5 af x2,(cond (S 10) (Own.box (B 8) af x36) (cond (S 8) (Own.box (B 8) af (ApiNode.mk 0 [] [] 0 0 0 0 0 [])) Own.nil)),(cond (S 11) (Own.box (B 9) af x37) (cond (S 9) (Own.box (B 9) af (ApiNode.mk 0 [] [] 0 0 0 0 0 [])) Own.nil))];simp only[hK.me,hK.F 10 (by kernel_rfl),hB 9 (by decide),cond_false],fun s ρ hg _=>sAlloc (R:=af) (z:=(ApiNode.mk 0 [] [] 0 0 0 0 0 [])) 2 Tryz.zeroValue64 (fun _=>(by rw[bm];exact⟨_,⟨_,_,rfl,rfl,⟨_,_,rfl,rfl,⟨_,_,rfl,rfl,⟨_,_,rfl,rfl,⟨_,_,rfl,rfl,⟨_,_,rfl,rfl,⟨_,_,rfl,rfl,⟨_,_,rfl,rfl,⟨_,_,rfl,⟨_,rfl,none,0,rfl,⟨Nat.le_refl _,fun _=>rfl⟩,.inl rfl⟩,rfl⟩⟩⟩⟩⟩⟩⟩⟩⟩,rfl⟩)) (congrArg some ((condF (hK.F 10 (by kernel_rfl)) _ _).trans (condF (hK.me) _ _))) (fun b=>by show([Own.box b4 ap x1,Own.box b5 af x2,(cond (S 10) (Own.box b af x36) (Own.box b af (ApiNode.mk 0 [] [] 0 0 0 0 0 []))),(cond (S 11) (Own.box (B 9) af x37) (cond (S 9) (Own.box (B 9) af (ApiNode.mk 0 [] [] 0 0 0 0 0 [])) Own.nil))]:Ctx)=_;rw[hK.F 10 (by kernel_rfl)];rfl) s ρ hg⟩) ?_
  refine gqA (fun S hK=>⟨fun B' hB=>by show([Own.box b4 ap x1,Own.box b5 af x2,(cond (S 10) (Own.box (B' 8) af x36) (cond (S 8) (Own.box (B' 8) af (ApiNode.mk 0 [] [] 0 0 0 0 0 [])) Own.nil)),(cond (S 11) (Own.box (B' 9) af x37) (cond (S 9) (Own.box (B' 9) af (ApiNode.mk 0 [] [] 0 0 0 0 0 [])) Own.nil))]:Ctx)=[Own.box b4 ap x1,Own.box b5 af x2,(cond (S 10) (Own.box (B 8) af x36) (cond (S 8) (Own.box (B 8) af (ApiNode.mk 0 [] [] 0 0 0 0 0 [])) Own.nil)),(cond (S 11) (Own.box (B 9) af x37) (cond (S 9) (Own.box (B 9) af (ApiNode.mk 0 [] [] 0 0 0 0 0 [])) Own.nil))];simp only[hK.me,hK.F 11 (by kernel_rfl),hB 8 (by decide),cond_false],fun s ρ hg _=>sAlloc (R:=af) (z:=(ApiNode.mk 0 [] [] 0 0 0 0 0 [])) 3 Tryz.zeroValue64 (fun _=>(by rw[bm];exact⟨_,⟨_,_,rfl,rfl,⟨_,_,rfl,rfl,⟨_,_,rfl,rfl,⟨_,_,rfl,rfl,⟨_,_,rfl,rfl,⟨_,_,rfl,rfl,⟨_,_,rfl,rfl,⟨_,_,rfl,rfl,⟨_,_,rfl,⟨_,rfl,none,0,rfl,⟨Nat.le_refl _,fun _=>rfl⟩,.inl rfl⟩,rfl⟩⟩⟩⟩⟩⟩⟩⟩⟩,rfl⟩)) (congrArg some ((condF (hK.F 11 (by kernel_rfl)) _ _).trans (condF (hK.me) _ _))) (fun b=>by show([Own.box b4 ap x1,Own.box b5 af x2,(cond (S 10) (Own.box (B 8) af x36) (cond (S 8) (Own.box (B 8) af (ApiNode.mk 0 [] [] 0 0 0 0 0 [])) Own.nil)),(cond (S 11) (Own.box b af x37) (Own.box b af (ApiNode.mk 0 [] [] 0 0 0 0 0 [])))]:Ctx)=_;rw[hK.F 11 (by kernel_rfl)];rfl) s ρ hg⟩) ?_
  refine gqS (fun S hK=>SStep.as (dk (R:=af) (R':=af) (a:=(ApiNode.mk 0 [] [] 0 0 0 0 0 [])) (y:=x36) 2 Tryz.sizeOf64 (Upd.refl _) (congrArg some ((condF (hK.me) _ _).trans (condT (hK.T 8 (by kernel_rfl)) _ _)))) (by show(_:Ctx)=[Own.box b4 ap x1,Own.box b5 af x2,Own.box (B 8) af x36,(cond (S 11) (Own.box (B 9) af x37) (cond (S 9) (Own.box (B 9) af (ApiNode.mk 0 [] [] 0 0 0 0 0 [])) Own.nil))];rfl)) ?_
  refine gqS (fun S hK=>SStep.as (dk (R:=af) (R':=af) (a:=(ApiNode.mk 0 [] [] 0 0 0 0 0 [])) (y:=x37) 3 Tryz.sizeOf64 (Upd.refl _) (congrArg some ((condF (hK.me) _ _).trans (condT (hK.T 9 (by kernel_rfl)) _ _)))) (by show(_:Ctx)=[Own.box b4 ap x1,Own.box b5 af x2,(cond (S 10) (Own.box (B 8) af x36) (cond (S 8) (Own.box (B 8) af (ApiNode.mk 0 [] [] 0 0 0 0 0 [])) Own.nil)),Own.box (B 9) af x37];rfl)) ?_
  exact⟨x36,x37,(B 8),(B 9),h,atOk⟩
 refine az ?_
 obtain rfl:=osj h
 exact(.inl ⟨.inr rfl,_,Pick.of [] rfl,_,aa,_,rfl,rfl,rfl⟩)
theorem F_types_checker_want_step (R:bv) (ih:f0 R) (x1:TypesChecker) (x2:ApiNode) (x3:List (List UInt8)) (r:PX TypesWrong Unit) (h:qh R x1 x2 x3=some r):FnX Tryz.prog 174 [(ap).val x1,(af).val x2,ar a7 x3] [] (fun q C'=>∃a9,r= .ok a9/\q=br []/\C'=[]) (fun v=>∃m,r= .bad m/\v=gq m):=by
 refine gt (rs:=[]) Tryz.func174 rfl Tryz.ntmps174 ⟨by decide,Tryz.results174⟩ (by decide) (fun s0=> ?_)
 unfold qh at h
 refine W_rs ?_
 refine rBox (R:=ap) (a:=x1) rfl (fun b4=> ?_)
 refine rBox (R:=af) (a:=x2) rfl (fun b5=> ?_)
 refine W_rs (kUn (au 0 ny (Sub.refl _)) ?_)
 refine kUn (au 1 ty64 (Sub.refl _)) ?_
 rcases cn h with⟨m11,hm11,h⟩|⟨_,hx6,h⟩
 ·refine c6 [] (ih.1 x1 x2 false _ hm11) ⟨aa,aa,aa,trivial⟩ (fun q C' hq=> ?_) (fun v9 hv=> ?_)
  ·obtain⟨_,h9,_⟩:=hq;cases h9
  obtain⟨_,h9,rfl⟩:=hv
  cases h9
  obtain rfl:=osj h
  exact .inr ⟨_,rfl,_,rfl,rfl⟩
 refine c6 [] (ih.1 x1 x2 false _ hx6) ⟨aa,aa,aa,trivial⟩ (fun q C' hq=> ?_) (fun v9 hv=>by obtain⟨_,h9,_⟩:=hv;cases h9)
 obtain⟨_,h9,rfl,rfl⟩:=hq
 cases h9
 refine rCtx [Own.box b4 ap x1,Own.box b5 af x2] ?_
 refine e7 9 hmx (by kernel_rfl) (by kernel_rfl) ?_
 refine lUn (au 0 ny (Sub.refl _)) ?_
 refine lUn (hMvL rfl) (lUn (ak pj) ?_)
 refine lUn (au 0 ty66 c8) ?_
 refine lUn (au 1 ty64 (Sub.refl _)) ?_
 obtain⟨x7,hx7,h⟩:=aj h
 refine lUn (c5 (je x1.Scope x2 _ hx7)) ?_
 obtain⟨x8,hx8,h⟩:=aj h
 refine lUn (c5 (iv x3 x7 _ hx8)) ?_
 refine lUn (ak fld64_4) ?_
 refine lUn (au 1 ty3 fb) ?_
 rcases cn h with⟨m10,hm10,h⟩|⟨_,hx9,h⟩
 ·refine c6 [] (cb x1 x8 180 x2.From _ hm10) ⟨aa,aa,aa,aa,trivial⟩ (fun q C' hq=> ?_) (fun v9 hv=> ?_)
  ·obtain⟨_,h9,_⟩:=hq;cases h9
  obtain⟨_,h9,rfl⟩:=hv
  cases h9
  obtain rfl:=osj h
  exact .inr ⟨_,rfl,_,rfl,rfl⟩
 refine c6 [] (cb x1 x8 180 x2.From _ hx9) ⟨aa,aa,aa,aa,trivial⟩ (fun q C' hq=> ?_) (fun v9 hv=>by obtain⟨_,h9,_⟩:=hv;cases h9)
 obtain⟨_,h9,rfl,rfl⟩:=hq
 cases h9
 refine rCtx [Own.box b4 ap x1,Own.box b5 af x2] ?_
 obtain rfl:=osj h
 exact(.inl ⟨.inr rfl,_,Pick.of [] rfl,_,aa,_,rfl,rfl,rfl⟩)
theorem F_types_checker_arguments_step (R:bv) (ih:f0 R) (x1:TypesChecker) (x2:ApiNode) (x3:List ApiNode) (r:PX TypesWrong Unit) (h:lw R x1 x2 x3=some r):FnX Tryz.prog 182 [(ap).val x1,(af).val x2,ar af x3] [] (fun q C'=>∃a9,r= .ok a9/\q=br []/\C'=[]) (fun v=>∃m,r= .bad m/\v=gq m):=by
 refine gt (rs:=[]) Tryz.func182 rfl Tryz.ntmps182 ⟨by decide,Tryz.results182⟩ (by decide) (fun s0=> ?_)
 unfold lw at h
 refine W_rs ?_
 refine rBox (R:=ap) (a:=x1) rfl (fun b4=> ?_)
 refine rBox (R:=af) (a:=x2) rfl (fun b5=> ?_)
 refine ba (W_rs (kMvL rfl (kUn (gy rfl Tryz.underlying53) ?_)))
 refine kMv rfl (a5 ?_)
 obtain⟨z4l,hz4,h⟩:=aj h
 obtain⟨n4,hN4⟩:=bt hz4
 refine cv 0 (fun e C=>ki R x1 x2 x3=some r/\At [(2,ar af x3),(3,ao b4 0),(4,ao b5 0)] [Own.box b4 ap x1,Own.box b5 af x2] e C) ?_ ?_
 ·rintro e C ⟨h,hat3⟩
  refine W_at hat3 ?_
  unfold ki at h
  refine W_rs (kUn (ak pj) ?_)
  refine kUn (au 0 ty66 c8) ?_
  refine kUn (au 1 ty64 (Sub.refl _)) ?_
  obtain⟨⟨x13,x14⟩,hx13,h⟩:=aj h
  refine kUn (c5 (qg x1.Scope x2 _ hx13)) ?_
  refine kUn (hMv (out:=br [(ag).val x13,Pr.i64 x14]) rfl) (kUn aw ?_)
  refine kUn aw ?_
  refine bw kh fun b15=>ax 2 rfl rfl (Upd.refl _) rfl Tryz.sizeOf49 (kAs rfl (W_rs (kUn (au 0 ny (Sub.refl _)) ?_)))
  refine kMvL rfl (kUn (gy rfl Tryz.underlying53) ?_)
  refine kUn (ak fld49_6) ?_
  refine kUn (au 2 ty22 m0) ?_
  refine kUn (gy rfl Tryz.underlying22) ?_
  refine kIn rfl rfl rfl (kUn (ak mb) ?_)
  refine kUn (au 1 ty3 eu) ?_
  rcases cn h with⟨m27,hm27,h⟩|⟨_,hx16,h⟩
  ·refine c6 [] (cb x1 ((x3.length:Int)==(x13.Params.length:Int)) 181 x2.At _ hm27) ⟨aa,aa,aa,aa,trivial⟩ (fun q C' hq=> ?_) (fun v9 hv=> ?_)
   ·obtain⟨_,h9,_⟩:=hq;cases h9
   obtain⟨_,h9,rfl⟩:=hv
   cases h9
   obtain rfl:=osj h
   exact .inr ⟨_,rfl,_,rfl,rfl⟩
  refine c6 [] (cb x1 ((x3.length:Int)==(x13.Params.length:Int)) 181 x2.At _ hx16) ⟨aa,aa,aa,aa,trivial⟩ (fun q C' hq=> ?_) (fun v9 hv=>by obtain⟨_,h9,_⟩:=hv;cases h9)
  obtain⟨_,h9,rfl,rfl⟩:=hq
  cases h9
  refine rCtx [Own.box b4 ap x1,Own.box b5 af x2,Own.box b15 ag x13] ?_
  refine W_rs (kMvL rfl (kUn (gy rfl Tryz.underlying53) ?_))
  refine kMv rfl (a5 ?_)
  obtain⟨z2l,hz2,h⟩:=aj h
  obtain⟨n2,hN2⟩:=bt hz2
  refine cv 2 (fun e C=>kj R=some r/\At [] [Own.box b4 ap x1,Own.box b5 af x2,Own.box b15 ag x13] e C) ?_ ?_
  ·rintro e C ⟨h,hat1⟩
   unfold kj at h
   obtain rfl:=osj h
   exact(.inl ⟨.inr rfl,_,(Pick.trans hat1.2 (Pick.of [] rfl)),_,aa,_,rfl,rfl,rfl⟩)
  refine da (fun m e C=>∃(x17:Int),dn (fun s=>iy R x3 x1 x13 s) m x17=some z2l/\At [(3,ao b4 0),(8,ao b15 0),(39,ar af x3),(40,Pr.i64 (x3.length:Int)),(41,Pr.i64 x17)] [Own.box b4 ap x1,Own.box b5 af x2,Own.box b15 ag x13] e C) n2 ⟨0,hN2,⟨⟨aa,aa,aa,aa,aa,trivial⟩,Pick.refl _⟩⟩ ?_
  rintro m e C ⟨x17,hN2,hatl2⟩
  refine W_at hatl2 ?_
  obtain⟨m2,w2l,rfl,h2l,hn2,ho2⟩:=bk hN2
  replace h2l:iy R x3 x1 x13 x17=some w2l:=h2l
  unfold iy at h2l
  refine W_rs (kIn rfl rfl rfl (ba ?_))
  refine a8 h2l rfl (fun _ h2l=> ?_) (fun _ h2l=> ?_)
  ·refine az (ba (a5 (W_rs (kMv rfl ?_))))
   obtain⟨x20,hx20,h2l⟩:=aj h2l
   refine kUn (dh Tryz.underlying53 Tryz.sizeOf64 hx20) ?_
   refine kUn (cl ty64) ?_
   refine bw al64 fun b21=>kAs rfl (ax 3 rfl rfl (Upd.refl _) rfl Tryz.sizeOf64 ?_)
   refine e7 16 hmx (by kernel_rfl) (by kernel_rfl) ?_
   refine lUn (au 0 ny (Sub.refl _)) ?_
   refine lUn (ak pj) ?_
   refine lUn (ak fld66_0) ?_
   refine lUn (au 0 ty38 (c8.trans gl (Nat.le_of_ble_eq_true rfl))) ?_
   refine lUn (ak pj) ?_
   refine lUn (au 0 ty66 c8) ?_
   refine lUn (au 3 ty64 (Sub.refl _)) ?_
   obtain⟨x22,hx22,h2l⟩:=aj h2l
   refine lUn (c5 (je x1.Scope x20 _ hx22)) ?_
   refine lUn (ak fld49_6) ?_
   refine lUn (au 2 ty22 m0) ?_
   refine lUn (hMvA rfl) ?_
   obtain⟨x23,hx23,h2l⟩:=aj h2l
   refine lUn (dh Tryz.underlying22 Tryz.sizeOf9 hx23) ?_
   refine lUn (cl ty9) ?_
   obtain⟨x24,hx24,h2l⟩:=aj h2l
   refine lUn (c5 (o0 x1.Scope.Table x22 x23 _ hx24)) ?_
   refine lUn (ak fld64_4) ?_
   refine lUn (au 3 ty3 fb) ?_
   rcases cn h2l with⟨m26,hm26,h2l⟩|⟨_,hx25,h2l⟩
   ·refine c6 [] (cb x1 x24 180 x20.From _ hm26) ⟨aa,aa,aa,aa,trivial⟩ (fun q C' hq=> ?_) (fun v9 hv=> ?_)
    ·obtain⟨_,h9,_⟩:=hq;cases h9
    obtain⟨_,h9,rfl⟩:=hv
    cases h9
    obtain rfl:=ho2 _ (Option.some.inj h2l).symm
    replace h:some (.bad m26)=some r:=h
    obtain rfl:=osj h
    exact .inr ⟨_,rfl,_,rfl,rfl⟩
   refine c6 [] (cb x1 x24 180 x20.From _ hx25) ⟨aa,aa,aa,aa,trivial⟩ (fun q C' hq=> ?_) (fun v9 hv=>by obtain⟨_,h9,_⟩:=hv;cases h9)
   obtain⟨_,h9,rfl,rfl⟩:=hq
   cases h9
   refine rCtx [Own.box b4 ap x1,Own.box b5 af x2,Own.box b15 ag x13,Own.box b21 af x20] ?_
   refine W_r (kIn rfl rfl rfl (kMv rfl ?_))
   exact⟨m2,Nat.lt_succ_self _,w64 (x17+1),hn2 _ (Option.some.inj h2l).symm,⟨⟨aa,aa,aa,aa,aa,trivial⟩,Pick.of [0,1,2] rfl⟩⟩
  refine db ?_
  obtain rfl:=ho2 _ (Option.some.inj h2l).symm
  exact⟨h,atOk⟩
 refine da (fun m e C=>∃(x6:Int),dn (fun s=>ix R x3 x1 s) m x6=some z4l/\At [(2,ar af x3),(3,ao b4 0),(4,ao b5 0),(12,ar af x3),(13,Pr.i64 (x3.length:Int)),(14,Pr.i64 x6)] [Own.box b4 ap x1,Own.box b5 af x2] e C) n4 ⟨0,hN4,⟨⟨aa,aa,aa,aa,aa,aa,trivial⟩,Pick.refl _⟩⟩ ?_
 rintro m e C ⟨x6,hN4,hatl4⟩
 refine W_at hatl4 ?_
 obtain⟨m4,w4l,rfl,h4l,hn4,ho4⟩:=bk hN4
 replace h4l:ix R x3 x1 x6=some w4l:=h4l
 unfold ix at h4l
 refine W_rs (kIn rfl rfl rfl (ba ?_))
 refine a8 h4l rfl (fun _ h4l=> ?_) (fun _ h4l=> ?_)
 ·refine az (ba (a5 (W_rs ?_)))
  obtain⟨x9,hx9,h4l⟩:=aj h4l
  refine kUn (dh Tryz.underlying53 Tryz.sizeOf64 hx9) ?_
  refine kUn (cl ty64) ?_
  refine bw al64 fun b10=>ax 2 rfl rfl (Upd.refl _) rfl Tryz.sizeOf64 (W_r (kUn (au 0 ny (Sub.refl _)) ?_))
  refine kUn (au 2 ty64 (Sub.refl _)) ?_
  rcases cn h4l with⟨m12,hm12,h4l⟩|⟨_,hx11,h4l⟩
  ·refine c6 [] (ih.1 x1 x9 false _ hm12) ⟨aa,aa,aa,trivial⟩ (fun q C' hq=> ?_) (fun v9 hv=> ?_)
   ·obtain⟨_,h9,_⟩:=hq;cases h9
   obtain⟨_,h9,rfl⟩:=hv
   cases h9
   obtain rfl:=ho4 _ (Option.some.inj h4l).symm
   replace h:some (.bad m12)=some r:=h
   obtain rfl:=osj h
   exact .inr ⟨_,rfl,_,rfl,rfl⟩
  refine c6 [] (ih.1 x1 x9 false _ hx11) ⟨aa,aa,aa,trivial⟩ (fun q C' hq=> ?_) (fun v9 hv=>by obtain⟨_,h9,_⟩:=hv;cases h9)
  obtain⟨_,h9,rfl,rfl⟩:=hq
  cases h9
  refine rCtx [Own.box b4 ap x1,Own.box b5 af x2,Own.box b10 af x9] ?_
  refine W_r (kIn rfl rfl rfl (kMv rfl ?_))
  exact⟨m4,Nat.lt_succ_self _,w64 (x6+1),hn4 _ (Option.some.inj h4l).symm,⟨⟨aa,aa,aa,aa,aa,aa,trivial⟩,Pick.of [0,1] rfl⟩⟩
 refine db ?_
 obtain rfl:=ho4 _ (Option.some.inj h4l).symm
 exact⟨h,atOk⟩
theorem mt :∀n,f0 (dq n):=by
 intro n
 induction n with
 |zero=>exact⟨(fun x1 x2 x3 r h=>nomatch (show none=some r from h)),(fun x1 x2 x3 r h=>nomatch (show none=some r from h)),(fun x1 x2 x3 r h=>nomatch (show none=some r from h))⟩
 |succ n ih=>exact⟨(fun x1 x2 x3 r h=>F_types_checker_expression_step (dq n) ih x1 x2 x3 r h),(fun x1 x2 x3 r h=>F_types_checker_want_step (dq n) ih x1 x2 x3 r h),(fun x1 x2 x3 r h=>F_types_checker_arguments_step (dq n) ih x1 x2 x3 r h)⟩
theorem en (x1:TypesChecker) (x2:ApiNode) (x3:Bool) (r:PX TypesWrong Unit) (h:jh x1 x2 x3=some r):FnX Tryz.prog 173 [(ap).val x1,(af).val x2,Pr.bool x3] [] (fun q C'=>∃a9,r= .ok a9/\q=br []/\C'=[]) (fun v=>∃m,r= .bad m/\v=gq m):=(mt 1048576).1 x1 x2 x3 r h
theorem k7 (x1:TypesChecker) (x2:ApiNode) (x3:List (List UInt8)) (r:PX TypesWrong Unit) (h:types_checker_want x1 x2 x3=some r):FnX Tryz.prog 174 [(ap).val x1,(af).val x2,ar a7 x3] [] (fun q C'=>∃a9,r= .ok a9/\q=br []/\C'=[]) (fun v=>∃m,r= .bad m/\v=gq m):=(mt 1048576).2.1 x1 x2 x3 r h
theorem gx (x1:TypesChecker) (x2:ApiNode) (x3:List UInt8) (r:PX TypesWrong Unit) (h:kz x1 x2 x3=some r):FnX Tryz.prog 170 [(ap).val x1,(af).val x2,bq x3] [] (fun q C'=>∃a9,r= .ok a9/\q=br []/\C'=[]) (fun v=>∃m,r= .bad m/\v=gq m):=by
 refine gt (rs:=[]) Tryz.func170 rfl Tryz.ntmps170 ⟨by decide,Tryz.results170⟩ (by decide) (fun s0=> ?_)
 unfold kz at h
 refine W_rs ?_
 refine rBox (R:=ap) (a:=x1) rfl (fun b4=> ?_)
 refine rBox (R:=af) (a:=x2) rfl (fun b5=> ?_)
 refine W_rs (kUn (au 0 ny (Sub.refl _)) ?_)
 refine kUn (au 1 ty64 (Sub.refl _)) ?_
 rcases cn h with⟨m11,hm11,h⟩|⟨_,hx6,h⟩
 ·refine c6 [] (en x1 x2 false _ hm11) ⟨aa,aa,aa,trivial⟩ (fun q C' hq=> ?_) (fun v9 hv=> ?_)
  ·obtain⟨_,h9,_⟩:=hq;cases h9
  obtain⟨_,h9,rfl⟩:=hv
  cases h9
  obtain rfl:=osj h
  exact .inr ⟨_,rfl,_,rfl,rfl⟩
 refine c6 [] (en x1 x2 false _ hx6) ⟨aa,aa,aa,trivial⟩ (fun q C' hq=> ?_) (fun v9 hv=>by obtain⟨_,h9,_⟩:=hv;cases h9)
 obtain⟨_,h9,rfl,rfl⟩:=hq
 cases h9
 refine rCtx [Own.box b4 ap x1,Own.box b5 af x2] ?_
 refine e7 12 hmx (by kernel_rfl) (by kernel_rfl) ?_
 refine lUn (au 0 ny (Sub.refl _)) ?_
 refine lUn (ak pj) ?_
 refine lUn (ak fld66_0) ?_
 refine lUn (au 0 ty38 (c8.trans gl (Nat.le_of_ble_eq_true rfl))) ?_
 refine lUn (ak pj) ?_
 refine lUn (au 0 ty66 c8) ?_
 refine lUn (au 1 ty64 (Sub.refl _)) ?_
 obtain⟨x7,hx7,h⟩:=aj h
 refine lUn (c5 (je x1.Scope x2 _ hx7)) ?_
 refine lUn (hMvA rfl) ?_
 obtain⟨x8,hx8,h⟩:=aj h
 refine lUn (c5 (o0 x1.Scope.Table x7 x3 _ hx8)) ?_
 refine lUn (ak fld64_4) ?_
 refine lUn (au 1 ty3 fb) ?_
 rcases cn h with⟨m10,hm10,h⟩|⟨_,hx9,h⟩
 ·refine c6 [] (cb x1 x8 180 x2.From _ hm10) ⟨aa,aa,aa,aa,trivial⟩ (fun q C' hq=> ?_) (fun v9 hv=> ?_)
  ·obtain⟨_,h9,_⟩:=hq;cases h9
  obtain⟨_,h9,rfl⟩:=hv
  cases h9
  obtain rfl:=osj h
  exact .inr ⟨_,rfl,_,rfl,rfl⟩
 refine c6 [] (cb x1 x8 180 x2.From _ hx9) ⟨aa,aa,aa,aa,trivial⟩ (fun q C' hq=> ?_) (fun v9 hv=>by obtain⟨_,h9,_⟩:=hv;cases h9)
 obtain⟨_,h9,rfl,rfl⟩:=hq
 cases h9
 refine rCtx [Own.box b4 ap x1,Own.box b5 af x2] ?_
 obtain rfl:=osj h
 exact(.inl ⟨.inr rfl,_,Pick.of [] rfl,_,aa,_,rfl,rfl,rfl⟩)
theorem types_checker_local_ok (x1:TypesChecker) (x2:ApiNode) (r:PX TypesWrong Unit) (h:rg x1 x2=some r):FnX Tryz.prog 143 [(ap).val x1,(af).val x2] [] (fun q C'=>∃a9,r= .ok a9/\q=br []/\C'=[]) (fun v=>∃m,r= .bad m/\v=gq m):=by
 refine gt (rs:=[]) Tryz.func143 rfl Tryz.ntmps143 ⟨by decide,Tryz.results143⟩ (by decide) (fun s0=> ?_)
 unfold rg at h
 refine W_rs ?_
 refine rBox (R:=ap) (a:=x1) rfl (fun b3=> ?_)
 refine rBox (R:=af) (a:=x2) rfl (fun b4=> ?_)
 refine e7 7 hmx (by kernel_rfl) (by kernel_rfl) ?_
 refine lUn (au 0 ny (Sub.refl _)) ?_
 refine lUn (ak ei) ?_
 refine lUn (au 1 ty53 bu) ?_
 obtain⟨x5,hx5,h⟩:=aj h
 refine lUn (dh Tryz.underlying53 Tryz.sizeOf64 hx5) ?_
 refine lUn (cl ty64) ?_
 refine lUn (ak pz) ?_
 refine lUn (au 1 ty9 d8) ?_
 rcases cn h with⟨m7,hm7,h⟩|⟨_,hx6,h⟩
 ·refine c6 [] (gx x1 x5 x2.Type_ _ hm7) ⟨aa,aa,aa,trivial⟩ (fun q C' hq=> ?_) (fun v9 hv=> ?_)
  ·obtain⟨_,h9,_⟩:=hq;cases h9
  obtain⟨_,h9,rfl⟩:=hv
  cases h9
  obtain rfl:=osj h
  exact .inr ⟨_,rfl,_,rfl,rfl⟩
 refine c6 [] (gx x1 x5 x2.Type_ _ hx6) ⟨aa,aa,aa,trivial⟩ (fun q C' hq=> ?_) (fun v9 hv=>by obtain⟨_,h9,_⟩:=hv;cases h9)
 obtain⟨_,h9,rfl,rfl⟩:=hq
 cases h9
 refine rCtx [Own.box b3 ap x1,Own.box b4 af x2] ?_
 obtain rfl:=osj h
 exact(.inl ⟨.inr rfl,_,Pick.of [] rfl,_,aa,_,rfl,rfl,rfl⟩)
theorem types_checker_set_ok (x1:TypesChecker) (x2:ApiNode) (r:PX TypesWrong Unit) (h:types_checker_set x1 x2=some r):FnX Tryz.prog 144 [(ap).val x1,(af).val x2] [] (fun q C'=>∃a9,r= .ok a9/\q=br []/\C'=[]) (fun v=>∃m,r= .bad m/\v=gq m):=by
 refine gt (rs:=[]) Tryz.func144 rfl Tryz.ntmps144 ⟨by decide,Tryz.results144⟩ (by decide) (fun s0=> ?_)
 unfold types_checker_set at h
 refine W_rs ?_
 refine rBox (R:=ap) (a:=x1) rfl (fun b3=> ?_)
 refine rBox (R:=af) (a:=x2) rfl (fun b4=> ?_)
 refine W_rs (kUn (ak ei) ?_)
 refine kUn (au 1 ty53 bu) ?_
 obtain⟨x5,hx5,h⟩:=aj h
 refine kUn (dh Tryz.underlying53 Tryz.sizeOf64 hx5) ?_
 refine kUn (cl ty64) ?_
 refine bw al64 fun b6=>ax 2 rfl rfl (Upd.refl _) rfl Tryz.sizeOf64 ?_
 refine bj (fun e C=>jr x1 x5 x2=some r/\At [(2,ao b3 0),(3,ao b4 0),(4,ao b6 0)] [Own.box b3 ap x1,Own.box b4 af x2,Own.box b6 af x5] e C) ?_ ?_
 ·rintro e C ⟨h,hat1⟩
  refine W_at hat1 ?_
  unfold jr at h
  refine W_rs (kUn (au 0 ny (Sub.refl _)) ?_)
  refine kUn (au 2 ty64 (Sub.refl _)) ?_
  rcases cn h with⟨m21,hm21,h⟩|⟨_,hx16,h⟩
  ·refine c6 [] (en x1 x5 false _ hm21) ⟨aa,aa,aa,trivial⟩ (fun q C' hq=> ?_) (fun v9 hv=> ?_)
   ·obtain⟨_,h9,_⟩:=hq;cases h9
   obtain⟨_,h9,rfl⟩:=hv
   cases h9
   obtain rfl:=osj h
   exact .inr ⟨_,rfl,_,rfl,rfl⟩
  refine c6 [] (en x1 x5 false _ hx16) ⟨aa,aa,aa,trivial⟩ (fun q C' hq=> ?_) (fun v9 hv=>by obtain⟨_,h9,_⟩:=hv;cases h9)
  obtain⟨_,h9,rfl,rfl⟩:=hq
  cases h9
  refine rCtx [Own.box b3 ap x1,Own.box b4 af x2,Own.box b6 af x5] ?_
  refine e7 9 hmx (by kernel_rfl) (by kernel_rfl) ?_
  refine lUn (au 0 ny (Sub.refl _)) ?_
  refine lUn (ak ei) ?_
  refine lUn (au 1 ty53 bu) ?_
  obtain⟨x17,hx17,h⟩:=aj h
  refine lUn (dh Tryz.underlying53 Tryz.sizeOf64 hx17) ?_
  refine lUn (cl ty64) ?_
  refine lUn (ak pj) ?_
  refine lUn (au 0 ty66 c8) ?_
  refine lUn (au 2 ty64 (Sub.refl _)) ?_
  obtain⟨x18,hx18,h⟩:=aj h
  refine lUn (c5 (je x1.Scope x5 _ hx18)) ?_
  rcases cn h with⟨m20,hm20,h⟩|⟨_,hx19,h⟩
  ·refine c6 [] (gx x1 x17 x18 _ hm20) ⟨aa,aa,aa,trivial⟩ (fun q C' hq=> ?_) (fun v9 hv=> ?_)
   ·obtain⟨_,h9,_⟩:=hq;cases h9
   obtain⟨_,h9,rfl⟩:=hv
   cases h9
   obtain rfl:=osj h
   exact .inr ⟨_,rfl,_,rfl,rfl⟩
  refine c6 [] (gx x1 x17 x18 _ hx19) ⟨aa,aa,aa,trivial⟩ (fun q C' hq=> ?_) (fun v9 hv=>by obtain⟨_,h9,_⟩:=hv;cases h9)
  obtain⟨_,h9,rfl,rfl⟩:=hq
  cases h9
  refine rCtx [Own.box b3 ap x1,Own.box b4 af x2,Own.box b6 af x5] ?_
  obtain rfl:=osj h
  exact(.inl ⟨.inr rfl,_,Pick.of [] rfl,_,aa,_,rfl,rfl,rfl⟩)
 refine e7 17 hmx (by kernel_rfl) (by kernel_rfl) ?_
 refine lUn (au 0 ny (Sub.refl _)) ?_
 refine lUn (ak dx) ?_
 refine lUn (au 2 ty3 bo) ?_
 refine lUn (qInt rfl rfl rfl) (lUn (hMvA rfl) ?_)
 rcases bg h with⟨hc7,h⟩|⟨hc7,h⟩
 ·refine lSkF rfl aa hc7 (lSkF rfl aa hc7 (lSkF rfl aa hc7 (lSkF rfl aa hc7 (lSkU rfl aa (lSkU rfl aa (lSkU rfl aa (lSkU rfl aa (lSkF rfl aa hc7 (lUn (hPt rfl hc7 rfl) (lUn (ak fld64_4) ?_))))))))))
  refine lUn (au 2 ty3 fb) ?_
  rcases cn h with⟨m15,hm15,h⟩|⟨_,hx14,h⟩
  ·refine c6 [] (cb x1 true 182 x5.From _ hm15) ⟨aa,aa,aa,aa,trivial⟩ (fun q C' hq=> ?_) (fun v9 hv=> ?_)
   ·obtain⟨_,h9,_⟩:=hq;cases h9
   obtain⟨_,h9,rfl⟩:=hv
   cases h9
   obtain rfl:=osj h
   exact .inr ⟨_,rfl,_,rfl,rfl⟩
  refine c6 [] (cb x1 true 182 x5.From _ hx14) ⟨aa,aa,aa,aa,trivial⟩ (fun q C' hq=> ?_) (fun v9 hv=>by obtain⟨_,h9,_⟩:=hv;cases h9)
  obtain⟨_,h9,rfl,rfl⟩:=hq
  cases h9
  refine rCtx [Own.box b3 ap x1,Own.box b4 af x2,Own.box b6 af x5] ?_
  exact⟨h,atOk⟩
 refine lGd rfl aa hc7 (ak dx) ?_
 refine lGd rfl aa hc7 (au 2 ty3 bo) ?_
 refine lGd rfl aa hc7 (qInt rfl rfl rfl) (lGd rfl aa hc7 (hMvA rfl) ?_)
 rcases bg h with⟨hc8,h⟩|⟨hc8,h⟩
 ·refine lGd rfl aa hc8 (au 0 ny (Sub.refl _)) ?_
  refine lGd rfl aa hc8 (au 2 ty64 (Sub.refl _)) ?_
  obtain⟨x9,hx9,h⟩:=aj h
  refine lGd rfl aa hc8 (c5 (r9 x1 x5 _ hx9)) ?_
  refine lGd rfl aa hc8 (qNot rfl) (lGd rfl aa hc7 (hPt rfl hc8 rfl) (lUn (hPf rfl hc7 rfl) (lUn (ak fld64_4) ?_)))
  refine lUn (au 2 ty3 fb) ?_
  rcases cn h with⟨m11,hm11,h⟩|⟨_,hx10,h⟩
  ·refine c6 [] (cb x1 (!x9) 182 x5.From _ hm11) ⟨aa,aa,aa,aa,trivial⟩ (fun q C' hq=> ?_) (fun v9 hv=> ?_)
   ·obtain⟨_,h9,_⟩:=hq;cases h9
   obtain⟨_,h9,rfl⟩:=hv
   cases h9
   obtain rfl:=osj h
   exact .inr ⟨_,rfl,_,rfl,rfl⟩
  refine c6 [] (cb x1 (!x9) 182 x5.From _ hx10) ⟨aa,aa,aa,aa,trivial⟩ (fun q C' hq=> ?_) (fun v9 hv=>by obtain⟨_,h9,_⟩:=hv;cases h9)
  obtain⟨_,h9,rfl,rfl⟩:=hq
  cases h9
  refine rCtx [Own.box b3 ap x1,Own.box b4 af x2,Own.box b6 af x5] ?_
  exact⟨h,atOk⟩
 refine lSkT rfl aa hc8 (lSkT rfl aa hc8 (lSkT rfl aa hc8 (lSkT rfl aa hc8 (lGd rfl aa hc7 (hPf rfl hc8 rfl) (lUn (hPf rfl hc7 rfl) (lUn (ak fld64_4) ?_))))))
 refine lUn (au 2 ty3 fb) ?_
 rcases cn h with⟨m13,hm13,h⟩|⟨_,hx12,h⟩
 ·refine c6 [] (cb x1 false 182 x5.From _ hm13) ⟨aa,aa,aa,aa,trivial⟩ (fun q C' hq=> ?_) (fun v9 hv=> ?_)
  ·obtain⟨_,h9,_⟩:=hq;cases h9
  obtain⟨_,h9,rfl⟩:=hv
  cases h9
  obtain rfl:=osj h
  exact .inr ⟨_,rfl,_,rfl,rfl⟩
 refine c6 [] (cb x1 false 182 x5.From _ hx12) ⟨aa,aa,aa,aa,trivial⟩ (fun q C' hq=> ?_) (fun v9 hv=>by obtain⟨_,h9,_⟩:=hv;cases h9)
 obtain⟨_,h9,rfl,rfl⟩:=hq
 cases h9
 refine rCtx [Own.box b3 ap x1,Own.box b4 af x2,Own.box b6 af x5] ?_
 exact⟨h,atOk⟩
theorem types_checker_do_ok (x1:TypesChecker) (x2:ApiNode) (r:PX TypesWrong Unit) (h:types_checker_do x1 x2=some r):FnX Tryz.prog 145 [(ap).val x1,(af).val x2] [] (fun q C'=>∃a9,r= .ok a9/\q=br []/\C'=[]) (fun v=>∃m,r= .bad m/\v=gq m):=by
 refine gt (rs:=[]) Tryz.func145 rfl Tryz.ntmps145 ⟨by decide,Tryz.results145⟩ (by decide) (fun s0=> ?_)
 unfold types_checker_do at h
 refine W_rs ?_
 refine rBox (R:=ap) (a:=x1) rfl (fun b3=> ?_)
 refine rBox (R:=af) (a:=x2) rfl (fun b4=> ?_)
 refine W_rs (kUn (ak ei) ?_)
 refine kUn (au 1 ty53 bu) ?_
 obtain⟨x5,hx5,h⟩:=aj h
 refine kUn (dh Tryz.underlying53 Tryz.sizeOf64 hx5) ?_
 refine kUn (cl ty64) ?_
 refine bw al64 fun b6=>ax 2 rfl rfl (Upd.refl _) rfl Tryz.sizeOf64 ?_
 refine bj (fun e C=>my x1 x5=some r/\At [(2,ao b3 0),(4,ao b6 0)] [Own.box b3 ap x1,Own.box b4 af x2,Own.box b6 af x5] e C) ?_ ?_
 ·rintro e C ⟨h,hat1⟩
  refine W_at hat1 ?_
  unfold my at h
  refine W_r (kUn (au 0 ny (Sub.refl _)) ?_)
  refine kUn (au 2 ty64 (Sub.refl _)) ?_
  rcases cn h with⟨m13,hm13,h⟩|⟨_,hx12,h⟩
  ·refine c6 [] (en x1 x5 false _ hm13) ⟨aa,aa,aa,trivial⟩ (fun q C' hq=> ?_) (fun v9 hv=> ?_)
   ·obtain⟨_,h9,_⟩:=hq;cases h9
   obtain⟨_,h9,rfl⟩:=hv
   cases h9
   obtain rfl:=osj h
   exact .inr ⟨_,rfl,_,rfl,rfl⟩
  refine c6 [] (en x1 x5 false _ hx12) ⟨aa,aa,aa,trivial⟩ (fun q C' hq=> ?_) (fun v9 hv=>by obtain⟨_,h9,_⟩:=hv;cases h9)
  obtain⟨_,h9,rfl,rfl⟩:=hq
  cases h9
  refine rCtx [Own.box b3 ap x1,Own.box b4 af x2,Own.box b6 af x5] ?_
  obtain rfl:=osj h
  exact(.inl ⟨.inr rfl,_,Pick.of [] rfl,_,aa,_,rfl,rfl,rfl⟩)
 refine W_r (kUn (au 0 ny (Sub.refl _)) ?_)
 refine kUn (ak dx) ?_
 refine kUn (au 2 ty3 bo) ?_
 refine kIn rfl rfl rfl (kMv rfl ?_)
 rcases bg h with⟨hc7,h⟩|⟨hc7,h⟩
 ·refine kSkF rfl aa hc7 (kSkF rfl aa hc7 (kSkF rfl aa hc7 (kPt rfl hc7 rfl (kUn (ak fld64_4) ?_))))
  refine kUn (au 2 ty3 fb) ?_
  rcases cn h with⟨m11,hm11,h⟩|⟨_,hx10,h⟩
  ·refine c6 [] (cb x1 true 182 x5.From _ hm11) ⟨aa,aa,aa,aa,trivial⟩ (fun q C' hq=> ?_) (fun v9 hv=> ?_)
   ·obtain⟨_,h9,_⟩:=hq;cases h9
   obtain⟨_,h9,rfl⟩:=hv
   cases h9
   obtain rfl:=osj h
   exact .inr ⟨_,rfl,_,rfl,rfl⟩
  refine c6 [] (cb x1 true 182 x5.From _ hx10) ⟨aa,aa,aa,aa,trivial⟩ (fun q C' hq=> ?_) (fun v9 hv=>by obtain⟨_,h9,_⟩:=hv;cases h9)
  obtain⟨_,h9,rfl,rfl⟩:=hq
  cases h9
  refine rCtx [Own.box b3 ap x1,Own.box b4 af x2,Own.box b6 af x5] ?_
  exact⟨h,atOk⟩
 refine kGd rfl aa hc7 (ak dx) ?_
 refine kGd rfl aa hc7 (au 2 ty3 bo) ?_
 refine kGd rfl aa hc7 (qInt rfl rfl rfl) (kPf rfl hc7 rfl (kUn (ak fld64_4) ?_))
 refine kUn (au 2 ty3 fb) ?_
 rcases cn h with⟨m9,hm9,h⟩|⟨_,hx8,h⟩
 ·refine c6 [] (cb x1 (x5.Kind==20) 182 x5.From _ hm9) ⟨aa,aa,aa,aa,trivial⟩ (fun q C' hq=> ?_) (fun v9 hv=> ?_)
  ·obtain⟨_,h9,_⟩:=hq;cases h9
  obtain⟨_,h9,rfl⟩:=hv
  cases h9
  obtain rfl:=osj h
  exact .inr ⟨_,rfl,_,rfl,rfl⟩
 refine c6 [] (cb x1 (x5.Kind==20) 182 x5.From _ hx8) ⟨aa,aa,aa,aa,trivial⟩ (fun q C' hq=> ?_) (fun v9 hv=>by obtain⟨_,h9,_⟩:=hv;cases h9)
 obtain⟨_,h9,rfl,rfl⟩:=hq
 cases h9
 refine rCtx [Own.box b3 ap x1,Own.box b4 af x2,Own.box b6 af x5] ?_
 exact⟨h,atOk⟩
theorem types_checker_back_ok (x1:TypesChecker) (x2:ApiNode) (r:PX TypesWrong Unit) (h:types_checker_back x1 x2=some r):FnX Tryz.prog 147 [(ap).val x1,(af).val x2] [] (fun q C'=>∃a9,r= .ok a9/\q=br []/\C'=[]) (fun v=>∃m,r= .bad m/\v=gq m):=by
 refine gt (rs:=[]) Tryz.func147 rfl Tryz.ntmps147 ⟨by decide,Tryz.results147⟩ (by decide) (fun s0=> ?_)
 unfold types_checker_back at h
 refine W_rs ?_
 refine rBox (R:=ap) (a:=x1) rfl (fun b3=> ?_)
 refine rBox (R:=af) (a:=x2) rfl (fun b4=> ?_)
 refine ba (W_rs (kUn (ak ei) ?_))
 refine kUn (au 1 ty53 bu) ?_
 refine kUn (gy rfl Tryz.underlying53) ?_
 refine kIn rfl rfl rfl ?_
 refine a8 h rfl (fun _ h=> ?_) (fun _ h=> ?_)
 ·refine W_rs (kUn (au 0 ny (Sub.refl _)) ?_)
  refine kUn (ak fld138_1) ?_
  refine kUn (au 0 ty9 subTypesChecker_kind) ?_
  refine kSt rfl rfl rfl (kUn (ak fld64_4) ?_)
  refine kUn (au 1 ty3 fb) ?_
  rcases cn h with⟨m7,hm7,h⟩|⟨_,hx6,h⟩
  ·refine c6 [] (cb x1 (x1.kind==([118,111,105,100]:List UInt8)) 180 x2.From _ hm7) ⟨aa,aa,aa,aa,trivial⟩ (fun q C' hq=> ?_) (fun v9 hv=> ?_)
   ·obtain⟨_,h9,_⟩:=hq;cases h9
   obtain⟨_,h9,rfl⟩:=hv
   cases h9
   obtain rfl:=osj h
   exact .inr ⟨_,rfl,_,rfl,rfl⟩
  refine c6 [] (cb x1 (x1.kind==([118,111,105,100]:List UInt8)) 180 x2.From _ hx6) ⟨aa,aa,aa,aa,trivial⟩ (fun q C' hq=> ?_) (fun v9 hv=>by obtain⟨_,h9,_⟩:=hv;cases h9)
  obtain⟨_,h9,rfl,rfl⟩:=hq
  cases h9
  refine rCtx [Own.box b3 ap x1,Own.box b4 af x2] ?_
  obtain rfl:=osj h
  exact bh (.inl ⟨.inl rfl,_,Pick.of [] rfl,_,aa,_,rfl,rfl,rfl⟩)
 refine az ?_
 refine e7 7 hmx (by kernel_rfl) (by kernel_rfl) ?_
 refine lUn (au 0 ny (Sub.refl _)) ?_
 refine lUn (ak ei) ?_
 refine lUn (au 1 ty53 bu) ?_
 obtain⟨x8,hx8,h⟩:=aj h
 refine lUn (dh Tryz.underlying53 Tryz.sizeOf64 hx8) ?_
 refine lUn (cl ty64) ?_
 refine lUn (ak fld138_1) ?_
 refine lUn (au 0 ty9 subTypesChecker_kind) ?_
 rcases cn h with⟨m10,hm10,h⟩|⟨_,hx9,h⟩
 ·refine c6 [] (gx x1 x8 x1.kind _ hm10) ⟨aa,aa,aa,trivial⟩ (fun q C' hq=> ?_) (fun v9 hv=> ?_)
  ·obtain⟨_,h9,_⟩:=hq;cases h9
  obtain⟨_,h9,rfl⟩:=hv
  cases h9
  obtain rfl:=osj h
  exact .inr ⟨_,rfl,_,rfl,rfl⟩
 refine c6 [] (gx x1 x8 x1.kind _ hx9) ⟨aa,aa,aa,trivial⟩ (fun q C' hq=> ?_) (fun v9 hv=>by obtain⟨_,h9,_⟩:=hv;cases h9)
 obtain⟨_,h9,rfl,rfl⟩:=hq
 cases h9
 refine rCtx [Own.box b3 ap x1,Own.box b4 af x2] ?_
 obtain rfl:=osj h
 exact(.inl ⟨.inr rfl,_,Pick.of [] rfl,_,aa,_,rfl,rfl,rfl⟩)
theorem types_checker_show_ok (x1:TypesChecker) (x2:ApiNode) (r:PX TypesWrong Unit) (h:types_checker_show x1 x2=some r):FnX Tryz.prog 148 [(ap).val x1,(af).val x2] [] (fun q C'=>∃a9,r= .ok a9/\q=br []/\C'=[]) (fun v=>∃m,r= .bad m/\v=gq m):=by
 refine gt (rs:=[]) Tryz.func148 rfl Tryz.ntmps148 ⟨by decide,Tryz.results148⟩ (by decide) (fun s0=> ?_)
 unfold types_checker_show at h
 refine W_rs ?_
 refine rBox (R:=ap) (a:=x1) rfl (fun b3=> ?_)
 refine rBox (R:=af) (a:=x2) rfl (fun b4=> ?_)
 refine e7 6 hmx (by kernel_rfl) (by kernel_rfl) ?_
 refine lUn (au 0 ny (Sub.refl _)) ?_
 refine lUn (ak ei) ?_
 refine lUn (au 1 ty53 bu) ?_
 obtain⟨x5,hx5,h⟩:=aj h
 refine lUn (dh Tryz.underlying53 Tryz.sizeOf64 hx5) ?_
 refine lUn (cl ty64) ?_
 refine lUn (gh (R:=a7) (ls:=([([105,110,116]:List UInt8),([98,111,111,108,101,97,110]:List UInt8)]:List (List UInt8))) el22 (Nat.le_of_ble_eq_true rfl) ⟨rfl,rfl⟩ ⟨rfl,rfl,trivial⟩) ?_
 rcases cn h with⟨m7,hm7,h⟩|⟨_,hx6,h⟩
 ·refine c6 [] (k7 x1 x5 ([([105,110,116]:List UInt8),([98,111,111,108,101,97,110]:List UInt8)]:List (List UInt8)) _ hm7) ⟨aa,aa,aa,trivial⟩ (fun q C' hq=> ?_) (fun v9 hv=> ?_)
  ·obtain⟨_,h9,_⟩:=hq;cases h9
  obtain⟨_,h9,rfl⟩:=hv
  cases h9
  obtain rfl:=osj h
  exact .inr ⟨_,rfl,_,rfl,rfl⟩
 refine c6 [] (k7 x1 x5 ([([105,110,116]:List UInt8),([98,111,111,108,101,97,110]:List UInt8)]:List (List UInt8)) _ hx6) ⟨aa,aa,aa,trivial⟩ (fun q C' hq=> ?_) (fun v9 hv=>by obtain⟨_,h9,_⟩:=hv;cases h9)
 obtain⟨_,h9,rfl,rfl⟩:=hq
 cases h9
 refine rCtx [Own.box b3 ap x1,Own.box b4 af x2] ?_
 obtain rfl:=osj h
 exact(.inl ⟨.inr rfl,_,Pick.of [] rfl,_,aa,_,rfl,rfl,rfl⟩)
def f1 (R:bz):Prop:=(∀(x1:TypesChecker) (x2:ApiNode) (r:PX TypesWrong Unit),R.1 x1 x2=some r->FnX Tryz.prog 99 [(ap).val x1,(af).val x2] [] (fun q C'=>∃a9,r= .ok a9/\q=br []/\C'=[]) (fun v=>∃m,r= .bad m/\v=gq m))/\(∀(x1:TypesChecker) (x2:ApiNode) (r:PX TypesWrong Unit),R.2.1 x1 x2=some r->FnX Tryz.prog 146 [(ap).val x1,(af).val x2] [] (fun q C'=>∃a9,r= .ok a9/\q=br []/\C'=[]) (fun v=>∃m,r= .bad m/\v=gq m))/\(∀(x1:TypesChecker) (x2:ApiNode) (r:PX TypesWrong Unit),R.2.2 x1 x2=some r->FnX Tryz.prog 149 [(ap).val x1,(af).val x2] [] (fun q C'=>∃a9,r= .ok a9/\q=br []/\C'=[]) (fun v=>∃m,r= .bad m/\v=gq m))
theorem F_types_checker_statement_step (R:bz) (ih:f1 R) (x1:TypesChecker) (x2:ApiNode) (r:PX TypesWrong Unit) (h:lv R x1 x2=some r):FnX Tryz.prog 99 [(ap).val x1,(af).val x2] [] (fun q C'=>∃a9,r= .ok a9/\q=br []/\C'=[]) (fun v=>∃m,r= .bad m/\v=gq m):=by
 refine gt (rs:=[]) Tryz.func99 rfl Tryz.ntmps99 ⟨by decide,Tryz.results99⟩ (by decide) (fun s0=> ?_)
 unfold lv at h
 refine W_rs ?_
 refine rBox (R:=ap) (a:=x1) rfl (fun b3=> ?_)
 refine rBox (R:=af) (a:=x2) rfl (fun b4=> ?_)
 refine W_rs ?_
 refine rMakeMapG (Rp.int .i64) ql (fun b5=> ?_)
 refine ph (Rk:=Rp.int .i64) (R:=ql) (m:=([]:GMap Int (Option Nat))) (kx:=6) (v:=(some 143)) 2 (j4 Tryz.underlying3) Tryz.underlying179 ?_ (hu:=(Pr.is_le rfl))
 refine ph (Rk:=Rp.int .i64) (R:=ql) (m:=(gset 6 (some 143) ([]:GMap Int (Option Nat)))) (kx:=7) (v:=(some 144)) 2 (j4 Tryz.underlying3) Tryz.underlying179 ?_ (hu:=(Pr.is_le rfl))
 refine ph (Rk:=Rp.int .i64) (R:=ql) (m:=(gset 7 (some 144) (gset 6 (some 143) ([]:GMap Int (Option Nat))))) (kx:=8) (v:=(some 145)) 2 (j4 Tryz.underlying3) Tryz.underlying179 ?_ (hu:=(Pr.is_le rfl))
 refine ph (Rk:=Rp.int .i64) (R:=ql) (m:=(gset 8 (some 145) (gset 7 (some 144) (gset 6 (some 143) ([]:GMap Int (Option Nat)))))) (kx:=9) (v:=(some 146)) 2 (j4 Tryz.underlying3) Tryz.underlying179 ?_ (hu:=(Pr.is_le rfl))
 refine ph (Rk:=Rp.int .i64) (R:=ql) (m:=(gset 9 (some 146) (gset 8 (some 145) (gset 7 (some 144) (gset 6 (some 143) ([]:GMap Int (Option Nat))))))) (kx:=10) (v:=(some 146)) 2 (j4 Tryz.underlying3) Tryz.underlying179 ?_ (hu:=(Pr.is_le rfl))
 refine ph (Rk:=Rp.int .i64) (R:=ql) (m:=(gset 10 (some 146) (gset 9 (some 146) (gset 8 (some 145) (gset 7 (some 144) (gset 6 (some 143) ([]:GMap Int (Option Nat)))))))) (kx:=11) (v:=(some 147)) 2 (j4 Tryz.underlying3) Tryz.underlying179 ?_ (hu:=(Pr.is_le rfl))
 refine ph (Rk:=Rp.int .i64) (R:=ql) (m:=(gset 11 (some 147) (gset 10 (some 146) (gset 9 (some 146) (gset 8 (some 145) (gset 7 (some 144) (gset 6 (some 143) ([]:GMap Int (Option Nat))))))))) (kx:=12) (v:=(some 148)) 2 (j4 Tryz.underlying3) Tryz.underlying179 ?_ (hu:=(Pr.is_le rfl))
 refine ph (Rk:=Rp.int .i64) (R:=ql) (m:=(gset 12 (some 148) (gset 11 (some 147) (gset 10 (some 146) (gset 9 (some 146) (gset 8 (some 145) (gset 7 (some 144) (gset 6 (some 143) ([]:GMap Int (Option Nat)))))))))) (kx:=5) (v:=(some 149)) 2 (j4 Tryz.underlying3) Tryz.underlying179 ?_ (hu:=(Pr.is_le rfl))
 refine kUn (hMv (out:=lg b5) rfl) (kUn (ak dx) ?_)
 refine kUn (au 1 ty3 bo) ?_
 refine kUn (qMapGetG2 (Rk:=Rp.int .i64) (R:=ql) (m:=(gset 5 (some 149) (gset 12 (some 148) (gset 11 (some 147) (gset 10 (some 146) (gset 9 (some 146) (gset 8 (some 145) (gset 7 (some 144) (gset 6 (some 143) ([]:GMap Int (Option Nat))))))))))) (kx:=x2.Kind) (z:=none) 2 (j4 Tryz.underlying3) Tryz.underlying179 Tryz.zeroValue177 (fun _=>rfl)) ?_
 refine kUn (hMv (out:=br [(ql).val (gget x2.Kind none (gset 5 (some 149) (gset 12 (some 148) (gset 11 (some 147) (gset 10 (some 146) (gset 9 (some 146) (gset 8 (some 145) (gset 7 (some 144) (gset 6 (some 143) ([]:GMap Int (Option Nat))))))))))),Pr.bool (ghas x2.Kind (gset 5 (some 149) (gset 12 (some 148) (gset 11 (some 147) (gset 10 (some 146) (gset 9 (some 146) (gset 8 (some 145) (gset 7 (some 144) (gset 6 (some 143) ([]:GMap Int (Option Nat)))))))))))]) rfl) (kUn aw ?_)
 refine kUn aw ?_
 refine kUn (hAs (out:=(ql).val (gget x2.Kind none (gset 5 (some 149) (gset 12 (some 148) (gset 11 (some 147) (gset 10 (some 146) (gset 9 (some 146) (gset 8 (some 145) (gset 7 (some 144) (gset 6 (some 143) ([]:GMap Int (Option Nat)))))))))))) rfl) (kAs rfl (W_rs (kMv rfl ?_)))
 refine a8 h rfl (fun _ h=> ?_) (fun _ h=> ?_)
 ·refine W_r (kUn (hMv (out:=(ql).val (gget x2.Kind none (gset 5 (some 149) (gset 12 (some 148) (gset 11 (some 147) (gset 10 (some 146) (gset 9 (some 146) (gset 8 (some 145) (gset 7 (some 144) (gset 6 (some 143) ([]:GMap Int (Option Nat)))))))))))) rfl) (kUn (au 0 ny (Sub.refl _)) ?_))
  refine kUn (au 1 ty64 (Sub.refl _)) ?_
  rcases bg h with⟨hc7,h⟩|⟨hc7,h⟩
  ·refine rEnv 15 (q:=Pr.is (.func (.func 143) #[] #[])) (fid_le hc7) ?_
   rcases cn h with⟨m9,hm9,h⟩|⟨_,hx8,h⟩
   ·refine rCallXT [] (types_checker_local_ok x1 x2 _ hm9) ⟨aa,aa,trivial⟩ (fun q C' hq=> ?_) (fun v9 hv=> ?_)
    ·obtain⟨_,h9,_⟩:=hq;cases h9
    obtain⟨_,h9,rfl⟩:=hv
    cases h9
    obtain rfl:=osj h
    exact .inr ⟨_,rfl,_,rfl,rfl⟩
   refine rCallXT [] (types_checker_local_ok x1 x2 _ hx8) ⟨aa,aa,trivial⟩ (fun q C' hq=> ?_) (fun v9 hv=>by obtain⟨_,h9,_⟩:=hv;cases h9)
   obtain⟨_,h9,rfl,rfl⟩:=hq
   cases h9
   refine rCtx [Own.box b3 ap x1,Own.box b4 af x2,Own.gmap b5 (Rp.int .i64) ql (gset 5 (some 149) (gset 12 (some 148) (gset 11 (some 147) (gset 10 (some 146) (gset 9 (some 146) (gset 8 (some 145) (gset 7 (some 144) (gset 6 (some 143) ([]:GMap Int (Option Nat))))))))))] ?_
   obtain rfl:=osj h
   exact(.inl ⟨.inr rfl,_,Pick.of [] rfl,_,aa,_,rfl,rfl,rfl⟩)
  rcases bg h with⟨hc10,h⟩|⟨hc10,h⟩
  ·refine rEnv 15 (q:=Pr.is (.func (.func 144) #[] #[])) (fid_le hc10) ?_
   rcases cn h with⟨m12,hm12,h⟩|⟨_,hx11,h⟩
   ·refine rCallXT [] (types_checker_set_ok x1 x2 _ hm12) ⟨aa,aa,trivial⟩ (fun q C' hq=> ?_) (fun v9 hv=> ?_)
    ·obtain⟨_,h9,_⟩:=hq;cases h9
    obtain⟨_,h9,rfl⟩:=hv
    cases h9
    obtain rfl:=osj h
    exact .inr ⟨_,rfl,_,rfl,rfl⟩
   refine rCallXT [] (types_checker_set_ok x1 x2 _ hx11) ⟨aa,aa,trivial⟩ (fun q C' hq=> ?_) (fun v9 hv=>by obtain⟨_,h9,_⟩:=hv;cases h9)
   obtain⟨_,h9,rfl,rfl⟩:=hq
   cases h9
   refine rCtx [Own.box b3 ap x1,Own.box b4 af x2,Own.gmap b5 (Rp.int .i64) ql (gset 5 (some 149) (gset 12 (some 148) (gset 11 (some 147) (gset 10 (some 146) (gset 9 (some 146) (gset 8 (some 145) (gset 7 (some 144) (gset 6 (some 143) ([]:GMap Int (Option Nat))))))))))] ?_
   obtain rfl:=osj h
   exact(.inl ⟨.inr rfl,_,Pick.of [] rfl,_,aa,_,rfl,rfl,rfl⟩)
  rcases bg h with⟨hc13,h⟩|⟨hc13,h⟩
  ·refine rEnv 15 (q:=Pr.is (.func (.func 145) #[] #[])) (fid_le hc13) ?_
   rcases cn h with⟨m15,hm15,h⟩|⟨_,hx14,h⟩
   ·refine rCallXT [] (types_checker_do_ok x1 x2 _ hm15) ⟨aa,aa,trivial⟩ (fun q C' hq=> ?_) (fun v9 hv=> ?_)
    ·obtain⟨_,h9,_⟩:=hq;cases h9
    obtain⟨_,h9,rfl⟩:=hv
    cases h9
    obtain rfl:=osj h
    exact .inr ⟨_,rfl,_,rfl,rfl⟩
   refine rCallXT [] (types_checker_do_ok x1 x2 _ hx14) ⟨aa,aa,trivial⟩ (fun q C' hq=> ?_) (fun v9 hv=>by obtain⟨_,h9,_⟩:=hv;cases h9)
   obtain⟨_,h9,rfl,rfl⟩:=hq
   cases h9
   refine rCtx [Own.box b3 ap x1,Own.box b4 af x2,Own.gmap b5 (Rp.int .i64) ql (gset 5 (some 149) (gset 12 (some 148) (gset 11 (some 147) (gset 10 (some 146) (gset 9 (some 146) (gset 8 (some 145) (gset 7 (some 144) (gset 6 (some 143) ([]:GMap Int (Option Nat))))))))))] ?_
   obtain rfl:=osj h
   exact(.inl ⟨.inr rfl,_,Pick.of [] rfl,_,aa,_,rfl,rfl,rfl⟩)
  rcases bg h with⟨hc16,h⟩|⟨hc16,h⟩
  ·refine rEnv 15 (q:=Pr.is (.func (.func 146) #[] #[])) (fid_le hc16) ?_
   rcases cn h with⟨m18,hm18,h⟩|⟨_,hx17,h⟩
   ·refine rCallXT [] (ih.2.1 x1 x2 _ hm18) ⟨aa,aa,trivial⟩ (fun q C' hq=> ?_) (fun v9 hv=> ?_)
    ·obtain⟨_,h9,_⟩:=hq;cases h9
    obtain⟨_,h9,rfl⟩:=hv
    cases h9
    obtain rfl:=osj h
    exact .inr ⟨_,rfl,_,rfl,rfl⟩
   refine rCallXT [] (ih.2.1 x1 x2 _ hx17) ⟨aa,aa,trivial⟩ (fun q C' hq=> ?_) (fun v9 hv=>by obtain⟨_,h9,_⟩:=hv;cases h9)
   obtain⟨_,h9,rfl,rfl⟩:=hq
   cases h9
   refine rCtx [Own.box b3 ap x1,Own.box b4 af x2,Own.gmap b5 (Rp.int .i64) ql (gset 5 (some 149) (gset 12 (some 148) (gset 11 (some 147) (gset 10 (some 146) (gset 9 (some 146) (gset 8 (some 145) (gset 7 (some 144) (gset 6 (some 143) ([]:GMap Int (Option Nat))))))))))] ?_
   obtain rfl:=osj h
   exact(.inl ⟨.inr rfl,_,Pick.of [] rfl,_,aa,_,rfl,rfl,rfl⟩)
  rcases bg h with⟨hc19,h⟩|⟨hc19,h⟩
  ·refine rEnv 15 (q:=Pr.is (.func (.func 147) #[] #[])) (fid_le hc19) ?_
   rcases cn h with⟨m21,hm21,h⟩|⟨_,hx20,h⟩
   ·refine rCallXT [] (types_checker_back_ok x1 x2 _ hm21) ⟨aa,aa,trivial⟩ (fun q C' hq=> ?_) (fun v9 hv=> ?_)
    ·obtain⟨_,h9,_⟩:=hq;cases h9
    obtain⟨_,h9,rfl⟩:=hv
    cases h9
    obtain rfl:=osj h
    exact .inr ⟨_,rfl,_,rfl,rfl⟩
   refine rCallXT [] (types_checker_back_ok x1 x2 _ hx20) ⟨aa,aa,trivial⟩ (fun q C' hq=> ?_) (fun v9 hv=>by obtain⟨_,h9,_⟩:=hv;cases h9)
   obtain⟨_,h9,rfl,rfl⟩:=hq
   cases h9
   refine rCtx [Own.box b3 ap x1,Own.box b4 af x2,Own.gmap b5 (Rp.int .i64) ql (gset 5 (some 149) (gset 12 (some 148) (gset 11 (some 147) (gset 10 (some 146) (gset 9 (some 146) (gset 8 (some 145) (gset 7 (some 144) (gset 6 (some 143) ([]:GMap Int (Option Nat))))))))))] ?_
   obtain rfl:=osj h
   exact(.inl ⟨.inr rfl,_,Pick.of [] rfl,_,aa,_,rfl,rfl,rfl⟩)
  rcases bg h with⟨hc22,h⟩|⟨hc22,h⟩
  ·refine rEnv 15 (q:=Pr.is (.func (.func 148) #[] #[])) (fid_le hc22) ?_
   rcases cn h with⟨m24,hm24,h⟩|⟨_,hx23,h⟩
   ·refine rCallXT [] (types_checker_show_ok x1 x2 _ hm24) ⟨aa,aa,trivial⟩ (fun q C' hq=> ?_) (fun v9 hv=> ?_)
    ·obtain⟨_,h9,_⟩:=hq;cases h9
    obtain⟨_,h9,rfl⟩:=hv
    cases h9
    obtain rfl:=osj h
    exact .inr ⟨_,rfl,_,rfl,rfl⟩
   refine rCallXT [] (types_checker_show_ok x1 x2 _ hx23) ⟨aa,aa,trivial⟩ (fun q C' hq=> ?_) (fun v9 hv=>by obtain⟨_,h9,_⟩:=hv;cases h9)
   obtain⟨_,h9,rfl,rfl⟩:=hq
   cases h9
   refine rCtx [Own.box b3 ap x1,Own.box b4 af x2,Own.gmap b5 (Rp.int .i64) ql (gset 5 (some 149) (gset 12 (some 148) (gset 11 (some 147) (gset 10 (some 146) (gset 9 (some 146) (gset 8 (some 145) (gset 7 (some 144) (gset 6 (some 143) ([]:GMap Int (Option Nat))))))))))] ?_
   obtain rfl:=osj h
   exact(.inl ⟨.inr rfl,_,Pick.of [] rfl,_,aa,_,rfl,rfl,rfl⟩)
  rcases bg h with⟨hc25,h⟩|⟨hc25,h⟩
  ·refine rEnv 15 (q:=Pr.is (.func (.func 149) #[] #[])) (fid_le hc25) ?_
   rcases cn h with⟨m27,hm27,h⟩|⟨_,hx26,h⟩
   ·refine rCallXT [] (ih.2.2 x1 x2 _ hm27) ⟨aa,aa,trivial⟩ (fun q C' hq=> ?_) (fun v9 hv=> ?_)
    ·obtain⟨_,h9,_⟩:=hq;cases h9
    obtain⟨_,h9,rfl⟩:=hv
    cases h9
    obtain rfl:=osj h
    exact .inr ⟨_,rfl,_,rfl,rfl⟩
   refine rCallXT [] (ih.2.2 x1 x2 _ hx26) ⟨aa,aa,trivial⟩ (fun q C' hq=> ?_) (fun v9 hv=>by obtain⟨_,h9,_⟩:=hv;cases h9)
   obtain⟨_,h9,rfl,rfl⟩:=hq
   cases h9
   refine rCtx [Own.box b3 ap x1,Own.box b4 af x2,Own.gmap b5 (Rp.int .i64) ql (gset 5 (some 149) (gset 12 (some 148) (gset 11 (some 147) (gset 10 (some 146) (gset 9 (some 146) (gset 8 (some 145) (gset 7 (some 144) (gset 6 (some 143) ([]:GMap Int (Option Nat))))))))))] ?_
   obtain rfl:=osj h
   exact(.inl ⟨.inr rfl,_,Pick.of [] rfl,_,aa,_,rfl,rfl,rfl⟩)
  cases h
 refine az ?_
 obtain rfl:=osj h
 exact(.inl ⟨.inr rfl,_,Pick.of [] rfl,_,aa,_,rfl,rfl,rfl⟩)
theorem F_types_checker_guarded_step (R:bz) (ih:f1 R) (x1:TypesChecker) (x2:ApiNode) (r:PX TypesWrong Unit) (h:nm R x1 x2=some r):FnX Tryz.prog 146 [(ap).val x1,(af).val x2] [] (fun q C'=>∃a9,r= .ok a9/\q=br []/\C'=[]) (fun v=>∃m,r= .bad m/\v=gq m):=by
 refine gt (rs:=[]) Tryz.func146 rfl Tryz.ntmps146 ⟨by decide,Tryz.results146⟩ (by decide) (fun s0=> ?_)
 unfold nm at h
 refine W_rs ?_
 refine rBox (R:=ap) (a:=x1) rfl (fun b3=> ?_)
 refine rBox (R:=af) (a:=x2) rfl (fun b4=> ?_)
 refine bj (fun e C=>ms R x2 x1=some r/\At [(2,ao b3 0),(3,ao b4 0)] [Own.box b3 ap x1,Own.box b4 af x2] e C) ?_ ?_
 ·rintro e C ⟨h,hat3⟩
  refine W_at hat3 ?_
  unfold ms at h
  refine W_rs (kUn (ak ei) ?_)
  refine kUn (au 1 ty53 bu) ?_
  obtain⟨x8,hx8,h⟩:=aj h
  refine kUn (qLSubL Tryz.underlying53 Tryz.sizeOf64 hx8) ?_
  refine kUn (gy rfl Tryz.underlying53) ?_
  refine kMv rfl (a5 ?_)
  obtain⟨z2l,hz2,h⟩:=aj h
  obtain⟨n2,hN2⟩:=bt hz2
  refine cv 0 (fun e C=>mr R=some r/\At [] [Own.box b3 ap x1,Own.box b4 af x2] e C) ?_ ?_
  ·rintro e C ⟨h,hat1⟩
   unfold mr at h
   obtain rfl:=osj h
   exact(.inl ⟨.inr rfl,_,(Pick.trans hat1.2 (Pick.of [] rfl)),_,aa,_,rfl,rfl,rfl⟩)
  refine da (fun m e C=>∃(x9:Int),dn (fun s=>jg R x8 x1 s) m x9=some z2l/\At [(2,ao b3 0),(15,ar af x8),(16,Pr.i64 (x8.length:Int)),(17,Pr.i64 x9)] [Own.box b3 ap x1,Own.box b4 af x2] e C) n2 ⟨0,hN2,⟨⟨aa,aa,aa,aa,trivial⟩,Pick.refl _⟩⟩ ?_
  rintro m e C ⟨x9,hN2,hatl2⟩
  refine W_at hatl2 ?_
  obtain⟨m2,w2l,rfl,h2l,hn2,ho2⟩:=bk hN2
  replace h2l:jg R x8 x1 x9=some w2l:=h2l
  unfold jg at h2l
  refine W_rs (kIn rfl rfl rfl (ba ?_))
  refine a8 h2l rfl (fun _ h2l=> ?_) (fun _ h2l=> ?_)
  ·refine az (ba (a5 (W_rs ?_)))
   obtain⟨x12,hx12,h2l⟩:=aj h2l
   refine kUn (dh Tryz.underlying53 Tryz.sizeOf64 hx12) ?_
   refine kUn (cl ty64) ?_
   refine bw al64 fun b13=>ax 2 rfl rfl (Upd.refl _) rfl Tryz.sizeOf64 (W_r (kUn (au 0 ny (Sub.refl _)) ?_))
   refine kUn (au 2 ty64 (Sub.refl _)) ?_
   rcases cn h2l with⟨m15,hm15,h2l⟩|⟨_,hx14,h2l⟩
   ·refine c6 [] (ih.1 x1 x12 _ hm15) ⟨aa,aa,trivial⟩ (fun q C' hq=> ?_) (fun v9 hv=> ?_)
    ·obtain⟨_,h9,_⟩:=hq;cases h9
    obtain⟨_,h9,rfl⟩:=hv
    cases h9
    obtain rfl:=ho2 _ (Option.some.inj h2l).symm
    replace h:some (.bad m15)=some r:=h
    obtain rfl:=osj h
    exact .inr ⟨_,rfl,_,rfl,rfl⟩
   refine c6 [] (ih.1 x1 x12 _ hx14) ⟨aa,aa,trivial⟩ (fun q C' hq=> ?_) (fun v9 hv=>by obtain⟨_,h9,_⟩:=hv;cases h9)
   obtain⟨_,h9,rfl,rfl⟩:=hq
   cases h9
   refine rCtx [Own.box b3 ap x1,Own.box b4 af x2,Own.box b13 af x12] ?_
   refine W_r (kIn rfl rfl rfl (kMv rfl ?_))
   exact⟨m2,Nat.lt_succ_self _,w64 (x9+1),hn2 _ (Option.some.inj h2l).symm,⟨⟨aa,aa,aa,aa,trivial⟩,Pick.of [0,1] rfl⟩⟩
  refine db ?_
  obtain rfl:=ho2 _ (Option.some.inj h2l).symm
  exact⟨h,atOk⟩
 refine e7 6 hmx (by kernel_rfl) (by kernel_rfl) ?_
 refine lUn (au 0 ny (Sub.refl _)) ?_
 refine lUn (ak ei) ?_
 refine lUn (au 1 ty53 bu) ?_
 obtain⟨x5,hx5,h⟩:=aj h
 refine lUn (dh Tryz.underlying53 Tryz.sizeOf64 hx5) ?_
 refine lUn (cl ty64) ?_
 refine lUn (cr (R:=a7) (a:=([98,111,111,108,101,97,110]:List UInt8)) el22 (Nat.le_of_ble_eq_true rfl)) ?_
 rcases cn h with⟨m7,hm7,h⟩|⟨_,hx6,h⟩
 ·refine c6 [] (k7 x1 x5 ([([98,111,111,108,101,97,110]:List UInt8)]:List (List UInt8)) _ hm7) ⟨aa,aa,aa,trivial⟩ (fun q C' hq=> ?_) (fun v9 hv=> ?_)
  ·obtain⟨_,h9,_⟩:=hq;cases h9
  obtain⟨_,h9,rfl⟩:=hv
  cases h9
  obtain rfl:=osj h
  exact .inr ⟨_,rfl,_,rfl,rfl⟩
 refine c6 [] (k7 x1 x5 ([([98,111,111,108,101,97,110]:List UInt8)]:List (List UInt8)) _ hx6) ⟨aa,aa,aa,trivial⟩ (fun q C' hq=> ?_) (fun v9 hv=>by obtain⟨_,h9,_⟩:=hv;cases h9)
 obtain⟨_,h9,rfl,rfl⟩:=hq
 cases h9
 refine rCtx [Own.box b3 ap x1,Own.box b4 af x2] ?_
 exact⟨h,atOk⟩
theorem F_types_checker_block_step (R:bz) (ih:f1 R) (x1:TypesChecker) (x2:ApiNode) (r:PX TypesWrong Unit) (h:pf R x1 x2=some r):FnX Tryz.prog 149 [(ap).val x1,(af).val x2] [] (fun q C'=>∃a9,r= .ok a9/\q=br []/\C'=[]) (fun v=>∃m,r= .bad m/\v=gq m):=by
 refine gt (rs:=[]) Tryz.func149 rfl Tryz.ntmps149 ⟨by decide,Tryz.results149⟩ (by decide) (fun s0=> ?_)
 unfold pf at h
 refine W_rs ?_
 refine rBox (R:=ap) (a:=x1) rfl (fun b3=> ?_)
 refine rBox (R:=af) (a:=x2) rfl (fun b4=> ?_)
 refine W_rs (kUn (ak ei) ?_)
 refine kUn (au 1 ty53 bu) ?_
 refine kUn (gy rfl Tryz.underlying53) ?_
 refine kMv rfl (a5 ?_)
 obtain⟨z2l,hz2,h⟩:=aj h
 obtain⟨n2,hN2⟩:=bt hz2
 refine cv 0 (fun e C=>∃(x6:TypesChecker),nz R x6=some r/\At [] [Own.box b3 ap x6,Own.box b4 af x2] e C) ?_ ?_
 ·rintro e C ⟨x6,h,hat1⟩
  unfold nz at h
  obtain rfl:=osj h
  exact(.inl ⟨.inr rfl,_,(Pick.trans hat1.2 (Pick.of [] rfl)),_,aa,_,rfl,rfl,rfl⟩)
 refine da (fun m e C=>∃(x5:Int),∃(x6:TypesChecker),dn (fun s=>ke R x2 s.1 s.2) m (x5,x6)=some z2l/\At [(2,ao b3 0),(7,ar af x2.Kids),(8,Pr.i64 (x2.Kids.length:Int)),(9,Pr.i64 x5)] [Own.box b3 ap x6,Own.box b4 af x2] e C) n2 ⟨0,x1,hN2,⟨⟨aa,aa,aa,aa,trivial⟩,Pick.refl _⟩⟩ ?_
 rintro m e C ⟨x5,x6,hN2,hatl2⟩
 refine W_at hatl2 ?_
 obtain⟨m2,w2l,rfl,h2l,hn2,ho2⟩:=bk hN2
 replace h2l:ke R x2 x5 x6=some w2l:=h2l
 unfold ke at h2l
 refine W_rs (kIn rfl rfl rfl (ba ?_))
 refine a8 h2l rfl (fun _ h2l=> ?_) (fun _ h2l=> ?_)
 ·refine az ?_
  refine bj (fun e C=>∃(x16:TypesChecker),∃(x10:ApiNode),∃(b11:Nat),kf R x5 x16 x10=some w2l/\At [(2,ao b3 0),(7,ar af x2.Kids),(8,Pr.i64 (x2.Kids.length:Int)),(9,Pr.i64 x5)] [Own.box b3 ap x16,Own.box b4 af x2,Own.box b11 af x10] e C) ?_ ?_
  ·rintro e C ⟨x16,x10,b11,h2l,hat3⟩
   refine W_at hat3 ?_
   unfold kf at h2l
   refine W_r (kIn rfl rfl rfl (kMv rfl ?_))
   exact⟨m2,Nat.lt_succ_self _,w64 (x5+1),x16,hn2 _ (Option.some.inj h2l).symm,⟨⟨aa,aa,aa,aa,trivial⟩,Pick.of [0,1] rfl⟩⟩
  refine a5 (W_rs ?_)
  obtain⟨x10,hx10,h2l⟩:=aj h2l
  refine kUn (dh Tryz.underlying53 Tryz.sizeOf64 hx10) ?_
  refine kUn (cl ty64) ?_
  refine bw al64 fun b11=>ax 2 rfl rfl (Upd.refl _) rfl Tryz.sizeOf64 (W_rs (kUn (au 0 ny (Sub.refl _)) ?_))
  refine kUn (au 2 ty64 (Sub.refl _)) ?_
  rcases cn h2l with⟨m15,hm15,h2l⟩|⟨_,hx12,h2l⟩
  ·refine c6 [] (ih.1 x6 x10 _ hm15) ⟨aa,aa,trivial⟩ (fun q C' hq=> ?_) (fun v9 hv=> ?_)
   ·obtain⟨_,h9,_⟩:=hq;cases h9
   obtain⟨_,h9,rfl⟩:=hv
   cases h9
   obtain rfl:=ho2 _ (Option.some.inj h2l).symm
   replace h:some (.bad m15)=some r:=h
   obtain rfl:=osj h
   exact .inr ⟨_,rfl,_,rfl,rfl⟩
  refine c6 [] (ih.1 x6 x10 _ hx12) ⟨aa,aa,trivial⟩ (fun q C' hq=> ?_) (fun v9 hv=>by obtain⟨_,h9,_⟩:=hv;cases h9)
  obtain⟨_,h9,rfl,rfl⟩:=hq
  cases h9
  refine rCtx [Own.box b3 ap x6,Own.box b4 af x2,Own.box b11 af x10] ?_
  refine W_rs (kUn (ak dx) ?_)
  refine kUn (au 2 ty3 bo) ?_
  refine kIn rfl rfl rfl ?_
  refine a8 h2l rfl (fun _ h2l=> ?_) (fun _ h2l=> ?_)
  ·refine W_r (kUn (au 0 ny (Sub.refl _)) ?_)
   refine kUn (au 2 ty64 (Sub.refl _)) ?_
   refine ct h2l (types_checker_with_ok x6 x10) rfl fun x14 _ h2l=>ax 0 rfl rfl (Upd.refl _) rfl Tryz.sizeOf138 ?_
   exact⟨x14,x10,b11,h2l,atOk⟩
  refine az ?_
  exact⟨x6,x10,b11,h2l,atOk⟩
 refine db ?_
 obtain rfl:=ho2 _ (Option.some.inj h2l).symm
 exact⟨x6,h,atOk⟩
theorem rec_types_checker_statement_ok :∀n,f1 (ep n):=by
 intro n
 induction n with
 |zero=>exact⟨(fun x1 x2 r h=>nomatch (show none=some r from h)),(fun x1 x2 r h=>nomatch (show none=some r from h)),(fun x1 x2 r h=>nomatch (show none=some r from h))⟩
 |succ n ih=>exact⟨(fun x1 x2 r h=>F_types_checker_statement_step (ep n) ih x1 x2 r h),(fun x1 x2 r h=>F_types_checker_guarded_step (ep n) ih x1 x2 r h),(fun x1 x2 r h=>F_types_checker_block_step (ep n) ih x1 x2 r h)⟩
theorem pv (x1:TypesChecker) (x2:ApiNode) (r:PX TypesWrong Unit) (h:types_checker_statement x1 x2=some r):FnX Tryz.prog 99 [(ap).val x1,(af).val x2] [] (fun q C'=>∃a9,r= .ok a9/\q=br []/\C'=[]) (fun v=>∃m,r= .bad m/\v=gq m):=(rec_types_checker_statement_ok 1048576).1 x1 x2 r h
end Go.Proofs.YtcndghapmoaidaaGreatDoor
