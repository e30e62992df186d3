/- The code comes to what these functions say (printed by wip/gen/gen.py). -/
import Derived.Test.YtcndghapmoaidaaGreatDoorZX
import Derived.Test.YtcndghapmoaidaaGreatDoorZP
import Derived.Test.YtcndghapmoaidaaGreatDoorZT
set_option linter.unusedSimpArgs false
set_option linter.unusedVariables false
set_option linter.unusedSectionVars false
set_option linter.unusedSectionVars false
set_option maxRecDepth 100000
set_option maxHeartbeats 4000000
namespace Go.Proofs.YtcndghapmoaidaaGreatDoor
open Go Go.Cn Tryz
attribute [local irreducible] g0 ap
theorem ath (x1:List Int) (r:Int) (h:ag7 x1=some r):Fp 40 [ap (Rp.int .i64) x1] (P6 r):=by
 refine dv (rs:=[2]) func40 rfl ntmps40 ⟨by decide,results40⟩ dcd (fun s0=>?_)
 unfold ag7 at h
 refine W_rs (kAs rfl (W_rs (kAs rfl (a7 (W_rs (kMvL rfl (kUn (mg rfl underlying126) ?_)))))))
 refine kMv rfl (a5 ?_)
 obtain⟨z2l,hz2,h⟩:=ah h
 obtain⟨n2,hN2⟩:=bv hz2
 refine di 0 (fun e C=>ad6=some r/\At [(3,P6 0)] [] e C) ?_ ?_
 ·rintro e C ⟨h,a⟩
  refine W_at a ?_
  unfold ad6 at h
  refine W_rs (kMv rfl (kAs rfl ?_))
  obtain rfl:=osj h
  exact bg ⟨rfl,aa⟩
 refine ek (fun m e C=>∃x2,fq (fun s=>jc x1 s) m x2=some z2l/\At [(3,P6 0),(6,ap (Rp.int .i64) x1),(7,P6 (x1.length:Int)),(8,P6 x2)] [] e C) n2 ⟨0,hN2,⟨⟨aa,aa,aa,aa,tv⟩,A9.refl _⟩⟩ ?_
 rintro m e C ⟨x2,hN2,a⟩
 refine W_at a ?_
 obtain⟨m2,w2l,rfl,h2l,hn2,ho2⟩:=bm hN2
 replace h2l:jc x1 x2=some w2l:=h2l
 unfold jc at h2l
 refine W_rs (kIn rfl rfl rfl (a7 ?_))
 refine a6 h2l rfl (fun _ h2l=>?_) (fun _ h2l=>?_)
 ·refine ay (a7 (a5 (W_rs ?_)))
  obtain⟨x5,k,h2l⟩:=ah h2l
  refine kUn (fo underlying126 sizeOf3 k) ?_
  refine kUn (cz ty3) ?_
  refine kAs rfl (W_rs (kMv rfl (kMv rfl (kIn rfl rfl rfl ?_))))
  refine a6 h2l rfl (fun _ h2l=>?_) (fun _ h2l=>?_)
  ·refine W_rs (kMv rfl (kAs rfl ?_))
   obtain rfl:=ho2 _ (ojs h2l)
   replace h:some x5=some r:=h
   obtain rfl:=osj h
   exact bg ⟨rfl,aa⟩
  refine ay (W_r (kIn rfl rfl rfl (kMv rfl ?_)))
  exact⟨m2,lsu,w64 (x2+1),hn2 _ (ojs h2l),atOk⟩
 refine ej ?_
 obtain rfl:=ho2 _ (ojs h2l)
 exact⟨h,atOk⟩
theorem ah5 (x1:Int) (r:Bool) (h:zr x1=some r):Fp 79 [P6 x1] (Pb r):=by
 refine dv (rs:=[2]) func79 rfl ntmps79 ⟨by decide,results79⟩ dcd (fun s0=>?_)
 unfold zr at h
 refine W_rs (kAs rfl (W_rs (kMv rfl (kMv rfl (kIn rfl rfl rfl (kAs rfl ?_))))))
 obtain rfl:=osj h
 exact bg ⟨rfl,aa⟩
theorem afq (x1 x2 r:Int) (h:sa x1 x2=some r):Fp 41 [P6 x1,P6 x2] (P6 r):=by
 refine dv (rs:=[4]) func41 rfl ntmps41 ⟨by decide,results41⟩ dcd (fun s0=>?_)
 unfold sa at h
 refine W_rs (kAs rfl (W_rs (kMv rfl (c8 h (ah5 x1) rfl fun x3 _ h=>kAs rfl (W_rs (kMv rfl (c8 h (ah5 x2) rfl fun x4 _ h=>kAs rfl (a7 (W_rs ?_)))))))))
 refine kMv rfl ?_
 refine a6 h rfl (fun _ h=>?_) (fun _ h=>?_)
 ·refine a7 (W_rs (kMv rfl ?_))
  refine a6 h rfl (fun _ h=>?_) (fun _ h=>?_)
  ·refine W_rs (kAs rfl ?_)
   obtain rfl:=osj h
   exact bg ⟨rfl,aa⟩
  refine ay (W_rs (kAs rfl ?_))
  obtain rfl:=osj h
  exact bg ⟨rfl,aa⟩
 refine ay (a7 (W_rs (kMv rfl ?_)))
 refine a6 h rfl (fun _ h=>?_) (fun _ h=>?_)
 ·refine W_rs (kAs rfl ?_)
  obtain rfl:=osj h
  exact bg ⟨rfl,aa⟩
 refine ay (a7 (W_rs (kMv rfl (kMv rfl (kIn rfl rfl rfl ?_)))))
 refine a6 h rfl (fun _ h=>?_) (fun _ h=>?_)
 ·refine W_rs (kAs rfl ?_)
  obtain rfl:=osj h
  exact bg ⟨rfl,aa⟩
 refine ay (a7 (W_rs (kMv rfl (kMv rfl (kIn rfl rfl rfl ?_)))))
 refine a6 h rfl (fun _ h=>?_) (fun _ h=>?_)
 ·refine W_rs (kAs rfl ?_)
  obtain rfl:=osj h
  exact bg ⟨rfl,aa⟩
 refine ay (W_rs (kAs rfl ?_))
 obtain rfl:=osj h
 exact bg ⟨rfl,aa⟩
theorem aqw (x1 x2:B8) (r:Int) (h:aa2 x1 x2=some r):Fp 39 [(ao).val x1,(ao).val x2] (P6 r):=by
 refine dv (rs:=[4]) func39 rfl ntmps39 ⟨by decide,results39⟩ dcd (fun s0=>?_)
 unfold aa2 at h
 refine W_rs ?_
 refine rBox (R:=ao) (a:=x1) rfl (fun b3=>?_)
 refine rBox (R:=ao) (a:=x2) rfl (fun b4=>?_)
 refine kAs rfl ?_
 refine bo (fun e C=>∃x7,ach x7=some r/\At [(4,P6 x7)] [D9 b3 ao x1,D9 b4 ao x2] e C) ?_ ?_
 ·rintro e C ⟨x7,h,a⟩
  refine W_at a ?_
  unfold ach at h
  obtain rfl:=osj h
  exact bg ⟨rfl,aa⟩
 refine i8 13 hmx kr kr ?_
 refine lUn (ak azf) ?_
 refine lUn (au 0 ty3 aj2) ?_
 refine lUn (ak azf) ?_
 refine lUn (au 1 ty3 aj2) ?_
 obtain⟨x5,k,h⟩:=ah h
 refine lUn (dz (afq x1.File x2.File _ k)) ?_
 refine lUn (ak aze) ?_
 refine lUn (au 0 ty3 amo) ?_
 refine lUn (ak aze) ?_
 refine lUn (au 1 ty3 amo) ?_
 obtain⟨x6,k,h⟩:=ah h
 refine lUn (dz (afq x1.At x2.At _ k)) ?_
 refine lUn (ny (R:=Rp.int .i64) (ls:=([x5,x6]:List Int)) el126 nb ⟨rfl,rfl⟩ ⟨rfl,rfl,tv⟩) ?_
 obtain⟨x7,k,h⟩:=ah h
 refine lUn (dz (ath ([x5,x6]:List Int) _ k)) ?_
 refine lUn (hAsA rfl) ?_
 exact⟨x7,h,atOk⟩
theorem apn (x1:Int) (r:Bt) (h:acq x1=some r):Fp 137 [P6 x1] (Pr.str r):=by
 refine dv (rs:=[2]) func137 rfl ntmps137 ⟨by decide,results137⟩ dcd (fun s0=>?_)
 unfold acq at h
 refine W_rs (kAs rfl (W_rs (kMv rfl (kUn (qMax (a:=x1) (b:=0)) ?_))))
 refine kAs rfl (W_rs (kAs rfl (a5 ?_)))
 obtain⟨n1,hN1⟩:=bv h
 refine ek (fun m e C=>∃x2,∃x3,fq (fun s=>o9 s.1 s.2) m (x2,x3)=some r/\At [(0,P6 x2),(3,Pr.str x3)] [] e C) n1 ⟨(if 0>x1 then 0 else x1),[],hN1,⟨⟨aa,aa,tv⟩,A9.refl _⟩⟩ ?_
 rintro m e C ⟨x2,x3,hN1,a⟩
 refine W_at a ?_
 obtain⟨m1,w1l,rfl,h1l,hn1,ho1⟩:=bm hN1
 replace h1l:o9 x2 x3=some w1l:=h1l
 unfold o9 at h1l
 refine a5 (W_rs (kMv rfl (kUn (qRem (b:=10) dcd) ?_)))
 refine kIn rfl rfl rfl (kUn (an1 underlying3 underlying5) ?_)
 refine kUn (cq (R:=Rp.int .u8) (a:=IntKind.wrap .u8 (w64 (48+(Int.tmod x2 10)))) el195 nb) ?_
 refine kUn (az1 (l:=([IntKind.wrap .u8 (w64 (48+(Int.tmod x2 10)))]:List Int)) underlying195 underlying9 underlying5) ?_
 refine kMv rfl ?_
 obtain⟨x6,k,h1l⟩:=ah h1l
 refine kUn (alx k) ?_
 refine kAs rfl (W_rs (kMv rfl (kUn (qDiv (b:=10) dcd) ?_)))
 refine kAs rfl (W_rs (kMv rfl (kIn rfl rfl rfl ?_)))
 refine a6 h1l rfl (fun _ h1l=>?_) (fun _ h1l=>?_)
 ·refine W_rs (kMv rfl (kAs rfl ?_))
  have h:some x6=some r:=congrArg some (ho1 _ (ojs h1l))
  obtain rfl:=osj h
  exact bg ⟨rfl,aa⟩
 refine ay ?_
 exact⟨m1,lsu,w64 (Int.tdiv x2 10),x6,hn1 _ (ojs h1l),atOk⟩
theorem aqd (x1:Bt) (x2:Int) (r:Bt) (h:aaz x1 x2=some r):Fp 83 [Pr.str x1,P6 x2] (Pr.str r):=by
 refine dv (rs:=[4]) func83 rfl ntmps83 ⟨by decide,results83⟩ dcd (fun s0=>?_)
 unfold aaz at h
 refine W_rs (kAs rfl (W_rs (kMv rfl ?_)))
 obtain⟨x3,k,h⟩:=ah h
 refine kUn (alx k) ?_
 refine kMv rfl (c8 h (apn x2) rfl fun x4 _ h=>?_)
 obtain⟨x5,k,h⟩:=ah h
 refine kUn (alx k) ?_
 refine kAs rfl ?_
 obtain rfl:=osj h
 exact bg ⟨rfl,aa⟩
theorem apo (x1 x2:Bt) (r:Bt) (h:aiw x1 x2=some r):Fp 84 [Pr.str x1,Pr.str x2] (Pr.str r):=by
 refine dv (rs:=[4]) func84 rfl ntmps84 ⟨by decide,results84⟩ dcd (fun s0=>?_)
 unfold aiw at h
 refine W_rs (kAs rfl (W_rs (kMv rfl ?_)))
 obtain⟨x3,k,h⟩:=ah h
 refine kUn (alx k) ?_
 refine kMv rfl ?_
 obtain⟨x4,k,h⟩:=ah h
 refine kUn (alx k) ?_
 obtain⟨x5,k,h⟩:=ah h
 refine kUn (alx k) ?_
 refine kAs rfl ?_
 obtain rfl:=osj h
 exact bg ⟨rfl,aa⟩
theorem aqf (x1 x2:Bt) (r:Bt) (h:akf x1 x2=some r):Fp 85 [Pr.str x1,Pr.str x2] (Pr.str r):=by
 refine dv (rs:=[4]) func85 rfl ntmps85 ⟨by decide,results85⟩ dcd (fun s0=>?_)
 unfold akf at h
 refine W_rs (kAs rfl (W_rs (kMv rfl ?_)))
 obtain⟨x3,k,h⟩:=ah h
 refine kUn (alx k) ?_
 refine kMv rfl ?_
 obtain⟨x4,k,h⟩:=ah h
 refine kUn (alx k) ?_
 refine kAs rfl ?_
 obtain rfl:=osj h
 exact bg ⟨rfl,aa⟩
def afo (R:jr):Prop:=(∀(x1:B6) (x2:Int) (r:(List B6)),R x1 x2=some r->Fp 86 [(af).val x1,P6 x2] (ap af r))
theorem ang (R:jr) (ih:afo R) (x1:B6) (x2:Int) (r:(List B6)) (h:akn R x1 x2=some r):Fp 86 [(af).val x1,P6 x2] (ap af r):=by
 refine dv (rs:=[4]) func86 rfl ntmps86 ⟨by decide,results86⟩ dcd (fun s0=>?_)
 unfold akn at h
 refine W_rs ?_
 refine rBox (R:=af) (a:=x1) rfl (fun b3=>?_)
 let p1:=D9 b3 af x1
 refine kAs rfl (W_rs (kAs rfl ?_))
 refine ah6 [5] af 64 (fun v4=>?_) ⟨rfl,tv⟩
 refine bo (fun e C=>∃x11,∃v10,aff R x1 x2 x11=some r/\At [(1,P6 x2),(2,Pr.pt b3 0),(5,Pi v10)] [p1,E6 v10 af x11 64] e C) ?_ ?_
 ·rintro e C ⟨x11,v10,h,a⟩
  refine W_at a ?_
  unfold aff at h
  refine a7 (W_rs (kAs rfl (a5 ?_)))
  obtain⟨z2l,hz2,h⟩:=ah h
  obtain⟨n2,hN2⟩:=bv hz2
  refine di 0 (fun e C=>∃x14,∃v12,aix R x14=some r/\At [(5,Pi v12)] [p1,E6 v12 af x14 64] e C) ?_ ?_
  ·rintro e C ⟨x14,v12,h,a⟩
   refine W_at a ?_
   unfold aix at h
   refine W_rs (kMv rfl (kAs rfl ?_))
   refine ar0 1 [4] ?_ rfl ⟨rfl,tv⟩
   obtain rfl:=osj h
   exact bg ⟨rfl,aa⟩
  refine ek (fun m e C=>∃x13,∃x14,∃v12,fq (fun s=>afd R x1 x2 s.1 s.2) m (x13,x14)=some z2l/\At [(1,P6 x2),(2,Pr.pt b3 0),(5,Pi v12),(6,P6 x13)] [p1,E6 v12 af x14 64] e C) n2 ⟨0,x11,v10,hN2,⟨⟨aa,aa,aa,aa,tv⟩,A9.refl _⟩⟩ ?_
  rintro m e C ⟨x13,x14,v12,hN2,a⟩
  refine W_at a ?_
  obtain⟨m2,w2l,rfl,h2l,hn2,ho2⟩:=bm hN2
  replace h2l:afd R x1 x2 x13 x14=some w2l:=h2l
  unfold afd at h2l
  refine a7 (W_rs (kMv rfl (kUn (ak ic) ?_)))
  refine kUn (au 0 ty53 bt) ?_
  refine kUn (mg rfl underlying53) ?_
  refine kIn rfl rfl rfl ?_
  refine a6 h2l rfl (fun _ h2l=>?_) (fun _ h2l=>?_)
  ·refine ay (a7 (a5 (W_r (kMv rfl (kUn (ak ic) ?_)))))
   refine kUn (au 0 ty53 bt) ?_
   refine kMv rfl ?_
   obtain⟨x19,k,h2l⟩:=ah h2l
   refine kUn (fo underlying53 sizeOf64 k) ?_
   refine kUn (cz ty64) ?_
   refine kMv rfl (c8 h2l (ih x19 x2) rfl fun x20 _ h2l=>?_)
   obtain⟨x21,k,h2l⟩:=ah h2l
   refine ik 1 el53 k (fun v22=>?_)
   refine kAs rfl (W_r (kMv rfl (kIn rfl rfl rfl (kAs rfl ?_))))
   exact⟨m2,lsu,w64 (x13+1),x21,v22,hn2 _ (ojs h2l),atOk⟩
  refine ej ?_
  obtain rfl:=ho2 _ (ojs h2l)
  exact⟨x14,v12,h,atOk⟩
 refine bo (fun e C=>∃x6,afe R x1 x2 x6=some r/\At [(1,P6 x2),(2,Pr.pt b3 0),(5,Pi v4),(14,Pb x6)] [p1,E6 v4 af [] 64] e C) ?_ ?_
 ·rintro e C ⟨x6,h,a⟩
  refine W_at a ?_
  unfold afe at h
  refine a6 h rfl (fun _ h=>?_) (fun _ h=>?_)
  ·refine W_r (kMv rfl (kUn (au 0 ty64 (Sub.refl _)) ?_))
   refine kUn (cq (R:=af) (a:=x1) el53 nb) ?_
   obtain⟨x8,k,h⟩:=ah h
   refine ik 1 el53 k (fun v9=>?_)
   refine kAs rfl ?_
   exact⟨x8,v9,h,atOk⟩
  refine ay ?_
  exact⟨[],v4,h,atOk⟩
 refine W_r (kMv rfl (kIn rfl rfl rfl (kMv rfl ?_)))
 rcases cc h with⟨hc5,h⟩|⟨hc5,h⟩
 ·refine skx ?_
  refine kPt rfl hc5 rfl ?_
  exact⟨true,h,atOk⟩
 refine kGd rfl aa hc5 (ak f4) ?_
 refine kGd rfl aa hc5 (au 0 ty3 bc) ?_
 refine kGd rfl aa hc5 (hMvA rfl) (kGd rfl aa hc5 (qInt rfl rfl rfl) (kPf rfl hc5 rfl ?_))
 exact⟨x1.Kind==x2,h,atOk⟩
theorem ane :∀n,afo (adh n):=by
 intro n
 induction n with
 |zero=>exact(fun x1 x2 r h=>nomatch (show none=some r from h))
 |succ n ih=>exact(fun x1 x2 r h=>ang (adh n) ih x1 x2 r h)
theorem aup (x1:B6) (x2:Int) (r:(List B6)) (h:at3 x1 x2=some r):Fp 86 [(af).val x1,P6 x2] (ap af r):=(ane 1048576) x1 x2 r h
theorem apm (x1:Bt) (x2:Int) (x3:B6) (r:(List B0)) (h:aiv x1 x2 x3=some r):Fp 46 [Pr.str x1,P6 x2,(af).val x3] (ap ag r):=by
 refine dv (rs:=[6]) func46 rfl ntmps46 ⟨by decide,results46⟩ dcd (fun s0=>?_)
 unfold aiv at h
 refine W_rs ?_
 refine rBox (R:=af) (a:=x3) rfl (fun b4=>?_)
 let p1:=D9 b4 af x3
 refine kAs rfl (W_rs (kUn (ak ie) ?_))
 refine kUn (au 0 ty9 cd) ?_
 refine kMv rfl (kUn (ak ws) ?_)
 refine kUn (au 0 ty9 gm) ?_
 refine kUn (ak aig) ?_
 refine kUn (au 0 ty2 acn) ?_
 refine kIn rfl rfl rfl (kMv rfl (kUn (ak ru) ?_))
 refine kUn (au 0 ty3 ip) ?_
 refine kUn (jm aj3 ⟨(D4.mk 0 [] x3.Text [] [] false (.slice none 0 0) 0 0),⟨_,rfl,rfl,qbj⟩,⟨(D4.mk 0 [] x3.Text x1 [] false (.slice none 0 0) 0 0),⟨_,rfl,rfl,qbj⟩,⟨(D4.mk 0 [] x3.Text x1 x3.Type_ false (.slice none 0 0) 0 0),⟨_,rfl,rfl,qbj⟩,⟨(D4.mk 0 [] x3.Text x1 x3.Type_ (x3.N==1) (.slice none 0 0) 0 0),⟨_,rfl,rfl,qbj⟩,⟨(D4.mk 0 [] x3.Text x1 x3.Type_ (x3.N==1) (.slice none 0 0) x2 0),⟨_,rfl,rfl,qbj⟩,⟨(D4.mk 0 [] x3.Text x1 x3.Type_ (x3.N==1) (.slice none 0 0) x2 x3.At),⟨_,rfl,rfl,qbj⟩,rfl⟩⟩⟩⟩⟩⟩) ?_
 refine bw al49 fun b5=>av 1 rfl rfl (Upd.refl _) rfl sizeOf49 (a7 (W_rs (kUn (ak f4) ?_)))
 refine kUn (au 0 ty3 bc) ?_
 refine kIn rfl rfl rfl ?_
 refine a6 h rfl (fun _ h=>?_) (fun _ h=>?_)
 ·refine W_rs (kUn (ak vc) ?_)
  refine av 1 rfl rfl wt rfl sizeOf3 ?_
  refine rCtx [p1,D9 b5 bu (D4.mk 2 [] x3.Text x1 x3.Type_ (x3.N==1) (.slice none 0 0) x2 x3.At)] ?_
  refine W_rs (kMv rfl (kUn (ak ie) ?_))
  refine kUn (au 0 ty9 cd) ?_
  refine c8 h (aqf x1 x3.Text) rfl fun x7 _ h=>?_
  let p2:=B0.mk 2 x7 x3.Text x1 x3.Type_ (x3.N==1) [] x2 x3.At
  refine kUn (ak s5) ?_
  refine av 1 rfl rfl aad rfl sizeOf9 ?_
  refine rCtx [p1,D9 b5 bu (D4.mk 2 x7 x3.Text x1 x3.Type_ (x3.N==1) (.slice none 0 0) x2 x3.At)] ?_
  refine W_rs (kUn (au 1 ty49 (Sub.refl _)) ?_)
  refine rEnv 34 (q:=ag.val p2) (st_le fun _=>⟨fl,fl,fl,fl,fl,fl,a2r,fl,fl,tv⟩) ?_
  refine kUn (cq (R:=ag) (a:=p2) el38 nb) ?_
  refine kAsL rfl ?_
  obtain rfl:=osj h
  exact bg ⟨rfl,aa⟩
 refine ay (W_rs (kUn (ak vc) ?_))
 refine av 1 rfl rfl wt rfl sizeOf3 ?_
 refine rCtx [p1,D9 b5 bu (D4.mk 3 [] x3.Text x1 x3.Type_ (x3.N==1) (.slice none 0 0) x2 x3.At)] ?_
 refine W_rs (kMv rfl (kUn (ak ie) ?_))
 refine kUn (au 0 ty9 cd) ?_
 refine c8 h (apo x1 x3.Text) rfl fun x8 _ h=>?_
 let p3:=D9 b5 bu (D4.mk 3 x8 x3.Text x1 x3.Type_ (x3.N==1) (.slice none 0 0) x2 x3.At)
 refine kUn (ak s5) ?_
 refine av 1 rfl rfl aad rfl sizeOf9 ?_
 refine rCtx [p1,p3] ?_
 refine W_rs (kAs rfl (W_rs (kUn (au 0 ty64 (Sub.refl _)) ?_)))
 refine c8 h (aup x3 0) rfl fun x9 _ h=>kAsL rfl (a7 (W_rs (kAs rfl (a5 ?_))))
 obtain⟨z5l,hz5,h⟩:=ah h
 obtain⟨n5,hN5⟩:=bv hz5
 refine di 0 (fun e C=>∃x12,∃v10,aet x3 x8 x1 x2 x12=some r/\At [(5,Pr.pt b4 0),(7,Pr.pt b5 0),(8,Pi v10)] [p1,p3,E6 v10 ag x12 49] e C) ?_ ?_
 ·rintro e C ⟨x12,v10,h,a⟩
  let p4:=E6 v10 ag x12 49
  refine W_at a ?_
  unfold aet at h
  refine a7 (W_rs (kAs rfl (a5 ?_)))
  obtain⟨z2l,hz2,h⟩:=ah h
  obtain⟨n2,hN2⟩:=bv hz2
  refine di 2 (fun e C=>∃x29,∃v28,aeu x8 x3 x1 x2 x12 x29=some r/\At [(7,Pr.pt b5 0),(8,Pi v10)] [p1,D9 b5 bu (D4.mk 3 x8 x3.Text x1 x3.Type_ (x3.N==1) v28 x2 x3.At),p4,E6 v28 Rp.str x29 9] e C) ?_ ?_
  ·rintro e C ⟨x29,v28,h,a⟩
   let p5:=B0.mk 3 x8 x3.Text x1 x3.Type_ (x3.N==1) x29 x2 x3.At
   refine W_at a ?_
   unfold aeu at h
   refine W_rs (kUn (au 1 ty49 (Sub.refl _)) ?_)
   refine rRelS 3 105 [] (q:=ag.val p5) (fun _ _ hl=>FLe.val ⟨fl,fl,fl,fl,fl,fl,(a2s hl),fl,fl,tv⟩) ?_ rfl trivial
   refine ar6 (R:=ag) (ls:=([p5]:List B0)) el38 nb ⟨rfl,rfl⟩ ⟨rfl,tv⟩ (fun v41=>?_)
   refine kMv rfl ?_
   obtain⟨x42,k,h⟩:=ah h
   refine rRel 2 [8,107] ?_ rfl ⟨rfl,rfl,tv⟩
   refine ik 2 el38 k (fun v43=>?_)
   refine kAs rfl ?_
   refine ar0 2 [6] ?_ rfl ⟨rfl,tv⟩
   obtain rfl:=osj h
   exact bg ⟨rfl,aa⟩
  refine a0v Rp.str 9 ?_
  refine ek (fun m e C=>∃x27,∃x29,∃v28,fq (fun s=>z0 x3 s.1 s.2) m (x27,x29)=some z2l/\At [(5,Pr.pt b4 0),(7,Pr.pt b5 0),(8,Pi v10),(12,P6 x27)] [p1,D9 b5 bu (D4.mk 3 x8 x3.Text x1 x3.Type_ (x3.N==1) v28 x2 x3.At),p4,E6 v28 Rp.str x29 9] e C) n2 ⟨0,[],(.slice none 0 0),hN2,⟨⟨aa,aa,aa,aa,tv⟩,A9.refl _⟩⟩ ?_
  rintro m e C ⟨x27,x29,v28,hN2,a⟩
  let p6:=D4.mk 3 x8 x3.Text x1 x3.Type_ (x3.N==1) v28 x2 x3.At
  refine W_at a ?_
  obtain⟨m2,w2l,rfl,h2l,hn2,ho2⟩:=bm hN2
  replace h2l:z0 x3 x27 x29=some w2l:=h2l
  unfold z0 at h2l
  refine a7 (W_rs (kMv rfl (kUn (ak ic) ?_)))
  refine kUn (au 0 ty53 bt) ?_
  refine kUn (mg rfl underlying53) ?_
  refine kIn rfl rfl rfl ?_
  refine a6 h2l rfl (fun _ h2l=>?_) (fun _ h2l=>?_)
  ·refine ay ?_
   refine bo (fun e C=>∃x40,∃v39,z6 x27 x40=some w2l/\At [(5,Pr.pt b4 0),(7,Pr.pt b5 0),(8,Pi v10),(12,P6 x27)] [p1,D9 b5 bu (D4.mk 3 x8 x3.Text x1 x3.Type_ (x3.N==1) v39 x2 x3.At),p4,E6 v39 Rp.str x40 9] e C) ?_ ?_
   ·rintro e C ⟨x40,v39,h2l,a⟩
    refine W_at a ?_
    unfold z6 at h2l
    refine W_r (kMv rfl (kIn rfl rfl rfl (kAs rfl ?_)))
    exact⟨m2,lsu,w64 (x27+1),x40,v39,hn2 _ (ojs h2l),atOk⟩
   refine a5 (W_rs (kUn (ak ic) ?_))
   refine kUn (au 0 ty53 bt) ?_
   refine kMv rfl ?_
   obtain⟨x34,k,h2l⟩:=ah h2l
   refine kUn (fo underlying53 sizeOf64 k) ?_
   refine kUn (jb f4 bc) ?_
   refine kUn (cz ty3) ?_
   refine kIn rfl rfl rfl ?_
   refine a6 h2l rfl (fun _ h2l=>?_) (fun _ h2l=>?_)
   ·refine i8 9 hmx kr kr ?_
    refine lUn (ak aih) ?_
    refine lUn (abc (R:=bu) (a:=p6) 1 ty22 aap) ?_
    refine lUn (ak ic) ?_
    refine lUn (au 0 ty53 bt) ?_
    refine lUn (hMvA rfl) ?_
    obtain⟨x36,k,h2l⟩:=ah h2l
    refine lUn (fo underlying53 sizeOf64 k) ?_
    refine lUn (jb ws gm) ?_
    refine lUn (cz ty9) ?_
    refine lUn (cq (R:=Rp.str) (a:=x36.Type_) el22 nb) ?_
    obtain⟨x37,k,h2l⟩:=ah h2l
    refine ik 3 el22 k (fun v38=>?_)
    refine kUn (ak aih) ?_
    refine ail (R:=bu) (a:=p6) 1 3 sizeOf22 aam ?_
    refine rCtx [p1,D9 b5 bu (D4.mk 3 x8 x3.Text x1 x3.Type_ (x3.N==1) v38 x2 x3.At),p4,E6 v38 Rp.str x37 9] ?_
    exact⟨x37,v38,h2l,atOk⟩
   refine ay ?_
   exact⟨x29,v28,h2l,atOk⟩
  refine ej ?_
  obtain rfl:=ho2 _ (ojs h2l)
  exact⟨x29,v28,h,atOk⟩
 refine ah6 [8] ag 49 (fun v44=>?_) ⟨rfl,tv⟩
 refine ek (fun m e C=>∃x11,∃x12,∃v10,fq (fun s=>zz x9 x8 x2 s.1 s.2) m (x11,x12)=some z5l/\At [(1,P6 x2),(5,Pr.pt b4 0),(7,Pr.pt b5 0),(8,Pi v10),(9,ap af x9),(10,P6 x11)] [p1,p3,E6 v10 ag x12 49] e C) n5 ⟨0,[],v44,hN5,⟨⟨aa,aa,aa,aa,aa,aa,tv⟩,A9.refl _⟩⟩ ?_
 rintro m e C ⟨x11,x12,v10,hN5,a⟩
 refine W_at a ?_
 obtain⟨m5,w5l,rfl,h5l,hn5,ho5⟩:=bm hN5
 replace h5l:zz x9 x8 x2 x11 x12=some w5l:=h5l
 unfold zz at h5l
 refine a7 (W_rs (kMv rfl (kMvL rfl (kUn (mg rfl underlying53) ?_))))
 refine kIn rfl rfl rfl ?_
 refine a6 h5l rfl (fun _ h5l=>?_) (fun _ h5l=>?_)
 ·refine ay ?_
  refine bo (fun e C=>∃x26,∃x17,∃v25,∃b18,z5 x11 x26 x17=some w5l/\At [(1,P6 x2),(5,Pr.pt b4 0),(7,Pr.pt b5 0),(8,Pi v25),(9,ap af x9),(10,P6 x11)] [p1,p3,E6 v25 ag x26 49,D9 b18 af x17] e C) ?_ ?_
  ·rintro e C ⟨x26,x17,v25,b18,h5l,a⟩
   refine W_at a ?_
   unfold z5 at h5l
   refine W_r (kMv rfl (kIn rfl rfl rfl (kAs rfl ?_)))
   exact⟨m5,lsu,w64 (x11+1),x26,v25,hn5 _ (ojs h5l),⟨⟨aa,aa,aa,aa,aa,aa,tv⟩,A9.of [0,1,2] rfl⟩⟩
  refine a5 (W_rs (kMvL rfl (kMv rfl ?_)))
  obtain⟨x17,k,h5l⟩:=ah h5l
  refine kUn (fo underlying53 sizeOf64 k) ?_
  refine kUn (cz ty64) ?_
  refine bw al64 fun b18=>av 3 rfl rfl (Upd.refl _) rfl sizeOf64 ?_
  refine bo (fun e C=>∃x20,z2 x8 x12 x17 x2 x11 x20=some w5l/\At [(1,P6 x2),(5,Pr.pt b4 0),(7,Pr.pt b5 0),(8,Pi v10),(9,ap af x9),(10,P6 x11),(11,Pr.pt b18 0),(61,Pb x20)] [p1,p3,E6 v10 ag x12 49,D9 b18 af x17] e C) ?_ ?_
  ·rintro e C ⟨x20,h5l,a⟩
   refine W_at a ?_
   unfold z2 at h5l
   refine a6 h5l rfl (fun _ h5l=>?_) (fun _ h5l=>?_)
   ·refine i8 17 hmx kr kr ?_
    refine lUn (hMvA rfl) (lUn (ak s5) ?_)
    refine lUn (au 1 ty9 ur) ?_
    refine lUn (hMvA rfl) (lUn (aye 2 rfl underlying38) ?_)
    obtain⟨x22,k,h5l⟩:=ah h5l
    let p7:=B0.mk 4 x22 x17.Text x8 x17.Type_ false [] x2 x17.At
    refine lUn (dz (aqd x8 (x12.length:Int) _ k)) ?_
    refine lUn (ak ie) ?_
    refine lUn (au 3 ty9 cd) ?_
    refine lUn (ak s5) ?_
    refine lUn (au 1 ty9 ur) ?_
    refine lUn (ak ws) ?_
    refine lUn (au 3 ty9 gm) ?_
    refine lUn (hMvA rfl) (lUn (ak ru) ?_)
    refine lUn (au 3 ty3 ip) ?_
    refine lUn (jm st49 ⟨(B0.mk 4 [] [] [] [] false [] 0 0),⟨_,rfl,rfl,qbj⟩,⟨(B0.mk 4 x22 [] [] [] false [] 0 0),⟨_,rfl,rfl,qbj⟩,⟨(B0.mk 4 x22 x17.Text [] [] false [] 0 0),⟨_,rfl,rfl,qbj⟩,⟨(B0.mk 4 x22 x17.Text x8 [] false [] 0 0),⟨_,rfl,rfl,qbj⟩,⟨(B0.mk 4 x22 x17.Text x8 x17.Type_ false [] 0 0),⟨_,rfl,rfl,qbj⟩,⟨(B0.mk 4 x22 x17.Text x8 x17.Type_ false [] x2 0),⟨_,rfl,rfl,qbj⟩,⟨p7,⟨_,rfl,rfl,qbj⟩,rfl⟩⟩⟩⟩⟩⟩⟩) ?_
    refine lUn (cq (R:=ag) (a:=p7) el38 nb) ?_
    obtain⟨x23,k,h5l⟩:=ah h5l
    refine ik 2 el38 k (fun v24=>?_)
    refine kAs rfl ?_
    exact⟨x23,x17,v24,b18,h5l,atOk⟩
   refine ay ?_
   exact⟨x12,x17,v10,b18,h5l,atOk⟩
  refine W_r (kUn (ak f4) ?_)
  refine kUn (au 3 ty3 bc) ?_
  refine kIn rfl rfl rfl (kMv rfl ?_)
  rcases cc h5l with⟨hc19,h5l⟩|⟨hc19,h5l⟩
  ·refine skx ?_
   refine kPt rfl hc19 rfl ?_
   exact⟨true,h5l,atOk⟩
  refine kGd rfl aa hc19 (ak f4) ?_
  refine kGd rfl aa hc19 (au 3 ty3 bc) ?_
  refine kGd rfl aa hc19 (qInt rfl rfl rfl) (kPf rfl hc19 rfl ?_)
  exact⟨x17.Kind==6,h5l,atOk⟩
 refine ej ?_
 obtain rfl:=ho5 _ (ojs h5l)
 exact⟨x12,v10,h,atOk⟩
theorem aj4 (x1:List B0) (r:Int) (h:ahn x1=some r):Fp 47 [ap ag x1] (P6 r):=by
 refine dv (rs:=[2]) func47 rfl ntmps47 ⟨by decide,results47⟩ dcd (fun s0=>?_)
 unfold ahn at h
 refine W_rs (kAs rfl (a7 (W_rs (kAs rfl (a5 ?_)))))
 obtain⟨z2l,hz2,h⟩:=ah h
 obtain⟨n2,hN2⟩:=bv hz2
 refine di 0 (fun e C=>af8=some r/\At [] [] e C) ?_ ?_
 ·rintro e C ⟨h,a⟩
  refine W_at a ?_
  unfold af8 at h
  refine W_rs (kAs rfl ?_)
  obtain rfl:=osj h
  exact bg ⟨rfl,aa⟩
 refine ek (fun m e C=>∃x2,fq (fun s=>abj x1 s) m x2=some z2l/\At [(0,ap ag x1),(3,P6 x2)] [] e C) n2 ⟨0,hN2,⟨⟨aa,aa,tv⟩,A9.refl _⟩⟩ ?_
 rintro m e C ⟨x2,hN2,a⟩
 refine W_at a ?_
 obtain⟨m2,w2l,rfl,h2l,hn2,ho2⟩:=bm hN2
 replace h2l:abj x1 x2=some w2l:=h2l
 unfold abj at h2l
 refine a7 (W_rs (kMv rfl (kMvL rfl (kUn (mg rfl underlying38) ?_))))
 refine kIn rfl rfl rfl ?_
 refine a6 h2l rfl (fun _ h2l=>?_) (fun _ h2l=>?_)
 ·refine ay (a7 (a5 (W_rs (kAs rfl (a5 ?_)))))
  obtain⟨z4l,hz4,h2l⟩:=ah h2l
  obtain⟨n4,hN4⟩:=bv hz4
  refine di 2 (fun e C=>af7 x2=some w2l/\At [(0,ap ag x1),(3,P6 x2)] [] e C) ?_ ?_
  ·rintro e C ⟨h2l,a⟩
   refine W_at a ?_
   unfold af7 at h2l
   refine W_r (kMv rfl (kIn rfl rfl rfl (kAs rfl ?_)))
   exact⟨m2,lsu,w64 (x2+1),hn2 _ (ojs h2l),atOk⟩
  refine ek (fun m e C=>∃x5,fq (fun s=>abi x2 x1 s) m x5=some z4l/\At [(0,ap ag x1),(3,P6 x2),(4,P6 x5)] [] e C) n4 ⟨0,hN4,⟨⟨aa,aa,aa,tv⟩,A9.refl _⟩⟩ ?_
  rintro m e C ⟨x5,hN4,a⟩
  refine W_at a ?_
  obtain⟨m4,w4l,rfl,h4l,hn4,ho4⟩:=bm hN4
  replace h4l:abi x2 x1 x5=some w4l:=h4l
  unfold abi at h4l
  refine a7 (W_rs (kMv rfl (kMv rfl (kIn rfl rfl rfl ?_))))
  refine a6 h4l rfl (fun _ h4l=>?_) (fun _ h4l=>?_)
  ·refine ay (a7 (a5 ?_))
   refine bo (fun e C=>∃x30,ue x2 x5 x30=some w4l/\At [(0,ap ag x1),(3,P6 x2),(4,P6 x5),(60,Pb x30)] [] e C) ?_ ?_
   ·rintro e C ⟨x30,h4l,a⟩
    refine W_at a ?_
    unfold ue at h4l
    refine a6 h4l rfl (fun _ h4l=>?_) (fun _ h4l=>?_)
    ·refine W_rs (kMv rfl (kAs rfl ?_))
     obtain rfl:=ho4 _ (ojs h4l)
     replace h2l:some (.inr (.done x2))=some w2l:=h2l
     obtain rfl:=ho2 _ (ojs h2l)
     replace h:some x2=some r:=h
     obtain rfl:=osj h
     exact bg ⟨rfl,aa⟩
    refine ay (W_r (kMv rfl (kIn rfl rfl rfl (kAs rfl ?_))))
    exact⟨m4,lsu,w64 (x5+1),hn4 _ (ojs h4l),atOk⟩
   refine i8 45 hmx kr kr ?_
   refine lUn (hMvL rfl) (lUn (hMvA rfl) ?_)
   obtain⟨x8,k,h4l⟩:=ah h4l
   refine lUn (fo underlying38 sizeOf49 k) ?_
   refine lUn (jb vc fg) ?_
   refine lUn (cz ty3) ?_
   refine lUn (qInt rfl rfl rfl) (lUn (hMvA rfl) ?_)
   rcases cc h4l with⟨hc9,h4l⟩|⟨hc9,h4l⟩
   ·refine lGd rfl aa hc9 (hMvL rfl) (lGd rfl aa hc9 (hMvA rfl) ?_)
    obtain⟨x10,k,h4l⟩:=ah h4l
    refine lGd rfl aa hc9 (fo underlying38 sizeOf49 k) ?_
    refine lGd rfl aa hc9 (jb vc fg) ?_
    refine lGd rfl aa hc9 (cz ty3) ?_
    refine lGd rfl aa hc9 (hMvL rfl) (lGd rfl aa hc9 (hMvA rfl) ?_)
    obtain⟨x11,k,h4l⟩:=ah h4l
    refine lGd rfl aa hc9 (fo underlying38 sizeOf49 k) ?_
    refine lGd rfl aa hc9 (jb vc fg) ?_
    refine lGd rfl aa hc9 (cz ty3) ?_
    refine lGd rfl aa hc9 (qInt rfl rfl rfl) (lUn (hPt rfl hc9 rfl) (lUn (hMvA rfl) ?_))
    rcases cc h4l with⟨hc12,h4l⟩|⟨hc12,h4l⟩
    ·refine lGd rfl aa hc12 (hMvL rfl) (lGd rfl aa hc12 (hMvA rfl) ?_)
     obtain⟨x13,k,h4l⟩:=ah h4l
     refine lGd rfl aa hc12 (fo underlying38 sizeOf49 k) ?_
     refine lGd rfl aa hc12 (jb ama qd) ?_
     refine lGd rfl aa hc12 (cz ty9) ?_
     refine lGd rfl aa hc12 (hMvL rfl) (lGd rfl aa hc12 (hMvA rfl) ?_)
     obtain⟨x14,k,h4l⟩:=ah h4l
     refine lGd rfl aa hc12 (fo underlying38 sizeOf49 k) ?_
     refine lGd rfl aa hc12 (jb ama qd) ?_
     refine lGd rfl aa hc12 (cz ty9) ?_
     refine lGd rfl aa hc12 (qStr rfl rfl rfl) (lUn (hPt rfl hc12 rfl) (lUn (hMvA rfl) ?_))
     rcases cc h4l with⟨hc15,h4l⟩|⟨hc15,h4l⟩
     ·refine lGd rfl aa hc15 (hMvL rfl) (lGd rfl aa hc15 (hMvA rfl) ?_)
      obtain⟨x16,k,h4l⟩:=ah h4l
      refine lGd rfl aa hc15 (fo underlying38 sizeOf49 k) ?_
      refine lGd rfl aa hc15 (jb ahi lm) ?_
      refine lGd rfl aa hc15 (cz ty9) ?_
      refine lGd rfl aa hc15 (hMvL rfl) (lGd rfl aa hc15 (hMvA rfl) ?_)
      obtain⟨x17,k,h4l⟩:=ah h4l
      refine lGd rfl aa hc15 (fo underlying38 sizeOf49 k) ?_
      refine lGd rfl aa hc15 (jb ahi lm) ?_
      refine lGd rfl aa hc15 (cz ty9) ?_
      refine lGd rfl aa hc15 (qStr rfl rfl rfl) (lUn (hPt rfl hc15 rfl) ?_)
      exact⟨x16.Name==x17.Name,h4l,atOk⟩
     refine lsx ?_
     refine lUn (hPf rfl hc15 rfl) ?_
     exact⟨false,h4l,atOk⟩
    refine lsx ?_
    refine lUn (hPf rfl hc12 rfl) (lUn (hMvA rfl) ?_)
    have hc18:false=false:=rfl
    refine lsx ?_
    refine lUn (hPf rfl hc18 rfl) ?_
    exact⟨false,h4l,atOk⟩
   refine lsx ?_
   refine lUn (hPf rfl hc9 rfl) (lUn (hMvA rfl) ?_)
   have hc21:false=false:=rfl
   refine lsx ?_
   refine lUn (hPf rfl hc21 rfl) (lUn (hMvA rfl) ?_)
   have hc27:false=false:=rfl
   refine lsx ?_
   refine lUn (hPf rfl hc27 rfl) ?_
   exact⟨false,h4l,atOk⟩
  refine ej ?_
  obtain rfl:=ho4 _ (ojs h4l)
  exact⟨h2l,atOk⟩
 refine ej ?_
 obtain rfl:=ho2 _ (ojs h2l)
 exact⟨h,atOk⟩
def adr (R:eg):Prop:=(∀(x1:B6) (x2:List Bt) (r:B6 × Bool × (List Bt)),R x1 x2=some r->Fp 48 [(af).val x1,ap Rp.str x2] (br [(af).val r.1,Pb r.2.1,ap Rp.str r.2.2]))
theorem alr (R:eg) (ih:adr R) (x1:B6) (x2:List Bt) (r:B6 × Bool × (List Bt)) (h:ahw R x1 x2=some r):Fp 48 [(af).val x1,ap Rp.str x2] (br [(af).val r.1,Pb r.2.1,ap Rp.str r.2.2]):=by
  refine ec (rs:=[.cell 4 64,.tmp 5,.tmp 6]) func48 rfl ntmps48 results48 dcd (fun s0=>?_)
  let p1:=B6.mk 0 [] [] 0 0 0 0 0 []
  unfold ahw at h
  refine W_rs ?_
  refine rBox (R:=af) (a:=x1) rfl (fun b3=>?_)
  let p2:=D9 b3 af x1
  refine bw al64 fun b4=>kAs rfl (kAs rfl (W_rs (kMvL rfl (kAsL rfl (a7 (W_rs (kAs rfl (a5 ?_))))))))
  let p3:=D9 b4 af p1
  obtain⟨z2l,hz2,h⟩:=ah h
  obtain⟨n2,hN2⟩:=bv hz2
  refine di 0 (fun e C=>∃x5,aga R x5=some r/\At [(4,Pr.pt b4 0),(7,ap Rp.str x5)] [p2,p3] e C) ?_ ?_
  · rintro e C ⟨x5,h,a⟩
    refine W_at a ?_
    unfold aga at h
    refine W_rs (kUn (fr ba st64 rfl) ?_)
    refine kMvL rfl (av 1 rfl rfl (Upd.refl _) rfl sizeOf64 (kAs rfl (kAsL rfl ?_)))
    obtain rfl:=osj h
    exact bg ⟨rfl,[(af).val p1,Pb false,ap Rp.str x5],⟨yBox 1 ty64 aa,yT aa,yT aa,tv⟩,aa⟩
  refine ek (fun m e C=>∃x5,∃x6,fq (fun s=>abl R x1 s.1 s.2) m (x5,x6)=some z2l/\At [(2,Pr.pt b3 0),(4,Pr.pt b4 0),(7,ap Rp.str x5),(8,P6 x6)] [p2,p3] e C) n2 ⟨x2,0,hN2,⟨⟨aa,aa,aa,aa,tv⟩,A9.refl _⟩⟩ ?_
  rintro m e C ⟨x5,x6,hN2,a⟩
  refine W_at a ?_
  obtain⟨m2,w2l,rfl,h2l,hn2,ho2⟩:=bm hN2
  replace h2l:abl R x1 x5 x6=some w2l:=h2l
  unfold abl at h2l
  refine a7 (W_rs (kMv rfl (kUn (ak ic) ?_)))
  refine kUn (au 0 ty53 bt) ?_
  refine kUn (mg rfl underlying53) ?_
  refine kIn rfl rfl rfl ?_
  refine a6 h2l rfl (fun _ h2l=>?_) (fun _ h2l=>?_)
  · refine ay ?_
    refine bo (fun e C=>∃x33,∃x10,∃x20,∃b11,∃b23,abp R x6 x33 x10 x20=some w2l/\At [(2,Pr.pt b3 0),(4,Pr.pt b4 0),(7,ap Rp.str x33),(8,P6 x6)] [p2,p3,D9 b11 af x10,D9 b23 af x20] e C) ?_ ?_
    · rintro e C ⟨x33,x10,x20,b11,b23,h2l,a⟩
      refine W_at a ?_
      unfold abp at h2l
      refine W_r (kMv rfl (kIn rfl rfl rfl (kAs rfl ?_)))
      exact⟨m2,lsu,x33,w64 (x6+1),hn2 _ (ojs h2l),⟨⟨aa,aa,aa,aa,tv⟩,A9.of [0,1] rfl⟩⟩
    refine a5 (W_rs (kUn (ak ic) ?_))
    refine kUn (au 0 ty53 bt) ?_
    refine kMv rfl ?_
    obtain⟨x10,k,h2l⟩:=ah h2l
    refine kUn (fo underlying53 sizeOf64 k) ?_
    refine kUn (cz ty64) ?_
    refine bw al64 fun b11=>av 2 rfl rfl (Upd.refl _) rfl sizeOf64 ?_
    let p4:=D9 b11 af x10
    refine bo (fun e C=>abn R x10 x5 x6=some w2l/\At [(2,Pr.pt b3 0),(4,Pr.pt b4 0),(7,ap Rp.str x5),(8,P6 x6),(9,Pr.pt b11 0)] [p2,p3,p4] e C) ?_ ?_
    · rintro e C ⟨h2l,a⟩
      refine W_at a ?_
      unfold abn at h2l
      refine W_rs (kUn (au 2 ty64 (Sub.refl _)) ?_)
      refine kMvL rfl ?_
      obtain⟨⟨x20,x21,x22⟩,k,h2l⟩:=ah h2l
      refine kUn (dz (ih x10 x5 _ k)) ?_
      refine kUn (hMv (out:=br [(af).val x20,Pb x21,ap Rp.str x22]) rfl) (kUn ar ?_)
      refine kUn ar ?_
      refine kUn ar ?_
      refine bw al64 fun b23=>av 3 rfl rfl (Upd.refl _) rfl sizeOf64 (kAs rfl (kAsL rfl (a7 (W_rs (kMv rfl ?_)))))
      refine a6 h2l rfl (fun _ h2l=>?_) (fun _ h2l=>?_)
      · refine W_rs (kUn (au 3 ty64 (Sub.refl _)) ?_)
        refine av 1 rfl rfl (Upd.refl _) rfl sizeOf64 (kAs rfl (kAs rfl ?_))
        obtain rfl:=ho2 _ (ojs h2l)
        replace h:some (x20,true,[])=some r:=h
        obtain rfl:=osj h
        exact bg ⟨rfl,[(af).val x20,Pb true,ap Rp.str []],⟨yBox 1 ty64 aa,yT aa,yT (el _),tv⟩,aa⟩
      refine ay ?_
      refine bo (fun e C=>∃x26,abo R x5 x10 x6 x20 x26=some w2l/\At [(2,Pr.pt b3 0),(4,Pr.pt b4 0),(7,ap Rp.str x5),(8,P6 x6),(9,Pr.pt b11 0),(66,Pb x26)] [p2,p3,p4,D9 b23 af x20] e C) ?_ ?_
      · rintro e C ⟨x26,h2l,a⟩
        refine W_at a ?_
        unfold abo at h2l
        refine a6 h2l rfl (fun _ h2l=>?_) (fun _ h2l=>?_)
        · refine W_rs (kAs rfl (W_rs (kMv rfl (kMvL rfl ?_))))
          obtain⟨x29,k,h2l⟩:=ah h2l
          refine rNil [67] Rp.str 9 (fun v28=>?_) ⟨rfl,tv⟩
          refine ik 4 el22 k (fun v30=>?_)
          refine kAs rfl (W_rs (kMv rfl (kUn (ak ie) ?_)))
          refine kUn (au 2 ty9 cd) ?_
          refine kUn (cq (R:=Rp.str) (a:=x10.Text) el22 nb) ?_
          obtain⟨x31,k,h2l⟩:=ah h2l
          refine ik 4 el22 k (fun v32=>?_)
          refine kAs rfl (W_r (kMv rfl ?_))
          refine rRel 4 [14,75] ?_ rfl ⟨rfl,rfl,tv⟩
          refine kAsL rfl ?_
          exact⟨x31,x10,x20,b11,b23,h2l,atOk⟩
        refine ay ?_
        exact⟨x5,x10,x20,b11,b23,h2l,atOk⟩
      refine W_r (kUn (ak f4) ?_)
      refine kUn (au 2 ty3 bc) ?_
      refine kIn rfl rfl rfl (kMv rfl ?_)
      rcases cc h2l with⟨hc25,h2l⟩|⟨hc25,h2l⟩
      · refine skx ?_
        refine kPt rfl hc25 rfl ?_
        exact⟨true,h2l,atOk⟩
      refine kGd rfl aa hc25 (ak f4) ?_
      refine kGd rfl aa hc25 (au 2 ty3 bc) ?_
      refine kGd rfl aa hc25 (qInt rfl rfl rfl) (kPf rfl hc25 rfl ?_)
      exact⟨x10.Kind==6,h2l,atOk⟩
    refine bo (fun e C=>∃x13,abm R x5 x10 x6 x13=some w2l/\At [(2,Pr.pt b3 0),(4,Pr.pt b4 0),(7,ap Rp.str x5),(8,P6 x6),(9,Pr.pt b11 0),(35,Pb x13)] [p2,p3,p4] e C) ?_ ?_
    · rintro e C ⟨x13,h2l,a⟩
      refine W_at a ?_
      unfold abm at h2l
      refine a6 h2l rfl (fun _ h2l=>?_) (fun _ h2l=>?_)
      · refine W_rs (kAs rfl (a5 ?_))
        obtain⟨z7l,hz7,h2l⟩:=ah h2l
        obtain⟨n7,hN7⟩:=bv hz7
        refine di 2 (fun e C=>af9 R x10 x5 x6=some w2l/\At [(2,Pr.pt b3 0),(4,Pr.pt b4 0),(7,ap Rp.str x5),(8,P6 x6),(9,Pr.pt b11 0)] [p2,p3,p4] e C) ?_ ?_
        · rintro e C ⟨h2l,a⟩
          unfold af9 at h2l
          exact⟨h2l,(At.trans a ⟨⟨aa,aa,aa,aa,aa,tv⟩,A9.refl _⟩)⟩
        refine ek (fun m e C=>∃x15,fq (fun s=>abk R x5 x10 s) m x15=some z7l/\At [(2,Pr.pt b3 0),(4,Pr.pt b4 0),(7,ap Rp.str x5),(8,P6 x6),(9,Pr.pt b11 0),(10,P6 x15)] [p2,p3,p4] e C) n7 ⟨0,hN7,⟨⟨aa,aa,aa,aa,aa,aa,tv⟩,A9.refl _⟩⟩ ?_
        rintro m e C ⟨x15,hN7,a⟩
        refine W_at a ?_
        obtain⟨m7,w7l,rfl,h7l,hn7,ho7⟩:=bm hN7
        replace h7l:abk R x5 x10 x15=some w7l:=h7l
        unfold abk at h7l
        refine a7 (W_rs (kMv rfl (kMvL rfl (kUn (mg rfl underlying22) ?_))))
        refine kIn rfl rfl rfl ?_
        refine a6 h7l rfl (fun _ h7l=>?_) (fun _ h7l=>?_)
        · refine ay (a7 (a5 ?_))
          refine bo (fun e C=>∃x18,agb R x10 x15 x18=some w7l/\At [(2,Pr.pt b3 0),(4,Pr.pt b4 0),(7,ap Rp.str x5),(8,P6 x6),(9,Pr.pt b11 0),(10,P6 x15),(48,Pb (x18==x10.Text))] [p2,p3,p4] e C) ?_ ?_
          · rintro e C ⟨x18,h7l,a⟩
            refine W_at a ?_
            unfold agb at h7l
            refine a6 h7l rfl (fun _ h7l=>?_) (fun _ h7l=>?_)
            · refine W_rs (kUn (au 2 ty64 (Sub.refl _)) ?_)
              refine av 1 rfl rfl (Upd.refl _) rfl sizeOf64 (kAs rfl (kAs rfl ?_))
              obtain rfl:=ho7 _ (ojs h7l)
              replace h2l:some (.inr (.done (x10,true,[])))=some w2l:=h2l
              obtain rfl:=ho2 _ (ojs h2l)
              replace h:some (x10,true,[])=some r:=h
              obtain rfl:=osj h
              exact bg ⟨rfl,[(af).val x10,Pb true,ap Rp.str []],⟨yBox 1 ty64 aa,yT aa,yT (el _),tv⟩,aa⟩
            refine ay (W_r (kMv rfl (kIn rfl rfl rfl (kAs rfl ?_))))
            exact⟨m7,lsu,w64 (x15+1),hn7 _ (ojs h7l),atOk⟩
          refine i8 7 hmx kr kr ?_
          refine lUn (hMvL rfl) (lUn (hMvA rfl) ?_)
          obtain⟨x18,k,h7l⟩:=ah h7l
          refine lUn (fo underlying22 sizeOf9 k) ?_
          refine lUn (cz ty9) ?_
          refine lUn (ak ie) ?_
          refine lUn (au 2 ty9 cd) ?_
          refine lUn (qStr rfl rfl rfl) ?_
          exact⟨x18,h7l,atOk⟩
        refine ej ?_
        obtain rfl:=ho7 _ (ojs h7l)
        exact⟨h2l,atOk⟩
      refine ay ?_
      exact⟨h2l,atOk⟩
    refine W_r (kUn (ak f4) ?_)
    refine kUn (au 2 ty3 bc) ?_
    refine kIn rfl rfl rfl (kMv rfl ?_)
    rcases cc h2l with⟨hc12,h2l⟩|⟨hc12,h2l⟩
    · refine skx ?_
      refine kPt rfl hc12 rfl ?_
      exact⟨true,h2l,atOk⟩
    refine kGd rfl aa hc12 (ak f4) ?_
    refine kGd rfl aa hc12 (au 2 ty3 bc) ?_
    refine kGd rfl aa hc12 (qInt rfl rfl rfl) (kPf rfl hc12 rfl ?_)
    exact⟨x10.Kind==6,h2l,atOk⟩
  refine ej ?_
  obtain rfl:=ho2 _ (ojs h2l)
  exact⟨x5,h,atOk⟩
theorem ali :∀n,adr (aaf n):=by
 intro n
 induction n with
 |zero=>exact(fun x1 x2 r h=>nomatch (show none=some r from h))
 |succ n ih=>exact(fun x1 x2 r h=>alr (aaf n) ih x1 x2 r h)
theorem aqb (x1:B6) (x2:List Bt) (r:B6 × Bool × (List Bt)) (h:ao0 x1 x2=some r):Fp 48 [(af).val x1,ap Rp.str x2] (br [(af).val r.1,Pb r.2.1,ap Rp.str r.2.2]):=(ali 1048576) x1 x2 r h
end Go.Proofs.YtcndghapmoaidaaGreatDoor
set_option linter.unusedSectionVars false
set_option maxRecDepth 100000
set_option maxHeartbeats 4000000
namespace Go.Proofs.YtcndghapmoaidaaGreatDoor
open Go Go.Cn Tryz
attribute [local irreducible] g0 ap
theorem aqc (x1:List (List B6)) (r:(List B0) × B4) (h:ake x1=some r):Fp 20 [ap (Rp.list af) x1] (br [ap ag r.1,(az).val r.2]):=by
  refine ec (rs:=[.tmp 2,.cell 3 30]) func20 rfl ntmps20 results20 dcd (fun s0=>?_)
  let p1:=B4.mk 0 0 0
  unfold ake at h
  refine W_rs (kAs rfl (bw al30 fun b2=>W_rs (kAs rfl (a7 (W_rs (kAs rfl (a5 ?_)))))))
  let p2:=D9 b2 az p1
  obtain⟨z2l,hz2,h⟩:=ah h
  obtain⟨n2,hN2⟩:=bv hz2
  refine di 0 (fun e C=>∃x5,∃v3,age x5=some r/\At [(3,Pr.pt b2 0),(4,Pi v3)] [p2,E6 v3 ag x5 49] e C) ?_ ?_
  · rintro e C ⟨x5,v3,h,a⟩
    refine W_at a ?_
    unfold age at h
    refine W_rs (kMv rfl (kUn (jm st30 rfl) ?_))
    refine kAs rfl (av 0 rfl rfl (Upd.refl _) rfl sizeOf30 ?_)
    refine ar0 1 [2] ?_ rfl ⟨rfl,tv⟩
    obtain rfl:=osj h
    exact bg ⟨rfl,[ap ag x5,(az).val p1],⟨yT aa,yBox 0 ty30 aa,tv⟩,aa⟩
  refine ah6 [4] ag 49 (fun v56=>?_) ⟨rfl,tv⟩
  refine ek (fun m e C=>∃x4,∃x5,∃v3,fq (fun s=>abt x1 s.1 s.2) m (x4,x5)=some z2l/\At [(0,ap (Rp.list af) x1),(3,Pr.pt b2 0),(4,Pi v3),(5,P6 x4)] [p2,E6 v3 ag x5 49] e C) n2 ⟨0,[],v56,hN2,⟨⟨aa,aa,aa,aa,tv⟩,A9.refl _⟩⟩ ?_
  rintro m e C ⟨x4,x5,v3,hN2,a⟩
  refine W_at a ?_
  obtain⟨m2,w2l,rfl,h2l,hn2,ho2⟩:=bm hN2
  replace h2l:abt x1 x4 x5=some w2l:=h2l
  unfold abt at h2l
  refine a7 (W_rs (kMv rfl (kMvL rfl (kUn (mg rfl underlying24) ?_))))
  refine kIn rfl rfl rfl ?_
  refine a6 h2l rfl (fun _ h2l=>?_) (fun _ h2l=>?_)
  · refine ay (a7 (a5 (W_rs (kAs rfl (a5 ?_)))))
    obtain⟨z4l,hz4,h2l⟩:=ah h2l
    obtain⟨n4,hN4⟩:=bv hz4
    refine di 2 (fun e C=>∃x12,∃v10,agd x4 x12=some w2l/\At [(0,ap (Rp.list af) x1),(3,Pr.pt b2 0),(4,Pi v10),(5,P6 x4)] [p2,E6 v10 ag x12 49] e C) ?_ ?_
    · rintro e C ⟨x12,v10,h2l,a⟩
      refine W_at a ?_
      unfold agd at h2l
      refine W_r (kMv rfl (kIn rfl rfl rfl (kAs rfl ?_)))
      exact⟨m2,lsu,w64 (x4+1),x12,v10,hn2 _ (ojs h2l),atOk⟩
    refine ek (fun m e C=>∃x11,∃x12,∃v10,fq (fun s=>abr x1 x4 s.1 s.2) m (x11,x12)=some z4l/\At [(0,ap (Rp.list af) x1),(3,Pr.pt b2 0),(4,Pi v10),(5,P6 x4),(6,P6 x11)] [p2,E6 v10 ag x12 49] e C) n4 ⟨0,x5,v3,hN4,⟨⟨aa,aa,aa,aa,aa,tv⟩,A9.refl _⟩⟩ ?_
    rintro m e C ⟨x11,x12,v10,hN4,a⟩
    refine W_at a ?_
    obtain⟨m4,w4l,rfl,h4l,hn4,ho4⟩:=bm hN4
    replace h4l:abr x1 x4 x11 x12=some w4l:=h4l
    unfold abr at h4l
    refine a7 (W_rs (kMv rfl (kMvL rfl (kMv rfl ?_))))
    obtain⟨x16,k,h4l⟩:=ah h4l
    refine kUn (fo underlying24 sizeOf53 k) ?_
    refine kUn (cz ty53) ?_
    refine kUn (mg rfl underlying53) ?_
    refine kIn rfl rfl rfl ?_
    refine a6 h4l rfl (fun _ h4l=>?_) (fun _ h4l=>?_)
    · refine ay ?_
      refine bo (fun e C=>∃x55,∃x19,∃v54,∃b20,abu x11 x55 x19=some w4l/\At [(0,ap (Rp.list af) x1),(3,Pr.pt b2 0),(4,Pi v54),(5,P6 x4),(6,P6 x11)] [p2,E6 v54 ag x55 49,D9 b20 af x19] e C) ?_ ?_
      · rintro e C ⟨x55,x19,v54,b20,h4l,a⟩
        refine W_at a ?_
        unfold abu at h4l
        refine W_r (kMv rfl (kIn rfl rfl rfl (kAs rfl ?_)))
        exact⟨m4,lsu,w64 (x11+1),x55,v54,hn4 _ (ojs h4l),⟨⟨aa,aa,aa,aa,aa,tv⟩,A9.of [0,1] rfl⟩⟩
      refine a5 (W_rs (kMvL rfl (kMv rfl ?_)))
      obtain⟨x18,k,h4l⟩:=ah h4l
      refine kUn (fo underlying24 sizeOf53 k) ?_
      refine kUn (cz ty53) ?_
      refine kMv rfl ?_
      obtain⟨x19,k,h4l⟩:=ah h4l
      let p3:=B0.mk 1 x19.Text x19.Text [] x19.Type_ false [] x4 x19.At
      refine kUn (fo underlying53 sizeOf64 k) ?_
      refine kUn (cz ty64) ?_
      refine bw al64 fun b20=>av 2 rfl rfl (Upd.refl _) rfl sizeOf64 (a7 (W_rs (kUn (ak f4) ?_)))
      let p4:=D9 b20 af x19
      refine kUn (au 2 ty3 bc) ?_
      refine kIn rfl rfl rfl ?_
      refine a6 h4l rfl (fun _ h4l=>?_) (fun _ h4l=>?_)
      · refine ej ?_
        exact⟨x12,x19,v10,b20,h4l,atOk⟩
      refine ay (W_rs (kMv rfl (kUn (ak ie) ?_)))
      refine kUn (au 2 ty9 cd) ?_
      refine kUn (ak ie) ?_
      refine kUn (au 2 ty9 cd) ?_
      refine kUn (ak ws) ?_
      refine kUn (au 2 ty9 gm) ?_
      refine kMv rfl (kUn (ak ru) ?_)
      refine kUn (au 2 ty3 ip) ?_
      refine kUn (jm st49 ⟨(B0.mk 1 [] [] [] [] false [] 0 0),⟨_,rfl,rfl,qbj⟩,⟨(B0.mk 1 x19.Text [] [] [] false [] 0 0),⟨_,rfl,rfl,qbj⟩,⟨(B0.mk 1 x19.Text x19.Text [] [] false [] 0 0),⟨_,rfl,rfl,qbj⟩,⟨(B0.mk 1 x19.Text x19.Text [] x19.Type_ false [] 0 0),⟨_,rfl,rfl,qbj⟩,⟨(B0.mk 1 x19.Text x19.Text [] x19.Type_ false [] x4 0),⟨_,rfl,rfl,qbj⟩,⟨p3,⟨_,rfl,rfl,qbj⟩,rfl⟩⟩⟩⟩⟩⟩) ?_
      refine kUn (cq (R:=ag) (a:=p3) el38 nb) ?_
      obtain⟨x22,k,h4l⟩:=ah h4l
      refine ik 1 el38 k (fun v23=>?_)
      refine kAs rfl (a7 (W_rs (kAs rfl (a5 ?_))))
      obtain⟨z8l,hz8,h4l⟩:=ah h4l
      obtain⟨n8,hN8⟩:=bv hz8
      refine di 4 (fun e C=>∃x26,∃v24,agc x11 x19 x26=some w4l/\At [(0,ap (Rp.list af) x1),(3,Pr.pt b2 0),(4,Pi v24),(5,P6 x4),(6,P6 x11)] [p2,E6 v24 ag x26 49,p4] e C) ?_ ?_
      · rintro e C ⟨x26,v24,h4l,a⟩
        refine W_at a ?_
        unfold agc at h4l
        refine W_rs (kMv rfl ?_)
        obtain⟨x50,k,h4l⟩:=ah h4l
        refine kUn (a2m 1 (aj4 x26 _ k) ⟨.inr ⟨aa,rfl⟩,tv⟩ (fun _ _ _ h=>h)) ?_
        refine kAs rfl (W_rs (kMv rfl (kIn rfl rfl rfl ?_)))
        refine a6 h4l rfl (fun _ h4l=>?_) (fun _ h4l=>?_)
        · refine bo (fun e C=>∃x52,∃x53,agf x52 x53=some w4l/\At [(2,Pi (.slice none 0 0)),(3,Pr.pt b2 0)] [D9 b2 az (B4.mk 150 x52.File x53.At),p4] e C) ?_ ?_
          · rintro e C ⟨x52,x53,h4l,a⟩
            refine W_at a ?_
            unfold agf at h4l
            obtain rfl:=ho4 _ (ojs h4l)
            replace h2l:some (.inr (.done ([],(B4.mk 150 x52.File x53.At))))=some w2l:=h2l
            obtain rfl:=ho2 _ (ojs h2l)
            replace h:some ([],(B4.mk 150 x52.File x53.At))=some r:=h
            obtain rfl:=osj h
            exact bg ⟨rfl,[ap ag [],(az).val (B4.mk 150 x52.File x53.At)],⟨yT (el _),yBox 0 ty30 aa,tv⟩,aa⟩
          refine i8 12 hmx kr kr ?_
          refine lUn (hMvA rfl) (lUn (hMvA rfl) ?_)
          obtain⟨x52,k,h4l⟩:=ah h4l
          refine lUn (zd 1 (R:=ag) (l:=x26) underlying38 sizeOf49 k) ?_
          refine lUn (avj aoc) ?_
          refine lUn (yw (R:=ag) (R':=Rp.int .i64) (l:=x26) (a:=x52) (o:=7) 1 ty3 aa5 nb k rfl) ?_
          refine lUn (hMvA rfl) (lUn (hMvA rfl) ?_)
          obtain⟨x53,k,h4l⟩:=ah h4l
          refine lUn (zd 1 (R:=ag) (l:=x26) underlying38 sizeOf49 k) ?_
          refine lUn (avj avq) ?_
          refine lUn (yw (R:=ag) (R':=Rp.int .i64) (l:=x26) (a:=x53) (o:=8) 1 ty3 aes nb k rfl) ?_
          refine lUn (jm st30 ⟨(B4.mk 150 0 0),⟨_,rfl,rfl,qbj⟩,⟨(B4.mk 150 x52.File 0),⟨_,rfl,rfl,qbj⟩,⟨(B4.mk 150 x52.File x53.At),⟨_,rfl,rfl,qbj⟩,rfl⟩⟩⟩) ?_
          refine lUn (hAsA rfl) (av 0 rfl rfl (Upd.refl _) rfl sizeOf30 ?_)
          exact⟨x52,x53,h4l,⟨⟨aa,aa,tv⟩,A9.of [0,2] rfl⟩⟩
        refine ay ?_
        exact⟨x26,x19,v24,b20,h4l,atOk⟩
      refine ek (fun m e C=>∃x25,∃x26,∃v24,fq (fun s=>abq x19 x4 s.1 s.2) m (x25,x26)=some z8l/\At [(0,ap (Rp.list af) x1),(3,Pr.pt b2 0),(4,Pi v24),(5,P6 x4),(6,P6 x11),(7,Pr.pt b20 0),(8,P6 x25)] [p2,E6 v24 ag x26 49,p4] e C) n8 ⟨0,x22,v23,hN8,⟨⟨aa,aa,aa,aa,aa,aa,aa,tv⟩,A9.refl _⟩⟩ ?_
      rintro m e C ⟨x25,x26,v24,hN8,a⟩
      refine W_at a ?_
      obtain⟨m8,w8l,rfl,h8l,hn8,ho8⟩:=bm hN8
      replace h8l:abq x19 x4 x25 x26=some w8l:=h8l
      unfold abq at h8l
      refine a7 (W_rs (kMv rfl (kUn (ak ic) ?_)))
      refine kUn (au 2 ty53 bt) ?_
      refine kUn (mg rfl underlying53) ?_
      refine kIn rfl rfl rfl ?_
      refine a6 h8l rfl (fun _ h8l=>?_) (fun _ h8l=>?_)
      · refine ay ?_
        refine bo (fun e C=>∃x49,∃x31,∃v48,∃b32,w8 x25 x49 x31=some w8l/\At [(0,ap (Rp.list af) x1),(3,Pr.pt b2 0),(4,Pi v48),(5,P6 x4),(6,P6 x11),(7,Pr.pt b20 0),(8,P6 x25)] [p2,E6 v48 ag x49 49,p4,D9 b32 af x31] e C) ?_ ?_
        · rintro e C ⟨x49,x31,v48,b32,h8l,a⟩
          refine W_at a ?_
          unfold w8 at h8l
          refine W_r (kMv rfl (kIn rfl rfl rfl (kAs rfl ?_)))
          exact⟨m8,lsu,w64 (x25+1),x49,v48,hn8 _ (ojs h8l),⟨⟨aa,aa,aa,aa,aa,aa,aa,tv⟩,A9.of [0,1,2] rfl⟩⟩
        refine a5 (W_rs (kUn (ak ic) ?_))
        refine kUn (au 2 ty53 bt) ?_
        refine kMv rfl ?_
        obtain⟨x31,k,h8l⟩:=ah h8l
        refine kUn (fo underlying53 sizeOf64 k) ?_
        refine kUn (cz ty64) ?_
        refine bw al64 fun b32=>av 3 rfl rfl (Upd.refl _) rfl sizeOf64 (a7 ?_)
        refine bo (fun e C=>∃x34,z7 x25 x26 x31 x19 x4 x34=some w8l/\At [(0,ap (Rp.list af) x1),(3,Pr.pt b2 0),(4,Pi v24),(5,P6 x4),(6,P6 x11),(7,Pr.pt b20 0),(8,P6 x25),(9,Pr.pt b32 0),(71,Pb x34)] [p2,E6 v24 ag x26 49,p4,D9 b32 af x31] e C) ?_ ?_
        · rintro e C ⟨x34,h8l,a⟩
          refine W_at a ?_
          unfold z7 at h8l
          refine a6 h8l rfl (fun _ h8l=>?_) (fun _ h8l=>?_)
          · refine ej ?_
            exact⟨x26,x31,v24,b32,h8l,atOk⟩
          refine ay (W_rs (kMv rfl (kUn (ak ie) ?_)))
          refine kUn (au 2 ty9 cd) ?_
          refine kMv rfl (kUn (au 3 ty64 (Sub.refl _)) ?_)
          refine c8 h8l (apm x19.Text x4 x31) rfl fun x36 _ h8l=>?_
          obtain⟨x37,k,h8l⟩:=ah h8l
          refine ik 1 el38 k (fun v38=>?_)
          refine kAs rfl (a7 (W_rs (kMv rfl ?_)))
          obtain⟨x39,k,h8l⟩:=ah h8l
          refine kUn (a2m 1 (aj4 x37 _ k) ⟨.inr ⟨aa,rfl⟩,tv⟩ (fun _ _ _ h=>h)) ?_
          refine kIn rfl rfl rfl ?_
          refine a6 h8l rfl (fun _ h8l=>?_) (fun _ h8l=>?_)
          · refine ej ?_
            exact⟨x37,x31,v38,b32,h8l,atOk⟩
          refine ay (W_rs (kUn (au 3 ty64 (Sub.refl _)) ?_))
          obtain⟨⟨x41,x42,x43⟩,k,h8l⟩:=ah h8l
          let p5:=B4.mk 150 x4 x41.At
          refine kUn (adm (aqb x31 [] _ k) ⟨aa,el _,tv⟩) ?_
          refine kUn (hMv (out:=br [(af).val x41,Pb x42,ap Rp.str x43]) rfl) (kUn ar ?_)
          refine kUn ar ?_
          refine kUn ar ?_
          refine bw al64 fun b44=>av 4 rfl rfl (Upd.refl _) rfl sizeOf64 (kAs rfl (kAsL rfl ?_))
          refine bo (fun e C=>∃x46,z8 x4 x41 x25 x37 x31 x46=some w8l/\At [(0,ap (Rp.list af) x1),(3,Pr.pt b2 0),(4,Pi v38),(5,P6 x4),(6,P6 x11),(7,Pr.pt b20 0),(8,P6 x25),(10,Pr.pt b44 0),(93,Pb x46)] [p2,E6 v38 ag x37 49,p4,D9 b32 af x31,D9 b44 af x41] e C) ?_ ?_
          · rintro e C ⟨x46,h8l,a⟩
            refine W_at a ?_
            unfold z8 at h8l
            refine a6 h8l rfl (fun _ h8l=>?_) (fun _ h8l=>?_)
            · refine bo (fun e C=>aev x4 x41=some w8l/\At [(2,Pi (.slice none 0 0)),(3,Pr.pt b2 0)] [D9 b2 az p5,p4,D9 b32 af x31,D9 b44 af x41] e C) ?_ ?_
              · rintro e C ⟨h8l,a⟩
                refine W_at a ?_
                unfold aev at h8l
                obtain rfl:=ho8 _ (ojs h8l)
                replace h4l:some (.inr (.done (.inr (.done ([],p5)))))=some w4l:=h4l
                obtain rfl:=ho4 _ (ojs h4l)
                replace h2l:some (.inr (.done ([],p5)))=some w2l:=h2l
                obtain rfl:=ho2 _ (ojs h2l)
                replace h:some ([],p5)=some r:=h
                obtain rfl:=osj h
                exact bg ⟨rfl,[ap ag [],(az).val p5],⟨yT (el _),yBox 0 ty30 aa,tv⟩,aa⟩
              refine i8 5 hmx kr kr ?_
              refine lUn (hMvA rfl) (lUn (ak ru) ?_)
              refine lUn (au 4 ty3 ip) ?_
              refine lUn (jm st30 ⟨(B4.mk 150 0 0),⟨_,rfl,rfl,qbj⟩,⟨(B4.mk 150 x4 0),⟨_,rfl,rfl,qbj⟩,⟨p5,⟨_,rfl,rfl,qbj⟩,rfl⟩⟩⟩) ?_
              refine lUn (hAsA rfl) (av 0 rfl rfl (Upd.refl _) rfl sizeOf30 ?_)
              exact⟨h8l,⟨⟨aa,aa,tv⟩,A9.of [0,2,3,4] rfl⟩⟩
            refine ay ?_
            exact⟨x37,x31,v38,b32,h8l,⟨⟨aa,aa,aa,aa,aa,aa,aa,tv⟩,A9.of [0,1,2,3] rfl⟩⟩
          refine W_r (kUn (ak f4) ?_)
          refine kUn (au 3 ty3 bc) ?_
          refine kIn rfl rfl rfl (kMv rfl ?_)
          rcases cc h8l with⟨hc45,h8l⟩|⟨hc45,h8l⟩
          · refine kGd rfl aa hc45 (hMvA rfl) (kPt rfl hc45 rfl ?_)
            exact⟨x42,h8l,atOk⟩
          refine kSkT rfl aa hc45 (kPf rfl hc45 rfl ?_)
          exact⟨false,h8l,atOk⟩
        refine W_r (kUn (ak f4) ?_)
        refine kUn (au 3 ty3 bc) ?_
        refine kIn rfl rfl rfl (kMv rfl ?_)
        rcases cc h8l with⟨hc33,h8l⟩|⟨hc33,h8l⟩
        · refine kGd rfl aa hc33 (ak f4) ?_
          refine kGd rfl aa hc33 (au 3 ty3 bc) ?_
          refine kGd rfl aa hc33 (qInt rfl rfl rfl) (kPt rfl hc33 rfl ?_)
          exact⟨x31.Kind != 3,h8l,atOk⟩
        refine skx ?_
        refine kPf rfl hc33 rfl ?_
        exact⟨false,h8l,atOk⟩
      refine ej ?_
      obtain rfl:=ho8 _ (ojs h8l)
      exact⟨x26,v24,h4l,atOk⟩
    refine ej ?_
    obtain rfl:=ho4 _ (ojs h4l)
    exact⟨x12,v10,h2l,atOk⟩
  refine ej ?_
  obtain rfl:=ho2 _ (ojs h2l)
  exact⟨x5,v3,h,atOk⟩
theorem anc (x1:Bt) (x2:Int) (r:Int × Bool) (h:zp x1 x2=some r):Fp 49 [Pr.str x1,P6 x2] (br [P6 r.1,Pb r.2]):=by
  refine dv (rs:=[4,5]) func49 rfl ntmps49 ⟨by decide,results49⟩ dcd (fun s0=>?_)
  unfold zp at h
  refine W_rs (kAs rfl (kAs rfl (a7 (a5 ?_))))
  obtain⟨z2l,hz2,h⟩:=ah h
  obtain⟨n2,hN2⟩:=bv hz2
  refine di 0 (fun e C=>∃x3,yh x3=some r/\At [(1,P6 x3)] [] e C) ?_ ?_
  · rintro e C ⟨x3,h,a⟩
    refine W_at a ?_
    unfold yh at h
    refine W_rs (kMv rfl (kAs rfl (kAs rfl ?_)))
    obtain rfl:=osj h
    exact bg ⟨rfl,aa⟩
  refine ek (fun m e C=>∃x3,fq (fun s=>t0 x1 s) m x3=some z2l/\At [(0,Pr.str x1),(1,P6 x3)] [] e C) n2 ⟨x2,hN2,⟨⟨aa,aa,tv⟩,A9.refl _⟩⟩ ?_
  rintro m e C ⟨x3,hN2,a⟩
  refine W_at a ?_
  obtain⟨m2,w2l,rfl,h2l,hn2,ho2⟩:=bm hN2
  replace h2l:t0 x1 x3=some w2l:=h2l
  unfold t0 at h2l
  refine a7 (W_rs (kMv rfl (kMv rfl (kUn (ajm rfl underlying9) ?_))))
  refine kIn rfl rfl rfl ?_
  refine a6 h2l rfl (fun _ h2l=>?_) (fun _ h2l=>?_)
  · refine ay (a5 (W_rs (kMv rfl (kMv rfl ?_))))
    obtain⟨x6,k,h2l⟩:=ah h2l
    refine kUn (aib underlying9 k) ?_
    refine kAs rfl (a7 ?_)
    refine bo (fun e C=>∃x14,kc x3 x1 x6 x14=some w2l/\At [(0,Pr.str x1),(1,P6 x3),(6,Pr.u8 x6),(28,Pb x14)] [] e C) ?_ ?_
    · rintro e C ⟨x14,h2l,a⟩
      refine W_at a ?_
      unfold kc at h2l
      refine a6 h2l rfl (fun _ h2l=>?_) (fun _ h2l=>?_)
      · refine W_rs (kMv rfl (kIn rfl rfl rfl (kAs rfl ?_)))
        refine ej ?_
        exact⟨m2,lsu,w64 (x3+1),hn2 _ (ojs h2l),atOk⟩
      refine ay (a7 ?_)
      refine bo (fun e C=>∃x25,j0 x3 x1 x25=some w2l/\At [(0,Pr.str x1),(1,P6 x3),(53,Pb x25)] [] e C) ?_ ?_
      · rintro e C ⟨x25,h2l,a⟩
        refine W_at a ?_
        unfold j0 at h2l
        refine a6 h2l rfl (fun _ h2l=>?_) (fun _ h2l=>?_)
        · refine W_rs (kMv rfl (kAs rfl (kAs rfl ?_)))
          obtain rfl:=ho2 _ (ojs h2l)
          replace h:some (x3,true)=some r:=h
          obtain rfl:=osj h
          exact bg ⟨rfl,aa⟩
        refine ay (a7 (W_rs (kMv rfl (kMv rfl (kIn rfl rfl rfl ?_)))))
        obtain⟨x27,k,h2l⟩:=ah h2l
        refine kUn (aib underlying9 k) ?_
        refine kIn rfl rfl rfl ?_
        refine a6 h2l rfl (fun _ h2l=>?_) (fun _ h2l=>?_)
        · refine a7 (a5 ?_)
          obtain⟨z4l,hz4,h2l⟩:=ah h2l
          obtain⟨n4,hN4⟩:=bv hz4
          refine di 2 (fun e C=>∃x29,adg x29=some w2l/\At [(0,Pr.str x1),(1,P6 x29)] [] e C) ?_ ?_
          · rintro e C ⟨x29,h2l,a⟩
            refine W_at a ?_
            unfold adg at h2l
            refine ej ?_
            exact⟨m2,lsu,x29,hn2 _ (ojs h2l),atOk⟩
          refine ek (fun m e C=>∃x29,fq (fun s=>tz x1 s) m x29=some z4l/\At [(0,Pr.str x1),(1,P6 x29)] [] e C) n4 ⟨x3,hN4,⟨⟨aa,aa,tv⟩,A9.refl _⟩⟩ ?_
          rintro m e C ⟨x29,hN4,a⟩
          refine W_at a ?_
          obtain⟨m4,w4l,rfl,h4l,hn4,ho4⟩:=bm hN4
          replace h4l:tz x1 x29=some w4l:=h4l
          unfold tz at h4l
          refine a7 ?_
          refine bo (fun e C=>∃x33,t6 x29 x33=some w4l/\At [(0,Pr.str x1),(1,P6 x29),(69,Pb x33)] [] e C) ?_ ?_
          · rintro e C ⟨x33,h4l,a⟩
            refine W_at a ?_
            unfold t6 at h4l
            refine a6 h4l rfl (fun _ h4l=>?_) (fun _ h4l=>?_)
            · refine ay (a5 (W_r (kMv rfl (kIn rfl rfl rfl (kAs rfl ?_)))))
              exact⟨m4,lsu,w64 (x29+1),hn4 _ (ojs h4l),atOk⟩
            refine ej ?_
            obtain rfl:=ho4 _ (ojs h4l)
            exact⟨x29,h2l,atOk⟩
          refine W_r (kMv rfl (kMv rfl (kUn (ajm rfl underlying9) ?_)))
          refine kIn rfl rfl rfl (kMv rfl ?_)
          rcases cc h4l with⟨hc31,h4l⟩|⟨hc31,h4l⟩
          · refine kGd rfl aa hc31 (hMvA rfl) (kGd rfl aa hc31 (hMvA rfl) ?_)
            obtain⟨x32,k,h4l⟩:=ah h4l
            refine kGd rfl aa hc31 (aib underlying9 k) ?_
            refine kGd rfl aa hc31 (qInt rfl rfl rfl) (kPt rfl hc31 rfl ?_)
            exact⟨x32 != 10,h4l,atOk⟩
          refine skx ?_
          refine kPf rfl hc31 rfl ?_
          exact⟨false,h4l,atOk⟩
        refine ay (W_rs (kMv rfl (kIn rfl rfl rfl (kAs rfl (a7 (a5 ?_))))))
        obtain⟨z7l,hz7,h2l⟩:=ah h2l
        obtain⟨n7,hN7⟩:=bv hz7
        refine di 4 (fun e C=>∃x35,yg x1 x3 x35=some w2l/\At [(0,Pr.str x1),(1,P6 x3),(7,P6 x35)] [] e C) ?_ ?_
        · rintro e C ⟨x35,h2l,a⟩
          refine W_at a ?_
          unfold yg at h2l
          refine a7 (W_rs (kMv rfl (kIn rfl rfl rfl (kMv rfl (kUn (ajm rfl underlying9) ?_)))))
          refine kIn rfl rfl rfl ?_
          refine a6 h2l rfl (fun _ h2l=>?_) (fun _ h2l=>?_)
          · refine W_rs (kMv rfl (kAs rfl (kAs rfl ?_)))
            obtain rfl:=ho2 _ (ojs h2l)
            replace h:some (x3,false)=some r:=h
            obtain rfl:=osj h
            exact bg ⟨rfl,aa⟩
          refine ay (W_r (kMv rfl (kIn rfl rfl rfl (kAs rfl ?_))))
          exact⟨m2,lsu,w64 (x35+2),hn2 _ (ojs h2l),atOk⟩
        refine ek (fun m e C=>∃x35,fq (fun s=>tx x1 s) m x35=some z7l/\At [(0,Pr.str x1),(1,P6 x3),(7,P6 x35)] [] e C) n7 ⟨w64 (x3+2),hN7,⟨⟨aa,aa,aa,tv⟩,A9.refl _⟩⟩ ?_
        rintro m e C ⟨x35,hN7,a⟩
        refine W_at a ?_
        obtain⟨m7,w7l,rfl,h7l,hn7,ho7⟩:=bm hN7
        replace h7l:tx x1 x35=some w7l:=h7l
        unfold tx at h7l
        refine a7 ?_
        refine bo (fun e C=>∃x41,pw x35 x41=some w7l/\At [(0,Pr.str x1),(1,P6 x3),(7,P6 x35),(91,Pb x41)] [] e C) ?_ ?_
        · rintro e C ⟨x41,h7l,a⟩
          refine W_at a ?_
          unfold pw at h7l
          refine a6 h7l rfl (fun _ h7l=>?_) (fun _ h7l=>?_)
          · refine ay (a5 (W_r (kMv rfl (kIn rfl rfl rfl (kAs rfl ?_)))))
            exact⟨m7,lsu,w64 (x35+1),hn7 _ (ojs h7l),atOk⟩
          refine ej ?_
          obtain rfl:=ho7 _ (ojs h7l)
          exact⟨x35,h2l,atOk⟩
        refine W_r (kMv rfl (kIn rfl rfl rfl (kMv rfl (kUn (ajm rfl underlying9) ?_))))
        refine kIn rfl rfl rfl (kMv rfl ?_)
        rcases cc h7l with⟨hc37,h7l⟩|⟨hc37,h7l⟩
        · refine kGd rfl aa hc37 (hMvA rfl) (kGd rfl aa hc37 (hMvA rfl) ?_)
          obtain⟨x38,k,h7l⟩:=ah h7l
          refine kGd rfl aa hc37 (aib underlying9 k) ?_
          refine kGd rfl aa hc37 (qInt rfl rfl rfl) (kGd rfl aa hc37 (hMvA rfl) ?_)
          rcases cc h7l with⟨hc39,h7l⟩|⟨hc39,h7l⟩
          · refine skx ?_
            refine kGd rfl aa hc37 (hPt rfl hc39 rfl) (kPt rfl hc37 rfl ?_)
            exact⟨true,h7l,atOk⟩
          refine kGd rfl aa hc39 (hMvA rfl) (kGd rfl aa hc39 (hMvA rfl) (kGd rfl aa hc39 (qInt rfl rfl rfl) ?_))
          obtain⟨x40,k,h7l⟩:=ah h7l
          refine kGd rfl aa hc39 (aib underlying9 k) ?_
          refine kGd rfl aa hc39 (qInt rfl rfl rfl) (kGd rfl aa hc37 (hPf rfl hc39 rfl) (kPt rfl hc37 rfl ?_))
          exact⟨x40 != 47,h7l,atOk⟩
        refine skx ?_
        refine kPf rfl hc37 rfl ?_
        exact⟨false,h7l,atOk⟩
      refine W_r (kMv rfl (kIn rfl rfl rfl (kMv rfl (kUn (ajm rfl underlying9) ?_))))
      refine kIn rfl rfl rfl (kMv rfl ?_)
      rcases cc h2l with⟨hc16,h2l⟩|⟨hc16,h2l⟩
      · refine skx ?_
        refine kPt rfl hc16 rfl (kMv rfl ?_)
        have hc21:true=true:=rfl
        refine skx ?_
        refine kPt rfl hc21 rfl ?_
        exact⟨true,h2l,atOk⟩
      refine kGd rfl aa hc16 (hMvA rfl) (kGd rfl aa hc16 (qInt rfl rfl rfl) (kPf rfl hc16 rfl (kMv rfl ?_)))
      rcases cc h2l with⟨hc17,h2l⟩|⟨hc17,h2l⟩
      · refine skx ?_
        refine kPt rfl hc17 rfl ?_
        exact⟨true,h2l,atOk⟩
      refine kGd rfl aa hc17 (hMvA rfl) (kGd rfl aa hc17 (hMvA rfl) (kGd rfl aa hc17 (qInt rfl rfl rfl) ?_))
      obtain⟨x18,k,h2l⟩:=ah h2l
      refine kGd rfl aa hc17 (aib underlying9 k) ?_
      refine kGd rfl aa hc17 (qInt rfl rfl rfl) (kGd rfl aa hc17 (hMvA rfl) ?_)
      rcases cc h2l with⟨hc19,h2l⟩|⟨hc19,h2l⟩
      · refine kGd rfl aa hc19 (hMvA rfl) (kGd rfl aa hc19 (hMvA rfl) (kGd rfl aa hc19 (qInt rfl rfl rfl) ?_))
        obtain⟨x20,k,h2l⟩:=ah h2l
        refine kGd rfl aa hc19 (aib underlying9 k) ?_
        refine kGd rfl aa hc19 (qInt rfl rfl rfl) (kGd rfl aa hc17 (hPt rfl hc19 rfl) (kPf rfl hc17 rfl ?_))
        exact⟨x20 != 42,h2l,atOk⟩
      refine skx ?_
      refine kGd rfl aa hc17 (hPf rfl hc19 rfl) (kPf rfl hc17 rfl ?_)
      exact⟨false,h2l,atOk⟩
    refine W_r (kMv rfl (kIn rfl rfl rfl (kMv rfl ?_)))
    rcases cc h2l with⟨hc7,h2l⟩|⟨hc7,h2l⟩
    · refine skx ?_
      refine kPt rfl hc7 rfl (kMv rfl ?_)
      have hc11:true=true:=rfl
      refine skx ?_
      refine kPt rfl hc11 rfl (kMv rfl ?_)
      have hc13:true=true:=rfl
      refine skx ?_
      refine kPt rfl hc13 rfl ?_
      exact⟨true,h2l,atOk⟩
    refine kGd rfl aa hc7 (hMvA rfl) (kGd rfl aa hc7 (qInt rfl rfl rfl) (kPf rfl hc7 rfl (kMv rfl ?_)))
    rcases cc h2l with⟨hc8,h2l⟩|⟨hc8,h2l⟩
    · refine skx ?_
      refine kPt rfl hc8 rfl (kMv rfl ?_)
      have hc10:true=true:=rfl
      refine skx ?_
      refine kPt rfl hc10 rfl ?_
      exact⟨true,h2l,atOk⟩
    refine kGd rfl aa hc8 (hMvA rfl) (kGd rfl aa hc8 (qInt rfl rfl rfl) (kPf rfl hc8 rfl (kMv rfl ?_)))
    rcases cc h2l with⟨hc9,h2l⟩|⟨hc9,h2l⟩
    · refine skx ?_
      refine kPt rfl hc9 rfl ?_
      exact⟨true,h2l,atOk⟩
    refine kGd rfl aa hc9 (hMvA rfl) (kGd rfl aa hc9 (qInt rfl rfl rfl) (kPf rfl hc9 rfl ?_))
    exact⟨x6==13,h2l,atOk⟩
  refine ej ?_
  obtain rfl:=ho2 _ (ojs h2l)
  exact⟨x3,h,atOk⟩
theorem agj (x1:Int) (r:Bool) (h:s6 x1=some r):Fp 87 [Pr.u8 x1] (Pb r):=by
 refine dv (rs:=[2]) func87 rfl ntmps87 ⟨by decide,results87⟩ dcd (fun s0=>?_)
 unfold s6 at h
 refine W_rs (kAs rfl ?_)
 refine bo (fun e C=>∃x3,xm x3=some r/\At [(2,Pb x3)] [] e C) ?_ ?_
 ·rintro e C ⟨x3,h,a⟩
  refine W_at a ?_
  unfold xm at h
  obtain rfl:=osj h
  exact bg ⟨rfl,aa⟩
 refine W_r (kMv rfl (kIn rfl rfl rfl (kMv rfl ?_)))
 rcases cc h with⟨hc2,h⟩|⟨hc2,h⟩
 ·refine kGd rfl aa hc2 (hMvA rfl) (kGd rfl aa hc2 (qInt rfl rfl rfl) (kPt rfl hc2 rfl (kAs rfl ?_)))
  exact⟨decide (x1<=57),h,atOk⟩
 refine skx ?_
 refine kPf rfl hc2 rfl (kAs rfl ?_)
 exact⟨false,h,atOk⟩
theorem aqm (x1:Bt) (r:Bool) (h:aek x1=some r):Fp 88 [Pr.str x1] (Pb r):=by
 refine dv (rs:=[2]) func88 rfl ntmps88 ⟨by decide,results88⟩ dcd (fun s0=>?_)
 unfold aek at h
 refine W_rs (kAs rfl (a7 (W_rs (kMv rfl (kUn (ajm rfl underlying9) ?_)))))
 refine kIn rfl rfl rfl ?_
 refine a6 h rfl (fun _ h=>?_) (fun _ h=>?_)
 ·refine W_rs (kAs rfl ?_)
  obtain rfl:=osj h
  exact bg ⟨rfl,aa⟩
 refine ay (W_rs (kAs rfl (a7 (W_rs (kAs rfl (a5 ?_))))))
 obtain⟨z2l,hz2,h⟩:=ah h
 obtain⟨n2,hN2⟩:=bv hz2
 refine di 0 (fun e C=>∃x3,acd x3=some r/\At [(3,P6 x3)] [] e C) ?_ ?_
 ·rintro e C ⟨x3,h,a⟩
  refine W_at a ?_
  unfold acd at h
  refine W_rs (kMv rfl (kIn rfl rfl rfl (kAs rfl ?_)))
  obtain rfl:=osj h
  exact bg ⟨rfl,aa⟩
 refine ek (fun m e C=>∃x3,∃x4,fq (fun s=>xl x1 s.1 s.2) m (x3,x4)=some z2l/\At [(0,Pr.str x1),(3,P6 x3),(4,P6 x4)] [] e C) n2 ⟨0,0,hN2,⟨⟨aa,aa,aa,tv⟩,A9.refl _⟩⟩ ?_
 rintro m e C ⟨x3,x4,hN2,a⟩
 refine W_at a ?_
 obtain⟨m2,w2l,rfl,h2l,hn2,ho2⟩:=bm hN2
 replace h2l:xl x1 x3 x4=some w2l:=h2l
 unfold xl at h2l
 refine a7 (W_rs (kMv rfl (kMv rfl (kUn (ajm rfl underlying9) ?_))))
 refine kIn rfl rfl rfl ?_
 refine a6 h2l rfl (fun _ h2l=>?_) (fun _ h2l=>?_)
 ·refine ay (a7 (a5 (W_r (kMv rfl (kIn rfl rfl rfl (kMv rfl (kMv rfl ?_)))))))
  obtain⟨x8,k,h2l⟩:=ah h2l
  refine kUn (aib underlying9 k) ?_
  refine kIn rfl rfl rfl (kUn (an1 underlying5 underlying3) ?_)
  refine kIn rfl rfl rfl (kAs rfl (W_r (kMv rfl (kIn rfl rfl rfl (kAs rfl ?_)))))
  exact⟨m2,lsu,w64 ((w64 (10 * x3))+(w64 (IntKind.wrap .u8 (x8 - 48)))),w64 (x4+1),hn2 _ (ojs h2l),atOk⟩
 refine ej ?_
 obtain rfl:=ho2 _ (ojs h2l)
 exact⟨x3,h,atOk⟩
theorem ai9 (x1:Int) (r:Bool) (h:sv x1=some r):Fp 89 [Pr.u8 x1] (Pb r):=by
 refine dv (rs:=[2]) func89 rfl ntmps89 ⟨by decide,results89⟩ dcd (fun s0=>?_)
 unfold sv at h
 refine W_rs (kAs rfl ?_)
 refine bo (fun e C=>∃x13,k7 x13=some r/\At [(2,Pb x13)] [] e C) ?_ ?_
 ·rintro e C ⟨x13,h,a⟩
  refine W_at a ?_
  unfold k7 at h
  obtain rfl:=osj h
  exact bg ⟨rfl,aa⟩
 refine W_r (kMv rfl (kIn rfl rfl rfl (kMv rfl ?_)))
 rcases cc h with⟨hc2,h⟩|⟨hc2,h⟩
 ·refine kGd rfl aa hc2 (hMvA rfl) (kGd rfl aa hc2 (qInt rfl rfl rfl) (kPt rfl hc2 rfl (kMv rfl ?_)))
  rcases cc h with⟨hc3,h⟩|⟨hc3,h⟩
  ·refine skx ?_
   refine kPt rfl hc3 rfl (kMv rfl ?_)
   have hc7:true=true:=rfl
   refine skx ?_
   refine kPt rfl hc7 rfl (kAs rfl ?_)
   exact⟨true,h,atOk⟩
  refine kGd rfl aa hc3 (hMvA rfl) (kGd rfl aa hc3 (qInt rfl rfl rfl) (kGd rfl aa hc3 (hMvA rfl) ?_))
  rcases cc h with⟨hc4,h⟩|⟨hc4,h⟩
  ·refine kGd rfl aa hc4 (hMvA rfl) (kGd rfl aa hc4 (qInt rfl rfl rfl) (kGd rfl aa hc3 (hPt rfl hc4 rfl) (kPf rfl hc3 rfl (kMv rfl ?_))))
   rcases cc h with⟨hc5,h⟩|⟨hc5,h⟩
   ·refine skx ?_
    refine kPt rfl hc5 rfl (kAs rfl ?_)
    exact⟨true,h,atOk⟩
   refine kGd rfl aa hc5 (hMvA rfl) (kGd rfl aa hc5 (qInt rfl rfl rfl) (kPf rfl hc5 rfl (kAs rfl ?_)))
   exact⟨x1==95,h,atOk⟩
  refine skx ?_
  refine kGd rfl aa hc3 (hPf rfl hc4 rfl) (kPf rfl hc3 rfl (kMv rfl ?_))
  have hc6:false=false:=rfl
  refine kGd rfl aa hc6 (hMvA rfl) (kGd rfl aa hc6 (qInt rfl rfl rfl) (kPf rfl hc6 rfl (kAs rfl ?_)))
  exact⟨x1==95,h,atOk⟩
 refine skx ?_
 refine kPf rfl hc2 rfl (kMv rfl ?_)
 have hc8:false=false:=rfl
 refine kGd rfl aa hc8 (hMvA rfl) (kGd rfl aa hc8 (qInt rfl rfl rfl) (kGd rfl aa hc8 (hMvA rfl) ?_))
 rcases cc h with⟨hc9,h⟩|⟨hc9,h⟩
 ·refine kGd rfl aa hc9 (hMvA rfl) (kGd rfl aa hc9 (qInt rfl rfl rfl) (kGd rfl aa hc8 (hPt rfl hc9 rfl) (kPf rfl hc8 rfl (kMv rfl ?_))))
  rcases cc h with⟨hc10,h⟩|⟨hc10,h⟩
  ·refine skx ?_
   refine kPt rfl hc10 rfl (kAs rfl ?_)
   exact⟨true,h,atOk⟩
  refine kGd rfl aa hc10 (hMvA rfl) (kGd rfl aa hc10 (qInt rfl rfl rfl) (kPf rfl hc10 rfl (kAs rfl ?_)))
  exact⟨x1==95,h,atOk⟩
 refine skx ?_
 refine kGd rfl aa hc8 (hPf rfl hc9 rfl) (kPf rfl hc8 rfl (kMv rfl ?_))
 have hc11:false=false:=rfl
 refine kGd rfl aa hc11 (hMvA rfl) (kGd rfl aa hc11 (qInt rfl rfl rfl) (kPf rfl hc11 rfl (kAs rfl ?_)))
 exact⟨x1==95,h,atOk⟩
theorem atc (x1:Bt) (r:Bool) (h:pq x1=some r):Fp 90 [Pr.str x1] (Pb r):=by
 refine dv (rs:=[2]) func90 rfl ntmps90 ⟨by decide,results90⟩ dcd (fun s0=>?_)
 unfold pq at h
 refine W_rs (kAs rfl (W_rs (kUn (ny (R:=Rp.str) (ls:=([([99,108,97,115,115]:Bt),([101,120,116,101,110,100,115]:Bt),([115,116,97,116,105,99]:Bt),([118,111,105,100]:Bt),([105,110,116]:Bt),([98,111,111,108,101,97,110]:Bt),([105,102]:Bt),([101,108,115,101]:Bt),([119,104,105,108,101]:Bt),([114,101,116,117,114,110]:Bt),([112,114,105,110,116]:Bt),([116,114,117,101]:Bt),([102,97,108,115,101]:Bt),([110,117,108,108]:Bt),([116,104,105,115]:Bt),([110,101,119]:Bt)]:List Bt)) el22 nb ⟨rfl,rfl⟩ ⟨rfl,rfl,rfl,rfl,rfl,rfl,rfl,rfl,rfl,rfl,rfl,rfl,rfl,rfl,rfl,rfl,tv⟩) ?_)))
 refine kAsL rfl (a7 (W_rs (kAs rfl (a5 ?_))))
 obtain⟨z2l,hz2,h⟩:=ah h
 obtain⟨n2,hN2⟩:=bv hz2
 refine di 0 (fun e C=>ad5=some r/\At [] [] e C) ?_ ?_
 ·rintro e C ⟨h,a⟩
  refine W_at a ?_
  unfold ad5 at h
  refine W_rs (kAs rfl ?_)
  obtain rfl:=osj h
  exact bg ⟨rfl,aa⟩
 refine ek (fun m e C=>∃x2,fq (fun s=>zq x1 s) m x2=some z2l/\At [(0,Pr.str x1),(3,ap Rp.str ([([99,108,97,115,115]:Bt),([101,120,116,101,110,100,115]:Bt),([115,116,97,116,105,99]:Bt),([118,111,105,100]:Bt),([105,110,116]:Bt),([98,111,111,108,101,97,110]:Bt),([105,102]:Bt),([101,108,115,101]:Bt),([119,104,105,108,101]:Bt),([114,101,116,117,114,110]:Bt),([112,114,105,110,116]:Bt),([116,114,117,101]:Bt),([102,97,108,115,101]:Bt),([110,117,108,108]:Bt),([116,104,105,115]:Bt),([110,101,119]:Bt)]:List Bt)),(4,P6 x2)] [] e C) n2 ⟨0,hN2,⟨⟨aa,aa,aa,tv⟩,A9.refl _⟩⟩ ?_
 rintro m e C ⟨x2,hN2,a⟩
 refine W_at a ?_
 obtain⟨m2,w2l,rfl,h2l,hn2,ho2⟩:=bm hN2
 replace h2l:zq x1 x2=some w2l:=h2l
 unfold zq at h2l
 refine a7 (W_rs (kMv rfl (kMvL rfl (kUn (mg rfl underlying22) ?_))))
 refine kIn rfl rfl rfl ?_
 refine a6 h2l rfl (fun _ h2l=>?_) (fun _ h2l=>?_)
 ·refine ay (a7 (a5 (W_rs (kMvL rfl (kMv rfl ?_)))))
  obtain⟨x5,k,h2l⟩:=ah h2l
  refine kUn (fo underlying22 sizeOf9 k) ?_
  refine kUn (cz ty9) ?_
  refine kMv rfl (kSt rfl rfl rfl ?_)
  refine a6 h2l rfl (fun _ h2l=>?_) (fun _ h2l=>?_)
  ·refine W_rs (kAs rfl ?_)
   obtain rfl:=ho2 _ (ojs h2l)
   replace h:some true=some r:=h
   obtain rfl:=osj h
   exact bg ⟨rfl,aa⟩
  refine ay (W_r (kMv rfl (kIn rfl rfl rfl (kAs rfl ?_))))
  exact⟨m2,lsu,w64 (x2+1),hn2 _ (ojs h2l),atOk⟩
 refine ej ?_
 obtain rfl:=ho2 _ (ojs h2l)
 exact⟨h,atOk⟩
theorem atb (x1:Bt) (x2 r:Int) (h:ag3 x1 x2=some r):Fp 91 [Pr.str x1,P6 x2] (P6 r):=by
 refine dv (rs:=[4]) func91 rfl ntmps91 ⟨by decide,results91⟩ dcd (fun s0=>?_)
 unfold ag3 at h
 refine W_rs (kAs rfl (W_rs (kUn (ny (R:=Rp.str) (ls:=([([61,61]:Bt),([33,61]:Bt),([60,61]:Bt),([62,61]:Bt),([38,38]:Bt),([124,124]:Bt)]:List Bt)) el22 nb ⟨rfl,rfl⟩ ⟨rfl,rfl,rfl,rfl,rfl,rfl,tv⟩) ?_)))
 refine kAsL rfl (a7 (W_rs (kAs rfl (a5 ?_))))
 obtain⟨z5l,hz5,h⟩:=ah h
 obtain⟨n5,hN5⟩:=bv hz5
 refine di 0 (fun e C=>zn x1 x2=some r/\At [(0,Pr.str x1),(1,P6 x2)] [] e C) ?_ ?_
 ·rintro e C ⟨h,a⟩
  refine W_at a ?_
  unfold zn at h
  refine W_rs (kAs rfl (a7 (W_rs (kAs rfl (a5 ?_)))))
  obtain⟨z2l,hz2,h⟩:=ah h
  obtain⟨n2,hN2⟩:=bv hz2
  refine di 2 (fun e C=>ad2=some r/\At [] [] e C) ?_ ?_
  ·rintro e C ⟨h,a⟩
   refine W_at a ?_
   unfold ad2 at h
   refine W_rs (kAs rfl ?_)
   obtain rfl:=osj h
   exact bg ⟨rfl,aa⟩
  refine ek (fun m e C=>∃x11,fq (fun s=>zm x1 x2 s) m x11=some z2l/\At [(0,Pr.str x1),(1,P6 x2),(7,Pr.str ([43,45,42,47,37,60,62,61,33,40,41,123,125,59,44,46]:Bt)),(8,P6 x11)] [] e C) n2 ⟨0,hN2,⟨⟨aa,aa,aa,aa,tv⟩,A9.refl _⟩⟩ ?_
  rintro m e C ⟨x11,hN2,a⟩
  refine W_at a ?_
  obtain⟨m2,w2l,rfl,h2l,hn2,ho2⟩:=bm hN2
  replace h2l:zm x1 x2 x11=some w2l:=h2l
  unfold zm at h2l
  refine a7 (W_rs (kMv rfl (kMv rfl (kUn (ajm rfl underlying9) ?_))))
  refine kIn rfl rfl rfl ?_
  refine a6 h2l rfl (fun _ h2l=>?_) (fun _ h2l=>?_)
  ·refine ay (a7 (a5 ?_))
   refine bo (fun e C=>∃x14,∃x15,ad4 x11 x14 x15=some w2l/\At [(0,Pr.str x1),(1,P6 x2),(7,Pr.str ([43,45,42,47,37,60,62,61,33,40,41,123,125,59,44,46]:Bt)),(8,P6 x11),(45,Pb (x14==x15))] [] e C) ?_ ?_
   ·rintro e C ⟨x14,x15,h2l,a⟩
    refine W_at a ?_
    unfold ad4 at h2l
    refine a6 h2l rfl (fun _ h2l=>?_) (fun _ h2l=>?_)
    ·refine W_rs (kAs rfl ?_)
     obtain rfl:=ho2 _ (ojs h2l)
     replace h:some 1=some r:=h
     obtain rfl:=osj h
     exact bg ⟨rfl,aa⟩
    refine ay (W_r (kMv rfl (kIn rfl rfl rfl (kAs rfl ?_))))
    exact⟨m2,lsu,w64 (x11+1),hn2 _ (ojs h2l),atOk⟩
   refine i8 7 hmx kr kr ?_
   refine lUn (hMvA rfl) (lUn (hMvA rfl) ?_)
   obtain⟨x14,k,h2l⟩:=ah h2l
   refine lUn (aib underlying9 k) ?_
   refine lUn (hMvA rfl) (lUn (hMvA rfl) ?_)
   obtain⟨x15,k,h2l⟩:=ah h2l
   refine lUn (aib underlying9 k) ?_
   refine lUn (qInt rfl rfl rfl) ?_
   exact⟨x14,x15,h2l,atOk⟩
  refine ej ?_
  obtain rfl:=ho2 _ (ojs h2l)
  exact⟨h,atOk⟩
 refine ek (fun m e C=>∃x3,fq (fun s=>zl x1 x2 s) m x3=some z5l/\At [(0,Pr.str x1),(1,P6 x2),(5,ap Rp.str ([([61,61]:Bt),([33,61]:Bt),([60,61]:Bt),([62,61]:Bt),([38,38]:Bt),([124,124]:Bt)]:List Bt)),(6,P6 x3)] [] e C) n5 ⟨0,hN5,⟨⟨aa,aa,aa,aa,tv⟩,A9.refl _⟩⟩ ?_
 rintro m e C ⟨x3,hN5,a⟩
 refine W_at a ?_
 obtain⟨m5,w5l,rfl,h5l,hn5,ho5⟩:=bm hN5
 replace h5l:zl x1 x2 x3=some w5l:=h5l
 unfold zl at h5l
 refine a7 ?_
 refine bo (fun e C=>∃x6,zo x1 x2 x3 x6=some w5l/\At [(0,Pr.str x1),(1,P6 x2),(5,ap Rp.str ([([61,61]:Bt),([33,61]:Bt),([60,61]:Bt),([62,61]:Bt),([38,38]:Bt),([124,124]:Bt)]:List Bt)),(6,P6 x3),(20,Pb x6)] [] e C) ?_ ?_
 ·rintro e C ⟨x6,h5l,a⟩
  refine W_at a ?_
  unfold zo at h5l
  refine a6 h5l rfl (fun _ h5l=>?_) (fun _ h5l=>?_)
  ·refine ay (a7 (a5 ?_))
   refine bo (fun e C=>∃x8,∃x9,ad3 x3 x8 x9=some w5l/\At [(0,Pr.str x1),(1,P6 x2),(5,ap Rp.str ([([61,61]:Bt),([33,61]:Bt),([60,61]:Bt),([62,61]:Bt),([38,38]:Bt),([124,124]:Bt)]:List Bt)),(6,P6 x3),(32,Pb (x8==x9))] [] e C) ?_ ?_
   ·rintro e C ⟨x8,x9,h5l,a⟩
    refine W_at a ?_
    unfold ad3 at h5l
    refine a6 h5l rfl (fun _ h5l=>?_) (fun _ h5l=>?_)
    ·refine W_rs (kAs rfl ?_)
     obtain rfl:=ho5 _ (ojs h5l)
     replace h:some 2=some r:=h
     obtain rfl:=osj h
     exact bg ⟨rfl,aa⟩
    refine ay (W_r (kMv rfl (kIn rfl rfl rfl (kAs rfl ?_))))
    exact⟨m5,lsu,w64 (x3+1),hn5 _ (ojs h5l),atOk⟩
   refine i8 10 hmx kr kr ?_
   refine lUn (hMvA rfl) (lUn (hMvA rfl) (lUn (hMvA rfl) (lUn (qInt rfl rfl rfl) ?_)))
   obtain⟨x8,k,h5l⟩:=ah h5l
   refine lUn (atp underlying9 k) ?_
   refine lUn (hMvL rfl) (lUn (hMvA rfl) ?_)
   obtain⟨x9,k,h5l⟩:=ah h5l
   refine lUn (fo underlying22 sizeOf9 k) ?_
   refine lUn (cz ty9) ?_
   refine lUn (qStr rfl rfl rfl) ?_
   exact⟨x8,x9,h5l,atOk⟩
  refine ej ?_
  obtain rfl:=ho5 _ (ojs h5l)
  exact⟨h,atOk⟩
 refine W_r (kMv rfl (kMvL rfl (kUn (mg rfl underlying22) ?_)))
 refine kIn rfl rfl rfl (kMv rfl ?_)
 rcases cc h5l with⟨hc5,h5l⟩|⟨hc5,h5l⟩
 ·refine kGd rfl aa hc5 (hMvA rfl) (kGd rfl aa hc5 (qInt rfl rfl rfl) (kGd rfl aa hc5 (hMvA rfl) (kGd rfl aa hc5 (ajm rfl underlying9) ?_)))
  refine kGd rfl aa hc5 (qInt rfl rfl rfl) (kPt rfl hc5 rfl ?_)
  exact⟨decide ((w64 (x2+2))<=(x1.length:Int)),h5l,atOk⟩
 refine skx ?_
 refine kPf rfl hc5 rfl ?_
 exact⟨false,h5l,atOk⟩
theorem aql (x1:Bt) (x2:Int) (r:Int × Int × Int) (h:aej x1 x2=some r):Fp 50 [Pr.str x1,P6 x2] (br [P6 r.1,P6 r.2.1,P6 r.2.2]):=by
 refine dv (rs:=[4,5,6]) func50 rfl ntmps50 ⟨by decide,results50⟩ dcd (fun s0=>?_)
 unfold aej at h
 refine W_rs (kAs rfl (kAs rfl (kAs rfl (W_rs (kAs rfl (a7 (W_rs (kMv rfl (kMv rfl ?_)))))))))
 obtain⟨x3,k,h⟩:=ah h
 refine kUn (aib underlying9 k) ?_
 refine c8 h (agj x3) rfl fun x4 _ h=>?_
 refine a6 h rfl (fun _ h=>?_) (fun _ h=>?_)
 ·refine a7 (a5 ?_)
  obtain⟨z3l,hz3,h⟩:=ah h
  obtain⟨n3,hN3⟩:=bv hz3
  refine di 0 (fun e C=>∃x6,acb x1 x2 x6=some r/\At [(0,Pr.str x1),(1,P6 x2),(7,P6 x6)] [] e C) ?_ ?_
  ·rintro e C ⟨x6,h,a⟩
   refine W_at a ?_
   unfold acb at h
   refine W_rs (kMv rfl (kMv rfl (kMv rfl (kMv rfl (kIn rfl rfl rfl ?_)))))
   obtain⟨x13,k,h⟩:=ah h
   refine kUn (atp underlying9 k) ?_
   refine c8 h (aqm x13) rfl fun x14 _ h=>kAs rfl (a7 ?_)
   refine bo (fun e C=>∃x18,rc x6 x18=some r/\At [(7,P6 x6),(47,Pb x18)] [] e C) ?_ ?_
   ·rintro e C ⟨x18,h,a⟩
    refine W_at a ?_
    unfold rc at h
    refine a6 h rfl (fun _ h=>?_) (fun _ h=>?_)
    ·refine W_rs (kAs rfl (kAs rfl (kAs rfl ?_)))
     obtain rfl:=osj h
     exact bg ⟨rfl,aa⟩
    refine ay (W_rs (kMv rfl (kAs rfl (kAs rfl (kAs rfl ?_)))))
    obtain rfl:=osj h
    exact bg ⟨rfl,aa⟩
   refine W_r (kMv rfl (kMv rfl ?_))
   rcases cc h with⟨hc15,h⟩|⟨hc15,h⟩
   ·refine skx ?_
    refine kPt rfl hc15 rfl ?_
    exact⟨true,h,atOk⟩
   refine kGd rfl aa hc15 (hMvA rfl) (kGd rfl aa hc15 (qInt rfl rfl rfl) (kGd rfl aa hc15 (hMvA rfl) ?_))
   rcases cc h with⟨hc16,h⟩|⟨hc16,h⟩
   ·refine kGd rfl aa hc16 (hMvA rfl) (kGd rfl aa hc16 (hMvA rfl) ?_)
    obtain⟨x17,k,h⟩:=ah h
    refine kGd rfl aa hc16 (aib underlying9 k) ?_
    refine kGd rfl aa hc16 (qInt rfl rfl rfl) (kGd rfl aa hc15 (hPt rfl hc16 rfl) (kPf rfl hc15 rfl ?_))
    exact⟨x17==48,h,atOk⟩
   refine skx ?_
   refine kGd rfl aa hc15 (hPf rfl hc16 rfl) (kPf rfl hc15 rfl ?_)
   exact⟨false,h,atOk⟩
  refine ek (fun m e C=>∃x6,fq (fun s=>uj x2 x1 s) m x6=some z3l/\At [(0,Pr.str x1),(1,P6 x2),(7,P6 x6)] [] e C) n3 ⟨0,hN3,⟨⟨aa,aa,aa,tv⟩,A9.refl _⟩⟩ ?_
  rintro m e C ⟨x6,hN3,a⟩
  refine W_at a ?_
  obtain⟨m3,w3l,rfl,h3l,hn3,ho3⟩:=bm hN3
  replace h3l:uj x2 x1 x6=some w3l:=h3l
  unfold uj at h3l
  refine a7 ?_
  refine bo (fun e C=>∃x11,uk x6 x11=some w3l/\At [(0,Pr.str x1),(1,P6 x2),(7,P6 x6),(27,Pb x11)] [] e C) ?_ ?_
  ·rintro e C ⟨x11,h3l,a⟩
   refine W_at a ?_
   unfold uk at h3l
   refine a6 h3l rfl (fun _ h3l=>?_) (fun _ h3l=>?_)
   ·refine ay (a5 (W_r (kMv rfl (kIn rfl rfl rfl (kAs rfl ?_)))))
    exact⟨m3,lsu,w64 (x6+1),hn3 _ (ojs h3l),atOk⟩
   refine ej ?_
   obtain rfl:=ho3 _ (ojs h3l)
   exact⟨x6,h,atOk⟩
  refine W_r (kMv rfl (kMv rfl (kIn rfl rfl rfl (kMv rfl (kUn (ajm rfl underlying9) ?_)))))
  refine kIn rfl rfl rfl (kMv rfl ?_)
  rcases cc h3l with⟨hc8,h3l⟩|⟨hc8,h3l⟩
  ·refine kGd rfl aa hc8 (hMvA rfl) (kGd rfl aa hc8 (hMvA rfl) (kGd rfl aa hc8 (hMvA rfl) (kGd rfl aa hc8 (qInt rfl rfl rfl) ?_)))
   obtain⟨x9,k,h3l⟩:=ah h3l
   refine kGd rfl aa hc8 (aib underlying9 k) ?_
   obtain⟨x10,k,h3l⟩:=ah h3l
   refine kGd rfl aa hc8 (dz (agj x9 _ k)) ?_
   refine kPt rfl hc8 rfl ?_
   exact⟨x10,h3l,atOk⟩
  refine skx ?_
  refine kPf rfl hc8 rfl ?_
  exact⟨false,h3l,atOk⟩
 refine ay (a7 (W_rs (kMv rfl (kMv rfl ?_))))
 obtain⟨x20,k,h⟩:=ah h
 refine kUn (aib underlying9 k) ?_
 refine c8 h (ai9 x20) rfl fun x21 _ h=>?_
 refine a6 h rfl (fun _ h=>?_) (fun _ h=>?_)
 ·refine a7 (a5 ?_)
  obtain⟨z6l,hz6,h⟩:=ah h
  obtain⟨n6,hN6⟩:=bv hz6
  refine di 2 (fun e C=>∃x23,aca x1 x2 x23=some r/\At [(0,Pr.str x1),(1,P6 x2),(7,P6 x23)] [] e C) ?_ ?_
  ·rintro e C ⟨x23,h,a⟩
   refine W_at a ?_
   unfold aca at h
   refine a7 (W_rs (kMv rfl (kIn rfl rfl rfl ?_)))
   refine a6 h rfl (fun _ h=>?_) (fun _ h=>?_)
   ·refine W_rs (kAs rfl (kAs rfl (kAs rfl ?_)))
    obtain rfl:=osj h
    exact bg ⟨rfl,aa⟩
   refine ay (W_rs (kMv rfl (kMv rfl (kMv rfl (kMv rfl (kIn rfl rfl rfl ?_))))))
   obtain⟨x34,k,h⟩:=ah h
   refine kUn (atp underlying9 k) ?_
   refine c8 h (atc x34) rfl fun x35 _ h=>kAs rfl (a7 (W_rs (kMv rfl ?_)))
   refine a6 h rfl (fun _ h=>?_) (fun _ h=>?_)
   ·refine W_rs (kMv rfl (kAs rfl (kAs rfl (kAs rfl ?_))))
    obtain rfl:=osj h
    exact bg ⟨rfl,aa⟩
   refine ay (W_rs (kMv rfl (kAs rfl (kAs rfl (kAs rfl ?_)))))
   obtain rfl:=osj h
   exact bg ⟨rfl,aa⟩
  refine ek (fun m e C=>∃x23,fq (fun s=>ui x2 x1 s) m x23=some z6l/\At [(0,Pr.str x1),(1,P6 x2),(7,P6 x23)] [] e C) n6 ⟨0,hN6,⟨⟨aa,aa,aa,tv⟩,A9.refl _⟩⟩ ?_
  rintro m e C ⟨x23,hN6,a⟩
  refine W_at a ?_
  obtain⟨m6,w6l,rfl,h6l,hn6,ho6⟩:=bm hN6
  replace h6l:ui x2 x1 x23=some w6l:=h6l
  unfold ui at h6l
  refine a7 ?_
  refine bo (fun e C=>∃x31,rb x23 x31=some w6l/\At [(0,Pr.str x1),(1,P6 x2),(7,P6 x23),(74,Pb x31)] [] e C) ?_ ?_
  ·rintro e C ⟨x31,h6l,a⟩
   refine W_at a ?_
   unfold rb at h6l
   refine a6 h6l rfl (fun _ h6l=>?_) (fun _ h6l=>?_)
   ·refine ay (a5 (W_r (kMv rfl (kIn rfl rfl rfl (kAs rfl ?_)))))
    exact⟨m6,lsu,w64 (x23+1),hn6 _ (ojs h6l),atOk⟩
   refine ej ?_
   obtain rfl:=ho6 _ (ojs h6l)
   exact⟨x23,h,atOk⟩
  refine W_r (kMv rfl (kMv rfl (kIn rfl rfl rfl (kMv rfl (kUn (ajm rfl underlying9) ?_)))))
  refine kIn rfl rfl rfl (kMv rfl ?_)
  rcases cc h6l with⟨hc25,h6l⟩|⟨hc25,h6l⟩
  ·refine kGd rfl aa hc25 (hMvA rfl) (kGd rfl aa hc25 (hMvA rfl) (kGd rfl aa hc25 (hMvA rfl) (kGd rfl aa hc25 (qInt rfl rfl rfl) ?_)))
   obtain⟨x26,k,h6l⟩:=ah h6l
   refine kGd rfl aa hc25 (aib underlying9 k) ?_
   obtain⟨x27,k,h6l⟩:=ah h6l
   refine kGd rfl aa hc25 (dz (ai9 x26 _ k)) ?_
   refine kGd rfl aa hc25 (hMvA rfl) ?_
   rcases cc h6l with⟨hc28,h6l⟩|⟨hc28,h6l⟩
   ·refine skx ?_
    refine kGd rfl aa hc25 (hPt rfl hc28 rfl) (kPt rfl hc25 rfl ?_)
    exact⟨true,h6l,atOk⟩
   refine kGd rfl aa hc28 (hMvA rfl) (kGd rfl aa hc28 (hMvA rfl) (kGd rfl aa hc28 (hMvA rfl) (kGd rfl aa hc28 (qInt rfl rfl rfl) ?_)))
   obtain⟨x29,k,h6l⟩:=ah h6l
   refine kGd rfl aa hc28 (aib underlying9 k) ?_
   obtain⟨x30,k,h6l⟩:=ah h6l
   refine kGd rfl aa hc28 (dz (agj x29 _ k)) ?_
   refine kGd rfl aa hc25 (hPf rfl hc28 rfl) (kPt rfl hc25 rfl ?_)
   exact⟨x30,h6l,atOk⟩
  refine skx ?_
  refine kPf rfl hc25 rfl ?_
  exact⟨false,h6l,atOk⟩
 refine ay (W_rs (kMv rfl (kMv rfl (c8 h (atb x1 x2) rfl fun x37 _ h=>kAs rfl (a7 (W_rs (kMv rfl (kIn rfl rfl rfl ?_))))))))
 refine a6 h rfl (fun _ h=>?_) (fun _ h=>?_)
 ·refine W_rs (kAs rfl (kAs rfl (kAs rfl ?_)))
  obtain rfl:=osj h
  exact bg ⟨rfl,aa⟩
 refine ay (W_rs (kMv rfl (kAs rfl (kAs rfl (kAs rfl ?_)))))
 obtain rfl:=osj h
 exact bg ⟨rfl,aa⟩
theorem auq (x1:Bt) (r:(List C6) × Int × Int) (h:aik x1=some r):Fp 21 [Pr.str x1] (br [ap cg r.1,P6 r.2.1,P6 r.2.2]):=by
 refine dv (rs:=[2,3,4]) func21 rfl ntmps21 ⟨by decide,results21⟩ dcd (fun s0=>?_)
 unfold aik at h
 refine W_rs (kAs rfl (kAs rfl (kAs rfl (a7 (W_rs (kMv rfl (kUn (ajm rfl underlying9) ?_)))))))
 refine kIn rfl rfl rfl ?_
 refine a6 h rfl (fun _ h=>?_) (fun _ h=>?_)
 ·refine W_rs (kAs rfl (kAs rfl (kAs rfl ?_)))
  obtain rfl:=osj h
  exact bg ⟨rfl,aqx ⟨el _,aa,aa,tv⟩⟩
 refine ay (W_rs (kAs rfl (W_rs (kAs rfl (a5 ?_)))))
 obtain⟨n1,hN1⟩:=bv h
 refine ah6 [5] cg 45 (fun v24=>?_) ⟨rfl,tv⟩
 refine ek (fun m e C=>∃x4,∃x5,∃v3,fq (fun s=>acu x1 s.1 s.2) m (x4,x5)=some r/\At [(0,Pr.str x1),(5,Pi v3),(6,P6 x4)] [E6 v3 cg x5 45] e C) n1 ⟨0,[],v24,hN1,⟨⟨aa,aa,aa,tv⟩,A9.refl _⟩⟩ ?_
 rintro m e C ⟨x4,x5,v3,hN1,a⟩
 refine W_at a ?_
 obtain⟨m1,w1l,rfl,h1l,hn1,ho1⟩:=bm hN1
 replace h1l:acu x1 x4 x5=some w1l:=h1l
 unfold acu at h1l
 refine a5 (W_rs (kMv rfl (kMv rfl ?_)))
 obtain⟨⟨x9,x10⟩,k,h1l⟩:=ah h1l
 refine kUn (dz (anc x1 x4 _ k)) ?_
 refine kUn (hMv (out:=br [P6 x9,Pb x10]) rfl) (kUn ar ?_)
 refine kUn ar ?_
 refine kAs rfl (kAs rfl (a7 (W_rs (kMv rfl (kNo rfl ?_)))))
 refine a6 h1l rfl (fun _ h1l=>?_) (fun _ h1l=>?_)
 ·refine W_rs (kMv rfl (kAs rfl (kAs rfl (kAs rfl ?_))))
  have h:some ([],x9,32)=some r:=congrArg some (ho1 _ (ojs h1l))
  obtain rfl:=osj h
  exact bg ⟨rfl,aqx ⟨el _,aa,aa,tv⟩⟩
 refine ay (a7 (W_rs (kMv rfl (kMv rfl (kUn (ajm rfl underlying9) ?_)))))
 refine kIn rfl rfl rfl ?_
 refine a6 h1l rfl (fun _ h1l=>?_) (fun _ h1l=>?_)
 ·refine W_rs (kMv rfl (kMv rfl (kMv rfl (kMv rfl ?_))))
  obtain⟨x13,k,h1l⟩:=ah h1l
  refine kUn (qSubL underlying9 k) ?_
  refine kUn (jm st45 ⟨(C6.mk 5 [] 0 []),⟨_,rfl,rfl,qbj⟩,⟨(C6.mk 5 [] x9 []),⟨_,rfl,rfl,qbj⟩,⟨(C6.mk 5 [] x9 x13),⟨_,rfl,rfl,qbj⟩,rfl⟩⟩⟩) ?_
  refine kUn (cq (R:=cg) (a:=(C6.mk 5 [] x9 x13)) el41 nb) ?_
  obtain⟨x14,k,h1l⟩:=ah h1l
  refine ik 0 el41 k (fun v15=>?_)
  refine kAs rfl (kAs rfl (kAs rfl ?_))
  have h:some (x14,0,0)=some r:=congrArg some (ho1 _ (ojs h1l))
  refine ar0 0 [2] ?_ rfl ⟨rfl,tv⟩
  obtain rfl:=osj h
  exact bg ⟨rfl,aa⟩
 refine ay (W_rs (kMv rfl (kMv rfl ?_)))
 obtain⟨⟨x16,x17,x18⟩,k,h1l⟩:=ah h1l
 refine kUn (dz (aql x1 x9 _ k)) ?_
 refine kUn (hMv (out:=br [P6 x16,P6 x17,P6 x18]) rfl) (kUn ar ?_)
 refine kUn ar ?_
 refine kUn ar ?_
 refine kAs rfl (kAs rfl (kAs rfl (a7 (W_rs (kMv rfl (kIn rfl rfl rfl ?_))))))
 refine a6 h1l rfl (fun _ h1l=>?_) (fun _ h1l=>?_)
 ·refine W_rs (kMv rfl (kMv rfl (kAs rfl (kAs rfl (kAs rfl ?_)))))
  have h:some ([],x9,x18)=some r:=congrArg some (ho1 _ (ojs h1l))
  obtain rfl:=osj h
  exact bg ⟨rfl,aqx ⟨el _,aa,aa,tv⟩⟩
 refine ay ?_
 refine bo (fun e C=>∃x22,∃v23,afg x9 x17 x22=some w1l/\At [(0,Pr.str x1),(5,Pi v23),(7,P6 x9),(10,P6 x17)] [E6 v23 cg x22 45] e C) ?_ ?_
 ·rintro e C ⟨x22,v23,h1l,a⟩
  refine W_at a ?_
  unfold afg at h1l
  refine W_r (kMv rfl (kMv rfl (kIn rfl rfl rfl (kAs rfl ?_))))
  exact⟨m1,lsu,w64 (x9+x17),x22,v23,hn1 _ (ojs h1l),atOk⟩
 refine i8 15 hmx kr kr ?_
 refine lUn (hMvA rfl) (lUn (hMvA rfl) (lUn (hMvA rfl) (lUn (hMvA rfl) (lUn (hMvA rfl) (lUn (hMvA rfl) (lUn (qInt rfl rfl rfl) ?_))))))
 obtain⟨x20,k,h1l⟩:=ah h1l
 refine lUn (atp underlying9 k) ?_
 refine lUn (hMvA rfl) (lUn (hMvA rfl) (lUn (hMvA rfl) (lUn (hMvA rfl) ?_)))
 obtain⟨x21,k,h1l⟩:=ah h1l
 refine lUn (atp underlying9 k) ?_
 refine lUn (jm st45 ⟨(C6.mk x16 [] 0 []),⟨_,rfl,rfl,qbj⟩,⟨(C6.mk x16 x20 0 []),⟨_,rfl,rfl,qbj⟩,⟨(C6.mk x16 x20 x9 []),⟨_,rfl,rfl,qbj⟩,⟨(C6.mk x16 x20 x9 x21),⟨_,rfl,rfl,qbj⟩,rfl⟩⟩⟩⟩) ?_
 refine lUn (cq (R:=cg) (a:=(C6.mk x16 x20 x9 x21)) el41 nb) ?_
 obtain⟨x22,k,h1l⟩:=ah h1l
 refine ik 0 el41 k (fun v23=>?_)
 refine kAs rfl ?_
 exact⟨x22,v23,h1l,atOk⟩
theorem cb (x1:List C6) (x2:Int) (x3:Bt) (r:Bool) (h:de x1 x2 x3=some r):Fp 92 [ap cg x1,P6 x2,Pr.str x3] (Pb r):=by
 refine dv (rs:=[6]) func92 rfl ntmps92 ⟨by decide,results92⟩ dcd (fun s0=>?_)
 unfold de at h
 refine W_rs (kAs rfl ?_)
 refine bo (fun e C=>∃x18,yo x18=some r/\At [(6,Pb x18)] [] e C) ?_ ?_
 ·rintro e C ⟨x18,h,a⟩
  refine W_at a ?_
  unfold yo at h
  obtain rfl:=osj h
  exact bg ⟨rfl,aa⟩
 refine W_r (kMv rfl (kMvL rfl (kUn (mg rfl underlying41) ?_)))
 refine kIn rfl rfl rfl (kMv rfl ?_)
 rcases cc h with⟨hc4,h⟩|⟨hc4,h⟩
 ·refine kGd rfl aa hc4 (hMvL rfl) (kGd rfl aa hc4 (hMvA rfl) ?_)
  obtain⟨x5,k,h⟩:=ah h
  refine kGd rfl aa hc4 (fo underlying41 sizeOf45 k) ?_
  refine kGd rfl aa hc4 (jb aat ge) ?_
  refine kGd rfl aa hc4 (cz ty9) ?_
  refine kGd rfl aa hc4 (hMvA rfl) (kGd rfl aa hc4 (qStr rfl rfl rfl) (kPt rfl hc4 rfl (kMv rfl ?_)))
  rcases cc h with⟨hc6,h⟩|⟨hc6,h⟩
  ·refine kGd rfl aa hc6 (hMvL rfl) (kGd rfl aa hc6 (hMvA rfl) ?_)
   obtain⟨x7,k,h⟩:=ah h
   refine kGd rfl aa hc6 (fo underlying41 sizeOf45 k) ?_
   refine kGd rfl aa hc6 (jb aod tr) ?_
   refine kGd rfl aa hc6 (cz ty3) ?_
   refine kGd rfl aa hc6 (qInt rfl rfl rfl) (kPt rfl hc6 rfl (kMv rfl ?_))
   rcases cc h with⟨hc8,h⟩|⟨hc8,h⟩
   ·refine kGd rfl aa hc8 (hMvL rfl) (kGd rfl aa hc8 (hMvA rfl) ?_)
    obtain⟨x9,k,h⟩:=ah h
    refine kGd rfl aa hc8 (fo underlying41 sizeOf45 k) ?_
    refine kGd rfl aa hc8 (jb aod tr) ?_
    refine kGd rfl aa hc8 (cz ty3) ?_
    refine kGd rfl aa hc8 (qInt rfl rfl rfl) (kPt rfl hc8 rfl (kAs rfl ?_))
    exact⟨x9.Kind != 5,h,atOk⟩
   refine skx ?_
   refine kPf rfl hc8 rfl (kAs rfl ?_)
   exact⟨false,h,atOk⟩
  refine skx ?_
  refine kPf rfl hc6 rfl (kMv rfl ?_)
  have hc10:false=false:=rfl
  refine skx ?_
  refine kPf rfl hc10 rfl (kAs rfl ?_)
  exact⟨false,h,atOk⟩
 refine skx ?_
 refine kPf rfl hc4 rfl (kMv rfl ?_)
 have hc12:false=false:=rfl
 refine skx ?_
 refine kPf rfl hc12 rfl (kMv rfl ?_)
 have hc16:false=false:=rfl
 refine skx ?_
 refine kPf rfl hc16 rfl (kAs rfl ?_)
 exact⟨false,h,atOk⟩
theorem cw (x1:Int) (r:C7) (h:dh x1=some r):Fp 93 [P6 x1] ((aj).val r):=by
 refine ec (rs:=[.cell 2 97]) func93 rfl ntmps93 results93 dcd (fun s0=>?_)
 unfold dh at h
 refine W_rs (bw al97 fun b2=>W_rs (kMv rfl (kUn (jm st97 ⟨(C7.mk x1 0),⟨_,rfl,rfl,qbj⟩,⟨(C7.mk x1 120),⟨_,rfl,rfl,qbj⟩,rfl⟩⟩) ?_)))
 refine av 0 rfl rfl (Upd.refl _) rfl sizeOf97 ?_
 obtain rfl:=osj h
 exact bg ⟨rfl,[(aj).val (C7.mk x1 120)],⟨yBox 0 ty97 aa,tv⟩,aa⟩
theorem l7 (x1:List C6) (x2:Int) (r:Bool) (h:lj x1 x2=some r):Fp 94 [ap cg x1,P6 x2] (Pb r):=by
 refine dv (rs:=[4]) func94 rfl ntmps94 ⟨by decide,results94⟩ dcd (fun s0=>?_)
 unfold lj at h
 refine W_rs (kAs rfl ?_)
 refine bo (fun e C=>∃x5,wk x5=some r/\At [(4,Pb x5)] [] e C) ?_ ?_
 ·rintro e C ⟨x5,h,a⟩
  refine W_at a ?_
  unfold wk at h
  obtain rfl:=osj h
  exact bg ⟨rfl,aa⟩
 refine W_r (kMv rfl (kMvL rfl (kUn (mg rfl underlying41) ?_)))
 refine kIn rfl rfl rfl (kMv rfl ?_)
 rcases cc h with⟨hc3,h⟩|⟨hc3,h⟩
 ·refine kGd rfl aa hc3 (hMvL rfl) (kGd rfl aa hc3 (hMvA rfl) ?_)
  obtain⟨x4,k,h⟩:=ah h
  refine kGd rfl aa hc3 (fo underlying41 sizeOf45 k) ?_
  refine kGd rfl aa hc3 (jb aod tr) ?_
  refine kGd rfl aa hc3 (cz ty3) ?_
  refine kGd rfl aa hc3 (qInt rfl rfl rfl) (kPt rfl hc3 rfl (kAs rfl ?_))
  exact⟨x4.Kind==1,h,atOk⟩
 refine skx ?_
 refine kPf rfl hc3 rfl (kAs rfl ?_)
 exact⟨false,h,atOk⟩
theorem amp (x1:List C6) (x2 r:Int) (h:agz x1 x2=some r):Fp 142 [ap cg x1,P6 x2] (P6 r):=by
 refine dv (rs:=[4]) func142 rfl ntmps142 ⟨by decide,results142⟩ dcd (fun s0=>?_)
 unfold agz at h
 refine W_rs (kAs rfl ?_)
 refine bo (fun e C=>∃x3,∃x4,afc x3 x4=some r/\At [(4,P6 (w64 (x3.At+(x4.Text.length:Int))))] [] e C) ?_ ?_
 ·rintro e C ⟨x3,x4,h,a⟩
  refine W_at a ?_
  unfold afc at h
  obtain rfl:=osj h
  exact bg ⟨rfl,aa⟩
 refine i8 15 hmx kr kr ?_
 refine lUn (hMvL rfl) (lUn (hMvA rfl) (lUn (qInt rfl rfl rfl) ?_))
 obtain⟨x3,k,h⟩:=ah h
 refine lUn (fo underlying41 sizeOf45 k) ?_
 refine lUn (jb af0 lv) ?_
 refine lUn (cz ty3) ?_
 refine lUn (hMvL rfl) (lUn (hMvA rfl) (lUn (qInt rfl rfl rfl) ?_))
 obtain⟨x4,k,h⟩:=ah h
 refine lUn (fo underlying41 sizeOf45 k) ?_
 refine lUn (jb aat ge) ?_
 refine lUn (cz ty9) ?_
 refine lUn (ajm rfl underlying9) ?_
 refine lUn (qInt rfl rfl rfl) (lUn (hAsA rfl) ?_)
 exact⟨x3,x4,h,atOk⟩
theorem ev (x1:List C6) (x2 x3 x4:Int) (x5:List B6) (r:B6) (h:gc x1 x2 x3 x4 x5=some r):Fp 96 [ap cg x1,P6 x2,P6 x3,P6 x4,ap af x5] ((af).val r):=by
 refine ec (rs:=[.cell 10 64]) func96 rfl ntmps96 results96 dcd (fun s0=>?_)
 unfold gc at h
 refine W_rs (bw al64 fun b6=>?_)
 refine bo (fun e C=>∃x7,∃x8,ady x2 x5 x7 x8=some r/\At [(10,Pr.pt b6 0)] [D9 b6 af (B6.mk x2 [] [] 0 x7.At x8 (-1) (-1) x5)] e C) ?_ ?_
 ·rintro e C ⟨x7,x8,h,a⟩
  refine W_at a ?_
  unfold ady at h
  obtain rfl:=osj h
  exact bg ⟨rfl,[(af).val (B6.mk x2 [] [] 0 x7.At x8 (-1) (-1) x5)],⟨yBox 0 ty64 aa,tv⟩,aa⟩
 refine i8 11 hmx kr kr ?_
 refine lUn (hMvA rfl) (lUn (hMvL rfl) (lUn (hMvA rfl) ?_))
 obtain⟨x7,k,h⟩:=ah h
 refine lUn (fo underlying41 sizeOf45 k) ?_
 refine lUn (jb af0 lv) ?_
 refine lUn (cz ty3) ?_
 refine lUn (hMvL rfl) (lUn (hMvA rfl) ?_)
 obtain⟨x8,k,h⟩:=ah h
 refine lUn (dz (amp x1 x4 _ k)) ?_
 refine lUn (hMvL rfl) (lUn (fr ba st64 ⟨(B6.mk x2 [] [] 0 0 0 0 0 []),⟨_,rfl,rfl,qbj⟩,⟨(B6.mk x2 [] [] 0 x7.At 0 0 0 []),⟨_,rfl,rfl,qbj⟩,⟨(B6.mk x2 [] [] 0 x7.At x8 0 0 []),⟨_,rfl,rfl,qbj⟩,⟨(B6.mk x2 [] [] 0 x7.At x8 (-1) 0 []),⟨_,rfl,rfl,qbj⟩,⟨(B6.mk x2 [] [] 0 x7.At x8 (-1) (-1) []),⟨_,rfl,rfl,qbj⟩,⟨(B6.mk x2 [] [] 0 x7.At x8 (-1) (-1) x5),⟨_,rfl,rfl,qbj⟩,rfl⟩⟩⟩⟩⟩⟩) ?_)
 refine av 0 rfl rfl (Upd.refl _) rfl sizeOf64 ?_
 exact⟨x7,x8,h,atOk⟩
end Go.Proofs.YtcndghapmoaidaaGreatDoor
set_option linter.unusedSectionVars false
set_option maxRecDepth 100000
set_option maxHeartbeats 4000000
namespace Go.Proofs.YtcndghapmoaidaaGreatDoor
open Go Go.Cn Tryz
attribute [local irreducible] g0 ap
theorem dk (r:C7) (h:ez=some r):Fp 97 [] ((aj).val r):=by
 refine ec (rs:=[.cell 0 97]) func97 rfl ntmps97 results97 dcd (fun s0=>?_)
 unfold ez at h
 refine W_rs (bw al97 fun b1=>W_rs (kUn (jm st97 ⟨(C7.mk (-1) 0),⟨_,rfl,rfl,qbj⟩,rfl⟩) ?_))
 refine av 0 rfl rfl (Upd.refl _) rfl sizeOf97 ?_
 obtain rfl:=osj h
 exact bg ⟨rfl,[(aj).val (C7.mk (-1) 0)],⟨yBox 0 ty97 aa,tv⟩,aa⟩
theorem ala (x1:List C6) (x2:Int) (r:Bool) (h:ad9 x1 x2=some r):Fp 138 [ap cg x1,P6 x2] (Pb r):=by
 refine dv (rs:=[4]) func138 rfl ntmps138 ⟨by decide,results138⟩ dcd (fun s0=>?_)
 unfold ad9 at h
 refine W_rs (kAs rfl ?_)
 refine bo (fun e C=>∃x18,s9 x18=some r/\At [(4,Pb x18)] [] e C) ?_ ?_
 ·rintro e C ⟨x18,h,a⟩
  refine W_at a ?_
  unfold s9 at h
  obtain rfl:=osj h
  exact bg ⟨rfl,aa⟩
 refine W_r (kMvL rfl (kMv rfl (c8 h (l7 x1 x2) rfl fun x3 _ h=>kMv rfl ?_)))
 rcases cc h with⟨hc4,h⟩|⟨hc4,h⟩
 ·refine skx ?_
  refine kPt rfl hc4 rfl (kMv rfl ?_)
  have hc12:true=true:=rfl
  refine skx ?_
  refine kPt rfl hc12 rfl (kMv rfl ?_)
  have hc16:true=true:=rfl
  refine skx ?_
  refine kPt rfl hc16 rfl (kAs rfl ?_)
  exact⟨true,h,atOk⟩
 refine kGd rfl aa hc4 (hMvL rfl) (kGd rfl aa hc4 (hMvA rfl) ?_)
 obtain⟨x5,k,h⟩:=ah h
 refine kGd rfl aa hc4 (dz (cb x1 x2 ([105,110,116]:Bt) _ k)) ?_
 refine kPf rfl hc4 rfl (kMv rfl ?_)
 rcases cc h with⟨hc6,h⟩|⟨hc6,h⟩
 ·refine skx ?_
  refine kPt rfl hc6 rfl (kMv rfl ?_)
  have hc10:true=true:=rfl
  refine skx ?_
  refine kPt rfl hc10 rfl (kAs rfl ?_)
  exact⟨true,h,atOk⟩
 refine kGd rfl aa hc6 (hMvL rfl) (kGd rfl aa hc6 (hMvA rfl) ?_)
 obtain⟨x7,k,h⟩:=ah h
 refine kGd rfl aa hc6 (dz (cb x1 x2 ([98,111,111,108,101,97,110]:Bt) _ k)) ?_
 refine kPf rfl hc6 rfl (kMv rfl ?_)
 rcases cc h with⟨hc8,h⟩|⟨hc8,h⟩
 ·refine skx ?_
  refine kPt rfl hc8 rfl (kAs rfl ?_)
  exact⟨true,h,atOk⟩
 refine kGd rfl aa hc8 (hMvL rfl) (kGd rfl aa hc8 (hMvA rfl) ?_)
 obtain⟨x9,k,h⟩:=ah h
 refine kGd rfl aa hc8 (dz (cb x1 x2 ([118,111,105,100]:Bt) _ k)) ?_
 refine kPf rfl hc8 rfl (kAs rfl ?_)
 exact⟨x9,h,atOk⟩
theorem agh (x1:List C6) (x2:B6) (x3:Int) (r:B6) (h:yn x1 x2 x3=some r):Fp 141 [ap cg x1,(af).val x2,P6 x3] ((af).val r):=by
 refine ec (rs:=[.cell 6 64]) func141 rfl ntmps141 results141 dcd (fun s0=>?_)
 unfold yn at h
 refine W_rs ?_
 refine rBox (R:=af) (a:=x2) rfl (fun b4=>?_)
 refine bw al64 fun b5=>W_rs (kMvL rfl (kMv rfl ?_))
 obtain⟨x6,k,h⟩:=ah h
 refine kUn (fo underlying41 sizeOf45 k) ?_
 refine kUn (jb aat ge) ?_
 refine kUn (cz ty9) ?_
 refine kUn (ak ws) ?_
 refine av 0 rfl rfl ai6 rfl sizeOf9 (W_rs (kMvL rfl (kMv rfl ?_)))
 obtain⟨x7,k,h⟩:=ah h
 refine kUn (fo underlying41 sizeOf45 k) ?_
 refine kUn (jb af0 lv) ?_
 refine kUn (cz ty3) ?_
 refine kUn (ak aob) ?_
 refine av 0 rfl rfl ag9 rfl sizeOf3 (W_rs (kMvL rfl (kMv rfl (kIn rfl rfl rfl ?_))))
 obtain⟨x8,k,h⟩:=ah h
 refine kUn (fo underlying41 sizeOf45 k) ?_
 refine kUn (jb aat ge) ?_
 refine kUn (cz ty9) ?_
 refine kUn (ak ie) ?_
 refine av 0 rfl rfl r5 rfl sizeOf9 (W_rs (kMvL rfl (kMv rfl (kIn rfl rfl rfl ?_))))
 obtain⟨x9,k,h⟩:=ah h
 refine kUn (fo underlying41 sizeOf45 k) ?_
 refine kUn (jb af0 lv) ?_
 refine kUn (cz ty3) ?_
 refine kUn (ak ru) ?_
 refine av 0 rfl rfl zh rfl sizeOf3 (W_rs (kUn (au 0 ty64 (Sub.refl _)) ?_))
 refine av 1 rfl rfl (Upd.refl _) rfl sizeOf64 ?_
 obtain rfl:=osj h
 exact bg ⟨rfl,[(af).val ({{{{x2 with Type_:=x6.Text} with TypeAt:=x7.At} with Text:=x8.Text} with At:=x9.At})],⟨yBox 1 ty64 aa,tv⟩,aa⟩
theorem apr (x1:List C6) (x2:Int) (r:(List B6) × Int × C7) (h:acs x1 x2=some r):Fc 139 [ap cg x1,P6 x2] [] (fun q C'=>∃u0,q=br [Pi u0,P6 r.2.1,(aj).val r.2.2]/\C'=[E6 u0 af r.1 64]):=by
 refine arl (rs:=[.tmp 4,.tmp 5,.cell 6 97]) func139 rfl ntmps139 results139 dcd (fun s0=>?_)
 unfold acs at h
 refine W_rs (kAs rfl (kAs rfl (bw al97 fun b3=>W_rs (kAs rfl (a7 (W_rs (kMvL rfl (kMv rfl (c8 h (cb x1 x2 ([41]:Bt)) rfl fun x4 _ h=>?_)))))))))
 refine a6 h rfl (fun _ h=>?_) (fun _ h=>?_)
 ·refine W_rs (kMv rfl (kMv rfl (kIn rfl rfl rfl (c8 h (dk) rfl fun x6 _ h=>kAs rfl (kAs rfl (av 0 rfl rfl (Upd.refl _) rfl sizeOf97 ?_))))))
  refine ah6 [4] af 64 (fun v7=>?_) ⟨rfl,tv⟩
  obtain rfl:=osj h
  exact bg ⟨.inl rfl,[Pi v7,P6 (w64 (x2+1)),(aj).val x6],⟨yT aa,yT aa,yBox 0 ty97 aa,tv⟩,_,A9.of [1] rfl,v7,rfl,rfl⟩
 refine ay (a5 ?_)
 obtain⟨n1,hN1⟩:=bv h
 refine ah6 [7] af 64 (fun v36=>?_) ⟨rfl,tv⟩
 refine ek (fun m e C=>∃x8,∃x10,∃v9,fq (fun s=>vn x1 s.1 s.2) m (x8,x10)=some r/\At [(0,ap cg x1),(1,P6 x8),(6,Pr.pt b3 0),(7,Pi v9)] [D9 b3 aj (C7.mk 0 0),E6 v9 af x10 64] e C) n1 ⟨x2,[],v36,hN1,⟨⟨aa,aa,aa,aa,tv⟩,A9.refl _⟩⟩ ?_
 rintro m e C ⟨x8,x10,v9,hN1,a⟩
 refine W_at a ?_
 obtain⟨m1,w1l,rfl,h1l,hn1,ho1⟩:=bm hN1
 replace h1l:vn x1 x8 x10=some w1l:=h1l
 unfold vn at h1l
 refine a5 (a7 ?_)
 refine bo (fun e C=>∃x17,vo x8 x1 x10 x17=some w1l/\At [(0,ap cg x1),(1,P6 x8),(6,Pr.pt b3 0),(7,Pi v9),(23,Pb x17)] [D9 b3 aj (C7.mk 0 0),E6 v9 af x10 64] e C) ?_ ?_
 ·rintro e C ⟨x17,h1l,a⟩
  refine W_at a ?_
  unfold vo at h1l
  refine a6 h1l rfl (fun _ h1l=>?_) (fun _ h1l=>?_)
  ·refine W_rs (kMv rfl (c8 h1l (cw x8) rfl fun x19 _ h1l=>kAs rfl (kAs rfl (av 0 rfl rfl (Upd.refl _) rfl sizeOf97 ?_))))
   have h:some ([],0,x19)=some r:=congrArg some (ho1 _ (ojs h1l))
   refine ah6 [4] af 64 (fun v20=>?_) ⟨rfl,tv⟩
   obtain rfl:=osj h
   exact bg ⟨.inl rfl,[Pi v20,P6 0,(aj).val x19],⟨yT aa,yT aa,yBox 0 ty97 aa,tv⟩,_,A9.of [2] rfl,v20,rfl,rfl⟩
  refine ay (a7 (W_rs (kMvL rfl (kMv rfl (kIn rfl rfl rfl (c8 h1l (l7 x1 (w64 (x8+1))) rfl fun x21 _ h1l=>kNo rfl ?_))))))
  refine a6 h1l rfl (fun _ h1l=>?_) (fun _ h1l=>?_)
  ·refine W_rs (kMv rfl (kIn rfl rfl rfl (c8 h1l (cw (w64 (x8+1))) rfl fun x23 _ h1l=>kAs rfl (kAs rfl (av 0 rfl rfl (Upd.refl _) rfl sizeOf97 ?_)))))
   have h:some ([],0,x23)=some r:=congrArg some (ho1 _ (ojs h1l))
   refine ah6 [4] af 64 (fun v24=>?_) ⟨rfl,tv⟩
   obtain rfl:=osj h
   exact bg ⟨.inl rfl,[Pi v24,P6 0,(aj).val x23],⟨yT aa,yT aa,yBox 0 ty97 aa,tv⟩,_,A9.of [2] rfl,v24,rfl,rfl⟩
  refine ay (W_rs (kMv rfl (kMvL rfl (kMvL rfl (kMv rfl (kMv rfl (kIn rfl rfl rfl ?_)))))))
  obtain⟨x25,k,h1l⟩:=ah h1l
  refine kUn (adm (ev x1 4 x8 (w64 (x8+2)) [] _ k) ⟨aa,aa,aa,aa,el _,tv⟩) ?_
  refine kMv rfl (c8 h1l (agh x1 x25 x8) rfl fun x26 _ h1l=>?_)
  refine kUn (cq (R:=af) (a:=x26) el53 nb) ?_
  obtain⟨x27,k,h1l⟩:=ah h1l
  refine ik 1 el53 k (fun v28=>?_)
  refine kAs rfl (a7 (W_rs (kMvL rfl (kMv rfl (kIn rfl rfl rfl (c8 h1l (cb x1 (w64 (x8+2)) ([41]:Bt)) rfl fun x29 _ h1l=>?_))))))
  refine a6 h1l rfl (fun _ h1l=>?_) (fun _ h1l=>?_)
  ·refine W_rs (kMv rfl (kMv rfl (kIn rfl rfl rfl (c8 h1l (dk) rfl fun x31 _ h1l=>kAs rfl (kAs rfl (av 0 rfl rfl (Upd.refl _) rfl sizeOf97 ?_))))))
   have h:some (x27,w64 (x8+3),x31)=some r:=congrArg some (ho1 _ (ojs h1l))
   obtain rfl:=osj h
   exact bg ⟨.inl rfl,[Pi v28,P6 (w64 (x8+3)),(aj).val x31],⟨yT aa,yT aa,yBox 0 ty97 aa,tv⟩,_,A9.of [1] rfl,v28,rfl,rfl⟩
  refine ay (a7 (W_rs (kMvL rfl (kMv rfl (kIn rfl rfl rfl (c8 h1l (cb x1 (w64 (x8+2)) ([44]:Bt)) rfl fun x32 _ h1l=>kNo rfl ?_))))))
  refine a6 h1l rfl (fun _ h1l=>?_) (fun _ h1l=>?_)
  ·refine W_rs (kMv rfl (kIn rfl rfl rfl (c8 h1l (cw (w64 (x8+2))) rfl fun x34 _ h1l=>kAs rfl (kAs rfl (av 0 rfl rfl (Upd.refl _) rfl sizeOf97 ?_)))))
   have h:some ([],0,x34)=some r:=congrArg some (ho1 _ (ojs h1l))
   refine ah6 [4] af 64 (fun v35=>?_) ⟨rfl,tv⟩
   obtain rfl:=osj h
   exact bg ⟨.inl rfl,[Pi v35,P6 0,(aj).val x34],⟨yT aa,yT aa,yBox 0 ty97 aa,tv⟩,_,A9.of [2] rfl,v35,rfl,rfl⟩
  refine ay (W_r (kMv rfl (kIn rfl rfl rfl (kAs rfl ?_))))
  exact⟨m1,lsu,w64 (x8+3),x27,v28,hn1 _ (ojs h1l),atOk⟩
 refine W_r (kMvL rfl (kMv rfl (c8 h1l (ala x1 x8) rfl fun x14 _ h1l=>kNo rfl (kMv rfl ?_))))
 rcases cc h1l with⟨hc15,h1l⟩|⟨hc15,h1l⟩
 ·refine skx ?_
  refine kPt rfl hc15 rfl ?_
  exact⟨true,h1l,atOk⟩
 refine kGd rfl aa hc15 (hMvL rfl) (kGd rfl aa hc15 (hMvA rfl) ?_)
 obtain⟨x16,k,h1l⟩:=ah h1l
 refine kGd rfl aa hc15 (dz (cb x1 x8 ([118,111,105,100]:Bt) _ k)) ?_
 refine kPf rfl hc15 rfl ?_
 exact⟨x16,h1l,atOk⟩
theorem aqg (x1:List C6) (x2:Int) (r:Bool) (h:aeg x1 x2=some r):Fp 167 [ap cg x1,P6 x2] (Pb r):=by
 refine dv (rs:=[4]) func167 rfl ntmps167 ⟨by decide,results167⟩ dcd (fun s0=>?_)
 unfold aeg at h
 refine W_rs (kAs rfl ?_)
 refine bo (fun e C=>∃x26,ot x26=some r/\At [(4,Pb x26)] [] e C) ?_ ?_
 ·rintro e C ⟨x26,h,a⟩
  refine W_at a ?_
  unfold ot at h
  obtain rfl:=osj h
  exact bg ⟨rfl,aa⟩
 refine W_r (kMvL rfl (kMv rfl (c8 h (cb x1 x2 ([105,110,116]:Bt)) rfl fun x3 _ h=>kMv rfl ?_)))
 rcases cc h with⟨hc4,h⟩|⟨hc4,h⟩
 ·refine skx ?_
  refine kPt rfl hc4 rfl (kMv rfl ?_)
  have hc16:true=true:=rfl
  refine skx ?_
  refine kPt rfl hc16 rfl (kMv rfl ?_)
  have hc22:true=true:=rfl
  refine skx ?_
  refine kPt rfl hc22 rfl (kAs rfl ?_)
  exact⟨true,h,atOk⟩
 refine kGd rfl aa hc4 (hMvL rfl) (kGd rfl aa hc4 (hMvA rfl) ?_)
 obtain⟨x5,k,h⟩:=ah h
 refine kGd rfl aa hc4 (dz (cb x1 x2 ([98,111,111,108,101,97,110]:Bt) _ k)) ?_
 refine kPf rfl hc4 rfl (kMv rfl ?_)
 rcases cc h with⟨hc6,h⟩|⟨hc6,h⟩
 ·refine skx ?_
  refine kPt rfl hc6 rfl (kMv rfl ?_)
  have hc12:true=true:=rfl
  refine skx ?_
  refine kPt rfl hc12 rfl (kAs rfl ?_)
  exact⟨true,h,atOk⟩
 refine kGd rfl aa hc6 (hMvL rfl) (kGd rfl aa hc6 (hMvA rfl) ?_)
 obtain⟨x7,k,h⟩:=ah h
 refine kGd rfl aa hc6 (dz (cb x1 x2 ([118,111,105,100]:Bt) _ k)) ?_
 refine kPf rfl hc6 rfl (kMv rfl ?_)
 rcases cc h with⟨hc8,h⟩|⟨hc8,h⟩
 ·refine skx ?_
  refine kPt rfl hc8 rfl (kAs rfl ?_)
  exact⟨true,h,atOk⟩
 refine kGd rfl aa hc8 (hMvL rfl) (kGd rfl aa hc8 (hMvA rfl) ?_)
 obtain⟨x9,k,h⟩:=ah h
 refine kGd rfl aa hc8 (dz (l7 x1 x2 _ k)) ?_
 refine kGd rfl aa hc8 (hMvA rfl) ?_
 rcases cc h with⟨hc10,h⟩|⟨hc10,h⟩
 ·refine kGd rfl aa hc10 (hMvL rfl) (kGd rfl aa hc10 (hMvA rfl) (kGd rfl aa hc10 (qInt rfl rfl rfl) ?_))
  obtain⟨x11,k,h⟩:=ah h
  refine kGd rfl aa hc10 (dz (l7 x1 (w64 (x2+1)) _ k)) ?_
  refine kGd rfl aa hc8 (hPt rfl hc10 rfl) (kPf rfl hc8 rfl (kAs rfl ?_))
  exact⟨x11,h,atOk⟩
 refine skx ?_
 refine kGd rfl aa hc8 (hPf rfl hc10 rfl) (kPf rfl hc8 rfl (kAs rfl ?_))
 exact⟨false,h,atOk⟩
theorem aqj (x1:List C6) (x2 r:Int) (h:aei x1 x2=some r):Fp 198 [ap cg x1,P6 x2] (P6 r):=by
 refine dv (rs:=[4]) func198 rfl ntmps198 ⟨by decide,results198⟩ dcd (fun s0=>?_)
 unfold aei at h
 refine W_rs (kAs rfl (W_rs (kUn (cq (R:=Rp.str) (a:=([124,124]:Bt)) el22 nb) ?_)))
 refine kUn (cq (R:=Rp.str) (a:=([38,38]:Bt)) el22 nb) ?_
 refine kUn (ny (R:=Rp.str) (ls:=([([61,61]:Bt),([33,61]:Bt)]:List Bt)) el22 nb ⟨rfl,rfl⟩ ⟨rfl,rfl,tv⟩) ?_
 refine kUn (ny (R:=Rp.str) (ls:=([([60]:Bt),([60,61]:Bt),([62]:Bt),([62,61]:Bt)]:List Bt)) el22 nb ⟨rfl,rfl⟩ ⟨rfl,rfl,rfl,rfl,tv⟩) ?_
 refine kUn (ny (R:=Rp.str) (ls:=([([43]:Bt),([45]:Bt)]:List Bt)) el22 nb ⟨rfl,rfl⟩ ⟨rfl,rfl,tv⟩) ?_
 refine kUn (ny (R:=Rp.str) (ls:=([([42]:Bt),([47]:Bt),([37]:Bt)]:List Bt)) el22 nb ⟨rfl,rfl⟩ ⟨rfl,rfl,rfl,tv⟩) ?_
 refine kUn (ny (R:=Rp.list Rp.str) (ls:=([([([124,124]:Bt)]:List Bt),([([38,38]:Bt)]:List Bt),([([61,61]:Bt),([33,61]:Bt)]:List Bt),([([60]:Bt),([60,61]:Bt),([62]:Bt),([62,61]:Bt)]:List Bt),([([43]:Bt),([45]:Bt)]:List Bt),([([42]:Bt),([47]:Bt),([37]:Bt)]:List Bt)]:List (List Bt))) el224 nb ⟨rfl,rfl⟩ ⟨rfl,rfl,rfl,rfl,rfl,rfl,tv⟩) ?_
 refine kAsL rfl (a7 (W_rs (kAs rfl (a5 ?_))))
 obtain⟨z2l,hz2,h⟩:=ah h
 obtain⟨n2,hN2⟩:=bv hz2
 refine di 0 (fun e C=>ab8=some r/\At [] [] e C) ?_ ?_
 ·rintro e C ⟨h,a⟩
  refine W_at a ?_
  unfold ab8 at h
  refine W_rs (kAs rfl ?_)
  obtain rfl:=osj h
  exact bg ⟨rfl,aa⟩
 refine ek (fun m e C=>∃x3,fq (fun s=>xj x1 x2 s) m x3=some z2l/\At [(0,ap cg x1),(1,P6 x2),(5,ap (Rp.list Rp.str) ([([([124,124]:Bt)]:List Bt),([([38,38]:Bt)]:List Bt),([([61,61]:Bt),([33,61]:Bt)]:List Bt),([([60]:Bt),([60,61]:Bt),([62]:Bt),([62,61]:Bt)]:List Bt),([([43]:Bt),([45]:Bt)]:List Bt),([([42]:Bt),([47]:Bt),([37]:Bt)]:List Bt)]:List (List Bt))),(6,P6 x3)] [] e C) n2 ⟨0,hN2,⟨⟨aa,aa,aa,aa,tv⟩,A9.refl _⟩⟩ ?_
 rintro m e C ⟨x3,hN2,a⟩
 refine W_at a ?_
 obtain⟨m2,w2l,rfl,h2l,hn2,ho2⟩:=bm hN2
 replace h2l:xj x1 x2 x3=some w2l:=h2l
 unfold xj at h2l
 refine a7 (W_rs (kMv rfl (kMvL rfl (kUn (mg rfl underlying224) ?_))))
 refine kIn rfl rfl rfl ?_
 refine a6 h2l rfl (fun _ h2l=>?_) (fun _ h2l=>?_)
 ·refine ay (a7 (a5 (W_rs (kAs rfl (a5 ?_)))))
  obtain⟨z4l,hz4,h2l⟩:=ah h2l
  obtain⟨n4,hN4⟩:=bv hz4
  refine di 2 (fun e C=>agi x3=some w2l/\At [(0,ap cg x1),(1,P6 x2),(5,ap (Rp.list Rp.str) ([([([124,124]:Bt)]:List Bt),([([38,38]:Bt)]:List Bt),([([61,61]:Bt),([33,61]:Bt)]:List Bt),([([60]:Bt),([60,61]:Bt),([62]:Bt),([62,61]:Bt)]:List Bt),([([43]:Bt),([45]:Bt)]:List Bt),([([42]:Bt),([47]:Bt),([37]:Bt)]:List Bt)]:List (List Bt))),(6,P6 x3)] [] e C) ?_ ?_
  ·rintro e C ⟨h2l,a⟩
   refine W_at a ?_
   unfold agi at h2l
   refine W_r (kMv rfl (kIn rfl rfl rfl (kAs rfl ?_)))
   exact⟨m2,lsu,w64 (x3+1),hn2 _ (ojs h2l),atOk⟩
  refine ek (fun m e C=>∃x6,fq (fun s=>xi x3 x1 x2 s) m x6=some z4l/\At [(0,ap cg x1),(1,P6 x2),(5,ap (Rp.list Rp.str) ([([([124,124]:Bt)]:List Bt),([([38,38]:Bt)]:List Bt),([([61,61]:Bt),([33,61]:Bt)]:List Bt),([([60]:Bt),([60,61]:Bt),([62]:Bt),([62,61]:Bt)]:List Bt),([([43]:Bt),([45]:Bt)]:List Bt),([([42]:Bt),([47]:Bt),([37]:Bt)]:List Bt)]:List (List Bt))),(6,P6 x3),(7,P6 x6)] [] e C) n4 ⟨0,hN4,⟨⟨aa,aa,aa,aa,aa,tv⟩,A9.refl _⟩⟩ ?_
  rintro m e C ⟨x6,hN4,a⟩
  refine W_at a ?_
  obtain⟨m4,w4l,rfl,h4l,hn4,ho4⟩:=bm hN4
  replace h4l:xi x3 x1 x2 x6=some w4l:=h4l
  unfold xi at h4l
  refine a7 (W_rs (kMv rfl (kMvL rfl (kMv rfl ?_))))
  obtain⟨x8,k,h4l⟩:=ah h4l
  refine kUn (fo underlying224 sizeOf22 k) ?_
  refine kUn (cz ty22) ?_
  refine kUn (mg rfl underlying22) ?_
  refine kIn rfl rfl rfl ?_
  refine a6 h4l rfl (fun _ h4l=>?_) (fun _ h4l=>?_)
  ·refine ay (a7 (a5 (W_rs (kMvL rfl (kMv rfl (kMvL rfl (kMv rfl ?_)))))))
   obtain⟨x10,k,h4l⟩:=ah h4l
   refine kUn (fo underlying224 sizeOf22 k) ?_
   refine kUn (cz ty22) ?_
   refine kMv rfl ?_
   obtain⟨x11,k,h4l⟩:=ah h4l
   refine kUn (fo underlying22 sizeOf9 k) ?_
   refine kUn (cz ty9) ?_
   refine c8 h4l (cb x1 x2 x11) rfl fun x12 _ h4l=>?_
   refine a6 h4l rfl (fun _ h4l=>?_) (fun _ h4l=>?_)
   ·refine W_rs (kMv rfl (kIn rfl rfl rfl (kAs rfl ?_)))
    obtain rfl:=ho4 _ (ojs h4l)
    replace h2l:some (.inr (.done (w64 (x3+1))))=some w2l:=h2l
    obtain rfl:=ho2 _ (ojs h2l)
    replace h:some (w64 (x3+1))=some r:=h
    obtain rfl:=osj h
    exact bg ⟨rfl,aa⟩
   refine ay (W_r (kMv rfl (kIn rfl rfl rfl (kAs rfl ?_))))
   exact⟨m4,lsu,w64 (x6+1),hn4 _ (ojs h4l),atOk⟩
  refine ej ?_
  obtain rfl:=ho4 _ (ojs h4l)
  exact⟨h2l,atOk⟩
 refine ej ?_
 obtain rfl:=ho2 _ (ojs h2l)
 exact⟨h,atOk⟩
def i6 (R:ax):Prop:=(∀(x1:List C6) (x2:Int) (x3:Int) (r:B6 × Int × C7),R.1 x1 x2 x3=some r->Fp 179 [ap cg x1,P6 x2,P6 x3] (br [(af).val r.1,P6 r.2.1,(aj).val r.2.2]))/\(∀(x1:List C6) (x2:Int) (x3:Int) (x4:Int) (r:B6 × Int × C7),R.2.1 x1 x2 x3 x4=some r->Fp 190 [ap cg x1,P6 x2,P6 x3,P6 x4] (br [(af).val r.1,P6 r.2.1,(aj).val r.2.2]))/\(∀(x1:List C6) (x2:Int) (x3:Int) (r:B6 × Int × C7),R.2.2.1 x1 x2 x3=some r->Fp 197 [ap cg x1,P6 x2,P6 x3] (br [(af).val r.1,P6 r.2.1,(aj).val r.2.2]))/\(∀(x1:List C6) (x2:Int) (x3:Int) (r:B6 × Int × C7),R.2.2.2.1 x1 x2 x3=some r->Fp 201 [ap cg x1,P6 x2,P6 x3] (br [(af).val r.1,P6 r.2.1,(aj).val r.2.2]))/\(∀(x1:List C6) (x2:Int) (x3:Int) (r:(List B6) × Int × C7),R.2.2.2.2 x1 x2 x3=some r->Fp 202 [ap cg x1,P6 x2,P6 x3] (br [ap af r.1,P6 r.2.1,(aj).val r.2.2]))
theorem ah1 (R:ax) (ih:i6 R) (x1:List C6) (x2 x3:Int) (r:B6 × Int × C7) (h:qm R x1 x2 x3=some r):Fp 179 [ap cg x1,P6 x2,P6 x3] (br [(af).val r.1,P6 r.2.1,(aj).val r.2.2]):=by
 refine ec (rs:=[.cell 6 64,.tmp 7,.cell 8 97]) func179 rfl ntmps179 results179 dcd (fun s0=>?_)
 unfold qm at h
 refine W_rs (bw al64 fun b4=>kAs rfl (bw al97 fun b5=>W_rs (kMvL rfl (kMv rfl (kMv rfl ?_)))))
 obtain⟨⟨x6,x7,x8⟩,k,h⟩:=ah h
 refine kUn (dz (ih.2.1 x1 x2 x3 1 _ k)) ?_
 refine kUn ar ?_
 refine kUn ar ?_
 refine kUn ar ?_
 refine av 0 rfl rfl (Upd.refl _) rfl sizeOf64 (kAs rfl (av 1 rfl rfl (Upd.refl _) rfl sizeOf97 ?_))
 obtain rfl:=osj h
 exact bg ⟨rfl,[(af).val x6,P6 x7,(aj).val x8],⟨yBox 0 ty64 aa,yT aa,yBox 1 ty97 aa,tv⟩,aa⟩
theorem alt (R:ax) (ih:i6 R) (x1:List C6) (x2 x3 x4:Int) (r:B6 × Int × C7) (h:zt R x1 x2 x3 x4=some r):Fp 190 [ap cg x1,P6 x2,P6 x3,P6 x4] (br [(af).val r.1,P6 r.2.1,(aj).val r.2.2]):=by
 refine ec (rs:=[.cell 8 64,.tmp 9,.cell 10 97]) func190 rfl ntmps190 results190 dcd (fun s0=>?_)
 let p1:=B6.mk 0 [] [] 0 0 0 0 0 []
 unfold zt at h
 refine W_rs (bw al64 fun b5=>kAs rfl (bw al97 fun b6=>a7 (W_rs (kMv rfl (kIn rfl rfl rfl ?_)))))
 let p2:=D9 b5 af p1
 refine a6 h rfl (fun _ h=>?_) (fun _ h=>?_)
 ·refine W_rs (kMvL rfl (kMv rfl (kMv rfl ?_)))
  obtain⟨⟨x8,x9,x10⟩,k,h⟩:=ah h
  refine kUn (dz (ih.2.2.1 x1 x2 x3 _ k)) ?_
  refine kUn ar ?_
  refine kUn ar ?_
  refine kUn ar ?_
  refine av 0 rfl rfl (Upd.refl _) rfl sizeOf64 (kAs rfl (av 1 rfl rfl (Upd.refl _) rfl sizeOf97 ?_))
  obtain rfl:=osj h
  exact bg ⟨rfl,[(af).val x8,P6 x9,(aj).val x10],⟨yBox 0 ty64 aa,yT aa,yBox 1 ty97 aa,tv⟩,aa⟩
 refine ay (W_rs (kMvL rfl (kMv rfl (kMv rfl (kMv rfl (kIn rfl rfl rfl ?_))))))
 obtain⟨⟨x11,x12,x13⟩,k,h⟩:=ah h
 refine kUn (dz (ih.2.1 x1 x2 x3 (w64 (x4+1)) _ k)) ?_
 refine kUn (hMv (out:=br [(af).val x11,P6 x12,(aj).val x13]) rfl) (kUn ar ?_)
 refine kUn ar ?_
 refine kUn ar ?_
 refine bw al64 fun b14=>?_
 refine bw al97 fun b15=>av 2 rfl rfl (Upd.refl _) rfl sizeOf64 (kAs rfl (av 3 rfl rfl (Upd.refl _) rfl sizeOf97 (a7 (W_rs (kUn (ak o0) ?_)))))
 let p3:=D9 b15 aj x13
 refine kUn (au 3 ty3 cn) ?_
 refine kIn rfl rfl rfl ?_
 refine a6 h rfl (fun _ h=>?_) (fun _ h=>?_)
 ·refine bo (fun e C=>ab3 R x13=some r/\At [(8,Pr.pt b5 0),(9,P6 0),(10,Pr.pt b6 0)] [p2,D9 b6 aj x13,D9 b14 af x11,p3] e C) ?_ ?_
  ·rintro e C ⟨h,a⟩
   refine W_at a ?_
   unfold ab3 at h
   obtain rfl:=osj h
   exact bg ⟨rfl,[(af).val p1,P6 0,(aj).val x13],⟨yBox 0 ty64 aa,yT aa,yBox 1 ty97 aa,tv⟩,aa⟩
  refine ga [(2,0,D9 b5 af p1),(4,1,D9 b6 aj x13)] [p2,D9 b6 aj x13,D9 b14 af x11,p3] hmx kr kr (show([2,4]:List Nat).Nodup by decide) (show([0,1]:List Nat).Nodup by decide) rfl rfl ?_
  refine eq1 (out:=(af).val p1) (fun C2 hC=>(fr ba st64 rfl)) ?_
  refine eql 3 ty97 (Sub.refl _) rfl rfl kr ?_
  refine eqs 0 sizeOf64 (Upd.refl _) rfl rfl rfl kr ?_
  refine eq1 (out:=P6 0) (fun C2 hC=>gb) ?_
  refine eqs 1 sizeOf97 (Upd.refl _) rfl rfl rfl kr ?_
  exact⟨h,atOk⟩
 refine ay (a7 (a5 ?_))
 obtain⟨z4l,hz4,h⟩:=ah h
 obtain⟨n4,hN4⟩:=bv hz4
 refine di 0 (fun e C=>∃x17,∃x18,ab0 R x17 x18=some r/\At [(8,Pr.pt b5 0),(10,Pr.pt b6 0),(11,Pr.pt b14 0),(12,P6 x17)] [p2,D9 b6 aj (C7.mk 0 0),D9 b14 af x18,p3] e C) ?_ ?_
 ·rintro e C ⟨x17,x18,h,a⟩
  refine W_at a ?_
  unfold ab0 at h
  refine bo (fun e C=>∃x31,ab2 R x18 x17 x31=some r/\At [(8,Pr.pt b5 0),(9,P6 x17),(10,Pr.pt b6 0)] [D9 b5 af x18,D9 b6 aj x31,D9 b14 af x18,p3] e C) ?_ ?_
  ·rintro e C ⟨x31,h,a⟩
   refine W_at a ?_
   unfold ab2 at h
   obtain rfl:=osj h
   exact bg ⟨rfl,[(af).val x18,P6 x17,(aj).val x31],⟨yBox 0 ty64 aa,yT aa,yBox 1 ty97 aa,tv⟩,aa⟩
  obtain⟨x31,k,h⟩:=ah h
  refine ga [(3,0,D9 b5 af x18),(5,1,D9 b6 aj x31)] [D9 b5 af x18,D9 b6 aj x31,D9 b14 af x18,p3] hmx kr kr (show([3,5]:List Nat).Nodup by decide) (show([0,1]:List Nat).Nodup by decide) rfl rfl ?_
  refine eql 2 ty64 (Sub.refl _) rfl rfl kr ?_
  refine eq1 (out:=P6 x17) (fun C2 hC=>gz) ?_
  refine eq1 (out:=(aj).val x31) (fun C2 hC=>(dz (dk _ k))) ?_
  refine eqs 0 sizeOf64 (Upd.refl _) rfl rfl rfl kr ?_
  refine eq1 (out:=P6 x17) (fun C2 hC=>gb) ?_
  refine eqs 1 sizeOf97 (Upd.refl _) rfl rfl rfl kr ?_
  exact⟨x31,h,atOk⟩
 refine ek (fun m e C=>∃x17,∃x18,fq (fun s=>xd R x1 x4 x3 x2 s.1 s.2) m (x17,x18)=some z4l/\At [(0,ap cg x1),(1,P6 x2),(2,P6 x3),(3,P6 x4),(8,Pr.pt b5 0),(10,Pr.pt b6 0),(11,Pr.pt b14 0),(12,P6 x17)] [p2,D9 b6 aj (C7.mk 0 0),D9 b14 af x18,p3] e C) n4 ⟨x12,x11,hN4,⟨⟨aa,aa,aa,aa,aa,aa,aa,aa,tv⟩,A9.refl _⟩⟩ ?_
 rintro m e C ⟨x17,x18,hN4,a⟩
 refine W_at a ?_
 obtain⟨m4,w4l,rfl,h4l,hn4,ho4⟩:=bm hN4
 replace h4l:xd R x1 x4 x3 x2 x17 x18=some w4l:=h4l
 unfold xd at h4l
 refine a7 (W_rs (kMvL rfl (kMv rfl (c8 h4l (aqj x1 x17) rfl fun x21 _ h4l=>kMv rfl (kIn rfl rfl rfl ?_)))))
 refine a6 h4l rfl (fun _ h4l=>?_) (fun _ h4l=>?_)
 ·refine ay (a5 (W_rs (kMvL rfl (kMv rfl (kIn rfl rfl rfl (kMv rfl (kMv rfl (kIn rfl rfl rfl ?_))))))))
  obtain⟨⟨x23,x24,x25⟩,k,h4l⟩:=ah h4l
  refine kUn (dz (ih.2.1 x1 (w64 (x17+1)) x3 (w64 (x4+1)) _ k)) ?_
  refine kUn (hMv (out:=br [(af).val x23,P6 x24,(aj).val x25]) rfl) (kUn ar ?_)
  refine kUn ar ?_
  refine kUn ar ?_
  refine bw al64 fun b26=>?_
  refine bw al97 fun b27=>av 4 rfl rfl (Upd.refl _) rfl sizeOf64 (kAs rfl (av 5 rfl rfl (Upd.refl _) rfl sizeOf97 (a7 (W_rs (kUn (ak o0) ?_)))))
  refine kUn (au 5 ty3 cn) ?_
  refine kIn rfl rfl rfl ?_
  refine a6 h4l rfl (fun _ h4l=>?_) (fun _ h4l=>?_)
  ·refine bo (fun e C=>ab1 R x25=some w4l/\At [(8,Pr.pt b5 0),(9,P6 0),(10,Pr.pt b6 0)] [p2,D9 b6 aj x25,D9 b14 af x18,p3,D9 b26 af x23,D9 b27 aj x25] e C) ?_ ?_
   ·rintro e C ⟨h4l,a⟩
    refine W_at a ?_
    unfold ab1 at h4l
    obtain rfl:=ho4 _ (ojs h4l)
    replace h:some (p1,0,x25)=some r:=h
    obtain rfl:=osj h
    exact bg ⟨rfl,[(af).val p1,P6 0,(aj).val x25],⟨yBox 0 ty64 aa,yT aa,yBox 1 ty97 aa,tv⟩,aa⟩
   refine ga [(2,0,D9 b5 af p1),(4,1,D9 b6 aj x25)] [p2,D9 b6 aj x25,D9 b14 af x18,p3,D9 b26 af x23,D9 b27 aj x25] hmx kr kr (show([2,4]:List Nat).Nodup by decide) (show([0,1]:List Nat).Nodup by decide) rfl rfl ?_
   refine eq1 (out:=(af).val p1) (fun C2 hC=>(fr ba st64 rfl)) ?_
   refine eql 5 ty97 (Sub.refl _) rfl rfl kr ?_
   refine eqs 0 sizeOf64 (Upd.refl _) rfl rfl rfl kr ?_
   refine eq1 (out:=P6 0) (fun C2 hC=>gb) ?_
   refine eqs 1 sizeOf97 (Upd.refl _) rfl rfl rfl kr ?_
   exact⟨h4l,atOk⟩
  refine ay (W_rs (kMvL rfl (kMv rfl ?_)))
  obtain⟨x29,k,h4l⟩:=ah h4l
  refine kUn (fo underlying41 sizeOf45 k) ?_
  refine kUn (jb aat ge) ?_
  refine kUn (cz ty9) ?_
  refine kAs rfl (W_rs (kMvL rfl (kMv rfl (kMv rfl (kUn (au 2 ty64 (Sub.refl _)) ?_)))))
  refine kUn (au 4 ty64 (Sub.refl _)) ?_
  refine kUn (ny (R:=af) (ls:=([x18,x23]:List B6)) el53 nb ⟨rfl,rfl⟩ ⟨rfl,rfl,tv⟩) ?_
  refine c8 h4l (ev x1 24 x2 x24 ([x18,x23]:List B6)) rfl fun x30 _ h4l=>av 2 rfl rfl (Upd.refl _) rfl sizeOf64 (W_rs (kMv rfl (kUn (ak ie) ?_)))
  refine av 2 rfl rfl r5 rfl sizeOf9 (W_r (kMv rfl (kAs rfl ?_)))
  exact⟨m4,lsu,x24,{x30 with Text:=x29.Text},hn4 _ (ojs h4l),⟨⟨aa,aa,aa,aa,aa,aa,aa,aa,tv⟩,A9.of [0,1,2,3] rfl⟩⟩
 refine ej ?_
 obtain rfl:=ho4 _ (ojs h4l)
 exact⟨x17,x18,h,atOk⟩
theorem als (R:ax) (ih:i6 R) (x1:List C6) (x2 x3:Int) (r:B6 × Int × C7) (h:zs R x1 x2 x3=some r):Fp 197 [ap cg x1,P6 x2,P6 x3] (br [(af).val r.1,P6 r.2.1,(aj).val r.2.2]):=by
 refine ec (rs:=[.cell 6 64,.tmp 7,.cell 8 97]) func197 rfl ntmps197 results197 dcd (fun s0=>?_)
 let p1:=B6.mk 0 [] [] 0 0 0 0 0 []
 let p2:=C7.mk 0 0
 unfold zs at h
 refine W_rs (bw al64 fun b4=>kAs rfl (bw al97 fun b5=>a7 (W_rs (kMv rfl (kIn rfl rfl rfl ?_)))))
 let p3:=D9 b4 af p1
 let p4:=D9 b5 aj p2
 refine a6 h rfl (fun _ h=>?_) (fun _ h=>?_)
 ·refine W_rs (kUn (fr ba st64 rfl) ?_)
  refine kMv rfl (kUn (jm st97 ⟨(C7.mk x2 0),⟨_,rfl,rfl,qbj⟩,⟨(C7.mk x2 2),⟨_,rfl,rfl,qbj⟩,rfl⟩⟩) ?_)
  refine av 0 rfl rfl (Upd.refl _) rfl sizeOf64 (kAs rfl (av 1 rfl rfl (Upd.refl _) rfl sizeOf97 ?_))
  obtain rfl:=osj h
  exact bg ⟨rfl,[(af).val p1,P6 0,(aj).val (C7.mk x2 2)],⟨yBox 0 ty64 aa,yT aa,yBox 1 ty97 aa,tv⟩,aa⟩
 refine ay (a7 ?_)
 refine bo (fun e C=>∃x10,uf R x1 x2 x3 x10=some r/\At [(0,ap cg x1),(1,P6 x2),(2,P6 x3),(6,Pr.pt b4 0),(8,Pr.pt b5 0),(34,Pb x10)] [p3,p4] e C) ?_ ?_
 ·rintro e C ⟨x10,h,a⟩
  refine W_at a ?_
  unfold uf at h
  refine a6 h rfl (fun _ h=>?_) (fun _ h=>?_)
  ·refine W_rs (kMvL rfl (kMv rfl (kIn rfl rfl rfl (kMv rfl (kIn rfl rfl rfl ?_)))))
   obtain⟨⟨x12,x13,x14⟩,k,h⟩:=ah h
   refine kUn (dz (ih.2.2.1 x1 (w64 (x2+1)) (w64 (x3+1)) _ k)) ?_
   refine kUn (hMv (out:=br [(af).val x12,P6 x13,(aj).val x14]) rfl) (kUn ar ?_)
   refine kUn ar ?_
   refine kUn ar ?_
   refine bw al64 fun b15=>?_
   refine bw al97 fun b16=>av 2 rfl rfl (Upd.refl _) rfl sizeOf64 (kAs rfl (av 3 rfl rfl (Upd.refl _) rfl sizeOf97 (a7 (W_rs (kUn (ak o0) ?_)))))
   refine kUn (au 3 ty3 cn) ?_
   refine kIn rfl rfl rfl ?_
   refine a6 h rfl (fun _ h=>?_) (fun _ h=>?_)
   ·refine bo (fun e C=>abz R x14=some r/\At [(6,Pr.pt b4 0),(7,P6 0),(8,Pr.pt b5 0)] [p3,D9 b5 aj x14,D9 b15 af x12,D9 b16 aj x14] e C) ?_ ?_
    ·rintro e C ⟨h,a⟩
     refine W_at a ?_
     unfold abz at h
     obtain rfl:=osj h
     exact bg ⟨rfl,[(af).val p1,P6 0,(aj).val x14],⟨yBox 0 ty64 aa,yT aa,yBox 1 ty97 aa,tv⟩,aa⟩
    refine ga [(2,0,D9 b4 af p1),(4,1,D9 b5 aj x14)] [p3,D9 b5 aj x14,D9 b15 af x12,D9 b16 aj x14] hmx kr kr (show([2,4]:List Nat).Nodup by decide) (show([0,1]:List Nat).Nodup by decide) rfl rfl ?_
    refine eq1 (out:=(af).val p1) (fun C2 hC=>(fr ba st64 rfl)) ?_
    refine eql 3 ty97 (Sub.refl _) rfl rfl kr ?_
    refine eqs 0 sizeOf64 (Upd.refl _) rfl rfl rfl kr ?_
    refine eq1 (out:=P6 0) (fun C2 hC=>gb) ?_
    refine eqs 1 sizeOf97 (Upd.refl _) rfl rfl rfl kr ?_
    exact⟨h,atOk⟩
   refine ay (W_rs (kAs rfl ?_))
   refine bo (fun e C=>∃x20,xc R x1 x2 x13 x12 x20=some r/\At [(0,ap cg x1),(1,P6 x2),(6,Pr.pt b4 0),(8,Pr.pt b5 0),(9,Pr.pt b15 0),(10,P6 x13),(12,P6 x20)] [p3,p4,D9 b15 af x12,D9 b16 aj x14] e C) ?_ ?_
   ·rintro e C ⟨x20,h,a⟩
    refine W_at a ?_
    unfold xc at h
    refine W_rs (kMvL rfl (kMv rfl (kMv rfl (kMv rfl (kUn (au 2 ty64 (Sub.refl _)) ?_)))))
    refine kUn (cq (R:=af) (a:=x12) el53 nb) ?_
    refine c8 h (ev x1 x20 x2 x13 ([x12]:List B6)) rfl fun x21 _ h=>kMv rfl (c8 h (dk) rfl fun x22 _ h=>av 0 rfl rfl (Upd.refl _) rfl sizeOf64 (kAs rfl (av 1 rfl rfl (Upd.refl _) rfl sizeOf97 ?_)))
    obtain rfl:=osj h
    exact bg ⟨rfl,[(af).val x21,P6 x13,(aj).val x22],⟨yBox 0 ty64 aa,yT aa,yBox 1 ty97 aa,tv⟩,aa⟩
   refine W_rs (kMvL rfl (kMv rfl ?_))
   obtain⟨x18,k,h⟩:=ah h
   refine kUn (fo underlying41 sizeOf45 k) ?_
   refine kUn (jb aat ge) ?_
   refine kUn (cz ty9) ?_
   refine kSt rfl rfl rfl ?_
   refine a6 h rfl (fun _ h=>?_) (fun _ h=>?_)
   ·refine W_r (kAs rfl ?_)
    exact⟨23,h,atOk⟩
   refine ay ?_
   exact⟨22,h,atOk⟩
  refine ay (W_rs (kMvL rfl (kMv rfl (kMv rfl (kIn rfl rfl rfl ?_)))))
  obtain⟨⟨x23,x24,x25⟩,k,h⟩:=ah h
  refine kUn (dz (ih.2.2.2.1 x1 x2 (w64 (x3+1)) _ k)) ?_
  refine kUn (hMv (out:=br [(af).val x23,P6 x24,(aj).val x25]) rfl) (kUn ar ?_)
  refine kUn ar ?_
  refine kUn ar ?_
  refine bw al64 fun b26=>?_
  refine bw al97 fun b27=>av 2 rfl rfl (Upd.refl _) rfl sizeOf64 (kAs rfl (av 3 rfl rfl (Upd.refl _) rfl sizeOf97 (a7 (W_rs (kUn (ak o0) ?_)))))
  let p5:=D9 b27 aj x25
  refine kUn (au 3 ty3 cn) ?_
  refine kIn rfl rfl rfl ?_
  refine a6 h rfl (fun _ h=>?_) (fun _ h=>?_)
  ·refine bo (fun e C=>aby R x25=some r/\At [(6,Pr.pt b4 0),(7,P6 0),(8,Pr.pt b5 0)] [p3,D9 b5 aj x25,D9 b26 af x23,p5] e C) ?_ ?_
   ·rintro e C ⟨h,a⟩
    refine W_at a ?_
    unfold aby at h
    obtain rfl:=osj h
    exact bg ⟨rfl,[(af).val p1,P6 0,(aj).val x25],⟨yBox 0 ty64 aa,yT aa,yBox 1 ty97 aa,tv⟩,aa⟩
   refine ga [(2,0,D9 b4 af p1),(4,1,D9 b5 aj x25)] [p3,D9 b5 aj x25,D9 b26 af x23,p5] hmx kr kr (show([2,4]:List Nat).Nodup by decide) (show([0,1]:List Nat).Nodup by decide) rfl rfl ?_
   refine eq1 (out:=(af).val p1) (fun C2 hC=>(fr ba st64 rfl)) ?_
   refine eql 3 ty97 (Sub.refl _) rfl rfl kr ?_
   refine eqs 0 sizeOf64 (Upd.refl _) rfl rfl rfl kr ?_
   refine eq1 (out:=P6 0) (fun C2 hC=>gb) ?_
   refine eqs 1 sizeOf97 (Upd.refl _) rfl rfl rfl kr ?_
   exact⟨h,atOk⟩
  refine ay (a7 (a5 ?_))
  obtain⟨z6l,hz6,h⟩:=ah h
  obtain⟨n6,hN6⟩:=bv hz6
  refine di 0 (fun e C=>∃x29,∃x30,abv R x29 x30=some r/\At [(6,Pr.pt b4 0),(8,Pr.pt b5 0),(13,Pr.pt b26 0),(14,P6 x29)] [p3,p4,D9 b26 af x30,p5] e C) ?_ ?_
  ·rintro e C ⟨x29,x30,h,a⟩
   refine W_at a ?_
   unfold abv at h
   refine bo (fun e C=>∃x55,abx R x30 x29 x55=some r/\At [(6,Pr.pt b4 0),(7,P6 x29),(8,Pr.pt b5 0)] [D9 b4 af x30,D9 b5 aj x55,D9 b26 af x30,p5] e C) ?_ ?_
   ·rintro e C ⟨x55,h,a⟩
    refine W_at a ?_
    unfold abx at h
    obtain rfl:=osj h
    exact bg ⟨rfl,[(af).val x30,P6 x29,(aj).val x55],⟨yBox 0 ty64 aa,yT aa,yBox 1 ty97 aa,tv⟩,aa⟩
   obtain⟨x55,k,h⟩:=ah h
   refine ga [(3,0,D9 b4 af x30),(5,1,D9 b5 aj x55)] [D9 b4 af x30,D9 b5 aj x55,D9 b26 af x30,p5] hmx kr kr (show([3,5]:List Nat).Nodup by decide) (show([0,1]:List Nat).Nodup by decide) rfl rfl ?_
   refine eql 2 ty64 (Sub.refl _) rfl rfl kr ?_
   refine eq1 (out:=P6 x29) (fun C2 hC=>gz) ?_
   refine eq1 (out:=(aj).val x55) (fun C2 hC=>(dz (dk _ k))) ?_
   refine eqs 0 sizeOf64 (Upd.refl _) rfl rfl rfl kr ?_
   refine eq1 (out:=P6 x29) (fun C2 hC=>gb) ?_
   refine eqs 1 sizeOf97 (Upd.refl _) rfl rfl rfl kr ?_
   exact⟨x55,h,atOk⟩
  refine ek (fun m e C=>∃x29,∃x30,fq (fun s=>xa R x1 x3 x2 s.1 s.2) m (x29,x30)=some z6l/\At [(0,ap cg x1),(1,P6 x2),(2,P6 x3),(6,Pr.pt b4 0),(8,Pr.pt b5 0),(13,Pr.pt b26 0),(14,P6 x29)] [p3,p4,D9 b26 af x30,p5] e C) n6 ⟨x24,x23,hN6,⟨⟨aa,aa,aa,aa,aa,aa,aa,tv⟩,A9.refl _⟩⟩ ?_
  rintro m e C ⟨x29,x30,hN6,a⟩
  refine W_at a ?_
  obtain⟨m6,w6l,rfl,h6l,hn6,ho6⟩:=bm hN6
  replace h6l:xa R x1 x3 x2 x29 x30=some w6l:=h6l
  unfold xa at h6l
  refine a7 (W_rs (kMvL rfl (kMv rfl (c8 h6l (cb x1 x29 ([46]:Bt)) rfl fun x33 _ h6l=>?_))))
  refine a6 h6l rfl (fun _ h6l=>?_) (fun _ h6l=>?_)
  ·refine ay (a5 (a7 (W_rs (kMvL rfl (kMv rfl (kIn rfl rfl rfl (c8 h6l (l7 x1 (w64 (x29+1))) rfl fun x35 _ h6l=>kNo rfl ?_)))))))
   refine a6 h6l rfl (fun _ h6l=>?_) (fun _ h6l=>?_)
   ·refine W_rs (kUn (fr ba st64 rfl) ?_)
    refine kMv rfl (kIn rfl rfl rfl (c8 h6l (cw (w64 (x29+1))) rfl fun x37 _ h6l=>av 0 rfl rfl (Upd.refl _) rfl sizeOf64 (kAs rfl (av 1 rfl rfl (Upd.refl _) rfl sizeOf97 ?_))))
    obtain rfl:=ho6 _ (ojs h6l)
    replace h:some (p1,0,x37)=some r:=h
    obtain rfl:=osj h
    exact bg ⟨rfl,[(af).val p1,P6 0,(aj).val x37],⟨yBox 0 ty64 aa,yT aa,yBox 1 ty97 aa,tv⟩,aa⟩
   refine ay (W_rs (kMv rfl (kIn rfl rfl rfl (kAs rfl (W_rs (kAs rfl (W_rs (kUn (au 2 ty64 (Sub.refl _)) ?_))))))))
   refine ar6 (R:=af) (ls:=([x30]:List B6)) el53 nb ⟨rfl,rfl⟩ ⟨rfl,tv⟩ (fun v38=>?_)
   refine kAs rfl (W_rs (kMv rfl (kIn rfl rfl rfl (kAs rfl ?_))))
   refine bo (fun e C=>∃x48,∃x49,∃x51,∃v50,xb R x1 x2 x29 x48 x49 x51=some w6l/\At [(0,ap cg x1),(1,P6 x2),(2,P6 x3),(6,Pr.pt b4 0),(8,Pr.pt b5 0),(13,Pr.pt b26 0),(14,P6 x48),(16,P6 (w64 (x29+1))),(17,P6 x49),(18,Pi v50)] [p3,p4,D9 b26 af x30,p5,E6 v50 af x51 64] e C) ?_ ?_
   ·rintro e C ⟨x48,x49,x51,v50,h6l,a⟩
    refine W_at a ?_
    unfold xb at h6l
    refine W_rs (kMvL rfl (kMv rfl (kMv rfl (kMv rfl (kMv rfl ?_)))))
    obtain⟨x52,k,h6l⟩:=ah h6l
    refine rRel 4 [18,123] ?_ rfl ⟨rfl,rfl,tv⟩
    refine kUn (dz (ev x1 x49 x2 x48 x51 _ k)) ?_
    refine av 2 rfl rfl (Upd.refl _) rfl sizeOf64 (W_rs (kMvL rfl (kMv rfl ?_)))
    obtain⟨x53,k,h6l⟩:=ah h6l
    refine kUn (fo underlying41 sizeOf45 k) ?_
    refine kUn (jb aat ge) ?_
    refine kUn (cz ty9) ?_
    refine kUn (ak ie) ?_
    refine av 2 rfl rfl r5 rfl sizeOf9 (W_r (kMvL rfl (kMv rfl ?_)))
    obtain⟨x54,k,h6l⟩:=ah h6l
    refine kUn (fo underlying41 sizeOf45 k) ?_
    refine kUn (jb af0 lv) ?_
    refine kUn (cz ty3) ?_
    refine kUn (ak ru) ?_
    refine av 2 rfl rfl zh rfl sizeOf3 ?_
    exact⟨m6,lsu,x48,{{x52 with Text:=x53.Text} with At:=x54.At},hn6 _ (ojs h6l),atOk⟩
   refine W_rs (kMvL rfl (kMv rfl (c8 h6l (cb x1 (w64 ((w64 (x29+1))+1)) ([40]:Bt)) rfl fun x39 _ h6l=>?_)))
   refine a6 h6l rfl (fun _ h6l=>?_) (fun _ h6l=>?_)
   ·refine W_rs (kMvL rfl (kMv rfl (kIn rfl rfl rfl (kMv rfl (kIn rfl rfl rfl ?_)))))
    obtain⟨⟨x41,x42,x43⟩,k,h6l⟩:=ah h6l
    refine kUn (dz (ih.2.2.2.2 x1 (w64 ((w64 ((w64 (x29+1))+1))+1)) (w64 (x3+1)) _ k)) ?_
    refine kUn (hMv (out:=br [ap af x41,P6 x42,(aj).val x43]) rfl) (kUn ar ?_)
    refine kUn ar ?_
    refine kUn ar ?_
    refine bw al97 fun b44=>kAsL rfl (kAs rfl (av 5 rfl rfl (Upd.refl _) rfl sizeOf97 (a7 (W_rs (kUn (ak o0) ?_)))))
    refine kUn (au 5 ty3 cn) ?_
    refine kIn rfl rfl rfl ?_
    refine a6 h6l rfl (fun _ h6l=>?_) (fun _ h6l=>?_)
    ·refine bo (fun e C=>abw R x43=some w6l/\At [(6,Pr.pt b4 0),(7,P6 0),(8,Pr.pt b5 0)] [p3,D9 b5 aj x43,D9 b26 af x30,p5,D9 b44 aj x43] e C) ?_ ?_
     ·rintro e C ⟨h6l,a⟩
      refine W_at a ?_
      unfold abw at h6l
      obtain rfl:=ho6 _ (ojs h6l)
      replace h:some (p1,0,x43)=some r:=h
      obtain rfl:=osj h
      exact bg ⟨rfl,[(af).val p1,P6 0,(aj).val x43],⟨yBox 0 ty64 aa,yT aa,yBox 1 ty97 aa,tv⟩,aa⟩
     refine ga [(2,0,D9 b4 af p1),(4,1,D9 b5 aj x43)] [p3,D9 b5 aj x43,D9 b26 af x30,p5,E6 v38 af ([x30]:List B6) 64,D9 b44 aj x43] hmx kr kr (show([2,4]:List Nat).Nodup by decide) (show([0,1]:List Nat).Nodup by decide) rfl rfl ?_
     refine eq1 (out:=(af).val p1) (fun C2 hC=>(fr ba st64 rfl)) ?_
     refine eql 5 ty97 (Sub.refl _) rfl rfl kr ?_
     refine eqs 0 sizeOf64 (Upd.refl _) rfl rfl rfl kr ?_
     refine eq1 (out:=P6 0) (fun C2 hC=>gb) ?_
     refine eqs 1 sizeOf97 (Upd.refl _) rfl rfl rfl kr ?_
     exact⟨h6l,⟨⟨aa,aa,aa,tv⟩,A9.of [0,1,2,3,5] rfl⟩⟩
    refine ay (W_rs (kAs rfl (W_rs (kMv rfl (kMvL rfl ?_)))))
    obtain⟨x46,k,h6l⟩:=ah h6l
    refine ik 4 el53 k (fun v47=>?_)
    refine kAs rfl (W_r (kMv rfl (kAs rfl ?_)))
    exact⟨x42,20,x46,v47,h6l,⟨⟨aa,aa,aa,aa,aa,aa,aa,aa,aa,aa,tv⟩,A9.of [0,1,2,3,4] rfl⟩⟩
   refine ay ?_
   exact⟨w64 ((w64 (x29+1))+1),18,([x30]:List B6),v38,h6l,atOk⟩
  refine ej ?_
  obtain rfl:=ho6 _ (ojs h6l)
  exact⟨x29,x30,h,atOk⟩
 refine W_r (kMvL rfl (kMv rfl (c8 h (cb x1 x2 ([33]:Bt)) rfl fun x7 _ h=>kMv rfl ?_)))
 rcases cc h with⟨hc8,h⟩|⟨hc8,h⟩
 ·refine skx ?_
  refine kPt rfl hc8 rfl ?_
  exact⟨true,h,atOk⟩
 refine kGd rfl aa hc8 (hMvL rfl) (kGd rfl aa hc8 (hMvA rfl) ?_)
 obtain⟨x9,k,h⟩:=ah h
 refine kGd rfl aa hc8 (dz (cb x1 x2 ([45]:Bt) _ k)) ?_
 refine kPf rfl hc8 rfl ?_
 exact⟨x9,h,atOk⟩
theorem ajw (R:ax) (ih:i6 R) (x1:List C6) (x2 x3:Int) (r:B6 × Int × C7) (h:vz R x1 x2 x3=some r):Fp 201 [ap cg x1,P6 x2,P6 x3] (br [(af).val r.1,P6 r.2.1,(aj).val r.2.2]):=by
 refine ec (rs:=[.cell 6 64,.tmp 7,.cell 8 97]) func201 rfl ntmps201 results201 dcd (fun s0=>?_)
 let p1:=B6.mk 0 [] [] 0 0 0 0 0 []
 let p2:=C7.mk 0 0
 unfold vz at h
 refine W_rs (bw al64 fun b4=>kAs rfl (bw al97 fun b5=>a7 (a5 (W_rs (kMvL rfl (kMv rfl ?_))))))
 let p3:=D9 b4 af p1
 obtain⟨x6,k,h⟩:=ah h
 refine kUn (fo underlying41 sizeOf45 k) ?_
 refine kUn (jb aod tr) ?_
 refine kUn (cz ty3) ?_
 refine kIn rfl rfl rfl (kAs rfl ?_)
 refine a6 h rfl (fun _ h=>?_) (fun _ h=>?_)
 ·refine W_rs (kMvL rfl (kMv rfl (kMv rfl (kIn rfl rfl rfl ?_))))
  obtain⟨x8,k,h⟩:=ah h
  refine kUn (adm (ev x1 13 x2 (w64 (x2+1)) [] _ k) ⟨aa,aa,aa,aa,el _,tv⟩) ?_
  refine bw al64 fun b9=>av 2 rfl rfl (Upd.refl _) rfl sizeOf64 (a7 (W_rs (kAs rfl (a5 ?_))))
  obtain⟨z3l,hz3,h⟩:=ah h
  obtain⟨n3,hN3⟩:=bv hz3
  refine di 1 (fun e C=>∃x11,xv R x2 x11=some r/\At [(1,P6 x2),(6,Pr.pt b4 0),(8,Pr.pt b5 0),(9,Pr.pt b9 0)] [p3,D9 b5 aj p2,D9 b9 af x11] e C) ?_ ?_
  ·rintro e C ⟨x11,h,a⟩
   refine W_at a ?_
   unfold xv at h
   refine bo (fun e C=>∃x18,yb R x11 x2 x18=some r/\At [(6,Pr.pt b4 0),(7,P6 (w64 (x2+1))),(8,Pr.pt b5 0)] [D9 b4 af x11,D9 b5 aj x18,D9 b9 af x11] e C) ?_ ?_
   ·rintro e C ⟨x18,h,a⟩
    refine W_at a ?_
    unfold yb at h
    obtain rfl:=osj h
    exact bg ⟨rfl,[(af).val x11,P6 (w64 (x2+1)),(aj).val x18],⟨yBox 0 ty64 aa,yT aa,yBox 1 ty97 aa,tv⟩,aa⟩
   obtain⟨x18,k,h⟩:=ah h
   refine ga [(4,0,D9 b4 af x11),(6,1,D9 b5 aj x18)] [D9 b4 af x11,D9 b5 aj x18,D9 b9 af x11] hmx kr kr (show([4,6]:List Nat).Nodup by decide) (show([0,1]:List Nat).Nodup by decide) rfl rfl ?_
   refine eql 2 ty64 (Sub.refl _) rfl rfl kr ?_
   refine eq1 (out:=P6 x2) (fun C2 hC=>gz) ?_
   refine eq1 (out:=P6 (w64 (x2+1))) (fun C2 hC=>qInt) ?_
   refine eq1 (out:=(aj).val x18) (fun C2 hC=>(dz (dk _ k))) ?_
   refine eqs 0 sizeOf64 (Upd.refl _) rfl rfl rfl kr ?_
   refine eq1 (out:=P6 (w64 (x2+1))) (fun C2 hC=>gb) ?_
   refine eqs 1 sizeOf97 (Upd.refl _) rfl rfl rfl kr ?_
   exact⟨x18,h,atOk⟩
  refine ek (fun m e C=>∃x10,∃x11,fq (fun s=>tu R x1 x2 s.1 s.2) m (x10,x11)=some z3l/\At [(0,ap cg x1),(1,P6 x2),(6,Pr.pt b4 0),(8,Pr.pt b5 0),(9,Pr.pt b9 0),(10,P6 x10)] [p3,D9 b5 aj p2,D9 b9 af x11] e C) n3 ⟨0,x8,hN3,⟨⟨aa,aa,aa,aa,aa,aa,tv⟩,A9.refl _⟩⟩ ?_
  rintro m e C ⟨x10,x11,hN3,a⟩
  refine W_at a ?_
  obtain⟨m3,w3l,rfl,h3l,hn3,ho3⟩:=bm hN3
  replace h3l:tu R x1 x2 x10 x11=some w3l:=h3l
  unfold tu at h3l
  refine a7 (W_rs (kMv rfl (kMvL rfl (kMv rfl ?_))))
  obtain⟨x14,k,h3l⟩:=ah h3l
  refine kUn (fo underlying41 sizeOf45 k) ?_
  refine kUn (jb aat ge) ?_
  refine kUn (cz ty9) ?_
  refine kUn (ajm rfl underlying9) ?_
  refine kIn rfl rfl rfl ?_
  refine a6 h3l rfl (fun _ h3l=>?_) (fun _ h3l=>?_)
  ·refine ay (a7 (a5 ?_))
   refine i8 14 hmx kr kr ?_
   refine lUn (ak aig) ?_
   refine lUn (au 2 ty2 acn) ?_
   refine lUn (qInt rfl rfl rfl) (lUn (hMvL rfl) (lUn (hMvA rfl) ?_))
   obtain⟨x16,k,h3l⟩:=ah h3l
   refine lUn (fo underlying41 sizeOf45 k) ?_
   refine lUn (jb aat ge) ?_
   refine lUn (cz ty9) ?_
   refine lUn (hMvA rfl) ?_
   obtain⟨x17,k,h3l⟩:=ah h3l
   refine lUn (aib underlying9 k) ?_
   refine lUn (qInt rfl rfl rfl) (lUn (an1 underlying5 underlying2) ?_)
   refine lUn (qInt rfl rfl rfl) (lUn (ak aig) ?_)
   refine av 2 rfl rfl air rfl sizeOf2 (W_r (kMv rfl (kIn rfl rfl rfl (kAs rfl ?_))))
   exact⟨m3,lsu,w64 (x10+1),{x11 with N:=w64 ((w64 (10 * x11.N))+(w64 (IntKind.wrap .u8 (x17 - 48))))},hn3 _ (ojs h3l),atOk⟩
  refine ej ?_
  obtain rfl:=ho3 _ (ojs h3l)
  exact⟨x11,h,atOk⟩
 refine W_rs (kMvL rfl (kMv rfl (c8 h (cb x1 x2 ([116,114,117,101]:Bt)) rfl fun x19 _ h=>kAs rfl ?_)))
 refine a6 h rfl (fun _ h=>?_) (fun _ h=>?_)
 ·refine W_rs (kMvL rfl (kMv rfl (kMv rfl (kIn rfl rfl rfl ?_))))
  obtain⟨x21,k,h⟩:=ah h
  let p4:={x21 with N:=1}
  refine kUn (adm (ev x1 14 x2 (w64 (x2+1)) [] _ k) ⟨aa,aa,aa,aa,el _,tv⟩) ?_
  refine bw al64 fun b22=>av 2 rfl rfl (Upd.refl _) rfl sizeOf64 (W_rs (kUn (ak aig) ?_))
  refine av 2 rfl rfl air rfl sizeOf2 ?_
  refine bo (fun e C=>∃x23,ya R x21 x2 x23=some r/\At [(6,Pr.pt b4 0),(7,P6 (w64 (x2+1))),(8,Pr.pt b5 0)] [D9 b4 af p4,D9 b5 aj x23,D9 b22 af p4] e C) ?_ ?_
  ·rintro e C ⟨x23,h,a⟩
   refine W_at a ?_
   unfold ya at h
   obtain rfl:=osj h
   exact bg ⟨rfl,[(af).val p4,P6 (w64 (x2+1)),(aj).val x23],⟨yBox 0 ty64 aa,yT aa,yBox 1 ty97 aa,tv⟩,aa⟩
  obtain⟨x23,k,h⟩:=ah h
  refine ga [(4,0,D9 b4 af p4),(6,1,D9 b5 aj x23)] [D9 b4 af p4,D9 b5 aj x23,D9 b22 af p4] hmx kr kr (show([4,6]:List Nat).Nodup by decide) (show([0,1]:List Nat).Nodup by decide) rfl rfl ?_
  refine eql 2 ty64 (Sub.refl _) rfl rfl kr ?_
  refine eq1 (out:=P6 x2) (fun C2 hC=>gz) ?_
  refine eq1 (out:=P6 (w64 (x2+1))) (fun C2 hC=>qInt) ?_
  refine eq1 (out:=(aj).val x23) (fun C2 hC=>(dz (dk _ k))) ?_
  refine eqs 0 sizeOf64 (Upd.refl _) rfl rfl rfl kr ?_
  refine eq1 (out:=P6 (w64 (x2+1))) (fun C2 hC=>gb) ?_
  refine eqs 1 sizeOf97 (Upd.refl _) rfl rfl rfl kr ?_
  exact⟨x23,h,atOk⟩
 refine W_rs (kMvL rfl (kMv rfl (c8 h (cb x1 x2 ([102,97,108,115,101]:Bt)) rfl fun x24 _ h=>kAs rfl ?_)))
 refine a6 h rfl (fun _ h=>?_) (fun _ h=>?_)
 ·refine W_rs (kMvL rfl (kMv rfl (kMv rfl (kIn rfl rfl rfl ?_))))
  obtain⟨x26,k,h⟩:=ah h
  refine kUn (adm (ev x1 14 x2 (w64 (x2+1)) [] _ k) ⟨aa,aa,aa,aa,el _,tv⟩) ?_
  refine kMv rfl (kIn rfl rfl rfl (c8 h (dk) rfl fun x27 _ h=>av 0 rfl rfl (Upd.refl _) rfl sizeOf64 (kAs rfl (av 1 rfl rfl (Upd.refl _) rfl sizeOf97 ?_))))
  obtain rfl:=osj h
  exact bg ⟨rfl,[(af).val x26,P6 (w64 (x2+1)),(aj).val x27],⟨yBox 0 ty64 aa,yT aa,yBox 1 ty97 aa,tv⟩,aa⟩
 refine W_rs (kMvL rfl (kMv rfl (c8 h (cb x1 x2 ([110,117,108,108]:Bt)) rfl fun x28 _ h=>kAs rfl ?_)))
 refine a6 h rfl (fun _ h=>?_) (fun _ h=>?_)
 ·refine W_rs (kMvL rfl (kMv rfl (kMv rfl (kIn rfl rfl rfl ?_))))
  obtain⟨x30,k,h⟩:=ah h
  refine kUn (adm (ev x1 15 x2 (w64 (x2+1)) [] _ k) ⟨aa,aa,aa,aa,el _,tv⟩) ?_
  refine kMv rfl (kIn rfl rfl rfl (c8 h (dk) rfl fun x31 _ h=>av 0 rfl rfl (Upd.refl _) rfl sizeOf64 (kAs rfl (av 1 rfl rfl (Upd.refl _) rfl sizeOf97 ?_))))
  obtain rfl:=osj h
  exact bg ⟨rfl,[(af).val x30,P6 (w64 (x2+1)),(aj).val x31],⟨yBox 0 ty64 aa,yT aa,yBox 1 ty97 aa,tv⟩,aa⟩
 refine W_rs (kMvL rfl (kMv rfl (c8 h (cb x1 x2 ([116,104,105,115]:Bt)) rfl fun x32 _ h=>kAs rfl ?_)))
 refine a6 h rfl (fun _ h=>?_) (fun _ h=>?_)
 ·refine W_rs (kMvL rfl (kMv rfl (kMv rfl (kIn rfl rfl rfl ?_))))
  obtain⟨x34,k,h⟩:=ah h
  refine kUn (adm (ev x1 16 x2 (w64 (x2+1)) [] _ k) ⟨aa,aa,aa,aa,el _,tv⟩) ?_
  refine kMv rfl (kIn rfl rfl rfl (c8 h (dk) rfl fun x35 _ h=>av 0 rfl rfl (Upd.refl _) rfl sizeOf64 (kAs rfl (av 1 rfl rfl (Upd.refl _) rfl sizeOf97 ?_))))
  obtain rfl:=osj h
  exact bg ⟨rfl,[(af).val x34,P6 (w64 (x2+1)),(aj).val x35],⟨yBox 0 ty64 aa,yT aa,yBox 1 ty97 aa,tv⟩,aa⟩
 refine W_rs (kMvL rfl (kMv rfl (c8 h (cb x1 x2 ([110,101,119]:Bt)) rfl fun x36 _ h=>kAs rfl ?_)))
 refine a6 h rfl (fun _ h=>?_) (fun _ h=>?_)
 ·refine a7 (W_rs (kMvL rfl (kMv rfl (kIn rfl rfl rfl (c8 h (l7 x1 (w64 (x2+1))) rfl fun x38 _ h=>kNo rfl ?_)))))
  refine a6 h rfl (fun _ h=>?_) (fun _ h=>?_)
  ·refine W_rs (kUn (fr ba st64 rfl) ?_)
   refine kMv rfl (kIn rfl rfl rfl (c8 h (cw (w64 (x2+1))) rfl fun x40 _ h=>av 0 rfl rfl (Upd.refl _) rfl sizeOf64 (kAs rfl (av 1 rfl rfl (Upd.refl _) rfl sizeOf97 ?_))))
   obtain rfl:=osj h
   exact bg ⟨rfl,[(af).val p1,P6 0,(aj).val x40],⟨yBox 0 ty64 aa,yT aa,yBox 1 ty97 aa,tv⟩,aa⟩
  refine ay (a7 (W_rs (kMvL rfl (kMv rfl (kIn rfl rfl rfl (c8 h (cb x1 (w64 (x2+2)) ([40]:Bt)) rfl fun x41 _ h=>kNo rfl ?_))))))
  refine a6 h rfl (fun _ h=>?_) (fun _ h=>?_)
  ·refine W_rs (kUn (fr ba st64 rfl) ?_)
   refine kMv rfl (kIn rfl rfl rfl (c8 h (cw (w64 (x2+2))) rfl fun x43 _ h=>av 0 rfl rfl (Upd.refl _) rfl sizeOf64 (kAs rfl (av 1 rfl rfl (Upd.refl _) rfl sizeOf97 ?_))))
   obtain rfl:=osj h
   exact bg ⟨rfl,[(af).val p1,P6 0,(aj).val x43],⟨yBox 0 ty64 aa,yT aa,yBox 1 ty97 aa,tv⟩,aa⟩
  refine ay (a7 (W_rs (kMvL rfl (kMv rfl (kIn rfl rfl rfl (c8 h (cb x1 (w64 (x2+3)) ([41]:Bt)) rfl fun x44 _ h=>kNo rfl ?_))))))
  refine a6 h rfl (fun _ h=>?_) (fun _ h=>?_)
  ·refine W_rs (kUn (fr ba st64 rfl) ?_)
   refine kMv rfl (kIn rfl rfl rfl (c8 h (cw (w64 (x2+3))) rfl fun x46 _ h=>av 0 rfl rfl (Upd.refl _) rfl sizeOf64 (kAs rfl (av 1 rfl rfl (Upd.refl _) rfl sizeOf97 ?_))))
   obtain rfl:=osj h
   exact bg ⟨rfl,[(af).val p1,P6 0,(aj).val x46],⟨yBox 0 ty64 aa,yT aa,yBox 1 ty97 aa,tv⟩,aa⟩
  refine ay (W_rs (kMvL rfl (kMv rfl (kMv rfl (kIn rfl rfl rfl ?_)))))
  obtain⟨x47,k,h⟩:=ah h
  refine kUn (adm (ev x1 21 x2 (w64 (x2+4)) [] _ k) ⟨aa,aa,aa,aa,el _,tv⟩) ?_
  refine bw al64 fun b48=>av 2 rfl rfl (Upd.refl _) rfl sizeOf64 (W_rs (kMvL rfl (kMv rfl (kIn rfl rfl rfl ?_))))
  obtain⟨x49,k,h⟩:=ah h
  refine kUn (fo underlying41 sizeOf45 k) ?_
  refine kUn (jb aat ge) ?_
  refine kUn (cz ty9) ?_
  refine kUn (ak ie) ?_
  refine av 2 rfl rfl r5 rfl sizeOf9 (W_rs (kMvL rfl (kMv rfl (kIn rfl rfl rfl ?_))))
  obtain⟨x50,k,h⟩:=ah h
  let p5:={{x47 with Text:=x49.Text} with At:=x50.At}
  refine kUn (fo underlying41 sizeOf45 k) ?_
  refine kUn (jb af0 lv) ?_
  refine kUn (cz ty3) ?_
  refine kUn (ak ru) ?_
  refine av 2 rfl rfl zh rfl sizeOf3 ?_
  refine bo (fun e C=>∃x51,x0 R x47 x49 x50 x2 x51=some r/\At [(6,Pr.pt b4 0),(7,P6 (w64 (x2+4))),(8,Pr.pt b5 0)] [D9 b4 af p5,D9 b5 aj x51,D9 b48 af p5] e C) ?_ ?_
  ·rintro e C ⟨x51,h,a⟩
   refine W_at a ?_
   unfold x0 at h
   obtain rfl:=osj h
   exact bg ⟨rfl,[(af).val p5,P6 (w64 (x2+4)),(aj).val x51],⟨yBox 0 ty64 aa,yT aa,yBox 1 ty97 aa,tv⟩,aa⟩
  obtain⟨x51,k,h⟩:=ah h
  refine ga [(4,0,D9 b4 af p5),(6,1,D9 b5 aj x51)] [D9 b4 af p5,D9 b5 aj x51,D9 b48 af p5] hmx kr kr (show([4,6]:List Nat).Nodup by decide) (show([0,1]:List Nat).Nodup by decide) rfl rfl ?_
  refine eql 2 ty64 (Sub.refl _) rfl rfl kr ?_
  refine eq1 (out:=P6 x2) (fun C2 hC=>gz) ?_
  refine eq1 (out:=P6 (w64 (x2+4))) (fun C2 hC=>qInt) ?_
  refine eq1 (out:=(aj).val x51) (fun C2 hC=>(dz (dk _ k))) ?_
  refine eqs 0 sizeOf64 (Upd.refl _) rfl rfl rfl kr ?_
  refine eq1 (out:=P6 (w64 (x2+4))) (fun C2 hC=>gb) ?_
  refine eqs 1 sizeOf97 (Upd.refl _) rfl rfl rfl kr ?_
  exact⟨x51,h,atOk⟩
 refine W_rs (kMvL rfl (kMv rfl (c8 h (cb x1 x2 ([40]:Bt)) rfl fun x52 _ h=>kAs rfl ?_)))
 refine a6 h rfl (fun _ h=>?_) (fun _ h=>?_)
 ·refine W_rs (kMvL rfl (kMv rfl (kIn rfl rfl rfl (kMv rfl ?_))))
  obtain⟨⟨x54,x55,x56⟩,k,h⟩:=ah h
  refine kUn (dz (ih.1 x1 (w64 (x2+1)) x3 _ k)) ?_
  refine kUn (hMv (out:=br [(af).val x54,P6 x55,(aj).val x56]) rfl) (kUn ar ?_)
  refine kUn ar ?_
  refine kUn ar ?_
  refine bw al64 fun b57=>?_
  let p6:=D9 b57 af x54
  refine bw al97 fun b58=>av 2 rfl rfl (Upd.refl _) rfl sizeOf64 (kAs rfl (av 3 rfl rfl (Upd.refl _) rfl sizeOf97 (a7 (W_rs (kUn (ak o0) ?_)))))
  let p7:=D9 b58 aj x56
  refine kUn (au 3 ty3 cn) ?_
  refine kIn rfl rfl rfl ?_
  refine a6 h rfl (fun _ h=>?_) (fun _ h=>?_)
  ·refine bo (fun e C=>xz R x56=some r/\At [(6,Pr.pt b4 0),(7,P6 0),(8,Pr.pt b5 0)] [p3,D9 b5 aj x56,p6,p7] e C) ?_ ?_
   ·rintro e C ⟨h,a⟩
    refine W_at a ?_
    unfold xz at h
    obtain rfl:=osj h
    exact bg ⟨rfl,[(af).val p1,P6 0,(aj).val x56],⟨yBox 0 ty64 aa,yT aa,yBox 1 ty97 aa,tv⟩,aa⟩
   refine ga [(2,0,D9 b4 af p1),(4,1,D9 b5 aj x56)] [p3,D9 b5 aj x56,p6,p7] hmx kr kr (show([2,4]:List Nat).Nodup by decide) (show([0,1]:List Nat).Nodup by decide) rfl rfl ?_
   refine eq1 (out:=(af).val p1) (fun C2 hC=>(fr ba st64 rfl)) ?_
   refine eql 3 ty97 (Sub.refl _) rfl rfl kr ?_
   refine eqs 0 sizeOf64 (Upd.refl _) rfl rfl rfl kr ?_
   refine eq1 (out:=P6 0) (fun C2 hC=>gb) ?_
   refine eqs 1 sizeOf97 (Upd.refl _) rfl rfl rfl kr ?_
   exact⟨h,atOk⟩
  refine ay (a7 (W_rs (kMvL rfl (kMv rfl (c8 h (cb x1 x55 ([41]:Bt)) rfl fun x60 _ h=>kNo rfl ?_)))))
  refine a6 h rfl (fun _ h=>?_) (fun _ h=>?_)
  ·refine W_rs (kUn (fr ba st64 rfl) ?_)
   refine kMv rfl (c8 h (cw x55) rfl fun x62 _ h=>av 0 rfl rfl (Upd.refl _) rfl sizeOf64 (kAs rfl (av 1 rfl rfl (Upd.refl _) rfl sizeOf97 ?_)))
   obtain rfl:=osj h
   exact bg ⟨rfl,[(af).val p1,P6 0,(aj).val x62],⟨yBox 0 ty64 aa,yT aa,yBox 1 ty97 aa,tv⟩,aa⟩
  refine ay ?_
  refine bo (fun e C=>∃x63,xy R x54 x55 x63=some r/\At [(6,Pr.pt b4 0),(7,P6 (w64 (x55+1))),(8,Pr.pt b5 0)] [D9 b4 af x54,D9 b5 aj x63,p6,p7] e C) ?_ ?_
  ·rintro e C ⟨x63,h,a⟩
   refine W_at a ?_
   unfold xy at h
   obtain rfl:=osj h
   exact bg ⟨rfl,[(af).val x54,P6 (w64 (x55+1)),(aj).val x63],⟨yBox 0 ty64 aa,yT aa,yBox 1 ty97 aa,tv⟩,aa⟩
  obtain⟨x63,k,h⟩:=ah h
  refine ga [(4,0,D9 b4 af x54),(6,1,D9 b5 aj x63)] [D9 b4 af x54,D9 b5 aj x63,p6,p7] hmx kr kr (show([4,6]:List Nat).Nodup by decide) (show([0,1]:List Nat).Nodup by decide) rfl rfl ?_
  refine eql 2 ty64 (Sub.refl _) rfl rfl kr ?_
  refine eq1 (out:=P6 x55) (fun C2 hC=>gz) ?_
  refine eq1 (out:=P6 (w64 (x55+1))) (fun C2 hC=>qInt) ?_
  refine eq1 (out:=(aj).val x63) (fun C2 hC=>(dz (dk _ k))) ?_
  refine eqs 0 sizeOf64 (Upd.refl _) rfl rfl rfl kr ?_
  refine eq1 (out:=P6 (w64 (x55+1))) (fun C2 hC=>gb) ?_
  refine eqs 1 sizeOf97 (Upd.refl _) rfl rfl rfl kr ?_
  exact⟨x63,h,atOk⟩
 refine W_rs (kMvL rfl (kMv rfl (c8 h (l7 x1 x2) rfl fun x64 _ h=>kAs rfl ?_)))
 refine a6 h rfl (fun _ h=>?_) (fun _ h=>?_)
 ·refine W_rs (kMvL rfl (kMv rfl (kMv rfl (kIn rfl rfl rfl ?_))))
  obtain⟨x66,k,h⟩:=ah h
  refine kUn (adm (ev x1 17 x2 (w64 (x2+1)) [] _ k) ⟨aa,aa,aa,aa,el _,tv⟩) ?_
  refine bw al64 fun b67=>av 2 rfl rfl (Upd.refl _) rfl sizeOf64 (W_rs (kMvL rfl (kMv rfl ?_)))
  obtain⟨x68,k,h⟩:=ah h
  refine kUn (fo underlying41 sizeOf45 k) ?_
  refine kUn (jb aat ge) ?_
  refine kUn (cz ty9) ?_
  refine kUn (ak ie) ?_
  refine av 2 rfl rfl r5 rfl sizeOf9 (W_rs (kMvL rfl (kMv rfl ?_)))
  obtain⟨x69,k,h⟩:=ah h
  let p8:={{x66 with Text:=x68.Text} with At:=x69.At}
  refine kUn (fo underlying41 sizeOf45 k) ?_
  refine kUn (jb af0 lv) ?_
  refine kUn (cz ty3) ?_
  refine kUn (ak ru) ?_
  refine av 2 rfl rfl zh rfl sizeOf3 (a7 (W_rs (kMvL rfl (kMv rfl (kIn rfl rfl rfl (c8 h (cb x1 (w64 (x2+1)) ([40]:Bt)) rfl fun x70 _ h=>kNo rfl ?_))))))
  refine a6 h rfl (fun _ h=>?_) (fun _ h=>?_)
  ·refine bo (fun e C=>∃x72,xx R x66 x68 x69 x2 x72=some r/\At [(6,Pr.pt b4 0),(7,P6 (w64 (x2+1))),(8,Pr.pt b5 0)] [D9 b4 af p8,D9 b5 aj x72,D9 b67 af p8] e C) ?_ ?_
   ·rintro e C ⟨x72,h,a⟩
    refine W_at a ?_
    unfold xx at h
    obtain rfl:=osj h
    exact bg ⟨rfl,[(af).val p8,P6 (w64 (x2+1)),(aj).val x72],⟨yBox 0 ty64 aa,yT aa,yBox 1 ty97 aa,tv⟩,aa⟩
   obtain⟨x72,k,h⟩:=ah h
   refine ga [(4,0,D9 b4 af p8),(6,1,D9 b5 aj x72)] [D9 b4 af p8,D9 b5 aj x72,D9 b67 af p8] hmx kr kr (show([4,6]:List Nat).Nodup by decide) (show([0,1]:List Nat).Nodup by decide) rfl rfl ?_
   refine eql 2 ty64 (Sub.refl _) rfl rfl kr ?_
   refine eq1 (out:=P6 x2) (fun C2 hC=>gz) ?_
   refine eq1 (out:=P6 (w64 (x2+1))) (fun C2 hC=>qInt) ?_
   refine eq1 (out:=(aj).val x72) (fun C2 hC=>(dz (dk _ k))) ?_
   refine eqs 0 sizeOf64 (Upd.refl _) rfl rfl rfl kr ?_
   refine eq1 (out:=P6 (w64 (x2+1))) (fun C2 hC=>gb) ?_
   refine eqs 1 sizeOf97 (Upd.refl _) rfl rfl rfl kr ?_
   exact⟨x72,h,atOk⟩
  refine ay (W_rs (kMvL rfl (kMv rfl (kIn rfl rfl rfl (kMv rfl ?_)))))
  obtain⟨⟨x73,x74,x75⟩,k,h⟩:=ah h
  refine kUn (dz (ih.2.2.2.2 x1 (w64 (x2+2)) x3 _ k)) ?_
  refine kUn (hMv (out:=br [ap af x73,P6 x74,(aj).val x75]) rfl) (kUn ar ?_)
  refine kUn ar ?_
  refine kUn ar ?_
  refine bw al97 fun b76=>kAsL rfl (kAs rfl (av 3 rfl rfl (Upd.refl _) rfl sizeOf97 (a7 (W_rs (kUn (ak o0) ?_)))))
  let p9:=D9 b76 aj x75
  refine kUn (au 3 ty3 cn) ?_
  refine kIn rfl rfl rfl ?_
  refine a6 h rfl (fun _ h=>?_) (fun _ h=>?_)
  ·refine bo (fun e C=>xw R x75=some r/\At [(6,Pr.pt b4 0),(7,P6 0),(8,Pr.pt b5 0)] [p3,D9 b5 aj x75,D9 b67 af p8,p9] e C) ?_ ?_
   ·rintro e C ⟨h,a⟩
    refine W_at a ?_
    unfold xw at h
    obtain rfl:=osj h
    exact bg ⟨rfl,[(af).val p1,P6 0,(aj).val x75],⟨yBox 0 ty64 aa,yT aa,yBox 1 ty97 aa,tv⟩,aa⟩
   refine ga [(2,0,D9 b4 af p1),(4,1,D9 b5 aj x75)] [p3,D9 b5 aj x75,D9 b67 af p8,p9] hmx kr kr (show([2,4]:List Nat).Nodup by decide) (show([0,1]:List Nat).Nodup by decide) rfl rfl ?_
   refine eq1 (out:=(af).val p1) (fun C2 hC=>(fr ba st64 rfl)) ?_
   refine eql 3 ty97 (Sub.refl _) rfl rfl kr ?_
   refine eqs 0 sizeOf64 (Upd.refl _) rfl rfl rfl kr ?_
   refine eq1 (out:=P6 0) (fun C2 hC=>gb) ?_
   refine eqs 1 sizeOf97 (Upd.refl _) rfl rfl rfl kr ?_
   exact⟨h,atOk⟩
  refine ay (W_rs (kUn (ak f4) ?_))
  refine av 2 rfl rfl apc rfl sizeOf3 (W_rs (kMvL rfl (kUn (ak ic) ?_)))
  refine av 2 rfl rfl apd rfl sizeOf53 (W_rs (kMvL rfl (kMv rfl (c8 h (amp x1 x74) rfl fun x78 _ h=>?_))))
  let p10:={{{{{x66 with Text:=x68.Text} with At:=x69.At} with Kind:=19} with Kids:=x73} with To:=x78}
  refine kUn (ak fld64_5) ?_
  refine av 2 rfl rfl as8 rfl sizeOf3 ?_
  refine bo (fun e C=>∃x79,wm R x66 x68 x69 x73 x78 x74 x79=some r/\At [(6,Pr.pt b4 0),(7,P6 x74),(8,Pr.pt b5 0)] [D9 b4 af p10,D9 b5 aj x79,D9 b67 af p10,p9] e C) ?_ ?_
  ·rintro e C ⟨x79,h,a⟩
   refine W_at a ?_
   unfold wm at h
   obtain rfl:=osj h
   exact bg ⟨rfl,[(af).val p10,P6 x74,(aj).val x79],⟨yBox 0 ty64 aa,yT aa,yBox 1 ty97 aa,tv⟩,aa⟩
  obtain⟨x79,k,h⟩:=ah h
  refine ga [(3,0,D9 b4 af p10),(5,1,D9 b5 aj x79)] [D9 b4 af p10,D9 b5 aj x79,D9 b67 af p10,p9] hmx kr kr (show([3,5]:List Nat).Nodup by decide) (show([0,1]:List Nat).Nodup by decide) rfl rfl ?_
  refine eql 2 ty64 (Sub.refl _) rfl rfl kr ?_
  refine eq1 (out:=P6 x74) (fun C2 hC=>gz) ?_
  refine eq1 (out:=(aj).val x79) (fun C2 hC=>(dz (dk _ k))) ?_
  refine eqs 0 sizeOf64 (Upd.refl _) rfl rfl rfl kr ?_
  refine eq1 (out:=P6 x74) (fun C2 hC=>gb) ?_
  refine eqs 1 sizeOf97 (Upd.refl _) rfl rfl rfl kr ?_
  exact⟨x79,h,atOk⟩
 refine ay (W_rs (kUn (fr ba st64 rfl) ?_))
 refine kMv rfl (c8 h (cw x2) rfl fun x80 _ h=>av 0 rfl rfl (Upd.refl _) rfl sizeOf64 (kAs rfl (av 1 rfl rfl (Upd.refl _) rfl sizeOf97 ?_)))
 obtain rfl:=osj h
 exact bg ⟨rfl,[(af).val p1,P6 0,(aj).val x80],⟨yBox 0 ty64 aa,yT aa,yBox 1 ty97 aa,tv⟩,aa⟩
theorem ah8 (R:ax) (ih:i6 R) (x1:List C6) (x2 x3:Int) (r:(List B6) × Int × C7) (h:sj R x1 x2 x3=some r):Fp 202 [ap cg x1,P6 x2,P6 x3] (br [ap af r.1,P6 r.2.1,(aj).val r.2.2]):=by
 refine ec (rs:=[.tmp 6,.tmp 7,.cell 8 97]) func202 rfl ntmps202 results202 dcd (fun s0=>?_)
 unfold sj at h
 refine W_rs (kAs rfl (kAs rfl (bw al97 fun b4=>W_rs (kAs rfl (a7 (W_rs (kMvL rfl (kMv rfl (c8 h (cb x1 x2 ([41]:Bt)) rfl fun x5 _ h=>?_)))))))))
 refine a6 h rfl (fun _ h=>?_) (fun _ h=>?_)
 ·refine W_rs (kMv rfl (kMv rfl (kIn rfl rfl rfl (c8 h (dk) rfl fun x7 _ h=>kAs rfl (kAs rfl (av 0 rfl rfl (Upd.refl _) rfl sizeOf97 ?_))))))
  obtain rfl:=osj h
  exact bg ⟨rfl,[ap af [],P6 (w64 (x2+1)),(aj).val x7],⟨yT (el _),yT aa,yBox 0 ty97 aa,tv⟩,aa⟩
 refine ay (a5 ?_)
 obtain⟨n1,hN1⟩:=bv h
 refine ah6 [9] af 64 (fun v28=>?_) ⟨rfl,tv⟩
 refine ek (fun m e C=>∃x8,∃x10,∃v9,fq (fun s=>qf R x1 x3 s.1 s.2) m (x8,x10)=some r/\At [(0,ap cg x1),(1,P6 x8),(2,P6 x3),(8,Pr.pt b4 0),(9,Pi v9)] [D9 b4 aj (C7.mk 0 0),E6 v9 af x10 64] e C) n1 ⟨x2,[],v28,hN1,⟨⟨aa,aa,aa,aa,aa,tv⟩,A9.refl _⟩⟩ ?_
 rintro m e C ⟨x8,x10,v9,hN1,a⟩
 refine W_at a ?_
 obtain⟨m1,w1l,rfl,h1l,hn1,ho1⟩:=bm hN1
 replace h1l:qf R x1 x3 x8 x10=some w1l:=h1l
 unfold qf at h1l
 refine a5 (W_rs (kMvL rfl (kMv rfl (kMv rfl ?_))))
 obtain⟨⟨x14,x15,x16⟩,k,h1l⟩:=ah h1l
 refine kUn (dz (ih.1 x1 x8 x3 _ k)) ?_
 refine kUn (hMv (out:=br [(af).val x14,P6 x15,(aj).val x16]) rfl) (kUn ar ?_)
 refine kUn ar ?_
 refine kUn ar ?_
 refine bw al64 fun b17=>?_
 refine bw al97 fun b18=>av 2 rfl rfl (Upd.refl _) rfl sizeOf64 (kAs rfl (av 3 rfl rfl (Upd.refl _) rfl sizeOf97 (a7 (W_rs (kUn (ak o0) ?_)))))
 refine kUn (au 3 ty3 cn) ?_
 refine kIn rfl rfl rfl ?_
 refine a6 h1l rfl (fun _ h1l=>?_) (fun _ h1l=>?_)
 ·refine bo (fun e C=>ux R x16=some w1l/\At [(6,Pi (.slice none 0 0)),(7,P6 0),(8,Pr.pt b4 0)] [D9 b4 aj x16,D9 b17 af x14,D9 b18 aj x16] e C) ?_ ?_
  ·rintro e C ⟨h1l,a⟩
   refine W_at a ?_
   unfold ux at h1l
   have h:some ([],0,x16)=some r:=congrArg some (ho1 _ (ojs h1l))
   obtain rfl:=osj h
   exact bg ⟨rfl,[ap af [],P6 0,(aj).val x16],⟨yT (el _),yT aa,yBox 0 ty97 aa,tv⟩,aa⟩
  refine i8 3 hmx kr kr ?_
  refine lUn (au 3 ty97 (Sub.refl _)) ?_
  refine lUn (hAsA rfl) (lUn (hAsA rfl) (av 0 rfl rfl (Upd.refl _) rfl sizeOf97 ?_))
  exact⟨h1l,⟨⟨aa,aa,aa,tv⟩,A9.of [0,2,3] rfl⟩⟩
 refine ay (W_rs (kMv rfl (kUn (au 2 ty64 (Sub.refl _)) ?_)))
 refine kUn (cq (R:=af) (a:=x14) el53 nb) ?_
 obtain⟨x20,k,h1l⟩:=ah h1l
 refine ik 1 el53 k (fun v21=>?_)
 refine kAs rfl (a7 (W_rs (kMvL rfl (kMv rfl (c8 h1l (cb x1 x15 ([41]:Bt)) rfl fun x22 _ h1l=>?_)))))
 refine a6 h1l rfl (fun _ h1l=>?_) (fun _ h1l=>?_)
 ·refine W_rs (kMv rfl (kMv rfl (kIn rfl rfl rfl (c8 h1l (dk) rfl fun x24 _ h1l=>kAs rfl (kAs rfl (av 0 rfl rfl (Upd.refl _) rfl sizeOf97 ?_))))))
  have h:some (x20,w64 (x15+1),x24)=some r:=congrArg some (ho1 _ (ojs h1l))
  refine ar0 1 [6] ?_ rfl ⟨rfl,tv⟩
  obtain rfl:=osj h
  exact bg ⟨rfl,[ap af x20,P6 (w64 (x15+1)),(aj).val x24],⟨yT aa,yT aa,yBox 0 ty97 aa,tv⟩,aa⟩
 refine ay (a7 (W_rs (kMvL rfl (kMv rfl (c8 h1l (cb x1 x15 ([44]:Bt)) rfl fun x25 _ h1l=>kNo rfl ?_)))))
 refine a6 h1l rfl (fun _ h1l=>?_) (fun _ h1l=>?_)
 ·refine W_rs (kMv rfl (c8 h1l (cw x15) rfl fun x27 _ h1l=>kAs rfl (kAs rfl (av 0 rfl rfl (Upd.refl _) rfl sizeOf97 ?_))))
  have h:some ([],0,x27)=some r:=congrArg some (ho1 _ (ojs h1l))
  obtain rfl:=osj h
  exact bg ⟨rfl,[ap af [],P6 0,(aj).val x27],⟨yT (el _),yT aa,yBox 0 ty97 aa,tv⟩,aa⟩
 refine ay (W_r (kMv rfl (kIn rfl rfl rfl (kAs rfl ?_))))
 exact⟨m1,lsu,w64 (x15+1),x20,v21,hn1 _ (ojs h1l),⟨⟨aa,aa,aa,aa,aa,tv⟩,A9.of [0,1] rfl⟩⟩
theorem ahy :∀n,i6 (gn n):=by
 intro n
 induction n with
 |zero=>exact⟨(fun x1 x2 x3 r h=>nomatch (show none=some r from h)),(fun x1 x2 x3 x4 r h=>nomatch (show none=some r from h)),(fun x1 x2 x3 r h=>nomatch (show none=some r from h)),(fun x1 x2 x3 r h=>nomatch (show none=some r from h)),(fun x1 x2 x3 r h=>nomatch (show none=some r from h))⟩
 |succ n ih=>exact⟨(fun x1 x2 x3 r h=>ah1 (gn n) ih x1 x2 x3 r h),(fun x1 x2 x3 x4 r h=>alt (gn n) ih x1 x2 x3 x4 r h),(fun x1 x2 x3 r h=>als (gn n) ih x1 x2 x3 r h),(fun x1 x2 x3 r h=>ajw (gn n) ih x1 x2 x3 r h),(fun x1 x2 x3 r h=>ah8 (gn n) ih x1 x2 x3 r h)⟩
theorem pe (x1:List C6) (x2 x3:Int) (r:B6 × Int × C7) (h:n0 x1 x2 x3=some r):Fp 179 [ap cg x1,P6 x2,P6 x3] (br [(af).val r.1,P6 r.2.1,(aj).val r.2.2]):=(ahy 1048576).1 x1 x2 x3 r h
theorem apt (x1:List C6) (x2 x3:Int) (r:B6 × Int × C7) (h:act x1 x2 x3=some r):Fp 168 [ap cg x1,P6 x2,P6 x3] (br [(af).val r.1,P6 r.2.1,(aj).val r.2.2]):=by
 refine ec (rs:=[.cell 6 64,.tmp 7,.cell 8 97]) func168 rfl ntmps168 results168 dcd (fun s0=>?_)
 let p1:=B6.mk 0 [] [] 0 0 0 0 0 []
 unfold act at h
 refine W_rs (bw al64 fun b4=>kAs rfl (bw al97 fun b5=>a7 (W_rs (kMvL rfl (kMv rfl (c8 h (cb x1 x2 ([118,111,105,100]:Bt)) rfl fun x6 _ h=>?_))))))
 refine a6 h rfl (fun _ h=>?_) (fun _ h=>?_)
 ·refine W_rs (kUn (fr ba st64 rfl) ?_)
  refine kMv rfl (c8 h (cw x2) rfl fun x8 _ h=>av 0 rfl rfl (Upd.refl _) rfl sizeOf64 (kAs rfl (av 1 rfl rfl (Upd.refl _) rfl sizeOf97 ?_)))
  obtain rfl:=osj h
  exact bg ⟨rfl,[(af).val p1,P6 0,(aj).val x8],⟨yBox 0 ty64 aa,yT aa,yBox 1 ty97 aa,tv⟩,aa⟩
 refine ay (a7 (W_rs (kMvL rfl (kMv rfl (kIn rfl rfl rfl (c8 h (l7 x1 (w64 (x2+1))) rfl fun x9 _ h=>kNo rfl ?_))))))
 refine a6 h rfl (fun _ h=>?_) (fun _ h=>?_)
 ·refine W_rs (kUn (fr ba st64 rfl) ?_)
  refine kMv rfl (kIn rfl rfl rfl (c8 h (cw (w64 (x2+1))) rfl fun x11 _ h=>av 0 rfl rfl (Upd.refl _) rfl sizeOf64 (kAs rfl (av 1 rfl rfl (Upd.refl _) rfl sizeOf97 ?_))))
  obtain rfl:=osj h
  exact bg ⟨rfl,[(af).val p1,P6 0,(aj).val x11],⟨yBox 0 ty64 aa,yT aa,yBox 1 ty97 aa,tv⟩,aa⟩
 refine ay (a7 (W_rs (kMvL rfl (kMv rfl (kIn rfl rfl rfl (c8 h (cb x1 (w64 (x2+2)) ([61]:Bt)) rfl fun x12 _ h=>kNo rfl ?_))))))
 refine a6 h rfl (fun _ h=>?_) (fun _ h=>?_)
 ·refine W_rs (kUn (fr ba st64 rfl) ?_)
  refine kMv rfl (kIn rfl rfl rfl (c8 h (cw (w64 (x2+2))) rfl fun x14 _ h=>av 0 rfl rfl (Upd.refl _) rfl sizeOf64 (kAs rfl (av 1 rfl rfl (Upd.refl _) rfl sizeOf97 ?_))))
  obtain rfl:=osj h
  exact bg ⟨rfl,[(af).val p1,P6 0,(aj).val x14],⟨yBox 0 ty64 aa,yT aa,yBox 1 ty97 aa,tv⟩,aa⟩
 refine ay (W_rs (kMvL rfl (kMv rfl (kIn rfl rfl rfl (kMv rfl (kIn rfl rfl rfl ?_))))))
 obtain⟨⟨x15,x16,x17⟩,k,h⟩:=ah h
 refine kUn (dz (pe x1 (w64 (x2+3)) (w64 (x3+1)) _ k)) ?_
 refine kUn (hMv (out:=br [(af).val x15,P6 x16,(aj).val x17]) rfl) (kUn ar ?_)
 refine kUn ar ?_
 refine kUn ar ?_
 refine bw al64 fun b18=>?_
 refine bw al97 fun b19=>av 2 rfl rfl (Upd.refl _) rfl sizeOf64 (kAs rfl (av 3 rfl rfl (Upd.refl _) rfl sizeOf97 (a7 (W_rs (kUn (ak o0) ?_)))))
 refine kUn (au 3 ty3 cn) ?_
 refine kIn rfl rfl rfl ?_
 refine a6 h rfl (fun _ h=>?_) (fun _ h=>?_)
 ·refine bo (fun e C=>aab x17=some r/\At [(6,Pr.pt b4 0),(7,P6 0),(8,Pr.pt b5 0)] [D9 b4 af p1,D9 b5 aj x17,D9 b18 af x15,D9 b19 aj x17] e C) ?_ ?_
  ·rintro e C ⟨h,a⟩
   refine W_at a ?_
   unfold aab at h
   obtain rfl:=osj h
   exact bg ⟨rfl,[(af).val p1,P6 0,(aj).val x17],⟨yBox 0 ty64 aa,yT aa,yBox 1 ty97 aa,tv⟩,aa⟩
  refine ga [(2,0,D9 b4 af p1),(4,1,D9 b5 aj x17)] [D9 b4 af p1,D9 b5 aj x17,D9 b18 af x15,D9 b19 aj x17] hmx kr kr (show([2,4]:List Nat).Nodup by decide) (show([0,1]:List Nat).Nodup by decide) rfl rfl ?_
  refine eq1 (out:=(af).val p1) (fun C2 hC=>(fr ba st64 rfl)) ?_
  refine eql 3 ty97 (Sub.refl _) rfl rfl kr ?_
  refine eqs 0 sizeOf64 (Upd.refl _) rfl rfl rfl kr ?_
  refine eq1 (out:=P6 0) (fun C2 hC=>gb) ?_
  refine eqs 1 sizeOf97 (Upd.refl _) rfl rfl rfl kr ?_
  exact⟨h,atOk⟩
 refine ay (a7 (W_rs (kMvL rfl (kMv rfl (c8 h (cb x1 x16 ([59]:Bt)) rfl fun x21 _ h=>kNo rfl ?_)))))
 refine a6 h rfl (fun _ h=>?_) (fun _ h=>?_)
 ·refine W_rs (kUn (fr ba st64 rfl) ?_)
  refine kMv rfl (c8 h (cw x16) rfl fun x23 _ h=>av 0 rfl rfl (Upd.refl _) rfl sizeOf64 (kAs rfl (av 1 rfl rfl (Upd.refl _) rfl sizeOf97 ?_)))
  obtain rfl:=osj h
  exact bg ⟨rfl,[(af).val p1,P6 0,(aj).val x23],⟨yBox 0 ty64 aa,yT aa,yBox 1 ty97 aa,tv⟩,aa⟩
 refine ay (W_rs (kMvL rfl (kMvL rfl (kMv rfl (kMv rfl (kIn rfl rfl rfl (kUn (au 2 ty64 (Sub.refl _)) ?_)))))))
 refine kUn (cq (R:=af) (a:=x15) el53 nb) ?_
 refine c8 h (ev x1 6 x2 (w64 (x16+1)) ([x15]:List B6)) rfl fun x24 _ h=>kMv rfl (c8 h (agh x1 x24 x2) rfl fun x25 _ h=>kMv rfl (kIn rfl rfl rfl (c8 h (dk) rfl fun x26 _ h=>av 0 rfl rfl (Upd.refl _) rfl sizeOf64 (kAs rfl (av 1 rfl rfl (Upd.refl _) rfl sizeOf97 ?_)))))
 obtain rfl:=osj h
 exact bg ⟨rfl,[(af).val x25,P6 (w64 (x16+1)),(aj).val x26],⟨yBox 0 ty64 aa,yT aa,yBox 1 ty97 aa,tv⟩,aa⟩
theorem afn (x1:List C6) (x2 x3:Int) (r:B6 × Int × C7) (h:r8 x1 x2 x3=some r):Fp 191 [ap cg x1,P6 x2,P6 x3] (br [(af).val r.1,P6 r.2.1,(aj).val r.2.2]):=by
 refine ec (rs:=[.cell 6 64,.tmp 7,.cell 8 97]) func191 rfl ntmps191 results191 dcd (fun s0=>?_)
 let p1:=B6.mk 0 [] [] 0 0 0 0 0 []
 unfold r8 at h
 refine W_rs (bw al64 fun b4=>kAs rfl (bw al97 fun b5=>a7 (W_rs (kMvL rfl (kMv rfl (c8 h (cb x1 x2 ([40]:Bt)) rfl fun x6 _ h=>kNo rfl ?_))))))
 refine a6 h rfl (fun _ h=>?_) (fun _ h=>?_)
 ·refine W_rs (kUn (fr ba st64 rfl) ?_)
  refine kMv rfl (c8 h (cw x2) rfl fun x8 _ h=>av 0 rfl rfl (Upd.refl _) rfl sizeOf64 (kAs rfl (av 1 rfl rfl (Upd.refl _) rfl sizeOf97 ?_)))
  obtain rfl:=osj h
  exact bg ⟨rfl,[(af).val p1,P6 0,(aj).val x8],⟨yBox 0 ty64 aa,yT aa,yBox 1 ty97 aa,tv⟩,aa⟩
 refine ay (W_rs (kMvL rfl (kMv rfl (kIn rfl rfl rfl (kMv rfl ?_)))))
 obtain⟨⟨x9,x10,x11⟩,k,h⟩:=ah h
 refine kUn (dz (pe x1 (w64 (x2+1)) x3 _ k)) ?_
 refine kUn (hMv (out:=br [(af).val x9,P6 x10,(aj).val x11]) rfl) (kUn ar ?_)
 refine kUn ar ?_
 refine kUn ar ?_
 refine bw al64 fun b12=>?_
 let p2:=D9 b12 af x9
 refine bw al97 fun b13=>av 2 rfl rfl (Upd.refl _) rfl sizeOf64 (kAs rfl (av 3 rfl rfl (Upd.refl _) rfl sizeOf97 (a7 (W_rs (kUn (ak o0) ?_)))))
 let p3:=D9 b13 aj x11
 refine kUn (au 3 ty3 cn) ?_
 refine kIn rfl rfl rfl ?_
 refine a6 h rfl (fun _ h=>?_) (fun _ h=>?_)
 ·refine bo (fun e C=>uw x11=some r/\At [(6,Pr.pt b4 0),(7,P6 0),(8,Pr.pt b5 0)] [D9 b4 af p1,D9 b5 aj x11,p2,p3] e C) ?_ ?_
  ·rintro e C ⟨h,a⟩
   refine W_at a ?_
   unfold uw at h
   obtain rfl:=osj h
   exact bg ⟨rfl,[(af).val p1,P6 0,(aj).val x11],⟨yBox 0 ty64 aa,yT aa,yBox 1 ty97 aa,tv⟩,aa⟩
  refine ga [(2,0,D9 b4 af p1),(4,1,D9 b5 aj x11)] [D9 b4 af p1,D9 b5 aj x11,p2,p3] hmx kr kr (show([2,4]:List Nat).Nodup by decide) (show([0,1]:List Nat).Nodup by decide) rfl rfl ?_
  refine eq1 (out:=(af).val p1) (fun C2 hC=>(fr ba st64 rfl)) ?_
  refine eql 3 ty97 (Sub.refl _) rfl rfl kr ?_
  refine eqs 0 sizeOf64 (Upd.refl _) rfl rfl rfl kr ?_
  refine eq1 (out:=P6 0) (fun C2 hC=>gb) ?_
  refine eqs 1 sizeOf97 (Upd.refl _) rfl rfl rfl kr ?_
  exact⟨h,atOk⟩
 refine ay (a7 (W_rs (kMvL rfl (kMv rfl (c8 h (cb x1 x10 ([41]:Bt)) rfl fun x15 _ h=>kNo rfl ?_)))))
 refine a6 h rfl (fun _ h=>?_) (fun _ h=>?_)
 ·refine W_rs (kUn (fr ba st64 rfl) ?_)
  refine kMv rfl (c8 h (cw x10) rfl fun x17 _ h=>av 0 rfl rfl (Upd.refl _) rfl sizeOf64 (kAs rfl (av 1 rfl rfl (Upd.refl _) rfl sizeOf97 ?_)))
  obtain rfl:=osj h
  exact bg ⟨rfl,[(af).val p1,P6 0,(aj).val x17],⟨yBox 0 ty64 aa,yT aa,yBox 1 ty97 aa,tv⟩,aa⟩
 refine ay ?_
 refine bo (fun e C=>∃x18,uv x9 x10 x18=some r/\At [(6,Pr.pt b4 0),(7,P6 (w64 (x10+1))),(8,Pr.pt b5 0)] [D9 b4 af x9,D9 b5 aj x18,p2,p3] e C) ?_ ?_
 ·rintro e C ⟨x18,h,a⟩
  refine W_at a ?_
  unfold uv at h
  obtain rfl:=osj h
  exact bg ⟨rfl,[(af).val x9,P6 (w64 (x10+1)),(aj).val x18],⟨yBox 0 ty64 aa,yT aa,yBox 1 ty97 aa,tv⟩,aa⟩
 obtain⟨x18,k,h⟩:=ah h
 refine ga [(4,0,D9 b4 af x9),(6,1,D9 b5 aj x18)] [D9 b4 af x9,D9 b5 aj x18,p2,p3] hmx kr kr (show([4,6]:List Nat).Nodup by decide) (show([0,1]:List Nat).Nodup by decide) rfl rfl ?_
 refine eql 2 ty64 (Sub.refl _) rfl rfl kr ?_
 refine eq1 (out:=P6 x10) (fun C2 hC=>gz) ?_
 refine eq1 (out:=P6 (w64 (x10+1))) (fun C2 hC=>qInt) ?_
 refine eq1 (out:=(aj).val x18) (fun C2 hC=>(dz (dk _ k))) ?_
 refine eqs 0 sizeOf64 (Upd.refl _) rfl rfl rfl kr ?_
 refine eq1 (out:=P6 (w64 (x10+1))) (fun C2 hC=>gb) ?_
 refine eqs 1 sizeOf97 (Upd.refl _) rfl rfl rfl kr ?_
 exact⟨x18,h,atOk⟩
theorem apq (x1:List C6) (x2 x3:Int) (r:B6 × Int × C7) (h:acr x1 x2 x3=some r):Fp 181 [ap cg x1,P6 x2,P6 x3] (br [(af).val r.1,P6 r.2.1,(aj).val r.2.2]):=by
 refine ec (rs:=[.cell 6 64,.tmp 7,.cell 8 97]) func181 rfl ntmps181 results181 dcd (fun s0=>?_)
 let p1:=B6.mk 0 [] [] 0 0 0 0 0 []
 unfold acr at h
 refine W_rs (bw al64 fun b4=>kAs rfl (bw al97 fun b5=>a7 (W_rs (kMvL rfl (kMv rfl (c8 h (cb x1 x2 ([112,114,105,110,116]:Bt)) rfl fun x6 _ h=>?_))))))
 let p2:=D9 b4 af p1
 refine a6 h rfl (fun _ h=>?_) (fun _ h=>?_)
 ·refine W_rs (kMvL rfl (kMv rfl (kIn rfl rfl rfl (kMv rfl (kIn rfl rfl rfl ?_)))))
  obtain⟨⟨x8,x9,x10⟩,k,h⟩:=ah h
  refine kUn (dz (afn x1 (w64 (x2+1)) (w64 (x3+1)) _ k)) ?_
  refine kUn (hMv (out:=br [(af).val x8,P6 x9,(aj).val x10]) rfl) (kUn ar ?_)
  refine kUn ar ?_
  refine kUn ar ?_
  refine bw al64 fun b11=>?_
  refine bw al97 fun b12=>av 2 rfl rfl (Upd.refl _) rfl sizeOf64 (kAs rfl (av 3 rfl rfl (Upd.refl _) rfl sizeOf97 (a7 (W_rs (kUn (ak o0) ?_)))))
  refine kUn (au 3 ty3 cn) ?_
  refine kIn rfl rfl rfl ?_
  refine a6 h rfl (fun _ h=>?_) (fun _ h=>?_)
  ·refine bo (fun e C=>aaa x10=some r/\At [(6,Pr.pt b4 0),(7,P6 0),(8,Pr.pt b5 0)] [p2,D9 b5 aj x10,D9 b11 af x8,D9 b12 aj x10] e C) ?_ ?_
   ·rintro e C ⟨h,a⟩
    refine W_at a ?_
    unfold aaa at h
    obtain rfl:=osj h
    exact bg ⟨rfl,[(af).val p1,P6 0,(aj).val x10],⟨yBox 0 ty64 aa,yT aa,yBox 1 ty97 aa,tv⟩,aa⟩
   refine ga [(2,0,D9 b4 af p1),(4,1,D9 b5 aj x10)] [p2,D9 b5 aj x10,D9 b11 af x8,D9 b12 aj x10] hmx kr kr (show([2,4]:List Nat).Nodup by decide) (show([0,1]:List Nat).Nodup by decide) rfl rfl ?_
   refine eq1 (out:=(af).val p1) (fun C2 hC=>(fr ba st64 rfl)) ?_
   refine eql 3 ty97 (Sub.refl _) rfl rfl kr ?_
   refine eqs 0 sizeOf64 (Upd.refl _) rfl rfl rfl kr ?_
   refine eq1 (out:=P6 0) (fun C2 hC=>gb) ?_
   refine eqs 1 sizeOf97 (Upd.refl _) rfl rfl rfl kr ?_
   exact⟨h,atOk⟩
  refine ay (a7 (W_rs (kMvL rfl (kMv rfl (c8 h (cb x1 x9 ([59]:Bt)) rfl fun x14 _ h=>kNo rfl ?_)))))
  refine a6 h rfl (fun _ h=>?_) (fun _ h=>?_)
  ·refine W_rs (kUn (fr ba st64 rfl) ?_)
   refine kMv rfl (c8 h (cw x9) rfl fun x16 _ h=>av 0 rfl rfl (Upd.refl _) rfl sizeOf64 (kAs rfl (av 1 rfl rfl (Upd.refl _) rfl sizeOf97 ?_)))
   obtain rfl:=osj h
   exact bg ⟨rfl,[(af).val p1,P6 0,(aj).val x16],⟨yBox 0 ty64 aa,yT aa,yBox 1 ty97 aa,tv⟩,aa⟩
  refine ay (W_rs (kMvL rfl (kMv rfl (kMv rfl (kIn rfl rfl rfl (kUn (au 2 ty64 (Sub.refl _)) ?_))))))
  refine kUn (cq (R:=af) (a:=x8) el53 nb) ?_
  refine c8 h (ev x1 12 x2 (w64 (x9+1)) ([x8]:List B6)) rfl fun x17 _ h=>kMv rfl (kIn rfl rfl rfl (c8 h (dk) rfl fun x18 _ h=>av 0 rfl rfl (Upd.refl _) rfl sizeOf64 (kAs rfl (av 1 rfl rfl (Upd.refl _) rfl sizeOf97 ?_))))
  obtain rfl:=osj h
  exact bg ⟨rfl,[(af).val x17,P6 (w64 (x9+1)),(aj).val x18],⟨yBox 0 ty64 aa,yT aa,yBox 1 ty97 aa,tv⟩,aa⟩
 refine ay (a7 (W_rs (kMvL rfl (kMv rfl (kIn rfl rfl rfl (c8 h (cb x1 (w64 (x2+1)) ([59]:Bt)) rfl fun x19 _ h=>?_))))))
 refine a6 h rfl (fun _ h=>?_) (fun _ h=>?_)
 ·refine W_rs (kMvL rfl (kMv rfl (kMv rfl (kIn rfl rfl rfl ?_))))
  obtain⟨x21,k,h⟩:=ah h
  refine kUn (adm (ev x1 11 x2 (w64 (x2+2)) [] _ k) ⟨aa,aa,aa,aa,el _,tv⟩) ?_
  refine kMv rfl (kIn rfl rfl rfl (c8 h (dk) rfl fun x22 _ h=>av 0 rfl rfl (Upd.refl _) rfl sizeOf64 (kAs rfl (av 1 rfl rfl (Upd.refl _) rfl sizeOf97 ?_))))
  obtain rfl:=osj h
  exact bg ⟨rfl,[(af).val x21,P6 (w64 (x2+2)),(aj).val x22],⟨yBox 0 ty64 aa,yT aa,yBox 1 ty97 aa,tv⟩,aa⟩
 refine ay (W_rs (kMvL rfl (kMv rfl (kIn rfl rfl rfl (kMv rfl (kIn rfl rfl rfl ?_))))))
 obtain⟨⟨x23,x24,x25⟩,k,h⟩:=ah h
 refine kUn (dz (pe x1 (w64 (x2+1)) (w64 (x3+1)) _ k)) ?_
 refine kUn (hMv (out:=br [(af).val x23,P6 x24,(aj).val x25]) rfl) (kUn ar ?_)
 refine kUn ar ?_
 refine kUn ar ?_
 refine bw al64 fun b26=>?_
 refine bw al97 fun b27=>av 2 rfl rfl (Upd.refl _) rfl sizeOf64 (kAs rfl (av 3 rfl rfl (Upd.refl _) rfl sizeOf97 (a7 (W_rs (kUn (ak o0) ?_)))))
 refine kUn (au 3 ty3 cn) ?_
 refine kIn rfl rfl rfl ?_
 refine a6 h rfl (fun _ h=>?_) (fun _ h=>?_)
 ·refine bo (fun e C=>z9 x25=some r/\At [(6,Pr.pt b4 0),(7,P6 0),(8,Pr.pt b5 0)] [p2,D9 b5 aj x25,D9 b26 af x23,D9 b27 aj x25] e C) ?_ ?_
  ·rintro e C ⟨h,a⟩
   refine W_at a ?_
   unfold z9 at h
   obtain rfl:=osj h
   exact bg ⟨rfl,[(af).val p1,P6 0,(aj).val x25],⟨yBox 0 ty64 aa,yT aa,yBox 1 ty97 aa,tv⟩,aa⟩
  refine ga [(2,0,D9 b4 af p1),(4,1,D9 b5 aj x25)] [p2,D9 b5 aj x25,D9 b26 af x23,D9 b27 aj x25] hmx kr kr (show([2,4]:List Nat).Nodup by decide) (show([0,1]:List Nat).Nodup by decide) rfl rfl ?_
  refine eq1 (out:=(af).val p1) (fun C2 hC=>(fr ba st64 rfl)) ?_
  refine eql 3 ty97 (Sub.refl _) rfl rfl kr ?_
  refine eqs 0 sizeOf64 (Upd.refl _) rfl rfl rfl kr ?_
  refine eq1 (out:=P6 0) (fun C2 hC=>gb) ?_
  refine eqs 1 sizeOf97 (Upd.refl _) rfl rfl rfl kr ?_
  exact⟨h,atOk⟩
 refine ay (a7 (W_rs (kMvL rfl (kMv rfl (c8 h (cb x1 x24 ([59]:Bt)) rfl fun x29 _ h=>kNo rfl ?_)))))
 refine a6 h rfl (fun _ h=>?_) (fun _ h=>?_)
 ·refine W_rs (kUn (fr ba st64 rfl) ?_)
  refine kMv rfl (c8 h (cw x24) rfl fun x31 _ h=>av 0 rfl rfl (Upd.refl _) rfl sizeOf64 (kAs rfl (av 1 rfl rfl (Upd.refl _) rfl sizeOf97 ?_)))
  obtain rfl:=osj h
  exact bg ⟨rfl,[(af).val p1,P6 0,(aj).val x31],⟨yBox 0 ty64 aa,yT aa,yBox 1 ty97 aa,tv⟩,aa⟩
 refine ay (W_rs (kMvL rfl (kMv rfl (kMv rfl (kIn rfl rfl rfl (kUn (au 2 ty64 (Sub.refl _)) ?_))))))
 refine kUn (cq (R:=af) (a:=x23) el53 nb) ?_
 refine c8 h (ev x1 11 x2 (w64 (x24+1)) ([x23]:List B6)) rfl fun x32 _ h=>kMv rfl (kIn rfl rfl rfl (c8 h (dk) rfl fun x33 _ h=>av 0 rfl rfl (Upd.refl _) rfl sizeOf64 (kAs rfl (av 1 rfl rfl (Upd.refl _) rfl sizeOf97 ?_))))
 obtain rfl:=osj h
 exact bg ⟨rfl,[(af).val x32,P6 (w64 (x24+1)),(aj).val x33],⟨yBox 0 ty64 aa,yT aa,yBox 1 ty97 aa,tv⟩,aa⟩
end Go.Proofs.YtcndghapmoaidaaGreatDoor
set_option linter.unusedSectionVars false
set_option maxRecDepth 100000
set_option maxHeartbeats 4000000
namespace Go.Proofs.YtcndghapmoaidaaGreatDoor
open Go Go.Cn Tryz
attribute [local irreducible] g0 ap
def rj (R:co):Prop:=(∀(x1:List C6) (x2:Int) (x3:Int) (r:B6 × Int × C7),R.1 x1 x2 x3=some r->Fp 140 [ap cg x1,P6 x2,P6 x3] (br [(af).val r.1,P6 r.2.1,(aj).val r.2.2]))/\(∀(x1:List C6) (x2:Int) (x3:Int) (r:B6 × Int × C7),R.2.1 x1 x2 x3=some r->Fp 169 [ap cg x1,P6 x2,P6 x3] (br [(af).val r.1,P6 r.2.1,(aj).val r.2.2]))/\(∀(x1:List C6) (x2:Int) (x3:Int) (r:B6 × Int × C7),R.2.2 x1 x2 x3=some r->Fp 180 [ap cg x1,P6 x2,P6 x3] (br [(af).val r.1,P6 r.2.1,(aj).val r.2.2]))
theorem alu (R:co) (ih:rj R) (x1:List C6) (x2 x3:Int) (r:B6 × Int × C7) (h:zu R x1 x2 x3=some r):Fp 140 [ap cg x1,P6 x2,P6 x3] (br [(af).val r.1,P6 r.2.1,(aj).val r.2.2]):=by
 refine ec (rs:=[.cell 6 64,.tmp 7,.cell 8 97]) func140 rfl ntmps140 results140 dcd (fun s0=>?_)
 let p1:=B6.mk 0 [] [] 0 0 0 0 0 []
 unfold zu at h
 refine W_rs (bw al64 fun b4=>kAs rfl (bw al97 fun b5=>a7 (W_rs (kMvL rfl (kMv rfl (c8 h (cb x1 x2 ([123]:Bt)) rfl fun x6 _ h=>kNo rfl ?_))))))
 let p2:=D9 b4 af p1
 let p3:=D9 b5 aj (C7.mk 0 0)
 refine a6 h rfl (fun _ h=>?_) (fun _ h=>?_)
 ·refine W_rs (kUn (fr ba st64 rfl) ?_)
  refine kMv rfl (c8 h (cw x2) rfl fun x8 _ h=>av 0 rfl rfl (Upd.refl _) rfl sizeOf64 (kAs rfl (av 1 rfl rfl (Upd.refl _) rfl sizeOf97 ?_)))
  obtain rfl:=osj h
  exact bg ⟨rfl,[(af).val p1,P6 0,(aj).val x8],⟨yBox 0 ty64 aa,yT aa,yBox 1 ty97 aa,tv⟩,aa⟩
 refine ay (W_rs (kAs rfl (W_rs (kMv rfl (kIn rfl rfl rfl (kAs rfl (a7 (a5 ?_))))))))
 obtain⟨z2l,hz2,h⟩:=ah h
 obtain⟨n2,hN2⟩:=bv hz2
 refine di 0 (fun e C=>∃x10,∃x11,∃v9,ab6 R x1 x2 x10 x11=some r/\At [(0,ap cg x1),(1,P6 x2),(6,Pr.pt b4 0),(8,Pr.pt b5 0),(9,Pi v9),(10,P6 x10)] [p2,p3,E6 v9 af x11 64] e C) ?_ ?_
 ·rintro e C ⟨x10,x11,v9,h,a⟩
  refine W_at a ?_
  unfold ab6 at h
  refine W_rs (kMvL rfl (kMv rfl (kMv rfl (kIn rfl rfl rfl (kMv rfl ?_)))))
  obtain⟨x34,k,h⟩:=ah h
  refine rRel 2 [9,67] ?_ rfl ⟨rfl,rfl,tv⟩
  refine kUn (dz (ev x1 5 x2 (w64 (x10+1)) x11 _ k)) ?_
  refine kMv rfl (kIn rfl rfl rfl (c8 h (dk) rfl fun x35 _ h=>av 0 rfl rfl (Upd.refl _) rfl sizeOf64 (kAs rfl (av 1 rfl rfl (Upd.refl _) rfl sizeOf97 ?_))))
  obtain rfl:=osj h
  exact bg ⟨rfl,[(af).val x34,P6 (w64 (x10+1)),(aj).val x35],⟨yBox 0 ty64 aa,yT aa,yBox 1 ty97 aa,tv⟩,aa⟩
 refine ah6 [9] af 64 (fun v36=>?_) ⟨rfl,tv⟩
 refine ek (fun m e C=>∃x10,∃x11,∃v9,fq (fun s=>xh R x1 x3 s.1 s.2) m (x10,x11)=some z2l/\At [(0,ap cg x1),(1,P6 x2),(2,P6 x3),(6,Pr.pt b4 0),(8,Pr.pt b5 0),(9,Pi v9),(10,P6 x10)] [p2,p3,E6 v9 af x11 64] e C) n2 ⟨w64 (x2+1),[],v36,hN2,⟨⟨aa,aa,aa,aa,aa,aa,aa,tv⟩,A9.refl _⟩⟩ ?_
 rintro m e C ⟨x10,x11,v9,hN2,a⟩
 refine W_at a ?_
 obtain⟨m2,w2l,rfl,h2l,hn2,ho2⟩:=bm hN2
 replace h2l:xh R x1 x3 x10 x11=some w2l:=h2l
 unfold xh at h2l
 refine a7 (W_rs (kMvL rfl (kMv rfl (c8 h2l (cb x1 x10 ([125]:Bt)) rfl fun x15 _ h2l=>kNo rfl ?_))))
 refine a6 h2l rfl (fun _ h2l=>?_) (fun _ h2l=>?_)
 ·refine ay (a5 (W_rs (bw al64 fun b17=>W_rs (bw al97 fun b18=>W_rs (kAs rfl ?_)))))
  refine bo (fun e C=>∃x28,∃x29,∃x30,uh R x11 x28 x29 x30=some w2l/\At [(0,ap cg x1),(1,P6 x2),(2,P6 x3),(6,Pr.pt b4 0),(8,Pr.pt b5 0),(9,Pi v9),(11,Pr.pt b17 0),(12,Pr.pt b18 0),(13,P6 x28)] [p2,p3,E6 v9 af x11 64,D9 b17 af x29,D9 b18 aj x30] e C) ?_ ?_
  ·rintro e C ⟨x28,x29,x30,h2l,a⟩
   refine W_at a ?_
   unfold uh at h2l
   refine a7 (W_rs (kUn (ak o0) ?_))
   refine kUn (au 4 ty3 cn) ?_
   refine kIn rfl rfl rfl ?_
   refine a6 h2l rfl (fun _ h2l=>?_) (fun _ h2l=>?_)
   ·refine bo (fun e C=>ab7 R x30=some w2l/\At [(6,Pr.pt b4 0),(7,P6 0),(8,Pr.pt b5 0)] [p2,D9 b5 aj x30,D9 b17 af x29,D9 b18 aj x30] e C) ?_ ?_
    ·rintro e C ⟨h2l,a⟩
     refine W_at a ?_
     unfold ab7 at h2l
     obtain rfl:=ho2 _ (ojs h2l)
     replace h:some (p1,0,x30)=some r:=h
     obtain rfl:=osj h
     exact bg ⟨rfl,[(af).val p1,P6 0,(aj).val x30],⟨yBox 0 ty64 aa,yT aa,yBox 1 ty97 aa,tv⟩,aa⟩
    refine ga [(2,0,D9 b4 af p1),(4,1,D9 b5 aj x30)] [p2,D9 b5 aj x30,E6 v9 af x11 64,D9 b17 af x29,D9 b18 aj x30] hmx kr kr (show([2,4]:List Nat).Nodup by decide) (show([0,1]:List Nat).Nodup by decide) rfl rfl ?_
    refine eq1 (out:=(af).val p1) (fun C2 hC=>(fr ba st64 rfl)) ?_
    refine eql 4 ty97 (Sub.refl _) rfl rfl kr ?_
    refine eqs 0 sizeOf64 (Upd.refl _) rfl rfl rfl kr ?_
    refine eq1 (out:=P6 0) (fun C2 hC=>gb) ?_
    refine eqs 1 sizeOf97 (Upd.refl _) rfl rfl rfl kr ?_
    exact⟨h2l,⟨⟨aa,aa,aa,tv⟩,A9.of [0,1,3,4] rfl⟩⟩
   refine ay (W_rs (kMv rfl (kUn (au 3 ty64 (Sub.refl _)) ?_)))
   refine kUn (cq (R:=af) (a:=x29) el53 nb) ?_
   obtain⟨x32,k,h2l⟩:=ah h2l
   refine ik 2 el53 k (fun v33=>?_)
   refine kAs rfl (W_r (kMv rfl (kAs rfl ?_)))
   exact⟨m2,lsu,x28,x32,v33,hn2 _ (ojs h2l),⟨⟨aa,aa,aa,aa,aa,aa,aa,tv⟩,A9.of [0,1,2] rfl⟩⟩
  refine W_rs (kMvL rfl (kMv rfl (c8 h2l (aqg x1 x10) rfl fun x19 _ h2l=>?_)))
  refine a6 h2l rfl (fun _ h2l=>?_) (fun _ h2l=>?_)
  ·refine W_rs (kMvL rfl (kMv rfl (kMv rfl (kIn rfl rfl rfl ?_))))
   obtain⟨⟨x21,x22,x23⟩,k,h2l⟩:=ah h2l
   refine kUn (dz (apt x1 x10 (w64 (x3+1)) _ k)) ?_
   refine kUn (hMv (out:=br [(af).val x21,P6 x22,(aj).val x23]) rfl) (kUn ar ?_)
   refine kUn ar ?_
   refine kUn ar ?_
   refine av 3 rfl rfl (Upd.refl _) rfl sizeOf64 (kAs rfl (av 4 rfl rfl (Upd.refl _) rfl sizeOf97 (W_rs (kMv rfl (kIn rfl rfl rfl (kIn rfl rfl rfl ?_))))))
   refine a6 h2l rfl (fun _ h2l=>?_) (fun _ h2l=>?_)
   ·refine W_r (kMv rfl (kUn (jm st97 ⟨(C7.mk x10 0),⟨_,rfl,rfl,qbj⟩,⟨(C7.mk x10 2),⟨_,rfl,rfl,qbj⟩,rfl⟩⟩) ?_))
    refine av 4 rfl rfl (Upd.refl _) rfl sizeOf97 ?_
    exact⟨x22,x21,(C7.mk x10 2),h2l,atOk⟩
   refine ay ?_
   exact⟨x22,x21,x23,h2l,atOk⟩
  refine W_r (kMvL rfl (kMv rfl (kMv rfl (kIn rfl rfl rfl ?_))))
  obtain⟨⟨x25,x26,x27⟩,k,h2l⟩:=ah h2l
  refine kUn (dz (ih.2.1 x1 x10 (w64 (x3+1)) _ k)) ?_
  refine kUn (hMv (out:=br [(af).val x25,P6 x26,(aj).val x27]) rfl) (kUn ar ?_)
  refine kUn ar ?_
  refine kUn ar ?_
  refine av 3 rfl rfl (Upd.refl _) rfl sizeOf64 (kAs rfl (av 4 rfl rfl (Upd.refl _) rfl sizeOf97 ?_))
  exact⟨x26,x25,x27,h2l,atOk⟩
 refine ej ?_
 obtain rfl:=ho2 _ (ojs h2l)
 exact⟨x10,x11,v9,h,atOk⟩
theorem ah7 (R:co) (ih:rj R) (x1:List C6) (x2 x3:Int) (r:B6 × Int × C7) (h:si R x1 x2 x3=some r):Fp 169 [ap cg x1,P6 x2,P6 x3] (br [(af).val r.1,P6 r.2.1,(aj).val r.2.2]):=by
 refine ec (rs:=[.cell 6 64,.tmp 7,.cell 8 97]) func169 rfl ntmps169 results169 dcd (fun s0=>?_)
 let p1:=B6.mk 0 [] [] 0 0 0 0 0 []
 unfold si at h
 refine W_rs (bw al64 fun b4=>kAs rfl (bw al97 fun b5=>a7 (W_rs (kMv rfl (kIn rfl rfl rfl ?_)))))
 let p2:=D9 b4 af p1
 let p3:=D9 b5 aj (C7.mk 0 0)
 refine a6 h rfl (fun _ h=>?_) (fun _ h=>?_)
 ·refine W_rs (kUn (fr ba st64 rfl) ?_)
  refine kMv rfl (kUn (jm st97 ⟨(C7.mk x2 0),⟨_,rfl,rfl,qbj⟩,⟨(C7.mk x2 2),⟨_,rfl,rfl,qbj⟩,rfl⟩⟩) ?_)
  refine av 0 rfl rfl (Upd.refl _) rfl sizeOf64 (kAs rfl (av 1 rfl rfl (Upd.refl _) rfl sizeOf97 ?_))
  obtain rfl:=osj h
  exact bg ⟨rfl,[(af).val p1,P6 0,(aj).val (C7.mk x2 2)],⟨yBox 0 ty64 aa,yT aa,yBox 1 ty97 aa,tv⟩,aa⟩
 refine ay (a7 (a5 (W_rs (kMvL rfl (kMv rfl (c8 h (cb x1 x2 ([123]:Bt)) rfl fun x7 _ h=>kAs rfl ?_))))))
 refine a6 h rfl (fun _ h=>?_) (fun _ h=>?_)
 ·refine W_rs (kMvL rfl (kMv rfl (kMv rfl ?_)))
  obtain⟨⟨x9,x10,x11⟩,k,h⟩:=ah h
  refine kUn (dz (ih.1 x1 x2 x3 _ k)) ?_
  refine kUn ar ?_
  refine kUn ar ?_
  refine kUn ar ?_
  refine av 0 rfl rfl (Upd.refl _) rfl sizeOf64 (kAs rfl (av 1 rfl rfl (Upd.refl _) rfl sizeOf97 ?_))
  obtain rfl:=osj h
  exact bg ⟨rfl,[(af).val x9,P6 x10,(aj).val x11],⟨yBox 0 ty64 aa,yT aa,yBox 1 ty97 aa,tv⟩,aa⟩
 refine bo (fun e C=>∃x15,nm R x1 x2 x3 x15=some r/\At [(0,ap cg x1),(1,P6 x2),(2,P6 x3),(6,Pr.pt b4 0),(8,Pr.pt b5 0),(33,Pb x15)] [p2,p3] e C) ?_ ?_
 ·rintro e C ⟨x15,h,a⟩
  refine W_at a ?_
  unfold nm at h
  refine a6 h rfl (fun _ h=>?_) (fun _ h=>?_)
  ·refine W_rs (kMvL rfl (kMv rfl (kMv rfl ?_)))
   obtain⟨⟨x17,x18,x19⟩,k,h⟩:=ah h
   refine kUn (dz (ih.2.2 x1 x2 x3 _ k)) ?_
   refine kUn ar ?_
   refine kUn ar ?_
   refine kUn ar ?_
   refine av 0 rfl rfl (Upd.refl _) rfl sizeOf64 (kAs rfl (av 1 rfl rfl (Upd.refl _) rfl sizeOf97 ?_))
   obtain rfl:=osj h
   exact bg ⟨rfl,[(af).val x17,P6 x18,(aj).val x19],⟨yBox 0 ty64 aa,yT aa,yBox 1 ty97 aa,tv⟩,aa⟩
  refine bo (fun e C=>∃x23,nn R x1 x2 x3 x23=some r/\At [(0,ap cg x1),(1,P6 x2),(2,P6 x3),(6,Pr.pt b4 0),(8,Pr.pt b5 0),(47,Pb x23)] [p2,p3] e C) ?_ ?_
  ·rintro e C ⟨x23,h,a⟩
   refine W_at a ?_
   unfold nn at h
   refine a6 h rfl (fun _ h=>?_) (fun _ h=>?_)
   ·refine W_rs (kMvL rfl (kMv rfl (kMv rfl ?_)))
    obtain⟨⟨x25,x26,x27⟩,k,h⟩:=ah h
    refine kUn (dz (apq x1 x2 x3 _ k)) ?_
    refine kUn ar ?_
    refine kUn ar ?_
    refine kUn ar ?_
    refine av 0 rfl rfl (Upd.refl _) rfl sizeOf64 (kAs rfl (av 1 rfl rfl (Upd.refl _) rfl sizeOf97 ?_))
    obtain rfl:=osj h
    exact bg ⟨rfl,[(af).val x25,P6 x26,(aj).val x27],⟨yBox 0 ty64 aa,yT aa,yBox 1 ty97 aa,tv⟩,aa⟩
   refine ay (W_rs (kMvL rfl (kMv rfl (kMv rfl (kIn rfl rfl rfl ?_)))))
   obtain⟨⟨x28,x29,x30⟩,k,h⟩:=ah h
   refine kUn (dz (pe x1 x2 (w64 (x3+1)) _ k)) ?_
   refine kUn (hMv (out:=br [(af).val x28,P6 x29,(aj).val x30]) rfl) (kUn ar ?_)
   refine kUn ar ?_
   refine kUn ar ?_
   refine bw al64 fun b31=>?_
   let p4:=D9 b31 af x28
   refine bw al97 fun b32=>av 2 rfl rfl (Upd.refl _) rfl sizeOf64 (kAs rfl (av 3 rfl rfl (Upd.refl _) rfl sizeOf97 (a7 (W_rs (kUn (ak o0) ?_)))))
   let p5:=D9 b32 aj x30
   refine kUn (au 3 ty3 cn) ?_
   refine kIn rfl rfl rfl ?_
   refine a6 h rfl (fun _ h=>?_) (fun _ h=>?_)
   ·refine bo (fun e C=>uu R x30=some r/\At [(6,Pr.pt b4 0),(7,P6 0),(8,Pr.pt b5 0)] [p2,D9 b5 aj x30,p4,p5] e C) ?_ ?_
    ·rintro e C ⟨h,a⟩
     refine W_at a ?_
     unfold uu at h
     obtain rfl:=osj h
     exact bg ⟨rfl,[(af).val p1,P6 0,(aj).val x30],⟨yBox 0 ty64 aa,yT aa,yBox 1 ty97 aa,tv⟩,aa⟩
    refine ga [(2,0,D9 b4 af p1),(4,1,D9 b5 aj x30)] [p2,D9 b5 aj x30,p4,p5] hmx kr kr (show([2,4]:List Nat).Nodup by decide) (show([0,1]:List Nat).Nodup by decide) rfl rfl ?_
    refine eq1 (out:=(af).val p1) (fun C2 hC=>(fr ba st64 rfl)) ?_
    refine eql 3 ty97 (Sub.refl _) rfl rfl kr ?_
    refine eqs 0 sizeOf64 (Upd.refl _) rfl rfl rfl kr ?_
    refine eq1 (out:=P6 0) (fun C2 hC=>gb) ?_
    refine eqs 1 sizeOf97 (Upd.refl _) rfl rfl rfl kr ?_
    exact⟨h,atOk⟩
   refine ay (W_rs (kAs rfl (W_rs (kUn (au 2 ty64 (Sub.refl _)) ?_))))
   refine ar6 (R:=af) (ls:=([x28]:List B6)) el53 nb ⟨rfl,rfl⟩ ⟨rfl,tv⟩ (fun v34=>?_)
   refine kAs rfl ?_
   refine bo (fun e C=>∃x45,∃x46,∃x48,∃v47,qe R x1 x2 x45 x46 x48=some r/\At [(0,ap cg x1),(1,P6 x2),(6,Pr.pt b4 0),(8,Pr.pt b5 0),(10,P6 x45),(12,P6 x46),(13,Pi v47)] [p2,p3,p4,p5,E6 v47 af x48 64] e C) ?_ ?_
   ·rintro e C ⟨x45,x46,x48,v47,h,a⟩
    refine W_at a ?_
    unfold qe at h
    refine a7 (W_rs (kMvL rfl (kMv rfl (c8 h (cb x1 x45 ([59]:Bt)) rfl fun x49 _ h=>kNo rfl ?_))))
    refine a6 h rfl (fun _ h=>?_) (fun _ h=>?_)
    ·refine W_rs (kUn (fr ba st64 rfl) ?_)
     refine kMv rfl (c8 h (cw x45) rfl fun x51 _ h=>av 0 rfl rfl (Upd.refl _) rfl sizeOf64 (kAs rfl (av 1 rfl rfl (Upd.refl _) rfl sizeOf97 ?_)))
     obtain rfl:=osj h
     exact bg ⟨rfl,[(af).val p1,P6 0,(aj).val x51],⟨yBox 0 ty64 aa,yT aa,yBox 1 ty97 aa,tv⟩,aa⟩
    refine ay (W_rs (kMvL rfl (kMv rfl (kMv rfl (kMv rfl (kIn rfl rfl rfl (kMv rfl ?_)))))))
    obtain⟨x52,k,h⟩:=ah h
    refine rRel 4 [13,112] ?_ rfl ⟨rfl,rfl,tv⟩
    refine kUn (dz (ev x1 x46 x2 (w64 (x45+1)) x48 _ k)) ?_
    refine kMv rfl (kIn rfl rfl rfl (c8 h (dk) rfl fun x53 _ h=>av 0 rfl rfl (Upd.refl _) rfl sizeOf64 (kAs rfl (av 1 rfl rfl (Upd.refl _) rfl sizeOf97 ?_))))
    obtain rfl:=osj h
    exact bg ⟨rfl,[(af).val x52,P6 (w64 (x45+1)),(aj).val x53],⟨yBox 0 ty64 aa,yT aa,yBox 1 ty97 aa,tv⟩,aa⟩
   refine W_rs (kMvL rfl (kMv rfl (c8 h (cb x1 x29 ([61]:Bt)) rfl fun x35 _ h=>?_)))
   refine a6 h rfl (fun _ h=>?_) (fun _ h=>?_)
   ·refine W_rs (kMvL rfl (kMv rfl (kIn rfl rfl rfl (kMv rfl (kIn rfl rfl rfl ?_)))))
    obtain⟨⟨x37,x38,x39⟩,k,h⟩:=ah h
    refine kUn (dz (pe x1 (w64 (x29+1)) (w64 (x3+1)) _ k)) ?_
    refine kUn (hMv (out:=br [(af).val x37,P6 x38,(aj).val x39]) rfl) (kUn ar ?_)
    refine kUn ar ?_
    refine kUn ar ?_
    refine bw al64 fun b40=>?_
    refine bw al97 fun b41=>av 5 rfl rfl (Upd.refl _) rfl sizeOf64 (kAs rfl (av 6 rfl rfl (Upd.refl _) rfl sizeOf97 (a7 (W_rs (kUn (ak o0) ?_)))))
    refine kUn (au 6 ty3 cn) ?_
    refine kIn rfl rfl rfl ?_
    refine a6 h rfl (fun _ h=>?_) (fun _ h=>?_)
    ·refine bo (fun e C=>ut R x39=some r/\At [(6,Pr.pt b4 0),(7,P6 0),(8,Pr.pt b5 0)] [p2,D9 b5 aj x39,p4,p5,D9 b40 af x37,D9 b41 aj x39] e C) ?_ ?_
     ·rintro e C ⟨h,a⟩
      refine W_at a ?_
      unfold ut at h
      obtain rfl:=osj h
      exact bg ⟨rfl,[(af).val p1,P6 0,(aj).val x39],⟨yBox 0 ty64 aa,yT aa,yBox 1 ty97 aa,tv⟩,aa⟩
     refine ga [(2,0,D9 b4 af p1),(4,1,D9 b5 aj x39)] [p2,D9 b5 aj x39,p4,p5,E6 v34 af ([x28]:List B6) 64,D9 b40 af x37,D9 b41 aj x39] hmx kr kr (show([2,4]:List Nat).Nodup by decide) (show([0,1]:List Nat).Nodup by decide) rfl rfl ?_
     refine eq1 (out:=(af).val p1) (fun C2 hC=>(fr ba st64 rfl)) ?_
     refine eql 6 ty97 (Sub.refl _) rfl rfl kr ?_
     refine eqs 0 sizeOf64 (Upd.refl _) rfl rfl rfl kr ?_
     refine eq1 (out:=P6 0) (fun C2 hC=>gb) ?_
     refine eqs 1 sizeOf97 (Upd.refl _) rfl rfl rfl kr ?_
     exact⟨h,⟨⟨aa,aa,aa,tv⟩,A9.of [0,1,2,3,5,6] rfl⟩⟩
    refine ay (W_rs (kAs rfl (W_rs (kMv rfl (kUn (au 5 ty64 (Sub.refl _)) ?_)))))
    refine kUn (cq (R:=af) (a:=x37) el53 nb) ?_
    obtain⟨x43,k,h⟩:=ah h
    refine ik 4 el53 k (fun v44=>?_)
    refine kAs rfl (W_r (kMv rfl (kAs rfl ?_)))
    exact⟨x38,7,x43,v44,h,⟨⟨aa,aa,aa,aa,aa,aa,aa,tv⟩,A9.of [0,1,2,3,4] rfl⟩⟩
   refine ay ?_
   exact⟨x29,8,([x28]:List B6),v34,h,atOk⟩
  refine W_rs (kMvL rfl (kMv rfl (c8 h (cb x1 x2 ([114,101,116,117,114,110]:Bt)) rfl fun x20 _ h=>kAs rfl ?_)))
  refine a6 h rfl (fun _ h=>?_) (fun _ h=>?_)
  ·refine ay ?_
   exact⟨x20,h,atOk⟩
  refine W_r (kMvL rfl (kMv rfl (c8 h (cb x1 x2 ([112,114,105,110,116]:Bt)) rfl fun x22 _ h=>kAs rfl ?_)))
  exact⟨x22,h,atOk⟩
 refine W_rs (kMvL rfl (kMv rfl (c8 h (cb x1 x2 ([105,102]:Bt)) rfl fun x12 _ h=>kAs rfl ?_)))
 refine a6 h rfl (fun _ h=>?_) (fun _ h=>?_)
 ·refine ay ?_
  exact⟨x12,h,atOk⟩
 refine W_r (kMvL rfl (kMv rfl (c8 h (cb x1 x2 ([119,104,105,108,101]:Bt)) rfl fun x14 _ h=>kAs rfl ?_)))
 exact⟨x14,h,atOk⟩
theorem ajx (R:co) (ih:rj R) (x1:List C6) (x2 x3:Int) (r:B6 × Int × C7) (h:wa R x1 x2 x3=some r):Fp 180 [ap cg x1,P6 x2,P6 x3] (br [(af).val r.1,P6 r.2.1,(aj).val r.2.2]):=by
 refine ec (rs:=[.cell 6 64,.tmp 7,.cell 8 97]) func180 rfl ntmps180 results180 dcd (fun s0=>?_)
 let p1:=B6.mk 0 [] [] 0 0 0 0 0 []
 unfold wa at h
 refine W_rs (bw al64 fun b4=>kAs rfl (bw al97 fun b5=>W_rs (kMvL rfl (kMv rfl (kIn rfl rfl rfl (kMv rfl (kIn rfl rfl rfl ?_)))))))
 let p2:=D9 b4 af p1
 obtain⟨⟨x6,x7,x8⟩,k,h⟩:=ah h
 refine kUn (dz (afn x1 (w64 (x2+1)) (w64 (x3+1)) _ k)) ?_
 refine kUn (hMv (out:=br [(af).val x6,P6 x7,(aj).val x8]) rfl) (kUn ar ?_)
 refine kUn ar ?_
 refine kUn ar ?_
 refine bw al64 fun b9=>?_
 let p3:=D9 b9 af x6
 refine bw al97 fun b10=>av 2 rfl rfl (Upd.refl _) rfl sizeOf64 (kAs rfl (av 3 rfl rfl (Upd.refl _) rfl sizeOf97 (a7 (W_rs (kUn (ak o0) ?_)))))
 let p4:=D9 b10 aj x8
 refine kUn (au 3 ty3 cn) ?_
 refine kIn rfl rfl rfl ?_
 refine a6 h rfl (fun _ h=>?_) (fun _ h=>?_)
 ·refine bo (fun e C=>yf R x8=some r/\At [(6,Pr.pt b4 0),(7,P6 0),(8,Pr.pt b5 0)] [p2,D9 b5 aj x8,p3,p4] e C) ?_ ?_
  ·rintro e C ⟨h,a⟩
   refine W_at a ?_
   unfold yf at h
   obtain rfl:=osj h
   exact bg ⟨rfl,[(af).val p1,P6 0,(aj).val x8],⟨yBox 0 ty64 aa,yT aa,yBox 1 ty97 aa,tv⟩,aa⟩
  refine ga [(2,0,D9 b4 af p1),(4,1,D9 b5 aj x8)] [p2,D9 b5 aj x8,p3,p4] hmx kr kr (show([2,4]:List Nat).Nodup by decide) (show([0,1]:List Nat).Nodup by decide) rfl rfl ?_
  refine eq1 (out:=(af).val p1) (fun C2 hC=>(fr ba st64 rfl)) ?_
  refine eql 3 ty97 (Sub.refl _) rfl rfl kr ?_
  refine eqs 0 sizeOf64 (Upd.refl _) rfl rfl rfl kr ?_
  refine eq1 (out:=P6 0) (fun C2 hC=>gb) ?_
  refine eqs 1 sizeOf97 (Upd.refl _) rfl rfl rfl kr ?_
  exact⟨h,atOk⟩
 refine ay (W_rs (kMvL rfl (kMv rfl (kMv rfl (kIn rfl rfl rfl ?_)))))
 obtain⟨⟨x12,x13,x14⟩,k,h⟩:=ah h
 refine kUn (dz (ih.2.1 x1 x7 (w64 (x3+1)) _ k)) ?_
 refine kUn (hMv (out:=br [(af).val x12,P6 x13,(aj).val x14]) rfl) (kUn ar ?_)
 refine kUn ar ?_
 refine kUn ar ?_
 refine bw al64 fun b15=>?_
 let p5:=D9 b15 af x12
 refine bw al97 fun b16=>av 4 rfl rfl (Upd.refl _) rfl sizeOf64 (kAs rfl (av 5 rfl rfl (Upd.refl _) rfl sizeOf97 (a7 (W_rs (kUn (ak o0) ?_)))))
 let p6:=D9 b16 aj x14
 refine kUn (au 5 ty3 cn) ?_
 refine kIn rfl rfl rfl ?_
 refine a6 h rfl (fun _ h=>?_) (fun _ h=>?_)
 ·refine bo (fun e C=>ye R x14=some r/\At [(6,Pr.pt b4 0),(7,P6 0),(8,Pr.pt b5 0)] [p2,D9 b5 aj x14,p3,p4,p5,p6] e C) ?_ ?_
  ·rintro e C ⟨h,a⟩
   refine W_at a ?_
   unfold ye at h
   obtain rfl:=osj h
   exact bg ⟨rfl,[(af).val p1,P6 0,(aj).val x14],⟨yBox 0 ty64 aa,yT aa,yBox 1 ty97 aa,tv⟩,aa⟩
  refine ga [(2,0,D9 b4 af p1),(4,1,D9 b5 aj x14)] [p2,D9 b5 aj x14,p3,p4,p5,p6] hmx kr kr (show([2,4]:List Nat).Nodup by decide) (show([0,1]:List Nat).Nodup by decide) rfl rfl ?_
  refine eq1 (out:=(af).val p1) (fun C2 hC=>(fr ba st64 rfl)) ?_
  refine eql 5 ty97 (Sub.refl _) rfl rfl kr ?_
  refine eqs 0 sizeOf64 (Upd.refl _) rfl rfl rfl kr ?_
  refine eq1 (out:=P6 0) (fun C2 hC=>gb) ?_
  refine eqs 1 sizeOf97 (Upd.refl _) rfl rfl rfl kr ?_
  exact⟨h,atOk⟩
 refine ay (W_rs (kUn (au 2 ty64 (Sub.refl _)) ?_))
 refine kUn (au 4 ty64 (Sub.refl _)) ?_
 refine ar6 (R:=af) (ls:=([x6,x12]:List B6)) el53 nb ⟨rfl,rfl⟩ ⟨rfl,rfl,tv⟩ (fun v18=>?_)
 refine kAs rfl (a7 (W_rs (kMvL rfl (kMv rfl (c8 h (cb x1 x2 ([119,104,105,108,101]:Bt)) rfl fun x19 _ h=>?_)))))
 refine a6 h rfl (fun _ h=>?_) (fun _ h=>?_)
 ·refine W_rs (kMvL rfl (kMv rfl (kMv rfl (kMv rfl ?_))))
  obtain⟨x21,k,h⟩:=ah h
  refine rRel 6 [15,57] ?_ rfl ⟨rfl,rfl,tv⟩
  refine kUn (dz (ev x1 10 x2 x13 ([x6,x12]:List B6) _ k)) ?_
  refine kMv rfl (c8 h (dk) rfl fun x22 _ h=>av 0 rfl rfl (Upd.refl _) rfl sizeOf64 (kAs rfl (av 1 rfl rfl (Upd.refl _) rfl sizeOf97 ?_)))
  obtain rfl:=osj h
  exact bg ⟨rfl,[(af).val x21,P6 x13,(aj).val x22],⟨yBox 0 ty64 aa,yT aa,yBox 1 ty97 aa,tv⟩,aa⟩
 refine ay ?_
 refine bo (fun e C=>∃x33,∃x35,∃v34,tw R x1 x2 x33 x35=some r/\At [(0,ap cg x1),(1,P6 x2),(6,Pr.pt b4 0),(8,Pr.pt b5 0),(13,P6 x33),(15,Pi v34)] [p2,D9 b5 aj (C7.mk 0 0),p3,p4,p5,p6,E6 v34 af x35 64] e C) ?_ ?_
 ·rintro e C ⟨x33,x35,v34,h,a⟩
  refine W_at a ?_
  unfold tw at h
  refine W_rs (kMvL rfl (kMv rfl (kMv rfl (kMv rfl ?_))))
  obtain⟨x36,k,h⟩:=ah h
  refine rRel 6 [15,87] ?_ rfl ⟨rfl,rfl,tv⟩
  refine kUn (dz (ev x1 9 x2 x33 x35 _ k)) ?_
  refine kMv rfl (c8 h (dk) rfl fun x37 _ h=>av 0 rfl rfl (Upd.refl _) rfl sizeOf64 (kAs rfl (av 1 rfl rfl (Upd.refl _) rfl sizeOf97 ?_)))
  obtain rfl:=osj h
  exact bg ⟨rfl,[(af).val x36,P6 x33,(aj).val x37],⟨yBox 0 ty64 aa,yT aa,yBox 1 ty97 aa,tv⟩,aa⟩
 refine W_rs (kMvL rfl (kMv rfl (c8 h (cb x1 x13 ([101,108,115,101]:Bt)) rfl fun x23 _ h=>?_)))
 refine a6 h rfl (fun _ h=>?_) (fun _ h=>?_)
 ·refine W_rs (kMvL rfl (kMv rfl (kIn rfl rfl rfl (kMv rfl (kIn rfl rfl rfl ?_)))))
  obtain⟨⟨x25,x26,x27⟩,k,h⟩:=ah h
  refine kUn (dz (ih.2.1 x1 (w64 (x13+1)) (w64 (x3+1)) _ k)) ?_
  refine kUn (hMv (out:=br [(af).val x25,P6 x26,(aj).val x27]) rfl) (kUn ar ?_)
  refine kUn ar ?_
  refine kUn ar ?_
  refine bw al64 fun b28=>?_
  refine bw al97 fun b29=>av 7 rfl rfl (Upd.refl _) rfl sizeOf64 (kAs rfl (av 8 rfl rfl (Upd.refl _) rfl sizeOf97 (a7 (W_rs (kUn (ak o0) ?_)))))
  refine kUn (au 8 ty3 cn) ?_
  refine kIn rfl rfl rfl ?_
  refine a6 h rfl (fun _ h=>?_) (fun _ h=>?_)
  ·refine bo (fun e C=>yd R x27=some r/\At [(6,Pr.pt b4 0),(7,P6 0),(8,Pr.pt b5 0)] [p2,D9 b5 aj x27,p3,p4,p5,p6,D9 b28 af x25,D9 b29 aj x27] e C) ?_ ?_
   ·rintro e C ⟨h,a⟩
    refine W_at a ?_
    unfold yd at h
    obtain rfl:=osj h
    exact bg ⟨rfl,[(af).val p1,P6 0,(aj).val x27],⟨yBox 0 ty64 aa,yT aa,yBox 1 ty97 aa,tv⟩,aa⟩
   refine ga [(2,0,D9 b4 af p1),(4,1,D9 b5 aj x27)] [p2,D9 b5 aj x27,p3,p4,p5,p6,E6 v18 af ([x6,x12]:List B6) 64,D9 b28 af x25,D9 b29 aj x27] hmx kr kr (show([2,4]:List Nat).Nodup by decide) (show([0,1]:List Nat).Nodup by decide) rfl rfl ?_
   refine eq1 (out:=(af).val p1) (fun C2 hC=>(fr ba st64 rfl)) ?_
   refine eql 8 ty97 (Sub.refl _) rfl rfl kr ?_
   refine eqs 0 sizeOf64 (Upd.refl _) rfl rfl rfl kr ?_
   refine eq1 (out:=P6 0) (fun C2 hC=>gb) ?_
   refine eqs 1 sizeOf97 (Upd.refl _) rfl rfl rfl kr ?_
   exact⟨h,⟨⟨aa,aa,aa,tv⟩,A9.of [0,1,2,3,4,5,7,8] rfl⟩⟩
  refine ay (W_rs (kMv rfl (kUn (au 7 ty64 (Sub.refl _)) ?_)))
  refine kUn (cq (R:=af) (a:=x25) el53 nb) ?_
  obtain⟨x31,k,h⟩:=ah h
  refine ik 6 el53 k (fun v32=>?_)
  refine kAs rfl (W_r (kMv rfl (kAs rfl ?_)))
  exact⟨x26,x31,v32,h,⟨⟨aa,aa,aa,aa,aa,aa,tv⟩,A9.of [0,1,2,3,4,5,6] rfl⟩⟩
 refine ay ?_
 exact⟨x13,([x6,x12]:List B6),v18,h,atOk⟩
theorem alj :∀n,rj (np n):=by
 intro n
 induction n with
 |zero=>exact⟨(fun x1 x2 x3 r h=>nomatch (show none=some r from h)),(fun x1 x2 x3 r h=>nomatch (show none=some r from h)),(fun x1 x2 x3 r h=>nomatch (show none=some r from h))⟩
 |succ n ih=>exact⟨(fun x1 x2 x3 r h=>alu (np n) ih x1 x2 x3 r h),(fun x1 x2 x3 r h=>ah7 (np n) ih x1 x2 x3 r h),(fun x1 x2 x3 r h=>ajx (np n) ih x1 x2 x3 r h)⟩
theorem aqi (x1:List C6) (x2 x3:Int) (r:B6 × Int × C7) (h:akg x1 x2 x3=some r):Fp 140 [ap cg x1,P6 x2,P6 x3] (br [(af).val r.1,P6 r.2.1,(aj).val r.2.2]):=(alj 1048576).1 x1 x2 x3 r h
theorem aps (x1:List C6) (x2:Int) (r:B6 × Int × C7) (h:su x1 x2=some r):Fp 95 [ap cg x1,P6 x2] (br [(af).val r.1,P6 r.2.1,(aj).val r.2.2]):=by
 refine ec (rs:=[.cell 4 64,.tmp 5,.cell 6 97]) func95 rfl ntmps95 results95 dcd (fun s0=>?_)
 let p1:=B6.mk 0 [] [] 0 0 0 0 0 []
 let p2:=C7.mk 0 0
 unfold su at h
 refine W_rs (bw al64 fun b3=>kAs rfl (bw al97 fun b4=>W_rs (kMv rfl (kAs rfl (W_rs (kMvL rfl (kMv rfl (c8 h (cb x1 x2 ([115,116,97,116,105,99]:Bt)) rfl fun x5 _ h=>kAs rfl ?_))))))))
 let p3:=D9 b3 af p1
 refine bo (fun e C=>∃x7,ne x1 x2 x5 x7=some r/\At [(0,ap cg x1),(1,P6 x7),(4,Pr.pt b3 0),(6,Pr.pt b4 0),(7,P6 x2),(8,Pb x5)] [p3,D9 b4 aj p2] e C) ?_ ?_
 ·rintro e C ⟨x7,h,a⟩
  refine W_at a ?_
  unfold ne at h
  refine a7 (W_rs (kMvL rfl (kMv rfl (c8 h (ala x1 x7) rfl fun x8 _ h=>kNo rfl ?_))))
  refine a6 h rfl (fun _ h=>?_) (fun _ h=>?_)
  ·refine W_rs (kUn (fr ba st64 rfl) ?_)
   refine kMv rfl (c8 h (cw x7) rfl fun x10 _ h=>av 0 rfl rfl (Upd.refl _) rfl sizeOf64 (kAs rfl (av 1 rfl rfl (Upd.refl _) rfl sizeOf97 ?_)))
   obtain rfl:=osj h
   exact bg ⟨rfl,[(af).val p1,P6 0,(aj).val x10],⟨yBox 0 ty64 aa,yT aa,yBox 1 ty97 aa,tv⟩,aa⟩
  refine ay (a7 (W_rs (kMvL rfl (kMv rfl (kIn rfl rfl rfl (c8 h (l7 x1 (w64 (x7+1))) rfl fun x11 _ h=>kNo rfl ?_))))))
  refine a6 h rfl (fun _ h=>?_) (fun _ h=>?_)
  ·refine W_rs (kUn (fr ba st64 rfl) ?_)
   refine kMv rfl (kIn rfl rfl rfl (c8 h (cw (w64 (x7+1))) rfl fun x13 _ h=>av 0 rfl rfl (Upd.refl _) rfl sizeOf64 (kAs rfl (av 1 rfl rfl (Upd.refl _) rfl sizeOf97 ?_))))
   obtain rfl:=osj h
   exact bg ⟨rfl,[(af).val p1,P6 0,(aj).val x13],⟨yBox 0 ty64 aa,yT aa,yBox 1 ty97 aa,tv⟩,aa⟩
  refine ay (W_rs (kMv rfl (kIn rfl rfl rfl (kAs rfl (W_rs (kAs rfl (W_rs (kAs rfl ?_))))))))
  refine ah6 [11] af 64 (fun v14=>?_) ⟨rfl,tv⟩
  refine bo (fun e C=>∃x37,∃x38,∃x40,∃v39,r6 x1 x2 x7 x5 x37 x38 x40=some r/\At [(0,ap cg x1),(1,P6 x7),(4,Pr.pt b3 0),(6,Pr.pt b4 0),(7,P6 x2),(8,Pb x5),(9,P6 x37),(10,P6 x38),(11,Pi v39)] [p3,D9 b4 aj p2,E6 v39 af x40 64] e C) ?_ ?_
  ·rintro e C ⟨x37,x38,x40,v39,h,a⟩
   refine W_at a ?_
   unfold r6 at h
   refine W_rs (kMvL rfl (kMvL rfl (kMv rfl (kMv rfl (kMv rfl (kMv rfl ?_))))))
   obtain⟨x41,k,h⟩:=ah h
   refine rRel 2 [11,99] ?_ rfl ⟨rfl,rfl,tv⟩
   refine kUn (dz (ev x1 x38 x2 x37 x40 _ k)) ?_
   refine kMv rfl (c8 h (agh x1 x41 x7) rfl fun x42 _ h=>?_)
   refine bw al64 fun b43=>av 2 rfl rfl (Upd.refl _) rfl sizeOf64 ?_
   refine bo (fun e C=>∃x45,r7 x37 x45=some r/\At [(4,Pr.pt b3 0),(6,Pr.pt b4 0),(9,P6 x37),(18,Pr.pt b43 0)] [p3,D9 b4 aj p2,D9 b43 af x45] e C) ?_ ?_
   ·rintro e C ⟨x45,h,a⟩
    refine W_at a ?_
    unfold r7 at h
    refine bo (fun e C=>∃x46,vr x45 x37 x46=some r/\At [(4,Pr.pt b3 0),(5,P6 x37),(6,Pr.pt b4 0)] [D9 b3 af x45,D9 b4 aj x46,D9 b43 af x45] e C) ?_ ?_
    ·rintro e C ⟨x46,h,a⟩
     refine W_at a ?_
     unfold vr at h
     obtain rfl:=osj h
     exact bg ⟨rfl,[(af).val x45,P6 x37,(aj).val x46],⟨yBox 0 ty64 aa,yT aa,yBox 1 ty97 aa,tv⟩,aa⟩
    obtain⟨x46,k,h⟩:=ah h
    refine ga [(3,0,D9 b3 af x45),(5,1,D9 b4 aj x46)] [D9 b3 af x45,D9 b4 aj x46,D9 b43 af x45] hmx kr kr (show([3,5]:List Nat).Nodup by decide) (show([0,1]:List Nat).Nodup by decide) rfl rfl ?_
    refine eql 2 ty64 (Sub.refl _) rfl rfl kr ?_
    refine eq1 (out:=P6 x37) (fun C2 hC=>gz) ?_
    refine eq1 (out:=(aj).val x46) (fun C2 hC=>(dz (dk _ k))) ?_
    refine eqs 0 sizeOf64 (Upd.refl _) rfl rfl rfl kr ?_
    refine eq1 (out:=P6 x37) (fun C2 hC=>gb) ?_
    refine eqs 1 sizeOf97 (Upd.refl _) rfl rfl rfl kr ?_
    exact⟨x46,h,atOk⟩
   refine W_rs (kMv rfl ?_)
   refine a6 h rfl (fun _ h=>?_) (fun _ h=>?_)
   ·refine W_r (kUn (ak aig) ?_)
    refine av 2 rfl rfl air rfl sizeOf2 ?_
    exact⟨{x42 with N:=1},h,atOk⟩
   refine ay ?_
   exact⟨x42,h,atOk⟩
  refine a5 (W_rs (kMvL rfl (kMv rfl (c8 h (cb x1 (w64 (x7+2)) ([59]:Bt)) rfl fun x15 _ h=>kAs rfl ?_))))
  refine a6 h rfl (fun _ h=>?_) (fun _ h=>?_)
  ·refine a7 (W_rs (kMvL rfl (kMv rfl (c8 h (cb x1 x7 ([118,111,105,100]:Bt)) rfl fun x17 _ h=>?_))))
   refine a6 h rfl (fun _ h=>?_) (fun _ h=>?_)
   ·refine W_rs (kUn (fr ba st64 rfl) ?_)
    refine kMv rfl (c8 h (cw (w64 (x7+2))) rfl fun x19 _ h=>av 0 rfl rfl (Upd.refl _) rfl sizeOf64 (kAs rfl (av 1 rfl rfl (Upd.refl _) rfl sizeOf97 ?_)))
    obtain rfl:=osj h
    exact bg ⟨rfl,[(af).val p1,P6 0,(aj).val x19],⟨yBox 0 ty64 aa,yT aa,yBox 1 ty97 aa,tv⟩,aa⟩
   refine ay (W_r (kMv rfl (kIn rfl rfl rfl (kAs rfl ?_))))
   exact⟨w64 ((w64 (x7+2))+1),2,[],v14,h,atOk⟩
  refine W_rs (kMvL rfl (kMv rfl (c8 h (cb x1 (w64 (x7+2)) ([40]:Bt)) rfl fun x20 _ h=>kAs rfl ?_)))
  refine a6 h rfl (fun _ h=>?_) (fun _ h=>?_)
  ·refine W_rs (kAs rfl (W_rs (kMvL rfl (kMv rfl (kIn rfl rfl rfl ?_)))))
   obtain⟨⟨x22,x23,x24⟩,k,h⟩:=ah h
   refine oy [] (apr x1 (w64 ((w64 (x7+2))+1)) _ k) (fun q C' hq=>?_)
   obtain⟨v25,rfl,rfl⟩:=hq
   refine kUn (hMv (out:=br [Pi v25,P6 x23,(aj).val x24]) rfl) (kUn ar ?_)
   refine kUn ar ?_
   refine kUn ar ?_
   refine bw al97 fun b26=>kAs rfl (kAs rfl (av 4 rfl rfl (Upd.refl _) rfl sizeOf97 (a7 (W_rs (kUn (ak o0) ?_)))))
   let p4:=D9 b26 aj x24
   refine kUn (au 4 ty3 cn) ?_
   refine kIn rfl rfl rfl ?_
   refine a6 h rfl (fun _ h=>?_) (fun _ h=>?_)
   ·refine bo (fun e C=>vq x24=some r/\At [(4,Pr.pt b3 0),(5,P6 0),(6,Pr.pt b4 0)] [p3,D9 b4 aj x24,p4] e C) ?_ ?_
    ·rintro e C ⟨h,a⟩
     refine W_at a ?_
     unfold vq at h
     obtain rfl:=osj h
     exact bg ⟨rfl,[(af).val p1,P6 0,(aj).val x24],⟨yBox 0 ty64 aa,yT aa,yBox 1 ty97 aa,tv⟩,aa⟩
    refine ga [(2,1,D9 b3 af p1),(4,2,D9 b4 aj x24)] [E6 v25 af x22 64,p3,D9 b4 aj x24,E6 v14 af [] 64,p4] hmx kr kr (show([2,4]:List Nat).Nodup by decide) (show([1,2]:List Nat).Nodup by decide) rfl rfl ?_
    refine eq1 (out:=(af).val p1) (fun C2 hC=>(fr ba st64 rfl)) ?_
    refine eql 4 ty97 (Sub.refl _) rfl rfl kr ?_
    refine eqs 1 sizeOf64 (Upd.refl _) rfl rfl rfl kr ?_
    refine eq1 (out:=P6 0) (fun C2 hC=>gb) ?_
    refine eqs 2 sizeOf97 (Upd.refl _) rfl rfl rfl kr ?_
    exact⟨h,⟨⟨aa,aa,aa,tv⟩,A9.of [1,2,4] rfl⟩⟩
   refine ay (W_rs (kMvL rfl (kMv rfl ?_)))
   obtain⟨⟨x28,x29,x30⟩,k,h⟩:=ah h
   refine kUn (dz (aqi x1 x23 1 _ k)) ?_
   refine kUn (hMv (out:=br [(af).val x28,P6 x29,(aj).val x30]) rfl) (kUn ar ?_)
   refine kUn ar ?_
   refine kUn ar ?_
   refine bw al64 fun b31=>?_
   refine bw al97 fun b32=>av 5 rfl rfl (Upd.refl _) rfl sizeOf64 (kAs rfl (av 6 rfl rfl (Upd.refl _) rfl sizeOf97 (a7 (W_rs (kUn (ak o0) ?_)))))
   refine kUn (au 6 ty3 cn) ?_
   refine kIn rfl rfl rfl ?_
   refine a6 h rfl (fun _ h=>?_) (fun _ h=>?_)
   ·refine bo (fun e C=>vp x30=some r/\At [(4,Pr.pt b3 0),(5,P6 0),(6,Pr.pt b4 0)] [p3,D9 b4 aj x30,p4,D9 b31 af x28,D9 b32 aj x30] e C) ?_ ?_
    ·rintro e C ⟨h,a⟩
     refine W_at a ?_
     unfold vp at h
     obtain rfl:=osj h
     exact bg ⟨rfl,[(af).val p1,P6 0,(aj).val x30],⟨yBox 0 ty64 aa,yT aa,yBox 1 ty97 aa,tv⟩,aa⟩
    refine ga [(2,1,D9 b3 af p1),(4,2,D9 b4 aj x30)] [E6 v25 af x22 64,p3,D9 b4 aj x30,E6 v14 af [] 64,p4,D9 b31 af x28,D9 b32 aj x30] hmx kr kr (show([2,4]:List Nat).Nodup by decide) (show([1,2]:List Nat).Nodup by decide) rfl rfl ?_
    refine eq1 (out:=(af).val p1) (fun C2 hC=>(fr ba st64 rfl)) ?_
    refine eql 6 ty97 (Sub.refl _) rfl rfl kr ?_
    refine eqs 1 sizeOf64 (Upd.refl _) rfl rfl rfl kr ?_
    refine eq1 (out:=P6 0) (fun C2 hC=>gb) ?_
    refine eqs 2 sizeOf97 (Upd.refl _) rfl rfl rfl kr ?_
    exact⟨h,⟨⟨aa,aa,aa,tv⟩,A9.of [1,2,4,5,6] rfl⟩⟩
   refine ay (W_rs (kMv rfl (kUn (au 5 ty64 (Sub.refl _)) ?_)))
   refine kUn (cq (R:=af) (a:=x28) el53 nb) ?_
   obtain⟨x34,k,h⟩:=ah h
   refine ik 0 el53 k (fun v35=>?_)
   refine kAs rfl (W_rs (kMv rfl (kAs rfl (W_r (kMv rfl (kAs rfl ?_))))))
   exact⟨x29,3,x34,v35,h,⟨⟨aa,aa,aa,aa,aa,aa,aa,aa,aa,tv⟩,A9.of [1,2,0] rfl⟩⟩
  refine W_rs (kUn (fr ba st64 rfl) ?_)
  refine kMv rfl (c8 h (cw (w64 (x7+2))) rfl fun x36 _ h=>av 0 rfl rfl (Upd.refl _) rfl sizeOf64 (kAs rfl (av 1 rfl rfl (Upd.refl _) rfl sizeOf97 ?_)))
  obtain rfl:=osj h
  exact bg ⟨rfl,[(af).val p1,P6 0,(aj).val x36],⟨yBox 0 ty64 aa,yT aa,yBox 1 ty97 aa,tv⟩,aa⟩
 refine W_rs (kMv rfl ?_)
 refine a6 h rfl (fun _ h=>?_) (fun _ h=>?_)
 ·refine W_r (kMv rfl (kIn rfl rfl rfl (kAs rfl ?_)))
  exact⟨w64 (x2+1),h,atOk⟩
 refine ay ?_
 exact⟨x2,h,atOk⟩
theorem aqh (x1:List C6) (x2:Int) (r:B6 × Int × C7) (h:aeh x1 x2=some r):Fp 51 [ap cg x1,P6 x2] (br [(af).val r.1,P6 r.2.1,(aj).val r.2.2]):=by
 refine ec (rs:=[.cell 4 64,.tmp 5,.cell 6 97]) func51 rfl ntmps51 results51 dcd (fun s0=>?_)
 let p1:=B6.mk 0 [] [] 0 0 0 0 0 []
 let p2:=C7.mk 0 0
 unfold aeh at h
 refine W_rs (bw al64 fun b3=>kAs rfl (bw al97 fun b4=>a7 (W_rs (kMvL rfl (kMv rfl (c8 h (cb x1 x2 ([99,108,97,115,115]:Bt)) rfl fun x5 _ h=>kNo rfl ?_))))))
 let p3:=D9 b3 af p1
 let p4:=D9 b4 aj p2
 refine a6 h rfl (fun _ h=>?_) (fun _ h=>?_)
 ·refine W_rs (kUn (fr ba st64 rfl) ?_)
  refine kMv rfl (c8 h (cw x2) rfl fun x7 _ h=>av 0 rfl rfl (Upd.refl _) rfl sizeOf64 (kAs rfl (av 1 rfl rfl (Upd.refl _) rfl sizeOf97 ?_)))
  obtain rfl:=osj h
  exact bg ⟨rfl,[(af).val p1,P6 0,(aj).val x7],⟨yBox 0 ty64 aa,yT aa,yBox 1 ty97 aa,tv⟩,aa⟩
 refine ay (a7 (W_rs (kMvL rfl (kMv rfl (kIn rfl rfl rfl (c8 h (l7 x1 (w64 (x2+1))) rfl fun x8 _ h=>kNo rfl ?_))))))
 refine a6 h rfl (fun _ h=>?_) (fun _ h=>?_)
 ·refine W_rs (kUn (fr ba st64 rfl) ?_)
  refine kMv rfl (kIn rfl rfl rfl (c8 h (cw (w64 (x2+1))) rfl fun x10 _ h=>av 0 rfl rfl (Upd.refl _) rfl sizeOf64 (kAs rfl (av 1 rfl rfl (Upd.refl _) rfl sizeOf97 ?_))))
  obtain rfl:=osj h
  exact bg ⟨rfl,[(af).val p1,P6 0,(aj).val x10],⟨yBox 0 ty64 aa,yT aa,yBox 1 ty97 aa,tv⟩,aa⟩
 refine ay (W_rs (kMv rfl (kIn rfl rfl rfl (kAs rfl (W_rs (kAs rfl ?_))))))
 refine bo (fun e C=>∃x16,∃x17,ug x1 x2 x16 x17=some r/\At [(0,ap cg x1),(1,P6 x2),(4,Pr.pt b3 0),(6,Pr.pt b4 0),(7,P6 x16),(8,P6 x17)] [p3,p4] e C) ?_ ?_
 ·rintro e C ⟨x16,x17,h,a⟩
  refine W_at a ?_
  unfold ug at h
  refine a7 (W_rs (kMvL rfl (kMv rfl (c8 h (cb x1 x16 ([123]:Bt)) rfl fun x18 _ h=>kNo rfl ?_))))
  refine a6 h rfl (fun _ h=>?_) (fun _ h=>?_)
  ·refine W_rs (kUn (fr ba st64 rfl) ?_)
   refine kMv rfl (c8 h (cw x16) rfl fun x20 _ h=>av 0 rfl rfl (Upd.refl _) rfl sizeOf64 (kAs rfl (av 1 rfl rfl (Upd.refl _) rfl sizeOf97 ?_)))
   obtain rfl:=osj h
   exact bg ⟨rfl,[(af).val p1,P6 0,(aj).val x20],⟨yBox 0 ty64 aa,yT aa,yBox 1 ty97 aa,tv⟩,aa⟩
  refine ay (W_rs (kMv rfl (kIn rfl rfl rfl (kAs rfl (W_rs (kAs rfl (a7 (a5 ?_))))))))
  obtain⟨z4l,hz4,h⟩:=ah h
  obtain⟨n4,hN4⟩:=bv hz4
  refine di 0 (fun e C=>∃x21,∃x23,∃v22,xf x1 x2 x17 x21 x23=some r/\At [(0,ap cg x1),(1,P6 x2),(4,Pr.pt b3 0),(6,Pr.pt b4 0),(7,P6 x21),(8,P6 x17),(9,Pi v22)] [p3,p4,E6 v22 af x23 64] e C) ?_ ?_
  ·rintro e C ⟨x21,x23,v22,h,a⟩
   refine W_at a ?_
   unfold xf at h
   refine W_rs (kMvL rfl (kMv rfl (kMv rfl (kIn rfl rfl rfl (kMv rfl ?_)))))
   obtain⟨x37,k,h⟩:=ah h
   refine rRel 2 [9,82] ?_ rfl ⟨rfl,rfl,tv⟩
   refine kUn (dz (ev x1 1 x2 (w64 (x21+1)) x23 _ k)) ?_
   refine bw al64 fun b38=>av 2 rfl rfl (Upd.refl _) rfl sizeOf64 (W_rs (kMvL rfl (kMv rfl (kIn rfl rfl rfl ?_))))
   obtain⟨x39,k,h⟩:=ah h
   refine kUn (fo underlying41 sizeOf45 k) ?_
   refine kUn (jb aat ge) ?_
   refine kUn (cz ty9) ?_
   refine kUn (ak ie) ?_
   refine av 2 rfl rfl r5 rfl sizeOf9 (W_rs (kMvL rfl (kMv rfl (kIn rfl rfl rfl ?_))))
   obtain⟨x40,k,h⟩:=ah h
   refine kUn (fo underlying41 sizeOf45 k) ?_
   refine kUn (jb af0 lv) ?_
   refine kUn (cz ty3) ?_
   refine kUn (ak ru) ?_
   refine av 2 rfl rfl zh rfl sizeOf3 ?_
   refine bo (fun e C=>∃x44,xg x21 x44=some r/\At [(4,Pr.pt b3 0),(6,Pr.pt b4 0),(7,P6 x21),(13,Pr.pt b38 0)] [p3,p4,D9 b38 af x44] e C) ?_ ?_
   ·rintro e C ⟨x44,h,a⟩
    refine W_at a ?_
    unfold xg at h
    refine bo (fun e C=>∃x45,ab5 x44 x21 x45=some r/\At [(4,Pr.pt b3 0),(5,P6 (w64 (x21+1))),(6,Pr.pt b4 0)] [D9 b3 af x44,D9 b4 aj x45,D9 b38 af x44] e C) ?_ ?_
    ·rintro e C ⟨x45,h,a⟩
     refine W_at a ?_
     unfold ab5 at h
     obtain rfl:=osj h
     exact bg ⟨rfl,[(af).val x44,P6 (w64 (x21+1)),(aj).val x45],⟨yBox 0 ty64 aa,yT aa,yBox 1 ty97 aa,tv⟩,aa⟩
    obtain⟨x45,k,h⟩:=ah h
    refine ga [(4,0,D9 b3 af x44),(6,1,D9 b4 aj x45)] [D9 b3 af x44,D9 b4 aj x45,D9 b38 af x44] hmx kr kr (show([4,6]:List Nat).Nodup by decide) (show([0,1]:List Nat).Nodup by decide) rfl rfl ?_
    refine eql 2 ty64 (Sub.refl _) rfl rfl kr ?_
    refine eq1 (out:=P6 x21) (fun C2 hC=>gz) ?_
    refine eq1 (out:=P6 (w64 (x21+1))) (fun C2 hC=>qInt) ?_
    refine eq1 (out:=(aj).val x45) (fun C2 hC=>(dz (dk _ k))) ?_
    refine eqs 0 sizeOf64 (Upd.refl _) rfl rfl rfl kr ?_
    refine eq1 (out:=P6 (w64 (x21+1))) (fun C2 hC=>gb) ?_
    refine eqs 1 sizeOf97 (Upd.refl _) rfl rfl rfl kr ?_
    exact⟨x45,h,atOk⟩
   refine W_rs (kMv rfl (kIn rfl rfl rfl ?_))
   refine a6 h rfl (fun _ h=>?_) (fun _ h=>?_)
   ·refine W_rs (kMvL rfl (kMv rfl ?_))
    obtain⟨x42,k,h⟩:=ah h
    refine kUn (fo underlying41 sizeOf45 k) ?_
    refine kUn (jb aat ge) ?_
    refine kUn (cz ty9) ?_
    refine kUn (ak ws) ?_
    refine av 2 rfl rfl ai6 rfl sizeOf9 (W_r (kMvL rfl (kMv rfl ?_)))
    obtain⟨x43,k,h⟩:=ah h
    refine kUn (fo underlying41 sizeOf45 k) ?_
    refine kUn (jb af0 lv) ?_
    refine kUn (cz ty3) ?_
    refine kUn (ak aob) ?_
    refine av 2 rfl rfl ag9 rfl sizeOf3 ?_
    exact⟨{{{{x37 with Text:=x39.Text} with At:=x40.At} with Type_:=x42.Text} with TypeAt:=x43.At},h,atOk⟩
   refine ay ?_
   exact⟨{{x37 with Text:=x39.Text} with At:=x40.At},h,atOk⟩
  refine ah6 [9] af 64 (fun v46=>?_) ⟨rfl,tv⟩
  refine ek (fun m e C=>∃x21,∃x23,∃v22,fq (fun s=>xe x1 s.1 s.2) m (x21,x23)=some z4l/\At [(0,ap cg x1),(1,P6 x2),(4,Pr.pt b3 0),(6,Pr.pt b4 0),(7,P6 x21),(8,P6 x17),(9,Pi v22)] [p3,p4,E6 v22 af x23 64] e C) n4 ⟨w64 (x16+1),[],v46,hN4,⟨⟨aa,aa,aa,aa,aa,aa,aa,tv⟩,A9.refl _⟩⟩ ?_
  rintro m e C ⟨x21,x23,v22,hN4,a⟩
  refine W_at a ?_
  obtain⟨m4,w4l,rfl,h4l,hn4,ho4⟩:=bm hN4
  replace h4l:xe x1 x21 x23=some w4l:=h4l
  unfold xe at h4l
  refine a7 (W_rs (kMvL rfl (kMv rfl (c8 h4l (cb x1 x21 ([125]:Bt)) rfl fun x27 _ h4l=>kNo rfl ?_))))
  refine a6 h4l rfl (fun _ h4l=>?_) (fun _ h4l=>?_)
  ·refine ay (a5 (W_rs (kMvL rfl (kMv rfl ?_))))
   obtain⟨⟨x29,x30,x31⟩,k,h4l⟩:=ah h4l
   refine kUn (dz (aps x1 x21 _ k)) ?_
   refine kUn (hMv (out:=br [(af).val x29,P6 x30,(aj).val x31]) rfl) (kUn ar ?_)
   refine kUn ar ?_
   refine kUn ar ?_
   refine bw al64 fun b32=>?_
   refine bw al97 fun b33=>av 3 rfl rfl (Upd.refl _) rfl sizeOf64 (kAs rfl (av 4 rfl rfl (Upd.refl _) rfl sizeOf97 (a7 (W_rs (kUn (ak o0) ?_)))))
   refine kUn (au 4 ty3 cn) ?_
   refine kIn rfl rfl rfl ?_
   refine a6 h4l rfl (fun _ h4l=>?_) (fun _ h4l=>?_)
   ·refine bo (fun e C=>ab4 x31=some w4l/\At [(4,Pr.pt b3 0),(5,P6 0),(6,Pr.pt b4 0)] [p3,D9 b4 aj x31,D9 b32 af x29,D9 b33 aj x31] e C) ?_ ?_
    ·rintro e C ⟨h4l,a⟩
     refine W_at a ?_
     unfold ab4 at h4l
     obtain rfl:=ho4 _ (ojs h4l)
     replace h:some (p1,0,x31)=some r:=h
     obtain rfl:=osj h
     exact bg ⟨rfl,[(af).val p1,P6 0,(aj).val x31],⟨yBox 0 ty64 aa,yT aa,yBox 1 ty97 aa,tv⟩,aa⟩
    refine ga [(2,0,D9 b3 af p1),(4,1,D9 b4 aj x31)] [p3,D9 b4 aj x31,E6 v22 af x23 64,D9 b32 af x29,D9 b33 aj x31] hmx kr kr (show([2,4]:List Nat).Nodup by decide) (show([0,1]:List Nat).Nodup by decide) rfl rfl ?_
    refine eq1 (out:=(af).val p1) (fun C2 hC=>(fr ba st64 rfl)) ?_
    refine eql 4 ty97 (Sub.refl _) rfl rfl kr ?_
    refine eqs 0 sizeOf64 (Upd.refl _) rfl rfl rfl kr ?_
    refine eq1 (out:=P6 0) (fun C2 hC=>gb) ?_
    refine eqs 1 sizeOf97 (Upd.refl _) rfl rfl rfl kr ?_
    exact⟨h4l,⟨⟨aa,aa,aa,tv⟩,A9.of [0,1,3,4] rfl⟩⟩
   refine ay (W_rs (kMv rfl (kUn (au 3 ty64 (Sub.refl _)) ?_)))
   refine kUn (cq (R:=af) (a:=x29) el53 nb) ?_
   obtain⟨x35,k,h4l⟩:=ah h4l
   refine ik 2 el53 k (fun v36=>?_)
   refine kAs rfl (W_r (kMv rfl (kAs rfl ?_)))
   exact⟨m4,lsu,x30,x35,v36,hn4 _ (ojs h4l),⟨⟨aa,aa,aa,aa,aa,aa,aa,tv⟩,A9.of [0,1,2] rfl⟩⟩
  refine ej ?_
  obtain rfl:=ho4 _ (ojs h4l)
  exact⟨x21,x23,v22,h,atOk⟩
 refine W_rs (kMvL rfl (kMv rfl (c8 h (cb x1 (w64 (x2+2)) ([101,120,116,101,110,100,115]:Bt)) rfl fun x11 _ h=>?_)))
 refine a6 h rfl (fun _ h=>?_) (fun _ h=>?_)
 ·refine a7 (W_rs (kMvL rfl (kMv rfl (kIn rfl rfl rfl (c8 h (l7 x1 (w64 ((w64 (x2+2))+1))) rfl fun x13 _ h=>kNo rfl ?_)))))
  refine a6 h rfl (fun _ h=>?_) (fun _ h=>?_)
  ·refine W_rs (kUn (fr ba st64 rfl) ?_)
   refine kMv rfl (kIn rfl rfl rfl (c8 h (cw (w64 ((w64 (x2+2))+1))) rfl fun x15 _ h=>av 0 rfl rfl (Upd.refl _) rfl sizeOf64 (kAs rfl (av 1 rfl rfl (Upd.refl _) rfl sizeOf97 ?_))))
   obtain rfl:=osj h
   exact bg ⟨rfl,[(af).val p1,P6 0,(aj).val x15],⟨yBox 0 ty64 aa,yT aa,yBox 1 ty97 aa,tv⟩,aa⟩
  refine ay (W_rs (kMv rfl (kIn rfl rfl rfl (kAs rfl (W_r (kMv rfl (kIn rfl rfl rfl (kAs rfl ?_))))))))
  exact⟨w64 ((w64 (x2+2))+2),w64 ((w64 (x2+2))+1),h,atOk⟩
 refine ay ?_
 exact⟨w64 (x2+2),(-1),h,atOk⟩
theorem anb (x1:List C6) (x2:C7) (r:B4) (h:zi x1 x2=some r):Fp 52 [ap cg x1,(aj).val x2] ((az).val r):=by
 refine ec (rs:=[.cell 4 30]) func52 rfl ntmps52 results52 dcd (fun s0=>?_)
 unfold zi at h
 refine W_rs ?_
 refine rBox (R:=aj) (a:=x2) rfl (fun b3=>?_)
 refine bw al30 fun b4=>?_
 refine bo (fun e C=>∃x5,yc x2 x5=some r/\At [(4,Pr.pt b4 0)] [D9 b3 aj x2,D9 b4 az (B4.mk x2.Code 0 x5.At)] e C) ?_ ?_
 ·rintro e C ⟨x5,h,a⟩
  refine W_at a ?_
  unfold yc at h
  obtain rfl:=osj h
  exact bg ⟨rfl,[(az).val (B4.mk x2.Code 0 x5.At)],⟨yBox 1 ty30 aa,tv⟩,aa⟩
 refine i8 13 hmx kr kr ?_
 refine lUn (ak fld97_1) ?_
 refine lUn (au 0 ty28 alg) ?_
 refine lUn (hMvL rfl) (lUn (ak o0) ?_)
 refine lUn (au 0 ty3 cn) ?_
 refine lUn (hMvL rfl) (lUn (mg rfl underlying41) ?_)
 refine lUn (qInt rfl rfl rfl) (lUn (qMin (a:=x2.Place) (b:=w64 ((x1.length:Int) - 1))) ?_)
 obtain⟨x5,k,h⟩:=ah h
 refine lUn (fo underlying41 sizeOf45 k) ?_
 refine lUn (jb af0 lv) ?_
 refine lUn (cz ty3) ?_
 refine lUn (jm st30 ⟨(B4.mk x2.Code 0 0),⟨_,rfl,rfl,qbj⟩,⟨(B4.mk x2.Code 0 x5.At),⟨_,rfl,rfl,qbj⟩,rfl⟩⟩) ?_
 refine av 1 rfl rfl (Upd.refl _) rfl sizeOf30 ?_
 exact⟨x5,h,atOk⟩
def ads (R:ke):Prop:=(∀(x1:B6) (r:Int),R x1=some r->Fp 53 [(af).val x1] (P6 r))
theorem alv (R:ke) (ih:ads R) (x1:B6) (r:Int) (h:zw R x1=some r):Fp 53 [(af).val x1] (P6 r):=by
 refine dv (rs:=[2]) func53 rfl ntmps53 ⟨by decide,results53⟩ dcd (fun s0=>?_)
 unfold zw at h
 refine W_rs ?_
 refine rBox (R:=af) (a:=x1) rfl (fun b2=>?_)
 refine kAs rfl (W_rs (kAs rfl (a7 (W_rs (kAs rfl (a5 ?_))))))
 obtain⟨z2l,hz2,h⟩:=ah h
 obtain⟨n2,hN2⟩:=bv hz2
 refine di 0 (fun e C=>∃x3,ab9 R x3=some r/\At [(3,P6 x3)] [D9 b2 af x1] e C) ?_ ?_
 ·rintro e C ⟨x3,h,a⟩
  refine W_at a ?_
  unfold ab9 at h
  refine W_rs (kMv rfl (kIn rfl rfl rfl (kAs rfl ?_)))
  obtain rfl:=osj h
  exact bg ⟨rfl,aa⟩
 refine ek (fun m e C=>∃x3,∃x4,fq (fun s=>xk R x1 s.1 s.2) m (x3,x4)=some z2l/\At [(1,Pr.pt b2 0),(3,P6 x3),(4,P6 x4)] [D9 b2 af x1] e C) n2 ⟨0,0,hN2,⟨⟨aa,aa,aa,tv⟩,A9.refl _⟩⟩ ?_
 rintro m e C ⟨x3,x4,hN2,a⟩
 refine W_at a ?_
 obtain⟨m2,w2l,rfl,h2l,hn2,ho2⟩:=bm hN2
 replace h2l:xk R x1 x3 x4=some w2l:=h2l
 unfold xk at h2l
 refine a7 (W_rs (kMv rfl (kUn (ak ic) ?_)))
 refine kUn (au 0 ty53 bt) ?_
 refine kUn (mg rfl underlying53) ?_
 refine kIn rfl rfl rfl ?_
 refine a6 h2l rfl (fun _ h2l=>?_) (fun _ h2l=>?_)
 ·refine ay (a7 (a5 (W_r (kMv rfl (kUn (ak ic) ?_)))))
  refine kUn (au 0 ty53 bt) ?_
  refine kMv rfl ?_
  obtain⟨x8,k,h2l⟩:=ah h2l
  refine kUn (fo underlying53 sizeOf64 k) ?_
  refine kUn (cz ty64) ?_
  refine c8 h2l (ih x8) rfl fun x9 _ h2l=>?_
  refine kUn (qMax (a:=x3) (b:=x9)) ?_
  refine kAs rfl (W_r (kMv rfl (kIn rfl rfl rfl (kAs rfl ?_))))
  exact⟨m2,lsu,(if x9>x3 then x9 else x3),w64 (x4+1),hn2 _ (ojs h2l),atOk⟩
 refine ej ?_
 obtain rfl:=ho2 _ (ojs h2l)
 exact⟨x3,h,atOk⟩
theorem alk :∀n,ads (qg n):=by
 intro n
 induction n with
 |zero=>exact(fun x1 r h=>nomatch (show none=some r from h))
 |succ n ih=>exact(fun x1 r h=>alv (qg n) ih x1 r h)
theorem aqk (x1:B6) (r:Int) (h:ao1 x1=some r):Fp 53 [(af).val x1] (P6 r):=(alk 1048576) x1 r h
theorem aht (x1:Bt) (r:(List B6) × B4) (h:aav x1=some r):Fp 23 [Pr.str x1] (br [ap af r.1,(az).val r.2]):=by
 refine ec (rs:=[.tmp 2,.cell 3 30]) func23 rfl ntmps23 results23 dcd (fun s0=>?_)
 let p1:=B4.mk 0 0 0
 unfold aav at h
 refine W_rs (kAs rfl (bw al30 fun b2=>W_rs (kMv rfl ?_)))
 let p2:=D9 b2 az p1
 obtain⟨⟨x3,x4,x5⟩,k,h⟩:=ah h
 refine kUn (dz (auq x1 _ k)) ?_
 refine kUn (hMv (out:=br [ap cg x3,P6 x4,P6 x5]) rfl) (kUn ar ?_)
 refine kUn ar ?_
 refine kUn ar ?_
 refine kAsL rfl (kAs rfl (kAs rfl (a7 (W_rs (kMv rfl (kIn rfl rfl rfl ?_))))))
 refine a6 h rfl (fun _ h=>?_) (fun _ h=>?_)
 ·refine W_rs (kMv rfl (kMv rfl (kUn (jm st30 ⟨(B4.mk x5 0 0),⟨_,rfl,rfl,qbj⟩,⟨(B4.mk x5 0 x4),⟨_,rfl,rfl,qbj⟩,rfl⟩⟩) ?_)))
  refine kAs rfl (av 0 rfl rfl (Upd.refl _) rfl sizeOf30 ?_)
  obtain rfl:=osj h
  exact bg ⟨rfl,[ap af [],(az).val (B4.mk x5 0 x4)],⟨yT (el _),yBox 0 ty30 aa,tv⟩,aa⟩
 refine ay (W_rs (kAs rfl (W_rs (kAs rfl (a7 (a5 ?_))))))
 obtain⟨z5l,hz5,h⟩:=ah h
 obtain⟨n5,hN5⟩:=bv hz5
 refine di 0 (fun e C=>∃x9,∃v7,adz x9=some r/\At [(3,Pr.pt b2 0),(7,Pi v7)] [p2,E6 v7 af x9 64] e C) ?_ ?_
 ·rintro e C ⟨x9,v7,h,a⟩
  refine W_at a ?_
  unfold adz at h
  refine a7 (W_rs (kAs rfl (a5 ?_)))
  obtain⟨z2l,hz2,h⟩:=ah h
  obtain⟨n2,hN2⟩:=bv hz2
  refine di 2 (fun e C=>ad0 x9=some r/\At [(3,Pr.pt b2 0),(7,Pi v7)] [p2,E6 v7 af x9 64] e C) ?_ ?_
  ·rintro e C ⟨h,a⟩
   refine W_at a ?_
   unfold ad0 at h
   refine W_rs (kMv rfl (kUn (jm st30 rfl) ?_))
   refine kAs rfl (av 0 rfl rfl (Upd.refl _) rfl sizeOf30 ?_)
   refine ar0 1 [2] ?_ rfl ⟨rfl,tv⟩
   obtain rfl:=osj h
   exact bg ⟨rfl,[ap af x9,(az).val p1],⟨yT aa,yBox 0 ty30 aa,tv⟩,aa⟩
  refine ek (fun m e C=>∃x24,fq (fun s=>zk x9 s) m x24=some z2l/\At [(3,Pr.pt b2 0),(7,Pi v7),(12,P6 x24)] [p2,E6 v7 af x9 64] e C) n2 ⟨0,hN2,⟨⟨aa,aa,aa,tv⟩,A9.refl _⟩⟩ ?_
  rintro m e C ⟨x24,hN2,a⟩
  refine W_at a ?_
  obtain⟨m2,w2l,rfl,h2l,hn2,ho2⟩:=bm hN2
  replace h2l:zk x9 x24=some w2l:=h2l
  unfold zk at h2l
  refine a7 (W_rs (kMv rfl (kMv rfl (kUn (aye 1 rfl underlying53) ?_))))
  refine kIn rfl rfl rfl ?_
  refine a6 h2l rfl (fun _ h2l=>?_) (fun _ h2l=>?_)
  ·refine ay (a7 (a5 (W_rs (kMv rfl (kMv rfl ?_)))))
   obtain⟨x27,k,h2l⟩:=ah h2l
   refine kUn (zd 1 (R:=af) (l:=x9) underlying53 sizeOf64 k) ?_
   refine kUn (yw (R:=af) (R':=af) (l:=x9) (a:=x27) (o:=0) 1 ty64 (Sub.refl _) nb k rfl) ?_
   refine c8 h2l (aqk x27) rfl fun x28 _ h2l=>kIn rfl rfl rfl ?_
   refine a6 h2l rfl (fun _ h2l=>?_) (fun _ h2l=>?_)
   ·refine bo (fun e C=>∃x30,ad1 x30=some w2l/\At [(2,Pi (.slice none 0 0)),(3,Pr.pt b2 0)] [D9 b2 az (B4.mk 2 0 x30.From)] e C) ?_ ?_
    ·rintro e C ⟨x30,h2l,a⟩
     refine W_at a ?_
     unfold ad1 at h2l
     obtain rfl:=ho2 _ (ojs h2l)
     replace h:some ([],(B4.mk 2 0 x30.From))=some r:=h
     obtain rfl:=osj h
     exact bg ⟨rfl,[ap af [],(az).val (B4.mk 2 0 x30.From)],⟨yT (el _),yBox 0 ty30 aa,tv⟩,aa⟩
    refine i8 7 hmx kr kr ?_
    refine lUn (hMvA rfl) (lUn (hMvA rfl) ?_)
    obtain⟨x30,k,h2l⟩:=ah h2l
    refine lUn (zd 1 (R:=af) (l:=x9) underlying53 sizeOf64 k) ?_
    refine lUn (avj adb) ?_
    refine lUn (yw (R:=af) (R':=Rp.int .i64) (l:=x9) (a:=x30) (o:=4) 1 ty3 iu nb k rfl) ?_
    refine lUn (jm st30 ⟨(B4.mk 2 0 0),⟨_,rfl,rfl,qbj⟩,⟨(B4.mk 2 0 x30.From),⟨_,rfl,rfl,qbj⟩,rfl⟩⟩) ?_
    refine lUn (hAsA rfl) (av 0 rfl rfl (Upd.refl _) rfl sizeOf30 ?_)
    exact⟨x30,h2l,⟨⟨aa,aa,tv⟩,A9.of [0] rfl⟩⟩
   refine ay (W_r (kMv rfl (kIn rfl rfl rfl (kAs rfl ?_))))
   exact⟨m2,lsu,w64 (x24+1),hn2 _ (ojs h2l),atOk⟩
  refine ej ?_
  obtain rfl:=ho2 _ (ojs h2l)
  exact⟨h,atOk⟩
 refine ah6 [7] af 64 (fun v31=>?_) ⟨rfl,tv⟩
 refine ek (fun m e C=>∃x8,∃x9,∃v7,fq (fun s=>zj x3 s.1 s.2) m (x8,x9)=some z5l/\At [(3,Pr.pt b2 0),(4,ap cg x3),(7,Pi v7),(8,P6 x8)] [p2,E6 v7 af x9 64] e C) n5 ⟨0,[],v31,hN5,⟨⟨aa,aa,aa,aa,tv⟩,A9.refl _⟩⟩ ?_
 rintro m e C ⟨x8,x9,v7,hN5,a⟩
 refine W_at a ?_
 obtain⟨m5,w5l,rfl,h5l,hn5,ho5⟩:=bm hN5
 replace h5l:zj x3 x8 x9=some w5l:=h5l
 unfold zj at h5l
 refine a7 (W_rs (kMvL rfl (kMv rfl ?_)))
 obtain⟨x13,k,h5l⟩:=ah h5l
 refine kUn (fo underlying41 sizeOf45 k) ?_
 refine kUn (jb aod tr) ?_
 refine kUn (cz ty3) ?_
 refine kIn rfl rfl rfl ?_
 refine a6 h5l rfl (fun _ h5l=>?_) (fun _ h5l=>?_)
 ·refine ay (a5 (W_rs (kMvL rfl (kMv rfl ?_))))
  obtain⟨⟨x15,x16,x17⟩,k,h5l⟩:=ah h5l
  refine kUn (dz (aqh x3 x8 _ k)) ?_
  refine kUn (hMv (out:=br [(af).val x15,P6 x16,(aj).val x17]) rfl) (kUn ar ?_)
  refine kUn ar ?_
  refine kUn ar ?_
  refine bw al64 fun b18=>?_
  refine bw al97 fun b19=>av 2 rfl rfl (Upd.refl _) rfl sizeOf64 (kAs rfl (av 3 rfl rfl (Upd.refl _) rfl sizeOf97 (a7 (W_rs (kUn (ak o0) ?_)))))
  refine kUn (au 3 ty3 cn) ?_
  refine kIn rfl rfl rfl ?_
  refine a6 h5l rfl (fun _ h5l=>?_) (fun _ h5l=>?_)
  ·refine W_rs (kMvL rfl (kUn (au 3 ty97 (Sub.refl _)) ?_))
   refine c8 h5l (anb x3 x17) rfl fun x21 _ h5l=>kAs rfl (av 0 rfl rfl (Upd.refl _) rfl sizeOf30 ?_)
   obtain rfl:=ho5 _ (ojs h5l)
   replace h:some ([],x21)=some r:=h
   obtain rfl:=osj h
   exact bg ⟨rfl,[ap af [],(az).val x21],⟨yT (el _),yBox 0 ty30 aa,tv⟩,aa⟩
  refine ay (W_rs (kMv rfl (kUn (au 2 ty64 (Sub.refl _)) ?_)))
  refine kUn (cq (R:=af) (a:=x15) el53 nb) ?_
  obtain⟨x22,k,h5l⟩:=ah h5l
  refine ik 1 el53 k (fun v23=>?_)
  refine kAs rfl (W_r (kMv rfl (kAs rfl ?_)))
  exact⟨m5,lsu,x16,x22,v23,hn5 _ (ojs h5l),⟨⟨aa,aa,aa,aa,tv⟩,A9.of [0,1] rfl⟩⟩
 refine ej ?_
 obtain rfl:=ho5 _ (ojs h5l)
 exact⟨x9,v7,h,atOk⟩
end Go.Proofs.YtcndghapmoaidaaGreatDoor
