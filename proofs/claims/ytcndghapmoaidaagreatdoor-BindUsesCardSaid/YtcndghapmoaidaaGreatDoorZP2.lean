/- The code comes to what these functions say (printed by wip/gen/gen.py). -/
import Derived.Test.YtcndghapmoaidaaGreatDoorZX
import Derived.Test.YtcndghapmoaidaaGreatDoorZP1
import Derived.Test.YtcndghapmoaidaaGreatDoorZT
set_option linter.unusedSimpArgs false
set_option linter.unusedVariables false
set_option linter.unusedSectionVars false
set_option linter.unusedSectionVars false
set_option maxRecDepth 100000
set_option maxHeartbeats 4000000
namespace Go.Proofs.YtcndghapmoaidaaGreatDoor
open Go Go.Cn Tryz
attribute [local irreducible] mq ao
theorem ao9 (x1 x2:List Bt) (r:Bool) (h:aby x1 x2=some r):Fp 133 [ao Rp.str x1,ao Rp.str x2] (Pb r):=by
 refine c8 (rs:=[4]) func133 rfl ntmps133 ⟨by decide,results133⟩ dcd (fun s0=>?_)
 unfold aby at h
 refine W_rs (kAs rfl (a6 (W_rs (kMvL rfl (kUn (jf rfl underlying22) ?_)))))
 refine kMvL rfl (kUn (jf rfl underlying22) ?_)
 refine kIn rfl rfl rfl ?_
 refine a5 h rfl (fun _ h=>?_) (fun _ h=>?_)
 ·refine W_rs (kAs rfl ?_)
  obtain rfl:=osj h
  exact a7 ⟨rfl,aa⟩
 refine au (a6 (W_rs (kAs rfl (az ?_))))
 obtain⟨z2l,hz2,h⟩:=ag h
 obtain⟨n2,hN2⟩:=bm hz2
 refine cp 0 (fun e C=>aei=some r/\At [] [] e C) ?_ ?_
 ·rintro e C ⟨h,a⟩
  refine W_at a ?_
  unfold aei at h
  refine W_rs (kAs rfl ?_)
  obtain rfl:=osj h
  exact a7 ⟨rfl,aa⟩
 refine dq (fun m e C=>∃x4,ez (fun s=>nt x1 x2 s) m x4=some z2l/\At [(0,ao Rp.str x1),(1,ao Rp.str x2),(5,P6 x4)] [] e C) n2 ⟨0,hN2,⟨⟨aa,aa,aa,tv⟩,A8.refl _⟩⟩ ?_
 rintro m e C ⟨x4,hN2,a⟩
 refine W_at a ?_
 obtain⟨m2,w2l,rfl,h2l,hn2,ho2⟩:=bc hN2
 replace h2l:nt x1 x2 x4=some w2l:=h2l
 unfold nt at h2l
 refine a6 (W_rs (kMv rfl (kMvL rfl (kUn (jf rfl underlying22) ?_))))
 refine kIn rfl rfl rfl ?_
 refine a5 h2l rfl (fun _ h2l=>?_) (fun _ h2l=>?_)
 ·refine au (a6 (az ?_))
  refine ba (fun e C=>∃x7,∃x8,zo x4 x7 x8=some w2l/\At [(0,ao Rp.str x1),(1,ao Rp.str x2),(5,P6 x4),(25,Pb (!(x7==x8)))] [] e C) ?_ ?_
  ·rintro e C ⟨x7,x8,h2l,a⟩
   refine W_at a ?_
   unfold zo at h2l
   refine a5 h2l rfl (fun _ h2l=>?_) (fun _ h2l=>?_)
   ·refine W_rs (kAs rfl ?_)
    obtain rfl:=ho2 _ (ojs h2l)
    replace h:some false=some r:=h
    obtain rfl:=osj h
    exact a7 ⟨rfl,aa⟩
   refine au (W_r (kMv rfl (kIn rfl rfl rfl (kAs rfl ?_))))
   exact⟨m2,lsu,w64 (x4+1),hn2 _ (ojs h2l),atOk⟩
  refine jg 9 hmx kr kr ?_
  refine lUn (hMvL rfl) (lUn (hMvA rfl) ?_)
  obtain⟨x7,k,h2l⟩:=ag h2l
  refine lUn (du underlying22 sizeOf9 k) ?_
  refine lUn (bz ty9) ?_
  refine lUn (hMvL rfl) (lUn (hMvA rfl) ?_)
  obtain⟨x8,k,h2l⟩:=ag h2l
  refine lUn (du underlying22 sizeOf9 k) ?_
  refine lUn (bz ty9) ?_
  refine lUn (qStr rfl rfl rfl) ?_
  exact⟨x7,x8,h2l,atOk⟩
 refine dp ?_
 obtain rfl:=ho2 _ (ojs h2l)
 exact⟨h,atOk⟩
theorem apw (x1:List A9) (x2:A9) (r:Int) (h:ad0 x1 x2=some r):Fp 80 [ao ab x1,(ab).val x2] (P6 r):=by
 refine c8 (rs:=[4]) func80 rfl ntmps80 ⟨by decide,results80⟩ dcd (fun s0=>?_)
 unfold ad0 at h
 refine W_rs ?_
 refine rBox (R:=ab) (a:=x2) rfl (fun b3=>?_)
 refine kAs rfl (a6 (W_rs (kUn (aj ol) ?_)))
 refine kUn (ap 0 ty3 db) ?_
 refine kIn rfl rfl rfl ?_
 refine a5 h rfl (fun _ h=>?_) (fun _ h=>?_)
 ·refine W_rs (kMvL rfl (kUn (aj tj) ?_))
  refine kUn (ap 0 ty9 dm) ?_
  obtain⟨⟨x5,x6⟩,k,h⟩:=ag h
  refine kUn (c7 (afv x1 x2.Type_ _ k)) ?_
  refine kUn (hMv (out:=bj [(ab).val x5,Pb x6]) rfl) (kUn al ?_)
  refine kUn al ?_
  refine bg jb fun b7=>am 1 rfl rfl (Upd.refl _) rfl sizeOf49 (kAs rfl (W_rs (kMvL rfl (kUn (aj tj) ?_))))
  refine kUn (ap 0 ty9 dm) ?_
  refine kUn (aj ll) ?_
  refine kUn (ap 0 ty9 dw) ?_
  refine cr h (ap0 x1 x2.Type_ x2.Id) rfl fun x8 _ h=>kAs rfl (a6 ?_)
  refine ba (fun e C=>∃x11,sy x11=some r/\At [(39,Pb x11)] [D8 b3 ab x2,D8 b7 ab x5] e C) ?_ ?_
  ·rintro e C ⟨x11,h,a⟩
   refine W_at a ?_
   unfold sy at h
   refine a5 h rfl (fun _ h=>?_) (fun _ h=>?_)
   ·refine W_rs (kAs rfl ?_)
    obtain rfl:=osj h
    exact a7 ⟨rfl,aa⟩
   refine au (W_rs (kAs rfl ?_))
   obtain rfl:=osj h
   exact a7 ⟨rfl,aa⟩
  refine W_r (kUn (aj tj) ?_)
  refine kUn (ap 0 ty9 dm) ?_
  refine kSt rfl rfl rfl (kMv rfl ?_)
  rcases bn h with⟨hc9,h⟩|⟨hc9,h⟩
  ·refine kGd rfl aa hc9 (hMvA rfl) (kGd rfl aa hc9 (qNot rfl) (kGd rfl aa hc9 (hMvA rfl) ?_))
   rcases bn h with⟨hc10,h⟩|⟨hc10,h⟩
   ·refine kSkF rfl aa hc10 (kGd rfl aa hc9 (hPt rfl hc10 rfl) (kPt rfl hc9 rfl ?_))
    exact⟨true,h,atOk⟩
   refine kGd rfl aa hc10 (hMvA rfl) (kGd rfl aa hc9 (hPf rfl hc10 rfl) (kPt rfl hc9 rfl ?_))
   exact⟨x8,h,atOk⟩
  refine skx ?_
  refine kPf rfl hc9 rfl ?_
  exact⟨false,h,atOk⟩
 refine au (W_rs (kMvL rfl (kUn (aj aid) ?_)))
 refine kUn (ap 0 ty9 km) ?_
 obtain⟨⟨x13,x14⟩,k,h⟩:=ag h
 refine kUn (c7 (afv x1 x2.Owner _ k)) ?_
 refine kUn (hMv (out:=bj [(ab).val x13,Pb x14]) rfl) (kUn al ?_)
 refine kUn al ?_
 refine bg jb fun b15=>am 1 rfl rfl (Upd.refl _) rfl sizeOf49 (kAs rfl (a6 (W_rs (kMv rfl (kNo rfl ?_)))))
 refine a5 h rfl (fun _ h=>?_) (fun _ h=>?_)
 ·refine W_rs (kAs rfl ?_)
  obtain rfl:=osj h
  exact a7 ⟨rfl,aa⟩
 refine au ?_
 refine ba (fun e C=>sx=some r/\At [] [D8 b3 ab x2,D8 b15 ab x13] e C) ?_ ?_
 ·rintro e C ⟨h,a⟩
  refine W_at a ?_
  unfold sx at h
  refine W_rs (kAs rfl ?_)
  obtain rfl:=osj h
  exact a7 ⟨rfl,aa⟩
 refine W_rs (kUn (aj ol) ?_)
 refine kUn (ap 0 ty3 db) ?_
 refine az (W_rs (kIn rfl rfl rfl (kAs rfl ?_)))
 refine a5 h rfl (fun _ h=>?_) (fun _ h=>?_)
 ·refine W_rs (kMvL rfl (kUn (aj tj) ?_))
  refine kUn (ap 1 ty9 dm) ?_
  refine kUn (aj aaf) ?_
  refine kUn (ap 0 ty9 f0) ?_
  obtain⟨⟨x18,x19⟩,k,h⟩:=ag h
  refine kUn (c7 (yu x1 2 x13.Type_ x2.Name _ k)) ?_
  refine kUn (hMv (out:=bj [(ab).val x18,Pb x19]) rfl) (kUn al ?_)
  refine kUn al ?_
  refine bg jb fun b20=>am 2 rfl rfl (Upd.refl _) rfl sizeOf49 (kAs rfl (W_rs (kMv rfl ?_)))
  refine a5 h rfl (fun _ h=>?_) (fun _ h=>?_)
  ·refine W_rs (kAs rfl ?_)
   obtain rfl:=osj h
   exact a7 ⟨rfl,aa⟩
  refine au ?_
  exact⟨h,⟨trivial,A8.of [0,1] rfl⟩⟩
 refine W_rs (kIn rfl rfl rfl (kAs rfl ?_))
 refine a5 h rfl (fun _ h=>?_) (fun _ h=>?_)
 ·refine W_rs (kMvL rfl (kUn (aj tj) ?_))
  refine kUn (ap 1 ty9 dm) ?_
  refine kUn (aj aaf) ?_
  refine kUn (ap 0 ty9 f0) ?_
  obtain⟨⟨x23,x24⟩,k,h⟩:=ag h
  refine kUn (c7 (yu x1 3 x13.Type_ x2.Name _ k)) ?_
  refine kUn (hMv (out:=bj [(ab).val x23,Pb x24]) rfl) (kUn al ?_)
  refine kUn al ?_
  refine bg jb fun b25=>am 2 rfl rfl (Upd.refl _) rfl sizeOf49 (kAs rfl ?_)
  refine ba (fun e C=>∃x32,pz x32=some r/\At [(96,Pb x32)] [D8 b3 ab x2,D8 b15 ab x13,D8 b25 ab x23] e C) ?_ ?_
  ·rintro e C ⟨x32,h,a⟩
   refine W_at a ?_
   unfold pz at h
   refine a5 h rfl (fun _ h=>?_) (fun _ h=>?_)
   ·refine W_rs (kAs rfl ?_)
    obtain rfl:=osj h
    exact a7 ⟨rfl,aa⟩
   refine au ?_
   exact⟨h,⟨trivial,A8.of [0,1] rfl⟩⟩
  refine W_r (kMv rfl (kMv rfl ?_))
  rcases bn h with⟨hc26,h⟩|⟨hc26,h⟩
  ·refine kGd rfl aa hc26 (aj tj) ?_
   refine kGd rfl aa hc26 (ap 2 ty9 dm) ?_
   refine kGd rfl aa hc26 (aj tj) ?_
   refine kGd rfl aa hc26 (ap 0 ty9 dm) ?_
   refine kGd rfl aa hc26 (qStr rfl rfl rfl) (kGd rfl aa hc26 (hMvA rfl) ?_)
   rcases bn h with⟨hc27,h⟩|⟨hc27,h⟩
   ·refine skx ?_
    refine kGd rfl aa hc26 (hPt rfl hc27 rfl) (kGd rfl aa hc26 (hMvA rfl) ?_)
    have hc30:true=true:=rfl
    refine skx ?_
    refine kGd rfl aa hc26 (hPt rfl hc30 rfl) (kPt rfl hc26 rfl ?_)
    exact⟨true,h,atOk⟩
   refine kGd rfl aa hc27 (aj aic) ?_
   refine kGd rfl aa hc27 (ap 2 ty4 ix) ?_
   refine kGd rfl aa hc27 (aj aic) ?_
   refine kGd rfl aa hc27 (ap 0 ty4 ix) ?_
   refine kGd rfl aa hc27 (qBoolNe underlying4) ?_
   refine kGd rfl aa hc26 (hPf rfl hc27 rfl) (kGd rfl aa hc26 (hMvA rfl) ?_)
   rcases bn h with⟨hc28,h⟩|⟨hc28,h⟩
   ·refine skx ?_
    refine kGd rfl aa hc26 (hPt rfl hc28 rfl) (kPt rfl hc26 rfl ?_)
    exact⟨true,h,atOk⟩
   refine kGd rfl aa hc28 (aj aib) ?_
   refine kGd rfl aa hc28 (ap 2 ty22 r7) ?_
   refine kGd rfl aa hc28 (aj aib) ?_
   refine kGd rfl aa hc28 (ap 0 ty22 r7) ?_
   obtain⟨x29,k,h⟩:=ag h
   refine kGd rfl aa hc28 (c7 (ao9 x23.Params x2.Params _ k)) ?_
   refine kGd rfl aa hc28 (qNot rfl) (kGd rfl aa hc26 (hPf rfl hc28 rfl) (kPt rfl hc26 rfl ?_))
   exact⟨!x29,h,atOk⟩
  refine skx ?_
  refine kPf rfl hc26 rfl ?_
  exact⟨false,h,atOk⟩
 refine au ?_
 exact⟨h,atOk⟩
theorem apy (x1:List A9) (r:B3) (h:ad1 x1=some r):Fp 42 [ao ab x1] ((ay).val r):=by
 refine c9 (rs:=[.cell 2 30]) func42 rfl ntmps42 results42 dcd (fun s0=>?_)
 unfold ad1 at h
 refine W_rs (bg al30 fun b2=>a6 (W_rs (kAs rfl (az ?_))))
 obtain⟨z2l,hz2,h⟩:=ag h
 obtain⟨n2,hN2⟩:=bm hz2
 refine cp 0 (fun e C=>afx=some r/\At [(2,Pr.pt b2 0)] [D8 b2 ay (B3.mk 0 0 0)] e C) ?_ ?_
 ·rintro e C ⟨h,a⟩
  refine W_at a ?_
  unfold afx at h
  refine W_rs (kUn (fk st30 rfl) ?_)
  refine am 0 rfl rfl (Upd.refl _) rfl sizeOf30 ?_
  obtain rfl:=osj h
  exact a7 ⟨rfl,[(ay).val (B3.mk 0 0 0)],⟨yBox 0 ty30 aa,tv⟩,aa⟩
 refine dq (fun m e C=>∃x3,ez (fun s=>qb x1 s) m x3=some z2l/\At [(0,ao ab x1),(2,Pr.pt b2 0),(3,P6 x3)] [D8 b2 ay (B3.mk 0 0 0)] e C) n2 ⟨0,hN2,⟨⟨aa,aa,aa,tv⟩,A8.refl _⟩⟩ ?_
 rintro m e C ⟨x3,hN2,a⟩
 refine W_at a ?_
 obtain⟨m2,w2l,rfl,h2l,hn2,ho2⟩:=bc hN2
 replace h2l:qb x1 x3=some w2l:=h2l
 unfold qb at h2l
 refine a6 (W_rs (kMv rfl (kMvL rfl (kUn (jf rfl underlying38) ?_))))
 refine kIn rfl rfl rfl ?_
 refine a5 h2l rfl (fun _ h2l=>?_) (fun _ h2l=>?_)
 ·refine au (a6 (az (W_rs (kMvL rfl (kMvL rfl (kMv rfl ?_))))))
  obtain⟨x6,k,h2l⟩:=ag h2l
  refine kUn (du underlying38 sizeOf49 k) ?_
  refine kUn (bz ty49) ?_
  refine cr h2l (apw x1 x6) rfl fun x7 _ h2l=>kAs rfl (W_rs (kMv rfl (kIn rfl rfl rfl ?_)))
  refine a5 h2l rfl (fun _ h2l=>?_) (fun _ h2l=>?_)
  ·refine ba (fun e C=>∃x9,∃x10,aay x7 x9 x10=some w2l/\At [(2,Pr.pt b2 0)] [D8 b2 ay (B3.mk x7 x9.File x10.At)] e C) ?_ ?_
   ·rintro e C ⟨x9,x10,h2l,a⟩
    refine W_at a ?_
    unfold aay at h2l
    obtain rfl:=ho2 _ (ojs h2l)
    replace h:some (B3.mk x7 x9.File x10.At)=some r:=h
    obtain rfl:=osj h
    exact a7 ⟨rfl,[(ay).val (B3.mk x7 x9.File x10.At)],⟨yBox 0 ty30 aa,tv⟩,aa⟩
   refine jg 12 hmx kr kr ?_
   refine lUn (hMvA rfl) (lUn (hMvL rfl) (lUn (hMvA rfl) ?_))
   obtain⟨x9,k,h2l⟩:=ag h2l
   refine lUn (du underlying38 sizeOf49 k) ?_
   refine lUn (dv amb vl) ?_
   refine lUn (bz ty3) ?_
   refine lUn (hMvL rfl) (lUn (hMvA rfl) ?_)
   obtain⟨x10,k,h2l⟩:=ag h2l
   refine lUn (du underlying38 sizeOf49 k) ?_
   refine lUn (dv arv zn) ?_
   refine lUn (bz ty3) ?_
   refine lUn (fk st30 ⟨(B3.mk x7 0 0),⟨_,rfl,rfl,qbj⟩,⟨(B3.mk x7 x9.File 0),⟨_,rfl,rfl,qbj⟩,⟨(B3.mk x7 x9.File x10.At),⟨_,rfl,rfl,qbj⟩,rfl⟩⟩⟩) ?_
   refine am 0 rfl rfl (Upd.refl _) rfl sizeOf30 ?_
   exact⟨x9,x10,h2l,atOk⟩
  refine au (W_r (kMv rfl (kIn rfl rfl rfl (kAs rfl ?_))))
  exact⟨m2,lsu,w64 (x3+1),hn2 _ (ojs h2l),atOk⟩
 refine dp ?_
 obtain rfl:=ho2 _ (ojs h2l)
 exact⟨h,atOk⟩
theorem o5 (x1:C7) (v2:Value) (r:Bool) (h:jp x1=some r):Fc 44 [(ai).val (D3.mk v2 x1.M x1.File x1.Method x1.Many)] [E1 v2 ak x1.L 47] (fun q C'=>q=Pb r/\C'=[E1 v2 ak x1.L 47]):=by
 refine gz (rs:=[2]) func44 rfl ntmps44 ⟨by decide,results44⟩ dcd (fun s0=>?_)
 unfold jp at h
 refine W_rs ?_
 refine rBox (R:=ai) (a:=(D3.mk v2 x1.M x1.File x1.Method x1.Many)) rfl (fun b3=>?_)
 refine kAs rfl (W_rs (kUn (aj au6) ?_))
 refine kUn (aj aj5) ?_
 refine kUn (ap 1 ty28 (afh.trans kl nb)) ?_
 refine kIn rfl rfl rfl (kAs rfl ?_)
 obtain rfl:=osj h
 exact a7 ⟨.inl rfl,_,A8.of [0] rfl,_,(aa),rfl,rfl⟩
theorem xb (x1:List A9) (x2:Bt) (r:A9 × Bool) (h:na x1 x2=some r):Fp 61 [ao ab x1,Pr.str x2] (bj [(ab).val r.1,Pb r.2]):=by
 refine c9 (rs:=[.cell 4 49,.tmp 5]) func61 rfl ntmps61 results61 dcd (fun s0=>?_)
 let p1:=A9.mk 0 [] [] [] [] false [] 0 0
 unfold na at h
 refine W_rs (bg jb fun b3=>kAs rfl (a6 (W_rs (kAs rfl (az ?_)))))
 obtain⟨z2l,hz2,h⟩:=ag h
 obtain⟨n2,hN2⟩:=bm hz2
 refine cp 0 (fun e C=>acm=some r/\At [(4,Pr.pt b3 0)] [D8 b3 ab p1] e C) ?_ ?_
 ·rintro e C ⟨h,a⟩
  refine W_at a ?_
  unfold acm at h
  refine W_rs (kUn (fk st49 rfl) ?_)
  refine am 0 rfl rfl (Upd.refl _) rfl sizeOf49 (kAs rfl ?_)
  obtain rfl:=osj h
  exact a7 ⟨rfl,[(ab).val p1,Pb false],⟨yBox 0 ty49 aa,yT aa,tv⟩,aa⟩
 refine dq (fun m e C=>∃x4,ez (fun s=>mj x1 x2 s) m x4=some z2l/\At [(0,ao ab x1),(1,Pr.str x2),(4,Pr.pt b3 0),(6,P6 x4)] [D8 b3 ab p1] e C) n2 ⟨0,hN2,⟨⟨aa,aa,aa,aa,tv⟩,A8.refl _⟩⟩ ?_
 rintro m e C ⟨x4,hN2,a⟩
 refine W_at a ?_
 obtain⟨m2,w2l,rfl,h2l,hn2,ho2⟩:=bc hN2
 replace h2l:mj x1 x2 x4=some w2l:=h2l
 unfold mj at h2l
 refine a6 (W_rs (kMv rfl (kMvL rfl (kUn (jf rfl underlying38) ?_))))
 refine kIn rfl rfl rfl ?_
 refine a5 h2l rfl (fun _ h2l=>?_) (fun _ h2l=>?_)
 ·refine au (a6 (az ?_))
  refine ba (fun e C=>∃x10,sg x1 x4 x10=some w2l/\At [(0,ao ab x1),(1,Pr.str x2),(4,Pr.pt b3 0),(6,P6 x4),(27,Pb x10)] [D8 b3 ab p1] e C) ?_ ?_
  ·rintro e C ⟨x10,h2l,a⟩
   refine W_at a ?_
   unfold sg at h2l
   refine a5 h2l rfl (fun _ h2l=>?_) (fun _ h2l=>?_)
   ·refine W_rs (kMvL rfl (kMv rfl ?_))
    obtain⟨x12,k,h2l⟩:=ag h2l
    refine kUn (du underlying38 sizeOf49 k) ?_
    refine kUn (bz ty49) ?_
    refine am 0 rfl rfl (Upd.refl _) rfl sizeOf49 (kAs rfl ?_)
    obtain rfl:=ho2 _ (ojs h2l)
    replace h:some (x12,true)=some r:=h
    obtain rfl:=osj h
    exact a7 ⟨rfl,[(ab).val x12,Pb true],⟨yBox 0 ty49 aa,yT aa,tv⟩,aa⟩
   refine au (W_r (kMv rfl (kIn rfl rfl rfl (kAs rfl ?_))))
   exact⟨m2,lsu,w64 (x4+1),hn2 _ (ojs h2l),atOk⟩
  refine W_r (kMvL rfl (kMv rfl ?_))
  obtain⟨x7,k,h2l⟩:=ag h2l
  refine kUn (du underlying38 sizeOf49 k) ?_
  refine kUn (dv ol db) ?_
  refine kUn (bz ty3) ?_
  refine kIn rfl rfl rfl (kMv rfl ?_)
  rcases bn h2l with⟨hc8,h2l⟩|⟨hc8,h2l⟩
  ·refine kGd rfl aa hc8 (hMvL rfl) (kGd rfl aa hc8 (hMvA rfl) ?_)
   obtain⟨x9,k,h2l⟩:=ag h2l
   refine kGd rfl aa hc8 (du underlying38 sizeOf49 k) ?_
   refine kGd rfl aa hc8 (dv ll dw) ?_
   refine kGd rfl aa hc8 (bz ty9) ?_
   refine kGd rfl aa hc8 (hMvA rfl) (kGd rfl aa hc8 (qStr rfl rfl rfl) (kPt rfl hc8 rfl ?_))
   exact⟨x9.Id==x2,h2l,atOk⟩
  refine skx ?_
  refine kPf rfl hc8 rfl ?_
  exact⟨false,h2l,atOk⟩
 refine dp ?_
 obtain rfl:=ho2 _ (ojs h2l)
 exact⟨h,atOk⟩
theorem yg (x1 x2:Int) (x3:C7) (v4:Value) (r:C7) (h:sf x1 x2 x3=some r):Fc 134 [(ai).val (D3.mk v4 x3.M x3.File x3.Method x3.Many),P6 x1,P6 x2] [E1 v4 ak x3.L 47] (fun q C'=>∃u0,q=(ai).val (D3.mk u0 r.M r.File r.Method r.Many)/\C'=[E1 u0 ak r.L 47]):=by
 refine aaj (rs:=[.cell 6 83]) func134 rfl ntmps134 results134 dcd (fun s0=>?_)
 let p1:=D3.mk v4 (B3.mk x1 x3.File x2) x3.File x3.Method x3.Many
 unfold sf at h
 refine W_rs ?_
 refine rBox (R:=ai) (a:=(D3.mk v4 x3.M x3.File x3.Method x3.Many)) rfl (fun b5=>?_)
 refine bg al83 fun b6=>W_rs (kMv rfl (kUn (aj arq) ?_))
 refine kUn (ap 1 ty3 vb) ?_
 refine kMv rfl (kUn (fk st30 ⟨(B3.mk x1 0 0),⟨_,rfl,rfl,qbj⟩,⟨(B3.mk x1 x3.File 0),⟨_,rfl,rfl,qbj⟩,⟨(B3.mk x1 x3.File x2),⟨_,rfl,rfl,qbj⟩,rfl⟩⟩⟩) ?_)
 refine kUn (aj au6) ?_
 refine am 1 rfl rfl ak8 rfl sizeOf30 ?_
 refine rCtx [E1 v4 ak x3.L 47,D8 b5 ai p1,D8 b6 ai (D3.mk (.slice none 0 0) (B3.mk 0 0 0) 0 [] 0)] ?_
 refine W_rs (kUn (ap 1 ty83 (Sub.refl _)) ?_)
 refine am 2 rfl rfl (Upd.refl _) rfl sizeOf83 ?_
 obtain rfl:=osj h
 exact a7 ⟨.inl rfl,[(ai).val p1],⟨yBox 2 ty83 aa,tv⟩,_,A8.of [0] rfl,v4,rfl,rfl⟩
theorem l8 (x1:Int) (x2:Bt) (x3:C7) (v4:Value) (r:C7) (h:iu x1 x2 x3=some r):Fc 135 [(ai).val (D3.mk v4 x3.M x3.File x3.Method x3.Many),P6 x1,Pr.str x2] [E1 v4 ak x3.L 47] (fun q C'=>∃u0,q=(ai).val (D3.mk u0 r.M r.File r.Method r.Many)/\C'=[E1 u0 ak r.L 47]):=by
 refine aaj (rs:=[.cell 6 83]) func135 rfl ntmps135 results135 dcd (fun s0=>?_)
 let p1:=D3.mk v4 x3.M x3.File x3.Method x3.Many
 unfold iu at h
 refine W_rs ?_
 refine rBox (R:=ai) (a:=p1) rfl (fun b5=>?_)
 refine bg al83 fun b6=>W_rs (kUn (aj au7) ?_)
 refine kUn (w8 (R:=ai) (a:=p1) 1 ty27 afi) ?_
 refine kUn (aj arq) ?_
 refine kUn (ap 1 ty3 vb) ?_
 refine kMv rfl (kMv rfl (kUn (fk st47 ⟨(B7.mk x3.File 0 []),⟨_,rfl,rfl,qbj⟩,⟨(B7.mk x3.File x1 []),⟨_,rfl,rfl,qbj⟩,⟨(B7.mk x3.File x1 x2),⟨_,rfl,rfl,qbj⟩,rfl⟩⟩⟩) ?_))
 refine kUn (cm (R:=ak) (a:=(B7.mk x3.File x1 x2)) el27 nb) ?_
 obtain⟨x7,k,h⟩:=ag h
 refine fp 0 el27 k (fun v8=>?_)
 refine kUn (aj au7) ?_
 refine agq (R:=ai) (a:=p1) 1 0 sizeOf27 ak9 ?_
 refine rCtx [E1 v8 ak x7 47,D8 b5 ai (D3.mk v8 x3.M x3.File x3.Method x3.Many),D8 b6 ai (D3.mk (.slice none 0 0) (B3.mk 0 0 0) 0 [] 0)] ?_
 refine W_rs (kUn (ap 1 ty83 (Sub.refl _)) ?_)
 refine am 2 rfl rfl (Upd.refl _) rfl sizeOf83 ?_
 obtain rfl:=osj h
 exact a7 ⟨.inl rfl,[(ai).val (D3.mk v8 x3.M x3.File x3.Method x3.Many)],⟨yBox 2 ty83 aa,tv⟩,_,A8.of [0] rfl,v8,rfl,rfl⟩
theorem asr (x1:C8) (x2:B5) (x3:C7) (v4:Value) (r:C7) (h:agv x1 x2 x3=some r):Fc 81 [(aw).val x1,(af).val x2,(ai).val (D3.mk v4 x3.M x3.File x3.Method x3.Many)] [E1 v4 ak x3.L 47] (fun q C'=>∃u0,q=(ai).val (D3.mk u0 r.M r.File r.Method r.Many)/\C'=[E1 u0 ak r.L 47]):=by
 refine aaj (rs:=[.cell 6 83]) func81 rfl ntmps81 results81 dcd (fun s0=>?_)
 let p1:=D3.mk v4 x3.M x3.File x3.Method x3.Many
 let p2:=D3.mk (.slice none 0 0) (B3.mk 0 0 0) 0 [] 0
 unfold agv at h
 refine W_rs ?_
 refine rBox (R:=aw) (a:=x1) rfl (fun b5=>?_)
 refine rBox (R:=af) (a:=x2) rfl (fun b6=>?_)
 refine rBox (R:=ai) (a:=p1) rfl (fun b7=>?_)
 refine bg al83 fun b8=>a6 ?_
 refine ba (fun e C=>∃x16,ox x3 x1 x2 x16=some r/\At [(2,(ai).val p1),(3,Pr.pt b5 0),(4,Pr.pt b6 0),(5,Pr.pt b7 0),(6,Pr.pt b8 0),(26,Pb x16)] [E1 v4 ak x3.L 47,D8 b5 aw x1,D8 b6 af x2,D8 b7 ai p1,D8 b8 ai p2] e C) ?_ ?_
 ·rintro e C ⟨x16,h,a⟩
  refine W_at a ?_
  unfold ox at h
  refine a5 h rfl (fun _ h=>?_) (fun _ h=>?_)
  ·refine W_rs (kUn (ap 3 ty83 (Sub.refl _)) ?_)
   refine am 4 rfl rfl (Upd.refl _) rfl sizeOf83 ?_
   obtain rfl:=osj h
   exact a7 ⟨.inl rfl,[(ai).val p1],⟨yBox 4 ty83 aa,tv⟩,_,A8.of [0] rfl,v4,rfl,rfl⟩
  refine au (W_rs (kUn (aj ah8) ?_))
  refine kUn (ap 1 ty38 iw) ?_
  refine kUn (aj ti) ?_
  refine kUn (ap 2 ty9 fj) ?_
  obtain⟨⟨x18,x19⟩,k,h⟩:=ag h
  refine kUn (c7 (xb x1.Table x2.Type_ _ k)) ?_
  refine kUn (hMv (out:=bj [(ab).val x18,Pb x19]) rfl) (kUn al ?_)
  refine kUn al ?_
  refine bg jb fun b20=>am 5 rfl rfl (Upd.refl _) rfl sizeOf49 (kAs rfl (a6 (W_rs (kMv rfl (kNo rfl ?_)))))
  refine a5 h rfl (fun _ h=>?_) (fun _ h=>?_)
  ·refine W_rs (kUn (ap 3 ty83 (Sub.refl _)) ?_)
   refine kUn (aj ah9) ?_
   refine kUn (ap 2 ty3 nl) ?_
   obtain⟨x22,k,h⟩:=ag h
   refine gu [0] (yg 170 x2.TypeAt x3 v4 _ k) (fun q C' hq=>?_)
   obtain⟨v23,rfl,rfl⟩:=hq
   refine rCtx [E1 v23 ak x22.L 47,D8 b5 aw x1,D8 b6 af x2,D8 b7 ai p1,D8 b8 ai p2,D8 b20 ab x18] ?_
   refine am 4 rfl rfl (Upd.refl _) rfl sizeOf83 ?_
   obtain rfl:=osj h
   exact a7 ⟨.inl rfl,[(ai).val (D3.mk v23 x22.M x22.File x22.Method x22.Many)],⟨yBox 4 ty83 aa,tv⟩,_,A8.of [0] rfl,v23,rfl,rfl⟩
  refine au (W_rs (kUn (ap 3 ty83 (Sub.refl _)) ?_))
  refine kUn (aj ah9) ?_
  refine kUn (ap 2 ty3 nl) ?_
  refine kUn (aj ll) ?_
  refine kUn (ap 5 ty9 dw) ?_
  obtain⟨x24,k,h⟩:=ag h
  refine gu [0] (l8 x2.TypeAt x18.Id x3 v4 _ k) (fun q C' hq=>?_)
  obtain⟨v25,rfl,rfl⟩:=hq
  refine rCtx [E1 v25 ak x24.L 47,D8 b5 aw x1,D8 b6 af x2,D8 b7 ai p1,D8 b8 ai p2,D8 b20 ab x18] ?_
  refine am 4 rfl rfl (Upd.refl _) rfl sizeOf83 ?_
  obtain rfl:=osj h
  exact a7 ⟨.inl rfl,[(ai).val (D3.mk v25 x24.M x24.File x24.Method x24.Many)],⟨yBox 4 ty83 aa,tv⟩,_,A8.of [0] rfl,v25,rfl,rfl⟩
 refine W_r (kUn (aj ah9) ?_)
 refine kUn (ap 2 ty3 nl) ?_
 refine kIn rfl rfl rfl (kMv rfl ?_)
 rcases bn h with⟨hc9,h⟩|⟨hc9,h⟩
 ·refine skx ?_
  refine kPt rfl hc9 rfl (kMv rfl ?_)
  have hc13:true=true:=rfl
  refine skx ?_
  refine kPt rfl hc13 rfl (kMv rfl ?_)
  have hc15:true=true:=rfl
  refine skx ?_
  refine kPt rfl hc15 rfl ?_
  exact⟨true,h,atOk⟩
 refine kGd rfl aa hc9 (aj ti) ?_
 refine kGd rfl aa hc9 (ap 2 ty9 fj) ?_
 refine kGd rfl aa hc9 (qStr rfl rfl rfl) (kPf rfl hc9 rfl (kMv rfl ?_))
 rcases bn h with⟨hc10,h⟩|⟨hc10,h⟩
 ·refine skx ?_
  refine kPt rfl hc10 rfl (kMv rfl ?_)
  have hc12:true=true:=rfl
  refine skx ?_
  refine kPt rfl hc12 rfl ?_
  exact⟨true,h,atOk⟩
 refine kGd rfl aa hc10 (aj ti) ?_
 refine kGd rfl aa hc10 (ap 2 ty9 fj) ?_
 refine kGd rfl aa hc10 (qStr rfl rfl rfl) (kPf rfl hc10 rfl (kMv rfl ?_))
 rcases bn h with⟨hc11,h⟩|⟨hc11,h⟩
 ·refine skx ?_
  refine kPt rfl hc11 rfl ?_
  exact⟨true,h,atOk⟩
 refine kGd rfl aa hc11 (aj ti) ?_
 refine kGd rfl aa hc11 (ap 2 ty9 fj) ?_
 refine kGd rfl aa hc11 (qStr rfl rfl rfl) (kPf rfl hc11 rfl ?_)
 exact⟨x2.Type_==([118,111,105,100]:Bt),h,atOk⟩
theorem acg (x1:C8) (x2:Bt) (r:A9 × Int) (h:l9 x1 x2=some r):Fp 165 [(aw).val x1,Pr.str x2] (bj [(ab).val r.1,P6 r.2]):=by
 refine c9 (rs:=[.cell 4 49,.tmp 5]) func165 rfl ntmps165 results165 dcd (fun s0=>?_)
 let p1:=A9.mk 0 [] [] [] [] false [] 0 0
 unfold l9 at h
 refine W_rs ?_
 refine rBox (R:=aw) (a:=x1) rfl (fun b3=>?_)
 refine bg jb fun b4=>kAs rfl (a6 (W_rs (kUn (aj an2) ?_)))
 refine kUn (ap 0 ty38 tm) ?_
 refine kUn (jf rfl underlying38) ?_
 refine kIn rfl rfl rfl (kAs rfl (az ?_))
 obtain⟨z3l,hz3,h⟩:=ag h
 obtain⟨n3,hN3⟩:=bm hz3
 refine cp 0 (fun e C=>pj x1 x2=some r/\At [(1,Pr.str x2),(2,Pr.pt b3 0),(4,Pr.pt b4 0)] [D8 b3 aw x1,D8 b4 ab p1] e C) ?_ ?_
 ·rintro e C ⟨h,a⟩
  refine W_at a ?_
  unfold pj at h
  refine W_rs (kUn (aj ah8) ?_)
  refine kUn (ap 0 ty38 iw) ?_
  refine kUn (aj al8) ?_
  refine kUn (ap 0 ty9 lb) ?_
  refine kMv rfl ?_
  obtain⟨⟨x11,x12⟩,k,h⟩:=ag h
  refine kUn (c7 (yu x1.Table 2 x1.Class x2 _ k)) ?_
  refine kUn (hMv (out:=bj [(ab).val x11,Pb x12]) rfl) (kUn al ?_)
  refine kUn al ?_
  refine bg jb fun b13=>am 2 rfl rfl (Upd.refl _) rfl sizeOf49 (kAs rfl (a6 (W_rs (kMv rfl ?_))))
  refine a5 h rfl (fun _ h=>?_) (fun _ h=>?_)
  ·refine a6 ?_
   refine ba (fun e C=>∃x16,lr x11 x16=some r/\At [(4,Pr.pt b4 0),(7,Pr.pt b13 0),(48,Pb x16)] [D8 b3 aw x1,D8 b4 ab p1,D8 b13 ab x11] e C) ?_ ?_
   ·rintro e C ⟨x16,h,a⟩
    refine W_at a ?_
    unfold lr at h
    refine a5 h rfl (fun _ h=>?_) (fun _ h=>?_)
    ·refine W_rs (kUn (fk st49 rfl) ?_)
     refine am 1 rfl rfl (Upd.refl _) rfl sizeOf49 (kAs rfl ?_)
     obtain rfl:=osj h
     exact a7 ⟨rfl,[(ab).val p1,P6 171],⟨yBox 1 ty49 aa,yT aa,tv⟩,aa⟩
    refine au (W_rs (kUn (ap 2 ty49 (Sub.refl _)) ?_))
    refine am 1 rfl rfl (Upd.refl _) rfl sizeOf49 (kAs rfl ?_)
    obtain rfl:=osj h
    exact a7 ⟨rfl,[(ab).val x11,P6 0],⟨yBox 1 ty49 aa,yT aa,tv⟩,aa⟩
   refine W_r (kUn (aj an3) ?_)
   refine kUn (ap 0 ty4 qu) ?_
   refine kMv rfl ?_
   rcases bn h with⟨hc15,h⟩|⟨hc15,h⟩
   ·refine kGd rfl aa hc15 (aj aic) ?_
    refine kGd rfl aa hc15 (ap 2 ty4 ix) ?_
    refine kGd rfl aa hc15 (qNot rfl) (kPt rfl hc15 rfl ?_)
    exact⟨!x11.Static,h,atOk⟩
   refine skx ?_
   refine kPf rfl hc15 rfl ?_
   exact⟨false,h,atOk⟩
  refine au (W_rs (kUn (aj ah8) ?_))
  refine kUn (ap 0 ty38 iw) ?_
  refine kMv rfl ?_
  obtain⟨⟨x18,x19⟩,k,h⟩:=ag h
  refine kUn (c7 (xb x1.Table x2 _ k)) ?_
  refine kUn (hMv (out:=bj [(ab).val x18,Pb x19]) rfl) (kUn al ?_)
  refine kUn al ?_
  refine bg jb fun b20=>am 3 rfl rfl (Upd.refl _) rfl sizeOf49 (kAs rfl (a6 (W_rs (kMv rfl ?_))))
  refine a5 h rfl (fun _ h=>?_) (fun _ h=>?_)
  ·refine W_rs (kUn (ap 3 ty49 (Sub.refl _)) ?_)
   refine am 1 rfl rfl (Upd.refl _) rfl sizeOf49 (kAs rfl ?_)
   obtain rfl:=osj h
   exact a7 ⟨rfl,[(ab).val x18,P6 0],⟨yBox 1 ty49 aa,yT aa,tv⟩,aa⟩
  refine au (W_rs (kUn (fk st49 rfl) ?_))
  refine am 1 rfl rfl (Upd.refl _) rfl sizeOf49 (kAs rfl ?_)
  obtain rfl:=osj h
  exact a7 ⟨rfl,[(ab).val p1,P6 170],⟨yBox 1 ty49 aa,yT aa,tv⟩,aa⟩
 refine dq (fun m e C=>∃x5,ez (fun s=>i5 x1 x2 s) m x5=some z3l/\At [(1,Pr.str x2),(2,Pr.pt b3 0),(4,Pr.pt b4 0),(6,P6 x5)] [D8 b3 aw x1,D8 b4 ab p1] e C) n3 ⟨w64 ((x1.Seen.length:Int) - 1),hN3,⟨⟨aa,aa,aa,aa,tv⟩,A8.refl _⟩⟩ ?_
 rintro m e C ⟨x5,hN3,a⟩
 refine W_at a ?_
 obtain⟨m3,w3l,rfl,h3l,hn3,ho3⟩:=bc hN3
 replace h3l:i5 x1 x2 x5=some w3l:=h3l
 unfold i5 at h3l
 refine a6 (W_rs (kMv rfl (kIn rfl rfl rfl ?_)))
 refine a5 h3l rfl (fun _ h3l=>?_) (fun _ h3l=>?_)
 ·refine au (a6 (az (W_rs (kUn (aj an2) ?_))))
  refine kUn (ap 0 ty38 tm) ?_
  refine kMv rfl ?_
  obtain⟨x8,k,h3l⟩:=ag h3l
  refine kUn (du underlying38 sizeOf49 k) ?_
  refine kUn (dv aaf f0) ?_
  refine kUn (bz ty9) ?_
  refine kMv rfl (kSt rfl rfl rfl ?_)
  refine a5 h3l rfl (fun _ h3l=>?_) (fun _ h3l=>?_)
  ·refine W_rs (kUn (aj an2) ?_)
   refine kUn (ap 0 ty38 tm) ?_
   refine kMv rfl ?_
   obtain⟨x10,k,h3l⟩:=ag h3l
   refine kUn (du underlying38 sizeOf49 k) ?_
   refine kUn (bz ty49) ?_
   refine am 1 rfl rfl (Upd.refl _) rfl sizeOf49 (kAs rfl ?_)
   obtain rfl:=ho3 _ (ojs h3l)
   replace h:some (x10,0)=some r:=h
   obtain rfl:=osj h
   exact a7 ⟨rfl,[(ab).val x10,P6 0],⟨yBox 1 ty49 aa,yT aa,tv⟩,aa⟩
  refine au (W_r (kMv rfl (kIn rfl rfl rfl (kAs rfl ?_))))
  exact⟨m3,lsu,w64 (x5 - 1),hn3 _ (ojs h3l),atOk⟩
 refine dp ?_
 obtain rfl:=ho3 _ (ojs h3l)
 exact⟨h,atOk⟩
def kn (R:bp):Prop:=(∀(x1:C8) (x2:B5) (r:A9 × Int),R.1 x1 x2=some r->Fp 136 [(aw).val x1,(af).val x2] (bj [(ab).val r.1,P6 r.2]))/\(∀(x1:C8) (x2:B5) (r:Bt),R.2.1 x1 x2=some r->Fp 150 [(aw).val x1,(af).val x2] (Pr.str r))/\(∀(x1:C8) (x2:B5) (x3:Int) (r:A9 × Int),R.2.2 x1 x2 x3=some r->Fp 166 [(aw).val x1,(af).val x2,P6 x3] (bj [(ab).val r.1,P6 r.2]))
theorem agh (R:bp) (ih:kn R) (x1:C8) (x2:B5) (r:A9 × Int) (h:mx R x1 x2=some r):Fp 136 [(aw).val x1,(af).val x2] (bj [(ab).val r.1,P6 r.2]):=by
 refine c9 (rs:=[.cell 4 49,.tmp 5]) func136 rfl ntmps136 results136 dcd (fun s0=>?_)
 let p1:=A9.mk 0 [] [] [] [] false [] 0 0
 unfold mx at h
 refine W_rs ?_
 refine rBox (R:=aw) (a:=x1) rfl (fun b3=>?_)
 refine rBox (R:=af) (a:=x2) rfl (fun b4=>?_)
 refine bg jb fun b5=>kAs rfl (a6 (W_rs (kUn (aj e8) ?_)))
 refine kUn (ap 1 ty3 a8) ?_
 refine az (W_rs (kIn rfl rfl rfl (kAs rfl ?_)))
 refine a5 h rfl (fun _ h=>?_) (fun _ h=>?_)
 ·refine W_rs (kUn (ap 0 ty84 (Sub.refl _)) ?_)
  refine kUn (aj ec) ?_
  refine kUn (ap 1 ty9 bb) ?_
  obtain⟨⟨x7,x8⟩,k,h⟩:=ag h
  refine kUn (c7 (acg x1 x2.Text _ k)) ?_
  refine kUn al ?_
  refine kUn al ?_
  refine am 2 rfl rfl (Upd.refl _) rfl sizeOf49 (kAs rfl ?_)
  obtain rfl:=osj h
  exact a7 ⟨rfl,[(ab).val x7,P6 x8],⟨yBox 2 ty49 aa,yT aa,tv⟩,aa⟩
 refine W_rs (kIn rfl rfl rfl (kAs rfl ?_))
 refine a5 h rfl (fun _ h=>?_) (fun _ h=>?_)
 ·refine W_rs (kUn (aj ah8) ?_)
  refine kUn (ap 0 ty38 iw) ?_
  refine kUn (aj al8) ?_
  refine kUn (ap 0 ty9 lb) ?_
  refine kUn (aj ec) ?_
  refine kUn (ap 1 ty9 bb) ?_
  obtain⟨⟨x10,x11⟩,k,h⟩:=ag h
  refine kUn (c7 (yu x1.Table 3 x1.Class x2.Text _ k)) ?_
  refine kUn (hMv (out:=bj [(ab).val x10,Pb x11]) rfl) (kUn al ?_)
  refine kUn al ?_
  refine bg jb fun b12=>am 3 rfl rfl (Upd.refl _) rfl sizeOf49 (kAs rfl (a6 (W_rs (kMv rfl (kNo rfl ?_)))))
  refine a5 h rfl (fun _ h=>?_) (fun _ h=>?_)
  ·refine W_rs (kUn (fk st49 rfl) ?_)
   refine am 2 rfl rfl (Upd.refl _) rfl sizeOf49 (kAs rfl ?_)
   obtain rfl:=osj h
   exact a7 ⟨rfl,[(ab).val p1,P6 170],⟨yBox 2 ty49 aa,yT aa,tv⟩,aa⟩
  refine au (a6 ?_)
  refine ba (fun e C=>∃x15,lw R x10 x15=some r/\At [(4,Pr.pt b5 0),(6,Pr.pt b12 0),(41,Pb x15)] [D8 b3 aw x1,D8 b4 af x2,D8 b5 ab p1,D8 b12 ab x10] e C) ?_ ?_
  ·rintro e C ⟨x15,h,a⟩
   refine W_at a ?_
   unfold lw at h
   refine a5 h rfl (fun _ h=>?_) (fun _ h=>?_)
   ·refine W_rs (kUn (fk st49 rfl) ?_)
    refine am 2 rfl rfl (Upd.refl _) rfl sizeOf49 (kAs rfl ?_)
    obtain rfl:=osj h
    exact a7 ⟨rfl,[(ab).val p1,P6 171],⟨yBox 2 ty49 aa,yT aa,tv⟩,aa⟩
   refine au (W_rs (kUn (ap 3 ty49 (Sub.refl _)) ?_))
   refine am 2 rfl rfl (Upd.refl _) rfl sizeOf49 (kAs rfl ?_)
   obtain rfl:=osj h
   exact a7 ⟨rfl,[(ab).val x10,P6 0],⟨yBox 2 ty49 aa,yT aa,tv⟩,aa⟩
  refine W_r (kUn (aj an3) ?_)
  refine kUn (ap 0 ty4 qu) ?_
  refine kMv rfl ?_
  rcases bn h with⟨hc14,h⟩|⟨hc14,h⟩
  ·refine kGd rfl aa hc14 (aj aic) ?_
   refine kGd rfl aa hc14 (ap 3 ty4 ix) ?_
   refine kGd rfl aa hc14 (qNot rfl) (kPt rfl hc14 rfl ?_)
   exact⟨!x10.Static,h,atOk⟩
  refine skx ?_
  refine kPf rfl hc14 rfl ?_
  exact⟨false,h,atOk⟩
 refine W_rs (kIn rfl rfl rfl (kAs rfl ?_))
 refine a5 h rfl (fun _ h=>?_) (fun _ h=>?_)
 ·refine W_rs (kUn (aj ah8) ?_)
  refine kUn (ap 0 ty38 iw) ?_
  refine kUn (aj ec) ?_
  refine kUn (ap 1 ty9 bb) ?_
  obtain⟨⟨x18,x19⟩,k,h⟩:=ag h
  refine kUn (c7 (xb x1.Table x2.Text _ k)) ?_
  refine kUn (hMv (out:=bj [(ab).val x18,Pb x19]) rfl) (kUn al ?_)
  refine kUn al ?_
  refine bg jb fun b20=>am 3 rfl rfl (Upd.refl _) rfl sizeOf49 (kAs rfl (a6 (W_rs (kMv rfl (kNo rfl ?_)))))
  refine a5 h rfl (fun _ h=>?_) (fun _ h=>?_)
  ·refine W_rs (kUn (fk st49 rfl) ?_)
   refine am 2 rfl rfl (Upd.refl _) rfl sizeOf49 (kAs rfl ?_)
   obtain rfl:=osj h
   exact a7 ⟨rfl,[(ab).val p1,P6 170],⟨yBox 2 ty49 aa,yT aa,tv⟩,aa⟩
  refine au (W_rs (kUn (ap 3 ty49 (Sub.refl _)) ?_))
  refine am 2 rfl rfl (Upd.refl _) rfl sizeOf49 (kAs rfl ?_)
  obtain rfl:=osj h
  exact a7 ⟨rfl,[(ab).val x18,P6 0],⟨yBox 2 ty49 aa,yT aa,tv⟩,aa⟩
 refine W_rs (kIn rfl rfl rfl (kAs rfl ?_))
 refine a5 h rfl (fun _ h=>?_) (fun _ h=>?_)
 ·refine W_rs (kUn (ap 0 ty84 (Sub.refl _)) ?_)
  refine kUn (ap 1 ty64 (Sub.refl _)) ?_
  obtain⟨⟨x23,x24⟩,k,h⟩:=ag h
  refine kUn (c7 (ih.2.2 x1 x2 2 _ k)) ?_
  refine kUn al ?_
  refine kUn al ?_
  refine am 2 rfl rfl (Upd.refl _) rfl sizeOf49 (kAs rfl ?_)
  obtain rfl:=osj h
  exact a7 ⟨rfl,[(ab).val x23,P6 x24],⟨yBox 2 ty49 aa,yT aa,tv⟩,aa⟩
 refine W_rs (kIn rfl rfl rfl (kAs rfl ?_))
 refine a5 h rfl (fun _ h=>?_) (fun _ h=>?_)
 ·refine W_rs (kUn (ap 0 ty84 (Sub.refl _)) ?_)
  refine kUn (ap 1 ty64 (Sub.refl _)) ?_
  obtain⟨⟨x26,x27⟩,k,h⟩:=ag h
  refine kUn (c7 (ih.2.2 x1 x2 3 _ k)) ?_
  refine kUn al ?_
  refine kUn al ?_
  refine am 2 rfl rfl (Upd.refl _) rfl sizeOf49 (kAs rfl ?_)
  obtain rfl:=osj h
  exact a7 ⟨rfl,[(ab).val x26,P6 x27],⟨yBox 2 ty49 aa,yT aa,tv⟩,aa⟩
 refine au (W_rs (kUn (fk st49 rfl) ?_))
 refine am 2 rfl rfl (Upd.refl _) rfl sizeOf49 (kAs rfl ?_)
 obtain rfl:=osj h
 exact a7 ⟨rfl,[(ab).val p1,P6 0],⟨yBox 2 ty49 aa,yT aa,tv⟩,aa⟩
theorem aht (R:bp) (ih:kn R) (x1:C8) (x2:B5) (r:Bt) (h:pf R x1 x2=some r):Fp 150 [(aw).val x1,(af).val x2] (Pr.str r):=by
 refine c8 (rs:=[4]) func150 rfl ntmps150 ⟨by decide,results150⟩ dcd (fun s0=>?_)
 unfold pf at h
 refine W_rs ?_
 refine rBox (R:=aw) (a:=x1) rfl (fun b3=>?_)
 let p1:=D8 b3 aw x1
 refine rBox (R:=af) (a:=x2) rfl (fun b4=>?_)
 let p2:=D8 b4 af x2
 refine kAs rfl (a6 (W_rs (kUn (aj e8) ?_)))
 refine kUn (ap 1 ty3 a8) ?_
 refine az ?_
 refine ba (fun e C=>∃x6,ny R x2 x1 x6=some r/\At [(2,Pr.pt b3 0),(3,Pr.pt b4 0),(8,P6 x2.Kind),(9,Pb x6)] [p1,p2] e C) ?_ ?_
 ·rintro e C ⟨x6,h,a⟩
  refine W_at a ?_
  unfold ny at h
  refine a5 h rfl (fun _ h=>?_) (fun _ h=>?_)
  ·refine W_rs (kAs rfl ?_)
   obtain rfl:=osj h
   exact a7 ⟨rfl,aa⟩
  refine ba (fun e C=>∃x9,nz R x2 x1 x9=some r/\At [(2,Pr.pt b3 0),(3,Pr.pt b4 0),(8,P6 x2.Kind),(12,Pb x9)] [p1,p2] e C) ?_ ?_
  ·rintro e C ⟨x9,h,a⟩
   refine W_at a ?_
   unfold nz at h
   refine a5 h rfl (fun _ h=>?_) (fun _ h=>?_)
   ·refine W_rs (kAs rfl ?_)
    obtain rfl:=osj h
    exact a7 ⟨rfl,aa⟩
   refine W_rs (kIn rfl rfl rfl (kAs rfl ?_))
   refine a5 h rfl (fun _ h=>?_) (fun _ h=>?_)
   ·refine W_rs (kAs rfl ?_)
    obtain rfl:=osj h
    exact a7 ⟨rfl,aa⟩
   refine W_rs (kIn rfl rfl rfl (kAs rfl ?_))
   refine a5 h rfl (fun _ h=>?_) (fun _ h=>?_)
   ·refine a6 (W_rs (kUn (aj an3) ?_))
    refine kUn (ap 0 ty4 qu) ?_
    refine a5 h rfl (fun _ h=>?_) (fun _ h=>?_)
    ·refine W_rs (kAs rfl ?_)
     obtain rfl:=osj h
     exact a7 ⟨rfl,aa⟩
    refine au (W_rs (kUn (aj al8) ?_))
    refine kUn (ap 0 ty9 lb) ?_
    refine kAs rfl ?_
    obtain rfl:=osj h
    exact a7 ⟨rfl,aa⟩
   refine W_rs (kIn rfl rfl rfl (kAs rfl ?_))
   refine a5 h rfl (fun _ h=>?_) (fun _ h=>?_)
   ·refine a6 ?_
    refine ba (fun e C=>∃x30,iz R x30=some r/\At [(47,Pb x30)] [p1,p2] e C) ?_ ?_
    ·rintro e C ⟨x30,h,a⟩
     refine W_at a ?_
     unfold iz at h
     refine a5 h rfl (fun _ h=>?_) (fun _ h=>?_)
     ·refine W_rs (kAs rfl ?_)
      obtain rfl:=osj h
      exact a7 ⟨rfl,aa⟩
     refine au (W_rs (kAs rfl ?_))
     obtain rfl:=osj h
     exact a7 ⟨rfl,aa⟩
    refine W_r (kUn (aj ec) ?_)
    refine kUn (ap 1 ty9 bb) ?_
    refine kSt rfl rfl rfl (kMv rfl ?_)
    rcases bn h with⟨hc15,h⟩|⟨hc15,h⟩
    ·refine skx ?_
     refine kPt rfl hc15 rfl (kMv rfl ?_)
     have hc23:true=true:=rfl
     refine skx ?_
     refine kPt rfl hc23 rfl (kMv rfl ?_)
     have hc27:true=true:=rfl
     refine skx ?_
     refine kPt rfl hc27 rfl (kMv rfl ?_)
     have hc29:true=true:=rfl
     refine skx ?_
     refine kPt rfl hc29 rfl ?_
     exact⟨true,h,atOk⟩
    refine kGd rfl aa hc15 (aj ec) ?_
    refine kGd rfl aa hc15 (ap 1 ty9 bb) ?_
    refine kGd rfl aa hc15 (qStr rfl rfl rfl) (kPf rfl hc15 rfl (kMv rfl ?_))
    rcases bn h with⟨hc16,h⟩|⟨hc16,h⟩
    ·refine skx ?_
     refine kPt rfl hc16 rfl (kMv rfl ?_)
     have hc20:true=true:=rfl
     refine skx ?_
     refine kPt rfl hc20 rfl (kMv rfl ?_)
     have hc22:true=true:=rfl
     refine skx ?_
     refine kPt rfl hc22 rfl ?_
     exact⟨true,h,atOk⟩
    refine kGd rfl aa hc16 (aj ec) ?_
    refine kGd rfl aa hc16 (ap 1 ty9 bb) ?_
    refine kGd rfl aa hc16 (qStr rfl rfl rfl) (kPf rfl hc16 rfl (kMv rfl ?_))
    rcases bn h with⟨hc17,h⟩|⟨hc17,h⟩
    ·refine skx ?_
     refine kPt rfl hc17 rfl (kMv rfl ?_)
     have hc19:true=true:=rfl
     refine skx ?_
     refine kPt rfl hc19 rfl ?_
     exact⟨true,h,atOk⟩
    refine kGd rfl aa hc17 (aj ec) ?_
    refine kGd rfl aa hc17 (ap 1 ty9 bb) ?_
    refine kGd rfl aa hc17 (qStr rfl rfl rfl) (kPf rfl hc17 rfl (kMv rfl ?_))
    rcases bn h with⟨hc18,h⟩|⟨hc18,h⟩
    ·refine skx ?_
     refine kPt rfl hc18 rfl ?_
     exact⟨true,h,atOk⟩
    refine kGd rfl aa hc18 (aj ec) ?_
    refine kGd rfl aa hc18 (ap 1 ty9 bb) ?_
    refine kGd rfl aa hc18 (qStr rfl rfl rfl) (kPf rfl hc18 rfl ?_)
    exact⟨x2.Text==([37]:Bt),h,atOk⟩
   refine ba (fun e C=>∃x36,iy R x1 x2 x36=some r/\At [(2,Pr.pt b3 0),(3,Pr.pt b4 0),(48,Pb x36)] [p1,p2] e C) ?_ ?_
   ·rintro e C ⟨x36,h,a⟩
    refine W_at a ?_
    unfold iy at h
    refine a5 h rfl (fun _ h=>?_) (fun _ h=>?_)
    ·refine W_rs (kUn (ap 0 ty84 (Sub.refl _)) ?_)
     refine kUn (ap 1 ty64 (Sub.refl _)) ?_
     obtain⟨⟨x38,x39⟩,k,h⟩:=ag h
     refine kUn (c7 (ih.1 x1 x2 _ k)) ?_
     refine kUn (hMv (out:=bj [(ab).val x38,P6 x39]) rfl) (kUn al ?_)
     refine kUn al ?_
     refine bg jb fun b40=>am 2 rfl rfl (Upd.refl _) rfl sizeOf49 (kAs rfl (a6 (W_rs (kMv rfl (kIn rfl rfl rfl ?_)))))
     refine a5 h rfl (fun _ h=>?_) (fun _ h=>?_)
     ·refine W_rs (kAs rfl ?_)
      obtain rfl:=osj h
      exact a7 ⟨rfl,aa⟩
     refine au (a6 (W_rs (kUn (aj e8) ?_)))
     refine kUn (ap 1 ty3 a8) ?_
     refine kIn rfl rfl rfl ?_
     refine a5 h rfl (fun _ h=>?_) (fun _ h=>?_)
     ·refine W_rs (kUn (aj ll) ?_)
      refine kUn (ap 2 ty9 dw) ?_
      refine kAs rfl ?_
      obtain rfl:=osj h
      exact a7 ⟨rfl,aa⟩
     refine au (a6 (W_rs (kUn (aj ol) ?_)))
     refine kUn (ap 2 ty3 db) ?_
     refine kIn rfl rfl rfl ?_
     refine a5 h rfl (fun _ h=>?_) (fun _ h=>?_)
     ·refine W_rs (kAs rfl ?_)
      obtain rfl:=osj h
      exact a7 ⟨rfl,aa⟩
     refine au (W_rs (kUn (aj tj) ?_))
     refine kUn (ap 2 ty9 dm) ?_
     refine kAs rfl ?_
     obtain rfl:=osj h
     exact a7 ⟨rfl,aa⟩
    refine au (W_rs (kAs rfl ?_))
    obtain rfl:=osj h
    exact a7 ⟨rfl,aa⟩
   refine W_rs (kIn rfl rfl rfl (kAs rfl ?_))
   refine a5 h rfl (fun _ h=>?_) (fun _ h=>?_)
   ·refine au ?_
    exact⟨x2.Kind==17,h,atOk⟩
   refine W_rs (kIn rfl rfl rfl (kAs rfl ?_))
   refine a5 h rfl (fun _ h=>?_) (fun _ h=>?_)
   ·refine au ?_
    exact⟨x2.Kind==18,h,atOk⟩
   refine W_rs (kIn rfl rfl rfl (kAs rfl ?_))
   refine a5 h rfl (fun _ h=>?_) (fun _ h=>?_)
   ·refine au ?_
    exact⟨x2.Kind==19,h,atOk⟩
   refine W_rs (kIn rfl rfl rfl (kAs rfl ?_))
   refine a5 h rfl (fun _ h=>?_) (fun _ h=>?_)
   ·refine au ?_
    exact⟨x2.Kind==20,h,atOk⟩
   refine W_r (kIn rfl rfl rfl (kAs rfl ?_))
   exact⟨x2.Kind==21,h,atOk⟩
  refine W_rs (kIn rfl rfl rfl (kAs rfl ?_))
  refine a5 h rfl (fun _ h=>?_) (fun _ h=>?_)
  ·refine au ?_
   exact⟨x2.Kind==14,h,atOk⟩
  refine W_r (kIn rfl rfl rfl (kAs rfl ?_))
  exact⟨x2.Kind==22,h,atOk⟩
 refine W_rs (kIn rfl rfl rfl (kAs rfl ?_))
 refine a5 h rfl (fun _ h=>?_) (fun _ h=>?_)
 ·refine au ?_
  exact⟨x2.Kind==13,h,atOk⟩
 refine W_r (kIn rfl rfl rfl (kAs rfl ?_))
 exact⟨x2.Kind==23,h,atOk⟩
theorem agf (R:bp) (ih:kn R) (x1:C8) (x2:B5) (x3:Int) (r:A9 × Int) (h:mw R x1 x2 x3=some r):Fp 166 [(aw).val x1,(af).val x2,P6 x3] (bj [(ab).val r.1,P6 r.2]):=by
 refine c9 (rs:=[.cell 6 49,.tmp 7]) func166 rfl ntmps166 results166 dcd (fun s0=>?_)
 let p1:=A9.mk 0 [] [] [] [] false [] 0 0
 unfold mw at h
 refine W_rs ?_
 refine rBox (R:=aw) (a:=x1) rfl (fun b4=>?_)
 refine rBox (R:=af) (a:=x2) rfl (fun b5=>?_)
 refine bg jb fun b6=>kAs rfl (a6 (W_rs (kUn (aj kw) ?_)))
 refine kUn (ap 1 ty53 cn) ?_
 refine kUn (jf rfl underlying53) ?_
 refine kIn rfl rfl rfl ?_
 refine a5 h rfl (fun _ h=>?_) (fun _ h=>?_)
 ·refine W_rs (kUn (fk st49 rfl) ?_)
  refine am 2 rfl rfl (Upd.refl _) rfl sizeOf49 (kAs rfl ?_)
  obtain rfl:=osj h
  exact a7 ⟨rfl,[(ab).val p1,P6 180],⟨yBox 2 ty49 aa,yT aa,tv⟩,aa⟩
 refine au (W_rs (kUn (aj kw) ?_))
 refine kUn (ap 1 ty53 cn) ?_
 obtain⟨x8,k,h⟩:=ag h
 refine kUn (du underlying53 sizeOf64 k) ?_
 refine kUn (bz ty64) ?_
 refine bg al64 fun b9=>am 3 rfl rfl (Upd.refl _) rfl sizeOf64 ?_
 refine ba (fun e C=>ka R x1 x8 x3 x2=some r/\At [(2,P6 x3),(3,Pr.pt b4 0),(4,Pr.pt b5 0),(6,Pr.pt b6 0),(8,Pr.pt b9 0)] [D8 b4 aw x1,D8 b5 af x2,D8 b6 ab p1,D8 b9 af x8] e C) ?_ ?_
 ·rintro e C ⟨h,a⟩
  refine W_at a ?_
  unfold ka at h
  refine W_rs (kUn (ap 0 ty84 (Sub.refl _)) ?_)
  refine kUn (ap 3 ty64 (Sub.refl _)) ?_
  refine cr h (ih.2.1 x1 x8) rfl fun x22 _ h=>kAs rfl (W_rs (kUn (aj ah8) ?_))
  refine kUn (ap 0 ty38 iw) ?_
  refine kMv rfl ?_
  obtain⟨⟨x23,x24⟩,k,h⟩:=ag h
  refine kUn (c7 (xb x1.Table x22 _ k)) ?_
  refine kUn (hMv (out:=bj [(ab).val x23,Pb x24]) rfl) (kUn al ?_)
  refine kUn al ?_
  refine bg jb fun b25=>am 4 rfl rfl (Upd.refl _) rfl sizeOf49 (kAs rfl (a6 ?_))
  refine ba (fun e C=>∃x27,lv R x1 x3 x22 x2 x27=some r/\At [(2,P6 x3),(3,Pr.pt b4 0),(4,Pr.pt b5 0),(6,Pr.pt b6 0),(13,Pr.str x22),(78,Pb x27)] [D8 b4 aw x1,D8 b5 af x2,D8 b6 ab p1,D8 b9 af x8,D8 b25 ab x23] e C) ?_ ?_
  ·rintro e C ⟨x27,h,a⟩
   refine W_at a ?_
   unfold lv at h
   refine a5 h rfl (fun _ h=>?_) (fun _ h=>?_)
   ·refine W_rs (kUn (fk st49 rfl) ?_)
    refine am 2 rfl rfl (Upd.refl _) rfl sizeOf49 (kAs rfl ?_)
    obtain rfl:=osj h
    exact a7 ⟨rfl,[(ab).val p1,P6 180],⟨yBox 2 ty49 aa,yT aa,tv⟩,aa⟩
   refine au (W_rs (kUn (aj ah8) ?_))
   refine kUn (ap 0 ty38 iw) ?_
   refine kMv rfl (kMv rfl (kUn (aj ec) ?_))
   refine kUn (ap 1 ty9 bb) ?_
   obtain⟨⟨x29,x30⟩,k,h⟩:=ag h
   refine kUn (c7 (yu x1.Table x3 x22 x2.Text _ k)) ?_
   refine kUn (hMv (out:=bj [(ab).val x29,Pb x30]) rfl) (kUn al ?_)
   refine kUn al ?_
   refine bg jb fun b31=>am 5 rfl rfl (Upd.refl _) rfl sizeOf49 (kAs rfl (a6 (W_rs (kMv rfl (kNo rfl ?_)))))
   refine a5 h rfl (fun _ h=>?_) (fun _ h=>?_)
   ·refine W_rs (kUn (fk st49 rfl) ?_)
    refine am 2 rfl rfl (Upd.refl _) rfl sizeOf49 (kAs rfl ?_)
    obtain rfl:=osj h
    exact a7 ⟨rfl,[(ab).val p1,P6 170],⟨yBox 2 ty49 aa,yT aa,tv⟩,aa⟩
   refine au (W_rs (kUn (ap 5 ty49 (Sub.refl _)) ?_))
   refine am 2 rfl rfl (Upd.refl _) rfl sizeOf49 (kAs rfl ?_)
   obtain rfl:=osj h
   exact a7 ⟨rfl,[(ab).val x29,P6 0],⟨yBox 2 ty49 aa,yT aa,tv⟩,aa⟩
  refine W_r (kMv rfl (kNo rfl (kMv rfl ?_)))
  rcases bn h with⟨hc26,h⟩|⟨hc26,h⟩
  ·refine skx ?_
   refine kPt rfl hc26 rfl ?_
   exact⟨true,h,atOk⟩
  refine kGd rfl aa hc26 (hMvA rfl) (kGd rfl aa hc26 (qStr rfl rfl rfl) (kPf rfl hc26 rfl ?_))
  exact⟨x22==[],h,atOk⟩
 refine W_rs (kUn (aj e8) ?_)
 refine kUn (ap 3 ty3 a8) ?_
 refine kIn rfl rfl rfl ?_
 refine a5 h rfl (fun _ h=>?_) (fun _ h=>?_)
 ·refine W_rs (kUn (ap 0 ty84 (Sub.refl _)) ?_)
  refine kUn (aj ec) ?_
  refine kUn (ap 3 ty9 bb) ?_
  obtain⟨⟨x11,x12⟩,k,h⟩:=ag h
  refine kUn (c7 (acg x1 x8.Text _ k)) ?_
  refine kUn (hMv (out:=bj [(ab).val x11,P6 x12]) rfl) (kUn al ?_)
  refine kUn al ?_
  refine bg jb fun b13=>am 4 rfl rfl (Upd.refl _) rfl sizeOf49 (kAs rfl ?_)
  refine ba (fun e C=>∃x15,lu R x1 x3 x11 x2 x8 x15=some r/\At [(2,P6 x3),(3,Pr.pt b4 0),(4,Pr.pt b5 0),(6,Pr.pt b6 0),(8,Pr.pt b9 0),(9,Pr.pt b13 0),(43,Pb x15)] [D8 b4 aw x1,D8 b5 af x2,D8 b6 ab p1,D8 b9 af x8,D8 b13 ab x11] e C) ?_ ?_
  ·rintro e C ⟨x15,h,a⟩
   refine W_at a ?_
   unfold lu at h
   refine a5 h rfl (fun _ h=>?_) (fun _ h=>?_)
   ·refine W_rs (kUn (aj ah8) ?_)
    refine kUn (ap 0 ty38 iw) ?_
    refine kMv rfl (kUn (aj ll) ?_)
    refine kUn (ap 4 ty9 dw) ?_
    refine kUn (aj ec) ?_
    refine kUn (ap 1 ty9 bb) ?_
    obtain⟨⟨x17,x18⟩,k,h⟩:=ag h
    refine kUn (c7 (yu x1.Table x3 x11.Id x2.Text _ k)) ?_
    refine kUn (hMv (out:=bj [(ab).val x17,Pb x18]) rfl) (kUn al ?_)
    refine kUn al ?_
    refine bg jb fun b19=>am 5 rfl rfl (Upd.refl _) rfl sizeOf49 (kAs rfl (a6 (W_rs (kMv rfl (kNo rfl ?_)))))
    refine a5 h rfl (fun _ h=>?_) (fun _ h=>?_)
    ·refine W_rs (kUn (fk st49 rfl) ?_)
     refine am 2 rfl rfl (Upd.refl _) rfl sizeOf49 (kAs rfl ?_)
     obtain rfl:=osj h
     exact a7 ⟨rfl,[(ab).val p1,P6 170],⟨yBox 2 ty49 aa,yT aa,tv⟩,aa⟩
    refine au (a6 (W_rs (kUn (aj aic) ?_)))
    refine kUn (ap 5 ty4 ix) ?_
    refine kNo rfl ?_
    refine a5 h rfl (fun _ h=>?_) (fun _ h=>?_)
    ·refine W_rs (kUn (fk st49 rfl) ?_)
     refine am 2 rfl rfl (Upd.refl _) rfl sizeOf49 (kAs rfl ?_)
     obtain rfl:=osj h
     exact a7 ⟨rfl,[(ab).val p1,P6 171],⟨yBox 2 ty49 aa,yT aa,tv⟩,aa⟩
    refine au (W_rs (kUn (ap 5 ty49 (Sub.refl _)) ?_))
    refine am 2 rfl rfl (Upd.refl _) rfl sizeOf49 (kAs rfl ?_)
    obtain rfl:=osj h
    exact a7 ⟨rfl,[(ab).val x17,P6 0],⟨yBox 2 ty49 aa,yT aa,tv⟩,aa⟩
   refine au ?_
   exact⟨h,⟨⟨aa,aa,aa,aa,aa,tv⟩,A8.of [0,1,2,3] rfl⟩⟩
  refine W_r (kMv rfl (kIn rfl rfl rfl (kMv rfl ?_)))
  rcases bn h with⟨hc14,h⟩|⟨hc14,h⟩
  ·refine kGd rfl aa hc14 (aj ol) ?_
   refine kGd rfl aa hc14 (ap 4 ty3 db) ?_
   refine kGd rfl aa hc14 (qInt rfl rfl rfl) (kPt rfl hc14 rfl ?_)
   exact⟨x11.Kind==1,h,atOk⟩
  refine skx ?_
  refine kPf rfl hc14 rfl ?_
  exact⟨false,h,atOk⟩
 refine au ?_
 exact⟨h,atOk⟩
theorem agc :∀n,kn (fm n):=by
 intro n
 induction n with
 |zero=>exact⟨(fun x1 x2 r h=>nomatch (show none=some r from h)),(fun x1 x2 r h=>nomatch (show none=some r from h)),(fun x1 x2 x3 r h=>nomatch (show none=some r from h))⟩
 |succ n ih=>exact⟨(fun x1 x2 r h=>agh (fm n) ih x1 x2 r h),(fun x1 x2 r h=>aht (fm n) ih x1 x2 r h),(fun x1 x2 x3 r h=>agf (fm n) ih x1 x2 x3 r h)⟩
theorem ai8 (x1:C8) (x2:B5) (r:A9 × Int) (h:z6 x1 x2=some r):Fp 136 [(aw).val x1,(af).val x2] (bj [(ab).val r.1,P6 r.2]):=(agc 1048576).1 x1 x2 r h
theorem at4 (x1:C8) (x2:B5) (x3:C7) (v4:Value) (r:C7) (h:aih x1 x2 x3=some r):Fc 82 [(aw).val x1,(af).val x2,(ai).val (D3.mk v4 x3.M x3.File x3.Method x3.Many)] [E1 v4 ak x3.L 47] (fun q C'=>∃u0,q=(ai).val (D3.mk u0 r.M r.File r.Method r.Many)/\C'=[E1 u0 ak r.L 47]):=by
 refine aaj (rs:=[.cell 6 83]) func82 rfl ntmps82 results82 dcd (fun s0=>?_)
 let p1:=D3.mk (.slice none 0 0) (B3.mk 0 0 0) 0 [] 0
 let p2:=D3.mk v4 x3.M x3.File x3.Method x3.Many
 unfold aih at h
 refine W_rs ?_
 refine rBox (R:=aw) (a:=x1) rfl (fun b5=>?_)
 let p3:=D8 b5 aw x1
 refine rBox (R:=af) (a:=x2) rfl (fun b6=>?_)
 let p4:=D8 b6 af x2
 refine rBox (R:=ai) (a:=p2) rfl (fun b7=>?_)
 let p5:=D8 b7 ai p2
 refine bg al83 fun b8=>a6 ?_
 let p6:=D8 b8 ai p1
 refine ba (fun e C=>∃x10,ys x2 x3 x1 x10=some r/\At [(2,(ai).val p2),(3,Pr.pt b5 0),(4,Pr.pt b6 0),(5,Pr.pt b7 0),(6,Pr.pt b8 0),(15,Pb x10)] [E1 v4 ak x3.L 47,p3,p4,p5,p6] e C) ?_ ?_
 ·rintro e C ⟨x10,h,a⟩
  refine W_at a ?_
  unfold ys at h
  refine a5 h rfl (fun _ h=>?_) (fun _ h=>?_)
  ·refine W_rs (kUn (ap 3 ty83 (Sub.refl _)) ?_)
   refine kUn (aj au9) ?_
   refine kUn (ap 2 ty3 aeh) ?_
   obtain⟨x12,k,h⟩:=ag h
   refine gu [0] (yg 171 x2.From x3 v4 _ k) (fun q C' hq=>?_)
   obtain⟨v13,rfl,rfl⟩:=hq
   refine rCtx [E1 v13 ak x12.L 47,p3,p4,p5,p6] ?_
   refine am 4 rfl rfl (Upd.refl _) rfl sizeOf83 ?_
   obtain rfl:=osj h
   exact a7 ⟨.inl rfl,[(ai).val (D3.mk v13 x12.M x12.File x12.Method x12.Many)],⟨yBox 4 ty83 aa,tv⟩,_,A8.of [0] rfl,v13,rfl,rfl⟩
  refine au (a6 (W_rs (kUn (aj mi) ?_)))
  refine kUn (ap 2 ty3 fe) ?_
  refine kIn rfl rfl rfl ?_
  refine a5 h rfl (fun _ h=>?_) (fun _ h=>?_)
  ·refine W_rs (kUn (ap 3 ty83 (Sub.refl _)) ?_)
   refine am 4 rfl rfl (Upd.refl _) rfl sizeOf83 ?_
   obtain rfl:=osj h
   exact a7 ⟨.inl rfl,[(ai).val p2],⟨yBox 4 ty83 aa,tv⟩,_,A8.of [0] rfl,v4,rfl,rfl⟩
  refine au (a6 (W_rs (kUn (aj e8) ?_)))
  refine kUn (ap 2 ty3 a8) ?_
  refine az (W_rs (kIn rfl rfl rfl (kAs rfl ?_)))
  refine a5 h rfl (fun _ h=>?_) (fun _ h=>?_)
  ·refine W_rs (kUn (ap 3 ty83 (Sub.refl _)) ?_)
   refine kUn (aj mi) ?_
   refine kUn (ap 2 ty3 fe) ?_
   refine kUn (aj ec) ?_
   refine kUn (ap 2 ty9 bb) ?_
   obtain⟨x16,k,h⟩:=ag h
   refine gu [0] (l8 x2.At x2.Text x3 v4 _ k) (fun q C' hq=>?_)
   obtain⟨v17,rfl,rfl⟩:=hq
   refine rCtx [E1 v17 ak x16.L 47,p3,p4,p5,p6] ?_
   refine am 4 rfl rfl (Upd.refl _) rfl sizeOf83 ?_
   obtain rfl:=osj h
   exact a7 ⟨.inl rfl,[(ai).val (D3.mk v17 x16.M x16.File x16.Method x16.Many)],⟨yBox 4 ty83 aa,tv⟩,_,A8.of [0] rfl,v17,rfl,rfl⟩
  refine W_rs (kIn rfl rfl rfl (kAs rfl ?_))
  refine a5 h rfl (fun _ h=>?_) (fun _ h=>?_)
  ·refine ba (fun e C=>∃x20,∃v21,ae5 x20=some r/\At [(6,Pr.pt b8 0)] [E1 v21 ak x20.L 47,p3,p4,p5,D8 b8 ai (D3.mk v21 x20.M x20.File x20.Method x20.Many)] e C) ?_ ?_
   ·rintro e C ⟨x20,v21,h,a⟩
    refine W_at a ?_
    unfold ae5 at h
    obtain rfl:=osj h
    exact a7 ⟨.inl rfl,[(ai).val (D3.mk v21 x20.M x20.File x20.Method x20.Many)],⟨yBox 4 ty83 aa,tv⟩,_,A8.of [0] rfl,v21,rfl,rfl⟩
   refine jg 8 hmx kr kr ?_
   refine lUn (ap 3 ty83 (Sub.refl _)) ?_
   refine lUn (aj mi) ?_
   refine lUn (ap 2 ty3 fe) ?_
   refine lUn (aj al8) ?_
   refine lUn (ap 1 ty9 lb) ?_
   refine lUn (aj ec) ?_
   refine lUn (ap 2 ty9 bb) ?_
   obtain⟨x19,k,h⟩:=ag h
   refine lUn (c7 (aj1 x1.Class x2.Text _ k)) ?_
   obtain⟨x20,k,h⟩:=ag h
   refine gu [0] (l8 x2.At x19 x3 v4 _ k) (fun q C' hq=>?_)
   obtain⟨v21,rfl,rfl⟩:=hq
   refine rCtx [E1 v21 ak x20.L 47,p3,p4,p5,p6] ?_
   refine am 4 rfl rfl (Upd.refl _) rfl sizeOf83 ?_
   exact⟨x20,v21,h,atOk⟩
  refine W_rs (kIn rfl rfl rfl (kAs rfl ?_))
  refine a5 h rfl (fun _ h=>?_) (fun _ h=>?_)
  ·refine ba (fun e C=>∃x24,∃v25,ae4 x24=some r/\At [(6,Pr.pt b8 0)] [E1 v25 ak x24.L 47,p3,p4,p5,D8 b8 ai (D3.mk v25 x24.M x24.File x24.Method x24.Many)] e C) ?_ ?_
   ·rintro e C ⟨x24,v25,h,a⟩
    refine W_at a ?_
    unfold ae4 at h
    obtain rfl:=osj h
    exact a7 ⟨.inl rfl,[(ai).val (D3.mk v25 x24.M x24.File x24.Method x24.Many)],⟨yBox 4 ty83 aa,tv⟩,_,A8.of [0] rfl,v25,rfl,rfl⟩
   refine jg 8 hmx kr kr ?_
   refine lUn (ap 3 ty83 (Sub.refl _)) ?_
   refine lUn (aj mi) ?_
   refine lUn (ap 2 ty3 fe) ?_
   refine lUn (aj al8) ?_
   refine lUn (ap 1 ty9 lb) ?_
   refine lUn (aj ec) ?_
   refine lUn (ap 2 ty9 bb) ?_
   obtain⟨x23,k,h⟩:=ag h
   refine lUn (c7 (aej x1.Class x2.Text _ k)) ?_
   obtain⟨x24,k,h⟩:=ag h
   refine gu [0] (l8 x2.At x23 x3 v4 _ k) (fun q C' hq=>?_)
   obtain⟨v25,rfl,rfl⟩:=hq
   refine rCtx [E1 v25 ak x24.L 47,p3,p4,p5,p6] ?_
   refine am 4 rfl rfl (Upd.refl _) rfl sizeOf83 ?_
   exact⟨x24,v25,h,atOk⟩
  refine ba (fun e C=>∃x27,yt x3 x2 x1 x27=some r/\At [(2,(ai).val p2),(3,Pr.pt b5 0),(4,Pr.pt b6 0),(5,Pr.pt b7 0),(6,Pr.pt b8 0),(56,Pb x27)] [E1 v4 ak x3.L 47,p3,p4,p5,p6] e C) ?_ ?_
  ·rintro e C ⟨x27,h,a⟩
   refine W_at a ?_
   unfold yt at h
   refine a5 h rfl (fun _ h=>?_) (fun _ h=>?_)
   ·refine ba (fun e C=>∃x30,∃v31,ae3 x30=some r/\At [(6,Pr.pt b8 0)] [E1 v31 ak x30.L 47,p3,p4,p5,D8 b8 ai (D3.mk v31 x30.M x30.File x30.Method x30.Many)] e C) ?_ ?_
    ·rintro e C ⟨x30,v31,h,a⟩
     refine W_at a ?_
     unfold ae3 at h
     obtain rfl:=osj h
     exact a7 ⟨.inl rfl,[(ai).val (D3.mk v31 x30.M x30.File x30.Method x30.Many)],⟨yBox 4 ty83 aa,tv⟩,_,A8.of [0] rfl,v31,rfl,rfl⟩
    refine jg 8 hmx kr kr ?_
    refine lUn (ap 3 ty83 (Sub.refl _)) ?_
    refine lUn (aj mi) ?_
    refine lUn (ap 2 ty3 fe) ?_
    refine lUn (aj arp) ?_
    refine lUn (ap 3 ty9 sc) ?_
    refine lUn (aj an4) ?_
    refine lUn (ap 3 ty3 va) ?_
    obtain⟨x29,k,h⟩:=ag h
    refine lUn (c7 (af0 x3.Method x3.Many _ k)) ?_
    obtain⟨x30,k,h⟩:=ag h
    refine gu [0] (l8 x2.At x29 x3 v4 _ k) (fun q C' hq=>?_)
    obtain⟨v31,rfl,rfl⟩:=hq
    refine rCtx [E1 v31 ak x30.L 47,p3,p4,p5,p6] ?_
    refine am 4 rfl rfl (Upd.refl _) rfl sizeOf83 ?_
    exact⟨x30,v31,h,atOk⟩
   refine au (W_rs (kUn (ap 1 ty84 (Sub.refl _)) ?_))
   refine kUn (ap 2 ty64 (Sub.refl _)) ?_
   obtain⟨⟨x32,x33⟩,k,h⟩:=ag h
   refine kUn (c7 (ai8 x1 x2 _ k)) ?_
   refine kUn (hMv (out:=bj [(ab).val x32,P6 x33]) rfl) (kUn al ?_)
   refine kUn al ?_
   refine bg jb fun b34=>am 5 rfl rfl (Upd.refl _) rfl sizeOf49 (kAs rfl (a6 (W_rs (kMv rfl (kIn rfl rfl rfl ?_)))))
   refine a5 h rfl (fun _ h=>?_) (fun _ h=>?_)
   ·refine W_rs (kUn (ap 3 ty83 (Sub.refl _)) ?_)
    refine kMv rfl (kUn (aj mi) ?_)
    refine kUn (ap 2 ty3 fe) ?_
    obtain⟨x36,k,h⟩:=ag h
    refine gu [0] (yg x33 x2.At x3 v4 _ k) (fun q C' hq=>?_)
    obtain⟨v37,rfl,rfl⟩:=hq
    refine rCtx [E1 v37 ak x36.L 47,p3,p4,p5,p6,D8 b34 ab x32] ?_
    refine am 4 rfl rfl (Upd.refl _) rfl sizeOf83 ?_
    obtain rfl:=osj h
    exact a7 ⟨.inl rfl,[(ai).val (D3.mk v37 x36.M x36.File x36.Method x36.Many)],⟨yBox 4 ty83 aa,tv⟩,_,A8.of [0] rfl,v37,rfl,rfl⟩
   refine au (W_rs (kUn (ap 3 ty83 (Sub.refl _)) ?_))
   refine kUn (aj mi) ?_
   refine kUn (ap 2 ty3 fe) ?_
   refine kUn (aj ll) ?_
   refine kUn (ap 5 ty9 dw) ?_
   obtain⟨x38,k,h⟩:=ag h
   refine gu [0] (l8 x2.At x32.Id x3 v4 _ k) (fun q C' hq=>?_)
   obtain⟨v39,rfl,rfl⟩:=hq
   refine rCtx [E1 v39 ak x38.L 47,p3,p4,p5,p6,D8 b34 ab x32] ?_
   refine am 4 rfl rfl (Upd.refl _) rfl sizeOf83 ?_
   obtain rfl:=osj h
   exact a7 ⟨.inl rfl,[(ai).val (D3.mk v39 x38.M x38.File x38.Method x38.Many)],⟨yBox 4 ty83 aa,tv⟩,_,A8.of [0] rfl,v39,rfl,rfl⟩
  refine W_rs (kIn rfl rfl rfl (kAs rfl ?_))
  refine a5 h rfl (fun _ h=>?_) (fun _ h=>?_)
  ·refine au ?_
   exact⟨x2.Kind==4,h,atOk⟩
  refine W_r (kIn rfl rfl rfl (kAs rfl ?_))
  exact⟨x2.Kind==6,h,atOk⟩
 refine W_r (kUn (aj e8) ?_)
 refine kUn (ap 2 ty3 a8) ?_
 refine kIn rfl rfl rfl (kMv rfl ?_)
 rcases bn h with⟨hc9,h⟩|⟨hc9,h⟩
 ·refine kGd rfl aa hc9 (aj an3) ?_
  refine kGd rfl aa hc9 (ap 1 ty4 qu) ?_
  refine kPt rfl hc9 rfl ?_
  exact⟨x1.Static,h,atOk⟩
 refine skx ?_
 refine kPf rfl hc9 rfl ?_
 exact⟨false,h,atOk⟩
def aen (R:cb):Prop:=(∀(x1:C8) (x2:B5) (x3:C7) (v4:Value) (r:C7 × C8),R x1 x2 x3=some r->Fc 43 [(aw).val x1,(af).val x2,(ai).val (D3.mk v4 x3.M x3.File x3.Method x3.Many)] [E1 v4 ak x3.L 47] (fun q C'=>∃u0,q=bj [(ai).val (D3.mk u0 r.1.M r.1.File r.1.Method r.1.Many),(aw).val r.2]/\C'=[E1 u0 ak r.1.L 47]))
theorem amz (R : cb) (ih : aen R) (x1 : C8) (x2 : B5) (x3 : C7) (v4 : Value) (r : C7 × C8) (h : acd R x1 x2 x3 = some r) : Fc 43 [(aw).val x1, (af).val x2, (ai).val (D3.mk v4 x3.M x3.File x3.Method x3.Many)] [E1 v4 ak x3.L 47] (fun q C' => ∃ u0, q = bj [(ai).val (D3.mk u0 r.1.M r.1.File r.1.Method r.1.Many), (aw).val r.2] /\ C' = [E1 u0 ak r.1.L 47]) := by
  refine aaj (rs:=[.cell 6 83,.cell 7 84]) func43 rfl ntmps43 results43 dcd (fun s0=>?_)
  let p1:=D3.mk (.slice none 0 0) (B3.mk 0 0 0) 0 [] 0
  let p2:=C8.mk [] [] false []
  unfold acd at h
  refine W_rs ?_
  refine rBox (R:=aw) (a:=x1) rfl (fun b5=>?_)
  let p3:=D8 b5 aw x1
  refine rBox (R:=af) (a:=x2) rfl (fun b6=>?_)
  let p4:=D8 b6 af x2
  refine rBox (R:=ai) (a:=(D3.mk v4 x3.M x3.File x3.Method x3.Many)) rfl (fun b7=>?_)
  refine bg al83 fun b8=>?_
  let p5:=D8 b8 ai p1
  refine bg al84 fun b9=>W_rs (kUn (ap 1 ty84 (Sub.refl _)) ?_)
  let p6:=D8 b9 aw p2
  let p7:=D8 b9 aw x1
  refine kUn (ap 2 ty64 (Sub.refl _)) ?_
  refine kUn (ap 3 ty83 (Sub.refl _)) ?_
  obtain⟨x10,k,h⟩:=ag h
  refine gu [0] (asr x1 x2 x3 v4 _ k) (fun q C' hq=>?_)
  obtain⟨v11,rfl,rfl⟩:=hq
  let p8:=D3.mk v11 x10.M x10.File x10.Method x10.Many
  let p9:=E1 v11 ak x10.L 47
  refine rCtx [p9,p3,p4,D8 b7 ai (D3.mk v4 x3.M x3.File x3.Method x3.Many),p5,p6] ?_
  refine am 3 rfl rfl (Upd.refl _) rfl sizeOf83 (a6 (W_rs (kUn (ap 3 ty83 (Sub.refl _)) ?_)))
  obtain⟨x12,k,h⟩:=ag h
  refine gu [0] (o5 x10 v11 _ k) (fun q C' hq=>?_)
  obtain⟨rfl,rfl⟩:=hq
  refine rCtx [p9,p3,p4,D8 b7 ai p8,p5,p6] ?_
  refine a5 h rfl (fun _ h=>?_) (fun _ h=>?_)
  · refine ba (fun e C=>ahk R x10 x1=some r/\At [(6,Pr.pt b8 0),(7,Pr.pt b9 0)] [p9,p3,p4,D8 b7 ai p8,D8 b8 ai p8,p7] e C) ?_ ?_
    · rintro e C ⟨h,a⟩
      refine W_at a ?_
      unfold ahk at h
      obtain rfl:=osj h
      exact a7 ⟨.inl rfl,[(ai).val p8,(aw).val x1],⟨yBox 4 ty83 aa,yBox 5 ty84 aa,tv⟩,_,A8.of [0] rfl,v11,rfl,rfl⟩
    refine fc [(2,4,D8 b8 ai p8),(3,5,D8 b9 aw x1)] [p9,p3,p4,D8 b7 ai p8,D8 b8 ai p8,p7] hmx kr kr (show([2,3]:List Nat).Nodup by decide) (show([4,5]:List Nat).Nodup by decide) rfl rfl ?_
    refine eql 3 ty83 (Sub.refl _) rfl rfl kr ?_
    refine eql 1 ty84 (Sub.refl _) rfl rfl kr ?_
    refine eqs 4 sizeOf83 (Upd.refl _) rfl rfl rfl kr ?_
    refine eqs 5 sizeOf84 (Upd.refl _) rfl rfl rfl kr ?_
    exact⟨h,atOk⟩
  refine au (W_rs (kAs rfl ?_))
  refine ba (fun e C=>∃x23,∃x25,∃x26,∃x27,∃x28,∃x29,∃v24,pv R x1 x2 x23 x25 x26 x27 x28 x29=some r/\At [(3,Pr.pt b5 0),(4,Pr.pt b6 0),(5,Pr.pt b7 0),(6,Pr.pt b8 0),(7,Pr.pt b9 0),(8,P6 x23)] [E1 v24 ak x29 47,p3,p4,D8 b7 ai (D3.mk v24 x25 x26 x27 x28),p5,p6] e C) ?_ ?_
  · rintro e C ⟨x23,x25,x26,x27,x28,x29,v24,h,a⟩
    let p10:=D3.mk v24 x25 x26 x27 x28
    let p11:=E1 v24 ak x29 47
    refine W_at a ?_
    unfold pv at h
    refine a6 (W_rs (kUn (ap 3 ty83 (Sub.refl _)) ?_))
    obtain⟨x30,k,h⟩:=ag h
    refine gu [0] (o5 (C7.mk x29 x25 x26 x27 x28) v24 _ k) (fun q C' hq=>?_)
    obtain⟨rfl,rfl⟩:=hq
    refine rCtx [p11,p3,p4,D8 b7 ai p10,p5,p6] ?_
    refine a5 h rfl (fun _ h=>?_) (fun _ h=>?_)
    · refine ba (fun e C=>ahj R x29 x25 x26 x27 x28 x1=some r/\At [(6,Pr.pt b8 0),(7,Pr.pt b9 0)] [p11,p3,p4,D8 b7 ai p10,D8 b8 ai p10,p7] e C) ?_ ?_
      · rintro e C ⟨h,a⟩
        refine W_at a ?_
        unfold ahj at h
        obtain rfl:=osj h
        exact a7 ⟨.inl rfl,[(ai).val p10,(aw).val x1],⟨yBox 4 ty83 aa,yBox 5 ty84 aa,tv⟩,_,A8.of [0] rfl,v24,rfl,rfl⟩
      refine fc [(2,4,D8 b8 ai p10),(3,5,D8 b9 aw x1)] [p11,p3,p4,D8 b7 ai p10,D8 b8 ai p10,p7] hmx kr kr (show([2,3]:List Nat).Nodup by decide) (show([4,5]:List Nat).Nodup by decide) rfl rfl ?_
      refine eql 3 ty83 (Sub.refl _) rfl rfl kr ?_
      refine eql 1 ty84 (Sub.refl _) rfl rfl kr ?_
      refine eqs 4 sizeOf83 (Upd.refl _) rfl rfl rfl kr ?_
      refine eqs 5 sizeOf84 (Upd.refl _) rfl rfl rfl kr ?_
      exact⟨h,atOk⟩
    refine au (W_rs (kUn (ap 1 ty84 (Sub.refl _)) ?_))
    refine kUn (ap 2 ty64 (Sub.refl _)) ?_
    refine kUn (ap 3 ty83 (Sub.refl _)) ?_
    obtain⟨x32,k,h⟩:=ag h
    refine gu [0] (at4 x1 x2 (C7.mk x29 x25 x26 x27 x28) v24 _ k) (fun q C' hq=>?_)
    obtain⟨v33,rfl,rfl⟩:=hq
    let p12:=D3.mk v33 x32.M x32.File x32.Method x32.Many
    let p13:=E1 v33 ak x32.L 47
    refine rCtx [p13,p3,p4,D8 b7 ai p10,p5,p6] ?_
    refine am 3 rfl rfl (Upd.refl _) rfl sizeOf83 (a6 (W_rs (kUn (ap 3 ty83 (Sub.refl _)) ?_)))
    obtain⟨x34,k,h⟩:=ag h
    refine gu [0] (o5 x32 v33 _ k) (fun q C' hq=>?_)
    obtain⟨rfl,rfl⟩:=hq
    refine rCtx [p13,p3,p4,D8 b7 ai p12,p5,p6] ?_
    refine a5 h rfl (fun _ h=>?_) (fun _ h=>?_)
    · refine ba (fun e C=>ahi R x32 x1=some r/\At [(6,Pr.pt b8 0),(7,Pr.pt b9 0)] [p13,p3,p4,D8 b7 ai p12,D8 b8 ai p12,p7] e C) ?_ ?_
      · rintro e C ⟨h,a⟩
        refine W_at a ?_
        unfold ahi at h
        obtain rfl:=osj h
        exact a7 ⟨.inl rfl,[(ai).val p12,(aw).val x1],⟨yBox 4 ty83 aa,yBox 5 ty84 aa,tv⟩,_,A8.of [0] rfl,v33,rfl,rfl⟩
      refine fc [(2,4,D8 b8 ai p12),(3,5,D8 b9 aw x1)] [p13,p3,p4,D8 b7 ai p12,D8 b8 ai p12,p7] hmx kr kr (show([2,3]:List Nat).Nodup by decide) (show([4,5]:List Nat).Nodup by decide) rfl rfl ?_
      refine eql 3 ty83 (Sub.refl _) rfl rfl kr ?_
      refine eql 1 ty84 (Sub.refl _) rfl rfl kr ?_
      refine eqs 4 sizeOf83 (Upd.refl _) rfl rfl rfl kr ?_
      refine eqs 5 sizeOf84 (Upd.refl _) rfl rfl rfl kr ?_
      exact⟨h,atOk⟩
    refine au (W_rs (kUn (ap 1 ty84 (Sub.refl _)) ?_))
    refine bg al84 fun b36=>am 6 rfl rfl (Upd.refl _) rfl sizeOf84 ?_
    refine ba (fun e C=>∃x38,li R x32 x2 x1 x23 x38=some r/\At [(3,Pr.pt b5 0),(4,Pr.pt b6 0),(5,Pr.pt b7 0),(6,Pr.pt b8 0),(7,Pr.pt b9 0),(8,P6 x23),(9,Pr.pt b36 0)] [p13,p3,p4,D8 b7 ai p12,p5,p6,D8 b36 aw x38] e C) ?_ ?_
    · rintro e C ⟨x38,h,a⟩
      let p14:=D8 b36 aw x38
      refine W_at a ?_
      unfold li at h
      refine ba (fun e C=>∃x39,∃b40,aaw R x2 x1 x23 x32 x38 x39=some r/\At [(3,Pr.pt b5 0),(4,Pr.pt b6 0),(5,Pr.pt b7 0),(6,Pr.pt b8 0),(7,Pr.pt b9 0),(8,P6 x23),(9,Pr.pt b36 0),(10,Pr.pt b40 0)] [p13,p3,p4,D8 b7 ai p12,p5,p6,p14,D8 b40 ab (A9.mk 4 x39 x2.Text x32.Method x2.Type_ false [] x32.File x2.At)] e C) ?_ ?_
      · rintro e C ⟨x39,b40,h,a⟩
        let p15:=D8 b40 ab (A9.mk 4 x39 x2.Text x32.Method x2.Type_ false [] x32.File x2.At)
        refine W_at a ?_
        unfold aaw at h
        refine ba (fun e C=>∃x44,sv R x2 x1 x23 x32 x38 x39 x44=some r/\At [(3,Pr.pt b5 0),(4,Pr.pt b6 0),(5,Pr.pt b7 0),(6,Pr.pt b8 0),(7,Pr.pt b9 0),(8,P6 x23),(9,Pr.pt b36 0),(10,Pr.pt b40 0)] [p13,p3,p4,D8 b7 ai (D3.mk v33 x32.M x32.File x32.Method x44),p5,p6,p14,p15] e C) ?_ ?_
        · rintro e C ⟨x44,h,a⟩
          refine W_at a ?_
          unfold sv at h
          refine a6 (W_rs (kMv rfl (kAs rfl (az ?_))))
          obtain⟨z8l,hz8,h⟩:=ag h
          obtain⟨n8,hN8⟩:=bm hz8
          refine cp 0 (fun e C=>∃x52,∃x47,∃x48,∃x49,∃x50,∃x51,∃v46,ac1 R x2 x1 x39 x32 x52 x47 x48 x49 x50 x51=some r/\At [(3,Pr.pt b5 0),(4,Pr.pt b6 0),(5,Pr.pt b7 0),(6,Pr.pt b8 0),(7,Pr.pt b9 0),(10,Pr.pt b40 0)] [E1 v46 ak x52 47,p3,p4,D8 b7 ai (D3.mk v46 x47 x48 x49 x50),p5,p6,D8 b36 aw x51,p15] e C) ?_ ?_
          · rintro e C ⟨x52,x47,x48,x49,x50,x51,v46,h,a⟩
            let p16:=D3.mk v46 x47 x48 x49 x50
            let p17:=E1 v46 ak x52 47
            let p18:=D8 b36 aw x51
            refine W_at a ?_
            unfold ac1 at h
            refine ba (fun e C=>∃x980,y6 R x52 x47 x48 x49 x50 x980=some r/\At [(3,Pr.pt b5 0),(5,Pr.pt b7 0),(6,Pr.pt b8 0),(7,Pr.pt b9 0)] [p17,D8 b5 aw x980,p4,D8 b7 ai p16,p5,p6,p18,p15] e C) ?_ ?_
            · rintro e C ⟨x980,h,a⟩
              refine W_at a ?_
              unfold y6 at h
              refine ba (fun e C=>ac3 R x52 x47 x48 x49 x50 x980=some r/\At [(6,Pr.pt b8 0),(7,Pr.pt b9 0)] [p17,D8 b5 aw x980,p4,D8 b7 ai p16,D8 b8 ai p16,D8 b9 aw x980,p18,p15] e C) ?_ ?_
              · rintro e C ⟨h,a⟩
                refine W_at a ?_
                unfold ac3 at h
                obtain rfl:=osj h
                exact a7 ⟨.inl rfl,[(ai).val p16,(aw).val x980],⟨yBox 4 ty83 aa,yBox 5 ty84 aa,tv⟩,_,A8.of [0] rfl,v46,rfl,rfl⟩
              refine fc [(2,4,D8 b8 ai p16),(3,5,D8 b9 aw x980)] [p17,D8 b5 aw x980,p4,D8 b7 ai p16,D8 b8 ai p16,D8 b9 aw x980,p18,p15] hmx kr kr (show([2,3]:List Nat).Nodup by decide) (show([4,5]:List Nat).Nodup by decide) rfl rfl ?_
              refine eql 3 ty83 (Sub.refl _) rfl rfl kr ?_
              refine eql 1 ty84 (Sub.refl _) rfl rfl kr ?_
              refine eqs 4 sizeOf83 (Upd.refl _) rfl rfl rfl kr ?_
              refine eqs 5 sizeOf84 (Upd.refl _) rfl rfl rfl kr ?_
              exact⟨h,atOk⟩
            refine ba (fun e C=>∃x973,vi R x1 x39 x2 x32 x52 x47 x48 x49 x50 x973=some r/\At [(3,Pr.pt b5 0),(5,Pr.pt b7 0),(6,Pr.pt b8 0),(7,Pr.pt b9 0),(10,Pr.pt b40 0),(150,Pb x973)] [p17,p3,p4,D8 b7 ai p16,p5,p6,p18,p15] e C) ?_ ?_
            · rintro e C ⟨x973,h,a⟩
              refine W_at a ?_
              unfold vi at h
              refine a5 h rfl (fun _ h=>?_) (fun _ h=>?_)
              · refine W_rs (kAs rfl (W_rs (kMv rfl (kUn (aj an2) ?_))))
                refine kUn (ap 1 ty38 tm) ?_
                obtain⟨x976,k,h⟩:=ag h
                refine rNil [151] ab 49 (fun v975=>?_) ⟨rfl,tv⟩
                refine fp 8 el38 k (fun v977=>?_)
                refine kAs rfl (W_rs (kMv rfl (kUn (ap 7 ty49 (Sub.refl _)) ?_)))
                refine kUn (cm (R:=ab) (a:=(A9.mk 4 x39 x2.Text x32.Method x2.Type_ false [] x32.File x2.At)) el38 nb) ?_
                obtain⟨x978,k,h⟩:=ag h
                refine fp 8 el38 k (fun v979=>?_)
                refine kAs rfl (W_r (kMv rfl (kUn (aj an2) ?_)))
                refine rRel 8 [14,159] ?_ rfl ⟨rfl,rfl,tv⟩
                refine am 1 rfl rfl ala rfl sizeOf38 ?_
                exact⟨{x1 with Seen:=x978},h,atOk⟩
              refine au ?_
              exact⟨x1,h,atOk⟩
            refine W_r (kUn (aj e8) ?_)
            refine kUn (ap 2 ty3 a8) ?_
            refine kIn rfl rfl rfl (kMv rfl ?_)
            rcases bn h with⟨hc972,h⟩|⟨hc972,h⟩
            · refine skx ?_
              refine kPt rfl hc972 rfl ?_
              exact⟨true,h,atOk⟩
            refine kGd rfl aa hc972 (aj e8) ?_
            refine kGd rfl aa hc972 (ap 2 ty3 a8) ?_
            refine kGd rfl aa hc972 (qInt rfl rfl rfl) (kPf rfl hc972 rfl ?_)
            exact⟨x2.Kind==6,h,atOk⟩
          refine dq (fun m e C=>∃x45,∃x47,∃x48,∃x49,∃x50,∃x51,∃x52,∃v46,ez (fun s=>mz R x2 x1 s.1 s.2.1 s.2.2.1 s.2.2.2.1 s.2.2.2.2.1 s.2.2.2.2.2.1 s.2.2.2.2.2.2) m (x45,x47,x48,x49,x50,x51,x52)=some z8l/\At [(3,Pr.pt b5 0),(4,Pr.pt b6 0),(5,Pr.pt b7 0),(6,Pr.pt b8 0),(7,Pr.pt b9 0),(9,Pr.pt b36 0),(10,Pr.pt b40 0),(11,P6 x45)] [E1 v46 ak x52 47,p3,p4,D8 b7 ai (D3.mk v46 x47 x48 x49 x50),p5,p6,D8 b36 aw x51,p15] e C) n8 ⟨x23,x32.M,x32.File,x32.Method,x44,x38,x32.L,v33,hN8,⟨⟨aa,aa,aa,aa,aa,aa,aa,aa,tv⟩,A8.refl _⟩⟩ ?_
          rintro m e C ⟨x45,x47,x48,x49,x50,x51,x52,v46,hN8,a⟩
          let p19:=D8 b36 aw x51
          let p20:=E1 v46 ak x52 47
          refine W_at a ?_
          obtain⟨m8,w8l,rfl,h8l,hn8,ho8⟩:=bc hN8
          replace h8l:mz R x2 x1 x45 x47 x48 x49 x50 x51 x52=some w8l:=h8l
          unfold mz at h8l
          refine a6 (W_rs (kMv rfl (kUn (aj kw) ?_)))
          refine kUn (ap 2 ty53 cn) ?_
          refine kUn (jf rfl underlying53) ?_
          refine kIn rfl rfl rfl ?_
          refine a5 h8l rfl (fun _ h8l=>?_) (fun _ h8l=>?_)
          · refine au (a6 (az ?_))
            refine ba (fun e C=>∃x68,∃x69,we R x2 x45 x51 x52 x47 x48 x1 x68 x69=some w8l/\At [(3,Pr.pt b5 0),(4,Pr.pt b6 0),(5,Pr.pt b7 0),(6,Pr.pt b8 0),(7,Pr.pt b9 0),(9,Pr.pt b36 0),(10,Pr.pt b40 0),(11,P6 x45)] [p20,p3,p4,D8 b7 ai (D3.mk v46 x47 x48 x68 x69),p5,p6,p19,p15] e C) ?_ ?_
            · rintro e C ⟨x68,x69,h8l,a⟩
              let p21:=D8 b7 ai (D3.mk v46 x47 x48 x68 x69)
              let p22:=C7.mk x52 x47 x48 x68 x69
              refine W_at a ?_
              unfold we at h8l
              refine ba (fun e C=>∃x490,∃x491,∃b730,∃b790,∃v492,wg R x1 x45 x490 x491=some w8l/\At [(3,Pr.pt b5 0),(4,Pr.pt b6 0),(5,Pr.pt b7 0),(6,Pr.pt b8 0),(7,Pr.pt b9 0),(9,Pr.pt b36 0),(10,Pr.pt b40 0),(11,P6 x45),(12,Pr.pt b730 0),(13,Pr.pt b790 0)] [E1 v492 ak x490.L 47,p3,p4,p21,p5,p6,p19,p15,D8 b730 ai (D3.mk v492 x490.M x490.File x490.Method x490.Many),D8 b790 aw x491] e C) ?_ ?_
              · rintro e C ⟨x490,x491,b730,b790,v492,h8l,a⟩
                let p23:=D3.mk v492 x490.M x490.File x490.Method x490.Many
                refine W_at a ?_
                unfold wg at h8l
                refine W_rs (kUn (ap 8 ty83 (Sub.refl _)) ?_)
                refine am 3 rfl rfl (Upd.refl _) rfl sizeOf83 (W_rs (kUn (ap 9 ty84 (Sub.refl _)) ?_))
                refine am 6 rfl rfl (Upd.refl _) rfl sizeOf84 (W_rs (kUn (ap 3 ty83 (Sub.refl _)) ?_))
                obtain⟨x970,k,h8l⟩:=ag h8l
                refine gu [0] (o5 x490 v492 _ k) (fun q C' hq=>?_)
                obtain⟨rfl,rfl⟩:=hq
                refine rCtx [E1 v492 ak x490.L 47,p3,p4,D8 b7 ai p23,p5,p6,D8 b36 aw x491,p15,D8 b730 ai p23,D8 b790 aw x491] ?_
                refine a5 h8l rfl (fun _ h8l=>?_) (fun _ h8l=>?_)
                · refine ba (fun e C=>ac2 R x490 x1=some w8l/\At [(6,Pr.pt b8 0),(7,Pr.pt b9 0)] [E1 v492 ak x490.L 47,p3,p4,D8 b7 ai p23,D8 b8 ai p23,p7,D8 b36 aw x491,p15,D8 b730 ai p23,D8 b790 aw x491] e C) ?_ ?_
                  · rintro e C ⟨h8l,a⟩
                    refine W_at a ?_
                    unfold ac2 at h8l
                    obtain rfl:=ho8 _ (ojs h8l)
                    replace h:some (x490,x1)=some r:=h
                    obtain rfl:=osj h
                    exact a7 ⟨.inl rfl,[(ai).val p23,(aw).val x1],⟨yBox 4 ty83 aa,yBox 5 ty84 aa,tv⟩,_,A8.of [0] rfl,v492,rfl,rfl⟩
                  refine fc [(2,4,D8 b8 ai p23),(3,5,D8 b9 aw x1)] [E1 v492 ak x490.L 47,p3,p4,D8 b7 ai p23,D8 b8 ai p23,p7,D8 b36 aw x491,p15,D8 b730 ai p23,D8 b790 aw x491] hmx kr kr (show([2,3]:List Nat).Nodup by decide) (show([4,5]:List Nat).Nodup by decide) rfl rfl ?_
                  refine eql 3 ty83 (Sub.refl _) rfl rfl kr ?_
                  refine eql 1 ty84 (Sub.refl _) rfl rfl kr ?_
                  refine eqs 4 sizeOf83 (Upd.refl _) rfl rfl rfl kr ?_
                  refine eqs 5 sizeOf84 (Upd.refl _) rfl rfl rfl kr ?_
                  exact⟨h8l,atOk⟩
                refine au (W_r (kMv rfl (kIn rfl rfl rfl (kAs rfl ?_))))
                exact⟨m8,lsu,w64 (x45+1),x490.M,x490.File,x490.Method,x490.Many,x491,x490.L,v492,hn8 _ (ojs h8l),⟨⟨aa,aa,aa,aa,aa,aa,aa,aa,tv⟩,A8.of [0,1,2,3,4,5,6,7] rfl⟩⟩
              obtain⟨x310,hx310,h8l⟩:=ag h8l
              obtain⟨⟨x490,x491⟩,k,h8l⟩:=ag h8l
              refine aah [0,0,2,0,14,30,0,127,255,511,511,0,0,7167,16383] [[p19],[],[p4],[],[],[],[p21],[],[],[],[],[],[],[],[]] hmx kr kr kr rfl ?_
              refine aq1 0 1 6 (out:=(aw).val x51) rfl rfl (fun C9 i9 h9=>(ap (R:=aw) (a:=x51) (R':=aw) i9 ty84 (Sub.refl _) (hi:=h9))) ?_
              refine aq0 1 3 (out:=Pr.pt b6 8) rfl (fun C9=>(aj kw)) ?_
              refine aq1 2 7 2 (out:=ao af x2.Kids) rfl rfl (fun C9 i9 h9=>(ap (R:=af) (a:=x2) (R':=Rp.list af) i9 ty53 cn (hi:=h9))) ?_
              refine aq0 3 15 (out:=P6 x45) rfl (fun C9=>fr) ?_
              refine aq0 4 31 (out:=mq af x310) rfl (fun C9=>(du (R:=af) (l:=x2.Kids) underlying53 sizeOf64 hx310)) ?_
              refine aq0 5 63 (out:=(af).val x310) rfl (fun C9=>(bz (R:=af) (a:=x310) ty64)) ?_
              refine aq1 6 127 3 (out:=(ai).val (D3.mk v46 x47 x48 x68 x69)) rfl rfl (fun C9 i9 h9=>(ap (R:=ai) (a:=(D3.mk v46 x47 x48 x68 x69)) (R':=ai) i9 ty83 (Sub.refl _) (hi:=h9))) ?_
              refine awm [7,11,12] ⟨?_,?_,?_,tv⟩
              · skip
                refine ae1 7 255 rfl (fun g9=>?_)
                refine gu [0] (ih x51 x310 p22 v46 _ k) (fun q C' hq=>?_)
                obtain⟨v492,rfl,rfl⟩:=hq
                refine rCtx [E1 v492 ak x490.L 47,p3,p4,p21,p5,p6,p19,p15] ?_
                refine f6 _ [] cd ?_
                refine aq0 8 511 (out:=bj [(ai).val (D3.mk v492 x490.M x490.File x490.Method x490.Many),(aw).val x491]) rfl (fun C9=>fr) ?_
                refine aq0 9 1023 (out:=(ai).val (D3.mk v492 x490.M x490.File x490.Method x490.Many)) rfl (fun C9=>al) ?_
                refine aq0 10 2047 (out:=(aw).val x491) rfl (fun C9=>al) ?_
                refine awm [11,12] ⟨?_,?_,tv⟩
                · refine ae1 11 4095 rfl (fun g9=>?_)
                  refine bg al83 fun b730=>?_
                  refine f6 _ [p19,p4,p21] (dh 6 (dh 2 (dh 3 cd))) ?_
                  refine ae 12 8191 rfl (fun g9=>?_)
                  refine bg al84 fun b790=>?_
                  refine f6 _ [p19,p4,p21] (dh 6 (dh 2 (dh 3 cd))) ?_
                  refine ae 13 16383 rfl (fun g9=>?_)
                  refine am 8 rfl rfl (Upd.refl _) rfl sizeOf83 ?_
                  refine f6 .any [] cd ?_
                  refine ae 14 32767 rfl (fun g9=>?_)
                  refine am 9 rfl rfl (Upd.refl _) rfl sizeOf84 ?_
                  refine f6 .any [] cd ?_
                  refine yj ?_
                  exact⟨x490,x491,b730,b790,v492,h8l,atOk⟩
                refine ae1 12 6143 rfl (fun g9=>?_)
                refine bg al84 fun b790=>?_
                refine f6 _ [p19,p4,p21] (dh 6 (dh 2 (dh 3 cd))) ?_
                refine ae 11 8191 rfl (fun g9=>?_)
                refine bg al83 fun b730=>?_
                refine f6 _ [p19,p4,p21] (dh 6 (dh 2 (dh 3 cd))) ?_
                refine ae 13 16383 rfl (fun g9=>?_)
                refine am 9 rfl rfl (Upd.refl _) rfl sizeOf83 ?_
                refine f6 .any [] cd ?_
                refine ae 14 32767 rfl (fun g9=>?_)
                refine am 8 rfl rfl (Upd.refl _) rfl sizeOf84 ?_
                refine f6 .any [] cd ?_
                refine yj ?_
                exact⟨x490,x491,b730,b790,v492,h8l,⟨⟨aa,aa,aa,aa,aa,aa,aa,aa,aa,aa,tv⟩,A8.of [0,1,2,3,4,5,6,7,9,8] rfl⟩⟩
              · refine ae1 11 2175 rfl (fun g9=>?_)
                refine bg al83 fun b730=>?_
                refine f6 _ [p19,p4,p21] (dh 6 (dh 2 (dh 3 cd))) ?_
                refine awm [7,12] ⟨?_,?_,tv⟩
                · skip
                  refine ae1 7 2303 rfl (fun g9=>?_)
                  refine gu [0] (ih x51 x310 p22 v46 _ k) (fun q C' hq=>?_)
                  obtain⟨v492,rfl,rfl⟩:=hq
                  refine rCtx [E1 v492 ak x490.L 47,p3,p4,p21,p5,p6,p19,p15,D8 b730 ai p1] ?_
                  refine f6 _ [] cd ?_
                  refine aq0 8 2559 (out:=bj [(ai).val (D3.mk v492 x490.M x490.File x490.Method x490.Many),(aw).val x491]) rfl (fun C9=>fr) ?_
                  refine aq0 9 3071 (out:=(ai).val (D3.mk v492 x490.M x490.File x490.Method x490.Many)) rfl (fun C9=>al) ?_
                  refine aq0 10 4095 (out:=(aw).val x491) rfl (fun C9=>al) ?_
                  refine ae 12 8191 rfl (fun g9=>?_)
                  refine bg al84 fun b790=>?_
                  refine f6 _ [p19,p4,p21] (dh 6 (dh 2 (dh 3 cd))) ?_
                  refine ae 13 16383 rfl (fun g9=>?_)
                  refine am 8 rfl rfl (Upd.refl _) rfl sizeOf83 ?_
                  refine f6 .any [] cd ?_
                  refine ae 14 32767 rfl (fun g9=>?_)
                  refine am 9 rfl rfl (Upd.refl _) rfl sizeOf84 ?_
                  refine f6 .any [] cd ?_
                  refine yj ?_
                  exact⟨x490,x491,b730,b790,v492,h8l,atOk⟩
                refine ae1 12 6271 rfl (fun g9=>?_)
                refine bg al84 fun b790=>?_
                refine f6 _ [p19,p4,p21] (dh 6 (dh 2 (dh 3 cd))) ?_
                refine ae 7 6399 rfl (fun g9=>?_)
                refine gu [0] (ih x51 x310 p22 v46 _ k) (fun q C' hq=>?_)
                obtain⟨v492,rfl,rfl⟩:=hq
                refine rCtx [E1 v492 ak x490.L 47,p3,p4,p21,p5,p6,p19,p15,D8 b730 ai p1,D8 b790 aw p2] ?_
                refine f6 _ [] cd ?_
                refine aq0 8 6655 (out:=bj [(ai).val (D3.mk v492 x490.M x490.File x490.Method x490.Many),(aw).val x491]) rfl (fun C9=>fr) ?_
                refine aq0 9 7167 (out:=(ai).val (D3.mk v492 x490.M x490.File x490.Method x490.Many)) rfl (fun C9=>al) ?_
                refine aq0 10 8191 (out:=(aw).val x491) rfl (fun C9=>al) ?_
                refine ae 13 16383 rfl (fun g9=>?_)
                refine am 8 rfl rfl (Upd.refl _) rfl sizeOf83 ?_
                refine f6 .any [] cd ?_
                refine ae 14 32767 rfl (fun g9=>?_)
                refine am 9 rfl rfl (Upd.refl _) rfl sizeOf84 ?_
                refine f6 .any [] cd ?_
                refine yj ?_
                exact⟨x490,x491,b730,b790,v492,h8l,atOk⟩
              refine ae1 12 4223 rfl (fun g9=>?_)
              refine bg al84 fun b790=>?_
              refine f6 _ [p19,p4,p21] (dh 6 (dh 2 (dh 3 cd))) ?_
              refine awm [7,11] ⟨?_,?_,tv⟩
              · skip
                refine ae1 7 4351 rfl (fun g9=>?_)
                refine gu [0] (ih x51 x310 p22 v46 _ k) (fun q C' hq=>?_)
                obtain⟨v492,rfl,rfl⟩:=hq
                refine rCtx [E1 v492 ak x490.L 47,p3,p4,p21,p5,p6,p19,p15,D8 b790 aw p2] ?_
                refine f6 _ [] cd ?_
                refine aq0 8 4607 (out:=bj [(ai).val (D3.mk v492 x490.M x490.File x490.Method x490.Many),(aw).val x491]) rfl (fun C9=>fr) ?_
                refine aq0 9 5119 (out:=(ai).val (D3.mk v492 x490.M x490.File x490.Method x490.Many)) rfl (fun C9=>al) ?_
                refine aq0 10 6143 (out:=(aw).val x491) rfl (fun C9=>al) ?_
                refine ae 11 8191 rfl (fun g9=>?_)
                refine bg al83 fun b730=>?_
                refine f6 _ [p19,p4,p21] (dh 6 (dh 2 (dh 3 cd))) ?_
                refine ae 13 16383 rfl (fun g9=>?_)
                refine am 9 rfl rfl (Upd.refl _) rfl sizeOf83 ?_
                refine f6 .any [] cd ?_
                refine ae 14 32767 rfl (fun g9=>?_)
                refine am 8 rfl rfl (Upd.refl _) rfl sizeOf84 ?_
                refine f6 .any [] cd ?_
                refine yj ?_
                exact⟨x490,x491,b730,b790,v492,h8l,⟨⟨aa,aa,aa,aa,aa,aa,aa,aa,aa,aa,tv⟩,A8.of [0,1,2,3,4,5,6,7,9,8] rfl⟩⟩
              refine ae1 11 6271 rfl (fun g9=>?_)
              refine bg al83 fun b730=>?_
              refine f6 _ [p19,p4,p21] (dh 6 (dh 2 (dh 3 cd))) ?_
              refine ae 7 6399 rfl (fun g9=>?_)
              refine gu [0] (ih x51 x310 p22 v46 _ k) (fun q C' hq=>?_)
              obtain⟨v492,rfl,rfl⟩:=hq
              refine rCtx [E1 v492 ak x490.L 47,p3,p4,p21,p5,p6,p19,p15,D8 b790 aw p2,D8 b730 ai p1] ?_
              refine f6 _ [] cd ?_
              refine aq0 8 6655 (out:=bj [(ai).val (D3.mk v492 x490.M x490.File x490.Method x490.Many),(aw).val x491]) rfl (fun C9=>fr) ?_
              refine aq0 9 7167 (out:=(ai).val (D3.mk v492 x490.M x490.File x490.Method x490.Many)) rfl (fun C9=>al) ?_
              refine aq0 10 8191 (out:=(aw).val x491) rfl (fun C9=>al) ?_
              refine ae 13 16383 rfl (fun g9=>?_)
              refine am 9 rfl rfl (Upd.refl _) rfl sizeOf83 ?_
              refine f6 .any [] cd ?_
              refine ae 14 32767 rfl (fun g9=>?_)
              refine am 8 rfl rfl (Upd.refl _) rfl sizeOf84 ?_
              refine f6 .any [] cd ?_
              refine yj ?_
              exact⟨x490,x491,b730,b790,v492,h8l,⟨⟨aa,aa,aa,aa,aa,aa,aa,aa,aa,aa,tv⟩,A8.of [0,1,2,3,4,5,6,7,9,8] rfl⟩⟩
            refine ba (fun e C=>∃x64,pw R x2 x45 x1 x51 x52 x47 x48 x49 x50 x64=some w8l/\At [(3,Pr.pt b5 0),(4,Pr.pt b6 0),(5,Pr.pt b7 0),(6,Pr.pt b8 0),(7,Pr.pt b9 0),(9,Pr.pt b36 0),(10,Pr.pt b40 0),(11,P6 x45),(114,Pb x64)] [p20,p3,p4,D8 b7 ai (D3.mk v46 x47 x48 x49 x50),p5,p6,p19,p15] e C) ?_ ?_
            · rintro e C ⟨x64,h8l,a⟩
              refine W_at a ?_
              unfold pw at h8l
              refine a5 h8l rfl (fun _ h8l=>?_) (fun _ h8l=>?_)
              · refine ba (fun e C=>∃x67,aax R x2 x45 x51 x52 x47 x48 x1 x67=some w8l/\At [(3,Pr.pt b5 0),(4,Pr.pt b6 0),(5,Pr.pt b7 0),(6,Pr.pt b8 0),(7,Pr.pt b9 0),(9,Pr.pt b36 0),(10,Pr.pt b40 0),(11,P6 x45)] [p20,p3,p4,D8 b7 ai (D3.mk v46 x47 x48 x67 x50),p5,p6,p19,p15] e C) ?_ ?_
                · rintro e C ⟨x67,h8l,a⟩
                  refine W_at a ?_
                  unfold aax at h8l
                  refine W_r (kUn (aj an4) ?_)
                  refine am 3 rfl rfl ace rfl sizeOf3 ?_
                  refine rCtx [p20,p3,p4,D8 b7 ai (D3.mk v46 x47 x48 x67 0),p5,p6,p19,p15] ?_
                  exact⟨x67,0,h8l,atOk⟩
                refine jg 10 hmx kr kr ?_
                refine lUn (aj al8) ?_
                refine lUn (ap 1 ty9 lb) ?_
                refine lUn (aj kw) ?_
                refine lUn (ap 2 ty53 cn) ?_
                refine lUn (hMvA rfl) ?_
                obtain⟨x66,k,h8l⟩:=ag h8l
                refine lUn (du underlying53 sizeOf64 k) ?_
                refine lUn (dv ec bb) ?_
                refine lUn (bz ty9) ?_
                obtain⟨x67,k,h8l⟩:=ag h8l
                refine lUn (c7 (aej x1.Class x66.Text _ k)) ?_
                refine lUn (aj arp) ?_
                refine am 3 rfl rfl aho rfl sizeOf9 ?_
                refine rCtx [p20,p3,p4,D8 b7 ai (D3.mk v46 x47 x48 x67 x50),p5,p6,p19,p15] ?_
                exact⟨x67,h8l,atOk⟩
              refine au ?_
              exact⟨x49,x50,h8l,atOk⟩
            refine W_r (kUn (aj e8) ?_)
            refine kUn (ap 2 ty3 a8) ?_
            refine kIn rfl rfl rfl (kMv rfl ?_)
            rcases bn h8l with⟨hc62,h8l⟩|⟨hc62,h8l⟩
            · refine kGd rfl aa hc62 (aj kw) ?_
              refine kGd rfl aa hc62 (ap 2 ty53 cn) ?_
              refine kGd rfl aa hc62 (hMvA rfl) ?_
              obtain⟨x63,k,h8l⟩:=ag h8l
              refine kGd rfl aa hc62 (du underlying53 sizeOf64 k) ?_
              refine kGd rfl aa hc62 (dv e8 a8) ?_
              refine kGd rfl aa hc62 (bz ty3) ?_
              refine kGd rfl aa hc62 (qInt rfl rfl rfl) (kPt rfl hc62 rfl ?_)
              exact⟨x63.Kind==3,h8l,atOk⟩
            refine skx ?_
            refine kPf rfl hc62 rfl ?_
            exact⟨false,h8l,atOk⟩
          refine dp ?_
          obtain rfl:=ho8 _ (ojs h8l)
          exact⟨x52,x47,x48,x49,x50,x51,v46,h,atOk⟩
        refine ba (fun e C=>∃x42,wd R x2 x1 x23 x32 x38 x39 x42=some r/\At [(3,Pr.pt b5 0),(4,Pr.pt b6 0),(5,Pr.pt b7 0),(6,Pr.pt b8 0),(7,Pr.pt b9 0),(8,P6 x23),(9,Pr.pt b36 0),(10,Pr.pt b40 0),(90,Pb x42)] [p13,p3,p4,D8 b7 ai p12,p5,p6,p14,p15] e C) ?_ ?_
        · rintro e C ⟨x42,h,a⟩
          refine W_at a ?_
          unfold wd at h
          refine a5 h rfl (fun _ h=>?_) (fun _ h=>?_)
          · refine W_r (kUn (aj an4) ?_)
            refine kUn (ap 3 ty3 va) ?_
            refine kIn rfl rfl rfl (kUn (aj an4) ?_)
            refine am 3 rfl rfl ace rfl sizeOf3 ?_
            refine rCtx [p13,p3,p4,D8 b7 ai (D3.mk v33 x32.M x32.File x32.Method (w64 (x32.Many+1))),p5,p6,p14,p15] ?_
            exact⟨w64 (x32.Many+1),h,atOk⟩
          refine au ?_
          exact⟨x32.Many,h,atOk⟩
        refine W_r (kUn (aj e8) ?_)
        refine kUn (ap 2 ty3 a8) ?_
        refine kIn rfl rfl rfl (kMv rfl ?_)
        rcases bn h with⟨hc41,h⟩|⟨hc41,h⟩
        · refine skx ?_
          refine kPt rfl hc41 rfl ?_
          exact⟨true,h,atOk⟩
        refine kGd rfl aa hc41 (aj e8) ?_
        refine kGd rfl aa hc41 (ap 2 ty3 a8) ?_
        refine kGd rfl aa hc41 (qInt rfl rfl rfl) (kPf rfl hc41 rfl ?_)
        exact⟨x2.Kind==6,h,atOk⟩
      obtain⟨x39,hx39,h⟩:=ag h
      refine ary 1 (fun B S=>[E1 v33 ak x32.L 47,D8 b5 aw x1,D8 b6 af x2,D8 b7 ai (D3.mk v33 x32.M x32.File x32.Method x32.Many),D8 b8 ai (D3.mk (.slice none 0 0) (B3.mk 0 0 0) 0 [] 0),D8 b9 aw (C8.mk [] [] false []),D8 b36 aw x38,(cond (S 17) (D8 (B 16) ab (A9.mk 4 x39 x2.Text x32.Method x2.Type_ false [] x32.File x2.At)) (cond (S 16) (D8 (B 16) ab (A9.mk 0 [] [] [] [] false [] 0 0)) A4.nil))]) (fun B=>[E1 v33 ak x32.L 47,D8 b5 aw x1,D8 b6 af x2,D8 b7 ai (D3.mk v33 x32.M x32.File x32.Method x32.Many),D8 b8 ai (D3.mk (.slice none 0 0) (B3.mk 0 0 0) 0 [] 0),D8 b9 aw (C8.mk [] [] false []),D8 b36 aw x38,D8 (B 16) ab (A9.mk 4 x39 x2.Text x32.Method x2.Type_ false [] x32.File x2.At)]) [Pr.pt b7 5,Pr.str x32.Method,Pr.pt b7 6,P6 x32.Many,Pr.str x39,Pr.pt b6 1,Pr.str x2.Text,Pr.pt b7 5,Pr.str x32.Method,Pr.pt b6 2,Pr.str x2.Type_,Pr.pt b7 4,P6 x32.File,Pr.pt b6 6,P6 x2.At,(ab).val (A9.mk 4 x39 x2.Text x32.Method x2.Type_ false [] x32.File x2.At),.any,.any] (fun k=>([0,0,0,0,0,0,0,0,0,0,0,0,0,0,0,0,2,1]:List Nat).getD k 0) hmx kr kr (fun _=>rfl) (fun B S S' h=>by show([E1 v33 ak x32.L 47,D8 b5 aw x1,D8 b6 af x2,D8 b7 ai (D3.mk v33 x32.M x32.File x32.Method x32.Many),D8 b8 ai (D3.mk (.slice none 0 0) (B3.mk 0 0 0) 0 [] 0),D8 b9 aw (C8.mk [] [] false []),D8 b36 aw x38,(cond (S 17) (D8 (B 16) ab (A9.mk 4 x39 x2.Text x32.Method x2.Type_ false [] x32.File x2.At)) (cond (S 16) (D8 (B 16) ab (A9.mk 0 [] [] [] [] false [] 0 0)) A4.nil))]:Ctx)=[E1 v33 ak x32.L 47,D8 b5 aw x1,D8 b6 af x2,D8 b7 ai (D3.mk v33 x32.M x32.File x32.Method x32.Many),D8 b8 ai (D3.mk (.slice none 0 0) (B3.mk 0 0 0) 0 [] 0),D8 b9 aw (C8.mk [] [] false []),D8 b36 aw x38,(cond (S' 17) (D8 (B 16) ab (A9.mk 4 x39 x2.Text x32.Method x2.Type_ false [] x32.File x2.At)) (cond (S' 16) (D8 (B 16) ab (A9.mk 0 [] [] [] [] false [] 0 0)) A4.nil))];simp only[h 16 (Nat.le_of_ble_eq_true kr),h 17 (Nat.le_of_ble_eq_true kr)]) (fun _=>rfl) (fun B=>?_)
      refine gq1 (fun S hK=>(aj arp)) ?_
      refine gq1 (fun S hK=>(ap (R:=ai) (a:=p12) (R':=Rp.str) 3 ty9 sc (hi:=rfl))) ?_
      refine gq1 (fun S hK=>(aj an4)) ?_
      refine gq1 (fun S hK=>(ap (R:=ai) (a:=p12) (R':=Rp.int .i64) 3 ty3 va (hi:=rfl))) ?_
      refine gq1 (fun S hK=>(c7 (af0 x32.Method x32.Many _ hx39))) ?_
      refine gq1 (fun S hK=>(aj ec)) ?_
      refine gq1 (fun S hK=>(ap (R:=af) (a:=x2) (R':=Rp.str) 2 ty9 bb (hi:=rfl))) ?_
      refine gq1 (fun S hK=>(aj arp)) ?_
      refine gq1 (fun S hK=>(ap (R:=ai) (a:=p12) (R':=Rp.str) 3 ty9 sc (hi:=rfl))) ?_
      refine gq1 (fun S hK=>(aj ti)) ?_
      refine gq1 (fun S hK=>(ap (R:=af) (a:=x2) (R':=Rp.str) 2 ty9 fj (hi:=rfl))) ?_
      refine gq1 (fun S hK=>(aj arq)) ?_
      refine gq1 (fun S hK=>(ap (R:=ai) (a:=p12) (R':=Rp.int .i64) 3 ty3 vb (hi:=rfl))) ?_
      refine gq1 (fun S hK=>(aj mi)) ?_
      refine gq1 (fun S hK=>(ap (R:=af) (a:=x2) (R':=Rp.int .i64) 2 ty3 fe (hi:=rfl))) ?_
      refine gq1 (fun S hK=>(fk st49 ⟨(A9.mk 4 [] [] [] [] false [] 0 0),⟨_,rfl,rfl,qbj⟩,⟨(A9.mk 4 x39 [] [] [] false [] 0 0),⟨_,rfl,rfl,qbj⟩,⟨(A9.mk 4 x39 x2.Text [] [] false [] 0 0),⟨_,rfl,rfl,qbj⟩,⟨(A9.mk 4 x39 x2.Text x32.Method [] false [] 0 0),⟨_,rfl,rfl,qbj⟩,⟨(A9.mk 4 x39 x2.Text x32.Method x2.Type_ false [] 0 0),⟨_,rfl,rfl,qbj⟩,⟨(A9.mk 4 x39 x2.Text x32.Method x2.Type_ false [] x32.File 0),⟨_,rfl,rfl,qbj⟩,⟨(A9.mk 4 x39 x2.Text x32.Method x2.Type_ false [] x32.File x2.At),⟨_,rfl,rfl,qbj⟩,rfl⟩⟩⟩⟩⟩⟩⟩)) ?_
      refine gqA (fun S hK=>⟨fun B' hB=>by show([E1 v33 ak x32.L 47,D8 b5 aw x1,D8 b6 af x2,D8 b7 ai (D3.mk v33 x32.M x32.File x32.Method x32.Many),D8 b8 ai (D3.mk (.slice none 0 0) (B3.mk 0 0 0) 0 [] 0),D8 b9 aw (C8.mk [] [] false []),D8 b36 aw x38,(cond (S 17) (D8 (B' 16) ab (A9.mk 4 x39 x2.Text x32.Method x2.Type_ false [] x32.File x2.At)) (cond (S 16) (D8 (B' 16) ab (A9.mk 0 [] [] [] [] false [] 0 0)) A4.nil))]:Ctx)=[E1 v33 ak x32.L 47,D8 b5 aw x1,D8 b6 af x2,D8 b7 ai (D3.mk v33 x32.M x32.File x32.Method x32.Many),D8 b8 ai (D3.mk (.slice none 0 0) (B3.mk 0 0 0) 0 [] 0),D8 b9 aw (C8.mk [] [] false []),D8 b36 aw x38,(cond (S 17) (D8 (B 16) ab (A9.mk 4 x39 x2.Text x32.Method x2.Type_ false [] x32.File x2.At)) (cond (S 16) (D8 (B 16) ab (A9.mk 0 [] [] [] [] false [] 0 0)) A4.nil))];simp only[hK.me,hK.F 17 kr,cond_false],fun s ρ hg _=>avx (R:=ab) (z:=(A9.mk 0 [] [] [] [] false [] 0 0)) 7 zeroValue49 (fun _=>⟨_,⟨_,_,rfl,rfl,⟨_,_,rfl,rfl,⟨_,_,rfl,rfl,⟨_,_,rfl,rfl,⟨_,_,rfl,rfl,⟨_,_,rfl,rfl,⟨_,_,rfl,⟨_,rfl,none,0,rfl,⟨Nat.le_refl _,fun _=>rfl⟩,.inl rfl⟩,⟨_,_,rfl,rfl,⟨_,_,rfl,rfl,rfl⟩⟩⟩⟩⟩⟩⟩⟩⟩,rfl⟩) (congrArg some ((anc (hK.F 17 kr) _ _).trans (anc (hK.me) _ _))) (fun b=>by show([E1 v33 ak x32.L 47,D8 b5 aw x1,D8 b6 af x2,D8 b7 ai (D3.mk v33 x32.M x32.File x32.Method x32.Many),D8 b8 ai (D3.mk (.slice none 0 0) (B3.mk 0 0 0) 0 [] 0),D8 b9 aw (C8.mk [] [] false []),D8 b36 aw x38,(cond (S 17) (D8 b ab (A9.mk 4 x39 x2.Text x32.Method x2.Type_ false [] x32.File x2.At)) (D8 b ab (A9.mk 0 [] [] [] [] false [] 0 0)))]:Ctx)=_;rw[hK.F 17 kr];rfl) s ρ hg⟩) ?_
      refine gqS (fun S hK=>alz.as (ata (R:=ab) (R':=ab) (a:=(A9.mk 0 [] [] [] [] false [] 0 0)) (y:=(A9.mk 4 x39 x2.Text x32.Method x2.Type_ false [] x32.File x2.At)) 7 sizeOf49 (Upd.refl _) (congrArg some ((anc (hK.me) _ _).trans (azk (hK.T 16 kr) _ _)))) (by show(_:Ctx)=[E1 v33 ak x32.L 47,D8 b5 aw x1,D8 b6 af x2,D8 b7 ai (D3.mk v33 x32.M x32.File x32.Method x32.Many),D8 b8 ai (D3.mk (.slice none 0 0) (B3.mk 0 0 0) 0 [] 0),D8 b9 aw (C8.mk [] [] false []),D8 b36 aw x38,D8 (B 16) ab (A9.mk 4 x39 x2.Text x32.Method x2.Type_ false [] x32.File x2.At)];rfl)) ?_
      exact⟨x39,(B 16),h,atOk⟩
    refine W_rs (kUn (aj e8) ?_)
    refine kUn (ap 2 ty3 a8) ?_
    refine kIn rfl rfl rfl ?_
    refine a5 h rfl (fun _ h=>?_) (fun _ h=>?_)
    · refine W_r (kUn (aj aia) ?_)
      refine kUn (ap 2 ty2 abx) ?_
      refine kIn rfl rfl rfl (kUn (aj an3) ?_)
      refine am 6 rfl rfl ajl rfl sizeOf4 ?_
      exact⟨{x1 with Static:=x2.N==1},h,atOk⟩
    refine au ?_
    exact⟨x1,h,atOk⟩
  refine ba (fun e C=>∃x17,pr R x2 x1 x10 x17=some r/\At [(3,Pr.pt b5 0),(4,Pr.pt b6 0),(5,Pr.pt b7 0),(6,Pr.pt b8 0),(7,Pr.pt b9 0),(8,P6 0),(36,Pb x17)] [p9,p3,p4,D8 b7 ai p8,p5,p6] e C) ?_ ?_
  · rintro e C ⟨x17,h,a⟩
    refine W_at a ?_
    unfold pr at h
    refine a5 h rfl (fun _ h=>?_) (fun _ h=>?_)
    · refine ba (fun e C=>∃x20,∃v22,aav R x1 x2 x20=some r/\At [(3,Pr.pt b5 0),(4,Pr.pt b6 0),(5,Pr.pt b7 0),(6,Pr.pt b8 0),(7,Pr.pt b9 0)] [E1 v22 ak x20.L 47,p3,p4,D8 b7 ai (D3.mk v22 x20.M x20.File x20.Method x20.Many),p5,p6] e C) ?_ ?_
      · rintro e C ⟨x20,v22,h,a⟩
        refine W_at a ?_
        unfold aav at h
        refine W_r (kAs rfl ?_)
        exact⟨1,x20.M,x20.File,x20.Method,x20.Many,x20.L,v22,h,atOk⟩
      obtain⟨x19,hx19,h⟩:=ag h
      obtain⟨⟨x20,x21⟩,k,h⟩:=ag h
      refine aah [0,0,2,6,14,0,63,127,255,255,511] [[p3],[],[p4],[],[],[D8 b7 ai p8],[],[],[],[],[]] hmx kr kr kr rfl ?_
      refine aq1 0 1 1 (out:=(aw).val x1) rfl rfl (fun C9 i9 h9=>(ap (R:=aw) (a:=x1) (R':=aw) i9 ty84 (Sub.refl _) (hi:=h9))) ?_
      refine aq0 1 3 (out:=Pr.pt b6 8) rfl (fun C9=>(aj kw)) ?_
      refine aq1 2 7 2 (out:=ao af x2.Kids) rfl rfl (fun C9 i9 h9=>(ap (R:=af) (a:=x2) (R':=Rp.list af) i9 ty53 cn (hi:=h9))) ?_
      refine aq0 3 15 (out:=mq af x19) rfl (fun C9=>(du (R:=af) (l:=x2.Kids) underlying53 sizeOf64 hx19)) ?_
      refine aq0 4 31 (out:=(af).val x19) rfl (fun C9=>(bz (R:=af) (a:=x19) ty64)) ?_
      refine aq1 5 63 3 (out:=(ai).val p8) rfl rfl (fun C9 i9 h9=>(ap (R:=ai) (a:=p8) (R':=ai) i9 ty83 (Sub.refl _) (hi:=h9))) ?_
      refine ae 6 127 rfl (fun g9=>?_)
      refine gu [0] (ih x1 x19 x10 v11 _ k) (fun q C' hq=>?_)
      obtain⟨v22,rfl,rfl⟩:=hq
      refine rCtx [E1 v22 ak x20.L 47,p3,p4,D8 b7 ai p8,p5,p6] ?_
      refine f6 _ [] cd ?_
      refine aq0 7 255 (out:=bj [(ai).val (D3.mk v22 x20.M x20.File x20.Method x20.Many),(aw).val x21]) rfl (fun C9=>fr) ?_
      refine aq0 8 511 (out:=(ai).val (D3.mk v22 x20.M x20.File x20.Method x20.Many)) rfl (fun C9=>al) ?_
      refine aq0 9 1023 (out:=(aw).val x21) rfl (fun C9=>al) ?_
      refine ae 10 2047 rfl (fun g9=>?_)
      refine am 3 rfl rfl (Upd.refl _) rfl sizeOf83 ?_
      refine f6 .any [] cd ?_
      refine yj ?_
      exact⟨x20,v22,h,atOk⟩
    refine au ?_
    exact⟨0,x10.M,x10.File,x10.Method,x10.Many,x10.L,v11,h,atOk⟩
  refine W_r (kUn (aj e8) ?_)
  refine kUn (ap 2 ty3 a8) ?_
  refine kIn rfl rfl rfl (kMv rfl ?_)
  rcases bn h with⟨hc14,h⟩|⟨hc14,h⟩
  · refine skx ?_
    refine kPt rfl hc14 rfl (kMv rfl ?_)
    have hc16:true=true:=rfl
    refine kGd rfl aa hc16 (aj kw) ?_
    refine kGd rfl aa hc16 (ap 2 ty53 cn) ?_
    refine kGd rfl aa hc16 (jf rfl underlying53) ?_
    refine kGd rfl aa hc16 (qInt rfl rfl rfl) (kPt rfl hc16 rfl ?_)
    exact⟨decide ((x2.Kids.length:Int)>0),h,atOk⟩
  refine kGd rfl aa hc14 (aj e8) ?_
  refine kGd rfl aa hc14 (ap 2 ty3 a8) ?_
  refine kGd rfl aa hc14 (qInt rfl rfl rfl) (kPf rfl hc14 rfl (kMv rfl ?_))
  rcases bn h with⟨hc15,h⟩|⟨hc15,h⟩
  · refine kGd rfl aa hc15 (aj kw) ?_
    refine kGd rfl aa hc15 (ap 2 ty53 cn) ?_
    refine kGd rfl aa hc15 (jf rfl underlying53) ?_
    refine kGd rfl aa hc15 (qInt rfl rfl rfl) (kPt rfl hc15 rfl ?_)
    exact⟨decide ((x2.Kids.length:Int)>0),h,atOk⟩
  refine skx ?_
  refine kPf rfl hc15 rfl ?_
  exact⟨false,h,atOk⟩
theorem amx :∀n,aen (ct n):=by
 intro n
 induction n with
 |zero=>exact(fun x1 x2 x3 v4 r h=>nomatch (show none=some r from h))
 |succ n ih=>exact(fun x1 x2 x3 v4 r h=>amz (ct n) ih x1 x2 x3 v4 r h)
theorem asq (x1:C8) (x2:B5) (x3:C7) (v4:Value) (r:C7 × C8) (h:amk x1 x2 x3=some r):Fc 43 [(aw).val x1,(af).val x2,(ai).val (D3.mk v4 x3.M x3.File x3.Method x3.Many)] [E1 v4 ak x3.L 47] (fun q C'=>∃u0,q=bj [(ai).val (D3.mk u0 r.1.M r.1.File r.1.Method r.1.Many),(aw).val r.2]/\C'=[E1 u0 ak r.1.L 47]):=(amx 1048576) x1 x2 x3 v4 r h
end Go.Proofs.YtcndghapmoaidaaGreatDoor
set_option linter.unusedSectionVars false
set_option maxRecDepth 100000
set_option maxHeartbeats 4000000
namespace Go.Proofs.YtcndghapmoaidaaGreatDoor
open Go Go.Cn Tryz
attribute [local irreducible] mq ao
theorem ast (x1:List B7) (r:(List B7)) (h:agx x1=some r):Fp 45 [ao ak x1] (ao ak r):=by
 refine c8 (rs:=[2]) func45 rfl ntmps45 ⟨by decide,results45⟩ dcd (fun s0=>?_)
 unfold agx at h
 refine W_rs (kAs rfl (W_rs (kAs rfl (a6 (W_rs (kAs rfl (az ?_)))))))
 obtain⟨z2l,hz2,h⟩:=ag h
 obtain⟨n2,hN2⟩:=bm hz2
 refine cp 0 (fun e C=>∃x4,∃v2,ada x4=some r/\At [(3,Pi v2)] [E1 v2 ak x4 47] e C) ?_ ?_
 ·rintro e C ⟨x4,v2,h,a⟩
  refine W_at a ?_
  unfold ada at h
  refine W_rs (kMv rfl (kAs rfl ?_))
  refine aly 0 [2] ?_ rfl ⟨rfl,tv⟩
  obtain rfl:=osj h
  exact a7 ⟨rfl,aa⟩
 refine agk [3] ak 47 (fun v32=>?_) ⟨rfl,tv⟩
 refine dq (fun m e C=>∃x3,∃x4,∃v2,ez (fun s=>oz x1 s.1 s.2) m (x3,x4)=some z2l/\At [(0,ao ak x1),(3,Pi v2),(4,P6 x3)] [E1 v2 ak x4 47] e C) n2 ⟨0,[],v32,hN2,⟨⟨aa,aa,aa,tv⟩,A8.refl _⟩⟩ ?_
 rintro m e C ⟨x3,x4,v2,hN2,a⟩
 refine W_at a ?_
 obtain⟨m2,w2l,rfl,h2l,hn2,ho2⟩:=bc hN2
 replace h2l:oz x1 x3 x4=some w2l:=h2l
 unfold oz at h2l
 refine a6 (W_rs (kMv rfl (kMvL rfl (kUn (jf rfl underlying27) ?_))))
 refine kIn rfl rfl rfl ?_
 refine a5 h2l rfl (fun _ h2l=>?_) (fun _ h2l=>?_)
 ·refine au (a6 (az (W_rs (kMv rfl (kUn (awk 0 rfl underlying27) ?_)))))
  refine kAs rfl (a6 (az ?_))
  obtain⟨z4l,hz4,h2l⟩:=ag h2l
  obtain⟨n4,hN4⟩:=bm hz4
  refine cp 2 (fun e C=>∃x9,ac9 x4 x1 x3 x9=some w2l/\At [(0,ao ak x1),(3,Pi v2),(4,P6 x3),(5,P6 x9)] [E1 v2 ak x4 47] e C) ?_ ?_
  ·rintro e C ⟨x9,h2l,a⟩
   refine W_at a ?_
   unfold ac9 at h2l
   refine W_rs (kAs rfl (W_rs (kMv rfl (kMv rfl (kMv rfl ?_)))))
   obtain⟨x22,k,h2l⟩:=ag h2l
   refine rRel 0 [3,62] ?_ rfl ⟨rfl,rfl,tv⟩
   refine kUn (qLSubH underlying27 sizeOf47 k) ?_
   obtain⟨x24,k,h2l⟩:=ag h2l
   refine rNil [61] ak 47 (fun v23=>?_) ⟨rfl,tv⟩
   refine fp 0 el27 k (fun v25=>?_)
   refine kAs rfl (W_rs (kMv rfl (kMvL rfl (kMv rfl ?_))))
   obtain⟨x26,k,h2l⟩:=ag h2l
   refine kUn (du underlying27 sizeOf47 k) ?_
   refine kUn (bz ty47) ?_
   refine kUn (cm (R:=ak) (a:=x26) el27 nb) ?_
   obtain⟨x27,k,h2l⟩:=ag h2l
   refine fp 0 el27 k (fun v28=>?_)
   refine kAs rfl (W_rs (kMv rfl (kMvL rfl (kMv rfl ?_))))
   obtain⟨x29,k,h2l⟩:=ag h2l
   refine kUn (a0x underlying27 sizeOf47 k) ?_
   obtain⟨x30,k,h2l⟩:=ag h2l
   refine fp 0 el27 k (fun v31=>?_)
   refine kAs rfl (W_r (kMv rfl (kAs rfl (W_r (kMv rfl (kIn rfl rfl rfl (kAs rfl ?_)))))))
   exact⟨m2,lsu,w64 (x3+1),x30,v31,hn2 _ (ojs h2l),atOk⟩
  refine dq (fun m e C=>∃x9,ez (fun s=>oy x4 x1 x3 s) m x9=some z4l/\At [(0,ao ak x1),(3,Pi v2),(4,P6 x3),(5,P6 x9)] [E1 v2 ak x4 47] e C) n4 ⟨(x4.length:Int),hN4,⟨⟨aa,aa,aa,aa,tv⟩,A8.refl _⟩⟩ ?_
  rintro m e C ⟨x9,hN4,a⟩
  refine W_at a ?_
  obtain⟨m4,w4l,rfl,h4l,hn4,ho4⟩:=bc hN4
  replace h4l:oy x4 x1 x3 x9=some w4l:=h4l
  unfold oy at h4l
  refine a6 ?_
  refine ba (fun e C=>∃x20,o0 x9 x20=some w4l/\At [(0,ao ak x1),(3,Pi v2),(4,P6 x3),(5,P6 x9),(58,Pb x20)] [E1 v2 ak x4 47] e C) ?_ ?_
  ·rintro e C ⟨x20,h4l,a⟩
   refine W_at a ?_
   unfold o0 at h4l
   refine a5 h4l rfl (fun _ h4l=>?_) (fun _ h4l=>?_)
   ·refine au (az (W_r (kMv rfl (kIn rfl rfl rfl (kAs rfl ?_)))))
    exact⟨m4,lsu,w64 (x9 - 1),hn4 _ (ojs h4l),atOk⟩
   refine dp ?_
   obtain rfl:=ho4 _ (ojs h4l)
   exact⟨x9,h2l,atOk⟩
  refine jg 44 hmx kr kr ?_
  refine lUn (hMvA rfl) (lUn (qInt rfl rfl rfl) (lUn (hMvA rfl) ?_))
  rcases bn h4l with⟨hc11,h4l⟩|⟨hc11,h4l⟩
  ·refine lGd rfl aa hc11 (hMvA rfl) (lGd rfl aa hc11 (hMvA rfl) (lGd rfl aa hc11 (qInt rfl rfl rfl) ?_))
   obtain⟨x12,k,h4l⟩:=ag h4l
   refine lGd rfl aa hc11 (vq 0 (R:=ak) (l:=x4) underlying27 sizeOf47 k) ?_
   refine lGd rfl aa hc11 (al3 aie) ?_
   refine lGd rfl aa hc11 (uc (R:=ak) (R':=Rp.int .i64) (l:=x4) (a:=x12) (o:=0) 0 ty3 nd nb k rfl) ?_
   refine lGd rfl aa hc11 (hMvL rfl) (lGd rfl aa hc11 (hMvA rfl) ?_)
   obtain⟨x13,k,h4l⟩:=ag h4l
   refine lGd rfl aa hc11 (du underlying27 sizeOf47 k) ?_
   refine lGd rfl aa hc11 (dv aie nd) ?_
   refine lGd rfl aa hc11 (bz ty3) ?_
   refine lGd rfl aa hc11 (qInt rfl rfl rfl) (lGd rfl aa hc11 (hMvA rfl) ?_)
   rcases bn h4l with⟨hc14,h4l⟩|⟨hc14,h4l⟩
   ·refine lsx ?_
    refine lGd rfl aa hc11 (hPt rfl hc14 rfl) (lUn (hPt rfl hc11 rfl) ?_)
    exact⟨true,h4l,atOk⟩
   refine lGd rfl aa hc14 (hMvA rfl) (lGd rfl aa hc14 (hMvA rfl) (lGd rfl aa hc14 (qInt rfl rfl rfl) ?_))
   obtain⟨x15,k,h4l⟩:=ag h4l
   refine lGd rfl aa hc14 (vq 0 (R:=ak) (l:=x4) underlying27 sizeOf47 k) ?_
   refine lGd rfl aa hc14 (al3 aie) ?_
   refine lGd rfl aa hc14 (uc (R:=ak) (R':=Rp.int .i64) (l:=x4) (a:=x15) (o:=0) 0 ty3 nd nb k rfl) ?_
   refine lGd rfl aa hc14 (hMvL rfl) (lGd rfl aa hc14 (hMvA rfl) ?_)
   obtain⟨x16,k,h4l⟩:=ag h4l
   refine lGd rfl aa hc14 (du underlying27 sizeOf47 k) ?_
   refine lGd rfl aa hc14 (dv aie nd) ?_
   refine lGd rfl aa hc14 (bz ty3) ?_
   refine lGd rfl aa hc14 (qInt rfl rfl rfl) (lGd rfl aa hc14 (hMvA rfl) ?_)
   rcases bn h4l with⟨hc17,h4l⟩|⟨hc17,h4l⟩
   ·refine lGd rfl aa hc17 (hMvA rfl) (lGd rfl aa hc17 (hMvA rfl) (lGd rfl aa hc17 (qInt rfl rfl rfl) ?_))
    obtain⟨x18,k,h4l⟩:=ag h4l
    refine lGd rfl aa hc17 (vq 0 (R:=ak) (l:=x4) underlying27 sizeOf47 k) ?_
    refine lGd rfl aa hc17 (al3 amc) ?_
    refine lGd rfl aa hc17 (uc (R:=ak) (R':=Rp.int .i64) (l:=x4) (a:=x18) (o:=1) 0 ty3 yr nb k rfl) ?_
    refine lGd rfl aa hc17 (hMvL rfl) (lGd rfl aa hc17 (hMvA rfl) ?_)
    obtain⟨x19,k,h4l⟩:=ag h4l
    refine lGd rfl aa hc17 (du underlying27 sizeOf47 k) ?_
    refine lGd rfl aa hc17 (dv amc yr) ?_
    refine lGd rfl aa hc17 (bz ty3) ?_
    refine lGd rfl aa hc17 (qInt rfl rfl rfl) (lGd rfl aa hc14 (hPt rfl hc17 rfl) (lGd rfl aa hc11 (hPf rfl hc14 rfl) (lUn (hPt rfl hc11 rfl) ?_)))
    exact⟨decide (x18.At>x19.At),h4l,atOk⟩
   refine lsx ?_
   refine lGd rfl aa hc14 (hPf rfl hc17 rfl) (lGd rfl aa hc11 (hPf rfl hc14 rfl) (lUn (hPt rfl hc11 rfl) ?_))
   exact⟨false,h4l,atOk⟩
  refine lsx ?_
  refine lUn (hPf rfl hc11 rfl) ?_
  exact⟨false,h4l,atOk⟩
 refine dp ?_
 obtain rfl:=ho2 _ (ojs h2l)
 exact⟨x4,v2,h,atOk⟩
theorem ass (x1:List (List B5)) (r:(List B7) × B3) (h:agw x1=some r):Fp 14 [ao (Rp.list af) x1] (bj [ao ak r.1,(ay).val r.2]):=by
 refine c9 (rs:=[.tmp 2,.cell 3 30]) func14 rfl ntmps14 results14 dcd (fun s0=>?_)
 let p1:=B3.mk 0 0 0
 unfold agw at h
 refine W_rs (kAs rfl (bg al30 fun b2=>W_rs (kMvL rfl ?_)))
 let p2:=D8 b2 ay p1
 obtain⟨⟨x3,x4⟩,k,h⟩:=ag h
 refine kUn (c7 (ajz x1 _ k)) ?_
 refine kUn (hMv (out:=bj [ao ab x3,(ay).val x4]) rfl) (kUn al ?_)
 refine kUn al ?_
 refine bg al30 fun b5=>kAsL rfl (am 1 rfl rfl (Upd.refl _) rfl sizeOf30 (a6 (W_rs (kUn (aj aj5) ?_))))
 let p3:=D8 b5 ay x4
 refine kUn (ap 1 ty28 kl) ?_
 refine kIn rfl rfl rfl ?_
 refine a5 h rfl (fun _ h=>?_) (fun _ h=>?_)
 ·refine ba (fun e C=>ac8 x4=some r/\At [(2,Pi (.slice none 0 0)),(3,Pr.pt b2 0)] [D8 b2 ay x4,p3] e C) ?_ ?_
  ·rintro e C ⟨h,a⟩
   refine W_at a ?_
   unfold ac8 at h
   obtain rfl:=osj h
   exact a7 ⟨rfl,[ao ak [],(ay).val x4],⟨yT (dr _),yBox 0 ty30 aa,tv⟩,aa⟩
  refine jg 2 hmx kr kr ?_
  refine lUn (ap 1 ty30 (Sub.refl _)) ?_
  refine lUn (hAsA rfl) (am 0 rfl rfl (Upd.refl _) rfl sizeOf30 ?_)
  exact⟨h,atOk⟩
 refine au (W_rs (kMvL rfl (cr h (apy x3) rfl fun x7 _ h=>?_)))
 refine bg al30 fun b8=>am 2 rfl rfl (Upd.refl _) rfl sizeOf30 (a6 (W_rs (kUn (aj aj5) ?_)))
 let p4:=D8 b8 ay x7
 refine kUn (ap 2 ty28 kl) ?_
 refine kIn rfl rfl rfl ?_
 refine a5 h rfl (fun _ h=>?_) (fun _ h=>?_)
 ·refine ba (fun e C=>ahl x7=some r/\At [(2,Pi (.slice none 0 0)),(3,Pr.pt b2 0)] [D8 b2 ay x7,p3,p4] e C) ?_ ?_
  ·rintro e C ⟨h,a⟩
   refine W_at a ?_
   unfold ahl at h
   obtain rfl:=osj h
   exact a7 ⟨rfl,[ao ak [],(ay).val x7],⟨yT (dr _),yBox 0 ty30 aa,tv⟩,aa⟩
  refine jg 2 hmx kr kr ?_
  refine lUn (ap 2 ty30 (Sub.refl _)) ?_
  refine lUn (hAsA rfl) (am 0 rfl rfl (Upd.refl _) rfl sizeOf30 ?_)
  exact⟨h,atOk⟩
 refine au (W_rs (kUn (fk ao3 rfl) ?_))
 refine bg al83 fun b10=>am 3 rfl rfl (Upd.refl _) rfl sizeOf83 (a6 (W_rs (kAs rfl (az ?_))))
 obtain⟨z4l,hz4,h⟩:=ag h
 obtain⟨n4,hN4⟩:=bm hz4
 refine cp 0 (fun e C=>∃x13,∃x14,∃x15,∃x16,∃x17,∃v12,ac5 x13 x14 x15 x16 x17=some r/\At [(3,Pr.pt b2 0),(7,Pr.pt b10 0)] [p2,p3,p4,D8 b10 ai (D3.mk v12 x13 x14 x15 x16),E1 v12 ak x17 47] e C) ?_ ?_
 ·rintro e C ⟨x13,x14,x15,x16,x17,v12,h,a⟩
  refine W_at a ?_
  unfold ac5 at h
  refine W_rs (kUn (aj au7) ?_)
  refine kUn (w8 (R:=ai) (a:=(D3.mk v12 x13 x14 x15 x16)) 3 ty27 afi) ?_
  obtain⟨x60,k,h⟩:=ag h
  refine rRel 4 [79] ?_ rfl ⟨rfl,tv⟩
  refine kUn (c7 (ast x17 _ k)) ?_
  refine kUn (fk st30 rfl) ?_
  refine kAsL rfl (am 0 rfl rfl (Upd.refl _) rfl sizeOf30 ?_)
  obtain rfl:=osj h
  exact a7 ⟨rfl,[ao ak x60,(ay).val p1],⟨yT aa,yBox 0 ty30 aa,tv⟩,aa⟩
 refine axl ak 47 ?_
 refine dq (fun m e C=>∃x11,∃x13,∃x14,∃x15,∃x16,∃x17,∃v12,ez (fun s=>m0 x1 x3 s.1 s.2.1 s.2.2.1 s.2.2.2.1 s.2.2.2.2.1 s.2.2.2.2.2) m (x11,x13,x14,x15,x16,x17)=some z4l/\At [(0,ao (Rp.list af) x1),(3,Pr.pt b2 0),(4,ao ab x3),(7,Pr.pt b10 0),(8,P6 x11)] [p2,p3,p4,D8 b10 ai (D3.mk v12 x13 x14 x15 x16),E1 v12 ak x17 47] e C) n4 ⟨0,p1,0,[],0,[],(.slice none 0 0),hN4,⟨⟨aa,aa,aa,aa,aa,tv⟩,A8.refl _⟩⟩ ?_
 rintro m e C ⟨x11,x13,x14,x15,x16,x17,v12,hN4,a⟩
 refine W_at a ?_
 obtain⟨m4,w4l,rfl,h4l,hn4,ho4⟩:=bc hN4
 replace h4l:m0 x1 x3 x11 x13 x14 x15 x16 x17=some w4l:=h4l
 unfold m0 at h4l
 refine a6 (W_rs (kMv rfl (kMvL rfl (kUn (jf rfl underlying24) ?_))))
 refine kIn rfl rfl rfl ?_
 refine a5 h4l rfl (fun _ h4l=>?_) (fun _ h4l=>?_)
 ·refine au (a6 (az (W_rs (kMv rfl (kUn (aj arq) ?_)))))
  refine am 3 rfl rfl ai4 rfl sizeOf3 ?_
  refine rCtx [p2,p3,p4,D8 b10 ai (D3.mk v12 x13 x11 x15 x16),E1 v12 ak x17 47] ?_
  refine W_rs (kAs rfl (az ?_))
  obtain⟨z6l,hz6,h4l⟩:=ag h4l
  obtain⟨n6,hN6⟩:=bm hz6
  refine cp 2 (fun e C=>∃x28,∃x29,∃x30,∃x31,∃x32,∃v27,ac4 x11 x28 x29 x30 x31 x32=some w4l/\At [(0,ao (Rp.list af) x1),(3,Pr.pt b2 0),(4,ao ab x3),(7,Pr.pt b10 0),(8,P6 x11)] [p2,p3,p4,D8 b10 ai (D3.mk v27 x28 x29 x30 x31),E1 v27 ak x32 47] e C) ?_ ?_
  ·rintro e C ⟨x28,x29,x30,x31,x32,v27,h4l,a⟩
   refine W_at a ?_
   unfold ac4 at h4l
   refine W_r (kMv rfl (kIn rfl rfl rfl (kAs rfl ?_)))
   exact⟨m4,lsu,w64 (x11+1),x28,x29,x30,x31,x32,v27,hn4 _ (ojs h4l),atOk⟩
  refine dq (fun m e C=>∃x26,∃x28,∃x29,∃x30,∃x31,∃x32,∃v27,ez (fun s=>r5 x1 x11 x3 s.1 s.2.1 s.2.2.1 s.2.2.2.1 s.2.2.2.2.1 s.2.2.2.2.2) m (x26,x28,x29,x30,x31,x32)=some z6l/\At [(0,ao (Rp.list af) x1),(3,Pr.pt b2 0),(4,ao ab x3),(7,Pr.pt b10 0),(8,P6 x11),(9,P6 x26)] [p2,p3,p4,D8 b10 ai (D3.mk v27 x28 x29 x30 x31),E1 v27 ak x32 47] e C) n6 ⟨0,x13,x11,x15,x16,x17,v12,hN6,⟨⟨aa,aa,aa,aa,aa,aa,tv⟩,A8.refl _⟩⟩ ?_
  rintro m e C ⟨x26,x28,x29,x30,x31,x32,v27,hN6,a⟩
  let p5:=D3.mk v27 x28 x29 x30 x31
  refine W_at a ?_
  obtain⟨m6,w6l,rfl,h6l,hn6,ho6⟩:=bc hN6
  replace h6l:r5 x1 x11 x3 x26 x28 x29 x30 x31 x32=some w6l:=h6l
  unfold r5 at h6l
  refine a6 (W_rs (kMv rfl (kMvL rfl (kMv rfl ?_))))
  obtain⟨x40,k,h6l⟩:=ag h6l
  refine kUn (du underlying24 sizeOf53 k) ?_
  refine kUn (bz ty53) ?_
  refine kUn (jf rfl underlying53) ?_
  refine kIn rfl rfl rfl ?_
  refine a5 h6l rfl (fun _ h6l=>?_) (fun _ h6l=>?_)
  ·refine au ?_
   refine ba (fun e C=>∃x55,∃x56,∃x57,∃x58,∃x59,∃v54,vj x26 x55 x56 x57 x58 x59=some w6l/\At [(0,ao (Rp.list af) x1),(3,Pr.pt b2 0),(4,ao ab x3),(7,Pr.pt b10 0),(8,P6 x11),(9,P6 x26)] [p2,p3,p4,D8 b10 ai (D3.mk v54 x55 x56 x57 x58),E1 v54 ak x59 47] e C) ?_ ?_
   ·rintro e C ⟨x55,x56,x57,x58,x59,v54,h6l,a⟩
    refine W_at a ?_
    unfold vj at h6l
    refine W_r (kMv rfl (kIn rfl rfl rfl (kAs rfl ?_)))
    exact⟨m6,lsu,w64 (x26+1),x55,x56,x57,x58,x59,v54,hn6 _ (ojs h6l),atOk⟩
   refine az (a6 (W_rs (kMvL rfl (kMv rfl ?_))))
   obtain⟨x42,k,h6l⟩:=ag h6l
   refine kUn (du underlying24 sizeOf53 k) ?_
   refine kUn (bz ty53) ?_
   refine kMv rfl ?_
   obtain⟨x43,k,h6l⟩:=ag h6l
   refine kUn (du underlying53 sizeOf64 k) ?_
   refine kUn (dv e8 a8) ?_
   refine kUn (bz ty3) ?_
   refine kIn rfl rfl rfl ?_
   refine a5 h6l rfl (fun _ h6l=>?_) (fun _ h6l=>?_)
   ·refine dp ?_
    exact⟨x28,x29,x30,x31,x32,v27,h6l,atOk⟩
   refine au ?_
   refine ba (fun e C=>∃x49,∃v51,ac6 x26 x49=some w6l/\At [(0,ao (Rp.list af) x1),(3,Pr.pt b2 0),(4,ao ab x3),(7,Pr.pt b10 0),(8,P6 x11),(9,P6 x26)] [E1 v51 ak x49.L 47,p2,p3,p4,D8 b10 ai (D3.mk v51 x49.M x49.File x49.Method x49.Many)] e C) ?_ ?_
   ·rintro e C ⟨x49,v51,h6l,a⟩
    refine W_at a ?_
    unfold ac6 at h6l
    refine W_rs (kUn (ap 4 ty83 (Sub.refl _)) ?_)
    obtain⟨x52,k,h6l⟩:=ag h6l
    refine gu [0] (o5 x49 v51 _ k) (fun q C' hq=>?_)
    obtain⟨rfl,rfl⟩:=hq
    refine a5 h6l rfl (fun _ h6l=>?_) (fun _ h6l=>?_)
    ·refine ba (fun e C=>ac7 x49=some w6l/\At [(2,Pi (.slice none 0 0)),(3,Pr.pt b2 0)] [E1 v51 ak x49.L 47,D8 b2 ay x49.M,p3,p4,D8 b10 ai (D3.mk v51 x49.M x49.File x49.Method x49.Many)] e C) ?_ ?_
     ·rintro e C ⟨h6l,a⟩
      refine W_at a ?_
      unfold ac7 at h6l
      obtain rfl:=ho6 _ (ojs h6l)
      replace h4l:some (.inr (.done ([],x49.M)))=some w4l:=h4l
      obtain rfl:=ho4 _ (ojs h4l)
      replace h:some ([],x49.M)=some r:=h
      obtain rfl:=osj h
      exact a7 ⟨rfl,[ao ak [],(ay).val x49.M],⟨yT (dr _),yBox 1 ty30 aa,tv⟩,aa⟩
     refine jg 3 hmx kr kr ?_
     refine lUn (aj au6) ?_
     refine lUn (ap 4 ty30 afh) ?_
     refine lUn (hAsA rfl) (am 1 rfl rfl (Upd.refl _) rfl sizeOf30 ?_)
     exact⟨h6l,atOk⟩
    refine au ?_
    exact⟨x49.M,x49.File,x49.Method,x49.Many,x49.L,v51,h6l,⟨⟨aa,aa,aa,aa,aa,aa,tv⟩,A8.of [1,2,3,4,0] rfl⟩⟩
   obtain⟨x45,hx45,h6l⟩:=ag h6l
   obtain⟨x46,hx46,h6l⟩:=ag h6l
   let p6:=C8.mk x3 x46.Text false []
   obtain⟨x47,hx47,h6l⟩:=ag h6l
   obtain⟨x48,hx48,h6l⟩:=ag h6l
   obtain⟨⟨x49,x50⟩,k,h6l⟩:=ag h6l
   refine aah [0,0,0,6,14,0,62,126,254,511,0,0,3072,7168,0,31744,64512,0,262143,524287,1048575,1048575,2097151] [[],[],[],[],[],[],[],[],[],[],[],[],[],[],[],[],[],[D8 b10 ai p5],[],[],[],[],[]] hmx kr kr kr rfl ?_
   refine aq0 0 1 (out:=ao ab x3) rfl (fun C9=>fr) ?_
   refine aq0 1 3 (out:=ao (Rp.list af) x1) rfl (fun C9=>fr) ?_
   refine aq0 2 7 (out:=P6 x11) rfl (fun C9=>fr) ?_
   refine aq0 3 15 (out:=mq (Rp.list af) x45) rfl (fun C9=>(du (R:=Rp.list af) (l:=x1) underlying24 sizeOf53 hx45)) ?_
   refine aq0 4 31 (out:=ao af x45) rfl (fun C9=>(bz (R:=Rp.list af) (a:=x45) ty53)) ?_
   refine aq0 5 63 (out:=P6 x26) rfl (fun C9=>fr) ?_
   refine aq0 6 127 (out:=mq af x46) rfl (fun C9=>(du (R:=af) (l:=x45) underlying53 sizeOf64 hx46)) ?_
   refine aq0 7 255 (out:=mq Rp.str x46.Text) rfl (fun C9=>(dv (R:=af) (a:=x46) ec bb)) ?_
   refine aq0 8 511 (out:=Pr.str x46.Text) rfl (fun C9=>(bz (R:=Rp.str) (a:=x46.Text) ty9)) ?_
   refine aq0 9 1023 (out:=(aw).val p6) rfl (fun C9=>(fk st84 ⟨(C8.mk x3 [] false []),⟨_,rfl,rfl,qbj⟩,⟨p6,⟨_,rfl,rfl,qbj⟩,rfl⟩⟩)) ?_
   refine aq0 10 2047 (out:=ao (Rp.list af) x1) rfl (fun C9=>fr) ?_
   refine aq0 11 4095 (out:=P6 x11) rfl (fun C9=>fr) ?_
   refine aq0 12 8191 (out:=mq (Rp.list af) x47) rfl (fun C9=>(du (R:=Rp.list af) (l:=x1) underlying24 sizeOf53 hx47)) ?_
   refine aq0 13 16383 (out:=ao af x47) rfl (fun C9=>(bz (R:=Rp.list af) (a:=x47) ty53)) ?_
   refine aq0 14 32767 (out:=P6 x26) rfl (fun C9=>fr) ?_
   refine aq0 15 65535 (out:=mq af x48) rfl (fun C9=>(du (R:=af) (l:=x47) underlying53 sizeOf64 hx48)) ?_
   refine aq0 16 131071 (out:=(af).val x48) rfl (fun C9=>(bz (R:=af) (a:=x48) ty64)) ?_
   refine aq1 17 262143 3 (out:=(ai).val p5) rfl rfl (fun C9 i9 h9=>(ap (R:=ai) (a:=p5) (R':=ai) i9 ty83 (Sub.refl _) (hi:=h9))) ?_
   refine ae 18 524287 rfl (fun g9=>?_)
   refine gu [4] (asq p6 x48 (C7.mk x32 x28 x29 x30 x31) v27 _ k) (fun q C' hq=>?_)
   obtain⟨v51,rfl,rfl⟩:=hq
   refine f6 _ [] cd ?_
   refine aq0 19 1048575 (out:=bj [(ai).val (D3.mk v51 x49.M x49.File x49.Method x49.Many),(aw).val x50]) rfl (fun C9=>fr) ?_
   refine aq0 20 2097151 (out:=(ai).val (D3.mk v51 x49.M x49.File x49.Method x49.Many)) rfl (fun C9=>al) ?_
   refine aq0 21 4194303 (out:=(aw).val x50) rfl (fun C9=>al) ?_
   refine ae 22 8388607 rfl (fun g9=>?_)
   refine am 4 rfl rfl (Upd.refl _) rfl sizeOf83 ?_
   refine f6 .any [] cd ?_
   refine yj ?_
   exact⟨x49,v51,h6l,atOk⟩
  refine dp ?_
  obtain rfl:=ho6 _ (ojs h6l)
  exact⟨x28,x29,x30,x31,x32,v27,h4l,atOk⟩
 refine dp ?_
 obtain rfl:=ho4 _ (ojs h4l)
 exact⟨x13,x14,x15,x16,x17,v12,h,atOk⟩
theorem avl (x1:List B7) (x2 x3:Int) (r:Bt × Bool) (h:akj x1 x2 x3=some r):Fp 16 [ao ak x1,P6 x2,P6 x3] (bj [Pr.str r.1,Pb r.2]):=by
 refine c8 (rs:=[6,7]) func16 rfl ntmps16 ⟨by decide,results16⟩ dcd (fun s0=>?_)
 unfold akj at h
 refine W_rs (kAs rfl (kAs rfl (a6 (W_rs (kAs rfl (az ?_))))))
 obtain⟨z2l,hz2,h⟩:=ag h
 obtain⟨n2,hN2⟩:=bm hz2
 refine cp 0 (fun e C=>aj7=some r/\At [] [] e C) ?_ ?_
 ·rintro e C ⟨h,a⟩
  refine W_at a ?_
  unfold aj7 at h
  refine W_rs (kAs rfl (kAs rfl ?_))
  obtain rfl:=osj h
  exact a7 ⟨rfl,aa⟩
 refine dq (fun m e C=>∃x4,ez (fun s=>xy x1 x2 x3 s) m x4=some z2l/\At [(0,ao ak x1),(1,P6 x2),(2,P6 x3),(8,P6 x4)] [] e C) n2 ⟨0,hN2,⟨⟨aa,aa,aa,aa,tv⟩,A8.refl _⟩⟩ ?_
 rintro m e C ⟨x4,hN2,a⟩
 refine W_at a ?_
 obtain⟨m2,w2l,rfl,h2l,hn2,ho2⟩:=bc hN2
 replace h2l:xy x1 x2 x3 x4=some w2l:=h2l
 unfold xy at h2l
 refine a6 (W_rs (kMv rfl (kMvL rfl (kUn (jf rfl underlying27) ?_))))
 refine kIn rfl rfl rfl ?_
 refine a5 h2l rfl (fun _ h2l=>?_) (fun _ h2l=>?_)
 ·refine au (a6 (az ?_))
  refine ba (fun e C=>∃x10,adz x1 x4 x10=some w2l/\At [(0,ao ak x1),(1,P6 x2),(2,P6 x3),(8,P6 x4),(30,Pb x10)] [] e C) ?_ ?_
  ·rintro e C ⟨x10,h2l,a⟩
   refine W_at a ?_
   unfold adz at h2l
   refine a5 h2l rfl (fun _ h2l=>?_) (fun _ h2l=>?_)
   ·refine W_rs (kMvL rfl (kMv rfl ?_))
    obtain⟨x12,k,h2l⟩:=ag h2l
    refine kUn (du underlying27 sizeOf47 k) ?_
    refine kUn (dv an7 abw) ?_
    refine kUn (bz ty9) ?_
    refine kAs rfl (kAs rfl ?_)
    obtain rfl:=ho2 _ (ojs h2l)
    replace h:some (x12.Id,true)=some r:=h
    obtain rfl:=osj h
    exact a7 ⟨rfl,aa⟩
   refine au (W_r (kMv rfl (kIn rfl rfl rfl (kAs rfl ?_))))
   exact⟨m2,lsu,w64 (x4+1),hn2 _ (ojs h2l),atOk⟩
  refine W_r (kMvL rfl (kMv rfl ?_))
  obtain⟨x7,k,h2l⟩:=ag h2l
  refine kUn (du underlying27 sizeOf47 k) ?_
  refine kUn (dv aie nd) ?_
  refine kUn (bz ty3) ?_
  refine kMv rfl (kIn rfl rfl rfl (kMv rfl ?_))
  rcases bn h2l with⟨hc8,h2l⟩|⟨hc8,h2l⟩
  ·refine kGd rfl aa hc8 (hMvL rfl) (kGd rfl aa hc8 (hMvA rfl) ?_)
   obtain⟨x9,k,h2l⟩:=ag h2l
   refine kGd rfl aa hc8 (du underlying27 sizeOf47 k) ?_
   refine kGd rfl aa hc8 (dv amc yr) ?_
   refine kGd rfl aa hc8 (bz ty3) ?_
   refine kGd rfl aa hc8 (hMvA rfl) (kGd rfl aa hc8 (qInt rfl rfl rfl) (kPt rfl hc8 rfl ?_))
   exact⟨x9.At==x3,h2l,atOk⟩
  refine skx ?_
  refine kPf rfl hc8 rfl ?_
  exact⟨false,h2l,atOk⟩
 refine dp ?_
 obtain rfl:=ho2 _ (ojs h2l)
 exact⟨h,atOk⟩
theorem ak2 (x1 x2:List B7) (r:Bool) (h:adp x1 x2=some r):Fp 17 [ao ak x1,ao ak x2] (Pb r):=by
 refine c8 (rs:=[4]) func17 rfl ntmps17 ⟨by decide,results17⟩ dcd (fun s0=>?_)
 unfold adp at h
 refine W_rs (kAs rfl (a6 (W_rs (kMvL rfl (kUn (jf rfl underlying27) ?_)))))
 refine kMvL rfl (kUn (jf rfl underlying27) ?_)
 refine kIn rfl rfl rfl ?_
 refine a5 h rfl (fun _ h=>?_) (fun _ h=>?_)
 ·refine W_rs (kAs rfl ?_)
  obtain rfl:=osj h
  exact a7 ⟨rfl,aa⟩
 refine au (a6 (W_rs (kAs rfl (az ?_))))
 obtain⟨z2l,hz2,h⟩:=ag h
 obtain⟨n2,hN2⟩:=bm hz2
 refine cp 0 (fun e C=>adb=some r/\At [] [] e C) ?_ ?_
 ·rintro e C ⟨h,a⟩
  refine W_at a ?_
  unfold adb at h
  refine W_rs (kAs rfl ?_)
  obtain rfl:=osj h
  exact a7 ⟨rfl,aa⟩
 refine dq (fun m e C=>∃x4,ez (fun s=>o3 x1 x2 s) m x4=some z2l/\At [(0,ao ak x1),(1,ao ak x2),(5,P6 x4)] [] e C) n2 ⟨0,hN2,⟨⟨aa,aa,aa,tv⟩,A8.refl _⟩⟩ ?_
 rintro m e C ⟨x4,hN2,a⟩
 refine W_at a ?_
 obtain⟨m2,w2l,rfl,h2l,hn2,ho2⟩:=bc hN2
 replace h2l:o3 x1 x2 x4=some w2l:=h2l
 unfold o3 at h2l
 refine a6 (W_rs (kMv rfl (kMvL rfl (kUn (jf rfl underlying27) ?_))))
 refine kIn rfl rfl rfl ?_
 refine a5 h2l rfl (fun _ h2l=>?_) (fun _ h2l=>?_)
 ·refine au (a6 (az ?_))
  refine ba (fun e C=>∃x7,∃x8,adc x4 x7 x8=some w2l/\At [(0,ao ak x1),(1,ao ak x2),(5,P6 x4),(25,Pb (!decide (x7=x8)))] [] e C) ?_ ?_
  ·rintro e C ⟨x7,x8,h2l,a⟩
   refine W_at a ?_
   unfold adc at h2l
   refine a5 h2l rfl (fun _ h2l=>?_) (fun _ h2l=>?_)
   ·refine W_rs (kAs rfl ?_)
    obtain rfl:=ho2 _ (ojs h2l)
    replace h:some false=some r:=h
    obtain rfl:=osj h
    exact a7 ⟨rfl,aa⟩
   refine au (W_r (kMv rfl (kIn rfl rfl rfl (kAs rfl ?_))))
   exact⟨m2,lsu,w64 (x4+1),hn2 _ (ojs h2l),atOk⟩
  refine jg 9 hmx kr kr ?_
  refine lUn (hMvL rfl) (lUn (hMvA rfl) ?_)
  obtain⟨x7,k,h2l⟩:=ag h2l
  refine lUn (du underlying27 sizeOf47 k) ?_
  refine lUn (bz ty47) ?_
  refine lUn (hMvL rfl) (lUn (hMvA rfl) ?_)
  obtain⟨x8,k,h2l⟩:=ag h2l
  refine lUn (du underlying27 sizeOf47 k) ?_
  refine lUn (bz ty47) ?_
  refine lUn (qStNe (a:=x7) (b:=x8) a0f dcd rfl ay9) ?_
  exact⟨x7,x8,h2l,atOk⟩
 refine dp ?_
 obtain rfl:=ho2 _ (ojs h2l)
 exact⟨h,atOk⟩
theorem avj (x1:List B7) (x2:Bt) (r:(List B7)) (h:aki x1 x2=some r):Fp 19 [ao ak x1,Pr.str x2] (ao ak r):=by
 refine c8 (rs:=[4]) func19 rfl ntmps19 ⟨by decide,results19⟩ dcd (fun s0=>?_)
 unfold aki at h
 refine W_rs (kAs rfl (W_rs (kAs rfl (a6 (W_rs (kAs rfl (az ?_)))))))
 obtain⟨z2l,hz2,h⟩:=ag h
 obtain⟨n2,hN2⟩:=bm hz2
 refine cp 0 (fun e C=>∃x5,∃v3,ahc x5=some r/\At [(5,Pi v3)] [E1 v3 ak x5 47] e C) ?_ ?_
 ·rintro e C ⟨x5,v3,h,a⟩
  refine W_at a ?_
  unfold ahc at h
  refine W_rs (kMv rfl (kAs rfl ?_))
  refine aly 0 [4] ?_ rfl ⟨rfl,tv⟩
  obtain rfl:=osj h
  exact a7 ⟨rfl,aa⟩
 refine agk [5] ak 47 (fun v17=>?_) ⟨rfl,tv⟩
 refine dq (fun m e C=>∃x4,∃x5,∃v3,ez (fun s=>xx x1 x2 s.1 s.2) m (x4,x5)=some z2l/\At [(0,ao ak x1),(1,Pr.str x2),(5,Pi v3),(6,P6 x4)] [E1 v3 ak x5 47] e C) n2 ⟨0,[],v17,hN2,⟨⟨aa,aa,aa,aa,tv⟩,A8.refl _⟩⟩ ?_
 rintro m e C ⟨x4,x5,v3,hN2,a⟩
 refine W_at a ?_
 obtain⟨m2,w2l,rfl,h2l,hn2,ho2⟩:=bc hN2
 replace h2l:xx x1 x2 x4 x5=some w2l:=h2l
 unfold xx at h2l
 refine a6 (W_rs (kMv rfl (kMvL rfl (kUn (jf rfl underlying27) ?_))))
 refine kIn rfl rfl rfl ?_
 refine a5 h2l rfl (fun _ h2l=>?_) (fun _ h2l=>?_)
 ·refine au ?_
  refine ba (fun e C=>∃x16,∃v15,ady x4 x16=some w2l/\At [(0,ao ak x1),(1,Pr.str x2),(5,Pi v15),(6,P6 x4)] [E1 v15 ak x16 47] e C) ?_ ?_
  ·rintro e C ⟨x16,v15,h2l,a⟩
   refine W_at a ?_
   unfold ady at h2l
   refine W_r (kMv rfl (kIn rfl rfl rfl (kAs rfl ?_)))
   exact⟨m2,lsu,w64 (x4+1),x16,v15,hn2 _ (ojs h2l),atOk⟩
  refine az (W_rs (kMvL rfl (kMv rfl ?_)))
  obtain⟨x10,k,h2l⟩:=ag h2l
  refine kUn (du underlying27 sizeOf47 k) ?_
  refine kUn (dv an7 abw) ?_
  refine kUn (bz ty9) ?_
  refine kMv rfl (kSt rfl rfl rfl ?_)
  refine a5 h2l rfl (fun _ h2l=>?_) (fun _ h2l=>?_)
  ·refine W_r (kMv rfl (kMvL rfl (kMv rfl ?_)))
   obtain⟨x12,k,h2l⟩:=ag h2l
   refine kUn (du underlying27 sizeOf47 k) ?_
   refine kUn (bz ty47) ?_
   refine kUn (cm (R:=ak) (a:=x12) el27 nb) ?_
   obtain⟨x13,k,h2l⟩:=ag h2l
   refine fp 0 el27 k (fun v14=>?_)
   refine kAs rfl ?_
   exact⟨x13,v14,h2l,atOk⟩
  refine au ?_
  exact⟨x5,v3,h2l,atOk⟩
 refine dp ?_
 obtain rfl:=ho2 _ (ojs h2l)
 exact⟨x5,v3,h,atOk⟩
end Go.Proofs.YtcndghapmoaidaaGreatDoor
set_option linter.unusedSectionVars false
set_option maxRecDepth 100000
set_option maxHeartbeats 4000000
namespace Go.Proofs.YtcndghapmoaidaaGreatDoor
open Go Go.Cn Tryz
attribute [local irreducible] mq ao
end Go.Proofs.YtcndghapmoaidaaGreatDoor
set_option linter.unusedSectionVars false
set_option maxRecDepth 100000
set_option maxHeartbeats 4000000
namespace Go.Proofs.YtcndghapmoaidaaGreatDoor
open Go Go.Cn Tryz
attribute [local irreducible] mq ao
end Go.Proofs.YtcndghapmoaidaaGreatDoor
set_option linter.unusedSectionVars false
set_option maxRecDepth 100000
set_option maxHeartbeats 4000000
namespace Go.Proofs.YtcndghapmoaidaaGreatDoor
open Go Go.Cn Tryz
attribute [local irreducible] mq ao
end Go.Proofs.YtcndghapmoaidaaGreatDoor
set_option linter.unusedSectionVars false
set_option maxRecDepth 100000
set_option maxHeartbeats 4000000
namespace Go.Proofs.YtcndghapmoaidaaGreatDoor
open Go Go.Cn Tryz
attribute [local irreducible] mq ao
section
variable {env:Env} {C:Ctx} {ty:TypeId} {pos:String} {after:Array Edge} {gd:Option (Nat × Bool)} {d:Option Nat}
theorem as4 {u:TypeId} {m:B9} {x:Operand} (hx:env.op x=Pi (acj m):=by exact rfl):Q Tryz.prog C ⟨d,.binOp .neq 20 x (.const .nilIface) u,ty,pos,after,gd⟩ env (Pb true):=by
 intro s ρ hs _ h
 have h0:ρ x=acj m:=by have:=h x aeu;rw[hx]at this;exact this
 have h2:ρ (.const .nilIface)= .nilIface:=h (.const .nilIface) aet
 have he:∀d:Nat,(Op.equalIn (d+1) 20 (acj m) .nilIface).run Tryz.prog s.w= .ok false s.w:=fun d=>by simp[acj,Op.equalIn,d7 underlying20]
 refine .of_run hs (v:= .bool true) ?_ rfl
 have h0':ρ x= .iface 72 (.agg #[.int .i64 m.m.Code,.int .i64 m.m.File,.int .i64 m.m.At]):=h0
 have he':=he 9999
 unfold acj at he'
 simp[execOp,h0',h2,eqGuard,binOp,Op.equal,Op.maxDepth,he']
theorem aqi {u:TypeId} {x:Operand} (hx:env.op x=Pi .nilIface:=by exact rfl):Q Tryz.prog C ⟨d,.binOp .neq 20 x (.const .nilIface) u,ty,pos,after,gd⟩ env (Pb false):=by
 intro s ρ hs _ h
 have h0:ρ x= .nilIface:=by have:=h x aeu;rw[hx]at this;exact this
 have h2:ρ (.const .nilIface)= .nilIface:=h (.const .nilIface) aet
 have he:∀d:Nat,(Op.equalIn (d+1) 20 .nilIface .nilIface).run Tryz.prog s.w= .ok true s.w:=fun d=>by simp[Op.equalIn,d7 underlying20]
 refine .of_run hs (v:= .bool false) ?_ rfl
 simp[execOp,h0,h2,eqGuard,binOp,Op.equal,Op.maxDepth,he 9999]
theorem as3 (m:B9) (s:St):((k8).val m).p s (.agg #[.int .i64 m.m.Code,.int .i64 m.m.File,.int .i64 m.m.At]):=
 (k8).spec.2 ⟨[.int .i64 m.m.Code,.int .i64 m.m.File,.int .i64 m.m.At],⟨_,_,rfl,⟨_,_,rfl,rfl,⟨_,_,rfl,rfl,⟨_,_,rfl,rfl,rfl⟩⟩⟩,rfl⟩,rfl⟩
theorem aus {xt:TypeId} {m:B9} {x:Operand} (hx:env.op x=Pi (acj m):=by exact rfl):Q Tryz.prog C ⟨d,.typeAssert x xt 72 true,ty,pos,after,gd⟩ env (bj [(k8).val m,Pb true]):=by
 intro s ρ hs _ h
 have h0:ρ x= .iface 72 (.agg #[.int .i64 m.m.Code,.int .i64 m.m.File,.int .i64 m.m.At]):=by have:=h x (by simp[Op.operands]);rw[hx]at this;exact this
 refine .of_run hs (v:= .tuple #[.agg #[.int .i64 m.m.Code,.int .i64 m.m.File,.int .i64 m.m.At],.bool true]) ?_ ⟨[_,_],rfl,as3 m s,rfl,tv⟩
 simp[execOp,Instr.typeAssert,h0,d7 underlying72]
end
theorem aqj (b0 b1:Nat) (s:St) (hs:s.WF):CallsDIn Fence.wide 0 Tryz.prog 36 #[.pointer (some ⟨b0,0,none⟩),.pointer (some ⟨b1,0,none⟩)] .returning s.w (fun e u' w'=>(∃v,e= .returned v)/\u'= .returning/\∃F',A0 (fun _=>False) s ⟨w',F'⟩):=by
 refine callsDIn_of_wpSIn func36 rfl trivial (fun c₀ cs hu=>?_)
 have he:A3 ⟨18,none,[]⟩ (rv [Pr.pt b0 0,Pr.pt b1 0]) {tmps:= #[.pointer (some ⟨b0,0,none⟩),.pointer (some ⟨b1,0,none⟩)]++Array.replicate (Tryz.f36.ntmps - (#[.pointer (some ⟨b0,0,none⟩),.pointer (some ⟨b1,0,none⟩)]:Array Value).size) undef,defers:=[]} s:=
  ⟨fun t=>vh (show AllP s [Pr.pt b0 0,Pr.pt b1 0] [.pointer (some ⟨b0,0,none⟩),.pointer (some ⟨b1,0,none⟩)]from⟨rfl,rfl,tv⟩) _ t,by simp[ntmps36],rfl⟩
 refine akz (v:= .nilIface) (cs':=c₀::cs) (by simp[ntmps36]) (.inr ⟨by simp[recoverD,hu],rfl,rfl⟩) ?_
 have he2:=(he.putO (d:=some 5) (p:=Pi .nilIface) (v:= .nilIface) (fun d hd=>by cases hd;decide) rfl).putO (d:=some 2) (p:=Pi .nilIface) (v:= .nilIface) (fun d hd=>by cases hd;decide) rfl
 have hg:Cn.Good (fun _=>False) s s []:=⟨A0.refl hs,hs,⟨List.nodup_nil,fun x hx=>(by cases hx),fun b hb=>(by cases hb)⟩,fun b hb=>(by cases hb)⟩
 refine wpSIn_of_wpIn rfl ?_
 refine(?_:W2 Tryz.prog ⟨18,none,[]⟩ (fun _=>False) s _ _ [] _) _ s he2 hg
 refine aut ?_
 refine rq (out:=Pi .nilIface) fr ?_
 refine rq (out:=Pb false) aqi ?_
 refine And.intro rfl (W2_c (b:=false) rfl (fun h=>by cases h) (fun _=>avc (fun a s' he hg=>?_)))
 exact⟨he.nod,.returning,by rw[← hu],_,adx (rs:=[]) ⟨by decide,results36⟩ _ _,⟨_,rfl⟩,rfl,s'.F,hg.mod⟩
theorem aqk (b0 b1:Nat) (l0:List B7) (l1:B3) (m:B9) (s:St) (hs:s.WF) (hh:Has s [D8 b0 (Rp.list ak) l0,D8 b1 ay l1]):CallsDIn Fence.wide 0 Tryz.prog 36 #[.pointer (some ⟨b0,0,none⟩),.pointer (some ⟨b1,0,none⟩)] (.panicking (one (acj m))) s.w
  (fun e u' w'=>(∃v,e= .returned v)/\u'= .panicking [{v:=acj m,recovered:=true}]/\∃F',A0 (fun b=>b∈bt [D8 b0 (Rp.list ak) l0,D8 b1 ay l1]) s ⟨w',F'⟩/\Has ⟨w',F'⟩ [D8 b0 (Rp.list ak) [],D8 b1 ay m.m]):=by
 refine callsDIn_of_wpSIn func36 rfl trivial (fun c₀ cs hu=>?_)
 have he:A3 ⟨18,none,[]⟩ (rv [Pr.pt b0 0,Pr.pt b1 0]) {tmps:= #[.pointer (some ⟨b0,0,none⟩),.pointer (some ⟨b1,0,none⟩)]++Array.replicate (Tryz.f36.ntmps - (#[.pointer (some ⟨b0,0,none⟩),.pointer (some ⟨b1,0,none⟩)]:Array Value).size) undef,defers:=[]} s:=
  ⟨fun t=>vh (show AllP s [Pr.pt b0 0,Pr.pt b1 0] [.pointer (some ⟨b0,0,none⟩),.pointer (some ⟨b1,0,none⟩)]from⟨rfl,rfl,tv⟩) _ t,by simp[ntmps36],rfl⟩
 refine akz (v:=acj m) (cs':={c₀ with mode:= .panicking [{v:=acj m,recovered:=true}]}::cs) (by simp[ntmps36]) (.inl (by simp[recoverD,hu])) ?_
 have he2:=(he.putO (d:=some 5) (p:=Pi (acj m)) (v:=acj m) (fun d hd=>by cases hd;decide) rfl).putO (d:=some 2) (p:=Pi (acj m)) (v:=acj m) (fun d hd=>by cases hd;decide) rfl
 have hg:Cn.Good (fun b=>b∈bt [D8 b0 (Rp.list ak) l0,D8 b1 ay l1]) s s [D8 b0 (Rp.list ak) l0,D8 b1 ay l1]:=⟨A0.refl hs,hs,hh,fun b hb=> .inr hb⟩
 refine wpSIn_of_wpIn rfl ?_
 refine(?_:W2 Tryz.prog ⟨18,none,[]⟩ (fun b=>b∈bt [D8 b0 (Rp.list ak) l0,D8 b1 ay l1]) s _ _ [D8 b0 (Rp.list ak) l0,D8 b1 ay l1] _) _ s he2 hg
 refine aut ?_
 refine rq (out:=Pi (acj m)) fr ?_
 refine rq (out:=Pb true) as4 ?_
 refine And.intro rfl (W2_c (b:=true) rfl (fun _=>?_) (fun h=>by cases h))
 refine ayi (K:=fun e _ C=>e= .normal/\A8 C [D8 b0 (Rp.list ak) [],D8 b1 ay m.m]) ?_ ?_ (.inr (fun e _ _ h=>by rw[h.1];simp))
 ·refine W_rs ?_
  refine rq (out:=Pi (acj m)) fr ?_
  refine rq (out:=bj [(k8).val m,Pb true]) aus ?_
  refine rq (out:=bj [(k8).val m,Pb true]) fr ?_
  refine rq (out:=(k8).val m) al ?_
  refine rq (out:=Pb true) al ?_
  refine agl (R:=k8) (z:=(B9.mk (B3.mk 0 0 0))) zeroValue72 (fun _=>⟨_,⟨_,_,rfl,⟨_,_,rfl,rfl,⟨_,_,rfl,rfl,⟨_,_,rfl,rfl,rfl⟩⟩⟩,rfl⟩,rfl⟩) (fun b=>?_)
  refine aaa (R:=k8) (R':=k8) (a:=(B9.mk (B3.mk 0 0 0))) (y:=m) 2 sizeOf72 (Upd.refl _) ?_
  refine rq (out:=Pb true) f7 ?_
  refine a6 ?_
  refine W_rs ?_
  refine rq (out:=Pb true) fr ?_
  refine rq (out:=Pb (!true)) qNot ?_
  refine am1 (b:= !true) rfl (fun h=>by cases h) (fun _=>?_)
  refine au ?_
  refine fc [(2,0,D8 b0 (Rp.list ak) []),(3,1,D8 b1 ay m.m)] [D8 b0 (Rp.list ak) [],D8 b1 ay m.m,D8 b k8 m] hmx kr kr (show([2,3]:List Nat).Nodup by decide) (show([0,1]:List Nat).Nodup by decide) rfl rfl ?_
  refine eq1 (out:=Pr.pt b 0) (fun C2 hC=>(aj fld72_0)) ?_
  refine eq1 (out:=(ay).val m.m) (fun C2 hC=>(ap (R:=k8) (a:=m) (R':=ay) 2 ty30 aps (hi:=(hC 2 kr).trans rfl))) ?_
  refine eqS (fun C2 hC=>auz (R:=Rp.list ak) (R':=Rp.list ak) (a:=l0) (y:=[]) 0 sizeOf27 (Upd.refl _) ((hC 0 kr).trans rfl) (dr _)) ?_
  refine eqs 1 sizeOf30 (Upd.refl _) rfl rfl rfl kr ?_
  exact⟨rfl,A8.of [0,1] rfl⟩
 ·rintro e a s' env' C' he hg ⟨rfl,hp⟩
  have hg:=hg.pick hp
  exact⟨he.nod,_,rfl,_,adx (rs:=[]) ⟨by decide,results36⟩ _ _,⟨_,rfl⟩,rfl,s'.F,hg.mod,hg.has⟩
theorem abq {fn:Func} (hres:fn.results=[ResultVar.cell 2 27,.cell 3 30].toArray) {r:(List B7) × B3} {s0 s:St} {env:Env} {a:Act} {b0 b1:Nat} {l0:List B7} {l1:B3} {w:World} {F':Nat->Prop} (hr:r=(l0,l1)) (he:∀t,(env t).p s (a.tmps.getD t undef)) (h0:(env 2).le (Pr.pt b0 0)) (h1:(env 3).le (Pr.pt b1 0))
  (hh:Has ⟨w,F'⟩ [D8 b0 (Rp.list ak) l0,D8 b1 ay l1]) (hm:A0 (fun _=>False) s0 ⟨w,F'⟩):∃v,(results fn a.tmps).run Tryz.prog w= .ok v w/\∃v' F',Ending.returned v= .returned v'/\Cn.Calm s0 ⟨w,F'⟩/\(bj [ao ak r.1,(ay).val r.2]).p ⟨w,F'⟩ v':=by
 subst hr
 have he':∀t,((fun t=>if t=2 then Pr.pt b0 0 else if t=3 then Pr.pt b1 0 else Pr.any:Env) t).p ⟨w,F'⟩ (a.tmps.getD t undef):=by
  intro t
  by_cases hh0:t=2
  ·subst hh0;have h6:=h0 _ _ (he _);exact h6
  ·by_cases hh1:t=3
   ·subst hh1;have h6:=h1 _ _ (he _);exact h6
   ·simp only[hh0,hh1,if_false];trivial
 obtain⟨us,h7,h8⟩:=ado (P:=Tryz.prog) (rs:=[.cell 2 27,.cell 3 30]) (ps:=[ao ak l0,(ay).val l1]) (a:=a) he' hh ⟨yBox 0 ty27 aa,yBox 1 ty30 aa,tv⟩
 exact⟨_,ae2 hres h7,_,F',rfl,hm,arm h8⟩
theorem am9 (x1:List (List B5)) (r:(List B7) × B3) (h:aip x1=some r):Fp 13 [ao (Rp.list af) x1] (bj [ao ak r.1,(ay).val r.2]):=by
 obtain⟨r0,h,hr0⟩:=ag h
 refine ay8 (n:=67) func13 rfl ntmps13 dcd (fun s=>?_)
 unfold amt at h
 refine aut ?_
 refine bg al27 fun b2=>?_
 let p1:=D8 b2 (Rp.list ak) []
 refine bg al30 fun b3=>?_
 refine And.intro rfl ?_
 refine aut ?_
 refine kMvL rfl ?_
 obtain⟨⟨x4,x5⟩,k,h⟩:=ag h
 refine kUn (c7 (aqe x1 _ k)) ?_
 refine kUn (hMv (out:=bj [ao ab x4,(ay).val x5]) rfl) (kUn al ?_)
 refine kUn al ?_
 refine kAsL rfl (am 1 rfl rfl (Upd.refl _) rfl sizeOf30 ?_)
 refine And.intro rfl ?_
 refine W2_ss ?_
 refine aut ?_
 refine kUn (aj aj5) ?_
 refine kUn (ap 1 ty28 kl) ?_
 refine kIn rfl rfl rfl ?_
 refine And.intro rfl ?_
 refine W2_c (b:=x5.Code != 0) rfl (fun hc6=>?_) (fun hc6=>?_)
 ·replace h:=iteT hc6 h
  refine axx ?_
  refine fc [(1,0,D8 b2 (Rp.list ak) []),(2,1,D8 b3 ay x5)] [p1,D8 b3 ay x5] hmx kr kr (show([1,2]:List Nat).Nodup by decide) (show([0,1]:List Nat).Nodup by decide) rfl rfl ?_
  refine eql 1 ty30 (Sub.refl _) rfl rfl kr ?_
  refine eqS (fun C2 hC=>auz (R:=Rp.list ak) (R':=Rp.list ak) (a:=[]) (y:=[]) 0 sizeOf27 (Upd.refl _) ((hC 0 kr).trans rfl) (dr _)) ?_
  refine eqs 1 sizeOf30 (Upd.refl _) rfl rfl rfl kr ?_
  refine And.intro rfl ?_
  obtain rfl:=osj h
  refine a05 (fun a s' he hg=>?_)
  have hg:=hg.pick (A8.refl _)
  show LeavesInM _ _ _ _ _ _ a.defers _ _
  rw[he.nod]
  exact abq results13 (ojs hr0) he.at_ aa aa hg.has hg.mod
 replace h:=iteF hc6 h
 refine avc (fun a s' he hg=>?_)
 refine(?_:W2 Tryz.prog ⟨67,none,[]⟩ (fun _=>False) s _ _ _ _) a s' he hg
 clear he hg a s'
 refine W2_ss ?_
 refine aut ?_
 refine kMvL rfl (cr h (auf x4) rfl fun x7 _ h=>am 1 rfl rfl (Upd.refl _) rfl sizeOf30 ?_)
 let p2:=D8 b3 ay x7
 refine And.intro rfl ?_
 refine aut ?_
 refine kUn (aj aj5) ?_
 refine kUn (ap 1 ty28 kl) ?_
 refine kIn rfl rfl rfl ?_
 refine And.intro rfl ?_
 refine W2_c (b:=x7.Code != 0) rfl (fun hc8=>?_) (fun hc8=>?_)
 ·replace h:=iteT hc8 h
  refine axx ?_
  refine fc [(1,0,D8 b2 (Rp.list ak) []),(2,1,D8 b3 ay x7)] [p1,p2] hmx kr kr (show([1,2]:List Nat).Nodup by decide) (show([0,1]:List Nat).Nodup by decide) rfl rfl ?_
  refine eql 1 ty30 (Sub.refl _) rfl rfl kr ?_
  refine eqS (fun C2 hC=>auz (R:=Rp.list ak) (R':=Rp.list ak) (a:=[]) (y:=[]) 0 sizeOf27 (Upd.refl _) ((hC 0 kr).trans rfl) (dr _)) ?_
  refine eqs 1 sizeOf30 (Upd.refl _) rfl rfl rfl kr ?_
  refine And.intro rfl ?_
  obtain rfl:=osj h
  refine a05 (fun a s' he hg=>?_)
  have hg:=hg.pick (A8.refl _)
  show LeavesInM _ _ _ _ _ _ a.defers _ _
  rw[he.nod]
  exact abq results13 (ojs hr0) he.at_ aa aa hg.has hg.mod
 replace h:=iteF hc8 h
 refine avc (fun a s' he hg=>?_)
 refine(?_:W2 Tryz.prog ⟨67,none,[]⟩ (fun _=>False) s _ _ _ _) a s' he hg
 clear he hg a s'
 refine a0r (b1:=b2) (b2:=b3) dcd rfl rfl ?_
 refine ayi (K:=fun e env C=>∃l0 l1,A8 C [D8 b2 (Rp.list ak) l0,D8 b3 ay l1]/\(env 2).le (Pr.pt b2 0)/\(env 3).le (Pr.pt b3 0)/\((e= .ret/\r0= .ok (l0,l1))\/∃w,e= .panic (one (acj w))/\r0= .bad w)) ?_ ?_ (.inl sm)
 ·refine W_rs (kUn (fk ao5 rfl) ?_)
  refine rBox (R:=av) (a:=(D2.mk (.slice none 0 0) 0 [] 0)) rfl (fun b9=>?_)
  refine kAs rfl (a6 (W_rs (kMvL rfl (kUn (jf rfl underlying24) ?_))))
  refine kMv rfl (az ?_)
  obtain⟨z2l,hz2,h⟩:=ag h
  obtain⟨n2,hN2⟩:=bm hz2
  refine cp 0 (fun e C=>∃x12,∃x13,∃x14,∃x15,∃v11,afe x12 x13 x14 x15=some r0/\At [(2,Pr.pt b2 0),(3,Pr.pt b3 0),(5,Pr.pt b9 0)] [p1,p2,D8 b9 av (D2.mk v11 x12 x13 x14),E1 v11 ak x15 47] e C) ?_ ?_
  ·rintro e C ⟨x12,x13,x14,x15,v11,h,a⟩
   let p3:=D2.mk v11 x12 x13 x14
   refine W_at a ?_
   unfold afe at h
   refine W_rs (kMv rfl (kNp rfl (kUn (aj aru) ?_)))
   refine kUn (w8 (R:=av) (a:=p3) 2 ty27 vc) ?_
   obtain⟨x49,k,h⟩:=ag h
   refine ax3 [3] (ua yd x15 v11 _ k) ⟨aa,(axt en39 (fun _ _ hs=>by obtain⟨a0,a1,r,rfl,rfl,hr⟩:=hs;exact aql a0 a1 r hr)),tv⟩ (fun q C' hq=>?_)
   obtain⟨rfl,rfl⟩:=hq
   refine rCtx [E1 v11 ak x49 47,p1,p2,D8 b9 av p3] ?_
   refine W_rs (kMv rfl (kNp rfl (kUn (aj aru) ?_)))
   refine kUn (w8 (R:=av) (a:=p3) 3 ty27 vc) ?_
   refine kUn (fk st30 rfl) ?_
   refine rRel 0 [65] ?_ rfl ⟨rfl,tv⟩
   refine am 0 rfl rfl (Upd.refl _) rfl sizeOf27 (am 1 rfl rfl (Upd.refl _) rfl sizeOf30 ?_)
   obtain rfl:=osj h
   exact a7 ⟨_,_,A8.of [0,1] rfl,aa,aa,.inl ⟨rfl,rfl⟩⟩
  refine axl ak 47 ?_
  refine dq (fun m e C=>∃x10,∃x12,∃x13,∃x14,∃x15,∃v11,ez (fun s=>rt x1 x4 s.1 s.2.1 s.2.2.1 s.2.2.2.1 s.2.2.2.2) m (x10,x12,x13,x14,x15)=some z2l/\At [(2,Pr.pt b2 0),(3,Pr.pt b3 0),(4,ao ab x4),(5,Pr.pt b9 0),(28,ao (Rp.list af) x1),(29,P6 (x1.length:Int)),(30,P6 x10)] [p1,p2,D8 b9 av (D2.mk v11 x12 x13 x14),E1 v11 ak x15 47] e C) n2 ⟨0,0,[],0,[],(.slice none 0 0),hN2,⟨⟨aa,aa,aa,aa,aa,aa,aa,tv⟩,A8.refl _⟩⟩ ?_
  rintro m e C ⟨x10,x12,x13,x14,x15,v11,hN2,a⟩
  refine W_at a ?_
  obtain⟨m2,w2l,rfl,h2l,hn2,ho2⟩:=bc hN2
  replace h2l:rt x1 x4 x10 x12 x13 x14 x15=some w2l:=h2l
  unfold rt at h2l
  refine W_rs (kIn rfl rfl rfl (a6 ?_))
  refine a5 h2l rfl (fun _ h2l=>?_) (fun _ h2l=>?_)
  ·refine au (a6 (az (W_rs (kMv rfl ?_))))
   obtain⟨x23,k,h2l⟩:=ag h2l
   refine kUn (du underlying24 sizeOf53 k) ?_
   refine kUn (bz ty53) ?_
   refine kAs rfl (kAsL rfl (W_rs (kMv rfl (kMv rfl (kNp rfl (kUn (aj art) ?_))))))
   refine am 2 rfl rfl ai6 rfl sizeOf3 ?_
   refine rCtx [p1,p2,D8 b9 av (D2.mk v11 x10 x13 x14),E1 v11 ak x15 47] ?_
   refine W_rs (kMvL rfl (kUn (jf rfl underlying53) ?_))
   refine kMv rfl (az ?_)
   obtain⟨z4l,hz4,h2l⟩:=ag h2l
   obtain⟨n4,hN4⟩:=bm hz4
   refine cp 2 (fun e C=>∃x26,∃x27,∃x28,∃x29,∃v25,afd x10 x26 x27 x28 x29=some w2l/\At [(2,Pr.pt b2 0),(3,Pr.pt b3 0),(4,ao ab x4),(5,Pr.pt b9 0),(28,ao (Rp.list af) x1),(29,P6 (x1.length:Int)),(30,P6 x10)] [p1,p2,D8 b9 av (D2.mk v25 x26 x27 x28),E1 v25 ak x29 47] e C) ?_ ?_
   ·rintro e C ⟨x26,x27,x28,x29,v25,h2l,a⟩
    refine W_at a ?_
    unfold afd at h2l
    refine W_r (kIn rfl rfl rfl (kMv rfl ?_))
    exact⟨m2,lsu,w64 (x10+1),x26,x27,x28,x29,v25,hn2 _ (ojs h2l),atOk⟩
   refine dq (fun m e C=>∃x24,∃x26,∃x27,∃x28,∃x29,∃v25,ez (fun s=>ur x23 x4 s.1 s.2.1 s.2.2.1 s.2.2.2.1 s.2.2.2.2) m (x24,x26,x27,x28,x29)=some z4l/\At [(2,Pr.pt b2 0),(3,Pr.pt b3 0),(4,ao ab x4),(5,Pr.pt b9 0),(28,ao (Rp.list af) x1),(29,P6 (x1.length:Int)),(30,P6 x10),(39,ao af x23),(40,P6 (x23.length:Int)),(41,P6 x24)] [p1,p2,D8 b9 av (D2.mk v25 x26 x27 x28),E1 v25 ak x29 47] e C) n4 ⟨0,x10,x13,x14,x15,v11,hN4,⟨⟨aa,aa,aa,aa,aa,aa,aa,aa,aa,aa,tv⟩,A8.refl _⟩⟩ ?_
   rintro m e C ⟨x24,x26,x27,x28,x29,v25,hN4,a⟩
   refine W_at a ?_
   obtain⟨m4,w4l,rfl,h4l,hn4,ho4⟩:=bc hN4
   replace h4l:ur x23 x4 x24 x26 x27 x28 x29=some w4l:=h4l
   unfold ur at h4l
   refine W_rs (kIn rfl rfl rfl (a6 ?_))
   refine a5 h4l rfl (fun _ h4l=>?_) (fun _ h4l=>?_)
   ·refine au ?_
    refine ba (fun e C=>∃x45,∃x46,∃x47,∃x48,∃x37,∃v44,∃b38,yz x24 x45 x46 x47 x48 x37=some w4l/\At [(2,Pr.pt b2 0),(3,Pr.pt b3 0),(4,ao ab x4),(5,Pr.pt b9 0),(28,ao (Rp.list af) x1),(29,P6 (x1.length:Int)),(30,P6 x10),(39,ao af x23),(40,P6 (x23.length:Int)),(41,P6 x24)] [D8 b9 av (D2.mk v44 x45 x46 x47),E1 v44 ak x48 47,p1,p2,D8 b38 af x37] e C) ?_ ?_
    ·rintro e C ⟨x45,x46,x47,x48,x37,v44,b38,h4l,a⟩
     refine W_at a ?_
     unfold yz at h4l
     refine W_r (kIn rfl rfl rfl (kMv rfl ?_))
     exact⟨m4,lsu,w64 (x24+1),x45,x46,x47,x48,v44,hn4 _ (ojs h4l),⟨⟨aa,aa,aa,aa,aa,aa,aa,aa,aa,aa,tv⟩,A8.of [2,3,0,1] rfl⟩⟩
    refine az (W_rs ?_)
    obtain⟨x37,k,h4l⟩:=ag h4l
    let p4:=B6.mk x4 x37.Text false []
    refine kUn (du underlying53 sizeOf64 k) ?_
    refine kUn (bz ty64) ?_
    refine bg al64 fun b38=>am 4 rfl rfl (Upd.refl _) rfl sizeOf64 (W_rs (kUn (aj e8) ?_))
    refine kUn (ap 4 ty3 a8) ?_
    refine kIn rfl rfl rfl ?_
    refine a5 h4l rfl (fun _ h4l=>?_) (fun _ h4l=>?_)
    ·refine W_r (kMv rfl (kMvL rfl (kUn (aj ec) ?_)))
     refine kUn (ap 4 ty9 bb) ?_
     refine kUn (fk st66 ⟨(B6.mk x4 [] false []),⟨_,rfl,rfl,qbj⟩,⟨p4,⟨_,rfl,rfl,qbj⟩,rfl⟩⟩) ?_
     refine kUn (ap 4 ty64 (Sub.refl _)) ?_
     rcases yq h4l with⟨m43,hm43,h4l⟩|⟨⟨x40,x41⟩,hx40,h4l⟩
     ·refine acs [2,3] (aeq p4 x37 (B8.mk x29 x26 x27 x28) b9 v25 _ hm43) ⟨aa,aa,aa,tv⟩ (fun q C' hq=>?_) (fun v9 hv=>?_)
      ·obtain⟨_,h9,_⟩:=hq;cases h9
      obtain⟨_,h9,rfl⟩:=hv
      cases h9
      obtain rfl:=ho4 _ (ojs h4l)
      replace h2l:some (.inr (.done (.bad m43)))=some w2l:=h2l
      obtain rfl:=ho2 _ (ojs h2l)
      replace h:some (.bad m43)=some r0:=h
      obtain rfl:=osj h
      exact⟨_,_,A8.of [0,1] rfl,aa,aa,.inr ⟨_,rfl,rfl⟩⟩
     refine acs [2,3] (aeq p4 x37 (B8.mk x29 x26 x27 x28) b9 v25 _ hx40) ⟨aa,aa,aa,tv⟩ (fun q C' hq=>?_) (fun v9 hv=>by obtain⟨_,h9,_⟩:=hv;cases h9)
     obtain⟨_,h9,v42,rfl,rfl⟩:=hq
     cases h9
     refine rCtx [D8 b9 av (D2.mk v42 x41.file x41.method x41.many),E1 v42 ak x41.uses 47,p1,p2,D8 b38 af x37] ?_
     exact⟨x41.file,x41.method,x41.many,x41.uses,x37,v42,b38,h4l,atOk⟩
    refine au ?_
    exact⟨x26,x27,x28,x29,x37,v25,b38,h4l,⟨⟨aa,aa,aa,aa,aa,aa,aa,aa,aa,aa,tv⟩,A8.of [2,3,0,1,4] rfl⟩⟩
   refine dp ?_
   obtain rfl:=ho4 _ (ojs h4l)
   exact⟨x26,x27,x28,x29,v25,h2l,atOk⟩
  refine dp ?_
  obtain rfl:=ho2 _ (ojs h2l)
  exact⟨x12,x13,x14,x15,v11,h,atOk⟩
 rintro e a s' env' C' he hg ⟨l0,l1,hp,h4,h5,hK⟩
 have hg:=hg.pick hp
 rcases hK with⟨rfl,rfl⟩|⟨w,rfl,rfl⟩
 ·show LeavesInM _ _ _ _ _ _ a.defers _ _
  rw[he.nod]
  refine⟨by simp,.inr ⟨by simp[Fence.wide],_,_,36, #[.pointer (some ⟨b2,0,none⟩),.pointer (some ⟨b3,0,none⟩)],rfl,by simp[invoke,uh en36],fun _ _=>trivial,(aqj b2 b3 s' hg.wf).mono ?_⟩⟩
  rintro e' u' w' ⟨⟨v,rfl⟩,rfl,F',hm⟩
  have hg2:=hg.calm (t:=⟨w',F'⟩) hm
  exact abq results13 (ojs hr0) he.at_ h4 h5 hg2.has hg2.mod
 show LeavesInM _ _ _ _ _ _ a.defers _ _
 rw[he.nod]
 refine⟨by simp,.inr ⟨by simp[Fence.wide],_,_,36, #[.pointer (some ⟨b2,0,none⟩),.pointer (some ⟨b3,0,none⟩)],rfl,by simp[invoke,uh en36],fun _ _=>trivial,(aqk b2 b3 l0 l1 w s' hg.wf hg.has).mono ?_⟩⟩
 rintro e' u' w' ⟨⟨v,rfl⟩,rfl,F',hm,hh⟩
 obtain⟨h9,_⟩:=Cn.Good.call (C':=[p1,D8 b3 ay w.m]) (C0:=[D8 b2 (Rp.list ak) l0,D8 b3 ay l1]) (Cr:=[]) (by simpa using hg) hm hh (fun b hb=> .inl hb)
 have h9:Cn.Good (fun _=>False) s ⟨w',F'⟩ [p1,D8 b3 ay w.m]:=by simpa using h9
 exact abq results13 (ojs hr0) he.at_ h4 h5 h9.has h9.mod
section
variable {env:Env} {C:Ctx} {ty:TypeId} {pos:String} {after:Array Edge} {gd:Option (Nat × Bool)} {d:Option Nat}
end
end Go.Proofs.YtcndghapmoaidaaGreatDoor
set_option linter.unusedSectionVars false
set_option maxRecDepth 100000
set_option maxHeartbeats 4000000
namespace Go.Proofs.YtcndghapmoaidaaGreatDoor
open Go Go.Cn Tryz
attribute [local irreducible] mq ao
theorem aqb (r:Bool) (h:ahd=some r):Fp 11 [] (Pb r):=by
  refine c8 (rs:=[0]) func11 rfl ntmps11 ⟨by decide,results11⟩ dcd (fun s0=>?_)
  let p1:=B5.mk 17 ([102]:Bt) [] 0 0 0 0 0 []
  unfold ahd at h
  refine W_rs (kAs rfl (W_rs ?_))
  obtain⟨⟨x1,x2⟩,k,h⟩:=ag h
  refine kUn (c7 (ak5 ([99,108,97,115,115,32,65,123,105,110,116,32,102,59,105,110,116,32,109,40,65,32,97,41,123,114,101,116,117,114,110,32,97,46,102,59,125,125]:Bt) _ k)) ?_
  refine kUn (hMv (out:=bj [ao af x1,(ay).val x2]) rfl) (kUn al ?_)
  refine kUn al ?_
  refine bg al30 fun b3=>kAsL rfl (am 0 rfl rfl (Upd.refl _) rfl sizeOf30 (W_rs (kMvL rfl (kUn (cm (R:=Rp.list af) (a:=x1) el24 nb) ?_))))
  obtain⟨⟨x4,x5⟩,k,h⟩:=ag h
  refine kUn (c7 (am9 ([x1]:List (List B5)) _ k)) ?_
  refine kUn (hMv (out:=bj [ao ak x4,(ay).val x5]) rfl) (kUn al ?_)
  refine kUn al ?_
  refine bg al30 fun b6=>kAsL rfl (am 1 rfl rfl (Upd.refl _) rfl sizeOf30 (W_rs (kMvL rfl ?_)))
  obtain⟨⟨x7,x8⟩,k,h⟩:=ag h
  refine kUn (c7 (ara x4 0 34 _ k)) ?_
  refine kUn (hMv (out:=bj [Pr.str x7,Pb x8]) rfl) (kUn al ?_)
  refine kUn al ?_
  refine kAs rfl (kAs rfl (W_rs (kMvL rfl (kUn (cm (R:=Rp.list af) (a:=x1) el24 nb) ?_))))
  obtain⟨⟨x9,x10⟩,k,h⟩:=ag h
  let p2:=B6.mk x9 ([65]:Bt) false []
  refine kUn (c7 (ajz ([x1]:List (List B5)) _ k)) ?_
  refine kUn (hMv (out:=bj [ao ab x9,(ay).val x10]) rfl) (kUn al ?_)
  refine kUn al ?_
  refine bg al30 fun b11=>kAsL rfl (am 2 rfl rfl (Upd.refl _) rfl sizeOf30 (W_rs (kMvL rfl (kUn (fk st66 ⟨(B6.mk x9 [] false []),⟨_,rfl,rfl,qbj⟩,⟨p2,⟨_,rfl,rfl,qbj⟩,rfl⟩⟩) ?_))))
  refine bg al66 fun b12=>am 3 rfl rfl (Upd.refl _) rfl sizeOf66 (W_rs (kUn (ap 3 ty66 (Sub.refl _)) ?_))
  refine kUn (fg bi st64 ⟨(B5.mk 17 [] [] 0 0 0 0 0 []),⟨_,rfl,rfl,qbj⟩,⟨p1,⟨_,rfl,rfl,qbj⟩,rfl⟩⟩) ?_
  obtain⟨⟨x13,x14⟩,k,h⟩:=ag h
  refine kUn (c7 (acy p2 p1 _ k)) ?_
  refine kUn (hMv (out:=bj [(ab).val x13,P6 x14]) rfl) (kUn al ?_)
  refine kUn al ?_
  refine bg jb fun b15=>am 4 rfl rfl (Upd.refl _) rfl sizeOf49 (kAs rfl ?_)
  refine ba (fun e C=>∃x417,jo x417=some r/\At [(0,Pb x417)] [D8 b3 ay x2,D8 b6 ay x5,D8 b11 ay x10,D8 b12 aq p2,D8 b15 ab x13] e C) ?_ ?_
  · rintro e C ⟨x417,h,a⟩
    refine W_at a ?_
    unfold jo at h
    obtain rfl:=osj h
    exact a7 ⟨rfl,aa⟩
  refine W_r (kUn (aj aj5) ?_)
  refine kUn (ap 1 ty28 kl) ?_
  refine kIn rfl rfl rfl (kMv rfl ?_)
  rcases bn h with⟨hc16,h⟩|⟨hc16,h⟩
  · refine kGd rfl aa hc16 (hMvL rfl) (kGd rfl aa hc16 (jf rfl underlying27) ?_)
    refine kGd rfl aa hc16 (qInt rfl rfl rfl) (kPt rfl hc16 rfl (kMv rfl ?_))
    rcases bn h with⟨hc17,h⟩|⟨hc17,h⟩
    · refine kGd rfl aa hc17 (hMvL rfl) ?_
      obtain⟨x18,k,h⟩:=ag h
      refine kGd rfl aa hc17 (du underlying27 sizeOf47 k) ?_
      refine kGd rfl aa hc17 (dv an7 abw) ?_
      refine kGd rfl aa hc17 (bz ty9) ?_
      refine kGd rfl aa hc17 (qStr rfl rfl rfl) (kPt rfl hc17 rfl (kMv rfl ?_))
      rcases bn h with⟨hc19,h⟩|⟨hc19,h⟩
      · refine kGd rfl aa hc19 (hMvA rfl) (kGd rfl aa hc19 (qStr rfl rfl rfl) (kPt rfl hc19 rfl (kMv rfl ?_)))
        rcases bn h with⟨hc20,h⟩|⟨hc20,h⟩
        · refine kGd rfl aa hc20 (hMvA rfl) (kPt rfl hc20 rfl (kMv rfl ?_))
          rcases bn h with⟨hc21,h⟩|⟨hc21,h⟩
          · refine kGd rfl aa hc21 (hMvL rfl) ?_
            obtain⟨x22,k,h⟩:=ag h
            refine kGd rfl aa hc21 (c7 (aq9 x4 ([65]:Bt) _ k)) ?_
            refine kGd rfl aa hc21 (jf rfl underlying27) ?_
            refine kGd rfl aa hc21 (qInt rfl rfl rfl) (kPt rfl hc21 rfl (kMv rfl ?_))
            rcases bn h with⟨hc23,h⟩|⟨hc23,h⟩
            · refine kGd rfl aa hc23 (hMvA rfl) (kGd rfl aa hc23 (qInt rfl rfl rfl) (kPt rfl hc23 rfl (kMv rfl ?_)))
              rcases bn h with⟨hc24,h⟩|⟨hc24,h⟩
              · refine kGd rfl aa hc24 (aj ll) ?_
                refine kGd rfl aa hc24 (ap 4 ty9 dw) ?_
                refine kGd rfl aa hc24 (qStr rfl rfl rfl) (kPt rfl hc24 rfl (kMv rfl ?_))
                rcases bn h with⟨hc25,h⟩|⟨hc25,h⟩
                · refine kGd rfl aa hc25 (ap 3 ty66 (Sub.refl _)) ?_
                  refine kGd rfl aa hc25 (fg bi st64 ⟨(B5.mk 16 [] [] 0 0 0 0 0 []),⟨_,rfl,rfl,qbj⟩,rfl⟩) ?_
                  obtain⟨x26,k,h⟩:=ag h
                  refine kGd rfl aa hc25 (c7 (aln p2 (B5.mk 16 [] [] 0 0 0 0 0 []) _ k)) ?_
                  refine kGd rfl aa hc25 (qStr rfl rfl rfl) (kPt rfl hc25 rfl (kAs rfl ?_))
                  exact⟨x26==([65]:Bt),h,atOk⟩
                refine skx ?_
                refine kPf rfl hc25 rfl (kAs rfl ?_)
                exact⟨false,h,atOk⟩
              refine skx ?_
              refine kPf rfl hc24 rfl (kMv rfl ?_)
              have hc27:false=false:=rfl
              refine skx ?_
              refine kPf rfl hc27 rfl (kAs rfl ?_)
              exact⟨false,h,atOk⟩
            refine skx ?_
            refine kPf rfl hc23 rfl (kMv rfl ?_)
            have hc29:false=false:=rfl
            refine skx ?_
            refine kPf rfl hc29 rfl (kMv rfl ?_)
            have hc32:false=false:=rfl
            refine skx ?_
            refine kPf rfl hc32 rfl (kAs rfl ?_)
            exact⟨false,h,atOk⟩
          refine skx ?_
          refine kPf rfl hc21 rfl (kMv rfl ?_)
          have hc34:false=false:=rfl
          refine skx ?_
          refine kPf rfl hc34 rfl (kMv rfl ?_)
          have hc40:false=false:=rfl
          refine skx ?_
          refine kPf rfl hc40 rfl (kMv rfl ?_)
          have hc43:false=false:=rfl
          refine skx ?_
          refine kPf rfl hc43 rfl (kAs rfl ?_)
          exact⟨false,h,atOk⟩
        refine kSkT rfl aa hc20 (kPf rfl hc20 rfl (kMv rfl ?_))
        have hc45:false=false:=rfl
        refine skx ?_
        refine kPf rfl hc45 rfl (kMv rfl ?_)
        have hc58:false=false:=rfl
        refine skx ?_
        refine kPf rfl hc58 rfl (kMv rfl ?_)
        have hc64:false=false:=rfl
        refine skx ?_
        refine kPf rfl hc64 rfl (kMv rfl ?_)
        have hc67:false=false:=rfl
        refine skx ?_
        refine kPf rfl hc67 rfl (kAs rfl ?_)
        exact⟨false,h,atOk⟩
      refine skx ?_
      refine kPf rfl hc19 rfl (kMv rfl ?_)
      have hc69:false=false:=rfl
      refine kSkT rfl aa hc69 (kPf rfl hc69 rfl (kMv rfl ?_))
      have hc94:false=false:=rfl
      refine skx ?_
      refine kPf rfl hc94 rfl (kMv rfl ?_)
      have hc107:false=false:=rfl
      refine skx ?_
      refine kPf rfl hc107 rfl (kMv rfl ?_)
      have hc113:false=false:=rfl
      refine skx ?_
      refine kPf rfl hc113 rfl (kMv rfl ?_)
      have hc116:false=false:=rfl
      refine skx ?_
      refine kPf rfl hc116 rfl (kAs rfl ?_)
      exact⟨false,h,atOk⟩
    refine skx ?_
    refine kPf rfl hc17 rfl (kMv rfl ?_)
    have hc118:false=false:=rfl
    refine skx ?_
    refine kPf rfl hc118 rfl (kMv rfl ?_)
    have hc168:false=false:=rfl
    refine kSkT rfl aa hc168 (kPf rfl hc168 rfl (kMv rfl ?_))
    have hc193:false=false:=rfl
    refine skx ?_
    refine kPf rfl hc193 rfl (kMv rfl ?_)
    have hc206:false=false:=rfl
    refine skx ?_
    refine kPf rfl hc206 rfl (kMv rfl ?_)
    have hc212:false=false:=rfl
    refine skx ?_
    refine kPf rfl hc212 rfl (kMv rfl ?_)
    have hc215:false=false:=rfl
    refine skx ?_
    refine kPf rfl hc215 rfl (kAs rfl ?_)
    exact⟨false,h,atOk⟩
  refine skx ?_
  refine kPf rfl hc16 rfl (kMv rfl ?_)
  have hc217:false=false:=rfl
  refine skx ?_
  refine kPf rfl hc217 rfl (kMv rfl ?_)
  have hc318:false=false:=rfl
  refine skx ?_
  refine kPf rfl hc318 rfl (kMv rfl ?_)
  have hc368:false=false:=rfl
  refine kSkT rfl aa hc368 (kPf rfl hc368 rfl (kMv rfl ?_))
  have hc393:false=false:=rfl
  refine skx ?_
  refine kPf rfl hc393 rfl (kMv rfl ?_)
  have hc406:false=false:=rfl
  refine skx ?_
  refine kPf rfl hc406 rfl (kMv rfl ?_)
  have hc412:false=false:=rfl
  refine skx ?_
  refine kPf rfl hc412 rfl (kMv rfl ?_)
  have hc415:false=false:=rfl
  refine skx ?_
  refine kPf rfl hc415 rfl (kAs rfl ?_)
  exact⟨false,h,atOk⟩
end Go.Proofs.YtcndghapmoaidaaGreatDoor
set_option linter.unusedSectionVars false
set_option maxRecDepth 100000
set_option maxHeartbeats 4000000
namespace Go.Proofs.YtcndghapmoaidaaGreatDoor
open Go Go.Cn Tryz
attribute [local irreducible] mq ao
theorem amy (x1:List Bt) (x2:Bt) (x3:Int) (r:Bool) (h:abn x1 x2 x3=some r):Fp 3 [ao Rp.str x1,Pr.str x2,P6 x3] (Pb r):=by
 refine c8 (rs:=[6]) func3 rfl ntmps3 ⟨by decide,results3⟩ dcd (fun s0=>?_)
 unfold abn at h
 refine W_rs (kAs rfl (W_rs (cr h (aqb) rfl fun x4 _ h=>kAs rfl (a6 (W_rs (kMv rfl (kNo rfl ?_)))))))
 refine a5 h rfl (fun _ h=>?_) (fun _ h=>?_)
 ·refine W_rs (kAs rfl ?_)
  obtain rfl:=osj h
  exact a7 ⟨rfl,aa⟩
 refine au (W_rs (kMvL rfl ?_))
 obtain⟨⟨x6,x7⟩,k,h⟩:=ag h
 refine kUn (c7 (apj x1 _ k)) ?_
 refine kUn (hMv (out:=bj [ao (Rp.list af) x6,Pb x7]) rfl) (kUn al ?_)
 refine kUn al ?_
 refine kAsL rfl (kAs rfl (a6 (W_rs (kMv rfl (kNo rfl ?_)))))
 refine a5 h rfl (fun _ h=>?_) (fun _ h=>?_)
 ·refine W_rs (kAs rfl ?_)
  obtain rfl:=osj h
  exact a7 ⟨rfl,aa⟩
 refine au (W_rs (kMvL rfl ?_))
 obtain⟨⟨x9,x10⟩,k,h⟩:=ag h
 refine kUn (c7 (am9 x6 _ k)) ?_
 refine kUn (hMv (out:=bj [ao ak x9,(ay).val x10]) rfl) (kUn al ?_)
 refine kUn al ?_
 refine bg al30 fun b11=>kAsL rfl (am 0 rfl rfl (Upd.refl _) rfl sizeOf30 (W_rs (kMvL rfl ?_)))
 obtain⟨⟨x12,x13⟩,k,h⟩:=ag h
 refine kUn (c7 (ass x6 _ k)) ?_
 refine kUn (hMv (out:=bj [ao ak x12,(ay).val x13]) rfl) (kUn al ?_)
 refine kUn al ?_
 refine bg al30 fun b14=>kAsL rfl (am 1 rfl rfl (Upd.refl _) rfl sizeOf30 (W_rs (kMvL rfl (kMv rfl ?_))))
 obtain⟨⟨x15,x16⟩,k,h⟩:=ag h
 refine kUn (c7 (ara x9 0 x3 _ k)) ?_
 refine kUn (hMv (out:=bj [Pr.str x15,Pb x16]) rfl) (kUn al ?_)
 refine kUn al ?_
 refine kAs rfl (kAs rfl (W_rs (kMvL rfl (kMv rfl ?_))))
 obtain⟨⟨x17,x18⟩,k,h⟩:=ag h
 refine kUn (c7 (avl x9 0 x3 _ k)) ?_
 refine kUn (hMv (out:=bj [Pr.str x17,Pb x18]) rfl) (kUn al ?_)
 refine kUn al ?_
 refine kAs rfl (kAs rfl ?_)
 refine ba (fun e C=>∃x59,j7 x59=some r/\At [(6,Pb x59)] [D8 b11 ay x10,D8 b14 ay x13] e C) ?_ ?_
 ·rintro e C ⟨x59,h,a⟩
  refine W_at a ?_
  unfold j7 at h
  obtain rfl:=osj h
  exact a7 ⟨rfl,aa⟩
 refine W_r (kUn (ap 0 ty30 (Sub.refl _)) ?_)
 refine kUn (ap 1 ty30 (Sub.refl _)) ?_
 refine kUn (qStEq (a:=x10) (b:=x13) auk dcd rfl as0) ?_
 refine kMv rfl ?_
 rcases bn h with⟨hc19,h⟩|⟨hc19,h⟩
 ·refine kGd rfl aa hc19 (hMvL rfl) (kGd rfl aa hc19 (hMvL rfl) ?_)
  obtain⟨x20,k,h⟩:=ag h
  refine kGd rfl aa hc19 (c7 (ak2 x9 x12 _ k)) ?_
  refine kPt rfl hc19 rfl (kMv rfl ?_)
  rcases bn h with⟨hc21,h⟩|⟨hc21,h⟩
  ·refine kGd rfl aa hc21 (hMvA rfl) (kGd rfl aa hc21 (hMvA rfl) (kGd rfl aa hc21 (qStr rfl rfl rfl) (kPt rfl hc21 rfl (kMv rfl ?_))))
   rcases bn h with⟨hc22,h⟩|⟨hc22,h⟩
   ·refine kGd rfl aa hc22 (hMvA rfl) (kGd rfl aa hc22 (hMvA rfl) (kGd rfl aa hc22 (ax6 underlying4) ?_))
    refine kPt rfl hc22 rfl (kMv rfl ?_)
    rcases bn h with⟨hc23,h⟩|⟨hc23,h⟩
    ·refine kGd rfl aa hc23 (hMvL rfl) (kGd rfl aa hc23 (hMvA rfl) ?_)
     obtain⟨x24,k,h⟩:=ag h
     refine kGd rfl aa hc23 (c7 (aq9 x9 x2 _ k)) ?_
     refine kGd rfl aa hc23 (hMvL rfl) (kGd rfl aa hc23 (hMvA rfl) ?_)
     obtain⟨x25,k,h⟩:=ag h
     refine kGd rfl aa hc23 (c7 (avj x9 x2 _ k)) ?_
     obtain⟨x26,k,h⟩:=ag h
     refine kGd rfl aa hc23 (c7 (ak2 x24 x25 _ k)) ?_
     refine kPt rfl hc23 rfl (kAs rfl ?_)
     exact⟨x26,h,atOk⟩
    refine skx ?_
    refine kPf rfl hc23 rfl (kAs rfl ?_)
    exact⟨false,h,atOk⟩
   refine skx ?_
   refine kPf rfl hc22 rfl (kMv rfl ?_)
   have hc27:false=false:=rfl
   refine skx ?_
   refine kPf rfl hc27 rfl (kAs rfl ?_)
   exact⟨false,h,atOk⟩
  refine skx ?_
  refine kPf rfl hc21 rfl (kMv rfl ?_)
  have hc31:false=false:=rfl
  refine skx ?_
  refine kPf rfl hc31 rfl (kMv rfl ?_)
  have hc36:false=false:=rfl
  refine skx ?_
  refine kPf rfl hc36 rfl (kAs rfl ?_)
  exact⟨false,h,atOk⟩
 refine skx ?_
 refine kPf rfl hc19 rfl (kMv rfl ?_)
 have hc40:false=false:=rfl
 refine skx ?_
 refine kPf rfl hc40 rfl (kMv rfl ?_)
 have hc50:false=false:=rfl
 refine skx ?_
 refine kPf rfl hc50 rfl (kMv rfl ?_)
 have hc55:false=false:=rfl
 refine skx ?_
 refine kPf rfl hc55 rfl (kAs rfl ?_)
 exact⟨false,h,atOk⟩
end Go.Proofs.YtcndghapmoaidaaGreatDoor
set_option linter.unusedSectionVars false
set_option maxRecDepth 100000
set_option maxHeartbeats 4000000
namespace Go.Proofs.YtcndghapmoaidaaGreatDoor
open Go Go.Cn Tryz
attribute [local irreducible] mq ao
end Go.Proofs.YtcndghapmoaidaaGreatDoor
