/- The code comes to what these functions say (printed by wip/gen/gen.py). -/
import Derived.Test.YtcndghapmoaidaaGreatDoorZX
import Derived.Test.YtcndghapmoaidaaGreatDoorZP1
import Derived.Test.YtcndghapmoaidaaGreatDoorZT
set_option linter.unusedSimpArgs false
set_option linter.unusedVariables false
set_option linter.unusedSectionVars false
set_option linter.unusedSectionVars false
set_option maxRecDepth 100000
set_option maxHeartbeats 4000000
namespace Go.Proofs.YtcndghapmoaidaaGreatDoor
open Go Go.Cn Tryz
attribute [local irreducible] g0 ap
end Go.Proofs.YtcndghapmoaidaaGreatDoor
set_option linter.unusedSectionVars false
set_option maxRecDepth 100000
set_option maxHeartbeats 4000000
namespace Go.Proofs.YtcndghapmoaidaaGreatDoor
open Go Go.Cn Tryz
attribute [local irreducible] g0 ap
theorem ac1 (x1:C8) (x2:B6) (r:C8) (h:jd x1 x2=some r):Fp 98 [(aw).val x1,(af).val x2] ((aw).val r):=by
 refine ec (rs:=[.cell 4 138]) func98 rfl ntmps98 results98 dcd (fun s0=>?_)
 let p1:=B0.mk 4 [] x2.Text [] x2.Type_ false [] 0 0
 unfold jd at h
 refine W_rs ?_
 refine rBox (R:=aw) (a:=x1) rfl (fun b3=>?_)
 refine rBox (R:=af) (a:=x2) rfl (fun b4=>?_)
 let p2:=D9 b4 af x2
 refine bw al138 fun b5=>?_
 refine bo (fun e C=>∃x8,qo x1 x8=some r/\At [(2,Pr.pt b3 0),(4,Pr.pt b5 0)] [D9 b3 aw ({x1 with Scope:={x1.Scope with Seen:=x8}}),p2,D9 b5 aw (C8.mk (B7.mk [] [] false []) [] 0)] e C) ?_ ?_
 ·rintro e C ⟨x8,h,a⟩
  refine W_at a ?_
  unfold qo at h
  refine W_rs (kUn (au 0 um (Sub.refl _)) ?_)
  refine av 2 rfl rfl (Upd.refl _) rfl sizeOf138 ?_
  obtain rfl:=osj h
  exact bg ⟨rfl,[(aw).val ({x1 with Scope:={x1.Scope with Seen:=x8}})],⟨yBox 2 um aa,tv⟩,aa⟩
 obtain⟨x6,hx6,h⟩:=ah h
 obtain⟨x8,k,h⟩:=ah h
 refine aec [0,1,3,7,0,16,0,64,240,496,1023,2047,4095,8191] [[],[],[D9 b3 aw x1],[],[],[p2],[],[p2],[],[],[],[],[],[]] hmx kr kr kr rfl ?_
 refine aq0 0 1 (out:=Pr.pt b3 0) rfl (fun C9=>(ak wh)) ?_
 refine aq0 1 3 (out:=Pr.pt b3 3) rfl (fun C9=>(ak aoa)) ?_
 refine aq1 2 7 0 (out:=ap ag x1.Scope.Seen) rfl rfl (fun C9 i9 h9=>(au (R:=aw) (a:=x1) (R':=Rp.list ag) i9 ty38 (d6.trans aa3 nb) (hi:=h9))) ?_
 refine aq0 4 23 (out:=Pr.pt b4 1) rfl (fun C9=>(ak ie)) ?_
 refine aq1 5 55 1 (out:=Pr.str x2.Text) rfl rfl (fun C9 i9 h9=>(au (R:=af) (a:=x2) (R':=Rp.str) i9 ty9 cd (hi:=h9))) ?_
 refine aq0 6 119 (out:=Pr.pt b4 2) rfl (fun C9=>(ak ws)) ?_
 refine aq1 7 247 1 (out:=Pr.str x2.Type_) rfl rfl (fun C9 i9 h9=>(au (R:=af) (a:=x2) (R':=Rp.str) i9 ty9 gm (hi:=h9))) ?_
 refine aq0 8 503 (out:=(ag).val p1) rfl (fun C9=>(jm st49 ⟨(B0.mk 4 [] [] [] [] false [] 0 0),⟨_,rfl,rfl,qbj⟩,⟨(B0.mk 4 [] x2.Text [] [] false [] 0 0),⟨_,rfl,rfl,qbj⟩,⟨p1,⟨_,rfl,rfl,qbj⟩,rfl⟩⟩⟩)) ?_
 refine aq0 9 1015 (out:=ap ag ([p1]:List B0)) rfl (fun C9=>(cq (R:=ag) (a:=p1) el38 nb)) ?_
 refine ae 3 1023 rfl (fun g9=>?_)
 refine oy [] (ai8 x1.Scope.Seen _ hx6) (fun q C' hq=>?_)
 obtain⟨v7,rfl,rfl⟩:=hq
 refine oz _ [p2,p2] (ud 2 (ud 2 fv)) ?_
 refine ae 10 2047 rfl (fun g9=>?_)
 refine ik 0 el38 k (fun v9=>?_)
 refine oz _ [] fv ?_
 refine aq0 11 4095 (out:=Pr.pt b3 0) rfl (fun C9=>(ak wh)) ?_
 refine aq0 12 8191 (out:=Pr.pt b3 3) rfl (fun C9=>(ak aoa)) ?_
 refine ae 13 16383 rfl (fun g9=>?_)
 refine at5 (Rb:=aw) (R:=ag) (a:=x1) 0 0 sizeOf38 (Upd.trans ajb d6 ag8) ?_
 refine oz .any [] fv ?_
 refine agx ?_
 exact⟨x8,h,atOk⟩
theorem uo (x1:List B0) (x2:(B0->Option Bool)) (r:Int) (h:gw x1 x2=some r):Fp 152 [ap ag x1,d9 Tryz.prog (qz x2)] (P6 r):=by
 refine dv (rs:=[4]) func152 rfl ntmps152 ⟨by decide,results152⟩ dcd (fun s0=>?_)
 unfold gw at h
 refine W_rs (kAs rfl (a7 (W_rs (kMvL rfl (kUn (mg rfl underlying38) ?_)))))
 refine kMv rfl (a5 ?_)
 obtain⟨z2l,hz2,h⟩:=ah h
 obtain⟨n2,hN2⟩:=bv hz2
 refine di 0 (fun e C=>fw=some r/\At [] [] e C) ?_ ?_
 ·rintro e C ⟨h,a⟩
  refine W_at a ?_
  unfold fw at h
  refine W_rs (kAs rfl ?_)
  obtain rfl:=osj h
  exact bg ⟨rfl,aa⟩
 refine ek (fun m e C=>∃x3,fq (fun s=>dg x1 x2 s) m x3=some z2l/\At [(0,ap ag x1),(1,d9 Tryz.prog (qz x2)),(7,P6 (x1.length:Int)),(8,P6 x3)] [] e C) n2 ⟨0,hN2,⟨⟨aa,aa,aa,aa,tv⟩,A9.refl _⟩⟩ ?_
 rintro m e C ⟨x3,hN2,a⟩
 refine W_at a ?_
 obtain⟨m2,w2l,rfl,h2l,hn2,ho2⟩:=bm hN2
 replace h2l:dg x1 x2 x3=some w2l:=h2l
 unfold dg at h2l
 refine W_rs (kIn rfl rfl rfl (a7 ?_))
 refine a6 h2l rfl (fun _ h2l=>?_) (fun _ h2l=>?_)
 ·refine ay (a7 (a5 (W_rs (kMv rfl (kAs rfl (W_rs (kUn (hMv (out:=d9 Tryz.prog (qz x2)) rfl) (kMvL rfl (kMv rfl ?_)))))))))
  obtain⟨x6,k,h2l⟩:=ah h2l
  refine kUn (fo underlying38 sizeOf49 k) ?_
  refine kUn (cz ty49) ?_
  obtain⟨x7,k,h2l⟩:=ah h2l
  refine kUn (amn (spec:=qz x2) ⟨_,_,rfl,rfl,k⟩) ?_
  refine a6 h2l rfl (fun _ h2l=>?_) (fun _ h2l=>?_)
  ·refine W_rs (kMv rfl (kAs rfl ?_))
   obtain rfl:=ho2 _ (ojs h2l)
   replace h:some x3=some r:=h
   obtain rfl:=osj h
   exact bg ⟨rfl,aa⟩
  refine ay (W_r (kIn rfl rfl rfl (kMv rfl ?_)))
  exact⟨m2,lsu,w64 (x3+1),hn2 _ (ojs h2l),atOk⟩
 refine ej ?_
 obtain rfl:=ho2 _ (ojs h2l)
 exact⟨h,atOk⟩
theorem sr (x1:List B0) (x2:(B0->Option Bool)) (r:Bool) (h:fx x1 x2=some r):Fp 107 [ap ag x1,d9 Tryz.prog (qz x2)] (Pb r):=by
 refine dv (rs:=[4]) func107 rfl ntmps107 ⟨by decide,results107⟩ dcd (fun s0=>?_)
 unfold fx at h
 refine W_rs (kAs rfl (W_rs (kMvL rfl (kUn (hMv (out:=d9 Tryz.prog (qz x2)) rfl) (c8 h (uo x1 x2) rfl fun x3 _ h=>kIn rfl rfl rfl (kAs rfl ?_))))))
 obtain rfl:=osj h
 exact bg ⟨rfl,aa⟩
theorem am5 (x1:B0) (x2:Bt) (r:Bool) (h:s8 x1 x2=some r):Fp 108 [(ag).val x1,g0 Rp.str x2] (Pb r):=by
 refine dv (rs:=[3]) func108 rfl ntmps108 ⟨by decide,results108⟩ dcd (fun s0=>?_)
 unfold s8 at h
 refine W_rs ?_
 refine rBox (R:=ag) (a:=x1) rfl (fun b3=>?_)
 refine kAs rfl ?_
 refine bo (fun e C=>∃x5,tq x5=some r/\At [(3,Pb x5)] [D9 b3 ag x1] e C) ?_ ?_
 ·rintro e C ⟨x5,h,a⟩
  refine W_at a ?_
  unfold tq at h
  obtain rfl:=osj h
  exact bg ⟨rfl,aa⟩
 refine W_r (kUn (ak vc) ?_)
 refine kUn (au 0 ty3 fg) ?_
 refine kIn rfl rfl rfl (kMv rfl ?_)
 rcases cc h with⟨hc4,h⟩|⟨hc4,h⟩
 ·refine kGd rfl aa hc4 (ak s5) ?_
  refine kGd rfl aa hc4 (au 0 ty9 iv) ?_
  refine kGd rfl aa hc4 (cz ty9) ?_
  refine kGd rfl aa hc4 (qStr rfl rfl rfl) (kPt rfl hc4 rfl (kAs rfl ?_))
  exact⟨x1.Id==x2,h,atOk⟩
 refine skx ?_
 refine kPf rfl hc4 rfl (kAs rfl ?_)
 exact⟨false,h,atOk⟩
theorem ajz (x1:List B0) (x2:Bt) (r:Bool) (h:aax x1 x2=some r):Fp 59 [ap ag x1,Pr.str x2] (Pb r):=by
 refine dv (rs:=[4]) func59 rfl ntmps59 ⟨by decide,results59⟩ dcd (fun s0=>?_)
 unfold aax at h
 refine W_rs ?_
 refine rBox (R:=Rp.str) (a:=x2) rfl (fun b3=>?_)
 refine kAs rfl (W_rs (kMvL rfl ?_))
 refine ayd 0 [3] ?_ rfl ⟨rfl,tv⟩
 refine kUn rv ?_
 obtain⟨x4,k,h⟩:=ah h
 refine kUn (adm (sr x1 (fun a0=>s8 a0 x2) _ k) ⟨aa,(avt en108 (fun _ _ hs=>by obtain⟨a0,r,rfl,rfl,hr⟩:=hs;exact am5 a0 x2 r hr)),tv⟩) ?_
 refine kAs rfl ?_
 obtain rfl:=osj h
 exact bg ⟨rfl,aa⟩
theorem y4 (x1:List B0) (x2 x3:Bt) (r:Bool) (h:o5 x1 x2 x3=some r):Fp 28 [ap ag x1,Pr.str x2,Pr.str x3] (Pb r):=by
 refine dv (rs:=[6]) func28 rfl ntmps28 ⟨by decide,results28⟩ dcd (fun s0=>?_)
 unfold o5 at h
 refine W_rs (kAs rfl (W_rs (kMvL rfl (kMv rfl (c8 h (ajz x1 x3) rfl fun x4 _ h=>kAs rfl (a7 (a5 ?_)))))))
 refine bo (fun e C=>∃x6,acl x2 x3 x4 x1 x6=some r/\At [(0,ap ag x1),(1,Pr.str x2),(2,Pr.str x3),(7,Pb x4),(11,Pb x6)] [] e C) ?_ ?_
 ·rintro e C ⟨x6,h,a⟩
  refine W_at a ?_
  unfold acl at h
  refine a6 h rfl (fun _ h=>?_) (fun _ h=>?_)
  ·refine W_rs (kAs rfl ?_)
   obtain rfl:=osj h
   exact bg ⟨rfl,aa⟩
  refine W_rs (kMv rfl (kMv rfl (kSt rfl rfl rfl (kAs rfl ?_))))
  refine a6 h rfl (fun _ h=>?_) (fun _ h=>?_)
  ·refine bo (fun e C=>∃x12,y5 x12=some r/\At [(6,Pb x12)] [] e C) ?_ ?_
   ·rintro e C ⟨x12,h,a⟩
    refine W_at a ?_
    unfold y5 at h
    obtain rfl:=osj h
    exact bg ⟨rfl,aa⟩
   refine W_r (kMv rfl (kMv rfl ?_))
   rcases cc h with⟨hc9,h⟩|⟨hc9,h⟩
   ·refine skx ?_
    refine kPt rfl hc9 rfl (kMv rfl ?_)
    have hc11:true=true:=rfl
    refine skx ?_
    refine kPt rfl hc11 rfl (kAs rfl ?_)
    exact⟨true,h,atOk⟩
   refine kGd rfl aa hc9 (hMvA rfl) (kGd rfl aa hc9 (qStr rfl rfl rfl) (kPf rfl hc9 rfl (kMv rfl ?_)))
   rcases cc h with⟨hc10,h⟩|⟨hc10,h⟩
   ·refine skx ?_
    refine kPt rfl hc10 rfl (kAs rfl ?_)
    exact⟨true,h,atOk⟩
   refine kGd rfl aa hc10 (hMvA rfl) (kGd rfl aa hc10 (qStr rfl rfl rfl) (kPf rfl hc10 rfl (kAs rfl ?_)))
   exact⟨x3==([98,111,111,108,101,97,110]:Bt),h,atOk⟩
  refine W_rs (kMv rfl (kNo rfl (kAs rfl ?_)))
  refine a6 h rfl (fun _ h=>?_) (fun _ h=>?_)
  ·refine W_rs (kAs rfl ?_)
   obtain rfl:=osj h
   exact bg ⟨rfl,aa⟩
  refine W_rs (kMv rfl (kSt rfl rfl rfl (kAs rfl ?_)))
  refine a6 h rfl (fun _ h=>?_) (fun _ h=>?_)
  ·refine W_rs (kAs rfl ?_)
   obtain rfl:=osj h
   exact bg ⟨rfl,aa⟩
  refine ay ?_
  refine bo (fun e C=>∃x18,acm x18=some r/\At [(6,Pb x18)] [] e C) ?_ ?_
  ·rintro e C ⟨x18,h,a⟩
   refine W_at a ?_
   unfold acm at h
   obtain rfl:=osj h
   exact bg ⟨rfl,aa⟩
  refine W_r (kMvL rfl (kMv rfl (c8 h (ajz x1 x2) rfl fun x15 _ h=>kMv rfl ?_)))
  rcases cc h with⟨hc16,h⟩|⟨hc16,h⟩
  ·refine kGd rfl aa hc16 (hMvL rfl) (kGd rfl aa hc16 (hMvA rfl) (kGd rfl aa hc16 (hMvA rfl) ?_))
   obtain⟨x17,k,h⟩:=ah h
   refine kGd rfl aa hc16 (dz (amu x1 x2 x3 _ k)) ?_
   refine kPt rfl hc16 rfl (kAs rfl ?_)
   exact⟨x17,h,atOk⟩
  refine skx ?_
  refine kPf rfl hc16 rfl (kAs rfl ?_)
  exact⟨false,h,atOk⟩
 refine W_r (kMv rfl (kSt rfl rfl rfl (kMv rfl ?_)))
 rcases cc h with⟨hc5,h⟩|⟨hc5,h⟩
 ·refine skx ?_
  refine kPt rfl hc5 rfl (kAs rfl ?_)
  exact⟨true,h,atOk⟩
 refine kGd rfl aa hc5 (hMvA rfl) (kGd rfl aa hc5 (qStr rfl rfl rfl) (kPf rfl hc5 rfl (kAs rfl ?_)))
 exact⟨x2==([118,111,105,100]:Bt),h,atOk⟩
theorem bz (x1:C8) (x2:Bool) (x3 x4:Int) (r:PX D0 Unit) (h:du x1 x2 x3 x4=some r):FnX Tryz.prog 171 [(aw).val x1,Pb x2,P6 x3,P6 x4] [] (fun q C'=>∃a9,r= .ok a9/\q=br []/\C'=[]) (fun v=>∃m,r= .bad m/\v=ld m):=by
 refine lk (rs:=[]) func171 rfl ntmps171 ⟨by decide,results171⟩ dcd (fun s0=>?_)
 let p1:=B4.mk x3 x1.file x4
 unfold du at h
 refine W_rs ?_
 refine rBox (R:=aw) (a:=x1) rfl (fun b5=>?_)
 refine W_rs (kMv rfl (kNo rfl ?_))
 refine a6 h rfl (fun _ h=>?_) (fun _ h=>?_)
 ·refine W_r (kMv rfl (kUn (ak a10) ?_))
  refine kUn (au 0 ty3 ajp) ?_
  refine kMv rfl (kUn (jm st30 ⟨(B4.mk x3 0 0),⟨_,rfl,rfl,qbj⟩,⟨(B4.mk x3 x1.file 0),⟨_,rfl,rfl,qbj⟩,⟨p1,⟨_,rfl,rfl,qbj⟩,rfl⟩⟩⟩) ?_)
  refine kUn (jm st103 ⟨(D0.mk p1),⟨_,rfl,rfl,qbj⟩,rfl⟩) ?_
  refine kUn (a2l underlying103 rfl) ?_
  refine a2i (p:=att 103 ((l6).val (D0.mk p1))) (Die:=fun v=>v=ld (D0.mk p1)) (avz _) ?_ aa
  rintro _ rfl
  obtain rfl:=osj h
  exact .inr ⟨_,rfl,_,rfl,rfl⟩
 refine ay ?_
 obtain rfl:=osj h
 exact(.inl ⟨.inr rfl,_,A9.of [] rfl,_,aa,_,rfl,rfl,rfl⟩)
theorem ta (x1 x2 x3:Bt) (r:Bool) (h:k9 x1 x2 x3=some r):Fp 63 [Pr.str x1,g0 Rp.str x2,g0 Rp.str x3] (Pb r):=by
 refine dv (rs:=[4]) func63 rfl ntmps63 ⟨by decide,results63⟩ dcd (fun s0=>?_)
 unfold k9 at h
 refine W_rs (kAs rfl ?_)
 refine bo (fun e C=>∃x5,mx x5=some r/\At [(4,Pb x5)] [] e C) ?_ ?_
 ·rintro e C ⟨x5,h,a⟩
  refine W_at a ?_
  unfold mx at h
  obtain rfl:=osj h
  exact bg ⟨rfl,aa⟩
 refine W_r (kUn (cz ty9) ?_)
 refine kMv rfl (kSt rfl rfl rfl (kMv rfl ?_))
 rcases cc h with⟨hc4,h⟩|⟨hc4,h⟩
 ·refine kGd rfl aa hc4 (cz ty9) ?_
  refine kGd rfl aa hc4 (hMvA rfl) (kGd rfl aa hc4 (qStr rfl rfl rfl) (kPt rfl hc4 rfl (kAs rfl ?_)))
  exact⟨x3==x1,h,atOk⟩
 refine skx ?_
 refine kPf rfl hc4 rfl (kAs rfl ?_)
 exact⟨false,h,atOk⟩
end Go.Proofs.YtcndghapmoaidaaGreatDoor
set_option linter.unusedSectionVars false
set_option maxRecDepth 100000
set_option maxHeartbeats 4000000
namespace Go.Proofs.YtcndghapmoaidaaGreatDoor
open Go Go.Cn Tryz
attribute [local irreducible] g0 ap
theorem aha (x1:List B0) (x2 x3 x4:Bt) (r:Bt) (h:jz x1 x2 x3 x4=some r):Fp 30 [ap ag x1,Pr.str x2,Pr.str x3,Pr.str x4] (Pr.str r):=by
  refine dv (rs:=[8]) func30 rfl ntmps30 ⟨by decide,results30⟩ dcd (fun s0=>?_)
  unfold jz at h
  refine W_rs ?_
  refine rBox (R:=Rp.str) (a:=x3) rfl (fun b5=>?_)
  refine rBox (R:=Rp.str) (a:=x4) rfl (fun b6=>?_)
  refine kAs rfl (W_rs ?_)
  refine ayd 0 [6] ?_ rfl ⟨rfl,tv⟩
  refine ayd 0 [7] ?_ rfl ⟨rfl,tv⟩
  refine kUn rv ?_
  refine kUn (hAs (out:=oc 63 [] [g0 Rp.str x3,g0 Rp.str x4]) rfl) ?_
  refine bo (fun e C=>ll=some r/\At [] [] e C) ?_ ?_
  · rintro e C ⟨h,a⟩
    refine W_at a ?_
    unfold ll at h
    refine W_rs (kAs rfl ?_)
    obtain rfl:=osj h
    exact bg ⟨rfl,aa⟩
  refine W_rs (kMv rfl (a5 ?_))
  refine bo (fun e C=>∃x11,i5 x3 x4 x2 x1 x11=some r/\At [(0,ap ag x1),(6,g0 Rp.str x3),(7,g0 Rp.str x4),(9,oc 63 [] [g0 Rp.str x3,g0 Rp.str x4]),(11,Pr.str x2),(12,Pb x11)] [] e C) ?_ ?_
  · rintro e C ⟨x11,h,a⟩
    refine W_at a ?_
    unfold i5 at h
    refine a6 h rfl (fun _ h=>?_) (fun _ h=>?_)
    · refine W_rs (kUn (hMv (out:=oc 63 [] [g0 Rp.str x3,g0 Rp.str x4]) rfl) ?_)
      obtain⟨x13,k,h⟩:=ah h
      refine kUn (adu (ta ([105,110,116]:Bt) x3 x4 _ k)) ?_
      refine a6 h rfl (fun _ h=>?_) (fun _ h=>?_)
      · refine W_rs (kAs rfl ?_)
        obtain rfl:=osj h
        exact bg ⟨rfl,aa⟩
      refine ay ?_
      exact⟨h,atOk⟩
    refine bo (fun e C=>∃x18,j7 x3 x4 x2 x1 x18=some r/\At [(0,ap ag x1),(6,g0 Rp.str x3),(7,g0 Rp.str x4),(9,oc 63 [] [g0 Rp.str x3,g0 Rp.str x4]),(11,Pr.str x2),(20,Pb x18)] [] e C) ?_ ?_
    · rintro e C ⟨x18,h,a⟩
      refine W_at a ?_
      unfold j7 at h
      refine a6 h rfl (fun _ h=>?_) (fun _ h=>?_)
      · refine W_rs (kUn (hMv (out:=oc 63 [] [g0 Rp.str x3,g0 Rp.str x4]) rfl) ?_)
        obtain⟨x20,k,h⟩:=ah h
        refine kUn (adu (ta ([105,110,116]:Bt) x3 x4 _ k)) ?_
        refine a6 h rfl (fun _ h=>?_) (fun _ h=>?_)
        · refine W_rs (kAs rfl ?_)
          obtain rfl:=osj h
          exact bg ⟨rfl,aa⟩
        refine ay ?_
        exact⟨h,atOk⟩
      refine bo (fun e C=>∃x23,mr x3 x4 x2 x1 x23=some r/\At [(0,ap ag x1),(6,g0 Rp.str x3),(7,g0 Rp.str x4),(9,oc 63 [] [g0 Rp.str x3,g0 Rp.str x4]),(11,Pr.str x2),(27,Pb x23)] [] e C) ?_ ?_
      · rintro e C ⟨x23,h,a⟩
        refine W_at a ?_
        unfold mr at h
        refine a6 h rfl (fun _ h=>?_) (fun _ h=>?_)
        · refine W_rs (kUn (hMv (out:=oc 63 [] [g0 Rp.str x3,g0 Rp.str x4]) rfl) ?_)
          obtain⟨x25,k,h⟩:=ah h
          refine kUn (adu (ta ([98,111,111,108,101,97,110]:Bt) x3 x4 _ k)) ?_
          refine a6 h rfl (fun _ h=>?_) (fun _ h=>?_)
          · refine W_rs (kAs rfl ?_)
            obtain rfl:=osj h
            exact bg ⟨rfl,aa⟩
          refine ay ?_
          exact⟨h,atOk⟩
        refine bo (fun e C=>∃x28,ms x1 x3 x4 x28=some r/\At [(0,ap ag x1),(6,g0 Rp.str x3),(7,g0 Rp.str x4),(9,oc 63 [] [g0 Rp.str x3,g0 Rp.str x4]),(32,Pb x28)] [] e C) ?_ ?_
        · rintro e C ⟨x28,h,a⟩
          refine W_at a ?_
          unfold ms at h
          refine a6 h rfl (fun _ h=>?_) (fun _ h=>?_)
          · refine bo (fun e C=>∃x37,mt x37=some r/\At [(48,Pb x37)] [] e C) ?_ ?_
            · rintro e C ⟨x37,h,a⟩
              refine W_at a ?_
              unfold mt at h
              refine a6 h rfl (fun _ h=>?_) (fun _ h=>?_)
              · refine W_rs (kAs rfl ?_)
                obtain rfl:=osj h
                exact bg ⟨rfl,aa⟩
              refine ay ?_
              exact⟨h,atOk⟩
            refine W_r (kMvL rfl (kUn (cz ty9) ?_))
            refine kUn (cz ty9) ?_
            refine c8 h (y4 x1 x3 x4) rfl fun x30 _ h=>kMv rfl ?_
            rcases cc h with⟨hc31,h⟩|⟨hc31,h⟩
            · refine skx ?_
              refine kPt rfl hc31 rfl (kMv rfl ?_)
              have hc35:true=true:=rfl
              refine skx ?_
              refine kPt rfl hc35 rfl ?_
              exact⟨true,h,atOk⟩
            refine kGd rfl aa hc31 (hMvL rfl) (kGd rfl aa hc31 (cz ty9) ?_)
            refine kGd rfl aa hc31 (cz ty9) ?_
            obtain⟨x32,k,h⟩:=ah h
            refine kGd rfl aa hc31 (dz (y4 x1 x4 x3 _ k)) ?_
            refine kPf rfl hc31 rfl (kMv rfl ?_)
            rcases cc h with⟨hc33,h⟩|⟨hc33,h⟩
            · refine skx ?_
              refine kPt rfl hc33 rfl ?_
              exact⟨true,h,atOk⟩
            refine kGd rfl aa hc33 (hMv (out:=oc 63 [] [g0 Rp.str x3,g0 Rp.str x4]) rfl) ?_
            obtain⟨x34,k,h⟩:=ah h
            refine kGd rfl aa hc33 (adu (ta ([110,117,108,108]:Bt) x3 x4 _ k)) ?_
            refine kPf rfl hc33 rfl ?_
            exact⟨x34,h,atOk⟩
          refine ay ?_
          exact⟨h,atOk⟩
        refine W_rs (kSt rfl rfl rfl (kAs rfl ?_))
        refine a6 h rfl (fun _ h=>?_) (fun _ h=>?_)
        · refine ay ?_
          exact⟨x2==([61,61]:Bt),h,atOk⟩
        refine W_r (kSt rfl rfl rfl (kAs rfl ?_))
        exact⟨x2==([33,61]:Bt),h,atOk⟩
      refine W_rs (kSt rfl rfl rfl (kAs rfl ?_))
      refine a6 h rfl (fun _ h=>?_) (fun _ h=>?_)
      · refine ay ?_
        exact⟨x2==([38,38]:Bt),h,atOk⟩
      refine W_r (kSt rfl rfl rfl (kAs rfl ?_))
      exact⟨x2==([124,124]:Bt),h,atOk⟩
    refine W_rs (kSt rfl rfl rfl (kAs rfl ?_))
    refine a6 h rfl (fun _ h=>?_) (fun _ h=>?_)
    · refine ay ?_
      exact⟨x2==([60]:Bt),h,atOk⟩
    refine W_rs (kSt rfl rfl rfl (kAs rfl ?_))
    refine a6 h rfl (fun _ h=>?_) (fun _ h=>?_)
    · refine ay ?_
      exact⟨x2==([60,61]:Bt),h,atOk⟩
    refine W_rs (kSt rfl rfl rfl (kAs rfl ?_))
    refine a6 h rfl (fun _ h=>?_) (fun _ h=>?_)
    · refine ay ?_
      exact⟨x2==([62]:Bt),h,atOk⟩
    refine W_r (kSt rfl rfl rfl (kAs rfl ?_))
    exact⟨x2==([62,61]:Bt),h,atOk⟩
  refine W_rs (kSt rfl rfl rfl (kAs rfl ?_))
  refine a6 h rfl (fun _ h=>?_) (fun _ h=>?_)
  · refine ay ?_
    exact⟨x2==([43]:Bt),h,atOk⟩
  refine W_rs (kSt rfl rfl rfl (kAs rfl ?_))
  refine a6 h rfl (fun _ h=>?_) (fun _ h=>?_)
  · refine ay ?_
    exact⟨x2==([45]:Bt),h,atOk⟩
  refine W_rs (kSt rfl rfl rfl (kAs rfl ?_))
  refine a6 h rfl (fun _ h=>?_) (fun _ h=>?_)
  · refine ay ?_
    exact⟨x2==([42]:Bt),h,atOk⟩
  refine W_rs (kSt rfl rfl rfl (kAs rfl ?_))
  refine a6 h rfl (fun _ h=>?_) (fun _ h=>?_)
  · refine ay ?_
    exact⟨x2==([47]:Bt),h,atOk⟩
  refine W_r (kSt rfl rfl rfl (kAs rfl ?_))
  exact⟨x2==([37]:Bt),h,atOk⟩
theorem zb (x1:C8) (x2:B6) (r:Bool) (h:jv x1 x2=some r):Fp 172 [(aw).val x1,(af).val x2] (Pb r):=by
 refine dv (rs:=[4]) func172 rfl ntmps172 ⟨by decide,results172⟩ dcd (fun s0=>?_)
 unfold jv at h
 refine W_rs ?_
 refine rBox (R:=aw) (a:=x1) rfl (fun b3=>?_)
 refine rBox (R:=af) (a:=x2) rfl (fun b4=>?_)
 refine kAs rfl (W_rs (kUn (ak wh) ?_))
 refine kUn (au 0 ty66 d6) ?_
 refine kUn (au 1 ty64 (Sub.refl _)) ?_
 obtain⟨⟨x5,x6⟩,k,h⟩:=ah h
 refine kUn (dz (wv x1.Scope x2 _ k)) ?_
 refine kUn (hMv (out:=br [(ag).val x5,P6 x6]) rfl) (kUn ar ?_)
 refine kUn ar ?_
 refine bw tn fun b7=>av 2 rfl rfl (Upd.refl _) rfl sizeOf49 (kAs rfl ?_)
 refine bo (fun e C=>∃x9,lr x9=some r/\At [(4,Pb x9)] [D9 b3 aw x1,D9 b4 af x2,D9 b7 ag x5] e C) ?_ ?_
 ·rintro e C ⟨x9,h,a⟩
  refine W_at a ?_
  unfold lr at h
  obtain rfl:=osj h
  exact bg ⟨rfl,aa⟩
 refine W_r (kUn (ak f4) ?_)
 refine kUn (au 1 ty3 bc) ?_
 refine kIn rfl rfl rfl (kMv rfl ?_)
 rcases cc h with⟨hc8,h⟩|⟨hc8,h⟩
 ·refine kGd rfl aa hc8 (ak vc) ?_
  refine kGd rfl aa hc8 (au 2 ty3 fg) ?_
  refine kGd rfl aa hc8 (qInt rfl rfl rfl) (kPt rfl hc8 rfl (kAs rfl ?_))
  exact⟨x5.Kind==1,h,atOk⟩
 refine skx ?_
 refine kPf rfl hc8 rfl (kAs rfl ?_)
 exact⟨false,h,atOk⟩
def jl (R:bk):Prop:=(∀(x1:C8) (x2:B6) (x3:Bool) (r:PX D0 Unit),R.1 x1 x2 x3=some r->FnX Tryz.prog 173 [(aw).val x1,(af).val x2,Pb x3] [] (fun q C'=>∃a9,r= .ok a9/\q=br []/\C'=[]) (fun v=>∃m,r= .bad m/\v=ld m))/\(∀(x1:C8) (x2:B6) (x3:List Bt) (r:PX D0 Unit),R.2.1 x1 x2 x3=some r->FnX Tryz.prog 174 [(aw).val x1,(af).val x2,ap Rp.str x3] [] (fun q C'=>∃a9,r= .ok a9/\q=br []/\C'=[]) (fun v=>∃m,r= .bad m/\v=ld m))/\(∀(x1:C8) (x2:B6) (x3:List B6) (r:PX D0 Unit),R.2.2 x1 x2 x3=some r->FnX Tryz.prog 182 [(aw).val x1,(af).val x2,ap af x3] [] (fun q C'=>∃a9,r= .ok a9/\q=br []/\C'=[]) (fun v=>∃m,r= .bad m/\v=ld m))
theorem abb (R:bk) (ih:jl R) (x1:C8) (x2:B6) (x3:Bool) (r:PX D0 Unit) (h:io R x1 x2 x3=some r):FnX Tryz.prog 173 [(aw).val x1,(af).val x2,Pb x3] [] (fun q C'=>∃a9,r= .ok a9/\q=br []/\C'=[]) (fun v=>∃m,r= .bad m/\v=ld m):=by
 refine lk (rs:=[]) func173 rfl ntmps173 ⟨by decide,results173⟩ dcd (fun s0=>?_)
 unfold io at h
 refine W_rs ?_
 refine rBox (R:=aw) (a:=x1) rfl (fun b4=>?_)
 let p1:=D9 b4 aw x1
 refine rBox (R:=af) (a:=x2) rfl (fun b5=>?_)
 let p2:=D9 b5 af x2
 refine W_rs (kUn (ak f4) ?_)
 refine kUn (au 1 ty3 bc) ?_
 refine a5 (W_rs (kIn rfl rfl rfl (kAs rfl ?_)))
 refine a6 h rfl (fun _ h=>?_) (fun _ h=>?_)
 ·refine i8 10 hmx kr kr ?_
  refine lUn (au 0 um (Sub.refl _)) ?_
  refine lUn (hMvA rfl) (lUn (hMvA rfl) ?_)
  rcases cc h with⟨hc7,h⟩|⟨hc7,h⟩
  ·refine lsx ?_
   refine lUn (hPt rfl hc7 rfl) (lUn (ak ru) ?_)
   refine lUn (au 1 ty3 ip) ?_
   rcases cr h with⟨m12,hm12,h⟩|⟨_,hx11,h⟩
   ·refine dw [] (bz x1 true 170 x2.At _ hm12) ⟨aa,aa,aa,aa,tv⟩ (fun q C' hq=>?_) (fun v9 hv=>?_)
    ·obtain⟨_,h9,_⟩:=hq;cases h9
    obtain⟨_,h9,rfl⟩:=hv
    cases h9
    obtain rfl:=osj h
    exact .inr ⟨_,rfl,_,rfl,rfl⟩
   refine dw [] (bz x1 true 170 x2.At _ hx11) ⟨aa,aa,aa,aa,tv⟩ (fun q C' hq=>?_) (fun v9 hv=>by obtain⟨_,h9,_⟩:=hv;cases h9)
   obtain⟨_,h9,rfl,rfl⟩:=hq
   cases h9
   refine rCtx [p1,p2] ?_
   obtain rfl:=osj h
   exact(.inl ⟨.inr rfl,_,A9.of [] rfl,_,aa,_,rfl,rfl,rfl⟩)
  refine lGd rfl aa hc7 (au 0 um (Sub.refl _)) ?_
  refine lGd rfl aa hc7 (au 1 ty64 (Sub.refl _)) ?_
  obtain⟨x8,k,h⟩:=ah h
  refine lGd rfl aa hc7 (dz (zb x1 x2 _ k)) ?_
  refine lGd rfl aa hc7 (qNot rfl) (lUn (hPf rfl hc7 rfl) (lUn (ak ru) ?_))
  refine lUn (au 1 ty3 ip) ?_
  rcases cr h with⟨m10,hm10,h⟩|⟨_,hx9,h⟩
  ·refine dw [] (bz x1 (!x8) 170 x2.At _ hm10) ⟨aa,aa,aa,aa,tv⟩ (fun q C' hq=>?_) (fun v9 hv=>?_)
   ·obtain⟨_,h9,_⟩:=hq;cases h9
   obtain⟨_,h9,rfl⟩:=hv
   cases h9
   obtain rfl:=osj h
   exact .inr ⟨_,rfl,_,rfl,rfl⟩
  refine dw [] (bz x1 (!x8) 170 x2.At _ hx9) ⟨aa,aa,aa,aa,tv⟩ (fun q C' hq=>?_) (fun v9 hv=>by obtain⟨_,h9,_⟩:=hv;cases h9)
  obtain⟨_,h9,rfl,rfl⟩:=hq
  cases h9
  refine rCtx [p1,p2] ?_
  obtain rfl:=osj h
  exact(.inl ⟨.inr rfl,_,A9.of [] rfl,_,aa,_,rfl,rfl,rfl⟩)
 refine W_rs (kIn rfl rfl rfl (kAs rfl ?_))
 refine a6 h rfl (fun _ h=>?_) (fun _ h=>?_)
 ·refine i8 5 hmx kr kr ?_
  refine lUn (au 0 um (Sub.refl _)) ?_
  refine lUn (ak ic) ?_
  refine lUn (au 1 ty53 bt) ?_
  obtain⟨x14,k,h⟩:=ah h
  refine lUn (fo underlying53 sizeOf64 k) ?_
  refine lUn (cz ty64) ?_
  rcases cr h with⟨m16,hm16,h⟩|⟨_,hx15,h⟩
  ·refine dw [] (ih.1 x1 x14 true _ hm16) ⟨aa,aa,aa,tv⟩ (fun q C' hq=>?_) (fun v9 hv=>?_)
   ·obtain⟨_,h9,_⟩:=hq;cases h9
   obtain⟨_,h9,rfl⟩:=hv
   cases h9
   obtain rfl:=osj h
   exact .inr ⟨_,rfl,_,rfl,rfl⟩
  refine dw [] (ih.1 x1 x14 true _ hx15) ⟨aa,aa,aa,tv⟩ (fun q C' hq=>?_) (fun v9 hv=>by obtain⟨_,h9,_⟩:=hv;cases h9)
  obtain⟨_,h9,rfl,rfl⟩:=hq
  cases h9
  refine rCtx [p1,p2] ?_
  obtain rfl:=osj h
  exact(.inl ⟨.inr rfl,_,A9.of [] rfl,_,aa,_,rfl,rfl,rfl⟩)
 refine W_rs (kIn rfl rfl rfl (kAs rfl ?_))
 refine a6 h rfl (fun _ h=>?_) (fun _ h=>?_)
 ·refine bo (fun e C=>ma R x2 x1=some r/\At [(3,Pr.pt b4 0),(4,Pr.pt b5 0)] [p1,p2] e C) ?_ ?_
  ·rintro e C ⟨h,a⟩
   refine W_at a ?_
   unfold ma at h
   refine i8 5 hmx kr kr ?_
   refine lUn (au 0 um (Sub.refl _)) ?_
   refine lUn (au 1 ty64 (Sub.refl _)) ?_
   refine lUn (ak ic) ?_
   refine lUn (au 1 ty53 bt) ?_
   obtain⟨x21,k,h⟩:=ah h
   refine lUn (ayl underlying53 sizeOf64 k) ?_
   rcases cr h with⟨m23,hm23,h⟩|⟨_,hx22,h⟩
   ·refine dw [] (ih.2.2 x1 x2 x21 _ hm23) ⟨aa,aa,aa,tv⟩ (fun q C' hq=>?_) (fun v9 hv=>?_)
    ·obtain⟨_,h9,_⟩:=hq;cases h9
    obtain⟨_,h9,rfl⟩:=hv
    cases h9
    obtain rfl:=osj h
    exact .inr ⟨_,rfl,_,rfl,rfl⟩
   refine dw [] (ih.2.2 x1 x2 x21 _ hx22) ⟨aa,aa,aa,tv⟩ (fun q C' hq=>?_) (fun v9 hv=>by obtain⟨_,h9,_⟩:=hv;cases h9)
   obtain⟨_,h9,rfl,rfl⟩:=hq
   cases h9
   refine rCtx [p1,p2] ?_
   obtain rfl:=osj h
   exact(.inl ⟨.inr rfl,_,A9.of [] rfl,_,aa,_,rfl,rfl,rfl⟩)
  refine i8 5 hmx kr kr ?_
  refine lUn (au 0 um (Sub.refl _)) ?_
  refine lUn (ak ic) ?_
  refine lUn (au 1 ty53 bt) ?_
  obtain⟨x18,k,h⟩:=ah h
  refine lUn (fo underlying53 sizeOf64 k) ?_
  refine lUn (cz ty64) ?_
  rcases cr h with⟨m20,hm20,h⟩|⟨_,hx19,h⟩
  ·refine dw [] (ih.1 x1 x18 true _ hm20) ⟨aa,aa,aa,tv⟩ (fun q C' hq=>?_) (fun v9 hv=>?_)
   ·obtain⟨_,h9,_⟩:=hq;cases h9
   obtain⟨_,h9,rfl⟩:=hv
   cases h9
   obtain rfl:=osj h
   exact .inr ⟨_,rfl,_,rfl,rfl⟩
  refine dw [] (ih.1 x1 x18 true _ hx19) ⟨aa,aa,aa,tv⟩ (fun q C' hq=>?_) (fun v9 hv=>by obtain⟨_,h9,_⟩:=hv;cases h9)
  obtain⟨_,h9,rfl,rfl⟩:=hq
  cases h9
  refine rCtx [p1,p2] ?_
  exact⟨h,atOk⟩
 refine W_rs (kIn rfl rfl rfl (kAs rfl ?_))
 refine a6 h rfl (fun _ h=>?_) (fun _ h=>?_)
 ·refine W_r (kUn (au 0 um (Sub.refl _)) ?_)
  refine kUn (au 1 ty64 (Sub.refl _)) ?_
  refine kUn (ak ic) ?_
  refine kUn (au 1 ty53 bt) ?_
  rcases cr h with⟨m26,hm26,h⟩|⟨_,hx25,h⟩
  ·refine dw [] (ih.2.2 x1 x2 x2.Kids _ hm26) ⟨aa,aa,aa,tv⟩ (fun q C' hq=>?_) (fun v9 hv=>?_)
   ·obtain⟨_,h9,_⟩:=hq;cases h9
   obtain⟨_,h9,rfl⟩:=hv
   cases h9
   obtain rfl:=osj h
   exact .inr ⟨_,rfl,_,rfl,rfl⟩
  refine dw [] (ih.2.2 x1 x2 x2.Kids _ hx25) ⟨aa,aa,aa,tv⟩ (fun q C' hq=>?_) (fun v9 hv=>by obtain⟨_,h9,_⟩:=hv;cases h9)
  obtain⟨_,h9,rfl,rfl⟩:=hq
  cases h9
  refine rCtx [p1,p2] ?_
  obtain rfl:=osj h
  exact(.inl ⟨.inr rfl,_,A9.of [] rfl,_,aa,_,rfl,rfl,rfl⟩)
 refine W_rs (kIn rfl rfl rfl (kAs rfl ?_))
 refine a6 h rfl (fun _ h=>?_) (fun _ h=>?_)
 ·refine i8 6 hmx kr kr ?_
  refine lUn (au 0 um (Sub.refl _)) ?_
  refine lUn (ak ic) ?_
  refine lUn (au 1 ty53 bt) ?_
  obtain⟨x28,k,h⟩:=ah h
  refine lUn (fo underlying53 sizeOf64 k) ?_
  refine lUn (cz ty64) ?_
  refine lUn (cq (R:=Rp.str) (a:=([98,111,111,108,101,97,110]:Bt)) el22 nb) ?_
  rcases cr h with⟨m30,hm30,h⟩|⟨_,hx29,h⟩
  ·refine dw [] (ih.2.1 x1 x28 ([([98,111,111,108,101,97,110]:Bt)]:List Bt) _ hm30) ⟨aa,aa,aa,tv⟩ (fun q C' hq=>?_) (fun v9 hv=>?_)
   ·obtain⟨_,h9,_⟩:=hq;cases h9
   obtain⟨_,h9,rfl⟩:=hv
   cases h9
   obtain rfl:=osj h
   exact .inr ⟨_,rfl,_,rfl,rfl⟩
  refine dw [] (ih.2.1 x1 x28 ([([98,111,111,108,101,97,110]:Bt)]:List Bt) _ hx29) ⟨aa,aa,aa,tv⟩ (fun q C' hq=>?_) (fun v9 hv=>by obtain⟨_,h9,_⟩:=hv;cases h9)
  obtain⟨_,h9,rfl,rfl⟩:=hq
  cases h9
  refine rCtx [p1,p2] ?_
  obtain rfl:=osj h
  exact(.inl ⟨.inr rfl,_,A9.of [] rfl,_,aa,_,rfl,rfl,rfl⟩)
 refine W_rs (kIn rfl rfl rfl (kAs rfl ?_))
 refine a6 h rfl (fun _ h=>?_) (fun _ h=>?_)
 ·refine i8 6 hmx kr kr ?_
  refine lUn (au 0 um (Sub.refl _)) ?_
  refine lUn (ak ic) ?_
  refine lUn (au 1 ty53 bt) ?_
  obtain⟨x32,k,h⟩:=ah h
  refine lUn (fo underlying53 sizeOf64 k) ?_
  refine lUn (cz ty64) ?_
  refine lUn (cq (R:=Rp.str) (a:=([105,110,116]:Bt)) el22 nb) ?_
  rcases cr h with⟨m34,hm34,h⟩|⟨_,hx33,h⟩
  ·refine dw [] (ih.2.1 x1 x32 ([([105,110,116]:Bt)]:List Bt) _ hm34) ⟨aa,aa,aa,tv⟩ (fun q C' hq=>?_) (fun v9 hv=>?_)
   ·obtain⟨_,h9,_⟩:=hq;cases h9
   obtain⟨_,h9,rfl⟩:=hv
   cases h9
   obtain rfl:=osj h
   exact .inr ⟨_,rfl,_,rfl,rfl⟩
  refine dw [] (ih.2.1 x1 x32 ([([105,110,116]:Bt)]:List Bt) _ hx33) ⟨aa,aa,aa,tv⟩ (fun q C' hq=>?_) (fun v9 hv=>by obtain⟨_,h9,_⟩:=hv;cases h9)
  obtain⟨_,h9,rfl,rfl⟩:=hq
  cases h9
  refine rCtx [p1,p2] ?_
  obtain rfl:=osj h
  exact(.inl ⟨.inr rfl,_,A9.of [] rfl,_,aa,_,rfl,rfl,rfl⟩)
 refine W_rs (kIn rfl rfl rfl (kAs rfl ?_))
 refine a6 h rfl (fun _ h=>?_) (fun _ h=>?_)
 ·refine bo (fun e C=>∃x36,∃x37,∃b38,∃b39,l9 R x1 x2 x36 x37=some r/\At [(3,Pr.pt b4 0),(4,Pr.pt b5 0),(6,Pr.pt b38 0),(7,Pr.pt b39 0)] [p1,p2,D9 b38 af x36,D9 b39 af x37] e C) ?_ ?_
  ·rintro e C ⟨x36,x37,b38,b39,h,a⟩
   refine W_at a ?_
   unfold l9 at h
   refine W_rs (kUn (au 0 um (Sub.refl _)) ?_)
   refine kUn (au 2 ty64 (Sub.refl _)) ?_
   rcases cr h with⟨m48,hm48,h⟩|⟨_,hx40,h⟩
   ·refine dw [] (ih.1 x1 x36 false _ hm48) ⟨aa,aa,aa,tv⟩ (fun q C' hq=>?_) (fun v9 hv=>?_)
    ·obtain⟨_,h9,_⟩:=hq;cases h9
    obtain⟨_,h9,rfl⟩:=hv
    cases h9
    obtain rfl:=osj h
    exact .inr ⟨_,rfl,_,rfl,rfl⟩
   refine dw [] (ih.1 x1 x36 false _ hx40) ⟨aa,aa,aa,tv⟩ (fun q C' hq=>?_) (fun v9 hv=>by obtain⟨_,h9,_⟩:=hv;cases h9)
   obtain⟨_,h9,rfl,rfl⟩:=hq
   cases h9
   refine rCtx [p1,p2,D9 b38 af x36,D9 b39 af x37] ?_
   refine W_rs (kUn (au 0 um (Sub.refl _)) ?_)
   refine kUn (au 3 ty64 (Sub.refl _)) ?_
   rcases cr h with⟨m47,hm47,h⟩|⟨_,hx41,h⟩
   ·refine dw [] (ih.1 x1 x37 false _ hm47) ⟨aa,aa,aa,tv⟩ (fun q C' hq=>?_) (fun v9 hv=>?_)
    ·obtain⟨_,h9,_⟩:=hq;cases h9
    obtain⟨_,h9,rfl⟩:=hv
    cases h9
    obtain rfl:=osj h
    exact .inr ⟨_,rfl,_,rfl,rfl⟩
   refine dw [] (ih.1 x1 x37 false _ hx41) ⟨aa,aa,aa,tv⟩ (fun q C' hq=>?_) (fun v9 hv=>by obtain⟨_,h9,_⟩:=hv;cases h9)
   obtain⟨_,h9,rfl,rfl⟩:=hq
   cases h9
   refine rCtx [p1,p2,D9 b38 af x36,D9 b39 af x37] ?_
   refine i8 18 hmx kr kr ?_
   refine lUn (au 0 um (Sub.refl _)) ?_
   refine lUn (ak wh) ?_
   refine lUn (ak aif) ?_
   refine lUn (au 0 ty38 (d6.trans ku nb)) ?_
   refine lUn (ak ie) ?_
   refine lUn (au 1 ty9 cd) ?_
   refine lUn (ak wh) ?_
   refine lUn (au 0 ty66 d6) ?_
   refine lUn (au 2 ty64 (Sub.refl _)) ?_
   obtain⟨x42,k,h⟩:=ah h
   refine lUn (dz (nt x1.Scope x36 _ k)) ?_
   refine lUn (ak wh) ?_
   refine lUn (au 0 ty66 d6) ?_
   refine lUn (au 3 ty64 (Sub.refl _)) ?_
   obtain⟨x43,k,h⟩:=ah h
   refine lUn (dz (nt x1.Scope x37 _ k)) ?_
   obtain⟨x44,k,h⟩:=ah h
   refine lUn (dz (aha x1.Scope.Table x2.Text x42 x43 _ k)) ?_
   refine lUn (qStr rfl rfl rfl) (lUn (ak adb) ?_)
   refine lUn (au 1 ty3 iu) ?_
   rcases cr h with⟨m46,hm46,h⟩|⟨_,hx45,h⟩
   ·refine dw [] (bz x1 (!(x44==[])) 180 x2.From _ hm46) ⟨aa,aa,aa,aa,tv⟩ (fun q C' hq=>?_) (fun v9 hv=>?_)
    ·obtain⟨_,h9,_⟩:=hq;cases h9
    obtain⟨_,h9,rfl⟩:=hv
    cases h9
    obtain rfl:=osj h
    exact .inr ⟨_,rfl,_,rfl,rfl⟩
   refine dw [] (bz x1 (!(x44==[])) 180 x2.From _ hx45) ⟨aa,aa,aa,aa,tv⟩ (fun q C' hq=>?_) (fun v9 hv=>by obtain⟨_,h9,_⟩:=hv;cases h9)
   obtain⟨_,h9,rfl,rfl⟩:=hq
   cases h9
   refine rCtx [p1,p2,D9 b38 af x36,D9 b39 af x37] ?_
   obtain rfl:=osj h
   exact(.inl ⟨.inr rfl,_,A9.of [] rfl,_,aa,_,rfl,rfl,rfl⟩)
  obtain⟨x36,hx36,h⟩:=ah h
  obtain⟨x37,hx37,h⟩:=ah h
  refine ash 2 (fun B S=>[D9 b4 aw x1,D9 b5 af x2,(cond (S 10) (D9 (B 8) af x36) (cond (S 8) (D9 (B 8) af (B6.mk 0 [] [] 0 0 0 0 0 [])) A4.nil)),(cond (S 11) (D9 (B 9) af x37) (cond (S 9) (D9 (B 9) af (B6.mk 0 [] [] 0 0 0 0 0 [])) A4.nil))]) (fun B=>[D9 b4 aw x1,D9 b5 af x2,D9 (B 8) af x36,D9 (B 9) af x37]) [Pr.pt b5 8,ap af x2.Kids,g0 af x36,(af).val x36,Pr.pt b5 8,ap af x2.Kids,g0 af x37,(af).val x37,.any,.any,.any,.any] (fun k=>([0,0,0,0,0,0,0,0,2,2,1,1]:List Nat).getD k 0) hmx kr kr (fun _=>rfl) (fun B S S' h=>by show([D9 b4 aw x1,D9 b5 af x2,(cond (S 10) (D9 (B 8) af x36) (cond (S 8) (D9 (B 8) af (B6.mk 0 [] [] 0 0 0 0 0 [])) A4.nil)),(cond (S 11) (D9 (B 9) af x37) (cond (S 9) (D9 (B 9) af (B6.mk 0 [] [] 0 0 0 0 0 [])) A4.nil))]:Ctx)=[D9 b4 aw x1,D9 b5 af x2,(cond (S' 10) (D9 (B 8) af x36) (cond (S' 8) (D9 (B 8) af (B6.mk 0 [] [] 0 0 0 0 0 [])) A4.nil)),(cond (S' 11) (D9 (B 9) af x37) (cond (S' 9) (D9 (B 9) af (B6.mk 0 [] [] 0 0 0 0 0 [])) A4.nil))];simp only[h 8 (Nat.le_of_ble_eq_true kr),h 9 (Nat.le_of_ble_eq_true kr),h 10 (Nat.le_of_ble_eq_true kr),h 11 (Nat.le_of_ble_eq_true kr)]) (fun _=>rfl) (fun B=>?_)
  refine gq1 (fun S hK=>(ak ic)) ?_
  refine gq1 (fun S hK=>(au (R:=af) (a:=x2) (R':=Rp.list af) 1 ty53 bt (hi:=rfl))) ?_
  refine gq1 (fun S hK=>(fo (R:=af) (l:=x2.Kids) underlying53 sizeOf64 hx36)) ?_
  refine gq1 (fun S hK=>(cz (R:=af) (a:=x36) ty64)) ?_
  refine gq1 (fun S hK=>(ak ic)) ?_
  refine gq1 (fun S hK=>(au (R:=af) (a:=x2) (R':=Rp.list af) 1 ty53 bt (hi:=rfl))) ?_
  refine gq1 (fun S hK=>(fo (R:=af) (l:=x2.Kids) underlying53 sizeOf64 hx37)) ?_
  refine gq1 (fun S hK=>(cz (R:=af) (a:=x37) ty64)) ?_
  refine gqA (fun S hK=>⟨fun B' hB=>by show([D9 b4 aw x1,D9 b5 af x2,(cond (S 10) (D9 (B' 8) af x36) (cond (S 8) (D9 (B' 8) af (B6.mk 0 [] [] 0 0 0 0 0 [])) A4.nil)),(cond (S 11) (D9 (B' 9) af x37) (cond (S 9) (D9 (B' 9) af (B6.mk 0 [] [] 0 0 0 0 0 [])) A4.nil))]:Ctx)=[D9 b4 aw x1,D9 b5 af x2,(cond (S 10) (D9 (B 8) af x36) (cond (S 8) (D9 (B 8) af (B6.mk 0 [] [] 0 0 0 0 0 [])) A4.nil)),(cond (S 11) (D9 (B 9) af x37) (cond (S 9) (D9 (B 9) af (B6.mk 0 [] [] 0 0 0 0 0 [])) A4.nil))];simp only[hK.me,hK.F 10 kr,hB 9 dcd,cond_false],fun s ρ hg _=>ato (R:=af) (z:=(B6.mk 0 [] [] 0 0 0 0 0 [])) 2 zeroValue64 (fun _=>(by rw[ba];exact⟨_,⟨_,_,rfl,rfl,⟨_,_,rfl,rfl,⟨_,_,rfl,rfl,⟨_,_,rfl,rfl,⟨_,_,rfl,rfl,⟨_,_,rfl,rfl,⟨_,_,rfl,rfl,⟨_,_,rfl,rfl,⟨_,_,rfl,⟨_,rfl,none,0,rfl,⟨Nat.le_refl _,fun _=>rfl⟩,.inl rfl⟩,rfl⟩⟩⟩⟩⟩⟩⟩⟩⟩,rfl⟩)) (congrArg some ((aj9 (hK.F 10 kr) _ _).trans (aj9 (hK.me) _ _))) (fun b=>by show([D9 b4 aw x1,D9 b5 af x2,(cond (S 10) (D9 b af x36) (D9 b af (B6.mk 0 [] [] 0 0 0 0 0 []))),(cond (S 11) (D9 (B 9) af x37) (cond (S 9) (D9 (B 9) af (B6.mk 0 [] [] 0 0 0 0 0 [])) A4.nil))]:Ctx)=_;rw[hK.F 10 kr];rfl) s ρ hg⟩) ?_
  refine gqA (fun S hK=>⟨fun B' hB=>by show([D9 b4 aw x1,D9 b5 af x2,(cond (S 10) (D9 (B' 8) af x36) (cond (S 8) (D9 (B' 8) af (B6.mk 0 [] [] 0 0 0 0 0 [])) A4.nil)),(cond (S 11) (D9 (B' 9) af x37) (cond (S 9) (D9 (B' 9) af (B6.mk 0 [] [] 0 0 0 0 0 [])) A4.nil))]:Ctx)=[D9 b4 aw x1,D9 b5 af x2,(cond (S 10) (D9 (B 8) af x36) (cond (S 8) (D9 (B 8) af (B6.mk 0 [] [] 0 0 0 0 0 [])) A4.nil)),(cond (S 11) (D9 (B 9) af x37) (cond (S 9) (D9 (B 9) af (B6.mk 0 [] [] 0 0 0 0 0 [])) A4.nil))];simp only[hK.me,hK.F 11 kr,hB 8 dcd,cond_false],fun s ρ hg _=>ato (R:=af) (z:=(B6.mk 0 [] [] 0 0 0 0 0 [])) 3 zeroValue64 (fun _=>(by rw[ba];exact⟨_,⟨_,_,rfl,rfl,⟨_,_,rfl,rfl,⟨_,_,rfl,rfl,⟨_,_,rfl,rfl,⟨_,_,rfl,rfl,⟨_,_,rfl,rfl,⟨_,_,rfl,rfl,⟨_,_,rfl,rfl,⟨_,_,rfl,⟨_,rfl,none,0,rfl,⟨Nat.le_refl _,fun _=>rfl⟩,.inl rfl⟩,rfl⟩⟩⟩⟩⟩⟩⟩⟩⟩,rfl⟩)) (congrArg some ((aj9 (hK.F 11 kr) _ _).trans (aj9 (hK.me) _ _))) (fun b=>by show([D9 b4 aw x1,D9 b5 af x2,(cond (S 10) (D9 (B 8) af x36) (cond (S 8) (D9 (B 8) af (B6.mk 0 [] [] 0 0 0 0 0 [])) A4.nil)),(cond (S 11) (D9 b af x37) (D9 b af (B6.mk 0 [] [] 0 0 0 0 0 [])))]:Ctx)=_;rw[hK.F 11 kr];rfl) s ρ hg⟩) ?_
  refine gqS (fun S hK=>aks.as (aqz (R:=af) (R':=af) (a:=(B6.mk 0 [] [] 0 0 0 0 0 [])) (y:=x36) 2 sizeOf64 (Upd.refl _) (congrArg some ((aj9 (hK.me) _ _).trans (ayh (hK.T 8 kr) _ _)))) (by show(_:Ctx)=[D9 b4 aw x1,D9 b5 af x2,D9 (B 8) af x36,(cond (S 11) (D9 (B 9) af x37) (cond (S 9) (D9 (B 9) af (B6.mk 0 [] [] 0 0 0 0 0 [])) A4.nil))];rfl)) ?_
  refine gqS (fun S hK=>aks.as (aqz (R:=af) (R':=af) (a:=(B6.mk 0 [] [] 0 0 0 0 0 [])) (y:=x37) 3 sizeOf64 (Upd.refl _) (congrArg some ((aj9 (hK.me) _ _).trans (ayh (hK.T 9 kr) _ _)))) (by show(_:Ctx)=[D9 b4 aw x1,D9 b5 af x2,(cond (S 10) (D9 (B 8) af x36) (cond (S 8) (D9 (B 8) af (B6.mk 0 [] [] 0 0 0 0 0 [])) A4.nil)),D9 (B 9) af x37];rfl)) ?_
  exact⟨x36,x37,(B 8),(B 9),h,atOk⟩
 refine ay ?_
 obtain rfl:=osj h
 exact(.inl ⟨.inr rfl,_,A9.of [] rfl,_,aa,_,rfl,rfl,rfl⟩)
theorem ags (R:bk) (ih:jl R) (x1:C8) (x2:B6) (x3:List Bt) (r:PX D0 Unit) (h:mf R x1 x2 x3=some r):FnX Tryz.prog 174 [(aw).val x1,(af).val x2,ap Rp.str x3] [] (fun q C'=>∃a9,r= .ok a9/\q=br []/\C'=[]) (fun v=>∃m,r= .bad m/\v=ld m):=by
 refine lk (rs:=[]) func174 rfl ntmps174 ⟨by decide,results174⟩ dcd (fun s0=>?_)
 unfold mf at h
 refine W_rs ?_
 refine rBox (R:=aw) (a:=x1) rfl (fun b4=>?_)
 refine rBox (R:=af) (a:=x2) rfl (fun b5=>?_)
 refine W_rs (kUn (au 0 um (Sub.refl _)) ?_)
 refine kUn (au 1 ty64 (Sub.refl _)) ?_
 rcases cr h with⟨m11,hm11,h⟩|⟨_,hx6,h⟩
 ·refine dw [] (ih.1 x1 x2 false _ hm11) ⟨aa,aa,aa,tv⟩ (fun q C' hq=>?_) (fun v9 hv=>?_)
  ·obtain⟨_,h9,_⟩:=hq;cases h9
  obtain⟨_,h9,rfl⟩:=hv
  cases h9
  obtain rfl:=osj h
  exact .inr ⟨_,rfl,_,rfl,rfl⟩
 refine dw [] (ih.1 x1 x2 false _ hx6) ⟨aa,aa,aa,tv⟩ (fun q C' hq=>?_) (fun v9 hv=>by obtain⟨_,h9,_⟩:=hv;cases h9)
 obtain⟨_,h9,rfl,rfl⟩:=hq
 cases h9
 refine rCtx [D9 b4 aw x1,D9 b5 af x2] ?_
 refine i8 9 hmx kr kr ?_
 refine lUn (au 0 um (Sub.refl _)) ?_
 refine lUn (hMvL rfl) (lUn (ak wh) ?_)
 refine lUn (au 0 ty66 d6) ?_
 refine lUn (au 1 ty64 (Sub.refl _)) ?_
 obtain⟨x7,k,h⟩:=ah h
 refine lUn (dz (nt x1.Scope x2 _ k)) ?_
 obtain⟨x8,k,h⟩:=ah h
 refine lUn (dz (mi x3 x7 _ k)) ?_
 refine lUn (ak adb) ?_
 refine lUn (au 1 ty3 iu) ?_
 rcases cr h with⟨m10,hm10,h⟩|⟨_,hx9,h⟩
 ·refine dw [] (bz x1 x8 180 x2.From _ hm10) ⟨aa,aa,aa,aa,tv⟩ (fun q C' hq=>?_) (fun v9 hv=>?_)
  ·obtain⟨_,h9,_⟩:=hq;cases h9
  obtain⟨_,h9,rfl⟩:=hv
  cases h9
  obtain rfl:=osj h
  exact .inr ⟨_,rfl,_,rfl,rfl⟩
 refine dw [] (bz x1 x8 180 x2.From _ hx9) ⟨aa,aa,aa,aa,tv⟩ (fun q C' hq=>?_) (fun v9 hv=>by obtain⟨_,h9,_⟩:=hv;cases h9)
 obtain⟨_,h9,rfl,rfl⟩:=hq
 cases h9
 refine rCtx [D9 b4 aw x1,D9 b5 af x2] ?_
 obtain rfl:=osj h
 exact(.inl ⟨.inr rfl,_,A9.of [] rfl,_,aa,_,rfl,rfl,rfl⟩)
theorem ac6 (R:bk) (ih:jl R) (x1:C8) (x2:B6) (x3:List B6) (r:PX D0 Unit) (h:i7 R x1 x2 x3=some r):FnX Tryz.prog 182 [(aw).val x1,(af).val x2,ap af x3] [] (fun q C'=>∃a9,r= .ok a9/\q=br []/\C'=[]) (fun v=>∃m,r= .bad m/\v=ld m):=by
 refine lk (rs:=[]) func182 rfl ntmps182 ⟨by decide,results182⟩ dcd (fun s0=>?_)
 unfold i7 at h
 refine W_rs ?_
 refine rBox (R:=aw) (a:=x1) rfl (fun b4=>?_)
 let p1:=D9 b4 aw x1
 refine rBox (R:=af) (a:=x2) rfl (fun b5=>?_)
 let p2:=D9 b5 af x2
 refine a7 (W_rs (kMvL rfl (kUn (mg rfl underlying53) ?_)))
 refine kMv rfl (a5 ?_)
 obtain⟨z4l,hz4,h⟩:=ah h
 obtain⟨n4,hN4⟩:=bv hz4
 refine di 0 (fun e C=>mj R x1 x2 x3=some r/\At [(2,ap af x3),(3,Pr.pt b4 0),(4,Pr.pt b5 0)] [p1,p2] e C) ?_ ?_
 ·rintro e C ⟨h,a⟩
  refine W_at a ?_
  unfold mj at h
  refine W_rs (kUn (ak wh) ?_)
  refine kUn (au 0 ty66 d6) ?_
  refine kUn (au 1 ty64 (Sub.refl _)) ?_
  obtain⟨⟨x13,x14⟩,k,h⟩:=ah h
  refine kUn (dz (wv x1.Scope x2 _ k)) ?_
  refine kUn (hMv (out:=br [(ag).val x13,P6 x14]) rfl) (kUn ar ?_)
  refine kUn ar ?_
  refine bw tn fun b15=>av 2 rfl rfl (Upd.refl _) rfl sizeOf49 (kAs rfl (W_rs (kUn (au 0 um (Sub.refl _)) ?_)))
  let p3:=D9 b15 ag x13
  refine kMvL rfl (kUn (mg rfl underlying53) ?_)
  refine kUn (ak aih) ?_
  refine kUn (au 2 ty22 tc) ?_
  refine kUn (mg rfl underlying22) ?_
  refine kIn rfl rfl rfl (kUn (ak ru) ?_)
  refine kUn (au 1 ty3 ip) ?_
  rcases cr h with⟨m27,hm27,h⟩|⟨_,hx16,h⟩
  ·refine dw [] (bz x1 ((x3.length:Int)==(x13.Params.length:Int)) 181 x2.At _ hm27) ⟨aa,aa,aa,aa,tv⟩ (fun q C' hq=>?_) (fun v9 hv=>?_)
   ·obtain⟨_,h9,_⟩:=hq;cases h9
   obtain⟨_,h9,rfl⟩:=hv
   cases h9
   obtain rfl:=osj h
   exact .inr ⟨_,rfl,_,rfl,rfl⟩
  refine dw [] (bz x1 ((x3.length:Int)==(x13.Params.length:Int)) 181 x2.At _ hx16) ⟨aa,aa,aa,aa,tv⟩ (fun q C' hq=>?_) (fun v9 hv=>by obtain⟨_,h9,_⟩:=hv;cases h9)
  obtain⟨_,h9,rfl,rfl⟩:=hq
  cases h9
  refine rCtx [p1,p2,p3] ?_
  refine W_rs (kMvL rfl (kUn (mg rfl underlying53) ?_))
  refine kMv rfl (a5 ?_)
  obtain⟨z2l,hz2,h⟩:=ah h
  obtain⟨n2,hN2⟩:=bv hz2
  refine di 2 (fun e C=>pp R=some r/\At [] [p1,p2,p3] e C) ?_ ?_
  ·rintro e C ⟨h,a⟩
   unfold pp at h
   obtain rfl:=osj h
   exact(.inl ⟨.inr rfl,_,(A9.trans a.2 (A9.of [] rfl)),_,aa,_,rfl,rfl,rfl⟩)
  refine ek (fun m e C=>∃x17,fq (fun s=>fm R x3 x1 x13 s) m x17=some z2l/\At [(3,Pr.pt b4 0),(8,Pr.pt b15 0),(39,ap af x3),(40,P6 (x3.length:Int)),(41,P6 x17)] [p1,p2,p3] e C) n2 ⟨0,hN2,⟨⟨aa,aa,aa,aa,aa,tv⟩,A9.refl _⟩⟩ ?_
  rintro m e C ⟨x17,hN2,a⟩
  refine W_at a ?_
  obtain⟨m2,w2l,rfl,h2l,hn2,ho2⟩:=bm hN2
  replace h2l:fm R x3 x1 x13 x17=some w2l:=h2l
  unfold fm at h2l
  refine W_rs (kIn rfl rfl rfl (a7 ?_))
  refine a6 h2l rfl (fun _ h2l=>?_) (fun _ h2l=>?_)
  ·refine ay (a7 (a5 (W_rs (kMv rfl ?_))))
   obtain⟨x20,k,h2l⟩:=ah h2l
   refine kUn (fo underlying53 sizeOf64 k) ?_
   refine kUn (cz ty64) ?_
   refine bw al64 fun b21=>kAs rfl (av 3 rfl rfl (Upd.refl _) rfl sizeOf64 ?_)
   refine i8 16 hmx kr kr ?_
   refine lUn (au 0 um (Sub.refl _)) ?_
   refine lUn (ak wh) ?_
   refine lUn (ak aif) ?_
   refine lUn (au 0 ty38 (d6.trans ku nb)) ?_
   refine lUn (ak wh) ?_
   refine lUn (au 0 ty66 d6) ?_
   refine lUn (au 3 ty64 (Sub.refl _)) ?_
   obtain⟨x22,k,h2l⟩:=ah h2l
   refine lUn (dz (nt x1.Scope x20 _ k)) ?_
   refine lUn (ak aih) ?_
   refine lUn (au 2 ty22 tc) ?_
   refine lUn (hMvA rfl) ?_
   obtain⟨x23,k,h2l⟩:=ah h2l
   refine lUn (fo underlying22 sizeOf9 k) ?_
   refine lUn (cz ty9) ?_
   obtain⟨x24,k,h2l⟩:=ah h2l
   refine lUn (dz (y4 x1.Scope.Table x22 x23 _ k)) ?_
   refine lUn (ak adb) ?_
   refine lUn (au 3 ty3 iu) ?_
   rcases cr h2l with⟨m26,hm26,h2l⟩|⟨_,hx25,h2l⟩
   ·refine dw [] (bz x1 x24 180 x20.From _ hm26) ⟨aa,aa,aa,aa,tv⟩ (fun q C' hq=>?_) (fun v9 hv=>?_)
    ·obtain⟨_,h9,_⟩:=hq;cases h9
    obtain⟨_,h9,rfl⟩:=hv
    cases h9
    obtain rfl:=ho2 _ (ojs h2l)
    replace h:some (.bad m26)=some r:=h
    obtain rfl:=osj h
    exact .inr ⟨_,rfl,_,rfl,rfl⟩
   refine dw [] (bz x1 x24 180 x20.From _ hx25) ⟨aa,aa,aa,aa,tv⟩ (fun q C' hq=>?_) (fun v9 hv=>by obtain⟨_,h9,_⟩:=hv;cases h9)
   obtain⟨_,h9,rfl,rfl⟩:=hq
   cases h9
   refine rCtx [p1,p2,p3,D9 b21 af x20] ?_
   refine W_r (kIn rfl rfl rfl (kMv rfl ?_))
   exact⟨m2,lsu,w64 (x17+1),hn2 _ (ojs h2l),⟨⟨aa,aa,aa,aa,aa,tv⟩,A9.of [0,1,2] rfl⟩⟩
  refine ej ?_
  obtain rfl:=ho2 _ (ojs h2l)
  exact⟨h,atOk⟩
 refine ek (fun m e C=>∃x6,fq (fun s=>fk R x3 x1 s) m x6=some z4l/\At [(2,ap af x3),(3,Pr.pt b4 0),(4,Pr.pt b5 0),(12,ap af x3),(13,P6 (x3.length:Int)),(14,P6 x6)] [p1,p2] e C) n4 ⟨0,hN4,⟨⟨aa,aa,aa,aa,aa,aa,tv⟩,A9.refl _⟩⟩ ?_
 rintro m e C ⟨x6,hN4,a⟩
 refine W_at a ?_
 obtain⟨m4,w4l,rfl,h4l,hn4,ho4⟩:=bm hN4
 replace h4l:fk R x3 x1 x6=some w4l:=h4l
 unfold fk at h4l
 refine W_rs (kIn rfl rfl rfl (a7 ?_))
 refine a6 h4l rfl (fun _ h4l=>?_) (fun _ h4l=>?_)
 ·refine ay (a7 (a5 (W_rs ?_)))
  obtain⟨x9,k,h4l⟩:=ah h4l
  refine kUn (fo underlying53 sizeOf64 k) ?_
  refine kUn (cz ty64) ?_
  refine bw al64 fun b10=>av 2 rfl rfl (Upd.refl _) rfl sizeOf64 (W_r (kUn (au 0 um (Sub.refl _)) ?_))
  refine kUn (au 2 ty64 (Sub.refl _)) ?_
  rcases cr h4l with⟨m12,hm12,h4l⟩|⟨_,hx11,h4l⟩
  ·refine dw [] (ih.1 x1 x9 false _ hm12) ⟨aa,aa,aa,tv⟩ (fun q C' hq=>?_) (fun v9 hv=>?_)
   ·obtain⟨_,h9,_⟩:=hq;cases h9
   obtain⟨_,h9,rfl⟩:=hv
   cases h9
   obtain rfl:=ho4 _ (ojs h4l)
   replace h:some (.bad m12)=some r:=h
   obtain rfl:=osj h
   exact .inr ⟨_,rfl,_,rfl,rfl⟩
  refine dw [] (ih.1 x1 x9 false _ hx11) ⟨aa,aa,aa,tv⟩ (fun q C' hq=>?_) (fun v9 hv=>by obtain⟨_,h9,_⟩:=hv;cases h9)
  obtain⟨_,h9,rfl,rfl⟩:=hq
  cases h9
  refine rCtx [p1,p2,D9 b10 af x9] ?_
  refine W_r (kIn rfl rfl rfl (kMv rfl ?_))
  exact⟨m4,lsu,w64 (x6+1),hn4 _ (ojs h4l),⟨⟨aa,aa,aa,aa,aa,aa,tv⟩,A9.of [0,1] rfl⟩⟩
 refine ej ?_
 obtain rfl:=ho4 _ (ojs h4l)
 exact⟨h,atOk⟩
theorem sn :∀n,jl (ep n):=by
 intro n
 induction n with
 |zero=>exact⟨(fun x1 x2 x3 r h=>nomatch (show none=some r from h)),(fun x1 x2 x3 r h=>nomatch (show none=some r from h)),(fun x1 x2 x3 r h=>nomatch (show none=some r from h))⟩
 |succ n ih=>exact⟨(fun x1 x2 x3 r h=>abb (ep n) ih x1 x2 x3 r h),(fun x1 x2 x3 r h=>ags (ep n) ih x1 x2 x3 r h),(fun x1 x2 x3 r h=>ac6 (ep n) ih x1 x2 x3 r h)⟩
theorem ig (x1:C8) (x2:B6) (x3:Bool) (r:PX D0 Unit) (h:jo x1 x2 x3=some r):FnX Tryz.prog 173 [(aw).val x1,(af).val x2,Pb x3] [] (fun q C'=>∃a9,r= .ok a9/\q=br []/\C'=[]) (fun v=>∃m,r= .bad m/\v=ld m):=(sn 1048576).1 x1 x2 x3 r h
theorem qp (x1:C8) (x2:B6) (x3:List Bt) (r:PX D0 Unit) (h:qc x1 x2 x3=some r):FnX Tryz.prog 174 [(aw).val x1,(af).val x2,ap Rp.str x3] [] (fun q C'=>∃a9,r= .ok a9/\q=br []/\C'=[]) (fun v=>∃m,r= .bad m/\v=ld m):=(sn 1048576).2.1 x1 x2 x3 r h
theorem ln (x1:C8) (x2:B6) (x3:Bt) (r:PX D0 Unit) (h:kq x1 x2 x3=some r):FnX Tryz.prog 170 [(aw).val x1,(af).val x2,Pr.str x3] [] (fun q C'=>∃a9,r= .ok a9/\q=br []/\C'=[]) (fun v=>∃m,r= .bad m/\v=ld m):=by
 refine lk (rs:=[]) func170 rfl ntmps170 ⟨by decide,results170⟩ dcd (fun s0=>?_)
 unfold kq at h
 refine W_rs ?_
 refine rBox (R:=aw) (a:=x1) rfl (fun b4=>?_)
 refine rBox (R:=af) (a:=x2) rfl (fun b5=>?_)
 refine W_rs (kUn (au 0 um (Sub.refl _)) ?_)
 refine kUn (au 1 ty64 (Sub.refl _)) ?_
 rcases cr h with⟨m11,hm11,h⟩|⟨_,hx6,h⟩
 ·refine dw [] (ig x1 x2 false _ hm11) ⟨aa,aa,aa,tv⟩ (fun q C' hq=>?_) (fun v9 hv=>?_)
  ·obtain⟨_,h9,_⟩:=hq;cases h9
  obtain⟨_,h9,rfl⟩:=hv
  cases h9
  obtain rfl:=osj h
  exact .inr ⟨_,rfl,_,rfl,rfl⟩
 refine dw [] (ig x1 x2 false _ hx6) ⟨aa,aa,aa,tv⟩ (fun q C' hq=>?_) (fun v9 hv=>by obtain⟨_,h9,_⟩:=hv;cases h9)
 obtain⟨_,h9,rfl,rfl⟩:=hq
 cases h9
 refine rCtx [D9 b4 aw x1,D9 b5 af x2] ?_
 refine i8 12 hmx kr kr ?_
 refine lUn (au 0 um (Sub.refl _)) ?_
 refine lUn (ak wh) ?_
 refine lUn (ak aif) ?_
 refine lUn (au 0 ty38 (d6.trans ku nb)) ?_
 refine lUn (ak wh) ?_
 refine lUn (au 0 ty66 d6) ?_
 refine lUn (au 1 ty64 (Sub.refl _)) ?_
 obtain⟨x7,k,h⟩:=ah h
 refine lUn (dz (nt x1.Scope x2 _ k)) ?_
 refine lUn (hMvA rfl) ?_
 obtain⟨x8,k,h⟩:=ah h
 refine lUn (dz (y4 x1.Scope.Table x7 x3 _ k)) ?_
 refine lUn (ak adb) ?_
 refine lUn (au 1 ty3 iu) ?_
 rcases cr h with⟨m10,hm10,h⟩|⟨_,hx9,h⟩
 ·refine dw [] (bz x1 x8 180 x2.From _ hm10) ⟨aa,aa,aa,aa,tv⟩ (fun q C' hq=>?_) (fun v9 hv=>?_)
  ·obtain⟨_,h9,_⟩:=hq;cases h9
  obtain⟨_,h9,rfl⟩:=hv
  cases h9
  obtain rfl:=osj h
  exact .inr ⟨_,rfl,_,rfl,rfl⟩
 refine dw [] (bz x1 x8 180 x2.From _ hx9) ⟨aa,aa,aa,aa,tv⟩ (fun q C' hq=>?_) (fun v9 hv=>by obtain⟨_,h9,_⟩:=hv;cases h9)
 obtain⟨_,h9,rfl,rfl⟩:=hq
 cases h9
 refine rCtx [D9 b4 aw x1,D9 b5 af x2] ?_
 obtain rfl:=osj h
 exact(.inl ⟨.inr rfl,_,A9.of [] rfl,_,aa,_,rfl,rfl,rfl⟩)
theorem aan (x1:C8) (x2:B6) (r:PX D0 Unit) (h:mw x1 x2=some r):FnX Tryz.prog 143 [(aw).val x1,(af).val x2] [] (fun q C'=>∃a9,r= .ok a9/\q=br []/\C'=[]) (fun v=>∃m,r= .bad m/\v=ld m):=by
 refine lk (rs:=[]) func143 rfl ntmps143 ⟨by decide,results143⟩ dcd (fun s0=>?_)
 unfold mw at h
 refine W_rs ?_
 refine rBox (R:=aw) (a:=x1) rfl (fun b3=>?_)
 refine rBox (R:=af) (a:=x2) rfl (fun b4=>?_)
 refine i8 7 hmx kr kr ?_
 refine lUn (au 0 um (Sub.refl _)) ?_
 refine lUn (ak ic) ?_
 refine lUn (au 1 ty53 bt) ?_
 obtain⟨x5,k,h⟩:=ah h
 refine lUn (fo underlying53 sizeOf64 k) ?_
 refine lUn (cz ty64) ?_
 refine lUn (ak ws) ?_
 refine lUn (au 1 ty9 gm) ?_
 rcases cr h with⟨m7,hm7,h⟩|⟨_,hx6,h⟩
 ·refine dw [] (ln x1 x5 x2.Type_ _ hm7) ⟨aa,aa,aa,tv⟩ (fun q C' hq=>?_) (fun v9 hv=>?_)
  ·obtain⟨_,h9,_⟩:=hq;cases h9
  obtain⟨_,h9,rfl⟩:=hv
  cases h9
  obtain rfl:=osj h
  exact .inr ⟨_,rfl,_,rfl,rfl⟩
 refine dw [] (ln x1 x5 x2.Type_ _ hx6) ⟨aa,aa,aa,tv⟩ (fun q C' hq=>?_) (fun v9 hv=>by obtain⟨_,h9,_⟩:=hv;cases h9)
 obtain⟨_,h9,rfl,rfl⟩:=hq
 cases h9
 refine rCtx [D9 b3 aw x1,D9 b4 af x2] ?_
 obtain rfl:=osj h
 exact(.inl ⟨.inr rfl,_,A9.of [] rfl,_,aa,_,rfl,rfl,rfl⟩)
theorem ado (x1:C8) (x2:B6) (r:PX D0 Unit) (h:ox x1 x2=some r):FnX Tryz.prog 144 [(aw).val x1,(af).val x2] [] (fun q C'=>∃a9,r= .ok a9/\q=br []/\C'=[]) (fun v=>∃m,r= .bad m/\v=ld m):=by
 refine lk (rs:=[]) func144 rfl ntmps144 ⟨by decide,results144⟩ dcd (fun s0=>?_)
 unfold ox at h
 refine W_rs ?_
 refine rBox (R:=aw) (a:=x1) rfl (fun b3=>?_)
 let p1:=D9 b3 aw x1
 refine rBox (R:=af) (a:=x2) rfl (fun b4=>?_)
 let p2:=D9 b4 af x2
 refine W_rs (kUn (ak ic) ?_)
 refine kUn (au 1 ty53 bt) ?_
 obtain⟨x5,k,h⟩:=ah h
 refine kUn (fo underlying53 sizeOf64 k) ?_
 refine kUn (cz ty64) ?_
 refine bw al64 fun b6=>av 2 rfl rfl (Upd.refl _) rfl sizeOf64 ?_
 let p3:=D9 b6 af x5
 refine bo (fun e C=>ja x1 x5 x2=some r/\At [(2,Pr.pt b3 0),(3,Pr.pt b4 0),(4,Pr.pt b6 0)] [p1,p2,p3] e C) ?_ ?_
 ·rintro e C ⟨h,a⟩
  refine W_at a ?_
  unfold ja at h
  refine W_rs (kUn (au 0 um (Sub.refl _)) ?_)
  refine kUn (au 2 ty64 (Sub.refl _)) ?_
  rcases cr h with⟨m21,hm21,h⟩|⟨_,hx16,h⟩
  ·refine dw [] (ig x1 x5 false _ hm21) ⟨aa,aa,aa,tv⟩ (fun q C' hq=>?_) (fun v9 hv=>?_)
   ·obtain⟨_,h9,_⟩:=hq;cases h9
   obtain⟨_,h9,rfl⟩:=hv
   cases h9
   obtain rfl:=osj h
   exact .inr ⟨_,rfl,_,rfl,rfl⟩
  refine dw [] (ig x1 x5 false _ hx16) ⟨aa,aa,aa,tv⟩ (fun q C' hq=>?_) (fun v9 hv=>by obtain⟨_,h9,_⟩:=hv;cases h9)
  obtain⟨_,h9,rfl,rfl⟩:=hq
  cases h9
  refine rCtx [p1,p2,p3] ?_
  refine i8 9 hmx kr kr ?_
  refine lUn (au 0 um (Sub.refl _)) ?_
  refine lUn (ak ic) ?_
  refine lUn (au 1 ty53 bt) ?_
  obtain⟨x17,k,h⟩:=ah h
  refine lUn (fo underlying53 sizeOf64 k) ?_
  refine lUn (cz ty64) ?_
  refine lUn (ak wh) ?_
  refine lUn (au 0 ty66 d6) ?_
  refine lUn (au 2 ty64 (Sub.refl _)) ?_
  obtain⟨x18,k,h⟩:=ah h
  refine lUn (dz (nt x1.Scope x5 _ k)) ?_
  rcases cr h with⟨m20,hm20,h⟩|⟨_,hx19,h⟩
  ·refine dw [] (ln x1 x17 x18 _ hm20) ⟨aa,aa,aa,tv⟩ (fun q C' hq=>?_) (fun v9 hv=>?_)
   ·obtain⟨_,h9,_⟩:=hq;cases h9
   obtain⟨_,h9,rfl⟩:=hv
   cases h9
   obtain rfl:=osj h
   exact .inr ⟨_,rfl,_,rfl,rfl⟩
  refine dw [] (ln x1 x17 x18 _ hx19) ⟨aa,aa,aa,tv⟩ (fun q C' hq=>?_) (fun v9 hv=>by obtain⟨_,h9,_⟩:=hv;cases h9)
  obtain⟨_,h9,rfl,rfl⟩:=hq
  cases h9
  refine rCtx [p1,p2,p3] ?_
  obtain rfl:=osj h
  exact(.inl ⟨.inr rfl,_,A9.of [] rfl,_,aa,_,rfl,rfl,rfl⟩)
 refine i8 17 hmx kr kr ?_
 refine lUn (au 0 um (Sub.refl _)) ?_
 refine lUn (ak f4) ?_
 refine lUn (au 2 ty3 bc) ?_
 refine lUn (qInt rfl rfl rfl) (lUn (hMvA rfl) ?_)
 rcases cc h with⟨hc7,h⟩|⟨hc7,h⟩
 ·refine lsx ?_
  refine lUn (hPt rfl hc7 rfl) (lUn (ak adb) ?_)
  refine lUn (au 2 ty3 iu) ?_
  rcases cr h with⟨m15,hm15,h⟩|⟨_,hx14,h⟩
  ·refine dw [] (bz x1 true 182 x5.From _ hm15) ⟨aa,aa,aa,aa,tv⟩ (fun q C' hq=>?_) (fun v9 hv=>?_)
   ·obtain⟨_,h9,_⟩:=hq;cases h9
   obtain⟨_,h9,rfl⟩:=hv
   cases h9
   obtain rfl:=osj h
   exact .inr ⟨_,rfl,_,rfl,rfl⟩
  refine dw [] (bz x1 true 182 x5.From _ hx14) ⟨aa,aa,aa,aa,tv⟩ (fun q C' hq=>?_) (fun v9 hv=>by obtain⟨_,h9,_⟩:=hv;cases h9)
  obtain⟨_,h9,rfl,rfl⟩:=hq
  cases h9
  refine rCtx [p1,p2,p3] ?_
  exact⟨h,atOk⟩
 refine lGd rfl aa hc7 (ak f4) ?_
 refine lGd rfl aa hc7 (au 2 ty3 bc) ?_
 refine lGd rfl aa hc7 (qInt rfl rfl rfl) (lGd rfl aa hc7 (hMvA rfl) ?_)
 rcases cc h with⟨hc8,h⟩|⟨hc8,h⟩
 ·refine lGd rfl aa hc8 (au 0 um (Sub.refl _)) ?_
  refine lGd rfl aa hc8 (au 2 ty64 (Sub.refl _)) ?_
  obtain⟨x9,k,h⟩:=ah h
  refine lGd rfl aa hc8 (dz (zb x1 x5 _ k)) ?_
  refine lGd rfl aa hc8 (qNot rfl) (lGd rfl aa hc7 (hPt rfl hc8 rfl) (lUn (hPf rfl hc7 rfl) (lUn (ak adb) ?_)))
  refine lUn (au 2 ty3 iu) ?_
  rcases cr h with⟨m11,hm11,h⟩|⟨_,hx10,h⟩
  ·refine dw [] (bz x1 (!x9) 182 x5.From _ hm11) ⟨aa,aa,aa,aa,tv⟩ (fun q C' hq=>?_) (fun v9 hv=>?_)
   ·obtain⟨_,h9,_⟩:=hq;cases h9
   obtain⟨_,h9,rfl⟩:=hv
   cases h9
   obtain rfl:=osj h
   exact .inr ⟨_,rfl,_,rfl,rfl⟩
  refine dw [] (bz x1 (!x9) 182 x5.From _ hx10) ⟨aa,aa,aa,aa,tv⟩ (fun q C' hq=>?_) (fun v9 hv=>by obtain⟨_,h9,_⟩:=hv;cases h9)
  obtain⟨_,h9,rfl,rfl⟩:=hq
  cases h9
  refine rCtx [p1,p2,p3] ?_
  exact⟨h,atOk⟩
 refine lsx ?_
 refine lGd rfl aa hc7 (hPf rfl hc8 rfl) (lUn (hPf rfl hc7 rfl) (lUn (ak adb) ?_))
 refine lUn (au 2 ty3 iu) ?_
 rcases cr h with⟨m13,hm13,h⟩|⟨_,hx12,h⟩
 ·refine dw [] (bz x1 false 182 x5.From _ hm13) ⟨aa,aa,aa,aa,tv⟩ (fun q C' hq=>?_) (fun v9 hv=>?_)
  ·obtain⟨_,h9,_⟩:=hq;cases h9
  obtain⟨_,h9,rfl⟩:=hv
  cases h9
  obtain rfl:=osj h
  exact .inr ⟨_,rfl,_,rfl,rfl⟩
 refine dw [] (bz x1 false 182 x5.From _ hx12) ⟨aa,aa,aa,aa,tv⟩ (fun q C' hq=>?_) (fun v9 hv=>by obtain⟨_,h9,_⟩:=hv;cases h9)
 obtain⟨_,h9,rfl,rfl⟩:=hq
 cases h9
 refine rCtx [p1,p2,p3] ?_
 exact⟨h,atOk⟩
theorem aey (x1:C8) (x2:B6) (r:PX D0 Unit) (h:pv x1 x2=some r):FnX Tryz.prog 145 [(aw).val x1,(af).val x2] [] (fun q C'=>∃a9,r= .ok a9/\q=br []/\C'=[]) (fun v=>∃m,r= .bad m/\v=ld m):=by
 refine lk (rs:=[]) func145 rfl ntmps145 ⟨by decide,results145⟩ dcd (fun s0=>?_)
 unfold pv at h
 refine W_rs ?_
 refine rBox (R:=aw) (a:=x1) rfl (fun b3=>?_)
 let p1:=D9 b3 aw x1
 refine rBox (R:=af) (a:=x2) rfl (fun b4=>?_)
 let p2:=D9 b4 af x2
 refine W_rs (kUn (ak ic) ?_)
 refine kUn (au 1 ty53 bt) ?_
 obtain⟨x5,k,h⟩:=ah h
 refine kUn (fo underlying53 sizeOf64 k) ?_
 refine kUn (cz ty64) ?_
 refine bw al64 fun b6=>av 2 rfl rfl (Upd.refl _) rfl sizeOf64 ?_
 let p3:=D9 b6 af x5
 refine bo (fun e C=>pd x1 x5=some r/\At [(2,Pr.pt b3 0),(4,Pr.pt b6 0)] [p1,p2,p3] e C) ?_ ?_
 ·rintro e C ⟨h,a⟩
  refine W_at a ?_
  unfold pd at h
  refine W_r (kUn (au 0 um (Sub.refl _)) ?_)
  refine kUn (au 2 ty64 (Sub.refl _)) ?_
  rcases cr h with⟨m13,hm13,h⟩|⟨_,hx12,h⟩
  ·refine dw [] (ig x1 x5 false _ hm13) ⟨aa,aa,aa,tv⟩ (fun q C' hq=>?_) (fun v9 hv=>?_)
   ·obtain⟨_,h9,_⟩:=hq;cases h9
   obtain⟨_,h9,rfl⟩:=hv
   cases h9
   obtain rfl:=osj h
   exact .inr ⟨_,rfl,_,rfl,rfl⟩
  refine dw [] (ig x1 x5 false _ hx12) ⟨aa,aa,aa,tv⟩ (fun q C' hq=>?_) (fun v9 hv=>by obtain⟨_,h9,_⟩:=hv;cases h9)
  obtain⟨_,h9,rfl,rfl⟩:=hq
  cases h9
  refine rCtx [p1,p2,p3] ?_
  obtain rfl:=osj h
  exact(.inl ⟨.inr rfl,_,A9.of [] rfl,_,aa,_,rfl,rfl,rfl⟩)
 refine W_r (kUn (au 0 um (Sub.refl _)) ?_)
 refine kUn (ak f4) ?_
 refine kUn (au 2 ty3 bc) ?_
 refine kIn rfl rfl rfl (kMv rfl ?_)
 rcases cc h with⟨hc7,h⟩|⟨hc7,h⟩
 ·refine skx ?_
  refine kPt rfl hc7 rfl (kUn (ak adb) ?_)
  refine kUn (au 2 ty3 iu) ?_
  rcases cr h with⟨m11,hm11,h⟩|⟨_,hx10,h⟩
  ·refine dw [] (bz x1 true 182 x5.From _ hm11) ⟨aa,aa,aa,aa,tv⟩ (fun q C' hq=>?_) (fun v9 hv=>?_)
   ·obtain⟨_,h9,_⟩:=hq;cases h9
   obtain⟨_,h9,rfl⟩:=hv
   cases h9
   obtain rfl:=osj h
   exact .inr ⟨_,rfl,_,rfl,rfl⟩
  refine dw [] (bz x1 true 182 x5.From _ hx10) ⟨aa,aa,aa,aa,tv⟩ (fun q C' hq=>?_) (fun v9 hv=>by obtain⟨_,h9,_⟩:=hv;cases h9)
  obtain⟨_,h9,rfl,rfl⟩:=hq
  cases h9
  refine rCtx [p1,p2,p3] ?_
  exact⟨h,atOk⟩
 refine kGd rfl aa hc7 (ak f4) ?_
 refine kGd rfl aa hc7 (au 2 ty3 bc) ?_
 refine kGd rfl aa hc7 (qInt rfl rfl rfl) (kPf rfl hc7 rfl (kUn (ak adb) ?_))
 refine kUn (au 2 ty3 iu) ?_
 rcases cr h with⟨m9,hm9,h⟩|⟨_,hx8,h⟩
 ·refine dw [] (bz x1 (x5.Kind==20) 182 x5.From _ hm9) ⟨aa,aa,aa,aa,tv⟩ (fun q C' hq=>?_) (fun v9 hv=>?_)
  ·obtain⟨_,h9,_⟩:=hq;cases h9
  obtain⟨_,h9,rfl⟩:=hv
  cases h9
  obtain rfl:=osj h
  exact .inr ⟨_,rfl,_,rfl,rfl⟩
 refine dw [] (bz x1 (x5.Kind==20) 182 x5.From _ hx8) ⟨aa,aa,aa,aa,tv⟩ (fun q C' hq=>?_) (fun v9 hv=>by obtain⟨_,h9,_⟩:=hv;cases h9)
 obtain⟨_,h9,rfl,rfl⟩:=hq
 cases h9
 refine rCtx [p1,p2,p3] ?_
 exact⟨h,atOk⟩
theorem ac3 (x1:C8) (x2:B6) (r:PX D0 Unit) (h:nk x1 x2=some r):FnX Tryz.prog 147 [(aw).val x1,(af).val x2] [] (fun q C'=>∃a9,r= .ok a9/\q=br []/\C'=[]) (fun v=>∃m,r= .bad m/\v=ld m):=by
 refine lk (rs:=[]) func147 rfl ntmps147 ⟨by decide,results147⟩ dcd (fun s0=>?_)
 unfold nk at h
 refine W_rs ?_
 refine rBox (R:=aw) (a:=x1) rfl (fun b3=>?_)
 refine rBox (R:=af) (a:=x2) rfl (fun b4=>?_)
 refine a7 (W_rs (kUn (ak ic) ?_))
 refine kUn (au 1 ty53 bt) ?_
 refine kUn (mg rfl underlying53) ?_
 refine kIn rfl rfl rfl ?_
 refine a6 h rfl (fun _ h=>?_) (fun _ h=>?_)
 ·refine W_rs (kUn (au 0 um (Sub.refl _)) ?_)
  refine kUn (ak aw1) ?_
  refine kUn (au 0 ty9 adp) ?_
  refine kSt rfl rfl rfl (kUn (ak adb) ?_)
  refine kUn (au 1 ty3 iu) ?_
  rcases cr h with⟨m7,hm7,h⟩|⟨_,hx6,h⟩
  ·refine dw [] (bz x1 (x1.kind==([118,111,105,100]:Bt)) 180 x2.From _ hm7) ⟨aa,aa,aa,aa,tv⟩ (fun q C' hq=>?_) (fun v9 hv=>?_)
   ·obtain⟨_,h9,_⟩:=hq;cases h9
   obtain⟨_,h9,rfl⟩:=hv
   cases h9
   obtain rfl:=osj h
   exact .inr ⟨_,rfl,_,rfl,rfl⟩
  refine dw [] (bz x1 (x1.kind==([118,111,105,100]:Bt)) 180 x2.From _ hx6) ⟨aa,aa,aa,aa,tv⟩ (fun q C' hq=>?_) (fun v9 hv=>by obtain⟨_,h9,_⟩:=hv;cases h9)
  obtain⟨_,h9,rfl,rfl⟩:=hq
  cases h9
  refine rCtx [D9 b3 aw x1,D9 b4 af x2] ?_
  obtain rfl:=osj h
  exact bg (.inl ⟨.inl rfl,_,A9.of [] rfl,_,aa,_,rfl,rfl,rfl⟩)
 refine ay ?_
 refine i8 7 hmx kr kr ?_
 refine lUn (au 0 um (Sub.refl _)) ?_
 refine lUn (ak ic) ?_
 refine lUn (au 1 ty53 bt) ?_
 obtain⟨x8,k,h⟩:=ah h
 refine lUn (fo underlying53 sizeOf64 k) ?_
 refine lUn (cz ty64) ?_
 refine lUn (ak aw1) ?_
 refine lUn (au 0 ty9 adp) ?_
 rcases cr h with⟨m10,hm10,h⟩|⟨_,hx9,h⟩
 ·refine dw [] (ln x1 x8 x1.kind _ hm10) ⟨aa,aa,aa,tv⟩ (fun q C' hq=>?_) (fun v9 hv=>?_)
  ·obtain⟨_,h9,_⟩:=hq;cases h9
  obtain⟨_,h9,rfl⟩:=hv
  cases h9
  obtain rfl:=osj h
  exact .inr ⟨_,rfl,_,rfl,rfl⟩
 refine dw [] (ln x1 x8 x1.kind _ hx9) ⟨aa,aa,aa,tv⟩ (fun q C' hq=>?_) (fun v9 hv=>by obtain⟨_,h9,_⟩:=hv;cases h9)
 obtain⟨_,h9,rfl,rfl⟩:=hq
 cases h9
 refine rCtx [D9 b3 aw x1,D9 b4 af x2] ?_
 obtain rfl:=osj h
 exact(.inl ⟨.inr rfl,_,A9.of [] rfl,_,aa,_,rfl,rfl,rfl⟩)
theorem ac2 (x1:C8) (x2:B6) (r:PX D0 Unit) (h:nj x1 x2=some r):FnX Tryz.prog 148 [(aw).val x1,(af).val x2] [] (fun q C'=>∃a9,r= .ok a9/\q=br []/\C'=[]) (fun v=>∃m,r= .bad m/\v=ld m):=by
 refine lk (rs:=[]) func148 rfl ntmps148 ⟨by decide,results148⟩ dcd (fun s0=>?_)
 unfold nj at h
 refine W_rs ?_
 refine rBox (R:=aw) (a:=x1) rfl (fun b3=>?_)
 refine rBox (R:=af) (a:=x2) rfl (fun b4=>?_)
 refine i8 6 hmx kr kr ?_
 refine lUn (au 0 um (Sub.refl _)) ?_
 refine lUn (ak ic) ?_
 refine lUn (au 1 ty53 bt) ?_
 obtain⟨x5,k,h⟩:=ah h
 refine lUn (fo underlying53 sizeOf64 k) ?_
 refine lUn (cz ty64) ?_
 refine lUn (ny (R:=Rp.str) (ls:=([([105,110,116]:Bt),([98,111,111,108,101,97,110]:Bt)]:List Bt)) el22 nb ⟨rfl,rfl⟩ ⟨rfl,rfl,tv⟩) ?_
 rcases cr h with⟨m7,hm7,h⟩|⟨_,hx6,h⟩
 ·refine dw [] (qp x1 x5 ([([105,110,116]:Bt),([98,111,111,108,101,97,110]:Bt)]:List Bt) _ hm7) ⟨aa,aa,aa,tv⟩ (fun q C' hq=>?_) (fun v9 hv=>?_)
  ·obtain⟨_,h9,_⟩:=hq;cases h9
  obtain⟨_,h9,rfl⟩:=hv
  cases h9
  obtain rfl:=osj h
  exact .inr ⟨_,rfl,_,rfl,rfl⟩
 refine dw [] (qp x1 x5 ([([105,110,116]:Bt),([98,111,111,108,101,97,110]:Bt)]:List Bt) _ hx6) ⟨aa,aa,aa,tv⟩ (fun q C' hq=>?_) (fun v9 hv=>by obtain⟨_,h9,_⟩:=hv;cases h9)
 obtain⟨_,h9,rfl,rfl⟩:=hq
 cases h9
 refine rCtx [D9 b3 aw x1,D9 b4 af x2] ?_
 obtain rfl:=osj h
 exact(.inl ⟨.inr rfl,_,A9.of [] rfl,_,aa,_,rfl,rfl,rfl⟩)
def jp (R:bp):Prop:=(∀(x1:C8) (x2:B6) (r:PX D0 Unit),R.1 x1 x2=some r->FnX Tryz.prog 99 [(aw).val x1,(af).val x2] [] (fun q C'=>∃a9,r= .ok a9/\q=br []/\C'=[]) (fun v=>∃m,r= .bad m/\v=ld m))/\(∀(x1:C8) (x2:B6) (r:PX D0 Unit),R.2.1 x1 x2=some r->FnX Tryz.prog 146 [(aw).val x1,(af).val x2] [] (fun q C'=>∃a9,r= .ok a9/\q=br []/\C'=[]) (fun v=>∃m,r= .bad m/\v=ld m))/\(∀(x1:C8) (x2:B6) (r:PX D0 Unit),R.2.2 x1 x2=some r->FnX Tryz.prog 149 [(aw).val x1,(af).val x2] [] (fun q C'=>∃a9,r= .ok a9/\q=br []/\C'=[]) (fun v=>∃m,r= .bad m/\v=ld m))
theorem ac5 (R:bp) (ih:jp R) (x1:C8) (x2:B6) (r:PX D0 Unit) (h:c6 R x1 x2=some r):FnX Tryz.prog 99 [(aw).val x1,(af).val x2] [] (fun q C'=>∃a9,r= .ok a9/\q=br []/\C'=[]) (fun v=>∃m,r= .bad m/\v=ld m):=by
 refine lk (rs:=[]) func99 rfl ntmps99 ⟨by decide,results99⟩ dcd (fun s0=>?_)
 unfold c6 at h
 refine W_rs ?_
 refine rBox (R:=aw) (a:=x1) rfl (fun b3=>?_)
 let p1:=D9 b3 aw x1
 refine rBox (R:=af) (a:=x2) rfl (fun b4=>?_)
 let p2:=D9 b4 af x2
 refine W_rs ?_
 refine aol (Rp.int .i64) aea (fun b5=>?_)
 let p3:=E7 b5 (Rp.int .i64) aea (gset 5 (some 149) (gset 12 (some 148) (gset 11 (some 147) (gset 10 (some 146) (gset 9 (some 146) (gset 8 (some 145) (gset 7 (some 144) (gset 6 (some 143) ([]:GMap Int (Option Nat))))))))))
 refine wg (Rk:=Rp.int .i64) (R:=aea) (m:=([]:GMap Int (Option Nat))) (kx:=6) (v:=(some 143)) 2 (o7 underlying3) underlying179 ?_ (hu:=(ae9 rfl))
 refine wg (Rk:=Rp.int .i64) (R:=aea) (m:=(gset 6 (some 143) ([]:GMap Int (Option Nat)))) (kx:=7) (v:=(some 144)) 2 (o7 underlying3) underlying179 ?_ (hu:=(ae9 rfl))
 refine wg (Rk:=Rp.int .i64) (R:=aea) (m:=(gset 7 (some 144) (gset 6 (some 143) ([]:GMap Int (Option Nat))))) (kx:=8) (v:=(some 145)) 2 (o7 underlying3) underlying179 ?_ (hu:=(ae9 rfl))
 refine wg (Rk:=Rp.int .i64) (R:=aea) (m:=(gset 8 (some 145) (gset 7 (some 144) (gset 6 (some 143) ([]:GMap Int (Option Nat)))))) (kx:=9) (v:=(some 146)) 2 (o7 underlying3) underlying179 ?_ (hu:=(ae9 rfl))
 refine wg (Rk:=Rp.int .i64) (R:=aea) (m:=(gset 9 (some 146) (gset 8 (some 145) (gset 7 (some 144) (gset 6 (some 143) ([]:GMap Int (Option Nat))))))) (kx:=10) (v:=(some 146)) 2 (o7 underlying3) underlying179 ?_ (hu:=(ae9 rfl))
 refine wg (Rk:=Rp.int .i64) (R:=aea) (m:=(gset 10 (some 146) (gset 9 (some 146) (gset 8 (some 145) (gset 7 (some 144) (gset 6 (some 143) ([]:GMap Int (Option Nat)))))))) (kx:=11) (v:=(some 147)) 2 (o7 underlying3) underlying179 ?_ (hu:=(ae9 rfl))
 refine wg (Rk:=Rp.int .i64) (R:=aea) (m:=(gset 11 (some 147) (gset 10 (some 146) (gset 9 (some 146) (gset 8 (some 145) (gset 7 (some 144) (gset 6 (some 143) ([]:GMap Int (Option Nat))))))))) (kx:=12) (v:=(some 148)) 2 (o7 underlying3) underlying179 ?_ (hu:=(ae9 rfl))
 refine wg (Rk:=Rp.int .i64) (R:=aea) (m:=(gset 12 (some 148) (gset 11 (some 147) (gset 10 (some 146) (gset 9 (some 146) (gset 8 (some 145) (gset 7 (some 144) (gset 6 (some 143) ([]:GMap Int (Option Nat)))))))))) (kx:=5) (v:=(some 149)) 2 (o7 underlying3) underlying179 ?_ (hu:=(ae9 rfl))
 refine kUn (hMv (out:=qy b5) rfl) (kUn (ak f4) ?_)
 refine kUn (au 1 ty3 bc) ?_
 refine kUn (at7 (Rk:=Rp.int .i64) (R:=aea) (m:=(gset 5 (some 149) (gset 12 (some 148) (gset 11 (some 147) (gset 10 (some 146) (gset 9 (some 146) (gset 8 (some 145) (gset 7 (some 144) (gset 6 (some 143) ([]:GMap Int (Option Nat))))))))))) (kx:=x2.Kind) (z:=none) 2 (o7 underlying3) underlying179 zeroValue177 (fun _=>rfl)) ?_
 refine kUn (hMv (out:=br [(aea).val (gget x2.Kind none (gset 5 (some 149) (gset 12 (some 148) (gset 11 (some 147) (gset 10 (some 146) (gset 9 (some 146) (gset 8 (some 145) (gset 7 (some 144) (gset 6 (some 143) ([]:GMap Int (Option Nat))))))))))),Pb (ghas x2.Kind (gset 5 (some 149) (gset 12 (some 148) (gset 11 (some 147) (gset 10 (some 146) (gset 9 (some 146) (gset 8 (some 145) (gset 7 (some 144) (gset 6 (some 143) ([]:GMap Int (Option Nat)))))))))))]) rfl) (kUn ar ?_)
 refine kUn ar ?_
 refine kUn (hAs (out:=(aea).val (gget x2.Kind none (gset 5 (some 149) (gset 12 (some 148) (gset 11 (some 147) (gset 10 (some 146) (gset 9 (some 146) (gset 8 (some 145) (gset 7 (some 144) (gset 6 (some 143) ([]:GMap Int (Option Nat)))))))))))) rfl) (kAs rfl (W_rs (kMv rfl ?_)))
 refine a6 h rfl (fun _ h=>?_) (fun _ h=>?_)
 ·refine W_r (kUn (hMv (out:=(aea).val (gget x2.Kind none (gset 5 (some 149) (gset 12 (some 148) (gset 11 (some 147) (gset 10 (some 146) (gset 9 (some 146) (gset 8 (some 145) (gset 7 (some 144) (gset 6 (some 143) ([]:GMap Int (Option Nat)))))))))))) rfl) (kUn (au 0 um (Sub.refl _)) ?_))
  refine kUn (au 1 ty64 (Sub.refl _)) ?_
  rcases cc h with⟨hc7,h⟩|⟨hc7,h⟩
  ·refine rEnv 15 (q:=Pi (.func (.func 143) #[] #[])) (an5 hc7) ?_
   rcases cr h with⟨m9,hm9,h⟩|⟨_,hx8,h⟩
   ·refine zf [] (aan x1 x2 _ hm9) ⟨aa,aa,tv⟩ (fun q C' hq=>?_) (fun v9 hv=>?_)
    ·obtain⟨_,h9,_⟩:=hq;cases h9
    obtain⟨_,h9,rfl⟩:=hv
    cases h9
    obtain rfl:=osj h
    exact .inr ⟨_,rfl,_,rfl,rfl⟩
   refine zf [] (aan x1 x2 _ hx8) ⟨aa,aa,tv⟩ (fun q C' hq=>?_) (fun v9 hv=>by obtain⟨_,h9,_⟩:=hv;cases h9)
   obtain⟨_,h9,rfl,rfl⟩:=hq
   cases h9
   refine rCtx [p1,p2,p3] ?_
   obtain rfl:=osj h
   exact(.inl ⟨.inr rfl,_,A9.of [] rfl,_,aa,_,rfl,rfl,rfl⟩)
  rcases cc h with⟨hc10,h⟩|⟨hc10,h⟩
  ·refine rEnv 15 (q:=Pi (.func (.func 144) #[] #[])) (an5 hc10) ?_
   rcases cr h with⟨m12,hm12,h⟩|⟨_,hx11,h⟩
   ·refine zf [] (ado x1 x2 _ hm12) ⟨aa,aa,tv⟩ (fun q C' hq=>?_) (fun v9 hv=>?_)
    ·obtain⟨_,h9,_⟩:=hq;cases h9
    obtain⟨_,h9,rfl⟩:=hv
    cases h9
    obtain rfl:=osj h
    exact .inr ⟨_,rfl,_,rfl,rfl⟩
   refine zf [] (ado x1 x2 _ hx11) ⟨aa,aa,tv⟩ (fun q C' hq=>?_) (fun v9 hv=>by obtain⟨_,h9,_⟩:=hv;cases h9)
   obtain⟨_,h9,rfl,rfl⟩:=hq
   cases h9
   refine rCtx [p1,p2,p3] ?_
   obtain rfl:=osj h
   exact(.inl ⟨.inr rfl,_,A9.of [] rfl,_,aa,_,rfl,rfl,rfl⟩)
  rcases cc h with⟨hc13,h⟩|⟨hc13,h⟩
  ·refine rEnv 15 (q:=Pi (.func (.func 145) #[] #[])) (an5 hc13) ?_
   rcases cr h with⟨m15,hm15,h⟩|⟨_,hx14,h⟩
   ·refine zf [] (aey x1 x2 _ hm15) ⟨aa,aa,tv⟩ (fun q C' hq=>?_) (fun v9 hv=>?_)
    ·obtain⟨_,h9,_⟩:=hq;cases h9
    obtain⟨_,h9,rfl⟩:=hv
    cases h9
    obtain rfl:=osj h
    exact .inr ⟨_,rfl,_,rfl,rfl⟩
   refine zf [] (aey x1 x2 _ hx14) ⟨aa,aa,tv⟩ (fun q C' hq=>?_) (fun v9 hv=>by obtain⟨_,h9,_⟩:=hv;cases h9)
   obtain⟨_,h9,rfl,rfl⟩:=hq
   cases h9
   refine rCtx [p1,p2,p3] ?_
   obtain rfl:=osj h
   exact(.inl ⟨.inr rfl,_,A9.of [] rfl,_,aa,_,rfl,rfl,rfl⟩)
  rcases cc h with⟨hc16,h⟩|⟨hc16,h⟩
  ·refine rEnv 15 (q:=Pi (.func (.func 146) #[] #[])) (an5 hc16) ?_
   rcases cr h with⟨m18,hm18,h⟩|⟨_,hx17,h⟩
   ·refine zf [] (ih.2.1 x1 x2 _ hm18) ⟨aa,aa,tv⟩ (fun q C' hq=>?_) (fun v9 hv=>?_)
    ·obtain⟨_,h9,_⟩:=hq;cases h9
    obtain⟨_,h9,rfl⟩:=hv
    cases h9
    obtain rfl:=osj h
    exact .inr ⟨_,rfl,_,rfl,rfl⟩
   refine zf [] (ih.2.1 x1 x2 _ hx17) ⟨aa,aa,tv⟩ (fun q C' hq=>?_) (fun v9 hv=>by obtain⟨_,h9,_⟩:=hv;cases h9)
   obtain⟨_,h9,rfl,rfl⟩:=hq
   cases h9
   refine rCtx [p1,p2,p3] ?_
   obtain rfl:=osj h
   exact(.inl ⟨.inr rfl,_,A9.of [] rfl,_,aa,_,rfl,rfl,rfl⟩)
  rcases cc h with⟨hc19,h⟩|⟨hc19,h⟩
  ·refine rEnv 15 (q:=Pi (.func (.func 147) #[] #[])) (an5 hc19) ?_
   rcases cr h with⟨m21,hm21,h⟩|⟨_,hx20,h⟩
   ·refine zf [] (ac3 x1 x2 _ hm21) ⟨aa,aa,tv⟩ (fun q C' hq=>?_) (fun v9 hv=>?_)
    ·obtain⟨_,h9,_⟩:=hq;cases h9
    obtain⟨_,h9,rfl⟩:=hv
    cases h9
    obtain rfl:=osj h
    exact .inr ⟨_,rfl,_,rfl,rfl⟩
   refine zf [] (ac3 x1 x2 _ hx20) ⟨aa,aa,tv⟩ (fun q C' hq=>?_) (fun v9 hv=>by obtain⟨_,h9,_⟩:=hv;cases h9)
   obtain⟨_,h9,rfl,rfl⟩:=hq
   cases h9
   refine rCtx [p1,p2,p3] ?_
   obtain rfl:=osj h
   exact(.inl ⟨.inr rfl,_,A9.of [] rfl,_,aa,_,rfl,rfl,rfl⟩)
  rcases cc h with⟨hc22,h⟩|⟨hc22,h⟩
  ·refine rEnv 15 (q:=Pi (.func (.func 148) #[] #[])) (an5 hc22) ?_
   rcases cr h with⟨m24,hm24,h⟩|⟨_,hx23,h⟩
   ·refine zf [] (ac2 x1 x2 _ hm24) ⟨aa,aa,tv⟩ (fun q C' hq=>?_) (fun v9 hv=>?_)
    ·obtain⟨_,h9,_⟩:=hq;cases h9
    obtain⟨_,h9,rfl⟩:=hv
    cases h9
    obtain rfl:=osj h
    exact .inr ⟨_,rfl,_,rfl,rfl⟩
   refine zf [] (ac2 x1 x2 _ hx23) ⟨aa,aa,tv⟩ (fun q C' hq=>?_) (fun v9 hv=>by obtain⟨_,h9,_⟩:=hv;cases h9)
   obtain⟨_,h9,rfl,rfl⟩:=hq
   cases h9
   refine rCtx [p1,p2,p3] ?_
   obtain rfl:=osj h
   exact(.inl ⟨.inr rfl,_,A9.of [] rfl,_,aa,_,rfl,rfl,rfl⟩)
  rcases cc h with⟨hc25,h⟩|⟨hc25,h⟩
  ·refine rEnv 15 (q:=Pi (.func (.func 149) #[] #[])) (an5 hc25) ?_
   rcases cr h with⟨m27,hm27,h⟩|⟨_,hx26,h⟩
   ·refine zf [] (ih.2.2 x1 x2 _ hm27) ⟨aa,aa,tv⟩ (fun q C' hq=>?_) (fun v9 hv=>?_)
    ·obtain⟨_,h9,_⟩:=hq;cases h9
    obtain⟨_,h9,rfl⟩:=hv
    cases h9
    obtain rfl:=osj h
    exact .inr ⟨_,rfl,_,rfl,rfl⟩
   refine zf [] (ih.2.2 x1 x2 _ hx26) ⟨aa,aa,tv⟩ (fun q C' hq=>?_) (fun v9 hv=>by obtain⟨_,h9,_⟩:=hv;cases h9)
   obtain⟨_,h9,rfl,rfl⟩:=hq
   cases h9
   refine rCtx [p1,p2,p3] ?_
   obtain rfl:=osj h
   exact(.inl ⟨.inr rfl,_,A9.of [] rfl,_,aa,_,rfl,rfl,rfl⟩)
  cases h
 refine ay ?_
 obtain rfl:=osj h
 exact(.inl ⟨.inr rfl,_,A9.of [] rfl,_,aa,_,rfl,rfl,rfl⟩)
theorem ad8 (R:bp) (ih:jp R) (x1:C8) (x2:B6) (r:PX D0 Unit) (h:kf R x1 x2=some r):FnX Tryz.prog 146 [(aw).val x1,(af).val x2] [] (fun q C'=>∃a9,r= .ok a9/\q=br []/\C'=[]) (fun v=>∃m,r= .bad m/\v=ld m):=by
 refine lk (rs:=[]) func146 rfl ntmps146 ⟨by decide,results146⟩ dcd (fun s0=>?_)
 unfold kf at h
 refine W_rs ?_
 refine rBox (R:=aw) (a:=x1) rfl (fun b3=>?_)
 let p1:=D9 b3 aw x1
 refine rBox (R:=af) (a:=x2) rfl (fun b4=>?_)
 let p2:=D9 b4 af x2
 refine bo (fun e C=>nu R x2 x1=some r/\At [(2,Pr.pt b3 0),(3,Pr.pt b4 0)] [p1,p2] e C) ?_ ?_
 ·rintro e C ⟨h,a⟩
  refine W_at a ?_
  unfold nu at h
  refine W_rs (kUn (ak ic) ?_)
  refine kUn (au 1 ty53 bt) ?_
  obtain⟨x8,k,h⟩:=ah h
  refine kUn (ayl underlying53 sizeOf64 k) ?_
  refine kUn (mg rfl underlying53) ?_
  refine kMv rfl (a5 ?_)
  obtain⟨z2l,hz2,h⟩:=ah h
  obtain⟨n2,hN2⟩:=bv hz2
  refine di 0 (fun e C=>sl R=some r/\At [] [p1,p2] e C) ?_ ?_
  ·rintro e C ⟨h,a⟩
   unfold sl at h
   obtain rfl:=osj h
   exact(.inl ⟨.inr rfl,_,(A9.trans a.2 (A9.of [] rfl)),_,aa,_,rfl,rfl,rfl⟩)
  refine ek (fun m e C=>∃x9,fq (fun s=>fy R x8 x1 s) m x9=some z2l/\At [(2,Pr.pt b3 0),(15,ap af x8),(16,P6 (x8.length:Int)),(17,P6 x9)] [p1,p2] e C) n2 ⟨0,hN2,⟨⟨aa,aa,aa,aa,tv⟩,A9.refl _⟩⟩ ?_
  rintro m e C ⟨x9,hN2,a⟩
  refine W_at a ?_
  obtain⟨m2,w2l,rfl,h2l,hn2,ho2⟩:=bm hN2
  replace h2l:fy R x8 x1 x9=some w2l:=h2l
  unfold fy at h2l
  refine W_rs (kIn rfl rfl rfl (a7 ?_))
  refine a6 h2l rfl (fun _ h2l=>?_) (fun _ h2l=>?_)
  ·refine ay (a7 (a5 (W_rs ?_)))
   obtain⟨x12,k,h2l⟩:=ah h2l
   refine kUn (fo underlying53 sizeOf64 k) ?_
   refine kUn (cz ty64) ?_
   refine bw al64 fun b13=>av 2 rfl rfl (Upd.refl _) rfl sizeOf64 (W_r (kUn (au 0 um (Sub.refl _)) ?_))
   refine kUn (au 2 ty64 (Sub.refl _)) ?_
   rcases cr h2l with⟨m15,hm15,h2l⟩|⟨_,hx14,h2l⟩
   ·refine dw [] (ih.1 x1 x12 _ hm15) ⟨aa,aa,tv⟩ (fun q C' hq=>?_) (fun v9 hv=>?_)
    ·obtain⟨_,h9,_⟩:=hq;cases h9
    obtain⟨_,h9,rfl⟩:=hv
    cases h9
    obtain rfl:=ho2 _ (ojs h2l)
    replace h:some (.bad m15)=some r:=h
    obtain rfl:=osj h
    exact .inr ⟨_,rfl,_,rfl,rfl⟩
   refine dw [] (ih.1 x1 x12 _ hx14) ⟨aa,aa,tv⟩ (fun q C' hq=>?_) (fun v9 hv=>by obtain⟨_,h9,_⟩:=hv;cases h9)
   obtain⟨_,h9,rfl,rfl⟩:=hq
   cases h9
   refine rCtx [p1,p2,D9 b13 af x12] ?_
   refine W_r (kIn rfl rfl rfl (kMv rfl ?_))
   exact⟨m2,lsu,w64 (x9+1),hn2 _ (ojs h2l),⟨⟨aa,aa,aa,aa,tv⟩,A9.of [0,1] rfl⟩⟩
  refine ej ?_
  obtain rfl:=ho2 _ (ojs h2l)
  exact⟨h,atOk⟩
 refine i8 6 hmx kr kr ?_
 refine lUn (au 0 um (Sub.refl _)) ?_
 refine lUn (ak ic) ?_
 refine lUn (au 1 ty53 bt) ?_
 obtain⟨x5,k,h⟩:=ah h
 refine lUn (fo underlying53 sizeOf64 k) ?_
 refine lUn (cz ty64) ?_
 refine lUn (cq (R:=Rp.str) (a:=([98,111,111,108,101,97,110]:Bt)) el22 nb) ?_
 rcases cr h with⟨m7,hm7,h⟩|⟨_,hx6,h⟩
 ·refine dw [] (qp x1 x5 ([([98,111,111,108,101,97,110]:Bt)]:List Bt) _ hm7) ⟨aa,aa,aa,tv⟩ (fun q C' hq=>?_) (fun v9 hv=>?_)
  ·obtain⟨_,h9,_⟩:=hq;cases h9
  obtain⟨_,h9,rfl⟩:=hv
  cases h9
  obtain rfl:=osj h
  exact .inr ⟨_,rfl,_,rfl,rfl⟩
 refine dw [] (qp x1 x5 ([([98,111,111,108,101,97,110]:Bt)]:List Bt) _ hx6) ⟨aa,aa,aa,tv⟩ (fun q C' hq=>?_) (fun v9 hv=>by obtain⟨_,h9,_⟩:=hv;cases h9)
 obtain⟨_,h9,rfl,rfl⟩:=hq
 cases h9
 refine rCtx [p1,p2] ?_
 exact⟨h,atOk⟩
theorem ae6 (R:bp) (ih:jp R) (x1:C8) (x2:B6) (r:PX D0 Unit) (h:lq R x1 x2=some r):FnX Tryz.prog 149 [(aw).val x1,(af).val x2] [] (fun q C'=>∃a9,r= .ok a9/\q=br []/\C'=[]) (fun v=>∃m,r= .bad m/\v=ld m):=by
 refine lk (rs:=[]) func149 rfl ntmps149 ⟨by decide,results149⟩ dcd (fun s0=>?_)
 unfold lq at h
 refine W_rs ?_
 refine rBox (R:=aw) (a:=x1) rfl (fun b3=>?_)
 refine rBox (R:=af) (a:=x2) rfl (fun b4=>?_)
 let p1:=D9 b4 af x2
 refine W_rs (kUn (ak ic) ?_)
 refine kUn (au 1 ty53 bt) ?_
 refine kUn (mg rfl underlying53) ?_
 refine kMv rfl (a5 ?_)
 obtain⟨z2l,hz2,h⟩:=ah h
 obtain⟨n2,hN2⟩:=bv hz2
 refine di 0 (fun e C=>∃x6,un R x6=some r/\At [] [D9 b3 aw x6,p1] e C) ?_ ?_
 ·rintro e C ⟨x6,h,a⟩
  unfold un at h
  obtain rfl:=osj h
  exact(.inl ⟨.inr rfl,_,(A9.trans a.2 (A9.of [] rfl)),_,aa,_,rfl,rfl,rfl⟩)
 refine ek (fun m e C=>∃x5,∃x6,fq (fun s=>ia R x2 s.1 s.2) m (x5,x6)=some z2l/\At [(2,Pr.pt b3 0),(7,ap af x2.Kids),(8,P6 (x2.Kids.length:Int)),(9,P6 x5)] [D9 b3 aw x6,p1] e C) n2 ⟨0,x1,hN2,⟨⟨aa,aa,aa,aa,tv⟩,A9.refl _⟩⟩ ?_
 rintro m e C ⟨x5,x6,hN2,a⟩
 refine W_at a ?_
 obtain⟨m2,w2l,rfl,h2l,hn2,ho2⟩:=bm hN2
 replace h2l:ia R x2 x5 x6=some w2l:=h2l
 unfold ia at h2l
 refine W_rs (kIn rfl rfl rfl (a7 ?_))
 refine a6 h2l rfl (fun _ h2l=>?_) (fun _ h2l=>?_)
 ·refine ay ?_
  refine bo (fun e C=>∃x16,∃x10,∃b11,mo R x5 x16 x10=some w2l/\At [(2,Pr.pt b3 0),(7,ap af x2.Kids),(8,P6 (x2.Kids.length:Int)),(9,P6 x5)] [D9 b3 aw x16,p1,D9 b11 af x10] e C) ?_ ?_
  ·rintro e C ⟨x16,x10,b11,h2l,a⟩
   refine W_at a ?_
   unfold mo at h2l
   refine W_r (kIn rfl rfl rfl (kMv rfl ?_))
   exact⟨m2,lsu,w64 (x5+1),x16,hn2 _ (ojs h2l),⟨⟨aa,aa,aa,aa,tv⟩,A9.of [0,1] rfl⟩⟩
  refine a5 (W_rs ?_)
  obtain⟨x10,k,h2l⟩:=ah h2l
  refine kUn (fo underlying53 sizeOf64 k) ?_
  refine kUn (cz ty64) ?_
  refine bw al64 fun b11=>av 2 rfl rfl (Upd.refl _) rfl sizeOf64 (W_rs (kUn (au 0 um (Sub.refl _)) ?_))
  refine kUn (au 2 ty64 (Sub.refl _)) ?_
  rcases cr h2l with⟨m15,hm15,h2l⟩|⟨_,hx12,h2l⟩
  ·refine dw [] (ih.1 x6 x10 _ hm15) ⟨aa,aa,tv⟩ (fun q C' hq=>?_) (fun v9 hv=>?_)
   ·obtain⟨_,h9,_⟩:=hq;cases h9
   obtain⟨_,h9,rfl⟩:=hv
   cases h9
   obtain rfl:=ho2 _ (ojs h2l)
   replace h:some (.bad m15)=some r:=h
   obtain rfl:=osj h
   exact .inr ⟨_,rfl,_,rfl,rfl⟩
  refine dw [] (ih.1 x6 x10 _ hx12) ⟨aa,aa,tv⟩ (fun q C' hq=>?_) (fun v9 hv=>by obtain⟨_,h9,_⟩:=hv;cases h9)
  obtain⟨_,h9,rfl,rfl⟩:=hq
  cases h9
  refine rCtx [D9 b3 aw x6,p1,D9 b11 af x10] ?_
  refine W_rs (kUn (ak f4) ?_)
  refine kUn (au 2 ty3 bc) ?_
  refine kIn rfl rfl rfl ?_
  refine a6 h2l rfl (fun _ h2l=>?_) (fun _ h2l=>?_)
  ·refine W_r (kUn (au 0 um (Sub.refl _)) ?_)
   refine kUn (au 2 ty64 (Sub.refl _)) ?_
   refine c8 h2l (ac1 x6 x10) rfl fun x14 _ h2l=>av 0 rfl rfl (Upd.refl _) rfl sizeOf138 ?_
   exact⟨x14,x10,b11,h2l,atOk⟩
  refine ay ?_
  exact⟨x6,x10,b11,h2l,atOk⟩
 refine ej ?_
 obtain rfl:=ho2 _ (ojs h2l)
 exact⟨x6,h,atOk⟩
theorem ac4 :∀n,jp (f0 n):=by
 intro n
 induction n with
 |zero=>exact⟨(fun x1 x2 r h=>nomatch (show none=some r from h)),(fun x1 x2 r h=>nomatch (show none=some r from h)),(fun x1 x2 r h=>nomatch (show none=some r from h))⟩
 |succ n ih=>exact⟨(fun x1 x2 r h=>ac5 (f0 n) ih x1 x2 r h),(fun x1 x2 r h=>ad8 (f0 n) ih x1 x2 r h),(fun x1 x2 r h=>ae6 (f0 n) ih x1 x2 r h)⟩
theorem wo (x1:C8) (x2:B6) (r:PX D0 Unit) (h:aai x1 x2=some r):FnX Tryz.prog 99 [(aw).val x1,(af).val x2] [] (fun q C'=>∃a9,r= .ok a9/\q=br []/\C'=[]) (fun v=>∃m,r= .bad m/\v=ld m):=(ac4 1048576).1 x1 x2 r h
end Go.Proofs.YtcndghapmoaidaaGreatDoor
set_option linter.unusedSectionVars false
set_option maxRecDepth 100000
set_option maxHeartbeats 4000000
namespace Go.Proofs.YtcndghapmoaidaaGreatDoor
open Go Go.Cn Tryz
attribute [local irreducible] g0 ap
theorem ai7 (x1:List B0) (x2:Bt) (x3:Int) (x4:B6) (r:PX D0 Unit) (h:ss x1 x2 x3 x4=some r):FnX Tryz.prog 55 [ap ag x1,Pr.str x2,P6 x3,(af).val x4] [] (fun q C'=>∃a9,r= .ok a9/\q=br []/\C'=[]) (fun v=>∃m,r= .bad m/\v=ld m):=by
 refine lk (rs:=[]) func55 rfl ntmps55 ⟨by decide,results55⟩ dcd (fun s0=>?_)
 let p1:=B7.mk x1 x2 (x4.N==1) []
 unfold ss at h
 refine W_rs ?_
 refine rBox (R:=af) (a:=x4) rfl (fun b5=>?_)
 refine W_rs (kMvL rfl (kMv rfl (kUn (ak aig) ?_)))
 refine kUn (au 0 ty2 acn) ?_
 refine kIn rfl rfl rfl (kUn (jm st66 ⟨(B7.mk x1 [] false []),⟨_,rfl,rfl,qbj⟩,⟨(B7.mk x1 x2 false []),⟨_,rfl,rfl,qbj⟩,⟨p1,⟨_,rfl,rfl,qbj⟩,rfl⟩⟩⟩) ?_)
 refine kUn (ak ws) ?_
 refine kUn (au 0 ty9 gm) ?_
 refine kMv rfl (kUn (jm st138 ⟨(C8.mk p1 [] 0),⟨_,rfl,rfl,qbj⟩,⟨(C8.mk p1 x4.Type_ 0),⟨_,rfl,rfl,qbj⟩,⟨(C8.mk p1 x4.Type_ x3),⟨_,rfl,rfl,qbj⟩,rfl⟩⟩⟩) ?_)
 refine bw al138 fun b6=>av 1 rfl rfl (Upd.refl _) rfl sizeOf138 (W_rs (kUn (ak ic) ?_))
 refine kUn (au 0 ty53 bt) ?_
 refine kUn (mg rfl underlying53) ?_
 refine kIn rfl rfl rfl (kAs rfl (a7 (W_rs (kUn (ak ic) ?_))))
 refine kUn (au 0 ty53 bt) ?_
 refine kMv rfl ?_
 obtain⟨x7,k,h⟩:=ah h
 refine kUn (qLSubH underlying53 sizeOf64 k) ?_
 refine kUn (mg rfl underlying53) ?_
 refine kMv rfl (a5 ?_)
 obtain⟨z2l,hz2,h⟩:=ah h
 obtain⟨n2,hN2⟩:=bv hz2
 refine di 0 (fun e C=>∃x9,zy x4 x9=some r/\At [(7,Pr.pt b5 0),(8,Pr.pt b6 0),(9,P6 (w64 ((x4.Kids.length:Int) - 1)))] [D9 b5 af x4,D9 b6 aw x9] e C) ?_ ?_
 ·rintro e C ⟨x9,h,a⟩
  refine W_at a ?_
  unfold zy at h
  refine i8 6 hmx kr kr ?_
  refine lUn (au 1 um (Sub.refl _)) ?_
  refine lUn (ak ic) ?_
  refine lUn (au 0 ty53 bt) ?_
  refine lUn (hMvA rfl) ?_
  obtain⟨x16,k,h⟩:=ah h
  refine lUn (fo underlying53 sizeOf64 k) ?_
  refine lUn (cz ty64) ?_
  rcases cr h with⟨m18,hm18,h⟩|⟨_,hx17,h⟩
  ·refine dw [] (wo x9 x16 _ hm18) ⟨aa,aa,tv⟩ (fun q C' hq=>?_) (fun v9 hv=>?_)
   ·obtain⟨_,h9,_⟩:=hq;cases h9
   obtain⟨_,h9,rfl⟩:=hv
   cases h9
   obtain rfl:=osj h
   exact .inr ⟨_,rfl,_,rfl,rfl⟩
  refine dw [] (wo x9 x16 _ hx17) ⟨aa,aa,tv⟩ (fun q C' hq=>?_) (fun v9 hv=>by obtain⟨_,h9,_⟩:=hv;cases h9)
  obtain⟨_,h9,rfl,rfl⟩:=hq
  cases h9
  refine rCtx [D9 b5 af x4,D9 b6 aw x9] ?_
  obtain rfl:=osj h
  exact(.inl ⟨.inr rfl,_,A9.of [] rfl,_,aa,_,rfl,rfl,rfl⟩)
 refine ek (fun m e C=>∃x8,∃x9,fq (fun s=>gl x7 s.1 s.2) m (x8,x9)=some z2l/\At [(7,Pr.pt b5 0),(8,Pr.pt b6 0),(9,P6 (w64 ((x4.Kids.length:Int) - 1))),(29,ap af x7),(30,P6 (x7.length:Int)),(31,P6 x8)] [D9 b5 af x4,D9 b6 aw x9] e C) n2 ⟨0,(C8.mk p1 x4.Type_ x3),hN2,⟨⟨aa,aa,aa,aa,aa,aa,tv⟩,A9.refl _⟩⟩ ?_
 rintro m e C ⟨x8,x9,hN2,a⟩
 refine W_at a ?_
 obtain⟨m2,w2l,rfl,h2l,hn2,ho2⟩:=bm hN2
 replace h2l:gl x7 x8 x9=some w2l:=h2l
 unfold gl at h2l
 refine W_rs (kIn rfl rfl rfl (a7 ?_))
 refine a6 h2l rfl (fun _ h2l=>?_) (fun _ h2l=>?_)
 ·refine ay (a7 (a5 (W_rs ?_)))
  obtain⟨x13,k,h2l⟩:=ah h2l
  refine kUn (fo underlying53 sizeOf64 k) ?_
  refine kUn (cz ty64) ?_
  refine bw al64 fun b14=>av 2 rfl rfl (Upd.refl _) rfl sizeOf64 (W_r (kUn (au 1 um (Sub.refl _)) ?_))
  refine kUn (au 2 ty64 (Sub.refl _)) ?_
  refine c8 h2l (ac1 x9 x13) rfl fun x15 _ h2l=>av 1 rfl rfl (Upd.refl _) rfl sizeOf138 (W_r (kIn rfl rfl rfl (kMv rfl ?_)))
  exact⟨m2,lsu,w64 (x8+1),x15,hn2 _ (ojs h2l),⟨⟨aa,aa,aa,aa,aa,aa,tv⟩,A9.of [0,1] rfl⟩⟩
 refine ej ?_
 obtain rfl:=ho2 _ (ojs h2l)
 exact⟨x9,h,atOk⟩
theorem apv (x1:List Bt) (r:(List (List B6)) × Bool) (h:acv x1=some r):Fp 25 [ap Rp.str x1] (br [ap (Rp.list af) r.1,Pb r.2]):=by
 refine dv (rs:=[2,3]) func25 rfl ntmps25 ⟨by decide,results25⟩ dcd (fun s0=>?_)
 unfold acv at h
 refine W_rs (kAs rfl (kAs rfl (W_rs (kAs rfl (a7 (W_rs (kMvL rfl (kUn (mg rfl underlying22) ?_))))))))
 refine kIn rfl rfl rfl ?_
 refine a6 h rfl (fun _ h=>?_) (fun _ h=>?_)
 ·refine W_rs (kAs rfl (kAs rfl ?_))
  obtain rfl:=osj h
  exact bg ⟨rfl,aqx ⟨el _,aa,tv⟩⟩
 refine ay (a7 (W_rs (kAs rfl (a5 ?_))))
 obtain⟨z2l,hz2,h⟩:=ah h
 obtain⟨n2,hN2⟩:=bv hz2
 refine di 0 (fun e C=>∃x5,∃v3,aac x5=some r/\At [(4,Pi v3)] [E6 v3 (Rp.list af) x5 53] e C) ?_ ?_
 ·rintro e C ⟨x5,v3,h,a⟩
  refine W_at a ?_
  unfold aac at h
  refine W_rs (kMv rfl (kAs rfl (kAs rfl ?_)))
  refine ar0 0 [2] ?_ rfl ⟨rfl,tv⟩
  obtain rfl:=osj h
  exact bg ⟨rfl,aa⟩
 refine ah6 [4] (Rp.list af) 53 (fun v19=>?_) ⟨rfl,tv⟩
 refine ek (fun m e C=>∃x4,∃x5,∃v3,fq (fun s=>r9 x1 s.1 s.2) m (x4,x5)=some z2l/\At [(0,ap Rp.str x1),(4,Pi v3),(5,P6 x4)] [E6 v3 (Rp.list af) x5 53] e C) n2 ⟨0,[],v19,hN2,⟨⟨aa,aa,aa,tv⟩,A9.refl _⟩⟩ ?_
 rintro m e C ⟨x4,x5,v3,hN2,a⟩
 refine W_at a ?_
 obtain⟨m2,w2l,rfl,h2l,hn2,ho2⟩:=bm hN2
 replace h2l:r9 x1 x4 x5=some w2l:=h2l
 unfold r9 at h2l
 refine a7 (W_rs (kMv rfl (kMvL rfl (kUn (mg rfl underlying22) ?_))))
 refine kIn rfl rfl rfl ?_
 refine a6 h2l rfl (fun _ h2l=>?_) (fun _ h2l=>?_)
 ·refine ay (a7 (a5 (a7 (W_rs (kMvL rfl (kMv rfl ?_))))))
  obtain⟨x10,k,h2l⟩:=ah h2l
  refine kUn (fo underlying22 sizeOf9 k) ?_
  refine kUn (cz ty9) ?_
  refine kUn (ajm rfl underlying9) ?_
  refine kIn rfl rfl rfl ?_
  refine a6 h2l rfl (fun _ h2l=>?_) (fun _ h2l=>?_)
  ·refine W_rs (kAs rfl (kAs rfl ?_))
   obtain rfl:=ho2 _ (ojs h2l)
   replace h:some ([],false)=some r:=h
   obtain rfl:=osj h
   exact bg ⟨rfl,aqx ⟨el _,aa,tv⟩⟩
  refine ay (W_rs (kMvL rfl (kMv rfl ?_)))
  obtain⟨x12,k,h2l⟩:=ah h2l
  refine kUn (fo underlying22 sizeOf9 k) ?_
  refine kUn (cz ty9) ?_
  obtain⟨⟨x13,x14⟩,k,h2l⟩:=ah h2l
  refine kUn (dz (aht x12 _ k)) ?_
  refine kUn (hMv (out:=br [ap af x13,(az).val x14]) rfl) (kUn ar ?_)
  refine kUn ar ?_
  refine bw al30 fun b15=>kAsL rfl (av 1 rfl rfl (Upd.refl _) rfl sizeOf30 (a7 (W_rs (kUn (ak ahj) ?_))))
  refine kUn (au 1 ty28 je) ?_
  refine kIn rfl rfl rfl ?_
  refine a6 h2l rfl (fun _ h2l=>?_) (fun _ h2l=>?_)
  ·refine W_rs (kAs rfl (kAs rfl ?_))
   obtain rfl:=ho2 _ (ojs h2l)
   replace h:some ([],false)=some r:=h
   obtain rfl:=osj h
   exact bg ⟨rfl,aqx ⟨el _,aa,tv⟩⟩
  refine ay (W_r (kMv rfl (kMvL rfl (kUn (cq (R:=Rp.list af) (a:=x13) el24 nb) ?_))))
  obtain⟨x17,k,h2l⟩:=ah h2l
  refine ik 0 el24 k (fun v18=>?_)
  refine kAs rfl (W_r (kMv rfl (kIn rfl rfl rfl (kAs rfl ?_))))
  exact⟨m2,lsu,w64 (x4+1),x17,v18,hn2 _ (ojs h2l),⟨⟨aa,aa,aa,tv⟩,A9.of [0] rfl⟩⟩
 refine ej ?_
 obtain rfl:=ho2 _ (ojs h2l)
 exact⟨x5,v3,h,atOk⟩
end Go.Proofs.YtcndghapmoaidaaGreatDoor
set_option linter.unusedSectionVars false
set_option maxRecDepth 100000
set_option maxHeartbeats 4000000
namespace Go.Proofs.YtcndghapmoaidaaGreatDoor
open Go Go.Cn Tryz
attribute [local irreducible] g0 ap
end Go.Proofs.YtcndghapmoaidaaGreatDoor
set_option linter.unusedSectionVars false
set_option maxRecDepth 100000
set_option maxHeartbeats 4000000
namespace Go.Proofs.YtcndghapmoaidaaGreatDoor
open Go Go.Cn Tryz
attribute [local irreducible] g0 ap
section
variable {env:Env} {C:Ctx} {ty:TypeId} {pos:String} {after:Array Edge} {gd:Option (Nat × Bool)} {d:Option Nat}
theorem atj {u:TypeId} {m:C5} {x:Operand} (hx:env.op x=Pi (ac8 m):=by exact rfl):Q Tryz.prog C ⟨d,.binOp .neq 20 x (.const .nilIface) u,ty,pos,after,gd⟩ env (Pb true):=by
 intro s ρ hs _ h
 have h0:ρ x=ac8 m:=by have:=h x afv;rw[hx]at this;exact this
 have h2:ρ (.const .nilIface)= .nilIface:=h (.const .nilIface) afu
 have he:∀d:Nat,(Op.equalIn (d+1) 20 (ac8 m) .nilIface).run Tryz.prog s.w= .ok false s.w:=fun d=>by simp[ac8,Op.equalIn,d8 underlying20]
 refine .of_run hs (v:= .bool true) ?_ rfl
 have h0':ρ x= .iface 72 (.agg #[.int .i64 m.m.Code,.int .i64 m.m.File,.int .i64 m.m.At]):=h0
 have he':=he 9999
 unfold ac8 at he'
 simp[execOp,h0',h2,eqGuard,binOp,Op.equal,Op.maxDepth,he']
theorem aqt {u:TypeId} {x:Operand} (hx:env.op x=Pi .nilIface:=by exact rfl):Q Tryz.prog C ⟨d,.binOp .neq 20 x (.const .nilIface) u,ty,pos,after,gd⟩ env (Pb false):=by
 intro s ρ hs _ h
 have h0:ρ x= .nilIface:=by have:=h x afv;rw[hx]at this;exact this
 have h2:ρ (.const .nilIface)= .nilIface:=h (.const .nilIface) afu
 have he:∀d:Nat,(Op.equalIn (d+1) 20 .nilIface .nilIface).run Tryz.prog s.w= .ok true s.w:=fun d=>by simp[Op.equalIn,d8 underlying20]
 refine .of_run hs (v:= .bool false) ?_ rfl
 simp[execOp,h0,h2,eqGuard,binOp,Op.equal,Op.maxDepth,he 9999]
theorem ati (m:C5) (s:St):((mq).val m).p s (.agg #[.int .i64 m.m.Code,.int .i64 m.m.File,.int .i64 m.m.At]):=
 (mq).spec.2 ⟨[.int .i64 m.m.Code,.int .i64 m.m.File,.int .i64 m.m.At],⟨_,_,rfl,⟨_,_,rfl,rfl,⟨_,_,rfl,rfl,⟨_,_,rfl,rfl,rfl⟩⟩⟩,rfl⟩,rfl⟩
theorem au6 {xt:TypeId} {m:C5} {x:Operand} (hx:env.op x=Pi (ac8 m):=by exact rfl):Q Tryz.prog C ⟨d,.typeAssert x xt 72 true,ty,pos,after,gd⟩ env (br [(mq).val m,Pb true]):=by
 intro s ρ hs _ h
 have h0:ρ x= .iface 72 (.agg #[.int .i64 m.m.Code,.int .i64 m.m.File,.int .i64 m.m.At]):=by have:=h x (by simp[Op.operands]);rw[hx]at this;exact this
 refine .of_run hs (v:= .tuple #[.agg #[.int .i64 m.m.Code,.int .i64 m.m.File,.int .i64 m.m.At],.bool true]) ?_ ⟨[_,_],rfl,ati m s,rfl,tv⟩
 simp[execOp,Instr.typeAssert,h0,d8 underlying72]
end
theorem aqu (b0 b1:Nat) (s:St) (hs:s.WF):CallsDIn Fence.wide 0 Tryz.prog 36 #[.pointer (some ⟨b0,0,none⟩),.pointer (some ⟨b1,0,none⟩)] .returning s.w (fun e u' w'=>(∃v,e= .returned v)/\u'= .returning/\∃F',A0 (fun _=>False) s ⟨w',F'⟩):=by
 refine callsDIn_of_wpSIn func36 rfl trivial (fun c₀ cs hu=>?_)
 have he:A3 ⟨18,none,[]⟩ (q6 [Pr.pt b0 0,Pr.pt b1 0]) {tmps:= #[.pointer (some ⟨b0,0,none⟩),.pointer (some ⟨b1,0,none⟩)]++Array.replicate (Tryz.f36.ntmps - (#[.pointer (some ⟨b0,0,none⟩),.pointer (some ⟨b1,0,none⟩)]:Array Value).size) undef,defers:=[]} s:=
  ⟨fun t=>r4 (show AllP s [Pr.pt b0 0,Pr.pt b1 0] [.pointer (some ⟨b0,0,none⟩),.pointer (some ⟨b1,0,none⟩)]from⟨rfl,rfl,tv⟩) _ t,by simp[ntmps36],rfl⟩
 refine adv (v:= .nilIface) (cs':=c₀::cs) (by simp[ntmps36]) (.inr ⟨by simp[recoverD,hu],rfl,rfl⟩) ?_
 have he2:=(he.putO (d:=some 5) (p:=Pi .nilIface) (v:= .nilIface) (fun d hd=>by cases hd;decide) rfl).putO (d:=some 2) (p:=Pi .nilIface) (v:= .nilIface) (fun d hd=>by cases hd;decide) rfl
 have hg:Cn.Good (fun _=>False) s s []:=⟨A0.refl hs,hs,⟨List.nodup_nil,fun x hx=>(by cases hx),fun b hb=>(by cases hb)⟩,fun b hb=>(by cases hb)⟩
 refine wpSIn_of_wpIn rfl ?_
 refine(?_:W2 Tryz.prog ⟨18,none,[]⟩ (fun _=>False) s _ _ [] _) _ s he2 hg
 refine akr ?_
 refine rq (out:=Pi .nilIface) gz ?_
 refine rq (out:=Pb false) aqt ?_
 refine And.intro rfl (W2_c (b:=false) rfl (fun h=>by cases h) (fun _=>aoh (fun a s' he hg=>?_)))
 exact⟨he.nod,.returning,by rw[← hu],_,ym (rs:=[]) ⟨by decide,results36⟩ _ _,⟨_,rfl⟩,rfl,s'.F,hg.mod⟩
theorem aqv (b0 b1:Nat) (l0:List B8) (l1:B4) (m:C5) (s:St) (hs:s.WF) (hh:A5 s [D9 b0 (Rp.list ao) l0,D9 b1 az l1]):CallsDIn Fence.wide 0 Tryz.prog 36 #[.pointer (some ⟨b0,0,none⟩),.pointer (some ⟨b1,0,none⟩)] (.panicking (one (ac8 m))) s.w
  (fun e u' w'=>(∃v,e= .returned v)/\u'= .panicking [{v:=ac8 m,recovered:=true}]/\∃F',A0 (fun b=>b∈cf [D9 b0 (Rp.list ao) l0,D9 b1 az l1]) s ⟨w',F'⟩/\A5 ⟨w',F'⟩ [D9 b0 (Rp.list ao) [],D9 b1 az m.m]):=by
 refine callsDIn_of_wpSIn func36 rfl trivial (fun c₀ cs hu=>?_)
 have he:A3 ⟨18,none,[]⟩ (q6 [Pr.pt b0 0,Pr.pt b1 0]) {tmps:= #[.pointer (some ⟨b0,0,none⟩),.pointer (some ⟨b1,0,none⟩)]++Array.replicate (Tryz.f36.ntmps - (#[.pointer (some ⟨b0,0,none⟩),.pointer (some ⟨b1,0,none⟩)]:Array Value).size) undef,defers:=[]} s:=
  ⟨fun t=>r4 (show AllP s [Pr.pt b0 0,Pr.pt b1 0] [.pointer (some ⟨b0,0,none⟩),.pointer (some ⟨b1,0,none⟩)]from⟨rfl,rfl,tv⟩) _ t,by simp[ntmps36],rfl⟩
 refine adv (v:=ac8 m) (cs':={c₀ with mode:= .panicking [{v:=ac8 m,recovered:=true}]}::cs) (by simp[ntmps36]) (.inl (by simp[recoverD,hu])) ?_
 have he2:=(he.putO (d:=some 5) (p:=Pi (ac8 m)) (v:=ac8 m) (fun d hd=>by cases hd;decide) rfl).putO (d:=some 2) (p:=Pi (ac8 m)) (v:=ac8 m) (fun d hd=>by cases hd;decide) rfl
 have hg:Cn.Good (fun b=>b∈cf [D9 b0 (Rp.list ao) l0,D9 b1 az l1]) s s [D9 b0 (Rp.list ao) l0,D9 b1 az l1]:=⟨A0.refl hs,hs,hh,fun b hb=> .inr hb⟩
 refine wpSIn_of_wpIn rfl ?_
 refine(?_:W2 Tryz.prog ⟨18,none,[]⟩ (fun b=>b∈cf [D9 b0 (Rp.list ao) l0,D9 b1 az l1]) s _ _ [D9 b0 (Rp.list ao) l0,D9 b1 az l1] _) _ s he2 hg
 refine akr ?_
 refine rq (out:=Pi (ac8 m)) gz ?_
 refine rq (out:=Pb true) atj ?_
 refine And.intro rfl (W2_c (b:=true) rfl (fun _=>?_) (fun h=>by cases h))
 refine asi (K:=fun e _ C=>e= .normal/\A9 C [D9 b0 (Rp.list ao) [],D9 b1 az m.m]) ?_ ?_ (.inr (fun e _ _ h=>by rw[h.1];simp))
 ·refine W_rs ?_
  refine rq (out:=Pi (ac8 m)) gz ?_
  refine rq (out:=br [(mq).val m,Pb true]) au6 ?_
  refine rq (out:=br [(mq).val m,Pb true]) gz ?_
  refine rq (out:=(mq).val m) ar ?_
  refine rq (out:=Pb true) ar ?_
  refine ae7 (R:=mq) (z:=(C5.mk (B4.mk 0 0 0))) zeroValue72 (fun _=>⟨_,⟨_,_,rfl,⟨_,_,rfl,rfl,⟨_,_,rfl,rfl,⟨_,_,rfl,rfl,rfl⟩⟩⟩,rfl⟩,rfl⟩) (fun b=>?_)
  refine yv (R:=mq) (R':=mq) (a:=(C5.mk (B4.mk 0 0 0))) (y:=m) 2 sizeOf72 (Upd.refl _) ?_
  refine rq (out:=Pb true) gb ?_
  refine a7 ?_
  refine W_rs ?_
  refine rq (out:=Pb true) gz ?_
  refine rq (out:=Pb (!true)) qNot ?_
  refine akv (b:= !true) rfl (fun h=>by cases h) (fun _=>?_)
  refine ay ?_
  refine ga [(2,0,D9 b0 (Rp.list ao) []),(3,1,D9 b1 az m.m)] [D9 b0 (Rp.list ao) [],D9 b1 az m.m,D9 b mq m] hmx kr kr (show([2,3]:List Nat).Nodup by decide) (show([0,1]:List Nat).Nodup by decide) rfl rfl ?_
  refine eq1 (out:=Pr.pt b 0) (fun C2 hC=>(ak fld72_0)) ?_
  refine eq1 (out:=(az).val m.m) (fun C2 hC=>(au (R:=mq) (a:=m) (R':=az) 2 ty30 ap4 (hi:=(hC 2 kr).trans rfl))) ?_
  refine eqS (fun C2 hC=>avg (R:=Rp.list ao) (R':=Rp.list ao) (a:=l0) (y:=[]) 0 sizeOf27 (Upd.refl _) ((hC 0 kr).trans rfl) (el _)) ?_
  refine eqs 1 sizeOf30 (Upd.refl _) rfl rfl rfl kr ?_
  exact⟨rfl,A9.of [0,1] rfl⟩
 ·rintro e a s' env' C' he hg ⟨rfl,hp⟩
  have hg:=hg.pick hp
  exact⟨he.nod,_,rfl,_,ym (rs:=[]) ⟨by decide,results36⟩ _ _,⟨_,rfl⟩,rfl,s'.F,hg.mod,hg.has⟩
theorem acg {fn:Func} (hres:fn.results=[ResultVar.cell 2 27,.cell 3 30].toArray) {r:(List B8) × B4} {s0 s:St} {env:Env} {a:Act} {b0 b1:Nat} {l0:List B8} {l1:B4} {w:World} {F':Nat->Prop} (hr:r=(l0,l1)) (he:∀t,(env t).p s (a.tmps.getD t undef)) (h0:(env 2).le (Pr.pt b0 0)) (h1:(env 3).le (Pr.pt b1 0))
  (hh:A5 ⟨w,F'⟩ [D9 b0 (Rp.list ao) l0,D9 b1 az l1]) (hm:A0 (fun _=>False) s0 ⟨w,F'⟩):∃v,(results fn a.tmps).run Tryz.prog w= .ok v w/\∃v' F',Ending.returned v= .returned v'/\Cn.Calm s0 ⟨w,F'⟩/\(br [ap ao r.1,(az).val r.2]).p ⟨w,F'⟩ v':=by
 subst hr
 have he':∀t,((fun t=>if t=2 then Pr.pt b0 0 else if t=3 then Pr.pt b1 0 else Pr.any:Env) t).p ⟨w,F'⟩ (a.tmps.getD t undef):=by
  intro t
  by_cases hh0:t=2
  ·subst hh0;have h6:=h0 _ _ (he _);exact h6
  ·by_cases hh1:t=3
   ·subst hh1;have h6:=h1 _ _ (he _);exact h6
   ·simp only[hh0,hh1,if_false];trivial
 obtain⟨us,h7,h8⟩:=aau (P:=Tryz.prog) (rs:=[.cell 2 27,.cell 3 30]) (ps:=[ap ao l0,(az).val l1]) (a:=a) he' hh ⟨yBox 0 ty27 aa,yBox 1 ty30 aa,tv⟩
 exact⟨_,aco hres h7,_,F',rfl,hm,an8 h8⟩
theorem au5 (x1:List (List B6)) (r:(List B8) × B4) (h:ak8 x1=some r):Fp 13 [ap (Rp.list af) x1] (br [ap ao r.1,(az).val r.2]):=by
 obtain⟨r0,h,hr0⟩:=ah h
 refine auh (n:=67) func13 rfl ntmps13 dcd (fun s=>?_)
 unfold aml at h
 refine akr ?_
 refine bw al27 fun b2=>?_
 let p1:=D9 b2 (Rp.list ao) []
 refine bw al30 fun b3=>?_
 refine And.intro rfl ?_
 refine akr ?_
 refine kMvL rfl ?_
 obtain⟨⟨x4,x5⟩,k,h⟩:=ah h
 refine kUn (dz (aj6 x1 _ k)) ?_
 refine kUn (hMv (out:=br [ap ag x4,(az).val x5]) rfl) (kUn ar ?_)
 refine kUn ar ?_
 refine kAsL rfl (av 1 rfl rfl (Upd.refl _) rfl sizeOf30 ?_)
 refine And.intro rfl ?_
 refine W2_ss ?_
 refine akr ?_
 refine kUn (ak ahj) ?_
 refine kUn (au 1 ty28 je) ?_
 refine kIn rfl rfl rfl ?_
 refine And.intro rfl ?_
 refine W2_c (b:=x5.Code != 0) rfl (fun hc6=>?_) (fun hc6=>?_)
 ·replace h:=iteT hc6 h
  refine ays ?_
  refine ga [(1,0,D9 b2 (Rp.list ao) []),(2,1,D9 b3 az x5)] [p1,D9 b3 az x5] hmx kr kr (show([1,2]:List Nat).Nodup by decide) (show([0,1]:List Nat).Nodup by decide) rfl rfl ?_
  refine eql 1 ty30 (Sub.refl _) rfl rfl kr ?_
  refine eqS (fun C2 hC=>avg (R:=Rp.list ao) (R':=Rp.list ao) (a:=[]) (y:=[]) 0 sizeOf27 (Upd.refl _) ((hC 0 kr).trans rfl) (el _)) ?_
  refine eqs 1 sizeOf30 (Upd.refl _) rfl rfl rfl kr ?_
  refine And.intro rfl ?_
  obtain rfl:=osj h
  refine ayt (fun a s' he hg=>?_)
  have hg:=hg.pick (A9.refl _)
  show LeavesInM _ _ _ _ _ _ a.defers _ _
  rw[he.nod]
  exact acg results13 (ojs hr0) he.at_ aa aa hg.has hg.mod
 replace h:=iteF hc6 h
 refine aoh (fun a s' he hg=>?_)
 refine(?_:W2 Tryz.prog ⟨67,none,[]⟩ (fun _=>False) s _ _ _ _) a s' he hg
 clear he hg a s'
 refine W2_ss ?_
 refine akr ?_
 refine kMvL rfl (c8 h (auw x4) rfl fun x7 _ h=>av 1 rfl rfl (Upd.refl _) rfl sizeOf30 ?_)
 let p2:=D9 b3 az x7
 refine And.intro rfl ?_
 refine akr ?_
 refine kUn (ak ahj) ?_
 refine kUn (au 1 ty28 je) ?_
 refine kIn rfl rfl rfl ?_
 refine And.intro rfl ?_
 refine W2_c (b:=x7.Code != 0) rfl (fun hc8=>?_) (fun hc8=>?_)
 ·replace h:=iteT hc8 h
  refine ays ?_
  refine ga [(1,0,D9 b2 (Rp.list ao) []),(2,1,D9 b3 az x7)] [p1,p2] hmx kr kr (show([1,2]:List Nat).Nodup by decide) (show([0,1]:List Nat).Nodup by decide) rfl rfl ?_
  refine eql 1 ty30 (Sub.refl _) rfl rfl kr ?_
  refine eqS (fun C2 hC=>avg (R:=Rp.list ao) (R':=Rp.list ao) (a:=[]) (y:=[]) 0 sizeOf27 (Upd.refl _) ((hC 0 kr).trans rfl) (el _)) ?_
  refine eqs 1 sizeOf30 (Upd.refl _) rfl rfl rfl kr ?_
  refine And.intro rfl ?_
  obtain rfl:=osj h
  refine ayt (fun a s' he hg=>?_)
  have hg:=hg.pick (A9.refl _)
  show LeavesInM _ _ _ _ _ _ a.defers _ _
  rw[he.nod]
  exact acg results13 (ojs hr0) he.at_ aa aa hg.has hg.mod
 replace h:=iteF hc8 h
 refine aoh (fun a s' he hg=>?_)
 refine(?_:W2 Tryz.prog ⟨67,none,[]⟩ (fun _=>False) s _ _ _ _) a s' he hg
 clear he hg a s'
 refine a2d (b1:=b2) (b2:=b3) dcd rfl rfl ?_
 refine asi (K:=fun e env C=>∃l0 l1,A9 C [D9 b2 (Rp.list ao) l0,D9 b3 az l1]/\(env 2).le (Pr.pt b2 0)/\(env 3).le (Pr.pt b3 0)/\((e= .ret/\r0= .ok (l0,l1))\/∃w,e= .panic (one (ac8 w))/\r0= .bad w)) ?_ ?_ (.inl sm)
 ·refine W_rs (kUn (jm apk rfl) ?_)
  refine rBox (R:=aq) (a:=(D5.mk (.slice none 0 0) 0 [] 0)) rfl (fun b9=>?_)
  refine kAs rfl (a7 (W_rs (kMvL rfl (kUn (mg rfl underlying24) ?_))))
  refine kMv rfl (a5 ?_)
  obtain⟨z2l,hz2,h⟩:=ah h
  obtain⟨n2,hN2⟩:=bv hz2
  refine di 0 (fun e C=>∃x12,∃x13,∃x14,∃x15,∃v11,afk x12 x13 x14 x15=some r0/\At [(2,Pr.pt b2 0),(3,Pr.pt b3 0),(5,Pr.pt b9 0)] [p1,p2,D9 b9 aq (D5.mk v11 x12 x13 x14),E6 v11 ao x15 47] e C) ?_ ?_
  ·rintro e C ⟨x12,x13,x14,x15,v11,h,a⟩
   let p3:=D5.mk v11 x12 x13 x14
   refine W_at a ?_
   unfold afk at h
   refine W_rs (kMv rfl (kNp rfl (kUn (ak asc) ?_)))
   refine kUn (abc (R:=aq) (a:=p3) 2 ty27 wb) ?_
   obtain⟨x49,k,h⟩:=ah h
   refine ay4 [3] (u7 aa2 x15 v11 _ k) ⟨aa,(ayp en39 (fun _ _ hs=>by obtain⟨a0,a1,r,rfl,rfl,hr⟩:=hs;exact aqw a0 a1 r hr)),tv⟩ (fun q C' hq=>?_)
   obtain⟨rfl,rfl⟩:=hq
   refine rCtx [E6 v11 ao x49 47,p1,p2,D9 b9 aq p3] ?_
   refine W_rs (kMv rfl (kNp rfl (kUn (ak asc) ?_)))
   refine kUn (abc (R:=aq) (a:=p3) 3 ty27 wb) ?_
   refine kUn (jm st30 rfl) ?_
   refine rRel 0 [65] ?_ rfl ⟨rfl,tv⟩
   refine av 0 rfl rfl (Upd.refl _) rfl sizeOf27 (av 1 rfl rfl (Upd.refl _) rfl sizeOf30 ?_)
   obtain rfl:=osj h
   exact bg ⟨_,_,A9.of [0,1] rfl,aa,aa,.inl ⟨rfl,rfl⟩⟩
  refine a0v ao 47 ?_
  refine ek (fun m e C=>∃x10,∃x12,∃x13,∃x14,∃x15,∃v11,fq (fun s=>sy x1 x4 s.1 s.2.1 s.2.2.1 s.2.2.2.1 s.2.2.2.2) m (x10,x12,x13,x14,x15)=some z2l/\At [(2,Pr.pt b2 0),(3,Pr.pt b3 0),(4,ap ag x4),(5,Pr.pt b9 0),(28,ap (Rp.list af) x1),(29,P6 (x1.length:Int)),(30,P6 x10)] [p1,p2,D9 b9 aq (D5.mk v11 x12 x13 x14),E6 v11 ao x15 47] e C) n2 ⟨0,0,[],0,[],(.slice none 0 0),hN2,⟨⟨aa,aa,aa,aa,aa,aa,aa,tv⟩,A9.refl _⟩⟩ ?_
  rintro m e C ⟨x10,x12,x13,x14,x15,v11,hN2,a⟩
  refine W_at a ?_
  obtain⟨m2,w2l,rfl,h2l,hn2,ho2⟩:=bm hN2
  replace h2l:sy x1 x4 x10 x12 x13 x14 x15=some w2l:=h2l
  unfold sy at h2l
  refine W_rs (kIn rfl rfl rfl (a7 ?_))
  refine a6 h2l rfl (fun _ h2l=>?_) (fun _ h2l=>?_)
  ·refine ay (a7 (a5 (W_rs (kMv rfl ?_))))
   obtain⟨x23,k,h2l⟩:=ah h2l
   refine kUn (fo underlying24 sizeOf53 k) ?_
   refine kUn (cz ty53) ?_
   refine kAs rfl (kAsL rfl (W_rs (kMv rfl (kMv rfl (kNp rfl (kUn (ak asb) ?_))))))
   refine av 2 rfl rfl ajd rfl sizeOf3 ?_
   refine rCtx [p1,p2,D9 b9 aq (D5.mk v11 x10 x13 x14),E6 v11 ao x15 47] ?_
   refine W_rs (kMvL rfl (kUn (mg rfl underlying53) ?_))
   refine kMv rfl (a5 ?_)
   obtain⟨z4l,hz4,h2l⟩:=ah h2l
   obtain⟨n4,hN4⟩:=bv hz4
   refine di 2 (fun e C=>∃x26,∃x27,∃x28,∃x29,∃v25,afj x10 x26 x27 x28 x29=some w2l/\At [(2,Pr.pt b2 0),(3,Pr.pt b3 0),(4,ap ag x4),(5,Pr.pt b9 0),(28,ap (Rp.list af) x1),(29,P6 (x1.length:Int)),(30,P6 x10)] [p1,p2,D9 b9 aq (D5.mk v25 x26 x27 x28),E6 v25 ao x29 47] e C) ?_ ?_
   ·rintro e C ⟨x26,x27,x28,x29,v25,h2l,a⟩
    refine W_at a ?_
    unfold afj at h2l
    refine W_r (kIn rfl rfl rfl (kMv rfl ?_))
    exact⟨m2,lsu,w64 (x10+1),x26,x27,x28,x29,v25,hn2 _ (ojs h2l),atOk⟩
   refine ek (fun m e C=>∃x24,∃x26,∃x27,∃x28,∃x29,∃v25,fq (fun s=>vm x23 x4 s.1 s.2.1 s.2.2.1 s.2.2.2.1 s.2.2.2.2) m (x24,x26,x27,x28,x29)=some z4l/\At [(2,Pr.pt b2 0),(3,Pr.pt b3 0),(4,ap ag x4),(5,Pr.pt b9 0),(28,ap (Rp.list af) x1),(29,P6 (x1.length:Int)),(30,P6 x10),(39,ap af x23),(40,P6 (x23.length:Int)),(41,P6 x24)] [p1,p2,D9 b9 aq (D5.mk v25 x26 x27 x28),E6 v25 ao x29 47] e C) n4 ⟨0,x10,x13,x14,x15,v11,hN4,⟨⟨aa,aa,aa,aa,aa,aa,aa,aa,aa,aa,tv⟩,A9.refl _⟩⟩ ?_
   rintro m e C ⟨x24,x26,x27,x28,x29,v25,hN4,a⟩
   refine W_at a ?_
   obtain⟨m4,w4l,rfl,h4l,hn4,ho4⟩:=bm hN4
   replace h4l:vm x23 x4 x24 x26 x27 x28 x29=some w4l:=h4l
   unfold vm at h4l
   refine W_rs (kIn rfl rfl rfl (a7 ?_))
   refine a6 h4l rfl (fun _ h4l=>?_) (fun _ h4l=>?_)
   ·refine ay ?_
    refine bo (fun e C=>∃x45,∃x46,∃x47,∃x48,∃x37,∃v44,∃b38,za x24 x45 x46 x47 x48 x37=some w4l/\At [(2,Pr.pt b2 0),(3,Pr.pt b3 0),(4,ap ag x4),(5,Pr.pt b9 0),(28,ap (Rp.list af) x1),(29,P6 (x1.length:Int)),(30,P6 x10),(39,ap af x23),(40,P6 (x23.length:Int)),(41,P6 x24)] [D9 b9 aq (D5.mk v44 x45 x46 x47),E6 v44 ao x48 47,p1,p2,D9 b38 af x37] e C) ?_ ?_
    ·rintro e C ⟨x45,x46,x47,x48,x37,v44,b38,h4l,a⟩
     refine W_at a ?_
     unfold za at h4l
     refine W_r (kIn rfl rfl rfl (kMv rfl ?_))
     exact⟨m4,lsu,w64 (x24+1),x45,x46,x47,x48,v44,hn4 _ (ojs h4l),⟨⟨aa,aa,aa,aa,aa,aa,aa,aa,aa,aa,tv⟩,A9.of [2,3,0,1] rfl⟩⟩
    refine a5 (W_rs ?_)
    obtain⟨x37,k,h4l⟩:=ah h4l
    let p4:=B7.mk x4 x37.Text false []
    refine kUn (fo underlying53 sizeOf64 k) ?_
    refine kUn (cz ty64) ?_
    refine bw al64 fun b38=>av 4 rfl rfl (Upd.refl _) rfl sizeOf64 (W_rs (kUn (ak f4) ?_))
    refine kUn (au 4 ty3 bc) ?_
    refine kIn rfl rfl rfl ?_
    refine a6 h4l rfl (fun _ h4l=>?_) (fun _ h4l=>?_)
    ·refine W_r (kMv rfl (kMvL rfl (kUn (ak ie) ?_)))
     refine kUn (au 4 ty9 cd) ?_
     refine kUn (jm st66 ⟨(B7.mk x4 [] false []),⟨_,rfl,rfl,qbj⟩,⟨p4,⟨_,rfl,rfl,qbj⟩,rfl⟩⟩) ?_
     refine kUn (au 4 ty64 (Sub.refl _)) ?_
     rcases cr h4l with⟨m43,hm43,h4l⟩|⟨⟨x40,x41⟩,hx40,h4l⟩
     ·refine dw [2,3] (ae2 p4 x37 (B9.mk x29 x26 x27 x28) b9 v25 _ hm43) ⟨aa,aa,aa,tv⟩ (fun q C' hq=>?_) (fun v9 hv=>?_)
      ·obtain⟨_,h9,_⟩:=hq;cases h9
      obtain⟨_,h9,rfl⟩:=hv
      cases h9
      obtain rfl:=ho4 _ (ojs h4l)
      replace h2l:some (.inr (.done (.bad m43)))=some w2l:=h2l
      obtain rfl:=ho2 _ (ojs h2l)
      replace h:some (.bad m43)=some r0:=h
      obtain rfl:=osj h
      exact⟨_,_,A9.of [0,1] rfl,aa,aa,.inr ⟨_,rfl,rfl⟩⟩
     refine dw [2,3] (ae2 p4 x37 (B9.mk x29 x26 x27 x28) b9 v25 _ hx40) ⟨aa,aa,aa,tv⟩ (fun q C' hq=>?_) (fun v9 hv=>by obtain⟨_,h9,_⟩:=hv;cases h9)
     obtain⟨_,h9,v42,rfl,rfl⟩:=hq
     cases h9
     refine rCtx [D9 b9 aq (D5.mk v42 x41.file x41.method x41.many),E6 v42 ao x41.uses 47,p1,p2,D9 b38 af x37] ?_
     exact⟨x41.file,x41.method,x41.many,x41.uses,x37,v42,b38,h4l,atOk⟩
    refine ay ?_
    exact⟨x26,x27,x28,x29,x37,v25,b38,h4l,⟨⟨aa,aa,aa,aa,aa,aa,aa,aa,aa,aa,tv⟩,A9.of [2,3,0,1,4] rfl⟩⟩
   refine ej ?_
   obtain rfl:=ho4 _ (ojs h4l)
   exact⟨x26,x27,x28,x29,v25,h2l,atOk⟩
  refine ej ?_
  obtain rfl:=ho2 _ (ojs h2l)
  exact⟨x12,x13,x14,x15,v11,h,atOk⟩
 rintro e a s' env' C' he hg ⟨l0,l1,hp,h4,h5,hK⟩
 have hg:=hg.pick hp
 rcases hK with⟨rfl,rfl⟩|⟨w,rfl,rfl⟩
 ·show LeavesInM _ _ _ _ _ _ a.defers _ _
  rw[he.nod]
  refine⟨by simp,.inr ⟨by simp[Fence.wide],_,_,36, #[.pointer (some ⟨b2,0,none⟩),.pointer (some ⟨b3,0,none⟩)],rfl,by simp[invoke,qb en36],fun _ _=>trivial,(aqu b2 b3 s' hg.wf).mono ?_⟩⟩
  rintro e' u' w' ⟨⟨v,rfl⟩,rfl,F',hm⟩
  have hg2:=hg.calm (t:=⟨w',F'⟩) hm
  exact acg results13 (ojs hr0) he.at_ h4 h5 hg2.has hg2.mod
 show LeavesInM _ _ _ _ _ _ a.defers _ _
 rw[he.nod]
 refine⟨by simp,.inr ⟨by simp[Fence.wide],_,_,36, #[.pointer (some ⟨b2,0,none⟩),.pointer (some ⟨b3,0,none⟩)],rfl,by simp[invoke,qb en36],fun _ _=>trivial,(aqv b2 b3 l0 l1 w s' hg.wf hg.has).mono ?_⟩⟩
 rintro e' u' w' ⟨⟨v,rfl⟩,rfl,F',hm,hh⟩
 obtain⟨h9,_⟩:=Cn.Good.call (C':=[p1,D9 b3 az w.m]) (C0:=[D9 b2 (Rp.list ao) l0,D9 b3 az l1]) (Cr:=[]) (by simpa using hg) hm hh (fun b hb=> .inl hb)
 have h9:Cn.Good (fun _=>False) s ⟨w',F'⟩ [p1,D9 b3 az w.m]:=by simpa using h9
 exact acg results13 (ojs hr0) he.at_ h4 h5 h9.has h9.mod
section
variable {env:Env} {C:Ctx} {ty:TypeId} {pos:String} {after:Array Edge} {gd:Option (Nat × Bool)} {d:Option Nat}
theorem apf {u:TypeId} {m:D0} {x:Operand} (hx:env.op x=Pi (ld m):=by exact rfl):Q Tryz.prog C ⟨d,.binOp .neq 20 x (.const .nilIface) u,ty,pos,after,gd⟩ env (Pb true):=by
 intro s ρ hs _ h
 have h0:ρ x=ld m:=by have:=h x afv;rw[hx]at this;exact this
 have h2:ρ (.const .nilIface)= .nilIface:=h (.const .nilIface) afu
 have he:∀d:Nat,(Op.equalIn (d+1) 20 (ld m) .nilIface).run Tryz.prog s.w= .ok false s.w:=fun d=>by simp[ld,Op.equalIn,d8 underlying20]
 refine .of_run hs (v:= .bool true) ?_ rfl
 have h0':ρ x= .iface 103 (.agg #[.int .i64 m.m.Code,.int .i64 m.m.File,.int .i64 m.m.At]):=h0
 have he':=he 9999
 unfold ld at he'
 simp[execOp,h0',h2,eqGuard,binOp,Op.equal,Op.maxDepth,he']
theorem am6 {u:TypeId} {x:Operand} (hx:env.op x=Pi .nilIface:=by exact rfl):Q Tryz.prog C ⟨d,.binOp .neq 20 x (.const .nilIface) u,ty,pos,after,gd⟩ env (Pb false):=by
 intro s ρ hs _ h
 have h0:ρ x= .nilIface:=by have:=h x afv;rw[hx]at this;exact this
 have h2:ρ (.const .nilIface)= .nilIface:=h (.const .nilIface) afu
 have he:∀d:Nat,(Op.equalIn (d+1) 20 .nilIface .nilIface).run Tryz.prog s.w= .ok true s.w:=fun d=>by simp[Op.equalIn,d8 underlying20]
 refine .of_run hs (v:= .bool false) ?_ rfl
 simp[execOp,h0,h2,eqGuard,binOp,Op.equal,Op.maxDepth,he 9999]
theorem ape (m:D0) (s:St):((l6).val m).p s (.agg #[.int .i64 m.m.Code,.int .i64 m.m.File,.int .i64 m.m.At]):=
 (l6).spec.2 ⟨[.int .i64 m.m.Code,.int .i64 m.m.File,.int .i64 m.m.At],⟨_,_,rfl,⟨_,_,rfl,rfl,⟨_,_,rfl,rfl,⟨_,_,rfl,rfl,rfl⟩⟩⟩,rfl⟩,rfl⟩
theorem ap3 {xt:TypeId} {m:D0} {x:Operand} (hx:env.op x=Pi (ld m):=by exact rfl):Q Tryz.prog C ⟨d,.typeAssert x xt 103 true,ty,pos,after,gd⟩ env (br [(l6).val m,Pb true]):=by
 intro s ρ hs _ h
 have h0:ρ x= .iface 103 (.agg #[.int .i64 m.m.Code,.int .i64 m.m.File,.int .i64 m.m.At]):=by have:=h x (by simp[Op.operands]);rw[hx]at this;exact this
 refine .of_run hs (v:= .tuple #[.agg #[.int .i64 m.m.Code,.int .i64 m.m.File,.int .i64 m.m.At],.bool true]) ?_ ⟨[_,_],rfl,ape m s,rfl,tv⟩
 simp[execOp,Instr.typeAssert,h0,d8 underlying103]
end
theorem am7 (b0:Nat) (s:St) (hs:s.WF):CallsDIn Fence.wide 0 Tryz.prog 54 #[.pointer (some ⟨b0,0,none⟩)] .returning s.w (fun e u' w'=>(∃v,e= .returned v)/\u'= .returning/\∃F',A0 (fun _=>False) s ⟨w',F'⟩):=by
 refine callsDIn_of_wpSIn func54 rfl trivial (fun c₀ cs hu=>?_)
 have he:A3 ⟨17,none,[]⟩ (q6 [Pr.pt b0 0]) {tmps:= #[.pointer (some ⟨b0,0,none⟩)]++Array.replicate (Tryz.f54.ntmps - (#[.pointer (some ⟨b0,0,none⟩)]:Array Value).size) undef,defers:=[]} s:=
  ⟨fun t=>r4 (show AllP s [Pr.pt b0 0] [.pointer (some ⟨b0,0,none⟩)]from⟨rfl,tv⟩) _ t,by simp[ntmps54],rfl⟩
 refine adv (v:= .nilIface) (cs':=c₀::cs) (by simp[ntmps54]) (.inr ⟨by simp[recoverD,hu],rfl,rfl⟩) ?_
 have he2:=(he.putO (d:=some 4) (p:=Pi .nilIface) (v:= .nilIface) (fun d hd=>by cases hd;decide) rfl).putO (d:=some 1) (p:=Pi .nilIface) (v:= .nilIface) (fun d hd=>by cases hd;decide) rfl
 have hg:Cn.Good (fun _=>False) s s []:=⟨A0.refl hs,hs,⟨List.nodup_nil,fun x hx=>(by cases hx),fun b hb=>(by cases hb)⟩,fun b hb=>(by cases hb)⟩
 refine wpSIn_of_wpIn rfl ?_
 refine(?_:W2 Tryz.prog ⟨17,none,[]⟩ (fun _=>False) s _ _ [] _) _ s he2 hg
 refine akr ?_
 refine rq (out:=Pi .nilIface) gz ?_
 refine rq (out:=Pb false) am6 ?_
 refine And.intro rfl (W2_c (b:=false) rfl (fun h=>by cases h) (fun _=>aoh (fun a s' he hg=>?_)))
 exact⟨he.nod,.returning,by rw[← hu],_,ym (rs:=[]) ⟨by decide,results54⟩ _ _,⟨_,rfl⟩,rfl,s'.F,hg.mod⟩
theorem am8 (b0:Nat) (l0:B4) (m:D0) (s:St) (hs:s.WF) (hh:A5 s [D9 b0 az l0]):CallsDIn Fence.wide 0 Tryz.prog 54 #[.pointer (some ⟨b0,0,none⟩)] (.panicking (one (ld m))) s.w
  (fun e u' w'=>(∃v,e= .returned v)/\u'= .panicking [{v:=ld m,recovered:=true}]/\∃F',A0 (fun b=>b∈cf [D9 b0 az l0]) s ⟨w',F'⟩/\A5 ⟨w',F'⟩ [D9 b0 az m.m]):=by
 refine callsDIn_of_wpSIn func54 rfl trivial (fun c₀ cs hu=>?_)
 have he:A3 ⟨17,none,[]⟩ (q6 [Pr.pt b0 0]) {tmps:= #[.pointer (some ⟨b0,0,none⟩)]++Array.replicate (Tryz.f54.ntmps - (#[.pointer (some ⟨b0,0,none⟩)]:Array Value).size) undef,defers:=[]} s:=
  ⟨fun t=>r4 (show AllP s [Pr.pt b0 0] [.pointer (some ⟨b0,0,none⟩)]from⟨rfl,tv⟩) _ t,by simp[ntmps54],rfl⟩
 refine adv (v:=ld m) (cs':={c₀ with mode:= .panicking [{v:=ld m,recovered:=true}]}::cs) (by simp[ntmps54]) (.inl (by simp[recoverD,hu])) ?_
 have he2:=(he.putO (d:=some 4) (p:=Pi (ld m)) (v:=ld m) (fun d hd=>by cases hd;decide) rfl).putO (d:=some 1) (p:=Pi (ld m)) (v:=ld m) (fun d hd=>by cases hd;decide) rfl
 have hg:Cn.Good (fun b=>b∈cf [D9 b0 az l0]) s s [D9 b0 az l0]:=⟨A0.refl hs,hs,hh,fun b hb=> .inr hb⟩
 refine wpSIn_of_wpIn rfl ?_
 refine(?_:W2 Tryz.prog ⟨17,none,[]⟩ (fun b=>b∈cf [D9 b0 az l0]) s _ _ [D9 b0 az l0] _) _ s he2 hg
 refine akr ?_
 refine rq (out:=Pi (ld m)) gz ?_
 refine rq (out:=Pb true) apf ?_
 refine And.intro rfl (W2_c (b:=true) rfl (fun _=>?_) (fun h=>by cases h))
 refine asi (K:=fun e _ C=>e= .normal/\A9 C [D9 b0 az m.m]) ?_ ?_ (.inr (fun e _ _ h=>by rw[h.1];simp))
 ·refine W_rs ?_
  refine rq (out:=Pi (ld m)) gz ?_
  refine rq (out:=br [(l6).val m,Pb true]) ap3 ?_
  refine rq (out:=br [(l6).val m,Pb true]) gz ?_
  refine rq (out:=(l6).val m) ar ?_
  refine rq (out:=Pb true) ar ?_
  refine ae7 (R:=l6) (z:=(D0.mk (B4.mk 0 0 0))) zeroValue103 (fun _=>⟨_,⟨_,_,rfl,⟨_,_,rfl,rfl,⟨_,_,rfl,rfl,⟨_,_,rfl,rfl,rfl⟩⟩⟩,rfl⟩,rfl⟩) (fun b=>?_)
  refine yv (R:=l6) (R':=l6) (a:=(D0.mk (B4.mk 0 0 0))) (y:=m) 1 sizeOf103 (Upd.refl _) ?_
  refine rq (out:=Pb true) gb ?_
  refine a7 ?_
  refine W_rs ?_
  refine rq (out:=Pb true) gz ?_
  refine rq (out:=Pb (!true)) qNot ?_
  refine akv (b:= !true) rfl (fun h=>by cases h) (fun _=>?_)
  refine ay ?_
  refine W_r ?_
  refine rq (out:=Pr.pt b 0) (ak a11) ?_
  refine rq (out:=(az).val m.m) (au (R:=l6) (a:=m) (R':=az) 1 ty30 apg) ?_
  refine yv (R:=az) (R':=az) (a:=l0) (y:=m.m) 0 sizeOf30 (Upd.refl _) ?_
  exact⟨rfl,A9.of [0] rfl⟩
 ·rintro e a s' env' C' he hg ⟨rfl,hp⟩
  have hg:=hg.pick hp
  exact⟨he.nod,_,rfl,_,ym (rs:=[]) ⟨by decide,results54⟩ _ _,⟨_,rfl⟩,rfl,s'.F,hg.mod,hg.has⟩
theorem ade {fn:Func} (hres:fn.results=[ResultVar.cell 2 30].toArray) {r:B4} {s0 s:St} {env:Env} {a:Act} {b0:Nat} {l0:B4} {w:World} {F':Nat->Prop} (hr:r=l0) (he:∀t,(env t).p s (a.tmps.getD t undef)) (h0:(env 2).le (Pr.pt b0 0))
  (hh:A5 ⟨w,F'⟩ [D9 b0 az l0]) (hm:A0 (fun _=>False) s0 ⟨w,F'⟩):∃v,(results fn a.tmps).run Tryz.prog w= .ok v w/\∃v' F',Ending.returned v= .returned v'/\Cn.Calm s0 ⟨w,F'⟩/\((az).val r).p ⟨w,F'⟩ v':=by
 have hr2:=hr.symm;subst hr2
 have he':∀t,((fun t=>if t=2 then Pr.pt b0 0 else Pr.any:Env) t).p ⟨w,F'⟩ (a.tmps.getD t undef):=by
  intro t
  by_cases hh0:t=2
  ·subst hh0;have h6:=h0 _ _ (he _);exact h6
  ·simp only[hh0,if_false];trivial
 obtain⟨us,h7,h8⟩:=aau (P:=Tryz.prog) (rs:=[.cell 2 30]) (ps:=[(az).val l0]) (a:=a) he' hh ⟨yBox 0 ty30 aa,tv⟩
 exact⟨_,aco hres h7,_,F',rfl,hm,an8 h8⟩
theorem w5 (x1:List (List B6)) (r:B4) (h:vd x1=some r):Fp 26 [ap (Rp.list af) x1] ((az).val r):=by
  obtain⟨r0,h,hr0⟩:=ah h
  refine auh (n:=61) func26 rfl ntmps26 dcd (fun s=>?_)
  unfold ais at h
  refine akr ?_
  refine bw al30 fun b2=>?_
  let p1:=D9 b2 az (B4.mk 0 0 0)
  refine And.intro rfl ?_
  refine W2_ss ?_
  refine akr ?_
  refine kMvL rfl ?_
  obtain⟨⟨x3,x4⟩,k,h⟩:=ah h
  refine kUn (dz (au5 x1 _ k)) ?_
  refine kUn (hMv (out:=br [ap ao x3,(az).val x4]) rfl) (kUn ar ?_)
  refine kUn ar ?_
  refine bw al30 fun b5=>kAsL rfl (av 1 rfl rfl (Upd.refl _) rfl sizeOf30 ?_)
  let p2:=D9 b5 az x4
  refine And.intro rfl ?_
  refine akr ?_
  refine kUn (ak ahj) ?_
  refine kUn (au 1 ty28 je) ?_
  refine kIn rfl rfl rfl ?_
  refine And.intro rfl ?_
  refine W2_c (b:=x4.Code != 0) rfl (fun hc6=>?_) (fun hc6=>?_)
  · replace h:=iteT hc6 h
    refine akr ?_
    refine kUn (au 1 ty30 (Sub.refl _)) ?_
    refine av 0 rfl rfl (Upd.refl _) rfl sizeOf30 ?_
    refine And.intro rfl ?_
    obtain rfl:=osj h
    refine ayt (fun a s' he hg=>?_)
    have hg:=hg.pick (A9.of [0] rfl)
    show LeavesInM _ _ _ _ _ _ a.defers _ _
    rw[he.nod]
    exact ade results26 (ojs hr0) he.at_ aa hg.has hg.mod
  replace h:=iteF hc6 h
  refine aoh (fun a s' he hg=>?_)
  refine(?_:W2 Tryz.prog ⟨61,none,[]⟩ (fun _=>False) s _ _ _ _) a s' he hg
  clear he hg a s'
  refine akr ?_
  refine kMvL rfl ?_
  obtain⟨⟨x7,x8⟩,k,h⟩:=ah h
  refine kUn (dz (aj6 x1 _ k)) ?_
  refine kUn (hMv (out:=br [ap ag x7,(az).val x8]) rfl) (kUn ar ?_)
  refine kUn ar ?_
  refine bw al30 fun b9=>kAsL rfl (av 2 rfl rfl (Upd.refl _) rfl sizeOf30 ?_)
  let p3:=D9 b9 az x8
  refine And.intro rfl ?_
  refine a0r (b1:=b2) dcd rfl ?_
  refine asi (K:=fun e env C=>∃l0,A9 C [D9 b2 az l0]/\(env 2).le (Pr.pt b2 0)/\((e= .ret/\r0= .ok l0)\/∃w,e= .panic (one (ld w))/\r0= .bad w)) ?_ ?_ (.inl sm)
  · refine a7 (W_rs (kMvL rfl (kUn (mg rfl underlying24) ?_)))
    refine kMv rfl (a5 ?_)
    obtain⟨z2l,hz2,h⟩:=ah h
    obtain⟨n2,hN2⟩:=bv hz2
    refine di 0 (fun e C=>abf=some r0/\At [(2,Pr.pt b2 0)] [p1,p2,p3] e C) ?_ ?_
    · rintro e C ⟨h,a⟩
      refine W_at a ?_
      unfold abf at h
      refine W_rs (kUn (jm st30 rfl) ?_)
      refine av 0 rfl rfl (Upd.refl _) rfl sizeOf30 ?_
      obtain rfl:=osj h
      exact bg ⟨_,A9.of [0] rfl,aa,.inl ⟨rfl,rfl⟩⟩
    refine ek (fun m e C=>∃x10,fq (fun s=>q9 x1 x7 s) m x10=some z2l/\At [(2,Pr.pt b2 0),(5,ap ag x7),(28,ap (Rp.list af) x1),(29,P6 (x1.length:Int)),(30,P6 x10)] [p1,p2,p3] e C) n2 ⟨0,hN2,⟨⟨aa,aa,aa,aa,aa,tv⟩,A9.refl _⟩⟩ ?_
    rintro m e C ⟨x10,hN2,a⟩
    refine W_at a ?_
    obtain⟨m2,w2l,rfl,h2l,hn2,ho2⟩:=bm hN2
    replace h2l:q9 x1 x7 x10=some w2l:=h2l
    unfold q9 at h2l
    refine W_rs (kIn rfl rfl rfl (a7 ?_))
    refine a6 h2l rfl (fun _ h2l=>?_) (fun _ h2l=>?_)
    · refine ay (a7 (a5 (W_rs (kMv rfl ?_))))
      obtain⟨x13,k,h2l⟩:=ah h2l
      refine kUn (fo underlying24 sizeOf53 k) ?_
      refine kUn (cz ty53) ?_
      refine kAs rfl (kAsL rfl (W_rs (kMvL rfl (kUn (mg rfl underlying53) ?_))))
      refine kMv rfl (a5 ?_)
      obtain⟨z4l,hz4,h2l⟩:=ah h2l
      obtain⟨n4,hN4⟩:=bv hz4
      refine di 2 (fun e C=>abe x10=some w2l/\At [(2,Pr.pt b2 0),(5,ap ag x7),(28,ap (Rp.list af) x1),(29,P6 (x1.length:Int)),(30,P6 x10)] [p1,p2,p3] e C) ?_ ?_
      · rintro e C ⟨h2l,a⟩
        refine W_at a ?_
        unfold abe at h2l
        refine W_r (kIn rfl rfl rfl (kMv rfl ?_))
        exact⟨m2,lsu,w64 (x10+1),hn2 _ (ojs h2l),atOk⟩
      refine ek (fun m e C=>∃x14,fq (fun s=>q8 x13 x7 x10 s) m x14=some z4l/\At [(2,Pr.pt b2 0),(5,ap ag x7),(7,P6 x10),(28,ap (Rp.list af) x1),(29,P6 (x1.length:Int)),(30,P6 x10),(35,ap af x13),(36,P6 (x13.length:Int)),(37,P6 x14)] [p1,p2,p3] e C) n4 ⟨0,hN4,⟨⟨aa,aa,aa,aa,aa,aa,aa,aa,aa,tv⟩,A9.refl _⟩⟩ ?_
      rintro m e C ⟨x14,hN4,a⟩
      refine W_at a ?_
      obtain⟨m4,w4l,rfl,h4l,hn4,ho4⟩:=bm hN4
      replace h4l:q8 x13 x7 x10 x14=some w4l:=h4l
      unfold q8 at h4l
      refine W_rs (kIn rfl rfl rfl (a7 ?_))
      refine a6 h4l rfl (fun _ h4l=>?_) (fun _ h4l=>?_)
      · refine ay (a7 (a5 (W_rs ?_)))
        obtain⟨x17,k,h4l⟩:=ah h4l
        refine kUn (fo underlying53 sizeOf64 k) ?_
        refine kUn (cz ty64) ?_
        refine bw al64 fun b18=>av 3 rfl rfl (Upd.refl _) rfl sizeOf64 (W_rs (kUn (ak ic) ?_))
        let p4:=D9 b18 af x17
        refine kUn (au 3 ty53 bt) ?_
        refine kUn (mg rfl underlying53) ?_
        refine kMv rfl (a5 ?_)
        obtain⟨z6l,hz6,h4l⟩:=ah h4l
        obtain⟨n6,hN6⟩:=bv hz6
        refine di 4 (fun e C=>abd x14=some w4l/\At [(2,Pr.pt b2 0),(5,ap ag x7),(7,P6 x10),(28,ap (Rp.list af) x1),(29,P6 (x1.length:Int)),(30,P6 x10),(35,ap af x13),(36,P6 (x13.length:Int)),(37,P6 x14)] [p1,p2,p3,p4] e C) ?_ ?_
        · rintro e C ⟨h4l,a⟩
          refine W_at a ?_
          unfold abd at h4l
          refine W_r (kIn rfl rfl rfl (kMv rfl ?_))
          exact⟨m4,lsu,w64 (x14+1),hn4 _ (ojs h4l),⟨⟨aa,aa,aa,aa,aa,aa,aa,aa,aa,tv⟩,A9.of [0,1,2] rfl⟩⟩
        refine ek (fun m e C=>∃x19,fq (fun s=>q7 x17 x7 x10 s) m x19=some z6l/\At [(2,Pr.pt b2 0),(5,ap ag x7),(7,P6 x10),(10,Pr.pt b18 0),(28,ap (Rp.list af) x1),(29,P6 (x1.length:Int)),(30,P6 x10),(35,ap af x13),(36,P6 (x13.length:Int)),(37,P6 x14),(42,ap af x17.Kids),(43,P6 (x17.Kids.length:Int)),(44,P6 x19)] [p1,p2,p3,p4] e C) n6 ⟨0,hN6,⟨⟨aa,aa,aa,aa,aa,aa,aa,aa,aa,aa,aa,aa,aa,tv⟩,A9.refl _⟩⟩ ?_
        rintro m e C ⟨x19,hN6,a⟩
        refine W_at a ?_
        obtain⟨m6,w6l,rfl,h6l,hn6,ho6⟩:=bm hN6
        replace h6l:q7 x17 x7 x10 x19=some w6l:=h6l
        unfold q7 at h6l
        refine W_rs (kIn rfl rfl rfl (a7 ?_))
        refine a6 h6l rfl (fun _ h6l=>?_) (fun _ h6l=>?_)
        · refine ay ?_
          refine bo (fun e C=>∃x22,∃b23,w6 x19 x22=some w6l/\At [(2,Pr.pt b2 0),(5,ap ag x7),(7,P6 x10),(10,Pr.pt b18 0),(28,ap (Rp.list af) x1),(29,P6 (x1.length:Int)),(30,P6 x10),(35,ap af x13),(36,P6 (x13.length:Int)),(37,P6 x14),(42,ap af x17.Kids),(43,P6 (x17.Kids.length:Int)),(44,P6 x19)] [p1,p2,p3,p4,D9 b23 af x22] e C) ?_ ?_
          · rintro e C ⟨x22,b23,h6l,a⟩
            refine W_at a ?_
            unfold w6 at h6l
            refine W_r (kIn rfl rfl rfl (kMv rfl ?_))
            exact⟨m6,lsu,w64 (x19+1),hn6 _ (ojs h6l),⟨⟨aa,aa,aa,aa,aa,aa,aa,aa,aa,aa,aa,aa,aa,tv⟩,A9.of [0,1,2,3] rfl⟩⟩
          refine a5 (W_rs ?_)
          obtain⟨x22,k,h6l⟩:=ah h6l
          refine kUn (fo underlying53 sizeOf64 k) ?_
          refine kUn (cz ty64) ?_
          refine bw al64 fun b23=>av 4 rfl rfl (Upd.refl _) rfl sizeOf64 (W_rs (kUn (ak f4) ?_))
          refine kUn (au 4 ty3 bc) ?_
          refine kIn rfl rfl rfl ?_
          refine a6 h6l rfl (fun _ h6l=>?_) (fun _ h6l=>?_)
          · refine W_r (kMvL rfl (kUn (ak ie) ?_))
            refine kUn (au 3 ty9 cd) ?_
            refine kMv rfl (kUn (au 4 ty64 (Sub.refl _)) ?_)
            rcases cr h6l with⟨m26,hm26,h6l⟩|⟨_,hx25,h6l⟩
            · refine dw [] (ai7 x7 x17.Text x10 x22 _ hm26) ⟨aa,aa,aa,aa,tv⟩ (fun q C' hq=>?_) (fun v9 hv=>?_)
              · obtain⟨_,h9,_⟩:=hq;cases h9
              obtain⟨_,h9,rfl⟩:=hv
              cases h9
              obtain rfl:=ho6 _ (ojs h6l)
              replace h4l:some (.inr (.done (.inr (.done (.bad m26)))))=some w4l:=h4l
              obtain rfl:=ho4 _ (ojs h4l)
              replace h2l:some (.inr (.done (.bad m26)))=some w2l:=h2l
              obtain rfl:=ho2 _ (ojs h2l)
              replace h:some (.bad m26)=some r0:=h
              obtain rfl:=osj h
              exact⟨_,A9.of [0] rfl,aa,.inr ⟨_,rfl,rfl⟩⟩
            refine dw [] (ai7 x7 x17.Text x10 x22 _ hx25) ⟨aa,aa,aa,aa,tv⟩ (fun q C' hq=>?_) (fun v9 hv=>by obtain⟨_,h9,_⟩:=hv;cases h9)
            obtain⟨_,h9,rfl,rfl⟩:=hq
            cases h9
            refine rCtx [p1,p2,p3,p4,D9 b23 af x22] ?_
            exact⟨x22,b23,h6l,atOk⟩
          refine ay ?_
          exact⟨x22,b23,h6l,atOk⟩
        refine ej ?_
        obtain rfl:=ho6 _ (ojs h6l)
        exact⟨h4l,atOk⟩
      refine ej ?_
      obtain rfl:=ho4 _ (ojs h4l)
      exact⟨h2l,atOk⟩
    refine ej ?_
    obtain rfl:=ho2 _ (ojs h2l)
    exact⟨h,atOk⟩
  rintro e a s' env' C' he hg ⟨l0,hp,h4,hK⟩
  have hg:=hg.pick hp
  rcases hK with⟨rfl,rfl⟩|⟨w,rfl,rfl⟩
  · show LeavesInM _ _ _ _ _ _ a.defers _ _
    rw[he.nod]
    refine⟨by simp,.inr ⟨by simp[Fence.wide],_,_,54, #[.pointer (some ⟨b2,0,none⟩)],rfl,by simp[invoke,qb en54],fun _ _=>trivial,(am7 b2 s' hg.wf).mono ?_⟩⟩
    rintro e' u' w' ⟨⟨v,rfl⟩,rfl,F',hm⟩
    have hg2:=hg.calm (t:=⟨w',F'⟩) hm
    exact ade results26 (ojs hr0) he.at_ h4 hg2.has hg2.mod
  show LeavesInM _ _ _ _ _ _ a.defers _ _
  rw[he.nod]
  refine⟨by simp,.inr ⟨by simp[Fence.wide],_,_,54, #[.pointer (some ⟨b2,0,none⟩)],rfl,by simp[invoke,qb en54],fun _ _=>trivial,(am8 b2 l0 w s' hg.wf hg.has).mono ?_⟩⟩
  rintro e' u' w' ⟨⟨v,rfl⟩,rfl,F',hm,hh⟩
  obtain⟨h9,_⟩:=Cn.Good.call (C':=[D9 b2 az w.m]) (C0:=[D9 b2 az l0]) (Cr:=[]) (by simpa using hg) hm hh (fun b hb=> .inl hb)
  have h9:Cn.Good (fun _=>False) s ⟨w',F'⟩ [D9 b2 az w.m]:=by simpa using h9
  exact ade results26 (ojs hr0) he.at_ h4 h9.has h9.mod
end Go.Proofs.YtcndghapmoaidaaGreatDoor
set_option linter.unusedSectionVars false
set_option maxRecDepth 100000
set_option maxHeartbeats 4000000
namespace Go.Proofs.YtcndghapmoaidaaGreatDoor
open Go Go.Cn Tryz
attribute [local irreducible] g0 ap
theorem aqo (r:Bool) (h:aho=some r):Fp 24 [] (Pb r):=by
 refine dv (rs:=[0]) func24 rfl ntmps24 ⟨by decide,results24⟩ dcd (fun s0=>?_)
 unfold aho at h
 refine W_rs (kAs rfl (W_rs ?_))
 obtain⟨⟨x1,x2⟩,k,h⟩:=ah h
 refine kUn (dz (aht ([99,108,97,115,115,32,65,123,105,110,116,32,109,40,41,123,114,101,116,117,114,110,32,116,114,117,101,59,125,125]:Bt) _ k)) ?_
 refine kUn (hMv (out:=br [ap af x1,(az).val x2]) rfl) (kUn ar ?_)
 refine kUn ar ?_
 refine bw al30 fun b3=>kAsL rfl (av 0 rfl rfl (Upd.refl _) rfl sizeOf30 (W_rs ?_))
 obtain⟨⟨x4,x5⟩,k,h⟩:=ah h
 refine kUn (dz (aht ([99,108,97,115,115,32,65,123,105,110,116,32,109,40,41,123,114,101,116,117,114,110,32,49,59,125,125]:Bt) _ k)) ?_
 refine kUn (hMv (out:=br [ap af x4,(az).val x5]) rfl) (kUn ar ?_)
 refine kUn ar ?_
 refine bw al30 fun b6=>kAsL rfl (av 1 rfl rfl (Upd.refl _) rfl sizeOf30 (W_rs (kMvL rfl (kUn (cq (R:=Rp.list af) (a:=x1) el24 nb) ?_))))
 refine c8 h (w5 ([x1]:List (List B6))) rfl fun x7 _ h=>?_
 refine bw al30 fun b8=>av 2 rfl rfl (Upd.refl _) rfl sizeOf30 (W_rs (kMvL rfl (kUn (cq (R:=Rp.list af) (a:=x1) el24 nb) ?_)))
 obtain⟨⟨x9,x10⟩,k,h⟩:=ah h
 refine kUn (dz (aqc ([x1]:List (List B6)) _ k)) ?_
 refine kUn (hMv (out:=br [ap ag x9,(az).val x10]) rfl) (kUn ar ?_)
 refine kUn ar ?_
 refine bw al30 fun b11=>kAsL rfl (av 3 rfl rfl (Upd.refl _) rfl sizeOf30 ?_)
 refine bo (fun e C=>∃x73,ou x73=some r/\At [(0,Pb x73)] [D9 b3 az x2,D9 b6 az x5,D9 b8 az x7,D9 b11 az x10] e C) ?_ ?_
 ·rintro e C ⟨x73,h,a⟩
  refine W_at a ?_
  unfold ou at h
  obtain rfl:=osj h
  exact bg ⟨rfl,aa⟩
 refine W_r (kUn (ak ahj) ?_)
 refine kUn (au 2 ty28 je) ?_
 refine kIn rfl rfl rfl (kMv rfl ?_)
 rcases cc h with⟨hc12,h⟩|⟨hc12,h⟩
 ·refine kGd rfl aa hc12 (ak fld30_2) ?_
  refine kGd rfl aa hc12 (au 2 ty3 am9) ?_
  refine kGd rfl aa hc12 (qInt rfl rfl rfl) (kPt rfl hc12 rfl (kMv rfl ?_))
  rcases cc h with⟨hc13,h⟩|⟨hc13,h⟩
  ·refine kGd rfl aa hc13 (hMvL rfl) (kGd rfl aa hc13 (cq (R:=Rp.list af) (a:=x4) el24 nb) ?_)
   obtain⟨x14,k,h⟩:=ah h
   refine kGd rfl aa hc13 (dz (w5 ([x4]:List (List B6)) _ k)) ?_
   refine kGd rfl aa hc13 (awh rfl ahj je nb) ?_
   refine kGd rfl aa hc13 (qInt rfl rfl rfl) (kPt rfl hc13 rfl (kMv rfl ?_))
   rcases cc h with⟨hc15,h⟩|⟨hc15,h⟩
   ·refine kGd rfl aa hc15 (hMvL rfl) ?_
    obtain⟨x16,k,h⟩:=ah h
    refine kGd rfl aa hc15 (dz (y4 x9 ([110,117,108,108]:Bt) ([65]:Bt) _ k)) ?_
    refine kPt rfl hc15 rfl (kMv rfl ?_)
    rcases cc h with⟨hc17,h⟩|⟨hc17,h⟩
    ·refine kGd rfl aa hc17 (hMvL rfl) ?_
     obtain⟨x18,k,h⟩:=ah h
     refine kGd rfl aa hc17 (dz (y4 x9 ([105,110,116]:Bt) ([65]:Bt) _ k)) ?_
     refine kGd rfl aa hc17 (qNot rfl) (kPt rfl hc17 rfl (kMv rfl ?_))
     rcases cc h with⟨hc19,h⟩|⟨hc19,h⟩
     ·refine kGd rfl aa hc19 (hMvL rfl) ?_
      obtain⟨x20,k,h⟩:=ah h
      refine kGd rfl aa hc19 (dz (aha x9 ([60]:Bt) ([105,110,116]:Bt) ([105,110,116]:Bt) _ k)) ?_
      refine kGd rfl aa hc19 (qStr rfl rfl rfl) (kPt rfl hc19 rfl (kAs rfl ?_))
      exact⟨x20==([98,111,111,108,101,97,110]:Bt),h,atOk⟩
     refine skx ?_
     refine kPf rfl hc19 rfl (kAs rfl ?_)
     exact⟨false,h,atOk⟩
    refine skx ?_
    refine kPf rfl hc17 rfl (kMv rfl ?_)
    have hc21:false=false:=rfl
    refine skx ?_
    refine kPf rfl hc21 rfl (kAs rfl ?_)
    exact⟨false,h,atOk⟩
   refine skx ?_
   refine kPf rfl hc15 rfl (kMv rfl ?_)
   have hc23:false=false:=rfl
   refine skx ?_
   refine kPf rfl hc23 rfl (kMv rfl ?_)
   have hc27:false=false:=rfl
   refine skx ?_
   refine kPf rfl hc27 rfl (kAs rfl ?_)
   exact⟨false,h,atOk⟩
  refine skx ?_
  refine kPf rfl hc13 rfl (kMv rfl ?_)
  have hc29:false=false:=rfl
  refine skx ?_
  refine kPf rfl hc29 rfl (kMv rfl ?_)
  have hc37:false=false:=rfl
  refine skx ?_
  refine kPf rfl hc37 rfl (kMv rfl ?_)
  have hc41:false=false:=rfl
  refine skx ?_
  refine kPf rfl hc41 rfl (kAs rfl ?_)
  exact⟨false,h,atOk⟩
 refine skx ?_
 refine kPf rfl hc12 rfl (kMv rfl ?_)
 have hc43:false=false:=rfl
 refine skx ?_
 refine kPf rfl hc43 rfl (kMv rfl ?_)
 have hc59:false=false:=rfl
 refine skx ?_
 refine kPf rfl hc59 rfl (kMv rfl ?_)
 have hc67:false=false:=rfl
 refine skx ?_
 refine kPf rfl hc67 rfl (kMv rfl ?_)
 have hc71:false=false:=rfl
 refine skx ?_
 refine kPf rfl hc71 rfl (kAs rfl ?_)
 exact⟨false,h,atOk⟩
end Go.Proofs.YtcndghapmoaidaaGreatDoor
set_option linter.unusedSectionVars false
set_option maxRecDepth 100000
set_option maxHeartbeats 4000000
namespace Go.Proofs.YtcndghapmoaidaaGreatDoor
open Go Go.Cn Tryz
attribute [local irreducible] g0 ap
end Go.Proofs.YtcndghapmoaidaaGreatDoor
set_option linter.unusedSectionVars false
set_option maxRecDepth 100000
set_option maxHeartbeats 4000000
namespace Go.Proofs.YtcndghapmoaidaaGreatDoor
open Go Go.Cn Tryz
attribute [local irreducible] g0 ap
theorem akp (x1:List Bt) (r:Bool) (h:yi x1=some r):Fp 10 [ap Rp.str x1] (Pb r):=by
 refine dv (rs:=[2]) func10 rfl ntmps10 ⟨by decide,results10⟩ dcd (fun s0=>?_)
 unfold yi at h
 refine W_rs (kAs rfl (W_rs (c8 h (aqo) rfl fun x2 _ h=>kAs rfl (a7 (W_rs (kMv rfl (kNo rfl ?_)))))))
 refine a6 h rfl (fun _ h=>?_) (fun _ h=>?_)
 ·refine W_rs (kAs rfl ?_)
  obtain rfl:=osj h
  exact bg ⟨rfl,aa⟩
 refine ay (W_rs (kMvL rfl ?_))
 obtain⟨⟨x4,x5⟩,k,h⟩:=ah h
 refine kUn (dz (apv x1 _ k)) ?_
 refine kUn (hMv (out:=br [ap (Rp.list af) x4,Pb x5]) rfl) (kUn ar ?_)
 refine kUn ar ?_
 refine kAsL rfl (kAs rfl (a7 (W_rs (kMv rfl (kNo rfl ?_)))))
 refine a6 h rfl (fun _ h=>?_) (fun _ h=>?_)
 ·refine W_rs (kAs rfl ?_)
  obtain rfl:=osj h
  exact bg ⟨rfl,aa⟩
 refine ay (W_rs (kAs rfl (W_rs (kAs rfl (a7 (W_rs (kMvL rfl (kUn (mg rfl underlying24) ?_))))))))
 refine kIn rfl rfl rfl (kAs rfl (a5 ?_))
 obtain⟨z3l,hz3,h⟩:=ah h
 obtain⟨n3,hN3⟩:=bv hz3
 refine di 0 (fun e C=>∃x10,∃x11,∃v7,∃v8,tf x4 x10 x11=some r/\At [(4,ap (Rp.list af) x4),(6,Pi v7),(7,Pi v8)] [E6 v7 (Rp.list af) x10 53,E6 v8 af x11 64] e C) ?_ ?_
 ·rintro e C ⟨x10,x11,v7,v8,h,a⟩
  refine W_at a ?_
  unfold tf at h
  refine W_rs (kMvL rfl (c8 h (w5 x4) rfl fun x33 _ h=>?_))
  refine kUn (awh rfl ahj je nb) ?_
  refine kIn rfl rfl rfl (kAs rfl (W_rs (kMv rfl ?_)))
  obtain⟨x34,k,h⟩:=ah h
  refine rRel 0 [6,61] ?_ rfl ⟨rfl,rfl,tv⟩
  refine kUn (dz (w5 x10 _ k)) ?_
  refine kUn (awh rfl ahj je nb) ?_
  refine kIn rfl rfl rfl (kAs rfl (W_rs (kMv rfl ?_)))
  refine rRel 0 [7,65] ?_ rfl ⟨rfl,rfl,tv⟩
  refine kUn (cq (R:=Rp.list af) (a:=x11) el24 nb) ?_
  refine c8 h (w5 ([x11]:List (List B6))) rfl fun x35 _ h=>?_
  refine kUn (awh rfl ahj je nb) ?_
  refine kIn rfl rfl rfl (kAs rfl ?_)
  refine bo (fun e C=>∃x37,pf x37=some r/\At [(2,Pb x37)] [] e C) ?_ ?_
  ·rintro e C ⟨x37,h,a⟩
   refine W_at a ?_
   unfold pf at h
   obtain rfl:=osj h
   exact bg ⟨rfl,aa⟩
  refine W_r (kMv rfl (kMv rfl (kUn (avk underlying4) ?_)))
  refine kMv rfl ?_
  rcases cc h with⟨hc36,h⟩|⟨hc36,h⟩
  ·refine kGd rfl aa hc36 (hMvA rfl) (kGd rfl aa hc36 (hMvA rfl) (kGd rfl aa hc36 (avk underlying4) ?_))
   refine kPt rfl hc36 rfl (kAs rfl ?_)
   exact⟨(x34.Code==0)==(x35.Code==0),h,atOk⟩
  refine skx ?_
  refine kPf rfl hc36 rfl (kAs rfl ?_)
  exact⟨false,h,atOk⟩
 refine ah6 [6] (Rp.list af) 53 (fun v38=>?_) ⟨rfl,tv⟩
 refine ah6 [7] af 64 (fun v39=>?_) ⟨rfl,tv⟩
 refine ek (fun m e C=>∃x9,∃x10,∃x11,∃v7,∃v8,fq (fun s=>jt x4 s.1 s.2.1 s.2.2) m (x9,x10,x11)=some z3l/\At [(4,ap (Rp.list af) x4),(6,Pi v7),(7,Pi v8),(8,P6 x9)] [E6 v7 (Rp.list af) x10 53,E6 v8 af x11 64] e C) n3 ⟨w64 ((x4.length:Int) - 1),[],[],v38,v39,hN3,⟨⟨aa,aa,aa,aa,tv⟩,A9.refl _⟩⟩ ?_
 rintro m e C ⟨x9,x10,x11,v7,v8,hN3,a⟩
 refine W_at a ?_
 obtain⟨m3,w3l,rfl,h3l,hn3,ho3⟩:=bm hN3
 replace h3l:jt x4 x9 x10 x11=some w3l:=h3l
 unfold jt at h3l
 refine a7 (W_rs (kMv rfl (kIn rfl rfl rfl ?_)))
 refine a6 h3l rfl (fun _ h3l=>?_) (fun _ h3l=>?_)
 ·refine ay (a7 (a5 (W_rs (kMv rfl (kMvL rfl (kMv rfl ?_))))))
  obtain⟨x18,k,h3l⟩:=ah h3l
  refine kUn (fo underlying24 sizeOf53 k) ?_
  refine kUn (cz ty53) ?_
  refine kUn (cq (R:=Rp.list af) (a:=x18) el24 nb) ?_
  obtain⟨x19,k,h3l⟩:=ah h3l
  refine ik 0 el24 k (fun v20=>?_)
  refine kAs rfl (W_rs (kMvL rfl (kMv rfl ?_)))
  obtain⟨x21,k,h3l⟩:=ah h3l
  refine kUn (fo underlying24 sizeOf53 k) ?_
  refine kUn (cz ty53) ?_
  refine kUn (mg rfl underlying53) ?_
  refine kIn rfl rfl rfl (kAs rfl (a5 ?_))
  obtain⟨z5l,hz5,h3l⟩:=ah h3l
  obtain⟨n5,hN5⟩:=bv hz5
  refine di 2 (fun e C=>∃x24,∃v22,te x9 x19 x24=some w3l/\At [(4,ap (Rp.list af) x4),(6,Pi v20),(7,Pi v22),(8,P6 x9)] [E6 v20 (Rp.list af) x19 53,E6 v22 af x24 64] e C) ?_ ?_
  ·rintro e C ⟨x24,v22,h3l,a⟩
   refine W_at a ?_
   unfold te at h3l
   refine W_r (kMv rfl (kIn rfl rfl rfl (kAs rfl ?_)))
   exact⟨m3,lsu,w64 (x9 - 1),x19,x24,v20,v22,hn3 _ (ojs h3l),atOk⟩
  refine ek (fun m e C=>∃x23,∃x24,∃v22,fq (fun s=>js x4 x9 s.1 s.2) m (x23,x24)=some z5l/\At [(4,ap (Rp.list af) x4),(6,Pi v20),(7,Pi v22),(8,P6 x9),(9,P6 x23)] [E6 v20 (Rp.list af) x19 53,E6 v22 af x24 64] e C) n5 ⟨w64 ((x21.length:Int) - 1),x11,v8,hN5,⟨⟨aa,aa,aa,aa,aa,tv⟩,A9.refl _⟩⟩ ?_
  rintro m e C ⟨x23,x24,v22,hN5,a⟩
  refine W_at a ?_
  obtain⟨m5,w5l,rfl,h5l,hn5,ho5⟩:=bm hN5
  replace h5l:js x4 x9 x23 x24=some w5l:=h5l
  unfold js at h5l
  refine a7 (W_rs (kMv rfl (kIn rfl rfl rfl ?_)))
  refine a6 h5l rfl (fun _ h5l=>?_) (fun _ h5l=>?_)
  ·refine ay (a7 (a5 (W_r (kMv rfl (kMvL rfl (kMv rfl ?_))))))
   obtain⟨x29,k,h5l⟩:=ah h5l
   refine kUn (fo underlying24 sizeOf53 k) ?_
   refine kUn (cz ty53) ?_
   refine kMv rfl ?_
   obtain⟨x30,k,h5l⟩:=ah h5l
   refine kUn (fo underlying53 sizeOf64 k) ?_
   refine kUn (cz ty64) ?_
   refine kUn (cq (R:=af) (a:=x30) el53 nb) ?_
   obtain⟨x31,k,h5l⟩:=ah h5l
   refine ik 1 el53 k (fun v32=>?_)
   refine kAs rfl (W_r (kMv rfl (kIn rfl rfl rfl (kAs rfl ?_))))
   exact⟨m5,lsu,w64 (x23 - 1),x31,v32,hn5 _ (ojs h5l),atOk⟩
  refine ej ?_
  obtain rfl:=ho5 _ (ojs h5l)
  exact⟨x24,v22,h3l,atOk⟩
 refine ej ?_
 obtain rfl:=ho3 _ (ojs h3l)
 exact⟨x10,x11,v7,v8,h,atOk⟩
end Go.Proofs.YtcndghapmoaidaaGreatDoor
