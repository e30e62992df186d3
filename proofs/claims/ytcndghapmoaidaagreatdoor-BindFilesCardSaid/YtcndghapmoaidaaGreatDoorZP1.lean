/- The code comes to what these functions say (printed by wip/gen/gen.py). -/
import Derived.Test.YtcndghapmoaidaaGreatDoorZX
import Derived.Test.YtcndghapmoaidaaGreatDoorZP
import Derived.Test.YtcndghapmoaidaaGreatDoorZT
set_option linter.unusedSimpArgs false
set_option linter.unusedVariables false
set_option linter.unusedSectionVars false
set_option linter.unusedSectionVars false
set_option maxRecDepth 100000
set_option maxHeartbeats 4000000
namespace Go.Proofs.YtcndghapmoaidaaGreatDoor
open Go Go.Cn Tryz
attribute [local irreducible] qx ar
theorem as6 (x1:List Int) (r:Int) (h:afv x1=some r):Fp 40 [ar (Rp.int .i64) x1] (P6 r):=by
 refine dr (rs:=[2]) func40 rfl ntmps40 ⟨by decide,results40⟩ dcd (fun s0=>?_)
 unfold afv at h
 refine W_rs (kAs rfl (W_rs (kAs rfl (ba (W_rs (kMvL rfl (kUn (ma rfl underlying126) ?_)))))))
 refine kMv rfl (ay ?_)
 obtain⟨z2l,hz2,h⟩:=aj h
 obtain⟨n2,hN2⟩:=bt hz2
 refine dl 0 (fun e C=>act=some r/\At [(3,P6 0)] [] e C) ?_ ?_
 ·rintro e C ⟨h,a⟩
  refine W_at a ?_
  unfold act at h
  refine W_rs (kMv rfl (kAs rfl ?_))
  obtain rfl:=osj h
  exact bj ⟨rfl,aa⟩
 refine fb (fun m e C=>∃x2,fp (fun s=>ii x1 s) m x2=some z2l/\At [(3,P6 0),(6,ar (Rp.int .i64) x1),(7,P6 (x1.length:Int)),(8,P6 x2)] [] e C) n2 ⟨0,hN2,⟨⟨aa,aa,aa,aa,tv⟩,A8.refl _⟩⟩ ?_
 rintro m e C ⟨x2,hN2,a⟩
 refine W_at a ?_
 obtain⟨m2,w2l,rfl,h2l,hn2,ho2⟩:=bl hN2
 replace h2l:ii x1 x2=some w2l:=h2l
 unfold ii at h2l
 refine W_rs (kIn rfl rfl rfl (ba ?_))
 refine bc h2l rfl (fun _ h2l=>?_) (fun _ h2l=>?_)
 ·refine aw (ba (ay (W_rs ?_)))
  obtain⟨x5,k,h2l⟩:=aj h2l
  refine kUn (gu underlying126 sizeOf3 k) ?_
  refine kUn (dn ty3) ?_
  refine kAs rfl (W_rs (kMv rfl (kMv rfl (kIn rfl rfl rfl ?_))))
  refine bc h2l rfl (fun _ h2l=>?_) (fun _ h2l=>?_)
  ·refine W_rs (kMv rfl (kAs rfl ?_))
   obtain rfl:=ho2 _ (ojs h2l)
   replace h:some x5=some r:=h
   obtain rfl:=osj h
   exact bj ⟨rfl,aa⟩
  refine aw (W_r (kIn rfl rfl rfl (kMv rfl ?_)))
  exact⟨m2,lsu,w64 (x2+1),hn2 _ (ojs h2l),atOk⟩
 refine ep ?_
 obtain rfl:=ho2 _ (ojs h2l)
 exact⟨h,atOk⟩
theorem agw (x1:Int) (r:Bool) (h:yu x1=some r):Fp 79 [P6 x1] (Pb r):=by
 refine dr (rs:=[2]) func79 rfl ntmps79 ⟨by decide,results79⟩ dcd (fun s0=>?_)
 unfold yu at h
 refine W_rs (kAs rfl (W_rs (kMv rfl (kMv rfl (kIn rfl rfl rfl (kAs rfl ?_))))))
 obtain rfl:=osj h
 exact bj ⟨rfl,aa⟩
theorem aek (x1 x2 r:Int) (h:qk x1 x2=some r):Fp 41 [P6 x1,P6 x2] (P6 r):=by
 refine dr (rs:=[4]) func41 rfl ntmps41 ⟨by decide,results41⟩ dcd (fun s0=>?_)
 unfold qk at h
 refine W_rs (kAs rfl (W_rs (kMv rfl (c8 h (agw x1) rfl fun x3 _ h=>kAs rfl (W_rs (kMv rfl (c8 h (agw x2) rfl fun x4 _ h=>kAs rfl (ba (W_rs ?_)))))))))
 refine kMv rfl ?_
 refine bc h rfl (fun _ h=>?_) (fun _ h=>?_)
 ·refine ba (W_rs (kMv rfl ?_))
  refine bc h rfl (fun _ h=>?_) (fun _ h=>?_)
  ·refine W_rs (kAs rfl ?_)
   obtain rfl:=osj h
   exact bj ⟨rfl,aa⟩
  refine aw (W_rs (kAs rfl ?_))
  obtain rfl:=osj h
  exact bj ⟨rfl,aa⟩
 refine aw (ba (W_rs (kMv rfl ?_)))
 refine bc h rfl (fun _ h=>?_) (fun _ h=>?_)
 ·refine W_rs (kAs rfl ?_)
  obtain rfl:=osj h
  exact bj ⟨rfl,aa⟩
 refine aw (ba (W_rs (kMv rfl (kMv rfl (kIn rfl rfl rfl ?_)))))
 refine bc h rfl (fun _ h=>?_) (fun _ h=>?_)
 ·refine W_rs (kAs rfl ?_)
  obtain rfl:=osj h
  exact bj ⟨rfl,aa⟩
 refine aw (ba (W_rs (kMv rfl (kMv rfl (kIn rfl rfl rfl ?_)))))
 refine bc h rfl (fun _ h=>?_) (fun _ h=>?_)
 ·refine W_rs (kAs rfl ?_)
  obtain rfl:=osj h
  exact bj ⟨rfl,aa⟩
 refine aw (W_rs (kAs rfl ?_))
 obtain rfl:=osj h
 exact bj ⟨rfl,aa⟩
theorem aqm (x1 x2:B7) (r:Int) (h:xh x1 x2=some r):Fp 39 [(al).val x1,(al).val x2] (P6 r):=by
 refine dr (rs:=[4]) func39 rfl ntmps39 ⟨by decide,results39⟩ dcd (fun s0=>?_)
 unfold xh at h
 refine W_rs ?_
 refine rBox (R:=al) (a:=x1) rfl (fun b3=>?_)
 refine rBox (R:=al) (a:=x2) rfl (fun b4=>?_)
 refine kAs rfl ?_
 refine bm (fun e C=>∃x7,aba x7=some r/\At [(4,P6 x7)] [E0 b3 al x1,E0 b4 al x2] e C) ?_ ?_
 ·rintro e C ⟨x7,h,a⟩
  refine W_at a ?_
  unfold aba at h
  obtain rfl:=osj h
  exact bj ⟨rfl,aa⟩
 refine mh 13 hmx kr kr ?_
 refine lUn (ak avg) ?_
 refine lUn (ax 0 ty3 aeu) ?_
 refine lUn (ak avg) ?_
 refine lUn (ax 1 ty3 aeu) ?_
 obtain⟨x5,k,h⟩:=aj h
 refine lUn (dv (aek x1.File x2.File _ k)) ?_
 refine lUn (ak avf) ?_
 refine lUn (ax 0 ty3 ahp) ?_
 refine lUn (ak avf) ?_
 refine lUn (ax 1 ty3 ahp) ?_
 obtain⟨x6,k,h⟩:=aj h
 refine lUn (dv (aek x1.At x2.At _ k)) ?_
 refine lUn (nh (R:=Rp.int .i64) (ls:=([x5,x6]:List Int)) el126 nb ⟨rfl,rfl⟩ ⟨rfl,rfl,tv⟩) ?_
 obtain⟨x7,k,h⟩:=aj h
 refine lUn (dv (as6 ([x5,x6]:List Int) _ k)) ?_
 refine lUn (hAsA rfl) ?_
 exact⟨x7,h,atOk⟩
theorem axt (x1:List B7) (x2 x3:Int) (r:Bt × Bool) (h:avi x1 x2 x3=some r):Fp 15 [ar al x1,P6 x2,P6 x3] (bu [Pr.str r.1,Pb r.2]):=by
 refine dr (rs:=[6,7]) func15 rfl ntmps15 ⟨by decide,results15⟩ dcd (fun s0=>?_)
 unfold avi at h
 refine W_rs (kAs rfl (kAs rfl (ba (W_rs (kMvL rfl (kUn (ma rfl underlying27) ?_))))))
 refine kMv rfl (ay ?_)
 obtain⟨z2l,hz2,h⟩:=aj h
 obtain⟨n2,hN2⟩:=bt hz2
 refine dl 0 (fun e C=>al7=some r/\At [] [] e C) ?_ ?_
 ·rintro e C ⟨h,a⟩
  refine W_at a ?_
  unfold al7 at h
  refine W_rs (kAs rfl (kAs rfl ?_))
  obtain rfl:=osj h
  exact bj ⟨rfl,aa⟩
 refine fb (fun m e C=>∃x4,fp (fun s=>ail x1 x2 x3 s) m x4=some z2l/\At [(1,P6 x2),(2,P6 x3),(10,ar al x1),(11,P6 (x1.length:Int)),(12,P6 x4)] [] e C) n2 ⟨0,hN2,⟨⟨aa,aa,aa,aa,aa,tv⟩,A8.refl _⟩⟩ ?_
 rintro m e C ⟨x4,hN2,a⟩
 refine W_at a ?_
 obtain⟨m2,w2l,rfl,h2l,hn2,ho2⟩:=bl hN2
 replace h2l:ail x1 x2 x3 x4=some w2l:=h2l
 unfold ail at h2l
 refine W_rs (kIn rfl rfl rfl (ba ?_))
 refine bc h2l rfl (fun _ h2l=>?_) (fun _ h2l=>?_)
 ·refine aw (ba (ay (W_rs ?_)))
  obtain⟨x7,k,h2l⟩:=aj h2l
  refine kUn (gu underlying27 sizeOf47 k) ?_
  refine kUn (dn ty47) ?_
  refine br al47 fun b8=>au 0 rfl rfl (Upd.refl _) rfl sizeOf47 ?_
  refine bm (fun e C=>∃x10,aim x7 x4 x10=some w2l/\At [(1,P6 x2),(2,P6 x3),(9,Pr.pt b8 0),(10,ar al x1),(11,P6 (x1.length:Int)),(12,P6 x4),(25,Pb x10)] [E0 b8 al x7] e C) ?_ ?_
  ·rintro e C ⟨x10,h2l,a⟩
   refine W_at a ?_
   unfold aim at h2l
   refine bc h2l rfl (fun _ h2l=>?_) (fun _ h2l=>?_)
   ·refine W_rs (kUn (ak ave) ?_)
    refine kUn (ax 0 ty9 aho) ?_
    refine kAs rfl (kAs rfl ?_)
    obtain rfl:=ho2 _ (ojs h2l)
    replace h:some (x7.Id,true)=some r:=h
    obtain rfl:=osj h
    exact bj ⟨rfl,aa⟩
   refine aw (W_r (kIn rfl rfl rfl (kMv rfl ?_)))
   exact⟨m2,lsu,w64 (x4+1),hn2 _ (ojs h2l),⟨⟨aa,aa,aa,aa,aa,tv⟩,A8.of [] rfl⟩⟩
  refine W_r (kUn (ak avg) ?_)
  refine kUn (ax 0 ty3 aeu) ?_
  refine kMv rfl (kIn rfl rfl rfl (kMv rfl ?_))
  rcases cg h2l with⟨hc9,h2l⟩|⟨hc9,h2l⟩
  ·refine kGd rfl aa hc9 (ak avf) ?_
   refine kGd rfl aa hc9 (ax 0 ty3 ahp) ?_
   refine kGd rfl aa hc9 (hMvA rfl) (kGd rfl aa hc9 (qInt rfl rfl rfl) (kPt rfl hc9 rfl ?_))
   exact⟨x7.At==x3,h2l,atOk⟩
  refine skx ?_
  refine kPf rfl hc9 rfl ?_
  exact⟨false,h2l,atOk⟩
 refine ep ?_
 obtain rfl:=ho2 _ (ojs h2l)
 exact⟨h,atOk⟩
theorem al6 (x1:List B7) (x2:Bt) (r:(List B7)) (h:ajh x1 x2=some r):Fp 18 [ar al x1,Pr.str x2] (ar al r):=by
 refine dr (rs:=[4]) func18 rfl ntmps18 ⟨by decide,results18⟩ dcd (fun s0=>?_)
 unfold ajh at h
 refine W_rs (kAs rfl (W_rs (kAs rfl (ba (W_rs (kMvL rfl (kUn (ma rfl underlying27) ?_)))))))
 refine kMv rfl (ay ?_)
 obtain⟨z2l,hz2,h⟩:=aj h
 obtain⟨n2,hN2⟩:=bt hz2
 refine dl 0 (fun e C=>∃x5,∃v3,aik x5=some r/\At [(5,Pi v3)] [E3 v3 al x5 47] e C) ?_ ?_
 ·rintro e C ⟨x5,v3,h,a⟩
  refine W_at a ?_
  unfold aik at h
  refine W_rs (kMv rfl (kAs rfl ?_))
  refine apq 0 [4] ?_ rfl ⟨rfl,tv⟩
  obtain rfl:=osj h
  exact bj ⟨rfl,aa⟩
 refine agx [5] al 47 (fun v17=>?_) ⟨rfl,tv⟩
 refine fb (fun m e C=>∃x4,∃x5,∃v3,fp (fun s=>zq x1 x2 s.1 s.2) m (x4,x5)=some z2l/\At [(1,Pr.str x2),(5,Pi v3),(8,ar al x1),(9,P6 (x1.length:Int)),(10,P6 x4)] [E3 v3 al x5 47] e C) n2 ⟨0,[],v17,hN2,⟨⟨aa,aa,aa,aa,aa,tv⟩,A8.refl _⟩⟩ ?_
 rintro m e C ⟨x4,x5,v3,hN2,a⟩
 refine W_at a ?_
 obtain⟨m2,w2l,rfl,h2l,hn2,ho2⟩:=bl hN2
 replace h2l:zq x1 x2 x4 x5=some w2l:=h2l
 unfold zq at h2l
 refine W_rs (kIn rfl rfl rfl (ba ?_))
 refine bc h2l rfl (fun _ h2l=>?_) (fun _ h2l=>?_)
 ·refine aw ?_
  refine bm (fun e C=>∃x16,∃x10,∃v15,∃b11,afw x4 x16 x10=some w2l/\At [(1,Pr.str x2),(5,Pi v15),(8,ar al x1),(9,P6 (x1.length:Int)),(10,P6 x4)] [E3 v15 al x16 47,E0 b11 al x10] e C) ?_ ?_
  ·rintro e C ⟨x16,x10,v15,b11,h2l,a⟩
   refine W_at a ?_
   unfold afw at h2l
   refine W_r (kIn rfl rfl rfl (kMv rfl ?_))
   exact⟨m2,lsu,w64 (x4+1),x16,v15,hn2 _ (ojs h2l),⟨⟨aa,aa,aa,aa,aa,tv⟩,A8.of [0] rfl⟩⟩
  refine ay (W_rs ?_)
  obtain⟨x10,k,h2l⟩:=aj h2l
  refine kUn (gu underlying27 sizeOf47 k) ?_
  refine kUn (dn ty47) ?_
  refine br al47 fun b11=>au 1 rfl rfl (Upd.refl _) rfl sizeOf47 (W_rs (kUn (ak ave) ?_))
  refine kUn (ax 1 ty9 aho) ?_
  refine kMv rfl (kSt rfl rfl rfl ?_)
  refine bc h2l rfl (fun _ h2l=>?_) (fun _ h2l=>?_)
  ·refine W_r (kMv rfl (kUn (ax 1 ty47 (Sub.refl _)) ?_))
   refine kUn (c5 (R:=al) (a:=x10) el27 nb) ?_
   obtain⟨x13,k,h2l⟩:=aj h2l
   refine gq 0 el27 k (fun v14=>?_)
   refine kAs rfl ?_
   exact⟨x13,x10,v14,b11,h2l,atOk⟩
  refine aw ?_
  exact⟨x5,x10,v3,b11,h2l,atOk⟩
 refine ep ?_
 obtain rfl:=ho2 _ (ojs h2l)
 exact⟨x5,v3,h,atOk⟩
theorem apa (x1:Int) (r:Bt) (h:abg x1=some r):Fp 137 [P6 x1] (Pr.str r):=by
 refine dr (rs:=[2]) func137 rfl ntmps137 ⟨by decide,results137⟩ dcd (fun s0=>?_)
 unfold abg at h
 refine W_rs (kAs rfl (W_rs (kMv rfl (kUn (qMax (a:=x1) (b:=0)) ?_))))
 refine kAs rfl (W_rs (kAs rfl (ay ?_)))
 obtain⟨n1,hN1⟩:=bt h
 refine fb (fun m e C=>∃x2,∃x3,fp (fun s=>nk s.1 s.2) m (x2,x3)=some r/\At [(0,P6 x2),(3,Pr.str x3)] [] e C) n1 ⟨(if 0>x1 then 0 else x1),[],hN1,⟨⟨aa,aa,tv⟩,A8.refl _⟩⟩ ?_
 rintro m e C ⟨x2,x3,hN1,a⟩
 refine W_at a ?_
 obtain⟨m1,w1l,rfl,h1l,hn1,ho1⟩:=bl hN1
 replace h1l:nk x2 x3=some w1l:=h1l
 unfold nk at h1l
 refine ay (W_rs (kMv rfl (kUn (qRem (b:=10) dcd) ?_)))
 refine kIn rfl rfl rfl (kUn (ank underlying3 underlying5) ?_)
 refine kUn (c5 (R:=Rp.int .u8) (a:=IntKind.wrap .u8 (w64 (48+(Int.tmod x2 10)))) el195 nb) ?_
 refine kUn (azl (l:=([IntKind.wrap .u8 (w64 (48+(Int.tmod x2 10)))]:List Int)) underlying195 underlying9 underlying5) ?_
 refine kMv rfl ?_
 obtain⟨x6,k,h1l⟩:=aj h1l
 refine kUn (ald k) ?_
 refine kAs rfl (W_rs (kMv rfl (kUn (qDiv (b:=10) dcd) ?_)))
 refine kAs rfl (W_rs (kMv rfl (kIn rfl rfl rfl ?_)))
 refine bc h1l rfl (fun _ h1l=>?_) (fun _ h1l=>?_)
 ·refine W_rs (kMv rfl (kAs rfl ?_))
  have h:some x6=some r:=congrArg some (ho1 _ (ojs h1l))
  obtain rfl:=osj h
  exact bj ⟨rfl,aa⟩
 refine aw ?_
 exact⟨m1,lsu,w64 (Int.tdiv x2 10),x6,hn1 _ (ojs h1l),atOk⟩
theorem ap3 (x1:Bt) (x2:Int) (r:Bt) (h:o9 x1 x2=some r):Fp 83 [Pr.str x1,P6 x2] (Pr.str r):=by
 refine dr (rs:=[4]) func83 rfl ntmps83 ⟨by decide,results83⟩ dcd (fun s0=>?_)
 unfold o9 at h
 refine W_rs (kAs rfl (W_rs (kMv rfl ?_)))
 obtain⟨x3,k,h⟩:=aj h
 refine kUn (ald k) ?_
 refine kMv rfl (c8 h (apa x2) rfl fun x4 _ h=>?_)
 obtain⟨x5,k,h⟩:=aj h
 refine kUn (ald k) ?_
 refine kAs rfl ?_
 obtain rfl:=osj h
 exact bj ⟨rfl,aa⟩
theorem apb (x1 x2:Bt) (r:Bt) (h:tl x1 x2=some r):Fp 84 [Pr.str x1,Pr.str x2] (Pr.str r):=by
 refine dr (rs:=[4]) func84 rfl ntmps84 ⟨by decide,results84⟩ dcd (fun s0=>?_)
 unfold tl at h
 refine W_rs (kAs rfl (W_rs (kMv rfl ?_)))
 obtain⟨x3,k,h⟩:=aj h
 refine kUn (ald k) ?_
 refine kMv rfl ?_
 obtain⟨x4,k,h⟩:=aj h
 refine kUn (ald k) ?_
 obtain⟨x5,k,h⟩:=aj h
 refine kUn (ald k) ?_
 refine kAs rfl ?_
 obtain rfl:=osj h
 exact bj ⟨rfl,aa⟩
theorem ap4 (x1 x2:Bt) (r:Bt) (h:zu x1 x2=some r):Fp 85 [Pr.str x1,Pr.str x2] (Pr.str r):=by
 refine dr (rs:=[4]) func85 rfl ntmps85 ⟨by decide,results85⟩ dcd (fun s0=>?_)
 unfold zu at h
 refine W_rs (kAs rfl (W_rs (kMv rfl ?_)))
 obtain⟨x3,k,h⟩:=aj h
 refine kUn (ald k) ?_
 refine kMv rfl ?_
 obtain⟨x4,k,h⟩:=aj h
 refine kUn (ald k) ?_
 refine kAs rfl ?_
 obtain rfl:=osj h
 exact bj ⟨rfl,aa⟩
def aei (R:iv):Prop:=(∀(x1:B5) (x2:Int) (r:(List B5)),R x1 x2=some r->Fp 86 [(ag).val x1,P6 x2] (ar ag r))
theorem am1 (R:iv) (ih:aei R) (x1:B5) (x2:Int) (r:(List B5)) (h:adi R x1 x2=some r):Fp 86 [(ag).val x1,P6 x2] (ar ag r):=by
 refine dr (rs:=[4]) func86 rfl ntmps86 ⟨by decide,results86⟩ dcd (fun s0=>?_)
 unfold adi at h
 refine W_rs ?_
 refine rBox (R:=ag) (a:=x1) rfl (fun b3=>?_)
 let p1:=E0 b3 ag x1
 refine kAs rfl (W_rs (kAs rfl ?_))
 refine agx [5] ag 64 (fun v4=>?_) ⟨rfl,tv⟩
 refine bm (fun e C=>∃x11,∃v10,abl R x1 x2 x11=some r/\At [(1,P6 x2),(2,Pr.pt b3 0),(5,Pi v10)] [p1,E3 v10 ag x11 64] e C) ?_ ?_
 ·rintro e C ⟨x11,v10,h,a⟩
  refine W_at a ?_
  unfold abl at h
  refine ba (W_rs (kAs rfl (ay ?_)))
  obtain⟨z2l,hz2,h⟩:=aj h
  obtain⟨n2,hN2⟩:=bt hz2
  refine dl 0 (fun e C=>∃x14,∃v12,ad8 R x14=some r/\At [(5,Pi v12)] [p1,E3 v12 ag x14 64] e C) ?_ ?_
  ·rintro e C ⟨x14,v12,h,a⟩
   refine W_at a ?_
   unfold ad8 at h
   refine W_rs (kMv rfl (kAs rfl ?_))
   refine apq 1 [4] ?_ rfl ⟨rfl,tv⟩
   obtain rfl:=osj h
   exact bj ⟨rfl,aa⟩
  refine fb (fun m e C=>∃x13,∃x14,∃v12,fp (fun s=>tm R x1 x2 s.1 s.2) m (x13,x14)=some z2l/\At [(1,P6 x2),(2,Pr.pt b3 0),(5,Pi v12),(6,P6 x13)] [p1,E3 v12 ag x14 64] e C) n2 ⟨0,x11,v10,hN2,⟨⟨aa,aa,aa,aa,tv⟩,A8.refl _⟩⟩ ?_
  rintro m e C ⟨x13,x14,v12,hN2,a⟩
  refine W_at a ?_
  obtain⟨m2,w2l,rfl,h2l,hn2,ho2⟩:=bl hN2
  replace h2l:tm R x1 x2 x13 x14=some w2l:=h2l
  unfold tm at h2l
  refine ba (W_rs (kMv rfl (kUn (ak q9) ?_)))
  refine kUn (ax 0 ty53 d6) ?_
  refine kUn (ma rfl underlying53) ?_
  refine kIn rfl rfl rfl ?_
  refine bc h2l rfl (fun _ h2l=>?_) (fun _ h2l=>?_)
  ·refine aw (ba (ay (W_r (kMv rfl (kUn (ak q9) ?_)))))
   refine kUn (ax 0 ty53 d6) ?_
   refine kMv rfl ?_
   obtain⟨x19,k,h2l⟩:=aj h2l
   refine kUn (gu underlying53 sizeOf64 k) ?_
   refine kUn (dn ty64) ?_
   refine kMv rfl (c8 h2l (ih x19 x2) rfl fun x20 _ h2l=>?_)
   obtain⟨x21,k,h2l⟩:=aj h2l
   refine gq 1 el53 k (fun v22=>?_)
   refine kAs rfl (W_r (kMv rfl (kIn rfl rfl rfl (kAs rfl ?_))))
   exact⟨m2,lsu,w64 (x13+1),x21,v22,hn2 _ (ojs h2l),atOk⟩
  refine ep ?_
  obtain rfl:=ho2 _ (ojs h2l)
  exact⟨x14,v12,h,atOk⟩
 refine bm (fun e C=>∃x6,abk R x1 x2 x6=some r/\At [(1,P6 x2),(2,Pr.pt b3 0),(5,Pi v4),(14,Pb x6)] [p1,E3 v4 ag [] 64] e C) ?_ ?_
 ·rintro e C ⟨x6,h,a⟩
  refine W_at a ?_
  unfold abk at h
  refine bc h rfl (fun _ h=>?_) (fun _ h=>?_)
  ·refine W_r (kMv rfl (kUn (ax 0 ty64 (Sub.refl _)) ?_))
   refine kUn (c5 (R:=ag) (a:=x1) el53 nb) ?_
   obtain⟨x8,k,h⟩:=aj h
   refine gq 1 el53 k (fun v9=>?_)
   refine kAs rfl ?_
   exact⟨x8,v9,h,atOk⟩
  refine aw ?_
  exact⟨[],v4,h,atOk⟩
 refine W_r (kMv rfl (kIn rfl rfl rfl (kMv rfl ?_)))
 rcases cg h with⟨hc5,h⟩|⟨hc5,h⟩
 ·refine skx ?_
  refine kPt rfl hc5 rfl ?_
  exact⟨true,h,atOk⟩
 refine kGd rfl aa hc5 (ak ig) ?_
 refine kGd rfl aa hc5 (ax 0 ty3 bq) ?_
 refine kGd rfl aa hc5 (hMvA rfl) (kGd rfl aa hc5 (qInt rfl rfl rfl) (kPf rfl hc5 rfl ?_))
 exact⟨x1.Kind==x2,h,atOk⟩
theorem amz :∀n,aei (oe n):=by
 intro n
 induction n with
 |zero=>exact(fun x1 x2 r h=>nomatch (show none=some r from h))
 |succ n ih=>exact(fun x1 x2 r h=>am1 (oe n) ih x1 x2 r h)
theorem at9 (x1:B5) (x2:Int) (r:(List B5)) (h:an9 x1 x2=some r):Fp 86 [(ag).val x1,P6 x2] (ar ag r):=(amz 1048576) x1 x2 r h
theorem ao9 (x1:Bt) (x2:Int) (x3:B5) (r:(List A9)) (h:qy x1 x2 x3=some r):Fp 46 [Pr.str x1,P6 x2,(ag).val x3] (ar af r):=by
 refine dr (rs:=[6]) func46 rfl ntmps46 ⟨by decide,results46⟩ dcd (fun s0=>?_)
 unfold qy at h
 refine W_rs ?_
 refine rBox (R:=ag) (a:=x3) rfl (fun b4=>?_)
 let p1:=E0 b4 ag x3
 refine kAs rfl (W_rs (kUn (ak gz) ?_))
 refine kUn (ax 0 ty9 cc) ?_
 refine kMv rfl (kUn (ak zn) ?_)
 refine kUn (ax 0 ty9 iu) ?_
 refine kUn (ak ajg) ?_
 refine kUn (ax 0 ty2 ady) ?_
 refine kIn rfl rfl rfl (kMv rfl (kUn (ak tf) ?_))
 refine kUn (ax 0 ty3 jl) ?_
 refine kUn (jh ai3 ⟨(D3.mk 0 [] x3.Text [] [] false (.slice none 0 0) 0 0),⟨_,rfl,rfl,qbj⟩,⟨(D3.mk 0 [] x3.Text x1 [] false (.slice none 0 0) 0 0),⟨_,rfl,rfl,qbj⟩,⟨(D3.mk 0 [] x3.Text x1 x3.Type_ false (.slice none 0 0) 0 0),⟨_,rfl,rfl,qbj⟩,⟨(D3.mk 0 [] x3.Text x1 x3.Type_ (x3.N==1) (.slice none 0 0) 0 0),⟨_,rfl,rfl,qbj⟩,⟨(D3.mk 0 [] x3.Text x1 x3.Type_ (x3.N==1) (.slice none 0 0) x2 0),⟨_,rfl,rfl,qbj⟩,⟨(D3.mk 0 [] x3.Text x1 x3.Type_ (x3.N==1) (.slice none 0 0) x2 x3.At),⟨_,rfl,rfl,qbj⟩,rfl⟩⟩⟩⟩⟩⟩) ?_
 refine br al49 fun b5=>au 1 rfl rfl (Upd.refl _) rfl sizeOf49 (ba (W_rs (kUn (ak ig) ?_)))
 refine kUn (ax 0 ty3 bq) ?_
 refine kIn rfl rfl rfl ?_
 refine bc h rfl (fun _ h=>?_) (fun _ h=>?_)
 ·refine W_rs (kUn (ak xa) ?_)
  refine au 1 rfl rfl vc rfl sizeOf3 ?_
  refine rCtx [p1,E0 b5 bk (D3.mk 2 [] x3.Text x1 x3.Type_ (x3.N==1) (.slice none 0 0) x2 x3.At)] ?_
  refine W_rs (kMv rfl (kUn (ak gz) ?_))
  refine kUn (ax 0 ty9 cc) ?_
  refine c8 h (ap4 x1 x3.Text) rfl fun x7 _ h=>?_
  let p2:=A9.mk 2 x7 x3.Text x1 x3.Type_ (x3.N==1) [] x2 x3.At
  refine kUn (ak ra) ?_
  refine au 1 rfl rfl zc rfl sizeOf9 ?_
  refine rCtx [p1,E0 b5 bk (D3.mk 2 x7 x3.Text x1 x3.Type_ (x3.N==1) (.slice none 0 0) x2 x3.At)] ?_
  refine W_rs (kUn (ax 1 ty49 (Sub.refl _)) ?_)
  refine rEnv 34 (q:=af.val p2) (st_le fun _=>⟨fl,fl,fl,fl,fl,fl,a1z,fl,fl,tv⟩) ?_
  refine kUn (c5 (R:=af) (a:=p2) el38 nb) ?_
  refine kAsL rfl ?_
  obtain rfl:=osj h
  exact bj ⟨rfl,aa⟩
 refine aw (W_rs (kUn (ak xa) ?_))
 refine au 1 rfl rfl vc rfl sizeOf3 ?_
 refine rCtx [p1,E0 b5 bk (D3.mk 3 [] x3.Text x1 x3.Type_ (x3.N==1) (.slice none 0 0) x2 x3.At)] ?_
 refine W_rs (kMv rfl (kUn (ak gz) ?_))
 refine kUn (ax 0 ty9 cc) ?_
 refine c8 h (apb x1 x3.Text) rfl fun x8 _ h=>?_
 let p3:=E0 b5 bk (D3.mk 3 x8 x3.Text x1 x3.Type_ (x3.N==1) (.slice none 0 0) x2 x3.At)
 refine kUn (ak ra) ?_
 refine au 1 rfl rfl zc rfl sizeOf9 ?_
 refine rCtx [p1,p3] ?_
 refine W_rs (kAs rfl (W_rs (kUn (ax 0 ty64 (Sub.refl _)) ?_)))
 refine c8 h (at9 x3 0) rfl fun x9 _ h=>kAsL rfl (ba (W_rs (kAs rfl (ay ?_))))
 obtain⟨z5l,hz5,h⟩:=aj h
 obtain⟨n5,hN5⟩:=bt hz5
 refine dl 0 (fun e C=>∃x12,∃v10,y4 x3 x8 x1 x2 x12=some r/\At [(5,Pr.pt b4 0),(7,Pr.pt b5 0),(8,Pi v10)] [p1,p3,E3 v10 af x12 49] e C) ?_ ?_
 ·rintro e C ⟨x12,v10,h,a⟩
  let p4:=E3 v10 af x12 49
  refine W_at a ?_
  unfold y4 at h
  refine ba (W_rs (kAs rfl (ay ?_)))
  obtain⟨z2l,hz2,h⟩:=aj h
  obtain⟨n2,hN2⟩:=bt hz2
  refine dl 2 (fun e C=>∃x29,∃v28,y5 x8 x3 x1 x2 x12 x29=some r/\At [(7,Pr.pt b5 0),(8,Pi v10)] [p1,E0 b5 bk (D3.mk 3 x8 x3.Text x1 x3.Type_ (x3.N==1) v28 x2 x3.At),p4,E3 v28 Rp.str x29 9] e C) ?_ ?_
  ·rintro e C ⟨x29,v28,h,a⟩
   let p5:=A9.mk 3 x8 x3.Text x1 x3.Type_ (x3.N==1) x29 x2 x3.At
   refine W_at a ?_
   unfold y5 at h
   refine W_rs (kUn (ax 1 ty49 (Sub.refl _)) ?_)
   refine rRelS 3 105 [] (q:=af.val p5) (fun _ _ hl=>FLe.val ⟨fl,fl,fl,fl,fl,fl,(a10 hl),fl,fl,tv⟩) ?_ rfl trivial
   refine ars (R:=af) (ls:=([p5]:List A9)) el38 nb ⟨rfl,rfl⟩ ⟨rfl,tv⟩ (fun v41=>?_)
   refine kMv rfl ?_
   obtain⟨x42,k,h⟩:=aj h
   refine rRel 2 [8,107] ?_ rfl ⟨rfl,rfl,tv⟩
   refine gq 2 el38 k (fun v43=>?_)
   refine kAs rfl ?_
   refine apq 2 [6] ?_ rfl ⟨rfl,tv⟩
   obtain rfl:=osj h
   exact bj ⟨rfl,aa⟩
  refine a0a Rp.str 9 ?_
  refine fb (fun m e C=>∃x27,∃x29,∃v28,fp (fun s=>li x3 s.1 s.2) m (x27,x29)=some z2l/\At [(5,Pr.pt b4 0),(7,Pr.pt b5 0),(8,Pi v10),(12,P6 x27)] [p1,E0 b5 bk (D3.mk 3 x8 x3.Text x1 x3.Type_ (x3.N==1) v28 x2 x3.At),p4,E3 v28 Rp.str x29 9] e C) n2 ⟨0,[],(.slice none 0 0),hN2,⟨⟨aa,aa,aa,aa,tv⟩,A8.refl _⟩⟩ ?_
  rintro m e C ⟨x27,x29,v28,hN2,a⟩
  let p6:=D3.mk 3 x8 x3.Text x1 x3.Type_ (x3.N==1) v28 x2 x3.At
  refine W_at a ?_
  obtain⟨m2,w2l,rfl,h2l,hn2,ho2⟩:=bl hN2
  replace h2l:li x3 x27 x29=some w2l:=h2l
  unfold li at h2l
  refine ba (W_rs (kMv rfl (kUn (ak q9) ?_)))
  refine kUn (ax 0 ty53 d6) ?_
  refine kUn (ma rfl underlying53) ?_
  refine kIn rfl rfl rfl ?_
  refine bc h2l rfl (fun _ h2l=>?_) (fun _ h2l=>?_)
  ·refine aw ?_
   refine bm (fun e C=>∃x40,∃v39,tz x27 x40=some w2l/\At [(5,Pr.pt b4 0),(7,Pr.pt b5 0),(8,Pi v10),(12,P6 x27)] [p1,E0 b5 bk (D3.mk 3 x8 x3.Text x1 x3.Type_ (x3.N==1) v39 x2 x3.At),p4,E3 v39 Rp.str x40 9] e C) ?_ ?_
   ·rintro e C ⟨x40,v39,h2l,a⟩
    refine W_at a ?_
    unfold tz at h2l
    refine W_r (kMv rfl (kIn rfl rfl rfl (kAs rfl ?_)))
    exact⟨m2,lsu,w64 (x27+1),x40,v39,hn2 _ (ojs h2l),atOk⟩
   refine ay (W_rs (kUn (ak q9) ?_))
   refine kUn (ax 0 ty53 d6) ?_
   refine kMv rfl ?_
   obtain⟨x34,k,h2l⟩:=aj h2l
   refine kUn (gu underlying53 sizeOf64 k) ?_
   refine kUn (gv ig bq) ?_
   refine kUn (dn ty3) ?_
   refine kIn rfl rfl rfl ?_
   refine bc h2l rfl (fun _ h2l=>?_) (fun _ h2l=>?_)
   ·refine mh 9 hmx kr kr ?_
    refine lUn (ak alo) ?_
    refine lUn (aaa (R:=bk) (a:=p6) 1 ty22 zl) ?_
    refine lUn (ak q9) ?_
    refine lUn (ax 0 ty53 d6) ?_
    refine lUn (hMvA rfl) ?_
    obtain⟨x36,k,h2l⟩:=aj h2l
    refine lUn (gu underlying53 sizeOf64 k) ?_
    refine lUn (gv zn iu) ?_
    refine lUn (dn ty9) ?_
    refine lUn (c5 (R:=Rp.str) (a:=x36.Type_) el22 nb) ?_
    obtain⟨x37,k,h2l⟩:=aj h2l
    refine gq 3 el22 k (fun v38=>?_)
    refine kUn (ak alo) ?_
    refine ahd (R:=bk) (a:=p6) 1 3 sizeOf22 zj ?_
    refine rCtx [p1,E0 b5 bk (D3.mk 3 x8 x3.Text x1 x3.Type_ (x3.N==1) v38 x2 x3.At),p4,E3 v38 Rp.str x37 9] ?_
    exact⟨x37,v38,h2l,atOk⟩
   refine aw ?_
   exact⟨x29,v28,h2l,atOk⟩
  refine ep ?_
  obtain rfl:=ho2 _ (ojs h2l)
  exact⟨x29,v28,h,atOk⟩
 refine agx [8] af 49 (fun v44=>?_) ⟨rfl,tv⟩
 refine fb (fun m e C=>∃x11,∃x12,∃v10,fp (fun s=>lh x9 x8 x2 s.1 s.2) m (x11,x12)=some z5l/\At [(1,P6 x2),(5,Pr.pt b4 0),(7,Pr.pt b5 0),(8,Pi v10),(9,ar ag x9),(10,P6 x11)] [p1,p3,E3 v10 af x12 49] e C) n5 ⟨0,[],v44,hN5,⟨⟨aa,aa,aa,aa,aa,aa,tv⟩,A8.refl _⟩⟩ ?_
 rintro m e C ⟨x11,x12,v10,hN5,a⟩
 refine W_at a ?_
 obtain⟨m5,w5l,rfl,h5l,hn5,ho5⟩:=bl hN5
 replace h5l:lh x9 x8 x2 x11 x12=some w5l:=h5l
 unfold lh at h5l
 refine ba (W_rs (kMv rfl (kMvL rfl (kUn (ma rfl underlying53) ?_))))
 refine kIn rfl rfl rfl ?_
 refine bc h5l rfl (fun _ h5l=>?_) (fun _ h5l=>?_)
 ·refine aw ?_
  refine bm (fun e C=>∃x26,∃x17,∃v25,∃b18,tx x11 x26 x17=some w5l/\At [(1,P6 x2),(5,Pr.pt b4 0),(7,Pr.pt b5 0),(8,Pi v25),(9,ar ag x9),(10,P6 x11)] [p1,p3,E3 v25 af x26 49,E0 b18 ag x17] e C) ?_ ?_
  ·rintro e C ⟨x26,x17,v25,b18,h5l,a⟩
   refine W_at a ?_
   unfold tx at h5l
   refine W_r (kMv rfl (kIn rfl rfl rfl (kAs rfl ?_)))
   exact⟨m5,lsu,w64 (x11+1),x26,v25,hn5 _ (ojs h5l),⟨⟨aa,aa,aa,aa,aa,aa,tv⟩,A8.of [0,1,2] rfl⟩⟩
  refine ay (W_rs (kMvL rfl (kMv rfl ?_)))
  obtain⟨x17,k,h5l⟩:=aj h5l
  refine kUn (gu underlying53 sizeOf64 k) ?_
  refine kUn (dn ty64) ?_
  refine br al64 fun b18=>au 3 rfl rfl (Upd.refl _) rfl sizeOf64 ?_
  refine bm (fun e C=>∃x20,qe x8 x12 x17 x2 x11 x20=some w5l/\At [(1,P6 x2),(5,Pr.pt b4 0),(7,Pr.pt b5 0),(8,Pi v10),(9,ar ag x9),(10,P6 x11),(11,Pr.pt b18 0),(61,Pb x20)] [p1,p3,E3 v10 af x12 49,E0 b18 ag x17] e C) ?_ ?_
  ·rintro e C ⟨x20,h5l,a⟩
   refine W_at a ?_
   unfold qe at h5l
   refine bc h5l rfl (fun _ h5l=>?_) (fun _ h5l=>?_)
   ·refine mh 17 hmx kr kr ?_
    refine lUn (hMvA rfl) (lUn (ak ra) ?_)
    refine lUn (ax 1 ty9 sn) ?_
    refine lUn (hMvA rfl) (lUn (ax1 2 rfl underlying38) ?_)
    obtain⟨x22,k,h5l⟩:=aj h5l
    let p7:=A9.mk 4 x22 x17.Text x8 x17.Type_ false [] x2 x17.At
    refine lUn (dv (ap3 x8 (x12.length:Int) _ k)) ?_
    refine lUn (ak gz) ?_
    refine lUn (ax 3 ty9 cc) ?_
    refine lUn (ak ra) ?_
    refine lUn (ax 1 ty9 sn) ?_
    refine lUn (ak zn) ?_
    refine lUn (ax 3 ty9 iu) ?_
    refine lUn (hMvA rfl) (lUn (ak tf) ?_)
    refine lUn (ax 3 ty3 jl) ?_
    refine lUn (jh st49 ⟨(A9.mk 4 [] [] [] [] false [] 0 0),⟨_,rfl,rfl,qbj⟩,⟨(A9.mk 4 x22 [] [] [] false [] 0 0),⟨_,rfl,rfl,qbj⟩,⟨(A9.mk 4 x22 x17.Text [] [] false [] 0 0),⟨_,rfl,rfl,qbj⟩,⟨(A9.mk 4 x22 x17.Text x8 [] false [] 0 0),⟨_,rfl,rfl,qbj⟩,⟨(A9.mk 4 x22 x17.Text x8 x17.Type_ false [] 0 0),⟨_,rfl,rfl,qbj⟩,⟨(A9.mk 4 x22 x17.Text x8 x17.Type_ false [] x2 0),⟨_,rfl,rfl,qbj⟩,⟨p7,⟨_,rfl,rfl,qbj⟩,rfl⟩⟩⟩⟩⟩⟩⟩) ?_
    refine lUn (c5 (R:=af) (a:=p7) el38 nb) ?_
    obtain⟨x23,k,h5l⟩:=aj h5l
    refine gq 2 el38 k (fun v24=>?_)
    refine kAs rfl ?_
    exact⟨x23,x17,v24,b18,h5l,atOk⟩
   refine aw ?_
   exact⟨x12,x17,v10,b18,h5l,atOk⟩
  refine W_r (kUn (ak ig) ?_)
  refine kUn (ax 3 ty3 bq) ?_
  refine kIn rfl rfl rfl (kMv rfl ?_)
  rcases cg h5l with⟨hc19,h5l⟩|⟨hc19,h5l⟩
  ·refine skx ?_
   refine kPt rfl hc19 rfl ?_
   exact⟨true,h5l,atOk⟩
  refine kGd rfl aa hc19 (ak ig) ?_
  refine kGd rfl aa hc19 (ax 3 ty3 bq) ?_
  refine kGd rfl aa hc19 (qInt rfl rfl rfl) (kPf rfl hc19 rfl ?_)
  exact⟨x17.Kind==6,h5l,atOk⟩
 refine ep ?_
 obtain rfl:=ho5 _ (ojs h5l)
 exact⟨x12,v10,h,atOk⟩
theorem aja (x1:List A9) (r:Int) (h:zs x1=some r):Fp 47 [ar af x1] (P6 r):=by
 refine dr (rs:=[2]) func47 rfl ntmps47 ⟨by decide,results47⟩ dcd (fun s0=>?_)
 unfold zs at h
 refine W_rs (kAs rfl (ba (W_rs (kAs rfl (ay ?_)))))
 obtain⟨z2l,hz2,h⟩:=aj h
 obtain⟨n2,hN2⟩:=bt hz2
 refine dl 0 (fun e C=>aak=some r/\At [] [] e C) ?_ ?_
 ·rintro e C ⟨h,a⟩
  refine W_at a ?_
  unfold aak at h
  refine W_rs (kAs rfl ?_)
  obtain rfl:=osj h
  exact bj ⟨rfl,aa⟩
 refine fb (fun m e C=>∃x2,fp (fun s=>mu x1 s) m x2=some z2l/\At [(0,ar af x1),(3,P6 x2)] [] e C) n2 ⟨0,hN2,⟨⟨aa,aa,tv⟩,A8.refl _⟩⟩ ?_
 rintro m e C ⟨x2,hN2,a⟩
 refine W_at a ?_
 obtain⟨m2,w2l,rfl,h2l,hn2,ho2⟩:=bl hN2
 replace h2l:mu x1 x2=some w2l:=h2l
 unfold mu at h2l
 refine ba (W_rs (kMv rfl (kMvL rfl (kUn (ma rfl underlying38) ?_))))
 refine kIn rfl rfl rfl ?_
 refine bc h2l rfl (fun _ h2l=>?_) (fun _ h2l=>?_)
 ·refine aw (ba (ay (W_rs (kAs rfl (ay ?_)))))
  obtain⟨z4l,hz4,h2l⟩:=aj h2l
  obtain⟨n4,hN4⟩:=bt hz4
  refine dl 2 (fun e C=>aaj x2=some w2l/\At [(0,ar af x1),(3,P6 x2)] [] e C) ?_ ?_
  ·rintro e C ⟨h2l,a⟩
   refine W_at a ?_
   unfold aaj at h2l
   refine W_r (kMv rfl (kIn rfl rfl rfl (kAs rfl ?_)))
   exact⟨m2,lsu,w64 (x2+1),hn2 _ (ojs h2l),atOk⟩
  refine fb (fun m e C=>∃x5,fp (fun s=>pb x2 x1 s) m x5=some z4l/\At [(0,ar af x1),(3,P6 x2),(4,P6 x5)] [] e C) n4 ⟨0,hN4,⟨⟨aa,aa,aa,tv⟩,A8.refl _⟩⟩ ?_
  rintro m e C ⟨x5,hN4,a⟩
  refine W_at a ?_
  obtain⟨m4,w4l,rfl,h4l,hn4,ho4⟩:=bl hN4
  replace h4l:pb x2 x1 x5=some w4l:=h4l
  unfold pb at h4l
  refine ba (W_rs (kMv rfl (kMv rfl (kIn rfl rfl rfl ?_))))
  refine bc h4l rfl (fun _ h4l=>?_) (fun _ h4l=>?_)
  ·refine aw (ba (ay ?_))
   refine bm (fun e C=>∃x30,pd x2 x5 x30=some w4l/\At [(0,ar af x1),(3,P6 x2),(4,P6 x5),(60,Pb x30)] [] e C) ?_ ?_
   ·rintro e C ⟨x30,h4l,a⟩
    refine W_at a ?_
    unfold pd at h4l
    refine bc h4l rfl (fun _ h4l=>?_) (fun _ h4l=>?_)
    ·refine W_rs (kMv rfl (kAs rfl ?_))
     obtain rfl:=ho4 _ (ojs h4l)
     replace h2l:some (.inr (.done x2))=some w2l:=h2l
     obtain rfl:=ho2 _ (ojs h2l)
     replace h:some x2=some r:=h
     obtain rfl:=osj h
     exact bj ⟨rfl,aa⟩
    refine aw (W_r (kMv rfl (kIn rfl rfl rfl (kAs rfl ?_))))
    exact⟨m4,lsu,w64 (x5+1),hn4 _ (ojs h4l),atOk⟩
   refine mh 45 hmx kr kr ?_
   refine lUn (hMvL rfl) (lUn (hMvA rfl) ?_)
   obtain⟨x8,k,h4l⟩:=aj h4l
   refine lUn (gu underlying38 sizeOf49 k) ?_
   refine lUn (gv xa ft) ?_
   refine lUn (dn ty3) ?_
   refine lUn (qInt rfl rfl rfl) (lUn (hMvA rfl) ?_)
   rcases cg h4l with⟨hc9,h4l⟩|⟨hc9,h4l⟩
   ·refine lGd rfl aa hc9 (hMvL rfl) (lGd rfl aa hc9 (hMvA rfl) ?_)
    obtain⟨x10,k,h4l⟩:=aj h4l
    refine lGd rfl aa hc9 (gu underlying38 sizeOf49 k) ?_
    refine lGd rfl aa hc9 (gv xa ft) ?_
    refine lGd rfl aa hc9 (dn ty3) ?_
    refine lGd rfl aa hc9 (hMvL rfl) (lGd rfl aa hc9 (hMvA rfl) ?_)
    obtain⟨x11,k,h4l⟩:=aj h4l
    refine lGd rfl aa hc9 (gu underlying38 sizeOf49 k) ?_
    refine lGd rfl aa hc9 (gv xa ft) ?_
    refine lGd rfl aa hc9 (dn ty3) ?_
    refine lGd rfl aa hc9 (qInt rfl rfl rfl) (lUn (hPt rfl hc9 rfl) (lUn (hMvA rfl) ?_))
    rcases cg h4l with⟨hc12,h4l⟩|⟨hc12,h4l⟩
    ·refine lGd rfl aa hc12 (hMvL rfl) (lGd rfl aa hc12 (hMvA rfl) ?_)
     obtain⟨x13,k,h4l⟩:=aj h4l
     refine lGd rfl aa hc12 (gu underlying38 sizeOf49 k) ?_
     refine lGd rfl aa hc12 (gv alp oj) ?_
     refine lGd rfl aa hc12 (dn ty9) ?_
     refine lGd rfl aa hc12 (hMvL rfl) (lGd rfl aa hc12 (hMvA rfl) ?_)
     obtain⟨x14,k,h4l⟩:=aj h4l
     refine lGd rfl aa hc12 (gu underlying38 sizeOf49 k) ?_
     refine lGd rfl aa hc12 (gv alp oj) ?_
     refine lGd rfl aa hc12 (dn ty9) ?_
     refine lGd rfl aa hc12 (qStr rfl rfl rfl) (lUn (hPt rfl hc12 rfl) (lUn (hMvA rfl) ?_))
     rcases cg h4l with⟨hc15,h4l⟩|⟨hc15,h4l⟩
     ·refine lGd rfl aa hc15 (hMvL rfl) (lGd rfl aa hc15 (hMvA rfl) ?_)
      obtain⟨x16,k,h4l⟩:=aj h4l
      refine lGd rfl aa hc15 (gu underlying38 sizeOf49 k) ?_
      refine lGd rfl aa hc15 (gv af9 jv) ?_
      refine lGd rfl aa hc15 (dn ty9) ?_
      refine lGd rfl aa hc15 (hMvL rfl) (lGd rfl aa hc15 (hMvA rfl) ?_)
      obtain⟨x17,k,h4l⟩:=aj h4l
      refine lGd rfl aa hc15 (gu underlying38 sizeOf49 k) ?_
      refine lGd rfl aa hc15 (gv af9 jv) ?_
      refine lGd rfl aa hc15 (dn ty9) ?_
      refine lGd rfl aa hc15 (qStr rfl rfl rfl) (lUn (hPt rfl hc15 rfl) ?_)
      exact⟨x16.Name==x17.Name,h4l,atOk⟩
     refine lsx ?_
     refine lUn (hPf rfl hc15 rfl) ?_
     exact⟨false,h4l,atOk⟩
    refine lsx ?_
    refine lUn (hPf rfl hc12 rfl) (lUn (hMvA rfl) ?_)
    have hc18:false=false:=rfl
    refine lsx ?_
    refine lUn (hPf rfl hc18 rfl) ?_
    exact⟨false,h4l,atOk⟩
   refine lsx ?_
   refine lUn (hPf rfl hc9 rfl) (lUn (hMvA rfl) ?_)
   have hc21:false=false:=rfl
   refine lsx ?_
   refine lUn (hPf rfl hc21 rfl) (lUn (hMvA rfl) ?_)
   have hc27:false=false:=rfl
   refine lsx ?_
   refine lUn (hPf rfl hc27 rfl) ?_
   exact⟨false,h4l,atOk⟩
  refine ep ?_
  obtain rfl:=ho4 _ (ojs h4l)
  exact⟨h2l,atOk⟩
 refine ep ?_
 obtain rfl:=ho2 _ (ojs h2l)
 exact⟨h,atOk⟩
def aca (R:dp):Prop:=(∀(x1:B5) (x2:List Bt) (r:B5 × Bool × (List Bt)),R x1 x2=some r->Fp 48 [(ag).val x1,ar Rp.str x2] (bu [(ag).val r.1,Pb r.2.1,ar Rp.str r.2.2]))
theorem ak6 (R:dp) (ih:aca R) (x1:B5) (x2:List Bt) (r:B5 × Bool × (List Bt)) (h:yv R x1 x2=some r):Fp 48 [(ag).val x1,ar Rp.str x2] (bu [(ag).val r.1,Pb r.2.1,ar Rp.str r.2.2]):=by
  refine dt (rs:=[.cell 4 64,.tmp 5,.tmp 6]) func48 rfl ntmps48 results48 dcd (fun s0=>?_)
  let p1:=B5.mk 0 [] [] 0 0 0 0 0 []
  unfold yv at h
  refine W_rs ?_
  refine rBox (R:=ag) (a:=x1) rfl (fun b3=>?_)
  let p2:=E0 b3 ag x1
  refine br al64 fun b4=>kAs rfl (kAs rfl (W_rs (kMvL rfl (kAsL rfl (ba (W_rs (kAs rfl (ay ?_))))))))
  let p3:=E0 b4 ag p1
  obtain⟨z2l,hz2,h⟩:=aj h
  obtain⟨n2,hN2⟩:=bt hz2
  refine dl 0 (fun e C=>∃x5,ae3 R x5=some r/\At [(4,Pr.pt b4 0),(7,ar Rp.str x5)] [p2,p3] e C) ?_ ?_
  · rintro e C ⟨x5,h,a⟩
    refine W_at a ?_
    unfold ae3 at h
    refine W_rs (kUn (ev a8 st64 rfl) ?_)
    refine kMvL rfl (au 1 rfl rfl (Upd.refl _) rfl sizeOf64 (kAs rfl (kAsL rfl ?_)))
    obtain rfl:=osj h
    exact bj ⟨rfl,[(ag).val p1,Pb false,ar Rp.str x5],⟨yBox 1 ty64 aa,yT aa,yT aa,tv⟩,aa⟩
  refine fb (fun m e C=>∃x5,∃x6,fp (fun s=>mv R x1 s.1 s.2) m (x5,x6)=some z2l/\At [(2,Pr.pt b3 0),(4,Pr.pt b4 0),(7,ar Rp.str x5),(8,P6 x6)] [p2,p3] e C) n2 ⟨x2,0,hN2,⟨⟨aa,aa,aa,aa,tv⟩,A8.refl _⟩⟩ ?_
  rintro m e C ⟨x5,x6,hN2,a⟩
  refine W_at a ?_
  obtain⟨m2,w2l,rfl,h2l,hn2,ho2⟩:=bl hN2
  replace h2l:mv R x1 x5 x6=some w2l:=h2l
  unfold mv at h2l
  refine ba (W_rs (kMv rfl (kUn (ak q9) ?_)))
  refine kUn (ax 0 ty53 d6) ?_
  refine kUn (ma rfl underlying53) ?_
  refine kIn rfl rfl rfl ?_
  refine bc h2l rfl (fun _ h2l=>?_) (fun _ h2l=>?_)
  · refine aw ?_
    refine bm (fun e C=>∃x33,∃x10,∃x20,∃b11,∃b23,vq R x6 x33 x10 x20=some w2l/\At [(2,Pr.pt b3 0),(4,Pr.pt b4 0),(7,ar Rp.str x33),(8,P6 x6)] [p2,p3,E0 b11 ag x10,E0 b23 ag x20] e C) ?_ ?_
    · rintro e C ⟨x33,x10,x20,b11,b23,h2l,a⟩
      refine W_at a ?_
      unfold vq at h2l
      refine W_r (kMv rfl (kIn rfl rfl rfl (kAs rfl ?_)))
      exact⟨m2,lsu,x33,w64 (x6+1),hn2 _ (ojs h2l),⟨⟨aa,aa,aa,aa,tv⟩,A8.of [0,1] rfl⟩⟩
    refine ay (W_rs (kUn (ak q9) ?_))
    refine kUn (ax 0 ty53 d6) ?_
    refine kMv rfl ?_
    obtain⟨x10,k,h2l⟩:=aj h2l
    refine kUn (gu underlying53 sizeOf64 k) ?_
    refine kUn (dn ty64) ?_
    refine br al64 fun b11=>au 2 rfl rfl (Upd.refl _) rfl sizeOf64 ?_
    let p4:=E0 b11 ag x10
    refine bm (fun e C=>r8 R x10 x5 x6=some w2l/\At [(2,Pr.pt b3 0),(4,Pr.pt b4 0),(7,ar Rp.str x5),(8,P6 x6),(9,Pr.pt b11 0)] [p2,p3,p4] e C) ?_ ?_
    · rintro e C ⟨h2l,a⟩
      refine W_at a ?_
      unfold r8 at h2l
      refine W_rs (kUn (ax 2 ty64 (Sub.refl _)) ?_)
      refine kMvL rfl ?_
      obtain⟨⟨x20,x21,x22⟩,k,h2l⟩:=aj h2l
      refine kUn (dv (ih x10 x5 _ k)) ?_
      refine kUn (hMv (out:=bu [(ag).val x20,Pb x21,ar Rp.str x22]) rfl) (kUn aq ?_)
      refine kUn aq ?_
      refine kUn aq ?_
      refine br al64 fun b23=>au 3 rfl rfl (Upd.refl _) rfl sizeOf64 (kAs rfl (kAsL rfl (ba (W_rs (kMv rfl ?_)))))
      refine bc h2l rfl (fun _ h2l=>?_) (fun _ h2l=>?_)
      · refine W_rs (kUn (ax 3 ty64 (Sub.refl _)) ?_)
        refine au 1 rfl rfl (Upd.refl _) rfl sizeOf64 (kAs rfl (kAs rfl ?_))
        obtain rfl:=ho2 _ (ojs h2l)
        replace h:some (x20,true,[])=some r:=h
        obtain rfl:=osj h
        exact bj ⟨rfl,[(ag).val x20,Pb true,ar Rp.str []],⟨yBox 1 ty64 aa,yT aa,yT (du _),tv⟩,aa⟩
      refine aw ?_
      refine bm (fun e C=>∃x26,vp R x5 x10 x6 x20 x26=some w2l/\At [(2,Pr.pt b3 0),(4,Pr.pt b4 0),(7,ar Rp.str x5),(8,P6 x6),(9,Pr.pt b11 0),(66,Pb x26)] [p2,p3,p4,E0 b23 ag x20] e C) ?_ ?_
      · rintro e C ⟨x26,h2l,a⟩
        refine W_at a ?_
        unfold vp at h2l
        refine bc h2l rfl (fun _ h2l=>?_) (fun _ h2l=>?_)
        · refine W_rs (kAs rfl (W_rs (kMv rfl (kMvL rfl ?_))))
          obtain⟨x29,k,h2l⟩:=aj h2l
          refine rNil [67] Rp.str 9 (fun v28=>?_) ⟨rfl,tv⟩
          refine gq 4 el22 k (fun v30=>?_)
          refine kAs rfl (W_rs (kMv rfl (kUn (ak gz) ?_)))
          refine kUn (ax 2 ty9 cc) ?_
          refine kUn (c5 (R:=Rp.str) (a:=x10.Text) el22 nb) ?_
          obtain⟨x31,k,h2l⟩:=aj h2l
          refine gq 4 el22 k (fun v32=>?_)
          refine kAs rfl (W_r (kMv rfl ?_))
          refine rRel 4 [14,75] ?_ rfl ⟨rfl,rfl,tv⟩
          refine kAsL rfl ?_
          exact⟨x31,x10,x20,b11,b23,h2l,atOk⟩
        refine aw ?_
        exact⟨x5,x10,x20,b11,b23,h2l,atOk⟩
      refine W_r (kUn (ak ig) ?_)
      refine kUn (ax 2 ty3 bq) ?_
      refine kIn rfl rfl rfl (kMv rfl ?_)
      rcases cg h2l with⟨hc25,h2l⟩|⟨hc25,h2l⟩
      · refine skx ?_
        refine kPt rfl hc25 rfl ?_
        exact⟨true,h2l,atOk⟩
      refine kGd rfl aa hc25 (ak ig) ?_
      refine kGd rfl aa hc25 (ax 2 ty3 bq) ?_
      refine kGd rfl aa hc25 (qInt rfl rfl rfl) (kPf rfl hc25 rfl ?_)
      exact⟨x10.Kind==6,h2l,atOk⟩
    refine bm (fun e C=>∃x13,r7 R x5 x10 x6 x13=some w2l/\At [(2,Pr.pt b3 0),(4,Pr.pt b4 0),(7,ar Rp.str x5),(8,P6 x6),(9,Pr.pt b11 0),(35,Pb x13)] [p2,p3,p4] e C) ?_ ?_
    · rintro e C ⟨x13,h2l,a⟩
      refine W_at a ?_
      unfold r7 at h2l
      refine bc h2l rfl (fun _ h2l=>?_) (fun _ h2l=>?_)
      · refine W_rs (kAs rfl (ay ?_))
        obtain⟨z7l,hz7,h2l⟩:=aj h2l
        obtain⟨n7,hN7⟩:=bt hz7
        refine dl 2 (fun e C=>aal R x10 x5 x6=some w2l/\At [(2,Pr.pt b3 0),(4,Pr.pt b4 0),(7,ar Rp.str x5),(8,P6 x6),(9,Pr.pt b11 0)] [p2,p3,p4] e C) ?_ ?_
        · rintro e C ⟨h2l,a⟩
          unfold aal at h2l
          exact⟨h2l,(At.trans a ⟨⟨aa,aa,aa,aa,aa,tv⟩,A8.refl _⟩)⟩
        refine fb (fun m e C=>∃x15,fp (fun s=>pe R x5 x10 s) m x15=some z7l/\At [(2,Pr.pt b3 0),(4,Pr.pt b4 0),(7,ar Rp.str x5),(8,P6 x6),(9,Pr.pt b11 0),(10,P6 x15)] [p2,p3,p4] e C) n7 ⟨0,hN7,⟨⟨aa,aa,aa,aa,aa,aa,tv⟩,A8.refl _⟩⟩ ?_
        rintro m e C ⟨x15,hN7,a⟩
        refine W_at a ?_
        obtain⟨m7,w7l,rfl,h7l,hn7,ho7⟩:=bl hN7
        replace h7l:pe R x5 x10 x15=some w7l:=h7l
        unfold pe at h7l
        refine ba (W_rs (kMv rfl (kMvL rfl (kUn (ma rfl underlying22) ?_))))
        refine kIn rfl rfl rfl ?_
        refine bc h7l rfl (fun _ h7l=>?_) (fun _ h7l=>?_)
        · refine aw (ba (ay ?_))
          refine bm (fun e C=>∃x18,aam R x10 x15 x18=some w7l/\At [(2,Pr.pt b3 0),(4,Pr.pt b4 0),(7,ar Rp.str x5),(8,P6 x6),(9,Pr.pt b11 0),(10,P6 x15),(48,Pb (x18==x10.Text))] [p2,p3,p4] e C) ?_ ?_
          · rintro e C ⟨x18,h7l,a⟩
            refine W_at a ?_
            unfold aam at h7l
            refine bc h7l rfl (fun _ h7l=>?_) (fun _ h7l=>?_)
            · refine W_rs (kUn (ax 2 ty64 (Sub.refl _)) ?_)
              refine au 1 rfl rfl (Upd.refl _) rfl sizeOf64 (kAs rfl (kAs rfl ?_))
              obtain rfl:=ho7 _ (ojs h7l)
              replace h2l:some (.inr (.done (x10,true,[])))=some w2l:=h2l
              obtain rfl:=ho2 _ (ojs h2l)
              replace h:some (x10,true,[])=some r:=h
              obtain rfl:=osj h
              exact bj ⟨rfl,[(ag).val x10,Pb true,ar Rp.str []],⟨yBox 1 ty64 aa,yT aa,yT (du _),tv⟩,aa⟩
            refine aw (W_r (kMv rfl (kIn rfl rfl rfl (kAs rfl ?_))))
            exact⟨m7,lsu,w64 (x15+1),hn7 _ (ojs h7l),atOk⟩
          refine mh 7 hmx kr kr ?_
          refine lUn (hMvL rfl) (lUn (hMvA rfl) ?_)
          obtain⟨x18,k,h7l⟩:=aj h7l
          refine lUn (gu underlying22 sizeOf9 k) ?_
          refine lUn (dn ty9) ?_
          refine lUn (ak gz) ?_
          refine lUn (ax 2 ty9 cc) ?_
          refine lUn (qStr rfl rfl rfl) ?_
          exact⟨x18,h7l,atOk⟩
        refine ep ?_
        obtain rfl:=ho7 _ (ojs h7l)
        exact⟨h2l,atOk⟩
      refine aw ?_
      exact⟨h2l,atOk⟩
    refine W_r (kUn (ak ig) ?_)
    refine kUn (ax 2 ty3 bq) ?_
    refine kIn rfl rfl rfl (kMv rfl ?_)
    rcases cg h2l with⟨hc12,h2l⟩|⟨hc12,h2l⟩
    · refine skx ?_
      refine kPt rfl hc12 rfl ?_
      exact⟨true,h2l,atOk⟩
    refine kGd rfl aa hc12 (ak ig) ?_
    refine kGd rfl aa hc12 (ax 2 ty3 bq) ?_
    refine kGd rfl aa hc12 (qInt rfl rfl rfl) (kPf rfl hc12 rfl ?_)
    exact⟨x10.Kind==6,h2l,atOk⟩
  refine ep ?_
  obtain rfl:=ho2 _ (ojs h2l)
  exact⟨x5,h,atOk⟩
theorem akw :∀n,aca (gh n):=by
 intro n
 induction n with
 |zero=>exact(fun x1 x2 r h=>nomatch (show none=some r from h))
 |succ n ih=>exact(fun x1 x2 r h=>ak6 (gh n) ih x1 x2 r h)
theorem ap0 (x1:B5) (x2:List Bt) (r:B5 × Bool × (List Bt)) (h:ajk x1 x2=some r):Fp 48 [(ag).val x1,ar Rp.str x2] (bu [(ag).val r.1,Pb r.2.1,ar Rp.str r.2.2]):=(akw 1048576) x1 x2 r h
end Go.Proofs.YtcndghapmoaidaaGreatDoor
set_option linter.unusedSectionVars false
set_option maxRecDepth 100000
set_option maxHeartbeats 4000000
namespace Go.Proofs.YtcndghapmoaidaaGreatDoor
open Go Go.Cn Tryz
attribute [local irreducible] qx ar
theorem ap1 (x1:List (List B5)) (r:(List A9) × B3) (h:zt x1=some r):Fp 20 [ar (Rp.list ag) x1] (bu [ar af r.1,(az).val r.2]):=by
  refine dt (rs:=[.tmp 2,.cell 3 30]) func20 rfl ntmps20 results20 dcd (fun s0=>?_)
  let p1:=B3.mk 0 0 0
  unfold zt at h
  refine W_rs (kAs rfl (br al30 fun b2=>W_rs (kAs rfl (ba (W_rs (kAs rfl (ay ?_)))))))
  let p2:=E0 b2 az p1
  obtain⟨z2l,hz2,h⟩:=aj h
  obtain⟨n2,hN2⟩:=bt hz2
  refine dl 0 (fun e C=>∃x5,∃v3,ae4 x5=some r/\At [(3,Pr.pt b2 0),(4,Pi v3)] [p2,E3 v3 af x5 49] e C) ?_ ?_
  · rintro e C ⟨x5,v3,h,a⟩
    refine W_at a ?_
    unfold ae4 at h
    refine W_rs (kMv rfl (kUn (jh st30 rfl) ?_))
    refine kAs rfl (au 0 rfl rfl (Upd.refl _) rfl sizeOf30 ?_)
    refine apq 1 [2] ?_ rfl ⟨rfl,tv⟩
    obtain rfl:=osj h
    exact bj ⟨rfl,[ar af x5,(az).val p1],⟨yT aa,yBox 0 ty30 aa,tv⟩,aa⟩
  refine agx [4] af 49 (fun v56=>?_) ⟨rfl,tv⟩
  refine fb (fun m e C=>∃x4,∃x5,∃v3,fp (fun s=>mw x1 s.1 s.2) m (x4,x5)=some z2l/\At [(0,ar (Rp.list ag) x1),(3,Pr.pt b2 0),(4,Pi v3),(5,P6 x4)] [p2,E3 v3 af x5 49] e C) n2 ⟨0,[],v56,hN2,⟨⟨aa,aa,aa,aa,tv⟩,A8.refl _⟩⟩ ?_
  rintro m e C ⟨x4,x5,v3,hN2,a⟩
  refine W_at a ?_
  obtain⟨m2,w2l,rfl,h2l,hn2,ho2⟩:=bl hN2
  replace h2l:mw x1 x4 x5=some w2l:=h2l
  unfold mw at h2l
  refine ba (W_rs (kMv rfl (kMvL rfl (kUn (ma rfl underlying24) ?_))))
  refine kIn rfl rfl rfl ?_
  refine bc h2l rfl (fun _ h2l=>?_) (fun _ h2l=>?_)
  · refine aw (ba (ay (W_rs (kAs rfl (ay ?_)))))
    obtain⟨z4l,hz4,h2l⟩:=aj h2l
    obtain⟨n4,hN4⟩:=bt hz4
    refine dl 2 (fun e C=>∃x12,∃v10,aan x4 x12=some w2l/\At [(0,ar (Rp.list ag) x1),(3,Pr.pt b2 0),(4,Pi v10),(5,P6 x4)] [p2,E3 v10 af x12 49] e C) ?_ ?_
    · rintro e C ⟨x12,v10,h2l,a⟩
      refine W_at a ?_
      unfold aan at h2l
      refine W_r (kMv rfl (kIn rfl rfl rfl (kAs rfl ?_)))
      exact⟨m2,lsu,w64 (x4+1),x12,v10,hn2 _ (ojs h2l),atOk⟩
    refine fb (fun m e C=>∃x11,∃x12,∃v10,fp (fun s=>pf x1 x4 s.1 s.2) m (x11,x12)=some z4l/\At [(0,ar (Rp.list ag) x1),(3,Pr.pt b2 0),(4,Pi v10),(5,P6 x4),(6,P6 x11)] [p2,E3 v10 af x12 49] e C) n4 ⟨0,x5,v3,hN4,⟨⟨aa,aa,aa,aa,aa,tv⟩,A8.refl _⟩⟩ ?_
    rintro m e C ⟨x11,x12,v10,hN4,a⟩
    refine W_at a ?_
    obtain⟨m4,w4l,rfl,h4l,hn4,ho4⟩:=bl hN4
    replace h4l:pf x1 x4 x11 x12=some w4l:=h4l
    unfold pf at h4l
    refine ba (W_rs (kMv rfl (kMvL rfl (kMv rfl ?_))))
    obtain⟨x16,k,h4l⟩:=aj h4l
    refine kUn (gu underlying24 sizeOf53 k) ?_
    refine kUn (dn ty53) ?_
    refine kUn (ma rfl underlying53) ?_
    refine kIn rfl rfl rfl ?_
    refine bc h4l rfl (fun _ h4l=>?_) (fun _ h4l=>?_)
    · refine aw ?_
      refine bm (fun e C=>∃x55,∃x19,∃v54,∃b20,r9 x11 x55 x19=some w4l/\At [(0,ar (Rp.list ag) x1),(3,Pr.pt b2 0),(4,Pi v54),(5,P6 x4),(6,P6 x11)] [p2,E3 v54 af x55 49,E0 b20 ag x19] e C) ?_ ?_
      · rintro e C ⟨x55,x19,v54,b20,h4l,a⟩
        refine W_at a ?_
        unfold r9 at h4l
        refine W_r (kMv rfl (kIn rfl rfl rfl (kAs rfl ?_)))
        exact⟨m4,lsu,w64 (x11+1),x55,v54,hn4 _ (ojs h4l),⟨⟨aa,aa,aa,aa,aa,tv⟩,A8.of [0,1] rfl⟩⟩
      refine ay (W_rs (kMvL rfl (kMv rfl ?_)))
      obtain⟨x18,k,h4l⟩:=aj h4l
      refine kUn (gu underlying24 sizeOf53 k) ?_
      refine kUn (dn ty53) ?_
      refine kMv rfl ?_
      obtain⟨x19,k,h4l⟩:=aj h4l
      let p3:=A9.mk 1 x19.Text x19.Text [] x19.Type_ false [] x4 x19.At
      refine kUn (gu underlying53 sizeOf64 k) ?_
      refine kUn (dn ty64) ?_
      refine br al64 fun b20=>au 2 rfl rfl (Upd.refl _) rfl sizeOf64 (ba (W_rs (kUn (ak ig) ?_)))
      let p4:=E0 b20 ag x19
      refine kUn (ax 2 ty3 bq) ?_
      refine kIn rfl rfl rfl ?_
      refine bc h4l rfl (fun _ h4l=>?_) (fun _ h4l=>?_)
      · refine ep ?_
        exact⟨x12,x19,v10,b20,h4l,atOk⟩
      refine aw (W_rs (kMv rfl (kUn (ak gz) ?_)))
      refine kUn (ax 2 ty9 cc) ?_
      refine kUn (ak gz) ?_
      refine kUn (ax 2 ty9 cc) ?_
      refine kUn (ak zn) ?_
      refine kUn (ax 2 ty9 iu) ?_
      refine kMv rfl (kUn (ak tf) ?_)
      refine kUn (ax 2 ty3 jl) ?_
      refine kUn (jh st49 ⟨(A9.mk 1 [] [] [] [] false [] 0 0),⟨_,rfl,rfl,qbj⟩,⟨(A9.mk 1 x19.Text [] [] [] false [] 0 0),⟨_,rfl,rfl,qbj⟩,⟨(A9.mk 1 x19.Text x19.Text [] [] false [] 0 0),⟨_,rfl,rfl,qbj⟩,⟨(A9.mk 1 x19.Text x19.Text [] x19.Type_ false [] 0 0),⟨_,rfl,rfl,qbj⟩,⟨(A9.mk 1 x19.Text x19.Text [] x19.Type_ false [] x4 0),⟨_,rfl,rfl,qbj⟩,⟨p3,⟨_,rfl,rfl,qbj⟩,rfl⟩⟩⟩⟩⟩⟩) ?_
      refine kUn (c5 (R:=af) (a:=p3) el38 nb) ?_
      obtain⟨x22,k,h4l⟩:=aj h4l
      refine gq 1 el38 k (fun v23=>?_)
      refine kAs rfl (ba (W_rs (kAs rfl (ay ?_))))
      obtain⟨z8l,hz8,h4l⟩:=aj h4l
      obtain⟨n8,hN8⟩:=bt hz8
      refine dl 4 (fun e C=>∃x26,∃v24,mx x11 x19 x26=some w4l/\At [(0,ar (Rp.list ag) x1),(3,Pr.pt b2 0),(4,Pi v24),(5,P6 x4),(6,P6 x11)] [p2,E3 v24 af x26 49,p4] e C) ?_ ?_
      · rintro e C ⟨x26,v24,h4l,a⟩
        refine W_at a ?_
        unfold mx at h4l
        refine W_rs (kMv rfl ?_)
        obtain⟨x50,k,h4l⟩:=aj h4l
        refine kUn (a1u 1 (aja x26 _ k) ⟨.inr ⟨aa,rfl⟩,tv⟩ (fun _ _ _ h=>h)) ?_
        refine kAs rfl (W_rs (kMv rfl (kIn rfl rfl rfl ?_)))
        refine bc h4l rfl (fun _ h4l=>?_) (fun _ h4l=>?_)
        · refine bm (fun e C=>∃x52,∃x53,aao x52 x53=some w4l/\At [(2,Pi (.slice none 0 0)),(3,Pr.pt b2 0)] [E0 b2 az (B3.mk 150 x52.File x53.At),p4] e C) ?_ ?_
          · rintro e C ⟨x52,x53,h4l,a⟩
            refine W_at a ?_
            unfold aao at h4l
            obtain rfl:=ho4 _ (ojs h4l)
            replace h2l:some (.inr (.done ([],(B3.mk 150 x52.File x53.At))))=some w2l:=h2l
            obtain rfl:=ho2 _ (ojs h2l)
            replace h:some ([],(B3.mk 150 x52.File x53.At))=some r:=h
            obtain rfl:=osj h
            exact bj ⟨rfl,[ar af [],(az).val (B3.mk 150 x52.File x53.At)],⟨yT (du _),yBox 0 ty30 aa,tv⟩,aa⟩
          refine mh 12 hmx kr kr ?_
          refine lUn (hMvA rfl) (lUn (hMvA rfl) ?_)
          obtain⟨x52,k,h4l⟩:=aj h4l
          refine lUn (yf 1 (R:=af) (l:=x26) underlying38 sizeOf49 k) ?_
          refine lUn (au5 anx) ?_
          refine lUn (xp (R:=af) (R':=Rp.int .i64) (l:=x26) (a:=x52) (o:=7) 1 ty3 z0 nb k rfl) ?_
          refine lUn (hMvA rfl) (lUn (hMvA rfl) ?_)
          obtain⟨x53,k,h4l⟩:=aj h4l
          refine lUn (yf 1 (R:=af) (l:=x26) underlying38 sizeOf49 k) ?_
          refine lUn (au5 avc) ?_
          refine lUn (xp (R:=af) (R':=Rp.int .i64) (l:=x26) (a:=x53) (o:=8) 1 ty3 adk nb k rfl) ?_
          refine lUn (jh st30 ⟨(B3.mk 150 0 0),⟨_,rfl,rfl,qbj⟩,⟨(B3.mk 150 x52.File 0),⟨_,rfl,rfl,qbj⟩,⟨(B3.mk 150 x52.File x53.At),⟨_,rfl,rfl,qbj⟩,rfl⟩⟩⟩) ?_
          refine lUn (hAsA rfl) (au 0 rfl rfl (Upd.refl _) rfl sizeOf30 ?_)
          exact⟨x52,x53,h4l,⟨⟨aa,aa,tv⟩,A8.of [0,2] rfl⟩⟩
        refine aw ?_
        exact⟨x26,x19,v24,b20,h4l,atOk⟩
      refine fb (fun m e C=>∃x25,∃x26,∃v24,fp (fun s=>lc x19 x4 s.1 s.2) m (x25,x26)=some z8l/\At [(0,ar (Rp.list ag) x1),(3,Pr.pt b2 0),(4,Pi v24),(5,P6 x4),(6,P6 x11),(7,Pr.pt b20 0),(8,P6 x25)] [p2,E3 v24 af x26 49,p4] e C) n8 ⟨0,x22,v23,hN8,⟨⟨aa,aa,aa,aa,aa,aa,aa,tv⟩,A8.refl _⟩⟩ ?_
      rintro m e C ⟨x25,x26,v24,hN8,a⟩
      refine W_at a ?_
      obtain⟨m8,w8l,rfl,h8l,hn8,ho8⟩:=bl hN8
      replace h8l:lc x19 x4 x25 x26=some w8l:=h8l
      unfold lc at h8l
      refine ba (W_rs (kMv rfl (kUn (ak q9) ?_)))
      refine kUn (ax 2 ty53 d6) ?_
      refine kUn (ma rfl underlying53) ?_
      refine kIn rfl rfl rfl ?_
      refine bc h8l rfl (fun _ h8l=>?_) (fun _ h8l=>?_)
      · refine aw ?_
        refine bm (fun e C=>∃x49,∃x31,∃v48,∃b32,pg x25 x49 x31=some w8l/\At [(0,ar (Rp.list ag) x1),(3,Pr.pt b2 0),(4,Pi v48),(5,P6 x4),(6,P6 x11),(7,Pr.pt b20 0),(8,P6 x25)] [p2,E3 v48 af x49 49,p4,E0 b32 ag x31] e C) ?_ ?_
        · rintro e C ⟨x49,x31,v48,b32,h8l,a⟩
          refine W_at a ?_
          unfold pg at h8l
          refine W_r (kMv rfl (kIn rfl rfl rfl (kAs rfl ?_)))
          exact⟨m8,lsu,w64 (x25+1),x49,v48,hn8 _ (ojs h8l),⟨⟨aa,aa,aa,aa,aa,aa,aa,tv⟩,A8.of [0,1,2] rfl⟩⟩
        refine ay (W_rs (kUn (ak q9) ?_))
        refine kUn (ax 2 ty53 d6) ?_
        refine kMv rfl ?_
        obtain⟨x31,k,h8l⟩:=aj h8l
        refine kUn (gu underlying53 sizeOf64 k) ?_
        refine kUn (dn ty64) ?_
        refine br al64 fun b32=>au 3 rfl rfl (Upd.refl _) rfl sizeOf64 (ba ?_)
        refine bm (fun e C=>∃x34,qf x25 x26 x31 x19 x4 x34=some w8l/\At [(0,ar (Rp.list ag) x1),(3,Pr.pt b2 0),(4,Pi v24),(5,P6 x4),(6,P6 x11),(7,Pr.pt b20 0),(8,P6 x25),(9,Pr.pt b32 0),(71,Pb x34)] [p2,E3 v24 af x26 49,p4,E0 b32 ag x31] e C) ?_ ?_
        · rintro e C ⟨x34,h8l,a⟩
          refine W_at a ?_
          unfold qf at h8l
          refine bc h8l rfl (fun _ h8l=>?_) (fun _ h8l=>?_)
          · refine ep ?_
            exact⟨x26,x31,v24,b32,h8l,atOk⟩
          refine aw (W_rs (kMv rfl (kUn (ak gz) ?_)))
          refine kUn (ax 2 ty9 cc) ?_
          refine kMv rfl (kUn (ax 3 ty64 (Sub.refl _)) ?_)
          refine c8 h8l (ao9 x19.Text x4 x31) rfl fun x36 _ h8l=>?_
          obtain⟨x37,k,h8l⟩:=aj h8l
          refine gq 1 el38 k (fun v38=>?_)
          refine kAs rfl (ba (W_rs (kMv rfl ?_)))
          obtain⟨x39,k,h8l⟩:=aj h8l
          refine kUn (a1u 1 (aja x37 _ k) ⟨.inr ⟨aa,rfl⟩,tv⟩ (fun _ _ _ h=>h)) ?_
          refine kIn rfl rfl rfl ?_
          refine bc h8l rfl (fun _ h8l=>?_) (fun _ h8l=>?_)
          · refine ep ?_
            exact⟨x37,x31,v38,b32,h8l,atOk⟩
          refine aw (W_rs (kUn (ax 3 ty64 (Sub.refl _)) ?_))
          obtain⟨⟨x41,x42,x43⟩,k,h8l⟩:=aj h8l
          let p5:=B3.mk 150 x4 x41.At
          refine kUn (acy (ap0 x31 [] _ k) ⟨aa,du _,tv⟩) ?_
          refine kUn (hMv (out:=bu [(ag).val x41,Pb x42,ar Rp.str x43]) rfl) (kUn aq ?_)
          refine kUn aq ?_
          refine kUn aq ?_
          refine br al64 fun b44=>au 4 rfl rfl (Upd.refl _) rfl sizeOf64 (kAs rfl (kAsL rfl ?_))
          refine bm (fun e C=>∃x46,lj x4 x41 x25 x37 x31 x46=some w8l/\At [(0,ar (Rp.list ag) x1),(3,Pr.pt b2 0),(4,Pi v38),(5,P6 x4),(6,P6 x11),(7,Pr.pt b20 0),(8,P6 x25),(10,Pr.pt b44 0),(93,Pb x46)] [p2,E3 v38 af x37 49,p4,E0 b32 ag x31,E0 b44 ag x41] e C) ?_ ?_
          · rintro e C ⟨x46,h8l,a⟩
            refine W_at a ?_
            unfold lj at h8l
            refine bc h8l rfl (fun _ h8l=>?_) (fun _ h8l=>?_)
            · refine bm (fun e C=>y6 x4 x41=some w8l/\At [(2,Pi (.slice none 0 0)),(3,Pr.pt b2 0)] [E0 b2 az p5,p4,E0 b32 ag x31,E0 b44 ag x41] e C) ?_ ?_
              · rintro e C ⟨h8l,a⟩
                refine W_at a ?_
                unfold y6 at h8l
                obtain rfl:=ho8 _ (ojs h8l)
                replace h4l:some (.inr (.done (.inr (.done ([],p5)))))=some w4l:=h4l
                obtain rfl:=ho4 _ (ojs h4l)
                replace h2l:some (.inr (.done ([],p5)))=some w2l:=h2l
                obtain rfl:=ho2 _ (ojs h2l)
                replace h:some ([],p5)=some r:=h
                obtain rfl:=osj h
                exact bj ⟨rfl,[ar af [],(az).val p5],⟨yT (du _),yBox 0 ty30 aa,tv⟩,aa⟩
              refine mh 5 hmx kr kr ?_
              refine lUn (hMvA rfl) (lUn (ak tf) ?_)
              refine lUn (ax 4 ty3 jl) ?_
              refine lUn (jh st30 ⟨(B3.mk 150 0 0),⟨_,rfl,rfl,qbj⟩,⟨(B3.mk 150 x4 0),⟨_,rfl,rfl,qbj⟩,⟨p5,⟨_,rfl,rfl,qbj⟩,rfl⟩⟩⟩) ?_
              refine lUn (hAsA rfl) (au 0 rfl rfl (Upd.refl _) rfl sizeOf30 ?_)
              exact⟨h8l,⟨⟨aa,aa,tv⟩,A8.of [0,2,3,4] rfl⟩⟩
            refine aw ?_
            exact⟨x37,x31,v38,b32,h8l,⟨⟨aa,aa,aa,aa,aa,aa,aa,tv⟩,A8.of [0,1,2,3] rfl⟩⟩
          refine W_r (kUn (ak ig) ?_)
          refine kUn (ax 3 ty3 bq) ?_
          refine kIn rfl rfl rfl (kMv rfl ?_)
          rcases cg h8l with⟨hc45,h8l⟩|⟨hc45,h8l⟩
          · refine kGd rfl aa hc45 (hMvA rfl) (kPt rfl hc45 rfl ?_)
            exact⟨x42,h8l,atOk⟩
          refine kSkT rfl aa hc45 (kPf rfl hc45 rfl ?_)
          exact⟨false,h8l,atOk⟩
        refine W_r (kUn (ak ig) ?_)
        refine kUn (ax 3 ty3 bq) ?_
        refine kIn rfl rfl rfl (kMv rfl ?_)
        rcases cg h8l with⟨hc33,h8l⟩|⟨hc33,h8l⟩
        · refine kGd rfl aa hc33 (ak ig) ?_
          refine kGd rfl aa hc33 (ax 3 ty3 bq) ?_
          refine kGd rfl aa hc33 (qInt rfl rfl rfl) (kPt rfl hc33 rfl ?_)
          exact⟨x31.Kind != 3,h8l,atOk⟩
        refine skx ?_
        refine kPf rfl hc33 rfl ?_
        exact⟨false,h8l,atOk⟩
      refine ep ?_
      obtain rfl:=ho8 _ (ojs h8l)
      exact⟨x26,v24,h4l,atOk⟩
    refine ep ?_
    obtain rfl:=ho4 _ (ojs h4l)
    exact⟨x12,v10,h2l,atOk⟩
  refine ep ?_
  obtain rfl:=ho2 _ (ojs h2l)
  exact⟨x5,v3,h,atOk⟩
theorem amy (x1:Bt) (x2:Int) (r:Int × Bool) (h:ys x1 x2=some r):Fp 49 [Pr.str x1,P6 x2] (bu [P6 r.1,Pb r.2]):=by
  refine dr (rs:=[4,5]) func49 rfl ntmps49 ⟨by decide,results49⟩ dcd (fun s0=>?_)
  unfold ys at h
  refine W_rs (kAs rfl (kAs rfl (ba (ay ?_))))
  obtain⟨z2l,hz2,h⟩:=aj h
  obtain⟨n2,hN2⟩:=bt hz2
  refine dl 0 (fun e C=>∃x3,w7 x3=some r/\At [(1,P6 x3)] [] e C) ?_ ?_
  · rintro e C ⟨x3,h,a⟩
    refine W_at a ?_
    unfold w7 at h
    refine W_rs (kMv rfl (kAs rfl (kAs rfl ?_)))
    obtain rfl:=osj h
    exact bj ⟨rfl,aa⟩
  refine fb (fun m e C=>∃x3,fp (fun s=>ru x1 s) m x3=some z2l/\At [(0,Pr.str x1),(1,P6 x3)] [] e C) n2 ⟨x2,hN2,⟨⟨aa,aa,tv⟩,A8.refl _⟩⟩ ?_
  rintro m e C ⟨x3,hN2,a⟩
  refine W_at a ?_
  obtain⟨m2,w2l,rfl,h2l,hn2,ho2⟩:=bl hN2
  replace h2l:ru x1 x3=some w2l:=h2l
  unfold ru at h2l
  refine ba (W_rs (kMv rfl (kMv rfl (kUn (ain rfl underlying9) ?_))))
  refine kIn rfl rfl rfl ?_
  refine bc h2l rfl (fun _ h2l=>?_) (fun _ h2l=>?_)
  · refine aw (ay (W_rs (kMv rfl (kMv rfl ?_))))
    obtain⟨x6,k,h2l⟩:=aj h2l
    refine kUn (ag2 underlying9 k) ?_
    refine kAs rfl (ba ?_)
    refine bm (fun e C=>∃x14,i5 x3 x1 x6 x14=some w2l/\At [(0,Pr.str x1),(1,P6 x3),(6,Pr.u8 x6),(28,Pb x14)] [] e C) ?_ ?_
    · rintro e C ⟨x14,h2l,a⟩
      refine W_at a ?_
      unfold i5 at h2l
      refine bc h2l rfl (fun _ h2l=>?_) (fun _ h2l=>?_)
      · refine W_rs (kMv rfl (kIn rfl rfl rfl (kAs rfl ?_)))
        refine ep ?_
        exact⟨m2,lsu,w64 (x3+1),hn2 _ (ojs h2l),atOk⟩
      refine aw (ba ?_)
      refine bm (fun e C=>∃x25,iz x3 x1 x25=some w2l/\At [(0,Pr.str x1),(1,P6 x3),(53,Pb x25)] [] e C) ?_ ?_
      · rintro e C ⟨x25,h2l,a⟩
        refine W_at a ?_
        unfold iz at h2l
        refine bc h2l rfl (fun _ h2l=>?_) (fun _ h2l=>?_)
        · refine W_rs (kMv rfl (kAs rfl (kAs rfl ?_)))
          obtain rfl:=ho2 _ (ojs h2l)
          replace h:some (x3,true)=some r:=h
          obtain rfl:=osj h
          exact bj ⟨rfl,aa⟩
        refine aw (ba (W_rs (kMv rfl (kMv rfl (kIn rfl rfl rfl ?_)))))
        obtain⟨x27,k,h2l⟩:=aj h2l
        refine kUn (ag2 underlying9 k) ?_
        refine kIn rfl rfl rfl ?_
        refine bc h2l rfl (fun _ h2l=>?_) (fun _ h2l=>?_)
        · refine ba (ay ?_)
          obtain⟨z4l,hz4,h2l⟩:=aj h2l
          obtain⟨n4,hN4⟩:=bt hz4
          refine dl 2 (fun e C=>∃x29,ab2 x29=some w2l/\At [(0,Pr.str x1),(1,P6 x29)] [] e C) ?_ ?_
          · rintro e C ⟨x29,h2l,a⟩
            refine W_at a ?_
            unfold ab2 at h2l
            refine ep ?_
            exact⟨m2,lsu,x29,hn2 _ (ojs h2l),atOk⟩
          refine fb (fun m e C=>∃x29,fp (fun s=>rt x1 s) m x29=some z4l/\At [(0,Pr.str x1),(1,P6 x29)] [] e C) n4 ⟨x3,hN4,⟨⟨aa,aa,tv⟩,A8.refl _⟩⟩ ?_
          rintro m e C ⟨x29,hN4,a⟩
          refine W_at a ?_
          obtain⟨m4,w4l,rfl,h4l,hn4,ho4⟩:=bl hN4
          replace h4l:rt x1 x29=some w4l:=h4l
          unfold rt at h4l
          refine ba ?_
          refine bm (fun e C=>∃x33,rv x29 x33=some w4l/\At [(0,Pr.str x1),(1,P6 x29),(69,Pb x33)] [] e C) ?_ ?_
          · rintro e C ⟨x33,h4l,a⟩
            refine W_at a ?_
            unfold rv at h4l
            refine bc h4l rfl (fun _ h4l=>?_) (fun _ h4l=>?_)
            · refine aw (ay (W_r (kMv rfl (kIn rfl rfl rfl (kAs rfl ?_)))))
              exact⟨m4,lsu,w64 (x29+1),hn4 _ (ojs h4l),atOk⟩
            refine ep ?_
            obtain rfl:=ho4 _ (ojs h4l)
            exact⟨x29,h2l,atOk⟩
          refine W_r (kMv rfl (kMv rfl (kUn (ain rfl underlying9) ?_)))
          refine kIn rfl rfl rfl (kMv rfl ?_)
          rcases cg h4l with⟨hc31,h4l⟩|⟨hc31,h4l⟩
          · refine kGd rfl aa hc31 (hMvA rfl) (kGd rfl aa hc31 (hMvA rfl) ?_)
            obtain⟨x32,k,h4l⟩:=aj h4l
            refine kGd rfl aa hc31 (ag2 underlying9 k) ?_
            refine kGd rfl aa hc31 (qInt rfl rfl rfl) (kPt rfl hc31 rfl ?_)
            exact⟨x32 != 10,h4l,atOk⟩
          refine skx ?_
          refine kPf rfl hc31 rfl ?_
          exact⟨false,h4l,atOk⟩
        refine aw (W_rs (kMv rfl (kIn rfl rfl rfl (kAs rfl (ba (ay ?_))))))
        obtain⟨z7l,hz7,h2l⟩:=aj h2l
        obtain⟨n7,hN7⟩:=bt hz7
        refine dl 4 (fun e C=>∃x35,w6 x1 x3 x35=some w2l/\At [(0,Pr.str x1),(1,P6 x3),(7,P6 x35)] [] e C) ?_ ?_
        · rintro e C ⟨x35,h2l,a⟩
          refine W_at a ?_
          unfold w6 at h2l
          refine ba (W_rs (kMv rfl (kIn rfl rfl rfl (kMv rfl (kUn (ain rfl underlying9) ?_)))))
          refine kIn rfl rfl rfl ?_
          refine bc h2l rfl (fun _ h2l=>?_) (fun _ h2l=>?_)
          · refine W_rs (kMv rfl (kAs rfl (kAs rfl ?_)))
            obtain rfl:=ho2 _ (ojs h2l)
            replace h:some (x3,false)=some r:=h
            obtain rfl:=osj h
            exact bj ⟨rfl,aa⟩
          refine aw (W_r (kMv rfl (kIn rfl rfl rfl (kAs rfl ?_))))
          exact⟨m2,lsu,w64 (x35+2),hn2 _ (ojs h2l),atOk⟩
        refine fb (fun m e C=>∃x35,fp (fun s=>rp x1 s) m x35=some z7l/\At [(0,Pr.str x1),(1,P6 x3),(7,P6 x35)] [] e C) n7 ⟨w64 (x3+2),hN7,⟨⟨aa,aa,aa,tv⟩,A8.refl _⟩⟩ ?_
        rintro m e C ⟨x35,hN7,a⟩
        refine W_at a ?_
        obtain⟨m7,w7l,rfl,h7l,hn7,ho7⟩:=bl hN7
        replace h7l:rp x1 x35=some w7l:=h7l
        unfold rp at h7l
        refine ba ?_
        refine bm (fun e C=>∃x41,od x35 x41=some w7l/\At [(0,Pr.str x1),(1,P6 x3),(7,P6 x35),(91,Pb x41)] [] e C) ?_ ?_
        · rintro e C ⟨x41,h7l,a⟩
          refine W_at a ?_
          unfold od at h7l
          refine bc h7l rfl (fun _ h7l=>?_) (fun _ h7l=>?_)
          · refine aw (ay (W_r (kMv rfl (kIn rfl rfl rfl (kAs rfl ?_)))))
            exact⟨m7,lsu,w64 (x35+1),hn7 _ (ojs h7l),atOk⟩
          refine ep ?_
          obtain rfl:=ho7 _ (ojs h7l)
          exact⟨x35,h2l,atOk⟩
        refine W_r (kMv rfl (kIn rfl rfl rfl (kMv rfl (kUn (ain rfl underlying9) ?_))))
        refine kIn rfl rfl rfl (kMv rfl ?_)
        rcases cg h7l with⟨hc37,h7l⟩|⟨hc37,h7l⟩
        · refine kGd rfl aa hc37 (hMvA rfl) (kGd rfl aa hc37 (hMvA rfl) ?_)
          obtain⟨x38,k,h7l⟩:=aj h7l
          refine kGd rfl aa hc37 (ag2 underlying9 k) ?_
          refine kGd rfl aa hc37 (qInt rfl rfl rfl) (kGd rfl aa hc37 (hMvA rfl) ?_)
          rcases cg h7l with⟨hc39,h7l⟩|⟨hc39,h7l⟩
          · refine skx ?_
            refine kGd rfl aa hc37 (hPt rfl hc39 rfl) (kPt rfl hc37 rfl ?_)
            exact⟨true,h7l,atOk⟩
          refine kGd rfl aa hc39 (hMvA rfl) (kGd rfl aa hc39 (hMvA rfl) (kGd rfl aa hc39 (qInt rfl rfl rfl) ?_))
          obtain⟨x40,k,h7l⟩:=aj h7l
          refine kGd rfl aa hc39 (ag2 underlying9 k) ?_
          refine kGd rfl aa hc39 (qInt rfl rfl rfl) (kGd rfl aa hc37 (hPf rfl hc39 rfl) (kPt rfl hc37 rfl ?_))
          exact⟨x40 != 47,h7l,atOk⟩
        refine skx ?_
        refine kPf rfl hc37 rfl ?_
        exact⟨false,h7l,atOk⟩
      refine W_r (kMv rfl (kIn rfl rfl rfl (kMv rfl (kUn (ain rfl underlying9) ?_))))
      refine kIn rfl rfl rfl (kMv rfl ?_)
      rcases cg h2l with⟨hc16,h2l⟩|⟨hc16,h2l⟩
      · refine skx ?_
        refine kPt rfl hc16 rfl (kMv rfl ?_)
        have hc21:true=true:=rfl
        refine skx ?_
        refine kPt rfl hc21 rfl ?_
        exact⟨true,h2l,atOk⟩
      refine kGd rfl aa hc16 (hMvA rfl) (kGd rfl aa hc16 (qInt rfl rfl rfl) (kPf rfl hc16 rfl (kMv rfl ?_)))
      rcases cg h2l with⟨hc17,h2l⟩|⟨hc17,h2l⟩
      · refine skx ?_
        refine kPt rfl hc17 rfl ?_
        exact⟨true,h2l,atOk⟩
      refine kGd rfl aa hc17 (hMvA rfl) (kGd rfl aa hc17 (hMvA rfl) (kGd rfl aa hc17 (qInt rfl rfl rfl) ?_))
      obtain⟨x18,k,h2l⟩:=aj h2l
      refine kGd rfl aa hc17 (ag2 underlying9 k) ?_
      refine kGd rfl aa hc17 (qInt rfl rfl rfl) (kGd rfl aa hc17 (hMvA rfl) ?_)
      rcases cg h2l with⟨hc19,h2l⟩|⟨hc19,h2l⟩
      · refine kGd rfl aa hc19 (hMvA rfl) (kGd rfl aa hc19 (hMvA rfl) (kGd rfl aa hc19 (qInt rfl rfl rfl) ?_))
        obtain⟨x20,k,h2l⟩:=aj h2l
        refine kGd rfl aa hc19 (ag2 underlying9 k) ?_
        refine kGd rfl aa hc19 (qInt rfl rfl rfl) (kGd rfl aa hc17 (hPt rfl hc19 rfl) (kPf rfl hc17 rfl ?_))
        exact⟨x20 != 42,h2l,atOk⟩
      refine skx ?_
      refine kGd rfl aa hc17 (hPf rfl hc19 rfl) (kPf rfl hc17 rfl ?_)
      exact⟨false,h2l,atOk⟩
    refine W_r (kMv rfl (kIn rfl rfl rfl (kMv rfl ?_)))
    rcases cg h2l with⟨hc7,h2l⟩|⟨hc7,h2l⟩
    · refine skx ?_
      refine kPt rfl hc7 rfl (kMv rfl ?_)
      have hc11:true=true:=rfl
      refine skx ?_
      refine kPt rfl hc11 rfl (kMv rfl ?_)
      have hc13:true=true:=rfl
      refine skx ?_
      refine kPt rfl hc13 rfl ?_
      exact⟨true,h2l,atOk⟩
    refine kGd rfl aa hc7 (hMvA rfl) (kGd rfl aa hc7 (qInt rfl rfl rfl) (kPf rfl hc7 rfl (kMv rfl ?_)))
    rcases cg h2l with⟨hc8,h2l⟩|⟨hc8,h2l⟩
    · refine skx ?_
      refine kPt rfl hc8 rfl (kMv rfl ?_)
      have hc10:true=true:=rfl
      refine skx ?_
      refine kPt rfl hc10 rfl ?_
      exact⟨true,h2l,atOk⟩
    refine kGd rfl aa hc8 (hMvA rfl) (kGd rfl aa hc8 (qInt rfl rfl rfl) (kPf rfl hc8 rfl (kMv rfl ?_)))
    rcases cg h2l with⟨hc9,h2l⟩|⟨hc9,h2l⟩
    · refine skx ?_
      refine kPt rfl hc9 rfl ?_
      exact⟨true,h2l,atOk⟩
    refine kGd rfl aa hc9 (hMvA rfl) (kGd rfl aa hc9 (qInt rfl rfl rfl) (kPf rfl hc9 rfl ?_))
    exact⟨x6==13,h2l,atOk⟩
  refine ep ?_
  obtain rfl:=ho2 _ (ojs h2l)
  exact⟨x3,h,atOk⟩
theorem ae7 (x1:Int) (r:Bool) (h:rc x1=some r):Fp 87 [Pr.u8 x1] (Pb r):=by
 refine dr (rs:=[2]) func87 rfl ntmps87 ⟨by decide,results87⟩ dcd (fun s0=>?_)
 unfold rc at h
 refine W_rs (kAs rfl ?_)
 refine bm (fun e C=>∃x3,wh x3=some r/\At [(2,Pb x3)] [] e C) ?_ ?_
 ·rintro e C ⟨x3,h,a⟩
  refine W_at a ?_
  unfold wh at h
  obtain rfl:=osj h
  exact bj ⟨rfl,aa⟩
 refine W_r (kMv rfl (kIn rfl rfl rfl (kMv rfl ?_)))
 rcases cg h with⟨hc2,h⟩|⟨hc2,h⟩
 ·refine kGd rfl aa hc2 (hMvA rfl) (kGd rfl aa hc2 (qInt rfl rfl rfl) (kPt rfl hc2 rfl (kAs rfl ?_)))
  exact⟨decide (x1<=57),h,atOk⟩
 refine skx ?_
 refine kPf rfl hc2 rfl (kAs rfl ?_)
 exact⟨false,h,atOk⟩
theorem aqb (x1:Bt) (r:Bool) (h:ac9 x1=some r):Fp 88 [Pr.str x1] (Pb r):=by
 refine dr (rs:=[2]) func88 rfl ntmps88 ⟨by decide,results88⟩ dcd (fun s0=>?_)
 unfold ac9 at h
 refine W_rs (kAs rfl (ba (W_rs (kMv rfl (kUn (ain rfl underlying9) ?_)))))
 refine kIn rfl rfl rfl ?_
 refine bc h rfl (fun _ h=>?_) (fun _ h=>?_)
 ·refine W_rs (kAs rfl ?_)
  obtain rfl:=osj h
  exact bj ⟨rfl,aa⟩
 refine aw (W_rs (kAs rfl (ba (W_rs (kAs rfl (ay ?_))))))
 obtain⟨z2l,hz2,h⟩:=aj h
 obtain⟨n2,hN2⟩:=bt hz2
 refine dl 0 (fun e C=>∃x3,aa6 x3=some r/\At [(3,P6 x3)] [] e C) ?_ ?_
 ·rintro e C ⟨x3,h,a⟩
  refine W_at a ?_
  unfold aa6 at h
  refine W_rs (kMv rfl (kIn rfl rfl rfl (kAs rfl ?_)))
  obtain rfl:=osj h
  exact bj ⟨rfl,aa⟩
 refine fb (fun m e C=>∃x3,∃x4,fp (fun s=>wg x1 s.1 s.2) m (x3,x4)=some z2l/\At [(0,Pr.str x1),(3,P6 x3),(4,P6 x4)] [] e C) n2 ⟨0,0,hN2,⟨⟨aa,aa,aa,tv⟩,A8.refl _⟩⟩ ?_
 rintro m e C ⟨x3,x4,hN2,a⟩
 refine W_at a ?_
 obtain⟨m2,w2l,rfl,h2l,hn2,ho2⟩:=bl hN2
 replace h2l:wg x1 x3 x4=some w2l:=h2l
 unfold wg at h2l
 refine ba (W_rs (kMv rfl (kMv rfl (kUn (ain rfl underlying9) ?_))))
 refine kIn rfl rfl rfl ?_
 refine bc h2l rfl (fun _ h2l=>?_) (fun _ h2l=>?_)
 ·refine aw (ba (ay (W_r (kMv rfl (kIn rfl rfl rfl (kMv rfl (kMv rfl ?_)))))))
  obtain⟨x8,k,h2l⟩:=aj h2l
  refine kUn (ag2 underlying9 k) ?_
  refine kIn rfl rfl rfl (kUn (ank underlying5 underlying3) ?_)
  refine kIn rfl rfl rfl (kAs rfl (W_r (kMv rfl (kIn rfl rfl rfl (kAs rfl ?_)))))
  exact⟨m2,lsu,w64 ((w64 (10 * x3))+(w64 (IntKind.wrap .u8 (x8 - 48)))),w64 (x4+1),hn2 _ (ojs h2l),atOk⟩
 refine ep ?_
 obtain rfl:=ho2 _ (ojs h2l)
 exact⟨x3,h,atOk⟩
theorem ah6 (x1:Int) (r:Bool) (h:q6 x1=some r):Fp 89 [Pr.u8 x1] (Pb r):=by
 refine dr (rs:=[2]) func89 rfl ntmps89 ⟨by decide,results89⟩ dcd (fun s0=>?_)
 unfold q6 at h
 refine W_rs (kAs rfl ?_)
 refine bm (fun e C=>∃x13,jj x13=some r/\At [(2,Pb x13)] [] e C) ?_ ?_
 ·rintro e C ⟨x13,h,a⟩
  refine W_at a ?_
  unfold jj at h
  obtain rfl:=osj h
  exact bj ⟨rfl,aa⟩
 refine W_r (kMv rfl (kIn rfl rfl rfl (kMv rfl ?_)))
 rcases cg h with⟨hc2,h⟩|⟨hc2,h⟩
 ·refine kGd rfl aa hc2 (hMvA rfl) (kGd rfl aa hc2 (qInt rfl rfl rfl) (kPt rfl hc2 rfl (kMv rfl ?_)))
  rcases cg h with⟨hc3,h⟩|⟨hc3,h⟩
  ·refine skx ?_
   refine kPt rfl hc3 rfl (kMv rfl ?_)
   have hc7:true=true:=rfl
   refine skx ?_
   refine kPt rfl hc7 rfl (kAs rfl ?_)
   exact⟨true,h,atOk⟩
  refine kGd rfl aa hc3 (hMvA rfl) (kGd rfl aa hc3 (qInt rfl rfl rfl) (kGd rfl aa hc3 (hMvA rfl) ?_))
  rcases cg h with⟨hc4,h⟩|⟨hc4,h⟩
  ·refine kGd rfl aa hc4 (hMvA rfl) (kGd rfl aa hc4 (qInt rfl rfl rfl) (kGd rfl aa hc3 (hPt rfl hc4 rfl) (kPf rfl hc3 rfl (kMv rfl ?_))))
   rcases cg h with⟨hc5,h⟩|⟨hc5,h⟩
   ·refine skx ?_
    refine kPt rfl hc5 rfl (kAs rfl ?_)
    exact⟨true,h,atOk⟩
   refine kGd rfl aa hc5 (hMvA rfl) (kGd rfl aa hc5 (qInt rfl rfl rfl) (kPf rfl hc5 rfl (kAs rfl ?_)))
   exact⟨x1==95,h,atOk⟩
  refine skx ?_
  refine kGd rfl aa hc3 (hPf rfl hc4 rfl) (kPf rfl hc3 rfl (kMv rfl ?_))
  have hc6:false=false:=rfl
  refine kGd rfl aa hc6 (hMvA rfl) (kGd rfl aa hc6 (qInt rfl rfl rfl) (kPf rfl hc6 rfl (kAs rfl ?_)))
  exact⟨x1==95,h,atOk⟩
 refine skx ?_
 refine kPf rfl hc2 rfl (kMv rfl ?_)
 have hc8:false=false:=rfl
 refine kGd rfl aa hc8 (hMvA rfl) (kGd rfl aa hc8 (qInt rfl rfl rfl) (kGd rfl aa hc8 (hMvA rfl) ?_))
 rcases cg h with⟨hc9,h⟩|⟨hc9,h⟩
 ·refine kGd rfl aa hc9 (hMvA rfl) (kGd rfl aa hc9 (qInt rfl rfl rfl) (kGd rfl aa hc8 (hPt rfl hc9 rfl) (kPf rfl hc8 rfl (kMv rfl ?_))))
  rcases cg h with⟨hc10,h⟩|⟨hc10,h⟩
  ·refine skx ?_
   refine kPt rfl hc10 rfl (kAs rfl ?_)
   exact⟨true,h,atOk⟩
  refine kGd rfl aa hc10 (hMvA rfl) (kGd rfl aa hc10 (qInt rfl rfl rfl) (kPf rfl hc10 rfl (kAs rfl ?_)))
  exact⟨x1==95,h,atOk⟩
 refine skx ?_
 refine kGd rfl aa hc8 (hPf rfl hc9 rfl) (kPf rfl hc8 rfl (kMv rfl ?_))
 have hc11:false=false:=rfl
 refine kGd rfl aa hc11 (hMvA rfl) (kGd rfl aa hc11 (qInt rfl rfl rfl) (kPf rfl hc11 rfl (kAs rfl ?_)))
 exact⟨x1==95,h,atOk⟩
theorem as0 (x1:Bt) (r:Bool) (h:oa x1=some r):Fp 90 [Pr.str x1] (Pb r):=by
 refine dr (rs:=[2]) func90 rfl ntmps90 ⟨by decide,results90⟩ dcd (fun s0=>?_)
 unfold oa at h
 refine W_rs (kAs rfl (W_rs (kUn (nh (R:=Rp.str) (ls:=([([99,108,97,115,115]:Bt),([101,120,116,101,110,100,115]:Bt),([115,116,97,116,105,99]:Bt),([118,111,105,100]:Bt),([105,110,116]:Bt),([98,111,111,108,101,97,110]:Bt),([105,102]:Bt),([101,108,115,101]:Bt),([119,104,105,108,101]:Bt),([114,101,116,117,114,110]:Bt),([112,114,105,110,116]:Bt),([116,114,117,101]:Bt),([102,97,108,115,101]:Bt),([110,117,108,108]:Bt),([116,104,105,115]:Bt),([110,101,119]:Bt)]:List Bt)) el22 nb ⟨rfl,rfl⟩ ⟨rfl,rfl,rfl,rfl,rfl,rfl,rfl,rfl,rfl,rfl,rfl,rfl,rfl,rfl,rfl,rfl,tv⟩) ?_)))
 refine kAsL rfl (ba (W_rs (kAs rfl (ay ?_))))
 obtain⟨z2l,hz2,h⟩:=aj h
 obtain⟨n2,hN2⟩:=bt hz2
 refine dl 0 (fun e C=>acs=some r/\At [] [] e C) ?_ ?_
 ·rintro e C ⟨h,a⟩
  refine W_at a ?_
  unfold acs at h
  refine W_rs (kAs rfl ?_)
  obtain rfl:=osj h
  exact bj ⟨rfl,aa⟩
 refine fb (fun m e C=>∃x2,fp (fun s=>yt x1 s) m x2=some z2l/\At [(0,Pr.str x1),(3,ar Rp.str ([([99,108,97,115,115]:Bt),([101,120,116,101,110,100,115]:Bt),([115,116,97,116,105,99]:Bt),([118,111,105,100]:Bt),([105,110,116]:Bt),([98,111,111,108,101,97,110]:Bt),([105,102]:Bt),([101,108,115,101]:Bt),([119,104,105,108,101]:Bt),([114,101,116,117,114,110]:Bt),([112,114,105,110,116]:Bt),([116,114,117,101]:Bt),([102,97,108,115,101]:Bt),([110,117,108,108]:Bt),([116,104,105,115]:Bt),([110,101,119]:Bt)]:List Bt)),(4,P6 x2)] [] e C) n2 ⟨0,hN2,⟨⟨aa,aa,aa,tv⟩,A8.refl _⟩⟩ ?_
 rintro m e C ⟨x2,hN2,a⟩
 refine W_at a ?_
 obtain⟨m2,w2l,rfl,h2l,hn2,ho2⟩:=bl hN2
 replace h2l:yt x1 x2=some w2l:=h2l
 unfold yt at h2l
 refine ba (W_rs (kMv rfl (kMvL rfl (kUn (ma rfl underlying22) ?_))))
 refine kIn rfl rfl rfl ?_
 refine bc h2l rfl (fun _ h2l=>?_) (fun _ h2l=>?_)
 ·refine aw (ba (ay (W_rs (kMvL rfl (kMv rfl ?_)))))
  obtain⟨x5,k,h2l⟩:=aj h2l
  refine kUn (gu underlying22 sizeOf9 k) ?_
  refine kUn (dn ty9) ?_
  refine kMv rfl (kSt rfl rfl rfl ?_)
  refine bc h2l rfl (fun _ h2l=>?_) (fun _ h2l=>?_)
  ·refine W_rs (kAs rfl ?_)
   obtain rfl:=ho2 _ (ojs h2l)
   replace h:some true=some r:=h
   obtain rfl:=osj h
   exact bj ⟨rfl,aa⟩
  refine aw (W_r (kMv rfl (kIn rfl rfl rfl (kAs rfl ?_))))
  exact⟨m2,lsu,w64 (x2+1),hn2 _ (ojs h2l),atOk⟩
 refine ep ?_
 obtain rfl:=ho2 _ (ojs h2l)
 exact⟨h,atOk⟩
theorem asz (x1:Bt) (x2 r:Int) (h:afr x1 x2=some r):Fp 91 [Pr.str x1,P6 x2] (P6 r):=by
 refine dr (rs:=[4]) func91 rfl ntmps91 ⟨by decide,results91⟩ dcd (fun s0=>?_)
 unfold afr at h
 refine W_rs (kAs rfl (W_rs (kUn (nh (R:=Rp.str) (ls:=([([61,61]:Bt),([33,61]:Bt),([60,61]:Bt),([62,61]:Bt),([38,38]:Bt),([124,124]:Bt)]:List Bt)) el22 nb ⟨rfl,rfl⟩ ⟨rfl,rfl,rfl,rfl,rfl,rfl,tv⟩) ?_)))
 refine kAsL rfl (ba (W_rs (kAs rfl (ay ?_))))
 obtain⟨z5l,hz5,h⟩:=aj h
 obtain⟨n5,hN5⟩:=bt hz5
 refine dl 0 (fun e C=>yq x1 x2=some r/\At [(0,Pr.str x1),(1,P6 x2)] [] e C) ?_ ?_
 ·rintro e C ⟨h,a⟩
  refine W_at a ?_
  unfold yq at h
  refine W_rs (kAs rfl (ba (W_rs (kAs rfl (ay ?_)))))
  obtain⟨z2l,hz2,h⟩:=aj h
  obtain⟨n2,hN2⟩:=bt hz2
  refine dl 2 (fun e C=>acp=some r/\At [] [] e C) ?_ ?_
  ·rintro e C ⟨h,a⟩
   refine W_at a ?_
   unfold acp at h
   refine W_rs (kAs rfl ?_)
   obtain rfl:=osj h
   exact bj ⟨rfl,aa⟩
  refine fb (fun m e C=>∃x11,fp (fun s=>yp x1 x2 s) m x11=some z2l/\At [(0,Pr.str x1),(1,P6 x2),(7,Pr.str ([43,45,42,47,37,60,62,61,33,40,41,123,125,59,44,46]:Bt)),(8,P6 x11)] [] e C) n2 ⟨0,hN2,⟨⟨aa,aa,aa,aa,tv⟩,A8.refl _⟩⟩ ?_
  rintro m e C ⟨x11,hN2,a⟩
  refine W_at a ?_
  obtain⟨m2,w2l,rfl,h2l,hn2,ho2⟩:=bl hN2
  replace h2l:yp x1 x2 x11=some w2l:=h2l
  unfold yp at h2l
  refine ba (W_rs (kMv rfl (kMv rfl (kUn (ain rfl underlying9) ?_))))
  refine kIn rfl rfl rfl ?_
  refine bc h2l rfl (fun _ h2l=>?_) (fun _ h2l=>?_)
  ·refine aw (ba (ay ?_))
   refine bm (fun e C=>∃x14,∃x15,acr x11 x14 x15=some w2l/\At [(0,Pr.str x1),(1,P6 x2),(7,Pr.str ([43,45,42,47,37,60,62,61,33,40,41,123,125,59,44,46]:Bt)),(8,P6 x11),(45,Pb (x14==x15))] [] e C) ?_ ?_
   ·rintro e C ⟨x14,x15,h2l,a⟩
    refine W_at a ?_
    unfold acr at h2l
    refine bc h2l rfl (fun _ h2l=>?_) (fun _ h2l=>?_)
    ·refine W_rs (kAs rfl ?_)
     obtain rfl:=ho2 _ (ojs h2l)
     replace h:some 1=some r:=h
     obtain rfl:=osj h
     exact bj ⟨rfl,aa⟩
    refine aw (W_r (kMv rfl (kIn rfl rfl rfl (kAs rfl ?_))))
    exact⟨m2,lsu,w64 (x11+1),hn2 _ (ojs h2l),atOk⟩
   refine mh 7 hmx kr kr ?_
   refine lUn (hMvA rfl) (lUn (hMvA rfl) ?_)
   obtain⟨x14,k,h2l⟩:=aj h2l
   refine lUn (ag2 underlying9 k) ?_
   refine lUn (hMvA rfl) (lUn (hMvA rfl) ?_)
   obtain⟨x15,k,h2l⟩:=aj h2l
   refine lUn (ag2 underlying9 k) ?_
   refine lUn (qInt rfl rfl rfl) ?_
   exact⟨x14,x15,h2l,atOk⟩
  refine ep ?_
  obtain rfl:=ho2 _ (ojs h2l)
  exact⟨h,atOk⟩
 refine fb (fun m e C=>∃x3,fp (fun s=>yo x1 x2 s) m x3=some z5l/\At [(0,Pr.str x1),(1,P6 x2),(5,ar Rp.str ([([61,61]:Bt),([33,61]:Bt),([60,61]:Bt),([62,61]:Bt),([38,38]:Bt),([124,124]:Bt)]:List Bt)),(6,P6 x3)] [] e C) n5 ⟨0,hN5,⟨⟨aa,aa,aa,aa,tv⟩,A8.refl _⟩⟩ ?_
 rintro m e C ⟨x3,hN5,a⟩
 refine W_at a ?_
 obtain⟨m5,w5l,rfl,h5l,hn5,ho5⟩:=bl hN5
 replace h5l:yo x1 x2 x3=some w5l:=h5l
 unfold yo at h5l
 refine ba ?_
 refine bm (fun e C=>∃x6,yr x1 x2 x3 x6=some w5l/\At [(0,Pr.str x1),(1,P6 x2),(5,ar Rp.str ([([61,61]:Bt),([33,61]:Bt),([60,61]:Bt),([62,61]:Bt),([38,38]:Bt),([124,124]:Bt)]:List Bt)),(6,P6 x3),(20,Pb x6)] [] e C) ?_ ?_
 ·rintro e C ⟨x6,h5l,a⟩
  refine W_at a ?_
  unfold yr at h5l
  refine bc h5l rfl (fun _ h5l=>?_) (fun _ h5l=>?_)
  ·refine aw (ba (ay ?_))
   refine bm (fun e C=>∃x8,∃x9,acq x3 x8 x9=some w5l/\At [(0,Pr.str x1),(1,P6 x2),(5,ar Rp.str ([([61,61]:Bt),([33,61]:Bt),([60,61]:Bt),([62,61]:Bt),([38,38]:Bt),([124,124]:Bt)]:List Bt)),(6,P6 x3),(32,Pb (x8==x9))] [] e C) ?_ ?_
   ·rintro e C ⟨x8,x9,h5l,a⟩
    refine W_at a ?_
    unfold acq at h5l
    refine bc h5l rfl (fun _ h5l=>?_) (fun _ h5l=>?_)
    ·refine W_rs (kAs rfl ?_)
     obtain rfl:=ho5 _ (ojs h5l)
     replace h:some 2=some r:=h
     obtain rfl:=osj h
     exact bj ⟨rfl,aa⟩
    refine aw (W_r (kMv rfl (kIn rfl rfl rfl (kAs rfl ?_))))
    exact⟨m5,lsu,w64 (x3+1),hn5 _ (ojs h5l),atOk⟩
   refine mh 10 hmx kr kr ?_
   refine lUn (hMvA rfl) (lUn (hMvA rfl) (lUn (hMvA rfl) (lUn (qInt rfl rfl rfl) ?_)))
   obtain⟨x8,k,h5l⟩:=aj h5l
   refine lUn (atd underlying9 k) ?_
   refine lUn (hMvL rfl) (lUn (hMvA rfl) ?_)
   obtain⟨x9,k,h5l⟩:=aj h5l
   refine lUn (gu underlying22 sizeOf9 k) ?_
   refine lUn (dn ty9) ?_
   refine lUn (qStr rfl rfl rfl) ?_
   exact⟨x8,x9,h5l,atOk⟩
  refine ep ?_
  obtain rfl:=ho5 _ (ojs h5l)
  exact⟨h,atOk⟩
 refine W_r (kMv rfl (kMvL rfl (kUn (ma rfl underlying22) ?_)))
 refine kIn rfl rfl rfl (kMv rfl ?_)
 rcases cg h5l with⟨hc5,h5l⟩|⟨hc5,h5l⟩
 ·refine kGd rfl aa hc5 (hMvA rfl) (kGd rfl aa hc5 (qInt rfl rfl rfl) (kGd rfl aa hc5 (hMvA rfl) (kGd rfl aa hc5 (ain rfl underlying9) ?_)))
  refine kGd rfl aa hc5 (qInt rfl rfl rfl) (kPt rfl hc5 rfl ?_)
  exact⟨decide ((w64 (x2+2))<=(x1.length:Int)),h5l,atOk⟩
 refine skx ?_
 refine kPf rfl hc5 rfl ?_
 exact⟨false,h5l,atOk⟩
theorem aqa (x1:Bt) (x2:Int) (r:Int × Int × Int) (h:ac8 x1 x2=some r):Fp 50 [Pr.str x1,P6 x2] (bu [P6 r.1,P6 r.2.1,P6 r.2.2]):=by
 refine dr (rs:=[4,5,6]) func50 rfl ntmps50 ⟨by decide,results50⟩ dcd (fun s0=>?_)
 unfold ac8 at h
 refine W_rs (kAs rfl (kAs rfl (kAs rfl (W_rs (kAs rfl (ba (W_rs (kMv rfl (kMv rfl ?_)))))))))
 obtain⟨x3,k,h⟩:=aj h
 refine kUn (ag2 underlying9 k) ?_
 refine c8 h (ae7 x3) rfl fun x4 _ h=>?_
 refine bc h rfl (fun _ h=>?_) (fun _ h=>?_)
 ·refine ba (ay ?_)
  obtain⟨z3l,hz3,h⟩:=aj h
  obtain⟨n3,hN3⟩:=bt hz3
  refine dl 0 (fun e C=>∃x6,aa5 x1 x2 x6=some r/\At [(0,Pr.str x1),(1,P6 x2),(7,P6 x6)] [] e C) ?_ ?_
  ·rintro e C ⟨x6,h,a⟩
   refine W_at a ?_
   unfold aa5 at h
   refine W_rs (kMv rfl (kMv rfl (kMv rfl (kMv rfl (kIn rfl rfl rfl ?_)))))
   obtain⟨x13,k,h⟩:=aj h
   refine kUn (atd underlying9 k) ?_
   refine c8 h (aqb x13) rfl fun x14 _ h=>kAs rfl (ba ?_)
   refine bm (fun e C=>∃x18,pj x6 x18=some r/\At [(7,P6 x6),(47,Pb x18)] [] e C) ?_ ?_
   ·rintro e C ⟨x18,h,a⟩
    refine W_at a ?_
    unfold pj at h
    refine bc h rfl (fun _ h=>?_) (fun _ h=>?_)
    ·refine W_rs (kAs rfl (kAs rfl (kAs rfl ?_)))
     obtain rfl:=osj h
     exact bj ⟨rfl,aa⟩
    refine aw (W_rs (kMv rfl (kAs rfl (kAs rfl (kAs rfl ?_)))))
    obtain rfl:=osj h
    exact bj ⟨rfl,aa⟩
   refine W_r (kMv rfl (kMv rfl ?_))
   rcases cg h with⟨hc15,h⟩|⟨hc15,h⟩
   ·refine skx ?_
    refine kPt rfl hc15 rfl ?_
    exact⟨true,h,atOk⟩
   refine kGd rfl aa hc15 (hMvA rfl) (kGd rfl aa hc15 (qInt rfl rfl rfl) (kGd rfl aa hc15 (hMvA rfl) ?_))
   rcases cg h with⟨hc16,h⟩|⟨hc16,h⟩
   ·refine kGd rfl aa hc16 (hMvA rfl) (kGd rfl aa hc16 (hMvA rfl) ?_)
    obtain⟨x17,k,h⟩:=aj h
    refine kGd rfl aa hc16 (ag2 underlying9 k) ?_
    refine kGd rfl aa hc16 (qInt rfl rfl rfl) (kGd rfl aa hc15 (hPt rfl hc16 rfl) (kPf rfl hc15 rfl ?_))
    exact⟨x17==48,h,atOk⟩
   refine skx ?_
   refine kGd rfl aa hc15 (hPf rfl hc16 rfl) (kPf rfl hc15 rfl ?_)
   exact⟨false,h,atOk⟩
  refine fb (fun m e C=>∃x6,fp (fun s=>se x2 x1 s) m x6=some z3l/\At [(0,Pr.str x1),(1,P6 x2),(7,P6 x6)] [] e C) n3 ⟨0,hN3,⟨⟨aa,aa,aa,tv⟩,A8.refl _⟩⟩ ?_
  rintro m e C ⟨x6,hN3,a⟩
  refine W_at a ?_
  obtain⟨m3,w3l,rfl,h3l,hn3,ho3⟩:=bl hN3
  replace h3l:se x2 x1 x6=some w3l:=h3l
  unfold se at h3l
  refine ba ?_
  refine bm (fun e C=>∃x11,sf x6 x11=some w3l/\At [(0,Pr.str x1),(1,P6 x2),(7,P6 x6),(27,Pb x11)] [] e C) ?_ ?_
  ·rintro e C ⟨x11,h3l,a⟩
   refine W_at a ?_
   unfold sf at h3l
   refine bc h3l rfl (fun _ h3l=>?_) (fun _ h3l=>?_)
   ·refine aw (ay (W_r (kMv rfl (kIn rfl rfl rfl (kAs rfl ?_)))))
    exact⟨m3,lsu,w64 (x6+1),hn3 _ (ojs h3l),atOk⟩
   refine ep ?_
   obtain rfl:=ho3 _ (ojs h3l)
   exact⟨x6,h,atOk⟩
  refine W_r (kMv rfl (kMv rfl (kIn rfl rfl rfl (kMv rfl (kUn (ain rfl underlying9) ?_)))))
  refine kIn rfl rfl rfl (kMv rfl ?_)
  rcases cg h3l with⟨hc8,h3l⟩|⟨hc8,h3l⟩
  ·refine kGd rfl aa hc8 (hMvA rfl) (kGd rfl aa hc8 (hMvA rfl) (kGd rfl aa hc8 (hMvA rfl) (kGd rfl aa hc8 (qInt rfl rfl rfl) ?_)))
   obtain⟨x9,k,h3l⟩:=aj h3l
   refine kGd rfl aa hc8 (ag2 underlying9 k) ?_
   obtain⟨x10,k,h3l⟩:=aj h3l
   refine kGd rfl aa hc8 (dv (ae7 x9 _ k)) ?_
   refine kPt rfl hc8 rfl ?_
   exact⟨x10,h3l,atOk⟩
  refine skx ?_
  refine kPf rfl hc8 rfl ?_
  exact⟨false,h3l,atOk⟩
 refine aw (ba (W_rs (kMv rfl (kMv rfl ?_))))
 obtain⟨x20,k,h⟩:=aj h
 refine kUn (ag2 underlying9 k) ?_
 refine c8 h (ah6 x20) rfl fun x21 _ h=>?_
 refine bc h rfl (fun _ h=>?_) (fun _ h=>?_)
 ·refine ba (ay ?_)
  obtain⟨z6l,hz6,h⟩:=aj h
  obtain⟨n6,hN6⟩:=bt hz6
  refine dl 2 (fun e C=>∃x23,aa4 x1 x2 x23=some r/\At [(0,Pr.str x1),(1,P6 x2),(7,P6 x23)] [] e C) ?_ ?_
  ·rintro e C ⟨x23,h,a⟩
   refine W_at a ?_
   unfold aa4 at h
   refine ba (W_rs (kMv rfl (kIn rfl rfl rfl ?_)))
   refine bc h rfl (fun _ h=>?_) (fun _ h=>?_)
   ·refine W_rs (kAs rfl (kAs rfl (kAs rfl ?_)))
    obtain rfl:=osj h
    exact bj ⟨rfl,aa⟩
   refine aw (W_rs (kMv rfl (kMv rfl (kMv rfl (kMv rfl (kIn rfl rfl rfl ?_))))))
   obtain⟨x34,k,h⟩:=aj h
   refine kUn (atd underlying9 k) ?_
   refine c8 h (as0 x34) rfl fun x35 _ h=>kAs rfl (ba (W_rs (kMv rfl ?_)))
   refine bc h rfl (fun _ h=>?_) (fun _ h=>?_)
   ·refine W_rs (kMv rfl (kAs rfl (kAs rfl (kAs rfl ?_))))
    obtain rfl:=osj h
    exact bj ⟨rfl,aa⟩
   refine aw (W_rs (kMv rfl (kAs rfl (kAs rfl (kAs rfl ?_)))))
   obtain rfl:=osj h
   exact bj ⟨rfl,aa⟩
  refine fb (fun m e C=>∃x23,fp (fun s=>sd x2 x1 s) m x23=some z6l/\At [(0,Pr.str x1),(1,P6 x2),(7,P6 x23)] [] e C) n6 ⟨0,hN6,⟨⟨aa,aa,aa,tv⟩,A8.refl _⟩⟩ ?_
  rintro m e C ⟨x23,hN6,a⟩
  refine W_at a ?_
  obtain⟨m6,w6l,rfl,h6l,hn6,ho6⟩:=bl hN6
  replace h6l:sd x2 x1 x23=some w6l:=h6l
  unfold sd at h6l
  refine ba ?_
  refine bm (fun e C=>∃x31,ph x23 x31=some w6l/\At [(0,Pr.str x1),(1,P6 x2),(7,P6 x23),(74,Pb x31)] [] e C) ?_ ?_
  ·rintro e C ⟨x31,h6l,a⟩
   refine W_at a ?_
   unfold ph at h6l
   refine bc h6l rfl (fun _ h6l=>?_) (fun _ h6l=>?_)
   ·refine aw (ay (W_r (kMv rfl (kIn rfl rfl rfl (kAs rfl ?_)))))
    exact⟨m6,lsu,w64 (x23+1),hn6 _ (ojs h6l),atOk⟩
   refine ep ?_
   obtain rfl:=ho6 _ (ojs h6l)
   exact⟨x23,h,atOk⟩
  refine W_r (kMv rfl (kMv rfl (kIn rfl rfl rfl (kMv rfl (kUn (ain rfl underlying9) ?_)))))
  refine kIn rfl rfl rfl (kMv rfl ?_)
  rcases cg h6l with⟨hc25,h6l⟩|⟨hc25,h6l⟩
  ·refine kGd rfl aa hc25 (hMvA rfl) (kGd rfl aa hc25 (hMvA rfl) (kGd rfl aa hc25 (hMvA rfl) (kGd rfl aa hc25 (qInt rfl rfl rfl) ?_)))
   obtain⟨x26,k,h6l⟩:=aj h6l
   refine kGd rfl aa hc25 (ag2 underlying9 k) ?_
   obtain⟨x27,k,h6l⟩:=aj h6l
   refine kGd rfl aa hc25 (dv (ah6 x26 _ k)) ?_
   refine kGd rfl aa hc25 (hMvA rfl) ?_
   rcases cg h6l with⟨hc28,h6l⟩|⟨hc28,h6l⟩
   ·refine skx ?_
    refine kGd rfl aa hc25 (hPt rfl hc28 rfl) (kPt rfl hc25 rfl ?_)
    exact⟨true,h6l,atOk⟩
   refine kGd rfl aa hc28 (hMvA rfl) (kGd rfl aa hc28 (hMvA rfl) (kGd rfl aa hc28 (hMvA rfl) (kGd rfl aa hc28 (qInt rfl rfl rfl) ?_)))
   obtain⟨x29,k,h6l⟩:=aj h6l
   refine kGd rfl aa hc28 (ag2 underlying9 k) ?_
   obtain⟨x30,k,h6l⟩:=aj h6l
   refine kGd rfl aa hc28 (dv (ae7 x29 _ k)) ?_
   refine kGd rfl aa hc25 (hPf rfl hc28 rfl) (kPt rfl hc25 rfl ?_)
   exact⟨x30,h6l,atOk⟩
  refine skx ?_
  refine kPf rfl hc25 rfl ?_
  exact⟨false,h6l,atOk⟩
 refine aw (W_rs (kMv rfl (kMv rfl (c8 h (asz x1 x2) rfl fun x37 _ h=>kAs rfl (ba (W_rs (kMv rfl (kIn rfl rfl rfl ?_))))))))
 refine bc h rfl (fun _ h=>?_) (fun _ h=>?_)
 ·refine W_rs (kAs rfl (kAs rfl (kAs rfl ?_)))
  obtain rfl:=osj h
  exact bj ⟨rfl,aa⟩
 refine aw (W_rs (kMv rfl (kAs rfl (kAs rfl (kAs rfl ?_)))))
 obtain rfl:=osj h
 exact bj ⟨rfl,aa⟩
theorem aub (x1:Bt) (r:(List C5) × Int × Int) (h:ahc x1=some r):Fp 21 [Pr.str x1] (bu [ar bw r.1,P6 r.2.1,P6 r.2.2]):=by
 refine dr (rs:=[2,3,4]) func21 rfl ntmps21 ⟨by decide,results21⟩ dcd (fun s0=>?_)
 unfold ahc at h
 refine W_rs (kAs rfl (kAs rfl (kAs rfl (ba (W_rs (kMv rfl (kUn (ain rfl underlying9) ?_)))))))
 refine kIn rfl rfl rfl ?_
 refine bc h rfl (fun _ h=>?_) (fun _ h=>?_)
 ·refine W_rs (kAs rfl (kAs rfl (kAs rfl ?_)))
  obtain rfl:=osj h
  exact bj ⟨rfl,aqo ⟨du _,aa,aa,tv⟩⟩
 refine aw (W_rs (kAs rfl (W_rs (kAs rfl (ay ?_)))))
 obtain⟨n1,hN1⟩:=bt h
 refine agx [5] bw 45 (fun v24=>?_) ⟨rfl,tv⟩
 refine fb (fun m e C=>∃x4,∃x5,∃v3,fp (fun s=>abm x1 s.1 s.2) m (x4,x5)=some r/\At [(0,Pr.str x1),(5,Pi v3),(6,P6 x4)] [E3 v3 bw x5 45] e C) n1 ⟨0,[],v24,hN1,⟨⟨aa,aa,aa,tv⟩,A8.refl _⟩⟩ ?_
 rintro m e C ⟨x4,x5,v3,hN1,a⟩
 refine W_at a ?_
 obtain⟨m1,w1l,rfl,h1l,hn1,ho1⟩:=bl hN1
 replace h1l:abm x1 x4 x5=some w1l:=h1l
 unfold abm at h1l
 refine ay (W_rs (kMv rfl (kMv rfl ?_)))
 obtain⟨⟨x9,x10⟩,k,h1l⟩:=aj h1l
 refine kUn (dv (amy x1 x4 _ k)) ?_
 refine kUn (hMv (out:=bu [P6 x9,Pb x10]) rfl) (kUn aq ?_)
 refine kUn aq ?_
 refine kAs rfl (kAs rfl (ba (W_rs (kMv rfl (kNo rfl ?_)))))
 refine bc h1l rfl (fun _ h1l=>?_) (fun _ h1l=>?_)
 ·refine W_rs (kMv rfl (kAs rfl (kAs rfl (kAs rfl ?_))))
  have h:some ([],x9,32)=some r:=congrArg some (ho1 _ (ojs h1l))
  obtain rfl:=osj h
  exact bj ⟨rfl,aqo ⟨du _,aa,aa,tv⟩⟩
 refine aw (ba (W_rs (kMv rfl (kMv rfl (kUn (ain rfl underlying9) ?_)))))
 refine kIn rfl rfl rfl ?_
 refine bc h1l rfl (fun _ h1l=>?_) (fun _ h1l=>?_)
 ·refine W_rs (kMv rfl (kMv rfl (kMv rfl (kMv rfl ?_))))
  obtain⟨x13,k,h1l⟩:=aj h1l
  refine kUn (qSubL underlying9 k) ?_
  refine kUn (jh st45 ⟨(C5.mk 5 [] 0 []),⟨_,rfl,rfl,qbj⟩,⟨(C5.mk 5 [] x9 []),⟨_,rfl,rfl,qbj⟩,⟨(C5.mk 5 [] x9 x13),⟨_,rfl,rfl,qbj⟩,rfl⟩⟩⟩) ?_
  refine kUn (c5 (R:=bw) (a:=(C5.mk 5 [] x9 x13)) el41 nb) ?_
  obtain⟨x14,k,h1l⟩:=aj h1l
  refine gq 0 el41 k (fun v15=>?_)
  refine kAs rfl (kAs rfl (kAs rfl ?_))
  have h:some (x14,0,0)=some r:=congrArg some (ho1 _ (ojs h1l))
  refine apq 0 [2] ?_ rfl ⟨rfl,tv⟩
  obtain rfl:=osj h
  exact bj ⟨rfl,aa⟩
 refine aw (W_rs (kMv rfl (kMv rfl ?_)))
 obtain⟨⟨x16,x17,x18⟩,k,h1l⟩:=aj h1l
 refine kUn (dv (aqa x1 x9 _ k)) ?_
 refine kUn (hMv (out:=bu [P6 x16,P6 x17,P6 x18]) rfl) (kUn aq ?_)
 refine kUn aq ?_
 refine kUn aq ?_
 refine kAs rfl (kAs rfl (kAs rfl (ba (W_rs (kMv rfl (kIn rfl rfl rfl ?_))))))
 refine bc h1l rfl (fun _ h1l=>?_) (fun _ h1l=>?_)
 ·refine W_rs (kMv rfl (kMv rfl (kAs rfl (kAs rfl (kAs rfl ?_)))))
  have h:some ([],x9,x18)=some r:=congrArg some (ho1 _ (ojs h1l))
  obtain rfl:=osj h
  exact bj ⟨rfl,aqo ⟨du _,aa,aa,tv⟩⟩
 refine aw ?_
 refine bm (fun e C=>∃x22,∃v23,ad9 x9 x17 x22=some w1l/\At [(0,Pr.str x1),(5,Pi v23),(7,P6 x9),(10,P6 x17)] [E3 v23 bw x22 45] e C) ?_ ?_
 ·rintro e C ⟨x22,v23,h1l,a⟩
  refine W_at a ?_
  unfold ad9 at h1l
  refine W_r (kMv rfl (kMv rfl (kIn rfl rfl rfl (kAs rfl ?_))))
  exact⟨m1,lsu,w64 (x9+x17),x22,v23,hn1 _ (ojs h1l),atOk⟩
 refine mh 15 hmx kr kr ?_
 refine lUn (hMvA rfl) (lUn (hMvA rfl) (lUn (hMvA rfl) (lUn (hMvA rfl) (lUn (hMvA rfl) (lUn (hMvA rfl) (lUn (qInt rfl rfl rfl) ?_))))))
 obtain⟨x20,k,h1l⟩:=aj h1l
 refine lUn (atd underlying9 k) ?_
 refine lUn (hMvA rfl) (lUn (hMvA rfl) (lUn (hMvA rfl) (lUn (hMvA rfl) ?_)))
 obtain⟨x21,k,h1l⟩:=aj h1l
 refine lUn (atd underlying9 k) ?_
 refine lUn (jh st45 ⟨(C5.mk x16 [] 0 []),⟨_,rfl,rfl,qbj⟩,⟨(C5.mk x16 x20 0 []),⟨_,rfl,rfl,qbj⟩,⟨(C5.mk x16 x20 x9 []),⟨_,rfl,rfl,qbj⟩,⟨(C5.mk x16 x20 x9 x21),⟨_,rfl,rfl,qbj⟩,rfl⟩⟩⟩⟩) ?_
 refine lUn (c5 (R:=bw) (a:=(C5.mk x16 x20 x9 x21)) el41 nb) ?_
 obtain⟨x22,k,h1l⟩:=aj h1l
 refine gq 0 el41 k (fun v23=>?_)
 refine kAs rfl ?_
 exact⟨x22,v23,h1l,atOk⟩
theorem bp (x1:List C5) (x2:Int) (x3:Bt) (r:Bool) (h:c6 x1 x2 x3=some r):Fp 92 [ar bw x1,P6 x2,Pr.str x3] (Pb r):=by
 refine dr (rs:=[6]) func92 rfl ntmps92 ⟨by decide,results92⟩ dcd (fun s0=>?_)
 unfold c6 at h
 refine W_rs (kAs rfl ?_)
 refine bm (fun e C=>∃x18,xf x18=some r/\At [(6,Pb x18)] [] e C) ?_ ?_
 ·rintro e C ⟨x18,h,a⟩
  refine W_at a ?_
  unfold xf at h
  obtain rfl:=osj h
  exact bj ⟨rfl,aa⟩
 refine W_r (kMv rfl (kMvL rfl (kUn (ma rfl underlying41) ?_)))
 refine kIn rfl rfl rfl (kMv rfl ?_)
 rcases cg h with⟨hc4,h⟩|⟨hc4,h⟩
 ·refine kGd rfl aa hc4 (hMvL rfl) (kGd rfl aa hc4 (hMvA rfl) ?_)
  obtain⟨x5,k,h⟩:=aj h
  refine kGd rfl aa hc4 (gu underlying41 sizeOf45 k) ?_
  refine kGd rfl aa hc4 (gv zo fr) ?_
  refine kGd rfl aa hc4 (dn ty9) ?_
  refine kGd rfl aa hc4 (hMvA rfl) (kGd rfl aa hc4 (qStr rfl rfl rfl) (kPt rfl hc4 rfl (kMv rfl ?_)))
  rcases cg h with⟨hc6,h⟩|⟨hc6,h⟩
  ·refine kGd rfl aa hc6 (hMvL rfl) (kGd rfl aa hc6 (hMvA rfl) ?_)
   obtain⟨x7,k,h⟩:=aj h
   refine kGd rfl aa hc6 (gu underlying41 sizeOf45 k) ?_
   refine kGd rfl aa hc6 (gv anz rl) ?_
   refine kGd rfl aa hc6 (dn ty3) ?_
   refine kGd rfl aa hc6 (qInt rfl rfl rfl) (kPt rfl hc6 rfl (kMv rfl ?_))
   rcases cg h with⟨hc8,h⟩|⟨hc8,h⟩
   ·refine kGd rfl aa hc8 (hMvL rfl) (kGd rfl aa hc8 (hMvA rfl) ?_)
    obtain⟨x9,k,h⟩:=aj h
    refine kGd rfl aa hc8 (gu underlying41 sizeOf45 k) ?_
    refine kGd rfl aa hc8 (gv anz rl) ?_
    refine kGd rfl aa hc8 (dn ty3) ?_
    refine kGd rfl aa hc8 (qInt rfl rfl rfl) (kPt rfl hc8 rfl (kAs rfl ?_))
    exact⟨x9.Kind != 5,h,atOk⟩
   refine skx ?_
   refine kPf rfl hc8 rfl (kAs rfl ?_)
   exact⟨false,h,atOk⟩
  refine skx ?_
  refine kPf rfl hc6 rfl (kMv rfl ?_)
  have hc10:false=false:=rfl
  refine skx ?_
  refine kPf rfl hc10 rfl (kAs rfl ?_)
  exact⟨false,h,atOk⟩
 refine skx ?_
 refine kPf rfl hc4 rfl (kMv rfl ?_)
 have hc12:false=false:=rfl
 refine skx ?_
 refine kPf rfl hc12 rfl (kMv rfl ?_)
 have hc16:false=false:=rfl
 refine skx ?_
 refine kPf rfl hc16 rfl (kAs rfl ?_)
 exact⟨false,h,atOk⟩
theorem cp (x1:Int) (r:C6) (h:c7 x1=some r):Fp 93 [P6 x1] ((ah).val r):=by
 refine dt (rs:=[.cell 2 97]) func93 rfl ntmps93 results93 dcd (fun s0=>?_)
 unfold c7 at h
 refine W_rs (br al97 fun b2=>W_rs (kMv rfl (kUn (jh st97 ⟨(C6.mk x1 0),⟨_,rfl,rfl,qbj⟩,⟨(C6.mk x1 120),⟨_,rfl,rfl,qbj⟩,rfl⟩⟩) ?_)))
 refine au 0 rfl rfl (Upd.refl _) rfl sizeOf97 ?_
 obtain rfl:=osj h
 exact bj ⟨rfl,[(ah).val (C6.mk x1 120)],⟨yBox 0 ty97 aa,tv⟩,aa⟩
theorem ka (x1:List C5) (x2:Int) (r:Bool) (h:ju x1 x2=some r):Fp 94 [ar bw x1,P6 x2] (Pb r):=by
 refine dr (rs:=[4]) func94 rfl ntmps94 ⟨by decide,results94⟩ dcd (fun s0=>?_)
 unfold ju at h
 refine W_rs (kAs rfl ?_)
 refine bm (fun e C=>∃x5,u4 x5=some r/\At [(4,Pb x5)] [] e C) ?_ ?_
 ·rintro e C ⟨x5,h,a⟩
  refine W_at a ?_
  unfold u4 at h
  obtain rfl:=osj h
  exact bj ⟨rfl,aa⟩
 refine W_r (kMv rfl (kMvL rfl (kUn (ma rfl underlying41) ?_)))
 refine kIn rfl rfl rfl (kMv rfl ?_)
 rcases cg h with⟨hc3,h⟩|⟨hc3,h⟩
 ·refine kGd rfl aa hc3 (hMvL rfl) (kGd rfl aa hc3 (hMvA rfl) ?_)
  obtain⟨x4,k,h⟩:=aj h
  refine kGd rfl aa hc3 (gu underlying41 sizeOf45 k) ?_
  refine kGd rfl aa hc3 (gv anz rl) ?_
  refine kGd rfl aa hc3 (dn ty3) ?_
  refine kGd rfl aa hc3 (qInt rfl rfl rfl) (kPt rfl hc3 rfl (kAs rfl ?_))
  exact⟨x4.Kind==1,h,atOk⟩
 refine skx ?_
 refine kPf rfl hc3 rfl (kAs rfl ?_)
 exact⟨false,h,atOk⟩
theorem ami (x1:List C5) (x2 r:Int) (h:afk x1 x2=some r):Fp 142 [ar bw x1,P6 x2] (P6 r):=by
 refine dr (rs:=[4]) func142 rfl ntmps142 ⟨by decide,results142⟩ dcd (fun s0=>?_)
 unfold afk at h
 refine W_rs (kAs rfl ?_)
 refine bm (fun e C=>∃x3,∃x4,ad7 x3 x4=some r/\At [(4,P6 (w64 (x3.At+(x4.Text.length:Int))))] [] e C) ?_ ?_
 ·rintro e C ⟨x3,x4,h,a⟩
  refine W_at a ?_
  unfold ad7 at h
  obtain rfl:=osj h
  exact bj ⟨rfl,aa⟩
 refine mh 15 hmx kr kr ?_
 refine lUn (hMvL rfl) (lUn (hMvA rfl) (lUn (qInt rfl rfl rfl) ?_))
 obtain⟨x3,k,h⟩:=aj h
 refine lUn (gu underlying41 sizeOf45 k) ?_
 refine lUn (gv aer jz) ?_
 refine lUn (dn ty3) ?_
 refine lUn (hMvL rfl) (lUn (hMvA rfl) (lUn (qInt rfl rfl rfl) ?_))
 obtain⟨x4,k,h⟩:=aj h
 refine lUn (gu underlying41 sizeOf45 k) ?_
 refine lUn (gv zo fr) ?_
 refine lUn (dn ty9) ?_
 refine lUn (ain rfl underlying9) ?_
 refine lUn (qInt rfl rfl rfl) (lUn (hAsA rfl) ?_)
 exact⟨x3,x4,h,atOk⟩
theorem eg (x1:List C5) (x2 x3 x4:Int) (x5:List B5) (r:B5) (h:fq x1 x2 x3 x4 x5=some r):Fp 96 [ar bw x1,P6 x2,P6 x3,P6 x4,ar ag x5] ((ag).val r):=by
 refine dt (rs:=[.cell 10 64]) func96 rfl ntmps96 results96 dcd (fun s0=>?_)
 unfold fq at h
 refine W_rs (br al64 fun b6=>?_)
 refine bm (fun e C=>∃x7,∃x8,acl x2 x5 x7 x8=some r/\At [(10,Pr.pt b6 0)] [E0 b6 ag (B5.mk x2 [] [] 0 x7.At x8 (-1) (-1) x5)] e C) ?_ ?_
 ·rintro e C ⟨x7,x8,h,a⟩
  refine W_at a ?_
  unfold acl at h
  obtain rfl:=osj h
  exact bj ⟨rfl,[(ag).val (B5.mk x2 [] [] 0 x7.At x8 (-1) (-1) x5)],⟨yBox 0 ty64 aa,tv⟩,aa⟩
 refine mh 11 hmx kr kr ?_
 refine lUn (hMvA rfl) (lUn (hMvL rfl) (lUn (hMvA rfl) ?_))
 obtain⟨x7,k,h⟩:=aj h
 refine lUn (gu underlying41 sizeOf45 k) ?_
 refine lUn (gv aer jz) ?_
 refine lUn (dn ty3) ?_
 refine lUn (hMvL rfl) (lUn (hMvA rfl) ?_)
 obtain⟨x8,k,h⟩:=aj h
 refine lUn (dv (ami x1 x4 _ k)) ?_
 refine lUn (hMvL rfl) (lUn (ev a8 st64 ⟨(B5.mk x2 [] [] 0 0 0 0 0 []),⟨_,rfl,rfl,qbj⟩,⟨(B5.mk x2 [] [] 0 x7.At 0 0 0 []),⟨_,rfl,rfl,qbj⟩,⟨(B5.mk x2 [] [] 0 x7.At x8 0 0 []),⟨_,rfl,rfl,qbj⟩,⟨(B5.mk x2 [] [] 0 x7.At x8 (-1) 0 []),⟨_,rfl,rfl,qbj⟩,⟨(B5.mk x2 [] [] 0 x7.At x8 (-1) (-1) []),⟨_,rfl,rfl,qbj⟩,⟨(B5.mk x2 [] [] 0 x7.At x8 (-1) (-1) x5),⟨_,rfl,rfl,qbj⟩,rfl⟩⟩⟩⟩⟩⟩) ?_)
 refine au 0 rfl rfl (Upd.refl _) rfl sizeOf64 ?_
 exact⟨x7,x8,h,atOk⟩
end Go.Proofs.YtcndghapmoaidaaGreatDoor
set_option linter.unusedSectionVars false
set_option maxRecDepth 100000
set_option maxHeartbeats 4000000
namespace Go.Proofs.YtcndghapmoaidaaGreatDoor
open Go Go.Cn Tryz
attribute [local irreducible] qx ar
theorem da (r:C6) (h:eh=some r):Fp 97 [] ((ah).val r):=by
 refine dt (rs:=[.cell 0 97]) func97 rfl ntmps97 results97 dcd (fun s0=>?_)
 unfold eh at h
 refine W_rs (br al97 fun b1=>W_rs (kUn (jh st97 ⟨(C6.mk (-1) 0),⟨_,rfl,rfl,qbj⟩,rfl⟩) ?_))
 refine au 0 rfl rfl (Upd.refl _) rfl sizeOf97 ?_
 obtain rfl:=osj h
 exact bj ⟨rfl,[(ah).val (C6.mk (-1) 0)],⟨yBox 0 ty97 aa,tv⟩,aa⟩
theorem akn (x1:List C5) (x2:Int) (r:Bool) (h:acw x1 x2=some r):Fp 138 [ar bw x1,P6 x2] (Pb r):=by
 refine dr (rs:=[4]) func138 rfl ntmps138 ⟨by decide,results138⟩ dcd (fun s0=>?_)
 unfold acw at h
 refine W_rs (kAs rfl ?_)
 refine bm (fun e C=>∃x18,re x18=some r/\At [(4,Pb x18)] [] e C) ?_ ?_
 ·rintro e C ⟨x18,h,a⟩
  refine W_at a ?_
  unfold re at h
  obtain rfl:=osj h
  exact bj ⟨rfl,aa⟩
 refine W_r (kMvL rfl (kMv rfl (c8 h (ka x1 x2) rfl fun x3 _ h=>kMv rfl ?_)))
 rcases cg h with⟨hc4,h⟩|⟨hc4,h⟩
 ·refine skx ?_
  refine kPt rfl hc4 rfl (kMv rfl ?_)
  have hc12:true=true:=rfl
  refine skx ?_
  refine kPt rfl hc12 rfl (kMv rfl ?_)
  have hc16:true=true:=rfl
  refine skx ?_
  refine kPt rfl hc16 rfl (kAs rfl ?_)
  exact⟨true,h,atOk⟩
 refine kGd rfl aa hc4 (hMvL rfl) (kGd rfl aa hc4 (hMvA rfl) ?_)
 obtain⟨x5,k,h⟩:=aj h
 refine kGd rfl aa hc4 (dv (bp x1 x2 ([105,110,116]:Bt) _ k)) ?_
 refine kPf rfl hc4 rfl (kMv rfl ?_)
 rcases cg h with⟨hc6,h⟩|⟨hc6,h⟩
 ·refine skx ?_
  refine kPt rfl hc6 rfl (kMv rfl ?_)
  have hc10:true=true:=rfl
  refine skx ?_
  refine kPt rfl hc10 rfl (kAs rfl ?_)
  exact⟨true,h,atOk⟩
 refine kGd rfl aa hc6 (hMvL rfl) (kGd rfl aa hc6 (hMvA rfl) ?_)
 obtain⟨x7,k,h⟩:=aj h
 refine kGd rfl aa hc6 (dv (bp x1 x2 ([98,111,111,108,101,97,110]:Bt) _ k)) ?_
 refine kPf rfl hc6 rfl (kMv rfl ?_)
 rcases cg h with⟨hc8,h⟩|⟨hc8,h⟩
 ·refine skx ?_
  refine kPt rfl hc8 rfl (kAs rfl ?_)
  exact⟨true,h,atOk⟩
 refine kGd rfl aa hc8 (hMvL rfl) (kGd rfl aa hc8 (hMvA rfl) ?_)
 obtain⟨x9,k,h⟩:=aj h
 refine kGd rfl aa hc8 (dv (bp x1 x2 ([118,111,105,100]:Bt) _ k)) ?_
 refine kPf rfl hc8 rfl (kAs rfl ?_)
 exact⟨x9,h,atOk⟩
theorem ae5 (x1:List C5) (x2:B5) (x3:Int) (r:B5) (h:xe x1 x2 x3=some r):Fp 141 [ar bw x1,(ag).val x2,P6 x3] ((ag).val r):=by
 refine dt (rs:=[.cell 6 64]) func141 rfl ntmps141 results141 dcd (fun s0=>?_)
 unfold xe at h
 refine W_rs ?_
 refine rBox (R:=ag) (a:=x2) rfl (fun b4=>?_)
 refine br al64 fun b5=>W_rs (kMvL rfl (kMv rfl ?_))
 obtain⟨x6,k,h⟩:=aj h
 refine kUn (gu underlying41 sizeOf45 k) ?_
 refine kUn (gv zo fr) ?_
 refine kUn (dn ty9) ?_
 refine kUn (ak zn) ?_
 refine au 0 rfl rfl ah3 rfl sizeOf9 (W_rs (kMvL rfl (kMv rfl ?_)))
 obtain⟨x7,k,h⟩:=aj h
 refine kUn (gu underlying41 sizeOf45 k) ?_
 refine kUn (gv aer jz) ?_
 refine kUn (dn ty3) ?_
 refine kUn (ak anw) ?_
 refine au 0 rfl rfl afx rfl sizeOf3 (W_rs (kMvL rfl (kMv rfl (kIn rfl rfl rfl ?_))))
 obtain⟨x8,k,h⟩:=aj h
 refine kUn (gu underlying41 sizeOf45 k) ?_
 refine kUn (gv zo fr) ?_
 refine kUn (dn ty9) ?_
 refine kUn (ak gz) ?_
 refine au 0 rfl rfl qd rfl sizeOf9 (W_rs (kMvL rfl (kMv rfl (kIn rfl rfl rfl ?_))))
 obtain⟨x9,k,h⟩:=aj h
 refine kUn (gu underlying41 sizeOf45 k) ?_
 refine kUn (gv aer jz) ?_
 refine kUn (dn ty3) ?_
 refine kUn (ak tf) ?_
 refine au 0 rfl rfl yh rfl sizeOf3 (W_rs (kUn (ax 0 ty64 (Sub.refl _)) ?_))
 refine au 1 rfl rfl (Upd.refl _) rfl sizeOf64 ?_
 obtain rfl:=osj h
 exact bj ⟨rfl,[(ag).val ({{{{x2 with Type_:=x6.Text} with TypeAt:=x7.At} with Text:=x8.Text} with At:=x9.At})],⟨yBox 1 ty64 aa,tv⟩,aa⟩
theorem apd (x1:List C5) (x2:Int) (r:(List B5) × Int × C6) (h:abi x1 x2=some r):Fc 139 [ar bw x1,P6 x2] [] (fun q C'=>∃u0,q=bu [Pi u0,P6 r.2.1,(ah).val r.2.2]/\C'=[E3 u0 ag r.1 64]):=by
 refine aq6 (rs:=[.tmp 4,.tmp 5,.cell 6 97]) func139 rfl ntmps139 results139 dcd (fun s0=>?_)
 unfold abi at h
 refine W_rs (kAs rfl (kAs rfl (br al97 fun b3=>W_rs (kAs rfl (ba (W_rs (kMvL rfl (kMv rfl (c8 h (bp x1 x2 ([41]:Bt)) rfl fun x4 _ h=>?_)))))))))
 refine bc h rfl (fun _ h=>?_) (fun _ h=>?_)
 ·refine W_rs (kMv rfl (kMv rfl (kIn rfl rfl rfl (c8 h (da) rfl fun x6 _ h=>kAs rfl (kAs rfl (au 0 rfl rfl (Upd.refl _) rfl sizeOf97 ?_))))))
  refine agx [4] ag 64 (fun v7=>?_) ⟨rfl,tv⟩
  obtain rfl:=osj h
  exact bj ⟨.inl rfl,[Pi v7,P6 (w64 (x2+1)),(ah).val x6],⟨yT aa,yT aa,yBox 0 ty97 aa,tv⟩,_,A8.of [1] rfl,v7,rfl,rfl⟩
 refine aw (ay ?_)
 obtain⟨n1,hN1⟩:=bt h
 refine agx [7] ag 64 (fun v36=>?_) ⟨rfl,tv⟩
 refine fb (fun m e C=>∃x8,∃x10,∃v9,fp (fun s=>t6 x1 s.1 s.2) m (x8,x10)=some r/\At [(0,ar bw x1),(1,P6 x8),(6,Pr.pt b3 0),(7,Pi v9)] [E0 b3 ah (C6.mk 0 0),E3 v9 ag x10 64] e C) n1 ⟨x2,[],v36,hN1,⟨⟨aa,aa,aa,aa,tv⟩,A8.refl _⟩⟩ ?_
 rintro m e C ⟨x8,x10,v9,hN1,a⟩
 refine W_at a ?_
 obtain⟨m1,w1l,rfl,h1l,hn1,ho1⟩:=bl hN1
 replace h1l:t6 x1 x8 x10=some w1l:=h1l
 unfold t6 at h1l
 refine ay (ba ?_)
 refine bm (fun e C=>∃x17,t7 x8 x1 x10 x17=some w1l/\At [(0,ar bw x1),(1,P6 x8),(6,Pr.pt b3 0),(7,Pi v9),(23,Pb x17)] [E0 b3 ah (C6.mk 0 0),E3 v9 ag x10 64] e C) ?_ ?_
 ·rintro e C ⟨x17,h1l,a⟩
  refine W_at a ?_
  unfold t7 at h1l
  refine bc h1l rfl (fun _ h1l=>?_) (fun _ h1l=>?_)
  ·refine W_rs (kMv rfl (c8 h1l (cp x8) rfl fun x19 _ h1l=>kAs rfl (kAs rfl (au 0 rfl rfl (Upd.refl _) rfl sizeOf97 ?_))))
   have h:some ([],0,x19)=some r:=congrArg some (ho1 _ (ojs h1l))
   refine agx [4] ag 64 (fun v20=>?_) ⟨rfl,tv⟩
   obtain rfl:=osj h
   exact bj ⟨.inl rfl,[Pi v20,P6 0,(ah).val x19],⟨yT aa,yT aa,yBox 0 ty97 aa,tv⟩,_,A8.of [2] rfl,v20,rfl,rfl⟩
  refine aw (ba (W_rs (kMvL rfl (kMv rfl (kIn rfl rfl rfl (c8 h1l (ka x1 (w64 (x8+1))) rfl fun x21 _ h1l=>kNo rfl ?_))))))
  refine bc h1l rfl (fun _ h1l=>?_) (fun _ h1l=>?_)
  ·refine W_rs (kMv rfl (kIn rfl rfl rfl (c8 h1l (cp (w64 (x8+1))) rfl fun x23 _ h1l=>kAs rfl (kAs rfl (au 0 rfl rfl (Upd.refl _) rfl sizeOf97 ?_)))))
   have h:some ([],0,x23)=some r:=congrArg some (ho1 _ (ojs h1l))
   refine agx [4] ag 64 (fun v24=>?_) ⟨rfl,tv⟩
   obtain rfl:=osj h
   exact bj ⟨.inl rfl,[Pi v24,P6 0,(ah).val x23],⟨yT aa,yT aa,yBox 0 ty97 aa,tv⟩,_,A8.of [2] rfl,v24,rfl,rfl⟩
  refine aw (W_rs (kMv rfl (kMvL rfl (kMvL rfl (kMv rfl (kMv rfl (kIn rfl rfl rfl ?_)))))))
  obtain⟨x25,k,h1l⟩:=aj h1l
  refine kUn (acy (eg x1 4 x8 (w64 (x8+2)) [] _ k) ⟨aa,aa,aa,aa,du _,tv⟩) ?_
  refine kMv rfl (c8 h1l (ae5 x1 x25 x8) rfl fun x26 _ h1l=>?_)
  refine kUn (c5 (R:=ag) (a:=x26) el53 nb) ?_
  obtain⟨x27,k,h1l⟩:=aj h1l
  refine gq 1 el53 k (fun v28=>?_)
  refine kAs rfl (ba (W_rs (kMvL rfl (kMv rfl (kIn rfl rfl rfl (c8 h1l (bp x1 (w64 (x8+2)) ([41]:Bt)) rfl fun x29 _ h1l=>?_))))))
  refine bc h1l rfl (fun _ h1l=>?_) (fun _ h1l=>?_)
  ·refine W_rs (kMv rfl (kMv rfl (kIn rfl rfl rfl (c8 h1l (da) rfl fun x31 _ h1l=>kAs rfl (kAs rfl (au 0 rfl rfl (Upd.refl _) rfl sizeOf97 ?_))))))
   have h:some (x27,w64 (x8+3),x31)=some r:=congrArg some (ho1 _ (ojs h1l))
   obtain rfl:=osj h
   exact bj ⟨.inl rfl,[Pi v28,P6 (w64 (x8+3)),(ah).val x31],⟨yT aa,yT aa,yBox 0 ty97 aa,tv⟩,_,A8.of [1] rfl,v28,rfl,rfl⟩
  refine aw (ba (W_rs (kMvL rfl (kMv rfl (kIn rfl rfl rfl (c8 h1l (bp x1 (w64 (x8+2)) ([44]:Bt)) rfl fun x32 _ h1l=>kNo rfl ?_))))))
  refine bc h1l rfl (fun _ h1l=>?_) (fun _ h1l=>?_)
  ·refine W_rs (kMv rfl (kIn rfl rfl rfl (c8 h1l (cp (w64 (x8+2))) rfl fun x34 _ h1l=>kAs rfl (kAs rfl (au 0 rfl rfl (Upd.refl _) rfl sizeOf97 ?_)))))
   have h:some ([],0,x34)=some r:=congrArg some (ho1 _ (ojs h1l))
   refine agx [4] ag 64 (fun v35=>?_) ⟨rfl,tv⟩
   obtain rfl:=osj h
   exact bj ⟨.inl rfl,[Pi v35,P6 0,(ah).val x34],⟨yT aa,yT aa,yBox 0 ty97 aa,tv⟩,_,A8.of [2] rfl,v35,rfl,rfl⟩
  refine aw (W_r (kMv rfl (kIn rfl rfl rfl (kAs rfl ?_))))
  exact⟨m1,lsu,w64 (x8+3),x27,v28,hn1 _ (ojs h1l),atOk⟩
 refine W_r (kMvL rfl (kMv rfl (c8 h1l (akn x1 x8) rfl fun x14 _ h1l=>kNo rfl (kMv rfl ?_))))
 rcases cg h1l with⟨hc15,h1l⟩|⟨hc15,h1l⟩
 ·refine skx ?_
  refine kPt rfl hc15 rfl ?_
  exact⟨true,h1l,atOk⟩
 refine kGd rfl aa hc15 (hMvL rfl) (kGd rfl aa hc15 (hMvA rfl) ?_)
 obtain⟨x16,k,h1l⟩:=aj h1l
 refine kGd rfl aa hc15 (dv (bp x1 x8 ([118,111,105,100]:Bt) _ k)) ?_
 refine kPf rfl hc15 rfl ?_
 exact⟨x16,h1l,atOk⟩
theorem ap5 (x1:List C5) (x2:Int) (r:Bool) (h:ac5 x1 x2=some r):Fp 167 [ar bw x1,P6 x2] (Pb r):=by
 refine dr (rs:=[4]) func167 rfl ntmps167 ⟨by decide,results167⟩ dcd (fun s0=>?_)
 unfold ac5 at h
 refine W_rs (kAs rfl ?_)
 refine bm (fun e C=>∃x26,my x26=some r/\At [(4,Pb x26)] [] e C) ?_ ?_
 ·rintro e C ⟨x26,h,a⟩
  refine W_at a ?_
  unfold my at h
  obtain rfl:=osj h
  exact bj ⟨rfl,aa⟩
 refine W_r (kMvL rfl (kMv rfl (c8 h (bp x1 x2 ([105,110,116]:Bt)) rfl fun x3 _ h=>kMv rfl ?_)))
 rcases cg h with⟨hc4,h⟩|⟨hc4,h⟩
 ·refine skx ?_
  refine kPt rfl hc4 rfl (kMv rfl ?_)
  have hc16:true=true:=rfl
  refine skx ?_
  refine kPt rfl hc16 rfl (kMv rfl ?_)
  have hc22:true=true:=rfl
  refine skx ?_
  refine kPt rfl hc22 rfl (kAs rfl ?_)
  exact⟨true,h,atOk⟩
 refine kGd rfl aa hc4 (hMvL rfl) (kGd rfl aa hc4 (hMvA rfl) ?_)
 obtain⟨x5,k,h⟩:=aj h
 refine kGd rfl aa hc4 (dv (bp x1 x2 ([98,111,111,108,101,97,110]:Bt) _ k)) ?_
 refine kPf rfl hc4 rfl (kMv rfl ?_)
 rcases cg h with⟨hc6,h⟩|⟨hc6,h⟩
 ·refine skx ?_
  refine kPt rfl hc6 rfl (kMv rfl ?_)
  have hc12:true=true:=rfl
  refine skx ?_
  refine kPt rfl hc12 rfl (kAs rfl ?_)
  exact⟨true,h,atOk⟩
 refine kGd rfl aa hc6 (hMvL rfl) (kGd rfl aa hc6 (hMvA rfl) ?_)
 obtain⟨x7,k,h⟩:=aj h
 refine kGd rfl aa hc6 (dv (bp x1 x2 ([118,111,105,100]:Bt) _ k)) ?_
 refine kPf rfl hc6 rfl (kMv rfl ?_)
 rcases cg h with⟨hc8,h⟩|⟨hc8,h⟩
 ·refine skx ?_
  refine kPt rfl hc8 rfl (kAs rfl ?_)
  exact⟨true,h,atOk⟩
 refine kGd rfl aa hc8 (hMvL rfl) (kGd rfl aa hc8 (hMvA rfl) ?_)
 obtain⟨x9,k,h⟩:=aj h
 refine kGd rfl aa hc8 (dv (ka x1 x2 _ k)) ?_
 refine kGd rfl aa hc8 (hMvA rfl) ?_
 rcases cg h with⟨hc10,h⟩|⟨hc10,h⟩
 ·refine kGd rfl aa hc10 (hMvL rfl) (kGd rfl aa hc10 (hMvA rfl) (kGd rfl aa hc10 (qInt rfl rfl rfl) ?_))
  obtain⟨x11,k,h⟩:=aj h
  refine kGd rfl aa hc10 (dv (ka x1 (w64 (x2+1)) _ k)) ?_
  refine kGd rfl aa hc8 (hPt rfl hc10 rfl) (kPf rfl hc8 rfl (kAs rfl ?_))
  exact⟨x11,h,atOk⟩
 refine skx ?_
 refine kGd rfl aa hc8 (hPf rfl hc10 rfl) (kPf rfl hc8 rfl (kAs rfl ?_))
 exact⟨false,h,atOk⟩
theorem ap8 (x1:List C5) (x2 r:Int) (h:ac7 x1 x2=some r):Fp 198 [ar bw x1,P6 x2] (P6 r):=by
 refine dr (rs:=[4]) func198 rfl ntmps198 ⟨by decide,results198⟩ dcd (fun s0=>?_)
 unfold ac7 at h
 refine W_rs (kAs rfl (W_rs (kUn (c5 (R:=Rp.str) (a:=([124,124]:Bt)) el22 nb) ?_)))
 refine kUn (c5 (R:=Rp.str) (a:=([38,38]:Bt)) el22 nb) ?_
 refine kUn (nh (R:=Rp.str) (ls:=([([61,61]:Bt),([33,61]:Bt)]:List Bt)) el22 nb ⟨rfl,rfl⟩ ⟨rfl,rfl,tv⟩) ?_
 refine kUn (nh (R:=Rp.str) (ls:=([([60]:Bt),([60,61]:Bt),([62]:Bt),([62,61]:Bt)]:List Bt)) el22 nb ⟨rfl,rfl⟩ ⟨rfl,rfl,rfl,rfl,tv⟩) ?_
 refine kUn (nh (R:=Rp.str) (ls:=([([43]:Bt),([45]:Bt)]:List Bt)) el22 nb ⟨rfl,rfl⟩ ⟨rfl,rfl,tv⟩) ?_
 refine kUn (nh (R:=Rp.str) (ls:=([([42]:Bt),([47]:Bt),([37]:Bt)]:List Bt)) el22 nb ⟨rfl,rfl⟩ ⟨rfl,rfl,rfl,tv⟩) ?_
 refine kUn (nh (R:=Rp.list Rp.str) (ls:=([([([124,124]:Bt)]:List Bt),([([38,38]:Bt)]:List Bt),([([61,61]:Bt),([33,61]:Bt)]:List Bt),([([60]:Bt),([60,61]:Bt),([62]:Bt),([62,61]:Bt)]:List Bt),([([43]:Bt),([45]:Bt)]:List Bt),([([42]:Bt),([47]:Bt),([37]:Bt)]:List Bt)]:List (List Bt))) el224 nb ⟨rfl,rfl⟩ ⟨rfl,rfl,rfl,rfl,rfl,rfl,tv⟩) ?_
 refine kAsL rfl (ba (W_rs (kAs rfl (ay ?_))))
 obtain⟨z2l,hz2,h⟩:=aj h
 obtain⟨n2,hN2⟩:=bt hz2
 refine dl 0 (fun e C=>aa2=some r/\At [] [] e C) ?_ ?_
 ·rintro e C ⟨h,a⟩
  refine W_at a ?_
  unfold aa2 at h
  refine W_rs (kAs rfl ?_)
  obtain rfl:=osj h
  exact bj ⟨rfl,aa⟩
 refine fb (fun m e C=>∃x3,fp (fun s=>wd x1 x2 s) m x3=some z2l/\At [(0,ar bw x1),(1,P6 x2),(5,ar (Rp.list Rp.str) ([([([124,124]:Bt)]:List Bt),([([38,38]:Bt)]:List Bt),([([61,61]:Bt),([33,61]:Bt)]:List Bt),([([60]:Bt),([60,61]:Bt),([62]:Bt),([62,61]:Bt)]:List Bt),([([43]:Bt),([45]:Bt)]:List Bt),([([42]:Bt),([47]:Bt),([37]:Bt)]:List Bt)]:List (List Bt))),(6,P6 x3)] [] e C) n2 ⟨0,hN2,⟨⟨aa,aa,aa,aa,tv⟩,A8.refl _⟩⟩ ?_
 rintro m e C ⟨x3,hN2,a⟩
 refine W_at a ?_
 obtain⟨m2,w2l,rfl,h2l,hn2,ho2⟩:=bl hN2
 replace h2l:wd x1 x2 x3=some w2l:=h2l
 unfold wd at h2l
 refine ba (W_rs (kMv rfl (kMvL rfl (kUn (ma rfl underlying224) ?_))))
 refine kIn rfl rfl rfl ?_
 refine bc h2l rfl (fun _ h2l=>?_) (fun _ h2l=>?_)
 ·refine aw (ba (ay (W_rs (kAs rfl (ay ?_)))))
  obtain⟨z4l,hz4,h2l⟩:=aj h2l
  obtain⟨n4,hN4⟩:=bt hz4
  refine dl 2 (fun e C=>ae6 x3=some w2l/\At [(0,ar bw x1),(1,P6 x2),(5,ar (Rp.list Rp.str) ([([([124,124]:Bt)]:List Bt),([([38,38]:Bt)]:List Bt),([([61,61]:Bt),([33,61]:Bt)]:List Bt),([([60]:Bt),([60,61]:Bt),([62]:Bt),([62,61]:Bt)]:List Bt),([([43]:Bt),([45]:Bt)]:List Bt),([([42]:Bt),([47]:Bt),([37]:Bt)]:List Bt)]:List (List Bt))),(6,P6 x3)] [] e C) ?_ ?_
  ·rintro e C ⟨h2l,a⟩
   refine W_at a ?_
   unfold ae6 at h2l
   refine W_r (kMv rfl (kIn rfl rfl rfl (kAs rfl ?_)))
   exact⟨m2,lsu,w64 (x3+1),hn2 _ (ojs h2l),atOk⟩
  refine fb (fun m e C=>∃x6,fp (fun s=>wc x3 x1 x2 s) m x6=some z4l/\At [(0,ar bw x1),(1,P6 x2),(5,ar (Rp.list Rp.str) ([([([124,124]:Bt)]:List Bt),([([38,38]:Bt)]:List Bt),([([61,61]:Bt),([33,61]:Bt)]:List Bt),([([60]:Bt),([60,61]:Bt),([62]:Bt),([62,61]:Bt)]:List Bt),([([43]:Bt),([45]:Bt)]:List Bt),([([42]:Bt),([47]:Bt),([37]:Bt)]:List Bt)]:List (List Bt))),(6,P6 x3),(7,P6 x6)] [] e C) n4 ⟨0,hN4,⟨⟨aa,aa,aa,aa,aa,tv⟩,A8.refl _⟩⟩ ?_
  rintro m e C ⟨x6,hN4,a⟩
  refine W_at a ?_
  obtain⟨m4,w4l,rfl,h4l,hn4,ho4⟩:=bl hN4
  replace h4l:wc x3 x1 x2 x6=some w4l:=h4l
  unfold wc at h4l
  refine ba (W_rs (kMv rfl (kMvL rfl (kMv rfl ?_))))
  obtain⟨x8,k,h4l⟩:=aj h4l
  refine kUn (gu underlying224 sizeOf22 k) ?_
  refine kUn (dn ty22) ?_
  refine kUn (ma rfl underlying22) ?_
  refine kIn rfl rfl rfl ?_
  refine bc h4l rfl (fun _ h4l=>?_) (fun _ h4l=>?_)
  ·refine aw (ba (ay (W_rs (kMvL rfl (kMv rfl (kMvL rfl (kMv rfl ?_)))))))
   obtain⟨x10,k,h4l⟩:=aj h4l
   refine kUn (gu underlying224 sizeOf22 k) ?_
   refine kUn (dn ty22) ?_
   refine kMv rfl ?_
   obtain⟨x11,k,h4l⟩:=aj h4l
   refine kUn (gu underlying22 sizeOf9 k) ?_
   refine kUn (dn ty9) ?_
   refine c8 h4l (bp x1 x2 x11) rfl fun x12 _ h4l=>?_
   refine bc h4l rfl (fun _ h4l=>?_) (fun _ h4l=>?_)
   ·refine W_rs (kMv rfl (kIn rfl rfl rfl (kAs rfl ?_)))
    obtain rfl:=ho4 _ (ojs h4l)
    replace h2l:some (.inr (.done (w64 (x3+1))))=some w2l:=h2l
    obtain rfl:=ho2 _ (ojs h2l)
    replace h:some (w64 (x3+1))=some r:=h
    obtain rfl:=osj h
    exact bj ⟨rfl,aa⟩
   refine aw (W_r (kMv rfl (kIn rfl rfl rfl (kAs rfl ?_))))
   exact⟨m4,lsu,w64 (x6+1),hn4 _ (ojs h4l),atOk⟩
  refine ep ?_
  obtain rfl:=ho4 _ (ojs h4l)
  exact⟨h2l,atOk⟩
 refine ep ?_
 obtain rfl:=ho2 _ (ojs h2l)
 exact⟨h,atOk⟩
def ie (R:av):Prop:=(∀(x1:List C5) (x2:Int) (x3:Int) (r:B5 × Int × C6),R.1 x1 x2 x3=some r->Fp 179 [ar bw x1,P6 x2,P6 x3] (bu [(ag).val r.1,P6 r.2.1,(ah).val r.2.2]))/\(∀(x1:List C5) (x2:Int) (x3:Int) (x4:Int) (r:B5 × Int × C6),R.2.1 x1 x2 x3 x4=some r->Fp 190 [ar bw x1,P6 x2,P6 x3,P6 x4] (bu [(ag).val r.1,P6 r.2.1,(ah).val r.2.2]))/\(∀(x1:List C5) (x2:Int) (x3:Int) (r:B5 × Int × C6),R.2.2.1 x1 x2 x3=some r->Fp 197 [ar bw x1,P6 x2,P6 x3] (bu [(ag).val r.1,P6 r.2.1,(ah).val r.2.2]))/\(∀(x1:List C5) (x2:Int) (x3:Int) (r:B5 × Int × C6),R.2.2.2.1 x1 x2 x3=some r->Fp 201 [ar bw x1,P6 x2,P6 x3] (bu [(ag).val r.1,P6 r.2.1,(ah).val r.2.2]))/\(∀(x1:List C5) (x2:Int) (x3:Int) (r:(List B5) × Int × C6),R.2.2.2.2 x1 x2 x3=some r->Fp 202 [ar bw x1,P6 x2,P6 x3] (bu [ar ag r.1,P6 r.2.1,(ah).val r.2.2]))
theorem ags (R:av) (ih:ie R) (x1:List C5) (x2 x3:Int) (r:B5 × Int × C6) (h:oy R x1 x2 x3=some r):Fp 179 [ar bw x1,P6 x2,P6 x3] (bu [(ag).val r.1,P6 r.2.1,(ah).val r.2.2]):=by
 refine dt (rs:=[.cell 6 64,.tmp 7,.cell 8 97]) func179 rfl ntmps179 results179 dcd (fun s0=>?_)
 unfold oy at h
 refine W_rs (br al64 fun b4=>kAs rfl (br al97 fun b5=>W_rs (kMvL rfl (kMv rfl (kMv rfl ?_)))))
 obtain⟨⟨x6,x7,x8⟩,k,h⟩:=aj h
 refine kUn (dv (ih.2.1 x1 x2 x3 1 _ k)) ?_
 refine kUn aq ?_
 refine kUn aq ?_
 refine kUn aq ?_
 refine au 0 rfl rfl (Upd.refl _) rfl sizeOf64 (kAs rfl (au 1 rfl rfl (Upd.refl _) rfl sizeOf97 ?_))
 obtain rfl:=osj h
 exact bj ⟨rfl,[(ag).val x6,P6 x7,(ah).val x8],⟨yBox 0 ty64 aa,yT aa,yBox 1 ty97 aa,tv⟩,aa⟩
theorem ak8 (R:av) (ih:ie R) (x1:List C5) (x2 x3 x4:Int) (r:B5 × Int × C6) (h:yx R x1 x2 x3 x4=some r):Fp 190 [ar bw x1,P6 x2,P6 x3,P6 x4] (bu [(ag).val r.1,P6 r.2.1,(ah).val r.2.2]):=by
 refine dt (rs:=[.cell 8 64,.tmp 9,.cell 10 97]) func190 rfl ntmps190 results190 dcd (fun s0=>?_)
 let p1:=B5.mk 0 [] [] 0 0 0 0 0 []
 unfold yx at h
 refine W_rs (br al64 fun b5=>kAs rfl (br al97 fun b6=>ba (W_rs (kMv rfl (kIn rfl rfl rfl ?_)))))
 let p2:=E0 b5 ag p1
 refine bc h rfl (fun _ h=>?_) (fun _ h=>?_)
 ·refine W_rs (kMvL rfl (kMv rfl (kMv rfl ?_)))
  obtain⟨⟨x8,x9,x10⟩,k,h⟩:=aj h
  refine kUn (dv (ih.2.2.1 x1 x2 x3 _ k)) ?_
  refine kUn aq ?_
  refine kUn aq ?_
  refine kUn aq ?_
  refine au 0 rfl rfl (Upd.refl _) rfl sizeOf64 (kAs rfl (au 1 rfl rfl (Upd.refl _) rfl sizeOf97 ?_))
  obtain rfl:=osj h
  exact bj ⟨rfl,[(ag).val x8,P6 x9,(ah).val x10],⟨yBox 0 ty64 aa,yT aa,yBox 1 ty97 aa,tv⟩,aa⟩
 refine aw (W_rs (kMvL rfl (kMv rfl (kMv rfl (kMv rfl (kIn rfl rfl rfl ?_))))))
 obtain⟨⟨x11,x12,x13⟩,k,h⟩:=aj h
 refine kUn (dv (ih.2.1 x1 x2 x3 (w64 (x4+1)) _ k)) ?_
 refine kUn (hMv (out:=bu [(ag).val x11,P6 x12,(ah).val x13]) rfl) (kUn aq ?_)
 refine kUn aq ?_
 refine kUn aq ?_
 refine br al64 fun b14=>?_
 refine br al97 fun b15=>au 2 rfl rfl (Upd.refl _) rfl sizeOf64 (kAs rfl (au 3 rfl rfl (Upd.refl _) rfl sizeOf97 (ba (W_rs (kUn (ak nf) ?_)))))
 let p3:=E0 b15 ah x13
 refine kUn (ax 3 ty3 cd) ?_
 refine kIn rfl rfl rfl ?_
 refine bc h rfl (fun _ h=>?_) (fun _ h=>?_)
 ·refine bm (fun e C=>aax R x13=some r/\At [(8,Pr.pt b5 0),(9,P6 0),(10,Pr.pt b6 0)] [p2,E0 b6 ah x13,E0 b14 ag x11,p3] e C) ?_ ?_
  ·rintro e C ⟨h,a⟩
   refine W_at a ?_
   unfold aax at h
   obtain rfl:=osj h
   exact bj ⟨rfl,[(ag).val p1,P6 0,(ah).val x13],⟨yBox 0 ty64 aa,yT aa,yBox 1 ty97 aa,tv⟩,aa⟩
  refine fo [(2,0,E0 b5 ag p1),(4,1,E0 b6 ah x13)] [p2,E0 b6 ah x13,E0 b14 ag x11,p3] hmx kr kr (show([2,4]:List Nat).Nodup by decide) (show([0,1]:List Nat).Nodup by decide) rfl rfl ?_
  refine eq1 (out:=(ag).val p1) (fun C2 hC=>(ev a8 st64 rfl)) ?_
  refine eql 3 ty97 (Sub.refl _) rfl rfl kr ?_
  refine eqs 0 sizeOf64 (Upd.refl _) rfl rfl rfl kr ?_
  refine eq1 (out:=P6 0) (fun C2 hC=>fw) ?_
  refine eqs 1 sizeOf97 (Upd.refl _) rfl rfl rfl kr ?_
  exact⟨h,atOk⟩
 refine aw (ba (ay ?_))
 obtain⟨z4l,hz4,h⟩:=aj h
 obtain⟨n4,hN4⟩:=bt hz4
 refine dl 0 (fun e C=>∃x17,∃x18,aau R x17 x18=some r/\At [(8,Pr.pt b5 0),(10,Pr.pt b6 0),(11,Pr.pt b14 0),(12,P6 x17)] [p2,E0 b6 ah (C6.mk 0 0),E0 b14 ag x18,p3] e C) ?_ ?_
 ·rintro e C ⟨x17,x18,h,a⟩
  refine W_at a ?_
  unfold aau at h
  refine bm (fun e C=>∃x31,aaw R x18 x17 x31=some r/\At [(8,Pr.pt b5 0),(9,P6 x17),(10,Pr.pt b6 0)] [E0 b5 ag x18,E0 b6 ah x31,E0 b14 ag x18,p3] e C) ?_ ?_
  ·rintro e C ⟨x31,h,a⟩
   refine W_at a ?_
   unfold aaw at h
   obtain rfl:=osj h
   exact bj ⟨rfl,[(ag).val x18,P6 x17,(ah).val x31],⟨yBox 0 ty64 aa,yT aa,yBox 1 ty97 aa,tv⟩,aa⟩
  obtain⟨x31,k,h⟩:=aj h
  refine fo [(3,0,E0 b5 ag x18),(5,1,E0 b6 ah x31)] [E0 b5 ag x18,E0 b6 ah x31,E0 b14 ag x18,p3] hmx kr kr (show([3,5]:List Nat).Nodup by decide) (show([0,1]:List Nat).Nodup by decide) rfl rfl ?_
  refine eql 2 ty64 (Sub.refl _) rfl rfl kr ?_
  refine eq1 (out:=P6 x17) (fun C2 hC=>gk) ?_
  refine eq1 (out:=(ah).val x31) (fun C2 hC=>(dv (da _ k))) ?_
  refine eqs 0 sizeOf64 (Upd.refl _) rfl rfl rfl kr ?_
  refine eq1 (out:=P6 x17) (fun C2 hC=>fw) ?_
  refine eqs 1 sizeOf97 (Upd.refl _) rfl rfl rfl kr ?_
  exact⟨x31,h,atOk⟩
 refine fb (fun m e C=>∃x17,∃x18,fp (fun s=>vv R x1 x4 x3 x2 s.1 s.2) m (x17,x18)=some z4l/\At [(0,ar bw x1),(1,P6 x2),(2,P6 x3),(3,P6 x4),(8,Pr.pt b5 0),(10,Pr.pt b6 0),(11,Pr.pt b14 0),(12,P6 x17)] [p2,E0 b6 ah (C6.mk 0 0),E0 b14 ag x18,p3] e C) n4 ⟨x12,x11,hN4,⟨⟨aa,aa,aa,aa,aa,aa,aa,aa,tv⟩,A8.refl _⟩⟩ ?_
 rintro m e C ⟨x17,x18,hN4,a⟩
 refine W_at a ?_
 obtain⟨m4,w4l,rfl,h4l,hn4,ho4⟩:=bl hN4
 replace h4l:vv R x1 x4 x3 x2 x17 x18=some w4l:=h4l
 unfold vv at h4l
 refine ba (W_rs (kMvL rfl (kMv rfl (c8 h4l (ap8 x1 x17) rfl fun x21 _ h4l=>kMv rfl (kIn rfl rfl rfl ?_)))))
 refine bc h4l rfl (fun _ h4l=>?_) (fun _ h4l=>?_)
 ·refine aw (ay (W_rs (kMvL rfl (kMv rfl (kIn rfl rfl rfl (kMv rfl (kMv rfl (kIn rfl rfl rfl ?_))))))))
  obtain⟨⟨x23,x24,x25⟩,k,h4l⟩:=aj h4l
  refine kUn (dv (ih.2.1 x1 (w64 (x17+1)) x3 (w64 (x4+1)) _ k)) ?_
  refine kUn (hMv (out:=bu [(ag).val x23,P6 x24,(ah).val x25]) rfl) (kUn aq ?_)
  refine kUn aq ?_
  refine kUn aq ?_
  refine br al64 fun b26=>?_
  refine br al97 fun b27=>au 4 rfl rfl (Upd.refl _) rfl sizeOf64 (kAs rfl (au 5 rfl rfl (Upd.refl _) rfl sizeOf97 (ba (W_rs (kUn (ak nf) ?_)))))
  refine kUn (ax 5 ty3 cd) ?_
  refine kIn rfl rfl rfl ?_
  refine bc h4l rfl (fun _ h4l=>?_) (fun _ h4l=>?_)
  ·refine bm (fun e C=>aav R x25=some w4l/\At [(8,Pr.pt b5 0),(9,P6 0),(10,Pr.pt b6 0)] [p2,E0 b6 ah x25,E0 b14 ag x18,p3,E0 b26 ag x23,E0 b27 ah x25] e C) ?_ ?_
   ·rintro e C ⟨h4l,a⟩
    refine W_at a ?_
    unfold aav at h4l
    obtain rfl:=ho4 _ (ojs h4l)
    replace h:some (p1,0,x25)=some r:=h
    obtain rfl:=osj h
    exact bj ⟨rfl,[(ag).val p1,P6 0,(ah).val x25],⟨yBox 0 ty64 aa,yT aa,yBox 1 ty97 aa,tv⟩,aa⟩
   refine fo [(2,0,E0 b5 ag p1),(4,1,E0 b6 ah x25)] [p2,E0 b6 ah x25,E0 b14 ag x18,p3,E0 b26 ag x23,E0 b27 ah x25] hmx kr kr (show([2,4]:List Nat).Nodup by decide) (show([0,1]:List Nat).Nodup by decide) rfl rfl ?_
   refine eq1 (out:=(ag).val p1) (fun C2 hC=>(ev a8 st64 rfl)) ?_
   refine eql 5 ty97 (Sub.refl _) rfl rfl kr ?_
   refine eqs 0 sizeOf64 (Upd.refl _) rfl rfl rfl kr ?_
   refine eq1 (out:=P6 0) (fun C2 hC=>fw) ?_
   refine eqs 1 sizeOf97 (Upd.refl _) rfl rfl rfl kr ?_
   exact⟨h4l,atOk⟩
  refine aw (W_rs (kMvL rfl (kMv rfl ?_)))
  obtain⟨x29,k,h4l⟩:=aj h4l
  refine kUn (gu underlying41 sizeOf45 k) ?_
  refine kUn (gv zo fr) ?_
  refine kUn (dn ty9) ?_
  refine kAs rfl (W_rs (kMvL rfl (kMv rfl (kMv rfl (kUn (ax 2 ty64 (Sub.refl _)) ?_)))))
  refine kUn (ax 4 ty64 (Sub.refl _)) ?_
  refine kUn (nh (R:=ag) (ls:=([x18,x23]:List B5)) el53 nb ⟨rfl,rfl⟩ ⟨rfl,rfl,tv⟩) ?_
  refine c8 h4l (eg x1 24 x2 x24 ([x18,x23]:List B5)) rfl fun x30 _ h4l=>au 2 rfl rfl (Upd.refl _) rfl sizeOf64 (W_rs (kMv rfl (kUn (ak gz) ?_)))
  refine au 2 rfl rfl qd rfl sizeOf9 (W_r (kMv rfl (kAs rfl ?_)))
  exact⟨m4,lsu,x24,{x30 with Text:=x29.Text},hn4 _ (ojs h4l),⟨⟨aa,aa,aa,aa,aa,aa,aa,aa,tv⟩,A8.of [0,1,2,3] rfl⟩⟩
 refine ep ?_
 obtain rfl:=ho4 _ (ojs h4l)
 exact⟨x17,x18,h,atOk⟩
theorem ak7 (R:av) (ih:ie R) (x1:List C5) (x2 x3:Int) (r:B5 × Int × C6) (h:yw R x1 x2 x3=some r):Fp 197 [ar bw x1,P6 x2,P6 x3] (bu [(ag).val r.1,P6 r.2.1,(ah).val r.2.2]):=by
 refine dt (rs:=[.cell 6 64,.tmp 7,.cell 8 97]) func197 rfl ntmps197 results197 dcd (fun s0=>?_)
 let p1:=B5.mk 0 [] [] 0 0 0 0 0 []
 let p2:=C6.mk 0 0
 unfold yw at h
 refine W_rs (br al64 fun b4=>kAs rfl (br al97 fun b5=>ba (W_rs (kMv rfl (kIn rfl rfl rfl ?_)))))
 let p3:=E0 b4 ag p1
 let p4:=E0 b5 ah p2
 refine bc h rfl (fun _ h=>?_) (fun _ h=>?_)
 ·refine W_rs (kUn (ev a8 st64 rfl) ?_)
  refine kMv rfl (kUn (jh st97 ⟨(C6.mk x2 0),⟨_,rfl,rfl,qbj⟩,⟨(C6.mk x2 2),⟨_,rfl,rfl,qbj⟩,rfl⟩⟩) ?_)
  refine au 0 rfl rfl (Upd.refl _) rfl sizeOf64 (kAs rfl (au 1 rfl rfl (Upd.refl _) rfl sizeOf97 ?_))
  obtain rfl:=osj h
  exact bj ⟨rfl,[(ag).val p1,P6 0,(ah).val (C6.mk x2 2)],⟨yBox 0 ty64 aa,yT aa,yBox 1 ty97 aa,tv⟩,aa⟩
 refine aw (ba ?_)
 refine bm (fun e C=>∃x10,sa R x1 x2 x3 x10=some r/\At [(0,ar bw x1),(1,P6 x2),(2,P6 x3),(6,Pr.pt b4 0),(8,Pr.pt b5 0),(34,Pb x10)] [p3,p4] e C) ?_ ?_
 ·rintro e C ⟨x10,h,a⟩
  refine W_at a ?_
  unfold sa at h
  refine bc h rfl (fun _ h=>?_) (fun _ h=>?_)
  ·refine W_rs (kMvL rfl (kMv rfl (kIn rfl rfl rfl (kMv rfl (kIn rfl rfl rfl ?_)))))
   obtain⟨⟨x12,x13,x14⟩,k,h⟩:=aj h
   refine kUn (dv (ih.2.2.1 x1 (w64 (x2+1)) (w64 (x3+1)) _ k)) ?_
   refine kUn (hMv (out:=bu [(ag).val x12,P6 x13,(ah).val x14]) rfl) (kUn aq ?_)
   refine kUn aq ?_
   refine kUn aq ?_
   refine br al64 fun b15=>?_
   refine br al97 fun b16=>au 2 rfl rfl (Upd.refl _) rfl sizeOf64 (kAs rfl (au 3 rfl rfl (Upd.refl _) rfl sizeOf97 (ba (W_rs (kUn (ak nf) ?_)))))
   refine kUn (ax 3 ty3 cd) ?_
   refine kIn rfl rfl rfl ?_
   refine bc h rfl (fun _ h=>?_) (fun _ h=>?_)
   ·refine bm (fun e C=>aat R x14=some r/\At [(6,Pr.pt b4 0),(7,P6 0),(8,Pr.pt b5 0)] [p3,E0 b5 ah x14,E0 b15 ag x12,E0 b16 ah x14] e C) ?_ ?_
    ·rintro e C ⟨h,a⟩
     refine W_at a ?_
     unfold aat at h
     obtain rfl:=osj h
     exact bj ⟨rfl,[(ag).val p1,P6 0,(ah).val x14],⟨yBox 0 ty64 aa,yT aa,yBox 1 ty97 aa,tv⟩,aa⟩
    refine fo [(2,0,E0 b4 ag p1),(4,1,E0 b5 ah x14)] [p3,E0 b5 ah x14,E0 b15 ag x12,E0 b16 ah x14] hmx kr kr (show([2,4]:List Nat).Nodup by decide) (show([0,1]:List Nat).Nodup by decide) rfl rfl ?_
    refine eq1 (out:=(ag).val p1) (fun C2 hC=>(ev a8 st64 rfl)) ?_
    refine eql 3 ty97 (Sub.refl _) rfl rfl kr ?_
    refine eqs 0 sizeOf64 (Upd.refl _) rfl rfl rfl kr ?_
    refine eq1 (out:=P6 0) (fun C2 hC=>fw) ?_
    refine eqs 1 sizeOf97 (Upd.refl _) rfl rfl rfl kr ?_
    exact⟨h,atOk⟩
   refine aw (W_rs (kAs rfl ?_))
   refine bm (fun e C=>∃x20,vu R x1 x2 x13 x12 x20=some r/\At [(0,ar bw x1),(1,P6 x2),(6,Pr.pt b4 0),(8,Pr.pt b5 0),(9,Pr.pt b15 0),(10,P6 x13),(12,P6 x20)] [p3,p4,E0 b15 ag x12,E0 b16 ah x14] e C) ?_ ?_
   ·rintro e C ⟨x20,h,a⟩
    refine W_at a ?_
    unfold vu at h
    refine W_rs (kMvL rfl (kMv rfl (kMv rfl (kMv rfl (kUn (ax 2 ty64 (Sub.refl _)) ?_)))))
    refine kUn (c5 (R:=ag) (a:=x12) el53 nb) ?_
    refine c8 h (eg x1 x20 x2 x13 ([x12]:List B5)) rfl fun x21 _ h=>kMv rfl (c8 h (da) rfl fun x22 _ h=>au 0 rfl rfl (Upd.refl _) rfl sizeOf64 (kAs rfl (au 1 rfl rfl (Upd.refl _) rfl sizeOf97 ?_)))
    obtain rfl:=osj h
    exact bj ⟨rfl,[(ag).val x21,P6 x13,(ah).val x22],⟨yBox 0 ty64 aa,yT aa,yBox 1 ty97 aa,tv⟩,aa⟩
   refine W_rs (kMvL rfl (kMv rfl ?_))
   obtain⟨x18,k,h⟩:=aj h
   refine kUn (gu underlying41 sizeOf45 k) ?_
   refine kUn (gv zo fr) ?_
   refine kUn (dn ty9) ?_
   refine kSt rfl rfl rfl ?_
   refine bc h rfl (fun _ h=>?_) (fun _ h=>?_)
   ·refine W_r (kAs rfl ?_)
    exact⟨23,h,atOk⟩
   refine aw ?_
   exact⟨22,h,atOk⟩
  refine aw (W_rs (kMvL rfl (kMv rfl (kMv rfl (kIn rfl rfl rfl ?_)))))
  obtain⟨⟨x23,x24,x25⟩,k,h⟩:=aj h
  refine kUn (dv (ih.2.2.2.1 x1 x2 (w64 (x3+1)) _ k)) ?_
  refine kUn (hMv (out:=bu [(ag).val x23,P6 x24,(ah).val x25]) rfl) (kUn aq ?_)
  refine kUn aq ?_
  refine kUn aq ?_
  refine br al64 fun b26=>?_
  refine br al97 fun b27=>au 2 rfl rfl (Upd.refl _) rfl sizeOf64 (kAs rfl (au 3 rfl rfl (Upd.refl _) rfl sizeOf97 (ba (W_rs (kUn (ak nf) ?_)))))
  let p5:=E0 b27 ah x25
  refine kUn (ax 3 ty3 cd) ?_
  refine kIn rfl rfl rfl ?_
  refine bc h rfl (fun _ h=>?_) (fun _ h=>?_)
  ·refine bm (fun e C=>aas R x25=some r/\At [(6,Pr.pt b4 0),(7,P6 0),(8,Pr.pt b5 0)] [p3,E0 b5 ah x25,E0 b26 ag x23,p5] e C) ?_ ?_
   ·rintro e C ⟨h,a⟩
    refine W_at a ?_
    unfold aas at h
    obtain rfl:=osj h
    exact bj ⟨rfl,[(ag).val p1,P6 0,(ah).val x25],⟨yBox 0 ty64 aa,yT aa,yBox 1 ty97 aa,tv⟩,aa⟩
   refine fo [(2,0,E0 b4 ag p1),(4,1,E0 b5 ah x25)] [p3,E0 b5 ah x25,E0 b26 ag x23,p5] hmx kr kr (show([2,4]:List Nat).Nodup by decide) (show([0,1]:List Nat).Nodup by decide) rfl rfl ?_
   refine eq1 (out:=(ag).val p1) (fun C2 hC=>(ev a8 st64 rfl)) ?_
   refine eql 3 ty97 (Sub.refl _) rfl rfl kr ?_
   refine eqs 0 sizeOf64 (Upd.refl _) rfl rfl rfl kr ?_
   refine eq1 (out:=P6 0) (fun C2 hC=>fw) ?_
   refine eqs 1 sizeOf97 (Upd.refl _) rfl rfl rfl kr ?_
   exact⟨h,atOk⟩
  refine aw (ba (ay ?_))
  obtain⟨z6l,hz6,h⟩:=aj h
  obtain⟨n6,hN6⟩:=bt hz6
  refine dl 0 (fun e C=>∃x29,∃x30,aap R x29 x30=some r/\At [(6,Pr.pt b4 0),(8,Pr.pt b5 0),(13,Pr.pt b26 0),(14,P6 x29)] [p3,p4,E0 b26 ag x30,p5] e C) ?_ ?_
  ·rintro e C ⟨x29,x30,h,a⟩
   refine W_at a ?_
   unfold aap at h
   refine bm (fun e C=>∃x55,aar R x30 x29 x55=some r/\At [(6,Pr.pt b4 0),(7,P6 x29),(8,Pr.pt b5 0)] [E0 b4 ag x30,E0 b5 ah x55,E0 b26 ag x30,p5] e C) ?_ ?_
   ·rintro e C ⟨x55,h,a⟩
    refine W_at a ?_
    unfold aar at h
    obtain rfl:=osj h
    exact bj ⟨rfl,[(ag).val x30,P6 x29,(ah).val x55],⟨yBox 0 ty64 aa,yT aa,yBox 1 ty97 aa,tv⟩,aa⟩
   obtain⟨x55,k,h⟩:=aj h
   refine fo [(3,0,E0 b4 ag x30),(5,1,E0 b5 ah x55)] [E0 b4 ag x30,E0 b5 ah x55,E0 b26 ag x30,p5] hmx kr kr (show([3,5]:List Nat).Nodup by decide) (show([0,1]:List Nat).Nodup by decide) rfl rfl ?_
   refine eql 2 ty64 (Sub.refl _) rfl rfl kr ?_
   refine eq1 (out:=P6 x29) (fun C2 hC=>gk) ?_
   refine eq1 (out:=(ah).val x55) (fun C2 hC=>(dv (da _ k))) ?_
   refine eqs 0 sizeOf64 (Upd.refl _) rfl rfl rfl kr ?_
   refine eq1 (out:=P6 x29) (fun C2 hC=>fw) ?_
   refine eqs 1 sizeOf97 (Upd.refl _) rfl rfl rfl kr ?_
   exact⟨x55,h,atOk⟩
  refine fb (fun m e C=>∃x29,∃x30,fp (fun s=>vr R x1 x3 x2 s.1 s.2) m (x29,x30)=some z6l/\At [(0,ar bw x1),(1,P6 x2),(2,P6 x3),(6,Pr.pt b4 0),(8,Pr.pt b5 0),(13,Pr.pt b26 0),(14,P6 x29)] [p3,p4,E0 b26 ag x30,p5] e C) n6 ⟨x24,x23,hN6,⟨⟨aa,aa,aa,aa,aa,aa,aa,tv⟩,A8.refl _⟩⟩ ?_
  rintro m e C ⟨x29,x30,hN6,a⟩
  refine W_at a ?_
  obtain⟨m6,w6l,rfl,h6l,hn6,ho6⟩:=bl hN6
  replace h6l:vr R x1 x3 x2 x29 x30=some w6l:=h6l
  unfold vr at h6l
  refine ba (W_rs (kMvL rfl (kMv rfl (c8 h6l (bp x1 x29 ([46]:Bt)) rfl fun x33 _ h6l=>?_))))
  refine bc h6l rfl (fun _ h6l=>?_) (fun _ h6l=>?_)
  ·refine aw (ay (ba (W_rs (kMvL rfl (kMv rfl (kIn rfl rfl rfl (c8 h6l (ka x1 (w64 (x29+1))) rfl fun x35 _ h6l=>kNo rfl ?_)))))))
   refine bc h6l rfl (fun _ h6l=>?_) (fun _ h6l=>?_)
   ·refine W_rs (kUn (ev a8 st64 rfl) ?_)
    refine kMv rfl (kIn rfl rfl rfl (c8 h6l (cp (w64 (x29+1))) rfl fun x37 _ h6l=>au 0 rfl rfl (Upd.refl _) rfl sizeOf64 (kAs rfl (au 1 rfl rfl (Upd.refl _) rfl sizeOf97 ?_))))
    obtain rfl:=ho6 _ (ojs h6l)
    replace h:some (p1,0,x37)=some r:=h
    obtain rfl:=osj h
    exact bj ⟨rfl,[(ag).val p1,P6 0,(ah).val x37],⟨yBox 0 ty64 aa,yT aa,yBox 1 ty97 aa,tv⟩,aa⟩
   refine aw (W_rs (kMv rfl (kIn rfl rfl rfl (kAs rfl (W_rs (kAs rfl (W_rs (kUn (ax 2 ty64 (Sub.refl _)) ?_))))))))
   refine ars (R:=ag) (ls:=([x30]:List B5)) el53 nb ⟨rfl,rfl⟩ ⟨rfl,tv⟩ (fun v38=>?_)
   refine kAs rfl (W_rs (kMv rfl (kIn rfl rfl rfl (kAs rfl ?_))))
   refine bm (fun e C=>∃x48,∃x49,∃x51,∃v50,vt R x1 x2 x29 x48 x49 x51=some w6l/\At [(0,ar bw x1),(1,P6 x2),(2,P6 x3),(6,Pr.pt b4 0),(8,Pr.pt b5 0),(13,Pr.pt b26 0),(14,P6 x48),(16,P6 (w64 (x29+1))),(17,P6 x49),(18,Pi v50)] [p3,p4,E0 b26 ag x30,p5,E3 v50 ag x51 64] e C) ?_ ?_
   ·rintro e C ⟨x48,x49,x51,v50,h6l,a⟩
    refine W_at a ?_
    unfold vt at h6l
    refine W_rs (kMvL rfl (kMv rfl (kMv rfl (kMv rfl (kMv rfl ?_)))))
    obtain⟨x52,k,h6l⟩:=aj h6l
    refine rRel 4 [18,123] ?_ rfl ⟨rfl,rfl,tv⟩
    refine kUn (dv (eg x1 x49 x2 x48 x51 _ k)) ?_
    refine au 2 rfl rfl (Upd.refl _) rfl sizeOf64 (W_rs (kMvL rfl (kMv rfl ?_)))
    obtain⟨x53,k,h6l⟩:=aj h6l
    refine kUn (gu underlying41 sizeOf45 k) ?_
    refine kUn (gv zo fr) ?_
    refine kUn (dn ty9) ?_
    refine kUn (ak gz) ?_
    refine au 2 rfl rfl qd rfl sizeOf9 (W_r (kMvL rfl (kMv rfl ?_)))
    obtain⟨x54,k,h6l⟩:=aj h6l
    refine kUn (gu underlying41 sizeOf45 k) ?_
    refine kUn (gv aer jz) ?_
    refine kUn (dn ty3) ?_
    refine kUn (ak tf) ?_
    refine au 2 rfl rfl yh rfl sizeOf3 ?_
    exact⟨m6,lsu,x48,{{x52 with Text:=x53.Text} with At:=x54.At},hn6 _ (ojs h6l),atOk⟩
   refine W_rs (kMvL rfl (kMv rfl (c8 h6l (bp x1 (w64 ((w64 (x29+1))+1)) ([40]:Bt)) rfl fun x39 _ h6l=>?_)))
   refine bc h6l rfl (fun _ h6l=>?_) (fun _ h6l=>?_)
   ·refine W_rs (kMvL rfl (kMv rfl (kIn rfl rfl rfl (kMv rfl (kIn rfl rfl rfl ?_)))))
    obtain⟨⟨x41,x42,x43⟩,k,h6l⟩:=aj h6l
    refine kUn (dv (ih.2.2.2.2 x1 (w64 ((w64 ((w64 (x29+1))+1))+1)) (w64 (x3+1)) _ k)) ?_
    refine kUn (hMv (out:=bu [ar ag x41,P6 x42,(ah).val x43]) rfl) (kUn aq ?_)
    refine kUn aq ?_
    refine kUn aq ?_
    refine br al97 fun b44=>kAsL rfl (kAs rfl (au 5 rfl rfl (Upd.refl _) rfl sizeOf97 (ba (W_rs (kUn (ak nf) ?_)))))
    refine kUn (ax 5 ty3 cd) ?_
    refine kIn rfl rfl rfl ?_
    refine bc h6l rfl (fun _ h6l=>?_) (fun _ h6l=>?_)
    ·refine bm (fun e C=>aaq R x43=some w6l/\At [(6,Pr.pt b4 0),(7,P6 0),(8,Pr.pt b5 0)] [p3,E0 b5 ah x43,E0 b26 ag x30,p5,E0 b44 ah x43] e C) ?_ ?_
     ·rintro e C ⟨h6l,a⟩
      refine W_at a ?_
      unfold aaq at h6l
      obtain rfl:=ho6 _ (ojs h6l)
      replace h:some (p1,0,x43)=some r:=h
      obtain rfl:=osj h
      exact bj ⟨rfl,[(ag).val p1,P6 0,(ah).val x43],⟨yBox 0 ty64 aa,yT aa,yBox 1 ty97 aa,tv⟩,aa⟩
     refine fo [(2,0,E0 b4 ag p1),(4,1,E0 b5 ah x43)] [p3,E0 b5 ah x43,E0 b26 ag x30,p5,E3 v38 ag ([x30]:List B5) 64,E0 b44 ah x43] hmx kr kr (show([2,4]:List Nat).Nodup by decide) (show([0,1]:List Nat).Nodup by decide) rfl rfl ?_
     refine eq1 (out:=(ag).val p1) (fun C2 hC=>(ev a8 st64 rfl)) ?_
     refine eql 5 ty97 (Sub.refl _) rfl rfl kr ?_
     refine eqs 0 sizeOf64 (Upd.refl _) rfl rfl rfl kr ?_
     refine eq1 (out:=P6 0) (fun C2 hC=>fw) ?_
     refine eqs 1 sizeOf97 (Upd.refl _) rfl rfl rfl kr ?_
     exact⟨h6l,⟨⟨aa,aa,aa,tv⟩,A8.of [0,1,2,3,5] rfl⟩⟩
    refine aw (W_rs (kAs rfl (W_rs (kMv rfl (kMvL rfl ?_)))))
    obtain⟨x46,k,h6l⟩:=aj h6l
    refine gq 4 el53 k (fun v47=>?_)
    refine kAs rfl (W_r (kMv rfl (kAs rfl ?_)))
    exact⟨x42,20,x46,v47,h6l,⟨⟨aa,aa,aa,aa,aa,aa,aa,aa,aa,aa,tv⟩,A8.of [0,1,2,3,4] rfl⟩⟩
   refine aw ?_
   exact⟨w64 ((w64 (x29+1))+1),18,([x30]:List B5),v38,h6l,atOk⟩
  refine ep ?_
  obtain rfl:=ho6 _ (ojs h6l)
  exact⟨x29,x30,h,atOk⟩
 refine W_r (kMvL rfl (kMv rfl (c8 h (bp x1 x2 ([33]:Bt)) rfl fun x7 _ h=>kMv rfl ?_)))
 rcases cg h with⟨hc8,h⟩|⟨hc8,h⟩
 ·refine skx ?_
  refine kPt rfl hc8 rfl ?_
  exact⟨true,h,atOk⟩
 refine kGd rfl aa hc8 (hMvL rfl) (kGd rfl aa hc8 (hMvA rfl) ?_)
 obtain⟨x9,k,h⟩:=aj h
 refine kGd rfl aa hc8 (dv (bp x1 x2 ([45]:Bt) _ k)) ?_
 refine kPf rfl hc8 rfl ?_
 exact⟨x9,h,atOk⟩
theorem aiy (R:av) (ih:ie R) (x1:List C5) (x2 x3:Int) (r:B5 × Int × C6) (h:uh R x1 x2 x3=some r):Fp 201 [ar bw x1,P6 x2,P6 x3] (bu [(ag).val r.1,P6 r.2.1,(ah).val r.2.2]):=by
 refine dt (rs:=[.cell 6 64,.tmp 7,.cell 8 97]) func201 rfl ntmps201 results201 dcd (fun s0=>?_)
 let p1:=B5.mk 0 [] [] 0 0 0 0 0 []
 let p2:=C6.mk 0 0
 unfold uh at h
 refine W_rs (br al64 fun b4=>kAs rfl (br al97 fun b5=>ba (ay (W_rs (kMvL rfl (kMv rfl ?_))))))
 let p3:=E0 b4 ag p1
 obtain⟨x6,k,h⟩:=aj h
 refine kUn (gu underlying41 sizeOf45 k) ?_
 refine kUn (gv anz rl) ?_
 refine kUn (dn ty3) ?_
 refine kIn rfl rfl rfl (kAs rfl ?_)
 refine bc h rfl (fun _ h=>?_) (fun _ h=>?_)
 ·refine W_rs (kMvL rfl (kMv rfl (kMv rfl (kIn rfl rfl rfl ?_))))
  obtain⟨x8,k,h⟩:=aj h
  refine kUn (acy (eg x1 13 x2 (w64 (x2+1)) [] _ k) ⟨aa,aa,aa,aa,du _,tv⟩) ?_
  refine br al64 fun b9=>au 2 rfl rfl (Upd.refl _) rfl sizeOf64 (ba (W_rs (kAs rfl (ay ?_))))
  obtain⟨z3l,hz3,h⟩:=aj h
  obtain⟨n3,hN3⟩:=bt hz3
  refine dl 1 (fun e C=>∃x11,wo R x2 x11=some r/\At [(1,P6 x2),(6,Pr.pt b4 0),(8,Pr.pt b5 0),(9,Pr.pt b9 0)] [p3,E0 b5 ah p2,E0 b9 ag x11] e C) ?_ ?_
  ·rintro e C ⟨x11,h,a⟩
   refine W_at a ?_
   unfold wo at h
   refine bm (fun e C=>∃x18,wx R x11 x2 x18=some r/\At [(6,Pr.pt b4 0),(7,P6 (w64 (x2+1))),(8,Pr.pt b5 0)] [E0 b4 ag x11,E0 b5 ah x18,E0 b9 ag x11] e C) ?_ ?_
   ·rintro e C ⟨x18,h,a⟩
    refine W_at a ?_
    unfold wx at h
    obtain rfl:=osj h
    exact bj ⟨rfl,[(ag).val x11,P6 (w64 (x2+1)),(ah).val x18],⟨yBox 0 ty64 aa,yT aa,yBox 1 ty97 aa,tv⟩,aa⟩
   obtain⟨x18,k,h⟩:=aj h
   refine fo [(4,0,E0 b4 ag x11),(6,1,E0 b5 ah x18)] [E0 b4 ag x11,E0 b5 ah x18,E0 b9 ag x11] hmx kr kr (show([4,6]:List Nat).Nodup by decide) (show([0,1]:List Nat).Nodup by decide) rfl rfl ?_
   refine eql 2 ty64 (Sub.refl _) rfl rfl kr ?_
   refine eq1 (out:=P6 x2) (fun C2 hC=>gk) ?_
   refine eq1 (out:=P6 (w64 (x2+1))) (fun C2 hC=>qInt) ?_
   refine eq1 (out:=(ah).val x18) (fun C2 hC=>(dv (da _ k))) ?_
   refine eqs 0 sizeOf64 (Upd.refl _) rfl rfl rfl kr ?_
   refine eq1 (out:=P6 (w64 (x2+1))) (fun C2 hC=>fw) ?_
   refine eqs 1 sizeOf97 (Upd.refl _) rfl rfl rfl kr ?_
   exact⟨x18,h,atOk⟩
  refine fb (fun m e C=>∃x10,∃x11,fp (fun s=>rm R x1 x2 s.1 s.2) m (x10,x11)=some z3l/\At [(0,ar bw x1),(1,P6 x2),(6,Pr.pt b4 0),(8,Pr.pt b5 0),(9,Pr.pt b9 0),(10,P6 x10)] [p3,E0 b5 ah p2,E0 b9 ag x11] e C) n3 ⟨0,x8,hN3,⟨⟨aa,aa,aa,aa,aa,aa,tv⟩,A8.refl _⟩⟩ ?_
  rintro m e C ⟨x10,x11,hN3,a⟩
  refine W_at a ?_
  obtain⟨m3,w3l,rfl,h3l,hn3,ho3⟩:=bl hN3
  replace h3l:rm R x1 x2 x10 x11=some w3l:=h3l
  unfold rm at h3l
  refine ba (W_rs (kMv rfl (kMvL rfl (kMv rfl ?_))))
  obtain⟨x14,k,h3l⟩:=aj h3l
  refine kUn (gu underlying41 sizeOf45 k) ?_
  refine kUn (gv zo fr) ?_
  refine kUn (dn ty9) ?_
  refine kUn (ain rfl underlying9) ?_
  refine kIn rfl rfl rfl ?_
  refine bc h3l rfl (fun _ h3l=>?_) (fun _ h3l=>?_)
  ·refine aw (ba (ay ?_))
   refine mh 14 hmx kr kr ?_
   refine lUn (ak ajg) ?_
   refine lUn (ax 2 ty2 ady) ?_
   refine lUn (qInt rfl rfl rfl) (lUn (hMvL rfl) (lUn (hMvA rfl) ?_))
   obtain⟨x16,k,h3l⟩:=aj h3l
   refine lUn (gu underlying41 sizeOf45 k) ?_
   refine lUn (gv zo fr) ?_
   refine lUn (dn ty9) ?_
   refine lUn (hMvA rfl) ?_
   obtain⟨x17,k,h3l⟩:=aj h3l
   refine lUn (ag2 underlying9 k) ?_
   refine lUn (qInt rfl rfl rfl) (lUn (ank underlying5 underlying2) ?_)
   refine lUn (qInt rfl rfl rfl) (lUn (ak ajg) ?_)
   refine au 2 rfl rfl ahk rfl sizeOf2 (W_r (kMv rfl (kIn rfl rfl rfl (kAs rfl ?_))))
   exact⟨m3,lsu,w64 (x10+1),{x11 with N:=w64 ((w64 (10 * x11.N))+(w64 (IntKind.wrap .u8 (x17 - 48))))},hn3 _ (ojs h3l),atOk⟩
  refine ep ?_
  obtain rfl:=ho3 _ (ojs h3l)
  exact⟨x11,h,atOk⟩
 refine W_rs (kMvL rfl (kMv rfl (c8 h (bp x1 x2 ([116,114,117,101]:Bt)) rfl fun x19 _ h=>kAs rfl ?_)))
 refine bc h rfl (fun _ h=>?_) (fun _ h=>?_)
 ·refine W_rs (kMvL rfl (kMv rfl (kMv rfl (kIn rfl rfl rfl ?_))))
  obtain⟨x21,k,h⟩:=aj h
  let p4:={x21 with N:=1}
  refine kUn (acy (eg x1 14 x2 (w64 (x2+1)) [] _ k) ⟨aa,aa,aa,aa,du _,tv⟩) ?_
  refine br al64 fun b22=>au 2 rfl rfl (Upd.refl _) rfl sizeOf64 (W_rs (kUn (ak ajg) ?_))
  refine au 2 rfl rfl ahk rfl sizeOf2 ?_
  refine bm (fun e C=>∃x23,ww R x21 x2 x23=some r/\At [(6,Pr.pt b4 0),(7,P6 (w64 (x2+1))),(8,Pr.pt b5 0)] [E0 b4 ag p4,E0 b5 ah x23,E0 b22 ag p4] e C) ?_ ?_
  ·rintro e C ⟨x23,h,a⟩
   refine W_at a ?_
   unfold ww at h
   obtain rfl:=osj h
   exact bj ⟨rfl,[(ag).val p4,P6 (w64 (x2+1)),(ah).val x23],⟨yBox 0 ty64 aa,yT aa,yBox 1 ty97 aa,tv⟩,aa⟩
  obtain⟨x23,k,h⟩:=aj h
  refine fo [(4,0,E0 b4 ag p4),(6,1,E0 b5 ah x23)] [E0 b4 ag p4,E0 b5 ah x23,E0 b22 ag p4] hmx kr kr (show([4,6]:List Nat).Nodup by decide) (show([0,1]:List Nat).Nodup by decide) rfl rfl ?_
  refine eql 2 ty64 (Sub.refl _) rfl rfl kr ?_
  refine eq1 (out:=P6 x2) (fun C2 hC=>gk) ?_
  refine eq1 (out:=P6 (w64 (x2+1))) (fun C2 hC=>qInt) ?_
  refine eq1 (out:=(ah).val x23) (fun C2 hC=>(dv (da _ k))) ?_
  refine eqs 0 sizeOf64 (Upd.refl _) rfl rfl rfl kr ?_
  refine eq1 (out:=P6 (w64 (x2+1))) (fun C2 hC=>fw) ?_
  refine eqs 1 sizeOf97 (Upd.refl _) rfl rfl rfl kr ?_
  exact⟨x23,h,atOk⟩
 refine W_rs (kMvL rfl (kMv rfl (c8 h (bp x1 x2 ([102,97,108,115,101]:Bt)) rfl fun x24 _ h=>kAs rfl ?_)))
 refine bc h rfl (fun _ h=>?_) (fun _ h=>?_)
 ·refine W_rs (kMvL rfl (kMv rfl (kMv rfl (kIn rfl rfl rfl ?_))))
  obtain⟨x26,k,h⟩:=aj h
  refine kUn (acy (eg x1 14 x2 (w64 (x2+1)) [] _ k) ⟨aa,aa,aa,aa,du _,tv⟩) ?_
  refine kMv rfl (kIn rfl rfl rfl (c8 h (da) rfl fun x27 _ h=>au 0 rfl rfl (Upd.refl _) rfl sizeOf64 (kAs rfl (au 1 rfl rfl (Upd.refl _) rfl sizeOf97 ?_))))
  obtain rfl:=osj h
  exact bj ⟨rfl,[(ag).val x26,P6 (w64 (x2+1)),(ah).val x27],⟨yBox 0 ty64 aa,yT aa,yBox 1 ty97 aa,tv⟩,aa⟩
 refine W_rs (kMvL rfl (kMv rfl (c8 h (bp x1 x2 ([110,117,108,108]:Bt)) rfl fun x28 _ h=>kAs rfl ?_)))
 refine bc h rfl (fun _ h=>?_) (fun _ h=>?_)
 ·refine W_rs (kMvL rfl (kMv rfl (kMv rfl (kIn rfl rfl rfl ?_))))
  obtain⟨x30,k,h⟩:=aj h
  refine kUn (acy (eg x1 15 x2 (w64 (x2+1)) [] _ k) ⟨aa,aa,aa,aa,du _,tv⟩) ?_
  refine kMv rfl (kIn rfl rfl rfl (c8 h (da) rfl fun x31 _ h=>au 0 rfl rfl (Upd.refl _) rfl sizeOf64 (kAs rfl (au 1 rfl rfl (Upd.refl _) rfl sizeOf97 ?_))))
  obtain rfl:=osj h
  exact bj ⟨rfl,[(ag).val x30,P6 (w64 (x2+1)),(ah).val x31],⟨yBox 0 ty64 aa,yT aa,yBox 1 ty97 aa,tv⟩,aa⟩
 refine W_rs (kMvL rfl (kMv rfl (c8 h (bp x1 x2 ([116,104,105,115]:Bt)) rfl fun x32 _ h=>kAs rfl ?_)))
 refine bc h rfl (fun _ h=>?_) (fun _ h=>?_)
 ·refine W_rs (kMvL rfl (kMv rfl (kMv rfl (kIn rfl rfl rfl ?_))))
  obtain⟨x34,k,h⟩:=aj h
  refine kUn (acy (eg x1 16 x2 (w64 (x2+1)) [] _ k) ⟨aa,aa,aa,aa,du _,tv⟩) ?_
  refine kMv rfl (kIn rfl rfl rfl (c8 h (da) rfl fun x35 _ h=>au 0 rfl rfl (Upd.refl _) rfl sizeOf64 (kAs rfl (au 1 rfl rfl (Upd.refl _) rfl sizeOf97 ?_))))
  obtain rfl:=osj h
  exact bj ⟨rfl,[(ag).val x34,P6 (w64 (x2+1)),(ah).val x35],⟨yBox 0 ty64 aa,yT aa,yBox 1 ty97 aa,tv⟩,aa⟩
 refine W_rs (kMvL rfl (kMv rfl (c8 h (bp x1 x2 ([110,101,119]:Bt)) rfl fun x36 _ h=>kAs rfl ?_)))
 refine bc h rfl (fun _ h=>?_) (fun _ h=>?_)
 ·refine ba (W_rs (kMvL rfl (kMv rfl (kIn rfl rfl rfl (c8 h (ka x1 (w64 (x2+1))) rfl fun x38 _ h=>kNo rfl ?_)))))
  refine bc h rfl (fun _ h=>?_) (fun _ h=>?_)
  ·refine W_rs (kUn (ev a8 st64 rfl) ?_)
   refine kMv rfl (kIn rfl rfl rfl (c8 h (cp (w64 (x2+1))) rfl fun x40 _ h=>au 0 rfl rfl (Upd.refl _) rfl sizeOf64 (kAs rfl (au 1 rfl rfl (Upd.refl _) rfl sizeOf97 ?_))))
   obtain rfl:=osj h
   exact bj ⟨rfl,[(ag).val p1,P6 0,(ah).val x40],⟨yBox 0 ty64 aa,yT aa,yBox 1 ty97 aa,tv⟩,aa⟩
  refine aw (ba (W_rs (kMvL rfl (kMv rfl (kIn rfl rfl rfl (c8 h (bp x1 (w64 (x2+2)) ([40]:Bt)) rfl fun x41 _ h=>kNo rfl ?_))))))
  refine bc h rfl (fun _ h=>?_) (fun _ h=>?_)
  ·refine W_rs (kUn (ev a8 st64 rfl) ?_)
   refine kMv rfl (kIn rfl rfl rfl (c8 h (cp (w64 (x2+2))) rfl fun x43 _ h=>au 0 rfl rfl (Upd.refl _) rfl sizeOf64 (kAs rfl (au 1 rfl rfl (Upd.refl _) rfl sizeOf97 ?_))))
   obtain rfl:=osj h
   exact bj ⟨rfl,[(ag).val p1,P6 0,(ah).val x43],⟨yBox 0 ty64 aa,yT aa,yBox 1 ty97 aa,tv⟩,aa⟩
  refine aw (ba (W_rs (kMvL rfl (kMv rfl (kIn rfl rfl rfl (c8 h (bp x1 (w64 (x2+3)) ([41]:Bt)) rfl fun x44 _ h=>kNo rfl ?_))))))
  refine bc h rfl (fun _ h=>?_) (fun _ h=>?_)
  ·refine W_rs (kUn (ev a8 st64 rfl) ?_)
   refine kMv rfl (kIn rfl rfl rfl (c8 h (cp (w64 (x2+3))) rfl fun x46 _ h=>au 0 rfl rfl (Upd.refl _) rfl sizeOf64 (kAs rfl (au 1 rfl rfl (Upd.refl _) rfl sizeOf97 ?_))))
   obtain rfl:=osj h
   exact bj ⟨rfl,[(ag).val p1,P6 0,(ah).val x46],⟨yBox 0 ty64 aa,yT aa,yBox 1 ty97 aa,tv⟩,aa⟩
  refine aw (W_rs (kMvL rfl (kMv rfl (kMv rfl (kIn rfl rfl rfl ?_)))))
  obtain⟨x47,k,h⟩:=aj h
  refine kUn (acy (eg x1 21 x2 (w64 (x2+4)) [] _ k) ⟨aa,aa,aa,aa,du _,tv⟩) ?_
  refine br al64 fun b48=>au 2 rfl rfl (Upd.refl _) rfl sizeOf64 (W_rs (kMvL rfl (kMv rfl (kIn rfl rfl rfl ?_))))
  obtain⟨x49,k,h⟩:=aj h
  refine kUn (gu underlying41 sizeOf45 k) ?_
  refine kUn (gv zo fr) ?_
  refine kUn (dn ty9) ?_
  refine kUn (ak gz) ?_
  refine au 2 rfl rfl qd rfl sizeOf9 (W_rs (kMvL rfl (kMv rfl (kIn rfl rfl rfl ?_))))
  obtain⟨x50,k,h⟩:=aj h
  let p5:={{x47 with Text:=x49.Text} with At:=x50.At}
  refine kUn (gu underlying41 sizeOf45 k) ?_
  refine kUn (gv aer jz) ?_
  refine kUn (dn ty3) ?_
  refine kUn (ak tf) ?_
  refine au 2 rfl rfl yh rfl sizeOf3 ?_
  refine bm (fun e C=>∃x51,wv R x47 x49 x50 x2 x51=some r/\At [(6,Pr.pt b4 0),(7,P6 (w64 (x2+4))),(8,Pr.pt b5 0)] [E0 b4 ag p5,E0 b5 ah x51,E0 b48 ag p5] e C) ?_ ?_
  ·rintro e C ⟨x51,h,a⟩
   refine W_at a ?_
   unfold wv at h
   obtain rfl:=osj h
   exact bj ⟨rfl,[(ag).val p5,P6 (w64 (x2+4)),(ah).val x51],⟨yBox 0 ty64 aa,yT aa,yBox 1 ty97 aa,tv⟩,aa⟩
  obtain⟨x51,k,h⟩:=aj h
  refine fo [(4,0,E0 b4 ag p5),(6,1,E0 b5 ah x51)] [E0 b4 ag p5,E0 b5 ah x51,E0 b48 ag p5] hmx kr kr (show([4,6]:List Nat).Nodup by decide) (show([0,1]:List Nat).Nodup by decide) rfl rfl ?_
  refine eql 2 ty64 (Sub.refl _) rfl rfl kr ?_
  refine eq1 (out:=P6 x2) (fun C2 hC=>gk) ?_
  refine eq1 (out:=P6 (w64 (x2+4))) (fun C2 hC=>qInt) ?_
  refine eq1 (out:=(ah).val x51) (fun C2 hC=>(dv (da _ k))) ?_
  refine eqs 0 sizeOf64 (Upd.refl _) rfl rfl rfl kr ?_
  refine eq1 (out:=P6 (w64 (x2+4))) (fun C2 hC=>fw) ?_
  refine eqs 1 sizeOf97 (Upd.refl _) rfl rfl rfl kr ?_
  exact⟨x51,h,atOk⟩
 refine W_rs (kMvL rfl (kMv rfl (c8 h (bp x1 x2 ([40]:Bt)) rfl fun x52 _ h=>kAs rfl ?_)))
 refine bc h rfl (fun _ h=>?_) (fun _ h=>?_)
 ·refine W_rs (kMvL rfl (kMv rfl (kIn rfl rfl rfl (kMv rfl ?_))))
  obtain⟨⟨x54,x55,x56⟩,k,h⟩:=aj h
  refine kUn (dv (ih.1 x1 (w64 (x2+1)) x3 _ k)) ?_
  refine kUn (hMv (out:=bu [(ag).val x54,P6 x55,(ah).val x56]) rfl) (kUn aq ?_)
  refine kUn aq ?_
  refine kUn aq ?_
  refine br al64 fun b57=>?_
  let p6:=E0 b57 ag x54
  refine br al97 fun b58=>au 2 rfl rfl (Upd.refl _) rfl sizeOf64 (kAs rfl (au 3 rfl rfl (Upd.refl _) rfl sizeOf97 (ba (W_rs (kUn (ak nf) ?_)))))
  let p7:=E0 b58 ah x56
  refine kUn (ax 3 ty3 cd) ?_
  refine kIn rfl rfl rfl ?_
  refine bc h rfl (fun _ h=>?_) (fun _ h=>?_)
  ·refine bm (fun e C=>wu R x56=some r/\At [(6,Pr.pt b4 0),(7,P6 0),(8,Pr.pt b5 0)] [p3,E0 b5 ah x56,p6,p7] e C) ?_ ?_
   ·rintro e C ⟨h,a⟩
    refine W_at a ?_
    unfold wu at h
    obtain rfl:=osj h
    exact bj ⟨rfl,[(ag).val p1,P6 0,(ah).val x56],⟨yBox 0 ty64 aa,yT aa,yBox 1 ty97 aa,tv⟩,aa⟩
   refine fo [(2,0,E0 b4 ag p1),(4,1,E0 b5 ah x56)] [p3,E0 b5 ah x56,p6,p7] hmx kr kr (show([2,4]:List Nat).Nodup by decide) (show([0,1]:List Nat).Nodup by decide) rfl rfl ?_
   refine eq1 (out:=(ag).val p1) (fun C2 hC=>(ev a8 st64 rfl)) ?_
   refine eql 3 ty97 (Sub.refl _) rfl rfl kr ?_
   refine eqs 0 sizeOf64 (Upd.refl _) rfl rfl rfl kr ?_
   refine eq1 (out:=P6 0) (fun C2 hC=>fw) ?_
   refine eqs 1 sizeOf97 (Upd.refl _) rfl rfl rfl kr ?_
   exact⟨h,atOk⟩
  refine aw (ba (W_rs (kMvL rfl (kMv rfl (c8 h (bp x1 x55 ([41]:Bt)) rfl fun x60 _ h=>kNo rfl ?_)))))
  refine bc h rfl (fun _ h=>?_) (fun _ h=>?_)
  ·refine W_rs (kUn (ev a8 st64 rfl) ?_)
   refine kMv rfl (c8 h (cp x55) rfl fun x62 _ h=>au 0 rfl rfl (Upd.refl _) rfl sizeOf64 (kAs rfl (au 1 rfl rfl (Upd.refl _) rfl sizeOf97 ?_)))
   obtain rfl:=osj h
   exact bj ⟨rfl,[(ag).val p1,P6 0,(ah).val x62],⟨yBox 0 ty64 aa,yT aa,yBox 1 ty97 aa,tv⟩,aa⟩
  refine aw ?_
  refine bm (fun e C=>∃x63,wt R x54 x55 x63=some r/\At [(6,Pr.pt b4 0),(7,P6 (w64 (x55+1))),(8,Pr.pt b5 0)] [E0 b4 ag x54,E0 b5 ah x63,p6,p7] e C) ?_ ?_
  ·rintro e C ⟨x63,h,a⟩
   refine W_at a ?_
   unfold wt at h
   obtain rfl:=osj h
   exact bj ⟨rfl,[(ag).val x54,P6 (w64 (x55+1)),(ah).val x63],⟨yBox 0 ty64 aa,yT aa,yBox 1 ty97 aa,tv⟩,aa⟩
  obtain⟨x63,k,h⟩:=aj h
  refine fo [(4,0,E0 b4 ag x54),(6,1,E0 b5 ah x63)] [E0 b4 ag x54,E0 b5 ah x63,p6,p7] hmx kr kr (show([4,6]:List Nat).Nodup by decide) (show([0,1]:List Nat).Nodup by decide) rfl rfl ?_
  refine eql 2 ty64 (Sub.refl _) rfl rfl kr ?_
  refine eq1 (out:=P6 x55) (fun C2 hC=>gk) ?_
  refine eq1 (out:=P6 (w64 (x55+1))) (fun C2 hC=>qInt) ?_
  refine eq1 (out:=(ah).val x63) (fun C2 hC=>(dv (da _ k))) ?_
  refine eqs 0 sizeOf64 (Upd.refl _) rfl rfl rfl kr ?_
  refine eq1 (out:=P6 (w64 (x55+1))) (fun C2 hC=>fw) ?_
  refine eqs 1 sizeOf97 (Upd.refl _) rfl rfl rfl kr ?_
  exact⟨x63,h,atOk⟩
 refine W_rs (kMvL rfl (kMv rfl (c8 h (ka x1 x2) rfl fun x64 _ h=>kAs rfl ?_)))
 refine bc h rfl (fun _ h=>?_) (fun _ h=>?_)
 ·refine W_rs (kMvL rfl (kMv rfl (kMv rfl (kIn rfl rfl rfl ?_))))
  obtain⟨x66,k,h⟩:=aj h
  refine kUn (acy (eg x1 17 x2 (w64 (x2+1)) [] _ k) ⟨aa,aa,aa,aa,du _,tv⟩) ?_
  refine br al64 fun b67=>au 2 rfl rfl (Upd.refl _) rfl sizeOf64 (W_rs (kMvL rfl (kMv rfl ?_)))
  obtain⟨x68,k,h⟩:=aj h
  refine kUn (gu underlying41 sizeOf45 k) ?_
  refine kUn (gv zo fr) ?_
  refine kUn (dn ty9) ?_
  refine kUn (ak gz) ?_
  refine au 2 rfl rfl qd rfl sizeOf9 (W_rs (kMvL rfl (kMv rfl ?_)))
  obtain⟨x69,k,h⟩:=aj h
  let p8:={{x66 with Text:=x68.Text} with At:=x69.At}
  refine kUn (gu underlying41 sizeOf45 k) ?_
  refine kUn (gv aer jz) ?_
  refine kUn (dn ty3) ?_
  refine kUn (ak tf) ?_
  refine au 2 rfl rfl yh rfl sizeOf3 (ba (W_rs (kMvL rfl (kMv rfl (kIn rfl rfl rfl (c8 h (bp x1 (w64 (x2+1)) ([40]:Bt)) rfl fun x70 _ h=>kNo rfl ?_))))))
  refine bc h rfl (fun _ h=>?_) (fun _ h=>?_)
  ·refine bm (fun e C=>∃x72,ws R x66 x68 x69 x2 x72=some r/\At [(6,Pr.pt b4 0),(7,P6 (w64 (x2+1))),(8,Pr.pt b5 0)] [E0 b4 ag p8,E0 b5 ah x72,E0 b67 ag p8] e C) ?_ ?_
   ·rintro e C ⟨x72,h,a⟩
    refine W_at a ?_
    unfold ws at h
    obtain rfl:=osj h
    exact bj ⟨rfl,[(ag).val p8,P6 (w64 (x2+1)),(ah).val x72],⟨yBox 0 ty64 aa,yT aa,yBox 1 ty97 aa,tv⟩,aa⟩
   obtain⟨x72,k,h⟩:=aj h
   refine fo [(4,0,E0 b4 ag p8),(6,1,E0 b5 ah x72)] [E0 b4 ag p8,E0 b5 ah x72,E0 b67 ag p8] hmx kr kr (show([4,6]:List Nat).Nodup by decide) (show([0,1]:List Nat).Nodup by decide) rfl rfl ?_
   refine eql 2 ty64 (Sub.refl _) rfl rfl kr ?_
   refine eq1 (out:=P6 x2) (fun C2 hC=>gk) ?_
   refine eq1 (out:=P6 (w64 (x2+1))) (fun C2 hC=>qInt) ?_
   refine eq1 (out:=(ah).val x72) (fun C2 hC=>(dv (da _ k))) ?_
   refine eqs 0 sizeOf64 (Upd.refl _) rfl rfl rfl kr ?_
   refine eq1 (out:=P6 (w64 (x2+1))) (fun C2 hC=>fw) ?_
   refine eqs 1 sizeOf97 (Upd.refl _) rfl rfl rfl kr ?_
   exact⟨x72,h,atOk⟩
  refine aw (W_rs (kMvL rfl (kMv rfl (kIn rfl rfl rfl (kMv rfl ?_)))))
  obtain⟨⟨x73,x74,x75⟩,k,h⟩:=aj h
  refine kUn (dv (ih.2.2.2.2 x1 (w64 (x2+2)) x3 _ k)) ?_
  refine kUn (hMv (out:=bu [ar ag x73,P6 x74,(ah).val x75]) rfl) (kUn aq ?_)
  refine kUn aq ?_
  refine kUn aq ?_
  refine br al97 fun b76=>kAsL rfl (kAs rfl (au 3 rfl rfl (Upd.refl _) rfl sizeOf97 (ba (W_rs (kUn (ak nf) ?_)))))
  let p9:=E0 b76 ah x75
  refine kUn (ax 3 ty3 cd) ?_
  refine kIn rfl rfl rfl ?_
  refine bc h rfl (fun _ h=>?_) (fun _ h=>?_)
  ·refine bm (fun e C=>wr R x75=some r/\At [(6,Pr.pt b4 0),(7,P6 0),(8,Pr.pt b5 0)] [p3,E0 b5 ah x75,E0 b67 ag p8,p9] e C) ?_ ?_
   ·rintro e C ⟨h,a⟩
    refine W_at a ?_
    unfold wr at h
    obtain rfl:=osj h
    exact bj ⟨rfl,[(ag).val p1,P6 0,(ah).val x75],⟨yBox 0 ty64 aa,yT aa,yBox 1 ty97 aa,tv⟩,aa⟩
   refine fo [(2,0,E0 b4 ag p1),(4,1,E0 b5 ah x75)] [p3,E0 b5 ah x75,E0 b67 ag p8,p9] hmx kr kr (show([2,4]:List Nat).Nodup by decide) (show([0,1]:List Nat).Nodup by decide) rfl rfl ?_
   refine eq1 (out:=(ag).val p1) (fun C2 hC=>(ev a8 st64 rfl)) ?_
   refine eql 3 ty97 (Sub.refl _) rfl rfl kr ?_
   refine eqs 0 sizeOf64 (Upd.refl _) rfl rfl rfl kr ?_
   refine eq1 (out:=P6 0) (fun C2 hC=>fw) ?_
   refine eqs 1 sizeOf97 (Upd.refl _) rfl rfl rfl kr ?_
   exact⟨h,atOk⟩
  refine aw (W_rs (kUn (ak ig) ?_))
  refine au 2 rfl rfl aoz rfl sizeOf3 (W_rs (kMvL rfl (kUn (ak q9) ?_)))
  refine au 2 rfl rfl ao0 rfl sizeOf53 (W_rs (kMvL rfl (kMv rfl (c8 h (ami x1 x74) rfl fun x78 _ h=>?_))))
  let p10:={{{{{x66 with Text:=x68.Text} with At:=x69.At} with Kind:=19} with Kids:=x73} with To:=x78}
  refine kUn (ak fld64_5) ?_
  refine au 2 rfl rfl asq rfl sizeOf3 ?_
  refine bm (fun e C=>∃x79,u6 R x66 x68 x69 x73 x78 x74 x79=some r/\At [(6,Pr.pt b4 0),(7,P6 x74),(8,Pr.pt b5 0)] [E0 b4 ag p10,E0 b5 ah x79,E0 b67 ag p10,p9] e C) ?_ ?_
  ·rintro e C ⟨x79,h,a⟩
   refine W_at a ?_
   unfold u6 at h
   obtain rfl:=osj h
   exact bj ⟨rfl,[(ag).val p10,P6 x74,(ah).val x79],⟨yBox 0 ty64 aa,yT aa,yBox 1 ty97 aa,tv⟩,aa⟩
  obtain⟨x79,k,h⟩:=aj h
  refine fo [(3,0,E0 b4 ag p10),(5,1,E0 b5 ah x79)] [E0 b4 ag p10,E0 b5 ah x79,E0 b67 ag p10,p9] hmx kr kr (show([3,5]:List Nat).Nodup by decide) (show([0,1]:List Nat).Nodup by decide) rfl rfl ?_
  refine eql 2 ty64 (Sub.refl _) rfl rfl kr ?_
  refine eq1 (out:=P6 x74) (fun C2 hC=>gk) ?_
  refine eq1 (out:=(ah).val x79) (fun C2 hC=>(dv (da _ k))) ?_
  refine eqs 0 sizeOf64 (Upd.refl _) rfl rfl rfl kr ?_
  refine eq1 (out:=P6 x74) (fun C2 hC=>fw) ?_
  refine eqs 1 sizeOf97 (Upd.refl _) rfl rfl rfl kr ?_
  exact⟨x79,h,atOk⟩
 refine aw (W_rs (kUn (ev a8 st64 rfl) ?_))
 refine kMv rfl (c8 h (cp x2) rfl fun x80 _ h=>au 0 rfl rfl (Upd.refl _) rfl sizeOf64 (kAs rfl (au 1 rfl rfl (Upd.refl _) rfl sizeOf97 ?_)))
 obtain rfl:=osj h
 exact bj ⟨rfl,[(ag).val p1,P6 0,(ah).val x80],⟨yBox 0 ty64 aa,yT aa,yBox 1 ty97 aa,tv⟩,aa⟩
theorem agz (R:av) (ih:ie R) (x1:List C5) (x2 x3:Int) (r:(List B5) × Int × C6) (h:qu R x1 x2 x3=some r):Fp 202 [ar bw x1,P6 x2,P6 x3] (bu [ar ag r.1,P6 r.2.1,(ah).val r.2.2]):=by
 refine dt (rs:=[.tmp 6,.tmp 7,.cell 8 97]) func202 rfl ntmps202 results202 dcd (fun s0=>?_)
 unfold qu at h
 refine W_rs (kAs rfl (kAs rfl (br al97 fun b4=>W_rs (kAs rfl (ba (W_rs (kMvL rfl (kMv rfl (c8 h (bp x1 x2 ([41]:Bt)) rfl fun x5 _ h=>?_)))))))))
 refine bc h rfl (fun _ h=>?_) (fun _ h=>?_)
 ·refine W_rs (kMv rfl (kMv rfl (kIn rfl rfl rfl (c8 h (da) rfl fun x7 _ h=>kAs rfl (kAs rfl (au 0 rfl rfl (Upd.refl _) rfl sizeOf97 ?_))))))
  obtain rfl:=osj h
  exact bj ⟨rfl,[ar ag [],P6 (w64 (x2+1)),(ah).val x7],⟨yT (du _),yT aa,yBox 0 ty97 aa,tv⟩,aa⟩
 refine aw (ay ?_)
 obtain⟨n1,hN1⟩:=bt h
 refine agx [9] ag 64 (fun v28=>?_) ⟨rfl,tv⟩
 refine fb (fun m e C=>∃x8,∃x10,∃v9,fp (fun s=>oo R x1 x3 s.1 s.2) m (x8,x10)=some r/\At [(0,ar bw x1),(1,P6 x8),(2,P6 x3),(8,Pr.pt b4 0),(9,Pi v9)] [E0 b4 ah (C6.mk 0 0),E3 v9 ag x10 64] e C) n1 ⟨x2,[],v28,hN1,⟨⟨aa,aa,aa,aa,aa,tv⟩,A8.refl _⟩⟩ ?_
 rintro m e C ⟨x8,x10,v9,hN1,a⟩
 refine W_at a ?_
 obtain⟨m1,w1l,rfl,h1l,hn1,ho1⟩:=bl hN1
 replace h1l:oo R x1 x3 x8 x10=some w1l:=h1l
 unfold oo at h1l
 refine ay (W_rs (kMvL rfl (kMv rfl (kMv rfl ?_))))
 obtain⟨⟨x14,x15,x16⟩,k,h1l⟩:=aj h1l
 refine kUn (dv (ih.1 x1 x8 x3 _ k)) ?_
 refine kUn (hMv (out:=bu [(ag).val x14,P6 x15,(ah).val x16]) rfl) (kUn aq ?_)
 refine kUn aq ?_
 refine kUn aq ?_
 refine br al64 fun b17=>?_
 refine br al97 fun b18=>au 2 rfl rfl (Upd.refl _) rfl sizeOf64 (kAs rfl (au 3 rfl rfl (Upd.refl _) rfl sizeOf97 (ba (W_rs (kUn (ak nf) ?_)))))
 refine kUn (ax 3 ty3 cd) ?_
 refine kIn rfl rfl rfl ?_
 refine bc h1l rfl (fun _ h1l=>?_) (fun _ h1l=>?_)
 ·refine bm (fun e C=>sx R x16=some w1l/\At [(6,Pi (.slice none 0 0)),(7,P6 0),(8,Pr.pt b4 0)] [E0 b4 ah x16,E0 b17 ag x14,E0 b18 ah x16] e C) ?_ ?_
  ·rintro e C ⟨h1l,a⟩
   refine W_at a ?_
   unfold sx at h1l
   have h:some ([],0,x16)=some r:=congrArg some (ho1 _ (ojs h1l))
   obtain rfl:=osj h
   exact bj ⟨rfl,[ar ag [],P6 0,(ah).val x16],⟨yT (du _),yT aa,yBox 0 ty97 aa,tv⟩,aa⟩
  refine mh 3 hmx kr kr ?_
  refine lUn (ax 3 ty97 (Sub.refl _)) ?_
  refine lUn (hAsA rfl) (lUn (hAsA rfl) (au 0 rfl rfl (Upd.refl _) rfl sizeOf97 ?_))
  exact⟨h1l,⟨⟨aa,aa,aa,tv⟩,A8.of [0,2,3] rfl⟩⟩
 refine aw (W_rs (kMv rfl (kUn (ax 2 ty64 (Sub.refl _)) ?_)))
 refine kUn (c5 (R:=ag) (a:=x14) el53 nb) ?_
 obtain⟨x20,k,h1l⟩:=aj h1l
 refine gq 1 el53 k (fun v21=>?_)
 refine kAs rfl (ba (W_rs (kMvL rfl (kMv rfl (c8 h1l (bp x1 x15 ([41]:Bt)) rfl fun x22 _ h1l=>?_)))))
 refine bc h1l rfl (fun _ h1l=>?_) (fun _ h1l=>?_)
 ·refine W_rs (kMv rfl (kMv rfl (kIn rfl rfl rfl (c8 h1l (da) rfl fun x24 _ h1l=>kAs rfl (kAs rfl (au 0 rfl rfl (Upd.refl _) rfl sizeOf97 ?_))))))
  have h:some (x20,w64 (x15+1),x24)=some r:=congrArg some (ho1 _ (ojs h1l))
  refine apq 1 [6] ?_ rfl ⟨rfl,tv⟩
  obtain rfl:=osj h
  exact bj ⟨rfl,[ar ag x20,P6 (w64 (x15+1)),(ah).val x24],⟨yT aa,yT aa,yBox 0 ty97 aa,tv⟩,aa⟩
 refine aw (ba (W_rs (kMvL rfl (kMv rfl (c8 h1l (bp x1 x15 ([44]:Bt)) rfl fun x25 _ h1l=>kNo rfl ?_)))))
 refine bc h1l rfl (fun _ h1l=>?_) (fun _ h1l=>?_)
 ·refine W_rs (kMv rfl (c8 h1l (cp x15) rfl fun x27 _ h1l=>kAs rfl (kAs rfl (au 0 rfl rfl (Upd.refl _) rfl sizeOf97 ?_))))
  have h:some ([],0,x27)=some r:=congrArg some (ho1 _ (ojs h1l))
  obtain rfl:=osj h
  exact bj ⟨rfl,[ar ag [],P6 0,(ah).val x27],⟨yT (du _),yT aa,yBox 0 ty97 aa,tv⟩,aa⟩
 refine aw (W_r (kMv rfl (kIn rfl rfl rfl (kAs rfl ?_))))
 exact⟨m1,lsu,w64 (x15+1),x20,v21,hn1 _ (ojs h1l),⟨⟨aa,aa,aa,aa,aa,tv⟩,A8.of [0,1] rfl⟩⟩
theorem agp :∀n,ie (fy n):=by
 intro n
 induction n with
 |zero=>exact⟨(fun x1 x2 x3 r h=>nomatch (show none=some r from h)),(fun x1 x2 x3 x4 r h=>nomatch (show none=some r from h)),(fun x1 x2 x3 r h=>nomatch (show none=some r from h)),(fun x1 x2 x3 r h=>nomatch (show none=some r from h)),(fun x1 x2 x3 r h=>nomatch (show none=some r from h))⟩
 |succ n ih=>exact⟨(fun x1 x2 x3 r h=>ags (fy n) ih x1 x2 x3 r h),(fun x1 x2 x3 x4 r h=>ak8 (fy n) ih x1 x2 x3 x4 r h),(fun x1 x2 x3 r h=>ak7 (fy n) ih x1 x2 x3 r h),(fun x1 x2 x3 r h=>aiy (fy n) ih x1 x2 x3 r h),(fun x1 x2 x3 r h=>agz (fy n) ih x1 x2 x3 r h)⟩
theorem nn (x1:List C5) (x2 x3:Int) (r:B5 × Int × C6) (h:mc x1 x2 x3=some r):Fp 179 [ar bw x1,P6 x2,P6 x3] (bu [(ag).val r.1,P6 r.2.1,(ah).val r.2.2]):=(agp 1048576).1 x1 x2 x3 r h
theorem apf (x1:List C5) (x2 x3:Int) (r:B5 × Int × C6) (h:abj x1 x2 x3=some r):Fp 168 [ar bw x1,P6 x2,P6 x3] (bu [(ag).val r.1,P6 r.2.1,(ah).val r.2.2]):=by
 refine dt (rs:=[.cell 6 64,.tmp 7,.cell 8 97]) func168 rfl ntmps168 results168 dcd (fun s0=>?_)
 let p1:=B5.mk 0 [] [] 0 0 0 0 0 []
 unfold abj at h
 refine W_rs (br al64 fun b4=>kAs rfl (br al97 fun b5=>ba (W_rs (kMvL rfl (kMv rfl (c8 h (bp x1 x2 ([118,111,105,100]:Bt)) rfl fun x6 _ h=>?_))))))
 refine bc h rfl (fun _ h=>?_) (fun _ h=>?_)
 ·refine W_rs (kUn (ev a8 st64 rfl) ?_)
  refine kMv rfl (c8 h (cp x2) rfl fun x8 _ h=>au 0 rfl rfl (Upd.refl _) rfl sizeOf64 (kAs rfl (au 1 rfl rfl (Upd.refl _) rfl sizeOf97 ?_)))
  obtain rfl:=osj h
  exact bj ⟨rfl,[(ag).val p1,P6 0,(ah).val x8],⟨yBox 0 ty64 aa,yT aa,yBox 1 ty97 aa,tv⟩,aa⟩
 refine aw (ba (W_rs (kMvL rfl (kMv rfl (kIn rfl rfl rfl (c8 h (ka x1 (w64 (x2+1))) rfl fun x9 _ h=>kNo rfl ?_))))))
 refine bc h rfl (fun _ h=>?_) (fun _ h=>?_)
 ·refine W_rs (kUn (ev a8 st64 rfl) ?_)
  refine kMv rfl (kIn rfl rfl rfl (c8 h (cp (w64 (x2+1))) rfl fun x11 _ h=>au 0 rfl rfl (Upd.refl _) rfl sizeOf64 (kAs rfl (au 1 rfl rfl (Upd.refl _) rfl sizeOf97 ?_))))
  obtain rfl:=osj h
  exact bj ⟨rfl,[(ag).val p1,P6 0,(ah).val x11],⟨yBox 0 ty64 aa,yT aa,yBox 1 ty97 aa,tv⟩,aa⟩
 refine aw (ba (W_rs (kMvL rfl (kMv rfl (kIn rfl rfl rfl (c8 h (bp x1 (w64 (x2+2)) ([61]:Bt)) rfl fun x12 _ h=>kNo rfl ?_))))))
 refine bc h rfl (fun _ h=>?_) (fun _ h=>?_)
 ·refine W_rs (kUn (ev a8 st64 rfl) ?_)
  refine kMv rfl (kIn rfl rfl rfl (c8 h (cp (w64 (x2+2))) rfl fun x14 _ h=>au 0 rfl rfl (Upd.refl _) rfl sizeOf64 (kAs rfl (au 1 rfl rfl (Upd.refl _) rfl sizeOf97 ?_))))
  obtain rfl:=osj h
  exact bj ⟨rfl,[(ag).val p1,P6 0,(ah).val x14],⟨yBox 0 ty64 aa,yT aa,yBox 1 ty97 aa,tv⟩,aa⟩
 refine aw (W_rs (kMvL rfl (kMv rfl (kIn rfl rfl rfl (kMv rfl (kIn rfl rfl rfl ?_))))))
 obtain⟨⟨x15,x16,x17⟩,k,h⟩:=aj h
 refine kUn (dv (nn x1 (w64 (x2+3)) (w64 (x3+1)) _ k)) ?_
 refine kUn (hMv (out:=bu [(ag).val x15,P6 x16,(ah).val x17]) rfl) (kUn aq ?_)
 refine kUn aq ?_
 refine kUn aq ?_
 refine br al64 fun b18=>?_
 refine br al97 fun b19=>au 2 rfl rfl (Upd.refl _) rfl sizeOf64 (kAs rfl (au 3 rfl rfl (Upd.refl _) rfl sizeOf97 (ba (W_rs (kUn (ak nf) ?_)))))
 refine kUn (ax 3 ty3 cd) ?_
 refine kIn rfl rfl rfl ?_
 refine bc h rfl (fun _ h=>?_) (fun _ h=>?_)
 ·refine bm (fun e C=>y9 x17=some r/\At [(6,Pr.pt b4 0),(7,P6 0),(8,Pr.pt b5 0)] [E0 b4 ag p1,E0 b5 ah x17,E0 b18 ag x15,E0 b19 ah x17] e C) ?_ ?_
  ·rintro e C ⟨h,a⟩
   refine W_at a ?_
   unfold y9 at h
   obtain rfl:=osj h
   exact bj ⟨rfl,[(ag).val p1,P6 0,(ah).val x17],⟨yBox 0 ty64 aa,yT aa,yBox 1 ty97 aa,tv⟩,aa⟩
  refine fo [(2,0,E0 b4 ag p1),(4,1,E0 b5 ah x17)] [E0 b4 ag p1,E0 b5 ah x17,E0 b18 ag x15,E0 b19 ah x17] hmx kr kr (show([2,4]:List Nat).Nodup by decide) (show([0,1]:List Nat).Nodup by decide) rfl rfl ?_
  refine eq1 (out:=(ag).val p1) (fun C2 hC=>(ev a8 st64 rfl)) ?_
  refine eql 3 ty97 (Sub.refl _) rfl rfl kr ?_
  refine eqs 0 sizeOf64 (Upd.refl _) rfl rfl rfl kr ?_
  refine eq1 (out:=P6 0) (fun C2 hC=>fw) ?_
  refine eqs 1 sizeOf97 (Upd.refl _) rfl rfl rfl kr ?_
  exact⟨h,atOk⟩
 refine aw (ba (W_rs (kMvL rfl (kMv rfl (c8 h (bp x1 x16 ([59]:Bt)) rfl fun x21 _ h=>kNo rfl ?_)))))
 refine bc h rfl (fun _ h=>?_) (fun _ h=>?_)
 ·refine W_rs (kUn (ev a8 st64 rfl) ?_)
  refine kMv rfl (c8 h (cp x16) rfl fun x23 _ h=>au 0 rfl rfl (Upd.refl _) rfl sizeOf64 (kAs rfl (au 1 rfl rfl (Upd.refl _) rfl sizeOf97 ?_)))
  obtain rfl:=osj h
  exact bj ⟨rfl,[(ag).val p1,P6 0,(ah).val x23],⟨yBox 0 ty64 aa,yT aa,yBox 1 ty97 aa,tv⟩,aa⟩
 refine aw (W_rs (kMvL rfl (kMvL rfl (kMv rfl (kMv rfl (kIn rfl rfl rfl (kUn (ax 2 ty64 (Sub.refl _)) ?_)))))))
 refine kUn (c5 (R:=ag) (a:=x15) el53 nb) ?_
 refine c8 h (eg x1 6 x2 (w64 (x16+1)) ([x15]:List B5)) rfl fun x24 _ h=>kMv rfl (c8 h (ae5 x1 x24 x2) rfl fun x25 _ h=>kMv rfl (kIn rfl rfl rfl (c8 h (da) rfl fun x26 _ h=>au 0 rfl rfl (Upd.refl _) rfl sizeOf64 (kAs rfl (au 1 rfl rfl (Upd.refl _) rfl sizeOf97 ?_)))))
 obtain rfl:=osj h
 exact bj ⟨rfl,[(ag).val x25,P6 (w64 (x16+1)),(ah).val x26],⟨yBox 0 ty64 aa,yT aa,yBox 1 ty97 aa,tv⟩,aa⟩
theorem aeh (x1:List C5) (x2 x3:Int) (r:B5 × Int × C6) (h:qi x1 x2 x3=some r):Fp 191 [ar bw x1,P6 x2,P6 x3] (bu [(ag).val r.1,P6 r.2.1,(ah).val r.2.2]):=by
 refine dt (rs:=[.cell 6 64,.tmp 7,.cell 8 97]) func191 rfl ntmps191 results191 dcd (fun s0=>?_)
 let p1:=B5.mk 0 [] [] 0 0 0 0 0 []
 unfold qi at h
 refine W_rs (br al64 fun b4=>kAs rfl (br al97 fun b5=>ba (W_rs (kMvL rfl (kMv rfl (c8 h (bp x1 x2 ([40]:Bt)) rfl fun x6 _ h=>kNo rfl ?_))))))
 refine bc h rfl (fun _ h=>?_) (fun _ h=>?_)
 ·refine W_rs (kUn (ev a8 st64 rfl) ?_)
  refine kMv rfl (c8 h (cp x2) rfl fun x8 _ h=>au 0 rfl rfl (Upd.refl _) rfl sizeOf64 (kAs rfl (au 1 rfl rfl (Upd.refl _) rfl sizeOf97 ?_)))
  obtain rfl:=osj h
  exact bj ⟨rfl,[(ag).val p1,P6 0,(ah).val x8],⟨yBox 0 ty64 aa,yT aa,yBox 1 ty97 aa,tv⟩,aa⟩
 refine aw (W_rs (kMvL rfl (kMv rfl (kIn rfl rfl rfl (kMv rfl ?_)))))
 obtain⟨⟨x9,x10,x11⟩,k,h⟩:=aj h
 refine kUn (dv (nn x1 (w64 (x2+1)) x3 _ k)) ?_
 refine kUn (hMv (out:=bu [(ag).val x9,P6 x10,(ah).val x11]) rfl) (kUn aq ?_)
 refine kUn aq ?_
 refine kUn aq ?_
 refine br al64 fun b12=>?_
 let p2:=E0 b12 ag x9
 refine br al97 fun b13=>au 2 rfl rfl (Upd.refl _) rfl sizeOf64 (kAs rfl (au 3 rfl rfl (Upd.refl _) rfl sizeOf97 (ba (W_rs (kUn (ak nf) ?_)))))
 let p3:=E0 b13 ah x11
 refine kUn (ax 3 ty3 cd) ?_
 refine kIn rfl rfl rfl ?_
 refine bc h rfl (fun _ h=>?_) (fun _ h=>?_)
 ·refine bm (fun e C=>sv x11=some r/\At [(6,Pr.pt b4 0),(7,P6 0),(8,Pr.pt b5 0)] [E0 b4 ag p1,E0 b5 ah x11,p2,p3] e C) ?_ ?_
  ·rintro e C ⟨h,a⟩
   refine W_at a ?_
   unfold sv at h
   obtain rfl:=osj h
   exact bj ⟨rfl,[(ag).val p1,P6 0,(ah).val x11],⟨yBox 0 ty64 aa,yT aa,yBox 1 ty97 aa,tv⟩,aa⟩
  refine fo [(2,0,E0 b4 ag p1),(4,1,E0 b5 ah x11)] [E0 b4 ag p1,E0 b5 ah x11,p2,p3] hmx kr kr (show([2,4]:List Nat).Nodup by decide) (show([0,1]:List Nat).Nodup by decide) rfl rfl ?_
  refine eq1 (out:=(ag).val p1) (fun C2 hC=>(ev a8 st64 rfl)) ?_
  refine eql 3 ty97 (Sub.refl _) rfl rfl kr ?_
  refine eqs 0 sizeOf64 (Upd.refl _) rfl rfl rfl kr ?_
  refine eq1 (out:=P6 0) (fun C2 hC=>fw) ?_
  refine eqs 1 sizeOf97 (Upd.refl _) rfl rfl rfl kr ?_
  exact⟨h,atOk⟩
 refine aw (ba (W_rs (kMvL rfl (kMv rfl (c8 h (bp x1 x10 ([41]:Bt)) rfl fun x15 _ h=>kNo rfl ?_)))))
 refine bc h rfl (fun _ h=>?_) (fun _ h=>?_)
 ·refine W_rs (kUn (ev a8 st64 rfl) ?_)
  refine kMv rfl (c8 h (cp x10) rfl fun x17 _ h=>au 0 rfl rfl (Upd.refl _) rfl sizeOf64 (kAs rfl (au 1 rfl rfl (Upd.refl _) rfl sizeOf97 ?_)))
  obtain rfl:=osj h
  exact bj ⟨rfl,[(ag).val p1,P6 0,(ah).val x17],⟨yBox 0 ty64 aa,yT aa,yBox 1 ty97 aa,tv⟩,aa⟩
 refine aw ?_
 refine bm (fun e C=>∃x18,su x9 x10 x18=some r/\At [(6,Pr.pt b4 0),(7,P6 (w64 (x10+1))),(8,Pr.pt b5 0)] [E0 b4 ag x9,E0 b5 ah x18,p2,p3] e C) ?_ ?_
 ·rintro e C ⟨x18,h,a⟩
  refine W_at a ?_
  unfold su at h
  obtain rfl:=osj h
  exact bj ⟨rfl,[(ag).val x9,P6 (w64 (x10+1)),(ah).val x18],⟨yBox 0 ty64 aa,yT aa,yBox 1 ty97 aa,tv⟩,aa⟩
 obtain⟨x18,k,h⟩:=aj h
 refine fo [(4,0,E0 b4 ag x9),(6,1,E0 b5 ah x18)] [E0 b4 ag x9,E0 b5 ah x18,p2,p3] hmx kr kr (show([4,6]:List Nat).Nodup by decide) (show([0,1]:List Nat).Nodup by decide) rfl rfl ?_
 refine eql 2 ty64 (Sub.refl _) rfl rfl kr ?_
 refine eq1 (out:=P6 x10) (fun C2 hC=>gk) ?_
 refine eq1 (out:=P6 (w64 (x10+1))) (fun C2 hC=>qInt) ?_
 refine eq1 (out:=(ah).val x18) (fun C2 hC=>(dv (da _ k))) ?_
 refine eqs 0 sizeOf64 (Upd.refl _) rfl rfl rfl kr ?_
 refine eq1 (out:=P6 (w64 (x10+1))) (fun C2 hC=>fw) ?_
 refine eqs 1 sizeOf97 (Upd.refl _) rfl rfl rfl kr ?_
 exact⟨x18,h,atOk⟩
theorem apc (x1:List C5) (x2 x3:Int) (r:B5 × Int × C6) (h:abh x1 x2 x3=some r):Fp 181 [ar bw x1,P6 x2,P6 x3] (bu [(ag).val r.1,P6 r.2.1,(ah).val r.2.2]):=by
 refine dt (rs:=[.cell 6 64,.tmp 7,.cell 8 97]) func181 rfl ntmps181 results181 dcd (fun s0=>?_)
 let p1:=B5.mk 0 [] [] 0 0 0 0 0 []
 unfold abh at h
 refine W_rs (br al64 fun b4=>kAs rfl (br al97 fun b5=>ba (W_rs (kMvL rfl (kMv rfl (c8 h (bp x1 x2 ([112,114,105,110,116]:Bt)) rfl fun x6 _ h=>?_))))))
 let p2:=E0 b4 ag p1
 refine bc h rfl (fun _ h=>?_) (fun _ h=>?_)
 ·refine W_rs (kMvL rfl (kMv rfl (kIn rfl rfl rfl (kMv rfl (kIn rfl rfl rfl ?_)))))
  obtain⟨⟨x8,x9,x10⟩,k,h⟩:=aj h
  refine kUn (dv (aeh x1 (w64 (x2+1)) (w64 (x3+1)) _ k)) ?_
  refine kUn (hMv (out:=bu [(ag).val x8,P6 x9,(ah).val x10]) rfl) (kUn aq ?_)
  refine kUn aq ?_
  refine kUn aq ?_
  refine br al64 fun b11=>?_
  refine br al97 fun b12=>au 2 rfl rfl (Upd.refl _) rfl sizeOf64 (kAs rfl (au 3 rfl rfl (Upd.refl _) rfl sizeOf97 (ba (W_rs (kUn (ak nf) ?_)))))
  refine kUn (ax 3 ty3 cd) ?_
  refine kIn rfl rfl rfl ?_
  refine bc h rfl (fun _ h=>?_) (fun _ h=>?_)
  ·refine bm (fun e C=>y8 x10=some r/\At [(6,Pr.pt b4 0),(7,P6 0),(8,Pr.pt b5 0)] [p2,E0 b5 ah x10,E0 b11 ag x8,E0 b12 ah x10] e C) ?_ ?_
   ·rintro e C ⟨h,a⟩
    refine W_at a ?_
    unfold y8 at h
    obtain rfl:=osj h
    exact bj ⟨rfl,[(ag).val p1,P6 0,(ah).val x10],⟨yBox 0 ty64 aa,yT aa,yBox 1 ty97 aa,tv⟩,aa⟩
   refine fo [(2,0,E0 b4 ag p1),(4,1,E0 b5 ah x10)] [p2,E0 b5 ah x10,E0 b11 ag x8,E0 b12 ah x10] hmx kr kr (show([2,4]:List Nat).Nodup by decide) (show([0,1]:List Nat).Nodup by decide) rfl rfl ?_
   refine eq1 (out:=(ag).val p1) (fun C2 hC=>(ev a8 st64 rfl)) ?_
   refine eql 3 ty97 (Sub.refl _) rfl rfl kr ?_
   refine eqs 0 sizeOf64 (Upd.refl _) rfl rfl rfl kr ?_
   refine eq1 (out:=P6 0) (fun C2 hC=>fw) ?_
   refine eqs 1 sizeOf97 (Upd.refl _) rfl rfl rfl kr ?_
   exact⟨h,atOk⟩
  refine aw (ba (W_rs (kMvL rfl (kMv rfl (c8 h (bp x1 x9 ([59]:Bt)) rfl fun x14 _ h=>kNo rfl ?_)))))
  refine bc h rfl (fun _ h=>?_) (fun _ h=>?_)
  ·refine W_rs (kUn (ev a8 st64 rfl) ?_)
   refine kMv rfl (c8 h (cp x9) rfl fun x16 _ h=>au 0 rfl rfl (Upd.refl _) rfl sizeOf64 (kAs rfl (au 1 rfl rfl (Upd.refl _) rfl sizeOf97 ?_)))
   obtain rfl:=osj h
   exact bj ⟨rfl,[(ag).val p1,P6 0,(ah).val x16],⟨yBox 0 ty64 aa,yT aa,yBox 1 ty97 aa,tv⟩,aa⟩
  refine aw (W_rs (kMvL rfl (kMv rfl (kMv rfl (kIn rfl rfl rfl (kUn (ax 2 ty64 (Sub.refl _)) ?_))))))
  refine kUn (c5 (R:=ag) (a:=x8) el53 nb) ?_
  refine c8 h (eg x1 12 x2 (w64 (x9+1)) ([x8]:List B5)) rfl fun x17 _ h=>kMv rfl (kIn rfl rfl rfl (c8 h (da) rfl fun x18 _ h=>au 0 rfl rfl (Upd.refl _) rfl sizeOf64 (kAs rfl (au 1 rfl rfl (Upd.refl _) rfl sizeOf97 ?_))))
  obtain rfl:=osj h
  exact bj ⟨rfl,[(ag).val x17,P6 (w64 (x9+1)),(ah).val x18],⟨yBox 0 ty64 aa,yT aa,yBox 1 ty97 aa,tv⟩,aa⟩
 refine aw (ba (W_rs (kMvL rfl (kMv rfl (kIn rfl rfl rfl (c8 h (bp x1 (w64 (x2+1)) ([59]:Bt)) rfl fun x19 _ h=>?_))))))
 refine bc h rfl (fun _ h=>?_) (fun _ h=>?_)
 ·refine W_rs (kMvL rfl (kMv rfl (kMv rfl (kIn rfl rfl rfl ?_))))
  obtain⟨x21,k,h⟩:=aj h
  refine kUn (acy (eg x1 11 x2 (w64 (x2+2)) [] _ k) ⟨aa,aa,aa,aa,du _,tv⟩) ?_
  refine kMv rfl (kIn rfl rfl rfl (c8 h (da) rfl fun x22 _ h=>au 0 rfl rfl (Upd.refl _) rfl sizeOf64 (kAs rfl (au 1 rfl rfl (Upd.refl _) rfl sizeOf97 ?_))))
  obtain rfl:=osj h
  exact bj ⟨rfl,[(ag).val x21,P6 (w64 (x2+2)),(ah).val x22],⟨yBox 0 ty64 aa,yT aa,yBox 1 ty97 aa,tv⟩,aa⟩
 refine aw (W_rs (kMvL rfl (kMv rfl (kIn rfl rfl rfl (kMv rfl (kIn rfl rfl rfl ?_))))))
 obtain⟨⟨x23,x24,x25⟩,k,h⟩:=aj h
 refine kUn (dv (nn x1 (w64 (x2+1)) (w64 (x3+1)) _ k)) ?_
 refine kUn (hMv (out:=bu [(ag).val x23,P6 x24,(ah).val x25]) rfl) (kUn aq ?_)
 refine kUn aq ?_
 refine kUn aq ?_
 refine br al64 fun b26=>?_
 refine br al97 fun b27=>au 2 rfl rfl (Upd.refl _) rfl sizeOf64 (kAs rfl (au 3 rfl rfl (Upd.refl _) rfl sizeOf97 (ba (W_rs (kUn (ak nf) ?_)))))
 refine kUn (ax 3 ty3 cd) ?_
 refine kIn rfl rfl rfl ?_
 refine bc h rfl (fun _ h=>?_) (fun _ h=>?_)
 ·refine bm (fun e C=>y7 x25=some r/\At [(6,Pr.pt b4 0),(7,P6 0),(8,Pr.pt b5 0)] [p2,E0 b5 ah x25,E0 b26 ag x23,E0 b27 ah x25] e C) ?_ ?_
  ·rintro e C ⟨h,a⟩
   refine W_at a ?_
   unfold y7 at h
   obtain rfl:=osj h
   exact bj ⟨rfl,[(ag).val p1,P6 0,(ah).val x25],⟨yBox 0 ty64 aa,yT aa,yBox 1 ty97 aa,tv⟩,aa⟩
  refine fo [(2,0,E0 b4 ag p1),(4,1,E0 b5 ah x25)] [p2,E0 b5 ah x25,E0 b26 ag x23,E0 b27 ah x25] hmx kr kr (show([2,4]:List Nat).Nodup by decide) (show([0,1]:List Nat).Nodup by decide) rfl rfl ?_
  refine eq1 (out:=(ag).val p1) (fun C2 hC=>(ev a8 st64 rfl)) ?_
  refine eql 3 ty97 (Sub.refl _) rfl rfl kr ?_
  refine eqs 0 sizeOf64 (Upd.refl _) rfl rfl rfl kr ?_
  refine eq1 (out:=P6 0) (fun C2 hC=>fw) ?_
  refine eqs 1 sizeOf97 (Upd.refl _) rfl rfl rfl kr ?_
  exact⟨h,atOk⟩
 refine aw (ba (W_rs (kMvL rfl (kMv rfl (c8 h (bp x1 x24 ([59]:Bt)) rfl fun x29 _ h=>kNo rfl ?_)))))
 refine bc h rfl (fun _ h=>?_) (fun _ h=>?_)
 ·refine W_rs (kUn (ev a8 st64 rfl) ?_)
  refine kMv rfl (c8 h (cp x24) rfl fun x31 _ h=>au 0 rfl rfl (Upd.refl _) rfl sizeOf64 (kAs rfl (au 1 rfl rfl (Upd.refl _) rfl sizeOf97 ?_)))
  obtain rfl:=osj h
  exact bj ⟨rfl,[(ag).val p1,P6 0,(ah).val x31],⟨yBox 0 ty64 aa,yT aa,yBox 1 ty97 aa,tv⟩,aa⟩
 refine aw (W_rs (kMvL rfl (kMv rfl (kMv rfl (kIn rfl rfl rfl (kUn (ax 2 ty64 (Sub.refl _)) ?_))))))
 refine kUn (c5 (R:=ag) (a:=x23) el53 nb) ?_
 refine c8 h (eg x1 11 x2 (w64 (x24+1)) ([x23]:List B5)) rfl fun x32 _ h=>kMv rfl (kIn rfl rfl rfl (c8 h (da) rfl fun x33 _ h=>au 0 rfl rfl (Upd.refl _) rfl sizeOf64 (kAs rfl (au 1 rfl rfl (Upd.refl _) rfl sizeOf97 ?_))))
 obtain rfl:=osj h
 exact bj ⟨rfl,[(ag).val x32,P6 (w64 (x24+1)),(ah).val x33],⟨yBox 0 ty64 aa,yT aa,yBox 1 ty97 aa,tv⟩,aa⟩
end Go.Proofs.YtcndghapmoaidaaGreatDoor
set_option linter.unusedSectionVars false
set_option maxRecDepth 100000
set_option maxHeartbeats 4000000
namespace Go.Proofs.YtcndghapmoaidaaGreatDoor
open Go Go.Cn Tryz
attribute [local irreducible] qx ar
def pv (R:cf):Prop:=(∀(x1:List C5) (x2:Int) (x3:Int) (r:B5 × Int × C6),R.1 x1 x2 x3=some r->Fp 140 [ar bw x1,P6 x2,P6 x3] (bu [(ag).val r.1,P6 r.2.1,(ah).val r.2.2]))/\(∀(x1:List C5) (x2:Int) (x3:Int) (r:B5 × Int × C6),R.2.1 x1 x2 x3=some r->Fp 169 [ar bw x1,P6 x2,P6 x3] (bu [(ag).val r.1,P6 r.2.1,(ah).val r.2.2]))/\(∀(x1:List C5) (x2:Int) (x3:Int) (r:B5 × Int × C6),R.2.2 x1 x2 x3=some r->Fp 180 [ar bw x1,P6 x2,P6 x3] (bu [(ag).val r.1,P6 r.2.1,(ah).val r.2.2]))
theorem ak9 (R:cf) (ih:pv R) (x1:List C5) (x2 x3:Int) (r:B5 × Int × C6) (h:yy R x1 x2 x3=some r):Fp 140 [ar bw x1,P6 x2,P6 x3] (bu [(ag).val r.1,P6 r.2.1,(ah).val r.2.2]):=by
 refine dt (rs:=[.cell 6 64,.tmp 7,.cell 8 97]) func140 rfl ntmps140 results140 dcd (fun s0=>?_)
 let p1:=B5.mk 0 [] [] 0 0 0 0 0 []
 unfold yy at h
 refine W_rs (br al64 fun b4=>kAs rfl (br al97 fun b5=>ba (W_rs (kMvL rfl (kMv rfl (c8 h (bp x1 x2 ([123]:Bt)) rfl fun x6 _ h=>kNo rfl ?_))))))
 let p2:=E0 b4 ag p1
 let p3:=E0 b5 ah (C6.mk 0 0)
 refine bc h rfl (fun _ h=>?_) (fun _ h=>?_)
 ·refine W_rs (kUn (ev a8 st64 rfl) ?_)
  refine kMv rfl (c8 h (cp x2) rfl fun x8 _ h=>au 0 rfl rfl (Upd.refl _) rfl sizeOf64 (kAs rfl (au 1 rfl rfl (Upd.refl _) rfl sizeOf97 ?_)))
  obtain rfl:=osj h
  exact bj ⟨rfl,[(ag).val p1,P6 0,(ah).val x8],⟨yBox 0 ty64 aa,yT aa,yBox 1 ty97 aa,tv⟩,aa⟩
 refine aw (W_rs (kAs rfl (W_rs (kMv rfl (kIn rfl rfl rfl (kAs rfl (ba (ay ?_))))))))
 obtain⟨z2l,hz2,h⟩:=aj h
 obtain⟨n2,hN2⟩:=bt hz2
 refine dl 0 (fun e C=>∃x10,∃x11,∃v9,aa0 R x1 x2 x10 x11=some r/\At [(0,ar bw x1),(1,P6 x2),(6,Pr.pt b4 0),(8,Pr.pt b5 0),(9,Pi v9),(10,P6 x10)] [p2,p3,E3 v9 ag x11 64] e C) ?_ ?_
 ·rintro e C ⟨x10,x11,v9,h,a⟩
  refine W_at a ?_
  unfold aa0 at h
  refine W_rs (kMvL rfl (kMv rfl (kMv rfl (kIn rfl rfl rfl (kMv rfl ?_)))))
  obtain⟨x34,k,h⟩:=aj h
  refine rRel 2 [9,67] ?_ rfl ⟨rfl,rfl,tv⟩
  refine kUn (dv (eg x1 5 x2 (w64 (x10+1)) x11 _ k)) ?_
  refine kMv rfl (kIn rfl rfl rfl (c8 h (da) rfl fun x35 _ h=>au 0 rfl rfl (Upd.refl _) rfl sizeOf64 (kAs rfl (au 1 rfl rfl (Upd.refl _) rfl sizeOf97 ?_))))
  obtain rfl:=osj h
  exact bj ⟨rfl,[(ag).val x34,P6 (w64 (x10+1)),(ah).val x35],⟨yBox 0 ty64 aa,yT aa,yBox 1 ty97 aa,tv⟩,aa⟩
 refine agx [9] ag 64 (fun v36=>?_) ⟨rfl,tv⟩
 refine fb (fun m e C=>∃x10,∃x11,∃v9,fp (fun s=>wb R x1 x3 s.1 s.2) m (x10,x11)=some z2l/\At [(0,ar bw x1),(1,P6 x2),(2,P6 x3),(6,Pr.pt b4 0),(8,Pr.pt b5 0),(9,Pi v9),(10,P6 x10)] [p2,p3,E3 v9 ag x11 64] e C) n2 ⟨w64 (x2+1),[],v36,hN2,⟨⟨aa,aa,aa,aa,aa,aa,aa,tv⟩,A8.refl _⟩⟩ ?_
 rintro m e C ⟨x10,x11,v9,hN2,a⟩
 refine W_at a ?_
 obtain⟨m2,w2l,rfl,h2l,hn2,ho2⟩:=bl hN2
 replace h2l:wb R x1 x3 x10 x11=some w2l:=h2l
 unfold wb at h2l
 refine ba (W_rs (kMvL rfl (kMv rfl (c8 h2l (bp x1 x10 ([125]:Bt)) rfl fun x15 _ h2l=>kNo rfl ?_))))
 refine bc h2l rfl (fun _ h2l=>?_) (fun _ h2l=>?_)
 ·refine aw (ay (W_rs (br al64 fun b17=>W_rs (br al97 fun b18=>W_rs (kAs rfl ?_)))))
  refine bm (fun e C=>∃x28,∃x29,∃x30,sc R x11 x28 x29 x30=some w2l/\At [(0,ar bw x1),(1,P6 x2),(2,P6 x3),(6,Pr.pt b4 0),(8,Pr.pt b5 0),(9,Pi v9),(11,Pr.pt b17 0),(12,Pr.pt b18 0),(13,P6 x28)] [p2,p3,E3 v9 ag x11 64,E0 b17 ag x29,E0 b18 ah x30] e C) ?_ ?_
  ·rintro e C ⟨x28,x29,x30,h2l,a⟩
   refine W_at a ?_
   unfold sc at h2l
   refine ba (W_rs (kUn (ak nf) ?_))
   refine kUn (ax 4 ty3 cd) ?_
   refine kIn rfl rfl rfl ?_
   refine bc h2l rfl (fun _ h2l=>?_) (fun _ h2l=>?_)
   ·refine bm (fun e C=>aa1 R x30=some w2l/\At [(6,Pr.pt b4 0),(7,P6 0),(8,Pr.pt b5 0)] [p2,E0 b5 ah x30,E0 b17 ag x29,E0 b18 ah x30] e C) ?_ ?_
    ·rintro e C ⟨h2l,a⟩
     refine W_at a ?_
     unfold aa1 at h2l
     obtain rfl:=ho2 _ (ojs h2l)
     replace h:some (p1,0,x30)=some r:=h
     obtain rfl:=osj h
     exact bj ⟨rfl,[(ag).val p1,P6 0,(ah).val x30],⟨yBox 0 ty64 aa,yT aa,yBox 1 ty97 aa,tv⟩,aa⟩
    refine fo [(2,0,E0 b4 ag p1),(4,1,E0 b5 ah x30)] [p2,E0 b5 ah x30,E3 v9 ag x11 64,E0 b17 ag x29,E0 b18 ah x30] hmx kr kr (show([2,4]:List Nat).Nodup by decide) (show([0,1]:List Nat).Nodup by decide) rfl rfl ?_
    refine eq1 (out:=(ag).val p1) (fun C2 hC=>(ev a8 st64 rfl)) ?_
    refine eql 4 ty97 (Sub.refl _) rfl rfl kr ?_
    refine eqs 0 sizeOf64 (Upd.refl _) rfl rfl rfl kr ?_
    refine eq1 (out:=P6 0) (fun C2 hC=>fw) ?_
    refine eqs 1 sizeOf97 (Upd.refl _) rfl rfl rfl kr ?_
    exact⟨h2l,⟨⟨aa,aa,aa,tv⟩,A8.of [0,1,3,4] rfl⟩⟩
   refine aw (W_rs (kMv rfl (kUn (ax 3 ty64 (Sub.refl _)) ?_)))
   refine kUn (c5 (R:=ag) (a:=x29) el53 nb) ?_
   obtain⟨x32,k,h2l⟩:=aj h2l
   refine gq 2 el53 k (fun v33=>?_)
   refine kAs rfl (W_r (kMv rfl (kAs rfl ?_)))
   exact⟨m2,lsu,x28,x32,v33,hn2 _ (ojs h2l),⟨⟨aa,aa,aa,aa,aa,aa,aa,tv⟩,A8.of [0,1,2] rfl⟩⟩
  refine W_rs (kMvL rfl (kMv rfl (c8 h2l (ap5 x1 x10) rfl fun x19 _ h2l=>?_)))
  refine bc h2l rfl (fun _ h2l=>?_) (fun _ h2l=>?_)
  ·refine W_rs (kMvL rfl (kMv rfl (kMv rfl (kIn rfl rfl rfl ?_))))
   obtain⟨⟨x21,x22,x23⟩,k,h2l⟩:=aj h2l
   refine kUn (dv (apf x1 x10 (w64 (x3+1)) _ k)) ?_
   refine kUn (hMv (out:=bu [(ag).val x21,P6 x22,(ah).val x23]) rfl) (kUn aq ?_)
   refine kUn aq ?_
   refine kUn aq ?_
   refine au 3 rfl rfl (Upd.refl _) rfl sizeOf64 (kAs rfl (au 4 rfl rfl (Upd.refl _) rfl sizeOf97 (W_rs (kMv rfl (kIn rfl rfl rfl (kIn rfl rfl rfl ?_))))))
   refine bc h2l rfl (fun _ h2l=>?_) (fun _ h2l=>?_)
   ·refine W_r (kMv rfl (kUn (jh st97 ⟨(C6.mk x10 0),⟨_,rfl,rfl,qbj⟩,⟨(C6.mk x10 2),⟨_,rfl,rfl,qbj⟩,rfl⟩⟩) ?_))
    refine au 4 rfl rfl (Upd.refl _) rfl sizeOf97 ?_
    exact⟨x22,x21,(C6.mk x10 2),h2l,atOk⟩
   refine aw ?_
   exact⟨x22,x21,x23,h2l,atOk⟩
  refine W_r (kMvL rfl (kMv rfl (kMv rfl (kIn rfl rfl rfl ?_))))
  obtain⟨⟨x25,x26,x27⟩,k,h2l⟩:=aj h2l
  refine kUn (dv (ih.2.1 x1 x10 (w64 (x3+1)) _ k)) ?_
  refine kUn (hMv (out:=bu [(ag).val x25,P6 x26,(ah).val x27]) rfl) (kUn aq ?_)
  refine kUn aq ?_
  refine kUn aq ?_
  refine au 3 rfl rfl (Upd.refl _) rfl sizeOf64 (kAs rfl (au 4 rfl rfl (Upd.refl _) rfl sizeOf97 ?_))
  exact⟨x26,x25,x27,h2l,atOk⟩
 refine ep ?_
 obtain rfl:=ho2 _ (ojs h2l)
 exact⟨x10,x11,v9,h,atOk⟩
theorem agy (R:cf) (ih:pv R) (x1:List C5) (x2 x3:Int) (r:B5 × Int × C6) (h:qt R x1 x2 x3=some r):Fp 169 [ar bw x1,P6 x2,P6 x3] (bu [(ag).val r.1,P6 r.2.1,(ah).val r.2.2]):=by
 refine dt (rs:=[.cell 6 64,.tmp 7,.cell 8 97]) func169 rfl ntmps169 results169 dcd (fun s0=>?_)
 let p1:=B5.mk 0 [] [] 0 0 0 0 0 []
 unfold qt at h
 refine W_rs (br al64 fun b4=>kAs rfl (br al97 fun b5=>ba (W_rs (kMv rfl (kIn rfl rfl rfl ?_)))))
 let p2:=E0 b4 ag p1
 let p3:=E0 b5 ah (C6.mk 0 0)
 refine bc h rfl (fun _ h=>?_) (fun _ h=>?_)
 ·refine W_rs (kUn (ev a8 st64 rfl) ?_)
  refine kMv rfl (kUn (jh st97 ⟨(C6.mk x2 0),⟨_,rfl,rfl,qbj⟩,⟨(C6.mk x2 2),⟨_,rfl,rfl,qbj⟩,rfl⟩⟩) ?_)
  refine au 0 rfl rfl (Upd.refl _) rfl sizeOf64 (kAs rfl (au 1 rfl rfl (Upd.refl _) rfl sizeOf97 ?_))
  obtain rfl:=osj h
  exact bj ⟨rfl,[(ag).val p1,P6 0,(ah).val (C6.mk x2 2)],⟨yBox 0 ty64 aa,yT aa,yBox 1 ty97 aa,tv⟩,aa⟩
 refine aw (ba (ay (W_rs (kMvL rfl (kMv rfl (c8 h (bp x1 x2 ([123]:Bt)) rfl fun x7 _ h=>kAs rfl ?_))))))
 refine bc h rfl (fun _ h=>?_) (fun _ h=>?_)
 ·refine W_rs (kMvL rfl (kMv rfl (kMv rfl ?_)))
  obtain⟨⟨x9,x10,x11⟩,k,h⟩:=aj h
  refine kUn (dv (ih.1 x1 x2 x3 _ k)) ?_
  refine kUn aq ?_
  refine kUn aq ?_
  refine kUn aq ?_
  refine au 0 rfl rfl (Upd.refl _) rfl sizeOf64 (kAs rfl (au 1 rfl rfl (Upd.refl _) rfl sizeOf97 ?_))
  obtain rfl:=osj h
  exact bj ⟨rfl,[(ag).val x9,P6 x10,(ah).val x11],⟨yBox 0 ty64 aa,yT aa,yBox 1 ty97 aa,tv⟩,aa⟩
 refine bm (fun e C=>∃x15,lv R x1 x2 x3 x15=some r/\At [(0,ar bw x1),(1,P6 x2),(2,P6 x3),(6,Pr.pt b4 0),(8,Pr.pt b5 0),(33,Pb x15)] [p2,p3] e C) ?_ ?_
 ·rintro e C ⟨x15,h,a⟩
  refine W_at a ?_
  unfold lv at h
  refine bc h rfl (fun _ h=>?_) (fun _ h=>?_)
  ·refine W_rs (kMvL rfl (kMv rfl (kMv rfl ?_)))
   obtain⟨⟨x17,x18,x19⟩,k,h⟩:=aj h
   refine kUn (dv (ih.2.2 x1 x2 x3 _ k)) ?_
   refine kUn aq ?_
   refine kUn aq ?_
   refine kUn aq ?_
   refine au 0 rfl rfl (Upd.refl _) rfl sizeOf64 (kAs rfl (au 1 rfl rfl (Upd.refl _) rfl sizeOf97 ?_))
   obtain rfl:=osj h
   exact bj ⟨rfl,[(ag).val x17,P6 x18,(ah).val x19],⟨yBox 0 ty64 aa,yT aa,yBox 1 ty97 aa,tv⟩,aa⟩
  refine bm (fun e C=>∃x23,lw R x1 x2 x3 x23=some r/\At [(0,ar bw x1),(1,P6 x2),(2,P6 x3),(6,Pr.pt b4 0),(8,Pr.pt b5 0),(47,Pb x23)] [p2,p3] e C) ?_ ?_
  ·rintro e C ⟨x23,h,a⟩
   refine W_at a ?_
   unfold lw at h
   refine bc h rfl (fun _ h=>?_) (fun _ h=>?_)
   ·refine W_rs (kMvL rfl (kMv rfl (kMv rfl ?_)))
    obtain⟨⟨x25,x26,x27⟩,k,h⟩:=aj h
    refine kUn (dv (apc x1 x2 x3 _ k)) ?_
    refine kUn aq ?_
    refine kUn aq ?_
    refine kUn aq ?_
    refine au 0 rfl rfl (Upd.refl _) rfl sizeOf64 (kAs rfl (au 1 rfl rfl (Upd.refl _) rfl sizeOf97 ?_))
    obtain rfl:=osj h
    exact bj ⟨rfl,[(ag).val x25,P6 x26,(ah).val x27],⟨yBox 0 ty64 aa,yT aa,yBox 1 ty97 aa,tv⟩,aa⟩
   refine aw (W_rs (kMvL rfl (kMv rfl (kMv rfl (kIn rfl rfl rfl ?_)))))
   obtain⟨⟨x28,x29,x30⟩,k,h⟩:=aj h
   refine kUn (dv (nn x1 x2 (w64 (x3+1)) _ k)) ?_
   refine kUn (hMv (out:=bu [(ag).val x28,P6 x29,(ah).val x30]) rfl) (kUn aq ?_)
   refine kUn aq ?_
   refine kUn aq ?_
   refine br al64 fun b31=>?_
   let p4:=E0 b31 ag x28
   refine br al97 fun b32=>au 2 rfl rfl (Upd.refl _) rfl sizeOf64 (kAs rfl (au 3 rfl rfl (Upd.refl _) rfl sizeOf97 (ba (W_rs (kUn (ak nf) ?_)))))
   let p5:=E0 b32 ah x30
   refine kUn (ax 3 ty3 cd) ?_
   refine kIn rfl rfl rfl ?_
   refine bc h rfl (fun _ h=>?_) (fun _ h=>?_)
   ·refine bm (fun e C=>ss R x30=some r/\At [(6,Pr.pt b4 0),(7,P6 0),(8,Pr.pt b5 0)] [p2,E0 b5 ah x30,p4,p5] e C) ?_ ?_
    ·rintro e C ⟨h,a⟩
     refine W_at a ?_
     unfold ss at h
     obtain rfl:=osj h
     exact bj ⟨rfl,[(ag).val p1,P6 0,(ah).val x30],⟨yBox 0 ty64 aa,yT aa,yBox 1 ty97 aa,tv⟩,aa⟩
    refine fo [(2,0,E0 b4 ag p1),(4,1,E0 b5 ah x30)] [p2,E0 b5 ah x30,p4,p5] hmx kr kr (show([2,4]:List Nat).Nodup by decide) (show([0,1]:List Nat).Nodup by decide) rfl rfl ?_
    refine eq1 (out:=(ag).val p1) (fun C2 hC=>(ev a8 st64 rfl)) ?_
    refine eql 3 ty97 (Sub.refl _) rfl rfl kr ?_
    refine eqs 0 sizeOf64 (Upd.refl _) rfl rfl rfl kr ?_
    refine eq1 (out:=P6 0) (fun C2 hC=>fw) ?_
    refine eqs 1 sizeOf97 (Upd.refl _) rfl rfl rfl kr ?_
    exact⟨h,atOk⟩
   refine aw (W_rs (kAs rfl (W_rs (kUn (ax 2 ty64 (Sub.refl _)) ?_))))
   refine ars (R:=ag) (ls:=([x28]:List B5)) el53 nb ⟨rfl,rfl⟩ ⟨rfl,tv⟩ (fun v34=>?_)
   refine kAs rfl ?_
   refine bm (fun e C=>∃x45,∃x46,∃x48,∃v47,ol R x1 x2 x45 x46 x48=some r/\At [(0,ar bw x1),(1,P6 x2),(6,Pr.pt b4 0),(8,Pr.pt b5 0),(10,P6 x45),(12,P6 x46),(13,Pi v47)] [p2,p3,p4,p5,E3 v47 ag x48 64] e C) ?_ ?_
   ·rintro e C ⟨x45,x46,x48,v47,h,a⟩
    refine W_at a ?_
    unfold ol at h
    refine ba (W_rs (kMvL rfl (kMv rfl (c8 h (bp x1 x45 ([59]:Bt)) rfl fun x49 _ h=>kNo rfl ?_))))
    refine bc h rfl (fun _ h=>?_) (fun _ h=>?_)
    ·refine W_rs (kUn (ev a8 st64 rfl) ?_)
     refine kMv rfl (c8 h (cp x45) rfl fun x51 _ h=>au 0 rfl rfl (Upd.refl _) rfl sizeOf64 (kAs rfl (au 1 rfl rfl (Upd.refl _) rfl sizeOf97 ?_)))
     obtain rfl:=osj h
     exact bj ⟨rfl,[(ag).val p1,P6 0,(ah).val x51],⟨yBox 0 ty64 aa,yT aa,yBox 1 ty97 aa,tv⟩,aa⟩
    refine aw (W_rs (kMvL rfl (kMv rfl (kMv rfl (kMv rfl (kIn rfl rfl rfl (kMv rfl ?_)))))))
    obtain⟨x52,k,h⟩:=aj h
    refine rRel 4 [13,112] ?_ rfl ⟨rfl,rfl,tv⟩
    refine kUn (dv (eg x1 x46 x2 (w64 (x45+1)) x48 _ k)) ?_
    refine kMv rfl (kIn rfl rfl rfl (c8 h (da) rfl fun x53 _ h=>au 0 rfl rfl (Upd.refl _) rfl sizeOf64 (kAs rfl (au 1 rfl rfl (Upd.refl _) rfl sizeOf97 ?_))))
    obtain rfl:=osj h
    exact bj ⟨rfl,[(ag).val x52,P6 (w64 (x45+1)),(ah).val x53],⟨yBox 0 ty64 aa,yT aa,yBox 1 ty97 aa,tv⟩,aa⟩
   refine W_rs (kMvL rfl (kMv rfl (c8 h (bp x1 x29 ([61]:Bt)) rfl fun x35 _ h=>?_)))
   refine bc h rfl (fun _ h=>?_) (fun _ h=>?_)
   ·refine W_rs (kMvL rfl (kMv rfl (kIn rfl rfl rfl (kMv rfl (kIn rfl rfl rfl ?_)))))
    obtain⟨⟨x37,x38,x39⟩,k,h⟩:=aj h
    refine kUn (dv (nn x1 (w64 (x29+1)) (w64 (x3+1)) _ k)) ?_
    refine kUn (hMv (out:=bu [(ag).val x37,P6 x38,(ah).val x39]) rfl) (kUn aq ?_)
    refine kUn aq ?_
    refine kUn aq ?_
    refine br al64 fun b40=>?_
    refine br al97 fun b41=>au 5 rfl rfl (Upd.refl _) rfl sizeOf64 (kAs rfl (au 6 rfl rfl (Upd.refl _) rfl sizeOf97 (ba (W_rs (kUn (ak nf) ?_)))))
    refine kUn (ax 6 ty3 cd) ?_
    refine kIn rfl rfl rfl ?_
    refine bc h rfl (fun _ h=>?_) (fun _ h=>?_)
    ·refine bm (fun e C=>sr R x39=some r/\At [(6,Pr.pt b4 0),(7,P6 0),(8,Pr.pt b5 0)] [p2,E0 b5 ah x39,p4,p5,E0 b40 ag x37,E0 b41 ah x39] e C) ?_ ?_
     ·rintro e C ⟨h,a⟩
      refine W_at a ?_
      unfold sr at h
      obtain rfl:=osj h
      exact bj ⟨rfl,[(ag).val p1,P6 0,(ah).val x39],⟨yBox 0 ty64 aa,yT aa,yBox 1 ty97 aa,tv⟩,aa⟩
     refine fo [(2,0,E0 b4 ag p1),(4,1,E0 b5 ah x39)] [p2,E0 b5 ah x39,p4,p5,E3 v34 ag ([x28]:List B5) 64,E0 b40 ag x37,E0 b41 ah x39] hmx kr kr (show([2,4]:List Nat).Nodup by decide) (show([0,1]:List Nat).Nodup by decide) rfl rfl ?_
     refine eq1 (out:=(ag).val p1) (fun C2 hC=>(ev a8 st64 rfl)) ?_
     refine eql 6 ty97 (Sub.refl _) rfl rfl kr ?_
     refine eqs 0 sizeOf64 (Upd.refl _) rfl rfl rfl kr ?_
     refine eq1 (out:=P6 0) (fun C2 hC=>fw) ?_
     refine eqs 1 sizeOf97 (Upd.refl _) rfl rfl rfl kr ?_
     exact⟨h,⟨⟨aa,aa,aa,tv⟩,A8.of [0,1,2,3,5,6] rfl⟩⟩
    refine aw (W_rs (kAs rfl (W_rs (kMv rfl (kUn (ax 5 ty64 (Sub.refl _)) ?_)))))
    refine kUn (c5 (R:=ag) (a:=x37) el53 nb) ?_
    obtain⟨x43,k,h⟩:=aj h
    refine gq 4 el53 k (fun v44=>?_)
    refine kAs rfl (W_r (kMv rfl (kAs rfl ?_)))
    exact⟨x38,7,x43,v44,h,⟨⟨aa,aa,aa,aa,aa,aa,aa,tv⟩,A8.of [0,1,2,3,4] rfl⟩⟩
   refine aw ?_
   exact⟨x29,8,([x28]:List B5),v34,h,atOk⟩
  refine W_rs (kMvL rfl (kMv rfl (c8 h (bp x1 x2 ([114,101,116,117,114,110]:Bt)) rfl fun x20 _ h=>kAs rfl ?_)))
  refine bc h rfl (fun _ h=>?_) (fun _ h=>?_)
  ·refine aw ?_
   exact⟨x20,h,atOk⟩
  refine W_r (kMvL rfl (kMv rfl (c8 h (bp x1 x2 ([112,114,105,110,116]:Bt)) rfl fun x22 _ h=>kAs rfl ?_)))
  exact⟨x22,h,atOk⟩
 refine W_rs (kMvL rfl (kMv rfl (c8 h (bp x1 x2 ([105,102]:Bt)) rfl fun x12 _ h=>kAs rfl ?_)))
 refine bc h rfl (fun _ h=>?_) (fun _ h=>?_)
 ·refine aw ?_
  exact⟨x12,h,atOk⟩
 refine W_r (kMvL rfl (kMv rfl (c8 h (bp x1 x2 ([119,104,105,108,101]:Bt)) rfl fun x14 _ h=>kAs rfl ?_)))
 exact⟨x14,h,atOk⟩
theorem aiz (R:cf) (ih:pv R) (x1:List C5) (x2 x3:Int) (r:B5 × Int × C6) (h:ui R x1 x2 x3=some r):Fp 180 [ar bw x1,P6 x2,P6 x3] (bu [(ag).val r.1,P6 r.2.1,(ah).val r.2.2]):=by
 refine dt (rs:=[.cell 6 64,.tmp 7,.cell 8 97]) func180 rfl ntmps180 results180 dcd (fun s0=>?_)
 let p1:=B5.mk 0 [] [] 0 0 0 0 0 []
 unfold ui at h
 refine W_rs (br al64 fun b4=>kAs rfl (br al97 fun b5=>W_rs (kMvL rfl (kMv rfl (kIn rfl rfl rfl (kMv rfl (kIn rfl rfl rfl ?_)))))))
 let p2:=E0 b4 ag p1
 obtain⟨⟨x6,x7,x8⟩,k,h⟩:=aj h
 refine kUn (dv (aeh x1 (w64 (x2+1)) (w64 (x3+1)) _ k)) ?_
 refine kUn (hMv (out:=bu [(ag).val x6,P6 x7,(ah).val x8]) rfl) (kUn aq ?_)
 refine kUn aq ?_
 refine kUn aq ?_
 refine br al64 fun b9=>?_
 let p3:=E0 b9 ag x6
 refine br al97 fun b10=>au 2 rfl rfl (Upd.refl _) rfl sizeOf64 (kAs rfl (au 3 rfl rfl (Upd.refl _) rfl sizeOf97 (ba (W_rs (kUn (ak nf) ?_)))))
 let p4:=E0 b10 ah x8
 refine kUn (ax 3 ty3 cd) ?_
 refine kIn rfl rfl rfl ?_
 refine bc h rfl (fun _ h=>?_) (fun _ h=>?_)
 ·refine bm (fun e C=>w5 R x8=some r/\At [(6,Pr.pt b4 0),(7,P6 0),(8,Pr.pt b5 0)] [p2,E0 b5 ah x8,p3,p4] e C) ?_ ?_
  ·rintro e C ⟨h,a⟩
   refine W_at a ?_
   unfold w5 at h
   obtain rfl:=osj h
   exact bj ⟨rfl,[(ag).val p1,P6 0,(ah).val x8],⟨yBox 0 ty64 aa,yT aa,yBox 1 ty97 aa,tv⟩,aa⟩
  refine fo [(2,0,E0 b4 ag p1),(4,1,E0 b5 ah x8)] [p2,E0 b5 ah x8,p3,p4] hmx kr kr (show([2,4]:List Nat).Nodup by decide) (show([0,1]:List Nat).Nodup by decide) rfl rfl ?_
  refine eq1 (out:=(ag).val p1) (fun C2 hC=>(ev a8 st64 rfl)) ?_
  refine eql 3 ty97 (Sub.refl _) rfl rfl kr ?_
  refine eqs 0 sizeOf64 (Upd.refl _) rfl rfl rfl kr ?_
  refine eq1 (out:=P6 0) (fun C2 hC=>fw) ?_
  refine eqs 1 sizeOf97 (Upd.refl _) rfl rfl rfl kr ?_
  exact⟨h,atOk⟩
 refine aw (W_rs (kMvL rfl (kMv rfl (kMv rfl (kIn rfl rfl rfl ?_)))))
 obtain⟨⟨x12,x13,x14⟩,k,h⟩:=aj h
 refine kUn (dv (ih.2.1 x1 x7 (w64 (x3+1)) _ k)) ?_
 refine kUn (hMv (out:=bu [(ag).val x12,P6 x13,(ah).val x14]) rfl) (kUn aq ?_)
 refine kUn aq ?_
 refine kUn aq ?_
 refine br al64 fun b15=>?_
 let p5:=E0 b15 ag x12
 refine br al97 fun b16=>au 4 rfl rfl (Upd.refl _) rfl sizeOf64 (kAs rfl (au 5 rfl rfl (Upd.refl _) rfl sizeOf97 (ba (W_rs (kUn (ak nf) ?_)))))
 let p6:=E0 b16 ah x14
 refine kUn (ax 5 ty3 cd) ?_
 refine kIn rfl rfl rfl ?_
 refine bc h rfl (fun _ h=>?_) (fun _ h=>?_)
 ·refine bm (fun e C=>w4 R x14=some r/\At [(6,Pr.pt b4 0),(7,P6 0),(8,Pr.pt b5 0)] [p2,E0 b5 ah x14,p3,p4,p5,p6] e C) ?_ ?_
  ·rintro e C ⟨h,a⟩
   refine W_at a ?_
   unfold w4 at h
   obtain rfl:=osj h
   exact bj ⟨rfl,[(ag).val p1,P6 0,(ah).val x14],⟨yBox 0 ty64 aa,yT aa,yBox 1 ty97 aa,tv⟩,aa⟩
  refine fo [(2,0,E0 b4 ag p1),(4,1,E0 b5 ah x14)] [p2,E0 b5 ah x14,p3,p4,p5,p6] hmx kr kr (show([2,4]:List Nat).Nodup by decide) (show([0,1]:List Nat).Nodup by decide) rfl rfl ?_
  refine eq1 (out:=(ag).val p1) (fun C2 hC=>(ev a8 st64 rfl)) ?_
  refine eql 5 ty97 (Sub.refl _) rfl rfl kr ?_
  refine eqs 0 sizeOf64 (Upd.refl _) rfl rfl rfl kr ?_
  refine eq1 (out:=P6 0) (fun C2 hC=>fw) ?_
  refine eqs 1 sizeOf97 (Upd.refl _) rfl rfl rfl kr ?_
  exact⟨h,atOk⟩
 refine aw (W_rs (kUn (ax 2 ty64 (Sub.refl _)) ?_))
 refine kUn (ax 4 ty64 (Sub.refl _)) ?_
 refine ars (R:=ag) (ls:=([x6,x12]:List B5)) el53 nb ⟨rfl,rfl⟩ ⟨rfl,rfl,tv⟩ (fun v18=>?_)
 refine kAs rfl (ba (W_rs (kMvL rfl (kMv rfl (c8 h (bp x1 x2 ([119,104,105,108,101]:Bt)) rfl fun x19 _ h=>?_)))))
 refine bc h rfl (fun _ h=>?_) (fun _ h=>?_)
 ·refine W_rs (kMvL rfl (kMv rfl (kMv rfl (kMv rfl ?_))))
  obtain⟨x21,k,h⟩:=aj h
  refine rRel 6 [15,57] ?_ rfl ⟨rfl,rfl,tv⟩
  refine kUn (dv (eg x1 10 x2 x13 ([x6,x12]:List B5) _ k)) ?_
  refine kMv rfl (c8 h (da) rfl fun x22 _ h=>au 0 rfl rfl (Upd.refl _) rfl sizeOf64 (kAs rfl (au 1 rfl rfl (Upd.refl _) rfl sizeOf97 ?_)))
  obtain rfl:=osj h
  exact bj ⟨rfl,[(ag).val x21,P6 x13,(ah).val x22],⟨yBox 0 ty64 aa,yT aa,yBox 1 ty97 aa,tv⟩,aa⟩
 refine aw ?_
 refine bm (fun e C=>∃x33,∃x35,∃v34,rn R x1 x2 x33 x35=some r/\At [(0,ar bw x1),(1,P6 x2),(6,Pr.pt b4 0),(8,Pr.pt b5 0),(13,P6 x33),(15,Pi v34)] [p2,E0 b5 ah (C6.mk 0 0),p3,p4,p5,p6,E3 v34 ag x35 64] e C) ?_ ?_
 ·rintro e C ⟨x33,x35,v34,h,a⟩
  refine W_at a ?_
  unfold rn at h
  refine W_rs (kMvL rfl (kMv rfl (kMv rfl (kMv rfl ?_))))
  obtain⟨x36,k,h⟩:=aj h
  refine rRel 6 [15,87] ?_ rfl ⟨rfl,rfl,tv⟩
  refine kUn (dv (eg x1 9 x2 x33 x35 _ k)) ?_
  refine kMv rfl (c8 h (da) rfl fun x37 _ h=>au 0 rfl rfl (Upd.refl _) rfl sizeOf64 (kAs rfl (au 1 rfl rfl (Upd.refl _) rfl sizeOf97 ?_)))
  obtain rfl:=osj h
  exact bj ⟨rfl,[(ag).val x36,P6 x33,(ah).val x37],⟨yBox 0 ty64 aa,yT aa,yBox 1 ty97 aa,tv⟩,aa⟩
 refine W_rs (kMvL rfl (kMv rfl (c8 h (bp x1 x13 ([101,108,115,101]:Bt)) rfl fun x23 _ h=>?_)))
 refine bc h rfl (fun _ h=>?_) (fun _ h=>?_)
 ·refine W_rs (kMvL rfl (kMv rfl (kIn rfl rfl rfl (kMv rfl (kIn rfl rfl rfl ?_)))))
  obtain⟨⟨x25,x26,x27⟩,k,h⟩:=aj h
  refine kUn (dv (ih.2.1 x1 (w64 (x13+1)) (w64 (x3+1)) _ k)) ?_
  refine kUn (hMv (out:=bu [(ag).val x25,P6 x26,(ah).val x27]) rfl) (kUn aq ?_)
  refine kUn aq ?_
  refine kUn aq ?_
  refine br al64 fun b28=>?_
  refine br al97 fun b29=>au 7 rfl rfl (Upd.refl _) rfl sizeOf64 (kAs rfl (au 8 rfl rfl (Upd.refl _) rfl sizeOf97 (ba (W_rs (kUn (ak nf) ?_)))))
  refine kUn (ax 8 ty3 cd) ?_
  refine kIn rfl rfl rfl ?_
  refine bc h rfl (fun _ h=>?_) (fun _ h=>?_)
  ·refine bm (fun e C=>wz R x27=some r/\At [(6,Pr.pt b4 0),(7,P6 0),(8,Pr.pt b5 0)] [p2,E0 b5 ah x27,p3,p4,p5,p6,E0 b28 ag x25,E0 b29 ah x27] e C) ?_ ?_
   ·rintro e C ⟨h,a⟩
    refine W_at a ?_
    unfold wz at h
    obtain rfl:=osj h
    exact bj ⟨rfl,[(ag).val p1,P6 0,(ah).val x27],⟨yBox 0 ty64 aa,yT aa,yBox 1 ty97 aa,tv⟩,aa⟩
   refine fo [(2,0,E0 b4 ag p1),(4,1,E0 b5 ah x27)] [p2,E0 b5 ah x27,p3,p4,p5,p6,E3 v18 ag ([x6,x12]:List B5) 64,E0 b28 ag x25,E0 b29 ah x27] hmx kr kr (show([2,4]:List Nat).Nodup by decide) (show([0,1]:List Nat).Nodup by decide) rfl rfl ?_
   refine eq1 (out:=(ag).val p1) (fun C2 hC=>(ev a8 st64 rfl)) ?_
   refine eql 8 ty97 (Sub.refl _) rfl rfl kr ?_
   refine eqs 0 sizeOf64 (Upd.refl _) rfl rfl rfl kr ?_
   refine eq1 (out:=P6 0) (fun C2 hC=>fw) ?_
   refine eqs 1 sizeOf97 (Upd.refl _) rfl rfl rfl kr ?_
   exact⟨h,⟨⟨aa,aa,aa,tv⟩,A8.of [0,1,2,3,4,5,7,8] rfl⟩⟩
  refine aw (W_rs (kMv rfl (kUn (ax 7 ty64 (Sub.refl _)) ?_)))
  refine kUn (c5 (R:=ag) (a:=x25) el53 nb) ?_
  obtain⟨x31,k,h⟩:=aj h
  refine gq 6 el53 k (fun v32=>?_)
  refine kAs rfl (W_r (kMv rfl (kAs rfl ?_)))
  exact⟨x26,x31,v32,h,⟨⟨aa,aa,aa,aa,aa,aa,tv⟩,A8.of [0,1,2,3,4,5,6] rfl⟩⟩
 refine aw ?_
 exact⟨x13,([x6,x12]:List B5),v18,h,atOk⟩
theorem akx :∀n,pv (lz n):=by
 intro n
 induction n with
 |zero=>exact⟨(fun x1 x2 x3 r h=>nomatch (show none=some r from h)),(fun x1 x2 x3 r h=>nomatch (show none=some r from h)),(fun x1 x2 x3 r h=>nomatch (show none=some r from h))⟩
 |succ n ih=>exact⟨(fun x1 x2 x3 r h=>ak9 (lz n) ih x1 x2 x3 r h),(fun x1 x2 x3 r h=>agy (lz n) ih x1 x2 x3 r h),(fun x1 x2 x3 r h=>aiz (lz n) ih x1 x2 x3 r h)⟩
theorem ap7 (x1:List C5) (x2 x3:Int) (r:B5 × Int × C6) (h:ajl x1 x2 x3=some r):Fp 140 [ar bw x1,P6 x2,P6 x3] (bu [(ag).val r.1,P6 r.2.1,(ah).val r.2.2]):=(akx 1048576).1 x1 x2 x3 r h
theorem ape (x1:List C5) (x2:Int) (r:B5 × Int × C6) (h:qz x1 x2=some r):Fp 95 [ar bw x1,P6 x2] (bu [(ag).val r.1,P6 r.2.1,(ah).val r.2.2]):=by
 refine dt (rs:=[.cell 4 64,.tmp 5,.cell 6 97]) func95 rfl ntmps95 results95 dcd (fun s0=>?_)
 let p1:=B5.mk 0 [] [] 0 0 0 0 0 []
 let p2:=C6.mk 0 0
 unfold qz at h
 refine W_rs (br al64 fun b3=>kAs rfl (br al97 fun b4=>W_rs (kMv rfl (kAs rfl (W_rs (kMvL rfl (kMv rfl (c8 h (bp x1 x2 ([115,116,97,116,105,99]:Bt)) rfl fun x5 _ h=>kAs rfl ?_))))))))
 let p3:=E0 b3 ag p1
 refine bm (fun e C=>∃x7,lk x1 x2 x5 x7=some r/\At [(0,ar bw x1),(1,P6 x7),(4,Pr.pt b3 0),(6,Pr.pt b4 0),(7,P6 x2),(8,Pb x5)] [p3,E0 b4 ah p2] e C) ?_ ?_
 ·rintro e C ⟨x7,h,a⟩
  refine W_at a ?_
  unfold lk at h
  refine ba (W_rs (kMvL rfl (kMv rfl (c8 h (akn x1 x7) rfl fun x8 _ h=>kNo rfl ?_))))
  refine bc h rfl (fun _ h=>?_) (fun _ h=>?_)
  ·refine W_rs (kUn (ev a8 st64 rfl) ?_)
   refine kMv rfl (c8 h (cp x7) rfl fun x10 _ h=>au 0 rfl rfl (Upd.refl _) rfl sizeOf64 (kAs rfl (au 1 rfl rfl (Upd.refl _) rfl sizeOf97 ?_)))
   obtain rfl:=osj h
   exact bj ⟨rfl,[(ag).val p1,P6 0,(ah).val x10],⟨yBox 0 ty64 aa,yT aa,yBox 1 ty97 aa,tv⟩,aa⟩
  refine aw (ba (W_rs (kMvL rfl (kMv rfl (kIn rfl rfl rfl (c8 h (ka x1 (w64 (x7+1))) rfl fun x11 _ h=>kNo rfl ?_))))))
  refine bc h rfl (fun _ h=>?_) (fun _ h=>?_)
  ·refine W_rs (kUn (ev a8 st64 rfl) ?_)
   refine kMv rfl (kIn rfl rfl rfl (c8 h (cp (w64 (x7+1))) rfl fun x13 _ h=>au 0 rfl rfl (Upd.refl _) rfl sizeOf64 (kAs rfl (au 1 rfl rfl (Upd.refl _) rfl sizeOf97 ?_))))
   obtain rfl:=osj h
   exact bj ⟨rfl,[(ag).val p1,P6 0,(ah).val x13],⟨yBox 0 ty64 aa,yT aa,yBox 1 ty97 aa,tv⟩,aa⟩
  refine aw (W_rs (kMv rfl (kIn rfl rfl rfl (kAs rfl (W_rs (kAs rfl (W_rs (kAs rfl ?_))))))))
  refine agx [11] ag 64 (fun v14=>?_) ⟨rfl,tv⟩
  refine bm (fun e C=>∃x37,∃x38,∃x40,∃v39,qg x1 x2 x7 x5 x37 x38 x40=some r/\At [(0,ar bw x1),(1,P6 x7),(4,Pr.pt b3 0),(6,Pr.pt b4 0),(7,P6 x2),(8,Pb x5),(9,P6 x37),(10,P6 x38),(11,Pi v39)] [p3,E0 b4 ah p2,E3 v39 ag x40 64] e C) ?_ ?_
  ·rintro e C ⟨x37,x38,x40,v39,h,a⟩
   refine W_at a ?_
   unfold qg at h
   refine W_rs (kMvL rfl (kMvL rfl (kMv rfl (kMv rfl (kMv rfl (kMv rfl ?_))))))
   obtain⟨x41,k,h⟩:=aj h
   refine rRel 2 [11,99] ?_ rfl ⟨rfl,rfl,tv⟩
   refine kUn (dv (eg x1 x38 x2 x37 x40 _ k)) ?_
   refine kMv rfl (c8 h (ae5 x1 x41 x7) rfl fun x42 _ h=>?_)
   refine br al64 fun b43=>au 2 rfl rfl (Upd.refl _) rfl sizeOf64 ?_
   refine bm (fun e C=>∃x45,qh x37 x45=some r/\At [(4,Pr.pt b3 0),(6,Pr.pt b4 0),(9,P6 x37),(18,Pr.pt b43 0)] [p3,E0 b4 ah p2,E0 b43 ag x45] e C) ?_ ?_
   ·rintro e C ⟨x45,h,a⟩
    refine W_at a ?_
    unfold qh at h
    refine bm (fun e C=>∃x46,ub x45 x37 x46=some r/\At [(4,Pr.pt b3 0),(5,P6 x37),(6,Pr.pt b4 0)] [E0 b3 ag x45,E0 b4 ah x46,E0 b43 ag x45] e C) ?_ ?_
    ·rintro e C ⟨x46,h,a⟩
     refine W_at a ?_
     unfold ub at h
     obtain rfl:=osj h
     exact bj ⟨rfl,[(ag).val x45,P6 x37,(ah).val x46],⟨yBox 0 ty64 aa,yT aa,yBox 1 ty97 aa,tv⟩,aa⟩
    obtain⟨x46,k,h⟩:=aj h
    refine fo [(3,0,E0 b3 ag x45),(5,1,E0 b4 ah x46)] [E0 b3 ag x45,E0 b4 ah x46,E0 b43 ag x45] hmx kr kr (show([3,5]:List Nat).Nodup by decide) (show([0,1]:List Nat).Nodup by decide) rfl rfl ?_
    refine eql 2 ty64 (Sub.refl _) rfl rfl kr ?_
    refine eq1 (out:=P6 x37) (fun C2 hC=>gk) ?_
    refine eq1 (out:=(ah).val x46) (fun C2 hC=>(dv (da _ k))) ?_
    refine eqs 0 sizeOf64 (Upd.refl _) rfl rfl rfl kr ?_
    refine eq1 (out:=P6 x37) (fun C2 hC=>fw) ?_
    refine eqs 1 sizeOf97 (Upd.refl _) rfl rfl rfl kr ?_
    exact⟨x46,h,atOk⟩
   refine W_rs (kMv rfl ?_)
   refine bc h rfl (fun _ h=>?_) (fun _ h=>?_)
   ·refine W_r (kUn (ak ajg) ?_)
    refine au 2 rfl rfl ahk rfl sizeOf2 ?_
    exact⟨{x42 with N:=1},h,atOk⟩
   refine aw ?_
   exact⟨x42,h,atOk⟩
  refine ay (W_rs (kMvL rfl (kMv rfl (c8 h (bp x1 (w64 (x7+2)) ([59]:Bt)) rfl fun x15 _ h=>kAs rfl ?_))))
  refine bc h rfl (fun _ h=>?_) (fun _ h=>?_)
  ·refine ba (W_rs (kMvL rfl (kMv rfl (c8 h (bp x1 x7 ([118,111,105,100]:Bt)) rfl fun x17 _ h=>?_))))
   refine bc h rfl (fun _ h=>?_) (fun _ h=>?_)
   ·refine W_rs (kUn (ev a8 st64 rfl) ?_)
    refine kMv rfl (c8 h (cp (w64 (x7+2))) rfl fun x19 _ h=>au 0 rfl rfl (Upd.refl _) rfl sizeOf64 (kAs rfl (au 1 rfl rfl (Upd.refl _) rfl sizeOf97 ?_)))
    obtain rfl:=osj h
    exact bj ⟨rfl,[(ag).val p1,P6 0,(ah).val x19],⟨yBox 0 ty64 aa,yT aa,yBox 1 ty97 aa,tv⟩,aa⟩
   refine aw (W_r (kMv rfl (kIn rfl rfl rfl (kAs rfl ?_))))
   exact⟨w64 ((w64 (x7+2))+1),2,[],v14,h,atOk⟩
  refine W_rs (kMvL rfl (kMv rfl (c8 h (bp x1 (w64 (x7+2)) ([40]:Bt)) rfl fun x20 _ h=>kAs rfl ?_)))
  refine bc h rfl (fun _ h=>?_) (fun _ h=>?_)
  ·refine W_rs (kAs rfl (W_rs (kMvL rfl (kMv rfl (kIn rfl rfl rfl ?_)))))
   obtain⟨⟨x22,x23,x24⟩,k,h⟩:=aj h
   refine nw [] (apd x1 (w64 ((w64 (x7+2))+1)) _ k) (fun q C' hq=>?_)
   obtain⟨v25,rfl,rfl⟩:=hq
   refine kUn (hMv (out:=bu [Pi v25,P6 x23,(ah).val x24]) rfl) (kUn aq ?_)
   refine kUn aq ?_
   refine kUn aq ?_
   refine br al97 fun b26=>kAs rfl (kAs rfl (au 4 rfl rfl (Upd.refl _) rfl sizeOf97 (ba (W_rs (kUn (ak nf) ?_)))))
   let p4:=E0 b26 ah x24
   refine kUn (ax 4 ty3 cd) ?_
   refine kIn rfl rfl rfl ?_
   refine bc h rfl (fun _ h=>?_) (fun _ h=>?_)
   ·refine bm (fun e C=>ua x24=some r/\At [(4,Pr.pt b3 0),(5,P6 0),(6,Pr.pt b4 0)] [p3,E0 b4 ah x24,p4] e C) ?_ ?_
    ·rintro e C ⟨h,a⟩
     refine W_at a ?_
     unfold ua at h
     obtain rfl:=osj h
     exact bj ⟨rfl,[(ag).val p1,P6 0,(ah).val x24],⟨yBox 0 ty64 aa,yT aa,yBox 1 ty97 aa,tv⟩,aa⟩
    refine fo [(2,1,E0 b3 ag p1),(4,2,E0 b4 ah x24)] [E3 v25 ag x22 64,p3,E0 b4 ah x24,E3 v14 ag [] 64,p4] hmx kr kr (show([2,4]:List Nat).Nodup by decide) (show([1,2]:List Nat).Nodup by decide) rfl rfl ?_
    refine eq1 (out:=(ag).val p1) (fun C2 hC=>(ev a8 st64 rfl)) ?_
    refine eql 4 ty97 (Sub.refl _) rfl rfl kr ?_
    refine eqs 1 sizeOf64 (Upd.refl _) rfl rfl rfl kr ?_
    refine eq1 (out:=P6 0) (fun C2 hC=>fw) ?_
    refine eqs 2 sizeOf97 (Upd.refl _) rfl rfl rfl kr ?_
    exact⟨h,⟨⟨aa,aa,aa,tv⟩,A8.of [1,2,4] rfl⟩⟩
   refine aw (W_rs (kMvL rfl (kMv rfl ?_)))
   obtain⟨⟨x28,x29,x30⟩,k,h⟩:=aj h
   refine kUn (dv (ap7 x1 x23 1 _ k)) ?_
   refine kUn (hMv (out:=bu [(ag).val x28,P6 x29,(ah).val x30]) rfl) (kUn aq ?_)
   refine kUn aq ?_
   refine kUn aq ?_
   refine br al64 fun b31=>?_
   refine br al97 fun b32=>au 5 rfl rfl (Upd.refl _) rfl sizeOf64 (kAs rfl (au 6 rfl rfl (Upd.refl _) rfl sizeOf97 (ba (W_rs (kUn (ak nf) ?_)))))
   refine kUn (ax 6 ty3 cd) ?_
   refine kIn rfl rfl rfl ?_
   refine bc h rfl (fun _ h=>?_) (fun _ h=>?_)
   ·refine bm (fun e C=>t8 x30=some r/\At [(4,Pr.pt b3 0),(5,P6 0),(6,Pr.pt b4 0)] [p3,E0 b4 ah x30,p4,E0 b31 ag x28,E0 b32 ah x30] e C) ?_ ?_
    ·rintro e C ⟨h,a⟩
     refine W_at a ?_
     unfold t8 at h
     obtain rfl:=osj h
     exact bj ⟨rfl,[(ag).val p1,P6 0,(ah).val x30],⟨yBox 0 ty64 aa,yT aa,yBox 1 ty97 aa,tv⟩,aa⟩
    refine fo [(2,1,E0 b3 ag p1),(4,2,E0 b4 ah x30)] [E3 v25 ag x22 64,p3,E0 b4 ah x30,E3 v14 ag [] 64,p4,E0 b31 ag x28,E0 b32 ah x30] hmx kr kr (show([2,4]:List Nat).Nodup by decide) (show([1,2]:List Nat).Nodup by decide) rfl rfl ?_
    refine eq1 (out:=(ag).val p1) (fun C2 hC=>(ev a8 st64 rfl)) ?_
    refine eql 6 ty97 (Sub.refl _) rfl rfl kr ?_
    refine eqs 1 sizeOf64 (Upd.refl _) rfl rfl rfl kr ?_
    refine eq1 (out:=P6 0) (fun C2 hC=>fw) ?_
    refine eqs 2 sizeOf97 (Upd.refl _) rfl rfl rfl kr ?_
    exact⟨h,⟨⟨aa,aa,aa,tv⟩,A8.of [1,2,4,5,6] rfl⟩⟩
   refine aw (W_rs (kMv rfl (kUn (ax 5 ty64 (Sub.refl _)) ?_)))
   refine kUn (c5 (R:=ag) (a:=x28) el53 nb) ?_
   obtain⟨x34,k,h⟩:=aj h
   refine gq 0 el53 k (fun v35=>?_)
   refine kAs rfl (W_rs (kMv rfl (kAs rfl (W_r (kMv rfl (kAs rfl ?_))))))
   exact⟨x29,3,x34,v35,h,⟨⟨aa,aa,aa,aa,aa,aa,aa,aa,aa,tv⟩,A8.of [1,2,0] rfl⟩⟩
  refine W_rs (kUn (ev a8 st64 rfl) ?_)
  refine kMv rfl (c8 h (cp (w64 (x7+2))) rfl fun x36 _ h=>au 0 rfl rfl (Upd.refl _) rfl sizeOf64 (kAs rfl (au 1 rfl rfl (Upd.refl _) rfl sizeOf97 ?_)))
  obtain rfl:=osj h
  exact bj ⟨rfl,[(ag).val p1,P6 0,(ah).val x36],⟨yBox 0 ty64 aa,yT aa,yBox 1 ty97 aa,tv⟩,aa⟩
 refine W_rs (kMv rfl ?_)
 refine bc h rfl (fun _ h=>?_) (fun _ h=>?_)
 ·refine W_r (kMv rfl (kIn rfl rfl rfl (kAs rfl ?_)))
  exact⟨w64 (x2+1),h,atOk⟩
 refine aw ?_
 exact⟨x2,h,atOk⟩
theorem ap6 (x1:List C5) (x2:Int) (r:B5 × Int × C6) (h:ac6 x1 x2=some r):Fp 51 [ar bw x1,P6 x2] (bu [(ag).val r.1,P6 r.2.1,(ah).val r.2.2]):=by
 refine dt (rs:=[.cell 4 64,.tmp 5,.cell 6 97]) func51 rfl ntmps51 results51 dcd (fun s0=>?_)
 let p1:=B5.mk 0 [] [] 0 0 0 0 0 []
 let p2:=C6.mk 0 0
 unfold ac6 at h
 refine W_rs (br al64 fun b3=>kAs rfl (br al97 fun b4=>ba (W_rs (kMvL rfl (kMv rfl (c8 h (bp x1 x2 ([99,108,97,115,115]:Bt)) rfl fun x5 _ h=>kNo rfl ?_))))))
 let p3:=E0 b3 ag p1
 let p4:=E0 b4 ah p2
 refine bc h rfl (fun _ h=>?_) (fun _ h=>?_)
 ·refine W_rs (kUn (ev a8 st64 rfl) ?_)
  refine kMv rfl (c8 h (cp x2) rfl fun x7 _ h=>au 0 rfl rfl (Upd.refl _) rfl sizeOf64 (kAs rfl (au 1 rfl rfl (Upd.refl _) rfl sizeOf97 ?_)))
  obtain rfl:=osj h
  exact bj ⟨rfl,[(ag).val p1,P6 0,(ah).val x7],⟨yBox 0 ty64 aa,yT aa,yBox 1 ty97 aa,tv⟩,aa⟩
 refine aw (ba (W_rs (kMvL rfl (kMv rfl (kIn rfl rfl rfl (c8 h (ka x1 (w64 (x2+1))) rfl fun x8 _ h=>kNo rfl ?_))))))
 refine bc h rfl (fun _ h=>?_) (fun _ h=>?_)
 ·refine W_rs (kUn (ev a8 st64 rfl) ?_)
  refine kMv rfl (kIn rfl rfl rfl (c8 h (cp (w64 (x2+1))) rfl fun x10 _ h=>au 0 rfl rfl (Upd.refl _) rfl sizeOf64 (kAs rfl (au 1 rfl rfl (Upd.refl _) rfl sizeOf97 ?_))))
  obtain rfl:=osj h
  exact bj ⟨rfl,[(ag).val p1,P6 0,(ah).val x10],⟨yBox 0 ty64 aa,yT aa,yBox 1 ty97 aa,tv⟩,aa⟩
 refine aw (W_rs (kMv rfl (kIn rfl rfl rfl (kAs rfl (W_rs (kAs rfl ?_))))))
 refine bm (fun e C=>∃x16,∃x17,sb x1 x2 x16 x17=some r/\At [(0,ar bw x1),(1,P6 x2),(4,Pr.pt b3 0),(6,Pr.pt b4 0),(7,P6 x16),(8,P6 x17)] [p3,p4] e C) ?_ ?_
 ·rintro e C ⟨x16,x17,h,a⟩
  refine W_at a ?_
  unfold sb at h
  refine ba (W_rs (kMvL rfl (kMv rfl (c8 h (bp x1 x16 ([123]:Bt)) rfl fun x18 _ h=>kNo rfl ?_))))
  refine bc h rfl (fun _ h=>?_) (fun _ h=>?_)
  ·refine W_rs (kUn (ev a8 st64 rfl) ?_)
   refine kMv rfl (c8 h (cp x16) rfl fun x20 _ h=>au 0 rfl rfl (Upd.refl _) rfl sizeOf64 (kAs rfl (au 1 rfl rfl (Upd.refl _) rfl sizeOf97 ?_)))
   obtain rfl:=osj h
   exact bj ⟨rfl,[(ag).val p1,P6 0,(ah).val x20],⟨yBox 0 ty64 aa,yT aa,yBox 1 ty97 aa,tv⟩,aa⟩
  refine aw (W_rs (kMv rfl (kIn rfl rfl rfl (kAs rfl (W_rs (kAs rfl (ba (ay ?_))))))))
  obtain⟨z4l,hz4,h⟩:=aj h
  obtain⟨n4,hN4⟩:=bt hz4
  refine dl 0 (fun e C=>∃x21,∃x23,∃v22,vz x1 x2 x17 x21 x23=some r/\At [(0,ar bw x1),(1,P6 x2),(4,Pr.pt b3 0),(6,Pr.pt b4 0),(7,P6 x21),(8,P6 x17),(9,Pi v22)] [p3,p4,E3 v22 ag x23 64] e C) ?_ ?_
  ·rintro e C ⟨x21,x23,v22,h,a⟩
   refine W_at a ?_
   unfold vz at h
   refine W_rs (kMvL rfl (kMv rfl (kMv rfl (kIn rfl rfl rfl (kMv rfl ?_)))))
   obtain⟨x37,k,h⟩:=aj h
   refine rRel 2 [9,82] ?_ rfl ⟨rfl,rfl,tv⟩
   refine kUn (dv (eg x1 1 x2 (w64 (x21+1)) x23 _ k)) ?_
   refine br al64 fun b38=>au 2 rfl rfl (Upd.refl _) rfl sizeOf64 (W_rs (kMvL rfl (kMv rfl (kIn rfl rfl rfl ?_))))
   obtain⟨x39,k,h⟩:=aj h
   refine kUn (gu underlying41 sizeOf45 k) ?_
   refine kUn (gv zo fr) ?_
   refine kUn (dn ty9) ?_
   refine kUn (ak gz) ?_
   refine au 2 rfl rfl qd rfl sizeOf9 (W_rs (kMvL rfl (kMv rfl (kIn rfl rfl rfl ?_))))
   obtain⟨x40,k,h⟩:=aj h
   refine kUn (gu underlying41 sizeOf45 k) ?_
   refine kUn (gv aer jz) ?_
   refine kUn (dn ty3) ?_
   refine kUn (ak tf) ?_
   refine au 2 rfl rfl yh rfl sizeOf3 ?_
   refine bm (fun e C=>∃x44,wa x21 x44=some r/\At [(4,Pr.pt b3 0),(6,Pr.pt b4 0),(7,P6 x21),(13,Pr.pt b38 0)] [p3,p4,E0 b38 ag x44] e C) ?_ ?_
   ·rintro e C ⟨x44,h,a⟩
    refine W_at a ?_
    unfold wa at h
    refine bm (fun e C=>∃x45,aaz x44 x21 x45=some r/\At [(4,Pr.pt b3 0),(5,P6 (w64 (x21+1))),(6,Pr.pt b4 0)] [E0 b3 ag x44,E0 b4 ah x45,E0 b38 ag x44] e C) ?_ ?_
    ·rintro e C ⟨x45,h,a⟩
     refine W_at a ?_
     unfold aaz at h
     obtain rfl:=osj h
     exact bj ⟨rfl,[(ag).val x44,P6 (w64 (x21+1)),(ah).val x45],⟨yBox 0 ty64 aa,yT aa,yBox 1 ty97 aa,tv⟩,aa⟩
    obtain⟨x45,k,h⟩:=aj h
    refine fo [(4,0,E0 b3 ag x44),(6,1,E0 b4 ah x45)] [E0 b3 ag x44,E0 b4 ah x45,E0 b38 ag x44] hmx kr kr (show([4,6]:List Nat).Nodup by decide) (show([0,1]:List Nat).Nodup by decide) rfl rfl ?_
    refine eql 2 ty64 (Sub.refl _) rfl rfl kr ?_
    refine eq1 (out:=P6 x21) (fun C2 hC=>gk) ?_
    refine eq1 (out:=P6 (w64 (x21+1))) (fun C2 hC=>qInt) ?_
    refine eq1 (out:=(ah).val x45) (fun C2 hC=>(dv (da _ k))) ?_
    refine eqs 0 sizeOf64 (Upd.refl _) rfl rfl rfl kr ?_
    refine eq1 (out:=P6 (w64 (x21+1))) (fun C2 hC=>fw) ?_
    refine eqs 1 sizeOf97 (Upd.refl _) rfl rfl rfl kr ?_
    exact⟨x45,h,atOk⟩
   refine W_rs (kMv rfl (kIn rfl rfl rfl ?_))
   refine bc h rfl (fun _ h=>?_) (fun _ h=>?_)
   ·refine W_rs (kMvL rfl (kMv rfl ?_))
    obtain⟨x42,k,h⟩:=aj h
    refine kUn (gu underlying41 sizeOf45 k) ?_
    refine kUn (gv zo fr) ?_
    refine kUn (dn ty9) ?_
    refine kUn (ak zn) ?_
    refine au 2 rfl rfl ah3 rfl sizeOf9 (W_r (kMvL rfl (kMv rfl ?_)))
    obtain⟨x43,k,h⟩:=aj h
    refine kUn (gu underlying41 sizeOf45 k) ?_
    refine kUn (gv aer jz) ?_
    refine kUn (dn ty3) ?_
    refine kUn (ak anw) ?_
    refine au 2 rfl rfl afx rfl sizeOf3 ?_
    exact⟨{{{{x37 with Text:=x39.Text} with At:=x40.At} with Type_:=x42.Text} with TypeAt:=x43.At},h,atOk⟩
   refine aw ?_
   exact⟨{{x37 with Text:=x39.Text} with At:=x40.At},h,atOk⟩
  refine agx [9] ag 64 (fun v46=>?_) ⟨rfl,tv⟩
  refine fb (fun m e C=>∃x21,∃x23,∃v22,fp (fun s=>vw x1 s.1 s.2) m (x21,x23)=some z4l/\At [(0,ar bw x1),(1,P6 x2),(4,Pr.pt b3 0),(6,Pr.pt b4 0),(7,P6 x21),(8,P6 x17),(9,Pi v22)] [p3,p4,E3 v22 ag x23 64] e C) n4 ⟨w64 (x16+1),[],v46,hN4,⟨⟨aa,aa,aa,aa,aa,aa,aa,tv⟩,A8.refl _⟩⟩ ?_
  rintro m e C ⟨x21,x23,v22,hN4,a⟩
  refine W_at a ?_
  obtain⟨m4,w4l,rfl,h4l,hn4,ho4⟩:=bl hN4
  replace h4l:vw x1 x21 x23=some w4l:=h4l
  unfold vw at h4l
  refine ba (W_rs (kMvL rfl (kMv rfl (c8 h4l (bp x1 x21 ([125]:Bt)) rfl fun x27 _ h4l=>kNo rfl ?_))))
  refine bc h4l rfl (fun _ h4l=>?_) (fun _ h4l=>?_)
  ·refine aw (ay (W_rs (kMvL rfl (kMv rfl ?_))))
   obtain⟨⟨x29,x30,x31⟩,k,h4l⟩:=aj h4l
   refine kUn (dv (ape x1 x21 _ k)) ?_
   refine kUn (hMv (out:=bu [(ag).val x29,P6 x30,(ah).val x31]) rfl) (kUn aq ?_)
   refine kUn aq ?_
   refine kUn aq ?_
   refine br al64 fun b32=>?_
   refine br al97 fun b33=>au 3 rfl rfl (Upd.refl _) rfl sizeOf64 (kAs rfl (au 4 rfl rfl (Upd.refl _) rfl sizeOf97 (ba (W_rs (kUn (ak nf) ?_)))))
   refine kUn (ax 4 ty3 cd) ?_
   refine kIn rfl rfl rfl ?_
   refine bc h4l rfl (fun _ h4l=>?_) (fun _ h4l=>?_)
   ·refine bm (fun e C=>aay x31=some w4l/\At [(4,Pr.pt b3 0),(5,P6 0),(6,Pr.pt b4 0)] [p3,E0 b4 ah x31,E0 b32 ag x29,E0 b33 ah x31] e C) ?_ ?_
    ·rintro e C ⟨h4l,a⟩
     refine W_at a ?_
     unfold aay at h4l
     obtain rfl:=ho4 _ (ojs h4l)
     replace h:some (p1,0,x31)=some r:=h
     obtain rfl:=osj h
     exact bj ⟨rfl,[(ag).val p1,P6 0,(ah).val x31],⟨yBox 0 ty64 aa,yT aa,yBox 1 ty97 aa,tv⟩,aa⟩
    refine fo [(2,0,E0 b3 ag p1),(4,1,E0 b4 ah x31)] [p3,E0 b4 ah x31,E3 v22 ag x23 64,E0 b32 ag x29,E0 b33 ah x31] hmx kr kr (show([2,4]:List Nat).Nodup by decide) (show([0,1]:List Nat).Nodup by decide) rfl rfl ?_
    refine eq1 (out:=(ag).val p1) (fun C2 hC=>(ev a8 st64 rfl)) ?_
    refine eql 4 ty97 (Sub.refl _) rfl rfl kr ?_
    refine eqs 0 sizeOf64 (Upd.refl _) rfl rfl rfl kr ?_
    refine eq1 (out:=P6 0) (fun C2 hC=>fw) ?_
    refine eqs 1 sizeOf97 (Upd.refl _) rfl rfl rfl kr ?_
    exact⟨h4l,⟨⟨aa,aa,aa,tv⟩,A8.of [0,1,3,4] rfl⟩⟩
   refine aw (W_rs (kMv rfl (kUn (ax 3 ty64 (Sub.refl _)) ?_)))
   refine kUn (c5 (R:=ag) (a:=x29) el53 nb) ?_
   obtain⟨x35,k,h4l⟩:=aj h4l
   refine gq 2 el53 k (fun v36=>?_)
   refine kAs rfl (W_r (kMv rfl (kAs rfl ?_)))
   exact⟨m4,lsu,x30,x35,v36,hn4 _ (ojs h4l),⟨⟨aa,aa,aa,aa,aa,aa,aa,tv⟩,A8.of [0,1,2] rfl⟩⟩
  refine ep ?_
  obtain rfl:=ho4 _ (ojs h4l)
  exact⟨x21,x23,v22,h,atOk⟩
 refine W_rs (kMvL rfl (kMv rfl (c8 h (bp x1 (w64 (x2+2)) ([101,120,116,101,110,100,115]:Bt)) rfl fun x11 _ h=>?_)))
 refine bc h rfl (fun _ h=>?_) (fun _ h=>?_)
 ·refine ba (W_rs (kMvL rfl (kMv rfl (kIn rfl rfl rfl (c8 h (ka x1 (w64 ((w64 (x2+2))+1))) rfl fun x13 _ h=>kNo rfl ?_)))))
  refine bc h rfl (fun _ h=>?_) (fun _ h=>?_)
  ·refine W_rs (kUn (ev a8 st64 rfl) ?_)
   refine kMv rfl (kIn rfl rfl rfl (c8 h (cp (w64 ((w64 (x2+2))+1))) rfl fun x15 _ h=>au 0 rfl rfl (Upd.refl _) rfl sizeOf64 (kAs rfl (au 1 rfl rfl (Upd.refl _) rfl sizeOf97 ?_))))
   obtain rfl:=osj h
   exact bj ⟨rfl,[(ag).val p1,P6 0,(ah).val x15],⟨yBox 0 ty64 aa,yT aa,yBox 1 ty97 aa,tv⟩,aa⟩
  refine aw (W_rs (kMv rfl (kIn rfl rfl rfl (kAs rfl (W_r (kMv rfl (kIn rfl rfl rfl (kAs rfl ?_))))))))
  exact⟨w64 ((w64 (x2+2))+2),w64 ((w64 (x2+2))+1),h,atOk⟩
 refine aw ?_
 exact⟨w64 (x2+2),(-1),h,atOk⟩
theorem amx (x1:List C5) (x2:C6) (r:B3) (h:yk x1 x2=some r):Fp 52 [ar bw x1,(ah).val x2] ((az).val r):=by
 refine dt (rs:=[.cell 4 30]) func52 rfl ntmps52 results52 dcd (fun s0=>?_)
 unfold yk at h
 refine W_rs ?_
 refine rBox (R:=ah) (a:=x2) rfl (fun b3=>?_)
 refine br al30 fun b4=>?_
 refine bm (fun e C=>∃x5,wy x2 x5=some r/\At [(4,Pr.pt b4 0)] [E0 b3 ah x2,E0 b4 az (B3.mk x2.Code 0 x5.At)] e C) ?_ ?_
 ·rintro e C ⟨x5,h,a⟩
  refine W_at a ?_
  unfold wy at h
  obtain rfl:=osj h
  exact bj ⟨rfl,[(az).val (B3.mk x2.Code 0 x5.At)],⟨yBox 1 ty30 aa,tv⟩,aa⟩
 refine mh 13 hmx kr kr ?_
 refine lUn (ak fld97_1) ?_
 refine lUn (ax 0 ty28 aku) ?_
 refine lUn (hMvL rfl) (lUn (ak nf) ?_)
 refine lUn (ax 0 ty3 cd) ?_
 refine lUn (hMvL rfl) (lUn (ma rfl underlying41) ?_)
 refine lUn (qInt rfl rfl rfl) (lUn (qMin (a:=x2.Place) (b:=w64 ((x1.length:Int) - 1))) ?_)
 obtain⟨x5,k,h⟩:=aj h
 refine lUn (gu underlying41 sizeOf45 k) ?_
 refine lUn (gv aer jz) ?_
 refine lUn (dn ty3) ?_
 refine lUn (jh st30 ⟨(B3.mk x2.Code 0 0),⟨_,rfl,rfl,qbj⟩,⟨(B3.mk x2.Code 0 x5.At),⟨_,rfl,rfl,qbj⟩,rfl⟩⟩) ?_
 refine au 1 rfl rfl (Upd.refl _) rfl sizeOf30 ?_
 exact⟨x5,h,atOk⟩
def acb (R:i6):Prop:=(∀(x1:B5) (r:Int),R x1=some r->Fp 53 [(ag).val x1] (P6 r))
theorem ala (R:i6) (ih:acb R) (x1:B5) (r:Int) (h:yz R x1=some r):Fp 53 [(ag).val x1] (P6 r):=by
 refine dr (rs:=[2]) func53 rfl ntmps53 ⟨by decide,results53⟩ dcd (fun s0=>?_)
 unfold yz at h
 refine W_rs ?_
 refine rBox (R:=ag) (a:=x1) rfl (fun b2=>?_)
 refine kAs rfl (W_rs (kAs rfl (ba (W_rs (kAs rfl (ay ?_))))))
 obtain⟨z2l,hz2,h⟩:=aj h
 obtain⟨n2,hN2⟩:=bt hz2
 refine dl 0 (fun e C=>∃x3,aa3 R x3=some r/\At [(3,P6 x3)] [E0 b2 ag x1] e C) ?_ ?_
 ·rintro e C ⟨x3,h,a⟩
  refine W_at a ?_
  unfold aa3 at h
  refine W_rs (kMv rfl (kIn rfl rfl rfl (kAs rfl ?_)))
  obtain rfl:=osj h
  exact bj ⟨rfl,aa⟩
 refine fb (fun m e C=>∃x3,∃x4,fp (fun s=>we R x1 s.1 s.2) m (x3,x4)=some z2l/\At [(1,Pr.pt b2 0),(3,P6 x3),(4,P6 x4)] [E0 b2 ag x1] e C) n2 ⟨0,0,hN2,⟨⟨aa,aa,aa,tv⟩,A8.refl _⟩⟩ ?_
 rintro m e C ⟨x3,x4,hN2,a⟩
 refine W_at a ?_
 obtain⟨m2,w2l,rfl,h2l,hn2,ho2⟩:=bl hN2
 replace h2l:we R x1 x3 x4=some w2l:=h2l
 unfold we at h2l
 refine ba (W_rs (kMv rfl (kUn (ak q9) ?_)))
 refine kUn (ax 0 ty53 d6) ?_
 refine kUn (ma rfl underlying53) ?_
 refine kIn rfl rfl rfl ?_
 refine bc h2l rfl (fun _ h2l=>?_) (fun _ h2l=>?_)
 ·refine aw (ba (ay (W_r (kMv rfl (kUn (ak q9) ?_)))))
  refine kUn (ax 0 ty53 d6) ?_
  refine kMv rfl ?_
  obtain⟨x8,k,h2l⟩:=aj h2l
  refine kUn (gu underlying53 sizeOf64 k) ?_
  refine kUn (dn ty64) ?_
  refine c8 h2l (ih x8) rfl fun x9 _ h2l=>?_
  refine kUn (qMax (a:=x3) (b:=x9)) ?_
  refine kAs rfl (W_r (kMv rfl (kIn rfl rfl rfl (kAs rfl ?_))))
  exact⟨m2,lsu,(if x9>x3 then x9 else x3),w64 (x4+1),hn2 _ (ojs h2l),atOk⟩
 refine ep ?_
 obtain rfl:=ho2 _ (ojs h2l)
 exact⟨x3,h,atOk⟩
theorem aky :∀n,acb (oq n):=by
 intro n
 induction n with
 |zero=>exact(fun x1 r h=>nomatch (show none=some r from h))
 |succ n ih=>exact(fun x1 r h=>ala (oq n) ih x1 r h)
theorem ap9 (x1:B5) (r:Int) (h:aoo x1=some r):Fp 53 [(ag).val x1] (P6 r):=(aky 1048576) x1 r h
theorem ako (x1:Bt) (r:(List B5) × B3) (h:acx x1=some r):Fp 23 [Pr.str x1] (bu [ar ag r.1,(az).val r.2]):=by
 refine dt (rs:=[.tmp 2,.cell 3 30]) func23 rfl ntmps23 results23 dcd (fun s0=>?_)
 let p1:=B3.mk 0 0 0
 unfold acx at h
 refine W_rs (kAs rfl (br al30 fun b2=>W_rs (kMv rfl ?_)))
 let p2:=E0 b2 az p1
 obtain⟨⟨x3,x4,x5⟩,k,h⟩:=aj h
 refine kUn (dv (aub x1 _ k)) ?_
 refine kUn (hMv (out:=bu [ar bw x3,P6 x4,P6 x5]) rfl) (kUn aq ?_)
 refine kUn aq ?_
 refine kUn aq ?_
 refine kAsL rfl (kAs rfl (kAs rfl (ba (W_rs (kMv rfl (kIn rfl rfl rfl ?_))))))
 refine bc h rfl (fun _ h=>?_) (fun _ h=>?_)
 ·refine W_rs (kMv rfl (kMv rfl (kUn (jh st30 ⟨(B3.mk x5 0 0),⟨_,rfl,rfl,qbj⟩,⟨(B3.mk x5 0 x4),⟨_,rfl,rfl,qbj⟩,rfl⟩⟩) ?_)))
  refine kAs rfl (au 0 rfl rfl (Upd.refl _) rfl sizeOf30 ?_)
  obtain rfl:=osj h
  exact bj ⟨rfl,[ar ag [],(az).val (B3.mk x5 0 x4)],⟨yT (du _),yBox 0 ty30 aa,tv⟩,aa⟩
 refine aw (W_rs (kAs rfl (W_rs (kAs rfl (ba (ay ?_))))))
 obtain⟨z5l,hz5,h⟩:=aj h
 obtain⟨n5,hN5⟩:=bt hz5
 refine dl 0 (fun e C=>∃x9,∃v7,acm x9=some r/\At [(3,Pr.pt b2 0),(7,Pi v7)] [p2,E3 v7 ag x9 64] e C) ?_ ?_
 ·rintro e C ⟨x9,v7,h,a⟩
  refine W_at a ?_
  unfold acm at h
  refine ba (W_rs (kAs rfl (ay ?_)))
  obtain⟨z2l,hz2,h⟩:=aj h
  obtain⟨n2,hN2⟩:=bt hz2
  refine dl 2 (fun e C=>acn x9=some r/\At [(3,Pr.pt b2 0),(7,Pi v7)] [p2,E3 v7 ag x9 64] e C) ?_ ?_
  ·rintro e C ⟨h,a⟩
   refine W_at a ?_
   unfold acn at h
   refine W_rs (kMv rfl (kUn (jh st30 rfl) ?_))
   refine kAs rfl (au 0 rfl rfl (Upd.refl _) rfl sizeOf30 ?_)
   refine apq 1 [2] ?_ rfl ⟨rfl,tv⟩
   obtain rfl:=osj h
   exact bj ⟨rfl,[ar ag x9,(az).val p1],⟨yT aa,yBox 0 ty30 aa,tv⟩,aa⟩
  refine fb (fun m e C=>∃x24,fp (fun s=>yn x9 s) m x24=some z2l/\At [(3,Pr.pt b2 0),(7,Pi v7),(12,P6 x24)] [p2,E3 v7 ag x9 64] e C) n2 ⟨0,hN2,⟨⟨aa,aa,aa,tv⟩,A8.refl _⟩⟩ ?_
  rintro m e C ⟨x24,hN2,a⟩
  refine W_at a ?_
  obtain⟨m2,w2l,rfl,h2l,hn2,ho2⟩:=bl hN2
  replace h2l:yn x9 x24=some w2l:=h2l
  unfold yn at h2l
  refine ba (W_rs (kMv rfl (kMv rfl (kUn (ax1 1 rfl underlying53) ?_))))
  refine kIn rfl rfl rfl ?_
  refine bc h2l rfl (fun _ h2l=>?_) (fun _ h2l=>?_)
  ·refine aw (ba (ay (W_rs (kMv rfl (kMv rfl ?_)))))
   obtain⟨x27,k,h2l⟩:=aj h2l
   refine kUn (yf 1 (R:=ag) (l:=x9) underlying53 sizeOf64 k) ?_
   refine kUn (xp (R:=ag) (R':=ag) (l:=x9) (a:=x27) (o:=0) 1 ty64 (Sub.refl _) nb k rfl) ?_
   refine c8 h2l (ap9 x27) rfl fun x28 _ h2l=>kIn rfl rfl rfl ?_
   refine bc h2l rfl (fun _ h2l=>?_) (fun _ h2l=>?_)
   ·refine bm (fun e C=>∃x30,aco x30=some w2l/\At [(2,Pi (.slice none 0 0)),(3,Pr.pt b2 0)] [E0 b2 az (B3.mk 2 0 x30.From)] e C) ?_ ?_
    ·rintro e C ⟨x30,h2l,a⟩
     refine W_at a ?_
     unfold aco at h2l
     obtain rfl:=ho2 _ (ojs h2l)
     replace h:some ([],(B3.mk 2 0 x30.From))=some r:=h
     obtain rfl:=osj h
     exact bj ⟨rfl,[ar ag [],(az).val (B3.mk 2 0 x30.From)],⟨yT (du _),yBox 0 ty30 aa,tv⟩,aa⟩
    refine mh 7 hmx kr kr ?_
    refine lUn (hMvA rfl) (lUn (hMvA rfl) ?_)
    obtain⟨x30,k,h2l⟩:=aj h2l
    refine lUn (yf 1 (R:=ag) (l:=x9) underlying53 sizeOf64 k) ?_
    refine lUn (au5 ayy) ?_
    refine lUn (xp (R:=ag) (R':=Rp.int .i64) (l:=x9) (a:=x30) (o:=4) 1 ty3 ah4 nb k rfl) ?_
    refine lUn (jh st30 ⟨(B3.mk 2 0 0),⟨_,rfl,rfl,qbj⟩,⟨(B3.mk 2 0 x30.From),⟨_,rfl,rfl,qbj⟩,rfl⟩⟩) ?_
    refine lUn (hAsA rfl) (au 0 rfl rfl (Upd.refl _) rfl sizeOf30 ?_)
    exact⟨x30,h2l,⟨⟨aa,aa,tv⟩,A8.of [0] rfl⟩⟩
   refine aw (W_r (kMv rfl (kIn rfl rfl rfl (kAs rfl ?_))))
   exact⟨m2,lsu,w64 (x24+1),hn2 _ (ojs h2l),atOk⟩
  refine ep ?_
  obtain rfl:=ho2 _ (ojs h2l)
  exact⟨h,atOk⟩
 refine agx [7] ag 64 (fun v31=>?_) ⟨rfl,tv⟩
 refine fb (fun m e C=>∃x8,∃x9,∃v7,fp (fun s=>ym x3 s.1 s.2) m (x8,x9)=some z5l/\At [(3,Pr.pt b2 0),(4,ar bw x3),(7,Pi v7),(8,P6 x8)] [p2,E3 v7 ag x9 64] e C) n5 ⟨0,[],v31,hN5,⟨⟨aa,aa,aa,aa,tv⟩,A8.refl _⟩⟩ ?_
 rintro m e C ⟨x8,x9,v7,hN5,a⟩
 refine W_at a ?_
 obtain⟨m5,w5l,rfl,h5l,hn5,ho5⟩:=bl hN5
 replace h5l:ym x3 x8 x9=some w5l:=h5l
 unfold ym at h5l
 refine ba (W_rs (kMvL rfl (kMv rfl ?_)))
 obtain⟨x13,k,h5l⟩:=aj h5l
 refine kUn (gu underlying41 sizeOf45 k) ?_
 refine kUn (gv anz rl) ?_
 refine kUn (dn ty3) ?_
 refine kIn rfl rfl rfl ?_
 refine bc h5l rfl (fun _ h5l=>?_) (fun _ h5l=>?_)
 ·refine aw (ay (W_rs (kMvL rfl (kMv rfl ?_))))
  obtain⟨⟨x15,x16,x17⟩,k,h5l⟩:=aj h5l
  refine kUn (dv (ap6 x3 x8 _ k)) ?_
  refine kUn (hMv (out:=bu [(ag).val x15,P6 x16,(ah).val x17]) rfl) (kUn aq ?_)
  refine kUn aq ?_
  refine kUn aq ?_
  refine br al64 fun b18=>?_
  refine br al97 fun b19=>au 2 rfl rfl (Upd.refl _) rfl sizeOf64 (kAs rfl (au 3 rfl rfl (Upd.refl _) rfl sizeOf97 (ba (W_rs (kUn (ak nf) ?_)))))
  refine kUn (ax 3 ty3 cd) ?_
  refine kIn rfl rfl rfl ?_
  refine bc h5l rfl (fun _ h5l=>?_) (fun _ h5l=>?_)
  ·refine W_rs (kMvL rfl (kUn (ax 3 ty97 (Sub.refl _)) ?_))
   refine c8 h5l (amx x3 x17) rfl fun x21 _ h5l=>kAs rfl (au 0 rfl rfl (Upd.refl _) rfl sizeOf30 ?_)
   obtain rfl:=ho5 _ (ojs h5l)
   replace h:some ([],x21)=some r:=h
   obtain rfl:=osj h
   exact bj ⟨rfl,[ar ag [],(az).val x21],⟨yT (du _),yBox 0 ty30 aa,tv⟩,aa⟩
  refine aw (W_rs (kMv rfl (kUn (ax 2 ty64 (Sub.refl _)) ?_)))
  refine kUn (c5 (R:=ag) (a:=x15) el53 nb) ?_
  obtain⟨x22,k,h5l⟩:=aj h5l
  refine gq 1 el53 k (fun v23=>?_)
  refine kAs rfl (W_r (kMv rfl (kAs rfl ?_)))
  exact⟨m5,lsu,x16,x22,v23,hn5 _ (ojs h5l),⟨⟨aa,aa,aa,aa,tv⟩,A8.of [0,1] rfl⟩⟩
 refine ep ?_
 obtain rfl:=ho5 _ (ojs h5l)
 exact⟨x9,v7,h,atOk⟩
theorem aph (x1:List Bt) (r:(List (List B5)) × Bool) (h:abn x1=some r):Fp 12 [ar Rp.str x1] (bu [ar (Rp.list ag) r.1,Pb r.2]):=by
 refine dr (rs:=[2,3]) func12 rfl ntmps12 ⟨by decide,results12⟩ dcd (fun s0=>?_)
 unfold abn at h
 refine W_rs (kAs rfl (kAs rfl (W_rs (kAs rfl (ba (W_rs (kMvL rfl (kUn (ma rfl underlying22) ?_))))))))
 refine kIn rfl rfl rfl ?_
 refine bc h rfl (fun _ h=>?_) (fun _ h=>?_)
 ·refine W_rs (kAs rfl (kAs rfl ?_))
  obtain rfl:=osj h
  exact bj ⟨rfl,aqo ⟨du _,aa,tv⟩⟩
 refine aw (ba (W_rs (kAs rfl (ay ?_))))
 obtain⟨z2l,hz2,h⟩:=aj h
 obtain⟨n2,hN2⟩:=bt hz2
 refine dl 0 (fun e C=>∃x5,∃v3,za x5=some r/\At [(4,Pi v3)] [E3 v3 (Rp.list ag) x5 53] e C) ?_ ?_
 ·rintro e C ⟨x5,v3,h,a⟩
  refine W_at a ?_
  unfold za at h
  refine W_rs (kMv rfl (kAs rfl (kAs rfl ?_)))
  refine apq 0 [2] ?_ rfl ⟨rfl,tv⟩
  obtain rfl:=osj h
  exact bj ⟨rfl,aa⟩
 refine agx [4] (Rp.list ag) 53 (fun v19=>?_) ⟨rfl,tv⟩
 refine fb (fun m e C=>∃x4,∃x5,∃v3,fp (fun s=>qj x1 s.1 s.2) m (x4,x5)=some z2l/\At [(0,ar Rp.str x1),(4,Pi v3),(5,P6 x4)] [E3 v3 (Rp.list ag) x5 53] e C) n2 ⟨0,[],v19,hN2,⟨⟨aa,aa,aa,tv⟩,A8.refl _⟩⟩ ?_
 rintro m e C ⟨x4,x5,v3,hN2,a⟩
 refine W_at a ?_
 obtain⟨m2,w2l,rfl,h2l,hn2,ho2⟩:=bl hN2
 replace h2l:qj x1 x4 x5=some w2l:=h2l
 unfold qj at h2l
 refine ba (W_rs (kMv rfl (kMvL rfl (kUn (ma rfl underlying22) ?_))))
 refine kIn rfl rfl rfl ?_
 refine bc h2l rfl (fun _ h2l=>?_) (fun _ h2l=>?_)
 ·refine aw (ba (ay (ba (W_rs (kMvL rfl (kMv rfl ?_))))))
  obtain⟨x10,k,h2l⟩:=aj h2l
  refine kUn (gu underlying22 sizeOf9 k) ?_
  refine kUn (dn ty9) ?_
  refine kUn (ain rfl underlying9) ?_
  refine kIn rfl rfl rfl ?_
  refine bc h2l rfl (fun _ h2l=>?_) (fun _ h2l=>?_)
  ·refine W_rs (kAs rfl (kAs rfl ?_))
   obtain rfl:=ho2 _ (ojs h2l)
   replace h:some ([],false)=some r:=h
   obtain rfl:=osj h
   exact bj ⟨rfl,aqo ⟨du _,aa,tv⟩⟩
  refine aw (W_rs (kMvL rfl (kMv rfl ?_)))
  obtain⟨x12,k,h2l⟩:=aj h2l
  refine kUn (gu underlying22 sizeOf9 k) ?_
  refine kUn (dn ty9) ?_
  obtain⟨⟨x13,x14⟩,k,h2l⟩:=aj h2l
  refine kUn (dv (ako x12 _ k)) ?_
  refine kUn (hMv (out:=bu [ar ag x13,(az).val x14]) rfl) (kUn aq ?_)
  refine kUn aq ?_
  refine br al30 fun b15=>kAsL rfl (au 1 rfl rfl (Upd.refl _) rfl sizeOf30 (ba (W_rs (kUn (ak alq) ?_))))
  refine kUn (ax 1 ty28 lu) ?_
  refine kIn rfl rfl rfl ?_
  refine bc h2l rfl (fun _ h2l=>?_) (fun _ h2l=>?_)
  ·refine W_rs (kAs rfl (kAs rfl ?_))
   obtain rfl:=ho2 _ (ojs h2l)
   replace h:some ([],false)=some r:=h
   obtain rfl:=osj h
   exact bj ⟨rfl,aqo ⟨du _,aa,tv⟩⟩
  refine aw (W_r (kMv rfl (kMvL rfl (kUn (c5 (R:=Rp.list ag) (a:=x13) el24 nb) ?_))))
  obtain⟨x17,k,h2l⟩:=aj h2l
  refine gq 0 el24 k (fun v18=>?_)
  refine kAs rfl (W_r (kMv rfl (kIn rfl rfl rfl (kAs rfl ?_))))
  exact⟨m2,lsu,w64 (x4+1),x17,v18,hn2 _ (ojs h2l),⟨⟨aa,aa,aa,tv⟩,A8.of [0] rfl⟩⟩
 refine ep ?_
 obtain rfl:=ho2 _ (ojs h2l)
 exact⟨x5,v3,h,atOk⟩
end Go.Proofs.YtcndghapmoaidaaGreatDoor
