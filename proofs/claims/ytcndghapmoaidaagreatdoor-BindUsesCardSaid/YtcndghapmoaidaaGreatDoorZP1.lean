/- The code comes to what these functions say (printed by wip/gen/gen.py). -/
import Derived.Test.YtcndghapmoaidaaGreatDoorZX
import Derived.Test.YtcndghapmoaidaaGreatDoorZP
import Derived.Test.YtcndghapmoaidaaGreatDoorZT
set_option linter.unusedSimpArgs false
set_option linter.unusedVariables false
set_option linter.unusedSectionVars false
set_option linter.unusedSectionVars false
set_option maxRecDepth 100000
set_option maxHeartbeats 4000000
namespace Go.Proofs.YtcndghapmoaidaaGreatDoor
open Go Go.Cn Tryz
attribute [local irreducible] mq ao
theorem as2 (x1:List Int) (r:Int) (h:ag2 x1=some r):Fp 40 [ao (Rp.int .i64) x1] (P6 r):=by
 refine c8 (rs:=[2]) func40 rfl ntmps40 ⟨by decide,results40⟩ dcd (fun s0=>?_)
 unfold ag2 at h
 refine W_rs (kAs rfl (W_rs (kAs rfl (a6 (W_rs (kMvL rfl (kUn (jf rfl underlying126) ?_)))))))
 refine kMv rfl (az ?_)
 obtain⟨z2l,hz2,h⟩:=ag h
 obtain⟨n2,hN2⟩:=bm hz2
 refine cp 0 (fun e C=>adm=some r/\At [(3,P6 0)] [] e C) ?_ ?_
 ·rintro e C ⟨h,a⟩
  refine W_at a ?_
  unfold adm at h
  refine W_rs (kMv rfl (kAs rfl ?_))
  obtain rfl:=osj h
  exact a7 ⟨rfl,aa⟩
 refine dq (fun m e C=>∃x2,ez (fun s=>ii x1 s) m x2=some z2l/\At [(3,P6 0),(6,ao (Rp.int .i64) x1),(7,P6 (x1.length:Int)),(8,P6 x2)] [] e C) n2 ⟨0,hN2,⟨⟨aa,aa,aa,aa,tv⟩,A8.refl _⟩⟩ ?_
 rintro m e C ⟨x2,hN2,a⟩
 refine W_at a ?_
 obtain⟨m2,w2l,rfl,h2l,hn2,ho2⟩:=bc hN2
 replace h2l:ii x1 x2=some w2l:=h2l
 unfold ii at h2l
 refine W_rs (kIn rfl rfl rfl (a6 ?_))
 refine a5 h2l rfl (fun _ h2l=>?_) (fun _ h2l=>?_)
 ·refine au (a6 (az (W_rs ?_)))
  obtain⟨x5,k,h2l⟩:=ag h2l
  refine kUn (du underlying126 sizeOf3 k) ?_
  refine kUn (bz ty3) ?_
  refine kAs rfl (W_rs (kMv rfl (kMv rfl (kIn rfl rfl rfl ?_))))
  refine a5 h2l rfl (fun _ h2l=>?_) (fun _ h2l=>?_)
  ·refine W_rs (kMv rfl (kAs rfl ?_))
   obtain rfl:=ho2 _ (ojs h2l)
   replace h:some x5=some r:=h
   obtain rfl:=osj h
   exact a7 ⟨rfl,aa⟩
  refine au (W_r (kIn rfl rfl rfl (kMv rfl ?_)))
  exact⟨m2,lsu,w64 (x2+1),hn2 _ (ojs h2l),atOk⟩
 refine dp ?_
 obtain rfl:=ho2 _ (ojs h2l)
 exact⟨h,atOk⟩
theorem ahx (x1:Int) (r:Bool) (h:zg x1=some r):Fp 79 [P6 x1] (Pb r):=by
 refine c8 (rs:=[2]) func79 rfl ntmps79 ⟨by decide,results79⟩ dcd (fun s0=>?_)
 unfold zg at h
 refine W_rs (kAs rfl (W_rs (kMv rfl (kMv rfl (kIn rfl rfl rfl (kAs rfl ?_))))))
 obtain rfl:=osj h
 exact a7 ⟨rfl,aa⟩
theorem afm (x1 x2 r:Int) (h:re x1 x2=some r):Fp 41 [P6 x1,P6 x2] (P6 r):=by
 refine c8 (rs:=[4]) func41 rfl ntmps41 ⟨by decide,results41⟩ dcd (fun s0=>?_)
 unfold re at h
 refine W_rs (kAs rfl (W_rs (kMv rfl (cr h (ahx x1) rfl fun x3 _ h=>kAs rfl (W_rs (kMv rfl (cr h (ahx x2) rfl fun x4 _ h=>kAs rfl (a6 (W_rs ?_)))))))))
 refine kMv rfl ?_
 refine a5 h rfl (fun _ h=>?_) (fun _ h=>?_)
 ·refine a6 (W_rs (kMv rfl ?_))
  refine a5 h rfl (fun _ h=>?_) (fun _ h=>?_)
  ·refine W_rs (kAs rfl ?_)
   obtain rfl:=osj h
   exact a7 ⟨rfl,aa⟩
  refine au (W_rs (kAs rfl ?_))
  obtain rfl:=osj h
  exact a7 ⟨rfl,aa⟩
 refine au (a6 (W_rs (kMv rfl ?_)))
 refine a5 h rfl (fun _ h=>?_) (fun _ h=>?_)
 ·refine W_rs (kAs rfl ?_)
  obtain rfl:=osj h
  exact a7 ⟨rfl,aa⟩
 refine au (a6 (W_rs (kMv rfl (kMv rfl (kIn rfl rfl rfl ?_)))))
 refine a5 h rfl (fun _ h=>?_) (fun _ h=>?_)
 ·refine W_rs (kAs rfl ?_)
  obtain rfl:=osj h
  exact a7 ⟨rfl,aa⟩
 refine au (a6 (W_rs (kMv rfl (kMv rfl (kIn rfl rfl rfl ?_)))))
 refine a5 h rfl (fun _ h=>?_) (fun _ h=>?_)
 ·refine W_rs (kAs rfl ?_)
  obtain rfl:=osj h
  exact a7 ⟨rfl,aa⟩
 refine au (W_rs (kAs rfl ?_))
 obtain rfl:=osj h
 exact a7 ⟨rfl,aa⟩
theorem aql (x1 x2:B7) (r:Int) (h:yd x1 x2=some r):Fp 39 [(ak).val x1,(ak).val x2] (P6 r):=by
 refine c8 (rs:=[4]) func39 rfl ntmps39 ⟨by decide,results39⟩ dcd (fun s0=>?_)
 unfold yd at h
 refine W_rs ?_
 refine rBox (R:=ak) (a:=x1) rfl (fun b3=>?_)
 refine rBox (R:=ak) (a:=x2) rfl (fun b4=>?_)
 refine kAs rfl ?_
 refine ba (fun e C=>∃x7,abr x7=some r/\At [(4,P6 x7)] [D8 b3 ak x1,D8 b4 ak x2] e C) ?_ ?_
 ·rintro e C ⟨x7,h,a⟩
  refine W_at a ?_
  unfold abr at h
  obtain rfl:=osj h
  exact a7 ⟨rfl,aa⟩
 refine jg 13 hmx kr kr ?_
 refine lUn (aj aie) ?_
 refine lUn (ap 0 ty3 nd) ?_
 refine lUn (aj aie) ?_
 refine lUn (ap 1 ty3 nd) ?_
 obtain⟨x5,k,h⟩:=ag h
 refine lUn (c7 (afm x1.File x2.File _ k)) ?_
 refine lUn (aj amc) ?_
 refine lUn (ap 0 ty3 yr) ?_
 refine lUn (aj amc) ?_
 refine lUn (ap 1 ty3 yr) ?_
 obtain⟨x6,k,h⟩:=ag h
 refine lUn (c7 (afm x1.At x2.At _ k)) ?_
 refine lUn (np (R:=Rp.int .i64) (ls:=([x5,x6]:List Int)) el126 nb ⟨rfl,rfl⟩ ⟨rfl,rfl,tv⟩) ?_
 obtain⟨x7,k,h⟩:=ag h
 refine lUn (c7 (as2 ([x5,x6]:List Int) _ k)) ?_
 refine lUn (hAsA rfl) ?_
 exact⟨x7,h,atOk⟩
theorem ara (x1:List B7) (x2 x3:Int) (r:Bt × Bool) (h:amf x1 x2 x3=some r):Fp 15 [ao ak x1,P6 x2,P6 x3] (bj [Pr.str r.1,Pb r.2]):=by
 refine c8 (rs:=[6,7]) func15 rfl ntmps15 ⟨by decide,results15⟩ dcd (fun s0=>?_)
 unfold amf at h
 refine W_rs (kAs rfl (kAs rfl (a6 (W_rs (kMvL rfl (kUn (jf rfl underlying27) ?_))))))
 refine kMv rfl (az ?_)
 obtain⟨z2l,hz2,h⟩:=ag h
 obtain⟨n2,hN2⟩:=bm hz2
 refine cp 0 (fun e C=>amu=some r/\At [] [] e C) ?_ ?_
 ·rintro e C ⟨h,a⟩
  refine W_at a ?_
  unfold amu at h
  refine W_rs (kAs rfl (kAs rfl ?_))
  obtain rfl:=osj h
  exact a7 ⟨rfl,aa⟩
 refine dq (fun m e C=>∃x4,ez (fun s=>aal x1 x2 x3 s) m x4=some z2l/\At [(1,P6 x2),(2,P6 x3),(10,ao ak x1),(11,P6 (x1.length:Int)),(12,P6 x4)] [] e C) n2 ⟨0,hN2,⟨⟨aa,aa,aa,aa,aa,tv⟩,A8.refl _⟩⟩ ?_
 rintro m e C ⟨x4,hN2,a⟩
 refine W_at a ?_
 obtain⟨m2,w2l,rfl,h2l,hn2,ho2⟩:=bc hN2
 replace h2l:aal x1 x2 x3 x4=some w2l:=h2l
 unfold aal at h2l
 refine W_rs (kIn rfl rfl rfl (a6 ?_))
 refine a5 h2l rfl (fun _ h2l=>?_) (fun _ h2l=>?_)
 ·refine au (a6 (az (W_rs ?_)))
  obtain⟨x7,k,h2l⟩:=ag h2l
  refine kUn (du underlying27 sizeOf47 k) ?_
  refine kUn (bz ty47) ?_
  refine bg al47 fun b8=>am 0 rfl rfl (Upd.refl _) rfl sizeOf47 ?_
  refine ba (fun e C=>∃x10,ag4 x7 x4 x10=some w2l/\At [(1,P6 x2),(2,P6 x3),(9,Pr.pt b8 0),(10,ao ak x1),(11,P6 (x1.length:Int)),(12,P6 x4),(25,Pb x10)] [D8 b8 ak x7] e C) ?_ ?_
  ·rintro e C ⟨x10,h2l,a⟩
   refine W_at a ?_
   unfold ag4 at h2l
   refine a5 h2l rfl (fun _ h2l=>?_) (fun _ h2l=>?_)
   ·refine W_rs (kUn (aj an7) ?_)
    refine kUn (ap 0 ty9 abw) ?_
    refine kAs rfl (kAs rfl ?_)
    obtain rfl:=ho2 _ (ojs h2l)
    replace h:some (x7.Id,true)=some r:=h
    obtain rfl:=osj h
    exact a7 ⟨rfl,aa⟩
   refine au (W_r (kIn rfl rfl rfl (kMv rfl ?_)))
   exact⟨m2,lsu,w64 (x4+1),hn2 _ (ojs h2l),⟨⟨aa,aa,aa,aa,aa,tv⟩,A8.of [] rfl⟩⟩
  refine W_r (kUn (aj aie) ?_)
  refine kUn (ap 0 ty3 nd) ?_
  refine kMv rfl (kIn rfl rfl rfl (kMv rfl ?_))
  rcases bn h2l with⟨hc9,h2l⟩|⟨hc9,h2l⟩
  ·refine kGd rfl aa hc9 (aj amc) ?_
   refine kGd rfl aa hc9 (ap 0 ty3 yr) ?_
   refine kGd rfl aa hc9 (hMvA rfl) (kGd rfl aa hc9 (qInt rfl rfl rfl) (kPt rfl hc9 rfl ?_))
   exact⟨x7.At==x3,h2l,atOk⟩
  refine skx ?_
  refine kPf rfl hc9 rfl ?_
  exact⟨false,h2l,atOk⟩
 refine dp ?_
 obtain rfl:=ho2 _ (ojs h2l)
 exact⟨h,atOk⟩
theorem aq9 (x1:List B7) (x2:Bt) (r:(List B7)) (h:ame x1 x2=some r):Fp 18 [ao ak x1,Pr.str x2] (ao ak r):=by
 refine c8 (rs:=[4]) func18 rfl ntmps18 ⟨by decide,results18⟩ dcd (fun s0=>?_)
 unfold ame at h
 refine W_rs (kAs rfl (W_rs (kAs rfl (a6 (W_rs (kMvL rfl (kUn (jf rfl underlying27) ?_)))))))
 refine kMv rfl (az ?_)
 obtain⟨z2l,hz2,h⟩:=ag h
 obtain⟨n2,hN2⟩:=bm hz2
 refine cp 0 (fun e C=>∃x5,∃v3,ajh x5=some r/\At [(5,Pi v3)] [E1 v3 ak x5 47] e C) ?_ ?_
 ·rintro e C ⟨x5,v3,h,a⟩
  refine W_at a ?_
  unfold ajh at h
  refine W_rs (kMv rfl (kAs rfl ?_))
  refine aly 0 [4] ?_ rfl ⟨rfl,tv⟩
  obtain rfl:=osj h
  exact a7 ⟨rfl,aa⟩
 refine agk [5] ak 47 (fun v17=>?_) ⟨rfl,tv⟩
 refine dq (fun m e C=>∃x4,∃x5,∃v3,ez (fun s=>aak x1 x2 s.1 s.2) m (x4,x5)=some z2l/\At [(1,Pr.str x2),(5,Pi v3),(8,ao ak x1),(9,P6 (x1.length:Int)),(10,P6 x4)] [E1 v3 ak x5 47] e C) n2 ⟨0,[],v17,hN2,⟨⟨aa,aa,aa,aa,aa,tv⟩,A8.refl _⟩⟩ ?_
 rintro m e C ⟨x4,x5,v3,hN2,a⟩
 refine W_at a ?_
 obtain⟨m2,w2l,rfl,h2l,hn2,ho2⟩:=bc hN2
 replace h2l:aak x1 x2 x4 x5=some w2l:=h2l
 unfold aak at h2l
 refine W_rs (kIn rfl rfl rfl (a6 ?_))
 refine a5 h2l rfl (fun _ h2l=>?_) (fun _ h2l=>?_)
 ·refine au ?_
  refine ba (fun e C=>∃x16,∃x10,∃v15,∃b11,ag3 x4 x16 x10=some w2l/\At [(1,Pr.str x2),(5,Pi v15),(8,ao ak x1),(9,P6 (x1.length:Int)),(10,P6 x4)] [E1 v15 ak x16 47,D8 b11 ak x10] e C) ?_ ?_
  ·rintro e C ⟨x16,x10,v15,b11,h2l,a⟩
   refine W_at a ?_
   unfold ag3 at h2l
   refine W_r (kIn rfl rfl rfl (kMv rfl ?_))
   exact⟨m2,lsu,w64 (x4+1),x16,v15,hn2 _ (ojs h2l),⟨⟨aa,aa,aa,aa,aa,tv⟩,A8.of [0] rfl⟩⟩
  refine az (W_rs ?_)
  obtain⟨x10,k,h2l⟩:=ag h2l
  refine kUn (du underlying27 sizeOf47 k) ?_
  refine kUn (bz ty47) ?_
  refine bg al47 fun b11=>am 1 rfl rfl (Upd.refl _) rfl sizeOf47 (W_rs (kUn (aj an7) ?_))
  refine kUn (ap 1 ty9 abw) ?_
  refine kMv rfl (kSt rfl rfl rfl ?_)
  refine a5 h2l rfl (fun _ h2l=>?_) (fun _ h2l=>?_)
  ·refine W_r (kMv rfl (kUn (ap 1 ty47 (Sub.refl _)) ?_))
   refine kUn (cm (R:=ak) (a:=x10) el27 nb) ?_
   obtain⟨x13,k,h2l⟩:=ag h2l
   refine fp 0 el27 k (fun v14=>?_)
   refine kAs rfl ?_
   exact⟨x13,x10,v14,b11,h2l,atOk⟩
  refine au ?_
  exact⟨x5,x10,v3,b11,h2l,atOk⟩
 refine dp ?_
 obtain rfl:=ho2 _ (ojs h2l)
 exact⟨x5,v3,h,atOk⟩
theorem apc (x1:Int) (r:Bt) (h:abz x1=some r):Fp 137 [P6 x1] (Pr.str r):=by
 refine c8 (rs:=[2]) func137 rfl ntmps137 ⟨by decide,results137⟩ dcd (fun s0=>?_)
 unfold abz at h
 refine W_rs (kAs rfl (W_rs (kMv rfl (kUn (qMax (a:=x1) (b:=0)) ?_))))
 refine kAs rfl (W_rs (kAs rfl (az ?_)))
 obtain⟨n1,hN1⟩:=bm h
 refine dq (fun m e C=>∃x2,∃x3,ez (fun s=>nu s.1 s.2) m (x2,x3)=some r/\At [(0,P6 x2),(3,Pr.str x3)] [] e C) n1 ⟨(if 0>x1 then 0 else x1),[],hN1,⟨⟨aa,aa,tv⟩,A8.refl _⟩⟩ ?_
 rintro m e C ⟨x2,x3,hN1,a⟩
 refine W_at a ?_
 obtain⟨m1,w1l,rfl,h1l,hn1,ho1⟩:=bc hN1
 replace h1l:nu x2 x3=some w1l:=h1l
 unfold nu at h1l
 refine az (W_rs (kMv rfl (kUn (qRem (b:=10) dcd) ?_)))
 refine kIn rfl rfl rfl (kUn (ant underlying3 underlying5) ?_)
 refine kUn (cm (R:=Rp.int .u8) (a:=IntKind.wrap .u8 (w64 (48+(Int.tmod x2 10)))) el195 nb) ?_
 refine kUn (ayv (l:=([IntKind.wrap .u8 (w64 (48+(Int.tmod x2 10)))]:List Int)) underlying195 underlying9 underlying5) ?_
 refine kMv rfl ?_
 obtain⟨x6,k,h1l⟩:=ag h1l
 refine kUn (alv k) ?_
 refine kAs rfl (W_rs (kMv rfl (kUn (qDiv (b:=10) dcd) ?_)))
 refine kAs rfl (W_rs (kMv rfl (kIn rfl rfl rfl ?_)))
 refine a5 h1l rfl (fun _ h1l=>?_) (fun _ h1l=>?_)
 ·refine W_rs (kMv rfl (kAs rfl ?_))
  have h:some x6=some r:=congrArg some (ho1 _ (ojs h1l))
  obtain rfl:=osj h
  exact a7 ⟨rfl,aa⟩
 refine au ?_
 exact⟨m1,lsu,w64 (Int.tdiv x2 10),x6,hn1 _ (ojs h1l),atOk⟩
theorem af0 (x1:Bt) (x2:Int) (r:Bt) (h:pq x1 x2=some r):Fp 83 [Pr.str x1,P6 x2] (Pr.str r):=by
 refine c8 (rs:=[4]) func83 rfl ntmps83 ⟨by decide,results83⟩ dcd (fun s0=>?_)
 unfold pq at h
 refine W_rs (kAs rfl (W_rs (kMv rfl ?_)))
 obtain⟨x3,k,h⟩:=ag h
 refine kUn (alv k) ?_
 refine kMv rfl (cr h (apc x2) rfl fun x4 _ h=>?_)
 obtain⟨x5,k,h⟩:=ag h
 refine kUn (alv k) ?_
 refine kAs rfl ?_
 obtain rfl:=osj h
 exact a7 ⟨rfl,aa⟩
theorem aej (x1 x2:Bt) (r:Bt) (h:uj x1 x2=some r):Fp 84 [Pr.str x1,Pr.str x2] (Pr.str r):=by
 refine c8 (rs:=[4]) func84 rfl ntmps84 ⟨by decide,results84⟩ dcd (fun s0=>?_)
 unfold uj at h
 refine W_rs (kAs rfl (W_rs (kMv rfl ?_)))
 obtain⟨x3,k,h⟩:=ag h
 refine kUn (alv k) ?_
 refine kMv rfl ?_
 obtain⟨x4,k,h⟩:=ag h
 refine kUn (alv k) ?_
 obtain⟨x5,k,h⟩:=ag h
 refine kUn (alv k) ?_
 refine kAs rfl ?_
 obtain rfl:=osj h
 exact a7 ⟨rfl,aa⟩
theorem aj1 (x1 x2:Bt) (r:Bt) (h:aaq x1 x2=some r):Fp 85 [Pr.str x1,Pr.str x2] (Pr.str r):=by
 refine c8 (rs:=[4]) func85 rfl ntmps85 ⟨by decide,results85⟩ dcd (fun s0=>?_)
 unfold aaq at h
 refine W_rs (kAs rfl (W_rs (kMv rfl ?_)))
 obtain⟨x3,k,h⟩:=ag h
 refine kUn (alv k) ?_
 refine kMv rfl ?_
 obtain⟨x4,k,h⟩:=ag h
 refine kUn (alv k) ?_
 refine kAs rfl ?_
 obtain rfl:=osj h
 exact a7 ⟨rfl,aa⟩
def afk (R:iv):Prop:=(∀(x1:B5) (x2:Int) (r:(List B5)),R x1 x2=some r->Fp 86 [(af).val x1,P6 x2] (ao af r))
theorem anj (R:iv) (ih:afk R) (x1:B5) (x2:Int) (r:(List B5)) (h:aef R x1 x2=some r):Fp 86 [(af).val x1,P6 x2] (ao af r):=by
 refine c8 (rs:=[4]) func86 rfl ntmps86 ⟨by decide,results86⟩ dcd (fun s0=>?_)
 unfold aef at h
 refine W_rs ?_
 refine rBox (R:=af) (a:=x1) rfl (fun b3=>?_)
 let p1:=D8 b3 af x1
 refine kAs rfl (W_rs (kAs rfl ?_))
 refine agk [5] af 64 (fun v4=>?_) ⟨rfl,tv⟩
 refine ba (fun e C=>∃x11,∃v10,ab5 R x1 x2 x11=some r/\At [(1,P6 x2),(2,Pr.pt b3 0),(5,Pi v10)] [p1,E1 v10 af x11 64] e C) ?_ ?_
 ·rintro e C ⟨x11,v10,h,a⟩
  refine W_at a ?_
  unfold ab5 at h
  refine a6 (W_rs (kAs rfl (az ?_)))
  obtain⟨z2l,hz2,h⟩:=ag h
  obtain⟨n2,hN2⟩:=bm hz2
  refine cp 0 (fun e C=>∃x14,∃v12,ae9 R x14=some r/\At [(5,Pi v12)] [p1,E1 v12 af x14 64] e C) ?_ ?_
  ·rintro e C ⟨x14,v12,h,a⟩
   refine W_at a ?_
   unfold ae9 at h
   refine W_rs (kMv rfl (kAs rfl ?_))
   refine aly 1 [4] ?_ rfl ⟨rfl,tv⟩
   obtain rfl:=osj h
   exact a7 ⟨rfl,aa⟩
  refine dq (fun m e C=>∃x13,∃x14,∃v12,ez (fun s=>uk R x1 x2 s.1 s.2) m (x13,x14)=some z2l/\At [(1,P6 x2),(2,Pr.pt b3 0),(5,Pi v12),(6,P6 x13)] [p1,E1 v12 af x14 64] e C) n2 ⟨0,x11,v10,hN2,⟨⟨aa,aa,aa,aa,tv⟩,A8.refl _⟩⟩ ?_
  rintro m e C ⟨x13,x14,v12,hN2,a⟩
  refine W_at a ?_
  obtain⟨m2,w2l,rfl,h2l,hn2,ho2⟩:=bc hN2
  replace h2l:uk R x1 x2 x13 x14=some w2l:=h2l
  unfold uk at h2l
  refine a6 (W_rs (kMv rfl (kUn (aj kw) ?_)))
  refine kUn (ap 0 ty53 cn) ?_
  refine kUn (jf rfl underlying53) ?_
  refine kIn rfl rfl rfl ?_
  refine a5 h2l rfl (fun _ h2l=>?_) (fun _ h2l=>?_)
  ·refine au (a6 (az (W_r (kMv rfl (kUn (aj kw) ?_)))))
   refine kUn (ap 0 ty53 cn) ?_
   refine kMv rfl ?_
   obtain⟨x19,k,h2l⟩:=ag h2l
   refine kUn (du underlying53 sizeOf64 k) ?_
   refine kUn (bz ty64) ?_
   refine kMv rfl (cr h2l (ih x19 x2) rfl fun x20 _ h2l=>?_)
   obtain⟨x21,k,h2l⟩:=ag h2l
   refine fp 1 el53 k (fun v22=>?_)
   refine kAs rfl (W_r (kMv rfl (kIn rfl rfl rfl (kAs rfl ?_))))
   exact⟨m2,lsu,w64 (x13+1),x21,v22,hn2 _ (ojs h2l),atOk⟩
  refine dp ?_
  obtain rfl:=ho2 _ (ojs h2l)
  exact⟨x14,v12,h,atOk⟩
 refine ba (fun e C=>∃x6,ab4 R x1 x2 x6=some r/\At [(1,P6 x2),(2,Pr.pt b3 0),(5,Pi v4),(14,Pb x6)] [p1,E1 v4 af [] 64] e C) ?_ ?_
 ·rintro e C ⟨x6,h,a⟩
  refine W_at a ?_
  unfold ab4 at h
  refine a5 h rfl (fun _ h=>?_) (fun _ h=>?_)
  ·refine W_r (kMv rfl (kUn (ap 0 ty64 (Sub.refl _)) ?_))
   refine kUn (cm (R:=af) (a:=x1) el53 nb) ?_
   obtain⟨x8,k,h⟩:=ag h
   refine fp 1 el53 k (fun v9=>?_)
   refine kAs rfl ?_
   exact⟨x8,v9,h,atOk⟩
  refine au ?_
  exact⟨[],v4,h,atOk⟩
 refine W_r (kMv rfl (kIn rfl rfl rfl (kMv rfl ?_)))
 rcases bn h with⟨hc5,h⟩|⟨hc5,h⟩
 ·refine skx ?_
  refine kPt rfl hc5 rfl ?_
  exact⟨true,h,atOk⟩
 refine kGd rfl aa hc5 (aj e8) ?_
 refine kGd rfl aa hc5 (ap 0 ty3 a8) ?_
 refine kGd rfl aa hc5 (hMvA rfl) (kGd rfl aa hc5 (qInt rfl rfl rfl) (kPf rfl hc5 rfl ?_))
 exact⟨x1.Kind==x2,h,atOk⟩
theorem anh :∀n,afk (ou n):=by
 intro n
 induction n with
 |zero=>exact(fun x1 x2 r h=>nomatch (show none=some r from h))
 |succ n ih=>exact(fun x1 x2 r h=>anj (ou n) ih x1 x2 r h)
theorem at5 (x1:B5) (x2:Int) (r:(List B5)) (h:aog x1 x2=some r):Fp 86 [(af).val x1,P6 x2] (ao af r):=(anh 1048576) x1 x2 r h
theorem apb (x1:Bt) (x2:Int) (x3:B5) (r:(List A9)) (h:rm x1 x2 x3=some r):Fp 46 [Pr.str x1,P6 x2,(af).val x3] (ao ab r):=by
 refine c8 (rs:=[6]) func46 rfl ntmps46 ⟨by decide,results46⟩ dcd (fun s0=>?_)
 unfold rm at h
 refine W_rs ?_
 refine rBox (R:=af) (a:=x3) rfl (fun b4=>?_)
 let p1:=D8 b4 af x3
 refine kAs rfl (W_rs (kUn (aj ec) ?_))
 refine kUn (ap 0 ty9 bb) ?_
 refine kMv rfl (kUn (aj ti) ?_)
 refine kUn (ap 0 ty9 fj) ?_
 refine kUn (aj aia) ?_
 refine kUn (ap 0 ty2 abx) ?_
 refine kIn rfl rfl rfl (kMv rfl (kUn (aj mi) ?_))
 refine kUn (ap 0 ty3 fe) ?_
 refine kUn (fk ajv ⟨(D1.mk 0 [] x3.Text [] [] false (.slice none 0 0) 0 0),⟨_,rfl,rfl,qbj⟩,⟨(D1.mk 0 [] x3.Text x1 [] false (.slice none 0 0) 0 0),⟨_,rfl,rfl,qbj⟩,⟨(D1.mk 0 [] x3.Text x1 x3.Type_ false (.slice none 0 0) 0 0),⟨_,rfl,rfl,qbj⟩,⟨(D1.mk 0 [] x3.Text x1 x3.Type_ (x3.N==1) (.slice none 0 0) 0 0),⟨_,rfl,rfl,qbj⟩,⟨(D1.mk 0 [] x3.Text x1 x3.Type_ (x3.N==1) (.slice none 0 0) x2 0),⟨_,rfl,rfl,qbj⟩,⟨(D1.mk 0 [] x3.Text x1 x3.Type_ (x3.N==1) (.slice none 0 0) x2 x3.At),⟨_,rfl,rfl,qbj⟩,rfl⟩⟩⟩⟩⟩⟩) ?_
 refine bg al49 fun b5=>am 1 rfl rfl (Upd.refl _) rfl sizeOf49 (a6 (W_rs (kUn (aj e8) ?_)))
 refine kUn (ap 0 ty3 a8) ?_
 refine kIn rfl rfl rfl ?_
 refine a5 h rfl (fun _ h=>?_) (fun _ h=>?_)
 ·refine W_rs (kUn (aj ol) ?_)
  refine am 1 rfl rfl vt rfl sizeOf3 ?_
  refine rCtx [p1,D8 b5 bo (D1.mk 2 [] x3.Text x1 x3.Type_ (x3.N==1) (.slice none 0 0) x2 x3.At)] ?_
  refine W_rs (kMv rfl (kUn (aj ec) ?_))
  refine kUn (ap 0 ty9 bb) ?_
  refine cr h (aj1 x1 x3.Text) rfl fun x7 _ h=>?_
  let p2:=A9.mk 2 x7 x3.Text x1 x3.Type_ (x3.N==1) [] x2 x3.At
  refine kUn (aj ll) ?_
  refine am 1 rfl rfl z0 rfl sizeOf9 ?_
  refine rCtx [p1,D8 b5 bo (D1.mk 2 x7 x3.Text x1 x3.Type_ (x3.N==1) (.slice none 0 0) x2 x3.At)] ?_
  refine W_rs (kUn (ap 1 ty49 (Sub.refl _)) ?_)
  refine rEnv 34 (q:=ab.val p2) (st_le fun _=>⟨fl,fl,fl,fl,fl,fl,a02,fl,fl,tv⟩) ?_
  refine kUn (cm (R:=ab) (a:=p2) el38 nb) ?_
  refine kAsL rfl ?_
  obtain rfl:=osj h
  exact a7 ⟨rfl,aa⟩
 refine au (W_rs (kUn (aj ol) ?_))
 refine am 1 rfl rfl vt rfl sizeOf3 ?_
 refine rCtx [p1,D8 b5 bo (D1.mk 3 [] x3.Text x1 x3.Type_ (x3.N==1) (.slice none 0 0) x2 x3.At)] ?_
 refine W_rs (kMv rfl (kUn (aj ec) ?_))
 refine kUn (ap 0 ty9 bb) ?_
 refine cr h (aej x1 x3.Text) rfl fun x8 _ h=>?_
 let p3:=D8 b5 bo (D1.mk 3 x8 x3.Text x1 x3.Type_ (x3.N==1) (.slice none 0 0) x2 x3.At)
 refine kUn (aj ll) ?_
 refine am 1 rfl rfl z0 rfl sizeOf9 ?_
 refine rCtx [p1,p3] ?_
 refine W_rs (kAs rfl (W_rs (kUn (ap 0 ty64 (Sub.refl _)) ?_)))
 refine cr h (at5 x3 0) rfl fun x9 _ h=>kAsL rfl (a6 (W_rs (kAs rfl (az ?_))))
 obtain⟨z5l,hz5,h⟩:=ag h
 obtain⟨n5,hN5⟩:=bm hz5
 refine cp 0 (fun e C=>∃x12,∃v10,zp x3 x8 x1 x2 x12=some r/\At [(5,Pr.pt b4 0),(7,Pr.pt b5 0),(8,Pi v10)] [p1,p3,E1 v10 ab x12 49] e C) ?_ ?_
 ·rintro e C ⟨x12,v10,h,a⟩
  let p4:=E1 v10 ab x12 49
  refine W_at a ?_
  unfold zp at h
  refine a6 (W_rs (kAs rfl (az ?_)))
  obtain⟨z2l,hz2,h⟩:=ag h
  obtain⟨n2,hN2⟩:=bm hz2
  refine cp 2 (fun e C=>∃x29,∃v28,zq x8 x3 x1 x2 x12 x29=some r/\At [(7,Pr.pt b5 0),(8,Pi v10)] [p1,D8 b5 bo (D1.mk 3 x8 x3.Text x1 x3.Type_ (x3.N==1) v28 x2 x3.At),p4,E1 v28 Rp.str x29 9] e C) ?_ ?_
  ·rintro e C ⟨x29,v28,h,a⟩
   let p5:=A9.mk 3 x8 x3.Text x1 x3.Type_ (x3.N==1) x29 x2 x3.At
   refine W_at a ?_
   unfold zq at h
   refine W_rs (kUn (ap 1 ty49 (Sub.refl _)) ?_)
   refine rRelS 3 105 [] (q:=ab.val p5) (fun _ _ hl=>FLe.val ⟨fl,fl,fl,fl,fl,fl,(a03 hl),fl,fl,tv⟩) ?_ rfl trivial
   refine arl (R:=ab) (ls:=([p5]:List A9)) el38 nb ⟨rfl,rfl⟩ ⟨rfl,tv⟩ (fun v41=>?_)
   refine kMv rfl ?_
   obtain⟨x42,k,h⟩:=ag h
   refine rRel 2 [8,107] ?_ rfl ⟨rfl,rfl,tv⟩
   refine fp 2 el38 k (fun v43=>?_)
   refine kAs rfl ?_
   refine aly 2 [6] ?_ rfl ⟨rfl,tv⟩
   obtain rfl:=osj h
   exact a7 ⟨rfl,aa⟩
  refine axl Rp.str 9 ?_
  refine dq (fun m e C=>∃x27,∃x29,∃v28,ez (fun s=>ln x3 s.1 s.2) m (x27,x29)=some z2l/\At [(5,Pr.pt b4 0),(7,Pr.pt b5 0),(8,Pi v10),(12,P6 x27)] [p1,D8 b5 bo (D1.mk 3 x8 x3.Text x1 x3.Type_ (x3.N==1) v28 x2 x3.At),p4,E1 v28 Rp.str x29 9] e C) n2 ⟨0,[],(.slice none 0 0),hN2,⟨⟨aa,aa,aa,aa,tv⟩,A8.refl _⟩⟩ ?_
  rintro m e C ⟨x27,x29,v28,hN2,a⟩
  let p6:=D1.mk 3 x8 x3.Text x1 x3.Type_ (x3.N==1) v28 x2 x3.At
  refine W_at a ?_
  obtain⟨m2,w2l,rfl,h2l,hn2,ho2⟩:=bc hN2
  replace h2l:ln x3 x27 x29=some w2l:=h2l
  unfold ln at h2l
  refine a6 (W_rs (kMv rfl (kUn (aj kw) ?_)))
  refine kUn (ap 0 ty53 cn) ?_
  refine kUn (jf rfl underlying53) ?_
  refine kIn rfl rfl rfl ?_
  refine a5 h2l rfl (fun _ h2l=>?_) (fun _ h2l=>?_)
  ·refine au ?_
   refine ba (fun e C=>∃x40,∃v39,uu x27 x40=some w2l/\At [(5,Pr.pt b4 0),(7,Pr.pt b5 0),(8,Pi v10),(12,P6 x27)] [p1,D8 b5 bo (D1.mk 3 x8 x3.Text x1 x3.Type_ (x3.N==1) v39 x2 x3.At),p4,E1 v39 Rp.str x40 9] e C) ?_ ?_
   ·rintro e C ⟨x40,v39,h2l,a⟩
    refine W_at a ?_
    unfold uu at h2l
    refine W_r (kMv rfl (kIn rfl rfl rfl (kAs rfl ?_)))
    exact⟨m2,lsu,w64 (x27+1),x40,v39,hn2 _ (ojs h2l),atOk⟩
   refine az (W_rs (kUn (aj kw) ?_))
   refine kUn (ap 0 ty53 cn) ?_
   refine kMv rfl ?_
   obtain⟨x34,k,h2l⟩:=ag h2l
   refine kUn (du underlying53 sizeOf64 k) ?_
   refine kUn (dv e8 a8) ?_
   refine kUn (bz ty3) ?_
   refine kIn rfl rfl rfl ?_
   refine a5 h2l rfl (fun _ h2l=>?_) (fun _ h2l=>?_)
   ·refine jg 9 hmx kr kr ?_
    refine lUn (aj aib) ?_
    refine lUn (w8 (R:=bo) (a:=p6) 1 ty22 aad) ?_
    refine lUn (aj kw) ?_
    refine lUn (ap 0 ty53 cn) ?_
    refine lUn (hMvA rfl) ?_
    obtain⟨x36,k,h2l⟩:=ag h2l
    refine lUn (du underlying53 sizeOf64 k) ?_
    refine lUn (dv ti fj) ?_
    refine lUn (bz ty9) ?_
    refine lUn (cm (R:=Rp.str) (a:=x36.Type_) el22 nb) ?_
    obtain⟨x37,k,h2l⟩:=ag h2l
    refine fp 3 el22 k (fun v38=>?_)
    refine kUn (aj aib) ?_
    refine agq (R:=bo) (a:=p6) 1 3 sizeOf22 aab ?_
    refine rCtx [p1,D8 b5 bo (D1.mk 3 x8 x3.Text x1 x3.Type_ (x3.N==1) v38 x2 x3.At),p4,E1 v38 Rp.str x37 9] ?_
    exact⟨x37,v38,h2l,atOk⟩
   refine au ?_
   exact⟨x29,v28,h2l,atOk⟩
  refine dp ?_
  obtain rfl:=ho2 _ (ojs h2l)
  exact⟨x29,v28,h,atOk⟩
 refine agk [8] ab 49 (fun v44=>?_) ⟨rfl,tv⟩
 refine dq (fun m e C=>∃x11,∃x12,∃v10,ez (fun s=>lm x9 x8 x2 s.1 s.2) m (x11,x12)=some z5l/\At [(1,P6 x2),(5,Pr.pt b4 0),(7,Pr.pt b5 0),(8,Pi v10),(9,ao af x9),(10,P6 x11)] [p1,p3,E1 v10 ab x12 49] e C) n5 ⟨0,[],v44,hN5,⟨⟨aa,aa,aa,aa,aa,aa,tv⟩,A8.refl _⟩⟩ ?_
 rintro m e C ⟨x11,x12,v10,hN5,a⟩
 refine W_at a ?_
 obtain⟨m5,w5l,rfl,h5l,hn5,ho5⟩:=bc hN5
 replace h5l:lm x9 x8 x2 x11 x12=some w5l:=h5l
 unfold lm at h5l
 refine a6 (W_rs (kMv rfl (kMvL rfl (kUn (jf rfl underlying53) ?_))))
 refine kIn rfl rfl rfl ?_
 refine a5 h5l rfl (fun _ h5l=>?_) (fun _ h5l=>?_)
 ·refine au ?_
  refine ba (fun e C=>∃x26,∃x17,∃v25,∃b18,ut x11 x26 x17=some w5l/\At [(1,P6 x2),(5,Pr.pt b4 0),(7,Pr.pt b5 0),(8,Pi v25),(9,ao af x9),(10,P6 x11)] [p1,p3,E1 v25 ab x26 49,D8 b18 af x17] e C) ?_ ?_
  ·rintro e C ⟨x26,x17,v25,b18,h5l,a⟩
   refine W_at a ?_
   unfold ut at h5l
   refine W_r (kMv rfl (kIn rfl rfl rfl (kAs rfl ?_)))
   exact⟨m5,lsu,w64 (x11+1),x26,v25,hn5 _ (ojs h5l),⟨⟨aa,aa,aa,aa,aa,aa,tv⟩,A8.of [0,1,2] rfl⟩⟩
  refine az (W_rs (kMvL rfl (kMv rfl ?_)))
  obtain⟨x17,k,h5l⟩:=ag h5l
  refine kUn (du underlying53 sizeOf64 k) ?_
  refine kUn (bz ty64) ?_
  refine bg al64 fun b18=>am 3 rfl rfl (Upd.refl _) rfl sizeOf64 ?_
  refine ba (fun e C=>∃x20,q9 x8 x12 x17 x2 x11 x20=some w5l/\At [(1,P6 x2),(5,Pr.pt b4 0),(7,Pr.pt b5 0),(8,Pi v10),(9,ao af x9),(10,P6 x11),(11,Pr.pt b18 0),(61,Pb x20)] [p1,p3,E1 v10 ab x12 49,D8 b18 af x17] e C) ?_ ?_
  ·rintro e C ⟨x20,h5l,a⟩
   refine W_at a ?_
   unfold q9 at h5l
   refine a5 h5l rfl (fun _ h5l=>?_) (fun _ h5l=>?_)
   ·refine jg 17 hmx kr kr ?_
    refine lUn (hMvA rfl) (lUn (aj ll) ?_)
    refine lUn (ap 1 ty9 tn) ?_
    refine lUn (hMvA rfl) (lUn (awk 2 rfl underlying38) ?_)
    obtain⟨x22,k,h5l⟩:=ag h5l
    let p7:=A9.mk 4 x22 x17.Text x8 x17.Type_ false [] x2 x17.At
    refine lUn (c7 (af0 x8 (x12.length:Int) _ k)) ?_
    refine lUn (aj ec) ?_
    refine lUn (ap 3 ty9 bb) ?_
    refine lUn (aj ll) ?_
    refine lUn (ap 1 ty9 tn) ?_
    refine lUn (aj ti) ?_
    refine lUn (ap 3 ty9 fj) ?_
    refine lUn (hMvA rfl) (lUn (aj mi) ?_)
    refine lUn (ap 3 ty3 fe) ?_
    refine lUn (fk st49 ⟨(A9.mk 4 [] [] [] [] false [] 0 0),⟨_,rfl,rfl,qbj⟩,⟨(A9.mk 4 x22 [] [] [] false [] 0 0),⟨_,rfl,rfl,qbj⟩,⟨(A9.mk 4 x22 x17.Text [] [] false [] 0 0),⟨_,rfl,rfl,qbj⟩,⟨(A9.mk 4 x22 x17.Text x8 [] false [] 0 0),⟨_,rfl,rfl,qbj⟩,⟨(A9.mk 4 x22 x17.Text x8 x17.Type_ false [] 0 0),⟨_,rfl,rfl,qbj⟩,⟨(A9.mk 4 x22 x17.Text x8 x17.Type_ false [] x2 0),⟨_,rfl,rfl,qbj⟩,⟨p7,⟨_,rfl,rfl,qbj⟩,rfl⟩⟩⟩⟩⟩⟩⟩) ?_
    refine lUn (cm (R:=ab) (a:=p7) el38 nb) ?_
    obtain⟨x23,k,h5l⟩:=ag h5l
    refine fp 2 el38 k (fun v24=>?_)
    refine kAs rfl ?_
    exact⟨x23,x17,v24,b18,h5l,atOk⟩
   refine au ?_
   exact⟨x12,x17,v10,b18,h5l,atOk⟩
  refine W_r (kUn (aj e8) ?_)
  refine kUn (ap 3 ty3 a8) ?_
  refine kIn rfl rfl rfl (kMv rfl ?_)
  rcases bn h5l with⟨hc19,h5l⟩|⟨hc19,h5l⟩
  ·refine skx ?_
   refine kPt rfl hc19 rfl ?_
   exact⟨true,h5l,atOk⟩
  refine kGd rfl aa hc19 (aj e8) ?_
  refine kGd rfl aa hc19 (ap 3 ty3 a8) ?_
  refine kGd rfl aa hc19 (qInt rfl rfl rfl) (kPf rfl hc19 rfl ?_)
  exact⟨x17.Kind==6,h5l,atOk⟩
 refine dp ?_
 obtain rfl:=ho5 _ (ojs h5l)
 exact⟨x12,v10,h,atOk⟩
theorem ajy (x1:List A9) (r:Int) (h:aao x1=some r):Fp 47 [ao ab x1] (P6 r):=by
 refine c8 (rs:=[2]) func47 rfl ntmps47 ⟨by decide,results47⟩ dcd (fun s0=>?_)
 unfold aao at h
 refine W_rs (kAs rfl (a6 (W_rs (kAs rfl (az ?_)))))
 obtain⟨z2l,hz2,h⟩:=ag h
 obtain⟨n2,hN2⟩:=bm hz2
 refine cp 0 (fun e C=>aa0=some r/\At [] [] e C) ?_ ?_
 ·rintro e C ⟨h,a⟩
  refine W_at a ?_
  unfold aa0 at h
  refine W_rs (kAs rfl ?_)
  obtain rfl:=osj h
  exact a7 ⟨rfl,aa⟩
 refine dq (fun m e C=>∃x2,ez (fun s=>ne x1 s) m x2=some z2l/\At [(0,ao ab x1),(3,P6 x2)] [] e C) n2 ⟨0,hN2,⟨⟨aa,aa,tv⟩,A8.refl _⟩⟩ ?_
 rintro m e C ⟨x2,hN2,a⟩
 refine W_at a ?_
 obtain⟨m2,w2l,rfl,h2l,hn2,ho2⟩:=bc hN2
 replace h2l:ne x1 x2=some w2l:=h2l
 unfold ne at h2l
 refine a6 (W_rs (kMv rfl (kMvL rfl (kUn (jf rfl underlying38) ?_))))
 refine kIn rfl rfl rfl ?_
 refine a5 h2l rfl (fun _ h2l=>?_) (fun _ h2l=>?_)
 ·refine au (a6 (az (W_rs (kAs rfl (az ?_)))))
  obtain⟨z4l,hz4,h2l⟩:=ag h2l
  obtain⟨n4,hN4⟩:=bm hz4
  refine cp 2 (fun e C=>aaz x2=some w2l/\At [(0,ao ab x1),(3,P6 x2)] [] e C) ?_ ?_
  ·rintro e C ⟨h2l,a⟩
   refine W_at a ?_
   unfold aaz at h2l
   refine W_r (kMv rfl (kIn rfl rfl rfl (kAs rfl ?_)))
   exact⟨m2,lsu,w64 (x2+1),hn2 _ (ojs h2l),atOk⟩
  refine dq (fun m e C=>∃x5,ez (fun s=>qd x2 x1 s) m x5=some z4l/\At [(0,ao ab x1),(3,P6 x2),(4,P6 x5)] [] e C) n4 ⟨0,hN4,⟨⟨aa,aa,aa,tv⟩,A8.refl _⟩⟩ ?_
  rintro m e C ⟨x5,hN4,a⟩
  refine W_at a ?_
  obtain⟨m4,w4l,rfl,h4l,hn4,ho4⟩:=bc hN4
  replace h4l:qd x2 x1 x5=some w4l:=h4l
  unfold qd at h4l
  refine a6 (W_rs (kMv rfl (kMv rfl (kIn rfl rfl rfl ?_))))
  refine a5 h4l rfl (fun _ h4l=>?_) (fun _ h4l=>?_)
  ·refine au (a6 (az ?_))
   refine ba (fun e C=>∃x30,qe x2 x5 x30=some w4l/\At [(0,ao ab x1),(3,P6 x2),(4,P6 x5),(60,Pb x30)] [] e C) ?_ ?_
   ·rintro e C ⟨x30,h4l,a⟩
    refine W_at a ?_
    unfold qe at h4l
    refine a5 h4l rfl (fun _ h4l=>?_) (fun _ h4l=>?_)
    ·refine W_rs (kMv rfl (kAs rfl ?_))
     obtain rfl:=ho4 _ (ojs h4l)
     replace h2l:some (.inr (.done x2))=some w2l:=h2l
     obtain rfl:=ho2 _ (ojs h2l)
     replace h:some x2=some r:=h
     obtain rfl:=osj h
     exact a7 ⟨rfl,aa⟩
    refine au (W_r (kMv rfl (kIn rfl rfl rfl (kAs rfl ?_))))
    exact⟨m4,lsu,w64 (x5+1),hn4 _ (ojs h4l),atOk⟩
   refine jg 45 hmx kr kr ?_
   refine lUn (hMvL rfl) (lUn (hMvA rfl) ?_)
   obtain⟨x8,k,h4l⟩:=ag h4l
   refine lUn (du underlying38 sizeOf49 k) ?_
   refine lUn (dv ol db) ?_
   refine lUn (bz ty3) ?_
   refine lUn (qInt rfl rfl rfl) (lUn (hMvA rfl) ?_)
   rcases bn h4l with⟨hc9,h4l⟩|⟨hc9,h4l⟩
   ·refine lGd rfl aa hc9 (hMvL rfl) (lGd rfl aa hc9 (hMvA rfl) ?_)
    obtain⟨x10,k,h4l⟩:=ag h4l
    refine lGd rfl aa hc9 (du underlying38 sizeOf49 k) ?_
    refine lGd rfl aa hc9 (dv ol db) ?_
    refine lGd rfl aa hc9 (bz ty3) ?_
    refine lGd rfl aa hc9 (hMvL rfl) (lGd rfl aa hc9 (hMvA rfl) ?_)
    obtain⟨x11,k,h4l⟩:=ag h4l
    refine lGd rfl aa hc9 (du underlying38 sizeOf49 k) ?_
    refine lGd rfl aa hc9 (dv ol db) ?_
    refine lGd rfl aa hc9 (bz ty3) ?_
    refine lGd rfl aa hc9 (qInt rfl rfl rfl) (lUn (hPt rfl hc9 rfl) (lUn (hMvA rfl) ?_))
    rcases bn h4l with⟨hc12,h4l⟩|⟨hc12,h4l⟩
    ·refine lGd rfl aa hc12 (hMvL rfl) (lGd rfl aa hc12 (hMvA rfl) ?_)
     obtain⟨x13,k,h4l⟩:=ag h4l
     refine lGd rfl aa hc12 (du underlying38 sizeOf49 k) ?_
     refine lGd rfl aa hc12 (dv aid km) ?_
     refine lGd rfl aa hc12 (bz ty9) ?_
     refine lGd rfl aa hc12 (hMvL rfl) (lGd rfl aa hc12 (hMvA rfl) ?_)
     obtain⟨x14,k,h4l⟩:=ag h4l
     refine lGd rfl aa hc12 (du underlying38 sizeOf49 k) ?_
     refine lGd rfl aa hc12 (dv aid km) ?_
     refine lGd rfl aa hc12 (bz ty9) ?_
     refine lGd rfl aa hc12 (qStr rfl rfl rfl) (lUn (hPt rfl hc12 rfl) (lUn (hMvA rfl) ?_))
     rcases bn h4l with⟨hc15,h4l⟩|⟨hc15,h4l⟩
     ·refine lGd rfl aa hc15 (hMvL rfl) (lGd rfl aa hc15 (hMvA rfl) ?_)
      obtain⟨x16,k,h4l⟩:=ag h4l
      refine lGd rfl aa hc15 (du underlying38 sizeOf49 k) ?_
      refine lGd rfl aa hc15 (dv aaf f0) ?_
      refine lGd rfl aa hc15 (bz ty9) ?_
      refine lGd rfl aa hc15 (hMvL rfl) (lGd rfl aa hc15 (hMvA rfl) ?_)
      obtain⟨x17,k,h4l⟩:=ag h4l
      refine lGd rfl aa hc15 (du underlying38 sizeOf49 k) ?_
      refine lGd rfl aa hc15 (dv aaf f0) ?_
      refine lGd rfl aa hc15 (bz ty9) ?_
      refine lGd rfl aa hc15 (qStr rfl rfl rfl) (lUn (hPt rfl hc15 rfl) ?_)
      exact⟨x16.Name==x17.Name,h4l,atOk⟩
     refine lsx ?_
     refine lUn (hPf rfl hc15 rfl) ?_
     exact⟨false,h4l,atOk⟩
    refine lsx ?_
    refine lUn (hPf rfl hc12 rfl) (lUn (hMvA rfl) ?_)
    have hc18:false=false:=rfl
    refine lsx ?_
    refine lUn (hPf rfl hc18 rfl) ?_
    exact⟨false,h4l,atOk⟩
   refine lsx ?_
   refine lUn (hPf rfl hc9 rfl) (lUn (hMvA rfl) ?_)
   have hc21:false=false:=rfl
   refine lsx ?_
   refine lUn (hPf rfl hc21 rfl) (lUn (hMvA rfl) ?_)
   have hc27:false=false:=rfl
   refine lsx ?_
   refine lUn (hPf rfl hc27 rfl) ?_
   exact⟨false,h4l,atOk⟩
  refine dp ?_
  obtain rfl:=ho4 _ (ojs h4l)
  exact⟨h2l,atOk⟩
 refine dp ?_
 obtain rfl:=ho2 _ (ojs h2l)
 exact⟨h,atOk⟩
def acv (R:dz):Prop:=(∀(x1:B5) (x2:List Bt) (r:B5 × Bool × (List Bt)),R x1 x2=some r->Fp 48 [(af).val x1,ao Rp.str x2] (bj [(af).val r.1,Pb r.2.1,ao Rp.str r.2.2]))
theorem alo (R:dz) (ih:acv R) (x1:B5) (x2:List Bt) (r:B5 × Bool × (List Bt)) (h:zh R x1 x2=some r):Fp 48 [(af).val x1,ao Rp.str x2] (bj [(af).val r.1,Pb r.2.1,ao Rp.str r.2.2]):=by
  refine c9 (rs:=[.cell 4 64,.tmp 5,.tmp 6]) func48 rfl ntmps48 results48 dcd (fun s0=>?_)
  let p1:=B5.mk 0 [] [] 0 0 0 0 0 []
  unfold zh at h
  refine W_rs ?_
  refine rBox (R:=af) (a:=x1) rfl (fun b3=>?_)
  let p2:=D8 b3 af x1
  refine bg al64 fun b4=>kAs rfl (kAs rfl (W_rs (kMvL rfl (kAsL rfl (a6 (W_rs (kAs rfl (az ?_))))))))
  let p3:=D8 b4 af p1
  obtain⟨z2l,hz2,h⟩:=ag h
  obtain⟨n2,hN2⟩:=bm hz2
  refine cp 0 (fun e C=>∃x5,afy R x5=some r/\At [(4,Pr.pt b4 0),(7,ao Rp.str x5)] [p2,p3] e C) ?_ ?_
  · rintro e C ⟨x5,h,a⟩
    refine W_at a ?_
    unfold afy at h
    refine W_rs (kUn (fg bi st64 rfl) ?_)
    refine kMvL rfl (am 1 rfl rfl (Upd.refl _) rfl sizeOf64 (kAs rfl (kAsL rfl ?_)))
    obtain rfl:=osj h
    exact a7 ⟨rfl,[(af).val p1,Pb false,ao Rp.str x5],⟨yBox 1 ty64 aa,yT aa,yT aa,tv⟩,aa⟩
  refine dq (fun m e C=>∃x5,∃x6,ez (fun s=>nf R x1 s.1 s.2) m (x5,x6)=some z2l/\At [(2,Pr.pt b3 0),(4,Pr.pt b4 0),(7,ao Rp.str x5),(8,P6 x6)] [p2,p3] e C) n2 ⟨x2,0,hN2,⟨⟨aa,aa,aa,aa,tv⟩,A8.refl _⟩⟩ ?_
  rintro m e C ⟨x5,x6,hN2,a⟩
  refine W_at a ?_
  obtain⟨m2,w2l,rfl,h2l,hn2,ho2⟩:=bc hN2
  replace h2l:nf R x1 x5 x6=some w2l:=h2l
  unfold nf at h2l
  refine a6 (W_rs (kMv rfl (kUn (aj kw) ?_)))
  refine kUn (ap 0 ty53 cn) ?_
  refine kUn (jf rfl underlying53) ?_
  refine kIn rfl rfl rfl ?_
  refine a5 h2l rfl (fun _ h2l=>?_) (fun _ h2l=>?_)
  · refine au ?_
    refine ba (fun e C=>∃x33,∃x10,∃x20,∃b11,∃b23,wk R x6 x33 x10 x20=some w2l/\At [(2,Pr.pt b3 0),(4,Pr.pt b4 0),(7,ao Rp.str x33),(8,P6 x6)] [p2,p3,D8 b11 af x10,D8 b23 af x20] e C) ?_ ?_
    · rintro e C ⟨x33,x10,x20,b11,b23,h2l,a⟩
      refine W_at a ?_
      unfold wk at h2l
      refine W_r (kMv rfl (kIn rfl rfl rfl (kAs rfl ?_)))
      exact⟨m2,lsu,x33,w64 (x6+1),hn2 _ (ojs h2l),⟨⟨aa,aa,aa,aa,tv⟩,A8.of [0,1] rfl⟩⟩
    refine az (W_rs (kUn (aj kw) ?_))
    refine kUn (ap 0 ty53 cn) ?_
    refine kMv rfl ?_
    obtain⟨x10,k,h2l⟩:=ag h2l
    refine kUn (du underlying53 sizeOf64 k) ?_
    refine kUn (bz ty64) ?_
    refine bg al64 fun b11=>am 2 rfl rfl (Upd.refl _) rfl sizeOf64 ?_
    let p4:=D8 b11 af x10
    refine ba (fun e C=>s6 R x10 x5 x6=some w2l/\At [(2,Pr.pt b3 0),(4,Pr.pt b4 0),(7,ao Rp.str x5),(8,P6 x6),(9,Pr.pt b11 0)] [p2,p3,p4] e C) ?_ ?_
    · rintro e C ⟨h2l,a⟩
      refine W_at a ?_
      unfold s6 at h2l
      refine W_rs (kUn (ap 2 ty64 (Sub.refl _)) ?_)
      refine kMvL rfl ?_
      obtain⟨⟨x20,x21,x22⟩,k,h2l⟩:=ag h2l
      refine kUn (c7 (ih x10 x5 _ k)) ?_
      refine kUn (hMv (out:=bj [(af).val x20,Pb x21,ao Rp.str x22]) rfl) (kUn al ?_)
      refine kUn al ?_
      refine kUn al ?_
      refine bg al64 fun b23=>am 3 rfl rfl (Upd.refl _) rfl sizeOf64 (kAs rfl (kAsL rfl (a6 (W_rs (kMv rfl ?_)))))
      refine a5 h2l rfl (fun _ h2l=>?_) (fun _ h2l=>?_)
      · refine W_rs (kUn (ap 3 ty64 (Sub.refl _)) ?_)
        refine am 1 rfl rfl (Upd.refl _) rfl sizeOf64 (kAs rfl (kAs rfl ?_))
        obtain rfl:=ho2 _ (ojs h2l)
        replace h:some (x20,true,[])=some r:=h
        obtain rfl:=osj h
        exact a7 ⟨rfl,[(af).val x20,Pb true,ao Rp.str []],⟨yBox 1 ty64 aa,yT aa,yT (dr _),tv⟩,aa⟩
      refine au ?_
      refine ba (fun e C=>∃x26,wj R x5 x10 x6 x20 x26=some w2l/\At [(2,Pr.pt b3 0),(4,Pr.pt b4 0),(7,ao Rp.str x5),(8,P6 x6),(9,Pr.pt b11 0),(66,Pb x26)] [p2,p3,p4,D8 b23 af x20] e C) ?_ ?_
      · rintro e C ⟨x26,h2l,a⟩
        refine W_at a ?_
        unfold wj at h2l
        refine a5 h2l rfl (fun _ h2l=>?_) (fun _ h2l=>?_)
        · refine W_rs (kAs rfl (W_rs (kMv rfl (kMvL rfl ?_))))
          obtain⟨x29,k,h2l⟩:=ag h2l
          refine rNil [67] Rp.str 9 (fun v28=>?_) ⟨rfl,tv⟩
          refine fp 4 el22 k (fun v30=>?_)
          refine kAs rfl (W_rs (kMv rfl (kUn (aj ec) ?_)))
          refine kUn (ap 2 ty9 bb) ?_
          refine kUn (cm (R:=Rp.str) (a:=x10.Text) el22 nb) ?_
          obtain⟨x31,k,h2l⟩:=ag h2l
          refine fp 4 el22 k (fun v32=>?_)
          refine kAs rfl (W_r (kMv rfl ?_))
          refine rRel 4 [14,75] ?_ rfl ⟨rfl,rfl,tv⟩
          refine kAsL rfl ?_
          exact⟨x31,x10,x20,b11,b23,h2l,atOk⟩
        refine au ?_
        exact⟨x5,x10,x20,b11,b23,h2l,atOk⟩
      refine W_r (kUn (aj e8) ?_)
      refine kUn (ap 2 ty3 a8) ?_
      refine kIn rfl rfl rfl (kMv rfl ?_)
      rcases bn h2l with⟨hc25,h2l⟩|⟨hc25,h2l⟩
      · refine skx ?_
        refine kPt rfl hc25 rfl ?_
        exact⟨true,h2l,atOk⟩
      refine kGd rfl aa hc25 (aj e8) ?_
      refine kGd rfl aa hc25 (ap 2 ty3 a8) ?_
      refine kGd rfl aa hc25 (qInt rfl rfl rfl) (kPf rfl hc25 rfl ?_)
      exact⟨x10.Kind==6,h2l,atOk⟩
    refine ba (fun e C=>∃x13,s5 R x5 x10 x6 x13=some w2l/\At [(2,Pr.pt b3 0),(4,Pr.pt b4 0),(7,ao Rp.str x5),(8,P6 x6),(9,Pr.pt b11 0),(35,Pb x13)] [p2,p3,p4] e C) ?_ ?_
    · rintro e C ⟨x13,h2l,a⟩
      refine W_at a ?_
      unfold s5 at h2l
      refine a5 h2l rfl (fun _ h2l=>?_) (fun _ h2l=>?_)
      · refine W_rs (kAs rfl (az ?_))
        obtain⟨z7l,hz7,h2l⟩:=ag h2l
        obtain⟨n7,hN7⟩:=bm hz7
        refine cp 2 (fun e C=>aa1 R x10 x5 x6=some w2l/\At [(2,Pr.pt b3 0),(4,Pr.pt b4 0),(7,ao Rp.str x5),(8,P6 x6),(9,Pr.pt b11 0)] [p2,p3,p4] e C) ?_ ?_
        · rintro e C ⟨h2l,a⟩
          unfold aa1 at h2l
          exact⟨h2l,(At.trans a ⟨⟨aa,aa,aa,aa,aa,tv⟩,A8.refl _⟩)⟩
        refine dq (fun m e C=>∃x15,ez (fun s=>qf R x5 x10 s) m x15=some z7l/\At [(2,Pr.pt b3 0),(4,Pr.pt b4 0),(7,ao Rp.str x5),(8,P6 x6),(9,Pr.pt b11 0),(10,P6 x15)] [p2,p3,p4] e C) n7 ⟨0,hN7,⟨⟨aa,aa,aa,aa,aa,aa,tv⟩,A8.refl _⟩⟩ ?_
        rintro m e C ⟨x15,hN7,a⟩
        refine W_at a ?_
        obtain⟨m7,w7l,rfl,h7l,hn7,ho7⟩:=bc hN7
        replace h7l:qf R x5 x10 x15=some w7l:=h7l
        unfold qf at h7l
        refine a6 (W_rs (kMv rfl (kMvL rfl (kUn (jf rfl underlying22) ?_))))
        refine kIn rfl rfl rfl ?_
        refine a5 h7l rfl (fun _ h7l=>?_) (fun _ h7l=>?_)
        · refine au (a6 (az ?_))
          refine ba (fun e C=>∃x18,aa2 R x10 x15 x18=some w7l/\At [(2,Pr.pt b3 0),(4,Pr.pt b4 0),(7,ao Rp.str x5),(8,P6 x6),(9,Pr.pt b11 0),(10,P6 x15),(48,Pb (x18==x10.Text))] [p2,p3,p4] e C) ?_ ?_
          · rintro e C ⟨x18,h7l,a⟩
            refine W_at a ?_
            unfold aa2 at h7l
            refine a5 h7l rfl (fun _ h7l=>?_) (fun _ h7l=>?_)
            · refine W_rs (kUn (ap 2 ty64 (Sub.refl _)) ?_)
              refine am 1 rfl rfl (Upd.refl _) rfl sizeOf64 (kAs rfl (kAs rfl ?_))
              obtain rfl:=ho7 _ (ojs h7l)
              replace h2l:some (.inr (.done (x10,true,[])))=some w2l:=h2l
              obtain rfl:=ho2 _ (ojs h2l)
              replace h:some (x10,true,[])=some r:=h
              obtain rfl:=osj h
              exact a7 ⟨rfl,[(af).val x10,Pb true,ao Rp.str []],⟨yBox 1 ty64 aa,yT aa,yT (dr _),tv⟩,aa⟩
            refine au (W_r (kMv rfl (kIn rfl rfl rfl (kAs rfl ?_))))
            exact⟨m7,lsu,w64 (x15+1),hn7 _ (ojs h7l),atOk⟩
          refine jg 7 hmx kr kr ?_
          refine lUn (hMvL rfl) (lUn (hMvA rfl) ?_)
          obtain⟨x18,k,h7l⟩:=ag h7l
          refine lUn (du underlying22 sizeOf9 k) ?_
          refine lUn (bz ty9) ?_
          refine lUn (aj ec) ?_
          refine lUn (ap 2 ty9 bb) ?_
          refine lUn (qStr rfl rfl rfl) ?_
          exact⟨x18,h7l,atOk⟩
        refine dp ?_
        obtain rfl:=ho7 _ (ojs h7l)
        exact⟨h2l,atOk⟩
      refine au ?_
      exact⟨h2l,atOk⟩
    refine W_r (kUn (aj e8) ?_)
    refine kUn (ap 2 ty3 a8) ?_
    refine kIn rfl rfl rfl (kMv rfl ?_)
    rcases bn h2l with⟨hc12,h2l⟩|⟨hc12,h2l⟩
    · refine skx ?_
      refine kPt rfl hc12 rfl ?_
      exact⟨true,h2l,atOk⟩
    refine kGd rfl aa hc12 (aj e8) ?_
    refine kGd rfl aa hc12 (ap 2 ty3 a8) ?_
    refine kGd rfl aa hc12 (qInt rfl rfl rfl) (kPf rfl hc12 rfl ?_)
    exact⟨x10.Kind==6,h2l,atOk⟩
  refine dp ?_
  obtain rfl:=ho2 _ (ojs h2l)
  exact⟨x5,h,atOk⟩
theorem ale :∀n,acv (gr n):=by
 intro n
 induction n with
 |zero=>exact(fun x1 x2 r h=>nomatch (show none=some r from h))
 |succ n ih=>exact(fun x1 x2 r h=>alo (gr n) ih x1 x2 r h)
theorem ap2 (x1:B5) (x2:List Bt) (r:B5 × Bool × (List Bt)) (h:aj9 x1 x2=some r):Fp 48 [(af).val x1,ao Rp.str x2] (bj [(af).val r.1,Pb r.2.1,ao Rp.str r.2.2]):=(ale 1048576) x1 x2 r h
end Go.Proofs.YtcndghapmoaidaaGreatDoor
set_option linter.unusedSectionVars false
set_option maxRecDepth 100000
set_option maxHeartbeats 4000000
namespace Go.Proofs.YtcndghapmoaidaaGreatDoor
open Go Go.Cn Tryz
attribute [local irreducible] mq ao
theorem ajz (x1:List (List B5)) (r:(List A9) × B3) (h:aap x1=some r):Fp 20 [ao (Rp.list af) x1] (bj [ao ab r.1,(ay).val r.2]):=by
  refine c9 (rs:=[.tmp 2,.cell 3 30]) func20 rfl ntmps20 results20 dcd (fun s0=>?_)
  let p1:=B3.mk 0 0 0
  unfold aap at h
  refine W_rs (kAs rfl (bg al30 fun b2=>W_rs (kAs rfl (a6 (W_rs (kAs rfl (az ?_)))))))
  let p2:=D8 b2 ay p1
  obtain⟨z2l,hz2,h⟩:=ag h
  obtain⟨n2,hN2⟩:=bm hz2
  refine cp 0 (fun e C=>∃x5,∃v3,afz x5=some r/\At [(3,Pr.pt b2 0),(4,Pi v3)] [p2,E1 v3 ab x5 49] e C) ?_ ?_
  · rintro e C ⟨x5,v3,h,a⟩
    refine W_at a ?_
    unfold afz at h
    refine W_rs (kMv rfl (kUn (fk st30 rfl) ?_))
    refine kAs rfl (am 0 rfl rfl (Upd.refl _) rfl sizeOf30 ?_)
    refine aly 1 [2] ?_ rfl ⟨rfl,tv⟩
    obtain rfl:=osj h
    exact a7 ⟨rfl,[ao ab x5,(ay).val p1],⟨yT aa,yBox 0 ty30 aa,tv⟩,aa⟩
  refine agk [4] ab 49 (fun v56=>?_) ⟨rfl,tv⟩
  refine dq (fun m e C=>∃x4,∃x5,∃v3,ez (fun s=>ng x1 s.1 s.2) m (x4,x5)=some z2l/\At [(0,ao (Rp.list af) x1),(3,Pr.pt b2 0),(4,Pi v3),(5,P6 x4)] [p2,E1 v3 ab x5 49] e C) n2 ⟨0,[],v56,hN2,⟨⟨aa,aa,aa,aa,tv⟩,A8.refl _⟩⟩ ?_
  rintro m e C ⟨x4,x5,v3,hN2,a⟩
  refine W_at a ?_
  obtain⟨m2,w2l,rfl,h2l,hn2,ho2⟩:=bc hN2
  replace h2l:ng x1 x4 x5=some w2l:=h2l
  unfold ng at h2l
  refine a6 (W_rs (kMv rfl (kMvL rfl (kUn (jf rfl underlying24) ?_))))
  refine kIn rfl rfl rfl ?_
  refine a5 h2l rfl (fun _ h2l=>?_) (fun _ h2l=>?_)
  · refine au (a6 (az (W_rs (kAs rfl (az ?_)))))
    obtain⟨z4l,hz4,h2l⟩:=ag h2l
    obtain⟨n4,hN4⟩:=bm hz4
    refine cp 2 (fun e C=>∃x12,∃v10,aa3 x4 x12=some w2l/\At [(0,ao (Rp.list af) x1),(3,Pr.pt b2 0),(4,Pi v10),(5,P6 x4)] [p2,E1 v10 ab x12 49] e C) ?_ ?_
    · rintro e C ⟨x12,v10,h2l,a⟩
      refine W_at a ?_
      unfold aa3 at h2l
      refine W_r (kMv rfl (kIn rfl rfl rfl (kAs rfl ?_)))
      exact⟨m2,lsu,w64 (x4+1),x12,v10,hn2 _ (ojs h2l),atOk⟩
    refine dq (fun m e C=>∃x11,∃x12,∃v10,ez (fun s=>qg x1 x4 s.1 s.2) m (x11,x12)=some z4l/\At [(0,ao (Rp.list af) x1),(3,Pr.pt b2 0),(4,Pi v10),(5,P6 x4),(6,P6 x11)] [p2,E1 v10 ab x12 49] e C) n4 ⟨0,x5,v3,hN4,⟨⟨aa,aa,aa,aa,aa,tv⟩,A8.refl _⟩⟩ ?_
    rintro m e C ⟨x11,x12,v10,hN4,a⟩
    refine W_at a ?_
    obtain⟨m4,w4l,rfl,h4l,hn4,ho4⟩:=bc hN4
    replace h4l:qg x1 x4 x11 x12=some w4l:=h4l
    unfold qg at h4l
    refine a6 (W_rs (kMv rfl (kMvL rfl (kMv rfl ?_))))
    obtain⟨x16,k,h4l⟩:=ag h4l
    refine kUn (du underlying24 sizeOf53 k) ?_
    refine kUn (bz ty53) ?_
    refine kUn (jf rfl underlying53) ?_
    refine kIn rfl rfl rfl ?_
    refine a5 h4l rfl (fun _ h4l=>?_) (fun _ h4l=>?_)
    · refine au ?_
      refine ba (fun e C=>∃x55,∃x19,∃v54,∃b20,s7 x11 x55 x19=some w4l/\At [(0,ao (Rp.list af) x1),(3,Pr.pt b2 0),(4,Pi v54),(5,P6 x4),(6,P6 x11)] [p2,E1 v54 ab x55 49,D8 b20 af x19] e C) ?_ ?_
      · rintro e C ⟨x55,x19,v54,b20,h4l,a⟩
        refine W_at a ?_
        unfold s7 at h4l
        refine W_r (kMv rfl (kIn rfl rfl rfl (kAs rfl ?_)))
        exact⟨m4,lsu,w64 (x11+1),x55,v54,hn4 _ (ojs h4l),⟨⟨aa,aa,aa,aa,aa,tv⟩,A8.of [0,1] rfl⟩⟩
      refine az (W_rs (kMvL rfl (kMv rfl ?_)))
      obtain⟨x18,k,h4l⟩:=ag h4l
      refine kUn (du underlying24 sizeOf53 k) ?_
      refine kUn (bz ty53) ?_
      refine kMv rfl ?_
      obtain⟨x19,k,h4l⟩:=ag h4l
      let p3:=A9.mk 1 x19.Text x19.Text [] x19.Type_ false [] x4 x19.At
      refine kUn (du underlying53 sizeOf64 k) ?_
      refine kUn (bz ty64) ?_
      refine bg al64 fun b20=>am 2 rfl rfl (Upd.refl _) rfl sizeOf64 (a6 (W_rs (kUn (aj e8) ?_)))
      let p4:=D8 b20 af x19
      refine kUn (ap 2 ty3 a8) ?_
      refine kIn rfl rfl rfl ?_
      refine a5 h4l rfl (fun _ h4l=>?_) (fun _ h4l=>?_)
      · refine dp ?_
        exact⟨x12,x19,v10,b20,h4l,atOk⟩
      refine au (W_rs (kMv rfl (kUn (aj ec) ?_)))
      refine kUn (ap 2 ty9 bb) ?_
      refine kUn (aj ec) ?_
      refine kUn (ap 2 ty9 bb) ?_
      refine kUn (aj ti) ?_
      refine kUn (ap 2 ty9 fj) ?_
      refine kMv rfl (kUn (aj mi) ?_)
      refine kUn (ap 2 ty3 fe) ?_
      refine kUn (fk st49 ⟨(A9.mk 1 [] [] [] [] false [] 0 0),⟨_,rfl,rfl,qbj⟩,⟨(A9.mk 1 x19.Text [] [] [] false [] 0 0),⟨_,rfl,rfl,qbj⟩,⟨(A9.mk 1 x19.Text x19.Text [] [] false [] 0 0),⟨_,rfl,rfl,qbj⟩,⟨(A9.mk 1 x19.Text x19.Text [] x19.Type_ false [] 0 0),⟨_,rfl,rfl,qbj⟩,⟨(A9.mk 1 x19.Text x19.Text [] x19.Type_ false [] x4 0),⟨_,rfl,rfl,qbj⟩,⟨p3,⟨_,rfl,rfl,qbj⟩,rfl⟩⟩⟩⟩⟩⟩) ?_
      refine kUn (cm (R:=ab) (a:=p3) el38 nb) ?_
      obtain⟨x22,k,h4l⟩:=ag h4l
      refine fp 1 el38 k (fun v23=>?_)
      refine kAs rfl (a6 (W_rs (kAs rfl (az ?_))))
      obtain⟨z8l,hz8,h4l⟩:=ag h4l
      obtain⟨n8,hN8⟩:=bm hz8
      refine cp 4 (fun e C=>∃x26,∃v24,nh x11 x19 x26=some w4l/\At [(0,ao (Rp.list af) x1),(3,Pr.pt b2 0),(4,Pi v24),(5,P6 x4),(6,P6 x11)] [p2,E1 v24 ab x26 49,p4] e C) ?_ ?_
      · rintro e C ⟨x26,v24,h4l,a⟩
        refine W_at a ?_
        unfold nh at h4l
        refine W_rs (kMv rfl ?_)
        obtain⟨x50,k,h4l⟩:=ag h4l
        refine kUn (axq 1 (ajy x26 _ k) ⟨.inr ⟨aa,rfl⟩,tv⟩ (fun _ _ _ h=>h)) ?_
        refine kAs rfl (W_rs (kMv rfl (kIn rfl rfl rfl ?_)))
        refine a5 h4l rfl (fun _ h4l=>?_) (fun _ h4l=>?_)
        · refine ba (fun e C=>∃x52,∃x53,aa4 x52 x53=some w4l/\At [(2,Pi (.slice none 0 0)),(3,Pr.pt b2 0)] [D8 b2 ay (B3.mk 150 x52.File x53.At),p4] e C) ?_ ?_
          · rintro e C ⟨x52,x53,h4l,a⟩
            refine W_at a ?_
            unfold aa4 at h4l
            obtain rfl:=ho4 _ (ojs h4l)
            replace h2l:some (.inr (.done ([],(B3.mk 150 x52.File x53.At))))=some w2l:=h2l
            obtain rfl:=ho2 _ (ojs h2l)
            replace h:some ([],(B3.mk 150 x52.File x53.At))=some r:=h
            obtain rfl:=osj h
            exact a7 ⟨rfl,[ao ab [],(ay).val (B3.mk 150 x52.File x53.At)],⟨yT (dr _),yBox 0 ty30 aa,tv⟩,aa⟩
          refine jg 12 hmx kr kr ?_
          refine lUn (hMvA rfl) (lUn (hMvA rfl) ?_)
          obtain⟨x52,k,h4l⟩:=ag h4l
          refine lUn (vq 1 (R:=ab) (l:=x26) underlying38 sizeOf49 k) ?_
          refine lUn (al3 amb) ?_
          refine lUn (uc (R:=ab) (R':=Rp.int .i64) (l:=x26) (a:=x52) (o:=7) 1 ty3 vl nb k rfl) ?_
          refine lUn (hMvA rfl) (lUn (hMvA rfl) ?_)
          obtain⟨x53,k,h4l⟩:=ag h4l
          refine lUn (vq 1 (R:=ab) (l:=x26) underlying38 sizeOf49 k) ?_
          refine lUn (al3 arv) ?_
          refine lUn (uc (R:=ab) (R':=Rp.int .i64) (l:=x26) (a:=x53) (o:=8) 1 ty3 zn nb k rfl) ?_
          refine lUn (fk st30 ⟨(B3.mk 150 0 0),⟨_,rfl,rfl,qbj⟩,⟨(B3.mk 150 x52.File 0),⟨_,rfl,rfl,qbj⟩,⟨(B3.mk 150 x52.File x53.At),⟨_,rfl,rfl,qbj⟩,rfl⟩⟩⟩) ?_
          refine lUn (hAsA rfl) (am 0 rfl rfl (Upd.refl _) rfl sizeOf30 ?_)
          exact⟨x52,x53,h4l,⟨⟨aa,aa,tv⟩,A8.of [0,2] rfl⟩⟩
        refine au ?_
        exact⟨x26,x19,v24,b20,h4l,atOk⟩
      refine dq (fun m e C=>∃x25,∃x26,∃v24,ez (fun s=>lj x19 x4 s.1 s.2) m (x25,x26)=some z8l/\At [(0,ao (Rp.list af) x1),(3,Pr.pt b2 0),(4,Pi v24),(5,P6 x4),(6,P6 x11),(7,Pr.pt b20 0),(8,P6 x25)] [p2,E1 v24 ab x26 49,p4] e C) n8 ⟨0,x22,v23,hN8,⟨⟨aa,aa,aa,aa,aa,aa,aa,tv⟩,A8.refl _⟩⟩ ?_
      rintro m e C ⟨x25,x26,v24,hN8,a⟩
      refine W_at a ?_
      obtain⟨m8,w8l,rfl,h8l,hn8,ho8⟩:=bc hN8
      replace h8l:lj x19 x4 x25 x26=some w8l:=h8l
      unfold lj at h8l
      refine a6 (W_rs (kMv rfl (kUn (aj kw) ?_)))
      refine kUn (ap 2 ty53 cn) ?_
      refine kUn (jf rfl underlying53) ?_
      refine kIn rfl rfl rfl ?_
      refine a5 h8l rfl (fun _ h8l=>?_) (fun _ h8l=>?_)
      · refine au ?_
        refine ba (fun e C=>∃x49,∃x31,∃v48,∃b32,qh x25 x49 x31=some w8l/\At [(0,ao (Rp.list af) x1),(3,Pr.pt b2 0),(4,Pi v48),(5,P6 x4),(6,P6 x11),(7,Pr.pt b20 0),(8,P6 x25)] [p2,E1 v48 ab x49 49,p4,D8 b32 af x31] e C) ?_ ?_
        · rintro e C ⟨x49,x31,v48,b32,h8l,a⟩
          refine W_at a ?_
          unfold qh at h8l
          refine W_r (kMv rfl (kIn rfl rfl rfl (kAs rfl ?_)))
          exact⟨m8,lsu,w64 (x25+1),x49,v48,hn8 _ (ojs h8l),⟨⟨aa,aa,aa,aa,aa,aa,aa,tv⟩,A8.of [0,1,2] rfl⟩⟩
        refine az (W_rs (kUn (aj kw) ?_))
        refine kUn (ap 2 ty53 cn) ?_
        refine kMv rfl ?_
        obtain⟨x31,k,h8l⟩:=ag h8l
        refine kUn (du underlying53 sizeOf64 k) ?_
        refine kUn (bz ty64) ?_
        refine bg al64 fun b32=>am 3 rfl rfl (Upd.refl _) rfl sizeOf64 (a6 ?_)
        refine ba (fun e C=>∃x34,ra x25 x26 x31 x19 x4 x34=some w8l/\At [(0,ao (Rp.list af) x1),(3,Pr.pt b2 0),(4,Pi v24),(5,P6 x4),(6,P6 x11),(7,Pr.pt b20 0),(8,P6 x25),(9,Pr.pt b32 0),(71,Pb x34)] [p2,E1 v24 ab x26 49,p4,D8 b32 af x31] e C) ?_ ?_
        · rintro e C ⟨x34,h8l,a⟩
          refine W_at a ?_
          unfold ra at h8l
          refine a5 h8l rfl (fun _ h8l=>?_) (fun _ h8l=>?_)
          · refine dp ?_
            exact⟨x26,x31,v24,b32,h8l,atOk⟩
          refine au (W_rs (kMv rfl (kUn (aj ec) ?_)))
          refine kUn (ap 2 ty9 bb) ?_
          refine kMv rfl (kUn (ap 3 ty64 (Sub.refl _)) ?_)
          refine cr h8l (apb x19.Text x4 x31) rfl fun x36 _ h8l=>?_
          obtain⟨x37,k,h8l⟩:=ag h8l
          refine fp 1 el38 k (fun v38=>?_)
          refine kAs rfl (a6 (W_rs (kMv rfl ?_)))
          obtain⟨x39,k,h8l⟩:=ag h8l
          refine kUn (axq 1 (ajy x37 _ k) ⟨.inr ⟨aa,rfl⟩,tv⟩ (fun _ _ _ h=>h)) ?_
          refine kIn rfl rfl rfl ?_
          refine a5 h8l rfl (fun _ h8l=>?_) (fun _ h8l=>?_)
          · refine dp ?_
            exact⟨x37,x31,v38,b32,h8l,atOk⟩
          refine au (W_rs (kUn (ap 3 ty64 (Sub.refl _)) ?_))
          obtain⟨⟨x41,x42,x43⟩,k,h8l⟩:=ag h8l
          let p5:=B3.mk 150 x4 x41.At
          refine kUn (adt (ap2 x31 [] _ k) ⟨aa,dr _,tv⟩) ?_
          refine kUn (hMv (out:=bj [(af).val x41,Pb x42,ao Rp.str x43]) rfl) (kUn al ?_)
          refine kUn al ?_
          refine kUn al ?_
          refine bg al64 fun b44=>am 4 rfl rfl (Upd.refl _) rfl sizeOf64 (kAs rfl (kAsL rfl ?_))
          refine ba (fun e C=>∃x46,lp x4 x41 x25 x37 x31 x46=some w8l/\At [(0,ao (Rp.list af) x1),(3,Pr.pt b2 0),(4,Pi v38),(5,P6 x4),(6,P6 x11),(7,Pr.pt b20 0),(8,P6 x25),(10,Pr.pt b44 0),(93,Pb x46)] [p2,E1 v38 ab x37 49,p4,D8 b32 af x31,D8 b44 af x41] e C) ?_ ?_
          · rintro e C ⟨x46,h8l,a⟩
            refine W_at a ?_
            unfold lp at h8l
            refine a5 h8l rfl (fun _ h8l=>?_) (fun _ h8l=>?_)
            · refine ba (fun e C=>zr x4 x41=some w8l/\At [(2,Pi (.slice none 0 0)),(3,Pr.pt b2 0)] [D8 b2 ay p5,p4,D8 b32 af x31,D8 b44 af x41] e C) ?_ ?_
              · rintro e C ⟨h8l,a⟩
                refine W_at a ?_
                unfold zr at h8l
                obtain rfl:=ho8 _ (ojs h8l)
                replace h4l:some (.inr (.done (.inr (.done ([],p5)))))=some w4l:=h4l
                obtain rfl:=ho4 _ (ojs h4l)
                replace h2l:some (.inr (.done ([],p5)))=some w2l:=h2l
                obtain rfl:=ho2 _ (ojs h2l)
                replace h:some ([],p5)=some r:=h
                obtain rfl:=osj h
                exact a7 ⟨rfl,[ao ab [],(ay).val p5],⟨yT (dr _),yBox 0 ty30 aa,tv⟩,aa⟩
              refine jg 5 hmx kr kr ?_
              refine lUn (hMvA rfl) (lUn (aj mi) ?_)
              refine lUn (ap 4 ty3 fe) ?_
              refine lUn (fk st30 ⟨(B3.mk 150 0 0),⟨_,rfl,rfl,qbj⟩,⟨(B3.mk 150 x4 0),⟨_,rfl,rfl,qbj⟩,⟨p5,⟨_,rfl,rfl,qbj⟩,rfl⟩⟩⟩) ?_
              refine lUn (hAsA rfl) (am 0 rfl rfl (Upd.refl _) rfl sizeOf30 ?_)
              exact⟨h8l,⟨⟨aa,aa,tv⟩,A8.of [0,2,3,4] rfl⟩⟩
            refine au ?_
            exact⟨x37,x31,v38,b32,h8l,⟨⟨aa,aa,aa,aa,aa,aa,aa,tv⟩,A8.of [0,1,2,3] rfl⟩⟩
          refine W_r (kUn (aj e8) ?_)
          refine kUn (ap 3 ty3 a8) ?_
          refine kIn rfl rfl rfl (kMv rfl ?_)
          rcases bn h8l with⟨hc45,h8l⟩|⟨hc45,h8l⟩
          · refine kGd rfl aa hc45 (hMvA rfl) (kPt rfl hc45 rfl ?_)
            exact⟨x42,h8l,atOk⟩
          refine kSkT rfl aa hc45 (kPf rfl hc45 rfl ?_)
          exact⟨false,h8l,atOk⟩
        refine W_r (kUn (aj e8) ?_)
        refine kUn (ap 3 ty3 a8) ?_
        refine kIn rfl rfl rfl (kMv rfl ?_)
        rcases bn h8l with⟨hc33,h8l⟩|⟨hc33,h8l⟩
        · refine kGd rfl aa hc33 (aj e8) ?_
          refine kGd rfl aa hc33 (ap 3 ty3 a8) ?_
          refine kGd rfl aa hc33 (qInt rfl rfl rfl) (kPt rfl hc33 rfl ?_)
          exact⟨x31.Kind != 3,h8l,atOk⟩
        refine skx ?_
        refine kPf rfl hc33 rfl ?_
        exact⟨false,h8l,atOk⟩
      refine dp ?_
      obtain rfl:=ho8 _ (ojs h8l)
      exact⟨x26,v24,h4l,atOk⟩
    refine dp ?_
    obtain rfl:=ho4 _ (ojs h4l)
    exact⟨x12,v10,h2l,atOk⟩
  refine dp ?_
  obtain rfl:=ho2 _ (ojs h2l)
  exact⟨x5,v3,h,atOk⟩
theorem ang (x1:Bt) (x2:Int) (r:Int × Bool) (h:ze x1 x2=some r):Fp 49 [Pr.str x1,P6 x2] (bj [P6 r.1,Pb r.2]):=by
  refine c8 (rs:=[4,5]) func49 rfl ntmps49 ⟨by decide,results49⟩ dcd (fun s0=>?_)
  unfold ze at h
  refine W_rs (kAs rfl (kAs rfl (a6 (az ?_))))
  obtain⟨z2l,hz2,h⟩:=ag h
  obtain⟨n2,hN2⟩:=bm hz2
  refine cp 0 (fun e C=>∃x3,xq x3=some r/\At [(1,P6 x3)] [] e C) ?_ ?_
  · rintro e C ⟨x3,h,a⟩
    refine W_at a ?_
    unfold xq at h
    refine W_rs (kMv rfl (kAs rfl (kAs rfl ?_)))
    obtain rfl:=osj h
    exact a7 ⟨rfl,aa⟩
  refine dq (fun m e C=>∃x3,ez (fun s=>sl x1 s) m x3=some z2l/\At [(0,Pr.str x1),(1,P6 x3)] [] e C) n2 ⟨x2,hN2,⟨⟨aa,aa,tv⟩,A8.refl _⟩⟩ ?_
  rintro m e C ⟨x3,hN2,a⟩
  refine W_at a ?_
  obtain⟨m2,w2l,rfl,h2l,hn2,ho2⟩:=bc hN2
  replace h2l:sl x1 x3=some w2l:=h2l
  unfold sl at h2l
  refine a6 (W_rs (kMv rfl (kMv rfl (kUn (aji rfl underlying9) ?_))))
  refine kIn rfl rfl rfl ?_
  refine a5 h2l rfl (fun _ h2l=>?_) (fun _ h2l=>?_)
  · refine au (az (W_rs (kMv rfl (kMv rfl ?_))))
    obtain⟨x6,k,h2l⟩:=ag h2l
    refine kUn (ah3 underlying9 k) ?_
    refine kAs rfl (a6 ?_)
    refine ba (fun e C=>∃x14,jc x3 x1 x6 x14=some w2l/\At [(0,Pr.str x1),(1,P6 x3),(6,Pr.u8 x6),(28,Pb x14)] [] e C) ?_ ?_
    · rintro e C ⟨x14,h2l,a⟩
      refine W_at a ?_
      unfold jc at h2l
      refine a5 h2l rfl (fun _ h2l=>?_) (fun _ h2l=>?_)
      · refine W_rs (kMv rfl (kIn rfl rfl rfl (kAs rfl ?_)))
        refine dp ?_
        exact⟨m2,lsu,w64 (x3+1),hn2 _ (ojs h2l),atOk⟩
      refine au (a6 ?_)
      refine ba (fun e C=>∃x25,ja x3 x1 x25=some w2l/\At [(0,Pr.str x1),(1,P6 x3),(53,Pb x25)] [] e C) ?_ ?_
      · rintro e C ⟨x25,h2l,a⟩
        refine W_at a ?_
        unfold ja at h2l
        refine a5 h2l rfl (fun _ h2l=>?_) (fun _ h2l=>?_)
        · refine W_rs (kMv rfl (kAs rfl (kAs rfl ?_)))
          obtain rfl:=ho2 _ (ojs h2l)
          replace h:some (x3,true)=some r:=h
          obtain rfl:=osj h
          exact a7 ⟨rfl,aa⟩
        refine au (a6 (W_rs (kMv rfl (kMv rfl (kIn rfl rfl rfl ?_)))))
        obtain⟨x27,k,h2l⟩:=ag h2l
        refine kUn (ah3 underlying9 k) ?_
        refine kIn rfl rfl rfl ?_
        refine a5 h2l rfl (fun _ h2l=>?_) (fun _ h2l=>?_)
        · refine a6 (az ?_)
          obtain⟨z4l,hz4,h2l⟩:=ag h2l
          obtain⟨n4,hN4⟩:=bm hz4
          refine cp 2 (fun e C=>∃x29,acn x29=some w2l/\At [(0,Pr.str x1),(1,P6 x29)] [] e C) ?_ ?_
          · rintro e C ⟨x29,h2l,a⟩
            refine W_at a ?_
            unfold acn at h2l
            refine dp ?_
            exact⟨m2,lsu,x29,hn2 _ (ojs h2l),atOk⟩
          refine dq (fun m e C=>∃x29,ez (fun s=>sk x1 s) m x29=some z4l/\At [(0,Pr.str x1),(1,P6 x29)] [] e C) n4 ⟨x3,hN4,⟨⟨aa,aa,tv⟩,A8.refl _⟩⟩ ?_
          rintro m e C ⟨x29,hN4,a⟩
          refine W_at a ?_
          obtain⟨m4,w4l,rfl,h4l,hn4,ho4⟩:=bc hN4
          replace h4l:sk x1 x29=some w4l:=h4l
          unfold sk at h4l
          refine a6 ?_
          refine ba (fun e C=>∃x33,sn x29 x33=some w4l/\At [(0,Pr.str x1),(1,P6 x29),(69,Pb x33)] [] e C) ?_ ?_
          · rintro e C ⟨x33,h4l,a⟩
            refine W_at a ?_
            unfold sn at h4l
            refine a5 h4l rfl (fun _ h4l=>?_) (fun _ h4l=>?_)
            · refine au (az (W_r (kMv rfl (kIn rfl rfl rfl (kAs rfl ?_)))))
              exact⟨m4,lsu,w64 (x29+1),hn4 _ (ojs h4l),atOk⟩
            refine dp ?_
            obtain rfl:=ho4 _ (ojs h4l)
            exact⟨x29,h2l,atOk⟩
          refine W_r (kMv rfl (kMv rfl (kUn (aji rfl underlying9) ?_)))
          refine kIn rfl rfl rfl (kMv rfl ?_)
          rcases bn h4l with⟨hc31,h4l⟩|⟨hc31,h4l⟩
          · refine kGd rfl aa hc31 (hMvA rfl) (kGd rfl aa hc31 (hMvA rfl) ?_)
            obtain⟨x32,k,h4l⟩:=ag h4l
            refine kGd rfl aa hc31 (ah3 underlying9 k) ?_
            refine kGd rfl aa hc31 (qInt rfl rfl rfl) (kPt rfl hc31 rfl ?_)
            exact⟨x32 != 10,h4l,atOk⟩
          refine skx ?_
          refine kPf rfl hc31 rfl ?_
          exact⟨false,h4l,atOk⟩
        refine au (W_rs (kMv rfl (kIn rfl rfl rfl (kAs rfl (a6 (az ?_))))))
        obtain⟨z7l,hz7,h2l⟩:=ag h2l
        obtain⟨n7,hN7⟩:=bm hz7
        refine cp 4 (fun e C=>∃x35,xp x1 x3 x35=some w2l/\At [(0,Pr.str x1),(1,P6 x3),(7,P6 x35)] [] e C) ?_ ?_
        · rintro e C ⟨x35,h2l,a⟩
          refine W_at a ?_
          unfold xp at h2l
          refine a6 (W_rs (kMv rfl (kIn rfl rfl rfl (kMv rfl (kUn (aji rfl underlying9) ?_)))))
          refine kIn rfl rfl rfl ?_
          refine a5 h2l rfl (fun _ h2l=>?_) (fun _ h2l=>?_)
          · refine W_rs (kMv rfl (kAs rfl (kAs rfl ?_)))
            obtain rfl:=ho2 _ (ojs h2l)
            replace h:some (x3,false)=some r:=h
            obtain rfl:=osj h
            exact a7 ⟨rfl,aa⟩
          refine au (W_r (kMv rfl (kIn rfl rfl rfl (kAs rfl ?_))))
          exact⟨m2,lsu,w64 (x35+2),hn2 _ (ojs h2l),atOk⟩
        refine dq (fun m e C=>∃x35,ez (fun s=>sj x1 s) m x35=some z7l/\At [(0,Pr.str x1),(1,P6 x3),(7,P6 x35)] [] e C) n7 ⟨w64 (x3+2),hN7,⟨⟨aa,aa,aa,tv⟩,A8.refl _⟩⟩ ?_
        rintro m e C ⟨x35,hN7,a⟩
        refine W_at a ?_
        obtain⟨m7,w7l,rfl,h7l,hn7,ho7⟩:=bc hN7
        replace h7l:sj x1 x35=some w7l:=h7l
        unfold sj at h7l
        refine a6 ?_
        refine ba (fun e C=>∃x41,ot x35 x41=some w7l/\At [(0,Pr.str x1),(1,P6 x3),(7,P6 x35),(91,Pb x41)] [] e C) ?_ ?_
        · rintro e C ⟨x41,h7l,a⟩
          refine W_at a ?_
          unfold ot at h7l
          refine a5 h7l rfl (fun _ h7l=>?_) (fun _ h7l=>?_)
          · refine au (az (W_r (kMv rfl (kIn rfl rfl rfl (kAs rfl ?_)))))
            exact⟨m7,lsu,w64 (x35+1),hn7 _ (ojs h7l),atOk⟩
          refine dp ?_
          obtain rfl:=ho7 _ (ojs h7l)
          exact⟨x35,h2l,atOk⟩
        refine W_r (kMv rfl (kIn rfl rfl rfl (kMv rfl (kUn (aji rfl underlying9) ?_))))
        refine kIn rfl rfl rfl (kMv rfl ?_)
        rcases bn h7l with⟨hc37,h7l⟩|⟨hc37,h7l⟩
        · refine kGd rfl aa hc37 (hMvA rfl) (kGd rfl aa hc37 (hMvA rfl) ?_)
          obtain⟨x38,k,h7l⟩:=ag h7l
          refine kGd rfl aa hc37 (ah3 underlying9 k) ?_
          refine kGd rfl aa hc37 (qInt rfl rfl rfl) (kGd rfl aa hc37 (hMvA rfl) ?_)
          rcases bn h7l with⟨hc39,h7l⟩|⟨hc39,h7l⟩
          · refine skx ?_
            refine kGd rfl aa hc37 (hPt rfl hc39 rfl) (kPt rfl hc37 rfl ?_)
            exact⟨true,h7l,atOk⟩
          refine kGd rfl aa hc39 (hMvA rfl) (kGd rfl aa hc39 (hMvA rfl) (kGd rfl aa hc39 (qInt rfl rfl rfl) ?_))
          obtain⟨x40,k,h7l⟩:=ag h7l
          refine kGd rfl aa hc39 (ah3 underlying9 k) ?_
          refine kGd rfl aa hc39 (qInt rfl rfl rfl) (kGd rfl aa hc37 (hPf rfl hc39 rfl) (kPt rfl hc37 rfl ?_))
          exact⟨x40 != 47,h7l,atOk⟩
        refine skx ?_
        refine kPf rfl hc37 rfl ?_
        exact⟨false,h7l,atOk⟩
      refine W_r (kMv rfl (kIn rfl rfl rfl (kMv rfl (kUn (aji rfl underlying9) ?_))))
      refine kIn rfl rfl rfl (kMv rfl ?_)
      rcases bn h2l with⟨hc16,h2l⟩|⟨hc16,h2l⟩
      · refine skx ?_
        refine kPt rfl hc16 rfl (kMv rfl ?_)
        have hc21:true=true:=rfl
        refine skx ?_
        refine kPt rfl hc21 rfl ?_
        exact⟨true,h2l,atOk⟩
      refine kGd rfl aa hc16 (hMvA rfl) (kGd rfl aa hc16 (qInt rfl rfl rfl) (kPf rfl hc16 rfl (kMv rfl ?_)))
      rcases bn h2l with⟨hc17,h2l⟩|⟨hc17,h2l⟩
      · refine skx ?_
        refine kPt rfl hc17 rfl ?_
        exact⟨true,h2l,atOk⟩
      refine kGd rfl aa hc17 (hMvA rfl) (kGd rfl aa hc17 (hMvA rfl) (kGd rfl aa hc17 (qInt rfl rfl rfl) ?_))
      obtain⟨x18,k,h2l⟩:=ag h2l
      refine kGd rfl aa hc17 (ah3 underlying9 k) ?_
      refine kGd rfl aa hc17 (qInt rfl rfl rfl) (kGd rfl aa hc17 (hMvA rfl) ?_)
      rcases bn h2l with⟨hc19,h2l⟩|⟨hc19,h2l⟩
      · refine kGd rfl aa hc19 (hMvA rfl) (kGd rfl aa hc19 (hMvA rfl) (kGd rfl aa hc19 (qInt rfl rfl rfl) ?_))
        obtain⟨x20,k,h2l⟩:=ag h2l
        refine kGd rfl aa hc19 (ah3 underlying9 k) ?_
        refine kGd rfl aa hc19 (qInt rfl rfl rfl) (kGd rfl aa hc17 (hPt rfl hc19 rfl) (kPf rfl hc17 rfl ?_))
        exact⟨x20 != 42,h2l,atOk⟩
      refine skx ?_
      refine kGd rfl aa hc17 (hPf rfl hc19 rfl) (kPf rfl hc17 rfl ?_)
      exact⟨false,h2l,atOk⟩
    refine W_r (kMv rfl (kIn rfl rfl rfl (kMv rfl ?_)))
    rcases bn h2l with⟨hc7,h2l⟩|⟨hc7,h2l⟩
    · refine skx ?_
      refine kPt rfl hc7 rfl (kMv rfl ?_)
      have hc11:true=true:=rfl
      refine skx ?_
      refine kPt rfl hc11 rfl (kMv rfl ?_)
      have hc13:true=true:=rfl
      refine skx ?_
      refine kPt rfl hc13 rfl ?_
      exact⟨true,h2l,atOk⟩
    refine kGd rfl aa hc7 (hMvA rfl) (kGd rfl aa hc7 (qInt rfl rfl rfl) (kPf rfl hc7 rfl (kMv rfl ?_)))
    rcases bn h2l with⟨hc8,h2l⟩|⟨hc8,h2l⟩
    · refine skx ?_
      refine kPt rfl hc8 rfl (kMv rfl ?_)
      have hc10:true=true:=rfl
      refine skx ?_
      refine kPt rfl hc10 rfl ?_
      exact⟨true,h2l,atOk⟩
    refine kGd rfl aa hc8 (hMvA rfl) (kGd rfl aa hc8 (qInt rfl rfl rfl) (kPf rfl hc8 rfl (kMv rfl ?_)))
    rcases bn h2l with⟨hc9,h2l⟩|⟨hc9,h2l⟩
    · refine skx ?_
      refine kPt rfl hc9 rfl ?_
      exact⟨true,h2l,atOk⟩
    refine kGd rfl aa hc9 (hMvA rfl) (kGd rfl aa hc9 (qInt rfl rfl rfl) (kPf rfl hc9 rfl ?_))
    exact⟨x6==13,h2l,atOk⟩
  refine dp ?_
  obtain rfl:=ho2 _ (ojs h2l)
  exact⟨x3,h,atOk⟩
theorem af5 (x1:Int) (r:Bool) (h:rz x1=some r):Fp 87 [Pr.u8 x1] (Pb r):=by
 refine c8 (rs:=[2]) func87 rfl ntmps87 ⟨by decide,results87⟩ dcd (fun s0=>?_)
 unfold rz at h
 refine W_rs (kAs rfl ?_)
 refine ba (fun e C=>∃x3,wz x3=some r/\At [(2,Pb x3)] [] e C) ?_ ?_
 ·rintro e C ⟨x3,h,a⟩
  refine W_at a ?_
  unfold wz at h
  obtain rfl:=osj h
  exact a7 ⟨rfl,aa⟩
 refine W_r (kMv rfl (kIn rfl rfl rfl (kMv rfl ?_)))
 rcases bn h with⟨hc2,h⟩|⟨hc2,h⟩
 ·refine kGd rfl aa hc2 (hMvA rfl) (kGd rfl aa hc2 (qInt rfl rfl rfl) (kPt rfl hc2 rfl (kAs rfl ?_)))
  exact⟨decide (x1<=57),h,atOk⟩
 refine skx ?_
 refine kPf rfl hc2 rfl (kAs rfl ?_)
 exact⟨false,h,atOk⟩
theorem aqa (x1:Bt) (r:Bool) (h:ad7 x1=some r):Fp 88 [Pr.str x1] (Pb r):=by
 refine c8 (rs:=[2]) func88 rfl ntmps88 ⟨by decide,results88⟩ dcd (fun s0=>?_)
 unfold ad7 at h
 refine W_rs (kAs rfl (a6 (W_rs (kMv rfl (kUn (aji rfl underlying9) ?_)))))
 refine kIn rfl rfl rfl ?_
 refine a5 h rfl (fun _ h=>?_) (fun _ h=>?_)
 ·refine W_rs (kAs rfl ?_)
  obtain rfl:=osj h
  exact a7 ⟨rfl,aa⟩
 refine au (W_rs (kAs rfl (a6 (W_rs (kAs rfl (az ?_))))))
 obtain⟨z2l,hz2,h⟩:=ag h
 obtain⟨n2,hN2⟩:=bm hz2
 refine cp 0 (fun e C=>∃x3,abm x3=some r/\At [(3,P6 x3)] [] e C) ?_ ?_
 ·rintro e C ⟨x3,h,a⟩
  refine W_at a ?_
  unfold abm at h
  refine W_rs (kMv rfl (kIn rfl rfl rfl (kAs rfl ?_)))
  obtain rfl:=osj h
  exact a7 ⟨rfl,aa⟩
 refine dq (fun m e C=>∃x3,∃x4,ez (fun s=>wy x1 s.1 s.2) m (x3,x4)=some z2l/\At [(0,Pr.str x1),(3,P6 x3),(4,P6 x4)] [] e C) n2 ⟨0,0,hN2,⟨⟨aa,aa,aa,tv⟩,A8.refl _⟩⟩ ?_
 rintro m e C ⟨x3,x4,hN2,a⟩
 refine W_at a ?_
 obtain⟨m2,w2l,rfl,h2l,hn2,ho2⟩:=bc hN2
 replace h2l:wy x1 x3 x4=some w2l:=h2l
 unfold wy at h2l
 refine a6 (W_rs (kMv rfl (kMv rfl (kUn (aji rfl underlying9) ?_))))
 refine kIn rfl rfl rfl ?_
 refine a5 h2l rfl (fun _ h2l=>?_) (fun _ h2l=>?_)
 ·refine au (a6 (az (W_r (kMv rfl (kIn rfl rfl rfl (kMv rfl (kMv rfl ?_)))))))
  obtain⟨x8,k,h2l⟩:=ag h2l
  refine kUn (ah3 underlying9 k) ?_
  refine kIn rfl rfl rfl (kUn (ant underlying5 underlying3) ?_)
  refine kIn rfl rfl rfl (kAs rfl (W_r (kMv rfl (kIn rfl rfl rfl (kAs rfl ?_)))))
  exact⟨m2,lsu,w64 ((w64 (10 * x3))+(w64 (IntKind.wrap .u8 (x8 - 48)))),w64 (x4+1),hn2 _ (ojs h2l),atOk⟩
 refine dp ?_
 obtain rfl:=ho2 _ (ojs h2l)
 exact⟨x3,h,atOk⟩
theorem ai1 (x1:Int) (r:Bool) (h:rn x1=some r):Fp 89 [Pr.u8 x1] (Pb r):=by
 refine c8 (rs:=[2]) func89 rfl ntmps89 ⟨by decide,results89⟩ dcd (fun s0=>?_)
 unfold rn at h
 refine W_rs (kAs rfl ?_)
 refine ba (fun e C=>∃x13,jq x13=some r/\At [(2,Pb x13)] [] e C) ?_ ?_
 ·rintro e C ⟨x13,h,a⟩
  refine W_at a ?_
  unfold jq at h
  obtain rfl:=osj h
  exact a7 ⟨rfl,aa⟩
 refine W_r (kMv rfl (kIn rfl rfl rfl (kMv rfl ?_)))
 rcases bn h with⟨hc2,h⟩|⟨hc2,h⟩
 ·refine kGd rfl aa hc2 (hMvA rfl) (kGd rfl aa hc2 (qInt rfl rfl rfl) (kPt rfl hc2 rfl (kMv rfl ?_)))
  rcases bn h with⟨hc3,h⟩|⟨hc3,h⟩
  ·refine skx ?_
   refine kPt rfl hc3 rfl (kMv rfl ?_)
   have hc7:true=true:=rfl
   refine skx ?_
   refine kPt rfl hc7 rfl (kAs rfl ?_)
   exact⟨true,h,atOk⟩
  refine kGd rfl aa hc3 (hMvA rfl) (kGd rfl aa hc3 (qInt rfl rfl rfl) (kGd rfl aa hc3 (hMvA rfl) ?_))
  rcases bn h with⟨hc4,h⟩|⟨hc4,h⟩
  ·refine kGd rfl aa hc4 (hMvA rfl) (kGd rfl aa hc4 (qInt rfl rfl rfl) (kGd rfl aa hc3 (hPt rfl hc4 rfl) (kPf rfl hc3 rfl (kMv rfl ?_))))
   rcases bn h with⟨hc5,h⟩|⟨hc5,h⟩
   ·refine skx ?_
    refine kPt rfl hc5 rfl (kAs rfl ?_)
    exact⟨true,h,atOk⟩
   refine kGd rfl aa hc5 (hMvA rfl) (kGd rfl aa hc5 (qInt rfl rfl rfl) (kPf rfl hc5 rfl (kAs rfl ?_)))
   exact⟨x1==95,h,atOk⟩
  refine skx ?_
  refine kGd rfl aa hc3 (hPf rfl hc4 rfl) (kPf rfl hc3 rfl (kMv rfl ?_))
  have hc6:false=false:=rfl
  refine kGd rfl aa hc6 (hMvA rfl) (kGd rfl aa hc6 (qInt rfl rfl rfl) (kPf rfl hc6 rfl (kAs rfl ?_)))
  exact⟨x1==95,h,atOk⟩
 refine skx ?_
 refine kPf rfl hc2 rfl (kMv rfl ?_)
 have hc8:false=false:=rfl
 refine kGd rfl aa hc8 (hMvA rfl) (kGd rfl aa hc8 (qInt rfl rfl rfl) (kGd rfl aa hc8 (hMvA rfl) ?_))
 rcases bn h with⟨hc9,h⟩|⟨hc9,h⟩
 ·refine kGd rfl aa hc9 (hMvA rfl) (kGd rfl aa hc9 (qInt rfl rfl rfl) (kGd rfl aa hc8 (hPt rfl hc9 rfl) (kPf rfl hc8 rfl (kMv rfl ?_))))
  rcases bn h with⟨hc10,h⟩|⟨hc10,h⟩
  ·refine skx ?_
   refine kPt rfl hc10 rfl (kAs rfl ?_)
   exact⟨true,h,atOk⟩
  refine kGd rfl aa hc10 (hMvA rfl) (kGd rfl aa hc10 (qInt rfl rfl rfl) (kPf rfl hc10 rfl (kAs rfl ?_)))
  exact⟨x1==95,h,atOk⟩
 refine skx ?_
 refine kGd rfl aa hc8 (hPf rfl hc9 rfl) (kPf rfl hc8 rfl (kMv rfl ?_))
 have hc11:false=false:=rfl
 refine kGd rfl aa hc11 (hMvA rfl) (kGd rfl aa hc11 (qInt rfl rfl rfl) (kPf rfl hc11 rfl (kAs rfl ?_)))
 exact⟨x1==95,h,atOk⟩
theorem asv (x1:Bt) (r:Bool) (h:oo x1=some r):Fp 90 [Pr.str x1] (Pb r):=by
 refine c8 (rs:=[2]) func90 rfl ntmps90 ⟨by decide,results90⟩ dcd (fun s0=>?_)
 unfold oo at h
 refine W_rs (kAs rfl (W_rs (kUn (np (R:=Rp.str) (ls:=([([99,108,97,115,115]:Bt),([101,120,116,101,110,100,115]:Bt),([115,116,97,116,105,99]:Bt),([118,111,105,100]:Bt),([105,110,116]:Bt),([98,111,111,108,101,97,110]:Bt),([105,102]:Bt),([101,108,115,101]:Bt),([119,104,105,108,101]:Bt),([114,101,116,117,114,110]:Bt),([112,114,105,110,116]:Bt),([116,114,117,101]:Bt),([102,97,108,115,101]:Bt),([110,117,108,108]:Bt),([116,104,105,115]:Bt),([110,101,119]:Bt)]:List Bt)) el22 nb ⟨rfl,rfl⟩ ⟨rfl,rfl,rfl,rfl,rfl,rfl,rfl,rfl,rfl,rfl,rfl,rfl,rfl,rfl,rfl,rfl,tv⟩) ?_)))
 refine kAsL rfl (a6 (W_rs (kAs rfl (az ?_))))
 obtain⟨z2l,hz2,h⟩:=ag h
 obtain⟨n2,hN2⟩:=bm hz2
 refine cp 0 (fun e C=>adl=some r/\At [] [] e C) ?_ ?_
 ·rintro e C ⟨h,a⟩
  refine W_at a ?_
  unfold adl at h
  refine W_rs (kAs rfl ?_)
  obtain rfl:=osj h
  exact a7 ⟨rfl,aa⟩
 refine dq (fun m e C=>∃x2,ez (fun s=>zf x1 s) m x2=some z2l/\At [(0,Pr.str x1),(3,ao Rp.str ([([99,108,97,115,115]:Bt),([101,120,116,101,110,100,115]:Bt),([115,116,97,116,105,99]:Bt),([118,111,105,100]:Bt),([105,110,116]:Bt),([98,111,111,108,101,97,110]:Bt),([105,102]:Bt),([101,108,115,101]:Bt),([119,104,105,108,101]:Bt),([114,101,116,117,114,110]:Bt),([112,114,105,110,116]:Bt),([116,114,117,101]:Bt),([102,97,108,115,101]:Bt),([110,117,108,108]:Bt),([116,104,105,115]:Bt),([110,101,119]:Bt)]:List Bt)),(4,P6 x2)] [] e C) n2 ⟨0,hN2,⟨⟨aa,aa,aa,tv⟩,A8.refl _⟩⟩ ?_
 rintro m e C ⟨x2,hN2,a⟩
 refine W_at a ?_
 obtain⟨m2,w2l,rfl,h2l,hn2,ho2⟩:=bc hN2
 replace h2l:zf x1 x2=some w2l:=h2l
 unfold zf at h2l
 refine a6 (W_rs (kMv rfl (kMvL rfl (kUn (jf rfl underlying22) ?_))))
 refine kIn rfl rfl rfl ?_
 refine a5 h2l rfl (fun _ h2l=>?_) (fun _ h2l=>?_)
 ·refine au (a6 (az (W_rs (kMvL rfl (kMv rfl ?_)))))
  obtain⟨x5,k,h2l⟩:=ag h2l
  refine kUn (du underlying22 sizeOf9 k) ?_
  refine kUn (bz ty9) ?_
  refine kMv rfl (kSt rfl rfl rfl ?_)
  refine a5 h2l rfl (fun _ h2l=>?_) (fun _ h2l=>?_)
  ·refine W_rs (kAs rfl ?_)
   obtain rfl:=ho2 _ (ojs h2l)
   replace h:some true=some r:=h
   obtain rfl:=osj h
   exact a7 ⟨rfl,aa⟩
  refine au (W_r (kMv rfl (kIn rfl rfl rfl (kAs rfl ?_))))
  exact⟨m2,lsu,w64 (x2+1),hn2 _ (ojs h2l),atOk⟩
 refine dp ?_
 obtain rfl:=ho2 _ (ojs h2l)
 exact⟨h,atOk⟩
theorem asu (x1:Bt) (x2 r:Int) (h:agy x1 x2=some r):Fp 91 [Pr.str x1,P6 x2] (P6 r):=by
 refine c8 (rs:=[4]) func91 rfl ntmps91 ⟨by decide,results91⟩ dcd (fun s0=>?_)
 unfold agy at h
 refine W_rs (kAs rfl (W_rs (kUn (np (R:=Rp.str) (ls:=([([61,61]:Bt),([33,61]:Bt),([60,61]:Bt),([62,61]:Bt),([38,38]:Bt),([124,124]:Bt)]:List Bt)) el22 nb ⟨rfl,rfl⟩ ⟨rfl,rfl,rfl,rfl,rfl,rfl,tv⟩) ?_)))
 refine kAsL rfl (a6 (W_rs (kAs rfl (az ?_))))
 obtain⟨z5l,hz5,h⟩:=ag h
 obtain⟨n5,hN5⟩:=bm hz5
 refine cp 0 (fun e C=>zc x1 x2=some r/\At [(0,Pr.str x1),(1,P6 x2)] [] e C) ?_ ?_
 ·rintro e C ⟨h,a⟩
  refine W_at a ?_
  unfold zc at h
  refine W_rs (kAs rfl (a6 (W_rs (kAs rfl (az ?_)))))
  obtain⟨z2l,hz2,h⟩:=ag h
  obtain⟨n2,hN2⟩:=bm hz2
  refine cp 2 (fun e C=>adi=some r/\At [] [] e C) ?_ ?_
  ·rintro e C ⟨h,a⟩
   refine W_at a ?_
   unfold adi at h
   refine W_rs (kAs rfl ?_)
   obtain rfl:=osj h
   exact a7 ⟨rfl,aa⟩
  refine dq (fun m e C=>∃x11,ez (fun s=>zb x1 x2 s) m x11=some z2l/\At [(0,Pr.str x1),(1,P6 x2),(7,Pr.str ([43,45,42,47,37,60,62,61,33,40,41,123,125,59,44,46]:Bt)),(8,P6 x11)] [] e C) n2 ⟨0,hN2,⟨⟨aa,aa,aa,aa,tv⟩,A8.refl _⟩⟩ ?_
  rintro m e C ⟨x11,hN2,a⟩
  refine W_at a ?_
  obtain⟨m2,w2l,rfl,h2l,hn2,ho2⟩:=bc hN2
  replace h2l:zb x1 x2 x11=some w2l:=h2l
  unfold zb at h2l
  refine a6 (W_rs (kMv rfl (kMv rfl (kUn (aji rfl underlying9) ?_))))
  refine kIn rfl rfl rfl ?_
  refine a5 h2l rfl (fun _ h2l=>?_) (fun _ h2l=>?_)
  ·refine au (a6 (az ?_))
   refine ba (fun e C=>∃x14,∃x15,adk x11 x14 x15=some w2l/\At [(0,Pr.str x1),(1,P6 x2),(7,Pr.str ([43,45,42,47,37,60,62,61,33,40,41,123,125,59,44,46]:Bt)),(8,P6 x11),(45,Pb (x14==x15))] [] e C) ?_ ?_
   ·rintro e C ⟨x14,x15,h2l,a⟩
    refine W_at a ?_
    unfold adk at h2l
    refine a5 h2l rfl (fun _ h2l=>?_) (fun _ h2l=>?_)
    ·refine W_rs (kAs rfl ?_)
     obtain rfl:=ho2 _ (ojs h2l)
     replace h:some 1=some r:=h
     obtain rfl:=osj h
     exact a7 ⟨rfl,aa⟩
    refine au (W_r (kMv rfl (kIn rfl rfl rfl (kAs rfl ?_))))
    exact⟨m2,lsu,w64 (x11+1),hn2 _ (ojs h2l),atOk⟩
   refine jg 7 hmx kr kr ?_
   refine lUn (hMvA rfl) (lUn (hMvA rfl) ?_)
   obtain⟨x14,k,h2l⟩:=ag h2l
   refine lUn (ah3 underlying9 k) ?_
   refine lUn (hMvA rfl) (lUn (hMvA rfl) ?_)
   obtain⟨x15,k,h2l⟩:=ag h2l
   refine lUn (ah3 underlying9 k) ?_
   refine lUn (qInt rfl rfl rfl) ?_
   exact⟨x14,x15,h2l,atOk⟩
  refine dp ?_
  obtain rfl:=ho2 _ (ojs h2l)
  exact⟨h,atOk⟩
 refine dq (fun m e C=>∃x3,ez (fun s=>za x1 x2 s) m x3=some z5l/\At [(0,Pr.str x1),(1,P6 x2),(5,ao Rp.str ([([61,61]:Bt),([33,61]:Bt),([60,61]:Bt),([62,61]:Bt),([38,38]:Bt),([124,124]:Bt)]:List Bt)),(6,P6 x3)] [] e C) n5 ⟨0,hN5,⟨⟨aa,aa,aa,aa,tv⟩,A8.refl _⟩⟩ ?_
 rintro m e C ⟨x3,hN5,a⟩
 refine W_at a ?_
 obtain⟨m5,w5l,rfl,h5l,hn5,ho5⟩:=bc hN5
 replace h5l:za x1 x2 x3=some w5l:=h5l
 unfold za at h5l
 refine a6 ?_
 refine ba (fun e C=>∃x6,zd x1 x2 x3 x6=some w5l/\At [(0,Pr.str x1),(1,P6 x2),(5,ao Rp.str ([([61,61]:Bt),([33,61]:Bt),([60,61]:Bt),([62,61]:Bt),([38,38]:Bt),([124,124]:Bt)]:List Bt)),(6,P6 x3),(20,Pb x6)] [] e C) ?_ ?_
 ·rintro e C ⟨x6,h5l,a⟩
  refine W_at a ?_
  unfold zd at h5l
  refine a5 h5l rfl (fun _ h5l=>?_) (fun _ h5l=>?_)
  ·refine au (a6 (az ?_))
   refine ba (fun e C=>∃x8,∃x9,adj x3 x8 x9=some w5l/\At [(0,Pr.str x1),(1,P6 x2),(5,ao Rp.str ([([61,61]:Bt),([33,61]:Bt),([60,61]:Bt),([62,61]:Bt),([38,38]:Bt),([124,124]:Bt)]:List Bt)),(6,P6 x3),(32,Pb (x8==x9))] [] e C) ?_ ?_
   ·rintro e C ⟨x8,x9,h5l,a⟩
    refine W_at a ?_
    unfold adj at h5l
    refine a5 h5l rfl (fun _ h5l=>?_) (fun _ h5l=>?_)
    ·refine W_rs (kAs rfl ?_)
     obtain rfl:=ho5 _ (ojs h5l)
     replace h:some 2=some r:=h
     obtain rfl:=osj h
     exact a7 ⟨rfl,aa⟩
    refine au (W_r (kMv rfl (kIn rfl rfl rfl (kAs rfl ?_))))
    exact⟨m5,lsu,w64 (x3+1),hn5 _ (ojs h5l),atOk⟩
   refine jg 10 hmx kr kr ?_
   refine lUn (hMvA rfl) (lUn (hMvA rfl) (lUn (hMvA rfl) (lUn (qInt rfl rfl rfl) ?_)))
   obtain⟨x8,k,h5l⟩:=ag h5l
   refine lUn (atb underlying9 k) ?_
   refine lUn (hMvL rfl) (lUn (hMvA rfl) ?_)
   obtain⟨x9,k,h5l⟩:=ag h5l
   refine lUn (du underlying22 sizeOf9 k) ?_
   refine lUn (bz ty9) ?_
   refine lUn (qStr rfl rfl rfl) ?_
   exact⟨x8,x9,h5l,atOk⟩
  refine dp ?_
  obtain rfl:=ho5 _ (ojs h5l)
  exact⟨h,atOk⟩
 refine W_r (kMv rfl (kMvL rfl (kUn (jf rfl underlying22) ?_)))
 refine kIn rfl rfl rfl (kMv rfl ?_)
 rcases bn h5l with⟨hc5,h5l⟩|⟨hc5,h5l⟩
 ·refine kGd rfl aa hc5 (hMvA rfl) (kGd rfl aa hc5 (qInt rfl rfl rfl) (kGd rfl aa hc5 (hMvA rfl) (kGd rfl aa hc5 (aji rfl underlying9) ?_)))
  refine kGd rfl aa hc5 (qInt rfl rfl rfl) (kPt rfl hc5 rfl ?_)
  exact⟨decide ((w64 (x2+2))<=(x1.length:Int)),h5l,atOk⟩
 refine skx ?_
 refine kPf rfl hc5 rfl ?_
 exact⟨false,h5l,atOk⟩
theorem ap9 (x1:Bt) (x2:Int) (r:Int × Int × Int) (h:ad6 x1 x2=some r):Fp 50 [Pr.str x1,P6 x2] (bj [P6 r.1,P6 r.2.1,P6 r.2.2]):=by
 refine c8 (rs:=[4,5,6]) func50 rfl ntmps50 ⟨by decide,results50⟩ dcd (fun s0=>?_)
 unfold ad6 at h
 refine W_rs (kAs rfl (kAs rfl (kAs rfl (W_rs (kAs rfl (a6 (W_rs (kMv rfl (kMv rfl ?_)))))))))
 obtain⟨x3,k,h⟩:=ag h
 refine kUn (ah3 underlying9 k) ?_
 refine cr h (af5 x3) rfl fun x4 _ h=>?_
 refine a5 h rfl (fun _ h=>?_) (fun _ h=>?_)
 ·refine a6 (az ?_)
  obtain⟨z3l,hz3,h⟩:=ag h
  obtain⟨n3,hN3⟩:=bm hz3
  refine cp 0 (fun e C=>∃x6,abl x1 x2 x6=some r/\At [(0,Pr.str x1),(1,P6 x2),(7,P6 x6)] [] e C) ?_ ?_
  ·rintro e C ⟨x6,h,a⟩
   refine W_at a ?_
   unfold abl at h
   refine W_rs (kMv rfl (kMv rfl (kMv rfl (kMv rfl (kIn rfl rfl rfl ?_)))))
   obtain⟨x13,k,h⟩:=ag h
   refine kUn (atb underlying9 k) ?_
   refine cr h (aqa x13) rfl fun x14 _ h=>kAs rfl (a6 ?_)
   refine ba (fun e C=>∃x18,qj x6 x18=some r/\At [(7,P6 x6),(47,Pb x18)] [] e C) ?_ ?_
   ·rintro e C ⟨x18,h,a⟩
    refine W_at a ?_
    unfold qj at h
    refine a5 h rfl (fun _ h=>?_) (fun _ h=>?_)
    ·refine W_rs (kAs rfl (kAs rfl (kAs rfl ?_)))
     obtain rfl:=osj h
     exact a7 ⟨rfl,aa⟩
    refine au (W_rs (kMv rfl (kAs rfl (kAs rfl (kAs rfl ?_)))))
    obtain rfl:=osj h
    exact a7 ⟨rfl,aa⟩
   refine W_r (kMv rfl (kMv rfl ?_))
   rcases bn h with⟨hc15,h⟩|⟨hc15,h⟩
   ·refine skx ?_
    refine kPt rfl hc15 rfl ?_
    exact⟨true,h,atOk⟩
   refine kGd rfl aa hc15 (hMvA rfl) (kGd rfl aa hc15 (qInt rfl rfl rfl) (kGd rfl aa hc15 (hMvA rfl) ?_))
   rcases bn h with⟨hc16,h⟩|⟨hc16,h⟩
   ·refine kGd rfl aa hc16 (hMvA rfl) (kGd rfl aa hc16 (hMvA rfl) ?_)
    obtain⟨x17,k,h⟩:=ag h
    refine kGd rfl aa hc16 (ah3 underlying9 k) ?_
    refine kGd rfl aa hc16 (qInt rfl rfl rfl) (kGd rfl aa hc15 (hPt rfl hc16 rfl) (kPf rfl hc15 rfl ?_))
    exact⟨x17==48,h,atOk⟩
   refine skx ?_
   refine kGd rfl aa hc15 (hPf rfl hc16 rfl) (kPf rfl hc15 rfl ?_)
   exact⟨false,h,atOk⟩
  refine dq (fun m e C=>∃x6,ez (fun s=>te x2 x1 s) m x6=some z3l/\At [(0,Pr.str x1),(1,P6 x2),(7,P6 x6)] [] e C) n3 ⟨0,hN3,⟨⟨aa,aa,aa,tv⟩,A8.refl _⟩⟩ ?_
  rintro m e C ⟨x6,hN3,a⟩
  refine W_at a ?_
  obtain⟨m3,w3l,rfl,h3l,hn3,ho3⟩:=bc hN3
  replace h3l:te x2 x1 x6=some w3l:=h3l
  unfold te at h3l
  refine a6 ?_
  refine ba (fun e C=>∃x11,tf x6 x11=some w3l/\At [(0,Pr.str x1),(1,P6 x2),(7,P6 x6),(27,Pb x11)] [] e C) ?_ ?_
  ·rintro e C ⟨x11,h3l,a⟩
   refine W_at a ?_
   unfold tf at h3l
   refine a5 h3l rfl (fun _ h3l=>?_) (fun _ h3l=>?_)
   ·refine au (az (W_r (kMv rfl (kIn rfl rfl rfl (kAs rfl ?_)))))
    exact⟨m3,lsu,w64 (x6+1),hn3 _ (ojs h3l),atOk⟩
   refine dp ?_
   obtain rfl:=ho3 _ (ojs h3l)
   exact⟨x6,h,atOk⟩
  refine W_r (kMv rfl (kMv rfl (kIn rfl rfl rfl (kMv rfl (kUn (aji rfl underlying9) ?_)))))
  refine kIn rfl rfl rfl (kMv rfl ?_)
  rcases bn h3l with⟨hc8,h3l⟩|⟨hc8,h3l⟩
  ·refine kGd rfl aa hc8 (hMvA rfl) (kGd rfl aa hc8 (hMvA rfl) (kGd rfl aa hc8 (hMvA rfl) (kGd rfl aa hc8 (qInt rfl rfl rfl) ?_)))
   obtain⟨x9,k,h3l⟩:=ag h3l
   refine kGd rfl aa hc8 (ah3 underlying9 k) ?_
   obtain⟨x10,k,h3l⟩:=ag h3l
   refine kGd rfl aa hc8 (c7 (af5 x9 _ k)) ?_
   refine kPt rfl hc8 rfl ?_
   exact⟨x10,h3l,atOk⟩
  refine skx ?_
  refine kPf rfl hc8 rfl ?_
  exact⟨false,h3l,atOk⟩
 refine au (a6 (W_rs (kMv rfl (kMv rfl ?_))))
 obtain⟨x20,k,h⟩:=ag h
 refine kUn (ah3 underlying9 k) ?_
 refine cr h (ai1 x20) rfl fun x21 _ h=>?_
 refine a5 h rfl (fun _ h=>?_) (fun _ h=>?_)
 ·refine a6 (az ?_)
  obtain⟨z6l,hz6,h⟩:=ag h
  obtain⟨n6,hN6⟩:=bm hz6
  refine cp 2 (fun e C=>∃x23,abk x1 x2 x23=some r/\At [(0,Pr.str x1),(1,P6 x2),(7,P6 x23)] [] e C) ?_ ?_
  ·rintro e C ⟨x23,h,a⟩
   refine W_at a ?_
   unfold abk at h
   refine a6 (W_rs (kMv rfl (kIn rfl rfl rfl ?_)))
   refine a5 h rfl (fun _ h=>?_) (fun _ h=>?_)
   ·refine W_rs (kAs rfl (kAs rfl (kAs rfl ?_)))
    obtain rfl:=osj h
    exact a7 ⟨rfl,aa⟩
   refine au (W_rs (kMv rfl (kMv rfl (kMv rfl (kMv rfl (kIn rfl rfl rfl ?_))))))
   obtain⟨x34,k,h⟩:=ag h
   refine kUn (atb underlying9 k) ?_
   refine cr h (asv x34) rfl fun x35 _ h=>kAs rfl (a6 (W_rs (kMv rfl ?_)))
   refine a5 h rfl (fun _ h=>?_) (fun _ h=>?_)
   ·refine W_rs (kMv rfl (kAs rfl (kAs rfl (kAs rfl ?_))))
    obtain rfl:=osj h
    exact a7 ⟨rfl,aa⟩
   refine au (W_rs (kMv rfl (kAs rfl (kAs rfl (kAs rfl ?_)))))
   obtain rfl:=osj h
   exact a7 ⟨rfl,aa⟩
  refine dq (fun m e C=>∃x23,ez (fun s=>tc x2 x1 s) m x23=some z6l/\At [(0,Pr.str x1),(1,P6 x2),(7,P6 x23)] [] e C) n6 ⟨0,hN6,⟨⟨aa,aa,aa,tv⟩,A8.refl _⟩⟩ ?_
  rintro m e C ⟨x23,hN6,a⟩
  refine W_at a ?_
  obtain⟨m6,w6l,rfl,h6l,hn6,ho6⟩:=bc hN6
  replace h6l:tc x2 x1 x23=some w6l:=h6l
  unfold tc at h6l
  refine a6 ?_
  refine ba (fun e C=>∃x31,qi x23 x31=some w6l/\At [(0,Pr.str x1),(1,P6 x2),(7,P6 x23),(74,Pb x31)] [] e C) ?_ ?_
  ·rintro e C ⟨x31,h6l,a⟩
   refine W_at a ?_
   unfold qi at h6l
   refine a5 h6l rfl (fun _ h6l=>?_) (fun _ h6l=>?_)
   ·refine au (az (W_r (kMv rfl (kIn rfl rfl rfl (kAs rfl ?_)))))
    exact⟨m6,lsu,w64 (x23+1),hn6 _ (ojs h6l),atOk⟩
   refine dp ?_
   obtain rfl:=ho6 _ (ojs h6l)
   exact⟨x23,h,atOk⟩
  refine W_r (kMv rfl (kMv rfl (kIn rfl rfl rfl (kMv rfl (kUn (aji rfl underlying9) ?_)))))
  refine kIn rfl rfl rfl (kMv rfl ?_)
  rcases bn h6l with⟨hc25,h6l⟩|⟨hc25,h6l⟩
  ·refine kGd rfl aa hc25 (hMvA rfl) (kGd rfl aa hc25 (hMvA rfl) (kGd rfl aa hc25 (hMvA rfl) (kGd rfl aa hc25 (qInt rfl rfl rfl) ?_)))
   obtain⟨x26,k,h6l⟩:=ag h6l
   refine kGd rfl aa hc25 (ah3 underlying9 k) ?_
   obtain⟨x27,k,h6l⟩:=ag h6l
   refine kGd rfl aa hc25 (c7 (ai1 x26 _ k)) ?_
   refine kGd rfl aa hc25 (hMvA rfl) ?_
   rcases bn h6l with⟨hc28,h6l⟩|⟨hc28,h6l⟩
   ·refine skx ?_
    refine kGd rfl aa hc25 (hPt rfl hc28 rfl) (kPt rfl hc25 rfl ?_)
    exact⟨true,h6l,atOk⟩
   refine kGd rfl aa hc28 (hMvA rfl) (kGd rfl aa hc28 (hMvA rfl) (kGd rfl aa hc28 (hMvA rfl) (kGd rfl aa hc28 (qInt rfl rfl rfl) ?_)))
   obtain⟨x29,k,h6l⟩:=ag h6l
   refine kGd rfl aa hc28 (ah3 underlying9 k) ?_
   obtain⟨x30,k,h6l⟩:=ag h6l
   refine kGd rfl aa hc28 (c7 (af5 x29 _ k)) ?_
   refine kGd rfl aa hc25 (hPf rfl hc28 rfl) (kPt rfl hc25 rfl ?_)
   exact⟨x30,h6l,atOk⟩
  refine skx ?_
  refine kPf rfl hc25 rfl ?_
  exact⟨false,h6l,atOk⟩
 refine au (W_rs (kMv rfl (kMv rfl (cr h (asu x1 x2) rfl fun x37 _ h=>kAs rfl (a6 (W_rs (kMv rfl (kIn rfl rfl rfl ?_))))))))
 refine a5 h rfl (fun _ h=>?_) (fun _ h=>?_)
 ·refine W_rs (kAs rfl (kAs rfl (kAs rfl ?_)))
  obtain rfl:=osj h
  exact a7 ⟨rfl,aa⟩
 refine au (W_rs (kMv rfl (kAs rfl (kAs rfl (kAs rfl ?_)))))
 obtain rfl:=osj h
 exact a7 ⟨rfl,aa⟩
theorem at7 (x1:Bt) (r:(List C5) × Int × Int) (h:aii x1=some r):Fp 21 [Pr.str x1] (bj [ao bu r.1,P6 r.2.1,P6 r.2.2]):=by
 refine c8 (rs:=[2,3,4]) func21 rfl ntmps21 ⟨by decide,results21⟩ dcd (fun s0=>?_)
 unfold aii at h
 refine W_rs (kAs rfl (kAs rfl (kAs rfl (a6 (W_rs (kMv rfl (kUn (aji rfl underlying9) ?_)))))))
 refine kIn rfl rfl rfl ?_
 refine a5 h rfl (fun _ h=>?_) (fun _ h=>?_)
 ·refine W_rs (kAs rfl (kAs rfl (kAs rfl ?_)))
  obtain rfl:=osj h
  exact a7 ⟨rfl,aqn ⟨dr _,aa,aa,tv⟩⟩
 refine au (W_rs (kAs rfl (W_rs (kAs rfl (az ?_)))))
 obtain⟨n1,hN1⟩:=bm h
 refine agk [5] bu 45 (fun v24=>?_) ⟨rfl,tv⟩
 refine dq (fun m e C=>∃x4,∃x5,∃v3,ez (fun s=>ab6 x1 s.1 s.2) m (x4,x5)=some r/\At [(0,Pr.str x1),(5,Pi v3),(6,P6 x4)] [E1 v3 bu x5 45] e C) n1 ⟨0,[],v24,hN1,⟨⟨aa,aa,aa,tv⟩,A8.refl _⟩⟩ ?_
 rintro m e C ⟨x4,x5,v3,hN1,a⟩
 refine W_at a ?_
 obtain⟨m1,w1l,rfl,h1l,hn1,ho1⟩:=bc hN1
 replace h1l:ab6 x1 x4 x5=some w1l:=h1l
 unfold ab6 at h1l
 refine az (W_rs (kMv rfl (kMv rfl ?_)))
 obtain⟨⟨x9,x10⟩,k,h1l⟩:=ag h1l
 refine kUn (c7 (ang x1 x4 _ k)) ?_
 refine kUn (hMv (out:=bj [P6 x9,Pb x10]) rfl) (kUn al ?_)
 refine kUn al ?_
 refine kAs rfl (kAs rfl (a6 (W_rs (kMv rfl (kNo rfl ?_)))))
 refine a5 h1l rfl (fun _ h1l=>?_) (fun _ h1l=>?_)
 ·refine W_rs (kMv rfl (kAs rfl (kAs rfl (kAs rfl ?_))))
  have h:some ([],x9,32)=some r:=congrArg some (ho1 _ (ojs h1l))
  obtain rfl:=osj h
  exact a7 ⟨rfl,aqn ⟨dr _,aa,aa,tv⟩⟩
 refine au (a6 (W_rs (kMv rfl (kMv rfl (kUn (aji rfl underlying9) ?_)))))
 refine kIn rfl rfl rfl ?_
 refine a5 h1l rfl (fun _ h1l=>?_) (fun _ h1l=>?_)
 ·refine W_rs (kMv rfl (kMv rfl (kMv rfl (kMv rfl ?_))))
  obtain⟨x13,k,h1l⟩:=ag h1l
  refine kUn (qSubL underlying9 k) ?_
  refine kUn (fk st45 ⟨(C5.mk 5 [] 0 []),⟨_,rfl,rfl,qbj⟩,⟨(C5.mk 5 [] x9 []),⟨_,rfl,rfl,qbj⟩,⟨(C5.mk 5 [] x9 x13),⟨_,rfl,rfl,qbj⟩,rfl⟩⟩⟩) ?_
  refine kUn (cm (R:=bu) (a:=(C5.mk 5 [] x9 x13)) el41 nb) ?_
  obtain⟨x14,k,h1l⟩:=ag h1l
  refine fp 0 el41 k (fun v15=>?_)
  refine kAs rfl (kAs rfl (kAs rfl ?_))
  have h:some (x14,0,0)=some r:=congrArg some (ho1 _ (ojs h1l))
  refine aly 0 [2] ?_ rfl ⟨rfl,tv⟩
  obtain rfl:=osj h
  exact a7 ⟨rfl,aa⟩
 refine au (W_rs (kMv rfl (kMv rfl ?_)))
 obtain⟨⟨x16,x17,x18⟩,k,h1l⟩:=ag h1l
 refine kUn (c7 (ap9 x1 x9 _ k)) ?_
 refine kUn (hMv (out:=bj [P6 x16,P6 x17,P6 x18]) rfl) (kUn al ?_)
 refine kUn al ?_
 refine kUn al ?_
 refine kAs rfl (kAs rfl (kAs rfl (a6 (W_rs (kMv rfl (kIn rfl rfl rfl ?_))))))
 refine a5 h1l rfl (fun _ h1l=>?_) (fun _ h1l=>?_)
 ·refine W_rs (kMv rfl (kMv rfl (kAs rfl (kAs rfl (kAs rfl ?_)))))
  have h:some ([],x9,x18)=some r:=congrArg some (ho1 _ (ojs h1l))
  obtain rfl:=osj h
  exact a7 ⟨rfl,aqn ⟨dr _,aa,aa,tv⟩⟩
 refine au ?_
 refine ba (fun e C=>∃x22,∃v23,afa x9 x17 x22=some w1l/\At [(0,Pr.str x1),(5,Pi v23),(7,P6 x9),(10,P6 x17)] [E1 v23 bu x22 45] e C) ?_ ?_
 ·rintro e C ⟨x22,v23,h1l,a⟩
  refine W_at a ?_
  unfold afa at h1l
  refine W_r (kMv rfl (kMv rfl (kIn rfl rfl rfl (kAs rfl ?_))))
  exact⟨m1,lsu,w64 (x9+x17),x22,v23,hn1 _ (ojs h1l),atOk⟩
 refine jg 15 hmx kr kr ?_
 refine lUn (hMvA rfl) (lUn (hMvA rfl) (lUn (hMvA rfl) (lUn (hMvA rfl) (lUn (hMvA rfl) (lUn (hMvA rfl) (lUn (qInt rfl rfl rfl) ?_))))))
 obtain⟨x20,k,h1l⟩:=ag h1l
 refine lUn (atb underlying9 k) ?_
 refine lUn (hMvA rfl) (lUn (hMvA rfl) (lUn (hMvA rfl) (lUn (hMvA rfl) ?_)))
 obtain⟨x21,k,h1l⟩:=ag h1l
 refine lUn (atb underlying9 k) ?_
 refine lUn (fk st45 ⟨(C5.mk x16 [] 0 []),⟨_,rfl,rfl,qbj⟩,⟨(C5.mk x16 x20 0 []),⟨_,rfl,rfl,qbj⟩,⟨(C5.mk x16 x20 x9 []),⟨_,rfl,rfl,qbj⟩,⟨(C5.mk x16 x20 x9 x21),⟨_,rfl,rfl,qbj⟩,rfl⟩⟩⟩⟩) ?_
 refine lUn (cm (R:=bu) (a:=(C5.mk x16 x20 x9 x21)) el41 nb) ?_
 obtain⟨x22,k,h1l⟩:=ag h1l
 refine fp 0 el41 k (fun v23=>?_)
 refine kAs rfl ?_
 exact⟨x22,v23,h1l,atOk⟩
theorem br (x1:List C5) (x2:Int) (x3:Bt) (r:Bool) (h:cz x1 x2 x3=some r):Fp 92 [ao bu x1,P6 x2,Pr.str x3] (Pb r):=by
 refine c8 (rs:=[6]) func92 rfl ntmps92 ⟨by decide,results92⟩ dcd (fun s0=>?_)
 unfold cz at h
 refine W_rs (kAs rfl ?_)
 refine ba (fun e C=>∃x18,yb x18=some r/\At [(6,Pb x18)] [] e C) ?_ ?_
 ·rintro e C ⟨x18,h,a⟩
  refine W_at a ?_
  unfold yb at h
  obtain rfl:=osj h
  exact a7 ⟨rfl,aa⟩
 refine W_r (kMv rfl (kMvL rfl (kUn (jf rfl underlying41) ?_)))
 refine kIn rfl rfl rfl (kMv rfl ?_)
 rcases bn h with⟨hc4,h⟩|⟨hc4,h⟩
 ·refine kGd rfl aa hc4 (hMvL rfl) (kGd rfl aa hc4 (hMvA rfl) ?_)
  obtain⟨x5,k,h⟩:=ag h
  refine kGd rfl aa hc4 (du underlying41 sizeOf45 k) ?_
  refine kGd rfl aa hc4 (dv aag fy) ?_
  refine kGd rfl aa hc4 (bz ty9) ?_
  refine kGd rfl aa hc4 (hMvA rfl) (kGd rfl aa hc4 (qStr rfl rfl rfl) (kPt rfl hc4 rfl (kMv rfl ?_)))
  rcases bn h with⟨hc6,h⟩|⟨hc6,h⟩
  ·refine kGd rfl aa hc6 (hMvL rfl) (kGd rfl aa hc6 (hMvA rfl) ?_)
   obtain⟨x7,k,h⟩:=ag h
   refine kGd rfl aa hc6 (du underlying41 sizeOf45 k) ?_
   refine kGd rfl aa hc6 (dv an8 se) ?_
   refine kGd rfl aa hc6 (bz ty3) ?_
   refine kGd rfl aa hc6 (qInt rfl rfl rfl) (kPt rfl hc6 rfl (kMv rfl ?_))
   rcases bn h with⟨hc8,h⟩|⟨hc8,h⟩
   ·refine kGd rfl aa hc8 (hMvL rfl) (kGd rfl aa hc8 (hMvA rfl) ?_)
    obtain⟨x9,k,h⟩:=ag h
    refine kGd rfl aa hc8 (du underlying41 sizeOf45 k) ?_
    refine kGd rfl aa hc8 (dv an8 se) ?_
    refine kGd rfl aa hc8 (bz ty3) ?_
    refine kGd rfl aa hc8 (qInt rfl rfl rfl) (kPt rfl hc8 rfl (kAs rfl ?_))
    exact⟨x9.Kind != 5,h,atOk⟩
   refine skx ?_
   refine kPf rfl hc8 rfl (kAs rfl ?_)
   exact⟨false,h,atOk⟩
  refine skx ?_
  refine kPf rfl hc6 rfl (kMv rfl ?_)
  have hc10:false=false:=rfl
  refine skx ?_
  refine kPf rfl hc10 rfl (kAs rfl ?_)
  exact⟨false,h,atOk⟩
 refine skx ?_
 refine kPf rfl hc4 rfl (kMv rfl ?_)
 have hc12:false=false:=rfl
 refine skx ?_
 refine kPf rfl hc12 rfl (kMv rfl ?_)
 have hc16:false=false:=rfl
 refine skx ?_
 refine kPf rfl hc16 rfl (kAs rfl ?_)
 exact⟨false,h,atOk⟩
theorem cj (x1:Int) (r:C6) (h:c6 x1=some r):Fp 93 [P6 x1] ((ah).val r):=by
 refine c9 (rs:=[.cell 2 97]) func93 rfl ntmps93 results93 dcd (fun s0=>?_)
 unfold c6 at h
 refine W_rs (bg al97 fun b2=>W_rs (kMv rfl (kUn (fk st97 ⟨(C6.mk x1 0),⟨_,rfl,rfl,qbj⟩,⟨(C6.mk x1 120),⟨_,rfl,rfl,qbj⟩,rfl⟩⟩) ?_)))
 refine am 0 rfl rfl (Upd.refl _) rfl sizeOf97 ?_
 obtain rfl:=osj h
 exact a7 ⟨rfl,[(ah).val (C6.mk x1 120)],⟨yBox 0 ty97 aa,tv⟩,aa⟩
theorem ki (x1:List C5) (x2:Int) (r:Bool) (h:j0 x1 x2=some r):Fp 94 [ao bu x1,P6 x2] (Pb r):=by
 refine c8 (rs:=[4]) func94 rfl ntmps94 ⟨by decide,results94⟩ dcd (fun s0=>?_)
 unfold j0 at h
 refine W_rs (kAs rfl ?_)
 refine ba (fun e C=>∃x5,vk x5=some r/\At [(4,Pb x5)] [] e C) ?_ ?_
 ·rintro e C ⟨x5,h,a⟩
  refine W_at a ?_
  unfold vk at h
  obtain rfl:=osj h
  exact a7 ⟨rfl,aa⟩
 refine W_r (kMv rfl (kMvL rfl (kUn (jf rfl underlying41) ?_)))
 refine kIn rfl rfl rfl (kMv rfl ?_)
 rcases bn h with⟨hc3,h⟩|⟨hc3,h⟩
 ·refine kGd rfl aa hc3 (hMvL rfl) (kGd rfl aa hc3 (hMvA rfl) ?_)
  obtain⟨x4,k,h⟩:=ag h
  refine kGd rfl aa hc3 (du underlying41 sizeOf45 k) ?_
  refine kGd rfl aa hc3 (dv an8 se) ?_
  refine kGd rfl aa hc3 (bz ty3) ?_
  refine kGd rfl aa hc3 (qInt rfl rfl rfl) (kPt rfl hc3 rfl (kAs rfl ?_))
  exact⟨x4.Kind==1,h,atOk⟩
 refine skx ?_
 refine kPf rfl hc3 rfl (kAs rfl ?_)
 exact⟨false,h,atOk⟩
theorem am2 (x1:List C5) (x2 r:Int) (h:agp x1 x2=some r):Fp 142 [ao bu x1,P6 x2] (P6 r):=by
 refine c8 (rs:=[4]) func142 rfl ntmps142 ⟨by decide,results142⟩ dcd (fun s0=>?_)
 unfold agp at h
 refine W_rs (kAs rfl ?_)
 refine ba (fun e C=>∃x3,∃x4,ae8 x3 x4=some r/\At [(4,P6 (w64 (x3.At+(x4.Text.length:Int))))] [] e C) ?_ ?_
 ·rintro e C ⟨x3,x4,h,a⟩
  refine W_at a ?_
  unfold ae8 at h
  obtain rfl:=osj h
  exact a7 ⟨rfl,aa⟩
 refine jg 15 hmx kr kr ?_
 refine lUn (hMvL rfl) (lUn (hMvA rfl) (lUn (qInt rfl rfl rfl) ?_))
 obtain⟨x3,k,h⟩:=ag h
 refine lUn (du underlying41 sizeOf45 k) ?_
 refine lUn (dv aft kf) ?_
 refine lUn (bz ty3) ?_
 refine lUn (hMvL rfl) (lUn (hMvA rfl) (lUn (qInt rfl rfl rfl) ?_))
 obtain⟨x4,k,h⟩:=ag h
 refine lUn (du underlying41 sizeOf45 k) ?_
 refine lUn (dv aag fy) ?_
 refine lUn (bz ty9) ?_
 refine lUn (aji rfl underlying9) ?_
 refine lUn (qInt rfl rfl rfl) (lUn (hAsA rfl) ?_)
 exact⟨x3,x4,h,atOk⟩
theorem ej (x1:List C5) (x2 x3 x4:Int) (x5:List B5) (r:B5) (h:fx x1 x2 x3 x4 x5=some r):Fp 96 [ao bu x1,P6 x2,P6 x3,P6 x4,ao af x5] ((af).val r):=by
 refine c9 (rs:=[.cell 10 64]) func96 rfl ntmps96 results96 dcd (fun s0=>?_)
 unfold fx at h
 refine W_rs (bg al64 fun b6=>?_)
 refine ba (fun e C=>∃x7,∃x8,ade x2 x5 x7 x8=some r/\At [(10,Pr.pt b6 0)] [D8 b6 af (B5.mk x2 [] [] 0 x7.At x8 (-1) (-1) x5)] e C) ?_ ?_
 ·rintro e C ⟨x7,x8,h,a⟩
  refine W_at a ?_
  unfold ade at h
  obtain rfl:=osj h
  exact a7 ⟨rfl,[(af).val (B5.mk x2 [] [] 0 x7.At x8 (-1) (-1) x5)],⟨yBox 0 ty64 aa,tv⟩,aa⟩
 refine jg 11 hmx kr kr ?_
 refine lUn (hMvA rfl) (lUn (hMvL rfl) (lUn (hMvA rfl) ?_))
 obtain⟨x7,k,h⟩:=ag h
 refine lUn (du underlying41 sizeOf45 k) ?_
 refine lUn (dv aft kf) ?_
 refine lUn (bz ty3) ?_
 refine lUn (hMvL rfl) (lUn (hMvA rfl) ?_)
 obtain⟨x8,k,h⟩:=ag h
 refine lUn (c7 (am2 x1 x4 _ k)) ?_
 refine lUn (hMvL rfl) (lUn (fg bi st64 ⟨(B5.mk x2 [] [] 0 0 0 0 0 []),⟨_,rfl,rfl,qbj⟩,⟨(B5.mk x2 [] [] 0 x7.At 0 0 0 []),⟨_,rfl,rfl,qbj⟩,⟨(B5.mk x2 [] [] 0 x7.At x8 0 0 []),⟨_,rfl,rfl,qbj⟩,⟨(B5.mk x2 [] [] 0 x7.At x8 (-1) 0 []),⟨_,rfl,rfl,qbj⟩,⟨(B5.mk x2 [] [] 0 x7.At x8 (-1) (-1) []),⟨_,rfl,rfl,qbj⟩,⟨(B5.mk x2 [] [] 0 x7.At x8 (-1) (-1) x5),⟨_,rfl,rfl,qbj⟩,rfl⟩⟩⟩⟩⟩⟩) ?_)
 refine am 0 rfl rfl (Upd.refl _) rfl sizeOf64 ?_
 exact⟨x7,x8,h,atOk⟩
end Go.Proofs.YtcndghapmoaidaaGreatDoor
set_option linter.unusedSectionVars false
set_option maxRecDepth 100000
set_option maxHeartbeats 4000000
namespace Go.Proofs.YtcndghapmoaidaaGreatDoor
open Go Go.Cn Tryz
attribute [local irreducible] mq ao
theorem da (r:C6) (h:en=some r):Fp 97 [] ((ah).val r):=by
 refine c9 (rs:=[.cell 0 97]) func97 rfl ntmps97 results97 dcd (fun s0=>?_)
 unfold en at h
 refine W_rs (bg al97 fun b1=>W_rs (kUn (fk st97 ⟨(C6.mk (-1) 0),⟨_,rfl,rfl,qbj⟩,rfl⟩) ?_))
 refine am 0 rfl rfl (Upd.refl _) rfl sizeOf97 ?_
 obtain rfl:=osj h
 exact a7 ⟨rfl,[(ah).val (C6.mk (-1) 0)],⟨yBox 0 ty97 aa,tv⟩,aa⟩
theorem ak4 (x1:List C5) (x2:Int) (r:Bool) (h:adq x1 x2=some r):Fp 138 [ao bu x1,P6 x2] (Pb r):=by
 refine c8 (rs:=[4]) func138 rfl ntmps138 ⟨by decide,results138⟩ dcd (fun s0=>?_)
 unfold adq at h
 refine W_rs (kAs rfl ?_)
 refine ba (fun e C=>∃x18,r6 x18=some r/\At [(4,Pb x18)] [] e C) ?_ ?_
 ·rintro e C ⟨x18,h,a⟩
  refine W_at a ?_
  unfold r6 at h
  obtain rfl:=osj h
  exact a7 ⟨rfl,aa⟩
 refine W_r (kMvL rfl (kMv rfl (cr h (ki x1 x2) rfl fun x3 _ h=>kMv rfl ?_)))
 rcases bn h with⟨hc4,h⟩|⟨hc4,h⟩
 ·refine skx ?_
  refine kPt rfl hc4 rfl (kMv rfl ?_)
  have hc12:true=true:=rfl
  refine skx ?_
  refine kPt rfl hc12 rfl (kMv rfl ?_)
  have hc16:true=true:=rfl
  refine skx ?_
  refine kPt rfl hc16 rfl (kAs rfl ?_)
  exact⟨true,h,atOk⟩
 refine kGd rfl aa hc4 (hMvL rfl) (kGd rfl aa hc4 (hMvA rfl) ?_)
 obtain⟨x5,k,h⟩:=ag h
 refine kGd rfl aa hc4 (c7 (br x1 x2 ([105,110,116]:Bt) _ k)) ?_
 refine kPf rfl hc4 rfl (kMv rfl ?_)
 rcases bn h with⟨hc6,h⟩|⟨hc6,h⟩
 ·refine skx ?_
  refine kPt rfl hc6 rfl (kMv rfl ?_)
  have hc10:true=true:=rfl
  refine skx ?_
  refine kPt rfl hc10 rfl (kAs rfl ?_)
  exact⟨true,h,atOk⟩
 refine kGd rfl aa hc6 (hMvL rfl) (kGd rfl aa hc6 (hMvA rfl) ?_)
 obtain⟨x7,k,h⟩:=ag h
 refine kGd rfl aa hc6 (c7 (br x1 x2 ([98,111,111,108,101,97,110]:Bt) _ k)) ?_
 refine kPf rfl hc6 rfl (kMv rfl ?_)
 rcases bn h with⟨hc8,h⟩|⟨hc8,h⟩
 ·refine skx ?_
  refine kPt rfl hc8 rfl (kAs rfl ?_)
  exact⟨true,h,atOk⟩
 refine kGd rfl aa hc8 (hMvL rfl) (kGd rfl aa hc8 (hMvA rfl) ?_)
 obtain⟨x9,k,h⟩:=ag h
 refine kGd rfl aa hc8 (c7 (br x1 x2 ([118,111,105,100]:Bt) _ k)) ?_
 refine kPf rfl hc8 rfl (kAs rfl ?_)
 exact⟨x9,h,atOk⟩
theorem af3 (x1:List C5) (x2:B5) (x3:Int) (r:B5) (h:ya x1 x2 x3=some r):Fp 141 [ao bu x1,(af).val x2,P6 x3] ((af).val r):=by
 refine c9 (rs:=[.cell 6 64]) func141 rfl ntmps141 results141 dcd (fun s0=>?_)
 unfold ya at h
 refine W_rs ?_
 refine rBox (R:=af) (a:=x2) rfl (fun b4=>?_)
 refine bg al64 fun b5=>W_rs (kMvL rfl (kMv rfl ?_))
 obtain⟨x6,k,h⟩:=ag h
 refine kUn (du underlying41 sizeOf45 k) ?_
 refine kUn (dv aag fy) ?_
 refine kUn (bz ty9) ?_
 refine kUn (aj ti) ?_
 refine am 0 rfl rfl ai0 rfl sizeOf9 (W_rs (kMvL rfl (kMv rfl ?_)))
 obtain⟨x7,k,h⟩:=ag h
 refine kUn (du underlying41 sizeOf45 k) ?_
 refine kUn (dv aft kf) ?_
 refine kUn (bz ty3) ?_
 refine kUn (aj ah9) ?_
 refine am 0 rfl rfl ag5 rfl sizeOf3 (W_rs (kMvL rfl (kMv rfl (kIn rfl rfl rfl ?_))))
 obtain⟨x8,k,h⟩:=ag h
 refine kUn (du underlying41 sizeOf45 k) ?_
 refine kUn (dv aag fy) ?_
 refine kUn (bz ty9) ?_
 refine kUn (aj ec) ?_
 refine am 0 rfl rfl q8 rfl sizeOf9 (W_rs (kMvL rfl (kMv rfl (kIn rfl rfl rfl ?_))))
 obtain⟨x9,k,h⟩:=ag h
 refine kUn (du underlying41 sizeOf45 k) ?_
 refine kUn (dv aft kf) ?_
 refine kUn (bz ty3) ?_
 refine kUn (aj mi) ?_
 refine am 0 rfl rfl y5 rfl sizeOf3 (W_rs (kUn (ap 0 ty64 (Sub.refl _)) ?_))
 refine am 1 rfl rfl (Upd.refl _) rfl sizeOf64 ?_
 obtain rfl:=osj h
 exact a7 ⟨rfl,[(af).val ({{{{x2 with Type_:=x6.Text} with TypeAt:=x7.At} with Text:=x8.Text} with At:=x9.At})],⟨yBox 1 ty64 aa,tv⟩,aa⟩
theorem ape (x1:List C5) (x2:Int) (r:(List B5) × Int × C6) (h:ab1 x1 x2=some r):Fc 139 [ao bu x1,P6 x2] [] (fun q C'=>∃u0,q=bj [Pi u0,P6 r.2.1,(ah).val r.2.2]/\C'=[E1 u0 af r.1 64]):=by
 refine aaj (rs:=[.tmp 4,.tmp 5,.cell 6 97]) func139 rfl ntmps139 results139 dcd (fun s0=>?_)
 unfold ab1 at h
 refine W_rs (kAs rfl (kAs rfl (bg al97 fun b3=>W_rs (kAs rfl (a6 (W_rs (kMvL rfl (kMv rfl (cr h (br x1 x2 ([41]:Bt)) rfl fun x4 _ h=>?_)))))))))
 refine a5 h rfl (fun _ h=>?_) (fun _ h=>?_)
 ·refine W_rs (kMv rfl (kMv rfl (kIn rfl rfl rfl (cr h (da) rfl fun x6 _ h=>kAs rfl (kAs rfl (am 0 rfl rfl (Upd.refl _) rfl sizeOf97 ?_))))))
  refine agk [4] af 64 (fun v7=>?_) ⟨rfl,tv⟩
  obtain rfl:=osj h
  exact a7 ⟨.inl rfl,[Pi v7,P6 (w64 (x2+1)),(ah).val x6],⟨yT aa,yT aa,yBox 0 ty97 aa,tv⟩,_,A8.of [1] rfl,v7,rfl,rfl⟩
 refine au (az ?_)
 obtain⟨n1,hN1⟩:=bm h
 refine agk [7] af 64 (fun v36=>?_) ⟨rfl,tv⟩
 refine dq (fun m e C=>∃x8,∃x10,∃v9,ez (fun s=>uv x1 s.1 s.2) m (x8,x10)=some r/\At [(0,ao bu x1),(1,P6 x8),(6,Pr.pt b3 0),(7,Pi v9)] [D8 b3 ah (C6.mk 0 0),E1 v9 af x10 64] e C) n1 ⟨x2,[],v36,hN1,⟨⟨aa,aa,aa,aa,tv⟩,A8.refl _⟩⟩ ?_
 rintro m e C ⟨x8,x10,v9,hN1,a⟩
 refine W_at a ?_
 obtain⟨m1,w1l,rfl,h1l,hn1,ho1⟩:=bc hN1
 replace h1l:uv x1 x8 x10=some w1l:=h1l
 unfold uv at h1l
 refine az (a6 ?_)
 refine ba (fun e C=>∃x17,uw x8 x1 x10 x17=some w1l/\At [(0,ao bu x1),(1,P6 x8),(6,Pr.pt b3 0),(7,Pi v9),(23,Pb x17)] [D8 b3 ah (C6.mk 0 0),E1 v9 af x10 64] e C) ?_ ?_
 ·rintro e C ⟨x17,h1l,a⟩
  refine W_at a ?_
  unfold uw at h1l
  refine a5 h1l rfl (fun _ h1l=>?_) (fun _ h1l=>?_)
  ·refine W_rs (kMv rfl (cr h1l (cj x8) rfl fun x19 _ h1l=>kAs rfl (kAs rfl (am 0 rfl rfl (Upd.refl _) rfl sizeOf97 ?_))))
   have h:some ([],0,x19)=some r:=congrArg some (ho1 _ (ojs h1l))
   refine agk [4] af 64 (fun v20=>?_) ⟨rfl,tv⟩
   obtain rfl:=osj h
   exact a7 ⟨.inl rfl,[Pi v20,P6 0,(ah).val x19],⟨yT aa,yT aa,yBox 0 ty97 aa,tv⟩,_,A8.of [2] rfl,v20,rfl,rfl⟩
  refine au (a6 (W_rs (kMvL rfl (kMv rfl (kIn rfl rfl rfl (cr h1l (ki x1 (w64 (x8+1))) rfl fun x21 _ h1l=>kNo rfl ?_))))))
  refine a5 h1l rfl (fun _ h1l=>?_) (fun _ h1l=>?_)
  ·refine W_rs (kMv rfl (kIn rfl rfl rfl (cr h1l (cj (w64 (x8+1))) rfl fun x23 _ h1l=>kAs rfl (kAs rfl (am 0 rfl rfl (Upd.refl _) rfl sizeOf97 ?_)))))
   have h:some ([],0,x23)=some r:=congrArg some (ho1 _ (ojs h1l))
   refine agk [4] af 64 (fun v24=>?_) ⟨rfl,tv⟩
   obtain rfl:=osj h
   exact a7 ⟨.inl rfl,[Pi v24,P6 0,(ah).val x23],⟨yT aa,yT aa,yBox 0 ty97 aa,tv⟩,_,A8.of [2] rfl,v24,rfl,rfl⟩
  refine au (W_rs (kMv rfl (kMvL rfl (kMvL rfl (kMv rfl (kMv rfl (kIn rfl rfl rfl ?_)))))))
  obtain⟨x25,k,h1l⟩:=ag h1l
  refine kUn (adt (ej x1 4 x8 (w64 (x8+2)) [] _ k) ⟨aa,aa,aa,aa,dr _,tv⟩) ?_
  refine kMv rfl (cr h1l (af3 x1 x25 x8) rfl fun x26 _ h1l=>?_)
  refine kUn (cm (R:=af) (a:=x26) el53 nb) ?_
  obtain⟨x27,k,h1l⟩:=ag h1l
  refine fp 1 el53 k (fun v28=>?_)
  refine kAs rfl (a6 (W_rs (kMvL rfl (kMv rfl (kIn rfl rfl rfl (cr h1l (br x1 (w64 (x8+2)) ([41]:Bt)) rfl fun x29 _ h1l=>?_))))))
  refine a5 h1l rfl (fun _ h1l=>?_) (fun _ h1l=>?_)
  ·refine W_rs (kMv rfl (kMv rfl (kIn rfl rfl rfl (cr h1l (da) rfl fun x31 _ h1l=>kAs rfl (kAs rfl (am 0 rfl rfl (Upd.refl _) rfl sizeOf97 ?_))))))
   have h:some (x27,w64 (x8+3),x31)=some r:=congrArg some (ho1 _ (ojs h1l))
   obtain rfl:=osj h
   exact a7 ⟨.inl rfl,[Pi v28,P6 (w64 (x8+3)),(ah).val x31],⟨yT aa,yT aa,yBox 0 ty97 aa,tv⟩,_,A8.of [1] rfl,v28,rfl,rfl⟩
  refine au (a6 (W_rs (kMvL rfl (kMv rfl (kIn rfl rfl rfl (cr h1l (br x1 (w64 (x8+2)) ([44]:Bt)) rfl fun x32 _ h1l=>kNo rfl ?_))))))
  refine a5 h1l rfl (fun _ h1l=>?_) (fun _ h1l=>?_)
  ·refine W_rs (kMv rfl (kIn rfl rfl rfl (cr h1l (cj (w64 (x8+2))) rfl fun x34 _ h1l=>kAs rfl (kAs rfl (am 0 rfl rfl (Upd.refl _) rfl sizeOf97 ?_)))))
   have h:some ([],0,x34)=some r:=congrArg some (ho1 _ (ojs h1l))
   refine agk [4] af 64 (fun v35=>?_) ⟨rfl,tv⟩
   obtain rfl:=osj h
   exact a7 ⟨.inl rfl,[Pi v35,P6 0,(ah).val x34],⟨yT aa,yT aa,yBox 0 ty97 aa,tv⟩,_,A8.of [2] rfl,v35,rfl,rfl⟩
  refine au (W_r (kMv rfl (kIn rfl rfl rfl (kAs rfl ?_))))
  exact⟨m1,lsu,w64 (x8+3),x27,v28,hn1 _ (ojs h1l),atOk⟩
 refine W_r (kMvL rfl (kMv rfl (cr h1l (ak4 x1 x8) rfl fun x14 _ h1l=>kNo rfl (kMv rfl ?_))))
 rcases bn h1l with⟨hc15,h1l⟩|⟨hc15,h1l⟩
 ·refine skx ?_
  refine kPt rfl hc15 rfl ?_
  exact⟨true,h1l,atOk⟩
 refine kGd rfl aa hc15 (hMvL rfl) (kGd rfl aa hc15 (hMvA rfl) ?_)
 obtain⟨x16,k,h1l⟩:=ag h1l
 refine kGd rfl aa hc15 (c7 (br x1 x8 ([118,111,105,100]:Bt) _ k)) ?_
 refine kPf rfl hc15 rfl ?_
 exact⟨x16,h1l,atOk⟩
theorem ap4 (x1:List C5) (x2:Int) (r:Bool) (h:ad3 x1 x2=some r):Fp 167 [ao bu x1,P6 x2] (Pb r):=by
 refine c8 (rs:=[4]) func167 rfl ntmps167 ⟨by decide,results167⟩ dcd (fun s0=>?_)
 unfold ad3 at h
 refine W_rs (kAs rfl ?_)
 refine ba (fun e C=>∃x26,ni x26=some r/\At [(4,Pb x26)] [] e C) ?_ ?_
 ·rintro e C ⟨x26,h,a⟩
  refine W_at a ?_
  unfold ni at h
  obtain rfl:=osj h
  exact a7 ⟨rfl,aa⟩
 refine W_r (kMvL rfl (kMv rfl (cr h (br x1 x2 ([105,110,116]:Bt)) rfl fun x3 _ h=>kMv rfl ?_)))
 rcases bn h with⟨hc4,h⟩|⟨hc4,h⟩
 ·refine skx ?_
  refine kPt rfl hc4 rfl (kMv rfl ?_)
  have hc16:true=true:=rfl
  refine skx ?_
  refine kPt rfl hc16 rfl (kMv rfl ?_)
  have hc22:true=true:=rfl
  refine skx ?_
  refine kPt rfl hc22 rfl (kAs rfl ?_)
  exact⟨true,h,atOk⟩
 refine kGd rfl aa hc4 (hMvL rfl) (kGd rfl aa hc4 (hMvA rfl) ?_)
 obtain⟨x5,k,h⟩:=ag h
 refine kGd rfl aa hc4 (c7 (br x1 x2 ([98,111,111,108,101,97,110]:Bt) _ k)) ?_
 refine kPf rfl hc4 rfl (kMv rfl ?_)
 rcases bn h with⟨hc6,h⟩|⟨hc6,h⟩
 ·refine skx ?_
  refine kPt rfl hc6 rfl (kMv rfl ?_)
  have hc12:true=true:=rfl
  refine skx ?_
  refine kPt rfl hc12 rfl (kAs rfl ?_)
  exact⟨true,h,atOk⟩
 refine kGd rfl aa hc6 (hMvL rfl) (kGd rfl aa hc6 (hMvA rfl) ?_)
 obtain⟨x7,k,h⟩:=ag h
 refine kGd rfl aa hc6 (c7 (br x1 x2 ([118,111,105,100]:Bt) _ k)) ?_
 refine kPf rfl hc6 rfl (kMv rfl ?_)
 rcases bn h with⟨hc8,h⟩|⟨hc8,h⟩
 ·refine skx ?_
  refine kPt rfl hc8 rfl (kAs rfl ?_)
  exact⟨true,h,atOk⟩
 refine kGd rfl aa hc8 (hMvL rfl) (kGd rfl aa hc8 (hMvA rfl) ?_)
 obtain⟨x9,k,h⟩:=ag h
 refine kGd rfl aa hc8 (c7 (ki x1 x2 _ k)) ?_
 refine kGd rfl aa hc8 (hMvA rfl) ?_
 rcases bn h with⟨hc10,h⟩|⟨hc10,h⟩
 ·refine kGd rfl aa hc10 (hMvL rfl) (kGd rfl aa hc10 (hMvA rfl) (kGd rfl aa hc10 (qInt rfl rfl rfl) ?_))
  obtain⟨x11,k,h⟩:=ag h
  refine kGd rfl aa hc10 (c7 (ki x1 (w64 (x2+1)) _ k)) ?_
  refine kGd rfl aa hc8 (hPt rfl hc10 rfl) (kPf rfl hc8 rfl (kAs rfl ?_))
  exact⟨x11,h,atOk⟩
 refine skx ?_
 refine kGd rfl aa hc8 (hPf rfl hc10 rfl) (kPf rfl hc8 rfl (kAs rfl ?_))
 exact⟨false,h,atOk⟩
theorem ap7 (x1:List C5) (x2 r:Int) (h:ad5 x1 x2=some r):Fp 198 [ao bu x1,P6 x2] (P6 r):=by
 refine c8 (rs:=[4]) func198 rfl ntmps198 ⟨by decide,results198⟩ dcd (fun s0=>?_)
 unfold ad5 at h
 refine W_rs (kAs rfl (W_rs (kUn (cm (R:=Rp.str) (a:=([124,124]:Bt)) el22 nb) ?_)))
 refine kUn (cm (R:=Rp.str) (a:=([38,38]:Bt)) el22 nb) ?_
 refine kUn (np (R:=Rp.str) (ls:=([([61,61]:Bt),([33,61]:Bt)]:List Bt)) el22 nb ⟨rfl,rfl⟩ ⟨rfl,rfl,tv⟩) ?_
 refine kUn (np (R:=Rp.str) (ls:=([([60]:Bt),([60,61]:Bt),([62]:Bt),([62,61]:Bt)]:List Bt)) el22 nb ⟨rfl,rfl⟩ ⟨rfl,rfl,rfl,rfl,tv⟩) ?_
 refine kUn (np (R:=Rp.str) (ls:=([([43]:Bt),([45]:Bt)]:List Bt)) el22 nb ⟨rfl,rfl⟩ ⟨rfl,rfl,tv⟩) ?_
 refine kUn (np (R:=Rp.str) (ls:=([([42]:Bt),([47]:Bt),([37]:Bt)]:List Bt)) el22 nb ⟨rfl,rfl⟩ ⟨rfl,rfl,rfl,tv⟩) ?_
 refine kUn (np (R:=Rp.list Rp.str) (ls:=([([([124,124]:Bt)]:List Bt),([([38,38]:Bt)]:List Bt),([([61,61]:Bt),([33,61]:Bt)]:List Bt),([([60]:Bt),([60,61]:Bt),([62]:Bt),([62,61]:Bt)]:List Bt),([([43]:Bt),([45]:Bt)]:List Bt),([([42]:Bt),([47]:Bt),([37]:Bt)]:List Bt)]:List (List Bt))) el224 nb ⟨rfl,rfl⟩ ⟨rfl,rfl,rfl,rfl,rfl,rfl,tv⟩) ?_
 refine kAsL rfl (a6 (W_rs (kAs rfl (az ?_))))
 obtain⟨z2l,hz2,h⟩:=ag h
 obtain⟨n2,hN2⟩:=bm hz2
 refine cp 0 (fun e C=>abi=some r/\At [] [] e C) ?_ ?_
 ·rintro e C ⟨h,a⟩
  refine W_at a ?_
  unfold abi at h
  refine W_rs (kAs rfl ?_)
  obtain rfl:=osj h
  exact a7 ⟨rfl,aa⟩
 refine dq (fun m e C=>∃x3,ez (fun s=>ww x1 x2 s) m x3=some z2l/\At [(0,ao bu x1),(1,P6 x2),(5,ao (Rp.list Rp.str) ([([([124,124]:Bt)]:List Bt),([([38,38]:Bt)]:List Bt),([([61,61]:Bt),([33,61]:Bt)]:List Bt),([([60]:Bt),([60,61]:Bt),([62]:Bt),([62,61]:Bt)]:List Bt),([([43]:Bt),([45]:Bt)]:List Bt),([([42]:Bt),([47]:Bt),([37]:Bt)]:List Bt)]:List (List Bt))),(6,P6 x3)] [] e C) n2 ⟨0,hN2,⟨⟨aa,aa,aa,aa,tv⟩,A8.refl _⟩⟩ ?_
 rintro m e C ⟨x3,hN2,a⟩
 refine W_at a ?_
 obtain⟨m2,w2l,rfl,h2l,hn2,ho2⟩:=bc hN2
 replace h2l:ww x1 x2 x3=some w2l:=h2l
 unfold ww at h2l
 refine a6 (W_rs (kMv rfl (kMvL rfl (kUn (jf rfl underlying224) ?_))))
 refine kIn rfl rfl rfl ?_
 refine a5 h2l rfl (fun _ h2l=>?_) (fun _ h2l=>?_)
 ·refine au (a6 (az (W_rs (kAs rfl (az ?_)))))
  obtain⟨z4l,hz4,h2l⟩:=ag h2l
  obtain⟨n4,hN4⟩:=bm hz4
  refine cp 2 (fun e C=>af4 x3=some w2l/\At [(0,ao bu x1),(1,P6 x2),(5,ao (Rp.list Rp.str) ([([([124,124]:Bt)]:List Bt),([([38,38]:Bt)]:List Bt),([([61,61]:Bt),([33,61]:Bt)]:List Bt),([([60]:Bt),([60,61]:Bt),([62]:Bt),([62,61]:Bt)]:List Bt),([([43]:Bt),([45]:Bt)]:List Bt),([([42]:Bt),([47]:Bt),([37]:Bt)]:List Bt)]:List (List Bt))),(6,P6 x3)] [] e C) ?_ ?_
  ·rintro e C ⟨h2l,a⟩
   refine W_at a ?_
   unfold af4 at h2l
   refine W_r (kMv rfl (kIn rfl rfl rfl (kAs rfl ?_)))
   exact⟨m2,lsu,w64 (x3+1),hn2 _ (ojs h2l),atOk⟩
  refine dq (fun m e C=>∃x6,ez (fun s=>wv x3 x1 x2 s) m x6=some z4l/\At [(0,ao bu x1),(1,P6 x2),(5,ao (Rp.list Rp.str) ([([([124,124]:Bt)]:List Bt),([([38,38]:Bt)]:List Bt),([([61,61]:Bt),([33,61]:Bt)]:List Bt),([([60]:Bt),([60,61]:Bt),([62]:Bt),([62,61]:Bt)]:List Bt),([([43]:Bt),([45]:Bt)]:List Bt),([([42]:Bt),([47]:Bt),([37]:Bt)]:List Bt)]:List (List Bt))),(6,P6 x3),(7,P6 x6)] [] e C) n4 ⟨0,hN4,⟨⟨aa,aa,aa,aa,aa,tv⟩,A8.refl _⟩⟩ ?_
  rintro m e C ⟨x6,hN4,a⟩
  refine W_at a ?_
  obtain⟨m4,w4l,rfl,h4l,hn4,ho4⟩:=bc hN4
  replace h4l:wv x3 x1 x2 x6=some w4l:=h4l
  unfold wv at h4l
  refine a6 (W_rs (kMv rfl (kMvL rfl (kMv rfl ?_))))
  obtain⟨x8,k,h4l⟩:=ag h4l
  refine kUn (du underlying224 sizeOf22 k) ?_
  refine kUn (bz ty22) ?_
  refine kUn (jf rfl underlying22) ?_
  refine kIn rfl rfl rfl ?_
  refine a5 h4l rfl (fun _ h4l=>?_) (fun _ h4l=>?_)
  ·refine au (a6 (az (W_rs (kMvL rfl (kMv rfl (kMvL rfl (kMv rfl ?_)))))))
   obtain⟨x10,k,h4l⟩:=ag h4l
   refine kUn (du underlying224 sizeOf22 k) ?_
   refine kUn (bz ty22) ?_
   refine kMv rfl ?_
   obtain⟨x11,k,h4l⟩:=ag h4l
   refine kUn (du underlying22 sizeOf9 k) ?_
   refine kUn (bz ty9) ?_
   refine cr h4l (br x1 x2 x11) rfl fun x12 _ h4l=>?_
   refine a5 h4l rfl (fun _ h4l=>?_) (fun _ h4l=>?_)
   ·refine W_rs (kMv rfl (kIn rfl rfl rfl (kAs rfl ?_)))
    obtain rfl:=ho4 _ (ojs h4l)
    replace h2l:some (.inr (.done (w64 (x3+1))))=some w2l:=h2l
    obtain rfl:=ho2 _ (ojs h2l)
    replace h:some (w64 (x3+1))=some r:=h
    obtain rfl:=osj h
    exact a7 ⟨rfl,aa⟩
   refine au (W_r (kMv rfl (kIn rfl rfl rfl (kAs rfl ?_))))
   exact⟨m4,lsu,w64 (x6+1),hn4 _ (ojs h4l),atOk⟩
  refine dp ?_
  obtain rfl:=ho4 _ (ojs h4l)
  exact⟨h2l,atOk⟩
 refine dp ?_
 obtain rfl:=ho2 _ (ojs h2l)
 exact⟨h,atOk⟩
def ig (R:ax):Prop:=(∀(x1:List C5) (x2:Int) (x3:Int) (r:B5 × Int × C6),R.1 x1 x2 x3=some r->Fp 179 [ao bu x1,P6 x2,P6 x3] (bj [(af).val r.1,P6 r.2.1,(ah).val r.2.2]))/\(∀(x1:List C5) (x2:Int) (x3:Int) (x4:Int) (r:B5 × Int × C6),R.2.1 x1 x2 x3 x4=some r->Fp 190 [ao bu x1,P6 x2,P6 x3,P6 x4] (bj [(af).val r.1,P6 r.2.1,(ah).val r.2.2]))/\(∀(x1:List C5) (x2:Int) (x3:Int) (r:B5 × Int × C6),R.2.2.1 x1 x2 x3=some r->Fp 197 [ao bu x1,P6 x2,P6 x3] (bj [(af).val r.1,P6 r.2.1,(ah).val r.2.2]))/\(∀(x1:List C5) (x2:Int) (x3:Int) (r:B5 × Int × C6),R.2.2.2.1 x1 x2 x3=some r->Fp 201 [ao bu x1,P6 x2,P6 x3] (bj [(af).val r.1,P6 r.2.1,(ah).val r.2.2]))/\(∀(x1:List C5) (x2:Int) (x3:Int) (r:(List B5) × Int × C6),R.2.2.2.2 x1 x2 x3=some r->Fp 202 [ao bu x1,P6 x2,P6 x3] (bj [ao af r.1,P6 r.2.1,(ah).val r.2.2]))
theorem ahu (R:ax) (ih:ig R) (x1:List C5) (x2 x3:Int) (r:B5 × Int × C6) (h:pg R x1 x2 x3=some r):Fp 179 [ao bu x1,P6 x2,P6 x3] (bj [(af).val r.1,P6 r.2.1,(ah).val r.2.2]):=by
 refine c9 (rs:=[.cell 6 64,.tmp 7,.cell 8 97]) func179 rfl ntmps179 results179 dcd (fun s0=>?_)
 unfold pg at h
 refine W_rs (bg al64 fun b4=>kAs rfl (bg al97 fun b5=>W_rs (kMvL rfl (kMv rfl (kMv rfl ?_)))))
 obtain⟨⟨x6,x7,x8⟩,k,h⟩:=ag h
 refine kUn (c7 (ih.2.1 x1 x2 x3 1 _ k)) ?_
 refine kUn al ?_
 refine kUn al ?_
 refine kUn al ?_
 refine am 0 rfl rfl (Upd.refl _) rfl sizeOf64 (kAs rfl (am 1 rfl rfl (Upd.refl _) rfl sizeOf97 ?_))
 obtain rfl:=osj h
 exact a7 ⟨rfl,[(af).val x6,P6 x7,(ah).val x8],⟨yBox 0 ty64 aa,yT aa,yBox 1 ty97 aa,tv⟩,aa⟩
theorem alq (R:ax) (ih:ig R) (x1:List C5) (x2 x3 x4:Int) (r:B5 × Int × C6) (h:zj R x1 x2 x3 x4=some r):Fp 190 [ao bu x1,P6 x2,P6 x3,P6 x4] (bj [(af).val r.1,P6 r.2.1,(ah).val r.2.2]):=by
 refine c9 (rs:=[.cell 8 64,.tmp 9,.cell 10 97]) func190 rfl ntmps190 results190 dcd (fun s0=>?_)
 let p1:=B5.mk 0 [] [] 0 0 0 0 0 []
 unfold zj at h
 refine W_rs (bg al64 fun b5=>kAs rfl (bg al97 fun b6=>a6 (W_rs (kMv rfl (kIn rfl rfl rfl ?_)))))
 let p2:=D8 b5 af p1
 refine a5 h rfl (fun _ h=>?_) (fun _ h=>?_)
 ·refine W_rs (kMvL rfl (kMv rfl (kMv rfl ?_)))
  obtain⟨⟨x8,x9,x10⟩,k,h⟩:=ag h
  refine kUn (c7 (ih.2.2.1 x1 x2 x3 _ k)) ?_
  refine kUn al ?_
  refine kUn al ?_
  refine kUn al ?_
  refine am 0 rfl rfl (Upd.refl _) rfl sizeOf64 (kAs rfl (am 1 rfl rfl (Upd.refl _) rfl sizeOf97 ?_))
  obtain rfl:=osj h
  exact a7 ⟨rfl,[(af).val x8,P6 x9,(ah).val x10],⟨yBox 0 ty64 aa,yT aa,yBox 1 ty97 aa,tv⟩,aa⟩
 refine au (W_rs (kMvL rfl (kMv rfl (kMv rfl (kMv rfl (kIn rfl rfl rfl ?_))))))
 obtain⟨⟨x11,x12,x13⟩,k,h⟩:=ag h
 refine kUn (c7 (ih.2.1 x1 x2 x3 (w64 (x4+1)) _ k)) ?_
 refine kUn (hMv (out:=bj [(af).val x11,P6 x12,(ah).val x13]) rfl) (kUn al ?_)
 refine kUn al ?_
 refine kUn al ?_
 refine bg al64 fun b14=>?_
 refine bg al97 fun b15=>am 2 rfl rfl (Upd.refl _) rfl sizeOf64 (kAs rfl (am 3 rfl rfl (Upd.refl _) rfl sizeOf97 (a6 (W_rs (kUn (aj nn) ?_)))))
 let p3:=D8 b15 ah x13
 refine kUn (ap 3 ty3 bw) ?_
 refine kIn rfl rfl rfl ?_
 refine a5 h rfl (fun _ h=>?_) (fun _ h=>?_)
 ·refine ba (fun e C=>abd R x13=some r/\At [(8,Pr.pt b5 0),(9,P6 0),(10,Pr.pt b6 0)] [p2,D8 b6 ah x13,D8 b14 af x11,p3] e C) ?_ ?_
  ·rintro e C ⟨h,a⟩
   refine W_at a ?_
   unfold abd at h
   obtain rfl:=osj h
   exact a7 ⟨rfl,[(af).val p1,P6 0,(ah).val x13],⟨yBox 0 ty64 aa,yT aa,yBox 1 ty97 aa,tv⟩,aa⟩
  refine fc [(2,0,D8 b5 af p1),(4,1,D8 b6 ah x13)] [p2,D8 b6 ah x13,D8 b14 af x11,p3] hmx kr kr (show([2,4]:List Nat).Nodup by decide) (show([0,1]:List Nat).Nodup by decide) rfl rfl ?_
  refine eq1 (out:=(af).val p1) (fun C2 hC=>(fg bi st64 rfl)) ?_
  refine eql 3 ty97 (Sub.refl _) rfl rfl kr ?_
  refine eqs 0 sizeOf64 (Upd.refl _) rfl rfl rfl kr ?_
  refine eq1 (out:=P6 0) (fun C2 hC=>f7) ?_
  refine eqs 1 sizeOf97 (Upd.refl _) rfl rfl rfl kr ?_
  exact⟨h,atOk⟩
 refine au (a6 (az ?_))
 obtain⟨z4l,hz4,h⟩:=ag h
 obtain⟨n4,hN4⟩:=bm hz4
 refine cp 0 (fun e C=>∃x17,∃x18,aba R x17 x18=some r/\At [(8,Pr.pt b5 0),(10,Pr.pt b6 0),(11,Pr.pt b14 0),(12,P6 x17)] [p2,D8 b6 ah (C6.mk 0 0),D8 b14 af x18,p3] e C) ?_ ?_
 ·rintro e C ⟨x17,x18,h,a⟩
  refine W_at a ?_
  unfold aba at h
  refine ba (fun e C=>∃x31,abc R x18 x17 x31=some r/\At [(8,Pr.pt b5 0),(9,P6 x17),(10,Pr.pt b6 0)] [D8 b5 af x18,D8 b6 ah x31,D8 b14 af x18,p3] e C) ?_ ?_
  ·rintro e C ⟨x31,h,a⟩
   refine W_at a ?_
   unfold abc at h
   obtain rfl:=osj h
   exact a7 ⟨rfl,[(af).val x18,P6 x17,(ah).val x31],⟨yBox 0 ty64 aa,yT aa,yBox 1 ty97 aa,tv⟩,aa⟩
  obtain⟨x31,k,h⟩:=ag h
  refine fc [(3,0,D8 b5 af x18),(5,1,D8 b6 ah x31)] [D8 b5 af x18,D8 b6 ah x31,D8 b14 af x18,p3] hmx kr kr (show([3,5]:List Nat).Nodup by decide) (show([0,1]:List Nat).Nodup by decide) rfl rfl ?_
  refine eql 2 ty64 (Sub.refl _) rfl rfl kr ?_
  refine eq1 (out:=P6 x17) (fun C2 hC=>fr) ?_
  refine eq1 (out:=(ah).val x31) (fun C2 hC=>(c7 (da _ k))) ?_
  refine eqs 0 sizeOf64 (Upd.refl _) rfl rfl rfl kr ?_
  refine eq1 (out:=P6 x17) (fun C2 hC=>f7) ?_
  refine eqs 1 sizeOf97 (Upd.refl _) rfl rfl rfl kr ?_
  exact⟨x31,h,atOk⟩
 refine dq (fun m e C=>∃x17,∃x18,ez (fun s=>wo R x1 x4 x3 x2 s.1 s.2) m (x17,x18)=some z4l/\At [(0,ao bu x1),(1,P6 x2),(2,P6 x3),(3,P6 x4),(8,Pr.pt b5 0),(10,Pr.pt b6 0),(11,Pr.pt b14 0),(12,P6 x17)] [p2,D8 b6 ah (C6.mk 0 0),D8 b14 af x18,p3] e C) n4 ⟨x12,x11,hN4,⟨⟨aa,aa,aa,aa,aa,aa,aa,aa,tv⟩,A8.refl _⟩⟩ ?_
 rintro m e C ⟨x17,x18,hN4,a⟩
 refine W_at a ?_
 obtain⟨m4,w4l,rfl,h4l,hn4,ho4⟩:=bc hN4
 replace h4l:wo R x1 x4 x3 x2 x17 x18=some w4l:=h4l
 unfold wo at h4l
 refine a6 (W_rs (kMvL rfl (kMv rfl (cr h4l (ap7 x1 x17) rfl fun x21 _ h4l=>kMv rfl (kIn rfl rfl rfl ?_)))))
 refine a5 h4l rfl (fun _ h4l=>?_) (fun _ h4l=>?_)
 ·refine au (az (W_rs (kMvL rfl (kMv rfl (kIn rfl rfl rfl (kMv rfl (kMv rfl (kIn rfl rfl rfl ?_))))))))
  obtain⟨⟨x23,x24,x25⟩,k,h4l⟩:=ag h4l
  refine kUn (c7 (ih.2.1 x1 (w64 (x17+1)) x3 (w64 (x4+1)) _ k)) ?_
  refine kUn (hMv (out:=bj [(af).val x23,P6 x24,(ah).val x25]) rfl) (kUn al ?_)
  refine kUn al ?_
  refine kUn al ?_
  refine bg al64 fun b26=>?_
  refine bg al97 fun b27=>am 4 rfl rfl (Upd.refl _) rfl sizeOf64 (kAs rfl (am 5 rfl rfl (Upd.refl _) rfl sizeOf97 (a6 (W_rs (kUn (aj nn) ?_)))))
  refine kUn (ap 5 ty3 bw) ?_
  refine kIn rfl rfl rfl ?_
  refine a5 h4l rfl (fun _ h4l=>?_) (fun _ h4l=>?_)
  ·refine ba (fun e C=>abb R x25=some w4l/\At [(8,Pr.pt b5 0),(9,P6 0),(10,Pr.pt b6 0)] [p2,D8 b6 ah x25,D8 b14 af x18,p3,D8 b26 af x23,D8 b27 ah x25] e C) ?_ ?_
   ·rintro e C ⟨h4l,a⟩
    refine W_at a ?_
    unfold abb at h4l
    obtain rfl:=ho4 _ (ojs h4l)
    replace h:some (p1,0,x25)=some r:=h
    obtain rfl:=osj h
    exact a7 ⟨rfl,[(af).val p1,P6 0,(ah).val x25],⟨yBox 0 ty64 aa,yT aa,yBox 1 ty97 aa,tv⟩,aa⟩
   refine fc [(2,0,D8 b5 af p1),(4,1,D8 b6 ah x25)] [p2,D8 b6 ah x25,D8 b14 af x18,p3,D8 b26 af x23,D8 b27 ah x25] hmx kr kr (show([2,4]:List Nat).Nodup by decide) (show([0,1]:List Nat).Nodup by decide) rfl rfl ?_
   refine eq1 (out:=(af).val p1) (fun C2 hC=>(fg bi st64 rfl)) ?_
   refine eql 5 ty97 (Sub.refl _) rfl rfl kr ?_
   refine eqs 0 sizeOf64 (Upd.refl _) rfl rfl rfl kr ?_
   refine eq1 (out:=P6 0) (fun C2 hC=>f7) ?_
   refine eqs 1 sizeOf97 (Upd.refl _) rfl rfl rfl kr ?_
   exact⟨h4l,atOk⟩
  refine au (W_rs (kMvL rfl (kMv rfl ?_)))
  obtain⟨x29,k,h4l⟩:=ag h4l
  refine kUn (du underlying41 sizeOf45 k) ?_
  refine kUn (dv aag fy) ?_
  refine kUn (bz ty9) ?_
  refine kAs rfl (W_rs (kMvL rfl (kMv rfl (kMv rfl (kUn (ap 2 ty64 (Sub.refl _)) ?_)))))
  refine kUn (ap 4 ty64 (Sub.refl _)) ?_
  refine kUn (np (R:=af) (ls:=([x18,x23]:List B5)) el53 nb ⟨rfl,rfl⟩ ⟨rfl,rfl,tv⟩) ?_
  refine cr h4l (ej x1 24 x2 x24 ([x18,x23]:List B5)) rfl fun x30 _ h4l=>am 2 rfl rfl (Upd.refl _) rfl sizeOf64 (W_rs (kMv rfl (kUn (aj ec) ?_)))
  refine am 2 rfl rfl q8 rfl sizeOf9 (W_r (kMv rfl (kAs rfl ?_)))
  exact⟨m4,lsu,x24,{x30 with Text:=x29.Text},hn4 _ (ojs h4l),⟨⟨aa,aa,aa,aa,aa,aa,aa,aa,tv⟩,A8.of [0,1,2,3] rfl⟩⟩
 refine dp ?_
 obtain rfl:=ho4 _ (ojs h4l)
 exact⟨x17,x18,h,atOk⟩
theorem alp (R:ax) (ih:ig R) (x1:List C5) (x2 x3:Int) (r:B5 × Int × C6) (h:zi R x1 x2 x3=some r):Fp 197 [ao bu x1,P6 x2,P6 x3] (bj [(af).val r.1,P6 r.2.1,(ah).val r.2.2]):=by
 refine c9 (rs:=[.cell 6 64,.tmp 7,.cell 8 97]) func197 rfl ntmps197 results197 dcd (fun s0=>?_)
 let p1:=B5.mk 0 [] [] 0 0 0 0 0 []
 let p2:=C6.mk 0 0
 unfold zi at h
 refine W_rs (bg al64 fun b4=>kAs rfl (bg al97 fun b5=>a6 (W_rs (kMv rfl (kIn rfl rfl rfl ?_)))))
 let p3:=D8 b4 af p1
 let p4:=D8 b5 ah p2
 refine a5 h rfl (fun _ h=>?_) (fun _ h=>?_)
 ·refine W_rs (kUn (fg bi st64 rfl) ?_)
  refine kMv rfl (kUn (fk st97 ⟨(C6.mk x2 0),⟨_,rfl,rfl,qbj⟩,⟨(C6.mk x2 2),⟨_,rfl,rfl,qbj⟩,rfl⟩⟩) ?_)
  refine am 0 rfl rfl (Upd.refl _) rfl sizeOf64 (kAs rfl (am 1 rfl rfl (Upd.refl _) rfl sizeOf97 ?_))
  obtain rfl:=osj h
  exact a7 ⟨rfl,[(af).val p1,P6 0,(ah).val (C6.mk x2 2)],⟨yBox 0 ty64 aa,yT aa,yBox 1 ty97 aa,tv⟩,aa⟩
 refine au (a6 ?_)
 refine ba (fun e C=>∃x10,s8 R x1 x2 x3 x10=some r/\At [(0,ao bu x1),(1,P6 x2),(2,P6 x3),(6,Pr.pt b4 0),(8,Pr.pt b5 0),(34,Pb x10)] [p3,p4] e C) ?_ ?_
 ·rintro e C ⟨x10,h,a⟩
  refine W_at a ?_
  unfold s8 at h
  refine a5 h rfl (fun _ h=>?_) (fun _ h=>?_)
  ·refine W_rs (kMvL rfl (kMv rfl (kIn rfl rfl rfl (kMv rfl (kIn rfl rfl rfl ?_)))))
   obtain⟨⟨x12,x13,x14⟩,k,h⟩:=ag h
   refine kUn (c7 (ih.2.2.1 x1 (w64 (x2+1)) (w64 (x3+1)) _ k)) ?_
   refine kUn (hMv (out:=bj [(af).val x12,P6 x13,(ah).val x14]) rfl) (kUn al ?_)
   refine kUn al ?_
   refine kUn al ?_
   refine bg al64 fun b15=>?_
   refine bg al97 fun b16=>am 2 rfl rfl (Upd.refl _) rfl sizeOf64 (kAs rfl (am 3 rfl rfl (Upd.refl _) rfl sizeOf97 (a6 (W_rs (kUn (aj nn) ?_)))))
   refine kUn (ap 3 ty3 bw) ?_
   refine kIn rfl rfl rfl ?_
   refine a5 h rfl (fun _ h=>?_) (fun _ h=>?_)
   ·refine ba (fun e C=>aa9 R x14=some r/\At [(6,Pr.pt b4 0),(7,P6 0),(8,Pr.pt b5 0)] [p3,D8 b5 ah x14,D8 b15 af x12,D8 b16 ah x14] e C) ?_ ?_
    ·rintro e C ⟨h,a⟩
     refine W_at a ?_
     unfold aa9 at h
     obtain rfl:=osj h
     exact a7 ⟨rfl,[(af).val p1,P6 0,(ah).val x14],⟨yBox 0 ty64 aa,yT aa,yBox 1 ty97 aa,tv⟩,aa⟩
    refine fc [(2,0,D8 b4 af p1),(4,1,D8 b5 ah x14)] [p3,D8 b5 ah x14,D8 b15 af x12,D8 b16 ah x14] hmx kr kr (show([2,4]:List Nat).Nodup by decide) (show([0,1]:List Nat).Nodup by decide) rfl rfl ?_
    refine eq1 (out:=(af).val p1) (fun C2 hC=>(fg bi st64 rfl)) ?_
    refine eql 3 ty97 (Sub.refl _) rfl rfl kr ?_
    refine eqs 0 sizeOf64 (Upd.refl _) rfl rfl rfl kr ?_
    refine eq1 (out:=P6 0) (fun C2 hC=>f7) ?_
    refine eqs 1 sizeOf97 (Upd.refl _) rfl rfl rfl kr ?_
    exact⟨h,atOk⟩
   refine au (W_rs (kAs rfl ?_))
   refine ba (fun e C=>∃x20,wn R x1 x2 x13 x12 x20=some r/\At [(0,ao bu x1),(1,P6 x2),(6,Pr.pt b4 0),(8,Pr.pt b5 0),(9,Pr.pt b15 0),(10,P6 x13),(12,P6 x20)] [p3,p4,D8 b15 af x12,D8 b16 ah x14] e C) ?_ ?_
   ·rintro e C ⟨x20,h,a⟩
    refine W_at a ?_
    unfold wn at h
    refine W_rs (kMvL rfl (kMv rfl (kMv rfl (kMv rfl (kUn (ap 2 ty64 (Sub.refl _)) ?_)))))
    refine kUn (cm (R:=af) (a:=x12) el53 nb) ?_
    refine cr h (ej x1 x20 x2 x13 ([x12]:List B5)) rfl fun x21 _ h=>kMv rfl (cr h (da) rfl fun x22 _ h=>am 0 rfl rfl (Upd.refl _) rfl sizeOf64 (kAs rfl (am 1 rfl rfl (Upd.refl _) rfl sizeOf97 ?_)))
    obtain rfl:=osj h
    exact a7 ⟨rfl,[(af).val x21,P6 x13,(ah).val x22],⟨yBox 0 ty64 aa,yT aa,yBox 1 ty97 aa,tv⟩,aa⟩
   refine W_rs (kMvL rfl (kMv rfl ?_))
   obtain⟨x18,k,h⟩:=ag h
   refine kUn (du underlying41 sizeOf45 k) ?_
   refine kUn (dv aag fy) ?_
   refine kUn (bz ty9) ?_
   refine kSt rfl rfl rfl ?_
   refine a5 h rfl (fun _ h=>?_) (fun _ h=>?_)
   ·refine W_r (kAs rfl ?_)
    exact⟨23,h,atOk⟩
   refine au ?_
   exact⟨22,h,atOk⟩
  refine au (W_rs (kMvL rfl (kMv rfl (kMv rfl (kIn rfl rfl rfl ?_)))))
  obtain⟨⟨x23,x24,x25⟩,k,h⟩:=ag h
  refine kUn (c7 (ih.2.2.2.1 x1 x2 (w64 (x3+1)) _ k)) ?_
  refine kUn (hMv (out:=bj [(af).val x23,P6 x24,(ah).val x25]) rfl) (kUn al ?_)
  refine kUn al ?_
  refine kUn al ?_
  refine bg al64 fun b26=>?_
  refine bg al97 fun b27=>am 2 rfl rfl (Upd.refl _) rfl sizeOf64 (kAs rfl (am 3 rfl rfl (Upd.refl _) rfl sizeOf97 (a6 (W_rs (kUn (aj nn) ?_)))))
  let p5:=D8 b27 ah x25
  refine kUn (ap 3 ty3 bw) ?_
  refine kIn rfl rfl rfl ?_
  refine a5 h rfl (fun _ h=>?_) (fun _ h=>?_)
  ·refine ba (fun e C=>aa8 R x25=some r/\At [(6,Pr.pt b4 0),(7,P6 0),(8,Pr.pt b5 0)] [p3,D8 b5 ah x25,D8 b26 af x23,p5] e C) ?_ ?_
   ·rintro e C ⟨h,a⟩
    refine W_at a ?_
    unfold aa8 at h
    obtain rfl:=osj h
    exact a7 ⟨rfl,[(af).val p1,P6 0,(ah).val x25],⟨yBox 0 ty64 aa,yT aa,yBox 1 ty97 aa,tv⟩,aa⟩
   refine fc [(2,0,D8 b4 af p1),(4,1,D8 b5 ah x25)] [p3,D8 b5 ah x25,D8 b26 af x23,p5] hmx kr kr (show([2,4]:List Nat).Nodup by decide) (show([0,1]:List Nat).Nodup by decide) rfl rfl ?_
   refine eq1 (out:=(af).val p1) (fun C2 hC=>(fg bi st64 rfl)) ?_
   refine eql 3 ty97 (Sub.refl _) rfl rfl kr ?_
   refine eqs 0 sizeOf64 (Upd.refl _) rfl rfl rfl kr ?_
   refine eq1 (out:=P6 0) (fun C2 hC=>f7) ?_
   refine eqs 1 sizeOf97 (Upd.refl _) rfl rfl rfl kr ?_
   exact⟨h,atOk⟩
  refine au (a6 (az ?_))
  obtain⟨z6l,hz6,h⟩:=ag h
  obtain⟨n6,hN6⟩:=bm hz6
  refine cp 0 (fun e C=>∃x29,∃x30,aa5 R x29 x30=some r/\At [(6,Pr.pt b4 0),(8,Pr.pt b5 0),(13,Pr.pt b26 0),(14,P6 x29)] [p3,p4,D8 b26 af x30,p5] e C) ?_ ?_
  ·rintro e C ⟨x29,x30,h,a⟩
   refine W_at a ?_
   unfold aa5 at h
   refine ba (fun e C=>∃x55,aa7 R x30 x29 x55=some r/\At [(6,Pr.pt b4 0),(7,P6 x29),(8,Pr.pt b5 0)] [D8 b4 af x30,D8 b5 ah x55,D8 b26 af x30,p5] e C) ?_ ?_
   ·rintro e C ⟨x55,h,a⟩
    refine W_at a ?_
    unfold aa7 at h
    obtain rfl:=osj h
    exact a7 ⟨rfl,[(af).val x30,P6 x29,(ah).val x55],⟨yBox 0 ty64 aa,yT aa,yBox 1 ty97 aa,tv⟩,aa⟩
   obtain⟨x55,k,h⟩:=ag h
   refine fc [(3,0,D8 b4 af x30),(5,1,D8 b5 ah x55)] [D8 b4 af x30,D8 b5 ah x55,D8 b26 af x30,p5] hmx kr kr (show([3,5]:List Nat).Nodup by decide) (show([0,1]:List Nat).Nodup by decide) rfl rfl ?_
   refine eql 2 ty64 (Sub.refl _) rfl rfl kr ?_
   refine eq1 (out:=P6 x29) (fun C2 hC=>fr) ?_
   refine eq1 (out:=(ah).val x55) (fun C2 hC=>(c7 (da _ k))) ?_
   refine eqs 0 sizeOf64 (Upd.refl _) rfl rfl rfl kr ?_
   refine eq1 (out:=P6 x29) (fun C2 hC=>f7) ?_
   refine eqs 1 sizeOf97 (Upd.refl _) rfl rfl rfl kr ?_
   exact⟨x55,h,atOk⟩
  refine dq (fun m e C=>∃x29,∃x30,ez (fun s=>wl R x1 x3 x2 s.1 s.2) m (x29,x30)=some z6l/\At [(0,ao bu x1),(1,P6 x2),(2,P6 x3),(6,Pr.pt b4 0),(8,Pr.pt b5 0),(13,Pr.pt b26 0),(14,P6 x29)] [p3,p4,D8 b26 af x30,p5] e C) n6 ⟨x24,x23,hN6,⟨⟨aa,aa,aa,aa,aa,aa,aa,tv⟩,A8.refl _⟩⟩ ?_
  rintro m e C ⟨x29,x30,hN6,a⟩
  refine W_at a ?_
  obtain⟨m6,w6l,rfl,h6l,hn6,ho6⟩:=bc hN6
  replace h6l:wl R x1 x3 x2 x29 x30=some w6l:=h6l
  unfold wl at h6l
  refine a6 (W_rs (kMvL rfl (kMv rfl (cr h6l (br x1 x29 ([46]:Bt)) rfl fun x33 _ h6l=>?_))))
  refine a5 h6l rfl (fun _ h6l=>?_) (fun _ h6l=>?_)
  ·refine au (az (a6 (W_rs (kMvL rfl (kMv rfl (kIn rfl rfl rfl (cr h6l (ki x1 (w64 (x29+1))) rfl fun x35 _ h6l=>kNo rfl ?_)))))))
   refine a5 h6l rfl (fun _ h6l=>?_) (fun _ h6l=>?_)
   ·refine W_rs (kUn (fg bi st64 rfl) ?_)
    refine kMv rfl (kIn rfl rfl rfl (cr h6l (cj (w64 (x29+1))) rfl fun x37 _ h6l=>am 0 rfl rfl (Upd.refl _) rfl sizeOf64 (kAs rfl (am 1 rfl rfl (Upd.refl _) rfl sizeOf97 ?_))))
    obtain rfl:=ho6 _ (ojs h6l)
    replace h:some (p1,0,x37)=some r:=h
    obtain rfl:=osj h
    exact a7 ⟨rfl,[(af).val p1,P6 0,(ah).val x37],⟨yBox 0 ty64 aa,yT aa,yBox 1 ty97 aa,tv⟩,aa⟩
   refine au (W_rs (kMv rfl (kIn rfl rfl rfl (kAs rfl (W_rs (kAs rfl (W_rs (kUn (ap 2 ty64 (Sub.refl _)) ?_))))))))
   refine arl (R:=af) (ls:=([x30]:List B5)) el53 nb ⟨rfl,rfl⟩ ⟨rfl,tv⟩ (fun v38=>?_)
   refine kAs rfl (W_rs (kMv rfl (kIn rfl rfl rfl (kAs rfl ?_))))
   refine ba (fun e C=>∃x48,∃x49,∃x51,∃v50,wm R x1 x2 x29 x48 x49 x51=some w6l/\At [(0,ao bu x1),(1,P6 x2),(2,P6 x3),(6,Pr.pt b4 0),(8,Pr.pt b5 0),(13,Pr.pt b26 0),(14,P6 x48),(16,P6 (w64 (x29+1))),(17,P6 x49),(18,Pi v50)] [p3,p4,D8 b26 af x30,p5,E1 v50 af x51 64] e C) ?_ ?_
   ·rintro e C ⟨x48,x49,x51,v50,h6l,a⟩
    refine W_at a ?_
    unfold wm at h6l
    refine W_rs (kMvL rfl (kMv rfl (kMv rfl (kMv rfl (kMv rfl ?_)))))
    obtain⟨x52,k,h6l⟩:=ag h6l
    refine rRel 4 [18,123] ?_ rfl ⟨rfl,rfl,tv⟩
    refine kUn (c7 (ej x1 x49 x2 x48 x51 _ k)) ?_
    refine am 2 rfl rfl (Upd.refl _) rfl sizeOf64 (W_rs (kMvL rfl (kMv rfl ?_)))
    obtain⟨x53,k,h6l⟩:=ag h6l
    refine kUn (du underlying41 sizeOf45 k) ?_
    refine kUn (dv aag fy) ?_
    refine kUn (bz ty9) ?_
    refine kUn (aj ec) ?_
    refine am 2 rfl rfl q8 rfl sizeOf9 (W_r (kMvL rfl (kMv rfl ?_)))
    obtain⟨x54,k,h6l⟩:=ag h6l
    refine kUn (du underlying41 sizeOf45 k) ?_
    refine kUn (dv aft kf) ?_
    refine kUn (bz ty3) ?_
    refine kUn (aj mi) ?_
    refine am 2 rfl rfl y5 rfl sizeOf3 ?_
    exact⟨m6,lsu,x48,{{x52 with Text:=x53.Text} with At:=x54.At},hn6 _ (ojs h6l),atOk⟩
   refine W_rs (kMvL rfl (kMv rfl (cr h6l (br x1 (w64 ((w64 (x29+1))+1)) ([40]:Bt)) rfl fun x39 _ h6l=>?_)))
   refine a5 h6l rfl (fun _ h6l=>?_) (fun _ h6l=>?_)
   ·refine W_rs (kMvL rfl (kMv rfl (kIn rfl rfl rfl (kMv rfl (kIn rfl rfl rfl ?_)))))
    obtain⟨⟨x41,x42,x43⟩,k,h6l⟩:=ag h6l
    refine kUn (c7 (ih.2.2.2.2 x1 (w64 ((w64 ((w64 (x29+1))+1))+1)) (w64 (x3+1)) _ k)) ?_
    refine kUn (hMv (out:=bj [ao af x41,P6 x42,(ah).val x43]) rfl) (kUn al ?_)
    refine kUn al ?_
    refine kUn al ?_
    refine bg al97 fun b44=>kAsL rfl (kAs rfl (am 5 rfl rfl (Upd.refl _) rfl sizeOf97 (a6 (W_rs (kUn (aj nn) ?_)))))
    refine kUn (ap 5 ty3 bw) ?_
    refine kIn rfl rfl rfl ?_
    refine a5 h6l rfl (fun _ h6l=>?_) (fun _ h6l=>?_)
    ·refine ba (fun e C=>aa6 R x43=some w6l/\At [(6,Pr.pt b4 0),(7,P6 0),(8,Pr.pt b5 0)] [p3,D8 b5 ah x43,D8 b26 af x30,p5,D8 b44 ah x43] e C) ?_ ?_
     ·rintro e C ⟨h6l,a⟩
      refine W_at a ?_
      unfold aa6 at h6l
      obtain rfl:=ho6 _ (ojs h6l)
      replace h:some (p1,0,x43)=some r:=h
      obtain rfl:=osj h
      exact a7 ⟨rfl,[(af).val p1,P6 0,(ah).val x43],⟨yBox 0 ty64 aa,yT aa,yBox 1 ty97 aa,tv⟩,aa⟩
     refine fc [(2,0,D8 b4 af p1),(4,1,D8 b5 ah x43)] [p3,D8 b5 ah x43,D8 b26 af x30,p5,E1 v38 af ([x30]:List B5) 64,D8 b44 ah x43] hmx kr kr (show([2,4]:List Nat).Nodup by decide) (show([0,1]:List Nat).Nodup by decide) rfl rfl ?_
     refine eq1 (out:=(af).val p1) (fun C2 hC=>(fg bi st64 rfl)) ?_
     refine eql 5 ty97 (Sub.refl _) rfl rfl kr ?_
     refine eqs 0 sizeOf64 (Upd.refl _) rfl rfl rfl kr ?_
     refine eq1 (out:=P6 0) (fun C2 hC=>f7) ?_
     refine eqs 1 sizeOf97 (Upd.refl _) rfl rfl rfl kr ?_
     exact⟨h6l,⟨⟨aa,aa,aa,tv⟩,A8.of [0,1,2,3,5] rfl⟩⟩
    refine au (W_rs (kAs rfl (W_rs (kMv rfl (kMvL rfl ?_)))))
    obtain⟨x46,k,h6l⟩:=ag h6l
    refine fp 4 el53 k (fun v47=>?_)
    refine kAs rfl (W_r (kMv rfl (kAs rfl ?_)))
    exact⟨x42,20,x46,v47,h6l,⟨⟨aa,aa,aa,aa,aa,aa,aa,aa,aa,aa,tv⟩,A8.of [0,1,2,3,4] rfl⟩⟩
   refine au ?_
   exact⟨w64 ((w64 (x29+1))+1),18,([x30]:List B5),v38,h6l,atOk⟩
  refine dp ?_
  obtain rfl:=ho6 _ (ojs h6l)
  exact⟨x29,x30,h,atOk⟩
 refine W_r (kMvL rfl (kMv rfl (cr h (br x1 x2 ([33]:Bt)) rfl fun x7 _ h=>kMv rfl ?_)))
 rcases bn h with⟨hc8,h⟩|⟨hc8,h⟩
 ·refine skx ?_
  refine kPt rfl hc8 rfl ?_
  exact⟨true,h,atOk⟩
 refine kGd rfl aa hc8 (hMvL rfl) (kGd rfl aa hc8 (hMvA rfl) ?_)
 obtain⟨x9,k,h⟩:=ag h
 refine kGd rfl aa hc8 (c7 (br x1 x2 ([45]:Bt) _ k)) ?_
 refine kPf rfl hc8 rfl ?_
 exact⟨x9,h,atOk⟩
theorem ajs (R:ax) (ih:ig R) (x1:List C5) (x2 x3:Int) (r:B5 × Int × C6) (h:u7 R x1 x2 x3=some r):Fp 201 [ao bu x1,P6 x2,P6 x3] (bj [(af).val r.1,P6 r.2.1,(ah).val r.2.2]):=by
 refine c9 (rs:=[.cell 6 64,.tmp 7,.cell 8 97]) func201 rfl ntmps201 results201 dcd (fun s0=>?_)
 let p1:=B5.mk 0 [] [] 0 0 0 0 0 []
 let p2:=C6.mk 0 0
 unfold u7 at h
 refine W_rs (bg al64 fun b4=>kAs rfl (bg al97 fun b5=>a6 (az (W_rs (kMvL rfl (kMv rfl ?_))))))
 let p3:=D8 b4 af p1
 obtain⟨x6,k,h⟩:=ag h
 refine kUn (du underlying41 sizeOf45 k) ?_
 refine kUn (dv an8 se) ?_
 refine kUn (bz ty3) ?_
 refine kIn rfl rfl rfl (kAs rfl ?_)
 refine a5 h rfl (fun _ h=>?_) (fun _ h=>?_)
 ·refine W_rs (kMvL rfl (kMv rfl (kMv rfl (kIn rfl rfl rfl ?_))))
  obtain⟨x8,k,h⟩:=ag h
  refine kUn (adt (ej x1 13 x2 (w64 (x2+1)) [] _ k) ⟨aa,aa,aa,aa,dr _,tv⟩) ?_
  refine bg al64 fun b9=>am 2 rfl rfl (Upd.refl _) rfl sizeOf64 (a6 (W_rs (kAs rfl (az ?_))))
  obtain⟨z3l,hz3,h⟩:=ag h
  obtain⟨n3,hN3⟩:=bm hz3
  refine cp 1 (fun e C=>∃x11,xd R x2 x11=some r/\At [(1,P6 x2),(6,Pr.pt b4 0),(8,Pr.pt b5 0),(9,Pr.pt b9 0)] [p3,D8 b5 ah p2,D8 b9 af x11] e C) ?_ ?_
  ·rintro e C ⟨x11,h,a⟩
   refine W_at a ?_
   unfold xd at h
   refine ba (fun e C=>∃x18,xk R x11 x2 x18=some r/\At [(6,Pr.pt b4 0),(7,P6 (w64 (x2+1))),(8,Pr.pt b5 0)] [D8 b4 af x11,D8 b5 ah x18,D8 b9 af x11] e C) ?_ ?_
   ·rintro e C ⟨x18,h,a⟩
    refine W_at a ?_
    unfold xk at h
    obtain rfl:=osj h
    exact a7 ⟨rfl,[(af).val x11,P6 (w64 (x2+1)),(ah).val x18],⟨yBox 0 ty64 aa,yT aa,yBox 1 ty97 aa,tv⟩,aa⟩
   obtain⟨x18,k,h⟩:=ag h
   refine fc [(4,0,D8 b4 af x11),(6,1,D8 b5 ah x18)] [D8 b4 af x11,D8 b5 ah x18,D8 b9 af x11] hmx kr kr (show([4,6]:List Nat).Nodup by decide) (show([0,1]:List Nat).Nodup by decide) rfl rfl ?_
   refine eql 2 ty64 (Sub.refl _) rfl rfl kr ?_
   refine eq1 (out:=P6 x2) (fun C2 hC=>fr) ?_
   refine eq1 (out:=P6 (w64 (x2+1))) (fun C2 hC=>qInt) ?_
   refine eq1 (out:=(ah).val x18) (fun C2 hC=>(c7 (da _ k))) ?_
   refine eqs 0 sizeOf64 (Upd.refl _) rfl rfl rfl kr ?_
   refine eq1 (out:=P6 (w64 (x2+1))) (fun C2 hC=>f7) ?_
   refine eqs 1 sizeOf97 (Upd.refl _) rfl rfl rfl kr ?_
   exact⟨x18,h,atOk⟩
  refine dq (fun m e C=>∃x10,∃x11,ez (fun s=>sh R x1 x2 s.1 s.2) m (x10,x11)=some z3l/\At [(0,ao bu x1),(1,P6 x2),(6,Pr.pt b4 0),(8,Pr.pt b5 0),(9,Pr.pt b9 0),(10,P6 x10)] [p3,D8 b5 ah p2,D8 b9 af x11] e C) n3 ⟨0,x8,hN3,⟨⟨aa,aa,aa,aa,aa,aa,tv⟩,A8.refl _⟩⟩ ?_
  rintro m e C ⟨x10,x11,hN3,a⟩
  refine W_at a ?_
  obtain⟨m3,w3l,rfl,h3l,hn3,ho3⟩:=bc hN3
  replace h3l:sh R x1 x2 x10 x11=some w3l:=h3l
  unfold sh at h3l
  refine a6 (W_rs (kMv rfl (kMvL rfl (kMv rfl ?_))))
  obtain⟨x14,k,h3l⟩:=ag h3l
  refine kUn (du underlying41 sizeOf45 k) ?_
  refine kUn (dv aag fy) ?_
  refine kUn (bz ty9) ?_
  refine kUn (aji rfl underlying9) ?_
  refine kIn rfl rfl rfl ?_
  refine a5 h3l rfl (fun _ h3l=>?_) (fun _ h3l=>?_)
  ·refine au (a6 (az ?_))
   refine jg 14 hmx kr kr ?_
   refine lUn (aj aia) ?_
   refine lUn (ap 2 ty2 abx) ?_
   refine lUn (qInt rfl rfl rfl) (lUn (hMvL rfl) (lUn (hMvA rfl) ?_))
   obtain⟨x16,k,h3l⟩:=ag h3l
   refine lUn (du underlying41 sizeOf45 k) ?_
   refine lUn (dv aag fy) ?_
   refine lUn (bz ty9) ?_
   refine lUn (hMvA rfl) ?_
   obtain⟨x17,k,h3l⟩:=ag h3l
   refine lUn (ah3 underlying9 k) ?_
   refine lUn (qInt rfl rfl rfl) (lUn (ant underlying5 underlying2) ?_)
   refine lUn (qInt rfl rfl rfl) (lUn (aj aia) ?_)
   refine am 2 rfl rfl air rfl sizeOf2 (W_r (kMv rfl (kIn rfl rfl rfl (kAs rfl ?_))))
   exact⟨m3,lsu,w64 (x10+1),{x11 with N:=w64 ((w64 (10 * x11.N))+(w64 (IntKind.wrap .u8 (x17 - 48))))},hn3 _ (ojs h3l),atOk⟩
  refine dp ?_
  obtain rfl:=ho3 _ (ojs h3l)
  exact⟨x11,h,atOk⟩
 refine W_rs (kMvL rfl (kMv rfl (cr h (br x1 x2 ([116,114,117,101]:Bt)) rfl fun x19 _ h=>kAs rfl ?_)))
 refine a5 h rfl (fun _ h=>?_) (fun _ h=>?_)
 ·refine W_rs (kMvL rfl (kMv rfl (kMv rfl (kIn rfl rfl rfl ?_))))
  obtain⟨x21,k,h⟩:=ag h
  let p4:={x21 with N:=1}
  refine kUn (adt (ej x1 14 x2 (w64 (x2+1)) [] _ k) ⟨aa,aa,aa,aa,dr _,tv⟩) ?_
  refine bg al64 fun b22=>am 2 rfl rfl (Upd.refl _) rfl sizeOf64 (W_rs (kUn (aj aia) ?_))
  refine am 2 rfl rfl air rfl sizeOf2 ?_
  refine ba (fun e C=>∃x23,xj R x21 x2 x23=some r/\At [(6,Pr.pt b4 0),(7,P6 (w64 (x2+1))),(8,Pr.pt b5 0)] [D8 b4 af p4,D8 b5 ah x23,D8 b22 af p4] e C) ?_ ?_
  ·rintro e C ⟨x23,h,a⟩
   refine W_at a ?_
   unfold xj at h
   obtain rfl:=osj h
   exact a7 ⟨rfl,[(af).val p4,P6 (w64 (x2+1)),(ah).val x23],⟨yBox 0 ty64 aa,yT aa,yBox 1 ty97 aa,tv⟩,aa⟩
  obtain⟨x23,k,h⟩:=ag h
  refine fc [(4,0,D8 b4 af p4),(6,1,D8 b5 ah x23)] [D8 b4 af p4,D8 b5 ah x23,D8 b22 af p4] hmx kr kr (show([4,6]:List Nat).Nodup by decide) (show([0,1]:List Nat).Nodup by decide) rfl rfl ?_
  refine eql 2 ty64 (Sub.refl _) rfl rfl kr ?_
  refine eq1 (out:=P6 x2) (fun C2 hC=>fr) ?_
  refine eq1 (out:=P6 (w64 (x2+1))) (fun C2 hC=>qInt) ?_
  refine eq1 (out:=(ah).val x23) (fun C2 hC=>(c7 (da _ k))) ?_
  refine eqs 0 sizeOf64 (Upd.refl _) rfl rfl rfl kr ?_
  refine eq1 (out:=P6 (w64 (x2+1))) (fun C2 hC=>f7) ?_
  refine eqs 1 sizeOf97 (Upd.refl _) rfl rfl rfl kr ?_
  exact⟨x23,h,atOk⟩
 refine W_rs (kMvL rfl (kMv rfl (cr h (br x1 x2 ([102,97,108,115,101]:Bt)) rfl fun x24 _ h=>kAs rfl ?_)))
 refine a5 h rfl (fun _ h=>?_) (fun _ h=>?_)
 ·refine W_rs (kMvL rfl (kMv rfl (kMv rfl (kIn rfl rfl rfl ?_))))
  obtain⟨x26,k,h⟩:=ag h
  refine kUn (adt (ej x1 14 x2 (w64 (x2+1)) [] _ k) ⟨aa,aa,aa,aa,dr _,tv⟩) ?_
  refine kMv rfl (kIn rfl rfl rfl (cr h (da) rfl fun x27 _ h=>am 0 rfl rfl (Upd.refl _) rfl sizeOf64 (kAs rfl (am 1 rfl rfl (Upd.refl _) rfl sizeOf97 ?_))))
  obtain rfl:=osj h
  exact a7 ⟨rfl,[(af).val x26,P6 (w64 (x2+1)),(ah).val x27],⟨yBox 0 ty64 aa,yT aa,yBox 1 ty97 aa,tv⟩,aa⟩
 refine W_rs (kMvL rfl (kMv rfl (cr h (br x1 x2 ([110,117,108,108]:Bt)) rfl fun x28 _ h=>kAs rfl ?_)))
 refine a5 h rfl (fun _ h=>?_) (fun _ h=>?_)
 ·refine W_rs (kMvL rfl (kMv rfl (kMv rfl (kIn rfl rfl rfl ?_))))
  obtain⟨x30,k,h⟩:=ag h
  refine kUn (adt (ej x1 15 x2 (w64 (x2+1)) [] _ k) ⟨aa,aa,aa,aa,dr _,tv⟩) ?_
  refine kMv rfl (kIn rfl rfl rfl (cr h (da) rfl fun x31 _ h=>am 0 rfl rfl (Upd.refl _) rfl sizeOf64 (kAs rfl (am 1 rfl rfl (Upd.refl _) rfl sizeOf97 ?_))))
  obtain rfl:=osj h
  exact a7 ⟨rfl,[(af).val x30,P6 (w64 (x2+1)),(ah).val x31],⟨yBox 0 ty64 aa,yT aa,yBox 1 ty97 aa,tv⟩,aa⟩
 refine W_rs (kMvL rfl (kMv rfl (cr h (br x1 x2 ([116,104,105,115]:Bt)) rfl fun x32 _ h=>kAs rfl ?_)))
 refine a5 h rfl (fun _ h=>?_) (fun _ h=>?_)
 ·refine W_rs (kMvL rfl (kMv rfl (kMv rfl (kIn rfl rfl rfl ?_))))
  obtain⟨x34,k,h⟩:=ag h
  refine kUn (adt (ej x1 16 x2 (w64 (x2+1)) [] _ k) ⟨aa,aa,aa,aa,dr _,tv⟩) ?_
  refine kMv rfl (kIn rfl rfl rfl (cr h (da) rfl fun x35 _ h=>am 0 rfl rfl (Upd.refl _) rfl sizeOf64 (kAs rfl (am 1 rfl rfl (Upd.refl _) rfl sizeOf97 ?_))))
  obtain rfl:=osj h
  exact a7 ⟨rfl,[(af).val x34,P6 (w64 (x2+1)),(ah).val x35],⟨yBox 0 ty64 aa,yT aa,yBox 1 ty97 aa,tv⟩,aa⟩
 refine W_rs (kMvL rfl (kMv rfl (cr h (br x1 x2 ([110,101,119]:Bt)) rfl fun x36 _ h=>kAs rfl ?_)))
 refine a5 h rfl (fun _ h=>?_) (fun _ h=>?_)
 ·refine a6 (W_rs (kMvL rfl (kMv rfl (kIn rfl rfl rfl (cr h (ki x1 (w64 (x2+1))) rfl fun x38 _ h=>kNo rfl ?_)))))
  refine a5 h rfl (fun _ h=>?_) (fun _ h=>?_)
  ·refine W_rs (kUn (fg bi st64 rfl) ?_)
   refine kMv rfl (kIn rfl rfl rfl (cr h (cj (w64 (x2+1))) rfl fun x40 _ h=>am 0 rfl rfl (Upd.refl _) rfl sizeOf64 (kAs rfl (am 1 rfl rfl (Upd.refl _) rfl sizeOf97 ?_))))
   obtain rfl:=osj h
   exact a7 ⟨rfl,[(af).val p1,P6 0,(ah).val x40],⟨yBox 0 ty64 aa,yT aa,yBox 1 ty97 aa,tv⟩,aa⟩
  refine au (a6 (W_rs (kMvL rfl (kMv rfl (kIn rfl rfl rfl (cr h (br x1 (w64 (x2+2)) ([40]:Bt)) rfl fun x41 _ h=>kNo rfl ?_))))))
  refine a5 h rfl (fun _ h=>?_) (fun _ h=>?_)
  ·refine W_rs (kUn (fg bi st64 rfl) ?_)
   refine kMv rfl (kIn rfl rfl rfl (cr h (cj (w64 (x2+2))) rfl fun x43 _ h=>am 0 rfl rfl (Upd.refl _) rfl sizeOf64 (kAs rfl (am 1 rfl rfl (Upd.refl _) rfl sizeOf97 ?_))))
   obtain rfl:=osj h
   exact a7 ⟨rfl,[(af).val p1,P6 0,(ah).val x43],⟨yBox 0 ty64 aa,yT aa,yBox 1 ty97 aa,tv⟩,aa⟩
  refine au (a6 (W_rs (kMvL rfl (kMv rfl (kIn rfl rfl rfl (cr h (br x1 (w64 (x2+3)) ([41]:Bt)) rfl fun x44 _ h=>kNo rfl ?_))))))
  refine a5 h rfl (fun _ h=>?_) (fun _ h=>?_)
  ·refine W_rs (kUn (fg bi st64 rfl) ?_)
   refine kMv rfl (kIn rfl rfl rfl (cr h (cj (w64 (x2+3))) rfl fun x46 _ h=>am 0 rfl rfl (Upd.refl _) rfl sizeOf64 (kAs rfl (am 1 rfl rfl (Upd.refl _) rfl sizeOf97 ?_))))
   obtain rfl:=osj h
   exact a7 ⟨rfl,[(af).val p1,P6 0,(ah).val x46],⟨yBox 0 ty64 aa,yT aa,yBox 1 ty97 aa,tv⟩,aa⟩
  refine au (W_rs (kMvL rfl (kMv rfl (kMv rfl (kIn rfl rfl rfl ?_)))))
  obtain⟨x47,k,h⟩:=ag h
  refine kUn (adt (ej x1 21 x2 (w64 (x2+4)) [] _ k) ⟨aa,aa,aa,aa,dr _,tv⟩) ?_
  refine bg al64 fun b48=>am 2 rfl rfl (Upd.refl _) rfl sizeOf64 (W_rs (kMvL rfl (kMv rfl (kIn rfl rfl rfl ?_))))
  obtain⟨x49,k,h⟩:=ag h
  refine kUn (du underlying41 sizeOf45 k) ?_
  refine kUn (dv aag fy) ?_
  refine kUn (bz ty9) ?_
  refine kUn (aj ec) ?_
  refine am 2 rfl rfl q8 rfl sizeOf9 (W_rs (kMvL rfl (kMv rfl (kIn rfl rfl rfl ?_))))
  obtain⟨x50,k,h⟩:=ag h
  let p5:={{x47 with Text:=x49.Text} with At:=x50.At}
  refine kUn (du underlying41 sizeOf45 k) ?_
  refine kUn (dv aft kf) ?_
  refine kUn (bz ty3) ?_
  refine kUn (aj mi) ?_
  refine am 2 rfl rfl y5 rfl sizeOf3 ?_
  refine ba (fun e C=>∃x51,xi R x47 x49 x50 x2 x51=some r/\At [(6,Pr.pt b4 0),(7,P6 (w64 (x2+4))),(8,Pr.pt b5 0)] [D8 b4 af p5,D8 b5 ah x51,D8 b48 af p5] e C) ?_ ?_
  ·rintro e C ⟨x51,h,a⟩
   refine W_at a ?_
   unfold xi at h
   obtain rfl:=osj h
   exact a7 ⟨rfl,[(af).val p5,P6 (w64 (x2+4)),(ah).val x51],⟨yBox 0 ty64 aa,yT aa,yBox 1 ty97 aa,tv⟩,aa⟩
  obtain⟨x51,k,h⟩:=ag h
  refine fc [(4,0,D8 b4 af p5),(6,1,D8 b5 ah x51)] [D8 b4 af p5,D8 b5 ah x51,D8 b48 af p5] hmx kr kr (show([4,6]:List Nat).Nodup by decide) (show([0,1]:List Nat).Nodup by decide) rfl rfl ?_
  refine eql 2 ty64 (Sub.refl _) rfl rfl kr ?_
  refine eq1 (out:=P6 x2) (fun C2 hC=>fr) ?_
  refine eq1 (out:=P6 (w64 (x2+4))) (fun C2 hC=>qInt) ?_
  refine eq1 (out:=(ah).val x51) (fun C2 hC=>(c7 (da _ k))) ?_
  refine eqs 0 sizeOf64 (Upd.refl _) rfl rfl rfl kr ?_
  refine eq1 (out:=P6 (w64 (x2+4))) (fun C2 hC=>f7) ?_
  refine eqs 1 sizeOf97 (Upd.refl _) rfl rfl rfl kr ?_
  exact⟨x51,h,atOk⟩
 refine W_rs (kMvL rfl (kMv rfl (cr h (br x1 x2 ([40]:Bt)) rfl fun x52 _ h=>kAs rfl ?_)))
 refine a5 h rfl (fun _ h=>?_) (fun _ h=>?_)
 ·refine W_rs (kMvL rfl (kMv rfl (kIn rfl rfl rfl (kMv rfl ?_))))
  obtain⟨⟨x54,x55,x56⟩,k,h⟩:=ag h
  refine kUn (c7 (ih.1 x1 (w64 (x2+1)) x3 _ k)) ?_
  refine kUn (hMv (out:=bj [(af).val x54,P6 x55,(ah).val x56]) rfl) (kUn al ?_)
  refine kUn al ?_
  refine kUn al ?_
  refine bg al64 fun b57=>?_
  let p6:=D8 b57 af x54
  refine bg al97 fun b58=>am 2 rfl rfl (Upd.refl _) rfl sizeOf64 (kAs rfl (am 3 rfl rfl (Upd.refl _) rfl sizeOf97 (a6 (W_rs (kUn (aj nn) ?_)))))
  let p7:=D8 b58 ah x56
  refine kUn (ap 3 ty3 bw) ?_
  refine kIn rfl rfl rfl ?_
  refine a5 h rfl (fun _ h=>?_) (fun _ h=>?_)
  ·refine ba (fun e C=>xh R x56=some r/\At [(6,Pr.pt b4 0),(7,P6 0),(8,Pr.pt b5 0)] [p3,D8 b5 ah x56,p6,p7] e C) ?_ ?_
   ·rintro e C ⟨h,a⟩
    refine W_at a ?_
    unfold xh at h
    obtain rfl:=osj h
    exact a7 ⟨rfl,[(af).val p1,P6 0,(ah).val x56],⟨yBox 0 ty64 aa,yT aa,yBox 1 ty97 aa,tv⟩,aa⟩
   refine fc [(2,0,D8 b4 af p1),(4,1,D8 b5 ah x56)] [p3,D8 b5 ah x56,p6,p7] hmx kr kr (show([2,4]:List Nat).Nodup by decide) (show([0,1]:List Nat).Nodup by decide) rfl rfl ?_
   refine eq1 (out:=(af).val p1) (fun C2 hC=>(fg bi st64 rfl)) ?_
   refine eql 3 ty97 (Sub.refl _) rfl rfl kr ?_
   refine eqs 0 sizeOf64 (Upd.refl _) rfl rfl rfl kr ?_
   refine eq1 (out:=P6 0) (fun C2 hC=>f7) ?_
   refine eqs 1 sizeOf97 (Upd.refl _) rfl rfl rfl kr ?_
   exact⟨h,atOk⟩
  refine au (a6 (W_rs (kMvL rfl (kMv rfl (cr h (br x1 x55 ([41]:Bt)) rfl fun x60 _ h=>kNo rfl ?_)))))
  refine a5 h rfl (fun _ h=>?_) (fun _ h=>?_)
  ·refine W_rs (kUn (fg bi st64 rfl) ?_)
   refine kMv rfl (cr h (cj x55) rfl fun x62 _ h=>am 0 rfl rfl (Upd.refl _) rfl sizeOf64 (kAs rfl (am 1 rfl rfl (Upd.refl _) rfl sizeOf97 ?_)))
   obtain rfl:=osj h
   exact a7 ⟨rfl,[(af).val p1,P6 0,(ah).val x62],⟨yBox 0 ty64 aa,yT aa,yBox 1 ty97 aa,tv⟩,aa⟩
  refine au ?_
  refine ba (fun e C=>∃x63,xg R x54 x55 x63=some r/\At [(6,Pr.pt b4 0),(7,P6 (w64 (x55+1))),(8,Pr.pt b5 0)] [D8 b4 af x54,D8 b5 ah x63,p6,p7] e C) ?_ ?_
  ·rintro e C ⟨x63,h,a⟩
   refine W_at a ?_
   unfold xg at h
   obtain rfl:=osj h
   exact a7 ⟨rfl,[(af).val x54,P6 (w64 (x55+1)),(ah).val x63],⟨yBox 0 ty64 aa,yT aa,yBox 1 ty97 aa,tv⟩,aa⟩
  obtain⟨x63,k,h⟩:=ag h
  refine fc [(4,0,D8 b4 af x54),(6,1,D8 b5 ah x63)] [D8 b4 af x54,D8 b5 ah x63,p6,p7] hmx kr kr (show([4,6]:List Nat).Nodup by decide) (show([0,1]:List Nat).Nodup by decide) rfl rfl ?_
  refine eql 2 ty64 (Sub.refl _) rfl rfl kr ?_
  refine eq1 (out:=P6 x55) (fun C2 hC=>fr) ?_
  refine eq1 (out:=P6 (w64 (x55+1))) (fun C2 hC=>qInt) ?_
  refine eq1 (out:=(ah).val x63) (fun C2 hC=>(c7 (da _ k))) ?_
  refine eqs 0 sizeOf64 (Upd.refl _) rfl rfl rfl kr ?_
  refine eq1 (out:=P6 (w64 (x55+1))) (fun C2 hC=>f7) ?_
  refine eqs 1 sizeOf97 (Upd.refl _) rfl rfl rfl kr ?_
  exact⟨x63,h,atOk⟩
 refine W_rs (kMvL rfl (kMv rfl (cr h (ki x1 x2) rfl fun x64 _ h=>kAs rfl ?_)))
 refine a5 h rfl (fun _ h=>?_) (fun _ h=>?_)
 ·refine W_rs (kMvL rfl (kMv rfl (kMv rfl (kIn rfl rfl rfl ?_))))
  obtain⟨x66,k,h⟩:=ag h
  refine kUn (adt (ej x1 17 x2 (w64 (x2+1)) [] _ k) ⟨aa,aa,aa,aa,dr _,tv⟩) ?_
  refine bg al64 fun b67=>am 2 rfl rfl (Upd.refl _) rfl sizeOf64 (W_rs (kMvL rfl (kMv rfl ?_)))
  obtain⟨x68,k,h⟩:=ag h
  refine kUn (du underlying41 sizeOf45 k) ?_
  refine kUn (dv aag fy) ?_
  refine kUn (bz ty9) ?_
  refine kUn (aj ec) ?_
  refine am 2 rfl rfl q8 rfl sizeOf9 (W_rs (kMvL rfl (kMv rfl ?_)))
  obtain⟨x69,k,h⟩:=ag h
  let p8:={{x66 with Text:=x68.Text} with At:=x69.At}
  refine kUn (du underlying41 sizeOf45 k) ?_
  refine kUn (dv aft kf) ?_
  refine kUn (bz ty3) ?_
  refine kUn (aj mi) ?_
  refine am 2 rfl rfl y5 rfl sizeOf3 (a6 (W_rs (kMvL rfl (kMv rfl (kIn rfl rfl rfl (cr h (br x1 (w64 (x2+1)) ([40]:Bt)) rfl fun x70 _ h=>kNo rfl ?_))))))
  refine a5 h rfl (fun _ h=>?_) (fun _ h=>?_)
  ·refine ba (fun e C=>∃x72,xf R x66 x68 x69 x2 x72=some r/\At [(6,Pr.pt b4 0),(7,P6 (w64 (x2+1))),(8,Pr.pt b5 0)] [D8 b4 af p8,D8 b5 ah x72,D8 b67 af p8] e C) ?_ ?_
   ·rintro e C ⟨x72,h,a⟩
    refine W_at a ?_
    unfold xf at h
    obtain rfl:=osj h
    exact a7 ⟨rfl,[(af).val p8,P6 (w64 (x2+1)),(ah).val x72],⟨yBox 0 ty64 aa,yT aa,yBox 1 ty97 aa,tv⟩,aa⟩
   obtain⟨x72,k,h⟩:=ag h
   refine fc [(4,0,D8 b4 af p8),(6,1,D8 b5 ah x72)] [D8 b4 af p8,D8 b5 ah x72,D8 b67 af p8] hmx kr kr (show([4,6]:List Nat).Nodup by decide) (show([0,1]:List Nat).Nodup by decide) rfl rfl ?_
   refine eql 2 ty64 (Sub.refl _) rfl rfl kr ?_
   refine eq1 (out:=P6 x2) (fun C2 hC=>fr) ?_
   refine eq1 (out:=P6 (w64 (x2+1))) (fun C2 hC=>qInt) ?_
   refine eq1 (out:=(ah).val x72) (fun C2 hC=>(c7 (da _ k))) ?_
   refine eqs 0 sizeOf64 (Upd.refl _) rfl rfl rfl kr ?_
   refine eq1 (out:=P6 (w64 (x2+1))) (fun C2 hC=>f7) ?_
   refine eqs 1 sizeOf97 (Upd.refl _) rfl rfl rfl kr ?_
   exact⟨x72,h,atOk⟩
  refine au (W_rs (kMvL rfl (kMv rfl (kIn rfl rfl rfl (kMv rfl ?_)))))
  obtain⟨⟨x73,x74,x75⟩,k,h⟩:=ag h
  refine kUn (c7 (ih.2.2.2.2 x1 (w64 (x2+2)) x3 _ k)) ?_
  refine kUn (hMv (out:=bj [ao af x73,P6 x74,(ah).val x75]) rfl) (kUn al ?_)
  refine kUn al ?_
  refine kUn al ?_
  refine bg al97 fun b76=>kAsL rfl (kAs rfl (am 3 rfl rfl (Upd.refl _) rfl sizeOf97 (a6 (W_rs (kUn (aj nn) ?_)))))
  let p9:=D8 b76 ah x75
  refine kUn (ap 3 ty3 bw) ?_
  refine kIn rfl rfl rfl ?_
  refine a5 h rfl (fun _ h=>?_) (fun _ h=>?_)
  ·refine ba (fun e C=>xe R x75=some r/\At [(6,Pr.pt b4 0),(7,P6 0),(8,Pr.pt b5 0)] [p3,D8 b5 ah x75,D8 b67 af p8,p9] e C) ?_ ?_
   ·rintro e C ⟨h,a⟩
    refine W_at a ?_
    unfold xe at h
    obtain rfl:=osj h
    exact a7 ⟨rfl,[(af).val p1,P6 0,(ah).val x75],⟨yBox 0 ty64 aa,yT aa,yBox 1 ty97 aa,tv⟩,aa⟩
   refine fc [(2,0,D8 b4 af p1),(4,1,D8 b5 ah x75)] [p3,D8 b5 ah x75,D8 b67 af p8,p9] hmx kr kr (show([2,4]:List Nat).Nodup by decide) (show([0,1]:List Nat).Nodup by decide) rfl rfl ?_
   refine eq1 (out:=(af).val p1) (fun C2 hC=>(fg bi st64 rfl)) ?_
   refine eql 3 ty97 (Sub.refl _) rfl rfl kr ?_
   refine eqs 0 sizeOf64 (Upd.refl _) rfl rfl rfl kr ?_
   refine eq1 (out:=P6 0) (fun C2 hC=>f7) ?_
   refine eqs 1 sizeOf97 (Upd.refl _) rfl rfl rfl kr ?_
   exact⟨h,atOk⟩
  refine au (W_rs (kUn (aj e8) ?_))
  refine am 2 rfl rfl ao0 rfl sizeOf3 (W_rs (kMvL rfl (kUn (aj kw) ?_)))
  refine am 2 rfl rfl ao1 rfl sizeOf53 (W_rs (kMvL rfl (kMv rfl (cr h (am2 x1 x74) rfl fun x78 _ h=>?_))))
  let p10:={{{{{x66 with Text:=x68.Text} with At:=x69.At} with Kind:=19} with Kids:=x73} with To:=x78}
  refine kUn (aj fld64_5) ?_
  refine am 2 rfl rfl asl rfl sizeOf3 ?_
  refine ba (fun e C=>∃x79,vm R x66 x68 x69 x73 x78 x74 x79=some r/\At [(6,Pr.pt b4 0),(7,P6 x74),(8,Pr.pt b5 0)] [D8 b4 af p10,D8 b5 ah x79,D8 b67 af p10,p9] e C) ?_ ?_
  ·rintro e C ⟨x79,h,a⟩
   refine W_at a ?_
   unfold vm at h
   obtain rfl:=osj h
   exact a7 ⟨rfl,[(af).val p10,P6 x74,(ah).val x79],⟨yBox 0 ty64 aa,yT aa,yBox 1 ty97 aa,tv⟩,aa⟩
  obtain⟨x79,k,h⟩:=ag h
  refine fc [(3,0,D8 b4 af p10),(5,1,D8 b5 ah x79)] [D8 b4 af p10,D8 b5 ah x79,D8 b67 af p10,p9] hmx kr kr (show([3,5]:List Nat).Nodup by decide) (show([0,1]:List Nat).Nodup by decide) rfl rfl ?_
  refine eql 2 ty64 (Sub.refl _) rfl rfl kr ?_
  refine eq1 (out:=P6 x74) (fun C2 hC=>fr) ?_
  refine eq1 (out:=(ah).val x79) (fun C2 hC=>(c7 (da _ k))) ?_
  refine eqs 0 sizeOf64 (Upd.refl _) rfl rfl rfl kr ?_
  refine eq1 (out:=P6 x74) (fun C2 hC=>f7) ?_
  refine eqs 1 sizeOf97 (Upd.refl _) rfl rfl rfl kr ?_
  exact⟨x79,h,atOk⟩
 refine au (W_rs (kUn (fg bi st64 rfl) ?_))
 refine kMv rfl (cr h (cj x2) rfl fun x80 _ h=>am 0 rfl rfl (Upd.refl _) rfl sizeOf64 (kAs rfl (am 1 rfl rfl (Upd.refl _) rfl sizeOf97 ?_)))
 obtain rfl:=osj h
 exact a7 ⟨rfl,[(af).val p1,P6 0,(ah).val x80],⟨yBox 0 ty64 aa,yT aa,yBox 1 ty97 aa,tv⟩,aa⟩
theorem ah0 (R:ax) (ih:ig R) (x1:List C5) (x2 x3:Int) (r:(List B5) × Int × C6) (h:rj R x1 x2 x3=some r):Fp 202 [ao bu x1,P6 x2,P6 x3] (bj [ao af r.1,P6 r.2.1,(ah).val r.2.2]):=by
 refine c9 (rs:=[.tmp 6,.tmp 7,.cell 8 97]) func202 rfl ntmps202 results202 dcd (fun s0=>?_)
 unfold rj at h
 refine W_rs (kAs rfl (kAs rfl (bg al97 fun b4=>W_rs (kAs rfl (a6 (W_rs (kMvL rfl (kMv rfl (cr h (br x1 x2 ([41]:Bt)) rfl fun x5 _ h=>?_)))))))))
 refine a5 h rfl (fun _ h=>?_) (fun _ h=>?_)
 ·refine W_rs (kMv rfl (kMv rfl (kIn rfl rfl rfl (cr h (da) rfl fun x7 _ h=>kAs rfl (kAs rfl (am 0 rfl rfl (Upd.refl _) rfl sizeOf97 ?_))))))
  obtain rfl:=osj h
  exact a7 ⟨rfl,[ao af [],P6 (w64 (x2+1)),(ah).val x7],⟨yT (dr _),yT aa,yBox 0 ty97 aa,tv⟩,aa⟩
 refine au (az ?_)
 obtain⟨n1,hN1⟩:=bm h
 refine agk [9] af 64 (fun v28=>?_) ⟨rfl,tv⟩
 refine dq (fun m e C=>∃x8,∃x10,∃v9,ez (fun s=>o7 R x1 x3 s.1 s.2) m (x8,x10)=some r/\At [(0,ao bu x1),(1,P6 x8),(2,P6 x3),(8,Pr.pt b4 0),(9,Pi v9)] [D8 b4 ah (C6.mk 0 0),E1 v9 af x10 64] e C) n1 ⟨x2,[],v28,hN1,⟨⟨aa,aa,aa,aa,aa,tv⟩,A8.refl _⟩⟩ ?_
 rintro m e C ⟨x8,x10,v9,hN1,a⟩
 refine W_at a ?_
 obtain⟨m1,w1l,rfl,h1l,hn1,ho1⟩:=bc hN1
 replace h1l:o7 R x1 x3 x8 x10=some w1l:=h1l
 unfold o7 at h1l
 refine az (W_rs (kMvL rfl (kMv rfl (kMv rfl ?_))))
 obtain⟨⟨x14,x15,x16⟩,k,h1l⟩:=ag h1l
 refine kUn (c7 (ih.1 x1 x8 x3 _ k)) ?_
 refine kUn (hMv (out:=bj [(af).val x14,P6 x15,(ah).val x16]) rfl) (kUn al ?_)
 refine kUn al ?_
 refine kUn al ?_
 refine bg al64 fun b17=>?_
 refine bg al97 fun b18=>am 2 rfl rfl (Upd.refl _) rfl sizeOf64 (kAs rfl (am 3 rfl rfl (Upd.refl _) rfl sizeOf97 (a6 (W_rs (kUn (aj nn) ?_)))))
 refine kUn (ap 3 ty3 bw) ?_
 refine kIn rfl rfl rfl ?_
 refine a5 h1l rfl (fun _ h1l=>?_) (fun _ h1l=>?_)
 ·refine ba (fun e C=>tw R x16=some w1l/\At [(6,Pi (.slice none 0 0)),(7,P6 0),(8,Pr.pt b4 0)] [D8 b4 ah x16,D8 b17 af x14,D8 b18 ah x16] e C) ?_ ?_
  ·rintro e C ⟨h1l,a⟩
   refine W_at a ?_
   unfold tw at h1l
   have h:some ([],0,x16)=some r:=congrArg some (ho1 _ (ojs h1l))
   obtain rfl:=osj h
   exact a7 ⟨rfl,[ao af [],P6 0,(ah).val x16],⟨yT (dr _),yT aa,yBox 0 ty97 aa,tv⟩,aa⟩
  refine jg 3 hmx kr kr ?_
  refine lUn (ap 3 ty97 (Sub.refl _)) ?_
  refine lUn (hAsA rfl) (lUn (hAsA rfl) (am 0 rfl rfl (Upd.refl _) rfl sizeOf97 ?_))
  exact⟨h1l,⟨⟨aa,aa,aa,tv⟩,A8.of [0,2,3] rfl⟩⟩
 refine au (W_rs (kMv rfl (kUn (ap 2 ty64 (Sub.refl _)) ?_)))
 refine kUn (cm (R:=af) (a:=x14) el53 nb) ?_
 obtain⟨x20,k,h1l⟩:=ag h1l
 refine fp 1 el53 k (fun v21=>?_)
 refine kAs rfl (a6 (W_rs (kMvL rfl (kMv rfl (cr h1l (br x1 x15 ([41]:Bt)) rfl fun x22 _ h1l=>?_)))))
 refine a5 h1l rfl (fun _ h1l=>?_) (fun _ h1l=>?_)
 ·refine W_rs (kMv rfl (kMv rfl (kIn rfl rfl rfl (cr h1l (da) rfl fun x24 _ h1l=>kAs rfl (kAs rfl (am 0 rfl rfl (Upd.refl _) rfl sizeOf97 ?_))))))
  have h:some (x20,w64 (x15+1),x24)=some r:=congrArg some (ho1 _ (ojs h1l))
  refine aly 1 [6] ?_ rfl ⟨rfl,tv⟩
  obtain rfl:=osj h
  exact a7 ⟨rfl,[ao af x20,P6 (w64 (x15+1)),(ah).val x24],⟨yT aa,yT aa,yBox 0 ty97 aa,tv⟩,aa⟩
 refine au (a6 (W_rs (kMvL rfl (kMv rfl (cr h1l (br x1 x15 ([44]:Bt)) rfl fun x25 _ h1l=>kNo rfl ?_)))))
 refine a5 h1l rfl (fun _ h1l=>?_) (fun _ h1l=>?_)
 ·refine W_rs (kMv rfl (cr h1l (cj x15) rfl fun x27 _ h1l=>kAs rfl (kAs rfl (am 0 rfl rfl (Upd.refl _) rfl sizeOf97 ?_))))
  have h:some ([],0,x27)=some r:=congrArg some (ho1 _ (ojs h1l))
  obtain rfl:=osj h
  exact a7 ⟨rfl,[ao af [],P6 0,(ah).val x27],⟨yT (dr _),yT aa,yBox 0 ty97 aa,tv⟩,aa⟩
 refine au (W_r (kMv rfl (kIn rfl rfl rfl (kAs rfl ?_))))
 exact⟨m1,lsu,w64 (x15+1),x20,v21,hn1 _ (ojs h1l),⟨⟨aa,aa,aa,aa,aa,tv⟩,A8.of [0,1] rfl⟩⟩
theorem ahq :∀n,ig (ga n):=by
 intro n
 induction n with
 |zero=>exact⟨(fun x1 x2 x3 r h=>nomatch (show none=some r from h)),(fun x1 x2 x3 x4 r h=>nomatch (show none=some r from h)),(fun x1 x2 x3 r h=>nomatch (show none=some r from h)),(fun x1 x2 x3 r h=>nomatch (show none=some r from h)),(fun x1 x2 x3 r h=>nomatch (show none=some r from h))⟩
 |succ n ih=>exact⟨(fun x1 x2 x3 r h=>ahu (ga n) ih x1 x2 x3 r h),(fun x1 x2 x3 x4 r h=>alq (ga n) ih x1 x2 x3 x4 r h),(fun x1 x2 x3 r h=>alp (ga n) ih x1 x2 x3 r h),(fun x1 x2 x3 r h=>ajs (ga n) ih x1 x2 x3 r h),(fun x1 x2 x3 r h=>ah0 (ga n) ih x1 x2 x3 r h)⟩
theorem n0 (x1:List C5) (x2 x3:Int) (r:B5 × Int × C6) (h:ml x1 x2 x3=some r):Fp 179 [ao bu x1,P6 x2,P6 x3] (bj [(af).val r.1,P6 r.2.1,(ah).val r.2.2]):=(ahq 1048576).1 x1 x2 x3 r h
theorem apg (x1:List C5) (x2 x3:Int) (r:B5 × Int × C6) (h:ab3 x1 x2 x3=some r):Fp 168 [ao bu x1,P6 x2,P6 x3] (bj [(af).val r.1,P6 r.2.1,(ah).val r.2.2]):=by
 refine c9 (rs:=[.cell 6 64,.tmp 7,.cell 8 97]) func168 rfl ntmps168 results168 dcd (fun s0=>?_)
 let p1:=B5.mk 0 [] [] 0 0 0 0 0 []
 unfold ab3 at h
 refine W_rs (bg al64 fun b4=>kAs rfl (bg al97 fun b5=>a6 (W_rs (kMvL rfl (kMv rfl (cr h (br x1 x2 ([118,111,105,100]:Bt)) rfl fun x6 _ h=>?_))))))
 refine a5 h rfl (fun _ h=>?_) (fun _ h=>?_)
 ·refine W_rs (kUn (fg bi st64 rfl) ?_)
  refine kMv rfl (cr h (cj x2) rfl fun x8 _ h=>am 0 rfl rfl (Upd.refl _) rfl sizeOf64 (kAs rfl (am 1 rfl rfl (Upd.refl _) rfl sizeOf97 ?_)))
  obtain rfl:=osj h
  exact a7 ⟨rfl,[(af).val p1,P6 0,(ah).val x8],⟨yBox 0 ty64 aa,yT aa,yBox 1 ty97 aa,tv⟩,aa⟩
 refine au (a6 (W_rs (kMvL rfl (kMv rfl (kIn rfl rfl rfl (cr h (ki x1 (w64 (x2+1))) rfl fun x9 _ h=>kNo rfl ?_))))))
 refine a5 h rfl (fun _ h=>?_) (fun _ h=>?_)
 ·refine W_rs (kUn (fg bi st64 rfl) ?_)
  refine kMv rfl (kIn rfl rfl rfl (cr h (cj (w64 (x2+1))) rfl fun x11 _ h=>am 0 rfl rfl (Upd.refl _) rfl sizeOf64 (kAs rfl (am 1 rfl rfl (Upd.refl _) rfl sizeOf97 ?_))))
  obtain rfl:=osj h
  exact a7 ⟨rfl,[(af).val p1,P6 0,(ah).val x11],⟨yBox 0 ty64 aa,yT aa,yBox 1 ty97 aa,tv⟩,aa⟩
 refine au (a6 (W_rs (kMvL rfl (kMv rfl (kIn rfl rfl rfl (cr h (br x1 (w64 (x2+2)) ([61]:Bt)) rfl fun x12 _ h=>kNo rfl ?_))))))
 refine a5 h rfl (fun _ h=>?_) (fun _ h=>?_)
 ·refine W_rs (kUn (fg bi st64 rfl) ?_)
  refine kMv rfl (kIn rfl rfl rfl (cr h (cj (w64 (x2+2))) rfl fun x14 _ h=>am 0 rfl rfl (Upd.refl _) rfl sizeOf64 (kAs rfl (am 1 rfl rfl (Upd.refl _) rfl sizeOf97 ?_))))
  obtain rfl:=osj h
  exact a7 ⟨rfl,[(af).val p1,P6 0,(ah).val x14],⟨yBox 0 ty64 aa,yT aa,yBox 1 ty97 aa,tv⟩,aa⟩
 refine au (W_rs (kMvL rfl (kMv rfl (kIn rfl rfl rfl (kMv rfl (kIn rfl rfl rfl ?_))))))
 obtain⟨⟨x15,x16,x17⟩,k,h⟩:=ag h
 refine kUn (c7 (n0 x1 (w64 (x2+3)) (w64 (x3+1)) _ k)) ?_
 refine kUn (hMv (out:=bj [(af).val x15,P6 x16,(ah).val x17]) rfl) (kUn al ?_)
 refine kUn al ?_
 refine kUn al ?_
 refine bg al64 fun b18=>?_
 refine bg al97 fun b19=>am 2 rfl rfl (Upd.refl _) rfl sizeOf64 (kAs rfl (am 3 rfl rfl (Upd.refl _) rfl sizeOf97 (a6 (W_rs (kUn (aj nn) ?_)))))
 refine kUn (ap 3 ty3 bw) ?_
 refine kIn rfl rfl rfl ?_
 refine a5 h rfl (fun _ h=>?_) (fun _ h=>?_)
 ·refine ba (fun e C=>zy x17=some r/\At [(6,Pr.pt b4 0),(7,P6 0),(8,Pr.pt b5 0)] [D8 b4 af p1,D8 b5 ah x17,D8 b18 af x15,D8 b19 ah x17] e C) ?_ ?_
  ·rintro e C ⟨h,a⟩
   refine W_at a ?_
   unfold zy at h
   obtain rfl:=osj h
   exact a7 ⟨rfl,[(af).val p1,P6 0,(ah).val x17],⟨yBox 0 ty64 aa,yT aa,yBox 1 ty97 aa,tv⟩,aa⟩
  refine fc [(2,0,D8 b4 af p1),(4,1,D8 b5 ah x17)] [D8 b4 af p1,D8 b5 ah x17,D8 b18 af x15,D8 b19 ah x17] hmx kr kr (show([2,4]:List Nat).Nodup by decide) (show([0,1]:List Nat).Nodup by decide) rfl rfl ?_
  refine eq1 (out:=(af).val p1) (fun C2 hC=>(fg bi st64 rfl)) ?_
  refine eql 3 ty97 (Sub.refl _) rfl rfl kr ?_
  refine eqs 0 sizeOf64 (Upd.refl _) rfl rfl rfl kr ?_
  refine eq1 (out:=P6 0) (fun C2 hC=>f7) ?_
  refine eqs 1 sizeOf97 (Upd.refl _) rfl rfl rfl kr ?_
  exact⟨h,atOk⟩
 refine au (a6 (W_rs (kMvL rfl (kMv rfl (cr h (br x1 x16 ([59]:Bt)) rfl fun x21 _ h=>kNo rfl ?_)))))
 refine a5 h rfl (fun _ h=>?_) (fun _ h=>?_)
 ·refine W_rs (kUn (fg bi st64 rfl) ?_)
  refine kMv rfl (cr h (cj x16) rfl fun x23 _ h=>am 0 rfl rfl (Upd.refl _) rfl sizeOf64 (kAs rfl (am 1 rfl rfl (Upd.refl _) rfl sizeOf97 ?_)))
  obtain rfl:=osj h
  exact a7 ⟨rfl,[(af).val p1,P6 0,(ah).val x23],⟨yBox 0 ty64 aa,yT aa,yBox 1 ty97 aa,tv⟩,aa⟩
 refine au (W_rs (kMvL rfl (kMvL rfl (kMv rfl (kMv rfl (kIn rfl rfl rfl (kUn (ap 2 ty64 (Sub.refl _)) ?_)))))))
 refine kUn (cm (R:=af) (a:=x15) el53 nb) ?_
 refine cr h (ej x1 6 x2 (w64 (x16+1)) ([x15]:List B5)) rfl fun x24 _ h=>kMv rfl (cr h (af3 x1 x24 x2) rfl fun x25 _ h=>kMv rfl (kIn rfl rfl rfl (cr h (da) rfl fun x26 _ h=>am 0 rfl rfl (Upd.refl _) rfl sizeOf64 (kAs rfl (am 1 rfl rfl (Upd.refl _) rfl sizeOf97 ?_)))))
 obtain rfl:=osj h
 exact a7 ⟨rfl,[(af).val x25,P6 (w64 (x16+1)),(ah).val x26],⟨yBox 0 ty64 aa,yT aa,yBox 1 ty97 aa,tv⟩,aa⟩
theorem afj (x1:List C5) (x2 x3:Int) (r:B5 × Int × C6) (h:rc x1 x2 x3=some r):Fp 191 [ao bu x1,P6 x2,P6 x3] (bj [(af).val r.1,P6 r.2.1,(ah).val r.2.2]):=by
 refine c9 (rs:=[.cell 6 64,.tmp 7,.cell 8 97]) func191 rfl ntmps191 results191 dcd (fun s0=>?_)
 let p1:=B5.mk 0 [] [] 0 0 0 0 0 []
 unfold rc at h
 refine W_rs (bg al64 fun b4=>kAs rfl (bg al97 fun b5=>a6 (W_rs (kMvL rfl (kMv rfl (cr h (br x1 x2 ([40]:Bt)) rfl fun x6 _ h=>kNo rfl ?_))))))
 refine a5 h rfl (fun _ h=>?_) (fun _ h=>?_)
 ·refine W_rs (kUn (fg bi st64 rfl) ?_)
  refine kMv rfl (cr h (cj x2) rfl fun x8 _ h=>am 0 rfl rfl (Upd.refl _) rfl sizeOf64 (kAs rfl (am 1 rfl rfl (Upd.refl _) rfl sizeOf97 ?_)))
  obtain rfl:=osj h
  exact a7 ⟨rfl,[(af).val p1,P6 0,(ah).val x8],⟨yBox 0 ty64 aa,yT aa,yBox 1 ty97 aa,tv⟩,aa⟩
 refine au (W_rs (kMvL rfl (kMv rfl (kIn rfl rfl rfl (kMv rfl ?_)))))
 obtain⟨⟨x9,x10,x11⟩,k,h⟩:=ag h
 refine kUn (c7 (n0 x1 (w64 (x2+1)) x3 _ k)) ?_
 refine kUn (hMv (out:=bj [(af).val x9,P6 x10,(ah).val x11]) rfl) (kUn al ?_)
 refine kUn al ?_
 refine kUn al ?_
 refine bg al64 fun b12=>?_
 let p2:=D8 b12 af x9
 refine bg al97 fun b13=>am 2 rfl rfl (Upd.refl _) rfl sizeOf64 (kAs rfl (am 3 rfl rfl (Upd.refl _) rfl sizeOf97 (a6 (W_rs (kUn (aj nn) ?_)))))
 let p3:=D8 b13 ah x11
 refine kUn (ap 3 ty3 bw) ?_
 refine kIn rfl rfl rfl ?_
 refine a5 h rfl (fun _ h=>?_) (fun _ h=>?_)
 ·refine ba (fun e C=>tu x11=some r/\At [(6,Pr.pt b4 0),(7,P6 0),(8,Pr.pt b5 0)] [D8 b4 af p1,D8 b5 ah x11,p2,p3] e C) ?_ ?_
  ·rintro e C ⟨h,a⟩
   refine W_at a ?_
   unfold tu at h
   obtain rfl:=osj h
   exact a7 ⟨rfl,[(af).val p1,P6 0,(ah).val x11],⟨yBox 0 ty64 aa,yT aa,yBox 1 ty97 aa,tv⟩,aa⟩
  refine fc [(2,0,D8 b4 af p1),(4,1,D8 b5 ah x11)] [D8 b4 af p1,D8 b5 ah x11,p2,p3] hmx kr kr (show([2,4]:List Nat).Nodup by decide) (show([0,1]:List Nat).Nodup by decide) rfl rfl ?_
  refine eq1 (out:=(af).val p1) (fun C2 hC=>(fg bi st64 rfl)) ?_
  refine eql 3 ty97 (Sub.refl _) rfl rfl kr ?_
  refine eqs 0 sizeOf64 (Upd.refl _) rfl rfl rfl kr ?_
  refine eq1 (out:=P6 0) (fun C2 hC=>f7) ?_
  refine eqs 1 sizeOf97 (Upd.refl _) rfl rfl rfl kr ?_
  exact⟨h,atOk⟩
 refine au (a6 (W_rs (kMvL rfl (kMv rfl (cr h (br x1 x10 ([41]:Bt)) rfl fun x15 _ h=>kNo rfl ?_)))))
 refine a5 h rfl (fun _ h=>?_) (fun _ h=>?_)
 ·refine W_rs (kUn (fg bi st64 rfl) ?_)
  refine kMv rfl (cr h (cj x10) rfl fun x17 _ h=>am 0 rfl rfl (Upd.refl _) rfl sizeOf64 (kAs rfl (am 1 rfl rfl (Upd.refl _) rfl sizeOf97 ?_)))
  obtain rfl:=osj h
  exact a7 ⟨rfl,[(af).val p1,P6 0,(ah).val x17],⟨yBox 0 ty64 aa,yT aa,yBox 1 ty97 aa,tv⟩,aa⟩
 refine au ?_
 refine ba (fun e C=>∃x18,tr x9 x10 x18=some r/\At [(6,Pr.pt b4 0),(7,P6 (w64 (x10+1))),(8,Pr.pt b5 0)] [D8 b4 af x9,D8 b5 ah x18,p2,p3] e C) ?_ ?_
 ·rintro e C ⟨x18,h,a⟩
  refine W_at a ?_
  unfold tr at h
  obtain rfl:=osj h
  exact a7 ⟨rfl,[(af).val x9,P6 (w64 (x10+1)),(ah).val x18],⟨yBox 0 ty64 aa,yT aa,yBox 1 ty97 aa,tv⟩,aa⟩
 obtain⟨x18,k,h⟩:=ag h
 refine fc [(4,0,D8 b4 af x9),(6,1,D8 b5 ah x18)] [D8 b4 af x9,D8 b5 ah x18,p2,p3] hmx kr kr (show([4,6]:List Nat).Nodup by decide) (show([0,1]:List Nat).Nodup by decide) rfl rfl ?_
 refine eql 2 ty64 (Sub.refl _) rfl rfl kr ?_
 refine eq1 (out:=P6 x10) (fun C2 hC=>fr) ?_
 refine eq1 (out:=P6 (w64 (x10+1))) (fun C2 hC=>qInt) ?_
 refine eq1 (out:=(ah).val x18) (fun C2 hC=>(c7 (da _ k))) ?_
 refine eqs 0 sizeOf64 (Upd.refl _) rfl rfl rfl kr ?_
 refine eq1 (out:=P6 (w64 (x10+1))) (fun C2 hC=>f7) ?_
 refine eqs 1 sizeOf97 (Upd.refl _) rfl rfl rfl kr ?_
 exact⟨x18,h,atOk⟩
theorem apd (x1:List C5) (x2 x3:Int) (r:B5 × Int × C6) (h:ab0 x1 x2 x3=some r):Fp 181 [ao bu x1,P6 x2,P6 x3] (bj [(af).val r.1,P6 r.2.1,(ah).val r.2.2]):=by
 refine c9 (rs:=[.cell 6 64,.tmp 7,.cell 8 97]) func181 rfl ntmps181 results181 dcd (fun s0=>?_)
 let p1:=B5.mk 0 [] [] 0 0 0 0 0 []
 unfold ab0 at h
 refine W_rs (bg al64 fun b4=>kAs rfl (bg al97 fun b5=>a6 (W_rs (kMvL rfl (kMv rfl (cr h (br x1 x2 ([112,114,105,110,116]:Bt)) rfl fun x6 _ h=>?_))))))
 let p2:=D8 b4 af p1
 refine a5 h rfl (fun _ h=>?_) (fun _ h=>?_)
 ·refine W_rs (kMvL rfl (kMv rfl (kIn rfl rfl rfl (kMv rfl (kIn rfl rfl rfl ?_)))))
  obtain⟨⟨x8,x9,x10⟩,k,h⟩:=ag h
  refine kUn (c7 (afj x1 (w64 (x2+1)) (w64 (x3+1)) _ k)) ?_
  refine kUn (hMv (out:=bj [(af).val x8,P6 x9,(ah).val x10]) rfl) (kUn al ?_)
  refine kUn al ?_
  refine kUn al ?_
  refine bg al64 fun b11=>?_
  refine bg al97 fun b12=>am 2 rfl rfl (Upd.refl _) rfl sizeOf64 (kAs rfl (am 3 rfl rfl (Upd.refl _) rfl sizeOf97 (a6 (W_rs (kUn (aj nn) ?_)))))
  refine kUn (ap 3 ty3 bw) ?_
  refine kIn rfl rfl rfl ?_
  refine a5 h rfl (fun _ h=>?_) (fun _ h=>?_)
  ·refine ba (fun e C=>zt x10=some r/\At [(6,Pr.pt b4 0),(7,P6 0),(8,Pr.pt b5 0)] [p2,D8 b5 ah x10,D8 b11 af x8,D8 b12 ah x10] e C) ?_ ?_
   ·rintro e C ⟨h,a⟩
    refine W_at a ?_
    unfold zt at h
    obtain rfl:=osj h
    exact a7 ⟨rfl,[(af).val p1,P6 0,(ah).val x10],⟨yBox 0 ty64 aa,yT aa,yBox 1 ty97 aa,tv⟩,aa⟩
   refine fc [(2,0,D8 b4 af p1),(4,1,D8 b5 ah x10)] [p2,D8 b5 ah x10,D8 b11 af x8,D8 b12 ah x10] hmx kr kr (show([2,4]:List Nat).Nodup by decide) (show([0,1]:List Nat).Nodup by decide) rfl rfl ?_
   refine eq1 (out:=(af).val p1) (fun C2 hC=>(fg bi st64 rfl)) ?_
   refine eql 3 ty97 (Sub.refl _) rfl rfl kr ?_
   refine eqs 0 sizeOf64 (Upd.refl _) rfl rfl rfl kr ?_
   refine eq1 (out:=P6 0) (fun C2 hC=>f7) ?_
   refine eqs 1 sizeOf97 (Upd.refl _) rfl rfl rfl kr ?_
   exact⟨h,atOk⟩
  refine au (a6 (W_rs (kMvL rfl (kMv rfl (cr h (br x1 x9 ([59]:Bt)) rfl fun x14 _ h=>kNo rfl ?_)))))
  refine a5 h rfl (fun _ h=>?_) (fun _ h=>?_)
  ·refine W_rs (kUn (fg bi st64 rfl) ?_)
   refine kMv rfl (cr h (cj x9) rfl fun x16 _ h=>am 0 rfl rfl (Upd.refl _) rfl sizeOf64 (kAs rfl (am 1 rfl rfl (Upd.refl _) rfl sizeOf97 ?_)))
   obtain rfl:=osj h
   exact a7 ⟨rfl,[(af).val p1,P6 0,(ah).val x16],⟨yBox 0 ty64 aa,yT aa,yBox 1 ty97 aa,tv⟩,aa⟩
  refine au (W_rs (kMvL rfl (kMv rfl (kMv rfl (kIn rfl rfl rfl (kUn (ap 2 ty64 (Sub.refl _)) ?_))))))
  refine kUn (cm (R:=af) (a:=x8) el53 nb) ?_
  refine cr h (ej x1 12 x2 (w64 (x9+1)) ([x8]:List B5)) rfl fun x17 _ h=>kMv rfl (kIn rfl rfl rfl (cr h (da) rfl fun x18 _ h=>am 0 rfl rfl (Upd.refl _) rfl sizeOf64 (kAs rfl (am 1 rfl rfl (Upd.refl _) rfl sizeOf97 ?_))))
  obtain rfl:=osj h
  exact a7 ⟨rfl,[(af).val x17,P6 (w64 (x9+1)),(ah).val x18],⟨yBox 0 ty64 aa,yT aa,yBox 1 ty97 aa,tv⟩,aa⟩
 refine au (a6 (W_rs (kMvL rfl (kMv rfl (kIn rfl rfl rfl (cr h (br x1 (w64 (x2+1)) ([59]:Bt)) rfl fun x19 _ h=>?_))))))
 refine a5 h rfl (fun _ h=>?_) (fun _ h=>?_)
 ·refine W_rs (kMvL rfl (kMv rfl (kMv rfl (kIn rfl rfl rfl ?_))))
  obtain⟨x21,k,h⟩:=ag h
  refine kUn (adt (ej x1 11 x2 (w64 (x2+2)) [] _ k) ⟨aa,aa,aa,aa,dr _,tv⟩) ?_
  refine kMv rfl (kIn rfl rfl rfl (cr h (da) rfl fun x22 _ h=>am 0 rfl rfl (Upd.refl _) rfl sizeOf64 (kAs rfl (am 1 rfl rfl (Upd.refl _) rfl sizeOf97 ?_))))
  obtain rfl:=osj h
  exact a7 ⟨rfl,[(af).val x21,P6 (w64 (x2+2)),(ah).val x22],⟨yBox 0 ty64 aa,yT aa,yBox 1 ty97 aa,tv⟩,aa⟩
 refine au (W_rs (kMvL rfl (kMv rfl (kIn rfl rfl rfl (kMv rfl (kIn rfl rfl rfl ?_))))))
 obtain⟨⟨x23,x24,x25⟩,k,h⟩:=ag h
 refine kUn (c7 (n0 x1 (w64 (x2+1)) (w64 (x3+1)) _ k)) ?_
 refine kUn (hMv (out:=bj [(af).val x23,P6 x24,(ah).val x25]) rfl) (kUn al ?_)
 refine kUn al ?_
 refine kUn al ?_
 refine bg al64 fun b26=>?_
 refine bg al97 fun b27=>am 2 rfl rfl (Upd.refl _) rfl sizeOf64 (kAs rfl (am 3 rfl rfl (Upd.refl _) rfl sizeOf97 (a6 (W_rs (kUn (aj nn) ?_)))))
 refine kUn (ap 3 ty3 bw) ?_
 refine kIn rfl rfl rfl ?_
 refine a5 h rfl (fun _ h=>?_) (fun _ h=>?_)
 ·refine ba (fun e C=>zs x25=some r/\At [(6,Pr.pt b4 0),(7,P6 0),(8,Pr.pt b5 0)] [p2,D8 b5 ah x25,D8 b26 af x23,D8 b27 ah x25] e C) ?_ ?_
  ·rintro e C ⟨h,a⟩
   refine W_at a ?_
   unfold zs at h
   obtain rfl:=osj h
   exact a7 ⟨rfl,[(af).val p1,P6 0,(ah).val x25],⟨yBox 0 ty64 aa,yT aa,yBox 1 ty97 aa,tv⟩,aa⟩
  refine fc [(2,0,D8 b4 af p1),(4,1,D8 b5 ah x25)] [p2,D8 b5 ah x25,D8 b26 af x23,D8 b27 ah x25] hmx kr kr (show([2,4]:List Nat).Nodup by decide) (show([0,1]:List Nat).Nodup by decide) rfl rfl ?_
  refine eq1 (out:=(af).val p1) (fun C2 hC=>(fg bi st64 rfl)) ?_
  refine eql 3 ty97 (Sub.refl _) rfl rfl kr ?_
  refine eqs 0 sizeOf64 (Upd.refl _) rfl rfl rfl kr ?_
  refine eq1 (out:=P6 0) (fun C2 hC=>f7) ?_
  refine eqs 1 sizeOf97 (Upd.refl _) rfl rfl rfl kr ?_
  exact⟨h,atOk⟩
 refine au (a6 (W_rs (kMvL rfl (kMv rfl (cr h (br x1 x24 ([59]:Bt)) rfl fun x29 _ h=>kNo rfl ?_)))))
 refine a5 h rfl (fun _ h=>?_) (fun _ h=>?_)
 ·refine W_rs (kUn (fg bi st64 rfl) ?_)
  refine kMv rfl (cr h (cj x24) rfl fun x31 _ h=>am 0 rfl rfl (Upd.refl _) rfl sizeOf64 (kAs rfl (am 1 rfl rfl (Upd.refl _) rfl sizeOf97 ?_)))
  obtain rfl:=osj h
  exact a7 ⟨rfl,[(af).val p1,P6 0,(ah).val x31],⟨yBox 0 ty64 aa,yT aa,yBox 1 ty97 aa,tv⟩,aa⟩
 refine au (W_rs (kMvL rfl (kMv rfl (kMv rfl (kIn rfl rfl rfl (kUn (ap 2 ty64 (Sub.refl _)) ?_))))))
 refine kUn (cm (R:=af) (a:=x23) el53 nb) ?_
 refine cr h (ej x1 11 x2 (w64 (x24+1)) ([x23]:List B5)) rfl fun x32 _ h=>kMv rfl (kIn rfl rfl rfl (cr h (da) rfl fun x33 _ h=>am 0 rfl rfl (Upd.refl _) rfl sizeOf64 (kAs rfl (am 1 rfl rfl (Upd.refl _) rfl sizeOf97 ?_))))
 obtain rfl:=osj h
 exact a7 ⟨rfl,[(af).val x32,P6 (w64 (x24+1)),(ah).val x33],⟨yBox 0 ty64 aa,yT aa,yBox 1 ty97 aa,tv⟩,aa⟩
end Go.Proofs.YtcndghapmoaidaaGreatDoor
set_option linter.unusedSectionVars false
set_option maxRecDepth 100000
set_option maxHeartbeats 4000000
namespace Go.Proofs.YtcndghapmoaidaaGreatDoor
open Go Go.Cn Tryz
attribute [local irreducible] mq ao
def qv (R:bx):Prop:=(∀(x1:List C5) (x2:Int) (x3:Int) (r:B5 × Int × C6),R.1 x1 x2 x3=some r->Fp 140 [ao bu x1,P6 x2,P6 x3] (bj [(af).val r.1,P6 r.2.1,(ah).val r.2.2]))/\(∀(x1:List C5) (x2:Int) (x3:Int) (r:B5 × Int × C6),R.2.1 x1 x2 x3=some r->Fp 169 [ao bu x1,P6 x2,P6 x3] (bj [(af).val r.1,P6 r.2.1,(ah).val r.2.2]))/\(∀(x1:List C5) (x2:Int) (x3:Int) (r:B5 × Int × C6),R.2.2 x1 x2 x3=some r->Fp 180 [ao bu x1,P6 x2,P6 x3] (bj [(af).val r.1,P6 r.2.1,(ah).val r.2.2]))
theorem alr (R:bx) (ih:qv R) (x1:List C5) (x2 x3:Int) (r:B5 × Int × C6) (h:zk R x1 x2 x3=some r):Fp 140 [ao bu x1,P6 x2,P6 x3] (bj [(af).val r.1,P6 r.2.1,(ah).val r.2.2]):=by
 refine c9 (rs:=[.cell 6 64,.tmp 7,.cell 8 97]) func140 rfl ntmps140 results140 dcd (fun s0=>?_)
 let p1:=B5.mk 0 [] [] 0 0 0 0 0 []
 unfold zk at h
 refine W_rs (bg al64 fun b4=>kAs rfl (bg al97 fun b5=>a6 (W_rs (kMvL rfl (kMv rfl (cr h (br x1 x2 ([123]:Bt)) rfl fun x6 _ h=>kNo rfl ?_))))))
 let p2:=D8 b4 af p1
 let p3:=D8 b5 ah (C6.mk 0 0)
 refine a5 h rfl (fun _ h=>?_) (fun _ h=>?_)
 ·refine W_rs (kUn (fg bi st64 rfl) ?_)
  refine kMv rfl (cr h (cj x2) rfl fun x8 _ h=>am 0 rfl rfl (Upd.refl _) rfl sizeOf64 (kAs rfl (am 1 rfl rfl (Upd.refl _) rfl sizeOf97 ?_)))
  obtain rfl:=osj h
  exact a7 ⟨rfl,[(af).val p1,P6 0,(ah).val x8],⟨yBox 0 ty64 aa,yT aa,yBox 1 ty97 aa,tv⟩,aa⟩
 refine au (W_rs (kAs rfl (W_rs (kMv rfl (kIn rfl rfl rfl (kAs rfl (a6 (az ?_))))))))
 obtain⟨z2l,hz2,h⟩:=ag h
 obtain⟨n2,hN2⟩:=bm hz2
 refine cp 0 (fun e C=>∃x10,∃x11,∃v9,abg R x1 x2 x10 x11=some r/\At [(0,ao bu x1),(1,P6 x2),(6,Pr.pt b4 0),(8,Pr.pt b5 0),(9,Pi v9),(10,P6 x10)] [p2,p3,E1 v9 af x11 64] e C) ?_ ?_
 ·rintro e C ⟨x10,x11,v9,h,a⟩
  refine W_at a ?_
  unfold abg at h
  refine W_rs (kMvL rfl (kMv rfl (kMv rfl (kIn rfl rfl rfl (kMv rfl ?_)))))
  obtain⟨x34,k,h⟩:=ag h
  refine rRel 2 [9,67] ?_ rfl ⟨rfl,rfl,tv⟩
  refine kUn (c7 (ej x1 5 x2 (w64 (x10+1)) x11 _ k)) ?_
  refine kMv rfl (kIn rfl rfl rfl (cr h (da) rfl fun x35 _ h=>am 0 rfl rfl (Upd.refl _) rfl sizeOf64 (kAs rfl (am 1 rfl rfl (Upd.refl _) rfl sizeOf97 ?_))))
  obtain rfl:=osj h
  exact a7 ⟨rfl,[(af).val x34,P6 (w64 (x10+1)),(ah).val x35],⟨yBox 0 ty64 aa,yT aa,yBox 1 ty97 aa,tv⟩,aa⟩
 refine agk [9] af 64 (fun v36=>?_) ⟨rfl,tv⟩
 refine dq (fun m e C=>∃x10,∃x11,∃v9,ez (fun s=>wu R x1 x3 s.1 s.2) m (x10,x11)=some z2l/\At [(0,ao bu x1),(1,P6 x2),(2,P6 x3),(6,Pr.pt b4 0),(8,Pr.pt b5 0),(9,Pi v9),(10,P6 x10)] [p2,p3,E1 v9 af x11 64] e C) n2 ⟨w64 (x2+1),[],v36,hN2,⟨⟨aa,aa,aa,aa,aa,aa,aa,tv⟩,A8.refl _⟩⟩ ?_
 rintro m e C ⟨x10,x11,v9,hN2,a⟩
 refine W_at a ?_
 obtain⟨m2,w2l,rfl,h2l,hn2,ho2⟩:=bc hN2
 replace h2l:wu R x1 x3 x10 x11=some w2l:=h2l
 unfold wu at h2l
 refine a6 (W_rs (kMvL rfl (kMv rfl (cr h2l (br x1 x10 ([125]:Bt)) rfl fun x15 _ h2l=>kNo rfl ?_))))
 refine a5 h2l rfl (fun _ h2l=>?_) (fun _ h2l=>?_)
 ·refine au (az (W_rs (bg al64 fun b17=>W_rs (bg al97 fun b18=>W_rs (kAs rfl ?_)))))
  refine ba (fun e C=>∃x28,∃x29,∃x30,ta R x11 x28 x29 x30=some w2l/\At [(0,ao bu x1),(1,P6 x2),(2,P6 x3),(6,Pr.pt b4 0),(8,Pr.pt b5 0),(9,Pi v9),(11,Pr.pt b17 0),(12,Pr.pt b18 0),(13,P6 x28)] [p2,p3,E1 v9 af x11 64,D8 b17 af x29,D8 b18 ah x30] e C) ?_ ?_
  ·rintro e C ⟨x28,x29,x30,h2l,a⟩
   refine W_at a ?_
   unfold ta at h2l
   refine a6 (W_rs (kUn (aj nn) ?_))
   refine kUn (ap 4 ty3 bw) ?_
   refine kIn rfl rfl rfl ?_
   refine a5 h2l rfl (fun _ h2l=>?_) (fun _ h2l=>?_)
   ·refine ba (fun e C=>abh R x30=some w2l/\At [(6,Pr.pt b4 0),(7,P6 0),(8,Pr.pt b5 0)] [p2,D8 b5 ah x30,D8 b17 af x29,D8 b18 ah x30] e C) ?_ ?_
    ·rintro e C ⟨h2l,a⟩
     refine W_at a ?_
     unfold abh at h2l
     obtain rfl:=ho2 _ (ojs h2l)
     replace h:some (p1,0,x30)=some r:=h
     obtain rfl:=osj h
     exact a7 ⟨rfl,[(af).val p1,P6 0,(ah).val x30],⟨yBox 0 ty64 aa,yT aa,yBox 1 ty97 aa,tv⟩,aa⟩
    refine fc [(2,0,D8 b4 af p1),(4,1,D8 b5 ah x30)] [p2,D8 b5 ah x30,E1 v9 af x11 64,D8 b17 af x29,D8 b18 ah x30] hmx kr kr (show([2,4]:List Nat).Nodup by decide) (show([0,1]:List Nat).Nodup by decide) rfl rfl ?_
    refine eq1 (out:=(af).val p1) (fun C2 hC=>(fg bi st64 rfl)) ?_
    refine eql 4 ty97 (Sub.refl _) rfl rfl kr ?_
    refine eqs 0 sizeOf64 (Upd.refl _) rfl rfl rfl kr ?_
    refine eq1 (out:=P6 0) (fun C2 hC=>f7) ?_
    refine eqs 1 sizeOf97 (Upd.refl _) rfl rfl rfl kr ?_
    exact⟨h2l,⟨⟨aa,aa,aa,tv⟩,A8.of [0,1,3,4] rfl⟩⟩
   refine au (W_rs (kMv rfl (kUn (ap 3 ty64 (Sub.refl _)) ?_)))
   refine kUn (cm (R:=af) (a:=x29) el53 nb) ?_
   obtain⟨x32,k,h2l⟩:=ag h2l
   refine fp 2 el53 k (fun v33=>?_)
   refine kAs rfl (W_r (kMv rfl (kAs rfl ?_)))
   exact⟨m2,lsu,x28,x32,v33,hn2 _ (ojs h2l),⟨⟨aa,aa,aa,aa,aa,aa,aa,tv⟩,A8.of [0,1,2] rfl⟩⟩
  refine W_rs (kMvL rfl (kMv rfl (cr h2l (ap4 x1 x10) rfl fun x19 _ h2l=>?_)))
  refine a5 h2l rfl (fun _ h2l=>?_) (fun _ h2l=>?_)
  ·refine W_rs (kMvL rfl (kMv rfl (kMv rfl (kIn rfl rfl rfl ?_))))
   obtain⟨⟨x21,x22,x23⟩,k,h2l⟩:=ag h2l
   refine kUn (c7 (apg x1 x10 (w64 (x3+1)) _ k)) ?_
   refine kUn (hMv (out:=bj [(af).val x21,P6 x22,(ah).val x23]) rfl) (kUn al ?_)
   refine kUn al ?_
   refine kUn al ?_
   refine am 3 rfl rfl (Upd.refl _) rfl sizeOf64 (kAs rfl (am 4 rfl rfl (Upd.refl _) rfl sizeOf97 (W_rs (kMv rfl (kIn rfl rfl rfl (kIn rfl rfl rfl ?_))))))
   refine a5 h2l rfl (fun _ h2l=>?_) (fun _ h2l=>?_)
   ·refine W_r (kMv rfl (kUn (fk st97 ⟨(C6.mk x10 0),⟨_,rfl,rfl,qbj⟩,⟨(C6.mk x10 2),⟨_,rfl,rfl,qbj⟩,rfl⟩⟩) ?_))
    refine am 4 rfl rfl (Upd.refl _) rfl sizeOf97 ?_
    exact⟨x22,x21,(C6.mk x10 2),h2l,atOk⟩
   refine au ?_
   exact⟨x22,x21,x23,h2l,atOk⟩
  refine W_r (kMvL rfl (kMv rfl (kMv rfl (kIn rfl rfl rfl ?_))))
  obtain⟨⟨x25,x26,x27⟩,k,h2l⟩:=ag h2l
  refine kUn (c7 (ih.2.1 x1 x10 (w64 (x3+1)) _ k)) ?_
  refine kUn (hMv (out:=bj [(af).val x25,P6 x26,(ah).val x27]) rfl) (kUn al ?_)
  refine kUn al ?_
  refine kUn al ?_
  refine am 3 rfl rfl (Upd.refl _) rfl sizeOf64 (kAs rfl (am 4 rfl rfl (Upd.refl _) rfl sizeOf97 ?_))
  exact⟨x26,x25,x27,h2l,atOk⟩
 refine dp ?_
 obtain rfl:=ho2 _ (ojs h2l)
 exact⟨x10,x11,v9,h,atOk⟩
theorem ahz (R:bx) (ih:qv R) (x1:List C5) (x2 x3:Int) (r:B5 × Int × C6) (h:ri R x1 x2 x3=some r):Fp 169 [ao bu x1,P6 x2,P6 x3] (bj [(af).val r.1,P6 r.2.1,(ah).val r.2.2]):=by
 refine c9 (rs:=[.cell 6 64,.tmp 7,.cell 8 97]) func169 rfl ntmps169 results169 dcd (fun s0=>?_)
 let p1:=B5.mk 0 [] [] 0 0 0 0 0 []
 unfold ri at h
 refine W_rs (bg al64 fun b4=>kAs rfl (bg al97 fun b5=>a6 (W_rs (kMv rfl (kIn rfl rfl rfl ?_)))))
 let p2:=D8 b4 af p1
 let p3:=D8 b5 ah (C6.mk 0 0)
 refine a5 h rfl (fun _ h=>?_) (fun _ h=>?_)
 ·refine W_rs (kUn (fg bi st64 rfl) ?_)
  refine kMv rfl (kUn (fk st97 ⟨(C6.mk x2 0),⟨_,rfl,rfl,qbj⟩,⟨(C6.mk x2 2),⟨_,rfl,rfl,qbj⟩,rfl⟩⟩) ?_)
  refine am 0 rfl rfl (Upd.refl _) rfl sizeOf64 (kAs rfl (am 1 rfl rfl (Upd.refl _) rfl sizeOf97 ?_))
  obtain rfl:=osj h
  exact a7 ⟨rfl,[(af).val p1,P6 0,(ah).val (C6.mk x2 2)],⟨yBox 0 ty64 aa,yT aa,yBox 1 ty97 aa,tv⟩,aa⟩
 refine au (a6 (az (W_rs (kMvL rfl (kMv rfl (cr h (br x1 x2 ([123]:Bt)) rfl fun x7 _ h=>kAs rfl ?_))))))
 refine a5 h rfl (fun _ h=>?_) (fun _ h=>?_)
 ·refine W_rs (kMvL rfl (kMv rfl (kMv rfl ?_)))
  obtain⟨⟨x9,x10,x11⟩,k,h⟩:=ag h
  refine kUn (c7 (ih.1 x1 x2 x3 _ k)) ?_
  refine kUn al ?_
  refine kUn al ?_
  refine kUn al ?_
  refine am 0 rfl rfl (Upd.refl _) rfl sizeOf64 (kAs rfl (am 1 rfl rfl (Upd.refl _) rfl sizeOf97 ?_))
  obtain rfl:=osj h
  exact a7 ⟨rfl,[(af).val x9,P6 x10,(ah).val x11],⟨yBox 0 ty64 aa,yT aa,yBox 1 ty97 aa,tv⟩,aa⟩
 refine ba (fun e C=>∃x15,ma R x1 x2 x3 x15=some r/\At [(0,ao bu x1),(1,P6 x2),(2,P6 x3),(6,Pr.pt b4 0),(8,Pr.pt b5 0),(33,Pb x15)] [p2,p3] e C) ?_ ?_
 ·rintro e C ⟨x15,h,a⟩
  refine W_at a ?_
  unfold ma at h
  refine a5 h rfl (fun _ h=>?_) (fun _ h=>?_)
  ·refine W_rs (kMvL rfl (kMv rfl (kMv rfl ?_)))
   obtain⟨⟨x17,x18,x19⟩,k,h⟩:=ag h
   refine kUn (c7 (ih.2.2 x1 x2 x3 _ k)) ?_
   refine kUn al ?_
   refine kUn al ?_
   refine kUn al ?_
   refine am 0 rfl rfl (Upd.refl _) rfl sizeOf64 (kAs rfl (am 1 rfl rfl (Upd.refl _) rfl sizeOf97 ?_))
   obtain rfl:=osj h
   exact a7 ⟨rfl,[(af).val x17,P6 x18,(ah).val x19],⟨yBox 0 ty64 aa,yT aa,yBox 1 ty97 aa,tv⟩,aa⟩
  refine ba (fun e C=>∃x23,mb R x1 x2 x3 x23=some r/\At [(0,ao bu x1),(1,P6 x2),(2,P6 x3),(6,Pr.pt b4 0),(8,Pr.pt b5 0),(47,Pb x23)] [p2,p3] e C) ?_ ?_
  ·rintro e C ⟨x23,h,a⟩
   refine W_at a ?_
   unfold mb at h
   refine a5 h rfl (fun _ h=>?_) (fun _ h=>?_)
   ·refine W_rs (kMvL rfl (kMv rfl (kMv rfl ?_)))
    obtain⟨⟨x25,x26,x27⟩,k,h⟩:=ag h
    refine kUn (c7 (apd x1 x2 x3 _ k)) ?_
    refine kUn al ?_
    refine kUn al ?_
    refine kUn al ?_
    refine am 0 rfl rfl (Upd.refl _) rfl sizeOf64 (kAs rfl (am 1 rfl rfl (Upd.refl _) rfl sizeOf97 ?_))
    obtain rfl:=osj h
    exact a7 ⟨rfl,[(af).val x25,P6 x26,(ah).val x27],⟨yBox 0 ty64 aa,yT aa,yBox 1 ty97 aa,tv⟩,aa⟩
   refine au (W_rs (kMvL rfl (kMv rfl (kMv rfl (kIn rfl rfl rfl ?_)))))
   obtain⟨⟨x28,x29,x30⟩,k,h⟩:=ag h
   refine kUn (c7 (n0 x1 x2 (w64 (x3+1)) _ k)) ?_
   refine kUn (hMv (out:=bj [(af).val x28,P6 x29,(ah).val x30]) rfl) (kUn al ?_)
   refine kUn al ?_
   refine kUn al ?_
   refine bg al64 fun b31=>?_
   let p4:=D8 b31 af x28
   refine bg al97 fun b32=>am 2 rfl rfl (Upd.refl _) rfl sizeOf64 (kAs rfl (am 3 rfl rfl (Upd.refl _) rfl sizeOf97 (a6 (W_rs (kUn (aj nn) ?_)))))
   let p5:=D8 b32 ah x30
   refine kUn (ap 3 ty3 bw) ?_
   refine kIn rfl rfl rfl ?_
   refine a5 h rfl (fun _ h=>?_) (fun _ h=>?_)
   ·refine ba (fun e C=>tq R x30=some r/\At [(6,Pr.pt b4 0),(7,P6 0),(8,Pr.pt b5 0)] [p2,D8 b5 ah x30,p4,p5] e C) ?_ ?_
    ·rintro e C ⟨h,a⟩
     refine W_at a ?_
     unfold tq at h
     obtain rfl:=osj h
     exact a7 ⟨rfl,[(af).val p1,P6 0,(ah).val x30],⟨yBox 0 ty64 aa,yT aa,yBox 1 ty97 aa,tv⟩,aa⟩
    refine fc [(2,0,D8 b4 af p1),(4,1,D8 b5 ah x30)] [p2,D8 b5 ah x30,p4,p5] hmx kr kr (show([2,4]:List Nat).Nodup by decide) (show([0,1]:List Nat).Nodup by decide) rfl rfl ?_
    refine eq1 (out:=(af).val p1) (fun C2 hC=>(fg bi st64 rfl)) ?_
    refine eql 3 ty97 (Sub.refl _) rfl rfl kr ?_
    refine eqs 0 sizeOf64 (Upd.refl _) rfl rfl rfl kr ?_
    refine eq1 (out:=P6 0) (fun C2 hC=>f7) ?_
    refine eqs 1 sizeOf97 (Upd.refl _) rfl rfl rfl kr ?_
    exact⟨h,atOk⟩
   refine au (W_rs (kAs rfl (W_rs (kUn (ap 2 ty64 (Sub.refl _)) ?_))))
   refine arl (R:=af) (ls:=([x28]:List B5)) el53 nb ⟨rfl,rfl⟩ ⟨rfl,tv⟩ (fun v34=>?_)
   refine kAs rfl ?_
   refine ba (fun e C=>∃x45,∃x46,∃x48,∃v47,o6 R x1 x2 x45 x46 x48=some r/\At [(0,ao bu x1),(1,P6 x2),(6,Pr.pt b4 0),(8,Pr.pt b5 0),(10,P6 x45),(12,P6 x46),(13,Pi v47)] [p2,p3,p4,p5,E1 v47 af x48 64] e C) ?_ ?_
   ·rintro e C ⟨x45,x46,x48,v47,h,a⟩
    refine W_at a ?_
    unfold o6 at h
    refine a6 (W_rs (kMvL rfl (kMv rfl (cr h (br x1 x45 ([59]:Bt)) rfl fun x49 _ h=>kNo rfl ?_))))
    refine a5 h rfl (fun _ h=>?_) (fun _ h=>?_)
    ·refine W_rs (kUn (fg bi st64 rfl) ?_)
     refine kMv rfl (cr h (cj x45) rfl fun x51 _ h=>am 0 rfl rfl (Upd.refl _) rfl sizeOf64 (kAs rfl (am 1 rfl rfl (Upd.refl _) rfl sizeOf97 ?_)))
     obtain rfl:=osj h
     exact a7 ⟨rfl,[(af).val p1,P6 0,(ah).val x51],⟨yBox 0 ty64 aa,yT aa,yBox 1 ty97 aa,tv⟩,aa⟩
    refine au (W_rs (kMvL rfl (kMv rfl (kMv rfl (kMv rfl (kIn rfl rfl rfl (kMv rfl ?_)))))))
    obtain⟨x52,k,h⟩:=ag h
    refine rRel 4 [13,112] ?_ rfl ⟨rfl,rfl,tv⟩
    refine kUn (c7 (ej x1 x46 x2 (w64 (x45+1)) x48 _ k)) ?_
    refine kMv rfl (kIn rfl rfl rfl (cr h (da) rfl fun x53 _ h=>am 0 rfl rfl (Upd.refl _) rfl sizeOf64 (kAs rfl (am 1 rfl rfl (Upd.refl _) rfl sizeOf97 ?_))))
    obtain rfl:=osj h
    exact a7 ⟨rfl,[(af).val x52,P6 (w64 (x45+1)),(ah).val x53],⟨yBox 0 ty64 aa,yT aa,yBox 1 ty97 aa,tv⟩,aa⟩
   refine W_rs (kMvL rfl (kMv rfl (cr h (br x1 x29 ([61]:Bt)) rfl fun x35 _ h=>?_)))
   refine a5 h rfl (fun _ h=>?_) (fun _ h=>?_)
   ·refine W_rs (kMvL rfl (kMv rfl (kIn rfl rfl rfl (kMv rfl (kIn rfl rfl rfl ?_)))))
    obtain⟨⟨x37,x38,x39⟩,k,h⟩:=ag h
    refine kUn (c7 (n0 x1 (w64 (x29+1)) (w64 (x3+1)) _ k)) ?_
    refine kUn (hMv (out:=bj [(af).val x37,P6 x38,(ah).val x39]) rfl) (kUn al ?_)
    refine kUn al ?_
    refine kUn al ?_
    refine bg al64 fun b40=>?_
    refine bg al97 fun b41=>am 5 rfl rfl (Upd.refl _) rfl sizeOf64 (kAs rfl (am 6 rfl rfl (Upd.refl _) rfl sizeOf97 (a6 (W_rs (kUn (aj nn) ?_)))))
    refine kUn (ap 6 ty3 bw) ?_
    refine kIn rfl rfl rfl ?_
    refine a5 h rfl (fun _ h=>?_) (fun _ h=>?_)
    ·refine ba (fun e C=>tp R x39=some r/\At [(6,Pr.pt b4 0),(7,P6 0),(8,Pr.pt b5 0)] [p2,D8 b5 ah x39,p4,p5,D8 b40 af x37,D8 b41 ah x39] e C) ?_ ?_
     ·rintro e C ⟨h,a⟩
      refine W_at a ?_
      unfold tp at h
      obtain rfl:=osj h
      exact a7 ⟨rfl,[(af).val p1,P6 0,(ah).val x39],⟨yBox 0 ty64 aa,yT aa,yBox 1 ty97 aa,tv⟩,aa⟩
     refine fc [(2,0,D8 b4 af p1),(4,1,D8 b5 ah x39)] [p2,D8 b5 ah x39,p4,p5,E1 v34 af ([x28]:List B5) 64,D8 b40 af x37,D8 b41 ah x39] hmx kr kr (show([2,4]:List Nat).Nodup by decide) (show([0,1]:List Nat).Nodup by decide) rfl rfl ?_
     refine eq1 (out:=(af).val p1) (fun C2 hC=>(fg bi st64 rfl)) ?_
     refine eql 6 ty97 (Sub.refl _) rfl rfl kr ?_
     refine eqs 0 sizeOf64 (Upd.refl _) rfl rfl rfl kr ?_
     refine eq1 (out:=P6 0) (fun C2 hC=>f7) ?_
     refine eqs 1 sizeOf97 (Upd.refl _) rfl rfl rfl kr ?_
     exact⟨h,⟨⟨aa,aa,aa,tv⟩,A8.of [0,1,2,3,5,6] rfl⟩⟩
    refine au (W_rs (kAs rfl (W_rs (kMv rfl (kUn (ap 5 ty64 (Sub.refl _)) ?_)))))
    refine kUn (cm (R:=af) (a:=x37) el53 nb) ?_
    obtain⟨x43,k,h⟩:=ag h
    refine fp 4 el53 k (fun v44=>?_)
    refine kAs rfl (W_r (kMv rfl (kAs rfl ?_)))
    exact⟨x38,7,x43,v44,h,⟨⟨aa,aa,aa,aa,aa,aa,aa,tv⟩,A8.of [0,1,2,3,4] rfl⟩⟩
   refine au ?_
   exact⟨x29,8,([x28]:List B5),v34,h,atOk⟩
  refine W_rs (kMvL rfl (kMv rfl (cr h (br x1 x2 ([114,101,116,117,114,110]:Bt)) rfl fun x20 _ h=>kAs rfl ?_)))
  refine a5 h rfl (fun _ h=>?_) (fun _ h=>?_)
  ·refine au ?_
   exact⟨x20,h,atOk⟩
  refine W_r (kMvL rfl (kMv rfl (cr h (br x1 x2 ([112,114,105,110,116]:Bt)) rfl fun x22 _ h=>kAs rfl ?_)))
  exact⟨x22,h,atOk⟩
 refine W_rs (kMvL rfl (kMv rfl (cr h (br x1 x2 ([105,102]:Bt)) rfl fun x12 _ h=>kAs rfl ?_)))
 refine a5 h rfl (fun _ h=>?_) (fun _ h=>?_)
 ·refine au ?_
  exact⟨x12,h,atOk⟩
 refine W_r (kMvL rfl (kMv rfl (cr h (br x1 x2 ([119,104,105,108,101]:Bt)) rfl fun x14 _ h=>kAs rfl ?_)))
 exact⟨x14,h,atOk⟩
theorem ajt (R:bx) (ih:qv R) (x1:List C5) (x2 x3:Int) (r:B5 × Int × C6) (h:u9 R x1 x2 x3=some r):Fp 180 [ao bu x1,P6 x2,P6 x3] (bj [(af).val r.1,P6 r.2.1,(ah).val r.2.2]):=by
 refine c9 (rs:=[.cell 6 64,.tmp 7,.cell 8 97]) func180 rfl ntmps180 results180 dcd (fun s0=>?_)
 let p1:=B5.mk 0 [] [] 0 0 0 0 0 []
 unfold u9 at h
 refine W_rs (bg al64 fun b4=>kAs rfl (bg al97 fun b5=>W_rs (kMvL rfl (kMv rfl (kIn rfl rfl rfl (kMv rfl (kIn rfl rfl rfl ?_)))))))
 let p2:=D8 b4 af p1
 obtain⟨⟨x6,x7,x8⟩,k,h⟩:=ag h
 refine kUn (c7 (afj x1 (w64 (x2+1)) (w64 (x3+1)) _ k)) ?_
 refine kUn (hMv (out:=bj [(af).val x6,P6 x7,(ah).val x8]) rfl) (kUn al ?_)
 refine kUn al ?_
 refine kUn al ?_
 refine bg al64 fun b9=>?_
 let p3:=D8 b9 af x6
 refine bg al97 fun b10=>am 2 rfl rfl (Upd.refl _) rfl sizeOf64 (kAs rfl (am 3 rfl rfl (Upd.refl _) rfl sizeOf97 (a6 (W_rs (kUn (aj nn) ?_)))))
 let p4:=D8 b10 ah x8
 refine kUn (ap 3 ty3 bw) ?_
 refine kIn rfl rfl rfl ?_
 refine a5 h rfl (fun _ h=>?_) (fun _ h=>?_)
 ·refine ba (fun e C=>xo R x8=some r/\At [(6,Pr.pt b4 0),(7,P6 0),(8,Pr.pt b5 0)] [p2,D8 b5 ah x8,p3,p4] e C) ?_ ?_
  ·rintro e C ⟨h,a⟩
   refine W_at a ?_
   unfold xo at h
   obtain rfl:=osj h
   exact a7 ⟨rfl,[(af).val p1,P6 0,(ah).val x8],⟨yBox 0 ty64 aa,yT aa,yBox 1 ty97 aa,tv⟩,aa⟩
  refine fc [(2,0,D8 b4 af p1),(4,1,D8 b5 ah x8)] [p2,D8 b5 ah x8,p3,p4] hmx kr kr (show([2,4]:List Nat).Nodup by decide) (show([0,1]:List Nat).Nodup by decide) rfl rfl ?_
  refine eq1 (out:=(af).val p1) (fun C2 hC=>(fg bi st64 rfl)) ?_
  refine eql 3 ty97 (Sub.refl _) rfl rfl kr ?_
  refine eqs 0 sizeOf64 (Upd.refl _) rfl rfl rfl kr ?_
  refine eq1 (out:=P6 0) (fun C2 hC=>f7) ?_
  refine eqs 1 sizeOf97 (Upd.refl _) rfl rfl rfl kr ?_
  exact⟨h,atOk⟩
 refine au (W_rs (kMvL rfl (kMv rfl (kMv rfl (kIn rfl rfl rfl ?_)))))
 obtain⟨⟨x12,x13,x14⟩,k,h⟩:=ag h
 refine kUn (c7 (ih.2.1 x1 x7 (w64 (x3+1)) _ k)) ?_
 refine kUn (hMv (out:=bj [(af).val x12,P6 x13,(ah).val x14]) rfl) (kUn al ?_)
 refine kUn al ?_
 refine kUn al ?_
 refine bg al64 fun b15=>?_
 let p5:=D8 b15 af x12
 refine bg al97 fun b16=>am 4 rfl rfl (Upd.refl _) rfl sizeOf64 (kAs rfl (am 5 rfl rfl (Upd.refl _) rfl sizeOf97 (a6 (W_rs (kUn (aj nn) ?_)))))
 let p6:=D8 b16 ah x14
 refine kUn (ap 5 ty3 bw) ?_
 refine kIn rfl rfl rfl ?_
 refine a5 h rfl (fun _ h=>?_) (fun _ h=>?_)
 ·refine ba (fun e C=>xn R x14=some r/\At [(6,Pr.pt b4 0),(7,P6 0),(8,Pr.pt b5 0)] [p2,D8 b5 ah x14,p3,p4,p5,p6] e C) ?_ ?_
  ·rintro e C ⟨h,a⟩
   refine W_at a ?_
   unfold xn at h
   obtain rfl:=osj h
   exact a7 ⟨rfl,[(af).val p1,P6 0,(ah).val x14],⟨yBox 0 ty64 aa,yT aa,yBox 1 ty97 aa,tv⟩,aa⟩
  refine fc [(2,0,D8 b4 af p1),(4,1,D8 b5 ah x14)] [p2,D8 b5 ah x14,p3,p4,p5,p6] hmx kr kr (show([2,4]:List Nat).Nodup by decide) (show([0,1]:List Nat).Nodup by decide) rfl rfl ?_
  refine eq1 (out:=(af).val p1) (fun C2 hC=>(fg bi st64 rfl)) ?_
  refine eql 5 ty97 (Sub.refl _) rfl rfl kr ?_
  refine eqs 0 sizeOf64 (Upd.refl _) rfl rfl rfl kr ?_
  refine eq1 (out:=P6 0) (fun C2 hC=>f7) ?_
  refine eqs 1 sizeOf97 (Upd.refl _) rfl rfl rfl kr ?_
  exact⟨h,atOk⟩
 refine au (W_rs (kUn (ap 2 ty64 (Sub.refl _)) ?_))
 refine kUn (ap 4 ty64 (Sub.refl _)) ?_
 refine arl (R:=af) (ls:=([x6,x12]:List B5)) el53 nb ⟨rfl,rfl⟩ ⟨rfl,rfl,tv⟩ (fun v18=>?_)
 refine kAs rfl (a6 (W_rs (kMvL rfl (kMv rfl (cr h (br x1 x2 ([119,104,105,108,101]:Bt)) rfl fun x19 _ h=>?_)))))
 refine a5 h rfl (fun _ h=>?_) (fun _ h=>?_)
 ·refine W_rs (kMvL rfl (kMv rfl (kMv rfl (kMv rfl ?_))))
  obtain⟨x21,k,h⟩:=ag h
  refine rRel 6 [15,57] ?_ rfl ⟨rfl,rfl,tv⟩
  refine kUn (c7 (ej x1 10 x2 x13 ([x6,x12]:List B5) _ k)) ?_
  refine kMv rfl (cr h (da) rfl fun x22 _ h=>am 0 rfl rfl (Upd.refl _) rfl sizeOf64 (kAs rfl (am 1 rfl rfl (Upd.refl _) rfl sizeOf97 ?_)))
  obtain rfl:=osj h
  exact a7 ⟨rfl,[(af).val x21,P6 x13,(ah).val x22],⟨yBox 0 ty64 aa,yT aa,yBox 1 ty97 aa,tv⟩,aa⟩
 refine au ?_
 refine ba (fun e C=>∃x33,∃x35,∃v34,si R x1 x2 x33 x35=some r/\At [(0,ao bu x1),(1,P6 x2),(6,Pr.pt b4 0),(8,Pr.pt b5 0),(13,P6 x33),(15,Pi v34)] [p2,D8 b5 ah (C6.mk 0 0),p3,p4,p5,p6,E1 v34 af x35 64] e C) ?_ ?_
 ·rintro e C ⟨x33,x35,v34,h,a⟩
  refine W_at a ?_
  unfold si at h
  refine W_rs (kMvL rfl (kMv rfl (kMv rfl (kMv rfl ?_))))
  obtain⟨x36,k,h⟩:=ag h
  refine rRel 6 [15,87] ?_ rfl ⟨rfl,rfl,tv⟩
  refine kUn (c7 (ej x1 9 x2 x33 x35 _ k)) ?_
  refine kMv rfl (cr h (da) rfl fun x37 _ h=>am 0 rfl rfl (Upd.refl _) rfl sizeOf64 (kAs rfl (am 1 rfl rfl (Upd.refl _) rfl sizeOf97 ?_)))
  obtain rfl:=osj h
  exact a7 ⟨rfl,[(af).val x36,P6 x33,(ah).val x37],⟨yBox 0 ty64 aa,yT aa,yBox 1 ty97 aa,tv⟩,aa⟩
 refine W_rs (kMvL rfl (kMv rfl (cr h (br x1 x13 ([101,108,115,101]:Bt)) rfl fun x23 _ h=>?_)))
 refine a5 h rfl (fun _ h=>?_) (fun _ h=>?_)
 ·refine W_rs (kMvL rfl (kMv rfl (kIn rfl rfl rfl (kMv rfl (kIn rfl rfl rfl ?_)))))
  obtain⟨⟨x25,x26,x27⟩,k,h⟩:=ag h
  refine kUn (c7 (ih.2.1 x1 (w64 (x13+1)) (w64 (x3+1)) _ k)) ?_
  refine kUn (hMv (out:=bj [(af).val x25,P6 x26,(ah).val x27]) rfl) (kUn al ?_)
  refine kUn al ?_
  refine kUn al ?_
  refine bg al64 fun b28=>?_
  refine bg al97 fun b29=>am 7 rfl rfl (Upd.refl _) rfl sizeOf64 (kAs rfl (am 8 rfl rfl (Upd.refl _) rfl sizeOf97 (a6 (W_rs (kUn (aj nn) ?_)))))
  refine kUn (ap 8 ty3 bw) ?_
  refine kIn rfl rfl rfl ?_
  refine a5 h rfl (fun _ h=>?_) (fun _ h=>?_)
  ·refine ba (fun e C=>xm R x27=some r/\At [(6,Pr.pt b4 0),(7,P6 0),(8,Pr.pt b5 0)] [p2,D8 b5 ah x27,p3,p4,p5,p6,D8 b28 af x25,D8 b29 ah x27] e C) ?_ ?_
   ·rintro e C ⟨h,a⟩
    refine W_at a ?_
    unfold xm at h
    obtain rfl:=osj h
    exact a7 ⟨rfl,[(af).val p1,P6 0,(ah).val x27],⟨yBox 0 ty64 aa,yT aa,yBox 1 ty97 aa,tv⟩,aa⟩
   refine fc [(2,0,D8 b4 af p1),(4,1,D8 b5 ah x27)] [p2,D8 b5 ah x27,p3,p4,p5,p6,E1 v18 af ([x6,x12]:List B5) 64,D8 b28 af x25,D8 b29 ah x27] hmx kr kr (show([2,4]:List Nat).Nodup by decide) (show([0,1]:List Nat).Nodup by decide) rfl rfl ?_
   refine eq1 (out:=(af).val p1) (fun C2 hC=>(fg bi st64 rfl)) ?_
   refine eql 8 ty97 (Sub.refl _) rfl rfl kr ?_
   refine eqs 0 sizeOf64 (Upd.refl _) rfl rfl rfl kr ?_
   refine eq1 (out:=P6 0) (fun C2 hC=>f7) ?_
   refine eqs 1 sizeOf97 (Upd.refl _) rfl rfl rfl kr ?_
   exact⟨h,⟨⟨aa,aa,aa,tv⟩,A8.of [0,1,2,3,4,5,7,8] rfl⟩⟩
  refine au (W_rs (kMv rfl (kUn (ap 7 ty64 (Sub.refl _)) ?_)))
  refine kUn (cm (R:=af) (a:=x25) el53 nb) ?_
  obtain⟨x31,k,h⟩:=ag h
  refine fp 6 el53 k (fun v32=>?_)
  refine kAs rfl (W_r (kMv rfl (kAs rfl ?_)))
  exact⟨x26,x31,v32,h,⟨⟨aa,aa,aa,aa,aa,aa,tv⟩,A8.of [0,1,2,3,4,5,6] rfl⟩⟩
 refine au ?_
 exact⟨x13,([x6,x12]:List B5),v18,h,atOk⟩
theorem alf :∀n,qv (mc n):=by
 intro n
 induction n with
 |zero=>exact⟨(fun x1 x2 x3 r h=>nomatch (show none=some r from h)),(fun x1 x2 x3 r h=>nomatch (show none=some r from h)),(fun x1 x2 x3 r h=>nomatch (show none=some r from h))⟩
 |succ n ih=>exact⟨(fun x1 x2 x3 r h=>alr (mc n) ih x1 x2 x3 r h),(fun x1 x2 x3 r h=>ahz (mc n) ih x1 x2 x3 r h),(fun x1 x2 x3 r h=>ajt (mc n) ih x1 x2 x3 r h)⟩
theorem ap6 (x1:List C5) (x2 x3:Int) (r:B5 × Int × C6) (h:aka x1 x2 x3=some r):Fp 140 [ao bu x1,P6 x2,P6 x3] (bj [(af).val r.1,P6 r.2.1,(ah).val r.2.2]):=(alf 1048576).1 x1 x2 x3 r h
theorem apf (x1:List C5) (x2:Int) (r:B5 × Int × C6) (h:ab2 x1 x2=some r):Fp 95 [ao bu x1,P6 x2] (bj [(af).val r.1,P6 r.2.1,(ah).val r.2.2]):=by
 refine c9 (rs:=[.cell 4 64,.tmp 5,.cell 6 97]) func95 rfl ntmps95 results95 dcd (fun s0=>?_)
 let p1:=B5.mk 0 [] [] 0 0 0 0 0 []
 let p2:=C6.mk 0 0
 unfold ab2 at h
 refine W_rs (bg al64 fun b3=>kAs rfl (bg al97 fun b4=>W_rs (kMv rfl (kAs rfl (W_rs (kMvL rfl (kMv rfl (cr h (br x1 x2 ([115,116,97,116,105,99]:Bt)) rfl fun x5 _ h=>kAs rfl ?_))))))))
 let p3:=D8 b3 af p1
 refine ba (fun e C=>∃x7,rb x1 x2 x5 x7=some r/\At [(0,ao bu x1),(1,P6 x7),(4,Pr.pt b3 0),(6,Pr.pt b4 0),(7,P6 x2),(8,Pb x5)] [p3,D8 b4 ah p2] e C) ?_ ?_
 ·rintro e C ⟨x7,h,a⟩
  refine W_at a ?_
  unfold rb at h
  refine a6 (W_rs (kMvL rfl (kMv rfl (cr h (ak4 x1 x7) rfl fun x8 _ h=>kNo rfl ?_))))
  refine a5 h rfl (fun _ h=>?_) (fun _ h=>?_)
  ·refine W_rs (kUn (fg bi st64 rfl) ?_)
   refine kMv rfl (cr h (cj x7) rfl fun x10 _ h=>am 0 rfl rfl (Upd.refl _) rfl sizeOf64 (kAs rfl (am 1 rfl rfl (Upd.refl _) rfl sizeOf97 ?_)))
   obtain rfl:=osj h
   exact a7 ⟨rfl,[(af).val p1,P6 0,(ah).val x10],⟨yBox 0 ty64 aa,yT aa,yBox 1 ty97 aa,tv⟩,aa⟩
  refine au (a6 (W_rs (kMvL rfl (kMv rfl (kIn rfl rfl rfl (cr h (ki x1 (w64 (x7+1))) rfl fun x11 _ h=>kNo rfl ?_))))))
  refine a5 h rfl (fun _ h=>?_) (fun _ h=>?_)
  ·refine W_rs (kUn (fg bi st64 rfl) ?_)
   refine kMv rfl (kIn rfl rfl rfl (cr h (cj (w64 (x7+1))) rfl fun x13 _ h=>am 0 rfl rfl (Upd.refl _) rfl sizeOf64 (kAs rfl (am 1 rfl rfl (Upd.refl _) rfl sizeOf97 ?_))))
   obtain rfl:=osj h
   exact a7 ⟨rfl,[(af).val p1,P6 0,(ah).val x13],⟨yBox 0 ty64 aa,yT aa,yBox 1 ty97 aa,tv⟩,aa⟩
  refine au (W_rs (kMv rfl (kIn rfl rfl rfl (kAs rfl (W_rs (kAs rfl (W_rs (kAs rfl ?_))))))))
  refine agk [11] af 64 (fun v14=>?_) ⟨rfl,tv⟩
  refine ba (fun e C=>∃x37,∃x38,∃x40,∃v39,ux x1 x2 x7 x5 x37 x38 x40=some r/\At [(0,ao bu x1),(1,P6 x7),(4,Pr.pt b3 0),(6,Pr.pt b4 0),(7,P6 x2),(8,Pb x5),(9,P6 x37),(10,P6 x38),(11,Pi v39)] [p3,D8 b4 ah p2,E1 v39 af x40 64] e C) ?_ ?_
  ·rintro e C ⟨x37,x38,x40,v39,h,a⟩
   refine W_at a ?_
   unfold ux at h
   refine W_rs (kMvL rfl (kMvL rfl (kMv rfl (kMv rfl (kMv rfl (kMv rfl ?_))))))
   obtain⟨x41,k,h⟩:=ag h
   refine rRel 2 [11,99] ?_ rfl ⟨rfl,rfl,tv⟩
   refine kUn (c7 (ej x1 x38 x2 x37 x40 _ k)) ?_
   refine kMv rfl (cr h (af3 x1 x41 x7) rfl fun x42 _ h=>?_)
   refine bg al64 fun b43=>am 2 rfl rfl (Upd.refl _) rfl sizeOf64 ?_
   refine ba (fun e C=>∃x45,uy x37 x45=some r/\At [(4,Pr.pt b3 0),(6,Pr.pt b4 0),(9,P6 x37),(18,Pr.pt b43 0)] [p3,D8 b4 ah p2,D8 b43 af x45] e C) ?_ ?_
   ·rintro e C ⟨x45,h,a⟩
    refine W_at a ?_
    unfold uy at h
    refine ba (fun e C=>∃x46,zx x45 x37 x46=some r/\At [(4,Pr.pt b3 0),(5,P6 x37),(6,Pr.pt b4 0)] [D8 b3 af x45,D8 b4 ah x46,D8 b43 af x45] e C) ?_ ?_
    ·rintro e C ⟨x46,h,a⟩
     refine W_at a ?_
     unfold zx at h
     obtain rfl:=osj h
     exact a7 ⟨rfl,[(af).val x45,P6 x37,(ah).val x46],⟨yBox 0 ty64 aa,yT aa,yBox 1 ty97 aa,tv⟩,aa⟩
    obtain⟨x46,k,h⟩:=ag h
    refine fc [(3,0,D8 b3 af x45),(5,1,D8 b4 ah x46)] [D8 b3 af x45,D8 b4 ah x46,D8 b43 af x45] hmx kr kr (show([3,5]:List Nat).Nodup by decide) (show([0,1]:List Nat).Nodup by decide) rfl rfl ?_
    refine eql 2 ty64 (Sub.refl _) rfl rfl kr ?_
    refine eq1 (out:=P6 x37) (fun C2 hC=>fr) ?_
    refine eq1 (out:=(ah).val x46) (fun C2 hC=>(c7 (da _ k))) ?_
    refine eqs 0 sizeOf64 (Upd.refl _) rfl rfl rfl kr ?_
    refine eq1 (out:=P6 x37) (fun C2 hC=>f7) ?_
    refine eqs 1 sizeOf97 (Upd.refl _) rfl rfl rfl kr ?_
    exact⟨x46,h,atOk⟩
   refine W_rs (kMv rfl ?_)
   refine a5 h rfl (fun _ h=>?_) (fun _ h=>?_)
   ·refine W_r (kUn (aj aia) ?_)
    refine am 2 rfl rfl air rfl sizeOf2 ?_
    exact⟨{x42 with N:=1},h,atOk⟩
   refine au ?_
   exact⟨x42,h,atOk⟩
  refine az (W_rs (kMvL rfl (kMv rfl (cr h (br x1 (w64 (x7+2)) ([59]:Bt)) rfl fun x15 _ h=>kAs rfl ?_))))
  refine a5 h rfl (fun _ h=>?_) (fun _ h=>?_)
  ·refine a6 (W_rs (kMvL rfl (kMv rfl (cr h (br x1 x7 ([118,111,105,100]:Bt)) rfl fun x17 _ h=>?_))))
   refine a5 h rfl (fun _ h=>?_) (fun _ h=>?_)
   ·refine W_rs (kUn (fg bi st64 rfl) ?_)
    refine kMv rfl (cr h (cj (w64 (x7+2))) rfl fun x19 _ h=>am 0 rfl rfl (Upd.refl _) rfl sizeOf64 (kAs rfl (am 1 rfl rfl (Upd.refl _) rfl sizeOf97 ?_)))
    obtain rfl:=osj h
    exact a7 ⟨rfl,[(af).val p1,P6 0,(ah).val x19],⟨yBox 0 ty64 aa,yT aa,yBox 1 ty97 aa,tv⟩,aa⟩
   refine au (W_r (kMv rfl (kIn rfl rfl rfl (kAs rfl ?_))))
   exact⟨w64 ((w64 (x7+2))+1),2,[],v14,h,atOk⟩
  refine W_rs (kMvL rfl (kMv rfl (cr h (br x1 (w64 (x7+2)) ([40]:Bt)) rfl fun x20 _ h=>kAs rfl ?_)))
  refine a5 h rfl (fun _ h=>?_) (fun _ h=>?_)
  ·refine W_rs (kAs rfl (W_rs (kMvL rfl (kMv rfl (kIn rfl rfl rfl ?_)))))
   obtain⟨⟨x22,x23,x24⟩,k,h⟩:=ag h
   refine gu [] (ape x1 (w64 ((w64 (x7+2))+1)) _ k) (fun q C' hq=>?_)
   obtain⟨v25,rfl,rfl⟩:=hq
   refine kUn (hMv (out:=bj [Pi v25,P6 x23,(ah).val x24]) rfl) (kUn al ?_)
   refine kUn al ?_
   refine kUn al ?_
   refine bg al97 fun b26=>kAs rfl (kAs rfl (am 4 rfl rfl (Upd.refl _) rfl sizeOf97 (a6 (W_rs (kUn (aj nn) ?_)))))
   let p4:=D8 b26 ah x24
   refine kUn (ap 4 ty3 bw) ?_
   refine kIn rfl rfl rfl ?_
   refine a5 h rfl (fun _ h=>?_) (fun _ h=>?_)
   ·refine ba (fun e C=>zw x24=some r/\At [(4,Pr.pt b3 0),(5,P6 0),(6,Pr.pt b4 0)] [p3,D8 b4 ah x24,p4] e C) ?_ ?_
    ·rintro e C ⟨h,a⟩
     refine W_at a ?_
     unfold zw at h
     obtain rfl:=osj h
     exact a7 ⟨rfl,[(af).val p1,P6 0,(ah).val x24],⟨yBox 0 ty64 aa,yT aa,yBox 1 ty97 aa,tv⟩,aa⟩
    refine fc [(2,1,D8 b3 af p1),(4,2,D8 b4 ah x24)] [E1 v25 af x22 64,p3,D8 b4 ah x24,E1 v14 af [] 64,p4] hmx kr kr (show([2,4]:List Nat).Nodup by decide) (show([1,2]:List Nat).Nodup by decide) rfl rfl ?_
    refine eq1 (out:=(af).val p1) (fun C2 hC=>(fg bi st64 rfl)) ?_
    refine eql 4 ty97 (Sub.refl _) rfl rfl kr ?_
    refine eqs 1 sizeOf64 (Upd.refl _) rfl rfl rfl kr ?_
    refine eq1 (out:=P6 0) (fun C2 hC=>f7) ?_
    refine eqs 2 sizeOf97 (Upd.refl _) rfl rfl rfl kr ?_
    exact⟨h,⟨⟨aa,aa,aa,tv⟩,A8.of [1,2,4] rfl⟩⟩
   refine au (W_rs (kMvL rfl (kMv rfl ?_)))
   obtain⟨⟨x28,x29,x30⟩,k,h⟩:=ag h
   refine kUn (c7 (ap6 x1 x23 1 _ k)) ?_
   refine kUn (hMv (out:=bj [(af).val x28,P6 x29,(ah).val x30]) rfl) (kUn al ?_)
   refine kUn al ?_
   refine kUn al ?_
   refine bg al64 fun b31=>?_
   refine bg al97 fun b32=>am 5 rfl rfl (Upd.refl _) rfl sizeOf64 (kAs rfl (am 6 rfl rfl (Upd.refl _) rfl sizeOf97 (a6 (W_rs (kUn (aj nn) ?_)))))
   refine kUn (ap 6 ty3 bw) ?_
   refine kIn rfl rfl rfl ?_
   refine a5 h rfl (fun _ h=>?_) (fun _ h=>?_)
   ·refine ba (fun e C=>zu x30=some r/\At [(4,Pr.pt b3 0),(5,P6 0),(6,Pr.pt b4 0)] [p3,D8 b4 ah x30,p4,D8 b31 af x28,D8 b32 ah x30] e C) ?_ ?_
    ·rintro e C ⟨h,a⟩
     refine W_at a ?_
     unfold zu at h
     obtain rfl:=osj h
     exact a7 ⟨rfl,[(af).val p1,P6 0,(ah).val x30],⟨yBox 0 ty64 aa,yT aa,yBox 1 ty97 aa,tv⟩,aa⟩
    refine fc [(2,1,D8 b3 af p1),(4,2,D8 b4 ah x30)] [E1 v25 af x22 64,p3,D8 b4 ah x30,E1 v14 af [] 64,p4,D8 b31 af x28,D8 b32 ah x30] hmx kr kr (show([2,4]:List Nat).Nodup by decide) (show([1,2]:List Nat).Nodup by decide) rfl rfl ?_
    refine eq1 (out:=(af).val p1) (fun C2 hC=>(fg bi st64 rfl)) ?_
    refine eql 6 ty97 (Sub.refl _) rfl rfl kr ?_
    refine eqs 1 sizeOf64 (Upd.refl _) rfl rfl rfl kr ?_
    refine eq1 (out:=P6 0) (fun C2 hC=>f7) ?_
    refine eqs 2 sizeOf97 (Upd.refl _) rfl rfl rfl kr ?_
    exact⟨h,⟨⟨aa,aa,aa,tv⟩,A8.of [1,2,4,5,6] rfl⟩⟩
   refine au (W_rs (kMv rfl (kUn (ap 5 ty64 (Sub.refl _)) ?_)))
   refine kUn (cm (R:=af) (a:=x28) el53 nb) ?_
   obtain⟨x34,k,h⟩:=ag h
   refine fp 0 el53 k (fun v35=>?_)
   refine kAs rfl (W_rs (kMv rfl (kAs rfl (W_r (kMv rfl (kAs rfl ?_))))))
   exact⟨x29,3,x34,v35,h,⟨⟨aa,aa,aa,aa,aa,aa,aa,aa,aa,tv⟩,A8.of [1,2,0] rfl⟩⟩
  refine W_rs (kUn (fg bi st64 rfl) ?_)
  refine kMv rfl (cr h (cj (w64 (x7+2))) rfl fun x36 _ h=>am 0 rfl rfl (Upd.refl _) rfl sizeOf64 (kAs rfl (am 1 rfl rfl (Upd.refl _) rfl sizeOf97 ?_)))
  obtain rfl:=osj h
  exact a7 ⟨rfl,[(af).val p1,P6 0,(ah).val x36],⟨yBox 0 ty64 aa,yT aa,yBox 1 ty97 aa,tv⟩,aa⟩
 refine W_rs (kMv rfl ?_)
 refine a5 h rfl (fun _ h=>?_) (fun _ h=>?_)
 ·refine W_r (kMv rfl (kIn rfl rfl rfl (kAs rfl ?_)))
  exact⟨w64 (x2+1),h,atOk⟩
 refine au ?_
 exact⟨x2,h,atOk⟩
theorem ap5 (x1:List C5) (x2:Int) (r:B5 × Int × C6) (h:ad4 x1 x2=some r):Fp 51 [ao bu x1,P6 x2] (bj [(af).val r.1,P6 r.2.1,(ah).val r.2.2]):=by
 refine c9 (rs:=[.cell 4 64,.tmp 5,.cell 6 97]) func51 rfl ntmps51 results51 dcd (fun s0=>?_)
 let p1:=B5.mk 0 [] [] 0 0 0 0 0 []
 let p2:=C6.mk 0 0
 unfold ad4 at h
 refine W_rs (bg al64 fun b3=>kAs rfl (bg al97 fun b4=>a6 (W_rs (kMvL rfl (kMv rfl (cr h (br x1 x2 ([99,108,97,115,115]:Bt)) rfl fun x5 _ h=>kNo rfl ?_))))))
 let p3:=D8 b3 af p1
 let p4:=D8 b4 ah p2
 refine a5 h rfl (fun _ h=>?_) (fun _ h=>?_)
 ·refine W_rs (kUn (fg bi st64 rfl) ?_)
  refine kMv rfl (cr h (cj x2) rfl fun x7 _ h=>am 0 rfl rfl (Upd.refl _) rfl sizeOf64 (kAs rfl (am 1 rfl rfl (Upd.refl _) rfl sizeOf97 ?_)))
  obtain rfl:=osj h
  exact a7 ⟨rfl,[(af).val p1,P6 0,(ah).val x7],⟨yBox 0 ty64 aa,yT aa,yBox 1 ty97 aa,tv⟩,aa⟩
 refine au (a6 (W_rs (kMvL rfl (kMv rfl (kIn rfl rfl rfl (cr h (ki x1 (w64 (x2+1))) rfl fun x8 _ h=>kNo rfl ?_))))))
 refine a5 h rfl (fun _ h=>?_) (fun _ h=>?_)
 ·refine W_rs (kUn (fg bi st64 rfl) ?_)
  refine kMv rfl (kIn rfl rfl rfl (cr h (cj (w64 (x2+1))) rfl fun x10 _ h=>am 0 rfl rfl (Upd.refl _) rfl sizeOf64 (kAs rfl (am 1 rfl rfl (Upd.refl _) rfl sizeOf97 ?_))))
  obtain rfl:=osj h
  exact a7 ⟨rfl,[(af).val p1,P6 0,(ah).val x10],⟨yBox 0 ty64 aa,yT aa,yBox 1 ty97 aa,tv⟩,aa⟩
 refine au (W_rs (kMv rfl (kIn rfl rfl rfl (kAs rfl (W_rs (kAs rfl ?_))))))
 refine ba (fun e C=>∃x16,∃x17,s9 x1 x2 x16 x17=some r/\At [(0,ao bu x1),(1,P6 x2),(4,Pr.pt b3 0),(6,Pr.pt b4 0),(7,P6 x16),(8,P6 x17)] [p3,p4] e C) ?_ ?_
 ·rintro e C ⟨x16,x17,h,a⟩
  refine W_at a ?_
  unfold s9 at h
  refine a6 (W_rs (kMvL rfl (kMv rfl (cr h (br x1 x16 ([123]:Bt)) rfl fun x18 _ h=>kNo rfl ?_))))
  refine a5 h rfl (fun _ h=>?_) (fun _ h=>?_)
  ·refine W_rs (kUn (fg bi st64 rfl) ?_)
   refine kMv rfl (cr h (cj x16) rfl fun x20 _ h=>am 0 rfl rfl (Upd.refl _) rfl sizeOf64 (kAs rfl (am 1 rfl rfl (Upd.refl _) rfl sizeOf97 ?_)))
   obtain rfl:=osj h
   exact a7 ⟨rfl,[(af).val p1,P6 0,(ah).val x20],⟨yBox 0 ty64 aa,yT aa,yBox 1 ty97 aa,tv⟩,aa⟩
  refine au (W_rs (kMv rfl (kIn rfl rfl rfl (kAs rfl (W_rs (kAs rfl (a6 (az ?_))))))))
  obtain⟨z4l,hz4,h⟩:=ag h
  obtain⟨n4,hN4⟩:=bm hz4
  refine cp 0 (fun e C=>∃x21,∃x23,∃v22,ws x1 x2 x17 x21 x23=some r/\At [(0,ao bu x1),(1,P6 x2),(4,Pr.pt b3 0),(6,Pr.pt b4 0),(7,P6 x21),(8,P6 x17),(9,Pi v22)] [p3,p4,E1 v22 af x23 64] e C) ?_ ?_
  ·rintro e C ⟨x21,x23,v22,h,a⟩
   refine W_at a ?_
   unfold ws at h
   refine W_rs (kMvL rfl (kMv rfl (kMv rfl (kIn rfl rfl rfl (kMv rfl ?_)))))
   obtain⟨x37,k,h⟩:=ag h
   refine rRel 2 [9,82] ?_ rfl ⟨rfl,rfl,tv⟩
   refine kUn (c7 (ej x1 1 x2 (w64 (x21+1)) x23 _ k)) ?_
   refine bg al64 fun b38=>am 2 rfl rfl (Upd.refl _) rfl sizeOf64 (W_rs (kMvL rfl (kMv rfl (kIn rfl rfl rfl ?_))))
   obtain⟨x39,k,h⟩:=ag h
   refine kUn (du underlying41 sizeOf45 k) ?_
   refine kUn (dv aag fy) ?_
   refine kUn (bz ty9) ?_
   refine kUn (aj ec) ?_
   refine am 2 rfl rfl q8 rfl sizeOf9 (W_rs (kMvL rfl (kMv rfl (kIn rfl rfl rfl ?_))))
   obtain⟨x40,k,h⟩:=ag h
   refine kUn (du underlying41 sizeOf45 k) ?_
   refine kUn (dv aft kf) ?_
   refine kUn (bz ty3) ?_
   refine kUn (aj mi) ?_
   refine am 2 rfl rfl y5 rfl sizeOf3 ?_
   refine ba (fun e C=>∃x44,wt x21 x44=some r/\At [(4,Pr.pt b3 0),(6,Pr.pt b4 0),(7,P6 x21),(13,Pr.pt b38 0)] [p3,p4,D8 b38 af x44] e C) ?_ ?_
   ·rintro e C ⟨x44,h,a⟩
    refine W_at a ?_
    unfold wt at h
    refine ba (fun e C=>∃x45,abf x44 x21 x45=some r/\At [(4,Pr.pt b3 0),(5,P6 (w64 (x21+1))),(6,Pr.pt b4 0)] [D8 b3 af x44,D8 b4 ah x45,D8 b38 af x44] e C) ?_ ?_
    ·rintro e C ⟨x45,h,a⟩
     refine W_at a ?_
     unfold abf at h
     obtain rfl:=osj h
     exact a7 ⟨rfl,[(af).val x44,P6 (w64 (x21+1)),(ah).val x45],⟨yBox 0 ty64 aa,yT aa,yBox 1 ty97 aa,tv⟩,aa⟩
    obtain⟨x45,k,h⟩:=ag h
    refine fc [(4,0,D8 b3 af x44),(6,1,D8 b4 ah x45)] [D8 b3 af x44,D8 b4 ah x45,D8 b38 af x44] hmx kr kr (show([4,6]:List Nat).Nodup by decide) (show([0,1]:List Nat).Nodup by decide) rfl rfl ?_
    refine eql 2 ty64 (Sub.refl _) rfl rfl kr ?_
    refine eq1 (out:=P6 x21) (fun C2 hC=>fr) ?_
    refine eq1 (out:=P6 (w64 (x21+1))) (fun C2 hC=>qInt) ?_
    refine eq1 (out:=(ah).val x45) (fun C2 hC=>(c7 (da _ k))) ?_
    refine eqs 0 sizeOf64 (Upd.refl _) rfl rfl rfl kr ?_
    refine eq1 (out:=P6 (w64 (x21+1))) (fun C2 hC=>f7) ?_
    refine eqs 1 sizeOf97 (Upd.refl _) rfl rfl rfl kr ?_
    exact⟨x45,h,atOk⟩
   refine W_rs (kMv rfl (kIn rfl rfl rfl ?_))
   refine a5 h rfl (fun _ h=>?_) (fun _ h=>?_)
   ·refine W_rs (kMvL rfl (kMv rfl ?_))
    obtain⟨x42,k,h⟩:=ag h
    refine kUn (du underlying41 sizeOf45 k) ?_
    refine kUn (dv aag fy) ?_
    refine kUn (bz ty9) ?_
    refine kUn (aj ti) ?_
    refine am 2 rfl rfl ai0 rfl sizeOf9 (W_r (kMvL rfl (kMv rfl ?_)))
    obtain⟨x43,k,h⟩:=ag h
    refine kUn (du underlying41 sizeOf45 k) ?_
    refine kUn (dv aft kf) ?_
    refine kUn (bz ty3) ?_
    refine kUn (aj ah9) ?_
    refine am 2 rfl rfl ag5 rfl sizeOf3 ?_
    exact⟨{{{{x37 with Text:=x39.Text} with At:=x40.At} with Type_:=x42.Text} with TypeAt:=x43.At},h,atOk⟩
   refine au ?_
   exact⟨{{x37 with Text:=x39.Text} with At:=x40.At},h,atOk⟩
  refine agk [9] af 64 (fun v46=>?_) ⟨rfl,tv⟩
  refine dq (fun m e C=>∃x21,∃x23,∃v22,ez (fun s=>wr x1 s.1 s.2) m (x21,x23)=some z4l/\At [(0,ao bu x1),(1,P6 x2),(4,Pr.pt b3 0),(6,Pr.pt b4 0),(7,P6 x21),(8,P6 x17),(9,Pi v22)] [p3,p4,E1 v22 af x23 64] e C) n4 ⟨w64 (x16+1),[],v46,hN4,⟨⟨aa,aa,aa,aa,aa,aa,aa,tv⟩,A8.refl _⟩⟩ ?_
  rintro m e C ⟨x21,x23,v22,hN4,a⟩
  refine W_at a ?_
  obtain⟨m4,w4l,rfl,h4l,hn4,ho4⟩:=bc hN4
  replace h4l:wr x1 x21 x23=some w4l:=h4l
  unfold wr at h4l
  refine a6 (W_rs (kMvL rfl (kMv rfl (cr h4l (br x1 x21 ([125]:Bt)) rfl fun x27 _ h4l=>kNo rfl ?_))))
  refine a5 h4l rfl (fun _ h4l=>?_) (fun _ h4l=>?_)
  ·refine au (az (W_rs (kMvL rfl (kMv rfl ?_))))
   obtain⟨⟨x29,x30,x31⟩,k,h4l⟩:=ag h4l
   refine kUn (c7 (apf x1 x21 _ k)) ?_
   refine kUn (hMv (out:=bj [(af).val x29,P6 x30,(ah).val x31]) rfl) (kUn al ?_)
   refine kUn al ?_
   refine kUn al ?_
   refine bg al64 fun b32=>?_
   refine bg al97 fun b33=>am 3 rfl rfl (Upd.refl _) rfl sizeOf64 (kAs rfl (am 4 rfl rfl (Upd.refl _) rfl sizeOf97 (a6 (W_rs (kUn (aj nn) ?_)))))
   refine kUn (ap 4 ty3 bw) ?_
   refine kIn rfl rfl rfl ?_
   refine a5 h4l rfl (fun _ h4l=>?_) (fun _ h4l=>?_)
   ·refine ba (fun e C=>abe x31=some w4l/\At [(4,Pr.pt b3 0),(5,P6 0),(6,Pr.pt b4 0)] [p3,D8 b4 ah x31,D8 b32 af x29,D8 b33 ah x31] e C) ?_ ?_
    ·rintro e C ⟨h4l,a⟩
     refine W_at a ?_
     unfold abe at h4l
     obtain rfl:=ho4 _ (ojs h4l)
     replace h:some (p1,0,x31)=some r:=h
     obtain rfl:=osj h
     exact a7 ⟨rfl,[(af).val p1,P6 0,(ah).val x31],⟨yBox 0 ty64 aa,yT aa,yBox 1 ty97 aa,tv⟩,aa⟩
    refine fc [(2,0,D8 b3 af p1),(4,1,D8 b4 ah x31)] [p3,D8 b4 ah x31,E1 v22 af x23 64,D8 b32 af x29,D8 b33 ah x31] hmx kr kr (show([2,4]:List Nat).Nodup by decide) (show([0,1]:List Nat).Nodup by decide) rfl rfl ?_
    refine eq1 (out:=(af).val p1) (fun C2 hC=>(fg bi st64 rfl)) ?_
    refine eql 4 ty97 (Sub.refl _) rfl rfl kr ?_
    refine eqs 0 sizeOf64 (Upd.refl _) rfl rfl rfl kr ?_
    refine eq1 (out:=P6 0) (fun C2 hC=>f7) ?_
    refine eqs 1 sizeOf97 (Upd.refl _) rfl rfl rfl kr ?_
    exact⟨h4l,⟨⟨aa,aa,aa,tv⟩,A8.of [0,1,3,4] rfl⟩⟩
   refine au (W_rs (kMv rfl (kUn (ap 3 ty64 (Sub.refl _)) ?_)))
   refine kUn (cm (R:=af) (a:=x29) el53 nb) ?_
   obtain⟨x35,k,h4l⟩:=ag h4l
   refine fp 2 el53 k (fun v36=>?_)
   refine kAs rfl (W_r (kMv rfl (kAs rfl ?_)))
   exact⟨m4,lsu,x30,x35,v36,hn4 _ (ojs h4l),⟨⟨aa,aa,aa,aa,aa,aa,aa,tv⟩,A8.of [0,1,2] rfl⟩⟩
  refine dp ?_
  obtain rfl:=ho4 _ (ojs h4l)
  exact⟨x21,x23,v22,h,atOk⟩
 refine W_rs (kMvL rfl (kMv rfl (cr h (br x1 (w64 (x2+2)) ([101,120,116,101,110,100,115]:Bt)) rfl fun x11 _ h=>?_)))
 refine a5 h rfl (fun _ h=>?_) (fun _ h=>?_)
 ·refine a6 (W_rs (kMvL rfl (kMv rfl (kIn rfl rfl rfl (cr h (ki x1 (w64 ((w64 (x2+2))+1))) rfl fun x13 _ h=>kNo rfl ?_)))))
  refine a5 h rfl (fun _ h=>?_) (fun _ h=>?_)
  ·refine W_rs (kUn (fg bi st64 rfl) ?_)
   refine kMv rfl (kIn rfl rfl rfl (cr h (cj (w64 ((w64 (x2+2))+1))) rfl fun x15 _ h=>am 0 rfl rfl (Upd.refl _) rfl sizeOf64 (kAs rfl (am 1 rfl rfl (Upd.refl _) rfl sizeOf97 ?_))))
   obtain rfl:=osj h
   exact a7 ⟨rfl,[(af).val p1,P6 0,(ah).val x15],⟨yBox 0 ty64 aa,yT aa,yBox 1 ty97 aa,tv⟩,aa⟩
  refine au (W_rs (kMv rfl (kIn rfl rfl rfl (kAs rfl (W_r (kMv rfl (kIn rfl rfl rfl (kAs rfl ?_))))))))
  exact⟨w64 ((w64 (x2+2))+2),w64 ((w64 (x2+2))+1),h,atOk⟩
 refine au ?_
 exact⟨w64 (x2+2),(-1),h,atOk⟩
theorem anf (x1:List C5) (x2:C6) (r:B3) (h:y7 x1 x2=some r):Fp 52 [ao bu x1,(ah).val x2] ((ay).val r):=by
 refine c9 (rs:=[.cell 4 30]) func52 rfl ntmps52 results52 dcd (fun s0=>?_)
 unfold y7 at h
 refine W_rs ?_
 refine rBox (R:=ah) (a:=x2) rfl (fun b3=>?_)
 refine bg al30 fun b4=>?_
 refine ba (fun e C=>∃x5,xl x2 x5=some r/\At [(4,Pr.pt b4 0)] [D8 b3 ah x2,D8 b4 ay (B3.mk x2.Code 0 x5.At)] e C) ?_ ?_
 ·rintro e C ⟨x5,h,a⟩
  refine W_at a ?_
  unfold xl at h
  obtain rfl:=osj h
  exact a7 ⟨rfl,[(ay).val (B3.mk x2.Code 0 x5.At)],⟨yBox 1 ty30 aa,tv⟩,aa⟩
 refine jg 13 hmx kr kr ?_
 refine lUn (aj fld97_1) ?_
 refine lUn (ap 0 ty28 alc) ?_
 refine lUn (hMvL rfl) (lUn (aj nn) ?_)
 refine lUn (ap 0 ty3 bw) ?_
 refine lUn (hMvL rfl) (lUn (jf rfl underlying41) ?_)
 refine lUn (qInt rfl rfl rfl) (lUn (qMin (a:=x2.Place) (b:=w64 ((x1.length:Int) - 1))) ?_)
 obtain⟨x5,k,h⟩:=ag h
 refine lUn (du underlying41 sizeOf45 k) ?_
 refine lUn (dv aft kf) ?_
 refine lUn (bz ty3) ?_
 refine lUn (fk st30 ⟨(B3.mk x2.Code 0 0),⟨_,rfl,rfl,qbj⟩,⟨(B3.mk x2.Code 0 x5.At),⟨_,rfl,rfl,qbj⟩,rfl⟩⟩) ?_
 refine am 1 rfl rfl (Upd.refl _) rfl sizeOf30 ?_
 exact⟨x5,h,atOk⟩
def acw (R:jd):Prop:=(∀(x1:B5) (r:Int),R x1=some r->Fp 53 [(af).val x1] (P6 r))
theorem als (R:jd) (ih:acw R) (x1:B5) (r:Int) (h:zl R x1=some r):Fp 53 [(af).val x1] (P6 r):=by
 refine c8 (rs:=[2]) func53 rfl ntmps53 ⟨by decide,results53⟩ dcd (fun s0=>?_)
 unfold zl at h
 refine W_rs ?_
 refine rBox (R:=af) (a:=x1) rfl (fun b2=>?_)
 refine kAs rfl (W_rs (kAs rfl (a6 (W_rs (kAs rfl (az ?_))))))
 obtain⟨z2l,hz2,h⟩:=ag h
 obtain⟨n2,hN2⟩:=bm hz2
 refine cp 0 (fun e C=>∃x3,abj R x3=some r/\At [(3,P6 x3)] [D8 b2 af x1] e C) ?_ ?_
 ·rintro e C ⟨x3,h,a⟩
  refine W_at a ?_
  unfold abj at h
  refine W_rs (kMv rfl (kIn rfl rfl rfl (kAs rfl ?_)))
  obtain rfl:=osj h
  exact a7 ⟨rfl,aa⟩
 refine dq (fun m e C=>∃x3,∃x4,ez (fun s=>wx R x1 s.1 s.2) m (x3,x4)=some z2l/\At [(1,Pr.pt b2 0),(3,P6 x3),(4,P6 x4)] [D8 b2 af x1] e C) n2 ⟨0,0,hN2,⟨⟨aa,aa,aa,tv⟩,A8.refl _⟩⟩ ?_
 rintro m e C ⟨x3,x4,hN2,a⟩
 refine W_at a ?_
 obtain⟨m2,w2l,rfl,h2l,hn2,ho2⟩:=bc hN2
 replace h2l:wx R x1 x3 x4=some w2l:=h2l
 unfold wx at h2l
 refine a6 (W_rs (kMv rfl (kUn (aj kw) ?_)))
 refine kUn (ap 0 ty53 cn) ?_
 refine kUn (jf rfl underlying53) ?_
 refine kIn rfl rfl rfl ?_
 refine a5 h2l rfl (fun _ h2l=>?_) (fun _ h2l=>?_)
 ·refine au (a6 (az (W_r (kMv rfl (kUn (aj kw) ?_)))))
  refine kUn (ap 0 ty53 cn) ?_
  refine kMv rfl ?_
  obtain⟨x8,k,h2l⟩:=ag h2l
  refine kUn (du underlying53 sizeOf64 k) ?_
  refine kUn (bz ty64) ?_
  refine cr h2l (ih x8) rfl fun x9 _ h2l=>?_
  refine kUn (qMax (a:=x3) (b:=x9)) ?_
  refine kAs rfl (W_r (kMv rfl (kIn rfl rfl rfl (kAs rfl ?_))))
  exact⟨m2,lsu,(if x9>x3 then x9 else x3),w64 (x4+1),hn2 _ (ojs h2l),atOk⟩
 refine dp ?_
 obtain rfl:=ho2 _ (ojs h2l)
 exact⟨x3,h,atOk⟩
theorem alg :∀n,acw (o8 n):=by
 intro n
 induction n with
 |zero=>exact(fun x1 r h=>nomatch (show none=some r from h))
 |succ n ih=>exact(fun x1 r h=>als (o8 n) ih x1 r h)
theorem ap8 (x1:B5) (r:Int) (h:aoq x1=some r):Fp 53 [(af).val x1] (P6 r):=(alg 1048576) x1 r h
theorem ak5 (x1:Bt) (r:(List B5) × B3) (h:adr x1=some r):Fp 23 [Pr.str x1] (bj [ao af r.1,(ay).val r.2]):=by
 refine c9 (rs:=[.tmp 2,.cell 3 30]) func23 rfl ntmps23 results23 dcd (fun s0=>?_)
 let p1:=B3.mk 0 0 0
 unfold adr at h
 refine W_rs (kAs rfl (bg al30 fun b2=>W_rs (kMv rfl ?_)))
 let p2:=D8 b2 ay p1
 obtain⟨⟨x3,x4,x5⟩,k,h⟩:=ag h
 refine kUn (c7 (at7 x1 _ k)) ?_
 refine kUn (hMv (out:=bj [ao bu x3,P6 x4,P6 x5]) rfl) (kUn al ?_)
 refine kUn al ?_
 refine kUn al ?_
 refine kAsL rfl (kAs rfl (kAs rfl (a6 (W_rs (kMv rfl (kIn rfl rfl rfl ?_))))))
 refine a5 h rfl (fun _ h=>?_) (fun _ h=>?_)
 ·refine W_rs (kMv rfl (kMv rfl (kUn (fk st30 ⟨(B3.mk x5 0 0),⟨_,rfl,rfl,qbj⟩,⟨(B3.mk x5 0 x4),⟨_,rfl,rfl,qbj⟩,rfl⟩⟩) ?_)))
  refine kAs rfl (am 0 rfl rfl (Upd.refl _) rfl sizeOf30 ?_)
  obtain rfl:=osj h
  exact a7 ⟨rfl,[ao af [],(ay).val (B3.mk x5 0 x4)],⟨yT (dr _),yBox 0 ty30 aa,tv⟩,aa⟩
 refine au (W_rs (kAs rfl (W_rs (kAs rfl (a6 (az ?_))))))
 obtain⟨z5l,hz5,h⟩:=ag h
 obtain⟨n5,hN5⟩:=bm hz5
 refine cp 0 (fun e C=>∃x9,∃v7,adf x9=some r/\At [(3,Pr.pt b2 0),(7,Pi v7)] [p2,E1 v7 af x9 64] e C) ?_ ?_
 ·rintro e C ⟨x9,v7,h,a⟩
  refine W_at a ?_
  unfold adf at h
  refine a6 (W_rs (kAs rfl (az ?_)))
  obtain⟨z2l,hz2,h⟩:=ag h
  obtain⟨n2,hN2⟩:=bm hz2
  refine cp 2 (fun e C=>adg x9=some r/\At [(3,Pr.pt b2 0),(7,Pi v7)] [p2,E1 v7 af x9 64] e C) ?_ ?_
  ·rintro e C ⟨h,a⟩
   refine W_at a ?_
   unfold adg at h
   refine W_rs (kMv rfl (kUn (fk st30 rfl) ?_))
   refine kAs rfl (am 0 rfl rfl (Upd.refl _) rfl sizeOf30 ?_)
   refine aly 1 [2] ?_ rfl ⟨rfl,tv⟩
   obtain rfl:=osj h
   exact a7 ⟨rfl,[ao af x9,(ay).val p1],⟨yT aa,yBox 0 ty30 aa,tv⟩,aa⟩
  refine dq (fun m e C=>∃x24,ez (fun s=>y9 x9 s) m x24=some z2l/\At [(3,Pr.pt b2 0),(7,Pi v7),(12,P6 x24)] [p2,E1 v7 af x9 64] e C) n2 ⟨0,hN2,⟨⟨aa,aa,aa,tv⟩,A8.refl _⟩⟩ ?_
  rintro m e C ⟨x24,hN2,a⟩
  refine W_at a ?_
  obtain⟨m2,w2l,rfl,h2l,hn2,ho2⟩:=bc hN2
  replace h2l:y9 x9 x24=some w2l:=h2l
  unfold y9 at h2l
  refine a6 (W_rs (kMv rfl (kMv rfl (kUn (awk 1 rfl underlying53) ?_))))
  refine kIn rfl rfl rfl ?_
  refine a5 h2l rfl (fun _ h2l=>?_) (fun _ h2l=>?_)
  ·refine au (a6 (az (W_rs (kMv rfl (kMv rfl ?_)))))
   obtain⟨x27,k,h2l⟩:=ag h2l
   refine kUn (vq 1 (R:=af) (l:=x9) underlying53 sizeOf64 k) ?_
   refine kUn (uc (R:=af) (R':=af) (l:=x9) (a:=x27) (o:=0) 1 ty64 (Sub.refl _) nb k rfl) ?_
   refine cr h2l (ap8 x27) rfl fun x28 _ h2l=>kIn rfl rfl rfl ?_
   refine a5 h2l rfl (fun _ h2l=>?_) (fun _ h2l=>?_)
   ·refine ba (fun e C=>∃x30,adh x30=some w2l/\At [(2,Pi (.slice none 0 0)),(3,Pr.pt b2 0)] [D8 b2 ay (B3.mk 2 0 x30.From)] e C) ?_ ?_
    ·rintro e C ⟨x30,h2l,a⟩
     refine W_at a ?_
     unfold adh at h2l
     obtain rfl:=ho2 _ (ojs h2l)
     replace h:some ([],(B3.mk 2 0 x30.From))=some r:=h
     obtain rfl:=osj h
     exact a7 ⟨rfl,[ao af [],(ay).val (B3.mk 2 0 x30.From)],⟨yT (dr _),yBox 0 ty30 aa,tv⟩,aa⟩
    refine jg 7 hmx kr kr ?_
    refine lUn (hMvA rfl) (lUn (hMvA rfl) ?_)
    obtain⟨x30,k,h2l⟩:=ag h2l
    refine lUn (vq 1 (R:=af) (l:=x9) underlying53 sizeOf64 k) ?_
    refine lUn (al3 au9) ?_
    refine lUn (uc (R:=af) (R':=Rp.int .i64) (l:=x9) (a:=x30) (o:=4) 1 ty3 aeh nb k rfl) ?_
    refine lUn (fk st30 ⟨(B3.mk 2 0 0),⟨_,rfl,rfl,qbj⟩,⟨(B3.mk 2 0 x30.From),⟨_,rfl,rfl,qbj⟩,rfl⟩⟩) ?_
    refine lUn (hAsA rfl) (am 0 rfl rfl (Upd.refl _) rfl sizeOf30 ?_)
    exact⟨x30,h2l,⟨⟨aa,aa,tv⟩,A8.of [0] rfl⟩⟩
   refine au (W_r (kMv rfl (kIn rfl rfl rfl (kAs rfl ?_))))
   exact⟨m2,lsu,w64 (x24+1),hn2 _ (ojs h2l),atOk⟩
  refine dp ?_
  obtain rfl:=ho2 _ (ojs h2l)
  exact⟨h,atOk⟩
 refine agk [7] af 64 (fun v31=>?_) ⟨rfl,tv⟩
 refine dq (fun m e C=>∃x8,∃x9,∃v7,ez (fun s=>y8 x3 s.1 s.2) m (x8,x9)=some z5l/\At [(3,Pr.pt b2 0),(4,ao bu x3),(7,Pi v7),(8,P6 x8)] [p2,E1 v7 af x9 64] e C) n5 ⟨0,[],v31,hN5,⟨⟨aa,aa,aa,aa,tv⟩,A8.refl _⟩⟩ ?_
 rintro m e C ⟨x8,x9,v7,hN5,a⟩
 refine W_at a ?_
 obtain⟨m5,w5l,rfl,h5l,hn5,ho5⟩:=bc hN5
 replace h5l:y8 x3 x8 x9=some w5l:=h5l
 unfold y8 at h5l
 refine a6 (W_rs (kMvL rfl (kMv rfl ?_)))
 obtain⟨x13,k,h5l⟩:=ag h5l
 refine kUn (du underlying41 sizeOf45 k) ?_
 refine kUn (dv an8 se) ?_
 refine kUn (bz ty3) ?_
 refine kIn rfl rfl rfl ?_
 refine a5 h5l rfl (fun _ h5l=>?_) (fun _ h5l=>?_)
 ·refine au (az (W_rs (kMvL rfl (kMv rfl ?_))))
  obtain⟨⟨x15,x16,x17⟩,k,h5l⟩:=ag h5l
  refine kUn (c7 (ap5 x3 x8 _ k)) ?_
  refine kUn (hMv (out:=bj [(af).val x15,P6 x16,(ah).val x17]) rfl) (kUn al ?_)
  refine kUn al ?_
  refine kUn al ?_
  refine bg al64 fun b18=>?_
  refine bg al97 fun b19=>am 2 rfl rfl (Upd.refl _) rfl sizeOf64 (kAs rfl (am 3 rfl rfl (Upd.refl _) rfl sizeOf97 (a6 (W_rs (kUn (aj nn) ?_)))))
  refine kUn (ap 3 ty3 bw) ?_
  refine kIn rfl rfl rfl ?_
  refine a5 h5l rfl (fun _ h5l=>?_) (fun _ h5l=>?_)
  ·refine W_rs (kMvL rfl (kUn (ap 3 ty97 (Sub.refl _)) ?_))
   refine cr h5l (anf x3 x17) rfl fun x21 _ h5l=>kAs rfl (am 0 rfl rfl (Upd.refl _) rfl sizeOf30 ?_)
   obtain rfl:=ho5 _ (ojs h5l)
   replace h:some ([],x21)=some r:=h
   obtain rfl:=osj h
   exact a7 ⟨rfl,[ao af [],(ay).val x21],⟨yT (dr _),yBox 0 ty30 aa,tv⟩,aa⟩
  refine au (W_rs (kMv rfl (kUn (ap 2 ty64 (Sub.refl _)) ?_)))
  refine kUn (cm (R:=af) (a:=x15) el53 nb) ?_
  obtain⟨x22,k,h5l⟩:=ag h5l
  refine fp 1 el53 k (fun v23=>?_)
  refine kAs rfl (W_r (kMv rfl (kAs rfl ?_)))
  exact⟨m5,lsu,x16,x22,v23,hn5 _ (ojs h5l),⟨⟨aa,aa,aa,aa,tv⟩,A8.of [0,1] rfl⟩⟩
 refine dp ?_
 obtain rfl:=ho5 _ (ojs h5l)
 exact⟨x9,v7,h,atOk⟩
theorem apj (x1:List Bt) (r:(List (List B5)) × Bool) (h:ab7 x1=some r):Fp 12 [ao Rp.str x1] (bj [ao (Rp.list af) r.1,Pb r.2]):=by
 refine c8 (rs:=[2,3]) func12 rfl ntmps12 ⟨by decide,results12⟩ dcd (fun s0=>?_)
 unfold ab7 at h
 refine W_rs (kAs rfl (kAs rfl (W_rs (kAs rfl (a6 (W_rs (kMvL rfl (kUn (jf rfl underlying22) ?_))))))))
 refine kIn rfl rfl rfl ?_
 refine a5 h rfl (fun _ h=>?_) (fun _ h=>?_)
 ·refine W_rs (kAs rfl (kAs rfl ?_))
  obtain rfl:=osj h
  exact a7 ⟨rfl,aqn ⟨dr _,aa,tv⟩⟩
 refine au (a6 (W_rs (kAs rfl (az ?_))))
 obtain⟨z2l,hz2,h⟩:=ag h
 obtain⟨n2,hN2⟩:=bm hz2
 refine cp 0 (fun e C=>∃x5,∃v3,zz x5=some r/\At [(4,Pi v3)] [E1 v3 (Rp.list af) x5 53] e C) ?_ ?_
 ·rintro e C ⟨x5,v3,h,a⟩
  refine W_at a ?_
  unfold zz at h
  refine W_rs (kMv rfl (kAs rfl (kAs rfl ?_)))
  refine aly 0 [2] ?_ rfl ⟨rfl,tv⟩
  obtain rfl:=osj h
  exact a7 ⟨rfl,aa⟩
 refine agk [4] (Rp.list af) 53 (fun v19=>?_) ⟨rfl,tv⟩
 refine dq (fun m e C=>∃x4,∃x5,∃v3,ez (fun s=>rd x1 s.1 s.2) m (x4,x5)=some z2l/\At [(0,ao Rp.str x1),(4,Pi v3),(5,P6 x4)] [E1 v3 (Rp.list af) x5 53] e C) n2 ⟨0,[],v19,hN2,⟨⟨aa,aa,aa,tv⟩,A8.refl _⟩⟩ ?_
 rintro m e C ⟨x4,x5,v3,hN2,a⟩
 refine W_at a ?_
 obtain⟨m2,w2l,rfl,h2l,hn2,ho2⟩:=bc hN2
 replace h2l:rd x1 x4 x5=some w2l:=h2l
 unfold rd at h2l
 refine a6 (W_rs (kMv rfl (kMvL rfl (kUn (jf rfl underlying22) ?_))))
 refine kIn rfl rfl rfl ?_
 refine a5 h2l rfl (fun _ h2l=>?_) (fun _ h2l=>?_)
 ·refine au (a6 (az (a6 (W_rs (kMvL rfl (kMv rfl ?_))))))
  obtain⟨x10,k,h2l⟩:=ag h2l
  refine kUn (du underlying22 sizeOf9 k) ?_
  refine kUn (bz ty9) ?_
  refine kUn (aji rfl underlying9) ?_
  refine kIn rfl rfl rfl ?_
  refine a5 h2l rfl (fun _ h2l=>?_) (fun _ h2l=>?_)
  ·refine W_rs (kAs rfl (kAs rfl ?_))
   obtain rfl:=ho2 _ (ojs h2l)
   replace h:some ([],false)=some r:=h
   obtain rfl:=osj h
   exact a7 ⟨rfl,aqn ⟨dr _,aa,tv⟩⟩
  refine au (W_rs (kMvL rfl (kMv rfl ?_)))
  obtain⟨x12,k,h2l⟩:=ag h2l
  refine kUn (du underlying22 sizeOf9 k) ?_
  refine kUn (bz ty9) ?_
  obtain⟨⟨x13,x14⟩,k,h2l⟩:=ag h2l
  refine kUn (c7 (ak5 x12 _ k)) ?_
  refine kUn (hMv (out:=bj [ao af x13,(ay).val x14]) rfl) (kUn al ?_)
  refine kUn al ?_
  refine bg al30 fun b15=>kAsL rfl (am 1 rfl rfl (Upd.refl _) rfl sizeOf30 (a6 (W_rs (kUn (aj aj5) ?_))))
  refine kUn (ap 1 ty28 kl) ?_
  refine kIn rfl rfl rfl ?_
  refine a5 h2l rfl (fun _ h2l=>?_) (fun _ h2l=>?_)
  ·refine W_rs (kAs rfl (kAs rfl ?_))
   obtain rfl:=ho2 _ (ojs h2l)
   replace h:some ([],false)=some r:=h
   obtain rfl:=osj h
   exact a7 ⟨rfl,aqn ⟨dr _,aa,tv⟩⟩
  refine au (W_r (kMv rfl (kMvL rfl (kUn (cm (R:=Rp.list af) (a:=x13) el24 nb) ?_))))
  obtain⟨x17,k,h2l⟩:=ag h2l
  refine fp 0 el24 k (fun v18=>?_)
  refine kAs rfl (W_r (kMv rfl (kIn rfl rfl rfl (kAs rfl ?_))))
  exact⟨m2,lsu,w64 (x4+1),x17,v18,hn2 _ (ojs h2l),⟨⟨aa,aa,aa,tv⟩,A8.of [0] rfl⟩⟩
 refine dp ?_
 obtain rfl:=ho2 _ (ojs h2l)
 exact⟨x5,v3,h,atOk⟩
theorem aoo (x1:List Bt) (x2:Bt) (r:Bool) (h:ajb x1 x2=some r):Fp 110 [ao Rp.str x1,Pr.str x2] (Pb r):=by
 refine c8 (rs:=[4]) func110 rfl ntmps110 ⟨by decide,results110⟩ dcd (fun s0=>?_)
 unfold ajb at h
 refine W_rs (kAs rfl (a6 (W_rs (kAs rfl (az ?_)))))
 obtain⟨z2l,hz2,h⟩:=ag h
 obtain⟨n2,hN2⟩:=bm hz2
 refine cp 0 (fun e C=>aj8=some r/\At [] [] e C) ?_ ?_
 ·rintro e C ⟨h,a⟩
  refine W_at a ?_
  unfold aj8 at h
  refine W_rs (kAs rfl ?_)
  obtain rfl:=osj h
  exact a7 ⟨rfl,aa⟩
 refine dq (fun m e C=>∃x3,ez (fun s=>xz x1 x2 s) m x3=some z2l/\At [(0,ao Rp.str x1),(1,Pr.str x2),(5,P6 x3)] [] e C) n2 ⟨0,hN2,⟨⟨aa,aa,aa,tv⟩,A8.refl _⟩⟩ ?_
 rintro m e C ⟨x3,hN2,a⟩
 refine W_at a ?_
 obtain⟨m2,w2l,rfl,h2l,hn2,ho2⟩:=bc hN2
 replace h2l:xz x1 x2 x3=some w2l:=h2l
 unfold xz at h2l
 refine a6 (W_rs (kMv rfl (kMvL rfl (kUn (jf rfl underlying22) ?_))))
 refine kIn rfl rfl rfl ?_
 refine a5 h2l rfl (fun _ h2l=>?_) (fun _ h2l=>?_)
 ·refine au (a6 (az (W_rs (kMvL rfl (kMv rfl ?_)))))
  obtain⟨x6,k,h2l⟩:=ag h2l
  refine kUn (du underlying22 sizeOf9 k) ?_
  refine kUn (bz ty9) ?_
  refine kMv rfl (kSt rfl rfl rfl ?_)
  refine a5 h2l rfl (fun _ h2l=>?_) (fun _ h2l=>?_)
  ·refine W_rs (kAs rfl ?_)
   obtain rfl:=ho2 _ (ojs h2l)
   replace h:some true=some r:=h
   obtain rfl:=osj h
   exact a7 ⟨rfl,aa⟩
  refine au (W_r (kMv rfl (kIn rfl rfl rfl (kAs rfl ?_))))
  exact⟨m2,lsu,w64 (x3+1),hn2 _ (ojs h2l),atOk⟩
 refine dp ?_
 obtain rfl:=ho2 _ (ojs h2l)
 exact⟨h,atOk⟩
theorem afv (x1:List A9) (x2:Bt) (r:A9 × Bool) (h:x0 x1 x2=some r):Fp 131 [ao ab x1,Pr.str x2] (bj [(ab).val r.1,Pb r.2]):=by
 refine c9 (rs:=[.cell 4 49,.tmp 5]) func131 rfl ntmps131 results131 dcd (fun s0=>?_)
 let p1:=A9.mk 0 [] [] [] [] false [] 0 0
 unfold x0 at h
 refine W_rs (bg jb fun b3=>kAs rfl (a6 (W_rs (kAs rfl (az ?_)))))
 obtain⟨z2l,hz2,h⟩:=ag h
 obtain⟨n2,hN2⟩:=bm hz2
 refine cp 0 (fun e C=>afw=some r/\At [(4,Pr.pt b3 0)] [D8 b3 ab p1] e C) ?_ ?_
 ·rintro e C ⟨h,a⟩
  refine W_at a ?_
  unfold afw at h
  refine W_rs (kUn (fk st49 rfl) ?_)
  refine am 0 rfl rfl (Upd.refl _) rfl sizeOf49 (kAs rfl ?_)
  obtain rfl:=osj h
  exact a7 ⟨rfl,[(ab).val p1,Pb false],⟨yBox 0 ty49 aa,yT aa,tv⟩,aa⟩
 refine dq (fun m e C=>∃x4,ez (fun s=>qa x1 x2 s) m x4=some z2l/\At [(0,ao ab x1),(1,Pr.str x2),(4,Pr.pt b3 0),(6,P6 x4)] [D8 b3 ab p1] e C) n2 ⟨0,hN2,⟨⟨aa,aa,aa,aa,tv⟩,A8.refl _⟩⟩ ?_
 rintro m e C ⟨x4,hN2,a⟩
 refine W_at a ?_
 obtain⟨m2,w2l,rfl,h2l,hn2,ho2⟩:=bc hN2
 replace h2l:qa x1 x2 x4=some w2l:=h2l
 unfold qa at h2l
 refine a6 (W_rs (kMv rfl (kMvL rfl (kUn (jf rfl underlying38) ?_))))
 refine kIn rfl rfl rfl ?_
 refine a5 h2l rfl (fun _ h2l=>?_) (fun _ h2l=>?_)
 ·refine au (a6 (az ?_))
  refine ba (fun e C=>∃x10,wh x1 x4 x10=some w2l/\At [(0,ao ab x1),(1,Pr.str x2),(4,Pr.pt b3 0),(6,P6 x4),(27,Pb x10)] [D8 b3 ab p1] e C) ?_ ?_
  ·rintro e C ⟨x10,h2l,a⟩
   refine W_at a ?_
   unfold wh at h2l
   refine a5 h2l rfl (fun _ h2l=>?_) (fun _ h2l=>?_)
   ·refine W_rs (kMvL rfl (kMv rfl ?_))
    obtain⟨x12,k,h2l⟩:=ag h2l
    refine kUn (du underlying38 sizeOf49 k) ?_
    refine kUn (bz ty49) ?_
    refine am 0 rfl rfl (Upd.refl _) rfl sizeOf49 (kAs rfl ?_)
    obtain rfl:=ho2 _ (ojs h2l)
    replace h:some (x12,true)=some r:=h
    obtain rfl:=osj h
    exact a7 ⟨rfl,[(ab).val x12,Pb true],⟨yBox 0 ty49 aa,yT aa,tv⟩,aa⟩
   refine au (W_r (kMv rfl (kIn rfl rfl rfl (kAs rfl ?_))))
   exact⟨m2,lsu,w64 (x4+1),hn2 _ (ojs h2l),atOk⟩
  refine W_r (kMvL rfl (kMv rfl ?_))
  obtain⟨x7,k,h2l⟩:=ag h2l
  refine kUn (du underlying38 sizeOf49 k) ?_
  refine kUn (dv ol db) ?_
  refine kUn (bz ty3) ?_
  refine kIn rfl rfl rfl (kMv rfl ?_)
  rcases bn h2l with⟨hc8,h2l⟩|⟨hc8,h2l⟩
  ·refine kGd rfl aa hc8 (hMvL rfl) (kGd rfl aa hc8 (hMvA rfl) ?_)
   obtain⟨x9,k,h2l⟩:=ag h2l
   refine kGd rfl aa hc8 (du underlying38 sizeOf49 k) ?_
   refine kGd rfl aa hc8 (dv ll dw) ?_
   refine kGd rfl aa hc8 (bz ty9) ?_
   refine kGd rfl aa hc8 (hMvA rfl) (kGd rfl aa hc8 (qStr rfl rfl rfl) (kPt rfl hc8 rfl ?_))
   exact⟨x9.Id==x2,h2l,atOk⟩
  refine skx ?_
  refine kPf rfl hc8 rfl ?_
  exact⟨false,h2l,atOk⟩
 refine dp ?_
 obtain rfl:=ho2 _ (ojs h2l)
 exact⟨h,atOk⟩
theorem ajx (x1:List A9) (x2:Bt) (r:(List Bt)) (h:aan x1 x2=some r):Fp 111 [ao ab x1,Pr.str x2] (ao Rp.str r):=by
 refine c8 (rs:=[4]) func111 rfl ntmps111 ⟨by decide,results111⟩ dcd (fun s0=>?_)
 unfold aan at h
 refine W_rs (kAs rfl (W_rs (kAs rfl (az ?_))))
 obtain⟨n1,hN1⟩:=bm h
 refine agk [5] Rp.str 9 (fun v18=>?_) ⟨rfl,tv⟩
 refine dq (fun m e C=>∃x3,∃x5,∃v4,ez (fun s=>qc x1 s.1 s.2) m (x3,x5)=some r/\At [(0,ao ab x1),(1,Pr.str x3),(5,Pi v4)] [E1 v4 Rp.str x5 9] e C) n1 ⟨x2,[],v18,hN1,⟨⟨aa,aa,aa,tv⟩,A8.refl _⟩⟩ ?_
 rintro m e C ⟨x3,x5,v4,hN1,a⟩
 refine W_at a ?_
 obtain⟨m1,w1l,rfl,h1l,hn1,ho1⟩:=bc hN1
 replace h1l:qc x1 x3 x5=some w1l:=h1l
 unfold qc at h1l
 refine az (W_rs (kMvL rfl (kMv rfl ?_)))
 obtain⟨⟨x9,x10⟩,k,h1l⟩:=ag h1l
 refine kUn (c7 (afv x1 x3 _ k)) ?_
 refine kUn (hMv (out:=bj [(ab).val x9,Pb x10]) rfl) (kUn al ?_)
 refine kUn al ?_
 refine bg jb fun b11=>am 1 rfl rfl (Upd.refl _) rfl sizeOf49 (kAs rfl (W_rs (kMv rfl (kMv rfl ?_))))
 obtain⟨x12,k,h1l⟩:=ag h1l
 refine kUn (axq 0 (aoo x5 x3 _ k) ⟨.inr ⟨aa,rfl⟩,.inl aa,tv⟩ (fun _ _ _ h=>h)) ?_
 refine kAs rfl (a6 ?_)
 refine ba (fun e C=>∃x14,wi x5 x3 x9 x14=some w1l/\At [(0,ao ab x1),(1,Pr.str x3),(5,Pi v4),(6,Pr.pt b11 0),(22,Pb x14)] [E1 v4 Rp.str x5 9,D8 b11 ab x9] e C) ?_ ?_
 ·rintro e C ⟨x14,h1l,a⟩
  refine W_at a ?_
  unfold wi at h1l
  refine a5 h1l rfl (fun _ h1l=>?_) (fun _ h1l=>?_)
  ·refine W_rs (kMv rfl (kAs rfl ?_))
   have h:some x5=some r:=congrArg some (ho1 _ (ojs h1l))
   refine aly 0 [4] ?_ rfl ⟨rfl,tv⟩
   obtain rfl:=osj h
   exact a7 ⟨rfl,aa⟩
  refine au (W_rs (kMv rfl (kMv rfl (kUn (cm (R:=Rp.str) (a:=x3) el22 nb) ?_))))
  obtain⟨x16,k,h1l⟩:=ag h1l
  refine fp 0 el22 k (fun v17=>?_)
  refine kAs rfl (W_r (kUn (aj tj) ?_))
  refine kUn (ap 1 ty9 dm) ?_
  refine kAs rfl ?_
  exact⟨m1,lsu,x9.Type_,x16,v17,hn1 _ (ojs h1l),⟨⟨aa,aa,aa,tv⟩,A8.of [0] rfl⟩⟩
 refine W_r (kMv rfl (kNo rfl (kMv rfl ?_)))
 rcases bn h1l with⟨hc13,h1l⟩|⟨hc13,h1l⟩
 ·refine kSkF rfl aa hc13 (kPt rfl hc13 rfl ?_)
  exact⟨true,h1l,atOk⟩
 refine kGd rfl aa hc13 (hMvA rfl) (kPf rfl hc13 rfl ?_)
 exact⟨x12,h1l,atOk⟩
theorem ap0 (x1:List A9) (x2 x3:Bt) (r:Bool) (h:ad2 x1 x2 x3=some r):Fp 62 [ao ab x1,Pr.str x2,Pr.str x3] (Pb r):=by
 refine c8 (rs:=[6]) func62 rfl ntmps62 ⟨by decide,results62⟩ dcd (fun s0=>?_)
 unfold ad2 at h
 refine W_rs (kAs rfl (W_rs (kMvL rfl (kMv rfl (cr h (ajx x1 x2) rfl fun x4 _ h=>kMv rfl (cr h (aoo x4 x3) rfl fun x5 _ h=>kAs rfl ?_))))))
 obtain rfl:=osj h
 exact a7 ⟨rfl,aa⟩
theorem yu (x1:List A9) (x2:Int) (x3 x4:Bt) (r:A9 × Bool) (h:wa x1 x2 x3 x4=some r):Fp 132 [ao ab x1,P6 x2,Pr.str x3,Pr.str x4] (bj [(ab).val r.1,Pb r.2]):=by
 refine c9 (rs:=[.cell 8 49,.tmp 9]) func132 rfl ntmps132 results132 dcd (fun s0=>?_)
 let p1:=A9.mk 0 [] [] [] [] false [] 0 0
 unfold wa at h
 refine W_rs (bg jb fun b5=>kAs rfl (W_rs (kMvL rfl (kMv rfl (cr h (ajx x1 x3) rfl fun x6 _ h=>kAsL rfl (a6 (W_rs (kAs rfl (az ?_)))))))))
 let p2:=D8 b5 ab p1
 obtain⟨z2l,hz2,h⟩:=ag h
 obtain⟨n2,hN2⟩:=bm hz2
 refine cp 0 (fun e C=>ae7=some r/\At [(8,Pr.pt b5 0)] [p2] e C) ?_ ?_
 ·rintro e C ⟨h,a⟩
  refine W_at a ?_
  unfold ae7 at h
  refine W_rs (kUn (fk st49 rfl) ?_)
  refine am 0 rfl rfl (Upd.refl _) rfl sizeOf49 (kAs rfl ?_)
  obtain rfl:=osj h
  exact a7 ⟨rfl,[(ab).val p1,Pb false],⟨yBox 0 ty49 aa,yT aa,tv⟩,aa⟩
 refine dq (fun m e C=>∃x7,ez (fun s=>ui x6 x1 x2 x4 s) m x7=some z2l/\At [(0,ao ab x1),(1,P6 x2),(3,Pr.str x4),(8,Pr.pt b5 0),(10,ao Rp.str x6),(11,P6 x7)] [p2] e C) n2 ⟨0,hN2,⟨⟨aa,aa,aa,aa,aa,aa,tv⟩,A8.refl _⟩⟩ ?_
 rintro m e C ⟨x7,hN2,a⟩
 refine W_at a ?_
 obtain⟨m2,w2l,rfl,h2l,hn2,ho2⟩:=bc hN2
 replace h2l:ui x6 x1 x2 x4 x7=some w2l:=h2l
 unfold ui at h2l
 refine a6 (W_rs (kMv rfl (kMvL rfl (kUn (jf rfl underlying22) ?_))))
 refine kIn rfl rfl rfl ?_
 refine a5 h2l rfl (fun _ h2l=>?_) (fun _ h2l=>?_)
 ·refine au (a6 (az (W_rs (kAs rfl (az ?_)))))
  obtain⟨z4l,hz4,h2l⟩:=ag h2l
  obtain⟨n4,hN4⟩:=bm hz4
  refine cp 2 (fun e C=>ae6 x7=some w2l/\At [(0,ao ab x1),(1,P6 x2),(3,Pr.str x4),(8,Pr.pt b5 0),(10,ao Rp.str x6),(11,P6 x7)] [p2] e C) ?_ ?_
  ·rintro e C ⟨h2l,a⟩
   refine W_at a ?_
   unfold ae6 at h2l
   refine W_r (kMv rfl (kIn rfl rfl rfl (kAs rfl ?_)))
   exact⟨m2,lsu,w64 (x7+1),hn2 _ (ojs h2l),atOk⟩
  refine dq (fun m e C=>∃x10,ez (fun s=>rl x1 x2 x6 x7 x4 s) m x10=some z4l/\At [(0,ao ab x1),(1,P6 x2),(3,Pr.str x4),(8,Pr.pt b5 0),(10,ao Rp.str x6),(11,P6 x7),(12,P6 x10)] [p2] e C) n4 ⟨0,hN4,⟨⟨aa,aa,aa,aa,aa,aa,aa,tv⟩,A8.refl _⟩⟩ ?_
  rintro m e C ⟨x10,hN4,a⟩
  refine W_at a ?_
  obtain⟨m4,w4l,rfl,h4l,hn4,ho4⟩:=bc hN4
  replace h4l:rl x1 x2 x6 x7 x4 x10=some w4l:=h4l
  unfold rl at h4l
  refine a6 (W_rs (kMv rfl (kMvL rfl (kUn (jf rfl underlying38) ?_))))
  refine kIn rfl rfl rfl ?_
  refine a5 h4l rfl (fun _ h4l=>?_) (fun _ h4l=>?_)
  ·refine au (a6 (az ?_))
   refine ba (fun e C=>∃x21,yv x1 x10 x21=some w4l/\At [(0,ao ab x1),(1,P6 x2),(3,Pr.str x4),(8,Pr.pt b5 0),(10,ao Rp.str x6),(11,P6 x7),(12,P6 x10),(55,Pb x21)] [p2] e C) ?_ ?_
   ·rintro e C ⟨x21,h4l,a⟩
    refine W_at a ?_
    unfold yv at h4l
    refine a5 h4l rfl (fun _ h4l=>?_) (fun _ h4l=>?_)
    ·refine W_rs (kMvL rfl (kMv rfl ?_))
     obtain⟨x23,k,h4l⟩:=ag h4l
     refine kUn (du underlying38 sizeOf49 k) ?_
     refine kUn (bz ty49) ?_
     refine am 0 rfl rfl (Upd.refl _) rfl sizeOf49 (kAs rfl ?_)
     obtain rfl:=ho4 _ (ojs h4l)
     replace h2l:some (.inr (.done (x23,true)))=some w2l:=h2l
     obtain rfl:=ho2 _ (ojs h2l)
     replace h:some (x23,true)=some r:=h
     obtain rfl:=osj h
     exact a7 ⟨rfl,[(ab).val x23,Pb true],⟨yBox 0 ty49 aa,yT aa,tv⟩,aa⟩
    refine au (W_r (kMv rfl (kIn rfl rfl rfl (kAs rfl ?_))))
    exact⟨m4,lsu,w64 (x10+1),hn4 _ (ojs h4l),atOk⟩
   refine jg 28 hmx kr kr ?_
   refine lUn (hMvL rfl) (lUn (hMvA rfl) ?_)
   obtain⟨x13,k,h4l⟩:=ag h4l
   refine lUn (du underlying38 sizeOf49 k) ?_
   refine lUn (dv ol db) ?_
   refine lUn (bz ty3) ?_
   refine lUn (hMvA rfl) (lUn (qInt rfl rfl rfl) (lUn (hMvA rfl) ?_))
   rcases bn h4l with⟨hc14,h4l⟩|⟨hc14,h4l⟩
   ·refine lGd rfl aa hc14 (hMvL rfl) (lGd rfl aa hc14 (hMvA rfl) ?_)
    obtain⟨x15,k,h4l⟩:=ag h4l
    refine lGd rfl aa hc14 (du underlying38 sizeOf49 k) ?_
    refine lGd rfl aa hc14 (dv aid km) ?_
    refine lGd rfl aa hc14 (bz ty9) ?_
    refine lGd rfl aa hc14 (hMvL rfl) (lGd rfl aa hc14 (hMvA rfl) ?_)
    obtain⟨x16,k,h4l⟩:=ag h4l
    refine lGd rfl aa hc14 (du underlying22 sizeOf9 k) ?_
    refine lGd rfl aa hc14 (bz ty9) ?_
    refine lGd rfl aa hc14 (qStr rfl rfl rfl) (lUn (hPt rfl hc14 rfl) (lUn (hMvA rfl) ?_))
    rcases bn h4l with⟨hc17,h4l⟩|⟨hc17,h4l⟩
    ·refine lGd rfl aa hc17 (hMvL rfl) (lGd rfl aa hc17 (hMvA rfl) ?_)
     obtain⟨x18,k,h4l⟩:=ag h4l
     refine lGd rfl aa hc17 (du underlying38 sizeOf49 k) ?_
     refine lGd rfl aa hc17 (dv aaf f0) ?_
     refine lGd rfl aa hc17 (bz ty9) ?_
     refine lGd rfl aa hc17 (hMvA rfl) (lGd rfl aa hc17 (qStr rfl rfl rfl) (lUn (hPt rfl hc17 rfl) ?_))
     exact⟨x18.Name==x4,h4l,atOk⟩
    refine lsx ?_
    refine lUn (hPf rfl hc17 rfl) ?_
    exact⟨false,h4l,atOk⟩
   refine lsx ?_
   refine lUn (hPf rfl hc14 rfl) (lUn (hMvA rfl) ?_)
   have hc19:false=false:=rfl
   refine lsx ?_
   refine lUn (hPf rfl hc19 rfl) ?_
   exact⟨false,h4l,atOk⟩
  refine dp ?_
  obtain rfl:=ho4 _ (ojs h4l)
  exact⟨h2l,atOk⟩
 refine dp ?_
 obtain rfl:=ho2 _ (ojs h2l)
 exact⟨h,atOk⟩
end Go.Proofs.YtcndghapmoaidaaGreatDoor
