/- The code comes to what these functions say (printed by wip/gen/gen.py). -/
import Derived.Test.YtcndghapmoaidaaGreatDoorZX
import Derived.Test.YtcndghapmoaidaaGreatDoorZT
set_option linter.unusedSimpArgs false
set_option linter.unusedVariables false
set_option linter.unusedSectionVars false
set_option linter.unusedSectionVars false
set_option maxRecDepth 100000
set_option maxHeartbeats 4000000
namespace Go.Proofs.YtcndghapmoaidaaGreatDoor
open Go Go.Cn Tryz
attribute [local irreducible] mq ao
theorem aep (x1 x2:Int) (x4:B4) (b3:Nat) (v5:Value) (b6:Nat) (r:B4) (h:ov x1 x2 x4=some r):Fc 158 [Pr.pt b3 0,P6 x1,P6 x2] [D8 b3 bh (D0.mk v5 (.map (some b6)) x4.m),E1 v5 ab x4.l 49,D5 b6 d8 Rp.bool x4.known] (fun q C'=>∃w100,q=bj []/\C'=[D8 b3 bh (D0.mk w100 (.map (some b6)) r.m),E1 w100 ab r.l 49,D5 b6 d8 Rp.bool r.known]):=by
 refine gz (rs:=[]) func158 rfl ntmps158 ⟨by decide,results158⟩ dcd (fun s0=>?_)
 unfold ov at h
 refine W_r (kMv rfl (kMv rfl (kMv rfl (kUn (fk st30 ⟨(B3.mk 150 0 0),⟨_,rfl,rfl,qbj⟩,⟨(B3.mk 150 x1 0),⟨_,rfl,rfl,qbj⟩,⟨(B3.mk 150 x1 x2),⟨_,rfl,rfl,qbj⟩,rfl⟩⟩⟩) ?_))))
 refine kNp rfl (kUn (aj awd) ?_)
 refine am 0 rfl rfl alb rfl sizeOf30 ?_
 refine rCtx [D8 b3 bh (D0.mk v5 (.map (some b6)) (B3.mk 150 x1 x2)),E1 v5 ab x4.l 49,D5 b6 d8 Rp.bool x4.known] ?_
 obtain rfl:=osj h
 exact⟨.inr rfl,_,A8.refl _,_,aa,v5,rfl,rfl⟩
theorem z7 (x1:A9) (x3:B4) (b2:Nat) (v4:Value) (b5:Nat) (r:Bool × B4) (h:nv x1 x3=some r):Fc 120 [Pr.pt b2 0,(ab).val x1] [D8 b2 bh (D0.mk v4 (.map (some b5)) x3.m),E1 v4 ab x3.l 49,D5 b5 d8 Rp.bool x3.known] (fun q C'=>∃w100,q=Pb r.1/\C'=[D8 b2 bh (D0.mk w100 (.map (some b5)) r.2.m),E1 w100 ab r.2.l 49,D5 b5 d8 Rp.bool r.2.known]):=by
 refine gz (rs:=[4]) func120 rfl ntmps120 ⟨by decide,results120⟩ dcd (fun s0=>?_)
 let p1:=D0.mk v4 (.map (some b5)) x3.m
 let p2:=B0.mk x1.Kind x1.Owner x1.Name
 let p3:=D5 b5 d8 Rp.bool (gset p2 true x3.known)
 unfold nv at h
 refine W_rs ?_
 refine rBox (R:=ab) (a:=x1) rfl (fun b6=>?_)
 let p4:=D8 b6 ab x1
 refine kAs rfl (W_rs (kUn (aj ol) ?_))
 refine kUn (ap 3 ty3 db) ?_
 refine kUn (aj aid) ?_
 refine kUn (ap 3 ty9 km) ?_
 refine kUn (aj aaf) ?_
 refine kUn (ap 3 ty9 f0) ?_
 refine kUn (fk st187 ⟨(B0.mk x1.Kind [] []),⟨_,rfl,rfl,qbj⟩,⟨(B0.mk x1.Kind x1.Owner []),⟨_,rfl,rfl,qbj⟩,⟨p2,⟨_,rfl,rfl,qbj⟩,rfl⟩⟩⟩) ?_
 refine bg al187 fun b7=>am 4 rfl rfl (Upd.refl _) rfl sizeOf187 (a6 ?_)
 let p5:=D8 b7 d8 p2
 refine ba (fun e C=>tx x1 x3=some r/\At [(0,Pr.pt b2 0),(3,Pr.pt b6 0),(5,Pr.pt b7 0),(18,Pb (gget p2 false x3.known))] [D8 b2 bh p1,E1 v4 ab x3.l 49,D5 b5 d8 Rp.bool x3.known,p4,p5] e C) ?_ ?_
 ·rintro e C ⟨h,a⟩
  refine W_at a ?_
  unfold tx at h
  refine a5 h rfl (fun _ h=>?_) (fun _ h=>?_)
  ·refine W_rs (kMv rfl (kUn (aj amb) ?_))
   refine kUn (ap 3 ty3 vl) ?_
   refine kUn (aj arv) ?_
   refine kUn (ap 3 ty3 zn) ?_
   obtain⟨x9,k,h⟩:=ag h
   refine gu [0,1,2] (aep x1.File x1.At x3 b2 v4 b5 _ k) (fun q C' hq=>?_)
   obtain⟨v10,rfl,rfl⟩:=hq
   refine rCtx [D8 b2 bh (D0.mk v10 (.map (some b5)) x9.m),E1 v10 ab x9.l 49,D5 b5 d8 Rp.bool x9.known,p4,p5] ?_
   refine W_rs (kAs rfl ?_)
   obtain rfl:=osj h
   exact a7 ⟨.inl rfl,_,A8.of [0,1,2] rfl,_,(aa),v10,rfl,rfl⟩
  refine au ?_
  refine ba (fun e C=>tz x3 x1=some r/\At [(0,Pr.pt b2 0),(3,Pr.pt b6 0)] [D8 b2 bh p1,E1 v4 ab x3.l 49,p3,p4,p5] e C) ?_ ?_
  ·rintro e C ⟨h,a⟩
   refine W_at a ?_
   unfold tz at h
   refine ba (fun e C=>∃x11,∃v12,t6 x1 x3 x11=some r/\At [(0,Pr.pt b2 0)] [D8 b2 bh (D0.mk v12 (.map (some b5)) x3.m),E1 v12 ab x11 49,p3,p4,p5] e C) ?_ ?_
   ·rintro e C ⟨x11,v12,h,a⟩
    refine W_at a ?_
    unfold t6 at h
    refine W_rs (kAs rfl ?_)
    obtain rfl:=osj h
    exact a7 ⟨.inl rfl,_,A8.of [0,1,2] rfl,_,(aa),v12,rfl,rfl⟩
   obtain⟨x11,k,h⟩:=ag h
   refine aah [0,0,2,6,14,0,32,126,255,511,1023] [[],[],[],[],[D8 b2 bh p1],[p4],[],[],[],[],[]] hmx kr kr kr rfl ?_
   refine aq0 0 1 (out:=Pr.pt b2 0) rfl (fun C9=>fr) ?_
   refine aq0 1 3 (out:=Pr.pt b2 0) rfl (fun C9=>fr) ?_
   refine aq0 2 7 (out:=Pr.pt b2 0) rfl (fun C9=>ah2) ?_
   refine aq0 3 15 (out:=Pr.pt b2 0) rfl (fun C9=>(aj ako)) ?_
   refine aq1 4 31 0 (out:=Pi v4) rfl rfl (fun C9 i9 h9=>(w8 (R:=bh) (a:=p1) i9 ty38 z5 (hi:=h9))) ?_
   refine aq1 5 63 3 (out:=(ab).val x1) rfl rfl (fun C9 i9 h9=>(ap (R:=ab) (a:=x1) (R':=ab) i9 ty49 (Sub.refl _) (hi:=h9))) ?_
   refine aq0 6 127 (out:=ao ab ([x1]:List A9)) rfl (fun C9=>(cm (R:=ab) (a:=x1) el38 nb)) ?_
   refine ae 7 255 rfl (fun g9=>?_)
   refine fp 1 el38 k (fun v12=>?_)
   refine f6 _ [] cd ?_
   refine aq0 8 511 (out:=Pr.pt b2 0) rfl (fun C9=>ah2) ?_
   refine aq0 9 1023 (out:=Pr.pt b2 0) rfl (fun C9=>(aj ako)) ?_
   refine ae 10 2047 rfl (fun g9=>?_)
   refine agq (R:=bh) (a:=p1) 0 1 sizeOf38 afg ?_
   refine rCtx [D8 b2 bh (D0.mk v12 (.map (some b5)) x3.m),E1 v12 ab x11 49,p3,p4,p5] ?_
   refine f6 .any [] cd ?_
   refine yj ?_
   exact⟨x11,v12,h,atOk⟩
  refine jg 5 hmx kr kr ?_
  refine lUn (hMvA rfl) (lUn (ah2 rfl) (lUn (aj awe) ?_))
  refine lUn (w8 (R:=bh) (a:=p1) 0 ty116 aac) ?_
  refine lUn (ap 4 ty187 (Sub.refl _)) ?_
  refine azu (Rk:=d8) (R:=Rp.bool) (m:=x3.known) (kx:=p2) (v:=true) 2 aor underlying116 ?_
  exact⟨h,atOk⟩
 refine jg 6 hmx kr kr ?_
 refine lUn (hMvA rfl) (lUn (ah2 rfl) (lUn (aj awe) ?_))
 refine lUn (w8 (R:=bh) (a:=p1) 0 ty116 aac) ?_
 refine lUn (ap 4 ty187 (Sub.refl _)) ?_
 refine lUn (azv (Rk:=d8) (R:=Rp.bool) (m:=x3.known) (kx:=p2) (z:=false) 2 aor underlying116 zeroValue4 (fun _=>rfl)) ?_
 exact⟨h,atOk⟩
theorem agb (x1:Bt) (r:Bt) (h:ug x1=some r):Fp 121 [Pr.str x1] (Pr.str r):=by
 refine c8 (rs:=[2]) func121 rfl ntmps121 ⟨by decide,results121⟩ dcd (fun s0=>?_)
 unfold ug at h
 refine W_rs (kAs rfl (W_rs (kMv rfl (kAs rfl ?_))))
 obtain rfl:=osj h
 exact a7 ⟨rfl,aa⟩
theorem af9 (x1 x2:Bt) (r:Bt) (h:yc x1 x2=some r):Fp 122 [Pr.str x1,Pr.str x2] (Pr.str r):=by
 refine c8 (rs:=[4]) func122 rfl ntmps122 ⟨by decide,results122⟩ dcd (fun s0=>?_)
 unfold yc at h
 refine W_rs (kAs rfl (W_rs (kMv rfl ?_)))
 obtain⟨x3,k,h⟩:=ag h
 refine kUn (alv k) ?_
 refine kMv rfl ?_
 obtain⟨x4,k,h⟩:=ag h
 refine kUn (alv k) ?_
 refine kAs rfl ?_
 obtain rfl:=osj h
 exact a7 ⟨rfl,aa⟩
theorem ael (x1 x2:Bt) (r:Bt) (h:uq x1 x2=some r):Fp 76 [Pr.str x1,Pr.str x2] (Pr.str r):=by
 refine c8 (rs:=[4]) func76 rfl ntmps76 ⟨by decide,results76⟩ dcd (fun s0=>?_)
 unfold uq at h
 refine W_rs (kAs rfl (W_rs (kMv rfl (kMv rfl (cr h (af9 x1 x2) rfl fun x3 _ h=>?_)))))
 obtain⟨x4,k,h⟩:=ag h
 refine kUn (alv k) ?_
 refine kAs rfl ?_
 obtain rfl:=osj h
 exact a7 ⟨rfl,aa⟩
theorem ag9 (x1:Int) (r:Bt) (h:pk x1=some r):Fp 163 [P6 x1] (Pr.str r):=by
 refine c8 (rs:=[2]) func163 rfl ntmps163 ⟨by decide,results163⟩ dcd (fun s0=>?_)
 unfold pk at h
 refine W_rs (kAs rfl (W_rs (kMv rfl (cr h (acr x1 10) rfl fun x2 _ h=>kAs rfl ?_))))
 obtain rfl:=osj h
 exact a7 ⟨rfl,aa⟩
theorem ao2 (x1:Int) (r:Bt) (h:aez x1=some r):Fp 128 [P6 x1] (Pr.str r):=by
 refine c8 (rs:=[2]) func128 rfl ntmps128 ⟨by decide,results128⟩ dcd (fun s0=>?_)
 unfold aez at h
 refine W_rs (kAs rfl (W_rs (kMv rfl (cr h (ag9 x1) rfl fun x2 _ h=>kAs rfl ?_))))
 obtain rfl:=osj h
 exact a7 ⟨rfl,aa⟩
theorem af8 (x1:Bt) (x2:Int) (r:Bt) (h:uf x1 x2=some r):Fp 75 [Pr.str x1,P6 x2] (Pr.str r):=by
 refine c8 (rs:=[4]) func75 rfl ntmps75 ⟨by decide,results75⟩ dcd (fun s0=>?_)
 unfold uf at h
 refine W_rs (kAs rfl (W_rs (kMv rfl ?_)))
 obtain⟨x3,k,h⟩:=ag h
 refine kUn (alv k) ?_
 refine kMv rfl (kUn (qMax (a:=x2) (b:=0)) ?_)
 refine cr h (ao2 (if 0>x2 then 0 else x2)) rfl fun x4 _ h=>?_
 obtain⟨x5,k,h⟩:=ag h
 refine kUn (alv k) ?_
 refine kAs rfl ?_
 obtain rfl:=osj h
 exact a7 ⟨rfl,aa⟩
theorem ahs (x1:B5) (x3:List A9) (x6:A9) (b2:Nat) (v4:Value) (b5:Nat) (v7:Value) (r:(List A9) × A9) (h:mr x1 x3 x6=some r):Fc 159 [(af).val x1,Pr.pt b2 0,Pr.pt b5 0] [A4.cell b2 (Pi v4),E1 v4 ab x3 49,D8 b5 bo (D1.mk x6.Kind x6.Id x6.Name x6.Owner x6.Type_ x6.Static v7 x6.File x6.At),E1 v7 Rp.str x6.Params 9] (fun q C'=>∃w0 w201,q=bj []/\C'=[A4.cell b2 (Pi w0),E1 w0 ab r.1 49,D8 b5 bo (D1.mk r.2.Kind r.2.Id r.2.Name r.2.Owner r.2.Type_ r.2.Static w201 r.2.File r.2.At),E1 w201 Rp.str r.2.Params 9]):=by
 refine gz (rs:=[]) func159 rfl ntmps159 ⟨by decide,results159⟩ dcd (fun s0=>?_)
 unfold mr at h
 refine W_rs ?_
 refine rBox (R:=af) (a:=x1) rfl (fun b8=>?_)
 refine jg 18 hmx kr kr ?_
 refine lUn (avy 0 Tryz.isAgg38) ?_
 refine lUn (aj ll) ?_
 refine lUn (ap 2 ty9 tn) ?_
 refine lUn (avy 0 Tryz.isAgg38) ?_
 refine lUn (awk 1 rfl underlying38) ?_
 obtain⟨x9,k,h⟩:=ag h
 let p1:=A9.mk 4 x9 x1.Text x6.Id x1.Type_ false [] x6.File x1.At
 refine lUn (c7 (af8 x6.Id (x3.length:Int) _ k)) ?_
 refine lUn (aj ec) ?_
 refine lUn (ap 4 ty9 bb) ?_
 refine lUn (aj ll) ?_
 refine lUn (ap 2 ty9 tn) ?_
 refine lUn (aj ti) ?_
 refine lUn (ap 4 ty9 fj) ?_
 refine lUn (aj amb) ?_
 refine lUn (ap 2 ty3 acu) ?_
 refine lUn (aj mi) ?_
 refine lUn (ap 4 ty3 fe) ?_
 refine lUn (fk st49 ⟨(A9.mk 4 [] [] [] [] false [] 0 0),⟨_,rfl,rfl,qbj⟩,⟨(A9.mk 4 x9 [] [] [] false [] 0 0),⟨_,rfl,rfl,qbj⟩,⟨(A9.mk 4 x9 x1.Text [] [] false [] 0 0),⟨_,rfl,rfl,qbj⟩,⟨(A9.mk 4 x9 x1.Text x6.Id [] false [] 0 0),⟨_,rfl,rfl,qbj⟩,⟨(A9.mk 4 x9 x1.Text x6.Id x1.Type_ false [] 0 0),⟨_,rfl,rfl,qbj⟩,⟨(A9.mk 4 x9 x1.Text x6.Id x1.Type_ false [] x6.File 0),⟨_,rfl,rfl,qbj⟩,⟨p1,⟨_,rfl,rfl,qbj⟩,rfl⟩⟩⟩⟩⟩⟩⟩) ?_
 refine lUn (cm (R:=ab) (a:=p1) el38 nb) ?_
 obtain⟨x10,k,h⟩:=ag h
 refine fp 1 el38 k (fun v11=>?_)
 refine ark 0 1 sizeOf38 ?_
 obtain rfl:=osj h
 exact⟨.inr rfl,_,A8.of [0,1,2,3] rfl,_,aa,v11,v7,rfl,rfl⟩
def afl {σ:Type} (yld:σ->B5->Option (Bool × σ)) (Y:YI σ) (l:Nat) (R:kj σ):Prop:=∀(x1:B5) (x2:σ) (v3:List Nat) (r:Bool × (σ)),R x1 x2=some r->Fc 184 [(af).val x1,aev l] [E0 Y x2 v3] (fun q C'=>∃w9,q=Pb r.1/\C'=[E0 Y r.2 w9])
theorem ank {σ:Type} (yld:σ->B5->Option (Bool × σ)) (Y:YI σ) (l:Nat) (hY:YOK Tryz.prog Y l (fun a=>[(af).val a]) yld) (R:kj σ) (ih:afl yld Y l R) (x1:B5) (x2:σ) (v3:List Nat) (r:Bool × (σ)) (h:aeg yld R x1 x2=some r):Fc 184 [(af).val x1,aev l] [E0 Y x2 v3] (fun q C'=>∃w9,q=Pb r.1/\C'=[E0 Y r.2 w9]):=by
 refine gz (rs:=[4]) func184 rfl ntmps184 ⟨by decide,results184⟩ dcd (fun s0=>?_)
 unfold aeg at h
 refine W_rs ?_
 refine rBox (R:=af) (a:=x1) rfl (fun b4=>?_)
 refine kAs rfl (a6 (W_rs (kUn (hMv (out:=aev l) rfl) (kUn (ap 1 ty64 (Sub.refl _)) ?_))))
 obtain⟨⟨x5,x6⟩,k,h⟩:=ag h
 refine axp 0 (a:=(x1)) hY k (fun v7=>?_)
 refine kNo rfl ?_
 refine a5 h rfl (fun _ h=>?_) (fun _ h=>?_)
 ·refine W_rs (kAs rfl ?_)
  obtain rfl:=osj h
  exact a7 ⟨.inl rfl,_,A8.of [0] rfl,_,(aa),v7,rfl,rfl⟩
 refine au (a6 (W_rs (kUn (aj kw) ?_)))
 refine kUn (ap 1 ty53 cn) ?_
 refine kUn (jf rfl underlying53) ?_
 refine kMv rfl (az ?_)
 obtain⟨z2l,hz2,h⟩:=ag h
 obtain⟨n2,hN2⟩:=bm hz2
 refine cp 0 (fun e C=>∃x10,∃v11,ais yld R x10=some r/\At [] [E0 Y x10 v11,D8 b4 af x1] e C) ?_ ?_
 ·rintro e C ⟨x10,v11,h,a⟩
  refine W_at a ?_
  unfold ais at h
  refine W_rs (kAs rfl ?_)
  obtain rfl:=osj h
  exact a7 ⟨.inl rfl,_,A8.of [0] rfl,_,(aa),v11,rfl,rfl⟩
 refine dq (fun m e C=>∃x9,∃x10,∃v11,ez (fun s=>rp yld R x1 s.1 s.2) m (x9,x10)=some z2l/\At [(1,aev l),(12,ao af x1.Kids),(13,P6 (x1.Kids.length:Int)),(14,P6 x9)] [E0 Y x10 v11,D8 b4 af x1] e C) n2 ⟨0,x6,v7,hN2,⟨⟨aa,aa,aa,aa,tv⟩,A8.refl _⟩⟩ ?_
 rintro m e C ⟨x9,x10,v11,hN2,a⟩
 refine W_at a ?_
 obtain⟨m2,w2l,rfl,h2l,hn2,ho2⟩:=bc hN2
 replace h2l:rp yld R x1 x9 x10=some w2l:=h2l
 unfold rp at h2l
 refine W_rs (kIn rfl rfl rfl (a6 ?_))
 refine a5 h2l rfl (fun _ h2l=>?_) (fun _ h2l=>?_)
 ·refine au (a6 (az (W_rs ?_)))
  obtain⟨x16,k,h2l⟩:=ag h2l
  refine kUn (du underlying53 sizeOf64 k) ?_
  refine kUn (bz ty64) ?_
  refine bg al64 fun b17=>am 2 rfl rfl (Upd.refl _) rfl sizeOf64 (W_rs (kUn (ap 2 ty64 (Sub.refl _)) ?_))
  refine kUn (hMv (out:=aev l) rfl) ?_
  obtain⟨⟨x18,x19⟩,k,h2l⟩:=ag h2l
  refine gu [0] (ih x16 x10 v11 _ k) (fun q C' hq=>?_)
  obtain⟨v20,rfl,rfl⟩:=hq
  refine kNo rfl ?_
  refine a5 h2l rfl (fun _ h2l=>?_) (fun _ h2l=>?_)
  ·refine W_rs (kAs rfl ?_)
   obtain rfl:=ho2 _ (ojs h2l)
   replace h:some (false,x19)=some r:=h
   obtain rfl:=osj h
   exact a7 ⟨.inl rfl,_,A8.of [0] rfl,_,(aa),v20,rfl,rfl⟩
  refine au (W_r (kIn rfl rfl rfl (kMv rfl ?_)))
  exact⟨m2,lsu,w64 (x9+1),x19,v20,hn2 _ (ojs h2l),⟨⟨aa,aa,aa,aa,tv⟩,A8.of [0,1] rfl⟩⟩
 refine dp ?_
 obtain rfl:=ho2 _ (ojs h2l)
 exact⟨x10,v11,h,atOk⟩
theorem ani {σ:Type} (yld:σ->B5->Option (Bool × σ)) (Y:YI σ) (l:Nat) (hY:YOK Tryz.prog Y l (fun a=>[(af).val a]) yld):∀n,afl yld Y l (mn yld n):=by
 intro n
 induction n with
 |zero=>exact(fun x1 x2 v3 r h=>nomatch (show none=some r from h))
 |succ n ih=>exact(fun x1 x2 v3 r h=>ank yld Y l hY (mn yld n) ih x1 x2 v3 r h)
theorem at8 {σ:Type} (yld:σ->B5->Option (Bool × σ)) (Y:YI σ) (l:Nat) (hY:YOK Tryz.prog Y l (fun a=>[(af).val a]) yld) (x1:B5) (x2:σ) (v3:List Nat) (r:Bool × (σ)) (h:aoi yld x1 x2=some r):Fc 184 [(af).val x1,aev l] [E0 Y x2 v3] (fun q C'=>∃w9,q=Pb r.1/\C'=[E0 Y r.2 w9]):=ani yld Y l hY 1048576 x1 x2 v3 r h
theorem aph {σ:Type} (yld:σ->B5->Option (Bool × σ)) (Y:YI σ) (l:Nat) (hY:YOK Tryz.prog Y l (fun a=>[(af).val a]) yld) (x2:B5) (x3:σ) (b1:Nat) (v4:List Nat) (r:B5 × (σ)) (h:afc yld x2 x3=some r):Fc 183 ([]++[aev l]++[Pr.pt b1 0]) ([D8 b1 af x2]++[E0 Y x3 v4]) (fun _ C'=>∃w9,C'=[D8 b1 af r.1]++[E0 Y r.2 w9]):=by
 refine gz (rs:=[]) func183 rfl ntmps183 ⟨by decide,results183⟩ dcd (fun s0=>?_)
 unfold afc at h
 refine W_r (kUn (ap 0 ty64 (Sub.refl _)) ?_)
 refine kUn (hMv (out:=aev l) rfl) ?_
 obtain⟨⟨x5,x6⟩,k,h⟩:=ag h
 refine gu [1] (at8 yld Y l hY x2 x3 v4 _ k) (fun q C' hq=>?_)
 obtain⟨v7,rfl,rfl⟩:=hq
 obtain rfl:=osj h
 exact⟨.inr rfl,_,A8.of [1,0] rfl,_,aa,v7,rfl⟩
theorem asw (x1:B5):Fc 175 [(af).val x1] [] (fun q C'=>∃b2,q=tk 183 [] [Pr.pt b2 0]/\C'=[D8 b2 af x1]):=by
 refine gz (rs:=[2]) func175 rfl ntmps175 ⟨by decide,results175⟩ dcd (fun s0=>?_)
 refine W_rs ?_
 refine rBox (R:=af) (a:=x1) rfl (fun b2=>?_)
 refine kAs rfl (W_rs (kUn ud ?_))
 refine kUn (hAs (out:=tk 183 [] [Pr.pt b2 0]) rfl) ?_
 exact a7 ⟨.inl rfl,_,A8.refl _,_,aa,b2,rfl,rfl⟩
theorem avo (x1:B5) (x2:Int) (r:(List B5)) (h:akm x1 x2=some r):Fp 160 [(af).val x1,P6 x2] (ao af r):=by
 refine c8 (rs:=[4]) func160 rfl ntmps160 ⟨by decide,results160⟩ dcd (fun s0=>?_)
 unfold akm at h
 refine W_rs ?_
 refine rBox (R:=af) (a:=x1) rfl (fun b3=>?_)
 refine rBox (R:=Rp.int .i64) (a:=x2) rfl (fun b4=>?_)
 refine kAs rfl (W_rs ?_)
 refine ax4 zeroValue53 rfl rfl (fun b5=>?_)
 refine azl ?_
 refine W_r (kUn (ap 0 ty64 (Sub.refl _)) ?_)
 refine gu [] (asw x1) (fun q C' hq=>?_)
 obtain⟨b6,rfl,rfl⟩:=hq
 refine⟨rfl,?_⟩
 obtain⟨⟨x496,x497⟩,k,h⟩:=ag h
 refine WR_vec af 64 ?_
 refine W_range [0] (fun(s:(List B5)) C=>∃v8,C=[D8 b3 af x1,D8 b4 (Rp.int .i64) x2,A4.cell b5 (Pi v8),E1 v8 af s 64]) (encs:=(fun(a:B5)=>[(af).val a])) (yld:=(fun(s:(List B5)) (a:B5)=>ad8 x2 s a)) (st0:=[]) (stF:=x497) (Ccap':=[D8 b6 af x496]) (fun l Y L hY=>aph _ Y l hY x1 [] b6 L _ k) ⟨(.slice none 0 0),rfl⟩ (fun _=>rfl) ?_ ?_ (fun _ _ _ h=>h.1)
 ·rintro l x9 x7 ⟨rb1,rs1⟩ C T s0 ⟨v8,rfl⟩ hy1
  replace hy1:ad8 x2 x9 x7=some (rb1,rs1):=hy1
  unfold ad8 at hy1
  refine W_r (bg al64 fun b12=>am 4 rfl rfl (Upd.refl _) rfl sizeOf64 ?_)
  refine⟨rfl,fun T s0=>?_⟩
  refine aob ?_
  refine az ?_
  refine ba (fun e C=>∃x14,ad9 x9 x7 x14=some (rb1,rs1)/\At [(5,Pr.pt b5 0),(6,Pr.pt b12 0),(17,Pb x14)] [D8 b3 af x1,D8 b4 (Rp.int .i64) x2,A4.cell b5 (Pi v8),E1 v8 af x9 64,D8 b12 af x7] e C) ?_ ?_
  ·rintro e C ⟨x14,hy1,a⟩
   refine W_at a ?_
   unfold ad9 at hy1
   refine a5 hy1 rfl (fun _ hy1=>?_) (fun _ hy1=>?_)
   ·obtain⟨x256,hx256,hy1⟩:=ag hy1
    obtain⟨x316,k,hy1⟩:=ag hy1
    refine aah [0,0,1,0,15,31,63,31] [[A4.cell b5 (Pi v8)],[D8 b12 af x7],[E1 v8 af x9 64],[],[],[],[],[]] hmx kr kr kr rfl ?_
    refine aq1 0 1 2 (out:=Pi v8) rfl rfl (fun C9 i9 h9=>(avy i9 Tryz.isAgg53 (hi:=h9))) ?_
    refine aq1 1 3 4 (out:=(af).val x7) rfl rfl (fun C9 i9 h9=>(ap (R:=af) (a:=x7) (R':=af) i9 ty64 (Sub.refl _) (hi:=h9))) ?_
    refine aq1 2 7 3 (out:=P6 (x9.length:Int)) rfl rfl (fun C9 i9 h9=>(awk i9 rfl underlying53 (hi:=h9))) ?_
    refine aq0 3 15 (out:=ao af ([(B5.mk 0 [] [] 0 0 0 0 0 [])]:List B5)) rfl (fun C9=>((azx (R:=af) (z:=(B5.mk 0 [] [] 0 0 0 0 0 [])) el53 nb rfl rfl dcd (fun _=>(by rw[bi];exact⟨_,⟨_,_,rfl,rfl,⟨_,_,rfl,rfl,⟨_,_,rfl,rfl,⟨_,_,rfl,rfl,⟨_,_,rfl,rfl,⟨_,_,rfl,rfl,⟨_,_,rfl,rfl,⟨_,_,rfl,rfl,⟨_,_,rfl,⟨_,rfl,none,0,rfl,⟨Nat.le_refl _,fun _=>rfl⟩,.inl rfl⟩,rfl⟩⟩⟩⟩⟩⟩⟩⟩⟩,rfl⟩))).out_le vx_lst)) ?_
    refine ae 4 31 rfl (fun g9=>?_)
    refine fp 3 el53 hx256 (fun v257=>?_)
    refine f6 _ [] cd ?_
    refine awm [5,7] ⟨?_,?_,tv⟩
    ·skip
     refine ae1 5 63 rfl (fun g9=>?_)
     refine kUn (vq 3 (R:=af) (l:=x256) underlying53 sizeOf64 k) ?_
     refine f6 _ [] cd ?_
     refine awm [6,7] ⟨?_,?_,tv⟩
     ·refine ae1 6 127 rfl (fun g9=>?_)
      refine adu (R:=af) (R':=af) (l:=x256) (a:=x316) (y:=x7) (o:=0) 3 sizeOf64 (Upd.refl _) k rfl ?_
      refine f6 .any [] cd ?_
      refine ae 7 255 rfl (fun g9=>?_)
      refine ark 2 3 sizeOf53 ?_
      refine f6 .any [] cd ?_
      refine yj ?_
      obtain⟨rfl,rfl⟩:=Prod.mk.inj (Option.some.inj hy1)
      exact⟨_,A8.of [0,1,2,3] rfl,rfl,rfl,v257,rfl⟩
     refine ae1 7 191 rfl (fun g9=>?_)
     refine ark 2 3 sizeOf53 ?_
     refine f6 .any [] cd ?_
     refine ae 6 255 rfl (fun g9=>?_)
     refine adu (R:=af) (R':=af) (l:=x256) (a:=x316) (y:=x7) (o:=0) 3 sizeOf64 (Upd.refl _) k rfl ?_
     refine f6 .any [] cd ?_
     refine yj ?_
     obtain⟨rfl,rfl⟩:=Prod.mk.inj (Option.some.inj hy1)
     exact⟨_,A8.of [0,1,2,3] rfl,rfl,rfl,v257,rfl⟩
    refine ae1 7 159 rfl (fun g9=>?_)
    refine ark 2 3 sizeOf53 ?_
    refine f6 .any [] cd ?_
    refine ae 5 191 rfl (fun g9=>?_)
    refine kUn (vq 3 (R:=af) (l:=x256) underlying53 sizeOf64 k) ?_
    refine f6 _ [] cd ?_
    refine ae 6 255 rfl (fun g9=>?_)
    refine adu (R:=af) (R':=af) (l:=x256) (a:=x316) (y:=x7) (o:=0) 3 sizeOf64 (Upd.refl _) k rfl ?_
    refine f6 .any [] cd ?_
    refine yj ?_
    obtain⟨rfl,rfl⟩:=Prod.mk.inj (Option.some.inj hy1)
    exact⟨_,A8.of [0,1,2,3] rfl,rfl,rfl,v257,rfl⟩
   refine au ?_
   obtain⟨rfl,rfl⟩:=Prod.mk.inj (Option.some.inj hy1)
   exact⟨_,A8.of [0,1,2,3] rfl,rfl,rfl,v8,rfl⟩
  refine W_r (kUn (ap 1 ty3 (Sub.refl _)) ?_)
  refine kIn rfl rfl rfl (kMv rfl ?_)
  rcases bn hy1 with⟨hc13,hy1⟩|⟨hc13,hy1⟩
  ·refine skx ?_
   refine kPt rfl hc13 rfl ?_
   exact⟨true,hy1,atOk⟩
  refine kGd rfl aa hc13 (aj e8) ?_
  refine kGd rfl aa hc13 (ap 4 ty3 a8) ?_
  refine kGd rfl aa hc13 (ap 1 ty3 (Sub.refl _)) ?_
  refine kGd rfl aa hc13 (qInt rfl rfl rfl) (kPf rfl hc13 rfl ?_)
  exact⟨x7.Kind==x2,hy1,atOk⟩
 rintro D C' T s0 ⟨v8,rfl⟩
 refine W_rs (kUn (avy 3 Tryz.isAgg53) ?_)
 refine kAs rfl ?_
 refine aly 4 [4] ?_ rfl ⟨rfl,tv⟩
 obtain rfl:=osj h
 exact a7 ⟨rfl,aa⟩
def acx (R:f4):Prop:=(∀(x1:B5) (x3:SMap Bool) (b2:Nat) (r:B5 × Bool),R x1 x3=some r->Fc 161 [(af).val x1,qt b2] [D7 b2 Rp.bool x3] (fun q C'=>q=bj [(af).val r.1,Pb r.2]/\C'=[D7 b2 Rp.bool x3]))
theorem alt (R:f4) (ih:acx R) (x1:B5) (x3:SMap Bool) (b2:Nat) (r:B5 × Bool) (h:zm R x1 x3=some r):Fc 161 [(af).val x1,qt b2] [D7 b2 Rp.bool x3] (fun q C'=>q=bj [(af).val r.1,Pb r.2]/\C'=[D7 b2 Rp.bool x3]):=by
 refine aaj (rs:=[.cell 4 64,.tmp 5]) func161 rfl ntmps161 results161 dcd (fun s0=>?_)
 let p1:=B5.mk 0 [] [] 0 0 0 0 0 []
 let p2:=D7 b2 Rp.bool x3
 unfold zm at h
 refine W_rs ?_
 refine rBox (R:=af) (a:=x1) rfl (fun b4=>?_)
 let p3:=D8 b4 af x1
 refine bg al64 fun b5=>kAs rfl (W_rs (kUn (hMv (out:=qt b2) rfl) ?_))
 let p4:=D8 b5 af p1
 obtain⟨x6,k,h⟩:=ag h
 refine gu [0] (asx x3 b2 _ k) (fun q C' hq=>?_)
 obtain⟨b7,rfl,rfl⟩:=hq
 refine kUn (hAs (out:=qt b7) rfl) (a6 (W_rs (kUn (aj kw) ?_)))
 refine kUn (ap 2 ty53 cn) ?_
 refine kUn (jf rfl underlying53) ?_
 refine kMv rfl (az ?_)
 obtain⟨z2l,hz2,h⟩:=ag h
 obtain⟨n2,hN2⟩:=bm hz2
 refine cp 0 (fun e C=>∃x9,af6 R x9=some r/\At [(1,qt b2),(4,Pr.pt b5 0)] [D7 b7 Rp.bool x9,p2,p3,p4] e C) ?_ ?_
 ·rintro e C ⟨x9,h,a⟩
  refine W_at a ?_
  unfold af6 at h
  refine W_rs (kUn (fg bi st64 rfl) ?_)
  refine am 3 rfl rfl (Upd.refl _) rfl sizeOf64 (kAs rfl ?_)
  obtain rfl:=osj h
  exact a7 ⟨.inl rfl,[(af).val p1,Pb false],⟨yBox 3 ty64 aa,yT aa,tv⟩,_,A8.of [1] rfl,rfl,rfl⟩
 refine dq (fun m e C=>∃x8,∃x9,ez (fun s=>nj R x1 s.1 s.2) m (x8,x9)=some z2l/\At [(1,qt b2),(4,Pr.pt b5 0),(6,qt b7),(15,ao af x1.Kids),(16,P6 (x1.Kids.length:Int)),(17,P6 x8)] [D7 b7 Rp.bool x9,p2,p3,p4] e C) n2 ⟨0,x6,hN2,⟨⟨aa,aa,aa,aa,aa,aa,tv⟩,A8.refl _⟩⟩ ?_
 rintro m e C ⟨x8,x9,hN2,a⟩
 refine W_at a ?_
 obtain⟨m2,w2l,rfl,h2l,hn2,ho2⟩:=bc hN2
 replace h2l:nj R x1 x8 x9=some w2l:=h2l
 unfold nj at h2l
 refine W_rs (kIn rfl rfl rfl (a6 ?_))
 refine a5 h2l rfl (fun _ h2l=>?_) (fun _ h2l=>?_)
 ·refine au ?_
  refine ba (fun e C=>∃x25,∃x13,∃x20,∃b14,∃b22,w6 R x8 x25 x13 x20=some w2l/\At [(1,qt b2),(4,Pr.pt b5 0),(6,qt b7),(15,ao af x1.Kids),(16,P6 (x1.Kids.length:Int)),(17,P6 x8)] [D7 b7 Rp.bool x25,p2,p3,p4,D8 b14 af x13,D8 b22 af x20] e C) ?_ ?_
  ·rintro e C ⟨x25,x13,x20,b14,b22,h2l,a⟩
   refine W_at a ?_
   unfold w6 at h2l
   refine W_r (kIn rfl rfl rfl (kMv rfl ?_))
   exact⟨m2,lsu,w64 (x8+1),x25,hn2 _ (ojs h2l),⟨⟨aa,aa,aa,aa,aa,aa,tv⟩,A8.of [0,1,2,3] rfl⟩⟩
  refine az (W_rs ?_)
  obtain⟨x13,k,h2l⟩:=ag h2l
  refine kUn (du underlying53 sizeOf64 k) ?_
  refine kUn (bz ty64) ?_
  refine bg al64 fun b14=>am 4 rfl rfl (Upd.refl _) rfl sizeOf64 ?_
  refine ba (fun e C=>∃x16,tg R x13 x9 x8 x16=some w2l/\At [(1,qt b2),(4,Pr.pt b5 0),(6,qt b7),(8,Pr.pt b14 0),(9,Pb x16),(15,ao af x1.Kids),(16,P6 (x1.Kids.length:Int)),(17,P6 x8)] [D7 b7 Rp.bool x9,p2,p3,p4,D8 b14 af x13] e C) ?_ ?_
  ·rintro e C ⟨x16,h2l,a⟩
   refine W_at a ?_
   unfold tg at h2l
   refine a6 ?_
   refine ba (fun e C=>∃x18,w5 R x13 x9 x16 x8 x18=some w2l/\At [(1,qt b2),(4,Pr.pt b5 0),(6,qt b7),(8,Pr.pt b14 0),(9,Pb x16),(15,ao af x1.Kids),(16,P6 (x1.Kids.length:Int)),(17,P6 x8),(35,Pb x18)] [D7 b7 Rp.bool x9,p2,p3,p4,D8 b14 af x13] e C) ?_ ?_
   ·rintro e C ⟨x18,h2l,a⟩
    refine W_at a ?_
    unfold w5 at h2l
    refine a5 h2l rfl (fun _ h2l=>?_) (fun _ h2l=>?_)
    ·refine W_rs (kUn (ap 4 ty64 (Sub.refl _)) ?_)
     refine am 3 rfl rfl (Upd.refl _) rfl sizeOf64 (kAs rfl ?_)
     obtain rfl:=ho2 _ (ojs h2l)
     replace h:some (x13,true)=some r:=h
     obtain rfl:=osj h
     exact a7 ⟨.inl rfl,[(af).val x13,Pb true],⟨yBox 3 ty64 aa,yT aa,tv⟩,_,A8.of [1] rfl,rfl,rfl⟩
    refine au (a6 (W_rs (kUn (ap 4 ty64 (Sub.refl _)) ?_)))
    refine kUn (hMv (out:=qt b7) rfl) ?_
    obtain⟨⟨x20,x21⟩,k,h2l⟩:=ag h2l
    refine gu [0] (ih x13 x9 b7 _ k) (fun q C' hq=>?_)
    obtain⟨rfl,rfl⟩:=hq
    refine kUn (hMv (out:=bj [(af).val x20,Pb x21]) rfl) (kUn al ?_)
    refine kUn al ?_
    refine bg al64 fun b22=>am 5 rfl rfl (Upd.refl _) rfl sizeOf64 (kAs rfl (W_rs (kMv rfl ?_)))
    refine a5 h2l rfl (fun _ h2l=>?_) (fun _ h2l=>?_)
    ·refine W_rs (kUn (ap 5 ty64 (Sub.refl _)) ?_)
     refine am 3 rfl rfl (Upd.refl _) rfl sizeOf64 (kAs rfl ?_)
     obtain rfl:=ho2 _ (ojs h2l)
     replace h:some (x20,true)=some r:=h
     obtain rfl:=osj h
     exact a7 ⟨.inl rfl,[(af).val x20,Pb true],⟨yBox 3 ty64 aa,yT aa,tv⟩,_,A8.of [1] rfl,rfl,rfl⟩
    refine au (W_rs (kMv rfl ?_))
    refine a5 h2l rfl (fun _ h2l=>?_) (fun _ h2l=>?_)
    ·refine W_r (kUn (hMv (out:=qt b7) rfl) (kUn (aj ec) ?_))
     refine kUn (ap 4 ty9 bb) ?_
     refine ax2 (R:=Rp.bool) (m:=x9) (kx:=x13.Text) (v:=true) 0 underlying191 underlying9 ?_
     exact⟨(mset x13.Text true x9),x13,x20,b14,b22,h2l,atOk⟩
    refine au ?_
    exact⟨x9,x13,x20,b14,b22,h2l,atOk⟩
   refine W_r (kMv rfl (kMv rfl ?_))
   rcases bn h2l with⟨hc17,h2l⟩|⟨hc17,h2l⟩
   ·refine kGd rfl aa hc17 (hMv (out:=qt b7) rfl) (kGd rfl aa hc17 (aj ec) ?_)
    refine kGd rfl aa hc17 (ap 4 ty9 bb) ?_
    refine kGd rfl aa hc17 (ax5 (R:=Rp.bool) (m:=x9) (kx:=x13.Text) (z:=false) 0 underlying191 underlying9 zeroValue4 (fun _=>rfl)) ?_
    refine kPt rfl hc17 rfl ?_
    exact⟨(mget x13.Text false x9),h2l,atOk⟩
   refine skx ?_
   refine kPf rfl hc17 rfl ?_
   exact⟨false,h2l,atOk⟩
  refine W_r (kUn (aj e8) ?_)
  refine kUn (ap 4 ty3 a8) ?_
  refine kIn rfl rfl rfl (kMv rfl ?_)
  rcases bn h2l with⟨hc15,h2l⟩|⟨hc15,h2l⟩
  ·refine skx ?_
   refine kPt rfl hc15 rfl (kAs rfl ?_)
   exact⟨true,h2l,atOk⟩
  refine kGd rfl aa hc15 (aj e8) ?_
  refine kGd rfl aa hc15 (ap 4 ty3 a8) ?_
  refine kGd rfl aa hc15 (qInt rfl rfl rfl) (kPf rfl hc15 rfl (kAs rfl ?_))
  exact⟨x13.Kind==6,h2l,atOk⟩
 refine dp ?_
 obtain rfl:=ho2 _ (ojs h2l)
 exact⟨x9,h,atOk⟩
theorem alj :∀n,acx (jl n):=by
 intro n
 induction n with
 |zero=>exact(fun x1 x3 b2 r h=>nomatch (show none=some r from h))
 |succ n ih=>exact(fun x1 x3 b2 r h=>alt (jl n) ih x1 x3 b2 r h)
theorem aqd (x1:B5) (x3:SMap Bool) (b2:Nat) (r:B5 × Bool) (h:akb x1 x3=some r):Fc 161 [(af).val x1,qt b2] [D7 b2 Rp.bool x3] (fun q C'=>q=bj [(af).val r.1,Pb r.2]/\C'=[D7 b2 Rp.bool x3]):=(alj 1048576) x1 x3 b2 r h
end Go.Proofs.YtcndghapmoaidaaGreatDoor
set_option linter.unusedSectionVars false
set_option maxRecDepth 100000
set_option maxHeartbeats 4000000
namespace Go.Proofs.YtcndghapmoaidaaGreatDoor
open Go Go.Cn Tryz
attribute [local irreducible] mq ao
theorem ai9 (x1:B5) (x3:B4) (x6:A9) (b2:Nat) (v4:Value) (b5:Nat) (v7:Value) (r:Bool × B4) (h:o9 x1 x3 x6=some r):Fc 123 [Pr.pt b2 0,(bo).val (D1.mk x6.Kind x6.Id x6.Name x6.Owner x6.Type_ x6.Static v7 x6.File x6.At),(af).val x1] [D8 b2 bh (D0.mk v4 (.map (some b5)) x3.m),E1 v4 ab x3.l 49,D5 b5 d8 Rp.bool x3.known,E1 v7 Rp.str x6.Params 9] (fun q C'=>∃w100,q=Pb r.1/\C'=[D8 b2 bh (D0.mk w100 (.map (some b5)) r.2.m),E1 w100 ab r.2.l 49,D5 b5 d8 Rp.bool r.2.known]):=by
 refine gz (rs:=[6]) func123 rfl ntmps123 ⟨by decide,results123⟩ dcd (fun s0=>?_)
 let p1:=D8 b2 bh (D0.mk v4 (.map (some b5)) x3.m)
 let p2:=D1.mk x6.Kind x6.Id x6.Name x6.Owner x6.Type_ x6.Static v7 x6.File x6.At
 let p3:=E1 v4 ab x3.l 49
 let p4:=D5 b5 d8 Rp.bool x3.known
 unfold o9 at h
 refine W_rs ?_
 refine rBox (R:=bo) (a:=p2) rfl (fun b8=>?_)
 refine rBox (R:=af) (a:=x1) rfl (fun b9=>?_)
 let p5:=D8 b9 af x1
 refine kAs rfl (W_rs (kUn (aj aid) ?_))
 refine kUn (ap 4 ty9 ai7) ?_
 refine kUn (aj aaf) ?_
 refine kUn (ap 4 ty9 ajm) ?_
 refine cr h (ael x6.Owner x6.Name) rfl fun x10 _ h=>?_
 refine kUn (aj ol) ?_
 refine am 4 rfl rfl vt rfl sizeOf3 ?_
 refine rCtx [p1,p3,p4,E1 v7 Rp.str x6.Params 9,D8 b8 bo (D1.mk 3 x6.Id x6.Name x6.Owner x6.Type_ x6.Static v7 x6.File x6.At),p5] ?_
 refine kUn (aj ll) ?_
 refine am 4 rfl rfl z0 rfl sizeOf9 ?_
 refine rCtx [p1,p3,p4,E1 v7 Rp.str x6.Params 9,D8 b8 bo (D1.mk 3 x10 x6.Name x6.Owner x6.Type_ x6.Static v7 x6.File x6.At),p5] ?_
 refine W_rs ?_
 refine ax4 zeroValue38 rfl rfl (fun b11=>?_)
 refine W_rs (kUn ud ?_)
 refine kUn (hAs (out:=tk 159 [] [Pr.pt b11 0,Pr.pt b8 0]) rfl) (a6 (W_rs (kUn (ap 5 ty64 (Sub.refl _)) ?_)))
 refine cr h (avo x1 0) rfl fun x12 _ h=>?_
 refine kUn (jf rfl underlying53) ?_
 refine kMv rfl (az ?_)
 obtain⟨z6l,hz6,h⟩:=ag h
 obtain⟨n6,hN6⟩:=bm hz6
 refine cp 0 (fun e C=>∃x24,∃x14,∃x15,∃x16,∃x17,∃x18,∃x19,∃x21,∃x22,∃x25,∃v20,∃v23,pl x1 x3 x24 x14 x15 x16 x17 x18 x19 x21 x22 x25=some r/\At [(0,Pr.pt b2 0),(1,(bo).val p2),(4,Pr.pt b8 0),(5,Pr.pt b9 0),(7,Pr.pt b11 0)] [p1,p3,p4,E1 v20 Rp.str x24 9,D8 b8 bo (D1.mk x14 x15 x16 x17 x18 x19 v20 x21 x22),p5,A4.cell b11 (Pi v23),E1 v23 ab x25 49] e C) ?_ ?_
 ·rintro e C ⟨x24,x14,x15,x16,x17,x18,x19,x21,x22,x25,v20,v23,h,a⟩
  let p6:=D8 b11 (Rp.list ab) x25
  let p7:=E1 v23 ab x25 49
  let p8:=A4.cell b11 (Pi v23)
  refine W_at a ?_
  unfold pl at h
  refine a6 (W_rs (kUn (aj kw) ?_))
  refine kUn (ap 5 ty53 cn) ?_
  refine kUn (jf rfl underlying53) ?_
  refine kMv rfl (az ?_)
  obtain⟨z3l,hz3,h⟩:=ag h
  obtain⟨n3,hN3⟩:=bm hz3
  refine cp 2 (fun e C=>∃x63,∃v62,pn x14 x15 x16 x17 x18 x19 x21 x22 x3 x25 x1 x63=some r/\At [(0,Pr.pt b2 0),(1,(bo).val p2),(4,Pr.pt b8 0),(5,Pr.pt b9 0),(7,Pr.pt b11 0)] [p1,p3,p4,E1 v62 Rp.str x63 9,D8 b8 bo (D1.mk x14 x15 x16 x17 x18 x19 v62 x21 x22),p5,p8,p7] e C) ?_ ?_
  ·rintro e C ⟨x63,v62,h,a⟩
   let p9:=D8 b8 bo (D1.mk x14 x15 x16 x17 x18 x19 v62 x21 x22)
   let p10:=A9.mk x14 x15 x16 x17 x18 x19 x63 x21 x22
   refine W_at a ?_
   unfold pn at h
   refine a6 (W_rs (kMv rfl (kUn (ap 4 ty49 (Sub.refl _)) ?_)))
   obtain⟨⟨x75,x76⟩,k,h⟩:=ag h
   let p11:=D5 b5 d8 Rp.bool x76.known
   refine rRelS 3 61 [] (q:=ab.val p10) (fun _ _ hl=>FLe.val ⟨fl,fl,fl,fl,fl,fl,(a03 hl),fl,fl,tv⟩) ?_ rfl trivial
   refine gu [0,1,2] (z7 p10 x3 b2 v4 b5 _ k) (fun q C' hq=>?_)
   obtain⟨v77,rfl,rfl⟩:=hq
   let p12:=D0.mk v77 (.map (some b5)) x76.m
   refine rCtx [D8 b2 bh p12,E1 v77 ab x76.l 49,p11,p9,p5,p8,p7] ?_
   refine kNo rfl ?_
   refine a5 h rfl (fun _ h=>?_) (fun _ h=>?_)
   ·refine W_rs (kAs rfl ?_)
    obtain rfl:=osj h
    exact a7 ⟨.inl rfl,_,A8.of [0,1,2] rfl,_,(aa),v77,rfl,rfl⟩
   refine au ?_
   refine W_shutC 6 5 ?_
   refine ba (fun e C=>∃x79,∃v80,po x1 x21 x76 x79=some r/\At [(0,Pr.pt b2 0),(1,(bo).val p2),(4,Pr.pt b8 0),(5,Pr.pt b9 0)] [D8 b2 bh (D0.mk v80 (.map (some b5)) x76.m),E1 v80 ab x79 49,p11,p9,p5,p6] e C) ?_ ?_
   ·rintro e C ⟨x79,v80,h,a⟩
    refine W_at a ?_
    unfold po at h
    refine a6 (W_rs (kUn (ap 4 ty64 (Sub.refl _)) ?_))
    refine av5 Rp.bool (fun b81=>?_)
    obtain⟨⟨x82,x83⟩,k,h⟩:=ag h
    refine gu [6] (aqd x1 ([]:SMap Bool) b81 _ k) (fun q C' hq=>?_)
    obtain⟨rfl,rfl⟩:=hq
    refine rCtx [D7 b81 Rp.bool ([]:SMap Bool),D8 b2 bh (D0.mk v80 (.map (some b5)) x76.m),E1 v80 ab x79 49,p11,p9,p5,p6] ?_
    refine kUn (hMv (out:=bj [(af).val x82,Pb x83]) rfl) (kUn al ?_)
    refine kUn al ?_
    refine bg al64 fun b84=>am 7 rfl rfl (Upd.refl _) rfl sizeOf64 (kAs rfl (W_rs (kMv rfl ?_)))
    refine a5 h rfl (fun _ h=>?_) (fun _ h=>?_)
    ·refine W_rs (kMv rfl (kUn (aj amb) ?_))
     refine kUn (ap 4 ty3 acu) ?_
     refine kUn (aj mi) ?_
     refine kUn (ap 7 ty3 fe) ?_
     obtain⟨x86,k,h⟩:=ag h
     refine gu [1,2,3] (aep x21 x82.At (B4.mk x79 x76.known x76.m) b2 v80 b5 _ k) (fun q C' hq=>?_)
     obtain⟨v87,rfl,rfl⟩:=hq
     refine rCtx [D8 b2 bh (D0.mk v87 (.map (some b5)) x86.m),E1 v87 ab x86.l 49,D5 b5 d8 Rp.bool x86.known,D7 b81 Rp.bool ([]:SMap Bool),p9,p5,p6,D8 b84 af x82] ?_
     refine W_rs (kAs rfl ?_)
     obtain rfl:=osj h
     exact a7 ⟨.inl rfl,_,A8.of [0,1,2] rfl,_,(aa),v87,rfl,rfl⟩
    refine au (W_rs (kAs rfl ?_))
    obtain rfl:=osj h
    exact a7 ⟨.inl rfl,_,A8.of [1,2,3] rfl,_,(aa),v80,rfl,rfl⟩
   obtain⟨x79,k,h⟩:=ag h
   refine aah [0,0,2,6,14,0,62,127,255,511] [[],[],[],[],[D8 b2 bh p12],[p6],[],[],[],[]] hmx kr kr kr rfl ?_
   refine aq0 0 1 (out:=Pr.pt b2 0) rfl (fun C9=>fr) ?_
   refine aq0 1 3 (out:=Pr.pt b2 0) rfl (fun C9=>fr) ?_
   refine aq0 2 7 (out:=Pr.pt b2 0) rfl (fun C9=>ah2) ?_
   refine aq0 3 15 (out:=Pr.pt b2 0) rfl (fun C9=>(aj ako)) ?_
   refine aq1 4 31 0 (out:=Pi v77) rfl rfl (fun C9 i9 h9=>(w8 (R:=bh) (a:=p12) i9 ty38 z5 (hi:=h9))) ?_
   refine aq1 5 63 5 (out:=ao ab x25) rfl rfl (fun C9 i9 h9=>(ap (R:=Rp.list ab) (a:=x25) (R':=Rp.list ab) i9 ty38 (Sub.refl _) (hi:=h9))) ?_
   refine ae 6 127 rfl (fun g9=>?_)
   refine fp 1 el38 k (fun v80=>?_)
   refine f6 _ [] cd ?_
   refine aq0 7 255 (out:=Pr.pt b2 0) rfl (fun C9=>ah2) ?_
   refine aq0 8 511 (out:=Pr.pt b2 0) rfl (fun C9=>(aj ako)) ?_
   refine ae 9 1023 rfl (fun g9=>?_)
   refine agq (R:=bh) (a:=p12) 0 1 sizeOf38 afg ?_
   refine rCtx [D8 b2 bh (D0.mk v80 (.map (some b5)) x76.m),E1 v80 ab x79 49,p11,p9,p5,p6] ?_
   refine f6 .any [] cd ?_
   refine yj ?_
   exact⟨x79,v80,h,atOk⟩
  refine dq (fun m e C=>∃x61,∃x63,∃v62,ez (fun s=>i7 x1 s.1 s.2) m (x61,x63)=some z3l/\At [(0,Pr.pt b2 0),(1,(bo).val p2),(4,Pr.pt b8 0),(5,Pr.pt b9 0),(7,Pr.pt b11 0),(43,ao af x1.Kids),(44,P6 (x1.Kids.length:Int)),(45,P6 x61)] [p1,p3,p4,E1 v62 Rp.str x63 9,D8 b8 bo (D1.mk x14 x15 x16 x17 x18 x19 v62 x21 x22),p5,p8,p7] e C) n3 ⟨0,x24,v20,hN3,⟨⟨aa,aa,aa,aa,aa,aa,aa,aa,tv⟩,A8.refl _⟩⟩ ?_
  rintro m e C ⟨x61,x63,v62,hN3,a⟩
  let p13:=D1.mk x14 x15 x16 x17 x18 x19 v62 x21 x22
  refine W_at a ?_
  obtain⟨m3,w3l,rfl,h3l,hn3,ho3⟩:=bc hN3
  replace h3l:i7 x1 x61 x63=some w3l:=h3l
  unfold i7 at h3l
  refine W_rs (kIn rfl rfl rfl (a6 ?_))
  refine a5 h3l rfl (fun _ h3l=>?_) (fun _ h3l=>?_)
  ·refine au ?_
   refine ba (fun e C=>∃x74,∃x68,∃v73,∃b69,l4 x61 x74 x68=some w3l/\At [(0,Pr.pt b2 0),(1,(bo).val p2),(4,Pr.pt b8 0),(5,Pr.pt b9 0),(7,Pr.pt b11 0),(43,ao af x1.Kids),(44,P6 (x1.Kids.length:Int)),(45,P6 x61)] [p1,p3,p4,E1 v73 Rp.str x74 9,D8 b8 bo (D1.mk x14 x15 x16 x17 x18 x19 v73 x21 x22),p5,p8,p7,D8 b69 af x68] e C) ?_ ?_
   ·rintro e C ⟨x74,x68,v73,b69,h3l,a⟩
    refine W_at a ?_
    unfold l4 at h3l
    refine W_r (kIn rfl rfl rfl (kMv rfl ?_))
    exact⟨m3,lsu,w64 (x61+1),x74,v73,hn3 _ (ojs h3l),⟨⟨aa,aa,aa,aa,aa,aa,aa,aa,tv⟩,A8.of [0,1,2,3,4,5,6,7] rfl⟩⟩
   refine az (W_rs ?_)
   obtain⟨x68,k,h3l⟩:=ag h3l
   refine kUn (du underlying53 sizeOf64 k) ?_
   refine kUn (bz ty64) ?_
   refine bg al64 fun b69=>am 8 rfl rfl (Upd.refl _) rfl sizeOf64 (W_rs (kUn (aj e8) ?_))
   refine kUn (ap 8 ty3 a8) ?_
   refine kIn rfl rfl rfl ?_
   refine a5 h3l rfl (fun _ h3l=>?_) (fun _ h3l=>?_)
   ·refine W_r (kUn (aj aib) ?_)
    refine kUn (w8 (R:=bo) (a:=p13) 4 ty22 aad) ?_
    refine kUn (aj ti) ?_
    refine kUn (ap 8 ty9 fj) ?_
    refine kUn (cm (R:=Rp.str) (a:=x68.Type_) el22 nb) ?_
    obtain⟨x71,k,h3l⟩:=ag h3l
    refine fp 3 el22 k (fun v72=>?_)
    refine kUn (aj aib) ?_
    refine agq (R:=bo) (a:=p13) 4 3 sizeOf22 aab ?_
    refine rCtx [p1,p3,p4,E1 v72 Rp.str x71 9,D8 b8 bo (D1.mk x14 x15 x16 x17 x18 x19 v72 x21 x22),p5,p8,p7,D8 b69 af x68] ?_
    exact⟨x71,x68,v72,b69,h3l,atOk⟩
   refine au ?_
   exact⟨x63,x68,v62,b69,h3l,atOk⟩
  refine dp ?_
  obtain rfl:=ho3 _ (ojs h3l)
  exact⟨x63,v62,h,atOk⟩
 refine axl ab 49 ?_
 refine dq (fun m e C=>∃x13,∃x14,∃x15,∃x16,∃x17,∃x18,∃x19,∃x21,∃x22,∃x24,∃x25,∃v20,∃v23,ez (fun s=>i6 x12 s.1 s.2.1 s.2.2.1 s.2.2.2.1 s.2.2.2.2.1 s.2.2.2.2.2.1 s.2.2.2.2.2.2.1 s.2.2.2.2.2.2.2.1 s.2.2.2.2.2.2.2.2.1 s.2.2.2.2.2.2.2.2.2.1 s.2.2.2.2.2.2.2.2.2.2) m (x13,x14,x15,x16,x17,x18,x19,x21,x22,x24,x25)=some z6l/\At [(0,Pr.pt b2 0),(1,(bo).val p2),(4,Pr.pt b8 0),(5,Pr.pt b9 0),(7,Pr.pt b11 0),(8,tk 159 [] [Pr.pt b11 0,Pr.pt b8 0]),(24,ao af x12),(25,P6 (x12.length:Int)),(26,P6 x13)] [p1,p3,p4,E1 v20 Rp.str x24 9,D8 b8 bo (D1.mk x14 x15 x16 x17 x18 x19 v20 x21 x22),p5,A4.cell b11 (Pi v23),E1 v23 ab x25 49] e C) n6 ⟨0,3,x10,x6.Name,x6.Owner,x6.Type_,x6.Static,x6.File,x6.At,x6.Params,[],v7,(.slice none 0 0),hN6,⟨⟨aa,aa,aa,aa,aa,aa,aa,aa,aa,tv⟩,A8.refl _⟩⟩ ?_
 rintro m e C ⟨x13,x14,x15,x16,x17,x18,x19,x21,x22,x24,x25,v20,v23,hN6,a⟩
 refine W_at a ?_
 obtain⟨m6,w6l,rfl,h6l,hn6,ho6⟩:=bc hN6
 replace h6l:i6 x12 x13 x14 x15 x16 x17 x18 x19 x21 x22 x24 x25=some w6l:=h6l
 unfold i6 at h6l
 refine W_rs (kIn rfl rfl rfl (a6 ?_))
 refine a5 h6l rfl (fun _ h6l=>?_) (fun _ h6l=>?_)
 ·refine au ?_
  refine ba (fun e C=>∃x50,∃x51,∃x52,∃x53,∃x54,∃x55,∃x57,∃x58,∃x59,∃x60,∃x40,∃v49,∃v56,∃b41,lz x13 x50 x51 x52 x53 x54 x55 x57 x58 x59 x60 x40=some w6l/\At [(0,Pr.pt b2 0),(1,(bo).val p2),(4,Pr.pt b8 0),(5,Pr.pt b9 0),(7,Pr.pt b11 0),(8,tk 159 [] [Pr.pt b11 0,Pr.pt b8 0]),(24,ao af x12),(25,P6 (x12.length:Int)),(26,P6 x13)] [A4.cell b11 (Pi v49),E1 v49 ab x59 49,D8 b8 bo (D1.mk x50 x51 x52 x53 x54 x55 v56 x57 x58),E1 v56 Rp.str x60 9,p1,p3,p4,p5,D8 b41 af x40] e C) ?_ ?_
  ·rintro e C ⟨x50,x51,x52,x53,x54,x55,x57,x58,x59,x60,x40,v49,v56,b41,h6l,a⟩
   refine W_at a ?_
   unfold lz at h6l
   refine W_r (kIn rfl rfl rfl (kMv rfl ?_))
   exact⟨m6,lsu,w64 (x13+1),x50,x51,x52,x53,x54,x55,x57,x58,x60,x59,v56,v49,hn6 _ (ojs h6l),⟨⟨aa,aa,aa,aa,aa,aa,aa,aa,aa,tv⟩,A8.of [4,5,6,3,2,7,0,1] rfl⟩⟩
  refine az (W_rs ?_)
  obtain⟨x40,k,h6l⟩:=ag h6l
  refine kUn (du underlying53 sizeOf64 k) ?_
  refine kUn (bz ty64) ?_
  refine bg al64 fun b41=>am 8 rfl rfl (Upd.refl _) rfl sizeOf64 ?_
  refine ba (fun e C=>∃x43,kb x40 x25 x14 x15 x16 x17 x18 x19 x24 x21 x22 x13 x43=some w6l/\At [(0,Pr.pt b2 0),(1,(bo).val p2),(4,Pr.pt b8 0),(5,Pr.pt b9 0),(7,Pr.pt b11 0),(8,tk 159 [] [Pr.pt b11 0,Pr.pt b8 0]),(10,Pr.pt b41 0),(24,ao af x12),(25,P6 (x12.length:Int)),(26,P6 x13),(37,Pb x43)] [p1,p3,p4,E1 v20 Rp.str x24 9,D8 b8 bo (D1.mk x14 x15 x16 x17 x18 x19 v20 x21 x22),p5,A4.cell b11 (Pi v23),E1 v23 ab x25 49,D8 b41 af x40] e C) ?_ ?_
  ·rintro e C ⟨x43,h6l,a⟩
   refine W_at a ?_
   unfold kb at h6l
   refine a5 h6l rfl (fun _ h6l=>?_) (fun _ h6l=>?_)
   ·refine W_r (kUn (hMv (out:=tk 159 [] [Pr.pt b11 0,Pr.pt b8 0]) rfl) (kUn (ap 8 ty64 (Sub.refl _)) ?_))
    obtain⟨⟨x45,x47⟩,k,h6l⟩:=ag h6l
    refine rCallK [6,7,4,3] (ahs x40 x25 (A9.mk x14 x15 x16 x17 x18 x19 x24 x21 x22) b11 v23 b8 v20 _ k) (fun q C' hq=>?_)
    obtain⟨v46,v48,rfl,rfl⟩:=hq
    refine rCtx [A4.cell b11 (Pi v46),E1 v46 ab x45 49,D8 b8 bo (D1.mk x47.Kind x47.Id x47.Name x47.Owner x47.Type_ x47.Static v48 x47.File x47.At),E1 v48 Rp.str x47.Params 9,p1,p3,p4,p5,D8 b41 af x40] ?_
    exact⟨x47.Kind,x47.Id,x47.Name,x47.Owner,x47.Type_,x47.Static,x47.File,x47.At,x45,x47.Params,x40,v46,v48,b41,h6l,atOk⟩
   refine au ?_
   exact⟨x14,x15,x16,x17,x18,x19,x21,x22,x25,x24,x40,v23,v20,b41,h6l,⟨⟨aa,aa,aa,aa,aa,aa,aa,aa,aa,tv⟩,A8.of [6,7,4,3,0,1,2,5,8] rfl⟩⟩
  refine W_r (kUn (aj e8) ?_)
  refine kUn (ap 8 ty3 a8) ?_
  refine kIn rfl rfl rfl (kMv rfl ?_)
  rcases bn h6l with⟨hc42,h6l⟩|⟨hc42,h6l⟩
  ·refine skx ?_
   refine kPt rfl hc42 rfl ?_
   exact⟨true,h6l,atOk⟩
  refine kGd rfl aa hc42 (aj e8) ?_
  refine kGd rfl aa hc42 (ap 8 ty3 a8) ?_
  refine kGd rfl aa hc42 (qInt rfl rfl rfl) (kPf rfl hc42 rfl ?_)
  exact⟨x40.Kind==6,h6l,atOk⟩
 refine dp ?_
 obtain rfl:=ho6 _ (ojs h6l)
 exact⟨x24,x14,x15,x16,x17,x18,x19,x21,x22,x25,v20,v23,h,atOk⟩
theorem ajr (x1:Int) (x2:B5) (x4:B4) (b3:Nat) (v5:Value) (b6:Nat) (r:Bool × B4) (h:rg x1 x2 x4=some r):Fc 71 [Pr.pt b3 0,P6 x1,(af).val x2] [D8 b3 bh (D0.mk v5 (.map (some b6)) x4.m),E1 v5 ab x4.l 49,D5 b6 d8 Rp.bool x4.known] (fun q C'=>∃w100,q=Pb r.1/\C'=[D8 b3 bh (D0.mk w100 (.map (some b6)) r.2.m),E1 w100 ab r.2.l 49,D5 b6 d8 Rp.bool r.2.known]):=by
  refine gz (rs:=[6]) func71 rfl ntmps71 ⟨by decide,results71⟩ dcd (fun s0=>?_)
  unfold rg at h
  refine W_rs ?_
  refine rBox (R:=af) (a:=x2) rfl (fun b7=>?_)
  let p1:=D8 b7 af x2
  refine kAs rfl (a6 ?_)
  refine ba (fun e C=>∃x9,∃x10,∃v11,ms x2 x1 x9 x10=some r/\At [(0,Pr.pt b3 0),(1,P6 x1),(5,Pr.pt b7 0),(23,Pb (!x9))] [D8 b3 bh (D0.mk v11 (.map (some b6)) x10.m),E1 v11 ab x10.l 49,D5 b6 d8 Rp.bool x10.known,p1] e C) ?_ ?_
  · rintro e C ⟨x9,x10,v11,h,a⟩
    refine W_at a ?_
    unfold ms at h
    refine a5 h rfl (fun _ h=>?_) (fun _ h=>?_)
    · refine W_rs (kAs rfl ?_)
      obtain rfl:=osj h
      exact a7 ⟨.inl rfl,_,A8.of [0,1,2] rfl,_,(aa),v11,rfl,rfl⟩
    refine au (a6 (W_rs (kUn (aj kw) ?_)))
    refine kUn (ap 3 ty53 cn) ?_
    refine kUn (jf rfl underlying53) ?_
    refine kMv rfl (az ?_)
    obtain⟨z2l,hz2,h⟩:=ag h
    obtain⟨n2,hN2⟩:=bm hz2
    refine cp 0 (fun e C=>∃x15,∃x17,∃x16,∃v14,vu x15 x17 x16=some r/\At [(0,Pr.pt b3 0)] [D8 b3 bh (D0.mk v14 (.map (some b6)) x15),E1 v14 ab x17 49,D5 b6 d8 Rp.bool x16,p1] e C) ?_ ?_
    · rintro e C ⟨x15,x17,x16,v14,h,a⟩
      refine W_at a ?_
      unfold vu at h
      refine W_rs (kAs rfl ?_)
      obtain rfl:=osj h
      exact a7 ⟨.inl rfl,_,A8.of [0,1,2] rfl,_,(aa),v14,rfl,rfl⟩
    refine dq (fun m e C=>∃x13,∃x15,∃x16,∃x17,∃v14,ez (fun s=>ji x2 x1 s.1 s.2.1 s.2.2.1 s.2.2.2) m (x13,x15,x16,x17)=some z2l/\At [(0,Pr.pt b3 0),(1,P6 x1),(5,Pr.pt b7 0),(25,ao af x2.Kids),(26,P6 (x2.Kids.length:Int)),(27,P6 x13)] [D8 b3 bh (D0.mk v14 (.map (some b6)) x15),E1 v14 ab x17 49,D5 b6 d8 Rp.bool x16,p1] e C) n2 ⟨0,x10.m,x10.known,x10.l,v11,hN2,⟨⟨aa,aa,aa,aa,aa,aa,tv⟩,A8.refl _⟩⟩ ?_
    rintro m e C ⟨x13,x15,x16,x17,v14,hN2,a⟩
    refine W_at a ?_
    obtain⟨m2,w2l,rfl,h2l,hn2,ho2⟩:=bc hN2
    replace h2l:ji x2 x1 x13 x15 x16 x17=some w2l:=h2l
    unfold ji at h2l
    refine W_rs (kIn rfl rfl rfl (a6 ?_))
    refine a5 h2l rfl (fun _ h2l=>?_) (fun _ h2l=>?_)
    · refine au (a6 (az (W_rs ?_)))
      obtain⟨x24,k,h2l⟩:=ag h2l
      refine kUn (du underlying53 sizeOf64 k) ?_
      refine kUn (bz ty64) ?_
      refine bg al64 fun b25=>am 4 rfl rfl (Upd.refl _) rfl sizeOf64 ?_
      let p2:=D8 b25 af x24
      refine ba (fun e C=>∃x26,∃x27,∃b28,qw x24 x1 x17 x16 x15 x13 x26 x27=some w2l/\At [(0,Pr.pt b3 0),(1,P6 x1),(5,Pr.pt b7 0),(8,Pr.pt b25 0),(9,Pr.pt b28 0),(25,ao af x2.Kids),(26,P6 (x2.Kids.length:Int)),(27,P6 x13)] [D8 b3 bh (D0.mk v14 (.map (some b6)) x15),E1 v14 ab x17 49,D5 b6 d8 Rp.bool x16,p1,p2,D8 b28 bo (D1.mk 2 x26 x24.Text x27 x24.Type_ (x24.N==1) (.slice none 0 0) x1 x24.At)] e C) ?_ ?_
      · rintro e C ⟨x26,x27,b28,h2l,a⟩
        let p3:=D8 b28 bo (D1.mk 2 x26 x24.Text x27 x24.Type_ (x24.N==1) (.slice none 0 0) x1 x24.At)
        let p4:=A9.mk 2 x26 x24.Text x27 x24.Type_ (x24.N==1) [] x1 x24.At
        refine W_at a ?_
        unfold qw at h2l
        refine az ?_
        refine ba (fun e C=>∃x33,∃x35,∃x36,∃x37,∃v34,jj x24 x26 x27 x1 x13 x33 x35 x36 x37=some w2l/\At [(0,Pr.pt b3 0),(1,P6 x1),(5,Pr.pt b7 0),(8,Pr.pt b25 0),(9,Pr.pt b28 0),(25,ao af x2.Kids),(26,P6 (x2.Kids.length:Int)),(27,P6 x13),(50,Pb x33)] [D8 b3 bh (D0.mk v34 (.map (some b6)) x35),E1 v34 ab x37 49,D5 b6 d8 Rp.bool x36,p1,p2,p3] e C) ?_ ?_
        · rintro e C ⟨x33,x35,x36,x37,v34,h2l,a⟩
          refine W_at a ?_
          unfold jj at h2l
          refine a5 h2l rfl (fun _ h2l=>?_) (fun _ h2l=>?_)
          · refine W_rs (kAs rfl ?_)
            obtain rfl:=ho2 _ (ojs h2l)
            replace h:some (false,(B4.mk x37 x36 x35))=some r:=h
            obtain rfl:=osj h
            exact a7 ⟨.inl rfl,_,A8.of [0,1,2] rfl,_,(aa),v34,rfl,rfl⟩
          refine ba (fun e C=>∃x43,∃x45,∃x46,∃x47,∃v44,jk x13 x43 x45 x46 x47=some w2l/\At [(0,Pr.pt b3 0),(1,P6 x1),(5,Pr.pt b7 0),(25,ao af x2.Kids),(26,P6 (x2.Kids.length:Int)),(27,P6 x13),(60,Pb x43)] [D8 b3 bh (D0.mk v44 (.map (some b6)) x45),E1 v44 ab x47 49,D5 b6 d8 Rp.bool x46,p1,p2,p3] e C) ?_ ?_
          · rintro e C ⟨x43,x45,x46,x47,v44,h2l,a⟩
            refine W_at a ?_
            unfold jk at h2l
            refine a5 h2l rfl (fun _ h2l=>?_) (fun _ h2l=>?_)
            · refine W_rs (kAs rfl ?_)
              obtain rfl:=ho2 _ (ojs h2l)
              replace h:some (false,(B4.mk x47 x46 x45))=some r:=h
              obtain rfl:=osj h
              exact a7 ⟨.inl rfl,_,A8.of [0,1,2] rfl,_,(aa),v44,rfl,rfl⟩
            refine au (W_r (kIn rfl rfl rfl (kMv rfl ?_)))
            exact⟨m2,lsu,w64 (x13+1),x45,x46,x47,v44,hn2 _ (ojs h2l),⟨⟨aa,aa,aa,aa,aa,aa,tv⟩,A8.of [0,1,2,3] rfl⟩⟩
          refine W_r (kUn (aj e8) ?_)
          refine kUn (ap 4 ty3 a8) ?_
          refine kIn rfl rfl rfl (kMv rfl ?_)
          rcases bn h2l with⟨hc39,h2l⟩|⟨hc39,h2l⟩
          · refine kGd rfl aa hc39 (hMvA rfl) (kGd rfl aa hc39 (ap 5 ty49 (Sub.refl _)) ?_)
            refine kGd rfl aa hc39 (ap 4 ty64 (Sub.refl _)) ?_
            obtain⟨⟨x40,x41⟩,k,h2l⟩:=ag h2l
            refine kOn rfl aa hc39 ?_
            refine rVec Rp.str 9 ?_
            refine gu [0,1,2,6] (ai9 x24 (B4.mk x37 x36 x35) p4 b3 v34 b6 (.slice none 0 0) _ k) (fun q C' hq=>?_)
            obtain⟨v42,rfl,rfl⟩:=hq
            refine rCtx [D8 b3 bh (D0.mk v42 (.map (some b6)) x41.m),E1 v42 ab x41.l 49,D5 b6 d8 Rp.bool x41.known,p1,p2,p3] ?_
            refine kGd rfl aa hc39 (qNot rfl) (kPt rfl hc39 rfl (kAs rfl ?_))
            exact⟨!x40,x41.m,x41.known,x41.l,v42,h2l,atOk⟩
          refine skx ?_
          refine kPf rfl hc39 rfl (kAs rfl ?_)
          exact⟨false,x35,x36,x37,v34,h2l,atOk⟩
        refine W_r (kUn (aj e8) ?_)
        refine kUn (ap 4 ty3 a8) ?_
        refine kIn rfl rfl rfl (kMv rfl ?_)
        rcases bn h2l with⟨hc29,h2l⟩|⟨hc29,h2l⟩
        · refine kGd rfl aa hc29 (hMvA rfl) (kGd rfl aa hc29 (ap 5 ty49 (Sub.refl _)) ?_)
          obtain⟨⟨x30,x31⟩,k,h2l⟩:=ag h2l
          refine kOn rfl aa hc29 ?_
          refine ax3 [0,1,2] (z7 p4 (B4.mk x17 x16 x15) b3 v14 b6 _ k) ⟨aa,(st_le fun _=>⟨fl,fl,fl,fl,fl,fl,a02,fl,fl,tv⟩),tv⟩ (fun q C' hq=>?_)
          obtain⟨v32,rfl,rfl⟩:=hq
          refine rCtx [D8 b3 bh (D0.mk v32 (.map (some b6)) x31.m),E1 v32 ab x31.l 49,D5 b6 d8 Rp.bool x31.known,p1,p2,p3] ?_
          refine kGd rfl aa hc29 (qNot rfl) (kPt rfl hc29 rfl (kAs rfl ?_))
          exact⟨!x30,x31.m,x31.known,x31.l,v32,h2l,atOk⟩
        refine skx ?_
        refine kPf rfl hc29 rfl (kAs rfl ?_)
        exact⟨false,x15,x16,x17,v14,h2l,atOk⟩
      obtain⟨x26,hx26,h2l⟩:=ag h2l
      obtain⟨x27,k,h2l⟩:=ag h2l
      let p5:=D1.mk 2 x26 x24.Text x27 x24.Type_ (x24.N==1) (.slice none 0 0) x1 x24.At
      refine aah [0,1,0,4,15,0,32,0,128,415,0,1024,0,4096,12288,0,0,65536,262143,0,1048575] [[],[p1],[],[p2],[],[],[p2],[],[p1],[],[],[p2],[],[p2],[],[],[],[p2],[],[],[]] hmx kr kr kr rfl ?_
      refine aq0 0 1 (out:=Pr.pt b7 1) rfl (fun C9=>(aj ec)) ?_
      refine aq1 1 3 3 (out:=Pr.str x2.Text) rfl rfl (fun C9 i9 h9=>(ap (R:=af) (a:=x2) (R':=Rp.str) i9 ty9 bb (hi:=h9))) ?_
      refine aq0 2 7 (out:=Pr.pt b25 1) rfl (fun C9=>(aj ec)) ?_
      refine aq1 3 15 4 (out:=Pr.str x24.Text) rfl rfl (fun C9 i9 h9=>(ap (R:=af) (a:=x24) (R':=Rp.str) i9 ty9 bb (hi:=h9))) ?_
      refine aq0 4 31 (out:=Pr.str x26) rfl (fun C9=>(c7 (af9 x2.Text x24.Text _ hx26))) ?_
      refine aq0 5 63 (out:=Pr.pt b25 1) rfl (fun C9=>(aj ec)) ?_
      refine aq1 6 127 4 (out:=Pr.str x24.Text) rfl rfl (fun C9 i9 h9=>(ap (R:=af) (a:=x24) (R':=Rp.str) i9 ty9 bb (hi:=h9))) ?_
      refine aq0 7 255 (out:=Pr.pt b7 1) rfl (fun C9=>(aj ec)) ?_
      refine aq1 8 511 3 (out:=Pr.str x2.Text) rfl rfl (fun C9 i9 h9=>(ap (R:=af) (a:=x2) (R':=Rp.str) i9 ty9 bb (hi:=h9))) ?_
      refine aq0 9 1023 (out:=Pr.str x27) rfl (fun C9=>(c7 (agb x2.Text _ k))) ?_
      refine aq0 10 2047 (out:=Pr.pt b25 2) rfl (fun C9=>(aj ti)) ?_
      refine aq1 11 4095 4 (out:=Pr.str x24.Type_) rfl rfl (fun C9 i9 h9=>(ap (R:=af) (a:=x24) (R':=Rp.str) i9 ty9 fj (hi:=h9))) ?_
      refine aq0 12 8191 (out:=Pr.pt b25 3) rfl (fun C9=>(aj aia)) ?_
      refine aq1 13 16383 4 (out:=P6 x24.N) rfl rfl (fun C9 i9 h9=>(ap (R:=af) (a:=x24) (R':=Rp.int .i64) i9 ty2 abx (hi:=h9))) ?_
      refine aq0 14 32767 (out:=Pb (x24.N==1)) rfl (fun C9=>qInt) ?_
      refine aq0 15 65535 (out:=P6 x1) rfl (fun C9=>fr) ?_
      refine aq0 16 131071 (out:=Pr.pt b25 6) rfl (fun C9=>(aj mi)) ?_
      refine aq1 17 262143 4 (out:=P6 x24.At) rfl rfl (fun C9 i9 h9=>(ap (R:=af) (a:=x24) (R':=Rp.int .i64) i9 ty3 fe (hi:=h9))) ?_
      refine aq0 18 524287 (out:=(bo).val p5) rfl (fun C9=>(fk ajv ⟨(D1.mk 2 [] [] [] [] false (.slice none 0 0) 0 0),⟨_,rfl,rfl,qbj⟩,⟨(D1.mk 2 x26 [] [] [] false (.slice none 0 0) 0 0),⟨_,rfl,rfl,qbj⟩,⟨(D1.mk 2 x26 x24.Text [] [] false (.slice none 0 0) 0 0),⟨_,rfl,rfl,qbj⟩,⟨(D1.mk 2 x26 x24.Text x27 [] false (.slice none 0 0) 0 0),⟨_,rfl,rfl,qbj⟩,⟨(D1.mk 2 x26 x24.Text x27 x24.Type_ false (.slice none 0 0) 0 0),⟨_,rfl,rfl,qbj⟩,⟨(D1.mk 2 x26 x24.Text x27 x24.Type_ (x24.N==1) (.slice none 0 0) 0 0),⟨_,rfl,rfl,qbj⟩,⟨(D1.mk 2 x26 x24.Text x27 x24.Type_ (x24.N==1) (.slice none 0 0) x1 0),⟨_,rfl,rfl,qbj⟩,⟨p5,⟨_,rfl,rfl,qbj⟩,rfl⟩⟩⟩⟩⟩⟩⟩⟩)) ?_
      refine ae 19 1048575 rfl (fun g9=>?_)
      refine bg al49 fun b28=>?_
      refine f6 _ [p1,p2,p2,p1,p2,p2,p2] (dh 3 (dh 4 (dh 4 (dh 3 (dh 4 (dh 4 (dh 4 cd))))))) ?_
      refine ae 20 2097151 rfl (fun g9=>?_)
      refine am 5 rfl rfl (Upd.refl _) rfl sizeOf49 ?_
      refine f6 .any [] cd ?_
      refine yj ?_
      exact⟨x26,x27,b28,h2l,atOk⟩
    refine dp ?_
    obtain rfl:=ho2 _ (ojs h2l)
    exact⟨x15,x17,x16,v14,h,atOk⟩
  refine jg 12 hmx kr kr ?_
  refine lUn (hMvA rfl) (lUn (aj ec) ?_)
  refine lUn (ap 3 ty9 bb) ?_
  obtain⟨x8,k,h⟩:=ag h
  let p6:=A9.mk 1 x8 x2.Text [] x2.Type_ false [] x1 x2.At
  refine lUn (c7 (agb x2.Text _ k)) ?_
  refine lUn (aj ec) ?_
  refine lUn (ap 3 ty9 bb) ?_
  refine lUn (aj ti) ?_
  refine lUn (ap 3 ty9 fj) ?_
  refine lUn (hMvA rfl) (lUn (aj mi) ?_)
  refine lUn (ap 3 ty3 fe) ?_
  refine lUn (fk st49 ⟨(A9.mk 1 [] [] [] [] false [] 0 0),⟨_,rfl,rfl,qbj⟩,⟨(A9.mk 1 x8 [] [] [] false [] 0 0),⟨_,rfl,rfl,qbj⟩,⟨(A9.mk 1 x8 x2.Text [] [] false [] 0 0),⟨_,rfl,rfl,qbj⟩,⟨(A9.mk 1 x8 x2.Text [] x2.Type_ false [] 0 0),⟨_,rfl,rfl,qbj⟩,⟨(A9.mk 1 x8 x2.Text [] x2.Type_ false [] x1 0),⟨_,rfl,rfl,qbj⟩,⟨p6,⟨_,rfl,rfl,qbj⟩,rfl⟩⟩⟩⟩⟩⟩) ?_
  obtain⟨⟨x9,x10⟩,k,h⟩:=ag h
  refine gu [0,1,2] (z7 p6 x4 b3 v5 b6 _ k) (fun q C' hq=>?_)
  obtain⟨v11,rfl,rfl⟩:=hq
  refine rCtx [D8 b3 bh (D0.mk v11 (.map (some b6)) x10.m),E1 v11 ab x10.l 49,D5 b6 d8 Rp.bool x10.known,p1] ?_
  refine kNo rfl ?_
  exact⟨x9,x10,v11,h,atOk⟩
theorem aqe (x1:List (List B5)) (r:(List A9) × B3) (h:aec x1=some r):Fp 34 [ao (Rp.list af) x1] (bj [ao ab r.1,(ay).val r.2]):=by
 refine c9 (rs:=[.tmp 2,.cell 3 30]) func34 rfl ntmps34 results34 dcd (fun s0=>?_)
 let p1:=B3.mk 0 0 0
 unfold aec at h
 refine W_rs (kAs rfl (bg al30 fun b2=>W_rs ?_))
 let p2:=D8 b2 ay p1
 refine atk d8 Rp.bool (fun b3=>?_)
 let p3:=D0.mk (.slice none 0 0) (.map (some b3)) p1
 refine rEnv 9 (q:=q6.val (.map (some b3))) (a0z rfl) ?_
 refine kUn (fk ao4 ⟨p3,⟨_,rfl,rfl,qbj⟩,rfl⟩) ?_
 refine rBox (R:=bh) (a:=p3) rfl (fun b4=>?_)
 refine kAs rfl (a6 (W_rs (kMvL rfl (kUn (jf rfl underlying24) ?_))))
 refine kMv rfl (az ?_)
 obtain⟨z2l,hz2,h⟩:=ag h
 obtain⟨n2,hN2⟩:=bm hz2
 refine cp 0 (fun e C=>∃x6,∃x8,∃x9,∃v7,af7 x6 x8 x9=some r/\At [(3,Pr.pt b2 0),(4,Pr.pt b4 0)] [p2,D5 b3 d8 Rp.bool x6,D8 b4 bh (D0.mk v7 (.map (some b3)) x8),E1 v7 ab x9 49] e C) ?_ ?_
 ·rintro e C ⟨x6,x8,x9,v7,h,a⟩
  refine W_at a ?_
  unfold af7 at h
  refine W_rs (kMv rfl (kNp rfl (kUn (aj ako) ?_)))
  refine kUn (w8 (R:=bh) (a:=(D0.mk v7 (.map (some b3)) x8)) 2 ty38 z5) ?_
  refine kUn (fk st30 rfl) ?_
  refine kAs rfl (am 0 rfl rfl (Upd.refl _) rfl sizeOf30 ?_)
  refine aly 3 [2] ?_ rfl ⟨rfl,tv⟩
  obtain rfl:=osj h
  exact a7 ⟨rfl,[ao ab x9,(ay).val p1],⟨yT aa,yBox 0 ty30 aa,tv⟩,aa⟩
 refine axl ab 49 ?_
 refine dq (fun m e C=>∃x5,∃x6,∃x8,∃x9,∃v7,ez (fun s=>nk x1 s.1 s.2.1 s.2.2.1 s.2.2.2) m (x5,x6,x8,x9)=some z2l/\At [(3,Pr.pt b2 0),(4,Pr.pt b4 0),(12,ao (Rp.list af) x1),(13,P6 (x1.length:Int)),(14,P6 x5)] [p2,D5 b3 d8 Rp.bool x6,D8 b4 bh (D0.mk v7 (.map (some b3)) x8),E1 v7 ab x9 49] e C) n2 ⟨0,([]:GMap B0 Bool),p1,[],(.slice none 0 0),hN2,⟨⟨aa,aa,aa,aa,aa,tv⟩,A8.refl _⟩⟩ ?_
 rintro m e C ⟨x5,x6,x8,x9,v7,hN2,a⟩
 refine W_at a ?_
 obtain⟨m2,w2l,rfl,h2l,hn2,ho2⟩:=bc hN2
 replace h2l:nk x1 x5 x6 x8 x9=some w2l:=h2l
 unfold nk at h2l
 refine W_rs (kIn rfl rfl rfl (a6 ?_))
 refine a5 h2l rfl (fun _ h2l=>?_) (fun _ h2l=>?_)
 ·refine au (a6 (az (W_rs (kMv rfl ?_))))
  obtain⟨x16,k,h2l⟩:=ag h2l
  refine kUn (du underlying24 sizeOf53 k) ?_
  refine kUn (bz ty53) ?_
  refine kAs rfl (kAsL rfl (W_rs (kMvL rfl (kUn (jf rfl underlying53) ?_))))
  refine kMv rfl (az ?_)
  obtain⟨z4l,hz4,h2l⟩:=ag h2l
  obtain⟨n4,hN4⟩:=bm hz4
  refine cp 2 (fun e C=>∃x18,∃x20,∃x21,∃v19,abo x5 x18 x20 x21=some w2l/\At [(3,Pr.pt b2 0),(4,Pr.pt b4 0),(12,ao (Rp.list af) x1),(13,P6 (x1.length:Int)),(14,P6 x5)] [p2,D5 b3 d8 Rp.bool x18,D8 b4 bh (D0.mk v19 (.map (some b3)) x20),E1 v19 ab x21 49] e C) ?_ ?_
  ·rintro e C ⟨x18,x20,x21,v19,h2l,a⟩
   refine W_at a ?_
   unfold abo at h2l
   refine W_r (kIn rfl rfl rfl (kMv rfl ?_))
   exact⟨m2,lsu,w64 (x5+1),x18,x20,x21,v19,hn2 _ (ojs h2l),atOk⟩
  refine dq (fun m e C=>∃x17,∃x18,∃x20,∃x21,∃v19,ez (fun s=>qm x16 x5 s.1 s.2.1 s.2.2.1 s.2.2.2) m (x17,x18,x20,x21)=some z4l/\At [(3,Pr.pt b2 0),(4,Pr.pt b4 0),(5,P6 x5),(12,ao (Rp.list af) x1),(13,P6 (x1.length:Int)),(14,P6 x5),(19,ao af x16),(20,P6 (x16.length:Int)),(21,P6 x17)] [p2,D5 b3 d8 Rp.bool x18,D8 b4 bh (D0.mk v19 (.map (some b3)) x20),E1 v19 ab x21 49] e C) n4 ⟨0,x6,x8,x9,v7,hN4,⟨⟨aa,aa,aa,aa,aa,aa,aa,aa,aa,tv⟩,A8.refl _⟩⟩ ?_
  rintro m e C ⟨x17,x18,x20,x21,v19,hN4,a⟩
  refine W_at a ?_
  obtain⟨m4,w4l,rfl,h4l,hn4,ho4⟩:=bc hN4
  replace h4l:qm x16 x5 x17 x18 x20 x21=some w4l:=h4l
  unfold qm at h4l
  refine W_rs (kIn rfl rfl rfl (a6 ?_))
  refine a5 h4l rfl (fun _ h4l=>?_) (fun _ h4l=>?_)
  ·refine au (a6 (az (W_rs ?_)))
   obtain⟨x28,k,h4l⟩:=ag h4l
   refine kUn (du underlying53 sizeOf64 k) ?_
   refine kUn (bz ty64) ?_
   refine bg al64 fun b29=>am 4 rfl rfl (Upd.refl _) rfl sizeOf64 ?_
   refine ba (fun e C=>∃x34,∃x36,∃x37,∃x38,∃v35,qn x17 x34 x36 x37 x38=some w4l/\At [(3,Pr.pt b2 0),(4,Pr.pt b4 0),(5,P6 x5),(12,ao (Rp.list af) x1),(13,P6 (x1.length:Int)),(14,P6 x5),(19,ao af x16),(20,P6 (x16.length:Int)),(21,P6 x17),(34,Pb x34)] [D8 b4 bh (D0.mk v35 (.map (some b3)) x36),E1 v35 ab x38 49,D5 b3 d8 Rp.bool x37,p2,D8 b29 af x28] e C) ?_ ?_
   ·rintro e C ⟨x34,x36,x37,x38,v35,h4l,a⟩
    refine W_at a ?_
    unfold qn at h4l
    refine a5 h4l rfl (fun _ h4l=>?_) (fun _ h4l=>?_)
    ·refine ba (fun e C=>abp x36=some w4l/\At [(2,Pi (.slice none 0 0)),(3,Pr.pt b2 0)] [D8 b4 bh (D0.mk v35 (.map (some b3)) x36),E1 v35 ab x38 49,D5 b3 d8 Rp.bool x37,D8 b2 ay x36,D8 b29 af x28] e C) ?_ ?_
     ·rintro e C ⟨h4l,a⟩
      refine W_at a ?_
      unfold abp at h4l
      obtain rfl:=ho4 _ (ojs h4l)
      replace h2l:some (.inr (.done ([],x36)))=some w2l:=h2l
      obtain rfl:=ho2 _ (ojs h2l)
      replace h:some ([],x36)=some r:=h
      obtain rfl:=osj h
      exact a7 ⟨rfl,[ao ab [],(ay).val x36],⟨yT (dr _),yBox 3 ty30 aa,tv⟩,aa⟩
     refine jg 5 hmx kr kr ?_
     refine lUn (hMvA rfl) (lUn (ah2 rfl) (lUn (aj awd) ?_))
     refine lUn (ap 0 ty30 ald) ?_
     refine lUn (hAsA rfl) (am 3 rfl rfl (Upd.refl _) rfl sizeOf30 ?_)
     exact⟨h4l,atOk⟩
    refine au (W_r (kIn rfl rfl rfl (kMv rfl ?_)))
    exact⟨m4,lsu,w64 (x17+1),x37,x36,x38,v35,hn4 _ (ojs h4l),⟨⟨aa,aa,aa,aa,aa,aa,aa,aa,aa,tv⟩,A8.of [3,2,0,1] rfl⟩⟩
   refine W_r (kUn (aj e8) ?_)
   refine kUn (ap 4 ty3 a8) ?_
   refine kIn rfl rfl rfl (kMv rfl ?_)
   rcases bn h4l with⟨hc30,h4l⟩|⟨hc30,h4l⟩
   ·refine kGd rfl aa hc30 (hMvA rfl) (kGd rfl aa hc30 (hMvA rfl) (kGd rfl aa hc30 (ap 4 ty64 (Sub.refl _)) ?_))
    obtain⟨⟨x31,x32⟩,k,h4l⟩:=ag h4l
    refine kOn rfl aa hc30 ?_
    refine gu [2,3,1] (ajr x5 x28 (B4.mk x21 x18 x20) b4 v19 b3 _ k) (fun q C' hq=>?_)
    obtain⟨v33,rfl,rfl⟩:=hq
    refine kGd rfl aa hc30 (qNot rfl) (kPt rfl hc30 rfl ?_)
    exact⟨!x31,x32.m,x32.known,x32.l,v33,h4l,atOk⟩
   refine skx ?_
   refine kPf rfl hc30 rfl ?_
   exact⟨false,x20,x18,x21,v19,h4l,⟨⟨aa,aa,aa,aa,aa,aa,aa,aa,aa,aa,tv⟩,A8.of [2,3,1,0,4] rfl⟩⟩
  refine dp ?_
  obtain rfl:=ho4 _ (ojs h4l)
  exact⟨x18,x20,x21,v19,h2l,atOk⟩
 refine dp ?_
 obtain rfl:=ho2 _ (ojs h2l)
 exact⟨x6,x8,x9,v7,h,atOk⟩
theorem ait (x1:List A9) (x2:Bt) (r:A9 × Bool) (h:adv x1 x2=some r):Fp 124 [ao ab x1,Pr.str x2] (bj [(ab).val r.1,Pb r.2]):=by
 refine c9 (rs:=[.cell 4 49,.tmp 5]) func124 rfl ntmps124 results124 dcd (fun s0=>?_)
 let p1:=A9.mk 0 [] [] [] [] false [] 0 0
 unfold adv at h
 refine W_rs (bg jb fun b3=>kAs rfl (a6 (W_rs (kMvL rfl (kUn (jf rfl underlying38) ?_)))))
 refine kMv rfl (az ?_)
 obtain⟨z2l,hz2,h⟩:=ag h
 obtain⟨n2,hN2⟩:=bm hz2
 refine cp 0 (fun e C=>aiu=some r/\At [(4,Pr.pt b3 0)] [D8 b3 ab p1] e C) ?_ ?_
 ·rintro e C ⟨h,a⟩
  refine W_at a ?_
  unfold aiu at h
  refine W_rs (kUn (fk st49 rfl) ?_)
  refine am 0 rfl rfl (Upd.refl _) rfl sizeOf49 (kAs rfl ?_)
  obtain rfl:=osj h
  exact a7 ⟨rfl,[(ab).val p1,Pb false],⟨yBox 0 ty49 aa,yT aa,tv⟩,aa⟩
 refine dq (fun m e C=>∃x4,ez (fun s=>um x1 x2 s) m x4=some z2l/\At [(1,Pr.str x2),(4,Pr.pt b3 0),(8,ao ab x1),(9,P6 (x1.length:Int)),(10,P6 x4)] [D8 b3 ab p1] e C) n2 ⟨0,hN2,⟨⟨aa,aa,aa,aa,aa,tv⟩,A8.refl _⟩⟩ ?_
 rintro m e C ⟨x4,hN2,a⟩
 refine W_at a ?_
 obtain⟨m2,w2l,rfl,h2l,hn2,ho2⟩:=bc hN2
 replace h2l:um x1 x2 x4=some w2l:=h2l
 unfold um at h2l
 refine W_rs (kIn rfl rfl rfl (a6 ?_))
 refine a5 h2l rfl (fun _ h2l=>?_) (fun _ h2l=>?_)
 ·refine au (a6 (az (W_rs ?_)))
  obtain⟨x7,k,h2l⟩:=ag h2l
  refine kUn (du underlying38 sizeOf49 k) ?_
  refine kUn (bz ty49) ?_
  refine bg jb fun b8=>am 1 rfl rfl (Upd.refl _) rfl sizeOf49 ?_
  refine ba (fun e C=>∃x10,aca x7 x4 x10=some w2l/\At [(1,Pr.str x2),(4,Pr.pt b3 0),(7,Pr.pt b8 0),(8,ao ab x1),(9,P6 (x1.length:Int)),(10,P6 x4),(22,Pb x10)] [D8 b3 ab p1,D8 b8 ab x7] e C) ?_ ?_
  ·rintro e C ⟨x10,h2l,a⟩
   refine W_at a ?_
   unfold aca at h2l
   refine a5 h2l rfl (fun _ h2l=>?_) (fun _ h2l=>?_)
   ·refine W_rs (kUn (ap 1 ty49 (Sub.refl _)) ?_)
    refine am 0 rfl rfl (Upd.refl _) rfl sizeOf49 (kAs rfl ?_)
    obtain rfl:=ho2 _ (ojs h2l)
    replace h:some (x7,true)=some r:=h
    obtain rfl:=osj h
    exact a7 ⟨rfl,[(ab).val x7,Pb true],⟨yBox 0 ty49 aa,yT aa,tv⟩,aa⟩
   refine au (W_r (kIn rfl rfl rfl (kMv rfl ?_)))
   exact⟨m2,lsu,w64 (x4+1),hn2 _ (ojs h2l),⟨⟨aa,aa,aa,aa,aa,tv⟩,A8.of [0] rfl⟩⟩
  refine W_r (kUn (aj ol) ?_)
  refine kUn (ap 1 ty3 db) ?_
  refine kIn rfl rfl rfl (kMv rfl ?_)
  rcases bn h2l with⟨hc9,h2l⟩|⟨hc9,h2l⟩
  ·refine kGd rfl aa hc9 (aj ll) ?_
   refine kGd rfl aa hc9 (ap 1 ty9 dw) ?_
   refine kGd rfl aa hc9 (hMvA rfl) (kGd rfl aa hc9 (qStr rfl rfl rfl) (kPt rfl hc9 rfl ?_))
   exact⟨x7.Id==x2,h2l,atOk⟩
  refine skx ?_
  refine kPf rfl hc9 rfl ?_
  exact⟨false,h2l,atOk⟩
 refine dp ?_
 obtain rfl:=ho2 _ (ojs h2l)
 exact⟨h,atOk⟩
theorem aj3 {σ:Type} (yld:σ->A9->Option (Bool × σ)) (Y:YI σ) (l:Nat) (hY:YOK Tryz.prog Y l (fun a=>[(ab).val a]) yld) (x2:List A9) (x4:Bt) (x5:σ) (b1 b3:Nat) (v6:List Nat) (r:(List A9) × Bt × (σ)) (h:aar yld x2 x4 x5=some r):Fc 153 ([]++[aev l]++[Pr.pt b1 0,Pr.pt b3 0]) ([D8 b1 (Rp.list ab) x2,D8 b3 Rp.str x4]++[E0 Y x5 v6]) (fun _ C'=>∃w9,C'=[D8 b1 (Rp.list ab) r.1,D8 b3 Rp.str r.2.1]++[E0 Y r.2.2 w9]):=by
 refine gz (rs:=[]) func153 rfl ntmps153 ⟨by decide,results153⟩ dcd (fun s0=>?_)
 unfold aar at h
 refine W_rs ?_
 refine av5 Rp.bool (fun b7=>?_)
 refine kUn (hAs (out:=qt b7) rfl) (az ?_)
 obtain⟨n1,hN1⟩:=bm h
 refine dq (fun m e C=>∃x8,∃x9,∃x11,∃v10,ez (fun s=>kg yld x2 s.1 s.2.1 s.2.2) m (x8,x9,x11)=some r/\At [(0,aev l),(1,Pr.pt b1 0),(2,Pr.pt b3 0),(4,qt b7)] [D8 b1 (Rp.list ab) x2,D8 b3 Rp.str x8,E0 Y x9 v10,D7 b7 Rp.bool x11] e C) n1 ⟨x4,x5,([]:SMap Bool),v6,hN1,⟨⟨aa,aa,aa,aa,tv⟩,A8.refl _⟩⟩ ?_
 rintro m e C ⟨x8,x9,x11,v10,hN1,a⟩
 refine W_at a ?_
 obtain⟨m1,w1l,rfl,h1l,hn1,ho1⟩:=bc hN1
 replace h1l:kg yld x2 x8 x9 x11=some w1l:=h1l
 unfold kg at h1l
 refine az (W_rs (kUn (ap 0 ty38 (Sub.refl _)) ?_))
 refine kUn (ap 1 ty9 (Sub.refl _)) ?_
 obtain⟨⟨x16,x17⟩,k,h1l⟩:=ag h1l
 refine kUn (c7 (ait x2 x8 _ k)) ?_
 refine kUn (hMv (out:=bj [(ab).val x16,Pb x17]) rfl) (kUn al ?_)
 refine kUn al ?_
 refine bg jb fun b18=>am 4 rfl rfl (Upd.refl _) rfl sizeOf49 (kAs rfl (a6 ?_))
 refine ba (fun e C=>∃x28,∃x29,∃v30,qk yld x2 x8 x16 x11 x28 x29=some w1l/\At [(0,aev l),(1,Pr.pt b1 0),(2,Pr.pt b3 0),(4,qt b7),(5,Pr.pt b18 0),(26,Pb x28)] [E0 Y x29 v30,D8 b1 (Rp.list ab) x2,D8 b3 Rp.str x8,D7 b7 Rp.bool x11,D8 b18 ab x16] e C) ?_ ?_
 ·rintro e C ⟨x28,x29,v30,h1l,a⟩
  refine W_at a ?_
  unfold qk at h1l
  refine a5 h1l rfl (fun _ h1l=>?_) (fun _ h1l=>?_)
  ·have h:some (x2,x8,x29)=some r:=congrArg some (ho1 _ (ojs h1l))
   obtain rfl:=osj h
   exact a7 ⟨.inl rfl,_,A8.of [1,2,0] rfl,_,aa,v30,rfl⟩
  refine au (W_rs (kUn (hMv (out:=qt b7) rfl) (kUn (ap 2 ty9 (Sub.refl _)) ?_)))
  refine ax2 (R:=Rp.bool) (m:=x11) (kx:=x8) (v:=true) 3 underlying182 underlying9 ?_
  refine W_r (kUn (aj tj) ?_)
  refine kUn (ap 4 ty9 dm) ?_
  refine am 2 rfl rfl (Upd.refl _) rfl sizeOf9 ?_
  exact⟨m1,lsu,x16.Type_,x29,(mset x8 true x11),v30,hn1 _ (ojs h1l),⟨⟨aa,aa,aa,aa,tv⟩,A8.of [1,2,0,3] rfl⟩⟩
 refine W_r (kMv rfl (kNo rfl (kMv rfl ?_)))
 rcases bn h1l with⟨hc19,h1l⟩|⟨hc19,h1l⟩
 ·refine skx ?_
  refine kPt rfl hc19 rfl (kMv rfl ?_)
  have hc24:true=true:=rfl
  refine skx ?_
  refine kPt rfl hc24 rfl ?_
  exact⟨true,x9,v10,h1l,⟨⟨aa,aa,aa,aa,aa,aa,tv⟩,A8.of [2,0,1,3,4] rfl⟩⟩
 refine kGd rfl aa hc19 (hMv (out:=qt b7) rfl) (kGd rfl aa hc19 (ap 1 ty9 (Sub.refl _)) ?_)
 refine kGd rfl aa hc19 (ax5 (R:=Rp.bool) (m:=x11) (kx:=x8) (z:=false) 3 underlying182 underlying9 zeroValue4 (fun _=>rfl)) ?_
 refine kPf rfl hc19 rfl (kMv rfl ?_)
 rcases bn h1l with⟨hc20,h1l⟩|⟨hc20,h1l⟩
 ·refine skx ?_
  refine kPt rfl hc20 rfl ?_
  exact⟨true,x9,v10,h1l,⟨⟨aa,aa,aa,aa,aa,aa,tv⟩,A8.of [2,0,1,3,4] rfl⟩⟩
 refine kGd rfl aa hc20 (hMv (out:=aev l) rfl) (kGd rfl aa hc20 (ap 4 ty49 (Sub.refl _)) ?_)
 obtain⟨⟨x21,x22⟩,k,h1l⟩:=ag h1l
 refine kOn rfl aa hc20 ?_
 refine axp 2 (a:=(x16)) hY k (fun v23=>?_)
 refine kGd rfl aa hc20 (qNot rfl) (kPf rfl hc20 rfl ?_)
 exact⟨!x21,x22,v23,h1l,atOk⟩
theorem am6 (x1:List A9) (x2:Bt):Fc 109 [ao ab x1,Pr.str x2] [] (fun q C'=>∃b3 b4,q=tk 153 [] [Pr.pt b3 0,Pr.pt b4 0]/\C'=[D8 b3 (Rp.list ab) x1,D8 b4 Rp.str x2]):=by
 refine gz (rs:=[4]) func109 rfl ntmps109 ⟨by decide,results109⟩ dcd (fun s0=>?_)
 refine W_rs ?_
 refine rBox (R:=Rp.list ab) (a:=x1) rfl (fun b3=>?_)
 refine rBox (R:=Rp.str) (a:=x2) rfl (fun b4=>?_)
 refine kAs rfl (W_rs (kUn ud ?_))
 refine kUn (hAs (out:=tk 153 [] [Pr.pt b3 0,Pr.pt b4 0]) rfl) ?_
 exact a7 ⟨.inl rfl,_,A8.refl _,_,aa,b3,b4,rfl,rfl⟩
theorem auh (x1:List A9) (x2 x3:Bt) (r:Bool) (h:aim x1 x2 x3=some r):Fp 60 [ao ab x1,Pr.str x2,Pr.str x3] (Pb r):=by
 refine c9 (n:=16) (rs:=[.cell 6 4]) func60 rfl ntmps60 results60 dcd (fun s0=>?_)
 unfold aim at h
 refine W_rs ?_
 refine rBox (R:=Rp.str) (a:=x3) rfl (fun b4=>?_)
 refine agl (R:=Rp.bool) (z:=false) zeroValue4 (fun _=>rfl) (fun b5=>?_)
 refine azl ?_
 refine W_r ?_
 refine rq (out:=ao ab x1) fr ?_
 refine rq (out:=Pr.str x2) fr ?_
 refine gu [] (am6 x1 x2) (fun q C' hq=>?_)
 obtain⟨b6,b7,rfl,rfl⟩:=hq
 refine⟨rfl,?_⟩
 obtain⟨⟨x11,x12,x15⟩,k,h⟩:=ag h
 refine ash [0,1] (fun _=> .ret) (fun(s:(Unit) ⊕ (A9)) C=>match s with| .inl s=>C=[D8 b4 Rp.str x3,D8 b5 Rp.bool false]| .inr s=>∃b9,C=[D8 b4 Rp.str x3,D8 b5 Rp.bool true,D8 b9 ab s]) (encs:=(fun(a:A9)=>[(ab).val a])) (yld:=(fun(s:Unit) (a:A9)=>uo x3 a)) (st0:=()) (stF:=x15) (Ccap':=[D8 b6 (Rp.list ab) x11,D8 b7 Rp.str x12]) (fun l Y L hY=>aj3 _ Y l hY x1 x2 (.inl ()) b6 b7 L _ k) rfl (fun _=>rfl) ?_ ?_ (fun _ _ _ h=>h.1)
 ·rintro l _ x8 rr1 C T s0 rfl hy1
  replace hy1:uo x3 x8=some rr1:=hy1
  unfold uo at hy1
  refine W_r ?_
  refine agl (R:=ab) (z:=(A9.mk 0 [] [] [] [] false [] 0 0)) zeroValue49 (fun _=>⟨_,⟨_,_,rfl,rfl,⟨_,_,rfl,rfl,⟨_,_,rfl,rfl,⟨_,_,rfl,rfl,⟨_,_,rfl,rfl,⟨_,_,rfl,rfl,⟨_,_,rfl,⟨_,rfl,none,0,rfl,⟨Nat.le_refl _,fun _=>rfl⟩,.inl rfl⟩,⟨_,_,rfl,rfl,⟨_,_,rfl,rfl,rfl⟩⟩⟩⟩⟩⟩⟩⟩⟩,rfl⟩) (fun b9=>?_)
  refine aaa (R:=ab) (R':=ab) (a:=(A9.mk 0 [] [] [] [] false [] 0 0)) (y:=x8) 2 sizeOf49 (Upd.refl _) ?_
  refine⟨rfl,fun T s0=>?_⟩
  refine aob ?_
  refine az ?_
  refine W_rs ?_
  refine rq (out:=Pr.pt b9 1) (aj ll) ?_
  refine rq (out:=Pr.str x8.Id) (ap (R:=ab) (a:=x8) (R':=Rp.str) 2 ty9 dw) ?_
  refine rq (out:=Pr.str x3) (ap (R:=Rp.str) (a:=x3) (R':=Rp.str) 0 ty9 (Sub.refl _)) ?_
  refine rq (out:=Pb (x8.Id==x3)) qStr ?_
  refine am1 (b:=x8.Id==x3) rfl (fun hc10=>?_) (fun hc10=>?_)
  ·replace hy1:=iteT hc10 hy1
   refine W_rs ?_
   refine aaa (R:=Rp.bool) (R':=Rp.bool) (a:=false) (y:=true) 1 sizeOf4 (Upd.refl _) ?_
   obtain rfl:=Option.some.inj hy1
   exact a7 ⟨_,A8.refl _,.inr ⟨_,rfl,rfl,b9,rfl⟩⟩
  replace hy1:=iteF hc10 hy1
  refine au ?_
  obtain rfl:=Option.some.inj hy1
  exact⟨_,A8.of [0,1] rfl,.inl ⟨rfl,_,rfl,rfl⟩⟩
 intro D C' hj
 cases x15 with
 |inl x13=>
  replace h:(some false)=some r:=h
  obtain rfl:=hj
  intro T s0
  refine W_rs ?_
  refine aaa (R:=Rp.bool) (R':=Rp.bool) (a:=false) (y:=false) 3 sizeOf4 (Upd.refl _) ?_
  obtain rfl:=Option.some.inj h
  exact a7 ⟨rfl,[Pb false],⟨yBox 3 ty4 aa,tv⟩,aa⟩
 |inr x16=>
  replace h:(some true)=some r:=h
  obtain⟨b9,rfl⟩:=hj
  obtain rfl:=Option.some.inj h
  exact .inr ⟨rfl,⟨rfl,[Pb true],⟨yBox 3 ty4 aa,tv⟩,aa⟩⟩
theorem aq2 (x1:List A9) (x2:Bt) (x3:(A9->Option Bool)) (r:A9 × Bool) (h:al5 x1 x2 x3=some r):Fp 155 [ao ab x1,Pr.str x2,d9 Tryz.prog (xu x3)] (bj [(ab).val r.1,Pb r.2]):=by
 refine c9 (n:=37) (rs:=[.cell 6 49,.tmp 7]) func155 rfl ntmps155 results155 dcd (fun s0=>?_)
 unfold al5 at h
 refine W_rs ?_
 refine rBox (R:=Rp.list ab) (a:=x1) rfl (fun b4=>?_)
 refine rBox (R:=Rp.fn (fun x=>d9 Tryz.prog (xu x)) ack) (a:=x3) rfl (fun b5=>?_)
 refine agl (R:=ab) (z:=(A9.mk 0 [] [] [] [] false [] 0 0)) zeroValue49 (fun _=>⟨_,⟨_,_,rfl,rfl,⟨_,_,rfl,rfl,⟨_,_,rfl,rfl,⟨_,_,rfl,rfl,⟨_,_,rfl,rfl,⟨_,_,rfl,rfl,⟨_,_,rfl,⟨_,rfl,none,0,rfl,⟨Nat.le_refl _,fun _=>rfl⟩,.inl rfl⟩,⟨_,_,rfl,rfl,⟨_,_,rfl,rfl,rfl⟩⟩⟩⟩⟩⟩⟩⟩⟩,rfl⟩) (fun b6=>?_)
 refine rq (out:=Pb false) f7 ?_
 refine W_scope ?_
 refine W_rs ?_
 refine agl (R:=ab) (z:=(A9.mk 0 [] [] [] [] false [] 0 0)) zeroValue49 (fun _=>⟨_,⟨_,_,rfl,rfl,⟨_,_,rfl,rfl,⟨_,_,rfl,rfl,⟨_,_,rfl,rfl,⟨_,_,rfl,rfl,⟨_,_,rfl,rfl,⟨_,_,rfl,⟨_,rfl,none,0,rfl,⟨Nat.le_refl _,fun _=>rfl⟩,.inl rfl⟩,⟨_,_,rfl,rfl,⟨_,_,rfl,rfl,rfl⟩⟩⟩⟩⟩⟩⟩⟩⟩,rfl⟩) (fun b7=>?_)
 refine W_rs ?_
 refine agl (R:=Rp.bool) (z:=false) zeroValue4 (fun _=>rfl) (fun b8=>?_)
 refine aaa (R:=Rp.bool) (R':=Rp.bool) (a:=false) (y:=false) 4 sizeOf4 (Upd.refl _) ?_
 refine a6 ?_
 refine W_label ?_
 refine azl ?_
 refine W_r ?_
 refine rq (out:=ao ab x1) (ap (R:=Rp.list ab) (a:=x1) (R':=Rp.list ab) 0 ty38 (Sub.refl _)) ?_
 refine rq (out:=Pr.str x2) fr ?_
 refine gu [] (am6 x1 x2) (fun q C' hq=>?_)
 obtain⟨b9,b10,rfl,rfl⟩:=hq
 refine⟨rfl,?_⟩
 obtain⟨⟨x22,x23,x26⟩,k,h⟩:=ag h
 refine ash [0,1] (fun _=> .exit 0) (fun(s:(Unit) ⊕ (A9 × A9)) C=>match s with| .inl s=>C=[D8 b4 (Rp.list ab) x1,D8 b5 (Rp.fn (fun x=>d9 Tryz.prog (xu x)) ack) x3,D8 b6 ab (A9.mk 0 [] [] [] [] false [] 0 0),D8 b7 ab (A9.mk 0 [] [] [] [] false [] 0 0),D8 b8 Rp.bool false]| .inr s=>∃b12,∃b17,C=[D8 b4 (Rp.list ab) x1,D8 b5 (Rp.fn (fun x=>d9 Tryz.prog (xu x)) ack) x3,D8 b6 ab (A9.mk 0 [] [] [] [] false [] 0 0),D8 b7 ab s.1,D8 b8 Rp.bool true,D8 b12 ab s.2,D8 b17 ab s.1]) (encs:=(fun(a:A9)=>[(ab).val a])) (yld:=(fun(s:Unit) (a:A9)=>yo x1 x3 a)) (st0:=()) (stF:=x26) (Ccap':=[D8 b9 (Rp.list ab) x22,D8 b10 Rp.str x23]) (fun l Y L hY=>aj3 _ Y l hY x1 x2 (.inl ()) b9 b10 L _ k) rfl (fun _=>rfl) ?_ ?_ (fun x _ _ h=>by cases x<;>first|exact h.1|exact h.elim)
 ·rintro l _ x11 rr1 C T s0 rfl hy1
  replace hy1:yo x1 x3 x11=some rr1:=hy1
  unfold yo at hy1
  refine W_r ?_
  refine agl (R:=ab) (z:=(A9.mk 0 [] [] [] [] false [] 0 0)) zeroValue49 (fun _=>⟨_,⟨_,_,rfl,rfl,⟨_,_,rfl,rfl,⟨_,_,rfl,rfl,⟨_,_,rfl,rfl,⟨_,_,rfl,rfl,⟨_,_,rfl,rfl,⟨_,_,rfl,⟨_,rfl,none,0,rfl,⟨Nat.le_refl _,fun _=>rfl⟩,.inl rfl⟩,⟨_,_,rfl,rfl,⟨_,_,rfl,rfl,rfl⟩⟩⟩⟩⟩⟩⟩⟩⟩,rfl⟩) (fun b12=>?_)
  refine aaa (R:=ab) (R':=ab) (a:=(A9.mk 0 [] [] [] [] false [] 0 0)) (y:=x11) 5 sizeOf49 (Upd.refl _) ?_
  refine⟨rfl,fun T s0=>?_⟩
  refine aob ?_
  refine az ?_
  refine W_rs ?_
  refine rq (out:=ao ab x1) (ap (R:=Rp.list ab) (a:=x1) (R':=Rp.list ab) 0 ty38 (Sub.refl _)) ?_
  refine rq (out:=P6 (x1.length:Int)) (jf rfl underlying38) ?_
  refine rq (out:=P6 0) fr ?_
  refine az ?_
  obtain⟨z3l,hz3,hy1⟩:=ag hy1
  obtain⟨n3,hN3⟩:=bm hz3
  clear hz3
  refine cp 2 (fun e C=>amn=some rr1/\At [] [D8 b4 (Rp.list ab) x1,D8 b5 (Rp.fn (fun x=>d9 Tryz.prog (xu x)) ack) x3,D8 b6 ab (A9.mk 0 [] [] [] [] false [] 0 0),D8 b7 ab (A9.mk 0 [] [] [] [] false [] 0 0),D8 b8 Rp.bool false,D8 b12 ab x11] e C) ?_ ?_
  ·rintro e C ⟨hy1,a⟩
   unfold amn at hy1
   obtain rfl:=Option.some.inj hy1
   exact⟨_,(A8.trans a.2 (A8.of [0,1,2,3,4] rfl)),.inl ⟨rfl,_,rfl,rfl⟩⟩
  refine dq (fun m e C=>∃x13,ez (fun s=>aai x1 x11 x3 s) m x13=some z3l/\At [(5,Pr.pt b5 0),(6,Pr.pt b6 0),(8,Pr.pt b7 0),(9,Pr.pt b8 0),(10,Pr.pt b12 0),(17,ao ab x1),(18,P6 (x1.length:Int)),(19,P6 x13)] [D8 b4 (Rp.list ab) x1,D8 b5 (Rp.fn (fun x=>d9 Tryz.prog (xu x)) ack) x3,D8 b6 ab (A9.mk 0 [] [] [] [] false [] 0 0),D8 b7 ab (A9.mk 0 [] [] [] [] false [] 0 0),D8 b8 Rp.bool false,D8 b12 ab x11] e C) n3 ⟨0,hN3,⟨⟨aa,aa,aa,aa,aa,aa,aa,aa,tv⟩,A8.refl _⟩⟩ ?_
  clear hN3
  rintro m e C ⟨x13,hN3,a⟩
  refine W_at a ?_
  clear a
  obtain⟨m3,w3l,rfl,h3l,hn3,ho3⟩:=bc hN3
  clear hN3
  replace h3l:aai x1 x11 x3 x13=some w3l:=h3l
  unfold aai at h3l
  refine W_rs ?_
  refine rq (out:=Pb (decide (x13<(x1.length:Int)))) qInt ?_
  refine a6 ?_
  refine am1 (b:=decide (x13<(x1.length:Int))) rfl (fun hc15=>?_) (fun hc15=>?_)
  ·replace h3l:=iteT hc15 h3l
   refine au ?_
   refine a6 ?_
   refine az ?_
   refine W_rs ?_
   obtain⟨x16,k,h3l⟩:=ag h3l
   refine rq (out:=mq ab x16) (du (R:=ab) (l:=x1) underlying38 sizeOf49 k) ?_
   refine rq (out:=(ab).val x16) (bz (R:=ab) (a:=x16) ty49) ?_
   refine agl (R:=ab) (z:=(A9.mk 0 [] [] [] [] false [] 0 0)) zeroValue49 (fun _=>⟨_,⟨_,_,rfl,rfl,⟨_,_,rfl,rfl,⟨_,_,rfl,rfl,⟨_,_,rfl,rfl,⟨_,_,rfl,rfl,⟨_,_,rfl,rfl,⟨_,_,rfl,⟨_,rfl,none,0,rfl,⟨Nat.le_refl _,fun _=>rfl⟩,.inl rfl⟩,⟨_,_,rfl,rfl,⟨_,_,rfl,rfl,rfl⟩⟩⟩⟩⟩⟩⟩⟩⟩,rfl⟩) (fun b17=>?_)
   refine aaa (R:=ab) (R':=ab) (a:=(A9.mk 0 [] [] [] [] false [] 0 0)) (y:=x16) 6 sizeOf49 (Upd.refl _) ?_
   refine ba (fun e C=>∃x20,ag1 x16 x11 x13 x20=some w3l/\At [(5,Pr.pt b5 0),(6,Pr.pt b6 0),(8,Pr.pt b7 0),(9,Pr.pt b8 0),(10,Pr.pt b12 0),(12,Pr.pt b17 0),(17,ao ab x1),(18,P6 (x1.length:Int)),(19,P6 x13),(32,Pb x20)] [D8 b4 (Rp.list ab) x1,D8 b5 (Rp.fn (fun x=>d9 Tryz.prog (xu x)) ack) x3,D8 b6 ab (A9.mk 0 [] [] [] [] false [] 0 0),D8 b7 ab (A9.mk 0 [] [] [] [] false [] 0 0),D8 b8 Rp.bool false,D8 b12 ab x11,D8 b17 ab x16] e C) ?_ ?_
   ·rintro e C ⟨x20,h3l,a⟩
    refine W_at a ?_
    clear a
    unfold ag1 at h3l
    refine am1 (b:=x20) rfl (fun hc21=>?_) (fun hc21=>?_)
    ·replace h3l:=iteT hc21 h3l
     refine W_rs ?_
     refine rq (out:=(ab).val x16) (ap (R:=ab) (a:=x16) (R':=ab) 6 ty49 (Sub.refl _)) ?_
     refine aaa (R:=ab) (R':=ab) (a:=(A9.mk 0 [] [] [] [] false [] 0 0)) (y:=x16) 3 sizeOf49 (Upd.refl _) ?_
     refine aaa (R:=Rp.bool) (R':=Rp.bool) (a:=false) (y:=true) 4 sizeOf4 (Upd.refl _) ?_
     obtain rfl:=ho3 _ (ojs h3l)
     replace hy1:some (false,.inr (x16,x11))=some rr1:=hy1
     obtain rfl:=Option.some.inj hy1
     exact dp ⟨_,A8.refl _,.inr ⟨_,rfl,rfl,b12,b17,rfl⟩⟩
    replace h3l:=iteF hc21 h3l
    refine au ?_
    refine W_r ?_
    refine rq (out:=P6 (w64 (x13+1))) qInt ?_
    refine rq (out:=P6 (w64 (x13+1))) fr ?_
    exact⟨m3,lsu,w64 (x13+1),hn3 _ (ojs h3l),⟨⟨aa,aa,aa,aa,aa,aa,aa,aa,tv⟩,A8.of [0,1,2,3,4,5] rfl⟩⟩
   refine W_r ?_
   refine rq (out:=Pr.pt b17 3) (aj aid) ?_
   refine rq (out:=Pr.str x16.Owner) (ap (R:=ab) (a:=x16) (R':=Rp.str) 6 ty9 km) ?_
   refine rq (out:=Pr.pt b12 1) (aj ll) ?_
   refine rq (out:=Pr.str x11.Id) (ap (R:=ab) (a:=x11) (R':=Rp.str) 5 ty9 dw) ?_
   refine rq (out:=Pb (x16.Owner==x11.Id)) qStr ?_
   refine rq (out:=Pb (x16.Owner==x11.Id)) fr ?_
   rcases bn h3l with⟨hc18,h3l⟩|⟨hc18,h3l⟩
   ·refine rqg hc18 (out:=d9 Tryz.prog (xu x3)) (ap (R:=Rp.fn (fun x=>d9 Tryz.prog (xu x)) ack) (a:=x3) (R':=Rp.fn (fun x=>d9 Tryz.prog (xu x)) ack) 1 ty148 (Sub.refl _)) ?_
    refine rqg hc18 (out:=(ab).val x16) (ap (R:=ab) (a:=x16) (R':=ab) 6 ty49 (Sub.refl _)) ?_
    obtain⟨x19,k,h3l⟩:=ag h3l
    refine rqg hc18 (out:=Pb x19) (anw (spec:=xu x3) ⟨_,_,rfl,rfl,k⟩) ?_
    refine rq (out:=Pb x19) (a0v hc18) ?_
    exact⟨x19,h3l,⟨⟨aa,aa,aa,aa,aa,aa,aa,aa,aa,aa,tv⟩,A8.refl _⟩⟩
   refine rno (neT hc18) ?_
   refine rno (neT hc18) ?_
   refine rno (neT hc18) ?_
   refine rq (out:=Pb false) (a0w hc18) ?_
   exact⟨false,h3l,⟨⟨aa,aa,aa,aa,aa,aa,aa,aa,aa,aa,tv⟩,A8.refl _⟩⟩
  replace h3l:=iteF hc15 h3l
  refine dp ?_
  obtain rfl:=ho3 _ (ojs h3l)
  exact⟨hy1,⟨trivial,A8.refl _⟩⟩
 intro D C' hj
 cases x26 with
 |inl x24=>
  replace h:(ag0)=some r:=h
  obtain rfl:=hj
  intro T s0
  refine ba (fun e C=>ag0=some r/\At [(6,Pr.pt b6 0),(7,Pb false)] [D8 b9 (Rp.list ab) x22,D8 b10 Rp.str x23,D8 b4 (Rp.list ab) x1,D8 b5 (Rp.fn (fun x=>d9 Tryz.prog (xu x)) ack) x3,D8 b6 ab (A9.mk 0 [] [] [] [] false [] 0 0),D8 b7 ab (A9.mk 0 [] [] [] [] false [] 0 0),D8 b8 Rp.bool false] e C) ?_ ?_
  ·rintro e C ⟨h,a⟩
   refine W_at a ?_
   clear a
   unfold ag0 at h
   obtain rfl:=Option.some.inj h
   exact a7 ⟨rfl,[(ab).val (A9.mk 0 [] [] [] [] false [] 0 0),Pb false],⟨yBox 4 ty49 aa,yT aa,tv⟩,aa⟩
  refine fc [(2,4,D8 b6 ab (A9.mk 0 [] [] [] [] false [] 0 0))] [D8 b9 (Rp.list ab) x22,D8 b10 Rp.str x23,D8 b4 (Rp.list ab) x1,D8 b5 (Rp.fn (fun x=>d9 Tryz.prog (xu x)) ack) x3,D8 b6 ab (A9.mk 0 [] [] [] [] false [] 0 0),D8 b7 ab (A9.mk 0 [] [] [] [] false [] 0 0),D8 b8 Rp.bool false] hmx kr kr (show([2]:List Nat).Nodup by decide) (show([4]:List Nat).Nodup by decide) rfl rfl ?_
  refine eql 5 ty49 (Sub.refl _) rfl rfl kr ?_
  refine eql 6 ty4 (Sub.refl _) rfl rfl kr ?_
  refine eqs 4 sizeOf49 (Upd.refl _) rfl rfl rfl kr ?_
  refine eq1 (out:=Pb false) (fun C2 hC=>f7) ?_
  exact⟨h,⟨⟨aa,aa,tv⟩,A8.refl _⟩⟩
 |inr x27=>
  replace h:(agz x27)=some r:=h
  obtain⟨b12,b17,rfl⟩:=hj
  refine .inl ⟨rfl,fun T s0=>?_⟩
  refine ba (fun e C=>agz x27=some r/\At [(6,Pr.pt b6 0),(7,Pb true)] [D8 b9 (Rp.list ab) x22,D8 b10 Rp.str x23,D8 b4 (Rp.list ab) x1,D8 b5 (Rp.fn (fun x=>d9 Tryz.prog (xu x)) ack) x3,D8 b6 ab x27.1,D8 b7 ab x27.1,D8 b8 Rp.bool true,D8 b12 ab x27.2,D8 b17 ab x27.1] e C) ?_ ?_
  ·rintro e C ⟨h,a⟩
   refine W_at a ?_
   clear a
   unfold agz at h
   obtain rfl:=Option.some.inj h
   exact a7 ⟨rfl,[(ab).val x27.1,Pb true],⟨yBox 4 ty49 aa,yT aa,tv⟩,aa⟩
  refine fc [(2,4,D8 b6 ab x27.1)] [D8 b9 (Rp.list ab) x22,D8 b10 Rp.str x23,D8 b4 (Rp.list ab) x1,D8 b5 (Rp.fn (fun x=>d9 Tryz.prog (xu x)) ack) x3,D8 b6 ab x27.1,D8 b7 ab x27.1,D8 b8 Rp.bool true,D8 b12 ab x27.2,D8 b17 ab x27.1] hmx kr kr (show([2]:List Nat).Nodup by decide) (show([4]:List Nat).Nodup by decide) rfl rfl ?_
  refine eql 5 ty49 (Sub.refl _) rfl rfl kr ?_
  refine eql 6 ty4 (Sub.refl _) rfl rfl kr ?_
  refine eqs 4 sizeOf49 (Upd.refl _) rfl rfl rfl kr ?_
  refine eq1 (out:=Pb true) (fun C2 hC=>f7) ?_
  exact⟨h,⟨⟨aa,aa,tv⟩,A8.refl _⟩⟩
theorem aqc (x1:A9) (x2:Bt) (r:Bool) (h:aea x1 x2=some r):Fp 156 [(ab).val x1,mq Rp.str x2] (Pb r):=by
 refine c8 (rs:=[3]) func156 rfl ntmps156 ⟨by decide,results156⟩ dcd (fun s0=>?_)
 unfold aea at h
 refine W_rs ?_
 refine rBox (R:=ab) (a:=x1) rfl (fun b3=>?_)
 refine kAs rfl ?_
 refine ba (fun e C=>∃x5,w4 x5=some r/\At [(3,Pb x5)] [D8 b3 ab x1] e C) ?_ ?_
 ·rintro e C ⟨x5,h,a⟩
  refine W_at a ?_
  unfold w4 at h
  obtain rfl:=osj h
  exact a7 ⟨rfl,aa⟩
 refine W_r (kUn (aj ol) ?_)
 refine kUn (ap 0 ty3 db) ?_
 refine kIn rfl rfl rfl (kMv rfl ?_)
 rcases bn h with⟨hc4,h⟩|⟨hc4,h⟩
 ·refine kGd rfl aa hc4 (aj aaf) ?_
  refine kGd rfl aa hc4 (ap 0 ty9 f0) ?_
  refine kGd rfl aa hc4 (bz ty9) ?_
  refine kGd rfl aa hc4 (qStr rfl rfl rfl) (kPt rfl hc4 rfl (kAs rfl ?_))
  exact⟨x1.Name==x2,h,atOk⟩
 refine skx ?_
 refine kPf rfl hc4 rfl (kAs rfl ?_)
 exact⟨false,h,atOk⟩
theorem aiw (x1:List A9) (x2 x3:Bt) (r:A9 × Bool) (h:wb x1 x2 x3=some r):Fp 113 [ao ab x1,Pr.str x2,Pr.str x3] (bj [(ab).val r.1,Pb r.2]):=by
 refine c9 (rs:=[.cell 6 49,.tmp 7]) func113 rfl ntmps113 results113 dcd (fun s0=>?_)
 unfold wb at h
 refine W_rs ?_
 refine rBox (R:=Rp.str) (a:=x3) rfl (fun b4=>?_)
 refine bg jb fun b5=>kAs rfl (W_rs (kMvL rfl (kMv rfl ?_)))
 refine rRelB 0 [5] ?_ rfl ⟨rfl,tv⟩
 refine kUn ud ?_
 obtain⟨⟨x6,x7⟩,k,h⟩:=ag h
 refine kUn (adt (aq2 x1 x2 (fun a0=>aea a0 x3) _ k) ⟨aa,aa,(ayf en156 (fun _ _ hs=>by obtain⟨a0,r,rfl,rfl,hr⟩:=hs;exact aqc a0 x3 r hr)),tv⟩) ?_
 refine kUn al ?_
 refine kUn al ?_
 refine am 0 rfl rfl (Upd.refl _) rfl sizeOf49 (kAs rfl ?_)
 obtain rfl:=osj h
 exact a7 ⟨rfl,[(ab).val x6,Pb x7],⟨yBox 0 ty49 aa,yT aa,tv⟩,aa⟩
theorem apk (x1:A9) (x2:Bt) (r:Bool) (h:acb x1 x2=some r):Fp 157 [(ab).val x1,mq Rp.str x2] (Pb r):=by
 refine c8 (rs:=[3]) func157 rfl ntmps157 ⟨by decide,results157⟩ dcd (fun s0=>?_)
 unfold acb at h
 refine W_rs ?_
 refine rBox (R:=ab) (a:=x1) rfl (fun b3=>?_)
 refine kAs rfl ?_
 refine ba (fun e C=>∃x5,uz x5=some r/\At [(3,Pb x5)] [D8 b3 ab x1] e C) ?_ ?_
 ·rintro e C ⟨x5,h,a⟩
  refine W_at a ?_
  unfold uz at h
  obtain rfl:=osj h
  exact a7 ⟨rfl,aa⟩
 refine W_r (kUn (aj ol) ?_)
 refine kUn (ap 0 ty3 db) ?_
 refine kIn rfl rfl rfl (kMv rfl ?_)
 rcases bn h with⟨hc4,h⟩|⟨hc4,h⟩
 ·refine kGd rfl aa hc4 (aj aaf) ?_
  refine kGd rfl aa hc4 (ap 0 ty9 f0) ?_
  refine kGd rfl aa hc4 (bz ty9) ?_
  refine kGd rfl aa hc4 (qStr rfl rfl rfl) (kPt rfl hc4 rfl (kAs rfl ?_))
  exact⟨x1.Name==x2,h,atOk⟩
 refine skx ?_
 refine kPf rfl hc4 rfl (kAs rfl ?_)
 exact⟨false,h,atOk⟩
theorem ahm (x1:List A9) (x2 x3:Bt) (r:A9 × Bool) (h:vg x1 x2 x3=some r):Fp 117 [ao ab x1,Pr.str x2,Pr.str x3] (bj [(ab).val r.1,Pb r.2]):=by
 refine c9 (rs:=[.cell 6 49,.tmp 7]) func117 rfl ntmps117 results117 dcd (fun s0=>?_)
 unfold vg at h
 refine W_rs ?_
 refine rBox (R:=Rp.str) (a:=x3) rfl (fun b4=>?_)
 refine bg jb fun b5=>kAs rfl (W_rs (kMvL rfl (kMv rfl ?_)))
 refine rRelB 0 [5] ?_ rfl ⟨rfl,tv⟩
 refine kUn ud ?_
 obtain⟨⟨x6,x7⟩,k,h⟩:=ag h
 refine kUn (adt (aq2 x1 x2 (fun a0=>acb a0 x3) _ k) ⟨aa,aa,(ayf en157 (fun _ _ hs=>by obtain⟨a0,r,rfl,rfl,hr⟩:=hs;exact apk a0 x3 r hr)),tv⟩) ?_
 refine kUn al ?_
 refine kUn al ?_
 refine am 0 rfl rfl (Upd.refl _) rfl sizeOf49 (kAs rfl ?_)
 obtain rfl:=osj h
 exact a7 ⟨rfl,[(ab).val x6,Pb x7],⟨yBox 0 ty49 aa,yT aa,tv⟩,aa⟩
theorem acq (x1 x2:List Bt) (r:Bool) (h:jh x1 x2=some r):Fp 162 [ao Rp.str x1,ao Rp.str x2] (Pb r):=by
 refine c8 (rs:=[4]) func162 rfl ntmps162 ⟨by decide,results162⟩ dcd (fun s0=>?_)
 unfold jh at h
 refine W_rs (kAs rfl (a6 (W_rs (kMvL rfl (kUn (jf rfl underlying22) ?_)))))
 refine kMvL rfl (kUn (jf rfl underlying22) ?_)
 refine kIn rfl rfl rfl ?_
 refine a5 h rfl (fun _ h=>?_) (fun _ h=>?_)
 ·refine W_rs (kAs rfl ?_)
  obtain rfl:=osj h
  exact a7 ⟨rfl,aa⟩
 refine au (a6 (W_rs (kMvL rfl (kUn (jf rfl underlying22) ?_))))
 refine kMv rfl (az ?_)
 obtain⟨z2l,hz2,h⟩:=ag h
 obtain⟨n2,hN2⟩:=bm hz2
 refine cp 0 (fun e C=>mo=some r/\At [] [] e C) ?_ ?_
 ·rintro e C ⟨h,a⟩
  refine W_at a ?_
  unfold mo at h
  refine W_rs (kAs rfl ?_)
  obtain rfl:=osj h
  exact a7 ⟨rfl,aa⟩
 refine dq (fun m e C=>∃x4,ez (fun s=>fi x1 x2 s) m x4=some z2l/\At [(0,ao Rp.str x1),(1,ao Rp.str x2),(12,P6 (x1.length:Int)),(13,P6 x4)] [] e C) n2 ⟨0,hN2,⟨⟨aa,aa,aa,aa,tv⟩,A8.refl _⟩⟩ ?_
 rintro m e C ⟨x4,hN2,a⟩
 refine W_at a ?_
 obtain⟨m2,w2l,rfl,h2l,hn2,ho2⟩:=bc hN2
 replace h2l:fi x1 x2 x4=some w2l:=h2l
 unfold fi at h2l
 refine W_rs (kIn rfl rfl rfl (a6 ?_))
 refine a5 h2l rfl (fun _ h2l=>?_) (fun _ h2l=>?_)
 ·refine au (a6 (az (W_rs (kMv rfl (kAs rfl ?_)))))
  refine ba (fun e C=>∃x7,∃x8,ju x4 x7 x8=some w2l/\At [(0,ao Rp.str x1),(1,ao Rp.str x2),(12,P6 (x1.length:Int)),(13,P6 x4),(24,Pb (!(x7==x8)))] [] e C) ?_ ?_
  ·rintro e C ⟨x7,x8,h2l,a⟩
   refine W_at a ?_
   unfold ju at h2l
   refine a5 h2l rfl (fun _ h2l=>?_) (fun _ h2l=>?_)
   ·refine W_rs (kAs rfl ?_)
    obtain rfl:=ho2 _ (ojs h2l)
    replace h:some false=some r:=h
    obtain rfl:=osj h
    exact a7 ⟨rfl,aa⟩
   refine au (W_r (kIn rfl rfl rfl (kMv rfl ?_)))
   exact⟨m2,lsu,w64 (x4+1),hn2 _ (ojs h2l),atOk⟩
  refine jg 9 hmx kr kr ?_
  refine lUn (hMvL rfl) (lUn (hMvA rfl) ?_)
  obtain⟨x7,k,h2l⟩:=ag h2l
  refine lUn (du underlying22 sizeOf9 k) ?_
  refine lUn (bz ty9) ?_
  refine lUn (hMvL rfl) (lUn (hMvA rfl) ?_)
  obtain⟨x8,k,h2l⟩:=ag h2l
  refine lUn (du underlying22 sizeOf9 k) ?_
  refine lUn (bz ty9) ?_
  refine lUn (qStr rfl rfl rfl) ?_
  exact⟨x7,x8,h2l,atOk⟩
 refine dp ?_
 obtain rfl:=ho2 _ (ojs h2l)
 exact⟨h,atOk⟩
theorem aue (x1 x2:A9) (r:Bool) (h:akw x1 x2=some r):Fp 125 [(ab).val x1,(ab).val x2] (Pb r):=by
 refine c8 (rs:=[4]) func125 rfl ntmps125 ⟨by decide,results125⟩ dcd (fun s0=>?_)
 unfold akw at h
 refine W_rs ?_
 refine rBox (R:=ab) (a:=x1) rfl (fun b3=>?_)
 refine rBox (R:=ab) (a:=x2) rfl (fun b4=>?_)
 refine kAs rfl ?_
 refine ba (fun e C=>∃x10,yx x10=some r/\At [(4,Pb x10)] [D8 b3 ab x1,D8 b4 ab x2] e C) ?_ ?_
 ·rintro e C ⟨x10,h,a⟩
  refine W_at a ?_
  unfold yx at h
  obtain rfl:=osj h
  exact a7 ⟨rfl,aa⟩
 refine W_r (kUn (aj tj) ?_)
 refine kUn (ap 0 ty9 dm) ?_
 refine kUn (aj tj) ?_
 refine kUn (ap 1 ty9 dm) ?_
 refine kSt rfl rfl rfl (kMv rfl ?_)
 rcases bn h with⟨hc5,h⟩|⟨hc5,h⟩
 ·refine kGd rfl aa hc5 (aj aic) ?_
  refine kGd rfl aa hc5 (ap 0 ty4 ix) ?_
  refine kGd rfl aa hc5 (aj aic) ?_
  refine kGd rfl aa hc5 (ap 1 ty4 ix) ?_
  refine kGd rfl aa hc5 (ax6 underlying4) ?_
  refine kPt rfl hc5 rfl (kMv rfl ?_)
  rcases bn h with⟨hc6,h⟩|⟨hc6,h⟩
  ·refine kGd rfl aa hc6 (aj aib) ?_
   refine kGd rfl aa hc6 (ap 0 ty22 r7) ?_
   refine kGd rfl aa hc6 (aj aib) ?_
   refine kGd rfl aa hc6 (ap 1 ty22 r7) ?_
   obtain⟨x7,k,h⟩:=ag h
   refine kGd rfl aa hc6 (c7 (acq x1.Params x2.Params _ k)) ?_
   refine kPt rfl hc6 rfl (kAs rfl ?_)
   exact⟨x7,h,atOk⟩
  refine skx ?_
  refine kPf rfl hc6 rfl (kAs rfl ?_)
  exact⟨false,h,atOk⟩
 refine skx ?_
 refine kPf rfl hc5 rfl (kMv rfl ?_)
 have hc8:false=false:=rfl
 refine skx ?_
 refine kPf rfl hc8 rfl (kAs rfl ?_)
 exact⟨false,h,atOk⟩
end Go.Proofs.YtcndghapmoaidaaGreatDoor
set_option linter.unusedSectionVars false
set_option maxRecDepth 100000
set_option maxHeartbeats 4000000
namespace Go.Proofs.YtcndghapmoaidaaGreatDoor
open Go Go.Cn Tryz
attribute [local irreducible] mq ao
theorem auc (x1:List A9) (x2:A9) (r:Int) (h:aik x1 x2=some r):Fp 72 [ao ab x1,(ab).val x2] (P6 r):=by
 refine c8 (rs:=[4]) func72 rfl ntmps72 ⟨by decide,results72⟩ dcd (fun s0=>?_)
 unfold aik at h
 refine W_rs ?_
 refine rBox (R:=ab) (a:=x2) rfl (fun b3=>?_)
 let p1:=D8 b3 ab x2
 refine kAs rfl (W_rs (kMvL rfl (kUn (aj aid) ?_)))
 refine kUn (ap 0 ty9 km) ?_
 obtain⟨⟨x4,x5⟩,k,h⟩:=ag h
 refine kUn (c7 (ait x1 x2.Owner _ k)) ?_
 refine kUn (hMv (out:=bj [(ab).val x4,Pb x5]) rfl) (kUn al ?_)
 refine kUn al ?_
 refine bg jb fun b6=>am 1 rfl rfl (Upd.refl _) rfl sizeOf49 (kAs rfl (a6 ?_))
 let p2:=D8 b6 ab x4
 refine ba (fun e C=>∃x8,ab8 x2 x1 x4 x8=some r/\At [(0,ao ab x1),(3,Pr.pt b3 0),(5,Pr.pt b6 0),(26,Pb x8)] [p1,p2] e C) ?_ ?_
 ·rintro e C ⟨x8,h,a⟩
  refine W_at a ?_
  unfold ab8 at h
  refine a5 h rfl (fun _ h=>?_) (fun _ h=>?_)
  ·refine W_rs (kAs rfl ?_)
   obtain rfl:=osj h
   exact a7 ⟨rfl,aa⟩
  refine au ?_
  refine ba (fun e C=>ul=some r/\At [] [p1,p2] e C) ?_ ?_
  ·rintro e C ⟨h,a⟩
   refine W_at a ?_
   unfold ul at h
   refine W_rs (kAs rfl ?_)
   obtain rfl:=osj h
   exact a7 ⟨rfl,aa⟩
  refine W_rs (kUn (aj ol) ?_)
  refine kUn (ap 0 ty3 db) ?_
  refine az (W_rs (kIn rfl rfl rfl (kAs rfl ?_)))
  refine a5 h rfl (fun _ h=>?_) (fun _ h=>?_)
  ·refine W_rs (kMvL rfl (kUn (aj tj) ?_))
   refine kUn (ap 0 ty9 dm) ?_
   obtain⟨⟨x11,x12⟩,k,h⟩:=ag h
   refine kUn (c7 (ait x1 x2.Type_ _ k)) ?_
   refine kUn (hMv (out:=bj [(ab).val x11,Pb x12]) rfl) (kUn al ?_)
   refine kUn al ?_
   refine bg jb fun b13=>am 2 rfl rfl (Upd.refl _) rfl sizeOf49 (kAs rfl ?_)
   refine ba (fun e C=>∃x17,yw x17=some r/\At [(52,Pb x17)] [p1,p2,D8 b13 ab x11] e C) ?_ ?_
   ·rintro e C ⟨x17,h,a⟩
    refine W_at a ?_
    unfold yw at h
    refine a5 h rfl (fun _ h=>?_) (fun _ h=>?_)
    ·refine W_rs (kAs rfl ?_)
     obtain rfl:=osj h
     exact a7 ⟨rfl,aa⟩
    refine au ?_
    exact⟨h,⟨trivial,A8.of [0,1] rfl⟩⟩
   refine W_r (kUn (aj tj) ?_)
   refine kUn (ap 0 ty9 dm) ?_
   refine kSt rfl rfl rfl (kMv rfl ?_)
   rcases bn h with⟨hc14,h⟩|⟨hc14,h⟩
   ·refine kGd rfl aa hc14 (hMvA rfl) (kGd rfl aa hc14 (qNot rfl) (kGd rfl aa hc14 (hMvA rfl) ?_))
    rcases bn h with⟨hc15,h⟩|⟨hc15,h⟩
    ·refine skx ?_
     refine kGd rfl aa hc14 (hPt rfl hc15 rfl) (kPt rfl hc14 rfl ?_)
     exact⟨true,h,atOk⟩
    refine kGd rfl aa hc15 (hMvL rfl) (kGd rfl aa hc15 (aj tj) ?_)
    refine kGd rfl aa hc15 (ap 0 ty9 dm) ?_
    refine kGd rfl aa hc15 (aj ll) ?_
    refine kGd rfl aa hc15 (ap 0 ty9 dw) ?_
    obtain⟨x16,k,h⟩:=ag h
    refine kGd rfl aa hc15 (c7 (auh x1 x2.Type_ x2.Id _ k)) ?_
    refine kGd rfl aa hc14 (hPf rfl hc15 rfl) (kPt rfl hc14 rfl ?_)
    exact⟨x16,h,atOk⟩
   refine skx ?_
   refine kPf rfl hc14 rfl ?_
   exact⟨false,h,atOk⟩
  refine W_rs (kIn rfl rfl rfl (kAs rfl ?_))
  refine a5 h rfl (fun _ h=>?_) (fun _ h=>?_)
  ·refine W_rs (kMvL rfl (kUn (aj tj) ?_))
   refine kUn (ap 1 ty9 dm) ?_
   refine kUn (aj aaf) ?_
   refine kUn (ap 0 ty9 f0) ?_
   obtain⟨⟨x20,x21⟩,k,h⟩:=ag h
   refine kUn (c7 (aiw x1 x4.Type_ x2.Name _ k)) ?_
   refine kUn (hMv (out:=bj [(ab).val x20,Pb x21]) rfl) (kUn al ?_)
   refine kUn al ?_
   refine bg jb fun b22=>am 2 rfl rfl (Upd.refl _) rfl sizeOf49 (kAs rfl (W_rs (kMv rfl ?_)))
   refine a5 h rfl (fun _ h=>?_) (fun _ h=>?_)
   ·refine W_rs (kAs rfl ?_)
    obtain rfl:=osj h
    exact a7 ⟨rfl,aa⟩
   refine au ?_
   exact⟨h,⟨trivial,A8.of [0,1] rfl⟩⟩
  refine W_rs (kIn rfl rfl rfl (kAs rfl ?_))
  refine a5 h rfl (fun _ h=>?_) (fun _ h=>?_)
  ·refine W_rs (kMvL rfl (kUn (aj tj) ?_))
   refine kUn (ap 1 ty9 dm) ?_
   refine kUn (aj aaf) ?_
   refine kUn (ap 0 ty9 f0) ?_
   obtain⟨⟨x25,x26⟩,k,h⟩:=ag h
   refine kUn (c7 (ahm x1 x4.Type_ x2.Name _ k)) ?_
   refine kUn (hMv (out:=bj [(ab).val x25,Pb x26]) rfl) (kUn al ?_)
   refine kUn al ?_
   refine bg jb fun b27=>am 2 rfl rfl (Upd.refl _) rfl sizeOf49 (kAs rfl ?_)
   refine ba (fun e C=>∃x30,ab9 x30=some r/\At [(82,Pb x30)] [p1,p2,D8 b27 ab x25] e C) ?_ ?_
   ·rintro e C ⟨x30,h,a⟩
    refine W_at a ?_
    unfold ab9 at h
    refine a5 h rfl (fun _ h=>?_) (fun _ h=>?_)
    ·refine W_rs (kAs rfl ?_)
     obtain rfl:=osj h
     exact a7 ⟨rfl,aa⟩
    refine au ?_
    exact⟨h,⟨trivial,A8.of [0,1] rfl⟩⟩
   refine W_r (kMv rfl (kMv rfl ?_))
   rcases bn h with⟨hc28,h⟩|⟨hc28,h⟩
   ·refine kGd rfl aa hc28 (ap 2 ty49 (Sub.refl _)) ?_
    refine kGd rfl aa hc28 (ap 0 ty49 (Sub.refl _)) ?_
    obtain⟨x29,k,h⟩:=ag h
    refine kGd rfl aa hc28 (c7 (aue x25 x2 _ k)) ?_
    refine kGd rfl aa hc28 (qNot rfl) (kPt rfl hc28 rfl ?_)
    exact⟨!x29,h,atOk⟩
   refine skx ?_
   refine kPf rfl hc28 rfl ?_
   exact⟨false,h,atOk⟩
  refine au ?_
  exact⟨h,atOk⟩
 refine W_r (kUn (aj ol) ?_)
 refine kUn (ap 0 ty3 db) ?_
 refine kIn rfl rfl rfl (kMv rfl ?_)
 rcases bn h with⟨hc7,h⟩|⟨hc7,h⟩
 ·refine kGd rfl aa hc7 (hMvA rfl) (kGd rfl aa hc7 (qNot rfl) (kPt rfl hc7 rfl ?_))
  exact⟨!x5,h,atOk⟩
 refine skx ?_
 refine kPf rfl hc7 rfl ?_
 exact⟨false,h,atOk⟩
theorem auf (x1:List A9) (r:B3) (h:ail x1=some r):Fp 35 [ao ab x1] ((ay).val r):=by
 refine c9 (rs:=[.cell 2 30]) func35 rfl ntmps35 results35 dcd (fun s0=>?_)
 unfold ail at h
 refine W_rs (bg al30 fun b2=>a6 (W_rs (kMvL rfl (kUn (jf rfl underlying38) ?_))))
 refine kMv rfl (az ?_)
 obtain⟨z2l,hz2,h⟩:=ag h
 obtain⟨n2,hN2⟩:=bm hz2
 refine cp 0 (fun e C=>aiy=some r/\At [(2,Pr.pt b2 0)] [D8 b2 ay (B3.mk 0 0 0)] e C) ?_ ?_
 ·rintro e C ⟨h,a⟩
  refine W_at a ?_
  unfold aiy at h
  refine W_rs (kUn (fk st30 rfl) ?_)
  refine am 0 rfl rfl (Upd.refl _) rfl sizeOf30 ?_
  obtain rfl:=osj h
  exact a7 ⟨rfl,[(ay).val (B3.mk 0 0 0)],⟨yBox 0 ty30 aa,tv⟩,aa⟩
 refine dq (fun m e C=>∃x3,ez (fun s=>un x1 s) m x3=some z2l/\At [(0,ao ab x1),(2,Pr.pt b2 0),(6,ao ab x1),(7,P6 (x1.length:Int)),(8,P6 x3)] [D8 b2 ay (B3.mk 0 0 0)] e C) n2 ⟨0,hN2,⟨⟨aa,aa,aa,aa,aa,tv⟩,A8.refl _⟩⟩ ?_
 rintro m e C ⟨x3,hN2,a⟩
 refine W_at a ?_
 obtain⟨m2,w2l,rfl,h2l,hn2,ho2⟩:=bc hN2
 replace h2l:un x1 x3=some w2l:=h2l
 unfold un at h2l
 refine W_rs (kIn rfl rfl rfl (a6 ?_))
 refine a5 h2l rfl (fun _ h2l=>?_) (fun _ h2l=>?_)
 ·refine au (a6 (az (W_rs ?_)))
  obtain⟨x6,k,h2l⟩:=ag h2l
  refine kUn (du underlying38 sizeOf49 k) ?_
  refine kUn (bz ty49) ?_
  refine bg jb fun b7=>am 1 rfl rfl (Upd.refl _) rfl sizeOf49 (W_rs (kMvL rfl (kUn (ap 1 ty49 (Sub.refl _)) ?_)))
  refine cr h2l (auc x1 x6) rfl fun x8 _ h2l=>kAs rfl (W_rs (kMv rfl (kIn rfl rfl rfl ?_)))
  refine a5 h2l rfl (fun _ h2l=>?_) (fun _ h2l=>?_)
  ·refine W_rs (kMv rfl (kUn (aj amb) ?_))
   refine kUn (ap 1 ty3 vl) ?_
   refine kUn (aj arv) ?_
   refine kUn (ap 1 ty3 zn) ?_
   refine kUn (fk st30 ⟨(B3.mk x8 0 0),⟨_,rfl,rfl,qbj⟩,⟨(B3.mk x8 x6.File 0),⟨_,rfl,rfl,qbj⟩,⟨(B3.mk x8 x6.File x6.At),⟨_,rfl,rfl,qbj⟩,rfl⟩⟩⟩) ?_
   refine am 0 rfl rfl (Upd.refl _) rfl sizeOf30 ?_
   obtain rfl:=ho2 _ (ojs h2l)
   replace h:some (B3.mk x8 x6.File x6.At)=some r:=h
   obtain rfl:=osj h
   exact a7 ⟨rfl,[(ay).val (B3.mk x8 x6.File x6.At)],⟨yBox 0 ty30 aa,tv⟩,aa⟩
  refine au (W_r (kIn rfl rfl rfl (kMv rfl ?_)))
  exact⟨m2,lsu,w64 (x3+1),hn2 _ (ojs h2l),⟨⟨aa,aa,aa,aa,aa,tv⟩,A8.of [0] rfl⟩⟩
 refine dp ?_
 obtain rfl:=ho2 _ (ojs h2l)
 exact⟨h,atOk⟩
theorem acp (x1:List Bt) (x2:Bt) (r:Int) (h:kz x1 x2=some r):Fp 119 [ao Rp.str x1,Pr.str x2] (P6 r):=by
 refine c8 (rs:=[4]) func119 rfl ntmps119 ⟨by decide,results119⟩ dcd (fun s0=>?_)
 unfold kz at h
 refine W_rs (kAs rfl (a6 (W_rs (kMvL rfl (kUn (jf rfl underlying22) ?_)))))
 refine kMv rfl (az ?_)
 obtain⟨z2l,hz2,h⟩:=ag h
 obtain⟨n2,hN2⟩:=bm hz2
 refine cp 0 (fun e C=>jt=some r/\At [] [] e C) ?_ ?_
 ·rintro e C ⟨h,a⟩
  refine W_at a ?_
  unfold jt at h
  refine W_rs (kAs rfl ?_)
  obtain rfl:=osj h
  exact a7 ⟨rfl,aa⟩
 refine dq (fun m e C=>∃x3,ez (fun s=>fh x1 x2 s) m x3=some z2l/\At [(0,ao Rp.str x1),(1,Pr.str x2),(7,P6 (x1.length:Int)),(8,P6 x3)] [] e C) n2 ⟨0,hN2,⟨⟨aa,aa,aa,aa,tv⟩,A8.refl _⟩⟩ ?_
 rintro m e C ⟨x3,hN2,a⟩
 refine W_at a ?_
 obtain⟨m2,w2l,rfl,h2l,hn2,ho2⟩:=bc hN2
 replace h2l:fh x1 x2 x3=some w2l:=h2l
 unfold fh at h2l
 refine W_rs (kIn rfl rfl rfl (a6 ?_))
 refine a5 h2l rfl (fun _ h2l=>?_) (fun _ h2l=>?_)
 ·refine au (a6 (az (W_rs (kMv rfl (kAs rfl (W_rs (kMv rfl (kMvL rfl (kMv rfl ?_)))))))))
  obtain⟨x6,k,h2l⟩:=ag h2l
  refine kUn (du underlying22 sizeOf9 k) ?_
  refine kUn (bz ty9) ?_
  refine kSt rfl rfl rfl ?_
  refine a5 h2l rfl (fun _ h2l=>?_) (fun _ h2l=>?_)
  ·refine W_rs (kMv rfl (kAs rfl ?_))
   obtain rfl:=ho2 _ (ojs h2l)
   replace h:some x3=some r:=h
   obtain rfl:=osj h
   exact a7 ⟨rfl,aa⟩
  refine au (W_r (kIn rfl rfl rfl (kMv rfl ?_)))
  exact⟨m2,lsu,w64 (x3+1),hn2 _ (ojs h2l),atOk⟩
 refine dp ?_
 obtain rfl:=ho2 _ (ojs h2l)
 exact⟨h,atOk⟩
theorem qo (x1:List Bt) (x2:Bt) (r:Bool) (h:f5 x1 x2=some r):Fp 70 [ao Rp.str x1,Pr.str x2] (Pb r):=by
 refine c8 (rs:=[4]) func70 rfl ntmps70 ⟨by decide,results70⟩ dcd (fun s0=>?_)
 unfold f5 at h
 refine W_rs (kAs rfl (W_rs (kMvL rfl (kMv rfl (cr h (acp x1 x2) rfl fun x3 _ h=>kIn rfl rfl rfl (kAs rfl ?_))))))
 obtain rfl:=osj h
 exact a7 ⟨rfl,aa⟩
theorem z8 (x1:B6) (x2:A9) (x3:Bool) (r:A9 × Int) (h:lq x1 x2 x3=some r):Fp 115 [(aq).val x1,(ab).val x2,Pb x3] (bj [(ab).val r.1,P6 r.2]):=by
 refine c9 (rs:=[.cell 6 49,.tmp 7]) func115 rfl ntmps115 results115 dcd (fun s0=>?_)
 unfold lq at h
 refine W_rs ?_
 refine rBox (R:=aq) (a:=x1) rfl (fun b4=>?_)
 refine rBox (R:=ab) (a:=x2) rfl (fun b5=>?_)
 refine bg jb fun b6=>kAs rfl (a6 (W_rs (kMv rfl (kNo rfl ?_))))
 refine a5 h rfl (fun _ h=>?_) (fun _ h=>?_)
 ·refine W_rs (kUn (fk st49 rfl) ?_)
  refine am 2 rfl rfl (Upd.refl _) rfl sizeOf49 (kAs rfl ?_)
  obtain rfl:=osj h
  exact a7 ⟨rfl,[(ab).val (A9.mk 0 [] [] [] [] false [] 0 0),P6 170],⟨yBox 2 ty49 aa,yT aa,tv⟩,aa⟩
 refine au (W_rs (kUn (ap 1 ty49 (Sub.refl _)) ?_))
 refine am 2 rfl rfl (Upd.refl _) rfl sizeOf49 (kAs rfl ?_)
 obtain rfl:=osj h
 exact a7 ⟨rfl,[(ab).val x2,P6 0],⟨yBox 2 ty49 aa,yT aa,tv⟩,aa⟩
theorem sb (x1:B6) (x2:Bt) (r:A9 × Bool) (h:js x1 x2=some r):Fp 116 [(aq).val x1,Pr.str x2] (bj [(ab).val r.1,Pb r.2]):=by
 refine c9 (rs:=[.cell 4 49,.tmp 5]) func116 rfl ntmps116 results116 dcd (fun s0=>?_)
 let p1:=A9.mk 0 [] [] [] [] false [] 0 0
 unfold js at h
 refine W_rs ?_
 refine rBox (R:=aq) (a:=x1) rfl (fun b3=>?_)
 refine bg jb fun b4=>kAs rfl (a6 (W_rs (kUn (aj an6) ?_)))
 refine kUn (ap 0 ty38 o4) ?_
 refine kUn (jf rfl underlying38) ?_
 refine kMv rfl (az ?_)
 obtain⟨z2l,hz2,h⟩:=ag h
 obtain⟨n2,hN2⟩:=bm hz2
 refine cp 0 (fun e C=>yh=some r/\At [(4,Pr.pt b4 0)] [D8 b3 aq x1,D8 b4 ab p1] e C) ?_ ?_
 ·rintro e C ⟨h,a⟩
  refine W_at a ?_
  unfold yh at h
  refine W_rs (kUn (fk st49 rfl) ?_)
  refine am 1 rfl rfl (Upd.refl _) rfl sizeOf49 (kAs rfl ?_)
  obtain rfl:=osj h
  exact a7 ⟨rfl,[(ab).val p1,Pb false],⟨yBox 1 ty49 aa,yT aa,tv⟩,aa⟩
 refine dq (fun m e C=>∃x5,ez (fun s=>jz x1 x2 s) m x5=some z2l/\At [(1,Pr.str x2),(4,Pr.pt b4 0),(9,ao ab x1.Table),(10,P6 (x1.Table.length:Int)),(11,P6 x5)] [D8 b3 aq x1,D8 b4 ab p1] e C) n2 ⟨0,hN2,⟨⟨aa,aa,aa,aa,aa,tv⟩,A8.refl _⟩⟩ ?_
 rintro m e C ⟨x5,hN2,a⟩
 refine W_at a ?_
 obtain⟨m2,w2l,rfl,h2l,hn2,ho2⟩:=bc hN2
 replace h2l:jz x1 x2 x5=some w2l:=h2l
 unfold jz at h2l
 refine W_rs (kIn rfl rfl rfl (a6 ?_))
 refine a5 h2l rfl (fun _ h2l=>?_) (fun _ h2l=>?_)
 ·refine au (a6 (az (W_rs ?_)))
  obtain⟨x8,k,h2l⟩:=ag h2l
  refine kUn (du underlying38 sizeOf49 k) ?_
  refine kUn (bz ty49) ?_
  refine bg jb fun b9=>am 2 rfl rfl (Upd.refl _) rfl sizeOf49 ?_
  refine ba (fun e C=>∃x11,oc x8 x5 x11=some w2l/\At [(1,Pr.str x2),(4,Pr.pt b4 0),(7,Pr.pt b9 0),(9,ao ab x1.Table),(10,P6 (x1.Table.length:Int)),(11,P6 x5),(23,Pb x11)] [D8 b3 aq x1,D8 b4 ab p1,D8 b9 ab x8] e C) ?_ ?_
  ·rintro e C ⟨x11,h2l,a⟩
   refine W_at a ?_
   unfold oc at h2l
   refine a5 h2l rfl (fun _ h2l=>?_) (fun _ h2l=>?_)
   ·refine W_rs (kUn (ap 2 ty49 (Sub.refl _)) ?_)
    refine am 1 rfl rfl (Upd.refl _) rfl sizeOf49 (kAs rfl ?_)
    obtain rfl:=ho2 _ (ojs h2l)
    replace h:some (x8,true)=some r:=h
    obtain rfl:=osj h
    exact a7 ⟨rfl,[(ab).val x8,Pb true],⟨yBox 1 ty49 aa,yT aa,tv⟩,aa⟩
   refine au (W_r (kIn rfl rfl rfl (kMv rfl ?_)))
   exact⟨m2,lsu,w64 (x5+1),hn2 _ (ojs h2l),⟨⟨aa,aa,aa,aa,aa,tv⟩,A8.of [0,1] rfl⟩⟩
  refine W_r (kUn (aj ol) ?_)
  refine kUn (ap 2 ty3 db) ?_
  refine kIn rfl rfl rfl (kMv rfl ?_)
  rcases bn h2l with⟨hc10,h2l⟩|⟨hc10,h2l⟩
  ·refine kGd rfl aa hc10 (aj ll) ?_
   refine kGd rfl aa hc10 (ap 2 ty9 dw) ?_
   refine kGd rfl aa hc10 (hMvA rfl) (kGd rfl aa hc10 (qStr rfl rfl rfl) (kPt rfl hc10 rfl ?_))
   exact⟨x8.Id==x2,h2l,atOk⟩
  refine skx ?_
  refine kPf rfl hc10 rfl ?_
  exact⟨false,h2l,atOk⟩
 refine dp ?_
 obtain rfl:=ho2 _ (ojs h2l)
 exact⟨h,atOk⟩
theorem kq (x1 x2:Int) (x4:B8) (b3:Nat) (v5:Value) (r:PX B9 B8) (h:la x1 x2 x4=some r):FnX Tryz.prog 126 [Pr.pt b3 0,P6 x1,P6 x2] [D8 b3 av (D2.mk v5 x4.file x4.method x4.many),E1 v5 ak x4.uses 47] (fun q C'=>∃a9,r= .ok a9/\∃w100,q=bj []/\C'=[D8 b3 av (D2.mk w100 a9.file a9.method a9.many),E1 w100 ak a9.uses 47]) (fun v=>∃m,r= .bad m/\v=acj m):=by
 refine amo (rs:=[]) func126 rfl ntmps126 ⟨by decide,results126⟩ dcd (fun s0=>?_)
 let p1:=B3.mk x1 x4.file x2
 unfold la at h
 refine W_rs (kMv rfl (kIn rfl rfl rfl ?_))
 refine a5 h rfl (fun _ h=>?_) (fun _ h=>?_)
 ·refine W_r (kMv rfl (kMv rfl (kNp rfl (kUn (aj art) ?_))))
  refine kUn (ap 0 ty3 ve) ?_
  refine kMv rfl (kUn (fk st30 ⟨(B3.mk x1 0 0),⟨_,rfl,rfl,qbj⟩,⟨(B3.mk x1 x4.file 0),⟨_,rfl,rfl,qbj⟩,⟨p1,⟨_,rfl,rfl,qbj⟩,rfl⟩⟩⟩) ?_)
  refine kUn (fk st72 ⟨(B9.mk p1),⟨_,rfl,rfl,qbj⟩,rfl⟩) ?_
  refine kUn (qMkIfc underlying72 rfl) ?_
  refine rPanic (p:=axy 72 ((k8).val (B9.mk p1))) (Die:=fun v=>v=acj (B9.mk p1)) (aw7 _) ?_ aa
  rintro _ rfl
  obtain rfl:=osj h
  exact .inr ⟨_,rfl,_,rfl,rfl⟩
 refine au ?_
 obtain rfl:=osj h
 exact(.inl ⟨.inr rfl,_,A8.refl _,_,aa,_,rfl,v5,rfl,rfl⟩)
theorem afn (x1:Int) (x2:Bt) (x4:B8) (b3:Nat) (v5:Value) (r:B8) (h:nw x1 x2 x4=some r):Fc 127 [Pr.pt b3 0,P6 x1,Pr.str x2] [D8 b3 av (D2.mk v5 x4.file x4.method x4.many),E1 v5 ak x4.uses 47] (fun q C'=>∃w100,q=bj []/\C'=[D8 b3 av (D2.mk w100 r.file r.method r.many),E1 w100 ak r.uses 47]):=by
 refine gz (rs:=[]) func127 rfl ntmps127 ⟨by decide,results127⟩ dcd (fun s0=>?_)
 let p1:=D2.mk v5 x4.file x4.method x4.many
 let p2:=B7.mk x4.file x1 x2
 unfold nw at h
 obtain⟨x6,k,h⟩:=ag h
 refine aah [0,0,2,6,14,0,32,96,224,0,0,2016,4064,8190,16383,32767,65535] [[],[],[],[],[D8 b3 av p1],[],[],[],[D8 b3 av p1],[],[],[],[],[],[],[],[]] hmx kr kr kr rfl ?_
 refine aq0 0 1 (out:=Pr.pt b3 0) rfl (fun C9=>fr) ?_
 refine aq0 1 3 (out:=Pr.pt b3 0) rfl (fun C9=>fr) ?_
 refine aq0 2 7 (out:=Pr.pt b3 0) rfl (fun C9=>ah2) ?_
 refine aq0 3 15 (out:=Pr.pt b3 0) rfl (fun C9=>(aj aru)) ?_
 refine aq1 4 31 0 (out:=Pi v5) rfl rfl (fun C9 i9 h9=>(w8 (R:=av) (a:=p1) i9 ty27 vc (hi:=h9))) ?_
 refine aq0 5 63 (out:=Pr.pt b3 0) rfl (fun C9=>fr) ?_
 refine aq0 6 127 (out:=Pr.pt b3 0) rfl (fun C9=>ah2) ?_
 refine aq0 7 255 (out:=Pr.pt b3 1) rfl (fun C9=>(aj art)) ?_
 refine aq1 8 511 0 (out:=P6 x4.file) rfl rfl (fun C9 i9 h9=>(ap (R:=av) (a:=p1) (R':=Rp.int .i64) i9 ty3 ve (hi:=h9))) ?_
 refine aq0 9 1023 (out:=P6 x1) rfl (fun C9=>fr) ?_
 refine aq0 10 2047 (out:=Pr.str x2) rfl (fun C9=>fr) ?_
 refine aq0 11 4095 (out:=(ak).val p2) rfl (fun C9=>(fk st47 ⟨(B7.mk x4.file 0 []),⟨_,rfl,rfl,qbj⟩,⟨(B7.mk x4.file x1 []),⟨_,rfl,rfl,qbj⟩,⟨p2,⟨_,rfl,rfl,qbj⟩,rfl⟩⟩⟩)) ?_
 refine aq0 12 8191 (out:=ao ak ([p2]:List B7)) rfl (fun C9=>(cm (R:=ak) (a:=p2) el27 nb)) ?_
 refine ae 13 16383 rfl (fun g9=>?_)
 refine fp 1 el27 k (fun v7=>?_)
 refine f6 _ [] cd ?_
 refine aq0 14 32767 (out:=Pr.pt b3 0) rfl (fun C9=>ah2) ?_
 refine aq0 15 65535 (out:=Pr.pt b3 0) rfl (fun C9=>(aj aru)) ?_
 refine ae 16 131071 rfl (fun g9=>?_)
 refine agq (R:=av) (a:=p1) 0 1 sizeOf27 ai5 ?_
 refine rCtx [D8 b3 av (D2.mk v7 x4.file x4.method x4.many),E1 v7 ak x6 47] ?_
 refine f6 .any [] cd ?_
 refine yj ?_
 obtain rfl:=osj h
 exact⟨.inr rfl,_,A8.refl _,_,aa,v7,rfl,rfl⟩
theorem aer (x1:B6) (x2:B5) (x4:B8) (b3:Nat) (v5:Value) (r:PX B9 B8) (h:sq x1 x2 x4=some r):FnX Tryz.prog 73 [Pr.pt b3 0,(aq).val x1,(af).val x2] [D8 b3 av (D2.mk v5 x4.file x4.method x4.many),E1 v5 ak x4.uses 47] (fun q C'=>∃a9,r= .ok a9/\∃w100,q=bj []/\C'=[D8 b3 av (D2.mk w100 a9.file a9.method a9.many),E1 w100 ak a9.uses 47]) (fun v=>∃m,r= .bad m/\v=acj m):=by
 refine amo (rs:=[]) func73 rfl ntmps73 ⟨by decide,results73⟩ dcd (fun s0=>?_)
 unfold sq at h
 refine W_rs ?_
 refine rBox (R:=aq) (a:=x1) rfl (fun b6=>?_)
 let p1:=D8 b6 aq x1
 refine rBox (R:=af) (a:=x2) rfl (fun b7=>?_)
 let p2:=D8 b7 af x2
 refine a6 ?_
 refine ba (fun e C=>∃x10,ld x4 x1 x2 x10=some r/\At [(0,Pr.pt b3 0),(4,Pr.pt b6 0),(5,Pr.pt b7 0),(16,Pb x10)] [D8 b3 av (D2.mk v5 x4.file x4.method x4.many),E1 v5 ak x4.uses 47,p1,p2] e C) ?_ ?_
 ·rintro e C ⟨x10,h,a⟩
  refine W_at a ?_
  unfold ld at h
  refine a5 h rfl (fun _ h=>?_) (fun _ h=>?_)
  ·obtain rfl:=osj h
   exact a7 (.inl ⟨.inl rfl,_,A8.of [0,1] rfl,_,aa,_,rfl,v5,rfl,rfl⟩)
  refine au ?_
  refine ba (fun e C=>∃x15,∃x14,∃b16,sa x2 x4 x15 x14=some r/\At [(0,Pr.pt b3 0),(5,Pr.pt b7 0),(6,Pr.pt b16 0),(7,P6 x15)] [D8 b3 av (D2.mk v5 x4.file x4.method x4.many),E1 v5 ak x4.uses 47,p1,p2,D8 b16 ab x14] e C) ?_ ?_
  ·rintro e C ⟨x15,x14,b16,h,a⟩
   refine W_at a ?_
   unfold sa at h
   refine W_rs (kMv rfl (kMv rfl (kUn (aj ah9) ?_)))
   refine kUn (ap 3 ty3 nl) ?_
   rcases yq h with⟨m21,hm21,h⟩|⟨x17,hx17,h⟩
   ·refine acs [0,1] (kq x15 x2.TypeAt x4 b3 v5 _ hm21) ⟨aa,aa,aa,tv⟩ (fun q C' hq=>?_) (fun v9 hv=>?_)
    ·obtain⟨_,h9,_⟩:=hq;cases h9
    obtain⟨_,h9,rfl⟩:=hv
    cases h9
    obtain rfl:=osj h
    exact .inr ⟨_,rfl,_,rfl,rfl⟩
   refine acs [0,1] (kq x15 x2.TypeAt x4 b3 v5 _ hx17) ⟨aa,aa,aa,tv⟩ (fun q C' hq=>?_) (fun v9 hv=>by obtain⟨_,h9,_⟩:=hv;cases h9)
   obtain⟨_,h9,v18,rfl,rfl⟩:=hq
   cases h9
   refine rCtx [D8 b3 av (D2.mk v18 x17.file x17.method x17.many),E1 v18 ak x17.uses 47,p1,p2,D8 b16 ab x14] ?_
   refine W_r (kMv rfl (kUn (aj ah9) ?_))
   refine kUn (ap 3 ty3 nl) ?_
   refine kUn (aj ll) ?_
   refine kUn (ap 4 ty9 dw) ?_
   obtain⟨x19,k,h⟩:=ag h
   refine gu [0,1] (afn x2.TypeAt x14.Id x17 b3 v18 _ k) (fun q C' hq=>?_)
   obtain⟨v20,rfl,rfl⟩:=hq
   refine rCtx [D8 b3 av (D2.mk v20 x19.file x19.method x19.many),E1 v20 ak x19.uses 47,p1,p2,D8 b16 ab x14] ?_
   obtain rfl:=osj h
   exact(.inl ⟨.inr rfl,_,A8.of [0,1] rfl,_,aa,_,rfl,v20,rfl,rfl⟩)
  obtain⟨⟨x12,x13⟩,hx12,h⟩:=ag h
  obtain⟨⟨x14,x15⟩,hx14,h⟩:=ag h
  refine ary 1 (fun B S=>[D8 b3 av (D2.mk v5 x4.file x4.method x4.many),E1 v5 ak x4.uses 47,D8 b6 aq x1,D8 b7 af x2,(cond (S 12) (D8 (B 11) ab x14) (cond (S 11) (D8 (B 11) ab (A9.mk 0 [] [] [] [] false [] 0 0)) A4.nil))]) (fun B=>[D8 b3 av (D2.mk v5 x4.file x4.method x4.many),E1 v5 ak x4.uses 47,D8 b6 aq x1,D8 b7 af x2,D8 (B 11) ab x14]) [(aq).val x1,(aq).val x1,Pr.pt b7 2,Pr.str x2.Type_,bj [(ab).val x12,Pb x13],(ab).val x12,Pb x13,bj [(ab).val x14,P6 x15],bj [(ab).val x14,P6 x15],(ab).val x14,P6 x15,.any,.any,P6 x15] (fun k=>([0,0,0,0,0,0,0,0,0,0,0,2,1,0]:List Nat).getD k 0) hmx kr kr (fun _=>rfl) (fun B S S' h=>by show([D8 b3 av (D2.mk v5 x4.file x4.method x4.many),E1 v5 ak x4.uses 47,D8 b6 aq x1,D8 b7 af x2,(cond (S 12) (D8 (B 11) ab x14) (cond (S 11) (D8 (B 11) ab (A9.mk 0 [] [] [] [] false [] 0 0)) A4.nil))]:Ctx)=[D8 b3 av (D2.mk v5 x4.file x4.method x4.many),E1 v5 ak x4.uses 47,D8 b6 aq x1,D8 b7 af x2,(cond (S' 12) (D8 (B 11) ab x14) (cond (S' 11) (D8 (B 11) ab (A9.mk 0 [] [] [] [] false [] 0 0)) A4.nil))];simp only[h 11 (Nat.le_of_ble_eq_true kr),h 12 (Nat.le_of_ble_eq_true kr)]) (fun _=>rfl) (fun B=>?_)
  refine gq1 (fun S hK=>(ap (R:=aq) (a:=x1) (R':=aq) 2 ty66 (Sub.refl _) (hi:=rfl))) ?_
  refine gq1 (fun S hK=>(ap (R:=aq) (a:=x1) (R':=aq) 2 ty66 (Sub.refl _) (hi:=rfl))) ?_
  refine gq1 (fun S hK=>(aj ti)) ?_
  refine gq1 (fun S hK=>(ap (R:=af) (a:=x2) (R':=Rp.str) 3 ty9 fj (hi:=rfl))) ?_
  refine gq1 (fun S hK=>(c7 (sb x1 x2.Type_ _ hx12))) ?_
  refine gq1 (fun S hK=>al) ?_
  refine gq1 (fun S hK=>al) ?_
  refine gq1 (fun S hK=>(c7 (z8 x1 x12 x13 _ hx14))) ?_
  refine gq1 (fun S hK=>fr) ?_
  refine gq1 (fun S hK=>al) ?_
  refine gq1 (fun S hK=>al) ?_
  refine gqA (fun S hK=>⟨fun B' hB=>by show([D8 b3 av (D2.mk v5 x4.file x4.method x4.many),E1 v5 ak x4.uses 47,D8 b6 aq x1,D8 b7 af x2,(cond (S 12) (D8 (B' 11) ab x14) (cond (S 11) (D8 (B' 11) ab (A9.mk 0 [] [] [] [] false [] 0 0)) A4.nil))]:Ctx)=[D8 b3 av (D2.mk v5 x4.file x4.method x4.many),E1 v5 ak x4.uses 47,D8 b6 aq x1,D8 b7 af x2,(cond (S 12) (D8 (B 11) ab x14) (cond (S 11) (D8 (B 11) ab (A9.mk 0 [] [] [] [] false [] 0 0)) A4.nil))];simp only[hK.me,hK.F 12 kr,cond_false],fun s ρ hg _=>avx (R:=ab) (z:=(A9.mk 0 [] [] [] [] false [] 0 0)) 4 zeroValue49 (fun _=>⟨_,⟨_,_,rfl,rfl,⟨_,_,rfl,rfl,⟨_,_,rfl,rfl,⟨_,_,rfl,rfl,⟨_,_,rfl,rfl,⟨_,_,rfl,rfl,⟨_,_,rfl,⟨_,rfl,none,0,rfl,⟨Nat.le_refl _,fun _=>rfl⟩,.inl rfl⟩,⟨_,_,rfl,rfl,⟨_,_,rfl,rfl,rfl⟩⟩⟩⟩⟩⟩⟩⟩⟩,rfl⟩) (congrArg some ((anc (hK.F 12 kr) _ _).trans (anc (hK.me) _ _))) (fun b=>by show([D8 b3 av (D2.mk v5 x4.file x4.method x4.many),E1 v5 ak x4.uses 47,D8 b6 aq x1,D8 b7 af x2,(cond (S 12) (D8 b ab x14) (D8 b ab (A9.mk 0 [] [] [] [] false [] 0 0)))]:Ctx)=_;rw[hK.F 12 kr];rfl) s ρ hg⟩) ?_
  refine gqS (fun S hK=>alz.as (ata (R:=ab) (R':=ab) (a:=(A9.mk 0 [] [] [] [] false [] 0 0)) (y:=x14) 4 sizeOf49 (Upd.refl _) (congrArg some ((anc (hK.me) _ _).trans (azk (hK.T 11 kr) _ _)))) (by show(_:Ctx)=[D8 b3 av (D2.mk v5 x4.file x4.method x4.many),E1 v5 ak x4.uses 47,D8 b6 aq x1,D8 b7 af x2,D8 (B 11) ab x14];rfl)) ?_
  refine gq1 (fun S hK=>f7) ?_
  exact⟨x15,x14,(B 11),h,atOk⟩
 refine W_r (kUn (aj ah9) ?_)
 refine kUn (ap 3 ty3 nl) ?_
 refine kIn rfl rfl rfl (kMv rfl ?_)
 rcases bn h with⟨hc8,h⟩|⟨hc8,h⟩
 ·refine skx ?_
  refine kPt rfl hc8 rfl ?_
  exact⟨true,h,atOk⟩
 refine kGd rfl aa hc8 (np (R:=Rp.str) (ls:=([([105,110,116]:Bt),([98,111,111,108,101,97,110]:Bt),([118,111,105,100]:Bt)]:List Bt)) el22 nb ⟨rfl,rfl⟩ ⟨rfl,rfl,rfl,tv⟩) ?_
 refine kGd rfl aa hc8 (aj ti) ?_
 refine kGd rfl aa hc8 (ap 3 ty9 fj) ?_
 obtain⟨x9,k,h⟩:=ag h
 refine kGd rfl aa hc8 (c7 (qo ([([105,110,116]:Bt),([98,111,111,108,101,97,110]:Bt),([118,111,105,100]:Bt)]:List Bt) x2.Type_ _ k)) ?_
 refine kPf rfl hc8 rfl ?_
 exact⟨x9,h,atOk⟩
theorem ss {σ:Type} (yld:σ->(Int × A9)->Option (Bool × σ)) (Y:YI σ) (l:Nat) (hY:YOK Tryz.prog Y l (fun a=>[P6 a.1,(ab).val a.2]) yld) (x2:List A9) (x3:σ) (b1:Nat) (v4:List Nat) (r:(List A9) × (σ)) (h:fb yld x2 x3=some r):Fc 154 ([]++[aev l]++[Pr.pt b1 0]) ([D8 b1 (Rp.list ab) x2]++[E0 Y x3 v4]) (fun _ C'=>∃w9,C'=[D8 b1 (Rp.list ab) r.1]++[E0 Y r.2 w9]):=by
 refine gz (rs:=[]) func154 rfl ntmps154 ⟨by decide,results154⟩ dcd (fun s0=>?_)
 unfold fb at h
 refine W_rs (kUn (ap 0 ty38 (Sub.refl _)) ?_)
 refine kUn (jf rfl underlying38) ?_
 refine kIn rfl rfl rfl (kAs rfl (az ?_))
 obtain⟨z2l,hz2,h⟩:=ag h
 obtain⟨n2,hN2⟩:=bm hz2
 refine cp 0 (fun e C=>∃x6,∃v7,fq yld x2 x6=some r/\At [] [D8 b1 (Rp.list ab) x2,E0 Y x6 v7] e C) ?_ ?_
 ·rintro e C ⟨x6,v7,h,a⟩
  unfold fq at h
  obtain rfl:=osj h
  exact⟨.inr rfl,_,(A8.trans a.2 (A8.refl _)),_,aa,v7,rfl⟩
 refine dq (fun m e C=>∃x5,∃x6,∃v7,ez (fun s=>cf yld x2 s.1 s.2) m (x5,x6)=some z2l/\At [(0,aev l),(1,Pr.pt b1 0),(3,P6 x5)] [D8 b1 (Rp.list ab) x2,E0 Y x6 v7] e C) n2 ⟨w64 ((x2.length:Int) - 1),x3,v4,hN2,⟨⟨aa,aa,aa,tv⟩,A8.refl _⟩⟩ ?_
 rintro m e C ⟨x5,x6,v7,hN2,a⟩
 refine W_at a ?_
 obtain⟨m2,w2l,rfl,h2l,hn2,ho2⟩:=bc hN2
 replace h2l:cf yld x2 x5 x6=some w2l:=h2l
 unfold cf at h2l
 refine a6 (W_rs (kMv rfl (kIn rfl rfl rfl ?_)))
 refine a5 h2l rfl (fun _ h2l=>?_) (fun _ h2l=>?_)
 ·refine au (a6 (az (W_rs (kUn (hMv (out:=aev l) rfl) (kMv rfl (kUn (ap 0 ty38 (Sub.refl _)) ?_))))))
  refine kMv rfl ?_
  obtain⟨x12,k,h2l⟩:=ag h2l
  refine kUn (du underlying38 sizeOf49 k) ?_
  refine kUn (bz ty49) ?_
  obtain⟨⟨x13,x14⟩,k,h2l⟩:=ag h2l
  refine axp 1 (a:=(x5,x12)) hY k (fun v15=>?_)
  refine kNo rfl ?_
  refine a5 h2l rfl (fun _ h2l=>?_) (fun _ h2l=>?_)
  ·obtain rfl:=ho2 _ (ojs h2l)
   replace h:some (x2,x14)=some r:=h
   obtain rfl:=osj h
   exact a7 ⟨.inl rfl,_,A8.of [1,0] rfl,_,aa,v15,rfl⟩
  refine au (W_r (kMv rfl (kIn rfl rfl rfl (kAs rfl ?_))))
  exact⟨m2,lsu,w64 (x5 - 1),x14,v15,hn2 _ (ojs h2l),⟨⟨aa,aa,aa,tv⟩,A8.of [1,0] rfl⟩⟩
 refine dp ?_
 obtain rfl:=ho2 _ (ojs h2l)
 exact⟨x6,v7,h,atOk⟩
theorem ub (x1:List A9):Fc 112 [ao ab x1] [] (fun q C'=>∃b2,q=tk 154 [] [Pr.pt b2 0]/\C'=[D8 b2 (Rp.list ab) x1]):=by
 refine gz (rs:=[2]) func112 rfl ntmps112 ⟨by decide,results112⟩ dcd (fun s0=>?_)
 refine W_rs ?_
 refine rBox (R:=Rp.list ab) (a:=x1) rfl (fun b2=>?_)
 refine kAs rfl (W_rs (kUn ud ?_))
 refine kUn (hAs (out:=tk 154 [] [Pr.pt b2 0]) rfl) ?_
 exact a7 ⟨.inl rfl,_,A8.refl _,_,aa,b2,rfl,rfl⟩
theorem vn (x1:B6) (x2:A9) (x3:Bool) (r:A9 × Int) (h:lk x1 x2 x3=some r):Fp 114 [(aq).val x1,(ab).val x2,Pb x3] (bj [(ab).val r.1,P6 r.2]):=by
 refine c9 (rs:=[.cell 6 49,.tmp 7]) func114 rfl ntmps114 results114 dcd (fun s0=>?_)
 let p1:=A9.mk 0 [] [] [] [] false [] 0 0
 unfold lk at h
 refine W_rs ?_
 refine rBox (R:=aq) (a:=x1) rfl (fun b4=>?_)
 refine rBox (R:=ab) (a:=x2) rfl (fun b5=>?_)
 refine bg jb fun b6=>kAs rfl (a6 (az (W_rs (kMv rfl (kNo rfl (kAs rfl ?_))))))
 refine a5 h rfl (fun _ h=>?_) (fun _ h=>?_)
 ·refine W_rs (kUn (fk st49 rfl) ?_)
  refine am 2 rfl rfl (Upd.refl _) rfl sizeOf49 (kAs rfl ?_)
  obtain rfl:=osj h
  exact a7 ⟨rfl,[(ab).val p1,P6 170],⟨yBox 2 ty49 aa,yT aa,tv⟩,aa⟩
 refine ba (fun e C=>∃x9,rh x2 x9=some r/\At [(4,Pr.pt b5 0),(6,Pr.pt b6 0),(12,Pb x9)] [D8 b4 aq x1,D8 b5 ab x2,D8 b6 ab p1] e C) ?_ ?_
 ·rintro e C ⟨x9,h,a⟩
  refine W_at a ?_
  unfold rh at h
  refine a5 h rfl (fun _ h=>?_) (fun _ h=>?_)
  ·refine W_rs (kUn (fk st49 rfl) ?_)
   refine am 2 rfl rfl (Upd.refl _) rfl sizeOf49 (kAs rfl ?_)
   obtain rfl:=osj h
   exact a7 ⟨rfl,[(ab).val p1,P6 171],⟨yBox 2 ty49 aa,yT aa,tv⟩,aa⟩
  refine au (W_rs (kUn (ap 1 ty49 (Sub.refl _)) ?_))
  refine am 2 rfl rfl (Upd.refl _) rfl sizeOf49 (kAs rfl ?_)
  obtain rfl:=osj h
  exact a7 ⟨rfl,[(ab).val x2,P6 0],⟨yBox 2 ty49 aa,yT aa,tv⟩,aa⟩
 refine W_r (kUn (aj al9) ?_)
 refine kUn (ap 0 ty4 yf) ?_
 refine kMv rfl ?_
 rcases bn h with⟨hc8,h⟩|⟨hc8,h⟩
 ·refine kGd rfl aa hc8 (aj aic) ?_
  refine kGd rfl aa hc8 (ap 1 ty4 ix) ?_
  refine kGd rfl aa hc8 (qNot rfl) (kPt rfl hc8 rfl (kAs rfl ?_))
  exact⟨!x2.Static,h,atOk⟩
 refine skx ?_
 refine kPf rfl hc8 rfl (kAs rfl ?_)
 exact⟨false,h,atOk⟩
theorem afp (x1:B6) (x2:B5) (r:A9 × Int) (h:rf x1 x2=some r):Fp 65 [(aq).val x1,(af).val x2] (bj [(ab).val r.1,P6 r.2]):=by
 refine c9 (n:=47) (rs:=[.cell 4 49,.cell 5 28]) func65 rfl ntmps65 results65 dcd (fun s0=>?_)
 unfold rf at h
 refine W_rs ?_
 refine rBox (R:=aq) (a:=x1) rfl (fun b3=>?_)
 refine rBox (R:=af) (a:=x2) rfl (fun b4=>?_)
 refine agl (R:=ab) (z:=(A9.mk 0 [] [] [] [] false [] 0 0)) zeroValue49 (fun _=>⟨_,⟨_,_,rfl,rfl,⟨_,_,rfl,rfl,⟨_,_,rfl,rfl,⟨_,_,rfl,rfl,⟨_,_,rfl,rfl,⟨_,_,rfl,rfl,⟨_,_,rfl,⟨_,rfl,none,0,rfl,⟨Nat.le_refl _,fun _=>rfl⟩,.inl rfl⟩,⟨_,_,rfl,rfl,⟨_,_,rfl,rfl,rfl⟩⟩⟩⟩⟩⟩⟩⟩⟩,rfl⟩) (fun b5=>?_)
 refine agl (R:=Rp.int .i64) (z:=0) zeroValue28 (fun _=>rfl) (fun b6=>?_)
 refine azl ?_
 refine W_r ?_
 refine rq (out:=Pr.pt b3 3) (aj au8) ?_
 refine rq (out:=ao ab x1.Seen) (ap (R:=aq) (a:=x1) (R':=Rp.list ab) 0 ty38 ag6) ?_
 refine gu [] (ub x1.Seen) (fun q C' hq=>?_)
 obtain⟨b7,rfl,rfl⟩:=hq
 refine⟨rfl,?_⟩
 obtain⟨⟨x12,x15⟩,k,h⟩:=ag h
 refine ash [0] (fun _=> .ret) (fun(s:(Unit) ⊕ (A9)) C=>match s with| .inl s=>C=[D8 b3 aq x1,D8 b4 af x2,D8 b5 ab (A9.mk 0 [] [] [] [] false [] 0 0),D8 b6 (Rp.int .i64) 0]| .inr s=>∃b10,C=[D8 b3 aq x1,D8 b4 af x2,D8 b5 ab s,D8 b6 (Rp.int .i64) 0,D8 b10 ab s]) (encs:=(fun(a:Int × A9)=>[P6 a.1,(ab).val a.2])) (yld:=(fun(s:Unit) (a:Int × A9)=>jm x2 a.1 a.2)) (st0:=()) (stF:=x15) (Ccap':=[D8 b7 (Rp.list ab) x12]) (fun l Y L hY=>ss _ Y l hY x1.Seen (.inl ()) b7 L _ k) rfl (fun _=>rfl) ?_ ?_ (fun _ _ _ h=>h.1)
 ·rintro l _ ⟨x8,x9⟩ rr1 C T s0 rfl hy1
  replace hy1:jm x2 x8 x9=some rr1:=hy1
  unfold jm at hy1
  refine W_r ?_
  refine agl (R:=ab) (z:=(A9.mk 0 [] [] [] [] false [] 0 0)) zeroValue49 (fun _=>⟨_,⟨_,_,rfl,rfl,⟨_,_,rfl,rfl,⟨_,_,rfl,rfl,⟨_,_,rfl,rfl,⟨_,_,rfl,rfl,⟨_,_,rfl,rfl,⟨_,_,rfl,⟨_,rfl,none,0,rfl,⟨Nat.le_refl _,fun _=>rfl⟩,.inl rfl⟩,⟨_,_,rfl,rfl,⟨_,_,rfl,rfl,rfl⟩⟩⟩⟩⟩⟩⟩⟩⟩,rfl⟩) (fun b10=>?_)
  refine aaa (R:=ab) (R':=ab) (a:=(A9.mk 0 [] [] [] [] false [] 0 0)) (y:=x9) 4 sizeOf49 (Upd.refl _) ?_
  refine⟨rfl,fun T s0=>?_⟩
  refine aob ?_
  refine az ?_
  refine W_rs ?_
  refine rq (out:=Pr.pt b10 2) (aj aaf) ?_
  refine rq (out:=Pr.str x9.Name) (ap (R:=ab) (a:=x9) (R':=Rp.str) 4 ty9 f0) ?_
  refine rq (out:=Pr.pt b4 1) (aj ec) ?_
  refine rq (out:=Pr.str x2.Text) (ap (R:=af) (a:=x2) (R':=Rp.str) 1 ty9 bb) ?_
  refine rq (out:=Pb (x9.Name==x2.Text)) qStr ?_
  refine am1 (b:=x9.Name==x2.Text) rfl (fun hc11=>?_) (fun hc11=>?_)
  ·replace hy1:=iteT hc11 hy1
   refine W_rs ?_
   refine rq (out:=(ab).val x9) (ap (R:=ab) (a:=x9) (R':=ab) 4 ty49 (Sub.refl _)) ?_
   refine aaa (R:=ab) (R':=ab) (a:=(A9.mk 0 [] [] [] [] false [] 0 0)) (y:=x9) 2 sizeOf49 (Upd.refl _) ?_
   refine aaa (R:=Rp.int .i64) (R':=Rp.int .i64) (a:=0) (y:=0) 3 sizeOf28 (Upd.refl _) ?_
   obtain rfl:=Option.some.inj hy1
   exact a7 ⟨_,A8.refl _,.inr ⟨_,rfl,rfl,b10,rfl⟩⟩
  replace hy1:=iteF hc11 hy1
  refine au ?_
  obtain rfl:=Option.some.inj hy1
  exact⟨_,A8.of [0,1,2,3] rfl,.inl ⟨rfl,_,rfl,rfl⟩⟩
 intro D C' hj
 cases x15 with
 |inl x13=>
  replace h:((wb x1.Table x1.Class x2.Text).bind fun(x17,x18)=>(if x18=true then(lk x1 x17 true).bind fun(x21,x22)=>some (x21,x22)else(js x1 x2.Text).bind fun(x23,x24)=>(lq x1 x23 x24).bind fun(x25,x26)=>pb x25 x26))=some r:=h
  obtain rfl:=hj
  intro T s0
  refine a6 ?_
  refine W_rs ?_
  refine rq (out:=Pr.pt b3 0) (aj an6) ?_
  refine rq (out:=ao ab x1.Table) (ap (R:=aq) (a:=x1) (R':=Rp.list ab) 1 ty38 o4) ?_
  refine rq (out:=Pr.pt b3 1) (aj ama) ?_
  refine rq (out:=Pr.str x1.Class) (ap (R:=aq) (a:=x1) (R':=Rp.str) 1 ty9 l7) ?_
  refine rq (out:=Pr.pt b4 1) (aj ec) ?_
  refine rq (out:=Pr.str x2.Text) (ap (R:=af) (a:=x2) (R':=Rp.str) 2 ty9 bb) ?_
  obtain⟨⟨x17,x18⟩,k,h⟩:=ag h
  refine rq (out:=bj [(ab).val x17,Pb x18]) (c7 (aiw x1.Table x1.Class x2.Text _ k)) ?_
  refine rq (out:=bj [(ab).val x17,Pb x18]) fr ?_
  refine rq (out:=(ab).val x17) al ?_
  refine rq (out:=Pb x18) al ?_
  refine agl (R:=ab) (z:=(A9.mk 0 [] [] [] [] false [] 0 0)) zeroValue49 (fun _=>⟨_,⟨_,_,rfl,rfl,⟨_,_,rfl,rfl,⟨_,_,rfl,rfl,⟨_,_,rfl,rfl,⟨_,_,rfl,rfl,⟨_,_,rfl,rfl,⟨_,_,rfl,⟨_,rfl,none,0,rfl,⟨Nat.le_refl _,fun _=>rfl⟩,.inl rfl⟩,⟨_,_,rfl,rfl,⟨_,_,rfl,rfl,rfl⟩⟩⟩⟩⟩⟩⟩⟩⟩,rfl⟩) (fun b19=>?_)
  refine aaa (R:=ab) (R':=ab) (a:=(A9.mk 0 [] [] [] [] false [] 0 0)) (y:=x17) 5 sizeOf49 (Upd.refl _) ?_
  refine rq (out:=Pb x18) f7 ?_
  refine W_rs ?_
  refine rq (out:=Pb x18) fr ?_
  refine am1 (b:=x18) rfl (fun hc20=>?_) (fun hc20=>?_)
  ·replace h:=iteT hc20 h
   refine W_rs ?_
   refine rq (out:=(aq).val x1) (ap (R:=aq) (a:=x1) (R':=aq) 1 ty66 (Sub.refl _)) ?_
   refine rq (out:=(ab).val x17) (ap (R:=ab) (a:=x17) (R':=ab) 5 ty49 (Sub.refl _)) ?_
   obtain⟨⟨x21,x22⟩,k,h⟩:=ag h
   refine rq (out:=bj [(ab).val x21,P6 x22]) (c7 (vn x1 x17 true _ k)) ?_
   refine rq (out:=(ab).val x21) al ?_
   refine rq (out:=P6 x22) al ?_
   refine aaa (R:=ab) (R':=ab) (a:=(A9.mk 0 [] [] [] [] false [] 0 0)) (y:=x21) 3 sizeOf49 (Upd.refl _) ?_
   refine aaa (R:=Rp.int .i64) (R':=Rp.int .i64) (a:=0) (y:=x22) 4 sizeOf28 (Upd.refl _) ?_
   obtain rfl:=Option.some.inj h
   exact a7 ⟨rfl,[(ab).val x21,P6 x22],⟨yBox 3 ty49 aa,yBox 4 ty28 aa,tv⟩,aa⟩
  replace h:=iteF hc20 h
  refine au ?_
  refine ba (fun e C=>∃x25,∃x26,pb x25 x26=some r/\At [(4,Pr.pt b5 0),(5,Pr.pt b6 0)] [D8 b7 (Rp.list ab) x12,D8 b3 aq x1,D8 b4 af x2,D8 b5 ab x25,D8 b6 (Rp.int .i64) x26,D8 b19 ab x17] e C) ?_ ?_
  ·rintro e C ⟨x25,x26,h,a⟩
   refine W_at a ?_
   clear a
   unfold pb at h
   obtain rfl:=Option.some.inj h
   exact a7 ⟨rfl,[(ab).val x25,P6 x26],⟨yBox 3 ty49 aa,yBox 4 ty28 aa,tv⟩,aa⟩
  refine jg 10 hmx kr kr ?_
  refine qq (out:=(aq).val x1) (ap (R:=aq) (a:=x1) (R':=aq) 1 ty66 (Sub.refl _)) ?_
  refine qq (out:=(aq).val x1) (ap (R:=aq) (a:=x1) (R':=aq) 1 ty66 (Sub.refl _)) ?_
  refine qq (out:=Pr.pt b4 1) (aj ec) ?_
  refine qq (out:=Pr.str x2.Text) (ap (R:=af) (a:=x2) (R':=Rp.str) 2 ty9 bb) ?_
  obtain⟨⟨x23,x24⟩,k,h⟩:=ag h
  refine qq (out:=bj [(ab).val x23,Pb x24]) (c7 (sb x1 x2.Text _ k)) ?_
  refine qq (out:=(ab).val x23) al ?_
  refine qq (out:=Pb x24) al ?_
  obtain⟨⟨x25,x26⟩,k,h⟩:=ag h
  refine qq (out:=bj [(ab).val x25,P6 x26]) (c7 (z8 x1 x23 x24 _ k)) ?_
  refine qq (out:=(ab).val x25) al ?_
  refine qq (out:=P6 x26) al ?_
  refine aaa (R:=ab) (R':=ab) (a:=(A9.mk 0 [] [] [] [] false [] 0 0)) (y:=x25) 3 sizeOf49 (Upd.refl _) ?_
  refine aaa (R:=Rp.int .i64) (R':=Rp.int .i64) (a:=0) (y:=x26) 4 sizeOf28 (Upd.refl _) ?_
  exact⟨x25,x26,h,⟨⟨aa,aa,tv⟩,A8.refl _⟩⟩
 |inr x16=>
  replace h:(some (x16,0))=some r:=h
  obtain⟨b10,rfl⟩:=hj
  obtain rfl:=Option.some.inj h
  exact .inr ⟨rfl,⟨rfl,[(ab).val x16,P6 0],⟨yBox 3 ty49 aa,yBox 4 ty28 aa,tv⟩,aa⟩⟩
theorem alm (x1:B6) (x2:B5) (r:A9 × Int) (h:u6 x1 x2=some r):Fp 66 [(aq).val x1,(af).val x2] (bj [(ab).val r.1,P6 r.2]):=by
 refine c9 (rs:=[.cell 4 49,.tmp 5]) func66 rfl ntmps66 results66 dcd (fun s0=>?_)
 unfold u6 at h
 refine W_rs ?_
 refine rBox (R:=aq) (a:=x1) rfl (fun b3=>?_)
 refine rBox (R:=af) (a:=x2) rfl (fun b4=>?_)
 refine bg jb fun b5=>kAs rfl ?_
 refine ba (fun e C=>∃x9,∃x8,t8 x9 x8=some r/\At [(4,Pr.pt b5 0),(5,P6 x9)] [D8 b3 aq x1,D8 b4 af x2,D8 b5 ab x8] e C) ?_ ?_
 ·rintro e C ⟨x9,x8,h,a⟩
  refine W_at a ?_
  unfold t8 at h
  obtain rfl:=osj h
  exact a7 ⟨rfl,[(ab).val x8,P6 x9],⟨yBox 2 ty49 aa,yT aa,tv⟩,aa⟩
 refine jg 13 hmx kr kr ?_
 refine lUn (ap 0 ty66 (Sub.refl _)) ?_
 refine lUn (aj an6) ?_
 refine lUn (ap 0 ty38 o4) ?_
 refine lUn (aj ama) ?_
 refine lUn (ap 0 ty9 l7) ?_
 refine lUn (aj ec) ?_
 refine lUn (ap 1 ty9 bb) ?_
 obtain⟨⟨x6,x7⟩,k,h⟩:=ag h
 refine lUn (c7 (ahm x1.Table x1.Class x2.Text _ k)) ?_
 refine lUn al ?_
 refine lUn al ?_
 obtain⟨⟨x8,x9⟩,k,h⟩:=ag h
 refine lUn (c7 (vn x1 x6 x7 _ k)) ?_
 refine lUn al ?_
 refine lUn al ?_
 refine am 2 rfl rfl (Upd.refl _) rfl sizeOf49 (kAs rfl ?_)
 exact⟨x9,x8,h,atOk⟩
end Go.Proofs.YtcndghapmoaidaaGreatDoor
set_option linter.unusedSectionVars false
set_option maxRecDepth 100000
set_option maxHeartbeats 4000000
namespace Go.Proofs.YtcndghapmoaidaaGreatDoor
open Go Go.Cn Tryz
attribute [local irreducible] mq ao
theorem alk (x1:B6) (x2:B5) (r:A9 × Int) (h:u5 x1 x2=some r):Fp 67 [(aq).val x1,(af).val x2] (bj [(ab).val r.1,P6 r.2]):=by
 refine c9 (rs:=[.cell 4 49,.tmp 5]) func67 rfl ntmps67 results67 dcd (fun s0=>?_)
 unfold u5 at h
 refine W_rs ?_
 refine rBox (R:=aq) (a:=x1) rfl (fun b3=>?_)
 refine rBox (R:=af) (a:=x2) rfl (fun b4=>?_)
 refine bg jb fun b5=>kAs rfl ?_
 refine ba (fun e C=>∃x9,∃x8,t7 x9 x8=some r/\At [(4,Pr.pt b5 0),(5,P6 x9)] [D8 b3 aq x1,D8 b4 af x2,D8 b5 ab x8] e C) ?_ ?_
 ·rintro e C ⟨x9,x8,h,a⟩
  refine W_at a ?_
  unfold t7 at h
  obtain rfl:=osj h
  exact a7 ⟨rfl,[(ab).val x8,P6 x9],⟨yBox 2 ty49 aa,yT aa,tv⟩,aa⟩
 refine jg 10 hmx kr kr ?_
 refine lUn (ap 0 ty66 (Sub.refl _)) ?_
 refine lUn (ap 0 ty66 (Sub.refl _)) ?_
 refine lUn (aj ec) ?_
 refine lUn (ap 1 ty9 bb) ?_
 obtain⟨⟨x6,x7⟩,k,h⟩:=ag h
 refine lUn (c7 (sb x1 x2.Text _ k)) ?_
 refine lUn al ?_
 refine lUn al ?_
 obtain⟨⟨x8,x9⟩,k,h⟩:=ag h
 refine lUn (c7 (z8 x1 x6 x7 _ k)) ?_
 refine lUn al ?_
 refine lUn al ?_
 refine am 2 rfl rfl (Upd.refl _) rfl sizeOf49 (kAs rfl ?_)
 exact⟨x9,x8,h,atOk⟩
def g0 (R:bl):Prop:=(∀(x1:B6) (x2:B5) (r:A9 × Int),R.1 x1 x2=some r->Fp 32 [(aq).val x1,(af).val x2] (bj [(ab).val r.1,P6 r.2]))/\(∀(x1:B6) (x2:B5) (r:Bt),R.2.1 x1 x2=some r->Fp 33 [(aq).val x1,(af).val x2] (Pr.str r))/\(∀(x1:B6) (x2:B5) (r:A9 × Int),R.2.2.1 x1 x2=some r->Fp 68 [(aq).val x1,(af).val x2] (bj [(ab).val r.1,P6 r.2]))/\(∀(x1:B6) (x2:B5) (r:A9 × Int),R.2.2.2.1 x1 x2=some r->Fp 69 [(aq).val x1,(af).val x2] (bj [(ab).val r.1,P6 r.2]))/\(∀(x1:B6) (x2:B5) (x3:((List A9)->Bt->Bt->Option (A9 × Bool))) (r:A9 × Int),R.2.2.2.2 x1 x2 x3=some r->Fp 118 [(aq).val x1,(af).val x2,d9 Tryz.prog (afr x3)] (bj [(ab).val r.1,P6 r.2]))
theorem ahb (R:bl) (ih:g0 R) (x1:B6) (x2:B5) (r:A9 × Int) (h:oe R x1 x2=some r):Fp 32 [(aq).val x1,(af).val x2] (bj [(ab).val r.1,P6 r.2]):=by
 refine c9 (rs:=[.cell 4 49,.tmp 5]) func32 rfl ntmps32 results32 dcd (fun s0=>?_)
 unfold oe at h
 refine W_rs ?_
 refine rBox (R:=aq) (a:=x1) rfl (fun b3=>?_)
 refine rBox (R:=af) (a:=x2) rfl (fun b4=>?_)
 refine bg jb fun b5=>kAs rfl (W_rs ?_)
 refine atk (Rp.int .i64) (Rp.bd ((aq).val x1)) (fun b6=>?_)
 refine kUn (ap 0 ty66 (Sub.refl _)) ?_
 refine kUn ud ?_
 refine akk (Rk:=Rp.int .i64) (R:=Rp.bd ((aq).val x1)) (m:=([]:GMap Int (Option Nat))) (kx:=17) (v:=(some 65)) 3 (ags underlying3) underlying114 ?_ (hu:=an9)
 refine kUn (ap 0 ty66 (Sub.refl _)) ?_
 refine kUn ud ?_
 refine akk (Rk:=Rp.int .i64) (R:=Rp.bd ((aq).val x1)) (m:=(gset 17 (some 65) ([]:GMap Int (Option Nat)))) (kx:=19) (v:=(some 66)) 3 (ags underlying3) underlying114 ?_ (hu:=an9)
 refine kUn (ap 0 ty66 (Sub.refl _)) ?_
 refine kUn ud ?_
 refine akk (Rk:=Rp.int .i64) (R:=Rp.bd ((aq).val x1)) (m:=(gset 19 (some 66) (gset 17 (some 65) ([]:GMap Int (Option Nat))))) (kx:=21) (v:=(some 67)) 3 (ags underlying3) underlying114 ?_ (hu:=an9)
 refine kUn (ap 0 ty66 (Sub.refl _)) ?_
 refine kUn ud ?_
 refine akk (Rk:=Rp.int .i64) (R:=Rp.bd ((aq).val x1)) (m:=(gset 21 (some 67) (gset 19 (some 66) (gset 17 (some 65) ([]:GMap Int (Option Nat)))))) (kx:=18) (v:=(some 68)) 3 (ags underlying3) underlying114 ?_ (hu:=an9)
 refine kUn (ap 0 ty66 (Sub.refl _)) ?_
 refine kUn ud ?_
 refine akk (Rk:=Rp.int .i64) (R:=Rp.bd ((aq).val x1)) (m:=(gset 18 (some 68) (gset 21 (some 67) (gset 19 (some 66) (gset 17 (some 65) ([]:GMap Int (Option Nat))))))) (kx:=20) (v:=(some 69)) 3 (ags underlying3) underlying114 ?_ (hu:=an9)
 refine kUn (hMv (out:=qt b6) rfl) (kUn (aj e8) ?_)
 refine kUn (ap 1 ty3 a8) ?_
 refine kUn (ayu (Rk:=Rp.int .i64) (R:=Rp.bd ((aq).val x1)) (m:=(gset 20 (some 69) (gset 18 (some 68) (gset 21 (some 67) (gset 19 (some 66) (gset 17 (some 65) ([]:GMap Int (Option Nat)))))))) (kx:=x2.Kind) (z:=none) 3 (ags underlying3) underlying114 zeroValue68 (fun _=>rfl)) ?_
 refine kUn (hMv (out:=bj [(Rp.bd ((aq).val x1)).val (gget x2.Kind none (gset 20 (some 69) (gset 18 (some 68) (gset 21 (some 67) (gset 19 (some 66) (gset 17 (some 65) ([]:GMap Int (Option Nat)))))))),Pb (ghas x2.Kind (gset 20 (some 69) (gset 18 (some 68) (gset 21 (some 67) (gset 19 (some 66) (gset 17 (some 65) ([]:GMap Int (Option Nat))))))))]) rfl) (kUn al ?_)
 refine kUn al ?_
 refine kUn (hAs (out:=(Rp.bd ((aq).val x1)).val (gget x2.Kind none (gset 20 (some 69) (gset 18 (some 68) (gset 21 (some 67) (gset 19 (some 66) (gset 17 (some 65) ([]:GMap Int (Option Nat))))))))) rfl) (kAs rfl (a6 (W_rs (kMv rfl (kNo rfl ?_)))))
 refine a5 h rfl (fun _ h=>?_) (fun _ h=>?_)
 ·refine W_rs (kUn (fk st49 rfl) ?_)
  refine am 2 rfl rfl (Upd.refl _) rfl sizeOf49 (kAs rfl ?_)
  obtain rfl:=osj h
  exact a7 ⟨rfl,[(ab).val (A9.mk 0 [] [] [] [] false [] 0 0),P6 0],⟨yBox 2 ty49 aa,yT aa,tv⟩,aa⟩
 refine au (W_rs (kUn (hMv (out:=(Rp.bd ((aq).val x1)).val (gget x2.Kind none (gset 20 (some 69) (gset 18 (some 68) (gset 21 (some 67) (gset 19 (some 66) (gset 17 (some 65) ([]:GMap Int (Option Nat))))))))) rfl) (kUn (ap 1 ty64 (Sub.refl _)) ?_)))
 rcases bn h with⟨hc8,h⟩|⟨hc8,h⟩
 ·refine rEnv 29 (q:=tk 65 [(aq).val x1] []) (atd hc8) ?_
  obtain⟨⟨x9,x10⟩,k,h⟩:=ag h
  refine kUn (akl (afp x1 x2 _ k)) ?_
  refine kUn al ?_
  refine kUn al ?_
  refine am 2 rfl rfl (Upd.refl _) rfl sizeOf49 (kAs rfl ?_)
  obtain rfl:=osj h
  exact a7 ⟨rfl,[(ab).val x9,P6 x10],⟨yBox 2 ty49 aa,yT aa,tv⟩,aa⟩
 rcases bn h with⟨hc11,h⟩|⟨hc11,h⟩
 ·refine rEnv 29 (q:=tk 66 [(aq).val x1] []) (atd hc11) ?_
  obtain⟨⟨x12,x13⟩,k,h⟩:=ag h
  refine kUn (akl (alm x1 x2 _ k)) ?_
  refine kUn al ?_
  refine kUn al ?_
  refine am 2 rfl rfl (Upd.refl _) rfl sizeOf49 (kAs rfl ?_)
  obtain rfl:=osj h
  exact a7 ⟨rfl,[(ab).val x12,P6 x13],⟨yBox 2 ty49 aa,yT aa,tv⟩,aa⟩
 rcases bn h with⟨hc14,h⟩|⟨hc14,h⟩
 ·refine rEnv 29 (q:=tk 67 [(aq).val x1] []) (atd hc14) ?_
  obtain⟨⟨x15,x16⟩,k,h⟩:=ag h
  refine kUn (akl (alk x1 x2 _ k)) ?_
  refine kUn al ?_
  refine kUn al ?_
  refine am 2 rfl rfl (Upd.refl _) rfl sizeOf49 (kAs rfl ?_)
  obtain rfl:=osj h
  exact a7 ⟨rfl,[(ab).val x15,P6 x16],⟨yBox 2 ty49 aa,yT aa,tv⟩,aa⟩
 rcases bn h with⟨hc17,h⟩|⟨hc17,h⟩
 ·refine rEnv 29 (q:=tk 68 [(aq).val x1] []) (atd hc17) ?_
  obtain⟨⟨x18,x19⟩,k,h⟩:=ag h
  refine kUn (akl (ih.2.2.1 x1 x2 _ k)) ?_
  refine kUn al ?_
  refine kUn al ?_
  refine am 2 rfl rfl (Upd.refl _) rfl sizeOf49 (kAs rfl ?_)
  obtain rfl:=osj h
  exact a7 ⟨rfl,[(ab).val x18,P6 x19],⟨yBox 2 ty49 aa,yT aa,tv⟩,aa⟩
 rcases bn h with⟨hc20,h⟩|⟨hc20,h⟩
 ·refine rEnv 29 (q:=tk 69 [(aq).val x1] []) (atd hc20) ?_
  obtain⟨⟨x21,x22⟩,k,h⟩:=ag h
  refine kUn (akl (ih.2.2.2.1 x1 x2 _ k)) ?_
  refine kUn al ?_
  refine kUn al ?_
  refine am 2 rfl rfl (Upd.refl _) rfl sizeOf49 (kAs rfl ?_)
  obtain rfl:=osj h
  exact a7 ⟨rfl,[(ab).val x21,P6 x22],⟨yBox 2 ty49 aa,yT aa,tv⟩,aa⟩
 cases h
theorem ah1 (R:bl) (ih:g0 R) (x1:B6) (x2:B5) (r:Bt) (h:rk R x1 x2=some r):Fp 33 [(aq).val x1,(af).val x2] (Pr.str r):=by
 refine c8 (rs:=[4]) func33 rfl ntmps33 ⟨by decide,results33⟩ dcd (fun s0=>?_)
 unfold rk at h
 refine W_rs ?_
 refine rBox (R:=aq) (a:=x1) rfl (fun b3=>?_)
 refine rBox (R:=af) (a:=x2) rfl (fun b4=>?_)
 refine kAs rfl (a6 (W_rs (kUn (aj e8) ?_)))
 refine kUn (ap 1 ty3 a8) ?_
 refine az ?_
 refine ba (fun e C=>∃x6,pd R x2 x1 x6=some r/\At [(2,Pr.pt b3 0),(3,Pr.pt b4 0),(8,P6 x2.Kind),(9,Pb x6)] [D8 b3 aq x1,D8 b4 af x2] e C) ?_ ?_
 ·rintro e C ⟨x6,h,a⟩
  refine W_at a ?_
  unfold pd at h
  refine a5 h rfl (fun _ h=>?_) (fun _ h=>?_)
  ·refine W_rs (kAs rfl ?_)
   obtain rfl:=osj h
   exact a7 ⟨rfl,aa⟩
  refine ba (fun e C=>∃x9,pe R x2 x1 x9=some r/\At [(2,Pr.pt b3 0),(3,Pr.pt b4 0),(8,P6 x2.Kind),(12,Pb x9)] [D8 b3 aq x1,D8 b4 af x2] e C) ?_ ?_
  ·rintro e C ⟨x9,h,a⟩
   refine W_at a ?_
   unfold pe at h
   refine a5 h rfl (fun _ h=>?_) (fun _ h=>?_)
   ·refine W_rs (kAs rfl ?_)
    obtain rfl:=osj h
    exact a7 ⟨rfl,aa⟩
   refine W_rs (kIn rfl rfl rfl (kAs rfl ?_))
   refine a5 h rfl (fun _ h=>?_) (fun _ h=>?_)
   ·refine W_rs (kAs rfl ?_)
    obtain rfl:=osj h
    exact a7 ⟨rfl,aa⟩
   refine W_rs (kIn rfl rfl rfl (kAs rfl ?_))
   refine a5 h rfl (fun _ h=>?_) (fun _ h=>?_)
   ·refine a6 (W_rs (kUn (np (R:=Rp.str) (ls:=([([43]:Bt),([45]:Bt),([42]:Bt),([47]:Bt),([37]:Bt)]:List Bt)) el22 nb ⟨rfl,rfl⟩ ⟨rfl,rfl,rfl,rfl,rfl,tv⟩) ?_))
    refine kUn (aj ec) ?_
    refine kUn (ap 1 ty9 bb) ?_
    refine cr h (qo ([([43]:Bt),([45]:Bt),([42]:Bt),([47]:Bt),([37]:Bt)]:List Bt) x2.Text) rfl fun x13 _ h=>?_
    refine a5 h rfl (fun _ h=>?_) (fun _ h=>?_)
    ·refine W_rs (kAs rfl ?_)
     obtain rfl:=osj h
     exact a7 ⟨rfl,aa⟩
    refine au (W_rs (kAs rfl ?_))
    obtain rfl:=osj h
    exact a7 ⟨rfl,aa⟩
   refine W_rs (kIn rfl rfl rfl (kAs rfl ?_))
   refine a5 h rfl (fun _ h=>?_) (fun _ h=>?_)
   ·refine a6 (W_rs (kUn (aj al9) ?_))
    refine kUn (ap 0 ty4 yf) ?_
    refine kNo rfl ?_
    refine a5 h rfl (fun _ h=>?_) (fun _ h=>?_)
    ·refine W_rs (kUn (aj ama) ?_)
     refine kUn (ap 0 ty9 l7) ?_
     refine kAs rfl ?_
     obtain rfl:=osj h
     exact a7 ⟨rfl,aa⟩
    refine au (W_rs (kAs rfl ?_))
    obtain rfl:=osj h
    exact a7 ⟨rfl,aa⟩
   refine au (W_rs (kUn (ap 0 ty66 (Sub.refl _)) ?_))
   refine kUn (ap 1 ty64 (Sub.refl _)) ?_
   obtain⟨⟨x17,x18⟩,k,h⟩:=ag h
   refine kUn (c7 (ih.1 x1 x2 _ k)) ?_
   refine kUn (hMv (out:=bj [(ab).val x17,P6 x18]) rfl) (kUn al ?_)
   refine kUn al ?_
   refine bg jb fun b19=>am 2 rfl rfl (Upd.refl _) rfl sizeOf49 (kAs rfl (a6 (az (W_rs (kMv rfl (kIn rfl rfl rfl (kAs rfl ?_)))))))
   refine a5 h rfl (fun _ h=>?_) (fun _ h=>?_)
   ·refine W_rs (kAs rfl ?_)
    obtain rfl:=osj h
    exact a7 ⟨rfl,aa⟩
   refine W_rs (kUn (aj e8) ?_)
   refine kUn (ap 1 ty3 a8) ?_
   refine kIn rfl rfl rfl (kAs rfl ?_)
   refine a5 h rfl (fun _ h=>?_) (fun _ h=>?_)
   ·refine W_rs (kUn (aj ll) ?_)
    refine kUn (ap 2 ty9 dw) ?_
    refine kAs rfl ?_
    obtain rfl:=osj h
    exact a7 ⟨rfl,aa⟩
   refine W_rs (kUn (aj ol) ?_)
   refine kUn (ap 2 ty3 db) ?_
   refine kIn rfl rfl rfl (kAs rfl ?_)
   refine a5 h rfl (fun _ h=>?_) (fun _ h=>?_)
   ·refine W_rs (kAs rfl ?_)
    obtain rfl:=osj h
    exact a7 ⟨rfl,aa⟩
   refine au (W_rs (kUn (aj tj) ?_))
   refine kUn (ap 2 ty9 dm) ?_
   refine kAs rfl ?_
   obtain rfl:=osj h
   exact a7 ⟨rfl,aa⟩
  refine W_rs (kIn rfl rfl rfl (kAs rfl ?_))
  refine a5 h rfl (fun _ h=>?_) (fun _ h=>?_)
  ·refine au ?_
   exact⟨x2.Kind==14,h,atOk⟩
  refine W_r (kIn rfl rfl rfl (kAs rfl ?_))
  exact⟨x2.Kind==22,h,atOk⟩
 refine W_rs (kIn rfl rfl rfl (kAs rfl ?_))
 refine a5 h rfl (fun _ h=>?_) (fun _ h=>?_)
 ·refine au ?_
  exact⟨x2.Kind==13,h,atOk⟩
 refine W_r (kIn rfl rfl rfl (kAs rfl ?_))
 exact⟨x2.Kind==23,h,atOk⟩
theorem aja (R:bl) (ih:g0 R) (x1:B6) (x2:B5) (r:A9 × Int) (h:sr R x1 x2=some r):Fp 68 [(aq).val x1,(af).val x2] (bj [(ab).val r.1,P6 r.2]):=by
 refine c9 (rs:=[.cell 4 49,.tmp 5]) func68 rfl ntmps68 results68 dcd (fun s0=>?_)
 unfold sr at h
 refine W_rs ?_
 refine rBox (R:=aq) (a:=x1) rfl (fun b3=>?_)
 refine rBox (R:=af) (a:=x2) rfl (fun b4=>?_)
 refine bg jb fun b5=>kAs rfl (W_rs (kUn (ap 0 ty66 (Sub.refl _)) ?_))
 refine kUn (ap 1 ty64 (Sub.refl _)) ?_
 obtain⟨⟨x6,x7⟩,k,h⟩:=ag h
 refine kUn (adt (ih.2.2.2.2 x1 x2 wb _ k) ⟨aa,aa,(axt en113 (fun _ _ hs=>by obtain⟨a0,a1,a2,r,rfl,rfl,hr⟩:=hs;exact aiw a0 a1 a2 r hr)),tv⟩) ?_
 refine kUn al ?_
 refine kUn al ?_
 refine am 2 rfl rfl (Upd.refl _) rfl sizeOf49 (kAs rfl ?_)
 obtain rfl:=osj h
 exact a7 ⟨rfl,[(ab).val x6,P6 x7],⟨yBox 2 ty49 aa,yT aa,tv⟩,aa⟩
theorem agi (R:bl) (ih:g0 R) (x1:B6) (x2:B5) (r:A9 × Int) (h:my R x1 x2=some r):Fp 69 [(aq).val x1,(af).val x2] (bj [(ab).val r.1,P6 r.2]):=by
 refine c9 (rs:=[.cell 4 49,.tmp 5]) func69 rfl ntmps69 results69 dcd (fun s0=>?_)
 unfold my at h
 refine W_rs ?_
 refine rBox (R:=aq) (a:=x1) rfl (fun b3=>?_)
 refine rBox (R:=af) (a:=x2) rfl (fun b4=>?_)
 refine bg jb fun b5=>kAs rfl (W_rs (kUn (ap 0 ty66 (Sub.refl _)) ?_))
 refine kUn (ap 1 ty64 (Sub.refl _)) ?_
 obtain⟨⟨x6,x7⟩,k,h⟩:=ag h
 refine kUn (adt (ih.2.2.2.2 x1 x2 vg _ k) ⟨aa,aa,(axt en117 (fun _ _ hs=>by obtain⟨a0,a1,a2,r,rfl,rfl,hr⟩:=hs;exact ahm a0 a1 a2 r hr)),tv⟩) ?_
 refine kUn al ?_
 refine kUn al ?_
 refine am 2 rfl rfl (Upd.refl _) rfl sizeOf49 (kAs rfl ?_)
 obtain rfl:=osj h
 exact a7 ⟨rfl,[(ab).val x6,P6 x7],⟨yBox 2 ty49 aa,yT aa,tv⟩,aa⟩
theorem aha (R:bl) (ih:g0 R) (x1:B6) (x2:B5) (x3:((List A9)->Bt->Bt->Option (A9 × Bool))) (r:A9 × Int) (h:od R x1 x2 x3=some r):Fp 118 [(aq).val x1,(af).val x2,d9 Tryz.prog (afr x3)] (bj [(ab).val r.1,P6 r.2]):=by
 refine c9 (rs:=[.cell 6 49,.tmp 7]) func118 rfl ntmps118 results118 dcd (fun s0=>?_)
 let p1:=A9.mk 0 [] [] [] [] false [] 0 0
 unfold od at h
 refine W_rs ?_
 refine rBox (R:=aq) (a:=x1) rfl (fun b4=>?_)
 let p2:=D8 b4 aq x1
 refine rBox (R:=af) (a:=x2) rfl (fun b5=>?_)
 let p3:=D8 b5 af x2
 refine bg jb fun b6=>kAs rfl (a6 (W_rs (kUn (aj kw) ?_)))
 let p4:=D8 b6 ab p1
 refine kUn (ap 1 ty53 cn) ?_
 refine kUn (jf rfl underlying53) ?_
 refine kIn rfl rfl rfl ?_
 refine a5 h rfl (fun _ h=>?_) (fun _ h=>?_)
 ·refine W_rs (kUn (fk st49 rfl) ?_)
  refine am 2 rfl rfl (Upd.refl _) rfl sizeOf49 (kAs rfl ?_)
  obtain rfl:=osj h
  exact a7 ⟨rfl,[(ab).val p1,P6 180],⟨yBox 2 ty49 aa,yT aa,tv⟩,aa⟩
 refine au (W_rs (kUn (aj kw) ?_))
 refine kUn (ap 1 ty53 cn) ?_
 obtain⟨x8,k,h⟩:=ag h
 refine kUn (du underlying53 sizeOf64 k) ?_
 refine kUn (bz ty64) ?_
 refine bg al64 fun b9=>am 3 rfl rfl (Upd.refl _) rfl sizeOf64 ?_
 let p5:=D8 b9 af x8
 refine ba (fun e C=>ku R x1 x8 x3 x2=some r/\At [(2,d9 Tryz.prog (afr x3)),(3,Pr.pt b4 0),(4,Pr.pt b5 0),(6,Pr.pt b6 0),(8,Pr.pt b9 0)] [p2,p3,p4,p5] e C) ?_ ?_
 ·rintro e C ⟨h,a⟩
  refine W_at a ?_
  unfold ku at h
  refine ba (fun e C=>∃x24,∃x23,∃b25,qy R x3 x1 x2 x24 x23=some r/\At [(2,d9 Tryz.prog (afr x3)),(3,Pr.pt b4 0),(4,Pr.pt b5 0),(6,Pr.pt b6 0),(12,Pr.pt b25 0),(13,Pb x24)] [p2,p3,p4,p5,D8 b25 ab x23] e C) ?_ ?_
  ·rintro e C ⟨x24,x23,b25,h,a⟩
   refine W_at a ?_
   unfold qy at h
   refine a6 ?_
   refine ba (fun e C=>∃x27,mv R x3 x1 x23 x2 x27=some r/\At [(2,d9 Tryz.prog (afr x3)),(3,Pr.pt b4 0),(4,Pr.pt b5 0),(6,Pr.pt b6 0),(12,Pr.pt b25 0),(70,Pb x27)] [p2,p3,p4,p5,D8 b25 ab x23] e C) ?_ ?_
   ·rintro e C ⟨x27,h,a⟩
    refine W_at a ?_
    unfold mv at h
    refine a5 h rfl (fun _ h=>?_) (fun _ h=>?_)
    ·refine W_rs (kUn (fk st49 rfl) ?_)
     refine am 2 rfl rfl (Upd.refl _) rfl sizeOf49 (kAs rfl ?_)
     obtain rfl:=osj h
     exact a7 ⟨rfl,[(ab).val p1,P6 180],⟨yBox 2 ty49 aa,yT aa,tv⟩,aa⟩
    refine au (W_rs (kUn (ap 0 ty66 (Sub.refl _)) ?_))
    refine bg al66 fun b29=>am 5 rfl rfl (Upd.refl _) rfl sizeOf66 (W_rs (kUn (aj al9) ?_))
    refine am 5 rfl rfl ye rfl sizeOf4 ?_
    refine ba (fun e C=>∃x33,∃x32,qz R x33 x32=some r/\At [(6,Pr.pt b6 0),(7,P6 x33)] [p2,p3,D8 b6 ab x32,p5,D8 b25 ab x23,D8 b29 aq ({x1 with Static:=false})] e C) ?_ ?_
    ·rintro e C ⟨x33,x32,h,a⟩
     refine W_at a ?_
     unfold qz at h
     obtain rfl:=osj h
     exact a7 ⟨rfl,[(ab).val x32,P6 x33],⟨yBox 2 ty49 aa,yT aa,tv⟩,aa⟩
    refine jg 14 hmx kr kr ?_
    refine lUn (ap 5 ty66 (Sub.refl _)) ?_
    refine lUn (hMv (out:=d9 Tryz.prog (afr x3)) rfl) (lUn (aj an6) ?_)
    refine lUn (ap 0 ty38 o4) ?_
    refine lUn (aj ll) ?_
    refine lUn (ap 4 ty9 dw) ?_
    refine lUn (aj ec) ?_
    refine lUn (ap 1 ty9 bb) ?_
    obtain⟨⟨x30,x31⟩,k,h⟩:=ag h
    refine lUn (anw (spec:=afr x3) ⟨_,_,_,_,rfl,rfl,k⟩) ?_
    refine lUn al ?_
    refine lUn al ?_
    obtain⟨⟨x32,x33⟩,k,h⟩:=ag h
    refine lUn (c7 (vn ({x1 with Static:=false}) x30 x31 _ k)) ?_
    refine lUn al ?_
    refine lUn al ?_
    refine am 2 rfl rfl (Upd.refl _) rfl sizeOf49 (kAs rfl ?_)
    exact⟨x33,x32,h,atOk⟩
   refine W_r (kMv rfl (kNo rfl (kMv rfl ?_)))
   rcases bn h with⟨hc26,h⟩|⟨hc26,h⟩
   ·refine skx ?_
    refine kPt rfl hc26 rfl ?_
    exact⟨true,h,atOk⟩
   refine kGd rfl aa hc26 (aj ll) ?_
   refine kGd rfl aa hc26 (ap 4 ty9 dw) ?_
   refine kGd rfl aa hc26 (qStr rfl rfl rfl) (kPf rfl hc26 rfl ?_)
   exact⟨x23.Id==[],h,atOk⟩
  obtain⟨x22,hx22,h⟩:=ag h
  obtain⟨⟨x23,x24⟩,hx23,h⟩:=ag h
  refine ary 1 (fun B S=>[D8 b4 aq x1,D8 b5 af x2,D8 b6 ab (A9.mk 0 [] [] [] [] false [] 0 0),D8 b9 af x8,(cond (S 9) (D8 (B 8) ab x23) (cond (S 8) (D8 (B 8) ab (A9.mk 0 [] [] [] [] false [] 0 0)) A4.nil))]) (fun B=>[D8 b4 aq x1,D8 b5 af x2,D8 b6 ab (A9.mk 0 [] [] [] [] false [] 0 0),D8 b9 af x8,D8 (B 8) ab x23]) [(aq).val x1,(aq).val x1,(af).val x8,Pr.str x22,bj [(ab).val x23,Pb x24],bj [(ab).val x23,Pb x24],(ab).val x23,Pb x24,.any,.any,Pb x24] (fun k=>([0,0,0,0,0,0,0,0,2,1,0]:List Nat).getD k 0) hmx kr kr (fun _=>rfl) (fun B S S' h=>by show([D8 b4 aq x1,D8 b5 af x2,D8 b6 ab (A9.mk 0 [] [] [] [] false [] 0 0),D8 b9 af x8,(cond (S 9) (D8 (B 8) ab x23) (cond (S 8) (D8 (B 8) ab (A9.mk 0 [] [] [] [] false [] 0 0)) A4.nil))]:Ctx)=[D8 b4 aq x1,D8 b5 af x2,D8 b6 ab (A9.mk 0 [] [] [] [] false [] 0 0),D8 b9 af x8,(cond (S' 9) (D8 (B 8) ab x23) (cond (S' 8) (D8 (B 8) ab (A9.mk 0 [] [] [] [] false [] 0 0)) A4.nil))];simp only[h 8 (Nat.le_of_ble_eq_true kr),h 9 (Nat.le_of_ble_eq_true kr)]) (fun _=>rfl) (fun B=>?_)
  refine gq1 (fun S hK=>(ap (R:=aq) (a:=x1) (R':=aq) 0 ty66 (Sub.refl _) (hi:=rfl))) ?_
  refine gq1 (fun S hK=>(ap (R:=aq) (a:=x1) (R':=aq) 0 ty66 (Sub.refl _) (hi:=rfl))) ?_
  refine gq1 (fun S hK=>(ap (R:=af) (a:=x8) (R':=af) 3 ty64 (Sub.refl _) (hi:=rfl))) ?_
  refine gq1 (fun S hK=>(c7 (ih.2.1 x1 x8 _ hx22))) ?_
  refine gq1 (fun S hK=>(c7 (sb x1 x22 _ hx23))) ?_
  refine gq1 (fun S hK=>fr) ?_
  refine gq1 (fun S hK=>al) ?_
  refine gq1 (fun S hK=>al) ?_
  refine gqA (fun S hK=>⟨fun B' hB=>by show([D8 b4 aq x1,D8 b5 af x2,D8 b6 ab (A9.mk 0 [] [] [] [] false [] 0 0),D8 b9 af x8,(cond (S 9) (D8 (B' 8) ab x23) (cond (S 8) (D8 (B' 8) ab (A9.mk 0 [] [] [] [] false [] 0 0)) A4.nil))]:Ctx)=[D8 b4 aq x1,D8 b5 af x2,D8 b6 ab (A9.mk 0 [] [] [] [] false [] 0 0),D8 b9 af x8,(cond (S 9) (D8 (B 8) ab x23) (cond (S 8) (D8 (B 8) ab (A9.mk 0 [] [] [] [] false [] 0 0)) A4.nil))];simp only[hK.me,hK.F 9 kr,cond_false],fun s ρ hg _=>avx (R:=ab) (z:=(A9.mk 0 [] [] [] [] false [] 0 0)) 4 zeroValue49 (fun _=>⟨_,⟨_,_,rfl,rfl,⟨_,_,rfl,rfl,⟨_,_,rfl,rfl,⟨_,_,rfl,rfl,⟨_,_,rfl,rfl,⟨_,_,rfl,rfl,⟨_,_,rfl,⟨_,rfl,none,0,rfl,⟨Nat.le_refl _,fun _=>rfl⟩,.inl rfl⟩,⟨_,_,rfl,rfl,⟨_,_,rfl,rfl,rfl⟩⟩⟩⟩⟩⟩⟩⟩⟩,rfl⟩) (congrArg some ((anc (hK.F 9 kr) _ _).trans (anc (hK.me) _ _))) (fun b=>by show([D8 b4 aq x1,D8 b5 af x2,D8 b6 ab (A9.mk 0 [] [] [] [] false [] 0 0),D8 b9 af x8,(cond (S 9) (D8 b ab x23) (D8 b ab (A9.mk 0 [] [] [] [] false [] 0 0)))]:Ctx)=_;rw[hK.F 9 kr];rfl) s ρ hg⟩) ?_
  refine gqS (fun S hK=>alz.as (ata (R:=ab) (R':=ab) (a:=(A9.mk 0 [] [] [] [] false [] 0 0)) (y:=x23) 4 sizeOf49 (Upd.refl _) (congrArg some ((anc (hK.me) _ _).trans (azk (hK.T 8 kr) _ _)))) (by show(_:Ctx)=[D8 b4 aq x1,D8 b5 af x2,D8 b6 ab (A9.mk 0 [] [] [] [] false [] 0 0),D8 b9 af x8,D8 (B 8) ab x23];rfl)) ?_
  refine gq1 (fun S hK=>f7) ?_
  exact⟨x24,x23,(B 8),h,atOk⟩
 refine W_rs (kUn (aj e8) ?_)
 refine kUn (ap 3 ty3 a8) ?_
 refine kIn rfl rfl rfl ?_
 refine a5 h rfl (fun _ h=>?_) (fun _ h=>?_)
 ·refine W_rs (kUn (ap 0 ty66 (Sub.refl _)) ?_)
  refine kUn (ap 3 ty64 (Sub.refl _)) ?_
  obtain⟨⟨x11,x12⟩,k,h⟩:=ag h
  refine kUn (c7 (afp x1 x8 _ k)) ?_
  refine kUn (hMv (out:=bj [(ab).val x11,P6 x12]) rfl) (kUn al ?_)
  refine kUn al ?_
  refine bg jb fun b13=>am 4 rfl rfl (Upd.refl _) rfl sizeOf49 (kAs rfl ?_)
  refine ba (fun e C=>∃x15,mu R x3 x1 x11 x2 x8 x15=some r/\At [(2,d9 Tryz.prog (afr x3)),(3,Pr.pt b4 0),(4,Pr.pt b5 0),(6,Pr.pt b6 0),(8,Pr.pt b9 0),(9,Pr.pt b13 0),(39,Pb x15)] [p2,p3,p4,p5,D8 b13 ab x11] e C) ?_ ?_
  ·rintro e C ⟨x15,h,a⟩
   refine W_at a ?_
   unfold mu at h
   refine a5 h rfl (fun _ h=>?_) (fun _ h=>?_)
   ·refine W_rs (kUn (ap 0 ty66 (Sub.refl _)) ?_)
    refine bg al66 fun b17=>am 5 rfl rfl (Upd.refl _) rfl sizeOf66 (W_rs (kUn (aj al9) ?_))
    refine am 5 rfl rfl ye rfl sizeOf4 ?_
    refine ba (fun e C=>∃x21,∃x20,qx R x21 x20=some r/\At [(6,Pr.pt b6 0),(7,P6 x21)] [p2,p3,D8 b6 ab x20,p5,D8 b13 ab x11,D8 b17 aq ({x1 with Static:=true})] e C) ?_ ?_
    ·rintro e C ⟨x21,x20,h,a⟩
     refine W_at a ?_
     unfold qx at h
     obtain rfl:=osj h
     exact a7 ⟨rfl,[(ab).val x20,P6 x21],⟨yBox 2 ty49 aa,yT aa,tv⟩,aa⟩
    refine jg 14 hmx kr kr ?_
    refine lUn (ap 5 ty66 (Sub.refl _)) ?_
    refine lUn (hMv (out:=d9 Tryz.prog (afr x3)) rfl) (lUn (aj an6) ?_)
    refine lUn (ap 0 ty38 o4) ?_
    refine lUn (aj ll) ?_
    refine lUn (ap 4 ty9 dw) ?_
    refine lUn (aj ec) ?_
    refine lUn (ap 1 ty9 bb) ?_
    obtain⟨⟨x18,x19⟩,k,h⟩:=ag h
    refine lUn (anw (spec:=afr x3) ⟨_,_,_,_,rfl,rfl,k⟩) ?_
    refine lUn al ?_
    refine lUn al ?_
    obtain⟨⟨x20,x21⟩,k,h⟩:=ag h
    refine lUn (c7 (vn ({x1 with Static:=true}) x18 x19 _ k)) ?_
    refine lUn al ?_
    refine lUn al ?_
    refine am 2 rfl rfl (Upd.refl _) rfl sizeOf49 (kAs rfl ?_)
    exact⟨x21,x20,h,atOk⟩
   refine au ?_
   exact⟨h,⟨⟨aa,aa,aa,aa,aa,tv⟩,A8.of [0,1,2,3] rfl⟩⟩
  refine W_r (kMv rfl (kIn rfl rfl rfl (kMv rfl ?_)))
  rcases bn h with⟨hc14,h⟩|⟨hc14,h⟩
  ·refine kGd rfl aa hc14 (aj ol) ?_
   refine kGd rfl aa hc14 (ap 4 ty3 db) ?_
   refine kGd rfl aa hc14 (qInt rfl rfl rfl) (kPt rfl hc14 rfl ?_)
   exact⟨x11.Kind==1,h,atOk⟩
  refine skx ?_
  refine kPf rfl hc14 rfl ?_
  exact⟨false,h,atOk⟩
 refine au ?_
 exact⟨h,atOk⟩
theorem y0 :∀n,g0 (co n):=by
 intro n
 induction n with
 |zero=>exact⟨(fun x1 x2 r h=>nomatch (show none=some r from h)),(fun x1 x2 r h=>nomatch (show none=some r from h)),(fun x1 x2 r h=>nomatch (show none=some r from h)),(fun x1 x2 r h=>nomatch (show none=some r from h)),(fun x1 x2 x3 r h=>nomatch (show none=some r from h))⟩
 |succ n ih=>exact⟨(fun x1 x2 r h=>ahb (co n) ih x1 x2 r h),(fun x1 x2 r h=>ah1 (co n) ih x1 x2 r h),(fun x1 x2 r h=>aja (co n) ih x1 x2 r h),(fun x1 x2 r h=>agi (co n) ih x1 x2 r h),(fun x1 x2 x3 r h=>aha (co n) ih x1 x2 x3 r h)⟩
theorem acy (x1:B6) (x2:B5) (r:A9 × Int) (h:vo x1 x2=some r):Fp 32 [(aq).val x1,(af).val x2] (bj [(ab).val r.1,P6 r.2]):=(y0 1048576).1 x1 x2 r h
theorem aln (x1:B6) (x2:B5) (r:Bt) (h:ai3 x1 x2=some r):Fp 33 [(aq).val x1,(af).val x2] (Pr.str r):=(y0 1048576).2.1 x1 x2 r h
theorem afo (x1:B6) (x2:B5) (x4:B8) (b3:Nat) (v5:Value) (r:PX B9 B8) (h:u4 x1 x2 x4=some r):FnX Tryz.prog 74 [Pr.pt b3 0,(aq).val x1,(af).val x2] [D8 b3 av (D2.mk v5 x4.file x4.method x4.many),E1 v5 ak x4.uses 47] (fun q C'=>∃a9,r= .ok a9/\∃w100,q=bj []/\C'=[D8 b3 av (D2.mk w100 a9.file a9.method a9.many),E1 w100 ak a9.uses 47]) (fun v=>∃m,r= .bad m/\v=acj m):=by
 refine amo (rs:=[]) func74 rfl ntmps74 ⟨by decide,results74⟩ dcd (fun s0=>?_)
 unfold u4 at h
 refine W_rs ?_
 refine rBox (R:=aq) (a:=x1) rfl (fun b6=>?_)
 let p1:=D8 b6 aq x1
 refine rBox (R:=af) (a:=x2) rfl (fun b7=>?_)
 let p2:=D8 b7 af x2
 refine ba (fun e C=>∃x15,∃x16,∃x17,∃x18,∃v14,md x2 x1 x15 x16 x17 x18=some r/\At [(0,Pr.pt b3 0),(4,Pr.pt b6 0),(5,Pr.pt b7 0)] [D8 b3 av (D2.mk v14 x15 x16 x17),E1 v14 ak x18 47,p1,p2] e C) ?_ ?_
 ·rintro e C ⟨x15,x16,x17,x18,v14,h,a⟩
  refine W_at a ?_
  unfold md at h
  refine a6 (W_rs (kUn (aj mi) ?_))
  refine kUn (ap 3 ty3 fe) ?_
  refine kIn rfl rfl rfl ?_
  refine a5 h rfl (fun _ h=>?_) (fun _ h=>?_)
  ·obtain rfl:=osj h
   exact a7 (.inl ⟨.inl rfl,_,A8.of [0,1] rfl,_,aa,_,rfl,v14,rfl,rfl⟩)
  refine au (W_rs (kAs rfl ?_))
  refine ba (fun e C=>∃x36,∃x38,∃x39,∃x40,∃x41,∃v37,ij x2 x36 x38 x39 x40 x41=some r/\At [(0,Pr.pt b3 0),(5,Pr.pt b7 0),(6,Pr.str x36)] [D8 b3 av (D2.mk v37 x38 x39 x40),E1 v37 ak x41 47,p1,p2] e C) ?_ ?_
  ·rintro e C ⟨x36,x38,x39,x40,x41,v37,h,a⟩
   refine W_at a ?_
   unfold ij at h
   refine W_r (kMv rfl (kUn (aj mi) ?_))
   refine kUn (ap 3 ty3 fe) ?_
   refine kMv rfl ?_
   obtain⟨x42,k,h⟩:=ag h
   refine gu [0,1] (afn x2.At x36 (B8.mk x41 x38 x39 x40) b3 v37 _ k) (fun q C' hq=>?_)
   obtain⟨v43,rfl,rfl⟩:=hq
   refine rCtx [D8 b3 av (D2.mk v43 x42.file x42.method x42.many),E1 v43 ak x42.uses 47,p1,p2] ?_
   obtain rfl:=osj h
   exact(.inl ⟨.inr rfl,_,A8.of [0,1] rfl,_,aa,_,rfl,v43,rfl,rfl⟩)
  refine W_rs (kUn (aj e8) ?_)
  refine kUn (ap 3 ty3 a8) ?_
  refine az (W_rs (kIn rfl rfl rfl (kAs rfl ?_)))
  refine a5 h rfl (fun _ h=>?_) (fun _ h=>?_)
  ·refine W_r (kUn (aj ec) ?_)
   refine kUn (ap 3 ty9 bb) ?_
   refine cr h (agb x2.Text) rfl fun x21 _ h=>kAs rfl ?_
   exact⟨x21,x15,x16,x17,x18,v14,h,atOk⟩
  refine W_rs (kIn rfl rfl rfl (kAs rfl ?_))
  refine a5 h rfl (fun _ h=>?_) (fun _ h=>?_)
  ·refine W_r (kUn (aj ama) ?_)
   refine kUn (ap 2 ty9 l7) ?_
   refine kUn (aj ec) ?_
   refine kUn (ap 3 ty9 bb) ?_
   refine cr h (af9 x1.Class x2.Text) rfl fun x23 _ h=>kAs rfl ?_
   exact⟨x23,x15,x16,x17,x18,v14,h,atOk⟩
  refine W_rs (kIn rfl rfl rfl (kAs rfl ?_))
  refine a5 h rfl (fun _ h=>?_) (fun _ h=>?_)
  ·refine W_r (kUn (aj ama) ?_)
   refine kUn (ap 2 ty9 l7) ?_
   refine kUn (aj ec) ?_
   refine kUn (ap 3 ty9 bb) ?_
   refine cr h (ael x1.Class x2.Text) rfl fun x25 _ h=>kAs rfl ?_
   exact⟨x25,x15,x16,x17,x18,v14,h,atOk⟩
  refine ba (fun e C=>∃x27,mf x16 x17 x2 x15 x18 x1 x27=some r/\At [(0,Pr.pt b3 0),(4,Pr.pt b6 0),(5,Pr.pt b7 0),(57,Pb x27)] [D8 b3 av (D2.mk v14 x15 x16 x17),E1 v14 ak x18 47,p1,p2] e C) ?_ ?_
  ·rintro e C ⟨x27,h,a⟩
   refine W_at a ?_
   unfold mf at h
   refine a5 h rfl (fun _ h=>?_) (fun _ h=>?_)
   ·refine jg 10 hmx kr kr ?_
    refine lUn (hMvA rfl) (lUn (ah2 rfl) (lUn (aj ars) ?_))
    refine lUn (ap 0 ty9 sd) ?_
    refine lUn (hMvA rfl) (lUn (ah2 rfl) (lUn (aj an5) ?_))
    refine lUn (ap 0 ty3 vd) ?_
    obtain⟨x29,k,h⟩:=ag h
    refine lUn (c7 (af8 x16 x17 _ k)) ?_
    refine lUn (hAsA rfl) ?_
    exact⟨x29,x15,x16,x17,x18,v14,h,atOk⟩
   refine W_rs (kUn (ap 2 ty66 (Sub.refl _)) ?_)
   refine kUn (ap 3 ty64 (Sub.refl _)) ?_
   obtain⟨⟨x30,x31⟩,k,h⟩:=ag h
   refine kUn (c7 (acy x1 x2 _ k)) ?_
   refine kUn (hMv (out:=bj [(ab).val x30,P6 x31]) rfl) (kUn al ?_)
   refine kUn al ?_
   refine bg jb fun b32=>am 4 rfl rfl (Upd.refl _) rfl sizeOf49 (kAs rfl (W_rs (kMv rfl (kMv rfl (kUn (aj mi) ?_)))))
   refine kUn (ap 3 ty3 fe) ?_
   rcases yq h with⟨m35,hm35,h⟩|⟨x33,hx33,h⟩
   ·refine acs [0,1] (kq x31 x2.At (B8.mk x18 x15 x16 x17) b3 v14 _ hm35) ⟨aa,aa,aa,tv⟩ (fun q C' hq=>?_) (fun v9 hv=>?_)
    ·obtain⟨_,h9,_⟩:=hq;cases h9
    obtain⟨_,h9,rfl⟩:=hv
    cases h9
    obtain rfl:=osj h
    exact .inr ⟨_,rfl,_,rfl,rfl⟩
   refine acs [0,1] (kq x31 x2.At (B8.mk x18 x15 x16 x17) b3 v14 _ hx33) ⟨aa,aa,aa,tv⟩ (fun q C' hq=>?_) (fun v9 hv=>by obtain⟨_,h9,_⟩:=hv;cases h9)
   obtain⟨_,h9,v34,rfl,rfl⟩:=hq
   cases h9
   refine rCtx [D8 b3 av (D2.mk v34 x33.file x33.method x33.many),E1 v34 ak x33.uses 47,p1,p2,D8 b32 ab x30] ?_
   refine W_r (kUn (aj ll) ?_)
   refine kUn (ap 4 ty9 dw) ?_
   refine kAs rfl ?_
   exact⟨x30.Id,x33.file,x33.method,x33.many,x33.uses,v34,h,⟨⟨aa,aa,aa,tv⟩,A8.of [0,1,2,3] rfl⟩⟩
  refine W_rs (kIn rfl rfl rfl (kAs rfl ?_))
  refine a5 h rfl (fun _ h=>?_) (fun _ h=>?_)
  ·refine au ?_
   exact⟨x2.Kind==4,h,atOk⟩
  refine W_r (kIn rfl rfl rfl (kAs rfl ?_))
  exact⟨x2.Kind==6,h,atOk⟩
 refine ba (fun e C=>∃x9,pa x2 x4 x1 x9=some r/\At [(0,Pr.pt b3 0),(4,Pr.pt b6 0),(5,Pr.pt b7 0),(15,Pb x9)] [D8 b3 av (D2.mk v5 x4.file x4.method x4.many),E1 v5 ak x4.uses 47,p1,p2] e C) ?_ ?_
 ·rintro e C ⟨x9,h,a⟩
  refine W_at a ?_
  unfold pa at h
  refine a5 h rfl (fun _ h=>?_) (fun _ h=>?_)
  ·refine W_r (kMv rfl (kUn (aj au9) ?_))
   refine kUn (ap 3 ty3 aeh) ?_
   rcases yq h with⟨m13,hm13,h⟩|⟨x11,hx11,h⟩
   ·refine acs [0,1] (kq 171 x2.From x4 b3 v5 _ hm13) ⟨aa,aa,aa,tv⟩ (fun q C' hq=>?_) (fun v9 hv=>?_)
    ·obtain⟨_,h9,_⟩:=hq;cases h9
    obtain⟨_,h9,rfl⟩:=hv
    cases h9
    obtain rfl:=osj h
    exact .inr ⟨_,rfl,_,rfl,rfl⟩
   refine acs [0,1] (kq 171 x2.From x4 b3 v5 _ hx11) ⟨aa,aa,aa,tv⟩ (fun q C' hq=>?_) (fun v9 hv=>by obtain⟨_,h9,_⟩:=hv;cases h9)
   obtain⟨_,h9,v12,rfl,rfl⟩:=hq
   cases h9
   refine rCtx [D8 b3 av (D2.mk v12 x11.file x11.method x11.many),E1 v12 ak x11.uses 47,p1,p2] ?_
   exact⟨x11.file,x11.method,x11.many,x11.uses,v12,h,atOk⟩
  refine au ?_
  exact⟨x4.file,x4.method,x4.many,x4.uses,v5,h,atOk⟩
 refine W_r (kUn (aj e8) ?_)
 refine kUn (ap 3 ty3 a8) ?_
 refine kIn rfl rfl rfl (kMv rfl ?_)
 rcases bn h with⟨hc8,h⟩|⟨hc8,h⟩
 ·refine kGd rfl aa hc8 (aj al9) ?_
  refine kGd rfl aa hc8 (ap 2 ty4 yf) ?_
  refine kPt rfl hc8 rfl ?_
  exact⟨x1.Static,h,atOk⟩
 refine skx ?_
 refine kPf rfl hc8 rfl ?_
 exact⟨false,h,atOk⟩
def w7 (R:cc):Prop:=(∀(x1:B6) (x2:B5) (x4:B8) (b3:Nat) (v5:Value) (r:PX B9 (B6 × B8)),R x1 x2 x4=some r->FnX Tryz.prog 37 [Pr.pt b3 0,(aq).val x1,(af).val x2] [D8 b3 av (D2.mk v5 x4.file x4.method x4.many),E1 v5 ak x4.uses 47] (fun q C'=>∃a9,r= .ok a9/\∃w100,q=(aq).val a9.1/\C'=[D8 b3 av (D2.mk w100 a9.2.file a9.2.method a9.2.many),E1 w100 ak a9.2.uses 47]) (fun v=>∃m,r= .bad m/\v=acj m))
theorem ahv (R:cc) (ih:w7 R) (x1:B6) (x2:B5) (x4:B8) (b3:Nat) (v5:Value) (r:PX B9 (B6 × B8)) (h:ph R x1 x2 x4=some r):FnX Tryz.prog 37 [Pr.pt b3 0,(aq).val x1,(af).val x2] [D8 b3 av (D2.mk v5 x4.file x4.method x4.many),E1 v5 ak x4.uses 47] (fun q C'=>∃a9,r= .ok a9/\∃w100,q=(aq).val a9.1/\C'=[D8 b3 av (D2.mk w100 a9.2.file a9.2.method a9.2.many),E1 w100 ak a9.2.uses 47]) (fun v=>∃m,r= .bad m/\v=acj m):=by
  refine aw0 (rs:=[.cell 6 66]) func37 rfl ntmps37 results37 dcd (fun s0=>?_)
  let p1:=B6.mk [] [] false []
  unfold ph at h
  refine W_rs ?_
  refine rBox (R:=aq) (a:=x1) rfl (fun b6=>?_)
  let p2:=D8 b6 aq x1
  refine rBox (R:=af) (a:=x2) rfl (fun b7=>?_)
  let p3:=D8 b7 af x2
  refine bg al66 fun b8=>W_rs (kMv rfl (kUn (ap 2 ty66 (Sub.refl _)) ?_))
  let p4:=D8 b8 aq p1
  refine kUn (ap 3 ty64 (Sub.refl _)) ?_
  rcases yq h with⟨m73,hm73,h⟩|⟨x9,hx9,h⟩
  · refine acs [0,1] (aer x1 x2 x4 b3 v5 _ hm73) ⟨aa,aa,aa,tv⟩ (fun q C' hq=>?_) (fun v9 hv=>?_)
    · obtain⟨_,h9,_⟩:=hq;cases h9
    obtain⟨_,h9,rfl⟩:=hv
    cases h9
    obtain rfl:=osj h
    exact .inr ⟨_,rfl,_,rfl,rfl⟩
  refine acs [0,1] (aer x1 x2 x4 b3 v5 _ hx9) ⟨aa,aa,aa,tv⟩ (fun q C' hq=>?_) (fun v9 hv=>by obtain⟨_,h9,_⟩:=hv;cases h9)
  obtain⟨_,h9,v10,rfl,rfl⟩:=hq
  cases h9
  refine rCtx [D8 b3 av (D2.mk v10 x9.file x9.method x9.many),E1 v10 ak x9.uses 47,p2,p3,p4] ?_
  refine W_rs (kUn (aj kw) ?_)
  refine kUn (ap 3 ty53 cn) ?_
  refine kAsL rfl ?_
  refine ba (fun e C=>∃x22,∃x24,∃x25,∃x26,∃x27,∃v23,lc R x1 x2 x22 x24 x25 x26 x27=some r/\At [(0,Pr.pt b3 0),(4,Pr.pt b6 0),(5,Pr.pt b7 0),(6,Pr.pt b8 0),(7,ao af x22)] [D8 b3 av (D2.mk v23 x24 x25 x26),E1 v23 ak x27 47,p2,p3,p4] e C) ?_ ?_
  · rintro e C ⟨x22,x24,x25,x26,x27,v23,h,a⟩
    refine W_at a ?_
    unfold lc at h
    refine W_rs (kMv rfl (kUn (ap 2 ty66 (Sub.refl _)) ?_))
    refine kUn (ap 3 ty64 (Sub.refl _)) ?_
    rcases yq h with⟨m72,hm72,h⟩|⟨x28,hx28,h⟩
    · refine acs [0,1] (afo x1 x2 (B8.mk x27 x24 x25 x26) b3 v23 _ hm72) ⟨aa,aa,aa,tv⟩ (fun q C' hq=>?_) (fun v9 hv=>?_)
      · obtain⟨_,h9,_⟩:=hq;cases h9
      obtain⟨_,h9,rfl⟩:=hv
      cases h9
      obtain rfl:=osj h
      exact .inr ⟨_,rfl,_,rfl,rfl⟩
    refine acs [0,1] (afo x1 x2 (B8.mk x27 x24 x25 x26) b3 v23 _ hx28) ⟨aa,aa,aa,tv⟩ (fun q C' hq=>?_) (fun v9 hv=>by obtain⟨_,h9,_⟩:=hv;cases h9)
    obtain⟨_,h9,v29,rfl,rfl⟩:=hq
    let p5:=D2.mk v29 x28.file x28.method x28.many
    let p6:=E1 v29 ak x28.uses 47
    cases h9
    refine rCtx [D8 b3 av p5,p6,p2,p3,p4] ?_
    refine ba (fun e C=>∃x31,g7 R x28 x22 x2 x1 x31=some r/\At [(0,Pr.pt b3 0),(4,Pr.pt b6 0),(5,Pr.pt b7 0),(6,Pr.pt b8 0),(7,ao af x22),(8,Pb x31)] [D8 b3 av p5,p6,p2,p3,p4] e C) ?_ ?_
    · rintro e C ⟨x31,h,a⟩
      refine W_at a ?_
      unfold g7 at h
      refine ba (fun e C=>∃x32,∃b33,r9 R x31 x22 x2 x1 x28 x32=some r/\At [(0,Pr.pt b3 0),(4,Pr.pt b6 0),(5,Pr.pt b7 0),(6,Pr.pt b8 0),(7,ao af x22),(8,Pb x31),(9,Pr.pt b33 0)] [D8 b3 av p5,p6,p2,p3,p4,D8 b33 ab (A9.mk 4 x32 x2.Text x28.method x2.Type_ false [] x28.file x2.At)] e C) ?_ ?_
      · rintro e C ⟨x32,b33,h,a⟩
        let p7:=D8 b33 ab (A9.mk 4 x32 x2.Text x28.method x2.Type_ false [] x28.file x2.At)
        let p8:=A9.mk 4 x32 x2.Text x28.method x2.Type_ false [] x28.file x2.At
        refine W_at a ?_
        unfold r9 at h
        refine W_rs (kUn (ap 2 ty66 (Sub.refl _)) ?_)
        refine bg al66 fun b34=>am 6 rfl rfl (Upd.refl _) rfl sizeOf66 ?_
        refine ba (fun e C=>∃x37,∃x38,jx R x22 x2 x1 x28 x31 x32 x37 x38=some r/\At [(0,Pr.pt b3 0),(4,Pr.pt b6 0),(5,Pr.pt b7 0),(6,Pr.pt b8 0),(7,ao af x22),(8,Pb x31),(9,Pr.pt b33 0),(10,Pr.pt b34 0)] [D8 b3 av (D2.mk v29 x28.file x28.method x37),p6,p2,p3,p4,p7,D8 b34 aq x38] e C) ?_ ?_
        · rintro e C ⟨x37,x38,h,a⟩
          refine W_at a ?_
          unfold jx at h
          refine a6 (W_rs (kMvL rfl (kUn (jf rfl underlying53) ?_)))
          refine kMv rfl (az ?_)
          obtain⟨z3l,hz3,h⟩:=ag h
          obtain⟨n3,hN3⟩:=bm hz3
          refine cp 1 (fun e C=>∃x41,∃x42,∃x43,∃x45,∃x44,∃v40,r8 R x31 x1 x32 x2 x28 x41 x42 x43 x45 x44=some r/\At [(0,Pr.pt b3 0),(4,Pr.pt b6 0),(6,Pr.pt b8 0),(8,Pb x31),(9,Pr.pt b33 0)] [D8 b3 av (D2.mk v40 x41 x42 x43),E1 v40 ak x45 47,p2,p3,p4,p7,D8 b34 aq x44] e C) ?_ ?_
          · rintro e C ⟨x41,x42,x43,x45,x44,v40,h,a⟩
            let p9:=D8 b3 av (D2.mk v40 x41 x42 x43)
            refine W_at a ?_
            unfold r8 at h
            refine ba (fun e C=>∃x71,ob R x45 x41 x42 x43 x71=some r/\At [(0,Pr.pt b3 0),(4,Pr.pt b6 0),(6,Pr.pt b8 0)] [p9,E1 v40 ak x45 47,D8 b6 aq x71,p3,p4,p7,D8 b34 aq x44] e C) ?_ ?_
            · rintro e C ⟨x71,h,a⟩
              refine W_at a ?_
              unfold ob at h
              refine W_rs (kUn (ap 2 ty66 (Sub.refl _)) ?_)
              refine am 4 rfl rfl (Upd.refl _) rfl sizeOf66 ?_
              obtain rfl:=osj h
              exact a7 (.inl ⟨.inl rfl,[(aq).val x71],⟨yBox 4 ty66 aa,tv⟩,_,A8.of [0,1] rfl,_,rfl,v40,rfl,rfl⟩)
            refine W_rs (kMv rfl ?_)
            refine a5 h rfl (fun _ h=>?_) (fun _ h=>?_)
            · obtain⟨x67,hx67,h⟩:=ag h
              obtain⟨x69,k,h⟩:=ag h
              refine aah [0,1,3,0,8,31,63,127] [[],[p2],[],[p7],[],[],[],[]] hmx kr kr kr rfl ?_
              refine aq0 0 1 (out:=Pr.pt b6 3) rfl (fun C9=>(aj au8)) ?_
              refine aq1 1 3 2 (out:=ao ab x1.Seen) rfl rfl (fun C9 i9 h9=>(ap (R:=aq) (a:=x1) (R':=Rp.list ab) i9 ty38 ag6 (hi:=h9))) ?_
              refine aq1 3 11 5 (out:=(ab).val p8) rfl rfl (fun C9 i9 h9=>(ap (R:=ab) (a:=p8) (R':=ab) i9 ty49 (Sub.refl _) (hi:=h9))) ?_
              refine aq0 4 27 (out:=ao ab ([p8]:List A9)) rfl (fun C9=>(cm (R:=ab) (a:=p8) el38 nb)) ?_
              refine ae 2 31 rfl (fun g9=>?_)
              refine gu [] (ao7 x1.Seen _ hx67) (fun q C' hq=>?_)
              obtain⟨v68,rfl,rfl⟩:=hq
              refine rCtx [E1 v68 ab x67 49,p9,E1 v40 ak x45 47,p2,p3,p4,p7,D8 b34 aq x44] ?_
              refine f6 _ [p7] (dh 6 cd) ?_
              refine ae 5 63 rfl (fun g9=>?_)
              refine fp 0 el38 k (fun v70=>?_)
              refine f6 _ [] cd ?_
              refine aq0 6 127 (out:=Pr.pt b6 3) rfl (fun C9=>(aj au8)) ?_
              refine ae 7 255 rfl (fun g9=>?_)
              refine ays (Rb:=aq) (R:=ab) (a:=x1) 0 2 sizeOf38 amw ?_
              refine f6 .any [] cd ?_
              refine yj ?_
              exact⟨{x1 with Seen:=x69},h,atOk⟩
            refine au ?_
            exact⟨x1,h,atOk⟩
          refine dq (fun m e C=>∃x39,∃x41,∃x42,∃x43,∃x44,∃x45,∃v40,ez (fun s=>i0 R x22 x2 x1 s.1 s.2.1 s.2.2.1 s.2.2.2.1 s.2.2.2.2.1 s.2.2.2.2.2) m (x39,x41,x42,x43,x44,x45)=some z3l/\At [(0,Pr.pt b3 0),(4,Pr.pt b6 0),(5,Pr.pt b7 0),(6,Pr.pt b8 0),(8,Pb x31),(9,Pr.pt b33 0),(10,Pr.pt b34 0),(94,ao af x22),(95,P6 (x22.length:Int)),(96,P6 x39)] [D8 b3 av (D2.mk v40 x41 x42 x43),E1 v40 ak x45 47,p2,p3,p4,p7,D8 b34 aq x44] e C) n3 ⟨0,x28.file,x28.method,x37,x38,x28.uses,v29,hN3,⟨⟨aa,aa,aa,aa,aa,aa,aa,aa,aa,aa,tv⟩,A8.refl _⟩⟩ ?_
          rintro m e C ⟨x39,x41,x42,x43,x44,x45,v40,hN3,a⟩
          let p10:=D8 b34 aq x44
          let p11:=E1 v40 ak x45 47
          refine W_at a ?_
          obtain⟨m3,w3l,rfl,h3l,hn3,ho3⟩:=bc hN3
          replace h3l:i0 R x22 x2 x1 x39 x41 x42 x43 x44 x45=some w3l:=h3l
          unfold i0 at h3l
          refine W_rs (kIn rfl rfl rfl (a6 ?_))
          refine a5 h3l rfl (fun _ h3l=>?_) (fun _ h3l=>?_)
          · refine au (a6 (az (W_rs ?_)))
            obtain⟨x54,k,h3l⟩:=ag h3l
            refine kUn (du underlying53 sizeOf64 k) ?_
            refine kUn (bz ty64) ?_
            refine bg al64 fun b55=>am 7 rfl rfl (Upd.refl _) rfl sizeOf64 ?_
            let p12:=D8 b55 af x54
            refine ba (fun e C=>∃x60,∃x61,oa R x44 x54 x45 x41 x39 x60 x61=some w3l/\At [(0,Pr.pt b3 0),(4,Pr.pt b6 0),(5,Pr.pt b7 0),(6,Pr.pt b8 0),(8,Pb x31),(9,Pr.pt b33 0),(10,Pr.pt b34 0),(12,Pr.pt b55 0),(94,ao af x22),(95,P6 (x22.length:Int)),(96,P6 x39)] [D8 b3 av (D2.mk v40 x41 x60 x61),p11,p2,p3,p4,p7,p10,p12] e C) ?_ ?_
            · rintro e C ⟨x60,x61,h3l,a⟩
              refine W_at a ?_
              unfold oa at h3l
              refine W_r (kMv rfl (kUn (ap 6 ty66 (Sub.refl _)) ?_))
              refine kUn (ap 7 ty64 (Sub.refl _)) ?_
              rcases yq h3l with⟨m65,hm65,h3l⟩|⟨⟨x62,x63⟩,hx62,h3l⟩
              · refine acs [0,1] (ih x44 x54 (B8.mk x45 x41 x60 x61) b3 v40 _ hm65) ⟨aa,aa,aa,tv⟩ (fun q C' hq=>?_) (fun v9 hv=>?_)
                · obtain⟨_,h9,_⟩:=hq;cases h9
                obtain⟨_,h9,rfl⟩:=hv
                cases h9
                obtain rfl:=ho3 _ (ojs h3l)
                replace h:some (.bad m65)=some r:=h
                obtain rfl:=osj h
                exact .inr ⟨_,rfl,_,rfl,rfl⟩
              refine acs [0,1] (ih x44 x54 (B8.mk x45 x41 x60 x61) b3 v40 _ hx62) ⟨aa,aa,aa,tv⟩ (fun q C' hq=>?_) (fun v9 hv=>by obtain⟨_,h9,_⟩:=hv;cases h9)
              obtain⟨_,h9,v64,rfl,rfl⟩:=hq
              cases h9
              refine rCtx [D8 b3 av (D2.mk v64 x63.file x63.method x63.many),E1 v64 ak x63.uses 47,p2,p3,p4,p7,p10,p12] ?_
              refine am 6 rfl rfl (Upd.refl _) rfl sizeOf66 (W_r (kIn rfl rfl rfl (kMv rfl ?_)))
              exact⟨m3,lsu,w64 (x39+1),x63.file,x63.method,x63.many,x62,x63.uses,v64,hn3 _ (ojs h3l),⟨⟨aa,aa,aa,aa,aa,aa,aa,aa,aa,aa,tv⟩,A8.of [0,1,2,3,4,5,6] rfl⟩⟩
            refine ba (fun e C=>∃x57,jy R x1 x54 x44 x45 x41 x39 x42 x43 x57=some w3l/\At [(0,Pr.pt b3 0),(4,Pr.pt b6 0),(5,Pr.pt b7 0),(6,Pr.pt b8 0),(8,Pb x31),(9,Pr.pt b33 0),(10,Pr.pt b34 0),(12,Pr.pt b55 0),(94,ao af x22),(95,P6 (x22.length:Int)),(96,P6 x39),(107,Pb x57)] [D8 b3 av (D2.mk v40 x41 x42 x43),p11,p2,p3,p4,p7,p10,p12] e C) ?_ ?_
            · rintro e C ⟨x57,h3l,a⟩
              refine W_at a ?_
              unfold jy at h3l
              refine a5 h3l rfl (fun _ h3l=>?_) (fun _ h3l=>?_)
              · refine W_r (kMv rfl (kMv rfl (kUn (aj ama) ?_)))
                refine kUn (ap 2 ty9 l7) ?_
                refine kUn (aj ec) ?_
                refine kUn (ap 7 ty9 bb) ?_
                refine cr h3l (ael x1.Class x54.Text) rfl fun x59 _ h3l=>kNp rfl (kUn (aj ars) ?_)
                refine am 0 rfl rfl ahp rfl sizeOf9 ?_
                refine rCtx [D8 b3 av (D2.mk v40 x41 x59 x43),p11,p2,p3,p4,p7,p10,p12] ?_
                refine kNp rfl (kUn (aj an5) ?_)
                refine am 0 rfl rfl acf rfl sizeOf3 ?_
                refine rCtx [D8 b3 av (D2.mk v40 x41 x59 0),p11,p2,p3,p4,p7,p10,p12] ?_
                exact⟨x59,0,h3l,atOk⟩
              refine au ?_
              exact⟨x42,x43,h3l,atOk⟩
            refine W_r (kUn (aj e8) ?_)
            refine kUn (ap 3 ty3 a8) ?_
            refine kIn rfl rfl rfl (kMv rfl ?_)
            rcases bn h3l with⟨hc56,h3l⟩|⟨hc56,h3l⟩
            · refine kGd rfl aa hc56 (aj e8) ?_
              refine kGd rfl aa hc56 (ap 7 ty3 a8) ?_
              refine kGd rfl aa hc56 (qInt rfl rfl rfl) (kPt rfl hc56 rfl ?_)
              exact⟨x54.Kind==3,h3l,atOk⟩
            refine skx ?_
            refine kPf rfl hc56 rfl ?_
            exact⟨false,h3l,atOk⟩
          refine dp ?_
          obtain rfl:=ho3 _ (ojs h3l)
          exact⟨x41,x42,x43,x45,x44,v40,h,atOk⟩
        refine az (W_rs (kMv rfl (kAs rfl ?_)))
        refine a5 h rfl (fun _ h=>?_) (fun _ h=>?_)
        · refine W_r (kMv rfl (kNp rfl (kUn (aj an5) ?_)))
          refine kUn (ap 0 ty3 vd) ?_
          refine kIn rfl rfl rfl (kNp rfl (kUn (aj an5) ?_))
          refine am 0 rfl rfl acf rfl sizeOf3 ?_
          refine rCtx [D8 b3 av (D2.mk v29 x28.file x28.method (w64 (x28.many+1))),p6,p2,p3,p4,p7,D8 b34 aq x1] ?_
          exact⟨w64 (x28.many+1),x1,h,atOk⟩
        refine W_rs (kUn (aj e8) ?_)
        refine kUn (ap 3 ty3 a8) ?_
        refine kIn rfl rfl rfl (kAs rfl ?_)
        refine a5 h rfl (fun _ h=>?_) (fun _ h=>?_)
        · refine W_r (kUn (aj aia) ?_)
          refine kUn (ap 3 ty2 abx) ?_
          refine kIn rfl rfl rfl (kUn (aj al9) ?_)
          refine am 6 rfl rfl ye rfl sizeOf4 ?_
          exact⟨x28.many,{x1 with Static:=x2.N==1},h,atOk⟩
        refine au ?_
        exact⟨x28.many,x1,h,atOk⟩
      obtain⟨x32,hx32,h⟩:=ag h
      refine ary 1 (fun B S=>[D8 b3 av (D2.mk v29 x28.file x28.method x28.many),E1 v29 ak x28.uses 47,D8 b6 aq x1,D8 b7 af x2,D8 b8 aq (B6.mk [] [] false []),(cond (S 25) (D8 (B 24) ab (A9.mk 4 x32 x2.Text x28.method x2.Type_ false [] x28.file x2.At)) (cond (S 24) (D8 (B 24) ab (A9.mk 0 [] [] [] [] false [] 0 0)) A4.nil))]) (fun B=>[D8 b3 av (D2.mk v29 x28.file x28.method x28.many),E1 v29 ak x28.uses 47,D8 b6 aq x1,D8 b7 af x2,D8 b8 aq (B6.mk [] [] false []),D8 (B 24) ab (A9.mk 4 x32 x2.Text x28.method x2.Type_ false [] x28.file x2.At)]) [Pr.pt b3 0,Pr.pt b3 0,Pr.pt b3 2,Pr.str x28.method,Pr.pt b3 0,Pr.pt b3 0,Pr.pt b3 3,P6 x28.many,Pr.str x32,Pr.pt b7 1,Pr.str x2.Text,Pr.pt b3 0,Pr.pt b3 0,Pr.pt b3 2,Pr.str x28.method,Pr.pt b7 2,Pr.str x2.Type_,Pr.pt b3 0,Pr.pt b3 0,Pr.pt b3 1,P6 x28.file,Pr.pt b7 6,P6 x2.At,(ab).val (A9.mk 4 x32 x2.Text x28.method x2.Type_ false [] x28.file x2.At),.any,.any] (fun k=>([0,0,0,0,0,0,0,0,0,0,0,0,0,0,0,0,0,0,0,0,0,0,0,0,2,1]:List Nat).getD k 0) hmx kr kr (fun _=>rfl) (fun B S S' h=>by show([D8 b3 av (D2.mk v29 x28.file x28.method x28.many),E1 v29 ak x28.uses 47,D8 b6 aq x1,D8 b7 af x2,D8 b8 aq (B6.mk [] [] false []),(cond (S 25) (D8 (B 24) ab (A9.mk 4 x32 x2.Text x28.method x2.Type_ false [] x28.file x2.At)) (cond (S 24) (D8 (B 24) ab (A9.mk 0 [] [] [] [] false [] 0 0)) A4.nil))]:Ctx)=[D8 b3 av (D2.mk v29 x28.file x28.method x28.many),E1 v29 ak x28.uses 47,D8 b6 aq x1,D8 b7 af x2,D8 b8 aq (B6.mk [] [] false []),(cond (S' 25) (D8 (B 24) ab (A9.mk 4 x32 x2.Text x28.method x2.Type_ false [] x28.file x2.At)) (cond (S' 24) (D8 (B 24) ab (A9.mk 0 [] [] [] [] false [] 0 0)) A4.nil))];simp only[h 24 (Nat.le_of_ble_eq_true kr),h 25 (Nat.le_of_ble_eq_true kr)]) (fun _=>rfl) (fun B=>?_)
      refine gq1 (fun S hK=>fr) ?_
      refine gq1 (fun S hK=>ah2) ?_
      refine gq1 (fun S hK=>(aj ars)) ?_
      refine gq1 (fun S hK=>(ap (R:=av) (a:=p5) (R':=Rp.str) 0 ty9 sd (hi:=rfl))) ?_
      refine gq1 (fun S hK=>fr) ?_
      refine gq1 (fun S hK=>ah2) ?_
      refine gq1 (fun S hK=>(aj an5)) ?_
      refine gq1 (fun S hK=>(ap (R:=av) (a:=p5) (R':=Rp.int .i64) 0 ty3 vd (hi:=rfl))) ?_
      refine gq1 (fun S hK=>(c7 (af8 x28.method x28.many _ hx32))) ?_
      refine gq1 (fun S hK=>(aj ec)) ?_
      refine gq1 (fun S hK=>(ap (R:=af) (a:=x2) (R':=Rp.str) 3 ty9 bb (hi:=rfl))) ?_
      refine gq1 (fun S hK=>fr) ?_
      refine gq1 (fun S hK=>ah2) ?_
      refine gq1 (fun S hK=>(aj ars)) ?_
      refine gq1 (fun S hK=>(ap (R:=av) (a:=p5) (R':=Rp.str) 0 ty9 sd (hi:=rfl))) ?_
      refine gq1 (fun S hK=>(aj ti)) ?_
      refine gq1 (fun S hK=>(ap (R:=af) (a:=x2) (R':=Rp.str) 3 ty9 fj (hi:=rfl))) ?_
      refine gq1 (fun S hK=>fr) ?_
      refine gq1 (fun S hK=>ah2) ?_
      refine gq1 (fun S hK=>(aj art)) ?_
      refine gq1 (fun S hK=>(ap (R:=av) (a:=p5) (R':=Rp.int .i64) 0 ty3 ve (hi:=rfl))) ?_
      refine gq1 (fun S hK=>(aj mi)) ?_
      refine gq1 (fun S hK=>(ap (R:=af) (a:=x2) (R':=Rp.int .i64) 3 ty3 fe (hi:=rfl))) ?_
      refine gq1 (fun S hK=>(fk st49 ⟨(A9.mk 4 [] [] [] [] false [] 0 0),⟨_,rfl,rfl,qbj⟩,⟨(A9.mk 4 x32 [] [] [] false [] 0 0),⟨_,rfl,rfl,qbj⟩,⟨(A9.mk 4 x32 x2.Text [] [] false [] 0 0),⟨_,rfl,rfl,qbj⟩,⟨(A9.mk 4 x32 x2.Text x28.method [] false [] 0 0),⟨_,rfl,rfl,qbj⟩,⟨(A9.mk 4 x32 x2.Text x28.method x2.Type_ false [] 0 0),⟨_,rfl,rfl,qbj⟩,⟨(A9.mk 4 x32 x2.Text x28.method x2.Type_ false [] x28.file 0),⟨_,rfl,rfl,qbj⟩,⟨(A9.mk 4 x32 x2.Text x28.method x2.Type_ false [] x28.file x2.At),⟨_,rfl,rfl,qbj⟩,rfl⟩⟩⟩⟩⟩⟩⟩)) ?_
      refine gqA (fun S hK=>⟨fun B' hB=>by show([D8 b3 av (D2.mk v29 x28.file x28.method x28.many),E1 v29 ak x28.uses 47,D8 b6 aq x1,D8 b7 af x2,D8 b8 aq (B6.mk [] [] false []),(cond (S 25) (D8 (B' 24) ab (A9.mk 4 x32 x2.Text x28.method x2.Type_ false [] x28.file x2.At)) (cond (S 24) (D8 (B' 24) ab (A9.mk 0 [] [] [] [] false [] 0 0)) A4.nil))]:Ctx)=[D8 b3 av (D2.mk v29 x28.file x28.method x28.many),E1 v29 ak x28.uses 47,D8 b6 aq x1,D8 b7 af x2,D8 b8 aq (B6.mk [] [] false []),(cond (S 25) (D8 (B 24) ab (A9.mk 4 x32 x2.Text x28.method x2.Type_ false [] x28.file x2.At)) (cond (S 24) (D8 (B 24) ab (A9.mk 0 [] [] [] [] false [] 0 0)) A4.nil))];simp only[hK.me,hK.F 25 kr,cond_false],fun s ρ hg _=>avx (R:=ab) (z:=(A9.mk 0 [] [] [] [] false [] 0 0)) 5 zeroValue49 (fun _=>⟨_,⟨_,_,rfl,rfl,⟨_,_,rfl,rfl,⟨_,_,rfl,rfl,⟨_,_,rfl,rfl,⟨_,_,rfl,rfl,⟨_,_,rfl,rfl,⟨_,_,rfl,⟨_,rfl,none,0,rfl,⟨Nat.le_refl _,fun _=>rfl⟩,.inl rfl⟩,⟨_,_,rfl,rfl,⟨_,_,rfl,rfl,rfl⟩⟩⟩⟩⟩⟩⟩⟩⟩,rfl⟩) (congrArg some ((anc (hK.F 25 kr) _ _).trans (anc (hK.me) _ _))) (fun b=>by show([D8 b3 av (D2.mk v29 x28.file x28.method x28.many),E1 v29 ak x28.uses 47,D8 b6 aq x1,D8 b7 af x2,D8 b8 aq (B6.mk [] [] false []),(cond (S 25) (D8 b ab (A9.mk 4 x32 x2.Text x28.method x2.Type_ false [] x28.file x2.At)) (D8 b ab (A9.mk 0 [] [] [] [] false [] 0 0)))]:Ctx)=_;rw[hK.F 25 kr];rfl) s ρ hg⟩) ?_
      refine gqS (fun S hK=>alz.as (ata (R:=ab) (R':=ab) (a:=(A9.mk 0 [] [] [] [] false [] 0 0)) (y:=(A9.mk 4 x32 x2.Text x28.method x2.Type_ false [] x28.file x2.At)) 5 sizeOf49 (Upd.refl _) (congrArg some ((anc (hK.me) _ _).trans (azk (hK.T 24 kr) _ _)))) (by show(_:Ctx)=[D8 b3 av (D2.mk v29 x28.file x28.method x28.many),E1 v29 ak x28.uses 47,D8 b6 aq x1,D8 b7 af x2,D8 b8 aq (B6.mk [] [] false []),D8 (B 24) ab (A9.mk 4 x32 x2.Text x28.method x2.Type_ false [] x28.file x2.At)];rfl)) ?_
      exact⟨x32,(B 24),h,atOk⟩
    refine W_r (kUn (aj e8) ?_)
    refine kUn (ap 3 ty3 a8) ?_
    refine kIn rfl rfl rfl (kMv rfl ?_)
    rcases bn h with⟨hc30,h⟩|⟨hc30,h⟩
    · refine skx ?_
      refine kPt rfl hc30 rfl (kAs rfl ?_)
      exact⟨true,h,atOk⟩
    refine kGd rfl aa hc30 (aj e8) ?_
    refine kGd rfl aa hc30 (ap 3 ty3 a8) ?_
    refine kGd rfl aa hc30 (qInt rfl rfl rfl) (kPf rfl hc30 rfl (kAs rfl ?_))
    exact⟨x2.Kind==6,h,atOk⟩
  refine ba (fun e C=>∃x14,ft R x2 x1 x9 x14=some r/\At [(0,Pr.pt b3 0),(4,Pr.pt b6 0),(5,Pr.pt b7 0),(6,Pr.pt b8 0),(7,ao af x2.Kids),(31,Pb x14)] [D8 b3 av (D2.mk v10 x9.file x9.method x9.many),E1 v10 ak x9.uses 47,p2,p3,p4] e C) ?_ ?_
  · rintro e C ⟨x14,h,a⟩
    refine W_at a ?_
    unfold ft at h
    refine a5 h rfl (fun _ h=>?_) (fun _ h=>?_)
    · refine ba (fun e C=>∃x18,∃v19,mt R x2 x1 x18=some r/\At [(0,Pr.pt b3 0),(4,Pr.pt b6 0),(5,Pr.pt b7 0),(6,Pr.pt b8 0),(7,ao af x2.Kids)] [D8 b3 av (D2.mk v19 x18.file x18.method x18.many),E1 v19 ak x18.uses 47,p2,p3,p4] e C) ?_ ?_
      · rintro e C ⟨x18,v19,h,a⟩
        refine W_at a ?_
        unfold mt at h
        refine W_r (kMvL rfl ?_)
        obtain⟨x21,k,h⟩:=ag h
        refine kUn (a0x underlying53 sizeOf64 k) ?_
        refine kAsL rfl ?_
        exact⟨x21,x18.file,x18.method,x18.many,x18.uses,v19,h,atOk⟩
      refine jg 5 hmx kr kr ?_
      refine lUn (hMvA rfl) (lUn (ap 2 ty66 (Sub.refl _)) ?_)
      refine lUn (hMvL rfl) ?_
      obtain⟨x16,k,h⟩:=ag h
      refine lUn (du underlying53 sizeOf64 k) ?_
      refine lUn (bz ty64) ?_
      rcases yq h with⟨m20,hm20,h⟩|⟨⟨x17,x18⟩,hx17,h⟩
      · refine acs [0,1] (ih x1 x16 x9 b3 v10 _ hm20) ⟨aa,aa,aa,tv⟩ (fun q C' hq=>?_) (fun v9 hv=>?_)
        · obtain⟨_,h9,_⟩:=hq;cases h9
        obtain⟨_,h9,rfl⟩:=hv
        cases h9
        obtain rfl:=osj h
        exact .inr ⟨_,rfl,_,rfl,rfl⟩
      refine acs [0,1] (ih x1 x16 x9 b3 v10 _ hx17) ⟨aa,aa,aa,tv⟩ (fun q C' hq=>?_) (fun v9 hv=>by obtain⟨_,h9,_⟩:=hv;cases h9)
      obtain⟨_,h9,v19,rfl,rfl⟩:=hq
      cases h9
      refine rCtx [D8 b3 av (D2.mk v19 x18.file x18.method x18.many),E1 v19 ak x18.uses 47,p2,p3,p4] ?_
      exact⟨x18,v19,h,atOk⟩
    refine au ?_
    exact⟨x2.Kids,x9.file,x9.method,x9.many,x9.uses,v10,h,atOk⟩
  refine W_r (kUn (aj e8) ?_)
  refine kUn (ap 3 ty3 a8) ?_
  refine kIn rfl rfl rfl (kMv rfl ?_)
  rcases bn h with⟨hc11,h⟩|⟨hc11,h⟩
  · refine skx ?_
    refine kPt rfl hc11 rfl (kMv rfl ?_)
    have hc13:true=true:=rfl
    refine kGd rfl aa hc13 (hMvL rfl) (kGd rfl aa hc13 (jf rfl underlying53) ?_)
    refine kGd rfl aa hc13 (qInt rfl rfl rfl) (kPt rfl hc13 rfl ?_)
    exact⟨decide ((x2.Kids.length:Int)>0),h,atOk⟩
  refine kGd rfl aa hc11 (aj e8) ?_
  refine kGd rfl aa hc11 (ap 3 ty3 a8) ?_
  refine kGd rfl aa hc11 (qInt rfl rfl rfl) (kPf rfl hc11 rfl (kMv rfl ?_))
  rcases bn h with⟨hc12,h⟩|⟨hc12,h⟩
  · refine kGd rfl aa hc12 (hMvL rfl) (kGd rfl aa hc12 (jf rfl underlying53) ?_)
    refine kGd rfl aa hc12 (qInt rfl rfl rfl) (kPt rfl hc12 rfl ?_)
    exact⟨decide ((x2.Kids.length:Int)>0),h,atOk⟩
  refine skx ?_
  refine kPf rfl hc12 rfl ?_
  exact⟨false,h,atOk⟩
theorem ahr :∀n,w7 (bq n):=by
 intro n
 induction n with
 |zero=>exact(fun x1 x2 x4 b3 v5 r h=>nomatch (show none=some r from h))
 |succ n ih=>exact(fun x1 x2 x4 b3 v5 r h=>ahv (bq n) ih x1 x2 x4 b3 v5 r h)
theorem aeq (x1:B6) (x2:B5) (x4:B8) (b3:Nat) (v5:Value) (r:PX B9 (B6 × B8)) (h:aco x1 x2 x4=some r):FnX Tryz.prog 37 [Pr.pt b3 0,(aq).val x1,(af).val x2] [D8 b3 av (D2.mk v5 x4.file x4.method x4.many),E1 v5 ak x4.uses 47] (fun q C'=>∃a9,r= .ok a9/\∃w100,q=(aq).val a9.1/\C'=[D8 b3 av (D2.mk w100 a9.2.file a9.2.method a9.2.many),E1 w100 ak a9.2.uses 47]) (fun v=>∃m,r= .bad m/\v=acj m):=(ahr 1048576) x1 x2 x4 b3 v5 r h
theorem mg (x1 x2:Int) (x3:(B7->B7->Option Int)) (x5:List B7) (v4:Value) (r:(List B7)) (h:eh x1 x2 x3 x5=some r):Fc 129 [Pi v4,P6 x1,P6 x2,d9 Tryz.prog (g8 x3)] [E1 v4 ak x5 47] (fun q C'=>q=bj []/\C'=[E1 v4 ak r 47]):=by
 refine gz (rs:=[]) func129 rfl ntmps129 ⟨by decide,results129⟩ dcd (fun s0=>?_)
 unfold eh at h
 refine W_rs (kMv rfl (kIn rfl rfl rfl (kAs rfl (az ?_))))
 obtain⟨z2l,hz2,h⟩:=ag h
 obtain⟨n2,hN2⟩:=bm hz2
 refine cp 0 (fun e C=>∃x7,gi x7=some r/\At [(0,Pi v4)] [E1 v4 ak x7 47] e C) ?_ ?_
 ·rintro e C ⟨x7,h,a⟩
  unfold gi at h
  obtain rfl:=osj h
  exact⟨.inr rfl,_,(A8.trans a.2 (A8.refl _)),_,aa,rfl,rfl⟩
 refine dq (fun m e C=>∃x6,∃x7,ez (fun s=>cg x2 x1 x3 s.1 s.2) m (x6,x7)=some z2l/\At [(0,Pi v4),(1,P6 x1),(2,P6 x2),(3,d9 Tryz.prog (g8 x3)),(8,P6 x6)] [E1 v4 ak x7 47] e C) n2 ⟨w64 (x1+1),x5,hN2,⟨⟨aa,aa,aa,aa,aa,tv⟩,A8.refl _⟩⟩ ?_
 rintro m e C ⟨x6,x7,hN2,a⟩
 refine W_at a ?_
 obtain⟨m2,w2l,rfl,h2l,hn2,ho2⟩:=bc hN2
 replace h2l:cg x2 x1 x3 x6 x7=some w2l:=h2l
 unfold cg at h2l
 refine a6 (W_rs (kMv rfl (kMv rfl (kIn rfl rfl rfl ?_))))
 refine a5 h2l rfl (fun _ h2l=>?_) (fun _ h2l=>?_)
 ·refine au (a6 (az (W_rs (kMv rfl (kAs rfl (az ?_))))))
  obtain⟨z4l,hz4,h2l⟩:=ag h2l
  obtain⟨n4,hN4⟩:=bm hz4
  refine cp 2 (fun e C=>∃x12,gh x6 x12=some w2l/\At [(0,Pi v4),(1,P6 x1),(2,P6 x2),(3,d9 Tryz.prog (g8 x3)),(8,P6 x6)] [E1 v4 ak x12 47] e C) ?_ ?_
  ·rintro e C ⟨x12,h2l,a⟩
   refine W_at a ?_
   unfold gh at h2l
   refine W_r (kMv rfl (kIn rfl rfl rfl (kAs rfl ?_)))
   exact⟨m2,lsu,w64 (x6+1),x12,hn2 _ (ojs h2l),atOk⟩
  refine dq (fun m e C=>∃x11,∃x12,ez (fun s=>cq x1 x3 s.1 s.2) m (x11,x12)=some z4l/\At [(0,Pi v4),(1,P6 x1),(2,P6 x2),(3,d9 Tryz.prog (g8 x3)),(8,P6 x6),(9,P6 x11)] [E1 v4 ak x12 47] e C) n4 ⟨x6,x7,hN4,⟨⟨aa,aa,aa,aa,aa,aa,tv⟩,A8.refl _⟩⟩ ?_
  rintro m e C ⟨x11,x12,hN4,a⟩
  let p1:=E1 v4 ak x12 47
  refine W_at a ?_
  obtain⟨m4,w4l,rfl,h4l,hn4,ho4⟩:=bc hN4
  replace h4l:cq x1 x3 x11 x12=some w4l:=h4l
  unfold cq at h4l
  refine a6 ?_
  refine ba (fun e C=>∃x19,dt x12 x11 x19=some w4l/\At [(0,Pi v4),(1,P6 x1),(2,P6 x2),(3,d9 Tryz.prog (g8 x3)),(8,P6 x6),(9,P6 x11),(34,Pb x19)] [p1] e C) ?_ ?_
  ·rintro e C ⟨x19,h4l,a⟩
   refine W_at a ?_
   unfold dt at h4l
   refine a5 h4l rfl (fun _ h4l=>?_) (fun _ h4l=>?_)
   ·refine au (a6 (az ?_))
    obtain⟨x21,hx21,h4l⟩:=ag h4l
    obtain⟨x22,hx22,h4l⟩:=ag h4l
    obtain⟨x23,hx23,h4l⟩:=ag h4l
    obtain⟨x24,k,h4l⟩:=ag h4l
    refine aah [0,0,0,0,8,0,0,64,224,480,0,0,3072,7168,16355,32739,65535,131071] [[],[],[],[],[],[],[],[],[p1],[p1],[],[],[p1],[p1],[p1],[],[E1 v4 ak (List.set x12 (Int.toNat x11) x21) 47],[]] hmx kr kr kr rfl ?_
    refine aq0 0 1 (out:=Pi v4) rfl (fun C9=>fr) ?_
    refine aq0 1 3 (out:=P6 x11) rfl (fun C9=>fr) ?_
    refine aq0 2 7 (out:=Pi v4) rfl (fun C9=>fr) ?_
    refine aq0 3 15 (out:=P6 x11) rfl (fun C9=>fr) ?_
    refine aq0 4 31 (out:=P6 (w64 (x11 - 1))) rfl (fun C9=>qInt) ?_
    refine aq0 5 63 (out:=Pi v4) rfl (fun C9=>fr) ?_
    refine aq0 6 127 (out:=P6 x11) rfl (fun C9=>fr) ?_
    refine aq0 7 255 (out:=P6 (w64 (x11 - 1))) rfl (fun C9=>qInt) ?_
    refine aq1 8 511 0 (out:=vz v4 (Int.toNat (w64 (x11 - 1)) * (ak).size)) rfl rfl (fun C9 i9 h9=>(vq i9 (R:=ak) (l:=x12) underlying27 sizeOf47 hx21 (hi:=h9))) ?_
    refine aq1 9 1023 0 (out:=(ak).val x21) rfl rfl (fun C9 i9 h9=>(uc (R:=ak) (R':=ak) (l:=x12) (a:=x21) (o:=0) i9 ty47 (Sub.refl _) nb hx21 rfl (hi:=h9))) ?_
    refine aq0 10 2047 (out:=Pi v4) rfl (fun C9=>fr) ?_
    refine aq0 11 4095 (out:=P6 x11) rfl (fun C9=>fr) ?_
    refine aq1 12 8191 0 (out:=vz v4 (Int.toNat x11 * (ak).size)) rfl rfl (fun C9 i9 h9=>(vq i9 (R:=ak) (l:=x12) underlying27 sizeOf47 hx22 (hi:=h9))) ?_
    refine aq1 13 16383 0 (out:=(ak).val x22) rfl rfl (fun C9 i9 h9=>(uc (R:=ak) (R':=ak) (l:=x12) (a:=x22) (o:=0) i9 ty47 (Sub.refl _) nb hx22 rfl (hi:=h9))) ?_
    refine aq1 14 32767 0 (out:=vz v4 (Int.toNat x11 * (ak).size)) rfl rfl (fun C9 i9 h9=>(vq i9 (R:=ak) (l:=x12) underlying27 sizeOf47 hx23 (hi:=h9))) ?_
    refine ae 15 65535 rfl (fun g9=>?_)
    refine adu (R:=ak) (R':=ak) (l:=x12) (a:=x23) (y:=x21) (o:=0) 0 sizeOf47 (Upd.refl _) hx23 rfl ?_
    refine f6 .any [] cd ?_
    refine aq1 16 131071 0 (out:=vz v4 (Int.toNat (w64 (x11 - 1)) * (ak).size)) rfl rfl (fun C9 i9 h9=>(vq i9 (R:=ak) (l:=(List.set x12 (Int.toNat x11) x21)) underlying27 sizeOf47 k (hi:=h9))) ?_
    refine ae 17 262143 rfl (fun g9=>?_)
    refine adu (R:=ak) (R':=ak) (l:=(List.set x12 (Int.toNat x11) x21)) (a:=x24) (y:=x22) (o:=0) 0 sizeOf47 (Upd.refl _) k rfl ?_
    refine f6 .any [] cd ?_
    refine yj ?_
    refine W_r (kMv rfl (kIn rfl rfl rfl (kAs rfl ?_)))
    exact⟨m4,lsu,w64 (x11 - 1),(List.set (List.set x12 (Int.toNat x11) x21) (Int.toNat (w64 (x11 - 1))) x22),hn4 _ (ojs h4l),atOk⟩
   refine dp ?_
   obtain rfl:=ho4 _ (ojs h4l)
   exact⟨x12,h2l,atOk⟩
  refine jg 17 hmx kr kr ?_
  refine lUn (hMvA rfl) (lUn (hMvA rfl) (lUn (qInt rfl rfl rfl) (lUn (hMvA rfl) ?_)))
  rcases bn h4l with⟨hc15,h4l⟩|⟨hc15,h4l⟩
  ·refine lGd rfl aa hc15 (hMv (out:=d9 Tryz.prog (g8 x3)) rfl) (lGd rfl aa hc15 (hMvA rfl) (lGd rfl aa hc15 (hMvA rfl) ?_))
   obtain⟨x16,k,h4l⟩:=ag h4l
   refine lGd rfl aa hc15 (vq 0 (R:=ak) (l:=x12) underlying27 sizeOf47 k) ?_
   refine lGd rfl aa hc15 (uc (R:=ak) (R':=ak) (l:=x12) (a:=x16) (o:=0) 0 ty47 (Sub.refl _) nb k rfl) ?_
   refine lGd rfl aa hc15 (hMvA rfl) (lGd rfl aa hc15 (hMvA rfl) (lGd rfl aa hc15 (qInt rfl rfl rfl) ?_))
   obtain⟨x17,k,h4l⟩:=ag h4l
   refine lGd rfl aa hc15 (vq 0 (R:=ak) (l:=x12) underlying27 sizeOf47 k) ?_
   refine lGd rfl aa hc15 (uc (R:=ak) (R':=ak) (l:=x12) (a:=x17) (o:=0) 0 ty47 (Sub.refl _) nb k rfl) ?_
   obtain⟨x18,k,h4l⟩:=ag h4l
   refine lGd rfl aa hc15 (anw (spec:=g8 x3) ⟨_,_,_,rfl,rfl,k⟩) ?_
   refine lGd rfl aa hc15 (qInt rfl rfl rfl) (lUn (hPt rfl hc15 rfl) ?_)
   exact⟨decide (x18<0),h4l,atOk⟩
  refine lsx ?_
  refine lUn (hPf rfl hc15 rfl) ?_
  exact⟨false,h4l,atOk⟩
 refine dp ?_
 obtain rfl:=ho2 _ (ojs h2l)
 exact⟨x7,h,atOk⟩
theorem ke (x1 x2 x3:Int) (x4:(B7->B7->Option Int)) (x6:List B7) (v5:Value) (r:(List B7)) (h:eg x1 x2 x3 x4 x6=some r):Fc 178 [Pi v5,P6 x1,P6 x2,P6 x3,d9 Tryz.prog (g8 x4)] [E1 v5 ak x6 47] (fun q C'=>q=bj []/\C'=[E1 v5 ak r 47]):=by
 refine gz (rs:=[]) func178 rfl ntmps178 ⟨by decide,results178⟩ dcd (fun s0=>?_)
 unfold eg at h
 refine W_rs (kAs rfl (az ?_))
 obtain⟨z2l,hz2,h⟩:=ag h
 obtain⟨n2,hN2⟩:=bm hz2
 refine cp 0 (fun e C=>∃x8,ie x8=some r/\At [(0,Pi v5)] [E1 v5 ak x8 47] e C) ?_ ?_
 ·rintro e C ⟨x8,h,a⟩
  unfold ie at h
  obtain rfl:=osj h
  exact⟨.inr rfl,_,(A8.trans a.2 (A8.refl _)),_,aa,rfl,rfl⟩
 refine dq (fun m e C=>∃x7,∃x8,ez (fun s=>dg x3 x2 x1 s.1 s.2) m (x7,x8)=some z2l/\At [(0,Pi v5),(1,P6 x1),(2,P6 x2),(3,P6 x3),(10,P6 x7)] [E1 v5 ak x8 47] e C) n2 ⟨0,x6,hN2,⟨⟨aa,aa,aa,aa,aa,tv⟩,A8.refl _⟩⟩ ?_
 rintro m e C ⟨x7,x8,hN2,a⟩
 let p1:=E1 v5 ak x8 47
 refine W_at a ?_
 obtain⟨m2,w2l,rfl,h2l,hn2,ho2⟩:=bc hN2
 replace h2l:dg x3 x2 x1 x7 x8=some w2l:=h2l
 unfold dg at h2l
 refine a6 (W_rs (kMv rfl (kMv rfl (kIn rfl rfl rfl ?_))))
 refine a5 h2l rfl (fun _ h2l=>?_) (fun _ h2l=>?_)
 ·refine au (a6 (az ?_))
  obtain⟨x12,hx12,h2l⟩:=ag h2l
  obtain⟨x13,hx13,h2l⟩:=ag h2l
  obtain⟨x14,hx14,h2l⟩:=ag h2l
  obtain⟨x15,k,h2l⟩:=ag h2l
  refine aah [0,0,0,6,0,0,0,96,0,0,0,1536,3840,7936,0,0,0,98304,245760,507904,1048335,2096911,4194303,8388607] [[],[],[],[],[],[],[],[],[],[],[],[],[p1],[p1],[],[],[],[],[p1],[p1],[p1],[],[E1 v5 ak (List.set x8 (Int.toNat (w64 (x1+x7))) x12) 47],[]] hmx kr kr kr rfl ?_
  refine aq0 0 1 (out:=Pi v5) rfl (fun C9=>fr) ?_
  refine aq0 1 3 (out:=P6 x1) rfl (fun C9=>fr) ?_
  refine aq0 2 7 (out:=P6 x7) rfl (fun C9=>fr) ?_
  refine aq0 3 15 (out:=P6 (w64 (x1+x7))) rfl (fun C9=>qInt) ?_
  refine aq0 4 31 (out:=Pi v5) rfl (fun C9=>fr) ?_
  refine aq0 5 63 (out:=P6 x2) rfl (fun C9=>fr) ?_
  refine aq0 6 127 (out:=P6 x7) rfl (fun C9=>fr) ?_
  refine aq0 7 255 (out:=P6 (w64 (x2+x7))) rfl (fun C9=>qInt) ?_
  refine aq0 8 511 (out:=Pi v5) rfl (fun C9=>fr) ?_
  refine aq0 9 1023 (out:=P6 x2) rfl (fun C9=>fr) ?_
  refine aq0 10 2047 (out:=P6 x7) rfl (fun C9=>fr) ?_
  refine aq0 11 4095 (out:=P6 (w64 (x2+x7))) rfl (fun C9=>qInt) ?_
  refine aq1 12 8191 0 (out:=vz v5 (Int.toNat (w64 (x2+x7)) * (ak).size)) rfl rfl (fun C9 i9 h9=>(vq i9 (R:=ak) (l:=x8) underlying27 sizeOf47 hx12 (hi:=h9))) ?_
  refine aq1 13 16383 0 (out:=(ak).val x12) rfl rfl (fun C9 i9 h9=>(uc (R:=ak) (R':=ak) (l:=x8) (a:=x12) (o:=0) i9 ty47 (Sub.refl _) nb hx12 rfl (hi:=h9))) ?_
  refine aq0 14 32767 (out:=Pi v5) rfl (fun C9=>fr) ?_
  refine aq0 15 65535 (out:=P6 x1) rfl (fun C9=>fr) ?_
  refine aq0 16 131071 (out:=P6 x7) rfl (fun C9=>fr) ?_
  refine aq0 17 262143 (out:=P6 (w64 (x1+x7))) rfl (fun C9=>qInt) ?_
  refine aq1 18 524287 0 (out:=vz v5 (Int.toNat (w64 (x1+x7)) * (ak).size)) rfl rfl (fun C9 i9 h9=>(vq i9 (R:=ak) (l:=x8) underlying27 sizeOf47 hx13 (hi:=h9))) ?_
  refine aq1 19 1048575 0 (out:=(ak).val x13) rfl rfl (fun C9 i9 h9=>(uc (R:=ak) (R':=ak) (l:=x8) (a:=x13) (o:=0) i9 ty47 (Sub.refl _) nb hx13 rfl (hi:=h9))) ?_
  refine aq1 20 2097151 0 (out:=vz v5 (Int.toNat (w64 (x1+x7)) * (ak).size)) rfl rfl (fun C9 i9 h9=>(vq i9 (R:=ak) (l:=x8) underlying27 sizeOf47 hx14 (hi:=h9))) ?_
  refine ae 21 4194303 rfl (fun g9=>?_)
  refine adu (R:=ak) (R':=ak) (l:=x8) (a:=x14) (y:=x12) (o:=0) 0 sizeOf47 (Upd.refl _) hx14 rfl ?_
  refine f6 .any [] cd ?_
  refine aq1 22 8388607 0 (out:=vz v5 (Int.toNat (w64 (x2+x7)) * (ak).size)) rfl rfl (fun C9 i9 h9=>(vq i9 (R:=ak) (l:=(List.set x8 (Int.toNat (w64 (x1+x7))) x12)) underlying27 sizeOf47 k (hi:=h9))) ?_
  refine ae 23 16777215 rfl (fun g9=>?_)
  refine adu (R:=ak) (R':=ak) (l:=(List.set x8 (Int.toNat (w64 (x1+x7))) x12)) (a:=x15) (y:=x13) (o:=0) 0 sizeOf47 (Upd.refl _) k rfl ?_
  refine f6 .any [] cd ?_
  refine yj ?_
  refine W_r (kMv rfl (kIn rfl rfl rfl (kAs rfl ?_)))
  exact⟨m2,lsu,w64 (x7+1),(List.set (List.set x8 (Int.toNat (w64 (x1+x7))) x12) (Int.toNat (w64 (x2+x7))) x13),hn2 _ (ojs h2l),atOk⟩
 refine dp ?_
 obtain rfl:=ho2 _ (ojs h2l)
 exact⟨x8,h,atOk⟩
theorem aat (x1 x2 x3:Int) (x4:(B7->B7->Option Int)) (x6:List B7) (v5:Value) (r:(List B7)) (h:il x1 x2 x3 x4 x6=some r):Fc 164 [Pi v5,P6 x1,P6 x2,P6 x3,d9 Tryz.prog (g8 x4)] [E1 v5 ak x6 47] (fun q C'=>q=bj []/\C'=[E1 v5 ak r 47]):=by
 refine gz (rs:=[]) func164 rfl ntmps164 ⟨by decide,results164⟩ dcd (fun s0=>?_)
 unfold il at h
 refine W_rs (kMv rfl (kMv rfl (kIn rfl rfl rfl (kAs rfl (W_rs (kMv rfl (kMv rfl (kIn rfl rfl rfl (kAs rfl (a6 (az ?_)))))))))))
 obtain⟨z2l,hz2,h⟩:=ag h
 obtain⟨n2,hN2⟩:=bm hz2
 refine cp 0 (fun e C=>∃x7,∃x9,gq x2 x4 x7 x9=some r/\At [(0,Pi v5),(2,P6 x2),(4,d9 Tryz.prog (g8 x4)),(10,P6 x7)] [E1 v5 ak x9 47] e C) ?_ ?_
 ·rintro e C ⟨x7,x9,h,a⟩
  refine W_at a ?_
  unfold gq at h
  refine W_r (kMv rfl (kMv rfl (kMv rfl (kIn rfl rfl rfl (kMv rfl (kMv rfl (kUn (hMv (out:=d9 Tryz.prog (g8 x4)) rfl) ?_)))))))
  obtain⟨x17,k,h⟩:=ag h
  refine gu [0] (ke (w64 (x2 - x7)) x2 x7 x4 x9 v5 _ k) (fun q C' hq=>?_)
  obtain⟨rfl,rfl⟩:=hq
  obtain rfl:=osj h
  exact⟨.inr rfl,_,A8.refl _,_,aa,rfl,rfl⟩
 refine dq (fun m e C=>∃x7,∃x8,∃x9,ez (fun s=>cw x2 x4 s.1 s.2.1 s.2.2) m (x7,x8,x9)=some z2l/\At [(0,Pi v5),(2,P6 x2),(4,d9 Tryz.prog (g8 x4)),(10,P6 x7),(11,P6 x8)] [E1 v5 ak x9 47] e C) n2 ⟨w64 (x2 - x1),w64 (x3 - x2),x6,hN2,⟨⟨aa,aa,aa,aa,aa,tv⟩,A8.refl _⟩⟩ ?_
 rintro m e C ⟨x7,x8,x9,hN2,a⟩
 refine W_at a ?_
 obtain⟨m2,w2l,rfl,h2l,hn2,ho2⟩:=bc hN2
 replace h2l:cw x2 x4 x7 x8 x9=some w2l:=h2l
 unfold cw at h2l
 refine a6 (W_rs (kMv rfl (kMv rfl (kIn rfl rfl rfl ?_))))
 refine a5 h2l rfl (fun _ h2l=>?_) (fun _ h2l=>?_)
 ·refine au (az (W_rs (kMv rfl (kMv rfl (kIn rfl rfl rfl ?_)))))
  refine a5 h2l rfl (fun _ h2l=>?_) (fun _ h2l=>?_)
  ·refine W_rs (kMv rfl (kMv rfl (kMv rfl (kIn rfl rfl rfl (kMv rfl (kMv rfl (kUn (hMv (out:=d9 Tryz.prog (g8 x4)) rfl) ?_)))))))
   obtain⟨x15,k,h2l⟩:=ag h2l
   refine gu [0] (ke (w64 (x2 - x7)) x2 x8 x4 x9 v5 _ k) (fun q C' hq=>?_)
   obtain⟨rfl,rfl⟩:=hq
   refine W_r (kMv rfl (kMv rfl (kIn rfl rfl rfl (kAs rfl ?_))))
   exact⟨m2,lsu,w64 (x7 - x8),x8,x15,hn2 _ (ojs h2l),atOk⟩
  refine W_rs (kMv rfl (kMv rfl (kMv rfl (kIn rfl rfl rfl (kMv rfl (kMv rfl (kIn rfl rfl rfl (kMv rfl (kIn rfl rfl rfl (kMv rfl (kUn (hMv (out:=d9 Tryz.prog (g8 x4)) rfl) ?_)))))))))))
  obtain⟨x16,k,h2l⟩:=ag h2l
  refine gu [0] (ke (w64 (x2 - x7)) (w64 ((w64 (x2+x8)) - x7)) x7 x4 x9 v5 _ k) (fun q C' hq=>?_)
  obtain⟨rfl,rfl⟩:=hq
  refine W_r (kMv rfl (kMv rfl (kIn rfl rfl rfl (kAs rfl ?_))))
  exact⟨m2,lsu,x7,w64 (x8 - x7),x16,hn2 _ (ojs h2l),atOk⟩
 refine dp ?_
 obtain rfl:=ho2 _ (ojs h2l)
 exact⟨x7,x9,h,atOk⟩
def l6 (R:ar):Prop:=(∀(x1:Int) (x2:Int) (x3:Int) (x4:(B7->B7->Option Int)) (x6:List B7) (v5:Value) (r:(List B7)),R x1 x2 x3 x4 x6=some r->Fc 130 [Pi v5,P6 x1,P6 x2,P6 x3,d9 Tryz.prog (g8 x4)] [E1 v5 ak x6 47] (fun q C'=>q=bj []/\C'=[E1 v5 ak r 47]))
theorem vw (R:ar) (ih:l6 R) (x1 x2 x3:Int) (x4:(B7->B7->Option Int)) (x6:List B7) (v5:Value) (r:(List B7)) (h:gl R x1 x2 x3 x4 x6=some r):Fc 130 [Pi v5,P6 x1,P6 x2,P6 x3,d9 Tryz.prog (g8 x4)] [E1 v5 ak x6 47] (fun q C'=>q=bj []/\C'=[E1 v5 ak r 47]):=by
  refine gz (rs:=[]) func130 rfl ntmps130 ⟨by decide,results130⟩ dcd (fun s0=>?_)
  let p1:=E1 v5 ak x6 47
  unfold gl at h
  refine a6 (W_rs (kMv rfl (kMv rfl (kIn rfl rfl rfl (kIn rfl rfl rfl ?_)))))
  refine a5 h rfl (fun _ h=>?_) (fun _ h=>?_)
  · refine W_rs (kMv rfl (kAs rfl (W_rs (kMv rfl (kAs rfl (a6 (az ?_)))))))
    obtain⟨z4l,hz4,h⟩:=ag h
    obtain⟨n4,hN4⟩:=bm hz4
    refine cp 0 (fun e C=>∃x8,gc R x1 x6 x8=some r/\At [(0,Pi v5),(1,P6 x1),(10,P6 x8)] [p1] e C) ?_ ?_
    · rintro e C ⟨x8,h,a⟩
      refine W_at a ?_
      unfold gc at h
      refine a6 (W_rs (kMv rfl (kAs rfl (az ?_))))
      obtain⟨z2l,hz2,h⟩:=ag h
      obtain⟨n2,hN2⟩:=bm hz2
      refine cp 2 (fun e C=>∃x18,io R x18=some r/\At [(0,Pi v5)] [E1 v5 ak x18 47] e C) ?_ ?_
      · rintro e C ⟨x18,h,a⟩
        refine W_at a ?_
        unfold io at h
        obtain rfl:=osj h
        exact a7 ⟨.inl rfl,_,A8.refl _,_,aa,rfl,rfl⟩
      refine dq (fun m e C=>∃x17,∃x18,ez (fun s=>dl R x8 s.1 s.2) m (x17,x18)=some z2l/\At [(0,Pi v5),(10,P6 x8),(13,P6 x17)] [E1 v5 ak x18 47] e C) n2 ⟨x1,x6,hN2,⟨⟨aa,aa,aa,tv⟩,A8.refl _⟩⟩ ?_
      rintro m e C ⟨x17,x18,hN2,a⟩
      let p2:=E1 v5 ak x18 47
      refine W_at a ?_
      obtain⟨m2,w2l,rfl,h2l,hn2,ho2⟩:=bc hN2
      replace h2l:dl R x8 x17 x18=some w2l:=h2l
      unfold dl at h2l
      refine a6 (W_rs (kMv rfl (kMv rfl (kIn rfl rfl rfl (kIn rfl rfl rfl ?_)))))
      refine a5 h2l rfl (fun _ h2l=>?_) (fun _ h2l=>?_)
      · refine au (a6 (az ?_))
        obtain⟨x22,hx22,h2l⟩:=ag h2l
        obtain⟨x23,hx23,h2l⟩:=ag h2l
        obtain⟨x24,hx24,h2l⟩:=ag h2l
        obtain⟨x25,k,h2l⟩:=ag h2l
        refine aah [0,0,0,0,8,0,0,64,224,480,0,0,3072,7168,16355,32739,65535,131071] [[],[],[],[],[],[],[],[],[p2],[p2],[],[],[p2],[p2],[p2],[],[E1 v5 ak (List.set x18 (Int.toNat x17) x22) 47],[]] hmx kr kr kr rfl ?_
        refine aq0 0 1 (out:=Pi v5) rfl (fun C9=>fr) ?_
        refine aq0 1 3 (out:=P6 x17) rfl (fun C9=>fr) ?_
        refine aq0 2 7 (out:=Pi v5) rfl (fun C9=>fr) ?_
        refine aq0 3 15 (out:=P6 x17) rfl (fun C9=>fr) ?_
        refine aq0 4 31 (out:=P6 (w64 (x17+1))) rfl (fun C9=>qInt) ?_
        refine aq0 5 63 (out:=Pi v5) rfl (fun C9=>fr) ?_
        refine aq0 6 127 (out:=P6 x17) rfl (fun C9=>fr) ?_
        refine aq0 7 255 (out:=P6 (w64 (x17+1))) rfl (fun C9=>qInt) ?_
        refine aq1 8 511 0 (out:=vz v5 (Int.toNat (w64 (x17+1)) * (ak).size)) rfl rfl (fun C9 i9 h9=>(vq i9 (R:=ak) (l:=x18) underlying27 sizeOf47 hx22 (hi:=h9))) ?_
        refine aq1 9 1023 0 (out:=(ak).val x22) rfl rfl (fun C9 i9 h9=>(uc (R:=ak) (R':=ak) (l:=x18) (a:=x22) (o:=0) i9 ty47 (Sub.refl _) nb hx22 rfl (hi:=h9))) ?_
        refine aq0 10 2047 (out:=Pi v5) rfl (fun C9=>fr) ?_
        refine aq0 11 4095 (out:=P6 x17) rfl (fun C9=>fr) ?_
        refine aq1 12 8191 0 (out:=vz v5 (Int.toNat x17 * (ak).size)) rfl rfl (fun C9 i9 h9=>(vq i9 (R:=ak) (l:=x18) underlying27 sizeOf47 hx23 (hi:=h9))) ?_
        refine aq1 13 16383 0 (out:=(ak).val x23) rfl rfl (fun C9 i9 h9=>(uc (R:=ak) (R':=ak) (l:=x18) (a:=x23) (o:=0) i9 ty47 (Sub.refl _) nb hx23 rfl (hi:=h9))) ?_
        refine aq1 14 32767 0 (out:=vz v5 (Int.toNat x17 * (ak).size)) rfl rfl (fun C9 i9 h9=>(vq i9 (R:=ak) (l:=x18) underlying27 sizeOf47 hx24 (hi:=h9))) ?_
        refine ae 15 65535 rfl (fun g9=>?_)
        refine adu (R:=ak) (R':=ak) (l:=x18) (a:=x24) (y:=x22) (o:=0) 0 sizeOf47 (Upd.refl _) hx24 rfl ?_
        refine f6 .any [] cd ?_
        refine aq1 16 131071 0 (out:=vz v5 (Int.toNat (w64 (x17+1)) * (ak).size)) rfl rfl (fun C9 i9 h9=>(vq i9 (R:=ak) (l:=(List.set x18 (Int.toNat x17) x22)) underlying27 sizeOf47 k (hi:=h9))) ?_
        refine ae 17 262143 rfl (fun g9=>?_)
        refine adu (R:=ak) (R':=ak) (l:=(List.set x18 (Int.toNat x17) x22)) (a:=x25) (y:=x23) (o:=0) 0 sizeOf47 (Upd.refl _) k rfl ?_
        refine f6 .any [] cd ?_
        refine yj ?_
        refine W_r (kMv rfl (kIn rfl rfl rfl (kAs rfl ?_)))
        exact⟨m2,lsu,w64 (x17+1),(List.set (List.set x18 (Int.toNat x17) x22) (Int.toNat (w64 (x17+1))) x23),hn2 _ (ojs h2l),atOk⟩
      refine dp ?_
      obtain rfl:=ho2 _ (ojs h2l)
      exact⟨x18,h,atOk⟩
    refine dq (fun m e C=>∃x8,∃x9,ez (fun s=>dk R x6 x1 x4 s.1 s.2) m (x8,x9)=some z4l/\At [(0,Pi v5),(1,P6 x1),(4,d9 Tryz.prog (g8 x4)),(10,P6 x8),(11,P6 x9)] [p1] e C) n4 ⟨x2,x3,hN4,⟨⟨aa,aa,aa,aa,aa,tv⟩,A8.refl _⟩⟩ ?_
    rintro m e C ⟨x8,x9,hN4,a⟩
    refine W_at a ?_
    obtain⟨m4,w4l,rfl,h4l,hn4,ho4⟩:=bc hN4
    replace h4l:dk R x6 x1 x4 x8 x9=some w4l:=h4l
    unfold dk at h4l
    refine a6 (W_rs (kMv rfl (kMv rfl (kIn rfl rfl rfl ?_))))
    refine a5 h4l rfl (fun _ h4l=>?_) (fun _ h4l=>?_)
    · refine au (az (W_rs (kMv rfl (kMv rfl (kIn rfl rfl rfl (kUn (ant underlying3 underlying192) ?_))))))
      refine kUn (qShr (k:= .u64) (c:=2) 1 dcd) ?_
      refine kUn (ant underlying192 underlying3) ?_
      refine kAs rfl ?_
      refine ba (fun e C=>∃x15,ip R x8 x9 x15=some w4l/\At [(0,Pi v5),(1,P6 x1),(4,d9 Tryz.prog (g8 x4)),(10,P6 x8),(11,P6 x9),(12,P6 (w64 (Int.fdiv (IntKind.wrap .u64 (w64 (x8+x9))) 2))),(50,Pb (decide (x15<0)))] [p1] e C) ?_ ?_
      · rintro e C ⟨x15,h4l,a⟩
        refine W_at a ?_
        unfold ip at h4l
        refine a5 h4l rfl (fun _ h4l=>?_) (fun _ h4l=>?_)
        · refine W_r (kMv rfl (kIn rfl rfl rfl (kAs rfl ?_)))
          exact⟨m4,lsu,w64 ((w64 (Int.fdiv (IntKind.wrap .u64 (w64 (x8+x9))) 2))+1),x9,hn4 _ (ojs h4l),atOk⟩
        refine W_r (kMv rfl (kAs rfl ?_))
        exact⟨m4,lsu,x8,w64 (Int.fdiv (IntKind.wrap .u64 (w64 (x8+x9))) 2),hn4 _ (ojs h4l),atOk⟩
      refine jg 11 hmx kr kr ?_
      refine lUn (hMv (out:=d9 Tryz.prog (g8 x4)) rfl) (lUn (hMvA rfl) (lUn (hMvA rfl) ?_))
      obtain⟨x13,k,h4l⟩:=ag h4l
      refine lUn (vq 0 (R:=ak) (l:=x6) underlying27 sizeOf47 k) ?_
      refine lUn (uc (R:=ak) (R':=ak) (l:=x6) (a:=x13) (o:=0) 0 ty47 (Sub.refl _) nb k rfl) ?_
      refine lUn (hMvA rfl) (lUn (hMvA rfl) ?_)
      obtain⟨x14,k,h4l⟩:=ag h4l
      refine lUn (vq 0 (R:=ak) (l:=x6) underlying27 sizeOf47 k) ?_
      refine lUn (uc (R:=ak) (R':=ak) (l:=x6) (a:=x14) (o:=0) 0 ty47 (Sub.refl _) nb k rfl) ?_
      obtain⟨x15,k,h4l⟩:=ag h4l
      refine lUn (anw (spec:=g8 x4) ⟨_,_,_,rfl,rfl,k⟩) ?_
      refine lUn (qInt rfl rfl rfl) ?_
      exact⟨x15,h4l,atOk⟩
    refine dp ?_
    obtain rfl:=ho4 _ (ojs h4l)
    exact⟨x8,h,atOk⟩
  refine au (a6 (W_rs (kMv rfl (kMv rfl (kIn rfl rfl rfl (kIn rfl rfl rfl ?_))))))
  refine a5 h rfl (fun _ h=>?_) (fun _ h=>?_)
  · refine W_rs (kMv rfl (kAs rfl (W_rs (kMv rfl (kAs rfl (a6 (az ?_)))))))
    obtain⟨z9l,hz9,h⟩:=ag h
    obtain⟨n9,hN9⟩:=bm hz9
    refine cp 4 (fun e C=>∃x27,gb R x2 x6 x27=some r/\At [(0,Pi v5),(2,P6 x2),(14,P6 x27)] [p1] e C) ?_ ?_
    · rintro e C ⟨x27,h,a⟩
      refine W_at a ?_
      unfold gb at h
      refine a6 (W_rs (kMv rfl (kAs rfl (az ?_))))
      obtain⟨z7l,hz7,h⟩:=ag h
      obtain⟨n7,hN7⟩:=bm hz7
      refine cp 6 (fun e C=>∃x37,im R x37=some r/\At [(0,Pi v5)] [E1 v5 ak x37 47] e C) ?_ ?_
      · rintro e C ⟨x37,h,a⟩
        refine W_at a ?_
        unfold im at h
        obtain rfl:=osj h
        exact a7 ⟨.inl rfl,_,A8.refl _,_,aa,rfl,rfl⟩
      refine dq (fun m e C=>∃x36,∃x37,ez (fun s=>dj R x27 s.1 s.2) m (x36,x37)=some z7l/\At [(0,Pi v5),(14,P6 x27),(17,P6 x36)] [E1 v5 ak x37 47] e C) n7 ⟨x2,x6,hN7,⟨⟨aa,aa,aa,tv⟩,A8.refl _⟩⟩ ?_
      rintro m e C ⟨x36,x37,hN7,a⟩
      let p3:=E1 v5 ak x37 47
      refine W_at a ?_
      obtain⟨m7,w7l,rfl,h7l,hn7,ho7⟩:=bc hN7
      replace h7l:dj R x27 x36 x37=some w7l:=h7l
      unfold dj at h7l
      refine a6 (W_rs (kMv rfl (kMv rfl (kIn rfl rfl rfl ?_))))
      refine a5 h7l rfl (fun _ h7l=>?_) (fun _ h7l=>?_)
      · refine au (a6 (az ?_))
        obtain⟨x41,hx41,h7l⟩:=ag h7l
        obtain⟨x42,hx42,h7l⟩:=ag h7l
        obtain⟨x43,hx43,h7l⟩:=ag h7l
        obtain⟨x44,k,h7l⟩:=ag h7l
        refine aah [0,0,0,0,8,0,0,64,224,480,0,0,3072,7168,16355,32739,65535,131071] [[],[],[],[],[],[],[],[],[p3],[p3],[],[],[p3],[p3],[p3],[],[E1 v5 ak (List.set x37 (Int.toNat x36) x41) 47],[]] hmx kr kr kr rfl ?_
        refine aq0 0 1 (out:=Pi v5) rfl (fun C9=>fr) ?_
        refine aq0 1 3 (out:=P6 x36) rfl (fun C9=>fr) ?_
        refine aq0 2 7 (out:=Pi v5) rfl (fun C9=>fr) ?_
        refine aq0 3 15 (out:=P6 x36) rfl (fun C9=>fr) ?_
        refine aq0 4 31 (out:=P6 (w64 (x36 - 1))) rfl (fun C9=>qInt) ?_
        refine aq0 5 63 (out:=Pi v5) rfl (fun C9=>fr) ?_
        refine aq0 6 127 (out:=P6 x36) rfl (fun C9=>fr) ?_
        refine aq0 7 255 (out:=P6 (w64 (x36 - 1))) rfl (fun C9=>qInt) ?_
        refine aq1 8 511 0 (out:=vz v5 (Int.toNat (w64 (x36 - 1)) * (ak).size)) rfl rfl (fun C9 i9 h9=>(vq i9 (R:=ak) (l:=x37) underlying27 sizeOf47 hx41 (hi:=h9))) ?_
        refine aq1 9 1023 0 (out:=(ak).val x41) rfl rfl (fun C9 i9 h9=>(uc (R:=ak) (R':=ak) (l:=x37) (a:=x41) (o:=0) i9 ty47 (Sub.refl _) nb hx41 rfl (hi:=h9))) ?_
        refine aq0 10 2047 (out:=Pi v5) rfl (fun C9=>fr) ?_
        refine aq0 11 4095 (out:=P6 x36) rfl (fun C9=>fr) ?_
        refine aq1 12 8191 0 (out:=vz v5 (Int.toNat x36 * (ak).size)) rfl rfl (fun C9 i9 h9=>(vq i9 (R:=ak) (l:=x37) underlying27 sizeOf47 hx42 (hi:=h9))) ?_
        refine aq1 13 16383 0 (out:=(ak).val x42) rfl rfl (fun C9 i9 h9=>(uc (R:=ak) (R':=ak) (l:=x37) (a:=x42) (o:=0) i9 ty47 (Sub.refl _) nb hx42 rfl (hi:=h9))) ?_
        refine aq1 14 32767 0 (out:=vz v5 (Int.toNat x36 * (ak).size)) rfl rfl (fun C9 i9 h9=>(vq i9 (R:=ak) (l:=x37) underlying27 sizeOf47 hx43 (hi:=h9))) ?_
        refine ae 15 65535 rfl (fun g9=>?_)
        refine adu (R:=ak) (R':=ak) (l:=x37) (a:=x43) (y:=x41) (o:=0) 0 sizeOf47 (Upd.refl _) hx43 rfl ?_
        refine f6 .any [] cd ?_
        refine aq1 16 131071 0 (out:=vz v5 (Int.toNat (w64 (x36 - 1)) * (ak).size)) rfl rfl (fun C9 i9 h9=>(vq i9 (R:=ak) (l:=(List.set x37 (Int.toNat x36) x41)) underlying27 sizeOf47 k (hi:=h9))) ?_
        refine ae 17 262143 rfl (fun g9=>?_)
        refine adu (R:=ak) (R':=ak) (l:=(List.set x37 (Int.toNat x36) x41)) (a:=x44) (y:=x42) (o:=0) 0 sizeOf47 (Upd.refl _) k rfl ?_
        refine f6 .any [] cd ?_
        refine yj ?_
        refine W_r (kMv rfl (kIn rfl rfl rfl (kAs rfl ?_)))
        exact⟨m7,lsu,w64 (x36 - 1),(List.set (List.set x37 (Int.toNat x36) x41) (Int.toNat (w64 (x36 - 1))) x42),hn7 _ (ojs h7l),atOk⟩
      refine dp ?_
      obtain rfl:=ho7 _ (ojs h7l)
      exact⟨x37,h,atOk⟩
    refine dq (fun m e C=>∃x27,∃x28,ez (fun s=>di R x6 x2 x4 s.1 s.2) m (x27,x28)=some z9l/\At [(0,Pi v5),(2,P6 x2),(4,d9 Tryz.prog (g8 x4)),(14,P6 x27),(15,P6 x28)] [p1] e C) n9 ⟨x1,x2,hN9,⟨⟨aa,aa,aa,aa,aa,tv⟩,A8.refl _⟩⟩ ?_
    rintro m e C ⟨x27,x28,hN9,a⟩
    refine W_at a ?_
    obtain⟨m9,w9l,rfl,h9l,hn9,ho9⟩:=bc hN9
    replace h9l:di R x6 x2 x4 x27 x28=some w9l:=h9l
    unfold di at h9l
    refine a6 (W_rs (kMv rfl (kMv rfl (kIn rfl rfl rfl ?_))))
    refine a5 h9l rfl (fun _ h9l=>?_) (fun _ h9l=>?_)
    · refine au (az (W_rs (kMv rfl (kMv rfl (kIn rfl rfl rfl (kUn (ant underlying3 underlying192) ?_))))))
      refine kUn (qShr (k:= .u64) (c:=2) 1 dcd) ?_
      refine kUn (ant underlying192 underlying3) ?_
      refine kAs rfl ?_
      refine ba (fun e C=>∃x34,ic R x27 x28 x34=some w9l/\At [(0,Pi v5),(2,P6 x2),(4,d9 Tryz.prog (g8 x4)),(14,P6 x27),(15,P6 x28),(16,P6 (w64 (Int.fdiv (IntKind.wrap .u64 (w64 (x27+x28))) 2))),(103,Pb (!(decide (x34<0))))] [p1] e C) ?_ ?_
      · rintro e C ⟨x34,h9l,a⟩
        refine W_at a ?_
        unfold ic at h9l
        refine a5 h9l rfl (fun _ h9l=>?_) (fun _ h9l=>?_)
        · refine W_r (kMv rfl (kIn rfl rfl rfl (kAs rfl ?_)))
          exact⟨m9,lsu,w64 ((w64 (Int.fdiv (IntKind.wrap .u64 (w64 (x27+x28))) 2))+1),x28,hn9 _ (ojs h9l),atOk⟩
        refine W_r (kMv rfl (kAs rfl ?_))
        exact⟨m9,lsu,x27,w64 (Int.fdiv (IntKind.wrap .u64 (w64 (x27+x28))) 2),hn9 _ (ojs h9l),atOk⟩
      refine jg 12 hmx kr kr ?_
      refine lUn (hMv (out:=d9 Tryz.prog (g8 x4)) rfl) (lUn (hMvA rfl) (lUn (hMvA rfl) ?_))
      obtain⟨x32,k,h9l⟩:=ag h9l
      refine lUn (vq 0 (R:=ak) (l:=x6) underlying27 sizeOf47 k) ?_
      refine lUn (uc (R:=ak) (R':=ak) (l:=x6) (a:=x32) (o:=0) 0 ty47 (Sub.refl _) nb k rfl) ?_
      refine lUn (hMvA rfl) (lUn (hMvA rfl) ?_)
      obtain⟨x33,k,h9l⟩:=ag h9l
      refine lUn (vq 0 (R:=ak) (l:=x6) underlying27 sizeOf47 k) ?_
      refine lUn (uc (R:=ak) (R':=ak) (l:=x6) (a:=x33) (o:=0) 0 ty47 (Sub.refl _) nb k rfl) ?_
      obtain⟨x34,k,h9l⟩:=ag h9l
      refine lUn (anw (spec:=g8 x4) ⟨_,_,_,rfl,rfl,k⟩) ?_
      refine lUn (qInt rfl rfl rfl) (lUn (qNot rfl) ?_)
      exact⟨x34,h9l,atOk⟩
    refine dp ?_
    obtain rfl:=ho9 _ (ojs h9l)
    exact⟨x27,h,atOk⟩
  refine au (W_rs (kMv rfl (kMv rfl (kIn rfl rfl rfl (kUn (ant underlying3 underlying192) ?_)))))
  refine kUn (qShr (k:= .u64) (c:=2) 1 dcd) ?_
  refine kUn (ant underlying192 underlying3) ?_
  refine kAs rfl (W_rs (kMv rfl (kMv rfl (kIn rfl rfl rfl (kAs rfl (W_rs (kAs rfl (kAs rfl ?_))))))))
  refine ba (fun e C=>∃x46,∃x47,eo R x6 x1 x3 x2 x4 x46 x47=some r/\At [(0,Pi v5),(1,P6 x1),(2,P6 x2),(3,P6 x3),(4,d9 Tryz.prog (g8 x4)),(18,P6 (w64 (Int.fdiv (IntKind.wrap .u64 (w64 (x1+x3))) 2))),(19,P6 (w64 ((w64 (Int.fdiv (IntKind.wrap .u64 (w64 (x1+x3))) 2))+x2))),(20,P6 x46),(21,P6 x47)] [p1] e C) ?_ ?_
  · rintro e C ⟨x46,x47,h,a⟩
    refine W_at a ?_
    unfold eo at h
    refine W_rs (kMv rfl (kIn rfl rfl rfl (kAs rfl (a6 (az ?_)))))
    obtain⟨z17l,hz17,h⟩:=ag h
    obtain⟨n17,hN17⟩:=bm hz17
    refine cp 8 (fun e C=>∃x48,ia R x2 x1 x3 x4 x6 x48=some r/\At [(0,Pi v5),(1,P6 x1),(2,P6 x2),(3,P6 x3),(4,d9 Tryz.prog (g8 x4)),(18,P6 (w64 (Int.fdiv (IntKind.wrap .u64 (w64 (x1+x3))) 2))),(19,P6 (w64 ((w64 (Int.fdiv (IntKind.wrap .u64 (w64 (x1+x3))) 2))+x2))),(20,P6 x48)] [p1] e C) ?_ ?_
    · rintro e C ⟨x48,h,a⟩
      refine W_at a ?_
      unfold ia at h
      refine W_rs (kMv rfl (kMv rfl (kIn rfl rfl rfl (kAs rfl ?_))))
      refine ba (fun e C=>∃x61,ep R x1 x48 x3 x4 x2 x61=some r/\At [(0,Pi v5),(1,P6 x1),(3,P6 x3),(4,d9 Tryz.prog (g8 x4)),(18,P6 (w64 (Int.fdiv (IntKind.wrap .u64 (w64 (x1+x3))) 2))),(20,P6 x48),(24,P6 (w64 ((w64 ((w64 (Int.fdiv (IntKind.wrap .u64 (w64 (x1+x3))) 2))+x2)) - x48)))] [E1 v5 ak x61 47] e C) ?_ ?_
      · rintro e C ⟨x61,h,a⟩
        refine W_at a ?_
        unfold ep at h
        refine ba (fun e C=>∃x66,ev R x1 x3 x2 x48 x4 x66=some r/\At [(0,Pi v5),(3,P6 x3),(4,d9 Tryz.prog (g8 x4)),(18,P6 (w64 (Int.fdiv (IntKind.wrap .u64 (w64 (x1+x3))) 2))),(24,P6 (w64 ((w64 ((w64 (Int.fdiv (IntKind.wrap .u64 (w64 (x1+x3))) 2))+x2)) - x48)))] [E1 v5 ak x66 47] e C) ?_ ?_
        · rintro e C ⟨x66,h,a⟩
          refine W_at a ?_
          unfold ev at h
          refine ba (fun e C=>∃x68,fw R x1 x3 x2 x48 x4 x66 x68=some r/\At [(0,Pi v5),(3,P6 x3),(4,d9 Tryz.prog (g8 x4)),(18,P6 (w64 (Int.fdiv (IntKind.wrap .u64 (w64 (x1+x3))) 2))),(24,P6 (w64 ((w64 ((w64 (Int.fdiv (IntKind.wrap .u64 (w64 (x1+x3))) 2))+x2)) - x48))),(213,Pb x68)] [E1 v5 ak x66 47] e C) ?_ ?_
          · rintro e C ⟨x68,h,a⟩
            refine W_at a ?_
            unfold fw at h
            refine a5 h rfl (fun _ h=>?_) (fun _ h=>?_)
            · refine W_r (kMv rfl (kMv rfl (kMv rfl (kMv rfl (kUn (hMv (out:=d9 Tryz.prog (g8 x4)) rfl) ?_)))))
              obtain⟨x70,k,h⟩:=ag h
              refine gu [0] (ih (w64 (Int.fdiv (IntKind.wrap .u64 (w64 (x1+x3))) 2)) (w64 ((w64 ((w64 (Int.fdiv (IntKind.wrap .u64 (w64 (x1+x3))) 2))+x2)) - x48)) x3 x4 x66 v5 _ k) (fun q C' hq=>?_)
              obtain⟨rfl,rfl⟩:=hq
              obtain rfl:=osj h
              exact⟨.inr rfl,_,A8.refl _,_,aa,rfl,rfl⟩
            refine au ?_
            obtain rfl:=osj h
            exact⟨.inr rfl,_,A8.refl _,_,aa,rfl,rfl⟩
          refine W_r (kMv rfl (kMv rfl (kIn rfl rfl rfl (kMv rfl ?_))))
          rcases bn h with⟨hc67,h⟩|⟨hc67,h⟩
          · refine kGd rfl aa hc67 (hMvA rfl) (kGd rfl aa hc67 (hMvA rfl) (kGd rfl aa hc67 (qInt rfl rfl rfl) (kPt rfl hc67 rfl ?_)))
            exact⟨decide ((w64 ((w64 ((w64 (Int.fdiv (IntKind.wrap .u64 (w64 (x1+x3))) 2))+x2)) - x48))<x3),h,atOk⟩
          refine skx ?_
          refine kPf rfl hc67 rfl ?_
          exact⟨false,h,atOk⟩
        refine ba (fun e C=>∃x63,fv R x1 x48 x3 x4 x61 x2 x63=some r/\At [(0,Pi v5),(1,P6 x1),(3,P6 x3),(4,d9 Tryz.prog (g8 x4)),(18,P6 (w64 (Int.fdiv (IntKind.wrap .u64 (w64 (x1+x3))) 2))),(20,P6 x48),(24,P6 (w64 ((w64 ((w64 (Int.fdiv (IntKind.wrap .u64 (w64 (x1+x3))) 2))+x2)) - x48))),(199,Pb x63)] [E1 v5 ak x61 47] e C) ?_ ?_
        · rintro e C ⟨x63,h,a⟩
          refine W_at a ?_
          unfold fv at h
          refine a5 h rfl (fun _ h=>?_) (fun _ h=>?_)
          · refine W_r (kMv rfl (kMv rfl (kMv rfl (kMv rfl (kUn (hMv (out:=d9 Tryz.prog (g8 x4)) rfl) ?_)))))
            obtain⟨x65,k,h⟩:=ag h
            refine gu [0] (ih x1 x48 (w64 (Int.fdiv (IntKind.wrap .u64 (w64 (x1+x3))) 2)) x4 x61 v5 _ k) (fun q C' hq=>?_)
            obtain⟨rfl,rfl⟩:=hq
            exact⟨x65,h,atOk⟩
          refine au ?_
          exact⟨x61,h,atOk⟩
        refine W_r (kMv rfl (kMv rfl (kIn rfl rfl rfl (kMv rfl ?_))))
        rcases bn h with⟨hc62,h⟩|⟨hc62,h⟩
        · refine kGd rfl aa hc62 (hMvA rfl) (kGd rfl aa hc62 (hMvA rfl) (kGd rfl aa hc62 (qInt rfl rfl rfl) (kPt rfl hc62 rfl ?_)))
          exact⟨decide (x48<(w64 (Int.fdiv (IntKind.wrap .u64 (w64 (x1+x3))) 2))),h,atOk⟩
        refine skx ?_
        refine kPf rfl hc62 rfl ?_
        exact⟨false,h,atOk⟩
      refine ba (fun e C=>∃x58,fu R x48 x2 x1 x3 x4 x6 x58=some r/\At [(0,Pi v5),(1,P6 x1),(2,P6 x2),(3,P6 x3),(4,d9 Tryz.prog (g8 x4)),(18,P6 (w64 (Int.fdiv (IntKind.wrap .u64 (w64 (x1+x3))) 2))),(20,P6 x48),(24,P6 (w64 ((w64 ((w64 (Int.fdiv (IntKind.wrap .u64 (w64 (x1+x3))) 2))+x2)) - x48))),(185,Pb x58)] [p1] e C) ?_ ?_
      · rintro e C ⟨x58,h,a⟩
        refine W_at a ?_
        unfold fu at h
        refine a5 h rfl (fun _ h=>?_) (fun _ h=>?_)
        · refine W_r (kMv rfl (kMv rfl (kMv rfl (kMv rfl (kUn (hMv (out:=d9 Tryz.prog (g8 x4)) rfl) ?_)))))
          obtain⟨x60,k,h⟩:=ag h
          refine gu [0] (aat x48 x2 (w64 ((w64 ((w64 (Int.fdiv (IntKind.wrap .u64 (w64 (x1+x3))) 2))+x2)) - x48)) x4 x6 v5 _ k) (fun q C' hq=>?_)
          obtain⟨rfl,rfl⟩:=hq
          exact⟨x60,h,atOk⟩
        refine au ?_
        exact⟨x6,h,atOk⟩
      refine W_r (kMv rfl (kMv rfl (kIn rfl rfl rfl (kMv rfl ?_))))
      rcases bn h with⟨hc57,h⟩|⟨hc57,h⟩
      · refine kGd rfl aa hc57 (hMvA rfl) (kGd rfl aa hc57 (hMvA rfl) (kGd rfl aa hc57 (qInt rfl rfl rfl) (kPt rfl hc57 rfl ?_)))
        exact⟨decide (x2<(w64 ((w64 ((w64 (Int.fdiv (IntKind.wrap .u64 (w64 (x1+x3))) 2))+x2)) - x48))),h,atOk⟩
      refine skx ?_
      refine kPf rfl hc57 rfl ?_
      exact⟨false,h,atOk⟩
    refine dq (fun m e C=>∃x48,∃x49,ez (fun s=>de R x6 x1 x3 x2 x4 s.1 s.2) m (x48,x49)=some z17l/\At [(0,Pi v5),(1,P6 x1),(2,P6 x2),(3,P6 x3),(4,d9 Tryz.prog (g8 x4)),(18,P6 (w64 (Int.fdiv (IntKind.wrap .u64 (w64 (x1+x3))) 2))),(19,P6 (w64 ((w64 (Int.fdiv (IntKind.wrap .u64 (w64 (x1+x3))) 2))+x2))),(20,P6 x48),(21,P6 x49),(22,P6 (w64 ((w64 ((w64 (Int.fdiv (IntKind.wrap .u64 (w64 (x1+x3))) 2))+x2)) - 1)))] [p1] e C) n17 ⟨x46,x47,hN17,⟨⟨aa,aa,aa,aa,aa,aa,aa,aa,aa,aa,tv⟩,A8.refl _⟩⟩ ?_
    rintro m e C ⟨x48,x49,hN17,a⟩
    refine W_at a ?_
    obtain⟨m17,w17l,rfl,h17l,hn17,ho17⟩:=bc hN17
    replace h17l:de R x6 x1 x3 x2 x4 x48 x49=some w17l:=h17l
    unfold de at h17l
    refine a6 (W_rs (kMv rfl (kMv rfl (kIn rfl rfl rfl ?_))))
    refine a5 h17l rfl (fun _ h17l=>?_) (fun _ h17l=>?_)
    · refine au (az (W_rs (kMv rfl (kMv rfl (kIn rfl rfl rfl (kUn (ant underlying3 underlying192) ?_))))))
      refine kUn (qShr (k:= .u64) (c:=2) 1 dcd) ?_
      refine kUn (ant underlying192 underlying3) ?_
      refine kAs rfl ?_
      refine ba (fun e C=>∃x55,ib R x48 x49 x55=some w17l/\At [(0,Pi v5),(1,P6 x1),(2,P6 x2),(3,P6 x3),(4,d9 Tryz.prog (g8 x4)),(18,P6 (w64 (Int.fdiv (IntKind.wrap .u64 (w64 (x1+x3))) 2))),(19,P6 (w64 ((w64 (Int.fdiv (IntKind.wrap .u64 (w64 (x1+x3))) 2))+x2))),(20,P6 x48),(21,P6 x49),(22,P6 (w64 ((w64 ((w64 (Int.fdiv (IntKind.wrap .u64 (w64 (x1+x3))) 2))+x2)) - 1))),(23,P6 (w64 (Int.fdiv (IntKind.wrap .u64 (w64 (x48+x49))) 2))),(171,Pb (!(decide (x55<0))))] [p1] e C) ?_ ?_
      · rintro e C ⟨x55,h17l,a⟩
        refine W_at a ?_
        unfold ib at h17l
        refine a5 h17l rfl (fun _ h17l=>?_) (fun _ h17l=>?_)
        · refine W_r (kMv rfl (kIn rfl rfl rfl (kAs rfl ?_)))
          exact⟨m17,lsu,w64 ((w64 (Int.fdiv (IntKind.wrap .u64 (w64 (x48+x49))) 2))+1),x49,hn17 _ (ojs h17l),atOk⟩
        refine W_r (kMv rfl (kAs rfl ?_))
        exact⟨m17,lsu,x48,w64 (Int.fdiv (IntKind.wrap .u64 (w64 (x48+x49))) 2),hn17 _ (ojs h17l),atOk⟩
      refine jg 14 hmx kr kr ?_
      refine lUn (hMv (out:=d9 Tryz.prog (g8 x4)) rfl) (lUn (hMvA rfl) (lUn (hMvA rfl) (lUn (hMvA rfl) (lUn (qInt rfl rfl rfl) ?_))))
      obtain⟨x53,k,h17l⟩:=ag h17l
      refine lUn (vq 0 (R:=ak) (l:=x6) underlying27 sizeOf47 k) ?_
      refine lUn (uc (R:=ak) (R':=ak) (l:=x6) (a:=x53) (o:=0) 0 ty47 (Sub.refl _) nb k rfl) ?_
      refine lUn (hMvA rfl) (lUn (hMvA rfl) ?_)
      obtain⟨x54,k,h17l⟩:=ag h17l
      refine lUn (vq 0 (R:=ak) (l:=x6) underlying27 sizeOf47 k) ?_
      refine lUn (uc (R:=ak) (R':=ak) (l:=x6) (a:=x54) (o:=0) 0 ty47 (Sub.refl _) nb k rfl) ?_
      obtain⟨x55,k,h17l⟩:=ag h17l
      refine lUn (anw (spec:=g8 x4) ⟨_,_,_,rfl,rfl,k⟩) ?_
      refine lUn (qInt rfl rfl rfl) (lUn (qNot rfl) ?_)
      exact⟨x55,h17l,atOk⟩
    refine dp ?_
    obtain rfl:=ho17 _ (ojs h17l)
    exact⟨x48,h,atOk⟩
  refine W_rs (kMv rfl (kMv rfl (kIn rfl rfl rfl ?_)))
  refine a5 h rfl (fun _ h=>?_) (fun _ h=>?_)
  · refine W_rs (kMv rfl (kMv rfl (kIn rfl rfl rfl (kAs rfl (W_r (kMv rfl (kAs rfl ?_)))))))
    exact⟨w64 ((w64 ((w64 (Int.fdiv (IntKind.wrap .u64 (w64 (x1+x3))) 2))+x2)) - x3),w64 (Int.fdiv (IntKind.wrap .u64 (w64 (x1+x3))) 2),h,atOk⟩
  refine W_rs (kMv rfl (kAs rfl (W_r (kMv rfl (kAs rfl ?_)))))
  exact⟨x1,x2,h,atOk⟩
theorem vv :∀n,l6 (bv n):=by
 intro n
 induction n with
 |zero=>exact(fun x1 x2 x3 x4 x6 v5 r h=>nomatch (show none=some r from h))
 |succ n ih=>exact(fun x1 x2 x3 x4 x6 v5 r h=>vw (bv n) ih x1 x2 x3 x4 x6 v5 r h)
theorem pp (x1 x2 x3:Int) (x4:(B7->B7->Option Int)) (x6:List B7) (v5:Value) (r:(List B7)) (h:gw x1 x2 x3 x4 x6=some r):Fc 130 [Pi v5,P6 x1,P6 x2,P6 x3,d9 Tryz.prog (g8 x4)] [E1 v5 ak x6 47] (fun q C'=>q=bj []/\C'=[E1 v5 ak r 47]):=(vv 1048576) x1 x2 x3 x4 x6 v5 r h
theorem aas (x1:Int) (x2:(B7->B7->Option Int)) (x4:List B7) (v3:Value) (r:(List B7)) (h:ik x1 x2 x4=some r):Fc 78 [Pi v3,P6 x1,d9 Tryz.prog (g8 x2)] [E1 v3 ak x4 47] (fun q C'=>q=bj []/\C'=[E1 v3 ak r 47]):=by
 refine gz (rs:=[]) func78 rfl ntmps78 ⟨by decide,results78⟩ dcd (fun s0=>?_)
 unfold ik at h
 refine W_rs (kAs rfl (W_rs (kMv rfl (kAs rfl (kAs rfl (a6 (az ?_)))))))
 obtain⟨z7l,hz7,h⟩:=ag h
 obtain⟨n7,hN7⟩:=bm hz7
 refine cp 0 (fun e C=>∃x5,∃x7,je x1 x2 x5 x7=some r/\At [(0,Pi v3),(1,P6 x1),(2,d9 Tryz.prog (g8 x2)),(6,P6 20),(7,P6 x5)] [E1 v3 ak x7 47] e C) ?_ ?_
 ·rintro e C ⟨x5,x7,h,a⟩
  refine W_at a ?_
  unfold je at h
  refine W_rs (kMv rfl (kMv rfl (kMv rfl (kUn (hMv (out:=d9 Tryz.prog (g8 x2)) rfl) ?_))))
  obtain⟨x13,k,h⟩:=ag h
  refine gu [0] (mg x5 x1 x2 x7 v3 _ k) (fun q C' hq=>?_)
  obtain⟨rfl,rfl⟩:=hq
  refine az ?_
  obtain⟨z2l,hz2,h⟩:=ag h
  obtain⟨n2,hN2⟩:=bm hz2
  refine cp 2 (fun e C=>∃x15,lf x15=some r/\At [(0,Pi v3)] [E1 v3 ak x15 47] e C) ?_ ?_
  ·rintro e C ⟨x15,h,a⟩
   unfold lf at h
   obtain rfl:=osj h
   exact⟨.inr rfl,_,(A8.trans a.2 (A8.refl _)),_,aa,rfl,rfl⟩
  refine dq (fun m e C=>∃x14,∃x15,ez (fun s=>cv x1 x2 s.1 s.2) m (x14,x15)=some z2l/\At [(0,Pi v3),(1,P6 x1),(2,d9 Tryz.prog (g8 x2)),(6,P6 x14)] [E1 v3 ak x15 47] e C) n2 ⟨20,x13,hN2,⟨⟨aa,aa,aa,aa,tv⟩,A8.refl _⟩⟩ ?_
  rintro m e C ⟨x14,x15,hN2,a⟩
  refine W_at a ?_
  obtain⟨m2,w2l,rfl,h2l,hn2,ho2⟩:=bc hN2
  replace h2l:cv x1 x2 x14 x15=some w2l:=h2l
  unfold cv at h2l
  refine a6 (W_rs (kMv rfl (kMv rfl (kIn rfl rfl rfl ?_))))
  refine a5 h2l rfl (fun _ h2l=>?_) (fun _ h2l=>?_)
  ·refine au (az (W_rs (kMv rfl (kIn rfl rfl rfl (kAs rfl (kAs rfl (a6 (az ?_))))))))
   obtain⟨z5l,hz5,h2l⟩:=ag h2l
   obtain⟨n5,hN5⟩:=bm hz5
   refine cp 4 (fun e C=>∃x19,∃x21,fo x14 x1 x2 x19 x21=some w2l/\At [(0,Pi v3),(1,P6 x1),(2,d9 Tryz.prog (g8 x2)),(6,P6 x14),(7,P6 x19)] [E1 v3 ak x21 47] e C) ?_ ?_
   ·rintro e C ⟨x19,x21,h2l,a⟩
    refine W_at a ?_
    unfold fo at h2l
    refine ba (fun e C=>∃x29,gn x14 x29=some w2l/\At [(0,Pi v3),(1,P6 x1),(2,d9 Tryz.prog (g8 x2)),(6,P6 x14)] [E1 v3 ak x29 47] e C) ?_ ?_
    ·rintro e C ⟨x29,h2l,a⟩
     refine W_at a ?_
     unfold gn at h2l
     refine W_r (kMv rfl (kIn rfl rfl rfl (kAs rfl ?_)))
     exact⟨m2,lsu,w64 (x14 * 2),x29,hn2 _ (ojs h2l),atOk⟩
    refine W_rs (kMv rfl (kMv rfl (kIn rfl rfl rfl (kAs rfl (W_rs (kMv rfl (kMv rfl (kIn rfl rfl rfl ?_))))))))
    refine a5 h2l rfl (fun _ h2l=>?_) (fun _ h2l=>?_)
    ·refine W_r (kMv rfl (kMv rfl (kMv rfl (kMv rfl (kUn (hMv (out:=d9 Tryz.prog (g8 x2)) rfl) ?_)))))
     obtain⟨x28,k,h2l⟩:=ag h2l
     refine gu [0] (pp x19 (w64 (x19+x14)) x1 x2 x21 v3 _ k) (fun q C' hq=>?_)
     obtain⟨rfl,rfl⟩:=hq
     exact⟨x28,h2l,atOk⟩
    refine au ?_
    exact⟨x21,h2l,atOk⟩
   refine dq (fun m e C=>∃x19,∃x20,∃x21,ez (fun s=>dc x1 x14 x2 s.1 s.2.1 s.2.2) m (x19,x20,x21)=some z5l/\At [(0,Pi v3),(1,P6 x1),(2,d9 Tryz.prog (g8 x2)),(6,P6 x14),(7,P6 x19),(8,P6 x20)] [E1 v3 ak x21 47] e C) n5 ⟨0,w64 (2 * x14),x15,hN5,⟨⟨aa,aa,aa,aa,aa,aa,tv⟩,A8.refl _⟩⟩ ?_
   rintro m e C ⟨x19,x20,x21,hN5,a⟩
   refine W_at a ?_
   obtain⟨m5,w5l,rfl,h5l,hn5,ho5⟩:=bc hN5
   replace h5l:dc x1 x14 x2 x19 x20 x21=some w5l:=h5l
   unfold dc at h5l
   refine a6 (W_rs (kMv rfl (kMv rfl (kIn rfl rfl rfl ?_))))
   refine a5 h5l rfl (fun _ h5l=>?_) (fun _ h5l=>?_)
   ·refine au (az (W_rs (kMv rfl (kMv rfl (kMv rfl (kMv rfl (kIn rfl rfl rfl (kMv rfl (kUn (hMv (out:=d9 Tryz.prog (g8 x2)) rfl) ?_)))))))))
    obtain⟨x26,k,h5l⟩:=ag h5l
    refine gu [0] (pp x19 (w64 (x19+x14)) x20 x2 x21 v3 _ k) (fun q C' hq=>?_)
    obtain⟨rfl,rfl⟩:=hq
    refine W_rs (kMv rfl (kAs rfl (W_r (kMv rfl (kMv rfl (kIn rfl rfl rfl (kIn rfl rfl rfl (kAs rfl ?_))))))))
    exact⟨m5,lsu,x20,w64 (x20+(w64 (2 * x14))),x26,hn5 _ (ojs h5l),atOk⟩
   refine dp ?_
   obtain rfl:=ho5 _ (ojs h5l)
   exact⟨x19,x21,h2l,atOk⟩
  refine dp ?_
  obtain rfl:=ho2 _ (ojs h2l)
  exact⟨x15,h,atOk⟩
 refine dq (fun m e C=>∃x5,∃x6,∃x7,ez (fun s=>cu x1 x2 s.1 s.2.1 s.2.2) m (x5,x6,x7)=some z7l/\At [(0,Pi v3),(1,P6 x1),(2,d9 Tryz.prog (g8 x2)),(6,P6 20),(7,P6 x5),(8,P6 x6)] [E1 v3 ak x7 47] e C) n7 ⟨0,20,x4,hN7,⟨⟨aa,aa,aa,aa,aa,aa,tv⟩,A8.refl _⟩⟩ ?_
 rintro m e C ⟨x5,x6,x7,hN7,a⟩
 refine W_at a ?_
 obtain⟨m7,w7l,rfl,h7l,hn7,ho7⟩:=bc hN7
 replace h7l:cu x1 x2 x5 x6 x7=some w7l:=h7l
 unfold cu at h7l
 refine a6 (W_rs (kMv rfl (kMv rfl (kIn rfl rfl rfl ?_))))
 refine a5 h7l rfl (fun _ h7l=>?_) (fun _ h7l=>?_)
 ·refine au (az (W_rs (kMv rfl (kMv rfl (kMv rfl (kUn (hMv (out:=d9 Tryz.prog (g8 x2)) rfl) ?_))))))
  obtain⟨x12,k,h7l⟩:=ag h7l
  refine gu [0] (mg x5 x6 x2 x7 v3 _ k) (fun q C' hq=>?_)
  obtain⟨rfl,rfl⟩:=hq
  refine W_rs (kMv rfl (kAs rfl (W_r (kMv rfl (kMv rfl (kIn rfl rfl rfl (kAs rfl ?_)))))))
  exact⟨m7,lsu,x6,w64 (x6+20),x12,hn7 _ (ojs h7l),atOk⟩
 refine dp ?_
 obtain rfl:=ho7 _ (ojs h7l)
 exact⟨x5,x7,h,atOk⟩
theorem ua (x1:(B7->B7->Option Int)) (x3:List B7) (v2:Value) (r:(List B7)) (h:d6 x1 x3=some r):Fc 38 [Pi v2,d9 Tryz.prog (g8 x1)] [E1 v2 ak x3 47] (fun q C'=>q=bj []/\C'=[E1 v2 ak r 47]):=by
 refine gz (rs:=[]) func38 rfl ntmps38 ⟨by decide,results38⟩ dcd (fun s0=>?_)
 unfold d6 at h
 refine W_r (kMv rfl (kMv rfl (kUn (awk 0 rfl underlying27) ?_)))
 refine kUn (hMv (out:=d9 Tryz.prog (g8 x1)) rfl) ?_
 obtain⟨x4,k,h⟩:=ag h
 refine gu [0] (aas (x3.length:Int) x1 x3 v2 _ k) (fun q C' hq=>?_)
 obtain⟨rfl,rfl⟩:=hq
 obtain rfl:=osj h
 exact⟨.inr rfl,_,A8.refl _,_,aa,rfl,rfl⟩
end Go.Proofs.YtcndghapmoaidaaGreatDoor
