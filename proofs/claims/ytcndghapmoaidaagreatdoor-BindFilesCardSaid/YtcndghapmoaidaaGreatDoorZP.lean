/- The code comes to what these functions say (printed by wip/gen/gen.py). -/
import Derived.Test.YtcndghapmoaidaaGreatDoorZX
import Derived.Test.YtcndghapmoaidaaGreatDoorZT
set_option linter.unusedSimpArgs false
set_option linter.unusedVariables false
set_option linter.unusedSectionVars false
set_option linter.unusedSectionVars false
set_option maxRecDepth 100000
set_option maxHeartbeats 4000000
namespace Go.Proofs.YtcndghapmoaidaaGreatDoor
open Go Go.Cn Tryz
attribute [local irreducible] qx ar
theorem adq (x1 x2:Int) (x4:B4) (b3:Nat) (v5:Value) (b6:Nat) (r:B4) (h:og x1 x2 x4=some r):Fc 158 [Pr.pt b3 0,P6 x1,P6 x2] [E0 b3 a7 (D0.mk v5 (.map (some b6)) x4.m),E3 v5 af x4.l 49,D6 b6 dz Rp.bool x4.known] (fun q C'=>∃w100,q=bu []/\C'=[E0 b3 a7 (D0.mk w100 (.map (some b6)) r.m),E3 w100 af r.l 49,D6 b6 dz Rp.bool r.known]):=by
 refine ic (rs:=[]) func158 rfl ntmps158 ⟨by decide,results158⟩ dcd (fun s0=>?_)
 unfold og at h
 refine W_r (kMv rfl (kMv rfl (kMv rfl (kUn (jh st30 ⟨(B3.mk 150 0 0),⟨_,rfl,rfl,qbj⟩,⟨(B3.mk 150 x1 0),⟨_,rfl,rfl,qbj⟩,⟨(B3.mk 150 x1 x2),⟨_,rfl,rfl,qbj⟩,rfl⟩⟩⟩) ?_))))
 refine kNp rfl (kUn (ak aws) ?_)
 refine au 0 rfl rfl akt rfl sizeOf30 ?_
 refine rCtx [E0 b3 a7 (D0.mk v5 (.map (some b6)) (B3.mk 150 x1 x2)),E3 v5 af x4.l 49,D6 b6 dz Rp.bool x4.known] ?_
 obtain rfl:=osj h
 exact⟨.inr rfl,_,A8.refl _,_,aa,v5,rfl,rfl⟩
theorem ze (x1:A9) (x3:B4) (b2:Nat) (v4:Value) (b5:Nat) (r:Bool × B4) (h:nl x1 x3=some r):Fc 120 [Pr.pt b2 0,(af).val x1] [E0 b2 a7 (D0.mk v4 (.map (some b5)) x3.m),E3 v4 af x3.l 49,D6 b5 dz Rp.bool x3.known] (fun q C'=>∃w100,q=Pb r.1/\C'=[E0 b2 a7 (D0.mk w100 (.map (some b5)) r.2.m),E3 w100 af r.2.l 49,D6 b5 dz Rp.bool r.2.known]):=by
 refine ic (rs:=[4]) func120 rfl ntmps120 ⟨by decide,results120⟩ dcd (fun s0=>?_)
 let p1:=D0.mk v4 (.map (some b5)) x3.m
 let p2:=B0.mk x1.Kind x1.Owner x1.Name
 let p3:=D6 b5 dz Rp.bool (gset p2 true x3.known)
 unfold nl at h
 refine W_rs ?_
 refine rBox (R:=af) (a:=x1) rfl (fun b6=>?_)
 let p4:=E0 b6 af x1
 refine kAs rfl (W_rs (kUn (ak xa) ?_))
 refine kUn (ax 3 ty3 ft) ?_
 refine kUn (ak alp) ?_
 refine kUn (ax 3 ty9 oj) ?_
 refine kUn (ak af9) ?_
 refine kUn (ax 3 ty9 jv) ?_
 refine kUn (jh st187 ⟨(B0.mk x1.Kind [] []),⟨_,rfl,rfl,qbj⟩,⟨(B0.mk x1.Kind x1.Owner []),⟨_,rfl,rfl,qbj⟩,⟨p2,⟨_,rfl,rfl,qbj⟩,rfl⟩⟩⟩) ?_
 refine br al187 fun b7=>au 4 rfl rfl (Upd.refl _) rfl sizeOf187 (ba ?_)
 let p5:=E0 b7 dz p2
 refine bm (fun e C=>s5 x1 x3=some r/\At [(0,Pr.pt b2 0),(3,Pr.pt b6 0),(5,Pr.pt b7 0),(18,Pb (gget p2 false x3.known))] [E0 b2 a7 p1,E3 v4 af x3.l 49,D6 b5 dz Rp.bool x3.known,p4,p5] e C) ?_ ?_
 ·rintro e C ⟨h,a⟩
  refine W_at a ?_
  unfold s5 at h
  refine bc h rfl (fun _ h=>?_) (fun _ h=>?_)
  ·refine W_rs (kMv rfl (kUn (ak anx) ?_))
   refine kUn (ax 3 ty3 z0) ?_
   refine kUn (ak avc) ?_
   refine kUn (ax 3 ty3 adk) ?_
   obtain⟨x9,k,h⟩:=aj h
   refine nw [0,1,2] (adq x1.File x1.At x3 b2 v4 b5 _ k) (fun q C' hq=>?_)
   obtain⟨v10,rfl,rfl⟩:=hq
   refine rCtx [E0 b2 a7 (D0.mk v10 (.map (some b5)) x9.m),E3 v10 af x9.l 49,D6 b5 dz Rp.bool x9.known,p4,p5] ?_
   refine W_rs (kAs rfl ?_)
   obtain rfl:=osj h
   exact bj ⟨.inl rfl,_,A8.of [0,1,2] rfl,_,(aa),v10,rfl,rfl⟩
  refine aw ?_
  refine bm (fun e C=>s6 x3 x1=some r/\At [(0,Pr.pt b2 0),(3,Pr.pt b6 0)] [E0 b2 a7 p1,E3 v4 af x3.l 49,p3,p4,p5] e C) ?_ ?_
  ·rintro e C ⟨h,a⟩
   refine W_at a ?_
   unfold s6 at h
   refine bm (fun e C=>∃x11,∃v12,s7 x1 x3 x11=some r/\At [(0,Pr.pt b2 0)] [E0 b2 a7 (D0.mk v12 (.map (some b5)) x3.m),E3 v12 af x11 49,p3,p4,p5] e C) ?_ ?_
   ·rintro e C ⟨x11,v12,h,a⟩
    refine W_at a ?_
    unfold s7 at h
    refine W_rs (kAs rfl ?_)
    obtain rfl:=osj h
    exact bj ⟨.inl rfl,_,A8.of [0,1,2] rfl,_,(aa),v12,rfl,rfl⟩
   obtain⟨x11,k,h⟩:=aj h
   refine aes [0,0,2,6,14,0,32,126,255,511,1023] [[],[],[],[],[E0 b2 a7 p1],[p4],[],[],[],[],[]] hmx kr kr kr rfl ?_
   refine aq0 0 1 (out:=Pr.pt b2 0) rfl (fun C9=>gk) ?_
   refine aq0 1 3 (out:=Pr.pt b2 0) rfl (fun C9=>gk) ?_
   refine aq0 2 7 (out:=Pr.pt b2 0) rfl (fun C9=>ag1) ?_
   refine aq0 3 15 (out:=Pr.pt b2 0) rfl (fun C9=>(ak ajz)) ?_
   refine aq1 4 31 0 (out:=Pi v4) rfl rfl (fun C9 i9 h9=>(aaa (R:=a7) (a:=p1) i9 ty38 zd (hi:=h9))) ?_
   refine aq1 5 63 3 (out:=(af).val x1) rfl rfl (fun C9 i9 h9=>(ax (R:=af) (a:=x1) (R':=af) i9 ty49 (Sub.refl _) (hi:=h9))) ?_
   refine aq0 6 127 (out:=ar af ([x1]:List A9)) rfl (fun C9=>(c5 (R:=af) (a:=x1) el38 nb)) ?_
   refine ae 7 255 rfl (fun g9=>?_)
   refine gq 1 el38 k (fun v12=>?_)
   refine pp _ [] ga ?_
   refine aq0 8 511 (out:=Pr.pt b2 0) rfl (fun C9=>ag1) ?_
   refine aq0 9 1023 (out:=Pr.pt b2 0) rfl (fun C9=>(ak ajz)) ?_
   refine ae 10 2047 rfl (fun g9=>?_)
   refine ahd (R:=a7) (a:=p1) 0 1 sizeOf38 aef ?_
   refine rCtx [E0 b2 a7 (D0.mk v12 (.map (some b5)) x3.m),E3 v12 af x11 49,p3,p4,p5] ?_
   refine pp .any [] ga ?_
   refine agu ?_
   exact⟨x11,v12,h,atOk⟩
  refine mh 5 hmx kr kr ?_
  refine lUn (hMvA rfl) (lUn (ag1 rfl) (lUn (ak awt) ?_))
  refine lUn (aaa (R:=a7) (a:=p1) 0 ty116 zk) ?_
  refine lUn (ax 4 ty187 (Sub.refl _)) ?_
  refine a0p (Rk:=dz) (R:=Rp.bool) (m:=x3.known) (kx:=p2) (v:=true) 2 aoq underlying116 ?_
  exact⟨h,atOk⟩
 refine mh 6 hmx kr kr ?_
 refine lUn (hMvA rfl) (lUn (ag1 rfl) (lUn (ak awt) ?_))
 refine lUn (aaa (R:=a7) (a:=p1) 0 ty116 zk) ?_
 refine lUn (ax 4 ty187 (Sub.refl _)) ?_
 refine lUn (a0q (Rk:=dz) (R:=Rp.bool) (m:=x3.known) (kx:=p2) (z:=false) 2 aoq underlying116 zeroValue4 (fun _=>rfl)) ?_
 exact⟨h,atOk⟩
theorem afd (x1:Bt) (r:Bt) (h:tj x1=some r):Fp 121 [Pr.str x1] (Pr.str r):=by
 refine dr (rs:=[2]) func121 rfl ntmps121 ⟨by decide,results121⟩ dcd (fun s0=>?_)
 unfold tj at h
 refine W_rs (kAs rfl (W_rs (kMv rfl (kAs rfl ?_))))
 obtain rfl:=osj h
 exact bj ⟨rfl,aa⟩
theorem afb (x1 x2:Bt) (r:Bt) (h:xg x1 x2=some r):Fp 122 [Pr.str x1,Pr.str x2] (Pr.str r):=by
 refine dr (rs:=[4]) func122 rfl ntmps122 ⟨by decide,results122⟩ dcd (fun s0=>?_)
 unfold xg at h
 refine W_rs (kAs rfl (W_rs (kMv rfl ?_)))
 obtain⟨x3,k,h⟩:=aj h
 refine kUn (ald k) ?_
 refine kMv rfl ?_
 obtain⟨x4,k,h⟩:=aj h
 refine kUn (ald k) ?_
 refine kAs rfl ?_
 obtain rfl:=osj h
 exact bj ⟨rfl,aa⟩
theorem adm (x1 x2:Bt) (r:Bt) (h:tu x1 x2=some r):Fp 76 [Pr.str x1,Pr.str x2] (Pr.str r):=by
 refine dr (rs:=[4]) func76 rfl ntmps76 ⟨by decide,results76⟩ dcd (fun s0=>?_)
 unfold tu at h
 refine W_rs (kAs rfl (W_rs (kMv rfl (kMv rfl (c8 h (afb x1 x2) rfl fun x3 _ h=>?_)))))
 obtain⟨x4,k,h⟩:=aj h
 refine kUn (ald k) ?_
 refine kAs rfl ?_
 obtain rfl:=osj h
 exact bj ⟨rfl,aa⟩
theorem af3 (x1:Int) (r:Bt) (h:o4 x1=some r):Fp 163 [P6 x1] (Pr.str r):=by
 refine dr (rs:=[2]) func163 rfl ntmps163 ⟨by decide,results163⟩ dcd (fun s0=>?_)
 unfold o4 at h
 refine W_rs (kAs rfl (W_rs (kMv rfl (c8 h (ab6 x1 10) rfl fun x2 _ h=>kAs rfl ?_))))
 obtain rfl:=osj h
 exact bj ⟨rfl,aa⟩
theorem ao1 (x1:Int) (r:Bt) (h:adz x1=some r):Fp 128 [P6 x1] (Pr.str r):=by
 refine dr (rs:=[2]) func128 rfl ntmps128 ⟨by decide,results128⟩ dcd (fun s0=>?_)
 unfold adz at h
 refine W_rs (kAs rfl (W_rs (kMv rfl (c8 h (af3 x1) rfl fun x2 _ h=>kAs rfl ?_))))
 obtain rfl:=osj h
 exact bj ⟨rfl,aa⟩
theorem afa (x1:Bt) (x2:Int) (r:Bt) (h:ti x1 x2=some r):Fp 75 [Pr.str x1,P6 x2] (Pr.str r):=by
 refine dr (rs:=[4]) func75 rfl ntmps75 ⟨by decide,results75⟩ dcd (fun s0=>?_)
 unfold ti at h
 refine W_rs (kAs rfl (W_rs (kMv rfl ?_)))
 obtain⟨x3,k,h⟩:=aj h
 refine kUn (ald k) ?_
 refine kMv rfl (kUn (qMax (a:=x2) (b:=0)) ?_)
 refine c8 h (ao1 (if 0>x2 then 0 else x2)) rfl fun x4 _ h=>?_
 obtain⟨x5,k,h⟩:=aj h
 refine kUn (ald k) ?_
 refine kAs rfl ?_
 obtain rfl:=osj h
 exact bj ⟨rfl,aa⟩
theorem agr (x1:B5) (x3:List A9) (x6:A9) (b2:Nat) (v4:Value) (b5:Nat) (v7:Value) (r:(List A9) × A9) (h:mj x1 x3 x6=some r):Fc 159 [(ag).val x1,Pr.pt b2 0,Pr.pt b5 0] [A4.cell b2 (Pi v4),E3 v4 af x3 49,E0 b5 bk (D3.mk x6.Kind x6.Id x6.Name x6.Owner x6.Type_ x6.Static v7 x6.File x6.At),E3 v7 Rp.str x6.Params 9] (fun q C'=>∃w0 w201,q=bu []/\C'=[A4.cell b2 (Pi w0),E3 w0 af r.1 49,E0 b5 bk (D3.mk r.2.Kind r.2.Id r.2.Name r.2.Owner r.2.Type_ r.2.Static w201 r.2.File r.2.At),E3 w201 Rp.str r.2.Params 9]):=by
 refine ic (rs:=[]) func159 rfl ntmps159 ⟨by decide,results159⟩ dcd (fun s0=>?_)
 unfold mj at h
 refine W_rs ?_
 refine rBox (R:=ag) (a:=x1) rfl (fun b8=>?_)
 refine mh 18 hmx kr kr ?_
 refine lUn (av9 0 Tryz.isAgg38) ?_
 refine lUn (ak ra) ?_
 refine lUn (ax 2 ty9 sn) ?_
 refine lUn (av9 0 Tryz.isAgg38) ?_
 refine lUn (ax1 1 rfl underlying38) ?_
 obtain⟨x9,k,h⟩:=aj h
 let p1:=A9.mk 4 x9 x1.Text x6.Id x1.Type_ false [] x6.File x1.At
 refine lUn (dv (afa x6.Id (x3.length:Int) _ k)) ?_
 refine lUn (ak gz) ?_
 refine lUn (ax 4 ty9 cc) ?_
 refine lUn (ak ra) ?_
 refine lUn (ax 2 ty9 sn) ?_
 refine lUn (ak zn) ?_
 refine lUn (ax 4 ty9 iu) ?_
 refine lUn (ak anx) ?_
 refine lUn (ax 2 ty3 ab9) ?_
 refine lUn (ak tf) ?_
 refine lUn (ax 4 ty3 jl) ?_
 refine lUn (jh st49 ⟨(A9.mk 4 [] [] [] [] false [] 0 0),⟨_,rfl,rfl,qbj⟩,⟨(A9.mk 4 x9 [] [] [] false [] 0 0),⟨_,rfl,rfl,qbj⟩,⟨(A9.mk 4 x9 x1.Text [] [] false [] 0 0),⟨_,rfl,rfl,qbj⟩,⟨(A9.mk 4 x9 x1.Text x6.Id [] false [] 0 0),⟨_,rfl,rfl,qbj⟩,⟨(A9.mk 4 x9 x1.Text x6.Id x1.Type_ false [] 0 0),⟨_,rfl,rfl,qbj⟩,⟨(A9.mk 4 x9 x1.Text x6.Id x1.Type_ false [] x6.File 0),⟨_,rfl,rfl,qbj⟩,⟨p1,⟨_,rfl,rfl,qbj⟩,rfl⟩⟩⟩⟩⟩⟩⟩) ?_
 refine lUn (c5 (R:=af) (a:=p1) el38 nb) ?_
 obtain⟨x10,k,h⟩:=aj h
 refine gq 1 el38 k (fun v11=>?_)
 refine arq 0 1 sizeOf38 ?_
 obtain rfl:=osj h
 exact⟨.inr rfl,_,A8.of [0,1,2,3] rfl,_,aa,v11,v7,rfl,rfl⟩
def aej {σ:Type} (yld:σ->B5->Option (Bool × σ)) (Y:YI σ) (l:Nat) (R:kc σ):Prop:=∀(x1:B5) (x2:σ) (v3:List Nat) (r:Bool × (σ)),R x1 x2=some r->Fc 184 [(ag).val x1,adu l] [D8 Y x2 v3] (fun q C'=>∃w9,q=Pb r.1/\C'=[D8 Y r.2 w9])
theorem am2 {σ:Type} (yld:σ->B5->Option (Bool × σ)) (Y:YI σ) (l:Nat) (hY:YOK Tryz.prog Y l (fun a=>[(ag).val a]) yld) (R:kc σ) (ih:aej yld Y l R) (x1:B5) (x2:σ) (v3:List Nat) (r:Bool × (σ)) (h:adj yld R x1 x2=some r):Fc 184 [(ag).val x1,adu l] [D8 Y x2 v3] (fun q C'=>∃w9,q=Pb r.1/\C'=[D8 Y r.2 w9]):=by
 refine ic (rs:=[4]) func184 rfl ntmps184 ⟨by decide,results184⟩ dcd (fun s0=>?_)
 unfold adj at h
 refine W_rs ?_
 refine rBox (R:=ag) (a:=x1) rfl (fun b4=>?_)
 refine kAs rfl (ba (W_rs (kUn (hMv (out:=adu l) rfl) (kUn (ax 1 ty64 (Sub.refl _)) ?_))))
 obtain⟨⟨x5,x6⟩,k,h⟩:=aj h
 refine aya 0 (a:=(x1)) hY k (fun v7=>?_)
 refine kNo rfl ?_
 refine bc h rfl (fun _ h=>?_) (fun _ h=>?_)
 ·refine W_rs (kAs rfl ?_)
  obtain rfl:=osj h
  exact bj ⟨.inl rfl,_,A8.of [0] rfl,_,(aa),v7,rfl,rfl⟩
 refine aw (ba (W_rs (kUn (ak q9) ?_)))
 refine kUn (ax 1 ty53 d6) ?_
 refine kUn (ma rfl underlying53) ?_
 refine kMv rfl (ay ?_)
 obtain⟨z2l,hz2,h⟩:=aj h
 obtain⟨n2,hN2⟩:=bt hz2
 refine dl 0 (fun e C=>∃x10,∃v11,aht yld R x10=some r/\At [] [D8 Y x10 v11,E0 b4 ag x1] e C) ?_ ?_
 ·rintro e C ⟨x10,v11,h,a⟩
  refine W_at a ?_
  unfold aht at h
  refine W_rs (kAs rfl ?_)
  obtain rfl:=osj h
  exact bj ⟨.inl rfl,_,A8.of [0] rfl,_,(aa),v11,rfl,rfl⟩
 refine fb (fun m e C=>∃x9,∃x10,∃v11,fp (fun s=>q7 yld R x1 s.1 s.2) m (x9,x10)=some z2l/\At [(1,adu l),(12,ar ag x1.Kids),(13,P6 (x1.Kids.length:Int)),(14,P6 x9)] [D8 Y x10 v11,E0 b4 ag x1] e C) n2 ⟨0,x6,v7,hN2,⟨⟨aa,aa,aa,aa,tv⟩,A8.refl _⟩⟩ ?_
 rintro m e C ⟨x9,x10,v11,hN2,a⟩
 refine W_at a ?_
 obtain⟨m2,w2l,rfl,h2l,hn2,ho2⟩:=bl hN2
 replace h2l:q7 yld R x1 x9 x10=some w2l:=h2l
 unfold q7 at h2l
 refine W_rs (kIn rfl rfl rfl (ba ?_))
 refine bc h2l rfl (fun _ h2l=>?_) (fun _ h2l=>?_)
 ·refine aw (ba (ay (W_rs ?_)))
  obtain⟨x16,k,h2l⟩:=aj h2l
  refine kUn (gu underlying53 sizeOf64 k) ?_
  refine kUn (dn ty64) ?_
  refine br al64 fun b17=>au 2 rfl rfl (Upd.refl _) rfl sizeOf64 (W_rs (kUn (ax 2 ty64 (Sub.refl _)) ?_))
  refine kUn (hMv (out:=adu l) rfl) ?_
  obtain⟨⟨x18,x19⟩,k,h2l⟩:=aj h2l
  refine nw [0] (ih x16 x10 v11 _ k) (fun q C' hq=>?_)
  obtain⟨v20,rfl,rfl⟩:=hq
  refine kNo rfl ?_
  refine bc h2l rfl (fun _ h2l=>?_) (fun _ h2l=>?_)
  ·refine W_rs (kAs rfl ?_)
   obtain rfl:=ho2 _ (ojs h2l)
   replace h:some (false,x19)=some r:=h
   obtain rfl:=osj h
   exact bj ⟨.inl rfl,_,A8.of [0] rfl,_,(aa),v20,rfl,rfl⟩
  refine aw (W_r (kIn rfl rfl rfl (kMv rfl ?_)))
  exact⟨m2,lsu,w64 (x9+1),x19,v20,hn2 _ (ojs h2l),⟨⟨aa,aa,aa,aa,tv⟩,A8.of [0,1] rfl⟩⟩
 refine ep ?_
 obtain rfl:=ho2 _ (ojs h2l)
 exact⟨x10,v11,h,atOk⟩
theorem am0 {σ:Type} (yld:σ->B5->Option (Bool × σ)) (Y:YI σ) (l:Nat) (hY:YOK Tryz.prog Y l (fun a=>[(ag).val a]) yld):∀n,aej yld Y l (md yld n):=by
 intro n
 induction n with
 |zero=>exact(fun x1 x2 v3 r h=>nomatch (show none=some r from h))
 |succ n ih=>exact(fun x1 x2 v3 r h=>am2 yld Y l hY (md yld n) ih x1 x2 v3 r h)
theorem auc {σ:Type} (yld:σ->B5->Option (Bool × σ)) (Y:YI σ) (l:Nat) (hY:YOK Tryz.prog Y l (fun a=>[(ag).val a]) yld) (x1:B5) (x2:σ) (v3:List Nat) (r:Bool × (σ)) (h:aob yld x1 x2=some r):Fc 184 [(ag).val x1,adu l] [D8 Y x2 v3] (fun q C'=>∃w9,q=Pb r.1/\C'=[D8 Y r.2 w9]):=am0 yld Y l hY 1048576 x1 x2 v3 r h
theorem apg {σ:Type} (yld:σ->B5->Option (Bool × σ)) (Y:YI σ) (l:Nat) (hY:YOK Tryz.prog Y l (fun a=>[(ag).val a]) yld) (x2:B5) (x3:σ) (b1:Nat) (v4:List Nat) (r:B5 × (σ)) (h:aeb yld x2 x3=some r):Fc 183 ([]++[adu l]++[Pr.pt b1 0]) ([E0 b1 ag x2]++[D8 Y x3 v4]) (fun _ C'=>∃w9,C'=[E0 b1 ag r.1]++[D8 Y r.2 w9]):=by
 refine ic (rs:=[]) func183 rfl ntmps183 ⟨by decide,results183⟩ dcd (fun s0=>?_)
 unfold aeb at h
 refine W_r (kUn (ax 0 ty64 (Sub.refl _)) ?_)
 refine kUn (hMv (out:=adu l) rfl) ?_
 obtain⟨⟨x5,x6⟩,k,h⟩:=aj h
 refine nw [1] (auc yld Y l hY x2 x3 v4 _ k) (fun q C' hq=>?_)
 obtain⟨v7,rfl,rfl⟩:=hq
 obtain rfl:=osj h
 exact⟨.inr rfl,_,A8.of [1,0] rfl,_,aa,v7,rfl⟩
theorem as1 (x1:B5):Fc 175 [(ag).val x1] [] (fun q C'=>∃b2,q=sk 183 [] [Pr.pt b2 0]/\C'=[E0 b2 ag x1]):=by
 refine ic (rs:=[2]) func175 rfl ntmps175 ⟨by decide,results175⟩ dcd (fun s0=>?_)
 refine W_rs ?_
 refine rBox (R:=ag) (a:=x1) rfl (fun b2=>?_)
 refine kAs rfl (W_rs (kUn tg ?_))
 refine kUn (hAs (out:=sk 183 [] [Pr.pt b2 0]) rfl) ?_
 exact bj ⟨.inl rfl,_,A8.refl _,_,aa,b2,rfl,rfl⟩
theorem avv (x1:B5) (x2:Int) (r:(List B5)) (h:ajx x1 x2=some r):Fp 160 [(ag).val x1,P6 x2] (ar ag r):=by
 refine dr (rs:=[4]) func160 rfl ntmps160 ⟨by decide,results160⟩ dcd (fun s0=>?_)
 unfold ajx at h
 refine W_rs ?_
 refine rBox (R:=ag) (a:=x1) rfl (fun b3=>?_)
 refine rBox (R:=Rp.int .i64) (a:=x2) rfl (fun b4=>?_)
 refine kAs rfl (W_rs ?_)
 refine ayr zeroValue53 rfl rfl (fun b5=>?_)
 refine a0b ?_
 refine W_r (kUn (ax 0 ty64 (Sub.refl _)) ?_)
 refine nw [] (as1 x1) (fun q C' hq=>?_)
 obtain⟨b6,rfl,rfl⟩:=hq
 refine⟨rfl,?_⟩
 obtain⟨⟨x496,x497⟩,k,h⟩:=aj h
 refine WR_vec ag 64 ?_
 refine W_range [0] (fun(s:(List B5)) C=>∃v8,C=[E0 b3 ag x1,E0 b4 (Rp.int .i64) x2,A4.cell b5 (Pi v8),E3 v8 ag s 64]) (encs:=(fun(a:B5)=>[(ag).val a])) (yld:=(fun(s:(List B5)) (a:B5)=>ada x2 s a)) (st0:=[]) (stF:=x497) (Ccap':=[E0 b6 ag x496]) (fun l Y L hY=>apg _ Y l hY x1 [] b6 L _ k) ⟨(.slice none 0 0),rfl⟩ (fun _=>rfl) ?_ ?_ (fun _ _ _ h=>h.1)
 ·rintro l x9 x7 ⟨rb1,rs1⟩ C T s0 ⟨v8,rfl⟩ hy1
  replace hy1:ada x2 x9 x7=some (rb1,rs1):=hy1
  unfold ada at hy1
  refine W_r (br al64 fun b12=>au 4 rfl rfl (Upd.refl _) rfl sizeOf64 ?_)
  refine⟨rfl,fun T s0=>?_⟩
  refine an3 ?_
  refine ay ?_
  refine bm (fun e C=>∃x14,adb x9 x7 x14=some (rb1,rs1)/\At [(5,Pr.pt b5 0),(6,Pr.pt b12 0),(17,Pb x14)] [E0 b3 ag x1,E0 b4 (Rp.int .i64) x2,A4.cell b5 (Pi v8),E3 v8 ag x9 64,E0 b12 ag x7] e C) ?_ ?_
  ·rintro e C ⟨x14,hy1,a⟩
   refine W_at a ?_
   unfold adb at hy1
   refine bc hy1 rfl (fun _ hy1=>?_) (fun _ hy1=>?_)
   ·obtain⟨x256,hx256,hy1⟩:=aj hy1
    obtain⟨x316,k,hy1⟩:=aj hy1
    refine aes [0,0,1,0,15,31,63,31] [[A4.cell b5 (Pi v8)],[E0 b12 ag x7],[E3 v8 ag x9 64],[],[],[],[],[]] hmx kr kr kr rfl ?_
    refine aq1 0 1 2 (out:=Pi v8) rfl rfl (fun C9 i9 h9=>(av9 i9 Tryz.isAgg53 (hi:=h9))) ?_
    refine aq1 1 3 4 (out:=(ag).val x7) rfl rfl (fun C9 i9 h9=>(ax (R:=ag) (a:=x7) (R':=ag) i9 ty64 (Sub.refl _) (hi:=h9))) ?_
    refine aq1 2 7 3 (out:=P6 (x9.length:Int)) rfl rfl (fun C9 i9 h9=>(ax1 i9 rfl underlying53 (hi:=h9))) ?_
    refine aq0 3 15 (out:=ar ag ([(B5.mk 0 [] [] 0 0 0 0 0 [])]:List B5)) rfl (fun C9=>((a0s (R:=ag) (z:=(B5.mk 0 [] [] 0 0 0 0 0 [])) el53 nb rfl rfl dcd (fun _=>(by rw[a8];exact⟨_,⟨_,_,rfl,rfl,⟨_,_,rfl,rfl,⟨_,_,rfl,rfl,⟨_,_,rfl,rfl,⟨_,_,rfl,rfl,⟨_,_,rfl,rfl,⟨_,_,rfl,rfl,⟨_,_,rfl,rfl,⟨_,_,rfl,⟨_,rfl,none,0,rfl,⟨Nat.le_refl _,fun _=>rfl⟩,.inl rfl⟩,rfl⟩⟩⟩⟩⟩⟩⟩⟩⟩,rfl⟩))).out_le vx_lst)) ?_
    refine ae 4 31 rfl (fun g9=>?_)
    refine gq 3 el53 hx256 (fun v257=>?_)
    refine pp _ [] ga ?_
    refine a_any [5,7] ⟨?_,?_,tv⟩
    ·skip
     refine ae1 5 63 rfl (fun g9=>?_)
     refine kUn (yf 3 (R:=ag) (l:=x256) underlying53 sizeOf64 k) ?_
     refine pp _ [] ga ?_
     refine a_any [6,7] ⟨?_,?_,tv⟩
     ·refine ae1 6 127 rfl (fun g9=>?_)
      refine acz (R:=ag) (R':=ag) (l:=x256) (a:=x316) (y:=x7) (o:=0) 3 sizeOf64 (Upd.refl _) k rfl ?_
      refine pp .any [] ga ?_
      refine ae 7 255 rfl (fun g9=>?_)
      refine arq 2 3 sizeOf53 ?_
      refine pp .any [] ga ?_
      refine agu ?_
      obtain⟨rfl,rfl⟩:=Prod.mk.inj (Option.some.inj hy1)
      exact⟨_,A8.of [0,1,2,3] rfl,rfl,rfl,v257,rfl⟩
     refine ae1 7 191 rfl (fun g9=>?_)
     refine arq 2 3 sizeOf53 ?_
     refine pp .any [] ga ?_
     refine ae 6 255 rfl (fun g9=>?_)
     refine acz (R:=ag) (R':=ag) (l:=x256) (a:=x316) (y:=x7) (o:=0) 3 sizeOf64 (Upd.refl _) k rfl ?_
     refine pp .any [] ga ?_
     refine agu ?_
     obtain⟨rfl,rfl⟩:=Prod.mk.inj (Option.some.inj hy1)
     exact⟨_,A8.of [0,1,2,3] rfl,rfl,rfl,v257,rfl⟩
    refine ae1 7 159 rfl (fun g9=>?_)
    refine arq 2 3 sizeOf53 ?_
    refine pp .any [] ga ?_
    refine ae 5 191 rfl (fun g9=>?_)
    refine kUn (yf 3 (R:=ag) (l:=x256) underlying53 sizeOf64 k) ?_
    refine pp _ [] ga ?_
    refine ae 6 255 rfl (fun g9=>?_)
    refine acz (R:=ag) (R':=ag) (l:=x256) (a:=x316) (y:=x7) (o:=0) 3 sizeOf64 (Upd.refl _) k rfl ?_
    refine pp .any [] ga ?_
    refine agu ?_
    obtain⟨rfl,rfl⟩:=Prod.mk.inj (Option.some.inj hy1)
    exact⟨_,A8.of [0,1,2,3] rfl,rfl,rfl,v257,rfl⟩
   refine aw ?_
   obtain⟨rfl,rfl⟩:=Prod.mk.inj (Option.some.inj hy1)
   exact⟨_,A8.of [0,1,2,3] rfl,rfl,rfl,v8,rfl⟩
  refine W_r (kUn (ax 1 ty3 (Sub.refl _)) ?_)
  refine kIn rfl rfl rfl (kMv rfl ?_)
  rcases cg hy1 with⟨hc13,hy1⟩|⟨hc13,hy1⟩
  ·refine skx ?_
   refine kPt rfl hc13 rfl ?_
   exact⟨true,hy1,atOk⟩
  refine kGd rfl aa hc13 (ak ig) ?_
  refine kGd rfl aa hc13 (ax 4 ty3 bq) ?_
  refine kGd rfl aa hc13 (ax 1 ty3 (Sub.refl _)) ?_
  refine kGd rfl aa hc13 (qInt rfl rfl rfl) (kPf rfl hc13 rfl ?_)
  exact⟨x7.Kind==x2,hy1,atOk⟩
 rintro D C' T s0 ⟨v8,rfl⟩
 refine W_rs (kUn (av9 3 Tryz.isAgg53) ?_)
 refine kAs rfl ?_
 refine apq 4 [4] ?_ rfl ⟨rfl,tv⟩
 obtain rfl:=osj h
 exact bj ⟨rfl,aa⟩
def acd (R:fu):Prop:=(∀(x1:B5) (x3:SMap Bool) (b2:Nat) (r:B5 × Bool),R x1 x3=some r->Fc 161 [(ag).val x1,pr b2] [D9 b2 Rp.bool x3] (fun q C'=>q=bu [(ag).val r.1,Pb r.2]/\C'=[D9 b2 Rp.bool x3]))
theorem alb (R:fu) (ih:acd R) (x1:B5) (x3:SMap Bool) (b2:Nat) (r:B5 × Bool) (h:y0 R x1 x3=some r):Fc 161 [(ag).val x1,pr b2] [D9 b2 Rp.bool x3] (fun q C'=>q=bu [(ag).val r.1,Pb r.2]/\C'=[D9 b2 Rp.bool x3]):=by
 refine aq6 (rs:=[.cell 4 64,.tmp 5]) func161 rfl ntmps161 results161 dcd (fun s0=>?_)
 let p1:=B5.mk 0 [] [] 0 0 0 0 0 []
 let p2:=D9 b2 Rp.bool x3
 unfold y0 at h
 refine W_rs ?_
 refine rBox (R:=ag) (a:=x1) rfl (fun b4=>?_)
 let p3:=E0 b4 ag x1
 refine br al64 fun b5=>kAs rfl (W_rs (kUn (hMv (out:=pr b2) rfl) ?_))
 let p4:=E0 b5 ag p1
 obtain⟨x6,k,h⟩:=aj h
 refine nw [0] (as2 x3 b2 _ k) (fun q C' hq=>?_)
 obtain⟨b7,rfl,rfl⟩:=hq
 refine kUn (hAs (out:=pr b7) rfl) (ba (W_rs (kUn (ak q9) ?_)))
 refine kUn (ax 2 ty53 d6) ?_
 refine kUn (ma rfl underlying53) ?_
 refine kMv rfl (ay ?_)
 obtain⟨z2l,hz2,h⟩:=aj h
 obtain⟨n2,hN2⟩:=bt hz2
 refine dl 0 (fun e C=>∃x9,ae8 R x9=some r/\At [(1,pr b2),(4,Pr.pt b5 0)] [D9 b7 Rp.bool x9,p2,p3,p4] e C) ?_ ?_
 ·rintro e C ⟨x9,h,a⟩
  refine W_at a ?_
  unfold ae8 at h
  refine W_rs (kUn (ev a8 st64 rfl) ?_)
  refine au 3 rfl rfl (Upd.refl _) rfl sizeOf64 (kAs rfl ?_)
  obtain rfl:=osj h
  exact bj ⟨.inl rfl,[(ag).val p1,Pb false],⟨yBox 3 ty64 aa,yT aa,tv⟩,_,A8.of [1] rfl,rfl,rfl⟩
 refine fb (fun m e C=>∃x8,∃x9,fp (fun s=>mz R x1 s.1 s.2) m (x8,x9)=some z2l/\At [(1,pr b2),(4,Pr.pt b5 0),(6,pr b7),(15,ar ag x1.Kids),(16,P6 (x1.Kids.length:Int)),(17,P6 x8)] [D9 b7 Rp.bool x9,p2,p3,p4] e C) n2 ⟨0,x6,hN2,⟨⟨aa,aa,aa,aa,aa,aa,tv⟩,A8.refl _⟩⟩ ?_
 rintro m e C ⟨x8,x9,hN2,a⟩
 refine W_at a ?_
 obtain⟨m2,w2l,rfl,h2l,hn2,ho2⟩:=bl hN2
 replace h2l:mz R x1 x8 x9=some w2l:=h2l
 unfold mz at h2l
 refine W_rs (kIn rfl rfl rfl (ba ?_))
 refine bc h2l rfl (fun _ h2l=>?_) (fun _ h2l=>?_)
 ·refine aw ?_
  refine bm (fun e C=>∃x25,∃x13,∃x20,∃b14,∃b22,wk R x8 x25 x13 x20=some w2l/\At [(1,pr b2),(4,Pr.pt b5 0),(6,pr b7),(15,ar ag x1.Kids),(16,P6 (x1.Kids.length:Int)),(17,P6 x8)] [D9 b7 Rp.bool x25,p2,p3,p4,E0 b14 ag x13,E0 b22 ag x20] e C) ?_ ?_
  ·rintro e C ⟨x25,x13,x20,b14,b22,h2l,a⟩
   refine W_at a ?_
   unfold wk at h2l
   refine W_r (kIn rfl rfl rfl (kMv rfl ?_))
   exact⟨m2,lsu,w64 (x8+1),x25,hn2 _ (ojs h2l),⟨⟨aa,aa,aa,aa,aa,aa,tv⟩,A8.of [0,1,2,3] rfl⟩⟩
  refine ay (W_rs ?_)
  obtain⟨x13,k,h2l⟩:=aj h2l
  refine kUn (gu underlying53 sizeOf64 k) ?_
  refine kUn (dn ty64) ?_
  refine br al64 fun b14=>au 4 rfl rfl (Upd.refl _) rfl sizeOf64 ?_
  refine bm (fun e C=>∃x16,sh R x13 x9 x8 x16=some w2l/\At [(1,pr b2),(4,Pr.pt b5 0),(6,pr b7),(8,Pr.pt b14 0),(9,Pb x16),(15,ar ag x1.Kids),(16,P6 (x1.Kids.length:Int)),(17,P6 x8)] [D9 b7 Rp.bool x9,p2,p3,p4,E0 b14 ag x13] e C) ?_ ?_
  ·rintro e C ⟨x16,h2l,a⟩
   refine W_at a ?_
   unfold sh at h2l
   refine ba ?_
   refine bm (fun e C=>∃x18,wj R x13 x9 x16 x8 x18=some w2l/\At [(1,pr b2),(4,Pr.pt b5 0),(6,pr b7),(8,Pr.pt b14 0),(9,Pb x16),(15,ar ag x1.Kids),(16,P6 (x1.Kids.length:Int)),(17,P6 x8),(35,Pb x18)] [D9 b7 Rp.bool x9,p2,p3,p4,E0 b14 ag x13] e C) ?_ ?_
   ·rintro e C ⟨x18,h2l,a⟩
    refine W_at a ?_
    unfold wj at h2l
    refine bc h2l rfl (fun _ h2l=>?_) (fun _ h2l=>?_)
    ·refine W_rs (kUn (ax 4 ty64 (Sub.refl _)) ?_)
     refine au 3 rfl rfl (Upd.refl _) rfl sizeOf64 (kAs rfl ?_)
     obtain rfl:=ho2 _ (ojs h2l)
     replace h:some (x13,true)=some r:=h
     obtain rfl:=osj h
     exact bj ⟨.inl rfl,[(ag).val x13,Pb true],⟨yBox 3 ty64 aa,yT aa,tv⟩,_,A8.of [1] rfl,rfl,rfl⟩
    refine aw (ba (W_rs (kUn (ax 4 ty64 (Sub.refl _)) ?_)))
    refine kUn (hMv (out:=pr b7) rfl) ?_
    obtain⟨⟨x20,x21⟩,k,h2l⟩:=aj h2l
    refine nw [0] (ih x13 x9 b7 _ k) (fun q C' hq=>?_)
    obtain⟨rfl,rfl⟩:=hq
    refine kUn (hMv (out:=bu [(ag).val x20,Pb x21]) rfl) (kUn aq ?_)
    refine kUn aq ?_
    refine br al64 fun b22=>au 5 rfl rfl (Upd.refl _) rfl sizeOf64 (kAs rfl (W_rs (kMv rfl ?_)))
    refine bc h2l rfl (fun _ h2l=>?_) (fun _ h2l=>?_)
    ·refine W_rs (kUn (ax 5 ty64 (Sub.refl _)) ?_)
     refine au 3 rfl rfl (Upd.refl _) rfl sizeOf64 (kAs rfl ?_)
     obtain rfl:=ho2 _ (ojs h2l)
     replace h:some (x20,true)=some r:=h
     obtain rfl:=osj h
     exact bj ⟨.inl rfl,[(ag).val x20,Pb true],⟨yBox 3 ty64 aa,yT aa,tv⟩,_,A8.of [1] rfl,rfl,rfl⟩
    refine aw (W_rs (kMv rfl ?_))
    refine bc h2l rfl (fun _ h2l=>?_) (fun _ h2l=>?_)
    ·refine W_r (kUn (hMv (out:=pr b7) rfl) (kUn (ak gz) ?_))
     refine kUn (ax 4 ty9 cc) ?_
     refine ayp (R:=Rp.bool) (m:=x9) (kx:=x13.Text) (v:=true) 0 underlying191 underlying9 ?_
     exact⟨(mset x13.Text true x9),x13,x20,b14,b22,h2l,atOk⟩
    refine aw ?_
    exact⟨x9,x13,x20,b14,b22,h2l,atOk⟩
   refine W_r (kMv rfl (kMv rfl ?_))
   rcases cg h2l with⟨hc17,h2l⟩|⟨hc17,h2l⟩
   ·refine kGd rfl aa hc17 (hMv (out:=pr b7) rfl) (kGd rfl aa hc17 (ak gz) ?_)
    refine kGd rfl aa hc17 (ax 4 ty9 cc) ?_
    refine kGd rfl aa hc17 (ays (R:=Rp.bool) (m:=x9) (kx:=x13.Text) (z:=false) 0 underlying191 underlying9 zeroValue4 (fun _=>rfl)) ?_
    refine kPt rfl hc17 rfl ?_
    exact⟨(mget x13.Text false x9),h2l,atOk⟩
   refine skx ?_
   refine kPf rfl hc17 rfl ?_
   exact⟨false,h2l,atOk⟩
  refine W_r (kUn (ak ig) ?_)
  refine kUn (ax 4 ty3 bq) ?_
  refine kIn rfl rfl rfl (kMv rfl ?_)
  rcases cg h2l with⟨hc15,h2l⟩|⟨hc15,h2l⟩
  ·refine skx ?_
   refine kPt rfl hc15 rfl (kAs rfl ?_)
   exact⟨true,h2l,atOk⟩
  refine kGd rfl aa hc15 (ak ig) ?_
  refine kGd rfl aa hc15 (ax 4 ty3 bq) ?_
  refine kGd rfl aa hc15 (qInt rfl rfl rfl) (kPf rfl hc15 rfl (kAs rfl ?_))
  exact⟨x13.Kind==6,h2l,atOk⟩
 refine ep ?_
 obtain rfl:=ho2 _ (ojs h2l)
 exact⟨x9,h,atOk⟩
theorem ak1 :∀n,acd (jd n):=by
 intro n
 induction n with
 |zero=>exact(fun x1 x3 b2 r h=>nomatch (show none=some r from h))
 |succ n ih=>exact(fun x1 x3 b2 r h=>alb (jd n) ih x1 x3 b2 r h)
theorem aqe (x1:B5) (x3:SMap Bool) (b2:Nat) (r:B5 × Bool) (h:ajo x1 x3=some r):Fc 161 [(ag).val x1,pr b2] [D9 b2 Rp.bool x3] (fun q C'=>q=bu [(ag).val r.1,Pb r.2]/\C'=[D9 b2 Rp.bool x3]):=(ak1 1048576) x1 x3 b2 r h
end Go.Proofs.YtcndghapmoaidaaGreatDoor
set_option linter.unusedSectionVars false
set_option maxRecDepth 100000
set_option maxHeartbeats 4000000
namespace Go.Proofs.YtcndghapmoaidaaGreatDoor
open Go Go.Cn Tryz
attribute [local irreducible] qx ar
theorem aic (x1:B5) (x3:B4) (x6:A9) (b2:Nat) (v4:Value) (b5:Nat) (v7:Value) (r:Bool × B4) (h:ot x1 x3 x6=some r):Fc 123 [Pr.pt b2 0,(bk).val (D3.mk x6.Kind x6.Id x6.Name x6.Owner x6.Type_ x6.Static v7 x6.File x6.At),(ag).val x1] [E0 b2 a7 (D0.mk v4 (.map (some b5)) x3.m),E3 v4 af x3.l 49,D6 b5 dz Rp.bool x3.known,E3 v7 Rp.str x6.Params 9] (fun q C'=>∃w100,q=Pb r.1/\C'=[E0 b2 a7 (D0.mk w100 (.map (some b5)) r.2.m),E3 w100 af r.2.l 49,D6 b5 dz Rp.bool r.2.known]):=by
 refine ic (rs:=[6]) func123 rfl ntmps123 ⟨by decide,results123⟩ dcd (fun s0=>?_)
 let p1:=E0 b2 a7 (D0.mk v4 (.map (some b5)) x3.m)
 let p2:=D3.mk x6.Kind x6.Id x6.Name x6.Owner x6.Type_ x6.Static v7 x6.File x6.At
 let p3:=E3 v4 af x3.l 49
 let p4:=D6 b5 dz Rp.bool x3.known
 unfold ot at h
 refine W_rs ?_
 refine rBox (R:=bk) (a:=p2) rfl (fun b8=>?_)
 refine rBox (R:=ag) (a:=x1) rfl (fun b9=>?_)
 let p5:=E0 b9 ag x1
 refine kAs rfl (W_rs (kUn (ak alp) ?_))
 refine kUn (ax 4 ty9 aib) ?_
 refine kUn (ak af9) ?_
 refine kUn (ax 4 ty9 ais) ?_
 refine c8 h (adm x6.Owner x6.Name) rfl fun x10 _ h=>?_
 refine kUn (ak xa) ?_
 refine au 4 rfl rfl vc rfl sizeOf3 ?_
 refine rCtx [p1,p3,p4,E3 v7 Rp.str x6.Params 9,E0 b8 bk (D3.mk 3 x6.Id x6.Name x6.Owner x6.Type_ x6.Static v7 x6.File x6.At),p5] ?_
 refine kUn (ak ra) ?_
 refine au 4 rfl rfl zc rfl sizeOf9 ?_
 refine rCtx [p1,p3,p4,E3 v7 Rp.str x6.Params 9,E0 b8 bk (D3.mk 3 x10 x6.Name x6.Owner x6.Type_ x6.Static v7 x6.File x6.At),p5] ?_
 refine W_rs ?_
 refine ayr zeroValue38 rfl rfl (fun b11=>?_)
 refine W_rs (kUn tg ?_)
 refine kUn (hAs (out:=sk 159 [] [Pr.pt b11 0,Pr.pt b8 0]) rfl) (ba (W_rs (kUn (ax 5 ty64 (Sub.refl _)) ?_)))
 refine c8 h (avv x1 0) rfl fun x12 _ h=>?_
 refine kUn (ma rfl underlying53) ?_
 refine kMv rfl (ay ?_)
 obtain⟨z6l,hz6,h⟩:=aj h
 obtain⟨n6,hN6⟩:=bt hz6
 refine dl 0 (fun e C=>∃x24,∃x14,∃x15,∃x16,∃x17,∃x18,∃x19,∃x21,∃x22,∃x25,∃v20,∃v23,o5 x1 x3 x24 x14 x15 x16 x17 x18 x19 x21 x22 x25=some r/\At [(0,Pr.pt b2 0),(1,(bk).val p2),(4,Pr.pt b8 0),(5,Pr.pt b9 0),(7,Pr.pt b11 0)] [p1,p3,p4,E3 v20 Rp.str x24 9,E0 b8 bk (D3.mk x14 x15 x16 x17 x18 x19 v20 x21 x22),p5,A4.cell b11 (Pi v23),E3 v23 af x25 49] e C) ?_ ?_
 ·rintro e C ⟨x24,x14,x15,x16,x17,x18,x19,x21,x22,x25,v20,v23,h,a⟩
  let p6:=E0 b11 (Rp.list af) x25
  let p7:=E3 v23 af x25 49
  let p8:=A4.cell b11 (Pi v23)
  refine W_at a ?_
  unfold o5 at h
  refine ba (W_rs (kUn (ak q9) ?_))
  refine kUn (ax 5 ty53 d6) ?_
  refine kUn (ma rfl underlying53) ?_
  refine kMv rfl (ay ?_)
  obtain⟨z3l,hz3,h⟩:=aj h
  obtain⟨n3,hN3⟩:=bt hz3
  refine dl 2 (fun e C=>∃x63,∃v62,o6 x14 x15 x16 x17 x18 x19 x21 x22 x3 x25 x1 x63=some r/\At [(0,Pr.pt b2 0),(1,(bk).val p2),(4,Pr.pt b8 0),(5,Pr.pt b9 0),(7,Pr.pt b11 0)] [p1,p3,p4,E3 v62 Rp.str x63 9,E0 b8 bk (D3.mk x14 x15 x16 x17 x18 x19 v62 x21 x22),p5,p8,p7] e C) ?_ ?_
  ·rintro e C ⟨x63,v62,h,a⟩
   let p9:=E0 b8 bk (D3.mk x14 x15 x16 x17 x18 x19 v62 x21 x22)
   let p10:=A9.mk x14 x15 x16 x17 x18 x19 x63 x21 x22
   refine W_at a ?_
   unfold o6 at h
   refine ba (W_rs (kMv rfl (kUn (ax 4 ty49 (Sub.refl _)) ?_)))
   obtain⟨⟨x75,x76⟩,k,h⟩:=aj h
   let p11:=D6 b5 dz Rp.bool x76.known
   refine rRelS 3 61 [] (q:=af.val p10) (fun _ _ hl=>FLe.val ⟨fl,fl,fl,fl,fl,fl,(a10 hl),fl,fl,tv⟩) ?_ rfl trivial
   refine nw [0,1,2] (ze p10 x3 b2 v4 b5 _ k) (fun q C' hq=>?_)
   obtain⟨v77,rfl,rfl⟩:=hq
   let p12:=D0.mk v77 (.map (some b5)) x76.m
   refine rCtx [E0 b2 a7 p12,E3 v77 af x76.l 49,p11,p9,p5,p8,p7] ?_
   refine kNo rfl ?_
   refine bc h rfl (fun _ h=>?_) (fun _ h=>?_)
   ·refine W_rs (kAs rfl ?_)
    obtain rfl:=osj h
    exact bj ⟨.inl rfl,_,A8.of [0,1,2] rfl,_,(aa),v77,rfl,rfl⟩
   refine aw ?_
   refine W_shutC 6 5 ?_
   refine bm (fun e C=>∃x79,∃v80,o7 x1 x21 x76 x79=some r/\At [(0,Pr.pt b2 0),(1,(bk).val p2),(4,Pr.pt b8 0),(5,Pr.pt b9 0)] [E0 b2 a7 (D0.mk v80 (.map (some b5)) x76.m),E3 v80 af x79 49,p11,p9,p5,p6] e C) ?_ ?_
   ·rintro e C ⟨x79,v80,h,a⟩
    refine W_at a ?_
    unfold o7 at h
    refine ba (W_rs (kUn (ax 4 ty64 (Sub.refl _)) ?_))
    refine awj Rp.bool (fun b81=>?_)
    obtain⟨⟨x82,x83⟩,k,h⟩:=aj h
    refine nw [6] (aqe x1 ([]:SMap Bool) b81 _ k) (fun q C' hq=>?_)
    obtain⟨rfl,rfl⟩:=hq
    refine rCtx [D9 b81 Rp.bool ([]:SMap Bool),E0 b2 a7 (D0.mk v80 (.map (some b5)) x76.m),E3 v80 af x79 49,p11,p9,p5,p6] ?_
    refine kUn (hMv (out:=bu [(ag).val x82,Pb x83]) rfl) (kUn aq ?_)
    refine kUn aq ?_
    refine br al64 fun b84=>au 7 rfl rfl (Upd.refl _) rfl sizeOf64 (kAs rfl (W_rs (kMv rfl ?_)))
    refine bc h rfl (fun _ h=>?_) (fun _ h=>?_)
    ·refine W_rs (kMv rfl (kUn (ak anx) ?_))
     refine kUn (ax 4 ty3 ab9) ?_
     refine kUn (ak tf) ?_
     refine kUn (ax 7 ty3 jl) ?_
     obtain⟨x86,k,h⟩:=aj h
     refine nw [1,2,3] (adq x21 x82.At (B4.mk x79 x76.known x76.m) b2 v80 b5 _ k) (fun q C' hq=>?_)
     obtain⟨v87,rfl,rfl⟩:=hq
     refine rCtx [E0 b2 a7 (D0.mk v87 (.map (some b5)) x86.m),E3 v87 af x86.l 49,D6 b5 dz Rp.bool x86.known,D9 b81 Rp.bool ([]:SMap Bool),p9,p5,p6,E0 b84 ag x82] ?_
     refine W_rs (kAs rfl ?_)
     obtain rfl:=osj h
     exact bj ⟨.inl rfl,_,A8.of [0,1,2] rfl,_,(aa),v87,rfl,rfl⟩
    refine aw (W_rs (kAs rfl ?_))
    obtain rfl:=osj h
    exact bj ⟨.inl rfl,_,A8.of [1,2,3] rfl,_,(aa),v80,rfl,rfl⟩
   obtain⟨x79,k,h⟩:=aj h
   refine aes [0,0,2,6,14,0,62,127,255,511] [[],[],[],[],[E0 b2 a7 p12],[p6],[],[],[],[]] hmx kr kr kr rfl ?_
   refine aq0 0 1 (out:=Pr.pt b2 0) rfl (fun C9=>gk) ?_
   refine aq0 1 3 (out:=Pr.pt b2 0) rfl (fun C9=>gk) ?_
   refine aq0 2 7 (out:=Pr.pt b2 0) rfl (fun C9=>ag1) ?_
   refine aq0 3 15 (out:=Pr.pt b2 0) rfl (fun C9=>(ak ajz)) ?_
   refine aq1 4 31 0 (out:=Pi v77) rfl rfl (fun C9 i9 h9=>(aaa (R:=a7) (a:=p12) i9 ty38 zd (hi:=h9))) ?_
   refine aq1 5 63 5 (out:=ar af x25) rfl rfl (fun C9 i9 h9=>(ax (R:=Rp.list af) (a:=x25) (R':=Rp.list af) i9 ty38 (Sub.refl _) (hi:=h9))) ?_
   refine ae 6 127 rfl (fun g9=>?_)
   refine gq 1 el38 k (fun v80=>?_)
   refine pp _ [] ga ?_
   refine aq0 7 255 (out:=Pr.pt b2 0) rfl (fun C9=>ag1) ?_
   refine aq0 8 511 (out:=Pr.pt b2 0) rfl (fun C9=>(ak ajz)) ?_
   refine ae 9 1023 rfl (fun g9=>?_)
   refine ahd (R:=a7) (a:=p12) 0 1 sizeOf38 aef ?_
   refine rCtx [E0 b2 a7 (D0.mk v80 (.map (some b5)) x76.m),E3 v80 af x79 49,p11,p9,p5,p6] ?_
   refine pp .any [] ga ?_
   refine agu ?_
   exact⟨x79,v80,h,atOk⟩
  refine fb (fun m e C=>∃x61,∃x63,∃v62,fp (fun s=>iy x1 s.1 s.2) m (x61,x63)=some z3l/\At [(0,Pr.pt b2 0),(1,(bk).val p2),(4,Pr.pt b8 0),(5,Pr.pt b9 0),(7,Pr.pt b11 0),(43,ar ag x1.Kids),(44,P6 (x1.Kids.length:Int)),(45,P6 x61)] [p1,p3,p4,E3 v62 Rp.str x63 9,E0 b8 bk (D3.mk x14 x15 x16 x17 x18 x19 v62 x21 x22),p5,p8,p7] e C) n3 ⟨0,x24,v20,hN3,⟨⟨aa,aa,aa,aa,aa,aa,aa,aa,tv⟩,A8.refl _⟩⟩ ?_
  rintro m e C ⟨x61,x63,v62,hN3,a⟩
  let p13:=D3.mk x14 x15 x16 x17 x18 x19 v62 x21 x22
  refine W_at a ?_
  obtain⟨m3,w3l,rfl,h3l,hn3,ho3⟩:=bl hN3
  replace h3l:iy x1 x61 x63=some w3l:=h3l
  unfold iy at h3l
  refine W_rs (kIn rfl rfl rfl (ba ?_))
  refine bc h3l rfl (fun _ h3l=>?_) (fun _ h3l=>?_)
  ·refine aw ?_
   refine bm (fun e C=>∃x74,∃x68,∃v73,∃b69,ln x61 x74 x68=some w3l/\At [(0,Pr.pt b2 0),(1,(bk).val p2),(4,Pr.pt b8 0),(5,Pr.pt b9 0),(7,Pr.pt b11 0),(43,ar ag x1.Kids),(44,P6 (x1.Kids.length:Int)),(45,P6 x61)] [p1,p3,p4,E3 v73 Rp.str x74 9,E0 b8 bk (D3.mk x14 x15 x16 x17 x18 x19 v73 x21 x22),p5,p8,p7,E0 b69 ag x68] e C) ?_ ?_
   ·rintro e C ⟨x74,x68,v73,b69,h3l,a⟩
    refine W_at a ?_
    unfold ln at h3l
    refine W_r (kIn rfl rfl rfl (kMv rfl ?_))
    exact⟨m3,lsu,w64 (x61+1),x74,v73,hn3 _ (ojs h3l),⟨⟨aa,aa,aa,aa,aa,aa,aa,aa,tv⟩,A8.of [0,1,2,3,4,5,6,7] rfl⟩⟩
   refine ay (W_rs ?_)
   obtain⟨x68,k,h3l⟩:=aj h3l
   refine kUn (gu underlying53 sizeOf64 k) ?_
   refine kUn (dn ty64) ?_
   refine br al64 fun b69=>au 8 rfl rfl (Upd.refl _) rfl sizeOf64 (W_rs (kUn (ak ig) ?_))
   refine kUn (ax 8 ty3 bq) ?_
   refine kIn rfl rfl rfl ?_
   refine bc h3l rfl (fun _ h3l=>?_) (fun _ h3l=>?_)
   ·refine W_r (kUn (ak alo) ?_)
    refine kUn (aaa (R:=bk) (a:=p13) 4 ty22 zl) ?_
    refine kUn (ak zn) ?_
    refine kUn (ax 8 ty9 iu) ?_
    refine kUn (c5 (R:=Rp.str) (a:=x68.Type_) el22 nb) ?_
    obtain⟨x71,k,h3l⟩:=aj h3l
    refine gq 3 el22 k (fun v72=>?_)
    refine kUn (ak alo) ?_
    refine ahd (R:=bk) (a:=p13) 4 3 sizeOf22 zj ?_
    refine rCtx [p1,p3,p4,E3 v72 Rp.str x71 9,E0 b8 bk (D3.mk x14 x15 x16 x17 x18 x19 v72 x21 x22),p5,p8,p7,E0 b69 ag x68] ?_
    exact⟨x71,x68,v72,b69,h3l,atOk⟩
   refine aw ?_
   exact⟨x63,x68,v62,b69,h3l,atOk⟩
  refine ep ?_
  obtain rfl:=ho3 _ (ojs h3l)
  exact⟨x63,v62,h,atOk⟩
 refine a0a af 49 ?_
 refine fb (fun m e C=>∃x13,∃x14,∃x15,∃x16,∃x17,∃x18,∃x19,∃x21,∃x22,∃x24,∃x25,∃v20,∃v23,fp (fun s=>ix x12 s.1 s.2.1 s.2.2.1 s.2.2.2.1 s.2.2.2.2.1 s.2.2.2.2.2.1 s.2.2.2.2.2.2.1 s.2.2.2.2.2.2.2.1 s.2.2.2.2.2.2.2.2.1 s.2.2.2.2.2.2.2.2.2.1 s.2.2.2.2.2.2.2.2.2.2) m (x13,x14,x15,x16,x17,x18,x19,x21,x22,x24,x25)=some z6l/\At [(0,Pr.pt b2 0),(1,(bk).val p2),(4,Pr.pt b8 0),(5,Pr.pt b9 0),(7,Pr.pt b11 0),(8,sk 159 [] [Pr.pt b11 0,Pr.pt b8 0]),(24,ar ag x12),(25,P6 (x12.length:Int)),(26,P6 x13)] [p1,p3,p4,E3 v20 Rp.str x24 9,E0 b8 bk (D3.mk x14 x15 x16 x17 x18 x19 v20 x21 x22),p5,A4.cell b11 (Pi v23),E3 v23 af x25 49] e C) n6 ⟨0,3,x10,x6.Name,x6.Owner,x6.Type_,x6.Static,x6.File,x6.At,x6.Params,[],v7,(.slice none 0 0),hN6,⟨⟨aa,aa,aa,aa,aa,aa,aa,aa,aa,tv⟩,A8.refl _⟩⟩ ?_
 rintro m e C ⟨x13,x14,x15,x16,x17,x18,x19,x21,x22,x24,x25,v20,v23,hN6,a⟩
 refine W_at a ?_
 obtain⟨m6,w6l,rfl,h6l,hn6,ho6⟩:=bl hN6
 replace h6l:ix x12 x13 x14 x15 x16 x17 x18 x19 x21 x22 x24 x25=some w6l:=h6l
 unfold ix at h6l
 refine W_rs (kIn rfl rfl rfl (ba ?_))
 refine bc h6l rfl (fun _ h6l=>?_) (fun _ h6l=>?_)
 ·refine aw ?_
  refine bm (fun e C=>∃x50,∃x51,∃x52,∃x53,∃x54,∃x55,∃x57,∃x58,∃x59,∃x60,∃x40,∃v49,∃v56,∃b41,lm x13 x50 x51 x52 x53 x54 x55 x57 x58 x59 x60 x40=some w6l/\At [(0,Pr.pt b2 0),(1,(bk).val p2),(4,Pr.pt b8 0),(5,Pr.pt b9 0),(7,Pr.pt b11 0),(8,sk 159 [] [Pr.pt b11 0,Pr.pt b8 0]),(24,ar ag x12),(25,P6 (x12.length:Int)),(26,P6 x13)] [A4.cell b11 (Pi v49),E3 v49 af x59 49,E0 b8 bk (D3.mk x50 x51 x52 x53 x54 x55 v56 x57 x58),E3 v56 Rp.str x60 9,p1,p3,p4,p5,E0 b41 ag x40] e C) ?_ ?_
  ·rintro e C ⟨x50,x51,x52,x53,x54,x55,x57,x58,x59,x60,x40,v49,v56,b41,h6l,a⟩
   refine W_at a ?_
   unfold lm at h6l
   refine W_r (kIn rfl rfl rfl (kMv rfl ?_))
   exact⟨m6,lsu,w64 (x13+1),x50,x51,x52,x53,x54,x55,x57,x58,x60,x59,v56,v49,hn6 _ (ojs h6l),⟨⟨aa,aa,aa,aa,aa,aa,aa,aa,aa,tv⟩,A8.of [4,5,6,3,2,7,0,1] rfl⟩⟩
  refine ay (W_rs ?_)
  obtain⟨x40,k,h6l⟩:=aj h6l
  refine kUn (gu underlying53 sizeOf64 k) ?_
  refine kUn (dn ty64) ?_
  refine br al64 fun b41=>au 8 rfl rfl (Upd.refl _) rfl sizeOf64 ?_
  refine bm (fun e C=>∃x43,jx x40 x25 x14 x15 x16 x17 x18 x19 x24 x21 x22 x13 x43=some w6l/\At [(0,Pr.pt b2 0),(1,(bk).val p2),(4,Pr.pt b8 0),(5,Pr.pt b9 0),(7,Pr.pt b11 0),(8,sk 159 [] [Pr.pt b11 0,Pr.pt b8 0]),(10,Pr.pt b41 0),(24,ar ag x12),(25,P6 (x12.length:Int)),(26,P6 x13),(37,Pb x43)] [p1,p3,p4,E3 v20 Rp.str x24 9,E0 b8 bk (D3.mk x14 x15 x16 x17 x18 x19 v20 x21 x22),p5,A4.cell b11 (Pi v23),E3 v23 af x25 49,E0 b41 ag x40] e C) ?_ ?_
  ·rintro e C ⟨x43,h6l,a⟩
   refine W_at a ?_
   unfold jx at h6l
   refine bc h6l rfl (fun _ h6l=>?_) (fun _ h6l=>?_)
   ·refine W_r (kUn (hMv (out:=sk 159 [] [Pr.pt b11 0,Pr.pt b8 0]) rfl) (kUn (ax 8 ty64 (Sub.refl _)) ?_))
    obtain⟨⟨x45,x47⟩,k,h6l⟩:=aj h6l
    refine rCallK [6,7,4,3] (agr x40 x25 (A9.mk x14 x15 x16 x17 x18 x19 x24 x21 x22) b11 v23 b8 v20 _ k) (fun q C' hq=>?_)
    obtain⟨v46,v48,rfl,rfl⟩:=hq
    refine rCtx [A4.cell b11 (Pi v46),E3 v46 af x45 49,E0 b8 bk (D3.mk x47.Kind x47.Id x47.Name x47.Owner x47.Type_ x47.Static v48 x47.File x47.At),E3 v48 Rp.str x47.Params 9,p1,p3,p4,p5,E0 b41 ag x40] ?_
    exact⟨x47.Kind,x47.Id,x47.Name,x47.Owner,x47.Type_,x47.Static,x47.File,x47.At,x45,x47.Params,x40,v46,v48,b41,h6l,atOk⟩
   refine aw ?_
   exact⟨x14,x15,x16,x17,x18,x19,x21,x22,x25,x24,x40,v23,v20,b41,h6l,⟨⟨aa,aa,aa,aa,aa,aa,aa,aa,aa,tv⟩,A8.of [6,7,4,3,0,1,2,5,8] rfl⟩⟩
  refine W_r (kUn (ak ig) ?_)
  refine kUn (ax 8 ty3 bq) ?_
  refine kIn rfl rfl rfl (kMv rfl ?_)
  rcases cg h6l with⟨hc42,h6l⟩|⟨hc42,h6l⟩
  ·refine skx ?_
   refine kPt rfl hc42 rfl ?_
   exact⟨true,h6l,atOk⟩
  refine kGd rfl aa hc42 (ak ig) ?_
  refine kGd rfl aa hc42 (ax 8 ty3 bq) ?_
  refine kGd rfl aa hc42 (qInt rfl rfl rfl) (kPf rfl hc42 rfl ?_)
  exact⟨x40.Kind==6,h6l,atOk⟩
 refine ep ?_
 obtain rfl:=ho6 _ (ojs h6l)
 exact⟨x24,x14,x15,x16,x17,x18,x19,x21,x22,x25,v20,v23,h,atOk⟩
theorem aix (x1:Int) (x2:B5) (x4:B4) (b3:Nat) (v5:Value) (b6:Nat) (r:Bool × B4) (h:qo x1 x2 x4=some r):Fc 71 [Pr.pt b3 0,P6 x1,(ag).val x2] [E0 b3 a7 (D0.mk v5 (.map (some b6)) x4.m),E3 v5 af x4.l 49,D6 b6 dz Rp.bool x4.known] (fun q C'=>∃w100,q=Pb r.1/\C'=[E0 b3 a7 (D0.mk w100 (.map (some b6)) r.2.m),E3 w100 af r.2.l 49,D6 b6 dz Rp.bool r.2.known]):=by
  refine ic (rs:=[6]) func71 rfl ntmps71 ⟨by decide,results71⟩ dcd (fun s0=>?_)
  unfold qo at h
  refine W_rs ?_
  refine rBox (R:=ag) (a:=x2) rfl (fun b7=>?_)
  let p1:=E0 b7 ag x2
  refine kAs rfl (ba ?_)
  refine bm (fun e C=>∃x9,∃x10,∃v11,ml x2 x1 x9 x10=some r/\At [(0,Pr.pt b3 0),(1,P6 x1),(5,Pr.pt b7 0),(23,Pb (!x9))] [E0 b3 a7 (D0.mk v11 (.map (some b6)) x10.m),E3 v11 af x10.l 49,D6 b6 dz Rp.bool x10.known,p1] e C) ?_ ?_
  · rintro e C ⟨x9,x10,v11,h,a⟩
    refine W_at a ?_
    unfold ml at h
    refine bc h rfl (fun _ h=>?_) (fun _ h=>?_)
    · refine W_rs (kAs rfl ?_)
      obtain rfl:=osj h
      exact bj ⟨.inl rfl,_,A8.of [0,1,2] rfl,_,(aa),v11,rfl,rfl⟩
    refine aw (ba (W_rs (kUn (ak q9) ?_)))
    refine kUn (ax 3 ty53 d6) ?_
    refine kUn (ma rfl underlying53) ?_
    refine kMv rfl (ay ?_)
    obtain⟨z2l,hz2,h⟩:=aj h
    obtain⟨n2,hN2⟩:=bt hz2
    refine dl 0 (fun e C=>∃x15,∃x17,∃x16,∃v14,vd x15 x17 x16=some r/\At [(0,Pr.pt b3 0)] [E0 b3 a7 (D0.mk v14 (.map (some b6)) x15),E3 v14 af x17 49,D6 b6 dz Rp.bool x16,p1] e C) ?_ ?_
    · rintro e C ⟨x15,x17,x16,v14,h,a⟩
      refine W_at a ?_
      unfold vd at h
      refine W_rs (kAs rfl ?_)
      obtain rfl:=osj h
      exact bj ⟨.inl rfl,_,A8.of [0,1,2] rfl,_,(aa),v14,rfl,rfl⟩
    refine fb (fun m e C=>∃x13,∃x15,∃x16,∃x17,∃v14,fp (fun s=>ja x2 x1 s.1 s.2.1 s.2.2.1 s.2.2.2) m (x13,x15,x16,x17)=some z2l/\At [(0,Pr.pt b3 0),(1,P6 x1),(5,Pr.pt b7 0),(25,ar ag x2.Kids),(26,P6 (x2.Kids.length:Int)),(27,P6 x13)] [E0 b3 a7 (D0.mk v14 (.map (some b6)) x15),E3 v14 af x17 49,D6 b6 dz Rp.bool x16,p1] e C) n2 ⟨0,x10.m,x10.known,x10.l,v11,hN2,⟨⟨aa,aa,aa,aa,aa,aa,tv⟩,A8.refl _⟩⟩ ?_
    rintro m e C ⟨x13,x15,x16,x17,v14,hN2,a⟩
    refine W_at a ?_
    obtain⟨m2,w2l,rfl,h2l,hn2,ho2⟩:=bl hN2
    replace h2l:ja x2 x1 x13 x15 x16 x17=some w2l:=h2l
    unfold ja at h2l
    refine W_rs (kIn rfl rfl rfl (ba ?_))
    refine bc h2l rfl (fun _ h2l=>?_) (fun _ h2l=>?_)
    · refine aw (ba (ay (W_rs ?_)))
      obtain⟨x24,k,h2l⟩:=aj h2l
      refine kUn (gu underlying53 sizeOf64 k) ?_
      refine kUn (dn ty64) ?_
      refine br al64 fun b25=>au 4 rfl rfl (Upd.refl _) rfl sizeOf64 ?_
      let p2:=E0 b25 ag x24
      refine bm (fun e C=>∃x26,∃x27,∃b28,pw x24 x1 x17 x16 x15 x13 x26 x27=some w2l/\At [(0,Pr.pt b3 0),(1,P6 x1),(5,Pr.pt b7 0),(8,Pr.pt b25 0),(9,Pr.pt b28 0),(25,ar ag x2.Kids),(26,P6 (x2.Kids.length:Int)),(27,P6 x13)] [E0 b3 a7 (D0.mk v14 (.map (some b6)) x15),E3 v14 af x17 49,D6 b6 dz Rp.bool x16,p1,p2,E0 b28 bk (D3.mk 2 x26 x24.Text x27 x24.Type_ (x24.N==1) (.slice none 0 0) x1 x24.At)] e C) ?_ ?_
      · rintro e C ⟨x26,x27,b28,h2l,a⟩
        let p3:=E0 b28 bk (D3.mk 2 x26 x24.Text x27 x24.Type_ (x24.N==1) (.slice none 0 0) x1 x24.At)
        let p4:=A9.mk 2 x26 x24.Text x27 x24.Type_ (x24.N==1) [] x1 x24.At
        refine W_at a ?_
        unfold pw at h2l
        refine ay ?_
        refine bm (fun e C=>∃x33,∃x35,∃x36,∃x37,∃v34,jb x24 x26 x27 x1 x13 x33 x35 x36 x37=some w2l/\At [(0,Pr.pt b3 0),(1,P6 x1),(5,Pr.pt b7 0),(8,Pr.pt b25 0),(9,Pr.pt b28 0),(25,ar ag x2.Kids),(26,P6 (x2.Kids.length:Int)),(27,P6 x13),(50,Pb x33)] [E0 b3 a7 (D0.mk v34 (.map (some b6)) x35),E3 v34 af x37 49,D6 b6 dz Rp.bool x36,p1,p2,p3] e C) ?_ ?_
        · rintro e C ⟨x33,x35,x36,x37,v34,h2l,a⟩
          refine W_at a ?_
          unfold jb at h2l
          refine bc h2l rfl (fun _ h2l=>?_) (fun _ h2l=>?_)
          · refine W_rs (kAs rfl ?_)
            obtain rfl:=ho2 _ (ojs h2l)
            replace h:some (false,(B4.mk x37 x36 x35))=some r:=h
            obtain rfl:=osj h
            exact bj ⟨.inl rfl,_,A8.of [0,1,2] rfl,_,(aa),v34,rfl,rfl⟩
          refine bm (fun e C=>∃x43,∃x45,∃x46,∃x47,∃v44,jc x13 x43 x45 x46 x47=some w2l/\At [(0,Pr.pt b3 0),(1,P6 x1),(5,Pr.pt b7 0),(25,ar ag x2.Kids),(26,P6 (x2.Kids.length:Int)),(27,P6 x13),(60,Pb x43)] [E0 b3 a7 (D0.mk v44 (.map (some b6)) x45),E3 v44 af x47 49,D6 b6 dz Rp.bool x46,p1,p2,p3] e C) ?_ ?_
          · rintro e C ⟨x43,x45,x46,x47,v44,h2l,a⟩
            refine W_at a ?_
            unfold jc at h2l
            refine bc h2l rfl (fun _ h2l=>?_) (fun _ h2l=>?_)
            · refine W_rs (kAs rfl ?_)
              obtain rfl:=ho2 _ (ojs h2l)
              replace h:some (false,(B4.mk x47 x46 x45))=some r:=h
              obtain rfl:=osj h
              exact bj ⟨.inl rfl,_,A8.of [0,1,2] rfl,_,(aa),v44,rfl,rfl⟩
            refine aw (W_r (kIn rfl rfl rfl (kMv rfl ?_)))
            exact⟨m2,lsu,w64 (x13+1),x45,x46,x47,v44,hn2 _ (ojs h2l),⟨⟨aa,aa,aa,aa,aa,aa,tv⟩,A8.of [0,1,2,3] rfl⟩⟩
          refine W_r (kUn (ak ig) ?_)
          refine kUn (ax 4 ty3 bq) ?_
          refine kIn rfl rfl rfl (kMv rfl ?_)
          rcases cg h2l with⟨hc39,h2l⟩|⟨hc39,h2l⟩
          · refine kGd rfl aa hc39 (hMvA rfl) (kGd rfl aa hc39 (ax 5 ty49 (Sub.refl _)) ?_)
            refine kGd rfl aa hc39 (ax 4 ty64 (Sub.refl _)) ?_
            obtain⟨⟨x40,x41⟩,k,h2l⟩:=aj h2l
            refine kOn rfl aa hc39 ?_
            refine rVec Rp.str 9 ?_
            refine nw [0,1,2,6] (aic x24 (B4.mk x37 x36 x35) p4 b3 v34 b6 (.slice none 0 0) _ k) (fun q C' hq=>?_)
            obtain⟨v42,rfl,rfl⟩:=hq
            refine rCtx [E0 b3 a7 (D0.mk v42 (.map (some b6)) x41.m),E3 v42 af x41.l 49,D6 b6 dz Rp.bool x41.known,p1,p2,p3] ?_
            refine kGd rfl aa hc39 (qNot rfl) (kPt rfl hc39 rfl (kAs rfl ?_))
            exact⟨!x40,x41.m,x41.known,x41.l,v42,h2l,atOk⟩
          refine skx ?_
          refine kPf rfl hc39 rfl (kAs rfl ?_)
          exact⟨false,x35,x36,x37,v34,h2l,atOk⟩
        refine W_r (kUn (ak ig) ?_)
        refine kUn (ax 4 ty3 bq) ?_
        refine kIn rfl rfl rfl (kMv rfl ?_)
        rcases cg h2l with⟨hc29,h2l⟩|⟨hc29,h2l⟩
        · refine kGd rfl aa hc29 (hMvA rfl) (kGd rfl aa hc29 (ax 5 ty49 (Sub.refl _)) ?_)
          obtain⟨⟨x30,x31⟩,k,h2l⟩:=aj h2l
          refine kOn rfl aa hc29 ?_
          refine ayq [0,1,2] (ze p4 (B4.mk x17 x16 x15) b3 v14 b6 _ k) ⟨aa,(st_le fun _=>⟨fl,fl,fl,fl,fl,fl,a1z,fl,fl,tv⟩),tv⟩ (fun q C' hq=>?_)
          obtain⟨v32,rfl,rfl⟩:=hq
          refine rCtx [E0 b3 a7 (D0.mk v32 (.map (some b6)) x31.m),E3 v32 af x31.l 49,D6 b6 dz Rp.bool x31.known,p1,p2,p3] ?_
          refine kGd rfl aa hc29 (qNot rfl) (kPt rfl hc29 rfl (kAs rfl ?_))
          exact⟨!x30,x31.m,x31.known,x31.l,v32,h2l,atOk⟩
        refine skx ?_
        refine kPf rfl hc29 rfl (kAs rfl ?_)
        exact⟨false,x15,x16,x17,v14,h2l,atOk⟩
      obtain⟨x26,hx26,h2l⟩:=aj h2l
      obtain⟨x27,k,h2l⟩:=aj h2l
      let p5:=D3.mk 2 x26 x24.Text x27 x24.Type_ (x24.N==1) (.slice none 0 0) x1 x24.At
      refine aes [0,1,0,4,15,0,32,0,128,415,0,1024,0,4096,12288,0,0,65536,262143,0,1048575] [[],[p1],[],[p2],[],[],[p2],[],[p1],[],[],[p2],[],[p2],[],[],[],[p2],[],[],[]] hmx kr kr kr rfl ?_
      refine aq0 0 1 (out:=Pr.pt b7 1) rfl (fun C9=>(ak gz)) ?_
      refine aq1 1 3 3 (out:=Pr.str x2.Text) rfl rfl (fun C9 i9 h9=>(ax (R:=ag) (a:=x2) (R':=Rp.str) i9 ty9 cc (hi:=h9))) ?_
      refine aq0 2 7 (out:=Pr.pt b25 1) rfl (fun C9=>(ak gz)) ?_
      refine aq1 3 15 4 (out:=Pr.str x24.Text) rfl rfl (fun C9 i9 h9=>(ax (R:=ag) (a:=x24) (R':=Rp.str) i9 ty9 cc (hi:=h9))) ?_
      refine aq0 4 31 (out:=Pr.str x26) rfl (fun C9=>(dv (afb x2.Text x24.Text _ hx26))) ?_
      refine aq0 5 63 (out:=Pr.pt b25 1) rfl (fun C9=>(ak gz)) ?_
      refine aq1 6 127 4 (out:=Pr.str x24.Text) rfl rfl (fun C9 i9 h9=>(ax (R:=ag) (a:=x24) (R':=Rp.str) i9 ty9 cc (hi:=h9))) ?_
      refine aq0 7 255 (out:=Pr.pt b7 1) rfl (fun C9=>(ak gz)) ?_
      refine aq1 8 511 3 (out:=Pr.str x2.Text) rfl rfl (fun C9 i9 h9=>(ax (R:=ag) (a:=x2) (R':=Rp.str) i9 ty9 cc (hi:=h9))) ?_
      refine aq0 9 1023 (out:=Pr.str x27) rfl (fun C9=>(dv (afd x2.Text _ k))) ?_
      refine aq0 10 2047 (out:=Pr.pt b25 2) rfl (fun C9=>(ak zn)) ?_
      refine aq1 11 4095 4 (out:=Pr.str x24.Type_) rfl rfl (fun C9 i9 h9=>(ax (R:=ag) (a:=x24) (R':=Rp.str) i9 ty9 iu (hi:=h9))) ?_
      refine aq0 12 8191 (out:=Pr.pt b25 3) rfl (fun C9=>(ak ajg)) ?_
      refine aq1 13 16383 4 (out:=P6 x24.N) rfl rfl (fun C9 i9 h9=>(ax (R:=ag) (a:=x24) (R':=Rp.int .i64) i9 ty2 ady (hi:=h9))) ?_
      refine aq0 14 32767 (out:=Pb (x24.N==1)) rfl (fun C9=>qInt) ?_
      refine aq0 15 65535 (out:=P6 x1) rfl (fun C9=>gk) ?_
      refine aq0 16 131071 (out:=Pr.pt b25 6) rfl (fun C9=>(ak tf)) ?_
      refine aq1 17 262143 4 (out:=P6 x24.At) rfl rfl (fun C9 i9 h9=>(ax (R:=ag) (a:=x24) (R':=Rp.int .i64) i9 ty3 jl (hi:=h9))) ?_
      refine aq0 18 524287 (out:=(bk).val p5) rfl (fun C9=>(jh ai3 ⟨(D3.mk 2 [] [] [] [] false (.slice none 0 0) 0 0),⟨_,rfl,rfl,qbj⟩,⟨(D3.mk 2 x26 [] [] [] false (.slice none 0 0) 0 0),⟨_,rfl,rfl,qbj⟩,⟨(D3.mk 2 x26 x24.Text [] [] false (.slice none 0 0) 0 0),⟨_,rfl,rfl,qbj⟩,⟨(D3.mk 2 x26 x24.Text x27 [] false (.slice none 0 0) 0 0),⟨_,rfl,rfl,qbj⟩,⟨(D3.mk 2 x26 x24.Text x27 x24.Type_ false (.slice none 0 0) 0 0),⟨_,rfl,rfl,qbj⟩,⟨(D3.mk 2 x26 x24.Text x27 x24.Type_ (x24.N==1) (.slice none 0 0) 0 0),⟨_,rfl,rfl,qbj⟩,⟨(D3.mk 2 x26 x24.Text x27 x24.Type_ (x24.N==1) (.slice none 0 0) x1 0),⟨_,rfl,rfl,qbj⟩,⟨p5,⟨_,rfl,rfl,qbj⟩,rfl⟩⟩⟩⟩⟩⟩⟩⟩)) ?_
      refine ae 19 1048575 rfl (fun g9=>?_)
      refine br al49 fun b28=>?_
      refine pp _ [p1,p2,p2,p1,p2,p2,p2] (x0 3 (x0 4 (x0 4 (x0 3 (x0 4 (x0 4 (x0 4 ga))))))) ?_
      refine ae 20 2097151 rfl (fun g9=>?_)
      refine au 5 rfl rfl (Upd.refl _) rfl sizeOf49 ?_
      refine pp .any [] ga ?_
      refine agu ?_
      exact⟨x26,x27,b28,h2l,atOk⟩
    refine ep ?_
    obtain rfl:=ho2 _ (ojs h2l)
    exact⟨x15,x17,x16,v14,h,atOk⟩
  refine mh 12 hmx kr kr ?_
  refine lUn (hMvA rfl) (lUn (ak gz) ?_)
  refine lUn (ax 3 ty9 cc) ?_
  obtain⟨x8,k,h⟩:=aj h
  let p6:=A9.mk 1 x8 x2.Text [] x2.Type_ false [] x1 x2.At
  refine lUn (dv (afd x2.Text _ k)) ?_
  refine lUn (ak gz) ?_
  refine lUn (ax 3 ty9 cc) ?_
  refine lUn (ak zn) ?_
  refine lUn (ax 3 ty9 iu) ?_
  refine lUn (hMvA rfl) (lUn (ak tf) ?_)
  refine lUn (ax 3 ty3 jl) ?_
  refine lUn (jh st49 ⟨(A9.mk 1 [] [] [] [] false [] 0 0),⟨_,rfl,rfl,qbj⟩,⟨(A9.mk 1 x8 [] [] [] false [] 0 0),⟨_,rfl,rfl,qbj⟩,⟨(A9.mk 1 x8 x2.Text [] [] false [] 0 0),⟨_,rfl,rfl,qbj⟩,⟨(A9.mk 1 x8 x2.Text [] x2.Type_ false [] 0 0),⟨_,rfl,rfl,qbj⟩,⟨(A9.mk 1 x8 x2.Text [] x2.Type_ false [] x1 0),⟨_,rfl,rfl,qbj⟩,⟨p6,⟨_,rfl,rfl,qbj⟩,rfl⟩⟩⟩⟩⟩⟩) ?_
  obtain⟨⟨x9,x10⟩,k,h⟩:=aj h
  refine nw [0,1,2] (ze p6 x4 b3 v5 b6 _ k) (fun q C' hq=>?_)
  obtain⟨v11,rfl,rfl⟩:=hq
  refine rCtx [E0 b3 a7 (D0.mk v11 (.map (some b6)) x10.m),E3 v11 af x10.l 49,D6 b6 dz Rp.bool x10.known,p1] ?_
  refine kNo rfl ?_
  exact⟨x9,x10,v11,h,atOk⟩
theorem aqf (x1:List (List B5)) (r:(List A9) × B3) (h:adf x1=some r):Fp 34 [ar (Rp.list ag) x1] (bu [ar af r.1,(az).val r.2]):=by
 refine dt (rs:=[.tmp 2,.cell 3 30]) func34 rfl ntmps34 results34 dcd (fun s0=>?_)
 let p1:=B3.mk 0 0 0
 unfold adf at h
 refine W_rs (kAs rfl (br al30 fun b2=>W_rs ?_))
 let p2:=E0 b2 az p1
 refine ato dz Rp.bool (fun b3=>?_)
 let p3:=D0.mk (.slice none 0 0) (.map (some b3)) p1
 refine rEnv 9 (q:=te.val (.map (some b3))) (a1w rfl) ?_
 refine kUn (jh ao2 ⟨p3,⟨_,rfl,rfl,qbj⟩,rfl⟩) ?_
 refine rBox (R:=a7) (a:=p3) rfl (fun b4=>?_)
 refine kAs rfl (ba (W_rs (kMvL rfl (kUn (ma rfl underlying24) ?_))))
 refine kMv rfl (ay ?_)
 obtain⟨z2l,hz2,h⟩:=aj h
 obtain⟨n2,hN2⟩:=bt hz2
 refine dl 0 (fun e C=>∃x6,∃x8,∃x9,∃v7,ae9 x6 x8 x9=some r/\At [(3,Pr.pt b2 0),(4,Pr.pt b4 0)] [p2,D6 b3 dz Rp.bool x6,E0 b4 a7 (D0.mk v7 (.map (some b3)) x8),E3 v7 af x9 49] e C) ?_ ?_
 ·rintro e C ⟨x6,x8,x9,v7,h,a⟩
  refine W_at a ?_
  unfold ae9 at h
  refine W_rs (kMv rfl (kNp rfl (kUn (ak ajz) ?_)))
  refine kUn (aaa (R:=a7) (a:=(D0.mk v7 (.map (some b3)) x8)) 2 ty38 zd) ?_
  refine kUn (jh st30 rfl) ?_
  refine kAs rfl (au 0 rfl rfl (Upd.refl _) rfl sizeOf30 ?_)
  refine apq 3 [2] ?_ rfl ⟨rfl,tv⟩
  obtain rfl:=osj h
  exact bj ⟨rfl,[ar af x9,(az).val p1],⟨yT aa,yBox 0 ty30 aa,tv⟩,aa⟩
 refine a0a af 49 ?_
 refine fb (fun m e C=>∃x5,∃x6,∃x8,∃x9,∃v7,fp (fun s=>m0 x1 s.1 s.2.1 s.2.2.1 s.2.2.2) m (x5,x6,x8,x9)=some z2l/\At [(3,Pr.pt b2 0),(4,Pr.pt b4 0),(12,ar (Rp.list ag) x1),(13,P6 (x1.length:Int)),(14,P6 x5)] [p2,D6 b3 dz Rp.bool x6,E0 b4 a7 (D0.mk v7 (.map (some b3)) x8),E3 v7 af x9 49] e C) n2 ⟨0,([]:GMap B0 Bool),p1,[],(.slice none 0 0),hN2,⟨⟨aa,aa,aa,aa,aa,tv⟩,A8.refl _⟩⟩ ?_
 rintro m e C ⟨x5,x6,x8,x9,v7,hN2,a⟩
 refine W_at a ?_
 obtain⟨m2,w2l,rfl,h2l,hn2,ho2⟩:=bl hN2
 replace h2l:m0 x1 x5 x6 x8 x9=some w2l:=h2l
 unfold m0 at h2l
 refine W_rs (kIn rfl rfl rfl (ba ?_))
 refine bc h2l rfl (fun _ h2l=>?_) (fun _ h2l=>?_)
 ·refine aw (ba (ay (W_rs (kMv rfl ?_))))
  obtain⟨x16,k,h2l⟩:=aj h2l
  refine kUn (gu underlying24 sizeOf53 k) ?_
  refine kUn (dn ty53) ?_
  refine kAs rfl (kAsL rfl (W_rs (kMvL rfl (kUn (ma rfl underlying53) ?_))))
  refine kMv rfl (ay ?_)
  obtain⟨z4l,hz4,h2l⟩:=aj h2l
  obtain⟨n4,hN4⟩:=bt hz4
  refine dl 2 (fun e C=>∃x18,∃x20,∃x21,∃v19,aa7 x5 x18 x20 x21=some w2l/\At [(3,Pr.pt b2 0),(4,Pr.pt b4 0),(12,ar (Rp.list ag) x1),(13,P6 (x1.length:Int)),(14,P6 x5)] [p2,D6 b3 dz Rp.bool x18,E0 b4 a7 (D0.mk v19 (.map (some b3)) x20),E3 v19 af x21 49] e C) ?_ ?_
  ·rintro e C ⟨x18,x20,x21,v19,h2l,a⟩
   refine W_at a ?_
   unfold aa7 at h2l
   refine W_r (kIn rfl rfl rfl (kMv rfl ?_))
   exact⟨m2,lsu,w64 (x5+1),x18,x20,x21,v19,hn2 _ (ojs h2l),atOk⟩
  refine fb (fun m e C=>∃x17,∃x18,∃x20,∃x21,∃v19,fp (fun s=>pn x16 x5 s.1 s.2.1 s.2.2.1 s.2.2.2) m (x17,x18,x20,x21)=some z4l/\At [(3,Pr.pt b2 0),(4,Pr.pt b4 0),(5,P6 x5),(12,ar (Rp.list ag) x1),(13,P6 (x1.length:Int)),(14,P6 x5),(19,ar ag x16),(20,P6 (x16.length:Int)),(21,P6 x17)] [p2,D6 b3 dz Rp.bool x18,E0 b4 a7 (D0.mk v19 (.map (some b3)) x20),E3 v19 af x21 49] e C) n4 ⟨0,x6,x8,x9,v7,hN4,⟨⟨aa,aa,aa,aa,aa,aa,aa,aa,aa,tv⟩,A8.refl _⟩⟩ ?_
  rintro m e C ⟨x17,x18,x20,x21,v19,hN4,a⟩
  refine W_at a ?_
  obtain⟨m4,w4l,rfl,h4l,hn4,ho4⟩:=bl hN4
  replace h4l:pn x16 x5 x17 x18 x20 x21=some w4l:=h4l
  unfold pn at h4l
  refine W_rs (kIn rfl rfl rfl (ba ?_))
  refine bc h4l rfl (fun _ h4l=>?_) (fun _ h4l=>?_)
  ·refine aw (ba (ay (W_rs ?_)))
   obtain⟨x28,k,h4l⟩:=aj h4l
   refine kUn (gu underlying53 sizeOf64 k) ?_
   refine kUn (dn ty64) ?_
   refine br al64 fun b29=>au 4 rfl rfl (Upd.refl _) rfl sizeOf64 ?_
   refine bm (fun e C=>∃x34,∃x36,∃x37,∃x38,∃v35,po x17 x34 x36 x37 x38=some w4l/\At [(3,Pr.pt b2 0),(4,Pr.pt b4 0),(5,P6 x5),(12,ar (Rp.list ag) x1),(13,P6 (x1.length:Int)),(14,P6 x5),(19,ar ag x16),(20,P6 (x16.length:Int)),(21,P6 x17),(34,Pb x34)] [E0 b4 a7 (D0.mk v35 (.map (some b3)) x36),E3 v35 af x38 49,D6 b3 dz Rp.bool x37,p2,E0 b29 ag x28] e C) ?_ ?_
   ·rintro e C ⟨x34,x36,x37,x38,v35,h4l,a⟩
    refine W_at a ?_
    unfold po at h4l
    refine bc h4l rfl (fun _ h4l=>?_) (fun _ h4l=>?_)
    ·refine bm (fun e C=>aa8 x36=some w4l/\At [(2,Pi (.slice none 0 0)),(3,Pr.pt b2 0)] [E0 b4 a7 (D0.mk v35 (.map (some b3)) x36),E3 v35 af x38 49,D6 b3 dz Rp.bool x37,E0 b2 az x36,E0 b29 ag x28] e C) ?_ ?_
     ·rintro e C ⟨h4l,a⟩
      refine W_at a ?_
      unfold aa8 at h4l
      obtain rfl:=ho4 _ (ojs h4l)
      replace h2l:some (.inr (.done ([],x36)))=some w2l:=h2l
      obtain rfl:=ho2 _ (ojs h2l)
      replace h:some ([],x36)=some r:=h
      obtain rfl:=osj h
      exact bj ⟨rfl,[ar af [],(az).val x36],⟨yT (du _),yBox 3 ty30 aa,tv⟩,aa⟩
     refine mh 5 hmx kr kr ?_
     refine lUn (hMvA rfl) (lUn (ag1 rfl) (lUn (ak aws) ?_))
     refine lUn (ax 0 ty30 akv) ?_
     refine lUn (hAsA rfl) (au 3 rfl rfl (Upd.refl _) rfl sizeOf30 ?_)
     exact⟨h4l,atOk⟩
    refine aw (W_r (kIn rfl rfl rfl (kMv rfl ?_)))
    exact⟨m4,lsu,w64 (x17+1),x37,x36,x38,v35,hn4 _ (ojs h4l),⟨⟨aa,aa,aa,aa,aa,aa,aa,aa,aa,tv⟩,A8.of [3,2,0,1] rfl⟩⟩
   refine W_r (kUn (ak ig) ?_)
   refine kUn (ax 4 ty3 bq) ?_
   refine kIn rfl rfl rfl (kMv rfl ?_)
   rcases cg h4l with⟨hc30,h4l⟩|⟨hc30,h4l⟩
   ·refine kGd rfl aa hc30 (hMvA rfl) (kGd rfl aa hc30 (hMvA rfl) (kGd rfl aa hc30 (ax 4 ty64 (Sub.refl _)) ?_))
    obtain⟨⟨x31,x32⟩,k,h4l⟩:=aj h4l
    refine kOn rfl aa hc30 ?_
    refine nw [2,3,1] (aix x5 x28 (B4.mk x21 x18 x20) b4 v19 b3 _ k) (fun q C' hq=>?_)
    obtain⟨v33,rfl,rfl⟩:=hq
    refine kGd rfl aa hc30 (qNot rfl) (kPt rfl hc30 rfl ?_)
    exact⟨!x31,x32.m,x32.known,x32.l,v33,h4l,atOk⟩
   refine skx ?_
   refine kPf rfl hc30 rfl ?_
   exact⟨false,x20,x18,x21,v19,h4l,⟨⟨aa,aa,aa,aa,aa,aa,aa,aa,aa,aa,tv⟩,A8.of [2,3,1,0,4] rfl⟩⟩
  refine ep ?_
  obtain rfl:=ho4 _ (ojs h4l)
  exact⟨x18,x20,x21,v19,h2l,atOk⟩
 refine ep ?_
 obtain rfl:=ho2 _ (ojs h2l)
 exact⟨x6,x8,x9,v7,h,atOk⟩
theorem ahu (x1:List A9) (x2:Bt) (r:A9 × Bool) (h:ac1 x1 x2=some r):Fp 124 [ar af x1,Pr.str x2] (bu [(af).val r.1,Pb r.2]):=by
 refine dt (rs:=[.cell 4 49,.tmp 5]) func124 rfl ntmps124 results124 dcd (fun s0=>?_)
 let p1:=A9.mk 0 [] [] [] [] false [] 0 0
 unfold ac1 at h
 refine W_rs (br sj fun b3=>kAs rfl (ba (W_rs (kMvL rfl (kUn (ma rfl underlying38) ?_)))))
 refine kMv rfl (ay ?_)
 obtain⟨z2l,hz2,h⟩:=aj h
 obtain⟨n2,hN2⟩:=bt hz2
 refine dl 0 (fun e C=>ahv=some r/\At [(4,Pr.pt b3 0)] [E0 b3 af p1] e C) ?_ ?_
 ·rintro e C ⟨h,a⟩
  refine W_at a ?_
  unfold ahv at h
  refine W_rs (kUn (jh st49 rfl) ?_)
  refine au 0 rfl rfl (Upd.refl _) rfl sizeOf49 (kAs rfl ?_)
  obtain rfl:=osj h
  exact bj ⟨rfl,[(af).val p1,Pb false],⟨yBox 0 ty49 aa,yT aa,tv⟩,aa⟩
 refine fb (fun m e C=>∃x4,fp (fun s=>tp x1 x2 s) m x4=some z2l/\At [(1,Pr.str x2),(4,Pr.pt b3 0),(8,ar af x1),(9,P6 (x1.length:Int)),(10,P6 x4)] [E0 b3 af p1] e C) n2 ⟨0,hN2,⟨⟨aa,aa,aa,aa,aa,tv⟩,A8.refl _⟩⟩ ?_
 rintro m e C ⟨x4,hN2,a⟩
 refine W_at a ?_
 obtain⟨m2,w2l,rfl,h2l,hn2,ho2⟩:=bl hN2
 replace h2l:tp x1 x2 x4=some w2l:=h2l
 unfold tp at h2l
 refine W_rs (kIn rfl rfl rfl (ba ?_))
 refine bc h2l rfl (fun _ h2l=>?_) (fun _ h2l=>?_)
 ·refine aw (ba (ay (W_rs ?_)))
  obtain⟨x7,k,h2l⟩:=aj h2l
  refine kUn (gu underlying38 sizeOf49 k) ?_
  refine kUn (dn ty49) ?_
  refine br sj fun b8=>au 1 rfl rfl (Upd.refl _) rfl sizeOf49 ?_
  refine bm (fun e C=>∃x10,abq x7 x4 x10=some w2l/\At [(1,Pr.str x2),(4,Pr.pt b3 0),(7,Pr.pt b8 0),(8,ar af x1),(9,P6 (x1.length:Int)),(10,P6 x4),(22,Pb x10)] [E0 b3 af p1,E0 b8 af x7] e C) ?_ ?_
  ·rintro e C ⟨x10,h2l,a⟩
   refine W_at a ?_
   unfold abq at h2l
   refine bc h2l rfl (fun _ h2l=>?_) (fun _ h2l=>?_)
   ·refine W_rs (kUn (ax 1 ty49 (Sub.refl _)) ?_)
    refine au 0 rfl rfl (Upd.refl _) rfl sizeOf49 (kAs rfl ?_)
    obtain rfl:=ho2 _ (ojs h2l)
    replace h:some (x7,true)=some r:=h
    obtain rfl:=osj h
    exact bj ⟨rfl,[(af).val x7,Pb true],⟨yBox 0 ty49 aa,yT aa,tv⟩,aa⟩
   refine aw (W_r (kIn rfl rfl rfl (kMv rfl ?_)))
   exact⟨m2,lsu,w64 (x4+1),hn2 _ (ojs h2l),⟨⟨aa,aa,aa,aa,aa,tv⟩,A8.of [0] rfl⟩⟩
  refine W_r (kUn (ak xa) ?_)
  refine kUn (ax 1 ty3 ft) ?_
  refine kIn rfl rfl rfl (kMv rfl ?_)
  rcases cg h2l with⟨hc9,h2l⟩|⟨hc9,h2l⟩
  ·refine kGd rfl aa hc9 (ak ra) ?_
   refine kGd rfl aa hc9 (ax 1 ty9 g0) ?_
   refine kGd rfl aa hc9 (hMvA rfl) (kGd rfl aa hc9 (qStr rfl rfl rfl) (kPt rfl hc9 rfl ?_))
   exact⟨x7.Id==x2,h2l,atOk⟩
  refine skx ?_
  refine kPf rfl hc9 rfl ?_
  exact⟨false,h2l,atOk⟩
 refine ep ?_
 obtain rfl:=ho2 _ (ojs h2l)
 exact⟨h,atOk⟩
theorem ajd {σ:Type} (yld:σ->A9->Option (Bool × σ)) (Y:YI σ) (l:Nat) (hY:YOK Tryz.prog Y l (fun a=>[(af).val a]) yld) (x2:List A9) (x4:Bt) (x5:σ) (b1 b3:Nat) (v6:List Nat) (r:(List A9) × Bt × (σ)) (h:zw yld x2 x4 x5=some r):Fc 153 ([]++[adu l]++[Pr.pt b1 0,Pr.pt b3 0]) ([E0 b1 (Rp.list af) x2,E0 b3 Rp.str x4]++[D8 Y x5 v6]) (fun _ C'=>∃w9,C'=[E0 b1 (Rp.list af) r.1,E0 b3 Rp.str r.2.1]++[D8 Y r.2.2 w9]):=by
 refine ic (rs:=[]) func153 rfl ntmps153 ⟨by decide,results153⟩ dcd (fun s0=>?_)
 unfold zw at h
 refine W_rs ?_
 refine awj Rp.bool (fun b7=>?_)
 refine kUn (hAs (out:=pr b7) rfl) (ay ?_)
 obtain⟨n1,hN1⟩:=bt h
 refine fb (fun m e C=>∃x8,∃x9,∃x11,∃v10,fp (fun s=>j0 yld x2 s.1 s.2.1 s.2.2) m (x8,x9,x11)=some r/\At [(0,adu l),(1,Pr.pt b1 0),(2,Pr.pt b3 0),(4,pr b7)] [E0 b1 (Rp.list af) x2,E0 b3 Rp.str x8,D8 Y x9 v10,D9 b7 Rp.bool x11] e C) n1 ⟨x4,x5,([]:SMap Bool),v6,hN1,⟨⟨aa,aa,aa,aa,tv⟩,A8.refl _⟩⟩ ?_
 rintro m e C ⟨x8,x9,x11,v10,hN1,a⟩
 refine W_at a ?_
 obtain⟨m1,w1l,rfl,h1l,hn1,ho1⟩:=bl hN1
 replace h1l:j0 yld x2 x8 x9 x11=some w1l:=h1l
 unfold j0 at h1l
 refine ay (W_rs (kUn (ax 0 ty38 (Sub.refl _)) ?_))
 refine kUn (ax 1 ty9 (Sub.refl _)) ?_
 obtain⟨⟨x16,x17⟩,k,h1l⟩:=aj h1l
 refine kUn (dv (ahu x2 x8 _ k)) ?_
 refine kUn (hMv (out:=bu [(af).val x16,Pb x17]) rfl) (kUn aq ?_)
 refine kUn aq ?_
 refine br sj fun b18=>au 4 rfl rfl (Upd.refl _) rfl sizeOf49 (kAs rfl (ba ?_))
 refine bm (fun e C=>∃x28,∃x29,∃v30,pk yld x2 x8 x16 x11 x28 x29=some w1l/\At [(0,adu l),(1,Pr.pt b1 0),(2,Pr.pt b3 0),(4,pr b7),(5,Pr.pt b18 0),(26,Pb x28)] [D8 Y x29 v30,E0 b1 (Rp.list af) x2,E0 b3 Rp.str x8,D9 b7 Rp.bool x11,E0 b18 af x16] e C) ?_ ?_
 ·rintro e C ⟨x28,x29,v30,h1l,a⟩
  refine W_at a ?_
  unfold pk at h1l
  refine bc h1l rfl (fun _ h1l=>?_) (fun _ h1l=>?_)
  ·have h:some (x2,x8,x29)=some r:=congrArg some (ho1 _ (ojs h1l))
   obtain rfl:=osj h
   exact bj ⟨.inl rfl,_,A8.of [1,2,0] rfl,_,aa,v30,rfl⟩
  refine aw (W_rs (kUn (hMv (out:=pr b7) rfl) (kUn (ax 2 ty9 (Sub.refl _)) ?_)))
  refine ayp (R:=Rp.bool) (m:=x11) (kx:=x8) (v:=true) 3 underlying182 underlying9 ?_
  refine W_r (kUn (ak af8) ?_)
  refine kUn (ax 4 ty9 i0) ?_
  refine au 2 rfl rfl (Upd.refl _) rfl sizeOf9 ?_
  exact⟨m1,lsu,x16.Type_,x29,(mset x8 true x11),v30,hn1 _ (ojs h1l),⟨⟨aa,aa,aa,aa,tv⟩,A8.of [1,2,0,3] rfl⟩⟩
 refine W_r (kMv rfl (kNo rfl (kMv rfl ?_)))
 rcases cg h1l with⟨hc19,h1l⟩|⟨hc19,h1l⟩
 ·refine skx ?_
  refine kPt rfl hc19 rfl (kMv rfl ?_)
  have hc24:true=true:=rfl
  refine skx ?_
  refine kPt rfl hc24 rfl ?_
  exact⟨true,x9,v10,h1l,⟨⟨aa,aa,aa,aa,aa,aa,tv⟩,A8.of [2,0,1,3,4] rfl⟩⟩
 refine kGd rfl aa hc19 (hMv (out:=pr b7) rfl) (kGd rfl aa hc19 (ax 1 ty9 (Sub.refl _)) ?_)
 refine kGd rfl aa hc19 (ays (R:=Rp.bool) (m:=x11) (kx:=x8) (z:=false) 3 underlying182 underlying9 zeroValue4 (fun _=>rfl)) ?_
 refine kPf rfl hc19 rfl (kMv rfl ?_)
 rcases cg h1l with⟨hc20,h1l⟩|⟨hc20,h1l⟩
 ·refine skx ?_
  refine kPt rfl hc20 rfl ?_
  exact⟨true,x9,v10,h1l,⟨⟨aa,aa,aa,aa,aa,aa,tv⟩,A8.of [2,0,1,3,4] rfl⟩⟩
 refine kGd rfl aa hc20 (hMv (out:=adu l) rfl) (kGd rfl aa hc20 (ax 4 ty49 (Sub.refl _)) ?_)
 obtain⟨⟨x21,x22⟩,k,h1l⟩:=aj h1l
 refine kOn rfl aa hc20 ?_
 refine aya 2 (a:=(x16)) hY k (fun v23=>?_)
 refine kGd rfl aa hc20 (qNot rfl) (kPf rfl hc20 rfl ?_)
 exact⟨!x21,x22,v23,h1l,atOk⟩
theorem amm (x1:List A9) (x2:Bt):Fc 109 [ar af x1,Pr.str x2] [] (fun q C'=>∃b3 b4,q=sk 153 [] [Pr.pt b3 0,Pr.pt b4 0]/\C'=[E0 b3 (Rp.list af) x1,E0 b4 Rp.str x2]):=by
 refine ic (rs:=[4]) func109 rfl ntmps109 ⟨by decide,results109⟩ dcd (fun s0=>?_)
 refine W_rs ?_
 refine rBox (R:=Rp.list af) (a:=x1) rfl (fun b3=>?_)
 refine rBox (R:=Rp.str) (a:=x2) rfl (fun b4=>?_)
 refine kAs rfl (W_rs (kUn tg ?_))
 refine kUn (hAs (out:=sk 153 [] [Pr.pt b3 0,Pr.pt b4 0]) rfl) ?_
 exact bj ⟨.inl rfl,_,A8.refl _,_,aa,b3,b4,rfl,rfl⟩
theorem auk (x1:List A9) (x2 x3:Bt) (r:Bool) (h:afm x1 x2 x3=some r):Fp 60 [ar af x1,Pr.str x2,Pr.str x3] (Pb r):=by
 refine dt (n:=16) (rs:=[.cell 6 4]) func60 rfl ntmps60 results60 dcd (fun s0=>?_)
 unfold afm at h
 refine W_rs ?_
 refine rBox (R:=Rp.str) (a:=x3) rfl (fun b4=>?_)
 refine afh (R:=Rp.bool) (z:=false) zeroValue4 (fun _=>rfl) (fun b5=>?_)
 refine a0b ?_
 refine W_r ?_
 refine rq (out:=ar af x1) gk ?_
 refine rq (out:=Pr.str x2) gk ?_
 refine nw [] (amm x1 x2) (fun q C' hq=>?_)
 obtain⟨b6,b7,rfl,rfl⟩:=hq
 refine⟨rfl,?_⟩
 obtain⟨⟨x11,x12,x15⟩,k,h⟩:=aj h
 refine asm [0,1] (fun _=> .ret) (fun(s:(Unit) ⊕ (A9)) C=>match s with| .inl s=>C=[E0 b4 Rp.str x3,E0 b5 Rp.bool false]| .inr s=>∃b9,C=[E0 b4 Rp.str x3,E0 b5 Rp.bool true,E0 b9 af s]) (encs:=(fun(a:A9)=>[(af).val a])) (yld:=(fun(s:Unit) (a:A9)=>tr x3 a)) (st0:=()) (stF:=x15) (Ccap':=[E0 b6 (Rp.list af) x11,E0 b7 Rp.str x12]) (fun l Y L hY=>ajd _ Y l hY x1 x2 (.inl ()) b6 b7 L _ k) rfl (fun _=>rfl) ?_ ?_ (fun _ _ _ h=>h.1)
 ·rintro l _ x8 rr1 C T s0 rfl hy1
  replace hy1:tr x3 x8=some rr1:=hy1
  unfold tr at hy1
  refine W_r ?_
  refine afh (R:=af) (z:=(A9.mk 0 [] [] [] [] false [] 0 0)) zeroValue49 (fun _=>⟨_,⟨_,_,rfl,rfl,⟨_,_,rfl,rfl,⟨_,_,rfl,rfl,⟨_,_,rfl,rfl,⟨_,_,rfl,rfl,⟨_,_,rfl,rfl,⟨_,_,rfl,⟨_,rfl,none,0,rfl,⟨Nat.le_refl _,fun _=>rfl⟩,.inl rfl⟩,⟨_,_,rfl,rfl,⟨_,_,rfl,rfl,rfl⟩⟩⟩⟩⟩⟩⟩⟩⟩,rfl⟩) (fun b9=>?_)
  refine zi (R:=af) (R':=af) (a:=(A9.mk 0 [] [] [] [] false [] 0 0)) (y:=x8) 2 sizeOf49 (Upd.refl _) ?_
  refine⟨rfl,fun T s0=>?_⟩
  refine an3 ?_
  refine ay ?_
  refine W_rs ?_
  refine rq (out:=Pr.pt b9 1) (ak ra) ?_
  refine rq (out:=Pr.str x8.Id) (ax (R:=af) (a:=x8) (R':=Rp.str) 2 ty9 g0) ?_
  refine rq (out:=Pr.str x3) (ax (R:=Rp.str) (a:=x3) (R':=Rp.str) 0 ty9 (Sub.refl _)) ?_
  refine rq (out:=Pb (x8.Id==x3)) qStr ?_
  refine amc (b:=x8.Id==x3) rfl (fun hc10=>?_) (fun hc10=>?_)
  ·replace hy1:=iteT hc10 hy1
   refine W_rs ?_
   refine zi (R:=Rp.bool) (R':=Rp.bool) (a:=false) (y:=true) 1 sizeOf4 (Upd.refl _) ?_
   obtain rfl:=Option.some.inj hy1
   exact bj ⟨_,A8.refl _,.inr ⟨_,rfl,rfl,b9,rfl⟩⟩
  replace hy1:=iteF hc10 hy1
  refine aw ?_
  obtain rfl:=Option.some.inj hy1
  exact⟨_,A8.of [0,1] rfl,.inl ⟨rfl,_,rfl,rfl⟩⟩
 intro D C' hj
 cases x15 with
 |inl x13=>
  replace h:(some false)=some r:=h
  obtain rfl:=hj
  intro T s0
  refine W_rs ?_
  refine zi (R:=Rp.bool) (R':=Rp.bool) (a:=false) (y:=false) 3 sizeOf4 (Upd.refl _) ?_
  obtain rfl:=Option.some.inj h
  exact bj ⟨rfl,[Pb false],⟨yBox 3 ty4 aa,tv⟩,aa⟩
 |inr x16=>
  replace h:(some true)=some r:=h
  obtain⟨b9,rfl⟩:=hj
  obtain rfl:=Option.some.inj h
  exact .inr ⟨rfl,⟨rfl,[Pb true],⟨yBox 3 ty4 aa,tv⟩,aa⟩⟩
theorem aq3 (x1:List A9) (x2:Bt) (x3:(A9->Option Bool)) (r:A9 × Bool) (h:ali x1 x2 x3=some r):Fp 155 [ar af x1,Pr.str x2,d7 Tryz.prog (w8 x3)] (bu [(af).val r.1,Pb r.2]):=by
 refine dt (n:=37) (rs:=[.cell 6 49,.tmp 7]) func155 rfl ntmps155 results155 dcd (fun s0=>?_)
 unfold ali at h
 refine W_rs ?_
 refine rBox (R:=Rp.list af) (a:=x1) rfl (fun b4=>?_)
 refine rBox (R:=Rp.fn (fun x=>d7 Tryz.prog (w8 x)) abx) (a:=x3) rfl (fun b5=>?_)
 refine afh (R:=af) (z:=(A9.mk 0 [] [] [] [] false [] 0 0)) zeroValue49 (fun _=>⟨_,⟨_,_,rfl,rfl,⟨_,_,rfl,rfl,⟨_,_,rfl,rfl,⟨_,_,rfl,rfl,⟨_,_,rfl,rfl,⟨_,_,rfl,rfl,⟨_,_,rfl,⟨_,rfl,none,0,rfl,⟨Nat.le_refl _,fun _=>rfl⟩,.inl rfl⟩,⟨_,_,rfl,rfl,⟨_,_,rfl,rfl,rfl⟩⟩⟩⟩⟩⟩⟩⟩⟩,rfl⟩) (fun b6=>?_)
 refine rq (out:=Pb false) fw ?_
 refine W_scope ?_
 refine W_rs ?_
 refine afh (R:=af) (z:=(A9.mk 0 [] [] [] [] false [] 0 0)) zeroValue49 (fun _=>⟨_,⟨_,_,rfl,rfl,⟨_,_,rfl,rfl,⟨_,_,rfl,rfl,⟨_,_,rfl,rfl,⟨_,_,rfl,rfl,⟨_,_,rfl,rfl,⟨_,_,rfl,⟨_,rfl,none,0,rfl,⟨Nat.le_refl _,fun _=>rfl⟩,.inl rfl⟩,⟨_,_,rfl,rfl,⟨_,_,rfl,rfl,rfl⟩⟩⟩⟩⟩⟩⟩⟩⟩,rfl⟩) (fun b7=>?_)
 refine W_rs ?_
 refine afh (R:=Rp.bool) (z:=false) zeroValue4 (fun _=>rfl) (fun b8=>?_)
 refine zi (R:=Rp.bool) (R':=Rp.bool) (a:=false) (y:=false) 4 sizeOf4 (Upd.refl _) ?_
 refine ba ?_
 refine W_label ?_
 refine a0b ?_
 refine W_r ?_
 refine rq (out:=ar af x1) (ax (R:=Rp.list af) (a:=x1) (R':=Rp.list af) 0 ty38 (Sub.refl _)) ?_
 refine rq (out:=Pr.str x2) gk ?_
 refine nw [] (amm x1 x2) (fun q C' hq=>?_)
 obtain⟨b9,b10,rfl,rfl⟩:=hq
 refine⟨rfl,?_⟩
 obtain⟨⟨x22,x23,x26⟩,k,h⟩:=aj h
 refine asm [0,1] (fun _=> .exit 0) (fun(s:(Unit) ⊕ (A9 × A9)) C=>match s with| .inl s=>C=[E0 b4 (Rp.list af) x1,E0 b5 (Rp.fn (fun x=>d7 Tryz.prog (w8 x)) abx) x3,E0 b6 af (A9.mk 0 [] [] [] [] false [] 0 0),E0 b7 af (A9.mk 0 [] [] [] [] false [] 0 0),E0 b8 Rp.bool false]| .inr s=>∃b12,∃b17,C=[E0 b4 (Rp.list af) x1,E0 b5 (Rp.fn (fun x=>d7 Tryz.prog (w8 x)) abx) x3,E0 b6 af (A9.mk 0 [] [] [] [] false [] 0 0),E0 b7 af s.1,E0 b8 Rp.bool true,E0 b12 af s.2,E0 b17 af s.1]) (encs:=(fun(a:A9)=>[(af).val a])) (yld:=(fun(s:Unit) (a:A9)=>xx x1 x3 a)) (st0:=()) (stF:=x26) (Ccap':=[E0 b9 (Rp.list af) x22,E0 b10 Rp.str x23]) (fun l Y L hY=>ajd _ Y l hY x1 x2 (.inl ()) b9 b10 L _ k) rfl (fun _=>rfl) ?_ ?_ (fun x _ _ h=>by cases x<;>first|exact h.1|exact h.elim)
 ·rintro l _ x11 rr1 C T s0 rfl hy1
  replace hy1:xx x1 x3 x11=some rr1:=hy1
  unfold xx at hy1
  refine W_r ?_
  refine afh (R:=af) (z:=(A9.mk 0 [] [] [] [] false [] 0 0)) zeroValue49 (fun _=>⟨_,⟨_,_,rfl,rfl,⟨_,_,rfl,rfl,⟨_,_,rfl,rfl,⟨_,_,rfl,rfl,⟨_,_,rfl,rfl,⟨_,_,rfl,rfl,⟨_,_,rfl,⟨_,rfl,none,0,rfl,⟨Nat.le_refl _,fun _=>rfl⟩,.inl rfl⟩,⟨_,_,rfl,rfl,⟨_,_,rfl,rfl,rfl⟩⟩⟩⟩⟩⟩⟩⟩⟩,rfl⟩) (fun b12=>?_)
  refine zi (R:=af) (R':=af) (a:=(A9.mk 0 [] [] [] [] false [] 0 0)) (y:=x11) 5 sizeOf49 (Upd.refl _) ?_
  refine⟨rfl,fun T s0=>?_⟩
  refine an3 ?_
  refine ay ?_
  refine W_rs ?_
  refine rq (out:=ar af x1) (ax (R:=Rp.list af) (a:=x1) (R':=Rp.list af) 0 ty38 (Sub.refl _)) ?_
  refine rq (out:=P6 (x1.length:Int)) (ma rfl underlying38) ?_
  refine rq (out:=P6 0) gk ?_
  refine ay ?_
  obtain⟨z3l,hz3,hy1⟩:=aj hy1
  obtain⟨n3,hN3⟩:=bt hz3
  clear hz3
  refine dl 2 (fun e C=>al0=some rr1/\At [] [E0 b4 (Rp.list af) x1,E0 b5 (Rp.fn (fun x=>d7 Tryz.prog (w8 x)) abx) x3,E0 b6 af (A9.mk 0 [] [] [] [] false [] 0 0),E0 b7 af (A9.mk 0 [] [] [] [] false [] 0 0),E0 b8 Rp.bool false,E0 b12 af x11] e C) ?_ ?_
  ·rintro e C ⟨hy1,a⟩
   unfold al0 at hy1
   obtain rfl:=Option.some.inj hy1
   exact⟨_,(A8.trans a.2 (A8.of [0,1,2,3,4] rfl)),.inl ⟨rfl,_,rfl,rfl⟩⟩
  refine fb (fun m e C=>∃x13,fp (fun s=>zp x1 x11 x3 s) m x13=some z3l/\At [(5,Pr.pt b5 0),(6,Pr.pt b6 0),(8,Pr.pt b7 0),(9,Pr.pt b8 0),(10,Pr.pt b12 0),(17,ar af x1),(18,P6 (x1.length:Int)),(19,P6 x13)] [E0 b4 (Rp.list af) x1,E0 b5 (Rp.fn (fun x=>d7 Tryz.prog (w8 x)) abx) x3,E0 b6 af (A9.mk 0 [] [] [] [] false [] 0 0),E0 b7 af (A9.mk 0 [] [] [] [] false [] 0 0),E0 b8 Rp.bool false,E0 b12 af x11] e C) n3 ⟨0,hN3,⟨⟨aa,aa,aa,aa,aa,aa,aa,aa,tv⟩,A8.refl _⟩⟩ ?_
  clear hN3
  rintro m e C ⟨x13,hN3,a⟩
  refine W_at a ?_
  clear a
  obtain⟨m3,w3l,rfl,h3l,hn3,ho3⟩:=bl hN3
  clear hN3
  replace h3l:zp x1 x11 x3 x13=some w3l:=h3l
  unfold zp at h3l
  refine W_rs ?_
  refine rq (out:=Pb (decide (x13<(x1.length:Int)))) qInt ?_
  refine ba ?_
  refine amc (b:=decide (x13<(x1.length:Int))) rfl (fun hc15=>?_) (fun hc15=>?_)
  ·replace h3l:=iteT hc15 h3l
   refine aw ?_
   refine ba ?_
   refine ay ?_
   refine W_rs ?_
   obtain⟨x16,k,h3l⟩:=aj h3l
   refine rq (out:=qx af x16) (gu (R:=af) (l:=x1) underlying38 sizeOf49 k) ?_
   refine rq (out:=(af).val x16) (dn (R:=af) (a:=x16) ty49) ?_
   refine afh (R:=af) (z:=(A9.mk 0 [] [] [] [] false [] 0 0)) zeroValue49 (fun _=>⟨_,⟨_,_,rfl,rfl,⟨_,_,rfl,rfl,⟨_,_,rfl,rfl,⟨_,_,rfl,rfl,⟨_,_,rfl,rfl,⟨_,_,rfl,rfl,⟨_,_,rfl,⟨_,rfl,none,0,rfl,⟨Nat.le_refl _,fun _=>rfl⟩,.inl rfl⟩,⟨_,_,rfl,rfl,⟨_,_,rfl,rfl,rfl⟩⟩⟩⟩⟩⟩⟩⟩⟩,rfl⟩) (fun b17=>?_)
   refine zi (R:=af) (R':=af) (a:=(A9.mk 0 [] [] [] [] false [] 0 0)) (y:=x16) 6 sizeOf49 (Upd.refl _) ?_
   refine bm (fun e C=>∃x20,afu x16 x11 x13 x20=some w3l/\At [(5,Pr.pt b5 0),(6,Pr.pt b6 0),(8,Pr.pt b7 0),(9,Pr.pt b8 0),(10,Pr.pt b12 0),(12,Pr.pt b17 0),(17,ar af x1),(18,P6 (x1.length:Int)),(19,P6 x13),(32,Pb x20)] [E0 b4 (Rp.list af) x1,E0 b5 (Rp.fn (fun x=>d7 Tryz.prog (w8 x)) abx) x3,E0 b6 af (A9.mk 0 [] [] [] [] false [] 0 0),E0 b7 af (A9.mk 0 [] [] [] [] false [] 0 0),E0 b8 Rp.bool false,E0 b12 af x11,E0 b17 af x16] e C) ?_ ?_
   ·rintro e C ⟨x20,h3l,a⟩
    refine W_at a ?_
    clear a
    unfold afu at h3l
    refine amc (b:=x20) rfl (fun hc21=>?_) (fun hc21=>?_)
    ·replace h3l:=iteT hc21 h3l
     refine W_rs ?_
     refine rq (out:=(af).val x16) (ax (R:=af) (a:=x16) (R':=af) 6 ty49 (Sub.refl _)) ?_
     refine zi (R:=af) (R':=af) (a:=(A9.mk 0 [] [] [] [] false [] 0 0)) (y:=x16) 3 sizeOf49 (Upd.refl _) ?_
     refine zi (R:=Rp.bool) (R':=Rp.bool) (a:=false) (y:=true) 4 sizeOf4 (Upd.refl _) ?_
     obtain rfl:=ho3 _ (ojs h3l)
     replace hy1:some (false,.inr (x16,x11))=some rr1:=hy1
     obtain rfl:=Option.some.inj hy1
     exact ep ⟨_,A8.refl _,.inr ⟨_,rfl,rfl,b12,b17,rfl⟩⟩
    replace h3l:=iteF hc21 h3l
    refine aw ?_
    refine W_r ?_
    refine rq (out:=P6 (w64 (x13+1))) qInt ?_
    refine rq (out:=P6 (w64 (x13+1))) gk ?_
    exact⟨m3,lsu,w64 (x13+1),hn3 _ (ojs h3l),⟨⟨aa,aa,aa,aa,aa,aa,aa,aa,tv⟩,A8.of [0,1,2,3,4,5] rfl⟩⟩
   refine W_r ?_
   refine rq (out:=Pr.pt b17 3) (ak alp) ?_
   refine rq (out:=Pr.str x16.Owner) (ax (R:=af) (a:=x16) (R':=Rp.str) 6 ty9 oj) ?_
   refine rq (out:=Pr.pt b12 1) (ak ra) ?_
   refine rq (out:=Pr.str x11.Id) (ax (R:=af) (a:=x11) (R':=Rp.str) 5 ty9 g0) ?_
   refine rq (out:=Pb (x16.Owner==x11.Id)) qStr ?_
   refine rq (out:=Pb (x16.Owner==x11.Id)) gk ?_
   rcases cg h3l with⟨hc18,h3l⟩|⟨hc18,h3l⟩
   ·refine rqg hc18 (out:=d7 Tryz.prog (w8 x3)) (ax (R:=Rp.fn (fun x=>d7 Tryz.prog (w8 x)) abx) (a:=x3) (R':=Rp.fn (fun x=>d7 Tryz.prog (w8 x)) abx) 1 ty148 (Sub.refl _)) ?_
    refine rqg hc18 (out:=(af).val x16) (ax (R:=af) (a:=x16) (R':=af) 6 ty49 (Sub.refl _)) ?_
    obtain⟨x19,k,h3l⟩:=aj h3l
    refine rqg hc18 (out:=Pb x19) (anp (spec:=w8 x3) ⟨_,_,rfl,rfl,k⟩) ?_
    refine rq (out:=Pb x19) (a1s hc18) ?_
    exact⟨x19,h3l,⟨⟨aa,aa,aa,aa,aa,aa,aa,aa,aa,aa,tv⟩,A8.refl _⟩⟩
   refine rno (neT hc18) ?_
   refine rno (neT hc18) ?_
   refine rno (neT hc18) ?_
   refine rq (out:=Pb false) (a1t hc18) ?_
   exact⟨false,h3l,⟨⟨aa,aa,aa,aa,aa,aa,aa,aa,aa,aa,tv⟩,A8.refl _⟩⟩
  replace h3l:=iteF hc15 h3l
  refine ep ?_
  obtain rfl:=ho3 _ (ojs h3l)
  exact⟨hy1,⟨trivial,A8.refl _⟩⟩
 intro D C' hj
 cases x26 with
 |inl x24=>
  replace h:(aft)=some r:=h
  obtain rfl:=hj
  intro T s0
  refine bm (fun e C=>aft=some r/\At [(6,Pr.pt b6 0),(7,Pb false)] [E0 b9 (Rp.list af) x22,E0 b10 Rp.str x23,E0 b4 (Rp.list af) x1,E0 b5 (Rp.fn (fun x=>d7 Tryz.prog (w8 x)) abx) x3,E0 b6 af (A9.mk 0 [] [] [] [] false [] 0 0),E0 b7 af (A9.mk 0 [] [] [] [] false [] 0 0),E0 b8 Rp.bool false] e C) ?_ ?_
  ·rintro e C ⟨h,a⟩
   refine W_at a ?_
   clear a
   unfold aft at h
   obtain rfl:=Option.some.inj h
   exact bj ⟨rfl,[(af).val (A9.mk 0 [] [] [] [] false [] 0 0),Pb false],⟨yBox 4 ty49 aa,yT aa,tv⟩,aa⟩
  refine fo [(2,4,E0 b6 af (A9.mk 0 [] [] [] [] false [] 0 0))] [E0 b9 (Rp.list af) x22,E0 b10 Rp.str x23,E0 b4 (Rp.list af) x1,E0 b5 (Rp.fn (fun x=>d7 Tryz.prog (w8 x)) abx) x3,E0 b6 af (A9.mk 0 [] [] [] [] false [] 0 0),E0 b7 af (A9.mk 0 [] [] [] [] false [] 0 0),E0 b8 Rp.bool false] hmx kr kr (show([2]:List Nat).Nodup by decide) (show([4]:List Nat).Nodup by decide) rfl rfl ?_
  refine eql 5 ty49 (Sub.refl _) rfl rfl kr ?_
  refine eql 6 ty4 (Sub.refl _) rfl rfl kr ?_
  refine eqs 4 sizeOf49 (Upd.refl _) rfl rfl rfl kr ?_
  refine eq1 (out:=Pb false) (fun C2 hC=>fw) ?_
  exact⟨h,⟨⟨aa,aa,tv⟩,A8.refl _⟩⟩
 |inr x27=>
  replace h:(afs x27)=some r:=h
  obtain⟨b12,b17,rfl⟩:=hj
  refine .inl ⟨rfl,fun T s0=>?_⟩
  refine bm (fun e C=>afs x27=some r/\At [(6,Pr.pt b6 0),(7,Pb true)] [E0 b9 (Rp.list af) x22,E0 b10 Rp.str x23,E0 b4 (Rp.list af) x1,E0 b5 (Rp.fn (fun x=>d7 Tryz.prog (w8 x)) abx) x3,E0 b6 af x27.1,E0 b7 af x27.1,E0 b8 Rp.bool true,E0 b12 af x27.2,E0 b17 af x27.1] e C) ?_ ?_
  ·rintro e C ⟨h,a⟩
   refine W_at a ?_
   clear a
   unfold afs at h
   obtain rfl:=Option.some.inj h
   exact bj ⟨rfl,[(af).val x27.1,Pb true],⟨yBox 4 ty49 aa,yT aa,tv⟩,aa⟩
  refine fo [(2,4,E0 b6 af x27.1)] [E0 b9 (Rp.list af) x22,E0 b10 Rp.str x23,E0 b4 (Rp.list af) x1,E0 b5 (Rp.fn (fun x=>d7 Tryz.prog (w8 x)) abx) x3,E0 b6 af x27.1,E0 b7 af x27.1,E0 b8 Rp.bool true,E0 b12 af x27.2,E0 b17 af x27.1] hmx kr kr (show([2]:List Nat).Nodup by decide) (show([4]:List Nat).Nodup by decide) rfl rfl ?_
  refine eql 5 ty49 (Sub.refl _) rfl rfl kr ?_
  refine eql 6 ty4 (Sub.refl _) rfl rfl kr ?_
  refine eqs 4 sizeOf49 (Upd.refl _) rfl rfl rfl kr ?_
  refine eq1 (out:=Pb true) (fun C2 hC=>fw) ?_
  exact⟨h,⟨⟨aa,aa,tv⟩,A8.refl _⟩⟩
theorem aqd (x1:A9) (x2:Bt) (r:Bool) (h:adc x1 x2=some r):Fp 156 [(af).val x1,qx Rp.str x2] (Pb r):=by
 refine dr (rs:=[3]) func156 rfl ntmps156 ⟨by decide,results156⟩ dcd (fun s0=>?_)
 unfold adc at h
 refine W_rs ?_
 refine rBox (R:=af) (a:=x1) rfl (fun b3=>?_)
 refine kAs rfl ?_
 refine bm (fun e C=>∃x5,wi x5=some r/\At [(3,Pb x5)] [E0 b3 af x1] e C) ?_ ?_
 ·rintro e C ⟨x5,h,a⟩
  refine W_at a ?_
  unfold wi at h
  obtain rfl:=osj h
  exact bj ⟨rfl,aa⟩
 refine W_r (kUn (ak xa) ?_)
 refine kUn (ax 0 ty3 ft) ?_
 refine kIn rfl rfl rfl (kMv rfl ?_)
 rcases cg h with⟨hc4,h⟩|⟨hc4,h⟩
 ·refine kGd rfl aa hc4 (ak af9) ?_
  refine kGd rfl aa hc4 (ax 0 ty9 jv) ?_
  refine kGd rfl aa hc4 (dn ty9) ?_
  refine kGd rfl aa hc4 (qStr rfl rfl rfl) (kPt rfl hc4 rfl (kAs rfl ?_))
  exact⟨x1.Name==x2,h,atOk⟩
 refine skx ?_
 refine kPf rfl hc4 rfl (kAs rfl ?_)
 exact⟨false,h,atOk⟩
theorem ahx (x1:List A9) (x2 x3:Bt) (r:A9 × Bool) (h:vk x1 x2 x3=some r):Fp 113 [ar af x1,Pr.str x2,Pr.str x3] (bu [(af).val r.1,Pb r.2]):=by
 refine dt (rs:=[.cell 6 49,.tmp 7]) func113 rfl ntmps113 results113 dcd (fun s0=>?_)
 unfold vk at h
 refine W_rs ?_
 refine rBox (R:=Rp.str) (a:=x3) rfl (fun b4=>?_)
 refine br sj fun b5=>kAs rfl (W_rs (kMvL rfl (kMv rfl ?_)))
 refine rRelB 0 [5] ?_ rfl ⟨rfl,tv⟩
 refine kUn tg ?_
 obtain⟨⟨x6,x7⟩,k,h⟩:=aj h
 refine kUn (acy (aq3 x1 x2 (fun a0=>adc a0 x3) _ k) ⟨aa,aa,(ay3 en156 (fun _ _ hs=>by obtain⟨a0,r,rfl,rfl,hr⟩:=hs;exact aqd a0 x3 r hr)),tv⟩) ?_
 refine kUn aq ?_
 refine kUn aq ?_
 refine au 0 rfl rfl (Upd.refl _) rfl sizeOf49 (kAs rfl ?_)
 obtain rfl:=osj h
 exact bj ⟨rfl,[(af).val x6,Pb x7],⟨yBox 0 ty49 aa,yT aa,tv⟩,aa⟩
theorem apj (x1:A9) (x2:Bt) (r:Bool) (h:abr x1 x2=some r):Fp 157 [(af).val x1,qx Rp.str x2] (Pb r):=by
 refine dr (rs:=[3]) func157 rfl ntmps157 ⟨by decide,results157⟩ dcd (fun s0=>?_)
 unfold abr at h
 refine W_rs ?_
 refine rBox (R:=af) (a:=x1) rfl (fun b3=>?_)
 refine kAs rfl ?_
 refine bm (fun e C=>∃x5,ud x5=some r/\At [(3,Pb x5)] [E0 b3 af x1] e C) ?_ ?_
 ·rintro e C ⟨x5,h,a⟩
  refine W_at a ?_
  unfold ud at h
  obtain rfl:=osj h
  exact bj ⟨rfl,aa⟩
 refine W_r (kUn (ak xa) ?_)
 refine kUn (ax 0 ty3 ft) ?_
 refine kIn rfl rfl rfl (kMv rfl ?_)
 rcases cg h with⟨hc4,h⟩|⟨hc4,h⟩
 ·refine kGd rfl aa hc4 (ak af9) ?_
  refine kGd rfl aa hc4 (ax 0 ty9 jv) ?_
  refine kGd rfl aa hc4 (dn ty9) ?_
  refine kGd rfl aa hc4 (qStr rfl rfl rfl) (kPt rfl hc4 rfl (kAs rfl ?_))
  exact⟨x1.Name==x2,h,atOk⟩
 refine skx ?_
 refine kPf rfl hc4 rfl (kAs rfl ?_)
 exact⟨false,h,atOk⟩
theorem agm (x1:List A9) (x2 x3:Bt) (r:A9 × Bool) (h:uu x1 x2 x3=some r):Fp 117 [ar af x1,Pr.str x2,Pr.str x3] (bu [(af).val r.1,Pb r.2]):=by
 refine dt (rs:=[.cell 6 49,.tmp 7]) func117 rfl ntmps117 results117 dcd (fun s0=>?_)
 unfold uu at h
 refine W_rs ?_
 refine rBox (R:=Rp.str) (a:=x3) rfl (fun b4=>?_)
 refine br sj fun b5=>kAs rfl (W_rs (kMvL rfl (kMv rfl ?_)))
 refine rRelB 0 [5] ?_ rfl ⟨rfl,tv⟩
 refine kUn tg ?_
 obtain⟨⟨x6,x7⟩,k,h⟩:=aj h
 refine kUn (acy (aq3 x1 x2 (fun a0=>abr a0 x3) _ k) ⟨aa,aa,(ay3 en157 (fun _ _ hs=>by obtain⟨a0,r,rfl,rfl,hr⟩:=hs;exact apj a0 x3 r hr)),tv⟩) ?_
 refine kUn aq ?_
 refine kUn aq ?_
 refine au 0 rfl rfl (Upd.refl _) rfl sizeOf49 (kAs rfl ?_)
 obtain rfl:=osj h
 exact bj ⟨rfl,[(af).val x6,Pb x7],⟨yBox 0 ty49 aa,yT aa,tv⟩,aa⟩
theorem ab5 (x1 x2:List Bt) (r:Bool) (h:i8 x1 x2=some r):Fp 162 [ar Rp.str x1,ar Rp.str x2] (Pb r):=by
 refine dr (rs:=[4]) func162 rfl ntmps162 ⟨by decide,results162⟩ dcd (fun s0=>?_)
 unfold i8 at h
 refine W_rs (kAs rfl (ba (W_rs (kMvL rfl (kUn (ma rfl underlying22) ?_)))))
 refine kMvL rfl (kUn (ma rfl underlying22) ?_)
 refine kIn rfl rfl rfl ?_
 refine bc h rfl (fun _ h=>?_) (fun _ h=>?_)
 ·refine W_rs (kAs rfl ?_)
  obtain rfl:=osj h
  exact bj ⟨rfl,aa⟩
 refine aw (ba (W_rs (kMvL rfl (kUn (ma rfl underlying22) ?_))))
 refine kMv rfl (ay ?_)
 obtain⟨z2l,hz2,h⟩:=aj h
 obtain⟨n2,hN2⟩:=bt hz2
 refine dl 0 (fun e C=>mf=some r/\At [] [] e C) ?_ ?_
 ·rintro e C ⟨h,a⟩
  refine W_at a ?_
  unfold mf at h
  refine W_rs (kAs rfl ?_)
  obtain rfl:=osj h
  exact bj ⟨rfl,aa⟩
 refine fb (fun m e C=>∃x4,fp (fun s=>e8 x1 x2 s) m x4=some z2l/\At [(0,ar Rp.str x1),(1,ar Rp.str x2),(12,P6 (x1.length:Int)),(13,P6 x4)] [] e C) n2 ⟨0,hN2,⟨⟨aa,aa,aa,aa,tv⟩,A8.refl _⟩⟩ ?_
 rintro m e C ⟨x4,hN2,a⟩
 refine W_at a ?_
 obtain⟨m2,w2l,rfl,h2l,hn2,ho2⟩:=bl hN2
 replace h2l:e8 x1 x2 x4=some w2l:=h2l
 unfold e8 at h2l
 refine W_rs (kIn rfl rfl rfl (ba ?_))
 refine bc h2l rfl (fun _ h2l=>?_) (fun _ h2l=>?_)
 ·refine aw (ba (ay (W_rs (kMv rfl (kAs rfl ?_)))))
  refine bm (fun e C=>∃x7,∃x8,jp x4 x7 x8=some w2l/\At [(0,ar Rp.str x1),(1,ar Rp.str x2),(12,P6 (x1.length:Int)),(13,P6 x4),(24,Pb (!(x7==x8)))] [] e C) ?_ ?_
  ·rintro e C ⟨x7,x8,h2l,a⟩
   refine W_at a ?_
   unfold jp at h2l
   refine bc h2l rfl (fun _ h2l=>?_) (fun _ h2l=>?_)
   ·refine W_rs (kAs rfl ?_)
    obtain rfl:=ho2 _ (ojs h2l)
    replace h:some false=some r:=h
    obtain rfl:=osj h
    exact bj ⟨rfl,aa⟩
   refine aw (W_r (kIn rfl rfl rfl (kMv rfl ?_)))
   exact⟨m2,lsu,w64 (x4+1),hn2 _ (ojs h2l),atOk⟩
  refine mh 9 hmx kr kr ?_
  refine lUn (hMvL rfl) (lUn (hMvA rfl) ?_)
  obtain⟨x7,k,h2l⟩:=aj h2l
  refine lUn (gu underlying22 sizeOf9 k) ?_
  refine lUn (dn ty9) ?_
  refine lUn (hMvL rfl) (lUn (hMvA rfl) ?_)
  obtain⟨x8,k,h2l⟩:=aj h2l
  refine lUn (gu underlying22 sizeOf9 k) ?_
  refine lUn (dn ty9) ?_
  refine lUn (qStr rfl rfl rfl) ?_
  exact⟨x7,x8,h2l,atOk⟩
 refine ep ?_
 obtain rfl:=ho2 _ (ojs h2l)
 exact⟨h,atOk⟩
theorem auh (x1 x2:A9) (r:Bool) (h:aj7 x1 x2=some r):Fp 125 [(af).val x1,(af).val x2] (Pb r):=by
 refine dr (rs:=[4]) func125 rfl ntmps125 ⟨by decide,results125⟩ dcd (fun s0=>?_)
 unfold aj7 at h
 refine W_rs ?_
 refine rBox (R:=af) (a:=x1) rfl (fun b3=>?_)
 refine rBox (R:=af) (a:=x2) rfl (fun b4=>?_)
 refine kAs rfl ?_
 refine bm (fun e C=>∃x10,yb x10=some r/\At [(4,Pb x10)] [E0 b3 af x1,E0 b4 af x2] e C) ?_ ?_
 ·rintro e C ⟨x10,h,a⟩
  refine W_at a ?_
  unfold yb at h
  obtain rfl:=osj h
  exact bj ⟨rfl,aa⟩
 refine W_r (kUn (ak af8) ?_)
 refine kUn (ax 0 ty9 i0) ?_
 refine kUn (ak af8) ?_
 refine kUn (ax 1 ty9 i0) ?_
 refine kSt rfl rfl rfl (kMv rfl ?_)
 rcases cg h with⟨hc5,h⟩|⟨hc5,h⟩
 ·refine kGd rfl aa hc5 (ak avd) ?_
  refine kGd rfl aa hc5 (ax 0 ty4 xl) ?_
  refine kGd rfl aa hc5 (ak avd) ?_
  refine kGd rfl aa hc5 (ax 1 ty4 xl) ?_
  refine kGd rfl aa hc5 (ayt underlying4) ?_
  refine kPt rfl hc5 rfl (kMv rfl ?_)
  rcases cg h with⟨hc6,h⟩|⟨hc6,h⟩
  ·refine kGd rfl aa hc6 (ak alo) ?_
   refine kGd rfl aa hc6 (ax 0 ty22 ado) ?_
   refine kGd rfl aa hc6 (ak alo) ?_
   refine kGd rfl aa hc6 (ax 1 ty22 ado) ?_
   obtain⟨x7,k,h⟩:=aj h
   refine kGd rfl aa hc6 (dv (ab5 x1.Params x2.Params _ k)) ?_
   refine kPt rfl hc6 rfl (kAs rfl ?_)
   exact⟨x7,h,atOk⟩
  refine skx ?_
  refine kPf rfl hc6 rfl (kAs rfl ?_)
  exact⟨false,h,atOk⟩
 refine skx ?_
 refine kPf rfl hc5 rfl (kMv rfl ?_)
 have hc8:false=false:=rfl
 refine skx ?_
 refine kPf rfl hc8 rfl (kAs rfl ?_)
 exact⟨false,h,atOk⟩
end Go.Proofs.YtcndghapmoaidaaGreatDoor
set_option linter.unusedSectionVars false
set_option maxRecDepth 100000
set_option maxHeartbeats 4000000
namespace Go.Proofs.YtcndghapmoaidaaGreatDoor
open Go Go.Cn Tryz
attribute [local irreducible] qx ar
theorem auf (x1:List A9) (x2:A9) (r:Int) (h:ahf x1 x2=some r):Fp 72 [ar af x1,(af).val x2] (P6 r):=by
 refine dr (rs:=[4]) func72 rfl ntmps72 ⟨by decide,results72⟩ dcd (fun s0=>?_)
 unfold ahf at h
 refine W_rs ?_
 refine rBox (R:=af) (a:=x2) rfl (fun b3=>?_)
 let p1:=E0 b3 af x2
 refine kAs rfl (W_rs (kMvL rfl (kUn (ak alp) ?_)))
 refine kUn (ax 0 ty9 oj) ?_
 obtain⟨⟨x4,x5⟩,k,h⟩:=aj h
 refine kUn (dv (ahu x1 x2.Owner _ k)) ?_
 refine kUn (hMv (out:=bu [(af).val x4,Pb x5]) rfl) (kUn aq ?_)
 refine kUn aq ?_
 refine br sj fun b6=>au 1 rfl rfl (Upd.refl _) rfl sizeOf49 (kAs rfl (ba ?_))
 let p2:=E0 b6 af x4
 refine bm (fun e C=>∃x8,abo x2 x1 x4 x8=some r/\At [(0,ar af x1),(3,Pr.pt b3 0),(5,Pr.pt b6 0),(26,Pb x8)] [p1,p2] e C) ?_ ?_
 ·rintro e C ⟨x8,h,a⟩
  refine W_at a ?_
  unfold abo at h
  refine bc h rfl (fun _ h=>?_) (fun _ h=>?_)
  ·refine W_rs (kAs rfl ?_)
   obtain rfl:=osj h
   exact bj ⟨rfl,aa⟩
  refine aw ?_
  refine bm (fun e C=>tn=some r/\At [] [p1,p2] e C) ?_ ?_
  ·rintro e C ⟨h,a⟩
   refine W_at a ?_
   unfold tn at h
   refine W_rs (kAs rfl ?_)
   obtain rfl:=osj h
   exact bj ⟨rfl,aa⟩
  refine W_rs (kUn (ak xa) ?_)
  refine kUn (ax 0 ty3 ft) ?_
  refine ay (W_rs (kIn rfl rfl rfl (kAs rfl ?_)))
  refine bc h rfl (fun _ h=>?_) (fun _ h=>?_)
  ·refine W_rs (kMvL rfl (kUn (ak af8) ?_))
   refine kUn (ax 0 ty9 i0) ?_
   obtain⟨⟨x11,x12⟩,k,h⟩:=aj h
   refine kUn (dv (ahu x1 x2.Type_ _ k)) ?_
   refine kUn (hMv (out:=bu [(af).val x11,Pb x12]) rfl) (kUn aq ?_)
   refine kUn aq ?_
   refine br sj fun b13=>au 2 rfl rfl (Upd.refl _) rfl sizeOf49 (kAs rfl ?_)
   refine bm (fun e C=>∃x17,ya x17=some r/\At [(52,Pb x17)] [p1,p2,E0 b13 af x11] e C) ?_ ?_
   ·rintro e C ⟨x17,h,a⟩
    refine W_at a ?_
    unfold ya at h
    refine bc h rfl (fun _ h=>?_) (fun _ h=>?_)
    ·refine W_rs (kAs rfl ?_)
     obtain rfl:=osj h
     exact bj ⟨rfl,aa⟩
    refine aw ?_
    exact⟨h,⟨trivial,A8.of [0,1] rfl⟩⟩
   refine W_r (kUn (ak af8) ?_)
   refine kUn (ax 0 ty9 i0) ?_
   refine kSt rfl rfl rfl (kMv rfl ?_)
   rcases cg h with⟨hc14,h⟩|⟨hc14,h⟩
   ·refine kGd rfl aa hc14 (hMvA rfl) (kGd rfl aa hc14 (qNot rfl) (kGd rfl aa hc14 (hMvA rfl) ?_))
    rcases cg h with⟨hc15,h⟩|⟨hc15,h⟩
    ·refine skx ?_
     refine kGd rfl aa hc14 (hPt rfl hc15 rfl) (kPt rfl hc14 rfl ?_)
     exact⟨true,h,atOk⟩
    refine kGd rfl aa hc15 (hMvL rfl) (kGd rfl aa hc15 (ak af8) ?_)
    refine kGd rfl aa hc15 (ax 0 ty9 i0) ?_
    refine kGd rfl aa hc15 (ak ra) ?_
    refine kGd rfl aa hc15 (ax 0 ty9 g0) ?_
    obtain⟨x16,k,h⟩:=aj h
    refine kGd rfl aa hc15 (dv (auk x1 x2.Type_ x2.Id _ k)) ?_
    refine kGd rfl aa hc14 (hPf rfl hc15 rfl) (kPt rfl hc14 rfl ?_)
    exact⟨x16,h,atOk⟩
   refine skx ?_
   refine kPf rfl hc14 rfl ?_
   exact⟨false,h,atOk⟩
  refine W_rs (kIn rfl rfl rfl (kAs rfl ?_))
  refine bc h rfl (fun _ h=>?_) (fun _ h=>?_)
  ·refine W_rs (kMvL rfl (kUn (ak af8) ?_))
   refine kUn (ax 1 ty9 i0) ?_
   refine kUn (ak af9) ?_
   refine kUn (ax 0 ty9 jv) ?_
   obtain⟨⟨x20,x21⟩,k,h⟩:=aj h
   refine kUn (dv (ahx x1 x4.Type_ x2.Name _ k)) ?_
   refine kUn (hMv (out:=bu [(af).val x20,Pb x21]) rfl) (kUn aq ?_)
   refine kUn aq ?_
   refine br sj fun b22=>au 2 rfl rfl (Upd.refl _) rfl sizeOf49 (kAs rfl (W_rs (kMv rfl ?_)))
   refine bc h rfl (fun _ h=>?_) (fun _ h=>?_)
   ·refine W_rs (kAs rfl ?_)
    obtain rfl:=osj h
    exact bj ⟨rfl,aa⟩
   refine aw ?_
   exact⟨h,⟨trivial,A8.of [0,1] rfl⟩⟩
  refine W_rs (kIn rfl rfl rfl (kAs rfl ?_))
  refine bc h rfl (fun _ h=>?_) (fun _ h=>?_)
  ·refine W_rs (kMvL rfl (kUn (ak af8) ?_))
   refine kUn (ax 1 ty9 i0) ?_
   refine kUn (ak af9) ?_
   refine kUn (ax 0 ty9 jv) ?_
   obtain⟨⟨x25,x26⟩,k,h⟩:=aj h
   refine kUn (dv (agm x1 x4.Type_ x2.Name _ k)) ?_
   refine kUn (hMv (out:=bu [(af).val x25,Pb x26]) rfl) (kUn aq ?_)
   refine kUn aq ?_
   refine br sj fun b27=>au 2 rfl rfl (Upd.refl _) rfl sizeOf49 (kAs rfl ?_)
   refine bm (fun e C=>∃x30,abp x30=some r/\At [(82,Pb x30)] [p1,p2,E0 b27 af x25] e C) ?_ ?_
   ·rintro e C ⟨x30,h,a⟩
    refine W_at a ?_
    unfold abp at h
    refine bc h rfl (fun _ h=>?_) (fun _ h=>?_)
    ·refine W_rs (kAs rfl ?_)
     obtain rfl:=osj h
     exact bj ⟨rfl,aa⟩
    refine aw ?_
    exact⟨h,⟨trivial,A8.of [0,1] rfl⟩⟩
   refine W_r (kMv rfl (kMv rfl ?_))
   rcases cg h with⟨hc28,h⟩|⟨hc28,h⟩
   ·refine kGd rfl aa hc28 (ax 2 ty49 (Sub.refl _)) ?_
    refine kGd rfl aa hc28 (ax 0 ty49 (Sub.refl _)) ?_
    obtain⟨x29,k,h⟩:=aj h
    refine kGd rfl aa hc28 (dv (auh x25 x2 _ k)) ?_
    refine kGd rfl aa hc28 (qNot rfl) (kPt rfl hc28 rfl ?_)
    exact⟨!x29,h,atOk⟩
   refine skx ?_
   refine kPf rfl hc28 rfl ?_
   exact⟨false,h,atOk⟩
  refine aw ?_
  exact⟨h,atOk⟩
 refine W_r (kUn (ak xa) ?_)
 refine kUn (ax 0 ty3 ft) ?_
 refine kIn rfl rfl rfl (kMv rfl ?_)
 rcases cg h with⟨hc7,h⟩|⟨hc7,h⟩
 ·refine kGd rfl aa hc7 (hMvA rfl) (kGd rfl aa hc7 (qNot rfl) (kPt rfl hc7 rfl ?_))
  exact⟨!x5,h,atOk⟩
 refine skx ?_
 refine kPf rfl hc7 rfl ?_
 exact⟨false,h,atOk⟩
theorem aui (x1:List A9) (r:B3) (h:ahg x1=some r):Fp 35 [ar af x1] ((az).val r):=by
 refine dt (rs:=[.cell 2 30]) func35 rfl ntmps35 results35 dcd (fun s0=>?_)
 unfold ahg at h
 refine W_rs (br al30 fun b2=>ba (W_rs (kMvL rfl (kUn (ma rfl underlying38) ?_))))
 refine kMv rfl (ay ?_)
 obtain⟨z2l,hz2,h⟩:=aj h
 obtain⟨n2,hN2⟩:=bt hz2
 refine dl 0 (fun e C=>ahz=some r/\At [(2,Pr.pt b2 0)] [E0 b2 az (B3.mk 0 0 0)] e C) ?_ ?_
 ·rintro e C ⟨h,a⟩
  refine W_at a ?_
  unfold ahz at h
  refine W_rs (kUn (jh st30 rfl) ?_)
  refine au 0 rfl rfl (Upd.refl _) rfl sizeOf30 ?_
  obtain rfl:=osj h
  exact bj ⟨rfl,[(az).val (B3.mk 0 0 0)],⟨yBox 0 ty30 aa,tv⟩,aa⟩
 refine fb (fun m e C=>∃x3,fp (fun s=>tq x1 s) m x3=some z2l/\At [(0,ar af x1),(2,Pr.pt b2 0),(6,ar af x1),(7,P6 (x1.length:Int)),(8,P6 x3)] [E0 b2 az (B3.mk 0 0 0)] e C) n2 ⟨0,hN2,⟨⟨aa,aa,aa,aa,aa,tv⟩,A8.refl _⟩⟩ ?_
 rintro m e C ⟨x3,hN2,a⟩
 refine W_at a ?_
 obtain⟨m2,w2l,rfl,h2l,hn2,ho2⟩:=bl hN2
 replace h2l:tq x1 x3=some w2l:=h2l
 unfold tq at h2l
 refine W_rs (kIn rfl rfl rfl (ba ?_))
 refine bc h2l rfl (fun _ h2l=>?_) (fun _ h2l=>?_)
 ·refine aw (ba (ay (W_rs ?_)))
  obtain⟨x6,k,h2l⟩:=aj h2l
  refine kUn (gu underlying38 sizeOf49 k) ?_
  refine kUn (dn ty49) ?_
  refine br sj fun b7=>au 1 rfl rfl (Upd.refl _) rfl sizeOf49 (W_rs (kMvL rfl (kUn (ax 1 ty49 (Sub.refl _)) ?_)))
  refine c8 h2l (auf x1 x6) rfl fun x8 _ h2l=>kAs rfl (W_rs (kMv rfl (kIn rfl rfl rfl ?_)))
  refine bc h2l rfl (fun _ h2l=>?_) (fun _ h2l=>?_)
  ·refine W_rs (kMv rfl (kUn (ak anx) ?_))
   refine kUn (ax 1 ty3 z0) ?_
   refine kUn (ak avc) ?_
   refine kUn (ax 1 ty3 adk) ?_
   refine kUn (jh st30 ⟨(B3.mk x8 0 0),⟨_,rfl,rfl,qbj⟩,⟨(B3.mk x8 x6.File 0),⟨_,rfl,rfl,qbj⟩,⟨(B3.mk x8 x6.File x6.At),⟨_,rfl,rfl,qbj⟩,rfl⟩⟩⟩) ?_
   refine au 0 rfl rfl (Upd.refl _) rfl sizeOf30 ?_
   obtain rfl:=ho2 _ (ojs h2l)
   replace h:some (B3.mk x8 x6.File x6.At)=some r:=h
   obtain rfl:=osj h
   exact bj ⟨rfl,[(az).val (B3.mk x8 x6.File x6.At)],⟨yBox 0 ty30 aa,tv⟩,aa⟩
  refine aw (W_r (kIn rfl rfl rfl (kMv rfl ?_)))
  exact⟨m2,lsu,w64 (x3+1),hn2 _ (ojs h2l),⟨⟨aa,aa,aa,aa,aa,tv⟩,A8.of [0] rfl⟩⟩
 refine ep ?_
 obtain rfl:=ho2 _ (ojs h2l)
 exact⟨h,atOk⟩
theorem ab4 (x1:List Bt) (x2:Bt) (r:Int) (h:kl x1 x2=some r):Fp 119 [ar Rp.str x1,Pr.str x2] (P6 r):=by
 refine dr (rs:=[4]) func119 rfl ntmps119 ⟨by decide,results119⟩ dcd (fun s0=>?_)
 unfold kl at h
 refine W_rs (kAs rfl (ba (W_rs (kMvL rfl (kUn (ma rfl underlying22) ?_)))))
 refine kMv rfl (ay ?_)
 obtain⟨z2l,hz2,h⟩:=aj h
 obtain⟨n2,hN2⟩:=bt hz2
 refine dl 0 (fun e C=>jo=some r/\At [] [] e C) ?_ ?_
 ·rintro e C ⟨h,a⟩
  refine W_at a ?_
  unfold jo at h
  refine W_rs (kAs rfl ?_)
  obtain rfl:=osj h
  exact bj ⟨rfl,aa⟩
 refine fb (fun m e C=>∃x3,fp (fun s=>ez x1 x2 s) m x3=some z2l/\At [(0,ar Rp.str x1),(1,Pr.str x2),(7,P6 (x1.length:Int)),(8,P6 x3)] [] e C) n2 ⟨0,hN2,⟨⟨aa,aa,aa,aa,tv⟩,A8.refl _⟩⟩ ?_
 rintro m e C ⟨x3,hN2,a⟩
 refine W_at a ?_
 obtain⟨m2,w2l,rfl,h2l,hn2,ho2⟩:=bl hN2
 replace h2l:ez x1 x2 x3=some w2l:=h2l
 unfold ez at h2l
 refine W_rs (kIn rfl rfl rfl (ba ?_))
 refine bc h2l rfl (fun _ h2l=>?_) (fun _ h2l=>?_)
 ·refine aw (ba (ay (W_rs (kMv rfl (kAs rfl (W_rs (kMv rfl (kMvL rfl (kMv rfl ?_)))))))))
  obtain⟨x6,k,h2l⟩:=aj h2l
  refine kUn (gu underlying22 sizeOf9 k) ?_
  refine kUn (dn ty9) ?_
  refine kSt rfl rfl rfl ?_
  refine bc h2l rfl (fun _ h2l=>?_) (fun _ h2l=>?_)
  ·refine W_rs (kMv rfl (kAs rfl ?_))
   obtain rfl:=ho2 _ (ojs h2l)
   replace h:some x3=some r:=h
   obtain rfl:=osj h
   exact bj ⟨rfl,aa⟩
  refine aw (W_r (kIn rfl rfl rfl (kMv rfl ?_)))
  exact⟨m2,lsu,w64 (x3+1),hn2 _ (ojs h2l),atOk⟩
 refine ep ?_
 obtain rfl:=ho2 _ (ojs h2l)
 exact⟨h,atOk⟩
theorem pq (x1:List Bt) (x2:Bt) (r:Bool) (h:fv x1 x2=some r):Fp 70 [ar Rp.str x1,Pr.str x2] (Pb r):=by
 refine dr (rs:=[4]) func70 rfl ntmps70 ⟨by decide,results70⟩ dcd (fun s0=>?_)
 unfold fv at h
 refine W_rs (kAs rfl (W_rs (kMvL rfl (kMv rfl (c8 h (ab4 x1 x2) rfl fun x3 _ h=>kIn rfl rfl rfl (kAs rfl ?_))))))
 obtain rfl:=osj h
 exact bj ⟨rfl,aa⟩
theorem zf (x1:B6) (x2:A9) (x3:Bool) (r:A9 × Int) (h:ll x1 x2 x3=some r):Fp 115 [(am).val x1,(af).val x2,Pb x3] (bu [(af).val r.1,P6 r.2]):=by
 refine dt (rs:=[.cell 6 49,.tmp 7]) func115 rfl ntmps115 results115 dcd (fun s0=>?_)
 unfold ll at h
 refine W_rs ?_
 refine rBox (R:=am) (a:=x1) rfl (fun b4=>?_)
 refine rBox (R:=af) (a:=x2) rfl (fun b5=>?_)
 refine br sj fun b6=>kAs rfl (ba (W_rs (kMv rfl (kNo rfl ?_))))
 refine bc h rfl (fun _ h=>?_) (fun _ h=>?_)
 ·refine W_rs (kUn (jh st49 rfl) ?_)
  refine au 2 rfl rfl (Upd.refl _) rfl sizeOf49 (kAs rfl ?_)
  obtain rfl:=osj h
  exact bj ⟨rfl,[(af).val (A9.mk 0 [] [] [] [] false [] 0 0),P6 170],⟨yBox 2 ty49 aa,yT aa,tv⟩,aa⟩
 refine aw (W_rs (kUn (ax 1 ty49 (Sub.refl _)) ?_))
 refine au 2 rfl rfl (Upd.refl _) rfl sizeOf49 (kAs rfl ?_)
 obtain rfl:=osj h
 exact bj ⟨rfl,[(af).val x2,P6 0],⟨yBox 2 ty49 aa,yT aa,tv⟩,aa⟩
theorem ri (x1:B6) (x2:Bt) (r:A9 × Bool) (h:jn x1 x2=some r):Fp 116 [(am).val x1,Pr.str x2] (bu [(af).val r.1,Pb r.2]):=by
 refine dt (rs:=[.cell 4 49,.tmp 5]) func116 rfl ntmps116 results116 dcd (fun s0=>?_)
 let p1:=A9.mk 0 [] [] [] [] false [] 0 0
 unfold jn at h
 refine W_rs ?_
 refine rBox (R:=am) (a:=x1) rfl (fun b3=>?_)
 refine br sj fun b4=>kAs rfl (ba (W_rs (kUn (ak anv) ?_)))
 refine kUn (ax 0 ty38 oh) ?_
 refine kUn (ma rfl underlying38) ?_
 refine kMv rfl (ay ?_)
 obtain⟨z2l,hz2,h⟩:=aj h
 obtain⟨n2,hN2⟩:=bt hz2
 refine dl 0 (fun e C=>xo=some r/\At [(4,Pr.pt b4 0)] [E0 b3 am x1,E0 b4 af p1] e C) ?_ ?_
 ·rintro e C ⟨h,a⟩
  refine W_at a ?_
  unfold xo at h
  refine W_rs (kUn (jh st49 rfl) ?_)
  refine au 1 rfl rfl (Upd.refl _) rfl sizeOf49 (kAs rfl ?_)
  obtain rfl:=osj h
  exact bj ⟨rfl,[(af).val p1,Pb false],⟨yBox 1 ty49 aa,yT aa,tv⟩,aa⟩
 refine fb (fun m e C=>∃x5,fp (fun s=>jt x1 x2 s) m x5=some z2l/\At [(1,Pr.str x2),(4,Pr.pt b4 0),(9,ar af x1.Table),(10,P6 (x1.Table.length:Int)),(11,P6 x5)] [E0 b3 am x1,E0 b4 af p1] e C) n2 ⟨0,hN2,⟨⟨aa,aa,aa,aa,aa,tv⟩,A8.refl _⟩⟩ ?_
 rintro m e C ⟨x5,hN2,a⟩
 refine W_at a ?_
 obtain⟨m2,w2l,rfl,h2l,hn2,ho2⟩:=bl hN2
 replace h2l:jt x1 x2 x5=some w2l:=h2l
 unfold jt at h2l
 refine W_rs (kIn rfl rfl rfl (ba ?_))
 refine bc h2l rfl (fun _ h2l=>?_) (fun _ h2l=>?_)
 ·refine aw (ba (ay (W_rs ?_)))
  obtain⟨x8,k,h2l⟩:=aj h2l
  refine kUn (gu underlying38 sizeOf49 k) ?_
  refine kUn (dn ty49) ?_
  refine br sj fun b9=>au 2 rfl rfl (Upd.refl _) rfl sizeOf49 ?_
  refine bm (fun e C=>∃x11,nr x8 x5 x11=some w2l/\At [(1,Pr.str x2),(4,Pr.pt b4 0),(7,Pr.pt b9 0),(9,ar af x1.Table),(10,P6 (x1.Table.length:Int)),(11,P6 x5),(23,Pb x11)] [E0 b3 am x1,E0 b4 af p1,E0 b9 af x8] e C) ?_ ?_
  ·rintro e C ⟨x11,h2l,a⟩
   refine W_at a ?_
   unfold nr at h2l
   refine bc h2l rfl (fun _ h2l=>?_) (fun _ h2l=>?_)
   ·refine W_rs (kUn (ax 2 ty49 (Sub.refl _)) ?_)
    refine au 1 rfl rfl (Upd.refl _) rfl sizeOf49 (kAs rfl ?_)
    obtain rfl:=ho2 _ (ojs h2l)
    replace h:some (x8,true)=some r:=h
    obtain rfl:=osj h
    exact bj ⟨rfl,[(af).val x8,Pb true],⟨yBox 1 ty49 aa,yT aa,tv⟩,aa⟩
   refine aw (W_r (kIn rfl rfl rfl (kMv rfl ?_)))
   exact⟨m2,lsu,w64 (x5+1),hn2 _ (ojs h2l),⟨⟨aa,aa,aa,aa,aa,tv⟩,A8.of [0,1] rfl⟩⟩
  refine W_r (kUn (ak xa) ?_)
  refine kUn (ax 2 ty3 ft) ?_
  refine kIn rfl rfl rfl (kMv rfl ?_)
  rcases cg h2l with⟨hc10,h2l⟩|⟨hc10,h2l⟩
  ·refine kGd rfl aa hc10 (ak ra) ?_
   refine kGd rfl aa hc10 (ax 2 ty9 g0) ?_
   refine kGd rfl aa hc10 (hMvA rfl) (kGd rfl aa hc10 (qStr rfl rfl rfl) (kPt rfl hc10 rfl ?_))
   exact⟨x8.Id==x2,h2l,atOk⟩
  refine skx ?_
  refine kPf rfl hc10 rfl ?_
  exact⟨false,h2l,atOk⟩
 refine ep ?_
 obtain rfl:=ho2 _ (ojs h2l)
 exact⟨h,atOk⟩
theorem kf (x1 x2:Int) (x4:B8) (b3:Nat) (v5:Value) (r:PX B9 B8) (h:kz x1 x2 x4=some r):FnX Tryz.prog 126 [Pr.pt b3 0,P6 x1,P6 x2] [E0 b3 ap (D4.mk v5 x4.file x4.method x4.many),E3 v5 al x4.uses 47] (fun q C'=>∃a9,r= .ok a9/\∃w100,q=bu []/\C'=[E0 b3 ap (D4.mk w100 a9.file a9.method a9.many),E3 w100 al a9.uses 47]) (fun v=>∃m,r= .bad m/\v=abw m):=by
 refine al1 (rs:=[]) func126 rfl ntmps126 ⟨by decide,results126⟩ dcd (fun s0=>?_)
 let p1:=B3.mk x1 x4.file x2
 unfold kz at h
 refine W_rs (kMv rfl (kIn rfl rfl rfl ?_))
 refine bc h rfl (fun _ h=>?_) (fun _ h=>?_)
 ·refine W_r (kMv rfl (kMv rfl (kNp rfl (kUn (ak arx) ?_))))
  refine kUn (ax 0 ty3 ul) ?_
  refine kMv rfl (kUn (jh st30 ⟨(B3.mk x1 0 0),⟨_,rfl,rfl,qbj⟩,⟨(B3.mk x1 x4.file 0),⟨_,rfl,rfl,qbj⟩,⟨p1,⟨_,rfl,rfl,qbj⟩,rfl⟩⟩⟩) ?_)
  refine kUn (jh st72 ⟨(B9.mk p1),⟨_,rfl,rfl,qbj⟩,rfl⟩) ?_
  refine kUn (qMkIfc underlying72 rfl) ?_
  refine rPanic (p:=ayi 72 ((ku).val (B9.mk p1))) (Die:=fun v=>v=abw (B9.mk p1)) (axs _) ?_ aa
  rintro _ rfl
  obtain rfl:=osj h
  exact .inr ⟨_,rfl,_,rfl,rfl⟩
 refine aw ?_
 obtain rfl:=osj h
 exact(.inl ⟨.inr rfl,_,A8.refl _,_,aa,_,rfl,v5,rfl,rfl⟩)
theorem ael (x1:Int) (x2:Bt) (x4:B8) (b3:Nat) (v5:Value) (r:B8) (h:nm x1 x2 x4=some r):Fc 127 [Pr.pt b3 0,P6 x1,Pr.str x2] [E0 b3 ap (D4.mk v5 x4.file x4.method x4.many),E3 v5 al x4.uses 47] (fun q C'=>∃w100,q=bu []/\C'=[E0 b3 ap (D4.mk w100 r.file r.method r.many),E3 w100 al r.uses 47]):=by
 refine ic (rs:=[]) func127 rfl ntmps127 ⟨by decide,results127⟩ dcd (fun s0=>?_)
 let p1:=D4.mk v5 x4.file x4.method x4.many
 let p2:=B7.mk x4.file x1 x2
 unfold nm at h
 obtain⟨x6,k,h⟩:=aj h
 refine aes [0,0,2,6,14,0,32,96,224,0,0,2016,4064,8190,16383,32767,65535] [[],[],[],[],[E0 b3 ap p1],[],[],[],[E0 b3 ap p1],[],[],[],[],[],[],[],[]] hmx kr kr kr rfl ?_
 refine aq0 0 1 (out:=Pr.pt b3 0) rfl (fun C9=>gk) ?_
 refine aq0 1 3 (out:=Pr.pt b3 0) rfl (fun C9=>gk) ?_
 refine aq0 2 7 (out:=Pr.pt b3 0) rfl (fun C9=>ag1) ?_
 refine aq0 3 15 (out:=Pr.pt b3 0) rfl (fun C9=>(ak ary)) ?_
 refine aq1 4 31 0 (out:=Pi v5) rfl rfl (fun C9 i9 h9=>(aaa (R:=ap) (a:=p1) i9 ty27 uj (hi:=h9))) ?_
 refine aq0 5 63 (out:=Pr.pt b3 0) rfl (fun C9=>gk) ?_
 refine aq0 6 127 (out:=Pr.pt b3 0) rfl (fun C9=>ag1) ?_
 refine aq0 7 255 (out:=Pr.pt b3 1) rfl (fun C9=>(ak arx)) ?_
 refine aq1 8 511 0 (out:=P6 x4.file) rfl rfl (fun C9 i9 h9=>(ax (R:=ap) (a:=p1) (R':=Rp.int .i64) i9 ty3 ul (hi:=h9))) ?_
 refine aq0 9 1023 (out:=P6 x1) rfl (fun C9=>gk) ?_
 refine aq0 10 2047 (out:=Pr.str x2) rfl (fun C9=>gk) ?_
 refine aq0 11 4095 (out:=(al).val p2) rfl (fun C9=>(jh st47 ⟨(B7.mk x4.file 0 []),⟨_,rfl,rfl,qbj⟩,⟨(B7.mk x4.file x1 []),⟨_,rfl,rfl,qbj⟩,⟨p2,⟨_,rfl,rfl,qbj⟩,rfl⟩⟩⟩)) ?_
 refine aq0 12 8191 (out:=ar al ([p2]:List B7)) rfl (fun C9=>(c5 (R:=al) (a:=p2) el27 nb)) ?_
 refine ae 13 16383 rfl (fun g9=>?_)
 refine gq 1 el27 k (fun v7=>?_)
 refine pp _ [] ga ?_
 refine aq0 14 32767 (out:=Pr.pt b3 0) rfl (fun C9=>ag1) ?_
 refine aq0 15 65535 (out:=Pr.pt b3 0) rfl (fun C9=>(ak ary)) ?_
 refine ae 16 131071 rfl (fun g9=>?_)
 refine ahd (R:=ap) (a:=p1) 0 1 sizeOf27 ah9 ?_
 refine rCtx [E0 b3 ap (D4.mk v7 x4.file x4.method x4.many),E3 v7 al x6 47] ?_
 refine pp .any [] ga ?_
 refine agu ?_
 obtain rfl:=osj h
 exact⟨.inr rfl,_,A8.refl _,_,aa,v7,rfl,rfl⟩
theorem ads (x1:B6) (x2:B5) (x4:B8) (b3:Nat) (v5:Value) (r:PX B9 B8) (h:rz x1 x2 x4=some r):FnX Tryz.prog 73 [Pr.pt b3 0,(am).val x1,(ag).val x2] [E0 b3 ap (D4.mk v5 x4.file x4.method x4.many),E3 v5 al x4.uses 47] (fun q C'=>∃a9,r= .ok a9/\∃w100,q=bu []/\C'=[E0 b3 ap (D4.mk w100 a9.file a9.method a9.many),E3 w100 al a9.uses 47]) (fun v=>∃m,r= .bad m/\v=abw m):=by
 refine al1 (rs:=[]) func73 rfl ntmps73 ⟨by decide,results73⟩ dcd (fun s0=>?_)
 unfold rz at h
 refine W_rs ?_
 refine rBox (R:=am) (a:=x1) rfl (fun b6=>?_)
 let p1:=E0 b6 am x1
 refine rBox (R:=ag) (a:=x2) rfl (fun b7=>?_)
 let p2:=E0 b7 ag x2
 refine ba ?_
 refine bm (fun e C=>∃x10,k9 x4 x1 x2 x10=some r/\At [(0,Pr.pt b3 0),(4,Pr.pt b6 0),(5,Pr.pt b7 0),(16,Pb x10)] [E0 b3 ap (D4.mk v5 x4.file x4.method x4.many),E3 v5 al x4.uses 47,p1,p2] e C) ?_ ?_
 ·rintro e C ⟨x10,h,a⟩
  refine W_at a ?_
  unfold k9 at h
  refine bc h rfl (fun _ h=>?_) (fun _ h=>?_)
  ·obtain rfl:=osj h
   exact bj (.inl ⟨.inl rfl,_,A8.of [0,1] rfl,_,aa,_,rfl,v5,rfl,rfl⟩)
  refine aw ?_
  refine bm (fun e C=>∃x15,∃x14,∃b16,rh x2 x4 x15 x14=some r/\At [(0,Pr.pt b3 0),(5,Pr.pt b7 0),(6,Pr.pt b16 0),(7,P6 x15)] [E0 b3 ap (D4.mk v5 x4.file x4.method x4.many),E3 v5 al x4.uses 47,p1,p2,E0 b16 af x14] e C) ?_ ?_
  ·rintro e C ⟨x15,x14,b16,h,a⟩
   refine W_at a ?_
   unfold rh at h
   refine W_rs (kMv rfl (kMv rfl (kUn (ak anw) ?_)))
   refine kUn (ax 3 ty3 zz) ?_
   rcases xz h with⟨m21,hm21,h⟩|⟨x17,hx17,h⟩
   ·refine ab7 [0,1] (kf x15 x2.TypeAt x4 b3 v5 _ hm21) ⟨aa,aa,aa,tv⟩ (fun q C' hq=>?_) (fun v9 hv=>?_)
    ·obtain⟨_,h9,_⟩:=hq;cases h9
    obtain⟨_,h9,rfl⟩:=hv
    cases h9
    obtain rfl:=osj h
    exact .inr ⟨_,rfl,_,rfl,rfl⟩
   refine ab7 [0,1] (kf x15 x2.TypeAt x4 b3 v5 _ hx17) ⟨aa,aa,aa,tv⟩ (fun q C' hq=>?_) (fun v9 hv=>by obtain⟨_,h9,_⟩:=hv;cases h9)
   obtain⟨_,h9,v18,rfl,rfl⟩:=hq
   cases h9
   refine rCtx [E0 b3 ap (D4.mk v18 x17.file x17.method x17.many),E3 v18 al x17.uses 47,p1,p2,E0 b16 af x14] ?_
   refine W_r (kMv rfl (kUn (ak anw) ?_))
   refine kUn (ax 3 ty3 zz) ?_
   refine kUn (ak ra) ?_
   refine kUn (ax 4 ty9 g0) ?_
   obtain⟨x19,k,h⟩:=aj h
   refine nw [0,1] (ael x2.TypeAt x14.Id x17 b3 v18 _ k) (fun q C' hq=>?_)
   obtain⟨v20,rfl,rfl⟩:=hq
   refine rCtx [E0 b3 ap (D4.mk v20 x19.file x19.method x19.many),E3 v20 al x19.uses 47,p1,p2,E0 b16 af x14] ?_
   obtain rfl:=osj h
   exact(.inl ⟨.inr rfl,_,A8.of [0,1] rfl,_,aa,_,rfl,v20,rfl,rfl⟩)
  obtain⟨⟨x12,x13⟩,hx12,h⟩:=aj h
  obtain⟨⟨x14,x15⟩,hx14,h⟩:=aj h
  refine avk 1 (fun B S=>[E0 b3 ap (D4.mk v5 x4.file x4.method x4.many),E3 v5 al x4.uses 47,E0 b6 am x1,E0 b7 ag x2,(cond (S 12) (E0 (B 11) af x14) (cond (S 11) (E0 (B 11) af (A9.mk 0 [] [] [] [] false [] 0 0)) A4.nil))]) (fun B=>[E0 b3 ap (D4.mk v5 x4.file x4.method x4.many),E3 v5 al x4.uses 47,E0 b6 am x1,E0 b7 ag x2,E0 (B 11) af x14]) [(am).val x1,(am).val x1,Pr.pt b7 2,Pr.str x2.Type_,bu [(af).val x12,Pb x13],(af).val x12,Pb x13,bu [(af).val x14,P6 x15],bu [(af).val x14,P6 x15],(af).val x14,P6 x15,.any,.any,P6 x15] (fun k=>([0,0,0,0,0,0,0,0,0,0,0,2,1,0]:List Nat).getD k 0) hmx kr kr (fun _=>rfl) (fun B S S' h=>by show([E0 b3 ap (D4.mk v5 x4.file x4.method x4.many),E3 v5 al x4.uses 47,E0 b6 am x1,E0 b7 ag x2,(cond (S 12) (E0 (B 11) af x14) (cond (S 11) (E0 (B 11) af (A9.mk 0 [] [] [] [] false [] 0 0)) A4.nil))]:Ctx)=[E0 b3 ap (D4.mk v5 x4.file x4.method x4.many),E3 v5 al x4.uses 47,E0 b6 am x1,E0 b7 ag x2,(cond (S' 12) (E0 (B 11) af x14) (cond (S' 11) (E0 (B 11) af (A9.mk 0 [] [] [] [] false [] 0 0)) A4.nil))];simp only[h 11 (Nat.le_of_ble_eq_true kr),h 12 (Nat.le_of_ble_eq_true kr)]) (fun _=>rfl) (fun B=>?_)
  refine gq1 (fun S hK=>(ax (R:=am) (a:=x1) (R':=am) 2 ty66 (Sub.refl _) (hi:=rfl))) ?_
  refine gq1 (fun S hK=>(ax (R:=am) (a:=x1) (R':=am) 2 ty66 (Sub.refl _) (hi:=rfl))) ?_
  refine gq1 (fun S hK=>(ak zn)) ?_
  refine gq1 (fun S hK=>(ax (R:=ag) (a:=x2) (R':=Rp.str) 3 ty9 iu (hi:=rfl))) ?_
  refine gq1 (fun S hK=>(dv (ri x1 x2.Type_ _ hx12))) ?_
  refine gq1 (fun S hK=>aq) ?_
  refine gq1 (fun S hK=>aq) ?_
  refine gq1 (fun S hK=>(dv (zf x1 x12 x13 _ hx14))) ?_
  refine gq1 (fun S hK=>gk) ?_
  refine gq1 (fun S hK=>aq) ?_
  refine gq1 (fun S hK=>aq) ?_
  refine gqA (fun S hK=>⟨fun B' hB=>by show([E0 b3 ap (D4.mk v5 x4.file x4.method x4.many),E3 v5 al x4.uses 47,E0 b6 am x1,E0 b7 ag x2,(cond (S 12) (E0 (B' 11) af x14) (cond (S 11) (E0 (B' 11) af (A9.mk 0 [] [] [] [] false [] 0 0)) A4.nil))]:Ctx)=[E0 b3 ap (D4.mk v5 x4.file x4.method x4.many),E3 v5 al x4.uses 47,E0 b6 am x1,E0 b7 ag x2,(cond (S 12) (E0 (B 11) af x14) (cond (S 11) (E0 (B 11) af (A9.mk 0 [] [] [] [] false [] 0 0)) A4.nil))];simp only[hK.me,hK.F 12 kr,cond_false],fun s ρ hg _=>ax9 (R:=af) (z:=(A9.mk 0 [] [] [] [] false [] 0 0)) 4 zeroValue49 (fun _=>⟨_,⟨_,_,rfl,rfl,⟨_,_,rfl,rfl,⟨_,_,rfl,rfl,⟨_,_,rfl,rfl,⟨_,_,rfl,rfl,⟨_,_,rfl,rfl,⟨_,_,rfl,⟨_,rfl,none,0,rfl,⟨Nat.le_refl _,fun _=>rfl⟩,.inl rfl⟩,⟨_,_,rfl,rfl,⟨_,_,rfl,rfl,rfl⟩⟩⟩⟩⟩⟩⟩⟩⟩,rfl⟩) (congrArg some ((ari (hK.F 12 kr) _ _).trans (ari (hK.me) _ _))) (fun b=>by show([E0 b3 ap (D4.mk v5 x4.file x4.method x4.many),E3 v5 al x4.uses 47,E0 b6 am x1,E0 b7 ag x2,(cond (S 12) (E0 b af x14) (E0 b af (A9.mk 0 [] [] [] [] false [] 0 0)))]:Ctx)=_;rw[hK.F 12 kr];rfl) s ρ hg⟩) ?_
  refine gqS (fun S hK=>amu.as (av8 (R:=af) (R':=af) (a:=(A9.mk 0 [] [] [] [] false [] 0 0)) (y:=x14) 4 sizeOf49 (Upd.refl _) (congrArg some ((ari (hK.me) _ _).trans (condT (hK.T 11 kr) _ _)))) (by show(_:Ctx)=[E0 b3 ap (D4.mk v5 x4.file x4.method x4.many),E3 v5 al x4.uses 47,E0 b6 am x1,E0 b7 ag x2,E0 (B 11) af x14];rfl)) ?_
  refine gq1 (fun S hK=>fw) ?_
  exact⟨x15,x14,(B 11),h,atOk⟩
 refine W_r (kUn (ak anw) ?_)
 refine kUn (ax 3 ty3 zz) ?_
 refine kIn rfl rfl rfl (kMv rfl ?_)
 rcases cg h with⟨hc8,h⟩|⟨hc8,h⟩
 ·refine skx ?_
  refine kPt rfl hc8 rfl ?_
  exact⟨true,h,atOk⟩
 refine kGd rfl aa hc8 (nh (R:=Rp.str) (ls:=([([105,110,116]:Bt),([98,111,111,108,101,97,110]:Bt),([118,111,105,100]:Bt)]:List Bt)) el22 nb ⟨rfl,rfl⟩ ⟨rfl,rfl,rfl,tv⟩) ?_
 refine kGd rfl aa hc8 (ak zn) ?_
 refine kGd rfl aa hc8 (ax 3 ty9 iu) ?_
 obtain⟨x9,k,h⟩:=aj h
 refine kGd rfl aa hc8 (dv (pq ([([105,110,116]:Bt),([98,111,111,108,101,97,110]:Bt),([118,111,105,100]:Bt)]:List Bt) x2.Type_ _ k)) ?_
 refine kPf rfl hc8 rfl ?_
 exact⟨x9,h,atOk⟩
theorem r5 {σ:Type} (yld:σ->(Int × A9)->Option (Bool × σ)) (Y:YI σ) (l:Nat) (hY:YOK Tryz.prog Y l (fun a=>[P6 a.1,(af).val a.2]) yld) (x2:List A9) (x3:σ) (b1:Nat) (v4:List Nat) (r:(List A9) × (σ)) (h:eo yld x2 x3=some r):Fc 154 ([]++[adu l]++[Pr.pt b1 0]) ([E0 b1 (Rp.list af) x2]++[D8 Y x3 v4]) (fun _ C'=>∃w9,C'=[E0 b1 (Rp.list af) r.1]++[D8 Y r.2 w9]):=by
 refine ic (rs:=[]) func154 rfl ntmps154 ⟨by decide,results154⟩ dcd (fun s0=>?_)
 unfold eo at h
 refine W_rs (kUn (ax 0 ty38 (Sub.refl _)) ?_)
 refine kUn (ma rfl underlying38) ?_
 refine kIn rfl rfl rfl (kAs rfl (ay ?_))
 obtain⟨z2l,hz2,h⟩:=aj h
 obtain⟨n2,hN2⟩:=bt hz2
 refine dl 0 (fun e C=>∃x6,∃v7,fe yld x2 x6=some r/\At [] [E0 b1 (Rp.list af) x2,D8 Y x6 v7] e C) ?_ ?_
 ·rintro e C ⟨x6,v7,h,a⟩
  unfold fe at h
  obtain rfl:=osj h
  exact⟨.inr rfl,_,(A8.trans a.2 (A8.refl _)),_,aa,v7,rfl⟩
 refine fb (fun m e C=>∃x5,∃x6,∃v7,fp (fun s=>cm yld x2 s.1 s.2) m (x5,x6)=some z2l/\At [(0,adu l),(1,Pr.pt b1 0),(3,P6 x5)] [E0 b1 (Rp.list af) x2,D8 Y x6 v7] e C) n2 ⟨w64 ((x2.length:Int) - 1),x3,v4,hN2,⟨⟨aa,aa,aa,tv⟩,A8.refl _⟩⟩ ?_
 rintro m e C ⟨x5,x6,v7,hN2,a⟩
 refine W_at a ?_
 obtain⟨m2,w2l,rfl,h2l,hn2,ho2⟩:=bl hN2
 replace h2l:cm yld x2 x5 x6=some w2l:=h2l
 unfold cm at h2l
 refine ba (W_rs (kMv rfl (kIn rfl rfl rfl ?_)))
 refine bc h2l rfl (fun _ h2l=>?_) (fun _ h2l=>?_)
 ·refine aw (ba (ay (W_rs (kUn (hMv (out:=adu l) rfl) (kMv rfl (kUn (ax 0 ty38 (Sub.refl _)) ?_))))))
  refine kMv rfl ?_
  obtain⟨x12,k,h2l⟩:=aj h2l
  refine kUn (gu underlying38 sizeOf49 k) ?_
  refine kUn (dn ty49) ?_
  obtain⟨⟨x13,x14⟩,k,h2l⟩:=aj h2l
  refine aya 1 (a:=(x5,x12)) hY k (fun v15=>?_)
  refine kNo rfl ?_
  refine bc h2l rfl (fun _ h2l=>?_) (fun _ h2l=>?_)
  ·obtain rfl:=ho2 _ (ojs h2l)
   replace h:some (x2,x14)=some r:=h
   obtain rfl:=osj h
   exact bj ⟨.inl rfl,_,A8.of [1,0] rfl,_,aa,v15,rfl⟩
  refine aw (W_r (kMv rfl (kIn rfl rfl rfl (kAs rfl ?_))))
  exact⟨m2,lsu,w64 (x5 - 1),x14,v15,hn2 _ (ojs h2l),⟨⟨aa,aa,aa,tv⟩,A8.of [1,0] rfl⟩⟩
 refine ep ?_
 obtain rfl:=ho2 _ (ojs h2l)
 exact⟨x6,v7,h,atOk⟩
theorem tc (x1:List A9):Fc 112 [ar af x1] [] (fun q C'=>∃b2,q=sk 154 [] [Pr.pt b2 0]/\C'=[E0 b2 (Rp.list af) x1]):=by
 refine ic (rs:=[2]) func112 rfl ntmps112 ⟨by decide,results112⟩ dcd (fun s0=>?_)
 refine W_rs ?_
 refine rBox (R:=Rp.list af) (a:=x1) rfl (fun b2=>?_)
 refine kAs rfl (W_rs (kUn tg ?_))
 refine kUn (hAs (out:=sk 154 [] [Pr.pt b2 0]) rfl) ?_
 exact bj ⟨.inl rfl,_,A8.refl _,_,aa,b2,rfl,rfl⟩
theorem u7 (x1:B6) (x2:A9) (x3:Bool) (r:A9 × Int) (h:ld x1 x2 x3=some r):Fp 114 [(am).val x1,(af).val x2,Pb x3] (bu [(af).val r.1,P6 r.2]):=by
 refine dt (rs:=[.cell 6 49,.tmp 7]) func114 rfl ntmps114 results114 dcd (fun s0=>?_)
 let p1:=A9.mk 0 [] [] [] [] false [] 0 0
 unfold ld at h
 refine W_rs ?_
 refine rBox (R:=am) (a:=x1) rfl (fun b4=>?_)
 refine rBox (R:=af) (a:=x2) rfl (fun b5=>?_)
 refine br sj fun b6=>kAs rfl (ba (ay (W_rs (kMv rfl (kNo rfl (kAs rfl ?_))))))
 refine bc h rfl (fun _ h=>?_) (fun _ h=>?_)
 ·refine W_rs (kUn (jh st49 rfl) ?_)
  refine au 2 rfl rfl (Upd.refl _) rfl sizeOf49 (kAs rfl ?_)
  obtain rfl:=osj h
  exact bj ⟨rfl,[(af).val p1,P6 170],⟨yBox 2 ty49 aa,yT aa,tv⟩,aa⟩
 refine bm (fun e C=>∃x9,qp x2 x9=some r/\At [(4,Pr.pt b5 0),(6,Pr.pt b6 0),(12,Pb x9)] [E0 b4 am x1,E0 b5 af x2,E0 b6 af p1] e C) ?_ ?_
 ·rintro e C ⟨x9,h,a⟩
  refine W_at a ?_
  unfold qp at h
  refine bc h rfl (fun _ h=>?_) (fun _ h=>?_)
  ·refine W_rs (kUn (jh st49 rfl) ?_)
   refine au 2 rfl rfl (Upd.refl _) rfl sizeOf49 (kAs rfl ?_)
   obtain rfl:=osj h
   exact bj ⟨rfl,[(af).val p1,P6 171],⟨yBox 2 ty49 aa,yT aa,tv⟩,aa⟩
  refine aw (W_rs (kUn (ax 1 ty49 (Sub.refl _)) ?_))
  refine au 2 rfl rfl (Upd.refl _) rfl sizeOf49 (kAs rfl ?_)
  obtain rfl:=osj h
  exact bj ⟨rfl,[(af).val x2,P6 0],⟨yBox 2 ty49 aa,yT aa,tv⟩,aa⟩
 refine W_r (kUn (ak alm) ?_)
 refine kUn (ax 0 ty4 xk) ?_
 refine kMv rfl ?_
 rcases cg h with⟨hc8,h⟩|⟨hc8,h⟩
 ·refine kGd rfl aa hc8 (ak avd) ?_
  refine kGd rfl aa hc8 (ax 1 ty4 xl) ?_
  refine kGd rfl aa hc8 (qNot rfl) (kPt rfl hc8 rfl (kAs rfl ?_))
  exact⟨!x2.Static,h,atOk⟩
 refine skx ?_
 refine kPf rfl hc8 rfl (kAs rfl ?_)
 exact⟨false,h,atOk⟩
theorem aen (x1:B6) (x2:B5) (r:A9 × Int) (h:ql x1 x2=some r):Fp 65 [(am).val x1,(ag).val x2] (bu [(af).val r.1,P6 r.2]):=by
 refine dt (n:=47) (rs:=[.cell 4 49,.cell 5 28]) func65 rfl ntmps65 results65 dcd (fun s0=>?_)
 unfold ql at h
 refine W_rs ?_
 refine rBox (R:=am) (a:=x1) rfl (fun b3=>?_)
 refine rBox (R:=ag) (a:=x2) rfl (fun b4=>?_)
 refine afh (R:=af) (z:=(A9.mk 0 [] [] [] [] false [] 0 0)) zeroValue49 (fun _=>⟨_,⟨_,_,rfl,rfl,⟨_,_,rfl,rfl,⟨_,_,rfl,rfl,⟨_,_,rfl,rfl,⟨_,_,rfl,rfl,⟨_,_,rfl,rfl,⟨_,_,rfl,⟨_,rfl,none,0,rfl,⟨Nat.le_refl _,fun _=>rfl⟩,.inl rfl⟩,⟨_,_,rfl,rfl,⟨_,_,rfl,rfl,rfl⟩⟩⟩⟩⟩⟩⟩⟩⟩,rfl⟩) (fun b5=>?_)
 refine afh (R:=Rp.int .i64) (z:=0) zeroValue28 (fun _=>rfl) (fun b6=>?_)
 refine a0b ?_
 refine W_r ?_
 refine rq (out:=Pr.pt b3 3) (ak avb) ?_
 refine rq (out:=ar af x1.Seen) (ax (R:=am) (a:=x1) (R':=Rp.list af) 0 ty38 afy) ?_
 refine nw [] (tc x1.Seen) (fun q C' hq=>?_)
 obtain⟨b7,rfl,rfl⟩:=hq
 refine⟨rfl,?_⟩
 obtain⟨⟨x12,x15⟩,k,h⟩:=aj h
 refine asm [0] (fun _=> .ret) (fun(s:(Unit) ⊕ (A9)) C=>match s with| .inl s=>C=[E0 b3 am x1,E0 b4 ag x2,E0 b5 af (A9.mk 0 [] [] [] [] false [] 0 0),E0 b6 (Rp.int .i64) 0]| .inr s=>∃b10,C=[E0 b3 am x1,E0 b4 ag x2,E0 b5 af s,E0 b6 (Rp.int .i64) 0,E0 b10 af s]) (encs:=(fun(a:Int × A9)=>[P6 a.1,(af).val a.2])) (yld:=(fun(s:Unit) (a:Int × A9)=>jf x2 a.1 a.2)) (st0:=()) (stF:=x15) (Ccap':=[E0 b7 (Rp.list af) x12]) (fun l Y L hY=>r5 _ Y l hY x1.Seen (.inl ()) b7 L _ k) rfl (fun _=>rfl) ?_ ?_ (fun _ _ _ h=>h.1)
 ·rintro l _ ⟨x8,x9⟩ rr1 C T s0 rfl hy1
  replace hy1:jf x2 x8 x9=some rr1:=hy1
  unfold jf at hy1
  refine W_r ?_
  refine afh (R:=af) (z:=(A9.mk 0 [] [] [] [] false [] 0 0)) zeroValue49 (fun _=>⟨_,⟨_,_,rfl,rfl,⟨_,_,rfl,rfl,⟨_,_,rfl,rfl,⟨_,_,rfl,rfl,⟨_,_,rfl,rfl,⟨_,_,rfl,rfl,⟨_,_,rfl,⟨_,rfl,none,0,rfl,⟨Nat.le_refl _,fun _=>rfl⟩,.inl rfl⟩,⟨_,_,rfl,rfl,⟨_,_,rfl,rfl,rfl⟩⟩⟩⟩⟩⟩⟩⟩⟩,rfl⟩) (fun b10=>?_)
  refine zi (R:=af) (R':=af) (a:=(A9.mk 0 [] [] [] [] false [] 0 0)) (y:=x9) 4 sizeOf49 (Upd.refl _) ?_
  refine⟨rfl,fun T s0=>?_⟩
  refine an3 ?_
  refine ay ?_
  refine W_rs ?_
  refine rq (out:=Pr.pt b10 2) (ak af9) ?_
  refine rq (out:=Pr.str x9.Name) (ax (R:=af) (a:=x9) (R':=Rp.str) 4 ty9 jv) ?_
  refine rq (out:=Pr.pt b4 1) (ak gz) ?_
  refine rq (out:=Pr.str x2.Text) (ax (R:=ag) (a:=x2) (R':=Rp.str) 1 ty9 cc) ?_
  refine rq (out:=Pb (x9.Name==x2.Text)) qStr ?_
  refine amc (b:=x9.Name==x2.Text) rfl (fun hc11=>?_) (fun hc11=>?_)
  ·replace hy1:=iteT hc11 hy1
   refine W_rs ?_
   refine rq (out:=(af).val x9) (ax (R:=af) (a:=x9) (R':=af) 4 ty49 (Sub.refl _)) ?_
   refine zi (R:=af) (R':=af) (a:=(A9.mk 0 [] [] [] [] false [] 0 0)) (y:=x9) 2 sizeOf49 (Upd.refl _) ?_
   refine zi (R:=Rp.int .i64) (R':=Rp.int .i64) (a:=0) (y:=0) 3 sizeOf28 (Upd.refl _) ?_
   obtain rfl:=Option.some.inj hy1
   exact bj ⟨_,A8.refl _,.inr ⟨_,rfl,rfl,b10,rfl⟩⟩
  replace hy1:=iteF hc11 hy1
  refine aw ?_
  obtain rfl:=Option.some.inj hy1
  exact⟨_,A8.of [0,1,2,3] rfl,.inl ⟨rfl,_,rfl,rfl⟩⟩
 intro D C' hj
 cases x15 with
 |inl x13=>
  replace h:((vk x1.Table x1.Class x2.Text).bind fun(x17,x18)=>(if x18=true then(ld x1 x17 true).bind fun(x21,x22)=>some (x21,x22)else(jn x1 x2.Text).bind fun(x23,x24)=>(ll x1 x23 x24).bind fun(x25,x26)=>ov x25 x26))=some r:=h
  obtain rfl:=hj
  intro T s0
  refine ba ?_
  refine W_rs ?_
  refine rq (out:=Pr.pt b3 0) (ak anv) ?_
  refine rq (out:=ar af x1.Table) (ax (R:=am) (a:=x1) (R':=Rp.list af) 1 ty38 oh) ?_
  refine rq (out:=Pr.pt b3 1) (ak aln) ?_
  refine rq (out:=Pr.str x1.Class) (ax (R:=am) (a:=x1) (R':=Rp.str) 1 ty9 lr) ?_
  refine rq (out:=Pr.pt b4 1) (ak gz) ?_
  refine rq (out:=Pr.str x2.Text) (ax (R:=ag) (a:=x2) (R':=Rp.str) 2 ty9 cc) ?_
  obtain⟨⟨x17,x18⟩,k,h⟩:=aj h
  refine rq (out:=bu [(af).val x17,Pb x18]) (dv (ahx x1.Table x1.Class x2.Text _ k)) ?_
  refine rq (out:=bu [(af).val x17,Pb x18]) gk ?_
  refine rq (out:=(af).val x17) aq ?_
  refine rq (out:=Pb x18) aq ?_
  refine afh (R:=af) (z:=(A9.mk 0 [] [] [] [] false [] 0 0)) zeroValue49 (fun _=>⟨_,⟨_,_,rfl,rfl,⟨_,_,rfl,rfl,⟨_,_,rfl,rfl,⟨_,_,rfl,rfl,⟨_,_,rfl,rfl,⟨_,_,rfl,rfl,⟨_,_,rfl,⟨_,rfl,none,0,rfl,⟨Nat.le_refl _,fun _=>rfl⟩,.inl rfl⟩,⟨_,_,rfl,rfl,⟨_,_,rfl,rfl,rfl⟩⟩⟩⟩⟩⟩⟩⟩⟩,rfl⟩) (fun b19=>?_)
  refine zi (R:=af) (R':=af) (a:=(A9.mk 0 [] [] [] [] false [] 0 0)) (y:=x17) 5 sizeOf49 (Upd.refl _) ?_
  refine rq (out:=Pb x18) fw ?_
  refine W_rs ?_
  refine rq (out:=Pb x18) gk ?_
  refine amc (b:=x18) rfl (fun hc20=>?_) (fun hc20=>?_)
  ·replace h:=iteT hc20 h
   refine W_rs ?_
   refine rq (out:=(am).val x1) (ax (R:=am) (a:=x1) (R':=am) 1 ty66 (Sub.refl _)) ?_
   refine rq (out:=(af).val x17) (ax (R:=af) (a:=x17) (R':=af) 5 ty49 (Sub.refl _)) ?_
   obtain⟨⟨x21,x22⟩,k,h⟩:=aj h
   refine rq (out:=bu [(af).val x21,P6 x22]) (dv (u7 x1 x17 true _ k)) ?_
   refine rq (out:=(af).val x21) aq ?_
   refine rq (out:=P6 x22) aq ?_
   refine zi (R:=af) (R':=af) (a:=(A9.mk 0 [] [] [] [] false [] 0 0)) (y:=x21) 3 sizeOf49 (Upd.refl _) ?_
   refine zi (R:=Rp.int .i64) (R':=Rp.int .i64) (a:=0) (y:=x22) 4 sizeOf28 (Upd.refl _) ?_
   obtain rfl:=Option.some.inj h
   exact bj ⟨rfl,[(af).val x21,P6 x22],⟨yBox 3 ty49 aa,yBox 4 ty28 aa,tv⟩,aa⟩
  replace h:=iteF hc20 h
  refine aw ?_
  refine bm (fun e C=>∃x25,∃x26,ov x25 x26=some r/\At [(4,Pr.pt b5 0),(5,Pr.pt b6 0)] [E0 b7 (Rp.list af) x12,E0 b3 am x1,E0 b4 ag x2,E0 b5 af x25,E0 b6 (Rp.int .i64) x26,E0 b19 af x17] e C) ?_ ?_
  ·rintro e C ⟨x25,x26,h,a⟩
   refine W_at a ?_
   clear a
   unfold ov at h
   obtain rfl:=Option.some.inj h
   exact bj ⟨rfl,[(af).val x25,P6 x26],⟨yBox 3 ty49 aa,yBox 4 ty28 aa,tv⟩,aa⟩
  refine mh 10 hmx kr kr ?_
  refine qq (out:=(am).val x1) (ax (R:=am) (a:=x1) (R':=am) 1 ty66 (Sub.refl _)) ?_
  refine qq (out:=(am).val x1) (ax (R:=am) (a:=x1) (R':=am) 1 ty66 (Sub.refl _)) ?_
  refine qq (out:=Pr.pt b4 1) (ak gz) ?_
  refine qq (out:=Pr.str x2.Text) (ax (R:=ag) (a:=x2) (R':=Rp.str) 2 ty9 cc) ?_
  obtain⟨⟨x23,x24⟩,k,h⟩:=aj h
  refine qq (out:=bu [(af).val x23,Pb x24]) (dv (ri x1 x2.Text _ k)) ?_
  refine qq (out:=(af).val x23) aq ?_
  refine qq (out:=Pb x24) aq ?_
  obtain⟨⟨x25,x26⟩,k,h⟩:=aj h
  refine qq (out:=bu [(af).val x25,P6 x26]) (dv (zf x1 x23 x24 _ k)) ?_
  refine qq (out:=(af).val x25) aq ?_
  refine qq (out:=P6 x26) aq ?_
  refine zi (R:=af) (R':=af) (a:=(A9.mk 0 [] [] [] [] false [] 0 0)) (y:=x25) 3 sizeOf49 (Upd.refl _) ?_
  refine zi (R:=Rp.int .i64) (R':=Rp.int .i64) (a:=0) (y:=x26) 4 sizeOf28 (Upd.refl _) ?_
  exact⟨x25,x26,h,⟨⟨aa,aa,tv⟩,A8.refl _⟩⟩
 |inr x16=>
  replace h:(some (x16,0))=some r:=h
  obtain⟨b10,rfl⟩:=hj
  obtain rfl:=Option.some.inj h
  exact .inr ⟨rfl,⟨rfl,[(af).val x16,P6 0],⟨yBox 3 ty49 aa,yBox 4 ty28 aa,tv⟩,aa⟩⟩
theorem ak4 (x1:B6) (x2:B5) (r:A9 × Int) (h:ug x1 x2=some r):Fp 66 [(am).val x1,(ag).val x2] (bu [(af).val r.1,P6 r.2]):=by
 refine dt (rs:=[.cell 4 49,.tmp 5]) func66 rfl ntmps66 results66 dcd (fun s0=>?_)
 unfold ug at h
 refine W_rs ?_
 refine rBox (R:=am) (a:=x1) rfl (fun b3=>?_)
 refine rBox (R:=ag) (a:=x2) rfl (fun b4=>?_)
 refine br sj fun b5=>kAs rfl ?_
 refine bm (fun e C=>∃x9,∃x8,s9 x9 x8=some r/\At [(4,Pr.pt b5 0),(5,P6 x9)] [E0 b3 am x1,E0 b4 ag x2,E0 b5 af x8] e C) ?_ ?_
 ·rintro e C ⟨x9,x8,h,a⟩
  refine W_at a ?_
  unfold s9 at h
  obtain rfl:=osj h
  exact bj ⟨rfl,[(af).val x8,P6 x9],⟨yBox 2 ty49 aa,yT aa,tv⟩,aa⟩
 refine mh 13 hmx kr kr ?_
 refine lUn (ax 0 ty66 (Sub.refl _)) ?_
 refine lUn (ak anv) ?_
 refine lUn (ax 0 ty38 oh) ?_
 refine lUn (ak aln) ?_
 refine lUn (ax 0 ty9 lr) ?_
 refine lUn (ak gz) ?_
 refine lUn (ax 1 ty9 cc) ?_
 obtain⟨⟨x6,x7⟩,k,h⟩:=aj h
 refine lUn (dv (agm x1.Table x1.Class x2.Text _ k)) ?_
 refine lUn aq ?_
 refine lUn aq ?_
 obtain⟨⟨x8,x9⟩,k,h⟩:=aj h
 refine lUn (dv (u7 x1 x6 x7 _ k)) ?_
 refine lUn aq ?_
 refine lUn aq ?_
 refine au 2 rfl rfl (Upd.refl _) rfl sizeOf49 (kAs rfl ?_)
 exact⟨x9,x8,h,atOk⟩
end Go.Proofs.YtcndghapmoaidaaGreatDoor
set_option linter.unusedSectionVars false
set_option maxRecDepth 100000
set_option maxHeartbeats 4000000
namespace Go.Proofs.YtcndghapmoaidaaGreatDoor
open Go Go.Cn Tryz
attribute [local irreducible] qx ar
theorem ak3 (x1:B6) (x2:B5) (r:A9 × Int) (h:uf x1 x2=some r):Fp 67 [(am).val x1,(ag).val x2] (bu [(af).val r.1,P6 r.2]):=by
 refine dt (rs:=[.cell 4 49,.tmp 5]) func67 rfl ntmps67 results67 dcd (fun s0=>?_)
 unfold uf at h
 refine W_rs ?_
 refine rBox (R:=am) (a:=x1) rfl (fun b3=>?_)
 refine rBox (R:=ag) (a:=x2) rfl (fun b4=>?_)
 refine br sj fun b5=>kAs rfl ?_
 refine bm (fun e C=>∃x9,∃x8,s8 x9 x8=some r/\At [(4,Pr.pt b5 0),(5,P6 x9)] [E0 b3 am x1,E0 b4 ag x2,E0 b5 af x8] e C) ?_ ?_
 ·rintro e C ⟨x9,x8,h,a⟩
  refine W_at a ?_
  unfold s8 at h
  obtain rfl:=osj h
  exact bj ⟨rfl,[(af).val x8,P6 x9],⟨yBox 2 ty49 aa,yT aa,tv⟩,aa⟩
 refine mh 10 hmx kr kr ?_
 refine lUn (ax 0 ty66 (Sub.refl _)) ?_
 refine lUn (ax 0 ty66 (Sub.refl _)) ?_
 refine lUn (ak gz) ?_
 refine lUn (ax 1 ty9 cc) ?_
 obtain⟨⟨x6,x7⟩,k,h⟩:=aj h
 refine lUn (dv (ri x1 x2.Text _ k)) ?_
 refine lUn aq ?_
 refine lUn aq ?_
 obtain⟨⟨x8,x9⟩,k,h⟩:=aj h
 refine lUn (dv (zf x1 x6 x7 _ k)) ?_
 refine lUn aq ?_
 refine lUn aq ?_
 refine au 2 rfl rfl (Upd.refl _) rfl sizeOf49 (kAs rfl ?_)
 exact⟨x9,x8,h,atOk⟩
def gm (R:bh):Prop:=(∀(x1:B6) (x2:B5) (r:A9 × Int),R.1 x1 x2=some r->Fp 32 [(am).val x1,(ag).val x2] (bu [(af).val r.1,P6 r.2]))/\(∀(x1:B6) (x2:B5) (r:Bt),R.2.1 x1 x2=some r->Fp 33 [(am).val x1,(ag).val x2] (Pr.str r))/\(∀(x1:B6) (x2:B5) (r:A9 × Int),R.2.2.1 x1 x2=some r->Fp 68 [(am).val x1,(ag).val x2] (bu [(af).val r.1,P6 r.2]))/\(∀(x1:B6) (x2:B5) (r:A9 × Int),R.2.2.2.1 x1 x2=some r->Fp 69 [(am).val x1,(ag).val x2] (bu [(af).val r.1,P6 r.2]))/\(∀(x1:B6) (x2:B5) (x3:((List A9)->Bt->Bt->Option (A9 × Bool))) (r:A9 × Int),R.2.2.2.2 x1 x2 x3=some r->Fp 118 [(am).val x1,(ag).val x2,d7 Tryz.prog (aep x3)] (bu [(af).val r.1,P6 r.2]))
theorem af5 (R:bh) (ih:gm R) (x1:B6) (x2:B5) (r:A9 × Int) (h:nu R x1 x2=some r):Fp 32 [(am).val x1,(ag).val x2] (bu [(af).val r.1,P6 r.2]):=by
 refine dt (rs:=[.cell 4 49,.tmp 5]) func32 rfl ntmps32 results32 dcd (fun s0=>?_)
 unfold nu at h
 refine W_rs ?_
 refine rBox (R:=am) (a:=x1) rfl (fun b3=>?_)
 refine rBox (R:=ag) (a:=x2) rfl (fun b4=>?_)
 refine br sj fun b5=>kAs rfl (W_rs ?_)
 refine ato (Rp.int .i64) (Rp.bd ((am).val x1)) (fun b6=>?_)
 refine kUn (ax 0 ty66 (Sub.refl _)) ?_
 refine kUn tg ?_
 refine ajv (Rk:=Rp.int .i64) (R:=Rp.bd ((am).val x1)) (m:=([]:GMap Int (Option Nat))) (kx:=17) (v:=(some 65)) 3 (afn underlying3) underlying114 ?_ (hu:=an1)
 refine kUn (ax 0 ty66 (Sub.refl _)) ?_
 refine kUn tg ?_
 refine ajv (Rk:=Rp.int .i64) (R:=Rp.bd ((am).val x1)) (m:=(gset 17 (some 65) ([]:GMap Int (Option Nat)))) (kx:=19) (v:=(some 66)) 3 (afn underlying3) underlying114 ?_ (hu:=an1)
 refine kUn (ax 0 ty66 (Sub.refl _)) ?_
 refine kUn tg ?_
 refine ajv (Rk:=Rp.int .i64) (R:=Rp.bd ((am).val x1)) (m:=(gset 19 (some 66) (gset 17 (some 65) ([]:GMap Int (Option Nat))))) (kx:=21) (v:=(some 67)) 3 (afn underlying3) underlying114 ?_ (hu:=an1)
 refine kUn (ax 0 ty66 (Sub.refl _)) ?_
 refine kUn tg ?_
 refine ajv (Rk:=Rp.int .i64) (R:=Rp.bd ((am).val x1)) (m:=(gset 21 (some 67) (gset 19 (some 66) (gset 17 (some 65) ([]:GMap Int (Option Nat)))))) (kx:=18) (v:=(some 68)) 3 (afn underlying3) underlying114 ?_ (hu:=an1)
 refine kUn (ax 0 ty66 (Sub.refl _)) ?_
 refine kUn tg ?_
 refine ajv (Rk:=Rp.int .i64) (R:=Rp.bd ((am).val x1)) (m:=(gset 18 (some 68) (gset 21 (some 67) (gset 19 (some 66) (gset 17 (some 65) ([]:GMap Int (Option Nat))))))) (kx:=20) (v:=(some 69)) 3 (afn underlying3) underlying114 ?_ (hu:=an1)
 refine kUn (hMv (out:=pr b6) rfl) (kUn (ak ig) ?_)
 refine kUn (ax 1 ty3 bq) ?_
 refine kUn (azk (Rk:=Rp.int .i64) (R:=Rp.bd ((am).val x1)) (m:=(gset 20 (some 69) (gset 18 (some 68) (gset 21 (some 67) (gset 19 (some 66) (gset 17 (some 65) ([]:GMap Int (Option Nat)))))))) (kx:=x2.Kind) (z:=none) 3 (afn underlying3) underlying114 zeroValue68 (fun _=>rfl)) ?_
 refine kUn (hMv (out:=bu [(Rp.bd ((am).val x1)).val (gget x2.Kind none (gset 20 (some 69) (gset 18 (some 68) (gset 21 (some 67) (gset 19 (some 66) (gset 17 (some 65) ([]:GMap Int (Option Nat)))))))),Pb (ghas x2.Kind (gset 20 (some 69) (gset 18 (some 68) (gset 21 (some 67) (gset 19 (some 66) (gset 17 (some 65) ([]:GMap Int (Option Nat))))))))]) rfl) (kUn aq ?_)
 refine kUn aq ?_
 refine kUn (hAs (out:=(Rp.bd ((am).val x1)).val (gget x2.Kind none (gset 20 (some 69) (gset 18 (some 68) (gset 21 (some 67) (gset 19 (some 66) (gset 17 (some 65) ([]:GMap Int (Option Nat))))))))) rfl) (kAs rfl (ba (W_rs (kMv rfl (kNo rfl ?_)))))
 refine bc h rfl (fun _ h=>?_) (fun _ h=>?_)
 ·refine W_rs (kUn (jh st49 rfl) ?_)
  refine au 2 rfl rfl (Upd.refl _) rfl sizeOf49 (kAs rfl ?_)
  obtain rfl:=osj h
  exact bj ⟨rfl,[(af).val (A9.mk 0 [] [] [] [] false [] 0 0),P6 0],⟨yBox 2 ty49 aa,yT aa,tv⟩,aa⟩
 refine aw (W_rs (kUn (hMv (out:=(Rp.bd ((am).val x1)).val (gget x2.Kind none (gset 20 (some 69) (gset 18 (some 68) (gset 21 (some 67) (gset 19 (some 66) (gset 17 (some 65) ([]:GMap Int (Option Nat))))))))) rfl) (kUn (ax 1 ty64 (Sub.refl _)) ?_)))
 rcases cg h with⟨hc8,h⟩|⟨hc8,h⟩
 ·refine rEnv 29 (q:=sk 65 [(am).val x1] []) (ate hc8) ?_
  obtain⟨⟨x9,x10⟩,k,h⟩:=aj h
  refine kUn (ajw (aen x1 x2 _ k)) ?_
  refine kUn aq ?_
  refine kUn aq ?_
  refine au 2 rfl rfl (Upd.refl _) rfl sizeOf49 (kAs rfl ?_)
  obtain rfl:=osj h
  exact bj ⟨rfl,[(af).val x9,P6 x10],⟨yBox 2 ty49 aa,yT aa,tv⟩,aa⟩
 rcases cg h with⟨hc11,h⟩|⟨hc11,h⟩
 ·refine rEnv 29 (q:=sk 66 [(am).val x1] []) (ate hc11) ?_
  obtain⟨⟨x12,x13⟩,k,h⟩:=aj h
  refine kUn (ajw (ak4 x1 x2 _ k)) ?_
  refine kUn aq ?_
  refine kUn aq ?_
  refine au 2 rfl rfl (Upd.refl _) rfl sizeOf49 (kAs rfl ?_)
  obtain rfl:=osj h
  exact bj ⟨rfl,[(af).val x12,P6 x13],⟨yBox 2 ty49 aa,yT aa,tv⟩,aa⟩
 rcases cg h with⟨hc14,h⟩|⟨hc14,h⟩
 ·refine rEnv 29 (q:=sk 67 [(am).val x1] []) (ate hc14) ?_
  obtain⟨⟨x15,x16⟩,k,h⟩:=aj h
  refine kUn (ajw (ak3 x1 x2 _ k)) ?_
  refine kUn aq ?_
  refine kUn aq ?_
  refine au 2 rfl rfl (Upd.refl _) rfl sizeOf49 (kAs rfl ?_)
  obtain rfl:=osj h
  exact bj ⟨rfl,[(af).val x15,P6 x16],⟨yBox 2 ty49 aa,yT aa,tv⟩,aa⟩
 rcases cg h with⟨hc17,h⟩|⟨hc17,h⟩
 ·refine rEnv 29 (q:=sk 68 [(am).val x1] []) (ate hc17) ?_
  obtain⟨⟨x18,x19⟩,k,h⟩:=aj h
  refine kUn (ajw (ih.2.2.1 x1 x2 _ k)) ?_
  refine kUn aq ?_
  refine kUn aq ?_
  refine au 2 rfl rfl (Upd.refl _) rfl sizeOf49 (kAs rfl ?_)
  obtain rfl:=osj h
  exact bj ⟨rfl,[(af).val x18,P6 x19],⟨yBox 2 ty49 aa,yT aa,tv⟩,aa⟩
 rcases cg h with⟨hc20,h⟩|⟨hc20,h⟩
 ·refine rEnv 29 (q:=sk 69 [(am).val x1] []) (ate hc20) ?_
  obtain⟨⟨x21,x22⟩,k,h⟩:=aj h
  refine kUn (ajw (ih.2.2.2.1 x1 x2 _ k)) ?_
  refine kUn aq ?_
  refine kUn aq ?_
  refine au 2 rfl rfl (Upd.refl _) rfl sizeOf49 (kAs rfl ?_)
  obtain rfl:=osj h
  exact bj ⟨rfl,[(af).val x21,P6 x22],⟨yBox 2 ty49 aa,yT aa,tv⟩,aa⟩
 cases h
theorem ag0 (R:bh) (ih:gm R) (x1:B6) (x2:B5) (r:Bt) (h:qv R x1 x2=some r):Fp 33 [(am).val x1,(ag).val x2] (Pr.str r):=by
 refine dr (rs:=[4]) func33 rfl ntmps33 ⟨by decide,results33⟩ dcd (fun s0=>?_)
 unfold qv at h
 refine W_rs ?_
 refine rBox (R:=am) (a:=x1) rfl (fun b3=>?_)
 refine rBox (R:=ag) (a:=x2) rfl (fun b4=>?_)
 refine kAs rfl (ba (W_rs (kUn (ak ig) ?_)))
 refine kUn (ax 1 ty3 bq) ?_
 refine ay ?_
 refine bm (fun e C=>∃x6,ow R x2 x1 x6=some r/\At [(2,Pr.pt b3 0),(3,Pr.pt b4 0),(8,P6 x2.Kind),(9,Pb x6)] [E0 b3 am x1,E0 b4 ag x2] e C) ?_ ?_
 ·rintro e C ⟨x6,h,a⟩
  refine W_at a ?_
  unfold ow at h
  refine bc h rfl (fun _ h=>?_) (fun _ h=>?_)
  ·refine W_rs (kAs rfl ?_)
   obtain rfl:=osj h
   exact bj ⟨rfl,aa⟩
  refine bm (fun e C=>∃x9,ox R x2 x1 x9=some r/\At [(2,Pr.pt b3 0),(3,Pr.pt b4 0),(8,P6 x2.Kind),(12,Pb x9)] [E0 b3 am x1,E0 b4 ag x2] e C) ?_ ?_
  ·rintro e C ⟨x9,h,a⟩
   refine W_at a ?_
   unfold ox at h
   refine bc h rfl (fun _ h=>?_) (fun _ h=>?_)
   ·refine W_rs (kAs rfl ?_)
    obtain rfl:=osj h
    exact bj ⟨rfl,aa⟩
   refine W_rs (kIn rfl rfl rfl (kAs rfl ?_))
   refine bc h rfl (fun _ h=>?_) (fun _ h=>?_)
   ·refine W_rs (kAs rfl ?_)
    obtain rfl:=osj h
    exact bj ⟨rfl,aa⟩
   refine W_rs (kIn rfl rfl rfl (kAs rfl ?_))
   refine bc h rfl (fun _ h=>?_) (fun _ h=>?_)
   ·refine ba (W_rs (kUn (nh (R:=Rp.str) (ls:=([([43]:Bt),([45]:Bt),([42]:Bt),([47]:Bt),([37]:Bt)]:List Bt)) el22 nb ⟨rfl,rfl⟩ ⟨rfl,rfl,rfl,rfl,rfl,tv⟩) ?_))
    refine kUn (ak gz) ?_
    refine kUn (ax 1 ty9 cc) ?_
    refine c8 h (pq ([([43]:Bt),([45]:Bt),([42]:Bt),([47]:Bt),([37]:Bt)]:List Bt) x2.Text) rfl fun x13 _ h=>?_
    refine bc h rfl (fun _ h=>?_) (fun _ h=>?_)
    ·refine W_rs (kAs rfl ?_)
     obtain rfl:=osj h
     exact bj ⟨rfl,aa⟩
    refine aw (W_rs (kAs rfl ?_))
    obtain rfl:=osj h
    exact bj ⟨rfl,aa⟩
   refine W_rs (kIn rfl rfl rfl (kAs rfl ?_))
   refine bc h rfl (fun _ h=>?_) (fun _ h=>?_)
   ·refine ba (W_rs (kUn (ak alm) ?_))
    refine kUn (ax 0 ty4 xk) ?_
    refine kNo rfl ?_
    refine bc h rfl (fun _ h=>?_) (fun _ h=>?_)
    ·refine W_rs (kUn (ak aln) ?_)
     refine kUn (ax 0 ty9 lr) ?_
     refine kAs rfl ?_
     obtain rfl:=osj h
     exact bj ⟨rfl,aa⟩
    refine aw (W_rs (kAs rfl ?_))
    obtain rfl:=osj h
    exact bj ⟨rfl,aa⟩
   refine aw (W_rs (kUn (ax 0 ty66 (Sub.refl _)) ?_))
   refine kUn (ax 1 ty64 (Sub.refl _)) ?_
   obtain⟨⟨x17,x18⟩,k,h⟩:=aj h
   refine kUn (dv (ih.1 x1 x2 _ k)) ?_
   refine kUn (hMv (out:=bu [(af).val x17,P6 x18]) rfl) (kUn aq ?_)
   refine kUn aq ?_
   refine br sj fun b19=>au 2 rfl rfl (Upd.refl _) rfl sizeOf49 (kAs rfl (ba (ay (W_rs (kMv rfl (kIn rfl rfl rfl (kAs rfl ?_)))))))
   refine bc h rfl (fun _ h=>?_) (fun _ h=>?_)
   ·refine W_rs (kAs rfl ?_)
    obtain rfl:=osj h
    exact bj ⟨rfl,aa⟩
   refine W_rs (kUn (ak ig) ?_)
   refine kUn (ax 1 ty3 bq) ?_
   refine kIn rfl rfl rfl (kAs rfl ?_)
   refine bc h rfl (fun _ h=>?_) (fun _ h=>?_)
   ·refine W_rs (kUn (ak ra) ?_)
    refine kUn (ax 2 ty9 g0) ?_
    refine kAs rfl ?_
    obtain rfl:=osj h
    exact bj ⟨rfl,aa⟩
   refine W_rs (kUn (ak xa) ?_)
   refine kUn (ax 2 ty3 ft) ?_
   refine kIn rfl rfl rfl (kAs rfl ?_)
   refine bc h rfl (fun _ h=>?_) (fun _ h=>?_)
   ·refine W_rs (kAs rfl ?_)
    obtain rfl:=osj h
    exact bj ⟨rfl,aa⟩
   refine aw (W_rs (kUn (ak af8) ?_))
   refine kUn (ax 2 ty9 i0) ?_
   refine kAs rfl ?_
   obtain rfl:=osj h
   exact bj ⟨rfl,aa⟩
  refine W_rs (kIn rfl rfl rfl (kAs rfl ?_))
  refine bc h rfl (fun _ h=>?_) (fun _ h=>?_)
  ·refine aw ?_
   exact⟨x2.Kind==14,h,atOk⟩
  refine W_r (kIn rfl rfl rfl (kAs rfl ?_))
  exact⟨x2.Kind==22,h,atOk⟩
 refine W_rs (kIn rfl rfl rfl (kAs rfl ?_))
 refine bc h rfl (fun _ h=>?_) (fun _ h=>?_)
 ·refine aw ?_
  exact⟨x2.Kind==13,h,atOk⟩
 refine W_r (kIn rfl rfl rfl (kAs rfl ?_))
 exact⟨x2.Kind==23,h,atOk⟩
theorem aid (R:bh) (ih:gm R) (x1:B6) (x2:B5) (r:A9 × Int) (h:r4 R x1 x2=some r):Fp 68 [(am).val x1,(ag).val x2] (bu [(af).val r.1,P6 r.2]):=by
 refine dt (rs:=[.cell 4 49,.tmp 5]) func68 rfl ntmps68 results68 dcd (fun s0=>?_)
 unfold r4 at h
 refine W_rs ?_
 refine rBox (R:=am) (a:=x1) rfl (fun b3=>?_)
 refine rBox (R:=ag) (a:=x2) rfl (fun b4=>?_)
 refine br sj fun b5=>kAs rfl (W_rs (kUn (ax 0 ty66 (Sub.refl _)) ?_))
 refine kUn (ax 1 ty64 (Sub.refl _)) ?_
 obtain⟨⟨x6,x7⟩,k,h⟩:=aj h
 refine kUn (acy (ih.2.2.2.2 x1 x2 vk _ k) ⟨aa,aa,(aye en113 (fun _ _ hs=>by obtain⟨a0,a1,a2,r,rfl,rfl,hr⟩:=hs;exact ahx a0 a1 a2 r hr)),tv⟩) ?_
 refine kUn aq ?_
 refine kUn aq ?_
 refine au 2 rfl rfl (Upd.refl _) rfl sizeOf49 (kAs rfl ?_)
 obtain rfl:=osj h
 exact bj ⟨rfl,[(af).val x6,P6 x7],⟨yBox 2 ty49 aa,yT aa,tv⟩,aa⟩
theorem afg (R:bh) (ih:gm R) (x1:B6) (x2:B5) (r:A9 × Int) (h:mr R x1 x2=some r):Fp 69 [(am).val x1,(ag).val x2] (bu [(af).val r.1,P6 r.2]):=by
 refine dt (rs:=[.cell 4 49,.tmp 5]) func69 rfl ntmps69 results69 dcd (fun s0=>?_)
 unfold mr at h
 refine W_rs ?_
 refine rBox (R:=am) (a:=x1) rfl (fun b3=>?_)
 refine rBox (R:=ag) (a:=x2) rfl (fun b4=>?_)
 refine br sj fun b5=>kAs rfl (W_rs (kUn (ax 0 ty66 (Sub.refl _)) ?_))
 refine kUn (ax 1 ty64 (Sub.refl _)) ?_
 obtain⟨⟨x6,x7⟩,k,h⟩:=aj h
 refine kUn (acy (ih.2.2.2.2 x1 x2 uu _ k) ⟨aa,aa,(aye en117 (fun _ _ hs=>by obtain⟨a0,a1,a2,r,rfl,rfl,hr⟩:=hs;exact agm a0 a1 a2 r hr)),tv⟩) ?_
 refine kUn aq ?_
 refine kUn aq ?_
 refine au 2 rfl rfl (Upd.refl _) rfl sizeOf49 (kAs rfl ?_)
 obtain rfl:=osj h
 exact bj ⟨rfl,[(af).val x6,P6 x7],⟨yBox 2 ty49 aa,yT aa,tv⟩,aa⟩
theorem af4 (R:bh) (ih:gm R) (x1:B6) (x2:B5) (x3:((List A9)->Bt->Bt->Option (A9 × Bool))) (r:A9 × Int) (h:nt R x1 x2 x3=some r):Fp 118 [(am).val x1,(ag).val x2,d7 Tryz.prog (aep x3)] (bu [(af).val r.1,P6 r.2]):=by
 refine dt (rs:=[.cell 6 49,.tmp 7]) func118 rfl ntmps118 results118 dcd (fun s0=>?_)
 let p1:=A9.mk 0 [] [] [] [] false [] 0 0
 unfold nt at h
 refine W_rs ?_
 refine rBox (R:=am) (a:=x1) rfl (fun b4=>?_)
 let p2:=E0 b4 am x1
 refine rBox (R:=ag) (a:=x2) rfl (fun b5=>?_)
 let p3:=E0 b5 ag x2
 refine br sj fun b6=>kAs rfl (ba (W_rs (kUn (ak q9) ?_)))
 let p4:=E0 b6 af p1
 refine kUn (ax 1 ty53 d6) ?_
 refine kUn (ma rfl underlying53) ?_
 refine kIn rfl rfl rfl ?_
 refine bc h rfl (fun _ h=>?_) (fun _ h=>?_)
 ·refine W_rs (kUn (jh st49 rfl) ?_)
  refine au 2 rfl rfl (Upd.refl _) rfl sizeOf49 (kAs rfl ?_)
  obtain rfl:=osj h
  exact bj ⟨rfl,[(af).val p1,P6 180],⟨yBox 2 ty49 aa,yT aa,tv⟩,aa⟩
 refine aw (W_rs (kUn (ak q9) ?_))
 refine kUn (ax 1 ty53 d6) ?_
 obtain⟨x8,k,h⟩:=aj h
 refine kUn (gu underlying53 sizeOf64 k) ?_
 refine kUn (dn ty64) ?_
 refine br al64 fun b9=>au 3 rfl rfl (Upd.refl _) rfl sizeOf64 ?_
 let p5:=E0 b9 ag x8
 refine bm (fun e C=>kg R x1 x8 x3 x2=some r/\At [(2,d7 Tryz.prog (aep x3)),(3,Pr.pt b4 0),(4,Pr.pt b5 0),(6,Pr.pt b6 0),(8,Pr.pt b9 0)] [p2,p3,p4,p5] e C) ?_ ?_
 ·rintro e C ⟨h,a⟩
  refine W_at a ?_
  unfold kg at h
  refine bm (fun e C=>∃x24,∃x23,∃b25,qa R x3 x1 x2 x24 x23=some r/\At [(2,d7 Tryz.prog (aep x3)),(3,Pr.pt b4 0),(4,Pr.pt b5 0),(6,Pr.pt b6 0),(12,Pr.pt b25 0),(13,Pb x24)] [p2,p3,p4,p5,E0 b25 af x23] e C) ?_ ?_
  ·rintro e C ⟨x24,x23,b25,h,a⟩
   refine W_at a ?_
   unfold qa at h
   refine ba ?_
   refine bm (fun e C=>∃x27,mq R x3 x1 x23 x2 x27=some r/\At [(2,d7 Tryz.prog (aep x3)),(3,Pr.pt b4 0),(4,Pr.pt b5 0),(6,Pr.pt b6 0),(12,Pr.pt b25 0),(70,Pb x27)] [p2,p3,p4,p5,E0 b25 af x23] e C) ?_ ?_
   ·rintro e C ⟨x27,h,a⟩
    refine W_at a ?_
    unfold mq at h
    refine bc h rfl (fun _ h=>?_) (fun _ h=>?_)
    ·refine W_rs (kUn (jh st49 rfl) ?_)
     refine au 2 rfl rfl (Upd.refl _) rfl sizeOf49 (kAs rfl ?_)
     obtain rfl:=osj h
     exact bj ⟨rfl,[(af).val p1,P6 180],⟨yBox 2 ty49 aa,yT aa,tv⟩,aa⟩
    refine aw (W_rs (kUn (ax 0 ty66 (Sub.refl _)) ?_))
    refine br al66 fun b29=>au 5 rfl rfl (Upd.refl _) rfl sizeOf66 (W_rs (kUn (ak alm) ?_))
    refine au 5 rfl rfl xi rfl sizeOf4 ?_
    refine bm (fun e C=>∃x33,∃x32,qb R x33 x32=some r/\At [(6,Pr.pt b6 0),(7,P6 x33)] [p2,p3,E0 b6 af x32,p5,E0 b25 af x23,E0 b29 am ({x1 with Static:=false})] e C) ?_ ?_
    ·rintro e C ⟨x33,x32,h,a⟩
     refine W_at a ?_
     unfold qb at h
     obtain rfl:=osj h
     exact bj ⟨rfl,[(af).val x32,P6 x33],⟨yBox 2 ty49 aa,yT aa,tv⟩,aa⟩
    refine mh 14 hmx kr kr ?_
    refine lUn (ax 5 ty66 (Sub.refl _)) ?_
    refine lUn (hMv (out:=d7 Tryz.prog (aep x3)) rfl) (lUn (ak anv) ?_)
    refine lUn (ax 0 ty38 oh) ?_
    refine lUn (ak ra) ?_
    refine lUn (ax 4 ty9 g0) ?_
    refine lUn (ak gz) ?_
    refine lUn (ax 1 ty9 cc) ?_
    obtain⟨⟨x30,x31⟩,k,h⟩:=aj h
    refine lUn (anp (spec:=aep x3) ⟨_,_,_,_,rfl,rfl,k⟩) ?_
    refine lUn aq ?_
    refine lUn aq ?_
    obtain⟨⟨x32,x33⟩,k,h⟩:=aj h
    refine lUn (dv (u7 ({x1 with Static:=false}) x30 x31 _ k)) ?_
    refine lUn aq ?_
    refine lUn aq ?_
    refine au 2 rfl rfl (Upd.refl _) rfl sizeOf49 (kAs rfl ?_)
    exact⟨x33,x32,h,atOk⟩
   refine W_r (kMv rfl (kNo rfl (kMv rfl ?_)))
   rcases cg h with⟨hc26,h⟩|⟨hc26,h⟩
   ·refine skx ?_
    refine kPt rfl hc26 rfl ?_
    exact⟨true,h,atOk⟩
   refine kGd rfl aa hc26 (ak ra) ?_
   refine kGd rfl aa hc26 (ax 4 ty9 g0) ?_
   refine kGd rfl aa hc26 (qStr rfl rfl rfl) (kPf rfl hc26 rfl ?_)
   exact⟨x23.Id==[],h,atOk⟩
  obtain⟨x22,hx22,h⟩:=aj h
  obtain⟨⟨x23,x24⟩,hx23,h⟩:=aj h
  refine avk 1 (fun B S=>[E0 b4 am x1,E0 b5 ag x2,E0 b6 af (A9.mk 0 [] [] [] [] false [] 0 0),E0 b9 ag x8,(cond (S 9) (E0 (B 8) af x23) (cond (S 8) (E0 (B 8) af (A9.mk 0 [] [] [] [] false [] 0 0)) A4.nil))]) (fun B=>[E0 b4 am x1,E0 b5 ag x2,E0 b6 af (A9.mk 0 [] [] [] [] false [] 0 0),E0 b9 ag x8,E0 (B 8) af x23]) [(am).val x1,(am).val x1,(ag).val x8,Pr.str x22,bu [(af).val x23,Pb x24],bu [(af).val x23,Pb x24],(af).val x23,Pb x24,.any,.any,Pb x24] (fun k=>([0,0,0,0,0,0,0,0,2,1,0]:List Nat).getD k 0) hmx kr kr (fun _=>rfl) (fun B S S' h=>by show([E0 b4 am x1,E0 b5 ag x2,E0 b6 af (A9.mk 0 [] [] [] [] false [] 0 0),E0 b9 ag x8,(cond (S 9) (E0 (B 8) af x23) (cond (S 8) (E0 (B 8) af (A9.mk 0 [] [] [] [] false [] 0 0)) A4.nil))]:Ctx)=[E0 b4 am x1,E0 b5 ag x2,E0 b6 af (A9.mk 0 [] [] [] [] false [] 0 0),E0 b9 ag x8,(cond (S' 9) (E0 (B 8) af x23) (cond (S' 8) (E0 (B 8) af (A9.mk 0 [] [] [] [] false [] 0 0)) A4.nil))];simp only[h 8 (Nat.le_of_ble_eq_true kr),h 9 (Nat.le_of_ble_eq_true kr)]) (fun _=>rfl) (fun B=>?_)
  refine gq1 (fun S hK=>(ax (R:=am) (a:=x1) (R':=am) 0 ty66 (Sub.refl _) (hi:=rfl))) ?_
  refine gq1 (fun S hK=>(ax (R:=am) (a:=x1) (R':=am) 0 ty66 (Sub.refl _) (hi:=rfl))) ?_
  refine gq1 (fun S hK=>(ax (R:=ag) (a:=x8) (R':=ag) 3 ty64 (Sub.refl _) (hi:=rfl))) ?_
  refine gq1 (fun S hK=>(dv (ih.2.1 x1 x8 _ hx22))) ?_
  refine gq1 (fun S hK=>(dv (ri x1 x22 _ hx23))) ?_
  refine gq1 (fun S hK=>gk) ?_
  refine gq1 (fun S hK=>aq) ?_
  refine gq1 (fun S hK=>aq) ?_
  refine gqA (fun S hK=>⟨fun B' hB=>by show([E0 b4 am x1,E0 b5 ag x2,E0 b6 af (A9.mk 0 [] [] [] [] false [] 0 0),E0 b9 ag x8,(cond (S 9) (E0 (B' 8) af x23) (cond (S 8) (E0 (B' 8) af (A9.mk 0 [] [] [] [] false [] 0 0)) A4.nil))]:Ctx)=[E0 b4 am x1,E0 b5 ag x2,E0 b6 af (A9.mk 0 [] [] [] [] false [] 0 0),E0 b9 ag x8,(cond (S 9) (E0 (B 8) af x23) (cond (S 8) (E0 (B 8) af (A9.mk 0 [] [] [] [] false [] 0 0)) A4.nil))];simp only[hK.me,hK.F 9 kr,cond_false],fun s ρ hg _=>ax9 (R:=af) (z:=(A9.mk 0 [] [] [] [] false [] 0 0)) 4 zeroValue49 (fun _=>⟨_,⟨_,_,rfl,rfl,⟨_,_,rfl,rfl,⟨_,_,rfl,rfl,⟨_,_,rfl,rfl,⟨_,_,rfl,rfl,⟨_,_,rfl,rfl,⟨_,_,rfl,⟨_,rfl,none,0,rfl,⟨Nat.le_refl _,fun _=>rfl⟩,.inl rfl⟩,⟨_,_,rfl,rfl,⟨_,_,rfl,rfl,rfl⟩⟩⟩⟩⟩⟩⟩⟩⟩,rfl⟩) (congrArg some ((ari (hK.F 9 kr) _ _).trans (ari (hK.me) _ _))) (fun b=>by show([E0 b4 am x1,E0 b5 ag x2,E0 b6 af (A9.mk 0 [] [] [] [] false [] 0 0),E0 b9 ag x8,(cond (S 9) (E0 b af x23) (E0 b af (A9.mk 0 [] [] [] [] false [] 0 0)))]:Ctx)=_;rw[hK.F 9 kr];rfl) s ρ hg⟩) ?_
  refine gqS (fun S hK=>amu.as (av8 (R:=af) (R':=af) (a:=(A9.mk 0 [] [] [] [] false [] 0 0)) (y:=x23) 4 sizeOf49 (Upd.refl _) (congrArg some ((ari (hK.me) _ _).trans (condT (hK.T 8 kr) _ _)))) (by show(_:Ctx)=[E0 b4 am x1,E0 b5 ag x2,E0 b6 af (A9.mk 0 [] [] [] [] false [] 0 0),E0 b9 ag x8,E0 (B 8) af x23];rfl)) ?_
  refine gq1 (fun S hK=>fw) ?_
  exact⟨x24,x23,(B 8),h,atOk⟩
 refine W_rs (kUn (ak ig) ?_)
 refine kUn (ax 3 ty3 bq) ?_
 refine kIn rfl rfl rfl ?_
 refine bc h rfl (fun _ h=>?_) (fun _ h=>?_)
 ·refine W_rs (kUn (ax 0 ty66 (Sub.refl _)) ?_)
  refine kUn (ax 3 ty64 (Sub.refl _)) ?_
  obtain⟨⟨x11,x12⟩,k,h⟩:=aj h
  refine kUn (dv (aen x1 x8 _ k)) ?_
  refine kUn (hMv (out:=bu [(af).val x11,P6 x12]) rfl) (kUn aq ?_)
  refine kUn aq ?_
  refine br sj fun b13=>au 4 rfl rfl (Upd.refl _) rfl sizeOf49 (kAs rfl ?_)
  refine bm (fun e C=>∃x15,mo R x3 x1 x11 x2 x8 x15=some r/\At [(2,d7 Tryz.prog (aep x3)),(3,Pr.pt b4 0),(4,Pr.pt b5 0),(6,Pr.pt b6 0),(8,Pr.pt b9 0),(9,Pr.pt b13 0),(39,Pb x15)] [p2,p3,p4,p5,E0 b13 af x11] e C) ?_ ?_
  ·rintro e C ⟨x15,h,a⟩
   refine W_at a ?_
   unfold mo at h
   refine bc h rfl (fun _ h=>?_) (fun _ h=>?_)
   ·refine W_rs (kUn (ax 0 ty66 (Sub.refl _)) ?_)
    refine br al66 fun b17=>au 5 rfl rfl (Upd.refl _) rfl sizeOf66 (W_rs (kUn (ak alm) ?_))
    refine au 5 rfl rfl xi rfl sizeOf4 ?_
    refine bm (fun e C=>∃x21,∃x20,pz R x21 x20=some r/\At [(6,Pr.pt b6 0),(7,P6 x21)] [p2,p3,E0 b6 af x20,p5,E0 b13 af x11,E0 b17 am ({x1 with Static:=true})] e C) ?_ ?_
    ·rintro e C ⟨x21,x20,h,a⟩
     refine W_at a ?_
     unfold pz at h
     obtain rfl:=osj h
     exact bj ⟨rfl,[(af).val x20,P6 x21],⟨yBox 2 ty49 aa,yT aa,tv⟩,aa⟩
    refine mh 14 hmx kr kr ?_
    refine lUn (ax 5 ty66 (Sub.refl _)) ?_
    refine lUn (hMv (out:=d7 Tryz.prog (aep x3)) rfl) (lUn (ak anv) ?_)
    refine lUn (ax 0 ty38 oh) ?_
    refine lUn (ak ra) ?_
    refine lUn (ax 4 ty9 g0) ?_
    refine lUn (ak gz) ?_
    refine lUn (ax 1 ty9 cc) ?_
    obtain⟨⟨x18,x19⟩,k,h⟩:=aj h
    refine lUn (anp (spec:=aep x3) ⟨_,_,_,_,rfl,rfl,k⟩) ?_
    refine lUn aq ?_
    refine lUn aq ?_
    obtain⟨⟨x20,x21⟩,k,h⟩:=aj h
    refine lUn (dv (u7 ({x1 with Static:=true}) x18 x19 _ k)) ?_
    refine lUn aq ?_
    refine lUn aq ?_
    refine au 2 rfl rfl (Upd.refl _) rfl sizeOf49 (kAs rfl ?_)
    exact⟨x21,x20,h,atOk⟩
   refine aw ?_
   exact⟨h,⟨⟨aa,aa,aa,aa,aa,tv⟩,A8.of [0,1,2,3] rfl⟩⟩
  refine W_r (kMv rfl (kIn rfl rfl rfl (kMv rfl ?_)))
  rcases cg h with⟨hc14,h⟩|⟨hc14,h⟩
  ·refine kGd rfl aa hc14 (ak xa) ?_
   refine kGd rfl aa hc14 (ax 4 ty3 ft) ?_
   refine kGd rfl aa hc14 (qInt rfl rfl rfl) (kPt rfl hc14 rfl ?_)
   exact⟨x11.Kind==1,h,atOk⟩
  refine skx ?_
  refine kPf rfl hc14 rfl ?_
  exact⟨false,h,atOk⟩
 refine aw ?_
 exact⟨h,atOk⟩
theorem ye :∀n,gm (cr n):=by
 intro n
 induction n with
 |zero=>exact⟨(fun x1 x2 r h=>nomatch (show none=some r from h)),(fun x1 x2 r h=>nomatch (show none=some r from h)),(fun x1 x2 r h=>nomatch (show none=some r from h)),(fun x1 x2 r h=>nomatch (show none=some r from h)),(fun x1 x2 x3 r h=>nomatch (show none=some r from h))⟩
 |succ n ih=>exact⟨(fun x1 x2 r h=>af5 (cr n) ih x1 x2 r h),(fun x1 x2 r h=>ag0 (cr n) ih x1 x2 r h),(fun x1 x2 r h=>aid (cr n) ih x1 x2 r h),(fun x1 x2 r h=>afg (cr n) ih x1 x2 r h),(fun x1 x2 x3 r h=>af4 (cr n) ih x1 x2 x3 r h)⟩
theorem ace (x1:B6) (x2:B5) (r:A9 × Int) (h:u9 x1 x2=some r):Fp 32 [(am).val x1,(ag).val x2] (bu [(af).val r.1,P6 r.2]):=(ye 1048576).1 x1 x2 r h
theorem ak5 (x1:B6) (x2:B5) (r:Bt) (h:ah8 x1 x2=some r):Fp 33 [(am).val x1,(ag).val x2] (Pr.str r):=(ye 1048576).2.1 x1 x2 r h
theorem aem (x1:B6) (x2:B5) (x4:B8) (b3:Nat) (v5:Value) (r:PX B9 B8) (h:ue x1 x2 x4=some r):FnX Tryz.prog 74 [Pr.pt b3 0,(am).val x1,(ag).val x2] [E0 b3 ap (D4.mk v5 x4.file x4.method x4.many),E3 v5 al x4.uses 47] (fun q C'=>∃a9,r= .ok a9/\∃w100,q=bu []/\C'=[E0 b3 ap (D4.mk w100 a9.file a9.method a9.many),E3 w100 al a9.uses 47]) (fun v=>∃m,r= .bad m/\v=abw m):=by
 refine al1 (rs:=[]) func74 rfl ntmps74 ⟨by decide,results74⟩ dcd (fun s0=>?_)
 unfold ue at h
 refine W_rs ?_
 refine rBox (R:=am) (a:=x1) rfl (fun b6=>?_)
 let p1:=E0 b6 am x1
 refine rBox (R:=ag) (a:=x2) rfl (fun b7=>?_)
 let p2:=E0 b7 ag x2
 refine bm (fun e C=>∃x15,∃x16,∃x17,∃x18,∃v14,l6 x2 x1 x15 x16 x17 x18=some r/\At [(0,Pr.pt b3 0),(4,Pr.pt b6 0),(5,Pr.pt b7 0)] [E0 b3 ap (D4.mk v14 x15 x16 x17),E3 v14 al x18 47,p1,p2] e C) ?_ ?_
 ·rintro e C ⟨x15,x16,x17,x18,v14,h,a⟩
  refine W_at a ?_
  unfold l6 at h
  refine ba (W_rs (kUn (ak tf) ?_))
  refine kUn (ax 3 ty3 jl) ?_
  refine kIn rfl rfl rfl ?_
  refine bc h rfl (fun _ h=>?_) (fun _ h=>?_)
  ·obtain rfl:=osj h
   exact bj (.inl ⟨.inl rfl,_,A8.of [0,1] rfl,_,aa,_,rfl,v14,rfl,rfl⟩)
  refine aw (W_rs (kAs rfl ?_))
  refine bm (fun e C=>∃x36,∃x38,∃x39,∃x40,∃x41,∃v37,ij x2 x36 x38 x39 x40 x41=some r/\At [(0,Pr.pt b3 0),(5,Pr.pt b7 0),(6,Pr.str x36)] [E0 b3 ap (D4.mk v37 x38 x39 x40),E3 v37 al x41 47,p1,p2] e C) ?_ ?_
  ·rintro e C ⟨x36,x38,x39,x40,x41,v37,h,a⟩
   refine W_at a ?_
   unfold ij at h
   refine W_r (kMv rfl (kUn (ak tf) ?_))
   refine kUn (ax 3 ty3 jl) ?_
   refine kMv rfl ?_
   obtain⟨x42,k,h⟩:=aj h
   refine nw [0,1] (ael x2.At x36 (B8.mk x41 x38 x39 x40) b3 v37 _ k) (fun q C' hq=>?_)
   obtain⟨v43,rfl,rfl⟩:=hq
   refine rCtx [E0 b3 ap (D4.mk v43 x42.file x42.method x42.many),E3 v43 al x42.uses 47,p1,p2] ?_
   obtain rfl:=osj h
   exact(.inl ⟨.inr rfl,_,A8.of [0,1] rfl,_,aa,_,rfl,v43,rfl,rfl⟩)
  refine W_rs (kUn (ak ig) ?_)
  refine kUn (ax 3 ty3 bq) ?_
  refine ay (W_rs (kIn rfl rfl rfl (kAs rfl ?_)))
  refine bc h rfl (fun _ h=>?_) (fun _ h=>?_)
  ·refine W_r (kUn (ak gz) ?_)
   refine kUn (ax 3 ty9 cc) ?_
   refine c8 h (afd x2.Text) rfl fun x21 _ h=>kAs rfl ?_
   exact⟨x21,x15,x16,x17,x18,v14,h,atOk⟩
  refine W_rs (kIn rfl rfl rfl (kAs rfl ?_))
  refine bc h rfl (fun _ h=>?_) (fun _ h=>?_)
  ·refine W_r (kUn (ak aln) ?_)
   refine kUn (ax 2 ty9 lr) ?_
   refine kUn (ak gz) ?_
   refine kUn (ax 3 ty9 cc) ?_
   refine c8 h (afb x1.Class x2.Text) rfl fun x23 _ h=>kAs rfl ?_
   exact⟨x23,x15,x16,x17,x18,v14,h,atOk⟩
  refine W_rs (kIn rfl rfl rfl (kAs rfl ?_))
  refine bc h rfl (fun _ h=>?_) (fun _ h=>?_)
  ·refine W_r (kUn (ak aln) ?_)
   refine kUn (ax 2 ty9 lr) ?_
   refine kUn (ak gz) ?_
   refine kUn (ax 3 ty9 cc) ?_
   refine c8 h (adm x1.Class x2.Text) rfl fun x25 _ h=>kAs rfl ?_
   exact⟨x25,x15,x16,x17,x18,v14,h,atOk⟩
  refine bm (fun e C=>∃x27,l7 x16 x17 x2 x15 x18 x1 x27=some r/\At [(0,Pr.pt b3 0),(4,Pr.pt b6 0),(5,Pr.pt b7 0),(57,Pb x27)] [E0 b3 ap (D4.mk v14 x15 x16 x17),E3 v14 al x18 47,p1,p2] e C) ?_ ?_
  ·rintro e C ⟨x27,h,a⟩
   refine W_at a ?_
   unfold l7 at h
   refine bc h rfl (fun _ h=>?_) (fun _ h=>?_)
   ·refine mh 10 hmx kr kr ?_
    refine lUn (hMvA rfl) (lUn (ag1 rfl) (lUn (ak arw) ?_))
    refine lUn (ax 0 ty9 rj) ?_
    refine lUn (hMvA rfl) (lUn (ag1 rfl) (lUn (ak anu) ?_))
    refine lUn (ax 0 ty3 uk) ?_
    obtain⟨x29,k,h⟩:=aj h
    refine lUn (dv (afa x16 x17 _ k)) ?_
    refine lUn (hAsA rfl) ?_
    exact⟨x29,x15,x16,x17,x18,v14,h,atOk⟩
   refine W_rs (kUn (ax 2 ty66 (Sub.refl _)) ?_)
   refine kUn (ax 3 ty64 (Sub.refl _)) ?_
   obtain⟨⟨x30,x31⟩,k,h⟩:=aj h
   refine kUn (dv (ace x1 x2 _ k)) ?_
   refine kUn (hMv (out:=bu [(af).val x30,P6 x31]) rfl) (kUn aq ?_)
   refine kUn aq ?_
   refine br sj fun b32=>au 4 rfl rfl (Upd.refl _) rfl sizeOf49 (kAs rfl (W_rs (kMv rfl (kMv rfl (kUn (ak tf) ?_)))))
   refine kUn (ax 3 ty3 jl) ?_
   rcases xz h with⟨m35,hm35,h⟩|⟨x33,hx33,h⟩
   ·refine ab7 [0,1] (kf x31 x2.At (B8.mk x18 x15 x16 x17) b3 v14 _ hm35) ⟨aa,aa,aa,tv⟩ (fun q C' hq=>?_) (fun v9 hv=>?_)
    ·obtain⟨_,h9,_⟩:=hq;cases h9
    obtain⟨_,h9,rfl⟩:=hv
    cases h9
    obtain rfl:=osj h
    exact .inr ⟨_,rfl,_,rfl,rfl⟩
   refine ab7 [0,1] (kf x31 x2.At (B8.mk x18 x15 x16 x17) b3 v14 _ hx33) ⟨aa,aa,aa,tv⟩ (fun q C' hq=>?_) (fun v9 hv=>by obtain⟨_,h9,_⟩:=hv;cases h9)
   obtain⟨_,h9,v34,rfl,rfl⟩:=hq
   cases h9
   refine rCtx [E0 b3 ap (D4.mk v34 x33.file x33.method x33.many),E3 v34 al x33.uses 47,p1,p2,E0 b32 af x30] ?_
   refine W_r (kUn (ak ra) ?_)
   refine kUn (ax 4 ty9 g0) ?_
   refine kAs rfl ?_
   exact⟨x30.Id,x33.file,x33.method,x33.many,x33.uses,v34,h,⟨⟨aa,aa,aa,tv⟩,A8.of [0,1,2,3] rfl⟩⟩
  refine W_rs (kIn rfl rfl rfl (kAs rfl ?_))
  refine bc h rfl (fun _ h=>?_) (fun _ h=>?_)
  ·refine aw ?_
   exact⟨x2.Kind==4,h,atOk⟩
  refine W_r (kIn rfl rfl rfl (kAs rfl ?_))
  exact⟨x2.Kind==6,h,atOk⟩
 refine bm (fun e C=>∃x9,ou x2 x4 x1 x9=some r/\At [(0,Pr.pt b3 0),(4,Pr.pt b6 0),(5,Pr.pt b7 0),(15,Pb x9)] [E0 b3 ap (D4.mk v5 x4.file x4.method x4.many),E3 v5 al x4.uses 47,p1,p2] e C) ?_ ?_
 ·rintro e C ⟨x9,h,a⟩
  refine W_at a ?_
  unfold ou at h
  refine bc h rfl (fun _ h=>?_) (fun _ h=>?_)
  ·refine W_r (kMv rfl (kUn (ak ayy) ?_))
   refine kUn (ax 3 ty3 ah4) ?_
   rcases xz h with⟨m13,hm13,h⟩|⟨x11,hx11,h⟩
   ·refine ab7 [0,1] (kf 171 x2.From x4 b3 v5 _ hm13) ⟨aa,aa,aa,tv⟩ (fun q C' hq=>?_) (fun v9 hv=>?_)
    ·obtain⟨_,h9,_⟩:=hq;cases h9
    obtain⟨_,h9,rfl⟩:=hv
    cases h9
    obtain rfl:=osj h
    exact .inr ⟨_,rfl,_,rfl,rfl⟩
   refine ab7 [0,1] (kf 171 x2.From x4 b3 v5 _ hx11) ⟨aa,aa,aa,tv⟩ (fun q C' hq=>?_) (fun v9 hv=>by obtain⟨_,h9,_⟩:=hv;cases h9)
   obtain⟨_,h9,v12,rfl,rfl⟩:=hq
   cases h9
   refine rCtx [E0 b3 ap (D4.mk v12 x11.file x11.method x11.many),E3 v12 al x11.uses 47,p1,p2] ?_
   exact⟨x11.file,x11.method,x11.many,x11.uses,v12,h,atOk⟩
  refine aw ?_
  exact⟨x4.file,x4.method,x4.many,x4.uses,v5,h,atOk⟩
 refine W_r (kUn (ak ig) ?_)
 refine kUn (ax 3 ty3 bq) ?_
 refine kIn rfl rfl rfl (kMv rfl ?_)
 rcases cg h with⟨hc8,h⟩|⟨hc8,h⟩
 ·refine kGd rfl aa hc8 (ak alm) ?_
  refine kGd rfl aa hc8 (ax 2 ty4 xk) ?_
  refine kPt rfl hc8 rfl ?_
  exact⟨x1.Static,h,atOk⟩
 refine skx ?_
 refine kPf rfl hc8 rfl ?_
 exact⟨false,h,atOk⟩
def wl (R:cj):Prop:=(∀(x1:B6) (x2:B5) (x4:B8) (b3:Nat) (v5:Value) (r:PX B9 (B6 × B8)),R x1 x2 x4=some r->FnX Tryz.prog 37 [Pr.pt b3 0,(am).val x1,(ag).val x2] [E0 b3 ap (D4.mk v5 x4.file x4.method x4.many),E3 v5 al x4.uses 47] (fun q C'=>∃a9,r= .ok a9/\∃w100,q=(am).val a9.1/\C'=[E0 b3 ap (D4.mk w100 a9.2.file a9.2.method a9.2.many),E3 w100 al a9.2.uses 47]) (fun v=>∃m,r= .bad m/\v=abw m))
theorem agt (R:cj) (ih:wl R) (x1:B6) (x2:B5) (x4:B8) (b3:Nat) (v5:Value) (r:PX B9 (B6 × B8)) (h:oz R x1 x2 x4=some r):FnX Tryz.prog 37 [Pr.pt b3 0,(am).val x1,(ag).val x2] [E0 b3 ap (D4.mk v5 x4.file x4.method x4.many),E3 v5 al x4.uses 47] (fun q C'=>∃a9,r= .ok a9/\∃w100,q=(am).val a9.1/\C'=[E0 b3 ap (D4.mk w100 a9.2.file a9.2.method a9.2.many),E3 w100 al a9.2.uses 47]) (fun v=>∃m,r= .bad m/\v=abw m):=by
  refine axi (rs:=[.cell 6 66]) func37 rfl ntmps37 results37 dcd (fun s0=>?_)
  let p1:=B6.mk [] [] false []
  unfold oz at h
  refine W_rs ?_
  refine rBox (R:=am) (a:=x1) rfl (fun b6=>?_)
  let p2:=E0 b6 am x1
  refine rBox (R:=ag) (a:=x2) rfl (fun b7=>?_)
  let p3:=E0 b7 ag x2
  refine br al66 fun b8=>W_rs (kMv rfl (kUn (ax 2 ty66 (Sub.refl _)) ?_))
  let p4:=E0 b8 am p1
  refine kUn (ax 3 ty64 (Sub.refl _)) ?_
  rcases xz h with⟨m73,hm73,h⟩|⟨x9,hx9,h⟩
  · refine ab7 [0,1] (ads x1 x2 x4 b3 v5 _ hm73) ⟨aa,aa,aa,tv⟩ (fun q C' hq=>?_) (fun v9 hv=>?_)
    · obtain⟨_,h9,_⟩:=hq;cases h9
    obtain⟨_,h9,rfl⟩:=hv
    cases h9
    obtain rfl:=osj h
    exact .inr ⟨_,rfl,_,rfl,rfl⟩
  refine ab7 [0,1] (ads x1 x2 x4 b3 v5 _ hx9) ⟨aa,aa,aa,tv⟩ (fun q C' hq=>?_) (fun v9 hv=>by obtain⟨_,h9,_⟩:=hv;cases h9)
  obtain⟨_,h9,v10,rfl,rfl⟩:=hq
  cases h9
  refine rCtx [E0 b3 ap (D4.mk v10 x9.file x9.method x9.many),E3 v10 al x9.uses 47,p2,p3,p4] ?_
  refine W_rs (kUn (ak q9) ?_)
  refine kUn (ax 3 ty53 d6) ?_
  refine kAsL rfl ?_
  refine bm (fun e C=>∃x22,∃x24,∃x25,∃x26,∃x27,∃v23,k8 R x1 x2 x22 x24 x25 x26 x27=some r/\At [(0,Pr.pt b3 0),(4,Pr.pt b6 0),(5,Pr.pt b7 0),(6,Pr.pt b8 0),(7,ar ag x22)] [E0 b3 ap (D4.mk v23 x24 x25 x26),E3 v23 al x27 47,p2,p3,p4] e C) ?_ ?_
  · rintro e C ⟨x22,x24,x25,x26,x27,v23,h,a⟩
    refine W_at a ?_
    unfold k8 at h
    refine W_rs (kMv rfl (kUn (ax 2 ty66 (Sub.refl _)) ?_))
    refine kUn (ax 3 ty64 (Sub.refl _)) ?_
    rcases xz h with⟨m72,hm72,h⟩|⟨x28,hx28,h⟩
    · refine ab7 [0,1] (aem x1 x2 (B8.mk x27 x24 x25 x26) b3 v23 _ hm72) ⟨aa,aa,aa,tv⟩ (fun q C' hq=>?_) (fun v9 hv=>?_)
      · obtain⟨_,h9,_⟩:=hq;cases h9
      obtain⟨_,h9,rfl⟩:=hv
      cases h9
      obtain rfl:=osj h
      exact .inr ⟨_,rfl,_,rfl,rfl⟩
    refine ab7 [0,1] (aem x1 x2 (B8.mk x27 x24 x25 x26) b3 v23 _ hx28) ⟨aa,aa,aa,tv⟩ (fun q C' hq=>?_) (fun v9 hv=>by obtain⟨_,h9,_⟩:=hv;cases h9)
    obtain⟨_,h9,v29,rfl,rfl⟩:=hq
    let p5:=D4.mk v29 x28.file x28.method x28.many
    let p6:=E3 v29 al x28.uses 47
    cases h9
    refine rCtx [E0 b3 ap p5,p6,p2,p3,p4] ?_
    refine bm (fun e C=>∃x31,gr R x28 x22 x2 x1 x31=some r/\At [(0,Pr.pt b3 0),(4,Pr.pt b6 0),(5,Pr.pt b7 0),(6,Pr.pt b8 0),(7,ar ag x22),(8,Pb x31)] [E0 b3 ap p5,p6,p2,p3,p4] e C) ?_ ?_
    · rintro e C ⟨x31,h,a⟩
      refine W_at a ?_
      unfold gr at h
      refine bm (fun e C=>∃x32,∃b33,rg R x31 x22 x2 x1 x28 x32=some r/\At [(0,Pr.pt b3 0),(4,Pr.pt b6 0),(5,Pr.pt b7 0),(6,Pr.pt b8 0),(7,ar ag x22),(8,Pb x31),(9,Pr.pt b33 0)] [E0 b3 ap p5,p6,p2,p3,p4,E0 b33 af (A9.mk 4 x32 x2.Text x28.method x2.Type_ false [] x28.file x2.At)] e C) ?_ ?_
      · rintro e C ⟨x32,b33,h,a⟩
        let p7:=E0 b33 af (A9.mk 4 x32 x2.Text x28.method x2.Type_ false [] x28.file x2.At)
        let p8:=A9.mk 4 x32 x2.Text x28.method x2.Type_ false [] x28.file x2.At
        refine W_at a ?_
        unfold rg at h
        refine W_rs (kUn (ax 2 ty66 (Sub.refl _)) ?_)
        refine br al66 fun b34=>au 6 rfl rfl (Upd.refl _) rfl sizeOf66 ?_
        refine bm (fun e C=>∃x37,∃x38,jr R x22 x2 x1 x28 x31 x32 x37 x38=some r/\At [(0,Pr.pt b3 0),(4,Pr.pt b6 0),(5,Pr.pt b7 0),(6,Pr.pt b8 0),(7,ar ag x22),(8,Pb x31),(9,Pr.pt b33 0),(10,Pr.pt b34 0)] [E0 b3 ap (D4.mk v29 x28.file x28.method x37),p6,p2,p3,p4,p7,E0 b34 am x38] e C) ?_ ?_
        · rintro e C ⟨x37,x38,h,a⟩
          refine W_at a ?_
          unfold jr at h
          refine ba (W_rs (kMvL rfl (kUn (ma rfl underlying53) ?_)))
          refine kMv rfl (ay ?_)
          obtain⟨z3l,hz3,h⟩:=aj h
          obtain⟨n3,hN3⟩:=bt hz3
          refine dl 1 (fun e C=>∃x41,∃x42,∃x43,∃x45,∃x44,∃v40,rf R x31 x1 x32 x2 x28 x41 x42 x43 x45 x44=some r/\At [(0,Pr.pt b3 0),(4,Pr.pt b6 0),(6,Pr.pt b8 0),(8,Pb x31),(9,Pr.pt b33 0)] [E0 b3 ap (D4.mk v40 x41 x42 x43),E3 v40 al x45 47,p2,p3,p4,p7,E0 b34 am x44] e C) ?_ ?_
          · rintro e C ⟨x41,x42,x43,x45,x44,v40,h,a⟩
            let p9:=E0 b3 ap (D4.mk v40 x41 x42 x43)
            refine W_at a ?_
            unfold rf at h
            refine bm (fun e C=>∃x71,nq R x45 x41 x42 x43 x71=some r/\At [(0,Pr.pt b3 0),(4,Pr.pt b6 0),(6,Pr.pt b8 0)] [p9,E3 v40 al x45 47,E0 b6 am x71,p3,p4,p7,E0 b34 am x44] e C) ?_ ?_
            · rintro e C ⟨x71,h,a⟩
              refine W_at a ?_
              unfold nq at h
              refine W_rs (kUn (ax 2 ty66 (Sub.refl _)) ?_)
              refine au 4 rfl rfl (Upd.refl _) rfl sizeOf66 ?_
              obtain rfl:=osj h
              exact bj (.inl ⟨.inl rfl,[(am).val x71],⟨yBox 4 ty66 aa,tv⟩,_,A8.of [0,1] rfl,_,rfl,v40,rfl,rfl⟩)
            refine W_rs (kMv rfl ?_)
            refine bc h rfl (fun _ h=>?_) (fun _ h=>?_)
            · obtain⟨x67,hx67,h⟩:=aj h
              obtain⟨x69,k,h⟩:=aj h
              refine aes [0,1,3,0,8,31,63,127] [[],[p2],[],[p7],[],[],[],[]] hmx kr kr kr rfl ?_
              refine aq0 0 1 (out:=Pr.pt b6 3) rfl (fun C9=>(ak avb)) ?_
              refine aq1 1 3 2 (out:=ar af x1.Seen) rfl rfl (fun C9 i9 h9=>(ax (R:=am) (a:=x1) (R':=Rp.list af) i9 ty38 afy (hi:=h9))) ?_
              refine aq1 3 11 5 (out:=(af).val p8) rfl rfl (fun C9 i9 h9=>(ax (R:=af) (a:=p8) (R':=af) i9 ty49 (Sub.refl _) (hi:=h9))) ?_
              refine aq0 4 27 (out:=ar af ([p8]:List A9)) rfl (fun C9=>(c5 (R:=af) (a:=p8) el38 nb)) ?_
              refine ae 2 31 rfl (fun g9=>?_)
              refine nw [] (ao5 x1.Seen _ hx67) (fun q C' hq=>?_)
              obtain⟨v68,rfl,rfl⟩:=hq
              refine rCtx [E3 v68 af x67 49,p9,E3 v40 al x45 47,p2,p3,p4,p7,E0 b34 am x44] ?_
              refine pp _ [p7] (x0 6 ga) ?_
              refine ae 5 63 rfl (fun g9=>?_)
              refine gq 0 el38 k (fun v70=>?_)
              refine pp _ [] ga ?_
              refine aq0 6 127 (out:=Pr.pt b6 3) rfl (fun C9=>(ak avb)) ?_
              refine ae 7 255 rfl (fun g9=>?_)
              refine azi (Rb:=am) (R:=af) (a:=x1) 0 2 sizeOf38 ama ?_
              refine pp .any [] ga ?_
              refine agu ?_
              exact⟨{x1 with Seen:=x69},h,atOk⟩
            refine aw ?_
            exact⟨x1,h,atOk⟩
          refine fb (fun m e C=>∃x39,∃x41,∃x42,∃x43,∃x44,∃x45,∃v40,fp (fun s=>iw R x22 x2 x1 s.1 s.2.1 s.2.2.1 s.2.2.2.1 s.2.2.2.2.1 s.2.2.2.2.2) m (x39,x41,x42,x43,x44,x45)=some z3l/\At [(0,Pr.pt b3 0),(4,Pr.pt b6 0),(5,Pr.pt b7 0),(6,Pr.pt b8 0),(8,Pb x31),(9,Pr.pt b33 0),(10,Pr.pt b34 0),(94,ar ag x22),(95,P6 (x22.length:Int)),(96,P6 x39)] [E0 b3 ap (D4.mk v40 x41 x42 x43),E3 v40 al x45 47,p2,p3,p4,p7,E0 b34 am x44] e C) n3 ⟨0,x28.file,x28.method,x37,x38,x28.uses,v29,hN3,⟨⟨aa,aa,aa,aa,aa,aa,aa,aa,aa,aa,tv⟩,A8.refl _⟩⟩ ?_
          rintro m e C ⟨x39,x41,x42,x43,x44,x45,v40,hN3,a⟩
          let p10:=E0 b34 am x44
          let p11:=E3 v40 al x45 47
          refine W_at a ?_
          obtain⟨m3,w3l,rfl,h3l,hn3,ho3⟩:=bl hN3
          replace h3l:iw R x22 x2 x1 x39 x41 x42 x43 x44 x45=some w3l:=h3l
          unfold iw at h3l
          refine W_rs (kIn rfl rfl rfl (ba ?_))
          refine bc h3l rfl (fun _ h3l=>?_) (fun _ h3l=>?_)
          · refine aw (ba (ay (W_rs ?_)))
            obtain⟨x54,k,h3l⟩:=aj h3l
            refine kUn (gu underlying53 sizeOf64 k) ?_
            refine kUn (dn ty64) ?_
            refine br al64 fun b55=>au 7 rfl rfl (Upd.refl _) rfl sizeOf64 ?_
            let p12:=E0 b55 ag x54
            refine bm (fun e C=>∃x60,∃x61,np R x44 x54 x45 x41 x39 x60 x61=some w3l/\At [(0,Pr.pt b3 0),(4,Pr.pt b6 0),(5,Pr.pt b7 0),(6,Pr.pt b8 0),(8,Pb x31),(9,Pr.pt b33 0),(10,Pr.pt b34 0),(12,Pr.pt b55 0),(94,ar ag x22),(95,P6 (x22.length:Int)),(96,P6 x39)] [E0 b3 ap (D4.mk v40 x41 x60 x61),p11,p2,p3,p4,p7,p10,p12] e C) ?_ ?_
            · rintro e C ⟨x60,x61,h3l,a⟩
              refine W_at a ?_
              unfold np at h3l
              refine W_r (kMv rfl (kUn (ax 6 ty66 (Sub.refl _)) ?_))
              refine kUn (ax 7 ty64 (Sub.refl _)) ?_
              rcases xz h3l with⟨m65,hm65,h3l⟩|⟨⟨x62,x63⟩,hx62,h3l⟩
              · refine ab7 [0,1] (ih x44 x54 (B8.mk x45 x41 x60 x61) b3 v40 _ hm65) ⟨aa,aa,aa,tv⟩ (fun q C' hq=>?_) (fun v9 hv=>?_)
                · obtain⟨_,h9,_⟩:=hq;cases h9
                obtain⟨_,h9,rfl⟩:=hv
                cases h9
                obtain rfl:=ho3 _ (ojs h3l)
                replace h:some (.bad m65)=some r:=h
                obtain rfl:=osj h
                exact .inr ⟨_,rfl,_,rfl,rfl⟩
              refine ab7 [0,1] (ih x44 x54 (B8.mk x45 x41 x60 x61) b3 v40 _ hx62) ⟨aa,aa,aa,tv⟩ (fun q C' hq=>?_) (fun v9 hv=>by obtain⟨_,h9,_⟩:=hv;cases h9)
              obtain⟨_,h9,v64,rfl,rfl⟩:=hq
              cases h9
              refine rCtx [E0 b3 ap (D4.mk v64 x63.file x63.method x63.many),E3 v64 al x63.uses 47,p2,p3,p4,p7,p10,p12] ?_
              refine au 6 rfl rfl (Upd.refl _) rfl sizeOf66 (W_r (kIn rfl rfl rfl (kMv rfl ?_)))
              exact⟨m3,lsu,w64 (x39+1),x63.file,x63.method,x63.many,x62,x63.uses,v64,hn3 _ (ojs h3l),⟨⟨aa,aa,aa,aa,aa,aa,aa,aa,aa,aa,tv⟩,A8.of [0,1,2,3,4,5,6] rfl⟩⟩
            refine bm (fun e C=>∃x57,js R x1 x54 x44 x45 x41 x39 x42 x43 x57=some w3l/\At [(0,Pr.pt b3 0),(4,Pr.pt b6 0),(5,Pr.pt b7 0),(6,Pr.pt b8 0),(8,Pb x31),(9,Pr.pt b33 0),(10,Pr.pt b34 0),(12,Pr.pt b55 0),(94,ar ag x22),(95,P6 (x22.length:Int)),(96,P6 x39),(107,Pb x57)] [E0 b3 ap (D4.mk v40 x41 x42 x43),p11,p2,p3,p4,p7,p10,p12] e C) ?_ ?_
            · rintro e C ⟨x57,h3l,a⟩
              refine W_at a ?_
              unfold js at h3l
              refine bc h3l rfl (fun _ h3l=>?_) (fun _ h3l=>?_)
              · refine W_r (kMv rfl (kMv rfl (kUn (ak aln) ?_)))
                refine kUn (ax 2 ty9 lr) ?_
                refine kUn (ak gz) ?_
                refine kUn (ax 7 ty9 cc) ?_
                refine c8 h3l (adm x1.Class x54.Text) rfl fun x59 _ h3l=>kNp rfl (kUn (ak arw) ?_)
                refine au 0 rfl rfl ago rfl sizeOf9 ?_
                refine rCtx [E0 b3 ap (D4.mk v40 x41 x59 x43),p11,p2,p3,p4,p7,p10,p12] ?_
                refine kNp rfl (kUn (ak anu) ?_)
                refine au 0 rfl rfl abt rfl sizeOf3 ?_
                refine rCtx [E0 b3 ap (D4.mk v40 x41 x59 0),p11,p2,p3,p4,p7,p10,p12] ?_
                exact⟨x59,0,h3l,atOk⟩
              refine aw ?_
              exact⟨x42,x43,h3l,atOk⟩
            refine W_r (kUn (ak ig) ?_)
            refine kUn (ax 3 ty3 bq) ?_
            refine kIn rfl rfl rfl (kMv rfl ?_)
            rcases cg h3l with⟨hc56,h3l⟩|⟨hc56,h3l⟩
            · refine kGd rfl aa hc56 (ak ig) ?_
              refine kGd rfl aa hc56 (ax 7 ty3 bq) ?_
              refine kGd rfl aa hc56 (qInt rfl rfl rfl) (kPt rfl hc56 rfl ?_)
              exact⟨x54.Kind==3,h3l,atOk⟩
            refine skx ?_
            refine kPf rfl hc56 rfl ?_
            exact⟨false,h3l,atOk⟩
          refine ep ?_
          obtain rfl:=ho3 _ (ojs h3l)
          exact⟨x41,x42,x43,x45,x44,v40,h,atOk⟩
        refine ay (W_rs (kMv rfl (kAs rfl ?_)))
        refine bc h rfl (fun _ h=>?_) (fun _ h=>?_)
        · refine W_r (kMv rfl (kNp rfl (kUn (ak anu) ?_)))
          refine kUn (ax 0 ty3 uk) ?_
          refine kIn rfl rfl rfl (kNp rfl (kUn (ak anu) ?_))
          refine au 0 rfl rfl abt rfl sizeOf3 ?_
          refine rCtx [E0 b3 ap (D4.mk v29 x28.file x28.method (w64 (x28.many+1))),p6,p2,p3,p4,p7,E0 b34 am x1] ?_
          exact⟨w64 (x28.many+1),x1,h,atOk⟩
        refine W_rs (kUn (ak ig) ?_)
        refine kUn (ax 3 ty3 bq) ?_
        refine kIn rfl rfl rfl (kAs rfl ?_)
        refine bc h rfl (fun _ h=>?_) (fun _ h=>?_)
        · refine W_r (kUn (ak ajg) ?_)
          refine kUn (ax 3 ty2 ady) ?_
          refine kIn rfl rfl rfl (kUn (ak alm) ?_)
          refine au 6 rfl rfl xi rfl sizeOf4 ?_
          exact⟨x28.many,{x1 with Static:=x2.N==1},h,atOk⟩
        refine aw ?_
        exact⟨x28.many,x1,h,atOk⟩
      obtain⟨x32,hx32,h⟩:=aj h
      refine avk 1 (fun B S=>[E0 b3 ap (D4.mk v29 x28.file x28.method x28.many),E3 v29 al x28.uses 47,E0 b6 am x1,E0 b7 ag x2,E0 b8 am (B6.mk [] [] false []),(cond (S 25) (E0 (B 24) af (A9.mk 4 x32 x2.Text x28.method x2.Type_ false [] x28.file x2.At)) (cond (S 24) (E0 (B 24) af (A9.mk 0 [] [] [] [] false [] 0 0)) A4.nil))]) (fun B=>[E0 b3 ap (D4.mk v29 x28.file x28.method x28.many),E3 v29 al x28.uses 47,E0 b6 am x1,E0 b7 ag x2,E0 b8 am (B6.mk [] [] false []),E0 (B 24) af (A9.mk 4 x32 x2.Text x28.method x2.Type_ false [] x28.file x2.At)]) [Pr.pt b3 0,Pr.pt b3 0,Pr.pt b3 2,Pr.str x28.method,Pr.pt b3 0,Pr.pt b3 0,Pr.pt b3 3,P6 x28.many,Pr.str x32,Pr.pt b7 1,Pr.str x2.Text,Pr.pt b3 0,Pr.pt b3 0,Pr.pt b3 2,Pr.str x28.method,Pr.pt b7 2,Pr.str x2.Type_,Pr.pt b3 0,Pr.pt b3 0,Pr.pt b3 1,P6 x28.file,Pr.pt b7 6,P6 x2.At,(af).val (A9.mk 4 x32 x2.Text x28.method x2.Type_ false [] x28.file x2.At),.any,.any] (fun k=>([0,0,0,0,0,0,0,0,0,0,0,0,0,0,0,0,0,0,0,0,0,0,0,0,2,1]:List Nat).getD k 0) hmx kr kr (fun _=>rfl) (fun B S S' h=>by show([E0 b3 ap (D4.mk v29 x28.file x28.method x28.many),E3 v29 al x28.uses 47,E0 b6 am x1,E0 b7 ag x2,E0 b8 am (B6.mk [] [] false []),(cond (S 25) (E0 (B 24) af (A9.mk 4 x32 x2.Text x28.method x2.Type_ false [] x28.file x2.At)) (cond (S 24) (E0 (B 24) af (A9.mk 0 [] [] [] [] false [] 0 0)) A4.nil))]:Ctx)=[E0 b3 ap (D4.mk v29 x28.file x28.method x28.many),E3 v29 al x28.uses 47,E0 b6 am x1,E0 b7 ag x2,E0 b8 am (B6.mk [] [] false []),(cond (S' 25) (E0 (B 24) af (A9.mk 4 x32 x2.Text x28.method x2.Type_ false [] x28.file x2.At)) (cond (S' 24) (E0 (B 24) af (A9.mk 0 [] [] [] [] false [] 0 0)) A4.nil))];simp only[h 24 (Nat.le_of_ble_eq_true kr),h 25 (Nat.le_of_ble_eq_true kr)]) (fun _=>rfl) (fun B=>?_)
      refine gq1 (fun S hK=>gk) ?_
      refine gq1 (fun S hK=>ag1) ?_
      refine gq1 (fun S hK=>(ak arw)) ?_
      refine gq1 (fun S hK=>(ax (R:=ap) (a:=p5) (R':=Rp.str) 0 ty9 rj (hi:=rfl))) ?_
      refine gq1 (fun S hK=>gk) ?_
      refine gq1 (fun S hK=>ag1) ?_
      refine gq1 (fun S hK=>(ak anu)) ?_
      refine gq1 (fun S hK=>(ax (R:=ap) (a:=p5) (R':=Rp.int .i64) 0 ty3 uk (hi:=rfl))) ?_
      refine gq1 (fun S hK=>(dv (afa x28.method x28.many _ hx32))) ?_
      refine gq1 (fun S hK=>(ak gz)) ?_
      refine gq1 (fun S hK=>(ax (R:=ag) (a:=x2) (R':=Rp.str) 3 ty9 cc (hi:=rfl))) ?_
      refine gq1 (fun S hK=>gk) ?_
      refine gq1 (fun S hK=>ag1) ?_
      refine gq1 (fun S hK=>(ak arw)) ?_
      refine gq1 (fun S hK=>(ax (R:=ap) (a:=p5) (R':=Rp.str) 0 ty9 rj (hi:=rfl))) ?_
      refine gq1 (fun S hK=>(ak zn)) ?_
      refine gq1 (fun S hK=>(ax (R:=ag) (a:=x2) (R':=Rp.str) 3 ty9 iu (hi:=rfl))) ?_
      refine gq1 (fun S hK=>gk) ?_
      refine gq1 (fun S hK=>ag1) ?_
      refine gq1 (fun S hK=>(ak arx)) ?_
      refine gq1 (fun S hK=>(ax (R:=ap) (a:=p5) (R':=Rp.int .i64) 0 ty3 ul (hi:=rfl))) ?_
      refine gq1 (fun S hK=>(ak tf)) ?_
      refine gq1 (fun S hK=>(ax (R:=ag) (a:=x2) (R':=Rp.int .i64) 3 ty3 jl (hi:=rfl))) ?_
      refine gq1 (fun S hK=>(jh st49 ⟨(A9.mk 4 [] [] [] [] false [] 0 0),⟨_,rfl,rfl,qbj⟩,⟨(A9.mk 4 x32 [] [] [] false [] 0 0),⟨_,rfl,rfl,qbj⟩,⟨(A9.mk 4 x32 x2.Text [] [] false [] 0 0),⟨_,rfl,rfl,qbj⟩,⟨(A9.mk 4 x32 x2.Text x28.method [] false [] 0 0),⟨_,rfl,rfl,qbj⟩,⟨(A9.mk 4 x32 x2.Text x28.method x2.Type_ false [] 0 0),⟨_,rfl,rfl,qbj⟩,⟨(A9.mk 4 x32 x2.Text x28.method x2.Type_ false [] x28.file 0),⟨_,rfl,rfl,qbj⟩,⟨(A9.mk 4 x32 x2.Text x28.method x2.Type_ false [] x28.file x2.At),⟨_,rfl,rfl,qbj⟩,rfl⟩⟩⟩⟩⟩⟩⟩)) ?_
      refine gqA (fun S hK=>⟨fun B' hB=>by show([E0 b3 ap (D4.mk v29 x28.file x28.method x28.many),E3 v29 al x28.uses 47,E0 b6 am x1,E0 b7 ag x2,E0 b8 am (B6.mk [] [] false []),(cond (S 25) (E0 (B' 24) af (A9.mk 4 x32 x2.Text x28.method x2.Type_ false [] x28.file x2.At)) (cond (S 24) (E0 (B' 24) af (A9.mk 0 [] [] [] [] false [] 0 0)) A4.nil))]:Ctx)=[E0 b3 ap (D4.mk v29 x28.file x28.method x28.many),E3 v29 al x28.uses 47,E0 b6 am x1,E0 b7 ag x2,E0 b8 am (B6.mk [] [] false []),(cond (S 25) (E0 (B 24) af (A9.mk 4 x32 x2.Text x28.method x2.Type_ false [] x28.file x2.At)) (cond (S 24) (E0 (B 24) af (A9.mk 0 [] [] [] [] false [] 0 0)) A4.nil))];simp only[hK.me,hK.F 25 kr,cond_false],fun s ρ hg _=>ax9 (R:=af) (z:=(A9.mk 0 [] [] [] [] false [] 0 0)) 5 zeroValue49 (fun _=>⟨_,⟨_,_,rfl,rfl,⟨_,_,rfl,rfl,⟨_,_,rfl,rfl,⟨_,_,rfl,rfl,⟨_,_,rfl,rfl,⟨_,_,rfl,rfl,⟨_,_,rfl,⟨_,rfl,none,0,rfl,⟨Nat.le_refl _,fun _=>rfl⟩,.inl rfl⟩,⟨_,_,rfl,rfl,⟨_,_,rfl,rfl,rfl⟩⟩⟩⟩⟩⟩⟩⟩⟩,rfl⟩) (congrArg some ((ari (hK.F 25 kr) _ _).trans (ari (hK.me) _ _))) (fun b=>by show([E0 b3 ap (D4.mk v29 x28.file x28.method x28.many),E3 v29 al x28.uses 47,E0 b6 am x1,E0 b7 ag x2,E0 b8 am (B6.mk [] [] false []),(cond (S 25) (E0 b af (A9.mk 4 x32 x2.Text x28.method x2.Type_ false [] x28.file x2.At)) (E0 b af (A9.mk 0 [] [] [] [] false [] 0 0)))]:Ctx)=_;rw[hK.F 25 kr];rfl) s ρ hg⟩) ?_
      refine gqS (fun S hK=>amu.as (av8 (R:=af) (R':=af) (a:=(A9.mk 0 [] [] [] [] false [] 0 0)) (y:=(A9.mk 4 x32 x2.Text x28.method x2.Type_ false [] x28.file x2.At)) 5 sizeOf49 (Upd.refl _) (congrArg some ((ari (hK.me) _ _).trans (condT (hK.T 24 kr) _ _)))) (by show(_:Ctx)=[E0 b3 ap (D4.mk v29 x28.file x28.method x28.many),E3 v29 al x28.uses 47,E0 b6 am x1,E0 b7 ag x2,E0 b8 am (B6.mk [] [] false []),E0 (B 24) af (A9.mk 4 x32 x2.Text x28.method x2.Type_ false [] x28.file x2.At)];rfl)) ?_
      exact⟨x32,(B 24),h,atOk⟩
    refine W_r (kUn (ak ig) ?_)
    refine kUn (ax 3 ty3 bq) ?_
    refine kIn rfl rfl rfl (kMv rfl ?_)
    rcases cg h with⟨hc30,h⟩|⟨hc30,h⟩
    · refine skx ?_
      refine kPt rfl hc30 rfl (kAs rfl ?_)
      exact⟨true,h,atOk⟩
    refine kGd rfl aa hc30 (ak ig) ?_
    refine kGd rfl aa hc30 (ax 3 ty3 bq) ?_
    refine kGd rfl aa hc30 (qInt rfl rfl rfl) (kPf rfl hc30 rfl (kAs rfl ?_))
    exact⟨x2.Kind==6,h,atOk⟩
  refine bm (fun e C=>∃x14,fh R x2 x1 x9 x14=some r/\At [(0,Pr.pt b3 0),(4,Pr.pt b6 0),(5,Pr.pt b7 0),(6,Pr.pt b8 0),(7,ar ag x2.Kids),(31,Pb x14)] [E0 b3 ap (D4.mk v10 x9.file x9.method x9.many),E3 v10 al x9.uses 47,p2,p3,p4] e C) ?_ ?_
  · rintro e C ⟨x14,h,a⟩
    refine W_at a ?_
    unfold fh at h
    refine bc h rfl (fun _ h=>?_) (fun _ h=>?_)
    · refine bm (fun e C=>∃x18,∃v19,mn R x2 x1 x18=some r/\At [(0,Pr.pt b3 0),(4,Pr.pt b6 0),(5,Pr.pt b7 0),(6,Pr.pt b8 0),(7,ar ag x2.Kids)] [E0 b3 ap (D4.mk v19 x18.file x18.method x18.many),E3 v19 al x18.uses 47,p2,p3,p4] e C) ?_ ?_
      · rintro e C ⟨x18,v19,h,a⟩
        refine W_at a ?_
        unfold mn at h
        refine W_r (kMvL rfl ?_)
        obtain⟨x21,k,h⟩:=aj h
        refine kUn (qLSubL underlying53 sizeOf64 k) ?_
        refine kAsL rfl ?_
        exact⟨x21,x18.file,x18.method,x18.many,x18.uses,v19,h,atOk⟩
      refine mh 5 hmx kr kr ?_
      refine lUn (hMvA rfl) (lUn (ax 2 ty66 (Sub.refl _)) ?_)
      refine lUn (hMvL rfl) ?_
      obtain⟨x16,k,h⟩:=aj h
      refine lUn (gu underlying53 sizeOf64 k) ?_
      refine lUn (dn ty64) ?_
      rcases xz h with⟨m20,hm20,h⟩|⟨⟨x17,x18⟩,hx17,h⟩
      · refine ab7 [0,1] (ih x1 x16 x9 b3 v10 _ hm20) ⟨aa,aa,aa,tv⟩ (fun q C' hq=>?_) (fun v9 hv=>?_)
        · obtain⟨_,h9,_⟩:=hq;cases h9
        obtain⟨_,h9,rfl⟩:=hv
        cases h9
        obtain rfl:=osj h
        exact .inr ⟨_,rfl,_,rfl,rfl⟩
      refine ab7 [0,1] (ih x1 x16 x9 b3 v10 _ hx17) ⟨aa,aa,aa,tv⟩ (fun q C' hq=>?_) (fun v9 hv=>by obtain⟨_,h9,_⟩:=hv;cases h9)
      obtain⟨_,h9,v19,rfl,rfl⟩:=hq
      cases h9
      refine rCtx [E0 b3 ap (D4.mk v19 x18.file x18.method x18.many),E3 v19 al x18.uses 47,p2,p3,p4] ?_
      exact⟨x18,v19,h,atOk⟩
    refine aw ?_
    exact⟨x2.Kids,x9.file,x9.method,x9.many,x9.uses,v10,h,atOk⟩
  refine W_r (kUn (ak ig) ?_)
  refine kUn (ax 3 ty3 bq) ?_
  refine kIn rfl rfl rfl (kMv rfl ?_)
  rcases cg h with⟨hc11,h⟩|⟨hc11,h⟩
  · refine skx ?_
    refine kPt rfl hc11 rfl (kMv rfl ?_)
    have hc13:true=true:=rfl
    refine kGd rfl aa hc13 (hMvL rfl) (kGd rfl aa hc13 (ma rfl underlying53) ?_)
    refine kGd rfl aa hc13 (qInt rfl rfl rfl) (kPt rfl hc13 rfl ?_)
    exact⟨decide ((x2.Kids.length:Int)>0),h,atOk⟩
  refine kGd rfl aa hc11 (ak ig) ?_
  refine kGd rfl aa hc11 (ax 3 ty3 bq) ?_
  refine kGd rfl aa hc11 (qInt rfl rfl rfl) (kPf rfl hc11 rfl (kMv rfl ?_))
  rcases cg h with⟨hc12,h⟩|⟨hc12,h⟩
  · refine kGd rfl aa hc12 (hMvL rfl) (kGd rfl aa hc12 (ma rfl underlying53) ?_)
    refine kGd rfl aa hc12 (qInt rfl rfl rfl) (kPt rfl hc12 rfl ?_)
    exact⟨decide ((x2.Kids.length:Int)>0),h,atOk⟩
  refine skx ?_
  refine kPf rfl hc12 rfl ?_
  exact⟨false,h,atOk⟩
theorem agq :∀n,wl (bo n):=by
 intro n
 induction n with
 |zero=>exact(fun x1 x2 x4 b3 v5 r h=>nomatch (show none=some r from h))
 |succ n ih=>exact(fun x1 x2 x4 b3 v5 r h=>agt (bo n) ih x1 x2 x4 b3 v5 r h)
theorem adr (x1:B6) (x2:B5) (x4:B8) (b3:Nat) (v5:Value) (r:PX B9 (B6 × B8)) (h:ab3 x1 x2 x4=some r):FnX Tryz.prog 37 [Pr.pt b3 0,(am).val x1,(ag).val x2] [E0 b3 ap (D4.mk v5 x4.file x4.method x4.many),E3 v5 al x4.uses 47] (fun q C'=>∃a9,r= .ok a9/\∃w100,q=(am).val a9.1/\C'=[E0 b3 ap (D4.mk w100 a9.2.file a9.2.method a9.2.many),E3 w100 al a9.2.uses 47]) (fun v=>∃m,r= .bad m/\v=abw m):=(agq 1048576) x1 x2 x4 b3 v5 r h
theorem l8 (x1 x2:Int) (x3:(B7->B7->Option Int)) (x5:List B7) (v4:Value) (r:(List B7)) (h:d9 x1 x2 x3 x5=some r):Fc 129 [Pi v4,P6 x1,P6 x2,d7 Tryz.prog (gt x3)] [E3 v4 al x5 47] (fun q C'=>q=bu []/\C'=[E3 v4 al r 47]):=by
 refine ic (rs:=[]) func129 rfl ntmps129 ⟨by decide,results129⟩ dcd (fun s0=>?_)
 unfold d9 at h
 refine W_rs (kMv rfl (kIn rfl rfl rfl (kAs rfl (ay ?_))))
 obtain⟨z2l,hz2,h⟩:=aj h
 obtain⟨n2,hN2⟩:=bt hz2
 refine dl 0 (fun e C=>∃x7,f7 x7=some r/\At [(0,Pi v4)] [E3 v4 al x7 47] e C) ?_ ?_
 ·rintro e C ⟨x7,h,a⟩
  unfold f7 at h
  obtain rfl:=osj h
  exact⟨.inr rfl,_,(A8.trans a.2 (A8.refl _)),_,aa,rfl,rfl⟩
 refine fb (fun m e C=>∃x6,∃x7,fp (fun s=>co x2 x1 x3 s.1 s.2) m (x6,x7)=some z2l/\At [(0,Pi v4),(1,P6 x1),(2,P6 x2),(3,d7 Tryz.prog (gt x3)),(8,P6 x6)] [E3 v4 al x7 47] e C) n2 ⟨w64 (x1+1),x5,hN2,⟨⟨aa,aa,aa,aa,aa,tv⟩,A8.refl _⟩⟩ ?_
 rintro m e C ⟨x6,x7,hN2,a⟩
 refine W_at a ?_
 obtain⟨m2,w2l,rfl,h2l,hn2,ho2⟩:=bl hN2
 replace h2l:co x2 x1 x3 x6 x7=some w2l:=h2l
 unfold co at h2l
 refine ba (W_rs (kMv rfl (kMv rfl (kIn rfl rfl rfl ?_))))
 refine bc h2l rfl (fun _ h2l=>?_) (fun _ h2l=>?_)
 ·refine aw (ba (ay (W_rs (kMv rfl (kAs rfl (ay ?_))))))
  obtain⟨z4l,hz4,h2l⟩:=aj h2l
  obtain⟨n4,hN4⟩:=bt hz4
  refine dl 2 (fun e C=>∃x12,f5 x6 x12=some w2l/\At [(0,Pi v4),(1,P6 x1),(2,P6 x2),(3,d7 Tryz.prog (gt x3)),(8,P6 x6)] [E3 v4 al x12 47] e C) ?_ ?_
  ·rintro e C ⟨x12,h2l,a⟩
   refine W_at a ?_
   unfold f5 at h2l
   refine W_r (kMv rfl (kIn rfl rfl rfl (kAs rfl ?_)))
   exact⟨m2,lsu,w64 (x6+1),x12,hn2 _ (ojs h2l),atOk⟩
  refine fb (fun m e C=>∃x11,∃x12,fp (fun s=>ct x1 x3 s.1 s.2) m (x11,x12)=some z4l/\At [(0,Pi v4),(1,P6 x1),(2,P6 x2),(3,d7 Tryz.prog (gt x3)),(8,P6 x6),(9,P6 x11)] [E3 v4 al x12 47] e C) n4 ⟨x6,x7,hN4,⟨⟨aa,aa,aa,aa,aa,aa,tv⟩,A8.refl _⟩⟩ ?_
  rintro m e C ⟨x11,x12,hN4,a⟩
  let p1:=E3 v4 al x12 47
  refine W_at a ?_
  obtain⟨m4,w4l,rfl,h4l,hn4,ho4⟩:=bl hN4
  replace h4l:ct x1 x3 x11 x12=some w4l:=h4l
  unfold ct at h4l
  refine ba ?_
  refine bm (fun e C=>∃x19,dm x12 x11 x19=some w4l/\At [(0,Pi v4),(1,P6 x1),(2,P6 x2),(3,d7 Tryz.prog (gt x3)),(8,P6 x6),(9,P6 x11),(34,Pb x19)] [p1] e C) ?_ ?_
  ·rintro e C ⟨x19,h4l,a⟩
   refine W_at a ?_
   unfold dm at h4l
   refine bc h4l rfl (fun _ h4l=>?_) (fun _ h4l=>?_)
   ·refine aw (ba (ay ?_))
    obtain⟨x21,hx21,h4l⟩:=aj h4l
    obtain⟨x22,hx22,h4l⟩:=aj h4l
    obtain⟨x23,hx23,h4l⟩:=aj h4l
    obtain⟨x24,k,h4l⟩:=aj h4l
    refine aes [0,0,0,0,8,0,0,64,224,480,0,0,3072,7168,16355,32739,65535,131071] [[],[],[],[],[],[],[],[],[p1],[p1],[],[],[p1],[p1],[p1],[],[E3 v4 al (List.set x12 (Int.toNat x11) x21) 47],[]] hmx kr kr kr rfl ?_
    refine aq0 0 1 (out:=Pi v4) rfl (fun C9=>gk) ?_
    refine aq0 1 3 (out:=P6 x11) rfl (fun C9=>gk) ?_
    refine aq0 2 7 (out:=Pi v4) rfl (fun C9=>gk) ?_
    refine aq0 3 15 (out:=P6 x11) rfl (fun C9=>gk) ?_
    refine aq0 4 31 (out:=P6 (w64 (x11 - 1))) rfl (fun C9=>qInt) ?_
    refine aq0 5 63 (out:=Pi v4) rfl (fun C9=>gk) ?_
    refine aq0 6 127 (out:=P6 x11) rfl (fun C9=>gk) ?_
    refine aq0 7 255 (out:=P6 (w64 (x11 - 1))) rfl (fun C9=>qInt) ?_
    refine aq1 8 511 0 (out:=vj v4 (Int.toNat (w64 (x11 - 1)) * (al).size)) rfl rfl (fun C9 i9 h9=>(yf i9 (R:=al) (l:=x12) underlying27 sizeOf47 hx21 (hi:=h9))) ?_
    refine aq1 9 1023 0 (out:=(al).val x21) rfl rfl (fun C9 i9 h9=>(xp (R:=al) (R':=al) (l:=x12) (a:=x21) (o:=0) i9 ty47 (Sub.refl _) nb hx21 rfl (hi:=h9))) ?_
    refine aq0 10 2047 (out:=Pi v4) rfl (fun C9=>gk) ?_
    refine aq0 11 4095 (out:=P6 x11) rfl (fun C9=>gk) ?_
    refine aq1 12 8191 0 (out:=vj v4 (Int.toNat x11 * (al).size)) rfl rfl (fun C9 i9 h9=>(yf i9 (R:=al) (l:=x12) underlying27 sizeOf47 hx22 (hi:=h9))) ?_
    refine aq1 13 16383 0 (out:=(al).val x22) rfl rfl (fun C9 i9 h9=>(xp (R:=al) (R':=al) (l:=x12) (a:=x22) (o:=0) i9 ty47 (Sub.refl _) nb hx22 rfl (hi:=h9))) ?_
    refine aq1 14 32767 0 (out:=vj v4 (Int.toNat x11 * (al).size)) rfl rfl (fun C9 i9 h9=>(yf i9 (R:=al) (l:=x12) underlying27 sizeOf47 hx23 (hi:=h9))) ?_
    refine ae 15 65535 rfl (fun g9=>?_)
    refine acz (R:=al) (R':=al) (l:=x12) (a:=x23) (y:=x21) (o:=0) 0 sizeOf47 (Upd.refl _) hx23 rfl ?_
    refine pp .any [] ga ?_
    refine aq1 16 131071 0 (out:=vj v4 (Int.toNat (w64 (x11 - 1)) * (al).size)) rfl rfl (fun C9 i9 h9=>(yf i9 (R:=al) (l:=(List.set x12 (Int.toNat x11) x21)) underlying27 sizeOf47 k (hi:=h9))) ?_
    refine ae 17 262143 rfl (fun g9=>?_)
    refine acz (R:=al) (R':=al) (l:=(List.set x12 (Int.toNat x11) x21)) (a:=x24) (y:=x22) (o:=0) 0 sizeOf47 (Upd.refl _) k rfl ?_
    refine pp .any [] ga ?_
    refine agu ?_
    refine W_r (kMv rfl (kIn rfl rfl rfl (kAs rfl ?_)))
    exact⟨m4,lsu,w64 (x11 - 1),(List.set (List.set x12 (Int.toNat x11) x21) (Int.toNat (w64 (x11 - 1))) x22),hn4 _ (ojs h4l),atOk⟩
   refine ep ?_
   obtain rfl:=ho4 _ (ojs h4l)
   exact⟨x12,h2l,atOk⟩
  refine mh 17 hmx kr kr ?_
  refine lUn (hMvA rfl) (lUn (hMvA rfl) (lUn (qInt rfl rfl rfl) (lUn (hMvA rfl) ?_)))
  rcases cg h4l with⟨hc15,h4l⟩|⟨hc15,h4l⟩
  ·refine lGd rfl aa hc15 (hMv (out:=d7 Tryz.prog (gt x3)) rfl) (lGd rfl aa hc15 (hMvA rfl) (lGd rfl aa hc15 (hMvA rfl) ?_))
   obtain⟨x16,k,h4l⟩:=aj h4l
   refine lGd rfl aa hc15 (yf 0 (R:=al) (l:=x12) underlying27 sizeOf47 k) ?_
   refine lGd rfl aa hc15 (xp (R:=al) (R':=al) (l:=x12) (a:=x16) (o:=0) 0 ty47 (Sub.refl _) nb k rfl) ?_
   refine lGd rfl aa hc15 (hMvA rfl) (lGd rfl aa hc15 (hMvA rfl) (lGd rfl aa hc15 (qInt rfl rfl rfl) ?_))
   obtain⟨x17,k,h4l⟩:=aj h4l
   refine lGd rfl aa hc15 (yf 0 (R:=al) (l:=x12) underlying27 sizeOf47 k) ?_
   refine lGd rfl aa hc15 (xp (R:=al) (R':=al) (l:=x12) (a:=x17) (o:=0) 0 ty47 (Sub.refl _) nb k rfl) ?_
   obtain⟨x18,k,h4l⟩:=aj h4l
   refine lGd rfl aa hc15 (anp (spec:=gt x3) ⟨_,_,_,rfl,rfl,k⟩) ?_
   refine lGd rfl aa hc15 (qInt rfl rfl rfl) (lUn (hPt rfl hc15 rfl) ?_)
   exact⟨decide (x18<0),h4l,atOk⟩
  refine lsx ?_
  refine lUn (hPf rfl hc15 rfl) ?_
  exact⟨false,h4l,atOk⟩
 refine ep ?_
 obtain rfl:=ho2 _ (ojs h2l)
 exact⟨x7,h,atOk⟩
theorem jy (x1 x2 x3:Int) (x4:(B7->B7->Option Int)) (x6:List B7) (v5:Value) (r:(List B7)) (h:d8 x1 x2 x3 x4 x6=some r):Fc 178 [Pi v5,P6 x1,P6 x2,P6 x3,d7 Tryz.prog (gt x4)] [E3 v5 al x6 47] (fun q C'=>q=bu []/\C'=[E3 v5 al r 47]):=by
 refine ic (rs:=[]) func178 rfl ntmps178 ⟨by decide,results178⟩ dcd (fun s0=>?_)
 unfold d8 at h
 refine W_rs (kAs rfl (ay ?_))
 obtain⟨z2l,hz2,h⟩:=aj h
 obtain⟨n2,hN2⟩:=bt hz2
 refine dl 0 (fun e C=>∃x8,ib x8=some r/\At [(0,Pi v5)] [E3 v5 al x8 47] e C) ?_ ?_
 ·rintro e C ⟨x8,h,a⟩
  unfold ib at h
  obtain rfl:=osj h
  exact⟨.inr rfl,_,(A8.trans a.2 (A8.refl _)),_,aa,rfl,rfl⟩
 refine fb (fun m e C=>∃x7,∃x8,fp (fun s=>dg x3 x2 x1 s.1 s.2) m (x7,x8)=some z2l/\At [(0,Pi v5),(1,P6 x1),(2,P6 x2),(3,P6 x3),(10,P6 x7)] [E3 v5 al x8 47] e C) n2 ⟨0,x6,hN2,⟨⟨aa,aa,aa,aa,aa,tv⟩,A8.refl _⟩⟩ ?_
 rintro m e C ⟨x7,x8,hN2,a⟩
 let p1:=E3 v5 al x8 47
 refine W_at a ?_
 obtain⟨m2,w2l,rfl,h2l,hn2,ho2⟩:=bl hN2
 replace h2l:dg x3 x2 x1 x7 x8=some w2l:=h2l
 unfold dg at h2l
 refine ba (W_rs (kMv rfl (kMv rfl (kIn rfl rfl rfl ?_))))
 refine bc h2l rfl (fun _ h2l=>?_) (fun _ h2l=>?_)
 ·refine aw (ba (ay ?_))
  obtain⟨x12,hx12,h2l⟩:=aj h2l
  obtain⟨x13,hx13,h2l⟩:=aj h2l
  obtain⟨x14,hx14,h2l⟩:=aj h2l
  obtain⟨x15,k,h2l⟩:=aj h2l
  refine aes [0,0,0,6,0,0,0,96,0,0,0,1536,3840,7936,0,0,0,98304,245760,507904,1048335,2096911,4194303,8388607] [[],[],[],[],[],[],[],[],[],[],[],[],[p1],[p1],[],[],[],[],[p1],[p1],[p1],[],[E3 v5 al (List.set x8 (Int.toNat (w64 (x1+x7))) x12) 47],[]] hmx kr kr kr rfl ?_
  refine aq0 0 1 (out:=Pi v5) rfl (fun C9=>gk) ?_
  refine aq0 1 3 (out:=P6 x1) rfl (fun C9=>gk) ?_
  refine aq0 2 7 (out:=P6 x7) rfl (fun C9=>gk) ?_
  refine aq0 3 15 (out:=P6 (w64 (x1+x7))) rfl (fun C9=>qInt) ?_
  refine aq0 4 31 (out:=Pi v5) rfl (fun C9=>gk) ?_
  refine aq0 5 63 (out:=P6 x2) rfl (fun C9=>gk) ?_
  refine aq0 6 127 (out:=P6 x7) rfl (fun C9=>gk) ?_
  refine aq0 7 255 (out:=P6 (w64 (x2+x7))) rfl (fun C9=>qInt) ?_
  refine aq0 8 511 (out:=Pi v5) rfl (fun C9=>gk) ?_
  refine aq0 9 1023 (out:=P6 x2) rfl (fun C9=>gk) ?_
  refine aq0 10 2047 (out:=P6 x7) rfl (fun C9=>gk) ?_
  refine aq0 11 4095 (out:=P6 (w64 (x2+x7))) rfl (fun C9=>qInt) ?_
  refine aq1 12 8191 0 (out:=vj v5 (Int.toNat (w64 (x2+x7)) * (al).size)) rfl rfl (fun C9 i9 h9=>(yf i9 (R:=al) (l:=x8) underlying27 sizeOf47 hx12 (hi:=h9))) ?_
  refine aq1 13 16383 0 (out:=(al).val x12) rfl rfl (fun C9 i9 h9=>(xp (R:=al) (R':=al) (l:=x8) (a:=x12) (o:=0) i9 ty47 (Sub.refl _) nb hx12 rfl (hi:=h9))) ?_
  refine aq0 14 32767 (out:=Pi v5) rfl (fun C9=>gk) ?_
  refine aq0 15 65535 (out:=P6 x1) rfl (fun C9=>gk) ?_
  refine aq0 16 131071 (out:=P6 x7) rfl (fun C9=>gk) ?_
  refine aq0 17 262143 (out:=P6 (w64 (x1+x7))) rfl (fun C9=>qInt) ?_
  refine aq1 18 524287 0 (out:=vj v5 (Int.toNat (w64 (x1+x7)) * (al).size)) rfl rfl (fun C9 i9 h9=>(yf i9 (R:=al) (l:=x8) underlying27 sizeOf47 hx13 (hi:=h9))) ?_
  refine aq1 19 1048575 0 (out:=(al).val x13) rfl rfl (fun C9 i9 h9=>(xp (R:=al) (R':=al) (l:=x8) (a:=x13) (o:=0) i9 ty47 (Sub.refl _) nb hx13 rfl (hi:=h9))) ?_
  refine aq1 20 2097151 0 (out:=vj v5 (Int.toNat (w64 (x1+x7)) * (al).size)) rfl rfl (fun C9 i9 h9=>(yf i9 (R:=al) (l:=x8) underlying27 sizeOf47 hx14 (hi:=h9))) ?_
  refine ae 21 4194303 rfl (fun g9=>?_)
  refine acz (R:=al) (R':=al) (l:=x8) (a:=x14) (y:=x12) (o:=0) 0 sizeOf47 (Upd.refl _) hx14 rfl ?_
  refine pp .any [] ga ?_
  refine aq1 22 8388607 0 (out:=vj v5 (Int.toNat (w64 (x2+x7)) * (al).size)) rfl rfl (fun C9 i9 h9=>(yf i9 (R:=al) (l:=(List.set x8 (Int.toNat (w64 (x1+x7))) x12)) underlying27 sizeOf47 k (hi:=h9))) ?_
  refine ae 23 16777215 rfl (fun g9=>?_)
  refine acz (R:=al) (R':=al) (l:=(List.set x8 (Int.toNat (w64 (x1+x7))) x12)) (a:=x15) (y:=x13) (o:=0) 0 sizeOf47 (Upd.refl _) k rfl ?_
  refine pp .any [] ga ?_
  refine agu ?_
  refine W_r (kMv rfl (kIn rfl rfl rfl (kAs rfl ?_)))
  exact⟨m2,lsu,w64 (x7+1),(List.set (List.set x8 (Int.toNat (w64 (x1+x7))) x12) (Int.toNat (w64 (x2+x7))) x13),hn2 _ (ojs h2l),atOk⟩
 refine ep ?_
 obtain rfl:=ho2 _ (ojs h2l)
 exact⟨x8,h,atOk⟩
theorem z9 (x1 x2 x3:Int) (x4:(B7->B7->Option Int)) (x6:List B7) (v5:Value) (r:(List B7)) (h:il x1 x2 x3 x4 x6=some r):Fc 164 [Pi v5,P6 x1,P6 x2,P6 x3,d7 Tryz.prog (gt x4)] [E3 v5 al x6 47] (fun q C'=>q=bu []/\C'=[E3 v5 al r 47]):=by
 refine ic (rs:=[]) func164 rfl ntmps164 ⟨by decide,results164⟩ dcd (fun s0=>?_)
 unfold il at h
 refine W_rs (kMv rfl (kMv rfl (kIn rfl rfl rfl (kAs rfl (W_rs (kMv rfl (kMv rfl (kIn rfl rfl rfl (kAs rfl (ba (ay ?_)))))))))))
 obtain⟨z2l,hz2,h⟩:=aj h
 obtain⟨n2,hN2⟩:=bt hz2
 refine dl 0 (fun e C=>∃x7,∃x9,ge x2 x4 x7 x9=some r/\At [(0,Pi v5),(2,P6 x2),(4,d7 Tryz.prog (gt x4)),(10,P6 x7)] [E3 v5 al x9 47] e C) ?_ ?_
 ·rintro e C ⟨x7,x9,h,a⟩
  refine W_at a ?_
  unfold ge at h
  refine W_r (kMv rfl (kMv rfl (kMv rfl (kIn rfl rfl rfl (kMv rfl (kMv rfl (kUn (hMv (out:=d7 Tryz.prog (gt x4)) rfl) ?_)))))))
  obtain⟨x17,k,h⟩:=aj h
  refine nw [0] (jy (w64 (x2 - x7)) x2 x7 x4 x9 v5 _ k) (fun q C' hq=>?_)
  obtain⟨rfl,rfl⟩:=hq
  obtain rfl:=osj h
  exact⟨.inr rfl,_,A8.refl _,_,aa,rfl,rfl⟩
 refine fb (fun m e C=>∃x7,∃x8,∃x9,fp (fun s=>cz x2 x4 s.1 s.2.1 s.2.2) m (x7,x8,x9)=some z2l/\At [(0,Pi v5),(2,P6 x2),(4,d7 Tryz.prog (gt x4)),(10,P6 x7),(11,P6 x8)] [E3 v5 al x9 47] e C) n2 ⟨w64 (x2 - x1),w64 (x3 - x2),x6,hN2,⟨⟨aa,aa,aa,aa,aa,tv⟩,A8.refl _⟩⟩ ?_
 rintro m e C ⟨x7,x8,x9,hN2,a⟩
 refine W_at a ?_
 obtain⟨m2,w2l,rfl,h2l,hn2,ho2⟩:=bl hN2
 replace h2l:cz x2 x4 x7 x8 x9=some w2l:=h2l
 unfold cz at h2l
 refine ba (W_rs (kMv rfl (kMv rfl (kIn rfl rfl rfl ?_))))
 refine bc h2l rfl (fun _ h2l=>?_) (fun _ h2l=>?_)
 ·refine aw (ay (W_rs (kMv rfl (kMv rfl (kIn rfl rfl rfl ?_)))))
  refine bc h2l rfl (fun _ h2l=>?_) (fun _ h2l=>?_)
  ·refine W_rs (kMv rfl (kMv rfl (kMv rfl (kIn rfl rfl rfl (kMv rfl (kMv rfl (kUn (hMv (out:=d7 Tryz.prog (gt x4)) rfl) ?_)))))))
   obtain⟨x15,k,h2l⟩:=aj h2l
   refine nw [0] (jy (w64 (x2 - x7)) x2 x8 x4 x9 v5 _ k) (fun q C' hq=>?_)
   obtain⟨rfl,rfl⟩:=hq
   refine W_r (kMv rfl (kMv rfl (kIn rfl rfl rfl (kAs rfl ?_))))
   exact⟨m2,lsu,w64 (x7 - x8),x8,x15,hn2 _ (ojs h2l),atOk⟩
  refine W_rs (kMv rfl (kMv rfl (kMv rfl (kIn rfl rfl rfl (kMv rfl (kMv rfl (kIn rfl rfl rfl (kMv rfl (kIn rfl rfl rfl (kMv rfl (kUn (hMv (out:=d7 Tryz.prog (gt x4)) rfl) ?_)))))))))))
  obtain⟨x16,k,h2l⟩:=aj h2l
  refine nw [0] (jy (w64 (x2 - x7)) (w64 ((w64 (x2+x8)) - x7)) x7 x4 x9 v5 _ k) (fun q C' hq=>?_)
  obtain⟨rfl,rfl⟩:=hq
  refine W_r (kMv rfl (kMv rfl (kIn rfl rfl rfl (kAs rfl ?_))))
  exact⟨m2,lsu,x7,w64 (x8 - x7),x16,hn2 _ (ojs h2l),atOk⟩
 refine ep ?_
 obtain rfl:=ho2 _ (ojs h2l)
 exact⟨x7,x9,h,atOk⟩
def lp (R:ao):Prop:=(∀(x1:Int) (x2:Int) (x3:Int) (x4:(B7->B7->Option Int)) (x6:List B7) (v5:Value) (r:(List B7)),R x1 x2 x3 x4 x6=some r->Fc 130 [Pi v5,P6 x1,P6 x2,P6 x3,d7 Tryz.prog (gt x4)] [E3 v5 al x6 47] (fun q C'=>q=bu []/\C'=[E3 v5 al r 47]))
theorem vh (R:ao) (ih:lp R) (x1 x2 x3:Int) (x4:(B7->B7->Option Int)) (x6:List B7) (v5:Value) (r:(List B7)) (h:gb R x1 x2 x3 x4 x6=some r):Fc 130 [Pi v5,P6 x1,P6 x2,P6 x3,d7 Tryz.prog (gt x4)] [E3 v5 al x6 47] (fun q C'=>q=bu []/\C'=[E3 v5 al r 47]):=by
  refine ic (rs:=[]) func130 rfl ntmps130 ⟨by decide,results130⟩ dcd (fun s0=>?_)
  let p1:=E3 v5 al x6 47
  unfold gb at h
  refine ba (W_rs (kMv rfl (kMv rfl (kIn rfl rfl rfl (kIn rfl rfl rfl ?_)))))
  refine bc h rfl (fun _ h=>?_) (fun _ h=>?_)
  · refine W_rs (kMv rfl (kAs rfl (W_rs (kMv rfl (kAs rfl (ba (ay ?_)))))))
    obtain⟨z4l,hz4,h⟩:=aj h
    obtain⟨n4,hN4⟩:=bt hz4
    refine dl 0 (fun e C=>∃x8,f3 R x1 x6 x8=some r/\At [(0,Pi v5),(1,P6 x1),(10,P6 x8)] [p1] e C) ?_ ?_
    · rintro e C ⟨x8,h,a⟩
      refine W_at a ?_
      unfold f3 at h
      refine ba (W_rs (kMv rfl (kAs rfl (ay ?_))))
      obtain⟨z2l,hz2,h⟩:=aj h
      obtain⟨n2,hN2⟩:=bt hz2
      refine dl 2 (fun e C=>∃x18,io R x18=some r/\At [(0,Pi v5)] [E3 v5 al x18 47] e C) ?_ ?_
      · rintro e C ⟨x18,h,a⟩
        refine W_at a ?_
        unfold io at h
        obtain rfl:=osj h
        exact bj ⟨.inl rfl,_,A8.refl _,_,aa,rfl,rfl⟩
      refine fb (fun m e C=>∃x17,∃x18,fp (fun s=>dk R x8 s.1 s.2) m (x17,x18)=some z2l/\At [(0,Pi v5),(10,P6 x8),(13,P6 x17)] [E3 v5 al x18 47] e C) n2 ⟨x1,x6,hN2,⟨⟨aa,aa,aa,tv⟩,A8.refl _⟩⟩ ?_
      rintro m e C ⟨x17,x18,hN2,a⟩
      let p2:=E3 v5 al x18 47
      refine W_at a ?_
      obtain⟨m2,w2l,rfl,h2l,hn2,ho2⟩:=bl hN2
      replace h2l:dk R x8 x17 x18=some w2l:=h2l
      unfold dk at h2l
      refine ba (W_rs (kMv rfl (kMv rfl (kIn rfl rfl rfl (kIn rfl rfl rfl ?_)))))
      refine bc h2l rfl (fun _ h2l=>?_) (fun _ h2l=>?_)
      · refine aw (ba (ay ?_))
        obtain⟨x22,hx22,h2l⟩:=aj h2l
        obtain⟨x23,hx23,h2l⟩:=aj h2l
        obtain⟨x24,hx24,h2l⟩:=aj h2l
        obtain⟨x25,k,h2l⟩:=aj h2l
        refine aes [0,0,0,0,8,0,0,64,224,480,0,0,3072,7168,16355,32739,65535,131071] [[],[],[],[],[],[],[],[],[p2],[p2],[],[],[p2],[p2],[p2],[],[E3 v5 al (List.set x18 (Int.toNat x17) x22) 47],[]] hmx kr kr kr rfl ?_
        refine aq0 0 1 (out:=Pi v5) rfl (fun C9=>gk) ?_
        refine aq0 1 3 (out:=P6 x17) rfl (fun C9=>gk) ?_
        refine aq0 2 7 (out:=Pi v5) rfl (fun C9=>gk) ?_
        refine aq0 3 15 (out:=P6 x17) rfl (fun C9=>gk) ?_
        refine aq0 4 31 (out:=P6 (w64 (x17+1))) rfl (fun C9=>qInt) ?_
        refine aq0 5 63 (out:=Pi v5) rfl (fun C9=>gk) ?_
        refine aq0 6 127 (out:=P6 x17) rfl (fun C9=>gk) ?_
        refine aq0 7 255 (out:=P6 (w64 (x17+1))) rfl (fun C9=>qInt) ?_
        refine aq1 8 511 0 (out:=vj v5 (Int.toNat (w64 (x17+1)) * (al).size)) rfl rfl (fun C9 i9 h9=>(yf i9 (R:=al) (l:=x18) underlying27 sizeOf47 hx22 (hi:=h9))) ?_
        refine aq1 9 1023 0 (out:=(al).val x22) rfl rfl (fun C9 i9 h9=>(xp (R:=al) (R':=al) (l:=x18) (a:=x22) (o:=0) i9 ty47 (Sub.refl _) nb hx22 rfl (hi:=h9))) ?_
        refine aq0 10 2047 (out:=Pi v5) rfl (fun C9=>gk) ?_
        refine aq0 11 4095 (out:=P6 x17) rfl (fun C9=>gk) ?_
        refine aq1 12 8191 0 (out:=vj v5 (Int.toNat x17 * (al).size)) rfl rfl (fun C9 i9 h9=>(yf i9 (R:=al) (l:=x18) underlying27 sizeOf47 hx23 (hi:=h9))) ?_
        refine aq1 13 16383 0 (out:=(al).val x23) rfl rfl (fun C9 i9 h9=>(xp (R:=al) (R':=al) (l:=x18) (a:=x23) (o:=0) i9 ty47 (Sub.refl _) nb hx23 rfl (hi:=h9))) ?_
        refine aq1 14 32767 0 (out:=vj v5 (Int.toNat x17 * (al).size)) rfl rfl (fun C9 i9 h9=>(yf i9 (R:=al) (l:=x18) underlying27 sizeOf47 hx24 (hi:=h9))) ?_
        refine ae 15 65535 rfl (fun g9=>?_)
        refine acz (R:=al) (R':=al) (l:=x18) (a:=x24) (y:=x22) (o:=0) 0 sizeOf47 (Upd.refl _) hx24 rfl ?_
        refine pp .any [] ga ?_
        refine aq1 16 131071 0 (out:=vj v5 (Int.toNat (w64 (x17+1)) * (al).size)) rfl rfl (fun C9 i9 h9=>(yf i9 (R:=al) (l:=(List.set x18 (Int.toNat x17) x22)) underlying27 sizeOf47 k (hi:=h9))) ?_
        refine ae 17 262143 rfl (fun g9=>?_)
        refine acz (R:=al) (R':=al) (l:=(List.set x18 (Int.toNat x17) x22)) (a:=x25) (y:=x23) (o:=0) 0 sizeOf47 (Upd.refl _) k rfl ?_
        refine pp .any [] ga ?_
        refine agu ?_
        refine W_r (kMv rfl (kIn rfl rfl rfl (kAs rfl ?_)))
        exact⟨m2,lsu,w64 (x17+1),(List.set (List.set x18 (Int.toNat x17) x22) (Int.toNat (w64 (x17+1))) x23),hn2 _ (ojs h2l),atOk⟩
      refine ep ?_
      obtain rfl:=ho2 _ (ojs h2l)
      exact⟨x18,h,atOk⟩
    refine fb (fun m e C=>∃x8,∃x9,fp (fun s=>dj R x6 x1 x4 s.1 s.2) m (x8,x9)=some z4l/\At [(0,Pi v5),(1,P6 x1),(4,d7 Tryz.prog (gt x4)),(10,P6 x8),(11,P6 x9)] [p1] e C) n4 ⟨x2,x3,hN4,⟨⟨aa,aa,aa,aa,aa,tv⟩,A8.refl _⟩⟩ ?_
    rintro m e C ⟨x8,x9,hN4,a⟩
    refine W_at a ?_
    obtain⟨m4,w4l,rfl,h4l,hn4,ho4⟩:=bl hN4
    replace h4l:dj R x6 x1 x4 x8 x9=some w4l:=h4l
    unfold dj at h4l
    refine ba (W_rs (kMv rfl (kMv rfl (kIn rfl rfl rfl ?_))))
    refine bc h4l rfl (fun _ h4l=>?_) (fun _ h4l=>?_)
    · refine aw (ay (W_rs (kMv rfl (kMv rfl (kIn rfl rfl rfl (kUn (ank underlying3 underlying192) ?_))))))
      refine kUn (qShr (k:= .u64) (c:=2) 1 dcd) ?_
      refine kUn (ank underlying192 underlying3) ?_
      refine kAs rfl ?_
      refine bm (fun e C=>∃x15,ip R x8 x9 x15=some w4l/\At [(0,Pi v5),(1,P6 x1),(4,d7 Tryz.prog (gt x4)),(10,P6 x8),(11,P6 x9),(12,P6 (w64 (Int.fdiv (IntKind.wrap .u64 (w64 (x8+x9))) 2))),(50,Pb (decide (x15<0)))] [p1] e C) ?_ ?_
      · rintro e C ⟨x15,h4l,a⟩
        refine W_at a ?_
        unfold ip at h4l
        refine bc h4l rfl (fun _ h4l=>?_) (fun _ h4l=>?_)
        · refine W_r (kMv rfl (kIn rfl rfl rfl (kAs rfl ?_)))
          exact⟨m4,lsu,w64 ((w64 (Int.fdiv (IntKind.wrap .u64 (w64 (x8+x9))) 2))+1),x9,hn4 _ (ojs h4l),atOk⟩
        refine W_r (kMv rfl (kAs rfl ?_))
        exact⟨m4,lsu,x8,w64 (Int.fdiv (IntKind.wrap .u64 (w64 (x8+x9))) 2),hn4 _ (ojs h4l),atOk⟩
      refine mh 11 hmx kr kr ?_
      refine lUn (hMv (out:=d7 Tryz.prog (gt x4)) rfl) (lUn (hMvA rfl) (lUn (hMvA rfl) ?_))
      obtain⟨x13,k,h4l⟩:=aj h4l
      refine lUn (yf 0 (R:=al) (l:=x6) underlying27 sizeOf47 k) ?_
      refine lUn (xp (R:=al) (R':=al) (l:=x6) (a:=x13) (o:=0) 0 ty47 (Sub.refl _) nb k rfl) ?_
      refine lUn (hMvA rfl) (lUn (hMvA rfl) ?_)
      obtain⟨x14,k,h4l⟩:=aj h4l
      refine lUn (yf 0 (R:=al) (l:=x6) underlying27 sizeOf47 k) ?_
      refine lUn (xp (R:=al) (R':=al) (l:=x6) (a:=x14) (o:=0) 0 ty47 (Sub.refl _) nb k rfl) ?_
      obtain⟨x15,k,h4l⟩:=aj h4l
      refine lUn (anp (spec:=gt x4) ⟨_,_,_,rfl,rfl,k⟩) ?_
      refine lUn (qInt rfl rfl rfl) ?_
      exact⟨x15,h4l,atOk⟩
    refine ep ?_
    obtain rfl:=ho4 _ (ojs h4l)
    exact⟨x8,h,atOk⟩
  refine aw (ba (W_rs (kMv rfl (kMv rfl (kIn rfl rfl rfl (kIn rfl rfl rfl ?_))))))
  refine bc h rfl (fun _ h=>?_) (fun _ h=>?_)
  · refine W_rs (kMv rfl (kAs rfl (W_rs (kMv rfl (kAs rfl (ba (ay ?_)))))))
    obtain⟨z9l,hz9,h⟩:=aj h
    obtain⟨n9,hN9⟩:=bt hz9
    refine dl 4 (fun e C=>∃x27,f0 R x2 x6 x27=some r/\At [(0,Pi v5),(2,P6 x2),(14,P6 x27)] [p1] e C) ?_ ?_
    · rintro e C ⟨x27,h,a⟩
      refine W_at a ?_
      unfold f0 at h
      refine ba (W_rs (kMv rfl (kAs rfl (ay ?_))))
      obtain⟨z7l,hz7,h⟩:=aj h
      obtain⟨n7,hN7⟩:=bt hz7
      refine dl 6 (fun e C=>∃x37,im R x37=some r/\At [(0,Pi v5)] [E3 v5 al x37 47] e C) ?_ ?_
      · rintro e C ⟨x37,h,a⟩
        refine W_at a ?_
        unfold im at h
        obtain rfl:=osj h
        exact bj ⟨.inl rfl,_,A8.refl _,_,aa,rfl,rfl⟩
      refine fb (fun m e C=>∃x36,∃x37,fp (fun s=>di R x27 s.1 s.2) m (x36,x37)=some z7l/\At [(0,Pi v5),(14,P6 x27),(17,P6 x36)] [E3 v5 al x37 47] e C) n7 ⟨x2,x6,hN7,⟨⟨aa,aa,aa,tv⟩,A8.refl _⟩⟩ ?_
      rintro m e C ⟨x36,x37,hN7,a⟩
      let p3:=E3 v5 al x37 47
      refine W_at a ?_
      obtain⟨m7,w7l,rfl,h7l,hn7,ho7⟩:=bl hN7
      replace h7l:di R x27 x36 x37=some w7l:=h7l
      unfold di at h7l
      refine ba (W_rs (kMv rfl (kMv rfl (kIn rfl rfl rfl ?_))))
      refine bc h7l rfl (fun _ h7l=>?_) (fun _ h7l=>?_)
      · refine aw (ba (ay ?_))
        obtain⟨x41,hx41,h7l⟩:=aj h7l
        obtain⟨x42,hx42,h7l⟩:=aj h7l
        obtain⟨x43,hx43,h7l⟩:=aj h7l
        obtain⟨x44,k,h7l⟩:=aj h7l
        refine aes [0,0,0,0,8,0,0,64,224,480,0,0,3072,7168,16355,32739,65535,131071] [[],[],[],[],[],[],[],[],[p3],[p3],[],[],[p3],[p3],[p3],[],[E3 v5 al (List.set x37 (Int.toNat x36) x41) 47],[]] hmx kr kr kr rfl ?_
        refine aq0 0 1 (out:=Pi v5) rfl (fun C9=>gk) ?_
        refine aq0 1 3 (out:=P6 x36) rfl (fun C9=>gk) ?_
        refine aq0 2 7 (out:=Pi v5) rfl (fun C9=>gk) ?_
        refine aq0 3 15 (out:=P6 x36) rfl (fun C9=>gk) ?_
        refine aq0 4 31 (out:=P6 (w64 (x36 - 1))) rfl (fun C9=>qInt) ?_
        refine aq0 5 63 (out:=Pi v5) rfl (fun C9=>gk) ?_
        refine aq0 6 127 (out:=P6 x36) rfl (fun C9=>gk) ?_
        refine aq0 7 255 (out:=P6 (w64 (x36 - 1))) rfl (fun C9=>qInt) ?_
        refine aq1 8 511 0 (out:=vj v5 (Int.toNat (w64 (x36 - 1)) * (al).size)) rfl rfl (fun C9 i9 h9=>(yf i9 (R:=al) (l:=x37) underlying27 sizeOf47 hx41 (hi:=h9))) ?_
        refine aq1 9 1023 0 (out:=(al).val x41) rfl rfl (fun C9 i9 h9=>(xp (R:=al) (R':=al) (l:=x37) (a:=x41) (o:=0) i9 ty47 (Sub.refl _) nb hx41 rfl (hi:=h9))) ?_
        refine aq0 10 2047 (out:=Pi v5) rfl (fun C9=>gk) ?_
        refine aq0 11 4095 (out:=P6 x36) rfl (fun C9=>gk) ?_
        refine aq1 12 8191 0 (out:=vj v5 (Int.toNat x36 * (al).size)) rfl rfl (fun C9 i9 h9=>(yf i9 (R:=al) (l:=x37) underlying27 sizeOf47 hx42 (hi:=h9))) ?_
        refine aq1 13 16383 0 (out:=(al).val x42) rfl rfl (fun C9 i9 h9=>(xp (R:=al) (R':=al) (l:=x37) (a:=x42) (o:=0) i9 ty47 (Sub.refl _) nb hx42 rfl (hi:=h9))) ?_
        refine aq1 14 32767 0 (out:=vj v5 (Int.toNat x36 * (al).size)) rfl rfl (fun C9 i9 h9=>(yf i9 (R:=al) (l:=x37) underlying27 sizeOf47 hx43 (hi:=h9))) ?_
        refine ae 15 65535 rfl (fun g9=>?_)
        refine acz (R:=al) (R':=al) (l:=x37) (a:=x43) (y:=x41) (o:=0) 0 sizeOf47 (Upd.refl _) hx43 rfl ?_
        refine pp .any [] ga ?_
        refine aq1 16 131071 0 (out:=vj v5 (Int.toNat (w64 (x36 - 1)) * (al).size)) rfl rfl (fun C9 i9 h9=>(yf i9 (R:=al) (l:=(List.set x37 (Int.toNat x36) x41)) underlying27 sizeOf47 k (hi:=h9))) ?_
        refine ae 17 262143 rfl (fun g9=>?_)
        refine acz (R:=al) (R':=al) (l:=(List.set x37 (Int.toNat x36) x41)) (a:=x44) (y:=x42) (o:=0) 0 sizeOf47 (Upd.refl _) k rfl ?_
        refine pp .any [] ga ?_
        refine agu ?_
        refine W_r (kMv rfl (kIn rfl rfl rfl (kAs rfl ?_)))
        exact⟨m7,lsu,w64 (x36 - 1),(List.set (List.set x37 (Int.toNat x36) x41) (Int.toNat (w64 (x36 - 1))) x42),hn7 _ (ojs h7l),atOk⟩
      refine ep ?_
      obtain rfl:=ho7 _ (ojs h7l)
      exact⟨x37,h,atOk⟩
    refine fb (fun m e C=>∃x27,∃x28,fp (fun s=>dh R x6 x2 x4 s.1 s.2) m (x27,x28)=some z9l/\At [(0,Pi v5),(2,P6 x2),(4,d7 Tryz.prog (gt x4)),(14,P6 x27),(15,P6 x28)] [p1] e C) n9 ⟨x1,x2,hN9,⟨⟨aa,aa,aa,aa,aa,tv⟩,A8.refl _⟩⟩ ?_
    rintro m e C ⟨x27,x28,hN9,a⟩
    refine W_at a ?_
    obtain⟨m9,w9l,rfl,h9l,hn9,ho9⟩:=bl hN9
    replace h9l:dh R x6 x2 x4 x27 x28=some w9l:=h9l
    unfold dh at h9l
    refine ba (W_rs (kMv rfl (kMv rfl (kIn rfl rfl rfl ?_))))
    refine bc h9l rfl (fun _ h9l=>?_) (fun _ h9l=>?_)
    · refine aw (ay (W_rs (kMv rfl (kMv rfl (kIn rfl rfl rfl (kUn (ank underlying3 underlying192) ?_))))))
      refine kUn (qShr (k:= .u64) (c:=2) 1 dcd) ?_
      refine kUn (ank underlying192 underlying3) ?_
      refine kAs rfl ?_
      refine bm (fun e C=>∃x34,ia R x27 x28 x34=some w9l/\At [(0,Pi v5),(2,P6 x2),(4,d7 Tryz.prog (gt x4)),(14,P6 x27),(15,P6 x28),(16,P6 (w64 (Int.fdiv (IntKind.wrap .u64 (w64 (x27+x28))) 2))),(103,Pb (!(decide (x34<0))))] [p1] e C) ?_ ?_
      · rintro e C ⟨x34,h9l,a⟩
        refine W_at a ?_
        unfold ia at h9l
        refine bc h9l rfl (fun _ h9l=>?_) (fun _ h9l=>?_)
        · refine W_r (kMv rfl (kIn rfl rfl rfl (kAs rfl ?_)))
          exact⟨m9,lsu,w64 ((w64 (Int.fdiv (IntKind.wrap .u64 (w64 (x27+x28))) 2))+1),x28,hn9 _ (ojs h9l),atOk⟩
        refine W_r (kMv rfl (kAs rfl ?_))
        exact⟨m9,lsu,x27,w64 (Int.fdiv (IntKind.wrap .u64 (w64 (x27+x28))) 2),hn9 _ (ojs h9l),atOk⟩
      refine mh 12 hmx kr kr ?_
      refine lUn (hMv (out:=d7 Tryz.prog (gt x4)) rfl) (lUn (hMvA rfl) (lUn (hMvA rfl) ?_))
      obtain⟨x32,k,h9l⟩:=aj h9l
      refine lUn (yf 0 (R:=al) (l:=x6) underlying27 sizeOf47 k) ?_
      refine lUn (xp (R:=al) (R':=al) (l:=x6) (a:=x32) (o:=0) 0 ty47 (Sub.refl _) nb k rfl) ?_
      refine lUn (hMvA rfl) (lUn (hMvA rfl) ?_)
      obtain⟨x33,k,h9l⟩:=aj h9l
      refine lUn (yf 0 (R:=al) (l:=x6) underlying27 sizeOf47 k) ?_
      refine lUn (xp (R:=al) (R':=al) (l:=x6) (a:=x33) (o:=0) 0 ty47 (Sub.refl _) nb k rfl) ?_
      obtain⟨x34,k,h9l⟩:=aj h9l
      refine lUn (anp (spec:=gt x4) ⟨_,_,_,rfl,rfl,k⟩) ?_
      refine lUn (qInt rfl rfl rfl) (lUn (qNot rfl) ?_)
      exact⟨x34,h9l,atOk⟩
    refine ep ?_
    obtain rfl:=ho9 _ (ojs h9l)
    exact⟨x27,h,atOk⟩
  refine aw (W_rs (kMv rfl (kMv rfl (kIn rfl rfl rfl (kUn (ank underlying3 underlying192) ?_)))))
  refine kUn (qShr (k:= .u64) (c:=2) 1 dcd) ?_
  refine kUn (ank underlying192 underlying3) ?_
  refine kAs rfl (W_rs (kMv rfl (kMv rfl (kIn rfl rfl rfl (kAs rfl (W_rs (kAs rfl (kAs rfl ?_))))))))
  refine bm (fun e C=>∃x46,∃x47,ei R x6 x1 x3 x2 x4 x46 x47=some r/\At [(0,Pi v5),(1,P6 x1),(2,P6 x2),(3,P6 x3),(4,d7 Tryz.prog (gt x4)),(18,P6 (w64 (Int.fdiv (IntKind.wrap .u64 (w64 (x1+x3))) 2))),(19,P6 (w64 ((w64 (Int.fdiv (IntKind.wrap .u64 (w64 (x1+x3))) 2))+x2))),(20,P6 x46),(21,P6 x47)] [p1] e C) ?_ ?_
  · rintro e C ⟨x46,x47,h,a⟩
    refine W_at a ?_
    unfold ei at h
    refine W_rs (kMv rfl (kIn rfl rfl rfl (kAs rfl (ba (ay ?_)))))
    obtain⟨z17l,hz17,h⟩:=aj h
    obtain⟨n17,hN17⟩:=bt hz17
    refine dl 8 (fun e C=>∃x48,g7 R x2 x1 x3 x4 x6 x48=some r/\At [(0,Pi v5),(1,P6 x1),(2,P6 x2),(3,P6 x3),(4,d7 Tryz.prog (gt x4)),(18,P6 (w64 (Int.fdiv (IntKind.wrap .u64 (w64 (x1+x3))) 2))),(19,P6 (w64 ((w64 (Int.fdiv (IntKind.wrap .u64 (w64 (x1+x3))) 2))+x2))),(20,P6 x48)] [p1] e C) ?_ ?_
    · rintro e C ⟨x48,h,a⟩
      refine W_at a ?_
      unfold g7 at h
      refine W_rs (kMv rfl (kMv rfl (kIn rfl rfl rfl (kAs rfl ?_))))
      refine bm (fun e C=>∃x61,ej R x1 x48 x3 x4 x2 x61=some r/\At [(0,Pi v5),(1,P6 x1),(3,P6 x3),(4,d7 Tryz.prog (gt x4)),(18,P6 (w64 (Int.fdiv (IntKind.wrap .u64 (w64 (x1+x3))) 2))),(20,P6 x48),(24,P6 (w64 ((w64 ((w64 (Int.fdiv (IntKind.wrap .u64 (w64 (x1+x3))) 2))+x2)) - x48)))] [E3 v5 al x61 47] e C) ?_ ?_
      · rintro e C ⟨x61,h,a⟩
        refine W_at a ?_
        unfold ej at h
        refine bm (fun e C=>∃x66,en R x1 x3 x2 x48 x4 x66=some r/\At [(0,Pi v5),(3,P6 x3),(4,d7 Tryz.prog (gt x4)),(18,P6 (w64 (Int.fdiv (IntKind.wrap .u64 (w64 (x1+x3))) 2))),(24,P6 (w64 ((w64 ((w64 (Int.fdiv (IntKind.wrap .u64 (w64 (x1+x3))) 2))+x2)) - x48)))] [E3 v5 al x66 47] e C) ?_ ?_
        · rintro e C ⟨x66,h,a⟩
          refine W_at a ?_
          unfold en at h
          refine bm (fun e C=>∃x68,fm R x1 x3 x2 x48 x4 x66 x68=some r/\At [(0,Pi v5),(3,P6 x3),(4,d7 Tryz.prog (gt x4)),(18,P6 (w64 (Int.fdiv (IntKind.wrap .u64 (w64 (x1+x3))) 2))),(24,P6 (w64 ((w64 ((w64 (Int.fdiv (IntKind.wrap .u64 (w64 (x1+x3))) 2))+x2)) - x48))),(213,Pb x68)] [E3 v5 al x66 47] e C) ?_ ?_
          · rintro e C ⟨x68,h,a⟩
            refine W_at a ?_
            unfold fm at h
            refine bc h rfl (fun _ h=>?_) (fun _ h=>?_)
            · refine W_r (kMv rfl (kMv rfl (kMv rfl (kMv rfl (kUn (hMv (out:=d7 Tryz.prog (gt x4)) rfl) ?_)))))
              obtain⟨x70,k,h⟩:=aj h
              refine nw [0] (ih (w64 (Int.fdiv (IntKind.wrap .u64 (w64 (x1+x3))) 2)) (w64 ((w64 ((w64 (Int.fdiv (IntKind.wrap .u64 (w64 (x1+x3))) 2))+x2)) - x48)) x3 x4 x66 v5 _ k) (fun q C' hq=>?_)
              obtain⟨rfl,rfl⟩:=hq
              obtain rfl:=osj h
              exact⟨.inr rfl,_,A8.refl _,_,aa,rfl,rfl⟩
            refine aw ?_
            obtain rfl:=osj h
            exact⟨.inr rfl,_,A8.refl _,_,aa,rfl,rfl⟩
          refine W_r (kMv rfl (kMv rfl (kIn rfl rfl rfl (kMv rfl ?_))))
          rcases cg h with⟨hc67,h⟩|⟨hc67,h⟩
          · refine kGd rfl aa hc67 (hMvA rfl) (kGd rfl aa hc67 (hMvA rfl) (kGd rfl aa hc67 (qInt rfl rfl rfl) (kPt rfl hc67 rfl ?_)))
            exact⟨decide ((w64 ((w64 ((w64 (Int.fdiv (IntKind.wrap .u64 (w64 (x1+x3))) 2))+x2)) - x48))<x3),h,atOk⟩
          refine skx ?_
          refine kPf rfl hc67 rfl ?_
          exact⟨false,h,atOk⟩
        refine bm (fun e C=>∃x63,fk R x1 x48 x3 x4 x61 x2 x63=some r/\At [(0,Pi v5),(1,P6 x1),(3,P6 x3),(4,d7 Tryz.prog (gt x4)),(18,P6 (w64 (Int.fdiv (IntKind.wrap .u64 (w64 (x1+x3))) 2))),(20,P6 x48),(24,P6 (w64 ((w64 ((w64 (Int.fdiv (IntKind.wrap .u64 (w64 (x1+x3))) 2))+x2)) - x48))),(199,Pb x63)] [E3 v5 al x61 47] e C) ?_ ?_
        · rintro e C ⟨x63,h,a⟩
          refine W_at a ?_
          unfold fk at h
          refine bc h rfl (fun _ h=>?_) (fun _ h=>?_)
          · refine W_r (kMv rfl (kMv rfl (kMv rfl (kMv rfl (kUn (hMv (out:=d7 Tryz.prog (gt x4)) rfl) ?_)))))
            obtain⟨x65,k,h⟩:=aj h
            refine nw [0] (ih x1 x48 (w64 (Int.fdiv (IntKind.wrap .u64 (w64 (x1+x3))) 2)) x4 x61 v5 _ k) (fun q C' hq=>?_)
            obtain⟨rfl,rfl⟩:=hq
            exact⟨x65,h,atOk⟩
          refine aw ?_
          exact⟨x61,h,atOk⟩
        refine W_r (kMv rfl (kMv rfl (kIn rfl rfl rfl (kMv rfl ?_))))
        rcases cg h with⟨hc62,h⟩|⟨hc62,h⟩
        · refine kGd rfl aa hc62 (hMvA rfl) (kGd rfl aa hc62 (hMvA rfl) (kGd rfl aa hc62 (qInt rfl rfl rfl) (kPt rfl hc62 rfl ?_)))
          exact⟨decide (x48<(w64 (Int.fdiv (IntKind.wrap .u64 (w64 (x1+x3))) 2))),h,atOk⟩
        refine skx ?_
        refine kPf rfl hc62 rfl ?_
        exact⟨false,h,atOk⟩
      refine bm (fun e C=>∃x58,fj R x48 x2 x1 x3 x4 x6 x58=some r/\At [(0,Pi v5),(1,P6 x1),(2,P6 x2),(3,P6 x3),(4,d7 Tryz.prog (gt x4)),(18,P6 (w64 (Int.fdiv (IntKind.wrap .u64 (w64 (x1+x3))) 2))),(20,P6 x48),(24,P6 (w64 ((w64 ((w64 (Int.fdiv (IntKind.wrap .u64 (w64 (x1+x3))) 2))+x2)) - x48))),(185,Pb x58)] [p1] e C) ?_ ?_
      · rintro e C ⟨x58,h,a⟩
        refine W_at a ?_
        unfold fj at h
        refine bc h rfl (fun _ h=>?_) (fun _ h=>?_)
        · refine W_r (kMv rfl (kMv rfl (kMv rfl (kMv rfl (kUn (hMv (out:=d7 Tryz.prog (gt x4)) rfl) ?_)))))
          obtain⟨x60,k,h⟩:=aj h
          refine nw [0] (z9 x48 x2 (w64 ((w64 ((w64 (Int.fdiv (IntKind.wrap .u64 (w64 (x1+x3))) 2))+x2)) - x48)) x4 x6 v5 _ k) (fun q C' hq=>?_)
          obtain⟨rfl,rfl⟩:=hq
          exact⟨x60,h,atOk⟩
        refine aw ?_
        exact⟨x6,h,atOk⟩
      refine W_r (kMv rfl (kMv rfl (kIn rfl rfl rfl (kMv rfl ?_))))
      rcases cg h with⟨hc57,h⟩|⟨hc57,h⟩
      · refine kGd rfl aa hc57 (hMvA rfl) (kGd rfl aa hc57 (hMvA rfl) (kGd rfl aa hc57 (qInt rfl rfl rfl) (kPt rfl hc57 rfl ?_)))
        exact⟨decide (x2<(w64 ((w64 ((w64 (Int.fdiv (IntKind.wrap .u64 (w64 (x1+x3))) 2))+x2)) - x48))),h,atOk⟩
      refine skx ?_
      refine kPf rfl hc57 rfl ?_
      exact⟨false,h,atOk⟩
    refine fb (fun m e C=>∃x48,∃x49,fp (fun s=>de R x6 x1 x3 x2 x4 s.1 s.2) m (x48,x49)=some z17l/\At [(0,Pi v5),(1,P6 x1),(2,P6 x2),(3,P6 x3),(4,d7 Tryz.prog (gt x4)),(18,P6 (w64 (Int.fdiv (IntKind.wrap .u64 (w64 (x1+x3))) 2))),(19,P6 (w64 ((w64 (Int.fdiv (IntKind.wrap .u64 (w64 (x1+x3))) 2))+x2))),(20,P6 x48),(21,P6 x49),(22,P6 (w64 ((w64 ((w64 (Int.fdiv (IntKind.wrap .u64 (w64 (x1+x3))) 2))+x2)) - 1)))] [p1] e C) n17 ⟨x46,x47,hN17,⟨⟨aa,aa,aa,aa,aa,aa,aa,aa,aa,aa,tv⟩,A8.refl _⟩⟩ ?_
    rintro m e C ⟨x48,x49,hN17,a⟩
    refine W_at a ?_
    obtain⟨m17,w17l,rfl,h17l,hn17,ho17⟩:=bl hN17
    replace h17l:de R x6 x1 x3 x2 x4 x48 x49=some w17l:=h17l
    unfold de at h17l
    refine ba (W_rs (kMv rfl (kMv rfl (kIn rfl rfl rfl ?_))))
    refine bc h17l rfl (fun _ h17l=>?_) (fun _ h17l=>?_)
    · refine aw (ay (W_rs (kMv rfl (kMv rfl (kIn rfl rfl rfl (kUn (ank underlying3 underlying192) ?_))))))
      refine kUn (qShr (k:= .u64) (c:=2) 1 dcd) ?_
      refine kUn (ank underlying192 underlying3) ?_
      refine kAs rfl ?_
      refine bm (fun e C=>∃x55,g8 R x48 x49 x55=some w17l/\At [(0,Pi v5),(1,P6 x1),(2,P6 x2),(3,P6 x3),(4,d7 Tryz.prog (gt x4)),(18,P6 (w64 (Int.fdiv (IntKind.wrap .u64 (w64 (x1+x3))) 2))),(19,P6 (w64 ((w64 (Int.fdiv (IntKind.wrap .u64 (w64 (x1+x3))) 2))+x2))),(20,P6 x48),(21,P6 x49),(22,P6 (w64 ((w64 ((w64 (Int.fdiv (IntKind.wrap .u64 (w64 (x1+x3))) 2))+x2)) - 1))),(23,P6 (w64 (Int.fdiv (IntKind.wrap .u64 (w64 (x48+x49))) 2))),(171,Pb (!(decide (x55<0))))] [p1] e C) ?_ ?_
      · rintro e C ⟨x55,h17l,a⟩
        refine W_at a ?_
        unfold g8 at h17l
        refine bc h17l rfl (fun _ h17l=>?_) (fun _ h17l=>?_)
        · refine W_r (kMv rfl (kIn rfl rfl rfl (kAs rfl ?_)))
          exact⟨m17,lsu,w64 ((w64 (Int.fdiv (IntKind.wrap .u64 (w64 (x48+x49))) 2))+1),x49,hn17 _ (ojs h17l),atOk⟩
        refine W_r (kMv rfl (kAs rfl ?_))
        exact⟨m17,lsu,x48,w64 (Int.fdiv (IntKind.wrap .u64 (w64 (x48+x49))) 2),hn17 _ (ojs h17l),atOk⟩
      refine mh 14 hmx kr kr ?_
      refine lUn (hMv (out:=d7 Tryz.prog (gt x4)) rfl) (lUn (hMvA rfl) (lUn (hMvA rfl) (lUn (hMvA rfl) (lUn (qInt rfl rfl rfl) ?_))))
      obtain⟨x53,k,h17l⟩:=aj h17l
      refine lUn (yf 0 (R:=al) (l:=x6) underlying27 sizeOf47 k) ?_
      refine lUn (xp (R:=al) (R':=al) (l:=x6) (a:=x53) (o:=0) 0 ty47 (Sub.refl _) nb k rfl) ?_
      refine lUn (hMvA rfl) (lUn (hMvA rfl) ?_)
      obtain⟨x54,k,h17l⟩:=aj h17l
      refine lUn (yf 0 (R:=al) (l:=x6) underlying27 sizeOf47 k) ?_
      refine lUn (xp (R:=al) (R':=al) (l:=x6) (a:=x54) (o:=0) 0 ty47 (Sub.refl _) nb k rfl) ?_
      obtain⟨x55,k,h17l⟩:=aj h17l
      refine lUn (anp (spec:=gt x4) ⟨_,_,_,rfl,rfl,k⟩) ?_
      refine lUn (qInt rfl rfl rfl) (lUn (qNot rfl) ?_)
      exact⟨x55,h17l,atOk⟩
    refine ep ?_
    obtain rfl:=ho17 _ (ojs h17l)
    exact⟨x48,h,atOk⟩
  refine W_rs (kMv rfl (kMv rfl (kIn rfl rfl rfl ?_)))
  refine bc h rfl (fun _ h=>?_) (fun _ h=>?_)
  · refine W_rs (kMv rfl (kMv rfl (kIn rfl rfl rfl (kAs rfl (W_r (kMv rfl (kAs rfl ?_)))))))
    exact⟨w64 ((w64 ((w64 (Int.fdiv (IntKind.wrap .u64 (w64 (x1+x3))) 2))+x2)) - x3),w64 (Int.fdiv (IntKind.wrap .u64 (w64 (x1+x3))) 2),h,atOk⟩
  refine W_rs (kMv rfl (kAs rfl (W_r (kMv rfl (kAs rfl ?_)))))
  exact⟨x1,x2,h,atOk⟩
theorem vg :∀n,lp (bx n):=by
 intro n
 induction n with
 |zero=>exact(fun x1 x2 x3 x4 x6 v5 r h=>nomatch (show none=some r from h))
 |succ n ih=>exact(fun x1 x2 x3 x4 x6 v5 r h=>vh (bx n) ih x1 x2 x3 x4 x6 v5 r h)
theorem o8 (x1 x2 x3:Int) (x4:(B7->B7->Option Int)) (x6:List B7) (v5:Value) (r:(List B7)) (h:gl x1 x2 x3 x4 x6=some r):Fc 130 [Pi v5,P6 x1,P6 x2,P6 x3,d7 Tryz.prog (gt x4)] [E3 v5 al x6 47] (fun q C'=>q=bu []/\C'=[E3 v5 al r 47]):=(vg 1048576) x1 x2 x3 x4 x6 v5 r h
theorem z8 (x1:Int) (x2:(B7->B7->Option Int)) (x4:List B7) (v3:Value) (r:(List B7)) (h:ik x1 x2 x4=some r):Fc 78 [Pi v3,P6 x1,d7 Tryz.prog (gt x2)] [E3 v3 al x4 47] (fun q C'=>q=bu []/\C'=[E3 v3 al r 47]):=by
 refine ic (rs:=[]) func78 rfl ntmps78 ⟨by decide,results78⟩ dcd (fun s0=>?_)
 unfold ik at h
 refine W_rs (kAs rfl (W_rs (kMv rfl (kAs rfl (kAs rfl (ba (ay ?_)))))))
 obtain⟨z7l,hz7,h⟩:=aj h
 obtain⟨n7,hN7⟩:=bt hz7
 refine dl 0 (fun e C=>∃x5,∃x7,i7 x1 x2 x5 x7=some r/\At [(0,Pi v3),(1,P6 x1),(2,d7 Tryz.prog (gt x2)),(6,P6 20),(7,P6 x5)] [E3 v3 al x7 47] e C) ?_ ?_
 ·rintro e C ⟨x5,x7,h,a⟩
  refine W_at a ?_
  unfold i7 at h
  refine W_rs (kMv rfl (kMv rfl (kMv rfl (kUn (hMv (out:=d7 Tryz.prog (gt x2)) rfl) ?_))))
  obtain⟨x13,k,h⟩:=aj h
  refine nw [0] (l8 x5 x1 x2 x7 v3 _ k) (fun q C' hq=>?_)
  obtain⟨rfl,rfl⟩:=hq
  refine ay ?_
  obtain⟨z2l,hz2,h⟩:=aj h
  obtain⟨n2,hN2⟩:=bt hz2
  refine dl 2 (fun e C=>∃x15,la x15=some r/\At [(0,Pi v3)] [E3 v3 al x15 47] e C) ?_ ?_
  ·rintro e C ⟨x15,h,a⟩
   unfold la at h
   obtain rfl:=osj h
   exact⟨.inr rfl,_,(A8.trans a.2 (A8.refl _)),_,aa,rfl,rfl⟩
  refine fb (fun m e C=>∃x14,∃x15,fp (fun s=>cw x1 x2 s.1 s.2) m (x14,x15)=some z2l/\At [(0,Pi v3),(1,P6 x1),(2,d7 Tryz.prog (gt x2)),(6,P6 x14)] [E3 v3 al x15 47] e C) n2 ⟨20,x13,hN2,⟨⟨aa,aa,aa,aa,tv⟩,A8.refl _⟩⟩ ?_
  rintro m e C ⟨x14,x15,hN2,a⟩
  refine W_at a ?_
  obtain⟨m2,w2l,rfl,h2l,hn2,ho2⟩:=bl hN2
  replace h2l:cw x1 x2 x14 x15=some w2l:=h2l
  unfold cw at h2l
  refine ba (W_rs (kMv rfl (kMv rfl (kIn rfl rfl rfl ?_))))
  refine bc h2l rfl (fun _ h2l=>?_) (fun _ h2l=>?_)
  ·refine aw (ay (W_rs (kMv rfl (kIn rfl rfl rfl (kAs rfl (kAs rfl (ba (ay ?_))))))))
   obtain⟨z5l,hz5,h2l⟩:=aj h2l
   obtain⟨n5,hN5⟩:=bt hz5
   refine dl 4 (fun e C=>∃x19,∃x21,fc x14 x1 x2 x19 x21=some w2l/\At [(0,Pi v3),(1,P6 x1),(2,d7 Tryz.prog (gt x2)),(6,P6 x14),(7,P6 x19)] [E3 v3 al x21 47] e C) ?_ ?_
   ·rintro e C ⟨x19,x21,h2l,a⟩
    refine W_at a ?_
    unfold fc at h2l
    refine bm (fun e C=>∃x29,gc x14 x29=some w2l/\At [(0,Pi v3),(1,P6 x1),(2,d7 Tryz.prog (gt x2)),(6,P6 x14)] [E3 v3 al x29 47] e C) ?_ ?_
    ·rintro e C ⟨x29,h2l,a⟩
     refine W_at a ?_
     unfold gc at h2l
     refine W_r (kMv rfl (kIn rfl rfl rfl (kAs rfl ?_)))
     exact⟨m2,lsu,w64 (x14 * 2),x29,hn2 _ (ojs h2l),atOk⟩
    refine W_rs (kMv rfl (kMv rfl (kIn rfl rfl rfl (kAs rfl (W_rs (kMv rfl (kMv rfl (kIn rfl rfl rfl ?_))))))))
    refine bc h2l rfl (fun _ h2l=>?_) (fun _ h2l=>?_)
    ·refine W_r (kMv rfl (kMv rfl (kMv rfl (kMv rfl (kUn (hMv (out:=d7 Tryz.prog (gt x2)) rfl) ?_)))))
     obtain⟨x28,k,h2l⟩:=aj h2l
     refine nw [0] (o8 x19 (w64 (x19+x14)) x1 x2 x21 v3 _ k) (fun q C' hq=>?_)
     obtain⟨rfl,rfl⟩:=hq
     exact⟨x28,h2l,atOk⟩
    refine aw ?_
    exact⟨x21,h2l,atOk⟩
   refine fb (fun m e C=>∃x19,∃x20,∃x21,fp (fun s=>dc x1 x14 x2 s.1 s.2.1 s.2.2) m (x19,x20,x21)=some z5l/\At [(0,Pi v3),(1,P6 x1),(2,d7 Tryz.prog (gt x2)),(6,P6 x14),(7,P6 x19),(8,P6 x20)] [E3 v3 al x21 47] e C) n5 ⟨0,w64 (2 * x14),x15,hN5,⟨⟨aa,aa,aa,aa,aa,aa,tv⟩,A8.refl _⟩⟩ ?_
   rintro m e C ⟨x19,x20,x21,hN5,a⟩
   refine W_at a ?_
   obtain⟨m5,w5l,rfl,h5l,hn5,ho5⟩:=bl hN5
   replace h5l:dc x1 x14 x2 x19 x20 x21=some w5l:=h5l
   unfold dc at h5l
   refine ba (W_rs (kMv rfl (kMv rfl (kIn rfl rfl rfl ?_))))
   refine bc h5l rfl (fun _ h5l=>?_) (fun _ h5l=>?_)
   ·refine aw (ay (W_rs (kMv rfl (kMv rfl (kMv rfl (kMv rfl (kIn rfl rfl rfl (kMv rfl (kUn (hMv (out:=d7 Tryz.prog (gt x2)) rfl) ?_)))))))))
    obtain⟨x26,k,h5l⟩:=aj h5l
    refine nw [0] (o8 x19 (w64 (x19+x14)) x20 x2 x21 v3 _ k) (fun q C' hq=>?_)
    obtain⟨rfl,rfl⟩:=hq
    refine W_rs (kMv rfl (kAs rfl (W_r (kMv rfl (kMv rfl (kIn rfl rfl rfl (kIn rfl rfl rfl (kAs rfl ?_))))))))
    exact⟨m5,lsu,x20,w64 (x20+(w64 (2 * x14))),x26,hn5 _ (ojs h5l),atOk⟩
   refine ep ?_
   obtain rfl:=ho5 _ (ojs h5l)
   exact⟨x19,x21,h2l,atOk⟩
  refine ep ?_
  obtain rfl:=ho2 _ (ojs h2l)
  exact⟨x15,h,atOk⟩
 refine fb (fun m e C=>∃x5,∃x6,∃x7,fp (fun s=>cv x1 x2 s.1 s.2.1 s.2.2) m (x5,x6,x7)=some z7l/\At [(0,Pi v3),(1,P6 x1),(2,d7 Tryz.prog (gt x2)),(6,P6 20),(7,P6 x5),(8,P6 x6)] [E3 v3 al x7 47] e C) n7 ⟨0,20,x4,hN7,⟨⟨aa,aa,aa,aa,aa,aa,tv⟩,A8.refl _⟩⟩ ?_
 rintro m e C ⟨x5,x6,x7,hN7,a⟩
 refine W_at a ?_
 obtain⟨m7,w7l,rfl,h7l,hn7,ho7⟩:=bl hN7
 replace h7l:cv x1 x2 x5 x6 x7=some w7l:=h7l
 unfold cv at h7l
 refine ba (W_rs (kMv rfl (kMv rfl (kIn rfl rfl rfl ?_))))
 refine bc h7l rfl (fun _ h7l=>?_) (fun _ h7l=>?_)
 ·refine aw (ay (W_rs (kMv rfl (kMv rfl (kMv rfl (kUn (hMv (out:=d7 Tryz.prog (gt x2)) rfl) ?_))))))
  obtain⟨x12,k,h7l⟩:=aj h7l
  refine nw [0] (l8 x5 x6 x2 x7 v3 _ k) (fun q C' hq=>?_)
  obtain⟨rfl,rfl⟩:=hq
  refine W_rs (kMv rfl (kAs rfl (W_r (kMv rfl (kMv rfl (kIn rfl rfl rfl (kAs rfl ?_)))))))
  exact⟨m7,lsu,x6,w64 (x6+20),x12,hn7 _ (ojs h7l),atOk⟩
 refine ep ?_
 obtain rfl:=ho7 _ (ojs h7l)
 exact⟨x5,x7,h,atOk⟩
theorem ta (x1:(B7->B7->Option Int)) (x3:List B7) (v2:Value) (r:(List B7)) (h:dq x1 x3=some r):Fc 38 [Pi v2,d7 Tryz.prog (gt x1)] [E3 v2 al x3 47] (fun q C'=>q=bu []/\C'=[E3 v2 al r 47]):=by
 refine ic (rs:=[]) func38 rfl ntmps38 ⟨by decide,results38⟩ dcd (fun s0=>?_)
 unfold dq at h
 refine W_r (kMv rfl (kMv rfl (kUn (ax1 0 rfl underlying27) ?_)))
 refine kUn (hMv (out:=d7 Tryz.prog (gt x1)) rfl) ?_
 obtain⟨x4,k,h⟩:=aj h
 refine nw [0] (z8 (x3.length:Int) x1 x3 v2 _ k) (fun q C' hq=>?_)
 obtain⟨rfl,rfl⟩:=hq
 obtain rfl:=osj h
 exact⟨.inr rfl,_,A8.refl _,_,aa,rfl,rfl⟩
end Go.Proofs.YtcndghapmoaidaaGreatDoor
