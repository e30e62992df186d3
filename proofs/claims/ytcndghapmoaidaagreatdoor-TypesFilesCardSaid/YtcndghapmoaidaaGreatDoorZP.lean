/- The code comes to what these functions say (printed by wip/gen/gen.py). -/
import Derived.Test.YtcndghapmoaidaaGreatDoorZX
import Derived.Test.YtcndghapmoaidaaGreatDoorZT
set_option linter.unusedSimpArgs false
set_option linter.unusedVariables false
set_option linter.unusedSectionVars false
set_option linter.unusedSectionVars false
set_option maxRecDepth 100000
set_option maxHeartbeats 4000000
namespace Go.Proofs.YtcndghapmoaidaaGreatDoor
open Go Go.Cn Tryz
attribute [local irreducible] g0 ap
theorem ae0 (x1 x2:Int) (x4:B5) (b3:Nat) (v5:Value) (b6:Nat) (r:B5) (h:pz x1 x2 x4=some r):Fc 158 [Pr.pt b3 0,P6 x1,P6 x2] [D9 b3 a8 (D3.mk v5 (.map (some b6)) x4.m),E6 v5 ag x4.l 49,E7 b6 en Rp.bool x4.known] (fun q C'=>∃w100,q=br []/\C'=[D9 b3 a8 (D3.mk w100 (.map (some b6)) r.m),E6 w100 ag r.l 49,E7 b6 en Rp.bool r.known]):=by
 refine i0 (rs:=[]) func158 rfl ntmps158 ⟨by decide,results158⟩ dcd (fun s0=>?_)
 unfold pz at h
 refine W_r (kMv rfl (kMv rfl (kMv rfl (kUn (jm st30 ⟨(B4.mk 150 0 0),⟨_,rfl,rfl,qbj⟩,⟨(B4.mk 150 x1 0),⟨_,rfl,rfl,qbj⟩,⟨(B4.mk 150 x1 x2),⟨_,rfl,rfl,qbj⟩,rfl⟩⟩⟩) ?_))))
 refine kNp rfl (kUn (ak aw2) ?_)
 refine av 0 rfl rfl alf rfl sizeOf30 ?_
 refine rCtx [D9 b3 a8 (D3.mk v5 (.map (some b6)) (B4.mk 150 x1 x2)),E6 v5 ag x4.l 49,E7 b6 en Rp.bool x4.known] ?_
 obtain rfl:=osj h
 exact⟨.inr rfl,_,A9.refl _,_,aa,v5,rfl,rfl⟩
theorem aag (x1:B0) (x3:B5) (b2:Nat) (v4:Value) (b5:Nat) (r:Bool × B5) (h:pa x1 x3=some r):Fc 120 [Pr.pt b2 0,(ag).val x1] [D9 b2 a8 (D3.mk v4 (.map (some b5)) x3.m),E6 v4 ag x3.l 49,E7 b5 en Rp.bool x3.known] (fun q C'=>∃w100,q=Pb r.1/\C'=[D9 b2 a8 (D3.mk w100 (.map (some b5)) r.2.m),E6 w100 ag r.2.l 49,E7 b5 en Rp.bool r.2.known]):=by
 refine i0 (rs:=[4]) func120 rfl ntmps120 ⟨by decide,results120⟩ dcd (fun s0=>?_)
 let p1:=D3.mk v4 (.map (some b5)) x3.m
 let p2:=B3.mk x1.Kind x1.Owner x1.Name
 let p3:=E7 b5 en Rp.bool (gset p2 true x3.known)
 unfold pa at h
 refine W_rs ?_
 refine rBox (R:=ag) (a:=x1) rfl (fun b6=>?_)
 let p4:=D9 b6 ag x1
 refine kAs rfl (W_rs (kUn (ak vc) ?_))
 refine kUn (au 3 ty3 fg) ?_
 refine kUn (ak ama) ?_
 refine kUn (au 3 ty9 qd) ?_
 refine kUn (ak ahi) ?_
 refine kUn (au 3 ty9 lm) ?_
 refine kUn (jm st187 ⟨(B3.mk x1.Kind [] []),⟨_,rfl,rfl,qbj⟩,⟨(B3.mk x1.Kind x1.Owner []),⟨_,rfl,rfl,qbj⟩,⟨p2,⟨_,rfl,rfl,qbj⟩,rfl⟩⟩⟩) ?_
 refine bw al187 fun b7=>av 4 rfl rfl (Upd.refl _) rfl sizeOf187 (a7 ?_)
 let p5:=D9 b7 en p2
 refine bo (fun e C=>uy x1 x3=some r/\At [(0,Pr.pt b2 0),(3,Pr.pt b6 0),(5,Pr.pt b7 0),(18,Pb (gget p2 false x3.known))] [D9 b2 a8 p1,E6 v4 ag x3.l 49,E7 b5 en Rp.bool x3.known,p4,p5] e C) ?_ ?_
 ·rintro e C ⟨h,a⟩
  refine W_at a ?_
  unfold uy at h
  refine a6 h rfl (fun _ h=>?_) (fun _ h=>?_)
  ·refine W_rs (kMv rfl (kUn (ak aoc) ?_))
   refine kUn (au 3 ty3 aa5) ?_
   refine kUn (ak avq) ?_
   refine kUn (au 3 ty3 aes) ?_
   obtain⟨x9,k,h⟩:=ah h
   refine oy [0,1,2] (ae0 x1.File x1.At x3 b2 v4 b5 _ k) (fun q C' hq=>?_)
   obtain⟨v10,rfl,rfl⟩:=hq
   refine rCtx [D9 b2 a8 (D3.mk v10 (.map (some b5)) x9.m),E6 v10 ag x9.l 49,E7 b5 en Rp.bool x9.known,p4,p5] ?_
   refine W_rs (kAs rfl ?_)
   obtain rfl:=osj h
   exact bg ⟨.inl rfl,_,A9.of [0,1,2] rfl,_,(aa),v10,rfl,rfl⟩
  refine ay ?_
  refine bo (fun e C=>uz x3 x1=some r/\At [(0,Pr.pt b2 0),(3,Pr.pt b6 0)] [D9 b2 a8 p1,E6 v4 ag x3.l 49,p3,p4,p5] e C) ?_ ?_
  ·rintro e C ⟨h,a⟩
   refine W_at a ?_
   unfold uz at h
   refine bo (fun e C=>∃x11,∃v12,u4 x1 x3 x11=some r/\At [(0,Pr.pt b2 0)] [D9 b2 a8 (D3.mk v12 (.map (some b5)) x3.m),E6 v12 ag x11 49,p3,p4,p5] e C) ?_ ?_
   ·rintro e C ⟨x11,v12,h,a⟩
    refine W_at a ?_
    unfold u4 at h
    refine W_rs (kAs rfl ?_)
    obtain rfl:=osj h
    exact bg ⟨.inl rfl,_,A9.of [0,1,2] rfl,_,(aa),v12,rfl,rfl⟩
   obtain⟨x11,k,h⟩:=ah h
   refine aec [0,0,2,6,14,0,32,126,255,511,1023] [[],[],[],[],[D9 b2 a8 p1],[p4],[],[],[],[],[]] hmx kr kr kr rfl ?_
   refine aq0 0 1 (out:=Pr.pt b2 0) rfl (fun C9=>gz) ?_
   refine aq0 1 3 (out:=Pr.pt b2 0) rfl (fun C9=>gz) ?_
   refine aq0 2 7 (out:=Pr.pt b2 0) rfl (fun C9=>aia) ?_
   refine aq0 3 15 (out:=Pr.pt b2 0) rfl (fun C9=>(ak aky)) ?_
   refine aq1 4 31 0 (out:=Pi v4) rfl rfl (fun C9 i9 h9=>(abc (R:=a8) (a:=p1) i9 ty38 aae (hi:=h9))) ?_
   refine aq1 5 63 3 (out:=(ag).val x1) rfl rfl (fun C9 i9 h9=>(au (R:=ag) (a:=x1) (R':=ag) i9 ty49 (Sub.refl _) (hi:=h9))) ?_
   refine aq0 6 127 (out:=ap ag ([x1]:List B0)) rfl (fun C9=>(cq (R:=ag) (a:=x1) el38 nb)) ?_
   refine ae 7 255 rfl (fun g9=>?_)
   refine ik 1 el38 k (fun v12=>?_)
   refine oz _ [] fv ?_
   refine aq0 8 511 (out:=Pr.pt b2 0) rfl (fun C9=>aia) ?_
   refine aq0 9 1023 (out:=Pr.pt b2 0) rfl (fun C9=>(ak aky)) ?_
   refine ae 10 2047 rfl (fun g9=>?_)
   refine ail (R:=a8) (a:=p1) 0 1 sizeOf38 afm ?_
   refine rCtx [D9 b2 a8 (D3.mk v12 (.map (some b5)) x3.m),E6 v12 ag x11 49,p3,p4,p5] ?_
   refine oz .any [] fv ?_
   refine agx ?_
   exact⟨x11,v12,h,atOk⟩
  refine i8 5 hmx kr kr ?_
  refine lUn (hMvA rfl) (lUn (aia rfl) (lUn (ak aw3) ?_))
  refine lUn (abc (R:=a8) (a:=p1) 0 ty116 aao) ?_
  refine lUn (au 4 ty187 (Sub.refl _)) ?_
  refine a1c (Rk:=en) (R:=Rp.bool) (m:=x3.known) (kx:=p2) (v:=true) 2 ao5 underlying116 ?_
  exact⟨h,atOk⟩
 refine i8 6 hmx kr kr ?_
 refine lUn (hMvA rfl) (lUn (aia rfl) (lUn (ak aw3) ?_))
 refine lUn (abc (R:=a8) (a:=p1) 0 ty116 aao) ?_
 refine lUn (au 4 ty187 (Sub.refl _)) ?_
 refine lUn (a1d (Rk:=en) (R:=Rp.bool) (m:=x3.known) (kx:=p2) (z:=false) 2 ao5 underlying116 zeroValue4 (fun _=>rfl)) ?_
 exact⟨h,atOk⟩
theorem agp (x1:Bt) (r:Bt) (h:vf x1=some r):Fp 121 [Pr.str x1] (Pr.str r):=by
 refine dv (rs:=[2]) func121 rfl ntmps121 ⟨by decide,results121⟩ dcd (fun s0=>?_)
 unfold vf at h
 refine W_rs (kAs rfl (W_rs (kMv rfl (kAs rfl ?_))))
 obtain rfl:=osj h
 exact bg ⟨rfl,aa⟩
theorem agn (x1 x2:Bt) (r:Bt) (h:yq x1 x2=some r):Fp 122 [Pr.str x1,Pr.str x2] (Pr.str r):=by
 refine dv (rs:=[4]) func122 rfl ntmps122 ⟨by decide,results122⟩ dcd (fun s0=>?_)
 unfold yq at h
 refine W_rs (kAs rfl (W_rs (kMv rfl ?_)))
 obtain⟨x3,k,h⟩:=ah h
 refine kUn (alx k) ?_
 refine kMv rfl ?_
 obtain⟨x4,k,h⟩:=ah h
 refine kUn (alx k) ?_
 refine kAs rfl ?_
 obtain rfl:=osj h
 exact bg ⟨rfl,aa⟩
theorem aew (x1 x2:Bt) (r:Bt) (h:vl x1 x2=some r):Fp 76 [Pr.str x1,Pr.str x2] (Pr.str r):=by
 refine dv (rs:=[4]) func76 rfl ntmps76 ⟨by decide,results76⟩ dcd (fun s0=>?_)
 unfold vl at h
 refine W_rs (kAs rfl (W_rs (kMv rfl (kMv rfl (c8 h (agn x1 x2) rfl fun x3 _ h=>?_)))))
 obtain⟨x4,k,h⟩:=ah h
 refine kUn (alx k) ?_
 refine kAs rfl ?_
 obtain rfl:=osj h
 exact bg ⟨rfl,aa⟩
theorem ahd (x1:Int) (r:Bt) (h:qt x1=some r):Fp 163 [P6 x1] (Pr.str r):=by
 refine dv (rs:=[2]) func163 rfl ntmps163 ⟨by decide,results163⟩ dcd (fun s0=>?_)
 unfold qt at h
 refine W_rs (kAs rfl (W_rs (kMv rfl (c8 h (adl x1 10) rfl fun x2 _ h=>kAs rfl ?_))))
 obtain rfl:=osj h
 exact bg ⟨rfl,aa⟩
theorem aph (x1:Int) (r:Bt) (h:afa x1=some r):Fp 128 [P6 x1] (Pr.str r):=by
 refine dv (rs:=[2]) func128 rfl ntmps128 ⟨by decide,results128⟩ dcd (fun s0=>?_)
 unfold afa at h
 refine W_rs (kAs rfl (W_rs (kMv rfl (c8 h (ahd x1) rfl fun x2 _ h=>kAs rfl ?_))))
 obtain rfl:=osj h
 exact bg ⟨rfl,aa⟩
theorem agm (x1:Bt) (x2:Int) (r:Bt) (h:ve x1 x2=some r):Fp 75 [Pr.str x1,P6 x2] (Pr.str r):=by
 refine dv (rs:=[4]) func75 rfl ntmps75 ⟨by decide,results75⟩ dcd (fun s0=>?_)
 unfold ve at h
 refine W_rs (kAs rfl (W_rs (kMv rfl ?_)))
 obtain⟨x3,k,h⟩:=ah h
 refine kUn (alx k) ?_
 refine kMv rfl (kUn (qMax (a:=x2) (b:=0)) ?_)
 refine c8 h (aph (if 0>x2 then 0 else x2)) rfl fun x4 _ h=>?_
 obtain⟨x5,k,h⟩:=ah h
 refine kUn (alx k) ?_
 refine kAs rfl ?_
 obtain rfl:=osj h
 exact bg ⟨rfl,aa⟩
theorem ah0 (x1:B6) (x3:List B0) (x6:B0) (b2:Nat) (v4:Value) (b5:Nat) (v7:Value) (r:(List B0) × B0) (h:od x1 x3 x6=some r):Fc 159 [(af).val x1,Pr.pt b2 0,Pr.pt b5 0] [A4.cell b2 (Pi v4),E6 v4 ag x3 49,D9 b5 bu (D4.mk x6.Kind x6.Id x6.Name x6.Owner x6.Type_ x6.Static v7 x6.File x6.At),E6 v7 Rp.str x6.Params 9] (fun q C'=>∃w0 w201,q=br []/\C'=[A4.cell b2 (Pi w0),E6 w0 ag r.1 49,D9 b5 bu (D4.mk r.2.Kind r.2.Id r.2.Name r.2.Owner r.2.Type_ r.2.Static w201 r.2.File r.2.At),E6 w201 Rp.str r.2.Params 9]):=by
 refine i0 (rs:=[]) func159 rfl ntmps159 ⟨by decide,results159⟩ dcd (fun s0=>?_)
 unfold od at h
 refine W_rs ?_
 refine rBox (R:=af) (a:=x1) rfl (fun b8=>?_)
 refine i8 18 hmx kr kr ?_
 refine lUn (awg 0 Tryz.isAgg38) ?_
 refine lUn (ak s5) ?_
 refine lUn (au 2 ty9 ur) ?_
 refine lUn (awg 0 Tryz.isAgg38) ?_
 refine lUn (aye 1 rfl underlying38) ?_
 obtain⟨x9,k,h⟩:=ah h
 let p1:=B0.mk 4 x9 x1.Text x6.Id x1.Type_ false [] x6.File x1.At
 refine lUn (dz (agm x6.Id (x3.length:Int) _ k)) ?_
 refine lUn (ak ie) ?_
 refine lUn (au 4 ty9 cd) ?_
 refine lUn (ak s5) ?_
 refine lUn (au 2 ty9 ur) ?_
 refine lUn (ak ws) ?_
 refine lUn (au 4 ty9 gm) ?_
 refine lUn (ak aoc) ?_
 refine lUn (au 2 ty3 adq) ?_
 refine lUn (ak ru) ?_
 refine lUn (au 4 ty3 ip) ?_
 refine lUn (jm st49 ⟨(B0.mk 4 [] [] [] [] false [] 0 0),⟨_,rfl,rfl,qbj⟩,⟨(B0.mk 4 x9 [] [] [] false [] 0 0),⟨_,rfl,rfl,qbj⟩,⟨(B0.mk 4 x9 x1.Text [] [] false [] 0 0),⟨_,rfl,rfl,qbj⟩,⟨(B0.mk 4 x9 x1.Text x6.Id [] false [] 0 0),⟨_,rfl,rfl,qbj⟩,⟨(B0.mk 4 x9 x1.Text x6.Id x1.Type_ false [] 0 0),⟨_,rfl,rfl,qbj⟩,⟨(B0.mk 4 x9 x1.Text x6.Id x1.Type_ false [] x6.File 0),⟨_,rfl,rfl,qbj⟩,⟨p1,⟨_,rfl,rfl,qbj⟩,rfl⟩⟩⟩⟩⟩⟩⟩) ?_
 refine lUn (cq (R:=ag) (a:=p1) el38 nb) ?_
 obtain⟨x10,k,h⟩:=ah h
 refine ik 1 el38 k (fun v11=>?_)
 refine ar5 0 1 sizeOf38 ?_
 obtain rfl:=osj h
 exact⟨.inr rfl,_,A9.of [0,1,2,3] rfl,_,aa,v11,v7,rfl,rfl⟩
def afp {σ:Type} (yld:σ->B6->Option (Bool × σ)) (Y:YI σ) (l:Nat) (R:l8 σ):Prop:=∀(x1:B6) (x2:σ) (v3:List Nat) (r:Bool × (σ)),R x1 x2=some r->Fc 184 [(af).val x1,ae4 l] [E5 Y x2 v3] (fun q C'=>∃w9,q=Pb r.1/\C'=[E5 Y r.2 w9])
theorem anh {σ:Type} (yld:σ->B6->Option (Bool × σ)) (Y:YI σ) (l:Nat) (hY:YOK Tryz.prog Y l (fun a=>[(af).val a]) yld) (R:l8 σ) (ih:afp yld Y l R) (x1:B6) (x2:σ) (v3:List Nat) (r:Bool × (σ)) (h:aer yld R x1 x2=some r):Fc 184 [(af).val x1,ae4 l] [E5 Y x2 v3] (fun q C'=>∃w9,q=Pb r.1/\C'=[E5 Y r.2 w9]):=by
 refine i0 (rs:=[4]) func184 rfl ntmps184 ⟨by decide,results184⟩ dcd (fun s0=>?_)
 unfold aer at h
 refine W_rs ?_
 refine rBox (R:=af) (a:=x1) rfl (fun b4=>?_)
 refine kAs rfl (a7 (W_rs (kUn (hMv (out:=ae4 l) rfl) (kUn (au 1 ty64 (Sub.refl _)) ?_))))
 obtain⟨⟨x5,x6⟩,k,h⟩:=ah h
 refine ayk 0 (a:=(x1)) hY k (fun v7=>?_)
 refine kNo rfl ?_
 refine a6 h rfl (fun _ h=>?_) (fun _ h=>?_)
 ·refine W_rs (kAs rfl ?_)
  obtain rfl:=osj h
  exact bg ⟨.inl rfl,_,A9.of [0] rfl,_,(aa),v7,rfl,rfl⟩
 refine ay (a7 (W_rs (kUn (ak ic) ?_)))
 refine kUn (au 1 ty53 bt) ?_
 refine kUn (mg rfl underlying53) ?_
 refine kMv rfl (a5 ?_)
 obtain⟨z2l,hz2,h⟩:=ah h
 obtain⟨n2,hN2⟩:=bv hz2
 refine di 0 (fun e C=>∃x10,∃v11,aiy yld R x10=some r/\At [] [E5 Y x10 v11,D9 b4 af x1] e C) ?_ ?_
 ·rintro e C ⟨x10,v11,h,a⟩
  refine W_at a ?_
  unfold aiy at h
  refine W_rs (kAs rfl ?_)
  obtain rfl:=osj h
  exact bg ⟨.inl rfl,_,A9.of [0] rfl,_,(aa),v11,rfl,rfl⟩
 refine ek (fun m e C=>∃x9,∃x10,∃v11,fq (fun s=>sx yld R x1 s.1 s.2) m (x9,x10)=some z2l/\At [(1,ae4 l),(12,ap af x1.Kids),(13,P6 (x1.Kids.length:Int)),(14,P6 x9)] [E5 Y x10 v11,D9 b4 af x1] e C) n2 ⟨0,x6,v7,hN2,⟨⟨aa,aa,aa,aa,tv⟩,A9.refl _⟩⟩ ?_
 rintro m e C ⟨x9,x10,v11,hN2,a⟩
 refine W_at a ?_
 obtain⟨m2,w2l,rfl,h2l,hn2,ho2⟩:=bm hN2
 replace h2l:sx yld R x1 x9 x10=some w2l:=h2l
 unfold sx at h2l
 refine W_rs (kIn rfl rfl rfl (a7 ?_))
 refine a6 h2l rfl (fun _ h2l=>?_) (fun _ h2l=>?_)
 ·refine ay (a7 (a5 (W_rs ?_)))
  obtain⟨x16,k,h2l⟩:=ah h2l
  refine kUn (fo underlying53 sizeOf64 k) ?_
  refine kUn (cz ty64) ?_
  refine bw al64 fun b17=>av 2 rfl rfl (Upd.refl _) rfl sizeOf64 (W_rs (kUn (au 2 ty64 (Sub.refl _)) ?_))
  refine kUn (hMv (out:=ae4 l) rfl) ?_
  obtain⟨⟨x18,x19⟩,k,h2l⟩:=ah h2l
  refine oy [0] (ih x16 x10 v11 _ k) (fun q C' hq=>?_)
  obtain⟨v20,rfl,rfl⟩:=hq
  refine kNo rfl ?_
  refine a6 h2l rfl (fun _ h2l=>?_) (fun _ h2l=>?_)
  ·refine W_rs (kAs rfl ?_)
   obtain rfl:=ho2 _ (ojs h2l)
   replace h:some (false,x19)=some r:=h
   obtain rfl:=osj h
   exact bg ⟨.inl rfl,_,A9.of [0] rfl,_,(aa),v20,rfl,rfl⟩
  refine ay (W_r (kIn rfl rfl rfl (kMv rfl ?_)))
  exact⟨m2,lsu,w64 (x9+1),x19,v20,hn2 _ (ojs h2l),⟨⟨aa,aa,aa,aa,tv⟩,A9.of [0,1] rfl⟩⟩
 refine ej ?_
 obtain rfl:=ho2 _ (ojs h2l)
 exact⟨x10,v11,h,atOk⟩
theorem anf {σ:Type} (yld:σ->B6->Option (Bool × σ)) (Y:YI σ) (l:Nat) (hY:YOK Tryz.prog Y l (fun a=>[(af).val a]) yld):∀n,afp yld Y l (oa yld n):=by
 intro n
 induction n with
 |zero=>exact(fun x1 x2 v3 r h=>nomatch (show none=some r from h))
 |succ n ih=>exact(fun x1 x2 v3 r h=>anh yld Y l hY (oa yld n) ih x1 x2 v3 r h)
theorem aur {σ:Type} (yld:σ->B6->Option (Bool × σ)) (Y:YI σ) (l:Nat) (hY:YOK Tryz.prog Y l (fun a=>[(af).val a]) yld) (x1:B6) (x2:σ) (v3:List Nat) (r:Bool × (σ)) (h:aom yld x1 x2=some r):Fc 184 [(af).val x1,ae4 l] [E5 Y x2 v3] (fun q C'=>∃w9,q=Pb r.1/\C'=[E5 Y r.2 w9]):=anf yld Y l hY 1048576 x1 x2 v3 r h
theorem apu {σ:Type} (yld:σ->B6->Option (Bool × σ)) (Y:YI σ) (l:Nat) (hY:YOK Tryz.prog Y l (fun a=>[(af).val a]) yld) (x2:B6) (x3:σ) (b1:Nat) (v4:List Nat) (r:B6 × (σ)) (h:afi yld x2 x3=some r):Fc 183 ([]++[ae4 l]++[Pr.pt b1 0]) ([D9 b1 af x2]++[E5 Y x3 v4]) (fun _ C'=>∃w9,C'=[D9 b1 af r.1]++[E5 Y r.2 w9]):=by
 refine i0 (rs:=[]) func183 rfl ntmps183 ⟨by decide,results183⟩ dcd (fun s0=>?_)
 unfold afi at h
 refine W_r (kUn (au 0 ty64 (Sub.refl _)) ?_)
 refine kUn (hMv (out:=ae4 l) rfl) ?_
 obtain⟨⟨x5,x6⟩,k,h⟩:=ah h
 refine oy [1] (aur yld Y l hY x2 x3 v4 _ k) (fun q C' hq=>?_)
 obtain⟨v7,rfl,rfl⟩:=hq
 obtain rfl:=osj h
 exact⟨.inr rfl,_,A9.of [1,0] rfl,_,aa,v7,rfl⟩
theorem atd (x1:B6):Fc 175 [(af).val x1] [] (fun q C'=>∃b2,q=oc 183 [] [Pr.pt b2 0]/\C'=[D9 b2 af x1]):=by
 refine i0 (rs:=[2]) func175 rfl ntmps175 ⟨by decide,results175⟩ dcd (fun s0=>?_)
 refine W_rs ?_
 refine rBox (R:=af) (a:=x1) rfl (fun b2=>?_)
 refine kAs rfl (W_rs (kUn rv ?_))
 refine kUn (hAs (out:=oc 183 [] [Pr.pt b2 0]) rfl) ?_
 exact bg ⟨.inl rfl,_,A9.refl _,_,aa,b2,rfl,rfl⟩
theorem av2 (x1:B6) (x2:Int) (r:(List B6)) (h:akx x1 x2=some r):Fp 160 [(af).val x1,P6 x2] (ap af r):=by
 refine dv (rs:=[4]) func160 rfl ntmps160 ⟨by decide,results160⟩ dcd (fun s0=>?_)
 unfold akx at h
 refine W_rs ?_
 refine rBox (R:=af) (a:=x1) rfl (fun b3=>?_)
 refine rBox (R:=Rp.int .i64) (a:=x2) rfl (fun b4=>?_)
 refine kAs rfl (W_rs ?_)
 refine ay5 zeroValue53 rfl rfl (fun b5=>?_)
 refine a0w ?_
 refine W_r (kUn (au 0 ty64 (Sub.refl _)) ?_)
 refine oy [] (atd x1) (fun q C' hq=>?_)
 obtain⟨b6,rfl,rfl⟩:=hq
 refine⟨rfl,?_⟩
 obtain⟨⟨x496,x497⟩,k,h⟩:=ah h
 refine WR_vec af 64 ?_
 refine W_range [0] (fun(s:(List B6)) C=>∃v8,C=[D9 b3 af x1,D9 b4 (Rp.int .i64) x2,A4.cell b5 (Pi v8),E6 v8 af s 64]) (encs:=(fun(a:B6)=>[(af).val a])) (yld:=(fun(s:(List B6)) (a:B6)=>ael x2 s a)) (st0:=[]) (stF:=x497) (Ccap':=[D9 b6 af x496]) (fun l Y L hY=>apu _ Y l hY x1 [] b6 L _ k) ⟨(.slice none 0 0),rfl⟩ (fun _=>rfl) ?_ ?_ (fun _ _ _ h=>h.1)
 ·rintro l x9 x7 ⟨rb1,rs1⟩ C T s0 ⟨v8,rfl⟩ hy1
  replace hy1:ael x2 x9 x7=some (rb1,rs1):=hy1
  unfold ael at hy1
  refine W_r (bw al64 fun b12=>av 4 rfl rfl (Upd.refl _) rfl sizeOf64 ?_)
  refine⟨rfl,fun T s0=>?_⟩
  refine aog ?_
  refine a5 ?_
  refine bo (fun e C=>∃x14,aem x9 x7 x14=some (rb1,rs1)/\At [(5,Pr.pt b5 0),(6,Pr.pt b12 0),(17,Pb x14)] [D9 b3 af x1,D9 b4 (Rp.int .i64) x2,A4.cell b5 (Pi v8),E6 v8 af x9 64,D9 b12 af x7] e C) ?_ ?_
  ·rintro e C ⟨x14,hy1,a⟩
   refine W_at a ?_
   unfold aem at hy1
   refine a6 hy1 rfl (fun _ hy1=>?_) (fun _ hy1=>?_)
   ·obtain⟨x256,hx256,hy1⟩:=ah hy1
    obtain⟨x316,k,hy1⟩:=ah hy1
    refine aec [0,0,1,0,15,31,63,31] [[A4.cell b5 (Pi v8)],[D9 b12 af x7],[E6 v8 af x9 64],[],[],[],[],[]] hmx kr kr kr rfl ?_
    refine aq1 0 1 2 (out:=Pi v8) rfl rfl (fun C9 i9 h9=>(awg i9 Tryz.isAgg53 (hi:=h9))) ?_
    refine aq1 1 3 4 (out:=(af).val x7) rfl rfl (fun C9 i9 h9=>(au (R:=af) (a:=x7) (R':=af) i9 ty64 (Sub.refl _) (hi:=h9))) ?_
    refine aq1 2 7 3 (out:=P6 (x9.length:Int)) rfl rfl (fun C9 i9 h9=>(aye i9 rfl underlying53 (hi:=h9))) ?_
    refine aq0 3 15 (out:=ap af ([(B6.mk 0 [] [] 0 0 0 0 0 [])]:List B6)) rfl (fun C9=>((a1f (R:=af) (z:=(B6.mk 0 [] [] 0 0 0 0 0 [])) el53 nb rfl rfl dcd (fun _=>(by rw[ba];exact⟨_,⟨_,_,rfl,rfl,⟨_,_,rfl,rfl,⟨_,_,rfl,rfl,⟨_,_,rfl,rfl,⟨_,_,rfl,rfl,⟨_,_,rfl,rfl,⟨_,_,rfl,rfl,⟨_,_,rfl,rfl,⟨_,_,rfl,⟨_,rfl,none,0,rfl,⟨Nat.le_refl _,fun _=>rfl⟩,.inl rfl⟩,rfl⟩⟩⟩⟩⟩⟩⟩⟩⟩,rfl⟩))).out_le vx_lst)) ?_
    refine ae 4 31 rfl (fun g9=>?_)
    refine ik 3 el53 hx256 (fun v257=>?_)
    refine oz _ [] fv ?_
    refine a_any [5,7] ⟨?_,?_,tv⟩
    ·skip
     refine ae1 5 63 rfl (fun g9=>?_)
     refine kUn (zd 3 (R:=af) (l:=x256) underlying53 sizeOf64 k) ?_
     refine oz _ [] fv ?_
     refine a_any [6,7] ⟨?_,?_,tv⟩
     ·refine ae1 6 127 rfl (fun g9=>?_)
      refine aeb (R:=af) (R':=af) (l:=x256) (a:=x316) (y:=x7) (o:=0) 3 sizeOf64 (Upd.refl _) k rfl ?_
      refine oz .any [] fv ?_
      refine ae 7 255 rfl (fun g9=>?_)
      refine ar5 2 3 sizeOf53 ?_
      refine oz .any [] fv ?_
      refine agx ?_
      obtain⟨rfl,rfl⟩:=Prod.mk.inj (Option.some.inj hy1)
      exact⟨_,A9.of [0,1,2,3] rfl,rfl,rfl,v257,rfl⟩
     refine ae1 7 191 rfl (fun g9=>?_)
     refine ar5 2 3 sizeOf53 ?_
     refine oz .any [] fv ?_
     refine ae 6 255 rfl (fun g9=>?_)
     refine aeb (R:=af) (R':=af) (l:=x256) (a:=x316) (y:=x7) (o:=0) 3 sizeOf64 (Upd.refl _) k rfl ?_
     refine oz .any [] fv ?_
     refine agx ?_
     obtain⟨rfl,rfl⟩:=Prod.mk.inj (Option.some.inj hy1)
     exact⟨_,A9.of [0,1,2,3] rfl,rfl,rfl,v257,rfl⟩
    refine ae1 7 159 rfl (fun g9=>?_)
    refine ar5 2 3 sizeOf53 ?_
    refine oz .any [] fv ?_
    refine ae 5 191 rfl (fun g9=>?_)
    refine kUn (zd 3 (R:=af) (l:=x256) underlying53 sizeOf64 k) ?_
    refine oz _ [] fv ?_
    refine ae 6 255 rfl (fun g9=>?_)
    refine aeb (R:=af) (R':=af) (l:=x256) (a:=x316) (y:=x7) (o:=0) 3 sizeOf64 (Upd.refl _) k rfl ?_
    refine oz .any [] fv ?_
    refine agx ?_
    obtain⟨rfl,rfl⟩:=Prod.mk.inj (Option.some.inj hy1)
    exact⟨_,A9.of [0,1,2,3] rfl,rfl,rfl,v257,rfl⟩
   refine ay ?_
   obtain⟨rfl,rfl⟩:=Prod.mk.inj (Option.some.inj hy1)
   exact⟨_,A9.of [0,1,2,3] rfl,rfl,rfl,v8,rfl⟩
  refine W_r (kUn (au 1 ty3 (Sub.refl _)) ?_)
  refine kIn rfl rfl rfl (kMv rfl ?_)
  rcases cc hy1 with⟨hc13,hy1⟩|⟨hc13,hy1⟩
  ·refine skx ?_
   refine kPt rfl hc13 rfl ?_
   exact⟨true,hy1,atOk⟩
  refine kGd rfl aa hc13 (ak f4) ?_
  refine kGd rfl aa hc13 (au 4 ty3 bc) ?_
  refine kGd rfl aa hc13 (au 1 ty3 (Sub.refl _)) ?_
  refine kGd rfl aa hc13 (qInt rfl rfl rfl) (kPf rfl hc13 rfl ?_)
  exact⟨x7.Kind==x2,hy1,atOk⟩
 rintro D C' T s0 ⟨v8,rfl⟩
 refine W_rs (kUn (awg 3 Tryz.isAgg53) ?_)
 refine kAs rfl ?_
 refine ar0 4 [4] ?_ rfl ⟨rfl,tv⟩
 obtain rfl:=osj h
 exact bg ⟨rfl,aa⟩
def adt (R:gh):Prop:=(∀(x1:B6) (x3:SMap Bool) (b2:Nat) (r:B6 × Bool),R x1 x3=some r->Fc 161 [(af).val x1,qy b2] [E4 b2 Rp.bool x3] (fun q C'=>q=br [(af).val r.1,Pb r.2]/\C'=[E4 b2 Rp.bool x3]))
theorem alw (R:gh) (ih:adt R) (x1:B6) (x3:SMap Bool) (b2:Nat) (r:B6 × Bool) (h:zx R x1 x3=some r):Fc 161 [(af).val x1,qy b2] [E4 b2 Rp.bool x3] (fun q C'=>q=br [(af).val r.1,Pb r.2]/\C'=[E4 b2 Rp.bool x3]):=by
 refine arl (rs:=[.cell 4 64,.tmp 5]) func161 rfl ntmps161 results161 dcd (fun s0=>?_)
 let p1:=B6.mk 0 [] [] 0 0 0 0 0 []
 let p2:=E4 b2 Rp.bool x3
 unfold zx at h
 refine W_rs ?_
 refine rBox (R:=af) (a:=x1) rfl (fun b4=>?_)
 let p3:=D9 b4 af x1
 refine bw al64 fun b5=>kAs rfl (W_rs (kUn (hMv (out:=qy b2) rfl) ?_))
 let p4:=D9 b5 af p1
 obtain⟨x6,k,h⟩:=ah h
 refine oy [0] (ate x3 b2 _ k) (fun q C' hq=>?_)
 obtain⟨b7,rfl,rfl⟩:=hq
 refine kUn (hAs (out:=qy b7) rfl) (a7 (W_rs (kUn (ak ic) ?_)))
 refine kUn (au 2 ty53 bt) ?_
 refine kUn (mg rfl underlying53) ?_
 refine kMv rfl (a5 ?_)
 obtain⟨z2l,hz2,h⟩:=ah h
 obtain⟨n2,hN2⟩:=bv hz2
 refine di 0 (fun e C=>∃x9,agk R x9=some r/\At [(1,qy b2),(4,Pr.pt b5 0)] [E4 b7 Rp.bool x9,p2,p3,p4] e C) ?_ ?_
 ·rintro e C ⟨x9,h,a⟩
  refine W_at a ?_
  unfold agk at h
  refine W_rs (kUn (fr ba st64 rfl) ?_)
  refine av 3 rfl rfl (Upd.refl _) rfl sizeOf64 (kAs rfl ?_)
  obtain rfl:=osj h
  exact bg ⟨.inl rfl,[(af).val p1,Pb false],⟨yBox 3 ty64 aa,yT aa,tv⟩,_,A9.of [1] rfl,rfl,rfl⟩
 refine ek (fun m e C=>∃x8,∃x9,fq (fun s=>ov R x1 s.1 s.2) m (x8,x9)=some z2l/\At [(1,qy b2),(4,Pr.pt b5 0),(6,qy b7),(15,ap af x1.Kids),(16,P6 (x1.Kids.length:Int)),(17,P6 x8)] [E4 b7 Rp.bool x9,p2,p3,p4] e C) n2 ⟨0,x6,hN2,⟨⟨aa,aa,aa,aa,aa,aa,tv⟩,A9.refl _⟩⟩ ?_
 rintro m e C ⟨x8,x9,hN2,a⟩
 refine W_at a ?_
 obtain⟨m2,w2l,rfl,h2l,hn2,ho2⟩:=bm hN2
 replace h2l:ov R x1 x8 x9=some w2l:=h2l
 unfold ov at h2l
 refine W_rs (kIn rfl rfl rfl (a7 ?_))
 refine a6 h2l rfl (fun _ h2l=>?_) (fun _ h2l=>?_)
 ·refine ay ?_
  refine bo (fun e C=>∃x25,∃x13,∃x20,∃b14,∃b22,xp R x8 x25 x13 x20=some w2l/\At [(1,qy b2),(4,Pr.pt b5 0),(6,qy b7),(15,ap af x1.Kids),(16,P6 (x1.Kids.length:Int)),(17,P6 x8)] [E4 b7 Rp.bool x25,p2,p3,p4,D9 b14 af x13,D9 b22 af x20] e C) ?_ ?_
  ·rintro e C ⟨x25,x13,x20,b14,b22,h2l,a⟩
   refine W_at a ?_
   unfold xp at h2l
   refine W_r (kIn rfl rfl rfl (kMv rfl ?_))
   exact⟨m2,lsu,w64 (x8+1),x25,hn2 _ (ojs h2l),⟨⟨aa,aa,aa,aa,aa,aa,tv⟩,A9.of [0,1,2,3] rfl⟩⟩
  refine a5 (W_rs ?_)
  obtain⟨x13,k,h2l⟩:=ah h2l
  refine kUn (fo underlying53 sizeOf64 k) ?_
  refine kUn (cz ty64) ?_
  refine bw al64 fun b14=>av 4 rfl rfl (Upd.refl _) rfl sizeOf64 ?_
  refine bo (fun e C=>∃x16,ul R x13 x9 x8 x16=some w2l/\At [(1,qy b2),(4,Pr.pt b5 0),(6,qy b7),(8,Pr.pt b14 0),(9,Pb x16),(15,ap af x1.Kids),(16,P6 (x1.Kids.length:Int)),(17,P6 x8)] [E4 b7 Rp.bool x9,p2,p3,p4,D9 b14 af x13] e C) ?_ ?_
  ·rintro e C ⟨x16,h2l,a⟩
   refine W_at a ?_
   unfold ul at h2l
   refine a7 ?_
   refine bo (fun e C=>∃x18,xo R x13 x9 x16 x8 x18=some w2l/\At [(1,qy b2),(4,Pr.pt b5 0),(6,qy b7),(8,Pr.pt b14 0),(9,Pb x16),(15,ap af x1.Kids),(16,P6 (x1.Kids.length:Int)),(17,P6 x8),(35,Pb x18)] [E4 b7 Rp.bool x9,p2,p3,p4,D9 b14 af x13] e C) ?_ ?_
   ·rintro e C ⟨x18,h2l,a⟩
    refine W_at a ?_
    unfold xo at h2l
    refine a6 h2l rfl (fun _ h2l=>?_) (fun _ h2l=>?_)
    ·refine W_rs (kUn (au 4 ty64 (Sub.refl _)) ?_)
     refine av 3 rfl rfl (Upd.refl _) rfl sizeOf64 (kAs rfl ?_)
     obtain rfl:=ho2 _ (ojs h2l)
     replace h:some (x13,true)=some r:=h
     obtain rfl:=osj h
     exact bg ⟨.inl rfl,[(af).val x13,Pb true],⟨yBox 3 ty64 aa,yT aa,tv⟩,_,A9.of [1] rfl,rfl,rfl⟩
    refine ay (a7 (W_rs (kUn (au 4 ty64 (Sub.refl _)) ?_)))
    refine kUn (hMv (out:=qy b7) rfl) ?_
    obtain⟨⟨x20,x21⟩,k,h2l⟩:=ah h2l
    refine oy [0] (ih x13 x9 b7 _ k) (fun q C' hq=>?_)
    obtain⟨rfl,rfl⟩:=hq
    refine kUn (hMv (out:=br [(af).val x20,Pb x21]) rfl) (kUn ar ?_)
    refine kUn ar ?_
    refine bw al64 fun b22=>av 5 rfl rfl (Upd.refl _) rfl sizeOf64 (kAs rfl (W_rs (kMv rfl ?_)))
    refine a6 h2l rfl (fun _ h2l=>?_) (fun _ h2l=>?_)
    ·refine W_rs (kUn (au 5 ty64 (Sub.refl _)) ?_)
     refine av 3 rfl rfl (Upd.refl _) rfl sizeOf64 (kAs rfl ?_)
     obtain rfl:=ho2 _ (ojs h2l)
     replace h:some (x20,true)=some r:=h
     obtain rfl:=osj h
     exact bg ⟨.inl rfl,[(af).val x20,Pb true],⟨yBox 3 ty64 aa,yT aa,tv⟩,_,A9.of [1] rfl,rfl,rfl⟩
    refine ay (W_rs (kMv rfl ?_))
    refine a6 h2l rfl (fun _ h2l=>?_) (fun _ h2l=>?_)
    ·refine W_r (kUn (hMv (out:=qy b7) rfl) (kUn (ak ie) ?_))
     refine kUn (au 4 ty9 cd) ?_
     refine ay3 (R:=Rp.bool) (m:=x9) (kx:=x13.Text) (v:=true) 0 underlying191 underlying9 ?_
     exact⟨(mset x13.Text true x9),x13,x20,b14,b22,h2l,atOk⟩
    refine ay ?_
    exact⟨x9,x13,x20,b14,b22,h2l,atOk⟩
   refine W_r (kMv rfl (kMv rfl ?_))
   rcases cc h2l with⟨hc17,h2l⟩|⟨hc17,h2l⟩
   ·refine kGd rfl aa hc17 (hMv (out:=qy b7) rfl) (kGd rfl aa hc17 (ak ie) ?_)
    refine kGd rfl aa hc17 (au 4 ty9 cd) ?_
    refine kGd rfl aa hc17 (ay6 (R:=Rp.bool) (m:=x9) (kx:=x13.Text) (z:=false) 0 underlying191 underlying9 zeroValue4 (fun _=>rfl)) ?_
    refine kPt rfl hc17 rfl ?_
    exact⟨(mget x13.Text false x9),h2l,atOk⟩
   refine skx ?_
   refine kPf rfl hc17 rfl ?_
   exact⟨false,h2l,atOk⟩
  refine W_r (kUn (ak f4) ?_)
  refine kUn (au 4 ty3 bc) ?_
  refine kIn rfl rfl rfl (kMv rfl ?_)
  rcases cc h2l with⟨hc15,h2l⟩|⟨hc15,h2l⟩
  ·refine skx ?_
   refine kPt rfl hc15 rfl (kAs rfl ?_)
   exact⟨true,h2l,atOk⟩
  refine kGd rfl aa hc15 (ak f4) ?_
  refine kGd rfl aa hc15 (au 4 ty3 bc) ?_
  refine kGd rfl aa hc15 (qInt rfl rfl rfl) (kPf rfl hc15 rfl (kAs rfl ?_))
  exact⟨x13.Kind==6,h2l,atOk⟩
 refine ej ?_
 obtain rfl:=ho2 _ (ojs h2l)
 exact⟨x9,h,atOk⟩
theorem alo :∀n,adt (kw n):=by
 intro n
 induction n with
 |zero=>exact(fun x1 x3 b2 r h=>nomatch (show none=some r from h))
 |succ n ih=>exact(fun x1 x3 b2 r h=>alw (kw n) ih x1 x3 b2 r h)
theorem aqq (x1:B6) (x3:SMap Bool) (b2:Nat) (r:B6 × Bool) (h:akj x1 x3=some r):Fc 161 [(af).val x1,qy b2] [E4 b2 Rp.bool x3] (fun q C'=>q=br [(af).val r.1,Pb r.2]/\C'=[E4 b2 Rp.bool x3]):=(alo 1048576) x1 x3 b2 r h
end Go.Proofs.YtcndghapmoaidaaGreatDoor
set_option linter.unusedSectionVars false
set_option maxRecDepth 100000
set_option maxHeartbeats 4000000
namespace Go.Proofs.YtcndghapmoaidaaGreatDoor
open Go Go.Cn Tryz
attribute [local irreducible] g0 ap
theorem ajf (x1:B6) (x3:B5) (x6:B0) (b2:Nat) (v4:Value) (b5:Nat) (v7:Value) (r:Bool × B5) (h:qh x1 x3 x6=some r):Fc 123 [Pr.pt b2 0,(bu).val (D4.mk x6.Kind x6.Id x6.Name x6.Owner x6.Type_ x6.Static v7 x6.File x6.At),(af).val x1] [D9 b2 a8 (D3.mk v4 (.map (some b5)) x3.m),E6 v4 ag x3.l 49,E7 b5 en Rp.bool x3.known,E6 v7 Rp.str x6.Params 9] (fun q C'=>∃w100,q=Pb r.1/\C'=[D9 b2 a8 (D3.mk w100 (.map (some b5)) r.2.m),E6 w100 ag r.2.l 49,E7 b5 en Rp.bool r.2.known]):=by
 refine i0 (rs:=[6]) func123 rfl ntmps123 ⟨by decide,results123⟩ dcd (fun s0=>?_)
 let p1:=D9 b2 a8 (D3.mk v4 (.map (some b5)) x3.m)
 let p2:=D4.mk x6.Kind x6.Id x6.Name x6.Owner x6.Type_ x6.Static v7 x6.File x6.At
 let p3:=E6 v4 ag x3.l 49
 let p4:=E7 b5 en Rp.bool x3.known
 unfold qh at h
 refine W_rs ?_
 refine rBox (R:=bu) (a:=p2) rfl (fun b8=>?_)
 refine rBox (R:=af) (a:=x1) rfl (fun b9=>?_)
 let p5:=D9 b9 af x1
 refine kAs rfl (W_rs (kUn (ak ama) ?_))
 refine kUn (au 4 ty9 aje) ?_
 refine kUn (ak ahi) ?_
 refine kUn (au 4 ty9 ajq) ?_
 refine c8 h (aew x6.Owner x6.Name) rfl fun x10 _ h=>?_
 refine kUn (ak vc) ?_
 refine av 4 rfl rfl wt rfl sizeOf3 ?_
 refine rCtx [p1,p3,p4,E6 v7 Rp.str x6.Params 9,D9 b8 bu (D4.mk 3 x6.Id x6.Name x6.Owner x6.Type_ x6.Static v7 x6.File x6.At),p5] ?_
 refine kUn (ak s5) ?_
 refine av 4 rfl rfl aad rfl sizeOf9 ?_
 refine rCtx [p1,p3,p4,E6 v7 Rp.str x6.Params 9,D9 b8 bu (D4.mk 3 x10 x6.Name x6.Owner x6.Type_ x6.Static v7 x6.File x6.At),p5] ?_
 refine W_rs ?_
 refine ay5 zeroValue38 rfl rfl (fun b11=>?_)
 refine W_rs (kUn rv ?_)
 refine kUn (hAs (out:=oc 159 [] [Pr.pt b11 0,Pr.pt b8 0]) rfl) (a7 (W_rs (kUn (au 5 ty64 (Sub.refl _)) ?_)))
 refine c8 h (av2 x1 0) rfl fun x12 _ h=>?_
 refine kUn (mg rfl underlying53) ?_
 refine kMv rfl (a5 ?_)
 obtain⟨z6l,hz6,h⟩:=ah h
 obtain⟨n6,hN6⟩:=bv hz6
 refine di 0 (fun e C=>∃x24,∃x14,∃x15,∃x16,∃x17,∃x18,∃x19,∃x21,∃x22,∃x25,∃v20,∃v23,qu x1 x3 x24 x14 x15 x16 x17 x18 x19 x21 x22 x25=some r/\At [(0,Pr.pt b2 0),(1,(bu).val p2),(4,Pr.pt b8 0),(5,Pr.pt b9 0),(7,Pr.pt b11 0)] [p1,p3,p4,E6 v20 Rp.str x24 9,D9 b8 bu (D4.mk x14 x15 x16 x17 x18 x19 v20 x21 x22),p5,A4.cell b11 (Pi v23),E6 v23 ag x25 49] e C) ?_ ?_
 ·rintro e C ⟨x24,x14,x15,x16,x17,x18,x19,x21,x22,x25,v20,v23,h,a⟩
  let p6:=D9 b11 (Rp.list ag) x25
  let p7:=E6 v23 ag x25 49
  let p8:=A4.cell b11 (Pi v23)
  refine W_at a ?_
  unfold qu at h
  refine a7 (W_rs (kUn (ak ic) ?_))
  refine kUn (au 5 ty53 bt) ?_
  refine kUn (mg rfl underlying53) ?_
  refine kMv rfl (a5 ?_)
  obtain⟨z3l,hz3,h⟩:=ah h
  obtain⟨n3,hN3⟩:=bv hz3
  refine di 2 (fun e C=>∃x63,∃v62,qv x14 x15 x16 x17 x18 x19 x21 x22 x3 x25 x1 x63=some r/\At [(0,Pr.pt b2 0),(1,(bu).val p2),(4,Pr.pt b8 0),(5,Pr.pt b9 0),(7,Pr.pt b11 0)] [p1,p3,p4,E6 v62 Rp.str x63 9,D9 b8 bu (D4.mk x14 x15 x16 x17 x18 x19 v62 x21 x22),p5,p8,p7] e C) ?_ ?_
  ·rintro e C ⟨x63,v62,h,a⟩
   let p9:=D9 b8 bu (D4.mk x14 x15 x16 x17 x18 x19 v62 x21 x22)
   let p10:=B0.mk x14 x15 x16 x17 x18 x19 x63 x21 x22
   refine W_at a ?_
   unfold qv at h
   refine a7 (W_rs (kMv rfl (kUn (au 4 ty49 (Sub.refl _)) ?_)))
   obtain⟨⟨x75,x76⟩,k,h⟩:=ah h
   let p11:=E7 b5 en Rp.bool x76.known
   refine rRelS 3 61 [] (q:=ag.val p10) (fun _ _ hl=>FLe.val ⟨fl,fl,fl,fl,fl,fl,(a2s hl),fl,fl,tv⟩) ?_ rfl trivial
   refine oy [0,1,2] (aag p10 x3 b2 v4 b5 _ k) (fun q C' hq=>?_)
   obtain⟨v77,rfl,rfl⟩:=hq
   let p12:=D3.mk v77 (.map (some b5)) x76.m
   refine rCtx [D9 b2 a8 p12,E6 v77 ag x76.l 49,p11,p9,p5,p8,p7] ?_
   refine kNo rfl ?_
   refine a6 h rfl (fun _ h=>?_) (fun _ h=>?_)
   ·refine W_rs (kAs rfl ?_)
    obtain rfl:=osj h
    exact bg ⟨.inl rfl,_,A9.of [0,1,2] rfl,_,(aa),v77,rfl,rfl⟩
   refine ay ?_
   refine W_shutC 6 5 ?_
   refine bo (fun e C=>∃x79,∃v80,qw x1 x21 x76 x79=some r/\At [(0,Pr.pt b2 0),(1,(bu).val p2),(4,Pr.pt b8 0),(5,Pr.pt b9 0)] [D9 b2 a8 (D3.mk v80 (.map (some b5)) x76.m),E6 v80 ag x79 49,p11,p9,p5,p6] e C) ?_ ?_
   ·rintro e C ⟨x79,v80,h,a⟩
    refine W_at a ?_
    unfold qw at h
    refine a7 (W_rs (kUn (au 4 ty64 (Sub.refl _)) ?_))
    refine awp Rp.bool (fun b81=>?_)
    obtain⟨⟨x82,x83⟩,k,h⟩:=ah h
    refine oy [6] (aqq x1 ([]:SMap Bool) b81 _ k) (fun q C' hq=>?_)
    obtain⟨rfl,rfl⟩:=hq
    refine rCtx [E4 b81 Rp.bool ([]:SMap Bool),D9 b2 a8 (D3.mk v80 (.map (some b5)) x76.m),E6 v80 ag x79 49,p11,p9,p5,p6] ?_
    refine kUn (hMv (out:=br [(af).val x82,Pb x83]) rfl) (kUn ar ?_)
    refine kUn ar ?_
    refine bw al64 fun b84=>av 7 rfl rfl (Upd.refl _) rfl sizeOf64 (kAs rfl (W_rs (kMv rfl ?_)))
    refine a6 h rfl (fun _ h=>?_) (fun _ h=>?_)
    ·refine W_rs (kMv rfl (kUn (ak aoc) ?_))
     refine kUn (au 4 ty3 adq) ?_
     refine kUn (ak ru) ?_
     refine kUn (au 7 ty3 ip) ?_
     obtain⟨x86,k,h⟩:=ah h
     refine oy [1,2,3] (ae0 x21 x82.At (B5.mk x79 x76.known x76.m) b2 v80 b5 _ k) (fun q C' hq=>?_)
     obtain⟨v87,rfl,rfl⟩:=hq
     refine rCtx [D9 b2 a8 (D3.mk v87 (.map (some b5)) x86.m),E6 v87 ag x86.l 49,E7 b5 en Rp.bool x86.known,E4 b81 Rp.bool ([]:SMap Bool),p9,p5,p6,D9 b84 af x82] ?_
     refine W_rs (kAs rfl ?_)
     obtain rfl:=osj h
     exact bg ⟨.inl rfl,_,A9.of [0,1,2] rfl,_,(aa),v87,rfl,rfl⟩
    refine ay (W_rs (kAs rfl ?_))
    obtain rfl:=osj h
    exact bg ⟨.inl rfl,_,A9.of [1,2,3] rfl,_,(aa),v80,rfl,rfl⟩
   obtain⟨x79,k,h⟩:=ah h
   refine aec [0,0,2,6,14,0,62,127,255,511] [[],[],[],[],[D9 b2 a8 p12],[p6],[],[],[],[]] hmx kr kr kr rfl ?_
   refine aq0 0 1 (out:=Pr.pt b2 0) rfl (fun C9=>gz) ?_
   refine aq0 1 3 (out:=Pr.pt b2 0) rfl (fun C9=>gz) ?_
   refine aq0 2 7 (out:=Pr.pt b2 0) rfl (fun C9=>aia) ?_
   refine aq0 3 15 (out:=Pr.pt b2 0) rfl (fun C9=>(ak aky)) ?_
   refine aq1 4 31 0 (out:=Pi v77) rfl rfl (fun C9 i9 h9=>(abc (R:=a8) (a:=p12) i9 ty38 aae (hi:=h9))) ?_
   refine aq1 5 63 5 (out:=ap ag x25) rfl rfl (fun C9 i9 h9=>(au (R:=Rp.list ag) (a:=x25) (R':=Rp.list ag) i9 ty38 (Sub.refl _) (hi:=h9))) ?_
   refine ae 6 127 rfl (fun g9=>?_)
   refine ik 1 el38 k (fun v80=>?_)
   refine oz _ [] fv ?_
   refine aq0 7 255 (out:=Pr.pt b2 0) rfl (fun C9=>aia) ?_
   refine aq0 8 511 (out:=Pr.pt b2 0) rfl (fun C9=>(ak aky)) ?_
   refine ae 9 1023 rfl (fun g9=>?_)
   refine ail (R:=a8) (a:=p12) 0 1 sizeOf38 afm ?_
   refine rCtx [D9 b2 a8 (D3.mk v80 (.map (some b5)) x76.m),E6 v80 ag x79 49,p11,p9,p5,p6] ?_
   refine oz .any [] fv ?_
   refine agx ?_
   exact⟨x79,v80,h,atOk⟩
  refine ek (fun m e C=>∃x61,∃x63,∃v62,fq (fun s=>jy x1 s.1 s.2) m (x61,x63)=some z3l/\At [(0,Pr.pt b2 0),(1,(bu).val p2),(4,Pr.pt b8 0),(5,Pr.pt b9 0),(7,Pr.pt b11 0),(43,ap af x1.Kids),(44,P6 (x1.Kids.length:Int)),(45,P6 x61)] [p1,p3,p4,E6 v62 Rp.str x63 9,D9 b8 bu (D4.mk x14 x15 x16 x17 x18 x19 v62 x21 x22),p5,p8,p7] e C) n3 ⟨0,x24,v20,hN3,⟨⟨aa,aa,aa,aa,aa,aa,aa,aa,tv⟩,A9.refl _⟩⟩ ?_
  rintro m e C ⟨x61,x63,v62,hN3,a⟩
  let p13:=D4.mk x14 x15 x16 x17 x18 x19 v62 x21 x22
  refine W_at a ?_
  obtain⟨m3,w3l,rfl,h3l,hn3,ho3⟩:=bm hN3
  replace h3l:jy x1 x61 x63=some w3l:=h3l
  unfold jy at h3l
  refine W_rs (kIn rfl rfl rfl (a7 ?_))
  refine a6 h3l rfl (fun _ h3l=>?_) (fun _ h3l=>?_)
  ·refine ay ?_
   refine bo (fun e C=>∃x74,∃x68,∃v73,∃b69,nh x61 x74 x68=some w3l/\At [(0,Pr.pt b2 0),(1,(bu).val p2),(4,Pr.pt b8 0),(5,Pr.pt b9 0),(7,Pr.pt b11 0),(43,ap af x1.Kids),(44,P6 (x1.Kids.length:Int)),(45,P6 x61)] [p1,p3,p4,E6 v73 Rp.str x74 9,D9 b8 bu (D4.mk x14 x15 x16 x17 x18 x19 v73 x21 x22),p5,p8,p7,D9 b69 af x68] e C) ?_ ?_
   ·rintro e C ⟨x74,x68,v73,b69,h3l,a⟩
    refine W_at a ?_
    unfold nh at h3l
    refine W_r (kIn rfl rfl rfl (kMv rfl ?_))
    exact⟨m3,lsu,w64 (x61+1),x74,v73,hn3 _ (ojs h3l),⟨⟨aa,aa,aa,aa,aa,aa,aa,aa,tv⟩,A9.of [0,1,2,3,4,5,6,7] rfl⟩⟩
   refine a5 (W_rs ?_)
   obtain⟨x68,k,h3l⟩:=ah h3l
   refine kUn (fo underlying53 sizeOf64 k) ?_
   refine kUn (cz ty64) ?_
   refine bw al64 fun b69=>av 8 rfl rfl (Upd.refl _) rfl sizeOf64 (W_rs (kUn (ak f4) ?_))
   refine kUn (au 8 ty3 bc) ?_
   refine kIn rfl rfl rfl ?_
   refine a6 h3l rfl (fun _ h3l=>?_) (fun _ h3l=>?_)
   ·refine W_r (kUn (ak aih) ?_)
    refine kUn (abc (R:=bu) (a:=p13) 4 ty22 aap) ?_
    refine kUn (ak ws) ?_
    refine kUn (au 8 ty9 gm) ?_
    refine kUn (cq (R:=Rp.str) (a:=x68.Type_) el22 nb) ?_
    obtain⟨x71,k,h3l⟩:=ah h3l
    refine ik 3 el22 k (fun v72=>?_)
    refine kUn (ak aih) ?_
    refine ail (R:=bu) (a:=p13) 4 3 sizeOf22 aam ?_
    refine rCtx [p1,p3,p4,E6 v72 Rp.str x71 9,D9 b8 bu (D4.mk x14 x15 x16 x17 x18 x19 v72 x21 x22),p5,p8,p7,D9 b69 af x68] ?_
    exact⟨x71,x68,v72,b69,h3l,atOk⟩
   refine ay ?_
   exact⟨x63,x68,v62,b69,h3l,atOk⟩
  refine ej ?_
  obtain rfl:=ho3 _ (ojs h3l)
  exact⟨x63,v62,h,atOk⟩
 refine a0v ag 49 ?_
 refine ek (fun m e C=>∃x13,∃x14,∃x15,∃x16,∃x17,∃x18,∃x19,∃x21,∃x22,∃x24,∃x25,∃v20,∃v23,fq (fun s=>jx x12 s.1 s.2.1 s.2.2.1 s.2.2.2.1 s.2.2.2.2.1 s.2.2.2.2.2.1 s.2.2.2.2.2.2.1 s.2.2.2.2.2.2.2.1 s.2.2.2.2.2.2.2.2.1 s.2.2.2.2.2.2.2.2.2.1 s.2.2.2.2.2.2.2.2.2.2) m (x13,x14,x15,x16,x17,x18,x19,x21,x22,x24,x25)=some z6l/\At [(0,Pr.pt b2 0),(1,(bu).val p2),(4,Pr.pt b8 0),(5,Pr.pt b9 0),(7,Pr.pt b11 0),(8,oc 159 [] [Pr.pt b11 0,Pr.pt b8 0]),(24,ap af x12),(25,P6 (x12.length:Int)),(26,P6 x13)] [p1,p3,p4,E6 v20 Rp.str x24 9,D9 b8 bu (D4.mk x14 x15 x16 x17 x18 x19 v20 x21 x22),p5,A4.cell b11 (Pi v23),E6 v23 ag x25 49] e C) n6 ⟨0,3,x10,x6.Name,x6.Owner,x6.Type_,x6.Static,x6.File,x6.At,x6.Params,[],v7,(.slice none 0 0),hN6,⟨⟨aa,aa,aa,aa,aa,aa,aa,aa,aa,tv⟩,A9.refl _⟩⟩ ?_
 rintro m e C ⟨x13,x14,x15,x16,x17,x18,x19,x21,x22,x24,x25,v20,v23,hN6,a⟩
 refine W_at a ?_
 obtain⟨m6,w6l,rfl,h6l,hn6,ho6⟩:=bm hN6
 replace h6l:jx x12 x13 x14 x15 x16 x17 x18 x19 x21 x22 x24 x25=some w6l:=h6l
 unfold jx at h6l
 refine W_rs (kIn rfl rfl rfl (a7 ?_))
 refine a6 h6l rfl (fun _ h6l=>?_) (fun _ h6l=>?_)
 ·refine ay ?_
  refine bo (fun e C=>∃x50,∃x51,∃x52,∃x53,∃x54,∃x55,∃x57,∃x58,∃x59,∃x60,∃x40,∃v49,∃v56,∃b41,ng x13 x50 x51 x52 x53 x54 x55 x57 x58 x59 x60 x40=some w6l/\At [(0,Pr.pt b2 0),(1,(bu).val p2),(4,Pr.pt b8 0),(5,Pr.pt b9 0),(7,Pr.pt b11 0),(8,oc 159 [] [Pr.pt b11 0,Pr.pt b8 0]),(24,ap af x12),(25,P6 (x12.length:Int)),(26,P6 x13)] [A4.cell b11 (Pi v49),E6 v49 ag x59 49,D9 b8 bu (D4.mk x50 x51 x52 x53 x54 x55 v56 x57 x58),E6 v56 Rp.str x60 9,p1,p3,p4,p5,D9 b41 af x40] e C) ?_ ?_
  ·rintro e C ⟨x50,x51,x52,x53,x54,x55,x57,x58,x59,x60,x40,v49,v56,b41,h6l,a⟩
   refine W_at a ?_
   unfold ng at h6l
   refine W_r (kIn rfl rfl rfl (kMv rfl ?_))
   exact⟨m6,lsu,w64 (x13+1),x50,x51,x52,x53,x54,x55,x57,x58,x60,x59,v56,v49,hn6 _ (ojs h6l),⟨⟨aa,aa,aa,aa,aa,aa,aa,aa,aa,tv⟩,A9.of [4,5,6,3,2,7,0,1] rfl⟩⟩
  refine a5 (W_rs ?_)
  obtain⟨x40,k,h6l⟩:=ah h6l
  refine kUn (fo underlying53 sizeOf64 k) ?_
  refine kUn (cz ty64) ?_
  refine bw al64 fun b41=>av 8 rfl rfl (Upd.refl _) rfl sizeOf64 ?_
  refine bo (fun e C=>∃x43,lp x40 x25 x14 x15 x16 x17 x18 x19 x24 x21 x22 x13 x43=some w6l/\At [(0,Pr.pt b2 0),(1,(bu).val p2),(4,Pr.pt b8 0),(5,Pr.pt b9 0),(7,Pr.pt b11 0),(8,oc 159 [] [Pr.pt b11 0,Pr.pt b8 0]),(10,Pr.pt b41 0),(24,ap af x12),(25,P6 (x12.length:Int)),(26,P6 x13),(37,Pb x43)] [p1,p3,p4,E6 v20 Rp.str x24 9,D9 b8 bu (D4.mk x14 x15 x16 x17 x18 x19 v20 x21 x22),p5,A4.cell b11 (Pi v23),E6 v23 ag x25 49,D9 b41 af x40] e C) ?_ ?_
  ·rintro e C ⟨x43,h6l,a⟩
   refine W_at a ?_
   unfold lp at h6l
   refine a6 h6l rfl (fun _ h6l=>?_) (fun _ h6l=>?_)
   ·refine W_r (kUn (hMv (out:=oc 159 [] [Pr.pt b11 0,Pr.pt b8 0]) rfl) (kUn (au 8 ty64 (Sub.refl _)) ?_))
    obtain⟨⟨x45,x47⟩,k,h6l⟩:=ah h6l
    refine rCallK [6,7,4,3] (ah0 x40 x25 (B0.mk x14 x15 x16 x17 x18 x19 x24 x21 x22) b11 v23 b8 v20 _ k) (fun q C' hq=>?_)
    obtain⟨v46,v48,rfl,rfl⟩:=hq
    refine rCtx [A4.cell b11 (Pi v46),E6 v46 ag x45 49,D9 b8 bu (D4.mk x47.Kind x47.Id x47.Name x47.Owner x47.Type_ x47.Static v48 x47.File x47.At),E6 v48 Rp.str x47.Params 9,p1,p3,p4,p5,D9 b41 af x40] ?_
    exact⟨x47.Kind,x47.Id,x47.Name,x47.Owner,x47.Type_,x47.Static,x47.File,x47.At,x45,x47.Params,x40,v46,v48,b41,h6l,atOk⟩
   refine ay ?_
   exact⟨x14,x15,x16,x17,x18,x19,x21,x22,x25,x24,x40,v23,v20,b41,h6l,⟨⟨aa,aa,aa,aa,aa,aa,aa,aa,aa,tv⟩,A9.of [6,7,4,3,0,1,2,5,8] rfl⟩⟩
  refine W_r (kUn (ak f4) ?_)
  refine kUn (au 8 ty3 bc) ?_
  refine kIn rfl rfl rfl (kMv rfl ?_)
  rcases cc h6l with⟨hc42,h6l⟩|⟨hc42,h6l⟩
  ·refine skx ?_
   refine kPt rfl hc42 rfl ?_
   exact⟨true,h6l,atOk⟩
  refine kGd rfl aa hc42 (ak f4) ?_
  refine kGd rfl aa hc42 (au 8 ty3 bc) ?_
  refine kGd rfl aa hc42 (qInt rfl rfl rfl) (kPf rfl hc42 rfl ?_)
  exact⟨x40.Kind==6,h6l,atOk⟩
 refine ej ?_
 obtain rfl:=ho6 _ (ojs h6l)
 exact⟨x24,x14,x15,x16,x17,x18,x19,x21,x22,x25,v20,v23,h,atOk⟩
theorem ajv (x1:Int) (x2:B6) (x4:B5) (b3:Nat) (v5:Value) (b6:Nat) (r:Bool × B5) (h:se x1 x2 x4=some r):Fc 71 [Pr.pt b3 0,P6 x1,(af).val x2] [D9 b3 a8 (D3.mk v5 (.map (some b6)) x4.m),E6 v5 ag x4.l 49,E7 b6 en Rp.bool x4.known] (fun q C'=>∃w100,q=Pb r.1/\C'=[D9 b3 a8 (D3.mk w100 (.map (some b6)) r.2.m),E6 w100 ag r.2.l 49,E7 b6 en Rp.bool r.2.known]):=by
  refine i0 (rs:=[6]) func71 rfl ntmps71 ⟨by decide,results71⟩ dcd (fun s0=>?_)
  unfold se at h
  refine W_rs ?_
  refine rBox (R:=af) (a:=x2) rfl (fun b7=>?_)
  let p1:=D9 b7 af x2
  refine kAs rfl (a7 ?_)
  refine bo (fun e C=>∃x9,∃x10,∃v11,oe x2 x1 x9 x10=some r/\At [(0,Pr.pt b3 0),(1,P6 x1),(5,Pr.pt b7 0),(23,Pb (!x9))] [D9 b3 a8 (D3.mk v11 (.map (some b6)) x10.m),E6 v11 ag x10.l 49,E7 b6 en Rp.bool x10.known,p1] e C) ?_ ?_
  · rintro e C ⟨x9,x10,v11,h,a⟩
    refine W_at a ?_
    unfold oe at h
    refine a6 h rfl (fun _ h=>?_) (fun _ h=>?_)
    · refine W_rs (kAs rfl ?_)
      obtain rfl:=osj h
      exact bg ⟨.inl rfl,_,A9.of [0,1,2] rfl,_,(aa),v11,rfl,rfl⟩
    refine ay (a7 (W_rs (kUn (ak ic) ?_)))
    refine kUn (au 3 ty53 bt) ?_
    refine kUn (mg rfl underlying53) ?_
    refine kMv rfl (a5 ?_)
    obtain⟨z2l,hz2,h⟩:=ah h
    obtain⟨n2,hN2⟩:=bv hz2
    refine di 0 (fun e C=>∃x15,∃x17,∃x16,∃v14,wu x15 x17 x16=some r/\At [(0,Pr.pt b3 0)] [D9 b3 a8 (D3.mk v14 (.map (some b6)) x15),E6 v14 ag x17 49,E7 b6 en Rp.bool x16,p1] e C) ?_ ?_
    · rintro e C ⟨x15,x17,x16,v14,h,a⟩
      refine W_at a ?_
      unfold wu at h
      refine W_rs (kAs rfl ?_)
      obtain rfl:=osj h
      exact bg ⟨.inl rfl,_,A9.of [0,1,2] rfl,_,(aa),v14,rfl,rfl⟩
    refine ek (fun m e C=>∃x13,∃x15,∃x16,∃x17,∃v14,fq (fun s=>kl x2 x1 s.1 s.2.1 s.2.2.1 s.2.2.2) m (x13,x15,x16,x17)=some z2l/\At [(0,Pr.pt b3 0),(1,P6 x1),(5,Pr.pt b7 0),(25,ap af x2.Kids),(26,P6 (x2.Kids.length:Int)),(27,P6 x13)] [D9 b3 a8 (D3.mk v14 (.map (some b6)) x15),E6 v14 ag x17 49,E7 b6 en Rp.bool x16,p1] e C) n2 ⟨0,x10.m,x10.known,x10.l,v11,hN2,⟨⟨aa,aa,aa,aa,aa,aa,tv⟩,A9.refl _⟩⟩ ?_
    rintro m e C ⟨x13,x15,x16,x17,v14,hN2,a⟩
    refine W_at a ?_
    obtain⟨m2,w2l,rfl,h2l,hn2,ho2⟩:=bm hN2
    replace h2l:kl x2 x1 x13 x15 x16 x17=some w2l:=h2l
    unfold kl at h2l
    refine W_rs (kIn rfl rfl rfl (a7 ?_))
    refine a6 h2l rfl (fun _ h2l=>?_) (fun _ h2l=>?_)
    · refine ay (a7 (a5 (W_rs ?_)))
      obtain⟨x24,k,h2l⟩:=ah h2l
      refine kUn (fo underlying53 sizeOf64 k) ?_
      refine kUn (cz ty64) ?_
      refine bw al64 fun b25=>av 4 rfl rfl (Upd.refl _) rfl sizeOf64 ?_
      let p2:=D9 b25 af x24
      refine bo (fun e C=>∃x26,∃x27,∃b28,rk x24 x1 x17 x16 x15 x13 x26 x27=some w2l/\At [(0,Pr.pt b3 0),(1,P6 x1),(5,Pr.pt b7 0),(8,Pr.pt b25 0),(9,Pr.pt b28 0),(25,ap af x2.Kids),(26,P6 (x2.Kids.length:Int)),(27,P6 x13)] [D9 b3 a8 (D3.mk v14 (.map (some b6)) x15),E6 v14 ag x17 49,E7 b6 en Rp.bool x16,p1,p2,D9 b28 bu (D4.mk 2 x26 x24.Text x27 x24.Type_ (x24.N==1) (.slice none 0 0) x1 x24.At)] e C) ?_ ?_
      · rintro e C ⟨x26,x27,b28,h2l,a⟩
        let p3:=D9 b28 bu (D4.mk 2 x26 x24.Text x27 x24.Type_ (x24.N==1) (.slice none 0 0) x1 x24.At)
        let p4:=B0.mk 2 x26 x24.Text x27 x24.Type_ (x24.N==1) [] x1 x24.At
        refine W_at a ?_
        unfold rk at h2l
        refine a5 ?_
        refine bo (fun e C=>∃x33,∃x35,∃x36,∃x37,∃v34,km x24 x26 x27 x1 x13 x33 x35 x36 x37=some w2l/\At [(0,Pr.pt b3 0),(1,P6 x1),(5,Pr.pt b7 0),(8,Pr.pt b25 0),(9,Pr.pt b28 0),(25,ap af x2.Kids),(26,P6 (x2.Kids.length:Int)),(27,P6 x13),(50,Pb x33)] [D9 b3 a8 (D3.mk v34 (.map (some b6)) x35),E6 v34 ag x37 49,E7 b6 en Rp.bool x36,p1,p2,p3] e C) ?_ ?_
        · rintro e C ⟨x33,x35,x36,x37,v34,h2l,a⟩
          refine W_at a ?_
          unfold km at h2l
          refine a6 h2l rfl (fun _ h2l=>?_) (fun _ h2l=>?_)
          · refine W_rs (kAs rfl ?_)
            obtain rfl:=ho2 _ (ojs h2l)
            replace h:some (false,(B5.mk x37 x36 x35))=some r:=h
            obtain rfl:=osj h
            exact bg ⟨.inl rfl,_,A9.of [0,1,2] rfl,_,(aa),v34,rfl,rfl⟩
          refine bo (fun e C=>∃x43,∃x45,∃x46,∃x47,∃v44,kn x13 x43 x45 x46 x47=some w2l/\At [(0,Pr.pt b3 0),(1,P6 x1),(5,Pr.pt b7 0),(25,ap af x2.Kids),(26,P6 (x2.Kids.length:Int)),(27,P6 x13),(60,Pb x43)] [D9 b3 a8 (D3.mk v44 (.map (some b6)) x45),E6 v44 ag x47 49,E7 b6 en Rp.bool x46,p1,p2,p3] e C) ?_ ?_
          · rintro e C ⟨x43,x45,x46,x47,v44,h2l,a⟩
            refine W_at a ?_
            unfold kn at h2l
            refine a6 h2l rfl (fun _ h2l=>?_) (fun _ h2l=>?_)
            · refine W_rs (kAs rfl ?_)
              obtain rfl:=ho2 _ (ojs h2l)
              replace h:some (false,(B5.mk x47 x46 x45))=some r:=h
              obtain rfl:=osj h
              exact bg ⟨.inl rfl,_,A9.of [0,1,2] rfl,_,(aa),v44,rfl,rfl⟩
            refine ay (W_r (kIn rfl rfl rfl (kMv rfl ?_)))
            exact⟨m2,lsu,w64 (x13+1),x45,x46,x47,v44,hn2 _ (ojs h2l),⟨⟨aa,aa,aa,aa,aa,aa,tv⟩,A9.of [0,1,2,3] rfl⟩⟩
          refine W_r (kUn (ak f4) ?_)
          refine kUn (au 4 ty3 bc) ?_
          refine kIn rfl rfl rfl (kMv rfl ?_)
          rcases cc h2l with⟨hc39,h2l⟩|⟨hc39,h2l⟩
          · refine kGd rfl aa hc39 (hMvA rfl) (kGd rfl aa hc39 (au 5 ty49 (Sub.refl _)) ?_)
            refine kGd rfl aa hc39 (au 4 ty64 (Sub.refl _)) ?_
            obtain⟨⟨x40,x41⟩,k,h2l⟩:=ah h2l
            refine kOn rfl aa hc39 ?_
            refine rVec Rp.str 9 ?_
            refine oy [0,1,2,6] (ajf x24 (B5.mk x37 x36 x35) p4 b3 v34 b6 (.slice none 0 0) _ k) (fun q C' hq=>?_)
            obtain⟨v42,rfl,rfl⟩:=hq
            refine rCtx [D9 b3 a8 (D3.mk v42 (.map (some b6)) x41.m),E6 v42 ag x41.l 49,E7 b6 en Rp.bool x41.known,p1,p2,p3] ?_
            refine kGd rfl aa hc39 (qNot rfl) (kPt rfl hc39 rfl (kAs rfl ?_))
            exact⟨!x40,x41.m,x41.known,x41.l,v42,h2l,atOk⟩
          refine skx ?_
          refine kPf rfl hc39 rfl (kAs rfl ?_)
          exact⟨false,x35,x36,x37,v34,h2l,atOk⟩
        refine W_r (kUn (ak f4) ?_)
        refine kUn (au 4 ty3 bc) ?_
        refine kIn rfl rfl rfl (kMv rfl ?_)
        rcases cc h2l with⟨hc29,h2l⟩|⟨hc29,h2l⟩
        · refine kGd rfl aa hc29 (hMvA rfl) (kGd rfl aa hc29 (au 5 ty49 (Sub.refl _)) ?_)
          obtain⟨⟨x30,x31⟩,k,h2l⟩:=ah h2l
          refine kOn rfl aa hc29 ?_
          refine ay4 [0,1,2] (aag p4 (B5.mk x17 x16 x15) b3 v14 b6 _ k) ⟨aa,(st_le fun _=>⟨fl,fl,fl,fl,fl,fl,a2r,fl,fl,tv⟩),tv⟩ (fun q C' hq=>?_)
          obtain⟨v32,rfl,rfl⟩:=hq
          refine rCtx [D9 b3 a8 (D3.mk v32 (.map (some b6)) x31.m),E6 v32 ag x31.l 49,E7 b6 en Rp.bool x31.known,p1,p2,p3] ?_
          refine kGd rfl aa hc29 (qNot rfl) (kPt rfl hc29 rfl (kAs rfl ?_))
          exact⟨!x30,x31.m,x31.known,x31.l,v32,h2l,atOk⟩
        refine skx ?_
        refine kPf rfl hc29 rfl (kAs rfl ?_)
        exact⟨false,x15,x16,x17,v14,h2l,atOk⟩
      obtain⟨x26,hx26,h2l⟩:=ah h2l
      obtain⟨x27,k,h2l⟩:=ah h2l
      let p5:=D4.mk 2 x26 x24.Text x27 x24.Type_ (x24.N==1) (.slice none 0 0) x1 x24.At
      refine aec [0,1,0,4,15,0,32,0,128,415,0,1024,0,4096,12288,0,0,65536,262143,0,1048575] [[],[p1],[],[p2],[],[],[p2],[],[p1],[],[],[p2],[],[p2],[],[],[],[p2],[],[],[]] hmx kr kr kr rfl ?_
      refine aq0 0 1 (out:=Pr.pt b7 1) rfl (fun C9=>(ak ie)) ?_
      refine aq1 1 3 3 (out:=Pr.str x2.Text) rfl rfl (fun C9 i9 h9=>(au (R:=af) (a:=x2) (R':=Rp.str) i9 ty9 cd (hi:=h9))) ?_
      refine aq0 2 7 (out:=Pr.pt b25 1) rfl (fun C9=>(ak ie)) ?_
      refine aq1 3 15 4 (out:=Pr.str x24.Text) rfl rfl (fun C9 i9 h9=>(au (R:=af) (a:=x24) (R':=Rp.str) i9 ty9 cd (hi:=h9))) ?_
      refine aq0 4 31 (out:=Pr.str x26) rfl (fun C9=>(dz (agn x2.Text x24.Text _ hx26))) ?_
      refine aq0 5 63 (out:=Pr.pt b25 1) rfl (fun C9=>(ak ie)) ?_
      refine aq1 6 127 4 (out:=Pr.str x24.Text) rfl rfl (fun C9 i9 h9=>(au (R:=af) (a:=x24) (R':=Rp.str) i9 ty9 cd (hi:=h9))) ?_
      refine aq0 7 255 (out:=Pr.pt b7 1) rfl (fun C9=>(ak ie)) ?_
      refine aq1 8 511 3 (out:=Pr.str x2.Text) rfl rfl (fun C9 i9 h9=>(au (R:=af) (a:=x2) (R':=Rp.str) i9 ty9 cd (hi:=h9))) ?_
      refine aq0 9 1023 (out:=Pr.str x27) rfl (fun C9=>(dz (agp x2.Text _ k))) ?_
      refine aq0 10 2047 (out:=Pr.pt b25 2) rfl (fun C9=>(ak ws)) ?_
      refine aq1 11 4095 4 (out:=Pr.str x24.Type_) rfl rfl (fun C9 i9 h9=>(au (R:=af) (a:=x24) (R':=Rp.str) i9 ty9 gm (hi:=h9))) ?_
      refine aq0 12 8191 (out:=Pr.pt b25 3) rfl (fun C9=>(ak aig)) ?_
      refine aq1 13 16383 4 (out:=P6 x24.N) rfl rfl (fun C9 i9 h9=>(au (R:=af) (a:=x24) (R':=Rp.int .i64) i9 ty2 acn (hi:=h9))) ?_
      refine aq0 14 32767 (out:=Pb (x24.N==1)) rfl (fun C9=>qInt) ?_
      refine aq0 15 65535 (out:=P6 x1) rfl (fun C9=>gz) ?_
      refine aq0 16 131071 (out:=Pr.pt b25 6) rfl (fun C9=>(ak ru)) ?_
      refine aq1 17 262143 4 (out:=P6 x24.At) rfl rfl (fun C9 i9 h9=>(au (R:=af) (a:=x24) (R':=Rp.int .i64) i9 ty3 ip (hi:=h9))) ?_
      refine aq0 18 524287 (out:=(bu).val p5) rfl (fun C9=>(jm aj3 ⟨(D4.mk 2 [] [] [] [] false (.slice none 0 0) 0 0),⟨_,rfl,rfl,qbj⟩,⟨(D4.mk 2 x26 [] [] [] false (.slice none 0 0) 0 0),⟨_,rfl,rfl,qbj⟩,⟨(D4.mk 2 x26 x24.Text [] [] false (.slice none 0 0) 0 0),⟨_,rfl,rfl,qbj⟩,⟨(D4.mk 2 x26 x24.Text x27 [] false (.slice none 0 0) 0 0),⟨_,rfl,rfl,qbj⟩,⟨(D4.mk 2 x26 x24.Text x27 x24.Type_ false (.slice none 0 0) 0 0),⟨_,rfl,rfl,qbj⟩,⟨(D4.mk 2 x26 x24.Text x27 x24.Type_ (x24.N==1) (.slice none 0 0) 0 0),⟨_,rfl,rfl,qbj⟩,⟨(D4.mk 2 x26 x24.Text x27 x24.Type_ (x24.N==1) (.slice none 0 0) x1 0),⟨_,rfl,rfl,qbj⟩,⟨p5,⟨_,rfl,rfl,qbj⟩,rfl⟩⟩⟩⟩⟩⟩⟩⟩)) ?_
      refine ae 19 1048575 rfl (fun g9=>?_)
      refine bw al49 fun b28=>?_
      refine oz _ [p1,p2,p2,p1,p2,p2,p2] (ud 3 (ud 4 (ud 4 (ud 3 (ud 4 (ud 4 (ud 4 fv))))))) ?_
      refine ae 20 2097151 rfl (fun g9=>?_)
      refine av 5 rfl rfl (Upd.refl _) rfl sizeOf49 ?_
      refine oz .any [] fv ?_
      refine agx ?_
      exact⟨x26,x27,b28,h2l,atOk⟩
    refine ej ?_
    obtain rfl:=ho2 _ (ojs h2l)
    exact⟨x15,x17,x16,v14,h,atOk⟩
  refine i8 12 hmx kr kr ?_
  refine lUn (hMvA rfl) (lUn (ak ie) ?_)
  refine lUn (au 3 ty9 cd) ?_
  obtain⟨x8,k,h⟩:=ah h
  let p6:=B0.mk 1 x8 x2.Text [] x2.Type_ false [] x1 x2.At
  refine lUn (dz (agp x2.Text _ k)) ?_
  refine lUn (ak ie) ?_
  refine lUn (au 3 ty9 cd) ?_
  refine lUn (ak ws) ?_
  refine lUn (au 3 ty9 gm) ?_
  refine lUn (hMvA rfl) (lUn (ak ru) ?_)
  refine lUn (au 3 ty3 ip) ?_
  refine lUn (jm st49 ⟨(B0.mk 1 [] [] [] [] false [] 0 0),⟨_,rfl,rfl,qbj⟩,⟨(B0.mk 1 x8 [] [] [] false [] 0 0),⟨_,rfl,rfl,qbj⟩,⟨(B0.mk 1 x8 x2.Text [] [] false [] 0 0),⟨_,rfl,rfl,qbj⟩,⟨(B0.mk 1 x8 x2.Text [] x2.Type_ false [] 0 0),⟨_,rfl,rfl,qbj⟩,⟨(B0.mk 1 x8 x2.Text [] x2.Type_ false [] x1 0),⟨_,rfl,rfl,qbj⟩,⟨p6,⟨_,rfl,rfl,qbj⟩,rfl⟩⟩⟩⟩⟩⟩) ?_
  obtain⟨⟨x9,x10⟩,k,h⟩:=ah h
  refine oy [0,1,2] (aag p6 x4 b3 v5 b6 _ k) (fun q C' hq=>?_)
  obtain⟨v11,rfl,rfl⟩:=hq
  refine rCtx [D9 b3 a8 (D3.mk v11 (.map (some b6)) x10.m),E6 v11 ag x10.l 49,E7 b6 en Rp.bool x10.known,p1] ?_
  refine kNo rfl ?_
  exact⟨x9,x10,v11,h,atOk⟩
theorem aj6 (x1:List (List B6)) (r:(List B0) × B4) (h:aa1 x1=some r):Fp 34 [ap (Rp.list af) x1] (br [ap ag r.1,(az).val r.2]):=by
 refine ec (rs:=[.tmp 2,.cell 3 30]) func34 rfl ntmps34 results34 dcd (fun s0=>?_)
 let p1:=B4.mk 0 0 0
 unfold aa1 at h
 refine W_rs (kAs rfl (bw al30 fun b2=>W_rs ?_))
 let p2:=D9 b2 az p1
 refine aol en Rp.bool (fun b3=>?_)
 let p3:=D3.mk (.slice none 0 0) (.map (some b3)) p1
 refine rEnv 9 (q:=va.val (.map (some b3))) (a2p rfl) ?_
 refine kUn (jm apj ⟨p3,⟨_,rfl,rfl,qbj⟩,rfl⟩) ?_
 refine rBox (R:=a8) (a:=p3) rfl (fun b4=>?_)
 refine kAs rfl (a7 (W_rs (kMvL rfl (kUn (mg rfl underlying24) ?_))))
 refine kMv rfl (a5 ?_)
 obtain⟨z2l,hz2,h⟩:=ah h
 obtain⟨n2,hN2⟩:=bv hz2
 refine di 0 (fun e C=>∃x6,∃x8,∃x9,∃v7,agl x6 x8 x9=some r/\At [(3,Pr.pt b2 0),(4,Pr.pt b4 0)] [p2,E7 b3 en Rp.bool x6,D9 b4 a8 (D3.mk v7 (.map (some b3)) x8),E6 v7 ag x9 49] e C) ?_ ?_
 ·rintro e C ⟨x6,x8,x9,v7,h,a⟩
  refine W_at a ?_
  unfold agl at h
  refine W_rs (kMv rfl (kNp rfl (kUn (ak aky) ?_)))
  refine kUn (abc (R:=a8) (a:=(D3.mk v7 (.map (some b3)) x8)) 2 ty38 aae) ?_
  refine kUn (jm st30 rfl) ?_
  refine kAs rfl (av 0 rfl rfl (Upd.refl _) rfl sizeOf30 ?_)
  refine ar0 3 [2] ?_ rfl ⟨rfl,tv⟩
  obtain rfl:=osj h
  exact bg ⟨rfl,[ap ag x9,(az).val p1],⟨yT aa,yBox 0 ty30 aa,tv⟩,aa⟩
 refine a0v ag 49 ?_
 refine ek (fun m e C=>∃x5,∃x6,∃x8,∃x9,∃v7,fq (fun s=>ow x1 s.1 s.2.1 s.2.2.1 s.2.2.2) m (x5,x6,x8,x9)=some z2l/\At [(3,Pr.pt b2 0),(4,Pr.pt b4 0),(12,ap (Rp.list af) x1),(13,P6 (x1.length:Int)),(14,P6 x5)] [p2,E7 b3 en Rp.bool x6,D9 b4 a8 (D3.mk v7 (.map (some b3)) x8),E6 v7 ag x9 49] e C) n2 ⟨0,([]:GMap B3 Bool),p1,[],(.slice none 0 0),hN2,⟨⟨aa,aa,aa,aa,aa,tv⟩,A9.refl _⟩⟩ ?_
 rintro m e C ⟨x5,x6,x8,x9,v7,hN2,a⟩
 refine W_at a ?_
 obtain⟨m2,w2l,rfl,h2l,hn2,ho2⟩:=bm hN2
 replace h2l:ow x1 x5 x6 x8 x9=some w2l:=h2l
 unfold ow at h2l
 refine W_rs (kIn rfl rfl rfl (a7 ?_))
 refine a6 h2l rfl (fun _ h2l=>?_) (fun _ h2l=>?_)
 ·refine ay (a7 (a5 (W_rs (kMv rfl ?_))))
  obtain⟨x16,k,h2l⟩:=ah h2l
  refine kUn (fo underlying24 sizeOf53 k) ?_
  refine kUn (cz ty53) ?_
  refine kAs rfl (kAsL rfl (W_rs (kMvL rfl (kUn (mg rfl underlying53) ?_))))
  refine kMv rfl (a5 ?_)
  obtain⟨z4l,hz4,h2l⟩:=ah h2l
  obtain⟨n4,hN4⟩:=bv hz4
  refine di 2 (fun e C=>∃x18,∃x20,∃x21,∃v19,ace x5 x18 x20 x21=some w2l/\At [(3,Pr.pt b2 0),(4,Pr.pt b4 0),(12,ap (Rp.list af) x1),(13,P6 (x1.length:Int)),(14,P6 x5)] [p2,E7 b3 en Rp.bool x18,D9 b4 a8 (D3.mk v19 (.map (some b3)) x20),E6 v19 ag x21 49] e C) ?_ ?_
  ·rintro e C ⟨x18,x20,x21,v19,h2l,a⟩
   refine W_at a ?_
   unfold ace at h2l
   refine W_r (kIn rfl rfl rfl (kMv rfl ?_))
   exact⟨m2,lsu,w64 (x5+1),x18,x20,x21,v19,hn2 _ (ojs h2l),atOk⟩
  refine ek (fun m e C=>∃x17,∃x18,∃x20,∃x21,∃v19,fq (fun s=>rf x16 x5 s.1 s.2.1 s.2.2.1 s.2.2.2) m (x17,x18,x20,x21)=some z4l/\At [(3,Pr.pt b2 0),(4,Pr.pt b4 0),(5,P6 x5),(12,ap (Rp.list af) x1),(13,P6 (x1.length:Int)),(14,P6 x5),(19,ap af x16),(20,P6 (x16.length:Int)),(21,P6 x17)] [p2,E7 b3 en Rp.bool x18,D9 b4 a8 (D3.mk v19 (.map (some b3)) x20),E6 v19 ag x21 49] e C) n4 ⟨0,x6,x8,x9,v7,hN4,⟨⟨aa,aa,aa,aa,aa,aa,aa,aa,aa,tv⟩,A9.refl _⟩⟩ ?_
  rintro m e C ⟨x17,x18,x20,x21,v19,hN4,a⟩
  refine W_at a ?_
  obtain⟨m4,w4l,rfl,h4l,hn4,ho4⟩:=bm hN4
  replace h4l:rf x16 x5 x17 x18 x20 x21=some w4l:=h4l
  unfold rf at h4l
  refine W_rs (kIn rfl rfl rfl (a7 ?_))
  refine a6 h4l rfl (fun _ h4l=>?_) (fun _ h4l=>?_)
  ·refine ay (a7 (a5 (W_rs ?_)))
   obtain⟨x28,k,h4l⟩:=ah h4l
   refine kUn (fo underlying53 sizeOf64 k) ?_
   refine kUn (cz ty64) ?_
   refine bw al64 fun b29=>av 4 rfl rfl (Upd.refl _) rfl sizeOf64 ?_
   refine bo (fun e C=>∃x34,∃x36,∃x37,∃x38,∃v35,rg x17 x34 x36 x37 x38=some w4l/\At [(3,Pr.pt b2 0),(4,Pr.pt b4 0),(5,P6 x5),(12,ap (Rp.list af) x1),(13,P6 (x1.length:Int)),(14,P6 x5),(19,ap af x16),(20,P6 (x16.length:Int)),(21,P6 x17),(34,Pb x34)] [D9 b4 a8 (D3.mk v35 (.map (some b3)) x36),E6 v35 ag x38 49,E7 b3 en Rp.bool x37,p2,D9 b29 af x28] e C) ?_ ?_
   ·rintro e C ⟨x34,x36,x37,x38,v35,h4l,a⟩
    refine W_at a ?_
    unfold rg at h4l
    refine a6 h4l rfl (fun _ h4l=>?_) (fun _ h4l=>?_)
    ·refine bo (fun e C=>acf x36=some w4l/\At [(2,Pi (.slice none 0 0)),(3,Pr.pt b2 0)] [D9 b4 a8 (D3.mk v35 (.map (some b3)) x36),E6 v35 ag x38 49,E7 b3 en Rp.bool x37,D9 b2 az x36,D9 b29 af x28] e C) ?_ ?_
     ·rintro e C ⟨h4l,a⟩
      refine W_at a ?_
      unfold acf at h4l
      obtain rfl:=ho4 _ (ojs h4l)
      replace h2l:some (.inr (.done ([],x36)))=some w2l:=h2l
      obtain rfl:=ho2 _ (ojs h2l)
      replace h:some ([],x36)=some r:=h
      obtain rfl:=osj h
      exact bg ⟨rfl,[ap ag [],(az).val x36],⟨yT (el _),yBox 3 ty30 aa,tv⟩,aa⟩
     refine i8 5 hmx kr kr ?_
     refine lUn (hMvA rfl) (lUn (aia rfl) (lUn (ak aw2) ?_))
     refine lUn (au 0 ty30 alh) ?_
     refine lUn (hAsA rfl) (av 3 rfl rfl (Upd.refl _) rfl sizeOf30 ?_)
     exact⟨h4l,atOk⟩
    refine ay (W_r (kIn rfl rfl rfl (kMv rfl ?_)))
    exact⟨m4,lsu,w64 (x17+1),x37,x36,x38,v35,hn4 _ (ojs h4l),⟨⟨aa,aa,aa,aa,aa,aa,aa,aa,aa,tv⟩,A9.of [3,2,0,1] rfl⟩⟩
   refine W_r (kUn (ak f4) ?_)
   refine kUn (au 4 ty3 bc) ?_
   refine kIn rfl rfl rfl (kMv rfl ?_)
   rcases cc h4l with⟨hc30,h4l⟩|⟨hc30,h4l⟩
   ·refine kGd rfl aa hc30 (hMvA rfl) (kGd rfl aa hc30 (hMvA rfl) (kGd rfl aa hc30 (au 4 ty64 (Sub.refl _)) ?_))
    obtain⟨⟨x31,x32⟩,k,h4l⟩:=ah h4l
    refine kOn rfl aa hc30 ?_
    refine oy [2,3,1] (ajv x5 x28 (B5.mk x21 x18 x20) b4 v19 b3 _ k) (fun q C' hq=>?_)
    obtain⟨v33,rfl,rfl⟩:=hq
    refine kGd rfl aa hc30 (qNot rfl) (kPt rfl hc30 rfl ?_)
    exact⟨!x31,x32.m,x32.known,x32.l,v33,h4l,atOk⟩
   refine skx ?_
   refine kPf rfl hc30 rfl ?_
   exact⟨false,x20,x18,x21,v19,h4l,⟨⟨aa,aa,aa,aa,aa,aa,aa,aa,aa,aa,tv⟩,A9.of [2,3,1,0,4] rfl⟩⟩
  refine ej ?_
  obtain rfl:=ho4 _ (ojs h4l)
  exact⟨x18,x20,x21,v19,h2l,atOk⟩
 refine ej ?_
 obtain rfl:=ho2 _ (ojs h2l)
 exact⟨x6,x8,x9,v7,h,atOk⟩
theorem aiz (x1:List B0) (x2:Bt) (r:B0 × Bool) (h:aee x1 x2=some r):Fp 124 [ap ag x1,Pr.str x2] (br [(ag).val r.1,Pb r.2]):=by
 refine ec (rs:=[.cell 4 49,.tmp 5]) func124 rfl ntmps124 results124 dcd (fun s0=>?_)
 let p1:=B0.mk 0 [] [] [] [] false [] 0 0
 unfold aee at h
 refine W_rs (bw tn fun b3=>kAs rfl (a7 (W_rs (kMvL rfl (kUn (mg rfl underlying38) ?_)))))
 refine kMv rfl (a5 ?_)
 obtain⟨z2l,hz2,h⟩:=ah h
 obtain⟨n2,hN2⟩:=bv hz2
 refine di 0 (fun e C=>ai0=some r/\At [(4,Pr.pt b3 0)] [D9 b3 ag p1] e C) ?_ ?_
 ·rintro e C ⟨h,a⟩
  refine W_at a ?_
  unfold ai0 at h
  refine W_rs (kUn (jm st49 rfl) ?_)
  refine av 0 rfl rfl (Upd.refl _) rfl sizeOf49 (kAs rfl ?_)
  obtain rfl:=osj h
  exact bg ⟨rfl,[(ag).val p1,Pb false],⟨yBox 0 ty49 aa,yT aa,tv⟩,aa⟩
 refine ek (fun m e C=>∃x4,fq (fun s=>vi x1 x2 s) m x4=some z2l/\At [(1,Pr.str x2),(4,Pr.pt b3 0),(8,ap ag x1),(9,P6 (x1.length:Int)),(10,P6 x4)] [D9 b3 ag p1] e C) n2 ⟨0,hN2,⟨⟨aa,aa,aa,aa,aa,tv⟩,A9.refl _⟩⟩ ?_
 rintro m e C ⟨x4,hN2,a⟩
 refine W_at a ?_
 obtain⟨m2,w2l,rfl,h2l,hn2,ho2⟩:=bm hN2
 replace h2l:vi x1 x2 x4=some w2l:=h2l
 unfold vi at h2l
 refine W_rs (kIn rfl rfl rfl (a7 ?_))
 refine a6 h2l rfl (fun _ h2l=>?_) (fun _ h2l=>?_)
 ·refine ay (a7 (a5 (W_rs ?_)))
  obtain⟨x7,k,h2l⟩:=ah h2l
  refine kUn (fo underlying38 sizeOf49 k) ?_
  refine kUn (cz ty49) ?_
  refine bw tn fun b8=>av 1 rfl rfl (Upd.refl _) rfl sizeOf49 ?_
  refine bo (fun e C=>∃x10,acy x7 x4 x10=some w2l/\At [(1,Pr.str x2),(4,Pr.pt b3 0),(7,Pr.pt b8 0),(8,ap ag x1),(9,P6 (x1.length:Int)),(10,P6 x4),(22,Pb x10)] [D9 b3 ag p1,D9 b8 ag x7] e C) ?_ ?_
  ·rintro e C ⟨x10,h2l,a⟩
   refine W_at a ?_
   unfold acy at h2l
   refine a6 h2l rfl (fun _ h2l=>?_) (fun _ h2l=>?_)
   ·refine W_rs (kUn (au 1 ty49 (Sub.refl _)) ?_)
    refine av 0 rfl rfl (Upd.refl _) rfl sizeOf49 (kAs rfl ?_)
    obtain rfl:=ho2 _ (ojs h2l)
    replace h:some (x7,true)=some r:=h
    obtain rfl:=osj h
    exact bg ⟨rfl,[(ag).val x7,Pb true],⟨yBox 0 ty49 aa,yT aa,tv⟩,aa⟩
   refine ay (W_r (kIn rfl rfl rfl (kMv rfl ?_)))
   exact⟨m2,lsu,w64 (x4+1),hn2 _ (ojs h2l),⟨⟨aa,aa,aa,aa,aa,tv⟩,A9.of [0] rfl⟩⟩
  refine W_r (kUn (ak vc) ?_)
  refine kUn (au 1 ty3 fg) ?_
  refine kIn rfl rfl rfl (kMv rfl ?_)
  rcases cc h2l with⟨hc9,h2l⟩|⟨hc9,h2l⟩
  ·refine kGd rfl aa hc9 (ak s5) ?_
   refine kGd rfl aa hc9 (au 1 ty9 iv) ?_
   refine kGd rfl aa hc9 (hMvA rfl) (kGd rfl aa hc9 (qStr rfl rfl rfl) (kPt rfl hc9 rfl ?_))
   exact⟨x7.Id==x2,h2l,atOk⟩
  refine skx ?_
  refine kPf rfl hc9 rfl ?_
  exact⟨false,h2l,atOk⟩
 refine ej ?_
 obtain rfl:=ho2 _ (ojs h2l)
 exact⟨h,atOk⟩
theorem aj5 {σ:Type} (yld:σ->B0->Option (Bool × σ)) (Y:YI σ) (l:Nat) (hY:YOK Tryz.prog Y l (fun a=>[(ag).val a]) yld) (x2:List B0) (x4:Bt) (x5:σ) (b1 b3:Nat) (v6:List Nat) (r:(List B0) × Bt × (σ)) (h:aa0 yld x2 x4 x5=some r):Fc 153 ([]++[ae4 l]++[Pr.pt b1 0,Pr.pt b3 0]) ([D9 b1 (Rp.list ag) x2,D9 b3 Rp.str x4]++[E5 Y x5 v6]) (fun _ C'=>∃w9,C'=[D9 b1 (Rp.list ag) r.1,D9 b3 Rp.str r.2.1]++[E5 Y r.2.2 w9]):=by
 refine i0 (rs:=[]) func153 rfl ntmps153 ⟨by decide,results153⟩ dcd (fun s0=>?_)
 unfold aa0 at h
 refine W_rs ?_
 refine awp Rp.bool (fun b7=>?_)
 refine kUn (hAs (out:=qy b7) rfl) (a5 ?_)
 obtain⟨n1,hN1⟩:=bv h
 refine ek (fun m e C=>∃x8,∃x9,∃x11,∃v10,fq (fun s=>lw yld x2 s.1 s.2.1 s.2.2) m (x8,x9,x11)=some r/\At [(0,ae4 l),(1,Pr.pt b1 0),(2,Pr.pt b3 0),(4,qy b7)] [D9 b1 (Rp.list ag) x2,D9 b3 Rp.str x8,E5 Y x9 v10,E4 b7 Rp.bool x11] e C) n1 ⟨x4,x5,([]:SMap Bool),v6,hN1,⟨⟨aa,aa,aa,aa,tv⟩,A9.refl _⟩⟩ ?_
 rintro m e C ⟨x8,x9,x11,v10,hN1,a⟩
 refine W_at a ?_
 obtain⟨m1,w1l,rfl,h1l,hn1,ho1⟩:=bm hN1
 replace h1l:lw yld x2 x8 x9 x11=some w1l:=h1l
 unfold lw at h1l
 refine a5 (W_rs (kUn (au 0 ty38 (Sub.refl _)) ?_))
 refine kUn (au 1 ty9 (Sub.refl _)) ?_
 obtain⟨⟨x16,x17⟩,k,h1l⟩:=ah h1l
 refine kUn (dz (aiz x2 x8 _ k)) ?_
 refine kUn (hMv (out:=br [(ag).val x16,Pb x17]) rfl) (kUn ar ?_)
 refine kUn ar ?_
 refine bw tn fun b18=>av 4 rfl rfl (Upd.refl _) rfl sizeOf49 (kAs rfl (a7 ?_))
 refine bo (fun e C=>∃x28,∃x29,∃v30,rd yld x2 x8 x16 x11 x28 x29=some w1l/\At [(0,ae4 l),(1,Pr.pt b1 0),(2,Pr.pt b3 0),(4,qy b7),(5,Pr.pt b18 0),(26,Pb x28)] [E5 Y x29 v30,D9 b1 (Rp.list ag) x2,D9 b3 Rp.str x8,E4 b7 Rp.bool x11,D9 b18 ag x16] e C) ?_ ?_
 ·rintro e C ⟨x28,x29,v30,h1l,a⟩
  refine W_at a ?_
  unfold rd at h1l
  refine a6 h1l rfl (fun _ h1l=>?_) (fun _ h1l=>?_)
  ·have h:some (x2,x8,x29)=some r:=congrArg some (ho1 _ (ojs h1l))
   obtain rfl:=osj h
   exact bg ⟨.inl rfl,_,A9.of [1,2,0] rfl,_,aa,v30,rfl⟩
  refine ay (W_rs (kUn (hMv (out:=qy b7) rfl) (kUn (au 2 ty9 (Sub.refl _)) ?_)))
  refine ay3 (R:=Rp.bool) (m:=x11) (kx:=x8) (v:=true) 3 underlying182 underlying9 ?_
  refine W_r (kUn (ak ahh) ?_)
  refine kUn (au 4 ty9 kb) ?_
  refine av 2 rfl rfl (Upd.refl _) rfl sizeOf9 ?_
  exact⟨m1,lsu,x16.Type_,x29,(mset x8 true x11),v30,hn1 _ (ojs h1l),⟨⟨aa,aa,aa,aa,tv⟩,A9.of [1,2,0,3] rfl⟩⟩
 refine W_r (kMv rfl (kNo rfl (kMv rfl ?_)))
 rcases cc h1l with⟨hc19,h1l⟩|⟨hc19,h1l⟩
 ·refine skx ?_
  refine kPt rfl hc19 rfl (kMv rfl ?_)
  have hc24:true=true:=rfl
  refine skx ?_
  refine kPt rfl hc24 rfl ?_
  exact⟨true,x9,v10,h1l,⟨⟨aa,aa,aa,aa,aa,aa,tv⟩,A9.of [2,0,1,3,4] rfl⟩⟩
 refine kGd rfl aa hc19 (hMv (out:=qy b7) rfl) (kGd rfl aa hc19 (au 1 ty9 (Sub.refl _)) ?_)
 refine kGd rfl aa hc19 (ay6 (R:=Rp.bool) (m:=x11) (kx:=x8) (z:=false) 3 underlying182 underlying9 zeroValue4 (fun _=>rfl)) ?_
 refine kPf rfl hc19 rfl (kMv rfl ?_)
 rcases cc h1l with⟨hc20,h1l⟩|⟨hc20,h1l⟩
 ·refine skx ?_
  refine kPt rfl hc20 rfl ?_
  exact⟨true,x9,v10,h1l,⟨⟨aa,aa,aa,aa,aa,aa,tv⟩,A9.of [2,0,1,3,4] rfl⟩⟩
 refine kGd rfl aa hc20 (hMv (out:=ae4 l) rfl) (kGd rfl aa hc20 (au 4 ty49 (Sub.refl _)) ?_)
 obtain⟨⟨x21,x22⟩,k,h1l⟩:=ah h1l
 refine kOn rfl aa hc20 ?_
 refine ayk 2 (a:=(x16)) hY k (fun v23=>?_)
 refine kGd rfl aa hc20 (qNot rfl) (kPf rfl hc20 rfl ?_)
 exact⟨!x21,x22,v23,h1l,atOk⟩
theorem amt (x1:List B0) (x2:Bt):Fc 109 [ap ag x1,Pr.str x2] [] (fun q C'=>∃b3 b4,q=oc 153 [] [Pr.pt b3 0,Pr.pt b4 0]/\C'=[D9 b3 (Rp.list ag) x1,D9 b4 Rp.str x2]):=by
 refine i0 (rs:=[4]) func109 rfl ntmps109 ⟨by decide,results109⟩ dcd (fun s0=>?_)
 refine W_rs ?_
 refine rBox (R:=Rp.list ag) (a:=x1) rfl (fun b3=>?_)
 refine rBox (R:=Rp.str) (a:=x2) rfl (fun b4=>?_)
 refine kAs rfl (W_rs (kUn rv ?_))
 refine kUn (hAs (out:=oc 153 [] [Pr.pt b3 0,Pr.pt b4 0]) rfl) ?_
 exact bg ⟨.inl rfl,_,A9.refl _,_,aa,b3,b4,rfl,rfl⟩
theorem amu (x1:List B0) (x2 x3:Bt) (r:Bool) (h:ag1 x1 x2 x3=some r):Fp 60 [ap ag x1,Pr.str x2,Pr.str x3] (Pb r):=by
 refine ec (n:=16) (rs:=[.cell 6 4]) func60 rfl ntmps60 results60 dcd (fun s0=>?_)
 unfold ag1 at h
 refine W_rs ?_
 refine rBox (R:=Rp.str) (a:=x3) rfl (fun b4=>?_)
 refine ae7 (R:=Rp.bool) (z:=false) zeroValue4 (fun _=>rfl) (fun b5=>?_)
 refine a0w ?_
 refine W_r ?_
 refine rq (out:=ap ag x1) gz ?_
 refine rq (out:=Pr.str x2) gz ?_
 refine oy [] (amt x1 x2) (fun q C' hq=>?_)
 obtain⟨b6,b7,rfl,rfl⟩:=hq
 refine⟨rfl,?_⟩
 obtain⟨⟨x11,x12,x15⟩,k,h⟩:=ah h
 refine as4 [0,1] (fun _=> .ret) (fun(s:(Unit) ⊕ (B0)) C=>match s with| .inl s=>C=[D9 b4 Rp.str x3,D9 b5 Rp.bool false]| .inr s=>∃b9,C=[D9 b4 Rp.str x3,D9 b5 Rp.bool true,D9 b9 ag s]) (encs:=(fun(a:B0)=>[(ag).val a])) (yld:=(fun(s:Unit) (a:B0)=>vk x3 a)) (st0:=()) (stF:=x15) (Ccap':=[D9 b6 (Rp.list ag) x11,D9 b7 Rp.str x12]) (fun l Y L hY=>aj5 _ Y l hY x1 x2 (.inl ()) b6 b7 L _ k) rfl (fun _=>rfl) ?_ ?_ (fun _ _ _ h=>h.1)
 ·rintro l _ x8 rr1 C T s0 rfl hy1
  replace hy1:vk x3 x8=some rr1:=hy1
  unfold vk at hy1
  refine W_r ?_
  refine ae7 (R:=ag) (z:=(B0.mk 0 [] [] [] [] false [] 0 0)) zeroValue49 (fun _=>⟨_,⟨_,_,rfl,rfl,⟨_,_,rfl,rfl,⟨_,_,rfl,rfl,⟨_,_,rfl,rfl,⟨_,_,rfl,rfl,⟨_,_,rfl,rfl,⟨_,_,rfl,⟨_,rfl,none,0,rfl,⟨Nat.le_refl _,fun _=>rfl⟩,.inl rfl⟩,⟨_,_,rfl,rfl,⟨_,_,rfl,rfl,rfl⟩⟩⟩⟩⟩⟩⟩⟩⟩,rfl⟩) (fun b9=>?_)
  refine yv (R:=ag) (R':=ag) (a:=(B0.mk 0 [] [] [] [] false [] 0 0)) (y:=x8) 2 sizeOf49 (Upd.refl _) ?_
  refine⟨rfl,fun T s0=>?_⟩
  refine aog ?_
  refine a5 ?_
  refine W_rs ?_
  refine rq (out:=Pr.pt b9 1) (ak s5) ?_
  refine rq (out:=Pr.str x8.Id) (au (R:=ag) (a:=x8) (R':=Rp.str) 2 ty9 iv) ?_
  refine rq (out:=Pr.str x3) (au (R:=Rp.str) (a:=x3) (R':=Rp.str) 0 ty9 (Sub.refl _)) ?_
  refine rq (out:=Pb (x8.Id==x3)) qStr ?_
  refine akv (b:=x8.Id==x3) rfl (fun hc10=>?_) (fun hc10=>?_)
  ·replace hy1:=iteT hc10 hy1
   refine W_rs ?_
   refine yv (R:=Rp.bool) (R':=Rp.bool) (a:=false) (y:=true) 1 sizeOf4 (Upd.refl _) ?_
   obtain rfl:=Option.some.inj hy1
   exact bg ⟨_,A9.refl _,.inr ⟨_,rfl,rfl,b9,rfl⟩⟩
  replace hy1:=iteF hc10 hy1
  refine ay ?_
  obtain rfl:=Option.some.inj hy1
  exact⟨_,A9.of [0,1] rfl,.inl ⟨rfl,_,rfl,rfl⟩⟩
 intro D C' hj
 cases x15 with
 |inl x13=>
  replace h:(some false)=some r:=h
  obtain rfl:=hj
  intro T s0
  refine W_rs ?_
  refine yv (R:=Rp.bool) (R':=Rp.bool) (a:=false) (y:=false) 3 sizeOf4 (Upd.refl _) ?_
  obtain rfl:=Option.some.inj h
  exact bg ⟨rfl,[Pb false],⟨yBox 3 ty4 aa,tv⟩,aa⟩
 |inr x16=>
  replace h:(some true)=some r:=h
  obtain⟨b9,rfl⟩:=hj
  obtain rfl:=Option.some.inj h
  exact .inr ⟨rfl,⟨rfl,[Pb true],⟨yBox 3 ty4 aa,tv⟩,aa⟩⟩
theorem ari (x1:List B0) (x2:Bt) (x3:(B0->Option Bool)) (r:B0 × Bool) (h:al4 x1 x2 x3=some r):Fp 155 [ap ag x1,Pr.str x2,d9 Tryz.prog (qz x3)] (br [(ag).val r.1,Pb r.2]):=by
 refine ec (n:=37) (rs:=[.cell 6 49,.tmp 7]) func155 rfl ntmps155 results155 dcd (fun s0=>?_)
 unfold al4 at h
 refine W_rs ?_
 refine rBox (R:=Rp.list ag) (a:=x1) rfl (fun b4=>?_)
 refine rBox (R:=Rp.fn (fun x=>d9 Tryz.prog (qz x)) ac9) (a:=x3) rfl (fun b5=>?_)
 refine ae7 (R:=ag) (z:=(B0.mk 0 [] [] [] [] false [] 0 0)) zeroValue49 (fun _=>⟨_,⟨_,_,rfl,rfl,⟨_,_,rfl,rfl,⟨_,_,rfl,rfl,⟨_,_,rfl,rfl,⟨_,_,rfl,rfl,⟨_,_,rfl,rfl,⟨_,_,rfl,⟨_,rfl,none,0,rfl,⟨Nat.le_refl _,fun _=>rfl⟩,.inl rfl⟩,⟨_,_,rfl,rfl,⟨_,_,rfl,rfl,rfl⟩⟩⟩⟩⟩⟩⟩⟩⟩,rfl⟩) (fun b6=>?_)
 refine rq (out:=Pb false) gb ?_
 refine W_scope ?_
 refine W_rs ?_
 refine ae7 (R:=ag) (z:=(B0.mk 0 [] [] [] [] false [] 0 0)) zeroValue49 (fun _=>⟨_,⟨_,_,rfl,rfl,⟨_,_,rfl,rfl,⟨_,_,rfl,rfl,⟨_,_,rfl,rfl,⟨_,_,rfl,rfl,⟨_,_,rfl,rfl,⟨_,_,rfl,⟨_,rfl,none,0,rfl,⟨Nat.le_refl _,fun _=>rfl⟩,.inl rfl⟩,⟨_,_,rfl,rfl,⟨_,_,rfl,rfl,rfl⟩⟩⟩⟩⟩⟩⟩⟩⟩,rfl⟩) (fun b7=>?_)
 refine W_rs ?_
 refine ae7 (R:=Rp.bool) (z:=false) zeroValue4 (fun _=>rfl) (fun b8=>?_)
 refine yv (R:=Rp.bool) (R':=Rp.bool) (a:=false) (y:=false) 4 sizeOf4 (Upd.refl _) ?_
 refine a7 ?_
 refine W_label ?_
 refine a0w ?_
 refine W_r ?_
 refine rq (out:=ap ag x1) (au (R:=Rp.list ag) (a:=x1) (R':=Rp.list ag) 0 ty38 (Sub.refl _)) ?_
 refine rq (out:=Pr.str x2) gz ?_
 refine oy [] (amt x1 x2) (fun q C' hq=>?_)
 obtain⟨b9,b10,rfl,rfl⟩:=hq
 refine⟨rfl,?_⟩
 obtain⟨⟨x22,x23,x26⟩,k,h⟩:=ah h
 refine as4 [0,1] (fun _=> .exit 0) (fun(s:(Unit) ⊕ (B0 × B0)) C=>match s with| .inl s=>C=[D9 b4 (Rp.list ag) x1,D9 b5 (Rp.fn (fun x=>d9 Tryz.prog (qz x)) ac9) x3,D9 b6 ag (B0.mk 0 [] [] [] [] false [] 0 0),D9 b7 ag (B0.mk 0 [] [] [] [] false [] 0 0),D9 b8 Rp.bool false]| .inr s=>∃b12,∃b17,C=[D9 b4 (Rp.list ag) x1,D9 b5 (Rp.fn (fun x=>d9 Tryz.prog (qz x)) ac9) x3,D9 b6 ag (B0.mk 0 [] [] [] [] false [] 0 0),D9 b7 ag s.1,D9 b8 Rp.bool true,D9 b12 ag s.2,D9 b17 ag s.1]) (encs:=(fun(a:B0)=>[(ag).val a])) (yld:=(fun(s:Unit) (a:B0)=>y0 x1 x3 a)) (st0:=()) (stF:=x26) (Ccap':=[D9 b9 (Rp.list ag) x22,D9 b10 Rp.str x23]) (fun l Y L hY=>aj5 _ Y l hY x1 x2 (.inl ()) b9 b10 L _ k) rfl (fun _=>rfl) ?_ ?_ (fun x _ _ h=>by cases x<;>first|exact h.1|exact h.elim)
 ·rintro l _ x11 rr1 C T s0 rfl hy1
  replace hy1:y0 x1 x3 x11=some rr1:=hy1
  unfold y0 at hy1
  refine W_r ?_
  refine ae7 (R:=ag) (z:=(B0.mk 0 [] [] [] [] false [] 0 0)) zeroValue49 (fun _=>⟨_,⟨_,_,rfl,rfl,⟨_,_,rfl,rfl,⟨_,_,rfl,rfl,⟨_,_,rfl,rfl,⟨_,_,rfl,rfl,⟨_,_,rfl,rfl,⟨_,_,rfl,⟨_,rfl,none,0,rfl,⟨Nat.le_refl _,fun _=>rfl⟩,.inl rfl⟩,⟨_,_,rfl,rfl,⟨_,_,rfl,rfl,rfl⟩⟩⟩⟩⟩⟩⟩⟩⟩,rfl⟩) (fun b12=>?_)
  refine yv (R:=ag) (R':=ag) (a:=(B0.mk 0 [] [] [] [] false [] 0 0)) (y:=x11) 5 sizeOf49 (Upd.refl _) ?_
  refine⟨rfl,fun T s0=>?_⟩
  refine aog ?_
  refine a5 ?_
  refine W_rs ?_
  refine rq (out:=ap ag x1) (au (R:=Rp.list ag) (a:=x1) (R':=Rp.list ag) 0 ty38 (Sub.refl _)) ?_
  refine rq (out:=P6 (x1.length:Int)) (mg rfl underlying38) ?_
  refine rq (out:=P6 0) gz ?_
  refine a5 ?_
  obtain⟨z3l,hz3,hy1⟩:=ah hy1
  obtain⟨n3,hN3⟩:=bv hz3
  clear hz3
  refine di 2 (fun e C=>amg=some rr1/\At [] [D9 b4 (Rp.list ag) x1,D9 b5 (Rp.fn (fun x=>d9 Tryz.prog (qz x)) ac9) x3,D9 b6 ag (B0.mk 0 [] [] [] [] false [] 0 0),D9 b7 ag (B0.mk 0 [] [] [] [] false [] 0 0),D9 b8 Rp.bool false,D9 b12 ag x11] e C) ?_ ?_
  ·rintro e C ⟨hy1,a⟩
   unfold amg at hy1
   obtain rfl:=Option.some.inj hy1
   exact⟨_,(A9.trans a.2 (A9.of [0,1,2,3,4] rfl)),.inl ⟨rfl,_,rfl,rfl⟩⟩
  refine ek (fun m e C=>∃x13,fq (fun s=>aaw x1 x11 x3 s) m x13=some z3l/\At [(5,Pr.pt b5 0),(6,Pr.pt b6 0),(8,Pr.pt b7 0),(9,Pr.pt b8 0),(10,Pr.pt b12 0),(17,ap ag x1),(18,P6 (x1.length:Int)),(19,P6 x13)] [D9 b4 (Rp.list ag) x1,D9 b5 (Rp.fn (fun x=>d9 Tryz.prog (qz x)) ac9) x3,D9 b6 ag (B0.mk 0 [] [] [] [] false [] 0 0),D9 b7 ag (B0.mk 0 [] [] [] [] false [] 0 0),D9 b8 Rp.bool false,D9 b12 ag x11] e C) n3 ⟨0,hN3,⟨⟨aa,aa,aa,aa,aa,aa,aa,aa,tv⟩,A9.refl _⟩⟩ ?_
  clear hN3
  rintro m e C ⟨x13,hN3,a⟩
  refine W_at a ?_
  clear a
  obtain⟨m3,w3l,rfl,h3l,hn3,ho3⟩:=bm hN3
  clear hN3
  replace h3l:aaw x1 x11 x3 x13=some w3l:=h3l
  unfold aaw at h3l
  refine W_rs ?_
  refine rq (out:=Pb (decide (x13<(x1.length:Int)))) qInt ?_
  refine a7 ?_
  refine akv (b:=decide (x13<(x1.length:Int))) rfl (fun hc15=>?_) (fun hc15=>?_)
  ·replace h3l:=iteT hc15 h3l
   refine ay ?_
   refine a7 ?_
   refine a5 ?_
   refine W_rs ?_
   obtain⟨x16,k,h3l⟩:=ah h3l
   refine rq (out:=g0 ag x16) (fo (R:=ag) (l:=x1) underlying38 sizeOf49 k) ?_
   refine rq (out:=(ag).val x16) (cz (R:=ag) (a:=x16) ty49) ?_
   refine ae7 (R:=ag) (z:=(B0.mk 0 [] [] [] [] false [] 0 0)) zeroValue49 (fun _=>⟨_,⟨_,_,rfl,rfl,⟨_,_,rfl,rfl,⟨_,_,rfl,rfl,⟨_,_,rfl,rfl,⟨_,_,rfl,rfl,⟨_,_,rfl,rfl,⟨_,_,rfl,⟨_,rfl,none,0,rfl,⟨Nat.le_refl _,fun _=>rfl⟩,.inl rfl⟩,⟨_,_,rfl,rfl,⟨_,_,rfl,rfl,rfl⟩⟩⟩⟩⟩⟩⟩⟩⟩,rfl⟩) (fun b17=>?_)
   refine yv (R:=ag) (R':=ag) (a:=(B0.mk 0 [] [] [] [] false [] 0 0)) (y:=x16) 6 sizeOf49 (Upd.refl _) ?_
   refine bo (fun e C=>∃x20,ag6 x16 x11 x13 x20=some w3l/\At [(5,Pr.pt b5 0),(6,Pr.pt b6 0),(8,Pr.pt b7 0),(9,Pr.pt b8 0),(10,Pr.pt b12 0),(12,Pr.pt b17 0),(17,ap ag x1),(18,P6 (x1.length:Int)),(19,P6 x13),(32,Pb x20)] [D9 b4 (Rp.list ag) x1,D9 b5 (Rp.fn (fun x=>d9 Tryz.prog (qz x)) ac9) x3,D9 b6 ag (B0.mk 0 [] [] [] [] false [] 0 0),D9 b7 ag (B0.mk 0 [] [] [] [] false [] 0 0),D9 b8 Rp.bool false,D9 b12 ag x11,D9 b17 ag x16] e C) ?_ ?_
   ·rintro e C ⟨x20,h3l,a⟩
    refine W_at a ?_
    clear a
    unfold ag6 at h3l
    refine akv (b:=x20) rfl (fun hc21=>?_) (fun hc21=>?_)
    ·replace h3l:=iteT hc21 h3l
     refine W_rs ?_
     refine rq (out:=(ag).val x16) (au (R:=ag) (a:=x16) (R':=ag) 6 ty49 (Sub.refl _)) ?_
     refine yv (R:=ag) (R':=ag) (a:=(B0.mk 0 [] [] [] [] false [] 0 0)) (y:=x16) 3 sizeOf49 (Upd.refl _) ?_
     refine yv (R:=Rp.bool) (R':=Rp.bool) (a:=false) (y:=true) 4 sizeOf4 (Upd.refl _) ?_
     obtain rfl:=ho3 _ (ojs h3l)
     replace hy1:some (false,.inr (x16,x11))=some rr1:=hy1
     obtain rfl:=Option.some.inj hy1
     exact ej ⟨_,A9.refl _,.inr ⟨_,rfl,rfl,b12,b17,rfl⟩⟩
    replace h3l:=iteF hc21 h3l
    refine ay ?_
    refine W_r ?_
    refine rq (out:=P6 (w64 (x13+1))) qInt ?_
    refine rq (out:=P6 (w64 (x13+1))) gz ?_
    exact⟨m3,lsu,w64 (x13+1),hn3 _ (ojs h3l),⟨⟨aa,aa,aa,aa,aa,aa,aa,aa,tv⟩,A9.of [0,1,2,3,4,5] rfl⟩⟩
   refine W_r ?_
   refine rq (out:=Pr.pt b17 3) (ak ama) ?_
   refine rq (out:=Pr.str x16.Owner) (au (R:=ag) (a:=x16) (R':=Rp.str) 6 ty9 qd) ?_
   refine rq (out:=Pr.pt b12 1) (ak s5) ?_
   refine rq (out:=Pr.str x11.Id) (au (R:=ag) (a:=x11) (R':=Rp.str) 5 ty9 iv) ?_
   refine rq (out:=Pb (x16.Owner==x11.Id)) qStr ?_
   refine rq (out:=Pb (x16.Owner==x11.Id)) gz ?_
   rcases cc h3l with⟨hc18,h3l⟩|⟨hc18,h3l⟩
   ·refine rqg hc18 (out:=d9 Tryz.prog (qz x3)) (au (R:=Rp.fn (fun x=>d9 Tryz.prog (qz x)) ac9) (a:=x3) (R':=Rp.fn (fun x=>d9 Tryz.prog (qz x)) ac9) 1 ty148 (Sub.refl _)) ?_
    refine rqg hc18 (out:=(ag).val x16) (au (R:=ag) (a:=x16) (R':=ag) 6 ty49 (Sub.refl _)) ?_
    obtain⟨x19,k,h3l⟩:=ah h3l
    refine rqg hc18 (out:=Pb x19) (amn (spec:=qz x3) ⟨_,_,rfl,rfl,k⟩) ?_
    refine rq (out:=Pb x19) (a2j hc18) ?_
    exact⟨x19,h3l,⟨⟨aa,aa,aa,aa,aa,aa,aa,aa,aa,aa,tv⟩,A9.refl _⟩⟩
   refine rno (neT hc18) ?_
   refine rno (neT hc18) ?_
   refine rno (neT hc18) ?_
   refine rq (out:=Pb false) (a2k hc18) ?_
   exact⟨false,h3l,⟨⟨aa,aa,aa,aa,aa,aa,aa,aa,aa,aa,tv⟩,A9.refl _⟩⟩
  replace h3l:=iteF hc15 h3l
  refine ej ?_
  obtain rfl:=ho3 _ (ojs h3l)
  exact⟨hy1,⟨trivial,A9.refl _⟩⟩
 intro D C' hj
 cases x26 with
 |inl x24=>
  replace h:(ag5)=some r:=h
  obtain rfl:=hj
  intro T s0
  refine bo (fun e C=>ag5=some r/\At [(6,Pr.pt b6 0),(7,Pb false)] [D9 b9 (Rp.list ag) x22,D9 b10 Rp.str x23,D9 b4 (Rp.list ag) x1,D9 b5 (Rp.fn (fun x=>d9 Tryz.prog (qz x)) ac9) x3,D9 b6 ag (B0.mk 0 [] [] [] [] false [] 0 0),D9 b7 ag (B0.mk 0 [] [] [] [] false [] 0 0),D9 b8 Rp.bool false] e C) ?_ ?_
  ·rintro e C ⟨h,a⟩
   refine W_at a ?_
   clear a
   unfold ag5 at h
   obtain rfl:=Option.some.inj h
   exact bg ⟨rfl,[(ag).val (B0.mk 0 [] [] [] [] false [] 0 0),Pb false],⟨yBox 4 ty49 aa,yT aa,tv⟩,aa⟩
  refine ga [(2,4,D9 b6 ag (B0.mk 0 [] [] [] [] false [] 0 0))] [D9 b9 (Rp.list ag) x22,D9 b10 Rp.str x23,D9 b4 (Rp.list ag) x1,D9 b5 (Rp.fn (fun x=>d9 Tryz.prog (qz x)) ac9) x3,D9 b6 ag (B0.mk 0 [] [] [] [] false [] 0 0),D9 b7 ag (B0.mk 0 [] [] [] [] false [] 0 0),D9 b8 Rp.bool false] hmx kr kr (show([2]:List Nat).Nodup by decide) (show([4]:List Nat).Nodup by decide) rfl rfl ?_
  refine eql 5 ty49 (Sub.refl _) rfl rfl kr ?_
  refine eql 6 ty4 (Sub.refl _) rfl rfl kr ?_
  refine eqs 4 sizeOf49 (Upd.refl _) rfl rfl rfl kr ?_
  refine eq1 (out:=Pb false) (fun C2 hC=>gb) ?_
  exact⟨h,⟨⟨aa,aa,tv⟩,A9.refl _⟩⟩
 |inr x27=>
  replace h:(ag4 x27)=some r:=h
  obtain⟨b12,b17,rfl⟩:=hj
  refine .inl ⟨rfl,fun T s0=>?_⟩
  refine bo (fun e C=>ag4 x27=some r/\At [(6,Pr.pt b6 0),(7,Pb true)] [D9 b9 (Rp.list ag) x22,D9 b10 Rp.str x23,D9 b4 (Rp.list ag) x1,D9 b5 (Rp.fn (fun x=>d9 Tryz.prog (qz x)) ac9) x3,D9 b6 ag x27.1,D9 b7 ag x27.1,D9 b8 Rp.bool true,D9 b12 ag x27.2,D9 b17 ag x27.1] e C) ?_ ?_
  ·rintro e C ⟨h,a⟩
   refine W_at a ?_
   clear a
   unfold ag4 at h
   obtain rfl:=Option.some.inj h
   exact bg ⟨rfl,[(ag).val x27.1,Pb true],⟨yBox 4 ty49 aa,yT aa,tv⟩,aa⟩
  refine ga [(2,4,D9 b6 ag x27.1)] [D9 b9 (Rp.list ag) x22,D9 b10 Rp.str x23,D9 b4 (Rp.list ag) x1,D9 b5 (Rp.fn (fun x=>d9 Tryz.prog (qz x)) ac9) x3,D9 b6 ag x27.1,D9 b7 ag x27.1,D9 b8 Rp.bool true,D9 b12 ag x27.2,D9 b17 ag x27.1] hmx kr kr (show([2]:List Nat).Nodup by decide) (show([4]:List Nat).Nodup by decide) rfl rfl ?_
  refine eql 5 ty49 (Sub.refl _) rfl rfl kr ?_
  refine eql 6 ty4 (Sub.refl _) rfl rfl kr ?_
  refine eqs 4 sizeOf49 (Upd.refl _) rfl rfl rfl kr ?_
  refine eq1 (out:=Pb true) (fun C2 hC=>gb) ?_
  exact⟨h,⟨⟨aa,aa,tv⟩,A9.refl _⟩⟩
theorem aqp (x1:B0) (x2:Bt) (r:Bool) (h:aen x1 x2=some r):Fp 156 [(ag).val x1,g0 Rp.str x2] (Pb r):=by
 refine dv (rs:=[3]) func156 rfl ntmps156 ⟨by decide,results156⟩ dcd (fun s0=>?_)
 unfold aen at h
 refine W_rs ?_
 refine rBox (R:=ag) (a:=x1) rfl (fun b3=>?_)
 refine kAs rfl ?_
 refine bo (fun e C=>∃x5,xn x5=some r/\At [(3,Pb x5)] [D9 b3 ag x1] e C) ?_ ?_
 ·rintro e C ⟨x5,h,a⟩
  refine W_at a ?_
  unfold xn at h
  obtain rfl:=osj h
  exact bg ⟨rfl,aa⟩
 refine W_r (kUn (ak vc) ?_)
 refine kUn (au 0 ty3 fg) ?_
 refine kIn rfl rfl rfl (kMv rfl ?_)
 rcases cc h with⟨hc4,h⟩|⟨hc4,h⟩
 ·refine kGd rfl aa hc4 (ak ahi) ?_
  refine kGd rfl aa hc4 (au 0 ty9 lm) ?_
  refine kGd rfl aa hc4 (cz ty9) ?_
  refine kGd rfl aa hc4 (qStr rfl rfl rfl) (kPt rfl hc4 rfl (kAs rfl ?_))
  exact⟨x1.Name==x2,h,atOk⟩
 refine skx ?_
 refine kPf rfl hc4 rfl (kAs rfl ?_)
 exact⟨false,h,atOk⟩
theorem ai2 (x1:List B0) (x2 x3:Bt) (r:B0 × Bool) (h:w4 x1 x2 x3=some r):Fp 113 [ap ag x1,Pr.str x2,Pr.str x3] (br [(ag).val r.1,Pb r.2]):=by
 refine ec (rs:=[.cell 6 49,.tmp 7]) func113 rfl ntmps113 results113 dcd (fun s0=>?_)
 unfold w4 at h
 refine W_rs ?_
 refine rBox (R:=Rp.str) (a:=x3) rfl (fun b4=>?_)
 refine bw tn fun b5=>kAs rfl (W_rs (kMvL rfl (kMv rfl ?_)))
 refine ayd 0 [5] ?_ rfl ⟨rfl,tv⟩
 refine kUn rv ?_
 obtain⟨⟨x6,x7⟩,k,h⟩:=ah h
 refine kUn (adm (ari x1 x2 (fun a0=>aen a0 x3) _ k) ⟨aa,aa,(avt en156 (fun _ _ hs=>by obtain⟨a0,r,rfl,rfl,hr⟩:=hs;exact aqp a0 x3 r hr)),tv⟩) ?_
 refine kUn ar ?_
 refine kUn ar ?_
 refine av 0 rfl rfl (Upd.refl _) rfl sizeOf49 (kAs rfl ?_)
 obtain rfl:=osj h
 exact bg ⟨rfl,[(ag).val x6,Pb x7],⟨yBox 0 ty49 aa,yT aa,tv⟩,aa⟩
theorem apw (x1:B0) (x2:Bt) (r:Bool) (h:acz x1 x2=some r):Fp 157 [(ag).val x1,g0 Rp.str x2] (Pb r):=by
 refine dv (rs:=[3]) func157 rfl ntmps157 ⟨by decide,results157⟩ dcd (fun s0=>?_)
 unfold acz at h
 refine W_rs ?_
 refine rBox (R:=ag) (a:=x1) rfl (fun b3=>?_)
 refine kAs rfl ?_
 refine bo (fun e C=>∃x5,vt x5=some r/\At [(3,Pb x5)] [D9 b3 ag x1] e C) ?_ ?_
 ·rintro e C ⟨x5,h,a⟩
  refine W_at a ?_
  unfold vt at h
  obtain rfl:=osj h
  exact bg ⟨rfl,aa⟩
 refine W_r (kUn (ak vc) ?_)
 refine kUn (au 0 ty3 fg) ?_
 refine kIn rfl rfl rfl (kMv rfl ?_)
 rcases cc h with⟨hc4,h⟩|⟨hc4,h⟩
 ·refine kGd rfl aa hc4 (ak ahi) ?_
  refine kGd rfl aa hc4 (au 0 ty9 lm) ?_
  refine kGd rfl aa hc4 (cz ty9) ?_
  refine kGd rfl aa hc4 (qStr rfl rfl rfl) (kPt rfl hc4 rfl (kAs rfl ?_))
  exact⟨x1.Name==x2,h,atOk⟩
 refine skx ?_
 refine kPf rfl hc4 rfl (kAs rfl ?_)
 exact⟨false,h,atOk⟩
theorem ahu (x1:List B0) (x2 x3:Bt) (r:B0 × Bool) (h:wj x1 x2 x3=some r):Fp 117 [ap ag x1,Pr.str x2,Pr.str x3] (br [(ag).val r.1,Pb r.2]):=by
 refine ec (rs:=[.cell 6 49,.tmp 7]) func117 rfl ntmps117 results117 dcd (fun s0=>?_)
 unfold wj at h
 refine W_rs ?_
 refine rBox (R:=Rp.str) (a:=x3) rfl (fun b4=>?_)
 refine bw tn fun b5=>kAs rfl (W_rs (kMvL rfl (kMv rfl ?_)))
 refine ayd 0 [5] ?_ rfl ⟨rfl,tv⟩
 refine kUn rv ?_
 obtain⟨⟨x6,x7⟩,k,h⟩:=ah h
 refine kUn (adm (ari x1 x2 (fun a0=>acz a0 x3) _ k) ⟨aa,aa,(avt en157 (fun _ _ hs=>by obtain⟨a0,r,rfl,rfl,hr⟩:=hs;exact apw a0 x3 r hr)),tv⟩) ?_
 refine kUn ar ?_
 refine kUn ar ?_
 refine av 0 rfl rfl (Upd.refl _) rfl sizeOf49 (kAs rfl ?_)
 obtain rfl:=osj h
 exact bg ⟨rfl,[(ag).val x6,Pb x7],⟨yBox 0 ty49 aa,yT aa,tv⟩,aa⟩
theorem adk (x1 x2:List Bt) (r:Bool) (h:kh x1 x2=some r):Fp 162 [ap Rp.str x1,ap Rp.str x2] (Pb r):=by
 refine dv (rs:=[4]) func162 rfl ntmps162 ⟨by decide,results162⟩ dcd (fun s0=>?_)
 unfold kh at h
 refine W_rs (kAs rfl (a7 (W_rs (kMvL rfl (kUn (mg rfl underlying22) ?_)))))
 refine kMvL rfl (kUn (mg rfl underlying22) ?_)
 refine kIn rfl rfl rfl ?_
 refine a6 h rfl (fun _ h=>?_) (fun _ h=>?_)
 ·refine W_rs (kAs rfl ?_)
  obtain rfl:=osj h
  exact bg ⟨rfl,aa⟩
 refine ay (a7 (W_rs (kMvL rfl (kUn (mg rfl underlying22) ?_))))
 refine kMv rfl (a5 ?_)
 obtain⟨z2l,hz2,h⟩:=ah h
 obtain⟨n2,hN2⟩:=bv hz2
 refine di 0 (fun e C=>ob=some r/\At [] [] e C) ?_ ?_
 ·rintro e C ⟨h,a⟩
  refine W_at a ?_
  unfold ob at h
  refine W_rs (kAs rfl ?_)
  obtain rfl:=osj h
  exact bg ⟨rfl,aa⟩
 refine ek (fun m e C=>∃x4,fq (fun s=>fi x1 x2 s) m x4=some z2l/\At [(0,ap Rp.str x1),(1,ap Rp.str x2),(12,P6 (x1.length:Int)),(13,P6 x4)] [] e C) n2 ⟨0,hN2,⟨⟨aa,aa,aa,aa,tv⟩,A9.refl _⟩⟩ ?_
 rintro m e C ⟨x4,hN2,a⟩
 refine W_at a ?_
 obtain⟨m2,w2l,rfl,h2l,hn2,ho2⟩:=bm hN2
 replace h2l:fi x1 x2 x4=some w2l:=h2l
 unfold fi at h2l
 refine W_rs (kIn rfl rfl rfl (a7 ?_))
 refine a6 h2l rfl (fun _ h2l=>?_) (fun _ h2l=>?_)
 ·refine ay (a7 (a5 (W_rs (kMv rfl (kAs rfl ?_)))))
  refine bo (fun e C=>∃x7,∃x8,lc x4 x7 x8=some w2l/\At [(0,ap Rp.str x1),(1,ap Rp.str x2),(12,P6 (x1.length:Int)),(13,P6 x4),(24,Pb (!(x7==x8)))] [] e C) ?_ ?_
  ·rintro e C ⟨x7,x8,h2l,a⟩
   refine W_at a ?_
   unfold lc at h2l
   refine a6 h2l rfl (fun _ h2l=>?_) (fun _ h2l=>?_)
   ·refine W_rs (kAs rfl ?_)
    obtain rfl:=ho2 _ (ojs h2l)
    replace h:some false=some r:=h
    obtain rfl:=osj h
    exact bg ⟨rfl,aa⟩
   refine ay (W_r (kIn rfl rfl rfl (kMv rfl ?_)))
   exact⟨m2,lsu,w64 (x4+1),hn2 _ (ojs h2l),atOk⟩
  refine i8 9 hmx kr kr ?_
  refine lUn (hMvL rfl) (lUn (hMvA rfl) ?_)
  obtain⟨x7,k,h2l⟩:=ah h2l
  refine lUn (fo underlying22 sizeOf9 k) ?_
  refine lUn (cz ty9) ?_
  refine lUn (hMvL rfl) (lUn (hMvA rfl) ?_)
  obtain⟨x8,k,h2l⟩:=ah h2l
  refine lUn (fo underlying22 sizeOf9 k) ?_
  refine lUn (cz ty9) ?_
  refine lUn (qStr rfl rfl rfl) ?_
  exact⟨x7,x8,h2l,atOk⟩
 refine ej ?_
 obtain rfl:=ho2 _ (ojs h2l)
 exact⟨h,atOk⟩
theorem auv (x1 x2:B0) (r:Bool) (h:ak4 x1 x2=some r):Fp 125 [(ag).val x1,(ag).val x2] (Pb r):=by
 refine dv (rs:=[4]) func125 rfl ntmps125 ⟨by decide,results125⟩ dcd (fun s0=>?_)
 unfold ak4 at h
 refine W_rs ?_
 refine rBox (R:=ag) (a:=x1) rfl (fun b3=>?_)
 refine rBox (R:=ag) (a:=x2) rfl (fun b4=>?_)
 refine kAs rfl ?_
 refine bo (fun e C=>∃x10,y8 x10=some r/\At [(4,Pb x10)] [D9 b3 ag x1,D9 b4 ag x2] e C) ?_ ?_
 ·rintro e C ⟨x10,h,a⟩
  refine W_at a ?_
  unfold y8 at h
  obtain rfl:=osj h
  exact bg ⟨rfl,aa⟩
 refine W_r (kUn (ak ahh) ?_)
 refine kUn (au 0 ty9 kb) ?_
 refine kUn (ak ahh) ?_
 refine kUn (au 1 ty9 kb) ?_
 refine kSt rfl rfl rfl (kMv rfl ?_)
 rcases cc h with⟨hc5,h⟩|⟨hc5,h⟩
 ·refine kGd rfl aa hc5 (ak avr) ?_
  refine kGd rfl aa hc5 (au 0 ty4 yt) ?_
  refine kGd rfl aa hc5 (ak avr) ?_
  refine kGd rfl aa hc5 (au 1 ty4 yt) ?_
  refine kGd rfl aa hc5 (avk underlying4) ?_
  refine kPt rfl hc5 rfl (kMv rfl ?_)
  rcases cc h with⟨hc6,h⟩|⟨hc6,h⟩
  ·refine kGd rfl aa hc6 (ak aih) ?_
   refine kGd rfl aa hc6 (au 0 ty22 tc) ?_
   refine kGd rfl aa hc6 (ak aih) ?_
   refine kGd rfl aa hc6 (au 1 ty22 tc) ?_
   obtain⟨x7,k,h⟩:=ah h
   refine kGd rfl aa hc6 (dz (adk x1.Params x2.Params _ k)) ?_
   refine kPt rfl hc6 rfl (kAs rfl ?_)
   exact⟨x7,h,atOk⟩
  refine skx ?_
  refine kPf rfl hc6 rfl (kAs rfl ?_)
  exact⟨false,h,atOk⟩
 refine skx ?_
 refine kPf rfl hc5 rfl (kMv rfl ?_)
 have hc8:false=false:=rfl
 refine skx ?_
 refine kPf rfl hc8 rfl (kAs rfl ?_)
 exact⟨false,h,atOk⟩
end Go.Proofs.YtcndghapmoaidaaGreatDoor
set_option linter.unusedSectionVars false
set_option maxRecDepth 100000
set_option maxHeartbeats 4000000
namespace Go.Proofs.YtcndghapmoaidaaGreatDoor
open Go Go.Cn Tryz
attribute [local irreducible] g0 ap
theorem aut (x1:List B0) (x2:B0) (r:Int) (h:ain x1 x2=some r):Fp 72 [ap ag x1,(ag).val x2] (P6 r):=by
 refine dv (rs:=[4]) func72 rfl ntmps72 ⟨by decide,results72⟩ dcd (fun s0=>?_)
 unfold ain at h
 refine W_rs ?_
 refine rBox (R:=ag) (a:=x2) rfl (fun b3=>?_)
 let p1:=D9 b3 ag x2
 refine kAs rfl (W_rs (kMvL rfl (kUn (ak ama) ?_)))
 refine kUn (au 0 ty9 qd) ?_
 obtain⟨⟨x4,x5⟩,k,h⟩:=ah h
 refine kUn (dz (aiz x1 x2.Owner _ k)) ?_
 refine kUn (hMv (out:=br [(ag).val x4,Pb x5]) rfl) (kUn ar ?_)
 refine kUn ar ?_
 refine bw tn fun b6=>av 1 rfl rfl (Upd.refl _) rfl sizeOf49 (kAs rfl (a7 ?_))
 let p2:=D9 b6 ag x4
 refine bo (fun e C=>∃x8,acw x2 x1 x4 x8=some r/\At [(0,ap ag x1),(3,Pr.pt b3 0),(5,Pr.pt b6 0),(26,Pb x8)] [p1,p2] e C) ?_ ?_
 ·rintro e C ⟨x8,h,a⟩
  refine W_at a ?_
  unfold acw at h
  refine a6 h rfl (fun _ h=>?_) (fun _ h=>?_)
  ·refine W_rs (kAs rfl ?_)
   obtain rfl:=osj h
   exact bg ⟨rfl,aa⟩
  refine ay ?_
  refine bo (fun e C=>vh=some r/\At [] [p1,p2] e C) ?_ ?_
  ·rintro e C ⟨h,a⟩
   refine W_at a ?_
   unfold vh at h
   refine W_rs (kAs rfl ?_)
   obtain rfl:=osj h
   exact bg ⟨rfl,aa⟩
  refine W_rs (kUn (ak vc) ?_)
  refine kUn (au 0 ty3 fg) ?_
  refine a5 (W_rs (kIn rfl rfl rfl (kAs rfl ?_)))
  refine a6 h rfl (fun _ h=>?_) (fun _ h=>?_)
  ·refine W_rs (kMvL rfl (kUn (ak ahh) ?_))
   refine kUn (au 0 ty9 kb) ?_
   obtain⟨⟨x11,x12⟩,k,h⟩:=ah h
   refine kUn (dz (aiz x1 x2.Type_ _ k)) ?_
   refine kUn (hMv (out:=br [(ag).val x11,Pb x12]) rfl) (kUn ar ?_)
   refine kUn ar ?_
   refine bw tn fun b13=>av 2 rfl rfl (Upd.refl _) rfl sizeOf49 (kAs rfl ?_)
   refine bo (fun e C=>∃x17,y7 x17=some r/\At [(52,Pb x17)] [p1,p2,D9 b13 ag x11] e C) ?_ ?_
   ·rintro e C ⟨x17,h,a⟩
    refine W_at a ?_
    unfold y7 at h
    refine a6 h rfl (fun _ h=>?_) (fun _ h=>?_)
    ·refine W_rs (kAs rfl ?_)
     obtain rfl:=osj h
     exact bg ⟨rfl,aa⟩
    refine ay ?_
    exact⟨h,⟨trivial,A9.of [0,1] rfl⟩⟩
   refine W_r (kUn (ak ahh) ?_)
   refine kUn (au 0 ty9 kb) ?_
   refine kSt rfl rfl rfl (kMv rfl ?_)
   rcases cc h with⟨hc14,h⟩|⟨hc14,h⟩
   ·refine kGd rfl aa hc14 (hMvA rfl) (kGd rfl aa hc14 (qNot rfl) (kGd rfl aa hc14 (hMvA rfl) ?_))
    rcases cc h with⟨hc15,h⟩|⟨hc15,h⟩
    ·refine skx ?_
     refine kGd rfl aa hc14 (hPt rfl hc15 rfl) (kPt rfl hc14 rfl ?_)
     exact⟨true,h,atOk⟩
    refine kGd rfl aa hc15 (hMvL rfl) (kGd rfl aa hc15 (ak ahh) ?_)
    refine kGd rfl aa hc15 (au 0 ty9 kb) ?_
    refine kGd rfl aa hc15 (ak s5) ?_
    refine kGd rfl aa hc15 (au 0 ty9 iv) ?_
    obtain⟨x16,k,h⟩:=ah h
    refine kGd rfl aa hc15 (dz (amu x1 x2.Type_ x2.Id _ k)) ?_
    refine kGd rfl aa hc14 (hPf rfl hc15 rfl) (kPt rfl hc14 rfl ?_)
    exact⟨x16,h,atOk⟩
   refine skx ?_
   refine kPf rfl hc14 rfl ?_
   exact⟨false,h,atOk⟩
  refine W_rs (kIn rfl rfl rfl (kAs rfl ?_))
  refine a6 h rfl (fun _ h=>?_) (fun _ h=>?_)
  ·refine W_rs (kMvL rfl (kUn (ak ahh) ?_))
   refine kUn (au 1 ty9 kb) ?_
   refine kUn (ak ahi) ?_
   refine kUn (au 0 ty9 lm) ?_
   obtain⟨⟨x20,x21⟩,k,h⟩:=ah h
   refine kUn (dz (ai2 x1 x4.Type_ x2.Name _ k)) ?_
   refine kUn (hMv (out:=br [(ag).val x20,Pb x21]) rfl) (kUn ar ?_)
   refine kUn ar ?_
   refine bw tn fun b22=>av 2 rfl rfl (Upd.refl _) rfl sizeOf49 (kAs rfl (W_rs (kMv rfl ?_)))
   refine a6 h rfl (fun _ h=>?_) (fun _ h=>?_)
   ·refine W_rs (kAs rfl ?_)
    obtain rfl:=osj h
    exact bg ⟨rfl,aa⟩
   refine ay ?_
   exact⟨h,⟨trivial,A9.of [0,1] rfl⟩⟩
  refine W_rs (kIn rfl rfl rfl (kAs rfl ?_))
  refine a6 h rfl (fun _ h=>?_) (fun _ h=>?_)
  ·refine W_rs (kMvL rfl (kUn (ak ahh) ?_))
   refine kUn (au 1 ty9 kb) ?_
   refine kUn (ak ahi) ?_
   refine kUn (au 0 ty9 lm) ?_
   obtain⟨⟨x25,x26⟩,k,h⟩:=ah h
   refine kUn (dz (ahu x1 x4.Type_ x2.Name _ k)) ?_
   refine kUn (hMv (out:=br [(ag).val x25,Pb x26]) rfl) (kUn ar ?_)
   refine kUn ar ?_
   refine bw tn fun b27=>av 2 rfl rfl (Upd.refl _) rfl sizeOf49 (kAs rfl ?_)
   refine bo (fun e C=>∃x30,acx x30=some r/\At [(82,Pb x30)] [p1,p2,D9 b27 ag x25] e C) ?_ ?_
   ·rintro e C ⟨x30,h,a⟩
    refine W_at a ?_
    unfold acx at h
    refine a6 h rfl (fun _ h=>?_) (fun _ h=>?_)
    ·refine W_rs (kAs rfl ?_)
     obtain rfl:=osj h
     exact bg ⟨rfl,aa⟩
    refine ay ?_
    exact⟨h,⟨trivial,A9.of [0,1] rfl⟩⟩
   refine W_r (kMv rfl (kMv rfl ?_))
   rcases cc h with⟨hc28,h⟩|⟨hc28,h⟩
   ·refine kGd rfl aa hc28 (au 2 ty49 (Sub.refl _)) ?_
    refine kGd rfl aa hc28 (au 0 ty49 (Sub.refl _)) ?_
    obtain⟨x29,k,h⟩:=ah h
    refine kGd rfl aa hc28 (dz (auv x25 x2 _ k)) ?_
    refine kGd rfl aa hc28 (qNot rfl) (kPt rfl hc28 rfl ?_)
    exact⟨!x29,h,atOk⟩
   refine skx ?_
   refine kPf rfl hc28 rfl ?_
   exact⟨false,h,atOk⟩
  refine ay ?_
  exact⟨h,atOk⟩
 refine W_r (kUn (ak vc) ?_)
 refine kUn (au 0 ty3 fg) ?_
 refine kIn rfl rfl rfl (kMv rfl ?_)
 rcases cc h with⟨hc7,h⟩|⟨hc7,h⟩
 ·refine kGd rfl aa hc7 (hMvA rfl) (kGd rfl aa hc7 (qNot rfl) (kPt rfl hc7 rfl ?_))
  exact⟨!x5,h,atOk⟩
 refine skx ?_
 refine kPf rfl hc7 rfl ?_
 exact⟨false,h,atOk⟩
theorem auw (x1:List B0) (r:B4) (h:aio x1=some r):Fp 35 [ap ag x1] ((az).val r):=by
 refine ec (rs:=[.cell 2 30]) func35 rfl ntmps35 results35 dcd (fun s0=>?_)
 unfold aio at h
 refine W_rs (bw al30 fun b2=>a7 (W_rs (kMvL rfl (kUn (mg rfl underlying38) ?_))))
 refine kMv rfl (a5 ?_)
 obtain⟨z2l,hz2,h⟩:=ah h
 obtain⟨n2,hN2⟩:=bv hz2
 refine di 0 (fun e C=>ai4=some r/\At [(2,Pr.pt b2 0)] [D9 b2 az (B4.mk 0 0 0)] e C) ?_ ?_
 ·rintro e C ⟨h,a⟩
  refine W_at a ?_
  unfold ai4 at h
  refine W_rs (kUn (jm st30 rfl) ?_)
  refine av 0 rfl rfl (Upd.refl _) rfl sizeOf30 ?_
  obtain rfl:=osj h
  exact bg ⟨rfl,[(az).val (B4.mk 0 0 0)],⟨yBox 0 ty30 aa,tv⟩,aa⟩
 refine ek (fun m e C=>∃x3,fq (fun s=>vj x1 s) m x3=some z2l/\At [(0,ap ag x1),(2,Pr.pt b2 0),(6,ap ag x1),(7,P6 (x1.length:Int)),(8,P6 x3)] [D9 b2 az (B4.mk 0 0 0)] e C) n2 ⟨0,hN2,⟨⟨aa,aa,aa,aa,aa,tv⟩,A9.refl _⟩⟩ ?_
 rintro m e C ⟨x3,hN2,a⟩
 refine W_at a ?_
 obtain⟨m2,w2l,rfl,h2l,hn2,ho2⟩:=bm hN2
 replace h2l:vj x1 x3=some w2l:=h2l
 unfold vj at h2l
 refine W_rs (kIn rfl rfl rfl (a7 ?_))
 refine a6 h2l rfl (fun _ h2l=>?_) (fun _ h2l=>?_)
 ·refine ay (a7 (a5 (W_rs ?_)))
  obtain⟨x6,k,h2l⟩:=ah h2l
  refine kUn (fo underlying38 sizeOf49 k) ?_
  refine kUn (cz ty49) ?_
  refine bw tn fun b7=>av 1 rfl rfl (Upd.refl _) rfl sizeOf49 (W_rs (kMvL rfl (kUn (au 1 ty49 (Sub.refl _)) ?_)))
  refine c8 h2l (aut x1 x6) rfl fun x8 _ h2l=>kAs rfl (W_rs (kMv rfl (kIn rfl rfl rfl ?_)))
  refine a6 h2l rfl (fun _ h2l=>?_) (fun _ h2l=>?_)
  ·refine W_rs (kMv rfl (kUn (ak aoc) ?_))
   refine kUn (au 1 ty3 aa5) ?_
   refine kUn (ak avq) ?_
   refine kUn (au 1 ty3 aes) ?_
   refine kUn (jm st30 ⟨(B4.mk x8 0 0),⟨_,rfl,rfl,qbj⟩,⟨(B4.mk x8 x6.File 0),⟨_,rfl,rfl,qbj⟩,⟨(B4.mk x8 x6.File x6.At),⟨_,rfl,rfl,qbj⟩,rfl⟩⟩⟩) ?_
   refine av 0 rfl rfl (Upd.refl _) rfl sizeOf30 ?_
   obtain rfl:=ho2 _ (ojs h2l)
   replace h:some (B4.mk x8 x6.File x6.At)=some r:=h
   obtain rfl:=osj h
   exact bg ⟨rfl,[(az).val (B4.mk x8 x6.File x6.At)],⟨yBox 0 ty30 aa,tv⟩,aa⟩
  refine ay (W_r (kIn rfl rfl rfl (kMv rfl ?_)))
  exact⟨m2,lsu,w64 (x3+1),hn2 _ (ojs h2l),⟨⟨aa,aa,aa,aa,aa,tv⟩,A9.of [0] rfl⟩⟩
 refine ej ?_
 obtain rfl:=ho2 _ (ojs h2l)
 exact⟨h,atOk⟩
theorem adj (x1:List Bt) (x2:Bt) (r:Int) (h:ml x1 x2=some r):Fp 119 [ap Rp.str x1,Pr.str x2] (P6 r):=by
 refine dv (rs:=[4]) func119 rfl ntmps119 ⟨by decide,results119⟩ dcd (fun s0=>?_)
 unfold ml at h
 refine W_rs (kAs rfl (a7 (W_rs (kMvL rfl (kUn (mg rfl underlying22) ?_)))))
 refine kMv rfl (a5 ?_)
 obtain⟨z2l,hz2,h⟩:=ah h
 obtain⟨n2,hN2⟩:=bv hz2
 refine di 0 (fun e C=>lb=some r/\At [] [] e C) ?_ ?_
 ·rintro e C ⟨h,a⟩
  refine W_at a ?_
  unfold lb at h
  refine W_rs (kAs rfl ?_)
  obtain rfl:=osj h
  exact bg ⟨rfl,aa⟩
 refine ek (fun m e C=>∃x3,fq (fun s=>fh x1 x2 s) m x3=some z2l/\At [(0,ap Rp.str x1),(1,Pr.str x2),(7,P6 (x1.length:Int)),(8,P6 x3)] [] e C) n2 ⟨0,hN2,⟨⟨aa,aa,aa,aa,tv⟩,A9.refl _⟩⟩ ?_
 rintro m e C ⟨x3,hN2,a⟩
 refine W_at a ?_
 obtain⟨m2,w2l,rfl,h2l,hn2,ho2⟩:=bm hN2
 replace h2l:fh x1 x2 x3=some w2l:=h2l
 unfold fh at h2l
 refine W_rs (kIn rfl rfl rfl (a7 ?_))
 refine a6 h2l rfl (fun _ h2l=>?_) (fun _ h2l=>?_)
 ·refine ay (a7 (a5 (W_rs (kMv rfl (kAs rfl (W_rs (kMv rfl (kMvL rfl (kMv rfl ?_)))))))))
  obtain⟨x6,k,h2l⟩:=ah h2l
  refine kUn (fo underlying22 sizeOf9 k) ?_
  refine kUn (cz ty9) ?_
  refine kSt rfl rfl rfl ?_
  refine a6 h2l rfl (fun _ h2l=>?_) (fun _ h2l=>?_)
  ·refine W_rs (kMv rfl (kAs rfl ?_))
   obtain rfl:=ho2 _ (ojs h2l)
   replace h:some x3=some r:=h
   obtain rfl:=osj h
   exact bg ⟨rfl,aa⟩
  refine ay (W_r (kIn rfl rfl rfl (kMv rfl ?_)))
  exact⟨m2,lsu,w64 (x3+1),hn2 _ (ojs h2l),atOk⟩
 refine ej ?_
 obtain rfl:=ho2 _ (ojs h2l)
 exact⟨h,atOk⟩
theorem mi (x1:List Bt) (x2:Bt) (r:Bool) (h:fj x1 x2=some r):Fp 70 [ap Rp.str x1,Pr.str x2] (Pb r):=by
 refine dv (rs:=[4]) func70 rfl ntmps70 ⟨by decide,results70⟩ dcd (fun s0=>?_)
 unfold fj at h
 refine W_rs (kAs rfl (W_rs (kMvL rfl (kMv rfl (c8 h (adj x1 x2) rfl fun x3 _ h=>kIn rfl rfl rfl (kAs rfl ?_))))))
 obtain rfl:=osj h
 exact bg ⟨rfl,aa⟩
theorem aah (x1:B7) (x2:B0) (x3:Bool) (r:B0 × Int) (h:nf x1 x2 x3=some r):Fp 115 [(al).val x1,(ag).val x2,Pb x3] (br [(ag).val r.1,P6 r.2]):=by
 refine ec (rs:=[.cell 6 49,.tmp 7]) func115 rfl ntmps115 results115 dcd (fun s0=>?_)
 unfold nf at h
 refine W_rs ?_
 refine rBox (R:=al) (a:=x1) rfl (fun b4=>?_)
 refine rBox (R:=ag) (a:=x2) rfl (fun b5=>?_)
 refine bw tn fun b6=>kAs rfl (a7 (W_rs (kMv rfl (kNo rfl ?_))))
 refine a6 h rfl (fun _ h=>?_) (fun _ h=>?_)
 ·refine W_rs (kUn (jm st49 rfl) ?_)
  refine av 2 rfl rfl (Upd.refl _) rfl sizeOf49 (kAs rfl ?_)
  obtain rfl:=osj h
  exact bg ⟨rfl,[(ag).val (B0.mk 0 [] [] [] [] false [] 0 0),P6 170],⟨yBox 2 ty49 aa,yT aa,tv⟩,aa⟩
 refine ay (W_rs (kUn (au 1 ty49 (Sub.refl _)) ?_))
 refine av 2 rfl rfl (Upd.refl _) rfl sizeOf49 (kAs rfl ?_)
 obtain rfl:=osj h
 exact bg ⟨rfl,[(ag).val x2,P6 0],⟨yBox 2 ty49 aa,yT aa,tv⟩,aa⟩
theorem tk (x1:B7) (x2:Bt) (r:B0 × Bool) (h:la x1 x2=some r):Fp 116 [(al).val x1,Pr.str x2] (br [(ag).val r.1,Pb r.2]):=by
 refine ec (rs:=[.cell 4 49,.tmp 5]) func116 rfl ntmps116 results116 dcd (fun s0=>?_)
 let p1:=B0.mk 0 [] [] [] [] false [] 0 0
 unfold la at h
 refine W_rs ?_
 refine rBox (R:=al) (a:=x1) rfl (fun b3=>?_)
 refine bw tn fun b4=>kAs rfl (a7 (W_rs (kUn (ak aif) ?_)))
 refine kUn (au 0 ty38 ku) ?_
 refine kUn (mg rfl underlying38) ?_
 refine kMv rfl (a5 ?_)
 obtain⟨z2l,hz2,h⟩:=ah h
 obtain⟨n2,hN2⟩:=bv hz2
 refine di 0 (fun e C=>yu=some r/\At [(4,Pr.pt b4 0)] [D9 b3 al x1,D9 b4 ag p1] e C) ?_ ?_
 ·rintro e C ⟨h,a⟩
  refine W_at a ?_
  unfold yu at h
  refine W_rs (kUn (jm st49 rfl) ?_)
  refine av 1 rfl rfl (Upd.refl _) rfl sizeOf49 (kAs rfl ?_)
  obtain rfl:=osj h
  exact bg ⟨rfl,[(ag).val p1,Pb false],⟨yBox 1 ty49 aa,yT aa,tv⟩,aa⟩
 refine ek (fun m e C=>∃x5,fq (fun s=>li x1 x2 s) m x5=some z2l/\At [(1,Pr.str x2),(4,Pr.pt b4 0),(9,ap ag x1.Table),(10,P6 (x1.Table.length:Int)),(11,P6 x5)] [D9 b3 al x1,D9 b4 ag p1] e C) n2 ⟨0,hN2,⟨⟨aa,aa,aa,aa,aa,tv⟩,A9.refl _⟩⟩ ?_
 rintro m e C ⟨x5,hN2,a⟩
 refine W_at a ?_
 obtain⟨m2,w2l,rfl,h2l,hn2,ho2⟩:=bm hN2
 replace h2l:li x1 x2 x5=some w2l:=h2l
 unfold li at h2l
 refine W_rs (kIn rfl rfl rfl (a7 ?_))
 refine a6 h2l rfl (fun _ h2l=>?_) (fun _ h2l=>?_)
 ·refine ay (a7 (a5 (W_rs ?_)))
  obtain⟨x8,k,h2l⟩:=ah h2l
  refine kUn (fo underlying38 sizeOf49 k) ?_
  refine kUn (cz ty49) ?_
  refine bw tn fun b9=>av 2 rfl rfl (Upd.refl _) rfl sizeOf49 ?_
  refine bo (fun e C=>∃x11,pj x8 x5 x11=some w2l/\At [(1,Pr.str x2),(4,Pr.pt b4 0),(7,Pr.pt b9 0),(9,ap ag x1.Table),(10,P6 (x1.Table.length:Int)),(11,P6 x5),(23,Pb x11)] [D9 b3 al x1,D9 b4 ag p1,D9 b9 ag x8] e C) ?_ ?_
  ·rintro e C ⟨x11,h2l,a⟩
   refine W_at a ?_
   unfold pj at h2l
   refine a6 h2l rfl (fun _ h2l=>?_) (fun _ h2l=>?_)
   ·refine W_rs (kUn (au 2 ty49 (Sub.refl _)) ?_)
    refine av 1 rfl rfl (Upd.refl _) rfl sizeOf49 (kAs rfl ?_)
    obtain rfl:=ho2 _ (ojs h2l)
    replace h:some (x8,true)=some r:=h
    obtain rfl:=osj h
    exact bg ⟨rfl,[(ag).val x8,Pb true],⟨yBox 1 ty49 aa,yT aa,tv⟩,aa⟩
   refine ay (W_r (kIn rfl rfl rfl (kMv rfl ?_)))
   exact⟨m2,lsu,w64 (x5+1),hn2 _ (ojs h2l),⟨⟨aa,aa,aa,aa,aa,tv⟩,A9.of [0,1] rfl⟩⟩
  refine W_r (kUn (ak vc) ?_)
  refine kUn (au 2 ty3 fg) ?_
  refine kIn rfl rfl rfl (kMv rfl ?_)
  rcases cc h2l with⟨hc10,h2l⟩|⟨hc10,h2l⟩
  ·refine kGd rfl aa hc10 (ak s5) ?_
   refine kGd rfl aa hc10 (au 2 ty9 iv) ?_
   refine kGd rfl aa hc10 (hMvA rfl) (kGd rfl aa hc10 (qStr rfl rfl rfl) (kPt rfl hc10 rfl ?_))
   exact⟨x8.Id==x2,h2l,atOk⟩
  refine skx ?_
  refine kPf rfl hc10 rfl ?_
  exact⟨false,h2l,atOk⟩
 refine ej ?_
 obtain rfl:=ho2 _ (ojs h2l)
 exact⟨h,atOk⟩
theorem mc (x1 x2:Int) (x4:B9) (b3:Nat) (v5:Value) (r:PX C5 B9) (h:mv x1 x2 x4=some r):FnX Tryz.prog 126 [Pr.pt b3 0,P6 x1,P6 x2] [D9 b3 aq (D5.mk v5 x4.file x4.method x4.many),E6 v5 ao x4.uses 47] (fun q C'=>∃a9,r= .ok a9/\∃w100,q=br []/\C'=[D9 b3 aq (D5.mk w100 a9.file a9.method a9.many),E6 w100 ao a9.uses 47]) (fun v=>∃m,r= .bad m/\v=ac8 m):=by
 refine lk (rs:=[]) func126 rfl ntmps126 ⟨by decide,results126⟩ dcd (fun s0=>?_)
 let p1:=B4.mk x1 x4.file x2
 unfold mv at h
 refine W_rs (kMv rfl (kIn rfl rfl rfl ?_))
 refine a6 h rfl (fun _ h=>?_) (fun _ h=>?_)
 ·refine W_r (kMv rfl (kMv rfl (kNp rfl (kUn (ak asb) ?_))))
  refine kUn (au 0 ty3 wd) ?_
  refine kMv rfl (kUn (jm st30 ⟨(B4.mk x1 0 0),⟨_,rfl,rfl,qbj⟩,⟨(B4.mk x1 x4.file 0),⟨_,rfl,rfl,qbj⟩,⟨p1,⟨_,rfl,rfl,qbj⟩,rfl⟩⟩⟩) ?_)
  refine kUn (jm st72 ⟨(C5.mk p1),⟨_,rfl,rfl,qbj⟩,rfl⟩) ?_
  refine kUn (a2l underlying72 rfl) ?_
  refine a2i (p:=att 72 ((mq).val (C5.mk p1))) (Die:=fun v=>v=ac8 (C5.mk p1)) (ax4 _) ?_ aa
  rintro _ rfl
  obtain rfl:=osj h
  exact .inr ⟨_,rfl,_,rfl,rfl⟩
 refine ay ?_
 obtain rfl:=osj h
 exact(.inl ⟨.inr rfl,_,A9.refl _,_,aa,_,rfl,v5,rfl,rfl⟩)
theorem afr (x1:Int) (x2:Bt) (x4:B9) (b3:Nat) (v5:Value) (r:B9) (h:pb x1 x2 x4=some r):Fc 127 [Pr.pt b3 0,P6 x1,Pr.str x2] [D9 b3 aq (D5.mk v5 x4.file x4.method x4.many),E6 v5 ao x4.uses 47] (fun q C'=>∃w100,q=br []/\C'=[D9 b3 aq (D5.mk w100 r.file r.method r.many),E6 w100 ao r.uses 47]):=by
 refine i0 (rs:=[]) func127 rfl ntmps127 ⟨by decide,results127⟩ dcd (fun s0=>?_)
 let p1:=D5.mk v5 x4.file x4.method x4.many
 let p2:=B8.mk x4.file x1 x2
 unfold pb at h
 obtain⟨x6,k,h⟩:=ah h
 refine aec [0,0,2,6,14,0,32,96,224,0,0,2016,4064,8190,16383,32767,65535] [[],[],[],[],[D9 b3 aq p1],[],[],[],[D9 b3 aq p1],[],[],[],[],[],[],[],[]] hmx kr kr kr rfl ?_
 refine aq0 0 1 (out:=Pr.pt b3 0) rfl (fun C9=>gz) ?_
 refine aq0 1 3 (out:=Pr.pt b3 0) rfl (fun C9=>gz) ?_
 refine aq0 2 7 (out:=Pr.pt b3 0) rfl (fun C9=>aia) ?_
 refine aq0 3 15 (out:=Pr.pt b3 0) rfl (fun C9=>(ak asc)) ?_
 refine aq1 4 31 0 (out:=Pi v5) rfl rfl (fun C9 i9 h9=>(abc (R:=aq) (a:=p1) i9 ty27 wb (hi:=h9))) ?_
 refine aq0 5 63 (out:=Pr.pt b3 0) rfl (fun C9=>gz) ?_
 refine aq0 6 127 (out:=Pr.pt b3 0) rfl (fun C9=>aia) ?_
 refine aq0 7 255 (out:=Pr.pt b3 1) rfl (fun C9=>(ak asb)) ?_
 refine aq1 8 511 0 (out:=P6 x4.file) rfl rfl (fun C9 i9 h9=>(au (R:=aq) (a:=p1) (R':=Rp.int .i64) i9 ty3 wd (hi:=h9))) ?_
 refine aq0 9 1023 (out:=P6 x1) rfl (fun C9=>gz) ?_
 refine aq0 10 2047 (out:=Pr.str x2) rfl (fun C9=>gz) ?_
 refine aq0 11 4095 (out:=(ao).val p2) rfl (fun C9=>(jm st47 ⟨(B8.mk x4.file 0 []),⟨_,rfl,rfl,qbj⟩,⟨(B8.mk x4.file x1 []),⟨_,rfl,rfl,qbj⟩,⟨p2,⟨_,rfl,rfl,qbj⟩,rfl⟩⟩⟩)) ?_
 refine aq0 12 8191 (out:=ap ao ([p2]:List B8)) rfl (fun C9=>(cq (R:=ao) (a:=p2) el27 nb)) ?_
 refine ae 13 16383 rfl (fun g9=>?_)
 refine ik 1 el27 k (fun v7=>?_)
 refine oz _ [] fv ?_
 refine aq0 14 32767 (out:=Pr.pt b3 0) rfl (fun C9=>aia) ?_
 refine aq0 15 65535 (out:=Pr.pt b3 0) rfl (fun C9=>(ak asc)) ?_
 refine ae 16 131071 rfl (fun g9=>?_)
 refine ail (R:=aq) (a:=p1) 0 1 sizeOf27 ajc ?_
 refine rCtx [D9 b3 aq (D5.mk v7 x4.file x4.method x4.many),E6 v7 ao x6 47] ?_
 refine oz .any [] fv ?_
 refine agx ?_
 obtain rfl:=osj h
 exact⟨.inr rfl,_,A9.refl _,_,aa,v7,rfl,rfl⟩
theorem ae3 (x1:B7) (x2:B6) (x4:B9) (b3:Nat) (v5:Value) (r:PX C5 B9) (h:t7 x1 x2 x4=some r):FnX Tryz.prog 73 [Pr.pt b3 0,(al).val x1,(af).val x2] [D9 b3 aq (D5.mk v5 x4.file x4.method x4.many),E6 v5 ao x4.uses 47] (fun q C'=>∃a9,r= .ok a9/\∃w100,q=br []/\C'=[D9 b3 aq (D5.mk w100 a9.file a9.method a9.many),E6 w100 ao a9.uses 47]) (fun v=>∃m,r= .bad m/\v=ac8 m):=by
 refine lk (rs:=[]) func73 rfl ntmps73 ⟨by decide,results73⟩ dcd (fun s0=>?_)
 unfold t7 at h
 refine W_rs ?_
 refine rBox (R:=al) (a:=x1) rfl (fun b6=>?_)
 let p1:=D9 b6 al x1
 refine rBox (R:=af) (a:=x2) rfl (fun b7=>?_)
 let p2:=D9 b7 af x2
 refine a7 ?_
 refine bo (fun e C=>∃x10,mz x4 x1 x2 x10=some r/\At [(0,Pr.pt b3 0),(4,Pr.pt b6 0),(5,Pr.pt b7 0),(16,Pb x10)] [D9 b3 aq (D5.mk v5 x4.file x4.method x4.many),E6 v5 ao x4.uses 47,p1,p2] e C) ?_ ?_
 ·rintro e C ⟨x10,h,a⟩
  refine W_at a ?_
  unfold mz at h
  refine a6 h rfl (fun _ h=>?_) (fun _ h=>?_)
  ·obtain rfl:=osj h
   exact bg (.inl ⟨.inl rfl,_,A9.of [0,1] rfl,_,aa,_,rfl,v5,rfl,rfl⟩)
  refine ay ?_
  refine bo (fun e C=>∃x15,∃x14,∃b16,tj x2 x4 x15 x14=some r/\At [(0,Pr.pt b3 0),(5,Pr.pt b7 0),(6,Pr.pt b16 0),(7,P6 x15)] [D9 b3 aq (D5.mk v5 x4.file x4.method x4.many),E6 v5 ao x4.uses 47,p1,p2,D9 b16 ag x14] e C) ?_ ?_
  ·rintro e C ⟨x15,x14,b16,h,a⟩
   refine W_at a ?_
   unfold tj at h
   refine W_rs (kMv rfl (kMv rfl (kUn (ak aob) ?_)))
   refine kUn (au 3 ty3 aa4) ?_
   rcases cr h with⟨m21,hm21,h⟩|⟨x17,hx17,h⟩
   ·refine dw [0,1] (mc x15 x2.TypeAt x4 b3 v5 _ hm21) ⟨aa,aa,aa,tv⟩ (fun q C' hq=>?_) (fun v9 hv=>?_)
    ·obtain⟨_,h9,_⟩:=hq;cases h9
    obtain⟨_,h9,rfl⟩:=hv
    cases h9
    obtain rfl:=osj h
    exact .inr ⟨_,rfl,_,rfl,rfl⟩
   refine dw [0,1] (mc x15 x2.TypeAt x4 b3 v5 _ hx17) ⟨aa,aa,aa,tv⟩ (fun q C' hq=>?_) (fun v9 hv=>by obtain⟨_,h9,_⟩:=hv;cases h9)
   obtain⟨_,h9,v18,rfl,rfl⟩:=hq
   cases h9
   refine rCtx [D9 b3 aq (D5.mk v18 x17.file x17.method x17.many),E6 v18 ao x17.uses 47,p1,p2,D9 b16 ag x14] ?_
   refine W_r (kMv rfl (kUn (ak aob) ?_))
   refine kUn (au 3 ty3 aa4) ?_
   refine kUn (ak s5) ?_
   refine kUn (au 4 ty9 iv) ?_
   obtain⟨x19,k,h⟩:=ah h
   refine oy [0,1] (afr x2.TypeAt x14.Id x17 b3 v18 _ k) (fun q C' hq=>?_)
   obtain⟨v20,rfl,rfl⟩:=hq
   refine rCtx [D9 b3 aq (D5.mk v20 x19.file x19.method x19.many),E6 v20 ao x19.uses 47,p1,p2,D9 b16 ag x14] ?_
   obtain rfl:=osj h
   exact(.inl ⟨.inr rfl,_,A9.of [0,1] rfl,_,aa,_,rfl,v20,rfl,rfl⟩)
  obtain⟨⟨x12,x13⟩,hx12,h⟩:=ah h
  obtain⟨⟨x14,x15⟩,hx14,h⟩:=ah h
  refine ash 1 (fun B S=>[D9 b3 aq (D5.mk v5 x4.file x4.method x4.many),E6 v5 ao x4.uses 47,D9 b6 al x1,D9 b7 af x2,(cond (S 12) (D9 (B 11) ag x14) (cond (S 11) (D9 (B 11) ag (B0.mk 0 [] [] [] [] false [] 0 0)) A4.nil))]) (fun B=>[D9 b3 aq (D5.mk v5 x4.file x4.method x4.many),E6 v5 ao x4.uses 47,D9 b6 al x1,D9 b7 af x2,D9 (B 11) ag x14]) [(al).val x1,(al).val x1,Pr.pt b7 2,Pr.str x2.Type_,br [(ag).val x12,Pb x13],(ag).val x12,Pb x13,br [(ag).val x14,P6 x15],br [(ag).val x14,P6 x15],(ag).val x14,P6 x15,.any,.any,P6 x15] (fun k=>([0,0,0,0,0,0,0,0,0,0,0,2,1,0]:List Nat).getD k 0) hmx kr kr (fun _=>rfl) (fun B S S' h=>by show([D9 b3 aq (D5.mk v5 x4.file x4.method x4.many),E6 v5 ao x4.uses 47,D9 b6 al x1,D9 b7 af x2,(cond (S 12) (D9 (B 11) ag x14) (cond (S 11) (D9 (B 11) ag (B0.mk 0 [] [] [] [] false [] 0 0)) A4.nil))]:Ctx)=[D9 b3 aq (D5.mk v5 x4.file x4.method x4.many),E6 v5 ao x4.uses 47,D9 b6 al x1,D9 b7 af x2,(cond (S' 12) (D9 (B 11) ag x14) (cond (S' 11) (D9 (B 11) ag (B0.mk 0 [] [] [] [] false [] 0 0)) A4.nil))];simp only[h 11 (Nat.le_of_ble_eq_true kr),h 12 (Nat.le_of_ble_eq_true kr)]) (fun _=>rfl) (fun B=>?_)
  refine gq1 (fun S hK=>(au (R:=al) (a:=x1) (R':=al) 2 ty66 (Sub.refl _) (hi:=rfl))) ?_
  refine gq1 (fun S hK=>(au (R:=al) (a:=x1) (R':=al) 2 ty66 (Sub.refl _) (hi:=rfl))) ?_
  refine gq1 (fun S hK=>(ak ws)) ?_
  refine gq1 (fun S hK=>(au (R:=af) (a:=x2) (R':=Rp.str) 3 ty9 gm (hi:=rfl))) ?_
  refine gq1 (fun S hK=>(dz (tk x1 x2.Type_ _ hx12))) ?_
  refine gq1 (fun S hK=>ar) ?_
  refine gq1 (fun S hK=>ar) ?_
  refine gq1 (fun S hK=>(dz (aah x1 x12 x13 _ hx14))) ?_
  refine gq1 (fun S hK=>gz) ?_
  refine gq1 (fun S hK=>ar) ?_
  refine gq1 (fun S hK=>ar) ?_
  refine gqA (fun S hK=>⟨fun B' hB=>by show([D9 b3 aq (D5.mk v5 x4.file x4.method x4.many),E6 v5 ao x4.uses 47,D9 b6 al x1,D9 b7 af x2,(cond (S 12) (D9 (B' 11) ag x14) (cond (S 11) (D9 (B' 11) ag (B0.mk 0 [] [] [] [] false [] 0 0)) A4.nil))]:Ctx)=[D9 b3 aq (D5.mk v5 x4.file x4.method x4.many),E6 v5 ao x4.uses 47,D9 b6 al x1,D9 b7 af x2,(cond (S 12) (D9 (B 11) ag x14) (cond (S 11) (D9 (B 11) ag (B0.mk 0 [] [] [] [] false [] 0 0)) A4.nil))];simp only[hK.me,hK.F 12 kr,cond_false],fun s ρ hg _=>ato (R:=ag) (z:=(B0.mk 0 [] [] [] [] false [] 0 0)) 4 zeroValue49 (fun _=>⟨_,⟨_,_,rfl,rfl,⟨_,_,rfl,rfl,⟨_,_,rfl,rfl,⟨_,_,rfl,rfl,⟨_,_,rfl,rfl,⟨_,_,rfl,rfl,⟨_,_,rfl,⟨_,rfl,none,0,rfl,⟨Nat.le_refl _,fun _=>rfl⟩,.inl rfl⟩,⟨_,_,rfl,rfl,⟨_,_,rfl,rfl,rfl⟩⟩⟩⟩⟩⟩⟩⟩⟩,rfl⟩) (congrArg some ((aj9 (hK.F 12 kr) _ _).trans (aj9 (hK.me) _ _))) (fun b=>by show([D9 b3 aq (D5.mk v5 x4.file x4.method x4.many),E6 v5 ao x4.uses 47,D9 b6 al x1,D9 b7 af x2,(cond (S 12) (D9 b ag x14) (D9 b ag (B0.mk 0 [] [] [] [] false [] 0 0)))]:Ctx)=_;rw[hK.F 12 kr];rfl) s ρ hg⟩) ?_
  refine gqS (fun S hK=>aks.as (aqz (R:=ag) (R':=ag) (a:=(B0.mk 0 [] [] [] [] false [] 0 0)) (y:=x14) 4 sizeOf49 (Upd.refl _) (congrArg some ((aj9 (hK.me) _ _).trans (ayh (hK.T 11 kr) _ _)))) (by show(_:Ctx)=[D9 b3 aq (D5.mk v5 x4.file x4.method x4.many),E6 v5 ao x4.uses 47,D9 b6 al x1,D9 b7 af x2,D9 (B 11) ag x14];rfl)) ?_
  refine gq1 (fun S hK=>gb) ?_
  exact⟨x15,x14,(B 11),h,atOk⟩
 refine W_r (kUn (ak aob) ?_)
 refine kUn (au 3 ty3 aa4) ?_
 refine kIn rfl rfl rfl (kMv rfl ?_)
 rcases cc h with⟨hc8,h⟩|⟨hc8,h⟩
 ·refine skx ?_
  refine kPt rfl hc8 rfl ?_
  exact⟨true,h,atOk⟩
 refine kGd rfl aa hc8 (ny (R:=Rp.str) (ls:=([([105,110,116]:Bt),([98,111,111,108,101,97,110]:Bt),([118,111,105,100]:Bt)]:List Bt)) el22 nb ⟨rfl,rfl⟩ ⟨rfl,rfl,rfl,tv⟩) ?_
 refine kGd rfl aa hc8 (ak ws) ?_
 refine kGd rfl aa hc8 (au 3 ty9 gm) ?_
 obtain⟨x9,k,h⟩:=ah h
 refine kGd rfl aa hc8 (dz (mi ([([105,110,116]:Bt),([98,111,111,108,101,97,110]:Bt),([118,111,105,100]:Bt)]:List Bt) x2.Type_ _ k)) ?_
 refine kPf rfl hc8 rfl ?_
 exact⟨x9,h,atOk⟩
theorem ua {σ:Type} (yld:σ->(Int × B0)->Option (Bool × σ)) (Y:YI σ) (l:Nat) (hY:YOK Tryz.prog Y l (fun a=>[P6 a.1,(ag).val a.2]) yld) (x2:List B0) (x3:σ) (b1:Nat) (v4:List Nat) (r:(List B0) × (σ)) (h:fe yld x2 x3=some r):Fc 154 ([]++[ae4 l]++[Pr.pt b1 0]) ([D9 b1 (Rp.list ag) x2]++[E5 Y x3 v4]) (fun _ C'=>∃w9,C'=[D9 b1 (Rp.list ag) r.1]++[E5 Y r.2 w9]):=by
 refine i0 (rs:=[]) func154 rfl ntmps154 ⟨by decide,results154⟩ dcd (fun s0=>?_)
 unfold fe at h
 refine W_rs (kUn (au 0 ty38 (Sub.refl _)) ?_)
 refine kUn (mg rfl underlying38) ?_
 refine kIn rfl rfl rfl (kAs rfl (a5 ?_))
 obtain⟨z2l,hz2,h⟩:=ah h
 obtain⟨n2,hN2⟩:=bv hz2
 refine di 0 (fun e C=>∃x6,∃v7,fu yld x2 x6=some r/\At [] [D9 b1 (Rp.list ag) x2,E5 Y x6 v7] e C) ?_ ?_
 ·rintro e C ⟨x6,v7,h,a⟩
  unfold fu at h
  obtain rfl:=osj h
  exact⟨.inr rfl,_,(A9.trans a.2 (A9.refl _)),_,aa,v7,rfl⟩
 refine ek (fun m e C=>∃x5,∃x6,∃v7,fq (fun s=>ct yld x2 s.1 s.2) m (x5,x6)=some z2l/\At [(0,ae4 l),(1,Pr.pt b1 0),(3,P6 x5)] [D9 b1 (Rp.list ag) x2,E5 Y x6 v7] e C) n2 ⟨w64 ((x2.length:Int) - 1),x3,v4,hN2,⟨⟨aa,aa,aa,tv⟩,A9.refl _⟩⟩ ?_
 rintro m e C ⟨x5,x6,v7,hN2,a⟩
 refine W_at a ?_
 obtain⟨m2,w2l,rfl,h2l,hn2,ho2⟩:=bm hN2
 replace h2l:ct yld x2 x5 x6=some w2l:=h2l
 unfold ct at h2l
 refine a7 (W_rs (kMv rfl (kIn rfl rfl rfl ?_)))
 refine a6 h2l rfl (fun _ h2l=>?_) (fun _ h2l=>?_)
 ·refine ay (a7 (a5 (W_rs (kUn (hMv (out:=ae4 l) rfl) (kMv rfl (kUn (au 0 ty38 (Sub.refl _)) ?_))))))
  refine kMv rfl ?_
  obtain⟨x12,k,h2l⟩:=ah h2l
  refine kUn (fo underlying38 sizeOf49 k) ?_
  refine kUn (cz ty49) ?_
  obtain⟨⟨x13,x14⟩,k,h2l⟩:=ah h2l
  refine ayk 1 (a:=(x5,x12)) hY k (fun v15=>?_)
  refine kNo rfl ?_
  refine a6 h2l rfl (fun _ h2l=>?_) (fun _ h2l=>?_)
  ·obtain rfl:=ho2 _ (ojs h2l)
   replace h:some (x2,x14)=some r:=h
   obtain rfl:=osj h
   exact bg ⟨.inl rfl,_,A9.of [1,0] rfl,_,aa,v15,rfl⟩
  refine ay (W_r (kMv rfl (kIn rfl rfl rfl (kAs rfl ?_))))
  exact⟨m2,lsu,w64 (x5 - 1),x14,v15,hn2 _ (ojs h2l),⟨⟨aa,aa,aa,tv⟩,A9.of [1,0] rfl⟩⟩
 refine ej ?_
 obtain rfl:=ho2 _ (ojs h2l)
 exact⟨x6,v7,h,atOk⟩
theorem u9 (x1:List B0):Fc 112 [ap ag x1] [] (fun q C'=>∃b2,q=oc 154 [] [Pr.pt b2 0]/\C'=[D9 b2 (Rp.list ag) x1]):=by
 refine i0 (rs:=[2]) func112 rfl ntmps112 ⟨by decide,results112⟩ dcd (fun s0=>?_)
 refine W_rs ?_
 refine rBox (R:=Rp.list ag) (a:=x1) rfl (fun b2=>?_)
 refine kAs rfl (W_rs (kUn rv ?_))
 refine kUn (hAs (out:=oc 154 [] [Pr.pt b2 0]) rfl) ?_
 exact bg ⟨.inl rfl,_,A9.refl _,_,aa,b2,rfl,rfl⟩
theorem wn (x1:B7) (x2:B0) (x3:Bool) (r:B0 × Int) (h:nc x1 x2 x3=some r):Fp 114 [(al).val x1,(ag).val x2,Pb x3] (br [(ag).val r.1,P6 r.2]):=by
 refine ec (rs:=[.cell 6 49,.tmp 7]) func114 rfl ntmps114 results114 dcd (fun s0=>?_)
 let p1:=B0.mk 0 [] [] [] [] false [] 0 0
 unfold nc at h
 refine W_rs ?_
 refine rBox (R:=al) (a:=x1) rfl (fun b4=>?_)
 refine rBox (R:=ag) (a:=x2) rfl (fun b5=>?_)
 refine bw tn fun b6=>kAs rfl (a7 (a5 (W_rs (kMv rfl (kNo rfl (kAs rfl ?_))))))
 refine a6 h rfl (fun _ h=>?_) (fun _ h=>?_)
 ·refine W_rs (kUn (jm st49 rfl) ?_)
  refine av 2 rfl rfl (Upd.refl _) rfl sizeOf49 (kAs rfl ?_)
  obtain rfl:=osj h
  exact bg ⟨rfl,[(ag).val p1,P6 170],⟨yBox 2 ty49 aa,yT aa,tv⟩,aa⟩
 refine bo (fun e C=>∃x9,sf x2 x9=some r/\At [(4,Pr.pt b5 0),(6,Pr.pt b6 0),(12,Pb x9)] [D9 b4 al x1,D9 b5 ag x2,D9 b6 ag p1] e C) ?_ ?_
 ·rintro e C ⟨x9,h,a⟩
  refine W_at a ?_
  unfold sf at h
  refine a6 h rfl (fun _ h=>?_) (fun _ h=>?_)
  ·refine W_rs (kUn (jm st49 rfl) ?_)
   refine av 2 rfl rfl (Upd.refl _) rfl sizeOf49 (kAs rfl ?_)
   obtain rfl:=osj h
   exact bg ⟨rfl,[(ag).val p1,P6 171],⟨yBox 2 ty49 aa,yT aa,tv⟩,aa⟩
  refine ay (W_rs (kUn (au 1 ty49 (Sub.refl _)) ?_))
  refine av 2 rfl rfl (Upd.refl _) rfl sizeOf49 (kAs rfl ?_)
  obtain rfl:=osj h
  exact bg ⟨rfl,[(ag).val x2,P6 0],⟨yBox 2 ty49 aa,yT aa,tv⟩,aa⟩
 refine W_r (kUn (ak al8) ?_)
 refine kUn (au 0 ty4 ys) ?_
 refine kMv rfl ?_
 rcases cc h with⟨hc8,h⟩|⟨hc8,h⟩
 ·refine kGd rfl aa hc8 (ak avr) ?_
  refine kGd rfl aa hc8 (au 1 ty4 yt) ?_
  refine kGd rfl aa hc8 (qNot rfl) (kPt rfl hc8 rfl (kAs rfl ?_))
  exact⟨!x2.Static,h,atOk⟩
 refine skx ?_
 refine kPf rfl hc8 rfl (kAs rfl ?_)
 exact⟨false,h,atOk⟩
theorem aft (x1:B7) (x2:B6) (r:B0 × Int) (h:sb x1 x2=some r):Fp 65 [(al).val x1,(af).val x2] (br [(ag).val r.1,P6 r.2]):=by
 refine ec (n:=47) (rs:=[.cell 4 49,.cell 5 28]) func65 rfl ntmps65 results65 dcd (fun s0=>?_)
 unfold sb at h
 refine W_rs ?_
 refine rBox (R:=al) (a:=x1) rfl (fun b3=>?_)
 refine rBox (R:=af) (a:=x2) rfl (fun b4=>?_)
 refine ae7 (R:=ag) (z:=(B0.mk 0 [] [] [] [] false [] 0 0)) zeroValue49 (fun _=>⟨_,⟨_,_,rfl,rfl,⟨_,_,rfl,rfl,⟨_,_,rfl,rfl,⟨_,_,rfl,rfl,⟨_,_,rfl,rfl,⟨_,_,rfl,rfl,⟨_,_,rfl,⟨_,rfl,none,0,rfl,⟨Nat.le_refl _,fun _=>rfl⟩,.inl rfl⟩,⟨_,_,rfl,rfl,⟨_,_,rfl,rfl,rfl⟩⟩⟩⟩⟩⟩⟩⟩⟩,rfl⟩) (fun b5=>?_)
 refine ae7 (R:=Rp.int .i64) (z:=0) zeroValue28 (fun _=>rfl) (fun b6=>?_)
 refine a0w ?_
 refine W_r ?_
 refine rq (out:=Pr.pt b3 3) (ak aoa) ?_
 refine rq (out:=ap ag x1.Seen) (au (R:=al) (a:=x1) (R':=Rp.list ag) 0 ty38 aa3) ?_
 refine oy [] (u9 x1.Seen) (fun q C' hq=>?_)
 obtain⟨b7,rfl,rfl⟩:=hq
 refine⟨rfl,?_⟩
 obtain⟨⟨x12,x15⟩,k,h⟩:=ah h
 refine as4 [0] (fun _=> .ret) (fun(s:(Unit) ⊕ (B0)) C=>match s with| .inl s=>C=[D9 b3 al x1,D9 b4 af x2,D9 b5 ag (B0.mk 0 [] [] [] [] false [] 0 0),D9 b6 (Rp.int .i64) 0]| .inr s=>∃b10,C=[D9 b3 al x1,D9 b4 af x2,D9 b5 ag s,D9 b6 (Rp.int .i64) 0,D9 b10 ag s]) (encs:=(fun(a:Int × B0)=>[P6 a.1,(ag).val a.2])) (yld:=(fun(s:Unit) (a:Int × B0)=>ky x2 a.1 a.2)) (st0:=()) (stF:=x15) (Ccap':=[D9 b7 (Rp.list ag) x12]) (fun l Y L hY=>ua _ Y l hY x1.Seen (.inl ()) b7 L _ k) rfl (fun _=>rfl) ?_ ?_ (fun _ _ _ h=>h.1)
 ·rintro l _ ⟨x8,x9⟩ rr1 C T s0 rfl hy1
  replace hy1:ky x2 x8 x9=some rr1:=hy1
  unfold ky at hy1
  refine W_r ?_
  refine ae7 (R:=ag) (z:=(B0.mk 0 [] [] [] [] false [] 0 0)) zeroValue49 (fun _=>⟨_,⟨_,_,rfl,rfl,⟨_,_,rfl,rfl,⟨_,_,rfl,rfl,⟨_,_,rfl,rfl,⟨_,_,rfl,rfl,⟨_,_,rfl,rfl,⟨_,_,rfl,⟨_,rfl,none,0,rfl,⟨Nat.le_refl _,fun _=>rfl⟩,.inl rfl⟩,⟨_,_,rfl,rfl,⟨_,_,rfl,rfl,rfl⟩⟩⟩⟩⟩⟩⟩⟩⟩,rfl⟩) (fun b10=>?_)
  refine yv (R:=ag) (R':=ag) (a:=(B0.mk 0 [] [] [] [] false [] 0 0)) (y:=x9) 4 sizeOf49 (Upd.refl _) ?_
  refine⟨rfl,fun T s0=>?_⟩
  refine aog ?_
  refine a5 ?_
  refine W_rs ?_
  refine rq (out:=Pr.pt b10 2) (ak ahi) ?_
  refine rq (out:=Pr.str x9.Name) (au (R:=ag) (a:=x9) (R':=Rp.str) 4 ty9 lm) ?_
  refine rq (out:=Pr.pt b4 1) (ak ie) ?_
  refine rq (out:=Pr.str x2.Text) (au (R:=af) (a:=x2) (R':=Rp.str) 1 ty9 cd) ?_
  refine rq (out:=Pb (x9.Name==x2.Text)) qStr ?_
  refine akv (b:=x9.Name==x2.Text) rfl (fun hc11=>?_) (fun hc11=>?_)
  ·replace hy1:=iteT hc11 hy1
   refine W_rs ?_
   refine rq (out:=(ag).val x9) (au (R:=ag) (a:=x9) (R':=ag) 4 ty49 (Sub.refl _)) ?_
   refine yv (R:=ag) (R':=ag) (a:=(B0.mk 0 [] [] [] [] false [] 0 0)) (y:=x9) 2 sizeOf49 (Upd.refl _) ?_
   refine yv (R:=Rp.int .i64) (R':=Rp.int .i64) (a:=0) (y:=0) 3 sizeOf28 (Upd.refl _) ?_
   obtain rfl:=Option.some.inj hy1
   exact bg ⟨_,A9.refl _,.inr ⟨_,rfl,rfl,b10,rfl⟩⟩
  replace hy1:=iteF hc11 hy1
  refine ay ?_
  obtain rfl:=Option.some.inj hy1
  exact⟨_,A9.of [0,1,2,3] rfl,.inl ⟨rfl,_,rfl,rfl⟩⟩
 intro D C' hj
 cases x15 with
 |inl x13=>
  replace h:((w4 x1.Table x1.Class x2.Text).bind fun(x17,x18)=>(if x18=true then(nc x1 x17 true).bind fun(x21,x22)=>some (x21,x22)else(la x1 x2.Text).bind fun(x23,x24)=>(nf x1 x23 x24).bind fun(x25,x26)=>qj x25 x26))=some r:=h
  obtain rfl:=hj
  intro T s0
  refine a7 ?_
  refine W_rs ?_
  refine rq (out:=Pr.pt b3 0) (ak aif) ?_
  refine rq (out:=ap ag x1.Table) (au (R:=al) (a:=x1) (R':=Rp.list ag) 1 ty38 ku) ?_
  refine rq (out:=Pr.pt b3 1) (ak al9) ?_
  refine rq (out:=Pr.str x1.Class) (au (R:=al) (a:=x1) (R':=Rp.str) 1 ty9 nl) ?_
  refine rq (out:=Pr.pt b4 1) (ak ie) ?_
  refine rq (out:=Pr.str x2.Text) (au (R:=af) (a:=x2) (R':=Rp.str) 2 ty9 cd) ?_
  obtain⟨⟨x17,x18⟩,k,h⟩:=ah h
  refine rq (out:=br [(ag).val x17,Pb x18]) (dz (ai2 x1.Table x1.Class x2.Text _ k)) ?_
  refine rq (out:=br [(ag).val x17,Pb x18]) gz ?_
  refine rq (out:=(ag).val x17) ar ?_
  refine rq (out:=Pb x18) ar ?_
  refine ae7 (R:=ag) (z:=(B0.mk 0 [] [] [] [] false [] 0 0)) zeroValue49 (fun _=>⟨_,⟨_,_,rfl,rfl,⟨_,_,rfl,rfl,⟨_,_,rfl,rfl,⟨_,_,rfl,rfl,⟨_,_,rfl,rfl,⟨_,_,rfl,rfl,⟨_,_,rfl,⟨_,rfl,none,0,rfl,⟨Nat.le_refl _,fun _=>rfl⟩,.inl rfl⟩,⟨_,_,rfl,rfl,⟨_,_,rfl,rfl,rfl⟩⟩⟩⟩⟩⟩⟩⟩⟩,rfl⟩) (fun b19=>?_)
  refine yv (R:=ag) (R':=ag) (a:=(B0.mk 0 [] [] [] [] false [] 0 0)) (y:=x17) 5 sizeOf49 (Upd.refl _) ?_
  refine rq (out:=Pb x18) gb ?_
  refine W_rs ?_
  refine rq (out:=Pb x18) gz ?_
  refine akv (b:=x18) rfl (fun hc20=>?_) (fun hc20=>?_)
  ·replace h:=iteT hc20 h
   refine W_rs ?_
   refine rq (out:=(al).val x1) (au (R:=al) (a:=x1) (R':=al) 1 ty66 (Sub.refl _)) ?_
   refine rq (out:=(ag).val x17) (au (R:=ag) (a:=x17) (R':=ag) 5 ty49 (Sub.refl _)) ?_
   obtain⟨⟨x21,x22⟩,k,h⟩:=ah h
   refine rq (out:=br [(ag).val x21,P6 x22]) (dz (wn x1 x17 true _ k)) ?_
   refine rq (out:=(ag).val x21) ar ?_
   refine rq (out:=P6 x22) ar ?_
   refine yv (R:=ag) (R':=ag) (a:=(B0.mk 0 [] [] [] [] false [] 0 0)) (y:=x21) 3 sizeOf49 (Upd.refl _) ?_
   refine yv (R:=Rp.int .i64) (R':=Rp.int .i64) (a:=0) (y:=x22) 4 sizeOf28 (Upd.refl _) ?_
   obtain rfl:=Option.some.inj h
   exact bg ⟨rfl,[(ag).val x21,P6 x22],⟨yBox 3 ty49 aa,yBox 4 ty28 aa,tv⟩,aa⟩
  replace h:=iteF hc20 h
  refine ay ?_
  refine bo (fun e C=>∃x25,∃x26,qj x25 x26=some r/\At [(4,Pr.pt b5 0),(5,Pr.pt b6 0)] [D9 b7 (Rp.list ag) x12,D9 b3 al x1,D9 b4 af x2,D9 b5 ag x25,D9 b6 (Rp.int .i64) x26,D9 b19 ag x17] e C) ?_ ?_
  ·rintro e C ⟨x25,x26,h,a⟩
   refine W_at a ?_
   clear a
   unfold qj at h
   obtain rfl:=Option.some.inj h
   exact bg ⟨rfl,[(ag).val x25,P6 x26],⟨yBox 3 ty49 aa,yBox 4 ty28 aa,tv⟩,aa⟩
  refine i8 10 hmx kr kr ?_
  refine qq (out:=(al).val x1) (au (R:=al) (a:=x1) (R':=al) 1 ty66 (Sub.refl _)) ?_
  refine qq (out:=(al).val x1) (au (R:=al) (a:=x1) (R':=al) 1 ty66 (Sub.refl _)) ?_
  refine qq (out:=Pr.pt b4 1) (ak ie) ?_
  refine qq (out:=Pr.str x2.Text) (au (R:=af) (a:=x2) (R':=Rp.str) 2 ty9 cd) ?_
  obtain⟨⟨x23,x24⟩,k,h⟩:=ah h
  refine qq (out:=br [(ag).val x23,Pb x24]) (dz (tk x1 x2.Text _ k)) ?_
  refine qq (out:=(ag).val x23) ar ?_
  refine qq (out:=Pb x24) ar ?_
  obtain⟨⟨x25,x26⟩,k,h⟩:=ah h
  refine qq (out:=br [(ag).val x25,P6 x26]) (dz (aah x1 x23 x24 _ k)) ?_
  refine qq (out:=(ag).val x25) ar ?_
  refine qq (out:=P6 x26) ar ?_
  refine yv (R:=ag) (R':=ag) (a:=(B0.mk 0 [] [] [] [] false [] 0 0)) (y:=x25) 3 sizeOf49 (Upd.refl _) ?_
  refine yv (R:=Rp.int .i64) (R':=Rp.int .i64) (a:=0) (y:=x26) 4 sizeOf28 (Upd.refl _) ?_
  exact⟨x25,x26,h,⟨⟨aa,aa,tv⟩,A9.refl _⟩⟩
 |inr x16=>
  replace h:(some (x16,0))=some r:=h
  obtain⟨b10,rfl⟩:=hj
  obtain rfl:=Option.some.inj h
  exact .inr ⟨rfl,⟨rfl,[(ag).val x16,P6 0],⟨yBox 3 ty49 aa,yBox 4 ty28 aa,tv⟩,aa⟩⟩
theorem alq (x1:B7) (x2:B6) (r:B0 × Int) (h:vw x1 x2=some r):Fp 66 [(al).val x1,(af).val x2] (br [(ag).val r.1,P6 r.2]):=by
 refine ec (rs:=[.cell 4 49,.tmp 5]) func66 rfl ntmps66 results66 dcd (fun s0=>?_)
 unfold vw at h
 refine W_rs ?_
 refine rBox (R:=al) (a:=x1) rfl (fun b3=>?_)
 refine rBox (R:=af) (a:=x2) rfl (fun b4=>?_)
 refine bw tn fun b5=>kAs rfl ?_
 refine bo (fun e C=>∃x9,∃x8,u6 x9 x8=some r/\At [(4,Pr.pt b5 0),(5,P6 x9)] [D9 b3 al x1,D9 b4 af x2,D9 b5 ag x8] e C) ?_ ?_
 ·rintro e C ⟨x9,x8,h,a⟩
  refine W_at a ?_
  unfold u6 at h
  obtain rfl:=osj h
  exact bg ⟨rfl,[(ag).val x8,P6 x9],⟨yBox 2 ty49 aa,yT aa,tv⟩,aa⟩
 refine i8 13 hmx kr kr ?_
 refine lUn (au 0 ty66 (Sub.refl _)) ?_
 refine lUn (ak aif) ?_
 refine lUn (au 0 ty38 ku) ?_
 refine lUn (ak al9) ?_
 refine lUn (au 0 ty9 nl) ?_
 refine lUn (ak ie) ?_
 refine lUn (au 1 ty9 cd) ?_
 obtain⟨⟨x6,x7⟩,k,h⟩:=ah h
 refine lUn (dz (ahu x1.Table x1.Class x2.Text _ k)) ?_
 refine lUn ar ?_
 refine lUn ar ?_
 obtain⟨⟨x8,x9⟩,k,h⟩:=ah h
 refine lUn (dz (wn x1 x6 x7 _ k)) ?_
 refine lUn ar ?_
 refine lUn ar ?_
 refine av 2 rfl rfl (Upd.refl _) rfl sizeOf49 (kAs rfl ?_)
 exact⟨x9,x8,h,atOk⟩
end Go.Proofs.YtcndghapmoaidaaGreatDoor
set_option linter.unusedSectionVars false
set_option maxRecDepth 100000
set_option maxHeartbeats 4000000
namespace Go.Proofs.YtcndghapmoaidaaGreatDoor
open Go Go.Cn Tryz
attribute [local irreducible] g0 ap
theorem alp (x1:B7) (x2:B6) (r:B0 × Int) (h:vv x1 x2=some r):Fp 67 [(al).val x1,(af).val x2] (br [(ag).val r.1,P6 r.2]):=by
 refine ec (rs:=[.cell 4 49,.tmp 5]) func67 rfl ntmps67 results67 dcd (fun s0=>?_)
 unfold vv at h
 refine W_rs ?_
 refine rBox (R:=al) (a:=x1) rfl (fun b3=>?_)
 refine rBox (R:=af) (a:=x2) rfl (fun b4=>?_)
 refine bw tn fun b5=>kAs rfl ?_
 refine bo (fun e C=>∃x9,∃x8,u5 x9 x8=some r/\At [(4,Pr.pt b5 0),(5,P6 x9)] [D9 b3 al x1,D9 b4 af x2,D9 b5 ag x8] e C) ?_ ?_
 ·rintro e C ⟨x9,x8,h,a⟩
  refine W_at a ?_
  unfold u5 at h
  obtain rfl:=osj h
  exact bg ⟨rfl,[(ag).val x8,P6 x9],⟨yBox 2 ty49 aa,yT aa,tv⟩,aa⟩
 refine i8 10 hmx kr kr ?_
 refine lUn (au 0 ty66 (Sub.refl _)) ?_
 refine lUn (au 0 ty66 (Sub.refl _)) ?_
 refine lUn (ak ie) ?_
 refine lUn (au 1 ty9 cd) ?_
 obtain⟨⟨x6,x7⟩,k,h⟩:=ah h
 refine lUn (dz (tk x1 x2.Text _ k)) ?_
 refine lUn ar ?_
 refine lUn ar ?_
 obtain⟨⟨x8,x9⟩,k,h⟩:=ah h
 refine lUn (dz (aah x1 x6 x7 _ k)) ?_
 refine lUn ar ?_
 refine lUn ar ?_
 refine av 2 rfl rfl (Upd.refl _) rfl sizeOf49 (kAs rfl ?_)
 exact⟨x9,x8,h,atOk⟩
def im (R:bj):Prop:=(∀(x1:B7) (x2:B6) (r:B0 × Int),R.1 x1 x2=some r->Fp 32 [(al).val x1,(af).val x2] (br [(ag).val r.1,P6 r.2]))/\(∀(x1:B7) (x2:B6) (r:Bt),R.2.1 x1 x2=some r->Fp 33 [(al).val x1,(af).val x2] (Pr.str r))/\(∀(x1:B7) (x2:B6) (r:B0 × Int),R.2.2.1 x1 x2=some r->Fp 68 [(al).val x1,(af).val x2] (br [(ag).val r.1,P6 r.2]))/\(∀(x1:B7) (x2:B6) (r:B0 × Int),R.2.2.2.1 x1 x2=some r->Fp 69 [(al).val x1,(af).val x2] (br [(ag).val r.1,P6 r.2]))/\(∀(x1:B7) (x2:B6) (x3:((List B0)->Bt->Bt->Option (B0 × Bool))) (r:B0 × Int),R.2.2.2.2 x1 x2 x3=some r->Fp 118 [(al).val x1,(af).val x2,d9 Tryz.prog (afx x3)] (br [(ag).val r.1,P6 r.2]))
theorem ahf (R:bj) (ih:im R) (x1:B7) (x2:B6) (r:B0 × Int) (h:pl R x1 x2=some r):Fp 32 [(al).val x1,(af).val x2] (br [(ag).val r.1,P6 r.2]):=by
 refine ec (rs:=[.cell 4 49,.tmp 5]) func32 rfl ntmps32 results32 dcd (fun s0=>?_)
 unfold pl at h
 refine W_rs ?_
 refine rBox (R:=al) (a:=x1) rfl (fun b3=>?_)
 refine rBox (R:=af) (a:=x2) rfl (fun b4=>?_)
 refine bw tn fun b5=>kAs rfl (W_rs ?_)
 refine aol (Rp.int .i64) (Rp.bd ((al).val x1)) (fun b6=>?_)
 refine kUn (au 0 ty66 (Sub.refl _)) ?_
 refine kUn rv ?_
 refine wg (Rk:=Rp.int .i64) (R:=Rp.bd ((al).val x1)) (m:=([]:GMap Int (Option Nat))) (kx:=17) (v:=(some 65)) 3 (o7 underlying3) underlying114 ?_ (hu:=aoe)
 refine kUn (au 0 ty66 (Sub.refl _)) ?_
 refine kUn rv ?_
 refine wg (Rk:=Rp.int .i64) (R:=Rp.bd ((al).val x1)) (m:=(gset 17 (some 65) ([]:GMap Int (Option Nat)))) (kx:=19) (v:=(some 66)) 3 (o7 underlying3) underlying114 ?_ (hu:=aoe)
 refine kUn (au 0 ty66 (Sub.refl _)) ?_
 refine kUn rv ?_
 refine wg (Rk:=Rp.int .i64) (R:=Rp.bd ((al).val x1)) (m:=(gset 19 (some 66) (gset 17 (some 65) ([]:GMap Int (Option Nat))))) (kx:=21) (v:=(some 67)) 3 (o7 underlying3) underlying114 ?_ (hu:=aoe)
 refine kUn (au 0 ty66 (Sub.refl _)) ?_
 refine kUn rv ?_
 refine wg (Rk:=Rp.int .i64) (R:=Rp.bd ((al).val x1)) (m:=(gset 21 (some 67) (gset 19 (some 66) (gset 17 (some 65) ([]:GMap Int (Option Nat)))))) (kx:=18) (v:=(some 68)) 3 (o7 underlying3) underlying114 ?_ (hu:=aoe)
 refine kUn (au 0 ty66 (Sub.refl _)) ?_
 refine kUn rv ?_
 refine wg (Rk:=Rp.int .i64) (R:=Rp.bd ((al).val x1)) (m:=(gset 18 (some 68) (gset 21 (some 67) (gset 19 (some 66) (gset 17 (some 65) ([]:GMap Int (Option Nat))))))) (kx:=20) (v:=(some 69)) 3 (o7 underlying3) underlying114 ?_ (hu:=aoe)
 refine kUn (hMv (out:=qy b6) rfl) (kUn (ak f4) ?_)
 refine kUn (au 1 ty3 bc) ?_
 refine kUn (at7 (Rk:=Rp.int .i64) (R:=Rp.bd ((al).val x1)) (m:=(gset 20 (some 69) (gset 18 (some 68) (gset 21 (some 67) (gset 19 (some 66) (gset 17 (some 65) ([]:GMap Int (Option Nat)))))))) (kx:=x2.Kind) (z:=none) 3 (o7 underlying3) underlying114 zeroValue68 (fun _=>rfl)) ?_
 refine kUn (hMv (out:=br [(Rp.bd ((al).val x1)).val (gget x2.Kind none (gset 20 (some 69) (gset 18 (some 68) (gset 21 (some 67) (gset 19 (some 66) (gset 17 (some 65) ([]:GMap Int (Option Nat)))))))),Pb (ghas x2.Kind (gset 20 (some 69) (gset 18 (some 68) (gset 21 (some 67) (gset 19 (some 66) (gset 17 (some 65) ([]:GMap Int (Option Nat))))))))]) rfl) (kUn ar ?_)
 refine kUn ar ?_
 refine kUn (hAs (out:=(Rp.bd ((al).val x1)).val (gget x2.Kind none (gset 20 (some 69) (gset 18 (some 68) (gset 21 (some 67) (gset 19 (some 66) (gset 17 (some 65) ([]:GMap Int (Option Nat))))))))) rfl) (kAs rfl (a7 (W_rs (kMv rfl (kNo rfl ?_)))))
 refine a6 h rfl (fun _ h=>?_) (fun _ h=>?_)
 ·refine W_rs (kUn (jm st49 rfl) ?_)
  refine av 2 rfl rfl (Upd.refl _) rfl sizeOf49 (kAs rfl ?_)
  obtain rfl:=osj h
  exact bg ⟨rfl,[(ag).val (B0.mk 0 [] [] [] [] false [] 0 0),P6 0],⟨yBox 2 ty49 aa,yT aa,tv⟩,aa⟩
 refine ay (W_rs (kUn (hMv (out:=(Rp.bd ((al).val x1)).val (gget x2.Kind none (gset 20 (some 69) (gset 18 (some 68) (gset 21 (some 67) (gset 19 (some 66) (gset 17 (some 65) ([]:GMap Int (Option Nat))))))))) rfl) (kUn (au 1 ty64 (Sub.refl _)) ?_)))
 rcases cc h with⟨hc8,h⟩|⟨hc8,h⟩
 ·refine rEnv 29 (q:=oc 65 [(al).val x1] []) (ats hc8) ?_
  obtain⟨⟨x9,x10⟩,k,h⟩:=ah h
  refine kUn (adu (aft x1 x2 _ k)) ?_
  refine kUn ar ?_
  refine kUn ar ?_
  refine av 2 rfl rfl (Upd.refl _) rfl sizeOf49 (kAs rfl ?_)
  obtain rfl:=osj h
  exact bg ⟨rfl,[(ag).val x9,P6 x10],⟨yBox 2 ty49 aa,yT aa,tv⟩,aa⟩
 rcases cc h with⟨hc11,h⟩|⟨hc11,h⟩
 ·refine rEnv 29 (q:=oc 66 [(al).val x1] []) (ats hc11) ?_
  obtain⟨⟨x12,x13⟩,k,h⟩:=ah h
  refine kUn (adu (alq x1 x2 _ k)) ?_
  refine kUn ar ?_
  refine kUn ar ?_
  refine av 2 rfl rfl (Upd.refl _) rfl sizeOf49 (kAs rfl ?_)
  obtain rfl:=osj h
  exact bg ⟨rfl,[(ag).val x12,P6 x13],⟨yBox 2 ty49 aa,yT aa,tv⟩,aa⟩
 rcases cc h with⟨hc14,h⟩|⟨hc14,h⟩
 ·refine rEnv 29 (q:=oc 67 [(al).val x1] []) (ats hc14) ?_
  obtain⟨⟨x15,x16⟩,k,h⟩:=ah h
  refine kUn (adu (alp x1 x2 _ k)) ?_
  refine kUn ar ?_
  refine kUn ar ?_
  refine av 2 rfl rfl (Upd.refl _) rfl sizeOf49 (kAs rfl ?_)
  obtain rfl:=osj h
  exact bg ⟨rfl,[(ag).val x15,P6 x16],⟨yBox 2 ty49 aa,yT aa,tv⟩,aa⟩
 rcases cc h with⟨hc17,h⟩|⟨hc17,h⟩
 ·refine rEnv 29 (q:=oc 68 [(al).val x1] []) (ats hc17) ?_
  obtain⟨⟨x18,x19⟩,k,h⟩:=ah h
  refine kUn (adu (ih.2.2.1 x1 x2 _ k)) ?_
  refine kUn ar ?_
  refine kUn ar ?_
  refine av 2 rfl rfl (Upd.refl _) rfl sizeOf49 (kAs rfl ?_)
  obtain rfl:=osj h
  exact bg ⟨rfl,[(ag).val x18,P6 x19],⟨yBox 2 ty49 aa,yT aa,tv⟩,aa⟩
 rcases cc h with⟨hc20,h⟩|⟨hc20,h⟩
 ·refine rEnv 29 (q:=oc 69 [(al).val x1] []) (ats hc20) ?_
  obtain⟨⟨x21,x22⟩,k,h⟩:=ah h
  refine kUn (adu (ih.2.2.2.1 x1 x2 _ k)) ?_
  refine kUn ar ?_
  refine kUn ar ?_
  refine av 2 rfl rfl (Upd.refl _) rfl sizeOf49 (kAs rfl ?_)
  obtain rfl:=osj h
  exact bg ⟨rfl,[(ag).val x21,P6 x22],⟨yBox 2 ty49 aa,yT aa,tv⟩,aa⟩
 cases h
theorem ah9 (R:bj) (ih:im R) (x1:B7) (x2:B6) (r:Bt) (h:sk R x1 x2=some r):Fp 33 [(al).val x1,(af).val x2] (Pr.str r):=by
 refine dv (rs:=[4]) func33 rfl ntmps33 ⟨by decide,results33⟩ dcd (fun s0=>?_)
 unfold sk at h
 refine W_rs ?_
 refine rBox (R:=al) (a:=x1) rfl (fun b3=>?_)
 refine rBox (R:=af) (a:=x2) rfl (fun b4=>?_)
 refine kAs rfl (a7 (W_rs (kUn (ak f4) ?_)))
 refine kUn (au 1 ty3 bc) ?_
 refine a5 ?_
 refine bo (fun e C=>∃x6,qk R x2 x1 x6=some r/\At [(2,Pr.pt b3 0),(3,Pr.pt b4 0),(8,P6 x2.Kind),(9,Pb x6)] [D9 b3 al x1,D9 b4 af x2] e C) ?_ ?_
 ·rintro e C ⟨x6,h,a⟩
  refine W_at a ?_
  unfold qk at h
  refine a6 h rfl (fun _ h=>?_) (fun _ h=>?_)
  ·refine W_rs (kAs rfl ?_)
   obtain rfl:=osj h
   exact bg ⟨rfl,aa⟩
  refine bo (fun e C=>∃x9,ql R x2 x1 x9=some r/\At [(2,Pr.pt b3 0),(3,Pr.pt b4 0),(8,P6 x2.Kind),(12,Pb x9)] [D9 b3 al x1,D9 b4 af x2] e C) ?_ ?_
  ·rintro e C ⟨x9,h,a⟩
   refine W_at a ?_
   unfold ql at h
   refine a6 h rfl (fun _ h=>?_) (fun _ h=>?_)
   ·refine W_rs (kAs rfl ?_)
    obtain rfl:=osj h
    exact bg ⟨rfl,aa⟩
   refine W_rs (kIn rfl rfl rfl (kAs rfl ?_))
   refine a6 h rfl (fun _ h=>?_) (fun _ h=>?_)
   ·refine W_rs (kAs rfl ?_)
    obtain rfl:=osj h
    exact bg ⟨rfl,aa⟩
   refine W_rs (kIn rfl rfl rfl (kAs rfl ?_))
   refine a6 h rfl (fun _ h=>?_) (fun _ h=>?_)
   ·refine a7 (W_rs (kUn (ny (R:=Rp.str) (ls:=([([43]:Bt),([45]:Bt),([42]:Bt),([47]:Bt),([37]:Bt)]:List Bt)) el22 nb ⟨rfl,rfl⟩ ⟨rfl,rfl,rfl,rfl,rfl,tv⟩) ?_))
    refine kUn (ak ie) ?_
    refine kUn (au 1 ty9 cd) ?_
    refine c8 h (mi ([([43]:Bt),([45]:Bt),([42]:Bt),([47]:Bt),([37]:Bt)]:List Bt) x2.Text) rfl fun x13 _ h=>?_
    refine a6 h rfl (fun _ h=>?_) (fun _ h=>?_)
    ·refine W_rs (kAs rfl ?_)
     obtain rfl:=osj h
     exact bg ⟨rfl,aa⟩
    refine ay (W_rs (kAs rfl ?_))
    obtain rfl:=osj h
    exact bg ⟨rfl,aa⟩
   refine W_rs (kIn rfl rfl rfl (kAs rfl ?_))
   refine a6 h rfl (fun _ h=>?_) (fun _ h=>?_)
   ·refine a7 (W_rs (kUn (ak al8) ?_))
    refine kUn (au 0 ty4 ys) ?_
    refine kNo rfl ?_
    refine a6 h rfl (fun _ h=>?_) (fun _ h=>?_)
    ·refine W_rs (kUn (ak al9) ?_)
     refine kUn (au 0 ty9 nl) ?_
     refine kAs rfl ?_
     obtain rfl:=osj h
     exact bg ⟨rfl,aa⟩
    refine ay (W_rs (kAs rfl ?_))
    obtain rfl:=osj h
    exact bg ⟨rfl,aa⟩
   refine ay (W_rs (kUn (au 0 ty66 (Sub.refl _)) ?_))
   refine kUn (au 1 ty64 (Sub.refl _)) ?_
   obtain⟨⟨x17,x18⟩,k,h⟩:=ah h
   refine kUn (dz (ih.1 x1 x2 _ k)) ?_
   refine kUn (hMv (out:=br [(ag).val x17,P6 x18]) rfl) (kUn ar ?_)
   refine kUn ar ?_
   refine bw tn fun b19=>av 2 rfl rfl (Upd.refl _) rfl sizeOf49 (kAs rfl (a7 (a5 (W_rs (kMv rfl (kIn rfl rfl rfl (kAs rfl ?_)))))))
   refine a6 h rfl (fun _ h=>?_) (fun _ h=>?_)
   ·refine W_rs (kAs rfl ?_)
    obtain rfl:=osj h
    exact bg ⟨rfl,aa⟩
   refine W_rs (kUn (ak f4) ?_)
   refine kUn (au 1 ty3 bc) ?_
   refine kIn rfl rfl rfl (kAs rfl ?_)
   refine a6 h rfl (fun _ h=>?_) (fun _ h=>?_)
   ·refine W_rs (kUn (ak s5) ?_)
    refine kUn (au 2 ty9 iv) ?_
    refine kAs rfl ?_
    obtain rfl:=osj h
    exact bg ⟨rfl,aa⟩
   refine W_rs (kUn (ak vc) ?_)
   refine kUn (au 2 ty3 fg) ?_
   refine kIn rfl rfl rfl (kAs rfl ?_)
   refine a6 h rfl (fun _ h=>?_) (fun _ h=>?_)
   ·refine W_rs (kAs rfl ?_)
    obtain rfl:=osj h
    exact bg ⟨rfl,aa⟩
   refine ay (W_rs (kUn (ak ahh) ?_))
   refine kUn (au 2 ty9 kb) ?_
   refine kAs rfl ?_
   obtain rfl:=osj h
   exact bg ⟨rfl,aa⟩
  refine W_rs (kIn rfl rfl rfl (kAs rfl ?_))
  refine a6 h rfl (fun _ h=>?_) (fun _ h=>?_)
  ·refine ay ?_
   exact⟨x2.Kind==14,h,atOk⟩
  refine W_r (kIn rfl rfl rfl (kAs rfl ?_))
  exact⟨x2.Kind==22,h,atOk⟩
 refine W_rs (kIn rfl rfl rfl (kAs rfl ?_))
 refine a6 h rfl (fun _ h=>?_) (fun _ h=>?_)
 ·refine ay ?_
  exact⟨x2.Kind==13,h,atOk⟩
 refine W_r (kIn rfl rfl rfl (kAs rfl ?_))
 exact⟨x2.Kind==23,h,atOk⟩
theorem ajg (R:bj) (ih:im R) (x1:B7) (x2:B6) (r:B0 × Int) (h:t8 R x1 x2=some r):Fp 68 [(al).val x1,(af).val x2] (br [(ag).val r.1,P6 r.2]):=by
 refine ec (rs:=[.cell 4 49,.tmp 5]) func68 rfl ntmps68 results68 dcd (fun s0=>?_)
 unfold t8 at h
 refine W_rs ?_
 refine rBox (R:=al) (a:=x1) rfl (fun b3=>?_)
 refine rBox (R:=af) (a:=x2) rfl (fun b4=>?_)
 refine bw tn fun b5=>kAs rfl (W_rs (kUn (au 0 ty66 (Sub.refl _)) ?_))
 refine kUn (au 1 ty64 (Sub.refl _)) ?_
 obtain⟨⟨x6,x7⟩,k,h⟩:=ah h
 refine kUn (adm (ih.2.2.2.2 x1 x2 w4 _ k) ⟨aa,aa,(ayp en113 (fun _ _ hs=>by obtain⟨a0,a1,a2,r,rfl,rfl,hr⟩:=hs;exact ai2 a0 a1 a2 r hr)),tv⟩) ?_
 refine kUn ar ?_
 refine kUn ar ?_
 refine av 2 rfl rfl (Upd.refl _) rfl sizeOf49 (kAs rfl ?_)
 obtain rfl:=osj h
 exact bg ⟨rfl,[(ag).val x6,P6 x7],⟨yBox 2 ty49 aa,yT aa,tv⟩,aa⟩
theorem agt (R:bj) (ih:im R) (x1:B7) (x2:B6) (r:B0 × Int) (h:ol R x1 x2=some r):Fp 69 [(al).val x1,(af).val x2] (br [(ag).val r.1,P6 r.2]):=by
 refine ec (rs:=[.cell 4 49,.tmp 5]) func69 rfl ntmps69 results69 dcd (fun s0=>?_)
 unfold ol at h
 refine W_rs ?_
 refine rBox (R:=al) (a:=x1) rfl (fun b3=>?_)
 refine rBox (R:=af) (a:=x2) rfl (fun b4=>?_)
 refine bw tn fun b5=>kAs rfl (W_rs (kUn (au 0 ty66 (Sub.refl _)) ?_))
 refine kUn (au 1 ty64 (Sub.refl _)) ?_
 obtain⟨⟨x6,x7⟩,k,h⟩:=ah h
 refine kUn (adm (ih.2.2.2.2 x1 x2 wj _ k) ⟨aa,aa,(ayp en117 (fun _ _ hs=>by obtain⟨a0,a1,a2,r,rfl,rfl,hr⟩:=hs;exact ahu a0 a1 a2 r hr)),tv⟩) ?_
 refine kUn ar ?_
 refine kUn ar ?_
 refine av 2 rfl rfl (Upd.refl _) rfl sizeOf49 (kAs rfl ?_)
 obtain rfl:=osj h
 exact bg ⟨rfl,[(ag).val x6,P6 x7],⟨yBox 2 ty49 aa,yT aa,tv⟩,aa⟩
theorem ahe (R:bj) (ih:im R) (x1:B7) (x2:B6) (x3:((List B0)->Bt->Bt->Option (B0 × Bool))) (r:B0 × Int) (h:pk R x1 x2 x3=some r):Fp 118 [(al).val x1,(af).val x2,d9 Tryz.prog (afx x3)] (br [(ag).val r.1,P6 r.2]):=by
 refine ec (rs:=[.cell 6 49,.tmp 7]) func118 rfl ntmps118 results118 dcd (fun s0=>?_)
 let p1:=B0.mk 0 [] [] [] [] false [] 0 0
 unfold pk at h
 refine W_rs ?_
 refine rBox (R:=al) (a:=x1) rfl (fun b4=>?_)
 let p2:=D9 b4 al x1
 refine rBox (R:=af) (a:=x2) rfl (fun b5=>?_)
 let p3:=D9 b5 af x2
 refine bw tn fun b6=>kAs rfl (a7 (W_rs (kUn (ak ic) ?_)))
 let p4:=D9 b6 ag p1
 refine kUn (au 1 ty53 bt) ?_
 refine kUn (mg rfl underlying53) ?_
 refine kIn rfl rfl rfl ?_
 refine a6 h rfl (fun _ h=>?_) (fun _ h=>?_)
 ·refine W_rs (kUn (jm st49 rfl) ?_)
  refine av 2 rfl rfl (Upd.refl _) rfl sizeOf49 (kAs rfl ?_)
  obtain rfl:=osj h
  exact bg ⟨rfl,[(ag).val p1,P6 180],⟨yBox 2 ty49 aa,yT aa,tv⟩,aa⟩
 refine ay (W_rs (kUn (ak ic) ?_))
 refine kUn (au 1 ty53 bt) ?_
 obtain⟨x8,k,h⟩:=ah h
 refine kUn (fo underlying53 sizeOf64 k) ?_
 refine kUn (cz ty64) ?_
 refine bw al64 fun b9=>av 3 rfl rfl (Upd.refl _) rfl sizeOf64 ?_
 let p5:=D9 b9 af x8
 refine bo (fun e C=>md R x1 x8 x3 x2=some r/\At [(2,d9 Tryz.prog (afx x3)),(3,Pr.pt b4 0),(4,Pr.pt b5 0),(6,Pr.pt b6 0),(8,Pr.pt b9 0)] [p2,p3,p4,p5] e C) ?_ ?_
 ·rintro e C ⟨h,a⟩
  refine W_at a ?_
  unfold md at h
  refine bo (fun e C=>∃x24,∃x23,∃b25,rm R x3 x1 x2 x24 x23=some r/\At [(2,d9 Tryz.prog (afx x3)),(3,Pr.pt b4 0),(4,Pr.pt b5 0),(6,Pr.pt b6 0),(12,Pr.pt b25 0),(13,Pb x24)] [p2,p3,p4,p5,D9 b25 ag x23] e C) ?_ ?_
  ·rintro e C ⟨x24,x23,b25,h,a⟩
   refine W_at a ?_
   unfold rm at h
   refine a7 ?_
   refine bo (fun e C=>∃x27,oj R x3 x1 x23 x2 x27=some r/\At [(2,d9 Tryz.prog (afx x3)),(3,Pr.pt b4 0),(4,Pr.pt b5 0),(6,Pr.pt b6 0),(12,Pr.pt b25 0),(70,Pb x27)] [p2,p3,p4,p5,D9 b25 ag x23] e C) ?_ ?_
   ·rintro e C ⟨x27,h,a⟩
    refine W_at a ?_
    unfold oj at h
    refine a6 h rfl (fun _ h=>?_) (fun _ h=>?_)
    ·refine W_rs (kUn (jm st49 rfl) ?_)
     refine av 2 rfl rfl (Upd.refl _) rfl sizeOf49 (kAs rfl ?_)
     obtain rfl:=osj h
     exact bg ⟨rfl,[(ag).val p1,P6 180],⟨yBox 2 ty49 aa,yT aa,tv⟩,aa⟩
    refine ay (W_rs (kUn (au 0 ty66 (Sub.refl _)) ?_))
    refine bw al66 fun b29=>av 5 rfl rfl (Upd.refl _) rfl sizeOf66 (W_rs (kUn (ak al8) ?_))
    refine av 5 rfl rfl yr rfl sizeOf4 ?_
    refine bo (fun e C=>∃x33,∃x32,rn R x33 x32=some r/\At [(6,Pr.pt b6 0),(7,P6 x33)] [p2,p3,D9 b6 ag x32,p5,D9 b25 ag x23,D9 b29 al ({x1 with Static:=false})] e C) ?_ ?_
    ·rintro e C ⟨x33,x32,h,a⟩
     refine W_at a ?_
     unfold rn at h
     obtain rfl:=osj h
     exact bg ⟨rfl,[(ag).val x32,P6 x33],⟨yBox 2 ty49 aa,yT aa,tv⟩,aa⟩
    refine i8 14 hmx kr kr ?_
    refine lUn (au 5 ty66 (Sub.refl _)) ?_
    refine lUn (hMv (out:=d9 Tryz.prog (afx x3)) rfl) (lUn (ak aif) ?_)
    refine lUn (au 0 ty38 ku) ?_
    refine lUn (ak s5) ?_
    refine lUn (au 4 ty9 iv) ?_
    refine lUn (ak ie) ?_
    refine lUn (au 1 ty9 cd) ?_
    obtain⟨⟨x30,x31⟩,k,h⟩:=ah h
    refine lUn (amn (spec:=afx x3) ⟨_,_,_,_,rfl,rfl,k⟩) ?_
    refine lUn ar ?_
    refine lUn ar ?_
    obtain⟨⟨x32,x33⟩,k,h⟩:=ah h
    refine lUn (dz (wn ({x1 with Static:=false}) x30 x31 _ k)) ?_
    refine lUn ar ?_
    refine lUn ar ?_
    refine av 2 rfl rfl (Upd.refl _) rfl sizeOf49 (kAs rfl ?_)
    exact⟨x33,x32,h,atOk⟩
   refine W_r (kMv rfl (kNo rfl (kMv rfl ?_)))
   rcases cc h with⟨hc26,h⟩|⟨hc26,h⟩
   ·refine skx ?_
    refine kPt rfl hc26 rfl ?_
    exact⟨true,h,atOk⟩
   refine kGd rfl aa hc26 (ak s5) ?_
   refine kGd rfl aa hc26 (au 4 ty9 iv) ?_
   refine kGd rfl aa hc26 (qStr rfl rfl rfl) (kPf rfl hc26 rfl ?_)
   exact⟨x23.Id==[],h,atOk⟩
  obtain⟨x22,hx22,h⟩:=ah h
  obtain⟨⟨x23,x24⟩,hx23,h⟩:=ah h
  refine ash 1 (fun B S=>[D9 b4 al x1,D9 b5 af x2,D9 b6 ag (B0.mk 0 [] [] [] [] false [] 0 0),D9 b9 af x8,(cond (S 9) (D9 (B 8) ag x23) (cond (S 8) (D9 (B 8) ag (B0.mk 0 [] [] [] [] false [] 0 0)) A4.nil))]) (fun B=>[D9 b4 al x1,D9 b5 af x2,D9 b6 ag (B0.mk 0 [] [] [] [] false [] 0 0),D9 b9 af x8,D9 (B 8) ag x23]) [(al).val x1,(al).val x1,(af).val x8,Pr.str x22,br [(ag).val x23,Pb x24],br [(ag).val x23,Pb x24],(ag).val x23,Pb x24,.any,.any,Pb x24] (fun k=>([0,0,0,0,0,0,0,0,2,1,0]:List Nat).getD k 0) hmx kr kr (fun _=>rfl) (fun B S S' h=>by show([D9 b4 al x1,D9 b5 af x2,D9 b6 ag (B0.mk 0 [] [] [] [] false [] 0 0),D9 b9 af x8,(cond (S 9) (D9 (B 8) ag x23) (cond (S 8) (D9 (B 8) ag (B0.mk 0 [] [] [] [] false [] 0 0)) A4.nil))]:Ctx)=[D9 b4 al x1,D9 b5 af x2,D9 b6 ag (B0.mk 0 [] [] [] [] false [] 0 0),D9 b9 af x8,(cond (S' 9) (D9 (B 8) ag x23) (cond (S' 8) (D9 (B 8) ag (B0.mk 0 [] [] [] [] false [] 0 0)) A4.nil))];simp only[h 8 (Nat.le_of_ble_eq_true kr),h 9 (Nat.le_of_ble_eq_true kr)]) (fun _=>rfl) (fun B=>?_)
  refine gq1 (fun S hK=>(au (R:=al) (a:=x1) (R':=al) 0 ty66 (Sub.refl _) (hi:=rfl))) ?_
  refine gq1 (fun S hK=>(au (R:=al) (a:=x1) (R':=al) 0 ty66 (Sub.refl _) (hi:=rfl))) ?_
  refine gq1 (fun S hK=>(au (R:=af) (a:=x8) (R':=af) 3 ty64 (Sub.refl _) (hi:=rfl))) ?_
  refine gq1 (fun S hK=>(dz (ih.2.1 x1 x8 _ hx22))) ?_
  refine gq1 (fun S hK=>(dz (tk x1 x22 _ hx23))) ?_
  refine gq1 (fun S hK=>gz) ?_
  refine gq1 (fun S hK=>ar) ?_
  refine gq1 (fun S hK=>ar) ?_
  refine gqA (fun S hK=>⟨fun B' hB=>by show([D9 b4 al x1,D9 b5 af x2,D9 b6 ag (B0.mk 0 [] [] [] [] false [] 0 0),D9 b9 af x8,(cond (S 9) (D9 (B' 8) ag x23) (cond (S 8) (D9 (B' 8) ag (B0.mk 0 [] [] [] [] false [] 0 0)) A4.nil))]:Ctx)=[D9 b4 al x1,D9 b5 af x2,D9 b6 ag (B0.mk 0 [] [] [] [] false [] 0 0),D9 b9 af x8,(cond (S 9) (D9 (B 8) ag x23) (cond (S 8) (D9 (B 8) ag (B0.mk 0 [] [] [] [] false [] 0 0)) A4.nil))];simp only[hK.me,hK.F 9 kr,cond_false],fun s ρ hg _=>ato (R:=ag) (z:=(B0.mk 0 [] [] [] [] false [] 0 0)) 4 zeroValue49 (fun _=>⟨_,⟨_,_,rfl,rfl,⟨_,_,rfl,rfl,⟨_,_,rfl,rfl,⟨_,_,rfl,rfl,⟨_,_,rfl,rfl,⟨_,_,rfl,rfl,⟨_,_,rfl,⟨_,rfl,none,0,rfl,⟨Nat.le_refl _,fun _=>rfl⟩,.inl rfl⟩,⟨_,_,rfl,rfl,⟨_,_,rfl,rfl,rfl⟩⟩⟩⟩⟩⟩⟩⟩⟩,rfl⟩) (congrArg some ((aj9 (hK.F 9 kr) _ _).trans (aj9 (hK.me) _ _))) (fun b=>by show([D9 b4 al x1,D9 b5 af x2,D9 b6 ag (B0.mk 0 [] [] [] [] false [] 0 0),D9 b9 af x8,(cond (S 9) (D9 b ag x23) (D9 b ag (B0.mk 0 [] [] [] [] false [] 0 0)))]:Ctx)=_;rw[hK.F 9 kr];rfl) s ρ hg⟩) ?_
  refine gqS (fun S hK=>aks.as (aqz (R:=ag) (R':=ag) (a:=(B0.mk 0 [] [] [] [] false [] 0 0)) (y:=x23) 4 sizeOf49 (Upd.refl _) (congrArg some ((aj9 (hK.me) _ _).trans (ayh (hK.T 8 kr) _ _)))) (by show(_:Ctx)=[D9 b4 al x1,D9 b5 af x2,D9 b6 ag (B0.mk 0 [] [] [] [] false [] 0 0),D9 b9 af x8,D9 (B 8) ag x23];rfl)) ?_
  refine gq1 (fun S hK=>gb) ?_
  exact⟨x24,x23,(B 8),h,atOk⟩
 refine W_rs (kUn (ak f4) ?_)
 refine kUn (au 3 ty3 bc) ?_
 refine kIn rfl rfl rfl ?_
 refine a6 h rfl (fun _ h=>?_) (fun _ h=>?_)
 ·refine W_rs (kUn (au 0 ty66 (Sub.refl _)) ?_)
  refine kUn (au 3 ty64 (Sub.refl _)) ?_
  obtain⟨⟨x11,x12⟩,k,h⟩:=ah h
  refine kUn (dz (aft x1 x8 _ k)) ?_
  refine kUn (hMv (out:=br [(ag).val x11,P6 x12]) rfl) (kUn ar ?_)
  refine kUn ar ?_
  refine bw tn fun b13=>av 4 rfl rfl (Upd.refl _) rfl sizeOf49 (kAs rfl ?_)
  refine bo (fun e C=>∃x15,oh R x3 x1 x11 x2 x8 x15=some r/\At [(2,d9 Tryz.prog (afx x3)),(3,Pr.pt b4 0),(4,Pr.pt b5 0),(6,Pr.pt b6 0),(8,Pr.pt b9 0),(9,Pr.pt b13 0),(39,Pb x15)] [p2,p3,p4,p5,D9 b13 ag x11] e C) ?_ ?_
  ·rintro e C ⟨x15,h,a⟩
   refine W_at a ?_
   unfold oh at h
   refine a6 h rfl (fun _ h=>?_) (fun _ h=>?_)
   ·refine W_rs (kUn (au 0 ty66 (Sub.refl _)) ?_)
    refine bw al66 fun b17=>av 5 rfl rfl (Upd.refl _) rfl sizeOf66 (W_rs (kUn (ak al8) ?_))
    refine av 5 rfl rfl yr rfl sizeOf4 ?_
    refine bo (fun e C=>∃x21,∃x20,rl R x21 x20=some r/\At [(6,Pr.pt b6 0),(7,P6 x21)] [p2,p3,D9 b6 ag x20,p5,D9 b13 ag x11,D9 b17 al ({x1 with Static:=true})] e C) ?_ ?_
    ·rintro e C ⟨x21,x20,h,a⟩
     refine W_at a ?_
     unfold rl at h
     obtain rfl:=osj h
     exact bg ⟨rfl,[(ag).val x20,P6 x21],⟨yBox 2 ty49 aa,yT aa,tv⟩,aa⟩
    refine i8 14 hmx kr kr ?_
    refine lUn (au 5 ty66 (Sub.refl _)) ?_
    refine lUn (hMv (out:=d9 Tryz.prog (afx x3)) rfl) (lUn (ak aif) ?_)
    refine lUn (au 0 ty38 ku) ?_
    refine lUn (ak s5) ?_
    refine lUn (au 4 ty9 iv) ?_
    refine lUn (ak ie) ?_
    refine lUn (au 1 ty9 cd) ?_
    obtain⟨⟨x18,x19⟩,k,h⟩:=ah h
    refine lUn (amn (spec:=afx x3) ⟨_,_,_,_,rfl,rfl,k⟩) ?_
    refine lUn ar ?_
    refine lUn ar ?_
    obtain⟨⟨x20,x21⟩,k,h⟩:=ah h
    refine lUn (dz (wn ({x1 with Static:=true}) x18 x19 _ k)) ?_
    refine lUn ar ?_
    refine lUn ar ?_
    refine av 2 rfl rfl (Upd.refl _) rfl sizeOf49 (kAs rfl ?_)
    exact⟨x21,x20,h,atOk⟩
   refine ay ?_
   exact⟨h,⟨⟨aa,aa,aa,aa,aa,tv⟩,A9.of [0,1,2,3] rfl⟩⟩
  refine W_r (kMv rfl (kIn rfl rfl rfl (kMv rfl ?_)))
  rcases cc h with⟨hc14,h⟩|⟨hc14,h⟩
  ·refine kGd rfl aa hc14 (ak vc) ?_
   refine kGd rfl aa hc14 (au 4 ty3 fg) ?_
   refine kGd rfl aa hc14 (qInt rfl rfl rfl) (kPt rfl hc14 rfl ?_)
   exact⟨x11.Kind==1,h,atOk⟩
  refine skx ?_
  refine kPf rfl hc14 rfl ?_
  exact⟨false,h,atOk⟩
 refine ay ?_
 exact⟨h,atOk⟩
theorem zc :∀n,im (c5 n):=by
 intro n
 induction n with
 |zero=>exact⟨(fun x1 x2 r h=>nomatch (show none=some r from h)),(fun x1 x2 r h=>nomatch (show none=some r from h)),(fun x1 x2 r h=>nomatch (show none=some r from h)),(fun x1 x2 r h=>nomatch (show none=some r from h)),(fun x1 x2 x3 r h=>nomatch (show none=some r from h))⟩
 |succ n ih=>exact⟨(fun x1 x2 r h=>ahf (c5 n) ih x1 x2 r h),(fun x1 x2 r h=>ah9 (c5 n) ih x1 x2 r h),(fun x1 x2 r h=>ajg (c5 n) ih x1 x2 r h),(fun x1 x2 r h=>agt (c5 n) ih x1 x2 r h),(fun x1 x2 x3 r h=>ahe (c5 n) ih x1 x2 x3 r h)⟩
theorem wv (x1:B7) (x2:B6) (r:B0 × Int) (h:sh x1 x2=some r):Fp 32 [(al).val x1,(af).val x2] (br [(ag).val r.1,P6 r.2]):=(zc 1048576).1 x1 x2 r h
theorem nt (x1:B7) (x2:B6) (r:Bt) (h:k8 x1 x2=some r):Fp 33 [(al).val x1,(af).val x2] (Pr.str r):=(zc 1048576).2.1 x1 x2 r h
theorem afs (x1:B7) (x2:B6) (x4:B9) (b3:Nat) (v5:Value) (r:PX C5 B9) (h:vu x1 x2 x4=some r):FnX Tryz.prog 74 [Pr.pt b3 0,(al).val x1,(af).val x2] [D9 b3 aq (D5.mk v5 x4.file x4.method x4.many),E6 v5 ao x4.uses 47] (fun q C'=>∃a9,r= .ok a9/\∃w100,q=br []/\C'=[D9 b3 aq (D5.mk w100 a9.file a9.method a9.many),E6 w100 ao a9.uses 47]) (fun v=>∃m,r= .bad m/\v=ac8 m):=by
 refine lk (rs:=[]) func74 rfl ntmps74 ⟨by decide,results74⟩ dcd (fun s0=>?_)
 unfold vu at h
 refine W_rs ?_
 refine rBox (R:=al) (a:=x1) rfl (fun b6=>?_)
 let p1:=D9 b6 al x1
 refine rBox (R:=af) (a:=x2) rfl (fun b7=>?_)
 let p2:=D9 b7 af x2
 refine bo (fun e C=>∃x15,∃x16,∃x17,∃x18,∃v14,nq x2 x1 x15 x16 x17 x18=some r/\At [(0,Pr.pt b3 0),(4,Pr.pt b6 0),(5,Pr.pt b7 0)] [D9 b3 aq (D5.mk v14 x15 x16 x17),E6 v14 ao x18 47,p1,p2] e C) ?_ ?_
 ·rintro e C ⟨x15,x16,x17,x18,v14,h,a⟩
  refine W_at a ?_
  unfold nq at h
  refine a7 (W_rs (kUn (ak ru) ?_))
  refine kUn (au 3 ty3 ip) ?_
  refine kIn rfl rfl rfl ?_
  refine a6 h rfl (fun _ h=>?_) (fun _ h=>?_)
  ·obtain rfl:=osj h
   exact bg (.inl ⟨.inl rfl,_,A9.of [0,1] rfl,_,aa,_,rfl,v14,rfl,rfl⟩)
  refine ay (W_rs (kAs rfl ?_))
  refine bo (fun e C=>∃x36,∃x38,∃x39,∃x40,∃x41,∃v37,jf x2 x36 x38 x39 x40 x41=some r/\At [(0,Pr.pt b3 0),(5,Pr.pt b7 0),(6,Pr.str x36)] [D9 b3 aq (D5.mk v37 x38 x39 x40),E6 v37 ao x41 47,p1,p2] e C) ?_ ?_
  ·rintro e C ⟨x36,x38,x39,x40,x41,v37,h,a⟩
   refine W_at a ?_
   unfold jf at h
   refine W_r (kMv rfl (kUn (ak ru) ?_))
   refine kUn (au 3 ty3 ip) ?_
   refine kMv rfl ?_
   obtain⟨x42,k,h⟩:=ah h
   refine oy [0,1] (afr x2.At x36 (B9.mk x41 x38 x39 x40) b3 v37 _ k) (fun q C' hq=>?_)
   obtain⟨v43,rfl,rfl⟩:=hq
   refine rCtx [D9 b3 aq (D5.mk v43 x42.file x42.method x42.many),E6 v43 ao x42.uses 47,p1,p2] ?_
   obtain rfl:=osj h
   exact(.inl ⟨.inr rfl,_,A9.of [0,1] rfl,_,aa,_,rfl,v43,rfl,rfl⟩)
  refine W_rs (kUn (ak f4) ?_)
  refine kUn (au 3 ty3 bc) ?_
  refine a5 (W_rs (kIn rfl rfl rfl (kAs rfl ?_)))
  refine a6 h rfl (fun _ h=>?_) (fun _ h=>?_)
  ·refine W_r (kUn (ak ie) ?_)
   refine kUn (au 3 ty9 cd) ?_
   refine c8 h (agp x2.Text) rfl fun x21 _ h=>kAs rfl ?_
   exact⟨x21,x15,x16,x17,x18,v14,h,atOk⟩
  refine W_rs (kIn rfl rfl rfl (kAs rfl ?_))
  refine a6 h rfl (fun _ h=>?_) (fun _ h=>?_)
  ·refine W_r (kUn (ak al9) ?_)
   refine kUn (au 2 ty9 nl) ?_
   refine kUn (ak ie) ?_
   refine kUn (au 3 ty9 cd) ?_
   refine c8 h (agn x1.Class x2.Text) rfl fun x23 _ h=>kAs rfl ?_
   exact⟨x23,x15,x16,x17,x18,v14,h,atOk⟩
  refine W_rs (kIn rfl rfl rfl (kAs rfl ?_))
  refine a6 h rfl (fun _ h=>?_) (fun _ h=>?_)
  ·refine W_r (kUn (ak al9) ?_)
   refine kUn (au 2 ty9 nl) ?_
   refine kUn (ak ie) ?_
   refine kUn (au 3 ty9 cd) ?_
   refine c8 h (aew x1.Class x2.Text) rfl fun x25 _ h=>kAs rfl ?_
   exact⟨x25,x15,x16,x17,x18,v14,h,atOk⟩
  refine bo (fun e C=>∃x27,nr x16 x17 x2 x15 x18 x1 x27=some r/\At [(0,Pr.pt b3 0),(4,Pr.pt b6 0),(5,Pr.pt b7 0),(57,Pb x27)] [D9 b3 aq (D5.mk v14 x15 x16 x17),E6 v14 ao x18 47,p1,p2] e C) ?_ ?_
  ·rintro e C ⟨x27,h,a⟩
   refine W_at a ?_
   unfold nr at h
   refine a6 h rfl (fun _ h=>?_) (fun _ h=>?_)
   ·refine i8 10 hmx kr kr ?_
    refine lUn (hMvA rfl) (lUn (aia rfl) (lUn (ak asa) ?_))
    refine lUn (au 0 ty9 tl) ?_
    refine lUn (hMvA rfl) (lUn (aia rfl) (lUn (ak an9) ?_))
    refine lUn (au 0 ty3 wc) ?_
    obtain⟨x29,k,h⟩:=ah h
    refine lUn (dz (agm x16 x17 _ k)) ?_
    refine lUn (hAsA rfl) ?_
    exact⟨x29,x15,x16,x17,x18,v14,h,atOk⟩
   refine W_rs (kUn (au 2 ty66 (Sub.refl _)) ?_)
   refine kUn (au 3 ty64 (Sub.refl _)) ?_
   obtain⟨⟨x30,x31⟩,k,h⟩:=ah h
   refine kUn (dz (wv x1 x2 _ k)) ?_
   refine kUn (hMv (out:=br [(ag).val x30,P6 x31]) rfl) (kUn ar ?_)
   refine kUn ar ?_
   refine bw tn fun b32=>av 4 rfl rfl (Upd.refl _) rfl sizeOf49 (kAs rfl (W_rs (kMv rfl (kMv rfl (kUn (ak ru) ?_)))))
   refine kUn (au 3 ty3 ip) ?_
   rcases cr h with⟨m35,hm35,h⟩|⟨x33,hx33,h⟩
   ·refine dw [0,1] (mc x31 x2.At (B9.mk x18 x15 x16 x17) b3 v14 _ hm35) ⟨aa,aa,aa,tv⟩ (fun q C' hq=>?_) (fun v9 hv=>?_)
    ·obtain⟨_,h9,_⟩:=hq;cases h9
    obtain⟨_,h9,rfl⟩:=hv
    cases h9
    obtain rfl:=osj h
    exact .inr ⟨_,rfl,_,rfl,rfl⟩
   refine dw [0,1] (mc x31 x2.At (B9.mk x18 x15 x16 x17) b3 v14 _ hx33) ⟨aa,aa,aa,tv⟩ (fun q C' hq=>?_) (fun v9 hv=>by obtain⟨_,h9,_⟩:=hv;cases h9)
   obtain⟨_,h9,v34,rfl,rfl⟩:=hq
   cases h9
   refine rCtx [D9 b3 aq (D5.mk v34 x33.file x33.method x33.many),E6 v34 ao x33.uses 47,p1,p2,D9 b32 ag x30] ?_
   refine W_r (kUn (ak s5) ?_)
   refine kUn (au 4 ty9 iv) ?_
   refine kAs rfl ?_
   exact⟨x30.Id,x33.file,x33.method,x33.many,x33.uses,v34,h,⟨⟨aa,aa,aa,tv⟩,A9.of [0,1,2,3] rfl⟩⟩
  refine W_rs (kIn rfl rfl rfl (kAs rfl ?_))
  refine a6 h rfl (fun _ h=>?_) (fun _ h=>?_)
  ·refine ay ?_
   exact⟨x2.Kind==4,h,atOk⟩
  refine W_r (kIn rfl rfl rfl (kAs rfl ?_))
  exact⟨x2.Kind==6,h,atOk⟩
 refine bo (fun e C=>∃x9,qi x2 x4 x1 x9=some r/\At [(0,Pr.pt b3 0),(4,Pr.pt b6 0),(5,Pr.pt b7 0),(15,Pb x9)] [D9 b3 aq (D5.mk v5 x4.file x4.method x4.many),E6 v5 ao x4.uses 47,p1,p2] e C) ?_ ?_
 ·rintro e C ⟨x9,h,a⟩
  refine W_at a ?_
  unfold qi at h
  refine a6 h rfl (fun _ h=>?_) (fun _ h=>?_)
  ·refine W_r (kMv rfl (kUn (ak adb) ?_))
   refine kUn (au 3 ty3 iu) ?_
   rcases cr h with⟨m13,hm13,h⟩|⟨x11,hx11,h⟩
   ·refine dw [0,1] (mc 171 x2.From x4 b3 v5 _ hm13) ⟨aa,aa,aa,tv⟩ (fun q C' hq=>?_) (fun v9 hv=>?_)
    ·obtain⟨_,h9,_⟩:=hq;cases h9
    obtain⟨_,h9,rfl⟩:=hv
    cases h9
    obtain rfl:=osj h
    exact .inr ⟨_,rfl,_,rfl,rfl⟩
   refine dw [0,1] (mc 171 x2.From x4 b3 v5 _ hx11) ⟨aa,aa,aa,tv⟩ (fun q C' hq=>?_) (fun v9 hv=>by obtain⟨_,h9,_⟩:=hv;cases h9)
   obtain⟨_,h9,v12,rfl,rfl⟩:=hq
   cases h9
   refine rCtx [D9 b3 aq (D5.mk v12 x11.file x11.method x11.many),E6 v12 ao x11.uses 47,p1,p2] ?_
   exact⟨x11.file,x11.method,x11.many,x11.uses,v12,h,atOk⟩
  refine ay ?_
  exact⟨x4.file,x4.method,x4.many,x4.uses,v5,h,atOk⟩
 refine W_r (kUn (ak f4) ?_)
 refine kUn (au 3 ty3 bc) ?_
 refine kIn rfl rfl rfl (kMv rfl ?_)
 rcases cc h with⟨hc8,h⟩|⟨hc8,h⟩
 ·refine kGd rfl aa hc8 (ak al8) ?_
  refine kGd rfl aa hc8 (au 2 ty4 ys) ?_
  refine kPt rfl hc8 rfl ?_
  exact⟨x1.Static,h,atOk⟩
 refine skx ?_
 refine kPf rfl hc8 rfl ?_
 exact⟨false,h,atOk⟩
def xr (R:cp):Prop:=(∀(x1:B7) (x2:B6) (x4:B9) (b3:Nat) (v5:Value) (r:PX C5 (B7 × B9)),R x1 x2 x4=some r->FnX Tryz.prog 37 [Pr.pt b3 0,(al).val x1,(af).val x2] [D9 b3 aq (D5.mk v5 x4.file x4.method x4.many),E6 v5 ao x4.uses 47] (fun q C'=>∃a9,r= .ok a9/\∃w100,q=(al).val a9.1/\C'=[D9 b3 aq (D5.mk w100 a9.2.file a9.2.method a9.2.many),E6 w100 ao a9.2.uses 47]) (fun v=>∃m,r= .bad m/\v=ac8 m))
theorem ah2 (R:cp) (ih:xr R) (x1:B7) (x2:B6) (x4:B9) (b3:Nat) (v5:Value) (r:PX C5 (B7 × B9)) (h:qn R x1 x2 x4=some r):FnX Tryz.prog 37 [Pr.pt b3 0,(al).val x1,(af).val x2] [D9 b3 aq (D5.mk v5 x4.file x4.method x4.many),E6 v5 ao x4.uses 47] (fun q C'=>∃a9,r= .ok a9/\∃w100,q=(al).val a9.1/\C'=[D9 b3 aq (D5.mk w100 a9.2.file a9.2.method a9.2.many),E6 w100 ao a9.2.uses 47]) (fun v=>∃m,r= .bad m/\v=ac8 m):=by
  refine axv (rs:=[.cell 6 66]) func37 rfl ntmps37 results37 dcd (fun s0=>?_)
  let p1:=B7.mk [] [] false []
  unfold qn at h
  refine W_rs ?_
  refine rBox (R:=al) (a:=x1) rfl (fun b6=>?_)
  let p2:=D9 b6 al x1
  refine rBox (R:=af) (a:=x2) rfl (fun b7=>?_)
  let p3:=D9 b7 af x2
  refine bw al66 fun b8=>W_rs (kMv rfl (kUn (au 2 ty66 (Sub.refl _)) ?_))
  let p4:=D9 b8 al p1
  refine kUn (au 3 ty64 (Sub.refl _)) ?_
  rcases cr h with⟨m73,hm73,h⟩|⟨x9,hx9,h⟩
  · refine dw [0,1] (ae3 x1 x2 x4 b3 v5 _ hm73) ⟨aa,aa,aa,tv⟩ (fun q C' hq=>?_) (fun v9 hv=>?_)
    · obtain⟨_,h9,_⟩:=hq;cases h9
    obtain⟨_,h9,rfl⟩:=hv
    cases h9
    obtain rfl:=osj h
    exact .inr ⟨_,rfl,_,rfl,rfl⟩
  refine dw [0,1] (ae3 x1 x2 x4 b3 v5 _ hx9) ⟨aa,aa,aa,tv⟩ (fun q C' hq=>?_) (fun v9 hv=>by obtain⟨_,h9,_⟩:=hv;cases h9)
  obtain⟨_,h9,v10,rfl,rfl⟩:=hq
  cases h9
  refine rCtx [D9 b3 aq (D5.mk v10 x9.file x9.method x9.many),E6 v10 ao x9.uses 47,p2,p3,p4] ?_
  refine W_rs (kUn (ak ic) ?_)
  refine kUn (au 3 ty53 bt) ?_
  refine kAsL rfl ?_
  refine bo (fun e C=>∃x22,∃x24,∃x25,∃x26,∃x27,∃v23,my R x1 x2 x22 x24 x25 x26 x27=some r/\At [(0,Pr.pt b3 0),(4,Pr.pt b6 0),(5,Pr.pt b7 0),(6,Pr.pt b8 0),(7,ap af x22)] [D9 b3 aq (D5.mk v23 x24 x25 x26),E6 v23 ao x27 47,p2,p3,p4] e C) ?_ ?_
  · rintro e C ⟨x22,x24,x25,x26,x27,v23,h,a⟩
    refine W_at a ?_
    unfold my at h
    refine W_rs (kMv rfl (kUn (au 2 ty66 (Sub.refl _)) ?_))
    refine kUn (au 3 ty64 (Sub.refl _)) ?_
    rcases cr h with⟨m72,hm72,h⟩|⟨x28,hx28,h⟩
    · refine dw [0,1] (afs x1 x2 (B9.mk x27 x24 x25 x26) b3 v23 _ hm72) ⟨aa,aa,aa,tv⟩ (fun q C' hq=>?_) (fun v9 hv=>?_)
      · obtain⟨_,h9,_⟩:=hq;cases h9
      obtain⟨_,h9,rfl⟩:=hv
      cases h9
      obtain rfl:=osj h
      exact .inr ⟨_,rfl,_,rfl,rfl⟩
    refine dw [0,1] (afs x1 x2 (B9.mk x27 x24 x25 x26) b3 v23 _ hx28) ⟨aa,aa,aa,tv⟩ (fun q C' hq=>?_) (fun v9 hv=>by obtain⟨_,h9,_⟩:=hv;cases h9)
    obtain⟨_,h9,v29,rfl,rfl⟩:=hq
    let p5:=D5.mk v29 x28.file x28.method x28.many
    let p6:=E6 v29 ao x28.uses 47
    cases h9
    refine rCtx [D9 b3 aq p5,p6,p2,p3,p4] ?_
    refine bo (fun e C=>∃x31,iq R x28 x22 x2 x1 x31=some r/\At [(0,Pr.pt b3 0),(4,Pr.pt b6 0),(5,Pr.pt b7 0),(6,Pr.pt b8 0),(7,ap af x22),(8,Pb x31)] [D9 b3 aq p5,p6,p2,p3,p4] e C) ?_ ?_
    · rintro e C ⟨x31,h,a⟩
      refine W_at a ?_
      unfold iq at h
      refine bo (fun e C=>∃x32,∃b33,ti R x31 x22 x2 x1 x28 x32=some r/\At [(0,Pr.pt b3 0),(4,Pr.pt b6 0),(5,Pr.pt b7 0),(6,Pr.pt b8 0),(7,ap af x22),(8,Pb x31),(9,Pr.pt b33 0)] [D9 b3 aq p5,p6,p2,p3,p4,D9 b33 ag (B0.mk 4 x32 x2.Text x28.method x2.Type_ false [] x28.file x2.At)] e C) ?_ ?_
      · rintro e C ⟨x32,b33,h,a⟩
        let p7:=D9 b33 ag (B0.mk 4 x32 x2.Text x28.method x2.Type_ false [] x28.file x2.At)
        let p8:=B0.mk 4 x32 x2.Text x28.method x2.Type_ false [] x28.file x2.At
        refine W_at a ?_
        unfold ti at h
        refine W_rs (kUn (au 2 ty66 (Sub.refl _)) ?_)
        refine bw al66 fun b34=>av 6 rfl rfl (Upd.refl _) rfl sizeOf66 ?_
        refine bo (fun e C=>∃x37,∃x38,lg R x22 x2 x1 x28 x31 x32 x37 x38=some r/\At [(0,Pr.pt b3 0),(4,Pr.pt b6 0),(5,Pr.pt b7 0),(6,Pr.pt b8 0),(7,ap af x22),(8,Pb x31),(9,Pr.pt b33 0),(10,Pr.pt b34 0)] [D9 b3 aq (D5.mk v29 x28.file x28.method x37),p6,p2,p3,p4,p7,D9 b34 al x38] e C) ?_ ?_
        · rintro e C ⟨x37,x38,h,a⟩
          refine W_at a ?_
          unfold lg at h
          refine a7 (W_rs (kMvL rfl (kUn (mg rfl underlying53) ?_)))
          refine kMv rfl (a5 ?_)
          obtain⟨z3l,hz3,h⟩:=ah h
          obtain⟨n3,hN3⟩:=bv hz3
          refine di 1 (fun e C=>∃x41,∃x42,∃x43,∃x45,∃x44,∃v40,tg R x31 x1 x32 x2 x28 x41 x42 x43 x45 x44=some r/\At [(0,Pr.pt b3 0),(4,Pr.pt b6 0),(6,Pr.pt b8 0),(8,Pb x31),(9,Pr.pt b33 0)] [D9 b3 aq (D5.mk v40 x41 x42 x43),E6 v40 ao x45 47,p2,p3,p4,p7,D9 b34 al x44] e C) ?_ ?_
          · rintro e C ⟨x41,x42,x43,x45,x44,v40,h,a⟩
            let p9:=D9 b3 aq (D5.mk v40 x41 x42 x43)
            refine W_at a ?_
            unfold tg at h
            refine bo (fun e C=>∃x71,ph R x45 x41 x42 x43 x71=some r/\At [(0,Pr.pt b3 0),(4,Pr.pt b6 0),(6,Pr.pt b8 0)] [p9,E6 v40 ao x45 47,D9 b6 al x71,p3,p4,p7,D9 b34 al x44] e C) ?_ ?_
            · rintro e C ⟨x71,h,a⟩
              refine W_at a ?_
              unfold ph at h
              refine W_rs (kUn (au 2 ty66 (Sub.refl _)) ?_)
              refine av 4 rfl rfl (Upd.refl _) rfl sizeOf66 ?_
              obtain rfl:=osj h
              exact bg (.inl ⟨.inl rfl,[(al).val x71],⟨yBox 4 ty66 aa,tv⟩,_,A9.of [0,1] rfl,_,rfl,v40,rfl,rfl⟩)
            refine W_rs (kMv rfl ?_)
            refine a6 h rfl (fun _ h=>?_) (fun _ h=>?_)
            · obtain⟨x67,hx67,h⟩:=ah h
              obtain⟨x69,k,h⟩:=ah h
              refine aec [0,1,3,0,8,31,63,127] [[],[p2],[],[p7],[],[],[],[]] hmx kr kr kr rfl ?_
              refine aq0 0 1 (out:=Pr.pt b6 3) rfl (fun C9=>(ak aoa)) ?_
              refine aq1 1 3 2 (out:=ap ag x1.Seen) rfl rfl (fun C9 i9 h9=>(au (R:=al) (a:=x1) (R':=Rp.list ag) i9 ty38 aa3 (hi:=h9))) ?_
              refine aq1 3 11 5 (out:=(ag).val p8) rfl rfl (fun C9 i9 h9=>(au (R:=ag) (a:=p8) (R':=ag) i9 ty49 (Sub.refl _) (hi:=h9))) ?_
              refine aq0 4 27 (out:=ap ag ([p8]:List B0)) rfl (fun C9=>(cq (R:=ag) (a:=p8) el38 nb)) ?_
              refine ae 2 31 rfl (fun g9=>?_)
              refine oy [] (ai8 x1.Seen _ hx67) (fun q C' hq=>?_)
              obtain⟨v68,rfl,rfl⟩:=hq
              refine rCtx [E6 v68 ag x67 49,p9,E6 v40 ao x45 47,p2,p3,p4,p7,D9 b34 al x44] ?_
              refine oz _ [p7] (ud 6 fv) ?_
              refine ae 5 63 rfl (fun g9=>?_)
              refine ik 0 el38 k (fun v70=>?_)
              refine oz _ [] fv ?_
              refine aq0 6 127 (out:=Pr.pt b6 3) rfl (fun C9=>(ak aoa)) ?_
              refine ae 7 255 rfl (fun g9=>?_)
              refine at5 (Rb:=al) (R:=ag) (a:=x1) 0 2 sizeOf38 ag8 ?_
              refine oz .any [] fv ?_
              refine agx ?_
              exact⟨{x1 with Seen:=x69},h,atOk⟩
            refine ay ?_
            exact⟨x1,h,atOk⟩
          refine ek (fun m e C=>∃x39,∃x41,∃x42,∃x43,∃x44,∃x45,∃v40,fq (fun s=>ju R x22 x2 x1 s.1 s.2.1 s.2.2.1 s.2.2.2.1 s.2.2.2.2.1 s.2.2.2.2.2) m (x39,x41,x42,x43,x44,x45)=some z3l/\At [(0,Pr.pt b3 0),(4,Pr.pt b6 0),(5,Pr.pt b7 0),(6,Pr.pt b8 0),(8,Pb x31),(9,Pr.pt b33 0),(10,Pr.pt b34 0),(94,ap af x22),(95,P6 (x22.length:Int)),(96,P6 x39)] [D9 b3 aq (D5.mk v40 x41 x42 x43),E6 v40 ao x45 47,p2,p3,p4,p7,D9 b34 al x44] e C) n3 ⟨0,x28.file,x28.method,x37,x38,x28.uses,v29,hN3,⟨⟨aa,aa,aa,aa,aa,aa,aa,aa,aa,aa,tv⟩,A9.refl _⟩⟩ ?_
          rintro m e C ⟨x39,x41,x42,x43,x44,x45,v40,hN3,a⟩
          let p10:=D9 b34 al x44
          let p11:=E6 v40 ao x45 47
          refine W_at a ?_
          obtain⟨m3,w3l,rfl,h3l,hn3,ho3⟩:=bm hN3
          replace h3l:ju R x22 x2 x1 x39 x41 x42 x43 x44 x45=some w3l:=h3l
          unfold ju at h3l
          refine W_rs (kIn rfl rfl rfl (a7 ?_))
          refine a6 h3l rfl (fun _ h3l=>?_) (fun _ h3l=>?_)
          · refine ay (a7 (a5 (W_rs ?_)))
            obtain⟨x54,k,h3l⟩:=ah h3l
            refine kUn (fo underlying53 sizeOf64 k) ?_
            refine kUn (cz ty64) ?_
            refine bw al64 fun b55=>av 7 rfl rfl (Upd.refl _) rfl sizeOf64 ?_
            let p12:=D9 b55 af x54
            refine bo (fun e C=>∃x60,∃x61,pg R x44 x54 x45 x41 x39 x60 x61=some w3l/\At [(0,Pr.pt b3 0),(4,Pr.pt b6 0),(5,Pr.pt b7 0),(6,Pr.pt b8 0),(8,Pb x31),(9,Pr.pt b33 0),(10,Pr.pt b34 0),(12,Pr.pt b55 0),(94,ap af x22),(95,P6 (x22.length:Int)),(96,P6 x39)] [D9 b3 aq (D5.mk v40 x41 x60 x61),p11,p2,p3,p4,p7,p10,p12] e C) ?_ ?_
            · rintro e C ⟨x60,x61,h3l,a⟩
              refine W_at a ?_
              unfold pg at h3l
              refine W_r (kMv rfl (kUn (au 6 ty66 (Sub.refl _)) ?_))
              refine kUn (au 7 ty64 (Sub.refl _)) ?_
              rcases cr h3l with⟨m65,hm65,h3l⟩|⟨⟨x62,x63⟩,hx62,h3l⟩
              · refine dw [0,1] (ih x44 x54 (B9.mk x45 x41 x60 x61) b3 v40 _ hm65) ⟨aa,aa,aa,tv⟩ (fun q C' hq=>?_) (fun v9 hv=>?_)
                · obtain⟨_,h9,_⟩:=hq;cases h9
                obtain⟨_,h9,rfl⟩:=hv
                cases h9
                obtain rfl:=ho3 _ (ojs h3l)
                replace h:some (.bad m65)=some r:=h
                obtain rfl:=osj h
                exact .inr ⟨_,rfl,_,rfl,rfl⟩
              refine dw [0,1] (ih x44 x54 (B9.mk x45 x41 x60 x61) b3 v40 _ hx62) ⟨aa,aa,aa,tv⟩ (fun q C' hq=>?_) (fun v9 hv=>by obtain⟨_,h9,_⟩:=hv;cases h9)
              obtain⟨_,h9,v64,rfl,rfl⟩:=hq
              cases h9
              refine rCtx [D9 b3 aq (D5.mk v64 x63.file x63.method x63.many),E6 v64 ao x63.uses 47,p2,p3,p4,p7,p10,p12] ?_
              refine av 6 rfl rfl (Upd.refl _) rfl sizeOf66 (W_r (kIn rfl rfl rfl (kMv rfl ?_)))
              exact⟨m3,lsu,w64 (x39+1),x63.file,x63.method,x63.many,x62,x63.uses,v64,hn3 _ (ojs h3l),⟨⟨aa,aa,aa,aa,aa,aa,aa,aa,aa,aa,tv⟩,A9.of [0,1,2,3,4,5,6] rfl⟩⟩
            refine bo (fun e C=>∃x57,lh R x1 x54 x44 x45 x41 x39 x42 x43 x57=some w3l/\At [(0,Pr.pt b3 0),(4,Pr.pt b6 0),(5,Pr.pt b7 0),(6,Pr.pt b8 0),(8,Pb x31),(9,Pr.pt b33 0),(10,Pr.pt b34 0),(12,Pr.pt b55 0),(94,ap af x22),(95,P6 (x22.length:Int)),(96,P6 x39),(107,Pb x57)] [D9 b3 aq (D5.mk v40 x41 x42 x43),p11,p2,p3,p4,p7,p10,p12] e C) ?_ ?_
            · rintro e C ⟨x57,h3l,a⟩
              refine W_at a ?_
              unfold lh at h3l
              refine a6 h3l rfl (fun _ h3l=>?_) (fun _ h3l=>?_)
              · refine W_r (kMv rfl (kMv rfl (kUn (ak al9) ?_)))
                refine kUn (au 2 ty9 nl) ?_
                refine kUn (ak ie) ?_
                refine kUn (au 7 ty9 cd) ?_
                refine c8 h3l (aew x1.Class x54.Text) rfl fun x59 _ h3l=>kNp rfl (kUn (ak asa) ?_)
                refine av 0 rfl rfl ahx rfl sizeOf9 ?_
                refine rCtx [D9 b3 aq (D5.mk v40 x41 x59 x43),p11,p2,p3,p4,p7,p10,p12] ?_
                refine kNp rfl (kUn (ak an9) ?_)
                refine av 0 rfl rfl ac0 rfl sizeOf3 ?_
                refine rCtx [D9 b3 aq (D5.mk v40 x41 x59 0),p11,p2,p3,p4,p7,p10,p12] ?_
                exact⟨x59,0,h3l,atOk⟩
              refine ay ?_
              exact⟨x42,x43,h3l,atOk⟩
            refine W_r (kUn (ak f4) ?_)
            refine kUn (au 3 ty3 bc) ?_
            refine kIn rfl rfl rfl (kMv rfl ?_)
            rcases cc h3l with⟨hc56,h3l⟩|⟨hc56,h3l⟩
            · refine kGd rfl aa hc56 (ak f4) ?_
              refine kGd rfl aa hc56 (au 7 ty3 bc) ?_
              refine kGd rfl aa hc56 (qInt rfl rfl rfl) (kPt rfl hc56 rfl ?_)
              exact⟨x54.Kind==3,h3l,atOk⟩
            refine skx ?_
            refine kPf rfl hc56 rfl ?_
            exact⟨false,h3l,atOk⟩
          refine ej ?_
          obtain rfl:=ho3 _ (ojs h3l)
          exact⟨x41,x42,x43,x45,x44,v40,h,atOk⟩
        refine a5 (W_rs (kMv rfl (kAs rfl ?_)))
        refine a6 h rfl (fun _ h=>?_) (fun _ h=>?_)
        · refine W_r (kMv rfl (kNp rfl (kUn (ak an9) ?_)))
          refine kUn (au 0 ty3 wc) ?_
          refine kIn rfl rfl rfl (kNp rfl (kUn (ak an9) ?_))
          refine av 0 rfl rfl ac0 rfl sizeOf3 ?_
          refine rCtx [D9 b3 aq (D5.mk v29 x28.file x28.method (w64 (x28.many+1))),p6,p2,p3,p4,p7,D9 b34 al x1] ?_
          exact⟨w64 (x28.many+1),x1,h,atOk⟩
        refine W_rs (kUn (ak f4) ?_)
        refine kUn (au 3 ty3 bc) ?_
        refine kIn rfl rfl rfl (kAs rfl ?_)
        refine a6 h rfl (fun _ h=>?_) (fun _ h=>?_)
        · refine W_r (kUn (ak aig) ?_)
          refine kUn (au 3 ty2 acn) ?_
          refine kIn rfl rfl rfl (kUn (ak al8) ?_)
          refine av 6 rfl rfl yr rfl sizeOf4 ?_
          exact⟨x28.many,{x1 with Static:=x2.N==1},h,atOk⟩
        refine ay ?_
        exact⟨x28.many,x1,h,atOk⟩
      obtain⟨x32,hx32,h⟩:=ah h
      refine ash 1 (fun B S=>[D9 b3 aq (D5.mk v29 x28.file x28.method x28.many),E6 v29 ao x28.uses 47,D9 b6 al x1,D9 b7 af x2,D9 b8 al (B7.mk [] [] false []),(cond (S 25) (D9 (B 24) ag (B0.mk 4 x32 x2.Text x28.method x2.Type_ false [] x28.file x2.At)) (cond (S 24) (D9 (B 24) ag (B0.mk 0 [] [] [] [] false [] 0 0)) A4.nil))]) (fun B=>[D9 b3 aq (D5.mk v29 x28.file x28.method x28.many),E6 v29 ao x28.uses 47,D9 b6 al x1,D9 b7 af x2,D9 b8 al (B7.mk [] [] false []),D9 (B 24) ag (B0.mk 4 x32 x2.Text x28.method x2.Type_ false [] x28.file x2.At)]) [Pr.pt b3 0,Pr.pt b3 0,Pr.pt b3 2,Pr.str x28.method,Pr.pt b3 0,Pr.pt b3 0,Pr.pt b3 3,P6 x28.many,Pr.str x32,Pr.pt b7 1,Pr.str x2.Text,Pr.pt b3 0,Pr.pt b3 0,Pr.pt b3 2,Pr.str x28.method,Pr.pt b7 2,Pr.str x2.Type_,Pr.pt b3 0,Pr.pt b3 0,Pr.pt b3 1,P6 x28.file,Pr.pt b7 6,P6 x2.At,(ag).val (B0.mk 4 x32 x2.Text x28.method x2.Type_ false [] x28.file x2.At),.any,.any] (fun k=>([0,0,0,0,0,0,0,0,0,0,0,0,0,0,0,0,0,0,0,0,0,0,0,0,2,1]:List Nat).getD k 0) hmx kr kr (fun _=>rfl) (fun B S S' h=>by show([D9 b3 aq (D5.mk v29 x28.file x28.method x28.many),E6 v29 ao x28.uses 47,D9 b6 al x1,D9 b7 af x2,D9 b8 al (B7.mk [] [] false []),(cond (S 25) (D9 (B 24) ag (B0.mk 4 x32 x2.Text x28.method x2.Type_ false [] x28.file x2.At)) (cond (S 24) (D9 (B 24) ag (B0.mk 0 [] [] [] [] false [] 0 0)) A4.nil))]:Ctx)=[D9 b3 aq (D5.mk v29 x28.file x28.method x28.many),E6 v29 ao x28.uses 47,D9 b6 al x1,D9 b7 af x2,D9 b8 al (B7.mk [] [] false []),(cond (S' 25) (D9 (B 24) ag (B0.mk 4 x32 x2.Text x28.method x2.Type_ false [] x28.file x2.At)) (cond (S' 24) (D9 (B 24) ag (B0.mk 0 [] [] [] [] false [] 0 0)) A4.nil))];simp only[h 24 (Nat.le_of_ble_eq_true kr),h 25 (Nat.le_of_ble_eq_true kr)]) (fun _=>rfl) (fun B=>?_)
      refine gq1 (fun S hK=>gz) ?_
      refine gq1 (fun S hK=>aia) ?_
      refine gq1 (fun S hK=>(ak asa)) ?_
      refine gq1 (fun S hK=>(au (R:=aq) (a:=p5) (R':=Rp.str) 0 ty9 tl (hi:=rfl))) ?_
      refine gq1 (fun S hK=>gz) ?_
      refine gq1 (fun S hK=>aia) ?_
      refine gq1 (fun S hK=>(ak an9)) ?_
      refine gq1 (fun S hK=>(au (R:=aq) (a:=p5) (R':=Rp.int .i64) 0 ty3 wc (hi:=rfl))) ?_
      refine gq1 (fun S hK=>(dz (agm x28.method x28.many _ hx32))) ?_
      refine gq1 (fun S hK=>(ak ie)) ?_
      refine gq1 (fun S hK=>(au (R:=af) (a:=x2) (R':=Rp.str) 3 ty9 cd (hi:=rfl))) ?_
      refine gq1 (fun S hK=>gz) ?_
      refine gq1 (fun S hK=>aia) ?_
      refine gq1 (fun S hK=>(ak asa)) ?_
      refine gq1 (fun S hK=>(au (R:=aq) (a:=p5) (R':=Rp.str) 0 ty9 tl (hi:=rfl))) ?_
      refine gq1 (fun S hK=>(ak ws)) ?_
      refine gq1 (fun S hK=>(au (R:=af) (a:=x2) (R':=Rp.str) 3 ty9 gm (hi:=rfl))) ?_
      refine gq1 (fun S hK=>gz) ?_
      refine gq1 (fun S hK=>aia) ?_
      refine gq1 (fun S hK=>(ak asb)) ?_
      refine gq1 (fun S hK=>(au (R:=aq) (a:=p5) (R':=Rp.int .i64) 0 ty3 wd (hi:=rfl))) ?_
      refine gq1 (fun S hK=>(ak ru)) ?_
      refine gq1 (fun S hK=>(au (R:=af) (a:=x2) (R':=Rp.int .i64) 3 ty3 ip (hi:=rfl))) ?_
      refine gq1 (fun S hK=>(jm st49 ⟨(B0.mk 4 [] [] [] [] false [] 0 0),⟨_,rfl,rfl,qbj⟩,⟨(B0.mk 4 x32 [] [] [] false [] 0 0),⟨_,rfl,rfl,qbj⟩,⟨(B0.mk 4 x32 x2.Text [] [] false [] 0 0),⟨_,rfl,rfl,qbj⟩,⟨(B0.mk 4 x32 x2.Text x28.method [] false [] 0 0),⟨_,rfl,rfl,qbj⟩,⟨(B0.mk 4 x32 x2.Text x28.method x2.Type_ false [] 0 0),⟨_,rfl,rfl,qbj⟩,⟨(B0.mk 4 x32 x2.Text x28.method x2.Type_ false [] x28.file 0),⟨_,rfl,rfl,qbj⟩,⟨(B0.mk 4 x32 x2.Text x28.method x2.Type_ false [] x28.file x2.At),⟨_,rfl,rfl,qbj⟩,rfl⟩⟩⟩⟩⟩⟩⟩)) ?_
      refine gqA (fun S hK=>⟨fun B' hB=>by show([D9 b3 aq (D5.mk v29 x28.file x28.method x28.many),E6 v29 ao x28.uses 47,D9 b6 al x1,D9 b7 af x2,D9 b8 al (B7.mk [] [] false []),(cond (S 25) (D9 (B' 24) ag (B0.mk 4 x32 x2.Text x28.method x2.Type_ false [] x28.file x2.At)) (cond (S 24) (D9 (B' 24) ag (B0.mk 0 [] [] [] [] false [] 0 0)) A4.nil))]:Ctx)=[D9 b3 aq (D5.mk v29 x28.file x28.method x28.many),E6 v29 ao x28.uses 47,D9 b6 al x1,D9 b7 af x2,D9 b8 al (B7.mk [] [] false []),(cond (S 25) (D9 (B 24) ag (B0.mk 4 x32 x2.Text x28.method x2.Type_ false [] x28.file x2.At)) (cond (S 24) (D9 (B 24) ag (B0.mk 0 [] [] [] [] false [] 0 0)) A4.nil))];simp only[hK.me,hK.F 25 kr,cond_false],fun s ρ hg _=>ato (R:=ag) (z:=(B0.mk 0 [] [] [] [] false [] 0 0)) 5 zeroValue49 (fun _=>⟨_,⟨_,_,rfl,rfl,⟨_,_,rfl,rfl,⟨_,_,rfl,rfl,⟨_,_,rfl,rfl,⟨_,_,rfl,rfl,⟨_,_,rfl,rfl,⟨_,_,rfl,⟨_,rfl,none,0,rfl,⟨Nat.le_refl _,fun _=>rfl⟩,.inl rfl⟩,⟨_,_,rfl,rfl,⟨_,_,rfl,rfl,rfl⟩⟩⟩⟩⟩⟩⟩⟩⟩,rfl⟩) (congrArg some ((aj9 (hK.F 25 kr) _ _).trans (aj9 (hK.me) _ _))) (fun b=>by show([D9 b3 aq (D5.mk v29 x28.file x28.method x28.many),E6 v29 ao x28.uses 47,D9 b6 al x1,D9 b7 af x2,D9 b8 al (B7.mk [] [] false []),(cond (S 25) (D9 b ag (B0.mk 4 x32 x2.Text x28.method x2.Type_ false [] x28.file x2.At)) (D9 b ag (B0.mk 0 [] [] [] [] false [] 0 0)))]:Ctx)=_;rw[hK.F 25 kr];rfl) s ρ hg⟩) ?_
      refine gqS (fun S hK=>aks.as (aqz (R:=ag) (R':=ag) (a:=(B0.mk 0 [] [] [] [] false [] 0 0)) (y:=(B0.mk 4 x32 x2.Text x28.method x2.Type_ false [] x28.file x2.At)) 5 sizeOf49 (Upd.refl _) (congrArg some ((aj9 (hK.me) _ _).trans (ayh (hK.T 24 kr) _ _)))) (by show(_:Ctx)=[D9 b3 aq (D5.mk v29 x28.file x28.method x28.many),E6 v29 ao x28.uses 47,D9 b6 al x1,D9 b7 af x2,D9 b8 al (B7.mk [] [] false []),D9 (B 24) ag (B0.mk 4 x32 x2.Text x28.method x2.Type_ false [] x28.file x2.At)];rfl)) ?_
      exact⟨x32,(B 24),h,atOk⟩
    refine W_r (kUn (ak f4) ?_)
    refine kUn (au 3 ty3 bc) ?_
    refine kIn rfl rfl rfl (kMv rfl ?_)
    rcases cc h with⟨hc30,h⟩|⟨hc30,h⟩
    · refine skx ?_
      refine kPt rfl hc30 rfl (kAs rfl ?_)
      exact⟨true,h,atOk⟩
    refine kGd rfl aa hc30 (ak f4) ?_
    refine kGd rfl aa hc30 (au 3 ty3 bc) ?_
    refine kGd rfl aa hc30 (qInt rfl rfl rfl) (kPf rfl hc30 rfl (kAs rfl ?_))
    exact⟨x2.Kind==6,h,atOk⟩
  refine bo (fun e C=>∃x14,f5 R x2 x1 x9 x14=some r/\At [(0,Pr.pt b3 0),(4,Pr.pt b6 0),(5,Pr.pt b7 0),(6,Pr.pt b8 0),(7,ap af x2.Kids),(31,Pb x14)] [D9 b3 aq (D5.mk v10 x9.file x9.method x9.many),E6 v10 ao x9.uses 47,p2,p3,p4] e C) ?_ ?_
  · rintro e C ⟨x14,h,a⟩
    refine W_at a ?_
    unfold f5 at h
    refine a6 h rfl (fun _ h=>?_) (fun _ h=>?_)
    · refine bo (fun e C=>∃x18,∃v19,og R x2 x1 x18=some r/\At [(0,Pr.pt b3 0),(4,Pr.pt b6 0),(5,Pr.pt b7 0),(6,Pr.pt b8 0),(7,ap af x2.Kids)] [D9 b3 aq (D5.mk v19 x18.file x18.method x18.many),E6 v19 ao x18.uses 47,p2,p3,p4] e C) ?_ ?_
      · rintro e C ⟨x18,v19,h,a⟩
        refine W_at a ?_
        unfold og at h
        refine W_r (kMvL rfl ?_)
        obtain⟨x21,k,h⟩:=ah h
        refine kUn (ayl underlying53 sizeOf64 k) ?_
        refine kAsL rfl ?_
        exact⟨x21,x18.file,x18.method,x18.many,x18.uses,v19,h,atOk⟩
      refine i8 5 hmx kr kr ?_
      refine lUn (hMvA rfl) (lUn (au 2 ty66 (Sub.refl _)) ?_)
      refine lUn (hMvL rfl) ?_
      obtain⟨x16,k,h⟩:=ah h
      refine lUn (fo underlying53 sizeOf64 k) ?_
      refine lUn (cz ty64) ?_
      rcases cr h with⟨m20,hm20,h⟩|⟨⟨x17,x18⟩,hx17,h⟩
      · refine dw [0,1] (ih x1 x16 x9 b3 v10 _ hm20) ⟨aa,aa,aa,tv⟩ (fun q C' hq=>?_) (fun v9 hv=>?_)
        · obtain⟨_,h9,_⟩:=hq;cases h9
        obtain⟨_,h9,rfl⟩:=hv
        cases h9
        obtain rfl:=osj h
        exact .inr ⟨_,rfl,_,rfl,rfl⟩
      refine dw [0,1] (ih x1 x16 x9 b3 v10 _ hx17) ⟨aa,aa,aa,tv⟩ (fun q C' hq=>?_) (fun v9 hv=>by obtain⟨_,h9,_⟩:=hv;cases h9)
      obtain⟨_,h9,v19,rfl,rfl⟩:=hq
      cases h9
      refine rCtx [D9 b3 aq (D5.mk v19 x18.file x18.method x18.many),E6 v19 ao x18.uses 47,p2,p3,p4] ?_
      exact⟨x18,v19,h,atOk⟩
    refine ay ?_
    exact⟨x2.Kids,x9.file,x9.method,x9.many,x9.uses,v10,h,atOk⟩
  refine W_r (kUn (ak f4) ?_)
  refine kUn (au 3 ty3 bc) ?_
  refine kIn rfl rfl rfl (kMv rfl ?_)
  rcases cc h with⟨hc11,h⟩|⟨hc11,h⟩
  · refine skx ?_
    refine kPt rfl hc11 rfl (kMv rfl ?_)
    have hc13:true=true:=rfl
    refine kGd rfl aa hc13 (hMvL rfl) (kGd rfl aa hc13 (mg rfl underlying53) ?_)
    refine kGd rfl aa hc13 (qInt rfl rfl rfl) (kPt rfl hc13 rfl ?_)
    exact⟨decide ((x2.Kids.length:Int)>0),h,atOk⟩
  refine kGd rfl aa hc11 (ak f4) ?_
  refine kGd rfl aa hc11 (au 3 ty3 bc) ?_
  refine kGd rfl aa hc11 (qInt rfl rfl rfl) (kPf rfl hc11 rfl (kMv rfl ?_))
  rcases cc h with⟨hc12,h⟩|⟨hc12,h⟩
  · refine kGd rfl aa hc12 (hMvL rfl) (kGd rfl aa hc12 (mg rfl underlying53) ?_)
    refine kGd rfl aa hc12 (qInt rfl rfl rfl) (kPt rfl hc12 rfl ?_)
    exact⟨decide ((x2.Kids.length:Int)>0),h,atOk⟩
  refine skx ?_
  refine kPf rfl hc12 rfl ?_
  exact⟨false,h,atOk⟩
theorem ahz :∀n,xr (bx n):=by
 intro n
 induction n with
 |zero=>exact(fun x1 x2 x4 b3 v5 r h=>nomatch (show none=some r from h))
 |succ n ih=>exact(fun x1 x2 x4 b3 v5 r h=>ah2 (bx n) ih x1 x2 x4 b3 v5 r h)
theorem ae2 (x1:B7) (x2:B6) (x4:B9) (b3:Nat) (v5:Value) (r:PX C5 (B7 × B9)) (h:adi x1 x2 x4=some r):FnX Tryz.prog 37 [Pr.pt b3 0,(al).val x1,(af).val x2] [D9 b3 aq (D5.mk v5 x4.file x4.method x4.many),E6 v5 ao x4.uses 47] (fun q C'=>∃a9,r= .ok a9/\∃w100,q=(al).val a9.1/\C'=[D9 b3 aq (D5.mk w100 a9.2.file a9.2.method a9.2.many),E6 w100 ao a9.2.uses 47]) (fun v=>∃m,r= .bad m/\v=ac8 m):=(ahz 1048576) x1 x2 x4 b3 v5 r h
theorem nv (x1 x2:Int) (x3:(B8->B8->Option Int)) (x5:List B8) (v4:Value) (r:(List B8)) (h:er x1 x2 x3 x5=some r):Fc 129 [Pi v4,P6 x1,P6 x2,d9 Tryz.prog (ir x3)] [E6 v4 ao x5 47] (fun q C'=>q=br []/\C'=[E6 v4 ao r 47]):=by
 refine i0 (rs:=[]) func129 rfl ntmps129 ⟨by decide,results129⟩ dcd (fun s0=>?_)
 unfold er at h
 refine W_rs (kMv rfl (kIn rfl rfl rfl (kAs rfl (a5 ?_))))
 obtain⟨z2l,hz2,h⟩:=ah h
 obtain⟨n2,hN2⟩:=bv hz2
 refine di 0 (fun e C=>∃x7,gv x7=some r/\At [(0,Pi v4)] [E6 v4 ao x7 47] e C) ?_ ?_
 ·rintro e C ⟨x7,h,a⟩
  unfold gv at h
  obtain rfl:=osj h
  exact⟨.inr rfl,_,(A9.trans a.2 (A9.refl _)),_,aa,rfl,rfl⟩
 refine ek (fun m e C=>∃x6,∃x7,fq (fun s=>cv x2 x1 x3 s.1 s.2) m (x6,x7)=some z2l/\At [(0,Pi v4),(1,P6 x1),(2,P6 x2),(3,d9 Tryz.prog (ir x3)),(8,P6 x6)] [E6 v4 ao x7 47] e C) n2 ⟨w64 (x1+1),x5,hN2,⟨⟨aa,aa,aa,aa,aa,tv⟩,A9.refl _⟩⟩ ?_
 rintro m e C ⟨x6,x7,hN2,a⟩
 refine W_at a ?_
 obtain⟨m2,w2l,rfl,h2l,hn2,ho2⟩:=bm hN2
 replace h2l:cv x2 x1 x3 x6 x7=some w2l:=h2l
 unfold cv at h2l
 refine a7 (W_rs (kMv rfl (kMv rfl (kIn rfl rfl rfl ?_))))
 refine a6 h2l rfl (fun _ h2l=>?_) (fun _ h2l=>?_)
 ·refine ay (a7 (a5 (W_rs (kMv rfl (kAs rfl (a5 ?_))))))
  obtain⟨z4l,hz4,h2l⟩:=ah h2l
  obtain⟨n4,hN4⟩:=bv hz4
  refine di 2 (fun e C=>∃x12,gt x6 x12=some w2l/\At [(0,Pi v4),(1,P6 x1),(2,P6 x2),(3,d9 Tryz.prog (ir x3)),(8,P6 x6)] [E6 v4 ao x12 47] e C) ?_ ?_
  ·rintro e C ⟨x12,h2l,a⟩
   refine W_at a ?_
   unfold gt at h2l
   refine W_r (kMv rfl (kIn rfl rfl rfl (kAs rfl ?_)))
   exact⟨m2,lsu,w64 (x6+1),x12,hn2 _ (ojs h2l),atOk⟩
  refine ek (fun m e C=>∃x11,∃x12,fq (fun s=>c7 x1 x3 s.1 s.2) m (x11,x12)=some z4l/\At [(0,Pi v4),(1,P6 x1),(2,P6 x2),(3,d9 Tryz.prog (ir x3)),(8,P6 x6),(9,P6 x11)] [E6 v4 ao x12 47] e C) n4 ⟨x6,x7,hN4,⟨⟨aa,aa,aa,aa,aa,aa,tv⟩,A9.refl _⟩⟩ ?_
  rintro m e C ⟨x11,x12,hN4,a⟩
  let p1:=E6 v4 ao x12 47
  refine W_at a ?_
  obtain⟨m4,w4l,rfl,h4l,hn4,ho4⟩:=bm hN4
  replace h4l:c7 x1 x3 x11 x12=some w4l:=h4l
  unfold c7 at h4l
  refine a7 ?_
  refine bo (fun e C=>∃x19,d7 x12 x11 x19=some w4l/\At [(0,Pi v4),(1,P6 x1),(2,P6 x2),(3,d9 Tryz.prog (ir x3)),(8,P6 x6),(9,P6 x11),(34,Pb x19)] [p1] e C) ?_ ?_
  ·rintro e C ⟨x19,h4l,a⟩
   refine W_at a ?_
   unfold d7 at h4l
   refine a6 h4l rfl (fun _ h4l=>?_) (fun _ h4l=>?_)
   ·refine ay (a7 (a5 ?_))
    obtain⟨x21,hx21,h4l⟩:=ah h4l
    obtain⟨x22,hx22,h4l⟩:=ah h4l
    obtain⟨x23,hx23,h4l⟩:=ah h4l
    obtain⟨x24,k,h4l⟩:=ah h4l
    refine aec [0,0,0,0,8,0,0,64,224,480,0,0,3072,7168,16355,32739,65535,131071] [[],[],[],[],[],[],[],[],[p1],[p1],[],[],[p1],[p1],[p1],[],[E6 v4 ao (List.set x12 (Int.toNat x11) x21) 47],[]] hmx kr kr kr rfl ?_
    refine aq0 0 1 (out:=Pi v4) rfl (fun C9=>gz) ?_
    refine aq0 1 3 (out:=P6 x11) rfl (fun C9=>gz) ?_
    refine aq0 2 7 (out:=Pi v4) rfl (fun C9=>gz) ?_
    refine aq0 3 15 (out:=P6 x11) rfl (fun C9=>gz) ?_
    refine aq0 4 31 (out:=P6 (w64 (x11 - 1))) rfl (fun C9=>qInt) ?_
    refine aq0 5 63 (out:=Pi v4) rfl (fun C9=>gz) ?_
    refine aq0 6 127 (out:=P6 x11) rfl (fun C9=>gz) ?_
    refine aq0 7 255 (out:=P6 (w64 (x11 - 1))) rfl (fun C9=>qInt) ?_
    refine aq1 8 511 0 (out:=wz v4 (Int.toNat (w64 (x11 - 1)) * (ao).size)) rfl rfl (fun C9 i9 h9=>(zd i9 (R:=ao) (l:=x12) underlying27 sizeOf47 hx21 (hi:=h9))) ?_
    refine aq1 9 1023 0 (out:=(ao).val x21) rfl rfl (fun C9 i9 h9=>(yw (R:=ao) (R':=ao) (l:=x12) (a:=x21) (o:=0) i9 ty47 (Sub.refl _) nb hx21 rfl (hi:=h9))) ?_
    refine aq0 10 2047 (out:=Pi v4) rfl (fun C9=>gz) ?_
    refine aq0 11 4095 (out:=P6 x11) rfl (fun C9=>gz) ?_
    refine aq1 12 8191 0 (out:=wz v4 (Int.toNat x11 * (ao).size)) rfl rfl (fun C9 i9 h9=>(zd i9 (R:=ao) (l:=x12) underlying27 sizeOf47 hx22 (hi:=h9))) ?_
    refine aq1 13 16383 0 (out:=(ao).val x22) rfl rfl (fun C9 i9 h9=>(yw (R:=ao) (R':=ao) (l:=x12) (a:=x22) (o:=0) i9 ty47 (Sub.refl _) nb hx22 rfl (hi:=h9))) ?_
    refine aq1 14 32767 0 (out:=wz v4 (Int.toNat x11 * (ao).size)) rfl rfl (fun C9 i9 h9=>(zd i9 (R:=ao) (l:=x12) underlying27 sizeOf47 hx23 (hi:=h9))) ?_
    refine ae 15 65535 rfl (fun g9=>?_)
    refine aeb (R:=ao) (R':=ao) (l:=x12) (a:=x23) (y:=x21) (o:=0) 0 sizeOf47 (Upd.refl _) hx23 rfl ?_
    refine oz .any [] fv ?_
    refine aq1 16 131071 0 (out:=wz v4 (Int.toNat (w64 (x11 - 1)) * (ao).size)) rfl rfl (fun C9 i9 h9=>(zd i9 (R:=ao) (l:=(List.set x12 (Int.toNat x11) x21)) underlying27 sizeOf47 k (hi:=h9))) ?_
    refine ae 17 262143 rfl (fun g9=>?_)
    refine aeb (R:=ao) (R':=ao) (l:=(List.set x12 (Int.toNat x11) x21)) (a:=x24) (y:=x22) (o:=0) 0 sizeOf47 (Upd.refl _) k rfl ?_
    refine oz .any [] fv ?_
    refine agx ?_
    refine W_r (kMv rfl (kIn rfl rfl rfl (kAs rfl ?_)))
    exact⟨m4,lsu,w64 (x11 - 1),(List.set (List.set x12 (Int.toNat x11) x21) (Int.toNat (w64 (x11 - 1))) x22),hn4 _ (ojs h4l),atOk⟩
   refine ej ?_
   obtain rfl:=ho4 _ (ojs h4l)
   exact⟨x12,h2l,atOk⟩
  refine i8 17 hmx kr kr ?_
  refine lUn (hMvA rfl) (lUn (hMvA rfl) (lUn (qInt rfl rfl rfl) (lUn (hMvA rfl) ?_)))
  rcases cc h4l with⟨hc15,h4l⟩|⟨hc15,h4l⟩
  ·refine lGd rfl aa hc15 (hMv (out:=d9 Tryz.prog (ir x3)) rfl) (lGd rfl aa hc15 (hMvA rfl) (lGd rfl aa hc15 (hMvA rfl) ?_))
   obtain⟨x16,k,h4l⟩:=ah h4l
   refine lGd rfl aa hc15 (zd 0 (R:=ao) (l:=x12) underlying27 sizeOf47 k) ?_
   refine lGd rfl aa hc15 (yw (R:=ao) (R':=ao) (l:=x12) (a:=x16) (o:=0) 0 ty47 (Sub.refl _) nb k rfl) ?_
   refine lGd rfl aa hc15 (hMvA rfl) (lGd rfl aa hc15 (hMvA rfl) (lGd rfl aa hc15 (qInt rfl rfl rfl) ?_))
   obtain⟨x17,k,h4l⟩:=ah h4l
   refine lGd rfl aa hc15 (zd 0 (R:=ao) (l:=x12) underlying27 sizeOf47 k) ?_
   refine lGd rfl aa hc15 (yw (R:=ao) (R':=ao) (l:=x12) (a:=x17) (o:=0) 0 ty47 (Sub.refl _) nb k rfl) ?_
   obtain⟨x18,k,h4l⟩:=ah h4l
   refine lGd rfl aa hc15 (amn (spec:=ir x3) ⟨_,_,_,rfl,rfl,k⟩) ?_
   refine lGd rfl aa hc15 (qInt rfl rfl rfl) (lUn (hPt rfl hc15 rfl) ?_)
   exact⟨decide (x18<0),h4l,atOk⟩
  refine lsx ?_
  refine lUn (hPf rfl hc15 rfl) ?_
  exact⟨false,h4l,atOk⟩
 refine ej ?_
 obtain rfl:=ho2 _ (ojs h2l)
 exact⟨x7,h,atOk⟩
theorem lu (x1 x2 x3:Int) (x4:(B8->B8->Option Int)) (x6:List B8) (v5:Value) (r:(List B8)) (h:eo x1 x2 x3 x4 x6=some r):Fc 178 [Pi v5,P6 x1,P6 x2,P6 x3,d9 Tryz.prog (ir x4)] [E6 v5 ao x6 47] (fun q C'=>q=br []/\C'=[E6 v5 ao r 47]):=by
 refine i0 (rs:=[]) func178 rfl ntmps178 ⟨by decide,results178⟩ dcd (fun s0=>?_)
 unfold eo at h
 refine W_rs (kAs rfl (a5 ?_))
 obtain⟨z2l,hz2,h⟩:=ah h
 obtain⟨n2,hN2⟩:=bv hz2
 refine di 0 (fun e C=>∃x8,iz x8=some r/\At [(0,Pi v5)] [E6 v5 ao x8 47] e C) ?_ ?_
 ·rintro e C ⟨x8,h,a⟩
  unfold iz at h
  obtain rfl:=osj h
  exact⟨.inr rfl,_,(A9.trans a.2 (A9.refl _)),_,aa,rfl,rfl⟩
 refine ek (fun m e C=>∃x7,∃x8,fq (fun s=>dn x3 x2 x1 s.1 s.2) m (x7,x8)=some z2l/\At [(0,Pi v5),(1,P6 x1),(2,P6 x2),(3,P6 x3),(10,P6 x7)] [E6 v5 ao x8 47] e C) n2 ⟨0,x6,hN2,⟨⟨aa,aa,aa,aa,aa,tv⟩,A9.refl _⟩⟩ ?_
 rintro m e C ⟨x7,x8,hN2,a⟩
 let p1:=E6 v5 ao x8 47
 refine W_at a ?_
 obtain⟨m2,w2l,rfl,h2l,hn2,ho2⟩:=bm hN2
 replace h2l:dn x3 x2 x1 x7 x8=some w2l:=h2l
 unfold dn at h2l
 refine a7 (W_rs (kMv rfl (kMv rfl (kIn rfl rfl rfl ?_))))
 refine a6 h2l rfl (fun _ h2l=>?_) (fun _ h2l=>?_)
 ·refine ay (a7 (a5 ?_))
  obtain⟨x12,hx12,h2l⟩:=ah h2l
  obtain⟨x13,hx13,h2l⟩:=ah h2l
  obtain⟨x14,hx14,h2l⟩:=ah h2l
  obtain⟨x15,k,h2l⟩:=ah h2l
  refine aec [0,0,0,6,0,0,0,96,0,0,0,1536,3840,7936,0,0,0,98304,245760,507904,1048335,2096911,4194303,8388607] [[],[],[],[],[],[],[],[],[],[],[],[],[p1],[p1],[],[],[],[],[p1],[p1],[p1],[],[E6 v5 ao (List.set x8 (Int.toNat (w64 (x1+x7))) x12) 47],[]] hmx kr kr kr rfl ?_
  refine aq0 0 1 (out:=Pi v5) rfl (fun C9=>gz) ?_
  refine aq0 1 3 (out:=P6 x1) rfl (fun C9=>gz) ?_
  refine aq0 2 7 (out:=P6 x7) rfl (fun C9=>gz) ?_
  refine aq0 3 15 (out:=P6 (w64 (x1+x7))) rfl (fun C9=>qInt) ?_
  refine aq0 4 31 (out:=Pi v5) rfl (fun C9=>gz) ?_
  refine aq0 5 63 (out:=P6 x2) rfl (fun C9=>gz) ?_
  refine aq0 6 127 (out:=P6 x7) rfl (fun C9=>gz) ?_
  refine aq0 7 255 (out:=P6 (w64 (x2+x7))) rfl (fun C9=>qInt) ?_
  refine aq0 8 511 (out:=Pi v5) rfl (fun C9=>gz) ?_
  refine aq0 9 1023 (out:=P6 x2) rfl (fun C9=>gz) ?_
  refine aq0 10 2047 (out:=P6 x7) rfl (fun C9=>gz) ?_
  refine aq0 11 4095 (out:=P6 (w64 (x2+x7))) rfl (fun C9=>qInt) ?_
  refine aq1 12 8191 0 (out:=wz v5 (Int.toNat (w64 (x2+x7)) * (ao).size)) rfl rfl (fun C9 i9 h9=>(zd i9 (R:=ao) (l:=x8) underlying27 sizeOf47 hx12 (hi:=h9))) ?_
  refine aq1 13 16383 0 (out:=(ao).val x12) rfl rfl (fun C9 i9 h9=>(yw (R:=ao) (R':=ao) (l:=x8) (a:=x12) (o:=0) i9 ty47 (Sub.refl _) nb hx12 rfl (hi:=h9))) ?_
  refine aq0 14 32767 (out:=Pi v5) rfl (fun C9=>gz) ?_
  refine aq0 15 65535 (out:=P6 x1) rfl (fun C9=>gz) ?_
  refine aq0 16 131071 (out:=P6 x7) rfl (fun C9=>gz) ?_
  refine aq0 17 262143 (out:=P6 (w64 (x1+x7))) rfl (fun C9=>qInt) ?_
  refine aq1 18 524287 0 (out:=wz v5 (Int.toNat (w64 (x1+x7)) * (ao).size)) rfl rfl (fun C9 i9 h9=>(zd i9 (R:=ao) (l:=x8) underlying27 sizeOf47 hx13 (hi:=h9))) ?_
  refine aq1 19 1048575 0 (out:=(ao).val x13) rfl rfl (fun C9 i9 h9=>(yw (R:=ao) (R':=ao) (l:=x8) (a:=x13) (o:=0) i9 ty47 (Sub.refl _) nb hx13 rfl (hi:=h9))) ?_
  refine aq1 20 2097151 0 (out:=wz v5 (Int.toNat (w64 (x1+x7)) * (ao).size)) rfl rfl (fun C9 i9 h9=>(zd i9 (R:=ao) (l:=x8) underlying27 sizeOf47 hx14 (hi:=h9))) ?_
  refine ae 21 4194303 rfl (fun g9=>?_)
  refine aeb (R:=ao) (R':=ao) (l:=x8) (a:=x14) (y:=x12) (o:=0) 0 sizeOf47 (Upd.refl _) hx14 rfl ?_
  refine oz .any [] fv ?_
  refine aq1 22 8388607 0 (out:=wz v5 (Int.toNat (w64 (x2+x7)) * (ao).size)) rfl rfl (fun C9 i9 h9=>(zd i9 (R:=ao) (l:=(List.set x8 (Int.toNat (w64 (x1+x7))) x12)) underlying27 sizeOf47 k (hi:=h9))) ?_
  refine ae 23 16777215 rfl (fun g9=>?_)
  refine aeb (R:=ao) (R':=ao) (l:=(List.set x8 (Int.toNat (w64 (x1+x7))) x12)) (a:=x15) (y:=x13) (o:=0) 0 sizeOf47 (Upd.refl _) k rfl ?_
  refine oz .any [] fv ?_
  refine agx ?_
  refine W_r (kMv rfl (kIn rfl rfl rfl (kAs rfl ?_)))
  exact⟨m2,lsu,w64 (x7+1),(List.set (List.set x8 (Int.toNat (w64 (x1+x7))) x12) (Int.toNat (w64 (x2+x7))) x13),hn2 _ (ojs h2l),atOk⟩
 refine ej ?_
 obtain rfl:=ho2 _ (ojs h2l)
 exact⟨x8,h,atOk⟩
theorem aba (x1 x2 x3:Int) (x4:(B8->B8->Option Int)) (x6:List B8) (v5:Value) (r:(List B8)) (h:jh x1 x2 x3 x4 x6=some r):Fc 164 [Pi v5,P6 x1,P6 x2,P6 x3,d9 Tryz.prog (ir x4)] [E6 v5 ao x6 47] (fun q C'=>q=br []/\C'=[E6 v5 ao r 47]):=by
 refine i0 (rs:=[]) func164 rfl ntmps164 ⟨by decide,results164⟩ dcd (fun s0=>?_)
 unfold jh at h
 refine W_rs (kMv rfl (kMv rfl (kIn rfl rfl rfl (kAs rfl (W_rs (kMv rfl (kMv rfl (kIn rfl rfl rfl (kAs rfl (a7 (a5 ?_)))))))))))
 obtain⟨z2l,hz2,h⟩:=ah h
 obtain⟨n2,hN2⟩:=bv hz2
 refine di 0 (fun e C=>∃x7,∃x9,ij x2 x4 x7 x9=some r/\At [(0,Pi v5),(2,P6 x2),(4,d9 Tryz.prog (ir x4)),(10,P6 x7)] [E6 v5 ao x9 47] e C) ?_ ?_
 ·rintro e C ⟨x7,x9,h,a⟩
  refine W_at a ?_
  unfold ij at h
  refine W_r (kMv rfl (kMv rfl (kMv rfl (kIn rfl rfl rfl (kMv rfl (kMv rfl (kUn (hMv (out:=d9 Tryz.prog (ir x4)) rfl) ?_)))))))
  obtain⟨x17,k,h⟩:=ah h
  refine oy [0] (lu (w64 (x2 - x7)) x2 x7 x4 x9 v5 _ k) (fun q C' hq=>?_)
  obtain⟨rfl,rfl⟩:=hq
  obtain rfl:=osj h
  exact⟨.inr rfl,_,A9.refl _,_,aa,rfl,rfl⟩
 refine ek (fun m e C=>∃x7,∃x8,∃x9,fq (fun s=>dc x2 x4 s.1 s.2.1 s.2.2) m (x7,x8,x9)=some z2l/\At [(0,Pi v5),(2,P6 x2),(4,d9 Tryz.prog (ir x4)),(10,P6 x7),(11,P6 x8)] [E6 v5 ao x9 47] e C) n2 ⟨w64 (x2 - x1),w64 (x3 - x2),x6,hN2,⟨⟨aa,aa,aa,aa,aa,tv⟩,A9.refl _⟩⟩ ?_
 rintro m e C ⟨x7,x8,x9,hN2,a⟩
 refine W_at a ?_
 obtain⟨m2,w2l,rfl,h2l,hn2,ho2⟩:=bm hN2
 replace h2l:dc x2 x4 x7 x8 x9=some w2l:=h2l
 unfold dc at h2l
 refine a7 (W_rs (kMv rfl (kMv rfl (kIn rfl rfl rfl ?_))))
 refine a6 h2l rfl (fun _ h2l=>?_) (fun _ h2l=>?_)
 ·refine ay (a5 (W_rs (kMv rfl (kMv rfl (kIn rfl rfl rfl ?_)))))
  refine a6 h2l rfl (fun _ h2l=>?_) (fun _ h2l=>?_)
  ·refine W_rs (kMv rfl (kMv rfl (kMv rfl (kIn rfl rfl rfl (kMv rfl (kMv rfl (kUn (hMv (out:=d9 Tryz.prog (ir x4)) rfl) ?_)))))))
   obtain⟨x15,k,h2l⟩:=ah h2l
   refine oy [0] (lu (w64 (x2 - x7)) x2 x8 x4 x9 v5 _ k) (fun q C' hq=>?_)
   obtain⟨rfl,rfl⟩:=hq
   refine W_r (kMv rfl (kMv rfl (kIn rfl rfl rfl (kAs rfl ?_))))
   exact⟨m2,lsu,w64 (x7 - x8),x8,x15,hn2 _ (ojs h2l),atOk⟩
  refine W_rs (kMv rfl (kMv rfl (kMv rfl (kIn rfl rfl rfl (kMv rfl (kMv rfl (kIn rfl rfl rfl (kMv rfl (kIn rfl rfl rfl (kMv rfl (kUn (hMv (out:=d9 Tryz.prog (ir x4)) rfl) ?_)))))))))))
  obtain⟨x16,k,h2l⟩:=ah h2l
  refine oy [0] (lu (w64 (x2 - x7)) (w64 ((w64 (x2+x8)) - x7)) x7 x4 x9 v5 _ k) (fun q C' hq=>?_)
  obtain⟨rfl,rfl⟩:=hq
  refine W_r (kMv rfl (kMv rfl (kIn rfl rfl rfl (kAs rfl ?_))))
  exact⟨m2,lsu,x7,w64 (x8 - x7),x16,hn2 _ (ojs h2l),atOk⟩
 refine ej ?_
 obtain rfl:=ho2 _ (ojs h2l)
 exact⟨x7,x9,h,atOk⟩
def ni (R:am):Prop:=(∀(x1:Int) (x2:Int) (x3:Int) (x4:(B8->B8->Option Int)) (x6:List B8) (v5:Value) (r:(List B8)),R x1 x2 x3 x4 x6=some r->Fc 130 [Pi v5,P6 x1,P6 x2,P6 x3,d9 Tryz.prog (ir x4)] [E6 v5 ao x6 47] (fun q C'=>q=br []/\C'=[E6 v5 ao r 47]))
theorem wx (R:am) (ih:ni R) (x1 x2 x3:Int) (x4:(B8->B8->Option Int)) (x6:List B8) (v5:Value) (r:(List B8)) (h:g8 R x1 x2 x3 x4 x6=some r):Fc 130 [Pi v5,P6 x1,P6 x2,P6 x3,d9 Tryz.prog (ir x4)] [E6 v5 ao x6 47] (fun q C'=>q=br []/\C'=[E6 v5 ao r 47]):=by
  refine i0 (rs:=[]) func130 rfl ntmps130 ⟨by decide,results130⟩ dcd (fun s0=>?_)
  let p1:=E6 v5 ao x6 47
  unfold g8 at h
  refine a7 (W_rs (kMv rfl (kMv rfl (kIn rfl rfl rfl (kIn rfl rfl rfl ?_)))))
  refine a6 h rfl (fun _ h=>?_) (fun _ h=>?_)
  · refine W_rs (kMv rfl (kAs rfl (W_rs (kMv rfl (kAs rfl (a7 (a5 ?_)))))))
    obtain⟨z4l,hz4,h⟩:=ah h
    obtain⟨n4,hN4⟩:=bv hz4
    refine di 0 (fun e C=>∃x8,gq R x1 x6 x8=some r/\At [(0,Pi v5),(1,P6 x1),(10,P6 x8)] [p1] e C) ?_ ?_
    · rintro e C ⟨x8,h,a⟩
      refine W_at a ?_
      unfold gq at h
      refine a7 (W_rs (kMv rfl (kAs rfl (a5 ?_))))
      obtain⟨z2l,hz2,h⟩:=ah h
      obtain⟨n2,hN2⟩:=bv hz2
      refine di 2 (fun e C=>∃x18,jj R x18=some r/\At [(0,Pi v5)] [E6 v5 ao x18 47] e C) ?_ ?_
      · rintro e C ⟨x18,h,a⟩
        refine W_at a ?_
        unfold jj at h
        obtain rfl:=osj h
        exact bg ⟨.inl rfl,_,A9.refl _,_,aa,rfl,rfl⟩
      refine ek (fun m e C=>∃x17,∃x18,fq (fun s=>dt R x8 s.1 s.2) m (x17,x18)=some z2l/\At [(0,Pi v5),(10,P6 x8),(13,P6 x17)] [E6 v5 ao x18 47] e C) n2 ⟨x1,x6,hN2,⟨⟨aa,aa,aa,tv⟩,A9.refl _⟩⟩ ?_
      rintro m e C ⟨x17,x18,hN2,a⟩
      let p2:=E6 v5 ao x18 47
      refine W_at a ?_
      obtain⟨m2,w2l,rfl,h2l,hn2,ho2⟩:=bm hN2
      replace h2l:dt R x8 x17 x18=some w2l:=h2l
      unfold dt at h2l
      refine a7 (W_rs (kMv rfl (kMv rfl (kIn rfl rfl rfl (kIn rfl rfl rfl ?_)))))
      refine a6 h2l rfl (fun _ h2l=>?_) (fun _ h2l=>?_)
      · refine ay (a7 (a5 ?_))
        obtain⟨x22,hx22,h2l⟩:=ah h2l
        obtain⟨x23,hx23,h2l⟩:=ah h2l
        obtain⟨x24,hx24,h2l⟩:=ah h2l
        obtain⟨x25,k,h2l⟩:=ah h2l
        refine aec [0,0,0,0,8,0,0,64,224,480,0,0,3072,7168,16355,32739,65535,131071] [[],[],[],[],[],[],[],[],[p2],[p2],[],[],[p2],[p2],[p2],[],[E6 v5 ao (List.set x18 (Int.toNat x17) x22) 47],[]] hmx kr kr kr rfl ?_
        refine aq0 0 1 (out:=Pi v5) rfl (fun C9=>gz) ?_
        refine aq0 1 3 (out:=P6 x17) rfl (fun C9=>gz) ?_
        refine aq0 2 7 (out:=Pi v5) rfl (fun C9=>gz) ?_
        refine aq0 3 15 (out:=P6 x17) rfl (fun C9=>gz) ?_
        refine aq0 4 31 (out:=P6 (w64 (x17+1))) rfl (fun C9=>qInt) ?_
        refine aq0 5 63 (out:=Pi v5) rfl (fun C9=>gz) ?_
        refine aq0 6 127 (out:=P6 x17) rfl (fun C9=>gz) ?_
        refine aq0 7 255 (out:=P6 (w64 (x17+1))) rfl (fun C9=>qInt) ?_
        refine aq1 8 511 0 (out:=wz v5 (Int.toNat (w64 (x17+1)) * (ao).size)) rfl rfl (fun C9 i9 h9=>(zd i9 (R:=ao) (l:=x18) underlying27 sizeOf47 hx22 (hi:=h9))) ?_
        refine aq1 9 1023 0 (out:=(ao).val x22) rfl rfl (fun C9 i9 h9=>(yw (R:=ao) (R':=ao) (l:=x18) (a:=x22) (o:=0) i9 ty47 (Sub.refl _) nb hx22 rfl (hi:=h9))) ?_
        refine aq0 10 2047 (out:=Pi v5) rfl (fun C9=>gz) ?_
        refine aq0 11 4095 (out:=P6 x17) rfl (fun C9=>gz) ?_
        refine aq1 12 8191 0 (out:=wz v5 (Int.toNat x17 * (ao).size)) rfl rfl (fun C9 i9 h9=>(zd i9 (R:=ao) (l:=x18) underlying27 sizeOf47 hx23 (hi:=h9))) ?_
        refine aq1 13 16383 0 (out:=(ao).val x23) rfl rfl (fun C9 i9 h9=>(yw (R:=ao) (R':=ao) (l:=x18) (a:=x23) (o:=0) i9 ty47 (Sub.refl _) nb hx23 rfl (hi:=h9))) ?_
        refine aq1 14 32767 0 (out:=wz v5 (Int.toNat x17 * (ao).size)) rfl rfl (fun C9 i9 h9=>(zd i9 (R:=ao) (l:=x18) underlying27 sizeOf47 hx24 (hi:=h9))) ?_
        refine ae 15 65535 rfl (fun g9=>?_)
        refine aeb (R:=ao) (R':=ao) (l:=x18) (a:=x24) (y:=x22) (o:=0) 0 sizeOf47 (Upd.refl _) hx24 rfl ?_
        refine oz .any [] fv ?_
        refine aq1 16 131071 0 (out:=wz v5 (Int.toNat (w64 (x17+1)) * (ao).size)) rfl rfl (fun C9 i9 h9=>(zd i9 (R:=ao) (l:=(List.set x18 (Int.toNat x17) x22)) underlying27 sizeOf47 k (hi:=h9))) ?_
        refine ae 17 262143 rfl (fun g9=>?_)
        refine aeb (R:=ao) (R':=ao) (l:=(List.set x18 (Int.toNat x17) x22)) (a:=x25) (y:=x23) (o:=0) 0 sizeOf47 (Upd.refl _) k rfl ?_
        refine oz .any [] fv ?_
        refine agx ?_
        refine W_r (kMv rfl (kIn rfl rfl rfl (kAs rfl ?_)))
        exact⟨m2,lsu,w64 (x17+1),(List.set (List.set x18 (Int.toNat x17) x22) (Int.toNat (w64 (x17+1))) x23),hn2 _ (ojs h2l),atOk⟩
      refine ej ?_
      obtain rfl:=ho2 _ (ojs h2l)
      exact⟨x18,h,atOk⟩
    refine ek (fun m e C=>∃x8,∃x9,fq (fun s=>dr R x6 x1 x4 s.1 s.2) m (x8,x9)=some z4l/\At [(0,Pi v5),(1,P6 x1),(4,d9 Tryz.prog (ir x4)),(10,P6 x8),(11,P6 x9)] [p1] e C) n4 ⟨x2,x3,hN4,⟨⟨aa,aa,aa,aa,aa,tv⟩,A9.refl _⟩⟩ ?_
    rintro m e C ⟨x8,x9,hN4,a⟩
    refine W_at a ?_
    obtain⟨m4,w4l,rfl,h4l,hn4,ho4⟩:=bm hN4
    replace h4l:dr R x6 x1 x4 x8 x9=some w4l:=h4l
    unfold dr at h4l
    refine a7 (W_rs (kMv rfl (kMv rfl (kIn rfl rfl rfl ?_))))
    refine a6 h4l rfl (fun _ h4l=>?_) (fun _ h4l=>?_)
    · refine ay (a5 (W_rs (kMv rfl (kMv rfl (kIn rfl rfl rfl (kUn (an1 underlying3 underlying192) ?_))))))
      refine kUn (qShr (k:= .u64) (c:=2) 1 dcd) ?_
      refine kUn (an1 underlying192 underlying3) ?_
      refine kAs rfl ?_
      refine bo (fun e C=>∃x15,jk R x8 x9 x15=some w4l/\At [(0,Pi v5),(1,P6 x1),(4,d9 Tryz.prog (ir x4)),(10,P6 x8),(11,P6 x9),(12,P6 (w64 (Int.fdiv (IntKind.wrap .u64 (w64 (x8+x9))) 2))),(50,Pb (decide (x15<0)))] [p1] e C) ?_ ?_
      · rintro e C ⟨x15,h4l,a⟩
        refine W_at a ?_
        unfold jk at h4l
        refine a6 h4l rfl (fun _ h4l=>?_) (fun _ h4l=>?_)
        · refine W_r (kMv rfl (kIn rfl rfl rfl (kAs rfl ?_)))
          exact⟨m4,lsu,w64 ((w64 (Int.fdiv (IntKind.wrap .u64 (w64 (x8+x9))) 2))+1),x9,hn4 _ (ojs h4l),atOk⟩
        refine W_r (kMv rfl (kAs rfl ?_))
        exact⟨m4,lsu,x8,w64 (Int.fdiv (IntKind.wrap .u64 (w64 (x8+x9))) 2),hn4 _ (ojs h4l),atOk⟩
      refine i8 11 hmx kr kr ?_
      refine lUn (hMv (out:=d9 Tryz.prog (ir x4)) rfl) (lUn (hMvA rfl) (lUn (hMvA rfl) ?_))
      obtain⟨x13,k,h4l⟩:=ah h4l
      refine lUn (zd 0 (R:=ao) (l:=x6) underlying27 sizeOf47 k) ?_
      refine lUn (yw (R:=ao) (R':=ao) (l:=x6) (a:=x13) (o:=0) 0 ty47 (Sub.refl _) nb k rfl) ?_
      refine lUn (hMvA rfl) (lUn (hMvA rfl) ?_)
      obtain⟨x14,k,h4l⟩:=ah h4l
      refine lUn (zd 0 (R:=ao) (l:=x6) underlying27 sizeOf47 k) ?_
      refine lUn (yw (R:=ao) (R':=ao) (l:=x6) (a:=x14) (o:=0) 0 ty47 (Sub.refl _) nb k rfl) ?_
      obtain⟨x15,k,h4l⟩:=ah h4l
      refine lUn (amn (spec:=ir x4) ⟨_,_,_,rfl,rfl,k⟩) ?_
      refine lUn (qInt rfl rfl rfl) ?_
      exact⟨x15,h4l,atOk⟩
    refine ej ?_
    obtain rfl:=ho4 _ (ojs h4l)
    exact⟨x8,h,atOk⟩
  refine ay (a7 (W_rs (kMv rfl (kMv rfl (kIn rfl rfl rfl (kIn rfl rfl rfl ?_))))))
  refine a6 h rfl (fun _ h=>?_) (fun _ h=>?_)
  · refine W_rs (kMv rfl (kAs rfl (W_rs (kMv rfl (kAs rfl (a7 (a5 ?_)))))))
    obtain⟨z9l,hz9,h⟩:=ah h
    obtain⟨n9,hN9⟩:=bv hz9
    refine di 4 (fun e C=>∃x27,gp R x2 x6 x27=some r/\At [(0,Pi v5),(2,P6 x2),(14,P6 x27)] [p1] e C) ?_ ?_
    · rintro e C ⟨x27,h,a⟩
      refine W_at a ?_
      unfold gp at h
      refine a7 (W_rs (kMv rfl (kAs rfl (a5 ?_))))
      obtain⟨z7l,hz7,h⟩:=ah h
      obtain⟨n7,hN7⟩:=bv hz7
      refine di 6 (fun e C=>∃x37,ji R x37=some r/\At [(0,Pi v5)] [E6 v5 ao x37 47] e C) ?_ ?_
      · rintro e C ⟨x37,h,a⟩
        refine W_at a ?_
        unfold ji at h
        obtain rfl:=osj h
        exact bg ⟨.inl rfl,_,A9.refl _,_,aa,rfl,rfl⟩
      refine ek (fun m e C=>∃x36,∃x37,fq (fun s=>dq R x27 s.1 s.2) m (x36,x37)=some z7l/\At [(0,Pi v5),(14,P6 x27),(17,P6 x36)] [E6 v5 ao x37 47] e C) n7 ⟨x2,x6,hN7,⟨⟨aa,aa,aa,tv⟩,A9.refl _⟩⟩ ?_
      rintro m e C ⟨x36,x37,hN7,a⟩
      let p3:=E6 v5 ao x37 47
      refine W_at a ?_
      obtain⟨m7,w7l,rfl,h7l,hn7,ho7⟩:=bm hN7
      replace h7l:dq R x27 x36 x37=some w7l:=h7l
      unfold dq at h7l
      refine a7 (W_rs (kMv rfl (kMv rfl (kIn rfl rfl rfl ?_))))
      refine a6 h7l rfl (fun _ h7l=>?_) (fun _ h7l=>?_)
      · refine ay (a7 (a5 ?_))
        obtain⟨x41,hx41,h7l⟩:=ah h7l
        obtain⟨x42,hx42,h7l⟩:=ah h7l
        obtain⟨x43,hx43,h7l⟩:=ah h7l
        obtain⟨x44,k,h7l⟩:=ah h7l
        refine aec [0,0,0,0,8,0,0,64,224,480,0,0,3072,7168,16355,32739,65535,131071] [[],[],[],[],[],[],[],[],[p3],[p3],[],[],[p3],[p3],[p3],[],[E6 v5 ao (List.set x37 (Int.toNat x36) x41) 47],[]] hmx kr kr kr rfl ?_
        refine aq0 0 1 (out:=Pi v5) rfl (fun C9=>gz) ?_
        refine aq0 1 3 (out:=P6 x36) rfl (fun C9=>gz) ?_
        refine aq0 2 7 (out:=Pi v5) rfl (fun C9=>gz) ?_
        refine aq0 3 15 (out:=P6 x36) rfl (fun C9=>gz) ?_
        refine aq0 4 31 (out:=P6 (w64 (x36 - 1))) rfl (fun C9=>qInt) ?_
        refine aq0 5 63 (out:=Pi v5) rfl (fun C9=>gz) ?_
        refine aq0 6 127 (out:=P6 x36) rfl (fun C9=>gz) ?_
        refine aq0 7 255 (out:=P6 (w64 (x36 - 1))) rfl (fun C9=>qInt) ?_
        refine aq1 8 511 0 (out:=wz v5 (Int.toNat (w64 (x36 - 1)) * (ao).size)) rfl rfl (fun C9 i9 h9=>(zd i9 (R:=ao) (l:=x37) underlying27 sizeOf47 hx41 (hi:=h9))) ?_
        refine aq1 9 1023 0 (out:=(ao).val x41) rfl rfl (fun C9 i9 h9=>(yw (R:=ao) (R':=ao) (l:=x37) (a:=x41) (o:=0) i9 ty47 (Sub.refl _) nb hx41 rfl (hi:=h9))) ?_
        refine aq0 10 2047 (out:=Pi v5) rfl (fun C9=>gz) ?_
        refine aq0 11 4095 (out:=P6 x36) rfl (fun C9=>gz) ?_
        refine aq1 12 8191 0 (out:=wz v5 (Int.toNat x36 * (ao).size)) rfl rfl (fun C9 i9 h9=>(zd i9 (R:=ao) (l:=x37) underlying27 sizeOf47 hx42 (hi:=h9))) ?_
        refine aq1 13 16383 0 (out:=(ao).val x42) rfl rfl (fun C9 i9 h9=>(yw (R:=ao) (R':=ao) (l:=x37) (a:=x42) (o:=0) i9 ty47 (Sub.refl _) nb hx42 rfl (hi:=h9))) ?_
        refine aq1 14 32767 0 (out:=wz v5 (Int.toNat x36 * (ao).size)) rfl rfl (fun C9 i9 h9=>(zd i9 (R:=ao) (l:=x37) underlying27 sizeOf47 hx43 (hi:=h9))) ?_
        refine ae 15 65535 rfl (fun g9=>?_)
        refine aeb (R:=ao) (R':=ao) (l:=x37) (a:=x43) (y:=x41) (o:=0) 0 sizeOf47 (Upd.refl _) hx43 rfl ?_
        refine oz .any [] fv ?_
        refine aq1 16 131071 0 (out:=wz v5 (Int.toNat (w64 (x36 - 1)) * (ao).size)) rfl rfl (fun C9 i9 h9=>(zd i9 (R:=ao) (l:=(List.set x37 (Int.toNat x36) x41)) underlying27 sizeOf47 k (hi:=h9))) ?_
        refine ae 17 262143 rfl (fun g9=>?_)
        refine aeb (R:=ao) (R':=ao) (l:=(List.set x37 (Int.toNat x36) x41)) (a:=x44) (y:=x42) (o:=0) 0 sizeOf47 (Upd.refl _) k rfl ?_
        refine oz .any [] fv ?_
        refine agx ?_
        refine W_r (kMv rfl (kIn rfl rfl rfl (kAs rfl ?_)))
        exact⟨m7,lsu,w64 (x36 - 1),(List.set (List.set x37 (Int.toNat x36) x41) (Int.toNat (w64 (x36 - 1))) x42),hn7 _ (ojs h7l),atOk⟩
      refine ej ?_
      obtain rfl:=ho7 _ (ojs h7l)
      exact⟨x37,h,atOk⟩
    refine ek (fun m e C=>∃x27,∃x28,fq (fun s=>dp R x6 x2 x4 s.1 s.2) m (x27,x28)=some z9l/\At [(0,Pi v5),(2,P6 x2),(4,d9 Tryz.prog (ir x4)),(14,P6 x27),(15,P6 x28)] [p1] e C) n9 ⟨x1,x2,hN9,⟨⟨aa,aa,aa,aa,aa,tv⟩,A9.refl _⟩⟩ ?_
    rintro m e C ⟨x27,x28,hN9,a⟩
    refine W_at a ?_
    obtain⟨m9,w9l,rfl,h9l,hn9,ho9⟩:=bm hN9
    replace h9l:dp R x6 x2 x4 x27 x28=some w9l:=h9l
    unfold dp at h9l
    refine a7 (W_rs (kMv rfl (kMv rfl (kIn rfl rfl rfl ?_))))
    refine a6 h9l rfl (fun _ h9l=>?_) (fun _ h9l=>?_)
    · refine ay (a5 (W_rs (kMv rfl (kMv rfl (kIn rfl rfl rfl (kUn (an1 underlying3 underlying192) ?_))))))
      refine kUn (qShr (k:= .u64) (c:=2) 1 dcd) ?_
      refine kUn (an1 underlying192 underlying3) ?_
      refine kAs rfl ?_
      refine bo (fun e C=>∃x34,iy R x27 x28 x34=some w9l/\At [(0,Pi v5),(2,P6 x2),(4,d9 Tryz.prog (ir x4)),(14,P6 x27),(15,P6 x28),(16,P6 (w64 (Int.fdiv (IntKind.wrap .u64 (w64 (x27+x28))) 2))),(103,Pb (!(decide (x34<0))))] [p1] e C) ?_ ?_
      · rintro e C ⟨x34,h9l,a⟩
        refine W_at a ?_
        unfold iy at h9l
        refine a6 h9l rfl (fun _ h9l=>?_) (fun _ h9l=>?_)
        · refine W_r (kMv rfl (kIn rfl rfl rfl (kAs rfl ?_)))
          exact⟨m9,lsu,w64 ((w64 (Int.fdiv (IntKind.wrap .u64 (w64 (x27+x28))) 2))+1),x28,hn9 _ (ojs h9l),atOk⟩
        refine W_r (kMv rfl (kAs rfl ?_))
        exact⟨m9,lsu,x27,w64 (Int.fdiv (IntKind.wrap .u64 (w64 (x27+x28))) 2),hn9 _ (ojs h9l),atOk⟩
      refine i8 12 hmx kr kr ?_
      refine lUn (hMv (out:=d9 Tryz.prog (ir x4)) rfl) (lUn (hMvA rfl) (lUn (hMvA rfl) ?_))
      obtain⟨x32,k,h9l⟩:=ah h9l
      refine lUn (zd 0 (R:=ao) (l:=x6) underlying27 sizeOf47 k) ?_
      refine lUn (yw (R:=ao) (R':=ao) (l:=x6) (a:=x32) (o:=0) 0 ty47 (Sub.refl _) nb k rfl) ?_
      refine lUn (hMvA rfl) (lUn (hMvA rfl) ?_)
      obtain⟨x33,k,h9l⟩:=ah h9l
      refine lUn (zd 0 (R:=ao) (l:=x6) underlying27 sizeOf47 k) ?_
      refine lUn (yw (R:=ao) (R':=ao) (l:=x6) (a:=x33) (o:=0) 0 ty47 (Sub.refl _) nb k rfl) ?_
      obtain⟨x34,k,h9l⟩:=ah h9l
      refine lUn (amn (spec:=ir x4) ⟨_,_,_,rfl,rfl,k⟩) ?_
      refine lUn (qInt rfl rfl rfl) (lUn (qNot rfl) ?_)
      exact⟨x34,h9l,atOk⟩
    refine ej ?_
    obtain rfl:=ho9 _ (ojs h9l)
    exact⟨x27,h,atOk⟩
  refine ay (W_rs (kMv rfl (kMv rfl (kIn rfl rfl rfl (kUn (an1 underlying3 underlying192) ?_)))))
  refine kUn (qShr (k:= .u64) (c:=2) 1 dcd) ?_
  refine kUn (an1 underlying192 underlying3) ?_
  refine kAs rfl (W_rs (kMv rfl (kMv rfl (kIn rfl rfl rfl (kAs rfl (W_rs (kAs rfl (kAs rfl ?_))))))))
  refine bo (fun e C=>∃x46,∃x47,e7 R x6 x1 x3 x2 x4 x46 x47=some r/\At [(0,Pi v5),(1,P6 x1),(2,P6 x2),(3,P6 x3),(4,d9 Tryz.prog (ir x4)),(18,P6 (w64 (Int.fdiv (IntKind.wrap .u64 (w64 (x1+x3))) 2))),(19,P6 (w64 ((w64 (Int.fdiv (IntKind.wrap .u64 (w64 (x1+x3))) 2))+x2))),(20,P6 x46),(21,P6 x47)] [p1] e C) ?_ ?_
  · rintro e C ⟨x46,x47,h,a⟩
    refine W_at a ?_
    unfold e7 at h
    refine W_rs (kMv rfl (kIn rfl rfl rfl (kAs rfl (a7 (a5 ?_)))))
    obtain⟨z17l,hz17,h⟩:=ah h
    obtain⟨n17,hN17⟩:=bv hz17
    refine di 8 (fun e C=>∃x48,iw R x2 x1 x3 x4 x6 x48=some r/\At [(0,Pi v5),(1,P6 x1),(2,P6 x2),(3,P6 x3),(4,d9 Tryz.prog (ir x4)),(18,P6 (w64 (Int.fdiv (IntKind.wrap .u64 (w64 (x1+x3))) 2))),(19,P6 (w64 ((w64 (Int.fdiv (IntKind.wrap .u64 (w64 (x1+x3))) 2))+x2))),(20,P6 x48)] [p1] e C) ?_ ?_
    · rintro e C ⟨x48,h,a⟩
      refine W_at a ?_
      unfold iw at h
      refine W_rs (kMv rfl (kMv rfl (kIn rfl rfl rfl (kAs rfl ?_))))
      refine bo (fun e C=>∃x61,e8 R x1 x48 x3 x4 x2 x61=some r/\At [(0,Pi v5),(1,P6 x1),(3,P6 x3),(4,d9 Tryz.prog (ir x4)),(18,P6 (w64 (Int.fdiv (IntKind.wrap .u64 (w64 (x1+x3))) 2))),(20,P6 x48),(24,P6 (w64 ((w64 ((w64 (Int.fdiv (IntKind.wrap .u64 (w64 (x1+x3))) 2))+x2)) - x48)))] [E6 v5 ao x61 47] e C) ?_ ?_
      · rintro e C ⟨x61,h,a⟩
        refine W_at a ?_
        unfold e8 at h
        refine bo (fun e C=>∃x66,fc R x1 x3 x2 x48 x4 x66=some r/\At [(0,Pi v5),(3,P6 x3),(4,d9 Tryz.prog (ir x4)),(18,P6 (w64 (Int.fdiv (IntKind.wrap .u64 (w64 (x1+x3))) 2))),(24,P6 (w64 ((w64 ((w64 (Int.fdiv (IntKind.wrap .u64 (w64 (x1+x3))) 2))+x2)) - x48)))] [E6 v5 ao x66 47] e C) ?_ ?_
        · rintro e C ⟨x66,h,a⟩
          refine W_at a ?_
          unfold fc at h
          refine bo (fun e C=>∃x68,f9 R x1 x3 x2 x48 x4 x66 x68=some r/\At [(0,Pi v5),(3,P6 x3),(4,d9 Tryz.prog (ir x4)),(18,P6 (w64 (Int.fdiv (IntKind.wrap .u64 (w64 (x1+x3))) 2))),(24,P6 (w64 ((w64 ((w64 (Int.fdiv (IntKind.wrap .u64 (w64 (x1+x3))) 2))+x2)) - x48))),(213,Pb x68)] [E6 v5 ao x66 47] e C) ?_ ?_
          · rintro e C ⟨x68,h,a⟩
            refine W_at a ?_
            unfold f9 at h
            refine a6 h rfl (fun _ h=>?_) (fun _ h=>?_)
            · refine W_r (kMv rfl (kMv rfl (kMv rfl (kMv rfl (kUn (hMv (out:=d9 Tryz.prog (ir x4)) rfl) ?_)))))
              obtain⟨x70,k,h⟩:=ah h
              refine oy [0] (ih (w64 (Int.fdiv (IntKind.wrap .u64 (w64 (x1+x3))) 2)) (w64 ((w64 ((w64 (Int.fdiv (IntKind.wrap .u64 (w64 (x1+x3))) 2))+x2)) - x48)) x3 x4 x66 v5 _ k) (fun q C' hq=>?_)
              obtain⟨rfl,rfl⟩:=hq
              obtain rfl:=osj h
              exact⟨.inr rfl,_,A9.refl _,_,aa,rfl,rfl⟩
            refine ay ?_
            obtain rfl:=osj h
            exact⟨.inr rfl,_,A9.refl _,_,aa,rfl,rfl⟩
          refine W_r (kMv rfl (kMv rfl (kIn rfl rfl rfl (kMv rfl ?_))))
          rcases cc h with⟨hc67,h⟩|⟨hc67,h⟩
          · refine kGd rfl aa hc67 (hMvA rfl) (kGd rfl aa hc67 (hMvA rfl) (kGd rfl aa hc67 (qInt rfl rfl rfl) (kPt rfl hc67 rfl ?_)))
            exact⟨decide ((w64 ((w64 ((w64 (Int.fdiv (IntKind.wrap .u64 (w64 (x1+x3))) 2))+x2)) - x48))<x3),h,atOk⟩
          refine skx ?_
          refine kPf rfl hc67 rfl ?_
          exact⟨false,h,atOk⟩
        refine bo (fun e C=>∃x63,f7 R x1 x48 x3 x4 x61 x2 x63=some r/\At [(0,Pi v5),(1,P6 x1),(3,P6 x3),(4,d9 Tryz.prog (ir x4)),(18,P6 (w64 (Int.fdiv (IntKind.wrap .u64 (w64 (x1+x3))) 2))),(20,P6 x48),(24,P6 (w64 ((w64 ((w64 (Int.fdiv (IntKind.wrap .u64 (w64 (x1+x3))) 2))+x2)) - x48))),(199,Pb x63)] [E6 v5 ao x61 47] e C) ?_ ?_
        · rintro e C ⟨x63,h,a⟩
          refine W_at a ?_
          unfold f7 at h
          refine a6 h rfl (fun _ h=>?_) (fun _ h=>?_)
          · refine W_r (kMv rfl (kMv rfl (kMv rfl (kMv rfl (kUn (hMv (out:=d9 Tryz.prog (ir x4)) rfl) ?_)))))
            obtain⟨x65,k,h⟩:=ah h
            refine oy [0] (ih x1 x48 (w64 (Int.fdiv (IntKind.wrap .u64 (w64 (x1+x3))) 2)) x4 x61 v5 _ k) (fun q C' hq=>?_)
            obtain⟨rfl,rfl⟩:=hq
            exact⟨x65,h,atOk⟩
          refine ay ?_
          exact⟨x61,h,atOk⟩
        refine W_r (kMv rfl (kMv rfl (kIn rfl rfl rfl (kMv rfl ?_))))
        rcases cc h with⟨hc62,h⟩|⟨hc62,h⟩
        · refine kGd rfl aa hc62 (hMvA rfl) (kGd rfl aa hc62 (hMvA rfl) (kGd rfl aa hc62 (qInt rfl rfl rfl) (kPt rfl hc62 rfl ?_)))
          exact⟨decide (x48<(w64 (Int.fdiv (IntKind.wrap .u64 (w64 (x1+x3))) 2))),h,atOk⟩
        refine skx ?_
        refine kPf rfl hc62 rfl ?_
        exact⟨false,h,atOk⟩
      refine bo (fun e C=>∃x58,f6 R x48 x2 x1 x3 x4 x6 x58=some r/\At [(0,Pi v5),(1,P6 x1),(2,P6 x2),(3,P6 x3),(4,d9 Tryz.prog (ir x4)),(18,P6 (w64 (Int.fdiv (IntKind.wrap .u64 (w64 (x1+x3))) 2))),(20,P6 x48),(24,P6 (w64 ((w64 ((w64 (Int.fdiv (IntKind.wrap .u64 (w64 (x1+x3))) 2))+x2)) - x48))),(185,Pb x58)] [p1] e C) ?_ ?_
      · rintro e C ⟨x58,h,a⟩
        refine W_at a ?_
        unfold f6 at h
        refine a6 h rfl (fun _ h=>?_) (fun _ h=>?_)
        · refine W_r (kMv rfl (kMv rfl (kMv rfl (kMv rfl (kUn (hMv (out:=d9 Tryz.prog (ir x4)) rfl) ?_)))))
          obtain⟨x60,k,h⟩:=ah h
          refine oy [0] (aba x48 x2 (w64 ((w64 ((w64 (Int.fdiv (IntKind.wrap .u64 (w64 (x1+x3))) 2))+x2)) - x48)) x4 x6 v5 _ k) (fun q C' hq=>?_)
          obtain⟨rfl,rfl⟩:=hq
          exact⟨x60,h,atOk⟩
        refine ay ?_
        exact⟨x6,h,atOk⟩
      refine W_r (kMv rfl (kMv rfl (kIn rfl rfl rfl (kMv rfl ?_))))
      rcases cc h with⟨hc57,h⟩|⟨hc57,h⟩
      · refine kGd rfl aa hc57 (hMvA rfl) (kGd rfl aa hc57 (hMvA rfl) (kGd rfl aa hc57 (qInt rfl rfl rfl) (kPt rfl hc57 rfl ?_)))
        exact⟨decide (x2<(w64 ((w64 ((w64 (Int.fdiv (IntKind.wrap .u64 (w64 (x1+x3))) 2))+x2)) - x48))),h,atOk⟩
      refine skx ?_
      refine kPf rfl hc57 rfl ?_
      exact⟨false,h,atOk⟩
    refine ek (fun m e C=>∃x48,∃x49,fq (fun s=>dm R x6 x1 x3 x2 x4 s.1 s.2) m (x48,x49)=some z17l/\At [(0,Pi v5),(1,P6 x1),(2,P6 x2),(3,P6 x3),(4,d9 Tryz.prog (ir x4)),(18,P6 (w64 (Int.fdiv (IntKind.wrap .u64 (w64 (x1+x3))) 2))),(19,P6 (w64 ((w64 (Int.fdiv (IntKind.wrap .u64 (w64 (x1+x3))) 2))+x2))),(20,P6 x48),(21,P6 x49),(22,P6 (w64 ((w64 ((w64 (Int.fdiv (IntKind.wrap .u64 (w64 (x1+x3))) 2))+x2)) - 1)))] [p1] e C) n17 ⟨x46,x47,hN17,⟨⟨aa,aa,aa,aa,aa,aa,aa,aa,aa,aa,tv⟩,A9.refl _⟩⟩ ?_
    rintro m e C ⟨x48,x49,hN17,a⟩
    refine W_at a ?_
    obtain⟨m17,w17l,rfl,h17l,hn17,ho17⟩:=bm hN17
    replace h17l:dm R x6 x1 x3 x2 x4 x48 x49=some w17l:=h17l
    unfold dm at h17l
    refine a7 (W_rs (kMv rfl (kMv rfl (kIn rfl rfl rfl ?_))))
    refine a6 h17l rfl (fun _ h17l=>?_) (fun _ h17l=>?_)
    · refine ay (a5 (W_rs (kMv rfl (kMv rfl (kIn rfl rfl rfl (kUn (an1 underlying3 underlying192) ?_))))))
      refine kUn (qShr (k:= .u64) (c:=2) 1 dcd) ?_
      refine kUn (an1 underlying192 underlying3) ?_
      refine kAs rfl ?_
      refine bo (fun e C=>∃x55,ix R x48 x49 x55=some w17l/\At [(0,Pi v5),(1,P6 x1),(2,P6 x2),(3,P6 x3),(4,d9 Tryz.prog (ir x4)),(18,P6 (w64 (Int.fdiv (IntKind.wrap .u64 (w64 (x1+x3))) 2))),(19,P6 (w64 ((w64 (Int.fdiv (IntKind.wrap .u64 (w64 (x1+x3))) 2))+x2))),(20,P6 x48),(21,P6 x49),(22,P6 (w64 ((w64 ((w64 (Int.fdiv (IntKind.wrap .u64 (w64 (x1+x3))) 2))+x2)) - 1))),(23,P6 (w64 (Int.fdiv (IntKind.wrap .u64 (w64 (x48+x49))) 2))),(171,Pb (!(decide (x55<0))))] [p1] e C) ?_ ?_
      · rintro e C ⟨x55,h17l,a⟩
        refine W_at a ?_
        unfold ix at h17l
        refine a6 h17l rfl (fun _ h17l=>?_) (fun _ h17l=>?_)
        · refine W_r (kMv rfl (kIn rfl rfl rfl (kAs rfl ?_)))
          exact⟨m17,lsu,w64 ((w64 (Int.fdiv (IntKind.wrap .u64 (w64 (x48+x49))) 2))+1),x49,hn17 _ (ojs h17l),atOk⟩
        refine W_r (kMv rfl (kAs rfl ?_))
        exact⟨m17,lsu,x48,w64 (Int.fdiv (IntKind.wrap .u64 (w64 (x48+x49))) 2),hn17 _ (ojs h17l),atOk⟩
      refine i8 14 hmx kr kr ?_
      refine lUn (hMv (out:=d9 Tryz.prog (ir x4)) rfl) (lUn (hMvA rfl) (lUn (hMvA rfl) (lUn (hMvA rfl) (lUn (qInt rfl rfl rfl) ?_))))
      obtain⟨x53,k,h17l⟩:=ah h17l
      refine lUn (zd 0 (R:=ao) (l:=x6) underlying27 sizeOf47 k) ?_
      refine lUn (yw (R:=ao) (R':=ao) (l:=x6) (a:=x53) (o:=0) 0 ty47 (Sub.refl _) nb k rfl) ?_
      refine lUn (hMvA rfl) (lUn (hMvA rfl) ?_)
      obtain⟨x54,k,h17l⟩:=ah h17l
      refine lUn (zd 0 (R:=ao) (l:=x6) underlying27 sizeOf47 k) ?_
      refine lUn (yw (R:=ao) (R':=ao) (l:=x6) (a:=x54) (o:=0) 0 ty47 (Sub.refl _) nb k rfl) ?_
      obtain⟨x55,k,h17l⟩:=ah h17l
      refine lUn (amn (spec:=ir x4) ⟨_,_,_,rfl,rfl,k⟩) ?_
      refine lUn (qInt rfl rfl rfl) (lUn (qNot rfl) ?_)
      exact⟨x55,h17l,atOk⟩
    refine ej ?_
    obtain rfl:=ho17 _ (ojs h17l)
    exact⟨x48,h,atOk⟩
  refine W_rs (kMv rfl (kMv rfl (kIn rfl rfl rfl ?_)))
  refine a6 h rfl (fun _ h=>?_) (fun _ h=>?_)
  · refine W_rs (kMv rfl (kMv rfl (kIn rfl rfl rfl (kAs rfl (W_r (kMv rfl (kAs rfl ?_)))))))
    exact⟨w64 ((w64 ((w64 (Int.fdiv (IntKind.wrap .u64 (w64 (x1+x3))) 2))+x2)) - x3),w64 (Int.fdiv (IntKind.wrap .u64 (w64 (x1+x3))) 2),h,atOk⟩
  refine W_rs (kMv rfl (kAs rfl (W_r (kMv rfl (kAs rfl ?_)))))
  exact⟨x1,x2,h,atOk⟩
theorem ww :∀n,ni (cj n):=by
 intro n
 induction n with
 |zero=>exact(fun x1 x2 x3 x4 x6 v5 r h=>nomatch (show none=some r from h))
 |succ n ih=>exact(fun x1 x2 x3 x4 x6 v5 r h=>wx (cj n) ih x1 x2 x3 x4 x6 v5 r h)
theorem qx (x1 x2 x3:Int) (x4:(B8->B8->Option Int)) (x6:List B8) (v5:Value) (r:(List B8)) (h:il x1 x2 x3 x4 x6=some r):Fc 130 [Pi v5,P6 x1,P6 x2,P6 x3,d9 Tryz.prog (ir x4)] [E6 v5 ao x6 47] (fun q C'=>q=br []/\C'=[E6 v5 ao r 47]):=(ww 1048576) x1 x2 x3 x4 x6 v5 r h
theorem aa9 (x1:Int) (x2:(B8->B8->Option Int)) (x4:List B8) (v3:Value) (r:(List B8)) (h:jg x1 x2 x4=some r):Fc 78 [Pi v3,P6 x1,d9 Tryz.prog (ir x2)] [E6 v3 ao x4 47] (fun q C'=>q=br []/\C'=[E6 v3 ao r 47]):=by
 refine i0 (rs:=[]) func78 rfl ntmps78 ⟨by decide,results78⟩ dcd (fun s0=>?_)
 unfold jg at h
 refine W_rs (kAs rfl (W_rs (kMv rfl (kAs rfl (kAs rfl (a7 (a5 ?_)))))))
 obtain⟨z7l,hz7,h⟩:=ah h
 obtain⟨n7,hN7⟩:=bv hz7
 refine di 0 (fun e C=>∃x5,∃x7,kg x1 x2 x5 x7=some r/\At [(0,Pi v3),(1,P6 x1),(2,d9 Tryz.prog (ir x2)),(6,P6 20),(7,P6 x5)] [E6 v3 ao x7 47] e C) ?_ ?_
 ·rintro e C ⟨x5,x7,h,a⟩
  refine W_at a ?_
  unfold kg at h
  refine W_rs (kMv rfl (kMv rfl (kMv rfl (kUn (hMv (out:=d9 Tryz.prog (ir x2)) rfl) ?_))))
  obtain⟨x13,k,h⟩:=ah h
  refine oy [0] (nv x5 x1 x2 x7 v3 _ k) (fun q C' hq=>?_)
  obtain⟨rfl,rfl⟩:=hq
  refine a5 ?_
  obtain⟨z2l,hz2,h⟩:=ah h
  obtain⟨n2,hN2⟩:=bv hz2
  refine di 2 (fun e C=>∃x15,m0 x15=some r/\At [(0,Pi v3)] [E6 v3 ao x15 47] e C) ?_ ?_
  ·rintro e C ⟨x15,h,a⟩
   unfold m0 at h
   obtain rfl:=osj h
   exact⟨.inr rfl,_,(A9.trans a.2 (A9.refl _)),_,aa,rfl,rfl⟩
  refine ek (fun m e C=>∃x14,∃x15,fq (fun s=>db x1 x2 s.1 s.2) m (x14,x15)=some z2l/\At [(0,Pi v3),(1,P6 x1),(2,d9 Tryz.prog (ir x2)),(6,P6 x14)] [E6 v3 ao x15 47] e C) n2 ⟨20,x13,hN2,⟨⟨aa,aa,aa,aa,tv⟩,A9.refl _⟩⟩ ?_
  rintro m e C ⟨x14,x15,hN2,a⟩
  refine W_at a ?_
  obtain⟨m2,w2l,rfl,h2l,hn2,ho2⟩:=bm hN2
  replace h2l:db x1 x2 x14 x15=some w2l:=h2l
  unfold db at h2l
  refine a7 (W_rs (kMv rfl (kMv rfl (kIn rfl rfl rfl ?_))))
  refine a6 h2l rfl (fun _ h2l=>?_) (fun _ h2l=>?_)
  ·refine ay (a5 (W_rs (kMv rfl (kIn rfl rfl rfl (kAs rfl (kAs rfl (a7 (a5 ?_))))))))
   obtain⟨z5l,hz5,h2l⟩:=ah h2l
   obtain⟨n5,hN5⟩:=bv hz5
   refine di 4 (fun e C=>∃x19,∃x21,ft x14 x1 x2 x19 x21=some w2l/\At [(0,Pi v3),(1,P6 x1),(2,d9 Tryz.prog (ir x2)),(6,P6 x14),(7,P6 x19)] [E6 v3 ao x21 47] e C) ?_ ?_
   ·rintro e C ⟨x19,x21,h2l,a⟩
    refine W_at a ?_
    unfold ft at h2l
    refine bo (fun e C=>∃x29,ii x14 x29=some w2l/\At [(0,Pi v3),(1,P6 x1),(2,d9 Tryz.prog (ir x2)),(6,P6 x14)] [E6 v3 ao x29 47] e C) ?_ ?_
    ·rintro e C ⟨x29,h2l,a⟩
     refine W_at a ?_
     unfold ii at h2l
     refine W_r (kMv rfl (kIn rfl rfl rfl (kAs rfl ?_)))
     exact⟨m2,lsu,w64 (x14 * 2),x29,hn2 _ (ojs h2l),atOk⟩
    refine W_rs (kMv rfl (kMv rfl (kIn rfl rfl rfl (kAs rfl (W_rs (kMv rfl (kMv rfl (kIn rfl rfl rfl ?_))))))))
    refine a6 h2l rfl (fun _ h2l=>?_) (fun _ h2l=>?_)
    ·refine W_r (kMv rfl (kMv rfl (kMv rfl (kMv rfl (kUn (hMv (out:=d9 Tryz.prog (ir x2)) rfl) ?_)))))
     obtain⟨x28,k,h2l⟩:=ah h2l
     refine oy [0] (qx x19 (w64 (x19+x14)) x1 x2 x21 v3 _ k) (fun q C' hq=>?_)
     obtain⟨rfl,rfl⟩:=hq
     exact⟨x28,h2l,atOk⟩
    refine ay ?_
    exact⟨x21,h2l,atOk⟩
   refine ek (fun m e C=>∃x19,∃x20,∃x21,fq (fun s=>dl x1 x14 x2 s.1 s.2.1 s.2.2) m (x19,x20,x21)=some z5l/\At [(0,Pi v3),(1,P6 x1),(2,d9 Tryz.prog (ir x2)),(6,P6 x14),(7,P6 x19),(8,P6 x20)] [E6 v3 ao x21 47] e C) n5 ⟨0,w64 (2 * x14),x15,hN5,⟨⟨aa,aa,aa,aa,aa,aa,tv⟩,A9.refl _⟩⟩ ?_
   rintro m e C ⟨x19,x20,x21,hN5,a⟩
   refine W_at a ?_
   obtain⟨m5,w5l,rfl,h5l,hn5,ho5⟩:=bm hN5
   replace h5l:dl x1 x14 x2 x19 x20 x21=some w5l:=h5l
   unfold dl at h5l
   refine a7 (W_rs (kMv rfl (kMv rfl (kIn rfl rfl rfl ?_))))
   refine a6 h5l rfl (fun _ h5l=>?_) (fun _ h5l=>?_)
   ·refine ay (a5 (W_rs (kMv rfl (kMv rfl (kMv rfl (kMv rfl (kIn rfl rfl rfl (kMv rfl (kUn (hMv (out:=d9 Tryz.prog (ir x2)) rfl) ?_)))))))))
    obtain⟨x26,k,h5l⟩:=ah h5l
    refine oy [0] (qx x19 (w64 (x19+x14)) x20 x2 x21 v3 _ k) (fun q C' hq=>?_)
    obtain⟨rfl,rfl⟩:=hq
    refine W_rs (kMv rfl (kAs rfl (W_r (kMv rfl (kMv rfl (kIn rfl rfl rfl (kIn rfl rfl rfl (kAs rfl ?_))))))))
    exact⟨m5,lsu,x20,w64 (x20+(w64 (2 * x14))),x26,hn5 _ (ojs h5l),atOk⟩
   refine ej ?_
   obtain rfl:=ho5 _ (ojs h5l)
   exact⟨x19,x21,h2l,atOk⟩
  refine ej ?_
  obtain rfl:=ho2 _ (ojs h2l)
  exact⟨x15,h,atOk⟩
 refine ek (fun m e C=>∃x5,∃x6,∃x7,fq (fun s=>da x1 x2 s.1 s.2.1 s.2.2) m (x5,x6,x7)=some z7l/\At [(0,Pi v3),(1,P6 x1),(2,d9 Tryz.prog (ir x2)),(6,P6 20),(7,P6 x5),(8,P6 x6)] [E6 v3 ao x7 47] e C) n7 ⟨0,20,x4,hN7,⟨⟨aa,aa,aa,aa,aa,aa,tv⟩,A9.refl _⟩⟩ ?_
 rintro m e C ⟨x5,x6,x7,hN7,a⟩
 refine W_at a ?_
 obtain⟨m7,w7l,rfl,h7l,hn7,ho7⟩:=bm hN7
 replace h7l:da x1 x2 x5 x6 x7=some w7l:=h7l
 unfold da at h7l
 refine a7 (W_rs (kMv rfl (kMv rfl (kIn rfl rfl rfl ?_))))
 refine a6 h7l rfl (fun _ h7l=>?_) (fun _ h7l=>?_)
 ·refine ay (a5 (W_rs (kMv rfl (kMv rfl (kMv rfl (kUn (hMv (out:=d9 Tryz.prog (ir x2)) rfl) ?_))))))
  obtain⟨x12,k,h7l⟩:=ah h7l
  refine oy [0] (nv x5 x6 x2 x7 v3 _ k) (fun q C' hq=>?_)
  obtain⟨rfl,rfl⟩:=hq
  refine W_rs (kMv rfl (kAs rfl (W_r (kMv rfl (kMv rfl (kIn rfl rfl rfl (kAs rfl ?_)))))))
  exact⟨m7,lsu,x6,w64 (x6+20),x12,hn7 _ (ojs h7l),atOk⟩
 refine ej ?_
 obtain rfl:=ho7 _ (ojs h7l)
 exact⟨x5,x7,h,atOk⟩
theorem u7 (x1:(B8->B8->Option Int)) (x3:List B8) (v2:Value) (r:(List B8)) (h:fp x1 x3=some r):Fc 38 [Pi v2,d9 Tryz.prog (ir x1)] [E6 v2 ao x3 47] (fun q C'=>q=br []/\C'=[E6 v2 ao r 47]):=by
 refine i0 (rs:=[]) func38 rfl ntmps38 ⟨by decide,results38⟩ dcd (fun s0=>?_)
 unfold fp at h
 refine W_r (kMv rfl (kMv rfl (kUn (aye 0 rfl underlying27) ?_)))
 refine kUn (hMv (out:=d9 Tryz.prog (ir x1)) rfl) ?_
 obtain⟨x4,k,h⟩:=ah h
 refine oy [0] (aa9 (x3.length:Int) x1 x3 v2 _ k) (fun q C' hq=>?_)
 obtain⟨rfl,rfl⟩:=hq
 obtain rfl:=osj h
 exact⟨.inr rfl,_,A9.refl _,_,aa,rfl,rfl⟩
end Go.Proofs.YtcndghapmoaidaaGreatDoor
