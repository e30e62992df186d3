/- What allocations make. -/
import Derived.Test.YtcndghapmoaidaaGreatDoorZH
import Derived.Test.YtcndghapmoaidaaGreatDoorZJ
import Derived.Test.YtcndghapmoaidaaGreatDoorLay
import Derived.Lib.ConvBytes
import Derived.Lib.AtoiErrMem
import Derived.Lib.AppendIntMem
set_option linter.unusedSimpArgs false
set_option linter.unusedVariables false
set_option linter.unusedSectionVars false
set_option linter.unusedSectionVars false
set_option maxRecDepth 100000
set_option maxHeartbeats 4000000
namespace Go.Proofs.YtcndghapmoaidaaGreatDoor
open Go Go.Cn Tryz
theorem allP2 {s:St} {p q:Pr} {vs:List Value} (h:AllP s [p,q] vs):∃v u,vs=[v,u]/\p.p s v/\q.p s u:=by
 match vs,h with
 | [v,u],h=>exact⟨v,u,rfl,h.1,h.2.1⟩
theorem g4 :Tryz.prog.globalNamed "internal/strconv.uint64pow10"=some 0:=by kernel_rfl
theorem adl (n b:Int) (r:Bt) (h:mn n b=some r):Fp 177 [P6 n,P6 b] (Pr.str r):=by
 refine a1z en177 (fun s vs hs ha=>?_)
 obtain⟨v,u,rfl,h1,h2⟩:=allP2 ha
 obtain rfl:v= .int .i64 n:=h1
 obtain rfl:u= .int .i64 b:=h2
 unfold mn at h
 split at h
 ·rename_i hc
  obtain⟨rfl,h1,h2⟩:=hc
  obtain rfl:=Option.some.inj h
  obtain⟨hF,T,fz,hp⟩:=hs.glob
  refine(Tryz.internal_strconv_FormatInt_10 n h1 h2 s.w ?_).mono ?_
  ·unfold Lib.TabIs World.var?
   rw[g4]
   simp[hp]
  rintro e w' ⟨rfl,k,os,rfl⟩
  exact⟨_,rfl,Lib.below_grow _ _ (Nat.le_refl _) k os,fun F'=>rfl⟩
 cases h
def ac8 (m:C5):Value:= .iface 72 (.agg #[.int .i64 m.m.Code,.int .i64 m.m.File,.int .i64 m.m.At])
theorem ax4 (m:C5):∀s v,(att 72 ((mq).val m)).p s v->(∃t u,v= .iface t u)/\v=ac8 m:=by
 rintro s v ⟨u,rfl,hu⟩
 refine⟨⟨_,_,rfl⟩,?_⟩
 obtain⟨cs,hc,rfl⟩:=(mq).spec.1 hu
 obtain⟨c1,r1,rfl,h1,hr⟩:=hc
 obtain⟨d1,e1,rfl,g1,d2,e2,rfl,g2,d3,e3,rfl,g3,hn⟩:=h1
 have g1:d1=[.int .i64 m.m.Code]:=g1
 have g2:d2=[.int .i64 m.m.File]:=g2
 have g3:d3=[.int .i64 m.m.At]:=g3
 have hn:e3=[]:=hn
 have hr:r1=[]:=hr
 subst g1 g2 g3 hn hr
 rfl
def ld (m:D0):Value:= .iface 103 (.agg #[.int .i64 m.m.Code,.int .i64 m.m.File,.int .i64 m.m.At])
theorem avz (m:D0):∀s v,(att 103 ((l6).val m)).p s v->(∃t u,v= .iface t u)/\v=ld m:=by
 rintro s v ⟨u,rfl,hu⟩
 refine⟨⟨_,_,rfl⟩,?_⟩
 obtain⟨cs,hc,rfl⟩:=(l6).spec.1 hu
 obtain⟨c1,r1,rfl,h1,hr⟩:=hc
 obtain⟨d1,e1,rfl,g1,d2,e2,rfl,g2,d3,e3,rfl,g3,hn⟩:=h1
 have g1:d1=[.int .i64 m.m.Code]:=g1
 have g2:d2=[.int .i64 m.m.File]:=g2
 have g3:d3=[.int .i64 m.m.At]:=g3
 have hn:e3=[]:=hn
 have hr:r1=[]:=hr
 subst g1 g2 g3 hn hr
 rfl
theorem ai8 (x1 r:List B0) (h:y6 x1=some r):Fc 77 [ap ag x1] [] (fun q C'=>∃u0,q=Pi u0/\C'=[E6 u0 ag r 49]):=by
 refine i0 (n:=8) (rs:=[2]) func77 rfl ntmps77 ⟨by decide,results77⟩ dcd (fun s0=>?_)
 unfold y6 at h
 refine W_rs ?_
 refine rq (out:=Pi (.slice none 0 0)) gb ?_
 refine a7 ?_
 refine W_rs ?_
 refine rq (out:=ap ag x1) gz ?_
 refine rq (out:=avw x1) (qNilL (R:=ag) underlying38) ?_
 refine W_condN (l:=x1) (fun hl=>?_) ?_
 ·subst hl
  refine W_rs ?_
  refine rq (out:=Pi (.slice none 0 0)) gb ?_
  refine ah6 [2] ag 49 (fun v2=>?_) ⟨rfl,trivial⟩
  obtain rfl:=Option.some.inj h
  exact bg ⟨.inl rfl,_,A9.refl _,_,aa,v2,rfl,rfl⟩
 refine ay ?_
 refine W_rs ?_
 refine rBuild0 (R:=ag) el38 (fun v5=>?_)
 refine rq (out:=ap ag x1) gz ?_
 refine ik 0 el38 h (fun v7=>?_)
 refine rq (out:=Pi v7) gb ?_
 exact bg ⟨.inl rfl,_,A9.refl _,_,aa,v7,rfl,rfl⟩
section
variable {n:Fm} {T:Nat->Prop} {s0:St} {all:List Oper} {K:Exit->Env->Ctx->Prop} {r:List Oper} {env:Env} {C:Ctx} {ty:TypeId} {pos:String} {after:Array Edge} {gd:Option (Nat × Bool)} {d:Option Nat}
theorem qMapNil {u:TypeId} {b:Nat} {x:Operand} (hx:env.op x=qy b:=by exact rfl):Q Tryz.prog C ⟨d,.binOp .eql 191 x (.const (.map none)) u,ty,pos,after,gd⟩ env (Pb false):=by
 intro s ρ hs _ h
 have h0:ρ x= .map (some b):=by have:=h x afv;rw[hx]at this;exact this
 have h2:ρ (.const (.map none))= .map none:=h (.const (.map none)) afu
 have he:∀d:Nat,(Op.equalIn (d+1) 191 (.map (some b)) (.map none)).run Tryz.prog s.w= .ok false s.w:=fun d=>by simp[Op.equalIn,d8 underlying191]
 refine .of_run hs (v:= .bool false) ?_ rfl
 simp[execOp,h0,h2,eqGuard,binOp,Op.equal,Op.maxDepth,he 9999]
theorem qMapIfc {b:Nat} {x:Operand} (hx:env.op x=qy b:=by exact rfl):Q Tryz.prog C ⟨d,.makeInterface 191 x,ty,pos,after,gd⟩ env (Pi (.iface 191 (.map (some b)))):=by
 intro s ρ hs _ h
 have h0:ρ x= .map (some b):=by have:=h x mem1;rw[hx]at this;exact this
 exact .of_run hs (v:= .iface 191 (.map (some b))) (by simp[execOp,Instr.makeInterface,h0,d8 underlying191]) rfl
theorem axl {b:Nat} {x:Operand} (hx:env.op x=Pi (.iface 191 (.map (some b))):=by exact rfl):Q Tryz.prog C ⟨d,.typeAssert x 20 191 false,ty,pos,after,gd⟩ env (qy b):=by
 intro s ρ hs _ h
 have h0:ρ x= .iface 191 (.map (some b)):=by have:=h x mem1;rw[hx]at this;exact this
 exact .of_run hs (v:= .map (some b)) (by simp[execOp,Instr.typeAssert,h0,d8 underlying191]) rfl
theorem azy {w:World} {b:Nat} {es:Array MapEntry} {ck:Nat} (hb:w.heap[b]? =some (.map es ck)):(callFunc 185 #[.iface 191 (.map (some b))]).run Tryz.prog w= .ok (.value (.iface 191 (.map (some w.heap.size)))) (w.alloc (.map es ck)):=by
 have h1:Extern.findNext Tryz.f185=none:=by kernel_rfl
 have h2:Extern.find Tryz.f185=some Extern.MapsClone.clone:=by rfl
 have h3:(Tryz.f185.name== "runtime.NumGoroutine")=false:=by kernel_rfl
 have h4:Tryz.f185.body=none:=by rfl
 have e:Extern.MapsClone.clone #[.iface 191 (.map (some b))]=(getObj b >>= fun o=>match o with
   | .map entries clock=>(newObj (.map entries clock) >>= fun n=>pure (.iface 191 (.map (some n))))
   |_=>stuck "maps.clone: a map expected"):=rfl
 have h5:(Extern.MapsClone.clone #[.iface 191 (.map (some b))]).run Tryz.prog w= .ok (.iface 191 (.map (some w.heap.size))) (w.alloc (.map es ck)):=by
  rw[e]
  simp[Go.MapKept.run_getObj_map hb,Result.andThen]
 unfold callFunc
 have h6:¬Tryz.f185.name= "runtime.NumGoroutine":=by simpa using h3
 simp[program,Sem.run,func185,h1,h2,h4,h6,mark,h5]
theorem az0 (i:Nat) {d:Nat} {β:Type} {R:Rp β} {m:SMap β} {b:Nat} {x:Operand} {tys:Array TypeId}
  (k:∀c,Run Tryz.prog n T s0 all K r (env.put d (Pi (.iface 191 (.map (some c))))) (C++[E4 c R m])) (hx:env.op x=Pi (.iface 191 (.map (some b))):=by exact rfl) (hi:C[i]? =some (E4 b R m):=by exact rfl):
  Run Tryz.prog n T s0 all K (⟨some d,.call ⟨.value (.func 185), #[x],tys⟩,ty,pos,after,none⟩::r) env C:=by
 refine rDo (s7 fun s ρ hg he=>?_)
 have h0:ρ x= .iface 191 (.map (some b)):=by have:=he x;rw[hx]at this;exact this
 have hf:ρ (.func 185)= .func (.func 185) #[] #[]:=he (.func 185)
 obtain⟨o,ho,es,clock,hee,hm⟩:=hg.get hi rfl
 obtain rfl:o= .map es clock:=by simpa using hee
 have calm:=E0 (lf s.w (.map es clock)) hg.wf
 have hrun:=azy ho
 refine⟨.iface 191 (.map (some s.w.heap.size)),⟨s.w.alloc (.map es clock),s.F⟩,Pi (.iface 191 (.map (some s.w.heap.size))),C++[E4 s.w.heap.size R m],?_,calm.pureLe hg.wf,hg.addOne rfl ⟨es,clock,rfl,hm.mono (calm.pureLe hg.wf)⟩,rfl,k _⟩
 simp[execOp,resolve,invoke,Deferred.ofValue,hf,h0,hrun]
end
theorem ate (x1:SMap Bool) (b1:Nat) (r:SMap Bool) (h:ame x1=some r):Fc 176 [qy b1] [E4 b1 Rp.bool x1] (fun q C'=>∃c0,q=qy c0/\C'=[E4 c0 Rp.bool r,E4 b1 Rp.bool x1]):=by
 refine i0 (n:=9) (rs:=[2]) func176 rfl ntmps176 ⟨by decide,results176⟩ dcd (fun s0=>?_)
 obtain rfl:x1=r:=Option.some.inj h
 refine W_rs ?_
 refine rq (out:=Pi (.map none)) gb ?_
 refine a7 ?_
 refine W_rs ?_
 refine rq (out:=qy b1) gz ?_
 refine rq (out:=Pb false) qMapNil ?_
 refine akv (b:=false) rfl (fun h=>nomatch h) (fun _=>?_)
 refine ay ?_
 refine W_rs ?_
 refine rq (out:=qy b1) gz ?_
 refine rq (out:=Pi (.iface 191 (.map (some b1)))) qMapIfc ?_
 refine az0 0 (fun c=>?_)
 refine rq (out:=qy c) axl ?_
 refine rq (out:=qy c) gb ?_
 exact bg ⟨.inl rfl,_,A9.of [1,0] rfl,_,aa,c,rfl,rfl⟩
end Go.Proofs.YtcndghapmoaidaaGreatDoor
set_option linter.unusedSectionVars false
set_option maxRecDepth 100000
namespace Go.Proofs.YtcndghapmoaidaaGreatDoor
open Go Go.Cn Tryz
theorem al187 :AlK Tryz.prog 187 (en) (B3.mk 0 [] []):=alK zeroValue187 (fun _=>⟨_,⟨_,_,rfl,rfl,⟨_,_,rfl,rfl,⟨_,_,rfl,rfl,rfl⟩⟩⟩,rfl⟩)
theorem al64 :AlK Tryz.prog 64 (af) (B6.mk 0 [] [] 0 0 0 0 0 []):=alK zeroValue64 (fun _=>(by rw[ba];exact⟨_,⟨_,_,rfl,rfl,⟨_,_,rfl,rfl,⟨_,_,rfl,rfl,⟨_,_,rfl,rfl,⟨_,_,rfl,rfl,⟨_,_,rfl,rfl,⟨_,_,rfl,rfl,⟨_,_,rfl,rfl,⟨_,_,rfl,⟨_,rfl,none,0,rfl,⟨Nat.le_refl _,fun _=>rfl⟩,.inl rfl⟩,rfl⟩⟩⟩⟩⟩⟩⟩⟩⟩,rfl⟩))
theorem al49 :AlK Tryz.prog 49 (bu) (D4.mk 0 [] [] [] [] false (.slice none 0 0) 0 0):=alK zeroValue49 (fun _=>⟨_,⟨_,_,rfl,rfl,⟨_,_,rfl,rfl,⟨_,_,rfl,rfl,⟨_,_,rfl,rfl,⟨_,_,rfl,rfl,⟨_,_,rfl,rfl,⟨_,_,rfl,⟨rfl,rfl⟩,⟨_,_,rfl,rfl,⟨_,_,rfl,rfl,rfl⟩⟩⟩⟩⟩⟩⟩⟩⟩,rfl⟩)
theorem al30 :AlK Tryz.prog 30 (az) (B4.mk 0 0 0):=alK zeroValue30 (fun _=>⟨_,⟨_,_,rfl,rfl,⟨_,_,rfl,rfl,⟨_,_,rfl,rfl,rfl⟩⟩⟩,rfl⟩)
theorem tn :AlK Tryz.prog 49 (ag) (B0.mk 0 [] [] [] [] false [] 0 0):=alK zeroValue49 (fun _=>⟨_,⟨_,_,rfl,rfl,⟨_,_,rfl,rfl,⟨_,_,rfl,rfl,⟨_,_,rfl,rfl,⟨_,_,rfl,rfl,⟨_,_,rfl,rfl,⟨_,_,rfl,⟨_,rfl,none,0,rfl,⟨Nat.le_refl _,fun _=>rfl⟩,.inl rfl⟩,⟨_,_,rfl,rfl,⟨_,_,rfl,rfl,rfl⟩⟩⟩⟩⟩⟩⟩⟩⟩,rfl⟩)
theorem al66 :AlK Tryz.prog 66 (al) (B7.mk [] [] false []):=alK zeroValue66 (fun _=>⟨_,⟨_,_,rfl,⟨_,rfl,none,0,rfl,⟨Nat.le_refl _,fun _=>rfl⟩,.inl rfl⟩,⟨_,_,rfl,rfl,⟨_,_,rfl,rfl,⟨_,_,rfl,⟨_,rfl,none,0,rfl,⟨Nat.le_refl _,fun _=>rfl⟩,.inl rfl⟩,rfl⟩⟩⟩⟩,rfl⟩)
theorem al97 :AlK Tryz.prog 97 (aj) (C7.mk 0 0):=alK zeroValue97 (fun _=>⟨_,⟨_,_,rfl,rfl,⟨_,_,rfl,rfl,rfl⟩⟩,rfl⟩)
theorem al138 :AlK Tryz.prog 138 (aw) (C8.mk (B7.mk [] [] false []) [] 0):=alK zeroValue138 (fun _=>⟨_,⟨_,_,rfl,⟨_,_,rfl,⟨_,rfl,none,0,rfl,⟨Nat.le_refl _,fun _=>rfl⟩,.inl rfl⟩,⟨_,_,rfl,rfl,⟨_,_,rfl,rfl,⟨_,_,rfl,⟨_,rfl,none,0,rfl,⟨Nat.le_refl _,fun _=>rfl⟩,.inl rfl⟩,rfl⟩⟩⟩⟩,⟨_,_,rfl,rfl,⟨_,_,rfl,rfl,rfl⟩⟩⟩,rfl⟩)
theorem al27 :AlK Tryz.prog 27 (Rp.list ao) []:=alK zeroValue27 (fun _=>⟨none,0,rfl,⟨Nat.le_refl _,fun _=>rfl⟩,.inl rfl⟩)
end Go.Proofs.YtcndghapmoaidaaGreatDoor
