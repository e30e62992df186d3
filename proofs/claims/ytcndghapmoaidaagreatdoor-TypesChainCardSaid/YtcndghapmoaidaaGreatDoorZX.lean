/- What allocations make. -/
import Derived.Test.YtcndghapmoaidaaGreatDoorZH
import Derived.Test.YtcndghapmoaidaaGreatDoorZJ
import Derived.Test.YtcndghapmoaidaaGreatDoorLay
import Derived.Lib.ConvBytes
import Derived.Lib.AtoiErrMem
import Derived.Lib.AppendIntMem
set_option linter.unusedSimpArgs false
set_option linter.unusedVariables false
set_option linter.unusedSectionVars false
set_option linter.unusedSectionVars false
set_option maxRecDepth 100000
set_option maxHeartbeats 4000000
namespace Go.Proofs.YtcndghapmoaidaaGreatDoor
open Go Go.Cn
theorem allP2 {s:St} {p q:Pr} {vs:List Value} (h:AllP s [p,q] vs):∃v u,vs=[v,u]/\p.p s v/\q.p s u:=by
 match vs,h with
 | [v,u],h=>exact⟨v,u,rfl,h.1,h.2.1⟩
theorem g4 :Tryz.prog.globalNamed "internal/strconv.uint64pow10"=some 0:=by kernel_rfl
theorem internal_strconv_FormatInt_ok (n b:Int) (r:List UInt8) (h:ld n b=some r):FnP Tryz.prog 177 [Pr.i64 n,Pr.i64 b] (bv r):=by
 refine fn_below en177 (fun s vs hs ha=> ?_)
 obtain⟨v,u,rfl,h1,h2⟩:=allP2 ha
 obtain rfl:v= .int .i64 n:=h1
 obtain rfl:u= .int .i64 b:=h2
 unfold ld at h
 split at h
 ·rename_i hc
  obtain⟨rfl,h1,h2⟩:=hc
  obtain rfl:=Option.some.inj h
  obtain⟨hF,T,fz,hp⟩:=hs.glob
  refine(Tryz.internal_strconv_FormatInt_10 n h1 h2 s.w ?_).mono ?_
  ·unfold Lib.TabIs World.var?
   rw[g4]
   simp[hp]
  rintro e w' ⟨rfl,k,os,rfl⟩
  exact⟨_,rfl,Lib.below_grow _ _ (Nat.le_refl _) k os,fun F'=>rfl⟩
 cases h
def bindV (m:BindWrong):Value:= .iface 72 (.agg #[.int .i64 m.m.Code,.int .i64 m.m.File,.int .i64 m.m.At])
theorem bind_plain (m:BindWrong):∀s v,(Pr.ifc 72 ((i6).val m)).p s v->(∃t u,v= .iface t u)/\v=bindV m:=by
 rintro s v ⟨u,rfl,hu⟩
 refine⟨⟨_,_,rfl⟩,?_⟩
 obtain⟨cs,hc,rfl⟩:=(i6).spec.1 hu
 obtain⟨c1,r1,rfl,h1,hr⟩:=hc
 obtain⟨d1,e1,rfl,g1,d2,e2,rfl,g2,d3,e3,rfl,g3,hn⟩:=h1
 have g1:d1=[.int .i64 m.m.Code]:=g1
 have g2:d2=[.int .i64 m.m.File]:=g2
 have g3:d3=[.int .i64 m.m.At]:=g3
 have hn:e3=[]:=hn
 have hr:r1=[]:=hr
 subst g1 g2 g3 hn hr
 rfl
def gt (m:TypesWrong):Value:= .iface 103 (.agg #[.int .i64 m.m.Code,.int .i64 m.m.File,.int .i64 m.m.At])
theorem types_plain (m:TypesWrong):∀s v,(Pr.ifc 103 ((ik).val m)).p s v->(∃t u,v= .iface t u)/\v=gt m:=by
 rintro s v ⟨u,rfl,hu⟩
 refine⟨⟨_,_,rfl⟩,?_⟩
 obtain⟨cs,hc,rfl⟩:=(ik).spec.1 hu
 obtain⟨c1,r1,rfl,h1,hr⟩:=hc
 obtain⟨d1,e1,rfl,g1,d2,e2,rfl,g2,d3,e3,rfl,g3,hn⟩:=h1
 have g1:d1=[.int .i64 m.m.Code]:=g1
 have g2:d2=[.int .i64 m.m.File]:=g2
 have g3:d3=[.int .i64 m.m.At]:=g3
 have hn:e3=[]:=hn
 have hr:r1=[]:=hr
 subst g1 g2 g3 hn hr
 rfl
theorem slices_Clone_ok (x1 r:List ApiEntity) (h:slices_Clone x1=some r):FnC Tryz.prog 77 [aq af x1] [] (fun q C'=>∃u0,q=Pr.is u0/\C'=[Own.vec u0 af r 49]):=by
 refine fi (n:=8) (rs:=[2]) Tryz.func77 rfl Tryz.ntmps77 ⟨by decide,Tryz.results77⟩ (by decide) (fun s0=> ?_)
 unfold slices_Clone at h
 refine W_rs ?_
 refine rq (out:=Pr.is (.slice none 0 0)) du ?_
 refine a8 ?_
 refine W_rs ?_
 refine rq (out:=aq af x1) eb ?_
 refine rq (out:=Pr.nilq x1) (qNilL (R:=af) Tryz.underlying38) ?_
 refine W_condN (l:=x1) (fun hl=> ?_) ?_
 ·subst hl
  refine W_rs ?_
  refine rq (out:=Pr.is (.slice none 0 0)) du ?_
  refine W_nil [2] af 49 (fun v2=> ?_) ⟨rfl,trivial⟩
  obtain rfl:=Option.some.inj h
  exact bc ⟨.inl rfl,_,Pick.refl _,_,aa,v2,rfl,rfl⟩
 refine ax ?_
 refine W_rs ?_
 refine rBuild0 (R:=af) el38 (fun v5=> ?_)
 refine rq (out:=aq af x1) eb ?_
 refine ev 0 el38 h (fun v7=> ?_)
 refine rq (out:=Pr.is v7) du ?_
 exact bc ⟨.inl rfl,_,Pick.refl _,_,aa,v7,rfl,rfl⟩
section
variable {n:Fm} {T:Nat->Prop} {s0:St} {all:List Oper} {K:Exit->Env->Ctx->Prop} {r:List Oper} {env:Env} {C:Ctx} {ty:TypeId} {pos:String} {after:Array Edge} {gd:Option (Nat × Bool)} {d:Option Nat}
theorem qMapNil {u:TypeId} {b:Nat} {x:Operand} (hx:env.op x=l7 b:=by exact rfl):Q Tryz.prog C ⟨d,.binOp .eql 191 x (.const (.map none)) u,ty,pos,after,gd⟩ env (Pr.bool false):=by
 intro s ρ hs _ h
 have h0:ρ x= .map (some b):=by have:=h x mem2a;rw[hx]at this;exact this
 have h2:ρ (.const (.map none))= .map none:=h (.const (.map none)) mem2b
 have he:∀d:Nat,(Op.equalIn (d+1) 191 (.map (some b)) (.map none)).run Tryz.prog s.w= .ok false s.w:=fun d=>by simp[Op.equalIn,cz Tryz.underlying191]
 refine .of_run hs (v:= .bool false) ?_ rfl
 simp[execOp,h0,h2,eqGuard,binOp,Op.equal,Op.maxDepth,he 9999]
theorem qMapIfc {b:Nat} {x:Operand} (hx:env.op x=l7 b:=by exact rfl):Q Tryz.prog C ⟨d,.makeInterface 191 x,ty,pos,after,gd⟩ env (Pr.is (.iface 191 (.map (some b)))):=by
 intro s ρ hs _ h
 have h0:ρ x= .map (some b):=by have:=h x mem1;rw[hx]at this;exact this
 exact .of_run hs (v:= .iface 191 (.map (some b))) (by simp[execOp,Instr.makeInterface,h0,cz Tryz.underlying191]) rfl
theorem qMapAssert {b:Nat} {x:Operand} (hx:env.op x=Pr.is (.iface 191 (.map (some b))):=by exact rfl):Q Tryz.prog C ⟨d,.typeAssert x 20 191 false,ty,pos,after,gd⟩ env (l7 b):=by
 intro s ρ hs _ h
 have h0:ρ x= .iface 191 (.map (some b)):=by have:=h x mem1;rw[hx]at this;exact this
 exact .of_run hs (v:= .map (some b)) (by simp[execOp,Instr.typeAssert,h0,cz Tryz.underlying191]) rfl
theorem run_clone {w:World} {b:Nat} {es:Array MapEntry} {ck:Nat} (hb:w.heap[b]? =some (.map es ck)):(callFunc 185 #[.iface 191 (.map (some b))]).run Tryz.prog w= .ok (.value (.iface 191 (.map (some w.heap.size)))) (w.alloc (.map es ck)):=by
 have h1:Extern.findNext Tryz.f185=none:=by kernel_rfl
 have h2:Extern.find Tryz.f185=some Extern.MapsClone.clone:=by rfl
 have h3:(Tryz.f185.name== "runtime.NumGoroutine")=false:=by kernel_rfl
 have h4:Tryz.f185.body=none:=by rfl
 have e:Extern.MapsClone.clone #[.iface 191 (.map (some b))]=(getObj b >>= fun o=>match o with
   | .map entries clock=>(newObj (.map entries clock) >>= fun n=>pure (.iface 191 (.map (some n))))
   |_=>stuck "maps.clone: a map expected"):=rfl
 have h5:(Extern.MapsClone.clone #[.iface 191 (.map (some b))]).run Tryz.prog w= .ok (.iface 191 (.map (some w.heap.size))) (w.alloc (.map es ck)):=by
  rw[e]
  simp[Go.MapKept.run_getObj_map hb,Result.andThen]
 unfold callFunc
 have h6:¬Tryz.f185.name= "runtime.NumGoroutine":=by simpa using h3
 simp[program,Sem.run,Tryz.func185,h1,h2,h4,h6,mark,h5]
theorem rMapClone (i:Nat) {d:Nat} {β:Type} {R:Rp β} {m:SMap β} {b:Nat} {x:Operand} {tys:Array TypeId}
  (k:∀c,Run Tryz.prog n T s0 all K r (env.put d (Pr.is (.iface 191 (.map (some c))))) (C++[Own.smap c R m])) (hx:env.op x=Pr.is (.iface 191 (.map (some b))):=by exact rfl) (hi:C[i]? =some (Own.smap b R m):=by exact rfl):
  Run Tryz.prog n T s0 all K (⟨some d,.call ⟨.value (.func 185), #[x],tys⟩,ty,pos,after,none⟩::r) env C:=by
 refine rDo (nz fun s ρ hg he=> ?_)
 have h0:ρ x= .iface 191 (.map (some b)):=by have:=he x;rw[hx]at this;exact this
 have hf:ρ (.func 185)= .func (.func 185) #[] #[]:=he (.func 185)
 obtain⟨o,ho,es,clock,hee,hm⟩:=hg.get hi rfl
 obtain rfl:o= .map es clock:=by simpa using hee
 have calm:=Calm.of_below (gu s.w (.map es clock)) hg.wf
 have hrun:=run_clone ho
 refine⟨.iface 191 (.map (some s.w.heap.size)),⟨s.w.alloc (.map es clock),s.F⟩,Pr.is (.iface 191 (.map (some s.w.heap.size))),C++[Own.smap s.w.heap.size R m],?_,calm.pureLe hg.wf,hg.addOne rfl ⟨es,clock,rfl,hm.mono (calm.pureLe hg.wf)⟩,rfl,k _⟩
 simp[execOp,resolve,invoke,Deferred.ofValue,hf,h0,hrun]
end
theorem maps_Clone_ok (x1:SMap Bool) (b1:Nat) (r:SMap Bool) (h:maps_Clone x1=some r):FnC Tryz.prog 176 [l7 b1] [Own.smap b1 Rp.bool x1] (fun q C'=>∃c0,q=l7 c0/\C'=[Own.smap c0 Rp.bool r,Own.smap b1 Rp.bool x1]):=by
 refine fi (n:=9) (rs:=[2]) Tryz.func176 rfl Tryz.ntmps176 ⟨by decide,Tryz.results176⟩ (by decide) (fun s0=> ?_)
 obtain rfl:x1=r:=Option.some.inj h
 refine W_rs ?_
 refine rq (out:=Pr.is (.map none)) du ?_
 refine a8 ?_
 refine W_rs ?_
 refine rq (out:=l7 b1) eb ?_
 refine rq (out:=Pr.bool false) qMapNil ?_
 refine W_cond (b:=false) rfl (fun h=>nomatch h) (fun _=> ?_)
 refine ax ?_
 refine W_rs ?_
 refine rq (out:=l7 b1) eb ?_
 refine rq (out:=Pr.is (.iface 191 (.map (some b1)))) qMapIfc ?_
 refine rMapClone 0 (fun c=> ?_)
 refine rq (out:=l7 c) qMapAssert ?_
 refine rq (out:=l7 c) du ?_
 exact bc ⟨.inl rfl,_,Pick.of [1,0] rfl,_,aa,c,rfl,rfl⟩
end Go.Proofs.YtcndghapmoaidaaGreatDoor
set_option linter.unusedSectionVars false
set_option maxRecDepth 100000
namespace Go.Proofs.YtcndghapmoaidaaGreatDoor
open Go Go.Cn
theorem al187 :AlK Tryz.prog 187 (cj) (DeclsKey.mk 0 [] []):=alK Tryz.zeroValue187 (fun _=>⟨_,⟨_,_,rfl,rfl,⟨_,_,rfl,rfl,⟨_,_,rfl,rfl,rfl⟩⟩⟩,rfl⟩)
theorem al64 :AlK Tryz.prog 64 (ab) (ApiNode.mk 0 [] [] 0 0 0 0 0 []):=alK Tryz.zeroValue64 (fun _=>(by rw[bb];exact⟨_,⟨_,_,rfl,rfl,⟨_,_,rfl,rfl,⟨_,_,rfl,rfl,⟨_,_,rfl,rfl,⟨_,_,rfl,rfl,⟨_,_,rfl,rfl,⟨_,_,rfl,rfl,⟨_,_,rfl,rfl,⟨_,_,rfl,⟨_,rfl,none,0,rfl,⟨Nat.le_refl _,fun _=>rfl⟩,.inl rfl⟩,rfl⟩⟩⟩⟩⟩⟩⟩⟩⟩,rfl⟩))
theorem al49 :AlK Tryz.prog 49 (a7) (ApiEntityRaw.mk 0 [] [] [] [] false (.slice none 0 0) 0 0):=alK Tryz.zeroValue49 (fun _=>⟨_,⟨_,_,rfl,rfl,⟨_,_,rfl,rfl,⟨_,_,rfl,rfl,⟨_,_,rfl,rfl,⟨_,_,rfl,rfl,⟨_,_,rfl,rfl,⟨_,_,rfl,⟨rfl,rfl⟩,⟨_,_,rfl,rfl,⟨_,_,rfl,rfl,rfl⟩⟩⟩⟩⟩⟩⟩⟩⟩,rfl⟩)
theorem al30 :AlK Tryz.prog 30 (ak) (ApiMistake.mk 0 0 0):=alK Tryz.zeroValue30 (fun _=>⟨_,⟨_,_,rfl,rfl,⟨_,_,rfl,rfl,⟨_,_,rfl,rfl,rfl⟩⟩⟩,rfl⟩)
theorem oy :AlK Tryz.prog 49 (af) (ApiEntity.mk 0 [] [] [] [] false [] 0 0):=alK Tryz.zeroValue49 (fun _=>⟨_,⟨_,_,rfl,rfl,⟨_,_,rfl,rfl,⟨_,_,rfl,rfl,⟨_,_,rfl,rfl,⟨_,_,rfl,rfl,⟨_,_,rfl,rfl,⟨_,_,rfl,⟨_,rfl,none,0,rfl,⟨Nat.le_refl _,fun _=>rfl⟩,.inl rfl⟩,⟨_,_,rfl,rfl,⟨_,_,rfl,rfl,rfl⟩⟩⟩⟩⟩⟩⟩⟩⟩,rfl⟩)
theorem al66 :AlK Tryz.prog 66 (aj) (BindScope.mk [] [] false []):=alK Tryz.zeroValue66 (fun _=>⟨_,⟨_,_,rfl,⟨_,rfl,none,0,rfl,⟨Nat.le_refl _,fun _=>rfl⟩,.inl rfl⟩,⟨_,_,rfl,rfl,⟨_,_,rfl,rfl,⟨_,_,rfl,⟨_,rfl,none,0,rfl,⟨Nat.le_refl _,fun _=>rfl⟩,.inl rfl⟩,rfl⟩⟩⟩⟩,rfl⟩)
theorem al97 :AlK Tryz.prog 97 (ag) (Ref12Wrong.mk 0 0):=alK Tryz.zeroValue97 (fun _=>⟨_,⟨_,_,rfl,rfl,⟨_,_,rfl,rfl,rfl⟩⟩,rfl⟩)
theorem al138 :AlK Tryz.prog 138 (al) (TypesChecker.mk (BindScope.mk [] [] false []) [] 0):=alK Tryz.zeroValue138 (fun _=>⟨_,⟨_,_,rfl,⟨_,_,rfl,⟨_,rfl,none,0,rfl,⟨Nat.le_refl _,fun _=>rfl⟩,.inl rfl⟩,⟨_,_,rfl,rfl,⟨_,_,rfl,rfl,⟨_,_,rfl,⟨_,rfl,none,0,rfl,⟨Nat.le_refl _,fun _=>rfl⟩,.inl rfl⟩,rfl⟩⟩⟩⟩,⟨_,_,rfl,rfl,⟨_,_,rfl,rfl,rfl⟩⟩⟩,rfl⟩)
theorem al27 :AlK Tryz.prog 27 (ba ao) []:=alK Tryz.zeroValue27 (fun _=>⟨none,0,rfl,⟨Nat.le_refl _,fun _=>rfl⟩,.inl rfl⟩)
end Go.Proofs.YtcndghapmoaidaaGreatDoor
