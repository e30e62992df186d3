/- Nil tests of lists; a slice of the call's own that is grown out of nil. -/
import Derived.Test.YtgkcoicaopilhaaGreatDoorZK
import Derived.ChangeArms
import Derived.ChangeReads
import Derived.ChangeMaps5
import Derived.ReadAgain
import Derived.ChangeSame
import Derived.OpenShut
import Derived.Laws.Sem
import Derived.Laws.MakeOwn
import Derived.MapKept
import Derived.Laws.BytesString
import Derived.ChangeKeysEq
import Derived.WalkSpells
import Derived.Lib.AppendZerosOnto
set_option linter.unusedSimpArgs false
set_option linter.unusedVariables false
set_option linter.unusedSectionVars false
set_option linter.unusedSectionVars false
namespace Go.Cn
open Go.RowKit (Below)
variable [Glob]
def AllF (s:St):Prop:=∀b,b<s.w.heap.size->s.F b
def Opens (P:Program) (t:TypeId) {α:Type} (R:Rp α):Prop:=
 P.cellsOf t=R.size/\∀(H:Type) (enc:TypeId × Value->H) (s:St) (sp:Nat->Bool) (hd:Bool) (fuel:Nat) (cs:List Value) (x:DataW H × List MemPlace),AllF s->DataW.trod enc P s.w 0 sp hd fuel t cs=some x->∃a:α,R.c s a cs
section
variable {P:Program} {t:TypeId}
theorem opens_str (hc:P.cellsOf t=1) (ht:P.underlying t=some .string):Opens P t am:=⟨hc,fun H enc s sp hd fuel cs x _ h=>by
 obtain⟨b,rfl,_,_⟩:=DataW.trod_string ht h
 exact⟨b.data.toList,rfl⟩⟩
theorem arg_of {α:Type} {R:Rp α} {d:TypeDesc} {s:St} {v:Value} {H:Type} {enc:TypeId × Value->H} {sp:Nat->Bool} {hd:Bool} {x:DataW H} {ps:List MemPlace} {r:Reach} {b0:Nat} (ho:Opens P t R) (hagg:R.agg=false) (ht:P.underlying t=some d) (hd':(match d with| .struct _| .array _ _=>false|_=>true)=true)
  (hs:AllF s) (hval:Value.okWide P s.w r b0 t v) (h:DataW.Trod enc P s.w 0 sp hd t v x ps):∃a:α,(R.val a).p s v:=by
 obtain⟨fuel,hf⟩:=h
 obtain⟨a,ha⟩:=ho.2 H enc s sp hd fuel _ _ hs hf
 have hv:v.cells.toList=[v]:=by
  unfold Value.okWide at hval
  rw[ht]at hval
  cases v<;>first|rfl|skip
  exfalso
  cases d<;>simp[Cell.okWide,Cell.ok,ht]at hval hd'
 rw[hv]at ha
 exact⟨a,R.spec.2 ⟨_,ha,by rw[hagg];rfl⟩⟩
end
end Go.Cn
set_option linter.unusedSectionVars false
namespace Go.Cn
open Go.RowKit (Below)
open Go.ChangeShapes Go.WideShapes Go.RowKit
theorem trod_carry_all {H:Type} {enc:TypeId × Value->H} {P:Program} {w w':World} {base:Nat} {sp:Nat->Bool} {hd:Bool}:∀{ts:List TypeId} {vs:List Value} {ds:List (DataW H)} {ps:List MemPlace},
  DataW.TrodAll enc P w base sp hd ts vs ds ps->(∀p∈ps,w.sameAt w' p)->DataW.TrodAll enc P w' base sp hd ts vs ds ps
 | [],[],[],_,h,_=>h
 |_::_,_::_,_::_,_,⟨p,q,⟨n,hn⟩,h2,e⟩,hs=>⟨p,q,⟨n,DataW.trod_carry n _ _ _ hn (fun x hx=>hs x (by rw[e];exact List.mem_append_left _ hx))⟩,trod_carry_all h2 (fun x hx=>hs x (by rw[e];exact List.mem_append_right _ hx)),e⟩
 | [],[],_::_,_,h,_=>h.elim
 | [],_::_,_,_,h,_=>h.elim
 |_::_,[],_,_,h,_=>h.elim
 |_::_,_::_,[],_,h,_=>h.elim
theorem law_post {H:Type} {enc:TypeId × Value->H} {P:Program} {T:TypeId->Prop} {fn:Func} {spec:ChangeSpec} {W W':World} {args:Array Value} {ds gs:List (DataW H)} {before:List MemPlace} (K:Kids P T) (hz:∀t e,T t->P.underlying t=some (.slice e)->0<P.cellsOf e)
  (hW:DataW.Whole enc P fn.params.toList spec.vars false W args.toList ds gs before) (hvars:spec.vars=[]) {tb:TypeId} (hb:P.underlying tb=some .bool) (hrt:fn.resultTypes= #[tb])
  (hspec:spec.fn H ds={results:=[.lit (.bool true)],args:=ds}) (hts:∀t∈fn.params.toList,T t) (hbel:Below W.heap.size W W'):spec.post enc P fn false true false false W args (.bool true) W':=by
 have hW':=hW
 obtain⟨p,q,hA,hV,hpq,hfz,hnd⟩:=hW
 rw[hvars]at hV
 obtain⟨rfl,rfl⟩:=trodVars_none hV
 rw[List.append_nil]at hpq
 subst hpq
 have hspec':spec.fn H (ds++[])={results:=[.lit (.bool true)],args:=ds}:=by rw[List.append_nil];exact hspec
 have hlt:=DataW.TrodAll.lt hA
 refine⟨ds,[],before,[],before,[],hW',?_,?_,?_,?_,fun h=>by cases h⟩
 ·rw[hspec',hrt]
  exact trodAll_mk1 (shut_bool hb true)
 ·rw[hspec']
  have h2:=trod_carry_all hA (fun p hp=>hbel.same (hlt p hp))
  exact DataW.TrodAll.respare K hz hts h2 (fun p hp=>by simpa using hlt p hp)
 ·rw[hspec',hvars]
  rfl
 ·exact World.keptBut_mono (fun p hp=>⟨hp,.inr (.inl hp)⟩) (hbel.frame _)
theorem arr_strs {P:Program} {w:World} {sp:Nat->Bool} {hd:Bool} {fuel n:Nat} {t e:TypeId} {cs:List Value} {L:List (List UInt8)} {p:List MemPlace} (ht:P.underlying t=some (.array n e)) (he:P.underlying e=some .string) (hc:P.cellsOf e=1)
  (h:DataW.trod (fun _=>()) P w 0 sp hd fuel t cs=some (.agg (L.map fun l=> .lit (.string l)),p)) (j:Nat) (l:List UInt8) (hj:L[j]? =some l):cs[j]? =some (.string ⟨l.toArray⟩):=by
 obtain⟨xs,m,rfl,hx,_,hxl,hxs⟩:=DataW.trod_array ht h
 have hmap:xs.map (·.1)=L.map fun l=>(DataW.lit (.string l):DataW Unit):=by
  have:=congrArg Prod.fst hx
  simpa using this.symm
 have hlen:xs.length=L.length:=by simpa using congrArg List.length hmap
 have hjl:=(List.getElem?_eq_some_iff.1 hj).1
 have hjx:j<xs.length:=by omega
 have h1:=hxs j (by omega)
 rw[hc,Nat.mul_one]at h1
 have h2:xs[j]? =some xs[j]:=by simp[hjx]
 rw[h2]at h1
 obtain⟨s,h3,h4,_⟩:=DataW.trod_string he h1
 have h5:(xs.map (·.1))[j]? =some (DataW.lit (.string l)):=by rw[hmap];simp[hj]
 have h6:xs[j].1=DataW.lit (.string l):=by simpa [hjx] using h5
 rw[h4]at h6
 simp at h6
 have h7:cs[j]? =some (.string s):=by
  have:=congrArg (fun l=>l[0]?) h3
  simpa using this
 rw[h7,← h6]
theorem calls_of_fnP [Glob] {P:Program} {f:FuncId} {ps:List Pr} {r:Bool} {W:World} {vs:List Value} (h:FnP P f ps (Pr.bool r)) (hg:Glob.ok ⟨W,fun b=>b<W.heap.size⟩) (ha:AllP ⟨W,fun b=>b<W.heap.size⟩ ps vs):
  Calls P f vs.toArray W fun e W'=>e= .returned (.bool r)/\Below W.heap.size W W':=
 (h.calls ⟨W,fun b=>b<W.heap.size⟩ vs ⟨fun _ h=>h,hg⟩ ha).mono fun e w' ⟨v,F',h1,h2,h3⟩=>⟨by rw[h1];exact congrArg _ h3,h2.below⟩
end Go.Cn
set_option linter.unusedSectionVars false
namespace Go.Cn
def flatL :Lit->List Value
 | .string l=>[.string ⟨l.toArray⟩]
 | .int k n=>[.int k n]
 | .bool b=>[.bool b]
 |_=>[]
mutual
def flatD :DataW Unit->List Value
 | .lit l=>flatL l
 | .agg ds=>flatDs ds
 |_=>[]
def flatDs :List (DataW Unit)->List Value
 | []=>[]
 |d::ds=>flatD d++flatDs ds
end
theorem flatDs_append :∀a b:List (DataW Unit),flatDs (a++b)=flatDs a++flatDs b
 | [],b=>by simp[flatDs]
 |d::a,b=>by simp[flatDs,flatDs_append a b]
def Tiles (P:Program):Nat->List Field->Nat->Prop
 |o,[],n=>o=n
 |o,f::fs,n=>f.offset=o/\Tiles P (o+P.cellsOf f.type) fs n
inductive PlainT (P:Program):TypeId->Prop
 |str (t:TypeId):P.underlying t=some .string->PlainT P t
 |int (t:TypeId) (k:IntKind):P.underlying t=some (.int k)->PlainT P t
 |bool (t:TypeId):P.underlying t=some .bool->PlainT P t
 |arr (t:TypeId) (n:Nat) (e:TypeId):P.underlying t=some (.array n e)->P.cellsOf t=n * P.cellsOf e->PlainT P e->PlainT P t
 |strct (t:TypeId) (fs:Array Field):P.underlying t=some (.struct fs)->Tiles P 0 fs.toList (P.cellsOf t)->(∀f∈fs.toList,PlainT P f.type)->PlainT P t
theorem take_step {α:Type} (l:List α) (k c:Nat):l.take ((k+1) * c)=l.take (k * c)++(l.drop (k * c)).take c:=by
 rw[Nat.succ_mul,List.take_add]
theorem tiles_flat {P:Program} {w:World} {sp:Nat->Bool} {hd:Bool} {m:Nat} {cs:List Value}:∀(fs:List Field) (o:Nat) (xs:List (DataW Unit × List MemPlace)),Tiles P o fs cs.length->xs.length=fs.length->
  (∀(i:Nat) (f:Field),fs[i]? =some f->∃y,xs[i]? =some y/\(cs.drop f.offset).take (P.cellsOf f.type)=flatD y.1)->cs.drop o=flatDs (xs.map (·.1))
 | [],o,xs,h,hl,_=>by
  obtain rfl:xs=[]:=List.eq_nil_of_length_eq_zero (by simpa using hl)
  have h:o=cs.length:=h
  rw[h,List.drop_length]
  simp[flatDs]
 |f::fs,o,xs,⟨h1,h2⟩,hl,h=>by
  match xs,hl with
  |x::xs,hl=>
   obtain⟨y,hy,hf⟩:=h 0 f rfl
   obtain rfl:x=y:=by simpa using hy
   have ih:=tiles_flat (w:=w) (sp:=sp) (hd:=hd) (m:=m) fs (o+P.cellsOf f.type) xs h2 (by simpa using hl) (fun i f' hf'=>by
    have:=h (i+1) f' (by simpa using hf')
    simpa using this)
   rw[h1]at hf
   simp only[List.map_cons,flatDs]
   rw[← ih,← hf,← List.drop_drop,List.take_append_drop]
theorem trod_flat {P:Program} {w:World} {sp:Nat->Bool} {hd:Bool} {t:TypeId} (hp:PlainT P t):∀(fuel:Nat) (cs:List Value) (x:DataW Unit × List MemPlace),DataW.trod (fun _=>()) P w 0 sp hd fuel t cs=some x->cs=flatD x.1:=by
 induction hp with
 |str t ht=>
  intro fuel cs x h
  obtain⟨s,rfl,h2,_⟩:=DataW.trod_string ht h
  rw[h2]
  simp[flatD,flatL]
 |int t k ht=>
  intro fuel cs x h
  obtain⟨n,rfl,rfl,_⟩:=DataW.trod_int ht h
  simp[flatD,flatL]
 |bool t ht=>
  intro fuel cs x h
  obtain⟨b,rfl,rfl⟩:=DataW.trod_bool ht h
  simp[flatD,flatL]
 |arr t n e ht hc _ ih=>
  intro fuel cs x h
  obtain⟨xs,m,rfl,rfl,hl,hxl,hxs⟩:=DataW.trod_array ht h
  have key:∀k,k<=n->cs.take (k * P.cellsOf e)=flatDs ((xs.take k).map (·.1)):=by
   intro k
   induction k with
   |zero=>intro _;simp[flatDs]
   |succ k ihk=>
    intro hk
    have hlt:k<xs.length:=by omega
    have h1:=hxs k (by omega)
    have h2:xs[k]? =some xs[k]:=List.getElem?_eq_getElem hlt
    rw[h2]at h1
    have h3:=ih _ _ _ h1
    rw[take_step,ihk (by omega),h3,List.take_succ_eq_append_getElem hlt,List.map_append,flatDs_append]
    simp[flatDs]
  have h4:=key n (Nat.le_refl _)
  rw[← hc,← hl,List.take_length,← hxl,List.take_length]at h4
  rw[h4]
  simp[flatD]
 |strct t fs ht htl _ ih=>
  intro fuel cs x h
  obtain⟨xs,m,rfl,rfl,hl,hxl,hxs⟩:=DataW.trod_struct ht h
  rw[← hl]at htl
  have:=tiles_flat (w:=w) (sp:=sp) (hd:=hd) (m:=m) fs.toList 0 xs htl (by simpa using hxl) (fun i f hf=>by
   have hf':fs[i]? =some f:=by simpa using hf
   have hlt:i<xs.length:=by rw[hxl];exact(Array.getElem?_eq_some_iff.1 hf').1
   have h1:=hxs i f hf'
   refine⟨xs[i],List.getElem?_eq_getElem hlt,?_⟩
   rw[List.getElem?_eq_getElem hlt]at h1
   exact ih f (List.mem_of_getElem? hf) _ _ _ h1)
  rw[List.drop_zero]at this
  simpa [flatD] using this
end Go.Cn
set_option linter.unusedSectionVars false
namespace Go.Cn
variable [Glob]
def resG (tmps:Array Value):ResultVar->Sem Value
 | .tmp t=>pure (tmps.getD t undef)
 | .cell a t=>do loadVar t (← asAddr (tmps.getD a undef))
theorem results_eq (fn:Func) (tmps:Array Value):results fn tmps=(do
  let vs ← fn.results.mapM (resG tmps)
  pure (if h:vs.size=1 then vs[0]else .tuple vs)):=by
 unfold results
 congr 1
def oneV (us:List Value):Value:=match us with| [u]=>u|us=> .tuple us.toArray
def oneP (ps:List Pr):Pr:=match ps with| [p]=>p|ps=>bh ps
inductive RunsAll (P:Program) (w:World) (tmps:Array Value):List ResultVar->List Value->Prop
 |nil:RunsAll P w tmps [] []
 |cons {r:ResultVar} {u:Value} {rs:List ResultVar} {us:List Value}:(resG tmps r).run P w= .ok u w->RunsAll P w tmps rs us->RunsAll P w tmps (r::rs) (u::us)
theorem run_mapM {P:Program} {w:World} {tmps:Array Value} {rs:List ResultVar} {us:List Value} (h:RunsAll P w tmps rs us):(rs.mapM (resG tmps)).run P w= .ok us w:=by
 induction h with
 |nil=>rfl
 |cons h1 _ ih=>simp[h1,ih]
theorem run_resultsR {P:Program} {fn:Func} {w:World} {tmps:Array Value} {rs:List ResultVar} {us:List Value} (hr:fn.results=rs.toArray) (h:RunsAll P w tmps rs us):(results fn tmps).run P w= .ok (oneV us) w:=by
 have hm:=run_mapM h
 rw[results_eq,hr,List.mapM_toArray]
 simp only[bind_map_left]
 rw[Sem.run_bind,hm]
 match us with
 | []=>rfl
 | [u]=>rfl
 |_::_::_=>rfl
def Yields (P:Program) (e:Env) (C:Ctx):ResultVar->Pr->Prop
 | .tmp t,p=>(e t).le p
 | .cell a t,p=>∀s v,Has s C->(e a).p s v->∃u,(do loadVar t (← asAddr v):Sem Value).run P s.w= .ok u s.w/\p.p s u
def YieldsAll (P:Program) (e:Env) (C:Ctx):List ResultVar->List Pr->Prop
 | [],[]=>True
 |r::rs,p::ps=>Yields P e C r p/\YieldsAll P e C rs ps
 |_,_=>False
theorem yields_run {P:Program} {e:Env} {C:Ctx} {a:Act} {s:St} (he:∀t,(e t).p s (a.tmps.getD t undef)) (hh:Has s C):∀{rs:List ResultVar} {ps:List Pr},YieldsAll P e C rs ps->∃us,RunsAll P s.w a.tmps rs us/\AllP s ps us
 | [],[],_=>⟨[],.nil,trivial⟩
 | .tmp t::rs,p::ps,⟨h1,h2⟩=>by
  obtain⟨us,h3,h4⟩:=yields_run he hh h2
  exact⟨_::us,.cons rfl h3,h1 _ _ (he t),h4⟩
 | .cell b t::rs,p::ps,⟨h1,h2⟩=>by
  obtain⟨us,h3,h4⟩:=yields_run he hh h2
  obtain⟨u,h5,h6⟩:=h1 s _ hh (he b)
  exact⟨u::us,.cons h5 h3,h6,h4⟩
 | [],_::_,h=>h.elim
 |_::_,[],h=>h.elim
theorem oneP_ok {s:St}:∀{ps:List Pr} {us:List Value},AllP s ps us->(oneP ps).p s (oneV us)
 | [],[],_=>⟨[],rfl,trivial⟩
 | [_],[_],h=>h.1
 |_::_::_,_::_::_,h=>⟨_,rfl,h⟩
 | [],_::_,h=>h.elim
 |_::_,[],h=>h.elim
 | [_],_::_::_,h=>h.2.elim
 |_::_::_,[_],h=>h.2.elim
section
variable {P:Program} {e:Env} {C:Ctx}
theorem yT {t:Nat} {p:Pr} (h:(e t).le p):Yields P e C (.tmp t) p:=h
theorem yBox (i:Nat) {α:Type} {R:Rp α} {x:α} {a b:Nat} {t:TypeId} {p:Pr} (ht:TyOK P t R.size R.agg) (hp:(R.val x).le p) (hx:e a=ap b 0:=by exact rfl) (hi:C[i]? =some (Own.box b R x):=by exact rfl):Yields P e C (.cell a t) p:=by
 intro s v hh hv
 rw[hx]at hv
 obtain rfl:v= .pointer (some ⟨b,0,none⟩):=hv
 obtain⟨o,ho,c,T',hcc,hc⟩:=hh.get hi rfl
 obtain rfl:o= .cells c T' (0,0):=by simpa using hcc
 have hl:=R.len hc
 have hlv:=loadVar_at (P:=P) (t:=t) (agg:=R.agg) (off:=0) (cs:=c.toList) ho (fun j v hj=>by simpa using hj) (by rw[hl];exact ht) (fun ha=>by rw[hl];exact R.one ha)
 exact⟨pack R.agg c.toList,by simp[hlv,asAddr],hp _ _ (R.spec.2 ⟨_,hc,rfl⟩)⟩
end
theorem el {P:Program} {f:FuncId} {fn:Func} {c:Code} {n:Nat} {rs:List ResultVar} {args:List Pr} {res:Pr} (hf:P.funcs[f]? =some fn) (hb:fn.body=some c) (hn:fn.ntmps=n) (hr:fn.results=rs.toArray)
  (hnm:(fn.name== "runtime.NumGoroutine")=false) (h:∀s0,W P ⟨n,none,[]⟩ (fun _=>False) s0 c (envArgs args) [] (fun x e C=>x= .ret/\∃ps,YieldsAll P e C rs ps/\(oneP ps).le res)):FnP P f args res:=by
 refine⟨⟨fn,hf,hnm,by simp[hb]⟩,fun s vs hs ha=> ?_⟩
 have he:EnvOK ⟨n,none,[]⟩ (envArgs args) {tmps:=vs.toArray++Array.replicate (fn.ntmps - vs.toArray.size) undef,defers:=[]} s:=
  ⟨fun t=>envArgs_ok ha _ t,by simp;omega,rfl⟩
 have hg:Good (fun _=>False) s s []:=⟨Mod.refl hs,hs,⟨List.nodup_nil,fun x hx=>(by cases hx),fun b hb=>(by cases hb)⟩,fun b hb=>(by cases hb)⟩
 refine calls_of_W hf hb (h s) he hg ?_
 rintro x env a C s' ⟨rfl,ps,h5,h6⟩ h2 _ h3
 obtain⟨us,h7,h8⟩:=yields_run h2 h3.has h5
 exact⟨.inl rfl,_,run_resultsR hr h7,_,s'.F,rfl,h3.mod,h6 _ _ (oneP_ok h8)⟩
theorem fnc_introR {P:Program} {f:FuncId} {fn:Func} {c:Code} {n:Nat} {rs:List ResultVar} {args:List Pr} {C0:Ctx} {Post:Pr->Ctx->Prop} (hf:P.funcs[f]? =some fn) (hb:fn.body=some c) (hn:fn.ntmps=n) (hr:fn.results=rs.toArray)
  (hnm:(fn.name== "runtime.NumGoroutine")=false) (h:∀s0,W P ⟨n,none,[]⟩ (fun b=>b∈dl C0) s0 c (envArgs args) C0 (fun x e C=>(x= .ret\/x= .normal)/\∃ps,YieldsAll P e C rs ps/\∃C2,Pick C C2/\Post (oneP ps) C2)):FnC P f args C0 Post:=by
 refine⟨⟨fn,hf,hnm,by simp[hb]⟩,fun s vs hs ha hh=> ?_⟩
 have he:EnvOK ⟨n,none,[]⟩ (envArgs args) {tmps:=vs.toArray++Array.replicate (fn.ntmps - vs.toArray.size) undef,defers:=[]} s:=
  ⟨fun t=>envArgs_ok ha _ t,by simp;omega,rfl⟩
 have hg:Good (fun b=>b∈dl C0) s s C0:=⟨Mod.refl hs,hs,hh,fun b hb=> .inr hb⟩
 refine calls_of_W hf hb (h s) he hg ?_
 rintro x env a C s' ⟨hx,ps,h5,C2,h6,h7⟩ h2 _ h3
 obtain⟨us,h8,h9⟩:=yields_run h2 h3.has h5
 have h10:=h3.pick h6
 exact⟨hx,_,run_resultsR hr h8,_,s'.F,_,C2,rfl,h10.mod,oneP_ok h9,h10.has,fun b hb=>(h10.mine b hb).symm,h7⟩
end Go.Cn
set_option linter.unusedSectionVars false
namespace Go.Cn
open Go.RowKit (Below)
variable [Glob]
theorem rowC.split {α:Type} {R:Rp α} {s:St}:∀{l:List α} {xs:List Value} {j:Nat} {a:α},rowC R s l xs->l[j]? =some a->∃A E B,xs=A++(E++B)/\A.length=j * R.size/\R.c s a E/\∀(t:St) y E',s.Le t->R.c t y E'->rowC R t (l.set j y) (A++(E'++B))
 |x::l,xs,0,a,⟨c1,c2,h1,h2,h3⟩,hj=>by
  simp at hj
  subst hj
  exact⟨[],c1,c2,h1,by simp,h2,fun t y E' hle hy=>⟨E',c2,rfl,hy,h3.mono hle⟩⟩
 |x::l,xs,j+1,a,⟨c1,c2,h1,h2,h3⟩,hj=>by
  obtain⟨A,E,B,e1,e2,e3,e4⟩:=rowC.split h3 (j:=j) (by simpa using hj)
  refine⟨c1++A,E,B,by rw[h1,e1,List.append_assoc],by rw[List.length_append,R.len h2,e2,Nat.add_mul];omega,e3,fun t y E' hle hy=> ?_⟩
  exact⟨c1,A++(E'++B),by rw[List.append_assoc],R.mono hle h2,e4 t y E' hle hy⟩
 | [],_,_,_,_,hj=>by simp at hj
def nq (v:Value) (off:Nat):Pr:=⟨fun _ u=>∃g n cap,v= .slice (some ⟨g,0,none⟩) n cap/\u= .pointer (some ⟨g,off,none⟩),fun _ h=>h⟩
section
variable {P:Program} {n:Fm} {T:Nat->Prop} {s0:St} {all:List Oper} {K:Exit->Env->Ctx->Prop} {r:List Oper} {env:Env} {C:Ctx}
variable {d:Nat} {ty:TypeId} {pos:String} {after:Array Edge}
theorem qIdxV (i:Nat) {α:Type} {R:Rp α} {l:List α} {j:Int} {a:α} {k:IntKind} {v:Value} {t e:TypeId} {x y:Operand} {dd:Option Nat} {gd:Option (Nat × Bool)} (hu:P.underlying t=some (.slice e)) (hz:∀w,(sizeOf e).run P w= .ok R.size w) (hj:idx l j=some a)
  (hx:env.op x=Pr.is v:=by exact rfl) (hy:env.op y=Pr.int k j:=by exact rfl) (hi:C[i]? =some (Own.vec v R l e):=by exact rfl):Q P C ⟨dd,.indexAddr t x y,ty,pos,after,gd⟩ env (nq v (j.toNat * R.size)):=by
 intro s ρ hs hh h
 have h0:ρ x=v:=by have:=h x mem2a;rw[hx]at this;exact this
 have h2:ρ y= .int k j:=by have:=h y mem2b;rw[hy]at this;exact this
 have hp:=hh.at_ _ (List.mem_of_getElem? hi)
 unfold idx at hj
 split at hj
 ·rename_i h4
  obtain⟨hlt,_⟩:=List.getElem?_eq_some_iff.1 hj
  rcases hp with⟨rfl,rfl⟩|⟨g,cap,cur,xs,rfl,_⟩
  ·simp at hj
  ·have hadd:(⟨g,0,none⟩:Addr).add (j.toNat * R.size)=⟨g,j.toNat * R.size,none⟩:=by
    unfold Addr.add
    split
    ·rename_i h';simp[h']
    ·simp
   refine .of_run hs (v:= .pointer (some ⟨g,j.toNat * R.size,none⟩)) ?_ ⟨g,_,cap,rfl,rfl⟩
   have hii:0<=j/\j<l.length:=⟨h4,by omega⟩
   simp[execOp,Instr.indexAt,asIntOf,ek hu,h0,h2,hii,hz,hadd]
 ·cases hj
theorem qLoadV (i:Nat) {α β:Type} {R:Rp α} {R':Rp β} {f:α->β} {l:List α} {a:α} {j:Int} {v:Value} {o off:Nat} {t e:TypeId} {x:Operand} {dd:Option Nat} {gd:Option (Nat × Bool)} (ht:TyOK P t R'.size R'.agg) (hsub:Sub R o R' f) (hle:o+R'.size<=R.size) (hj:idx l j=some a) (ho:off=j.toNat * R.size+o)
  (hx:env.op x=nq v off:=by exact rfl) (hi:C[i]? =some (Own.vec v R l e):=by exact rfl):Q P C ⟨dd,.load t x,ty,pos,after,gd⟩ env (R'.val (f a)):=by
 intro s ρ hs hh h
 obtain⟨g',m,cap',hv,h0⟩:∃g n cap,v= .slice (some ⟨g,0,none⟩) n cap/\ρ x= .pointer (some ⟨g,off,none⟩):=by have:=h x mem1;rw[hx]at this;exact this
 have hp:=hh.at_ _ (List.mem_of_getElem? hi)
 unfold idx at hj
 split at hj
 ·rcases hp with⟨rfl,rfl⟩|⟨g,cap,cur,xs,rfl,h1,h2,h3,h4,h5,h6⟩
  ·simp at hj
  ·injection hv with e1 e2 e3
   injection e1 with e1
   injection e1 with e1
   subst e1
   simp only[Own.vec,Value.ownBlock,Option.map_some,Option.bind_some]at h1
   obtain⟨A,E,B,x1,x2,x3,_⟩:=h6.split hj
   have hE:=R.len x3
   have hc:=hsub _ _ _ x3
   have hl:=R'.len hc
   have hcur:∃D,cur.toList=A++(E++(B++D)):=⟨cur.toList.drop (l.length * R.size),by
    have:=List.take_append_drop (l.length * R.size) cur.toList
    rw[h5,x1]at this
    simpa using this.symm⟩
   obtain⟨D,hD⟩:=hcur
   have hlv:=loadVar_at (P:=P) (t:=t) (agg:=R'.agg) (off:=off) (cs:=(E.drop o).take R'.size) h1 (fun k u hk=>by
    have:cur[off+k]? =cur.toList[off+k]? :=by simp
    rw[this,hD,ho,← x2,List.getElem?_append_right (by omega)]
    rw[List.getElem?_take]at hk
    split at hk
    ·rw[List.getElem?_drop]at hk
     rw[List.getElem?_append_left (by omega),← hk]
     congr 1
     omega
    ·cases hk) (by rw[hl];exact ht) (fun ha=>by rw[hl];exact R'.one ha)
   exact .of_run hs (v:=pack R'.agg ((E.drop o).take R'.size)) (by simp[execOp,Instr.loadAt,Instr.sureAddr,h0,hlv]) (R'.spec.2 ⟨_,hc,rfl⟩)
 ·cases hj
theorem rStoreE (i:Nat) {α β:Type} {R:Rp α} {R':Rp β} {g:α->β->α} {l:List α} {a:α} {y:β} {j:Int} {v:Value} {o off:Nat} {t e:TypeId} {x u:Operand} (ht:∀w,(sizeOf t).run P w= .ok R'.size w) (hupd:Upd R o R' g) (hj:idx l j=some a) (ho:off=j.toNat * R.size+o)
  (k:Run P n T s0 all K r env (C.set i (Own.vec v R (l.set j.toNat (g a y)) e))) (hx:env.op x=nq v off:=by exact rfl) (hv:env.op u=R'.val y:=by exact rfl) (hi:C[i]? =some (Own.vec v R l e):=by exact rfl):
  Run P n T s0 all K (⟨none,.store t x u,ty,pos,after,none⟩::r) env C:=by
 refine rDo (Does_of_skip fun s ρ hg he=> ?_)
 obtain⟨g',m,cap',hvv,h0⟩:∃g n cap,v= .slice (some ⟨g,0,none⟩) n cap/\ρ x= .pointer (some ⟨g,off,none⟩):=by have:=he x;rw[hx]at this;exact this
 have h1:=he u
 rw[hv]at h1
 obtain⟨c1,hc1,_,hcells⟩:=R'.cells h1
 have hxm:=List.mem_of_getElem? hi
 have hp:=hg.has.at_ _ hxm
 unfold idx at hj
 split at hj
 ·rcases hp with⟨rfl,rfl⟩|⟨gg,cap,cur,xs,rfl,p1,p2,p3,p4,p5,p6⟩
  ·simp at hj
  ·injection hvv with e1 e2 e3
   injection e1 with e1
   injection e1 with e1
   subst e1
   have hblk:(Own.vec (.slice (some ⟨gg,0,none⟩) l.length cap) R l e).blk=some gg:=rfl
   have hown:=hg.has.own gg (ij hxm hblk)
   simp only[Own.vec,Value.ownBlock,Option.map_some,Option.bind_some]at p1
   obtain⟨A,E,B,x1,x2,x3,x4⟩:=p6.split hj
   have hE:=R.len x3
   have hl1:=R'.len hc1
   obtain⟨hle,hnew⟩:=hupd _ _ _ _ _ x3 hc1
   have hcur:∃D,cur.toList=A++(E++(B++D)):=⟨cur.toList.drop (l.length * R.size),by
    have:=List.take_append_drop (l.length * R.size) cur.toList
    rw[p5,x1]at this
    simpa using this.symm⟩
   obtain⟨D,hD⟩:=hcur
   have hsz:cur.size=A.length+(E.length+(B.length+D.length)):=by
    have:=congrArg List.length hD
    simpa using this
   have hst:=storeVar_at (P:=P) (t:=t) (off:=off) (v:=ρ u) p1 hcells (by omega) (R'.flat hc1) (by rw[hl1];exact ht)
   have hres:cur.toList.take off++c1++cur.toList.drop (off+c1.length)=A++((E.take o++c1++E.drop (o+c1.length))++(B++D)):=by
    have t1:cur.toList.take off=A++E.take o:=by
     rw[hD,ho,← x2,List.take_append,List.take_of_length_le (by omega),Nat.add_sub_cancel_left,List.take_append_of_le_length (by omega)]
    have t2:cur.toList.drop (off+c1.length)=E.drop (o+c1.length)++(B++D):=by
     rw[hD,ho,← x2,Nat.add_assoc,← List.drop_drop,List.drop_left,List.drop_append_of_le_length (by omega)]
    rw[t1,t2]
    simp
   have hm:=mod_setRow (c':=(cur.toList.take off++c1++cur.toList.drop (off+c1.length)).toArray) hg.wf hown.1 p1
   have hle':=hm.le hg.wf (fun b' hb' hF=>hown.1 (by cases hb';exact hF))
   have hxl:=p6.len
   refine⟨⟨_,s.F⟩,_,by simp[execOp,Instr.storeAt,Instr.sureAddr,h0,hst],hle',hg.setOne hi rfl hm ?_ ?_,k⟩
   ·refine .inr ⟨gg,cap,(cur.toList.take off++c1++cur.toList.drop (off+c1.length)).toArray,A++((E.take o++c1++E.drop (o+c1.length))++B),by simp,?_,by simpa using p2,p3,?_,?_,x4 _ _ _ hle' (R.mono hle' hnew)⟩
    ·simp only[Own.vec,Value.ownBlock,Option.map_some,Option.bind_some]
     exact setRow_heap s.w gg cur _ e _ p1
    ·rw[hres]
     simp only[List.size_toArray,List.length_append,List.length_take,List.length_drop]
     omega
    ·rw[hres]
     have:l.length * R.size=(A++((E.take o++c1++E.drop (o+c1.length))++B)).length:=by
      rw[← hxl,x1]
      simp only[List.length_append,List.length_take,List.length_drop]
      omega
     simp only[List.length_set]
     rw[this]
     have e9:A++(E.take o++c1++E.drop (o+c1.length)++(B++D))=(A++((E.take o++c1++E.drop (o+c1.length))++B))++D:=by simp
     rw[e9]
     exact List.take_left
   ·intro b' hb'
    have hb'':(Own.vec (.slice (some ⟨gg,0,none⟩) l.length cap) R l e).blk=some b':=hb'
    exact⟨.inl hb'',by have:=hg.has.own b' (ij hxm hb'');simpa using this.2⟩
 ·cases hj
def mkLen (bytes:Nat) (n:Int):Option Nat:=if 0<=n/\n<=9223372036854775807/\(bytes:Int) * n<=140737488355328 then some n.toNat else none
theorem rowC_replicate {α:Type} {R:Rp α} {s:St} {z:α} {zc:List Value} (hz:R.c s z zc):∀k,rowC R s (List.replicate k z) (List.replicate k zc).flatten
 | 0=>rfl
 |k+1=>⟨zc,_,by rw[List.replicate_succ,List.flatten_cons],hz,rowC_replicate hz k⟩
theorem madeCells_toList (z:Array Value) (hz:0<z.size):∀k,(madeCells z (k * z.size)).toList=(List.replicate k z.toList).flatten:=by
 intro k
 induction k with
 |zero=>simp[madeCells]
 |succ k ih=>
  have e:List.range ((k+1) * z.size)=List.range (k * z.size)++(List.range z.size).map (k * z.size+ ·):=by
   rw[Nat.succ_mul,List.range_add]
  have ih':(List.range (k * z.size)).map (fun i=>z[i % z.size]!)=(List.replicate k z.toList).flatten:=by
   rw[← ih];simp[madeCells]
  have h2:((List.range z.size).map (k * z.size+ ·)).map (fun i=>z[i % z.size]!)=z.toList:=by
   rw[List.map_map]
   apply List.ext_getElem
   ·simp
   ·intro i h1 h2
    have hi:i<z.size:=by simpa using h2
    simp only[List.getElem_map,List.getElem_range,Function.comp_apply,Array.getElem_toList]
    rw[Nat.add_comm,Nat.add_mul_mod_self_right,Nat.mod_eq_of_lt hi]
    simp[hi]
  have h3:(madeCells z ((k+1) * z.size)).toList=(List.range ((k+1) * z.size)).map (fun i=>z[i % z.size]!):=by simp[madeCells]
  rw[h3,e,List.map_append,ih',h2,List.replicate_succ',List.flatten_append]
  simp
theorem rMake {α:Type} {R:Rp α} {z:α} {zv:Value} {n':Int} {m bytes:Nat} {t e:TypeId} {x y:Operand} (hE:ElOK P t e R.size bytes) (hz:∀w,(zeroValue e).run P w= .ok zv w) (hr:∀s,R.c s z zv.cells.toList) (hm:mkLen bytes n'=some m)
  (k:∀v',Run P n T s0 all K r (env.put d (Pr.is v')) (C++[Own.vec v' R (List.replicate m z) e])) (hx:env.op x=Pr.i64 n':=by exact rfl) (hy:env.op y=Pr.i64 n':=by exact rfl):
  Run P n T s0 all K (⟨some d,.makeSlice t x y,ty,pos,after,none⟩::r) env C:=by
 refine rDo (nj fun s ρ hg he=> ?_)
 have h0:ρ x= .int .i64 n':=by have:=he x;rw[hx]at this;exact this
 have h1:ρ y= .int .i64 n':=by have:=he y;rw[hy]at this;exact this
 unfold mkLen at hm
 split at hm
 ·rename_i hc
  obtain⟨c0,c1,c2⟩:=hc
  obtain rfl:=Option.some.inj hm
  obtain⟨inf,z0,e1,e2,e3,e4,e5⟩:=hE.ex
  have hzz:zv=z0:=by
   have h2:=hz s.w
   have h3:(zeroValue e).run P s.w= .ok z0 s.w:=by simp[zeroValue,typeInfo,program,Sem.run,e1,e2]
   rw[h2]at h3
   injection h3
  subst hzz
  have hrun:=run_make (P:=P) s.w t e inf zv hE.und e1 e2 .i64 .i64 n' n' c0 (Int.le_refl _) (by rw[e4];omega) c1
  have hpos:=hE.pos
  have hcells:=madeCells_toList zv.cells (by omega) n'.toNat
  rw[e5]at hcells
  rw[e3]at hrun
  have calm:=Calm.of_below (g9 s.w (.cells (madeCells zv.cells (n'.toNat * R.size)) e)) hg.wf
  have hsz:=size_madeCells zv.cells (n'.toNat * R.size)
  refine⟨.slice (some ⟨s.w.heap.size,0,none⟩) n'.toNat n'.toNat,⟨s.w.alloc (.cells (madeCells zv.cells (n'.toNat * R.size)) e),s.F⟩,Pr.is (.slice (some ⟨s.w.heap.size,0,none⟩) n'.toNat n'.toNat),C++[Own.vec (.slice (some ⟨s.w.heap.size,0,none⟩) n'.toNat n'.toNat) R (List.replicate n'.toNat z) e],?_,calm.pureLe hg.wf,?_,rfl,k _⟩
  ·simp[execOp,h0,h1,hrun]
  ·refine hg.addOne rfl (.inr ⟨s.w.heap.size,n'.toNat,madeCells zv.cells (n'.toNat * R.size),(List.replicate n'.toNat zv.cells.toList).flatten,by simp,rfl,by simp,by unfold maxLen;omega,hsz,?_,?_⟩)
   ·rw[List.length_replicate,← hcells,List.take_of_length_le (by simp[hsz])]
   ·exact rowC_replicate (R.mono (calm.pureLe hg.wf) (hr s)) _
 ·cases hm
theorem qMin {k:IntKind} {a b:Int} {x y:Operand} {tys:Array TypeId} {dd:Option Nat} {gd:Option (Nat × Bool)} (hx:env.op x=Pr.int k a:=by exact rfl) (hy:env.op y=Pr.int k b:=by exact rfl):Q P C ⟨dd,.call ⟨.builtin .min, #[x,y],tys⟩,ty,pos,after,gd⟩ env (Pr.int k (if b<a then b else a)):=by
 intro s ρ hs _ h
 have h1:ρ x= .int k a:=by have:=h x (by simp[Op.operands,Call.operands]);rw[hx]at this;exact this
 have h2:ρ y= .int k b:=by have:=h y (by simp[Op.operands,Call.operands]);rw[hy]at this;exact this
 refine .of_run hs (v:= .int k (if b<a then b else a)) ?_ rfl
 simp[execOp,resolve,invoke,builtin,Builtin.min_,Builtin.min2,h1,h2]
theorem qMax {k:IntKind} {a b:Int} {x y:Operand} {tys:Array TypeId} {dd:Option Nat} {gd:Option (Nat × Bool)} (hx:env.op x=Pr.int k a:=by exact rfl) (hy:env.op y=Pr.int k b:=by exact rfl):Q P C ⟨dd,.call ⟨.builtin .max, #[x,y],tys⟩,ty,pos,after,gd⟩ env (Pr.int k (if b>a then b else a)):=by
 intro s ρ hs _ h
 have h1:ρ x= .int k a:=by have:=h x (by simp[Op.operands,Call.operands]);rw[hx]at this;exact this
 have h2:ρ y= .int k b:=by have:=h y (by simp[Op.operands,Call.operands]);rw[hy]at this;exact this
 refine .of_run hs (v:= .int k (if b>a then b else a)) ?_ rfl
 simp[execOp,resolve,invoke,builtin,Builtin.max_,Builtin.max2,h1,h2]
end
end Go.Cn
set_option linter.unusedSectionVars false
namespace Go.Cn
open Go.RowKit (Below)
variable [Glob]
section
variable {P:Program} {n:Fm} {T:Nat->Prop} {s0:St} {all:List Oper} {K:Exit->Env->Ctx->Prop} {r:List Oper} {env:Env} {C:Ctx}
variable {d:Nat} {ty:TypeId} {pos:String} {after:Array Edge}
theorem run_buildSlice {α:Type} {R:Rp α} {ls:List α} {t e m bytes:Nat} {parts:Array (Nat × Operand)} {s:St} {ρ:Operand->Value} {dd:Option Nat} {gd:Option (Nat × Bool)} (hE:ElOK P t e R.size bytes) (hsm:m * R.size<=10000) (hparts:parts.toList=(parts.toList.map (·.2)).zipIdx.map (fun(x,i)=>(i,x))/\parts.size=m)
  (hx:AllIs env R (parts.toList.map (·.2)) ls) (hm:0<m) (h:∀x∈parts.toList.map (·.2),(env.op x).p s (ρ x)):
  ∃cs,rowC R s ls cs/\ls.length=m/\(execOp ρ ⟨dd,.buildSlice t m parts,ty,pos,after,gd⟩).run P s.w= .ok (.value (.slice (some ⟨s.w.heap.size,0,none⟩) m m)) (s.w.alloc (.cells cs.toArray e)):=by
 obtain⟨hp1,hp2⟩:=hparts
 obtain⟨css,h1,h2,h3⟩:=allIs_cells (s:=s) (ρ:=ρ) h hx
 obtain⟨inf,z,g1,g2,g3,g4,g5⟩:=hE.ex
 have hpos:=hE.pos
 have hcs:∀cs∈css,cs.length=R.size:=fun cs hc=>by
  obtain⟨i,hi⟩:=List.mem_iff_getElem?.1 hc
  have hil:i<(parts.toList.map (·.2)).length:=by rw[← h1];exact(List.getElem?_eq_some_iff.1 hi).1
  obtain⟨cs',h4,_,h5⟩:=h3 i _ (List.getElem?_eq_getElem hil)
  rw[hi]at h4;cases h4;exact h5
 have hlen:css.length=m:=by rw[h1];simpa using hp2
 have hfill:=fill_all hpos css 0 [] ((Array.range (m * R.size)).map (z.cells[· % z.cells.size]!)).toList ((parts.toList.map (·.2)).map ρ) hcs (by simp) (by simp[hlen]) (by rw[List.length_map,h1]) (fun i v hv=>by
  rw[List.getElem?_map]at hv
  cases hxi:(parts.toList.map (·.2))[i]? with
  |none=>rw[hxi]at hv;cases hv
  |some x=>rw[hxi]at hv;simp at hv;subst hv;obtain⟨cs,h4,h5,_⟩:=h3 i x hxi;exact⟨cs,h4,h5⟩)
 simp only[List.nil_append,Array.toArray_toList]at hfill
 have hpm:(parts.map fun(i,x)=>(i,ρ x)).toList=(((parts.toList.map (·.2)).map ρ).zipIdx 0).map fun(v,i)=>(i,v):=by
  rw[Array.toList_map]
  conv=>lhs;rw[hp1]
  simp[List.zipIdx_map,List.map_map,Function.comp_def]
 have hbig:¬(16777216<m * R.size):=by omega
 have hne:¬(m * R.size=0):=Nat.ne_of_gt (Nat.mul_pos hm hpos)
 have hm0:¬(m=0):=by omega
 have hR0:¬(R.size=0):=by omega
 have hrun:(execOp ρ ⟨dd,.buildSlice t m parts,ty,pos,after,gd⟩).run P s.w= .ok (.value (.slice (some ⟨s.w.heap.size,0,none⟩) m m)) (s.w.alloc (.cells css.flatten.toArray e)):=by
  rw[← hpm]at hfill
  simp[execOp,Instr.buildSlice,ek hE.und,sizeOf,typeInfo,program,Sem.run,g1,g3,hbig,hm0,hR0,zeroValue,g2,newRow]
  simp at hfill
  simp[hfill]
  try exact fun h0=>absurd h0 hne
 have hal:ls.length=m:=by
  have:∀{xs:List Operand} {ls:List α},AllIs env R xs ls->ls.length=xs.length:=by
   intro xs
   induction xs with
   |nil=>intro ls h;cases ls with|nil=>rfl|cons _ _=>exact h.elim
   |cons x xs ih=>intro ls h;cases ls with|nil=>exact h.elim|cons a ls=>simp[ih h.2]
  rw[this hx];simpa using hp2
 exact⟨css.flatten,h2,hal,hrun⟩
theorem rBuildV {α:Type} {R:Rp α} {ls:List α} {t e m bytes:Nat} {parts:Array (Nat × Operand)} (hE:ElOK P t e R.size bytes) (hsm:m * R.size<=10000) (hparts:parts.toList=(parts.toList.map (·.2)).zipIdx.map (fun(x,i)=>(i,x))/\parts.size=m)
  (hx:AllIs env R (parts.toList.map (·.2)) ls) (k:∀v',Run P n T s0 all K r (env.put d (Pr.is v')) (C++[Own.vec v' R ls e])) (hm:0<m:=by decide):
  Run P n T s0 all K (⟨some d,.buildSlice t m parts,ty,pos,after,none⟩::r) env C:=by
 refine rDo (nj fun s ρ hg he=> ?_)
 obtain⟨cs,h1,h2,hrun⟩:=run_buildSlice (P:=P) (s:=s) (ρ:=ρ) (dd:=some d) (ty:=ty) (pos:=pos) (after:=after) (gd:=none) hE hsm hparts hx hm (fun x _=>he x)
 have hl:=h1.len
 have calm:=Calm.of_below (g9 s.w (.cells cs.toArray e)) hg.wf
 refine⟨_,⟨s.w.alloc (.cells cs.toArray e),s.F⟩,Pr.is (.slice (some ⟨s.w.heap.size,0,none⟩) m m),C++[Own.vec (.slice (some ⟨s.w.heap.size,0,none⟩) m m) R ls e],hrun,calm.pureLe hg.wf,hg.addOne rfl (.inr ⟨s.w.heap.size,m,cs.toArray,cs,by rw[h2],rfl,by omega,?_,by simp[hl,h2],?_,h1.mono (calm.pureLe hg.wf)⟩),rfl,k _⟩
 ·have:m<=m * R.size:=Nat.le_mul_of_pos_right _ hE.pos
  unfold maxLen
  omega
 ·rw[← hl]
  simp
end
end Go.Cn
set_option linter.unusedSectionVars false
namespace Go.Cn
variable [Glob]
section
variable {P:Program} {n:Fm} {T:Nat->Prop} {s0:St} {all:List Oper} {K:Exit->Env->Ctx->Prop} {r:List Oper} {env:Env} {C:Ctx}
theorem relEnv_is {s:St} {ts:List Nat} {a:Act} {v:Value} (he:EnvOK n env a s):EnvOK n (relEnv env ts (Pr.is v)) a s\/∃t∈ts,env t≠Pr.is v:=by
 by_cases h:∀t∈ts,env t=Pr.is v
 ·left
  refine⟨fun t=> ?_,he.size,he.nod⟩
  unfold relEnv
  cases hc:ts.contains t with
  |true=>have h1:=he.at_ t;rw[h t (by simpa using hc)]at h1;exact h1
  |false=>exact he.at_ t
 ·right
  obtain⟨t,h2⟩:=Classical.not_forall.1 h
  obtain⟨ht,hn⟩:=Classical.not_imp.1 h2
  exact⟨t,ht,hn⟩
theorem W_nil (ts:List Nat) {α:Type} (R:Rp α) (e:TypeId) {c:Code} (k:∀w,W P n T s0 c (relEnv env ts (Pr.is w)) (C++[Own.vec w R [] e]) K) (hts:allIs env (.slice none 0 0) ts):W P n T s0 c env C K:=by
 intro a s he hg
 rcases relEnv_is (ts:=ts) (v:= .slice none 0 0) he with h|⟨t,ht,hn⟩
 ·exact k (.slice none 0 0) a s h (vec_nil R e hg)
 ·exact absurd (hts.mem t ht) hn
end
end Go.Cn
set_option linter.unusedSectionVars false
namespace Go.Cn
variable [Glob]
def Rp.LeC {α:Type} (R R':Rp α):Prop:=∀s x cs,R.c s x cs->R'.c s x cs
structure FG (α:Type) where
 β:Type
 G:Rp α->Rp β
 f:α->β
 size:∀R R':Rp α,(G R).size=(G R').size
 mono:∀R R':Rp α,R.size=R'.size->R.LeC R'->(G R).LeC (G R')
 cont:∀(L:Nat->Rp α) (R:Rp α),(∀n,(L n).size=R.size)->(∀n,(L n).LeC (L (n+1)))->(∀s x cs,R.c s x cs->∃n,(L n).c s x cs)->∀s y cs,(G R).c s y cs->∃n,(G (L n)).c s y cs
def FG.const {α β:Type} (R:Rp β) (f:α->β):FG α:=⟨β,fun _=>R,f,fun _ _=>rfl,fun _ _ _ _ _ _ _ h=>h,fun _ _ _ _ _ _ _ _ h=>⟨0,h⟩⟩
theorem chain_le {α:Type} {L:Nat->Rp α} (h:∀n,(L n).LeC (L (n+1))):∀{n m:Nat},n<=m->(L n).LeC (L m):=by
 intro n m hnm
 induction hnm with
 |refl=>exact fun _ _ _ h=>h
 |step _ ih=>exact fun s x cs hc=>h _ s x cs (ih s x cs hc)
theorem rowAt_mono {α:Type} {R R':Rp α} (hs:R.size=R'.size) (h:R.LeC R') {s:St} {a:Addr} {l:List α} (k:RowAt R s a l):RowAt R' s a l:=fun i x hi=>by
 obtain⟨cs,h1,h2⟩:=k i x hi
 exact⟨cs,h s x cs h1,by rw[← hs];exact h2⟩
theorem rowAt_cont {α:Type} {L:Nat->Rp α} {R:Rp α} (hs:∀n,(L n).size=R.size) (hm:∀n,(L n).LeC (L (n+1))) (hc:∀s x cs,R.c s x cs->∃n,(L n).c s x cs) {s:St} {a:Addr}:∀l:List α,RowAt R s a l->∃n,RowAt (L n) s a l:=by
 intro l h
 have key:∀k,k<=l.length->∃n,∀i x,i<k->l[i]? =some x->∃cs,(L n).c s x cs/\Lies s ⟨a.block,a.off+i * R.size,none⟩ cs:=by
  intro k
  induction k with
  |zero=>exact fun _=>⟨0,fun i x hi=>absurd hi (Nat.not_lt_zero _)⟩
  |succ k ih=>
   intro hk
   obtain⟨n,hn⟩:=ih (by omega)
   obtain⟨cs,h1,h2⟩:=h k l[k] (List.getElem?_eq_getElem hk)
   obtain⟨m,hm1⟩:=hc s _ cs h1
   refine⟨max n m,fun i x hi hx=> ?_⟩
   by_cases hik:i<k
   ·obtain⟨cs',g1,g2⟩:=hn i x hik hx
    exact⟨cs',chain_le hm (Nat.le_max_left n m) _ _ _ g1,g2⟩
   ·have:i=k:=by omega
    subst this
    rw[List.getElem?_eq_getElem hk]at hx
    obtain rfl:=Option.some.inj hx
    exact⟨cs,chain_le hm (Nat.le_max_right n m) _ _ _ hm1,h2⟩
 obtain⟨n,hn⟩:=key l.length (Nat.le_refl _)
 refine⟨n,fun i x hi=> ?_⟩
 obtain⟨cs,g1,g2⟩:=hn i x (List.getElem?_eq_some_iff.1 hi).1 hi
 exact⟨cs,g1,by rw[hs];exact g2⟩
def FG.list {α:Type} (f:α->List α):FG α:=⟨List α,a9,f,fun _ _=>rfl,
 fun R R' hs h s l cs ⟨v,h1,a,cap,h2,h3,h4⟩=>⟨v,h1,a,cap,h2,h3,h4.imp id fun⟨ad,h5,h6,h7⟩=>⟨ad,h5,h6,rowAt_mono hs h h7⟩⟩,
 fun L R hs hm hc s l cs ⟨v,h1,a,cap,h2,h3,h4⟩=>by
  rcases h4 with h4|⟨ad,h5,h6,h7⟩
  ·exact⟨0,v,h1,a,cap,h2,h3,.inl h4⟩
  ·obtain⟨n,hn⟩:=rowAt_cont hs hm hc l h7
   exact⟨n,v,h1,a,cap,h2,h3,.inr ⟨ad,h5,h6,hn⟩⟩⟩
def fgs {α:Type} (gs:List (FG α)) (R:Rp α):List (Fd α):=gs.map fun g=>⟨g.β,g.G R,g.f⟩
theorem fgs_size {α:Type} (gs:List (FG α)) (R R':Rp α):d6 (fgs gs R)=d6 (fgs gs R'):=by
 induction gs with
 |nil=>rfl
 |cons g gs ih=>simp only[fgs,List.map_cons,d6]at ih ⊢;rw[ih,g.size R R']
theorem fgs_mono {α:Type} {R R':Rp α} (hs:R.size=R'.size) (h:R.LeC R') {s:St} {x:α}:∀(gs:List (FG α)) (cs:List Value),catC s x (fgs gs R) cs->catC s x (fgs gs R') cs
 | [],_,k=>k
 |g::gs,_,⟨c1,c2,h1,h2,h3⟩=>⟨c1,c2,h1,g.mono R R' hs h _ _ _ h2,fgs_mono hs h gs c2 h3⟩
theorem fgs_cont {α:Type} {L:Nat->Rp α} {R:Rp α} (hs:∀n,(L n).size=R.size) (hm:∀n,(L n).LeC (L (n+1))) (hc:∀s x cs,R.c s x cs->∃n,(L n).c s x cs) {s:St} {x:α}:∀(gs:List (FG α)) (cs:List Value),catC s x (fgs gs R) cs->∃n,catC s x (fgs gs (L n)) cs
 | [],_,k=>⟨0,k⟩
 |g::gs,_,⟨c1,c2,h1,h2,h3⟩=>by
  obtain⟨n,hn⟩:=g.cont L R hs hm hc _ _ _ h2
  obtain⟨m,hm'⟩:=fgs_cont hs hm hc gs c2 h3
  have sz:∀a b,(L a).size=(L b).size:=fun a b=>(hs a).trans (hs b).symm
  exact⟨max n m,c1,c2,h1,g.mono _ _ (sz _ _) (chain_le hm (Nat.le_max_left n m)) _ _ _ hn,fgs_mono (sz _ _) (chain_le hm (Nat.le_max_right n m)) gs c2 hm'⟩
def Rp.bot (α:Type) (size:Nat):Rp α where
 size:=size
 agg:=true
 val:=fun _=>⟨fun _ _=>False,fun _ h=>h⟩
 c:=fun _ _ _=>False
 mono:=fun _ h=>h
 len:=fun h=>h.elim
 flat:=fun h=>h.elim
 one:=fun h=>by cases h
 spec:=⟨fun h=>h.elim,fun⟨_,h,_⟩=>h⟩
def Rp.lev {α:Type} (gs:List (FG α)) (size:Nat):Nat->Rp α
 | 0=>Rp.bot α size
 |n+1=>i8 (fgs gs (Rp.lev gs size n))
theorem Rp.lev_size {α:Type} {gs:List (FG α)} {size:Nat} (h:d6 (fgs gs (Rp.bot α size))=size):∀n,(Rp.lev gs size n).size=size
 | 0=>rfl
 |n+1=>(fgs_size gs _ _).trans h
theorem Rp.lev_mono {α:Type} {gs:List (FG α)} {size:Nat} (h:d6 (fgs gs (Rp.bot α size))=size):∀n,(Rp.lev gs size n).LeC (Rp.lev gs size (n+1))
 | 0=>fun _ _ _ k=>k.elim
 |n+1=>fun s x cs k=>fgs_mono ((lev_size h n).trans (lev_size h (n+1)).symm) (Rp.lev_mono h n) gs cs k
def Rp.fix {α:Type} (gs:List (FG α)) (size:Nat) (h:d6 (fgs gs (Rp.bot α size))=size):Rp α where
 size:=size
 agg:=true
 val:=fun x=>⟨fun s v=>∃cs,(∃n,(Rp.lev gs size n).c s x cs)/\v= .agg cs.toArray,fun k ⟨cs,⟨n,h1⟩,h2⟩=>⟨cs,⟨n,(Rp.lev gs size n).mono k h1⟩,h2⟩⟩
 c:=fun s x cs=>∃n,(Rp.lev gs size n).c s x cs
 mono:=fun k ⟨n,h⟩=>⟨n,(Rp.lev gs size n).mono k h⟩
 len:=fun⟨n,k⟩=>((Rp.lev gs size n).len k).trans (Rp.lev_size h n)
 flat:=fun⟨n,h⟩=>(Rp.lev gs size n).flat h
 one:=fun h=>by cases h
 spec:=Iff.rfl
theorem Rp.fix_c {α:Type} {gs:List (FG α)} {size:Nat} (h:d6 (fgs gs (Rp.bot α size))=size) (s:St) (x:α) (cs:List Value):(Rp.fix gs size h).c s x cs↔catC s x (fgs gs (Rp.fix gs size h)) cs:=by
 constructor
 ·rintro⟨n,k⟩
  cases n with
  |zero=>exact k.elim
  |succ n=>exact fgs_mono (R:=Rp.lev gs size n) (R':=Rp.fix gs size h) (Rp.lev_size h n) (fun s x cs k=>⟨n,k⟩) gs cs k
 ·intro k
  obtain⟨n,hn⟩:=fgs_cont (L:=Rp.lev gs size) (R:=Rp.fix gs size h) (Rp.lev_size h) (Rp.lev_mono h) (fun s x cs k=>k) gs cs k
  exact⟨n+1,hn⟩
theorem Rp.fix_eq {α:Type} {gs:List (FG α)} {size:Nat} (h:d6 (fgs gs (Rp.bot α size))=size):Rp.fix gs size h=i8 (fgs gs (Rp.fix gs size h)):=by
 have hc:(fun s x cs=>∃n,(Rp.lev gs size n).c s x cs)=fun s x cs=>catC s x (fgs gs (Rp.fix gs size h)) cs:=by
  funext s x cs
  exact propext (Rp.fix_c h s x cs)
 have hv:(Rp.fix gs size h).val=(i8 (fgs gs (Rp.fix gs size h))).val:=by
  funext x
  have:∀{p q:Pr},p.p=q.p->p=q:=fun {p q} e=>by cases p;cases q;cases e;rfl
  apply this
  funext s v
  exact propext ⟨fun⟨cs,h1,h2⟩=>⟨cs,(Rp.fix_c h s x cs).1 h1,h2⟩,fun⟨cs,h1,h2⟩=>⟨cs,(Rp.fix_c h s x cs).2 h1,h2⟩⟩
 have hs:(Rp.fix gs size h).size=(i8 (fgs gs (Rp.fix gs size h))).size:=((fgs_size gs _ _).trans h).symm
 have ext:∀{R R':Rp α},R.size=R'.size->R.agg=R'.agg->R.val=R'.val->R.c=R'.c->R=R':=fun {R R'} e1 e2 e3 e4=>by
  cases R;cases R';cases e1;cases e2;cases e3;cases e4;rfl
 exact ext hs rfl hv hc
section
variable {P:Program} {env:Env} {C:Ctx} {ty:TypeId} {pos:String} {after:Array Edge}
theorem dc {α:Type} {R:Rp α} {fds:List (Fd α)} {z x:α} {t:TypeId} {parts:Array (Nat × Operand)} {dd:Option Nat} {gd:Option (Nat × Bool)} (hR:R=i8 fds) (hS:StOK P t fds z) (hp:PartsOK env fds parts.toList z x):Q P C ⟨dd,.build t parts,ty,pos,after,gd⟩ env (R.val x):=by
 rw[hR]
 exact qBuild hS hp
theorem Sub.ofEq {α β:Type} {R:Rp α} {fds:List (Fd α)} {off:Nat} {R':Rp β} {f:α->β} (hR:R=i8 fds) (h:Sub (i8 fds) off R' f):Sub R off R' f:=by rw[hR];exact h
theorem Upd.ofEq {α β:Type} {R:Rp α} {fds:List (Fd α)} {off:Nat} {R':Rp β} {f:α->β->α} (hR:R=i8 fds) (h:Upd (i8 fds) off R' f):Upd R off R' f:=by rw[hR];exact h
end
end Go.Cn
set_option linter.unusedSectionVars false
namespace Go.Cn
open Go.RowKit (Below)
open Go.MapKept
variable [Glob]
abbrev SMap (β:Type):=List (List UInt8 × β)
def mhas {β:Type} (k:List UInt8):SMap β->Bool
 | []=>false
 |(j,_)::m=>if j=k then true else mhas k m
def mget {β:Type} (k:List UInt8) (z:β):SMap β->β
 | []=>z
 |(j,v)::m=>if j=k then v else mget k z m
def mset {β:Type} (k:List UInt8) (v:β):SMap β->SMap β
 | []=>[(k,v)]
 |(j,u)::m=>if j=k then(j,v)::m else(j,u)::mset k v m
def mapC {β:Type} (R:Rp β) (s:St):SMap β->List MapEntry->Prop
 | [],es=>es=[]
 |(k,v)::m,es=>∃e r,es=e::r/\e.key= .string (bs k)/\(R.val v).p s e.val/\mapC R s m r
theorem mapC.mono {β:Type} {R:Rp β} {s t:St} (h:s.Le t):∀{m:SMap β} {es:List MapEntry},mapC R s m es->mapC R t m es
 | [],_,k=>k
 |(_,v)::_,_,⟨e,r,h1,h2,h3,h4⟩=>⟨e,r,h1,h2,(R.val v).mono h h3,mapC.mono h h4⟩
theorem mapC.len {β:Type} {R:Rp β} {s:St}:∀{m:SMap β} {es:List MapEntry},mapC R s m es->es.length=m.length
 | [],_,k=>by rw[k];rfl
 |_::_,_,⟨e,r,h1,_,_,h4⟩=>by rw[h1,List.length_cons,List.length_cons,h4.len]
theorem bs_inj {a b:List UInt8} (h:bs a=bs b):a=b:=by
 have:=congrArg (fun x:ByteArray=>x.toList) h
 simpa [toList_bs] using this
theorem find_map {β:Type} {R:Rp β} {s:St} (k:List UInt8):∀{m:SMap β} {es:List MapEntry} (i:Nat),mapC R s m es->
    (mhas k m=false/\Instr.findNow .string (.string (bs k)) es i=some none)\/
    (mhas k m=true/\∃j e,Instr.findNow .string (.string (bs k)) es i=some (some (i+j,e.val))/\es[j]? =some e/\e.key= .string (bs k)/\(∀z,(R.val (mget k z m)).p s e.val)/\
      ∀(t:St) v u,s.Le t->(R.val v).p t u->mapC R t (mset k v m) (es.modify j fun e=>{e with key:= .string (bs k),val:=u}))
  | [],es,i,h=>by
    obtain rfl:es=[]:=h
    exact .inl ⟨rfl,rfl⟩
  | (j, w) :: m, es, i, ⟨e, r, h1, h2, h3, h4⟩ => by
    subst h1
    by_cases hjk:j=k
    · subst hjk
      have hs:Instr.sameNow .string (.string (bs j)) e.key=some true:=by rw[h2];simp[Instr.sameNow,bytes_beq]
      refine .inr ⟨by simp[mhas],0,e,by simp[Instr.findNow,hs],rfl,h2,fun z=>by simpa [mget] using h3,fun t v u hle hu=> ?_⟩
      simp only[mset,if_true]
      exact⟨_,r,rfl,rfl,hu,h4.mono hle⟩
    · have hne:¬bs k=bs j:=fun h=>hjk (bs_inj h.symm)
      have hs:Instr.sameNow .string (.string (bs k)) e.key=some false:=by
        rw[h2]
        simp only[Instr.sameNow,Option.some.injEq]
        rw[Bool.eq_false_iff,ne_eq,bytes_beq]
        exact hne
      rcases find_map k (i+1) h4 with⟨g1,g2⟩|⟨g1,n,e',g2,g3,g4,g5,g6⟩
      · exact .inl ⟨by simp[mhas,hjk,g1],by simp[Instr.findNow,hs,g2]⟩
      · refine .inr ⟨by simp[mhas,hjk,g1],n+1,e',by simp[Instr.findNow,hs,g2];omega,by simpa using g3,g4,fun z=>by simpa [mget,hjk] using g5 z,fun t v u hle hu=> ?_⟩
        simp only[mset,if_neg hjk]
        exact⟨e,_,by simp,h2,(R.val w).mono hle h3,g6 t v u hle hu⟩
theorem mset_new {β:Type} {R:Rp β} {s:St} (k:List UInt8) (v:β):∀{m:SMap β} {es:List MapEntry},mhas k m=false->mapC R s m es->∀(e:MapEntry),e.key= .string (bs k)->(R.val v).p s e.val->mapC R s (mset k v m) (es++[e])
 | [],es,_,h,e,h1,h2=>by
  obtain rfl:es=[]:=h
  exact⟨e,[],rfl,h1,h2,rfl⟩
 |(j,w)::m,es,hn,⟨e0,r,g1,g2,g3,g4⟩,e,h1,h2=>by
  have hjk:¬j=k:=fun h=>by simp[mhas,h]at hn
  simp only[mset,if_neg hjk]
  exact⟨e0,r++[e],by rw[g1];rfl,g2,g3,mset_new k v (by simpa [mhas,hjk] using hn) g4 e h1 h2⟩
def Own.smap {β:Type} (b:Nat) (R:Rp β) (m:SMap β):Own where
 blk:=some b
 p:=fun s o=>∃es clock,o=some (.map es clock)/\mapC R s m es.toList
 mono:=fun h _ ⟨es,clock,h1,h2⟩=>⟨es,clock,h1,h2.mono h⟩
abbrev Pr.mp (b:Nat):Pr:=Pr.is (.map (some b))
section
variable {P:Program} {n:Fm} {T:Nat->Prop} {s0:St} {all:List Oper} {K:Exit->Env->Ctx->Prop} {r:List Oper} {env:Env} {C:Ctx}
variable {d:Nat} {ty:TypeId} {pos:String} {after:Array Edge}
theorem rMakeMap {β:Type} {t:TypeId} (R:Rp β) (k:∀b,Run P n T s0 all K r (env.put d (Pr.mp b)) (C++[Own.smap b R []])):
  Run P n T s0 all K (⟨some d,.makeMap t none,ty,pos,after,none⟩::r) env C:=by
 refine rDo (nj fun s ρ hg he=> ?_)
 have calm:=Calm.of_below (g9 s.w (.map #[] 0)) hg.wf
 refine⟨.map (some s.w.heap.size),⟨s.w.alloc (.map #[] 0),s.F⟩,Pr.mp s.w.heap.size,C++[Own.smap s.w.heap.size R []],?_,calm.pureLe hg.wf,hg.addOne rfl ⟨#[],0,rfl,rfl⟩,rfl,k _⟩
 simp[execOp,Instr.makeMap]
theorem qMapGet2 (i:Nat) {β:Type} {R:Rp β} {m:SMap β} {kx:List UInt8} {z:β} {zv:Value} {b:Nat} {t kt et:TypeId} {x y:Operand} {dd:Option Nat} {gd:Option (Nat × Bool)} (ht:P.underlying t=some (.map kt et)) (hk:P.underlying kt=some .string) (hz:∀w,(zeroValue et).run P w= .ok zv w) (hzv:∀s,(R.val z).p s zv)
  (hx:env.op x=Pr.mp b:=by exact rfl) (hy:env.op y=ai kx:=by exact rfl) (hi:C[i]? =some (Own.smap b R m):=by exact rfl):Q P C ⟨dd,.lookup t x y true,ty,pos,after,gd⟩ env (bh [R.val (mget kx z m),Pr.bool (mhas kx m)]):=by
 intro s ρ hs hh h
 have h0:ρ x= .map (some b):=by have:=h x mem2a;rw[hx]at this;exact this
 have h1:ρ y= .string (bs kx):=by have:=h y mem2b;rw[hy]at this;exact this
 obtain⟨o,ho,es,clock,he,hm⟩:=hh.get hi rfl
 obtain rfl:o= .map es clock:=by simpa using he
 have hck:=run_checkKey (w:=s.w) hk (k:= .string (bs kx)) (by simp[IsKey]) es.isEmpty 9999
 rcases find_map kx 0 hm with⟨g1,g2⟩|⟨g1,j,e,g2,g3,g4,g5,g6⟩
 ·have hf:=run_findKey (w:=s.w) hk g2
  have hg:mget kx z m=z:=by
   have:∀{m:SMap β},mhas kx m=false->mget kx z m=z:=by
    intro m
    induction m with
    |nil=>intro _;rfl
    |cons p m ih=>
     obtain⟨j,v⟩:=p
     intro hh
     by_cases hj:j=kx
     ·simp[mhas,hj]at hh
     ·simp only[mhas,if_neg hj]at hh
      simp[mget,hj,ih hh]
   exact this g1
  rw[hg,g1]
  exact .of_run hs (v:= .tuple #[zv,.bool false]) (by simp[execOp,Instr.lookup,ek ht,h0,h1,Go.MapKept.run_getObj_map ho,hck,hf,hz]) ⟨[_,_],rfl,hzv s,rfl,trivial⟩
 ·have hf:=run_findKey (w:=s.w) hk g2
  rw[g1]
  exact .of_run hs (v:= .tuple #[e.val,.bool true]) (by simp[execOp,Instr.lookup,ek ht,h0,h1,Go.MapKept.run_getObj_map ho,hck,hf]) ⟨[_,_],rfl,g5 z,rfl,trivial⟩
theorem qMapLen (i:Nat) {β:Type} {R:Rp β} {m:SMap β} {b:Nat} {t kt et:TypeId} {tys:Array TypeId} {x:Operand} {dd:Option Nat} {gd:Option (Nat × Bool)} (htt:tys[0]? =some t) (ht:P.underlying t=some (.map kt et))
  (hx:env.op x=Pr.mp b:=by exact rfl) (hi:C[i]? =some (Own.smap b R m):=by exact rfl):Q P C ⟨dd,.call ⟨.builtin .len, #[x],tys⟩,ty,pos,after,gd⟩ env (Pr.i64 m.length):=by
 intro s ρ hs hh h
 have h0:ρ x= .map (some b):=by have:=h x (by simp[Op.operands,Call.operands]);rw[hx]at this;exact this
 obtain⟨o,ho,es,clock,he,hm⟩:=hh.get hi rfl
 obtain rfl:o= .map es clock:=by simpa using he
 have hl:=hm.len
 refine .of_run hs (v:= .int .i64 m.length) ?_ rfl
 have:es.size=m.length:=by simpa using hl
 simp[execOp,resolve,invoke,builtin,Builtin.len_,h0,htt,ek ht,goInt,Go.MapKept.run_getObj_map ho,this]
theorem mod_set {s:St} {b:Nat} {o:Obj} (hs:s.WF) (hF:¬s.F b):Mod (fun k=>some b=some k) s ⟨{s.w with heap:=s.w.heap.setIfInBounds b o},s.F⟩ where
 os:=rfl
 tape:=rfl
 output:=rfl
 size:=by simp
 blk:=fun k _ hk=>by
  have:k≠b:=fun e=>hk (by rw[e])
  simp[Ne.symm this]
 fin:=fun _ h=>h
 old:=fun _ _ h=> .inl h
 wf:=⟨fun k hk=>by simpa using hs.lt k hk,Glob.mono s _ ⟨fun _ h=>h,fun k hk=>by
  have:k≠b:=fun e=>hF (e▸hk)
  simp[Ne.symm this]⟩ hs.glob⟩
theorem rMapSet (i:Nat) {β:Type} {R:Rp β} {m:SMap β} {kx:List UInt8} {v:β} {b:Nat} {t kt et:TypeId} {x y u:Operand} (ht:P.underlying t=some (.map kt et)) (hk:P.underlying kt=some .string)
  (k:Run P n T s0 all K r env (C.set i (Own.smap b R (mset kx v m)))) (hx:env.op x=Pr.mp b:=by exact rfl) (hy:env.op y=ai kx:=by exact rfl) (hu:env.op u=R.val v:=by exact rfl) (hi:C[i]? =some (Own.smap b R m):=by exact rfl):
  Run P n T s0 all K (⟨none,.mapUpdate t x y u,ty,pos,after,none⟩::r) env C:=by
 refine rDo (Does_of_skip fun s ρ hg he=> ?_)
 have h0:ρ x= .map (some b):=by have:=he x;rw[hx]at this;exact this
 have h1:ρ y= .string (bs kx):=by have:=he y;rw[hy]at this;exact this
 have h2:(R.val v).p s (ρ u):=by have:=he u;rw[hu]at this;exact this
 obtain⟨o,ho,es,clock,hee,hm⟩:=hg.get hi rfl
 obtain rfl:o= .map es clock:=by simpa using hee
 have hxm:=List.mem_of_getElem? hi
 have hown:=hg.has.own b (ij hxm rfl)
 have hck:=run_checkKey (w:=s.w) hk (k:= .string (bs kx)) (by simp[IsKey]) false 9999
 have fin:∀(o':Obj) (es':Array MapEntry) (c':Nat),o'= .map es' c'->(∀t:St,s.Le t->mapC R t (mset kx v m) es'.toList)->Good T s0 ⟨{s.w with heap:=s.w.heap.setIfInBounds b o'},s.F⟩ (C.set i (Own.smap b R (mset kx v m)))/\s.Le ⟨{s.w with heap:=s.w.heap.setIfInBounds b o'},s.F⟩:=by
  rintro o' es' c' rfl hc
  have hm':=mod_set (o:= .map es' c') hg.wf hown.1
  have hle:=hm'.le hg.wf (fun b' hb' hF=>hown.1 (by cases hb';exact hF))
  refine⟨hg.setOne hi rfl hm' ⟨es',c',?_,hc _ hle⟩ (fun b' hb'=> ?_),hle⟩
  ·simp only[Own.smap,Option.bind_some]
   exact(Go.MapKept.heap_set ho).1
  ·cases hb'
   exact⟨.inl rfl,by simpa using hown.2⟩
 rcases find_map kx 0 hm with⟨g1,g2⟩|⟨g1,j,e,g2,g3,g4,g5,g6⟩
 ·have hf:=run_findKey (w:=s.w) hk g2
  have hset:=Go.MapKept.run_setObj_map (P:=P) (w:=s.w) (.map (es.push {key:= .string (bs kx),val:=ρ u,born:=clock}) (clock+1)) ho
  obtain⟨hG,hle⟩:=fin _ (es.push {key:= .string (bs kx),val:=ρ u,born:=clock}) (clock+1) rfl (fun t hle=>by
   rw[Array.toList_push]
   exact mset_new kx v g1 (hm.mono hle) _ rfl ((R.val v).mono hle h2))
  exact⟨_,_,by simp[execOp,Instr.mapUpdate,ek ht,h0,h1,Go.MapKept.run_getObj_map ho,hck,hf,hset],hle,hG,k⟩
 ·have hf:=run_findKey (w:=s.w) hk g2
  have hset:=Go.MapKept.run_setObj_map (P:=P) (w:=s.w) (.map (es.modify j fun e=>{e with key:= .string (bs kx),val:=ρ u}) clock) ho
  obtain⟨hG,hle⟩:=fin _ (es.modify j fun e=>{e with key:= .string (bs kx),val:=ρ u}) clock rfl (fun t hle=>by
   rw[Array.toList_modify]
   exact g6 t v (ρ u) hle ((R.val v).mono hle h2))
  have hje:es[j]? =some e:=by simpa using g3
  have hstay:(Instr.keyThatStays (((es[0+j]?).map (·.key)).getD (.string (bs kx))) (.string (bs kx))).run P s.w= .ok (.string (bs kx)) s.w:=by
   rw[Nat.zero_add,hje]
   simp[Instr.keyThatStays,g4,Instr.sameBits,bytes_beq]
  exact⟨_,_,by
   simp only[Nat.zero_add]at hf hstay
   simp[execOp,Instr.mapUpdate,ek ht,h0,h1,Go.MapKept.run_getObj_map ho,hck,hf,hstay,hset],hle,hG,k⟩
end
end Go.Cn
set_option linter.unusedSectionVars false
namespace Go.Cn
variable [Glob]
def strOf (l:List Int):List UInt8:=l.map fun n=>UInt8.ofNat n.toNat
section
variable {P:Program} {env:Env} {C:Ctx} {ty:TypeId} {pos:String} {after:Array Edge}
end
end Go.Cn
set_option linter.unusedSectionVars false
namespace Go.Cn
variable [Glob]
abbrev Eff :=List (Nat × Nat × Own)
def ig (S:Nat->Bool):Eff->Ctx->Ctx
 | [],C=>C
 |(k,ci,X)::r,C=>ig S r (cond (S k) (C.set ci X) C)
def okAt (ops:List Oper) (E:Eff) (j i:Nat):Bool:=E.all fun x=> !(Nat.beq x.2.1 i)||Nat.beq x.1 j||((lb ops []).getD x.1 0).testBit j
def Ag (ops:List Oper) (E:Eff) (C C':Ctx) (j:Nat):Prop:=∀i,okAt ops E j i=true->C'[i]? =C[i]?
def effAt (E:Eff) (j:Nat):Option (Nat × Own):=(E.find? fun x=>Nat.beq x.1 j).map (·.2)
theorem applyE_get {S:Nat->Bool} {i:Nat}:∀(E:Eff) (C:Ctx),(∀x∈E,x.2.1=i->S x.1=false)->(ig S E C)[i]? =C[i]?
  | [],_,_=>rfl
  | (k, ci, X) :: r, C, h => by
    simp only[ig]
    rw[applyE_get r _ fun x hx=>h x (List.mem_cons_of_mem _ hx)]
    by_cases hci:ci=i
    · rw[h (k,ci,X) List.mem_cons_self hci];rfl
    · cases S k with
      |false=>rfl
      |true=>simp only[cond_true];rw[List.getElem?_set_ne hci]
theorem applyE_congr {S S':Nat->Bool}:∀(E:Eff) (C:Ctx),(∀x∈E,S x.1=S' x.1)->ig S E C=ig S' E C
 | [],_,_=>rfl
 |(k,ci,X)::r,C,h=>by
  simp only[ig]
  rw[h (k,ci,X) List.mem_cons_self,applyE_congr r _ fun x hx=>h x (List.mem_cons_of_mem _ hx)]
theorem applyE_comm {S:Nat->Bool} {ci:Nat} {X:Own}:∀(E:Eff) (C:Ctx),(∀x∈E,x.2.1≠ci)->ig S E (C.set ci X)=(ig S E C).set ci X
  | [],_,_=>rfl
  | (k, a, A) :: r, C, h => by
    simp only[ig]
    have hne:a≠ci:=h (k,a,A) List.mem_cons_self
    cases S k with
    |false=>exact applyE_comm r C fun x hx=>h x (List.mem_cons_of_mem _ hx)
    |true=>
      simp only[cond_true]
      rw[List.set_comm _ _ (Ne.symm hne)]
      exact applyE_comm r _ fun x hx=>h x (List.mem_cons_of_mem _ hx)
theorem applyE_set {S S':Nat->Bool} {j ci:Nat} {X:Own} (hj:S j=false) (hj':S' j=true) (hS:∀k,k≠j->S' k=S k):∀(E:Eff) (C:Ctx),(E.map (·.1)).Nodup->(E.map (·.2.1)).Nodup->(j,ci,X)∈E->ig S' E C=(ig S E C).set ci X
  | [],_,_,_,h=>by cases h
  | (k, a, A) :: r, C, h1, h2, h => by
    simp only[List.map_cons,List.nodup_cons]at h1 h2
    simp only[ig]
    rcases List.mem_cons.1 h with e|h
    · injection e with e1 e2
      injection e2 with e2 e3
      subst e1 e2 e3
      rw[hj,hj']
      simp only[cond_true,cond_false]
      rw[applyE_congr (S:=S') (S':=S) r _ (fun x hx=>hS _ (fun e=>h1.1 (List.mem_map.2 ⟨x,hx,e⟩)))]
      exact applyE_comm r C (fun x hx e=>h2.1 (List.mem_map.2 ⟨x,hx,e⟩))
    · have hk:k≠j:=fun e=>h1.1 (List.mem_map.2 ⟨_,h,e.symm⟩)
      rw[hS k hk]
      exact applyE_set hj hj' hS r _ h1.2 h2.2 h
section
variable {P:Program} {n:Fm} {T:Nat->Prop} {s0:St}
def SStep (P:Program) (T:Nat->Prop) (s0:St) (C:Ctx) (o:Oper) (e:Env) (C':Ctx):Prop:=
 ∀(s:St) (ρ:Operand->Value),Good T s0 s C->(∀x∈o.op.operands,(e.op x).p s (ρ x))->∃s',(execOp ρ o).run P s.w= .ok .skip s'.w/\s.Le s'/\Good T s0 s' C'
def EStep (P:Program) (T:Nat->Prop) (s0:St) (C:Ctx) (ops:List Oper) (E:Eff) (j:Nat) (o:Oper) (e:Env) (out:Pr):Prop:=
 match effAt E j with
 |some (ci,X)=>out= .any/\o.dst=none/\o.guard=none/\∀C',Ag ops E C C' j->SStep P T s0 C' o e (C'.set ci X)
 |none=>∀C',Ag ops E C C' j->Step P C' ops o e out
def ERun (P:Program) (T:Nat->Prop) (s0:St) (C:Ctx) (ops:List Oper) (E:Eff):Nat->List Oper->Env->(Env->Prop)->Prop
 |_,[],e,K=>K e
 |k,o::r,e,K=>∃out,EStep P T s0 C ops E k o e out/\ERun P T s0 C ops E (k+1) r (e.putO o.dst out) K
section
variable {C:Ctx} {ops:List Oper} {E:Eff} {k:Nat} {o:Oper} {r:List Oper} {e:Env} {K:Env->Prop}
theorem eq1 {out:Pr} (h:∀C2,Ag ops E C C2 k->Q P C2 o e out) (kk:ERun P T s0 C ops E (k+1) r (e.putO o.dst out) K) (hE:effAt E k=none:=by exact rfl) (hg:o.guard=none:=by exact rfl):ERun P T s0 C ops E k (o::r) e K:=by
 refine⟨out,?_,kk⟩
 unfold EStep
 rw[hE]
 intro C' hC
 unfold Step
 rw[hg]
 exact h C' hC
theorem eqS {ci:Nat} {X:Own} (h:∀C2,Ag ops E C C2 k->SStep P T s0 C2 o e (C2.set ci X)) (kk:ERun P T s0 C ops E (k+1) r (e.putO o.dst .any) K) (hE:effAt E k=some (ci,X):=by exact rfl) (hd:o.dst=none:=by exact rfl) (hg:o.guard=none:=by exact rfl):ERun P T s0 C ops E k (o::r) e K:=by
 refine⟨.any,?_,kk⟩
 unfold EStep
 rw[hE]
 exact⟨rfl,hd,hg,h⟩
end
theorem erun_outs {C:Ctx} {ops:List Oper} {E:Eff} {K:Env->Prop}:∀(l:List Oper) (k:Nat) (e:Env),ERun P T s0 C ops E k l e K->
  ∃ps:List Pr,ps.length=l.length/\K (envS (fun _=>true) (l.zip ps) 0 e)/\∀i o p,l[i]? =some o->ps[i]? =some p->EStep P T s0 C ops E (k+i) o (envS (fun _=>true) ((l.zip ps).take i) 0 e) p
 | [],_,e,h=>⟨[],rfl,h,fun i o p hi=>by simp at hi⟩
 |o::r,k,e,h=>by
  obtain⟨out,h1,h2⟩:=h
  obtain⟨ps,h3,h4,h5⟩:=erun_outs r (k+1) _ h2
  have shift:∀(l:List (Oper × Pr)) (k:Nat) (e:Env),envS (fun _=>true) l k e=envS (fun _=>true) l 0 e:=by
   intro l
   induction l with
   |nil=>intro _ _;rfl
   |cons x l ih=>intro k e;obtain⟨o,p⟩:=x;simp only[envS,cond_true];rw[ih,ih 1]
  refine⟨out::ps,by simp[h3],by simp only[List.zip_cons_cons,envS,cond_true];rw[shift];exact h4,fun i o' p hi hp=> ?_⟩
  cases i with
  |zero=>simp at hi hp;subst hi;subst hp;exact h1
  |succ i=>
   have:=h5 i o' p (by simpa using hi) (by simpa using hp)
   simp only[List.zip_cons_cons,List.take_succ_cons,envS,cond_true]
   rw[shift,show k+(i+1)=k+1+i by omega]
   exact this
theorem effAt_mem {E:Eff} {j ci:Nat} {X:Own} (h:effAt E j=some (ci,X)):(j,ci,X)∈E:=by
 unfold effAt at h
 cases hf:E.find? (fun x=>Nat.beq x.1 j)with
 |none=>rw[hf]at h;cases h
 |some x=>
  rw[hf]at h
  have h1:=List.mem_of_find?_eq_some hf
  have h9:(fun x:Nat × Nat × Own=>Nat.beq x.1 j) x=true:=List.find?_some (p:=fun x:Nat × Nat × Own=>Nat.beq x.1 j) hf
  have h2:x.1=j:=Nat.eq_of_beq_eq_true h9
  obtain⟨k,y⟩:=x
  simp only[Option.map_some,Option.some.injEq]at h
  simp only at h2
  subst h2
  rw[h]at h1
  exact h1
theorem effAt_none {E:Eff} {j:Nat} (h:effAt E j=none):∀x∈E,x.1≠j:=by
 intro x hx e
 unfold effAt at h
 rw[Option.map_eq_none_iff,List.find?_eq_none]at h
 have:=h x hx
 rw[e]at this
 simp at this
theorem any_orderE {ops:List Oper} {ps:List Pr} {e0:Env} {C:Ctx} {E:Eff} {K:Exit->Env->Ctx->Prop} (D:Draw ops ops.length) (hsl:slotsIn n ops=true) (hps:ps.length=ops.length) (hE1:(E.map (·.1)).Nodup) (hE2:(E.map (·.2.1)).Nodup) (hE3:∀x∈E,x.1<ops.length)
  (hstep:∀i o p,ops[i]? =some o->ps[i]? =some p->EStep P T s0 C ops E i o (envS (fun _=>true) ((ops.zip ps).take i) 0 e0) p)
  (hfin:K .normal (envS (fun _=>true) (ops.zip ps) 0 e0) (ig (fun _=>true) E C)):
  ∀(fuel:Nat) (listed:Array Bool) (U:List Nat) (a:Act) (s:St),listed.size=ops.length->U.length=fuel->U.Nodup->(∀i,i∈U↔(i<ops.length/\Lst listed i=false))->
   (∀i o,ops[i]? =some o->Lst listed i=true->∀e∈o.after,Region.binds .any e=true->Lst listed e.on=true)->
   EnvOK n (envS (Lst listed) (ops.zip ps) 0 e0) a s->Good T s0 s (ig (Lst listed) E C)->wpAnyIn (Fr n.ro) 0 P .any ops.toArray (KX n T s0 K) fuel listed a s.w:=by
 have hzip:∀(i:Nat) (x:Oper × Pr),(ops.zip ps)[i]? =some x->ops[i]? =some x.1/\ps[i]? =some x.2:=by
  intro i x hx
  rw[List.getElem?_zip_eq_some]at hx
  exact hx
 intro fuel
 induction fuel with
 |zero=>
  intro listed U a s hsz hU hnd hUm hcl he hg
  have hU0:U=[]:=List.eq_nil_of_length_eq_zero hU
  subst hU0
  have hallL:∀i,i<ops.length->Lst listed i=true:=fun i hi=>by
   cases hh:Lst listed i with
   |true=>rfl
   |false=>have:=(hUm i).2 ⟨hi,hh⟩;cases this
  refine⟨?_,?_⟩
  ·refine List.eq_nil_iff_forall_not_mem.2 fun j hj=> ?_
   obtain⟨h1,o,ho,_⟩:=mem_ready.1 hj
   have hjl:j<ops.length:=by
    have:=(Array.getElem?_eq_some_iff.1 ho).1
    simpa using this
   rw[lst_true (by omega),hallL j hjl]at h1
   cases h1
  ·refine .inl ⟨envS (fun _=>true) (ops.zip ps) 0 e0,ig (fun _=>true) E C,s,rfl,⟨fun t=> ?_,he.size,he.nod⟩,?_,hfin⟩
   ·have:=l7 (t:=t) (ops.zip ps) 0 e0 e0 (S:=Lst listed) (S':=fun _=>true) rfl (fun i x hi _=>by
     have:=(List.getElem?_eq_some_iff.1 (hzip i x hi).1).1
     simpa using hallL i this)
    rw[← this]
    exact he.at_ t
   ·rw[applyE_congr (S:=Lst listed) (S':=fun _=>true) E C (fun x hx=>hallL _ (hE3 x hx))]at hg
    exact hg
 |succ fuel ih=>
  intro listed U a s hsz hU hnd hUm hcl he hg
  have hex:∃i,i<ops.length/\Lst listed i=false/\∀k,k<i->Lst listed k=true:=by
   have:∃i,i<ops.length/\Lst listed i=false:=by
    cases U with
    |nil=>simp at hU
    |cons i U=>exact⟨i,(hUm i).1 List.mem_cons_self⟩
   obtain⟨i,hi⟩:=this
   induction i using Nat.strongRecOn with
   |_ i ih'=>
    by_cases h:∃k,k<i/\Lst listed k=false
    ·obtain⟨k,hk,hk'⟩:=h
     exact ih' k hk ⟨by omega,hk'⟩
    ·refine⟨i,hi.1,hi.2,fun k hk=> ?_⟩
     cases hh:Lst listed k with
     |true=>rfl
     |false=>exact absurd ⟨k,hk,hh⟩ h
  refine⟨fun h0=> ?_,fun j hj=> ?_⟩
  ·exfalso
   obtain⟨i,hil,hi,hk⟩:=hex
   have:i∈Region.ready .any ops.toArray listed:=mem_ready.2 ⟨by rw[lst_true (by omega)];exact hi,ops[i],by simp[hil],fun e hee hbe=>hk e.on (D.edges i _ (by simp[hil]) e hee hbe)⟩
   rw[h0]at this
   cases this
  ·obtain⟨h1,o,ho,h2⟩:=mem_ready.1 hj
   have hjl:j<ops.length:=by
    have:=(Array.getElem?_eq_some_iff.1 ho).1
    simpa using this
   have ho':ops[j]? =some o:=by simpa using ho
   rw[lst_true (by omega)]at h1
   have hcl':∀i o',ops[i]? =some o'->cond (Nat.beq i j) true (Lst listed i)=true->∀e∈o'.after,Region.binds .any e=true->cond (Nat.beq e.on j) true (Lst listed e.on)=true:=fun i o' hi hSi e hee hb=>by
    by_cases hij:i=j
    ·subst hij
     have hoo:o'=o:=by rw[ho']at hi;simpa using hi.symm
     subst hoo
     have:=h2 e hee hb
     cases hh:Nat.beq e.on i<;>simp[this]
    ·have hb':Nat.beq i j=false:=by
      cases hh:Nat.beq i j with
      |false=>rfl
      |true=>exact absurd (Nat.eq_of_beq_eq_true hh) hij
     simp only[hb',cond_false]at hSi
     have:=hcl i o' hi hSi e hee hb
     cases hh:Nat.beq e.on j<;>simp[this]
   have hbefore:=D.closed (fun i=>cond (Nat.beq i j) true (Lst listed i)) hcl' j hjl (by simp)
   have hbef:∀i,i≠j->inB i ((lb ops []).getD j 0)->Lst listed i=true:=fun i hij hi=>by
    have:=hbefore i hi
    have hb:Nat.beq i j=false:=by
     cases hh:Nat.beq i j with
     |false=>rfl
     |true=>exact absurd (Nat.eq_of_beq_eq_true hh) hij
    simpa only[hb,cond_false] using this
   have hafter:∀i,i<ops.length->inB j ((lb ops []).getD i 0)->Lst listed i=false:=fun i hil hi=>by
    cases hh:Lst listed i with
    |false=>rfl
    |true=>have:=D.closed (Lst listed) hcl i hil hh j hi;rw[h1]at this;cases this
   have hsame:∀t,(o.dst=some t\/t∈looks ops o)->envS (Lst listed) (ops.zip ps) 0 e0 t=envS (fun i=>decide (i<j)) (ops.zip ps) 0 e0 t:=fun t ht=>by
    refine l7 _ 0 e0 e0 rfl (fun i x hi hx=> ?_)
    obtain⟨hio,_⟩:=hzip i x hi
    simp only[Nat.zero_add]
    by_cases hij:i=j
    ·subst hij;rw[h1];simp
    ·rcases D.slots i j o x.1 t ho' hio hx hij ht with⟨h3,h4⟩|⟨h3,h4⟩
     ·rw[hbef i hij h4];simp[h3]
     ·rw[hafter i (List.getElem?_eq_some_iff.1 hio).1 h4];simp;omega
   have hAg:Ag ops E C (ig (Lst listed) E C) j:=fun i hi=>by
    refine applyE_get E C (fun x hx hxi=> ?_)
    unfold okAt at hi
    have:=List.all_eq_true.1 hi x hx
    simp only[Bool.or_eq_true,Bool.not_eq_true']at this
    rcases this with(h|h)|h
    ·rw[hxi]at h;simp at h
    ·have:=Nat.eq_of_beq_eq_true h;rw[this];exact h1
    ·exact hafter x.1 (hE3 x hx) h
   obtain⟨p,hp⟩:∃p,ps[j]? =some p:=⟨ps[j]'(by omega),by simp⟩
   have hst:=hstep j o p ho' hp
   rw[envS_take]at hst
   have hjz:(ops.zip ps)[j]? =some (o,p):=by
    rw[List.getElem?_zip_eq_some]
    exact⟨ho',hp⟩
   have hput:∀(a':Act) (s':St),EnvOK n ((envS (Lst listed) (ops.zip ps) 0 e0).putO o.dst p) a' s'->EnvOK n (envS (Lst (listed.setIfInBounds j true)) (ops.zip ps) 0 e0) a' s':=fun a' s' he'=>by
    refine⟨fun t=> ?_,he'.size,he'.nod⟩
    have h0:=he'.at_ t
    by_cases hd:o.dst=some t
    ·have e1:envS (Lst (listed.setIfInBounds j true)) (ops.zip ps) 0 e0 t=p:=by
      refine envS_last _ 0 j o e0 hjz hd (by rw[nd (by omega)];simp) (fun i x hi hx hij=> ?_)
      obtain⟨hio,_⟩:=hzip i x hi
      simp only[Nat.zero_add]
      rw[nd (by omega)]
      have hb:Nat.beq i j=false:=by
       cases hh:Nat.beq i j with
       |false=>rfl
       |true=>have:=Nat.eq_of_beq_eq_true hh;omega
      simp only[hb,cond_false]
      rcases D.slots i j o x.1 t ho' hio hx (by omega) (.inl hd)with⟨h3,_⟩|⟨_,h4⟩
      ·omega
      ·exact hafter i (List.getElem?_eq_some_iff.1 hio).1 h4
     rw[e1]
     rw[hd]at h0
     simpa only[Env.putO,Env.put,Nat.beq_refl,cond_true] using h0
    ·have e1:envS (Lst (listed.setIfInBounds j true)) (ops.zip ps) 0 e0 t=envS (Lst listed) (ops.zip ps) 0 e0 t:=by
      refine l7 _ 0 e0 e0 rfl (fun i x hi hx=> ?_)
      simp only[Nat.zero_add]
      rw[nd (by omega)]
      have hij:i≠j:=fun hij=>by
       subst hij
       rw[hjz]at hi
       simp at hi
       rw[← hi]at hx
       exact hd hx
      have hb:Nat.beq i j=false:=by
       cases hh:Nat.beq i j with
       |false=>rfl
       |true=>exact absurd (Nat.eq_of_beq_eq_true hh) hij
      simp only[hb,cond_false]
     rw[e1]
     cases hod:o.dst with
     |none=>rw[hod]at h0;exact h0
     |some d=>
      rw[hod]at h0 hd
      have hne:Nat.beq t d=false:=by
       cases hb:Nat.beq t d with
       |false=>rfl
       |true=>rw[Nat.eq_of_beq_eq_true hb]at hd;exact absurd rfl hd
      simpa only[Env.putO,Env.put,hne,cond_false] using h0
   have hUj:j∈U:=(hUm j).2 ⟨hjl,h1⟩
   have hnext:∀(a':Act) (s':St),EnvOK n ((envS (Lst listed) (ops.zip ps) 0 e0).putO o.dst p) a' s'->Good T s0 s' (ig (Lst (listed.setIfInBounds j true)) E C)->wpAnyIn (Fr n.ro) 0 P .any ops.toArray (KX n T s0 K) fuel (listed.setIfInBounds j true) a' s'.w:=fun a' s' he' hg'=>by
    refine ih (listed.setIfInBounds j true) (U.erase j) a' s' (by simpa using hsz) (by rw[List.length_erase_of_mem hUj];omega) (hnd.erase j) (fun i=> ?_) (fun i o' hi hSi e hee hb=> ?_) (hput a' s' he') hg'
    ·rw[hnd.mem_erase_iff,hUm,nd (by omega)]
     constructor
     ·rintro⟨h3,h4,h5⟩
      have hb:Nat.beq i j=false:=by
       cases hh:Nat.beq i j with
       |false=>rfl
       |true=>exact absurd (Nat.eq_of_beq_eq_true hh) h3
      exact⟨h4,by simp only[hb,cond_false];exact h5⟩
     ·rintro⟨h4,h5⟩
      cases hb:Nat.beq i j with
      |true=>simp only[hb,cond_true]at h5;cases h5
      |false=>simp only[hb,cond_false]at h5;exact⟨fun hij=>by subst hij;simp at hb,h4,h5⟩
    ·rw[nd (by omega)]at hSi ⊢
     exact hcl' i o' hi hSi e hee hb
   have hdst:∀d,o.dst=some d->d<n.n:=fun d hd=>slotsIn_dst hsl (List.mem_of_getElem? ho') hd
   have hneq:∀k,k≠j->Lst (listed.setIfInBounds j true) k=Lst listed k:=fun k hk=>by
    rw[nd (by omega)]
    have hb:Nat.beq k j=false:=by
     cases hh:Nat.beq k j with
     |false=>rfl
     |true=>exact absurd (Nat.eq_of_beq_eq_true hh) hk
    simp only[hb,cond_false]
   unfold wpOpIn
   simp only[ho]
   unfold EStep at hst
   cases hea:effAt E j with
   |some cx=>
    obtain⟨ci,X⟩:=cx
    rw[hea]at hst
    obtain⟨rfl,hd0,hg0,hS⟩:=hst
    have hset:=applyE_set (ci:=ci) (X:=X) h1 (by rw[nd (by omega)];simp) hneq E C hE1 hE2 (effAt_mem hea)
    rw[if_pos (by simp[Region.wanted,hg0])]
    obtain⟨s',h3,h4,h5⟩:=hS _ hAg s a.eval hg (fun x hx=>by
     have hop:=he.op x
     cases x with
     |tmp t=>
      have ht:t∈looks ops o:=List.mem_append_left _ (List.mem_filterMap.2 ⟨.tmp t,by simpa using hx,rfl⟩)
      have h9:=hsame t (.inr ht)
      simp only[Env.op]at hop ⊢
      rw[← h9]
      exact hop
     |const v=>exact hop
     |global g=>exact hop
     |func f=>exact hop)
    have hd:=Does_of_skip (P:=P) (n:=n) (T:=T) (s0:=s0) (C:=ig (Lst listed) E C) (env:=envS (Lst listed) (ops.zip ps) 0 e0) (o:=o) (K:=fun x e C'=>x= .normal/\e=(envS (Lst listed) (ops.zip ps) 0 e0).putO o.dst .any/\C'=(ig (Lst listed) E C).set ci X) (fun s ρ hg hx=>by
     obtain⟨s',h3,h4,h5⟩:=hS _ hAg s ρ hg (fun x hxm=>by
      have hop:=hx x
      cases x with
      |tmp t=>
       have ht:t∈looks ops o:=List.mem_append_left _ (List.mem_filterMap.2 ⟨.tmp t,by simpa using hxm,rfl⟩)
       have h9:=hsame t (.inr ht)
       simp only[Env.op]at hop ⊢
       rw[← h9]
       exact hop
      |const v=>exact hop
      |global g=>exact hop
      |func f=>exact hop)
     exact⟨s',_,h3,h4,h5,rfl,rfl,rfl⟩) hdst a s he hg
    refine Oper.wp_both (fun a' w' hk=> ?_) (fun x a' w' hk=> ?_) hd
    ·obtain⟨e',C',s',rfl,h3,h4,_,rfl,rfl⟩:=hk
     exact hnext a' s' h3 (by rw[hset];exact h4)
    ·obtain⟨hx,e',C',s',rfl,h3,h4,h5,_⟩:=hk
     exact absurd h5 hx
   |none=>
    rw[hea]at hst
    have hst:=hst _ hAg
    have hsameC:ig (Lst (listed.setIfInBounds j true)) E C=ig (Lst listed) E C:=applyE_congr E C (fun x hx=>hneq _ (effAt_none hea x hx))
    have hQ:Q P (ig (Lst listed) E C) o (envS (fun i=>decide (i<j)) (ops.zip ps) 0 e0) p->Oper.wq P n.ro o a s.w (wpAnyIn (Fr n.ro) 0 P .any ops.toArray (KX n T s0 K) fuel (listed.setIfInBounds j true)) (KX n T s0 K):=fun hq=>by
     have hq':Q P (ig (Lst listed) E C) o (envS (Lst listed) (ops.zip ps) 0 e0) p:=Q.of_looks (all:=ops) hq (fun t ht=>hsame t (.inr ht))
     have hd:=Does_of_Q (n:=n) (T:=T) (s0:=s0) (C:=ig (Lst listed) E C) (K:=fun x e C'=>x= .normal/\e=(envS (Lst listed) (ops.zip ps) 0 e0).putO o.dst p/\C'=ig (Lst listed) E C) hq' ⟨rfl,rfl,rfl⟩ hdst a s he hg
     refine Oper.wp_both (fun a' w' hk=> ?_) (fun x a' w' hk=> ?_) hd
     ·obtain⟨e',C',s',rfl,h3,h4,_,rfl,rfl⟩:=hk
      exact hnext a' s' h3 (by rw[hsameC];exact h4)
     ·obtain⟨hx,e',C',s',rfl,h3,h4,h5,_⟩:=hk
      exact absurd h5 hx
    unfold Step at hst
    cases hgd:o.guard with
    |none=>
     simp only[hgd]at hst
     rw[if_pos (by simp[Region.wanted,hgd])]
     exact hQ hst
    |some jw=>
     obtain⟨gj,want⟩:=jw
     simp only[hgd]at hst
     obtain⟨t,c,h3,h4,h5,h6⟩:=hst
     have hlook:t∈looks ops o:=List.mem_append_right _ (by simp[hgd,h3])
     have hy:=yielded_of (all:=ops) (c:=c) he h3 (by rw[hsame t (.inr hlook)];exact h4) (slotsIn_guard hsl h3)
     by_cases hc:c=some want
     ·rw[if_pos (by simp[Region.wanted,hgd,hy,hc])]
      exact hQ (h5 hc)
     ·rw[if_neg (by simp[Region.wanted,hgd,hy,hc])]
      have hp':=h6 hc
      subst hp'
      exact⟨fun _ _=>trivial,hnext _ s (he.putO hdst rfl) (by rw[hsameC];exact hg)⟩
theorem W_drawE {id:Nat} {ops:Array Oper} {env:Env} {C:Ctx} {K:Exit->Env->Ctx->Prop} (E:Eff) (hm:P.follows .mixedOrders=true) (hD:drawOK ops.toList ops.toList.length=true) (hb:slotsIn n ops.toList=true) (hE1:(E.map (·.1)).Nodup) (hE2:(E.map (·.2.1)).Nodup) (hE3:(E.all fun x=>Nat.blt x.1 ops.toList.length)=true)
  (h:ERun P T s0 C ops.toList E 0 ops.toList env (fun e=>K .normal e (ig (fun _=>true) E C))):W P n T s0 (.region id ops true) env C K:=by
 intro a s he hg
 have D:=Draw.of hD
 obtain⟨ps,h1,h2,h3⟩:=erun_outs _ 0 _ h
 refine wpIn_region_any hm ?_
 have hc:Calm s ⟨{s.w with drawn:=s.w.drawn+1},s.F⟩:=⟨rfl,rfl,rfl,Nat.le_refl _,fun _ _ _=>rfl,fun _ h=>h,fun _ _ h=> .inl h,⟨hg.wf.lt,Glob.mono s _ ⟨fun _ h=>h,fun _ _=>rfl⟩ hg.wf.glob⟩⟩
 have hlist:∀i,Lst (Array.replicate ops.size false) i=false:=fun i=>by
  unfold Lst
  rcases Nat.lt_or_ge i ops.size with h|h
  ·simp[h]
  ·simp[h]
 have hnone:∀(l:List (Oper × Pr)) (k:Nat) (e:Env),envS (Lst (Array.replicate ops.size false)) l k e=e:=by
  intro l
  induction l with
  |nil=>intro _ _;rfl
  |cons x l ih=>intro k e;obtain⟨o,p⟩:=x;simp only[envS,hlist,cond_false];exact ih _ _
 have hC0:ig (Lst (Array.replicate ops.size false)) E C=C:=by
  have:∀(E:Eff) (C:Ctx),ig (Lst (Array.replicate ops.size false)) E C=C:=by
   intro E
   induction E with
   |nil=>intro C;rfl
   |cons x E ih=>intro C;obtain⟨k,ci,X⟩:=x;simp only[ig,hlist,cond_false];exact ih _
  exact this E C
 have hfinal:=any_orderE (P:=P) (n:=n) (T:=T) (s0:=s0) (K:=K) (C:=C) (E:=E) D hb h1 hE1 hE2 (fun x hx=>by have:=List.all_eq_true.1 hE3 x hx;simpa [Nat.blt_eq] using this)
  (fun i o p hi hp=>by have:=h3 i o p hi hp;rwa [Nat.zero_add]at this) h2 ops.size (Array.replicate ops.size false) (List.range ops.size) a ⟨{s.w with drawn:=s.w.drawn+1},s.F⟩ (by simp) (by simp) List.nodup_range
  (fun i=>by rw[List.mem_range];simp[hlist i]) (fun i o _ hS=>by rw[hlist i]at hS;cases hS) (by rw[hnone];exact he.mono (hc.pureLe hg.wf)) (by rw[hC0];exact hg.calm hc)
 simpa using hfinal
theorem de {env:Env} {C:Ctx} {ty:TypeId} {pos:String} {after:Array Edge} (i:Nat) {α β:Type} {R:Rp α} {R':Rp β} {g:α->β->α} {a:α} {y:β} {b off:Nat} {t:TypeId} {x v:Operand} (ht:∀w,(sizeOf t).run P w= .ok R'.size w) (hupd:Upd R off R' g)
  (hi:C[i]? =some (Own.box b R a)) (hx:env.op x=ap b off:=by exact rfl) (hv:env.op v=R'.val y:=by exact rfl):
  SStep P T s0 C ⟨none,.store t x v,ty,pos,after,none⟩ env (C.set i (Own.box b R (g a y))):=by
 intro s ρ hg he
 have h0:ρ x= .pointer (some ⟨b,off,none⟩):=by have:=he x mem2a;rw[hx]at this;exact this
 have h1:=he v mem2b
 rw[hv]at h1
 obtain⟨c1,hc1,_,hcells⟩:=R'.cells h1
 obtain⟨o,ho,c,T',hcc,hc⟩:=hg.get hi rfl
 obtain rfl:o= .cells c T' (0,0):=by simpa using hcc
 obtain⟨hle,hnew⟩:=hupd _ _ _ _ _ hc hc1
 have hl1:=R'.len hc1
 have hst:=storeVar_at (P:=P) (t:=t) (off:=off) (v:=ρ v) ho hcells (by rw[hl1];simpa using hle) (R'.flat hc1) (by rw[hl1];exact ht)
 have hxm:=List.mem_of_getElem? hi
 have hown:=hg.has.own b (ij hxm rfl)
 have hm:=mod_setRow (c':=(c.toList.take off++c1++c.toList.drop (off+c1.length)).toArray) hg.wf hown.1 ho
 refine⟨⟨_,s.F⟩,by simp[execOp,Instr.storeAt,Instr.sureAddr,h0,hst],hm.le hg.wf (fun b' hb' hF=>hown.1 (by cases hb';exact hF)),hg.setOne hi rfl hm ?_ ?_⟩
 ·refine⟨_,T',?_,R.mono (hm.le hg.wf (fun b' hb' hF=>hown.1 (by cases hb';exact hF))) hnew⟩
  simp only[Own.box,Option.bind_some]
  exact setRow_heap s.w b c _ T' _ ho
 ·intro b' hb'
  cases hb'
  exact⟨.inl rfl,by simpa using hown.2⟩
end
end Go.Cn
set_option linter.unusedSectionVars false
namespace Go.Cn
open Go.RowKit (Below)
variable [Glob]
def OpensN (k:Nat) (P:Program) (t:TypeId) {α:Type} (R:Rp α):Prop:=
 P.cellsOf t=R.size/\∀(H:Type) (enc:TypeId × Value->H) (s:St) (sp:Nat->Bool) (hd:Bool) (fuel:Nat),fuel<k->∀(cs:List Value) (x:DataW H × List MemPlace),AllF s->DataW.trod enc P s.w 0 sp hd fuel t cs=some x->∃a:α,R.c s a cs
section
variable {P:Program} {t:TypeId}
theorem Opens.n {α:Type} {R:Rp α} (h:Opens P t R) (k:Nat):OpensN k P t R:=⟨h.1,fun H enc s sp hd fuel _ cs x=>h.2 H enc s sp hd fuel cs x⟩
end
end Go.Cn
set_option linter.unusedSectionVars false
namespace Go.Cn
open Go.RowKit (Below)
open Go.MapKept
variable [Glob]
def Rp.mapO:Rp (Option Nat):=Rp.lit (fun b=> .map b) (fun _=>rfl)
def Pr.mapS {β:Type} (R:Rp β) (m:SMap β):Pr:=
  ⟨fun s v=>∃b es ck,v= .map (some b)/\s.F b/\s.w.heap[b]? =some (.map es ck)/\mapC R s m es.toList,
   fun h ⟨b,es,ck,h1,h2,h3,h4⟩=>⟨b,es,ck,h1,h.fin _ h2,(h.blk _ h2).trans h3,h4.mono h⟩⟩
def Rp.mapS {β:Type} (R:Rp β):Rp (SMap β) where
 size:=1
 agg:=false
 val:=Pr.mapS R
 c:=fun s m cs=>∃v,cs=[v]/\(Pr.mapS R m).p s v
 mono:=fun h ⟨v,h1,h2⟩=>⟨v,h1,(Pr.mapS R _).mono h h2⟩
 len:=fun⟨v,h1,_⟩=>by rw[h1];rfl
 flat:=fun⟨v,h1,b,_,_,h2,_⟩ u hu=>by rw[h1]at hu;simp at hu;rw[hu,h2];rfl
 one:=fun _=>rfl
 spec:=fun {s l v}=>⟨fun h=>⟨[v],⟨v,rfl,h⟩,rfl⟩,fun⟨cs,⟨u,h1,h2⟩,h3⟩=>by rw[h1]at h3;simp[pack]at h3;rw[h3];exact h2⟩
theorem mget_of_not {β:Type} {k:List UInt8} {z:β}:∀{m:SMap β},mhas k m=false->mget k z m=z
  | [],_=>rfl
  | (j, v) :: m, hh => by
    by_cases hj:j=k
    · simp[mhas,hj]at hh
    · simp only[mhas,if_neg hj]at hh
      simp[mget,hj,mget_of_not hh]
theorem mget_mset {β:Type} (k j:List UInt8) (z v:β):∀m:SMap β,mget k z (mset j v m)=if j=k then v else mget k z m
  | []=>by simp[mset,mget]
  | (i, u) :: m => by
    by_cases h:i=j
    · subst h
      by_cases hk:i=k<;>simp[mset,mget,hk]
    · by_cases hk:i=k
      · subst hk
        have hji:¬j=i:=fun e=>h e.symm
        simp[mset,mget,h,hji]
      · simp[mset,mget,h,hk,mget_mset k j z v m]
section
variable {P:Program} {n:Fm} {T:Nat->Prop} {s0:St} {all:List Oper} {K:Exit->Env->Ctx->Prop} {r:List Oper} {env:Env} {C:Ctx}
variable {d:Nat} {ty:TypeId} {pos:String} {after:Array Edge}
theorem qMapGetS {β:Type} {R:Rp β} {m:SMap β} {kx:List UInt8} {z:β} {zv:Value} {t kt et:TypeId} {x y:Operand} {dd:Option Nat} {gd:Option (Nat × Bool)} (ht:P.underlying t=some (.map kt et)) (hk:P.underlying kt=some .string) (hz:∀w,(zeroValue et).run P w= .ok zv w) (hzv:∀s,(R.val z).p s zv)
  (hx:env.op x=Pr.mapS R m:=by exact rfl) (hy:env.op y=ai kx:=by exact rfl):Q P C ⟨dd,.lookup t x y false,ty,pos,after,gd⟩ env (R.val (mget kx z m)):=by
 intro s ρ hs hh h
 have h0:=h x mem2a
 rw[hx]at h0
 obtain⟨b,es,ck,h0,_,ho,hm⟩:=h0
 have h1:ρ y= .string (bs kx):=by have:=h y mem2b;rw[hy]at this;exact this
 have hck:=run_checkKey (w:=s.w) hk (k:= .string (bs kx)) (by simp[IsKey]) es.isEmpty 9999
 rcases find_map kx 0 hm with⟨g1,g2⟩|⟨g1,j,e,g2,g3,g4,g5,g6⟩
 ·have hf:=run_findKey (w:=s.w) hk g2
  rw[mget_of_not g1]
  exact .of_run hs (v:=zv) (by simp[execOp,Instr.lookup,ek ht,h0,h1,Go.MapKept.run_getObj_map ho,hck,hf,hz]) (hzv s)
 ·have hf:=run_findKey (w:=s.w) hk g2
  exact .of_run hs (v:=e.val) (by simp[execOp,Instr.lookup,ek ht,h0,h1,Go.MapKept.run_getObj_map ho,hck,hf]) (g5 z)
theorem W_relMap (t:Nat) {β:Type} {R:Rp β} {m:SMap β} {b b':Nat} {c:Code} {K:Exit->Env->Ctx->Prop} (k:W P n T s0 c (env.put t (bj (Rp.mapS R) m)) [] K) (ht:env t=ap b' 0:=by exact rfl):
  W P n T s0 c env [Own.smap b R m,Own.box b' Rp.mapO (some b)] K:=by
 intro a s he hg
 obtain⟨o,ho,es,ck,h1,hm⟩:=hg.get (i:=0) (b:=b) rfl rfl
 obtain rfl:o= .map es ck:=by simpa using h1
 obtain⟨o',ho',cs,ty',h2,hcs⟩:=hg.get (i:=1) (b:=b') rfl rfl
 obtain rfl:o'= .cells cs ty' (0,0):=by simpa using h2
 have hcs:cs.toList=[.map (some b)]:=hcs
 obtain⟨g1,l1⟩:=hg.release (i:=0) rfl
 obtain⟨g2,l2⟩:=g1.release (i:=0) rfl
 have hle:=l1.trans l2
 refine k a ⟨s.w,fun b2=>(s.F b2\/(Own.smap b R m).blk=some b2)\/(Own.box b' Rp.mapO (some b)).blk=some b2⟩ ⟨fun t'=> ?_,he.size,he.nod⟩ g2
 by_cases htt:t'=t
 ·subst htt
  have h0:=he.at_ t'
  rw[ht]at h0
  have h0:a.tmps.getD t' undef= .pointer (some ⟨b',0,none⟩):=h0
  have hput:env.put t' (bj (Rp.mapS R) m) t'=bj (Rp.mapS R) m:=by simp[Env.put]
  rw[hput,h0]
  refine⟨_,_,rfl,⟨.map (some b),rfl,b,es,ck,rfl,.inl (.inr rfl),ho,hm.mono hle⟩,rfl,.inr rfl,cs,ty',(0,0),ho',fun j v hj=> ?_⟩
  have:cs[0+j]? =cs.toList[j]? :=by simp
  rw[this,hcs]
  exact hj
 ·have hput:env.put t (bj (Rp.mapS R) m) t'=env t':=by
   unfold Env.put
   cases hb:Nat.beq t' t with
   |true=>exact absurd (Nat.eq_of_beq_eq_true hb) htt
   |false=>rfl
  rw[hput]
  exact(env t').mono hle (he.at_ t')
theorem dx {id:Nat} {ops:Array Oper} {K:Exit->Env->Ctx->Prop} (E:Eff) (Cx:Ctx) (hm:P.follows .mixedOrders=true) (hD:drawOK ops.toList ops.toList.length=true) (hb:slotsIn n ops.toList=true) (hE1:(E.map (·.1)).Nodup) (hE2:(E.map (·.2.1)).Nodup) (hE3:(E.all fun x=>Nat.blt x.1 ops.toList.length)=true) (hCx:ig (fun _=>true) E C=Cx)
  (h:ERun P T s0 C ops.toList E 0 ops.toList env (fun e=>K .normal e Cx)):W P n T s0 (.region id ops true) env C K:=by
 subst hCx
 exact W_drawE E hm hD hb hE1 hE2 hE3 h
end
end Go.Cn
set_option linter.unusedSectionVars false
namespace Go.Cn
variable [Glob]
abbrev Slc :=Option Addr × Nat × Nat
def slc (x:Slc):Value:= .slice x.1 x.2.1 x.2.2
def f7 :Rp Slc:=Rp.lit Go.Cn.slc (fun _=>rfl)
structure Grid {α:Type} (R:Rp α) (e5 e:TypeId) (v5:Value) (xs:List Slc) (L:List (List α)) (pos:Nat->Nat) (lo:Nat) (C:Ctx):Prop where
 top:C[0]? =some (Own.vec v5 f7 xs e5)
 len:xs.length=L.length
 row:∀i,lo<=i->i<L.length->∃x l,xs[i]? =some x/\L[i]? =some l/\C[pos i]? =some (Own.vec (slc x) R l e)
section
variable {P:Program} {n:Fm} {T:Nat->Prop} {s0:St} {all:List Oper} {K:Exit->Env->Ctx->Prop} {r:List Oper} {env:Env} {C:Ctx}
theorem vec_slc {α:Type} {R:Rp α} {l:List α} {v:Value} {e:TypeId} {i:Nat} {s:St} (hg:Good T s0 s C) (hi:C[i]? =some (Own.vec v R l e)):∃x,v=slc x:=by
 have hp:=hg.has.at_ _ (List.mem_of_getElem? hi)
 rcases hp with⟨rfl,_⟩|⟨g,cap,_,_,rfl,_⟩
 ·exact⟨(none,0,0),rfl⟩
 ·exact⟨(some ⟨g,0,none⟩,l.length,cap),rfl⟩
theorem rSl (i:Nat) {α:Type} {R:Rp α} {l:List α} {v:Value} {e:TypeId} {o:Oper} (hi:C[i]? =some (Own.vec v R l e)) (k:∀x,v=slc x->Run P n T s0 all K (o::r) env C) (ho:o.guard=none:=by exact rfl):Run P n T s0 all K (o::r) env C:=by
 have h:(∀x,v=slc x->Run P n T s0 all K (o::r) env C)->Run P n T s0 all K (o::r) env C:=by
  intro k
  unfold Run at k ⊢
  rw[ho]at k ⊢
  intro hd a s he hg
  obtain⟨x,hx⟩:=vec_slc hg hi
  exact k x hx hd a s he hg
 exact h k
theorem Good.releaseAll {s:St}:∀(C:Ctx) (s:St),Good T s0 s C->∃F',(∀b,F' b↔s.F b\/∃x∈C,x.blk=some b)/\Good T s0 ⟨s.w,F'⟩ []/\s.Le ⟨s.w,F'⟩
 | [],s,hg=>⟨s.F,fun b=>by simp,hg,.refl s⟩
 |x::C,s,hg=>by
  obtain⟨h1,l1⟩:=hg.release (i:=0) rfl
  obtain⟨F',h2,h3,l2⟩:=Good.releaseAll (s:=s) C _ h1
  refine⟨F',fun b=> ?_,h3,l1.trans l2⟩
  rw[h2 b]
  simp only[List.mem_cons,exists_eq_or_imp]
  exact or_assoc
theorem W_relGrid (t:Nat) {α:Type} {R:Rp α} {e5 e:TypeId} {v5:Value} {xs:List Slc} {L:List (List α)} {pos:Nat->Nat} {c:Code} (hG:Grid R e5 e v5 xs L pos 0 C) (ht:(env t).le (Pr.is v5)) (k:W P n T s0 c (envOf [(t,aj (a9 R) L)]) [] K):W P n T s0 c env C K:=by
 intro a s he hg
 obtain⟨F',h1,h2,h3⟩:=Good.releaseAll (s:=s) C s hg
 have up:∀{β:Type} {R:Rp β} {l:List β} {v:Value} {e:TypeId} {i:Nat},C[i]? =some (Own.vec v R l e)->lstP R l ⟨s.w,F'⟩ v:=by
  intro β R l v e i hi
  refine(aj R l).mono (s:=⟨s.w,fun b=>s.F b\/(Own.vec v R l e).blk=some b⟩) ⟨fun b hb=>(h1 b).2 (hb.imp id (fun h=>⟨_,List.mem_of_getElem? hi,h⟩)),fun _ _=>rfl⟩ (vec_lst hg hi)
 refine k a ⟨s.w,F'⟩ ⟨fun t'=> ?_,he.size,he.nod⟩ h2
 unfold envOf
 cases hb:Nat.beq t' t with
 |false=>exact trivial
 |true=>
  obtain rfl:=Nat.eq_of_beq_eq_true hb
  have h0:a.tmps.getD t' undef=v5:=ht s _ (he.at_ t')
  simp only[cond_true]
  rw[h0]
  obtain⟨ad,cap,hv,hcap,hrow⟩:=up hG.top
  rw[hG.len]at hv hcap
  refine⟨ad,cap,hv,hcap,?_⟩
  rcases hrow with rfl|⟨ad',rfl,hsp,hrow⟩
  ·left
   have:=hG.len
   exact List.eq_nil_of_length_eq_zero this.symm
  ·refine .inr ⟨ad',rfl,hsp,fun j l hj=> ?_⟩
   obtain⟨x,l',g1,g2,g3⟩:=hG.row j (Nat.zero_le _) (List.getElem?_eq_some_iff.1 hj).1
   obtain rfl:l'=l:=Option.some.inj (g2.symm.trans hj)
   obtain⟨cs,h4,h5⟩:=hrow j x g1
   obtain rfl:cs=[slc x]:=h4
   exact⟨[slc x],⟨slc x,rfl,up g3⟩,h5⟩
end
end Go.Cn
set_option linter.unusedSectionVars false
set_option linter.unusedSimpArgs false
namespace Go.Cn
open Go.RowKit (Below)
variable [Glob]
structure YI (σ:Type) where
 p:σ->List Nat->St->Prop
 mono:∀{x:σ} {L:List Nat} {s t:St},s.Le t->(∀b∈L,t.w.heap[b]? =s.w.heap[b]?)->p x L s->p x L t
section
variable {P:Program} {n:Fm} {T:Nat->Prop} {s0:St} {all:List Oper} {K:Exit->Env->Ctx->Prop} {r:List Oper} {env:Env} {C:Ctx}
variable {ty:TypeId} {pos:String} {after:Array Edge}
theorem Has.putObj {s:St} {C:Ctx} {l:Nat} {o:Obj} (h:Has s C) (hF:¬s.F l) (hl:l ∉ dl C):Has ⟨s.w.putObj l o,s.F⟩ C where
 nodup:=h.nodup
 at_:=fun x hx=>Own.stay (s:=s) (t:=⟨s.w.putObj l o,s.F⟩) ⟨fun _ h=>h,fun b hb=>World.putObj_heap_other (fun e=>by subst e;exact hF hb)⟩ (fun b hb=>World.putObj_heap_other (fun e=>by subst e;exact hl (List.mem_flatMap.2 ⟨x,hx,hb⟩))) (h.at_ x hx)
 own:=fun b hb=>by simpa using h.own b hb
end
end Go.Cn
set_option linter.unusedSectionVars false
set_option maxRecDepth 20000
namespace Go.Cn
variable [Glob]
def Own.nil:Own:=⟨none,[],fun _ _=>True,fun _ _ h=>h⟩
section
variable {P:Program} {n:Fm} {T:Nat->Prop} {s0:St}
def isBef (ops:List Oper) (j i:Nat):Bool:=((lb ops []).getD j 0).testBit i&& !(Nat.beq i j)
def isAft (ops:List Oper) (j i:Nat):Bool:=Nat.blt i ops.length&&((lb ops []).getD i 0).testBit j
structure Kn (ops:List Oper) (S:Nat->Bool) (j:Nat):Prop where
 me:S j=false
 T:∀i,isBef ops j i=true->S i=true
 F:∀i,isAft ops j i=true->S i=false
section
variable {ops:List Oper} {CC:(Nat->Nat)->(Nat->Bool)->Ctx} {kd:Nat->Nat} {B:Nat->Nat} {k:Nat} {o:Oper} {r:List Oper} {e:Env} {K:Env->Prop} {ps:List Pr}
theorem SStep.as {C C' C'':Ctx} (h:SStep P T s0 C o e C') (he:C'=C''):SStep P T s0 C o e C'':=he▸h
end
end
end Go.Cn
set_option linter.unusedSectionVars false
namespace Go.Cn
variable [Glob]
def Rp.arr {α:Type} (n:Nat) (R:Rp α):Rp (List α) where
 size:=n * R.size
 agg:=true
 val:=fun l=>⟨fun s v=>∃cs,(l.length=n/\rowC R s l cs)/\v=pack true cs,fun h ⟨cs,⟨h1,h2⟩,h3⟩=>⟨cs,⟨h1,h2.mono h⟩,h3⟩⟩
 c:=fun s l cs=>l.length=n/\rowC R s l cs
 mono:=fun h ⟨h1,h2⟩=>⟨h1,h2.mono h⟩
 len:=fun⟨h1,h2⟩=>by rw[h2.len,h1]
 flat:=fun⟨_,h2⟩=>h2.flat
 one:=fun h=>by cases h
 spec:=Iff.rfl
theorem Sub.arr {α:Type} {n:Nat} {R:Rp α} {i:Nat} (z:α) (h:i<n):Sub (Rp.arr n R) (i * R.size) R (fun l=>l.getD i z):=by
 rintro s l cs ⟨h1,h2⟩
 have hi:l[i]? =some (l.getD i z):=by
  have:i<l.length:=by omega
  simp[List.getD,this]
 exact h2.get hi
theorem Upd.arr {α:Type} {n:Nat} {R:Rp α} {i:Nat} (h:i<n):Upd (Rp.arr n R) (i * R.size) R (fun l y=>l.set i y):=by
 rintro s l y cs c1 ⟨h1,h2⟩ k
 have hi:l[i]? =some l[i]:=by simp[h1,h]
 obtain⟨A,E,B,x1,x2,x3,x4⟩:=h2.split hi
 have hE:=R.len x3
 have hk:=R.len k
 have hcs:=h2.len
 subst x1
 simp only[List.length_append]at hcs
 have hm:(i+1) * R.size<=n * R.size:=Nat.mul_le_mul_right _ h
 have hm1:(i+1) * R.size=i * R.size+R.size:=Nat.succ_mul ..
 refine⟨by simp only[List.length_append];rw[h1]at hcs;omega,by rw[List.length_set];exact h1,?_⟩
 have t1:(A++(E++B)).take (i * R.size)=A:=by rw[← x2,List.take_left]
 have t2:(A++(E++B)).drop (i * R.size+c1.length)=B:=by
  rw[← x2,hk,← hE,← List.drop_drop,List.drop_left,List.drop_left]
 rw[t1,t2,List.append_assoc]
 exact x4 s y c1 (.refl s) k
def Rp.fn {α:Type} (p:α->Pr) (h1:∀s x v,(p x).p s v->v.oneCell'=true):Rp α where
 size:=1
 agg:=false
 val:=p
 c:=fun s x cs=>∃v,cs=[v]/\(p x).p s v
 mono:=fun h ⟨v,h1,h2⟩=>⟨v,h1,(p _).mono h h2⟩
 len:=fun⟨v,h1,_⟩=>by rw[h1];rfl
 flat:=fun {s x cs} ⟨v,h2,h3⟩ u hu=>by rw[h2]at hu;simp at hu;rw[hu];exact h1 _ _ _ h3
 one:=fun _=>rfl
 spec:=fun {s x v}=>⟨fun h=>⟨[v],⟨v,rfl,h⟩,rfl⟩,fun⟨cs,⟨u,h2,h3⟩,hv⟩=>by rw[h2]at hv;rw[hv];exact h3⟩
section
variable {P:Program} {n:Fm} {T:Nat->Prop} {s0:St} {env:Env} {C:Ctx} {ty:TypeId} {pos:String} {after:Array Edge} {dd:Option Nat} {gd:Option (Nat × Bool)}
theorem Q.as {o:Oper} {p q:Pr} (h:Q P C o env p) (e:p=q):Q P C o env q:=e▸h
end
end Go.Cn
set_option linter.unusedSectionVars false
namespace Go.Cn
open Go.RowKit (Below)
variable [Glob]
section
variable {P:Program} {n:Fm} {T:Nat->Prop} {s0:St} {all:List Oper} {K:Exit->Env->Ctx->Prop} {r:List Oper} {env:Env} {C:Ctx}
variable {d:Option Nat} {ty:TypeId} {pos:String} {after:Array Edge} {gd:Option (Nat × Bool)}
theorem lend_lst {α:Type} {R:Rp α} {l:List α} {v:Value} {e:TypeId} {i:Nat} {s:St} (hs:s.WF) (hh:Has s C) (hi:C[i]? =some (Own.vec v R l e)):
  St.WF ⟨s.w,fun b=>s.F b\/(Own.vec v R l e).blk=some b⟩/\lstP R l ⟨s.w,fun b=>s.F b\/(Own.vec v R l e).blk=some b⟩ v:=by
 have hle:s.Le ⟨s.w,fun b=>s.F b\/(Own.vec v R l e).blk=some b⟩:=⟨fun _ h=> .inl h,fun _ _=>rfl⟩
 refine⟨⟨fun b hF=>hF.elim (hs.lt b) (fun h=>(hh.own b (ij (List.mem_of_getElem? hi) h)).2),Glob.mono s _ hle hs.glob⟩,?_⟩
 have hp:=hh.at_ _ (List.mem_of_getElem? hi)
 rcases hp with⟨rfl,rfl⟩|⟨g,cap,cur,xs,rfl,ho,h3,h4,h5,h6,h7⟩
 ·exact⟨none,0,rfl,⟨Nat.le_refl _,fun _=>rfl⟩,.inl rfl⟩
 ·refine⟨some ⟨g,0,none⟩,cap,rfl,⟨h3,fun h=>by cases h⟩,.inr ⟨_,rfl,rfl,fun j x hj=> ?_⟩⟩
  simp only[Own.vec,Value.ownBlock,Option.map_some,Option.bind_some]at ho
  have hc:=h7.get hj
  refine⟨_,R.mono ⟨fun _ h=> .inl h,fun _ _=>rfl⟩ hc,rfl,.inr rfl,cur,e,(0,0),ho,fun k u hk=> ?_⟩
  rw[List.getElem?_take]at hk
  split at hk
  ·rw[List.getElem?_drop,← h6,List.getElem?_take]at hk
   split at hk
   ·simpa using hk
   ·cases hk
  ·cases hk
def LendAll (v:Value) (L:Pr):List Pr->List Pr->Prop
 | [],[]=>True
 |p::ps,q::qs=>(p.le q\/(p.le (Pr.is v)/\q=L))/\LendAll v L ps qs
 |_,_=>False
theorem LendAll.allP {s:St} {v:Value} {L:Pr} (hL:L.p s v):∀{ps qs:List Pr} {vs:List Value},LendAll v L ps qs->AllP s ps vs->AllP s qs vs
 | [],[],[],_,_=>trivial
 |_::_,_::_,u::_,h,k=>⟨h.1.elim (fun h1=>h1 _ _ k.1) (fun⟨h1,h2⟩=>by have h3:u=v:=h1 _ _ k.1;rw[h2,h3];exact hL),LendAll.allP hL h.2 k.2⟩
 | [],[],_::_,_,k=>k.elim
 |_::_,_::_,[],_,k=>k.elim
 | [],_::_,_,h,_=>h.elim
 |_::_,[],_,h,_=>h.elim
theorem qCallB (i:Nat) {α:Type} {R:Rp α} {l:List α} {v:Value} {e:TypeId} {f:FuncId} {xs:Array Operand} {tys:Array TypeId} {args:List Pr} {res:Pr} (hf:FnP P f args res) (hx:LendAll v (aj R l) (xs.toList.map env.op) args)
  (hflat:∀s t u,res.p s u->res.p t u) (hi:C[i]? =some (Own.vec v R l e):=by exact rfl):Q P C ⟨d,.call ⟨.value (.func f),xs,tys⟩,ty,pos,after,gd⟩ env res:=by
 intro s ρ hs hh h
 obtain⟨hwf,hl⟩:=lend_lst hs hh hi
 have hle:s.Le ⟨s.w,fun b=>s.F b\/(Own.vec v R l e).blk=some b⟩:=⟨fun _ h=> .inl h,fun _ _=>rfl⟩
 have h0:ρ (.func f)= .func (.func f) #[] #[]:=h (.func f) (by simp[Op.operands,Call.operands])
 have hall:=LendAll.allP hl hx ((allP_ops fun x hx'=>h x (by simp[Op.operands,Call.operands,Array.mem_def,hx'])).mono hle)
 have hr:(execOp ρ ⟨d,.call ⟨.value (.func f),xs,tys⟩,ty,pos,after,gd⟩).run P s.w= .ok (.enter f (xs.toList.map ρ).toArray) s.w:=by
  cases xs
  simp[execOp,resolve,invoke,Deferred.ofValue,h0,run_callFunc hf.enters]
 rw[hr]
 refine⟨rfl,(hf.calls _ _ hwf hall).mono ?_⟩
 rintro e' w' ⟨u,F',rfl,hc,hp⟩
 exact⟨u,s.F,rfl,Calm.of_below hc.below hs,hflat _ _ _ hp⟩
end
end Go.Cn
set_option linter.unusedSectionVars false
namespace Go.Cn
open Go.RowKit (Below)
variable [Glob]
theorem rowC.take {α:Type} {R:Rp α} {s:St}:∀(k:Nat) {l:List α} {xs:List Value},rowC R s l xs->rowC R s (l.take k) (xs.take (k * R.size))
 | 0,l,xs,_=>by simp only[List.take_zero,Nat.zero_mul];exact rfl
 |k+1,[],xs,h=>by obtain rfl:xs=[]:=h;simp only[List.take_nil];exact rfl
 |k+1,x::l,xs,⟨c1,c2,h1,h2,h3⟩=>by
  have hl:=R.len h2
  subst h1
  refine⟨c1,c2.take (k * R.size),?_,h2,rowC.take k h3⟩
  rw[Nat.add_mul,Nat.one_mul,Nat.add_comm,← hl,List.take_length_add_append]
section
variable {P:Program} {n:Fm} {T:Nat->Prop} {s0:St} {all:List Oper} {K:Exit->Env->Ctx->Prop} {r:List Oper} {env:Env} {C:Ctx}
variable {d:Option Nat} {ty:TypeId} {pos:String} {after:Array Edge} {gd:Option (Nat × Bool)}
end
end Go.Cn
set_option linter.unusedSectionVars false
namespace Go.Cn
open Go.RowKit (Below)
variable [Glob]
section
variable {P:Program} {n:Fm} {T:Nat->Prop} {s0:St} {all:List Oper} {K:Exit->Env->Ctx->Prop} {r:List Oper} {env:Env} {C:Ctx}
variable {d:Option Nat} {ty:TypeId} {pos:String} {after:Array Edge} {gd:Option (Nat × Bool)}
end
end Go.Cn
