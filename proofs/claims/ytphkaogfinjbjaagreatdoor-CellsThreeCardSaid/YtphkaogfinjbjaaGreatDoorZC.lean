/- Cells: any three texts, and any three orders. -/
import Derived.Test.YtphkaogfinjbjaaGreatDoorZN
set_option linter.unusedSimpArgs false
set_option linter.unusedVariables false
set_option linter.unusedSectionVars false
set_option linter.unusedSectionVars false
set_option linter.unusedSimpArgs false
set_option linter.unusedVariables false
namespace Go.Proofs.YtphkaogfinjbjaaGreatDoor
open Go Go.Cn
def getM :List ApiSegment->List UInt8->Option (List UInt8)
 | [],_=>none
 |s::l,k=>if s.Key=k then some s.Text else getM l k
theorem getM_mem :∀{l:List ApiSegment} {k t:List UInt8},getM l k=some t->⟨k,t⟩∈l
 |s::l,k,t,h=>by
  unfold getM at h
  split at h
  ·rename_i hk
   cases h
   subst hk
   exact List.mem_cons_self
  ·exact List.mem_cons_of_mem _ (getM_mem h)
def thereT :List UInt8:=[116,104,101,114,101]
def cellM :Option (List UInt8)->List (List UInt8)
 |none=>[[],[]]
 |some t=>[thereT,t]
theorem cellM_inj {x y:Option (List UInt8)}:cellM x=cellM y↔x=y:=by
 cases x<;>cases y<;>simp[cellM,thereT]
theorem there_eq (x:Option (List UInt8)):ff (cellM x)=some x.isSome:=by cases x<;>rfl
theorem of_eq (t:List UInt8) (b:Bool):cells_of t b=some (cellM (if b then some t else none)):=by cases b<;>rfl
theorem ref30_has_eq {l:List (List UInt8)} (hl:l.length<=1000000000) (s:List UInt8):ref30_has l s=some (decide (s∈l)):=by
 have key:∀n i,i+n=l.length->iter (fun j=>il l s j) (i:Int)=some (if s∈l.drop i then Flow.done true else Flow.next ()):=by
  intro n
  induction n with
  |zero=>
   intro i hi
   obtain rfl:i=l.length:=by omega
   rw[List.drop_length]
   refine @bu noG _ _ _ _ _ ?_
   unfold il
   rw[if_neg (by simp)]
   simp
  |succ n ih=>
   intro i hi
   have h1:i<l.length:=by omega
   rw[List.drop_eq_getElem_cons h1]
   by_cases hk:l[i]=s
   ·refine @bu noG _ _ _ _ _ ?_
    unfold il
    rw[if_pos (by simp;omega),bv h1]
    simp only[Option.bind_some]
    rw[if_pos (by simp[hk]),if_pos (by rw[hk];exact List.mem_cons_self)]
   ·rw[@c9 noG _ _ _ _ (((i+1:Nat):Int)) (by
     unfold il
     rw[if_pos (by simp;omega),bv h1]
     simp only[Option.bind_some]
     rw[if_neg (by simp[hk]),bt (by omega)]),ih (i+1) (by omega)]
    congr 1
    have:(s∈l[i]::l.drop (i+1))↔s∈l.drop (i+1):=by
     rw[List.mem_cons]
     exact⟨fun h=>h.resolve_left (Ne.symm hk),.inr⟩
    simp only[this]
 have:=key l.length 0 (by omega)
 have this:iter (fun j=>il l s j) 0=_:=this
 unfold ref30_has
 rw[this]
 simp only[Option.bind_some,List.drop_zero]
 by_cases h:s∈l
 ·simp[h]
 ·simp[h,ref30_has_k1]
def bz (l:List (List UInt8)):List (List UInt8):=l.foldl addK []
theorem cells_once_eq {l:List (List UInt8)} (hl:l.length<=1000000000):kc l=some (bz l):=by
 have key:=ij l (fun i (b:SMap Bool × List (List UInt8))=>((i:Int),b.1,b.2)) (step:=fun s=>ix l s.1 s.2.1 s.2.2) (fun b s=>(mset s true b.1,addK b.2 s)) (fun b=>(b.1,b.2)) (fun i b=>b.2.length<=i/\∀s,mget s false b.1=decide (s∈b.2)) (fun i h b hb=>by
  obtain⟨hb1,hb2⟩:=hb
  have hl2:=addK_len b.2 l[i]
  refine⟨?_,by simp only;omega,fun s=> ?_⟩
  ·unfold ix cells_once_j3
   rw[if_pos (by simp;omega),bv h]
   simp only[Option.bind_some,hb2]
   unfold addK
   by_cases hm:l[i]∈b.2
   ·rw[if_neg (by simp[hm]),if_pos hm,bt (by omega)]
   ·rw[if_pos (by simp[hm]),if_neg hm,g9 (by simp;omega) (by simp;omega)]
    simp only[Option.bind_some]
    rw[bt (by omega)]
  ·simp only
   rw[@mget_mset noG]
   have hmem:s∈addK b.2 l[i]↔(s∈b.2\/s=l[i]):=by
    unfold addK
    split
    ·rename_i hm
     exact⟨.inl,fun h=>h.elim id (fun e=>e▸hm)⟩
    ·simp
   by_cases he:l[i]=s
   ·rw[if_pos he]
    have:s∈addK b.2 l[i]:=hmem.2 (.inr he.symm)
    simp[this]
   ·rw[if_neg he,hb2]
    simp[hmem,Ne.symm he]) (fun b _=>by
  unfold ix
  rw[if_neg (by simp)]) (b0:=(([]:SMap Bool),[])) ⟨by simp,fun s=>by simp[mget]⟩
 have h2:∀(l:List (List UInt8)) (b:SMap Bool × List (List UInt8)),(l.foldl (fun b s=>(mset s true b.1,addK b.2 s)) b).2=l.foldl addK b.2:=by
  intro l
  induction l with
  |nil=>intro b;rfl
  |cons s l ih=>intro b;rw[List.foldl_cons,List.foldl_cons,ih]
 unfold kc
 have h3:iter (fun s=>ix l s.1 s.2.1 s.2.2) (0,([]:SMap Bool),[])=_:=key.1
 rw[h3]
 simp only[Option.bind_some,cells_once_k1,h2]
 rfl
theorem ref30_once_eq {l:List (List UInt8)} (hl:l.length<=1000000000):ob l=some (bz l):=by
 have key:=ij l (fun i (b:List (List UInt8))=>((i:Int),b)) (step:=fun s=>ir l s.1 s.2) addK (fun b=>b) (fun i b=>b.length<=i) (fun i h b hb=>by
  have hl2:=addK_len b l[i]
  refine⟨?_,by omega⟩
  unfold ir ref30_once_j3
  rw[if_pos (by simp;omega),bv h]
  simp only[Option.bind_some]
  rw[ref30_has_eq (by omega)]
  simp only[Option.bind_some]
  unfold addK
  by_cases hm:l[i]∈b
  ·rw[if_neg (by simp[hm]),if_pos hm,bt (by omega)]
  ·rw[if_pos (by simp[hm]),if_neg hm,g9 (by simp;omega) (by simp;omega)]
   simp only[Option.bind_some]
   rw[bt (by omega)]) (fun b _=>by
  unfold ir
  rw[if_neg (by simp)]) (b0:=[]) (Nat.le_refl _)
 unfold ob
 have h3:iter (fun s=>ir l s.1 s.2) (0,[])=_:=key.1
 rw[h3]
 rfl
def threeM (o a b:Option (List UInt8)):Option (List UInt8) × Int:=
 if a=b then(a,0)else if a=o then(b,0)else if b=o then(a,0)else if a=none\/b=none then(none,3)else
 if(textM (o.getD []) (a.getD []) (b.getD [])).2=true then(some (textM (o.getD []) (a.getD []) (b.getD [])).1,0)else(none,1)
def Short (n:Nat) (x:Option (List UInt8)):Prop:=(x.getD []).length<=n
theorem cell_text (x:Option (List UInt8)):List.getD (cellM x) 1 []=x.getD []:=by cases x<;>rfl
theorem cells_three_eq {o a b:Option (List UInt8)} (ho:Short 600 o) (ha:Short 600 a) (hb:Short 600 b):cells_three (cellM o) (cellM a) (cellM b)=some (cellM (threeM o a b).1,(threeM o a b).2):=by
 have h0:(List.replicate 2 []:List (List UInt8))=cellM none:=rfl
 have hj:a≠none->b≠none->ky (cellM o) (cellM a) (cellM b) false=some (if(textM (o.getD []) (a.getD []) (b.getD [])).2=true then(cellM (some (textM (o.getD []) (a.getD []) (b.getD [])).1),0)else(cellM none,1)):=fun _ _=>by
  unfold ky
  rw[if_neg (by simp),show ic 2 1=some 1 from rfl]
  simp only[Option.bind_some,cell_text]
  rw[weave_Text_eq ho ha hb]
  simp only[Option.bind_some,of_eq]
  cases (textM (o.getD []) (a.getD []) (b.getD [])).2 with
  |true=>simp
  |false=>simp[h0]
 unfold cells_three threeM
 simp only[cellM_inj,there_eq,Option.bind_some]
 by_cases h1:a=b
 ·rw[if_pos (by simpa using h1),if_pos h1]
 ·rw[if_neg (by simpa using h1),if_neg h1]
  by_cases h2:a=o
  ·rw[if_pos (by simpa using h2),if_pos h2]
  ·rw[if_neg (by simpa using h2),if_neg h2]
   by_cases h3:b=o
   ·rw[if_pos (by simpa using h3),if_pos h3]
   ·rw[if_neg (by simpa using h3),if_neg h3]
    cases a with
    |none=>rw[if_pos (by rfl),if_pos (.inl rfl)];rfl
    |some ta=>
     rw[if_neg (by simp)]
     cases b with
     |none=>rw[if_pos (.inr rfl)];rfl
     |some tb=>
      rw[if_neg (by simp),show(!(some tb).isSome)=false from rfl,hj (by simp) (by simp)]
      cases (textM (o.getD []) ((some ta).getD []) ((some tb).getD [])).2<;>rfl
def optM (t:List UInt8) (b:Bool):Option (List UInt8):=if b then some t else none
theorem optM_eq {a b:List UInt8} {y z:Bool}:(optM a y=optM b z)↔((y==z)&&((if y then a else[])==(if z then b else[])))=true:=by
 cases y<;>cases z<;>simp[optM]
theorem optM_get (a:List UInt8) (y:Bool):(optM a y).getD []=if y then a else[]:=by cases y<;>rfl
theorem optM_is (a:List UInt8) (y:Bool):(optM a y).isSome=y:=by cases y<;>rfl
theorem optM_none (a:List UInt8) (y:Bool):optM a y=none↔y=false:=by cases y<;>simp[optM]
theorem ref30_Three_eq {o a b:List UInt8} {x y z:Bool} (ho:o.length<=600) (ha:a.length<=600) (hb:b.length<=600):ref30_Three o a b x y z=some ((threeM (optM o x) (optM a y) (optM b z)).1.getD [],(threeM (optM o x) (optM a y) (optM b z)).1.isSome,(threeM (optM o x) (optM a y) (optM b z)).2):=by
 have hA:ref30_Three o a b x y z=i5 y z (if y then a else[]) x (if x then o else[]) (if z then b else[]):=by cases x<;>cases y<;>cases z<;>rfl
 rw[hA]
 have lo:(if x then o else[]).length<=600:=by cases x<;>simp[ho]
 have la:(if y then a else[]).length<=600:=by cases y<;>simp[ha]
 have lb:(if z then b else[]).length<=600:=by cases z<;>simp[hb]
 have h5:i5 y z (if y then a else[]) x (if x then o else[]) (if z then b else[])=gn (if y then a else[]) y x (if z then b else[]) z (if x then o else[]) ((y==z)&&((if y then a else[])==(if z then b else[]))):=by
  unfold i5
  cases (y==z)<;>simp
 rw[h5]
 unfold threeM
 by_cases h1:optM a y=optM b z
 ·rw[optM_eq.1 h1,if_pos h1]
  unfold gn
  rw[if_pos rfl]
  simp only[optM_get,optM_is]
 ·have n1:((y==z)&&((if y then a else[])==(if z then b else[])))=false:=by
   cases hc:((y==z)&&((if y then a else[])==(if z then b else[])))with
   |false=>rfl
   |true=>exact absurd (optM_eq.2 hc) h1
  rw[n1,if_neg h1]
  have h4:gn (if y then a else[]) y x (if z then b else[]) z (if x then o else[]) false=gp (if z then b else[]) z x (if y then a else[]) y (if x then o else[]) ((y==x)&&((if y then a else[])==(if x then o else[]))):=by
   unfold gn
   cases (y==x)<;>simp
  rw[h4]
  by_cases h2:optM a y=optM o x
  ·rw[optM_eq.1 h2,if_pos h2]
   unfold gp
   rw[if_pos rfl]
   simp only[optM_get,optM_is]
  ·have n2:((y==x)&&((if y then a else[])==(if x then o else[])))=false:=by
    cases hc:((y==x)&&((if y then a else[])==(if x then o else[])))with
    |false=>rfl
    |true=>exact absurd (optM_eq.2 hc) h2
   rw[n2,if_neg h2]
   have h3:gp (if z then b else[]) z x (if y then a else[]) y (if x then o else[]) false=i6 (if y then a else[]) y (if x then o else[]) (if z then b else[]) z ((z==x)&&((if z then b else[])==(if x then o else[]))):=by
    unfold gp
    cases (z==x)<;>simp
   rw[h3]
   by_cases h6:optM b z=optM o x
   ·rw[optM_eq.1 h6,if_pos h6]
    unfold i6
    rw[if_pos rfl]
    simp only[optM_get,optM_is]
   ·have n3:((z==x)&&((if z then b else[])==(if x then o else[])))=false:=by
     cases hc:((z==x)&&((if z then b else[])==(if x then o else[])))with
     |false=>rfl
     |true=>exact absurd (optM_eq.2 hc) h6
    rw[n3,if_neg h6]
    unfold i6 mo
    simp only[optM_none,optM_get]
    rw[ref08_Text_eq lo la lb]
    cases y with
    |false=>simp
    |true=>
     cases z with
     |false=>simp
     |true=>
      simp only[Bool.not_true,Bool.false_eq_true,if_false,if_true,Bool.true_eq_false,or_self,Option.bind_some]
      cases (textM (if x=true then o else[]) a b).2<;>simp
end Go.Proofs.YtphkaogfinjbjaaGreatDoor
set_option linter.unusedSectionVars false
set_option linter.unusedSimpArgs false
set_option linter.unusedVariables false
namespace Go.Proofs.YtphkaogfinjbjaaGreatDoor
open Go Go.Cn
structure Few (l:List ApiSegment):Prop where
 len:l.length<=1000
 short:∀s∈l,s.Text.length<=600
theorem Few.get {l:List ApiSegment} (h:Few l) (k:List UInt8):Short 600 (getM l k):=by
 unfold Short
 cases hg:getM l k with
 |none=>simp
 |some t=>exact h.short _ (getM_mem hg)
theorem onceM_len (l:List (List UInt8)):(bz l).length<=l.length:=by have:=addKs_len l [];unfold bz;simpa using this
end Go.Proofs.YtphkaogfinjbjaaGreatDoor
set_option linter.unusedSectionVars false
set_option linter.unusedSimpArgs false
set_option linter.unusedVariables false
namespace Go.Proofs.YtphkaogfinjbjaaGreatDoor
open Go Go.Cn
theorem find_first {l:List (List UInt8)} {p:List UInt8->Option Bool} {q:List UInt8->Bool} (hp:∀x∈l,p x=some (q x)) (hl:l.length<=1000000000):
  (∃i:Nat,i<l.length/\cv l p=some (i:Int)/\(l.take i).filter (fun x=> !q x)=l.take i/\∃h:i<l.length,q l[i]=true)\/(cv l p=some (-1)/\l.filter (fun x=> !q x)=l):=by
 have key:∀n i,i+n=l.length->(l.take i).filter (fun x=> !q x)=l.take i->
   (∃j:Nat,j<l.length/\iter (fun s=>a8 l p s) (i:Int)=some (Flow.done (j:Int))/\(l.take j).filter (fun x=> !q x)=l.take j/\∃h:j<l.length,q l[j]=true)\/(iter (fun s=>a8 l p s) (i:Int)=some (Flow.next ())/\l.filter (fun x=> !q x)=l):=by
  intro n
  induction n with
  |zero=>
   intro i hi hf
   obtain rfl:i=l.length:=by omega
   rw[List.take_length]at hf
   refine .inr ⟨@bu noG _ _ _ _ _ ?_,hf⟩
   unfold a8
   rw[if_neg (by simp)]
  |succ n ih=>
   intro i hi hf
   have h1:i<l.length:=by omega
   cases hq:q l[i]with
   |true=>
    refine .inl ⟨i,h1, @bu noG _ _ _ _ _ ?_,hf,h1,hq⟩
    unfold a8
    rw[if_pos (by simp;omega),bv h1]
    simp only[Option.bind_some]
    rw[hp _ (List.getElem_mem h1)]
    simp only[Option.bind_some]
    rw[if_pos hq]
   |false=>
    have hst:a8 l p (i:Int)=some (.inl (((i+1:Nat):Int))):=by
     unfold a8
     rw[if_pos (by simp;omega),bv h1]
     simp only[Option.bind_some]
     rw[hp _ (List.getElem_mem h1)]
     simp only[Option.bind_some]
     rw[if_neg (by simp[hq]),bt (by omega)]
    rw[@c9 noG _ _ _ _ _ hst]
    refine ih (i+1) (by omega) ?_
    rw[List.take_succ_eq_append_getElem h1,List.filter_append,hf]
    simp[hq]
 have:=key l.length 0 (by omega) (by simp)
 unfold cv
 rcases this with⟨j,h1,h2,h3,h4⟩|⟨h1,h2⟩
 ·have h2:iter (fun s=>a8 l p s) 0=_:=h2
  exact .inl ⟨j,h1,by rw[h2];rfl,h3,h4⟩
 ·have h1:iter (fun s=>a8 l p s) 0=_:=h1
  exact .inr ⟨by rw[h1];rfl,h2⟩
theorem DeleteFunc_eq {l:List (List UInt8)} {p:List UInt8->Option Bool} {q:List UInt8->Bool} (hp:∀x∈l,p x=some (q x)) (hl:l.length<=1000000000):bx p l=some (l.filter fun x=> !q x):=by
 unfold bx
 rcases find_first hp hl with⟨i0,h0,h1,h2,h3,h4⟩|⟨h1,h2⟩
 ·rw[h1]
  simp only[Option.bind_some]
  rw[if_neg (by simp),bt (by omega)]
  have key:∀n (i j:Nat) (m:List (List UInt8)),j+n=l.length->i<=j->m.length=l.length->m.take i=(l.take j).filter (fun x=> !q x)->m.drop j=l.drop j->
    ∃(i':Nat) (m':List (List UInt8)),iter (fun s:Int × Int × List (List UInt8)=>bd p s.1 s.2.1 s.2.2) ((i:Int),(j:Int),m)=some ((i':Int),m')/\i'<=l.length/\m'.length=l.length/\m'.take i'=l.filter (fun x=> !q x):=by
   intro n
   induction n with
   |zero=>
    intro i j m hj hij hm ht hd
    obtain rfl:j=l.length:=by omega
    rw[List.take_length]at ht
    refine⟨i,m, @bu noG _ _ _ _ _ ?_,hij,hm,ht⟩
    unfold bd
    rw[if_neg (by simp;omega)]
   |succ n ih=>
    intro i j m hj hij hm ht hd
    have hjl:j<l.length:=by omega
    have hjm:j<m.length:=by omega
    have hmj:m[j]=l[j]:=by
     have e1:m[j]? =l[j]? :=by
      have:=congrArg (fun x=>x[0]?) hd
      simpa using this
     rw[List.getElem?_eq_getElem hjm,List.getElem?_eq_getElem hjl]at e1
     exact Option.some.inj e1
    cases hq:q l[j]with
    |true=>
     have hst:bd p (i:Int) (j:Int) m=some (.inl ((i:Int),((j+1:Nat):Int),m)):=by
      unfold bd cg
      rw[if_pos (by simp;omega),bv hjm]
      simp only[Option.bind_some]
      rw[hmj,hp _ (List.getElem_mem hjl)]
      simp only[Option.bind_some]
      rw[if_neg (by simp[hq]),bt (by omega)]
     rw[@c9 noG _ _ _ _ ((i:Int),((j+1:Nat):Int),m) hst]
     refine ih i (j+1) m (by omega) (by omega) hm ?_ ?_
     ·rw[List.take_succ_eq_append_getElem hjl,List.filter_append,ht];simp[hq]
     ·rw[← List.drop_drop,hd,List.drop_drop]
    |false=>
     have hst:bd p (i:Int) (j:Int) m=some (.inl (((i+1:Nat):Int),((j+1:Nat):Int),m.set i l[j])):=by
      unfold bd cg
      rw[if_pos (by simp;omega),bv hjm]
      simp only[Option.bind_some]
      rw[hmj,hp _ (List.getElem_mem hjl)]
      simp only[Option.bind_some]
      rw[if_pos (by simp[hq]),bv (by omega)]
      simp only[Option.bind_some]
      rw[bt (by omega),bt (by omega),Int.toNat_natCast]
     rw[@c9 noG _ _ _ _ (((i+1:Nat):Int),((j+1:Nat):Int),m.set i l[j]) hst]
     refine ih (i+1) (j+1) _ (by omega) (by omega) (by simpa using hm) ?_ ?_
     ·rw[List.take_succ_eq_append_getElem hjl,List.filter_append,← ht]
      rw[List.take_succ_eq_append_getElem (by simp;omega)]
      simp only[List.getElem_set_self,hq,List.filter_cons,List.filter_nil,Bool.not_false,if_true]
      congr 1
      apply List.ext_getElem?
      intro k
      simp only[List.getElem?_take,List.getElem?_set]
      by_cases hk:k<i
      ·rw[if_pos hk,if_pos hk,if_neg (by omega)]
      ·rw[if_neg hk,if_neg hk]
     ·rw[List.drop_set_of_lt (by omega),← List.drop_drop,hd,List.drop_drop]
  obtain⟨i',m',e1,e2,e3,e4⟩:=key (l.length - (i0+1)) i0 (i0+1) l (by omega) (by omega) rfl (by
   rw[List.take_succ_eq_append_getElem h0,List.filter_append,h2]
   simp[h4]) rfl
  rw[e1]
  simp only[Option.bind_some]
  unfold dl
  rw[cut_eq (by omega) (by omega) (Int.le_refl _)]
  simp only[Option.bind_some,Int.toNat_natCast]
  rw[cut_eq (by omega) (by omega) (by simp;omega)]
  simp only[Option.bind_some]
  unfold cut3
  simp only[Int.toNat_natCast,Int.toNat_zero,List.drop_zero]
  rw[List.take_left' (by simp;omega),e4]
 ·rw[h1]
  simp only[Option.bind_some]
  rw[if_pos (by simp),h2]
def ld (o a b l:List (List UInt8)):List (List UInt8):=l.filter fun k=> !(decide (k∈o)&& !(decide (k∈a)&&decide (k∈b)))
theorem contains_eq {L:List (List UInt8)} {x:List UInt8} (h:L.length<=1000000000):bq L x=some (decide (x∈L)):=by
 rw[slices_Contains_eq (by omega)]
 simp
theorem cells_kept_eq {l o a b:List (List UInt8)} (hl:l.length<=1000000) (ho:o.length<=1000000) (ha:a.length<=1000000) (hb:b.length<=1000000):jr l o a b=some (ld o a b l):=by
 unfold jr ji
 rw[g9 (by simp;omega) (by simp;omega)]
 simp only[Option.bind_some,List.nil_append]
 rw[DeleteFunc_eq (q:=fun k=>decide (k∈o)&& !(decide (k∈a)&&decide (k∈b))) (fun x _=>by
  unfold lq f7
  rw[contains_eq (by omega),contains_eq (by omega),contains_eq (by omega)]
  simp only[Option.bind_some]
  cases decide (x∈o)<;>cases decide (x∈a)<;>cases decide (x∈b)<;>rfl) (by omega)]
 rfl
theorem ref30_kept_eq {l o a b:List (List UInt8)} (hl:l.length<=1000000) (ho:o.length<=1000000) (ha:a.length<=1000000) (hb:b.length<=1000000):ref30_kept l o a b=some (ld o a b l):=by
 have key:=ij l (fun i (m:List (List UInt8))=>((i:Int),m)) (step:=fun s=>iu l o a b s.1 s.2) (fun m k=>m++(if !(decide (k∈o)&& !(decide (k∈a)&&decide (k∈b)))then[k]else[])) (fun m=>m) (fun i m=>m.length<=i/\m=(l.take i).filter fun k=> !(decide (k∈o)&& !(decide (k∈a)&&decide (k∈b)))) (fun i h m hm=>by
  obtain⟨hm1,hm2⟩:=hm
  refine⟨?_,by split<;>simp<;>omega,?_⟩
  ·unfold iu
   rw[if_pos (by simp;omega),bv h]
   simp only[Option.bind_some]
   rw[ref30_has_eq (by omega),ref30_has_eq (by omega),ref30_has_eq (by omega)]
   simp only[Option.bind_some]
   have h4:∀c,jn l (i:Int) m c=some (.inl (((i+1:Nat):Int),m++if c then[l[i]]else[])):=fun c=>by
    unfold jn ref30_kept_j3
    cases c with
    |true=>
     rw[if_pos rfl,bv h]
     simp only[Option.bind_some]
     rw[g9 (by simp;omega) (by simp;omega)]
     simp only[Option.bind_some]
     rw[bt (by omega)]
     rfl
    |false=>rw[if_neg (by simp),bt (by omega)];simp
   simp only[h4]
   cases decide (l[i]∈o)<;>cases decide (l[i]∈a)<;>cases decide (l[i]∈b)<;>simp
  ·rw[List.take_succ_eq_append_getElem h,List.filter_append,← hm2]
   congr 1
   simp only[List.filter_cons,List.filter_nil]) (fun m _=>by
  unfold iu
  rw[if_neg (by simp)]) (b0:=[]) ⟨by simp,by simp⟩
 unfold ref30_kept
 have h3:iter (fun s=>iu l o a b s.1 s.2) (0,[])=_:=key.1
 rw[h3,key.2.2]
 simp[ref30_kept_k1,ld]
end Go.Proofs.YtphkaogfinjbjaaGreatDoor
set_option linter.unusedSectionVars false
set_option linter.unusedSimpArgs false
set_option linter.unusedVariables false
namespace Go.Proofs.YtphkaogfinjbjaaGreatDoor
open Go Go.Cn
def woStep (o a b:List (List UInt8)) (acc:List (List UInt8)) (p:Diff3Ends × Diff3Ends):List (List UInt8) ⊕ Unit:=
 let L:=cut3 a p.1.a p.2.a
 let R:=cut3 b p.1.b p.2.b
 let k:=kindOf (cut3 o p.1.o p.2.o) L R
 if k=2 then .inl (acc++R)else if k=4 then(if p.1.o<p.2.o then .inr ()else .inl (acc++L++R.filter fun x=> !decide (x∈L)))else .inl (acc++L)
def wovenM (o a b:List (List UInt8)):List (List UInt8) ⊕ Unit:=foldE (woStep o a b) (cm o a b) []
theorem woStep_len {o a b acc acc':List (List UInt8)} {p:Diff3Ends × Diff3Ends} (h:woStep o a b acc p= .inl acc'):acc'.length<=acc.length+a.length+b.length:=by
 have d2:=mi a p.1.a p.2.a
 have d3:=mi b p.1.b p.2.b
 unfold woStep at h
 simp only at h
 split at h
 ·cases h;simp;omega
 ·split at h
  ·split at h
   ·cases h
   ·cases h
    have:=List.length_filter_le (fun x=> !decide (x∈cut3 a p.1.a p.2.a)) (cut3 b p.1.b p.2.b)
    simp only[List.length_append];omega
  ·cases h;simp;omega
theorem woven1_eq {l other:List (List UInt8)} (hl:l.length<=1000000) (ho:other.length<=1000000):(ji l).bind (fun x=>bx (fun a0=>jq a0 other) x)=some (l.filter fun x=> !decide (x∈other)):=by
 unfold ji
 rw[g9 (by simp;omega) (by simp;omega)]
 simp only[Option.bind_some,List.nil_append]
 exact DeleteFunc_eq (q:=fun x=>decide (x∈other)) (fun x _=>by
  unfold jq
  rw[contains_eq (by omega)]
  rfl) (by omega)
theorem cells_woven_eq {o a b:List (List UInt8)} (ho:o.length<=2000) (ha:a.length<=2000) (hb:b.length<=2000):cells_woven o a b=some (match wovenM o a b with| .inl l=>(l,true)| .inr _=>([],false)):=by
 unfold cells_woven
 rw[diff3_Parts_eq ho ha hb]
 simp only[Option.bind_some]
 have hlen:=chunksOf_len o a b
 have key:=iter_foldE (cm o a b) (fun i (l:List (List UInt8))=>((i:Int),l)) (step:=fun s=>fw ((cm o a b).map (cc o a b)) a b s.1 s.2) (woStep o a b) (fun l=>Flow.next l) (fun _=>Flow.done ([],false)) (fun i l=>l.length<=i * 4000) (fun i h l hinv=>by
  have hin:=chunksOf_in _ (List.getElem_mem h)
  have hws:∀l',woStep o a b l (cm o a b)[i]= .inl l'->l'.length<=(i+1) * 4000:=fun l' hl'=>by have:=woStep_len hl';omega
  generalize hp:(cm o a b)[i]=p at *
  obtain⟨q1,q2,q3,q4,q5,q6,q7,q8,q9⟩:=hin
  have d2:=mi a p.1.a p.2.a
  have d3:=mi b p.1.b p.2.b
  have hstep:fw ((cm o a b).map (cc o a b)) a b (i:Int) l=match woStep o a b l p with| .inl l'=>some (.inl (((i+1:Nat):Int),l'))| .inr _=>some (.inr (Flow.done ([],false))):=by
   unfold fw cells_woven_j4 kw
   rw[if_pos (by simp;omega),bv (by simpa using h)]
   simp only[Option.bind_some,List.getElem_map,hp]
   rw[show(cc o a b p).O.From=p.1.o from rfl,show(cc o a b p).O.To=p.2.o from rfl,show(cc o a b p).A.From=p.1.a from rfl,show(cc o a b p).A.To=p.2.a from rfl,show(cc o a b p).B.From=p.1.b from rfl,show(cc o a b p).B.To=p.2.b from rfl]
   rw[cut_eq q4 q5 q6,cut_eq q7 q8 q9]
   simp only[Option.bind_some]
   rw[show(cc o a b p).Kind=kindOf (cut3 o p.1.o p.2.o) (cut3 a p.1.a p.2.a) (cut3 b p.1.b p.2.b)from rfl]
   unfold woStep
   simp only
   have hw1:=woven1_eq (l:=cut3 b p.1.b p.2.b) (other:=cut3 a p.1.a p.2.a) (by omega) (by omega)
   have hfl:=List.length_filter_le (fun x=> !decide (x∈cut3 a p.1.a p.2.a)) (cut3 b p.1.b p.2.b)
   generalize kindOf (cut3 o p.1.o p.2.o) (cut3 a p.1.a p.2.a) (cut3 b p.1.b p.2.b)=k
   by_cases h2:k=2
   ·rw[if_pos (by simpa using h2),if_pos h2,g9 (by omega) (by omega)]
    simp only[Option.bind_some]
    rw[bt (by omega)]
   ·rw[if_neg (by simpa using h2),if_neg h2]
    by_cases h4:k=4
    ·rw[if_pos (by simpa using h4),if_pos h4]
     by_cases hlt:p.1.o<p.2.o
     ·rw[if_pos (by simpa using hlt),if_pos hlt]
     ·rw[if_neg (by simpa using hlt),if_neg hlt,g9 (by omega) (by omega)]
      simp only[Option.bind_some]
      have hw2:∀f:List (List UInt8)->Option ((Int × List (List UInt8)) ⊕ Flow (List (List UInt8)) (List (List UInt8) × Bool)),((ji (cut3 b p.1.b p.2.b)).bind fun x24=>(bx (fun a0=>jq a0 (cut3 a p.1.a p.2.a)) x24).bind f)=f ((cut3 b p.1.b p.2.b).filter fun x=> !decide (x∈cut3 a p.1.a p.2.a)):=fun f=>by
       rw[← Option.bind_assoc,hw1];rfl
      rw[hw2,g9 (by simp only[List.length_append];omega) (by simp only[List.length_append];omega)]
      simp only[Option.bind_some]
      rw[bt (by omega)]
    ·rw[if_neg (by simpa using h4),if_neg h4,g9 (by omega) (by omega)]
     simp only[Option.bind_some]
     rw[bt (by omega)]
  cases hw:woStep o a b l p with
  |inl l'=>simp only;rw[hstep,hw];exact⟨rfl,hws l' hw⟩
  |inr u=>simp only;rw[hstep,hw]) (fun l _=>by
  unfold fw
  rw[if_neg (by simp)]) (b0:=[]) (by simp)
 have key:iter (fun s=>fw ((cm o a b).map (cc o a b)) a b s.1 s.2) (0,[])=_:=key
 rw[key]
 simp only[Option.bind_some]
 unfold wovenM
 cases foldE (woStep o a b) (cm o a b) []with
 |inl l=>rfl
 |inr u=>rfl
theorem ref30_without_eq {l other:List (List UInt8)} (hl:l.length<=1000000) (ho:other.length<=1000000):ref30_without l other=some (l.filter fun x=> !decide (x∈other)):=by
 have key:=ij l (fun i (m:List (List UInt8))=>((i:Int),m)) (step:=fun s=>e8 l other s.1 s.2) (fun m k=>m++(if !decide (k∈other)then[k]else[])) (fun m=>m) (fun i m=>m.length<=i/\m=(l.take i).filter fun x=> !decide (x∈other)) (fun i h m hm=>by
  obtain⟨hm1,hm2⟩:=hm
  refine⟨?_,by split<;>simp<;>omega,?_⟩
  ·unfold e8 jx
   rw[if_pos (by simp;omega),bv h]
   simp only[Option.bind_some]
   rw[ref30_has_eq (by omega)]
   simp only[Option.bind_some]
   cases decide (l[i]∈other)with
   |true=>rw[if_neg (by simp),bt (by omega)];simp
   |false=>
    rw[if_pos (by simp),g9 (by simp;omega) (by simp;omega)]
    simp only[Option.bind_some]
    rw[bt (by omega)]
    rfl
  ·rw[List.take_succ_eq_append_getElem h,List.filter_append,← hm2]
   congr 1
   simp only[List.filter_cons,List.filter_nil]) (fun m _=>by
  unfold e8
  rw[if_neg (by simp)]) (b0:=[]) ⟨by simp,by simp⟩
 unfold ref30_without
 have h3:iter (fun s=>e8 l other s.1 s.2) (0,[])=_:=key.1
 rw[h3,key.2.2]
 simp[ne]
theorem ref30_rounds_eq {o a b:List (List UInt8)} (ho:o.length<=2000) (ha:a.length<=2000) (hb:b.length<=2000):
    iter (fun s=>eo ((cm o a b).map (cc o a b)) a b s.1 s.2) (0,[])=some (match wovenM o a b with| .inl l=>Flow.next l| .inr _=>Flow.done ([],false)):=by
  have hlen:=chunksOf_len o a b
  have key:=iter_foldE (cm o a b) (fun i (l:List (List UInt8))=>((i:Int),l)) (step:=fun s=>eo ((cm o a b).map (cc o a b)) a b s.1 s.2) (woStep o a b) (fun l=>Flow.next l) (fun _=>Flow.done ([],false)) (fun i l=>l.length<=i * 4000) (fun i h l hinv=>by
    have hin:=chunksOf_in _ (List.getElem_mem h)
    have hws:∀l',woStep o a b l (cm o a b)[i]= .inl l'->l'.length<=(i+1) * 4000:=fun l' hl'=>by have:=woStep_len hl';omega
    generalize hp:(cm o a b)[i]=p at *
    obtain⟨q1,q2,q3,q4,q5,q6,q7,q8,q9⟩:=hin
    have d2:=mi a p.1.a p.2.a
    have d3:=mi b p.1.b p.2.b
    have hstep:eo ((cm o a b).map (cc o a b)) a b (i:Int) l=match woStep o a b l p with| .inl l'=>some (.inl (((i+1:Nat):Int),l'))| .inr _=>some (.inr (Flow.done ([],false))):=by
      unfold eo mq mr mt mu
      rw[if_pos (by simp;omega),bv (by simpa using h)]
      simp only[Option.bind_some,List.getElem_map,hp]
      rw[show(cc o a b p).O.From=p.1.o from rfl,show(cc o a b p).O.To=p.2.o from rfl,show(cc o a b p).A.From=p.1.a from rfl,show(cc o a b p).A.To=p.2.a from rfl,show(cc o a b p).B.From=p.1.b from rfl,show(cc o a b p).B.To=p.2.b from rfl]
      rw[cut_eq q4 q5 q6,cut_eq q7 q8 q9]
      simp only[Option.bind_some]
      rw[show(cc o a b p).Kind=kindOf (cut3 o p.1.o p.2.o) (cut3 a p.1.a p.2.a) (cut3 b p.1.b p.2.b)from rfl]
      unfold woStep
      simp only
      have hfl:=List.length_filter_le (fun x=> !decide (x∈cut3 a p.1.a p.2.a)) (cut3 b p.1.b p.2.b)
      generalize kindOf (cut3 o p.1.o p.2.o) (cut3 a p.1.a p.2.a) (cut3 b p.1.b p.2.b)=k
      by_cases h2:k=2
      · subst h2
        rw[if_neg (by simp),if_neg (by simp),if_neg (by simp),if_pos (by simp),g9 (by omega) (by omega)]
        simp only[Option.bind_some]
        rw[if_neg (by simp),bt (by omega)]
        simp
      · by_cases h4:k=4
        · subst h4
          rw[if_pos (show((4:Int)==4)=true by simp)]
          by_cases hlt:p.1.o<p.2.o
          · rw[if_pos (by simpa using hlt)]
            simp[hlt]
          · rw[if_neg (by simpa using hlt),if_pos (by simp),g9 (by omega) (by omega)]
            simp only[Option.bind_some]
            rw[if_neg (by simp),if_pos (by simp),ref30_without_eq (by omega) (by omega)]
            simp only[Option.bind_some]
            rw[g9 (by simp only[List.length_append];omega) (by simp only[List.length_append];omega)]
            simp only[Option.bind_some]
            rw[bt (by omega)]
            simp[hlt]
        · rw[if_neg (by simpa using h4),if_neg (by simp),if_pos (by simpa using h2),g9 (by omega) (by omega)]
          simp only[Option.bind_some]
          rw[if_neg (by simpa using h2),if_neg (by simpa using h4),bt (by omega)]
          simp[h2,h4]
    cases hw:woStep o a b l p with
    |inl l'=>simp only;rw[hstep,hw];exact⟨rfl,hws l' hw⟩
    |inr u=>simp only;rw[hstep,hw]) (fun l _=>by
    unfold eo
    rw[if_neg (by simp)]) (b0:=[]) (by simp)
  have key:iter (fun s=>eo ((cm o a b).map (cc o a b)) a b s.1 s.2) (0,[])=_:=key
  rw[key]
  unfold wovenM
  cases foldE (woStep o a b) (cm o a b) []<;>rfl
theorem wovenM_len (o a b:List (List UInt8)) (ho:o.length<=2000) (ha:a.length<=2000) (hb:b.length<=2000):∀l,wovenM o a b= .inl l->l.length<=100000000:=by
 have key:∀(ps:List (Diff3Ends × Diff3Ends)) (acc l:List (List UInt8)),foldE (woStep o a b) ps acc= .inl l->l.length<=acc.length+ps.length * 4000:=by
  intro ps
  induction ps with
  |nil=>intro acc l h;cases h;simp
  |cons p ps ih=>
   intro acc l h
   unfold foldE at h
   cases hw:woStep o a b acc p with
   |inr u=>rw[hw]at h;cases h
   |inl acc'=>
    rw[hw]at h
    have h1:=woStep_len hw
    have h2:=ih acc' l h
    simp only[List.length_cons]
    omega
 intro l h
 have:=key _ _ _ h
 have:=chunksOf_len o a b
 simp at *
 omega
def orderM (o a b:List (List UInt8)):List (List UInt8) × Bool:=
 if bz b=bz o then(bz a,true)else if bz a=bz o then(bz b,true)else
 match wovenM (ld (bz o) (bz a) (bz b) (bz o)) (ld (bz o) (bz a) (bz b) (bz a)) (ld (bz o) (bz a) (bz b) (bz b))with
 | .inl l=>if(bz l).length=l.length then(l,true)else([],false)
 | .inr _=>([],false)
theorem same_texts {step:List (List UInt8)->List (List UInt8)->Int->Option (Int ⊕ Flow Unit Bool)} (hs:∀a b i,step a b i=bj a b i) {a b:List (List UInt8)} (hl:a.length=b.length) (h:a.length<=1000000):
  iter (fun s=>step a b s) 0=some (if a=b then Flow.next ()else Flow.done false):=by
 have hs':(fun s=>step a b s)=fun s=>bj a b s:=by funext s;exact hs a b s
 rw[hs']
 have key:∀k i,i+k=a.length->iter (fun s=>bj a b s) (i:Int)=some (if a.drop i=b.drop i then Flow.next ()else Flow.done false):=by
  intro k
  induction k with
  |zero=>
   intro i hi
   obtain rfl:i=a.length:=by omega
   rw[@bu noG _ _ _ _ (Flow.next ()) (by unfold bj;rw[if_neg (by simp)])]
   rw[List.drop_length,hl,List.drop_length,if_pos rfl]
  |succ k ih=>
   intro i hi
   have h1:i<a.length:=by omega
   have h2:i<b.length:=by omega
   rw[List.drop_eq_getElem_cons h1,List.drop_eq_getElem_cons h2]
   by_cases hx:a[i]=b[i]
   ·rw[@c9 noG _ _ _ _ (((i+1:Nat):Int)) (by
     unfold bj dk
     rw[if_pos (by simp;omega),bv h1,bv h2]
     simp only[Option.bind_some]
     rw[if_neg (by simp[hx]),bt (by omega)]),ih (i+1) (by omega)]
    simp only[hx,List.cons.injEq,true_and]
   ·rw[@bu noG _ _ _ _ (Flow.done false) (by
     unfold bj dk
     rw[if_pos (by simp;omega),bv h1,bv h2]
     simp only[Option.bind_some]
     rw[if_pos (by simp[hx])])]
    rw[if_neg (fun h=>hx (List.cons.inj h).1)]
 have:=key a.length 0 (by omega)
 simpa using this
theorem Equal_texts {a b:List (List UInt8)} (h:a.length<=1000000):dh a b=some (decide (a=b)):=by
 unfold dh
 by_cases hl:a.length=b.length
 ·rw[if_neg (by simp;omega),same_texts (step:=bj) (fun _ _ _=>rfl) hl h]
  simp only[Option.bind_some]
  by_cases he:a=b
  ·rw[if_pos he];simp[he,eg]
  ·rw[if_neg he];simp[he]
 ·rw[if_pos (by simp;omega),decide_eq_false (fun h=>hl (by rw[h]))]
theorem Same_texts {a b:List (List UInt8)} (h:a.length<=1000000):ka a b=some (decide (a=b)):=Equal_texts h
theorem cells_Order_eq {o a b:List (List UInt8)} (ho:o.length<=1000) (ha:a.length<=1000) (hb:b.length<=1000):ny o a b=some (orderM o a b):=by
 have l1:=onceM_len o
 have l2:=onceM_len a
 have l3:=onceM_len b
 unfold ny cells_Order_j3 orderM
 rw[cells_once_eq (by omega),cells_once_eq (by omega),cells_once_eq (by omega)]
 simp only[Option.bind_some]
 rw[Equal_texts (by omega),Equal_texts (by omega)]
 simp only[Option.bind_some]
 by_cases h1:bz b=bz o
 ·rw[if_pos (by simpa using h1),if_pos h1]
 ·rw[if_neg (by simpa using h1),if_neg h1]
  by_cases h2:bz a=bz o
  ·rw[if_pos (by simpa using h2),if_pos h2]
  ·rw[if_neg (by simpa using h2),if_neg h2]
   have k1:=List.length_filter_le (fun k=> !(decide (k∈bz o)&& !(decide (k∈bz a)&&decide (k∈bz b)))) (bz o)
   have k2:=List.length_filter_le (fun k=> !(decide (k∈bz o)&& !(decide (k∈bz a)&&decide (k∈bz b)))) (bz a)
   have k3:=List.length_filter_le (fun k=> !(decide (k∈bz o)&& !(decide (k∈bz a)&&decide (k∈bz b)))) (bz b)
   rw[cells_kept_eq (by omega) (by omega) (by omega) (by omega),cells_kept_eq (by omega) (by omega) (by omega) (by omega),cells_kept_eq (by omega) (by omega) (by omega) (by omega)]
   simp only[Option.bind_some]
   rw[cells_woven_eq (by unfold ld;omega) (by unfold ld;omega) (by unfold ld;omega)]
   simp only[Option.bind_some]
   have hwl:=wovenM_len (ld (bz o) (bz a) (bz b) (bz o)) (ld (bz o) (bz a) (bz b) (bz a)) (ld (bz o) (bz a) (bz b) (bz b)) (by unfold ld;omega) (by unfold ld;omega) (by unfold ld;omega)
   cases hw:wovenM (ld (bz o) (bz a) (bz b) (bz o)) (ld (bz o) (bz a) (bz b) (bz a)) (ld (bz o) (bz a) (bz b) (bz b))with
   |inr u=>simp[nb,kz]
   |inl l=>
    have hll:=hwl l hw
    simp only
    unfold nb kz
    rw[if_neg (by simp),cells_once_eq (by omega)]
    simp only[Option.bind_some]
    by_cases hc:(bz l).length=l.length
    ·rw[if_neg (by simp[hc]),if_pos hc]
    ·rw[if_pos (by simp;omega),if_neg hc]
theorem ref30_Order_eq {o a b:List (List UInt8)} (ho:o.length<=1000) (ha:a.length<=1000) (hb:b.length<=1000):ref30_Order o a b=some (orderM o a b):=by
 have l1:=onceM_len o
 have l2:=onceM_len a
 have l3:=onceM_len b
 unfold ref30_Order orderM
 rw[ref30_once_eq (by omega),ref30_once_eq (by omega),ref30_once_eq (by omega)]
 simp only[Option.bind_some]
 rw[Same_texts (by omega),Same_texts (by omega)]
 simp only[Option.bind_some]
 by_cases h1:bz b=bz o
 ·rw[if_pos (by simpa using h1),if_pos h1]
 ·rw[if_neg (by simpa using h1),if_neg h1]
  by_cases h2:bz a=bz o
  ·rw[if_pos (by simpa using h2),if_pos h2]
  ·rw[if_neg (by simpa using h2),if_neg h2]
   have k1:=List.length_filter_le (fun k=> !(decide (k∈bz o)&& !(decide (k∈bz a)&&decide (k∈bz b)))) (bz o)
   have k2:=List.length_filter_le (fun k=> !(decide (k∈bz o)&& !(decide (k∈bz a)&&decide (k∈bz b)))) (bz a)
   have k3:=List.length_filter_le (fun k=> !(decide (k∈bz o)&& !(decide (k∈bz a)&&decide (k∈bz b)))) (bz b)
   rw[ref30_kept_eq (by omega) (by omega) (by omega) (by omega),ref30_kept_eq (by omega) (by omega) (by omega) (by omega),ref30_kept_eq (by omega) (by omega) (by omega) (by omega)]
   simp only[Option.bind_some]
   rw[ref07_Parts_eq (by unfold ld;omega) (by unfold ld;omega) (by unfold ld;omega)]
   simp only[Option.bind_some]
   rw[ref30_rounds_eq (by unfold ld;omega) (by unfold ld;omega) (by unfold ld;omega)]
   simp only[Option.bind_some]
   have hwl:=wovenM_len (ld (bz o) (bz a) (bz b) (bz o)) (ld (bz o) (bz a) (bz b) (bz a)) (ld (bz o) (bz a) (bz b) (bz b)) (by unfold ld;omega) (by unfold ld;omega) (by unfold ld;omega)
   cases hw:wovenM (ld (bz o) (bz a) (bz b) (bz o)) (ld (bz o) (bz a) (bz b) (bz a)) (ld (bz o) (bz a) (bz b) (bz b))with
   |inr u=>rfl
   |inl l=>
    have hll:=hwl l hw
    simp only
    unfold ref30_Order_k1
    rw[ref30_once_eq (by omega)]
    simp only[Option.bind_some]
    by_cases hc:(bz l).length=l.length
    ·rw[if_neg (by simp[hc]),if_pos hc]
    ·rw[if_pos (by simp;omega),if_neg hc]
end Go.Proofs.YtphkaogfinjbjaaGreatDoor
set_option linter.unusedSectionVars false
set_option linter.unusedSimpArgs false
set_option linter.unusedVariables false
namespace Go.Proofs.YtphkaogfinjbjaaGreatDoor
open Go Go.Cn
theorem awake30 :law30_awake=some true:=by decide+kernel
end Go.Proofs.YtphkaogfinjbjaaGreatDoor
set_option linter.unusedSectionVars false
set_option linter.unusedSimpArgs false
set_option linter.unusedVariables false
namespace Go.Proofs.YtphkaogfinjbjaaGreatDoor
open Go Go.Cn
theorem orderM_len (o a b:List (List UInt8)) (ho:o.length<=1000) (ha:a.length<=1000) (hb:b.length<=1000):(orderM o a b).1.length<=100000000:=by
 have l1:=onceM_len o
 have l2:=onceM_len a
 have l3:=onceM_len b
 unfold orderM
 split
 ·simp only;omega
 ·split
  ·simp only;omega
  ·have k1:=List.length_filter_le (fun k=> !(decide (k∈bz o)&& !(decide (k∈bz a)&&decide (k∈bz b)))) (bz o)
   have k2:=List.length_filter_le (fun k=> !(decide (k∈bz o)&& !(decide (k∈bz a)&&decide (k∈bz b)))) (bz a)
   have k3:=List.length_filter_le (fun k=> !(decide (k∈bz o)&& !(decide (k∈bz a)&&decide (k∈bz b)))) (bz b)
   split
   ·rename_i l hw
    have:=wovenM_len _ _ _ (by unfold ld;omega) (by unfold ld;omega) (by unfold ld;omega) l hw
    split
    ·simpa using this
    ·simp
   ·simp
end Go.Proofs.YtphkaogfinjbjaaGreatDoor
set_option linter.unusedSectionVars false
set_option linter.unusedSimpArgs false
set_option linter.unusedVariables false
namespace Go.Proofs.YtphkaogfinjbjaaGreatDoor
open Go Go.Cn
end Go.Proofs.YtphkaogfinjbjaaGreatDoor
set_option linter.unusedSectionVars false
set_option linter.unusedSimpArgs false
set_option linter.unusedVariables false
namespace Go.Proofs.YtphkaogfinjbjaaGreatDoor
open Go Go.Cn
end Go.Proofs.YtphkaogfinjbjaaGreatDoor
set_option linter.unusedSectionVars false
set_option linter.unusedSimpArgs false
set_option linter.unusedVariables false
namespace Go.Proofs.YtphkaogfinjbjaaGreatDoor
open Go Go.Cn
end Go.Proofs.YtphkaogfinjbjaaGreatDoor
set_option linter.unusedSectionVars false
set_option linter.unusedSimpArgs false
set_option linter.unusedVariables false
namespace Go.Proofs.YtphkaogfinjbjaaGreatDoor
open Go Go.Cn
theorem cells_Three_eq {o a b:ApiSegment} {l:List Bool} (ho:o.Text.length<=600) (ha:a.Text.length<=600) (hb:b.Text.length<=600):
  cells_Three o a b l=some ((threeM (optM o.Text (List.getD l 0 false)) (optM a.Text (List.getD l 1 false)) (optM b.Text (List.getD l 2 false))).1.getD [],(threeM (optM o.Text (List.getD l 0 false)) (optM a.Text (List.getD l 1 false)) (optM b.Text (List.getD l 2 false))).1.isSome,(threeM (optM o.Text (List.getD l 0 false)) (optM a.Text (List.getD l 1 false)) (optM b.Text (List.getD l 2 false))).2):=by
 have hs:∀(t:List UInt8) (c:Bool),t.length<=600->Short 600 (optM t c):=fun t c h=>by
  unfold Short
  rw[optM_get]
  cases c<;>simp[h]
 unfold cells_Three cells_Three_j2 cells_Three_j1
 rw[show ic 3 0=some 0 from rfl,show ic 3 1=some 1 from rfl,show ic 3 2=some 2 from rfl,show ic 2 1=some 1 from rfl]
 simp only[Option.bind_some,of_eq]
 have h3:=cells_three_eq (hs o.Text (List.getD l 0 false) ho) (hs a.Text (List.getD l 1 false) ha) (hs b.Text (List.getD l 2 false) hb)
 unfold optM at h3 ⊢
 rw[h3]
 simp only[Option.bind_some,there_eq,cell_text]
theorem three_eq {x1:List (List UInt8)} {x2:List Bool} {x3:List (List (List UInt8))} (h1:∀i,i<3->(List.getD x1 i []).length<=300/\(List.getD x3 i []).length<=30):gx x1 x2 x3=some true:=by
 have t0:=h1 0 (by decide)
 have t1:=h1 1 (by decide)
 have t2:=h1 2 (by decide)
 unfold gx dr
 rw[show ic 3 0=some 0 from rfl,show ic 3 1=some 1 from rfl,show ic 3 2=some 2 from rfl]
 simp only[Option.bind_some]
 rw[cells_Three_eq (by simp only;omega) (by simp only;omega) (by simp only;omega),ref30_Three_eq (by omega) (by omega) (by omega)]
 simp only[Option.bind_some]
 rw[cells_Order_eq (by omega) (by omega) (by omega),ref30_Order_eq (by omega) (by omega) (by omega)]
 simp only[Option.bind_some]
 have hol:=orderM_len (List.getD x3 0 []) (List.getD x3 1 []) (List.getD x3 2 []) (by omega) (by omega) (by omega)
 have hsame:ka (orderM (List.getD x3 0 []) (List.getD x3 1 []) (List.getD x3 2 [])).1 (orderM (List.getD x3 0 []) (List.getD x3 1 []) (List.getD x3 2 [])).1=some true:=ref01_Same_refl (by omega)
 rw[if_pos (by simp),if_pos (by simp),if_pos (by simp),hsame]
 simp
theorem law_CellsThree (x1:List (List UInt8)) (x2:List Bool) (x3:List (List (List UInt8))):nj x1 x2 x3=some true:=by
 unfold nj
 rw[awake30]
 simp only[Option.bind_some]
 rw[if_neg (by simp)]
 have hst:∀i:Nat,i<3->ct x1 x3 (i:Int)=if(List.getD x1 i []).length>300\/(List.getD x3 i []).length>30 then some (.inr (Flow.done true))else some (.inl (((i+1:Nat):Int))):=fun i hi=>by
  unfold ct gy
  have ha:ic 3 (i:Int)=some i:=by unfold ic;rw[if_pos (by omega)];simp
  rw[if_pos (by simp;omega),ha]
  simp only[Option.bind_some]
  by_cases h1:(List.getD x1 i []).length>300
  ·rw[if_pos (show decide (((List.getD x1 i []).length:Int)>300)=true by rw[decide_eq_true_eq];omega),if_pos trivial,if_pos (.inl h1)]
  ·rw[if_neg (show ¬decide (((List.getD x1 i []).length:Int)>300)=true by rw[decide_eq_true_eq];omega)]
   by_cases h2:(List.getD x3 i []).length>30
   ·rw[if_pos (show decide (((List.getD x3 i []).length:Int)>30)=true by rw[decide_eq_true_eq];omega),if_pos (.inr h2)]
   ·rw[if_neg (show ¬decide (((List.getD x3 i []).length:Int)>30)=true by rw[decide_eq_true_eq];omega),if_neg (by omega),bt (by omega)]
 have key:∀n (i:Nat),i+n=3->(∀k,k<i->(List.getD x1 k []).length<=300/\(List.getD x3 k []).length<=30)->
   iter (fun s=>ct x1 x3 s) (i:Int)=some (Flow.done true)\/(iter (fun s=>ct x1 x3 s) (i:Int)=some (Flow.next ())/\∀k,k<3->(List.getD x1 k []).length<=300/\(List.getD x3 k []).length<=30):=by
  intro n
  induction n with
  |zero=>
   intro i hi h
   obtain rfl:i=3:=by omega
   refine .inr ⟨@bu noG _ _ _ _ _ ?_,h⟩
   unfold ct
   rw[if_neg (by simp)]
  |succ n ih=>
   intro i hi h
   by_cases hc:(List.getD x1 i []).length>300\/(List.getD x3 i []).length>30
   ·exact .inl (@bu noG _ _ _ _ _ (by rw[hst i (by omega),if_pos hc]))
   ·rw[@c9 noG _ _ _ _ (((i+1:Nat):Int)) (by rw[hst i (by omega),if_neg hc])]
    refine ih (i+1) (by omega) fun k hk=> ?_
    by_cases hki:k=i
    ·subst hki;omega
    ·exact h k (by omega)
 rcases key 3 0 rfl (fun k hk=>by omega)with h|⟨h,h2⟩
 ·have h:iter (fun s=>ct x1 x3 s) 0=_:=h
  rw[h]
  rfl
 ·have h:iter (fun s=>ct x1 x3 s) 0=_:=h
  rw[h]
  simp only[Option.bind_some]
  exact three_eq h2
end Go.Proofs.YtphkaogfinjbjaaGreatDoor
