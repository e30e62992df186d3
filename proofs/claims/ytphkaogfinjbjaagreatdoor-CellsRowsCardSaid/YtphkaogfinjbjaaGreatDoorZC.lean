/- Cells: rows and threes against the document. -/
import Derived.Test.YtphkaogfinjbjaaGreatDoorZN
set_option linter.unusedSimpArgs false
set_option linter.unusedVariables false
set_option linter.unusedSectionVars false
set_option linter.unusedSectionVars false
set_option linter.unusedSimpArgs false
set_option linter.unusedVariables false
namespace Go.Proofs.YtphkaogfinjbjaaGreatDoor
open Go Go.Cn
def getM :List ApiSegment->List UInt8->Option (List UInt8)
 | [],_=>none
 |s::l,k=>if s.Key=k then some s.Text else getM l k
theorem getM_mem :∀{l:List ApiSegment} {k t:List UInt8},getM l k=some t->⟨k,t⟩∈l
 |s::l,k,t,h=>by
  unfold getM at h
  split at h
  ·rename_i hk
   cases h
   subst hk
   exact List.mem_cons_self
  ·exact List.mem_cons_of_mem _ (getM_mem h)
theorem ref28_Get_eq {l:List ApiSegment} (hl:l.length<=1000000000) (k:List UInt8):ref28_Get l k=some ((getM l k).getD [],(getM l k).isSome):=by
 have key:∀n i,i+n=l.length->iter (fun s=>iy l k s) (i:Int)=some (match getM (l.drop i) k with|some t=>Flow.done (t,true)|none=>Flow.next ()):=by
  intro n
  induction n with
  |zero=>
   intro i hi
   obtain rfl:i=l.length:=by omega
   rw[List.drop_length]
   refine @cc noG _ _ _ _ _ ?_
   unfold iy
   rw[if_neg (by simp)]
   rfl
  |succ n ih=>
   intro i hi
   have h1:i<l.length:=by omega
   rw[List.drop_eq_getElem_cons h1]
   unfold getM
   by_cases hk:l[i].Key=k
   ·rw[if_pos hk]
    refine @cc noG _ _ _ _ _ ?_
    unfold iy
    rw[if_pos (by simp;omega),br h1]
    simp only[Option.bind_some]
    rw[if_pos (by simp[hk])]
   ·rw[if_neg hk, @cr noG _ _ _ _ (((i+1:Nat):Int)) (by
     unfold iy
     rw[if_pos (by simp;omega),br h1]
     simp only[Option.bind_some]
     rw[if_neg (by simp[hk]),bl (by omega)])]
    exact ih (i+1) (by omega)
 have:=key l.length 0 (by omega)
 have this:iter (fun s=>iy l k s) 0=_:=this
 unfold ref28_Get
 rw[this]
 simp only[Option.bind_some,List.drop_zero]
 cases getM l k with
 |none=>rfl
 |some t=>rfl
def thereT :List UInt8:=[116,104,101,114,101]
def cellM :Option (List UInt8)->List (List UInt8)
 |none=>[[],[]]
 |some t=>[thereT,t]
theorem cellM_inj {x y:Option (List UInt8)}:cellM x=cellM y↔x=y:=by
 cases x<;>cases y<;>simp[cellM,thereT]
theorem there_eq (x:Option (List UInt8)):fp (cellM x)=some x.isSome:=by cases x<;>rfl
theorem of_eq (t:List UInt8) (b:Bool):cells_of t b=some (cellM (if b then some t else none)):=by cases b<;>rfl
def tabM (l:List ApiSegment):SMap (List (List UInt8)):=l.foldr (fun s m=>mset s.Key (cellM (some s.Text)) m) []
theorem tabM_get (k:List UInt8):∀l:List ApiSegment,mget k (List.replicate 2 []) (tabM l)=cellM (getM l k)
 | []=>rfl
 |s::l=>by
  show mget k _ (mset s.Key (cellM (some s.Text)) (tabM l))=_
  rw[@mget_mset noG]
  unfold getM
  by_cases h:s.Key=k
  ·rw[if_pos h,if_pos h]
  ·rw[if_neg h,if_neg h,tabM_get k l]
theorem cells_table_eq {l:List ApiSegment} (hl:l.length<=1000000000):mc l=some (tabM l):=by
 have key:∀n (m:SMap (List (List UInt8))),n<=l.length->iter (fun s:Int × SMap (List (List UInt8))=>bn (fun(s:(SMap (List (List UInt8)))) (a:Int × ApiSegment)=>lq s a.1 a.2) l s.1 s.2) (((n:Int) - 1),m)=
   some (Flow.next ((l.take n).foldr (fun s m=>mset s.Key (cellM (some s.Text)) m) m)):=by
  intro n
  induction n with
  |zero=>
   intro m _
   refine @cc noG _ _ _ _ _ ?_
   unfold bn
   rw[if_neg (by simp)]
   rfl
  |succ n ih=>
   intro m hn
   have h1:n<l.length:=by omega
   have e:(((n+1:Nat):Int) - 1)=(n:Int):=by omega
   rw[e, @cr noG _ _ _ _ (((n:Int) - 1),mset l[n].Key (cellM (some l[n].Text)) m) (by
    unfold bn lq
    simp only
    rw[if_pos (by simp),br h1]
    simp only[Option.bind_some,of_eq]
    rw[if_neg (by simp),dy (by omega) (by omega)]
    simp),ih _ (by omega),List.take_succ_eq_append_getElem h1,List.foldr_append]
   rfl
 unfold mc c4
 rw[dy (by omega) (by omega),key l.length [] (Nat.le_refl _)]
 simp only[Option.bind_some,List.take_length]
 rfl
theorem pg {l:List (List UInt8)} (hl:l.length<=1000000000) (s:List UInt8):nq l s=some (decide (s∈l)):=by
 have key:∀n i,i+n=l.length->iter (fun j=>ix l s j) (i:Int)=some (if s∈l.drop i then Flow.done true else Flow.next ()):=by
  intro n
  induction n with
  |zero=>
   intro i hi
   obtain rfl:i=l.length:=by omega
   rw[List.drop_length]
   refine @cc noG _ _ _ _ _ ?_
   unfold ix
   rw[if_neg (by simp)]
   simp
  |succ n ih=>
   intro i hi
   have h1:i<l.length:=by omega
   rw[List.drop_eq_getElem_cons h1]
   by_cases hk:l[i]=s
   ·refine @cc noG _ _ _ _ _ ?_
    unfold ix
    rw[if_pos (by simp;omega),br h1]
    simp only[Option.bind_some]
    rw[if_pos (by simp[hk]),if_pos (by rw[hk];exact List.mem_cons_self)]
   ·rw[@cr noG _ _ _ _ (((i+1:Nat):Int)) (by
     unfold ix
     rw[if_pos (by simp;omega),br h1]
     simp only[Option.bind_some]
     rw[if_neg (by simp[hk]),bl (by omega)]),ih (i+1) (by omega)]
    congr 1
    have:(s∈l[i]::l.drop (i+1))↔s∈l.drop (i+1):=by
     rw[List.mem_cons]
     exact⟨fun h=>h.resolve_left (Ne.symm hk),.inr⟩
    simp only[this]
 have:=key l.length 0 (by omega)
 have this:iter (fun j=>ix l s j) 0=_:=this
 unfold nq
 rw[this]
 simp only[Option.bind_some,List.drop_zero]
 by_cases h:s∈l
 ·simp[h]
 ·simp[h,ref30_has_k1]
def cd (l:List (List UInt8)):List (List UInt8):=l.foldl addK []
theorem ng {l:List (List UInt8)} (hl:l.length<=1000000000):kv l=some (cd l):=by
 have key:=d6 l (fun i (b:SMap Bool × List (List UInt8))=>((i:Int),b.1,b.2)) (step:=fun s=>jd l s.1 s.2.1 s.2.2) (fun b s=>(mset s true b.1,addK b.2 s)) (fun b=>(b.1,b.2)) (fun i b=>b.2.length<=i/\∀s,mget s false b.1=decide (s∈b.2)) (fun i h b hb=>by
  obtain⟨hb1,hb2⟩:=hb
  have hl2:=addK_len b.2 l[i]
  refine⟨?_,by simp only;omega,fun s=> ?_⟩
  ·unfold jd cells_once_j3
   rw[if_pos (by simp;omega),br h]
   simp only[Option.bind_some,hb2]
   unfold addK
   by_cases hm:l[i]∈b.2
   ·rw[if_neg (by simp[hm]),if_pos hm,bl (by omega)]
   ·rw[if_pos (by simp[hm]),if_neg hm,dz (by simp;omega) (by simp;omega)]
    simp only[Option.bind_some]
    rw[bl (by omega)]
  ·simp only
   rw[@mget_mset noG]
   have hmem:s∈addK b.2 l[i]↔(s∈b.2\/s=l[i]):=by
    unfold addK
    split
    ·rename_i hm
     exact⟨.inl,fun h=>h.elim id (fun e=>e▸hm)⟩
    ·simp
   by_cases he:l[i]=s
   ·rw[if_pos he]
    have:s∈addK b.2 l[i]:=hmem.2 (.inr he.symm)
    simp[this]
   ·rw[if_neg he,hb2]
    simp[hmem,Ne.symm he]) (fun b _=>by
  unfold jd
  rw[if_neg (by simp)]) (b0:=(([]:SMap Bool),[])) ⟨by simp,fun s=>by simp[mget]⟩
 have h2:∀(l:List (List UInt8)) (b:SMap Bool × List (List UInt8)),(l.foldl (fun b s=>(mset s true b.1,addK b.2 s)) b).2=l.foldl addK b.2:=by
  intro l
  induction l with
  |nil=>intro b;rfl
  |cons s l ih=>intro b;rw[List.foldl_cons,List.foldl_cons,ih]
 unfold kv
 have h3:iter (fun s=>jd l s.1 s.2.1 s.2.2) (0,([]:SMap Bool),[])=_:=key.1
 rw[h3]
 simp only[Option.bind_some,cells_once_k1,h2]
 rfl
theorem ref30_once_eq {l:List (List UInt8)} (hl:l.length<=1000000000):mu l=some (cd l):=by
 have key:=d6 l (fun i (b:List (List UInt8))=>((i:Int),b)) (step:=fun s=>i8 l s.1 s.2) addK (fun b=>b) (fun i b=>b.length<=i) (fun i h b hb=>by
  have hl2:=addK_len b l[i]
  refine⟨?_,by omega⟩
  unfold i8 ref30_once_j3
  rw[if_pos (by simp;omega),br h]
  simp only[Option.bind_some]
  rw[pg (by omega)]
  simp only[Option.bind_some]
  unfold addK
  by_cases hm:l[i]∈b
  ·rw[if_neg (by simp[hm]),if_pos hm,bl (by omega)]
  ·rw[if_pos (by simp[hm]),if_neg hm,dz (by simp;omega) (by simp;omega)]
   simp only[Option.bind_some]
   rw[bl (by omega)]) (fun b _=>by
  unfold i8
  rw[if_neg (by simp)]) (b0:=[]) (Nat.le_refl _)
 unfold mu
 have h3:iter (fun s=>i8 l s.1 s.2) (0,[])=_:=key.1
 rw[h3]
 rfl
theorem na {l:List ApiSegment} (hl:l.length<=1000000000):kr l=some (l.map (·.Key)):=by
 have key:=d6 l (fun i (b:List (List UInt8))=>((i:Int),b)) (step:=fun s=>ja l s.1 s.2) (fun b s=>b++[s.Key]) (fun b=>b) (fun i b=>b=(l.take i).map (·.Key)) (fun i h b hb=>by
  subst hb
  refine⟨?_,by rw[List.take_succ_eq_append_getElem h,List.map_append];rfl⟩
  unfold ja
  rw[if_pos (by simp;omega),br h]
  simp only[Option.bind_some]
  rw[dz (by simp;omega) (by simp;omega)]
  simp only[Option.bind_some]
  rw[bl (by omega)]) (fun b _=>by
  unfold ja
  rw[if_neg (by simp)]) (b0:=[]) (by simp)
 unfold kr
 have h3:iter (fun s=>ja l s.1 s.2) (0,[])=_:=key.1
 rw[h3,key.2]
 simp[ref28_Keys_k1]
theorem keys_row {l:List ApiSegment} {acc:List (List UInt8)} (hl:acc.length+l.length<=1000000000):iter (fun s=>gv l s.1 s.2) (0,acc)=some (acc++l.map (·.Key)):=by
 have key:=d6 l (fun i (b:List (List UInt8))=>((i:Int),b)) (step:=fun s=>gv l s.1 s.2) (fun b s=>b++[s.Key]) (fun b=>b) (fun i b=>b=acc++(l.take i).map (·.Key)) (fun i h b hb=>by
  subst hb
  refine⟨?_,by rw[List.take_succ_eq_append_getElem h,List.map_append,List.append_assoc];rfl⟩
  unfold gv
  rw[if_pos (by simp;omega),br h]
  simp only[Option.bind_some]
  rw[dz (by simp;omega) (by simp;omega)]
  simp only[Option.bind_some]
  rw[bl (by omega)]) (fun b _=>by
  unfold gv
  rw[if_neg (by simp)]) (b0:=acc) (by simp)
 have h3:iter (fun s=>gv l s.1 s.2) (0,acc)=_:=key.1
 rw[h3,key.2]
 simp
theorem cells_keys_eq {rows:List (List ApiSegment)} (h1:rows.length<=1000000) (h2:rows.flatten.length<=1000000000):mw rows=some (cd (rows.flatten.map (·.Key))):=by
 have key:=d6 rows (fun i (b:List (List UInt8))=>((i:Int),b)) (step:=fun s=>je rows s.1 s.2) (fun b l=>b++l.map (·.Key)) (fun b=>b) (fun i b=>b=((rows.take i).flatten).map (·.Key)) (fun i h b hb=>by
  subst hb
  have hfl:(rows.take (i+1)).flatten=(rows.take i).flatten++rows[i]:=by rw[List.take_succ_eq_append_getElem h,List.flatten_append];simp
  have hle:(rows.take (i+1)).flatten.length<=rows.flatten.length:=by
   have:rows.flatten=(rows.take (i+1)).flatten++(rows.drop (i+1)).flatten:=by rw[← List.flatten_append,List.take_append_drop]
   rw[this,List.length_append];omega
  rw[hfl,List.length_append]at hle
  refine⟨?_,by rw[hfl,List.map_append]⟩
  unfold je cells_keys_k3
  rw[if_pos (by simp;omega),br h]
  simp only[Option.bind_some]
  rw[keys_row (by rw[List.length_map];omega)]
  simp only[Option.bind_some]
  rw[bl (by omega)]) (fun b _=>by
  unfold je
  rw[if_neg (by simp)]) (b0:=[]) (by simp)
 unfold mw
 have h3:iter (fun s=>je rows s.1 s.2) (0,[])=_:=key.1
 rw[h3,key.2]
 simp only[Option.bind_some,List.take_length]
 unfold cells_keys_k1
 rw[ng (by rw[List.length_map];exact h2)]
 rfl
def threeM (o a b:Option (List UInt8)):Option (List UInt8) × Int:=
 if a=b then(a,0)else if a=o then(b,0)else if b=o then(a,0)else if a=none\/b=none then(none,3)else
 if(textM (o.getD []) (a.getD []) (b.getD [])).2=true then(some (textM (o.getD []) (a.getD []) (b.getD [])).1,0)else(none,1)
def Short (n:Nat) (x:Option (List UInt8)):Prop:=(x.getD []).length<=n
theorem cell_text (x:Option (List UInt8)):List.getD (cellM x) 1 []=x.getD []:=by cases x<;>rfl
theorem cells_three_eq {o a b:Option (List UInt8)} (ho:Short 600 o) (ha:Short 600 a) (hb:Short 600 b):cells_three (cellM o) (cellM a) (cellM b)=some (cellM (threeM o a b).1,(threeM o a b).2):=by
 have h0:(List.replicate 2 []:List (List UInt8))=cellM none:=rfl
 have hj:a≠none->b≠none->lp (cellM o) (cellM a) (cellM b) false=some (if(textM (o.getD []) (a.getD []) (b.getD [])).2=true then(cellM (some (textM (o.getD []) (a.getD []) (b.getD [])).1),0)else(cellM none,1)):=fun _ _=>by
  unfold lp
  rw[if_neg (by simp),show arrIx 2 1=some 1 from rfl]
  simp only[Option.bind_some,cell_text]
  rw[weave_Text_eq ho ha hb]
  simp only[Option.bind_some,of_eq]
  cases (textM (o.getD []) (a.getD []) (b.getD [])).2 with
  |true=>simp
  |false=>simp[h0]
 unfold cells_three threeM
 simp only[cellM_inj,there_eq,Option.bind_some]
 by_cases h1:a=b
 ·rw[if_pos (by simpa using h1),if_pos h1]
 ·rw[if_neg (by simpa using h1),if_neg h1]
  by_cases h2:a=o
  ·rw[if_pos (by simpa using h2),if_pos h2]
  ·rw[if_neg (by simpa using h2),if_neg h2]
   by_cases h3:b=o
   ·rw[if_pos (by simpa using h3),if_pos h3]
   ·rw[if_neg (by simpa using h3),if_neg h3]
    cases a with
    |none=>rw[if_pos (by rfl),if_pos (.inl rfl)];rfl
    |some ta=>
     rw[if_neg (by simp)]
     cases b with
     |none=>rw[if_pos (.inr rfl)];rfl
     |some tb=>
      rw[if_neg (by simp),show(!(some tb).isSome)=false from rfl,hj (by simp) (by simp)]
      cases (textM (o.getD []) ((some ta).getD []) ((some tb).getD [])).2<;>rfl
def optM (t:List UInt8) (b:Bool):Option (List UInt8):=if b then some t else none
theorem optM_eq {a b:List UInt8} {y z:Bool}:(optM a y=optM b z)↔((y==z)&&((if y then a else[])==(if z then b else[])))=true:=by
 cases y<;>cases z<;>simp[optM]
theorem optM_get (a:List UInt8) (y:Bool):(optM a y).getD []=if y then a else[]:=by cases y<;>rfl
theorem optM_is (a:List UInt8) (y:Bool):(optM a y).isSome=y:=by cases y<;>rfl
theorem optM_none (a:List UInt8) (y:Bool):optM a y=none↔y=false:=by cases y<;>simp[optM]
theorem ref30_Three_eq {o a b:List UInt8} {x y z:Bool} (ho:o.length<=600) (ha:a.length<=600) (hb:b.length<=600):ref30_Three o a b x y z=some ((threeM (optM o x) (optM a y) (optM b z)).1.getD [],(threeM (optM o x) (optM a y) (optM b z)).1.isSome,(threeM (optM o x) (optM a y) (optM b z)).2):=by
 have hA:ref30_Three o a b x y z=ji y z (if y then a else[]) x (if x then o else[]) (if z then b else[]):=by cases x<;>cases y<;>cases z<;>rfl
 rw[hA]
 have lo:(if x then o else[]).length<=600:=by cases x<;>simp[ho]
 have la:(if y then a else[]).length<=600:=by cases y<;>simp[ha]
 have lb:(if z then b else[]).length<=600:=by cases z<;>simp[hb]
 have h5:ji y z (if y then a else[]) x (if x then o else[]) (if z then b else[])=gz (if y then a else[]) y x (if z then b else[]) z (if x then o else[]) ((y==z)&&((if y then a else[])==(if z then b else[]))):=by
  unfold ji
  cases (y==z)<;>simp
 rw[h5]
 unfold threeM
 by_cases h1:optM a y=optM b z
 ·rw[optM_eq.1 h1,if_pos h1]
  unfold gz
  rw[if_pos rfl]
  simp only[optM_get,optM_is]
 ·have n1:((y==z)&&((if y then a else[])==(if z then b else[])))=false:=by
   cases hc:((y==z)&&((if y then a else[])==(if z then b else[])))with
   |false=>rfl
   |true=>exact absurd (optM_eq.2 hc) h1
  rw[n1,if_neg h1]
  have h4:gz (if y then a else[]) y x (if z then b else[]) z (if x then o else[]) false=g7 (if z then b else[]) z x (if y then a else[]) y (if x then o else[]) ((y==x)&&((if y then a else[])==(if x then o else[]))):=by
   unfold gz
   cases (y==x)<;>simp
  rw[h4]
  by_cases h2:optM a y=optM o x
  ·rw[optM_eq.1 h2,if_pos h2]
   unfold g7
   rw[if_pos rfl]
   simp only[optM_get,optM_is]
  ·have n2:((y==x)&&((if y then a else[])==(if x then o else[])))=false:=by
    cases hc:((y==x)&&((if y then a else[])==(if x then o else[])))with
    |false=>rfl
    |true=>exact absurd (optM_eq.2 hc) h2
   rw[n2,if_neg h2]
   have h3:g7 (if z then b else[]) z x (if y then a else[]) y (if x then o else[]) false=jj (if y then a else[]) y (if x then o else[]) (if z then b else[]) z ((z==x)&&((if z then b else[])==(if x then o else[]))):=by
    unfold g7
    cases (z==x)<;>simp
   rw[h3]
   by_cases h6:optM b z=optM o x
   ·rw[optM_eq.1 h6,if_pos h6]
    unfold jj
    rw[if_pos rfl]
    simp only[optM_get,optM_is]
   ·have n3:((z==x)&&((if z then b else[])==(if x then o else[])))=false:=by
     cases hc:((z==x)&&((if z then b else[])==(if x then o else[])))with
     |false=>rfl
     |true=>exact absurd (optM_eq.2 hc) h6
    rw[n3,if_neg h6]
    unfold jj nt
    simp only[optM_none,optM_get]
    rw[ref08_Text_eq lo la lb]
    cases y with
    |false=>simp
    |true=>
     cases z with
     |false=>simp
     |true=>
      simp only[Bool.not_true,Bool.false_eq_true,if_false,if_true,Bool.true_eq_false,or_self,Option.bind_some]
      cases (textM (if x=true then o else[]) a b).2<;>simp
end Go.Proofs.YtphkaogfinjbjaaGreatDoor
set_option linter.unusedSectionVars false
set_option linter.unusedSimpArgs false
set_option linter.unusedVariables false
namespace Go.Proofs.YtphkaogfinjbjaaGreatDoor
open Go Go.Cn
structure Few (l:List ApiSegment):Prop where
 len:l.length<=1000
 short:∀s∈l,s.Text.length<=600
theorem Few.get {l:List ApiSegment} (h:Few l) (k:List UInt8):Short 600 (getM l k):=by
 unfold Short
 cases hg:getM l k with
 |none=>simp
 |some t=>exact h.short _ (getM_mem hg)
def txtM (o a b:List ApiSegment) (k:List UInt8):Option (List UInt8) × Int:=threeM (getM o k) (getM a k) (getM b k)
def gr (o a b:List ApiSegment):List (List UInt8):=cd ((a++(o++b)).map (·.Key))
def out1 (o a b:List ApiSegment) (k:List UInt8):List ApiSegment:=match (txtM o a b k).1 with|some t=>[⟨k,t⟩]|none=>[]
def bad1 (o a b:List ApiSegment) (k:List UInt8):List ApiConflict:=if(txtM o a b k).2=0 then[]else[⟨(txtM o a b k).2,k⟩]
def outM (o a b:List ApiSegment):List ApiSegment:=(gr o a b).flatMap (out1 o a b)
def badM (o a b:List ApiSegment):List ApiConflict:=(gr o a b).flatMap (bad1 o a b)
theorem fold2 {α β γ:Type} (f:α->List β) (g:α->List γ):∀(l:List α) (x:List β) (y:List γ),l.foldl (fun b k=>(b.1++f k,b.2++g k)) (x,y)=(x++l.flatMap f,y++l.flatMap g)
 | [],x,y=>by simp
 |k::l,x,y=>by rw[List.foldl_cons,fold2 f g l];simp
theorem out1_len (o a b:List ApiSegment) (k:List UInt8):(out1 o a b k).length<=1:=by unfold out1;split<;>simp
theorem bad1_len (o a b:List ApiSegment) (k:List UInt8):(bad1 o a b k).length<=1:=by unfold bad1;split<;>simp
theorem gq (l:List (List UInt8)):(cd l).length<=l.length:=by have:=addKs_len l [];unfold cd;simpa using this
theorem cells_Texts_eq {o a b:List ApiSegment} (ho:Few o) (ha:Few a) (hb:Few b):o9 o a b=some (outM o a b,badM o a b):=by
 have h1:=ho.len
 have h2:=ha.len
 have h3:=hb.len
 unfold o9
 rw[cells_table_eq (by omega),cells_table_eq (by omega),cells_table_eq (by omega)]
 simp only[Option.bind_some]
 rw[cells_keys_eq (by simp) (by simp;omega)]
 simp only[Option.bind_some]
 have hk:cd (([a,o,b].flatten).map (·.Key))=gr o a b:=by simp[gr]
 rw[hk]
 have hkl:(gr o a b).length<=3000:=by
  have:=gq ((a++(o++b)).map (·.Key))
  simp only[List.length_map,List.length_append]at this
  unfold gr
  omega
 have key:=d6 (gr o a b) (fun i (p:List ApiSegment × List ApiConflict)=>((i:Int),p.1,p.2)) (step:=fun s=>ib (gr o a b) (tabM o) (tabM a) (tabM b) s.1 s.2.1 s.2.2) (fun p k=>(p.1++out1 o a b k,p.2++bad1 o a b k)) (fun p=>(p.1,p.2)) (fun i p=>p.1.length<=i/\p.2.length<=i) (fun i h p hp=>by
  have hl1:=out1_len o a b (gr o a b)[i]
  have hl2:=bad1_len o a b (gr o a b)[i]
  refine⟨?_,by simp only[List.length_append];omega⟩
  unfold ib
  rw[if_pos (by simp;omega),br h]
  simp only[Option.bind_some,tabM_get]
  rw[cells_three_eq (ho.get _) (ha.get _) (hb.get _)]
  simp only[Option.bind_some]
  have h4:∀bad:List ApiConflict,lr (cellM (threeM (getM o (gr o a b)[i]) (getM a (gr o a b)[i]) (getM b (gr o a b)[i])).1) p.1 (gr o a b)[i] (i:Int) bad=some (.inl (((i+1:Nat):Int),p.1++out1 o a b (gr o a b)[i],bad)):=fun bad=>by
   unfold lr oj out1 txtM
   rw[there_eq]
   simp only[Option.bind_some]
   cases (threeM (getM o (gr o a b)[i]) (getM a (gr o a b)[i]) (getM b (gr o a b)[i])).1 with
   |none=>rw[if_neg (by simp),bl (by omega)];simp
   |some t=>
    rw[if_pos (by simp),show arrIx 2 1=some 1 from rfl]
    simp only[Option.bind_some,cell_text]
    rw[dz (by simp;omega) (by simp;omega)]
    simp only[Option.bind_some]
    rw[bl (by omega)]
    rfl
  unfold bad1 txtM
  by_cases hz:(threeM (getM o (gr o a b)[i]) (getM a (gr o a b)[i]) (getM b (gr o a b)[i])).2=0
  ·rw[if_neg (by simp[hz]),h4,if_pos hz,List.append_nil]
  ·rw[if_pos (by simpa using hz),dz (by simp;omega) (by simp;omega)]
   simp only[Option.bind_some]
   rw[h4,if_neg hz]) (fun p _=>by
  unfold ib
  rw[if_neg (by simp)]) (b0:=([],[])) (by simp)
 have k1:iter (fun s=>ib (gr o a b) (tabM o) (tabM a) (tabM b) s.1 s.2.1 s.2.2) (0,[],[])=_:=key.1
 rw[k1,fold2]
 rfl
theorem optM_getM (x:Option (List UInt8)):optM (x.getD []) x.isSome=x:=by cases x<;>rfl
theorem ref30_Texts_eq {o a b:List ApiSegment} (ho:Few o) (ha:Few a) (hb:Few b):ref30_Texts o a b=some (outM o a b,badM o a b):=by
 have h1:=ho.len
 have h2:=ha.len
 have h3:=hb.len
 unfold ref30_Texts
 rw[na (by omega),na (by omega),na (by omega)]
 simp only[Option.bind_some]
 rw[dz (by simp;omega) (by simp;omega)]
 simp only[Option.bind_some]
 rw[dz (by simp;omega) (by simp;omega)]
 simp only[Option.bind_some]
 rw[dz (by simp;omega) (by simp;omega)]
 simp only[Option.bind_some]
 rw[ref30_once_eq (by simp;omega)]
 simp only[Option.bind_some]
 have hk:cd ([]++a.map (·.Key)++o.map (·.Key)++b.map (·.Key))=gr o a b:=by simp[gr]
 rw[hk]
 have hkl:(gr o a b).length<=3000:=by
  have:=gq ((a++(o++b)).map (·.Key))
  simp only[List.length_map,List.length_append]at this
  unfold gr
  omega
 have key:=d6 (gr o a b) (fun i (p:List ApiSegment × List ApiConflict)=>((i:Int),p.1,p.2)) (step:=fun s=>g8 (gr o a b) o a b s.1 s.2.1 s.2.2) (fun p k=>(p.1++out1 o a b k,p.2++bad1 o a b k)) (fun p=>(p.1,p.2)) (fun i p=>p.1.length<=i/\p.2.length<=i) (fun i h p hp=>by
  have hl1:=out1_len o a b (gr o a b)[i]
  have hl2:=bad1_len o a b (gr o a b)[i]
  refine⟨?_,by simp only[List.length_append];omega⟩
  unfold g8
  rw[if_pos (by simp;omega),br h]
  simp only[Option.bind_some]
  rw[ref28_Get_eq (by omega),ref28_Get_eq (by omega),ref28_Get_eq (by omega)]
  simp only[Option.bind_some]
  rw[ref30_Three_eq (ho.get _) (ha.get _) (hb.get _)]
  simp only[Option.bind_some,optM_getM]
  have h4:∀bad:List ApiConflict,k5 (threeM (getM o (gr o a b)[i]) (getM a (gr o a b)[i]) (getM b (gr o a b)[i])).1.isSome (gr o a b) (i:Int) p.1 ((threeM (getM o (gr o a b)[i]) (getM a (gr o a b)[i]) (getM b (gr o a b)[i])).1.getD []) bad=some (.inl (((i+1:Nat):Int),p.1++out1 o a b (gr o a b)[i],bad)):=fun bad=>by
   unfold k5 nu out1 txtM
   cases (threeM (getM o (gr o a b)[i]) (getM a (gr o a b)[i]) (getM b (gr o a b)[i])).1 with
   |none=>rw[if_neg (by simp),bl (by omega)];simp
   |some t=>
    rw[if_pos (by simp),br h]
    simp only[Option.bind_some]
    rw[dz (by simp;omega) (by simp;omega)]
    simp only[Option.bind_some]
    rw[bl (by omega)]
    rfl
  unfold bad1 txtM
  by_cases hz:(threeM (getM o (gr o a b)[i]) (getM a (gr o a b)[i]) (getM b (gr o a b)[i])).2=0
  ·rw[if_neg (by simp[hz]),h4,if_pos hz,List.append_nil]
  ·rw[if_pos (by simpa using hz)]
   rw[dz (by simp;omega) (by simp;omega)]
   simp only[Option.bind_some]
   rw[h4,if_neg hz]) (fun p _=>by
  unfold g8
  rw[if_neg (by simp)]) (b0:=([],[])) (by simp)
 have k1:iter (fun s=>g8 (gr o a b) o a b s.1 s.2.1 s.2.2) (0,[],[])=_:=key.1
 rw[k1,fold2]
 rfl
end Go.Proofs.YtphkaogfinjbjaaGreatDoor
set_option linter.unusedSectionVars false
set_option linter.unusedSimpArgs false
set_option linter.unusedVariables false
namespace Go.Proofs.YtphkaogfinjbjaaGreatDoor
open Go Go.Cn
theorem find_first {l:List (List UInt8)} {p:List UInt8->Option Bool} {q:List UInt8->Bool} (hp:∀x∈l,p x=some (q x)) (hl:l.length<=1000000000):
  (∃i:Nat,i<l.length/\c5 l p=some (i:Int)/\(l.take i).filter (fun x=> !q x)=l.take i/\∃h:i<l.length,q l[i]=true)\/(c5 l p=some (-1)/\l.filter (fun x=> !q x)=l):=by
 have key:∀n i,i+n=l.length->(l.take i).filter (fun x=> !q x)=l.take i->
   (∃j:Nat,j<l.length/\iter (fun s=>ba l p s) (i:Int)=some (Flow.done (j:Int))/\(l.take j).filter (fun x=> !q x)=l.take j/\∃h:j<l.length,q l[j]=true)\/(iter (fun s=>ba l p s) (i:Int)=some (Flow.next ())/\l.filter (fun x=> !q x)=l):=by
  intro n
  induction n with
  |zero=>
   intro i hi hf
   obtain rfl:i=l.length:=by omega
   rw[List.take_length]at hf
   refine .inr ⟨@cc noG _ _ _ _ _ ?_,hf⟩
   unfold ba
   rw[if_neg (by simp)]
  |succ n ih=>
   intro i hi hf
   have h1:i<l.length:=by omega
   cases hq:q l[i]with
   |true=>
    refine .inl ⟨i,h1, @cc noG _ _ _ _ _ ?_,hf,h1,hq⟩
    unfold ba
    rw[if_pos (by simp;omega),br h1]
    simp only[Option.bind_some]
    rw[hp _ (List.getElem_mem h1)]
    simp only[Option.bind_some]
    rw[if_pos hq]
   |false=>
    have hst:ba l p (i:Int)=some (.inl (((i+1:Nat):Int))):=by
     unfold ba
     rw[if_pos (by simp;omega),br h1]
     simp only[Option.bind_some]
     rw[hp _ (List.getElem_mem h1)]
     simp only[Option.bind_some]
     rw[if_neg (by simp[hq]),bl (by omega)]
    rw[@cr noG _ _ _ _ _ hst]
    refine ih (i+1) (by omega) ?_
    rw[List.take_succ_eq_append_getElem h1,List.filter_append,hf]
    simp[hq]
 have:=key l.length 0 (by omega) (by simp)
 unfold c5
 rcases this with⟨j,h1,h2,h3,h4⟩|⟨h1,h2⟩
 ·have h2:iter (fun s=>ba l p s) 0=_:=h2
  exact .inl ⟨j,h1,by rw[h2];rfl,h3,h4⟩
 ·have h1:iter (fun s=>ba l p s) 0=_:=h1
  exact .inr ⟨by rw[h1];rfl,h2⟩
theorem DeleteFunc_eq {l:List (List UInt8)} {p:List UInt8->Option Bool} {q:List UInt8->Bool} (hp:∀x∈l,p x=some (q x)) (hl:l.length<=1000000000):ce p l=some (l.filter fun x=> !q x):=by
 unfold ce
 rcases find_first hp hl with⟨i0,h0,h1,h2,h3,h4⟩|⟨h1,h2⟩
 ·rw[h1]
  simp only[Option.bind_some]
  rw[if_neg (by simp),bl (by omega)]
  have key:∀n (i j:Nat) (m:List (List UInt8)),j+n=l.length->i<=j->m.length=l.length->m.take i=(l.take j).filter (fun x=> !q x)->m.drop j=l.drop j->
    ∃(i':Nat) (m':List (List UInt8)),iter (fun s:Int × Int × List (List UInt8)=>bm p s.1 s.2.1 s.2.2) ((i:Int),(j:Int),m)=some ((i':Int),m')/\i'<=l.length/\m'.length=l.length/\m'.take i'=l.filter (fun x=> !q x):=by
   intro n
   induction n with
   |zero=>
    intro i j m hj hij hm ht hd
    obtain rfl:j=l.length:=by omega
    rw[List.take_length]at ht
    refine⟨i,m, @cc noG _ _ _ _ _ ?_,hij,hm,ht⟩
    unfold bm
    rw[if_neg (by simp;omega)]
   |succ n ih=>
    intro i j m hj hij hm ht hd
    have hjl:j<l.length:=by omega
    have hjm:j<m.length:=by omega
    have hmj:m[j]=l[j]:=by
     have e1:m[j]? =l[j]? :=by
      have:=congrArg (fun x=>x[0]?) hd
      simpa using this
     rw[List.getElem?_eq_getElem hjm,List.getElem?_eq_getElem hjl]at e1
     exact Option.some.inj e1
    cases hq:q l[j]with
    |true=>
     have hst:bm p (i:Int) (j:Int) m=some (.inl ((i:Int),((j+1:Nat):Int),m)):=by
      unfold bm cp
      rw[if_pos (by simp;omega),br hjm]
      simp only[Option.bind_some]
      rw[hmj,hp _ (List.getElem_mem hjl)]
      simp only[Option.bind_some]
      rw[if_neg (by simp[hq]),bl (by omega)]
     rw[@cr noG _ _ _ _ ((i:Int),((j+1:Nat):Int),m) hst]
     refine ih i (j+1) m (by omega) (by omega) hm ?_ ?_
     ·rw[List.take_succ_eq_append_getElem hjl,List.filter_append,ht];simp[hq]
     ·rw[← List.drop_drop,hd,List.drop_drop]
    |false=>
     have hst:bm p (i:Int) (j:Int) m=some (.inl (((i+1:Nat):Int),((j+1:Nat):Int),m.set i l[j])):=by
      unfold bm cp
      rw[if_pos (by simp;omega),br hjm]
      simp only[Option.bind_some]
      rw[hmj,hp _ (List.getElem_mem hjl)]
      simp only[Option.bind_some]
      rw[if_pos (by simp[hq]),br (by omega)]
      simp only[Option.bind_some]
      rw[bl (by omega),bl (by omega),Int.toNat_natCast]
     rw[@cr noG _ _ _ _ (((i+1:Nat):Int),((j+1:Nat):Int),m.set i l[j]) hst]
     refine ih (i+1) (j+1) _ (by omega) (by omega) (by simpa using hm) ?_ ?_
     ·rw[List.take_succ_eq_append_getElem hjl,List.filter_append,← ht]
      rw[List.take_succ_eq_append_getElem (by simp;omega)]
      simp only[List.getElem_set_self,hq,List.filter_cons,List.filter_nil,Bool.not_false,if_true]
      congr 1
      apply List.ext_getElem?
      intro k
      simp only[List.getElem?_take,List.getElem?_set]
      by_cases hk:k<i
      ·rw[if_pos hk,if_pos hk,if_neg (by omega)]
      ·rw[if_neg hk,if_neg hk]
     ·rw[List.drop_set_of_lt (by omega),← List.drop_drop,hd,List.drop_drop]
  obtain⟨i',m',e1,e2,e3,e4⟩:=key (l.length - (i0+1)) i0 (i0+1) l (by omega) (by omega) rfl (by
   rw[List.take_succ_eq_append_getElem h0,List.filter_append,h2]
   simp[h4]) rfl
  rw[e1]
  simp only[Option.bind_some]
  unfold dn
  rw[cut_eq (by omega) (by omega) (Int.le_refl _)]
  simp only[Option.bind_some,Int.toNat_natCast]
  rw[cut_eq (by omega) (by omega) (by simp;omega)]
  simp only[Option.bind_some]
  unfold cut3
  simp only[Int.toNat_natCast,Int.toNat_zero,List.drop_zero]
  rw[List.take_left' (by simp;omega),e4]
 ·rw[h1]
  simp only[Option.bind_some]
  rw[if_pos (by simp),h2]
def l7 (o a b l:List (List UInt8)):List (List UInt8):=l.filter fun k=> !(decide (k∈o)&& !(decide (k∈a)&&decide (k∈b)))
theorem contains_eq {L:List (List UInt8)} {x:List UInt8} (h:L.length<=1000000000):bz L x=some (decide (x∈L)):=by
 rw[slices_Contains_eq (by omega)]
 simp
theorem cells_kept_eq {l o a b:List (List UInt8)} (hl:l.length<=1000000) (ho:o.length<=1000000) (ha:a.length<=1000000) (hb:b.length<=1000000):ka l o a b=some (l7 o a b l):=by
 unfold ka jt
 rw[dz (by simp;omega) (by simp;omega)]
 simp only[Option.bind_some,List.nil_append]
 rw[DeleteFunc_eq (q:=fun k=>decide (k∈o)&& !(decide (k∈a)&&decide (k∈b))) (fun x _=>by
  unfold ml gh
  rw[contains_eq (by omega),contains_eq (by omega),contains_eq (by omega)]
  simp only[Option.bind_some]
  cases decide (x∈o)<;>cases decide (x∈a)<;>cases decide (x∈b)<;>rfl) (by omega)]
 rfl
theorem ref30_kept_eq {l o a b:List (List UInt8)} (hl:l.length<=1000000) (ho:o.length<=1000000) (ha:a.length<=1000000) (hb:b.length<=1000000):ref30_kept l o a b=some (l7 o a b l):=by
 have key:=d6 l (fun i (m:List (List UInt8))=>((i:Int),m)) (step:=fun s=>i9 l o a b s.1 s.2) (fun m k=>m++(if !(decide (k∈o)&& !(decide (k∈a)&&decide (k∈b)))then[k]else[])) (fun m=>m) (fun i m=>m.length<=i/\m=(l.take i).filter fun k=> !(decide (k∈o)&& !(decide (k∈a)&&decide (k∈b)))) (fun i h m hm=>by
  obtain⟨hm1,hm2⟩:=hm
  refine⟨?_,by split<;>simp<;>omega,?_⟩
  ·unfold i9
   rw[if_pos (by simp;omega),br h]
   simp only[Option.bind_some]
   rw[pg (by omega),pg (by omega),pg (by omega)]
   simp only[Option.bind_some]
   have h4:∀c,j6 l (i:Int) m c=some (.inl (((i+1:Nat):Int),m++if c then[l[i]]else[])):=fun c=>by
    unfold j6 ref30_kept_j3
    cases c with
    |true=>
     rw[if_pos rfl,br h]
     simp only[Option.bind_some]
     rw[dz (by simp;omega) (by simp;omega)]
     simp only[Option.bind_some]
     rw[bl (by omega)]
     rfl
    |false=>rw[if_neg (by simp),bl (by omega)];simp
   simp only[h4]
   cases decide (l[i]∈o)<;>cases decide (l[i]∈a)<;>cases decide (l[i]∈b)<;>simp
  ·rw[List.take_succ_eq_append_getElem h,List.filter_append,← hm2]
   congr 1
   simp only[List.filter_cons,List.filter_nil]) (fun m _=>by
  unfold i9
  rw[if_neg (by simp)]) (b0:=[]) ⟨by simp,by simp⟩
 unfold ref30_kept
 have h3:iter (fun s=>i9 l o a b s.1 s.2) (0,[])=_:=key.1
 rw[h3,key.2.2]
 simp[ref30_kept_k1,l7]
end Go.Proofs.YtphkaogfinjbjaaGreatDoor
set_option linter.unusedSectionVars false
set_option linter.unusedSimpArgs false
set_option linter.unusedVariables false
namespace Go.Proofs.YtphkaogfinjbjaaGreatDoor
open Go Go.Cn
def woStep (o a b:List (List UInt8)) (acc:List (List UInt8)) (p:Diff3Ends × Diff3Ends):List (List UInt8) ⊕ Unit:=
 let L:=cut3 a p.1.a p.2.a
 let R:=cut3 b p.1.b p.2.b
 let k:=kindOf (cut3 o p.1.o p.2.o) L R
 if k=2 then .inl (acc++R)else if k=4 then(if p.1.o<p.2.o then .inr ()else .inl (acc++L++R.filter fun x=> !decide (x∈L)))else .inl (acc++L)
def wovenM (o a b:List (List UInt8)):List (List UInt8) ⊕ Unit:=foldE (woStep o a b) (ct o a b) []
theorem woStep_len {o a b acc acc':List (List UInt8)} {p:Diff3Ends × Diff3Ends} (h:woStep o a b acc p= .inl acc'):acc'.length<=acc.length+a.length+b.length:=by
 have d2:=nm a p.1.a p.2.a
 have d3:=nm b p.1.b p.2.b
 unfold woStep at h
 simp only at h
 split at h
 ·cases h;simp;omega
 ·split at h
  ·split at h
   ·cases h
   ·cases h
    have:=List.length_filter_le (fun x=> !decide (x∈cut3 a p.1.a p.2.a)) (cut3 b p.1.b p.2.b)
    simp only[List.length_append];omega
  ·cases h;simp;omega
theorem woven1_eq {l other:List (List UInt8)} (hl:l.length<=1000000) (ho:other.length<=1000000):(jt l).bind (fun x=>ce (fun a0=>j9 a0 other) x)=some (l.filter fun x=> !decide (x∈other)):=by
 unfold jt
 rw[dz (by simp;omega) (by simp;omega)]
 simp only[Option.bind_some,List.nil_append]
 exact DeleteFunc_eq (q:=fun x=>decide (x∈other)) (fun x _=>by
  unfold j9
  rw[contains_eq (by omega)]
  rfl) (by omega)
theorem cells_woven_eq {o a b:List (List UInt8)} (ho:o.length<=2000) (ha:a.length<=2000) (hb:b.length<=2000):cells_woven o a b=some (match wovenM o a b with| .inl l=>(l,true)| .inr _=>([],false)):=by
 unfold cells_woven
 rw[diff3_Parts_eq ho ha hb]
 simp only[Option.bind_some]
 have hlen:=chunksOf_len o a b
 have key:=iter_foldE (ct o a b) (fun i (l:List (List UInt8))=>((i:Int),l)) (step:=fun s=>f7 ((ct o a b).map (cl o a b)) a b s.1 s.2) (woStep o a b) (fun l=>Flow.next l) (fun _=>Flow.done ([],false)) (fun i l=>l.length<=i * 4000) (fun i h l hinv=>by
  have hin:=chunksOf_in _ (List.getElem_mem h)
  have hws:∀l',woStep o a b l (ct o a b)[i]= .inl l'->l'.length<=(i+1) * 4000:=fun l' hl'=>by have:=woStep_len hl';omega
  generalize hp:(ct o a b)[i]=p at *
  obtain⟨q1,q2,q3,q4,q5,q6,q7,q8,q9⟩:=hin
  have d2:=nm a p.1.a p.2.a
  have d3:=nm b p.1.b p.2.b
  have hstep:f7 ((ct o a b).map (cl o a b)) a b (i:Int) l=match woStep o a b l p with| .inl l'=>some (.inl (((i+1:Nat):Int),l'))| .inr _=>some (.inr (Flow.done ([],false))):=by
   unfold f7 cells_woven_j4 ln
   rw[if_pos (by simp;omega),br (by simpa using h)]
   simp only[Option.bind_some,List.getElem_map,hp]
   rw[show(cl o a b p).O.From=p.1.o from rfl,show(cl o a b p).O.To=p.2.o from rfl,show(cl o a b p).A.From=p.1.a from rfl,show(cl o a b p).A.To=p.2.a from rfl,show(cl o a b p).B.From=p.1.b from rfl,show(cl o a b p).B.To=p.2.b from rfl]
   rw[cut_eq q4 q5 q6,cut_eq q7 q8 q9]
   simp only[Option.bind_some]
   rw[show(cl o a b p).Kind=kindOf (cut3 o p.1.o p.2.o) (cut3 a p.1.a p.2.a) (cut3 b p.1.b p.2.b)from rfl]
   unfold woStep
   simp only
   have hw1:=woven1_eq (l:=cut3 b p.1.b p.2.b) (other:=cut3 a p.1.a p.2.a) (by omega) (by omega)
   have hfl:=List.length_filter_le (fun x=> !decide (x∈cut3 a p.1.a p.2.a)) (cut3 b p.1.b p.2.b)
   generalize kindOf (cut3 o p.1.o p.2.o) (cut3 a p.1.a p.2.a) (cut3 b p.1.b p.2.b)=k
   by_cases h2:k=2
   ·rw[if_pos (by simpa using h2),if_pos h2,dz (by omega) (by omega)]
    simp only[Option.bind_some]
    rw[bl (by omega)]
   ·rw[if_neg (by simpa using h2),if_neg h2]
    by_cases h4:k=4
    ·rw[if_pos (by simpa using h4),if_pos h4]
     by_cases hlt:p.1.o<p.2.o
     ·rw[if_pos (by simpa using hlt),if_pos hlt]
     ·rw[if_neg (by simpa using hlt),if_neg hlt,dz (by omega) (by omega)]
      simp only[Option.bind_some]
      have hw2:∀f:List (List UInt8)->Option ((Int × List (List UInt8)) ⊕ Flow (List (List UInt8)) (List (List UInt8) × Bool)),((jt (cut3 b p.1.b p.2.b)).bind fun x24=>(ce (fun a0=>j9 a0 (cut3 a p.1.a p.2.a)) x24).bind f)=f ((cut3 b p.1.b p.2.b).filter fun x=> !decide (x∈cut3 a p.1.a p.2.a)):=fun f=>by
       rw[← Option.bind_assoc,hw1];rfl
      rw[hw2,dz (by simp only[List.length_append];omega) (by simp only[List.length_append];omega)]
      simp only[Option.bind_some]
      rw[bl (by omega)]
    ·rw[if_neg (by simpa using h4),if_neg h4,dz (by omega) (by omega)]
     simp only[Option.bind_some]
     rw[bl (by omega)]
  cases hw:woStep o a b l p with
  |inl l'=>simp only;rw[hstep,hw];exact⟨rfl,hws l' hw⟩
  |inr u=>simp only;rw[hstep,hw]) (fun l _=>by
  unfold f7
  rw[if_neg (by simp)]) (b0:=[]) (by simp)
 have key:iter (fun s=>f7 ((ct o a b).map (cl o a b)) a b s.1 s.2) (0,[])=_:=key
 rw[key]
 simp only[Option.bind_some]
 unfold wovenM
 cases foldE (woStep o a b) (ct o a b) []with
 |inl l=>rfl
 |inr u=>rfl
theorem ref30_without_eq {l other:List (List UInt8)} (hl:l.length<=1000000) (ho:other.length<=1000000):ref30_without l other=some (l.filter fun x=> !decide (x∈other)):=by
 have key:=d6 l (fun i (m:List (List UInt8))=>((i:Int),m)) (step:=fun s=>fk l other s.1 s.2) (fun m k=>m++(if !decide (k∈other)then[k]else[])) (fun m=>m) (fun i m=>m.length<=i/\m=(l.take i).filter fun x=> !decide (x∈other)) (fun i h m hm=>by
  obtain⟨hm1,hm2⟩:=hm
  refine⟨?_,by split<;>simp<;>omega,?_⟩
  ·unfold fk kg
   rw[if_pos (by simp;omega),br h]
   simp only[Option.bind_some]
   rw[pg (by omega)]
   simp only[Option.bind_some]
   cases decide (l[i]∈other)with
   |true=>rw[if_neg (by simp),bl (by omega)];simp
   |false=>
    rw[if_pos (by simp),dz (by simp;omega) (by simp;omega)]
    simp only[Option.bind_some]
    rw[bl (by omega)]
    rfl
  ·rw[List.take_succ_eq_append_getElem h,List.filter_append,← hm2]
   congr 1
   simp only[List.filter_cons,List.filter_nil]) (fun m _=>by
  unfold fk
  rw[if_neg (by simp)]) (b0:=[]) ⟨by simp,by simp⟩
 unfold ref30_without
 have h3:iter (fun s=>fk l other s.1 s.2) (0,[])=_:=key.1
 rw[h3,key.2.2]
 simp[oq]
theorem ref30_rounds_eq {o a b:List (List UInt8)} (ho:o.length<=2000) (ha:a.length<=2000) (hb:b.length<=2000):
    iter (fun s=>eu ((ct o a b).map (cl o a b)) a b s.1 s.2) (0,[])=some (match wovenM o a b with| .inl l=>Flow.next l| .inr _=>Flow.done ([],false)):=by
  have hlen:=chunksOf_len o a b
  have key:=iter_foldE (ct o a b) (fun i (l:List (List UInt8))=>((i:Int),l)) (step:=fun s=>eu ((ct o a b).map (cl o a b)) a b s.1 s.2) (woStep o a b) (fun l=>Flow.next l) (fun _=>Flow.done ([],false)) (fun i l=>l.length<=i * 4000) (fun i h l hinv=>by
    have hin:=chunksOf_in _ (List.getElem_mem h)
    have hws:∀l',woStep o a b l (ct o a b)[i]= .inl l'->l'.length<=(i+1) * 4000:=fun l' hl'=>by have:=woStep_len hl';omega
    generalize hp:(ct o a b)[i]=p at *
    obtain⟨q1,q2,q3,q4,q5,q6,q7,q8,q9⟩:=hin
    have d2:=nm a p.1.a p.2.a
    have d3:=nm b p.1.b p.2.b
    have hstep:eu ((ct o a b).map (cl o a b)) a b (i:Int) l=match woStep o a b l p with| .inl l'=>some (.inl (((i+1:Nat):Int),l'))| .inr _=>some (.inr (Flow.done ([],false))):=by
      unfold eu nv nw ny nz
      rw[if_pos (by simp;omega),br (by simpa using h)]
      simp only[Option.bind_some,List.getElem_map,hp]
      rw[show(cl o a b p).O.From=p.1.o from rfl,show(cl o a b p).O.To=p.2.o from rfl,show(cl o a b p).A.From=p.1.a from rfl,show(cl o a b p).A.To=p.2.a from rfl,show(cl o a b p).B.From=p.1.b from rfl,show(cl o a b p).B.To=p.2.b from rfl]
      rw[cut_eq q4 q5 q6,cut_eq q7 q8 q9]
      simp only[Option.bind_some]
      rw[show(cl o a b p).Kind=kindOf (cut3 o p.1.o p.2.o) (cut3 a p.1.a p.2.a) (cut3 b p.1.b p.2.b)from rfl]
      unfold woStep
      simp only
      have hfl:=List.length_filter_le (fun x=> !decide (x∈cut3 a p.1.a p.2.a)) (cut3 b p.1.b p.2.b)
      generalize kindOf (cut3 o p.1.o p.2.o) (cut3 a p.1.a p.2.a) (cut3 b p.1.b p.2.b)=k
      by_cases h2:k=2
      · subst h2
        rw[if_neg (by simp),if_neg (by simp),if_neg (by simp),if_pos (by simp),dz (by omega) (by omega)]
        simp only[Option.bind_some]
        rw[if_neg (by simp),bl (by omega)]
        simp
      · by_cases h4:k=4
        · subst h4
          rw[if_pos (show((4:Int)==4)=true by simp)]
          by_cases hlt:p.1.o<p.2.o
          · rw[if_pos (by simpa using hlt)]
            simp[hlt]
          · rw[if_neg (by simpa using hlt),if_pos (by simp),dz (by omega) (by omega)]
            simp only[Option.bind_some]
            rw[if_neg (by simp),if_pos (by simp),ref30_without_eq (by omega) (by omega)]
            simp only[Option.bind_some]
            rw[dz (by simp only[List.length_append];omega) (by simp only[List.length_append];omega)]
            simp only[Option.bind_some]
            rw[bl (by omega)]
            simp[hlt]
        · rw[if_neg (by simpa using h4),if_neg (by simp),if_pos (by simpa using h2),dz (by omega) (by omega)]
          simp only[Option.bind_some]
          rw[if_neg (by simpa using h2),if_neg (by simpa using h4),bl (by omega)]
          simp[h2,h4]
    cases hw:woStep o a b l p with
    |inl l'=>simp only;rw[hstep,hw];exact⟨rfl,hws l' hw⟩
    |inr u=>simp only;rw[hstep,hw]) (fun l _=>by
    unfold eu
    rw[if_neg (by simp)]) (b0:=[]) (by simp)
  have key:iter (fun s=>eu ((ct o a b).map (cl o a b)) a b s.1 s.2) (0,[])=_:=key
  rw[key]
  unfold wovenM
  cases foldE (woStep o a b) (ct o a b) []<;>rfl
theorem wovenM_len (o a b:List (List UInt8)) (ho:o.length<=2000) (ha:a.length<=2000) (hb:b.length<=2000):∀l,wovenM o a b= .inl l->l.length<=100000000:=by
 have key:∀(ps:List (Diff3Ends × Diff3Ends)) (acc l:List (List UInt8)),foldE (woStep o a b) ps acc= .inl l->l.length<=acc.length+ps.length * 4000:=by
  intro ps
  induction ps with
  |nil=>intro acc l h;cases h;simp
  |cons p ps ih=>
   intro acc l h
   unfold foldE at h
   cases hw:woStep o a b acc p with
   |inr u=>rw[hw]at h;cases h
   |inl acc'=>
    rw[hw]at h
    have h1:=woStep_len hw
    have h2:=ih acc' l h
    simp only[List.length_cons]
    omega
 intro l h
 have:=key _ _ _ h
 have:=chunksOf_len o a b
 simp at *
 omega
def orderM (o a b:List (List UInt8)):List (List UInt8) × Bool:=
 if cd b=cd o then(cd a,true)else if cd a=cd o then(cd b,true)else
 match wovenM (l7 (cd o) (cd a) (cd b) (cd o)) (l7 (cd o) (cd a) (cd b) (cd a)) (l7 (cd o) (cd a) (cd b) (cd b))with
 | .inl l=>if(cd l).length=l.length then(l,true)else([],false)
 | .inr _=>([],false)
theorem same_texts {step:List (List UInt8)->List (List UInt8)->Int->Option (Int ⊕ Flow Unit Bool)} (hs:∀a b i,step a b i=bt a b i) {a b:List (List UInt8)} (hl:a.length=b.length) (h:a.length<=1000000):
  iter (fun s=>step a b s) 0=some (if a=b then Flow.next ()else Flow.done false):=by
 have hs':(fun s=>step a b s)=fun s=>bt a b s:=by funext s;exact hs a b s
 rw[hs']
 have key:∀k i,i+k=a.length->iter (fun s=>bt a b s) (i:Int)=some (if a.drop i=b.drop i then Flow.next ()else Flow.done false):=by
  intro k
  induction k with
  |zero=>
   intro i hi
   obtain rfl:i=a.length:=by omega
   rw[@cc noG _ _ _ _ (Flow.next ()) (by unfold bt;rw[if_neg (by simp)])]
   rw[List.drop_length,hl,List.drop_length,if_pos rfl]
  |succ k ih=>
   intro i hi
   have h1:i<a.length:=by omega
   have h2:i<b.length:=by omega
   rw[List.drop_eq_getElem_cons h1,List.drop_eq_getElem_cons h2]
   by_cases hx:a[i]=b[i]
   ·rw[@cr noG _ _ _ _ (((i+1:Nat):Int)) (by
     unfold bt dm
     rw[if_pos (by simp;omega),br h1,br h2]
     simp only[Option.bind_some]
     rw[if_neg (by simp[hx]),bl (by omega)]),ih (i+1) (by omega)]
    simp only[hx,List.cons.injEq,true_and]
   ·rw[@cc noG _ _ _ _ (Flow.done false) (by
     unfold bt dm
     rw[if_pos (by simp;omega),br h1,br h2]
     simp only[Option.bind_some]
     rw[if_pos (by simp[hx])])]
    rw[if_neg (fun h=>hx (List.cons.inj h).1)]
 have:=key a.length 0 (by omega)
 simpa using this
theorem Equal_texts {a b:List (List UInt8)} (h:a.length<=1000000):dk a b=some (decide (a=b)):=by
 unfold dk
 by_cases hl:a.length=b.length
 ·rw[if_neg (by simp;omega),same_texts (step:=bt) (fun _ _ _=>rfl) hl h]
  simp only[Option.bind_some]
  by_cases he:a=b
  ·rw[if_pos he];simp[he,el]
  ·rw[if_neg he];simp[he]
 ·rw[if_pos (by simp;omega),decide_eq_false (fun h=>hl (by rw[h]))]
theorem Same_texts {a b:List (List UInt8)} (h:a.length<=1000000):ref01_Same a b=some (decide (a=b)):=Equal_texts h
theorem cells_Order_eq {o a b:List (List UInt8)} (ho:o.length<=1000) (ha:a.length<=1000) (hb:b.length<=1000):cells_Order o a b=some (orderM o a b):=by
 have l1:=gq o
 have l2:=gq a
 have l3:=gq b
 unfold cells_Order cells_Order_j3 orderM
 rw[ng (by omega),ng (by omega),ng (by omega)]
 simp only[Option.bind_some]
 rw[Equal_texts (by omega),Equal_texts (by omega)]
 simp only[Option.bind_some]
 by_cases h1:cd b=cd o
 ·rw[if_pos (by simpa using h1),if_pos h1]
 ·rw[if_neg (by simpa using h1),if_neg h1]
  by_cases h2:cd a=cd o
  ·rw[if_pos (by simpa using h2),if_pos h2]
  ·rw[if_neg (by simpa using h2),if_neg h2]
   have k1:=List.length_filter_le (fun k=> !(decide (k∈cd o)&& !(decide (k∈cd a)&&decide (k∈cd b)))) (cd o)
   have k2:=List.length_filter_le (fun k=> !(decide (k∈cd o)&& !(decide (k∈cd a)&&decide (k∈cd b)))) (cd a)
   have k3:=List.length_filter_le (fun k=> !(decide (k∈cd o)&& !(decide (k∈cd a)&&decide (k∈cd b)))) (cd b)
   rw[cells_kept_eq (by omega) (by omega) (by omega) (by omega),cells_kept_eq (by omega) (by omega) (by omega) (by omega),cells_kept_eq (by omega) (by omega) (by omega) (by omega)]
   simp only[Option.bind_some]
   rw[cells_woven_eq (by unfold l7;omega) (by unfold l7;omega) (by unfold l7;omega)]
   simp only[Option.bind_some]
   have hwl:=wovenM_len (l7 (cd o) (cd a) (cd b) (cd o)) (l7 (cd o) (cd a) (cd b) (cd a)) (l7 (cd o) (cd a) (cd b) (cd b)) (by unfold l7;omega) (by unfold l7;omega) (by unfold l7;omega)
   cases hw:wovenM (l7 (cd o) (cd a) (cd b) (cd o)) (l7 (cd o) (cd a) (cd b) (cd a)) (l7 (cd o) (cd a) (cd b) (cd b))with
   |inr u=>simp[ol,lu]
   |inl l=>
    have hll:=hwl l hw
    simp only
    unfold ol lu
    rw[if_neg (by simp),ng (by omega)]
    simp only[Option.bind_some]
    by_cases hc:(cd l).length=l.length
    ·rw[if_neg (by simp[hc]),if_pos hc]
    ·rw[if_pos (by simp;omega),if_neg hc]
theorem ref30_Order_eq {o a b:List (List UInt8)} (ho:o.length<=1000) (ha:a.length<=1000) (hb:b.length<=1000):ref30_Order o a b=some (orderM o a b):=by
 have l1:=gq o
 have l2:=gq a
 have l3:=gq b
 unfold ref30_Order orderM
 rw[ref30_once_eq (by omega),ref30_once_eq (by omega),ref30_once_eq (by omega)]
 simp only[Option.bind_some]
 rw[Same_texts (by omega),Same_texts (by omega)]
 simp only[Option.bind_some]
 by_cases h1:cd b=cd o
 ·rw[if_pos (by simpa using h1),if_pos h1]
 ·rw[if_neg (by simpa using h1),if_neg h1]
  by_cases h2:cd a=cd o
  ·rw[if_pos (by simpa using h2),if_pos h2]
  ·rw[if_neg (by simpa using h2),if_neg h2]
   have k1:=List.length_filter_le (fun k=> !(decide (k∈cd o)&& !(decide (k∈cd a)&&decide (k∈cd b)))) (cd o)
   have k2:=List.length_filter_le (fun k=> !(decide (k∈cd o)&& !(decide (k∈cd a)&&decide (k∈cd b)))) (cd a)
   have k3:=List.length_filter_le (fun k=> !(decide (k∈cd o)&& !(decide (k∈cd a)&&decide (k∈cd b)))) (cd b)
   rw[ref30_kept_eq (by omega) (by omega) (by omega) (by omega),ref30_kept_eq (by omega) (by omega) (by omega) (by omega),ref30_kept_eq (by omega) (by omega) (by omega) (by omega)]
   simp only[Option.bind_some]
   rw[ref07_Parts_eq (by unfold l7;omega) (by unfold l7;omega) (by unfold l7;omega)]
   simp only[Option.bind_some]
   rw[ref30_rounds_eq (by unfold l7;omega) (by unfold l7;omega) (by unfold l7;omega)]
   simp only[Option.bind_some]
   have hwl:=wovenM_len (l7 (cd o) (cd a) (cd b) (cd o)) (l7 (cd o) (cd a) (cd b) (cd a)) (l7 (cd o) (cd a) (cd b) (cd b)) (by unfold l7;omega) (by unfold l7;omega) (by unfold l7;omega)
   cases hw:wovenM (l7 (cd o) (cd a) (cd b) (cd o)) (l7 (cd o) (cd a) (cd b) (cd a)) (l7 (cd o) (cd a) (cd b) (cd b))with
   |inr u=>rfl
   |inl l=>
    have hll:=hwl l hw
    simp only
    unfold ref30_Order_k1
    rw[ref30_once_eq (by omega)]
    simp only[Option.bind_some]
    by_cases hc:(cd l).length=l.length
    ·rw[if_neg (by simp[hc]),if_pos hc]
    ·rw[if_pos (by simp;omega),if_neg hc]
end Go.Proofs.YtphkaogfinjbjaaGreatDoor
set_option linter.unusedSectionVars false
set_option linter.unusedSimpArgs false
set_option linter.unusedVariables false
namespace Go.Proofs.YtphkaogfinjbjaaGreatDoor
open Go Go.Cn
theorem awake30 :law30_awake=some true:=by decide+kernel
theorem few30 (l:List ApiSegment):∃b,law30_few l=some b/\(b=true->Few l):=by
 unfold law30_few
 by_cases hl:l.length<=20
 ·rw[if_neg (by simp;omega)]
  have key:=iter_foldE l (fun i (_:Unit)=>(i:Int)) (step:=fun s=>iz l s) (fun _ (s:ApiSegment)=>if s.Text.length>120\/s.Key.length>60 then .inr ()else .inl ()) (fun _=>Flow.next ()) (fun _=>Flow.done false) (fun _ _=>True) (fun i h b _=>by
   have hst:iz l (i:Int)=if l[i].Text.length>120\/l[i].Key.length>60 then some (.inr (Flow.done false))else some (.inl (((i+1:Nat):Int))):=by
    unfold iz law30_few_j3
    rw[if_pos (show decide ((i:Int)<(l.length:Int))=true by simp;omega),br h]
    simp only[Option.bind_some]
    by_cases h1:l[i].Text.length>120
    ·rw[if_pos (show decide ((l[i].Text.length:Int)>120)=true by simp;omega),if_pos trivial,if_pos (.inl h1)]
    ·rw[if_neg (show ¬decide ((l[i].Text.length:Int)>120)=true by simp;omega)]
     by_cases h2:l[i].Key.length>60
     ·rw[if_pos (show decide ((l[i].Key.length:Int)>60)=true by simp;omega),if_pos (.inr h2)]
     ·rw[if_neg (show ¬decide ((l[i].Key.length:Int)>60)=true by simp;omega),if_neg (show ¬(l[i].Text.length>120\/l[i].Key.length>60)by omega),bl (by omega)]
   by_cases hc:l[i].Text.length>120\/l[i].Key.length>60
   ·simp only[if_pos hc]
    rw[hst,if_pos hc]
   ·simp only[if_neg hc]
    exact⟨by rw[hst,if_neg hc],trivial⟩) (fun b _=>by
   unfold iz
   rw[if_neg (by simp)]) (b0:=()) trivial
  have key:iter (fun s=>iz l s) 0=_:=key
  rw[key]
  simp only[Option.bind_some]
  have h2:∀l:List ApiSegment,foldE (fun _ (s:ApiSegment)=>if s.Text.length>120\/s.Key.length>60 then(.inr ():Unit ⊕ Unit)else .inl ()) l ()= .inl ()->∀s∈l,s.Text.length<=600:=by
   intro l
   induction l with
   |nil=>intro _ s hs;cases hs
   |cons x l ih=>
    intro h s hs
    unfold foldE at h
    by_cases hx:x.Text.length>120\/x.Key.length>60
    ·rw[if_pos hx]at h;cases h
    ·rw[if_neg hx]at h
     rcases List.mem_cons.1 hs with rfl|hs
     ·omega
     ·exact ih h s hs
  cases hf:foldE (fun _ (s:ApiSegment)=>if s.Text.length>120\/s.Key.length>60 then(.inr ():Unit ⊕ Unit)else .inl ()) l ()with
  |inl u=>exact⟨true,rfl,fun _=>⟨by omega,h2 l hf⟩⟩
  |inr u=>exact⟨false,rfl,fun h=>by cases h⟩
 ·rw[if_pos (by simp;omega)]
  exact⟨false,rfl,fun h=>by cases h⟩
theorem addKs_nodup :∀(l ks:List (List UInt8)),ks.Nodup->(l.foldl addK ks).Nodup
 | [],_,h=>h
 |s::l,ks,h=>addKs_nodup l (addK ks s) (by
  unfold addK
  split
  ·exact h
  ·rename_i hm
   rw[List.nodup_append]
   exact⟨h,by simp,fun x hx y hy=>by rw[List.mem_singleton.1 hy];intro e;exact hm (e▸hx)⟩)
theorem onceM_nodup (l:List (List UInt8)):(cd l).Nodup:=addKs_nodup l [] List.nodup_nil
theorem out1_key {o a b:List ApiSegment} {k:List UInt8} {s:ApiSegment} (h:s∈out1 o a b k):s.Key=k:=by
 unfold out1 at h
 split at h
 ·rw[List.mem_singleton.1 h]
 ·cases h
theorem keyed_nodup {α:Type} (f:List UInt8->List α) (g:α->List UInt8) (h1:∀k,(f k).length<=1) (h2:∀k,∀s∈f k,g s=k):∀ks:List (List UInt8),ks.Nodup->((ks.flatMap f).map g).Nodup
 | [],_=>by simp
 |k::ks,h=>by
  obtain⟨h3,h4⟩:=List.nodup_cons.1 h
  rw[List.flatMap_cons,List.map_append,List.nodup_append]
  refine⟨?_,keyed_nodup f g h1 h2 ks h4,fun x hx y hy=> ?_⟩
  ·have:=h1 k
   match hf:f k with
   | []=>simp
   | [s]=>simp
   |_::_::_=>rw[hf]at this;simp at this
  ·obtain⟨s,hs,rfl⟩:=List.mem_map.1 hx
   obtain⟨t,ht,rfl⟩:=List.mem_map.1 hy
   obtain⟨k',hk',ht'⟩:=List.mem_flatMap.1 ht
   rw[h2 k s hs,h2 k' t ht']
   intro e
   exact h3 (e▸hk')
theorem outM_nodup (o a b:List ApiSegment):((outM o a b).map (·.Key)).Nodup:=keyed_nodup _ _ (out1_len o a b) (fun k s hs=>out1_key hs) _ (onceM_nodup _)
theorem getM_nodup :∀{l:List ApiSegment} {s:ApiSegment},(l.map (·.Key)).Nodup->s∈l->getM l s.Key=some s.Text
 |x::l,s,h,hs=>by
  obtain⟨h3,h4⟩:=List.nodup_cons.1 h
  unfold getM
  rcases List.mem_cons.1 hs with rfl|hs
  ·rw[if_pos rfl]
  ·rw[if_neg (fun e=>h3 (by show x.Key∈_;rw[e];exact List.mem_map_of_mem (f:=(·.Key)) hs))]
   exact getM_nodup h4 hs
theorem outM_len (o a b:List ApiSegment):(outM o a b).length<=a.length+(o.length+b.length):=by
 have h1:∀ks:List (List UInt8),(ks.flatMap (out1 o a b)).length<=ks.length:=by
  intro ks
  induction ks with
  |nil=>simp
  |cons k ks ih=>have:=out1_len o a b k;simp only[List.flatMap_cons,List.length_append,List.length_cons];omega
 have h2:=h1 (gr o a b)
 have h3:=gq ((a++(o++b)).map (·.Key))
 simp only[List.length_map,List.length_append]at h3
 unfold outM gr at *
 omega
theorem badM_len (o a b:List ApiSegment):(badM o a b).length<=a.length+(o.length+b.length):=by
 have h1:∀ks:List (List UInt8),(ks.flatMap (bad1 o a b)).length<=ks.length:=by
  intro ks
  induction ks with
  |nil=>simp
  |cons k ks ih=>have:=bad1_len o a b k;simp only[List.flatMap_cons,List.length_append,List.length_cons];omega
 have h2:=h1 (gr o a b)
 have h3:=gq ((a++(o++b)).map (·.Key))
 simp only[List.length_map,List.length_append]at h3
 unfold badM gr at *
 omega
theorem all_ok {α:Type} {step:Int->Option (Int ⊕ Flow Unit Bool)} (l:List α) (h:l.length<=1000000000) (h1:∀i (hi:i<l.length),step (i:Int)=some (.inl (w64 ((i:Int)+1)))) (h2:step (l.length:Int)=some (.inr (.next ()))):iter step 0=some (.next ()):=same_refl (l:=l) h h1 h2
theorem nodup_of_map {α β:Type} (f:α->β):∀{l:List α},(l.map f).Nodup->l.Nodup
 | [],_=>List.nodup_nil
 |x::l,h=>by
  obtain⟨h1,h2⟩:=List.nodup_cons.1 h
  exact List.nodup_cons.2 ⟨fun hx=>h1 (List.mem_map_of_mem hx),nodup_of_map f h2⟩
end Go.Proofs.YtphkaogfinjbjaaGreatDoor
set_option linter.unusedSectionVars false
set_option linter.unusedSimpArgs false
set_option linter.unusedVariables false
namespace Go.Proofs.YtphkaogfinjbjaaGreatDoor
open Go Go.Cn
theorem foldl_addK_nodup :∀(l ks:List (List UInt8)),(ks++l).Nodup->l.foldl addK ks=ks++l
 | [],ks,_=>by simp
 |s::l,ks,h=>by
  have hs:s ∉ ks:=fun hm=>by
   rw[List.nodup_append]at h
   exact h.2.2 s hm s List.mem_cons_self rfl
  rw[List.foldl_cons]
  unfold addK
  rw[if_neg hs]
  have:=foldl_addK_nodup l (ks++[s]) (by simpa using h)
  unfold addK at this
  rw[this]
  simp
theorem onceM_id {l:List (List UInt8)} (h:l.Nodup):cd l=l:=by unfold cd;rw[foldl_addK_nodup l [] (by simpa using h)];rfl
theorem onceM_onceM (l:List (List UInt8)):cd (cd l)=cd l:=onceM_id (onceM_nodup l)
theorem nodup_of_once {l:List (List UInt8)} (h:(cd l).length=l.length):l.Nodup:=by
 have key:∀(l ks:List (List UInt8)),ks.Nodup->(l.foldl addK ks).length=ks.length+l.length->(ks++l).Nodup:=by
  intro l
  induction l with
  |nil=>intro ks hk _;simpa using hk
  |cons s l ih=>
   intro ks hk hl
   rw[List.foldl_cons]at hl
   by_cases hm:s∈ks
   ·have h1:addK ks s=ks:=by unfold addK;rw[if_pos hm]
    rw[h1]at hl
    have:=addKs_len l ks
    simp only[List.length_cons]at hl
    omega
   ·have h1:addK ks s=ks++[s]:=by unfold addK;rw[if_neg hm]
    rw[h1]at hl
    have h2:(ks++[s]).Nodup:=by
     rw[List.nodup_append]
     exact⟨hk,by simp,fun x hx y hy=>by rw[List.mem_singleton.1 hy];intro e;exact hm (e▸hx)⟩
    have:=ih (ks++[s]) h2 (by simp only[List.length_append,List.length_cons,List.length_nil]at hl ⊢;omega)
    simpa using this
 have:=key l [] List.nodup_nil (by simpa [cd] using h)
 simpa using this
theorem orderM_nodup (o a b:List (List UInt8)):(orderM o a b).1.Nodup:=by
 unfold orderM
 split
 ·exact onceM_nodup _
 ·split
  ·exact onceM_nodup _
  ·split
   ·split
    ·rename_i h;exact nodup_of_once h
    ·exact List.nodup_nil
   ·exact List.nodup_nil
theorem orderM_once (o a b:List (List UInt8)):orderM (cd o) (cd a) (cd b)=orderM o a b:=by
 unfold orderM
 rw[onceM_onceM,onceM_onceM,onceM_onceM]
theorem once_append {l m:List (List UInt8)} (hl:l.Nodup) (hm:m.Nodup):cd (l++m)=l++m.filter fun x=> !decide (x∈l):=by
 have key:∀(m ks:List (List UInt8)),m.Nodup->m.foldl addK ks=ks++m.filter fun x=> !decide (x∈ks):=by
  intro m
  induction m with
  |nil=>intro ks _;simp
  |cons s m ih=>
   intro ks h
   obtain⟨h1,h2⟩:=List.nodup_cons.1 h
   rw[List.foldl_cons,ih _ h2]
   by_cases hs:s∈ks
   ·have e:addK ks s=ks:=by unfold addK;rw[if_pos hs]
    rw[e]
    simp[hs]
   ·have e:addK ks s=ks++[s]:=by unfold addK;rw[if_neg hs]
    rw[e,List.filter_cons,if_pos (by simp[hs])]
    have:(m.filter fun x=> !decide (x∈ks++[s]))=m.filter fun x=> !decide (x∈ks):=by
     refine List.filter_congr fun x hx=> ?_
     have:x≠s:=fun e=>h1 (e▸hx)
     simp[this]
    rw[this]
    simp
 unfold cd
 rw[List.foldl_append,foldl_addK_nodup l [] (by simpa using hl),List.nil_append]
 exact key m l hm
def row1 (t:List ApiSegment) (k:List UInt8):List ApiSegment:=match getM t k with|some x=>[⟨k,x⟩]|none=>[]
theorem row1_len (t:List ApiSegment) (k:List UInt8):(row1 t k).length<=1:=by unfold row1;split<;>simp
def rowM (o a b:List ApiSegment):List ApiSegment × List ApiConflict:=
 let l:=orderM (o.map (·.Key)) (a.map (·.Key)) (b.map (·.Key))
 if l.2=true then((l.1++((outM o a b).map (·.Key)).filter fun x=> !decide (x∈l.1)).flatMap (row1 (outM o a b)),badM o a b)else(outM o a b,badM o a b++[⟨2,[]⟩])
theorem row1_there {t:List ApiSegment} (hn:(t.map (·.Key)).Nodup) {s:ApiSegment} (hs:s∈t):row1 t s.Key=[s]:=by
 unfold row1
 rw[getM_nodup hn hs]
theorem flat_rest (t:List ApiSegment) (hn:(t.map (·.Key)).Nodup) (p:List UInt8->Bool):((t.map (·.Key)).filter p).flatMap (row1 t)=t.filter fun s=>p s.Key:=by
 have key:∀m:List ApiSegment,(∀s∈m,s∈t)->((m.map (·.Key)).filter p).flatMap (row1 t)=m.filter fun s=>p s.Key:=by
  intro m
  induction m with
  |nil=>intro _;rfl
  |cons s m ih=>
   intro h
   have ih':=ih (fun x hx=>h x (List.mem_cons_of_mem _ hx))
   rw[List.map_cons,List.filter_cons,List.filter_cons]
   by_cases hp:p s.Key=true
   ·rw[if_pos hp,if_pos hp,List.flatMap_cons,ih',row1_there hn (h s List.mem_cons_self)]
    rfl
   ·rw[if_neg hp,if_neg hp,ih']
 exact key t fun s hs=>hs
theorem concat2 {x y:List (List UInt8)} (hx:x.length<=1000000000) (hy:y.length<=1000000000):du [x,y]=some (x++y):=by
 unfold du
 have s0:bw [x,y] 0 0=some (.inl ((x.length:Int),1)):=by
  unfold bw dj
  rw[if_pos (by simp),show idx [x,y] 0=some x from rfl]
  simp only[Option.bind_some]
  rw[show(0:Int)+(x.length:Int)=(x.length:Int)by omega,dy (by omega) (by omega),if_neg (by simp)]
  rfl
 have s1:bw [x,y] (x.length:Int) 1=some (.inl ((x.length:Int)+(y.length:Int),2)):=by
  unfold bw dj
  rw[if_pos (by simp),show idx [x,y] 1=some y from rfl]
  simp only[Option.bind_some]
  rw[dy (by omega) (by omega),if_neg (by simp;omega)]
  rfl
 have s2:bw [x,y] ((x.length:Int)+(y.length:Int)) 2=some (.inr ((x.length:Int)+(y.length:Int))):=by
  unfold bw
  rw[if_neg (by simp)]
 rw[@cr noG _ _ _ _ ((x.length:Int),1) s0, @cr noG _ _ _ _ ((x.length:Int)+(y.length:Int),2) s1, @cc noG _ _ _ _ _ s2]
 simp only[Option.bind_some]
 unfold eb
 rw[show slices_Grow ((x.length:Int)+(y.length:Int))=some []by unfold slices_Grow;rw[if_pos (by omega)]]
 simp only[Option.bind_some]
 have t0:bx [x,y] 0 []=some (.inl (1,x)):=by
  unfold bx
  rw[if_pos (by simp),show idx [x,y] 0=some x from rfl]
  simp only[Option.bind_some]
  rw[dz (by simp;omega) (by simp;omega)]
  rfl
 have t1:bx [x,y] 1 x=some (.inl (2,x++y)):=by
  unfold bx
  rw[if_pos (by simp),show idx [x,y] 1=some y from rfl]
  simp only[Option.bind_some]
  rw[dz (by omega) (by omega)]
  rfl
 have t2:bx [x,y] 2 (x++y)=some (.inr (x++y)):=by
  unfold bx
  rw[if_neg (by simp)]
 rw[@cr noG _ _ _ _ (1,x) t0, @cr noG _ _ _ _ (2,x++y) t1, @cc noG _ _ _ _ _ t2]
 rfl
theorem orderM_len (o a b:List (List UInt8)) (ho:o.length<=1000) (ha:a.length<=1000) (hb:b.length<=1000):(orderM o a b).1.length<=100000000:=by
 have l1:=gq o
 have l2:=gq a
 have l3:=gq b
 unfold orderM
 split
 ·simp only;omega
 ·split
  ·simp only;omega
  ·have k1:=List.length_filter_le (fun k=> !(decide (k∈cd o)&& !(decide (k∈cd a)&&decide (k∈cd b)))) (cd o)
   have k2:=List.length_filter_le (fun k=> !(decide (k∈cd o)&& !(decide (k∈cd a)&&decide (k∈cd b)))) (cd a)
   have k3:=List.length_filter_le (fun k=> !(decide (k∈cd o)&& !(decide (k∈cd a)&&decide (k∈cd b)))) (cd b)
   split
   ·rename_i l hw
    have:=wovenM_len _ _ _ (by unfold l7;omega) (by unfold l7;omega) (by unfold l7;omega) l hw
    split
    ·simpa using this
    ·simp
   ·simp
theorem cells_Row_eq {o a b:List ApiSegment} (ho:Few o) (ha:Few a) (hb:Few b):cells_Row o a b=some (rowM o a b):=by
 have e3:=ho.len
 have e4:=ha.len
 have e5:=hb.len
 have e1:=outM_len o a b
 have e2:=badM_len o a b
 have n1:=outM_nodup o a b
 unfold cells_Row rowM
 rw[cells_Texts_eq ho ha hb]
 simp only[Option.bind_some]
 rw[cells_keys_eq (by simp) (by simp;omega),cells_keys_eq (by simp) (by simp;omega),cells_keys_eq (by simp) (by simp;omega)]
 simp only[Option.bind_some,List.flatten_cons,List.flatten_nil,List.append_nil]
 have m1:=gq (o.map (·.Key))
 have m2:=gq (a.map (·.Key))
 have m3:=gq (b.map (·.Key))
 simp only[List.length_map]at m1 m2 m3
 rw[cells_Order_eq (by omega) (by omega) (by omega),orderM_once]
 simp only[Option.bind_some]
 have hnd:=orderM_nodup (o.map (·.Key)) (a.map (·.Key)) (b.map (·.Key))
 have hol:=orderM_len (o.map (·.Key)) (a.map (·.Key)) (b.map (·.Key)) (by simpa using e3) (by simpa using e4) (by simpa using e5)
 generalize orderM (o.map (·.Key)) (a.map (·.Key)) (b.map (·.Key))=l at *
 generalize badM o a b=c at *
 generalize outM o a b=t at *
 obtain⟨l,ok⟩:=l
 simp only at *
 cases ok with
 |false=>
  rw[if_pos (by rfl),dz (by simp;omega) (by simp;omega)]
  simp
 |true=>
  rw[if_neg (by simp),cells_table_eq (by omega),cells_keys_eq (by simp) (by simp;omega)]
  simp only[Option.bind_some,List.flatten_cons,List.flatten_nil,List.append_nil]
  rw[onceM_id n1,concat2 (by omega) (by simp;omega)]
  simp only[Option.bind_some]
  rw[ng (by simp;omega),once_append hnd n1]
  simp only[Option.bind_some]
  have hlen:(l++(t.map (·.Key)).filter fun x=> !decide (x∈l)).length<=200000000:=by
   have:=List.length_filter_le (fun x=> !decide (x∈l)) (t.map (·.Key))
   simp only[List.length_append,List.length_map]at this ⊢
   omega
  generalize (l++(t.map (·.Key)).filter fun x=> !decide (x∈l))=ks at *
  have key:=d6 ks (fun i (p:List ApiSegment)=>((i:Int),p)) (step:=fun s=>j4 ks (tabM t) s.1 s.2) (fun p k=>p++row1 t k) (fun p=>p) (fun i p=>p.length<=i) (fun i h p hp=>by
   have hl1:=row1_len t ks[i]
   refine⟨?_,by simp only[List.length_append];omega⟩
   unfold j4 cells_Row_j3
   rw[if_pos (by simp;omega),br h]
   simp only[Option.bind_some,tabM_get]
   rw[there_eq]
   simp only[Option.bind_some]
   unfold row1
   cases getM t ks[i]with
   |none=>rw[if_neg (by simp),bl (by omega)];simp
   |some x=>
    rw[if_pos (by simp),show arrIx 2 1=some 1 from rfl]
    simp only[Option.bind_some,cell_text]
    rw[dz (by simp;omega) (by simp;omega)]
    simp only[Option.bind_some]
    rw[bl (by omega)]
    rfl) (fun p _=>by
   unfold j4
   rw[if_neg (by simp)]) (b0:=[]) (Nat.le_refl _)
  have k1:iter (fun s=>j4 ks (tabM t) s.1 s.2) (0,[])=_:=key.1
  rw[k1]
  simp only[Option.bind_some,cells_Row_k1]
  have hf:∀(ks:List (List UInt8)) (p:List ApiSegment),ks.foldl (fun p k=>p++row1 t k) p=p++ks.flatMap (row1 t):=by
   intro ks
   induction ks with
   |nil=>intro p;simp
   |cons k ks ih=>intro p;rw[List.foldl_cons,ih];simp
  rw[hf]
  simp
end Go.Proofs.YtphkaogfinjbjaaGreatDoor
set_option linter.unusedSectionVars false
set_option linter.unusedSimpArgs false
set_option linter.unusedVariables false
namespace Go.Proofs.YtphkaogfinjbjaaGreatDoor
open Go Go.Cn
theorem row1_key {t:List ApiSegment} {k:List UInt8} {s:ApiSegment} (h:s∈row1 t k):s.Key=k/\s∈t:=by
 unfold row1 at h
 split at h
 ·rename_i x hx
  rw[List.mem_singleton.1 h]
  exact⟨rfl,getM_mem hx⟩
 ·cases h
theorem rowM_nodup (o a b:List ApiSegment):((rowM o a b).1.map (·.Key)).Nodup:=by
 unfold rowM
 simp only
 have hnd:=orderM_nodup (o.map (·.Key)) (a.map (·.Key)) (b.map (·.Key))
 split
 ·refine keyed_nodup _ _ (row1_len _) (fun k s hs=>(row1_key hs).1) _ ?_
  rw[← once_append hnd (outM_nodup o a b)]
  exact onceM_nodup _
 ·exact outM_nodup o a b
theorem rowM_mem {o a b:List ApiSegment} {s:ApiSegment}:s∈(rowM o a b).1↔s∈outM o a b:=by
 unfold rowM
 simp only
 split
 ·constructor
  ·intro h
   obtain⟨k,_,hk⟩:=List.mem_flatMap.1 h
   exact(row1_key hk).2
  ·intro h
   refine List.mem_flatMap.2 ⟨s.Key,?_,by rw[row1_there (outM_nodup o a b) h];exact List.mem_singleton.2 rfl⟩
   by_cases hl:s.Key∈(orderM (o.map (·.Key)) (a.map (·.Key)) (b.map (·.Key))).1
   ·exact List.mem_append_left _ hl
   ·exact List.mem_append_right _ (List.mem_filter.2 ⟨List.mem_map_of_mem (f:=(·.Key)) h,by simpa using hl⟩)
 ·exact Iff.rfl
theorem rowM_len {o a b:List ApiSegment} (ho:Few o) (ha:Few a) (hb:Few b):(rowM o a b).1.length<=1000000:=by
 have h1:(rowM o a b).1.Perm (outM o a b):=(List.perm_ext_iff_of_nodup (nodup_of_map (·.Key) (rowM_nodup o a b)) (nodup_of_map (·.Key) (outM_nodup o a b))).2 fun s=>rowM_mem
 have:=h1.length_eq
 have:=outM_len o a b
 have:=ho.len
 have:=ha.len
 have:=hb.len
 omega
end Go.Proofs.YtphkaogfinjbjaaGreatDoor
set_option linter.unusedSectionVars false
set_option linter.unusedSimpArgs false
set_option linter.unusedVariables false
namespace Go.Proofs.YtphkaogfinjbjaaGreatDoor
open Go Go.Cn
end Go.Proofs.YtphkaogfinjbjaaGreatDoor
set_option linter.unusedSectionVars false
set_option linter.unusedSimpArgs false
set_option linter.unusedVariables false
namespace Go.Proofs.YtphkaogfinjbjaaGreatDoor
open Go Go.Cn
theorem ref30_Row_eq {o a b:List ApiSegment} (ho:Few o) (ha:Few a) (hb:Few b):ref30_Row o a b=some (rowM o a b):=by
 have e3:=ho.len
 have e4:=ha.len
 have e5:=hb.len
 have e1:=outM_len o a b
 have e2:=badM_len o a b
 have n1:=outM_nodup o a b
 unfold ref30_Row rowM
 rw[ref30_Texts_eq ho ha hb]
 simp only[Option.bind_some]
 rw[na (by omega),na (by omega),na (by omega)]
 simp only[Option.bind_some]
 rw[ref30_Order_eq (by simpa using e3) (by simpa using e4) (by simpa using e5)]
 simp only[Option.bind_some]
 have hol:=orderM_len (o.map (·.Key)) (a.map (·.Key)) (b.map (·.Key)) (by simpa using e3) (by simpa using e4) (by simpa using e5)
 generalize orderM (o.map (·.Key)) (a.map (·.Key)) (b.map (·.Key))=l at *
 generalize badM o a b=c at *
 generalize outM o a b=t at *
 obtain⟨l,ok⟩:=l
 simp only at *
 cases ok with
 |false=>
  rw[if_pos (by rfl),dz (by simp;omega) (by simp;omega)]
  simp
 |true=>
  rw[if_neg (by simp)]
  have key:=d6 l (fun i (p:List ApiSegment)=>((i:Int),p)) (step:=fun s=>ju l t s.1 s.2) (fun p k=>p++row1 t k) (fun p=>p) (fun i p=>p.length<=i) (fun i h p hp=>by
   have hl1:=row1_len t l[i]
   refine⟨?_,by simp only[List.length_append];omega⟩
   unfold ju ref30_Row_j6
   rw[if_pos (by simp;omega),br h]
   simp only[Option.bind_some]
   rw[ref28_Get_eq (by omega)]
   simp only[Option.bind_some]
   unfold row1
   cases getM t l[i]with
   |none=>rw[if_neg (by simp),bl (by omega)];simp
   |some x=>
    rw[if_pos (by simp)]
    rw[dz (by simp;omega) (by simp;omega)]
    simp only[Option.bind_some]
    rw[bl (by omega)]
    rfl) (fun p _=>by
   unfold ju
   rw[if_neg (by simp)]) (b0:=[]) (Nat.le_refl _)
  have k1:iter (fun s=>ju l t s.1 s.2) (0,[])=_:=key.1
  rw[k1]
  simp only[Option.bind_some]
  have hf:∀(ks:List (List UInt8)) (p:List ApiSegment),ks.foldl (fun p k=>p++row1 t k) p=p++ks.flatMap (row1 t):=by
   intro ks
   induction ks with
   |nil=>intro p;simp
   |cons k ks ih=>intro p;rw[List.foldl_cons,ih];simp
  have hkl:=key.2
  rw[hf]at hkl ⊢
  simp only[List.nil_append]at hkl ⊢
  unfold ref30_Row_k4
  generalize hx0:l.flatMap (row1 t)=x0 at *
  have key2:=d6 t (fun i (p:List ApiSegment)=>((i:Int),p)) (step:=fun s=>jv t l s.1 s.2) (fun p s=>p++if !decide (s.Key∈l)then[s]else[]) (fun p=>p) (fun i p=>p.length<=x0.length+i/\p=x0++(t.take i).filter fun s=> !decide (s.Key∈l)) (fun i h p hp=>by
   obtain⟨hp1,hp2⟩:=hp
   refine⟨?_,by split<;>simp<;>omega,?_⟩
   ·unfold jv ref30_Row_j3
    rw[if_pos (by simp;omega),br h]
    simp only[Option.bind_some]
    rw[pg (by omega)]
    simp only[Option.bind_some]
    cases decide (t[i].Key∈l)with
    |true=>rw[if_neg (by simp),bl (by omega)];simp
    |false=>
     rw[if_pos (by simp),dz (by simp;omega) (by simp;omega)]
     simp only[Option.bind_some]
     rw[bl (by omega)]
     rfl
   ·rw[List.take_succ_eq_append_getElem h,List.filter_append,hp2,List.append_assoc]
    congr 2
    rw[List.filter_cons,List.filter_nil]) (fun p _=>by
   unfold jv
   rw[if_neg (by simp)]) (b0:=x0) ⟨by simp,by simp⟩
  have k2:iter (fun s=>jv t l s.1 s.2) (0,x0)=_:=key2.1
  rw[k2,key2.2.2]
  simp only[Option.bind_some,ref30_Row_k1,List.take_length,if_true]
  rw[List.flatMap_append,flat_rest t n1,hx0]
theorem Same_segs {l:List ApiSegment} (hl:l.length<=1000000000):ref28_Same l l=some true:=by
 unfold ref28_Same
 rw[if_neg (by simp),all_ok l (by omega) (fun i hi=>by
  unfold mz ref28_Same_j3
  rw[if_pos (by simp;omega),br hi]
  simp) (by
  unfold mz
  rw[if_neg (by simp)])]
 rfl
theorem Conflicts_refl {l:List ApiConflict} (hl:l.length<=1000000000):jn l l=some true:=by
 unfold jn
 rw[if_neg (by simp),all_ok l (by omega) (fun i hi=>by
  unfold ge l6
  rw[if_pos (by simp;omega),br hi]
  simp) (by
  unfold ge
  rw[if_neg (by simp)])]
 rfl
theorem rows_eq {o a b:List ApiSegment} (ho:Few o) (ha:Few a) (hb:Few b):dr o a b false=some true:=by
 have e3:=ho.len
 have e4:=ha.len
 have e5:=hb.len
 have e1:=outM_len o a b
 have e2:=badM_len o a b
 have e6:=rowM_len ho ha hb
 have e7:(rowM o a b).2.length<=1000000:=by
  unfold rowM
  simp only
  split
  ·simp only;omega
  ·simp;omega
 unfold dr fg
 rw[if_neg (by simp),cells_Row_eq ho ha hb,ref30_Row_eq ho ha hb,cells_Texts_eq ho ha hb,ref30_Texts_eq ho ha hb]
 simp only[Option.bind_some]
 rw[Same_segs (by omega)]
 simp only[Option.bind_some]
 rw[if_pos trivial,Conflicts_refl (by omega)]
 simp only[Option.bind_some]
 rw[if_pos trivial,Same_segs (by omega)]
 simp only[Option.bind_some]
 rw[if_pos trivial,Conflicts_refl (by omega)]
 rfl
theorem law_CellsRows (o a b:List ApiSegment):law30_CellsRows o a b=some true:=by
 obtain⟨b1,h1,f1⟩:=few30 o
 obtain⟨b2,h2,f2⟩:=few30 a
 obtain⟨b3,h3,f3⟩:=few30 b
 unfold law30_CellsRows
 rw[awake30,h1,h2,h3]
 simp only[Option.bind_some]
 rw[if_neg (by simp)]
 have ht:dr o a b true=some true:=by unfold dr;rw[if_pos rfl]
 cases b1 with
 |false=>rw[if_pos (by rfl),ht]
 |true=>
  rw[if_neg (by simp)]
  cases b2 with
  |false=>rw[if_pos (by rfl),ht]
  |true=>
   rw[if_neg (by simp)]
   cases b3 with
   |false=>exact ht
   |true=>exact rows_eq (f1 rfl) (f2 rfl) (f3 rfl)
end Go.Proofs.YtphkaogfinjbjaaGreatDoor
