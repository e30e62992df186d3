/- What any node looks like without any names: the law in plain Lean. -/
import Derived.Test.YtgkcoicaopilhaaGreatDoorZT
import Derived.Test.YtgkcoicaopilhaaGreatDoorZL
import Derived.Lib.ItoaNum
import Derived.Lib.Join
set_option linter.unusedSimpArgs false
set_option linter.unusedVariables false
set_option linter.unusedSectionVars false
set_option linter.unusedSectionVars false
set_option maxHeartbeats 4000000
namespace Go.Proofs.YtgkcoicaopilhaaGreatDoor
open Go Go.Cn
mutual
def fo :ApiNode->Nat
 |⟨_,_,_,_,_,_,_,_,kids⟩=>1+j3 kids
def j3 :List ApiNode->Nat
 | []=>0
 |n::l=>fo n+j3 l
end
mutual
def fj (f:List UInt8->List UInt8):ApiNode->ApiNode
 |⟨k,t,y,n,a,b,c,d,kids⟩=>⟨k,if k≠24 then f t else t,f y,n,a,b,c,d,kw f kids⟩
def kw (f:List UInt8->List UInt8):List ApiNode->List ApiNode
 | []=>[]
 |n::l=>fj f n::kw f l
end
mutual
def flatN :ApiNode->List ApiNode
 |⟨k,t,y,n,a,b,c,d,kids⟩=>⟨k,t,y,n,a,b,c,d,kids⟩::flatL kids
def flatL :List ApiNode->List ApiNode
 | []=>[]
 |n::l=>flatN n++flatL l
end
theorem ix (x:ApiNode):fo x=1+j3 x.Kids:=by cases x;simp[fo]
theorem nsize_pos (x:ApiNode):0<fo x:=by rw[ix];omega
theorem eraseL_map (f:List UInt8->List UInt8):∀l:List ApiNode,kw f l=l.map (fj f)
 | []=>by simp[kw]
 |n::l=>by simp[kw,eraseL_map f l]
theorem flatL_map :∀l:List ApiNode,flatL l=l.flatMap flatN
 | []=>by simp[flatL]
 |n::l=>by simp[flatL,flatL_map l]
theorem flatN_eq (x:ApiNode):flatN x=x::flatL x.Kids:=by cases x;simp[flatN]
theorem ib :∀l:List ApiNode,l.length<=j3 l
 | []=>by simp[j3]
 |n::l=>by have:=ib l;have:=nsize_pos n;simp[j3];omega
theorem iy {x:ApiNode}:∀{l:List ApiNode},x∈l->fo x<=j3 l
 |n::l,h=>by
  simp only[j3]
  rcases List.mem_cons.1 h with rfl|h
  ·omega
  ·have:=iy h;omega
mutual
theorem flatN_len :∀x:ApiNode,(flatN x).length=fo x
 |⟨_,_,_,_,_,_,_,_,kids⟩=>by simp[flatN,fo,flatL_len kids];omega
theorem flatL_len :∀l:List ApiNode,(flatL l).length=j3 l
 | []=>by simp[flatL,j3]
 |n::l=>by simp[flatL,j3,flatN_len n,flatL_len l]
end
mutual
theorem nsize_erase (f:List UInt8->List UInt8):∀x:ApiNode,fo (fj f x)=fo x
 |⟨_,_,_,_,_,_,_,_,kids⟩=>by simp[fj,fo,nsizes_erase f kids]
theorem nsizes_erase (f:List UInt8->List UInt8):∀l:List ApiNode,j3 (kw f l)=j3 l
 | []=>by simp[kw]
 |n::l=>by simp[kw,j3,nsize_erase f n,nsizes_erase f l]
end
mutual
theorem erase_twice {f:List UInt8->List UInt8} (hf:∀s,f (f s)=f s):∀x:ApiNode,fj f (fj f x)=fj f x
 |⟨k,_,_,_,_,_,_,_,kids⟩=>by
  by_cases hk:k=24<;>simp[fj,hk,hf,eraseL_twice hf kids]
theorem eraseL_twice {f:List UInt8->List UInt8} (hf:∀s,f (f s)=f s):∀l:List ApiNode,kw f (kw f l)=kw f l
 | []=>by simp[kw]
 |n::l=>by simp[kw,erase_twice hf n,eraseL_twice hf l]
end
mutual
theorem erase_id {f:List UInt8->List UInt8} (hf:∀s,f s=s):∀x:ApiNode,fj f x=x
 |⟨k,_,_,_,_,_,_,_,kids⟩=>by
  by_cases hk:k=24<;>simp[fj,hf,eraseL_id hf kids]
theorem eraseL_id {f:List UInt8->List UInt8} (hf:∀s,f s=s):∀l:List ApiNode,kw f l=l
 | []=>by simp[kw]
 |n::l=>by simp[kw,erase_id hf n,eraseL_id hf l]
end
theorem j5 {α:Type} {l:List α} {i:Nat} (h:i<l.length):idx l (i:Int)=some l[i]:=idx_nat h
theorem erase_at (f:List UInt8->List UInt8):∀(k:Nat) (x:ApiNode),fo x<=k->k<=1048576->fx k x (fun s=>some (f s))=some (fj f x):=by
  intro k
  induction k with
  |zero=>intro x h _;have:=nsize_pos x;omega
  |succ k ih=>
    intro x hx hk
    show F_shape_erase (fx k) x (fun s=>some (f s))=_
    generalize hR:fx k=R
    have hsz:=ix x
    have hlen:=ib x.Kids
    have hkid:∀y∈x.Kids,R y (fun s=>some (f s))=some (fj f y):=fun y hy=>by
      have:=iy hy
      rw[← hR]
      exact ih y (by omega) (by omega)
    have step:∀t:List UInt8,jp R (fun s=>some (f s)) {x with Text:=t}=some ⟨x.Kind,t,f x.Type_,x.N,x.From,x.To,x.At,x.TypeAt,x.Kids.map (fj f)⟩:=by
      intro t
      unfold jp
      simp only[Option.bind_some]
      have hmk:mkLen 104 ((x.Kids.length:Nat):Int)=some x.Kids.length:=by
        unfold mkLen
        rw[if_pos ⟨by omega,by omega,by omega⟩]
        simp
      rw[hmk]
      simp only[Option.bind_some]
      obtain⟨o,h1,h2⟩:=ii (f:=fun s:Int × List ApiNode=>jo R {x with Text:=t} (f x.Type_) (fun s=>some (f s)) s.1 s.2)
        (fun s=>∃i,i<=x.Kids.length/\s.1=(i:Int)/\s.2=(x.Kids.take i).map (fj f)++List.replicate (x.Kids.length - i) (ApiNode.mk 0 [] [] 0 0 0 0 0 []))
        (fun o=>o=x.Kids.map (fj f)) (fun s=>x.Kids.length - s.1.toNat) (by
          rintro⟨_,_⟩ ⟨i,hi,h1,h2⟩
          simp only at h1 h2
          subst h1 h2
          unfold jo
          by_cases hlt:i<x.Kids.length
          · left
            have hi2:idx x.Kids (i:Int)=some x.Kids[i]:=j5 hlt
            have hdr:List.replicate (x.Kids.length - i) (ApiNode.mk 0 [] [] 0 0 0 0 0 [])=ApiNode.mk 0 [] [] 0 0 0 0 0 []::List.replicate (x.Kids.length - (i+1)) (ApiNode.mk 0 [] [] 0 0 0 0 0 []):=by
              rw[show x.Kids.length - i=x.Kids.length - (i+1)+1 by omega,List.replicate_succ]
            have hl2:i<((x.Kids.take i).map (fj f)++List.replicate (x.Kids.length - i) (ApiNode.mk 0 [] [] 0 0 0 0 0 [])).length:=by simp;omega
            have hi3:=j5 hl2
            rw[if_pos (by simp[hlt])]
            simp only[hi2,Option.bind_some,hkid _ (List.getElem_mem hlt),hi3]
            refine⟨_,rfl,⟨i+1,by omega,by rw[fp (by omega) (by omega)];omega,?_⟩,?_⟩
            · simp only[Int.toNat_natCast]
              rw[hdr,List.set_append_right _ _ (by simp;omega)]
              have:i - ((x.Kids.take i).map (fj f)).length=0:=by simp;omega
              have ht:x.Kids.take (i+1)=x.Kids.take i++[x.Kids[i]]:=by rw[List.take_add_one,List.getElem?_eq_getElem hlt];rfl
              rw[this,List.set_cons_zero,ht,List.map_append,List.append_assoc]
              rfl
            · simp only[fp (show -9223372036854775808<=(i:Int)+1 by omega) (by omega)]
              omega
          · right
            rw[if_neg (by simp;omega)]
            refine⟨_,rfl,?_⟩
            have:i=x.Kids.length:=by omega
            subst this
            simp) (0,List.replicate x.Kids.length (ApiNode.mk 0 [] [] 0 0 0 0 0 [])) ⟨0,by omega,rfl,by simp⟩
      rw[h1]
      subst h2
      rfl
    unfold F_shape_erase
    have he:fj f x=⟨x.Kind,if x.Kind≠24 then f x.Text else x.Text,f x.Type_,x.N,x.From,x.To,x.At,x.TypeAt,x.Kids.map (fj f)⟩:=by
      cases x
      simp[fj,eraseL_map]
    rw[he]
    by_cases hk24:x.Kind=24
    · rw[if_neg (by simp[hk24])]
      refine(step x.Text).trans ?_
      simp[hk24]
    · rw[if_pos (by simp[hk24])]
      simp only[Option.bind_some]
      rw[step (f x.Text)]
      simp[hk24]
theorem eraser_eq {names:List (List UInt8)} (h:names.length<=140737488355328):shape_eraser names=some (fun s=>some (if s∈names/\s≠[]then[95]else s)):=by
 unfold shape_eraser
 rw[if_pos h]
def er (names:List (List UInt8)) (s:List UInt8):List UInt8:=if s∈names/\s≠[]then[95]else s
theorem Erase_eq {names:List (List UInt8)} {x:ApiNode} (hn:names.length<=140737488355328) (hx:fo x<=1048576):lf x names=some (fj (er names) x):=by
 unfold lf
 rw[eraser_eq hn]
 simp only[Option.bind_some]
 have:=erase_at (er names) 1048576 x hx (Nat.le_refl _)
 have h2:shape_erase x (fun s=>some (if s∈names/\s≠[]then[95]else s))=some (fj (er names) x):=this
 rw[h2]
 rfl
theorem exact_at :∀(k:Nat) (x:ApiNode),fo x<=k->k<=1048576->f0 k x x=some true:=by
 intro k
 induction k with
 |zero=>intro x h _;have:=nsize_pos x;omega
 |succ k ih=>
  intro x hx hk
  show F_ref11_Exact (f0 k) x x=_
  generalize hR:f0 k=R
  have hsz:=ix x
  have hlen:=ib x.Kids
  have hkid:∀y∈x.Kids,R y y=some true:=fun y hy=>by
   have:=iy hy
   rw[← hR]
   exact ih y (by omega) (by omega)
  unfold F_ref11_Exact
  simp only[bne_self_eq_false,beq_self_eq_true,Bool.not_true,Bool.false_eq_true,if_false]
  unfold ej
  simp only[Bool.false_eq_true,if_false]
  obtain⟨o,h1,h2⟩:=ii (f:=fun s:Int=>js R x x s) (fun s=>∃i:Nat,i<=x.Kids.length/\s=(i:Int)) (fun o=>o= .next ()) (fun s=>x.Kids.length - s.toNat) (by
   rintro _ ⟨i,hi,rfl⟩
   unfold js ref11_Exact_j3
   by_cases hlt:i<x.Kids.length
   ·left
    rw[if_pos (by simp[hlt])]
    simp only[j5 hlt,Option.bind_some,hkid _ (List.getElem_mem hlt)]
    refine⟨_,rfl,⟨i+1,by omega,by rw[fp (by omega) (by omega)];omega⟩,?_⟩
    simp only[fp (show -9223372036854775808<=(i:Int)+1 by omega) (by omega)]
    omega
   ·right
    rw[if_neg (by simp;omega)]
    exact⟨_,rfl,rfl⟩) 0 ⟨0,by omega,rfl⟩
  rw[h1]
  subst h2
  rfl
theorem Exact_same {x:ApiNode} (hx:fo x<=1048576):ref11_Exact x x=some true:=exact_at 1048576 x hx (Nat.le_refl _)
theorem deep_at :∀(k:Nat) (x:ApiNode) (d:Int),fo x<=k->k<=1048576->d<=60->∃b,gn k x d=some b:=by
 intro k
 induction k with
 |zero=>intro x d h _;have:=nsize_pos x;omega
 |succ k ih=>
  intro x d hx hk hd
  show ∃b,F_ref11_Deep (gn k) x d=some b
  generalize hR:gn k=R
  have hsz:=ix x
  have hlen:=ib x.Kids
  unfold F_ref11_Deep
  by_cases hd0:d<=0
  ·rw[if_pos (by simpa using hd0)]
   exact⟨_,rfl⟩
  ·rw[if_neg (by simpa using hd0)]
   have hkid:∀y∈x.Kids,∃b,R y (w64 (d - 1))=some b:=fun y hy=>by
    have:=iy hy
    rw[← hR,fp (by omega) (by omega)]
    exact ih y (d - 1) (by omega) (by omega) (by omega)
   obtain⟨o,h1,h2⟩:=ii (f:=fun s:Int=>kr R x d s) (fun s=>∃i:Nat,i<=x.Kids.length/\s=(i:Int)) (fun o=>True) (fun s=>x.Kids.length - s.toNat) (by
    rintro _ ⟨i,hi,rfl⟩
    unfold kr
    by_cases hlt:i<x.Kids.length
    ·rw[if_pos (by simp[hlt])]
     obtain⟨b,hb⟩:=hkid _ (List.getElem_mem hlt)
     simp only[j5 hlt,Option.bind_some,hb]
     cases b with
     |true=>exact .inr ⟨_,rfl,trivial⟩
     |false=>
      refine .inl ⟨_,rfl,⟨i+1,by omega,by rw[fp (by omega) (by omega)];omega⟩,?_⟩
      simp only[fp (show -9223372036854775808<=(i:Int)+1 by omega) (by omega)]
      omega
    ·right
     rw[if_neg (by simp;omega)]
     exact⟨_,rfl,trivial⟩) 0 ⟨0,by omega,rfl⟩
   rw[h1]
   cases o with
   |next p=>exact⟨_,rfl⟩
   |done r=>exact⟨_,rfl⟩
theorem all_at :∀(k:Nat) (x:ApiNode),fo x<=k->k<=1048576->ig k x 0=some (flatN x):=by
 intro k
 induction k with
 |zero=>intro x h _;have:=nsize_pos x;omega
 |succ k ih=>
  intro x hx hk
  show F_ref11_All (ig k) x 0=_
  generalize hR:ig k=R
  have hsz:=ix x
  have hlen:=ib x.Kids
  have hkid:∀y∈x.Kids,R y 0=some (flatN y):=fun y hy=>by
   have:=iy hy
   rw[← hR]
   exact ih y (by omega) (by omega)
  unfold F_ref11_All
  rw[if_pos (show((0:Int)==0)=true from rfl)]
  unfold ref11_All_j4
  rw[if_pos rfl]
  have happ:∀(a b:List ApiNode),a.length+b.length<=1048576->app 104 a b=some (a++b):=fun a b h=>by
   unfold app
   rw[if_pos ⟨by omega,by omega⟩]
  rw[happ [] [x] (by simp)]
  simp only[Option.bind_some,List.nil_append]
  unfold ref11_All_j3
  have hpre:∀i,i<=x.Kids.length->(flatL (x.Kids.take i)).length<=j3 x.Kids:=fun i hi=>by
   rw[← flatL_len x.Kids]
   conv=>rhs;rw[← List.take_append_drop i x.Kids]
   rw[flatL_map,flatL_map,List.flatMap_append,List.length_append]
   omega
  have htake:∀i (h:i<x.Kids.length),flatL (x.Kids.take (i+1))=flatL (x.Kids.take i)++flatN x.Kids[i]:=fun i h=>by
   rw[List.take_add_one,List.getElem?_eq_getElem h,flatL_map,flatL_map,List.flatMap_append]
   simp
  obtain⟨o,h1,h2⟩:=ii (f:=fun s:Int × List ApiNode=>lz R x 0 s.1 s.2) (fun s=>∃i:Nat,i<=x.Kids.length/\s.1=(i:Int)/\s.2=x::flatL (x.Kids.take i)) (fun o=>o=flatN x) (fun s=>x.Kids.length - s.1.toNat) (by
   rintro⟨_,_⟩ ⟨i,hi,h1,h2⟩
   simp only at h1 h2
   subst h1 h2
   unfold lz
   by_cases hlt:i<x.Kids.length
   ·left
    rw[if_pos (by simp[hlt])]
    have h3:=hpre (i+1) (by omega)
    rw[htake i hlt,List.length_append]at h3
    simp only[j5 hlt,Option.bind_some,hkid _ (List.getElem_mem hlt)]
    rw[happ _ _ (by simp;omega)]
    refine⟨_,rfl,⟨i+1,by omega,by rw[fp (by omega) (by omega)];omega,?_⟩,?_⟩
    ·rw[htake i hlt]
     rfl
    ·simp only[fp (show -9223372036854775808<=(i:Int)+1 by omega) (by omega)]
     omega
   ·right
    rw[if_neg (by simp;omega)]
    refine⟨_,rfl,?_⟩
    rw[List.take_of_length_le (by omega),← flatN_eq]) (0,[x]) ⟨0,by omega,rfl,by simp[flatL]⟩
  rw[h1]
  subst h2
  rfl
theorem Count_eq {x:ApiNode} (hx:fo x<=1048576):ref11_Count x=some (fo x:Int):=by
 unfold ref11_Count
 have h:ref11_All x 0=some (flatN x):=all_at 1048576 x hx (Nat.le_refl _)
 rw[h]
 simp[flatN_len]
end Go.Proofs.YtgkcoicaopilhaaGreatDoor
set_option linter.unusedSectionVars false
set_option linter.unusedVariables false
set_option linter.unusedSimpArgs false
set_option maxHeartbeats 4000000
namespace Go.Proofs.YtgkcoicaopilhaaGreatDoor
open Go Go.Cn
theorem gm {S ω:Type} {f:S->Option (S ⊕ ω)} (st:Nat->S) (n:Nat) {o:ω} (h:∀i,i<n->f (st i)=some (.inl (st (i+1)))) (hd:f (st n)=some (.inr o)):iter f (st 0)=some o:=by
 have key:∀j,j<=n->iter f (st (n - j))=some o:=by
  intro j
  induction j with
  |zero=>intro _;exact @iter_done noG _ _ _ _ _ hd
  |succ j ih=>
   intro hj
   have h1:=h (n - (j+1)) (by omega)
   rw[show n - (j+1)+1=n - j by omega]at h1
   rw[@iter_next noG _ _ _ _ _ h1]
   exact ih (by omega)
 have h2:=key n (Nat.le_refl _)
 rwa [Nat.sub_self]at h2
theorem catB {a b:List UInt8} {β:Type} {f:List UInt8->Option β} (h:a.length+b.length<=9000000000):(cat a b).bind f=f (a++b):=by
 unfold cat
 rw[if_pos (by omega)]
 rfl
theorem ip {n:Nat} (h:n<=9000000000):w64 ((n:Int)+1)=((n+1:Nat):Int):=by rw[fp (by omega) (by omega)];rfl
mutual
def da :ApiNode->Nat
 |⟨_,t,y,_,_,_,_,_,kids⟩=>t.length+y.length+48+cj kids
def cj :List ApiNode->Nat
 | []=>0
 |n::l=>da n+cj l
end
mutual
def okN :ApiNode->Prop
 |⟨_,_,_,n,_,_,_,_,kids⟩=>(-9223372036854775808<=n/\n<=9223372036854775807)/\okL kids
def okL :List ApiNode->Prop
 | []=>True
 |n::l=>okN n/\okL l
end
theorem fr (x:ApiNode):da x=x.Text.length+x.Type_.length+48+cj x.Kids:=by cases x;simp[da]
theorem okN_eq (x:ApiNode):okN x=((-9223372036854775808<=x.N/\x.N<=9223372036854775807)/\okL x.Kids):=by cases x;simp[okN]
theorem e6 {x:ApiNode}:∀{l:List ApiNode},x∈l->da x<=cj l
 |n::l,h=>by
  simp only[cj]
  rcases List.mem_cons.1 h with rfl|h
  ·omega
  ·have:=e6 h;omega
theorem okL_mem {x:ApiNode}:∀{l:List ApiNode},okL l->x∈l->okN x
 |n::l,h,hm=>by
  simp only[okL]at h
  rcases List.mem_cons.1 hm with rfl|hm
  ·exact h.1
  ·exact okL_mem h.2 hm
theorem l0 :∀(l:List ApiNode) (i:Nat),cj (l.take i)<=cj l
 | [],_=>by simp[cj]
 |n::l,0=>by simp[cj]
 |n::l,i+1=>by have:=l0 l i;simp only[List.take_succ_cons,cj];omega
theorem nbytesL_drop :∀(l:List ApiNode) (i:Nat),cj (l.drop i)<=cj l
 | [],_=>by simp[cj]
 |n::l,0=>by simp[cj]
 |n::l,i+1=>by have:=nbytesL_drop l i;simp only[List.drop_succ_cons,cj];omega
mutual
theorem nbytes_erase {f:List UInt8->List UInt8} (hf:∀s,(f s).length<=s.length):∀x:ApiNode,da (fj f x)<=da x
 |⟨k,t,y,_,_,_,_,_,kids⟩=>by
  have h1:=nbytesL_erase hf kids
  have h2:=hf t
  have h3:=hf y
  simp only[fj,da]
  split<;>omega
theorem nbytesL_erase {f:List UInt8->List UInt8} (hf:∀s,(f s).length<=s.length):∀l:List ApiNode,cj (kw f l)<=cj l
 | []=>by simp[kw]
 |n::l=>by
  have h1:=nbytes_erase hf n
  have h2:=nbytesL_erase hf l
  simp only[kw,cj]
  omega
end
mutual
theorem okN_erase (f:List UInt8->List UInt8):∀x:ApiNode,okN x->okN (fj f x)
 |⟨k,t,y,_,_,_,_,_,kids⟩,h=>by
  simp only[fj,okN]at h ⊢
  exact⟨h.1,okL_erase f kids h.2⟩
theorem okL_erase (f:List UInt8->List UInt8):∀l:List ApiNode,okL l->okL (kw f l)
 | [],_=>by simp[kw,okL]
 |n::l,h=>by
  simp only[kw,okL]at h ⊢
  exact⟨okN_erase f n h.1,okL_erase f l h.2⟩
end
def kb (l:List ApiNode) (i:Nat):Nat:=if h:i<l.length then da l[i]else 0
theorem kb3 (l:List ApiNode):kb l 0+kb l 1+kb l 2<=cj l:=by
 match l with
 | []=>simp[kb,cj]
 | [a]=>simp[kb,cj]
 | [a,b]=>simp[kb,cj]
 |a::b::c::r=>simp[kb,cj];omega
theorem kb01 (l:List ApiNode):kb l 0+cj (l.drop 1)<=cj l:=by
 match l with
 | []=>simp[kb,cj]
 |a::r=>simp[kb,cj]
theorem kb_le (l:List ApiNode) (i:Nat):kb l i<=cj l:=by
 unfold kb
 split
 ·exact e6 (List.getElem_mem _)
 ·omega
def decD :Nat->Nat->List UInt8
 | 0,_=>[]
 |k+1,u=>if u<10 then[UInt8.ofNat (48+u)]else decD k (u / 10)++[UInt8.ofNat (48+u % 10)]
theorem decD_eq :∀(k u:Nat),u<10 ^ k->0<k->Lib.decDigits u=decD k u
 | 0,_,_,h=>absurd h (Nat.lt_irrefl _)
 |k+1,u,h,_=>by
  rw[Lib.decDigits]
  unfold decD
  by_cases hu:u<10
  ·rw[dif_pos hu,if_pos hu]
  ·rw[dif_neg hu,if_neg hu]
   rw[Nat.pow_succ]at h
   have hk:0<k:=by
    rcases Nat.eq_zero_or_pos k with rfl|hk
    ·simp at h;omega
    ·exact hk
   rw[decD_eq k (u / 10) (by omega) hk]
theorem decD_len :∀(k u:Nat),(decD k u).length<=k
 | 0,_=>by simp[decD]
 |k+1,u=>by
  unfold decD
  split
  ·simp
  ·have:=decD_len k (u / 10)
   simp
   exact this
theorem itoa_len {n:Int} (h1: -9223372036854775808<=n) (h2:n<=9223372036854775807):(Lib.itoa n).length<=21:=by
 have key:∀u:Nat,u<=9223372036854775808->(Lib.decDigits u).length<=20:=fun u hu=>by
  rw[decD_eq 20 u (by omega) (by omega)]
  exact decD_len 20 u
 unfold Lib.itoa
 split
 ·have:=key n.natAbs (by omega)
  simp only[List.length_cons]
  omega
 ·have:=key n.toNat (by omega)
  omega
theorem wrap_digit {d:Nat} (h:d<10):IntKind.wrap .u8 (48+(d:Int))=48+(d:Int):=by
 unfold IntKind.wrap
 have e1:(2:Int) ^ (IntKind.u8.bits)=256:=rfl
 have e3:IntKind.u8.signed=false:=rfl
 simp only[e1,e3,Bool.false_and]
 have:((48:Int)+(d:Int)) % 256=48+(d:Int):=by omega
 simp[this]
theorem digit_of {u:Nat} (h:u<=9223372036854775807):strOf [IntKind.wrap .u8 (w64 (48+(Int.tmod (u:Int) 10)))]=[UInt8.ofNat (48+u % 10)]:=by
 have e:Int.tmod (u:Int) 10=((u % 10:Nat):Int):=by
  rw[Int.tmod_eq_emod_of_nonneg (by omega)]
  omega
 rw[e,fp (by omega) (by omega),wrap_digit (by omega)]
 unfold strOf
 simp only[List.map_cons,List.map_nil]
 congr 2
theorem digits_loop (R:dt):∀(k u:Nat) (acc:List UInt8),u<10 ^ k->0<k->acc.length+k<=1000->u<=9223372036854775807->
  iter (fun s=>gv R s.1 s.2) ((u:Int),acc)=some (Lib.decDigits u++acc):=by
 intro k
 induction k with
 |zero=>intro u acc _ h;exact absurd h (Nat.lt_irrefl _)
 |succ k ih=>
  intro u acc hk _ ha hu
  have e:Int.tdiv (u:Int) 10=((u / 10:Nat):Int):=by
   rw[Int.tdiv_eq_ediv_of_nonneg (by omega)]
   omega
  have step:gv R (u:Int) acc=if u<10 then some (.inr ([UInt8.ofNat (48+u % 10)]++acc))else some (.inl (((u / 10:Nat):Int),[UInt8.ofNat (48+u % 10)]++acc)):=by
   unfold gv
   rw[digit_of hu,catB (by simp only[List.length_cons,List.length_nil];omega),e,fp (by omega) (by omega)]
   by_cases h10:u<10
   ·rw[if_pos (by simp;omega),if_pos h10]
   ·rw[if_neg (by simp;omega),if_neg h10]
  by_cases h10:u<10
  ·rw[if_pos h10]at step
   rw[@iter_done noG _ _ _ _ _ step,Lib.decDigits,dif_pos h10,Nat.mod_eq_of_lt h10]
  ·rw[if_neg h10]at step
   rw[Nat.pow_succ]at hk
   have hk0:0<k:=by
    rcases Nat.eq_zero_or_pos k with rfl|hk0
    ·simp at hk;omega
    ·exact hk0
   rw[@iter_next noG _ _ _ _ _ step,ih (u / 10) _ (by omega) hk0 (by simp only[List.length_append,List.length_cons,List.length_nil];omega) (by omega),Lib.decDigits.eq_1 u,dif_neg h10,List.append_assoc]
theorem digits_nat (R:dt) {u:Nat} (h:u<=9223372036854775807):gl R (u:Int)=some (Lib.decDigits u):=by
 unfold gl
 rw[if_neg (by simp),digits_loop R 20 u [] (by omega) (by omega) (by simp) h,List.append_nil]
theorem digits_at (n:Nat) {i:Int} (h1: -9223372036854775808<=i) (h2:i<=9223372036854775807):eh (n+2) i=some (Lib.itoa i):=by
 show gl (eh (n+1)) i=_
 unfold Lib.itoa
 by_cases hi:i<0
 ·rw[if_pos hi]
  by_cases hm:i= -9223372036854775808
  ·subst hm
   have e:Lib.decDigits (-9223372036854775808:Int).natAbs=decD 20 9223372036854775808:=decD_eq 20 9223372036854775808 (by omega) (by omega)
   rw[e]
   unfold gl
   rw[if_pos (by decide),if_pos (by decide)]
   exact congrArg some (by decide+kernel)
  ·unfold gl
   rw[if_pos (by simp[hi]),if_neg (by simpa using hm),fp (by omega) (by omega)]
   have e:(-i)=((i.natAbs:Nat):Int):=by omega
   rw[e]
   rw[show eh (n+1) ((i.natAbs:Nat):Int)=some (Lib.decDigits i.natAbs)from digits_nat (eh n) (by omega)]
   have hl:(Lib.decDigits i.natAbs).length<=20:=by
    rw[decD_eq 20 _ (by omega) (by omega)]
    exact decD_len 20 _
   simp only[Option.bind_some]
   rw[catB (by simp only[List.length_cons,List.length_nil];omega)]
   simp
 ·rw[if_neg hi]
  have e:i=((i.toNat:Nat):Int):=by omega
  have:=digits_nat (eh (n+1)) (u:=i.toNat) (by omega)
  rw[← e]at this
  exact this
theorem digits_eq {i:Int} (h1: -9223372036854775808<=i) (h2:i<=9223372036854775807):ref13_digits i=some (Lib.itoa i):=digits_at 1048574 h1 h2
theorem format_eq {i:Int} (h1: -9223372036854775808<=i) (h2:i<=9223372036854775807):i6 i 10=some (Lib.itoa i):=by
 unfold i6 e8
 rw[if_pos ⟨rfl,h1,h2⟩]
 rfl
def ops :List (List UInt8):=[[42],[47],[37],[43],[45],[60],[60,61],[62],[62,61],[61,61],[33,61],[38,38],[124,124]]
def opRows :List (List (List UInt8)):=[[[124,124]],[[38,38]],[[61,61],[33,61]],[[60],[60,61],[62],[62,61]],[[43],[45]],[[42],[47],[37]]]
theorem Binds_l4 (i:Int) (s:List UInt8) (j:Int):gc i s j=(idx opRows i).bind fun x7=>(if(decide (j<(x7.length:Int)))=true then(idx opRows i).bind fun x9=>(idx x9 j).bind fun x10=>(if(x10==s)=true then some (.inr (.done (.inr (.done (w64 (i+1))))))else some (.inl (w64 (j+1))))else some (.inr (.next ()))):=rfl
theorem row_miss {i:Nat} {s:List UInt8} {row:List (List UInt8)} (hr:idx opRows (i:Int)=some row) (hs:s ∉ row) (hl:row.length<=1000):iter (fun x=>gc (i:Int) s x) 0=some (.next ()):=by
 refine gm (fun j=>(j:Int)) row.length (fun j hj=> ?_) ?_
 ·show gc _ _ _=_
  rw[Binds_l4,hr]
  simp only[Option.bind_some]
  rw[if_pos (by simp[hj]),j5 hj]
  simp only[Option.bind_some]
  rw[if_neg (by rw[beq_iff_eq];intro h;exact hs (h▸List.getElem_mem hj)),ip (by omega)]
 ·show gc _ _ _=_
  rw[Binds_l4,hr]
  simp only[Option.bind_some]
  rw[if_neg (by simp)]
theorem Binds_eq (s:List UInt8):∃b:Int,0<=b/\b<=6/\print_Binds s=some b/\ref13_Binds s=some b:=by
  by_cases h:s∈ops
  · simp only[ops,List.mem_cons,List.not_mem_nil,or_false]at h
    rcases h with rfl|rfl|rfl|rfl|rfl|rfl|rfl|rfl|rfl|rfl|rfl|rfl|rfl
    · exact⟨6,by decide,by decide,by decide+kernel,by decide+kernel⟩
    · exact⟨6,by decide,by decide,by decide+kernel,by decide+kernel⟩
    · exact⟨6,by decide,by decide,by decide+kernel,by decide+kernel⟩
    · exact⟨5,by decide,by decide,by decide+kernel,by decide+kernel⟩
    · exact⟨5,by decide,by decide,by decide+kernel,by decide+kernel⟩
    · exact⟨4,by decide,by decide,by decide+kernel,by decide+kernel⟩
    · exact⟨4,by decide,by decide,by decide+kernel,by decide+kernel⟩
    · exact⟨4,by decide,by decide,by decide+kernel,by decide+kernel⟩
    · exact⟨4,by decide,by decide,by decide+kernel,by decide+kernel⟩
    · exact⟨3,by decide,by decide,by decide+kernel,by decide+kernel⟩
    · exact⟨3,by decide,by decide,by decide+kernel,by decide+kernel⟩
    · exact⟨2,by decide,by decide,by decide+kernel,by decide+kernel⟩
    · exact⟨1,by decide,by decide,by decide+kernel,by decide+kernel⟩
  · refine⟨0,by decide,by decide,?_,?_⟩
    · simp only[ops,List.mem_cons,List.not_mem_nil,or_false,not_or]at h
      obtain⟨h1,h2,h3,h4,h5,h6,h7,h8,h9,h10,h11,h12,h13⟩:=h
      simp[print_Binds,i4,k5,iv,k6,k7,h1,h2,h3,h4,h5,h6,h7,h8,h9,h10,h11,h12,h13]
    · unfold ref13_Binds
      have hmem:∀(i:Nat) row,opRows[i]? =some row->s ∉ row:=fun i row hr hs=>by
        refine h ?_
        match i,hr with
        | 0,hr=>cases hr;revert hs;simp only[ops,List.mem_cons,List.not_mem_nil,or_false];intro hs;simp[hs]
        | 1,hr=>cases hr;revert hs;simp only[ops,List.mem_cons,List.not_mem_nil,or_false];intro hs;simp[hs]
        | 2,hr=>cases hr;revert hs;simp only[ops,List.mem_cons,List.not_mem_nil,or_false];intro hs;rcases hs with hs|hs<;>simp[hs]
        | 3,hr=>cases hr;revert hs;simp only[ops,List.mem_cons,List.not_mem_nil,or_false];intro hs;rcases hs with hs|hs|hs|hs<;>simp[hs]
        | 4,hr=>cases hr;revert hs;simp only[ops,List.mem_cons,List.not_mem_nil,or_false];intro hs;rcases hs with hs|hs<;>simp[hs]
        | 5,hr=>cases hr;revert hs;simp only[ops,List.mem_cons,List.not_mem_nil,or_false];intro hs;rcases hs with hs|hs|hs<;>simp[hs]
        |n+6,hr=>cases hr
      have hit:iter (fun x=>ge s x) 0=some (.next ()):=by
       refine gm (f:=fun x=>ge s x) (fun j=>(j:Int)) 6 (o:= .next ()) (fun i hi=> ?_) ?_
       · have hlt:i<opRows.length:=hi
         have hr:idx opRows (i:Int)=some opRows[i]:=j5 hlt
         have hl:∀row∈opRows,row.length<=1000:=by decide
         show ge s (i:Int)=_
         unfold ge
         rw[if_pos (by simp;omega),row_miss hr (hmem i _ (List.getElem?_eq_getElem hlt)) (hl _ (List.getElem_mem hlt))]
         simp only[Option.bind_some,ref13_Binds_k3]
         rw[ip (by omega)]
       · rfl
      rw[hit]
      rfl
theorem binding_eq (y:ApiNode):∃b:Int,b<=8/\print_binding y=some b/\ref13_binding y=some b:=by
  unfold print_binding ref13_binding jm ji
  by_cases h:y.Kind=24
  · obtain⟨b,_,hb,h1,h2⟩:=Binds_eq y.Text
    refine⟨b,by omega,?_,?_⟩
    · rw[if_pos (by simp[h]),h1];rfl
    · rw[if_pos (by simp[h]),h2];rfl
  · by_cases h2:y.Kind=22
    · refine⟨7,by omega,?_,?_⟩<;>simp[h2]
    · by_cases h3:y.Kind=23
      · refine⟨7,by omega,?_,?_⟩<;>simp[h3]
      · refine⟨8,by omega,?_,?_⟩<;>simp[h,h2,h3]
end Go.Proofs.YtgkcoicaopilhaaGreatDoor
set_option linter.unusedSectionVars false
set_option linter.unusedVariables false
set_option linter.unusedSimpArgs false
set_option maxHeartbeats 4000000
namespace Go.Proofs.YtgkcoicaopilhaaGreatDoor
open Go Go.Cn
abbrev sepC :List UInt8:=[44,32]
theorem join_take {l:List (List UInt8)} {i:Nat} {y:List UInt8} (h:l[i]? =some y):Lib.join (l.take (i+1)) sepC=(if i=0 then[]else Lib.join (l.take i) sepC++sepC)++y:=by
 cases l with
 |nil=>simp at h
 |cons x r=>
  cases i with
  |zero=>
   simp only[List.getElem?_cons_zero,Option.some.injEq]at h
   subst h
   simp[Lib.join_one]
  |succ k=>
   simp only[List.getElem?_cons_succ]at h
   rw[if_neg (by omega),List.take_succ_cons,List.take_succ_cons,Lib.join_cons,Lib.join_cons,Lib.joinTail_take_succ _ _ _ _ h]
   simp[List.append_assoc]
theorem tail_le {e:ApiNode->List UInt8}:∀{l:List ApiNode},(∀y∈l,(e y).length+8<=da y)->(Lib.joinTail sepC (l.map e)).length<=cj l
 | [],_=>by simp[Lib.joinTail]
 |n::l,h=>by
  have h1:=tail_le (e:=e) (l:=l) (fun y hy=>h y (List.mem_cons_of_mem _ hy))
  have h2:=h n (List.mem_cons_self ..)
  simp only[Lib.joinTail,List.map_cons,List.flatten_cons,List.length_append,List.length_cons,List.length_nil,cj]at h1 ⊢
  omega
theorem join_le {e:ApiNode->List UInt8} {l:List ApiNode} (h:∀y∈l,(e y).length+8<=da y):(Lib.join (l.map e) sepC).length<=cj l:=by
 cases l with
 |nil=>simp[Lib.join_nil,cj]
 |cons n l=>
  have h1:=tail_le (e:=e) (l:=l) (fun y hy=>h y (List.mem_cons_of_mem _ hy))
  have h2:=h n (List.mem_cons_self ..)
  rw[List.map_cons,Lib.join_cons,List.length_append]
  simp only[cj]
  omega
theorem app16 {a b:List (List UInt8)} (h:a.length+b.length<=9000000):app 16 a b=some (a++b):=by
 unfold app
 rw[if_pos ⟨by omega,by omega⟩]
theorem list_eq {l:List ApiNode} {f:ApiNode->Option (List UInt8)} {e:ApiNode->List UInt8} (h:∀y∈l,f y=some (e y)/\(e y).length+8<=da y) (hl:l.length<=1048576) (hb:cj l<=2000000000):
  print_list l f=some ([40]++Lib.join (l.map e) sepC++[41]):=by
 unfold print_list
 have hit:iter (fun s:Int × List (List UInt8)=>il l f s.1 s.2) (0,[])=some (l.map e):=by
  refine gm (f:=fun s:Int × List (List UInt8)=>il l f s.1 s.2) (fun i=>((i:Int),(l.take i).map e)) l.length (fun i hi=> ?_) ?_
  ·simp only
   unfold il
   rw[if_pos (by simp[hi]),j5 hi]
   simp only[Option.bind_some]
   rw[(h _ (List.getElem_mem hi)).1]
   simp only[Option.bind_some]
   rw[app16 (by simp;omega)]
   simp only[Option.bind_some]
   rw[ip (by omega),List.take_add_one,List.getElem?_eq_getElem hi,List.map_append]
   rfl
  ·simp only
   unfold il
   rw[if_neg (by simp)]
   simp
 rw[hit]
 have hj:=join_le (e:=e) (l:=l) (fun y hy=>(h y hy).2)
 simp only[Option.bind_some,print_list_k1]
 have hjoin:strings_Join (l.map e) sepC=some (Lib.join (l.map e) sepC):=by
  unfold strings_Join
  rw[if_pos ⟨by simp;omega,by omega⟩]
 rw[hjoin]
 simp only[Option.bind_some]
 rw[catB (by simp only[List.length_cons,List.length_nil];omega),catB (by simp only[List.length_append,List.length_cons,List.length_nil];omega)]
def Ex (e:ApiNode->List UInt8) (Q:cv) (Q':cn) (x:ApiNode):Prop:=∀y∈x.Kids,Q.2.1 y=some (e y)/\Q'.2.1 y=some (e y)
def Bd (e:ApiNode->List UInt8) (x:ApiNode):Prop:=∀y∈x.Kids,(e y).length+8<=da y
section
variable {x:ApiNode} {e:ApiNode->List UInt8}
theorem kid_eq (hB:Bd e x) (hb:da x<=2000000000) (i:Nat) (least:Int):
  ∃u,(∀Q Q',Ex e Q Q' x->lj Q x i least=some u/\lh Q' x i least=some u)/\u.length<=kb x.Kids i/\(8<least->∀hi:i<x.Kids.length,u=[40]++e x.Kids[i]++[41]):=by
 by_cases hi:i<x.Kids.length
 ·have hc:¬decide ((i:Int)≥(x.Kids.length:Int))=true:=by simp;omega
  have h3:=hB _ (List.getElem_mem hi)
  obtain⟨b,hb8,b1,b2⟩:=binding_eq x.Kids[i]
  have hn:=e6 (List.getElem_mem hi)
  have hx:=fr x
  have hk:kb x.Kids i=da x.Kids[i]:=by unfold kb;rw[dif_pos hi]
  by_cases hl:b<least
  ·refine⟨[40]++e x.Kids[i]++[41],fun Q Q' h=> ?_,by simp only[List.length_append,List.length_cons,List.length_nil];omega,fun _ _=>rfl⟩
   obtain⟨h1,h2⟩:=h _ (List.getElem_mem hi)
   unfold lj lh
   rw[if_neg hc,if_neg hc,j5 hi]
   simp only[Option.bind_some,h1,h2,b1,b2]
   rw[if_pos (by simp[hl]),catB (by simp only[List.length_cons,List.length_nil];omega),catB (by simp only[List.length_append,List.length_cons,List.length_nil];omega)]
   exact⟨rfl,rfl⟩
  ·refine⟨e x.Kids[i],fun Q Q' h=> ?_,by omega,fun hl'=>by omega⟩
   obtain⟨h1,h2⟩:=h _ (List.getElem_mem hi)
   unfold lj lh
   rw[if_neg hc,if_neg hc,j5 hi]
   simp only[Option.bind_some,h1,h2,b1,b2]
   rw[if_neg (by simp;omega)]
   exact⟨rfl,rfl⟩
 ·have hc:decide ((i:Int)≥(x.Kids.length:Int))=true:=by simp;omega
  refine⟨[],fun Q Q' h=> ?_,by simp,fun _ hi'=>absurd hi' hi⟩
  unfold lj lh
  rw[if_pos hc,if_pos hc]
  exact⟨rfl,rfl⟩
theorem args_eq (hB:Bd e x) (hb:da x<=2000000000) (hl:x.Kids.length<=1048576) (i:Nat) (hi:i<=1):
  ∃u,(∀Q Q',Ex e Q Q' x->i9 Q x i=some u/\i7 Q' x i=some u)/\u.length<=2+cj (x.Kids.drop i):=by
 have hx:=fr x
 have hd:=nbytesL_drop x.Kids i
 have hmem:∀y∈x.Kids.drop i,y∈x.Kids:=fun y hy=>List.mem_of_mem_drop hy
 have hj:=join_le (e:=e) (l:=x.Kids.drop i) (fun y hy=>hB y (hmem y hy))
 refine⟨[40]++Lib.join ((x.Kids.drop i).map e) sepC++[41],fun Q Q' h=>⟨?_,?_⟩,by simp only[List.length_append,List.length_cons,List.length_nil];omega⟩
 ·unfold i9
  have hs:subL x.Kids (if(x.Kids.length:Int)<(i:Int)then(x.Kids.length:Int)else(i:Int)) (x.Kids.length:Int)=some (x.Kids.drop i):=by
   unfold subL
   by_cases hc:(x.Kids.length:Int)<(i:Int)
   ·rw[if_pos hc,if_pos ⟨by omega,by omega,by omega⟩]
    simp
    omega
   ·rw[if_neg hc,if_pos ⟨by omega,by omega,by omega⟩]
    simp
  rw[hs]
  simp only[Option.bind_some]
  rw[list_eq (e:=e) (fun y hy=>⟨(h y (hmem y hy)).1,hB y (hmem y hy)⟩) (by simp;omega) (by omega)]
  rfl
 ·unfold i7
  have hit:iter (fun s:List UInt8 × Int=>em Q' x (i:Int) s.1 s.2) ([40],(i:Int))=some ([40]++Lib.join ((x.Kids.drop i).map e) sepC):=by
   have:=gm (f:=fun s:List UInt8 × Int=>em Q' x (i:Int) s.1 s.2) (fun j=>([40]++Lib.join (((x.Kids.drop i).map e).take j) sepC,((i+j:Nat):Int))) (x.Kids.drop i).length (o:=[40]++Lib.join ((x.Kids.drop i).map e) sepC) (fun j hj=> ?_) ?_
   ·simpa [Lib.join_nil] using this
   ·have hj2:i+j<x.Kids.length:=by simp at hj;omega
    have hy:=h _ (List.getElem_mem hj2)
    have hy8:=hB _ (List.getElem_mem hj2)
    have hjj:=join_le (e:=e) (l:=(x.Kids.drop i).take j) (fun y hy=>hB y (hmem y (List.mem_of_mem_take hy)))
    have ht:=l0 (x.Kids.drop i) j
    rw[List.map_take]at hjj
    have hm:=e6 (List.getElem_mem hj2)
    have he:((x.Kids.drop i).map e)[j]? =some (e x.Kids[i+j]):=by
     rw[List.getElem?_map,List.getElem?_drop,List.getElem?_eq_getElem hj2]
     rfl
    simp only
    unfold em io
    rw[if_pos (by simp;omega),j5 hj2]
    simp only[Option.bind_some,hy.2]
    by_cases h0:j=0
    ·subst h0
     rw[if_neg (by simp),catB (by simp only[List.length_append,List.length_cons,List.length_nil];omega),ip (by omega),join_take he]
     simp[Lib.join_nil]
    ·rw[if_pos (by simp;omega),catB (by simp only[List.length_append,List.length_cons,List.length_nil];omega),catB (by simp only[List.length_append,List.length_cons,List.length_nil];omega),ip (by omega),join_take he,if_neg h0]
     simp[List.append_assoc,Nat.add_assoc]
   ·simp only
    unfold em
    have hl2:¬((i+(x.Kids.drop i).length:Nat):Int)<(x.Kids.length:Int):=by simp;omega
    rw[if_neg (by simpa using hl2),List.take_of_length_le (by simp)]
  rw[hit]
  simp only[Option.bind_some,j6]
  rw[catB (by simp only[List.length_append,List.length_cons,List.length_nil];omega)]
end
end Go.Proofs.YtgkcoicaopilhaaGreatDoor
set_option linter.unusedSectionVars false
set_option linter.unusedVariables false
set_option linter.unusedSimpArgs false
set_option maxHeartbeats 4000000
namespace Go.Proofs.YtgkcoicaopilhaaGreatDoor
open Go Go.Cn
section
variable {x:ApiNode} {e:ApiNode->List UInt8}
theorem negative_eq (y:ApiNode):jx y=some (decide (y.Kind=23\/(y.Kind=13/\y.N<0))):=by
 unfold jx gp
 by_cases h:y.Kind=23
 ·simp[h]
 ·by_cases h2:y.Kind=13
  ·simp[h2]
  ·simp[h,h2]
theorem neg_eq (hB:Bd e x) (hb:da x<=2000000000) (hk:x.Kind=23):
  ∃t,(∀Q Q',Ex e Q Q' x->(∀y∈x.Kids,(bq Q').2.1 y=some (e y))->bt (cg Q) x=some t/\br (bq Q') x=some t)/\t.length+8<=da x:=by
 have hx:=fr x
 have h3:=kb_le x.Kids 0
 obtain⟨u,a,a3,_⟩:=kid_eq hB hb 0 7
 obtain⟨v,b,b3,b4⟩:=kid_eq hB hb 0 9
 have c1:∀Q,bt (cg Q) x=(if(decide ((x.Kids.length:Int)>0))=true then(idx x.Kids 0).bind fun x31=>(jx x31).bind fun x32=>dx (cg Q) x x32 else dx (cg Q) x false):=fun Q=>by
  unfold bt
  simp only[hk,Int.reduceBEq,Bool.false_eq_true,↓reduceIte]
 have c2:∀Q',br (bq Q') x=(if(decide ((x.Kids.length:Int)>0))=true then(idx x.Kids 0).bind fun x31=>(if(x31.Kind==23)=true then cu (bq Q') x true else(idx x.Kids 0).bind fun x33=>(if(x33.Kind==13)=true then(idx x.Kids 0).bind fun x35=>cu (bq Q') x (decide (x35.N<0))else cu (bq Q') x false))else cu (bq Q') x false):=fun Q'=>by
  unfold br
  simp only[hk,Int.reduceBEq,Bool.false_eq_true,↓reduceIte]
 have plain1:∀Q Q',Ex e Q Q' x->dx (cg Q) x false=some ([45]++u):=fun Q Q' h=>by
  unfold dx fi
  rw[if_neg (by simp),show(cg Q).1 x 0 7=some u from(a Q Q' h).1]
  simp only[Option.bind_some]
  rw[catB (by simp only[List.length_cons,List.length_nil];omega)]
 have plain2:∀Q Q',Ex e Q Q' x->cu (bq Q') x false=some ([45]++u):=fun Q Q' h=>by
  unfold cu
  rw[if_neg (by simp),show(bq Q').1 x 0 7=some u from(a Q Q' h).2]
  simp only[Option.bind_some]
  rw[catB (by simp only[List.length_cons,List.length_nil];omega)]
 by_cases hl:0<x.Kids.length
 ·have hi:idx x.Kids 0=some x.Kids[0]:=j5 hl
  have hc:decide ((x.Kids.length:Int)>0)=true:=by simp;omega
  by_cases hn:x.Kids[0].Kind=23\/(x.Kids[0].Kind=13/\x.Kids[0].N<0)
  ·have hm:=e6 (List.getElem_mem hl)
   have h8:=hB _ (List.getElem_mem hl)
   have hv:=b4 (by decide) hl
   refine⟨[45]++v,fun Q Q' h hR'=>⟨?_,?_⟩,by simp only[List.length_append,List.length_cons,List.length_nil];omega⟩
   ·rw[c1,if_pos hc,hi]
    simp only[Option.bind_some]
    rw[negative_eq]
    simp only[Option.bind_some]
    rw[decide_eq_true hn]
    unfold dx fi
    rw[if_pos rfl,show(cg Q).1 x 0 9=some v from(b Q Q' h).1]
    simp only[Option.bind_some]
    rw[catB (by simp only[List.length_cons,List.length_nil];omega)]
   ·have hbr:cu (bq Q') x true=some ([45]++v):=by
     unfold cu
     rw[if_pos rfl,hi]
     simp only[Option.bind_some]
     rw[hR' _ (List.getElem_mem hl)]
     simp only[Option.bind_some]
     rw[catB (by simp only[List.length_cons,List.length_nil];omega),catB (by simp only[List.length_append,List.length_cons,List.length_nil];omega),hv]
     simp
    rw[c2,if_pos hc,hi]
    simp only[Option.bind_some]
    rcases hn with hn|⟨hn,hn2⟩
    ·rw[if_pos (by simp[hn])];exact hbr
    ·rw[if_neg (by simp[hn]),if_pos (by simp[hn]),decide_eq_true hn2];exact hbr
  ·rw[not_or,not_and]at hn
   refine⟨[45]++u,fun Q Q' h hR'=>⟨?_,?_⟩,by simp only[List.length_append,List.length_cons,List.length_nil];omega⟩
   ·rw[c1,if_pos hc,hi]
    simp only[Option.bind_some]
    rw[negative_eq]
    simp only[Option.bind_some]
    rw[decide_eq_false (fun h=>h.elim hn.1 fun h=>hn.2 h.1 h.2)]
    exact plain1 Q Q' h
   ·rw[c2,if_pos hc,hi]
    simp only[Option.bind_some]
    rw[if_neg (by simpa using hn.1)]
    by_cases h13:x.Kids[0].Kind=13
    ·rw[if_pos (by simp[h13]),decide_eq_false (hn.2 h13)]
     exact plain2 Q Q' h
    ·rw[if_neg (by simpa using h13)]
     exact plain2 Q Q' h
 ·have hc:¬decide ((x.Kids.length:Int)>0)=true:=by rw[decide_eq_true_eq];omega
  refine⟨[45]++u,fun Q Q' h hR'=>⟨?_,?_⟩,by simp only[List.length_append,List.length_cons,List.length_nil];omega⟩
  ·rw[c1,if_neg hc];exact plain1 Q Q' h
  ·rw[c2,if_neg hc];exact plain2 Q Q' h
theorem expr_step (hB:Bd e x) (hb:da x<=2000000000) (hl:x.Kids.length<=1048576) (hr: -9223372036854775808<=x.N/\x.N<=9223372036854775807):
    ∃t,(∀Q Q',Ex e Q Q' x->(∀y∈x.Kids,(bq Q').2.1 y=some (e y))->bt (cg Q) x=some t/\br (bq Q') x=some t)/\t.length+8<=da x:=by
  have hx:=fr x
  have h3:=kb3 x.Kids
  have h01:=kb01 x.Kids
  by_cases hk:x.Kind=13
  · refine⟨Lib.itoa x.N,fun Q Q1 h hR=>⟨?_,?_⟩,by have:=itoa_len hr.1 hr.2;omega⟩
    · unfold bt
      simp only[hk,Int.reduceBEq,Bool.false_eq_true,↓reduceIte]
      rw[format_eq hr.1 hr.2]
      rfl
    · unfold br
      simp only[hk,Int.reduceBEq,Bool.false_eq_true,↓reduceIte]
      rw[digits_eq hr.1 hr.2]
      rfl
  by_cases hk:x.Kind=14
  · by_cases hn:x.N=1
    · refine⟨[116,114,117,101],fun Q Q1 h hR=>⟨?_,?_⟩,by simp only[List.length_append,List.length_cons,List.length_nil];omega⟩
      · unfold bt
        simp only[hk,Int.reduceBEq,Bool.false_eq_true,↓reduceIte]
        simp[hn,im,ei]
      · unfold br
        simp only[hk,Int.reduceBEq,Bool.false_eq_true,↓reduceIte]
        simp[hn]
    · refine⟨[102,97,108,115,101],fun Q Q1 h hR=>⟨?_,?_⟩,by simp only[List.length_append,List.length_cons,List.length_nil];omega⟩
      · unfold bt
        simp only[hk,Int.reduceBEq,Bool.false_eq_true,↓reduceIte]
        simp[hn,im,ei]
      · unfold br
        simp only[hk,Int.reduceBEq,Bool.false_eq_true,↓reduceIte]
        simp[hn]
  by_cases hk:x.Kind=15
  · refine⟨[110,117,108,108],fun Q Q1 h hR=>⟨?_,?_⟩,by simp only[List.length_cons,List.length_nil];omega⟩
    · unfold bt
      simp only[hk,Int.reduceBEq,Bool.false_eq_true,↓reduceIte]
    · unfold br
      simp only[hk,Int.reduceBEq,Bool.false_eq_true,↓reduceIte]
  by_cases hk:x.Kind=16
  · refine⟨[116,104,105,115],fun Q Q1 h hR=>⟨?_,?_⟩,by simp only[List.length_cons,List.length_nil];omega⟩
    · unfold bt
      simp only[hk,Int.reduceBEq,Bool.false_eq_true,↓reduceIte]
    · unfold br
      simp only[hk,Int.reduceBEq,Bool.false_eq_true,↓reduceIte]
  by_cases hk:x.Kind=17
  · refine⟨x.Text,fun Q Q1 h hR=>⟨?_,?_⟩,by omega⟩
    · unfold bt
      simp only[hk,Int.reduceBEq,Bool.false_eq_true,↓reduceIte]
    · unfold br
      simp only[hk,Int.reduceBEq,Bool.false_eq_true,↓reduceIte]
  by_cases hk:x.Kind=21
  · refine⟨[110,101,119,32]++x.Text++[40,41],fun Q Q1 h hR=>⟨?_,?_⟩,by simp only[List.length_append,List.length_cons,List.length_nil];omega⟩
    · unfold bt
      simp only[hk,Int.reduceBEq,Bool.false_eq_true,↓reduceIte]
      rw[catB (by first|omega|(simp only[List.length_append,List.length_cons,List.length_nil];omega)),catB (by first|omega|(simp only[List.length_append,List.length_cons,List.length_nil];omega))]
    · unfold br
      simp only[hk,Int.reduceBEq,Bool.false_eq_true,↓reduceIte]
      rw[catB (by first|omega|(simp only[List.length_append,List.length_cons,List.length_nil];omega)),catB (by first|omega|(simp only[List.length_append,List.length_cons,List.length_nil];omega))]
  by_cases hk:x.Kind=19
  · obtain⟨u,a,a3⟩:=args_eq hB hb hl 0 (by omega)
    rw[List.drop_zero]at a3
    refine⟨x.Text++u,fun Q Q1 h hR=>⟨?_,?_⟩,by simp only[List.length_append,List.length_cons,List.length_nil];omega⟩
    · unfold bt
      simp only[hk,Int.reduceBEq,Bool.false_eq_true,↓reduceIte]
      rw[show(cg Q).2.2 x 0=some u from(a Q Q1 h).1]
      simp only[Option.bind_some]
      rw[catB (by first|omega|(simp only[List.length_append,List.length_cons,List.length_nil];omega))]
      rfl
    · unfold br
      simp only[hk,Int.reduceBEq,Bool.false_eq_true,↓reduceIte]
      rw[show(bq Q1).2.2 x 0=some u from(a Q Q1 h).2]
      simp only[Option.bind_some]
      rw[catB (by first|omega|(simp only[List.length_append,List.length_cons,List.length_nil];omega))]
      rfl
  by_cases hk:x.Kind=18
  · obtain⟨u,a,a3,_⟩:=kid_eq hB hb 0 8
    refine⟨u++[46]++x.Text,fun Q Q1 h hR=>⟨?_,?_⟩,by simp only[List.length_append,List.length_cons,List.length_nil];omega⟩
    · unfold bt
      simp only[hk,Int.reduceBEq,Bool.false_eq_true,↓reduceIte]
      rw[show(cg Q).1 x 0 8=some u from(a Q Q1 h).1]
      simp only[Option.bind_some]
      rw[catB (by first|omega|(simp only[List.length_append,List.length_cons,List.length_nil];omega)),catB (by first|omega|(simp only[List.length_append,List.length_cons,List.length_nil];omega))]
      rfl
    · unfold br
      simp only[hk,Int.reduceBEq,Bool.false_eq_true,↓reduceIte]
      rw[show(bq Q1).1 x 0 8=some u from(a Q Q1 h).2]
      simp only[Option.bind_some]
      rw[catB (by first|omega|(simp only[List.length_append,List.length_cons,List.length_nil];omega)),catB (by first|omega|(simp only[List.length_append,List.length_cons,List.length_nil];omega))]
      rfl
  by_cases hk:x.Kind=20
  · obtain⟨u,a,a3,_⟩:=kid_eq hB hb 0 8
    obtain⟨v,b,b3⟩:=args_eq hB hb hl 1 (by omega)
    refine⟨u++[46]++x.Text++v,fun Q Q1 h hR=>⟨?_,?_⟩,by simp only[List.length_append,List.length_cons,List.length_nil];omega⟩
    · unfold bt
      simp only[hk,Int.reduceBEq,Bool.false_eq_true,↓reduceIte]
      rw[show(cg Q).1 x 0 8=some u from(a Q Q1 h).1]
      simp only[Option.bind_some]
      rw[catB (by first|omega|(simp only[List.length_append,List.length_cons,List.length_nil];omega)),catB (by first|omega|(simp only[List.length_append,List.length_cons,List.length_nil];omega))]
      rw[show(cg Q).2.2 x 1=some v from(b Q Q1 h).1]
      simp only[Option.bind_some]
      rw[catB (by first|omega|(simp only[List.length_append,List.length_cons,List.length_nil];omega))]
      rfl
    · unfold br
      simp only[hk,Int.reduceBEq,Bool.false_eq_true,↓reduceIte]
      rw[show(bq Q1).1 x 0 8=some u from(a Q Q1 h).2]
      simp only[Option.bind_some]
      rw[catB (by first|omega|(simp only[List.length_append,List.length_cons,List.length_nil];omega)),catB (by first|omega|(simp only[List.length_append,List.length_cons,List.length_nil];omega))]
      rw[show(bq Q1).2.2 x 1=some v from(b Q Q1 h).2]
      simp only[Option.bind_some]
      rw[catB (by first|omega|(simp only[List.length_append,List.length_cons,List.length_nil];omega))]
      rfl
  by_cases hk:x.Kind=22
  · obtain⟨u,a,a3,_⟩:=kid_eq hB hb 0 7
    refine⟨[33]++u,fun Q Q1 h hR=>⟨?_,?_⟩,by simp only[List.length_append,List.length_cons,List.length_nil];omega⟩
    · unfold bt
      simp only[hk,Int.reduceBEq,Bool.false_eq_true,↓reduceIte]
      rw[show(cg Q).1 x 0 7=some u from(a Q Q1 h).1]
      simp only[Option.bind_some]
      rw[catB (by first|omega|(simp only[List.length_append,List.length_cons,List.length_nil];omega))]
    · unfold br
      simp only[hk,Int.reduceBEq,Bool.false_eq_true,↓reduceIte]
      rw[show(bq Q1).1 x 0 7=some u from(a Q Q1 h).2]
      simp only[Option.bind_some]
      rw[catB (by first|omega|(simp only[List.length_append,List.length_cons,List.length_nil];omega))]
  by_cases hk:x.Kind=23
  · exact neg_eq hB hb hk
  by_cases hk:x.Kind=24
  · obtain⟨b,b0,b6,b1,b2⟩:=Binds_eq x.Text
    obtain⟨u,a,a3,_⟩:=kid_eq hB hb 0 b
    obtain⟨v,c,c3,_⟩:=kid_eq hB hb 1 (b+1)
    have hw:w64 (b+1)=b+1:=fp (by omega) (by omega)
    refine⟨u++[32]++x.Text++[32]++v,fun Q Q1 h hR=>⟨?_,?_⟩,by simp only[List.length_append,List.length_cons,List.length_nil];omega⟩
    · unfold bt
      simp only[hk,Int.reduceBEq,Bool.false_eq_true,↓reduceIte]
      rw[b1]
      simp only[Option.bind_some]
      rw[show(cg Q).1 x 0 b=some u from(a Q Q1 h).1]
      simp only[Option.bind_some]
      rw[catB (by first|omega|(simp only[List.length_append,List.length_cons,List.length_nil];omega)),catB (by first|omega|(simp only[List.length_append,List.length_cons,List.length_nil];omega)),catB (by first|omega|(simp only[List.length_append,List.length_cons,List.length_nil];omega))]
      rw[hw]
      rw[show(cg Q).1 x 1 (b+1)=some v from(c Q Q1 h).1]
      simp only[Option.bind_some]
      rw[catB (by first|omega|(simp only[List.length_append,List.length_cons,List.length_nil];omega))]
      rfl
    · unfold br
      simp only[hk,Int.reduceBEq,Bool.false_eq_true,↓reduceIte]
      rw[b2]
      simp only[Option.bind_some]
      rw[show(bq Q1).1 x 0 b=some u from(a Q Q1 h).2]
      simp only[Option.bind_some]
      rw[catB (by first|omega|(simp only[List.length_append,List.length_cons,List.length_nil];omega)),catB (by first|omega|(simp only[List.length_append,List.length_cons,List.length_nil];omega)),catB (by first|omega|(simp only[List.length_append,List.length_cons,List.length_nil];omega))]
      rw[hw]
      rw[show(bq Q1).1 x 1 (b+1)=some v from(c Q Q1 h).2]
      simp only[Option.bind_some]
      rw[catB (by first|omega|(simp only[List.length_append,List.length_cons,List.length_nil];omega))]
      rfl
  refine⟨[],fun Q Q1 h hR=>⟨?_,?_⟩,by simp only[List.length_nil];omega⟩
  · unfold bt
    simp[*]
  · unfold br
    simp[*]
end
theorem expr_at :∀(k:Nat) (x:ApiNode),fo x<=k->k<=1048576->okN x->da x<=2000000000->∃t,t.length+8<=da x/\∀n,2 * k<=n->(dn n).2.1 x=some t/\(dm n).2.1 x=some t:=by
 intro k
 induction k with
 |zero=>intro x h;have:=nsize_pos x;omega
 |succ k ih=>
  intro x hx hk hok hb
  have hsz:=ix x
  have hlen:=ib x.Kids
  have hnb:=fr x
  rw[okN_eq]at hok
  have hkid:∀y,y∈x.Kids->∃t,t.length+8<=da y/\∀n,2 * k<=n->(dn n).2.1 y=some t/\(dm n).2.1 y=some t:=fun y hy=>by
   have h1:=iy hy
   have h2:=e6 hy
   exact ih y (by omega) (by omega) (okL_mem hok.2 hy) (by omega)
  classical
  let e:ApiNode->List UInt8:=fun y=>if h:y∈x.Kids then(hkid y h).choose else[]
  have he:∀y∈x.Kids,(e y).length+8<=da y/\∀n,2 * k<=n->(dn n).2.1 y=some (e y)/\(dm n).2.1 y=some (e y):=fun y hy=>by
   have:=(hkid y hy).choose_spec
   show(if h:y∈x.Kids then(hkid y h).choose else[]).length+8<=_/\_
   simp only[e,dif_pos hy]
   exact this
  obtain⟨t,t1,t2⟩:=expr_step (x:=x) (e:=e) (fun y hy=>(he y hy).1) hb (by omega) hok.1
  refine⟨t,t2,fun n hn=> ?_⟩
  obtain⟨m,rfl⟩:∃m,n=m+2:=⟨n - 2,by omega⟩
  exact t1 (dn m) (dm m) (fun y hy=>(he y hy).2 m (by omega)) (fun y hy=>((he y hy).2 (m+1) (by omega)).2)
end Go.Proofs.YtgkcoicaopilhaaGreatDoor
set_option linter.unusedSectionVars false
set_option linter.unusedVariables false
set_option linter.unusedSimpArgs false
set_option maxHeartbeats 4000000
namespace Go.Proofs.YtgkcoicaopilhaaGreatDoor
open Go Go.Cn
theorem kid0_eq {x:ApiNode} (hs:fo x<=1000) (hok:okN x) (hb:da x<=2000000) (i:Nat):∃u,print_kid x i 0=some u/\jg x i 0=some u/\u.length<=kb x.Kids i:=by
 have hsz:=ix x
 have hnb:=fr x
 rw[okN_eq]at hok
 have hkid:∀y,y∈x.Kids->∃t,t.length+8<=da y/\∀n,2 * 1000<=n->(dn n).2.1 y=some t/\(dm n).2.1 y=some t:=fun y hy=>by
  have h1:=iy hy
  have h2:=e6 hy
  exact expr_at 1000 y (by omega) (by omega) (okL_mem hok.2 hy) (by omega)
 classical
 let e:ApiNode->List UInt8:=fun y=>if h:y∈x.Kids then(hkid y h).choose else[]
 have he:∀y∈x.Kids,(e y).length+8<=da y/\∀n,2 * 1000<=n->(dn n).2.1 y=some (e y)/\(dm n).2.1 y=some (e y):=fun y hy=>by
  have:=(hkid y hy).choose_spec
  simp only[e,dif_pos hy]
  exact this
 obtain⟨u,h1,h2,_⟩:=kid_eq (x:=x) (e:=e) (fun y hy=>(he y hy).1) (by omega) i 0
 obtain⟨g1,g2⟩:=h1 (dn 1048575) (dm 1048575) (fun y hy=>(he y hy).2 _ (by omega))
 exact⟨u,g1,g2,h2⟩
def Part (x y:ApiNode):Prop:=y∈x.Kids\/∃z∈x.Kids,y∈z.Kids
theorem Part.size {x y:ApiNode} (h:Part x y):fo y+1<=fo x:=by
 have hx:=ix x
 rcases h with h|⟨z,h1,h2⟩
 ·have:=iy h;omega
 ·have a1:=iy h1
  have a2:=iy h2
  have a3:=ix z
  omega
theorem Part.bytes {x y:ApiNode} (h:Part x y):da y<=da x:=by
 have hx:=fr x
 rcases h with h|⟨z,h1,h2⟩
 ·have:=e6 h;omega
 ·have a1:=e6 h1
  have a2:=e6 h2
  have a3:=fr z
  omega
theorem Part.ok {x y:ApiNode} (h:Part x y) (ho:okN x):okN y:=by
 rw[okN_eq]at ho
 rcases h with h|⟨z,h1,h2⟩
 ·exact okL_mem ho.2 h
 ·have:=okL_mem ho.2 h1
  rw[okN_eq]at this
  exact okL_mem this.2 h2
def StQ (S:ApiNode->List UInt8->List UInt8) (Q:ca) (Q':bh) (x:ApiNode):Prop:=∀y a,Part x y->a.length+2 * fo y<=1000->Q.2.2.1 y a=some (S y a)/\Q'.2.2.1 y a=some (S y a)
def StB (S:ApiNode->List UInt8->List UInt8) (x:ApiNode):Prop:=∀y a,Part x y->a.length+2 * fo y<=1000->(S y a).length<=1100 * da y
theorem flat_le {s:ApiNode->List UInt8}:∀{l:List ApiNode},(∀y∈l,(s y).length<=1100 * da y)->((l.map s).flatten).length<=1100 * cj l
 | [],_=>by simp
 |n::l,h=>by
  have h1:=flat_le (s:=s) (l:=l) (fun y hy=>h y (List.mem_cons_of_mem _ hy))
  have h2:=h n (List.mem_cons_self ..)
  simp only[List.map_cons,List.flatten_cons,List.length_append,cj]
  omega
theorem block_eq {Q:ca} {Q':bh} {l:List ApiNode} {a:List UInt8} {s:ApiNode->List UInt8} (h:∀y∈l,Q.2.2.1 y (a++[32,32])=some (s y)/\Q'.2.2.1 y (a++[32,32])=some (s y)) (hB:∀y∈l,(s y).length<=1100 * da y)
  (ha:a.length<=1000) (hl:l.length<=1000) (hb:cj l<=2000000):kv Q l a=some ([123,10]++(l.map s).flatten++a++[125])/\i5 Q' l a=some ([123,10]++(l.map s).flatten++a++[125]):=by
 have hf:=flat_le hB
 have hstep:∀i,(hi:i<l.length)->(((l.take (i+1)).map s).flatten)=((l.take i).map s).flatten++s l[i]:=fun i hi=>by
  rw[List.take_add_one,List.getElem?_eq_getElem hi,List.map_append,List.flatten_append]
  simp only[Option.toList_some,List.map_cons,List.map_nil,List.flatten_cons,List.flatten_nil,List.append_nil]
 have hfi:∀i,(((l.take i).map s).flatten).length<=1100 * cj l:=fun i=>by
  have h1:=flat_le (s:=s) (l:=l.take i) (fun y hy=>hB y (List.mem_of_mem_take hy))
  have h2:=l0 l i
  omega
 have hm:∀i,(hi:i<l.length)->da l[i]<=cj l:=fun i hi=>e6 (List.getElem_mem hi)
 constructor
 ·unfold kv
  have hit:iter (fun s:List UInt8 × Int=>gh Q l a s.1 s.2) ([123,10],0)=some ([123,10]++(l.map s).flatten):=by
   have:=gm (f:=fun s:List UInt8 × Int=>gh Q l a s.1 s.2) (fun i=>([123,10]++((l.take i).map s).flatten,(i:Int))) l.length (o:=[123,10]++(l.map s).flatten) (fun i hi=> ?_) ?_
   ·simpa using this
   ·have h1:=hfi i
    have h2:=hm i hi
    have h3:=hB _ (List.getElem_mem hi)
    simp only
    unfold gh
    rw[if_pos (by simp[hi]),j5 hi]
    simp only[Option.bind_some]
    rw[catB (by simp only[List.length_cons,List.length_nil];omega),(h _ (List.getElem_mem hi)).1]
    simp only[Option.bind_some]
    rw[catB (by simp only[List.length_append,List.length_cons,List.length_nil];omega),ip (by omega),hstep i hi,List.append_assoc]
   ·simp only
    unfold gh
    rw[if_neg (by simp),List.take_length]
  rw[hit]
  simp only[Option.bind_some,print_block_k1]
  rw[catB (by simp only[List.length_append,List.length_cons,List.length_nil];omega),catB (by simp only[List.length_append,List.length_cons,List.length_nil];omega)]
 ·unfold i5
  have hit:iter (fun s:List UInt8 × Int=>e7 Q' l a s.1 s.2) ([123,10],0)=some ([123,10]++(l.map s).flatten):=by
   have:=gm (f:=fun s:List UInt8 × Int=>e7 Q' l a s.1 s.2) (fun i=>([123,10]++((l.take i).map s).flatten,(i:Int))) l.length (o:=[123,10]++(l.map s).flatten) (fun i hi=> ?_) ?_
   ·simpa using this
   ·have h1:=hfi i
    have h2:=hm i hi
    have h3:=hB _ (List.getElem_mem hi)
    simp only
    unfold e7
    rw[if_pos (by simp[hi]),j5 hi]
    simp only[Option.bind_some]
    rw[catB (by simp only[List.length_cons,List.length_nil];omega),(h _ (List.getElem_mem hi)).2]
    simp only[Option.bind_some]
    rw[catB (by simp only[List.length_append,List.length_cons,List.length_nil];omega),ip (by omega),hstep i hi,List.append_assoc]
   ·simp only
    unfold e7
    rw[if_neg (by simp),List.take_length]
  rw[hit]
  simp only[Option.bind_some,k8]
  rw[catB (by simp only[List.length_append,List.length_cons,List.length_nil];omega),catB (by simp only[List.length_append,List.length_cons,List.length_nil];omega)]
section
variable {x:ApiNode} {S:ApiNode->List UInt8->List UInt8} {a:List UInt8}
theorem blockP {l:List ApiNode} (hS:StB S x) (hl:∀y∈l,Part x y) (hls:l.length<=fo x) (hlb:cj l<=da x) (ha:a.length+2 * fo x<=1000) (hb:da x<=2000000):
  ∃t,(∀Q Q',StQ S Q Q' x->kv Q l a=some t/\i5 Q' l a=some t)/\t.length<=3+a.length+1100 * cj l/\t≠[]:=by
 have hc:∀y,Part x y->(a++[32,32]).length+2 * fo y<=1000:=fun y hy=>by
  have:=hy.size
  simp only[List.length_append,List.length_cons,List.length_nil]
  omega
 have hB:∀y∈l,(S y (a++[32,32])).length<=1100 * da y:=fun y hy=>hS y _ (hl y hy) (hc y (hl y hy))
 have hf:=flat_le (s:=fun y=>S y (a++[32,32])) hB
 refine⟨[123,10]++(l.map fun y=>S y (a++[32,32])).flatten++a++[125],fun Q Q' h=> ?_,by simp only[List.length_append,List.length_cons,List.length_nil];omega,by simp⟩
 exact block_eq (s:=fun y=>S y (a++[32,32])) (fun y hy=>h y _ (hl y hy) (hc y (hl y hy))) hB (by omega) (by omega) (by omega)
theorem belongs_eq (hS:StB S x) (ha:a.length+2 * fo x<=1000) (hb:da x<=2000000) (i:Nat):
  ∃t,(∀Q Q',StQ S Q Q' x->gx (bm Q) x i a=some t/\gw (bl Q') x i a=some t)/\t.length<=3+a.length+1100 * kb x.Kids i/\t≠[]:=by
 have hx:=ix x
 have hlen:=ib x.Kids
 have hnb:=fr x
 by_cases hi:i<x.Kids.length
 ·have hc:¬decide ((i:Int)≥(x.Kids.length:Int))=true:=by rw[decide_eq_true_eq];omega
  have hmem:=List.getElem_mem hi
  have hz:=iy hmem
  have hzb:=e6 hmem
  have hk:kb x.Kids i=da x.Kids[i]:=by unfold kb;rw[dif_pos hi]
  by_cases h5:x.Kids[i].Kind=5
  ·have z1:=ix x.Kids[i]
   have z2:=ib x.Kids[i].Kids
   have z3:=fr x.Kids[i]
   obtain⟨t,t1,t2,t3⟩:=blockP (x:=x) (S:=S) (a:=a) (l:=x.Kids[i].Kids) hS (fun y hy=> .inr ⟨_,hmem,hy⟩) (by omega) (by omega) ha hb
   refine⟨t,fun Q Q' h=> ?_,by omega,t3⟩
   obtain⟨b1,b2⟩:=t1 Q Q' h
   unfold gx gw
   rw[if_neg hc,if_neg hc,j5 hi]
   simp only[Option.bind_some]
   rw[if_pos (by simp[h5]),if_pos (by simp[h5]),show(bm Q).2.1 x.Kids[i].Kids a=some t from b1,show(bl Q').2.1 x.Kids[i].Kids a=some t from b2]
   exact⟨rfl,rfl⟩
  ·obtain⟨t,t1,t2,t3⟩:=blockP (x:=x) (S:=S) (a:=a) (l:=[x.Kids[i]]) hS (fun y hy=>by rw[List.mem_singleton]at hy;subst hy;exact .inl hmem) (by simp only[List.length_cons,List.length_nil];omega) (by simp only[cj];omega) ha hb
   refine⟨t,fun Q Q' h=> ?_,by simp only[cj]at t2;omega,t3⟩
   obtain⟨b1,b2⟩:=t1 Q Q' h
   have hs:subL x.Kids (i:Int) (w64 ((i:Int)+1))=some [x.Kids[i]]:=by
    rw[ip (by omega)]
    unfold subL
    rw[if_pos ⟨by omega,by omega,by omega⟩]
    simp only[Int.toNat_natCast]
    rw[List.drop_take,List.drop_eq_getElem_cons hi,show i+1 - i=1 by omega]
    rfl
   unfold gx gw
   rw[if_neg hc,if_neg hc,j5 hi]
   simp only[Option.bind_some]
   rw[if_neg (by simpa using h5),if_neg (by simpa using h5),hs]
   simp only[Option.bind_some]
   rw[show(bm Q).2.1 [x.Kids[i]] a=some t from b1,show(bl Q').2.1 [x.Kids[i]] a=some t from b2]
   exact⟨rfl,rfl⟩
 ·have hc:decide ((i:Int)≥(x.Kids.length:Int))=true:=by rw[decide_eq_true_eq];omega
  obtain⟨t,t1,t2,t3⟩:=blockP (x:=x) (S:=S) (a:=a) (l:=[]) hS (fun y hy=>by cases hy) (by simp) (by simp[cj]) ha hb
  refine⟨t,fun Q Q' h=> ?_,by simp only[cj]at t2;omega,t3⟩
  obtain⟨b1,b2⟩:=t1 Q Q' h
  unfold gx gw
  rw[if_pos hc,if_pos hc,show(bm Q).2.1 [] a=some t from b1,show(bl Q').2.1 [] a=some t from b2]
  exact⟨rfl,rfl⟩
theorem line_eq (hS:StB S x) (ha:a.length+2 * fo x<=1000) (hb:da x<=2000000) (hok:okN x):
    ∃t b,(∀Q Q',StQ S Q Q' x->StQ S (bm Q) (bl Q') x->ef (bm (bm Q)) x a=some t/\ee (bl (bl Q')) x a=some (t,b))/\t.length+1100<=1100 * da x/\(b=false↔t=[]):=by
  have hx:=fr x
  have hsx:=ix x
  have hlen:=ib x.Kids
  have h3:=kb3 x.Kids
  obtain⟨u,u1,u2,u3⟩:=kid0_eq (x:=x) (by omega) hok hb 0
  have u1:print_kid x 0 0=some u:=u1
  have u2:jg x 0 0=some u:=u2
  by_cases hk:x.Kind=6
  · refine⟨x.Type_++[32]++x.Text++[32,61,32]++u++[59],true,fun Q Q' h h'=>⟨?_,?_⟩,by first|omega|(simp only[List.length_append,List.length_cons,List.length_nil];omega),by simp⟩
    · unfold ef
      rw[u1]
      simp only[hk,Int.reduceBEq,Bool.false_eq_true,↓reduceIte,Option.bind_some,ct,cr,cq,co]
      rw[catB (by first|omega|(simp only[List.length_append,List.length_cons,List.length_nil];omega)),catB (by first|omega|(simp only[List.length_append,List.length_cons,List.length_nil];omega)),catB (by first|omega|(simp only[List.length_append,List.length_cons,List.length_nil];omega)),catB (by first|omega|(simp only[List.length_append,List.length_cons,List.length_nil];omega)),catB (by first|omega|(simp only[List.length_append,List.length_cons,List.length_nil];omega))]
    · unfold ee
      simp only[hk,Int.reduceBEq,Bool.false_eq_true,↓reduceIte,Option.bind_some,ct,cr,cq,co]
      rw[catB (by first|omega|(simp only[List.length_append,List.length_cons,List.length_nil];omega)),catB (by first|omega|(simp only[List.length_append,List.length_cons,List.length_nil];omega)),catB (by first|omega|(simp only[List.length_append,List.length_cons,List.length_nil];omega))]
      rw[u2]
      simp only[Option.bind_some]
      rw[catB (by first|omega|(simp only[List.length_append,List.length_cons,List.length_nil];omega)),catB (by first|omega|(simp only[List.length_append,List.length_cons,List.length_nil];omega))]
  by_cases hk:x.Kind=7
  · obtain⟨v,v1,v2,v3⟩:=kid0_eq (x:=x) (by omega) hok hb 1
    have v1:print_kid x 1 0=some v:=v1
    have v2:jg x 1 0=some v:=v2
    refine⟨u++[32,61,32]++v++[59],true,fun Q Q' h h'=>⟨?_,?_⟩,by first|omega|(simp only[List.length_append,List.length_cons,List.length_nil];omega),by simp⟩
    · unfold ef
      rw[u1]
      simp only[hk,Int.reduceBEq,Bool.false_eq_true,↓reduceIte,Option.bind_some,ct,cr,cq,co]
      rw[catB (by first|omega|(simp only[List.length_append,List.length_cons,List.length_nil];omega))]
      rw[v1]
      simp only[Option.bind_some]
      rw[catB (by first|omega|(simp only[List.length_append,List.length_cons,List.length_nil];omega)),catB (by first|omega|(simp only[List.length_append,List.length_cons,List.length_nil];omega))]
    · unfold ee
      simp only[hk,Int.reduceBEq,Bool.false_eq_true,↓reduceIte,Option.bind_some,ct,cr,cq,co]
      rw[u2]
      simp only[Option.bind_some]
      rw[catB (by first|omega|(simp only[List.length_append,List.length_cons,List.length_nil];omega))]
      rw[v2]
      simp only[Option.bind_some]
      rw[catB (by first|omega|(simp only[List.length_append,List.length_cons,List.length_nil];omega)),catB (by first|omega|(simp only[List.length_append,List.length_cons,List.length_nil];omega))]
  by_cases hk:x.Kind=8
  · refine⟨u++[59],true,fun Q Q' h h'=>⟨?_,?_⟩,by first|omega|(simp only[List.length_append,List.length_cons,List.length_nil];omega),by simp⟩
    · unfold ef
      rw[u1]
      simp only[hk,Int.reduceBEq,Bool.false_eq_true,↓reduceIte,Option.bind_some,ct,cr,cq,co]
      rw[catB (by first|omega|(simp only[List.length_append,List.length_cons,List.length_nil];omega))]
    · unfold ee
      simp only[hk,Int.reduceBEq,Bool.false_eq_true,↓reduceIte,Option.bind_some,ct,cr,cq,co]
      rw[u2]
      simp only[Option.bind_some]
      rw[catB (by first|omega|(simp only[List.length_append,List.length_cons,List.length_nil];omega))]
  by_cases hk:x.Kind=11
  · by_cases hl:0<x.Kids.length
    · refine⟨[114,101,116,117,114,110,32]++u++[59],true,fun Q Q' h h'=>⟨?_,?_⟩,by first|omega|(simp only[List.length_append,List.length_cons,List.length_nil];omega),by simp⟩
      · unfold ef
        rw[u1]
        simp only[hk,Int.reduceBEq,Bool.false_eq_true,↓reduceIte,Option.bind_some,ct,cr,cq,co]
        rw[if_pos (by rw[decide_eq_true_eq];omega)]
        rw[catB (by first|omega|(simp only[List.length_append,List.length_cons,List.length_nil];omega)),catB (by first|omega|(simp only[List.length_append,List.length_cons,List.length_nil];omega))]
      · unfold ee
        simp only[hk,Int.reduceBEq,Bool.false_eq_true,↓reduceIte,Option.bind_some,ct,cr,cq,co]
        rw[if_neg (by rw[beq_iff_eq];omega),u2]
        simp only[Option.bind_some]
        rw[catB (by first|omega|(simp only[List.length_append,List.length_cons,List.length_nil];omega)),catB (by first|omega|(simp only[List.length_append,List.length_cons,List.length_nil];omega))]
    · refine⟨[114,101,116,117,114,110,59],true,fun Q Q' h h'=>⟨?_,?_⟩,by first|omega|(simp only[List.length_append,List.length_cons,List.length_nil];omega),by simp⟩
      · unfold ef
        rw[u1]
        simp only[hk,Int.reduceBEq,Bool.false_eq_true,↓reduceIte,Option.bind_some,ct,cr,cq,co]
        rw[if_neg (by rw[decide_eq_true_eq];omega)]
      · unfold ee
        simp only[hk,Int.reduceBEq,Bool.false_eq_true,↓reduceIte,Option.bind_some,ct,cr,cq,co]
        rw[if_pos (by rw[beq_iff_eq];omega)]
  by_cases hk:x.Kind=12
  · refine⟨[112,114,105,110,116,40]++u++[41,59],true,fun Q Q' h h'=>⟨?_,?_⟩,by first|omega|(simp only[List.length_append,List.length_cons,List.length_nil];omega),by simp⟩
    · unfold ef
      rw[u1]
      simp only[hk,Int.reduceBEq,Bool.false_eq_true,↓reduceIte,Option.bind_some,ct,cr,cq,co]
      rw[catB (by first|omega|(simp only[List.length_append,List.length_cons,List.length_nil];omega)),catB (by first|omega|(simp only[List.length_append,List.length_cons,List.length_nil];omega))]
    · unfold ee
      simp only[hk,Int.reduceBEq,Bool.false_eq_true,↓reduceIte,Option.bind_some,ct,cr,cq,co]
      rw[u2]
      simp only[Option.bind_some]
      rw[catB (by first|omega|(simp only[List.length_append,List.length_cons,List.length_nil];omega)),catB (by first|omega|(simp only[List.length_append,List.length_cons,List.length_nil];omega))]
  by_cases hk:x.Kind=10
  · obtain⟨v,v1,v2,v3⟩:=belongs_eq (x:=x) (S:=S) (a:=a) hS ha hb 1
    refine⟨[119,104,105,108,101,32,40]++u++[41,32]++v,true,fun Q Q' h h'=>⟨?_,?_⟩,by first|omega|(simp only[List.length_append,List.length_cons,List.length_nil];omega),by simp⟩
    · unfold ef
      rw[u1]
      simp only[hk,Int.reduceBEq,Bool.false_eq_true,↓reduceIte,Option.bind_some,ct,cr,cq,co]
      rw[catB (by first|omega|(simp only[List.length_append,List.length_cons,List.length_nil];omega)),catB (by first|omega|(simp only[List.length_append,List.length_cons,List.length_nil];omega))]
      rw[show(bm (bm Q)).1 x 1 a=some v from(v1 Q Q' h).1]
      simp only[Option.bind_some]
      rw[catB (by first|omega|(simp only[List.length_append,List.length_cons,List.length_nil];omega))]
    · unfold ee
      simp only[hk,Int.reduceBEq,Bool.false_eq_true,↓reduceIte,Option.bind_some,ct,cr,cq,co]
      rw[u2]
      simp only[Option.bind_some]
      rw[catB (by first|omega|(simp only[List.length_append,List.length_cons,List.length_nil];omega)),catB (by first|omega|(simp only[List.length_append,List.length_cons,List.length_nil];omega))]
      rw[show(bl (bl Q')).1 x 1 a=some v from(v1 Q Q' h).2]
      simp only[Option.bind_some]
      rw[catB (by first|omega|(simp only[List.length_append,List.length_cons,List.length_nil];omega))]
  by_cases hk:x.Kind=9
  · obtain⟨v,v1,v2,v3⟩:=belongs_eq (x:=x) (S:=S) (a:=a) hS ha hb 1
    obtain⟨w,w1,w2,w3⟩:=belongs_eq (x:=x) (S:=S) (a:=a) hS ha hb 2
    by_cases hl:2<x.Kids.length
    · refine⟨[105,102,32,40]++u++[41,32]++v++[32,101,108,115,101,32]++w,true,fun Q Q' h h'=>⟨?_,?_⟩,by first|omega|(simp only[List.length_append,List.length_cons,List.length_nil];omega),by simp⟩
      · unfold ef
        rw[u1]
        simp only[hk,Int.reduceBEq,Bool.false_eq_true,↓reduceIte,Option.bind_some,ct,cr,cq,co]
        rw[catB (by first|omega|(simp only[List.length_append,List.length_cons,List.length_nil];omega)),catB (by first|omega|(simp only[List.length_append,List.length_cons,List.length_nil];omega))]
        rw[show(bm (bm Q)).1 x 1 a=some v from(v1 Q Q' h).1]
        simp only[Option.bind_some]
        rw[catB (by first|omega|(simp only[List.length_append,List.length_cons,List.length_nil];omega))]
        rw[if_pos (by rw[decide_eq_true_eq];omega)]
        rw[show(bm (bm Q)).1 x 2 a=some w from(w1 Q Q' h).1]
        simp only[Option.bind_some]
        rw[catB (by first|omega|(simp only[List.length_append,List.length_cons,List.length_nil];omega)),catB (by first|omega|(simp only[List.length_append,List.length_cons,List.length_nil];omega))]
        unfold print_line_j1
        rw[← List.append_assoc]
      · unfold ee
        simp only[hk,Int.reduceBEq,Bool.false_eq_true,↓reduceIte,Option.bind_some,ct,cr,cq,co]
        rw[u2]
        simp only[Option.bind_some]
        rw[catB (by first|omega|(simp only[List.length_append,List.length_cons,List.length_nil];omega)),catB (by first|omega|(simp only[List.length_append,List.length_cons,List.length_nil];omega))]
        rw[show(bl (bl Q')).1 x 1 a=some v from(v1 Q Q' h).2]
        simp only[Option.bind_some]
        rw[catB (by first|omega|(simp only[List.length_append,List.length_cons,List.length_nil];omega))]
        unfold ref13_line_j5
        rw[if_pos (by rw[decide_eq_true_eq];omega)]
        rw[catB (by first|omega|(simp only[List.length_append,List.length_cons,List.length_nil];omega))]
        rw[show(bl (bl Q')).1 x 2 a=some w from(w1 Q Q' h).2]
        simp only[Option.bind_some]
        rw[catB (by first|omega|(simp only[List.length_append,List.length_cons,List.length_nil];omega))]
        rfl
    · refine⟨[105,102,32,40]++u++[41,32]++v,true,fun Q Q' h h'=>⟨?_,?_⟩,by first|omega|(simp only[List.length_append,List.length_cons,List.length_nil];omega),by simp⟩
      · unfold ef
        rw[u1]
        simp only[hk,Int.reduceBEq,Bool.false_eq_true,↓reduceIte,Option.bind_some,ct,cr,cq,co]
        rw[catB (by first|omega|(simp only[List.length_append,List.length_cons,List.length_nil];omega)),catB (by first|omega|(simp only[List.length_append,List.length_cons,List.length_nil];omega))]
        rw[show(bm (bm Q)).1 x 1 a=some v from(v1 Q Q' h).1]
        simp only[Option.bind_some]
        rw[catB (by first|omega|(simp only[List.length_append,List.length_cons,List.length_nil];omega))]
        rw[if_neg (by rw[decide_eq_true_eq];omega)]
        rfl
      · unfold ee
        simp only[hk,Int.reduceBEq,Bool.false_eq_true,↓reduceIte,Option.bind_some,ct,cr,cq,co]
        rw[u2]
        simp only[Option.bind_some]
        rw[catB (by first|omega|(simp only[List.length_append,List.length_cons,List.length_nil];omega)),catB (by first|omega|(simp only[List.length_append,List.length_cons,List.length_nil];omega))]
        rw[show(bl (bl Q')).1 x 1 a=some v from(v1 Q Q' h).2]
        simp only[Option.bind_some]
        rw[catB (by first|omega|(simp only[List.length_append,List.length_cons,List.length_nil];omega))]
        unfold ref13_line_j5
        rw[if_neg (by rw[decide_eq_true_eq];omega)]
        rfl
  by_cases hk:x.Kind=5
  · obtain⟨t,t1,t2,t3⟩:=blockP (x:=x) (S:=S) (a:=a) (l:=x.Kids) hS (fun y hy=> .inl hy) (by omega) (by omega) ha hb
    refine⟨t,true,fun Q Q' h h'=>⟨?_,?_⟩,by omega,by simp[t3]⟩
    · unfold ef
      rw[u1]
      simp only[hk,Int.reduceBEq,Bool.false_eq_true,↓reduceIte,Option.bind_some,ct,cr,cq,co]
      rw[show(bm (bm Q)).2.1 x.Kids a=some t from(t1 _ _ h').1]
      rfl
    · unfold ee
      simp only[hk,Int.reduceBEq,Bool.false_eq_true,↓reduceIte,Option.bind_some,ct,cr,cq,co]
      rw[show(bl (bl Q')).2.1 x.Kids a=some t from(t1 _ _ h').2]
      rfl
  refine⟨[],false,fun Q Q' h h'=>⟨?_,?_⟩,by simp only[List.length_nil];omega,by simp⟩
  · unfold ef
    rw[u1]
    simp[*]
  · unfold ee
    simp[*]
end
theorem stmt_at :∀(k:Nat) (x:ApiNode),fo x<=k->k<=100000->okN x->da x<=2000000->∃s:List UInt8->List UInt8,∀a,a.length+2 * fo x<=1000->(s a).length<=1100 * da x/\∀n,4 * k<=n->(bz n).2.2.1 x a=some (s a)/\(bx n).2.2.1 x a=some (s a):=by
 intro k
 induction k with
 |zero=>intro x h;have:=nsize_pos x;omega
 |succ k ih=>
  intro x hx hk hok hb
  have hkid:∀y,Part x y->∃s:List UInt8->List UInt8,∀a,a.length+2 * fo y<=1000->(s a).length<=1100 * da y/\∀n,4 * k<=n->(bz n).2.2.1 y a=some (s a)/\(bx n).2.2.1 y a=some (s a):=fun y hy=>by
   have h1:=hy.size
   have h2:=hy.bytes
   exact ih y (by omega) (by omega) (hy.ok hok) (by omega)
  classical
  let S:ApiNode->List UInt8->List UInt8:=fun y=>if h:Part x y then(hkid y h).choose else fun _=>[]
  have he:∀y a,Part x y->a.length+2 * fo y<=1000->(S y a).length<=1100 * da y/\∀n,4 * k<=n->(bz n).2.2.1 y a=some (S y a)/\(bx n).2.2.1 y a=some (S y a):=fun y a hy ha=>by
   have:=(hkid y hy).choose_spec a ha
   simp only[S,dif_pos hy]
   exact this
  have hSB:StB S x:=fun y a hy ha=>(he y a hy ha).1
  have hSQ:∀n,4 * k<=n->StQ S (bz n) (bx n) x:=fun n hn y a hy ha=>(he y a hy ha).2 n hn
  have key:∀a,a.length+2 * fo x<=1000->∃r:List UInt8,r.length<=1100 * da x/\∀n,4 * (k+1)<=n->(bz n).2.2.1 x a=some r/\(bx n).2.2.1 x a=some r:=fun a ha=>by
   obtain⟨t,b,t1,t2,t3⟩:=line_eq (x:=x) (S:=S) (a:=a) hSB ha hb hok
   refine⟨if b=true then a++t++[10]else[],?_,fun n hn=> ?_⟩
   ·split
    ·simp only[List.length_append,List.length_cons,List.length_nil];omega
    ·simp
   ·obtain⟨m,rfl⟩:∃m,n=m+4:=⟨n - 4,by omega⟩
    obtain⟨g1,g2⟩:=t1 (bz m) (bx m) (hSQ m (by omega)) (hSQ (m+1) (by omega))
    constructor
    ·show ja (bz (m+3)) x a=_
     unfold ja
     rw[show(bz (m+3)).2.2.2 x a=some t from g1]
     simp only[Option.bind_some]
     cases b with
     |false=>rw[t3.1 rfl];rfl
     |true=>
      have ht:t≠[]:=fun h=>by have:=t3.2 h;cases this
      rw[if_neg (by rw[beq_iff_eq];exact ht),catB (by omega),catB (by simp only[List.length_append,List.length_cons,List.length_nil];omega)]
      rfl
    ·show i8 (bx (m+3)) x a=_
     unfold i8
     rw[show(bx (m+3)).2.2.2 x a=some (t,b)from g2]
     simp only[Option.bind_some]
     cases b with
     |false=>rfl
     |true=>
      rw[if_neg (by decide),catB (by omega),catB (by simp only[List.length_append,List.length_cons,List.length_nil];omega)]
      rfl
  exact⟨fun a=>if h:a.length+2 * fo x<=1000 then(key a h).choose else[],fun a ha=>by
   simp only[dif_pos ha]
   exact(key a ha).choose_spec⟩
end Go.Proofs.YtgkcoicaopilhaaGreatDoor
set_option linter.unusedSectionVars false
set_option linter.unusedVariables false
set_option linter.unusedSimpArgs false
set_option maxHeartbeats 4000000
namespace Go.Proofs.YtgkcoicaopilhaaGreatDoor
open Go Go.Cn
theorem belongsT {x:ApiNode} (hs:fo x<=400) (hok:okN x) (hb:da x<=2000000) (i:Nat):∃t,print_belongs x i [32,32]=some t/\ref13_belongs x i [32,32]=some t/\t.length<=5+1100 * kb x.Kids i:=by
 have hkid:∀y,Part x y->∃s:List UInt8->List UInt8,∀a,a.length+2 * fo y<=1000->(s a).length<=1100 * da y/\∀n,4 * 400<=n->(bz n).2.2.1 y a=some (s a)/\(bx n).2.2.1 y a=some (s a):=fun y hy=>by
  have h1:=hy.size
  have h2:=hy.bytes
  exact stmt_at 400 y (by omega) (by omega) (hy.ok hok) (by omega)
 classical
 let S:ApiNode->List UInt8->List UInt8:=fun y=>if h:Part x y then(hkid y h).choose else fun _=>[]
 have he:∀y a,Part x y->a.length+2 * fo y<=1000->(S y a).length<=1100 * da y/\∀n,4 * 400<=n->(bz n).2.2.1 y a=some (S y a)/\(bx n).2.2.1 y a=some (S y a):=fun y a hy ha=>by
  have:=(hkid y hy).choose_spec a ha
  simp only[S,dif_pos hy]
  exact this
 obtain⟨t,t1,t2,_⟩:=belongs_eq (x:=x) (S:=S) (a:=[32,32]) (fun y a hy ha=>(he y a hy ha).1) (by simp only[List.length_cons,List.length_nil];omega) hb i
 obtain⟨g1,g2⟩:=t1 (bz 1048574) (bx 1048574) (fun y a hy ha=>(he y a hy ha).2 _ (by omega))
 exact⟨t,g1,g2,by simp only[List.length_cons,List.length_nil]at t2;omega⟩
theorem lastIx {n:Nat} (h:n<=1000):(if(w64 ((n:Int) - 1))>0 then(w64 ((n:Int) - 1))else 0)=((n - 1:Nat):Int):=by
 rw[fp (by omega) (by omega)]
 split<;>omega
theorem nbytesL_append :∀(l m:List ApiNode),cj (l++m)=cj l+cj m
 | [],m=>by simp[cj]
 |n::l,m=>by simp[cj,nbytesL_append l m];omega
theorem takekb (l:List ApiNode) (k:Nat):cj (l.take k)+kb l k<=cj l:=by
 have h:=nbytesL_append (l.take k) (l.drop k)
 rw[List.take_append_drop]at h
 have hk:kb l k<=cj (l.drop k):=by
  unfold kb
  split
  ·rename_i hk
   rw[List.drop_eq_getElem_cons hk]
   simp only[cj]
   omega
  ·omega
 omega
def parT (y:ApiNode):List UInt8:=y.Type_++[32]++y.Text
theorem parT_len (y:ApiNode):(parT y).length+8<=da y:=by
 rw[fr]
 simp only[parT,List.length_append,List.length_cons,List.length_nil]
 omega
theorem par_eq {y:ApiNode} (h:da y<=2000000):jy y=some (parT y):=by
 rw[fr]at h
 unfold jy
 rw[catB (by simp only[List.length_cons,List.length_nil];omega),catB (by simp only[List.length_append,List.length_cons,List.length_nil];omega)]
 rfl
theorem params_ref {x:ApiNode} {A:List UInt8} (hA:A.length<=5000000) (hl:x.Kids.length<=1000) (hb:cj x.Kids<=2000000):
  iter (fun s:List UInt8 × Int=>fv x s.1 s.2) (A,0)=some (A++Lib.join ((x.Kids.take (x.Kids.length - 1)).map parT) sepC):=by
 have:=gm (f:=fun s:List UInt8 × Int=>fv x s.1 s.2) (fun j=>(A++Lib.join ((((x.Kids.take (x.Kids.length - 1)).map parT)).take j) sepC,(j:Int))) (x.Kids.length - 1) (o:=A++Lib.join ((x.Kids.take (x.Kids.length - 1)).map parT) sepC) (fun j hj=> ?_) ?_
 ·simpa [Lib.join_nil] using this
 ·have hj2:j<x.Kids.length:=by omega
  have hjj:=join_le (e:=parT) (l:=(x.Kids.take (x.Kids.length - 1)).take j) (fun y _=>parT_len y)
  have ht:=l0 (x.Kids.take (x.Kids.length - 1)) j
  have ht2:=l0 x.Kids (x.Kids.length - 1)
  rw[List.map_take]at hjj
  have hm:=e6 (List.getElem_mem hj2)
  have hn:=fr x.Kids[j]
  have he:((x.Kids.take (x.Kids.length - 1)).map parT)[j]? =some (parT x.Kids[j]):=by
   rw[List.getElem?_map,List.getElem?_take,if_pos hj,List.getElem?_eq_getElem hj2]
   rfl
  simp only
  unfold fv km
  rw[ip (by omega),if_pos (by rw[decide_eq_true_eq];omega),j5 hj2]
  simp only[Option.bind_some]
  by_cases h0:j=0
  ·subst h0
   rw[if_neg (by simp),catB (by simp only[List.length_append];omega),catB (by simp only[List.length_append,List.length_cons,List.length_nil];omega),catB (by simp only[List.length_append,List.length_cons,List.length_nil];omega),join_take he]
   simp[Lib.join_nil,parT,List.append_assoc]
  ·rw[if_pos (by rw[decide_eq_true_eq];omega),catB (by simp only[List.length_append,List.length_cons,List.length_nil];omega),catB (by simp only[List.length_append,List.length_cons,List.length_nil];omega),catB (by simp only[List.length_append,List.length_cons,List.length_nil];omega),catB (by simp only[List.length_append,List.length_cons,List.length_nil];omega),join_take he,if_neg h0]
   simp[parT,List.append_assoc]
 ·simp only
  unfold fv
  rw[ip (by omega),if_neg (by rw[decide_eq_true_eq];omega),List.take_of_length_le (by simp)]
theorem member_j {x:ApiNode} (hs:fo x<=400) (hok:okN x) (hb:da x<=2000000) (A:List UInt8) (hA:A.length<=20):∃t,i3 x A=some t/\i2 x A=some t/\t.length<=1100 * da x:=by
 have hx:=fr x
 have hsx:=ix x
 have hlen:=ib x.Kids
 have hp:∀{β:Type} (f:List UInt8->Option β),((cat x.Type_ [32]).bind fun x6=>(cat x6 x.Text).bind fun x7=>(cat A x7).bind f)=f (A++parT x):=fun f=>by
  rw[catB (by simp only[List.length_cons,List.length_nil];omega),catB (by simp only[List.length_append,List.length_cons,List.length_nil];omega),catB (by simp only[List.length_append,List.length_cons,List.length_nil];omega)]
  rfl
 have hq:∀{β:Type} (f:List UInt8->Option β),((cat A x.Type_).bind fun x6=>(cat x6 [32]).bind fun x7=>(cat x7 x.Text).bind f)=f (A++parT x):=fun f=>by
  rw[catB (by omega),catB (by simp only[List.length_append,List.length_cons,List.length_nil];omega),catB (by simp only[List.length_append,List.length_cons,List.length_nil];omega)]
  simp[parT,List.append_assoc]
 have hpl:=parT_len x
 have hpe:(parT x).length=x.Type_.length+1+x.Text.length:=by simp only[parT,List.length_append,List.length_cons,List.length_nil]
 unfold i3 i2
 rw[hp,hq]
 by_cases h2:x.Kind=2
 ·refine⟨A++parT x++[59,10],?_,?_,by simp only[List.length_append,List.length_cons,List.length_nil];omega⟩
  ·rw[if_pos (by simp[h2]),catB (by simp only[List.length_append,List.length_cons,List.length_nil];omega)]
  ·rw[if_pos (by simp[h2]),catB (by simp only[List.length_append,List.length_cons,List.length_nil];omega)]
 ·have c2:¬(x.Kind==2)=true:=by simpa using h2
  rw[if_neg c2,if_neg c2]
  by_cases h3:x.Kind=3
  ·have c3:(x.Kind==3)=true:=by simp[h3]
   have c4:¬(x.Kind != 3)=true:=by simp[h3]
   rw[if_pos c3,if_neg c4,lastIx (by omega)]
   obtain⟨t,t1,t2,t3⟩:=belongsT hs hok hb (x.Kids.length - 1)
   have hk:=takekb x.Kids (x.Kids.length - 1)
   have hj:=join_le (e:=parT) (l:=x.Kids.take (x.Kids.length - 1)) (fun y _=>parT_len y)
   have hsub:subL x.Kids 0 ((x.Kids.length - 1:Nat):Int)=some (x.Kids.take (x.Kids.length - 1)):=by
    unfold subL
    rw[if_pos ⟨by omega,by omega,by omega⟩]
    simp
   refine⟨A++parT x++[40]++Lib.join ((x.Kids.take (x.Kids.length - 1)).map parT) sepC++[41,32]++t++[10],?_,?_,by simp only[List.length_append,List.length_cons,List.length_nil];omega⟩
   ·rw[hsub]
    simp only[Option.bind_some]
    rw[list_eq (e:=parT) (fun y hy=>⟨par_eq (by have:=e6 (List.mem_of_mem_take hy);omega),parT_len y⟩) (by simp;omega) (by omega)]
    simp only[Option.bind_some]
    rw[catB (by simp only[List.length_append,List.length_cons,List.length_nil];omega),catB (by simp only[List.length_append,List.length_cons,List.length_nil];omega),t1]
    simp only[Option.bind_some]
    rw[catB (by simp only[List.length_append,List.length_cons,List.length_nil];omega),catB (by simp only[List.length_append,List.length_cons,List.length_nil];omega)]
    simp[List.append_assoc]
   ·rw[catB (by simp only[List.length_append,List.length_cons,List.length_nil];omega),params_ref (by simp only[List.length_append,List.length_cons,List.length_nil];omega) (by omega) (by omega)]
    simp only[Option.bind_some]
    unfold ref13_Member_k1
    rw[catB (by simp only[List.length_append,List.length_cons,List.length_nil];omega),lastIx (by omega),t2]
    simp only[Option.bind_some]
    rw[catB (by simp only[List.length_append,List.length_cons,List.length_nil];omega),catB (by simp only[List.length_append,List.length_cons,List.length_nil];omega)]
  ·have c3:¬(x.Kind==3)=true:=by simpa using h3
   have c4:(x.Kind != 3)=true:=by simpa using h3
   rw[if_neg c3,if_pos c4]
   exact⟨[],rfl,rfl,by simp⟩
theorem Member_eq {x:ApiNode} (hs:fo x<=400) (hok:okN x) (hb:da x<=2000000):∃t,jd x=some t/\jc x=some t/\t.length<=1100 * da x:=by
 unfold jd jc
 by_cases hn:x.N=1
 ·rw[if_pos (by simp[hn]),if_pos (by simp[hn]),catB (by simp),catB (by simp)]
  exact member_j hs hok hb _ (by simp)
 ·rw[if_neg (by simpa using hn),if_neg (by simpa using hn)]
  exact member_j hs hok hb _ (by simp)
theorem class_loops {x:ApiNode} (hs:fo x<=400) (hok:okN x) (hb:da x<=2000000) (A:List UInt8) (hA:A.length<=5000000):∃t,jz x A=some t/\jr x A=some t/\t.length<=5+A.length+1100 * cj x.Kids:=by
 have hx:=fr x
 have hsx:=ix x
 have hlen:=ib x.Kids
 rw[okN_eq]at hok
 have hkid:∀y,y∈x.Kids->∃t,jd y=some t/\jc y=some t/\t.length<=1100 * da y:=fun y hy=>by
  have h1:=iy hy
  have h2:=e6 hy
  exact Member_eq (by omega) (okL_mem hok.2 hy) (by omega)
 classical
 let e:ApiNode->List UInt8:=fun y=>if h:y∈x.Kids then(hkid y h).choose else[]
 have he:∀y∈x.Kids,jd y=some (e y)/\jc y=some (e y)/\(e y).length<=1100 * da y:=fun y hy=>by
  have:=(hkid y hy).choose_spec
  simp only[e,dif_pos hy]
  exact this
 have hf:=flat_le (s:=e) (l:=x.Kids) (fun y hy=>(he y hy).2.2)
 have hstep:∀i,(hi:i<x.Kids.length)->(((x.Kids.take (i+1)).map e).flatten)=((x.Kids.take i).map e).flatten++e x.Kids[i]:=fun i hi=>by
  rw[List.take_add_one,List.getElem?_eq_getElem hi,List.map_append,List.flatten_append]
  simp only[Option.toList_some,List.map_cons,List.map_nil,List.flatten_cons,List.flatten_nil,List.append_nil]
 have hfi:∀i,(((x.Kids.take i).map e).flatten).length<=1100 * cj x.Kids:=fun i=>by
  have h1:=flat_le (s:=e) (l:=x.Kids.take i) (fun y hy=>(he y (List.mem_of_mem_take hy)).2.2)
  have h2:=l0 x.Kids i
  omega
 have hm:∀i,(hi:i<x.Kids.length)->da x.Kids[i]<=cj x.Kids:=fun i hi=>e6 (List.getElem_mem hi)
 refine⟨A++[32,123,10]++(x.Kids.map e).flatten++[125,10],?_,?_,by simp only[List.length_append,List.length_cons,List.length_nil];omega⟩
 ·unfold jz
  rw[catB (by simp only[List.length_cons,List.length_nil];omega)]
  have hit:iter (fun s:List UInt8 × Int=>gi x s.1 s.2) (A++[32,123,10],0)=some (A++[32,123,10]++(x.Kids.map e).flatten):=by
   have:=gm (f:=fun s:List UInt8 × Int=>gi x s.1 s.2) (fun i=>(A++[32,123,10]++((x.Kids.take i).map e).flatten,(i:Int))) x.Kids.length (o:=A++[32,123,10]++(x.Kids.map e).flatten) (fun i hi=> ?_) ?_
   ·simpa using this
   ·have h1:=hfi i
    have h2:=hm i hi
    have h3:=(he _ (List.getElem_mem hi)).2.2
    simp only
    unfold gi
    rw[if_pos (by simp[hi]),j5 hi]
    simp only[Option.bind_some]
    rw[(he _ (List.getElem_mem hi)).1]
    simp only[Option.bind_some]
    rw[catB (by simp only[List.length_append,List.length_cons,List.length_nil];omega),ip (by omega),hstep i hi,List.append_assoc]
   ·simp only
    unfold gi
    rw[if_neg (by simp),List.take_length]
  rw[hit]
  simp only[Option.bind_some,print_Class_k1]
  rw[catB (by simp only[List.length_append,List.length_cons,List.length_nil];omega)]
 ·unfold jr
  rw[catB (by simp only[List.length_cons,List.length_nil];omega)]
  have hit:iter (fun s:List UInt8 × Int=>gb x s.1 s.2) (A++[32,123,10],0)=some (A++[32,123,10]++(x.Kids.map e).flatten):=by
   have:=gm (f:=fun s:List UInt8 × Int=>gb x s.1 s.2) (fun i=>(A++[32,123,10]++((x.Kids.take i).map e).flatten,(i:Int))) x.Kids.length (o:=A++[32,123,10]++(x.Kids.map e).flatten) (fun i hi=> ?_) ?_
   ·simpa using this
   ·have h1:=hfi i
    have h2:=hm i hi
    have h3:=(he _ (List.getElem_mem hi)).2.2
    simp only
    unfold gb
    rw[if_pos (by simp[hi]),j5 hi]
    simp only[Option.bind_some]
    rw[(he _ (List.getElem_mem hi)).2.1]
    simp only[Option.bind_some]
    rw[catB (by simp only[List.length_append,List.length_cons,List.length_nil];omega),ip (by omega),hstep i hi,List.append_assoc]
   ·simp only
    unfold gb
    rw[if_neg (by simp),List.take_length]
  rw[hit]
  simp only[Option.bind_some,ref13_Class_k1]
  rw[catB (by simp only[List.length_append,List.length_cons,List.length_nil];omega)]
theorem Class_eq {x:ApiNode} (hs:fo x<=400) (hok:okN x) (hb:da x<=2000000):∃t,print_Class x=some t/\ref13_Class x=some t:=by
 have hx:=fr x
 by_cases h:x.Type_=[]
 ·obtain⟨t,t1,t2,_⟩:=class_loops hs hok hb ([99,108,97,115,115,32]++x.Text) (by simp only[List.length_append,List.length_cons,List.length_nil];omega)
  refine⟨t,?_,?_⟩
  ·unfold print_Class
   rw[catB (by simp only[List.length_cons,List.length_nil];omega),if_neg (by simp[h])]
   exact t1
  ·unfold ref13_Class
   rw[catB (by simp only[List.length_cons,List.length_nil];omega),if_neg (by simp[h])]
   exact t2
 ·obtain⟨t,t1,t2,_⟩:=class_loops hs hok hb ([99,108,97,115,115,32]++x.Text++([32,101,120,116,101,110,100,115,32]++x.Type_)) (by simp only[List.length_append,List.length_cons,List.length_nil];omega)
  refine⟨t,?_,?_⟩
  ·unfold print_Class
   rw[catB (by simp only[List.length_cons,List.length_nil];omega),if_pos (by simpa using h),catB (by simp only[List.length_cons,List.length_nil];omega),catB (by simp only[List.length_append,List.length_cons,List.length_nil];omega)]
   exact t1
  ·unfold ref13_Class
   rw[catB (by simp only[List.length_cons,List.length_nil];omega),if_pos (by simpa using h),catB (by simp only[List.length_append,List.length_cons,List.length_nil];omega),catB (by simp only[List.length_append,List.length_cons,List.length_nil];omega),List.append_assoc _ [32,101,120,116,101,110,100,115,32] x.Type_]
   exact t2
end Go.Proofs.YtgkcoicaopilhaaGreatDoor
set_option linter.unusedSectionVars false
set_option linter.unusedVariables false
set_option linter.unusedSimpArgs false
set_option maxRecDepth 1000000
set_option maxHeartbeats 4000000
namespace Go.Proofs.YtgkcoicaopilhaaGreatDoor
open Go Go.Cn
mutual
def tsum :ApiNode->Nat
 |⟨_,t,y,_,_,_,_,_,kids⟩=>t.length+y.length+tsumL kids
def tsumL :List ApiNode->Nat
 | []=>0
 |n::l=>tsum n+tsumL l
end
mutual
theorem nbytes_tsum :∀x:ApiNode,da x=tsum x+48 * fo x
 |⟨_,t,y,_,_,_,_,_,kids⟩=>by
  have:=nbytesL_tsum kids
  simp only[da,tsum,fo]
  omega
theorem nbytesL_tsum :∀l:List ApiNode,cj l=tsumL l+48 * j3 l
 | []=>by simp[cj,tsumL,j3]
 |n::l=>by
  have h1:=nbytes_tsum n
  have h2:=nbytesL_tsum l
  simp only[cj,tsumL,j3]
  omega
end
theorem tsum_eq (x:ApiNode):tsum x=x.Text.length+x.Type_.length+tsumL x.Kids:=by cases x;simp[tsum]
theorem er_len (names:List (List UInt8)) (s:List UInt8):(er names s).length<=s.length:=by
 unfold er
 split
 ·rename_i h
  have:=List.length_pos_iff.2 h.2
  simp only[List.length_cons,List.length_nil]
  omega
 ·exact Nat.le_refl _
theorem in_eq {names:List (List UInt8)} (hn:names.length<=1000000) (s:List UInt8):ref14_in names s=some (decide (s∈names/\s≠[])):=by
  obtain⟨o,h1,h2⟩:=ii (f:=fun i:Int=>ref14_in_l2 names s i) (fun i=>∃k:Nat,i=k/\k<=names.length/\¬(s∈names.take k/\s≠[]))
    (fun o => match o with | .next _ => ¬ (s ∈ names /\ s ≠ []) | .done r => r = true /\ s ∈ names /\ s ≠ []) (fun i => names.length - i.toNat) (by
      rintro _ ⟨k,rfl,hk,hno⟩
      unfold ref14_in_l2 ref14_in_j3
      by_cases hlt:k<names.length
      · rw[if_pos (by simp[hlt]),j5 hlt]
        simp only[Option.bind_some]
        by_cases he:names[k]=s
        · rw[if_pos (by simp[he])]
          by_cases hs:s=[]
          · left
            rw[if_neg (by simp[hs])]
            refine⟨_,rfl,⟨k+1,ip (by omega),hlt,fun h=>h.2 hs⟩,?_⟩
            rw[ip (by omega)]
            omega
          · right
            rw[if_pos (by simpa using hs)]
            exact⟨_,rfl,rfl,he▸List.getElem_mem hlt,hs⟩
        · left
          rw[if_neg (by simpa using he),if_neg (by simp)]
          refine⟨_,rfl,⟨k+1,ip (by omega),hlt,fun h=> ?_⟩,?_⟩
          · rw[List.take_add_one,List.getElem?_eq_getElem hlt,List.mem_append]at h
            rcases h.1 with h'|h'
            · exact hno ⟨h',h.2⟩
            · simp only[Option.toList_some,List.mem_singleton]at h'
              exact he h'.symm
          · rw[ip (by omega)]
            omega
      · right
        rw[if_neg (by simp;omega)]
        rw[List.take_of_length_le (by omega)]at hno
        exact⟨_,rfl,hno⟩) 0 ⟨0,rfl,Nat.zero_le _,by simp⟩
  unfold ref14_in
  rw[h1]
  cases o with
  |next p=>rw[decide_eq_false h2];rfl
  |done r=>obtain⟨rfl,h2⟩:=h2;rw[decide_eq_true h2];rfl
theorem erase14_at {names:List (List UInt8)} (hn:names.length<=1000000):∀(k:Nat) (x:ApiNode),fo x<=k->k<=1048576->fy k x names=some (fj (er names) x):=by
 intro k
 induction k with
 |zero=>intro x h _;have:=nsize_pos x;omega
 |succ k ih=>
  intro x hx hk
  show F_ref14_Erase (fy k) x names=_
  generalize hR:fy k=R
  have hsz:=ix x
  have hlen:=ib x.Kids
  have hkid:∀y∈x.Kids,R y names=some (fj (er names) y):=fun y hy=>by
   have:=iy hy
   rw[← hR]
   exact ih y (by omega) (by omega)
  unfold F_ref14_Erase
  have hit:iter (fun s:Int × List ApiNode=>ga R x names s.1 s.2) (0,[])=some (x.Kids.map (fj (er names))):=by
   refine gm (f:=fun s:Int × List ApiNode=>ga R x names s.1 s.2) (fun i=>((i:Int),(x.Kids.take i).map (fj (er names)))) x.Kids.length (fun i hi=> ?_) ?_
   ·simp only
    unfold ga
    rw[if_pos (by simp[hi]),j5 hi]
    simp only[Option.bind_some]
    rw[hkid _ (List.getElem_mem hi)]
    simp only[Option.bind_some]
    unfold app
    rw[if_pos ⟨by simp only[List.length_map,List.length_take,List.length_cons,List.length_nil];omega,by simp only[List.length_map,List.length_take,List.length_cons,List.length_nil];omega⟩]
    simp only[Option.bind_some]
    rw[ip (by omega),List.take_add_one,List.getElem?_eq_getElem hi,List.map_append]
    rfl
   ·simp only
    unfold ga
    rw[if_neg (by simp),List.take_length]
  rw[hit]
  simp only[Option.bind_some]
  have he:fj (er names) x=⟨x.Kind,if x.Kind≠24 then er names x.Text else x.Text,er names x.Type_,x.N,x.From,x.To,x.At,x.TypeAt,x.Kids.map (fj (er names))⟩:=by
   cases x
   simp[fj,eraseL_map]
  rw[he]
  have j2:∀z:ApiNode,jq R names z=some {z with Type_:=er names z.Type_}:=fun z=>by
   unfold jq k1
   rw[in_eq hn]
   simp only[Option.bind_some,er]
   by_cases h:z.Type_∈names/\z.Type_≠[]
   ·rw[decide_eq_true h,if_pos rfl,if_pos h]
   ·rw[decide_eq_false h,if_neg (by simp),if_neg h]
    cases z;rfl
  unfold ref14_Erase_k4 kz
  simp only
  rw[in_eq hn,j2,j2]
  simp only[Option.bind_some]
  by_cases h:x.Text∈names/\x.Text≠[]
  ·rw[decide_eq_true h,if_pos rfl]
   by_cases h24:x.Kind=24
   ·rw[if_neg (by simp[h24]),if_neg (by simpa using h24)]
   ·rw[if_pos (by simpa using h24),if_pos h24]
    simp only[er,if_pos h]
  ·rw[decide_eq_false h,if_neg (by simp),if_neg (by simp)]
   have e:er names x.Text=x.Text:=by unfold er;rw[if_neg h]
   rw[e]
   simp
theorem Erase14_eq {names:List (List UInt8)} {x:ApiNode} (hn:names.length<=1000000) (hx:fo x<=1048576):ref14_Erase x names=some (fj (er names) x):=erase14_at hn 1048576 x hx (Nat.le_refl _)
theorem lexR_lengthT {a:Nat} {s:List UInt8} {l:List ApiToken} {p e:Nat} (h:LexR a s l p e):l.length<=s.length+1:=by
 induction h with
 |note a s k hg=>simp
 |fin a s hg=>simp
 |bad a s k e hg hk ht he=>simp
 |tok a s k d n l hg hk ht _ ih=>
  obtain⟨hn,hn2,_,_⟩:=tokL_len ht
  simp only[List.length_drop,List.length_cons]at ih hn2 ⊢
  omega
 |later a s k d n p e hg hk ht _ he ih=>simp
theorem back_split :∀(l:List ApiToken) (a:Nat) (s:List UInt8),backL a s l->∃l' t,l=l'++[t]/\t.Kind=5/\∀u∈l',u.Kind≠5
 | [],_,_,h=>h.elim
 |t::l,a,s,h=>by
  obtain⟨_,s',_,h⟩:=h
  rcases h with⟨rfl,h5,_⟩|⟨_,h5,_,hb⟩
  ·exact⟨[],t,rfl,h5,fun u hu=>by cases hu⟩
  ·obtain⟨l',t',rfl,h1,h2⟩:=back_split l _ _ hb
   refine⟨t::l',t',rfl,h1,fun u hu=> ?_⟩
   rcases List.mem_cons.1 hu with rfl|hu
   ·exact h5
   ·exact h2 u hu
theorem texts_shape {l:List ApiToken} (hl:l.length<=2000000):iter (fun s:Int × List (List UInt8)=>fu l s.1 s.2) (0,[])=some (l.map (·.Text)):=by
 refine gm (f:=fun s:Int × List (List UInt8)=>fu l s.1 s.2) (fun i=>((i:Int),(l.take i).map (·.Text))) l.length (fun i hi=> ?_) ?_
 ·simp only
  unfold fu
  rw[if_pos (by simp[hi]),j5 hi]
  simp only[Option.bind_some]
  rw[app16 (by simp only[List.length_map,List.length_take,List.length_cons,List.length_nil];omega)]
  simp only[Option.bind_some]
  rw[ip (by omega),List.take_add_one,List.getElem?_eq_getElem hi,List.map_append]
  rfl
 ·simp only
  unfold fu
  rw[if_neg (by simp),List.take_length]
theorem texts_ref {l:List ApiToken} (hl:l.length<=2000000):ref04_Texts l=some ((l.filter fun t=>t.Kind != 5).map (·.Text)):=by
 unfold ref04_Texts
 have hit:iter (fun s:Int × List (List UInt8)=>gf l s.1 s.2) (0,[])=some ((l.filter fun t=>t.Kind != 5).map (·.Text)):=by
  refine gm (f:=fun s:Int × List (List UInt8)=>gf l s.1 s.2) (fun i=>((i:Int),((l.take i).filter fun t=>t.Kind != 5).map (·.Text))) l.length (fun i hi=> ?_) ?_
  ·have hle:((l.take i).filter fun t=>t.Kind != 5).length<=i:=Nat.le_trans (List.length_filter_le ..) (by rw[List.length_take];omega)
   simp only
   unfold gf k3
   rw[if_pos (by simp[hi]),j5 hi]
   simp only[Option.bind_some]
   rw[List.take_add_one,List.getElem?_eq_getElem hi,Option.toList_some,List.filter_append,List.map_append]
   by_cases h5:(l[i].Kind != 5)=true
   ·rw[if_pos h5,app16 (by simp only[List.length_map,List.length_cons,List.length_nil];omega)]
    simp only[Option.bind_some]
    rw[ip (by omega),List.filter_cons_of_pos (p:=fun t:ApiToken=>t.Kind != 5) (a:=l[i]) h5]
    rfl
   ·rw[if_neg h5,ip (by omega),List.filter_cons_of_neg (p:=fun t:ApiToken=>t.Kind != 5) (a:=l[i]) h5]
    simp
  ·simp only
   unfold gf
   rw[if_neg (by simp),List.take_length]
 rw[hit]
 rfl
theorem tokens_eq {x:ApiNode} {names:List (List UInt8)} {t:List UInt8} (h1:shape_Of x names=some t) (h2:ref14_Of x names=some t):∃l,f8 x names=some l/\ref14_Tokens x names=some l/\l.length<=2000000:=by
 unfold f8 ref14_Tokens
 rw[h1,h2]
 simp only[Option.bind_some]
 by_cases hl:t.length<=1048576
 ·rw[lex_Lex_eq t hl,ref03_Lex_eq t hl]
  simp only[Option.bind_some,lexI]
  by_cases he:(lexM t).2.2=0
  ·have hR:=lexM_rel t
   rw[if_neg (by simp[he]),if_neg (by simp[he])]
   obtain⟨_,_,hb⟩:=lexR_back hR he
   obtain⟨l',u,e1,e2,e3⟩:=back_split _ _ _ hb
   have hlen:=lexR_lengthT hR
   rw[e1]at hlen ⊢
   simp only[List.length_append,List.length_cons,List.length_nil]at hlen
   have hs:subL (l'++[u]) 0 (w64 (((l'++[u]).length:Int) - 1))=some l':=by
    have e:w64 (((l'++[u]).length:Int) - 1)=(l'.length:Int):=by
     rw[fp (by omega) (by simp only[List.length_append,List.length_cons,List.length_nil];omega)]
     simp only[List.length_append,List.length_cons,List.length_nil]
     omega
    rw[e]
    unfold subL
    rw[if_pos ⟨by omega,by omega,by simp only[List.length_append,List.length_cons,List.length_nil];omega⟩]
    simp
   rw[hs]
   simp only[Option.bind_some]
   rw[texts_shape (by omega),texts_ref (by simp only[List.length_append,List.length_cons,List.length_nil];omega)]
   have hf:(l'++[u]).filter (fun t=>t.Kind != 5)=l':=by
    rw[List.filter_append,List.filter_cons_of_neg (by simp[e2]),List.filter_nil,List.append_nil]
    exact List.filter_eq_self.2 (fun v hv=>by simpa using e3 v hv)
   rw[hf]
   exact⟨_,rfl,rfl,by simp only[List.length_map];omega⟩
  ·rw[if_pos (by simpa using he),if_pos (by simpa using he)]
   exact⟨[],rfl,rfl,by simp⟩
 ·have e1:lex_Lex t=some ([],0,2):=by unfold lex_Lex;rw[if_pos (by rw[decide_eq_true_eq];omega)]
  have e2:ref03_Lex t=some ([],0,2):=by unfold ref03_Lex;rw[if_pos (by rw[decide_eq_true_eq];omega)]
  rw[e1,e2]
  exact⟨[],rfl,rfl,by simp⟩
theorem Same_self {l:List (List UInt8)} (h:l.length<=2000000):ref01_Same l l=some true:=by
 unfold ref01_Same
 rw[if_neg (by simp)]
 have hit:iter (fun s:Int=>fk l l s) 0=some (.next ()):=by
  refine gm (f:=fun s:Int=>fk l l s) (fun i=>(i:Int)) l.length (fun i hi=> ?_) ?_
  ·show fk l l (i:Int)=_
   unfold fk ref01_Same_j3
   rw[if_pos (by simp[hi]),j5 hi]
   simp only[Option.bind_some]
   rw[if_neg (by simp),ip (by omega)]
  ·show fk l l (l.length:Int)=_
   unfold fk
   rw[if_neg (by simp)]
 rw[hit]
 rfl
theorem awakeT :law14_awake=some true:=by
 decide+kernel
theorem few_le {x:ApiNode} (hx:fo x<=1048576):∃b,law14_few x=some b/\(b=true->fo x<=150):=by
 unfold law14_few law14_few_j1
 obtain⟨b,hb⟩:∃b,ref11_Deep x 60=some b:=deep_at 1048576 x 60 hx (Nat.le_refl _) (by omega)
 rw[hb]
 simp only[Option.bind_some]
 cases b with
 |true=>exact⟨false,rfl,fun h=>by cases h⟩
 |false=>
  simp only[Bool.not_false,if_true]
  rw[Count_eq hx]
  refine⟨_,rfl,fun h=> ?_⟩
  rw[decide_eq_true_eq]at h
  omega
theorem Of_eq {x:ApiNode} {names:List (List UInt8)} (hn:names.length<=1000000) (hs:fo x<=150) (hok:okN x) (hb:da x<=2000000):∃t,shape_Of x names=some t/\ref14_Of x names=some t:=by
 have hb2:=nbytes_erase (er_len names) x
 have hs2:=nsize_erase (er names) x
 have hok2:=okN_erase (er names) x hok
 unfold shape_Of ref14_Of
 rw[Erase_eq (by omega) (by omega),Erase14_eq hn (by omega)]
 simp only[Option.bind_some]
 by_cases h1:x.Kind=1
 ·have c1:(x.Kind==1)=true:=by simp[h1]
  rw[if_pos c1,if_pos c1]
  obtain⟨t,t1,t2⟩:=Class_eq (x:=fj (er names) x) (by omega) hok2 (by omega)
  rw[t1,t2]
  exact⟨t,rfl,rfl⟩
 ·have c1:¬(x.Kind==1)=true:=by simpa using h1
  rw[if_neg c1,if_neg c1]
  obtain⟨t,t1,t2,_⟩:=Member_eq (x:=fj (er names) x) (by omega) hok2 (by omega)
  unfold shape_Of_j1 ref14_Of_j1
  rw[t1,t2]
  simp only[Option.bind_some]
  by_cases h2:x.Kind=2
  ·exact⟨t,by simp[h2],by simp[h2]⟩
  ·by_cases h3:x.Kind=3
   ·exact⟨t,by simp[h3],by simp[h3]⟩
   ·exact⟨[],by simp[h2,h3],by simp[h2,h3]⟩
theorem ShapeTells_law {x:ApiNode} {names:List (List UInt8)} (h1:fo x<=1048576) (h2:tsum x<=1048576) (h3:okN x):lc x names=some true:=by
 unfold lc
 rw[awakeT]
 simp only[Option.bind_some,Bool.not_true,Bool.false_eq_true,if_false]
 obtain⟨b,hb,hb2⟩:=few_le h1
 rw[hb]
 simp only[Option.bind_some]
 unfold gy
 cases b with
 |false=>rfl
 |true=>
  have hs:=hb2 rfl
  have hbt:=nbytes_tsum x
  simp only[Bool.not_true,Bool.false_eq_true,if_false]
  by_cases hn:names.length>10
  ·rw[if_pos (by rw[decide_eq_true_eq];omega)]
  ·rw[if_neg (by rw[decide_eq_true_eq];omega),Erase_eq (by omega) h1,Erase14_eq (by omega) h1]
   simp only[Option.bind_some]
   rw[Exact_same (by rw[nsize_erase];exact h1)]
   simp only[Option.bind_some,if_true]
   obtain⟨t,t1,t2⟩:=Of_eq (names:=names) (by omega) hs h3 (by omega)
   obtain⟨l,l1,l2,l3⟩:=tokens_eq t1 t2
   rw[t1,t2]
   simp only[Option.bind_some]
   rw[if_pos (by simp),l1,l2]
   simp only[Option.bind_some]
   rw[Same_self l3]
   rfl
end Go.Proofs.YtgkcoicaopilhaaGreatDoor
