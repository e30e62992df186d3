/- A member that is called otherwise looks the same without both names: the law in plain Lean. -/
import Derived.Test.YtgkcoicaopilhaaGreatDoorZT
import Derived.Test.YtgkcoicaopilhaaGreatDoorZL
import Derived.Lib.ItoaNum
import Derived.Lib.Join
import Derived.OpenShut
set_option linter.unusedSimpArgs false
set_option linter.unusedVariables false
set_option linter.unusedSectionVars false
set_option linter.unusedSectionVars false
set_option maxHeartbeats 4000000
namespace Go.Proofs.YtgkcoicaopilhaaGreatDoor
open Go Go.Cn
mutual
def di :ApiNode->Nat
 |⟨_,_,_,_,_,_,_,_,kids⟩=>1+cg kids
def cg :List ApiNode->Nat
 | []=>0
 |n::l=>di n+cg l
end
mutual
def fa (f:List UInt8->List UInt8):ApiNode->ApiNode
 |⟨k,t,y,n,a,b,c,d,kids⟩=>⟨k,if k≠24 then f t else t,f y,n,a,b,c,d,j5 f kids⟩
def j5 (f:List UInt8->List UInt8):List ApiNode->List ApiNode
 | []=>[]
 |n::l=>fa f n::j5 f l
end
mutual
def flatN :ApiNode->List ApiNode
 |⟨k,t,y,n,a,b,c,d,kids⟩=>⟨k,t,y,n,a,b,c,d,kids⟩::flatL kids
def flatL :List ApiNode->List ApiNode
 | []=>[]
 |n::l=>flatN n++flatL l
end
theorem fu (x:ApiNode):di x=1+cg x.Kids:=by cases x;simp[di]
theorem nsize_pos (x:ApiNode):0<di x:=by rw[fu];omega
theorem eraseL_map (f:List UInt8->List UInt8):∀l:List ApiNode,j5 f l=l.map (fa f)
 | []=>by simp[j5]
 |n::l=>by simp[j5,eraseL_map f l]
theorem flatL_map :∀l:List ApiNode,flatL l=l.flatMap flatN
 | []=>by simp[flatL]
 |n::l=>by simp[flatL,flatL_map l]
theorem flatN_eq (x:ApiNode):flatN x=x::flatL x.Kids:=by cases x;simp[flatN]
theorem ey :∀l:List ApiNode,l.length<=cg l
 | []=>by simp[cg]
 |n::l=>by have:=ey l;have:=nsize_pos n;simp[cg];omega
theorem i9 {x:ApiNode}:∀{l:List ApiNode},x∈l->di x<=cg l
 |n::l,h=>by
  simp only[cg]
  rcases List.mem_cons.1 h with rfl|h
  ·omega
  ·have:=i9 h;omega
mutual
theorem flatN_len :∀x:ApiNode,(flatN x).length=di x
 |⟨_,_,_,_,_,_,_,_,kids⟩=>by simp[flatN,di,flatL_len kids];omega
theorem flatL_len :∀l:List ApiNode,(flatL l).length=cg l
 | []=>by simp[flatL,cg]
 |n::l=>by simp[flatL,cg,flatN_len n,flatL_len l]
end
mutual
theorem nsize_erase (f:List UInt8->List UInt8):∀x:ApiNode,di (fa f x)=di x
 |⟨_,_,_,_,_,_,_,_,kids⟩=>by simp[fa,di,nsizes_erase f kids]
theorem nsizes_erase (f:List UInt8->List UInt8):∀l:List ApiNode,cg (j5 f l)=cg l
 | []=>by simp[j5]
 |n::l=>by simp[j5,cg,nsize_erase f n,nsizes_erase f l]
end
mutual
theorem erase_twice {f:List UInt8->List UInt8} (hf:∀s,f (f s)=f s):∀x:ApiNode,fa f (fa f x)=fa f x
 |⟨k,_,_,_,_,_,_,_,kids⟩=>by
  by_cases hk:k=24<;>simp[fa,hk,hf,eraseL_twice hf kids]
theorem eraseL_twice {f:List UInt8->List UInt8} (hf:∀s,f (f s)=f s):∀l:List ApiNode,j5 f (j5 f l)=j5 f l
 | []=>by simp[j5]
 |n::l=>by simp[j5,erase_twice hf n,eraseL_twice hf l]
end
mutual
theorem erase_id {f:List UInt8->List UInt8} (hf:∀s,f s=s):∀x:ApiNode,fa f x=x
 |⟨k,_,_,_,_,_,_,_,kids⟩=>by
  by_cases hk:k=24<;>simp[fa,hf,eraseL_id hf kids]
theorem eraseL_id {f:List UInt8->List UInt8} (hf:∀s,f s=s):∀l:List ApiNode,j5 f l=l
 | []=>by simp[j5]
 |n::l=>by simp[j5,erase_id hf n,eraseL_id hf l]
end
theorem dk {α:Type} {l:List α} {i:Nat} (h:i<l.length):idx l (i:Int)=some l[i]:=idx_nat h
theorem erase_at (f:List UInt8->List UInt8):∀(k:Nat) (x:ApiNode),di x<=k->k<=1048576->gc k x (fun s=>some (f s))=some (fa f x):=by
  intro k
  induction k with
  |zero=>intro x h _;have:=nsize_pos x;omega
  |succ k ih=>
    intro x hx hk
    show F_shape_erase (gc k) x (fun s=>some (f s))=_
    generalize hR:gc k=R
    have hsz:=fu x
    have hlen:=ey x.Kids
    have hkid:∀y∈x.Kids,R y (fun s=>some (f s))=some (fa f y):=fun y hy=>by
      have:=i9 hy
      rw[← hR]
      exact ih y (by omega) (by omega)
    have step:∀t:List UInt8,kh R (fun s=>some (f s)) {x with Text:=t}=some ⟨x.Kind,t,f x.Type_,x.N,x.From,x.To,x.At,x.TypeAt,x.Kids.map (fa f)⟩:=by
      intro t
      unfold kh
      simp only[Option.bind_some]
      have hmk:mkLen 104 ((x.Kids.length:Nat):Int)=some x.Kids.length:=by
        unfold mkLen
        rw[if_pos ⟨by omega,by omega,by omega⟩]
        simp
      rw[hmk]
      simp only[Option.bind_some]
      obtain⟨o,h1,h2⟩:=eo (f:=fun s:Int × List ApiNode=>kg R {x with Text:=t} (f x.Type_) (fun s=>some (f s)) s.1 s.2)
        (fun s=>∃i,i<=x.Kids.length/\s.1=(i:Int)/\s.2=(x.Kids.take i).map (fa f)++List.replicate (x.Kids.length - i) (ApiNode.mk 0 [] [] 0 0 0 0 0 []))
        (fun o=>o=x.Kids.map (fa f)) (fun s=>x.Kids.length - s.1.toNat) (by
          rintro⟨_,_⟩ ⟨i,hi,h1,h2⟩
          simp only at h1 h2
          subst h1 h2
          unfold kg
          by_cases hlt:i<x.Kids.length
          · left
            have hi2:idx x.Kids (i:Int)=some x.Kids[i]:=dk hlt
            have hdr:List.replicate (x.Kids.length - i) (ApiNode.mk 0 [] [] 0 0 0 0 0 [])=ApiNode.mk 0 [] [] 0 0 0 0 0 []::List.replicate (x.Kids.length - (i+1)) (ApiNode.mk 0 [] [] 0 0 0 0 0 []):=by
              rw[show x.Kids.length - i=x.Kids.length - (i+1)+1 by omega,List.replicate_succ]
            have hl2:i<((x.Kids.take i).map (fa f)++List.replicate (x.Kids.length - i) (ApiNode.mk 0 [] [] 0 0 0 0 0 [])).length:=by simp;omega
            have hi3:=dk hl2
            rw[if_pos (by simp[hlt])]
            simp only[hi2,Option.bind_some,hkid _ (List.getElem_mem hlt),hi3]
            refine⟨_,rfl,⟨i+1,by omega,by rw[dj (by omega) (by omega)];omega,?_⟩,?_⟩
            · simp only[Int.toNat_natCast]
              rw[hdr,List.set_append_right _ _ (by simp;omega)]
              have:i - ((x.Kids.take i).map (fa f)).length=0:=by simp;omega
              have ht:x.Kids.take (i+1)=x.Kids.take i++[x.Kids[i]]:=by rw[List.take_add_one,List.getElem?_eq_getElem hlt];rfl
              rw[this,List.set_cons_zero,ht,List.map_append,List.append_assoc]
              rfl
            · simp only[dj (show -9223372036854775808<=(i:Int)+1 by omega) (by omega)]
              omega
          · right
            rw[if_neg (by simp;omega)]
            refine⟨_,rfl,?_⟩
            have:i=x.Kids.length:=by omega
            subst this
            simp) (0,List.replicate x.Kids.length (ApiNode.mk 0 [] [] 0 0 0 0 0 [])) ⟨0,by omega,rfl,by simp⟩
      rw[h1]
      subst h2
      rfl
    unfold F_shape_erase
    have he:fa f x=⟨x.Kind,if x.Kind≠24 then f x.Text else x.Text,f x.Type_,x.N,x.From,x.To,x.At,x.TypeAt,x.Kids.map (fa f)⟩:=by
      cases x
      simp[fa,eraseL_map]
    rw[he]
    by_cases hk24:x.Kind=24
    · rw[if_neg (by simp[hk24])]
      refine(step x.Text).trans ?_
      simp[hk24]
    · rw[if_pos (by simp[hk24])]
      simp only[Option.bind_some]
      rw[step (f x.Text)]
      simp[hk24]
theorem eraser_eq {names:List (List UInt8)} (h:names.length<=140737488355328):shape_eraser names=some (fun s=>some (if s∈names/\s≠[]then[95]else s)):=by
 unfold shape_eraser
 rw[if_pos h]
def er (names:List (List UInt8)) (s:List UInt8):List UInt8:=if s∈names/\s≠[]then[95]else s
theorem Erase_eq {names:List (List UInt8)} {x:ApiNode} (hn:names.length<=140737488355328) (hx:di x<=1048576):shape_Erase x names=some (fa (er names) x):=by
 unfold shape_Erase
 rw[eraser_eq hn]
 simp only[Option.bind_some]
 have:=erase_at (er names) 1048576 x hx (Nat.le_refl _)
 have h2:shape_erase x (fun s=>some (if s∈names/\s≠[]then[95]else s))=some (fa (er names) x):=this
 rw[h2]
 rfl
theorem all_at :∀(k:Nat) (x:ApiNode),di x<=k->k<=1048576->io k x 0=some (flatN x):=by
 intro k
 induction k with
 |zero=>intro x h _;have:=nsize_pos x;omega
 |succ k ih=>
  intro x hx hk
  show F_ref11_All (io k) x 0=_
  generalize hR:io k=R
  have hsz:=fu x
  have hlen:=ey x.Kids
  have hkid:∀y∈x.Kids,R y 0=some (flatN y):=fun y hy=>by
   have:=i9 hy
   rw[← hR]
   exact ih y (by omega) (by omega)
  unfold F_ref11_All
  rw[if_pos (show((0:Int)==0)=true from rfl)]
  unfold ref11_All_j4
  rw[if_pos rfl]
  have happ:∀(a b:List ApiNode),a.length+b.length<=1048576->app 104 a b=some (a++b):=fun a b h=>by
   unfold app
   rw[if_pos ⟨by omega,by omega⟩]
  rw[happ [] [x] (by simp)]
  simp only[Option.bind_some,List.nil_append]
  unfold ref11_All_j3
  have hpre:∀i,i<=x.Kids.length->(flatL (x.Kids.take i)).length<=cg x.Kids:=fun i hi=>by
   rw[← flatL_len x.Kids]
   conv=>rhs;rw[← List.take_append_drop i x.Kids]
   rw[flatL_map,flatL_map,List.flatMap_append,List.length_append]
   omega
  have htake:∀i (h:i<x.Kids.length),flatL (x.Kids.take (i+1))=flatL (x.Kids.take i)++flatN x.Kids[i]:=fun i h=>by
   rw[List.take_add_one,List.getElem?_eq_getElem h,flatL_map,flatL_map,List.flatMap_append]
   simp
  obtain⟨o,h1,h2⟩:=eo (f:=fun s:Int × List ApiNode=>nw R x 0 s.1 s.2) (fun s=>∃i:Nat,i<=x.Kids.length/\s.1=(i:Int)/\s.2=x::flatL (x.Kids.take i)) (fun o=>o=flatN x) (fun s=>x.Kids.length - s.1.toNat) (by
   rintro⟨_,_⟩ ⟨i,hi,h1,h2⟩
   simp only at h1 h2
   subst h1 h2
   unfold nw
   by_cases hlt:i<x.Kids.length
   ·left
    rw[if_pos (by simp[hlt])]
    have h3:=hpre (i+1) (by omega)
    rw[htake i hlt,List.length_append]at h3
    simp only[dk hlt,Option.bind_some,hkid _ (List.getElem_mem hlt)]
    rw[happ _ _ (by simp;omega)]
    refine⟨_,rfl,⟨i+1,by omega,by rw[dj (by omega) (by omega)];omega,?_⟩,?_⟩
    ·rw[htake i hlt]
     rfl
    ·simp only[dj (show -9223372036854775808<=(i:Int)+1 by omega) (by omega)]
     omega
   ·right
    rw[if_neg (by simp;omega)]
    refine⟨_,rfl,?_⟩
    rw[List.take_of_length_le (by omega),← flatN_eq]) (0,[x]) ⟨0,by omega,rfl,by simp[flatL]⟩
  rw[h1]
  subst h2
  rfl
end Go.Proofs.YtgkcoicaopilhaaGreatDoor
set_option linter.unusedSectionVars false
set_option linter.unusedVariables false
set_option linter.unusedSimpArgs false
set_option maxHeartbeats 4000000
namespace Go.Proofs.YtgkcoicaopilhaaGreatDoor
open Go Go.Cn
theorem ec {S ω:Type} {f:S->Option (S ⊕ ω)} (st:Nat->S) (n:Nat) {o:ω} (h:∀i,i<n->f (st i)=some (.inl (st (i+1)))) (hd:f (st n)=some (.inr o)):iter f (st 0)=some o:=by
 have key:∀j,j<=n->iter f (st (n - j))=some o:=by
  intro j
  induction j with
  |zero=>intro _;exact @mg noG _ _ _ _ _ hd
  |succ j ih=>
   intro hj
   have h1:=h (n - (j+1)) (by omega)
   rw[show n - (j+1)+1=n - j by omega]at h1
   rw[@iter_next noG _ _ _ _ _ h1]
   exact ih (by omega)
 have h2:=key n (Nat.le_refl _)
 rwa [Nat.sub_self]at h2
theorem catB {a b:List UInt8} {β:Type} {f:List UInt8->Option β} (h:a.length+b.length<=9000000000):(cat a b).bind f=f (a++b):=by
 unfold cat
 rw[if_pos (by omega)]
 rfl
theorem br {n:Nat} (h:n<=9000000000):w64 ((n:Int)+1)=((n+1:Nat):Int):=by rw[dj (by omega) (by omega)];rfl
mutual
def db :ApiNode->Nat
 |⟨_,t,y,_,_,_,_,_,kids⟩=>t.length+y.length+48+cf kids
def cf :List ApiNode->Nat
 | []=>0
 |n::l=>db n+cf l
end
mutual
def okN :ApiNode->Prop
 |⟨_,_,_,n,_,_,_,_,kids⟩=>(-9223372036854775808<=n/\n<=9223372036854775807)/\okL kids
def okL :List ApiNode->Prop
 | []=>True
 |n::l=>okN n/\okL l
end
theorem f0 (x:ApiNode):db x=x.Text.length+x.Type_.length+48+cf x.Kids:=by cases x;simp[db]
theorem okN_eq (x:ApiNode):okN x=((-9223372036854775808<=x.N/\x.N<=9223372036854775807)/\okL x.Kids):=by cases x;simp[okN]
theorem fe {x:ApiNode}:∀{l:List ApiNode},x∈l->db x<=cf l
 |n::l,h=>by
  simp only[cf]
  rcases List.mem_cons.1 h with rfl|h
  ·omega
  ·have:=fe h;omega
theorem okL_mem {x:ApiNode}:∀{l:List ApiNode},okL l->x∈l->okN x
 |n::l,h,hm=>by
  simp only[okL]at h
  rcases List.mem_cons.1 hm with rfl|hm
  ·exact h.1
  ·exact okL_mem h.2 hm
theorem ny :∀(l:List ApiNode) (i:Nat),cf (l.take i)<=cf l
 | [],_=>by simp[cf]
 |n::l,0=>by simp[cf]
 |n::l,i+1=>by have:=ny l i;simp only[List.take_succ_cons,cf];omega
theorem nbytesL_drop :∀(l:List ApiNode) (i:Nat),cf (l.drop i)<=cf l
 | [],_=>by simp[cf]
 |n::l,0=>by simp[cf]
 |n::l,i+1=>by have:=nbytesL_drop l i;simp only[List.drop_succ_cons,cf];omega
mutual
theorem nbytes_erase {f:List UInt8->List UInt8} (hf:∀s,(f s).length<=s.length):∀x:ApiNode,db (fa f x)<=db x
 |⟨k,t,y,_,_,_,_,_,kids⟩=>by
  have h1:=nbytesL_erase hf kids
  have h2:=hf t
  have h3:=hf y
  simp only[fa,db]
  split<;>omega
theorem nbytesL_erase {f:List UInt8->List UInt8} (hf:∀s,(f s).length<=s.length):∀l:List ApiNode,cf (j5 f l)<=cf l
 | []=>by simp[j5]
 |n::l=>by
  have h1:=nbytes_erase hf n
  have h2:=nbytesL_erase hf l
  simp only[j5,cf]
  omega
end
mutual
theorem okN_erase (f:List UInt8->List UInt8):∀x:ApiNode,okN x->okN (fa f x)
 |⟨k,t,y,_,_,_,_,_,kids⟩,h=>by
  simp only[fa,okN]at h ⊢
  exact⟨h.1,okL_erase f kids h.2⟩
theorem okL_erase (f:List UInt8->List UInt8):∀l:List ApiNode,okL l->okL (j5 f l)
 | [],_=>by simp[j5,okL]
 |n::l,h=>by
  simp only[j5,okL]at h ⊢
  exact⟨okN_erase f n h.1,okL_erase f l h.2⟩
end
def kb (l:List ApiNode) (i:Nat):Nat:=if h:i<l.length then db l[i]else 0
theorem kb3 (l:List ApiNode):kb l 0+kb l 1+kb l 2<=cf l:=by
 match l with
 | []=>simp[kb,cf]
 | [a]=>simp[kb,cf]
 | [a,b]=>simp[kb,cf]
 |a::b::c::r=>simp[kb,cf];omega
theorem kb01 (l:List ApiNode):kb l 0+cf (l.drop 1)<=cf l:=by
 match l with
 | []=>simp[kb,cf]
 |a::r=>simp[kb,cf]
theorem kb_le (l:List ApiNode) (i:Nat):kb l i<=cf l:=by
 unfold kb
 split
 ·exact fe (List.getElem_mem _)
 ·omega
def decD :Nat->Nat->List UInt8
 | 0,_=>[]
 |k+1,u=>if u<10 then[UInt8.ofNat (48+u)]else decD k (u / 10)++[UInt8.ofNat (48+u % 10)]
theorem decD_eq :∀(k u:Nat),u<10 ^ k->0<k->Lib.decDigits u=decD k u
 | 0,_,_,h=>absurd h (Nat.lt_irrefl _)
 |k+1,u,h,_=>by
  rw[Lib.decDigits]
  unfold decD
  by_cases hu:u<10
  ·rw[dif_pos hu,if_pos hu]
  ·rw[dif_neg hu,if_neg hu]
   rw[Nat.pow_succ]at h
   have hk:0<k:=by
    rcases Nat.eq_zero_or_pos k with rfl|hk
    ·simp at h;omega
    ·exact hk
   rw[decD_eq k (u / 10) (by omega) hk]
theorem decD_len :∀(k u:Nat),(decD k u).length<=k
 | 0,_=>by simp[decD]
 |k+1,u=>by
  unfold decD
  split
  ·simp
  ·have:=decD_len k (u / 10)
   simp
   exact this
theorem itoa_len {n:Int} (h1: -9223372036854775808<=n) (h2:n<=9223372036854775807):(Lib.itoa n).length<=21:=by
 have key:∀u:Nat,u<=9223372036854775808->(Lib.decDigits u).length<=20:=fun u hu=>by
  rw[decD_eq 20 u (by omega) (by omega)]
  exact decD_len 20 u
 unfold Lib.itoa
 split
 ·have:=key n.natAbs (by omega)
  simp only[List.length_cons]
  omega
 ·have:=key n.toNat (by omega)
  omega
theorem wrap_digit {d:Nat} (h:d<10):IntKind.wrap .u8 (48+(d:Int))=48+(d:Int):=by
 unfold IntKind.wrap
 have e1:(2:Int) ^ (IntKind.u8.bits)=256:=rfl
 have e3:IntKind.u8.signed=false:=rfl
 simp only[e1,e3,Bool.false_and]
 have:((48:Int)+(d:Int)) % 256=48+(d:Int):=by omega
 simp[this]
theorem digit_of {u:Nat} (h:u<=9223372036854775807):strOf [IntKind.wrap .u8 (w64 (48+(Int.tmod (u:Int) 10)))]=[UInt8.ofNat (48+u % 10)]:=by
 have e:Int.tmod (u:Int) 10=((u % 10:Nat):Int):=by
  rw[Int.tmod_eq_emod_of_nonneg (by omega)]
  omega
 rw[e,dj (by omega) (by omega),wrap_digit (by omega)]
 unfold strOf
 simp only[List.map_cons,List.map_nil]
 congr 2
theorem digits_loop (R:ei):∀(k u:Nat) (acc:List UInt8),u<10 ^ k->0<k->acc.length+k<=1000->u<=9223372036854775807->
  iter (fun s=>ref13_digits_l1 R s.1 s.2) ((u:Int),acc)=some (Lib.decDigits u++acc):=by
 intro k
 induction k with
 |zero=>intro u acc _ h;exact absurd h (Nat.lt_irrefl _)
 |succ k ih=>
  intro u acc hk _ ha hu
  have e:Int.tdiv (u:Int) 10=((u / 10:Nat):Int):=by
   rw[Int.tdiv_eq_ediv_of_nonneg (by omega)]
   omega
  have step:ref13_digits_l1 R (u:Int) acc=if u<10 then some (.inr ([UInt8.ofNat (48+u % 10)]++acc))else some (.inl (((u / 10:Nat):Int),[UInt8.ofNat (48+u % 10)]++acc)):=by
   unfold ref13_digits_l1
   rw[digit_of hu,catB (by simp only[List.length_cons,List.length_nil];omega),e,dj (by omega) (by omega)]
   by_cases h10:u<10
   ·rw[if_pos (by simp;omega),if_pos h10]
   ·rw[if_neg (by simp;omega),if_neg h10]
  by_cases h10:u<10
  ·rw[if_pos h10]at step
   rw[@mg noG _ _ _ _ _ step,Lib.decDigits,dif_pos h10,Nat.mod_eq_of_lt h10]
  ·rw[if_neg h10]at step
   rw[Nat.pow_succ]at hk
   have hk0:0<k:=by
    rcases Nat.eq_zero_or_pos k with rfl|hk0
    ·simp at hk;omega
    ·exact hk0
   rw[@iter_next noG _ _ _ _ _ step,ih (u / 10) _ (by omega) hk0 (by simp only[List.length_append,List.length_cons,List.length_nil];omega) (by omega),Lib.decDigits.eq_1 u,dif_neg h10,List.append_assoc]
theorem digits_nat (R:ei) {u:Nat} (h:u<=9223372036854775807):k5 R (u:Int)=some (Lib.decDigits u):=by
 unfold k5
 rw[if_neg (by simp),digits_loop R 20 u [] (by omega) (by omega) (by simp) h,List.append_nil]
theorem digits_at (n:Nat) {i:Int} (h1: -9223372036854775808<=i) (h2:i<=9223372036854775807):fq (n+2) i=some (Lib.itoa i):=by
 show k5 (fq (n+1)) i=_
 unfold Lib.itoa
 by_cases hi:i<0
 ·rw[if_pos hi]
  by_cases hm:i= -9223372036854775808
  ·subst hm
   have e:Lib.decDigits (-9223372036854775808:Int).natAbs=decD 20 9223372036854775808:=decD_eq 20 9223372036854775808 (by omega) (by omega)
   rw[e]
   unfold k5
   rw[if_pos (by decide),if_pos (by decide)]
   exact congrArg some (by decide+kernel)
  ·unfold k5
   rw[if_pos (by simp[hi]),if_neg (by simpa using hm),dj (by omega) (by omega)]
   have e:(-i)=((i.natAbs:Nat):Int):=by omega
   rw[e]
   rw[show fq (n+1) ((i.natAbs:Nat):Int)=some (Lib.decDigits i.natAbs)from digits_nat (fq n) (by omega)]
   have hl:(Lib.decDigits i.natAbs).length<=20:=by
    rw[decD_eq 20 _ (by omega) (by omega)]
    exact decD_len 20 _
   simp only[Option.bind_some]
   rw[catB (by simp only[List.length_cons,List.length_nil];omega)]
   simp
 ·rw[if_neg hi]
  have e:i=((i.toNat:Nat):Int):=by omega
  have:=digits_nat (fq (n+1)) (u:=i.toNat) (by omega)
  rw[← e]at this
  exact this
theorem digits_eq {i:Int} (h1: -9223372036854775808<=i) (h2:i<=9223372036854775807):ref13_digits i=some (Lib.itoa i):=digits_at 1048574 h1 h2
theorem format_eq {i:Int} (h1: -9223372036854775808<=i) (h2:i<=9223372036854775807):jh i 10=some (Lib.itoa i):=by
 unfold jh fh
 rw[if_pos ⟨rfl,h1,h2⟩]
 rfl
def ops :List (List UInt8):=[[42],[47],[37],[43],[45],[60],[60,61],[62],[62,61],[61,61],[33,61],[38,38],[124,124]]
def opRows :List (List (List UInt8)):=[[[124,124]],[[38,38]],[[61,61],[33,61]],[[60],[60,61],[62],[62,61]],[[43],[45]],[[42],[47],[37]]]
theorem Binds_l4 (i:Int) (s:List UInt8) (j:Int):mj i s j=(idx opRows i).bind fun x7=>(if(decide (j<(x7.length:Int)))=true then(idx opRows i).bind fun x9=>(idx x9 j).bind fun x10=>(if(x10==s)=true then some (.inr (.done (.inr (.done (w64 (i+1))))))else some (.inl (w64 (j+1))))else some (.inr (.next ()))):=rfl
theorem row_miss {i:Nat} {s:List UInt8} {row:List (List UInt8)} (hr:idx opRows (i:Int)=some row) (hs:s ∉ row) (hl:row.length<=1000):iter (fun x=>mj (i:Int) s x) 0=some (.next ()):=by
 refine ec (fun j=>(j:Int)) row.length (fun j hj=> ?_) ?_
 ·show mj _ _ _=_
  rw[Binds_l4,hr]
  simp only[Option.bind_some]
  rw[if_pos (by simp[hj]),dk hj]
  simp only[Option.bind_some]
  rw[if_neg (by rw[beq_iff_eq];intro h;exact hs (h▸List.getElem_mem hj)),br (by omega)]
 ·show mj _ _ _=_
  rw[Binds_l4,hr]
  simp only[Option.bind_some]
  rw[if_neg (by simp)]
theorem Binds_eq (s:List UInt8):∃b:Int,0<=b/\b<=6/\print_Binds s=some b/\ref13_Binds s=some b:=by
  by_cases h:s∈ops
  · simp only[ops,List.mem_cons,List.not_mem_nil,or_false]at h
    rcases h with rfl|rfl|rfl|rfl|rfl|rfl|rfl|rfl|rfl|rfl|rfl|rfl|rfl
    · exact⟨6,by decide,by decide,by decide+kernel,by decide+kernel⟩
    · exact⟨6,by decide,by decide,by decide+kernel,by decide+kernel⟩
    · exact⟨6,by decide,by decide,by decide+kernel,by decide+kernel⟩
    · exact⟨5,by decide,by decide,by decide+kernel,by decide+kernel⟩
    · exact⟨5,by decide,by decide,by decide+kernel,by decide+kernel⟩
    · exact⟨4,by decide,by decide,by decide+kernel,by decide+kernel⟩
    · exact⟨4,by decide,by decide,by decide+kernel,by decide+kernel⟩
    · exact⟨4,by decide,by decide,by decide+kernel,by decide+kernel⟩
    · exact⟨4,by decide,by decide,by decide+kernel,by decide+kernel⟩
    · exact⟨3,by decide,by decide,by decide+kernel,by decide+kernel⟩
    · exact⟨3,by decide,by decide,by decide+kernel,by decide+kernel⟩
    · exact⟨2,by decide,by decide,by decide+kernel,by decide+kernel⟩
    · exact⟨1,by decide,by decide,by decide+kernel,by decide+kernel⟩
  · refine⟨0,by decide,by decide,?_,?_⟩
    · simp only[ops,List.mem_cons,List.not_mem_nil,or_false,not_or]at h
      obtain⟨h1,h2,h3,h4,h5,h6,h7,h8,h9,h10,h11,h12,h13⟩:=h
      simp[print_Binds,jg,mr,i6,mt,mu,h1,h2,h3,h4,h5,h6,h7,h8,h9,h10,h11,h12,h13]
    · unfold ref13_Binds
      have hmem:∀(i:Nat) row,opRows[i]? =some row->s ∉ row:=fun i row hr hs=>by
        refine h ?_
        match i,hr with
        | 0,hr=>cases hr;revert hs;simp only[ops,List.mem_cons,List.not_mem_nil,or_false];intro hs;simp[hs]
        | 1,hr=>cases hr;revert hs;simp only[ops,List.mem_cons,List.not_mem_nil,or_false];intro hs;simp[hs]
        | 2,hr=>cases hr;revert hs;simp only[ops,List.mem_cons,List.not_mem_nil,or_false];intro hs;rcases hs with hs|hs<;>simp[hs]
        | 3,hr=>cases hr;revert hs;simp only[ops,List.mem_cons,List.not_mem_nil,or_false];intro hs;rcases hs with hs|hs|hs|hs<;>simp[hs]
        | 4,hr=>cases hr;revert hs;simp only[ops,List.mem_cons,List.not_mem_nil,or_false];intro hs;rcases hs with hs|hs<;>simp[hs]
        | 5,hr=>cases hr;revert hs;simp only[ops,List.mem_cons,List.not_mem_nil,or_false];intro hs;rcases hs with hs|hs|hs<;>simp[hs]
        |n+6,hr=>cases hr
      have hit:iter (fun x=>ml s x) 0=some (.next ()):=by
       refine ec (f:=fun x=>ml s x) (fun j=>(j:Int)) 6 (o:= .next ()) (fun i hi=> ?_) ?_
       · have hlt:i<opRows.length:=hi
         have hr:idx opRows (i:Int)=some opRows[i]:=dk hlt
         have hl:∀row∈opRows,row.length<=1000:=by decide
         show ml s (i:Int)=_
         unfold ml
         rw[if_pos (by simp;omega),row_miss hr (hmem i _ (List.getElem?_eq_getElem hlt)) (hl _ (List.getElem_mem hlt))]
         simp only[Option.bind_some,ref13_Binds_k3]
         rw[br (by omega)]
       · rfl
      rw[hit]
      rfl
theorem binding_eq (y:ApiNode):∃b:Int,b<=8/\print_binding y=some b/\ref13_binding y=some b:=by
  unfold print_binding ref13_binding ke ref13_binding_j1
  by_cases h:y.Kind=24
  · obtain⟨b,_,hb,h1,h2⟩:=Binds_eq y.Text
    refine⟨b,by omega,?_,?_⟩
    · rw[if_pos (by simp[h]),h1];rfl
    · rw[if_pos (by simp[h]),h2];rfl
  · by_cases h2:y.Kind=22
    · refine⟨7,by omega,?_,?_⟩<;>simp[h2]
    · by_cases h3:y.Kind=23
      · refine⟨7,by omega,?_,?_⟩<;>simp[h3]
      · refine⟨8,by omega,?_,?_⟩<;>simp[h,h2,h3]
end Go.Proofs.YtgkcoicaopilhaaGreatDoor
set_option linter.unusedSectionVars false
set_option linter.unusedVariables false
set_option linter.unusedSimpArgs false
set_option maxHeartbeats 4000000
namespace Go.Proofs.YtgkcoicaopilhaaGreatDoor
open Go Go.Cn
abbrev sepC :List UInt8:=[44,32]
theorem join_take {l:List (List UInt8)} {i:Nat} {y:List UInt8} (h:l[i]? =some y):Lib.join (l.take (i+1)) sepC=(if i=0 then[]else Lib.join (l.take i) sepC++sepC)++y:=by
 cases l with
 |nil=>simp at h
 |cons x r=>
  cases i with
  |zero=>
   simp only[List.getElem?_cons_zero,Option.some.injEq]at h
   subst h
   simp[Lib.join_one]
  |succ k=>
   simp only[List.getElem?_cons_succ]at h
   rw[if_neg (by omega),List.take_succ_cons,List.take_succ_cons,Lib.join_cons,Lib.join_cons,Lib.joinTail_take_succ _ _ _ _ h]
   simp[List.append_assoc]
theorem tail_le {e:ApiNode->List UInt8}:∀{l:List ApiNode},(∀y∈l,(e y).length+8<=db y)->(Lib.joinTail sepC (l.map e)).length<=cf l
 | [],_=>by simp[Lib.joinTail]
 |n::l,h=>by
  have h1:=tail_le (e:=e) (l:=l) (fun y hy=>h y (List.mem_cons_of_mem _ hy))
  have h2:=h n (List.mem_cons_self ..)
  simp only[Lib.joinTail,List.map_cons,List.flatten_cons,List.length_append,List.length_cons,List.length_nil,cf]at h1 ⊢
  omega
theorem join_le {e:ApiNode->List UInt8} {l:List ApiNode} (h:∀y∈l,(e y).length+8<=db y):(Lib.join (l.map e) sepC).length<=cf l:=by
 cases l with
 |nil=>simp[Lib.join_nil,cf]
 |cons n l=>
  have h1:=tail_le (e:=e) (l:=l) (fun y hy=>h y (List.mem_cons_of_mem _ hy))
  have h2:=h n (List.mem_cons_self ..)
  rw[List.map_cons,Lib.join_cons,List.length_append]
  simp only[cf]
  omega
theorem app16 {a b:List (List UInt8)} (h:a.length+b.length<=9000000):app 16 a b=some (a++b):=by
 unfold app
 rw[if_pos ⟨by omega,by omega⟩]
theorem list_eq {l:List ApiNode} {f:ApiNode->Option (List UInt8)} {e:ApiNode->List UInt8} (h:∀y∈l,f y=some (e y)/\(e y).length+8<=db y) (hl:l.length<=1048576) (hb:cf l<=2000000000):
  print_list l f=some ([40]++Lib.join (l.map e) sepC++[41]):=by
 unfold print_list
 have hit:iter (fun s:Int × List (List UInt8)=>ir l f s.1 s.2) (0,[])=some (l.map e):=by
  refine ec (f:=fun s:Int × List (List UInt8)=>ir l f s.1 s.2) (fun i=>((i:Int),(l.take i).map e)) l.length (fun i hi=> ?_) ?_
  ·simp only
   unfold ir
   rw[if_pos (by simp[hi]),dk hi]
   simp only[Option.bind_some]
   rw[(h _ (List.getElem_mem hi)).1]
   simp only[Option.bind_some]
   rw[app16 (by simp;omega)]
   simp only[Option.bind_some]
   rw[br (by omega),List.take_add_one,List.getElem?_eq_getElem hi,List.map_append]
   rfl
  ·simp only
   unfold ir
   rw[if_neg (by simp)]
   simp
 rw[hit]
 have hj:=join_le (e:=e) (l:=l) (fun y hy=>(h y hy).2)
 simp only[Option.bind_some,print_list_k1]
 have hjoin:strings_Join (l.map e) sepC=some (Lib.join (l.map e) sepC):=by
  unfold strings_Join
  rw[if_pos ⟨by simp;omega,by omega⟩]
 rw[hjoin]
 simp only[Option.bind_some]
 rw[catB (by simp only[List.length_cons,List.length_nil];omega),catB (by simp only[List.length_append,List.length_cons,List.length_nil];omega)]
def Ex (e:ApiNode->List UInt8) (Q:cl) (Q':c6) (x:ApiNode):Prop:=∀y∈x.Kids,Q.2.1 y=some (e y)/\Q'.2.1 y=some (e y)
def Bd (e:ApiNode->List UInt8) (x:ApiNode):Prop:=∀y∈x.Kids,(e y).length+8<=db y
section
variable {x:ApiNode} {e:ApiNode->List UInt8}
theorem kid_eq (hB:Bd e x) (hb:db x<=2000000000) (i:Nat) (least:Int):
  ∃u,(∀Q Q',Ex e Q Q' x->ni Q x i least=some u/\F_ref13_kid Q' x i least=some u)/\u.length<=kb x.Kids i/\(8<least->∀hi:i<x.Kids.length,u=[40]++e x.Kids[i]++[41]):=by
 by_cases hi:i<x.Kids.length
 ·have hc:¬decide ((i:Int)≥(x.Kids.length:Int))=true:=by simp;omega
  have h3:=hB _ (List.getElem_mem hi)
  obtain⟨b,hb8,b1,b2⟩:=binding_eq x.Kids[i]
  have hn:=fe (List.getElem_mem hi)
  have hx:=f0 x
  have hk:kb x.Kids i=db x.Kids[i]:=by unfold kb;rw[dif_pos hi]
  by_cases hl:b<least
  ·refine⟨[40]++e x.Kids[i]++[41],fun Q Q' h=> ?_,by simp only[List.length_append,List.length_cons,List.length_nil];omega,fun _ _=>rfl⟩
   obtain⟨h1,h2⟩:=h _ (List.getElem_mem hi)
   unfold ni F_ref13_kid
   rw[if_neg hc,if_neg hc,dk hi]
   simp only[Option.bind_some,h1,h2,b1,b2]
   rw[if_pos (by simp[hl]),catB (by simp only[List.length_cons,List.length_nil];omega),catB (by simp only[List.length_append,List.length_cons,List.length_nil];omega)]
   exact⟨rfl,rfl⟩
  ·refine⟨e x.Kids[i],fun Q Q' h=> ?_,by omega,fun hl'=>by omega⟩
   obtain⟨h1,h2⟩:=h _ (List.getElem_mem hi)
   unfold ni F_ref13_kid
   rw[if_neg hc,if_neg hc,dk hi]
   simp only[Option.bind_some,h1,h2,b1,b2]
   rw[if_neg (by simp;omega)]
   exact⟨rfl,rfl⟩
 ·have hc:decide ((i:Int)≥(x.Kids.length:Int))=true:=by simp;omega
  refine⟨[],fun Q Q' h=> ?_,by simp,fun _ hi'=>absurd hi' hi⟩
  unfold ni F_ref13_kid
  rw[if_pos hc,if_pos hc]
  exact⟨rfl,rfl⟩
theorem args_eq (hB:Bd e x) (hb:db x<=2000000000) (hl:x.Kids.length<=1048576) (i:Nat) (hi:i<=1):
  ∃u,(∀Q Q',Ex e Q Q' x->jk Q x i=some u/\F_ref13_arguments Q' x i=some u)/\u.length<=2+cf (x.Kids.drop i):=by
 have hx:=f0 x
 have hd:=nbytesL_drop x.Kids i
 have hmem:∀y∈x.Kids.drop i,y∈x.Kids:=fun y hy=>List.mem_of_mem_drop hy
 have hj:=join_le (e:=e) (l:=x.Kids.drop i) (fun y hy=>hB y (hmem y hy))
 refine⟨[40]++Lib.join ((x.Kids.drop i).map e) sepC++[41],fun Q Q' h=>⟨?_,?_⟩,by simp only[List.length_append,List.length_cons,List.length_nil];omega⟩
 ·unfold jk
  have hs:subL x.Kids (if(x.Kids.length:Int)<(i:Int)then(x.Kids.length:Int)else(i:Int)) (x.Kids.length:Int)=some (x.Kids.drop i):=by
   unfold subL
   by_cases hc:(x.Kids.length:Int)<(i:Int)
   ·rw[if_pos hc,if_pos ⟨by omega,by omega,by omega⟩]
    simp
    omega
   ·rw[if_neg hc,if_pos ⟨by omega,by omega,by omega⟩]
    simp
  rw[hs]
  simp only[Option.bind_some]
  rw[list_eq (e:=e) (fun y hy=>⟨(h y (hmem y hy)).1,hB y (hmem y hy)⟩) (by simp;omega) (by omega)]
  rfl
 ·unfold F_ref13_arguments
  have hit:iter (fun s:List UInt8 × Int=>iw Q' x (i:Int) s.1 s.2) ([40],(i:Int))=some ([40]++Lib.join ((x.Kids.drop i).map e) sepC):=by
   have:=ec (f:=fun s:List UInt8 × Int=>iw Q' x (i:Int) s.1 s.2) (fun j=>([40]++Lib.join (((x.Kids.drop i).map e).take j) sepC,((i+j:Nat):Int))) (x.Kids.drop i).length (o:=[40]++Lib.join ((x.Kids.drop i).map e) sepC) (fun j hj=> ?_) ?_
   ·simpa [Lib.join_nil] using this
   ·have hj2:i+j<x.Kids.length:=by simp at hj;omega
    have hy:=h _ (List.getElem_mem hj2)
    have hy8:=hB _ (List.getElem_mem hj2)
    have hjj:=join_le (e:=e) (l:=(x.Kids.drop i).take j) (fun y hy=>hB y (hmem y (List.mem_of_mem_take hy)))
    have ht:=ny (x.Kids.drop i) j
    rw[List.map_take]at hjj
    have hm:=fe (List.getElem_mem hj2)
    have he:((x.Kids.drop i).map e)[j]? =some (e x.Kids[i+j]):=by
     rw[List.getElem?_map,List.getElem?_drop,List.getElem?_eq_getElem hj2]
     rfl
    simp only
    unfold iw ref13_arguments_j3
    rw[if_pos (by simp;omega),dk hj2]
    simp only[Option.bind_some,hy.2]
    by_cases h0:j=0
    ·subst h0
     rw[if_neg (by simp),catB (by simp only[List.length_append,List.length_cons,List.length_nil];omega),br (by omega),join_take he]
     simp[Lib.join_nil]
    ·rw[if_pos (by simp;omega),catB (by simp only[List.length_append,List.length_cons,List.length_nil];omega),catB (by simp only[List.length_append,List.length_cons,List.length_nil];omega),br (by omega),join_take he,if_neg h0]
     simp[List.append_assoc,Nat.add_assoc]
   ·simp only
    unfold iw
    have hl2:¬((i+(x.Kids.drop i).length:Nat):Int)<(x.Kids.length:Int):=by simp;omega
    rw[if_neg (by simpa using hl2),List.take_of_length_le (by simp)]
  rw[hit]
  simp only[Option.bind_some,ref13_arguments_k1]
  rw[catB (by simp only[List.length_append,List.length_cons,List.length_nil];omega)]
end
end Go.Proofs.YtgkcoicaopilhaaGreatDoor
set_option linter.unusedSectionVars false
set_option linter.unusedVariables false
set_option linter.unusedSimpArgs false
set_option maxHeartbeats 4000000
namespace Go.Proofs.YtgkcoicaopilhaaGreatDoor
open Go Go.Cn
section
variable {x:ApiNode} {e:ApiNode->List UInt8}
theorem negative_eq (y:ApiNode):kw y=some (decide (y.Kind=23\/(y.Kind=13/\y.N<0))):=by
 unfold kw gx
 by_cases h:y.Kind=23
 ·simp[h]
 ·by_cases h2:y.Kind=13
  ·simp[h2]
  ·simp[h,h2]
theorem neg_eq (hB:Bd e x) (hb:db x<=2000000000) (hk:x.Kind=23):
  ∃t,(∀Q Q',Ex e Q Q' x->(∀y∈x.Kids,(bl Q').2.1 y=some (e y))->bm (ce Q) x=some t/\ca (bl Q') x=some t)/\t.length+8<=db x:=by
 have hx:=f0 x
 have h3:=kb_le x.Kids 0
 obtain⟨u,a,a3,_⟩:=kid_eq hB hb 0 7
 obtain⟨v,b,b3,b4⟩:=kid_eq hB hb 0 9
 have c1:∀Q,bm (ce Q) x=(if(decide ((x.Kids.length:Int)>0))=true then(idx x.Kids 0).bind fun x31=>(kw x31).bind fun x32=>dv (ce Q) x x32 else dv (ce Q) x false):=fun Q=>by
  unfold bm
  simp only[hk,Int.reduceBEq,Bool.false_eq_true,↓reduceIte]
 have c2:∀Q',ca (bl Q') x=(if(decide ((x.Kids.length:Int)>0))=true then(idx x.Kids 0).bind fun x31=>(if(x31.Kind==23)=true then cz (bl Q') x true else(idx x.Kids 0).bind fun x33=>(if(x33.Kind==13)=true then(idx x.Kids 0).bind fun x35=>cz (bl Q') x (decide (x35.N<0))else cz (bl Q') x false))else cz (bl Q') x false):=fun Q'=>by
  unfold ca
  simp only[hk,Int.reduceBEq,Bool.false_eq_true,↓reduceIte]
 have plain1:∀Q Q',Ex e Q Q' x->dv (ce Q) x false=some ([45]++u):=fun Q Q' h=>by
  unfold dv ft
  rw[if_neg (by simp),show(ce Q).1 x 0 7=some u from(a Q Q' h).1]
  simp only[Option.bind_some]
  rw[catB (by simp only[List.length_cons,List.length_nil];omega)]
 have plain2:∀Q Q',Ex e Q Q' x->cz (bl Q') x false=some ([45]++u):=fun Q Q' h=>by
  unfold cz
  rw[if_neg (by simp),show(bl Q').1 x 0 7=some u from(a Q Q' h).2]
  simp only[Option.bind_some]
  rw[catB (by simp only[List.length_cons,List.length_nil];omega)]
 by_cases hl:0<x.Kids.length
 ·have hi:idx x.Kids 0=some x.Kids[0]:=dk hl
  have hc:decide ((x.Kids.length:Int)>0)=true:=by simp;omega
  by_cases hn:x.Kids[0].Kind=23\/(x.Kids[0].Kind=13/\x.Kids[0].N<0)
  ·have hm:=fe (List.getElem_mem hl)
   have h8:=hB _ (List.getElem_mem hl)
   have hv:=b4 (by decide) hl
   refine⟨[45]++v,fun Q Q' h hR'=>⟨?_,?_⟩,by simp only[List.length_append,List.length_cons,List.length_nil];omega⟩
   ·rw[c1,if_pos hc,hi]
    simp only[Option.bind_some]
    rw[negative_eq]
    simp only[Option.bind_some]
    rw[decide_eq_true hn]
    unfold dv ft
    rw[if_pos rfl,show(ce Q).1 x 0 9=some v from(b Q Q' h).1]
    simp only[Option.bind_some]
    rw[catB (by simp only[List.length_cons,List.length_nil];omega)]
   ·have hbr:cz (bl Q') x true=some ([45]++v):=by
     unfold cz
     rw[if_pos rfl,hi]
     simp only[Option.bind_some]
     rw[hR' _ (List.getElem_mem hl)]
     simp only[Option.bind_some]
     rw[catB (by simp only[List.length_cons,List.length_nil];omega),catB (by simp only[List.length_append,List.length_cons,List.length_nil];omega),hv]
     simp
    rw[c2,if_pos hc,hi]
    simp only[Option.bind_some]
    rcases hn with hn|⟨hn,hn2⟩
    ·rw[if_pos (by simp[hn])];exact hbr
    ·rw[if_neg (by simp[hn]),if_pos (by simp[hn]),decide_eq_true hn2];exact hbr
  ·rw[not_or,not_and]at hn
   refine⟨[45]++u,fun Q Q' h hR'=>⟨?_,?_⟩,by simp only[List.length_append,List.length_cons,List.length_nil];omega⟩
   ·rw[c1,if_pos hc,hi]
    simp only[Option.bind_some]
    rw[negative_eq]
    simp only[Option.bind_some]
    rw[decide_eq_false (fun h=>h.elim hn.1 fun h=>hn.2 h.1 h.2)]
    exact plain1 Q Q' h
   ·rw[c2,if_pos hc,hi]
    simp only[Option.bind_some]
    rw[if_neg (by simpa using hn.1)]
    by_cases h13:x.Kids[0].Kind=13
    ·rw[if_pos (by simp[h13]),decide_eq_false (hn.2 h13)]
     exact plain2 Q Q' h
    ·rw[if_neg (by simpa using h13)]
     exact plain2 Q Q' h
 ·have hc:¬decide ((x.Kids.length:Int)>0)=true:=by rw[decide_eq_true_eq];omega
  refine⟨[45]++u,fun Q Q' h hR'=>⟨?_,?_⟩,by simp only[List.length_append,List.length_cons,List.length_nil];omega⟩
  ·rw[c1,if_neg hc];exact plain1 Q Q' h
  ·rw[c2,if_neg hc];exact plain2 Q Q' h
theorem expr_step (hB:Bd e x) (hb:db x<=2000000000) (hl:x.Kids.length<=1048576) (hr: -9223372036854775808<=x.N/\x.N<=9223372036854775807):
    ∃t,(∀Q Q',Ex e Q Q' x->(∀y∈x.Kids,(bl Q').2.1 y=some (e y))->bm (ce Q) x=some t/\ca (bl Q') x=some t)/\t.length+8<=db x:=by
  have hx:=f0 x
  have h3:=kb3 x.Kids
  have h01:=kb01 x.Kids
  by_cases hk:x.Kind=13
  · refine⟨Lib.itoa x.N,fun Q Q1 h hR=>⟨?_,?_⟩,by have:=itoa_len hr.1 hr.2;omega⟩
    · unfold bm
      simp only[hk,Int.reduceBEq,Bool.false_eq_true,↓reduceIte]
      rw[format_eq hr.1 hr.2]
      rfl
    · unfold ca
      simp only[hk,Int.reduceBEq,Bool.false_eq_true,↓reduceIte]
      rw[digits_eq hr.1 hr.2]
      rfl
  by_cases hk:x.Kind=14
  · by_cases hn:x.N=1
    · refine⟨[116,114,117,101],fun Q Q1 h hR=>⟨?_,?_⟩,by simp only[List.length_append,List.length_cons,List.length_nil];omega⟩
      · unfold bm
        simp only[hk,Int.reduceBEq,Bool.false_eq_true,↓reduceIte]
        simp[hn,iv,eb]
      · unfold ca
        simp only[hk,Int.reduceBEq,Bool.false_eq_true,↓reduceIte]
        simp[hn]
    · refine⟨[102,97,108,115,101],fun Q Q1 h hR=>⟨?_,?_⟩,by simp only[List.length_append,List.length_cons,List.length_nil];omega⟩
      · unfold bm
        simp only[hk,Int.reduceBEq,Bool.false_eq_true,↓reduceIte]
        simp[hn,iv,eb]
      · unfold ca
        simp only[hk,Int.reduceBEq,Bool.false_eq_true,↓reduceIte]
        simp[hn]
  by_cases hk:x.Kind=15
  · refine⟨[110,117,108,108],fun Q Q1 h hR=>⟨?_,?_⟩,by simp only[List.length_cons,List.length_nil];omega⟩
    · unfold bm
      simp only[hk,Int.reduceBEq,Bool.false_eq_true,↓reduceIte]
    · unfold ca
      simp only[hk,Int.reduceBEq,Bool.false_eq_true,↓reduceIte]
  by_cases hk:x.Kind=16
  · refine⟨[116,104,105,115],fun Q Q1 h hR=>⟨?_,?_⟩,by simp only[List.length_cons,List.length_nil];omega⟩
    · unfold bm
      simp only[hk,Int.reduceBEq,Bool.false_eq_true,↓reduceIte]
    · unfold ca
      simp only[hk,Int.reduceBEq,Bool.false_eq_true,↓reduceIte]
  by_cases hk:x.Kind=17
  · refine⟨x.Text,fun Q Q1 h hR=>⟨?_,?_⟩,by omega⟩
    · unfold bm
      simp only[hk,Int.reduceBEq,Bool.false_eq_true,↓reduceIte]
    · unfold ca
      simp only[hk,Int.reduceBEq,Bool.false_eq_true,↓reduceIte]
  by_cases hk:x.Kind=21
  · refine⟨[110,101,119,32]++x.Text++[40,41],fun Q Q1 h hR=>⟨?_,?_⟩,by simp only[List.length_append,List.length_cons,List.length_nil];omega⟩
    · unfold bm
      simp only[hk,Int.reduceBEq,Bool.false_eq_true,↓reduceIte]
      rw[catB (by first|omega|(simp only[List.length_append,List.length_cons,List.length_nil];omega)),catB (by first|omega|(simp only[List.length_append,List.length_cons,List.length_nil];omega))]
    · unfold ca
      simp only[hk,Int.reduceBEq,Bool.false_eq_true,↓reduceIte]
      rw[catB (by first|omega|(simp only[List.length_append,List.length_cons,List.length_nil];omega)),catB (by first|omega|(simp only[List.length_append,List.length_cons,List.length_nil];omega))]
  by_cases hk:x.Kind=19
  · obtain⟨u,a,a3⟩:=args_eq hB hb hl 0 (by omega)
    rw[List.drop_zero]at a3
    refine⟨x.Text++u,fun Q Q1 h hR=>⟨?_,?_⟩,by simp only[List.length_append,List.length_cons,List.length_nil];omega⟩
    · unfold bm
      simp only[hk,Int.reduceBEq,Bool.false_eq_true,↓reduceIte]
      rw[show(ce Q).2.2 x 0=some u from(a Q Q1 h).1]
      simp only[Option.bind_some]
      rw[catB (by first|omega|(simp only[List.length_append,List.length_cons,List.length_nil];omega))]
      rfl
    · unfold ca
      simp only[hk,Int.reduceBEq,Bool.false_eq_true,↓reduceIte]
      rw[show(bl Q1).2.2 x 0=some u from(a Q Q1 h).2]
      simp only[Option.bind_some]
      rw[catB (by first|omega|(simp only[List.length_append,List.length_cons,List.length_nil];omega))]
      rfl
  by_cases hk:x.Kind=18
  · obtain⟨u,a,a3,_⟩:=kid_eq hB hb 0 8
    refine⟨u++[46]++x.Text,fun Q Q1 h hR=>⟨?_,?_⟩,by simp only[List.length_append,List.length_cons,List.length_nil];omega⟩
    · unfold bm
      simp only[hk,Int.reduceBEq,Bool.false_eq_true,↓reduceIte]
      rw[show(ce Q).1 x 0 8=some u from(a Q Q1 h).1]
      simp only[Option.bind_some]
      rw[catB (by first|omega|(simp only[List.length_append,List.length_cons,List.length_nil];omega)),catB (by first|omega|(simp only[List.length_append,List.length_cons,List.length_nil];omega))]
      rfl
    · unfold ca
      simp only[hk,Int.reduceBEq,Bool.false_eq_true,↓reduceIte]
      rw[show(bl Q1).1 x 0 8=some u from(a Q Q1 h).2]
      simp only[Option.bind_some]
      rw[catB (by first|omega|(simp only[List.length_append,List.length_cons,List.length_nil];omega)),catB (by first|omega|(simp only[List.length_append,List.length_cons,List.length_nil];omega))]
      rfl
  by_cases hk:x.Kind=20
  · obtain⟨u,a,a3,_⟩:=kid_eq hB hb 0 8
    obtain⟨v,b,b3⟩:=args_eq hB hb hl 1 (by omega)
    refine⟨u++[46]++x.Text++v,fun Q Q1 h hR=>⟨?_,?_⟩,by simp only[List.length_append,List.length_cons,List.length_nil];omega⟩
    · unfold bm
      simp only[hk,Int.reduceBEq,Bool.false_eq_true,↓reduceIte]
      rw[show(ce Q).1 x 0 8=some u from(a Q Q1 h).1]
      simp only[Option.bind_some]
      rw[catB (by first|omega|(simp only[List.length_append,List.length_cons,List.length_nil];omega)),catB (by first|omega|(simp only[List.length_append,List.length_cons,List.length_nil];omega))]
      rw[show(ce Q).2.2 x 1=some v from(b Q Q1 h).1]
      simp only[Option.bind_some]
      rw[catB (by first|omega|(simp only[List.length_append,List.length_cons,List.length_nil];omega))]
      rfl
    · unfold ca
      simp only[hk,Int.reduceBEq,Bool.false_eq_true,↓reduceIte]
      rw[show(bl Q1).1 x 0 8=some u from(a Q Q1 h).2]
      simp only[Option.bind_some]
      rw[catB (by first|omega|(simp only[List.length_append,List.length_cons,List.length_nil];omega)),catB (by first|omega|(simp only[List.length_append,List.length_cons,List.length_nil];omega))]
      rw[show(bl Q1).2.2 x 1=some v from(b Q Q1 h).2]
      simp only[Option.bind_some]
      rw[catB (by first|omega|(simp only[List.length_append,List.length_cons,List.length_nil];omega))]
      rfl
  by_cases hk:x.Kind=22
  · obtain⟨u,a,a3,_⟩:=kid_eq hB hb 0 7
    refine⟨[33]++u,fun Q Q1 h hR=>⟨?_,?_⟩,by simp only[List.length_append,List.length_cons,List.length_nil];omega⟩
    · unfold bm
      simp only[hk,Int.reduceBEq,Bool.false_eq_true,↓reduceIte]
      rw[show(ce Q).1 x 0 7=some u from(a Q Q1 h).1]
      simp only[Option.bind_some]
      rw[catB (by first|omega|(simp only[List.length_append,List.length_cons,List.length_nil];omega))]
    · unfold ca
      simp only[hk,Int.reduceBEq,Bool.false_eq_true,↓reduceIte]
      rw[show(bl Q1).1 x 0 7=some u from(a Q Q1 h).2]
      simp only[Option.bind_some]
      rw[catB (by first|omega|(simp only[List.length_append,List.length_cons,List.length_nil];omega))]
  by_cases hk:x.Kind=23
  · exact neg_eq hB hb hk
  by_cases hk:x.Kind=24
  · obtain⟨b,b0,b6,b1,b2⟩:=Binds_eq x.Text
    obtain⟨u,a,a3,_⟩:=kid_eq hB hb 0 b
    obtain⟨v,c,c3,_⟩:=kid_eq hB hb 1 (b+1)
    have hw:w64 (b+1)=b+1:=dj (by omega) (by omega)
    refine⟨u++[32]++x.Text++[32]++v,fun Q Q1 h hR=>⟨?_,?_⟩,by simp only[List.length_append,List.length_cons,List.length_nil];omega⟩
    · unfold bm
      simp only[hk,Int.reduceBEq,Bool.false_eq_true,↓reduceIte]
      rw[b1]
      simp only[Option.bind_some]
      rw[show(ce Q).1 x 0 b=some u from(a Q Q1 h).1]
      simp only[Option.bind_some]
      rw[catB (by first|omega|(simp only[List.length_append,List.length_cons,List.length_nil];omega)),catB (by first|omega|(simp only[List.length_append,List.length_cons,List.length_nil];omega)),catB (by first|omega|(simp only[List.length_append,List.length_cons,List.length_nil];omega))]
      rw[hw]
      rw[show(ce Q).1 x 1 (b+1)=some v from(c Q Q1 h).1]
      simp only[Option.bind_some]
      rw[catB (by first|omega|(simp only[List.length_append,List.length_cons,List.length_nil];omega))]
      rfl
    · unfold ca
      simp only[hk,Int.reduceBEq,Bool.false_eq_true,↓reduceIte]
      rw[b2]
      simp only[Option.bind_some]
      rw[show(bl Q1).1 x 0 b=some u from(a Q Q1 h).2]
      simp only[Option.bind_some]
      rw[catB (by first|omega|(simp only[List.length_append,List.length_cons,List.length_nil];omega)),catB (by first|omega|(simp only[List.length_append,List.length_cons,List.length_nil];omega)),catB (by first|omega|(simp only[List.length_append,List.length_cons,List.length_nil];omega))]
      rw[hw]
      rw[show(bl Q1).1 x 1 (b+1)=some v from(c Q Q1 h).2]
      simp only[Option.bind_some]
      rw[catB (by first|omega|(simp only[List.length_append,List.length_cons,List.length_nil];omega))]
      rfl
  refine⟨[],fun Q Q1 h hR=>⟨?_,?_⟩,by simp only[List.length_nil];omega⟩
  · unfold bm
    simp[*]
  · unfold ca
    simp[*]
end
theorem expr_at :∀(k:Nat) (x:ApiNode),di x<=k->k<=1048576->okN x->db x<=2000000000->∃t,t.length+8<=db x/\∀n,2 * k<=n->(dq n).2.1 x=some t/\(fg n).2.1 x=some t:=by
 intro k
 induction k with
 |zero=>intro x h;have:=nsize_pos x;omega
 |succ k ih=>
  intro x hx hk hok hb
  have hsz:=fu x
  have hlen:=ey x.Kids
  have hnb:=f0 x
  rw[okN_eq]at hok
  have hkid:∀y,y∈x.Kids->∃t,t.length+8<=db y/\∀n,2 * k<=n->(dq n).2.1 y=some t/\(fg n).2.1 y=some t:=fun y hy=>by
   have h1:=i9 hy
   have h2:=fe hy
   exact ih y (by omega) (by omega) (okL_mem hok.2 hy) (by omega)
  classical
  let e:ApiNode->List UInt8:=fun y=>if h:y∈x.Kids then(hkid y h).choose else[]
  have he:∀y∈x.Kids,(e y).length+8<=db y/\∀n,2 * k<=n->(dq n).2.1 y=some (e y)/\(fg n).2.1 y=some (e y):=fun y hy=>by
   have:=(hkid y hy).choose_spec
   show(if h:y∈x.Kids then(hkid y h).choose else[]).length+8<=_/\_
   simp only[e,dif_pos hy]
   exact this
  obtain⟨t,t1,t2⟩:=expr_step (x:=x) (e:=e) (fun y hy=>(he y hy).1) hb (by omega) hok.1
  refine⟨t,t2,fun n hn=> ?_⟩
  obtain⟨m,rfl⟩:∃m,n=m+2:=⟨n - 2,by omega⟩
  exact t1 (dq m) (fg m) (fun y hy=>(he y hy).2 m (by omega)) (fun y hy=>((he y hy).2 (m+1) (by omega)).2)
end Go.Proofs.YtgkcoicaopilhaaGreatDoor
set_option linter.unusedSectionVars false
set_option linter.unusedVariables false
set_option linter.unusedSimpArgs false
set_option maxHeartbeats 4000000
namespace Go.Proofs.YtgkcoicaopilhaaGreatDoor
open Go Go.Cn
theorem kid0_eq {x:ApiNode} (hs:di x<=4000) (hok:okN x) (hb:db x<=3000000) (i:Nat):∃u,print_kid x i 0=some u/\ld x i 0=some u/\u.length<=kb x.Kids i:=by
 have hsz:=fu x
 have hnb:=f0 x
 rw[okN_eq]at hok
 have hkid:∀y,y∈x.Kids->∃t,t.length+8<=db y/\∀n,2 * 4000<=n->(dq n).2.1 y=some t/\(fg n).2.1 y=some t:=fun y hy=>by
  have h1:=i9 hy
  have h2:=fe hy
  exact expr_at 4000 y (by omega) (by omega) (okL_mem hok.2 hy) (by omega)
 classical
 let e:ApiNode->List UInt8:=fun y=>if h:y∈x.Kids then(hkid y h).choose else[]
 have he:∀y∈x.Kids,(e y).length+8<=db y/\∀n,2 * 4000<=n->(dq n).2.1 y=some (e y)/\(fg n).2.1 y=some (e y):=fun y hy=>by
  have:=(hkid y hy).choose_spec
  simp only[e,dif_pos hy]
  exact this
 obtain⟨u,h1,h2,_⟩:=kid_eq (x:=x) (e:=e) (fun y hy=>(he y hy).1) (by omega) i 0
 obtain⟨g1,g2⟩:=h1 (dq 1048575) (fg 1048575) (fun y hy=>(he y hy).2 _ (by omega))
 exact⟨u,g1,g2,h2⟩
def Part (x y:ApiNode):Prop:=y∈x.Kids\/∃z∈x.Kids,y∈z.Kids
theorem Part.size {x y:ApiNode} (h:Part x y):di y+1<=di x:=by
 have hx:=fu x
 rcases h with h|⟨z,h1,h2⟩
 ·have:=i9 h;omega
 ·have a1:=i9 h1
  have a2:=i9 h2
  have a3:=fu z
  omega
theorem Part.bytes {x y:ApiNode} (h:Part x y):db y<=db x:=by
 have hx:=f0 x
 rcases h with h|⟨z,h1,h2⟩
 ·have:=fe h;omega
 ·have a1:=fe h1
  have a2:=fe h2
  have a3:=f0 z
  omega
theorem Part.ok {x y:ApiNode} (h:Part x y) (ho:okN x):okN y:=by
 rw[okN_eq]at ho
 rcases h with h|⟨z,h1,h2⟩
 ·exact okL_mem ho.2 h
 ·have:=okL_mem ho.2 h1
  rw[okN_eq]at this
  exact okL_mem this.2 h2
def StQ (S:ApiNode->List UInt8->List UInt8) (Q:bt) (Q':bz) (x:ApiNode):Prop:=∀y a,Part x y->a.length+2 * di y<=4000->Q.2.2.1 y a=some (S y a)/\Q'.2.2.1 y a=some (S y a)
def StB (S:ApiNode->List UInt8->List UInt8) (x:ApiNode):Prop:=∀y a,Part x y->a.length+2 * di y<=4000->(S y a).length<=1100 * db y
theorem flat_le {s:ApiNode->List UInt8}:∀{l:List ApiNode},(∀y∈l,(s y).length<=1100 * db y)->((l.map s).flatten).length<=1100 * cf l
 | [],_=>by simp
 |n::l,h=>by
  have h1:=flat_le (s:=s) (l:=l) (fun y hy=>h y (List.mem_cons_of_mem _ hy))
  have h2:=h n (List.mem_cons_self ..)
  simp only[List.map_cons,List.flatten_cons,List.length_append,cf]
  omega
theorem block_eq {Q:bt} {Q':bz} {l:List ApiNode} {a:List UInt8} {s:ApiNode->List UInt8} (h:∀y∈l,Q.2.2.1 y (a++[32,32])=some (s y)/\Q'.2.2.1 y (a++[32,32])=some (s y)) (hB:∀y∈l,(s y).length<=1100 * db y)
  (ha:a.length<=4000) (hl:l.length<=4000) (hb:cf l<=3000000):ma Q l a=some ([123,10]++(l.map s).flatten++a++[125])/\F_ref13_blocked Q' l a=some ([123,10]++(l.map s).flatten++a++[125]):=by
 have hf:=flat_le hB
 have hstep:∀i,(hi:i<l.length)->(((l.take (i+1)).map s).flatten)=((l.take i).map s).flatten++s l[i]:=fun i hi=>by
  rw[List.take_add_one,List.getElem?_eq_getElem hi,List.map_append,List.flatten_append]
  simp only[Option.toList_some,List.map_cons,List.map_nil,List.flatten_cons,List.flatten_nil,List.append_nil]
 have hfi:∀i,(((l.take i).map s).flatten).length<=1100 * cf l:=fun i=>by
  have h1:=flat_le (s:=s) (l:=l.take i) (fun y hy=>hB y (List.mem_of_mem_take hy))
  have h2:=ny l i
  omega
 have hm:∀i,(hi:i<l.length)->db l[i]<=cf l:=fun i hi=>fe (List.getElem_mem hi)
 constructor
 ·unfold ma
  have hit:iter (fun s:List UInt8 × Int=>gr Q l a s.1 s.2) ([123,10],0)=some ([123,10]++(l.map s).flatten):=by
   have:=ec (f:=fun s:List UInt8 × Int=>gr Q l a s.1 s.2) (fun i=>([123,10]++((l.take i).map s).flatten,(i:Int))) l.length (o:=[123,10]++(l.map s).flatten) (fun i hi=> ?_) ?_
   ·simpa using this
   ·have h1:=hfi i
    have h2:=hm i hi
    have h3:=hB _ (List.getElem_mem hi)
    simp only
    unfold gr
    rw[if_pos (by simp[hi]),dk hi]
    simp only[Option.bind_some]
    rw[catB (by simp only[List.length_cons,List.length_nil];omega),(h _ (List.getElem_mem hi)).1]
    simp only[Option.bind_some]
    rw[catB (by simp only[List.length_append,List.length_cons,List.length_nil];omega),br (by omega),hstep i hi,List.append_assoc]
   ·simp only
    unfold gr
    rw[if_neg (by simp),List.take_length]
  rw[hit]
  simp only[Option.bind_some,print_block_k1]
  rw[catB (by simp only[List.length_append,List.length_cons,List.length_nil];omega),catB (by simp only[List.length_append,List.length_cons,List.length_nil];omega)]
 ·unfold F_ref13_blocked
  have hit:iter (fun s:List UInt8 × Int=>j8 Q' l a s.1 s.2) ([123,10],0)=some ([123,10]++(l.map s).flatten):=by
   have:=ec (f:=fun s:List UInt8 × Int=>j8 Q' l a s.1 s.2) (fun i=>([123,10]++((l.take i).map s).flatten,(i:Int))) l.length (o:=[123,10]++(l.map s).flatten) (fun i hi=> ?_) ?_
   ·simpa using this
   ·have h1:=hfi i
    have h2:=hm i hi
    have h3:=hB _ (List.getElem_mem hi)
    simp only
    unfold j8
    rw[if_pos (by simp[hi]),dk hi]
    simp only[Option.bind_some]
    rw[catB (by simp only[List.length_cons,List.length_nil];omega),(h _ (List.getElem_mem hi)).2]
    simp only[Option.bind_some]
    rw[catB (by simp only[List.length_append,List.length_cons,List.length_nil];omega),br (by omega),hstep i hi,List.append_assoc]
   ·simp only
    unfold j8
    rw[if_neg (by simp),List.take_length]
  rw[hit]
  simp only[Option.bind_some,ref13_blocked_k1]
  rw[catB (by simp only[List.length_append,List.length_cons,List.length_nil];omega),catB (by simp only[List.length_append,List.length_cons,List.length_nil];omega)]
section
variable {x:ApiNode} {S:ApiNode->List UInt8->List UInt8} {a:List UInt8}
theorem blockP {l:List ApiNode} (hS:StB S x) (hl:∀y∈l,Part x y) (hls:l.length<=di x) (hlb:cf l<=db x) (ha:a.length+2 * di x<=4000) (hb:db x<=3000000):
  ∃t,(∀Q Q',StQ S Q Q' x->ma Q l a=some t/\F_ref13_blocked Q' l a=some t)/\t.length<=3+a.length+1100 * cf l/\t≠[]:=by
 have hc:∀y,Part x y->(a++[32,32]).length+2 * di y<=4000:=fun y hy=>by
  have:=hy.size
  simp only[List.length_append,List.length_cons,List.length_nil]
  omega
 have hB:∀y∈l,(S y (a++[32,32])).length<=1100 * db y:=fun y hy=>hS y _ (hl y hy) (hc y (hl y hy))
 have hf:=flat_le (s:=fun y=>S y (a++[32,32])) hB
 refine⟨[123,10]++(l.map fun y=>S y (a++[32,32])).flatten++a++[125],fun Q Q' h=> ?_,by simp only[List.length_append,List.length_cons,List.length_nil];omega,by simp⟩
 exact block_eq (s:=fun y=>S y (a++[32,32])) (fun y hy=>h y _ (hl y hy) (hc y (hl y hy))) hB (by omega) (by omega) (by omega)
theorem belongs_eq (hS:StB S x) (ha:a.length+2 * di x<=4000) (hb:db x<=3000000) (i:Nat):
  ∃t,(∀Q Q',StQ S Q Q' x->ie (bg Q) x i a=some t/\ly (bd Q') x i a=some t)/\t.length<=3+a.length+1100 * kb x.Kids i/\t≠[]:=by
 have hx:=fu x
 have hlen:=ey x.Kids
 have hnb:=f0 x
 by_cases hi:i<x.Kids.length
 ·have hc:¬decide ((i:Int)≥(x.Kids.length:Int))=true:=by rw[decide_eq_true_eq];omega
  have hmem:=List.getElem_mem hi
  have hz:=i9 hmem
  have hzb:=fe hmem
  have hk:kb x.Kids i=db x.Kids[i]:=by unfold kb;rw[dif_pos hi]
  by_cases h5:x.Kids[i].Kind=5
  ·have z1:=fu x.Kids[i]
   have z2:=ey x.Kids[i].Kids
   have z3:=f0 x.Kids[i]
   obtain⟨t,t1,t2,t3⟩:=blockP (x:=x) (S:=S) (a:=a) (l:=x.Kids[i].Kids) hS (fun y hy=> .inr ⟨_,hmem,hy⟩) (by omega) (by omega) ha hb
   refine⟨t,fun Q Q' h=> ?_,by omega,t3⟩
   obtain⟨b1,b2⟩:=t1 Q Q' h
   unfold ie ly
   rw[if_neg hc,if_neg hc,dk hi]
   simp only[Option.bind_some]
   rw[if_pos (by simp[h5]),if_pos (by simp[h5]),show(bg Q).2.1 x.Kids[i].Kids a=some t from b1,show(bd Q').2.1 x.Kids[i].Kids a=some t from b2]
   exact⟨rfl,rfl⟩
  ·obtain⟨t,t1,t2,t3⟩:=blockP (x:=x) (S:=S) (a:=a) (l:=[x.Kids[i]]) hS (fun y hy=>by rw[List.mem_singleton]at hy;subst hy;exact .inl hmem) (by simp only[List.length_cons,List.length_nil];omega) (by simp only[cf];omega) ha hb
   refine⟨t,fun Q Q' h=> ?_,by simp only[cf]at t2;omega,t3⟩
   obtain⟨b1,b2⟩:=t1 Q Q' h
   have hs:subL x.Kids (i:Int) (w64 ((i:Int)+1))=some [x.Kids[i]]:=by
    rw[br (by omega)]
    unfold subL
    rw[if_pos ⟨by omega,by omega,by omega⟩]
    simp only[Int.toNat_natCast]
    rw[List.drop_take,List.drop_eq_getElem_cons hi,show i+1 - i=1 by omega]
    rfl
   unfold ie ly
   rw[if_neg hc,if_neg hc,dk hi]
   simp only[Option.bind_some]
   rw[if_neg (by simpa using h5),if_neg (by simpa using h5),hs]
   simp only[Option.bind_some]
   rw[show(bg Q).2.1 [x.Kids[i]] a=some t from b1,show(bd Q').2.1 [x.Kids[i]] a=some t from b2]
   exact⟨rfl,rfl⟩
 ·have hc:decide ((i:Int)≥(x.Kids.length:Int))=true:=by rw[decide_eq_true_eq];omega
  obtain⟨t,t1,t2,t3⟩:=blockP (x:=x) (S:=S) (a:=a) (l:=[]) hS (fun y hy=>by cases hy) (by simp) (by simp[cf]) ha hb
  refine⟨t,fun Q Q' h=> ?_,by simp only[cf]at t2;omega,t3⟩
  obtain⟨b1,b2⟩:=t1 Q Q' h
  unfold ie ly
  rw[if_pos hc,if_pos hc,show(bg Q).2.1 [] a=some t from b1,show(bd Q').2.1 [] a=some t from b2]
  exact⟨rfl,rfl⟩
theorem line_eq (hS:StB S x) (ha:a.length+2 * di x<=4000) (hb:db x<=3000000) (hok:okN x):
    ∃t b,(∀Q Q',StQ S Q Q' x->StQ S (bg Q) (bd Q') x->d8 (bg (bg Q)) x a=some t/\ez (bd (bd Q')) x a=some (t,b))/\t.length+4100<=1100 * db x/\(b=false↔t=[]):=by
  have hx:=f0 x
  have hsx:=fu x
  have hlen:=ey x.Kids
  have h3:=kb3 x.Kids
  obtain⟨u,u1,u2,u3⟩:=kid0_eq (x:=x) (by omega) hok hb 0
  have u1:print_kid x 0 0=some u:=u1
  have u2:ld x 0 0=some u:=u2
  by_cases hk:x.Kind=6
  · refine⟨x.Type_++[32]++x.Text++[32,61,32]++u++[59],true,fun Q Q' h h'=>⟨?_,?_⟩,by first|omega|(simp only[List.length_append,List.length_cons,List.length_nil];omega),by simp⟩
    · unfold d8
      rw[u1]
      simp only[hk,Int.reduceBEq,Bool.false_eq_true,↓reduceIte,Option.bind_some,cq,cp,co,cj]
      rw[catB (by first|omega|(simp only[List.length_append,List.length_cons,List.length_nil];omega)),catB (by first|omega|(simp only[List.length_append,List.length_cons,List.length_nil];omega)),catB (by first|omega|(simp only[List.length_append,List.length_cons,List.length_nil];omega)),catB (by first|omega|(simp only[List.length_append,List.length_cons,List.length_nil];omega)),catB (by first|omega|(simp only[List.length_append,List.length_cons,List.length_nil];omega))]
    · unfold ez
      simp only[hk,Int.reduceBEq,Bool.false_eq_true,↓reduceIte,Option.bind_some,cq,cp,co,cj]
      rw[catB (by first|omega|(simp only[List.length_append,List.length_cons,List.length_nil];omega)),catB (by first|omega|(simp only[List.length_append,List.length_cons,List.length_nil];omega)),catB (by first|omega|(simp only[List.length_append,List.length_cons,List.length_nil];omega))]
      rw[u2]
      simp only[Option.bind_some]
      rw[catB (by first|omega|(simp only[List.length_append,List.length_cons,List.length_nil];omega)),catB (by first|omega|(simp only[List.length_append,List.length_cons,List.length_nil];omega))]
  by_cases hk:x.Kind=7
  · obtain⟨v,v1,v2,v3⟩:=kid0_eq (x:=x) (by omega) hok hb 1
    have v1:print_kid x 1 0=some v:=v1
    have v2:ld x 1 0=some v:=v2
    refine⟨u++[32,61,32]++v++[59],true,fun Q Q' h h'=>⟨?_,?_⟩,by first|omega|(simp only[List.length_append,List.length_cons,List.length_nil];omega),by simp⟩
    · unfold d8
      rw[u1]
      simp only[hk,Int.reduceBEq,Bool.false_eq_true,↓reduceIte,Option.bind_some,cq,cp,co,cj]
      rw[catB (by first|omega|(simp only[List.length_append,List.length_cons,List.length_nil];omega))]
      rw[v1]
      simp only[Option.bind_some]
      rw[catB (by first|omega|(simp only[List.length_append,List.length_cons,List.length_nil];omega)),catB (by first|omega|(simp only[List.length_append,List.length_cons,List.length_nil];omega))]
    · unfold ez
      simp only[hk,Int.reduceBEq,Bool.false_eq_true,↓reduceIte,Option.bind_some,cq,cp,co,cj]
      rw[u2]
      simp only[Option.bind_some]
      rw[catB (by first|omega|(simp only[List.length_append,List.length_cons,List.length_nil];omega))]
      rw[v2]
      simp only[Option.bind_some]
      rw[catB (by first|omega|(simp only[List.length_append,List.length_cons,List.length_nil];omega)),catB (by first|omega|(simp only[List.length_append,List.length_cons,List.length_nil];omega))]
  by_cases hk:x.Kind=8
  · refine⟨u++[59],true,fun Q Q' h h'=>⟨?_,?_⟩,by first|omega|(simp only[List.length_append,List.length_cons,List.length_nil];omega),by simp⟩
    · unfold d8
      rw[u1]
      simp only[hk,Int.reduceBEq,Bool.false_eq_true,↓reduceIte,Option.bind_some,cq,cp,co,cj]
      rw[catB (by first|omega|(simp only[List.length_append,List.length_cons,List.length_nil];omega))]
    · unfold ez
      simp only[hk,Int.reduceBEq,Bool.false_eq_true,↓reduceIte,Option.bind_some,cq,cp,co,cj]
      rw[u2]
      simp only[Option.bind_some]
      rw[catB (by first|omega|(simp only[List.length_append,List.length_cons,List.length_nil];omega))]
  by_cases hk:x.Kind=11
  · by_cases hl:0<x.Kids.length
    · refine⟨[114,101,116,117,114,110,32]++u++[59],true,fun Q Q' h h'=>⟨?_,?_⟩,by first|omega|(simp only[List.length_append,List.length_cons,List.length_nil];omega),by simp⟩
      · unfold d8
        rw[u1]
        simp only[hk,Int.reduceBEq,Bool.false_eq_true,↓reduceIte,Option.bind_some,cq,cp,co,cj]
        rw[if_pos (by rw[decide_eq_true_eq];omega)]
        rw[catB (by first|omega|(simp only[List.length_append,List.length_cons,List.length_nil];omega)),catB (by first|omega|(simp only[List.length_append,List.length_cons,List.length_nil];omega))]
      · unfold ez
        simp only[hk,Int.reduceBEq,Bool.false_eq_true,↓reduceIte,Option.bind_some,cq,cp,co,cj]
        rw[if_neg (by rw[beq_iff_eq];omega),u2]
        simp only[Option.bind_some]
        rw[catB (by first|omega|(simp only[List.length_append,List.length_cons,List.length_nil];omega)),catB (by first|omega|(simp only[List.length_append,List.length_cons,List.length_nil];omega))]
    · refine⟨[114,101,116,117,114,110,59],true,fun Q Q' h h'=>⟨?_,?_⟩,by first|omega|(simp only[List.length_append,List.length_cons,List.length_nil];omega),by simp⟩
      · unfold d8
        rw[u1]
        simp only[hk,Int.reduceBEq,Bool.false_eq_true,↓reduceIte,Option.bind_some,cq,cp,co,cj]
        rw[if_neg (by rw[decide_eq_true_eq];omega)]
      · unfold ez
        simp only[hk,Int.reduceBEq,Bool.false_eq_true,↓reduceIte,Option.bind_some,cq,cp,co,cj]
        rw[if_pos (by rw[beq_iff_eq];omega)]
  by_cases hk:x.Kind=12
  · refine⟨[112,114,105,110,116,40]++u++[41,59],true,fun Q Q' h h'=>⟨?_,?_⟩,by first|omega|(simp only[List.length_append,List.length_cons,List.length_nil];omega),by simp⟩
    · unfold d8
      rw[u1]
      simp only[hk,Int.reduceBEq,Bool.false_eq_true,↓reduceIte,Option.bind_some,cq,cp,co,cj]
      rw[catB (by first|omega|(simp only[List.length_append,List.length_cons,List.length_nil];omega)),catB (by first|omega|(simp only[List.length_append,List.length_cons,List.length_nil];omega))]
    · unfold ez
      simp only[hk,Int.reduceBEq,Bool.false_eq_true,↓reduceIte,Option.bind_some,cq,cp,co,cj]
      rw[u2]
      simp only[Option.bind_some]
      rw[catB (by first|omega|(simp only[List.length_append,List.length_cons,List.length_nil];omega)),catB (by first|omega|(simp only[List.length_append,List.length_cons,List.length_nil];omega))]
  by_cases hk:x.Kind=10
  · obtain⟨v,v1,v2,v3⟩:=belongs_eq (x:=x) (S:=S) (a:=a) hS ha hb 1
    refine⟨[119,104,105,108,101,32,40]++u++[41,32]++v,true,fun Q Q' h h'=>⟨?_,?_⟩,by first|omega|(simp only[List.length_append,List.length_cons,List.length_nil];omega),by simp⟩
    · unfold d8
      rw[u1]
      simp only[hk,Int.reduceBEq,Bool.false_eq_true,↓reduceIte,Option.bind_some,cq,cp,co,cj]
      rw[catB (by first|omega|(simp only[List.length_append,List.length_cons,List.length_nil];omega)),catB (by first|omega|(simp only[List.length_append,List.length_cons,List.length_nil];omega))]
      rw[show(bg (bg Q)).1 x 1 a=some v from(v1 Q Q' h).1]
      simp only[Option.bind_some]
      rw[catB (by first|omega|(simp only[List.length_append,List.length_cons,List.length_nil];omega))]
    · unfold ez
      simp only[hk,Int.reduceBEq,Bool.false_eq_true,↓reduceIte,Option.bind_some,cq,cp,co,cj]
      rw[u2]
      simp only[Option.bind_some]
      rw[catB (by first|omega|(simp only[List.length_append,List.length_cons,List.length_nil];omega)),catB (by first|omega|(simp only[List.length_append,List.length_cons,List.length_nil];omega))]
      rw[show(bd (bd Q')).1 x 1 a=some v from(v1 Q Q' h).2]
      simp only[Option.bind_some]
      rw[catB (by first|omega|(simp only[List.length_append,List.length_cons,List.length_nil];omega))]
  by_cases hk:x.Kind=9
  · obtain⟨v,v1,v2,v3⟩:=belongs_eq (x:=x) (S:=S) (a:=a) hS ha hb 1
    obtain⟨w,w1,w2,w3⟩:=belongs_eq (x:=x) (S:=S) (a:=a) hS ha hb 2
    by_cases hl:2<x.Kids.length
    · refine⟨[105,102,32,40]++u++[41,32]++v++[32,101,108,115,101,32]++w,true,fun Q Q' h h'=>⟨?_,?_⟩,by first|omega|(simp only[List.length_append,List.length_cons,List.length_nil];omega),by simp⟩
      · unfold d8
        rw[u1]
        simp only[hk,Int.reduceBEq,Bool.false_eq_true,↓reduceIte,Option.bind_some,cq,cp,co,cj]
        rw[catB (by first|omega|(simp only[List.length_append,List.length_cons,List.length_nil];omega)),catB (by first|omega|(simp only[List.length_append,List.length_cons,List.length_nil];omega))]
        rw[show(bg (bg Q)).1 x 1 a=some v from(v1 Q Q' h).1]
        simp only[Option.bind_some]
        rw[catB (by first|omega|(simp only[List.length_append,List.length_cons,List.length_nil];omega))]
        rw[if_pos (by rw[decide_eq_true_eq];omega)]
        rw[show(bg (bg Q)).1 x 2 a=some w from(w1 Q Q' h).1]
        simp only[Option.bind_some]
        rw[catB (by first|omega|(simp only[List.length_append,List.length_cons,List.length_nil];omega)),catB (by first|omega|(simp only[List.length_append,List.length_cons,List.length_nil];omega))]
        unfold print_line_j1
        rw[← List.append_assoc]
      · unfold ez
        simp only[hk,Int.reduceBEq,Bool.false_eq_true,↓reduceIte,Option.bind_some,cq,cp,co,cj]
        rw[u2]
        simp only[Option.bind_some]
        rw[catB (by first|omega|(simp only[List.length_append,List.length_cons,List.length_nil];omega)),catB (by first|omega|(simp only[List.length_append,List.length_cons,List.length_nil];omega))]
        rw[show(bd (bd Q')).1 x 1 a=some v from(v1 Q Q' h).2]
        simp only[Option.bind_some]
        rw[catB (by first|omega|(simp only[List.length_append,List.length_cons,List.length_nil];omega))]
        unfold ref13_line_j5
        rw[if_pos (by rw[decide_eq_true_eq];omega)]
        rw[catB (by first|omega|(simp only[List.length_append,List.length_cons,List.length_nil];omega))]
        rw[show(bd (bd Q')).1 x 2 a=some w from(w1 Q Q' h).2]
        simp only[Option.bind_some]
        rw[catB (by first|omega|(simp only[List.length_append,List.length_cons,List.length_nil];omega))]
        rfl
    · refine⟨[105,102,32,40]++u++[41,32]++v,true,fun Q Q' h h'=>⟨?_,?_⟩,by first|omega|(simp only[List.length_append,List.length_cons,List.length_nil];omega),by simp⟩
      · unfold d8
        rw[u1]
        simp only[hk,Int.reduceBEq,Bool.false_eq_true,↓reduceIte,Option.bind_some,cq,cp,co,cj]
        rw[catB (by first|omega|(simp only[List.length_append,List.length_cons,List.length_nil];omega)),catB (by first|omega|(simp only[List.length_append,List.length_cons,List.length_nil];omega))]
        rw[show(bg (bg Q)).1 x 1 a=some v from(v1 Q Q' h).1]
        simp only[Option.bind_some]
        rw[catB (by first|omega|(simp only[List.length_append,List.length_cons,List.length_nil];omega))]
        rw[if_neg (by rw[decide_eq_true_eq];omega)]
        rfl
      · unfold ez
        simp only[hk,Int.reduceBEq,Bool.false_eq_true,↓reduceIte,Option.bind_some,cq,cp,co,cj]
        rw[u2]
        simp only[Option.bind_some]
        rw[catB (by first|omega|(simp only[List.length_append,List.length_cons,List.length_nil];omega)),catB (by first|omega|(simp only[List.length_append,List.length_cons,List.length_nil];omega))]
        rw[show(bd (bd Q')).1 x 1 a=some v from(v1 Q Q' h).2]
        simp only[Option.bind_some]
        rw[catB (by first|omega|(simp only[List.length_append,List.length_cons,List.length_nil];omega))]
        unfold ref13_line_j5
        rw[if_neg (by rw[decide_eq_true_eq];omega)]
        rfl
  by_cases hk:x.Kind=5
  · obtain⟨t,t1,t2,t3⟩:=blockP (x:=x) (S:=S) (a:=a) (l:=x.Kids) hS (fun y hy=> .inl hy) (by omega) (by omega) ha hb
    refine⟨t,true,fun Q Q' h h'=>⟨?_,?_⟩,by omega,by simp[t3]⟩
    · unfold d8
      rw[u1]
      simp only[hk,Int.reduceBEq,Bool.false_eq_true,↓reduceIte,Option.bind_some,cq,cp,co,cj]
      rw[show(bg (bg Q)).2.1 x.Kids a=some t from(t1 _ _ h').1]
      rfl
    · unfold ez
      simp only[hk,Int.reduceBEq,Bool.false_eq_true,↓reduceIte,Option.bind_some,cq,cp,co,cj]
      rw[show(bd (bd Q')).2.1 x.Kids a=some t from(t1 _ _ h').2]
      rfl
  refine⟨[],false,fun Q Q' h h'=>⟨?_,?_⟩,by simp only[List.length_nil];omega,by simp⟩
  · unfold d8
    rw[u1]
    simp[*]
  · unfold ez
    simp[*]
end
theorem stmt_at :∀(k:Nat) (x:ApiNode),di x<=k->k<=100000->okN x->db x<=3000000->∃s:List UInt8->List UInt8,∀a,a.length+2 * di x<=4000->(s a).length<=1100 * db x/\∀n,4 * k<=n->(bq n).2.2.1 x a=some (s a)/\(cn n).2.2.1 x a=some (s a):=by
 intro k
 induction k with
 |zero=>intro x h;have:=nsize_pos x;omega
 |succ k ih=>
  intro x hx hk hok hb
  have hkid:∀y,Part x y->∃s:List UInt8->List UInt8,∀a,a.length+2 * di y<=4000->(s a).length<=1100 * db y/\∀n,4 * k<=n->(bq n).2.2.1 y a=some (s a)/\(cn n).2.2.1 y a=some (s a):=fun y hy=>by
   have h1:=hy.size
   have h2:=hy.bytes
   exact ih y (by omega) (by omega) (hy.ok hok) (by omega)
  classical
  let S:ApiNode->List UInt8->List UInt8:=fun y=>if h:Part x y then(hkid y h).choose else fun _=>[]
  have he:∀y a,Part x y->a.length+2 * di y<=4000->(S y a).length<=1100 * db y/\∀n,4 * k<=n->(bq n).2.2.1 y a=some (S y a)/\(cn n).2.2.1 y a=some (S y a):=fun y a hy ha=>by
   have:=(hkid y hy).choose_spec a ha
   simp only[S,dif_pos hy]
   exact this
  have hSB:StB S x:=fun y a hy ha=>(he y a hy ha).1
  have hSQ:∀n,4 * k<=n->StQ S (bq n) (cn n) x:=fun n hn y a hy ha=>(he y a hy ha).2 n hn
  have key:∀a,a.length+2 * di x<=4000->∃r:List UInt8,r.length<=1100 * db x/\∀n,4 * (k+1)<=n->(bq n).2.2.1 x a=some r/\(cn n).2.2.1 x a=some r:=fun a ha=>by
   obtain⟨t,b,t1,t2,t3⟩:=line_eq (x:=x) (S:=S) (a:=a) hSB ha hb hok
   refine⟨if b=true then a++t++[10]else[],?_,fun n hn=> ?_⟩
   ·split
    ·simp only[List.length_append,List.length_cons,List.length_nil];omega
    ·simp
   ·obtain⟨m,rfl⟩:∃m,n=m+4:=⟨n - 4,by omega⟩
    obtain⟨g1,g2⟩:=t1 (bq m) (cn m) (hSQ m (by omega)) (hSQ (m+1) (by omega))
    constructor
    ·show jl (bq (m+3)) x a=_
     unfold jl
     rw[show(bq (m+3)).2.2.2 x a=some t from g1]
     simp only[Option.bind_some]
     cases b with
     |false=>rw[t3.1 rfl];rfl
     |true=>
      have ht:t≠[]:=fun h=>by have:=t3.2 h;cases this
      rw[if_neg (by rw[beq_iff_eq];exact ht),catB (by omega),catB (by simp only[List.length_append,List.length_cons,List.length_nil];omega)]
      rfl
    ·show F_ref13_Statement (cn (m+3)) x a=_
     unfold F_ref13_Statement
     rw[show(cn (m+3)).2.2.2 x a=some (t,b)from g2]
     simp only[Option.bind_some]
     cases b with
     |false=>rfl
     |true=>
      rw[if_neg (by decide),catB (by omega),catB (by simp only[List.length_append,List.length_cons,List.length_nil];omega)]
      rfl
  exact⟨fun a=>if h:a.length+2 * di x<=4000 then(key a h).choose else[],fun a ha=>by
   simp only[dif_pos ha]
   exact(key a ha).choose_spec⟩
end Go.Proofs.YtgkcoicaopilhaaGreatDoor
set_option linter.unusedSectionVars false
set_option linter.unusedVariables false
set_option linter.unusedSimpArgs false
set_option maxHeartbeats 4000000
namespace Go.Proofs.YtgkcoicaopilhaaGreatDoor
open Go Go.Cn
theorem belongsT {x:ApiNode} (hs:di x<=1500) (hok:okN x) (hb:db x<=3000000) (i:Nat):∃t,print_belongs x i [32,32]=some t/\ref13_belongs x i [32,32]=some t/\t.length<=5+1100 * kb x.Kids i:=by
 have hkid:∀y,Part x y->∃s:List UInt8->List UInt8,∀a,a.length+2 * di y<=4000->(s a).length<=1100 * db y/\∀n,4 * 1500<=n->(bq n).2.2.1 y a=some (s a)/\(cn n).2.2.1 y a=some (s a):=fun y hy=>by
  have h1:=hy.size
  have h2:=hy.bytes
  exact stmt_at 1500 y (by omega) (by omega) (hy.ok hok) (by omega)
 classical
 let S:ApiNode->List UInt8->List UInt8:=fun y=>if h:Part x y then(hkid y h).choose else fun _=>[]
 have he:∀y a,Part x y->a.length+2 * di y<=4000->(S y a).length<=1100 * db y/\∀n,4 * 1500<=n->(bq n).2.2.1 y a=some (S y a)/\(cn n).2.2.1 y a=some (S y a):=fun y a hy ha=>by
  have:=(hkid y hy).choose_spec a ha
  simp only[S,dif_pos hy]
  exact this
 obtain⟨t,t1,t2,_⟩:=belongs_eq (x:=x) (S:=S) (a:=[32,32]) (fun y a hy ha=>(he y a hy ha).1) (by simp only[List.length_cons,List.length_nil];omega) hb i
 obtain⟨g1,g2⟩:=t1 (bq 1048574) (cn 1048574) (fun y a hy ha=>(he y a hy ha).2 _ (by omega))
 exact⟨t,g1,g2,by simp only[List.length_cons,List.length_nil]at t2;omega⟩
theorem lastIx {n:Nat} (h:n<=4000):(if(w64 ((n:Int) - 1))>0 then(w64 ((n:Int) - 1))else 0)=((n - 1:Nat):Int):=by
 rw[dj (by omega) (by omega)]
 split<;>omega
theorem nbytesL_append :∀(l m:List ApiNode),cf (l++m)=cf l+cf m
 | [],m=>by simp[cf]
 |n::l,m=>by simp[cf,nbytesL_append l m];omega
theorem takekb (l:List ApiNode) (k:Nat):cf (l.take k)+kb l k<=cf l:=by
 have h:=nbytesL_append (l.take k) (l.drop k)
 rw[List.take_append_drop]at h
 have hk:kb l k<=cf (l.drop k):=by
  unfold kb
  split
  ·rename_i hk
   rw[List.drop_eq_getElem_cons hk]
   simp only[cf]
   omega
  ·omega
 omega
def parT (y:ApiNode):List UInt8:=y.Type_++[32]++y.Text
theorem parT_len (y:ApiNode):(parT y).length+8<=db y:=by
 rw[f0]
 simp only[parT,List.length_append,List.length_cons,List.length_nil]
 omega
theorem par_eq {y:ApiNode} (h:db y<=3000000):ky y=some (parT y):=by
 rw[f0]at h
 unfold ky
 rw[catB (by simp only[List.length_cons,List.length_nil];omega),catB (by simp only[List.length_append,List.length_cons,List.length_nil];omega)]
 rfl
theorem params_ref {x:ApiNode} {A:List UInt8} (hA:A.length<=5000000) (hl:x.Kids.length<=4000) (hb:cf x.Kids<=3000000):
  iter (fun s:List UInt8 × Int=>ln x s.1 s.2) (A,0)=some (A++Lib.join ((x.Kids.take (x.Kids.length - 1)).map parT) sepC):=by
 have:=ec (f:=fun s:List UInt8 × Int=>ln x s.1 s.2) (fun j=>(A++Lib.join ((((x.Kids.take (x.Kids.length - 1)).map parT)).take j) sepC,(j:Int))) (x.Kids.length - 1) (o:=A++Lib.join ((x.Kids.take (x.Kids.length - 1)).map parT) sepC) (fun j hj=> ?_) ?_
 ·simpa [Lib.join_nil] using this
 ·have hj2:j<x.Kids.length:=by omega
  have hjj:=join_le (e:=parT) (l:=(x.Kids.take (x.Kids.length - 1)).take j) (fun y _=>parT_len y)
  have ht:=ny (x.Kids.take (x.Kids.length - 1)) j
  have ht2:=ny x.Kids (x.Kids.length - 1)
  rw[List.map_take]at hjj
  have hm:=fe (List.getElem_mem hj2)
  have hn:=f0 x.Kids[j]
  have he:((x.Kids.take (x.Kids.length - 1)).map parT)[j]? =some (parT x.Kids[j]):=by
   rw[List.getElem?_map,List.getElem?_take,if_pos hj,List.getElem?_eq_getElem hj2]
   rfl
  simp only
  unfold ln ref13_Member_j3
  rw[br (by omega),if_pos (by rw[decide_eq_true_eq];omega),dk hj2]
  simp only[Option.bind_some]
  by_cases h0:j=0
  ·subst h0
   rw[if_neg (by simp),catB (by simp only[List.length_append];omega),catB (by simp only[List.length_append,List.length_cons,List.length_nil];omega),catB (by simp only[List.length_append,List.length_cons,List.length_nil];omega),join_take he]
   simp[Lib.join_nil,parT,List.append_assoc]
  ·rw[if_pos (by rw[decide_eq_true_eq];omega),catB (by simp only[List.length_append,List.length_cons,List.length_nil];omega),catB (by simp only[List.length_append,List.length_cons,List.length_nil];omega),catB (by simp only[List.length_append,List.length_cons,List.length_nil];omega),catB (by simp only[List.length_append,List.length_cons,List.length_nil];omega),join_take he,if_neg h0]
   simp[parT,List.append_assoc]
 ·simp only
  unfold ln
  rw[br (by omega),if_neg (by rw[decide_eq_true_eq];omega),List.take_of_length_le (by simp)]
theorem member_j {x:ApiNode} (hs:di x<=1500) (hok:okN x) (hb:db x<=3000000) (A:List UInt8) (hA:A.length<=20):∃t,jf x A=some t/\ref13_Member_j4 x A=some t/\t.length<=1100 * db x:=by
 have hx:=f0 x
 have hsx:=fu x
 have hlen:=ey x.Kids
 have hp:∀{β:Type} (f:List UInt8->Option β),((cat x.Type_ [32]).bind fun x6=>(cat x6 x.Text).bind fun x7=>(cat A x7).bind f)=f (A++parT x):=fun f=>by
  rw[catB (by simp only[List.length_cons,List.length_nil];omega),catB (by simp only[List.length_append,List.length_cons,List.length_nil];omega),catB (by simp only[List.length_append,List.length_cons,List.length_nil];omega)]
  rfl
 have hq:∀{β:Type} (f:List UInt8->Option β),((cat A x.Type_).bind fun x6=>(cat x6 [32]).bind fun x7=>(cat x7 x.Text).bind f)=f (A++parT x):=fun f=>by
  rw[catB (by omega),catB (by simp only[List.length_append,List.length_cons,List.length_nil];omega),catB (by simp only[List.length_append,List.length_cons,List.length_nil];omega)]
  simp[parT,List.append_assoc]
 have hpl:=parT_len x
 have hpe:(parT x).length=x.Type_.length+1+x.Text.length:=by simp only[parT,List.length_append,List.length_cons,List.length_nil]
 unfold jf ref13_Member_j4
 rw[hp,hq]
 by_cases h2:x.Kind=2
 ·refine⟨A++parT x++[59,10],?_,?_,by simp only[List.length_append,List.length_cons,List.length_nil];omega⟩
  ·rw[if_pos (by simp[h2]),catB (by simp only[List.length_append,List.length_cons,List.length_nil];omega)]
  ·rw[if_pos (by simp[h2]),catB (by simp only[List.length_append,List.length_cons,List.length_nil];omega)]
 ·have c2:¬(x.Kind==2)=true:=by simpa using h2
  rw[if_neg c2,if_neg c2]
  by_cases h3:x.Kind=3
  ·have c3:(x.Kind==3)=true:=by simp[h3]
   have c4:¬(x.Kind != 3)=true:=by simp[h3]
   rw[if_pos c3,if_neg c4,lastIx (by omega)]
   obtain⟨t,t1,t2,t3⟩:=belongsT hs hok hb (x.Kids.length - 1)
   have hk:=takekb x.Kids (x.Kids.length - 1)
   have hj:=join_le (e:=parT) (l:=x.Kids.take (x.Kids.length - 1)) (fun y _=>parT_len y)
   have hsub:subL x.Kids 0 ((x.Kids.length - 1:Nat):Int)=some (x.Kids.take (x.Kids.length - 1)):=by
    unfold subL
    rw[if_pos ⟨by omega,by omega,by omega⟩]
    simp
   refine⟨A++parT x++[40]++Lib.join ((x.Kids.take (x.Kids.length - 1)).map parT) sepC++[41,32]++t++[10],?_,?_,by simp only[List.length_append,List.length_cons,List.length_nil];omega⟩
   ·rw[hsub]
    simp only[Option.bind_some]
    rw[list_eq (e:=parT) (fun y hy=>⟨par_eq (by have:=fe (List.mem_of_mem_take hy);omega),parT_len y⟩) (by simp;omega) (by omega)]
    simp only[Option.bind_some]
    rw[catB (by simp only[List.length_append,List.length_cons,List.length_nil];omega),catB (by simp only[List.length_append,List.length_cons,List.length_nil];omega),t1]
    simp only[Option.bind_some]
    rw[catB (by simp only[List.length_append,List.length_cons,List.length_nil];omega),catB (by simp only[List.length_append,List.length_cons,List.length_nil];omega)]
    simp[List.append_assoc]
   ·rw[catB (by simp only[List.length_append,List.length_cons,List.length_nil];omega),params_ref (by simp only[List.length_append,List.length_cons,List.length_nil];omega) (by omega) (by omega)]
    simp only[Option.bind_some]
    unfold ref13_Member_k1
    rw[catB (by simp only[List.length_append,List.length_cons,List.length_nil];omega),lastIx (by omega),t2]
    simp only[Option.bind_some]
    rw[catB (by simp only[List.length_append,List.length_cons,List.length_nil];omega),catB (by simp only[List.length_append,List.length_cons,List.length_nil];omega)]
  ·have c3:¬(x.Kind==3)=true:=by simpa using h3
   have c4:(x.Kind != 3)=true:=by simpa using h3
   rw[if_neg c3,if_pos c4]
   exact⟨[],rfl,rfl,by simp⟩
theorem Member_eq {x:ApiNode} (hs:di x<=1500) (hok:okN x) (hb:db x<=3000000):∃t,jo x=some t/\nr x=some t/\t.length<=1100 * db x:=by
 unfold jo nr
 by_cases hn:x.N=1
 ·rw[if_pos (by simp[hn]),if_pos (by simp[hn]),catB (by simp),catB (by simp)]
  exact member_j hs hok hb _ (by simp)
 ·rw[if_neg (by simpa using hn),if_neg (by simpa using hn)]
  exact member_j hs hok hb _ (by simp)
theorem class_loops {x:ApiNode} (hs:di x<=1500) (hok:okN x) (hb:db x<=3000000) (A:List UInt8) (hA:A.length<=5000000):∃t,kz x A=some t/\ref13_Class_j3 x A=some t/\t.length<=5+A.length+1100 * cf x.Kids:=by
 have hx:=f0 x
 have hsx:=fu x
 have hlen:=ey x.Kids
 rw[okN_eq]at hok
 have hkid:∀y,y∈x.Kids->∃t,jo y=some t/\nr y=some t/\t.length<=1100 * db y:=fun y hy=>by
  have h1:=i9 hy
  have h2:=fe hy
  exact Member_eq (by omega) (okL_mem hok.2 hy) (by omega)
 classical
 let e:ApiNode->List UInt8:=fun y=>if h:y∈x.Kids then(hkid y h).choose else[]
 have he:∀y∈x.Kids,jo y=some (e y)/\nr y=some (e y)/\(e y).length<=1100 * db y:=fun y hy=>by
  have:=(hkid y hy).choose_spec
  simp only[e,dif_pos hy]
  exact this
 have hf:=flat_le (s:=e) (l:=x.Kids) (fun y hy=>(he y hy).2.2)
 have hstep:∀i,(hi:i<x.Kids.length)->(((x.Kids.take (i+1)).map e).flatten)=((x.Kids.take i).map e).flatten++e x.Kids[i]:=fun i hi=>by
  rw[List.take_add_one,List.getElem?_eq_getElem hi,List.map_append,List.flatten_append]
  simp only[Option.toList_some,List.map_cons,List.map_nil,List.flatten_cons,List.flatten_nil,List.append_nil]
 have hfi:∀i,(((x.Kids.take i).map e).flatten).length<=1100 * cf x.Kids:=fun i=>by
  have h1:=flat_le (s:=e) (l:=x.Kids.take i) (fun y hy=>(he y (List.mem_of_mem_take hy)).2.2)
  have h2:=ny x.Kids i
  omega
 have hm:∀i,(hi:i<x.Kids.length)->db x.Kids[i]<=cf x.Kids:=fun i hi=>fe (List.getElem_mem hi)
 refine⟨A++[32,123,10]++(x.Kids.map e).flatten++[125,10],?_,?_,by simp only[List.length_append,List.length_cons,List.length_nil];omega⟩
 ·unfold kz
  rw[catB (by simp only[List.length_cons,List.length_nil];omega)]
  have hit:iter (fun s:List UInt8 × Int=>gt x s.1 s.2) (A++[32,123,10],0)=some (A++[32,123,10]++(x.Kids.map e).flatten):=by
   have:=ec (f:=fun s:List UInt8 × Int=>gt x s.1 s.2) (fun i=>(A++[32,123,10]++((x.Kids.take i).map e).flatten,(i:Int))) x.Kids.length (o:=A++[32,123,10]++(x.Kids.map e).flatten) (fun i hi=> ?_) ?_
   ·simpa using this
   ·have h1:=hfi i
    have h2:=hm i hi
    have h3:=(he _ (List.getElem_mem hi)).2.2
    simp only
    unfold gt
    rw[if_pos (by simp[hi]),dk hi]
    simp only[Option.bind_some]
    rw[(he _ (List.getElem_mem hi)).1]
    simp only[Option.bind_some]
    rw[catB (by simp only[List.length_append,List.length_cons,List.length_nil];omega),br (by omega),hstep i hi,List.append_assoc]
   ·simp only
    unfold gt
    rw[if_neg (by simp),List.take_length]
  rw[hit]
  simp only[Option.bind_some,print_Class_k1]
  rw[catB (by simp only[List.length_append,List.length_cons,List.length_nil];omega)]
 ·unfold ref13_Class_j3
  rw[catB (by simp only[List.length_cons,List.length_nil];omega)]
  have hit:iter (fun s:List UInt8 × Int=>mi x s.1 s.2) (A++[32,123,10],0)=some (A++[32,123,10]++(x.Kids.map e).flatten):=by
   have:=ec (f:=fun s:List UInt8 × Int=>mi x s.1 s.2) (fun i=>(A++[32,123,10]++((x.Kids.take i).map e).flatten,(i:Int))) x.Kids.length (o:=A++[32,123,10]++(x.Kids.map e).flatten) (fun i hi=> ?_) ?_
   ·simpa using this
   ·have h1:=hfi i
    have h2:=hm i hi
    have h3:=(he _ (List.getElem_mem hi)).2.2
    simp only
    unfold mi
    rw[if_pos (by simp[hi]),dk hi]
    simp only[Option.bind_some]
    rw[(he _ (List.getElem_mem hi)).2.1]
    simp only[Option.bind_some]
    rw[catB (by simp only[List.length_append,List.length_cons,List.length_nil];omega),br (by omega),hstep i hi,List.append_assoc]
   ·simp only
    unfold mi
    rw[if_neg (by simp),List.take_length]
  rw[hit]
  simp only[Option.bind_some,ref13_Class_k1]
  rw[catB (by simp only[List.length_append,List.length_cons,List.length_nil];omega)]
theorem Class_eq {x:ApiNode} (hs:di x<=1500) (hok:okN x) (hb:db x<=3000000):∃t,print_Class x=some t/\ref13_Class x=some t:=by
 have hx:=f0 x
 by_cases h:x.Type_=[]
 ·obtain⟨t,t1,t2,_⟩:=class_loops hs hok hb ([99,108,97,115,115,32]++x.Text) (by simp only[List.length_append,List.length_cons,List.length_nil];omega)
  refine⟨t,?_,?_⟩
  ·unfold print_Class
   rw[catB (by simp only[List.length_cons,List.length_nil];omega),if_neg (by simp[h])]
   exact t1
  ·unfold ref13_Class
   rw[catB (by simp only[List.length_cons,List.length_nil];omega),if_neg (by simp[h])]
   exact t2
 ·obtain⟨t,t1,t2,_⟩:=class_loops hs hok hb ([99,108,97,115,115,32]++x.Text++([32,101,120,116,101,110,100,115,32]++x.Type_)) (by simp only[List.length_append,List.length_cons,List.length_nil];omega)
  refine⟨t,?_,?_⟩
  ·unfold print_Class
   rw[catB (by simp only[List.length_cons,List.length_nil];omega),if_pos (by simpa using h),catB (by simp only[List.length_cons,List.length_nil];omega),catB (by simp only[List.length_append,List.length_cons,List.length_nil];omega)]
   exact t1
  ·unfold ref13_Class
   rw[catB (by simp only[List.length_cons,List.length_nil];omega),if_pos (by simpa using h),catB (by simp only[List.length_append,List.length_cons,List.length_nil];omega),catB (by simp only[List.length_append,List.length_cons,List.length_nil];omega),List.append_assoc _ [32,101,120,116,101,110,100,115,32] x.Type_]
   exact t2
end Go.Proofs.YtgkcoicaopilhaaGreatDoor
set_option linter.unusedSectionVars false
set_option linter.unusedVariables false
set_option linter.unusedSimpArgs false
set_option maxRecDepth 1000000
set_option maxHeartbeats 4000000
namespace Go.Proofs.YtgkcoicaopilhaaGreatDoor
open Go Go.Cn
mutual
def tsum :ApiNode->Nat
 |⟨_,t,y,_,_,_,_,_,kids⟩=>t.length+y.length+tsumL kids
def tsumL :List ApiNode->Nat
 | []=>0
 |n::l=>tsum n+tsumL l
end
mutual
theorem nbytes_tsum :∀x:ApiNode,db x=tsum x+48 * di x
 |⟨_,t,y,_,_,_,_,_,kids⟩=>by
  have:=nbytesL_tsum kids
  simp only[db,tsum,di]
  omega
theorem nbytesL_tsum :∀l:List ApiNode,cf l=tsumL l+48 * cg l
 | []=>by simp[cf,tsumL,cg]
 |n::l=>by
  have h1:=nbytes_tsum n
  have h2:=nbytesL_tsum l
  simp only[cf,tsumL,cg]
  omega
end
theorem er_len (names:List (List UInt8)) (s:List UInt8):(er names s).length<=s.length:=by
 unfold er
 split
 ·rename_i h
  have:=List.length_pos_iff.2 h.2
  simp only[List.length_cons,List.length_nil]
  omega
 ·exact Nat.le_refl _
theorem in_eq {names:List (List UInt8)} (hn:names.length<=1000000) (s:List UInt8):ref14_in names s=some (decide (s∈names/\s≠[])):=by
  obtain⟨o,h1,h2⟩:=eo (f:=fun i:Int=>ref14_in_l2 names s i) (fun i=>∃k:Nat,i=k/\k<=names.length/\¬(s∈names.take k/\s≠[]))
    (fun o => match o with | .next _ => ¬ (s ∈ names /\ s ≠ []) | .done r => r = true /\ s ∈ names /\ s ≠ []) (fun i => names.length - i.toNat) (by
      rintro _ ⟨k,rfl,hk,hno⟩
      unfold ref14_in_l2 ref14_in_j3
      by_cases hlt:k<names.length
      · rw[if_pos (by simp[hlt]),dk hlt]
        simp only[Option.bind_some]
        by_cases he:names[k]=s
        · rw[if_pos (by simp[he])]
          by_cases hs:s=[]
          · left
            rw[if_neg (by simp[hs])]
            refine⟨_,rfl,⟨k+1,br (by omega),hlt,fun h=>h.2 hs⟩,?_⟩
            rw[br (by omega)]
            omega
          · right
            rw[if_pos (by simpa using hs)]
            exact⟨_,rfl,rfl,he▸List.getElem_mem hlt,hs⟩
        · left
          rw[if_neg (by simpa using he),if_neg (by simp)]
          refine⟨_,rfl,⟨k+1,br (by omega),hlt,fun h=> ?_⟩,?_⟩
          · rw[List.take_add_one,List.getElem?_eq_getElem hlt,List.mem_append]at h
            rcases h.1 with h'|h'
            · exact hno ⟨h',h.2⟩
            · simp only[Option.toList_some,List.mem_singleton]at h'
              exact he h'.symm
          · rw[br (by omega)]
            omega
      · right
        rw[if_neg (by simp;omega)]
        rw[List.take_of_length_le (by omega)]at hno
        exact⟨_,rfl,hno⟩) 0 ⟨0,rfl,Nat.zero_le _,by simp⟩
  unfold ref14_in
  rw[h1]
  cases o with
  |next p=>rw[decide_eq_false h2];rfl
  |done r=>obtain⟨rfl,h2⟩:=h2;rw[decide_eq_true h2];rfl
theorem erase14_at {names:List (List UInt8)} (hn:names.length<=1000000):∀(k:Nat) (x:ApiNode),di x<=k->k<=1048576->k9 k x names=some (fa (er names) x):=by
 intro k
 induction k with
 |zero=>intro x h _;have:=nsize_pos x;omega
 |succ k ih=>
  intro x hx hk
  show F_ref14_Erase (k9 k) x names=_
  generalize hR:k9 k=R
  have hsz:=fu x
  have hlen:=ey x.Kids
  have hkid:∀y∈x.Kids,R y names=some (fa (er names) y):=fun y hy=>by
   have:=i9 hy
   rw[← hR]
   exact ih y (by omega) (by omega)
  unfold F_ref14_Erase
  have hit:iter (fun s:Int × List ApiNode=>mh R x names s.1 s.2) (0,[])=some (x.Kids.map (fa (er names))):=by
   refine ec (f:=fun s:Int × List ApiNode=>mh R x names s.1 s.2) (fun i=>((i:Int),(x.Kids.take i).map (fa (er names)))) x.Kids.length (fun i hi=> ?_) ?_
   ·simp only
    unfold mh
    rw[if_pos (by simp[hi]),dk hi]
    simp only[Option.bind_some]
    rw[hkid _ (List.getElem_mem hi)]
    simp only[Option.bind_some]
    unfold app
    rw[if_pos ⟨by simp only[List.length_map,List.length_take,List.length_cons,List.length_nil];omega,by simp only[List.length_map,List.length_take,List.length_cons,List.length_nil];omega⟩]
    simp only[Option.bind_some]
    rw[br (by omega),List.take_add_one,List.getElem?_eq_getElem hi,List.map_append]
    rfl
   ·simp only
    unfold mh
    rw[if_neg (by simp),List.take_length]
  rw[hit]
  simp only[Option.bind_some]
  have he:fa (er names) x=⟨x.Kind,if x.Kind≠24 then er names x.Text else x.Text,er names x.Type_,x.N,x.From,x.To,x.At,x.TypeAt,x.Kids.map (fa (er names))⟩:=by
   cases x
   simp[fa,eraseL_map]
  rw[he]
  have j2:∀z:ApiNode,ref14_Erase_j2 R names z=some {z with Type_:=er names z.Type_}:=fun z=>by
   unfold ref14_Erase_j2 ref14_Erase_j1
   rw[in_eq hn]
   simp only[Option.bind_some,er]
   by_cases h:z.Type_∈names/\z.Type_≠[]
   ·rw[decide_eq_true h,if_pos rfl,if_pos h]
   ·rw[decide_eq_false h,if_neg (by simp),if_neg h]
    cases z;rfl
  unfold ref14_Erase_k4 ref14_Erase_j3
  simp only
  rw[in_eq hn,j2,j2]
  simp only[Option.bind_some]
  by_cases h:x.Text∈names/\x.Text≠[]
  ·rw[decide_eq_true h,if_pos rfl]
   by_cases h24:x.Kind=24
   ·rw[if_neg (by simp[h24]),if_neg (by simpa using h24)]
   ·rw[if_pos (by simpa using h24),if_pos h24]
    simp only[er,if_pos h]
  ·rw[decide_eq_false h,if_neg (by simp),if_neg (by simp)]
   have e:er names x.Text=x.Text:=by unfold er;rw[if_neg h]
   rw[e]
   simp
theorem Erase14_eq {names:List (List UInt8)} {x:ApiNode} (hn:names.length<=1000000) (hx:di x<=1048576):ref14_Erase x names=some (fa (er names) x):=erase14_at hn 1048576 x hx (Nat.le_refl _)
theorem lexR_lengthT {a:Nat} {s:List UInt8} {l:List ApiToken} {p e:Nat} (h:LexR a s l p e):l.length<=s.length+1:=by
 induction h with
 |note a s k hg=>simp
 |fin a s hg=>simp
 |bad a s k e hg hk ht he=>simp
 |tok a s k d n l hg hk ht _ ih=>
  obtain⟨hn,hn2,_,_⟩:=tokL_len ht
  simp only[List.length_drop,List.length_cons]at ih hn2 ⊢
  omega
 |later a s k d n p e hg hk ht _ he ih=>simp
theorem back_split :∀(l:List ApiToken) (a:Nat) (s:List UInt8),backL a s l->∃l' t,l=l'++[t]/\t.Kind=5/\∀u∈l',u.Kind≠5
 | [],_,_,h=>h.elim
 |t::l,a,s,h=>by
  obtain⟨_,s',_,h⟩:=h
  rcases h with⟨rfl,h5,_⟩|⟨_,h5,_,hb⟩
  ·exact⟨[],t,rfl,h5,fun u hu=>by cases hu⟩
  ·obtain⟨l',t',rfl,h1,h2⟩:=back_split l _ _ hb
   refine⟨t::l',t',rfl,h1,fun u hu=> ?_⟩
   rcases List.mem_cons.1 hu with rfl|hu
   ·exact h5
   ·exact h2 u hu
theorem texts_shape {l:List ApiToken} (hl:l.length<=2000000):iter (fun s:Int × List (List UInt8)=>f3 l s.1 s.2) (0,[])=some (l.map (·.Text)):=by
 refine ec (f:=fun s:Int × List (List UInt8)=>f3 l s.1 s.2) (fun i=>((i:Int),(l.take i).map (·.Text))) l.length (fun i hi=> ?_) ?_
 ·simp only
  unfold f3
  rw[if_pos (by simp[hi]),dk hi]
  simp only[Option.bind_some]
  rw[app16 (by simp only[List.length_map,List.length_take,List.length_cons,List.length_nil];omega)]
  simp only[Option.bind_some]
  rw[br (by omega),List.take_add_one,List.getElem?_eq_getElem hi,List.map_append]
  rfl
 ·simp only
  unfold f3
  rw[if_neg (by simp),List.take_length]
theorem texts_ref {l:List ApiToken} (hl:l.length<=2000000):ref04_Texts l=some ((l.filter fun t=>t.Kind != 5).map (·.Text)):=by
 unfold ref04_Texts
 have hit:iter (fun s:Int × List (List UInt8)=>mo l s.1 s.2) (0,[])=some ((l.filter fun t=>t.Kind != 5).map (·.Text)):=by
  refine ec (f:=fun s:Int × List (List UInt8)=>mo l s.1 s.2) (fun i=>((i:Int),((l.take i).filter fun t=>t.Kind != 5).map (·.Text))) l.length (fun i hi=> ?_) ?_
  ·have hle:((l.take i).filter fun t=>t.Kind != 5).length<=i:=Nat.le_trans (List.length_filter_le ..) (by rw[List.length_take];omega)
   simp only
   unfold mo ref04_Texts_j3
   rw[if_pos (by simp[hi]),dk hi]
   simp only[Option.bind_some]
   rw[List.take_add_one,List.getElem?_eq_getElem hi,Option.toList_some,List.filter_append,List.map_append]
   by_cases h5:(l[i].Kind != 5)=true
   ·rw[if_pos h5,app16 (by simp only[List.length_map,List.length_cons,List.length_nil];omega)]
    simp only[Option.bind_some]
    rw[br (by omega),List.filter_cons_of_pos (p:=fun t:ApiToken=>t.Kind != 5) (a:=l[i]) h5]
    rfl
   ·rw[if_neg h5,br (by omega),List.filter_cons_of_neg (p:=fun t:ApiToken=>t.Kind != 5) (a:=l[i]) h5]
    simp
  ·simp only
   unfold mo
   rw[if_neg (by simp),List.take_length]
 rw[hit]
 rfl
theorem tokens_eq {x:ApiNode} {names:List (List UInt8)} {t:List UInt8} (h1:l5 x names=some t) (h2:ref14_Of x names=some t):∃l,f1 x names=some l/\ref14_Tokens x names=some l/\l.length<=2000000:=by
 unfold f1 ref14_Tokens
 rw[h1,h2]
 simp only[Option.bind_some]
 by_cases hl:t.length<=1048576
 ·rw[lex_Lex_eq t hl,ref03_Lex_eq t hl]
  simp only[Option.bind_some,lexI]
  by_cases he:(lexM t).2.2=0
  ·have hR:=lexM_rel t
   rw[if_neg (by simp[he]),if_neg (by simp[he])]
   obtain⟨_,_,hb⟩:=lexR_back hR he
   obtain⟨l',u,e1,e2,e3⟩:=back_split _ _ _ hb
   have hlen:=lexR_lengthT hR
   rw[e1]at hlen ⊢
   simp only[List.length_append,List.length_cons,List.length_nil]at hlen
   have hs:subL (l'++[u]) 0 (w64 (((l'++[u]).length:Int) - 1))=some l':=by
    have e:w64 (((l'++[u]).length:Int) - 1)=(l'.length:Int):=by
     rw[dj (by omega) (by simp only[List.length_append,List.length_cons,List.length_nil];omega)]
     simp only[List.length_append,List.length_cons,List.length_nil]
     omega
    rw[e]
    unfold subL
    rw[if_pos ⟨by omega,by omega,by simp only[List.length_append,List.length_cons,List.length_nil];omega⟩]
    simp
   rw[hs]
   simp only[Option.bind_some]
   rw[texts_shape (by omega),texts_ref (by simp only[List.length_append,List.length_cons,List.length_nil];omega)]
   have hf:(l'++[u]).filter (fun t=>t.Kind != 5)=l':=by
    rw[List.filter_append,List.filter_cons_of_neg (by simp[e2]),List.filter_nil,List.append_nil]
    exact List.filter_eq_self.2 (fun v hv=>by simpa using e3 v hv)
   rw[hf]
   exact⟨_,rfl,rfl,by simp only[List.length_map];omega⟩
  ·rw[if_pos (by simpa using he),if_pos (by simpa using he)]
   exact⟨[],rfl,rfl,by simp⟩
 ·have e1:lex_Lex t=some ([],0,2):=by unfold lex_Lex;rw[if_pos (by rw[decide_eq_true_eq];omega)]
  have e2:ref03_Lex t=some ([],0,2):=by unfold ref03_Lex;rw[if_pos (by rw[decide_eq_true_eq];omega)]
  rw[e1,e2]
  exact⟨[],rfl,rfl,by simp⟩
theorem awakeT :law14_awake=some true:=by
 decide+kernel
theorem Of_eq {x:ApiNode} {names:List (List UInt8)} (hn:names.length<=1000000) (hs:di x<=1500) (hok:okN x) (hb:db x<=3000000):∃t,l5 x names=some t/\ref14_Of x names=some t:=by
 have hb2:=nbytes_erase (er_len names) x
 have hs2:=nsize_erase (er names) x
 have hok2:=okN_erase (er names) x hok
 unfold l5 ref14_Of
 rw[Erase_eq (by omega) (by omega),Erase14_eq hn (by omega)]
 simp only[Option.bind_some]
 by_cases h1:x.Kind=1
 ·have c1:(x.Kind==1)=true:=by simp[h1]
  rw[if_pos c1,if_pos c1]
  obtain⟨t,t1,t2⟩:=Class_eq (x:=fa (er names) x) (by omega) hok2 (by omega)
  rw[t1,t2]
  exact⟨t,rfl,rfl⟩
 ·have c1:¬(x.Kind==1)=true:=by simpa using h1
  rw[if_neg c1,if_neg c1]
  obtain⟨t,t1,t2,_⟩:=Member_eq (x:=fa (er names) x) (by omega) hok2 (by omega)
  unfold shape_Of_j1 ref14_Of_j1
  rw[t1,t2]
  simp only[Option.bind_some]
  by_cases h2:x.Kind=2
  ·exact⟨t,by simp[h2],by simp[h2]⟩
  ·by_cases h3:x.Kind=3
   ·exact⟨t,by simp[h3],by simp[h3]⟩
   ·exact⟨[],by simp[h2,h3],by simp[h2,h3]⟩
end Go.Proofs.YtgkcoicaopilhaaGreatDoor
set_option linter.unusedSectionVars false
set_option linter.unusedVariables false
set_option linter.unusedSimpArgs false
set_option maxHeartbeats 4000000
namespace Go.Proofs.YtgkcoicaopilhaaGreatDoor
open Go Go.Cn
mutual
def okB (M:Nat):ApiNode->Prop
 |⟨_,t,y,n,_,_,_,_,kids⟩=>(t.length<=M/\y.length<=M/\ -9223372036854775808<=n/\n<=9223372036854775807)/\okBL M kids
def okBL (M:Nat):List ApiNode->Prop
 | []=>True
 |n::l=>okB M n/\okBL M l
end
theorem okB_eq (M:Nat) (x:ApiNode):okB M x=((x.Text.length<=M/\x.Type_.length<=M/\ -9223372036854775808<=x.N/\x.N<=9223372036854775807)/\okBL M x.Kids):=by cases x;simp[okB]
mutual
theorem okB_ok {M:Nat}:∀x:ApiNode,okB M x->okN x
 |⟨_,t,y,n,_,_,_,_,kids⟩,h=>by
  simp only[okB,okN]at h ⊢
  exact⟨h.1.2.2,okBL_ok kids h.2⟩
theorem okBL_ok {M:Nat}:∀l:List ApiNode,okBL M l->okL l
 | [],_=>by simp[okL]
 |n::l,h=>by
  simp only[okBL,okL]at h ⊢
  exact⟨okB_ok n h.1,okBL_ok l h.2⟩
end
mutual
theorem okB_tsum {M:Nat}:∀x:ApiNode,okB M x->tsum x<=2 * M * di x
 |⟨_,t,y,n,_,_,_,_,kids⟩,h=>by
  simp only[okB,tsum,di]at h ⊢
  have:=okBL_tsum kids h.2
  rw[Nat.mul_add]
  omega
theorem okBL_tsum {M:Nat}:∀l:List ApiNode,okBL M l->tsumL l<=2 * M * cg l
 | [],_=>by simp[tsumL,cg]
 |n::l,h=>by
  simp only[okBL,tsumL,cg]at h ⊢
  have h1:=okB_tsum n h.1
  have h2:=okBL_tsum l h.2
  rw[Nat.mul_add]
  omega
end
theorem okBL_append {M:Nat}:∀{l m:List ApiNode},okBL M l->okBL M m->okBL M (l++m)
 | [],_,_,h=>h
 |_::_,_,h,h2=>by
  simp only[List.cons_append,okBL]at h ⊢
  exact⟨h.1,okBL_append h.2 h2⟩
theorem nsizes_append :∀(l m:List ApiNode),cg (l++m)=cg l+cg m
 | [],m=>by simp[cg]
 |n::l,m=>by simp[cg,nsizes_append l m];omega
theorem w64_range (n:Int): -9223372036854775808<=w64 n/\w64 n<=9223372036854775807:=by
 have:=wf_wrap .i64 n
 simpa [Lit.wf,IntKind.min,IntKind.max,IntKind.signed,IntKind.bits] using this
structure Toks (M:Nat) (T:List ApiToken):Prop where
 len:T.length<=60000
 pos:0<T.length
 last:∀i (h:i<T.length),T[i].Kind=5↔i+1=T.length
 txt:∀i (h:i<T.length),T[i].Text.length<=M
section
variable {M:Nat} {T:List ApiToken} (hT:Toks M T)
include hT
theorem cy (i:Nat) (s:List UInt8):∃b,bw T i s=some b/\(b=true->i+1<T.length):=by
 unfold bw nf
 by_cases hi:i<T.length
 ·rw[if_pos (by simp[hi]),dk hi]
  simp only[Option.bind_some]
  split
  ·split
   ·refine⟨_,rfl,fun h=> ?_⟩
    have hl:=hT.last i hi
    have:T[i].Kind≠5:=by simpa using h
    rcases Nat.lt_or_ge (i+1) T.length with h'|h'
    ·exact h'
    ·exact absurd (hl.2 (by omega)) this
   ·exact⟨_,rfl,fun h=>by cases h⟩
  ·exact⟨_,rfl,fun h=>by cases h⟩
 ·rw[if_neg (by simp;omega)]
  exact⟨_,rfl,fun h=>by cases h⟩
theorem name_some (i:Nat):∃b,gw T i=some b/\(b=true->i+1<T.length):=by
 unfold gw ref12_name_j1
 by_cases hi:i<T.length
 ·rw[if_pos (by simp[hi]),dk hi]
  refine⟨_,rfl,fun h=> ?_⟩
  have hl:=hT.last i hi
  have hk:T[i].Kind=1:=by simpa using h
  rcases Nat.lt_or_ge (i+1) T.length with h'|h'
  ·exact h'
  ·have:=hl.2 (by omega)
   rw[hk]at this
   cases this
 ·rw[if_neg (by simp;omega)]
  exact⟨_,rfl,fun h=>by cases h⟩
theorem fb (k:Int) {i j:Nat} (hi:i<T.length) (hj:j<T.length) (hj0:0<j) (l:List ApiNode):∃a b,c7 T k i j l=some ⟨k,[],[],0,a,b, -1, -1,l⟩:=by
 unfold c7 ref12_end ref12_made_j1 ref12_end_j1
 have e:w64 ((j:Int) - 1)=((j - 1:Nat):Int):=by
  have:=hT.len
  rw[dj (by omega) (by omega)]
  omega
 rw[dk hi,e,dk (show j - 1<T.length by omega)]
 exact⟨_,_,rfl⟩
theorem end_some {j:Nat} (hj:j<T.length) (hj0:0<j):∃a,ref12_end T j=some a:=by
 unfold ref12_end ref12_end_j1
 have e:w64 ((j:Int) - 1)=((j - 1:Nat):Int):=by
  have:=hT.len
  rw[dj (by omega) (by omega)]
  omega
 rw[e,dk (show j - 1<T.length by omega)]
 exact⟨_,rfl⟩
theorem binds_row {r:Nat} {i:Nat} {row:List (List UInt8)} (hr:idx opRows (r:Int)=some row) (hl:row.length<=1000):
  ∃z,iter (fun x=>iz (r:Int) T i x) 0=some z/\(match z with| .next _=>True| .done y=>y= .inr (.done (w64 ((r:Int)+1)))/\i+1<T.length):=by
 have e4:∀j:Int,iz (r:Int) T i j=(idx opRows r).bind fun x8=>(if(decide (j<(x8.length:Int)))=true then(idx opRows r).bind fun x10=>(idx x10 j).bind fun x11=>(bw T i x11).bind fun x12=>(if x12=true then some (.inr (.done (.inr (.done (w64 ((r:Int)+1))))))else some (.inl (w64 (j+1))))else some (.inr (.next ()))):=fun j=>rfl
 obtain⟨o,h1,h2⟩:=eo (f:=fun x=>iz (r:Int) T i x) (fun j=>∃k:Nat,j=k/\k<=row.length) (fun z=>match z with| .next _=>True| .done y=>y= .inr (.done (w64 ((r:Int)+1)))/\i+1<T.length) (fun j=>row.length - j.toNat) (by
  rintro _ ⟨k,rfl,hk⟩
  rw[e4,hr]
  simp only[Option.bind_some]
  by_cases hlt:k<row.length
  ·rw[if_pos (by simp[hlt]),dk hlt]
   simp only[Option.bind_some]
   obtain⟨b,hb,hb2⟩:=cy hT i row[k]
   rw[hb]
   simp only[Option.bind_some]
   cases b with
   |true=>exact .inr ⟨_,rfl,rfl,hb2 rfl⟩
   |false=>
    left
    refine⟨_,rfl,⟨k+1,br (by omega),hlt⟩,?_⟩
    rw[br (by omega)]
    omega
  ·right
   rw[if_neg (by simp;omega)]
   exact⟨_,rfl,trivial⟩) 0 ⟨0,rfl,Nat.zero_le _⟩
 exact⟨o,h1,h2⟩
theorem binds_some (i:Nat):∃b,ref12_binds T i=some b/\(b≠0->i+1<T.length):=by
 unfold ref12_binds
 obtain⟨o,h1,h2⟩:=eo (f:=fun x=>kp T i x) (fun j=>∃k:Nat,j=k/\k<=6) (fun z=>match z with| .next _=>True| .done _=>i+1<T.length) (fun j=>6 - j.toNat) (by
  rintro _ ⟨k,rfl,hk⟩
  unfold kp
  by_cases hlt:k<6
  ·have hlt':k<opRows.length:=hlt
   have hl:∀row∈opRows,row.length<=1000:=by decide
   obtain⟨z,hz,hz2⟩:=binds_row hT (r:=k) (i:=i) (dk hlt') (hl _ (List.getElem_mem hlt'))
   rw[if_pos (by simp;omega),hz]
   simp only[Option.bind_some]
   cases z with
   |next u=>
    left
    unfold ref12_binds_k3
    refine⟨_,rfl,⟨k+1,br (by omega),hlt⟩,?_⟩
    rw[br (by omega)]
    omega
   |done y=>
    obtain⟨rfl,hy⟩:=hz2
    exact .inr ⟨_,rfl,hy⟩
  ·right
   rw[if_neg (by simp;omega)]
   exact⟨_,rfl,trivial⟩) 0 ⟨0,rfl,by omega⟩
 rw[h1]
 cases o with
 |next u=>exact⟨0,rfl,fun h=>absurd rfl h⟩
 |done y=>exact⟨y,rfl,fun _=>h2⟩
end
def Res (M:Nat) (T:List ApiToken) (i:Nat) (r:Option (ApiNode × Int × Ref12Wrong)):Prop:=∃n j w,r=some (n,j,w)/\(0<=w.Place\/(w.Place<0/\∃j':Nat,j=(j':Int)/\i<j'/\j'<T.length/\okB M n/\di n+i<=j'))
def ResL (M:Nat) (T:List ApiToken) (i:Nat) (r:Option (List ApiNode × Int × Ref12Wrong)):Prop:=∃l j w,r=some (l,j,w)/\(0<=w.Place\/(w.Place<0/\∃j':Nat,j=(j':Int)/\i<j'/\j'<T.length/\okBL M l/\cg l+i<=j'))
theorem Res.bad {M:Nat} {T:List ApiToken} {i:Nat} {n:ApiNode} {j:Int} {w:Ref12Wrong} (h:0<=w.Place):Res M T i (some (n,j,w)):=⟨n,j,w,rfl,.inl h⟩
theorem ResL.bad {M:Nat} {T:List ApiToken} {i:Nat} {n:List ApiNode} {j:Int} {w:Ref12Wrong} (h:0<=w.Place):ResL M T i (some (n,j,w)):=⟨n,j,w,rfl,.inl h⟩
theorem Res.ok {M:Nat} {T:List ApiToken} {i j:Nat} {n:ApiNode} {w:Ref12Wrong} (h:w.Place<0) (h1:i<j) (h2:j<T.length) (h3:okB M n) (h4:di n+i<=j):Res M T i (some (n,(j:Int),w)):=⟨n,j,w,rfl,.inr ⟨h,j,rfl,h1,h2,h3,h4⟩⟩
theorem ResL.ok {M:Nat} {T:List ApiToken} {i j:Nat} {n:List ApiNode} {w:Ref12Wrong} (h:w.Place<0) (h1:i<j) (h2:j<T.length) (h3:okBL M n) (h4:cg n+i<=j):ResL M T i (some (n,(j:Int),w)):=⟨n,j,w,rfl,.inr ⟨h,j,rfl,h1,h2,h3,h4⟩⟩
theorem w64_n2 {n:Nat} (h:n<=9000000000):w64 ((n:Int)+2)=((n+2:Nat):Int):=by rw[dj (by omega) (by omega)];rfl
theorem w64_n3 {n:Nat} (h:n<=9000000000):w64 ((n:Int)+3)=((n+3:Nat):Int):=by rw[dj (by omega) (by omega)];rfl
theorem w64_n4 {n:Nat} (h:n<=9000000000):w64 ((n:Int)+4)=((n+4:Nat):Int):=by rw[dj (by omega) (by omega)];rfl
theorem app104 {a b:List ApiNode} (h:a.length+b.length<=9000000):app 104 a b=some (a++b):=by
 unfold app
 rw[if_pos ⟨by omega,by omega⟩]
def Good (M:Nat) (T:List ApiToken) (R:ak) (m:Nat):Prop:=∀(i:Nat) (d:Int),i<T.length->
 (16 * (T.length - i)+9<=m->Res M T i (R.1 T i d))/\
 (∀l:Nat,1<=l->l<=7->16 * (T.length - i)+9<=m+l->Res M T i (R.2.1 T i d l))/\
 (16 * (T.length - i)+1<=m->Res M T i (R.2.2.1 T i d))/\
 (16 * (T.length - i)<=m->Res M T i (R.2.2.2.1 T i d))/\
 (16 * (T.length - i)+10<=m->ResL M T i (R.2.2.2.2 T i d))
section
variable {M:Nat} {T:List ApiToken} (hT:Toks M T) {R:ak} {m:Nat} (hG:Good M T R m)
include hT hG
theorem expression_good (i:Nat) (d:Int) (hi:i<T.length) (hm:16 * (T.length - i)+9<=m+1):Res M T i (ix R T i d):=by
 unfold ix
 obtain⟨n,j,w,h,h2⟩:=(hG i d hi).2.1 1 (by omega) (by omega) (by omega)
 have h:R.2.1 T i d 1=some (n,j,w):=h
 rw[h]
 exact⟨n,j,w,rfl,h2⟩
theorem level_good (i:Nat) (d:Int) (hi:i<T.length) (l:Nat) (h1:1<=l) (h7:l<=7) (hm:16 * (T.length - i)+9<=m+1+l):Res M T i (F_ref12_level R T i d l):=by
  have hlen:=hT.len
  unfold F_ref12_level
  by_cases hl:(l:Int)>6
  · rw[if_pos (by rw[decide_eq_true_eq];exact hl)]
    obtain⟨n,j,w,h,h2⟩:=(hG i d hi).2.2.1 (by omega)
    rw[h]
    exact⟨n,j,w,rfl,h2⟩
  · rw [if_neg (by rw [decide_eq_true_eq]; exact hl), br (by omega)]
    obtain⟨n,j,w,h,h2⟩:=(hG i d hi).2.1 (l+1) (by omega) (by omega) (by omega)
    rw[h]
    simp only[Option.bind_some]
    rcases h2 with h2|⟨h2,j,rfl,hij,hjl,hok,hns⟩
    · rw[if_pos (by rw[decide_eq_true_eq];exact h2)]
      exact .bad h2
    · rw[if_neg (by rw[decide_eq_true_eq];omega)]
      obtain⟨o,ho,ho2⟩:=eo (f:=fun s:Int × ApiNode=>kn R T l d i s.1 s.2) (fun s=>∃k:Nat,s.1=k/\i<k/\k<T.length/\okB M s.2/\di s.2+i<=k)
        (fun z => match z with | .next p => ∃ k : Nat, p.1 = k /\ i < k /\ k < T.length /\ okB M p.2 /\ di p.2 + i <= k | .done r => 0 <= r.2.2.Place) (fun s => T.length - s.1.toNat) (by
          rintro⟨_,x⟩ ⟨k,rfl,hik,hkl,hx,hxn⟩
          simp only at hx hxn
          simp only
          unfold kn
          obtain⟨b,hb,hb2⟩:=binds_some hT k
          rw[hb]
          simp only[Option.bind_some]
          by_cases hbl:b=(l:Int)
          · rw[if_pos (by rw[beq_iff_eq];exact hbl),br (by omega),br (by omega)]
            have hk1:=hb2 (by omega)
            obtain⟨y,j2,w2,h3,h4⟩:=(hG (k+1) d hk1).2.1 (l+1) (by omega) (by omega) (by omega)
            rw[h3]
            simp only[Option.bind_some]
            rcases h4 with h4|⟨h4,j2,rfl,hij2,hjl2,hok2,hns2⟩
            · rw[if_pos (by rw[decide_eq_true_eq];exact h4)]
              exact .inr ⟨_,rfl,h4⟩
            · rw[if_neg (by rw[decide_eq_true_eq];omega),dk hkl]
              simp only[Option.bind_some]
              obtain⟨a,c,hm⟩:=fb hT 24 hi hjl2 (by omega) [x,y]
              rw[hm]
              simp only[Option.bind_some]
              refine .inl ⟨_,rfl,⟨j2,rfl,by omega,hjl2,?_,?_⟩,?_⟩
              · rw[okB_eq]
                exact⟨⟨hT.txt k hkl,by simp,by simp,by simp⟩,hx,hok2,trivial⟩
              · simp only[fu,cg]
                have e1:=fu x
                have e2:=fu y
                omega
              · simp only[Int.toNat_natCast]
                omega
          · rw[if_neg (by rw[beq_iff_eq];exact hbl)]
            exact .inr ⟨_,rfl,k,rfl,hik,hkl,hx,hxn⟩) ((j:Int),n) ⟨j,rfl,hij,hjl,hok,hns⟩
      rw[ho]
      simp only[Option.bind_some]
      cases o with
      |next p=>
        obtain⟨k,hk1,hk2,hk3,hk4,hk5⟩:=ho2
        simp only[ref12_level_k3,ba,ref12_level_j2,Option.bind_some,hk1]
        exact .ok (by decide) hk2 hk3 hk4 hk5
      |done r=>exact .bad ho2
end
end Go.Proofs.YtgkcoicaopilhaaGreatDoor
set_option linter.unusedSectionVars false
set_option linter.unusedVariables false
set_option linter.unusedSimpArgs false
set_option maxHeartbeats 4000000
namespace Go.Proofs.YtgkcoicaopilhaaGreatDoor
open Go Go.Cn
section
variable {M:Nat} {T:List ApiToken} (hT:Toks M T) {R:ak} {m:Nat} (hG:Good M T R m)
include hT hG
theorem unary_tail (i:Nat) (d:Int) (hi:i<T.length) (hm:16 * (T.length - i)+1<=m+1) (b:Bool) (hb:b=true->i+1<T.length):Res M T i (kj R T i d b):=by
  have hlen:=hT.len
  unfold kj
  cases b with
  |true=>
    have hi1:=hb rfl
    rw[if_pos rfl,br (by omega)]
    obtain⟨n,j,w,h,h2⟩:=(hG (i+1) (w64 (d+1)) hi1).2.2.1 (by omega)
    rw[h]
    simp only[Option.bind_some]
    rcases h2 with h2|⟨h2,j,rfl,hij,hjl,hok,hns⟩
    · rw[if_pos (by rw[decide_eq_true_eq];exact h2)]
      exact .bad h2
    · rw[if_neg (by rw[decide_eq_true_eq];omega),dk hi]
      simp only[Option.bind_some]
      have key:∀k:Int,Res M T i (km R T i j n k):=fun k=>by
        unfold km
        obtain⟨a,c,hmk⟩:=fb hT k hi hjl (by omega) [n]
        rw[hmk]
        simp only[Option.bind_some,ba]
        refine .ok (by decide) (by omega) hjl ?_ ?_
        · rw[okB_eq]
          exact⟨⟨by simp,by simp,by simp,by simp⟩,hok,trivial⟩
        · simp only[fu,cg]
          have:=fu n
          omega
      split
      · exact key 23
      · exact key 22
  |false=>
    rw[if_neg (by simp)]
    obtain⟨n,j,w,h,h2⟩:=(hG i (w64 (d+1)) hi).2.2.2.1 (by omega)
    rw[h]
    simp only[Option.bind_some]
    rcases h2 with h2|⟨h2,j,rfl,hij,hjl,hok,hns⟩
    · rw[if_pos (by rw[decide_eq_true_eq];exact h2)]
      exact .bad h2
    · rw [if_neg (by rw [decide_eq_true_eq]; omega)]
      obtain⟨o,ho,ho2⟩:=eo (f:=fun s:Int × ApiNode=>ki R T d i s.1 s.2) (fun s=>∃k:Nat,s.1=k/\i<k/\k<T.length/\okB M s.2/\di s.2+i<=k)
        (fun z => match z with | .next p => ∃ k : Nat, p.1 = k /\ i < k /\ k < T.length /\ okB M p.2 /\ di p.2 + i <= k | .done r => 0 <= r.2.2.Place) (fun s => T.length - s.1.toNat) (by
          rintro⟨_,x⟩ ⟨k,rfl,hik,hkl,hx,hxn⟩
          simp only at hx hxn
          simp only
          unfold ki
          rw[br (by omega),br (by omega),br (by omega)]
          obtain⟨b1,hb1,hb1'⟩:=cy hT k [46]
          rw[hb1]
          simp only[Option.bind_some]
          cases b1 with
          |false=>exact .inr ⟨_,rfl,k,rfl,hik,hkl,hx,hxn⟩
          |true=>
            rw[if_pos rfl]
            obtain⟨b2,hb2,hb2'⟩:=name_some hT (k+1)
            rw[hb2]
            simp only[Option.bind_some]
            cases b2 with
            |false=>
              simp only[Bool.not_false,if_true,ax,Option.bind_some]
              exact .inr ⟨_,rfl,by simp only;omega⟩
            |true=>
              have hk1:=hb1' rfl
              have hk2:=hb2' rfl
              simp only[Bool.not_true,Bool.false_eq_true,if_false]
              obtain⟨b3,hb3,hb3'⟩:=cy hT (k+1+1) [40]
              rw[hb3]
              simp only[Option.bind_some]
              have key:∀(q:Int) (j2:Nat) (l:List ApiNode),k<j2->j2<T.length->okBL M l->cg l+i+1<=j2->
                  (∃s',kl R T i k j2 q l=some (.inl s')/\(∃k:Nat,s'.1=k/\i<k/\k<T.length/\okB M s'.2/\di s'.2+i<=k)/\T.length - s'.1.toNat<T.length - k):=fun q j2 l g1 g2 g3 g4=>by
                unfold kl
                obtain⟨a,c,hmk⟩:=fb hT q hi g2 (by omega) l
                rw[hmk,br (by omega),dk hk1]
                simp only[Option.bind_some]
                refine⟨_,rfl,⟨j2,rfl,by omega,g2,?_,?_⟩,?_⟩
                · rw[okB_eq]
                  exact⟨⟨hT.txt _ hk1,by simp,by simp,by simp⟩,g3⟩
                · simp only[fu]
                  omega
                · simp only[Int.toNat_natCast]
                  omega
              cases b3 with
              |false=>
                simp only[Bool.false_eq_true,if_false]
                obtain⟨s',e1,e2,e3⟩:=key 18 (k+1+1) [x] (by omega) (by omega) ⟨hx,trivial⟩ (by simp only[cg];omega)
                exact .inl ⟨s',e1,e2,by simp only[Int.toNat_natCast];exact e3⟩
              |true=>
                have hk3:=hb3' rfl
                rw[if_pos rfl]
                obtain⟨l,j2,w2,h3,h4⟩:=(hG (k+1+1+1) (w64 (d+1)) hk3).2.2.2.2 (by omega)
                rw[h3]
                simp only[Option.bind_some]
                rcases h4 with h4|⟨h4,j2,rfl,hij2,hjl2,hok2,hns2⟩
                · rw[if_pos (by rw[decide_eq_true_eq];exact h4)]
                  exact .inr ⟨_,rfl,h4⟩
                · have hll:=ey l
                  rw[if_neg (by rw[decide_eq_true_eq];omega),app104 (by simp only[List.length_cons,List.length_nil];omega)]
                  simp only[Option.bind_some]
                  obtain⟨s',e1,e2,e3⟩:=key 20 j2 ([x]++l) (by omega) hjl2 ⟨hx,hok2⟩ (by simp only[List.cons_append,List.nil_append,cg];omega)
                  exact .inl ⟨s',e1,e2,by simp only[Int.toNat_natCast];exact e3⟩) ((j:Int),n) ⟨j,rfl,hij,hjl,hok,hns⟩
      rw[ho]
      simp only[Option.bind_some]
      cases o with
      |next p=>
        obtain⟨k,hk1,hk2,hk3,hk4,hk5⟩:=ho2
        simp only[ref12_unary_k5,ba,ref12_unary_j4,Option.bind_some,hk1]
        exact .ok (by decide) hk2 hk3 hk4 hk5
      |done r=>exact .bad ho2
theorem unary_good (i:Nat) (d:Int) (hi:i<T.length) (hm:16 * (T.length - i)+1<=m+1):Res M T i (F_ref12_unary R T i d):=by
 unfold F_ref12_unary
 by_cases hd:d>60
 ·rw[if_pos (by simp[hd])]
  exact .bad (by simp only;omega)
 ·rw[if_neg (by simpa using hd)]
  obtain⟨b,hb,hb'⟩:=cy hT i [33]
  rw[hb]
  simp only[Option.bind_some]
  cases b with
  |true=>exact unary_tail hT hG i d hi hm true hb'
  |false=>
   rw[if_neg (by simp)]
   obtain⟨b,hb,hb'⟩:=cy hT i [45]
   rw[hb]
   exact unary_tail hT hG i d hi hm b hb'
theorem arguments_good (i:Nat) (d:Int) (hi:i<T.length) (hm:16 * (T.length - i)+10<=m+1):ResL M T i (jj R T i d):=by
  have hlen:=hT.len
  unfold jj
  obtain⟨b,hb,hb'⟩:=cy hT i [41]
  rw[hb]
  simp only[Option.bind_some]
  cases b with
  |true=>
    rw[if_pos rfl,br (by omega)]
    simp only[ba,Option.bind_some]
    exact .ok (by decide) (by omega) (hb' rfl) trivial (by simp only[cg];omega)
  |false=>
    rw[if_neg (by simp)]
    obtain⟨o,ho,ho2⟩:=eo (f:=fun s:Int × List ApiNode=>gb R T d s.1 s.2) (fun s=>∃k:Nat,s.1=k/\i<=k/\k<T.length/\okBL M s.2/\cg s.2+i<=k)
      (fun r => ResL M T i (some r)) (fun s => T.length - s.1.toNat) (by
        rintro⟨_,l⟩ ⟨k,rfl,hik,hkl,hx,hxn⟩
        simp only at hx hxn
        simp only
        unfold gb
        obtain⟨y,j2,w2,h3,h4⟩:=(hG k d hkl).1 (by omega)
        rw[h3]
        simp only[Option.bind_some]
        rcases h4 with h4|⟨h4,j2,rfl,hij2,hjl2,hok2,hns2⟩
        · rw[if_pos (by rw[decide_eq_true_eq];exact h4)]
          exact .inr ⟨_,rfl,.bad h4⟩
        · have hll:=ey l
          rw[if_neg (by rw[decide_eq_true_eq];omega),app104 (by simp only[List.length_cons,List.length_nil];omega),br (by omega)]
          simp only[Option.bind_some]
          obtain⟨b1,hb1,hb1'⟩:=cy hT j2 [41]
          rw[hb1]
          simp only[Option.bind_some]
          have hokl:okBL M (l++[y]):=okBL_append hx ⟨hok2,trivial⟩
          have hnl:cg (l++[y])=cg l+di y:=by rw[nsizes_append];simp[cg]
          cases b1 with
          |true=>
            rw[if_pos rfl]
            simp only[ba,Option.bind_some]
            exact .inr ⟨_,rfl,.ok (by decide) (by omega) (hb1' rfl) hokl (by omega)⟩
          |false=>
            rw[if_neg (by simp)]
            obtain⟨b2,hb2,hb2'⟩:=cy hT j2 [44]
            rw[hb2]
            simp only[Option.bind_some]
            cases b2 with
            |false=>
              simp only[Bool.not_false,if_true,ax,Option.bind_some]
              exact .inr ⟨_,rfl,.bad (by simp only;omega)⟩
            |true=>
              simp only[Bool.not_true,Bool.false_eq_true,if_false]
              refine .inl ⟨_,rfl,⟨j2+1,rfl,by omega,hb2' rfl,hokl,by simp only;omega⟩,?_⟩
              simp only[Int.toNat_natCast]
              omega) ((i:Int),[]) ⟨i,rfl,Nat.le_refl _,hi,trivial,by simp[cg]⟩
    rw[ho]
    exact ho2
end
end Go.Proofs.YtgkcoicaopilhaaGreatDoor
set_option linter.unusedSectionVars false
set_option linter.unusedVariables false
set_option linter.unusedSimpArgs false
set_option maxHeartbeats 4000000
namespace Go.Proofs.YtgkcoicaopilhaaGreatDoor
open Go Go.Cn
section
variable {M:Nat} {T:List ApiToken} (hT:Toks M T)
include hT
theorem k6 (k:Int) (a b c d:Int) {t y:List UInt8} {n:Int} (ht:t.length<=M) (hy:y.length<=M) (hn: -9223372036854775808<=n/\n<=9223372036854775807) {l:List ApiNode} (hl:okBL M l):okB M ⟨k,t,y,n,a,b,c,d,l⟩:=by
 rw[okB_eq]
 exact⟨⟨ht,hy,hn⟩,hl⟩
theorem number_loop (R:ak) {i:Nat} (hi:i<T.length) (x:ApiNode) (hx: -9223372036854775808<=x.N/\x.N<=9223372036854775807) (hM:M<=1000000):
    ∃v,iter (fun s:Int × ApiNode=>gh R T i s.1 s.2) (0,x)=some {x with N:=v}/\ -9223372036854775808<=v/\v<=9223372036854775807:=by
  have ht:=hT.txt i hi
  obtain⟨o,h1,h2⟩:=eo (f:=fun s:Int × ApiNode=>gh R T i s.1 s.2) (fun s=>∃(k:Nat) (v:Int),s.1=k/\k<=T[i].Text.length/\s.2={x with N:=v}/\ -9223372036854775808<=v/\v<=9223372036854775807)
    (fun y=>∃v,y={x with N:=v}/\ -9223372036854775808<=v/\v<=9223372036854775807) (fun s=>T[i].Text.length - s.1.toNat) (by
      rintro⟨_,_⟩ ⟨k,v,rfl,hk,rfl,hv⟩
      simp only
      unfold gh
      rw[dk hi]
      simp only[Option.bind_some]
      by_cases hlt:k<T[i].Text.length
      · rw[if_pos (by simp[hlt]),idxS_nat hlt]
        simp only[Option.bind_some]
        refine .inl ⟨_,rfl,⟨k+1,_,br (by omega),hlt,rfl,w64_range _⟩,?_⟩
        rw[br (by omega)]
        omega
      · rw[if_neg (by simp;omega)]
        exact .inr ⟨_,rfl,v,rfl,hv⟩) (0,x) ⟨0,x.N,rfl,Nat.zero_le _,by cases x;rfl,hx⟩
  obtain⟨v,rfl,hv⟩:=h2
  exact⟨v,h1,hv⟩
theorem primary_good (hM:M<=1000000) {R:ak} {m:Nat} (hG:Good M T R m) (i:Nat) (d:Int) (hi:i<T.length) (hm:16 * (T.length - i)<=m+1):Res M T i (lz R T i d):=by
 have hlen:=hT.len
 unfold lz
 rw[dk hi,br (by omega),w64_n2 (by omega),w64_n3 (by omega),w64_n4 (by omega)]
 simp only[Option.bind_some]
 have z0:(-9223372036854775808:Int)<=0/\(0:Int)<=9223372036854775807:=by decide
 have z1:(-9223372036854775808:Int)<=1/\(1:Int)<=9223372036854775807:=by decide
 by_cases h2:T[i].Kind=2
 ·rw[if_pos (by simp[h2])]
  have hi1:i+1<T.length:=by
   have:=hT.last i hi
   rcases Nat.lt_or_ge (i+1) T.length with h|h
   ·exact h
   ·have:=this.2 (by omega)
    rw[h2]at this
    cases this
  obtain⟨a,c,hmk⟩:=fb hT 13 hi hi1 (by omega) []
  rw[hmk]
  simp only[Option.bind_some]
  obtain⟨v,hv,hv2⟩:=number_loop hT R hi ⟨13,[],[],0,a,c, -1, -1,[]⟩ z0 hM
  rw[hv]
  simp only[Option.bind_some,mx,ba,m9]
  rw[br (by omega)]
  exact .ok (by decide) (by omega) hi1 (k6 hT _ _ _ _ _ (by simp) (by simp) hv2 trivial) (by simp only[di,cg];omega)
 ·rw[if_neg (by simpa using h2)]
  obtain⟨b,hb,hb'⟩:=cy hT i [116,114,117,101]
  rw[hb]
  simp only[Option.bind_some]
  cases b with
  |true=>
   have hi1:=hb' rfl
   rw[if_pos rfl]
   obtain⟨a,c,hmk⟩:=fb hT 14 hi hi1 (by omega) []
   rw[hmk]
   simp only[Option.bind_some,ba,m8,br (show i<=9000000000 by omega)]
   exact .ok (by decide) (by omega) hi1 (k6 hT _ _ _ _ _ (by simp) (by simp) z1 trivial) (by simp only[di,cg];omega)
  |false=>
  rw[if_neg (by simp)]
  obtain⟨b,hb,hb'⟩:=cy hT i [102,97,108,115,101]
  rw[hb]
  simp only[Option.bind_some]
  cases b with
  |true=>
   have hi1:=hb' rfl
   rw[if_pos rfl]
   obtain⟨a,c,hmk⟩:=fb hT 14 hi hi1 (by omega) []
   rw[hmk]
   simp only[Option.bind_some,ba]
   exact .ok (by decide) (by omega) hi1 (k6 hT _ _ _ _ _ (by simp) (by simp) z0 trivial) (by simp only[di,cg];omega)
  |false=>
  rw[if_neg (by simp)]
  obtain⟨b,hb,hb'⟩:=cy hT i [110,117,108,108]
  rw[hb]
  simp only[Option.bind_some]
  cases b with
  |true=>
   have hi1:=hb' rfl
   rw[if_pos rfl]
   obtain⟨a,c,hmk⟩:=fb hT 15 hi hi1 (by omega) []
   rw[hmk]
   simp only[Option.bind_some,ba]
   exact .ok (by decide) (by omega) hi1 (k6 hT _ _ _ _ _ (by simp) (by simp) z0 trivial) (by simp only[di,cg];omega)
  |false=>
  rw[if_neg (by simp)]
  obtain⟨b,hb,hb'⟩:=cy hT i [116,104,105,115]
  rw[hb]
  simp only[Option.bind_some]
  cases b with
  |true=>
   have hi1:=hb' rfl
   rw[if_pos rfl]
   obtain⟨a,c,hmk⟩:=fb hT 16 hi hi1 (by omega) []
   rw[hmk]
   simp only[Option.bind_some,ba]
   exact .ok (by decide) (by omega) hi1 (k6 hT _ _ _ _ _ (by simp) (by simp) z0 trivial) (by simp only[di,cg];omega)
  |false=>
  rw[if_neg (by simp)]
  obtain⟨b,hb,hb'⟩:=cy hT i [110,101,119]
  rw[hb]
  simp only[Option.bind_some]
  cases b with
  |true=>
   have hi1:=hb' rfl
   rw[if_pos rfl]
   obtain⟨b1,hb1,hb1'⟩:=name_some hT (i+1)
   rw[hb1]
   simp only[Option.bind_some]
   cases b1 with
   |false=>
    simp only[Bool.not_false,if_true,ax,Option.bind_some]
    exact .bad (by simp only;omega)
   |true=>
   simp only[Bool.not_true,Bool.false_eq_true,if_false]
   obtain⟨b2,hb2,hb2'⟩:=cy hT (i+2) [40]
   rw[hb2]
   simp only[Option.bind_some]
   cases b2 with
   |false=>
    simp only[Bool.not_false,if_true,ax,Option.bind_some]
    exact .bad (by simp only;omega)
   |true=>
   simp only[Bool.not_true,Bool.false_eq_true,if_false]
   obtain⟨b3,hb3,hb3'⟩:=cy hT (i+3) [41]
   rw[hb3]
   simp only[Option.bind_some]
   cases b3 with
   |false=>
    simp only[Bool.not_false,if_true,ax,Option.bind_some]
    exact .bad (by simp only;omega)
   |true=>
   simp only[Bool.not_true,Bool.false_eq_true,if_false]
   have hi4:=hb3' rfl
   obtain⟨a,c,hmk⟩:=fb hT 21 hi hi4 (by omega) []
   rw[hmk,dk hi1]
   simp only[Option.bind_some,ba,m0,w64_n4 (show i<=9000000000 by omega)]
   exact .ok (by decide) (by omega) hi4 (k6 hT _ _ _ _ _ (hT.txt _ hi1) (by simp) z0 trivial) (by simp only[di,cg];omega)
  |false=>
  rw[if_neg (by simp)]
  obtain⟨b,hb,hb'⟩:=cy hT i [40]
  rw[hb]
  simp only[Option.bind_some]
  cases b with
  |true=>
   have hi1:=hb' rfl
   rw[if_pos rfl]
   obtain⟨n,j,w,h,h3⟩:=(hG (i+1) d hi1).1 (by omega)
   rw[h]
   simp only[Option.bind_some]
   rcases h3 with h3|⟨h3,j,rfl,hij,hjl,hok,hns⟩
   ·rw[if_pos (by rw[decide_eq_true_eq];exact h3)]
    exact .bad h3
   ·rw[if_neg (by rw[decide_eq_true_eq];omega)]
    obtain⟨b1,hb1,hb1'⟩:=cy hT j [41]
    rw[hb1]
    simp only[Option.bind_some]
    cases b1 with
    |false=>
     simp only[Bool.not_false,if_true,ax,Option.bind_some]
     exact .bad (by simp only;omega)
    |true=>
    simp only[Bool.not_true,Bool.false_eq_true,if_false,ba,Option.bind_some,mz,br (show j<=9000000000 by omega)]
    exact .ok (by decide) (by omega) (hb1' rfl) hok (by omega)
  |false=>
  rw[if_neg (by simp)]
  obtain⟨b,hb,hb'⟩:=name_some hT i
  rw[hb]
  simp only[Option.bind_some]
  cases b with
  |false=>
   rw[if_neg (by simp)]
   simp only[ax,Option.bind_some]
   exact .bad (by simp only;omega)
  |true=>
  have hi1:=hb' rfl
  rw[if_pos rfl]
  obtain⟨a,c,hmk⟩:=fb hT 17 hi hi1 (by omega) []
  rw[hmk]
  simp only[Option.bind_some]
  obtain⟨b1,hb1,hb1'⟩:=cy hT (i+1) [40]
  rw[hb1]
  simp only[Option.bind_some]
  cases b1 with
  |false=>
   simp only[Bool.not_false,if_true,ba,Option.bind_some,my,br (show i<=9000000000 by omega)]
   exact .ok (by decide) (by omega) hi1 (k6 hT _ _ _ _ _ (hT.txt _ hi) (by simp) z0 trivial) (by simp only[di,cg];omega)
  |true=>
  have hi2:=hb1' rfl
  simp only[Bool.not_true,Bool.false_eq_true,if_false]
  obtain⟨l,j,w,h,h3⟩:=(hG (i+1+1) d hi2).2.2.2.2 (by omega)
  have h:R.2.2.2.2 T ((i+2:Nat):Int) d=some (l,j,w):=h
  rw[h]
  simp only[Option.bind_some]
  rcases h3 with h3|⟨h3,j,rfl,hij,hjl,hok,hns⟩
  ·rw[if_pos (by rw[decide_eq_true_eq];exact h3)]
   exact .bad h3
  ·rw[if_neg (by rw[decide_eq_true_eq];omega)]
   obtain⟨e,he⟩:=end_some hT hjl (by omega)
   rw[he]
   simp only[Option.bind_some,ba,mb]
   exact .ok (by decide) (by omega) hjl (k6 hT _ _ _ _ _ (hT.txt _ hi) (by simp) z0 hok) (by simp only[di];omega)
theorem good_at (hM:M<=1000000):∀(m n:Nat),m<n->Good M T (dm n) m:=by
 intro m
 induction m with
 |zero=>
  intro n hn i d hi
  refine⟨fun h=>absurd h (by omega),fun l h1 h7 h=>absurd h (by omega),fun h=>absurd h (by omega),fun h=>absurd h (by omega),fun h=>absurd h (by omega)⟩
 |succ m ih=>
  intro n hn i d hi
  obtain⟨n,rfl⟩:∃k,n=k+1:=⟨n - 1,by omega⟩
  have hG:=ih n (by omega)
  exact⟨fun h=>expression_good hT hG i d hi h,fun l h1 h7 h=>level_good hT hG i d hi l h1 h7 h,fun h=>unary_good hT hG i d hi h,fun h=>primary_good hT hM hG i d hi h,fun h=>arguments_good hT hG i d hi h⟩
theorem mv (hM:M<=1000000) (i:Nat) (d:Int) (hi:i<T.length):Res M T i (ff T i d):=by
 have:=hT.len
 exact(good_at hT hM 1000000 1048576 (by omega) i d hi).1 (by omega)
theorem bracketed_res (hM:M<=1000000) (i:Nat) (d:Int):Res M T i (jd T i d):=by
 have hlen:=hT.len
 unfold jd
 obtain⟨b,hb,hb'⟩:=cy hT i [40]
 rw[hb]
 simp only[Option.bind_some]
 cases b with
 |false=>
  simp only[Bool.not_false,if_true,ax,Option.bind_some]
  exact .bad (by simp only;omega)
 |true=>
 have hi1:=hb' rfl
 simp only[Bool.not_true,Bool.false_eq_true,if_false]
 rw[br (by omega)]
 obtain⟨n,j,w,h,h3⟩:=mv hT hM (i+1) d hi1
 rw[h]
 simp only[Option.bind_some]
 rcases h3 with h3|⟨h3,j,rfl,hij,hjl,hok,hns⟩
 ·rw[if_pos (by rw[decide_eq_true_eq];exact h3)]
  exact .bad h3
 ·rw[if_neg (by rw[decide_eq_true_eq];omega)]
  obtain⟨b1,hb1,hb1'⟩:=cy hT j [41]
  rw[hb1]
  simp only[Option.bind_some]
  cases b1 with
  |false=>
   simp only[Bool.not_false,if_true,ax,Option.bind_some]
   exact .bad (by simp only;omega)
  |true=>
  simp only[Bool.not_true,Bool.false_eq_true,if_false,ba,Option.bind_some,k8,br (show j<=9000000000 by omega)]
  exact .ok (by decide) (by omega) (hb1' rfl) hok (by omega)
theorem typed_some {i:Nat} (hi:i+1<T.length) (x:ApiNode):∃a b,ne T x i=some {{{{x with Type_:=T[i].Text} with TypeAt:=a} with Text:=T[i+1].Text} with At:=b}:=by
 have hlen:=hT.len
 unfold ne
 rw[br (by omega),dk (show i<T.length by omega),dk hi]
 exact⟨_,_,rfl⟩
theorem locals_res (hM:M<=1000000) (i:Nat) (d:Int) (hi:i<T.length):Res M T i (nu T i d):=by
 have hlen:=hT.len
 unfold nu
 rw[br (by omega),w64_n2 (by omega),w64_n3 (by omega)]
 obtain⟨b,hb,hb'⟩:=cy hT i [118,111,105,100]
 rw[hb]
 simp only[Option.bind_some]
 cases b with
 |true=>
  rw[if_pos rfl]
  simp only[ax,Option.bind_some]
  exact .bad (by simp only;omega)
 |false=>
 rw[if_neg (by simp)]
 obtain⟨b1,hb1,hb1'⟩:=name_some hT (i+1)
 rw[hb1]
 simp only[Option.bind_some]
 cases b1 with
 |false=>
  simp only[Bool.not_false,if_true,ax,Option.bind_some]
  exact .bad (by simp only;omega)
 |true=>
 have hi2:=hb1' rfl
 simp only[Bool.not_true,Bool.false_eq_true,if_false]
 obtain⟨b2,hb2,hb2'⟩:=cy hT (i+2) [61]
 rw[hb2]
 simp only[Option.bind_some]
 cases b2 with
 |false=>
  simp only[Bool.not_false,if_true,ax,Option.bind_some]
  exact .bad (by simp only;omega)
 |true=>
 have hi3:=hb2' rfl
 simp only[Bool.not_true,Bool.false_eq_true,if_false]
 obtain⟨n,j,w,h,h3⟩:=mv hT hM (i+3) (w64 (d+1)) hi3
 rw[h]
 simp only[Option.bind_some]
 rcases h3 with h3|⟨h3,j,rfl,hij,hjl,hok,hns⟩
 ·rw[if_pos (by rw[decide_eq_true_eq];exact h3)]
  exact .bad h3
 ·rw[if_neg (by rw[decide_eq_true_eq];omega)]
  obtain⟨b3,hb3,hb3'⟩:=cy hT j [59]
  rw[hb3]
  simp only[Option.bind_some]
  cases b3 with
  |false=>
   simp only[Bool.not_false,if_true,ax,Option.bind_some]
   exact .bad (by simp only;omega)
  |true=>
  simp only[Bool.not_true,Bool.false_eq_true,if_false,br (show j<=9000000000 by omega)]
  obtain⟨a,c,hmk⟩:=fb hT 6 hi (hb3' rfl) (by omega) [n]
  obtain⟨a2,c2,htp⟩:=typed_some hT (show i+1<T.length by omega) ⟨6,[],[],0,a,c, -1, -1,[n]⟩
  rw[hmk]
  simp only[Option.bind_some]
  rw[htp]
  simp only[Option.bind_some,ba]
  exact .ok (by decide) (by omega) (hb3' rfl) (k6 hT _ _ _ _ _ (hT.txt _ _) (hT.txt _ _) (by decide) ⟨hok,trivial⟩) (by simp only[di,cg];omega)
theorem simple_res (hM:M<=1000000) (i:Nat) (d:Int) (hi:i+1<T.length):Res M T i (ref12_simple T i d):=by
 have hlen:=hT.len
 unfold ref12_simple
 rw[br (by omega),w64_n2 (by omega)]
 have fin:∀(k:Int) (j:Nat) (n:ApiNode),i<j->j<T.length->okB M n->di n+i<=j->Res M T i ((bw T j [59]).bind fun x14=>(if(!x14)=true then(ax j).bind fun x16=>some ((ApiNode.mk 0 [] [] 0 0 0 0 0 []),0,x16)else(c7 T k i (w64 ((j:Int)+1)) ([n]:List ApiNode)).bind fun x17=>(ba).bind fun x18=>some (x17,w64 ((j:Int)+1),x18))):=fun k j n g1 g2 g3 g4=>by
  obtain⟨b3,hb3,hb3'⟩:=cy hT j [59]
  rw[hb3]
  simp only[Option.bind_some]
  cases b3 with
  |false=>
   simp only[Bool.not_false,if_true,ax,Option.bind_some]
   exact .bad (by simp only;omega)
  |true=>
  simp only[Bool.not_true,Bool.false_eq_true,if_false,br (show j<=9000000000 by omega)]
  obtain⟨a,c,hmk⟩:=fb hT k (show i<T.length by omega) (hb3' rfl) (by omega) [n]
  rw[hmk]
  simp only[Option.bind_some,ba]
  exact .ok (by decide) (by omega) (hb3' rfl) (k6 hT _ _ _ _ _ (by simp) (by simp) (by decide) ⟨g3,trivial⟩) (by simp only[di,cg];omega)
 obtain⟨b,hb,hb'⟩:=cy hT i [112,114,105,110,116]
 rw[hb]
 simp only[Option.bind_some]
 cases b with
 |true=>
  rw[if_pos rfl]
  obtain⟨n,j,w,h,h3⟩:=bracketed_res hT hM (i+1) (w64 (d+1))
  rw[h]
  simp only[Option.bind_some]
  rcases h3 with h3|⟨h3,j,rfl,hij,hjl,hok,hns⟩
  ·rw[if_pos (by rw[decide_eq_true_eq];exact h3)]
   exact .bad h3
  ·rw[if_neg (by rw[decide_eq_true_eq];omega)]
   exact fin 12 j n (by omega) hjl hok (by omega)
 |false=>
 rw[if_neg (by simp)]
 obtain⟨b,hb,hb'⟩:=cy hT (i+1) [59]
 rw[hb]
 simp only[Option.bind_some]
 cases b with
 |true=>
  rw[if_pos rfl]
  obtain⟨a,c,hmk⟩:=fb hT 11 (show i<T.length by omega) (hb' rfl) (by omega) []
  have hmk:c7 T 11 i ((i+2:Nat):Int) []=_:=hmk
  rw[hmk]
  simp only[Option.bind_some,ba]
  exact .ok (by decide) (by omega) (hb' rfl) (k6 hT _ _ _ _ _ (by simp) (by simp) (by decide) trivial) (by simp only[di,cg];omega)
 |false=>
 rw[if_neg (by simp)]
 obtain⟨n,j,w,h,h3⟩:=mv hT hM (i+1) (w64 (d+1)) hi
 rw[h]
 simp only[Option.bind_some]
 rcases h3 with h3|⟨h3,j,rfl,hij,hjl,hok,hns⟩
 ·rw[if_pos (by rw[decide_eq_true_eq];exact h3)]
  exact .bad h3
 ·rw[if_neg (by rw[decide_eq_true_eq];omega)]
  exact fin 11 j n (by omega) hjl hok (by omega)
theorem local_some (i:Nat) (hi:i<T.length):∃b,ref12_local T i=some b:=by
 have hlen:=hT.len
 unfold ref12_local gp
 rw[br (by omega)]
 obtain⟨b1,h1,_⟩:=cy hT i [105,110,116]
 obtain⟨b2,h2,_⟩:=cy hT i [98,111,111,108,101,97,110]
 obtain⟨b3,h3,_⟩:=cy hT i [118,111,105,100]
 obtain⟨b4,h4,_⟩:=name_some hT i
 obtain⟨b5,h5,_⟩:=name_some hT (i+1)
 rw[h1,h2,h3,h4,h5]
 simp only[Option.bind_some]
 cases b1<;>cases b2<;>cases b3<;>cases b4<;>exact⟨_,rfl⟩
theorem kind_some (i:Nat):∃b,ref12_kind T i=some b/\(b=true->i+1<T.length):=by
 unfold ref12_kind jx
 obtain⟨b0,h0,g0⟩:=name_some hT i
 obtain⟨b1,h1,g1⟩:=cy hT i [105,110,116]
 obtain⟨b2,h2,g2⟩:=cy hT i [98,111,111,108,101,97,110]
 obtain⟨b3,h3,g3⟩:=cy hT i [118,111,105,100]
 rw[h0,h1,h2,h3]
 simp only[Option.bind_some]
 cases b0
 ·cases b1
  ·cases b2
   ·exact⟨b3,rfl,g3⟩
   ·exact⟨true,rfl,fun _=>g2 rfl⟩
  ·exact⟨true,rfl,fun _=>g1 rfl⟩
 ·exact⟨true,rfl,fun _=>g0 rfl⟩
end
end Go.Proofs.YtgkcoicaopilhaaGreatDoor
set_option linter.unusedSectionVars false
set_option linter.unusedVariables false
set_option linter.unusedSimpArgs false
set_option maxHeartbeats 4000000
namespace Go.Proofs.YtgkcoicaopilhaaGreatDoor
open Go Go.Cn
def GoodS (M:Nat) (T:List ApiToken) (R:av) (m:Nat):Prop:=∀(i:Nat) (d:Int),i<T.length->
 (4 * (T.length - i)+1<=m->Res M T i (R.1 T i d))/\
 (4 * (T.length - i)<=m->Res M T i (R.2.1 T i d))/\
 (4 * (T.length - i)<=m->Res M T i (R.2.2 T i d))
theorem Res.pass {M:Nat} {T:List ApiToken} {i:Nat} {r:Option (ApiNode × Int × Ref12Wrong)} (h:Res M T i r):Res M T i (r.bind fun(x9,x10,x11)=>some (x9,x10,x11)):=by
 obtain⟨n,j,w,rfl,h⟩:=h
 exact⟨n,j,w,rfl,h⟩
section
variable {M:Nat} {T:List ApiToken} (hT:Toks M T) (hM:M<=1000000)
include hT hM
theorem statement_j2_res (R:av) {i j:Nat} (k:Int) {l:List ApiNode} (g1:i<j) (g2:j<T.length) (g3:okBL M l) (g4:cg l+i<=j):Res M T i (ga R T i j k l):=by
 have hlen:=hT.len
 unfold ga
 obtain⟨b3,hb3,hb3'⟩:=cy hT j [59]
 rw[hb3]
 simp only[Option.bind_some]
 cases b3 with
 |false=>
  simp only[Bool.not_false,if_true,ax,Option.bind_some]
  exact .bad (by simp only;omega)
 |true=>
 simp only[Bool.not_true,Bool.false_eq_true,if_false,br (show j<=9000000000 by omega)]
 obtain⟨a,c,hmk⟩:=fb hT k (show i<T.length by omega) (hb3' rfl) (by omega) l
 rw[hmk]
 simp only[Option.bind_some,ba]
 exact .ok (by decide) (by omega) (hb3' rfl) (k6 hT _ _ _ _ _ (by simp) (by simp) (by decide) g3) (by simp only[di];omega)
theorem statement_j4_res (R:av) {i:Nat} (d:Int) (hi:i<T.length) (b:Bool) (hb:b=true->i+1<T.length):Res M T i (f9 R T i d b):=by
 have hlen:=hT.len
 unfold f9
 cases b with
 |true=>
  rw[if_pos rfl]
  exact(simple_res hT hM i d (hb rfl)).pass
 |false=>
 rw[if_neg (by simp)]
 obtain⟨n,j,w,h,h3⟩:=mv hT hM i (w64 (d+1)) hi
 rw[h]
 simp only[Option.bind_some]
 rcases h3 with h3|⟨h3,j,rfl,hij,hjl,hok,hns⟩
 ·rw[if_pos (by rw[decide_eq_true_eq];exact h3)]
  exact .bad h3
 ·rw[if_neg (by rw[decide_eq_true_eq];omega)]
  obtain⟨b1,hb1,hb1'⟩:=cy hT j [61]
  rw[hb1]
  simp only[Option.bind_some]
  cases b1 with
  |false=>
   rw[if_neg (by simp)]
   exact statement_j2_res hT hM R 8 hij hjl ⟨hok,trivial⟩ (by simp only[cg];omega)
  |true=>
  rw[if_pos rfl,br (by omega)]
  obtain⟨y,j2,w2,h4,h5⟩:=mv hT hM (j+1) (w64 (d+1)) (hb1' rfl)
  rw[h4]
  simp only[Option.bind_some]
  rcases h5 with h5|⟨h5,j2,rfl,hij2,hjl2,hok2,hns2⟩
  ·rw[if_pos (by rw[decide_eq_true_eq];exact h5)]
   exact .bad h5
  ·rw[if_neg (by rw[decide_eq_true_eq];omega),app104 (by simp)]
   exact statement_j2_res hT hM R 7 (by omega) hjl2 ⟨hok,hok2,trivial⟩ (by simp only[List.cons_append,List.nil_append,cg];omega)
section
variable {R:av} {m:Nat} (hG:GoodS M T R m)
include hG
theorem statement_j5_res {i:Nat} (d:Int) (hi:i<T.length) (hm:4 * (T.length - i)+1<=m+1) (b:Bool):Res M T i (f8 R T i d b):=by
 unfold f8
 cases b with
 |true=>
  rw[if_pos rfl]
  exact((hG i d hi).2.2 (by omega)).pass
 |false=>
 rw[if_neg (by simp)]
 obtain⟨b1,hb1,hb1'⟩:=cy hT i [114,101,116,117,114,110]
 rw[hb1]
 simp only[Option.bind_some]
 cases b1 with
 |true=>exact statement_j4_res hT hM R d hi true hb1'
 |false=>
 rw[if_neg (by simp)]
 obtain⟨b2,hb2,hb2'⟩:=cy hT i [112,114,105,110,116]
 rw[hb2]
 exact statement_j4_res hT hM R d hi b2 hb2'
theorem statement_good (i:Nat) (d:Int) (hi:i<T.length) (hm:4 * (T.length - i)+1<=m+1):Res M T i (ji R T i d):=by
 unfold ji
 by_cases hd:d>60
 ·rw[if_pos (by simp[hd])]
  exact .bad (by simp only;omega)
 ·rw[if_neg (by simpa using hd)]
  obtain⟨b1,hb1,_⟩:=cy hT i [123]
  rw[hb1]
  simp only[Option.bind_some]
  cases b1 with
  |true=>
   rw[if_pos rfl]
   exact((hG i d hi).2.1 (by omega)).pass
  |false=>
  rw[if_neg (by simp)]
  obtain⟨b2,hb2,_⟩:=cy hT i [105,102]
  rw[hb2]
  simp only[Option.bind_some]
  cases b2 with
  |true=>exact statement_j5_res hT hM hG d hi hm true
  |false=>
  rw[if_neg (by simp)]
  obtain⟨b3,hb3,_⟩:=cy hT i [119,104,105,108,101]
  rw[hb3]
  exact statement_j5_res hT hM hG d hi hm b3
theorem guarded_good (i:Nat) (d:Int) (hi:i<T.length) (hm:4 * (T.length - i)<=m+1):Res M T i (l0 R T i d):=by
 have hlen:=hT.len
 unfold l0
 rw[br (by omega)]
 obtain⟨x,j1,w1,h1,g1⟩:=bracketed_res hT hM (i+1) (w64 (d+1))
 rw[h1]
 simp only[Option.bind_some]
 rcases g1 with g1|⟨g1,j1,rfl,hij1,hjl1,hok1,hns1⟩
 ·rw[if_pos (by rw[decide_eq_true_eq];exact g1)]
  exact .bad g1
 rw[if_neg (by rw[decide_eq_true_eq];omega)]
 obtain⟨y,j2,w2,h2,g2⟩:=(hG j1 (w64 (d+1)) hjl1).1 (by omega)
 rw[h2]
 simp only[Option.bind_some]
 rcases g2 with g2|⟨g2,j2,rfl,hij2,hjl2,hok2,hns2⟩
 ·rw[if_pos (by rw[decide_eq_true_eq];exact g2)]
  exact .bad g2
 rw[if_neg (by rw[decide_eq_true_eq];omega)]
 obtain⟨b1,hb1,_⟩:=cy hT i [119,104,105,108,101]
 rw[hb1]
 simp only[Option.bind_some]
 cases b1 with
 |true=>
  rw[if_pos rfl]
  obtain⟨a,c,hmk⟩:=fb hT 10 hi hjl2 (by omega) [x,y]
  rw[hmk]
  simp only[Option.bind_some,ba]
  exact .ok (by decide) (by omega) hjl2 (k6 hT _ _ _ _ _ (by simp) (by simp) (by decide) ⟨hok1,hok2,trivial⟩) (by simp only[di,cg];omega)
 |false=>
 rw[if_neg (by simp)]
 have fin:∀(j:Nat) (l:List ApiNode),i<j->j<T.length->okBL M l->1+cg l+i<=j->Res M T i (il R T i j l):=fun j l e1 e2 e3 e4=>by
  unfold il
  obtain⟨a,c,hmk⟩:=fb hT 9 hi e2 (by omega) l
  rw[hmk]
  simp only[Option.bind_some,ba]
  exact .ok (by decide) e1 e2 (k6 hT _ _ _ _ _ (by simp) (by simp) (by decide) e3) (by simp only[di];omega)
 obtain⟨b2,hb2,hb2'⟩:=cy hT j2 [101,108,115,101]
 rw[hb2]
 simp only[Option.bind_some]
 cases b2 with
 |false=>
  rw[if_neg (by simp)]
  exact fin j2 _ (by omega) hjl2 ⟨hok1,hok2,trivial⟩ (by simp only[cg];omega)
 |true=>
 rw[if_pos rfl,br (by omega)]
 obtain⟨z,j3,w3,h3,g3⟩:=(hG (j2+1) (w64 (d+1)) (hb2' rfl)).1 (by omega)
 rw[h3]
 simp only[Option.bind_some]
 rcases g3 with g3|⟨g3,j3,rfl,hij3,hjl3,hok3,hns3⟩
 ·rw[if_pos (by rw[decide_eq_true_eq];exact g3)]
  exact .bad g3
 rw[if_neg (by rw[decide_eq_true_eq];omega),app104 (by simp)]
 exact fin j3 _ (by omega) hjl3 ⟨hok1,hok2,hok3,trivial⟩ (by simp only[List.cons_append,List.nil_append,cg];omega)
theorem block_good (i:Nat) (d:Int) (hi:i<T.length) (hm:4 * (T.length - i)<=m+1):Res M T i (F_ref12_block R T i d):=by
  have hlen:=hT.len
  unfold F_ref12_block
  obtain⟨b1,hb1,hb1'⟩:=cy hT i [123]
  rw[hb1]
  simp only[Option.bind_some]
  cases b1 with
  |false=>
    simp only[Bool.not_false,if_true,ax,Option.bind_some]
    exact .bad (by simp only;omega)
  |true=>
  have hi1:=hb1' rfl
  simp only[Bool.not_true,Bool.false_eq_true,if_false,br (show i<=9000000000 by omega)]
  obtain⟨o,ho,ho2⟩:=eo (f:=fun s:Int × List ApiNode=>ko R T d s.1 s.2) (fun s=>∃k:Nat,s.1=k/\i<k/\k<T.length/\okBL M s.2/\cg s.2+i+1<=k)
    (fun z=>match z with| .next p=>∃k:Nat,p.1=k/\i<k/\k+1<T.length/\okBL M p.2/\cg p.2+i+1<=k| .done r=>0<=r.2.2.Place) (fun s=>T.length - s.1.toNat) (by
      rintro⟨_,l⟩ ⟨k,rfl,hik,hkl,hx,hxn⟩
      simp only at hx hxn
      simp only
      unfold ko
      obtain⟨b2,hb2,hb2'⟩:=cy hT k [125]
      rw[hb2]
      simp only[Option.bind_some]
      cases b2 with
      |true=>exact .inr ⟨_,rfl,k,rfl,hik,hb2' rfl,hx,hxn⟩
      |false=>
      simp only[Bool.not_false,if_true]
      have fin:∀(n:ApiNode) (j:Int) (w:Ref12Wrong),(0<=w.Place\/(w.Place<0/\∃j':Nat,j=(j':Int)/\k<j'/\j'<T.length/\okB M n/\di n+k<=j'))->
          (∃s',gq R l j n w=some (.inl s')/\(∃k:Nat,s'.1=k/\i<k/\k<T.length/\okBL M s'.2/\cg s'.2+i+1<=k)/\T.length - s'.1.toNat<T.length - ((k:Int),l).1.toNat)\/(∃z,gq R l j n w=some (.inr z)/\(match z with| .next p=>∃k:Nat,p.1=k/\i<k/\k+1<T.length/\okBL M p.2/\cg p.2+i+1<=k| .done r=>0<=r.2.2.Place)):=fun n j w g=>by
        unfold gq ref12_block_j3
        rcases g with g|⟨g,j,rfl,hij2,hjl2,hok2,hns2⟩
        · rw[if_pos (by rw[decide_eq_true_eq];exact g)]
          exact .inr ⟨_,rfl,g⟩
        · have hll:=ey l
          have hnl:cg (l++[n])=cg l+di n:=by rw[nsizes_append];simp[cg]
          rw[if_neg (by rw[decide_eq_true_eq];omega),app104 (by simp only[List.length_cons,List.length_nil];omega)]
          simp only[Option.bind_some]
          refine .inl ⟨_,rfl,⟨j,rfl,by omega,hjl2,okBL_append hx ⟨hok2,trivial⟩,by simp only;omega⟩,?_⟩
          simp only[Int.toNat_natCast]
          omega
      obtain⟨b3,hb3⟩:=local_some hT k hkl
      rw[hb3]
      simp only[Option.bind_some]
      cases b3 with
      |true=>
        rw[if_pos rfl]
        obtain⟨n,j,w,h,g⟩:=locals_res hT hM k (w64 (d+1)) hkl
        rw[h]
        simp only[Option.bind_some]
        split
        · exact fin n j _ (.inl (by simp only;omega))
        · exact fin n j w g
      |false=>
        rw[if_neg (by simp)]
        obtain⟨n,j,w,h,g⟩:=(hG k (w64 (d+1)) hkl).1 (by omega)
        rw[h]
        exact fin n j w g) (((i+1:Nat):Int),[]) ⟨i+1,rfl,by omega,hi1,trivial,by simp[cg]⟩
  rw[ho]
  simp only[Option.bind_some]
  cases o with
  |next p=>
    obtain⟨k,hk1,hk2,hk3,hk4,hk5⟩:=ho2
    obtain⟨a,c,hmk⟩:=fb hT 5 hi hk3 (by omega) p.2
    simp only[ref12_block_k1,hk1,br (show k<=9000000000 by omega)]
    rw[hmk]
    simp only[Option.bind_some,ba]
    exact .ok (by decide) (by omega) hk3 (k6 hT _ _ _ _ _ (by simp) (by simp) (by decide) hk4) (by simp only[di];omega)
  |done r=>exact .bad ho2
end
theorem goodS_at :∀(m n:Nat),m<n->GoodS M T (d4 n) m:=by
 intro m
 induction m with
 |zero=>
  intro n hn i d hi
  refine⟨fun h=>absurd h (by omega),fun h=>absurd h (by omega),fun h=>absurd h (by omega)⟩
 |succ m ih=>
  intro n hn i d hi
  obtain⟨n,rfl⟩:∃k,n=k+1:=⟨n - 1,by omega⟩
  have hG:=ih n (by omega)
  exact⟨fun h=>statement_good hT hM hG i d hi h,fun h=>block_good hT hM hG i d hi h,fun h=>guarded_good hT hM hG i d hi h⟩
theorem block_res (i:Nat) (d:Int) (hi:i<T.length):Res M T i (ref12_block T i d):=by
 have:=hT.len
 exact(goodS_at hT hM 1000000 1048576 (by omega) i d hi).2.1 (by omega)
theorem params_res (i:Nat) (hi:i<T.length):ResL M T i (ref12_params T i):=by
  have hlen:=hT.len
  unfold ref12_params
  obtain⟨b,hb,hb'⟩:=cy hT i [41]
  rw[hb]
  simp only[Option.bind_some]
  cases b with
  |true=>
    rw[if_pos rfl,br (by omega)]
    simp only[ba,Option.bind_some]
    exact .ok (by decide) (by omega) (hb' rfl) trivial (by simp only[cg];omega)
  |false=>
    rw[if_neg (by simp)]
    obtain⟨o,ho,ho2⟩:=eo (f:=fun s:Int × List ApiNode=>ja T s.1 s.2) (fun s=>∃k:Nat,s.1=k/\i<=k/\k<T.length/\okBL M s.2/\cg s.2+i<=k)
      (fun r=>ResL M T i (some r)) (fun s=>T.length - s.1.toNat) (by
        rintro⟨_,l⟩ ⟨k,rfl,hik,hkl,hx,hxn⟩
        simp only at hx hxn
        simp only
        have key:∀b:Bool,(∃s',ic k T l b=some (.inl s')/\(∃k:Nat,s'.1=k/\i<=k/\k<T.length/\okBL M s'.2/\cg s'.2+i<=k)/\T.length - s'.1.toNat<T.length - ((k:Int),l).1.toNat)\/(∃r,ic k T l b=some (.inr r)/\ResL M T i (some r)):=fun b=>by
          unfold ic
          rw[br (by omega),w64_n2 (by omega),w64_n3 (by omega)]
          cases b with
          |true=>
            rw[if_pos rfl]
            simp only[ax,Option.bind_some]
            exact .inr ⟨_,rfl,.bad (by simp only;omega)⟩
          |false=>
          rw[if_neg (by simp)]
          obtain⟨b1,hb1,hb1'⟩:=name_some hT (k+1)
          rw[hb1]
          simp only[Option.bind_some]
          cases b1 with
          |false=>
            simp only[Bool.not_false,if_true,ax,Option.bind_some]
            exact .inr ⟨_,rfl,.bad (by simp only;omega)⟩
          |true=>
          have hk2:=hb1' rfl
          simp only[Bool.not_true,Bool.false_eq_true,if_false]
          obtain⟨a,c,hmk⟩:=fb hT 4 hkl hk2 (by omega) []
          have hmk:c7 T 4 k ((k+2:Nat):Int) []=_:=hmk
          obtain⟨a2,c2,htp⟩:=typed_some hT (show k+1<T.length by omega) ⟨4,[],[],0,a,c, -1, -1,[]⟩
          rw[hmk]
          simp only[Option.bind_some]
          rw[htp]
          simp only[Option.bind_some]
          have hll:=ey l
          rw[app104 (by simp only[List.length_cons,List.length_nil];omega)]
          simp only[Option.bind_some]
          have hokn:∀x:ApiNode,okB M x->okBL M (l++[x]):=fun x hx2=>okBL_append hx ⟨hx2,trivial⟩
          have hok2:=hokn _ (k6 hT 4 a c c2 a2 (n:=0) (l:=[]) (hT.txt (k+1) (by omega)) (hT.txt k (by omega)) (by decide) trivial)
          have hnl:∀x:ApiNode,di x=1->cg (l++[x])=cg l+1:=fun x h=>by rw[nsizes_append];simp[cg,h]
          obtain⟨b2,hb2,hb2'⟩:=cy hT (k+2) [41]
          rw[hb2]
          simp only[Option.bind_some]
          cases b2 with
          |true=>
            rw[if_pos rfl]
            simp only[ba,Option.bind_some]
            exact .inr ⟨_,rfl,.ok (by decide) (by omega) (hb2' rfl) hok2 (by rw[hnl _ (by simp[di,cg])];omega)⟩
          |false=>
          rw[if_neg (by simp)]
          obtain⟨b3,hb3,hb3'⟩:=cy hT (k+2) [44]
          rw[hb3]
          simp only[Option.bind_some]
          cases b3 with
          |false=>
            simp only[Bool.not_false,if_true,ax,Option.bind_some]
            exact .inr ⟨_,rfl,.bad (by simp only;omega)⟩
          |true=>
          simp only[Bool.not_true,Bool.false_eq_true,if_false]
          refine .inl ⟨_,rfl,⟨k+3,rfl,by omega,hb3' rfl,hok2,by simp only;rw[hnl _ (by simp[di,cg])];omega⟩,?_⟩
          simp only[Int.toNat_natCast]
          omega
        unfold ja
        obtain⟨b0,hb0,_⟩:=kind_some hT k
        rw[hb0]
        simp only[Option.bind_some]
        cases b0 with
        |false=>
          simp only[Bool.not_false,if_true]
          exact key true
        |true=>
        simp only[Bool.not_true,Bool.false_eq_true,if_false]
        obtain⟨b1,hb1,_⟩:=cy hT k [118,111,105,100]
        rw[hb1]
        exact key b1) ((i:Int),[]) ⟨i,rfl,Nat.le_refl _,hi,trivial,by simp[cg]⟩
    rw[ho]
    exact ho2
theorem member_j3_res {i at_ j:Nat} (s:Bool) (k:Int) {l:List ApiNode} (hi:i<T.length) (ha:at_+1<T.length) (g1:i<j) (g2:j<T.length) (g3:okBL M l) (g4:1+cg l+i<=j):Res M T i (jc T i at_ s j k l):=by
 unfold jc
 obtain⟨a,c,hmk⟩:=fb hT k hi g2 (by omega) l
 obtain⟨a2,c2,htp⟩:=typed_some hT ha ⟨k,[],[],0,a,c, -1, -1,l⟩
 rw[hmk]
 simp only[Option.bind_some]
 rw[htp]
 simp only[Option.bind_some,lp,ba,ref12_member_j1]
 split
 ·exact .ok (by decide) g1 g2 (k6 hT _ _ _ _ _ (hT.txt _ _) (hT.txt _ _) (by decide) g3) (by simp only[di];omega)
 ·exact .ok (by decide) g1 g2 (k6 hT _ _ _ _ _ (hT.txt _ _) (hT.txt _ _) (by decide) g3) (by simp only[di];omega)
theorem member_j6_res {i a:Nat} (s:Bool) (hi:i<T.length) (hia:i<=a) (ha:a<T.length):Res M T i (jb T i s a):=by
 have hlen:=hT.len
 unfold jb
 have e3:w64 (((a+2:Nat):Int)+1)=((a+3:Nat):Int):=by rw[br (by omega)]
 rw[br (show a<=9000000000 by omega),w64_n2 (by omega),e3]
 obtain⟨b0,hb0,_⟩:=kind_some hT a
 rw[hb0]
 simp only[Option.bind_some]
 cases b0 with
 |false=>
  simp only[Bool.not_false,if_true,ax,Option.bind_some]
  exact .bad (by simp only;omega)
 |true=>
 simp only[Bool.not_true,Bool.false_eq_true,if_false]
 obtain⟨b1,hb1,hb1'⟩:=name_some hT (a+1)
 rw[hb1]
 simp only[Option.bind_some]
 cases b1 with
 |false=>
  simp only[Bool.not_false,if_true,ax,Option.bind_some]
  exact .bad (by simp only;omega)
 |true=>
 have ha2:=hb1' rfl
 simp only[Bool.not_true,Bool.false_eq_true,if_false]
 obtain⟨b2,hb2,hb2'⟩:=cy hT (a+2) [59]
 rw[hb2]
 simp only[Option.bind_some]
 cases b2 with
 |true=>
  rw[if_pos rfl]
  obtain⟨b3,hb3,_⟩:=cy hT a [118,111,105,100]
  rw[hb3]
  simp only[Option.bind_some]
  cases b3 with
  |true=>
   rw[if_pos rfl]
   simp only[ax,Option.bind_some]
   exact .bad (by simp only;omega)
  |false=>
  rw[if_neg (by simp)]
  exact member_j3_res hT hM s 2 hi (by omega) (by omega) (hb2' rfl) trivial (by simp only[cg];omega)
 |false=>
 rw[if_neg (by simp)]
 obtain⟨b3,hb3,hb3'⟩:=cy hT (a+2) [40]
 rw[hb3]
 simp only[Option.bind_some]
 cases b3 with
 |false=>
  rw[if_neg (by simp)]
  simp only[ax,Option.bind_some]
  exact .bad (by simp only;omega)
 |true=>
 rw[if_pos rfl]
 obtain⟨l,j1,w1,h1,g1⟩:=params_res hT hM (a+3) (hb3' rfl)
 rw[h1]
 simp only[Option.bind_some]
 rcases g1 with g1|⟨g1,j1,rfl,hij1,hjl1,hok1,hns1⟩
 ·rw[if_pos (by rw[decide_eq_true_eq];exact g1)]
  exact .bad g1
 rw[if_neg (by rw[decide_eq_true_eq];omega)]
 obtain⟨n,j2,w2,h2,g2⟩:=block_res hT hM j1 1 hjl1
 rw[h2]
 simp only[Option.bind_some]
 rcases g2 with g2|⟨g2,j2,rfl,hij2,hjl2,hok2,hns2⟩
 ·rw[if_pos (by rw[decide_eq_true_eq];exact g2)]
  exact .bad g2
 have hll:=ey l
 rw[if_neg (by rw[decide_eq_true_eq];omega),app104 (by simp only[List.length_cons,List.length_nil];omega)]
 simp only[Option.bind_some]
 have hnl:cg (l++[n])=cg l+di n:=by rw[nsizes_append];simp[cg]
 exact member_j3_res hT hM s 3 hi (by omega) (by omega) hjl2 (okBL_append hok1 ⟨hok2,trivial⟩) (by omega)
theorem member_res (i:Nat) (hi:i<T.length):Res M T i (nt T i):=by
 have hlen:=hT.len
 unfold nt
 obtain⟨b,hb,hb'⟩:=cy hT i [115,116,97,116,105,99]
 rw[hb]
 simp only[Option.bind_some]
 cases b with
 |true=>
  rw[if_pos rfl,br (by omega)]
  exact member_j6_res hT hM true hi (by omega) (hb' rfl)
 |false=>
  rw[if_neg (by simp)]
  exact member_j6_res hT hM false hi (Nat.le_refl _) hi
end
end Go.Proofs.YtgkcoicaopilhaaGreatDoor
set_option linter.unusedSectionVars false
set_option linter.unusedVariables false
set_option linter.unusedSimpArgs false
set_option maxHeartbeats 4000000
namespace Go.Proofs.YtgkcoicaopilhaaGreatDoor
open Go Go.Cn
theorem depth_at :∀(k:Nat) (x:ApiNode),di x<=k->k<=1048576->∃d,ge k x=some d:=by
 intro k
 induction k with
 |zero=>intro x h;have:=nsize_pos x;omega
 |succ k ih=>
  intro x hx hk
  show ∃d,F_ref11_Depth (ge k) x=some d
  generalize hR:ge k=R
  have hsz:=fu x
  have hlen:=ey x.Kids
  have hkid:∀y∈x.Kids,∃d,R y=some d:=fun y hy=>by
   have:=i9 hy
   rw[← hR]
   exact ih y (by omega) (by omega)
  unfold F_ref11_Depth
  obtain⟨o,h1,_⟩:=eo (f:=fun s:Int × Int=>kq R x s.1 s.2) (fun s=>∃i:Nat,s.2=i/\i<=x.Kids.length) (fun _=>True) (fun s=>x.Kids.length - s.2.toNat) (by
   rintro⟨v,_⟩ ⟨i,rfl,hi⟩
   simp only
   unfold kq
   by_cases hlt:i<x.Kids.length
   ·obtain⟨d,hd⟩:=hkid _ (List.getElem_mem hlt)
    rw[if_pos (by simp[hlt]),dk hlt]
    simp only[Option.bind_some]
    rw[hd]
    simp only[Option.bind_some]
    refine .inl ⟨_,rfl,⟨i+1,br (by omega),hlt⟩,?_⟩
    simp only
    rw[br (by omega)]
    omega
   ·rw[if_neg (by simp;omega)]
    exact .inr ⟨_,rfl,trivial⟩) (0,0) ⟨0,rfl,Nat.zero_le _⟩
  rw[h1]
  exact⟨_,rfl⟩
theorem backL_txt :∀(l:List ApiToken) (a:Nat) (s:List UInt8),backL a s l->∀t∈l,t.Text.length<=s.length
 | [],_,_,_,t,ht=>by cases ht
 |u::l,a,s,h,t,ht=>by
  obtain⟨_,s',hs,h⟩:=h
  have hl:=congrArg List.length hs
  simp only[List.length_append]at hl
  rcases List.mem_cons.1 ht with rfl|ht
  ·omega
  ·rcases h with⟨rfl,_⟩|⟨_,_,_,hb⟩
   ·cases ht
   ·have:=backL_txt l _ _ hb t ht
    omega
theorem toks_of {x:List UInt8} (hx:x.length<=50000) (he:(lexM x).2.2=0):Toks x.length (lexM x).1:=by
 have hR:=lexM_rel x
 obtain⟨_,hne,hb⟩:=lexR_back hR he
 obtain⟨l',u,e1,e2,e3⟩:=back_split _ _ _ hb
 have hlen:=lexR_lengthT hR
 refine⟨by omega,List.length_pos_iff.2 hne,fun i hi=> ?_,fun i hi=>backL_txt _ _ _ hb _ (List.getElem_mem hi)⟩
 have hll:(lexM x).1.length=l'.length+1:=by rw[e1];simp
 constructor
 ·intro h5
  rcases Nat.lt_or_ge i l'.length with h|h
  ·have:(lexM x).1[i]=l'[i]:=by simp only[e1];rw[List.getElem_append_left h]
   rw[this]at h5
   exact absurd h5 (e3 _ (List.getElem_mem h))
  ·omega
 ·intro h
  have:(lexM x).1[i]=u:=by
   simp only[e1]
   rw[List.getElem_append_right (by omega)]
   simp
  rw[this]
  exact e2
theorem empty_ok (M:Nat):okB M (ApiNode.mk 0 [] [] 0 0 0 0 0 []):=by
 rw[okB_eq]
 exact⟨⟨by simp,by simp,by simp,by simp⟩,trivial⟩
theorem One_res {x:List UInt8} (hx:x.length<=50000):∃n m,ref12_One x 1=some (n,m)/\okB x.length n/\di n<=x.length+1:=by
 have h0:okB x.length (ApiNode.mk 0 [] [] 0 0 0 0 0 []):=empty_ok _
 have hn0:di (ApiNode.mk 0 [] [] 0 0 0 0 0 [])<=x.length+1:=by simp[di,cg]
 unfold ref12_One
 rw[ref03_Lex_eq x (by omega)]
 simp only[Option.bind_some,lexI]
 by_cases he:(lexM x).2.2=0
 ·have hT:=toks_of hx he
  have hR:=lexM_rel x
  have hlen:=lexR_lengthT hR
  have hl:=hT.len
  have hp:=hT.pos
  generalize (lexM x).1=T at hT hlen hl hp
  rw[if_neg (by simp[he]),if_pos (by simp)]
  have two:∀(n:ApiNode) (w:Ref12Wrong),okB x.length n->di n<=x.length+1->∃n' m,jn T n w=some (n',m)/\okB x.length n'/\di n'<=x.length+1:=fun n w g1 g2=>by
   unfold jn
   by_cases hw:0<=w.Place
   ·rw[if_pos (by rw[decide_eq_true_eq];exact hw)]
    unfold ref12_mistake na
    have e:∃k:Nat,(if(w64 ((T.length:Int) - 1))<w.Place then(w64 ((T.length:Int) - 1))else w.Place)=(k:Int)/\k<T.length:=by
     rw[dj (by omega) (by omega)]
     split
     ·exact⟨T.length - 1,by omega,by omega⟩
     ·exact⟨w.Place.toNat,by omega,by omega⟩
    obtain⟨k,hk,hk2⟩:=e
    rw[hk,dk hk2]
    exact⟨_,_,rfl,h0,hn0⟩
   ·rw[if_neg (by rw[decide_eq_true_eq];exact hw)]
    obtain⟨d,hd⟩:∃d,ref11_Depth n=some d:=depth_at 1048576 n (by omega) (Nat.le_refl _)
    rw[hd]
    simp only[Option.bind_some]
    split
    ·have hi:idx T 0=some T[0]:=dk hp
     rw[hi]
     exact⟨_,_,rfl,h0,hn0⟩
    ·exact⟨_,_,rfl,g1,g2⟩
  obtain⟨n,j,w,h,g⟩:=member_res hT (by omega) 0 hp
  have h:nt T 0=some (n,j,w):=h
  rw[h]
  simp only[Option.bind_some]
  unfold lj
  rcases g with g|⟨g,j,rfl,hij,hjl,hok,hns⟩
  ·rw[if_neg (by rw[decide_eq_true_eq];omega)]
   unfold nv
   rw[if_neg (by simp)]
   unfold jn
   obtain⟨n',m,e1,e2,e3⟩:=two (ApiNode.mk 0 [] [] 0 0 0 0 0 []) w h0 hn0
   unfold jn at e1
   rw[if_pos (by rw[decide_eq_true_eq];exact g)]at e1 ⊢
   exact⟨n',m,e1,e2,e3⟩
  ·rw[if_pos (by rw[decide_eq_true_eq];exact g),dk hjl]
   simp only[Option.bind_some]
   unfold nv
   split
   ·simp only[ax,Option.bind_some]
    exact two n _ hok (by omega)
   ·exact two n w hok (by omega)
 ·rw[if_pos (by simpa using he)]
  exact⟨_,_,rfl,h0,hn0⟩
end Go.Proofs.YtgkcoicaopilhaaGreatDoor
set_option linter.unusedSectionVars false
set_option linter.unusedVariables false
set_option linter.unusedSimpArgs false
set_option maxHeartbeats 4000000
namespace Go.Proofs.YtgkcoicaopilhaaGreatDoor
open Go Go.Cn
def preL :List Int->List Int->Nat
 |x::a,y::b=>if x=y then preL a b+1 else 0
 |_,_=>0
theorem preL_le :∀a b:List Int,preL a b<=a.length/\preL a b<=b.length
 | [],b=>by simp[preL]
 |_::_,[]=>by simp[preL]
 |x::a,y::b=>by
  have:=preL_le a b
  simp only[preL,List.length_cons]
  split<;>omega
theorem preL_eq :∀(a b:List Int) (i:Nat) (h1:i<a.length) (h2:i<b.length),i<preL a b->a[i]=b[i]
 | [],b,i,h1,_,_=>by simp at h1
 |_::_,[],i,_,h2,_=>by simp at h2
 |x::a,y::b,i,h1,h2,h=>by
  simp only[preL]at h
  split at h
  ·rename_i hxy
   cases i with
   |zero=>simpa using hxy
   |succ i=>simpa using preL_eq a b i (by simpa using h1) (by simpa using h2) (by omega)
  ·omega
theorem preL_ne :∀(a b:List Int) (h1:preL a b<a.length) (h2:preL a b<b.length),a[preL a b]≠b[preL a b]
 | [],b,h1,_=>by simp[preL]at h1
 |_::_,[],_,h2=>by simp[preL]at h2
 |x::a,y::b,h1,h2=>by
  by_cases hxy:x=y
  ·have e:preL (x::a) (y::b)=preL a b+1:=by simp[preL,hxy]
   simp only[e]at h1 h2 ⊢
   simpa using preL_ne a b (by simpa using h1) (by simpa using h2)
  ·have e:preL (x::a) (y::b)=0:=by simp[preL,hxy]
   simp only[e]
   simpa using hxy
theorem preL_comm :∀a b:List Int,preL a b=preL b a
 | [],[]=>rfl
 | [],_::_=>rfl
 |_::_,[]=>rfl
 |x::a,y::b=>by
  simp only[preL]
  by_cases h:x=y
  ·rw[if_pos h,if_pos h.symm,preL_comm a b]
  ·rw[if_neg h,if_neg (fun e=>h e.symm)]
theorem preL_self :∀a:List Int,preL a a=a.length
 | []=>rfl
 |x::a=>by simp[preL,preL_self a]
def sfxL (a b:List Int):Nat:=min (preL a.reverse b.reverse) (min a.length b.length - preL a b)
theorem sfxL_le (a b:List Int):preL a b+sfxL a b<=a.length/\preL a b+sfxL a b<=b.length:=by
 have:=preL_le a b
 unfold sfxL
 omega
theorem sfxL_eq (a b:List Int) (i:Nat) (h:i<sfxL a b) (h1:a.length - 1 - i<a.length) (h2:b.length - 1 - i<b.length):a[a.length - 1 - i]=b[b.length - 1 - i]:=by
 have hl:=sfxL_le a b
 have hp:i<preL a.reverse b.reverse:=by unfold sfxL at h;omega
 have:=preL_eq a.reverse b.reverse i (by simp;omega) (by simp;omega) hp
 simpa [List.getElem_reverse] using this
theorem sfxL_stop (a b:List Int) (h:sfxL a b<min a.length b.length - preL a b) (h1:a.length - 1 - sfxL a b<a.length) (h2:b.length - 1 - sfxL a b<b.length):a[a.length - 1 - sfxL a b]≠b[b.length - 1 - sfxL a b]:=by
 have e:sfxL a b=preL a.reverse b.reverse:=by unfold sfxL at h ⊢;omega
 have hl:=preL_le a.reverse b.reverse
 have:=preL_ne a.reverse b.reverse (by simp at hl ⊢;omega) (by simp at hl ⊢;omega)
 simp only[List.getElem_reverse]at this
 simpa only[e] using this
def outP (n p:Nat):List Int:=(List.range n).map fun j=>if j<p then(j:Int)else -1
def outS (n m p t:Nat):List Int:=(List.range n).map fun j=>if j<p then(j:Int)else if n - t<=j then(j:Int)+m - n else -1
theorem outP_zero (n:Nat):outP n 0=List.replicate n (-1):=by
 refine List.ext_getElem (by simp[outP]) fun i h1 h2=> ?_
 simp[outP]
theorem outS_zero (n m p:Nat):outS n m p 0=outP n p:=by
 refine List.ext_getElem (by simp[outP,outS]) fun i h1 h2=> ?_
 simp only[outS,List.length_map,List.length_range]at h1
 simp only[outP,outS,List.getElem_map,List.getElem_range]
 split
 ·rfl
 ·rw[if_neg (by omega)]
theorem outP_set {n p:Nat} (h:p<n):(outP n p).set p (p:Int)=outP n (p+1):=by
 refine List.ext_getElem (by simp[outP]) fun i h1 h2=> ?_
 simp only[outP,List.getElem_set,List.getElem_map,List.getElem_range]
 by_cases hi:p=i
 ·subst hi;rw[if_pos rfl,if_pos (by omega)]
 ·rw[if_neg hi]
  by_cases h3:i<p
  ·rw[if_pos h3,if_pos (by omega)]
  ·rw[if_neg h3,if_neg (by omega)]
theorem outS_set {n m p t:Nat} (h:p+t<n) (hm:t<m):(outS n m p t).set (n - 1 - t) ((m - 1 - t:Nat):Int)=outS n m p (t+1):=by
 refine List.ext_getElem (by simp[outS]) fun i h1 h2=> ?_
 simp only[outS,List.getElem_set,List.getElem_map,List.getElem_range]
 simp only[outS,List.length_map,List.length_range]at h2
 by_cases hi:n - 1 - t=i
 ·rw[if_pos hi,if_neg (by omega),if_pos (by omega)]
  omega
 ·rw[if_neg hi]
  by_cases h3:i<p
  ·rw[if_pos h3,if_pos h3]
  ·rw[if_neg h3,if_neg h3]
   by_cases h4:n - t<=i
   ·rw[if_pos h4,if_pos (by omega)]
   ·rw[if_neg h4,if_neg (by omega)]
theorem outP_len (n p:Nat):(outP n p).length=n:=by simp[outP]
theorem outS_len (n m p t:Nat):(outS n m p t).length=n:=by simp[outS]
section
variable {a b:List Int} (ha:a.length<=4000000) (hb:b.length<=4000000)
include ha hb
theorem ends_one :iter (fun s:Int × List Int=>jv b a s.1 s.2) (0,List.replicate a.length (-1))=some ((preL a b:Int),outP a.length (preL a b)):=by
 have hl:=preL_le a b
 rw[← outP_zero]
 refine ec (f:=fun s:Int × List Int=>jv b a s.1 s.2) (fun i=>((i:Int),outP a.length i)) (preL a b) (fun i hi=> ?_) ?_
 ·have h1:i<a.length:=by omega
  have h2:i<b.length:=by omega
  simp only
  unfold jv nh
  rw[if_pos (by rw[decide_eq_true_eq];split<;>omega),dk h1,dk h2]
  simp only[Option.bind_some]
  rw[if_pos (by rw[beq_iff_eq];exact preL_eq a b i h1 h2 hi),dk (by rw[outP_len];exact h1)]
  simp only[Option.bind_some,Int.toNat_natCast]
  rw[outP_set h1,br (by omega)]
 ·simp only
  unfold jv nh
  by_cases h:preL a b<a.length/\preL a b<b.length
  ·rw[if_pos (by rw[decide_eq_true_eq];split<;>omega),dk h.1,dk h.2]
   simp only[Option.bind_some]
   rw[if_neg (by rw[beq_iff_eq];exact preL_ne a b h.1 h.2)]
  ·rw[if_neg (by rw[decide_eq_true_eq];split<;>omega),if_neg (by simp)]
theorem ends_two :iter (fun s:Int=>iy b a (preL a b) s) 0=some (sfxL a b:Int):=by
 have hl:=sfxL_le a b
 have em:w64 ((if(b.length:Int)<(a.length:Int)then(b.length:Int)else(a.length:Int)) - (preL a b:Int))=((min a.length b.length - preL a b:Nat):Int):=by
  have:=preL_le a b
  rw[dj (by split<;>omega) (by split<;>omega)]
  split<;>omega
 have e1:w64 ((a.length:Int) - 1)=(a.length:Int) - 1:=dj (by omega) (by omega)
 have e2:w64 ((b.length:Int) - 1)=(b.length:Int) - 1:=dj (by omega) (by omega)
 refine ec (f:=fun s:Int=>iy b a (preL a b) s) (fun i=>(i:Int)) (sfxL a b) (fun i hi=> ?_) ?_
 ·show iy b a (preL a b) (i:Int)=_
  unfold iy lcs_ends_j5
  have hs:sfxL a b<=min a.length b.length - preL a b:=Nat.min_le_right ..
  have h1:w64 ((a.length:Int) - 1 - (i:Int))=((a.length - 1 - i:Nat):Int):=by rw[dj (by omega) (by omega)];omega
  have h2:w64 ((b.length:Int) - 1 - (i:Int))=((b.length - 1 - i:Nat):Int):=by rw[dj (by omega) (by omega)];omega
  rw[em,e1,e2,h1,h2,if_pos (by rw[decide_eq_true_eq];omega),dk (show a.length - 1 - i<a.length by omega),dk (show b.length - 1 - i<b.length by omega)]
  simp only[Option.bind_some]
  rw[if_pos (by rw[beq_iff_eq];exact sfxL_eq a b i hi _ _),br (by omega)]
 ·show iy b a (preL a b) (sfxL a b:Int)=_
  unfold iy lcs_ends_j5
  rw[em]
  by_cases h:sfxL a b<min a.length b.length - preL a b
  ·have h1:w64 ((a.length:Int) - 1 - (sfxL a b:Int))=((a.length - 1 - sfxL a b:Nat):Int):=by rw[dj (by omega) (by omega)];omega
   have h2:w64 ((b.length:Int) - 1 - (sfxL a b:Int))=((b.length - 1 - sfxL a b:Nat):Int):=by rw[dj (by omega) (by omega)];omega
   rw[e1,e2,h1,h2,if_pos (by rw[decide_eq_true_eq];omega),dk (show a.length - 1 - sfxL a b<a.length by omega),dk (show b.length - 1 - sfxL a b<b.length by omega)]
   simp only[Option.bind_some]
   rw[if_neg (by rw[beq_iff_eq];exact sfxL_stop a b h _ _)]
  ·rw[if_neg (by rw[decide_eq_true_eq];omega),if_neg (by simp)]
theorem ends_three :iter (fun s:Int × List Int=>lh (sfxL a b) a b s.1 s.2) (0,outP a.length (preL a b))=some (outS a.length b.length (preL a b) (sfxL a b)):=by
 have hl:=sfxL_le a b
 have e1:w64 ((a.length:Int) - 1)=(a.length:Int) - 1:=dj (by omega) (by omega)
 have e2:w64 ((b.length:Int) - 1)=(b.length:Int) - 1:=dj (by omega) (by omega)
 rw[← outS_zero a.length b.length]
 refine ec (f:=fun s:Int × List Int=>lh (sfxL a b) a b s.1 s.2) (fun i=>((i:Int),outS a.length b.length (preL a b) i)) (sfxL a b) (fun i hi=> ?_) ?_
 ·have h1:w64 ((a.length:Int) - 1 - (i:Int))=((a.length - 1 - i:Nat):Int):=by rw[dj (by omega) (by omega)];omega
  have h2:w64 ((b.length:Int) - 1 - (i:Int))=((b.length - 1 - i:Nat):Int):=by rw[dj (by omega) (by omega)];omega
  simp only
  unfold lh
  rw[if_pos (by simp[hi]),e1,e2,h1,h2,dk (by rw[outS_len];omega)]
  simp only[Option.bind_some,Int.toNat_natCast]
  rw[outS_set (by omega) (by omega),br (by omega)]
 ·simp only
  unfold lh
  rw[if_neg (by simp)]
theorem ends_all :lcs_ends a b (List.replicate a.length (-1))=some ((preL a b:Int),(sfxL a b:Int),outS a.length b.length (preL a b) (sfxL a b)):=by
 unfold lcs_ends
 rw[ends_one ha hb]
 simp only[Option.bind_some]
 unfold lcs_ends_k6
 rw[ends_two ha hb]
 simp only[Option.bind_some]
 unfold lcs_ends_k3
 rw[ends_three ha hb]
 rfl
theorem ends_ref1 :iter (fun s:Int × List Int=>ref05_Match_l5 a b s.1 s.2) (0,List.replicate a.length (-1))=some ((preL a b:Int),outP a.length (preL a b)):=by
 rw[← ends_one ha hb]
 congr 1
 funext s
 unfold ref05_Match_l5 jv
 have hj:∀x y z,ref05_Match_j6 x y z=nh x y z:=fun x y z=>rfl
 simp only[hj]
 by_cases h1:s.1<(a.length:Int)
 ·rw[if_pos (by simpa using h1)]
  by_cases h2:s.1<(b.length:Int)
  ·rw[if_pos (by simpa using h2),if_pos (by rw[decide_eq_true_eq];split<;>assumption)]
  ·rw[if_neg (by simpa using h2),if_neg (by rw[decide_eq_true_eq];split<;>omega)]
 ·rw[if_neg (by simpa using h1),if_neg (by rw[decide_eq_true_eq];split<;>omega)]
theorem ends_ref2 :iter (fun s:Int × List Int=>mm a (preL a b) b s.1 s.2) (0,outP a.length (preL a b))=some (outS a.length b.length (preL a b) (sfxL a b)):=by
 have hl:=sfxL_le a b
 have hp:=preL_le a b
 have e1:w64 ((a.length:Int) - 1)=(a.length:Int) - 1:=dj (by omega) (by omega)
 have e2:w64 ((b.length:Int) - 1)=(b.length:Int) - 1:=dj (by omega) (by omega)
 have e3:w64 ((a.length:Int) - (preL a b:Int))=(a.length:Int) - (preL a b:Int):=dj (by omega) (by omega)
 have e4:w64 ((b.length:Int) - (preL a b:Int))=(b.length:Int) - (preL a b:Int):=dj (by omega) (by omega)
 rw[← outS_zero a.length b.length]
 refine ec (f:=fun s:Int × List Int=>mm a (preL a b) b s.1 s.2) (fun i=>((i:Int),outS a.length b.length (preL a b) i)) (sfxL a b) (fun i hi=> ?_) ?_
 ·have h1:w64 ((a.length:Int) - 1 - (i:Int))=((a.length - 1 - i:Nat):Int):=by rw[dj (by omega) (by omega)];omega
  have h2:w64 ((b.length:Int) - 1 - (i:Int))=((b.length - 1 - i:Nat):Int):=by rw[dj (by omega) (by omega)];omega
  simp only
  unfold mm mn
  rw[e1,e2,e3,e4,h1,h2,if_pos (by rw[decide_eq_true_eq];omega),if_pos (by rw[decide_eq_true_eq];omega),dk (show a.length - 1 - i<a.length by omega),dk (show b.length - 1 - i<b.length by omega)]
  simp only[Option.bind_some]
  rw[if_pos (by rw[beq_iff_eq];exact sfxL_eq a b i hi _ _),dk (by rw[outS_len];omega)]
  simp only[Option.bind_some,Int.toNat_natCast]
  rw[outS_set (by omega) (by omega),br (by omega)]
 ·simp only
  unfold mm mn
  rw[e1,e2,e3,e4]
  by_cases h1:(sfxL a b:Int)<(a.length:Int) - (preL a b:Int)
  ·rw[if_pos (by simpa using h1)]
   by_cases h2:(sfxL a b:Int)<(b.length:Int) - (preL a b:Int)
   ·have g1:w64 ((a.length:Int) - 1 - (sfxL a b:Int))=((a.length - 1 - sfxL a b:Nat):Int):=by rw[dj (by omega) (by omega)];omega
    have g2:w64 ((b.length:Int) - 1 - (sfxL a b:Int))=((b.length - 1 - sfxL a b:Nat):Int):=by rw[dj (by omega) (by omega)];omega
    rw[if_pos (by simpa using h2),g1,g2,dk (show a.length - 1 - sfxL a b<a.length by omega),dk (show b.length - 1 - sfxL a b<b.length by omega)]
    simp only[Option.bind_some]
    rw[if_neg (by rw[beq_iff_eq];exact sfxL_stop a b (by omega) _ _)]
   ·rw[if_neg (by simpa using h2),if_neg (by simp)]
  ·rw[if_neg (by simpa using h1),if_neg (by simp)]
theorem Match_both :∃out,lcs_Match a b=some out/\ref05_Match a b=some out/\out.length=a.length/\out=if a.length<=2000/\b.length<=2000 then mtS a b 0 else outS a.length b.length (preL a b) (sfxL a b):=by
 by_cases h:a.length<=2000/\b.length<=2000
 ·exact⟨_,lcs_Match_eq h.1 h.2,ref05_Match_eq h.1 h.2,mtS_len _ _ _,by rw[if_pos h]⟩
 ·rw[if_neg h]
  refine⟨outS a.length b.length (preL a b) (sfxL a b),?_,?_,outS_len ..,rfl⟩
  ·have key:jp a b (List.replicate a.length (-1)) true=some (outS a.length b.length (preL a b) (sfxL a b)):=by
    unfold jp
    rw[if_pos rfl,ends_all ha hb]
    rfl
   unfold lcs_Match
   rw[lcs_none_eq (by omega)]
   simp only[Option.bind_some]
   by_cases h1:a.length<=2000
   ·rw[if_neg (by simp;omega),decide_eq_true (by omega)];exact key
   ·rw[if_pos (by simp;omega)];exact key
  ·have key:lv a b (List.replicate a.length (-1)) true=some (outS a.length b.length (preL a b) (sfxL a b)):=by
    unfold lv
    rw[if_pos rfl,ends_ref1 ha hb]
    simp only[Option.bind_some]
    unfold ref05_Match_k4
    rw[ends_ref2 ha hb]
    rfl
   unfold ref05_Match
   rw[nones_eq (by omega)]
   simp only[Option.bind_some]
   unfold ref05_Match_k13
   by_cases h1:a.length<=2000
   ·rw[if_neg (by simp;omega),decide_eq_true (by omega)];exact key
   ·rw[if_pos (by simp;omega)];exact key
end
def cnt (l:List Int):Nat:=(l.filter fun v=>decide (v≥0)).length
theorem cnt_le (l:List Int):cnt l<=l.length:=List.length_filter_le ..
theorem Length_loop {l:List Int} (hl:l.length<=4000000):iter (fun s:Int × Int=>iu l s.1 s.2) (0,0)=some (cnt l:Int)/\iter (fun s:Int × Int=>lw l s.1 s.2) (0,0)=some (cnt l:Int):=by
 have hstep:∀i (hi:i<l.length),cnt (l.take (i+1))=if l[i]≥0 then cnt (l.take i)+1 else cnt (l.take i):=fun i hi=>by
  unfold cnt
  rw[List.take_add_one,List.getElem?_eq_getElem hi,Option.toList_some,List.filter_append,List.length_append]
  by_cases h:l[i]≥0
  ·rw[if_pos h,List.filter_cons_of_pos (by simpa using h)];rfl
  ·rw[if_neg h,List.filter_cons_of_neg (by simpa using h)];rfl
 have hc:∀i,cnt (l.take i)<=4000000:=fun i=>by
  have h1:=cnt_le (l.take i)
  have h2:(l.take i).length<=l.length:=by rw[List.length_take];omega
  omega
 constructor
 ·refine ec (f:=fun s:Int × Int=>iu l s.1 s.2) (fun i=>((cnt (l.take i):Int),(i:Int))) l.length (fun i hi=> ?_) ?_
  ·have:=hc i
   simp only
   unfold iu lcs_Length_j3
   rw[if_pos (by simp[hi]),dk hi]
   simp only[Option.bind_some]
   rw[hstep i hi]
   by_cases h:l[i]≥0
   ·rw[if_pos (by rw[decide_eq_true_eq];exact h),if_pos h,br (by omega),br (by omega)]
   ·rw[if_neg (by rw[decide_eq_true_eq];exact h),if_neg h,br (by omega)]
  ·simp only
   unfold iu
   rw[if_neg (by simp),List.take_length]
 ·refine ec (f:=fun s:Int × Int=>lw l s.1 s.2) (fun i=>((cnt (l.take i):Int),(i:Int))) l.length (fun i hi=> ?_) ?_
  ·have:=hc i
   simp only
   unfold lw ref05_Length_j3
   rw[if_pos (by simp[hi]),dk hi]
   simp only[Option.bind_some]
   rw[hstep i hi]
   by_cases h:l[i]≥0
   ·rw[if_pos (by rw[decide_eq_true_eq];exact h),if_pos h,br (by omega),br (by omega)]
   ·rw[if_neg (by rw[decide_eq_true_eq];exact h),if_neg h,br (by omega)]
  ·simp only
   unfold lw
   rw[if_neg (by simp),List.take_length]
def pctM (a b:List Int):Int:=if a.length+b.length=0 then 100 else w64 (Int.tdiv (w64 (200 * ((cnt (if a.length<=2000/\b.length<=2000 then mtS a b 0 else outS a.length b.length (preL a b) (sfxL a b)):Nat):Int))) ((a.length+b.length:Nat):Int))
theorem Percent_both {a b:List Int} (ha:a.length<=4000000) (hb:b.length<=4000000):lcs_Percent a b=some (pctM a b)/\ref05_Percent a b=some (pctM a b):=by
 obtain⟨out,h1,h2,h3,h4⟩:=Match_both ha hb
 obtain⟨l1,l2⟩:=Length_loop (l:=out) (by omega)
 have e:w64 ((a.length:Int)+(b.length:Int))=((a.length+b.length:Nat):Int):=by rw[dj (by omega) (by omega)];omega
 have L1:lcs_Length a b=some (cnt out:Int):=by unfold lcs_Length;rw[h1];simp only[Option.bind_some];rw[l1];rfl
 have L2:ref05_Length a b=some (cnt out:Int):=by unfold ref05_Length;rw[h2];simp only[Option.bind_some];rw[l2];rfl
 unfold lcs_Percent ref05_Percent pctM
 rw[e,L1,L2,← h4]
 by_cases h0:a.length+b.length=0
 ·rw[if_pos (by rw[beq_iff_eq];omega),if_pos h0]
  exact⟨rfl,rfl⟩
 ·have hz:nz ((a.length+b.length:Nat):Int)=some ():=by
   unfold nz
   rw[if_neg (by omega)]
  rw[if_neg (by rw[beq_iff_eq];omega),if_neg h0,hz]
  exact⟨rfl,rfl⟩
end Go.Proofs.YtgkcoicaopilhaaGreatDoor
set_option linter.unusedSectionVars false
set_option linter.unusedVariables false
set_option linter.unusedSimpArgs false
set_option maxHeartbeats 4000000
namespace Go.Proofs.YtgkcoicaopilhaaGreatDoor
open Go Go.Cn
def alikeM (x y:List (List UInt8)):Int:=pctM (x.map (numOf [x,y])) (y.map (numOf [x,y]))
def Fine (names:List (List UInt8)) (x:ApiNode) (l:List (List UInt8)):Prop:=f1 x names=some l/\ref14_Tokens x names=some l/\l.length<=2000000
theorem idx_a {α:Type} (a b:α):idx [a,b] 0=some a:=by simp[idx]
theorem idx_b {α:Type} (a b:α):idx [a,b] 1=some b:=by simp[idx]
theorem nums_eq {x y:List (List UInt8)} (hx:x.length<=2000000) (hy:y.length<=2000000):lcs_Numbers [x,y]=some [x.map (numOf [x,y]),y.map (numOf [x,y])]:=by
 rw[lcs_Numbers_eq (by simp only[List.length_cons,List.length_nil];omega) (by simp only[List.flatten_cons,List.flatten_nil,List.length_append,List.length_nil];omega)]
 rfl
theorem pct_both {x y:List (List UInt8)} (hx:x.length<=2000000) (hy:y.length<=2000000):lcs_Percent (x.map (numOf [x,y])) (y.map (numOf [x,y]))=some (alikeM x y)/\ref05_Percent (x.map (numOf [x,y])) (y.map (numOf [x,y]))=some (alikeM x y):=
 Percent_both (Nat.le_trans (Nat.le_of_eq (List.length_map ..)) (by omega)) (Nat.le_trans (Nat.le_of_eq (List.length_map ..)) (by omega))
theorem alike_eq {x y:List (List UInt8)} (hx:x.length<=2000000) (hy:y.length<=2000000):shape_alike x y=some (alikeM x y):=by
 unfold shape_alike
 rw[nums_eq hx hy,Option.bind_some,idx_a,Option.bind_some,idx_b,Option.bind_some,(pct_both hx hy).1,Option.bind_some]
 rfl
section
variable {names:List (List UInt8)} {x y:ApiNode} {tx ty:List (List UInt8)}
theorem Percent_eq (hx:Fine names x tx) (hy:Fine names y ty):fv x y names=some (alikeM tx ty):=by
 unfold fv
 rw[hx.1,hy.1]
 simp only[Option.bind_some]
 rw[alike_eq hx.2.2 hy.2.2]
 rfl
end
end Go.Proofs.YtgkcoicaopilhaaGreatDoor
set_option linter.unusedSectionVars false
set_option linter.unusedVariables false
set_option linter.unusedSimpArgs false
set_option maxHeartbeats 4000000
namespace Go.Proofs.YtgkcoicaopilhaaGreatDoor
open Go Go.Cn
theorem cnt_step {l:List Int} {i:Nat} (hi:i<l.length):cnt (l.take (i+1))=if l[i]≥0 then cnt (l.take i)+1 else cnt (l.take i):=by
 unfold cnt
 rw[List.take_add_one,List.getElem?_eq_getElem hi,Option.toList_some,List.filter_append,List.length_append]
 by_cases h:l[i]≥0
 ·rw[if_pos h,List.filter_cons_of_pos (by simpa using h)];rfl
 ·rw[if_neg h,List.filter_cons_of_neg (by simpa using h)];rfl
theorem cnt_cons (v:Int) (l:List Int):cnt (v::l)=if v≥0 then cnt l+1 else cnt l:=by
 unfold cnt
 by_cases h:v≥0
 ·rw[if_pos h,List.filter_cons_of_pos (by simpa using h)];rfl
 ·rw[if_neg h,List.filter_cons_of_neg (by simpa using h)]
theorem cnt_outS {n m p t:Nat} (h1:p+t<=n) (h2:p+t<=m):cnt (outS n m p t)=p+t:=by
 have key:∀i,i<=n->cnt ((outS n m p t).take i)=min i p+(i - (n - t)):=by
  intro i
  induction i with
  |zero=>intro _;simp[cnt]
  |succ i ih=>
   intro hi
   have hl:i<(outS n m p t).length:=by rw[outS_len];omega
   have hg:(outS n m p t)[i]=if i<p then(i:Int)else if n - t<=i then(i:Int)+m - n else -1:=by simp[outS]
   rw[cnt_step hl,ih (by omega),hg]
   by_cases h3:i<p
   ·rw[if_pos h3,if_pos (by omega)];omega
   ·rw[if_neg h3]
    by_cases h4:n - t<=i
    ·rw[if_pos h4,if_pos (by omega)];omega
    ·rw[if_neg h4,if_neg (by decide)];omega
 have:=key n (Nat.le_refl _)
 rw[List.take_of_length_le (by rw[outS_len];exact Nat.le_refl _)]at this
 omega
theorem cnt_none :∀n:Nat,cnt (List.replicate n (-1))=0
 | 0=>rfl
 |n+1=>by rw[List.replicate_succ,cnt_cons,if_neg (by decide),cnt_none n]
theorem cnt_mtS :∀(a b:List Int) (k:Int),0<=k->cnt (mtS a b k)=lc a b:=fun a b=>by
 refine both_ind (P:=fun a b=>∀k:Int,0<=k->cnt (mtS a b k)=lc a b) (fun b k _=> ?_) (fun x a k _=> ?_) (fun x a y b h1 h2 h3 k hk=> ?_) a b
 ·rw[mtS_nil,lc_nil];rfl
 ·rw[mtS_nil',lc_nil',cnt_none]
 ·rw[mtS_cons,lc_cons]
  by_cases hxy:x=y
  ·rw[if_pos hxy,if_pos hxy,cnt_cons,if_pos (by omega),h1 (k+1) (by omega)]
  ·rw[if_neg hxy,if_neg hxy]
   by_cases hl:lc (x::a) b<=lc a (y::b)
   ·rw[if_pos hl,cnt_cons,if_neg (by decide),h2 k hk];omega
   ·rw[if_neg hl,h3 (k+1) (by omega)];omega
theorem lc_comm {α:Type} [DecidableEq α]:∀a b:List α,lc a b=lc b a:=fun a b=>by
 refine both_ind (P:=fun a b=>lc a b=lc b a) (fun b=> ?_) (fun x a=> ?_) (fun x a y b h1 h2 h3=> ?_) a b
 ·rw[lc_nil,lc_nil']
 ·rw[lc_nil,lc_nil']
 ·rw[lc_cons,lc_cons]
  by_cases hxy:x=y
  ·rw[if_pos hxy,if_pos hxy.symm,h1]
  ·rw[if_neg hxy,if_neg (fun e=>hxy e.symm),h2,h3,Nat.max_comm]
theorem lc_self {α:Type} [DecidableEq α]:∀a:List α,lc a a=a.length
 | []=>lc_nil _
 |x::a=>by rw[lc_cons,if_pos rfl,lc_self a];rfl
def lenM (a b:List Int):Nat:=if a.length<=2000/\b.length<=2000 then lc a b else preL a b+sfxL a b
theorem cnt_len (a b:List Int):cnt (if a.length<=2000/\b.length<=2000 then mtS a b 0 else outS a.length b.length (preL a b) (sfxL a b))=lenM a b:=by
 unfold lenM
 split
 ·exact cnt_mtS a b 0 (Int.le_refl _)
 ·have:=sfxL_le a b
  exact cnt_outS this.1 this.2
theorem sfxL_comm (a b:List Int):sfxL a b=sfxL b a:=by
 unfold sfxL
 rw[preL_comm a b,preL_comm a.reverse,Nat.min_comm a.length]
theorem lenM_comm (a b:List Int):lenM a b=lenM b a:=by
 unfold lenM
 rw[lc_comm a b,preL_comm a b,sfxL_comm a b]
 by_cases h:a.length<=2000/\b.length<=2000
 ·rw[if_pos h,if_pos h.symm]
 ·rw[if_neg h,if_neg (fun h'=>h h'.symm)]
theorem lenM_self (a:List Int):lenM a a=a.length:=by
 unfold lenM
 split
 ·exact lc_self a
 ·unfold sfxL
  rw[preL_self,preL_self]
  simp
theorem preL_maps {f g:List UInt8->Int}:∀(a b:List (List UInt8)),(∀x∈a,∀y∈b,f x=f y↔g x=g y)->preL (a.map f) (b.map f)=preL (a.map g) (b.map g)
 | [],b,_=>by simp[preL]
 |_::_,[],_=>by simp[preL]
 |x::a,y::b,h=>by
  have ih:=preL_maps (f:=f) (g:=g) a b (fun x' hx y' hy=>h x' (List.mem_cons_of_mem _ hx) y' (List.mem_cons_of_mem _ hy))
  have hxy:=h x (List.mem_cons_self ..) y (List.mem_cons_self ..)
  simp only[List.map_cons,preL,ih]
  by_cases e:f x=f y
  ·rw[if_pos e,if_pos (hxy.1 e)]
  ·rw[if_neg e,if_neg (fun e'=>e (hxy.2 e'))]
theorem lenM_maps {f g:List UInt8->Int} (a b:List (List UInt8)) (hf:∀x∈a,∀y∈b,f x=f y->x=y) (hg:∀x∈a,∀y∈b,g x=g y->x=y):lenM (a.map f) (b.map f)=lenM (a.map g) (b.map g):=by
 have hfg:∀x∈a,∀y∈b,f x=f y↔g x=g y:=fun x hx y hy=>⟨fun h=>by rw[hf x hx y hy h],fun h=>by rw[hg x hx y hy h]⟩
 unfold lenM sfxL
 rw[lc_map f a b hf,lc_map g a b hg,preL_maps a b hfg,← List.map_reverse,← List.map_reverse,← List.map_reverse,← List.map_reverse,preL_maps a.reverse b.reverse (fun x hx y hy=>hfg x (List.mem_reverse.1 hx) y (List.mem_reverse.1 hy))]
 simp only[List.length_map]
theorem alike_self {l:List (List UInt8)} (hl:l.length<=2000000):alikeM l l=100:=by
 unfold alikeM pctM
 rw[cnt_len,lenM_self]
 simp only[List.length_map]
 by_cases h0:l.length+l.length=0
 ·rw[if_pos h0]
 ·rw[if_neg h0,dj (n:=200 * (l.length:Int)) (by omega) (by omega)]
  have e:(200 * (l.length:Int))=100 * ((l.length+l.length:Nat):Int):=by omega
  rw[e,Int.mul_tdiv_cancel _ (by omega)]
  decide
theorem alike_comm (a b:List (List UInt8)):alikeM a b=alikeM b a:=by
 unfold alikeM pctM
 rw[cnt_len,cnt_len,lenM_comm (b.map _)]
 have hm:lenM (a.map (numOf [a,b])) (b.map (numOf [a,b]))=lenM (a.map (numOf [b,a])) (b.map (numOf [b,a])):=by
  refine lenM_maps a b (fun x hx y hy h=>numOf_inj (by simp[hx]) h) (fun x hx y hy h=>numOf_inj (by simp[hx]) h)
 rw[hm]
 simp only[List.length_map]
 rw[Nat.add_comm a.length b.length]
mutual
def renN (f t:List UInt8):ApiNode->ApiNode
 |⟨k,x,y,n,a,b,c,d,kids⟩=>⟨k,if x=f then t else x,y,n,a,b,c,d,renL f t kids⟩
def renL (f t:List UInt8):List ApiNode->List ApiNode
 | []=>[]
 |n::l=>renN f t n::renL f t l
end
theorem renL_map (f t:List UInt8):∀l:List ApiNode,renL f t l=l.map (renN f t)
 | []=>by simp[renL]
 |n::l=>by simp[renL,renL_map f t l]
theorem renN_kind (f t:List UInt8) (x:ApiNode):(renN f t x).Kind=x.Kind:=by cases x;simp[renN]
mutual
theorem nsize_ren (f t:List UInt8):∀x:ApiNode,di (renN f t x)=di x
 |⟨_,_,_,_,_,_,_,_,kids⟩=>by simp[renN,di,nsizes_ren f t kids]
theorem nsizes_ren (f t:List UInt8):∀l:List ApiNode,cg (renL f t l)=cg l
 | []=>by simp[renL]
 |n::l=>by simp[renL,cg,nsize_ren f t n,nsizes_ren f t l]
end
mutual
theorem okB_ren {M:Nat} {f t:List UInt8} (ht:t.length<=1000) (hM:M<=1000):∀x:ApiNode,okB M x->okB 1000 (renN f t x)
 |⟨_,x,_,_,_,_,_,_,kids⟩,h=>by
  simp only[okB]at h
  simp only[renN,okB]
  refine⟨⟨?_,by omega,h.1.2.2⟩,okBL_ren ht hM kids h.2⟩
  split<;>omega
theorem okBL_ren {M:Nat} {f t:List UInt8} (ht:t.length<=1000) (hM:M<=1000):∀l:List ApiNode,okBL M l->okBL 1000 (renL f t l)
 | [],_=>by simp[renL,okBL]
 |n::l,h=>by
  simp only[okBL]at h
  simp only[renL,okBL]
  exact⟨okB_ren ht hM n h.1,okBL_ren ht hM l h.2⟩
end
mutual
theorem erase_ren {f t:List UInt8} (hf:f≠[]) (ht:t≠[]):∀x:ApiNode,(∀y∈flatN x,y.Kind=24->y.Text≠f/\y.Text≠t)->fa (er [f,t]) (renN f t x)=fa (er [f,t]) x
 |⟨k,x,y,n,a,b,c,d,kids⟩,h=>by
  have hk:=eraseL_ren hf ht kids (fun z hz=>h z (by rw[flatN_eq];exact List.mem_cons_of_mem _ hz))
  have h0:=h ⟨k,x,y,n,a,b,c,d,kids⟩ (by rw[flatN_eq];exact List.mem_cons_self ..)
  simp only at h0
  simp only[renN,fa,hk]
  congr 1
  by_cases h24:k=24
  ·simp[h24,(h0 h24).1]
  ·rw[if_pos h24,if_pos h24]
   by_cases hx:x=f
   ·rw[if_pos hx,hx]
    simp[er,hf,ht]
   ·rw[if_neg hx]
theorem eraseL_ren {f t:List UInt8} (hf:f≠[]) (ht:t≠[]):∀l:List ApiNode,(∀y∈flatL l,y.Kind=24->y.Text≠f/\y.Text≠t)->j5 (er [f,t]) (renL f t l)=j5 (er [f,t]) l
 | [],_=>by simp[renL]
 |n::l,h=>by
  simp only[renL,j5]
  rw[erase_ren hf ht n (fun z hz=>h z (by simp only[flatL];exact List.mem_append_left _ hz)),eraseL_ren hf ht l (fun z hz=>h z (by simp only[flatL];exact List.mem_append_right _ hz))]
end
theorem rename_at (f t:List UInt8):∀(k:Nat) (x:ApiNode),di x<=k->k<=1048576->fr k x 0 f t=some (renN f t x):=by
 intro k
 induction k with
 |zero=>intro x h _;have:=nsize_pos x;omega
 |succ k ih=>
  intro x hx hk
  show mw (fr k) x 0 f t=_
  generalize hR:fr k=R
  have hsz:=fu x
  have hlen:=ey x.Kids
  have hkid:∀y∈x.Kids,R y 0 f t=some (renN f t y):=fun y hy=>by
   have:=i9 hy
   rw[← hR]
   exact ih y (by omega) (by omega)
  unfold mw
  have hit:iter (fun s:Int × List ApiNode=>f4 R x 0 f t s.1 s.2) (0,[])=some (x.Kids.map (renN f t)):=by
   refine ec (f:=fun s:Int × List ApiNode=>f4 R x 0 f t s.1 s.2) (fun i=>((i:Int),(x.Kids.take i).map (renN f t))) x.Kids.length (fun i hi=> ?_) ?_
   ·simp only
    unfold f4
    rw[if_pos (by simp[hi]),dk hi]
    simp only[Option.bind_some]
    rw[hkid _ (List.getElem_mem hi)]
    simp only[Option.bind_some]
    rw[app104 (by simp only[List.length_map,List.length_take,List.length_cons,List.length_nil];omega)]
    simp only[Option.bind_some]
    rw[br (by omega),List.take_add_one,List.getElem?_eq_getElem hi,List.map_append]
    rfl
   ·simp only
    unfold f4
    rw[if_neg (by simp),List.take_length]
  rw[hit]
  simp only[Option.bind_some]
  have he:renN f t x=⟨x.Kind,if x.Text=f then t else x.Text,x.Type_,x.N,x.From,x.To,x.At,x.TypeAt,x.Kids.map (renN f t)⟩:=by
   cases x
   simp[renN,renL_map]
  rw[he]
  unfold ref11_Rename_k5 f6 lq lr lu
  by_cases h:x.Text=f
  ·simp[h]
  ·simp[h]
theorem Rename_eq {f t:List UInt8} {x:ApiNode} (hx:di x<=1048576):ref11_Rename x 0 f t=some (renN f t x):=rename_at f t 1048576 x hx (Nat.le_refl _)
theorem names_loop {l:List ApiNode} (hl:l.length<=1000000) (f t:List UInt8):iter (fun s:Int=>ea l f t s) 0=some (.done true)\/(iter (fun s:Int=>ea l f t s) 0=some (.next ())/\∀y∈l,y.Kind=24->y.Text≠f/\y.Text≠t):=by
  obtain⟨o,h1,h2⟩:=eo (f:=fun s:Int=>ea l f t s) (fun s=>∃i:Nat,s=i/\i<=l.length/\∀y∈l.take i,y.Kind=24->y.Text≠f/\y.Text≠t)
    (fun z => match z with | .next _ => ∀ y ∈ l, y.Kind = 24 -> y.Text ≠ f /\ y.Text ≠ t | .done r => r = true) (fun s => l.length - s.toNat) (by
      rintro _ ⟨i,rfl,hi,hf⟩
      unfold ea
      by_cases hlt:i<l.length
      · rw[if_pos (by simp[hlt]),dk hlt]
        simp only[Option.bind_some]
        have go:(l[i].Kind=24->l[i].Text≠f/\l[i].Text≠t)->(∃s',eu (i:Int) false=some (.inl s')/\(∃k:Nat,s'=k/\k<=l.length/\∀y∈l.take k,y.Kind=24->y.Text≠f/\y.Text≠t)/\l.length - s'.toNat<l.length - ((i:Int)).toNat):=fun hg=>by
          unfold eu
          rw[if_neg (by simp)]
          refine⟨_,rfl,⟨i+1,br (by omega),hlt,fun y hy=> ?_⟩,?_⟩
          · rw[List.take_add_one,List.getElem?_eq_getElem hlt,Option.toList_some]at hy
            rcases List.mem_append.1 hy with hy|hy
            · exact hf y hy
            · rw[List.mem_singleton]at hy
              rw[hy]
              exact hg
          · rw[br (by omega)]
            omega
        by_cases hk:l[i].Kind=24
        · rw[if_pos (by simp[hk])]
          by_cases hx:l[i].Text=f
          · rw[if_pos (by simp[hx])]
            exact .inr ⟨_,rfl,rfl⟩
          · rw[if_neg (by simpa using hx)]
            by_cases hy:l[i].Text=t
            · have e:(l[i].Text==t)=true:=by simp[hy]
              rw[e]
              exact .inr ⟨_,rfl,rfl⟩
            · have e:(l[i].Text==t)=false:=by simpa using hy
              rw[e]
              exact .inl (go fun _=>⟨hx,hy⟩)
        · rw[if_neg (by simpa using hk)]
          exact .inl (go fun h=>absurd h hk)
      · rw[if_neg (by simp;omega)]
        rw[List.take_of_length_le (by omega)]at hf
        exact .inr ⟨_,rfl,hf⟩) 0 ⟨0,rfl,Nat.zero_le _,by simp⟩
  cases o with
  |next u=>exact .inr ⟨h1,h2⟩
  |done r=>exact .inl (by rw[h1,h2])
theorem fine_of {n:ApiNode} {M:Nat} {names:List (List UInt8)} (hM:M<=1000) (h2:okB M n) (h3:di n<=1001) (hn:names.length<=1000000):∃t l,l5 n names=some t/\Fine names n l:=by
 have h4:=okB_tsum n h2
 have h5:=nbytes_tsum n
 have h6:2 * M * di n<=2 * 1000 * 1001:=Nat.mul_le_mul (by omega) (by omega)
 obtain⟨t,t1,t2⟩:=Of_eq (names:=names) hn (by omega) (okB_ok n h2) (by omega)
 obtain⟨l,l1,l2,l3⟩:=tokens_eq t1 t2
 exact⟨t,l,t1,l1,l2,l3⟩
theorem law_ShapeNames (x f t:List UInt8):nc x f t=some true:=by
 unfold nc
 rw[awakeT]
 simp only[Option.bind_some,Bool.not_true,Bool.false_eq_true,if_false]
 have hT:dn x f t true=some true:=by
  unfold dn
  rw[if_pos rfl]
 by_cases h1:x.length>1000
 ·rw[if_pos (by rw[decide_eq_true_eq];omega),hT]
 rw[if_neg (by rw[decide_eq_true_eq];omega)]
 by_cases h2:f.length>20
 ·rw[if_pos (by rw[decide_eq_true_eq];omega),hT]
 rw[if_neg (by rw[decide_eq_true_eq];omega)]
 by_cases h3:t.length>20
 ·rw[if_pos (by rw[decide_eq_true_eq];omega),hT]
 rw[if_neg (by rw[decide_eq_true_eq];omega)]
 by_cases hf:f=[]
 ·rw[if_pos (by simp[hf]),hT]
 rw[if_neg (by simpa using hf)]
 by_cases ht:t=[]
 ·rw[show(t==[])=true by simp[ht],hT]
 rw[show(t==[])=false by simpa using ht]
 unfold dn
 rw[if_neg (by simp)]
 obtain⟨n,m,e1,e2,e3⟩:=One_res (x:=x) (by omega)
 rw[e1]
 simp only[Option.bind_some]
 split
 ·rfl
 have hall:ref11_All n 0=some (flatN n):=all_at 1048576 n (by omega) (Nat.le_refl _)
 rw[hall]
 simp only[Option.bind_some]
 rcases names_loop (l:=flatN n) (by rw[flatN_len];omega) f t with h|⟨h,hb⟩
 ·rw[h]
  rfl
 ·rw[h]
  simp only[Option.bind_some]
  unfold j4
  rw[Rename_eq (by omega)]
  simp only[Option.bind_some]
  have hr2:=okB_ren (f:=f) (t:=t) (by omega) (by omega) n e2
  have hr3:=nsize_ren f t n
  have hOf:∀{v},l5 n [f,t]=some v->l5 (renN f t n) [f,t]=some v:=fun {v} hv=>by
   unfold l5 at hv ⊢
   rw[Erase_eq (by simp) (by omega)]at hv ⊢
   rw[erase_ren hf ht n hb,renN_kind]
   exact hv
  obtain⟨v,l,g1,g2⟩:=fine_of (names:=[f,t]) (by omega) e2 (by omega) (by simp)
  obtain⟨v2,l2,g3,g4⟩:=fine_of (names:=[f,t]) (Nat.le_refl 1000) hr2 (by omega) (by simp)
  obtain⟨v3,l3,g5,g6⟩:=fine_of (names:=[]) (by omega) e2 (by omega) (by simp)
  obtain⟨v4,l4,g7,g8⟩:=fine_of (names:=[]) (Nat.le_refl 1000) hr2 (by omega) (by simp)
  have hl:l2=l:=by
   have k1:=g4.1
   have k2:=g2.1
   unfold f1 at k1 k2
   rw[hOf g1]at k1
   rw[g1]at k2
   rw[k2]at k1
   exact(Option.some.inj k1).symm
  subst hl
  rw[hOf g1,g1]
  simp only[Option.bind_some]
  rw[if_pos (by simp),Percent_eq g4 g2]
  simp only[Option.bind_some]
  rw[alike_self g2.2.2,if_pos (by decide),Percent_eq g6 g6]
  simp only[Option.bind_some]
  rw[alike_self g6.2.2,if_pos (by decide),Percent_eq g6 g8,Percent_eq g8 g6,alike_comm l3 l4]
  simp[ev]
end Go.Proofs.YtgkcoicaopilhaaGreatDoor
