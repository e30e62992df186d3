/- Where nodes stand is where they tell: ParsePlaces. -/
import Derived.Test.YtackaijkmkollaaGreatDoorZY7
set_option linter.unusedSimpArgs false
set_option linter.unusedVariables false
set_option linter.unusedSectionVars false
set_option linter.unusedSectionVars false
set_option linter.unusedVariables false
set_option linter.unusedSimpArgs false
set_option maxHeartbeats 4000000
namespace Go.Proofs.YtackaijkmkollaaGreatDoor
open Go Go.Cn
mutual
theorem gd_flat {x:List UInt8} {y:ApiNode}:∀{n:ApiNode},gd x n->y∈flatN n->gd x y
 |⟨k,t,ty,nn,a,b,c,d,kids⟩,h,hy=>by
  rw[flatN_eq]at hy
  rcases List.mem_cons.1 hy with rfl|hy
  ·exact h
  ·exact gdL_flat (by rw[gd_eq]at h;exact h.2) hy
theorem gdL_flat {x:List UInt8} {y:ApiNode}:∀{l:List ApiNode},gdL x l->y∈flatL l->gd x y
 | [],_,hy=>by simp[flatL]at hy
 |n::l,h,hy=>by
  simp only[gdL]at h
  simp only[flatL]at hy
  rcases List.mem_append.1 hy with hy|hy
  ·exact gd_flat h.1 hy
  ·exact gdL_flat h.2 hy
end
mutual
theorem nsize_flat {y:ApiNode}:∀{n:ApiNode},y∈flatN n->jh y<=jh n
 |⟨k,t,ty,nn,a,b,c,d,kids⟩,hy=>by
  rw[flatN_eq]at hy
  rcases List.mem_cons.1 hy with rfl|hy
  ·exact Nat.le_refl _
  ·have:=nsizes_flat hy
   rw[nsize_eq ⟨k,t,ty,nn,a,b,c,d,kids⟩]
   omega
theorem nsizes_flat {y:ApiNode}:∀{l:List ApiNode},y∈flatL l->jh y<=db l
 | [],hy=>by simp[flatL]at hy
 |n::l,hy=>by
  simp only[flatL]at hy
  simp only[db]
  rcases List.mem_append.1 hy with hy|hy
  ·have:=nsize_flat hy;omega
  ·have:=nsizes_flat hy;omega
end
theorem chain_at :∀{l:List ApiNode} {lo hi:Int} {i:Nat} (hi':i<l.length),chain lo hi l->(if h:0<i then(l[i - 1]'(by omega)).To else lo)<=l[i].From/\l[i].From<=l[i].To/\l[i].To<=hi
 |y::l,lo,hi,0,_,⟨h1,h2,h3,h4⟩=>⟨h1,h2,h3⟩
 |y::l,lo,hi,i+1,hi',⟨h1,h2,h3,h4⟩=>by
  have:=chain_at (i:=i) (by simpa using hi') h4
  simp only[List.getElem_cons_succ]
  refine⟨?_,this.2⟩
  rw[dif_pos (by omega)]
  cases i with
  |zero=>simpa using this.1
  |succ i=>
   rw[dif_pos (by omega)]at this
   simpa using this.1
theorem sub_at {x:List UInt8} {a:Int} {n:Nat} (h:0<=a) (h2:a+(n:Int)<=(x.length:Int)) (hx:x.length<=50000):sub x a (w64 (a+(n:Int)))=some ((x.drop a.toNat).take n):=by
 obtain⟨k,rfl⟩:∃k:Nat,a=(k:Int):=⟨a.toNat,by omega⟩
 rw[show w64 ((k:Int)+(n:Int))=((k+n:Nat):Int)by rw[jy (by omega) (by omega)];rfl,sub_nat (by omega) (by omega),List.drop_take]
 simp
theorem within_ok {x:List UInt8} {n:ApiNode} (hx:x.length<=50000) (hg:gd x n) (hs:jh n<=60000):law12_within x n=some true:=by
 have hf:(flatN n).length=jh n:=flatN_len n
 unfold law12_within ref11_All
 rw[all_at 1048576 n (by omega) (Nat.le_refl _),Option.bind_some]
 generalize hL:flatN n=L
 rw[hL]at hf
 have hgd:∀y∈L,gd x y/\jh y<=60000:=fun y hy=>⟨gd_flat hg (by rw[hL];exact hy),Nat.le_trans (nsize_flat (by rw[hL];exact hy)) hs⟩
 obtain⟨o,h1,h2⟩:=iter_ind (f:=fun s:Int=>iy L x s) (fun s=>∃i:Nat,i<=L.length/\s=(i:Int)) (fun o=>o= .next ()) (fun s=>L.length - s.toNat) (by
  rintro _ ⟨i,hi,rfl⟩
  unfold iy
  by_cases hlt:i<L.length
  ·left
   rw[if_pos (by simp[hlt])]
   simp only[idx_lt hlt,Option.bind_some]
   have hy:=hgd _ (List.getElem_mem hlt)
   generalize L[i]=y at hy
   obtain⟨hy,hys⟩:=hy
   rw[gd_eq]at hy
   rw[nsize_eq]at hys
   obtain⟨⟨g1,g2,g3,g4,g5⟩,g6⟩:=hy
   obtain⟨o2,k1,k2⟩:=iter_ind (f:=fun s:Int × Int=>iw y s.1 s.2) (fun s=>∃i:Nat,i<=y.Kids.length/\s.2=(i:Int)/\s.1=(if h:0<i/\i<=y.Kids.length then(y.Kids[i - 1]'(by omega)).To else y.From)) (fun o=>o= .next ()) (fun s=>y.Kids.length - s.2.toNat) (by
    rintro⟨at_,_⟩ ⟨i,hi,rfl,hat⟩
    simp only at hat
    unfold iw iz
    by_cases hlt:i<y.Kids.length
    ·left
     have hc:=chain_at hlt g5
     have hat2:at_=(if h:0<i then(y.Kids[i - 1]'(by omega)).To else y.From):=by
      rw[hat]
      by_cases h0:0<i
      ·rw[dif_pos ⟨h0,by omega⟩,dif_pos h0]
      ·rw[dif_neg (by omega),dif_neg h0]
     rw[← hat2]at hc
     have hlen:y.Kids.length<=9000000000:=by
      have:=fm y.Kids
      omega
     rw[if_pos (by simp[hlt])]
     simp only[idx_lt hlt,Option.bind_some]
     rw[if_neg (by simp;omega),if_neg (by simp;omega),if_neg (by simp;omega)]
     refine⟨_,rfl,⟨i+1,by omega,gc (by omega),?_⟩,?_⟩
     ·rw[dif_pos ⟨by omega,by omega⟩]
      simp
     ·simp only
      rw[gc (by omega)]
      omega
    ·right
     rw[if_neg (by simp;omega)]
     exact⟨_,rfl,rfl⟩) (y.From,0) ⟨0,by omega,rfl,by simp⟩
   rw[k1]
   subst k2
   simp only[Option.bind_some]
   refine⟨((i+1:Nat):Int),?_,⟨i+1,by omega,rfl⟩,by omega⟩
   unfold law12_within_k5 ef gi
   rw[if_neg (by simp;omega),if_neg (by simp;omega)]
   have hlast:(if decide (y.TypeAt≥0)=true then if decide (y.TypeAt<y.From)=true then(if true=true then some (Sum.inr (Flow.done false))else some (Sum.inl (w64 ((i:Int)+1))))else if decide (w64 (y.TypeAt+(y.Type_.length:Int))>y.To)=true then(if true=true then some (Sum.inr (Flow.done false))else some (Sum.inl (w64 ((i:Int)+1))))else(sub x y.TypeAt (w64 (y.TypeAt+(y.Type_.length:Int)))).bind fun x42=>(if(!(x42==y.Type_))=true then some (Sum.inr (Flow.done false))else some (Sum.inl (w64 ((i:Int)+1))))else(if false=true then some (Sum.inr (Flow.done false))else some (Sum.inl (w64 ((i:Int)+1)))))=(some (Sum.inl ((i+1:Nat):Int)):Option (Int ⊕ Flow Unit Bool)):=by
    rw[gc (by omega)]
    by_cases ht:y.TypeAt≥0
    ·obtain⟨t1,t2,t3⟩:=g4 ht
     rw[if_pos (by simpa using ht),if_neg (by simp;omega),if_neg (by rw[jy (by omega) (by omega)];simp;omega),sub_at ht (by omega) hx,Option.bind_some,t3]
     simp
    ·rw[if_neg (by simpa using ht)]
     simp
   by_cases ha:y.At≥0
   ·obtain⟨t1,t2,t3⟩:=g3 ha
    rw[if_pos (by simpa using ha),if_neg (by simp;omega),if_neg (by rw[jy (by omega) (by omega)];simp;omega),sub_at ha (by omega) hx,Option.bind_some,t3]
    rw[if_neg (by simp)]
    exact hlast
   ·rw[if_neg (by simpa using ha),if_neg (by simp)]
    exact hlast
  ·right
   rw[if_neg (by simp;omega)]
   exact⟨_,rfl,rfl⟩) 0 ⟨0,by omega,rfl⟩
 rw[h1]
 subst h2
 rfl
theorem law_ParsePlaces (x:List UInt8):jt x=some true:=by
 unfold jt law12_short
 rw[awake12,Option.bind_some,if_neg (by simp),Option.bind_some]
 by_cases hx:x.length<=2500
 ·rw[if_neg (by simp;omega)]
  obtain⟨l,m,hF,hm1,hm2,hm3,hc⟩:=File_one (x:=x) (by omega)
  rw[hF]
  simp only[Option.bind_some]
  rcases hc with⟨h0,rfl⟩|⟨h0,T,hT,hL,hk,hd⟩
  ·rw[if_pos (by simpa using h0),if_pos (by simp),if_pos (by simp;omega),if_pos (by simp;omega),hm1]
   rfl
  ·rw[if_neg (by simp[h0])]
   have hT:=tokP_of (by omega) hT
   have hlen:=hT.len
   have hsz:=hL.sz
   have hln:=fm l
   obtain⟨o,h1,h2⟩:=iter_ind (f:=fun s:Int × Int=>ei l x s.1 s.2) (fun s=>∃i:Nat,i<=l.length/\s.2=(i:Int)/\(if h:0<i/\i<=l.length then s.1=(l[i - 1]'(by omega)).To else s.1=0)) (fun o=>o= .next ()) (fun s=>l.length - s.2.toNat) (by
    rintro⟨at_,_⟩ ⟨i,hi,rfl,hat⟩
    simp only at hat
    unfold ei ej
    by_cases hlt:i<l.length
    ·left
     have hmem:=List.getElem_mem hlt
     have hg:=gdL_mem hL.gd hmem
     have hc:=chain_at hlt hL.ch
     have hnm:=nsize_mem hmem
     have ha0:=aT_nat hT hT.pos
     have hat2:at_<=l[i].From:=by
      by_cases h0:0<i
      ·rw[dif_pos ⟨h0,by omega⟩]at hat
       rw[dif_pos h0]at hc
       omega
      ·rw[dif_neg (by omega)]at hat
       rw[dif_neg h0]at hc
       omega
     rw[if_pos (by simp[hlt])]
     simp only[idx_lt hlt,Option.bind_some,within_ok (by omega) hg (by omega)]
     rw[if_neg (by simp),if_neg (by simp[hk _ hmem]),if_neg (by simp;omega)]
     refine⟨_,rfl,⟨i+1,by omega,gc (by omega),?_⟩,?_⟩
     ·rw[dif_pos ⟨by omega,by omega⟩]
      simp
     ·simp only
      rw[gc (by omega)]
      omega
    ·right
     rw[if_neg (by simp;omega)]
     exact⟨_,rfl,rfl⟩) (0,0) ⟨0,by omega,rfl,by simp⟩
   rw[h1]
   subst h2
   rfl
 ·rw[if_pos (by simp;omega)]
end Go.Proofs.YtackaijkmkollaaGreatDoor
