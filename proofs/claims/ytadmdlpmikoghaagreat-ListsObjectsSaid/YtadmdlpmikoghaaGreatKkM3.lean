/- A part of a proof. -/
import Derived.Test.YtadmdlpmikoghaaGreatKkM2
import Derived.Maps.RangeRun
set_option maxRecDepth 4000
set_option linter.unusedSimpArgs false
set_option linter.unusedVariables false
namespace Go.HL
open Nat renaming reduceAdd→zA,reduceLeDiff→zB,reduceLT→zC,reduceSub→zD,reduceMul→zE,reduceEqDiff→zF,reduceBEq→zG
open Int renaming reduceAdd→zH,reduceToNat→zI
theorem qa0:∀ (vs cs:List AV) (off:Nat),off+vs.length≤cs.length→q1n cs off vs=cs.take off++(vs++cs.drop (off+vs.length))
 | [],cs,off,h=>by simp [q1n]
 | v :: r,cs,off,h=>by
  simp only [List.length_cons] at h
  have ih:=qa0 r (cs.set off v) (off+1) (by rw [List.length_set];omega)
  show q1n (cs.set off v) (off+1) r=_
  rw [ih]
  have hlt:off<cs.length:=by omega
  have e1:(cs.set off v).take (off+1)=cs.take off++[v]:=by
   rw [List.set_eq_take_append_cons_drop,if_pos hlt,List.take_append,List.length_take,Nat.min_eq_left (by omega)]
   have:off+1-off=1:=by omega
   rw [this,List.take_of_length_le (by rw [List.length_take];omega)]
   rfl
  have e2:(cs.set off v).drop (off+1+r.length)=cs.drop (off+(v :: r).length):=by
   rw [List.drop_set_of_lt (by omega)]
   congr 1
   simp only [List.length_cons]
   omega
  rw [e1,e2,List.append_assoc]
  rfl
section
variable {α:Type} {enc:α→List AV} {sz:Nat}
def upv (v:Nat→α) (i:Nat) (x:α):Nat→α:=fun k=>if k=i then x else v k
def fl (enc:α→List AV) (n:Nat) (v:Nat→α):List AV:=((vl n v).map enc).flatten
theorem sw_upv {v:Nat→α} {i j:Nat}:upv (upv v i (v j)) j (v i)=sw v i j:=rfl
theorem fl_rows (he:∀ x,(enc x).length=sz) {n:Nat} {v:Nat→α}:∀ r∈(vl n v).map enc,r.length=sz:=fun r hr=>by
 obtain ⟨x,-,rfl⟩:=List.mem_map.1 hr
 exact he x
theorem q3g (he:∀ x,(enc x).length=sz) {n:Nat} {v:Nat→α}:(fl enc n v).length=n * sz:=by
 unfold fl
 rw [q25 (fl_rows he),List.length_map,q29]
theorem vl_add {n k:Nat} {v:Nat→α}:vl (n+k) v=vl n v++(List.range' n k).map v:=by
 unfold vl
 rw [← List.map_append,List.range_eq_range',List.range_eq_range']
 congr 1
 have:=List.range'_append (s:=0) (m:=n) (n:=k) (step:=1)
 rw [show 0+1 * n=n by omega] at this
 exact this.symm
theorem vl_succ {n:Nat} {v:Nat→α}:vl (n+1) v=vl n v++[v n]:=by rw [vl_add];rfl
theorem fl_split (he:∀ x,(enc x).length=sz) {n i:Nat} (hi:i≤n) {v:Nat→α}:∃ rest,fl enc n v=fl enc i v++rest:=by
 obtain ⟨k,rfl⟩:∃ k,n=i+k:=⟨n-i,by omega⟩
 refine ⟨(((List.range' i k).map v).map enc).flatten,?_⟩
 unfold fl
 rw [vl_add,List.map_append,List.flatten_append]
theorem fl_take (he:∀ x,(enc x).length=sz) {n i:Nat} (hi:i≤n) {v:Nat→α}:(fl enc n v).take (i * sz)=fl enc i v:=by
 obtain ⟨rest,e⟩:=fl_split (v:=v) he hi
 rw [e,List.take_append_of_le_length (by rw [q3g he];exact Nat.le_refl _),List.take_of_length_le (by rw [q3g he];exact Nat.le_refl _)]
theorem fl_succ {n:Nat} {v:Nat→α}:fl enc (n+1) v=fl enc n v++enc (v n):=by
 unfold fl
 rw [vl_succ,List.map_append,List.flatten_append]
 simp
theorem fl_drop (he:∀ x,(enc x).length=sz) {n i:Nat} (hi:i<n) {v:Nat→α}:∃ rest,(fl enc n v).drop (i * sz)=enc (v i)++rest:=by
 obtain ⟨rest,e⟩:=fl_split (v:=v) (i:=i+1) he hi
 refine ⟨rest,?_⟩
 rw [e,fl_succ,List.append_assoc,List.drop_append_of_le_length (by rw [q3g he];exact Nat.le_refl _),List.drop_of_length_le (by rw [q3g he];exact Nat.le_refl _)]
 rfl
theorem fl_cong {n:Nat} {v w:Nat→α} (h:∀ i,i<n→v i=w i):fl enc n v=fl enc n w:=by
 unfold fl vl
 congr 2
 exact List.map_congr_left fun i hi=>h i (by simpa using hi)
theorem fl_fill (he:∀ x,(enc x).length=sz) {n i:Nat} (hi:i<n) {v:Nat→α} {x:α}:q1n (fl enc n v) (i * sz) (enc x)=fl enc n (upv v i x):=by
 have hle:i * sz+sz≤n * sz:=by
  calc i * sz+sz=(i+1) * sz:=by rw [Nat.succ_mul]
   _≤n * sz:=Nat.mul_le_mul_right _ hi
 rw [qa0 _ _ _ (by rw [he,q3g he];exact hle),fl_take he (by omega),he]
 obtain ⟨k,rfl⟩:∃ k,n=i+1+k:=⟨n-(i+1),by omega⟩
 have e:∀ w:Nat→α,fl enc (i+1+k) w=fl enc i w++(enc (w i)++(((List.range' (i+1) k).map w).map enc).flatten):=by
  intro w
  have:fl enc (i+1+k) w=fl enc (i+1) w++(((List.range' (i+1) k).map w).map enc).flatten:=by
   unfold fl
   rw [vl_add,List.map_append,List.flatten_append]
  rw [this,fl_succ,List.append_assoc]
 rw [e v,e (upv v i x)]
 have e1:fl enc i (upv v i x)=fl enc i v:=fl_cong fun j hj=>if_neg (by omega)
 have e2:(List.range' (i+1) k).map (upv v i x)=(List.range' (i+1) k).map v:=List.map_congr_left fun j hj=>if_neg (by simp at hj;omega)
 have e3:upv v i x i=x:=if_pos rfl
 rw [e1,e2,e3]
 have hd:∀ R:List AV,(fl enc i v++(enc (v i)++R)).drop (i * sz+sz)=R:=fun R=>by
  rw [← List.append_assoc,List.drop_left' (by rw [List.length_append,q3g he,he])]
 rw [hd]
end
def OwnL {α:Type} (S0 S:q00) (t sz:Nat) (enc:α→List AV) (a:AV) (n:Nat) (v:Nat→α):Prop:=
 (a=.nils∧n=0)∨∃ b cap,a=.own b 0 n cap∧sget S0 b=none∧sget S b=some (.cells t (fl enc n v) (cap * sz))∧n≤cap∧cap≤maxLen
theorem OwnL.lstW {α:Type} {S0 S:q00} {t sz:Nat} {enc:α→List AV} (he:∀ x,(enc x).length=sz) {a:AV} {n:Nat} {v:Nat→α} (h:OwnL S0 S t sz enc a n v):LstW S0 S t sz a ((vl n v).map enc):=by
 refine ⟨fl_rows he,?_⟩
 rcases h with ⟨rfl,rfl⟩ | ⟨b,cap,rfl,h1,h2,h3,h4⟩
 ·exact .inl ⟨rfl,rfl⟩
 ·refine .inr ⟨b,cap,_,?_,h1,h2,?_,?_,?_,h4⟩
  ·rw [List.length_map,q29]
  ·rw [List.length_map,q29,List.take_of_length_le (by rw [q3g he];exact Nat.le_refl _)];rfl
  ·rw [List.length_map,q29,q3g he];exact Nat.le_refl _
  ·rw [List.length_map,q29];exact h3
def at' {α:Type} [Inhabited α] (l:List α):Nat→α:=fun i=>l.getD i default
theorem vl_at {α:Type} [Inhabited α] (l:List α):vl l.length (at' l)=l:=vl_of l default
instance:Inhabited Tu:=⟨⟨⟨⟨#[]⟩,⟨#[]⟩⟩,⟨#[]⟩,⟨⟨⟨#[]⟩,⟨#[]⟩⟩,⟨#[]⟩⟩⟩⟩
instance:Inhabited Ob:=⟨⟨⟨#[]⟩,⟨#[]⟩⟩⟩
theorem q2k (t:Tu):(tuC t).length=6:=rfl
theorem c_Clone {l:List Tu} (hb:l.length≤100000) (S:q00):ACalls PG nrx113 [.sl 6 (l.map tuC)] S fun ae S'=>∃ a,ae=.ret a∧Sub S S'∧OwnL S S' tyTu 6 tuC a l.length (at' l):=by
 refine wx113 ?_
 unfold Bx113
 have hfl:fl tuC l.length (at' l)=(l.map tuC).flatten:=by unfold fl;rw [vl_at]
 have app:bsW S tyTu 6 [] fun v5 S2=>apW S2 tyTu 6 96 v5 (.sl 6 (l.map tuC)) fun v7 S1=>rtW [.tmp v7] (fun ae S'=>∃ a,ae=.ret a∧Sub S S'∧OwnL S S' tyTu 6 tuC a l.length (at' l)) S1:=by
  refine ⟨trivial,fun b hb0=>?_⟩
  refine ⟨l.length,(l.map tuC).flatten,by simp [appX],q1t fun r hr=>by obtain ⟨t,-,rfl⟩:=List.mem_map.1 hr;rfl,?_⟩
  refine ⟨[],by rw [q01,if_pos rfl];rfl,Nat.le_refl _,Nat.zero_le _,by simp,by simp only [List.length_nil];omega,fun b' cap' k1 k2 k3=>?_⟩
  have hb':sget S b'=none:=by
   rcases k1 with rfl | k1
   ·exact hb0
   ·rw [q01] at k1
    split at k1
    ·cases k1
    ·exact k1
  refine q02 ⟨_,rfl,Sub.supd hb' (fun c o hc=>?_),.inr ⟨b',cap',by simp,hb',by rw [q01,if_pos rfl,hfl];simp,by simpa using k2,k3⟩⟩
  have hne:b≠c:=q0f hb0 hc
  rw [q0a,if_neg hne,q01,if_neg hne]
  exact hc
 cases l with
 | nil=>exact ⟨q41 app,⟨fun _=>q02 ⟨_,rfl,Sub.refl _,.inl ⟨rfl,rfl⟩⟩,fun h=>by cases h⟩⟩
 | cons t r=>exact q41 app
section
variable {S0 S:q00} {a:AV} {n:Nat} {u:Nat→Tu} {g:Nat} {fi ca:List AV} {p:Tu→Bool}
theorem c_IndexT (h:OwnL S0 S tyTu 6 tuC a n u) (hb:n≤100000) (hp:∀ i,i<n→AFun PG g (fi++[.agg (tuC (u i))]++ca) (.bool (p (u i)))) :
  ACalls PG nrx155 [a,.func (.func g) fi ca] S fun ae S'=>S'=S∧((ae=.ret (.int .i64 (-1))∧∀ i,i<n→p (u i)=false)∨∃ k:Nat,k<n∧ae=.ret (.int .i64 k)∧p (u k)=true∧∀ i,i<k→p (u i)=false):=by
 refine wx155 ?_
 unfold Bx155
 have hl:=h.lstW q2k
 rw [hl.ln,List.length_map,q29]
 refine LoopP.introS (fun i:Nat=>[(0,a),(1,.func (.func g) fi ca),(7,.int .i64 n),(8,.int .i64 i)]) (fun i S'=>S'=S∧i≤n∧∀ j,j<i→p (u j)=false) (fun i=>n-i) 0 ⟨rfl,by omega,fun j hj=>by omega⟩ rfl ?_
 rintro i S' ⟨rfl,hi,hno⟩ kk hkk
 (try simp only [rwp,zA,zB,zC,zD,zE,zF,zG,zH,zI,rwb,reduceIte,C155_1])
 (refine q03 (fun hlt=>?_) (fun hlt=>?_)<;>(try simp only [hlc] at hlt))
 ·have hin:i<n:=by omega
  rcases h with ⟨rfl,e⟩ | ⟨b,cap,rfl,h1,h2,h3,h4⟩
  ·omega
  ·have hc:=q07 (objAt_some.2 h2)
   obtain ⟨rest,hd⟩:=fl_drop (v:=u) q2k hin
   rw [show tuC (u i)=[.str (u i).o.ty,.str (u i).o.id,.str (u i).rl,.str (u i).s.o.ty,.str (u i).s.o.id,.str (u i).s.rl] from rfl] at hd
   simp only [List.cons_append,List.nil_append] at hd
   (try simp only [rwp,zA,zB,zC,zD,zE,zF,zG,zH,zI,rwb,reduceIte,hc,Int.toNat_natCast,Nat.zero_add,hd])
   refine ⟨hlt,?_⟩
   have q:=hp i hin
   rw [show tuC (u i)=[.str (u i).o.ty,.str (u i).o.id,.str (u i).rl,.str (u i).s.o.ty,.str (u i).s.o.id,.str (u i).s.rl] from rfl] at q
   refine caW_purev q ?_
   cases hq:p (u i)
   ·(try simp only [rwp,zA,zB,zC,zD,zE,zF,zG,zH,zI,rwb,reduceIte])
    (simp (disch:=omega) only [q04])
    refine q08 rfl (hkk (i+1) _ ⟨rfl,by omega,fun j hj=>?_⟩ (by omega))
    by_cases e:j=i
    ·rw [e];exact hq
    ·exact hno j (by omega)
   ·(try simp only [rwp,zA,zB,zC,zD,zE,zF,zG,zH,zI,rwb,reduceIte])
    exact q02 ⟨rfl,.inr ⟨i,hin,rfl,hq,hno⟩⟩
 ·(try simp only [rwp,zA,zB,zC,zD,zE,zF,zG,zH,zI,rwb,reduceIte])
  exact q02 ⟨rfl,.inl ⟨rfl,fun j hj=>hno j (by omega)⟩⟩
end
theorem filter_none {α:Type} {p:α→Bool} {n:Nat} {u:Nat→α} (h:∀ i,i<n→p (u i)=true):(vl n u).filter p=vl n u:=by
 rw [List.filter_eq_self]
 intro x hx
 obtain ⟨i,hi,rfl⟩:=List.mem_map.1 hx
 exact h i (by simpa using hi)
theorem c_DeleteT {S0 S:q00} {a:AV} {n:Nat} {u:Nat→Tu} {g:Nat} {fi ca:List AV} {p:Tu→Bool} (hs:Sub S0 S) (h:OwnL S0 S tyTu 6 tuC a n u) (hb:n≤100000) (hp:∀ i,i<n→AFun PG g (fi++[.agg (tuC (u i))]++ca) (.bool (p (u i)))) :
  ACalls PG nrx112 [a,.func (.func g) fi ca] S fun ae S'=>∃ a',ae=.ret a'∧Sub S0 S'∧LstW S0 S' tyTu 6 a' (((vl n u).filter fun t=>!p t).map tuC):=by
 refine wx112 ?_
 unfold Bx112
 refine q0b (c_IndexT h hb hp) ?_
 rintro ae S' ⟨rfl,⟨rfl,hno⟩ | ⟨k,hk,rfl,hpk,hno⟩⟩
 ·dsimp only
  (try simp only [rwp,zA,zB,zC,zD,zE,zF,zG,zH,zI,rwb,reduceIte])
  refine q02 ⟨a,rfl,hs,?_⟩
  rw [filter_none (p:=fun t=>!p t) (n:=n) (u:=u) fun i hi=>by simp [hno i hi]]
  exact h.lstW q2k
 ·rcases h with ⟨rfl,e⟩ | ⟨b,cap,rfl,h1,h2,h3,h4⟩
  ·omega
  ·dsimp only
   (try simp only [rwp,zA,zB,zC,zD,zE,zF,zG,zH,zI,rwb,reduceIte])
   rw [decide_eq_false (show ¬ (k:Int)=-1 by omega)]
   (try simp only [rwp,zA,zB,zC,zD,zE,zF,zG,zH,zI,rwb,reduceIte])
   (simp (disch:=omega) only [q04])
   refine LoopP.introS (fun x:Nat×Nat=>[(0,.own b 0 n cap),(1,.func (.func g) fi ca),(5,.int .i64 x.1),(6,.int .i64 x.2)])
    (fun x S2=>x.1<x.2∧x.2≤n∧∃ v,S2=supd S' b (.cells tyTu (fl tuC n v) (cap * 6))∧vl x.1 v=(vl x.2 u).filter (fun t=>!p t)∧∀ i,x.2≤i→v i=u i) (fun x=>n-x.2) (k,k+1)
    ⟨by dsimp only;omega,by dsimp only;omega,u,?_,?_,fun _ _=>rfl⟩ rfl ?_
   ·funext c
    unfold supd
    split
    ·rename_i e;subst e;exact h2
    ·rfl
   ·dsimp only
    rw [vl_succ,List.filter_append,filter_none (p:=fun t=>!p t) (n:=k) (u:=u) fun i hi=>by simp [hno i hi]]
    simp [hpk]
   ·rintro ⟨i,j⟩ S2 ⟨hij,hj,v,rfl,hv,hr⟩ kk hkk
    dsimp only at hij hj hv hr ⊢
    (try simp only [rwp,zA,zB,zC,zD,zE,zF,zG,zH,zI,rwb,reduceIte,C112_1])
    have ho:q0j (supd S' b (.cells tyTu (fl tuC n v) (cap * 6))) b=some (tyTu,fl tuC n v,cap * 6):=q0m
    have hc:=q07 ho
    (refine q03 (fun hlt=>?_) (fun hlt=>?_)<;>(try simp only [hlc] at hlt))
    ·have hjn:j<n:=by omega
     obtain ⟨rest,hd⟩:=fl_drop (v:=v) q2k hjn
     rw [hr j (Nat.le_refl _)] at hd
     have ec:tuC (u j)=[.str (u j).o.ty,.str (u j).o.id,.str (u j).rl,.str (u j).s.o.ty,.str (u j).s.o.id,.str (u j).s.rl]:=rfl
     rw [ec] at hd
     simp only [List.cons_append,List.nil_append] at hd
     (try simp only [rwp,zA,zB,zC,zD,zE,zF,zG,zH,zI,rwb,reduceIte,hc,Int.toNat_natCast,Nat.zero_add,hd])
     refine ⟨hlt,?_⟩
     have q:=hp j hjn
     rw [ec] at q
     refine caW_purev q ?_
     have fs:(vl (j+1) u).filter (fun t=>!p t)=(vl j u).filter (fun t=>!p t)++if p (u j) then [] else [u j]:=by
      rw [vl_succ,List.filter_append]
      congr 1
      cases hq:p (u j)<;>simp [hq]
     cases hq:p (u j)
     ·rw [hq] at fs
      have ff:=fl_fill (v:=v) (x:=u j) q2k (show i<n by omega)
      rw [ec] at ff
      (try simp only [rwp,zA,zB,zC,zD,zE,zF,zG,zH,zI,rwb,reduceIte,ho,Int.toNat_natCast,Nat.zero_add,ff])
      refine ⟨by omega,?_⟩
      have fits:i * 6+6≤(fl tuC n v).length:=by rw [q3g q2k];omega
      (simp (disch:=omega) only [q04])
      (try simp only [rwp,zA,zB,zC,zD,zE,zF,zG,zH,zI,rwb,reduceIte,fits,q18])
      refine q08 rfl (hkk (i+1,j+1) _ ⟨by dsimp only;omega,by dsimp only;omega,upv v i (u j),rfl,?_,fun m hm=>?_⟩ (by dsimp only;omega))
      ·dsimp only
       rw [fs,← hv,vl_succ]
       have e1:vl i (upv v i (u j))=vl i v:=by unfold vl;exact List.map_congr_left fun m hm=>if_neg (by simp at hm;omega)
       rw [e1]
       congr 1
       rw [show upv v i (u j) i=u j from if_pos rfl]
       rfl
      ·dsimp only at hm ⊢
       rw [show upv v i (u j) m=v m from if_neg (by omega)]
       exact hr m (by omega)
     ·rw [hq] at fs
      (try simp only [rwp,zA,zB,zC,zD,zE,zF,zG,zH,zI,rwb,reduceIte])
      (simp (disch:=omega) only [q04])
      refine q08 rfl (hkk (i,j+1) _ ⟨by dsimp only;omega,by dsimp only;omega,v,rfl,?_,fun m hm=>hr m (by dsimp only at hm;omega)⟩ (by dsimp only;omega))
      dsimp only
      rw [fs,hv]
      simp
    ·have e:j=n:=by omega
     subst e
     (try simp only [rwp,zA,zB,zC,zD,zE,zF,zG,zH,zI,rwb,reduceIte,loI,hiI,cutI])
     refine ⟨by omega,by omega,⟨tyTu,fl tuC j v,cap * 6,by rw [q01,if_pos rfl],?_,rfl,rfl,?_⟩⟩
     ·rw [q3g q2k]
      split
      ·omega
      ·omega
     ·refine ⟨Int.le_refl 0,by omega,?_⟩
      rw [show AV.own b (if cap=0 then 0 else 0) (i-0) (cap-0)=.own b 0 i cap by simp,q18,← hv]
      refine q02 ⟨_,rfl,Sub.supd h1 hs,fl_rows q2k,.inr ⟨b,cap,_,by rw [List.length_map,q29],h1,by rw [q01,if_pos rfl],?_,?_,by rw [List.length_map,q29];omega,h4⟩⟩
      ·rw [List.length_map,q29]
       split
       ·rename_i e
        have ej:j-i=0:=by omega
        rw [ej]
        exact fl_take q2k (by omega)
       ·rw [qa0 _ _ _ (by rw [q9u,q3g q2k];simp only [List.length_cons,List.length_nil];omega),List.take_append_of_le_length (by rw [List.length_take,q3g q2k];omega),List.take_take,Nat.min_self]
        exact fl_take q2k (by omega)
      ·rw [List.length_map,q29]
       split
       ·rename_i e
        have ej:j-i=0:=by omega
        rw [ej]
        show i * 6≤(fl tuC j v).length
        rw [q3g q2k]
        omega
       ·rw [qa0 _ _ _ (by rw [q9u,q3g q2k];simp only [List.length_cons,List.length_nil];omega)]
        simp only [List.length_append,List.length_take,q3g q2k]
        omega
set_option maxRecDepth 4000
set_option maxRecDepth 4000
abbrev tyOb:Nat:=27
theorem drop_two {cs:List AV} {p:Nat} {a b:AV} (h:(cs.drop p).take 2=[a,b]):∃ rest,cs.drop p=a :: b :: rest:=by
 refine ⟨(cs.drop p).drop 2,?_⟩
 have:=List.take_append_drop 2 (cs.drop p)
 rw [h] at this
 exact this.symm
theorem ob_dec14 {a b:Ob}:decide (a=b)=(decide (a.ty=b.ty)&&decide (a.id=b.id)):=by
 rw [Bool.eq_iff_iff]
 cases a;cases b
 simp
set_option maxRecDepth 4000
theorem LstW.keep {S0 S S':q00} {t sz:Nat} {u v v':AV} {rows:List (List AV)} (h:LstW S0 S t sz u rows) (ha:∀ b off n cap,u=.own b off n cap→q0x v b) (hk:∀ c o,sget S c=some o→q0x v c→sget S' c=some o∧q0x v' c) :
  LstW S0 S' t sz u rows∧∀ b off n cap,u=.own b off n cap→q0x v' b:=by
 obtain ⟨hr,h⟩:=h
 rcases h with ⟨rfl,rfl⟩ | ⟨b,cap,cs,rfl,h1,h2,h3⟩
 ·exact ⟨⟨hr,.inl ⟨rfl,rfl⟩⟩,fun b off n cap e=>by cases e⟩
 ·obtain ⟨k1,k2⟩:=hk b _ h2 (ha b _ _ _ rfl)
  exact ⟨⟨hr,.inr ⟨b,cap,cs,rfl,h1,k1,h3⟩⟩,fun b off n cap e=>by cases e;exact k2⟩
set_option maxRecDepth 4000
abbrev MO:Bool×List EK:=(true,[.str,.str])
def obA (o:Ob):AV:=.agg (obC o)
theorem ke_ob:KE MO obA:=⟨fun n=>by simp [obA,obC,q0s,q1d,ekOk],fun n m h=>by
 obtain ⟨a,b⟩:=n
 obtain ⟨d,e⟩:=m
 simp only [obA,obC,AV.agg.injEq,List.cons.injEq,AV.str.injEq,and_true] at h
 obtain ⟨rfl,rfl⟩:=h
 rfl⟩
section
variable {S0 S S':q00} {t bo:Nat} {Ks Ks':Nat→Prop} {f:Nd→List (List AV)} {es:List (AV×AV×Nat)} {clk:Nat}
theorem OfM.nil {bo:Nat} (hb:sget S0 bo=none) (hs:sget S bo=some (.map MD [] 0)) (hK:∀ c,Ks c→c≠bo∧sget S c≠none):OfM S0 S t bo Ks (fun _=>[]) [] 0:=
 ⟨hs,hb,fun x hx=>(by cases hx),by simp,fun i j x y hx=>by simp at hx,fun x hx=>(by cases hx),fun m _=>rfl,fun m v hv=>(by cases hv),fun m p v u _ hv=>(by cases hv),hK⟩
end
set_option maxRecDepth 4000
set_option maxRecDepth 4000
set_option maxRecDepth 4000
set_option maxRecDepth 4000
theorem Fr.lstW {S0 S:q00} {t sz:Nat} {v:AV} {rows:List (List AV)} (h:LstW S0 S t sz v rows):Fr S0 S v (.sl sz rows):=by
 obtain ⟨hr,⟨rfl,rfl⟩ | ⟨b,cap,cs,rfl,h1,h2,h3,h4,h5,h6⟩⟩:=h
 ·exact .nils sz
 ·exact .ownW t sz b _ cap rows cs hr h1 h2 h3 rfl h5
theorem LstN.keepAt {S0 S S':q00} {t sz:Nat} {v:AV} {rows:List (List AV)} (h:LstN S0 S t sz v rows) (hk:∀ b off n cap,v=.own b off n cap→sget S' b=sget S b):LstN S0 S' t sz v rows:=by
 obtain ⟨hr,h⟩:=h
 refine ⟨hr,?_⟩
 rcases h with h | ⟨b,cap,rfl,h1,h2,h3⟩
 ·exact .inl h
 ·exact .inr ⟨b,cap,rfl,h1,by rw [hk b _ _ _ rfl];exact h2,h3⟩
def ofL (L:List Tu) (n:Nd):List (List AV):=((ofF L n).map Tu.s).map ndC
theorem ofL_take {L:List Tu} {i:Nat} {t:Tu} (h:L[i]?=some t) (n:Nd):ofL (L.take (i+1)) n=ofL (L.take i) n++if n=ndT t then [ndC t.s] else []:=by
 unfold ofL ofF
 rw [q2g h,List.map_append,List.map_append]
 congr 1
 by_cases h2:n=ndT t
 ·rw [if_pos h2]
  subst h2
  simp [ndT]
 ·rw [if_neg h2]
  have:(decide (t.o=n.o)&&decide (t.rl=n.rl))=false:=by
   rw [Bool.eq_false_iff]
   intro hq
   simp only [Bool.and_eq_true,decide_eq_true_eq] at hq
   refine h2 ?_
   cases n
   simp only [ndT,Nd.mk.injEq]
   exact ⟨hq.1.symm,hq.2.symm⟩
  simp [this]
set_option maxRecDepth 4000
section
variable {α:Type} {lt:α→α→Bool}
structure StOk (lt:α→α→Bool):Prop where
 ok:LtOk lt
 tot:∀ x y,lt x y=false→lt y x=false→x=y
theorem StOk.irr (h:StOk lt) (x:α):lt x x=false:=Le.refl h.ok x
theorem StOk.le_lt (h:StOk lt) {x y z:α} (h1:lt y x=false) (h2:lt y z=true):lt x z=true:=by
 cases e:lt x z with
 | true=>rfl
 | false=>
  have:=h.ok.tr z x y e h1
  rw [h2] at this
  cases this
theorem StOk.trans (h:StOk lt) {x y z:α} (h1:lt x y=true) (h2:lt y z=true):lt x z=true:=h.le_lt (h.ok.asy _ _ h1) h2
def Asc (lt:α→α→Bool) (l:List α):Prop:=l.Pairwise fun x y=>lt x y=true
theorem Asc.uniq (h:StOk lt):∀ {l m:List α},Asc lt l→Asc lt m→(∀ x,x∈l↔x∈m)→l=m
 | [],[],_,_,_=>rfl
 | [],b :: m,_,_,hm=>by have:=(hm b).2 (by simp);cases this
 | a :: l,[],_,_,hm=>by have:=(hm a).1 (by simp);cases this
 | a :: l,b :: m,ha,hb,hm=>by
  obtain ⟨ha1,ha2⟩:=List.pairwise_cons.1 ha
  obtain ⟨hb1,hb2⟩:=List.pairwise_cons.1 hb
  have hab:a=b:=by
   rcases List.mem_cons.1 ((hm a).1 (by simp)) with e | e
   ·exact e
   ·rcases List.mem_cons.1 ((hm b).2 (by simp)) with e' | e'
    ·exact e'.symm
    ·have h1:=hb1 a e
     have h2:=ha1 b e'
     rw [h.ok.asy _ _ h2] at h1
     cases h1
  subst hab
  rw [Asc.uniq h (l:=l) (m:=m) ha2 hb2 fun x=>?_]
  constructor
  ·intro hx
   rcases List.mem_cons.1 ((hm x).1 (List.mem_cons_of_mem _ hx)) with e | e
   ·subst e
    have:=ha1 x hx
    rw [h.irr] at this
    cases this
   ·exact e
  ·intro hx
   rcases List.mem_cons.1 ((hm x).2 (List.mem_cons_of_mem _ hx)) with e | e
   ·subst e
    have:=hb1 x hx
    rw [h.irr] at this
    cases this
   ·exact e
variable [DecidableEq α]
def dd (u:Nat→α):Nat→List α
 | 0=>[]
 | i+1=>if 0<i∧u i=u (i-1) then dd u i else dd u i++[u i]
def insO (lt:α→α→Bool):List α→α→List α
 | [],x=>[x]
 | y :: r,x=>if lt y x=true then y :: insO lt r x else if y=x then y :: r else x :: y :: r
theorem mem_insO {x z:α}:∀ {l:List α},z∈insO lt l x↔z∈l∨z=x
 | []=>by simp [insO]
 | y :: r=>by
  have ih:=mem_insO (x:=x) (z:=z) (l:=r)
  unfold insO
  split
  ·rw [List.mem_cons,List.mem_cons,ih,or_assoc]
  ·split
   ·rename_i e
    subst e
    simp only [List.mem_cons]
    constructor
    ·exact .inl
    ·rintro (h | h)
     ·exact h
     ·exact .inl h
   ·simp only [List.mem_cons]
    constructor
    ·rintro (h | h)
     ·exact .inr h
     ·exact .inl h
    ·rintro (h | h)
     ·exact .inr h
     ·exact .inl h
theorem insO_len {x:α}:∀ {l:List α},(insO lt l x).length≤l.length+1
 | []=>by simp [insO]
 | y :: r=>by
  have ih:=insO_len (x:=x) (l:=r)
  unfold insO
  split
  ·simp only [List.length_cons];omega
  ·split<;>simp
theorem insO_asc (h:StOk lt) {x:α}:∀ {l:List α},Asc lt l→Asc lt (insO lt l x)
 | [],_=>List.pairwise_singleton _ _
 | y :: r,hl=>by
  obtain ⟨h1,h2⟩:=List.pairwise_cons.1 hl
  have ih:=insO_asc h (x:=x) (l:=r) h2
  unfold insO
  split
  ·rename_i hyx
   refine List.pairwise_cons.2 ⟨fun z hz=>?_,ih⟩
   rcases mem_insO.1 hz with hz | rfl
   ·exact h1 z hz
   ·exact hyx
  ·rename_i hyx
   split
   ·exact hl
   ·rename_i hne
    have hlt:lt x y=true:=by
     cases e:lt x y with
     | true=>rfl
     | false=>exact absurd (h.tot _ _ (by simpa using hyx) e) hne
    refine List.pairwise_cons.2 ⟨fun z hz=>?_,hl⟩
    rcases List.mem_cons.1 hz with rfl | hz
    ·exact hlt
    ·exact h.trans hlt (h1 z hz)
theorem insO_at {x:α}:∀ {k:Nat} {l:List α},(∀ y∈l.take k,lt y x=true)→insO lt l x=l.take k++insO lt (l.drop k) x
 | 0,l,_=>by simp
 | k+1,[],_=>by simp
 | k+1,y :: r,h=>by
  have ih:=insO_at (x:=x) (k:=k) (l:=r) fun z hz=>h z (by simp [hz])
  have hy:=h y (by simp)
  rw [List.take_succ_cons,List.drop_succ_cons,List.cons_append,← ih]
  conv=>lhs;unfold insO
  rw [if_pos hy]
def srtO (lt:α→α→Bool) (l:List α):List α:=l.foldl (insO lt) []
theorem srtO_snoc {l:List α} {x:α}:srtO lt (l++[x])=insO lt (srtO lt l) x:=by
 unfold srtO
 rw [List.foldl_append]
 rfl
theorem q6c (h:StOk lt):∀ (l:List α) (n:Nat),l.length=n→Asc lt (srtO lt l)∧(∀ z,z∈srtO lt l↔z∈l)∧(srtO lt l).length≤l.length:=by
 intro l n
 induction n generalizing l with
 | zero=>
  intro hl
  have:l=[]:=List.length_eq_zero_iff.1 hl
  subst this
  exact ⟨List.Pairwise.nil,fun z=>by simp [srtO],Nat.le_refl _⟩
 | succ n ih=>
  intro hl
  rcases List.eq_nil_or_concat l with rfl | ⟨r,x,e⟩
  ·cases hl
  ·rw [e] at hl ⊢
   simp only [List.concat_eq_append,List.length_append,List.length_singleton] at hl ⊢
   obtain ⟨h1,h2,h3⟩:=ih r (by omega)
   rw [srtO_snoc]
   refine ⟨insO_asc h h1,fun z=>?_,Nat.le_trans insO_len (by omega)⟩
   rw [mem_insO,h2,List.mem_append,List.mem_singleton]
end
set_option maxRecDepth 4000
abbrev cmpB (a b:ByteArray):Int:=Lib.compareBytes a.data.toList b.data.toList
theorem cb_refl:∀ (l:List UInt8),Lib.compareBytes l l=0
 | []=>rfl
 | a :: r=>by
  unfold Lib.compareBytes
  have h:¬ a<a:=by rw [UInt8.lt_iff_toNat_lt];omega
  rw [if_neg h,if_neg h]
  exact cb_refl r
theorem cb_anti:∀ (l m:List UInt8),Lib.compareBytes l m =-Lib.compareBytes m l
 | [],[]=>rfl
 | [],_ :: _=>rfl
 | _ :: _,[]=>rfl
 | a :: r,b :: q=>by
  have ih:=cb_anti r q
  unfold Lib.compareBytes
  by_cases h1:a<b
  ·have h2:¬ b<a:=by rw [UInt8.lt_iff_toNat_lt] at h1 ⊢;omega
   rw [if_pos h1,if_neg h2,if_pos h1]
  ·by_cases h2:b<a
   ·rw [if_neg h1,if_pos h2,if_pos h2];rfl
   ·rw [if_neg h1,if_neg h2,if_neg h2,if_neg h1];exact ih
theorem cb_eq:∀ (l m:List UInt8),Lib.compareBytes l m=0→l=m
 | [],[],_=>rfl
 | [],_ :: _,h=>by cases h
 | _ :: _,[],h=>by cases h
 | a :: r,b :: q,h=>by
  have ih:=cb_eq r q
  unfold Lib.compareBytes at h
  by_cases h1:a<b
  ·rw [if_pos h1] at h;cases h
  ·by_cases h2:b<a
   ·rw [if_neg h1,if_pos h2] at h;cases h
   ·rw [if_neg h1,if_neg h2] at h
    have:a=b:=by
     rw [UInt8.lt_iff_toNat_lt] at h1 h2
     exact UInt8.toNat_inj.1 (by omega)
    rw [this,ih h]
theorem cb_trans:∀ (l m k:List UInt8),Lib.compareBytes l m≤0→Lib.compareBytes m k≤0→Lib.compareBytes l k≤0
 | [],_,[],_,_=>Int.le_refl 0
 | [],_,_ :: _,_,_=>by show (-1:Int)≤0;decide
 | a :: r,[],_,h,_=>by
  have h:(1:Int)≤0:=h
  omega
 | a :: r,b :: q,[],_,h=>by
  have h:(1:Int)≤0:=h
  omega
 | a :: r,b :: q,c :: p,h1,h2=>by
  have ih:=cb_trans r q p
  unfold Lib.compareBytes at h1 h2 ⊢
  simp only [UInt8.lt_iff_toNat_lt] at h1 h2 ⊢
  by_cases x1:a.toNat<b.toNat
  ·by_cases x2:b.toNat<c.toNat
   ·rw [if_pos (by omega)];decide
   ·by_cases x3:c.toNat<b.toNat
    ·rw [if_neg x2,if_pos x3] at h2;exact absurd h2 (by decide)
    ·rw [if_pos (by omega)];decide
  ·by_cases x3:b.toNat<a.toNat
   ·rw [if_neg x1,if_pos x3] at h1;exact absurd h1 (by decide)
   ·rw [if_neg x1,if_neg x3] at h1
    by_cases x2:b.toNat<c.toNat
    ·rw [if_pos (by omega)];decide
    ·by_cases x4:c.toNat<b.toNat
     ·rw [if_neg x2,if_pos x4] at h2;exact absurd h2 (by decide)
     ·rw [if_neg x2,if_neg x4] at h2
      rw [if_neg (by omega),if_neg (by omega)]
      exact ih h1 h2
def cmpO (a b:Ob):Int:=if cmpB a.ty b.ty=0 then cmpB a.id b.id else cmpB a.ty b.ty
def ltO (a b:Ob):Bool:=decide (cmpO a b<0)
theorem q8r {a b:ByteArray} (h:cmpB a b=0):a=b:=by
 have:=cb_eq _ _ h
 obtain ⟨⟨la⟩⟩:=a
 obtain ⟨⟨lb⟩⟩:=b
 have e:la=lb:=this
 rw [e]
theorem q5m (a b:Ob):cmpO a b =-cmpO b a:=by
 have h1:=cb_anti a.ty.data.toList b.ty.data.toList
 have h2:=cb_anti a.id.data.toList b.id.data.toList
 unfold cmpO cmpB
 split<;>split<;>omega
theorem cmpO_eq {a b:Ob} (h:cmpO a b=0):a=b:=by
 unfold cmpO at h
 split at h
 ·rename_i h1
  cases a;cases b
  simp only at h h1
  rw [q8r h,q8r h1]
 ·contradiction
theorem cmpO_trans {a b c:Ob} (h1:cmpO a b≤0) (h2:cmpO b c≤0):cmpO a c≤0:=by
 unfold cmpO at h1 h2 ⊢
 by_cases e1:cmpB a.ty b.ty=0
 ·rw [if_pos e1] at h1
  have e:=q8r e1
  rw [e]
  by_cases e2:cmpB b.ty c.ty=0
  ·rw [if_pos e2] at h2 ⊢
   exact cb_trans _ _ _ h1 h2
  ·rw [if_neg e2] at h2 ⊢
   exact h2
 ·rw [if_neg e1] at h1
  by_cases e2:cmpB b.ty c.ty=0
  ·have e:=q8r e2
   rw [← e,if_neg e1]
   exact h1
  ·rw [if_neg e2] at h2
   have h3:cmpB a.ty c.ty≤0:=cb_trans _ _ _ h1 h2
   by_cases e3:cmpB a.ty c.ty=0
   ·exfalso
    have e:=q8r e3
    rw [← e] at h2
    have:=cb_anti a.ty.data.toList b.ty.data.toList
    unfold cmpB at h1 h2 e1 e2
    omega
   ·rw [if_neg e3];exact h3
theorem stO:StOk ltO:=by
 refine ⟨⟨fun x y h=>?_,fun x y z h1 h2=>?_⟩,fun x y h1 h2=>?_⟩
 ·unfold ltO at h ⊢
  have:=q5m x y
  rw [decide_eq_true_eq] at h
  rw [decide_eq_false_iff_not]
  omega
 ·unfold ltO at h1 h2 ⊢
  rw [decide_eq_false_iff_not] at h1 h2 ⊢
  have a1:=q5m y x
  have a2:=q5m z y
  have a3:=q5m z x
  have:=cmpO_trans (a:=x) (b:=y) (c:=z) (by omega) (by omega)
  omega
 ·unfold ltO at h1 h2
  rw [decide_eq_false_iff_not] at h1 h2
  have:=q5m x y
  exact cmpO_eq (by omega)
theorem c_cmpstring (a b:ByteArray):AFun PG 166 [.str a,.str b] (.int .i64 (cmpB a b)):=by
 intro S R w vs hs hv
 obtain ⟨l⟩:=vs
 match l,hv with
 | [],hv=>cases hv.1
 | [_],hv=>cases hv.1
 | _ :: _ :: _ :: _,hv=>cases hv.1
 | [x,y],hv=>
  have h1:RV R w (.str a) x:=hv.head
  have h2:RV R w (.str b) y:=hv.tail.head
  cases h1
  cases h2
  refine .inr ⟨_,w,?_,R,S,.ret (.int .i64 (cmpB a b)),.int _ _,⟨rfl,rfl⟩,hs,Step.refl _ _ _⟩
  rw [run_callFunc_extern Go.Proofs.Tryz.func166 (by kernel_rfl) (by kernel_rfl) (by kernel_rfl) (e:=Extern.BytealgCompare.compare) (by kernel_rfl),Lib.run_compareString]
  rfl
theorem c_CompareString (a b:ByteArray):AFun PG nrx117 [.str a,.str b] (.int .i64 (cmpB a b)):=by
 intro S
 refine wx117 ?_
 unfold Bx117
 refine q05 (c_cmpstring a b) ?_
 exact q02 ⟨rfl,rfl⟩
theorem c_Compare (a b:ByteArray):AFun PG nrx62 [.str a,.str b] (.int .i64 (cmpB a b)):=by
 intro S
 refine wx62 ?_
 unfold Bx62
 refine q05 (c_CompareString a b) ?_
 exact q02 ⟨rfl,rfl⟩
theorem c_Or2 (x y:Int):AFun PG nrx61 [.sl 1 [[.int .i64 x],[.int .i64 y]]] (.int .i64 (if x=0 then y else x)):=by
 intro S
 refine wx61 ?_
 unfold Bx61
 (try simp only [rwp,zA,zB,zC,zD,zE,zF,zG,zH,zI,rwb,reduceIte,List.length_cons,List.length_nil])
 refine LoopP.introS (fun i:Nat=>[(3,.int .i64 0),(6,.sl 1 [[.int .i64 x],[.int .i64 y]]),(7,.int .i64 2),(8,.int .i64 i)]) (fun i S'=>S'=S∧i≤2∧(0<i→x=0)∧(1<i→y=0)) (fun i=>2-i) 0 ⟨rfl,by omega,fun h=>by omega,fun h=>by omega⟩ rfl ?_
 rintro i S' ⟨rfl,hi,h1,h2⟩ kk hkk
 (try simp only [rwp,zA,zB,zC,zD,zE,zF,zG,zH,zI,rwb,reduceIte,C61_1])
 (refine q03 (fun hlt=>?_) (fun hlt=>?_)<;>(try simp only [hlc] at hlt))
 ·have h01:i=0∨i=1:=by omega
  have step:(i=0→x=0)→(i=1→y=0)→rcW kk [(3,.int .i64 0),(6,.sl 1 [[.int .i64 x],[.int .i64 y]]),(7,.int .i64 2),(8,.int .i64 (IntKind.i64.wrap (↑i+1)))] S':=by
   intro q1 q2
   (simp (disch:=omega) only [q04])
   exact q08 rfl (hkk (i+1) _ ⟨rfl,by omega,fun _=>h01.elim q1 (fun e=>h1 (by omega)),fun h=>q2 (by omega)⟩ (by omega))
  rcases h01 with e | e
  ·subst e
   (try simp only [rwp,zA,zB,zC,zD,zE,zF,zG,zH,zI,rwb,reduceIte,List.getElem?_cons_zero])
   cases a1:decide (x=0)
   ·(try simp only [rwp,zA,zB,zC,zD,zE,zF,zG,zH,zI,rwb,reduceIte])
    exact q02 ⟨by rw [if_neg (of_decide_eq_false a1)],rfl⟩
   ·(try simp only [rwp,zA,zB,zC,zD,zE,zF,zG,zH,zI,rwb,reduceIte])
    exact step (fun _=>of_decide_eq_true a1) (fun h=>by omega)
  ·subst e
   have hx:=h1 (by omega)
   (try simp only [rwp,zA,zB,zC,zD,zE,zF,zG,zH,zI,rwb,reduceIte,List.getElem?_cons_zero,List.getElem?_cons_succ])
   cases a1:decide (y=0)
   ·(try simp only [rwp,zA,zB,zC,zD,zE,zF,zG,zH,zI,rwb,reduceIte])
    exact q02 ⟨by rw [if_pos hx],rfl⟩
   ·(try simp only [rwp,zA,zB,zC,zD,zE,zF,zG,zH,zI,rwb,reduceIte])
    exact step (fun h=>by omega) (fun _=>of_decide_eq_true a1)
 ·(try simp only [rwp,zA,zB,zC,zD,zE,zF,zG,zH,zI,rwb,reduceIte])
  have hx:=h1 (by omega)
  have hy:=h2 (by omega)
  exact q02 ⟨by rw [if_pos hx,hy],rfl⟩
set_option maxRecDepth 4000
theorem quoN {x y:Int} {a b:Nat} {K:AV→Prop} (hx:x=a) (hy:y=b) (hb:0<b) (ha:a≤1000000) (hk:K (.int .i64 ((a / b:Nat):Int))):biW .quo (.int .i64 x) (.int .i64 y) K:=by
 subst hx
 subst hy
 have h0:¬ (b:Int)=0:=by omega
 have e:biW .quo (.int .i64 (a:Int)) (.int .i64 (b:Int)) K=K (.int .i64 (IntKind.i64.wrap ((a:Int).tdiv b))):=by
  have e1:biW .quo (.int .i64 (a:Int)) (.int .i64 (b:Int)) K=q0p (if (b:Int)=0 then none else some (.int .i64 (IntKind.i64.wrap ((a:Int).tdiv b)))) K:=rfl
  rw [e1,if_neg h0]
  rfl
 rw [e,show (a:Int).tdiv b=((a / b:Nat):Int) from rfl]
 have:a / b≤a:=Nat.div_le_self _ _
 generalize a / b=q at this hk ⊢
 (simp (disch:=omega) only [q04])
 exact hk
structure Dat (D:AV) (pt:Nat→AV) (SS:(Nat→Ob)→q00) (n:Nat):Prop where
 ia:∀ {i:Nat} {x:Int} {K:AV→Prop},x=i→i<n→K (pt i)→iaW 2 D (.int .i64 x) K
 ld:∀ {v:Nat→Ob} {i:Nat} {K:AV→Prop},i<n→K (.agg (obC (v i)))→ldW (SS v) 2 true (pt i) K
 st:∀ {v:Nat→Ob} {i:Nat} {x:Ob} {KT:q00→Prop},i<n→KT (SS (upv v i x))→stW (SS v) 2 (pt i) (.agg (obC x)) KT
 ln:∀ {v:Nat→Ob} {K:AV→Prop},K (.int .i64 n)→lnW (SS v) 1 D K
 bd:n≤100000
 fr:∀ {v:Nat→Ob} {c:Nat} {X:AObj} {i:Nat} {K:AV→Prop},sget (SS v) c=none→i<n→K (.agg (obC (v i)))→ldW (supd (SS v) c X) 2 true (pt i) K
 fs:∀ {v:Nat→Ob} {c:Nat} {X:AObj} {i:Nat} {x:Ob} {KT:q00→Prop},sget (SS v) c=none→i<n→KT (supd (SS (upv v i x)) c X)→stW (supd (SS v) c X) 2 (pt i) (.agg (obC x)) KT
 fn:∀ {v w:Nat→Ob} {c:Nat},sget (SS v) c=none→sget (SS w) c=none
theorem supd_swap {S:q00} {b c:Nat} (h:b≠c) (x y:AObj):supd (supd S b x) c y=supd (supd S c y) b x:=by
 funext d
 unfold supd
 by_cases h1:c=d
 ·subst h1;simp [h]
 ·by_cases h2:b=d<;>simp [h1,h2]
theorem dat_own {S0:q00} {b n cap:Nat} (hn:n≤cap) (hb:n≤100000):Dat (.own b 0 n cap) (fun i=>.ptr b (i * 2)) (fun v=>supd S0 b (.cells tyOb (fl obC n v) (cap * 2))) n:=by
 have hlen:∀ x:Ob,(obC x).length=2:=fun x=>rfl
 have ne:∀ {v:Nat→Ob} {c:Nat},sget (supd S0 b (.cells tyOb (fl obC n v) (cap * 2))) c=none→b≠c:=by
  intro v c hc e
  rw [q01,if_pos e] at hc
  cases hc
 refine ⟨fun {i x K} e hi hk=>?_,fun {v i K} hi hk=>?_,fun {v i x KT} hi hk=>?_,fun {v K} hk=>?_,hb,fun {v c X i K} hc hi hk=>?_,fun {v c X i x KT} hc hi hk=>?_,fun {v w c} hc=>?_⟩
 ·subst e
  rw [q8l]
  refine ⟨by omega,by omega,?_⟩
  simpa using hk
 ·have hc:=q07 (q0m (S:=supd S0 b (.cells tyOb (fl obC n v) (cap * 2))) (b:=b) (t:=tyOb) (tot:=cap * 2) (cs:=fl obC n v))
  rw [q18] at hc
  obtain ⟨rest,hd⟩:=fl_drop (v:=v) hlen hi
  rw [q8j,hc,q5z,hd,mkW_agg]
  exact hk
 ·have ho:=q0m (S:=S0) (b:=b) (t:=tyOb) (tot:=cap * 2) (cs:=fl obC n v)
  rw [q3u,ho,q39]
  refine ⟨rfl,?_,rfl,?_⟩
  ·rw [q3g hlen];omega
  ·rw [show q09 (.agg (obC x))=obC x from rfl,fl_fill hlen hi,q18]
   exact hk
 ·rw [lnW_own];exact hk
 ·have hne:=ne hc
  have hc:=q07 (objAt_some.2 (show sget (supd (supd S0 b (.cells tyOb (fl obC n v) (cap * 2))) c X) b=some (.cells tyOb (fl obC n v) (cap * 2)) by rw [q01,if_neg (Ne.symm hne),q01,if_pos rfl]))
  obtain ⟨rest,hd⟩:=fl_drop (v:=v) hlen hi
  rw [q8j,hc,q5z,hd,mkW_agg]
  exact hk
 ·have hne:=ne hc
  have ho:=objAt_some.2 (show sget (supd (supd S0 b (.cells tyOb (fl obC n v) (cap * 2))) c X) b=some (.cells tyOb (fl obC n v) (cap * 2)) by rw [q01,if_neg (Ne.symm hne),q01,if_pos rfl])
  rw [q3u,ho,q39]
  refine ⟨rfl,?_,rfl,?_⟩
  ·rw [q3g hlen];omega
  ·rw [show q09 (.agg (obC x))=obC x from rfl,fl_fill hlen hi,supd_swap (Ne.symm hne),q18]
   exact hk
 ·have hne:=ne hc
  rw [q01,if_neg hne] at hc ⊢
  exact hc
section
variable {D:AV} {pt:Nat→AV} {SS:(Nat→Ob)→q00} {n g:Nat} {c:Ob→Ob→Int}
abbrev fnG (g:Nat):AV:=.func (.func g) [] []
def ltC (c:Ob→Ob→Int) (x y:Ob):Bool:=decide (c x y<0)
theorem c_ins (hD:Dat D pt SS n) (hg:∀ x y,AFun PG g [.agg (obC x),.agg (obC y)] (.int .i64 (c x y))) (ho:LtOk (ltC c)) {a b:Nat} (hab:a≤b) (hb:b≤n) (v:Nat→Ob) :
  ACalls PG nrx156 [D,.int .i64 a,.int .i64 b,fnG g] (SS v) fun ae S'=>ae=.ret (.tup [])∧∃ w,S'=SS w∧Rng n a b v w∧Srt (ltC c) a b w:=by
 have hn:=hD.bd
 refine wx156 ?_
 unfold Bx156
 (try simp only [rwp,zA,zB,zC,zD,zE,zF,zG,zH,zI,rwb,reduceIte])
 (simp (disch:=omega) only [q04])
 refine LoopP.introS (fun i:Nat=>[(0,D),(1,.int .i64 a),(2,.int .i64 b),(3,fnG g),(8,.int .i64 i)]) (fun i S'=>a+1≤i∧i≤b+1∧∃ w,S'=SS w∧Rng n a b v w∧Srt (ltC c) a i w) (fun i=>b+1-i) (a+1)
  ⟨by omega,by omega,v,rfl,Rng.refl _ _ _ _,Srt.one (by omega)⟩ (by rfl) ?_
 rintro i S1 ⟨hi1,hi2,w,rfl,hr,hs⟩ kk hkk
 (try simp only [rwp,zA,zB,zC,zD,zE,zF,zG,zH,zI,rwb,reduceIte,C156_1])
 (refine q03 (fun hlt=>?_) (fun hlt=>?_)<;>(try simp only [hlc] at hlt))
 ·refine LoopP.introS (fun j:Nat=>[(0,D),(1,.int .i64 a),(2,.int .i64 b),(3,fnG g),(8,.int .i64 i),(9,.int .i64 j)]) (fun j S'=>∃ u,S'=SS u∧Rng n a b v u∧InsI (ltC c) a i j u) (fun j=>j) i
   ⟨w,rfl,hr,InsI.start hs (by omega)⟩ rfl ?_
  rintro j S2 ⟨u,rfl,hru,hu⟩ kk2 hkk2
  have h1:=hu.lo
  have h2:=hu.hi
  have stop:(j=a∨Le (ltC c) (u (j-1)) (u j))→rcW kk [(0,D),(1,.int .i64 a),(2,.int .i64 b),(3,fnG g),(8,.int .i64 (IntKind.i64.wrap (↑i+1)))] (SS u):=by
   intro hq
   (simp (disch:=omega) only [q04])
   exact q08 rfl (hkk (i+1) _ ⟨by omega,by omega,u,rfl,hru,hu.stop ho hq⟩ (by omega))
  (try simp only [rwp,zA,zB,zC,zD,zE,zF,zG,zH,zI,rwb,reduceIte,C156_2])
  cases a1:decide ((a:Int)<j)
  ·(try simp only [rwp,zA,zB,zC,zD,zE,zF,zG,zH,zI,rwb,reduceIte,C156_3])
   exact stop (.inl (by have:=of_decide_eq_false a1;omega))
  ·have haj:=of_decide_eq_true a1
   (try simp only [rwp,zA,zB,zC,zD,zE,zF,zG,zH,zI,rwb,reduceIte])
   refine hD.ia (i:=j) rfl (by omega) ?_
   (try simp only [rwp,zA,zB,zC,zD,zE,zF,zG,zH,zI,rwb,reduceIte])
   (simp (disch:=omega) only [q04])
   refine hD.ia (i:=j-1) (by omega) (by omega) ?_
   refine hD.ld (by omega) (hD.ld (by omega) ?_)
   refine q05 (hg _ _) ?_
   (try simp only [rwp,zA,zB,zC,zD,zE,zF,zG,zH,zI,rwb,reduceIte])
   cases a2:decide (c (u j) (u (j-1))<0)
   ·(try simp only [rwp,zA,zB,zC,zD,zE,zF,zG,zH,zI,rwb,reduceIte,C156_3])
    exact stop (.inr a2)
   ·(try simp only [rwp,zA,zB,zC,zD,zE,zF,zG,zH,zI,rwb,reduceIte,C156_3])
    (simp (disch:=omega) only [q04])
    refine hD.ia (i:=j-1) (by omega) (by omega) ?_
    refine hD.ia (i:=j) rfl (by omega) ?_
    refine hD.ld (by omega) (hD.ld (by omega) ?_)
    refine hD.ia (i:=j) rfl (by omega) ?_
    refine hD.st (by omega) ?_
    refine hD.ia (i:=j-1) (by omega) (by omega) ?_
    refine hD.st (by omega) ?_
    rw [sw_upv]
    (try simp only [rwp,zA,zB,zC,zD,zE,zF,zG,zH,zI,rwb,reduceIte])
    (try (simp (disch:=omega) only [q04]))
    have ej:(j:Int)-1=((j-1:Nat):Int):=by omega
    rw [ej]
    exact q08 rfl (hkk2 (j-1) _ ⟨_,rfl,hru.trans (Rng.sw (by omega) (by omega) (by omega) (by omega) hb),hu.step ho (by omega) a2⟩ (by omega))
 ·(try simp only [rwp,zA,zB,zC,zD,zE,zF,zG,zH,zI,rwb,reduceIte])
  exact q2r ⟨rfl,w,rfl,hr,fun p q h1 h2 h3=>hs p q h1 h2 (by omega)⟩
end
def SortOk (N:Nat):Prop:=∀ (D:AV) (pt:Nat→AV) (SS:(Nat→Ob)→q00) (n g:Nat) (c:Ob→Ob→Int),Dat D pt SS n→(∀ x y,AFun PG g [.agg (obC x),.agg (obC y)] (.int .i64 (c x y)))→LtOk (ltC c)→n≤N→∀ v:Nat→Ob,
 ACalls PG nrx59 [D,fnG g] (SS v) fun ae S'=>ae=.ret (.tup [])∧∃ w,S'=SS w∧Rng n 0 n v w∧Srt (ltC c) 0 n w
def len8:ByteArray:=⟨#[0,1,2,2,3,3,3,3,4,4,4,4,4,4,4,4,5,5,5,5,5,5,5,5,5,5,5,5,5,5,5,5,6,6,6,6,6,6,6,6,6,6,6,6,6,6,6,6,6,6,6,6,6,6,6,6,6,6,6,6,6,6,6,6,7,7,7,7,7,7,7,7,7,7,7,7,7,7,7,7,7,7,7,7,7,7,7,7,7,7,7,7,7,7,7,7,7,7,7,7,7,7,7,7,7,7,7,7,7,7,7,7,7,7,7,7,7,7,7,7,7,7,7,7,7,7,7,7,8,8,8,8,8,8,8,8,8,8,8,8,8,8,8,8,8,8,8,8,8,8,8,8,8,8,8,8,8,8,8,8,8,8,8,8,8,8,8,8,8,8,8,8,8,8,8,8,8,8,8,8,8,8,8,8,8,8,8,8,8,8,8,8,8,8,8,8,8,8,8,8,8,8,8,8,8,8,8,8,8,8,8,8,8,8,8,8,8,8,8,8,8,8,8,8,8,8,8,8,8,8,8,8,8,8,8,8,8,8,8,8,8,8,8,8,8,8,8,8,8,8,8,8,8,8,8,8]⟩
def lenF (n:Nat):Nat:=(len8.data.toList.getD n 0).toNat
theorem lenF_ok:∀ n:Fin 256,n.1<2 ^ lenF n.1∧(n.1=0∨2 ^ lenF n.1≤2 * n.1)∧lenF n.1≤8:=by decide +kernel
theorem c_Len64 {n:Nat} (hn:n<256):AFun PG nrx165 [.int .u64 n] (.int .i64 (lenF n)):=by
 intro S
 refine wx165 ?_
 unfold Bx165
 (try simp only [rwp,zA,zB,zC,zD,zE,zF,zG,zH,zI,rwb,reduceIte,C165_1,C165_2])
 rw [decide_eq_false (show ¬ (4294967296:Int)≤n by omega)]
 refine q41 ?_
 rw [decide_eq_false (show ¬ (65536:Int)≤n by omega)]
 refine q41 ?_
 rw [decide_eq_false (show ¬ (256:Int)≤n by omega)]
 refine q41 ?_
 have hb:len8[n]?=some (len8.data.toList.getD n 0).toNat.toUInt8:=by
  rw [q81]
  have hl:n<len8.data.toList.length:=by show n<256;exact hn
  rw [List.getD_eq_getElem?_getD,List.getElem?_eq_getElem hl]
  simp
 have h8:lenF n≤8:=(lenF_ok ⟨n,hn⟩).2.2
 have hw:IntKind.u8.wrap (n:Int)=n:=(show ∀ n:Fin 256,IntKind.u8.wrap (n.1:Int)=n.1 by decide +kernel) ⟨n,hn⟩
 have hv:((len8.data.toList.getD n 0).toNat.toUInt8).toNat=lenF n:=by
  unfold lenF
  simp
 show C165_3 _ (.int .u64 n) (.int .i64 0) S
 unfold C165_3
 change (cvW .u8 (.int .u64 n) fun v21=>isW (.str len8) v21 fun v22=>_)
 (try simp only [rwp,zA,zB,zC,zD,zE,zF,zG,zH,zI,rwb,reduceIte,hw,hb])
 rw [hv]
 (simp (disch:=omega) only [q04])
 exact q02 ⟨by rw [Int.zero_add],rfl⟩
theorem c_Len {n:Nat} (hn:n<256):AFun PG nrx116 [.int .u64 n] (.int .i64 (lenF n)):=by
 intro S
 refine wx116 ?_
 unfold Bx116
 (try simp only [rwp,zA,zB,zC,zD,zE,zF,zG,zH,zI,rwb,reduceIte])
 refine q05 (c_Len64 hn) ?_
 exact q02 ⟨rfl,rfl⟩
set_option maxRecDepth 4000
set_option maxRecDepth 4000
set_option maxRecDepth 4000
theorem dat_nil (S:q00):Dat .nils (fun _=>.nils) (fun _=>S) 0:=⟨fun _ h=>absurd h (by omega),fun h=>absurd h (by omega),fun h=>absurd h (by omega),fun hk=>by rw [q9y];exact hk,by omega,fun _ h=>absurd h (by omega),fun _ h=>absurd h (by omega),fun h=>h⟩
set_option maxRecDepth 4000
section
variable {D:AV} {pt:Nat→AV} {SS:(Nat→Ob)→q00} {n g:Nat} {c:Ob→Ob→Int}
theorem c_sift (hD:Dat D pt SS n) (hg:∀ x y,AFun PG g [.agg (obC x),.agg (obC y)] (.int .i64 (c x y))) (ho:LtOk (ltC c)) {f lo hi:Nat} (hh:f+hi≤n) (hlo:lo≤n) (v:Nat→Ob) (h0:Sif (ltC c) f lo hi lo v) :
  ACalls PG nrx194 [D,.int .i64 lo,.int .i64 hi,.int .i64 f,fnG g] (SS v) fun ae S'=>ae=.ret (.tup [])∧∃ w,S'=SS w∧Rng n f (f+hi) v w∧Hp (ltC c) f lo hi w:=by
 have hn:=hD.bd
 refine wx194 ?_
 unfold Bx194
 refine LoopP.introS (fun r:Nat=>[(0,D),(2,.int .i64 hi),(3,.int .i64 f),(4,fnG g),(10,.int .i64 r)]) (fun r S'=>r≤n∧∃ w,S'=SS w∧Rng n f (f+hi) v w∧Sif (ltC c) f lo hi r w) (fun r=>n-r) lo
  ⟨hlo,v,rfl,Rng.refl _ _ _ _,h0⟩ rfl ?_
 rintro r S1 ⟨hrn,w,rfl,hr,hs⟩ kk hkk
 (try simp only [rwp,zA,zB,zC,zD,zE,zF,zG,zH,zI,rwb,reduceIte,C194_1])
 (try (simp (disch:=omega) only [q04]))
 cases a1:decide ((hi:Int)≤2 * r+1)
 ·have hch:2 * r+1<hi:=by have:=of_decide_eq_false a1;omega
  have fin:∀ ch:Nat,Best (ltC c) f hi r ch w→C194_3 (fun ae S'=>ae=.ret (.tup [])∧∃ w,S'=SS w∧Rng n f (f+hi) v w∧Hp (ltC c) f lo hi w) kk D (.int .i64 hi) (.int .i64 f) (fnG g) (.int .i64 r) (.int .i64 ch) (SS w):=by
   intro ch hb
   have h1:=hb.cc
   have h2:=hb.cl
   (try simp only [rwp,zA,zB,zC,zD,zE,zF,zG,zH,zI,rwb,reduceIte,C194_3])
   (try (simp (disch:=omega) only [q04]))
   refine hD.ia (i:=f+r) (by omega) (by omega) ?_
   (try simp only [rwp,zA,zB,zC,zD,zE,zF,zG,zH,zI,rwb,reduceIte])
   (try (simp (disch:=omega) only [q04]))
   refine hD.ia (i:=f+ch) (by omega) (by omega) (hD.ld (by omega) (hD.ld (by omega) ?_))
   refine q05 (hg _ _) ?_
   (try simp only [rwp,zA,zB,zC,zD,zE,zF,zG,zH,zI,rwb,reduceIte])
   cases a2:decide (c (w (f+r)) (w (f+ch))<0)
   ·(try simp only [rwp,zA,zB,zC,zD,zE,zF,zG,zH,zI,rwb,reduceIte])
    exact q2r ⟨rfl,w,rfl,hr,hs.stop ho hb a2⟩
   ·(try simp only [rwp,zA,zB,zC,zD,zE,zF,zG,zH,zI,rwb,reduceIte])
    (try (simp (disch:=omega) only [q04]))
    refine hD.ia (i:=f+ch) (by omega) (by omega) ?_
    (try simp only [rwp,zA,zB,zC,zD,zE,zF,zG,zH,zI,rwb,reduceIte])
    (try (simp (disch:=omega) only [q04]))
    refine hD.ia (i:=f+r) (by omega) (by omega) (hD.ld (by omega) (hD.ld (by omega) ?_))
    refine hD.ia (i:=f+r) (by omega) (by omega) (hD.st (by omega) ?_)
    refine hD.ia (i:=f+ch) (by omega) (by omega) (hD.st (by omega) ?_)
    rw [sw_upv]
    exact q08 rfl (hkk ch _ ⟨by omega,_,rfl,hr.trans (Rng.sw (by omega) (by omega) (by omega) (by omega) hh),hs.step ho hb a2⟩ (by omega))
  (try simp only [rwp,zA,zB,zC,zD,zE,zF,zG,zH,zI,rwb,reduceIte])
  (try (simp (disch:=omega) only [q04]))
  cases a3:decide ((2:Int) * r+1+1<hi)
  ·(try simp only [rwp,zA,zB,zC,zD,zE,zF,zG,zH,zI,rwb,reduceIte,C194_2])
   have q:=fin (2 * r+1) ⟨.inl rfl,hch,fun d hd hdh=>by
    have:=of_decide_eq_false a3
    have e:d=2 * r+1:=by omega
    rw [e]
    exact Le.refl ho _⟩
   rw [show ((2 * r+1:Nat):Int)=2 * (r:Int)+1 by omega] at q
   exact q
  ·have hlt:=of_decide_eq_true a3
   (try simp only [rwp,zA,zB,zC,zD,zE,zF,zG,zH,zI,rwb,reduceIte])
   (try (simp (disch:=omega) only [q04]))
   refine hD.ia (i:=f+(2 * r+1)) (by omega) (by omega) ?_
   (try simp only [rwp,zA,zB,zC,zD,zE,zF,zG,zH,zI,rwb,reduceIte])
   (try (simp (disch:=omega) only [q04]))
   refine hD.ia (i:=f+(2 * r+2)) (by omega) (by omega) (hD.ld (by omega) (hD.ld (by omega) ?_))
   refine q05 (hg _ _) ?_
   (try simp only [rwp,zA,zB,zC,zD,zE,zF,zG,zH,zI,rwb,reduceIte])
   cases a4:decide (c (w (f+(2 * r+1))) (w (f+(2 * r+2)))<0)
   ·(try simp only [rwp,zA,zB,zC,zD,zE,zF,zG,zH,zI,rwb,reduceIte,C194_2])
    have q:=fin (2 * r+1) ⟨.inl rfl,hch,fun d hd hdh=>by
     rcases hd with rfl | rfl
     ·exact Le.refl ho _
     ·exact a4⟩
    rw [show ((2 * r+1:Nat):Int)=2 * (r:Int)+1 by omega] at q
    exact q
   ·(try simp only [rwp,zA,zB,zC,zD,zE,zF,zG,zH,zI,rwb,reduceIte,C194_2])
    (try (simp (disch:=omega) only [q04]))
    have q:=fin (2 * r+2) ⟨.inr rfl,by omega,fun d hd hdh=>by
     rcases hd with rfl | rfl
     ·exact Le.of_lt ho a4
     ·exact Le.refl ho _⟩
    rw [show ((2 * r+2:Nat):Int)=2 * (r:Int)+1+1 by omega] at q
    exact q
 ·(try simp only [rwp,zA,zB,zC,zD,zE,zF,zG,zH,zI,rwb,reduceIte])
  exact q2r ⟨rfl,w,rfl,hr,hs.stop0 (by have:=of_decide_eq_true a1;omega)⟩
theorem c_heap (hD:Dat D pt SS n) (hg:∀ x y,AFun PG g [.agg (obC x),.agg (obC y)] (.int .i64 (c x y))) (ho:LtOk (ltC c)) {a b:Nat} (hab:a<b) (hb:b≤n) (v:Nat→Ob) :
  ACalls PG nrx157 [D,.int .i64 a,.int .i64 b,fnG g] (SS v) fun ae S'=>ae=.ret (.tup [])∧∃ w,S'=SS w∧Rng n a b v w∧Srt (ltC c) a b w:=by
 have hn:=hD.bd
 refine wx157 ?_
 unfold Bx157
 obtain ⟨hi,rfl⟩:∃ hi,b=a+hi:=⟨b-a,by omega⟩
 (try simp only [rwp,zA,zB,zC,zD,zE,zF,zG,zH,zI,rwb,reduceIte])
 (try (simp (disch:=omega) only [q04]))
 have e1:((a+hi:Nat):Int)-a=hi:=by omega
 rw [e1]
 refine quoN (a:=hi-1) (b:=2) (by omega) rfl (by omega) (by omega) ?_
 refine LoopP.introS (fun m:Nat=>[(0,D),(3,fnG g),(8,.int .i64 a),(9,.int .i64 0),(10,.int .i64 hi),(11,.int .i64 ((m:Int)-1))]) (fun m S'=>m≤hi∧∃ w,S'=SS w∧Rng n a (a+hi) v w∧Hp (ltC c) a m hi w) (fun m=>m) ((hi-1) / 2+1)
  ⟨by omega,v,rfl,Rng.refl _ _ _ _,fun p q h1 h2 h3=>by omega⟩ (by rw [show (((hi-1) / 2+1:Nat):Int)-1=(((hi-1) / 2:Nat):Int) by omega]) ?_
 rintro m S1 ⟨hm,w,rfl,hr,hp⟩ kk hkk
 (try simp only [rwp,zA,zB,zC,zD,zE,zF,zG,zH,zI,rwb,reduceIte,C157_1])
 cases a1:decide ((0:Int)≤(m:Int)-1)
 ·have e:m=0:=by have:=of_decide_eq_false a1;omega
  subst e
  (try simp only [rwp,zA,zB,zC,zD,zE,zF,zG,zH,zI,rwb,reduceIte])
  (try (simp (disch:=omega) only [q04]))
  refine LoopP.introS (fun m:Nat=>[(0,D),(3,fnG g),(8,.int .i64 a),(9,.int .i64 0),(12,.int .i64 ((m:Int)-1))]) (fun m S'=>m≤hi∧∃ w,S'=SS w∧Rng n a (a+hi) v w∧Pop (ltC c) a m hi w) (fun m=>m) hi
   ⟨by omega,w,rfl,hr,⟨hp,Srt.one (by omega),fun i j h1 h2 h3=>by omega⟩⟩ rfl ?_
  rintro m S2 ⟨hm2,u,rfl,hru,hpu⟩ kk2 hkk2
  (try simp only [rwp,zA,zB,zC,zD,zE,zF,zG,zH,zI,rwb,reduceIte,C157_2])
  cases a2:decide ((0:Int)≤(m:Int)-1)
  ·have e:m=0:=by have:=of_decide_eq_false a2;omega
   subst e
   (try simp only [rwp,zA,zB,zC,zD,zE,zF,zG,zH,zI,rwb,reduceIte])
   exact q2r ⟨rfl,u,rfl,hru,hpu.s⟩
  ·have hle:=of_decide_eq_true a2
   obtain ⟨i,rfl⟩:∃ i,m=i+1:=⟨m-1,by omega⟩
   rw [show ((i+1:Nat):Int)-1=(i:Int) by omega]
   (try simp only [rwp,zA,zB,zC,zD,zE,zF,zG,zH,zI,rwb,reduceIte])
   (try (simp (disch:=omega) only [q04]))
   refine hD.ia (i:=a+i) (by omega) (by omega) (hD.ia (i:=a) rfl (by omega) (hD.ld (by omega) (hD.ld (by omega) ?_)))
   refine hD.ia (i:=a) rfl (by omega) (hD.st (by omega) (hD.ia (i:=a+i) (by omega) (by omega) (hD.st (by omega) ?_)))
   rw [sw_upv]
   refine q0b (c_sift hD hg ho (f:=a) (lo:=0) (hi:=i) (by omega) (by omega) _ (Sif.start hpu.pre)) ?_
   rintro ae S3 ⟨rfl,x,rfl,hrx,hpx⟩
   dsimp only
   (try simp only [rwp,zA,zB,zC,zD,zE,zF,zG,zH,zI,rwb,reduceIte])
   (try (simp (disch:=omega) only [q04]))
   exact q08 rfl (hkk2 i _ ⟨by omega,x,rfl,(hru.trans (Rng.sw (by omega) (by omega) (by omega) (by omega) hb)).trans (hrx.mono (Nat.le_refl _) (by omega)),hpu.step ho (by omega) (by omega) hrx hpx⟩ (by omega))
 ·have hle:=of_decide_eq_true a1
  obtain ⟨i,rfl⟩:∃ i,m=i+1:=⟨m-1,by omega⟩
  rw [show ((i+1:Nat):Int)-1=(i:Int) by omega]
  (try simp only [rwp,zA,zB,zC,zD,zE,zF,zG,zH,zI,rwb,reduceIte])
  refine q0b (c_sift hD hg ho (f:=a) (lo:=i) (hi:=hi) (by omega) (by omega) w (Sif.start hp)) ?_
  rintro ae S3 ⟨rfl,x,rfl,hrx,hpx⟩
  dsimp only
  (try simp only [rwp,zA,zB,zC,zD,zE,zF,zG,zH,zI,rwb,reduceIte])
  (try (simp (disch:=omega) only [q04]))
  exact q08 rfl (hkk i _ ⟨by omega,x,rfl,hr.trans hrx,hpx⟩ (by omega))
end
set_option maxRecDepth 4000
section
variable {D:AV} {pt:Nat→AV} {SS:(Nat→Ob)→q00} {n g:Nat} {c:Ob→Ob→Int}
theorem Dat.swap (hD:Dat D pt SS n) {i j:Nat} {x y x' y':Int} {v:Nat→Ob} {KT:q00→Prop} (ex:x=i) (ey:y=j) (ex':x'=i) (ey':y'=j) (hi:i<n) (hj:j<n) (hk:KT (SS (sw v j i))) :
  iaW 2 D (.int .i64 x) fun p=>iaW 2 D (.int .i64 y) fun q=>ldW (SS v) 2 true p fun a=>ldW (SS v) 2 true q fun b=>iaW 2 D (.int .i64 y') fun r=>stW (SS v) 2 r a fun S=>iaW 2 D (.int .i64 x') fun t=>stW S 2 t b KT:=by
 refine hD.ia ex hi (hD.ia ey hj (hD.ld hi (hD.ld hj (hD.ia ey' hj (hD.st hj (hD.ia ex' hi (hD.st hi ?_)))))))
 rw [sw_upv]
 exact hk
theorem Dat.cmp (hD:Dat D pt SS n) (hg:∀ x y,AFun PG g [.agg (obC x),.agg (obC y)] (.int .i64 (c x y))) {i j:Nat} {x y:Int} {v:Nat→Ob} {K Qp:AV→q00→Prop} (ex:x=i) (ey:y=j) (hi:i<n) (hj:j<n) (hk:K (.int .i64 (c (v i) (v j))) (SS v)) :
  iaW 2 D (.int .i64 x) fun p=>iaW 2 D (.int .i64 y) fun q=>ldW (SS v) 2 true p fun a=>ldW (SS v) 2 true q fun b=>caW PG (SS v) (fnG g) [a,b] K Qp:=
 hD.ia ex hi (hD.ia ey hj (hD.ld hi (hD.ld hj (q05 (hg _ _) hk))))
theorem c_partition (hD:Dat D pt SS n) (hg:∀ x y,AFun PG g [.agg (obC x),.agg (obC y)] (.int .i64 (c x y))) (ho:LtOk (ltC c)) {a b p:Nat} (hap:a≤p) (hpb:p<b) (hb:b≤n) (v:Nat→Ob) :
  ACalls PG nrx163 [D,.int .i64 a,.int .i64 b,.int .i64 p,fnG g] (SS v) fun ae S'=>∃ (w:Nat→Ob) (m:Nat) (al:Bool),ae=.ret (.tup [.int .i64 m,.bool al])∧S'=SS w∧Rng n a b v w∧Cut (ltC c) a b m w:=by
 have hn:=hD.bd
 refine wx163 ?_
 unfold Bx163
 refine hD.swap rfl rfl rfl rfl (by omega) (by omega) ?_
 have hr0:Rng n a b v (sw v a p):=Rng.sw (by omega) (by omega) hap hpb hb
 generalize sw v a p=v0 at hr0
 (try simp only [rwp,zA,zB,zC,zD,zE,zF,zG,zH,zI,rwb,reduceIte])
 (try (simp (disch:=omega) only [q04]))
 generalize hQ:(fun ae S'=>∃ (w:Nat→Ob) (m:Nat) (al:Bool),ae=AEnd.ret (.tup [.int .i64 m,.bool al])∧S'=SS w∧Rng n a b v w∧Cut (ltC c) a b m w)=QF
 have fin:∀ (w:Nat→Ob) (i j:Nat) (al:Bool),Rng n a b v w→Par (ltC c) a b i j w→j<i→rtW [.tmp (.int .i64 j),.tmp (.bool al)] QF (SS (sw w j a)):=by
  intro w i j al hr hp hij
  have h1:=hp.i1
  have h2:=hp.ij
  have h3:=hp.j1
  subst hQ
  exact rtW_two ⟨_,j,al,rfl,rfl,hr.trans (Rng.sw (by omega) (by omega) (by omega) (by omega) hb),hp.cut ho hij⟩
 refine LoopP.introS (fun i:Nat=>[(0,D),(1,.int .i64 a),(4,fnG g),(12,.int .i64 i),(13,.int .i64 ((b-1:Nat):Int))]) (fun i S'=>S'=SS v0∧Par (ltC c) a b i (b-1) v0) (fun i=>b-i) (a+1)
  ⟨rfl,⟨by omega,by omega,by omega,fun k h1 h2=>by omega,fun k h1 h2=>by omega⟩⟩ (by rw [show ((b-1:Nat):Int)=(b:Int)-1 by omega];rfl) ?_
 rintro i S1 ⟨rfl,hp⟩ kk hkk
 have hi1:=hp.i1
 have hij:=hp.ij
 (try simp only [rwp,zA,zB,zC,zD,zE,zF,zG,zH,zI,rwb,reduceIte,C163_1])
 have next:(∀ j:Nat,i≤j→j≤b-1→Le (ltC c) (v0 a) (v0 i))→LoopP (fun r0 l S=>C163_3 QF r0 (lget l 0) (lget l 1) (lget l 4) (lget l 12) (lget l 13) S) [(0,D),(1,.int .i64 a),(4,fnG g),(12,.int .i64 i),(13,.int .i64 ((b-1:Nat):Int))] (SS v0):=by
  intro hle
  refine LoopP.introS (fun j:Nat=>[(0,D),(1,.int .i64 a),(4,fnG g),(12,.int .i64 i),(13,.int .i64 j)]) (fun j S'=>S'=SS v0∧Par (ltC c) a b i j v0) (fun j=>j) (b-1) ⟨rfl,hp⟩ rfl ?_
  rintro j S2 ⟨rfl,hp2⟩ kk2 hkk2
  have hj1:=hp2.j1
  have hij2:=hp2.ij
  (try simp only [rwp,zA,zB,zC,zD,zE,zF,zG,zH,zI,rwb,reduceIte,C163_3])
  cases a1:decide ((i:Int)≤j)
  ·have hlt:j<i:=by have:=of_decide_eq_false a1;omega
   (try simp only [rwp,zA,zB,zC,zD,zE,zF,zG,zH,zI,rwb,reduceIte,C163_4,decide_eq_true (show (j:Int)<i by omega)])
   refine hD.swap rfl rfl rfl rfl (by omega) (by omega) ?_
   exact fin v0 i j true hr0 hp2 hlt
  ·have hle2:i≤j:=by have:=of_decide_eq_true a1;omega
   (try simp only [rwp,zA,zB,zC,zD,zE,zF,zG,zH,zI,rwb,reduceIte])
   refine hD.cmp hg (i:=j) (j:=a) rfl rfl (by omega) (by omega) ?_
   (try simp only [rwp,zA,zB,zC,zD,zE,zF,zG,zH,zI,rwb,reduceIte])
   cases a2:decide (c (v0 j) (v0 a)<0)
   ·(try simp only [rwp,zA,zB,zC,zD,zE,zF,zG,zH,zI,rwb,reduceIte,C163_4])
    (try (simp (disch:=omega) only [q04]))
    rw [show (j:Int)-1=((j-1:Nat):Int) by omega]
    refine q08 rfl (hkk2 (j-1) _ ⟨rfl,hi1,by omega,by omega,hp2.l,fun k h1 h2=>?_⟩ (by omega))
    by_cases e:k=j
    ·rw [e];exact a2
    ·exact hp2.r k (by omega) h2
   ·(try simp only [rwp,zA,zB,zC,zD,zE,zF,zG,zH,zI,rwb,reduceIte,C163_4,decide_eq_false (show ¬ (j:Int)<i by omega)])
    refine hD.swap rfl rfl rfl rfl (by omega) (by omega) ?_
    (try simp only [rwp,zA,zB,zC,zD,zE,zF,zG,zH,zI,rwb,reduceIte])
    (try (simp (disch:=omega) only [q04]))
    obtain ⟨hp3,hlt3⟩:=hp2.swap hle2 (hle j hle2 (by omega)) a2
    have hr3:Rng n a b v (sw v0 i j):=hr0.trans (Rng.sw (by omega) (by omega) (by omega) (by omega) hb)
    generalize sw v0 i j=v1 at hp3 hr3
    clear hkk hkk2 hle hp hp2 hr0 a2
    have ei:(i:Int)+1=((i+1:Nat):Int):=by omega
    have ej:(j:Int)-1=((j-1:Nat):Int):=by omega
    rw [ei,ej]
    generalize i+1=i at hp3
    generalize j-1=j at hp3
    refine LoopP.introS (fun x:Nat×Nat=>[(0,D),(1,.int .i64 a),(4,fnG g),(12,.int .i64 x.1),(13,.int .i64 x.2)]) (fun x S'=>∃ w,S'=SS w∧Rng n a b v w∧Par (ltC c) a b x.1 x.2 w) (fun x=>x.2) (i,j) ⟨v1,rfl,hr3,hp3⟩ rfl ?_
    rintro ⟨i,j⟩ S3 ⟨w,rfl,hr,hp⟩ kk hkk
    dsimp only at hp ⊢
    unfold C163_5
    have hj0:=hp.j1
    refine LoopP.introS (fun i:Nat=>[(0,D),(1,.int .i64 a),(4,fnG g),(12,.int .i64 i),(13,.int .i64 j)]) (fun i S'=>S'=SS w∧Par (ltC c) a b i j w) (fun i=>b-i) i ⟨rfl,hp⟩ rfl ?_
    rintro i2 S4 ⟨rfl,hp4⟩ kk2 hkk2
    have hi4:=hp4.i1
    have hij4:=hp4.ij
    (try simp only [rwp,zA,zB,zC,zD,zE,zF,zG,zH,zI,rwb,reduceIte,C163_6])
    have next:(∀ j2:Nat,i2≤j2→j2≤j→Le (ltC c) (w a) (w i2))→LoopP (fun r1 l S=>C163_8 QF kk r1 (lget l 0) (lget l 1) (lget l 4) (lget l 12) (lget l 13) S) [(0,D),(1,.int .i64 a),(4,fnG g),(12,.int .i64 i2),(13,.int .i64 j)] (SS w):=by
     intro hle
     refine LoopP.introS (fun j2:Nat=>[(0,D),(1,.int .i64 a),(4,fnG g),(12,.int .i64 i2),(13,.int .i64 j2)]) (fun j2 S'=>S'=SS w∧j2≤j∧Par (ltC c) a b i2 j2 w) (fun j2=>j2) j ⟨rfl,Nat.le_refl _,hp4⟩ rfl ?_
     rintro j2 S5 ⟨rfl,hjj,hp5⟩ kk3 hkk3
     have hj5:=hp5.j1
     have hij5:=hp5.ij
     (try simp only [rwp,zA,zB,zC,zD,zE,zF,zG,zH,zI,rwb,reduceIte,C163_8])
     cases a1:decide ((i2:Int)≤j2)
     ·have hlt:j2<i2:=by have:=of_decide_eq_false a1;omega
      (try simp only [rwp,zA,zB,zC,zD,zE,zF,zG,zH,zI,rwb,reduceIte,C163_9,decide_eq_true (show (j2:Int)<i2 by omega)])
      refine hD.swap rfl rfl rfl rfl (by omega) (by omega) ?_
      exact fin w i2 j2 false hr hp5 hlt
     ·have hle2:i2≤j2:=by have:=of_decide_eq_true a1;omega
      (try simp only [rwp,zA,zB,zC,zD,zE,zF,zG,zH,zI,rwb,reduceIte])
      refine hD.cmp hg (i:=j2) (j:=a) rfl rfl (by omega) (by omega) ?_
      (try simp only [rwp,zA,zB,zC,zD,zE,zF,zG,zH,zI,rwb,reduceIte])
      cases a2:decide (c (w j2) (w a)<0)
      ·(try simp only [rwp,zA,zB,zC,zD,zE,zF,zG,zH,zI,rwb,reduceIte,C163_9])
       (try (simp (disch:=omega) only [q04]))
       rw [show (j2:Int)-1=((j2-1:Nat):Int) by omega]
       refine q08 rfl (hkk3 (j2-1) _ ⟨rfl,by omega,hi4,by omega,by omega,hp5.l,fun k h1 h2=>?_⟩ (by omega))
       by_cases e:k=j2
       ·rw [e];exact a2
       ·exact hp5.r k (by omega) h2
      ·(try simp only [rwp,zA,zB,zC,zD,zE,zF,zG,zH,zI,rwb,reduceIte,C163_9,decide_eq_false (show ¬ (j2:Int)<i2 by omega)])
       refine hD.swap rfl rfl rfl rfl (by omega) (by omega) ?_
       (try simp only [rwp,zA,zB,zC,zD,zE,zF,zG,zH,zI,rwb,reduceIte])
       (try (simp (disch:=omega) only [q04]))
       obtain ⟨hp6,hlt6⟩:=hp5.swap hle2 (hle j2 hle2 hjj) a2
       rw [show (i2:Int)+1=((i2+1:Nat):Int) by omega,show (j2:Int)-1=((j2-1:Nat):Int) by omega]
       exact q08 rfl (hkk (i2+1,j2-1) _ ⟨_,rfl,hr.trans (Rng.sw (by omega) (by omega) (by omega) (by omega) hb),hp6⟩ (by dsimp only;omega))
    cases a1:decide ((i2:Int)≤j)
    ·(try simp only [rwp,zA,zB,zC,zD,zE,zF,zG,zH,zI,rwb,reduceIte,C163_7])
     exact next fun j2 h1 h2=>by have:=of_decide_eq_false a1;omega
    ·have hle2:i2≤j:=by have:=of_decide_eq_true a1;omega
     (try simp only [rwp,zA,zB,zC,zD,zE,zF,zG,zH,zI,rwb,reduceIte])
     refine hD.cmp hg (i:=i2) (j:=a) rfl rfl (by omega) (by omega) ?_
     (try simp only [rwp,zA,zB,zC,zD,zE,zF,zG,zH,zI,rwb,reduceIte])
     cases a2:decide (c (w i2) (w a)<0)
     ·(try simp only [rwp,zA,zB,zC,zD,zE,zF,zG,zH,zI,rwb,reduceIte,C163_7])
      exact next fun _ _ _=>a2
     ·(try simp only [rwp,zA,zB,zC,zD,zE,zF,zG,zH,zI,rwb,reduceIte,C163_7])
      (try (simp (disch:=omega) only [q04]))
      rw [show (i2:Int)+1=((i2+1:Nat):Int) by omega]
      refine q08 rfl (hkk2 (i2+1) _ ⟨rfl,by omega,hp4.j1,by omega,fun k h1 h2=>?_,hp4.r⟩ (by omega))
      by_cases e:k=i2
      ·rw [e];exact a2
      ·exact hp4.l k h1 (by omega)
 cases a1:decide ((i:Int)≤((b-1:Nat):Int))
 ·(try simp only [rwp,zA,zB,zC,zD,zE,zF,zG,zH,zI,rwb,reduceIte,C163_2])
  exact next fun j h1 h2=>by have:=of_decide_eq_false a1;omega
 ·have hle2:i≤b-1:=by have:=of_decide_eq_true a1;omega
  (try simp only [rwp,zA,zB,zC,zD,zE,zF,zG,zH,zI,rwb,reduceIte])
  refine hD.cmp hg (i:=i) (j:=a) rfl rfl (by omega) (by omega) ?_
  (try simp only [rwp,zA,zB,zC,zD,zE,zF,zG,zH,zI,rwb,reduceIte])
  cases a2:decide (c (v0 i) (v0 a)<0)
  ·(try simp only [rwp,zA,zB,zC,zD,zE,zF,zG,zH,zI,rwb,reduceIte,C163_2])
   exact next fun _ _ _=>a2
  ·(try simp only [rwp,zA,zB,zC,zD,zE,zF,zG,zH,zI,rwb,reduceIte,C163_2])
   (try (simp (disch:=omega) only [q04]))
   rw [show (i:Int)+1=((i+1:Nat):Int) by omega]
   refine q08 rfl (hkk (i+1) _ ⟨rfl,by omega,hp.j1,by omega,fun k h1 h2=>?_,hp.r⟩ (by omega))
   by_cases e:k=i
   ·rw [e];exact a2
   ·exact hp.l k h1 (by omega)
theorem c_partitionE (hD:Dat D pt SS n) (hg:∀ x y,AFun PG g [.agg (obC x),.agg (obC y)] (.int .i64 (c x y))) (ho:LtOk (ltC c)) {a b p:Nat} (hap:a≤p) (hpb:p<b) (hb:b≤n) (v:Nat→Ob) :
  ACalls PG nrx162 [D,.int .i64 a,.int .i64 b,.int .i64 p,fnG g] (SS v) fun ae S'=>∃ (w:Nat→Ob) (m:Nat),ae=.ret (.int .i64 m)∧S'=SS w∧Rng n a b v w∧w a=v p∧a<m∧m≤b∧∀ k,a≤k→k<m→Le (ltC c) (w k) (w a):=by
 have hn:=hD.bd
 refine wx162 ?_
 unfold Bx162
 refine hD.swap rfl rfl rfl rfl (by omega) (by omega) ?_
 have hr0:Rng n a b v (sw v a p):=Rng.sw (by omega) (by omega) hap hpb hb
 have hv0:sw v a p a=v p:=sw_i
 generalize sw v a p=v0 at hr0 hv0
 (try simp only [rwp,zA,zB,zC,zD,zE,zF,zG,zH,zI,rwb,reduceIte])
 (try (simp (disch:=omega) only [q04]))
 generalize hQ:(fun ae S'=>∃ (w:Nat→Ob) (m:Nat),ae=AEnd.ret (.int .i64 m)∧S'=SS w∧Rng n a b v w∧w a=v p∧a<m∧m≤b∧∀ k,a≤k→k<m→Le (ltC c) (w k) (w a))=QF
 refine LoopP.introS (fun x:Nat×Nat=>[(0,D),(1,.int .i64 a),(4,fnG g),(11,.int .i64 x.1),(12,.int .i64 x.2)]) (fun x S'=>∃ w,S'=SS w∧Rng n a b v w∧w a=v p∧ParE (ltC c) a b x.1 x.2 w) (fun x=>x.2) (a+1,b-1)
  ⟨v0,rfl,hr0,hv0,⟨by dsimp only;omega,by dsimp only;omega,by dsimp only;omega,fun k h1 h2=>by dsimp only at h2;omega,fun k h1 h2=>by dsimp only at h1;omega⟩⟩ (by dsimp only;rw [show ((b-1:Nat):Int)=(b:Int)-1 by omega];rfl) ?_
 rintro ⟨i,j⟩ S3 ⟨w,rfl,hr,hwa,hp⟩ kk hkk
 dsimp only at hp ⊢
 unfold C162_1
 have hj0:=hp.j1
 refine LoopP.introS (fun i:Nat=>[(0,D),(1,.int .i64 a),(4,fnG g),(11,.int .i64 i),(12,.int .i64 j)]) (fun i S'=>S'=SS w∧ParE (ltC c) a b i j w) (fun i=>b-i) i ⟨rfl,hp⟩ rfl ?_
 rintro i2 S4 ⟨rfl,hp4⟩ kk2 hkk2
 have hi4:=hp4.i1
 have hij4:=hp4.ij
 (try simp only [rwp,zA,zB,zC,zD,zE,zF,zG,zH,zI,rwb,reduceIte,C162_2])
 have next:(∀ j2:Nat,i2≤j2→j2≤j→ltC c (w a) (w i2)=true)→LoopP (fun r1 l S=>C162_4 QF kk r1 (lget l 0) (lget l 1) (lget l 4) (lget l 11) (lget l 12) S) [(0,D),(1,.int .i64 a),(4,fnG g),(11,.int .i64 i2),(12,.int .i64 j)] (SS w):=by
  intro hle
  refine LoopP.introS (fun j2:Nat=>[(0,D),(1,.int .i64 a),(4,fnG g),(11,.int .i64 i2),(12,.int .i64 j2)]) (fun j2 S'=>S'=SS w∧j2≤j∧ParE (ltC c) a b i2 j2 w) (fun j2=>j2) j ⟨rfl,Nat.le_refl _,hp4⟩ rfl ?_
  rintro j2 S5 ⟨rfl,hjj,hp5⟩ kk3 hkk3
  have hj5:=hp5.j1
  have hij5:=hp5.ij
  (try simp only [rwp,zA,zB,zC,zD,zE,zF,zG,zH,zI,rwb,reduceIte,C162_4])
  cases a1:decide ((i2:Int)≤j2)
  ·have hlt:j2<i2:=by have:=of_decide_eq_false a1;omega
   (try simp only [rwp,zA,zB,zC,zD,zE,zF,zG,zH,zI,rwb,reduceIte,C162_5,decide_eq_true (show (j2:Int)<i2 by omega)])
   subst hQ
   refine q02 ⟨w,i2,rfl,rfl,hr,hwa,hi4,by omega,fun k h1 h2=>?_⟩
   by_cases e:k=a
   ·rw [e];exact Le.refl ho _
   ·exact hp5.l k (by omega) h2
  ·have hle2:i2≤j2:=by have:=of_decide_eq_true a1;omega
   (try simp only [rwp,zA,zB,zC,zD,zE,zF,zG,zH,zI,rwb,reduceIte])
   refine hD.cmp hg (i:=a) (j:=j2) rfl rfl (by omega) (by omega) ?_
   (try simp only [rwp,zA,zB,zC,zD,zE,zF,zG,zH,zI,rwb,reduceIte])
   cases a2:decide (c (w a) (w j2)<0)
   ·(try simp only [rwp,zA,zB,zC,zD,zE,zF,zG,zH,zI,rwb,reduceIte,C162_5,decide_eq_false (show ¬ (j2:Int)<i2 by omega)])
    refine hD.swap rfl rfl rfl rfl (by omega) (by omega) ?_
    (try simp only [rwp,zA,zB,zC,zD,zE,zF,zG,zH,zI,rwb,reduceIte])
    (try (simp (disch:=omega) only [q04]))
    obtain ⟨hp6,hlt6⟩:=hp5.swap hle2 (hle j2 hle2 hjj) a2
    rw [show (i2:Int)+1=((i2+1:Nat):Int) by omega,show (j2:Int)-1=((j2-1:Nat):Int) by omega]
    exact q08 rfl (hkk (i2+1,j2-1) _ ⟨_,rfl,hr.trans (Rng.sw (by omega) (by omega) (by omega) (by omega) hb),(sw_o (by omega) (by omega)).trans hwa,hp6⟩ (by dsimp only;omega))
   ·(try simp only [rwp,zA,zB,zC,zD,zE,zF,zG,zH,zI,rwb,reduceIte,C162_5])
    (try (simp (disch:=omega) only [q04]))
    rw [show (j2:Int)-1=((j2-1:Nat):Int) by omega]
    refine q08 rfl (hkk3 (j2-1) _ ⟨rfl,by omega,hi4,by omega,by omega,hp5.l,fun k h1 h2=>?_⟩ (by omega))
    by_cases e:k=j2
    ·rw [e];exact a2
    ·exact hp5.r k (by omega) h2
 cases a1:decide ((i2:Int)≤j)
 ·(try simp only [rwp,zA,zB,zC,zD,zE,zF,zG,zH,zI,rwb,reduceIte,C162_3])
  exact next fun j2 h1 h2=>by have:=of_decide_eq_false a1;omega
 ·have hle2:i2≤j:=by have:=of_decide_eq_true a1;omega
  (try simp only [rwp,zA,zB,zC,zD,zE,zF,zG,zH,zI,rwb,reduceIte])
  refine hD.cmp hg (i:=a) (j:=i2) rfl rfl (by omega) (by omega) ?_
  (try simp only [rwp,zA,zB,zC,zD,zE,zF,zG,zH,zI,rwb,reduceIte])
  cases a2:decide (c (w a) (w i2)<0)
  ·(try simp only [rwp,zA,zB,zC,zD,zE,zF,zG,zH,zI,rwb,reduceIte,C162_3])
   (try (simp (disch:=omega) only [q04]))
   rw [show (i2:Int)+1=((i2+1:Nat):Int) by omega]
   refine q08 rfl (hkk2 (i2+1) _ ⟨rfl,by omega,hp4.j1,by omega,fun k h1 h2=>?_,hp4.r⟩ (by omega))
   by_cases e:k=i2
   ·rw [e];exact a2
   ·exact hp4.l k h1 (by omega)
  ·(try simp only [rwp,zA,zB,zC,zD,zE,zF,zG,zH,zI,rwb,reduceIte,C162_3])
   exact next fun _ _ _=>a2
theorem c_reverse (hD:Dat D pt SS n) {a b:Nat} (hab:a<b) (hb:b≤n) (F:AV) (v:Nat→Ob) :
  ACalls PG nrx160 [D,.int .i64 a,.int .i64 b,F] (SS v) fun ae S'=>ae=.ret (.tup [])∧∃ w,S'=SS w∧Rng n a b v w:=by
 have hn:=hD.bd
 refine wx160 ?_
 unfold Bx160
 (try simp only [rwp,zA,zB,zC,zD,zE,zF,zG,zH,zI,rwb,reduceIte])
 (try (simp (disch:=omega) only [q04]))
 rw [show (b:Int)-1=((b-1:Nat):Int) by omega]
 refine LoopP.introS (fun x:Nat×Nat=>[(0,D),(8,.int .i64 x.1),(9,.int .i64 x.2)]) (fun x S'=>a≤x.1∧x.2<b∧x.1≤x.2+1∧∃ w,S'=SS w∧Rng n a b v w) (fun x=>x.2) (a,b-1) ⟨by dsimp only;omega,by dsimp only;omega,by dsimp only;omega,v,rfl,Rng.refl _ _ _ _⟩ rfl ?_
 rintro ⟨i,j⟩ S1 ⟨h1,h2,h3,w,rfl,hr⟩ kk hkk
 dsimp only at h1 h2 h3 ⊢
 (try simp only [rwp,zA,zB,zC,zD,zE,zF,zG,zH,zI,rwb,reduceIte,C160_1])
 cases a1:decide ((i:Int)<j)
 ·(try simp only [rwp,zA,zB,zC,zD,zE,zF,zG,zH,zI,rwb,reduceIte])
  exact q2r ⟨rfl,w,rfl,hr⟩
 ·have hlt:=of_decide_eq_true a1
  (try simp only [rwp,zA,zB,zC,zD,zE,zF,zG,zH,zI,rwb,reduceIte])
  refine hD.swap rfl rfl rfl rfl (by omega) (by omega) ?_
  (try simp only [rwp,zA,zB,zC,zD,zE,zF,zG,zH,zI,rwb,reduceIte])
  (try (simp (disch:=omega) only [q04]))
  rw [show (i:Int)+1=((i+1:Nat):Int) by omega,show (j:Int)-1=((j-1:Nat):Int) by omega]
  exact q08 rfl (hkk (i+1,j-1) _ ⟨by dsimp only;omega,by dsimp only;omega,by dsimp only;omega,_,rfl,hr.trans (Rng.sw (by omega) (by omega) (by omega) (by omega) hb)⟩ (by dsimp only;omega))
end
set_option maxRecDepth 4000
section
variable {D:AV} {pt:Nat→AV} {SS:(Nat→Ob)→q00} {n g:Nat} {c:Ob→Ob→Int} {cb:Nat} {v:Nat→Ob}
abbrev swC (k:Int):AObj:=.cells 3 [.int .i64 k] 1
theorem c_order2 (hD:Dat D pt SS n) (hg:∀ x y,AFun PG g [.agg (obC x),.agg (obC y)] (.int .i64 (c x y))) (hc:sget (SS v) cb=none) {i j k:Nat} (hi:i<n) (hj:j<n) (hk:k≤100000) :
  ACalls PG nrx212 [D,.int .i64 i,.int .i64 j,.ptr cb 0,fnG g] (supd (SS v) cb (swC k)) fun ae S'=>∃ x y k':Nat,ae=.ret (.tup [.int .i64 x,.int .i64 y])∧S'=supd (SS v) cb (swC k')∧k'≤k+1∧((x=i∧y=j)∨(x=j∧y=i)):=by
 refine wx212 ?_
 unfold Bx212
 refine hD.ia rfl hj (hD.ia rfl hi (hD.fr hc hj (hD.fr hc hi (q05 (hg _ _) ?_))))
 have ho:=q0m (S:=SS v) (b:=cb) (t:=3) (cs:=[.int .i64 k]) (tot:=1)
 have hcl:=q07 ho
 (try simp only [rwp,zA,zB,zC,zD,zE,zF,zG,zH,zI,rwb,reduceIte])
 cases a1:decide (c (v j) (v i)<0)
 ·(try simp only [rwp,zA,zB,zC,zD,zE,zF,zG,zH,zI,rwb,reduceIte])
  exact rtW_two ⟨i,j,k,rfl,rfl,by omega,.inl ⟨rfl,rfl⟩⟩
 ·(try simp only [rwp,zA,zB,zC,zD,zE,zF,zG,zH,zI,rwb,reduceIte,hcl,ho,q18])
  (simp (disch:=omega) only [q04])
  refine rtW_two ⟨j,i,k+1,rfl,?_,by omega,.inr ⟨rfl,rfl⟩⟩
  rw [show ((k+1:Nat):Int)=(k:Int)+1 by omega]
theorem c_median (hD:Dat D pt SS n) (hg:∀ x y,AFun PG g [.agg (obC x),.agg (obC y)] (.int .i64 (c x y))) (hc:sget (SS v) cb=none) {i j l k:Nat} (hi:i<n) (hj:j<n) (hl:l<n) (hk:k≤1000) :
  ACalls PG nrx198 [D,.int .i64 i,.int .i64 j,.int .i64 l,.ptr cb 0,fnG g] (supd (SS v) cb (swC k)) fun ae S'=>∃ m k':Nat,ae=.ret (.int .i64 m)∧S'=supd (SS v) cb (swC k')∧k'≤k+3∧(m=i∨m=j∨m=l):=by
 refine wx198 ?_
 unfold Bx198
 refine q0b (c_order2 hD hg hc hi hj (by omega)) ?_
 rintro ae S1 ⟨x,y,k1,rfl,rfl,h1,h2⟩
 dsimp only
 (try simp only [rwp,zA,zB,zC,zD,zE,zF,zG,zH,zI,rwb,reduceIte])
 refine q0b (c_order2 hD hg hc (i:=y) (j:=l) (by omega) hl (by omega)) ?_
 rintro ae S2 ⟨x2,y2,k2,rfl,rfl,h3,h4⟩
 dsimp only
 (try simp only [rwp,zA,zB,zC,zD,zE,zF,zG,zH,zI,rwb,reduceIte])
 refine q0b (c_order2 hD hg hc (i:=x) (j:=x2) (by omega) (by omega) (by omega)) ?_
 rintro ae S3 ⟨x3,y3,k3,rfl,rfl,h5,h6⟩
 dsimp only
 (try simp only [rwp,zA,zB,zC,zD,zE,zF,zG,zH,zI,rwb,reduceIte])
 exact q02 ⟨y3,k3,rfl,rfl,by omega,by omega⟩
theorem c_medianA (hD:Dat D pt SS n) (hg:∀ x y,AFun PG g [.agg (obC x),.agg (obC y)] (.int .i64 (c x y))) (hc:sget (SS v) cb=none) {i k:Nat} (h0:0<i) (hi:i+1<n) (hk:k≤1000) :
  ACalls PG nrx197 [D,.int .i64 i,.ptr cb 0,fnG g] (supd (SS v) cb (swC k)) fun ae S'=>∃ m k':Nat,ae=.ret (.int .i64 m)∧S'=supd (SS v) cb (swC k')∧k'≤k+3∧i≤m+1∧m≤i+1:=by
 have hn:=hD.bd
 refine wx197 ?_
 unfold Bx197
 (try simp only [rwp,zA,zB,zC,zD,zE,zF,zG,zH,zI,rwb,reduceIte])
 (simp (disch:=omega) only [q04])
 rw [show (i:Int)-1=((i-1:Nat):Int) by omega,show (i:Int)+1=((i+1:Nat):Int) by omega]
 refine q0b (c_median hD hg hc (i:=i-1) (j:=i) (l:=i+1) (by omega) (by omega) (by omega) hk) ?_
 rintro ae S1 ⟨m,k1,rfl,rfl,h1,h2⟩
 dsimp only
 exact q02 ⟨m,k1,rfl,rfl,by omega,by omega,by omega⟩
theorem c_pivot (hD:Dat D pt SS n) (hg:∀ x y,AFun PG g [.agg (obC x),.agg (obC y)] (.int .i64 (c x y))) {a b:Nat} (hab:a+12<b) (hb:b≤n) :
  ACalls PG nrx159 [D,.int .i64 a,.int .i64 b,fnG g] (SS v) fun ae S'=>∃ (p:Nat) (h:Int),ae=.ret (.tup [.int .i64 p,.int .i64 h])∧S'=SS v∧a≤p∧p<b:=by
 have hn:=hD.bd
 refine wx159 ?_
 unfold Bx159
 obtain ⟨l,rfl⟩:∃ l,b=a+l:=⟨b-a,by omega⟩
 (try simp only [rwp,zA,zB,zC,zD,zE,zF,zG,zH,zI,rwb,reduceIte])
 (try (simp (disch:=omega) only [q04]))
 rw [show ((a+l:Nat):Int)-a=(l:Int) by omega]
 intro cb hcb
 have fin:∀ (p k:Nat),a≤p→p<a+l→C159_1 (fun ae S'=>∃ (p:Nat) (h:Int),ae=.ret (.tup [.int .i64 p,.int .i64 h])∧S'=SS v∧a≤p∧p<a+l) (.ptr cb 0) (.int .i64 p) (supd (SS v) cb (swC k)):=by
  intro p k h1 h2
  have hcl:=q07 (q0m (S:=SS v) (b:=cb) (t:=3) (cs:=[.int .i64 k]) (tot:=1))
  (try simp only [rwp,zA,zB,zC,zD,zE,zF,zG,zH,zI,rwb,reduceIte,C159_1,hcl])
  have out:∀ h:Int,rtW [.tmp (.int .i64 p),.tmp (.int .i64 h)] (fun ae S'=>∃ (p:Nat) (h:Int),ae=.ret (.tup [.int .i64 p,.int .i64 h])∧S'=SS v∧a≤p∧p<a+l) (supd (SS v) cb (swC k)):=fun h=>q17 (SS v) (Sub.supd hcb (Sub.refl _)) ⟨p,h,rfl,rfl,h1,h2⟩
  cases a1:decide ((k:Int)=0)
  ·(try simp only [rwp,zA,zB,zC,zD,zE,zF,zG,zH,zI,rwb,reduceIte])
   cases a2:decide ((k:Int)=12)
   ·(try simp only [rwp,zA,zB,zC,zD,zE,zF,zG,zH,zI,rwb,reduceIte]);exact out 0
   ·(try simp only [rwp,zA,zB,zC,zD,zE,zF,zG,zH,zI,rwb,reduceIte]);exact out 2
  ·(try simp only [rwp,zA,zB,zC,zD,zE,zF,zG,zH,zI,rwb,reduceIte]);exact out 1
 refine quoN (a:=l) (b:=4) rfl rfl (by omega) (by omega) ?_
 have hq:3≤l / 4∧4 * (l / 4)≤l:=by omega
 generalize hq4:l / 4=q at hq
 (try simp only [rwp,zA,zB,zC,zD,zE,zF,zG,zH,zI,rwb,reduceIte])
 (try (simp (disch:=omega) only [q04]))
 refine quoN (a:=l) (b:=4) rfl rfl (by omega) (by omega) ?_
 rw [hq4]
 (try simp only [rwp,zA,zB,zC,zD,zE,zF,zG,zH,zI,rwb,reduceIte])
 (try (simp (disch:=omega) only [q04]))
 refine quoN (a:=l) (b:=4) rfl rfl (by omega) (by omega) ?_
 rw [hq4]
 (try simp only [rwp,zA,zB,zC,zD,zE,zF,zG,zH,zI,rwb,reduceIte])
 (try (simp (disch:=omega) only [q04]))
 rw [show (a:Int)+(q:Int) * 1=((a+q:Nat):Int) by omega,show (a:Int)+(q:Int) * 2=((a+2 * q:Nat):Int) by omega,show (a:Int)+(q:Int) * 3=((a+3 * q:Nat):Int) by omega]
 (try simp only [rwp,zA,zB,zC,zD,zE,zF,zG,zH,zI,rwb,reduceIte,decide_eq_true (show (8:Int)≤l by omega)])
 cases a1:decide ((50:Int)≤l)
 ·(try simp only [rwp,zA,zB,zC,zD,zE,zF,zG,zH,zI,rwb,reduceIte])
  refine q0b (c_median hD hg hcb (k:=0) (i:=a+q) (j:=a+2 * q) (l:=a+3 * q) (by omega) (by omega) (by omega) (by omega)) ?_
  rintro ae S1 ⟨m,k1,rfl,rfl,h1,h2⟩
  dsimp only
  exact fin m k1 (by omega) (by omega)
 ·have hl:=of_decide_eq_true a1
  (try simp only [rwp,zA,zB,zC,zD,zE,zF,zG,zH,zI,rwb,reduceIte])
  refine q0b (c_medianA hD hg hcb (k:=0) (i:=a+q) (by omega) (by omega) (by omega)) ?_
  rintro ae S1 ⟨m1,k1,rfl,rfl,h1,h2,h2'⟩
  dsimp only
  refine q0b (c_medianA hD hg hcb (i:=a+2 * q) (by omega) (by omega) (by omega)) ?_
  rintro ae S2 ⟨m2,k2,rfl,rfl,h3,h4,h4'⟩
  dsimp only
  refine q0b (c_medianA hD hg hcb (i:=a+3 * q) (by omega) (by omega) (by omega)) ?_
  rintro ae S3 ⟨m3,k3,rfl,rfl,h5,h6,h6'⟩
  dsimp only
  refine q0b (c_median hD hg hcb (i:=m1) (j:=m2) (l:=m3) (by omega) (by omega) (by omega) (by omega)) ?_
  rintro ae S4 ⟨m,k4,rfl,rfl,h7,h8⟩
  dsimp only
  exact fin m k4 (by omega) (by omega)
theorem u64w {x:Nat} (h:x<18446744073709551616):IntKind.u64.wrap (x:Int)=x:=by
 have e:IntKind.u64.wrap (x:Int)=(x:Int) % (18446744073709551616:Int):=rfl
 rw [e]
 omega
theorem and_u64 (x:Int) {m:Nat} (hm:m<1000):∃ q:Nat,q≤m∧Go.bits .and .u64 x m=q:=by
 refine ⟨(BitVec.ofInt 64 x &&& BitVec.ofInt 64 (m:Int)).toNat,?_,?_⟩
 ·rw [BitVec.toNat_and]
  refine Nat.le_trans Nat.and_le_right ?_
  rw [BitVec.toNat_ofInt]
  omega
 ·exact u64w (BitVec.isLt _)
theorem shl13 (a:Int):∃ a':Int,∀ K:AV→Prop,biW .shl (.int .u64 a) (.int .u64 13) K=K (.int .u64 a'):=⟨_,fun K=>rfl⟩
theorem shl17 (a:Int):∃ a':Int,∀ K:AV→Prop,biW .shl (.int .u64 a) (.int .u64 17) K=K (.int .u64 a'):=⟨_,fun K=>rfl⟩
theorem shr7 (a:Int):∃ a':Int,∀ K:AV→Prop,biW .shr (.int .u64 a) (.int .u64 7) K=K (.int .u64 a'):=⟨_,fun K=>rfl⟩
abbrev rnC (r:Int):AObj:=.cells 272 [.int .u64 r] 1
theorem c_Next {S:q00} (r:Int):ACalls PG nrx196 [.ptr cb 0] (supd S cb (rnC r)) fun ae S'=>∃ r':Int,ae=.ret (.int .u64 r')∧S'=supd S cb (rnC r'):=by
 refine wx196 ?_
 unfold Bx196
 have ho:∀ x:Int,q0j (supd S cb (rnC x)) cb=some (272,[.int .u64 x],1):=fun x=>q0m
 have hcl:=fun x=>q07 (ho x)
 obtain ⟨r1,e1⟩:=shl13 r
 (try simp only [rwp,zA,zB,zC,zD,zE,zF,zG,zH,zI,rwb,reduceIte,hcl,ho,e1,biW_xor,q18])
 obtain ⟨r2,e2⟩:=shr7 (Go.bits .xor .u64 r r1)
 generalize Go.bits .xor .u64 r r1=x1 at e2 ⊢
 (try simp only [rwp,zA,zB,zC,zD,zE,zF,zG,zH,zI,rwb,reduceIte,hcl,ho,e2,biW_xor,q18])
 obtain ⟨r3,e3⟩:=shl17 (Go.bits .xor .u64 x1 r2)
 generalize Go.bits .xor .u64 x1 r2=x2 at e3 ⊢
 (try simp only [rwp,zA,zB,zC,zD,zE,zF,zG,zH,zI,rwb,reduceIte,hcl,ho,e3,biW_xor,q18])
 exact q02 (QF:=fun ae S'=>∃ r':Int,ae=.ret (.int .u64 r')∧S'=supd S cb (rnC r')) ⟨_,rfl,rfl⟩
theorem c_pow2 {l:Nat} (hl:l<256):AFun PG nrx195 [.int .i64 l] (.int .u64 ((2 ^ lenF l:Nat):Int)):=by
 intro S
 refine wx195 ?_
 unfold Bx195
 (try simp only [rwp,zA,zB,zC,zD,zE,zF,zG,zH,zI,rwb,reduceIte])
 rw [u64w (by omega)]
 refine q05 (c_Len hl) ?_
 have h8:=(lenF_ok ⟨l,hl⟩).2.2
 dsimp only at h8
 generalize lenF l=q at h8
 have e:∀ K:AV→Prop,biW .shl (.int .u64 1) (.int .i64 (q:Int)) K=q0p (if (q:Int)<0 then none else some (.int .u64 (IntKind.u64.wrap (1 * 2 ^ min (q:Int).toNat 64)))) K:=fun K=>rfl
 rw [e,if_neg (by omega)]
 have hq:min (q:Int).toNat 64=q:=by omega
 rw [hq,Int.one_mul,show (2:Int) ^ q=((2 ^ q:Nat):Int) by push_cast;rfl,u64w (Nat.lt_of_le_of_lt (Nat.pow_le_pow_right (by decide) h8) (by decide))]
 simp only [someA_some]
 exact q02 ⟨rfl,rfl⟩
theorem c_break (hD:Dat D pt SS n) {a b:Nat} (hab:a+12<b) (hb:b≤n) (hl:b<a+256) (F:AV) :
  ACalls PG nrx158 [D,.int .i64 a,.int .i64 b,F] (SS v) fun ae S'=>ae=.ret (.tup [])∧∃ w,S'=SS w∧Rng n a b v w:=by
 have hn:=hD.bd
 refine wx158 ?_
 unfold Bx158
 obtain ⟨l,rfl⟩:∃ l,b=a+l:=⟨b-a,by omega⟩
 (try simp only [rwp,zA,zB,zC,zD,zE,zF,zG,zH,zI,rwb,reduceIte])
 (try (simp (disch:=omega) only [q04]))
 rw [show ((a+l:Nat):Int)-a=(l:Int) by omega]
 (try simp only [rwp,zA,zB,zC,zD,zE,zF,zG,zH,zI,rwb,reduceIte,decide_eq_true (show (8:Int)≤l by omega)])
 rw [u64w (by omega)]
 intro cb hcb
 (try simp only [rwp,zA,zB,zC,zD,zE,zF,zG,zH,zI,rwb,reduceIte,q0m,q18])
 refine q05 (c_pow2 (by omega)) ?_
 obtain ⟨p1,p2,p3⟩:=lenF_ok ⟨l,by omega⟩
 dsimp only at p1 p2 p3
 generalize hP:2 ^ lenF l=P at p1 p2 ⊢
 refine quoN (a:=l) (b:=4) rfl rfl (by omega) (by omega) ?_
 have hq:3≤l / 4∧4 * (l / 4)≤l:=by omega
 generalize hq4:l / 4=q at hq
 (try simp only [rwp,zA,zB,zC,zD,zE,zF,zG,zH,zI,rwb,reduceIte])
 (try (simp (disch:=omega) only [q04]))
 rw [show (a:Int)+(q:Int) * 2-1=((a+2 * q-1:Nat):Int) by omega]
 refine LoopP.introS (fun i:Nat=>[(0,D),(1,.int .i64 a),(8,.int .i64 l),(9,.ptr cb 0),(10,.int .u64 P),(11,.int .i64 i)]) (fun i S'=>a+2 * q-1≤i∧i≤a+2 * q+2∧∃ (w:Nat→Ob) (r:Int),S'=supd (SS w) cb (rnC r)∧Rng n a (a+l) v w) (fun i=>a+2 * q+2-i) (a+2 * q-1)
  ⟨by omega,by omega,v,_,rfl,Rng.refl _ _ _ _⟩ rfl ?_
 rintro i S1 ⟨hi1,hi2,w,r,rfl,hr⟩ kk hkk
 have hcw:=hD.fn (w:=w) hcb
 unfold C158_1
 refine quoN (a:=l) (b:=4) rfl rfl (by omega) (by omega) ?_
 rw [hq4]
 (try simp only [rwp,zA,zB,zC,zD,zE,zF,zG,zH,zI,rwb,reduceIte])
 (try (simp (disch:=omega) only [q04]))
 cases a1:decide ((i:Int)≤(a:Int)+(q:Int) * 2+1)
 ·(try simp only [rwp,zA,zB,zC,zD,zE,zF,zG,zH,zI,rwb,reduceIte])
  exact q17 (SS w) (Sub.supd hcw (Sub.refl _)) ⟨rfl,w,rfl,hr⟩
 ·have hle:=of_decide_eq_true a1
  (try simp only [rwp,zA,zB,zC,zD,zE,zF,zG,zH,zI,rwb,reduceIte])
  refine q0b (c_Next (S:=SS w) r) ?_
  rintro ae S2 ⟨r',rfl,rfl⟩
  dsimp only
  (try simp only [rwp,zA,zB,zC,zD,zE,zF,zG,zH,zI,rwb,reduceIte])
  rw [show (P:Int)-1=((P-1:Nat):Int) by omega,u64w (by omega)]
  obtain ⟨o,ho1,ho2⟩:=and_u64 r' (m:=P-1) (by omega)
  (try simp only [rwp,zA,zB,zC,zD,zE,zF,zG,zH,zI,rwb,reduceIte,biW_and,ho2])
  (simp (disch:=omega) only [q04])
  have fin:∀ x:Nat,x<l→C158_2 (fun ae S'=>ae=.ret (.tup [])∧∃ w,S'=SS w∧Rng n a (a+l) v w) kk D (.int .i64 a) (.int .i64 l) (.ptr cb 0) (.int .u64 P) (.int .i64 i) (.int .i64 x) (supd (SS w) cb (rnC r')):=by
   intro x hx
   (try simp only [rwp,zA,zB,zC,zD,zE,zF,zG,zH,zI,rwb,reduceIte,C158_2])
   (try (simp (disch:=omega) only [q04]))
   refine hD.ia (i:=a+x) (by omega) (by omega) (hD.ia (i:=i) rfl (by omega) (hD.fr hcw (by omega) (hD.fr hcw (by omega) ?_)))
   refine hD.ia (i:=i) rfl (by omega) (hD.fs hcw (by omega) (hD.ia (i:=a+x) (by omega) (by omega) (hD.fs (hD.fn hcw) (by omega) ?_)))
   rw [sw_upv]
   (try simp only [rwp,zA,zB,zC,zD,zE,zF,zG,zH,zI,rwb,reduceIte])
   (try (simp (disch:=omega) only [q04]))
   rw [show (i:Int)+1=((i+1:Nat):Int) by omega]
   exact q08 rfl (hkk (i+1) _ ⟨by omega,by omega,_,r',rfl,hr.trans (Rng.sw (by omega) (by omega) (by omega) (by omega) hb)⟩ (by omega))
  cases a2:decide ((l:Int)≤o)
  ·(try simp only [rwp,zA,zB,zC,zD,zE,zF,zG,zH,zI,rwb,reduceIte])
   exact fin o (by have:=of_decide_eq_false a2;omega)
  ·have hlo:=of_decide_eq_true a2
   (try simp only [rwp,zA,zB,zC,zD,zE,zF,zG,zH,zI,rwb,reduceIte])
   (try (simp (disch:=omega) only [q04]))
   rw [show (o:Int)-l=((o-l:Nat):Int) by omega]
   exact fin (o-l) (by omega)
end
set_option maxRecDepth 4000
section
variable {α:Type} {lt:α→α→Bool} {n a b m A B:Nat} {v w x:Nat→α}
def PreF (lt:α→α→Bool) (a b:Nat) (v:Nat→α):Prop:=0<a→∀ k,a≤k→k<b→Le lt (v (a-1)) (v k)
theorem PreF.rng (h:PreF lt a b v) (hb:b≤n) (hr:Rng n a b v w):PreF lt a b w:=fun h0 k h1 h2=>by
 obtain ⟨j,j1,j2,e⟩:=hr.mem hb h1 h2
 rw [e,hr.out (a-1) (.inl (by omega))]
 exact h h0 j j1 j2
theorem Pdq.pre (hp:PreF lt A B v) (hb:B≤n) (hr:Rng n A B v w) (h:Pdq lt A B a b w):PreF lt a b w:=fun h0 k h1 h2=>by
 have e1:=h.pa
 have e2:=h.pb
 by_cases e:a=A
 ·subst e
  exact hp.rng hb hr h0 k h1 (by omega)
 ·exact h.lm (a-1) k (by omega) (by omega) h1 (by omega)
theorem Cut.left (h:Cut lt a b m v) (hb:b≤n) (hr:Rng n a m v w):Cut lt a b m w:=by
 have h1:=h.cb
 refine ⟨h.ca,h.cb,fun k k1 k2=>?_,fun k k1 k2=>?_⟩
 ·obtain ⟨j,j1,j2,e⟩:=hr.mem (by omega) k1 k2
  rw [e,hr.out m (.inr (Nat.le_refl _))]
  exact h.l j j1 j2
 ·rw [hr.out m (.inr (Nat.le_refl _)),hr.out k (.inr (by omega))]
  exact h.r k k1 k2
theorem Cut.right (h:Cut lt a b m v) (hb:b≤n) (hr:Rng n (m+1) b v w):Cut lt a b m w:=by
 refine ⟨h.ca,h.cb,fun k k1 k2=>?_,fun k k1 k2=>?_⟩
 ·rw [hr.out m (.inl (by omega)),hr.out k (.inl (by omega))]
  exact h.l k k1 k2
 ·obtain ⟨j,j1,j2,e⟩:=hr.mem hb (i:=k) (by omega) k2
  rw [e,hr.out m (.inl (by omega))]
  exact h.r j (by omega) j2
end
section
variable {D:AV} {pt:Nat→AV} {SS:(Nat→Ob)→q00} {n g:Nat} {c:Ob→Ob→Int}
theorem c_partial (hD:Dat D pt SS n) (hg:∀ x y,AFun PG g [.agg (obC x),.agg (obC y)] (.int .i64 (c x y))) (ho:LtOk (ltC c)) {a b:Nat} (hab:a<b) (hb:b≤n) (v:Nat→Ob) (hp:PreF (ltC c) a b v) :
  ACalls PG nrx161 [D,.int .i64 a,.int .i64 b,fnG g] (SS v) fun ae S'=>∃ (r:Bool) (w:Nat→Ob),ae=.ret (.bool r)∧S'=SS w∧Rng n a b v w∧(r=true→Srt (ltC c) a b w):=by
 have hn:=hD.bd
 refine wx161 ?_
 unfold Bx161
 (try simp only [rwp,zA,zB,zC,zD,zE,zF,zG,zH,zI,rwb,reduceIte])
 (try (simp (disch:=omega) only [q04]))
 generalize hQ:(fun ae S'=>∃ (r:Bool) (w:Nat→Ob),ae=AEnd.ret (.bool r)∧S'=SS w∧Rng n a b v w∧(r=true→Srt (ltC c) a b w))=QF
 refine LoopP.introS (fun x:Nat×Nat=>[(0,D),(1,.int .i64 a),(2,.int .i64 b),(3,fnG g),(9,.int .i64 x.1),(10,.int .i64 x.2)]) (fun x S'=>a+1≤x.1∧x.1≤b∧x.2≤5∧∃ w,S'=SS w∧Rng n a b v w∧Srt (ltC c) a x.1 w) (fun x=>5-x.2) (a+1,0)
  ⟨Nat.le_refl _,hab,by dsimp only;omega,v,rfl,Rng.refl _ _ _ _,Srt.one (Nat.le_refl _)⟩ (by dsimp only;rw [show ((a+1:Nat):Int)=(a:Int)+1 by omega];rfl) ?_
 rintro ⟨i0,j⟩ S1 ⟨hi0,hi0b,hj,w,rfl,hr,hs0⟩ kk hkk
 dsimp only at hi0 hi0b hj hs0 ⊢
 (try simp only [rwp,zA,zB,zC,zD,zE,zF,zG,zH,zI,rwb,reduceIte,C161_1])
 have no:∀ u:Nat→Ob,Rng n a b v u→rtW [.tmp (.bool false)] QF (SS u):=fun u hu=>by
  subst hQ
  exact q02 ⟨false,u,rfl,rfl,hu,fun h=>by cases h⟩
 cases a1:decide ((j:Int)<5)
 ·(try simp only [rwp,zA,zB,zC,zD,zE,zF,zG,zH,zI,rwb,reduceIte])
  exact no w hr
 ·have hj5:j<5:=by have:=of_decide_eq_true a1;omega
  (try simp only [rwp,zA,zB,zC,zD,zE,zF,zG,zH,zI,rwb,reduceIte])
  refine LoopP.introS (fun i:Nat=>[(0,D),(1,.int .i64 a),(2,.int .i64 b),(3,fnG g),(9,.int .i64 i),(10,.int .i64 j)]) (fun i S'=>a+1≤i∧i≤b∧S'=SS w∧Srt (ltC c) a i w) (fun i=>b-i) i0 ⟨hi0,hi0b,rfl,hs0⟩ rfl ?_
  rintro i S2 ⟨hi,hib,rfl,hs⟩ kk2 hkk2
  -- on to the next round
  have again:∀ u:Nat→Ob,Rng n a b v u→Srt (ltC c) a i u→rcW kk [(0,D),(1,.int .i64 a),(2,.int .i64 b),(3,fnG g),(9,.int .i64 i),(10,.int .i64 ((j:Int)+1))] (SS u):=fun u hu hsu=>by
   rw [show (j:Int)+1=((j+1:Nat):Int) by omega]
   exact q08 rfl (hkk (i,j+1) _ ⟨hi,hib,by dsimp only;omega,u,rfl,hu,hsu⟩ (by dsimp only;omega))
  have right:∀ u:Nat→Ob,Rng n a b v u→Srt (ltC c) a i u→C161_5 QF kk D (.int .i64 a) (.int .i64 b) (fnG g) (.int .i64 i) (.int .i64 j) (SS u):=by
   intro u hu hsu
   (try simp only [rwp,zA,zB,zC,zD,zE,zF,zG,zH,zI,rwb,reduceIte,C161_5])
   (try (simp (disch:=omega) only [q04]))
   cases a3:decide ((2:Int)≤(b:Int)-i)
   ·(try simp only [rwp,zA,zB,zC,zD,zE,zF,zG,zH,zI,rwb,reduceIte])
    (try (simp (disch:=omega) only [q04]))
    exact again u hu hsu
   ·(try simp only [rwp,zA,zB,zC,zD,zE,zF,zG,zH,zI,rwb,reduceIte])
    (try (simp (disch:=omega) only [q04]))
    rw [show (i:Int)+1=((i+1:Nat):Int) by omega]
    refine LoopP.introS (fun q:Nat=>[(0,D),(1,.int .i64 a),(2,.int .i64 b),(3,fnG g),(9,.int .i64 i),(10,.int .i64 j),(12,.int .i64 q)]) (fun q S'=>i+1≤q∧q≤b∧∃ x,S'=SS x∧Rng n a b v x∧Srt (ltC c) a i x) (fun q=>b-q) (i+1) ⟨Nat.le_refl _,by have:=of_decide_eq_true a3;omega,u,rfl,hu,hsu⟩ rfl ?_
    rintro q S3 ⟨hq1,hq2,x,rfl,hx,hsx⟩ kk3 hkk3
    (try simp only [rwp,zA,zB,zC,zD,zE,zF,zG,zH,zI,rwb,reduceIte,C161_6])
    cases a4:decide ((q:Int)<b)
    ·(try simp only [rwp,zA,zB,zC,zD,zE,zF,zG,zH,zI,rwb,reduceIte])
     (try (simp (disch:=omega) only [q04]))
     exact again x hx hsx
    ·have hqb:=of_decide_eq_true a4
     (try simp only [rwp,zA,zB,zC,zD,zE,zF,zG,zH,zI,rwb,reduceIte])
     refine hD.ia (i:=q) rfl (by omega) ?_
     (try simp only [rwp,zA,zB,zC,zD,zE,zF,zG,zH,zI,rwb,reduceIte])
     (try (simp (disch:=omega) only [q04]))
     refine hD.ia (i:=q-1) (by omega) (by omega) (hD.ld (by omega) (hD.ld (by omega) (q05 (hg _ _) ?_)))
     (try simp only [rwp,zA,zB,zC,zD,zE,zF,zG,zH,zI,rwb,reduceIte])
     cases a5:decide (c (x q) (x (q-1))<0)
     ·(try simp only [rwp,zA,zB,zC,zD,zE,zF,zG,zH,zI,rwb,reduceIte])
      (try (simp (disch:=omega) only [q04]))
      exact again x hx hsx
     ·(try simp only [rwp,zA,zB,zC,zD,zE,zF,zG,zH,zI,rwb,reduceIte])
      (try (simp (disch:=omega) only [q04]))
      refine hD.swap (i:=q-1) (j:=q) (by omega) rfl (by omega) rfl (by omega) (by omega) ?_
      (try simp only [rwp,zA,zB,zC,zD,zE,zF,zG,zH,zI,rwb,reduceIte])
      (try (simp (disch:=omega) only [q04]))
      rw [show (q:Int)+1=((q+1:Nat):Int) by omega]
      exact q08 rfl (hkk3 (q+1) _ ⟨by omega,by omega,_,rfl,hx.trans (Rng.sw (by omega) (by omega) (by omega) (by omega) hb),hsx.same fun k k1 k2=>sw_o (by omega) (by omega)⟩ (by omega))
  (try simp only [rwp,zA,zB,zC,zD,zE,zF,zG,zH,zI,rwb,reduceIte,C161_2])
  cases a2:decide ((i:Int)<b)
  ·have e:i=b:=by have:=of_decide_eq_false a2;omega
   subst e
   (try simp only [rwp,zA,zB,zC,zD,zE,zF,zG,zH,zI,rwb,reduceIte,C161_3,decide_true])
   subst hQ
   exact q02 ⟨true,w,rfl,rfl,hr,fun _=>hs⟩
  ·have hlt:=of_decide_eq_true a2
   (try simp only [rwp,zA,zB,zC,zD,zE,zF,zG,zH,zI,rwb,reduceIte])
   refine hD.ia (i:=i) rfl (by omega) ?_
   (try simp only [rwp,zA,zB,zC,zD,zE,zF,zG,zH,zI,rwb,reduceIte])
   (try (simp (disch:=omega) only [q04]))
   refine hD.ia (i:=i-1) (by omega) (by omega) (hD.ld (by omega) (hD.ld (by omega) (q05 (hg _ _) ?_)))
   (try simp only [rwp,zA,zB,zC,zD,zE,zF,zG,zH,zI,rwb,reduceIte])
   cases a3:decide (c (w i) (w (i-1))<0)
   ·(try simp only [rwp,zA,zB,zC,zD,zE,zF,zG,zH,zI,rwb,reduceIte,C161_3])
    (try (simp (disch:=omega) only [q04]))
    rw [show (i:Int)+1=((i+1:Nat):Int) by omega]
    exact q08 rfl (hkk2 (i+1) _ ⟨by omega,by omega,rfl,hs.snoc ho (by omega) a3⟩ (by omega))
   ·(try simp only [rwp,zA,zB,zC,zD,zE,zF,zG,zH,zI,rwb,reduceIte,C161_3,decide_eq_false (show ¬ (i:Int)=b by omega)])
    (try (simp (disch:=omega) only [q04]))
    cases a4:decide ((b:Int)-a<50)
    ·(try simp only [rwp,zA,zB,zC,zD,zE,zF,zG,zH,zI,rwb,reduceIte])
     (try (simp (disch:=omega) only [q04]))
     refine hD.swap (i:=i-1) (j:=i) (by omega) rfl (by omega) rfl (by omega) (by omega) ?_
     (try simp only [rwp,zA,zB,zC,zD,zE,zF,zG,zH,zI,rwb,reduceIte])
     (try (simp (disch:=omega) only [q04]))
     have hr1:Rng n a b v (sw w i (i-1)):=hr.trans (Rng.sw (by omega) (by omega) (by omega) (by omega) hb)
     have hs1:Srt (ltC c) a (i-1) (sw w i (i-1)):=fun p q p1 p2 p3=>by
      rw [sw_o (by omega) (by omega),sw_o (by omega) (by omega)]
      exact hs p q p1 p2 (by omega)
     generalize sw w i (i-1)=w1 at hr1 hs1
     cases a5:decide ((2:Int)≤(i:Int)-a)
     ·(try simp only [rwp,zA,zB,zC,zD,zE,zF,zG,zH,zI,rwb,reduceIte])
      exact right w1 hr1 (Srt.one (by have:=of_decide_eq_false a5;omega))
     ·(try simp only [rwp,zA,zB,zC,zD,zE,zF,zG,zH,zI,rwb,reduceIte])
      (try (simp (disch:=omega) only [q04]))
      rw [show (i:Int)-1=((i-1:Nat):Int) by omega]
      refine LoopP.introS (fun q:Nat=>[(0,D),(1,.int .i64 a),(2,.int .i64 b),(3,fnG g),(9,.int .i64 i),(10,.int .i64 j),(11,.int .i64 q)]) (fun q S'=>∃ x,S'=SS x∧Rng n a b v x∧InsI (ltC c) a (i-1) q x) (fun q=>q) (i-1) ⟨w1,rfl,hr1,InsI.start hs1 (by omega)⟩ rfl ?_
      rintro q S3 ⟨x,rfl,hx,hix⟩ kk3 hkk3
      have h1:=hix.lo
      have h2:=hix.hi
      have stop:(q=a∨Le (ltC c) (x (q-1)) (x q))→C161_5 QF kk D (.int .i64 a) (.int .i64 b) (fnG g) (.int .i64 i) (.int .i64 j) (SS x):=fun hq=>by
       have:=hix.stop ho hq
       rw [show i-1+1=i by omega] at this
       exact right x hx this
      (try simp only [rwp,zA,zB,zC,zD,zE,zF,zG,zH,zI,rwb,reduceIte,C161_4])
      cases a6:decide ((1:Int)≤q)
      ·(try simp only [rwp,zA,zB,zC,zD,zE,zF,zG,zH,zI,rwb,reduceIte])
       exact stop (.inl (by have:=of_decide_eq_false a6;omega))
      ·have hq1:=of_decide_eq_true a6
       (try simp only [rwp,zA,zB,zC,zD,zE,zF,zG,zH,zI,rwb,reduceIte])
       refine hD.ia (i:=q) rfl (by omega) ?_
       (try simp only [rwp,zA,zB,zC,zD,zE,zF,zG,zH,zI,rwb,reduceIte])
       (try (simp (disch:=omega) only [q04]))
       refine hD.ia (i:=q-1) (by omega) (by omega) (hD.ld (by omega) (hD.ld (by omega) (q05 (hg _ _) ?_)))
       (try simp only [rwp,zA,zB,zC,zD,zE,zF,zG,zH,zI,rwb,reduceIte])
       cases a7:decide (c (x q) (x (q-1))<0)
       ·(try simp only [rwp,zA,zB,zC,zD,zE,zF,zG,zH,zI,rwb,reduceIte])
        exact stop (.inr a7)
       ·have hqa:a<q:=by
         refine Classical.byContradiction fun hq=>?_
         have e:q=a:=by omega
         subst e
         have:=(hp.rng hb hx) (by omega) q (Nat.le_refl _) hab
         unfold Le ltC at this
         rw [a7] at this
         cases this
        (try simp only [rwp,zA,zB,zC,zD,zE,zF,zG,zH,zI,rwb,reduceIte])
        (try (simp (disch:=omega) only [q04]))
        refine hD.swap (i:=q-1) (j:=q) (by omega) rfl (by omega) rfl (by omega) (by omega) ?_
        (try simp only [rwp,zA,zB,zC,zD,zE,zF,zG,zH,zI,rwb,reduceIte])
        (try (simp (disch:=omega) only [q04]))
        rw [show (q:Int)-1=((q-1:Nat):Int) by omega]
        exact q08 rfl (hkk3 (q-1) _ ⟨_,rfl,hx.trans (Rng.sw (by omega) (by omega) (by omega) (by omega) hb),hix.step ho hqa a7⟩ (by omega))
    ·(try simp only [rwp,zA,zB,zC,zD,zE,zF,zG,zH,zI,rwb,reduceIte])
     exact no w hr
end
set_option maxRecDepth 4000
section
variable {D:AV} {pt:Nat→AV} {SS:(Nat→Ob)→q00} {n g:Nat} {c:Ob→Ob→Int}
structure PqA where
 a:Nat
 b:Nat
 lim:Nat
 wb:Bool
 wp:Bool
theorem c_pdq (hD:Dat D pt SS n) (hg:∀ x y,AFun PG g [.agg (obC x),.agg (obC y)] (.int .i64 (c x y))) (ho:LtOk (ltC c)):∀ (N a b lim:Nat) (v:Nat→Ob),b≤a+N→a≤b→b≤n→b<a+256→lim≤1000→PreF (ltC c) a b v →
  ACalls PG nrx115 [D,.int .i64 a,.int .i64 b,.int .i64 lim,fnG g] (SS v) fun ae S'=>ae=.ret (.tup [])∧∃ w,S'=SS w∧Rng n a b v w∧Srt (ltC c) a b w:=by
 have hn:=hD.bd
 intro N
 induction N using Nat.strongRecOn with
 | ind N ih=>
 intro A B lim v hN hAB hB hl hlm hp
 refine wx115 ?_
 unfold Bx115
 generalize hQ:(fun ae S'=>ae=AEnd.ret (.tup [])∧∃ w,S'=SS w∧Rng n A B v w∧Srt (ltC c) A B w)=QF
 have fin:∀ w:Nat→Ob,Rng n A B v w→Srt (ltC c) A B w→rtW [] QF (SS w):=fun w h1 h2=>by
  subst hQ
  exact q2r ⟨rfl,w,rfl,h1,h2⟩
 refine LoopP.introS (fun x:PqA=>[(0,D),(1,.int .i64 x.a),(2,.int .i64 x.b),(3,.int .i64 x.lim),(4,fnG g),(10,.bool x.wb),(11,.bool x.wp)]) (fun x S'=>x.lim≤1000∧∃ w,S'=SS w∧Rng n A B v w∧Pdq (ltC c) A B x.a x.b w) (fun x=>x.b-x.a) ⟨A,B,lim,true,true⟩
  ⟨hlm,v,rfl,Rng.refl _ _ _ _,Pdq.start hAB⟩ rfl ?_
 rintro ⟨a,b,lim,wb,wp⟩ S1 ⟨hlm,w,rfl,hr,hq⟩ kk hkk
 dsimp only at hq hlm ⊢
 have q1:=hq.pa
 have q2:=hq.ab
 have q3:=hq.pb
 -- a part is put in order,the rest is
 have done:∀ (w x:Nat→Ob),Rng n A B v w→Pdq (ltC c) A B a b w→Rng n a b w x→Srt (ltC c) a b x→rtW [] QF (SS x):=fun w x h1 h2 h3 h4=>fin x (h1.trans (h3.mono q1 q3)) ((h2.rng hB h3).done ho h4)
 (try simp only [rwp,zA,zB,zC,zD,zE,zF,zG,zH,zI,rwb,reduceIte,C115_1])
 (try (simp (disch:=omega) only [q04]))
 cases a1:decide ((b:Int)-a≤12)
 ·have h12:a+12<b:=by have:=of_decide_eq_false a1;omega
  (try simp only [rwp,zA,zB,zC,zD,zE,zF,zG,zH,zI,rwb,reduceIte])
  cases a2:decide ((lim:Int)=0)
  ·have hlim:lim≠0:=fun h=>(of_decide_eq_false a2) (by rw [h];rfl)
   -- from the choice of a pivot on
   have p7:∀ (w:Nat→Ob) (lim:Nat) (wb wp:Bool) (p:Nat) (b7:Bool),lim≤1000→Rng n A B v w→Pdq (ltC c) A B a b w→a≤p→p<b→(b7=true→0<a∧Le (ltC c) (w p) (w (a-1))) →
     C115_7 QF kk D (.int .i64 a) (.int .i64 b) (.int .i64 lim) (fnG g) (.bool wb) (.bool wp) (.int .i64 ((b:Int)-a)) (.int .i64 p) (.bool b7) (SS w):=by
    intro w lim wb wp p b7 hlm hr hq hp1 hp2 h7
    cases b7
    ·(try simp only [rwp,zA,zB,zC,zD,zE,zF,zG,zH,zI,rwb,reduceIte,C115_7])
     refine q0b (c_partition hD hg ho hp1 hp2 (by omega) w) ?_
     rintro ae S2 ⟨x,m,al,rfl,rfl,hx,hc⟩
     have hc1:=hc.ca
     have hc2:=hc.cb
     have hrx:=hr.trans (hx.mono q1 q3)
     have hqx:=hq.rng hB hx
     have hpx:=Pdq.pre hp hB hrx hqx
     dsimp only
     (try simp only [rwp,zA,zB,zC,zD,zE,zF,zG,zH,zI,rwb,reduceIte])
     (try (simp (disch:=omega) only [q04]))
     refine quoN (a:=b-a) (b:=8) (by omega) rfl (by omega) (by omega) ?_
     (try simp only [rwp,zA,zB,zC,zD,zE,zF,zG,zH,zI,rwb,reduceIte])
     cases a3:decide ((m:Int)-a<(b:Int)-m)
     ·(try simp only [rwp,zA,zB,zC,zD,zE,zF,zG,zH,zI,rwb,reduceIte])
      (try (simp (disch:=omega) only [q04]))
      rw [show (m:Int)+1=((m+1:Nat):Int) by omega]
      refine q0b (ih (b-(m+1)) (by omega) (m+1) b lim x (by omega) (by omega) (by omega) (by omega) hlm (fun _ k k1 k2=>hc.r k (by omega) k2)) ?_
      rintro ae S3 ⟨rfl,y,rfl,hy,hys⟩
      dsimp only
      exact q08 rfl (hkk ⟨a,m,lim,_,al⟩ _ ⟨hlm,y,rfl,hrx.trans (hy.mono (by omega) q3),(hqx.rng hB (hy.mono (by omega) (Nat.le_refl _))).right ho (hc.right (by omega) hy) hys⟩ (by dsimp only;omega))
     ·(try simp only [rwp,zA,zB,zC,zD,zE,zF,zG,zH,zI,rwb,reduceIte])
      (try (simp (disch:=omega) only [q04]))
      refine q0b (ih (m-a) (by omega) a m lim x (by omega) (by omega) (by omega) (by omega) hlm (fun h0 k k1 k2=>hpx h0 k k1 (by omega))) ?_
      rintro ae S3 ⟨rfl,y,rfl,hy,hys⟩
      dsimp only
      (try simp only [rwp,zA,zB,zC,zD,zE,zF,zG,zH,zI,rwb,reduceIte])
      (try (simp (disch:=omega) only [q04]))
      rw [show (m:Int)+1=((m+1:Nat):Int) by omega]
      exact q08 rfl (hkk ⟨m+1,b,lim,_,al⟩ _ ⟨hlm,y,rfl,hrx.trans (hy.mono q1 (by omega)),(hqx.rng hB (hy.mono (Nat.le_refl _) (by omega))).left ho (hc.left (by omega) hy) hys⟩ (by dsimp only;omega))
    ·obtain ⟨h0,hle⟩:=h7 rfl
     (try simp only [rwp,zA,zB,zC,zD,zE,zF,zG,zH,zI,rwb,reduceIte,C115_7])
     refine q0b (c_partitionE hD hg ho hp1 hp2 (by omega) w) ?_
     rintro ae S2 ⟨x,m,rfl,rfl,hx,hxa,hm1,hm2,hxl⟩
     dsimp only
     have hpw:=Pdq.pre hp hB hr hq
     refine q08 rfl (hkk ⟨m,b,lim,wb,wp⟩ _ ⟨hlm,x,rfl,hr.trans (hx.mono q1 q3),(hq.rng hB hx).same ho (by dsimp only;omega) hm2 (fun k k1 k2=>?_) hxl⟩ (by dsimp only;omega))
     obtain ⟨j,j1,j2,e⟩:=hx.mem (by omega) k1 k2
     rw [hxa,e]
     exact hle.trans ho (hpw h0 j j1 j2)
   have p6:∀ (w:Nat→Ob) (lim:Nat) (wb wp:Bool) (p:Nat),lim≤1000→Rng n A B v w→Pdq (ltC c) A B a b w→a≤p→p<b →
     C115_6 QF kk D (.int .i64 a) (.int .i64 b) (.int .i64 lim) (fnG g) (.bool wb) (.bool wp) (.int .i64 ((b:Int)-a)) (.int .i64 p) (SS w):=by
    intro w lim wb wp p hlm hr hq hp1 hp2
    (try simp only [rwp,zA,zB,zC,zD,zE,zF,zG,zH,zI,rwb,reduceIte,C115_6])
    cases a3:decide ((0:Int)<a)
    ·(try simp only [rwp,zA,zB,zC,zD,zE,zF,zG,zH,zI,rwb,reduceIte])
     exact p7 w lim wb wp p false hlm hr hq hp1 hp2 fun h=>by cases h
    ·have h0:=of_decide_eq_true a3
     (try simp only [rwp,zA,zB,zC,zD,zE,zF,zG,zH,zI,rwb,reduceIte])
     (try (simp (disch:=omega) only [q04]))
     refine hD.cmp hg (i:=a-1) (j:=p) (by omega) rfl (by omega) (by omega) ?_
     (try simp only [rwp,zA,zB,zC,zD,zE,zF,zG,zH,zI,rwb,reduceIte])
     cases a4:decide (c (w (a-1)) (w p)<0)
     ·exact p7 w lim wb wp p true hlm hr hq hp1 hp2 fun _=>⟨by omega,a4⟩
     ·exact p7 w lim wb wp p false hlm hr hq hp1 hp2 fun h=>by cases h
   have p5:∀ (w:Nat→Ob) (lim:Nat) (wb wp:Bool) (p:Nat) (b5:Bool),lim≤1000→Rng n A B v w→Pdq (ltC c) A B a b w→a≤p→p<b →
     C115_5 QF kk D (.int .i64 a) (.int .i64 b) (.int .i64 lim) (fnG g) (.bool wb) (.bool wp) (.int .i64 ((b:Int)-a)) (.int .i64 p) (.bool b5) (SS w):=by
    intro w lim wb wp p b5 hlm hr hq hp1 hp2
    cases b5
    ·(try simp only [rwp,zA,zB,zC,zD,zE,zF,zG,zH,zI,rwb,reduceIte,C115_5])
     exact p6 w lim wb wp p hlm hr hq hp1 hp2
    ·(try simp only [rwp,zA,zB,zC,zD,zE,zF,zG,zH,zI,rwb,reduceIte,C115_5])
     refine q0b (c_partial hD hg ho (by omega) (by omega) w (Pdq.pre hp hB hr hq)) ?_
     rintro ae S2 ⟨r,x,rfl,rfl,hx,hxs⟩
     dsimp only
     cases r
     ·(try simp only [rwp,zA,zB,zC,zD,zE,zF,zG,zH,zI,rwb,reduceIte])
      exact p6 x lim wb wp p hlm (hr.trans (hx.mono q1 q3)) (hq.rng hB hx) hp1 hp2
     ·(try simp only [rwp,zA,zB,zC,zD,zE,zF,zG,zH,zI,rwb,reduceIte])
      exact done w x hr hq hx (hxs rfl)
   have p3:∀ (w:Nat→Ob) (lim:Nat) (wb wp:Bool) (p:Nat) (h:Int),lim≤1000→Rng n A B v w→Pdq (ltC c) A B a b w→a≤p→p<b →
     C115_3 QF kk D (.int .i64 a) (.int .i64 b) (.int .i64 lim) (fnG g) (.bool wb) (.bool wp) (.int .i64 ((b:Int)-a)) (.int .i64 p) (.int .i64 h) (SS w):=by
    intro w lim wb wp p h hlm hr hq hp1 hp2
    cases wb
    ·(try simp only [rwp,zA,zB,zC,zD,zE,zF,zG,zH,zI,rwb,reduceIte,C115_3,C115_4])
     exact p5 w lim false wp p false hlm hr hq hp1 hp2
    ·cases wp
     ·(try simp only [rwp,zA,zB,zC,zD,zE,zF,zG,zH,zI,rwb,reduceIte,C115_3,C115_4])
      exact p5 w lim true false p false hlm hr hq hp1 hp2
     ·(try simp only [rwp,zA,zB,zC,zD,zE,zF,zG,zH,zI,rwb,reduceIte,C115_3,C115_4])
      exact p5 w lim true true p _ hlm hr hq hp1 hp2
   have p2:∀ (w:Nat→Ob) (lim:Nat) (wb wp:Bool),lim≤1000→Rng n A B v w→Pdq (ltC c) A B a b w →
     C115_2 QF kk D (.int .i64 a) (.int .i64 b) (.int .i64 lim) (fnG g) (.bool wb) (.bool wp) (.int .i64 ((b:Int)-a)) (SS w):=by
    intro w lim wb wp hlm hr hq
    (try simp only [rwp,zA,zB,zC,zD,zE,zF,zG,zH,zI,rwb,reduceIte,C115_2])
    refine q0b (c_pivot hD hg h12 (by omega)) ?_
    rintro ae S2 ⟨p,h,rfl,rfl,hp1,hp2⟩
    dsimp only
    (try simp only [rwp,zA,zB,zC,zD,zE,zF,zG,zH,zI,rwb,reduceIte])
    cases a3:decide (h=2)
    ·(try simp only [rwp,zA,zB,zC,zD,zE,zF,zG,zH,zI,rwb,reduceIte])
     exact p3 w lim wb wp p h hlm hr hq hp1 hp2
    ·(try simp only [rwp,zA,zB,zC,zD,zE,zF,zG,zH,zI,rwb,reduceIte])
     refine q0b (c_reverse hD (by omega) (by omega) (fnG g) w) ?_
     rintro ae S3 ⟨rfl,x,rfl,hx⟩
     dsimp only
     (try simp only [rwp,zA,zB,zC,zD,zE,zF,zG,zH,zI,rwb,reduceIte])
     (try (simp (disch:=omega) only [q04]))
     rw [show (b:Int)-1-((p:Int)-a)=((b-1-(p-a):Nat):Int) by omega]
     exact p3 x lim wb wp _ 1 hlm (hr.trans (hx.mono q1 q3)) (hq.rng hB hx) (by omega) (by omega)
   (try simp only [rwp,zA,zB,zC,zD,zE,zF,zG,zH,zI,rwb,reduceIte])
   cases wb
   ·(try simp only [rwp,zA,zB,zC,zD,zE,zF,zG,zH,zI,rwb,reduceIte])
    refine q0b (c_break hD h12 (by omega) (by omega) (fnG g)) ?_
    rintro ae S2 ⟨rfl,x,rfl,hx⟩
    dsimp only
    (try simp only [rwp,zA,zB,zC,zD,zE,zF,zG,zH,zI,rwb,reduceIte])
    (try (simp (disch:=omega) only [q04]))
    have e:(lim:Int)-1=((lim-1:Nat):Int):=by omega
    rw [e]
    exact p2 x (lim-1) false wp (by omega) (hr.trans (hx.mono q1 q3)) (hq.rng hB hx)
   ·(try simp only [rwp,zA,zB,zC,zD,zE,zF,zG,zH,zI,rwb,reduceIte])
    exact p2 w lim true wp hlm hr hq
  ·(try simp only [rwp,zA,zB,zC,zD,zE,zF,zG,zH,zI,rwb,reduceIte])
   refine q0b (c_heap hD hg ho (by omega) (by omega) w) ?_
   rintro ae S2 ⟨rfl,x,rfl,hx,hxs⟩
   dsimp only
   exact done w x hr hq hx hxs
 ·(try simp only [rwp,zA,zB,zC,zD,zE,zF,zG,zH,zI,rwb,reduceIte])
  refine q0b (c_ins hD hg ho q2 (by omega) w) ?_
  rintro ae S2 ⟨rfl,x,rfl,hx,hxs⟩
  dsimp only
  exact done w x hr hq hx hxs
end
theorem sort255:SortOk 255:=by
 intro D pt SS n g c hD hg ho hn v
 refine wx59 ?_
 unfold Bx59
 refine hD.ln ?_
 (try simp only [rwp,zA,zB,zC,zD,zE,zF,zG,zH,zI,rwb,reduceIte])
 rw [u64w (by omega)]
 refine q05 (c_Len (by omega)) ?_
 have h8:=(lenF_ok ⟨n,by omega⟩).2.2
 dsimp only at h8
 have q:=c_pdq hD hg ho n 0 n (lenF n) v (by omega) (by omega) (Nat.le_refl _) (by omega) (by omega) (fun h=>by omega)
 refine q0b q ?_
 rintro ae S1 ⟨rfl,w,rfl,h1,h2⟩
 dsimp only
 exact q2r ⟨rfl,w,rfl,h1,h2⟩
set_option maxRecDepth 4000
section
variable {P:Program} {R R0:Nat→Prop} {S S0:q00} {w w0 w':World} {a a0:Act} {N:Nat} {e:Env}
theorem Sim.lay (h:Sim R S w) (x:Obj):Sim R S (w.alloc x)∧Step R S w R S (w.alloc x)∧sget S w.heap.size=none∧¬ R w.heap.size:=by
 have hold:∀ k,k<w.heap.size→(w.alloc x).heap[k]?=w.heap[k]?:=fun k hk=>heap_alloc_old w x hk
 have hnone:sget S w.heap.size=none:=by
  cases e:sget S w.heap.size with
  | none=>rfl
  | some o=>exact absurd (h.lt e) (Nat.lt_irrefl _)
 refine ⟨⟨fun b o hb=>?_,fun b hb=>⟨(h.ro b hb).1,by have:=(h.ro b hb).2;simp;omega⟩⟩,⟨by simp,rfl,rfl,rfl,fun k hk hn=>⟨hold k hk,hn⟩,fun _ h=>h,fun _ h=>.inl h⟩,hnone,fun hR=>absurd (h.ro _ hR).2 (Nat.lt_irrefl _)⟩
 obtain ⟨y,hy,hr⟩:=h.own b o hb
 exact ⟨y,(hold b (h.lt hb)).trans hy,hr.step (fun _ h=>h) fun b hb=>hold b (h.ro b hb).2⟩
theorem Rel.turn (h:Rel R0 S0 w0 a0 N R S w e a) {r:Nat} (hr:¬ R r) (hS:sget S r=none) (h0:w0.heap.size≤r) (hsz:w'.heap.size=w.heap.size) (hold:∀ k,k≠r→w'.heap[k]?=w.heap[k]?) (h1:w'.os=w.os) (h2:w'.tape=w.tape) (h3:w'.output=w.output) :
  Rel R0 S0 w0 a0 N R S w' e a:=by
 have hw:∀ b,R b→w'.heap[b]?=w.heap[b]?:=fun b hb=>hold b (by rintro rfl;exact hr hb)
 refine ⟨⟨fun b o hb=>?_,fun b hb=>⟨(h.sim.ro b hb).1,by rw [hsz];exact (h.sim.ro b hb).2⟩⟩,fun t=>(h.env t).step (fun _ h=>h) hw,⟨by rw [hsz];exact h.step.size,h1.trans h.step.os,h2.trans h.step.tape,h3.trans h.step.output,fun k hk hn=>⟨(hold k (by omega)).trans (h.step.keep k hk hn).1,(h.step.keep k hk hn).2⟩,h.step.mono,h.step.new⟩,h.defers,h.size⟩
 obtain ⟨y,hy,ho⟩:=h.sim.own b o hb
 refine ⟨y,(hold b ?_).trans hy,ho.step (fun _ h=>h) hw⟩
 rintro rfl
 rw [hS] at hb
 cases hb
theorem Step.stands {R':Nat→Prop} {S':q00} (h:Step R S w R' S' w') {r:Nat} (hr:¬ R r) (hS:sget S r=none) (hlt:r<w.heap.size):¬ R' r∧sget S' r=none∧r<w'.heap.size∧w'.heap[r]?=w.heap[r]?:=by
 refine ⟨fun h'=>?_,(h.keep r hlt hS).2,Nat.lt_of_lt_of_le hlt h.size,(h.keep r hlt hS).1⟩
 rcases h.new r h' with h1 | h1 | h1
 ·exact hr h1
 ·exact h1 hS
 ·omega
theorem wp_loopJ {c:Code} {Q:Exit→Act→World→Prop} (J:Nat→Act→World→Prop) (n:Nat) (h0:J n a w) (h:∀ n a w,J n a w→c.wp P (Exit.then (fun a' w'=>∃ m,m<n∧J m a' w') Q) a w):(Code.loop c).wp P Q a w:=by
 classical
 let good:Act→World→Prop:=fun a' w'=>∃ m,J m a' w'
 have least:∀ a' w',good a' w'→∃ m,J m a' w'∧∀ k,J k a' w'→m≤k:=by
  intro a' w' ⟨m,hm⟩
  induction m using Nat.strongRecOn with
  | _ m ih=>
   by_cases hk:∃ k,k<m∧J k a' w'
   ·obtain ⟨k,hlt,hk⟩:=hk
    exact ih k hlt hk
   ·exact ⟨m,hm,fun k hk'=>by
     rcases Nat.lt_or_ge k m with h | h
     ·exact absurd ⟨k,h,hk'⟩ hk
     ·exact h⟩
 let mu:Act→World→Nat:=fun a' w'=>if h:∃ m,J m a' w'∧∀ k,J k a' w'→m≤k then Classical.choose h else 0
 have mu_spec:∀ a' w',good a' w'→J (mu a' w') a' w'∧∀ k,J k a' w'→mu a' w'≤k:=by
  intro a' w' hg
  have hl:=least a' w' hg
  show J (if h:_ then Classical.choose h else 0) a' w'∧_
  simp only [mu,dif_pos hl]
  exact Classical.choose_spec hl
 refine wp_loop good mu ⟨n,h0⟩ fun a' w' hg=>?_
 obtain ⟨hJ,_⟩:=mu_spec a' w' hg
 refine wp_mono (h _ a' w' hJ) fun x a'' w'' hq=>?_
 cases x with
 | normal=>
  obtain ⟨m,hlt,hm⟩:=hq
  exact ⟨⟨m,hm⟩,Nat.lt_of_le_of_lt ((mu_spec _ _ ⟨m,hm⟩).2 m hm) hlt⟩
 | _=>exact hq
theorem q48 {Qc:Exit→Act→World→Prop} {K:Env→q00→Prop} (hs:Sim R S w) (he:REnv R w e a.tmps) (hn:a.tmps.size=N) {ops:Array Oper} (sis:List SI) {lo:List Oper} (hok:q3v P N ops sis lo=true) (h:aops P sis K (fun _ _=>False) e S)
  (hK:∀ R' S' w' e' a',K e' S'→Rel R S w a N R' S' w' e' a'→Qc .normal a' w'):wpList P ops Qc lo a w:=
 aops_sound ⟨hK,fun _ _ _ _ _ _ h=>h.elim⟩ sis lo hok (Rel.refl hs he hn) h
theorem acalls_code {f : Nat} {fn : Func} {c : Code} {res : List RVar} {args : List AV} {Q : AEnd → q00 → Prop} (hf : P.funcs[f]? = some fn) (hb : fn.body = some c) (h1 : (fn.name == "runtime.NumGoroutine") = false) (h2 : fn.ntmps = N) (h3 : args.length ≤ N) (h4 : rvsOk P res fn.results.toList = true)
  (h:∀ (R:Nat→Prop) (w:World) (a:Act),Sim R S w→REnv R w (lget (q5b args)) a.tmps→a.tmps.size=N→c.wp P (PostOf R S w a N (FPost res Q)) a w):ACalls P f args S Q:=by
 refine fun R w vs hs hv=>.inl ⟨by unfold q7s;rw [hf];simp only [hb,h1,Option.isSome_some,Bool.and_true,Bool.not_false],?_⟩
 have hsz:vs.size=args.length:=by have:=hv.1;simp at this;exact this.symm
 refine calls_of_wp hf hb ?_
 refine wp_mono (h R w { tmps:=vs++Array.replicate (fn.ntmps-vs.size) undef,defers:=[] } hs (qa3 hv _) (by simp;omega)) fun x a' w' hq=>?_
 have ret:∀ {K:Env→q00→Prop},K=RetA res Q→KC R S w { tmps:=vs++Array.replicate (fn.ntmps-vs.size) undef,defers:=[] } N K a' w' →
   a'.defers=[]∧∃ v,(results fn a'.tmps).run P w'=.ok v w'∧∃ R' S' ae,EndR R' w' ae (.returned v)∧Q ae S'∧Sim R' S' w'∧Step R S w R' S' w':=by
  rintro K rfl ⟨R',S',e',hK,hr⟩
  unfold RetA at hK
  split at hK
  ·rename_i us hus
   obtain ⟨v',S'',hsh,hQ⟩:=hK
   obtain ⟨v,k1,k2⟩:=q6d hr.sim hr.env h4 hus
   obtain ⟨R'',k3,k4,k5⟩:=hsh R' w' v hr.sim k1
   exact ⟨hr.defers,v,k2,R'',S'',.ret v',k4,hQ,k3,hr.step.trans k5⟩
  ·exact hK.elim
 unfold PostOf at hq
 split at hq
 ·exact ret rfl hq
 ·obtain ⟨R',S',e',hK,hr⟩:=hq;exact hK.elim
 ·exact ret rfl hq
 ·obtain ⟨R',S',u,k1,k2,k3⟩:=hq
  exact ⟨k3.defers,R',S',.pan u,k2,k1,k3.sim,k3.step⟩
 ·exact hq.elim
end
abbrev MO2:Bool×List EK:=(true,[.str,.str])
def enO (E:List (Ob×Nat)):List (AV×AV×Nat):=E.map fun p=>(.agg (obC p.1),.bool true,p.2)
structure KO (S:q00) (b:Nat) (E:List (Ob×Nat)) (clk:Nat):Prop where
 map:sget S b=some (.map MO2 (enO E) clk)
 lt:∀ p∈E,p.2<clk
 nd:(E.map (·.2)).Nodup
 ku:(E.map (·.1)).Nodup
structure RgI (R0:Nat→Prop) (S0:q00) (w0:World) (a0:Act) (b r:Nat) (clk:Nat) (E D:List (Ob×Nat)) (R:Nat→Prop) (S:q00) (w:World) (e:Env) (a:Act) (v:AV):Prop where
 rel:Rel R0 S0 w0 a0 18 R S w e a
 nr:¬ R r
 ns:sget S r=none
 lt:r<w.heap.size
 it:w.heap[r]?=some (.mapIter (some b) clk (D.map (·.2)).toArray clk)
 sub:Sub S0 S
 e6:e 6=.ptr r 0
 e3:e 3=v
 lst:LstN S0 S tyOb 2 v ((D.map (·.1)).map obC)
 din:∀ p∈D,p∈E
 dnd:(D.map (·.2)).Nodup
theorem c_sorted_1 (x y:Ob):AFun PG nrx122 [.agg (obC x),.agg (obC y)] (.int .i64 (cmpO x y)):=by
 intro S
 refine wx122 ?_
 unfold Bx122
 (try simp only [rwp,zA,zB,zC,zD,zE,zF,zG,zH,zI,rwb,reduceIte,obC])
 refine q05 (c_Compare x.ty y.ty) ?_
 (try simp only [rwp,zA,zB,zC,zD,zE,zF,zG,zH,zI,rwb,reduceIte])
 refine q05 (c_Compare x.id y.id) ?_
 (try simp only [rwp,zA,zB,zC,zD,zE,zF,zG,zH,zI,rwb,reduceIte])
 refine q05 (c_Or2 _ _) ?_
 exact q02 ⟨rfl,rfl⟩
theorem aopsQ {P:Program} {o:SOp} {d:Option Nat} {r:List SI} {K:Env→q00→Prop} {Qp:AV→q00→Prop} {e:Env} {S:q00} (h:fop P o d (aops P r K Qp) Qp e S):aops P (⟨d,o,none,[]⟩ :: r) K Qp e S:=fop_aeff h
theorem wpl {P:Program} {R:Nat→Prop} {S:q00} {w:World} {a:Act} {N:Nat} {e:Env} (hs:Sim R S w) (he:REnv R w e a.tmps) (hn:a.tmps.size=N) (s:SI) {op:Oper} {lo:List Oper} {ops:Array Oper} {Qc:Exit→Act→World→Prop} (hok:siOk P N ops s op=true) {K:Env→q00→Prop} (h:aop P s K (fun _ _=>False) e S)
  (hK:∀ R' S' w' e' a',K e' S'→Rel R S w a N R' S' w' e' a'→wpList P ops Qc lo a' w'):wpList P ops Qc (op :: lo) a w:=by
 have h1:=q4r (Qc:=Qc) hs he hn hok h (fun _ _ _ _ _ h=>h.elim)
 have hrest:∀ a' w',KC R S w a N K a' w'→wpList P ops Qc lo a' w':=fun a' w' ⟨R',S',e',k,r⟩=>hK _ _ _ _ _ k r
 unfold wpList
 split
 ·rename_i hw
  rw [if_pos hw] at h1
  exact .inl (Oper.wp_mono hrest h1)
 ·rename_i hw
  rw [if_neg hw] at h1
  exact hrest _ _ h1
theorem q6z {P:Program} {w w':World} {a:Act} {o:Oper} {lo:List Oper} {ops:Array Oper} {Qc:Exit→Act→World→Prop} {v:Value} (hg:o.guard=none) (hx:(execOp a.eval o).run P w=.ok (.value v) w') (h:wpList P ops Qc lo (a.put o.dst v) w'):wpList P ops Qc (o :: lo) a w:=
 wpList_plain hg fun K hK=>by unfold Oper.wp;rw [hx];exact hK _ _ h
theorem KO.sub {S S':q00} {b clk:Nat} {E:List (Ob×Nat)} (h:KO S b E clk) (hs:Sub S S'):KO S' b E clk:=⟨hs _ _ h.map,h.lt,h.nd,h.ku⟩
theorem KO.opens {R:Nat→Prop} {S:q00} {w:World} {b clk:Nat} {E:List (Ob×Nat)} (h:KO S b E clk) (hs:Sim R S w):∃ arr,w.heap[b]?=some (.map arr clk)∧arr.toList.map (·.born)=E.map (·.2) ∧
  (∀ m∈arr.toList,∃ p∈E,m.born=p.2∧RV R w (.agg (obC p.1)) m.key∧RV R w (.bool true) m.val)∧∀ p∈E,∃ m∈arr.toList,m.born=p.2∧RV R w (.agg (obC p.1)) m.key∧RV R w (.bool true) m.val:=by
 obtain ⟨x,hx,hr⟩:=hs.own b _ h.map
 cases hr with
 | map K es arr clock hl hh hk=>
  have hl':E.length=arr.size:=by unfold enO at hl;simpa using hl
  have get:∀ (i:Nat) (p:Ob×Nat) (m:MapEntry),E[i]?=some p→arr[i]?=some m→m.born=p.2∧RV R w (.agg (obC p.1)) m.key∧RV R w (.bool true) m.val:=by
   intro i p m hp hm
   have:=hh i (.agg (obC p.1),.bool true,p.2) m (by unfold enO;rw [List.getElem?_map,hp];rfl) hm
   exact ⟨this.2.2,this.1,this.2.1⟩
  refine ⟨arr,hx,?_,fun m hm=>?_,fun p hp=>?_⟩
  ·refine List.ext_getElem? fun i=>?_
   rw [List.getElem?_map,List.getElem?_map,Array.getElem?_toList]
   cases hE:E[i]? with
   | none=>
    have:arr[i]?=none:=by
     rw [List.getElem?_eq_none_iff] at hE
     rw [Array.getElem?_eq_none_iff]
     omega
    rw [this];rfl
   | some p=>
    have hi:=(List.getElem?_eq_some_iff.1 hE).1
    have hm:arr[i]?=some (arr[i]'(by omega)):=Array.getElem?_eq_getElem (by omega)
    rw [hm]
    simp only [Option.map_some,(get i p _ hE hm).1]
  ·obtain ⟨i,hi⟩:=List.mem_iff_getElem?.1 hm
   rw [Array.getElem?_toList] at hi
   have hlt:i<E.length:=by have:=(Array.getElem?_eq_some_iff.1 hi).1;omega
   exact ⟨E[i],List.getElem_mem hlt,get i _ m (List.getElem?_eq_getElem hlt) hi⟩
  ·obtain ⟨i,hi⟩:=List.mem_iff_getElem?.1 hp
   have hlt:=(List.getElem?_eq_some_iff.1 hi).1
   have hm:arr[i]?=some (arr[i]'(by omega)):=Array.getElem?_eq_getElem (by omega)
   exact ⟨arr[i]'(by omega),by simp,get i p _ hi hm⟩
theorem sort_own {N g:Nat} (hN:SortOk N) (hg:∀ x y,AFun PG g [.agg (obC x),.agg (obC y)] (.int .i64 (cmpO x y))) {S0 S:q00} {v:AV} {M:List Ob} (hs:Sub S0 S) (h:LstN S0 S tyOb 2 v (M.map obC)) (hl:M.length≤N) (hb:M.length≤100000) (hn:M.Nodup) {K:AV→q00→Prop} {Qp:AV→q00→Prop}
  (hK:∀ S1,Sub S0 S1→LstW S0 S1 tyOb 2 v ((srtO ltO M).map obC)→K (.tup []) S1) :
  caW PG S (.func (.func nrx59) [] []) [v,.func (.func g) [] []] K Qp:=by
 have fin:∀ (w:Nat→Ob) (S1:q00),Sub S0 S1→OwnL S0 S1 tyOb 2 obC v M.length w→Rng M.length 0 M.length (at' M) w→Srt (ltC cmpO) 0 M.length w→K (.tup []) S1:=by
  intro w S1 hs1 ho hr hw
  refine hK S1 hs1 ?_
  have hp:∀ x,x∈M↔x∈vl M.length w:=by
   intro x
   conv=>lhs;rw [← vl_at M]
   exact hr.perm.mem_iff
  have hnd:(vl M.length w).Nodup:=by
   refine hr.perm.nodup_iff.1 ?_
   rw [vl_at];exact hn
  have e:vl M.length w=srtO ltO M:=by
   obtain ⟨k1,k2,-⟩:=q6c stO M _ rfl
   refine Asc.uniq stO ?_ k1 fun x=>by rw [k2,hp]
   unfold Asc
   rw [List.pairwise_iff_getElem]
   intro i j hi hj hij
   have hl1:(vl M.length w).length=M.length:=by simp [vl]
   have ei:(vl M.length w)[i]=w i:=by simp [vl]
   have ej:(vl M.length w)[j]=w j:=by simp [vl]
   have h1:=hw i j (Nat.zero_le _) hij (by omega)
   have h2:w i≠w j:=by
    intro h
    have:=(List.getElem_inj (h₀:=hi) (h₁:=hj) hnd).1 (by rw [ei,ej];exact h)
    omega
   rw [ei,ej]
   cases h3:ltO (w i) (w j) with
   | true=>rfl
   | false=>exact absurd (stO.2 _ _ h3 h1) h2
  rw [← e]
  exact OwnL.lstW (enc:=obC) (fun x=>rfl) ho
 obtain ⟨hr,⟨rfl,e⟩ | ⟨b,cap,rfl,h1,h2,h3,h4,h5⟩⟩:=h
 ·have e:M=[]:=by simpa using e
  subst e
  refine q0b (hN .nils (fun _=>.nils) (fun _=>S) 0 g cmpO (dat_nil S) hg stO.ok (by omega) (at' [])) ?_
  rintro ae S1 ⟨rfl,w,rfl,k1,k2⟩
  exact fin w _ hs (.inl ⟨rfl,rfl⟩) k1 k2
 ·simp only [List.length_map] at h3 h5 h2 ⊢
  have hsm:supd S b (.cells tyOb (fl obC M.length (at' M)) (cap * 2))=S:=by
   funext c
   unfold supd
   split
   ·rename_i e
    subst e
    have:fl obC M.length (at' M)=(M.map obC).flatten:=by unfold fl;rw [vl_at]
    rw [this]
    exact h2.symm
   ·rfl
  have q:=hN _ _ _ M.length g cmpO (dat_own (S0:=S) (b:=b) h3 hb) hg stO.ok hl (at' M)
  rw [hsm] at q
  refine q0b q ?_
  rintro ae S1 ⟨rfl,w,rfl,k1,k2⟩
  dsimp only
  simp only [List.length_map] at fin
  exact fin w _ (Sub.supd h1 hs) (.inr ⟨b,cap,rfl,h1,by rw [q01,if_pos rfl],h3,h4⟩) k1 k2
theorem nd_inj {α β:Type} {f:α→β}:∀ {L:List α},(L.map f).Nodup→∀ {x y:α},x∈L→y∈L→f x=f y→x=y
 | [],_,x,y,h,_,_=>by cases h
 | a :: r,hn,x,y,hx,hy,h=>by
  rw [List.map_cons,List.nodup_cons] at hn
  rcases List.mem_cons.1 hx with e1 | hx1
  ·rcases List.mem_cons.1 hy with e2 | hy1
   ·rw [e1,e2]
   ·exact absurd (List.mem_map.2 ⟨y,hy1,by rw [← h,e1]⟩) hn.1
  ·rcases List.mem_cons.1 hy with e2 | hy1
   ·exact absurd (List.mem_map.2 ⟨x,hx1,by rw [h,e2]⟩) hn.1
   ·exact nd_inj hn.2 hx1 hy1 h
theorem nd_map {α β γ:Type} {f:α→β} {g:α→γ}:∀ {L:List α},(L.map g).Nodup→(∀ x∈L,∀ y∈L,f x=f y→x=y)→(L.map f).Nodup
 | [],_,_=>List.nodup_nil
 | a :: r,hn,h=>by
  rw [List.map_cons,List.nodup_cons] at hn ⊢
  refine ⟨fun hm=>?_,nd_map hn.2 fun x hx y hy=>h x (List.mem_cons_of_mem _ hx) y (List.mem_cons_of_mem _ hy)⟩
  obtain ⟨y,hy,h1⟩:=List.mem_map.1 hm
  have:=h y (List.mem_cons_of_mem _ hy) a List.mem_cons_self h1
  subst this
  exact hn.1 (List.mem_map.2 ⟨y,hy,rfl⟩)
theorem map125:∃ k e,PG.underlying 125=some (.map k e):=by
 have h:(match PG.underlying 125 with | some (.map _ _)=>true | _=>false)=true:=by kernel_rfl
 split at h
 ·rename_i k e h2;exact ⟨k,e,h2⟩
 ·cases h
theorem c_sorted {S:q00} {b:Nat} {E:List (Ob×Nat)} {clk:Nat} (hk:KO S b E clk) (hl:E.length≤255) :
  ACalls PG 74 [.map (some b)] S fun ae S'=>ae=.ret (.sl 2 ((srtO ltO (E.map (·.1))).map obC))∧S'=S:=by
 refine acalls_code (N:=18) (res:=[.tmp 2]) Go.Proofs.Tryz.func74 rfl (by kernel_rfl) rfl (by show 1≤18;omega) (by kernel_rfl) ?_
 intro R0 w0 a0 hs0 he0 hn0
 refine wp_seq ?_
 refine wp_region_list (q48 hs0 he0 hn0 [⟨some 2,.mov (.c .nils),none,[]⟩] (K:=fun e S'=>e 0=.map (some b)∧S'=S) (by kernel_rfl) ⟨rfl,rfl⟩ ?_)
 rintro R1 S1 w1 e1 a1 ⟨q1,rfl⟩ r1
 refine wp_seq ?_
 refine wp_region_list (q48 r1.sim r1.env r1.size [⟨some 3,.mov (.c .nils),none,[]⟩] (K:=fun e S'=>e 0=.map (some b)∧e 3=.nils∧S'=S1) (by kernel_rfl) ⟨q1,rfl,rfl⟩ ?_)
 rintro R2 S2 w2 e2 a2 ⟨q2,q3,rfl⟩ r2
 refine wp_seq (wp_seq ?_)
 refine wp_region_list (wpl r2.sim r2.env r2.size ⟨some 5,.mov (.t 0),none,[]⟩ (K:=fun e S'=>e 5=.map (some b)∧e 3=.nils∧S'=S2) (by kernel_rfl) ⟨q2,q3,rfl⟩ ?_)
 rintro R3 S3 w3 e3 a3 ⟨q4,q5,rfl⟩ r3
 have rr:Rel R0 S3 w0 a0 18 R3 S3 w3 e3 a3:=(r1.trans r2).trans r3
 have hv:a3.eval (.tmp 5)=.map (some b):=by
  have:=rr.env 5
  unfold eget at this
  rw [q4] at this
  generalize hz:a3.tmps.getD 5 undef=z at this
  cases this
  exact hz
 obtain ⟨arr,hb,-⟩:=hk.opens rr.sim
 obtain ⟨kt,et,hT⟩:=map125
 refine q6z (w':=w3.alloc (.mapIter (some b) clk #[] clk)) (v:=.pointer (some ⟨w3.heap.size,0,none⟩)) rfl (by simp [execOp,hv,run_range_map w3 _ kt et b arr clk hT hb]) ?_
 obtain ⟨y1,y2,y3,y4⟩:=rr.sim.lay (.mapIter (some b) clk #[] clk)
 have r4:Rel R0 S3 w0 a0 18 R3 S3 (w3.alloc (.mapIter (some b) clk #[] clk)) (put e3 (some 6) (.ptr w3.heap.size 0)) (a3.put (some 6) (.pointer (some ⟨w3.heap.size,0,none⟩))):=
  rr.trans (Rel.put rr.sim rr.env rr.size y1 y2 (fun k hk=>by cases hk;omega) (.ptr _ _))
 have hI:RgI R0 S3 w0 a0 b w3.heap.size clk E [] R3 S3 (w3.alloc (.mapIter (some b) clk #[] clk)) (put e3 (some 6) (.ptr w3.heap.size 0)) (a3.put (some 6) (.pointer (some ⟨w3.heap.size,0,none⟩))) .nils:=
  ⟨r4,y4,y3,by simp,heap_alloc_new _ _,Sub.refl _,rfl,q5,LstN.nil,fun p hp=>(by cases hp),List.nodup_nil⟩
 have hw0:w0.heap.size≤w3.heap.size:=rr.step.size
 refine wpList_nil ?_
 refine wp_block (wp_loopJ (fun n a w=>∃ D R S' e v,RgI R0 S3 w0 a0 b w3.heap.size clk E D R S' w e a v∧n+D.length=E.length) E.length ⟨[],_,_,_,_,hI,by simp⟩ ?_)
 rintro n a w ⟨D,R,S,e,v,hI,hn⟩
 have hk1:=hk.sub hI.sub
 obtain ⟨arr,hb,hbn,hin,hout⟩:=hk1.opens hI.rel.sim
 have h6:a.eval (.tmp 6)=.pointer (some ⟨w3.heap.size,0,none⟩):=by
  have:=hI.rel.env 6
  unfold eget at this
  rw [hI.e6] at this
  generalize hz:a.tmps.getD 6 undef=z at this
  cases this
  exact hz
 have hlt:∀ x∈arr.toList,x.born<clk:=fun m hm=>by
  obtain ⟨p,hp,h1,-⟩:=hin m hm
  rw [h1];exact hk.lt p hp
 refine wp_seq (wp_region_list ?_)
 rcases run_next_at (P:=PG) w 0 w3.heap.size b clk clk _ arr clk hI.it hb hlt (Nat.le_refl _) with ⟨h0,hrun⟩ | ⟨m,hm,w4,hw4,hrun⟩
 ·refine q6z (w':=w) (v:=.tuple #[.bool false]) rfl (by simp [execOp,h6,hrun]) ?_
  have r5:=Rel.put (d:=some 7) hI.rel.sim hI.rel.env hI.rel.size hI.rel.sim (Step.refl _ _ _) (fun k hk=>by cases hk;omega) (u:=.tup [.bool false]) (v:=.tuple #[.bool false]) (RV.tup_iff.2 ⟨_,rfl,.cons (.bool _) .nil⟩)
  refine q48 r5.sim r5.env r5.size [⟨some 8,.extr (.t 7) 0,none,[]⟩] (K:=fun e' S'=>e' 8=.bool false∧e' 3=v∧S'=S) (by kernel_rfl) ⟨rfl,hI.e3,rfl⟩ ?_
  rintro R6 S6 w6 e6 a6 ⟨q6,q7,rfl⟩ r6
  have rf:=(hI.rel.trans r5).trans r6
  refine wp_seq (wp_cond_split (t:=false) ?_ (fun h=>by cases h) fun _=>wp_exit ?_)
  ·have:=r6.env 8
   unfold eget at this
   rw [q6] at this
   exact this.bool_inv
  have hDE:∀ x,x∈E↔x∈D:=fun x=>⟨fun hx=>by
   obtain ⟨m,hm,h1,-⟩:=hout x hx
   have:m.born∈D.map (·.2):=by
    refine Decidable.byContradiction fun hne=>?_
    have:m∈leftOf arr (D.map (·.2)).toArray:=by
     unfold leftOf
     rw [Array.mem_filter]
     exact ⟨by simpa using hm,by simpa using hne⟩
    have:=Array.size_pos_of_mem this
    omega
   rw [h1] at this
   obtain ⟨y,hy,h2⟩:=List.mem_map.1 this
   have:=nd_inj hk.nd (hI.din y hy) hx h2
   rw [← this];exact hy,fun hx=>hI.din x hx⟩
  have hku:(D.map (·.1)).Nodup:=nd_map hI.dnd fun x hx y hy h=>nd_inj hk.ku (hI.din x hx) (hI.din y hy) h
  have hsr:srtO ltO (E.map (·.1))=srtO ltO (D.map (·.1)):=by
   obtain ⟨k1,k2,-⟩:=q6c stO (E.map (·.1)) _ rfl
   obtain ⟨k3,k4,-⟩:=q6c stO (D.map (·.1)) _ rfl
   refine Asc.uniq stO k1 k3 fun x=>?_
   rw [k2,k4,List.mem_map,List.mem_map]
   exact ⟨fun ⟨y,h1,h2⟩=>⟨y,(hDE y).1 h1,h2⟩,fun ⟨y,h1,h2⟩=>⟨y,(hDE y).2 h1,h2⟩⟩
  have hdl:D.length≤E.length:=by omega
  show Code.wp _ _ _ _ _
  refine wp_seq (wp_region_list (q48 rf.sim rf.env rf.size [⟨some 15,.mov (.t 3),none,[]⟩,⟨some 16,.call (.f nrx59) [.t 15,.f nrx122],none,[]⟩] (K:=fun e' S'=>e' 3=v∧Sub S3 S'∧LstW S3 S' tyOb 2 v ((srtO ltO (D.map (·.1))).map obC)) (by kernel_rfl) ?_ ?_))
  ·refine aopsQ (show aops PG _ _ _ (put e6 (some 15) (e6 3)) S6 from ?_)
   refine aopsQ (show caW PG S6 (.func (.func nrx59) [] []) [e6 3,.func (.func nrx122) [] []] (fun u S'=>(fun (e':Env) S'=>e' 3=v∧Sub S3 S'∧LstW S3 S' tyOb 2 v ((srtO ltO (D.map (·.1))).map obC)) (put (put e6 (some 15) (e6 3)) (some 16) u) S') _ from ?_)
   rw [q7]
   refine sort_own sort255 c_sorted_1 hI.sub hI.lst (by simp;omega) (by simp;omega) hku fun S1 h1 h2=>⟨q7,h1,h2⟩
  rintro R7 S7 w7 e7 a7 ⟨g1,g2,g3⟩ r7
  refine wp_seq (wp_region_list (q48 r7.sim r7.env r7.size [⟨some 17,.mov (.t 3),none,[]⟩,⟨some 2,.mov (.t 17),none,[]⟩] (K:=fun e' S'=>e' 2=v∧S'=S7) (by kernel_rfl) ⟨g1,rfl⟩ ?_))
  rintro R8 S8 w8 e8 a8 ⟨g4,rfl⟩ r8
  refine wp_ret ?_
  refine ⟨R8,S8,e8,?_,(rf.trans r7).trans r8⟩
  have fin:rtW [.tmp v] (fun ae S'=>ae=AEnd.ret (.sl 2 ((srtO ltO (E.map (·.1))).map obC))∧S'=S3) S8:=q5e S3 _ g2 (Fr.lstW g3) ⟨by rw [hsr],rfl⟩
  unfold FPost
  dsimp only
  unfold RetA
  simp only [resVs,resV,g4]
  exact fin
 ·obtain ⟨p,hp,k1,k2,k3⟩:=hin m (by
   unfold leftOf at hm
   simp only [Array.toList_filter,List.mem_filter] at hm
   exact hm.1)
  have hnew:p.2 ∉ D.map (·.2):=by
   unfold leftOf at hm
   simp only [Array.toList_filter,List.mem_filter,Bool.not_eq_true'] at hm
   have:=hm.2
   rw [k1] at this
   simpa using this
  have hsz:w4.heap=w.heap∧w4.os=w.os∧w4.tape=w.tape∧w4.output=w.output:=by rcases hw4 with rfl | rfl<;>exact ⟨rfl,rfl,rfl,rfl⟩
  refine q6z (w':=ChangeMaps.setBlock w4 w3.heap.size (.mapIter (some b) clk ((D.map (·.2)).toArray.push m.born) clk)) (v:=.tuple #[.bool true,m.key,m.val]) rfl (by simp [execOp,h6,hrun]) ?_
  have hheap:(ChangeMaps.setBlock w4 w3.heap.size (.mapIter (some b) clk ((D.map (·.2)).toArray.push m.born) clk)).heap=w.heap.setIfInBounds w3.heap.size (.mapIter (some b) clk ((D.map (·.2)).toArray.push m.born) clk):=by
   unfold ChangeMaps.setBlock
   rw [hsz.1]
  generalize hw5:ChangeMaps.setBlock w4 w3.heap.size (.mapIter (some b) clk ((D.map (·.2)).toArray.push m.born) clk)=w5 at hheap
  have h5s:w5.os=w.os∧w5.tape=w.tape∧w5.output=w.output:=by rw [← hw5];exact hsz.2
  have hit5:w5.heap[w3.heap.size]?=some (.mapIter (some b) clk ((D++[p]).map (·.2)).toArray clk):=by
   rw [hheap,Array.getElem?_setIfInBounds_self_of_lt hI.lt]
   simp [k1]
  have ho5:∀ k,k≠w3.heap.size→w5.heap[k]?=w.heap[k]?:=fun k hk=>by rw [hheap,Array.getElem?_setIfInBounds_ne (Ne.symm hk)]
  have r5:=hI.rel.turn (w':=w5) hI.nr hI.ns hw0 (by rw [hheap];simp) ho5 h5s.1 h5s.2.1 h5s.2.2
  have rv5:∀ {u:AV} {x:Value},RV R w u x→RV R w5 u x:=fun h=>h.step (fun _ h=>h) fun c hc=>ho5 c (by rintro rfl;exact hI.nr hc)
  have r6:=Rel.put (d:=some 7) r5.sim r5.env r5.size r5.sim (Step.refl _ _ _) (fun k hk=>by cases hk;omega) (u:=.tup [.bool true,.agg (obC p.1),.bool true]) (v:=.tuple #[.bool true,m.key,m.val]) (RV.tup_iff.2 ⟨_,rfl,.cons (.bool _) (.cons (rv5 k2) (.cons (rv5 k3) .nil))⟩)
  refine q48 r6.sim r6.env r6.size [⟨some 8,.extr (.t 7) 0,none,[]⟩] (K:=fun e' S'=>e' 8=.bool true∧e' 3=v∧e' 6=.ptr w3.heap.size 0∧S'=S) (by kernel_rfl) ⟨rfl,hI.e3,hI.e6,rfl⟩ ?_
  rintro R7 S7 w7 e7 a7 ⟨q6,q7,q8,rfl⟩ r7
  have hlt5:w3.heap.size<w5.heap.size:=by rw [hheap];simpa using hI.lt
  obtain ⟨z1,z2,z3,z4⟩:=r7.step.stands hI.nr hI.ns hlt5
  rw [hit5] at z4
  have rf:=(r5.trans r6).trans r7
  refine wp_seq (wp_cond_split (t:=true) ?_ (fun _=>wp_skip ?_) fun h=>by cases h)
  ·have:=r7.env 8
   unfold eget at this
   rw [q6] at this
   exact this.bool_inv
  refine wp_block (wp_seq (wp_region_list ?_))
  obtain ⟨arr',hb',hbn',-,hout'⟩:=hk1.opens r7.sim
  obtain ⟨m',hm',l1,l2,l3⟩:=hout' p hp
  have h6':a7.eval (.tmp 6)=.pointer (some ⟨w3.heap.size,0,none⟩):=by
   have:=r7.env 6
   unfold eget at this
   rw [q8] at this
   generalize hz:a7.tmps.getD 6 undef=z at this
   cases this
   exact hz
  have hent:=run_entry_at (P:=PG) w7 w3.heap.size b clk (D.map (·.2)).toArray arr' clk m' (by rw [z4,l1];simp) hb' hm' (by rw [hbn'];exact hk.nd)
  refine q6z (w':=w7) (v:=.tuple #[m'.key,m'.val]) rfl (by simp [execOp,h6',hent]) ?_
  have r8:=Rel.put (d:=some 9) rf.sim rf.env rf.size rf.sim (Step.refl _ _ _) (fun k hk=>by cases hk;omega) (u:=.tup [.agg (obC p.1),.bool true]) (v:=.tuple #[m'.key,m'.val]) (RV.tup_iff.2 ⟨_,rfl,.cons l2 (.cons l3 .nil)⟩)
  refine q48 r8.sim r8.env r8.size [⟨some 10,.extr (.t 9) 0,none,[]⟩,⟨some 4,.alloc tyOb [.str ⟨#[]⟩,.str ⟨#[]⟩],none,[]⟩,⟨none,.store 2 (.t 4) (.t 10),none,[]⟩]
   (K:=fun e' S'=>e' 3=v∧e' 6=.ptr w3.heap.size 0∧∃ x,e' 4=.ptr x 0∧sget S7 x=none∧Sub S7 S'∧sget S' x=some (.cells tyOb (obC p.1) 2)) (by kernel_rfl) ?_ ?_
  ·refine aopsQ (show exW 0 (.tup [.agg (obC p.1),.bool true]) (fun u=>aops PG _ _ _ (put (put e7 (some 9) (.tup [.agg (obC p.1),.bool true])) (some 10) u) S7) from ?_)
   show aops PG _ _ _ (put (put e7 (some 9) (.tup [.agg (obC p.1),.bool true])) (some 10) (.agg (obC p.1))) S7
   refine aopsQ (show alW S7 tyOb [.str ⟨#[]⟩,.str ⟨#[]⟩] (fun u S'=>aops PG _ _ _ (put (put (put e7 (some 9) (.tup [.agg (obC p.1),.bool true])) (some 10) (.agg (obC p.1))) (some 4) u) S') from ?_)
   intro x hx
   refine aopsQ (show stW (supd S7 x (.cells tyOb [.str ⟨#[]⟩,.str ⟨#[]⟩] 2)) 2 (.ptr x 0) (.agg (obC p.1)) _ from ?_)
   have ho:q0j (supd S7 x (.cells tyOb [.str ⟨#[]⟩,.str ⟨#[]⟩] 2)) x=some (tyOb,[.str ⟨#[]⟩,.str ⟨#[]⟩],2):=by unfold q0j;rw [q01,if_pos rfl]
   unfold stW q53
   dsimp only
   rw [ho]
   refine ⟨rfl,Nat.le_refl _,rfl,?_⟩
   refine ⟨q7,q8,x,rfl,hx,fun c o hc=>?_,?_⟩
   ·have:x≠c:=q0f hx hc
    rw [q01,if_neg this,q01,if_neg this];exact hc
   ·rw [q01,if_pos rfl];rfl
  rintro R9 S9 w9 e9 a9 ⟨q9,q10,x,q11,q12,q13,q14⟩ r9
  have o1:LstN S3 S9 tyOb 2 v ((D.map (·.1)).map obC):=hI.lst.sub q13
  refine wp_region_list (q48 r9.sim r9.env r9.size [⟨some 11,.mov (.t 3),none,[]⟩,⟨some 12,.load 2 true (.t 4),none,[]⟩,⟨some 13,.bslicr tyOb 2 [.t 12],none,[]⟩,⟨some 14,.app tyOb 2 32 (.t 11) (.t 13),none,[]⟩,⟨some 3,.mov (.t 14),none,[]⟩]
   (K:=fun e' S'=>∃ v',e' 3=v'∧e' 6=.ptr w3.heap.size 0∧Sub S3 S'∧LstN S3 S' tyOb 2 v' (((D++[p]).map (·.1)).map obC)) (by kernel_rfl) ?_ ?_)
  ·refine aopsQ (show aops PG _ _ _ (put e9 (some 11) (e9 3)) S9 from ?_)
   refine aopsQ (show ldW S9 2 true (e9 4) (fun u=>aops PG _ _ _ (put (put e9 (some 11) (e9 3)) (some 12) u) S9) from ?_)
   rw [q11]
   have hc:(cellsOf S9 (.ptr x 0)).bind (mkA true 2)=some (.agg (obC p.1)):=by simp [cellsOf,q14,mkA,obC]
   unfold ldW
   rw [hc]
   show aops PG _ _ _ (put (put e9 (some 11) (e9 3)) (some 12) (.agg (obC p.1))) S9
   refine aopsQ (show srW 2 [.agg (obC p.1)] (fun u=>aops PG _ _ _ (put (put (put e9 (some 11) (e9 3)) (some 12) (.agg (obC p.1))) (some 13) u) S9) from ⟨⟨rfl,rfl,trivial⟩,?_⟩)
   refine aopsQ (show apW S9 tyOb 2 32 (e9 3) (.sl 2 [obC p.1]) (fun u S'=>aops PG _ _ _ (put (put (put (put e9 (some 11) (e9 3)) (some 12) (.agg (obC p.1))) (some 13) (.sl 2 [obC p.1])) (some 14) u) S') from ?_)
   rw [q9]
   have hdl:D.length≤E.length:=by omega
   refine LstN.app (hI.sub.trans q13) o1 (fun r hr=>by rw [List.mem_singleton.1 hr];rfl) (q1t fun r hr=>by rw [List.mem_singleton.1 hr];rfl) (by simp only [List.length_map,List.length_singleton];omega) fun v' S4 j1 j2 j3=>?_
   refine aopsQ ?_
   refine ⟨v',rfl,q10,j1,?_⟩
   rw [List.map_append,List.map_append]
   exact j2
  rintro R10 S10 w10 e10 a10 ⟨v',g1,g2,g3,g4⟩ r10
  have r89:=(r8.trans r9).trans r10
  obtain ⟨t1,t2,t3,t4⟩:=r89.step.stands z1 z2 z3
  rw [z4] at t4
  have hdn:((D++[p]).map (·.2)).Nodup:=by
   rw [List.map_append,List.nodup_append]
   refine ⟨hI.dnd,by simp,fun a ha c hc=>?_⟩
   simp only [List.map_cons,List.map_nil,List.mem_singleton] at hc
   rintro rfl
   rw [hc] at ha
   exact hnew ha
  have hdin:∀ q∈D++[p],q∈E:=fun q hq=>by
   rcases List.mem_append.1 hq with h | h
   ·exact hI.din q h
   ·rw [List.mem_singleton.1 h];exact hp
  have hlen:(D++[p]).length≤E.length:=by
   have:=nd_len hdn (C:=E.map (·.2)) fun y hy=>by
    obtain ⟨q,hq,rfl⟩:=List.mem_map.1 hy
    exact List.mem_map.2 ⟨q,hdin q hq,rfl⟩
   simpa using this
  simp only [List.length_append,List.length_singleton] at hlen
  refine ⟨n-1,by omega,D++[p],R10,S10,e10,v',⟨rf.trans r89,t1,t2,t3,t4,g3,g2,g1,g4,hdin,hdn⟩,?_⟩
  simp only [List.length_append,List.length_singleton]
  omega
inductive Nt where
 | mk (lb:ByteArray) (nm:List ByteArray) (ks:List Nt)
 deriving Inhabited
mutual
def ntC:Nt→List AV
 | .mk l n k=>[.str l,.sl 1 (n.map fun s=>[AV.str s]),.sl 3 (ntsC k)]
def ntsC:List Nt→List (List AV)
 | []=>[]
 | t :: r=>ntC t :: ntsC r
end
theorem ntsC_map:∀ (l:List Nt),ntsC l=l.map ntC
 | []=>rfl
 | t :: r=>by rw [ntsC,ntsC_map r];rfl
theorem q96 (l:ByteArray) (n:List ByteArray) (k:List Nt):ntC (.mk l n k)=[.str l,.sl 1 (n.map fun s=>[AV.str s]),.sl 3 (k.map ntC)]:=by rw [ntC,ntsC_map]
theorem q6g (t:Nt):(ntC t).length=3:=by cases t;rw [ntC];rfl
theorem ntC_ones (t:Nt):ones (ntC t)=true:=by cases t;rw [ntC];rfl
abbrev NodeQ:=Ob→Rl→Nat→Option (Nt×Nat)
def q7i (s:List Ty) (ov:ByteArray) (node:NodeQ):List Nd→List Nt→Nat→Option (List Nt×Nat)
 | [],ks,w=>some (ks,w)
 | x :: r,ks,w=>match q0l s x.o.ty ov with
  | none=>q7i s ov node r ks w
  | some (_,_,rl)=>if x.rl=⟨#[]⟩ then (match node x.o rl w with
   | none=>none
   | some (k,w')=>q7i s ov node r (ks++[k]) w') else q7i s ov node r ks w
def lbE (k:Int):ByteArray:=if k=2 then ⟨#[111,114]⟩ else if k=3 then ⟨#[97,110,100]⟩ else ⟨#[110,111,116]⟩
def xeQ (E:q23) (node:NodeQ) (o:Ob):Nat→Ex→Nat→Option (Nt×Nat)
 | 0,_,_=>none
 | m+1,.mk k n ov ks,w=>if k=0 then (match q0l E.s o.ty n with
   | some (_,_,r)=>node o r w
   | none=>none)
  else if k=1 then (match q7i E.s ov node (E.of ⟨o,n⟩) [] w with
   | none=>none
   | some (l,w')=>some (.mk (n++⟨#[46]⟩++ov) [] l,w'))
  else match ks with
   | [a,b]=>(match xeQ E node o m a w with
    | none=>none
    | some (x,w1)=>match xeQ E node o m b w1 with
     | none=>none
     | some (y,w2)=>some (.mk (lbE k) [] [x,y],w2))
   | _=>none
def labX (o:Ob) (r:Rl):ByteArray:=q4h o++⟨#[35]⟩++r.name
def xnT (E:q23) (f:List Nd→NodeQ) (P:List Nd) (o:Ob) (r:Rl) (w:Nat):Option (Nt×Nat):=
 if r.refs.length=0 then (match xeQ E (f (⟨o,r.name⟩ :: P)) o 12 r.ex w with
  | none=>none
  | some (k,w')=>some (.mk (labX o r) [] [k],w'))
 else some (.mk (labX o r) ((E.of ⟨o,r.name⟩).map q4v) [],w)
def xnS (B:Int) (t:List Nd→NodeQ) (P:List Nd) (o:Ob) (r:Rl) (w:Nat):Option (Nt×Nat):=
 if B<(w:Int)+1 then none else if (⟨o,r.name⟩:Nd)∈P then some (.mk (labX o r) [⟨#[46,46]⟩] [],w+1) else t P o r (w+1)
def xnQ (E:q23) (B:Int):Nat→List Nd→NodeQ
 | 0=>xnS B fun _ _ _ _=>none
 | f+1=>xnS B (xnT E (xnQ E B f))
def fndE (s:List Ty) (t:ByteArray):Nat→Ex→Bool
 | 0,_=>false
 | m+1,.mk k n ov ks=>if k=0 then (q0l s t n).isSome else if k=1 then true else match ks with
  | [a,b]=>fndE s t m a&&fndE s t m b
  | _=>false
theorem firstZ_all {f:Ex→Int}:∀ {l:List (Ex×Bool)},q32 f l=0→∀ p∈l,f p.1=0
 | [],_,p,hp=>by cases hp
 | (e,o) :: r,h,p,hp=>by
  unfold q32 at h
  split at h
  ·rename_i h0
   rcases List.mem_cons.1 hp with rfl | hp
   ·exact h0
   ·exact firstZ_all h p hp
  ·rename_i h0
   exact absurd h h0
theorem fnd_of {s:List Ty} {t:ByteArray}:∀ (m:Nat) (e:Ex) (o:Bool),mayE m e=true→(∀ p∈q0k e o,q4q s t p.1=0)→fndE s t m e=true
 | 0,e,o,h,_=>by cases h
 | m+1,.mk k n ov ks,o,h,hl=>by
  unfold mayE at h
  unfold fndE
  split at h
  ·rename_i k0
   simp only [Bool.and_eq_true] at h
   rw [if_pos k0]
   have:=hl (.mk k n ov ks,o) (by unfold q0k;rw [if_pos h.2];exact List.mem_singleton.2 rfl)
   unfold q4q at this
   dsimp only [Ex.name] at this
   cases hq:q0l s t n with
   | none=>rw [hq] at this;cases this
   | some q=>rfl
  ·rename_i k0
   rw [if_neg k0]
   split at h
   ·rename_i k1;rw [if_pos k1]
   ·rename_i k1
    rw [if_neg k1]
    split at h
    ·match ks,h with
     | [a,b],h=>
      simp only [two,Bool.and_eq_true] at h
      have e1:q0k (.mk k n ov [a,b]) o=q0w k 0 [a,b] o:=by
       unfold q0k
       rw [if_neg (by simp)]
      rw [e1] at hl
      unfold q0w q0w at hl
      simp only [Bool.and_eq_true]
      exact ⟨fnd_of m a _ h.1 fun p hp=>hl p (List.mem_append_left _ hp),fnd_of m b _ h.2 fun p hp=>hl p (List.mem_append_right _ (List.mem_append_left _ hp))⟩
     | [],h=>cases h
     | [_],h=>cases h
     | _ :: _ :: _ :: _,h=>cases h
    ·cases h
theorem sc_fnd {s:List Ty} (h:errA (chkF s)=0):∀ t∈s,∀ r∈t.rels,r.refs.length=0→fndE s t.name 12 r.ex=true:=by
 intro t ht r hr h0
 have hg:=qa2 h
 obtain ⟨i,hi⟩:=List.getElem?_of_mem ht
 obtain ⟨k,hk⟩:=List.getElem?_of_mem hr
 have hn:=hg.name hi hk
 unfold q1l at hn
 rw [if_pos h0] at hn
 split at hn
 ·exact fnd_of 12 r.ex false (sc_may hg.may t ht r hr h0) (firstZ_all hn)
 ·cases hn
set_option maxRecDepth 4000
abbrev tyXp:Nat:=132
abbrev tyNo:Nat:=70
abbrev tyStr:Nat:=9
abbrev spX:AV:=.iface 135 (.agg [])
def xpC (E:q23) (B:Int) (bo bp w:Nat):List AV:=[.sl 2 (E.s.map tyC),.map (some bo),.int .i64 B,.int .i64 w,.map (some bp)]
structure XsOk (E:q23) (B:Int) (bc bo bp:Nat):Prop where
 s:OkS E.s
 may:∀ t∈E.s,∀ r∈t.rels,r.refs.length=0→mayE 12 r.ex=true
 fnd:∀ t∈E.s,∀ r∈t.rels,r.refs.length=0→fndE E.s t.name 12 r.ex=true
 n1:bp≠bc
 n2:bo≠bc
 n3:bo≠bp
 B:B≤100000
 len:∀ n,(E.of n).length≤100000
 okd:∀ n,∀ x∈E.of n,OkD x
structure StX (E:q23) (B:Int) (bc bo bp:Nat) (es:List (AV×AV×Nat)) (w:Nat) (S:q00):Prop where
 c:q0j S bc=some (tyXp,xpC E B bo bp w,5)
 p:∃ clk,q2d S bp=some (MD,es,clk)
 of:KMap MD ndA S bo (fun n=>ofA (E.of n))
 w:(w:Int)≤B
def Out (bc bp:Nat) (S S':q00):Prop:=∀ c,c≠bc→c≠bp→sget S' c=sget S c
def OutS (bc bp:Nat) (S S':q00):Prop:=∀ c o,c≠bc→c≠bp→sget S c=some o→sget S' c=some o
def cut (S S':q00):q00:=fun c=>match S c with
 | none=>none
 | some _=>S' c
section
variable {E:q23} {B:Int} {bc bo bp:Nat} {S S' S2:q00} {es es':List (AV×AV×Nat)} {w w':Nat}
theorem cut_get (c:Nat):sget (cut S S') c=if (sget S c).isSome then sget S' c else none:=by
 show (match S c with | none=>none | some _=>S' c)=if (S c).isSome then S' c else none
 cases S c<;>rfl
theorem cut_sub:Sub (cut S S') S':=fun c o h=>by
 rw [cut_get] at h
 split at h
 ·exact h
 ·cases h
theorem Out.s (h:Out bc bp S S'):OutS bc bp S S':=fun c o h1 h2 h3=>(h c h1 h2).trans h3
theorem OutS.refl:OutS bc bp S S:=fun _ _ _ _ h=>h
theorem OutS.trans (h:OutS bc bp S S') (k:OutS bc bp S' S2):OutS bc bp S S2:=fun c o h1 h2 h3=>k c o h1 h2 (h c o h1 h2 h3)
theorem OutS.supd (h:OutS bc bp S S') {b:Nat} {o:AObj} (hb:b=bc∨b=bp∨sget S b=none):OutS bc bp S (supd S' b o):=fun c x h1 h2 h3=>by
 have:b≠c:=by
  rintro rfl
  rcases hb with e | e | e
  ·exact h1 e
  ·exact h2 e
  ·rw [e] at h3;cases h3
 rw [q01,if_neg this]
 exact h c x h1 h2 h3
theorem StX.nc (h:StX E B bc bo bp es w S):sget S bc≠none:=by rw [objAt_some.1 h.c];simp
theorem StX.np (h:StX E B bc bo bp es w S):sget S bp≠none:=by obtain ⟨clk,h⟩:=h.p;rw [mapObj_some.1 h];simp
theorem StX.no (h:StX E B bc bo bp es w S):sget S bo≠none:=by obtain ⟨es,clk,h,-⟩:=h.of;rw [mapObj_some.1 h];simp
theorem StX.mono (h:StX E B bc bo bp es w S) (h1:sget S' bc=sget S bc) (h2:sget S' bp=sget S bp) (h3:sget S' bo=sget S bo):StX E B bc bo bp es w S':=by
 obtain ⟨clk,hp⟩:=h.p
 obtain ⟨es2,clk2,k1,k2,k3⟩:=h.of
 exact ⟨objAt_some.2 (h1.trans (objAt_some.1 h.c)),⟨clk,mapObj_some.2 (h2.trans (mapObj_some.1 hp))⟩,⟨es2,clk2,mapObj_some.2 (h3.trans (mapObj_some.1 k1)),k2,k3⟩,h.w⟩
theorem StX.upd (h:StX E B bc bo bp es w S) {b:Nat} (hb:b≠bc∧b≠bp∧b≠bo) (o:AObj):StX E B bc bo bp es w (supd S b o):=
 h.mono (by rw [q01,if_neg hb.1]) (by rw [q01,if_neg hb.2.1]) (by rw [q01,if_neg hb.2.2])
theorem StX.ne (h:StX E B bc bo bp es w S) {b:Nat} (hb:sget S b=none):b≠bc∧b≠bp∧b≠bo:=by
 refine ⟨?_,?_,?_⟩
 ·rintro rfl;exact h.nc hb
 ·rintro rfl;exact h.np hb
 ·rintro rfl;exact h.no hb
theorem StX.cut (h:StX E B bc bo bp es w S) (k:StX E B bc bo bp es' w' S'):StX E B bc bo bp es' w' (cut S S'):=by
 have g:∀ c,sget S c≠none→sget (Go.HL.cut S S') c=sget S' c:=fun c hc=>by
  rw [cut_get,if_pos]
  cases hq:sget S c with
  | none=>exact absurd hq hc
  | some _=>rfl
 exact k.mono (g _ h.nc) (g _ h.np) (g _ h.no)
theorem OutS.cut (h:OutS bc bp S S'):Out bc bp S (cut S S'):=fun c h1 h2=>by
 rw [cut_get]
 cases hq:sget S c with
 | none=>rfl
 | some o=>
  simp only [Option.isSome_some,if_true]
  exact h c o h1 h2 hq
theorem StX.work (h:StX E B bc bo bp es w S) (hn:XsOk E B bc bo bp) (hw:(w':Int)≤B):StX E B bc bo bp es w' (Go.HL.supd S bc (.cells tyXp (xpC E B bo bp w') 5)):=by
 obtain ⟨clk,hp⟩:=h.p
 exact ⟨by rw [objAt_supd,if_pos rfl],⟨clk,by rw [mapObj_supd,if_neg (Ne.symm hn.n1)];exact hp⟩,h.of.upd (Ne.symm hn.n2) _,hw⟩
end
def q65 (E:q23) (B:Int) (bc bo bp:Nat) (es:List (AV×AV×Nat)) (S:q00) (q:Option (Nt×Nat)) (ae:AEnd) (S':q00):Prop:=match q with
 | some (t,w')=>ae=.ret (.agg (ntC t))∧StX E B bc bo bp es w' S'∧Out bc bp S S'
 | none=>ae=.pan spX∧OutS bc bp S S'
def NodeOk (E:q23) (B:Int) (bc bo bp:Nat) (node:NodeQ) (es:List (AV×AV×Nat)):Prop:=∀ (o:Ob) (r:Rl) (n:ByteArray) (i k:Nat),OkO o→q0l E.s o.ty n=some (i,k,r)→∀ (w:Nat) (S:q00),StX E B bc bo bp es w S →
 ACalls PG nrx77 [.ptr bc 0,.agg (obC o),.agg (rlC r)] S (q65 E B bc bo bp es S (node o r w))
section
variable {E:q23} {B:Int} {bc bo bp:Nat} {S S' S2:q00} {es es':List (AV×AV×Nat)} {w w':Nat}
theorem fin_cell {QF:AEnd→q00→Prop} {b t tot:Nat} {cs cs':List AV} (ho:q0j S' b=some (t,cs,tot)) (hl:cs.length=3) (hf:Frs (cut S S') S' cs cs') (hQ:QF (.ret (.agg cs')) (cut S S')):rtW [.cell (.ptr b 0) 3 true] QF S':=by
 refine q5e (cut S S') (.agg cs') cut_sub ?_ hQ
 have:q44 S' [.cell (.ptr b 0) 3 true]=some [.agg cs]:=by
  unfold q44 q44 resW
  have:=objAt_some.1 ho
  have hm:mkA true 3 cs=some (.agg cs):=by
   unfold mkA
   rw [if_pos rfl,if_pos (by omega),List.take_of_length_le (by omega)]
  simp only [cellsOf,this,List.drop_zero,Option.bind_some,hm]
 rw [this]
 exact Fr.ag hf
theorem fin_node {QF:AEnd→q00→Prop} {b:Nat} {t:Nt} {zs:List AV} (hz:zs.length=3) (h:StX E B bc bo bp es w S) (hb:sget S b=none) (h1:StX E B bc bo bp es' w' S') (h2:OutS bc bp (supd S b (.cells tyNo zs 3)) S')
  (hQ:∀ S2,StX E B bc bo bp es' w' S2→Out bc bp S S2→QF (.ret (.agg (ntC t))) S2):stW S' 3 (.ptr b 0) (.agg (ntC t)) fun S=>rtW [.cell (.ptr b 0) 3 true] QF S:=by
 have hne:=h.ne hb
 have ho:=h2 b _ hne.1 hne.2.1 (by rw [q01,if_pos rfl])
 have e:q1n zs 0 (ntC t)=ntC t:=by
  have:=q4m (ntC t) zs 0 (by rw [q6g,hz])
  simpa using this
 unfold stW q53
 dsimp only
 rw [objAt_some.2 ho]
 refine ⟨q6g t,by rw [hz];exact Nat.le_refl _,ntC_ones t,?_⟩
 have ea:q09 (.agg (ntC t))=ntC t:=rfl
 rw [ea,e]
 have hS:OutS bc bp S (supd S' b (.cells tyNo (ntC t) 3)):=by
  refine OutS.supd (fun c o k1 k2 k3=>h2 c o k1 k2 ?_) (.inr (.inr hb))
  rw [q01,if_neg (q0f hb k3)]
  exact k3
 refine fin_cell (S:=S) (by rw [objAt_supd,if_pos rfl]) (q6g t) (Frs.same _) (hQ _ (h.cut (h1.upd hne _)) hS.cut)
theorem StX.fresh (h:StX E B bc bo bp es w S) {b:Nat} (hb:sget S b=none) (o:AObj):StX E B bc bo bp es w (supd S b o):=h.upd (h.ne hb) o
theorem OutS.cell {b:Nat} {o:AObj} (h:OutS bc bp (Go.HL.supd S b o) S') (hb:sget S b=none):OutS bc bp S S':=fun c x h1 h2 h3=>h c x h1 h2 (by rw [q01,if_neg (q0f hb h3)];exact h3)
theorem q5n {f:Nat} {args:List AV} {q:Option (Nt×Nat)} {b:Nat} {zs:List AV} (hz:zs.length=3) (h:StX E B bc bo bp es w S) (hb:sget S b=none)
  (hc:ACalls PG f args (supd S b (.cells tyNo zs 3)) (q65 E B bc bo bp es' (supd S b (.cells tyNo zs 3)) q)) :
  caW PG (supd S b (.cells tyNo zs 3)) (.func (.func f) [] []) args (fun v S'=>stW S' 3 (.ptr b 0) v fun S2=>rtW [.cell (.ptr b 0) 3 true] (q65 E B bc bo bp es' S q) S2) (pqW (q65 E B bc bo bp es' S q)):=by
 refine q0b hc ?_
 intro ae S' hp
 unfold q65 at hp
 cases q with
 | none=>
  obtain ⟨rfl,hp⟩:=hp
  exact ⟨rfl,hp.cell hb⟩
 | some p=>
  obtain ⟨t,w'⟩:=p
  obtain ⟨rfl,h1,h2⟩:=hp
  dsimp only
  exact fin_node hz h hb h1 h2.s fun S2 k1 k2=>⟨rfl,k1,k2⟩
theorem fin_rop {QF:AEnd→q00→Prop} {cs cs':List AV} (hl:cs.length=3) (hf:Frs (cut S S') S' cs cs') (hQ:QF (.ret (.agg cs')) (cut S S')):rtW [.cell (.rop cs) 3 true] QF S':=by
 refine q5e (cut S S') (.agg cs') cut_sub ?_ hQ
 have:q44 S' [.cell (.rop cs) 3 true]=some [.agg cs]:=by
  unfold q44 q44 resW
  have hm:mkA true 3 cs=some (.agg cs):=by
   unfold mkA
   rw [if_pos rfl,if_pos (by omega),List.take_of_length_le (by omega)]
  simp only [cellsOf,Option.bind_some,hm]
 rw [this]
 exact Fr.ag hf
theorem c_xboth (hX:XsOk E B bc bo bp) {o:Ob} {k:Int} {n ov lb:ByteArray} {a b:Ex} {fa fb:Nat→Option (Nt×Nat)}
  (ha:∀ (w:Nat) (S:q00),StX E B bc bo bp es w S→ACalls PG nrx126 [.ptr bc 0,.agg (obC o),.agg (exC a)] S (q65 E B bc bo bp es S (fa w)))
  (hb:∀ (w:Nat) (S:q00),StX E B bc bo bp es w S→ACalls PG nrx126 [.ptr bc 0,.agg (obC o),.agg (exC b)] S (q65 E B bc bo bp es S (fb w))) (hS:StX E B bc bo bp es w S) :
  ACalls PG nrx170 [.ptr bc 0,.str lb,.agg (obC o),.agg [.int .i64 k,.str n,.str ov,.sl 4 [exC a,exC b]]] S (q65 E B bc bo bp es S (match fa w with
   | none=>none
   | some (x,w1)=>match fb w1 with
    | none=>none
    | some (y,w2)=>some (.mk lb [] [x,y],w2))):=by
 refine wx170 ?_
 unfold Bx170
 (try simp only [rwp,zA,zB,zC,zD,zE,zF,zG,zH,zI,rwb,reduceIte,obC,q0d])
 intro b8 hb8
 have q:=ha w _ (hS.fresh hb8 (.cells tyNo [.str ⟨#[]⟩,.nils,.nils] 3))
 simp only [obC,q0d] at q
 (try simp only [rwp,zA,zB,zC,zD,zE,zF,zG,zH,zI,rwb,reduceIte])
 refine q0b q ?_
 intro ae S1 hp
 unfold q65 at hp
 cases hs:fa w with
 | none=>
  rw [hs] at hp
  obtain ⟨rfl,hp⟩:=hp
  exact ⟨rfl,hp.cell hb8⟩
 | some p=>
  obtain ⟨⟨l1,n1,k1⟩,w1⟩:=p
  rw [hs] at hp
  obtain ⟨rfl,h1,h2⟩:=hp
  dsimp only
  rw [q96]
  refine alst rfl ?_
  (try simp only [rwp,zA,zB,zC,zD,zE,zF,zG,zH,zI,rwb,reduceIte])
  have q:=hb w1 _ h1
  simp only [obC,q0d] at q
  refine q0b q ?_
  intro ae S2 hp
  unfold q65 at hp
  cases hs2:fb w1 with
  | none=>
   rw [hs2] at hp
   obtain ⟨rfl,hp⟩:=hp
   exact ⟨rfl,(h2.s.trans hp).cell hb8⟩
  | some p=>
   obtain ⟨⟨l2,n2,k2⟩,w2⟩:=p
   rw [hs2] at hp
   obtain ⟨rfl,h3,h4⟩:=hp
   dsimp only
   rw [q96]
   have hne:=hS.ne hb8
   have ho8:q0j S2 b8=some (tyNo,[.str ⟨#[]⟩,.nils,.nils],3):=objAt_some.2 (by rw [h4 b8 hne.1 hne.2.1,h2 b8 hne.1 hne.2.1,q01,if_pos rfl])
   (try simp only [rwp,zA,zB,zC,zD,zE,zF,zG,zH,zI,rwb,reduceIte,kpW_rop,ho8])
   have hS8:OutS bc bp S S2:=(h2.s.trans h4.s).cell hb8
   refine fin_rop (S:=S) (cs':=ntC (.mk lb [] [.mk l1 n1 k1,.mk l2 n2 k2])) rfl ?_ ?_
   ·simp only [q96,List.map_cons,List.map_nil]
    exact .cons (.same _) (.cons (.nils 1) (.cons (.same _) .nil))
   ·have hS9:OutS bc bp S (sdel (supd S2 b8 (.cells tyNo [.str lb,.nils,.sl 3 [[.str l1,.sl 1 (n1.map fun s=>[AV.str s]),.sl 3 (k1.map ntC)],[.str l2,.sl 1 (n2.map fun s=>[AV.str s]),.sl 3 (k2.map ntC)]]] 3)) b8):=fun c x u1 u2 u3=>by
     have:=q0f hb8 u3
     rw [q0a,if_neg this,q01,if_neg this]
     exact hS8 c x u1 u2 u3
    refine ⟨rfl,hS.cut ?_,hS9.cut⟩
    refine h3.mono ?_ ?_ ?_
    ·rw [q0a,if_neg hne.1,q01,if_neg hne.1]
    ·rw [q0a,if_neg hne.2.1,q01,if_neg hne.2.1]
    ·rw [q0a,if_neg hne.2.2,q01,if_neg hne.2.2]
theorem LstN.rebase {S0 S1 S:q00} {t sz:Nat} {v:AV} {rows:List (List AV)} (h:LstN S0 S t sz v rows) (hk:∀ b off n cap,v=.own b off n cap→sget S1 b=none):LstN S1 S t sz v rows:=by
 obtain ⟨hr,⟨rfl,rfl⟩ | ⟨b,cap,rfl,h1,h2,h3,h4,h5⟩⟩:=h
 ·exact ⟨hr,.inl ⟨rfl,rfl⟩⟩
 ·exact ⟨hr,.inr ⟨b,cap,rfl,hk _ _ _ _ rfl,h2,h3,h4,h5⟩⟩
theorem foldX_cons {s:List Ty} {ov:ByteArray} {node:NodeQ} {x:Nd} {r:List Nd} {ks:List Nt} {w:Nat}:q7i s ov node (x :: r) ks w=match q0l s x.o.ty ov with
  | none=>q7i s ov node r ks w
  | some (_,_,rl)=>if x.rl=⟨#[]⟩ then (match node x.o rl w with
   | none=>none
   | some (k,w')=>q7i s ov node r (ks++[k]) w') else q7i s ov node r ks w:=rfl
theorem nameB_bd {s:ByteArray} (h:q0q s=true):s.size≤1125899906842624:=by
 unfold q0q at h
 simp only [Bool.and_eq_true,decide_eq_true_eq] at h
 omega
structure Ls (v:AV) (xs:List Nd):Prop where
 ln:∀ {S:q00} {K:AV→Prop},K (.int .i64 xs.length)→lnW S 1 v K
 ia:∀ {i:Nat} {x:Nd} {K:AV→Prop},xs[i]?=some x→K (.rop (ndC x))→iaW 3 v (.int .i64 i) K
theorem ofA_ls (xs:List Nd):Ls (q2p false .nils (ofA xs)) xs:=by
 unfold ofA
 split
 ·rename_i h
  subst h
  exact ⟨fun h=>by show lnW _ 1 .nils _;rw [q9y];exact h,fun h=>by cases h⟩
 ·refine ⟨fun h=>?_,fun h hk=>?_⟩
  ·show lnW _ 1 (.sl 3 (xs.map ndC)) _
   (try simp only [rwp,zA,zB,zC,zD,zE,zF,zG,zH,zI,rwb,reduceIte,List.length_map])
   exact h
  ·show iaW 3 (.sl 3 (xs.map ndC)) _ _
   (try simp only [rwp,zA,zB,zC,zD,zE,zF,zG,zH,zI,rwb,reduceIte,List.getElem?_map,h])
   exact hk
theorem c_xarrow (hX:XsOk E B bc bo bp) {node:NodeQ} (hnode:NodeOk E B bc bo bp node es) {o:Ob} (ho:OkO o) {k:Int} {n ov:ByteArray} {ka:AV} (hn:n.size≤1125899906842624) (hov:ov.size≤1125899906842624) (hS:StX E B bc bo bp es w S) :
  ACalls PG nrx169 [.ptr bc 0,.agg (obC o),.agg [.int .i64 k,.str n,.str ov,ka]] S (q65 E B bc bo bp es S (match q7i E.s ov node (E.of ⟨o,n⟩) [] w with
   | none=>none
   | some (l,w')=>some (.mk (n++⟨#[46]⟩++ov) [] l,w'))):=by
 have hc:=q07 hS.c
 refine wx169 ?_
 unfold Bx169
 (try simp only [rwp,zA,zB,zC,zD,zE,zF,zG,zH,zI,rwb,reduceIte,obC,ByteArray.size_append])
 intro b6 hb6
 have hS6:=hS.fresh hb6 (.cells tyNo [.str ⟨#[]⟩,.nils,.nils] 3)
 have hd:(ByteArray.mk #[46]).size=1:=rfl
 refine ⟨by omega,by omega,fun b7 hb7=>?_⟩
 have hS7:=hS6.fresh hb7 (.cells tyNo [.str (n++⟨#[46]⟩++ov),.nils,.nils] 3)
 obtain ⟨d76,hb7'⟩:=frsh hb7
 generalize hlab:n++⟨#[46]⟩++ov=lab at hS7 ⊢
 have n6:=hS.ne hb6
 have n7:=hS.ne hb7'
 (try simp only [rwp,zA,zB,zC,zD,zE,zF,zG,zH,zI,rwb,reduceIte,n6.1,n7.1,hc,xpC])
 generalize hS1:supd (supd S b6 (.cells tyNo [.str ⟨#[]⟩,.nils,.nils] 3)) b7 (.cells tyNo [.str lab,.nils,.nils] 3)=S1 at hS7 ⊢
 refine KMap.lki hS7.of ke_nd ⟨o,n⟩ ?_
 have hls:=ofA_ls (E.of ⟨o,n⟩)
 generalize q2p false .nils (ofA (E.of ⟨o,n⟩))=lv at hls ⊢
 have hxl:=hX.len ⟨o,n⟩
 have hxd:=hX.okd ⟨o,n⟩
 generalize E.of ⟨o,n⟩=xs at hls hxl hxd ⊢
 refine hls.ln ?_
 have g7:sget S1 b7=some (.cells tyNo [.str lab,.nils,.nils] 3):=by rw [← hS1,q01,if_pos rfl]
 have g6:sget S1 b6=some (.cells tyNo [.str ⟨#[]⟩,.nils,.nils] 3):=by rw [← hS1,q01,if_neg d76,q01,if_pos rfl]
 have hO1:OutS bc bp S S1:=by rw [← hS1];exact (OutS.refl.supd (.inr (.inr hb6))).supd (.inr (.inr hb7'))
 refine LoopP.introS (fun x:Nat×Nat×AV×List Nt=>[(0,.ptr bc 0),(5,.rop [.int .i64 k,.str n,.str ov,ka]),(6,.ptr b6 0),(7,.ptr b7 0),(27,lv),(28,.int .i64 xs.length),(29,.int .i64 x.1)])
  (fun x S'=>x.1≤xs.length∧x.2.2.2.length≤x.1∧StX E B bc bo bp es x.2.1 S'∧OutS bc bp S S'∧sget S' b6=some (.cells tyNo [.str ⟨#[]⟩,.nils,.nils] 3)∧sget S' b7=some (.cells tyNo [.str lab,.nils,x.2.2.1] 3) ∧
   LstN emp S' tyNo 3 x.2.2.1 (x.2.2.2.map ntC)∧(∀ c,sget S1 c≠none→q0x x.2.2.1 c)∧q7i E.s ov node (xs.drop x.1) x.2.2.2 x.2.1=q7i E.s ov node xs [] w) (fun x=>xs.length-x.1) (0,w,.nils,[])
  ⟨Nat.zero_le _,Nat.le_refl _,hS7,hO1,g6,g7,LstN.nil,fun c _ b off n cap h=>(by cases h),rfl⟩ rfl ?_
 rintro ⟨i,w1,v,ks⟩ S2 ⟨hi,hkl,h1,h2,h3,h4,h5,h6,h7⟩ kk hkk
 dsimp only at hi hkl h1 h2 h3 h4 h5 h6 h7 ⊢
 (try simp only [rwp,zA,zB,zC,zD,zE,zF,zG,zH,zI,rwb,reduceIte,C169_1])
 cases a1:decide ((i:Int)<xs.length)
 ·have e:i=xs.length:=by have:=of_decide_eq_false a1;omega
  subst e
  rw [List.drop_length] at h7
  have h7:some (ks,w1)=q7i E.s ov node xs [] w:=h7
  rw [← h7]
  have ho7:=objAt_some.2 h4
  have hc7:=q07 ho7
  have ho6:=objAt_some.2 h3
  have hv1:one v=true:=h5.one
  (try simp only [rwp,zA,zB,zC,zD,zE,zF,zG,zH,zI,rwb,reduceIte,ho6,hc7,hv1])
  have hS3:OutS bc bp S (sdel (supd S2 b6 (.cells tyNo [.str lab,.nils,v] 3)) b6):=fun c y u1 u2 u3=>by
   have:=q0f hb6 u3
   rw [q0a,if_neg this,q01,if_neg this]
   exact h2 c y u1 u2 u3
  refine fin_rop (S:=S) (cs':=ntC (.mk lab [] ks)) rfl ?_ ⟨rfl,hS.cut ?_,hS3.cut⟩
  ·rw [q96]
   refine .cons (.same _) (.cons (.nils 1) (.cons (Fr.lst (t:=tyNo) ?_) .nil))
   refine (h5.keepAt (S':=sdel (supd S2 b6 (.cells tyNo [.str lab,.nils,v] 3)) b6) fun b off m cap hv=>?_).rebase fun b off m cap hv=>?_
   ·have:=h6 b6 (by rw [g6];simp) _ _ _ _ hv
    rw [q0a,if_neg this,q01,if_neg this]
   rw [cut_get]
   have:=h6 b
   cases hq:sget S b with
   | none=>rfl
   | some y=>
    exfalso
    have h1b:sget S1 b≠none:=by
     have hb6':b6≠b:=q0f hb6 hq
     have hb7'':b7≠b:=q0f hb7' hq
     rw [← hS1,q01,if_neg hb7'',q01,if_neg hb6',hq]
     simp
    exact this h1b _ _ _ _ hv rfl
  ·refine h1.mono ?_ ?_ ?_
   ·rw [q0a,if_neg n6.1,q01,if_neg n6.1]
   ·rw [q0a,if_neg n6.2.1,q01,if_neg n6.2.1]
   ·rw [q0a,if_neg n6.2.2,q01,if_neg n6.2.2]
 ·have hlt:=of_decide_eq_true a1
  obtain ⟨x,hx⟩:=q0h hlt
  have hxo:=hxd x (List.mem_of_getElem? hx)
  rw [q0e hx,foldX_cons] at h7
  have hc2:=q07 h1.c
  have on:∀ b:Bool,q7i E.s ov node (xs.drop (i+1)) ks w1=q7i E.s ov node xs [] w→rcW kk [(0,.ptr bc 0),(5,.rop [.int .i64 k,.str n,.str ov,ka]),(6,.ptr b6 0),(7,.ptr b7 0),(27,lv),(28,.int .i64 xs.length),(29,.int .i64 ((IntKind.i64.wrap ((i:Int)+1))))] S2:=by
   intro _ hf
   (simp (disch:=omega) only [q04])
   exact q08 rfl (hkk (i+1,w1,v,ks) S2 ⟨by dsimp only;omega,by dsimp only;omega,h1,h2,h3,h4,h5,h6,hf⟩ (by dsimp only;omega))
  (try simp only [rwp,zA,zB,zC,zD,zE,zF,zG,zH,zI,rwb,reduceIte])
  refine hls.ia hx ?_
  (try simp only [rwp,zA,zB,zC,zD,zE,zF,zG,zH,zI,rwb,reduceIte,ndC,hc2,xpC])
  have q:=q1q hX.s x.o.ty ov S2
  simp only [scA] at q
  refine q0b q ?_
  rintro ae S' ⟨rfl,rfl⟩
  cases hq:q0l E.s x.o.ty ov with
  | none=>
   rw [hq] at h7
   dsimp only at h7 ⊢
   (try simp only [rwp,zA,zB,zC,zD,zE,zF,zG,zH,zI,rwb,reduceIte,q6w])
   refine alst rfl ?_
   (try simp only [rwp,zA,zB,zC,zD,zE,zF,zG,zH,zI,rwb,reduceIte,C169_2])
   exact on true h7
  | some p=>
   obtain ⟨fi,fk,r⟩:=p
   rw [hq] at h7
   dsimp only at h7 ⊢
   (try simp only [rwp,zA,zB,zC,zD,zE,zF,zG,zH,zI,rwb,reduceIte,q0i])
   refine alst rfl ?_
   cases a2:decide (x.rl=⟨#[]⟩)
   ·rw [if_neg (of_decide_eq_false a2)] at h7
    (try simp only [rwp,zA,zB,zC,zD,zE,zF,zG,zH,zI,rwb,reduceIte,C169_2])
    exact on true h7
   ·rw [if_pos (of_decide_eq_true a2)] at h7
    have ho7:=objAt_some.2 h4
    have hc7:=q07 ho7
    (try simp only [rwp,zA,zB,zC,zD,zE,zF,zG,zH,zI,rwb,reduceIte,C169_2,hc7])
    have q:=hnode x.o r ov fi fk hxo.o hq w1 _ h1
    simp only [obC,q0i] at q
    refine q0b q ?_
    intro ae S3 hp
    unfold q65 at hp
    cases hs:node x.o r w1 with
    | none=>
     rw [hs] at hp h7
     obtain ⟨rfl,hp⟩:=hp
     dsimp only at h7 ⊢
     show pqW _ _ _
     unfold pqW
     rw [← h7]
     exact ⟨rfl,h2.trans hp⟩
    | some p=>
     obtain ⟨t,w3⟩:=p
     rw [hs] at hp h7
     obtain ⟨rfl,k1,k2⟩:=hp
     dsimp only at h7 ⊢
     have d1:∀ c,sget S1 c≠none→c=b6∨c=b7∨sget S c≠none:=fun c hc=>by
      rw [← hS1,q01,q01] at hc
      split at hc
      ·rename_i e;exact .inr (.inl e.symm)
      ·split at hc
       ·rename_i e;exact .inl e.symm
       ·exact .inr (.inr hc)
     have s1:∀ c,sget S c≠none→sget S1 c≠none:=fun c hc=>by
      rw [← hS1,q01,q01]
      split
      ·simp
      ·split
       ·simp
       ·exact hc
     have g36:sget S3 b6=some (.cells tyNo [.str ⟨#[]⟩,.nils,.nils] 3):=(k2 b6 n6.1 n6.2.1).trans h3
     have g37:sget S3 b7=some (.cells tyNo [.str lab,.nils,v] 3):=(k2 b7 n7.1 n7.2.1).trans h4
     have dom3:∀ c,sget S1 c≠none→∃ o,sget S3 c=some o:=fun c hc=>by
      have:sget S3 c≠none:=by
       rcases d1 c hc with rfl | rfl | hc
       ·rw [g36];simp
       ·rw [g37];simp
       ·by_cases e1:c=bc
        ·rw [e1];exact k1.nc
        ·by_cases e2:c=bp
         ·rw [e2];exact k1.np
         ·cases hq:sget S c with
          | none=>exact absurd hq hc
          | some o=>rw [(h2.trans k2.s) c o e1 e2 hq];simp
      cases hq:sget S3 c with
      | none=>exact absurd hq this
      | some o=>exact ⟨o,rfl⟩
     refine ⟨fun u hu b hb=>(by rw [List.mem_singleton.1 hu] at hb;cases hb;exact k2 b7 n7.1 n7.2.1),⟨q6g t,rfl⟩,?_⟩
     have o3:LstN emp S3 tyNo 3 v (ks.map ntC):=h5.keepAt fun b off m cap hv=>k2 b (fun e=>h6 bc hS7.nc _ _ _ _ hv e.symm) (fun e=>h6 bp hS7.np _ _ _ _ hv e.symm)
     show apW S3 tyNo 3 64 v (.sl 3 [ntC t]) _
     refine LstN.app (Sub.emp S3) o3 (fun r hr=>by rw [List.mem_singleton.1 hr];exact q6g t) (q1t fun r hr=>by rw [List.mem_singleton.1 hr];exact ntC_ones t) (by simp only [List.length_map,List.length_singleton];omega) fun v' S4 j1 j2 j3=>?_
     have keep:∀ c,sget S1 c≠none→sget S4 c=sget S3 c∧q0x v' c:=fun c hc=>by
      obtain ⟨o,ho⟩:=dom3 c hc
      obtain ⟨u1,u2⟩:=j3 c o ho (h6 c hc)
      exact ⟨u1.trans ho.symm,u2⟩
     have g47:=(keep b7 (by rw [g7];simp)).1.trans g37
     have ho47:=objAt_some.2 g47
     have hv1:=j2.one
     obtain ⟨ha1,-⟩:=one_aC hv1
     (try simp only [rwp,zA,zB,zC,zD,zE,zF,zG,zH,zI,rwb,reduceIte,ho47,hv1,ha1])
     (simp (disch:=omega) only [q04])
     refine q08 rfl (hkk (i+1,w3,v',ks++[t]) _ ⟨by dsimp only;omega,by simp only [List.length_append,List.length_singleton];omega,?_,?_,?_,?_,?_,fun c hc=>(keep c hc).2,h7⟩ (by dsimp only;omega))
     ·exact (k1.mono (keep bc hS7.nc).1 (keep bp hS7.np).1 (keep bo hS7.no).1).upd n7 _
     ·refine OutS.supd (fun c o u1 u2 u3=>?_) (.inr (.inr hb7'))
      rw [(keep c (s1 c (by rw [u3];simp))).1]
      exact (h2.trans k2.s) c o u1 u2 u3
     ·rw [q01,if_neg d76,(keep b6 (by rw [g6];simp)).1]
      exact g36
     ·rw [q01,if_pos rfl]
     ·rw [List.map_append]
      exact LstN.upd j2 (keep b7 (by rw [g7];simp)).2 _
theorem c_xexpr (hX:XsOk E B bc bo bp) {node:NodeQ} (hnode:NodeOk E B bc bo bp node es) {o:Ob} (ho:OkO o):∀ (m:Nat) (e:Ex),mayE m e=true→fndE E.s o.ty m e=true→∀ (w:Nat) (S:q00),StX E B bc bo bp es w S →
  ACalls PG nrx126 [.ptr bc 0,.agg (obC o),.agg (exC e)] S (q65 E B bc bo bp es S (xeQ E node o m e w))
 | 0,e,hm,_,w,S,hS=>by cases hm
 | m+1,.mk k n ov ks,hm,hf,w,S,hS=>by
  have ih:=c_xexpr hX hnode ho m
  have hc:=q07 hS.c
  unfold mayE at hm
  unfold fndE at hf
  refine wx126 ?_
  unfold Bx126 xeQ
  (try simp only [rwp,zA,zB,zC,zD,zE,zF,zG,zH,zI,rwb,reduceIte,obC,q0d,Ex.kind,Ex.name,Ex.over,Ex.kids])
  intro b6 hb6
  have hS6:=hS.fresh hb6 (.cells tyNo [.str ⟨#[]⟩,.nils,.nils] 3)
  (refine q03 (fun k0=>?_) (fun k0=>?_)<;>(try simp only [hlc] at k0))
  ·rw [if_pos k0] at hf ⊢
   have hc6:=q07 hS6.c
   (try simp only [rwp,zA,zB,zC,zD,zE,zF,zG,zH,zI,rwb,reduceIte,hc6,xpC])
   have q:=q1q hX.s o.ty n (supd S b6 (.cells tyNo [.str ⟨#[]⟩,.nils,.nils] 3))
   simp only [scA] at q
   refine q0b q ?_
   rintro ae S' ⟨rfl,rfl⟩
   cases hq:q0l E.s o.ty n with
   | none=>rw [hq] at hf;cases hf
   | some p=>
    obtain ⟨i,j,r⟩:=p
    dsimp only
    (try simp only [rwp,zA,zB,zC,zD,zE,zF,zG,zH,zI,rwb,reduceIte,q0i])
    refine alst rfl ?_
    (try simp only [rwp,zA,zB,zC,zD,zE,zF,zG,zH,zI,rwb,reduceIte])
    have q:=hnode o r n i j ho hq w _ hS6
    simp only [obC,q0i] at q
    have:=q5n (q:=node o r w) rfl hS hb6 q
    exact this
  ·rw [if_neg k0] at hm hf ⊢
   (refine q03 (fun k1=>?_) (fun k1=>?_)<;>(try simp only [hlc] at k1))
   ·rw [if_pos k1] at hm ⊢
    simp only [Bool.and_eq_true] at hm
    have q:=c_xarrow (k:=k) (ka:=.sl 4 (ks.map exC)) hX hnode ho (nameB_bd hm.1) (nameB_bd hm.2.1) hS6
    simp only [obC] at q
    exact q5n rfl hS hb6 q
   ·rw [if_neg k1] at hm hf ⊢
    have hk:k=2∨k=3∨k=4:=by
     refine Classical.byContradiction fun hn=>?_
     rw [if_neg hn] at hm
     cases hm
    rw [if_pos hk] at hm
    obtain ⟨a,b,rfl⟩:∃ a b,ks=[a,b]:=by
     match ks,hm with
     | [a,b],_=>exact ⟨a,b,rfl⟩
     | [],hm=>cases hm
     | [_],hm=>cases hm
     | _ :: _ :: _ :: _,hm=>cases hm
    simp only [two,Bool.and_eq_true] at hm hf
    obtain ⟨ma,mb⟩:=hm
    obtain ⟨fa,fb⟩:=hf
    have q:=fun lb=>c_xboth (k:=k) (n:=n) (ov:=ov) (lb:=lb) hX (ih a ma fa) (ih b mb fb) hS6
    simp only [obC] at q
    rcases hk with rfl | rfl | rfl
    ·(try simp only [rwp,zA,zB,zC,zD,zE,zF,zG,zH,zI,rwb,reduceIte,hwR,reduceCtorEq,Int.reduceEq])
     simp only [← q3u]
     exact q5n rfl hS hb6 (q ⟨#[111,114]⟩)
    ·(try simp only [rwp,zA,zB,zC,zD,zE,zF,zG,zH,zI,rwb,reduceIte,hwR,reduceCtorEq,Int.reduceEq])
     simp only [← q3u]
     exact q5n rfl hS hb6 (q ⟨#[97,110,100]⟩)
    ·(try simp only [rwp,zA,zB,zC,zD,zE,zF,zG,zH,zI,rwb,reduceIte,hwR,reduceCtorEq,Int.reduceEq])
     simp only [← q3u]
     exact q5n rfl hS hb6 (q ⟨#[110,111,116]⟩)
end
end Go.HL
