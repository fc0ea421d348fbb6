/- A part of a proof. -/
import Derived.Test.YtadmdlpmikoghaaGreatKoM2
set_option maxRecDepth 4000
set_option linter.unusedSimpArgs false
set_option linter.unusedVariables false
namespace Go.HL
open List renaming mem_of_getElem?→lA,length_map→lB,getElem?_map→lC,length_cons→lD,map_append→lE,getElem?_eq_getElem→lF,length_append→lG,take_of_length_le→lH,mem_cons_of_mem→lI,length_filter_le→lK,length_nil→lL,length_singleton→lM,range'→lN,getElem?_of_mem→lO,mem_cons→lQ,nil_append→lR,mem_singleton→lS,mem_filter→lT,append_assoc→lW
open Nat renaming reduceAdd→zA,reduceLeDiff→zB,reduceLT→zC,reduceSub→zD,reduceMul→zE,reduceEqDiff→zF,reduceBEq→zG
open Int renaming reduceAdd→zH,reduceToNat→zI
theorem qad:∀ (vs cs:List AV) (off:Nat),off+vs.length<=cs.length->q1t cs off vs=cs.take off++(vs++cs.drop (off+vs.length))
 | [],cs,off,h=>by simp [q1t]
 | v :: r,cs,off,h=>by
  simp only [lD] at h;have ih:=qad r (cs.set off v) (off+1) (by rw [List.length_set];omega)
  show q1t (cs.set off v) (off+1) r=_;rw [ih];have hlt:off<cs.length:=by omega
  have e1:(cs.set off v).take (off+1)=cs.take off++[v]:=by
   rw [List.set_eq_take_append_cons_drop,if_pos hlt,List.take_append,List.length_take,Nat.min_eq_left (by omega)]
   have:off+1-off=1:=by omega
   rw [this,lH (by rw [List.length_take];omega)]
   rfl
  have e2:(cs.set off v).drop (off+1+r.length)=cs.drop (off+(v :: r).length):=by
   rw [List.drop_set_of_lt (by omega)]
   congr 1
   simp only [lD];omega
  rw [e1,e2,lW];rfl
section
variable {α:Type} {enc:α->List AV} {sz:Nat}
def upv (v:Nat->α) (i:Nat) (x:α):Nat->α:=fun k=>if k=i then x else v k
def fl (enc:α->List AV) (n:Nat) (v:Nat->α):List AV:=((vl n v).map enc).flatten
theorem y7k {v:Nat->α} {i j:Nat}:upv (upv v i (v j)) j (v i)=sw v i j:=rfl
theorem ybw (he:∀ x,(enc x).length=sz) {n:Nat} {v:Nat->α}:∀ r∈(vl n v).map enc,r.length=sz:=fun r hr=>by
 obtain ⟨x,-,rfl⟩:=List.mem_map.1 hr;exact he x
theorem q3o (he:∀ x,(enc x).length=sz) {n:Nat} {v:Nat->α}:(fl enc n v).length=n * sz:=by
 unfold fl;rw [q2i (ybw he),lB,q2d]
theorem yja {n k:Nat} {v:Nat->α}:vl (n+k) v=vl n v++(lN n k).map v:=by
 unfold vl;rw [<- lE,List.range_eq_range',List.range_eq_range']
 congr 1
 have:=List.range'_append (s:=0) (m:=n) (n:=k) (step:=1);rw [show 0+1 * n=n by omega] at this
 exact this.symm
theorem y57 {n:Nat} {v:Nat->α}:vl (n+1) v=vl n v++[v n]:=by rw [yja];rfl
theorem yev (he:∀ x,(enc x).length=sz) {n i:Nat} (hi:i<=n) {v:Nat->α}:∃ rest,fl enc n v=fl enc i v++rest:=by
 obtain ⟨k,rfl⟩:∃ k,n=i+k:=⟨n-i,by omega⟩
 refine ⟨(((lN i k).map v).map enc).flatten,?_⟩;unfold fl;rw [yja,lE,List.flatten_append]
theorem ybv (he:∀ x,(enc x).length=sz) {n i:Nat} (hi:i<=n) {v:Nat->α}:(fl enc n v).take (i * sz)=fl enc i v:=by
 obtain ⟨rest,e⟩:=yev (v:=v) he hi;rw [e,List.take_append_of_le_length (by rw [q3o he];exact Nat.le_refl _),lH (by rw [q3o he];exact Nat.le_refl _)]
theorem ym0 {n:Nat} {v:Nat->α}:fl enc (n+1) v=fl enc n v++enc (v n):=by
 unfold fl;rw [y57,lE,List.flatten_append];simp
theorem y6b (he:∀ x,(enc x).length=sz) {n i:Nat} (hi:i<n) {v:Nat->α}:∃ rest,(fl enc n v).drop (i * sz)=enc (v i)++rest:=by
 obtain ⟨rest,e⟩:=yev (v:=v) (i:=i+1) he hi;refine ⟨rest,?_⟩;rw [e,ym0,lW,List.drop_append_of_le_length (by rw [q3o he];exact Nat.le_refl _),List.drop_of_length_le (by rw [q3o he];exact Nat.le_refl _)]
 rfl
theorem x0s {n:Nat} {v w:Nat->α} (h:∀ i,i<n->v i=w i):fl enc n v=fl enc n w:=by
 unfold fl vl
 congr 2
 exact List.map_congr_left fun i hi=>h i (by simpa using hi)
theorem ybx (he:∀ x,(enc x).length=sz) {n i:Nat} (hi:i<n) {v:Nat->α} {x:α}:q1t (fl enc n v) (i * sz) (enc x)=fl enc n (upv v i x):=by
 have hle:i * sz+sz<=n * sz:=by
  calc i * sz+sz=(i+1) * sz:=by rw [Nat.succ_mul]
   _<=n * sz:=Nat.mul_le_mul_right _ hi
 rw [qad _ _ _ (by rw [he,q3o he];exact hle),ybv he (by omega),he]
 obtain ⟨k,rfl⟩:∃ k,n=i+1+k:=⟨n-(i+1),by omega⟩
 have e:∀ w:Nat->α,fl enc (i+1+k) w=fl enc i w++(enc (w i)++(((lN (i+1) k).map w).map enc).flatten):=by
  intro w;have:fl enc (i+1+k) w=fl enc (i+1) w++(((lN (i+1) k).map w).map enc).flatten:=by
   unfold fl;rw [yja,lE,List.flatten_append]
  rw [this,ym0,lW]
 rw [e v,e (upv v i x)];have e1:fl enc i (upv v i x)=fl enc i v:=x0s fun j hj=>if_neg (by omega)
 have e2:(lN (i+1) k).map (upv v i x)=(lN (i+1) k).map v:=List.map_congr_left fun j hj=>if_neg (by simp at hj;omega)
 have e3:upv v i x i=x:=if_pos rfl;rw [e1,e2,e3];have hd:∀ R:List AV,(fl enc i v++(enc (v i)++R)).drop (i * sz+sz)=R:=fun R=>by
  rw [<- lW,List.drop_left' (by rw [lG,q3o he,he])]
 rw [hd]
end
def OwnL {α:Type} (S0 S:q00) (t sz:Nat) (enc:α->List AV) (a:AV) (n:Nat) (v:Nat->α):Prop:=
 (a=.nils/\n=0)\/∃ b cap,a=.own b 0 n cap/\y01 S0 b=none/\y01 S b=some (.cells t (fl enc n v) (cap * sz))/\n<=cap/\cap<=maxLen
theorem OwnL.lstW {α:Type} {S0 S:q00} {t sz:Nat} {enc:α->List AV} (he:∀ x,(enc x).length=sz) {a:AV} {n:Nat} {v:Nat->α} (h:OwnL S0 S t sz enc a n v):LstW S0 S t sz a ((vl n v).map enc):=by
 refine ⟨ybw he,?_⟩;rcases h with ⟨rfl,rfl⟩ | ⟨b,cap,rfl,h1,h2,h3,h4⟩
 ·exact .inl ⟨rfl,rfl⟩
 ·refine .inr ⟨b,cap,_,?_,h1,h2,?_,?_,?_,h4⟩
  ·rw [lB,q2d]
  ·rw [lB,q2d,lH (by rw [q3o he];exact Nat.le_refl _)];rfl
  ·rw [lB,q2d,q3o he];exact Nat.le_refl _
  ·rw [lB,q2d];exact h3
def at' {α:Type} [Inhabited α] (l:List α):Nat->α:=fun i=>l.getD i default
theorem yj9 {α:Type} [Inhabited α] (l:List α):vl l.length (at' l)=l:=xff l default
instance:Inhabited Tu:=⟨⟨⟨⟨#[]⟩,⟨#[]⟩⟩,⟨#[]⟩,⟨⟨⟨#[]⟩,⟨#[]⟩⟩,⟨#[]⟩⟩⟩⟩
instance:Inhabited Ob:=⟨⟨⟨#[]⟩,⟨#[]⟩⟩⟩
theorem q2m (t:Tu):(tuC t).length=6:=rfl
theorem x1m {l:List Tu} (hb:l.length<=100000) (S:q00):ACalls PG yvm [.sl 6 (l.map tuC)] S fun ae S'=>∃ a,ae=.ret a/\Sub S S'/\OwnL S S' y7b 6 tuC a l.length (at' l):=by
 refine xf7 ?_;unfold xc7;have hfl:fl tuC l.length (at' l)=(l.map tuC).flatten:=by unfold fl;rw [yj9]
 have app:bsW S y7b 6 [] fun v5 S2=>apW S2 y7b 6 96 v5 (.sl 6 (l.map tuC)) fun v7 S1=>rtW [.tmp v7] (fun ae S'=>∃ a,ae=.ret a/\Sub S S'/\OwnL S S' y7b 6 tuC a l.length (at' l)) S1:=by
  refine ⟨trivial,fun b hb0=>?_⟩
  refine ⟨l.length,(l.map tuC).flatten,by simp [yay],q1u fun r hr=>by obtain ⟨t,-,rfl⟩:=List.mem_map.1 hr;rfl,?_⟩
  refine ⟨[],by rw [q01,if_pos rfl];rfl,Nat.le_refl _,Nat.zero_le _,by simp,by simp only [lL];omega,fun b' cap' k1 k2 k3=>?_⟩
  have hb':y01 S b'=none:=by
   rcases k1 with rfl | k1
   ·exact hb0
   ·rw [q01] at k1;split at k1
    ·cases k1
    ·exact k1
  refine q02 ⟨_,rfl,Sub.supd hb' (fun c o hc=>?_),.inr ⟨b',cap',by simp,hb',by rw [q01,if_pos rfl,hfl];simp,by simpa using k2,k3⟩⟩
  have hne:b≠c:=q0h hb0 hc;rw [q0b,if_neg hne,q01,if_neg hne];exact hc
 cases l with
 | nil=>exact ⟨q47 app,⟨fun _=>q02 ⟨_,rfl,Sub.refl _,.inl ⟨rfl,rfl⟩⟩,fun h=>by cases h⟩⟩
 | cons t r=>exact q47 app
section
variable {S0 S:q00} {a:AV} {n:Nat} {u:Nat->Tu} {g:Nat} {fi ca:List AV} {p:Tu->Bool}
theorem yrp (h:OwnL S0 S y7b 6 tuC a n u) (hb:n<=100000) (hp:∀ i,i<n->y02 PG g (fi++[.agg (tuC (u i))]++ca) (.bool (p (u i)))) :
  ACalls PG yut [a,.func (.func g) fi ca] S fun ae S'=>S'=S/\((ae=.ret (.int .i64 (-1))/\∀ i,i<n->p (u i)=false)\/∃ k:Nat,k<n/\ae=.ret (.int .i64 k)/\p (u k)=true/\∀ i,i<k->p (u i)=false):=by
 refine xe6 ?_;unfold xb6;have hl:=h.lstW q2m;rw [hl.ln,lB,q2d];refine LoopP.introS (fun i:Nat=>[(0,a),(1,.func (.func g) fi ca),(7,.int .i64 n),(8,.int .i64 i)]) (fun i S'=>S'=S/\i<=n/\∀ j,j<i->p (u j)=false) (fun i=>n-i) 0 ⟨rfl,by omega,fun j hj=>by omega⟩ rfl ?_
 rintro i S' ⟨rfl,hi,hno⟩ kk hkk;(try simp only [rwp,zA,zB,zC,zD,zE,zF,zG,zH,zI,rwb,reduceIte,yxc])
 (refine q03 (fun hlt=>?_) (fun hlt=>?_)<;>(try simp only [hlc] at hlt))
 ·have hin:i<n:=by omega
  rcases h with ⟨rfl,e⟩ | ⟨b,cap,rfl,h1,h2,h3,h4⟩
  ·omega
  ·have hc:=q07 (objAt_some.2 h2);obtain ⟨rest,hd⟩:=y6b (v:=u) q2m hin;rw [show tuC (u i)=[.str (u i).o.ty,.str (u i).o.id,.str (u i).rl,.str (u i).s.o.ty,.str (u i).s.o.id,.str (u i).s.rl] from rfl] at hd
   simp only [List.cons_append,lR] at hd;(try simp only [rwp,zA,zB,zC,zD,zE,zF,zG,zH,zI,rwb,reduceIte,hc,Int.toNat_natCast,Nat.zero_add,hd]);refine ⟨hlt,?_⟩;have q:=hp i hin;rw [show tuC (u i)=[.str (u i).o.ty,.str (u i).o.id,.str (u i).rl,.str (u i).s.o.ty,.str (u i).s.o.id,.str (u i).s.rl] from rfl] at q
   refine y97 q ?_;cases hq:p (u i)
   ·(try simp only [rwp,zA,zB,zC,zD,zE,zF,zG,zH,zI,rwb,reduceIte])
    (simp (disch:=omega) only [q04])
    refine q08 rfl (hkk (i+1) _ ⟨rfl,by omega,fun j hj=>?_⟩ (by omega))
    by_cases e:j=i
    ·rw [e];exact hq
    ·exact hno j (by omega)
   ·(try simp only [rwp,zA,zB,zC,zD,zE,zF,zG,zH,zI,rwb,reduceIte]);exact q02 ⟨rfl,.inr ⟨i,hin,rfl,hq,hno⟩⟩
 ·(try simp only [rwp,zA,zB,zC,zD,zE,zF,zG,zH,zI,rwb,reduceIte]);exact q02 ⟨rfl,.inl ⟨rfl,fun j hj=>hno j (by omega)⟩⟩
end
theorem y21 {α:Type} {p:α->Bool} {n:Nat} {u:Nat->α} (h:∀ i,i<n->p (u i)=true):(vl n u).filter p=vl n u:=by
 rw [List.filter_eq_self];intro x hx;obtain ⟨i,hi,rfl⟩:=List.mem_map.1 hx;exact h i (by simpa using hi)
theorem yn0 {S0 S:q00} {a:AV} {n:Nat} {u:Nat->Tu} {g:Nat} {fi ca:List AV} {p:Tu->Bool} (hs:Sub S0 S) (h:OwnL S0 S y7b 6 tuC a n u) (hb:n<=100000) (hp:∀ i,i<n->y02 PG g (fi++[.agg (tuC (u i))]++ca) (.bool (p (u i)))) :
  ACalls PG yvn [a,.func (.func g) fi ca] S fun ae S'=>∃ a',ae=.ret a'/\Sub S0 S'/\LstW S0 S' y7b 6 a' (((vl n u).filter fun t=>!p t).map tuC):=by
 refine xf8 ?_;unfold xc8;refine q0c (yrp h hb hp) ?_;rintro ae S' ⟨rfl,⟨rfl,hno⟩ | ⟨k,hk,rfl,hpk,hno⟩⟩
 ·dsimp only;(try simp only [rwp,zA,zB,zC,zD,zE,zF,zG,zH,zI,rwb,reduceIte]);refine q02 ⟨a,rfl,hs,?_⟩;rw [y21 (p:=fun t=>!p t) (n:=n) (u:=u) fun i hi=>by simp [hno i hi]]
  exact h.lstW q2m
 ·rcases h with ⟨rfl,e⟩ | ⟨b,cap,rfl,h1,h2,h3,h4⟩
  ·omega
  ·dsimp only;(try simp only [rwp,zA,zB,zC,zD,zE,zF,zG,zH,zI,rwb,reduceIte]);rw [decide_eq_false (show ¬ (k:Int)=-1 by omega)]
   (try simp only [rwp,zA,zB,zC,zD,zE,zF,zG,zH,zI,rwb,reduceIte])
   (simp (disch:=omega) only [q04])
   refine LoopP.introS (fun x:Nat×Nat=>[(0,.own b 0 n cap),(1,.func (.func g) fi ca),(5,.int .i64 x.1),(6,.int .i64 x.2)])
    (fun x S2=>x.1<x.2/\x.2<=n/\∃ v,S2=supd S' b (.cells y7b (fl tuC n v) (cap * 6))/\vl x.1 v=(vl x.2 u).filter (fun t=>!p t)/\∀ i,x.2<=i->v i=u i) (fun x=>n-x.2) (k,k+1)
    ⟨by dsimp only;omega,by dsimp only;omega,u,?_,?_,fun _ _=>rfl⟩ rfl ?_
   ·funext c
    unfold supd;split
    ·rename_i e;subst e;exact h2
    ·rfl
   ·dsimp only;rw [y57,List.filter_append,y21 (p:=fun t=>!p t) (n:=k) (u:=u) fun i hi=>by simp [hno i hi]]
    simp [hpk]
   ·rintro ⟨i,j⟩ S2 ⟨hij,hj,v,rfl,hv,hr⟩ kk hkk;dsimp only at hij hj hv hr ⊢;(try simp only [rwp,zA,zB,zC,zD,zE,zF,zG,zH,zI,rwb,reduceIte,yxx]);have ho:q0m (supd S' b (.cells y7b (fl tuC n v) (cap * 6))) b=some (y7b,fl tuC n v,cap * 6):=q0l;have hc:=q07 ho
    (refine q03 (fun hlt=>?_) (fun hlt=>?_)<;>(try simp only [hlc] at hlt))
    ·have hjn:j<n:=by omega
     obtain ⟨rest,hd⟩:=y6b (v:=v) q2m hjn;rw [hr j (Nat.le_refl _)] at hd;have ec:tuC (u j)=[.str (u j).o.ty,.str (u j).o.id,.str (u j).rl,.str (u j).s.o.ty,.str (u j).s.o.id,.str (u j).s.rl]:=rfl;rw [ec] at hd;simp only [List.cons_append,lR] at hd;(try simp only [rwp,zA,zB,zC,zD,zE,zF,zG,zH,zI,rwb,reduceIte,hc,Int.toNat_natCast,Nat.zero_add,hd]);refine ⟨hlt,?_⟩;have q:=hp j hjn;rw [ec] at q;refine y97 q ?_;have fs:(vl (j+1) u).filter (fun t=>!p t)=(vl j u).filter (fun t=>!p t)++if p (u j) then [] else [u j]:=by
      rw [y57,List.filter_append]
      congr 1
      cases hq:p (u j)<;>simp [hq]
     cases hq:p (u j)
     ·rw [hq] at fs;have ff:=ybx (v:=v) (x:=u j) q2m (show i<n by omega)
      rw [ec] at ff;(try simp only [rwp,zA,zB,zC,zD,zE,zF,zG,zH,zI,rwb,reduceIte,ho,Int.toNat_natCast,Nat.zero_add,ff]);refine ⟨by omega,?_⟩
      have fits:i * 6+6<=(fl tuC n v).length:=by rw [q3o q2m];omega
      (simp (disch:=omega) only [q04])
      (try simp only [rwp,zA,zB,zC,zD,zE,zF,zG,zH,zI,rwb,reduceIte,fits,q1b]);refine q08 rfl (hkk (i+1,j+1) _ ⟨by dsimp only;omega,by dsimp only;omega,upv v i (u j),rfl,?_,fun m hm=>?_⟩ (by dsimp only;omega))
      ·dsimp only;rw [fs,<- hv,y57];have e1:vl i (upv v i (u j))=vl i v:=by unfold vl;exact List.map_congr_left fun m hm=>if_neg (by simp at hm;omega)
       rw [e1]
       congr 1
       rw [show upv v i (u j) i=u j from if_pos rfl]
       rfl
      ·dsimp only at hm ⊢;rw [show upv v i (u j) m=v m from if_neg (by omega)]
       exact hr m (by omega)
     ·rw [hq] at fs;(try simp only [rwp,zA,zB,zC,zD,zE,zF,zG,zH,zI,rwb,reduceIte])
      (simp (disch:=omega) only [q04])
      refine q08 rfl (hkk (i,j+1) _ ⟨by dsimp only;omega,by dsimp only;omega,v,rfl,?_,fun m hm=>hr m (by dsimp only at hm;omega)⟩ (by dsimp only;omega))
      dsimp only;rw [fs,hv];simp
    ·have e:j=n:=by omega
     subst e;(try simp only [rwp,zA,zB,zC,zD,zE,zF,zG,zH,zI,rwb,reduceIte,loI,hiI,yi4]);refine ⟨by omega,by omega,⟨y7b,fl tuC j v,cap * 6,by rw [q01,if_pos rfl],?_,rfl,rfl,?_⟩⟩
     ·rw [q3o q2m];split
      ·omega
      ·omega
     ·refine ⟨Int.le_refl 0,by omega,?_⟩
      rw [show AV.own b (if cap=0 then 0 else 0) (i-0) (cap-0)=.own b 0 i cap by simp,q1b,<- hv]
      refine q02 ⟨_,rfl,Sub.supd h1 hs,ybw q2m,.inr ⟨b,cap,_,by rw [lB,q2d],h1,by rw [q01,if_pos rfl],?_,?_,by rw [lB,q2d];omega,h4⟩⟩
      ·rw [lB,q2d];split
       ·rename_i e
        have ej:j-i=0:=by omega
        rw [ej];exact ybv q2m (by omega)
       ·rw [qad _ _ _ (by rw [qa6,q3o q2m];simp only [lD,lL];omega),List.take_append_of_le_length (by rw [List.length_take,q3o q2m];omega),List.take_take,Nat.min_self]
        exact ybv q2m (by omega)
      ·rw [lB,q2d];split
       ·rename_i e
        have ej:j-i=0:=by omega
        rw [ej]
        show i * 6<=(fl tuC j v).length;rw [q3o q2m];omega
       ·rw [qad _ _ _ (by rw [qa6,q3o q2m];simp only [lD,lL];omega)]
        simp only [lG,List.length_take,q3o q2m];omega
set_option maxRecDepth 4000
set_option maxRecDepth 4000
abbrev q8m:Nat:=178
abbrev y0c:Nat:=27
def wC (s:List Ty) (L:List Tu) (tv:AV) (who:Ob) (kv:AV):List AV:=[.sl 2 (s.map tyC),.sl 6 (L.map tuC),tv,.str who.ty,.str who.id,kv]
structure W14 (s:List Ty) (L:List Tu) (who:Ob) (bw:Nat) (S0:q00) (T:List Ob) (K:List Nd) (S:q00):Prop where
 ex:∃ tv kv,q0m S bw=some (q8m,wC s L tv who kv,6)/\LstW S0 S y0c 2 tv (T.map obC)/\LstW S0 S xju 3 kv (K.map ndC)/\q0v tv bw/\q0v kv bw/\∀ b off n cap,tv=.own b off n cap->q0v kv b
 sub:Sub S0 S
 nb:y01 S0 bw=none
 lk:K.length<=1000000
 lt:T.length<=1000000
theorem yi3 {cs:List AV} {p:Nat} {a b c:AV} (h:(cs.drop p).take 3=[a,b,c]):∃ rest,cs.drop p=a :: b :: c :: rest/\cs.drop (p+2)=c :: rest:=by
 refine ⟨(cs.drop p).drop 3,?_,?_⟩
 ·have:=List.take_append_drop 3 (cs.drop p);rw [h] at this;exact this.symm
 ·have:=List.take_append_drop 3 (cs.drop p);rw [h] at this;rw [<- List.drop_drop,<- this];rfl
theorem y6i {cs:List AV} {p:Nat} {a b:AV} (h:(cs.drop p).take 2=[a,b]):∃ rest,cs.drop p=a :: b :: rest:=by
 refine ⟨(cs.drop p).drop 2,?_⟩;have:=List.take_append_drop 2 (cs.drop p);rw [h] at this;exact this.symm
theorem q7m {a b:Ob}:decide (a=b)=(decide (a.ty=b.ty)&&decide (a.id=b.id)):=by
 rw [Bool.eq_iff_iff];cases a;cases b;simp
section
variable {s:List Ty} {L:List Tu} {who:Ob} {bw:Nat} {S0 S:q00} {T:List Ob} {K:List Nd}
theorem q62 (h:W14 s L who bw S0 T K S) (n:Nd):AFunS PG x5s [.ptr bw 0,.agg (obC n.o),.str n.rl] S (.bool (decide (n∈K))):=by
 refine xj4 ?_;unfold xhg;(try simp only [rwp,zA,zB,zC,zD,zE,zF,zG,zH,zI,rwb,reduceIte,obC]);obtain ⟨tv,kv,ho,ht,hk,hta,hka,hap⟩:=h.ex;have hlk:=h.lk;have hc:=q07 ho;refine LoopP.introS (fun i:Nat=>[(0,.ptr bw 0),(2,.str n.rl),(4,.rop [.str n.o.ty,.str n.o.id]),(7,.int .i64 i)]) (fun i S'=>S'=S/\i<=K.length/\∀ (j:Nat) (m:Nd),j<i->K[j]?=some m->¬ m=n) (fun i=>K.length-i) 0 ⟨rfl,by omega,fun j m hj=>by omega⟩ rfl ?_
 rintro i S' ⟨rfl,hi,hno⟩ kk hkk;(try simp only [rwp,zA,zB,zC,zD,zE,zF,zG,zH,zI,rwb,reduceIte,x99,hc,wC,hk.ln,lB])
 (refine q03 (fun hlt=>?_) (fun hlt=>?_)<;>(try simp only [hlc] at hlt))
 ·obtain ⟨m,hm⟩:=q0e hlt;obtain ⟨b1,cap,cs,rfl,hcs,hrow,hle⟩:=hk.get (i:=i) (r:=ndC m) (by rw [lC,hm];rfl)
  (try simp only [rwp,zA,zB,zC,zD,zE,zF,zG,zH,zI,rwb,reduceIte,hc,wC,hcs,lB,Int.toNat_natCast,Nat.zero_add]);obtain ⟨rest,hd1,hd2⟩:=yi3 (hrow.trans (show ndC m=[.str m.o.ty,.str m.o.id,.str m.rl] from rfl))
  (try simp only [rwp,zA,zB,zC,zD,zE,zF,zG,zH,zI,rwb,reduceIte,hd1,hd2]);refine ⟨hlt,?_⟩;have hnd:decide (m=n)=(decide (m.o.ty=n.o.ty)&&decide (m.o.id=n.o.id)&&decide (m.rl=n.rl)):=by
   rw [Bool.eq_iff_iff];obtain ⟨⟨a,b⟩,c⟩:=m;obtain ⟨⟨d,e⟩,f⟩:=n;simp
  have no:decide (m=n)=false->rcW kk [(0,.ptr bw 0),(2,.str n.rl),(4,.rop [.str n.o.ty,.str n.o.id]),(7,.int .i64 (IntKind.i64.wrap (↑i+1)))] S':=fun hq=>by
   (simp (disch:=omega) only [q04])
   refine q08 rfl (hkk (i+1) _ ⟨rfl,by omega,fun j u hj hu=>?_⟩ (by omega))
   rcases Nat.lt_succ_iff_lt_or_eq.1 hj with h1 | rfl
   ·exact hno j u h1 hu
   ·rw [hm] at hu;cases hu;exact of_decide_eq_false hq
  cases a1:(decide (m.o.ty=n.o.ty)&&decide (m.o.id=n.o.id))
  ·rw [a1] at hnd;(try simp only [rwp,zA,zB,zC,zD,zE,zF,zG,zH,zI,rwb,reduceIte]);exact no hnd
  ·rw [a1] at hnd;(try simp only [rwp,zA,zB,zC,zD,zE,zF,zG,zH,zI,rwb,reduceIte]);refine ⟨hlt,?_⟩;cases a2:decide (m.rl=n.rl)
   ·rw [a2] at hnd;(try simp only [rwp,zA,zB,zC,zD,zE,zF,zG,zH,zI,rwb,reduceIte]);exact no hnd
   ·rw [a2] at hnd;(try simp only [rwp,zA,zB,zC,zD,zE,zF,zG,zH,zI,rwb,reduceIte]);have e:=of_decide_eq_true hnd;subst e;exact q02 ⟨by rw [decide_eq_true (lA hm)],rfl⟩
 ·(try simp only [rwp,zA,zB,zC,zD,zE,zF,zG,zH,zI,rwb,reduceIte]);refine q02 ⟨?_,rfl⟩;rw [decide_eq_false];intro hn;obtain ⟨j,hj⟩:=lO hn;have:=(List.getElem?_eq_some_iff.1 hj).1;exact hno j n (by omega) hj rfl
def y0p (s:List Ty) (L:List Tu) (who:Ob):q1k:=⟨s,fun n=>(ofF L n).map Tu.s,who⟩
theorem ywc {L:List Tu} {n:Nd} {q:Nd->Bool}:((ofF L n).map Tu.s).any q=L.any fun t=>(decide (t.o=n.o)&&decide (t.rl=n.rl))&&q t.s:=by
 unfold ofF;rw [List.any_map,List.any_filter];rfl
theorem yfn {α:Type} {p:α->Bool} {l:List α} {i:Nat} {x:α} (h:l[i]?=some x) (h0:(l.take i).any p=false):(l.take (i+1)).any p=p x:=by
 rw [q0w h,List.any_append,h0];simp
theorem yna {α:Type} {p:α->Bool} {l:List α} {i:Nat} {x:α} (h:l[i]?=some x) (hp:p x=true):l.any p=true:=List.any_eq_true.2 ⟨x,lA h,hp⟩
theorem yfe (hL:OkL L) (h:W14 s L who bw S0 T K S) (o:Ob):∀ (m:Nat) (e:Ex),y0d m e=true->AFunS PG yu0 [.ptr bw 0,.agg (obC o),.agg (exC e)] S (.bool (exB (y0p s L who) (fun c=>decide (c∈K)) o m e))
 | 0,e,hm=>by cases hm
 | m+1,.mk k n ov ks,hm=>by
  have ih:=yfe hL h o m;obtain ⟨tv,kv,ho,ht,hk,hta,hka,hap⟩:=h.ex;have hlL:=hL.n;have hc:=q07 ho;refine xdb ?_;unfold xab exB;unfold y0d at hm;(try simp only [rwp,zA,zB,zC,zD,zE,zF,zG,zH,zI,rwb,reduceIte,obC,q0f,Ex.kind,Ex.name,Ex.over,Ex.kids])
  (refine q03 (fun k0=>?_) (fun k0=>?_)<;>(try simp only [hlc] at k0))
  ·rw [if_pos k0];have q:=q62 h ⟨o,n⟩;simp only [obC] at q;refine q1a q ?_;exact q02 ⟨rfl,rfl⟩
  ·rw [if_neg k0] at hm ⊢
   (refine q03 (fun k1=>?_) (fun k1=>?_)<;>(try simp only [hlc] at k1))
   ·rw [if_pos k1];rw [show (y0p s L who).of ⟨o,n⟩=(ofF L ⟨o,n⟩).map Tu.s from rfl,ywc]
    generalize hp:(fun t:Tu=>(decide (t.o=o)&&decide (t.rl=n))&&(decide (t.s.rl=⟨#[]⟩)&&decide ((⟨t.s.o,ov⟩:Nd)∈K)))=p
    refine LoopP.introS (fun i:Nat=>[(0,.ptr bw 0),(4,.rop [.str o.ty,.str o.id]),(5,.rop [.int .i64 k,.str n,.str ov,.sl 4 (ks.map exC)]),(7,.int .i64 i)]) (fun i S'=>S'=S/\i<=L.length/\(L.take i).any p=false) (fun i=>L.length-i) 0 ⟨rfl,by omega,by simp⟩ rfl ?_
    rintro i S' ⟨rfl,hi,hno⟩ kk hkk;(try simp only [rwp,zA,zB,zC,zD,zE,zF,zG,zH,zI,rwb,reduceIte,ywn,hc,wC,lB])
    (refine q03 (fun hlt=>?_) (fun hlt=>?_)<;>(try simp only [hlc] at hlt))
    ·obtain ⟨t,hg⟩:=q0e hlt;(try simp only [rwp,zA,zB,zC,zD,zE,zF,zG,zH,zI,rwb,reduceIte,lC,hg,tuC]);have q:=q62 h ⟨t.s.o,ov⟩;simp only [obC] at q;refine q1a q ?_;have hx:p t=((decide (t.o.ty=o.ty)&&decide (t.o.id=o.id))&&decide (t.rl=n)&&(decide (t.s.rl=⟨#[]⟩)&&decide ((⟨t.s.o,ov⟩:Nd)∈K))):=by rw [<- hp,<- q7m]
     have no:p t=false->rcW kk [(0,.ptr bw 0),(4,.rop [.str o.ty,.str o.id]),(5,.rop [.int .i64 k,.str n,.str ov,.sl 4 (ks.map exC)]),(7,.int .i64 (IntKind.i64.wrap (↑i+1)))] S':=fun hq=>by
      (simp (disch:=omega) only [q04])
      exact q08 rfl (hkk (i+1) _ ⟨rfl,by omega,by rw [yfn hg hno,hq]⟩ (by omega))
     have yes:p t=true->rtW [.tmp (.bool true)] (fun ae S'_1=>ae=AEnd.ret (AV.bool (L.any p))/\S'_1=S') S':=fun hq=>q02 ⟨by rw [yna hg hq],rfl⟩
     (try simp only [rwp,zA,zB,zC,zD,zE,zF,zG,zH,zI,rwb,reduceIte,yod]);cases g1:(decide (t.o.ty=o.ty)&&decide (t.o.id=o.id)&&decide (t.rl=n))
     ·rw [g1] at hx;(try simp only [rwp,zA,zB,zC,zD,zE,zF,zG,zH,zI,rwb,reduceIte,ya9]);exact no hx
     ·rw [g1] at hx;(try simp only [rwp,zA,zB,zC,zD,zE,zF,zG,zH,zI,rwb,reduceIte]);cases g2:decide (t.s.rl=⟨#[]⟩)
      ·rw [g2] at hx;(try simp only [rwp,zA,zB,zC,zD,zE,zF,zG,zH,zI,rwb,reduceIte,ya9]);exact no hx
      ·rw [g2] at hx;(try simp only [rwp,zA,zB,zC,zD,zE,zF,zG,zH,zI,rwb,reduceIte,ya9]);cases g3:decide ((⟨t.s.o,ov⟩:Nd)∈K)
       ·rw [g3] at hx;(try simp only [rwp,zA,zB,zC,zD,zE,zF,zG,zH,zI,rwb,reduceIte]);exact no hx
       ·rw [g3] at hx;(try simp only [rwp,zA,zB,zC,zD,zE,zF,zG,zH,zI,rwb,reduceIte]);exact yes hx
    ·have e:L.take i=L:=lH (by omega)
     rw [e] at hno;(try simp only [rwp,zA,zB,zC,zD,zE,zF,zG,zH,zI,rwb,reduceIte]);exact q02 ⟨by rw [hno],rfl⟩
   ·rw [if_neg k1] at hm ⊢;have k234:k=2\/k=3\/k=4:=by
     refine Classical.byContradiction fun hn=>?_
     rw [if_neg hn] at hm;cases hm
    rw [if_pos k234] at hm;obtain ⟨a,b,rfl⟩:∃ a b,ks=[a,b]:=by
     match ks,hm with
     | [a,b],_=>exact ⟨a,b,rfl⟩
     | [],hm=>cases hm
     | [_],hm=>cases hm
     | _ :: _ :: _ :: _,hm=>cases hm
    simp only [two,Bool.and_eq_true] at hm;have ha:=ih a hm.1;have hb:=ih b hm.2;dsimp only;generalize exB (y0p s L who) (fun c=>decide (c∈K)) o m a=va at ha ⊢
    generalize exB (y0p s L who) (fun c=>decide (c∈K)) o m b=vb at hb ⊢
    obtain ⟨ka,na,oa,ksa⟩:=a;obtain ⟨kb,nb,ob,ksb⟩:=b;simp only [obC,q0f,Ex.kind,Ex.name,Ex.over,Ex.kids] at ha hb;(try simp only [rwp,zA,zB,zC,zD,zE,zF,zG,zH,zI,rwb,reduceIte,q0f,Ex.kind,Ex.name,Ex.over,Ex.kids,List.getElem?_cons_zero,List.getElem?_cons_succ,Option.map_some]);refine q1a ha ?_;(try simp only [rwp,zA,zB,zC,zD,zE,zF,zG,zH,zI,rwb,reduceIte,q0f,Ex.kind,Ex.name,Ex.over,Ex.kids,List.getElem?_cons_zero,List.getElem?_cons_succ,Option.map_some]);refine q1a hb ?_;rcases k234 with rfl | rfl | rfl<;>cases va<;>cases vb<;>(try simp only [rwp,zA,zB,zC,zD,zE,zF,zG,zH,zI,rwb,reduceIte,Int.reduceEq])<;>exact q02 ⟨rfl,rfl⟩
theorem yi9 (hL:OkL L) (h:W14 s L who bw S0 T K S) (n:Nd) (r:Rl) (hr:OkR r) (hn:r.name=n.rl) (hm:r.refs.length=0->y0d 12 r.ex=true):AFunS PG yuu [.ptr bw 0,.agg (obC n.o),.agg (rlC r)] S (.bool (q3f (y0p s L who) (fun c=>decide (c∈K)) n r)):=by
 obtain ⟨tv,kv,ho,ht,hk,hta,hka,hap⟩:=h.ex;have hlL:=hL.n;have hc:=q07 ho;refine xe7 ?_;unfold xb7 q3f;(try simp only [rwp,zA,zB,zC,zD,zE,zF,zG,zH,zI,rwb,reduceIte,obC,q0k,hn]);cases a1:decide ((r.refs.length:Int)=0)
 ·have h0:¬ r.refs.length=0:=by have:=of_decide_eq_false a1;omega
  rw [if_neg h0];rw [show (y0p s L who).of n=(ofF L n).map Tu.s from rfl,ywc,show (y0p s L who).who=who from rfl]
  generalize hp:(fun t:Tu=>(decide (t.o=n.o)&&decide (t.rl=n.rl))&&(if t.s.rl=⟨#[]⟩ then decide (t.s.o=who) else decide (t.s∈K)))=p
  (try simp only [rwp,zA,zB,zC,zD,zE,zF,zG,zH,zI,rwb,reduceIte]);refine LoopP.introS (fun i:Nat=>[(0,.ptr bw 0),(4,.rop [.str n.o.ty,.str n.o.id]),(5,.rop [.str n.rl,.sl 2 (r.refs.map rfC),.int .i64 r.ex.kind,.str r.ex.name,.str r.ex.over,.sl 4 (r.ex.kids.map exC)]),(7,.int .i64 i)]) (fun i S'=>S'=S/\i<=L.length/\(L.take i).any p=false) (fun i=>L.length-i) 0 ⟨rfl,by omega,by simp⟩ rfl ?_
  rintro i S' ⟨rfl,hi,hno⟩ kk hkk;(try simp only [rwp,zA,zB,zC,zD,zE,zF,zG,zH,zI,rwb,reduceIte,yxd,hc,wC,lB])
  (refine q03 (fun hlt=>?_) (fun hlt=>?_)<;>(try simp only [hlc] at hlt))
  ·obtain ⟨t,hg⟩:=q0e hlt;have hx:p t=((decide (t.o.ty=n.o.ty)&&decide (t.o.id=n.o.id))&&decide (t.rl=n.rl)&&(if t.s.rl=⟨#[]⟩ then (decide (t.s.o.ty=who.ty)&&decide (t.s.o.id=who.id)) else decide (t.s∈K))):=by rw [<- hp,<- q7m,<- q7m]
   have no:p t=false->rcW kk [(0,.ptr bw 0),(4,.rop [.str n.o.ty,.str n.o.id]),(5,.rop [.str n.rl,.sl 2 (r.refs.map rfC),.int .i64 r.ex.kind,.str r.ex.name,.str r.ex.over,.sl 4 (r.ex.kids.map exC)]),(7,.int .i64 (IntKind.i64.wrap (↑i+1)))] S':=fun hq=>by
    (simp (disch:=omega) only [q04])
    exact q08 rfl (hkk (i+1) _ ⟨rfl,by omega,by rw [yfn hg hno,hq]⟩ (by omega))
   have yes:p t=true->rtW [.tmp (.bool true)] (fun ae S'_1=>ae=AEnd.ret (AV.bool (L.any p))/\S'_1=S') S':=fun hq=>q02 ⟨by rw [yna hg hq],rfl⟩
   have q:=q62 h t.s;simp only [obC] at q;(try simp only [rwp,zA,zB,zC,zD,zE,zF,zG,zH,zI,rwb,reduceIte,lC,hg,tuC]);cases g1:(decide (t.o.ty=n.o.ty)&&decide (t.o.id=n.o.id))<;>cases g2:decide (t.rl=n.rl)<;>rw [g1,g2] at hx
   ·(try simp only [rwp,zA,zB,zC,zD,zE,zF,zG,zH,zI,rwb,reduceIte,y51]);exact no hx
   ·(try simp only [rwp,zA,zB,zC,zD,zE,zF,zG,zH,zI,rwb,reduceIte,y51]);exact no hx
   ·(try simp only [rwp,zA,zB,zC,zD,zE,zF,zG,zH,zI,rwb,reduceIte,y51]);exact no hx
   ·(try simp only [rwp,zA,zB,zC,zD,zE,zF,zG,zH,zI,rwb,reduceIte,y51]);cases g3:decide (t.s.rl=⟨#[]⟩)
    ·have g3':=of_decide_eq_false g3;rw [if_neg g3'] at hx;(try simp only [rwp,zA,zB,zC,zD,zE,zF,zG,zH,zI,rwb,reduceIte,yal]);refine q1a q ?_;cases g4:decide (t.s∈K)
     ·rw [g4] at hx;(try simp only [rwp,zA,zB,zC,zD,zE,zF,zG,zH,zI,rwb,reduceIte,g3]);exact no hx
     ·rw [g4] at hx;(try simp only [rwp,zA,zB,zC,zD,zE,zF,zG,zH,zI,rwb,reduceIte,g3]);exact yes hx
    ·have g3':=of_decide_eq_true g3;rw [if_pos g3'] at hx;(try simp only [rwp,zA,zB,zC,zD,zE,zF,zG,zH,zI,rwb,reduceIte,hc,wC]);cases g4:(decide (t.s.o.ty=who.ty)&&decide (t.s.o.id=who.id))
     ·rw [g4] at hx;(try simp only [rwp,zA,zB,zC,zD,zE,zF,zG,zH,zI,rwb,reduceIte,yal]);refine q1a q ?_;(try simp only [rwp,zA,zB,zC,zD,zE,zF,zG,zH,zI,rwb,reduceIte,g3]);exact no hx
     ·rw [g4] at hx;(try simp only [rwp,zA,zB,zC,zD,zE,zF,zG,zH,zI,rwb,reduceIte,yal]);exact yes hx
  ·have e:L.take i=L:=lH (by omega)
   rw [e] at hno;(try simp only [rwp,zA,zB,zC,zD,zE,zF,zG,zH,zI,rwb,reduceIte]);exact q02 ⟨by rw [hno],rfl⟩
 ·have h0:r.refs.length=0:=by have:=of_decide_eq_true a1;omega
  rw [if_pos h0];have q:=yfe hL h n.o 12 r.ex (hm h0);generalize r.ex=e at q ⊢;obtain ⟨ka,na,oa,ksa⟩:=e;simp only [obC,q0f,Ex.kind,Ex.name,Ex.over,Ex.kids] at q ⊢;(try simp only [rwp,zA,zB,zC,zD,zE,zF,zG,zH,zI,rwb,reduceIte]);refine q1a q ?_;exact q02 ⟨rfl,rfl⟩
end
set_option maxRecDepth 4000
def yst (T:List Ob) (o:Ob):List Ob:=if o∈T then T else T++[o]
theorem x1h {S0 S:q00} {tv:AV} {T:List Ob} (hs:Sub S0 S) (ht:LstW S0 S y0c 2 tv (T.map obC)) (hl:T.length<=1000000) (o:Ob) :
  ACalls PG ykm [tv,.agg (obC o)] S fun ae S'=>∃ tv',ae=.ret tv'/\LstW S0 S' y0c 2 tv' ((yst T o).map obC)/\Sub S0 S'/\∀ c x,y01 S c=some x->q0v tv c->y01 S' c=some x/\q0v tv' c:=by
 refine xfa ?_;unfold xca;(try simp only [rwp,zA,zB,zC,zD,zE,zF,zG,zH,zI,rwb,reduceIte,obC]);refine LoopP.introS (fun i:Nat=>[(0,tv),(3,.rop [.str o.ty,.str o.id]),(5,.int .i64 i)]) (fun i S'=>S'=S/\i<=T.length/\∀ (j:Nat) (m:Ob),j<i->T[j]?=some m->¬ m=o) (fun i=>T.length-i) 0 ⟨rfl,by omega,fun j m hj=>by omega⟩ rfl ?_
 rintro i S' ⟨rfl,hi,hno⟩ kk hkk;(try simp only [rwp,zA,zB,zC,zD,zE,zF,zG,zH,zI,rwb,reduceIte,yy1,ht.ln,lB])
 (refine q03 (fun hlt=>?_) (fun hlt=>?_)<;>(try simp only [hlc] at hlt))
 ·obtain ⟨m,hm⟩:=q0e hlt;obtain ⟨b1,cap,cs,rfl,hcs,hrow,hle⟩:=ht.get (i:=i) (r:=obC m) (by rw [lC,hm];rfl)
  simp only [lB] at hkk ht;(try simp only [rwp,zA,zB,zC,zD,zE,zF,zG,zH,zI,rwb,reduceIte,hcs,lB,Int.toNat_natCast,Nat.zero_add]);obtain ⟨rest,hd1⟩:=y6i (hrow.trans (show obC m=[.str m.ty,.str m.id] from rfl))
  (try simp only [rwp,zA,zB,zC,zD,zE,zF,zG,zH,zI,rwb,reduceIte,hd1]);refine ⟨hlt,?_⟩;have hnd:=x4y m o;cases a1:(decide (m.ty=o.ty)&&decide (m.id=o.id))
  ·rw [a1] at hnd;(try simp only [rwp,zA,zB,zC,zD,zE,zF,zG,zH,zI,rwb,reduceIte])
   (simp (disch:=omega) only [q04])
   refine q08 rfl (hkk (i+1) _ ⟨rfl,by omega,fun j u hj hu=>?_⟩ (by omega))
   rcases Nat.lt_succ_iff_lt_or_eq.1 hj with h1 | rfl
   ·exact hno j u h1 hu
   ·rw [hm] at hu;cases hu;exact of_decide_eq_false hnd
  ·rw [a1] at hnd;have e:=of_decide_eq_true hnd;subst e;(try simp only [rwp,zA,zB,zC,zD,zE,zF,zG,zH,zI,rwb,reduceIte]);refine q02 ⟨_,rfl,?_,hs,fun c x hc ha=>⟨hc,ha⟩⟩
   rw [yst,if_pos (lA hm)];exact ht
 ·have hn:o ∉ T:=by
   intro hn;obtain ⟨j,hj⟩:=lO hn;have:=(List.getElem?_eq_some_iff.1 hj).1;exact hno j o (by omega) hj rfl
  (try simp only [rwp,zA,zB,zC,zD,zE,zF,zG,zH,zI,rwb,reduceIte]);refine LstW.app hs ht (x:=[.str o.ty,.str o.id]) rfl rfl (by simp only [lB];omega) fun tv' S2 h1 h2 h3=>?_
  refine q02 ⟨tv',rfl,?_,h1,h3⟩;rw [yst,if_neg hn,lE];exact h2
theorem ylw {s:List Ty} (hg:GoodS s) {i k:Nat} {t:Ty} {r:Rl} (ht:s[i]?=some t) (hr:t.rels[k]?=some r):q0d s t.name r.name=some (i,k,r):=by
 have h1:=hg.once ht hr;unfold fiN at h1;simp only [Prod.mk.injEq] at h1;obtain ⟨e1,e2⟩:=h1;have ty:y05 s t.name=some i:=by
  cases hq:y05 s t.name with
  | none=>
   have:=firstI_none.1 hq i t ht;simp at this
  | some i'=>rw [hq] at e1;exact congrArg some e1
 have rl:q4n t.rels r.name=some k:=by
  cases hq:q4n t.rels r.name with
  | none=>
   have:=firstI_none.1 hq k r hr;simp at this
  | some k'=>
   rw [ty] at e2;unfold y5r at e2;simp only [Option.bind_some,ht,hq,Option.getD_some] at e2;rw [e2]
 unfold q0d;rw [ty];dsimp only;rw [ht];dsimp only;rw [rl];dsimp only;rw [hr];rfl
theorem x4i {s:List Ty} {L:List Tu} {who:Ob} {tv kv v:AV} {S:q00} {b:Nat} {KT:q00->Prop} (h:one v=true):soW (some (q8m,wC s L tv who kv,6)) S 1 b 5 v KT=KT (supd S b (.cells q8m (wC s L tv who v) 6)):=by
 have h1:=(y3n h).1;simp [soW,wC,h1,y09,h,q1t]
theorem yta {s:List Ty} {L:List Tu} {who:Ob} {tv kv v:AV} {S:q00} {b:Nat} {KT:q00->Prop} (h:one v=true):soW (some (q8m,wC s L tv who kv,6)) S 1 b 2 v KT=KT (supd S b (.cells q8m (wC s L v who kv) 6)):=by
 have h1:=(y3n h).1;simp [soW,wC,h1,y09,h,q1t]
theorem LstW.keep {S0 S S':q00} {t sz:Nat} {u v v':AV} {rows:List (List AV)} (h:LstW S0 S t sz u rows) (ha:∀ b off n cap,u=.own b off n cap->q0v v b) (hk:∀ c o,y01 S c=some o->q0v v c->y01 S' c=some o/\q0v v' c) :
  LstW S0 S' t sz u rows/\∀ b off n cap,u=.own b off n cap->q0v v' b:=by
 obtain ⟨hr,h⟩:=h;rcases h with ⟨rfl,rfl⟩ | ⟨b,cap,cs,rfl,h1,h2,h3⟩
 ·exact ⟨⟨hr,.inl ⟨rfl,rfl⟩⟩,fun b off n cap e=>by cases e⟩
 ·obtain ⟨k1,k2⟩:=hk b _ h2 (ha b _ _ _ rfl);exact ⟨⟨hr,.inr ⟨b,cap,cs,rfl,h1,k1,h3⟩⟩,fun b off n cap e=>by cases e;exact k2⟩
structure Rnd (s:List Ty) (L:List Tu) (who:Ob):Prop where
 os:OkS s
 c:y0a (y06 s)=0
 oL:OkL L
 e:yaz (y0p s L who)
structure RdI (s:List Ty) (L:List Tu) (who:Ob) (bw:Nat) (S0:q00) (T:List Ob) (C:List Nd) (v:Nat) (K0:List Nd) (i t k:Nat) (K:List Nd) (b:Bool) (S:q00):Prop where
 w:W14 s L who bw S0 T K S
 u:Upto (y0p s L who) C v K
 y:b=true->K0.length<K.length
 n:b=false->K=K0/\∀ (i' t' k':Nat) (o:Ob) (ty:Ty) (r:Rl),(i'<i\/i'=i/\(t'<t\/t'=t/\k'<k))->T[i']?=some o->s[t']?=some ty->ty.name=o.ty->ty.rels[k']?=some r->y04 (y0b s) (t',k')=v->q3f (y0p s L who) (fun c=>decide (c∈K0)) ⟨o,r.name⟩ r=true->(⟨o,r.name⟩:Nd)∈K0
theorem RdI.skip {s:List Ty} {L:List Tu} {who:Ob} {bw:Nat} {S0 S:q00} {T:List Ob} {C:List Nd} {v:Nat} {K0 K:List Nd} {i t k i2 t2 k2:Nat} {b:Bool} (h:RdI s L who bw S0 T C v K0 i t k K b S)
  (hs:∀ (i' t' k':Nat) (o:Ob) (ty:Ty) (r:Rl),(i'<i2\/i'=i2/\(t'<t2\/t'=t2/\k'<k2))->T[i']?=some o->s[t']?=some ty->ty.name=o.ty->ty.rels[k']?=some r->y04 (y0b s) (t',k')=v->¬ (i'<i\/i'=i/\(t'<t\/t'=t/\k'<k))->q3f (y0p s L who) (fun c=>decide (c∈K)) ⟨o,r.name⟩ r=true->(⟨o,r.name⟩:Nd)∈K):RdI s L who bw S0 T C v K0 i2 t2 k2 K b S:=by
 refine ⟨h.w,h.u,h.y,fun hb=>?_⟩
 obtain ⟨e,h1⟩:=h.n hb;subst e;refine ⟨rfl,fun i' t' k' o ty r hlt a1 a2 a3 a4 a5 a6=>?_⟩
 by_cases hq:i'<i\/i'=i/\(t'<t\/t'=t/\k'<k)
 ·exact h1 i' t' k' o ty r hq a1 a2 a3 a4 a5 a6
 ·exact hs i' t' k' o ty r hlt a1 a2 a3 a4 a5 hq a6
theorem ymp {s:List Ty} {L:List Tu} {who:Ob} {bw:Nat} {S0 S:q00} {T:List Ob} {v:Nat} {K:List Nd} (R:Rnd s L who) (hw:W14 s L who bw S0 T K S) (hu:Upto (y0p s L who) (q36 s T) v K) (hlC:(q36 s T).length<1000000) (hv:v<=1000) :
  ACalls PG yvo [.ptr bw 0,.sl 1 (lvC (y0b s)),.int .i64 v] S fun ae S'=>∃ (b:Bool) (K':List Nd),ae=.ret (.bool b)/\W14 s L who bw S0 T K' S'/\Upto (y0p s L who) (q36 s T) v K'/\(b=true->K.length<K'.length) /\
   (b=false->K'=K/\∀ n j k r,q0d s n.o.ty n.rl=some (j,k,r)->lvN s n=v->n.o∈T->q3f (y0p s L who) (fun c=>decide (c∈K)) n r=true->n∈K):=by
 have hlt:=hw.lt;have hst:=R.os.types;have hlvl:=yjs (y64 s);refine xf9 ?_;unfold xc9;refine LoopP.introS (fun x:Nat×Bool=>[(0,.ptr bw 0),(1,.sl 1 (lvC (y0b s))),(2,.int .i64 v),(7,.bool x.2),(8,.int .i64 x.1)]) (fun x S'=>x.1<=T.length/\∃ K',RdI s L who bw S0 T (q36 s T) v K x.1 0 0 K' x.2 S') (fun x=>T.length-x.1) (0,false)
  ⟨by omega,K,hw,hu,fun h=>(by cases h),fun _=>⟨rfl,fun i' t' k' o ty r hq=>by omega⟩⟩ rfl ?_
 rintro ⟨i,b⟩ S1 ⟨hi,K1,h1⟩ kk hkk;dsimp only at hi h1 ⊢;obtain ⟨tv,kv,ho,ht,hk,hta,hka,hap⟩:=h1.w.ex;have hc:=q07 ho;(try simp only [rwp,zA,zB,zC,zD,zE,zF,zG,zH,zI,rwb,reduceIte,yy0,hc,wC,ht.ln,lB])
 (refine q03 (fun hlti=>?_) (fun hlti=>?_)<;>(try simp only [hlc] at hlti))
 ·obtain ⟨o,hoT⟩:=q0e hlti;obtain ⟨b1,cap,cs,rfl,hcs,hrow,hle⟩:=ht.get (i:=i) (r:=obC o) (by rw [lC,hoT];rfl)
  obtain ⟨rest,hd1⟩:=y6i (hrow.trans (show obC o=[.str o.ty,.str o.id] from rfl))
  (try simp only [rwp,zA,zB,zC,zD,zE,zF,zG,zH,zI,rwb,reduceIte,hc,wC,hcs,lB,Int.toNat_natCast,Nat.zero_add,hd1]);refine ⟨hlti,?_⟩;clear ho ht hk hta hka hap hc hcs hrow hle hd1;refine LoopP.introS (fun x:Nat×Bool=>[(0,.ptr bw 0),(1,.sl 1 (lvC (y0b s))),(2,.int .i64 v),(7,.bool x.2),(8,.int .i64 i),(9,.rop [.str o.ty,.str o.id]),(10,.int .i64 x.1)]) (fun x S'=>x.1<=s.length/\∃ K',RdI s L who bw S0 T (q36 s T) v K i x.1 0 K' x.2 S') (fun x=>s.length-x.1) (0,b)
   ⟨by omega,K1,h1⟩ rfl ?_
  rintro ⟨t,b2⟩ S2 ⟨htl,K2,h2⟩ kk2 hkk2;dsimp only at htl h2 ⊢;obtain ⟨tv,kv,ho,ht,hk,hta,hka,hap⟩:=h2.w.ex;have hc:=q07 ho;(try simp only [rwp,zA,zB,zC,zD,zE,zF,zG,zH,zI,rwb,reduceIte,yxz,hc,wC,lB])
  (refine q03 (fun hltt=>?_) (fun hltt=>?_)<;>(try simp only [hlc] at hltt))
  ·obtain ⟨ty,hty⟩:=q0e hltt;clear ho ht hk hta hka hap hc;refine LoopP.introS (fun x:Nat×Bool=>[(0,.ptr bw 0),(1,.sl 1 (lvC (y0b s))),(2,.int .i64 v),(7,.bool x.2),(8,.int .i64 i),(9,.rop [.str o.ty,.str o.id]),(10,.int .i64 t),(11,.int .i64 x.1)]) (fun x S'=>x.1<=ty.rels.length/\∃ K',RdI s L who bw S0 T (q36 s T) v K i t x.1 K' x.2 S') (fun x=>ty.rels.length-x.1) (0,b2)
    ⟨by omega,K2,h2⟩ rfl ?_
   rintro ⟨k,b3⟩ S3 ⟨hkl,K3,h3⟩ kk3 hkk3;dsimp only at hkl h3 ⊢;obtain ⟨tv,kv,ho,ht,hk,hta,hka,hap⟩:=h3.w.ex;have hc:=q07 ho;have hrt:=(R.os.types);(try simp only [rwp,zA,zB,zC,zD,zE,zF,zG,zH,zI,rwb,reduceIte,yxy,hc,wC,lB,lC,hty,tyC]);cases g1:(decide ((k:Int)<ty.rels.length)&&decide (ty.name=o.ty))
   ·(try simp only [rwp,zA,zB,zC,zD,zE,zF,zG,zH,zI,rwb,reduceIte,ygp])
    (simp (disch:=omega) only [q04])
    refine q08 rfl (hkk2 (t+1,b3) _ ⟨by dsimp only;omega,K3,h3.skip fun i' t' k' o' ty' r' hq a1 a2 a3 a4 a5 a6 a7=>?_⟩ (by dsimp only;omega))
    exfalso;have e1:i'=i:=by omega
    have e2:t'=t:=by omega
    subst e1 e2;rw [hoT] at a1;cases a1;rw [hty] at a2;cases a2;have hk':=(List.getElem?_eq_some_iff.1 a4).1;rw [decide_eq_true a3,Bool.and_true] at g1;have:=of_decide_eq_false g1;omega
   ·rw [Bool.and_eq_true] at g1;have hltk:=of_decide_eq_true g1.1;have hnm:=of_decide_eq_true g1.2;obtain ⟨r,hr⟩:=q0e hltk;have hf:q0d s o.ty r.name=some (t,k,r):=by rw [<- hnm];exact ylw (q2x R.c) hty hr
    have hlvn:lvN s ⟨o,r.name⟩=y04 (y0b s) (t,k):=by unfold lvN;rw [hf]
    have q1:=q62 h3.w ⟨o,r.name⟩;simp only [obC] at q1;(try simp only [rwp,zA,zB,zC,zD,zE,zF,zG,zH,zI,rwb,reduceIte,ygp,hc,wC,lB,lC,hty,tyC,hr,q0k]);refine q1a q1 ?_;obtain ⟨lv,hl1,hl2⟩:=yjr (y64 s) hty;obtain ⟨x,hx⟩:∃ x,lv[k]?=some x:=⟨_,lF (by omega)⟩
    have hgl:y04 (y0b s) (t,k)=x:=by unfold y04;simp [hl1,hx]
    have hcl:(lvC (y0b s))[t]?=some [.sl 1 (lv.map fun x=>[iv x])]:=by rw [lvC,lC,hl1];rfl
    have next:(q3f (y0p s L who) (fun c=>decide (c∈K3)) ⟨o,r.name⟩ r=true->x=v->(⟨o,r.name⟩:Nd)∈K3)->RdI s L who bw S0 T (q36 s T) v K i t (k+1) K3 b3 S3:=fun hq=>h3.skip fun i' t' k' o' ty' r' hlt a1 a2 a3 a4 a5 a6 a7=>by
     have e1:i'=i:=by omega
     have e2:t'=t:=by omega
     have e3:k'=k:=by omega
     subst e1 e2 e3;rw [hoT] at a1;cases a1;rw [hty] at a2;cases a2;rw [hr] at a4;cases a4;exact hq a7 (by rw [<- hgl];exact a5)
    have go:∀ {kn:Bool},(q3f (y0p s L who) (fun c=>decide (c∈K3)) ⟨o,r.name⟩ r=true->x=v->(⟨o,r.name⟩:Nd)∈K3)->rcW kk3 [(0,.ptr bw 0),(1,.sl 1 (lvC (y0b s))),(2,.int .i64 v),(7,.bool b3),(8,.int .i64 i),(9,.rop [.str o.ty,.str o.id]),(10,.int .i64 t),(11,.int .i64 (IntKind.i64.wrap (↑k+1)))] S3:=fun hq=>by
     have hb2:=(R.os.at hty).rels
     (simp (disch:=omega) only [q04])
     exact q08 rfl (hkk3 (k+1,b3) _ ⟨by dsimp only;omega,K3,next hq⟩ (by dsimp only;omega))
    cases g3:decide ((⟨o,r.name⟩:Nd)∈K3)
    ·(try simp only [rwp,zA,zB,zC,zD,zE,zF,zG,zH,zI,rwb,reduceIte,hcl,lC,hx,iv]);cases g4:decide ((x:Int)=v)
     ·(try simp only [rwp,zA,zB,zC,zD,zE,zF,zG,zH,zI,rwb,reduceIte,yav]);exact go (kn:=true) fun _ e=>absurd (by rw [e]:(x:Int)=v) (of_decide_eq_false g4)
     ·have q2:=yi9 R.oL h3.w ⟨o,r.name⟩ r ((R.os.at hty).at hr) rfl (fun h0=>y16 (q2x R.c).may ty (lA hty) r (lA hr) h0)
      simp only [obC,q0k] at q2;(try simp only [rwp,zA,zB,zC,zD,zE,zF,zG,zH,zI,rwb,reduceIte,yav]);refine q1a q2 ?_;cases g5:q3f (y0p s L who) (fun c=>decide (c∈K3)) ⟨o,r.name⟩ r
      ·(try simp only [rwp,zA,zB,zC,zD,zE,zF,zG,zH,zI,rwb,reduceIte]);exact go (kn:=true) fun h=>by rw [g5] at h;cases h
      ·(try simp only [rwp,zA,zB,zC,zD,zE,zF,zG,zH,zI,rwb,reduceIte,hc,wC]);have hbT:o∈T:=lA hoT;have hu4:=h3.u.snoc R.e R.c (n:=⟨o,r.name⟩) hf (by show lvN s ⟨o,r.name⟩=v;rw [hlvn,hgl];exact Int.ofNat_inj.1 (of_decide_eq_true g4)) (of_decide_eq_false g3) (y8j hf hbT) g5
       have hlen4:=y8g hu4.nd hu4.sub;have hk3:K3.length<=1000000:=h3.w.lk;have hb2:=(R.os.at hty).rels;refine LstW.app h3.w.sub hk (x:=ndC ⟨o,r.name⟩) rfl rfl (by simp only [lB];omega) fun kv' S4 j1 j2 j3=>?_
       obtain ⟨i1,i2⟩:=j3 bw _ (objAt_some.1 ho) hka;obtain ⟨t1,t2⟩:=LstW.keep ht hap j3;rw [objAt_some.2 i1,x4i j2.one];have hw4:W14 s L who bw S0 T (K3++[⟨o,r.name⟩]) (supd S4 bw (.cells q8m (wC s L tv who kv') 6)):=
        ⟨⟨tv,kv',q0l,t1.upd hta _,by rw [lE];exact j2.upd i2 _,hta,i2,t2⟩,Sub.supd h3.w.nb j1,h3.w.nb,by omega,h3.w.lt⟩
       have hr4:RdI s L who bw S0 T (q36 s T) v K i t (k+1) (K3++[⟨o,r.name⟩]) true (supd S4 bw (.cells q8m (wC s L tv who kv') 6)):=by
        refine ⟨hw4,hu4,fun _=>?_,fun h=>by cases h⟩
        rw [lG,lM];cases b3 with
        | true=>have:=h3.y rfl;omega
        | false=>rw [(h3.n rfl).1];omega
       (simp (disch:=omega) only [q04])
       exact q08 rfl (hkk3 (k+1,true) _ ⟨by dsimp only;omega,_,hr4⟩ (by dsimp only;omega))
    ·(try simp only [rwp,zA,zB,zC,zD,zE,zF,zG,zH,zI,rwb,reduceIte,yav]);exact go (kn:=true) fun _ _=>of_decide_eq_true g3
  ·(try simp only [rwp,zA,zB,zC,zD,zE,zF,zG,zH,zI,rwb,reduceIte])
   (simp (disch:=omega) only [q04])
   refine q08 rfl (hkk (i+1,b2) _ ⟨by dsimp only;omega,K2,h2.skip fun i' t' k' o' ty r hq a1 a2 a3 a4 a5 a6 a7=>?_⟩ (by dsimp only;omega))
   exfalso;have:=(List.getElem?_eq_some_iff.1 a2).1;omega
 ·(try simp only [rwp,zA,zB,zC,zD,zE,zF,zG,zH,zI,rwb,reduceIte]);refine q02 ⟨b,K1,rfl,h1.w,h1.u,h1.y,fun hb=>?_⟩
  obtain ⟨e,hq⟩:=h1.n hb;refine ⟨e,fun n j k r hf hl hT hbd=>?_⟩
  obtain ⟨a,ha⟩:=lO hT;obtain ⟨-,ty,hty,hrl,hkr⟩:=q0z hf;have hnm:ty.name=n.o.ty:=by
   obtain ⟨⟨x,hx,hp⟩,-⟩:=firstI_some.1 (q0z hf).1;rw [hty] at hx;cases hx;exact of_decide_eq_true hp
  have hrn:r.name=n.rl:=by
   obtain ⟨⟨x,hx,hp⟩,-⟩:=firstI_some.1 hrl;rw [hkr] at hx;cases hx;exact of_decide_eq_true hp
  have hlv:y04 (y0b s) (j,k)=v:=by rw [<- hl];unfold lvN;rw [hf]
  have hlt2:=(List.getElem?_eq_some_iff.1 ha).1;have:=hq a j k n.o ty r (.inl (by omega)) ha hty hnm hkr hlv (by rw [hrn];exact hbd)
  rw [hrn] at this;exact this
set_option maxRecDepth 4000
abbrev MO:Bool×List EK:=(true,[.str,.str])
def obA (o:Ob):AV:=.agg (obC o)
theorem ke_ob:KE MO obA:=⟨fun n=>by simp [obA,obC,q0u,q1i,y7c],fun n m h=>by
 obtain ⟨a,b⟩:=n;obtain ⟨d,e⟩:=m;simp only [obA,obC,AV.agg.injEq,List.cons.injEq,AV.str.injEq,and_true] at h;obtain ⟨rfl,rfl⟩:=h;rfl⟩
section
variable {S0 S S':q00} {t bo:Nat} {Ks Ks':Nat->Prop} {f:Nd->List (List AV)} {es:List (AV×AV×Nat)} {clk:Nat}
theorem OfM.nil {bo:Nat} (hb:y01 S0 bo=none) (hs:y01 S bo=some (.map MD [] 0)) (hK:∀ c,Ks c->c≠bo/\y01 S c≠none):OfM S0 S t bo Ks (fun _=>[]) [] 0:=
 ⟨hs,hb,fun x hx=>(by cases hx),by simp,fun i j x y hx=>by simp at hx,fun x hx=>(by cases hx),fun m _=>rfl,fun m v hv=>(by cases hv),fun m p v u _ hv=>(by cases hv),hK⟩
end
set_option maxRecDepth 4000
set_option maxRecDepth 4000
set_option maxRecDepth 4000
theorem Upto.next {s:List Ty} {L:List Tu} {who:Ob} {T:List Ob} {v:Nat} {K:List Nd} (h:Upto (y0p s L who) (q36 s T) v K) (hT:∀ n x,x∈(y0p s L who).of n->n.o∈T)
  (hcl:∀ n j k r,q0d s n.o.ty n.rl=some (j,k,r)->lvN s n=v->n.o∈T->q3f (y0p s L who) (fun c=>decide (c∈K)) n r=true->n∈K):Upto (y0p s L who) (q36 s T) (v+1) K:=by
 have hT':∀ n∈K,n.o∈T:=by
  intro n hn;have:=h.sub n hn;obtain ⟨o,ho,hq⟩:=List.mem_flatMap.1 this;obtain ⟨t,-,hq⟩:=List.mem_flatMap.1 hq;obtain ⟨r,-,rfl⟩:=List.mem_map.1 hq;exact ho
 refine ⟨h.nd,h.sub,h.step,h.srt,fun n hn=>Nat.le_succ_of_le (h.top n hn),fun n j k r hf hlt hb=>?_⟩
 rcases Nat.lt_succ_iff_lt_or_eq.1 hlt with h1 | h1
 ·exact h.closed n j k r hf h1 hb
 ·exact hcl n j k r hf h1 (y4l hT (fun c hc=>hT' c (of_decide_eq_true hc)) hb) hb
theorem ykv {s:List Ty} {T:List Ob}:(q36 s T).length=T.length * q0q s:=by
 unfold q36 q0q
 induction T with
 | nil=>simp
 | cons o T ih=>
  rw [List.flatMap_cons,lG,ih,lD,Nat.succ_mul,Nat.add_comm]
  congr 1
  rw [List.length_flatMap]
  congr 1
  apply List.map_congr_left
  intro t _;simp
theorem xg9 {s:List Ty} {L:List Tu} {who:Ob} {bw:Nat} {S0 S:q00} {T:List Ob} {QF:AEnd->q00->Prop} (R:Rnd s L who) (hT:∀ n x,x∈(y0p s L who).of n->n.o∈T) (hlT:T.length<=2000) (hw:W14 s L who bw S0 T [] S)
  (hQ:∀ K S',W14 s L who bw S0 T K S'->Mod (y0p s L who) K->QF (.ret (.tup [.ptr bw 0,.bool true])) S') :
  LoopP (fun r0 l S=>x3b QF r0 (y00 l 10) (y00 l 12) (y00 l 14) S) [(10,.sl 1 (lvC (y0b s))),(12,.ptr bw 0),(14,.int .i64 0)] S:=by
 have hm:=(q2x R.c).many;have hC:(q36 s T).length<1000000:=by
  rw [ykv]
  calc T.length * q0q s<=2000 * 256:=Nat.mul_le_mul hlT hm
   _<1000000:=by decide
 refine LoopP.introS (fun v:Nat=>[(10,.sl 1 (lvC (y0b s))),(12,.ptr bw 0),(14,.int .i64 v)]) (fun v S'=>v<=300/\∃ K,W14 s L who bw S0 T K S'/\Upto (y0p s L who) (q36 s T) v K) (fun v=>300-v) 0
  ⟨by omega,[],hw,⟨by simp,fun n hn=>(by cases hn),fun i n hi=>by simp at hi,fun i j n m hi=>by simp at hi,fun n hn=>(by cases hn),fun n j k r _ hlt=>by omega⟩⟩ rfl ?_
 rintro v S1 ⟨hv,K1,w1,u1⟩ kk hkk;(try simp only [rwp,zA,zB,zC,zD,zE,zF,zG,zH,zI,rwb,reduceIte,x3b]);cases a1:decide ((v:Int)<300)
 ·(try simp only [rwp,zA,zB,zC,zD,zE,zF,zG,zH,zI,rwb,reduceIte]);have e:v=300:=by have:=of_decide_eq_false a1;omega
  subst e;exact q5n (hQ K1 S1 w1 (u1.mod fun n j k r hf=>Nat.lt_of_le_of_lt (yvu R.c hf) (by show q0q s<300;omega)))
 ·have hlt:=of_decide_eq_true a1;(try simp only [rwp,zA,zB,zC,zD,zE,zF,zG,zH,zI,rwb,reduceIte]);refine LoopP.introS (fun n:Nat=>[(10,.sl 1 (lvC (y0b s))),(12,.ptr bw 0),(14,.int .i64 v),(15,.int .i64 n)]) (fun n S'=>n<=1000000/\∃ K,W14 s L who bw S0 T K S'/\Upto (y0p s L who) (q36 s T) v K/\n<=K.length) (fun n=>1000000-n) 0
   ⟨by omega,K1,w1,u1,by omega⟩ rfl ?_
  rintro n S2 ⟨hn,K2,w2,u2,hnk⟩ kk2 hkk2;have hle:=y8g u2.nd u2.sub;(try simp only [rwp,zA,zB,zC,zD,zE,zF,zG,zH,zI,rwb,reduceIte,x9a]);rw [decide_eq_true (show (n:Int)<1000000 by omega)]
  (try simp only [rwp,zA,zB,zC,zD,zE,zF,zG,zH,zI,rwb,reduceIte]);refine q0c (ymp R w2 u2 hC (by omega)) ?_
  rintro ae S3 ⟨b,K3,rfl,w3,u3,y3,n3⟩;dsimp only;cases b
  ·(try simp only [rwp,zA,zB,zC,zD,zE,zF,zG,zH,zI,rwb,reduceIte])
   (simp (disch:=omega) only [q04])
   obtain ⟨e,hcl⟩:=n3 rfl;subst e;exact q08 rfl (hkk (v+1) _ ⟨by omega,K3,w3,u3.next hT hcl⟩ (by omega))
  ·(try simp only [rwp,zA,zB,zC,zD,zE,zF,zG,zH,zI,rwb,reduceIte])
   (simp (disch:=omega) only [q04])
   have:=y3 rfl;exact q08 rfl (hkk2 (n+1) _ ⟨by omega,K3,w3,u3,by omega⟩ (by omega))
structure P14 (s:List Ty) (L:List Tu) (who:Ob) (bw:Nat) (S0:q00) (T:List Ob) (S:q00):Prop where
 ex:∃ tv,q0m S bw=some (q8m,wC s L tv who .nils,6)/\LstW S0 S y0c 2 tv (T.map obC)/\q0v tv bw
 sub:Sub S0 S
 nb:y01 S0 bw=none
theorem P14.w {s:List Ty} {L:List Tu} {who:Ob} {bw:Nat} {S0 S:q00} {T:List Ob} (h:P14 s L who bw S0 T S) (hl:T.length<=1000000):W14 s L who bw S0 T [] S:=by
 obtain ⟨tv,h1,h2,h3⟩:=h.ex;exact ⟨⟨tv,.nils,h1,h2,LstW.nil,h3,fun b off n cap e=>(by cases e),fun _ _ _ _ _ b off n cap e=>(by cases e)⟩,h.sub,h.nb,by simp,hl⟩
theorem P14.add {s:List Ty} {L:List Tu} {who:Ob} {bw:Nat} {S0 S:q00} {T:List Ob} {tv:AV} (hnb:y01 S0 bw=none) (hs:Sub S0 S) (h1:q0m S bw=some (q8m,wC s L tv who .nils,6)) (h2:LstW S0 S y0c 2 tv (T.map obC)) (h3:q0v tv bw) (hl:T.length<=1000000) (o:Ob) {K:AV->q00->Prop} {Qp:AV->q00->Prop}
  (hK:∀ tv' S',q0m S' bw=some (q8m,wC s L tv who .nils,6)->one tv'=true->P14 s L who bw S0 (yst T o) (supd S' bw (.cells q8m (wC s L tv' who .nils) 6))->K tv' S'):caW PG S (.func (.func ykm) [] []) [tv,.agg (obC o)] K Qp:=by
 refine q0c (x1h hs h2 hl o) ?_;rintro ae S' ⟨tv',rfl,k1,k2,k3⟩;obtain ⟨i1,i2⟩:=k3 bw _ (objAt_some.1 h1) h3;exact hK tv' S' (objAt_some.2 i1) k1.one ⟨⟨tv',q0l,k1.upd i2 _,i2⟩,Sub.supd hnb k2,hnb⟩
theorem yfs {T:List Ob} {o:Ob}:(yst T o).length<=T.length+1:=by
 unfold yst;split<;>simp
theorem yfr {T:List Ob} {o x:Ob}:x∈yst T o↔x∈T\/x=o:=by
 unfold yst;split
 ·rename_i h
  exact ⟨.inl,fun hq=>hq.elim id fun e=>by rw [e];exact h⟩
 ·rw [List.mem_append,lS]
theorem xga {s:List Ty} {L:List Tu} {who:Ob} {bw:Nat} {S0 S:q00} {o:Ob} {QF:AEnd->q00->Prop} (R:Rnd s L who) (hlL:L.length<=500) (h0:P14 s L who bw S0 [o] S)
  (hQ:∀ T K S',W14 s L who bw S0 T K S'->Mod (y0p s L who) K->QF (.ret (.tup [.ptr bw 0,.bool true])) S'):yo0 QF (.sl 1 (lvC (y0b s))) (.ptr bw 0) S:=by
 unfold yo0;refine LoopP.introS (fun i:Nat=>[(10,.sl 1 (lvC (y0b s))),(12,.ptr bw 0),(13,.int .i64 i)]) (fun i S'=>i<=L.length/\∃ T,P14 s L who bw S0 T S'/\T.length<=1+2 * i/\∀ (j:Nat) (t:Tu),j<i->L[j]?=some t->t.o∈T) (fun i=>L.length-i) 0
  ⟨by omega,[o],h0,by simp,fun j t hj=>by omega⟩ rfl ?_
 rintro i S1 ⟨hi,T,p1,hlT,hmem⟩ kk hkk;obtain ⟨tv,ho,ht,hta⟩:=p1.ex;have hc:=q07 ho;(try simp only [rwp,zA,zB,zC,zD,zE,zF,zG,zH,zI,rwb,reduceIte,x9b,hc,wC,lB])
 (refine q03 (fun hlt=>?_) (fun hlt=>?_)<;>(try simp only [hlc] at hlt))
 ·obtain ⟨t,hg⟩:=q0e hlt;(try simp only [rwp,zA,zB,zC,zD,zE,zF,zG,zH,zI,rwb,reduceIte,hc,wC,lC,hg,tuC]);refine P14.add p1.nb p1.sub ho ht hta (by omega) t.o fun tv2 S2 o2 n2 p2=>?_
  (try simp only [rwp,zA,zB,zC,zD,zE,zF,zG,zH,zI,rwb,reduceIte]);rw [o2,yta n2];obtain ⟨tv3,ho3,ht3,hta3⟩:=p2.ex;have hc3:=q07 ho3;have hl2:=@yfs T t.o;have e3:tv2=tv3:=by
   have h:=ho3;rw [q0l] at h;simpa [wC] using h
  subst e3;generalize supd S2 bw (.cells q8m (wC s L tv2 who .nils) 6)=S3 at p2 ho3 ht3 hc3 ⊢;(try simp only [rwp,zA,zB,zC,zD,zE,zF,zG,zH,zI,rwb,reduceIte,hc3,wC,lC,hg,tuC]);refine P14.add p2.nb p2.sub ho3 ht3 hta3 (by omega) t.s.o fun tv4 S4 o4 n4 p4=>?_
  have hl4:=@yfs (yst T t.o) t.s.o;(try simp only [rwp,zA,zB,zC,zD,zE,zF,zG,zH,zI,rwb,reduceIte]);rw [o4,yta n4]
  (simp (disch:=omega) only [q04])
  refine q08 rfl (hkk (i+1) _ ⟨by omega,_,p4,by omega,fun j u hj hu=>?_⟩ (by omega))
  rw [yfr,yfr];rcases Nat.lt_succ_iff_lt_or_eq.1 hj with h1 | rfl
  ·exact .inl (.inl (hmem j u h1 hu))
  ·rw [hg] at hu;cases hu;exact .inl (.inr rfl)
 ·(try simp only [rwp,zA,zB,zC,zD,zE,zF,zG,zH,zI,rwb,reduceIte]);have e:i=L.length:=by omega
  subst e;refine xg9 R (fun n x hx=>?_) (by omega) (p1.w (by omega)) (hQ T)
  obtain ⟨t,ht,rfl⟩:=List.mem_map.1 hx;unfold ofF at ht;simp only [lT,Bool.and_eq_true,decide_eq_true_eq] at ht;obtain ⟨j,hj⟩:=lO ht.1;have:=hmem j t (List.getElem?_eq_some_iff.1 hj).1 hj;rw [ht.2.1] at this;exact this
theorem x1n {s:List Ty} (hs:OkS s) (hN:OkN s) {l:List Tu} (hl:OkL l) (hn:l.length<=500) (o who:Ob) (S:q00) :
  ACalls PG x5t [scA s,.sl 6 (l.map tuC),.agg (obC o),.agg (obC who)] S fun ae S'=>(y0a (y06 s)≠0/\ae=.ret (.tup [.nilp,.bool false])/\S'=S) \/
   (y0a (y06 s)=0/\∃ bw T K,ae=.ret (.tup [.ptr bw 0,.bool true])/\W14 s (q0a s l) who bw S T K S'/\Mod (y07 s l who) K):=by
 refine xj5 ?_;unfold xhh;have q1:=y2y hs hN;have q3:=q4p hs hl;unfold xcl at q1;(try simp only [rwp,zA,zB,zC,zD,zE,zF,zG,zH,zI,rwb,reduceIte,scA,obC]);simp only [scA] at q1 q3;by_cases hk:y0a (y06 s)=0
 ·rw [if_pos hk] at q1;refine q05 q1 ?_;(try simp only [rwp,zA,zB,zC,zD,zE,zF,zG,zH,zI,rwb,reduceIte]);have R:Rnd s (q0a s l) who:=⟨hs,hk,q46 hl,y90 s l who⟩;have hlc:(q0a s l).length<=500:=Nat.le_trans (lK _ _) hn;have fin:∀ (bt bw:Nat) (S2:q00),y01 S bt=none->y01 (supd S bt (.cells y0c [.str o.ty,.str o.id] 2)) bw=none->S2=supd (supd S bt (.cells y0c [.str o.ty,.str o.id] 2)) bw (.cells q8m (wC s (q0a s l) (.own bt 0 1 1) who .nils) 6) ->
    yo0 (fun ae S'=>(y0a (y06 s)≠0/\ae=.ret (.tup [.nilp,.bool false])/\S'=S)\/(y0a (y06 s)=0/\∃ bw T K,ae=.ret (.tup [.ptr bw 0,.bool true])/\W14 s (q0a s l) who bw S T K S'/\Mod (y07 s l who) K)) (.sl 1 (lvC (y0b s))) (.ptr bw 0) S2:=by
   rintro bt bw S2 hbt hbw rfl;obtain ⟨hne,hbw'⟩:=yaw hbw;refine xga R hlc (o:=o) (S0:=S) ⟨⟨.own bt 0 1 1,q0l,⟨fun r hr=>by rw [List.mem_singleton.1 hr];rfl,.inr ⟨bt,1,[.str o.ty,.str o.id],rfl,hbt,?_,rfl,by simp,by simp,by decide⟩⟩,fun b off n cap e=>by cases e;exact hne⟩,Sub.supd hbw' (Sub.supd hbt (Sub.refl _)),hbw'⟩ fun T K S' h1 h2=>.inr ⟨hk,bw,T,K,rfl,h1,h2⟩
   rw [q01,if_neg hne,q01,if_pos rfl]
  refine ⟨?_,?_⟩
  ·refine q05 q3 ?_;(try simp only [rwp,zA,zB,zC,zD,zE,zF,zG,zH,zI,rwb,reduceIte]);refine ⟨by simp [ynd,q09,y0g],fun bt hbt=>?_⟩
   (try simp only [rwp,zA,zB,zC,zD,zE,zF,zG,zH,zI,rwb,reduceIte]);refine ⟨rfl,rfl,fun bw hbw=>?_⟩
   exact fin bt bw _ hbt hbw rfl
  ·refine ⟨by simp [ynd,q09,y0g],fun bt hbt=>?_⟩
   refine q05 q3 ?_;(try simp only [rwp,zA,zB,zC,zD,zE,zF,zG,zH,zI,rwb,reduceIte]);refine ⟨rfl,rfl,fun bw hbw=>?_⟩
   exact fin bt bw _ hbt hbw rfl
 ·rw [if_neg hk] at q1;refine q05 q1 ?_;(try simp only [rwp,zA,zB,zC,zD,zE,zF,zG,zH,zI,rwb,reduceIte]);exact q5n (.inl ⟨hk,rfl,rfl⟩)
theorem ymz {s:List Ty} (hs:OkS s) (hN:OkN s) {l:List Tu} (hl:OkL l) (hn:l.length<=500) (n:Nd) (who:Ob) (S:q00) :
  ACalls PG x01 [scA s,.sl 6 (l.map tuC),.agg (obC n.o),.str n.rl,.agg (obC who)] S fun ae S'=>∃ b:Bool,ae=.ret (.bool b)/\S'=S/\(y0a (y06 s)≠0->b=false)/\(y0a (y06 s)=0->∃ K,Mod (y07 s l who) K/\b=decide (n∈K)):=by
 refine xjq ?_;unfold xi1;have q:=x1n hs hN hl hn n.o who S;simp only [scA,obC] at q;(try simp only [rwp,zA,zB,zC,zD,zE,zF,zG,zH,zI,rwb,reduceIte,scA,obC]);refine q0c q ?_;rintro ae S1 (⟨h0,rfl,rfl⟩ | ⟨h0,bw,T,K,rfl,hw,hM⟩)
 ·(try simp only [rwp,zA,zB,zC,zD,zE,zF,zG,zH,zI,rwb,reduceIte]);exact q02 ⟨false,rfl,rfl,fun _=>rfl,fun h=>absurd h h0⟩
 ·(try simp only [rwp,zA,zB,zC,zD,zE,zF,zG,zH,zI,rwb,reduceIte]);have q2:=q62 hw n;simp only [obC] at q2;refine q1a q2 ?_;(try simp only [rwp,zA,zB,zC,zD,zE,zF,zG,zH,zI,rwb,reduceIte]);exact q8o hw.sub ⟨_,rfl,rfl,fun h=>absurd h0 h,fun _=>⟨K,hM,rfl⟩⟩
set_option maxRecDepth 4000
theorem Fr.lstW {S0 S:q00} {t sz:Nat} {v:AV} {rows:List (List AV)} (h:LstW S0 S t sz v rows):Fr S0 S v (.sl sz rows):=by
 obtain ⟨hr,⟨rfl,rfl⟩ | ⟨b,cap,cs,rfl,h1,h2,h3,h4,h5,h6⟩⟩:=h
 ·exact .nils sz
 ·exact .ownW t sz b _ cap rows cs hr h1 h2 h3 rfl h5
theorem LstN.keepAt {S0 S S':q00} {t sz:Nat} {v:AV} {rows:List (List AV)} (h:LstN S0 S t sz v rows) (hk:∀ b off n cap,v=.own b off n cap->y01 S' b=y01 S b):LstN S0 S' t sz v rows:=by
 obtain ⟨hr,h⟩:=h;refine ⟨hr,?_⟩;rcases h with h | ⟨b,cap,rfl,h1,h2,h3⟩
 ·exact .inl h
 ·exact .inr ⟨b,cap,rfl,h1,by rw [hk b _ _ _ rfl];exact h2,h3⟩
def ofL (L:List Tu) (n:Nd):List (List AV):=((ofF L n).map Tu.s).map ndC
theorem yqe {L:List Tu} {i:Nat} {t:Tu} (h:L[i]?=some t) (n:Nd):ofL (L.take (i+1)) n=ofL (L.take i) n++if n=ndT t then [ndC t.s] else []:=by
 unfold ofL ofF;rw [q1y h,lE,lE]
 congr 1
 by_cases h2:n=ndT t
 ·rw [if_pos h2];subst h2;simp [ndT]
 ·rw [if_neg h2];have:(decide (t.o=n.o)&&decide (t.rl=n.rl))=false:=by
   rw [Bool.eq_false_iff];intro hq;simp only [Bool.and_eq_true,decide_eq_true_eq] at hq;refine h2 ?_;cases n;simp only [ndT,Nd.mk.injEq];exact ⟨hq.1.symm,hq.2.symm⟩
  simp [this]
set_option maxRecDepth 4000
section
variable {α:Type} {lt:α->α->Bool}
structure StOk (lt:α->α->Bool):Prop where
 ok:y0u lt
 tot:∀ x y,lt x y=false->lt y x=false->x=y
theorem StOk.irr (h:StOk lt) (x:α):lt x x=false:=Le.refl h.ok x
theorem StOk.le_lt (h:StOk lt) {x y z:α} (h1:lt y x=false) (h2:lt y z=true):lt x z=true:=by
 cases e:lt x z with
 | true=>rfl
 | false=>
  have:=h.ok.tr z x y e h1;rw [h2] at this;cases this
theorem StOk.trans (h:StOk lt) {x y z:α} (h1:lt x y=true) (h2:lt y z=true):lt x z=true:=h.le_lt (h.ok.asy _ _ h1) h2
def Asc (lt:α->α->Bool) (l:List α):Prop:=l.Pairwise fun x y=>lt x y=true
theorem Asc.uniq (h:StOk lt):∀ {l m:List α},Asc lt l->Asc lt m->(∀ x,x∈l↔x∈m)->l=m
 | [],[],_,_,_=>rfl
 | [],b :: m,_,_,hm=>by have:=(hm b).2 (by simp);cases this
 | a :: l,[],_,_,hm=>by have:=(hm a).1 (by simp);cases this
 | a :: l,b :: m,ha,hb,hm=>by
  obtain ⟨ha1,ha2⟩:=List.pairwise_cons.1 ha;obtain ⟨hb1,hb2⟩:=List.pairwise_cons.1 hb;have hab:a=b:=by
   rcases List.mem_cons.1 ((hm a).1 (by simp)) with e | e
   ·exact e
   ·rcases List.mem_cons.1 ((hm b).2 (by simp)) with e' | e'
    ·exact e'.symm
    ·have h1:=hb1 a e;have h2:=ha1 b e';rw [h.ok.asy _ _ h2] at h1;cases h1
  subst hab;rw [Asc.uniq h (l:=l) (m:=m) ha2 hb2 fun x=>?_]
  constructor
  ·intro hx;rcases List.mem_cons.1 ((hm x).1 (lI _ hx)) with e | e
   ·subst e;have:=ha1 x hx;rw [h.irr] at this;cases this
   ·exact e
  ·intro hx;rcases List.mem_cons.1 ((hm x).2 (lI _ hx)) with e | e
   ·subst e;have:=hb1 x hx;rw [h.irr] at this;cases this
   ·exact e
variable [DecidableEq α]
def dd (u:Nat->α):Nat->List α
 | 0=>[]
 | i+1=>if 0<i/\u i=u (i-1) then dd u i else dd u i++[u i]
def y3v (lt:α->α->Bool):List α->α->List α
 | [],x=>[x]
 | y :: r,x=>if lt y x=true then y :: y3v lt r x else if y=x then y :: r else x :: y :: r
theorem mem_insO {x z:α}:∀ {l:List α},z∈y3v lt l x↔z∈l\/z=x
 | []=>by simp [y3v]
 | y :: r=>by
  have ih:=mem_insO (x:=x) (z:=z) (l:=r);unfold y3v;split
  ·rw [lQ,lQ,ih,or_assoc]
  ·split
   ·rename_i e
    subst e;simp only [lQ];constructor
    ·exact .inl
    ·rintro (h | h)
     ·exact h
     ·exact .inl h
   ·simp only [lQ];constructor
    ·rintro (h | h)
     ·exact .inr h
     ·exact .inl h
    ·rintro (h | h)
     ·exact .inr h
     ·exact .inl h
theorem yem {x:α}:∀ {l:List α},(y3v lt l x).length<=l.length+1
 | []=>by simp [y3v]
 | y :: r=>by
  have ih:=yem (x:=x) (l:=r);unfold y3v;split
  ·simp only [lD];omega
  ·split<;>simp
theorem yen (h:StOk lt) {x:α}:∀ {l:List α},Asc lt l->Asc lt (y3v lt l x)
 | [],_=>List.pairwise_singleton _ _
 | y :: r,hl=>by
  obtain ⟨h1,h2⟩:=List.pairwise_cons.1 hl;have ih:=yen h (x:=x) (l:=r) h2;unfold y3v;split
  ·rename_i hyx
   refine List.pairwise_cons.2 ⟨fun z hz=>?_,ih⟩
   rcases mem_insO.1 hz with hz | rfl
   ·exact h1 z hz
   ·exact hyx
  ·rename_i hyx
   split
   ·exact hl
   ·rename_i hne
    have hlt:lt x y=true:=by
     cases e:lt x y with
     | true=>rfl
     | false=>exact absurd (h.tot _ _ (by simpa using hyx) e) hne
    refine List.pairwise_cons.2 ⟨fun z hz=>?_,hl⟩
    rcases List.mem_cons.1 hz with rfl | hz
    ·exact hlt
    ·exact h.trans hlt (h1 z hz)
theorem ybp {x:α}:∀ {k:Nat} {l:List α},(∀ y∈l.take k,lt y x=true)->y3v lt l x=l.take k++y3v lt (l.drop k) x
 | 0,l,_=>by simp
 | k+1,[],_=>by simp
 | k+1,y :: r,h=>by
  have ih:=ybp (x:=x) (k:=k) (l:=r) fun z hz=>h z (by simp [hz])
  have hy:=h y (by simp)
  rw [List.take_succ_cons,List.drop_succ_cons,List.cons_append,<- ih]
  conv=>lhs;unfold y3v
  rw [if_pos hy]
def y0l (lt:α->α->Bool) (l:List α):List α:=l.foldl (y3v lt) []
theorem y7l {l:List α} {x:α}:y0l lt (l++[x])=y3v lt (y0l lt l) x:=by
 unfold y0l;rw [List.foldl_append];rfl
theorem q2b (h:StOk lt):∀ (l:List α) (n:Nat),l.length=n->Asc lt (y0l lt l)/\(∀ z,z∈y0l lt l↔z∈l)/\(y0l lt l).length<=l.length:=by
 intro l n
 induction n generalizing l with
 | zero=>
  intro hl;have:l=[]:=List.length_eq_zero_iff.1 hl;subst this;exact ⟨List.Pairwise.nil,fun z=>by simp [y0l],Nat.le_refl _⟩
 | succ n ih=>
  intro hl;rcases List.eq_nil_or_concat l with rfl | ⟨r,x,e⟩
  ·cases hl
  ·rw [e] at hl ⊢;simp only [List.concat_eq_append,lG,lM] at hl ⊢;obtain ⟨h1,h2,h3⟩:=ih r (by omega)
   rw [y7l];refine ⟨yen h h1,fun z=>?_,Nat.le_trans yem (by omega)⟩
   rw [mem_insO,h2,List.mem_append,lS]
end
set_option maxRecDepth 4000
abbrev y4f (a b:ByteArray):Int:=Lib.compareBytes a.data.toList b.data.toList
theorem ycb:∀ (l:List UInt8),Lib.compareBytes l l=0
 | []=>rfl
 | a :: r=>by
  unfold Lib.compareBytes;have h:¬ a<a:=by rw [UInt8.lt_iff_toNat_lt];omega
  rw [if_neg h,if_neg h];exact ycb r
theorem y6m:∀ (l m:List UInt8),Lib.compareBytes l m =-Lib.compareBytes m l
 | [],[]=>rfl
 | [],_ :: _=>rfl
 | _ :: _,[]=>rfl
 | a :: r,b :: q=>by
  have ih:=y6m r q;unfold Lib.compareBytes;by_cases h1:a<b
  ·have h2:¬ b<a:=by rw [UInt8.lt_iff_toNat_lt] at h1 ⊢;omega
   rw [if_pos h1,if_neg h2,if_pos h1]
  ·by_cases h2:b<a
   ·rw [if_neg h1,if_pos h2,if_pos h2];rfl
   ·rw [if_neg h1,if_neg h2,if_neg h2,if_neg h1];exact ih
theorem x7u:∀ (l m:List UInt8),Lib.compareBytes l m=0->l=m
 | [],[],_=>rfl
 | [],_ :: _,h=>by cases h
 | _ :: _,[],h=>by cases h
 | a :: r,b :: q,h=>by
  have ih:=x7u r q;unfold Lib.compareBytes at h;by_cases h1:a<b
  ·rw [if_pos h1] at h;cases h
  ·by_cases h2:b<a
   ·rw [if_neg h1,if_pos h2] at h;cases h
   ·rw [if_neg h1,if_neg h2] at h;have:a=b:=by
     rw [UInt8.lt_iff_toNat_lt] at h1 h2;exact UInt8.toNat_inj.1 (by omega)
    rw [this,ih h]
theorem y6l:∀ (l m k:List UInt8),Lib.compareBytes l m<=0->Lib.compareBytes m k<=0->Lib.compareBytes l k<=0
 | [],_,[],_,_=>Int.le_refl 0
 | [],_,_ :: _,_,_=>by show (-1:Int)<=0;decide
 | a :: r,[],_,h,_=>by
  have h:(1:Int)<=0:=h;omega
 | a :: r,b :: q,[],_,h=>by
  have h:(1:Int)<=0:=h;omega
 | a :: r,b :: q,c :: p,h1,h2=>by
  have ih:=y6l r q p;unfold Lib.compareBytes at h1 h2 ⊢;simp only [UInt8.lt_iff_toNat_lt] at h1 h2 ⊢;by_cases x1:a.toNat<b.toNat
  ·by_cases x2:b.toNat<c.toNat
   ·rw [if_pos (by omega)];decide
   ·by_cases x3:c.toNat<b.toNat
    ·rw [if_neg x2,if_pos x3] at h2;exact absurd h2 (by decide)
    ·rw [if_pos (by omega)];decide
  ·by_cases x3:b.toNat<a.toNat
   ·rw [if_neg x1,if_pos x3] at h1;exact absurd h1 (by decide)
   ·rw [if_neg x1,if_neg x3] at h1;by_cases x2:b.toNat<c.toNat
    ·rw [if_pos (by omega)];decide
    ·by_cases x4:c.toNat<b.toNat
     ·rw [if_neg x2,if_pos x4] at h2;exact absurd h2 (by decide)
     ·rw [if_neg x2,if_neg x4] at h2;rw [if_neg (by omega),if_neg (by omega)]
      exact ih h1 h2
def yax (a b:Ob):Int:=if y4f a.ty b.ty=0 then y4f a.id b.id else y4f a.ty b.ty
def ltO (a b:Ob):Bool:=decide (yax a b<0)
theorem q93 {a b:ByteArray} (h:y4f a b=0):a=b:=by
 have:=x7u _ _ h;obtain ⟨⟨la⟩⟩:=a;obtain ⟨⟨lb⟩⟩:=b;have e:la=lb:=this;rw [e]
theorem q5w (a b:Ob):yax a b =-yax b a:=by
 have h1:=y6m a.ty.data.toList b.ty.data.toList;have h2:=y6m a.id.data.toList b.id.data.toList;unfold yax y4f;split<;>split<;>omega
theorem x1b {a b:Ob} (h:yax a b=0):a=b:=by
 unfold yax at h;split at h
 ·rename_i h1
  cases a;cases b
  simp only at h h1;rw [q93 h,q93 h1]
 ·contradiction
theorem yi7 {a b c:Ob} (h1:yax a b<=0) (h2:yax b c<=0):yax a c<=0:=by
 unfold yax at h1 h2 ⊢;by_cases e1:y4f a.ty b.ty=0
 ·rw [if_pos e1] at h1;have e:=q93 e1;rw [e];by_cases e2:y4f b.ty c.ty=0
  ·rw [if_pos e2] at h2 ⊢;exact y6l _ _ _ h1 h2
  ·rw [if_neg e2] at h2 ⊢;exact h2
 ·rw [if_neg e1] at h1;by_cases e2:y4f b.ty c.ty=0
  ·have e:=q93 e2;rw [<- e,if_neg e1];exact h1
  ·rw [if_neg e2] at h2;have h3:y4f a.ty c.ty<=0:=y6l _ _ _ h1 h2;by_cases e3:y4f a.ty c.ty=0
   ·exfalso;have e:=q93 e3;rw [<- e] at h2;have:=y6m a.ty.data.toList b.ty.data.toList;unfold y4f at h1 h2 e1 e2;omega
   ·rw [if_neg e3];exact h3
theorem stO:StOk ltO:=by
 refine ⟨⟨fun x y h=>?_,fun x y z h1 h2=>?_⟩,fun x y h1 h2=>?_⟩
 ·unfold ltO at h ⊢;have:=q5w x y;rw [decide_eq_true_eq] at h;rw [decide_eq_false_iff_not];omega
 ·unfold ltO at h1 h2 ⊢;rw [decide_eq_false_iff_not] at h1 h2 ⊢;have a1:=q5w y x;have a2:=q5w z y;have a3:=q5w z x;have:=yi7 (a:=x) (b:=y) (c:=z) (by omega) (by omega)
  omega
 ·unfold ltO at h1 h2;rw [decide_eq_false_iff_not] at h1 h2;have:=q5w x y;exact x1b (by omega)
theorem ycj (a b:ByteArray):y02 PG 166 [.str a,.str b] (.int .i64 (y4f a b)):=by
 intro S R w vs hs hv;obtain ⟨l⟩:=vs
 match l,hv with
 | [],hv=>cases hv.1
 | [_],hv=>cases hv.1
 | _ :: _ :: _ :: _,hv=>cases hv.1
 | [x,y],hv=>
  have h1:RV R w (.str a) x:=hv.head;have h2:RV R w (.str b) y:=hv.tail.head;cases h1;cases h2;refine .inr ⟨_,w,?_,R,S,.ret (.int .i64 (y4f a b)),.int _ _,⟨rfl,rfl⟩,hs,Step.refl _ _ _⟩;rw [run_callFunc_extern Go.Proofs.Tryz.func166 (by kernel_rfl) (by kernel_rfl) (by kernel_rfl) (e:=Extern.BytealgCompare.compare) (by kernel_rfl),Lib.run_compareString]
  rfl
theorem y2g (a b:ByteArray):y02 PG yvj [.str a,.str b] (.int .i64 (y4f a b)):=by
 intro S;refine xf4 ?_;unfold xc4;refine q05 (ycj a b) ?_;exact q02 ⟨rfl,rfl⟩
theorem y9k (a b:ByteArray):y02 PG x5q [.str a,.str b] (.int .i64 (y4f a b)):=by
 intro S;refine xj1 ?_;unfold xhd;refine q05 (y2g a b) ?_;exact q02 ⟨rfl,rfl⟩
theorem xg0 (x y:Int):y02 PG x5r [.sl 1 [[.int .i64 x],[.int .i64 y]]] (.int .i64 (if x=0 then y else x)):=by
 intro S;refine xj2 ?_;unfold xhe;(try simp only [rwp,zA,zB,zC,zD,zE,zF,zG,zH,zI,rwb,reduceIte,lD,lL]);refine LoopP.introS (fun i:Nat=>[(3,.int .i64 0),(6,.sl 1 [[.int .i64 x],[.int .i64 y]]),(7,.int .i64 2),(8,.int .i64 i)]) (fun i S'=>S'=S/\i<=2/\(0<i->x=0)/\(1<i->y=0)) (fun i=>2-i) 0 ⟨rfl,by omega,fun h=>by omega,fun h=>by omega⟩ rfl ?_
 rintro i S' ⟨rfl,hi,h1,h2⟩ kk hkk;(try simp only [rwp,zA,zB,zC,zD,zE,zF,zG,zH,zI,rwb,reduceIte,x98])
 (refine q03 (fun hlt=>?_) (fun hlt=>?_)<;>(try simp only [hlc] at hlt))
 ·have h01:i=0\/i=1:=by omega
  have step:(i=0->x=0)->(i=1->y=0)->rcW kk [(3,.int .i64 0),(6,.sl 1 [[.int .i64 x],[.int .i64 y]]),(7,.int .i64 2),(8,.int .i64 (IntKind.i64.wrap (↑i+1)))] S':=by
   intro q1 q2
   (simp (disch:=omega) only [q04])
   exact q08 rfl (hkk (i+1) _ ⟨rfl,by omega,fun _=>h01.elim q1 (fun e=>h1 (by omega)),fun h=>q2 (by omega)⟩ (by omega))
  rcases h01 with e | e
  ·subst e;(try simp only [rwp,zA,zB,zC,zD,zE,zF,zG,zH,zI,rwb,reduceIte,List.getElem?_cons_zero]);cases a1:decide (x=0)
   ·(try simp only [rwp,zA,zB,zC,zD,zE,zF,zG,zH,zI,rwb,reduceIte]);exact q02 ⟨by rw [if_neg (of_decide_eq_false a1)],rfl⟩
   ·(try simp only [rwp,zA,zB,zC,zD,zE,zF,zG,zH,zI,rwb,reduceIte]);exact step (fun _=>of_decide_eq_true a1) (fun h=>by omega)
  ·subst e;have hx:=h1 (by omega)
   (try simp only [rwp,zA,zB,zC,zD,zE,zF,zG,zH,zI,rwb,reduceIte,List.getElem?_cons_zero,List.getElem?_cons_succ]);cases a1:decide (y=0)
   ·(try simp only [rwp,zA,zB,zC,zD,zE,zF,zG,zH,zI,rwb,reduceIte]);exact q02 ⟨by rw [if_pos hx],rfl⟩
   ·(try simp only [rwp,zA,zB,zC,zD,zE,zF,zG,zH,zI,rwb,reduceIte]);exact step (fun h=>by omega) (fun _=>of_decide_eq_true a1)
 ·(try simp only [rwp,zA,zB,zC,zD,zE,zF,zG,zH,zI,rwb,reduceIte]);have hx:=h1 (by omega)
  have hy:=h2 (by omega)
  exact q02 ⟨by rw [if_pos hx,hy],rfl⟩
set_option maxRecDepth 4000
theorem yz4 {x y:Int} {a b:Nat} {K:AV->Prop} (hx:x=a) (hy:y=b) (hb:0<b) (ha:a<=1000000) (hk:K (.int .i64 ((a / b:Nat):Int))):biW .quo (.int .i64 x) (.int .i64 y) K:=by
 subst hx;subst hy;have h0:¬ (b:Int)=0:=by omega
 have e:biW .quo (.int .i64 (a:Int)) (.int .i64 (b:Int)) K=K (.int .i64 (IntKind.i64.wrap ((a:Int).tdiv b))):=by
  have e1:biW .quo (.int .i64 (a:Int)) (.int .i64 (b:Int)) K=q0p (if (b:Int)=0 then none else some (.int .i64 (IntKind.i64.wrap ((a:Int).tdiv b)))) K:=rfl
  rw [e1,if_neg h0];rfl
 rw [e,show (a:Int).tdiv b=((a / b:Nat):Int) from rfl]
 have:a / b<=a:=Nat.div_le_self _ _;generalize a / b=q at this hk ⊢
 (simp (disch:=omega) only [q04])
 exact hk
structure Dat (D:AV) (pt:Nat->AV) (SS:(Nat->Ob)->q00) (n:Nat):Prop where
 ia:∀ {i:Nat} {x:Int} {K:AV->Prop},x=i->i<n->K (pt i)->iaW 2 D (.int .i64 x) K
 ld:∀ {v:Nat->Ob} {i:Nat} {K:AV->Prop},i<n->K (.agg (obC (v i)))->ldW (SS v) 2 true (pt i) K
 st:∀ {v:Nat->Ob} {i:Nat} {x:Ob} {KT:q00->Prop},i<n->KT (SS (upv v i x))->stW (SS v) 2 (pt i) (.agg (obC x)) KT
 ln:∀ {v:Nat->Ob} {K:AV->Prop},K (.int .i64 n)->lnW (SS v) 1 D K
 bd:n<=100000
 fr:∀ {v:Nat->Ob} {c:Nat} {X:AObj} {i:Nat} {K:AV->Prop},y01 (SS v) c=none->i<n->K (.agg (obC (v i)))->ldW (supd (SS v) c X) 2 true (pt i) K
 fs:∀ {v:Nat->Ob} {c:Nat} {X:AObj} {i:Nat} {x:Ob} {KT:q00->Prop},y01 (SS v) c=none->i<n->KT (supd (SS (upv v i x)) c X)->stW (supd (SS v) c X) 2 (pt i) (.agg (obC x)) KT
 fn:∀ {v w:Nat->Ob} {c:Nat},y01 (SS v) c=none->y01 (SS w) c=none
theorem yjj {S:q00} {b c:Nat} (h:b≠c) (x y:AObj):supd (supd S b x) c y=supd (supd S c y) b x:=by
 funext d
 unfold supd;by_cases h1:c=d
 ·subst h1;simp [h]
 ·by_cases h2:b=d<;>simp [h1,h2]
theorem x14 {S0:q00} {b n cap:Nat} (hn:n<=cap) (hb:n<=100000):Dat (.own b 0 n cap) (fun i=>.ptr b (i * 2)) (fun v=>supd S0 b (.cells y0c (fl obC n v) (cap * 2))) n:=by
 have hlen:∀ x:Ob,(obC x).length=2:=fun x=>rfl
 have ne:∀ {v:Nat->Ob} {c:Nat},y01 (supd S0 b (.cells y0c (fl obC n v) (cap * 2))) c=none->b≠c:=by
  intro v c hc e;rw [q01,if_pos e] at hc;cases hc
 refine ⟨fun {i x K} e hi hk=>?_,fun {v i K} hi hk=>?_,fun {v i x KT} hi hk=>?_,fun {v K} hk=>?_,hb,fun {v c X i K} hc hi hk=>?_,fun {v c X i x KT} hc hi hk=>?_,fun {v w c} hc=>?_⟩
 ·subst e;rw [q8w];refine ⟨by omega,by omega,?_⟩
  simpa using hk
 ·have hc:=q07 (q0l (S:=supd S0 b (.cells y0c (fl obC n v) (cap * 2))) (b:=b) (t:=y0c) (tot:=cap * 2) (cs:=fl obC n v));rw [q1b] at hc;obtain ⟨rest,hd⟩:=y6b (v:=v) hlen hi;rw [q8u,hc,q6d,hd,y60];exact hk
 ·have ho:=q0l (S:=S0) (b:=b) (t:=y0c) (tot:=cap * 2) (cs:=fl obC n v);rw [q3s,ho,q3h];refine ⟨rfl,?_,rfl,?_⟩
  ·rw [q3o hlen];omega
  ·rw [show q09 (.agg (obC x))=obC x from rfl,ybx hlen hi,q1b]
   exact hk
 ·rw [ybl];exact hk
 ·have hne:=ne hc;have hc:=q07 (objAt_some.2 (show y01 (supd (supd S0 b (.cells y0c (fl obC n v) (cap * 2))) c X) b=some (.cells y0c (fl obC n v) (cap * 2)) by rw [q01,if_neg (Ne.symm hne),q01,if_pos rfl]))
  obtain ⟨rest,hd⟩:=y6b (v:=v) hlen hi;rw [q8u,hc,q6d,hd,y60];exact hk
 ·have hne:=ne hc;have ho:=objAt_some.2 (show y01 (supd (supd S0 b (.cells y0c (fl obC n v) (cap * 2))) c X) b=some (.cells y0c (fl obC n v) (cap * 2)) by rw [q01,if_neg (Ne.symm hne),q01,if_pos rfl])
  rw [q3s,ho,q3h];refine ⟨rfl,?_,rfl,?_⟩
  ·rw [q3o hlen];omega
  ·rw [show q09 (.agg (obC x))=obC x from rfl,ybx hlen hi,yjj (Ne.symm hne),q1b]
   exact hk
 ·have hne:=ne hc;rw [q01,if_neg hne] at hc ⊢;exact hc
section
variable {D:AV} {pt:Nat->AV} {SS:(Nat->Ob)->q00} {n g:Nat} {c:Ob->Ob->Int}
abbrev fnG (g:Nat):AV:=.func (.func g) [] []
def ltC (c:Ob->Ob->Int) (x y:Ob):Bool:=decide (c x y<0)
theorem xfy (hD:Dat D pt SS n) (hg:∀ x y,y02 PG g [.agg (obC x),.agg (obC y)] (.int .i64 (c x y))) (ho:y0u (ltC c)) {a b:Nat} (hab:a<=b) (hb:b<=n) (v:Nat->Ob) :
  ACalls PG yus [D,.int .i64 a,.int .i64 b,fnG g] (SS v) fun ae S'=>ae=.ret (.tup [])/\∃ w,S'=SS w/\Rng n a b v w/\Srt (ltC c) a b w:=by
 have hn:=hD.bd;refine xe5 ?_;unfold xb5;(try simp only [rwp,zA,zB,zC,zD,zE,zF,zG,zH,zI,rwb,reduceIte])
 (simp (disch:=omega) only [q04])
 refine LoopP.introS (fun i:Nat=>[(0,D),(1,.int .i64 a),(2,.int .i64 b),(3,fnG g),(8,.int .i64 i)]) (fun i S'=>a+1<=i/\i<=b+1/\∃ w,S'=SS w/\Rng n a b v w/\Srt (ltC c) a i w) (fun i=>b+1-i) (a+1)
  ⟨by omega,by omega,v,rfl,Rng.refl _ _ _ _,Srt.one (by omega)⟩ (by rfl) ?_
 rintro i S1 ⟨hi1,hi2,w,rfl,hr,hs⟩ kk hkk;(try simp only [rwp,zA,zB,zC,zD,zE,zF,zG,zH,zI,rwb,reduceIte,yxb])
 (refine q03 (fun hlt=>?_) (fun hlt=>?_)<;>(try simp only [hlc] at hlt))
 ·refine LoopP.introS (fun j:Nat=>[(0,D),(1,.int .i64 a),(2,.int .i64 b),(3,fnG g),(8,.int .i64 i),(9,.int .i64 j)]) (fun j S'=>∃ u,S'=SS u/\Rng n a b v u/\InsI (ltC c) a i j u) (fun j=>j) i
   ⟨w,rfl,hr,InsI.start hs (by omega)⟩ rfl ?_
  rintro j S2 ⟨u,rfl,hru,hu⟩ kk2 hkk2;have h1:=hu.lo;have h2:=hu.hi;have stop:(j=a\/Le (ltC c) (u (j-1)) (u j))->rcW kk [(0,D),(1,.int .i64 a),(2,.int .i64 b),(3,fnG g),(8,.int .i64 (IntKind.i64.wrap (↑i+1)))] (SS u):=by
   intro hq
   (simp (disch:=omega) only [q04])
   exact q08 rfl (hkk (i+1) _ ⟨by omega,by omega,u,rfl,hru,hu.stop ho hq⟩ (by omega))
  (try simp only [rwp,zA,zB,zC,zD,zE,zF,zG,zH,zI,rwb,reduceIte,yxa]);cases a1:decide ((a:Int)<j)
  ·(try simp only [rwp,zA,zB,zC,zD,zE,zF,zG,zH,zI,rwb,reduceIte,yak]);exact stop (.inl (by have:=of_decide_eq_false a1;omega))
  ·have haj:=of_decide_eq_true a1;(try simp only [rwp,zA,zB,zC,zD,zE,zF,zG,zH,zI,rwb,reduceIte]);refine hD.ia (i:=j) rfl (by omega) ?_
   (try simp only [rwp,zA,zB,zC,zD,zE,zF,zG,zH,zI,rwb,reduceIte])
   (simp (disch:=omega) only [q04])
   refine hD.ia (i:=j-1) (by omega) (by omega) ?_
   refine hD.ld (by omega) (hD.ld (by omega) ?_)
   refine q05 (hg _ _) ?_;(try simp only [rwp,zA,zB,zC,zD,zE,zF,zG,zH,zI,rwb,reduceIte]);cases a2:decide (c (u j) (u (j-1))<0)
   ·(try simp only [rwp,zA,zB,zC,zD,zE,zF,zG,zH,zI,rwb,reduceIte,yak]);exact stop (.inr a2)
   ·(try simp only [rwp,zA,zB,zC,zD,zE,zF,zG,zH,zI,rwb,reduceIte,yak])
    (simp (disch:=omega) only [q04])
    refine hD.ia (i:=j-1) (by omega) (by omega) ?_
    refine hD.ia (i:=j) rfl (by omega) ?_
    refine hD.ld (by omega) (hD.ld (by omega) ?_)
    refine hD.ia (i:=j) rfl (by omega) ?_
    refine hD.st (by omega) ?_
    refine hD.ia (i:=j-1) (by omega) (by omega) ?_
    refine hD.st (by omega) ?_
    rw [y7k];(try simp only [rwp,zA,zB,zC,zD,zE,zF,zG,zH,zI,rwb,reduceIte]);(try (simp (disch:=omega) only [q04]));have ej:(j:Int)-1=((j-1:Nat):Int):=by omega
    rw [ej];exact q08 rfl (hkk2 (j-1) _ ⟨_,rfl,hru.trans (Rng.sw (by omega) (by omega) (by omega) (by omega) hb),hu.step ho (by omega) a2⟩ (by omega))
 ·(try simp only [rwp,zA,zB,zC,zD,zE,zF,zG,zH,zI,rwb,reduceIte]);exact q2s ⟨rfl,w,rfl,hr,fun p q h1 h2 h3=>hs p q h1 h2 (by omega)⟩
end
def ywd (N:Nat):Prop:=∀ (D:AV) (pt:Nat->AV) (SS:(Nat->Ob)->q00) (n g:Nat) (c:Ob->Ob->Int),Dat D pt SS n->(∀ x y,y02 PG g [.agg (obC x),.agg (obC y)] (.int .i64 (c x y)))->y0u (ltC c)->n<=N->∀ v:Nat->Ob,
 ACalls PG ykd [D,fnG g] (SS v) fun ae S'=>ae=.ret (.tup [])/\∃ w,S'=SS w/\Rng n 0 n v w/\Srt (ltC c) 0 n w
def len8:ByteArray:=⟨#[0,1,2,2,3,3,3,3,4,4,4,4,4,4,4,4,5,5,5,5,5,5,5,5,5,5,5,5,5,5,5,5,6,6,6,6,6,6,6,6,6,6,6,6,6,6,6,6,6,6,6,6,6,6,6,6,6,6,6,6,6,6,6,6,7,7,7,7,7,7,7,7,7,7,7,7,7,7,7,7,7,7,7,7,7,7,7,7,7,7,7,7,7,7,7,7,7,7,7,7,7,7,7,7,7,7,7,7,7,7,7,7,7,7,7,7,7,7,7,7,7,7,7,7,7,7,7,7,8,8,8,8,8,8,8,8,8,8,8,8,8,8,8,8,8,8,8,8,8,8,8,8,8,8,8,8,8,8,8,8,8,8,8,8,8,8,8,8,8,8,8,8,8,8,8,8,8,8,8,8,8,8,8,8,8,8,8,8,8,8,8,8,8,8,8,8,8,8,8,8,8,8,8,8,8,8,8,8,8,8,8,8,8,8,8,8,8,8,8,8,8,8,8,8,8,8,8,8,8,8,8,8,8,8,8,8,8,8,8,8,8,8,8,8,8,8,8,8,8,8,8,8,8,8,8,8]⟩
def yj6 (n:Nat):Nat:=(len8.data.toList.getD n 0).toNat
theorem y65:∀ n:Fin 256,n.1<2 ^ yj6 n.1/\(n.1=0\/2 ^ yj6 n.1<=2 * n.1)/\yj6 n.1<=8:=by decide +kernel
theorem x1l {n:Nat} (hn:n<256):y02 PG yuk [.int .u64 n] (.int .i64 (yj6 n)):=by
 intro S;refine xdx ?_;unfold xax;(try simp only [rwp,zA,zB,zC,zD,zE,zF,zG,zH,zI,rwb,reduceIte,yol,yok]);rw [decide_eq_false (show ¬ (4294967296:Int)<=n by omega)]
 refine q47 ?_;rw [decide_eq_false (show ¬ (65536:Int)<=n by omega)]
 refine q47 ?_;rw [decide_eq_false (show ¬ (256:Int)<=n by omega)]
 refine q47 ?_;have hb:len8[n]?=some (len8.data.toList.getD n 0).toNat.toUInt8:=by
  rw [q8c];have hl:n<len8.data.toList.length:=by show n<256;exact hn
  rw [List.getD_eq_getElem?_getD,lF hl];simp
 have h8:yj6 n<=8:=(y65 ⟨n,hn⟩).2.2;have hw:IntKind.u8.wrap (n:Int)=n:=(show ∀ n:Fin 256,IntKind.u8.wrap (n.1:Int)=n.1 by decide +kernel) ⟨n,hn⟩
 have hv:((len8.data.toList.getD n 0).toNat.toUInt8).toNat=yj6 n:=by
  unfold yj6;simp
 show yg5 _ (.int .u64 n) (.int .i64 0) S;unfold yg5;change (cvW .u8 (.int .u64 n) fun v21=>isW (.str len8) v21 fun v22=>_)
 (try simp only [rwp,zA,zB,zC,zD,zE,zF,zG,zH,zI,rwb,reduceIte,hw,hb]);rw [hv]
 (simp (disch:=omega) only [q04])
 exact q02 ⟨by rw [Int.zero_add],rfl⟩
theorem x85 {n:Nat} (hn:n<256):y02 PG yvk [.int .u64 n] (.int .i64 (yj6 n)):=by
 intro S;refine xf5 ?_;unfold xc5;(try simp only [rwp,zA,zB,zC,zD,zE,zF,zG,zH,zI,rwb,reduceIte]);refine q05 (x1l hn) ?_;exact q02 ⟨rfl,rfl⟩
set_option maxRecDepth 4000
set_option maxRecDepth 4000
set_option maxRecDepth 4000
noncomputable def ytc (s:List Ty) (l L:List Tu) (n:Nd):List Ob:=(L.filter fun t=>decide (t.s.rl=⟨#[]⟩)&&inB (y07 s l t.s.o) n).map fun t=>t.s.o
noncomputable def yqp (s:List Ty) (l:List Tu) (n:Nd):List Ob:=if y0a (y06 s)=0 then y0l ltO (ytc s l (q0a s l) n) else []
theorem yq4 {s:List Ty} {l L:List Tu} {n:Nd}:(ytc s l L n).length<=L.length:=by
 unfold ytc;rw [lB];exact lK _ _
theorem x15 (S:q00):Dat .nils (fun _=>.nils) (fun _=>S) 0:=⟨fun _ h=>absurd h (by omega),fun h=>absurd h (by omega),fun h=>absurd h (by omega),fun hk=>by rw [qaa];exact hk,by omega,fun _ h=>absurd h (by omega),fun _ h=>absurd h (by omega),fun h=>h⟩
set_option maxRecDepth 4000
section
variable {D:AV} {pt:Nat->AV} {SS:(Nat->Ob)->q00} {n g:Nat} {c:Ob->Ob->Int}
theorem yw6 (hD:Dat D pt SS n) (hg:∀ x y,y02 PG g [.agg (obC x),.agg (obC y)] (.int .i64 (c x y))) (ho:y0u (ltC c)) {f lo hi:Nat} (hh:f+hi<=n) (hlo:lo<=n) (v:Nat->Ob) (h0:Sif (ltC c) f lo hi lo v) :
  ACalls PG ytz [D,.int .i64 lo,.int .i64 hi,.int .i64 f,fnG g] (SS v) fun ae S'=>ae=.ret (.tup [])/\∃ w,S'=SS w/\Rng n f (f+hi) v w/\Hp (ltC c) f lo hi w:=by
 have hn:=hD.bd;refine xda ?_;unfold xaa;refine LoopP.introS (fun r:Nat=>[(0,D),(2,.int .i64 hi),(3,.int .i64 f),(4,fnG g),(10,.int .i64 r)]) (fun r S'=>r<=n/\∃ w,S'=SS w/\Rng n f (f+hi) v w/\Sif (ltC c) f lo hi r w) (fun r=>n-r) lo
  ⟨hlo,v,rfl,Rng.refl _ _ _ _,h0⟩ rfl ?_
 rintro r S1 ⟨hrn,w,rfl,hr,hs⟩ kk hkk;(try simp only [rwp,zA,zB,zC,zD,zE,zF,zG,zH,zI,rwb,reduceIte,ywm]);(try (simp (disch:=omega) only [q04]));cases a1:decide ((hi:Int)<=2 * r+1)
 ·have hch:2 * r+1<hi:=by have:=of_decide_eq_false a1;omega
  have fin:∀ ch:Nat,xg6 (ltC c) f hi r ch w->yfz (fun ae S'=>ae=.ret (.tup [])/\∃ w,S'=SS w/\Rng n f (f+hi) v w/\Hp (ltC c) f lo hi w) kk D (.int .i64 hi) (.int .i64 f) (fnG g) (.int .i64 r) (.int .i64 ch) (SS w):=by
   intro ch hb;have h1:=hb.cc;have h2:=hb.cl;(try simp only [rwp,zA,zB,zC,zD,zE,zF,zG,zH,zI,rwb,reduceIte,yfz]);(try (simp (disch:=omega) only [q04]));refine hD.ia (i:=f+r) (by omega) (by omega) ?_
   (try simp only [rwp,zA,zB,zC,zD,zE,zF,zG,zH,zI,rwb,reduceIte]);(try (simp (disch:=omega) only [q04]));refine hD.ia (i:=f+ch) (by omega) (by omega) (hD.ld (by omega) (hD.ld (by omega) ?_))
   refine q05 (hg _ _) ?_;(try simp only [rwp,zA,zB,zC,zD,zE,zF,zG,zH,zI,rwb,reduceIte]);cases a2:decide (c (w (f+r)) (w (f+ch))<0)
   ·(try simp only [rwp,zA,zB,zC,zD,zE,zF,zG,zH,zI,rwb,reduceIte]);exact q2s ⟨rfl,w,rfl,hr,hs.stop ho hb a2⟩
   ·(try simp only [rwp,zA,zB,zC,zD,zE,zF,zG,zH,zI,rwb,reduceIte]);(try (simp (disch:=omega) only [q04]));refine hD.ia (i:=f+ch) (by omega) (by omega) ?_
    (try simp only [rwp,zA,zB,zC,zD,zE,zF,zG,zH,zI,rwb,reduceIte]);(try (simp (disch:=omega) only [q04]));refine hD.ia (i:=f+r) (by omega) (by omega) (hD.ld (by omega) (hD.ld (by omega) ?_))
    refine hD.ia (i:=f+r) (by omega) (by omega) (hD.st (by omega) ?_)
    refine hD.ia (i:=f+ch) (by omega) (by omega) (hD.st (by omega) ?_)
    rw [y7k];exact q08 rfl (hkk ch _ ⟨by omega,_,rfl,hr.trans (Rng.sw (by omega) (by omega) (by omega) (by omega) hh),hs.step ho hb a2⟩ (by omega))
  (try simp only [rwp,zA,zB,zC,zD,zE,zF,zG,zH,zI,rwb,reduceIte]);(try (simp (disch:=omega) only [q04]));cases a3:decide ((2:Int) * r+1+1<hi)
  ·(try simp only [rwp,zA,zB,zC,zD,zE,zF,zG,zH,zI,rwb,reduceIte,ya8]);have q:=fin (2 * r+1) ⟨.inl rfl,hch,fun d hd hdh=>by
    have:=of_decide_eq_false a3;have e:d=2 * r+1:=by omega
    rw [e];exact Le.refl ho _⟩
   rw [show ((2 * r+1:Nat):Int)=2 * (r:Int)+1 by omega] at q
   exact q
  ·have hlt:=of_decide_eq_true a3;(try simp only [rwp,zA,zB,zC,zD,zE,zF,zG,zH,zI,rwb,reduceIte]);(try (simp (disch:=omega) only [q04]));refine hD.ia (i:=f+(2 * r+1)) (by omega) (by omega) ?_
   (try simp only [rwp,zA,zB,zC,zD,zE,zF,zG,zH,zI,rwb,reduceIte]);(try (simp (disch:=omega) only [q04]));refine hD.ia (i:=f+(2 * r+2)) (by omega) (by omega) (hD.ld (by omega) (hD.ld (by omega) ?_))
   refine q05 (hg _ _) ?_;(try simp only [rwp,zA,zB,zC,zD,zE,zF,zG,zH,zI,rwb,reduceIte]);cases a4:decide (c (w (f+(2 * r+1))) (w (f+(2 * r+2)))<0)
   ·(try simp only [rwp,zA,zB,zC,zD,zE,zF,zG,zH,zI,rwb,reduceIte,ya8]);have q:=fin (2 * r+1) ⟨.inl rfl,hch,fun d hd hdh=>by
     rcases hd with rfl | rfl
     ·exact Le.refl ho _
     ·exact a4⟩
    rw [show ((2 * r+1:Nat):Int)=2 * (r:Int)+1 by omega] at q
    exact q
   ·(try simp only [rwp,zA,zB,zC,zD,zE,zF,zG,zH,zI,rwb,reduceIte,ya8]);(try (simp (disch:=omega) only [q04]));have q:=fin (2 * r+2) ⟨.inr rfl,by omega,fun d hd hdh=>by
     rcases hd with rfl | rfl
     ·exact Le.of_lt ho a4
     ·exact Le.refl ho _⟩
    rw [show ((2 * r+2:Nat):Int)=2 * (r:Int)+1+1 by omega] at q
    exact q
 ·(try simp only [rwp,zA,zB,zC,zD,zE,zF,zG,zH,zI,rwb,reduceIte]);exact q2s ⟨rfl,w,rfl,hr,hs.stop0 (by have:=of_decide_eq_true a1;omega)⟩
theorem x82 (hD:Dat D pt SS n) (hg:∀ x y,y02 PG g [.agg (obC x),.agg (obC y)] (.int .i64 (c x y))) (ho:y0u (ltC c)) {a b:Nat} (hab:a<b) (hb:b<=n) (v:Nat->Ob) :
  ACalls PG yur [D,.int .i64 a,.int .i64 b,fnG g] (SS v) fun ae S'=>ae=.ret (.tup [])/\∃ w,S'=SS w/\Rng n a b v w/\Srt (ltC c) a b w:=by
 have hn:=hD.bd;refine xe4 ?_;unfold xb4;obtain ⟨hi,rfl⟩:∃ hi,b=a+hi:=⟨b-a,by omega⟩
 (try simp only [rwp,zA,zB,zC,zD,zE,zF,zG,zH,zI,rwb,reduceIte]);(try (simp (disch:=omega) only [q04]));have e1:((a+hi:Nat):Int)-a=hi:=by omega
 rw [e1];refine yz4 (a:=hi-1) (b:=2) (by omega) rfl (by omega) (by omega) ?_
 refine LoopP.introS (fun m:Nat=>[(0,D),(3,fnG g),(8,.int .i64 a),(9,.int .i64 0),(10,.int .i64 hi),(11,.int .i64 ((m:Int)-1))]) (fun m S'=>m<=hi/\∃ w,S'=SS w/\Rng n a (a+hi) v w/\Hp (ltC c) a m hi w) (fun m=>m) ((hi-1) / 2+1)
  ⟨by omega,v,rfl,Rng.refl _ _ _ _,fun p q h1 h2 h3=>by omega⟩ (by rw [show (((hi-1) / 2+1:Nat):Int)-1=(((hi-1) / 2:Nat):Int) by omega]) ?_
 rintro m S1 ⟨hm,w,rfl,hr,hp⟩ kk hkk;(try simp only [rwp,zA,zB,zC,zD,zE,zF,zG,zH,zI,rwb,reduceIte,yx9]);cases a1:decide ((0:Int)<=(m:Int)-1)
 ·have e:m=0:=by have:=of_decide_eq_false a1;omega
  subst e;(try simp only [rwp,zA,zB,zC,zD,zE,zF,zG,zH,zI,rwb,reduceIte]);(try (simp (disch:=omega) only [q04]));refine LoopP.introS (fun m:Nat=>[(0,D),(3,fnG g),(8,.int .i64 a),(9,.int .i64 0),(12,.int .i64 ((m:Int)-1))]) (fun m S'=>m<=hi/\∃ w,S'=SS w/\Rng n a (a+hi) v w/\Pop (ltC c) a m hi w) (fun m=>m) hi
   ⟨by omega,w,rfl,hr,⟨hp,Srt.one (by omega),fun i j h1 h2 h3=>by omega⟩⟩ rfl ?_
  rintro m S2 ⟨hm2,u,rfl,hru,hpu⟩ kk2 hkk2;(try simp only [rwp,zA,zB,zC,zD,zE,zF,zG,zH,zI,rwb,reduceIte,yx8]);cases a2:decide ((0:Int)<=(m:Int)-1)
  ·have e:m=0:=by have:=of_decide_eq_false a2;omega
   subst e;(try simp only [rwp,zA,zB,zC,zD,zE,zF,zG,zH,zI,rwb,reduceIte]);exact q2s ⟨rfl,u,rfl,hru,hpu.s⟩
  ·have hle:=of_decide_eq_true a2;obtain ⟨i,rfl⟩:∃ i,m=i+1:=⟨m-1,by omega⟩
   rw [show ((i+1:Nat):Int)-1=(i:Int) by omega]
   (try simp only [rwp,zA,zB,zC,zD,zE,zF,zG,zH,zI,rwb,reduceIte]);(try (simp (disch:=omega) only [q04]));refine hD.ia (i:=a+i) (by omega) (by omega) (hD.ia (i:=a) rfl (by omega) (hD.ld (by omega) (hD.ld (by omega) ?_)))
   refine hD.ia (i:=a) rfl (by omega) (hD.st (by omega) (hD.ia (i:=a+i) (by omega) (by omega) (hD.st (by omega) ?_)))
   rw [y7k];refine q0c (yw6 hD hg ho (f:=a) (lo:=0) (hi:=i) (by omega) (by omega) _ (Sif.start hpu.pre)) ?_
   rintro ae S3 ⟨rfl,x,rfl,hrx,hpx⟩;dsimp only;(try simp only [rwp,zA,zB,zC,zD,zE,zF,zG,zH,zI,rwb,reduceIte]);(try (simp (disch:=omega) only [q04]));exact q08 rfl (hkk2 i _ ⟨by omega,x,rfl,(hru.trans (Rng.sw (by omega) (by omega) (by omega) (by omega) hb)).trans (hrx.mono (Nat.le_refl _) (by omega)),hpu.step ho (by omega) (by omega) hrx hpx⟩ (by omega))
 ·have hle:=of_decide_eq_true a1;obtain ⟨i,rfl⟩:∃ i,m=i+1:=⟨m-1,by omega⟩
  rw [show ((i+1:Nat):Int)-1=(i:Int) by omega]
  (try simp only [rwp,zA,zB,zC,zD,zE,zF,zG,zH,zI,rwb,reduceIte]);refine q0c (yw6 hD hg ho (f:=a) (lo:=i) (hi:=hi) (by omega) (by omega) w (Sif.start hp)) ?_
  rintro ae S3 ⟨rfl,x,rfl,hrx,hpx⟩;dsimp only;(try simp only [rwp,zA,zB,zC,zD,zE,zF,zG,zH,zI,rwb,reduceIte]);(try (simp (disch:=omega) only [q04]));exact q08 rfl (hkk i _ ⟨by omega,x,rfl,hr.trans hrx,hpx⟩ (by omega))
end
set_option maxRecDepth 4000
section
variable {D:AV} {pt:Nat->AV} {SS:(Nat->Ob)->q00} {n g:Nat} {c:Ob->Ob->Int}
theorem Dat.swap (hD:Dat D pt SS n) {i j:Nat} {x y x' y':Int} {v:Nat->Ob} {KT:q00->Prop} (ex:x=i) (ey:y=j) (ex':x'=i) (ey':y'=j) (hi:i<n) (hj:j<n) (hk:KT (SS (sw v j i))) :
  iaW 2 D (.int .i64 x) fun p=>iaW 2 D (.int .i64 y) fun q=>ldW (SS v) 2 true p fun a=>ldW (SS v) 2 true q fun b=>iaW 2 D (.int .i64 y') fun r=>stW (SS v) 2 r a fun S=>iaW 2 D (.int .i64 x') fun t=>stW S 2 t b KT:=by
 refine hD.ia ex hi (hD.ia ey hj (hD.ld hi (hD.ld hj (hD.ia ey' hj (hD.st hj (hD.ia ex' hi (hD.st hi ?_)))))));rw [y7k];exact hk
theorem Dat.cmp (hD:Dat D pt SS n) (hg:∀ x y,y02 PG g [.agg (obC x),.agg (obC y)] (.int .i64 (c x y))) {i j:Nat} {x y:Int} {v:Nat->Ob} {K Qp:AV->q00->Prop} (ex:x=i) (ey:y=j) (hi:i<n) (hj:j<n) (hk:K (.int .i64 (c (v i) (v j))) (SS v)) :
  iaW 2 D (.int .i64 x) fun p=>iaW 2 D (.int .i64 y) fun q=>ldW (SS v) 2 true p fun a=>ldW (SS v) 2 true q fun b=>caW PG (SS v) (fnG g) [a,b] K Qp:=
 hD.ia ex hi (hD.ia ey hj (hD.ld hi (hD.ld hj (q05 (hg _ _) hk))))
theorem yce (hD:Dat D pt SS n) (hg:∀ x y,y02 PG g [.agg (obC x),.agg (obC y)] (.int .i64 (c x y))) (ho:y0u (ltC c)) {a b p:Nat} (hap:a<=p) (hpb:p<b) (hb:b<=n) (v:Nat->Ob) :
  ACalls PG yul [D,.int .i64 a,.int .i64 b,.int .i64 p,fnG g] (SS v) fun ae S'=>∃ (w:Nat->Ob) (m:Nat) (al:Bool),ae=.ret (.tup [.int .i64 m,.bool al])/\S'=SS w/\Rng n a b v w/\Cut (ltC c) a b m w:=by
 have hn:=hD.bd;refine xdy ?_;unfold xay;refine hD.swap rfl rfl rfl rfl (by omega) (by omega) ?_
 have hr0:Rng n a b v (sw v a p):=Rng.sw (by omega) (by omega) hap hpb hb
 generalize sw v a p=v0 at hr0;(try simp only [rwp,zA,zB,zC,zD,zE,zF,zG,zH,zI,rwb,reduceIte]);(try (simp (disch:=omega) only [q04]));generalize hQ:(fun ae S'=>∃ (w:Nat->Ob) (m:Nat) (al:Bool),ae=AEnd.ret (.tup [.int .i64 m,.bool al])/\S'=SS w/\Rng n a b v w/\Cut (ltC c) a b m w)=QF
 have fin:∀ (w:Nat->Ob) (i j:Nat) (al:Bool),Rng n a b v w->Par (ltC c) a b i j w->j<i->rtW [.tmp (.int .i64 j),.tmp (.bool al)] QF (SS (sw w j a)):=by
  intro w i j al hr hp hij;have h1:=hp.i1;have h2:=hp.ij;have h3:=hp.j1;subst hQ;exact q5n ⟨_,j,al,rfl,rfl,hr.trans (Rng.sw (by omega) (by omega) (by omega) (by omega) hb),hp.cut ho hij⟩
 refine LoopP.introS (fun i:Nat=>[(0,D),(1,.int .i64 a),(4,fnG g),(12,.int .i64 i),(13,.int .i64 ((b-1:Nat):Int))]) (fun i S'=>S'=SS v0/\Par (ltC c) a b i (b-1) v0) (fun i=>b-i) (a+1)
  ⟨rfl,⟨by omega,by omega,by omega,fun k h1 h2=>by omega,fun k h1 h2=>by omega⟩⟩ (by rw [show ((b-1:Nat):Int)=(b:Int)-1 by omega];rfl) ?_
 rintro i S1 ⟨rfl,hp⟩ kk hkk;have hi1:=hp.i1;have hij:=hp.ij;(try simp only [rwp,zA,zB,zC,zD,zE,zF,zG,zH,zI,rwb,reduceIte,ywz]);have next:(∀ j:Nat,i<=j->j<=b-1->Le (ltC c) (v0 a) (v0 i))->LoopP (fun r0 l S=>yon QF r0 (y00 l 0) (y00 l 1) (y00 l 4) (y00 l 12) (y00 l 13) S) [(0,D),(1,.int .i64 a),(4,fnG g),(12,.int .i64 i),(13,.int .i64 ((b-1:Nat):Int))] (SS v0):=by
  intro hle;refine LoopP.introS (fun j:Nat=>[(0,D),(1,.int .i64 a),(4,fnG g),(12,.int .i64 i),(13,.int .i64 j)]) (fun j S'=>S'=SS v0/\Par (ltC c) a b i j v0) (fun j=>j) (b-1) ⟨rfl,hp⟩ rfl ?_
  rintro j S2 ⟨rfl,hp2⟩ kk2 hkk2;have hj1:=hp2.j1;have hij2:=hp2.ij;(try simp only [rwp,zA,zB,zC,zD,zE,zF,zG,zH,zI,rwb,reduceIte,yon]);cases a1:decide ((i:Int)<=j)
  ·have hlt:j<i:=by have:=of_decide_eq_false a1;omega
   (try simp only [rwp,zA,zB,zC,zD,zE,zF,zG,zH,zI,rwb,reduceIte,yae,decide_eq_true (show (j:Int)<i by omega)])
   refine hD.swap rfl rfl rfl rfl (by omega) (by omega) ?_
   exact fin v0 i j true hr0 hp2 hlt
  ·have hle2:i<=j:=by have:=of_decide_eq_true a1;omega
   (try simp only [rwp,zA,zB,zC,zD,zE,zF,zG,zH,zI,rwb,reduceIte]);refine hD.cmp hg (i:=j) (j:=a) rfl rfl (by omega) (by omega) ?_
   (try simp only [rwp,zA,zB,zC,zD,zE,zF,zG,zH,zI,rwb,reduceIte]);cases a2:decide (c (v0 j) (v0 a)<0)
   ·(try simp only [rwp,zA,zB,zC,zD,zE,zF,zG,zH,zI,rwb,reduceIte,yae]);(try (simp (disch:=omega) only [q04]));rw [show (j:Int)-1=((j-1:Nat):Int) by omega]
    refine q08 rfl (hkk2 (j-1) _ ⟨rfl,hi1,by omega,by omega,hp2.l,fun k h1 h2=>?_⟩ (by omega))
    by_cases e:k=j
    ·rw [e];exact a2
    ·exact hp2.r k (by omega) h2
   ·(try simp only [rwp,zA,zB,zC,zD,zE,zF,zG,zH,zI,rwb,reduceIte,yae,decide_eq_false (show ¬ (j:Int)<i by omega)])
    refine hD.swap rfl rfl rfl rfl (by omega) (by omega) ?_
    (try simp only [rwp,zA,zB,zC,zD,zE,zF,zG,zH,zI,rwb,reduceIte]);(try (simp (disch:=omega) only [q04]));obtain ⟨hp3,hlt3⟩:=hp2.swap hle2 (hle j hle2 (by omega)) a2
    have hr3:Rng n a b v (sw v0 i j):=hr0.trans (Rng.sw (by omega) (by omega) (by omega) (by omega) hb)
    generalize sw v0 i j=v1 at hp3 hr3;clear hkk hkk2 hle hp hp2 hr0 a2;have ei:(i:Int)+1=((i+1:Nat):Int):=by omega
    have ej:(j:Int)-1=((j-1:Nat):Int):=by omega
    rw [ei,ej];generalize i+1=i at hp3;generalize j-1=j at hp3;refine LoopP.introS (fun x:Nat×Nat=>[(0,D),(1,.int .i64 a),(4,fnG g),(12,.int .i64 x.1),(13,.int .i64 x.2)]) (fun x S'=>∃ w,S'=SS w/\Rng n a b v w/\Par (ltC c) a b x.1 x.2 w) (fun x=>x.2) (i,j) ⟨v1,rfl,hr3,hp3⟩ rfl ?_
    rintro ⟨i,j⟩ S3 ⟨w,rfl,hr,hp⟩ kk hkk;dsimp only at hp ⊢;unfold ywy;have hj0:=hp.j1;refine LoopP.introS (fun i:Nat=>[(0,D),(1,.int .i64 a),(4,fnG g),(12,.int .i64 i),(13,.int .i64 j)]) (fun i S'=>S'=SS w/\Par (ltC c) a b i j w) (fun i=>b-i) i ⟨rfl,hp⟩ rfl ?_
    rintro i2 S4 ⟨rfl,hp4⟩ kk2 hkk2;have hi4:=hp4.i1;have hij4:=hp4.ij;(try simp only [rwp,zA,zB,zC,zD,zE,zF,zG,zH,zI,rwb,reduceIte,ywx]);have next:(∀ j2:Nat,i2<=j2->j2<=j->Le (ltC c) (w a) (w i2))->LoopP (fun r1 l S=>yom QF kk r1 (y00 l 0) (y00 l 1) (y00 l 4) (y00 l 12) (y00 l 13) S) [(0,D),(1,.int .i64 a),(4,fnG g),(12,.int .i64 i2),(13,.int .i64 j)] (SS w):=by
     intro hle;refine LoopP.introS (fun j2:Nat=>[(0,D),(1,.int .i64 a),(4,fnG g),(12,.int .i64 i2),(13,.int .i64 j2)]) (fun j2 S'=>S'=SS w/\j2<=j/\Par (ltC c) a b i2 j2 w) (fun j2=>j2) j ⟨rfl,Nat.le_refl _,hp4⟩ rfl ?_
     rintro j2 S5 ⟨rfl,hjj,hp5⟩ kk3 hkk3;have hj5:=hp5.j1;have hij5:=hp5.ij;(try simp only [rwp,zA,zB,zC,zD,zE,zF,zG,zH,zI,rwb,reduceIte,yom]);cases a1:decide ((i2:Int)<=j2)
     ·have hlt:j2<i2:=by have:=of_decide_eq_false a1;omega
      (try simp only [rwp,zA,zB,zC,zD,zE,zF,zG,zH,zI,rwb,reduceIte,yac,decide_eq_true (show (j2:Int)<i2 by omega)])
      refine hD.swap rfl rfl rfl rfl (by omega) (by omega) ?_
      exact fin w i2 j2 false hr hp5 hlt
     ·have hle2:i2<=j2:=by have:=of_decide_eq_true a1;omega
      (try simp only [rwp,zA,zB,zC,zD,zE,zF,zG,zH,zI,rwb,reduceIte]);refine hD.cmp hg (i:=j2) (j:=a) rfl rfl (by omega) (by omega) ?_
      (try simp only [rwp,zA,zB,zC,zD,zE,zF,zG,zH,zI,rwb,reduceIte]);cases a2:decide (c (w j2) (w a)<0)
      ·(try simp only [rwp,zA,zB,zC,zD,zE,zF,zG,zH,zI,rwb,reduceIte,yac]);(try (simp (disch:=omega) only [q04]));rw [show (j2:Int)-1=((j2-1:Nat):Int) by omega]
       refine q08 rfl (hkk3 (j2-1) _ ⟨rfl,by omega,hi4,by omega,by omega,hp5.l,fun k h1 h2=>?_⟩ (by omega))
       by_cases e:k=j2
       ·rw [e];exact a2
       ·exact hp5.r k (by omega) h2
      ·(try simp only [rwp,zA,zB,zC,zD,zE,zF,zG,zH,zI,rwb,reduceIte,yac,decide_eq_false (show ¬ (j2:Int)<i2 by omega)])
       refine hD.swap rfl rfl rfl rfl (by omega) (by omega) ?_
       (try simp only [rwp,zA,zB,zC,zD,zE,zF,zG,zH,zI,rwb,reduceIte]);(try (simp (disch:=omega) only [q04]));obtain ⟨hp6,hlt6⟩:=hp5.swap hle2 (hle j2 hle2 hjj) a2;rw [show (i2:Int)+1=((i2+1:Nat):Int) by omega,show (j2:Int)-1=((j2-1:Nat):Int) by omega]
       exact q08 rfl (hkk (i2+1,j2-1) _ ⟨_,rfl,hr.trans (Rng.sw (by omega) (by omega) (by omega) (by omega) hb),hp6⟩ (by dsimp only;omega))
    cases a1:decide ((i2:Int)<=j)
    ·(try simp only [rwp,zA,zB,zC,zD,zE,zF,zG,zH,zI,rwb,reduceIte,yad]);exact next fun j2 h1 h2=>by have:=of_decide_eq_false a1;omega
    ·have hle2:i2<=j:=by have:=of_decide_eq_true a1;omega
     (try simp only [rwp,zA,zB,zC,zD,zE,zF,zG,zH,zI,rwb,reduceIte]);refine hD.cmp hg (i:=i2) (j:=a) rfl rfl (by omega) (by omega) ?_
     (try simp only [rwp,zA,zB,zC,zD,zE,zF,zG,zH,zI,rwb,reduceIte]);cases a2:decide (c (w i2) (w a)<0)
     ·(try simp only [rwp,zA,zB,zC,zD,zE,zF,zG,zH,zI,rwb,reduceIte,yad]);exact next fun _ _ _=>a2
     ·(try simp only [rwp,zA,zB,zC,zD,zE,zF,zG,zH,zI,rwb,reduceIte,yad]);(try (simp (disch:=omega) only [q04]));rw [show (i2:Int)+1=((i2+1:Nat):Int) by omega]
      refine q08 rfl (hkk2 (i2+1) _ ⟨rfl,by omega,hp4.j1,by omega,fun k h1 h2=>?_,hp4.r⟩ (by omega))
      by_cases e:k=i2
      ·rw [e];exact a2
      ·exact hp4.l k h1 (by omega)
 cases a1:decide ((i:Int)<=((b-1:Nat):Int))
 ·(try simp only [rwp,zA,zB,zC,zD,zE,zF,zG,zH,zI,rwb,reduceIte,yaf]);exact next fun j h1 h2=>by have:=of_decide_eq_false a1;omega
 ·have hle2:i<=b-1:=by have:=of_decide_eq_true a1;omega
  (try simp only [rwp,zA,zB,zC,zD,zE,zF,zG,zH,zI,rwb,reduceIte]);refine hD.cmp hg (i:=i) (j:=a) rfl rfl (by omega) (by omega) ?_
  (try simp only [rwp,zA,zB,zC,zD,zE,zF,zG,zH,zI,rwb,reduceIte]);cases a2:decide (c (v0 i) (v0 a)<0)
  ·(try simp only [rwp,zA,zB,zC,zD,zE,zF,zG,zH,zI,rwb,reduceIte,yaf]);exact next fun _ _ _=>a2
  ·(try simp only [rwp,zA,zB,zC,zD,zE,zF,zG,zH,zI,rwb,reduceIte,yaf]);(try (simp (disch:=omega) only [q04]));rw [show (i:Int)+1=((i+1:Nat):Int) by omega]
   refine q08 rfl (hkk (i+1) _ ⟨rfl,by omega,hp.j1,by omega,fun k h1 h2=>?_,hp.r⟩ (by omega))
   by_cases e:k=i
   ·rw [e];exact a2
   ·exact hp.l k h1 (by omega)
theorem y9d (hD:Dat D pt SS n) (hg:∀ x y,y02 PG g [.agg (obC x),.agg (obC y)] (.int .i64 (c x y))) (ho:y0u (ltC c)) {a b p:Nat} (hap:a<=p) (hpb:p<b) (hb:b<=n) (v:Nat->Ob) :
  ACalls PG yum [D,.int .i64 a,.int .i64 b,.int .i64 p,fnG g] (SS v) fun ae S'=>∃ (w:Nat->Ob) (m:Nat),ae=.ret (.int .i64 m)/\S'=SS w/\Rng n a b v w/\w a=v p/\a<m/\m<=b/\∀ k,a<=k->k<m->Le (ltC c) (w k) (w a):=by
 have hn:=hD.bd;refine xdz ?_;unfold xaz;refine hD.swap rfl rfl rfl rfl (by omega) (by omega) ?_
 have hr0:Rng n a b v (sw v a p):=Rng.sw (by omega) (by omega) hap hpb hb
 have hv0:sw v a p a=v p:=yp7;generalize sw v a p=v0 at hr0 hv0;(try simp only [rwp,zA,zB,zC,zD,zE,zF,zG,zH,zI,rwb,reduceIte]);(try (simp (disch:=omega) only [q04]));generalize hQ:(fun ae S'=>∃ (w:Nat->Ob) (m:Nat),ae=AEnd.ret (.int .i64 m)/\S'=SS w/\Rng n a b v w/\w a=v p/\a<m/\m<=b/\∀ k,a<=k->k<m->Le (ltC c) (w k) (w a))=QF
 refine LoopP.introS (fun x:Nat×Nat=>[(0,D),(1,.int .i64 a),(4,fnG g),(11,.int .i64 x.1),(12,.int .i64 x.2)]) (fun x S'=>∃ w,S'=SS w/\Rng n a b v w/\w a=v p/\ParE (ltC c) a b x.1 x.2 w) (fun x=>x.2) (a+1,b-1)
  ⟨v0,rfl,hr0,hv0,⟨by dsimp only;omega,by dsimp only;omega,by dsimp only;omega,fun k h1 h2=>by dsimp only at h2;omega,fun k h1 h2=>by dsimp only at h1;omega⟩⟩ (by dsimp only;rw [show ((b-1:Nat):Int)=(b:Int)-1 by omega];rfl) ?_
 rintro ⟨i,j⟩ S3 ⟨w,rfl,hr,hwa,hp⟩ kk hkk;dsimp only at hp ⊢;unfold yx1;have hj0:=hp.j1;refine LoopP.introS (fun i:Nat=>[(0,D),(1,.int .i64 a),(4,fnG g),(11,.int .i64 i),(12,.int .i64 j)]) (fun i S'=>S'=SS w/\ParE (ltC c) a b i j w) (fun i=>b-i) i ⟨rfl,hp⟩ rfl ?_
 rintro i2 S4 ⟨rfl,hp4⟩ kk2 hkk2;have hi4:=hp4.i1;have hij4:=hp4.ij;(try simp only [rwp,zA,zB,zC,zD,zE,zF,zG,zH,zI,rwb,reduceIte,yx0]);have next:(∀ j2:Nat,i2<=j2->j2<=j->ltC c (w a) (w i2)=true)->LoopP (fun r1 l S=>yoo QF kk r1 (y00 l 0) (y00 l 1) (y00 l 4) (y00 l 11) (y00 l 12) S) [(0,D),(1,.int .i64 a),(4,fnG g),(11,.int .i64 i2),(12,.int .i64 j)] (SS w):=by
  intro hle;refine LoopP.introS (fun j2:Nat=>[(0,D),(1,.int .i64 a),(4,fnG g),(11,.int .i64 i2),(12,.int .i64 j2)]) (fun j2 S'=>S'=SS w/\j2<=j/\ParE (ltC c) a b i2 j2 w) (fun j2=>j2) j ⟨rfl,Nat.le_refl _,hp4⟩ rfl ?_
  rintro j2 S5 ⟨rfl,hjj,hp5⟩ kk3 hkk3;have hj5:=hp5.j1;have hij5:=hp5.ij;(try simp only [rwp,zA,zB,zC,zD,zE,zF,zG,zH,zI,rwb,reduceIte,yoo]);cases a1:decide ((i2:Int)<=j2)
  ·have hlt:j2<i2:=by have:=of_decide_eq_false a1;omega
   (try simp only [rwp,zA,zB,zC,zD,zE,zF,zG,zH,zI,rwb,reduceIte,yag,decide_eq_true (show (j2:Int)<i2 by omega)])
   subst hQ;refine q02 ⟨w,i2,rfl,rfl,hr,hwa,hi4,by omega,fun k h1 h2=>?_⟩
   by_cases e:k=a
   ·rw [e];exact Le.refl ho _
   ·exact hp5.l k (by omega) h2
  ·have hle2:i2<=j2:=by have:=of_decide_eq_true a1;omega
   (try simp only [rwp,zA,zB,zC,zD,zE,zF,zG,zH,zI,rwb,reduceIte]);refine hD.cmp hg (i:=a) (j:=j2) rfl rfl (by omega) (by omega) ?_
   (try simp only [rwp,zA,zB,zC,zD,zE,zF,zG,zH,zI,rwb,reduceIte]);cases a2:decide (c (w a) (w j2)<0)
   ·(try simp only [rwp,zA,zB,zC,zD,zE,zF,zG,zH,zI,rwb,reduceIte,yag,decide_eq_false (show ¬ (j2:Int)<i2 by omega)])
    refine hD.swap rfl rfl rfl rfl (by omega) (by omega) ?_
    (try simp only [rwp,zA,zB,zC,zD,zE,zF,zG,zH,zI,rwb,reduceIte]);(try (simp (disch:=omega) only [q04]));obtain ⟨hp6,hlt6⟩:=hp5.swap hle2 (hle j2 hle2 hjj) a2;rw [show (i2:Int)+1=((i2+1:Nat):Int) by omega,show (j2:Int)-1=((j2-1:Nat):Int) by omega]
    exact q08 rfl (hkk (i2+1,j2-1) _ ⟨_,rfl,hr.trans (Rng.sw (by omega) (by omega) (by omega) (by omega) hb),(y0s (by omega) (by omega)).trans hwa,hp6⟩ (by dsimp only;omega))
   ·(try simp only [rwp,zA,zB,zC,zD,zE,zF,zG,zH,zI,rwb,reduceIte,yag]);(try (simp (disch:=omega) only [q04]));rw [show (j2:Int)-1=((j2-1:Nat):Int) by omega]
    refine q08 rfl (hkk3 (j2-1) _ ⟨rfl,by omega,hi4,by omega,by omega,hp5.l,fun k h1 h2=>?_⟩ (by omega))
    by_cases e:k=j2
    ·rw [e];exact a2
    ·exact hp5.r k (by omega) h2
 cases a1:decide ((i2:Int)<=j)
 ·(try simp only [rwp,zA,zB,zC,zD,zE,zF,zG,zH,zI,rwb,reduceIte,yah]);exact next fun j2 h1 h2=>by have:=of_decide_eq_false a1;omega
 ·have hle2:i2<=j:=by have:=of_decide_eq_true a1;omega
  (try simp only [rwp,zA,zB,zC,zD,zE,zF,zG,zH,zI,rwb,reduceIte]);refine hD.cmp hg (i:=a) (j:=i2) rfl rfl (by omega) (by omega) ?_
  (try simp only [rwp,zA,zB,zC,zD,zE,zF,zG,zH,zI,rwb,reduceIte]);cases a2:decide (c (w a) (w i2)<0)
  ·(try simp only [rwp,zA,zB,zC,zD,zE,zF,zG,zH,zI,rwb,reduceIte,yah]);(try (simp (disch:=omega) only [q04]));rw [show (i2:Int)+1=((i2+1:Nat):Int) by omega]
   refine q08 rfl (hkk2 (i2+1) _ ⟨rfl,by omega,hp4.j1,by omega,fun k h1 h2=>?_,hp4.r⟩ (by omega))
   by_cases e:k=i2
   ·rw [e];exact a2
   ·exact hp4.l k h1 (by omega)
  ·(try simp only [rwp,zA,zB,zC,zD,zE,zF,zG,zH,zI,rwb,reduceIte,yah]);exact next fun _ _ _=>a2
theorem ymq (hD:Dat D pt SS n) {a b:Nat} (hab:a<b) (hb:b<=n) (F:AV) (v:Nat->Ob) :
  ACalls PG yuo [D,.int .i64 a,.int .i64 b,F] (SS v) fun ae S'=>ae=.ret (.tup [])/\∃ w,S'=SS w/\Rng n a b v w:=by
 have hn:=hD.bd;refine xe1 ?_;unfold xb1;(try simp only [rwp,zA,zB,zC,zD,zE,zF,zG,zH,zI,rwb,reduceIte]);(try (simp (disch:=omega) only [q04]));rw [show (b:Int)-1=((b-1:Nat):Int) by omega]
 refine LoopP.introS (fun x:Nat×Nat=>[(0,D),(8,.int .i64 x.1),(9,.int .i64 x.2)]) (fun x S'=>a<=x.1/\x.2<b/\x.1<=x.2+1/\∃ w,S'=SS w/\Rng n a b v w) (fun x=>x.2) (a,b-1) ⟨by dsimp only;omega,by dsimp only;omega,by dsimp only;omega,v,rfl,Rng.refl _ _ _ _⟩ rfl ?_
 rintro ⟨i,j⟩ S1 ⟨h1,h2,h3,w,rfl,hr⟩ kk hkk;dsimp only at h1 h2 h3 ⊢;(try simp only [rwp,zA,zB,zC,zD,zE,zF,zG,zH,zI,rwb,reduceIte,yx6]);cases a1:decide ((i:Int)<j)
 ·(try simp only [rwp,zA,zB,zC,zD,zE,zF,zG,zH,zI,rwb,reduceIte]);exact q2s ⟨rfl,w,rfl,hr⟩
 ·have hlt:=of_decide_eq_true a1;(try simp only [rwp,zA,zB,zC,zD,zE,zF,zG,zH,zI,rwb,reduceIte]);refine hD.swap rfl rfl rfl rfl (by omega) (by omega) ?_
  (try simp only [rwp,zA,zB,zC,zD,zE,zF,zG,zH,zI,rwb,reduceIte]);(try (simp (disch:=omega) only [q04]));rw [show (i:Int)+1=((i+1:Nat):Int) by omega,show (j:Int)-1=((j-1:Nat):Int) by omega]
  exact q08 rfl (hkk (i+1,j-1) _ ⟨by dsimp only;omega,by dsimp only;omega,by dsimp only;omega,_,rfl,hr.trans (Rng.sw (by omega) (by omega) (by omega) (by omega) hb)⟩ (by dsimp only;omega))
end
set_option maxRecDepth 4000
section
variable {D:AV} {pt:Nat->AV} {SS:(Nat->Ob)->q00} {n g:Nat} {c:Ob->Ob->Int} {cb:Nat} {v:Nat->Ob}
abbrev swC (k:Int):AObj:=.cells 3 [.int .i64 k] 1
theorem y6y (hD:Dat D pt SS n) (hg:∀ x y,y02 PG g [.agg (obC x),.agg (obC y)] (.int .i64 (c x y))) (hc:y01 (SS v) cb=none) {i j k:Nat} (hi:i<n) (hj:j<n) (hk:k<=100000) :
  ACalls PG yti [D,.int .i64 i,.int .i64 j,.ptr cb 0,fnG g] (supd (SS v) cb (swC k)) fun ae S'=>∃ x y k':Nat,ae=.ret (.tup [.int .i64 x,.int .i64 y])/\S'=supd (SS v) cb (swC k')/\k'<=k+1/\((x=i/\y=j)\/(x=j/\y=i)):=by
 refine xcv ?_;unfold x9v;refine hD.ia rfl hj (hD.ia rfl hi (hD.fr hc hj (hD.fr hc hi (q05 (hg _ _) ?_))));have ho:=q0l (S:=SS v) (b:=cb) (t:=3) (cs:=[.int .i64 k]) (tot:=1);have hcl:=q07 ho;(try simp only [rwp,zA,zB,zC,zD,zE,zF,zG,zH,zI,rwb,reduceIte]);cases a1:decide (c (v j) (v i)<0)
 ·(try simp only [rwp,zA,zB,zC,zD,zE,zF,zG,zH,zI,rwb,reduceIte]);exact q5n ⟨i,j,k,rfl,rfl,by omega,.inl ⟨rfl,rfl⟩⟩
 ·(try simp only [rwp,zA,zB,zC,zD,zE,zF,zG,zH,zI,rwb,reduceIte,hcl,ho,q1b])
  (simp (disch:=omega) only [q04])
  refine q5n ⟨j,i,k+1,rfl,?_,by omega,.inr ⟨rfl,rfl⟩⟩
  rw [show ((k+1:Nat):Int)=(k:Int)+1 by omega]
theorem y70 (hD:Dat D pt SS n) (hg:∀ x y,y02 PG g [.agg (obC x),.agg (obC y)] (.int .i64 (c x y))) (hc:y01 (SS v) cb=none) {i j l k:Nat} (hi:i<n) (hj:j<n) (hl:l<n) (hk:k<=1000) :
  ACalls PG ytv [D,.int .i64 i,.int .i64 j,.int .i64 l,.ptr cb 0,fnG g] (supd (SS v) cb (swC k)) fun ae S'=>∃ m k':Nat,ae=.ret (.int .i64 m)/\S'=supd (SS v) cb (swC k')/\k'<=k+3/\(m=i\/m=j\/m=l):=by
 refine xd6 ?_;unfold xa6;refine q0c (y6y hD hg hc hi hj (by omega)) ?_
 rintro ae S1 ⟨x,y,k1,rfl,rfl,h1,h2⟩;dsimp only;(try simp only [rwp,zA,zB,zC,zD,zE,zF,zG,zH,zI,rwb,reduceIte]);refine q0c (y6y hD hg hc (i:=y) (j:=l) (by omega) hl (by omega)) ?_
 rintro ae S2 ⟨x2,y2,k2,rfl,rfl,h3,h4⟩;dsimp only;(try simp only [rwp,zA,zB,zC,zD,zE,zF,zG,zH,zI,rwb,reduceIte]);refine q0c (y6y hD hg hc (i:=x) (j:=x2) (by omega) (by omega) (by omega)) ?_
 rintro ae S3 ⟨x3,y3,k3,rfl,rfl,h5,h6⟩;dsimp only;(try simp only [rwp,zA,zB,zC,zD,zE,zF,zG,zH,zI,rwb,reduceIte]);exact q02 ⟨y3,k3,rfl,rfl,by omega,by omega⟩
theorem y2d (hD:Dat D pt SS n) (hg:∀ x y,y02 PG g [.agg (obC x),.agg (obC y)] (.int .i64 (c x y))) (hc:y01 (SS v) cb=none) {i k:Nat} (h0:0<i) (hi:i+1<n) (hk:k<=1000) :
  ACalls PG ytw [D,.int .i64 i,.ptr cb 0,fnG g] (supd (SS v) cb (swC k)) fun ae S'=>∃ m k':Nat,ae=.ret (.int .i64 m)/\S'=supd (SS v) cb (swC k')/\k'<=k+3/\i<=m+1/\m<=i+1:=by
 have hn:=hD.bd;refine xd7 ?_;unfold xa7;(try simp only [rwp,zA,zB,zC,zD,zE,zF,zG,zH,zI,rwb,reduceIte])
 (simp (disch:=omega) only [q04])
 rw [show (i:Int)-1=((i-1:Nat):Int) by omega,show (i:Int)+1=((i+1:Nat):Int) by omega]
 refine q0c (y70 hD hg hc (i:=i-1) (j:=i) (l:=i+1) (by omega) (by omega) (by omega) hk) ?_
 rintro ae S1 ⟨m,k1,rfl,rfl,h1,h2⟩;dsimp only;exact q02 ⟨m,k1,rfl,rfl,by omega,by omega,by omega⟩
theorem x1f (hD:Dat D pt SS n) (hg:∀ x y,y02 PG g [.agg (obC x),.agg (obC y)] (.int .i64 (c x y))) {a b:Nat} (hab:a+12<b) (hb:b<=n) :
  ACalls PG yup [D,.int .i64 a,.int .i64 b,fnG g] (SS v) fun ae S'=>∃ (p:Nat) (h:Int),ae=.ret (.tup [.int .i64 p,.int .i64 h])/\S'=SS v/\a<=p/\p<b:=by
 have hn:=hD.bd;refine xe2 ?_;unfold xb2;obtain ⟨l,rfl⟩:∃ l,b=a+l:=⟨b-a,by omega⟩
 (try simp only [rwp,zA,zB,zC,zD,zE,zF,zG,zH,zI,rwb,reduceIte]);(try (simp (disch:=omega) only [q04]));rw [show ((a+l:Nat):Int)-a=(l:Int) by omega]
 intro cb hcb;have fin:∀ (p k:Nat),a<=p->p<a+l->yaj (fun ae S'=>∃ (p:Nat) (h:Int),ae=.ret (.tup [.int .i64 p,.int .i64 h])/\S'=SS v/\a<=p/\p<a+l) (.ptr cb 0) (.int .i64 p) (supd (SS v) cb (swC k)):=by
  intro p k h1 h2;have hcl:=q07 (q0l (S:=SS v) (b:=cb) (t:=3) (cs:=[.int .i64 k]) (tot:=1));(try simp only [rwp,zA,zB,zC,zD,zE,zF,zG,zH,zI,rwb,reduceIte,yaj,hcl]);have out:∀ h:Int,rtW [.tmp (.int .i64 p),.tmp (.int .i64 h)] (fun ae S'=>∃ (p:Nat) (h:Int),ae=.ret (.tup [.int .i64 p,.int .i64 h])/\S'=SS v/\a<=p/\p<a+l) (supd (SS v) cb (swC k)):=fun h=>q18 (SS v) (Sub.supd hcb (Sub.refl _)) ⟨p,h,rfl,rfl,h1,h2⟩
  cases a1:decide ((k:Int)=0)
  ·(try simp only [rwp,zA,zB,zC,zD,zE,zF,zG,zH,zI,rwb,reduceIte]);cases a2:decide ((k:Int)=12)
   ·(try simp only [rwp,zA,zB,zC,zD,zE,zF,zG,zH,zI,rwb,reduceIte]);exact out 0
   ·(try simp only [rwp,zA,zB,zC,zD,zE,zF,zG,zH,zI,rwb,reduceIte]);exact out 2
  ·(try simp only [rwp,zA,zB,zC,zD,zE,zF,zG,zH,zI,rwb,reduceIte]);exact out 1
 refine yz4 (a:=l) (b:=4) rfl rfl (by omega) (by omega) ?_
 have hq:3<=l / 4/\4 * (l / 4)<=l:=by omega
 generalize hq4:l / 4=q at hq;(try simp only [rwp,zA,zB,zC,zD,zE,zF,zG,zH,zI,rwb,reduceIte]);(try (simp (disch:=omega) only [q04]));refine yz4 (a:=l) (b:=4) rfl rfl (by omega) (by omega) ?_
 rw [hq4];(try simp only [rwp,zA,zB,zC,zD,zE,zF,zG,zH,zI,rwb,reduceIte]);(try (simp (disch:=omega) only [q04]));refine yz4 (a:=l) (b:=4) rfl rfl (by omega) (by omega) ?_
 rw [hq4];(try simp only [rwp,zA,zB,zC,zD,zE,zF,zG,zH,zI,rwb,reduceIte]);(try (simp (disch:=omega) only [q04]));rw [show (a:Int)+(q:Int) * 1=((a+q:Nat):Int) by omega,show (a:Int)+(q:Int) * 2=((a+2 * q:Nat):Int) by omega,show (a:Int)+(q:Int) * 3=((a+3 * q:Nat):Int) by omega]
 (try simp only [rwp,zA,zB,zC,zD,zE,zF,zG,zH,zI,rwb,reduceIte,decide_eq_true (show (8:Int)<=l by omega)])
 cases a1:decide ((50:Int)<=l)
 ·(try simp only [rwp,zA,zB,zC,zD,zE,zF,zG,zH,zI,rwb,reduceIte]);refine q0c (y70 hD hg hcb (k:=0) (i:=a+q) (j:=a+2 * q) (l:=a+3 * q) (by omega) (by omega) (by omega) (by omega)) ?_
  rintro ae S1 ⟨m,k1,rfl,rfl,h1,h2⟩;dsimp only;exact fin m k1 (by omega) (by omega)
 ·have hl:=of_decide_eq_true a1;(try simp only [rwp,zA,zB,zC,zD,zE,zF,zG,zH,zI,rwb,reduceIte]);refine q0c (y2d hD hg hcb (k:=0) (i:=a+q) (by omega) (by omega) (by omega)) ?_
  rintro ae S1 ⟨m1,k1,rfl,rfl,h1,h2,h2'⟩;dsimp only;refine q0c (y2d hD hg hcb (i:=a+2 * q) (by omega) (by omega) (by omega)) ?_
  rintro ae S2 ⟨m2,k2,rfl,rfl,h3,h4,h4'⟩;dsimp only;refine q0c (y2d hD hg hcb (i:=a+3 * q) (by omega) (by omega) (by omega)) ?_
  rintro ae S3 ⟨m3,k3,rfl,rfl,h5,h6,h6'⟩;dsimp only;refine q0c (y70 hD hg hcb (i:=m1) (j:=m2) (l:=m3) (by omega) (by omega) (by omega) (by omega)) ?_
  rintro ae S4 ⟨m,k4,rfl,rfl,h7,h8⟩;dsimp only;exact fin m k4 (by omega) (by omega)
theorem x3s {x:Nat} (h:x<18446744073709551616):IntKind.u64.wrap (x:Int)=x:=by
 have e:IntKind.u64.wrap (x:Int)=(x:Int) % (18446744073709551616:Int):=rfl;rw [e];omega
theorem x2f (x:Int) {m:Nat} (hm:m<1000):∃ q:Nat,q<=m/\Go.bits .and .u64 x m=q:=by
 refine ⟨(BitVec.ofInt 64 x &&& BitVec.ofInt 64 (m:Int)).toNat,?_,?_⟩
 ·rw [BitVec.toNat_and];refine Nat.le_trans Nat.and_le_right ?_;rw [BitVec.toNat_ofInt];omega
 ·exact x3s (BitVec.isLt _)
theorem xfi (a:Int):∃ a':Int,∀ K:AV->Prop,biW .shl (.int .u64 a) (.int .u64 13) K=K (.int .u64 a'):=⟨_,fun K=>rfl⟩
theorem xfh (a:Int):∃ a':Int,∀ K:AV->Prop,biW .shl (.int .u64 a) (.int .u64 17) K=K (.int .u64 a'):=⟨_,fun K=>rfl⟩
theorem xjv (a:Int):∃ a':Int,∀ K:AV->Prop,biW .shr (.int .u64 a) (.int .u64 7) K=K (.int .u64 a'):=⟨_,fun K=>rfl⟩
abbrev rnC (r:Int):AObj:=.cells 272 [.int .u64 r] 1
theorem x84 {S:q00} (r:Int):ACalls PG ytx [.ptr cb 0] (supd S cb (rnC r)) fun ae S'=>∃ r':Int,ae=.ret (.int .u64 r')/\S'=supd S cb (rnC r'):=by
 refine xd8 ?_;unfold xa8;have ho:∀ x:Int,q0m (supd S cb (rnC x)) cb=some (272,[.int .u64 x],1):=fun x=>q0l
 have hcl:=fun x=>q07 (ho x)
 obtain ⟨r1,e1⟩:=xfi r;(try simp only [rwp,zA,zB,zC,zD,zE,zF,zG,zH,zI,rwb,reduceIte,hcl,ho,e1,yco,q1b]);obtain ⟨r2,e2⟩:=xjv (Go.bits .xor .u64 r r1);generalize Go.bits .xor .u64 r r1=x1 at e2 ⊢;(try simp only [rwp,zA,zB,zC,zD,zE,zF,zG,zH,zI,rwb,reduceIte,hcl,ho,e2,yco,q1b]);obtain ⟨r3,e3⟩:=xfh (Go.bits .xor .u64 x1 r2);generalize Go.bits .xor .u64 x1 r2=x2 at e3 ⊢;(try simp only [rwp,zA,zB,zC,zD,zE,zF,zG,zH,zI,rwb,reduceIte,hcl,ho,e3,yco,q1b]);exact q02 (QF:=fun ae S'=>∃ r':Int,ae=.ret (.int .u64 r')/\S'=supd S cb (rnC r')) ⟨_,rfl,rfl⟩
theorem x80 {l:Nat} (hl:l<256):y02 PG yty [.int .i64 l] (.int .u64 ((2 ^ yj6 l:Nat):Int)):=by
 intro S;refine xd9 ?_;unfold xa9;(try simp only [rwp,zA,zB,zC,zD,zE,zF,zG,zH,zI,rwb,reduceIte]);rw [x3s (by omega)]
 refine q05 (x85 hl) ?_;have h8:=(y65 ⟨l,hl⟩).2.2;dsimp only at h8;generalize yj6 l=q at h8;have e:∀ K:AV->Prop,biW .shl (.int .u64 1) (.int .i64 (q:Int)) K=q0p (if (q:Int)<0 then none else some (.int .u64 (IntKind.u64.wrap (1 * 2 ^ min (q:Int).toNat 64)))) K:=fun K=>rfl
 rw [e,if_neg (by omega)]
 have hq:min (q:Int).toNat 64=q:=by omega
 rw [hq,Int.one_mul,show (2:Int) ^ q=((2 ^ q:Nat):Int) by push_cast;rfl,x3s (Nat.lt_of_le_of_lt (Nat.pow_le_pow_right (by decide) h8) (by decide))]
 simp only [y3a];exact q02 ⟨rfl,rfl⟩
theorem x1g (hD:Dat D pt SS n) {a b:Nat} (hab:a+12<b) (hb:b<=n) (hl:b<a+256) (F:AV) :
  ACalls PG yuq [D,.int .i64 a,.int .i64 b,F] (SS v) fun ae S'=>ae=.ret (.tup [])/\∃ w,S'=SS w/\Rng n a b v w:=by
 have hn:=hD.bd;refine xe3 ?_;unfold xb3;obtain ⟨l,rfl⟩:∃ l,b=a+l:=⟨b-a,by omega⟩
 (try simp only [rwp,zA,zB,zC,zD,zE,zF,zG,zH,zI,rwb,reduceIte]);(try (simp (disch:=omega) only [q04]));rw [show ((a+l:Nat):Int)-a=(l:Int) by omega]
 (try simp only [rwp,zA,zB,zC,zD,zE,zF,zG,zH,zI,rwb,reduceIte,decide_eq_true (show (8:Int)<=l by omega)])
 rw [x3s (by omega)]
 intro cb hcb;(try simp only [rwp,zA,zB,zC,zD,zE,zF,zG,zH,zI,rwb,reduceIte,q0l,q1b]);refine q05 (x80 (by omega)) ?_
 obtain ⟨p1,p2,p3⟩:=y65 ⟨l,by omega⟩
 dsimp only at p1 p2 p3;generalize hP:2 ^ yj6 l=P at p1 p2 ⊢;refine yz4 (a:=l) (b:=4) rfl rfl (by omega) (by omega) ?_
 have hq:3<=l / 4/\4 * (l / 4)<=l:=by omega
 generalize hq4:l / 4=q at hq;(try simp only [rwp,zA,zB,zC,zD,zE,zF,zG,zH,zI,rwb,reduceIte]);(try (simp (disch:=omega) only [q04]));rw [show (a:Int)+(q:Int) * 2-1=((a+2 * q-1:Nat):Int) by omega]
 refine LoopP.introS (fun i:Nat=>[(0,D),(1,.int .i64 a),(8,.int .i64 l),(9,.ptr cb 0),(10,.int .u64 P),(11,.int .i64 i)]) (fun i S'=>a+2 * q-1<=i/\i<=a+2 * q+2/\∃ (w:Nat->Ob) (r:Int),S'=supd (SS w) cb (rnC r)/\Rng n a (a+l) v w) (fun i=>a+2 * q+2-i) (a+2 * q-1)
  ⟨by omega,by omega,v,_,rfl,Rng.refl _ _ _ _⟩ rfl ?_
 rintro i S1 ⟨hi1,hi2,w,r,rfl,hr⟩ kk hkk;have hcw:=hD.fn (w:=w) hcb;unfold yx7;refine yz4 (a:=l) (b:=4) rfl rfl (by omega) (by omega) ?_
 rw [hq4];(try simp only [rwp,zA,zB,zC,zD,zE,zF,zG,zH,zI,rwb,reduceIte]);(try (simp (disch:=omega) only [q04]));cases a1:decide ((i:Int)<=(a:Int)+(q:Int) * 2+1)
 ·(try simp only [rwp,zA,zB,zC,zD,zE,zF,zG,zH,zI,rwb,reduceIte]);exact q18 (SS w) (Sub.supd hcw (Sub.refl _)) ⟨rfl,w,rfl,hr⟩
 ·have hle:=of_decide_eq_true a1;(try simp only [rwp,zA,zB,zC,zD,zE,zF,zG,zH,zI,rwb,reduceIte]);refine q0c (x84 (S:=SS w) r) ?_;rintro ae S2 ⟨r',rfl,rfl⟩;dsimp only;(try simp only [rwp,zA,zB,zC,zD,zE,zF,zG,zH,zI,rwb,reduceIte]);rw [show (P:Int)-1=((P-1:Nat):Int) by omega,x3s (by omega)]
  obtain ⟨o,ho1,ho2⟩:=x2f r' (m:=P-1) (by omega)
  (try simp only [rwp,zA,zB,zC,zD,zE,zF,zG,zH,zI,rwb,reduceIte,x23,ho2])
  (simp (disch:=omega) only [q04])
  have fin:∀ x:Nat,x<l->yg6 (fun ae S'=>ae=.ret (.tup [])/\∃ w,S'=SS w/\Rng n a (a+l) v w) kk D (.int .i64 a) (.int .i64 l) (.ptr cb 0) (.int .u64 P) (.int .i64 i) (.int .i64 x) (supd (SS w) cb (rnC r')):=by
   intro x hx;(try simp only [rwp,zA,zB,zC,zD,zE,zF,zG,zH,zI,rwb,reduceIte,yg6]);(try (simp (disch:=omega) only [q04]));refine hD.ia (i:=a+x) (by omega) (by omega) (hD.ia (i:=i) rfl (by omega) (hD.fr hcw (by omega) (hD.fr hcw (by omega) ?_)))
   refine hD.ia (i:=i) rfl (by omega) (hD.fs hcw (by omega) (hD.ia (i:=a+x) (by omega) (by omega) (hD.fs (hD.fn hcw) (by omega) ?_)))
   rw [y7k];(try simp only [rwp,zA,zB,zC,zD,zE,zF,zG,zH,zI,rwb,reduceIte]);(try (simp (disch:=omega) only [q04]));rw [show (i:Int)+1=((i+1:Nat):Int) by omega]
   exact q08 rfl (hkk (i+1) _ ⟨by omega,by omega,_,r',rfl,hr.trans (Rng.sw (by omega) (by omega) (by omega) (by omega) hb)⟩ (by omega))
  cases a2:decide ((l:Int)<=o)
  ·(try simp only [rwp,zA,zB,zC,zD,zE,zF,zG,zH,zI,rwb,reduceIte]);exact fin o (by have:=of_decide_eq_false a2;omega)
  ·have hlo:=of_decide_eq_true a2;(try simp only [rwp,zA,zB,zC,zD,zE,zF,zG,zH,zI,rwb,reduceIte]);(try (simp (disch:=omega) only [q04]));rw [show (o:Int)-l=((o-l:Nat):Int) by omega]
   exact fin (o-l) (by omega)
end
set_option maxRecDepth 4000
section
variable {α:Type} {lt:α->α->Bool} {n a b m A B:Nat} {v w x:Nat->α}
def PreF (lt:α->α->Bool) (a b:Nat) (v:Nat->α):Prop:=0<a->∀ k,a<=k->k<b->Le lt (v (a-1)) (v k)
theorem PreF.rng (h:PreF lt a b v) (hb:b<=n) (hr:Rng n a b v w):PreF lt a b w:=fun h0 k h1 h2=>by
 obtain ⟨j,j1,j2,e⟩:=hr.mem hb h1 h2;rw [e,hr.out (a-1) (.inl (by omega))]
 exact h h0 j j1 j2
theorem Pdq.pre (hp:PreF lt A B v) (hb:B<=n) (hr:Rng n A B v w) (h:Pdq lt A B a b w):PreF lt a b w:=fun h0 k h1 h2=>by
 have e1:=h.pa;have e2:=h.pb;by_cases e:a=A
 ·subst e;exact hp.rng hb hr h0 k h1 (by omega)
 ·exact h.lm (a-1) k (by omega) (by omega) h1 (by omega)
theorem Cut.left (h:Cut lt a b m v) (hb:b<=n) (hr:Rng n a m v w):Cut lt a b m w:=by
 have h1:=h.cb;refine ⟨h.ca,h.cb,fun k k1 k2=>?_,fun k k1 k2=>?_⟩
 ·obtain ⟨j,j1,j2,e⟩:=hr.mem (by omega) k1 k2
  rw [e,hr.out m (.inr (Nat.le_refl _))];exact h.l j j1 j2
 ·rw [hr.out m (.inr (Nat.le_refl _)),hr.out k (.inr (by omega))]
  exact h.r k k1 k2
theorem Cut.right (h:Cut lt a b m v) (hb:b<=n) (hr:Rng n (m+1) b v w):Cut lt a b m w:=by
 refine ⟨h.ca,h.cb,fun k k1 k2=>?_,fun k k1 k2=>?_⟩
 ·rw [hr.out m (.inl (by omega)),hr.out k (.inl (by omega))]
  exact h.l k k1 k2
 ·obtain ⟨j,j1,j2,e⟩:=hr.mem hb (i:=k) (by omega) k2
  rw [e,hr.out m (.inl (by omega))]
  exact h.r j (by omega) j2
end
section
variable {D:AV} {pt:Nat->AV} {SS:(Nat->Ob)->q00} {n g:Nat} {c:Ob->Ob->Int}
theorem yms (hD:Dat D pt SS n) (hg:∀ x y,y02 PG g [.agg (obC x),.agg (obC y)] (.int .i64 (c x y))) (ho:y0u (ltC c)) {a b:Nat} (hab:a<b) (hb:b<=n) (v:Nat->Ob) (hp:PreF (ltC c) a b v) :
  ACalls PG yun [D,.int .i64 a,.int .i64 b,fnG g] (SS v) fun ae S'=>∃ (r:Bool) (w:Nat->Ob),ae=.ret (.bool r)/\S'=SS w/\Rng n a b v w/\(r=true->Srt (ltC c) a b w):=by
 have hn:=hD.bd;refine xe0 ?_;unfold xb0;(try simp only [rwp,zA,zB,zC,zD,zE,zF,zG,zH,zI,rwb,reduceIte]);(try (simp (disch:=omega) only [q04]));generalize hQ:(fun ae S'=>∃ (r:Bool) (w:Nat->Ob),ae=AEnd.ret (.bool r)/\S'=SS w/\Rng n a b v w/\(r=true->Srt (ltC c) a b w))=QF
 refine LoopP.introS (fun x:Nat×Nat=>[(0,D),(1,.int .i64 a),(2,.int .i64 b),(3,fnG g),(9,.int .i64 x.1),(10,.int .i64 x.2)]) (fun x S'=>a+1<=x.1/\x.1<=b/\x.2<=5/\∃ w,S'=SS w/\Rng n a b v w/\Srt (ltC c) a x.1 w) (fun x=>5-x.2) (a+1,0)
  ⟨Nat.le_refl _,hab,by dsimp only;omega,v,rfl,Rng.refl _ _ _ _,Srt.one (Nat.le_refl _)⟩ (by dsimp only;rw [show ((a+1:Nat):Int)=(a:Int)+1 by omega];rfl) ?_
 rintro ⟨i0,j⟩ S1 ⟨hi0,hi0b,hj,w,rfl,hr,hs0⟩ kk hkk;dsimp only at hi0 hi0b hj hs0 ⊢;(try simp only [rwp,zA,zB,zC,zD,zE,zF,zG,zH,zI,rwb,reduceIte,yx5]);have no:∀ u:Nat->Ob,Rng n a b v u->rtW [.tmp (.bool false)] QF (SS u):=fun u hu=>by
  subst hQ;exact q02 ⟨false,u,rfl,rfl,hu,fun h=>by cases h⟩
 cases a1:decide ((j:Int)<5)
 ·(try simp only [rwp,zA,zB,zC,zD,zE,zF,zG,zH,zI,rwb,reduceIte]);exact no w hr
 ·have hj5:j<5:=by have:=of_decide_eq_true a1;omega
  (try simp only [rwp,zA,zB,zC,zD,zE,zF,zG,zH,zI,rwb,reduceIte]);refine LoopP.introS (fun i:Nat=>[(0,D),(1,.int .i64 a),(2,.int .i64 b),(3,fnG g),(9,.int .i64 i),(10,.int .i64 j)]) (fun i S'=>a+1<=i/\i<=b/\S'=SS w/\Srt (ltC c) a i w) (fun i=>b-i) i0 ⟨hi0,hi0b,rfl,hs0⟩ rfl ?_
  rintro i S2 ⟨hi,hib,rfl,hs⟩ kk2 hkk2
  -- on to the next round
  have again:∀ u:Nat->Ob,Rng n a b v u->Srt (ltC c) a i u->rcW kk [(0,D),(1,.int .i64 a),(2,.int .i64 b),(3,fnG g),(9,.int .i64 i),(10,.int .i64 ((j:Int)+1))] (SS u):=fun u hu hsu=>by
   rw [show (j:Int)+1=((j+1:Nat):Int) by omega]
   exact q08 rfl (hkk (i,j+1) _ ⟨hi,hib,by dsimp only;omega,u,rfl,hu,hsu⟩ (by dsimp only;omega))
  have right:∀ u:Nat->Ob,Rng n a b v u->Srt (ltC c) a i u->y50 QF kk D (.int .i64 a) (.int .i64 b) (fnG g) (.int .i64 i) (.int .i64 j) (SS u):=by
   intro u hu hsu;(try simp only [rwp,zA,zB,zC,zD,zE,zF,zG,zH,zI,rwb,reduceIte,y50]);(try (simp (disch:=omega) only [q04]));cases a3:decide ((2:Int)<=(b:Int)-i)
   ·(try simp only [rwp,zA,zB,zC,zD,zE,zF,zG,zH,zI,rwb,reduceIte]);(try (simp (disch:=omega) only [q04]));exact again u hu hsu
   ·(try simp only [rwp,zA,zB,zC,zD,zE,zF,zG,zH,zI,rwb,reduceIte]);(try (simp (disch:=omega) only [q04]));rw [show (i:Int)+1=((i+1:Nat):Int) by omega]
    refine LoopP.introS (fun q:Nat=>[(0,D),(1,.int .i64 a),(2,.int .i64 b),(3,fnG g),(9,.int .i64 i),(10,.int .i64 j),(12,.int .i64 q)]) (fun q S'=>i+1<=q/\q<=b/\∃ x,S'=SS x/\Rng n a b v x/\Srt (ltC c) a i x) (fun q=>b-q) (i+1) ⟨Nat.le_refl _,by have:=of_decide_eq_true a3;omega,u,rfl,hu,hsu⟩ rfl ?_
    rintro q S3 ⟨hq1,hq2,x,rfl,hx,hsx⟩ kk3 hkk3;(try simp only [rwp,zA,zB,zC,zD,zE,zF,zG,zH,zI,rwb,reduceIte,yx2]);cases a4:decide ((q:Int)<b)
    ·(try simp only [rwp,zA,zB,zC,zD,zE,zF,zG,zH,zI,rwb,reduceIte]);(try (simp (disch:=omega) only [q04]));exact again x hx hsx
    ·have hqb:=of_decide_eq_true a4;(try simp only [rwp,zA,zB,zC,zD,zE,zF,zG,zH,zI,rwb,reduceIte]);refine hD.ia (i:=q) rfl (by omega) ?_
     (try simp only [rwp,zA,zB,zC,zD,zE,zF,zG,zH,zI,rwb,reduceIte]);(try (simp (disch:=omega) only [q04]));refine hD.ia (i:=q-1) (by omega) (by omega) (hD.ld (by omega) (hD.ld (by omega) (q05 (hg _ _) ?_)))
     (try simp only [rwp,zA,zB,zC,zD,zE,zF,zG,zH,zI,rwb,reduceIte]);cases a5:decide (c (x q) (x (q-1))<0)
     ·(try simp only [rwp,zA,zB,zC,zD,zE,zF,zG,zH,zI,rwb,reduceIte]);(try (simp (disch:=omega) only [q04]));exact again x hx hsx
     ·(try simp only [rwp,zA,zB,zC,zD,zE,zF,zG,zH,zI,rwb,reduceIte]);(try (simp (disch:=omega) only [q04]));refine hD.swap (i:=q-1) (j:=q) (by omega) rfl (by omega) rfl (by omega) (by omega) ?_
      (try simp only [rwp,zA,zB,zC,zD,zE,zF,zG,zH,zI,rwb,reduceIte]);(try (simp (disch:=omega) only [q04]));rw [show (q:Int)+1=((q+1:Nat):Int) by omega]
      exact q08 rfl (hkk3 (q+1) _ ⟨by omega,by omega,_,rfl,hx.trans (Rng.sw (by omega) (by omega) (by omega) (by omega) hb),hsx.same fun k k1 k2=>y0s (by omega) (by omega)⟩ (by omega))
  (try simp only [rwp,zA,zB,zC,zD,zE,zF,zG,zH,zI,rwb,reduceIte,yx4]);cases a2:decide ((i:Int)<b)
  ·have e:i=b:=by have:=of_decide_eq_false a2;omega
   subst e;(try simp only [rwp,zA,zB,zC,zD,zE,zF,zG,zH,zI,rwb,reduceIte,yai,decide_true]);subst hQ;exact q02 ⟨true,w,rfl,rfl,hr,fun _=>hs⟩
  ·have hlt:=of_decide_eq_true a2;(try simp only [rwp,zA,zB,zC,zD,zE,zF,zG,zH,zI,rwb,reduceIte]);refine hD.ia (i:=i) rfl (by omega) ?_
   (try simp only [rwp,zA,zB,zC,zD,zE,zF,zG,zH,zI,rwb,reduceIte]);(try (simp (disch:=omega) only [q04]));refine hD.ia (i:=i-1) (by omega) (by omega) (hD.ld (by omega) (hD.ld (by omega) (q05 (hg _ _) ?_)))
   (try simp only [rwp,zA,zB,zC,zD,zE,zF,zG,zH,zI,rwb,reduceIte]);cases a3:decide (c (w i) (w (i-1))<0)
   ·(try simp only [rwp,zA,zB,zC,zD,zE,zF,zG,zH,zI,rwb,reduceIte,yai]);(try (simp (disch:=omega) only [q04]));rw [show (i:Int)+1=((i+1:Nat):Int) by omega]
    exact q08 rfl (hkk2 (i+1) _ ⟨by omega,by omega,rfl,hs.snoc ho (by omega) a3⟩ (by omega))
   ·(try simp only [rwp,zA,zB,zC,zD,zE,zF,zG,zH,zI,rwb,reduceIte,yai,decide_eq_false (show ¬ (i:Int)=b by omega)])
    (try (simp (disch:=omega) only [q04]));cases a4:decide ((b:Int)-a<50)
    ·(try simp only [rwp,zA,zB,zC,zD,zE,zF,zG,zH,zI,rwb,reduceIte]);(try (simp (disch:=omega) only [q04]));refine hD.swap (i:=i-1) (j:=i) (by omega) rfl (by omega) rfl (by omega) (by omega) ?_
     (try simp only [rwp,zA,zB,zC,zD,zE,zF,zG,zH,zI,rwb,reduceIte]);(try (simp (disch:=omega) only [q04]));have hr1:Rng n a b v (sw w i (i-1)):=hr.trans (Rng.sw (by omega) (by omega) (by omega) (by omega) hb)
     have hs1:Srt (ltC c) a (i-1) (sw w i (i-1)):=fun p q p1 p2 p3=>by
      rw [y0s (by omega) (by omega),y0s (by omega) (by omega)]
      exact hs p q p1 p2 (by omega)
     generalize sw w i (i-1)=w1 at hr1 hs1;cases a5:decide ((2:Int)<=(i:Int)-a)
     ·(try simp only [rwp,zA,zB,zC,zD,zE,zF,zG,zH,zI,rwb,reduceIte]);exact right w1 hr1 (Srt.one (by have:=of_decide_eq_false a5;omega))
     ·(try simp only [rwp,zA,zB,zC,zD,zE,zF,zG,zH,zI,rwb,reduceIte]);(try (simp (disch:=omega) only [q04]));rw [show (i:Int)-1=((i-1:Nat):Int) by omega]
      refine LoopP.introS (fun q:Nat=>[(0,D),(1,.int .i64 a),(2,.int .i64 b),(3,fnG g),(9,.int .i64 i),(10,.int .i64 j),(11,.int .i64 q)]) (fun q S'=>∃ x,S'=SS x/\Rng n a b v x/\InsI (ltC c) a (i-1) q x) (fun q=>q) (i-1) ⟨w1,rfl,hr1,InsI.start hs1 (by omega)⟩ rfl ?_
      rintro q S3 ⟨x,rfl,hx,hix⟩ kk3 hkk3;have h1:=hix.lo;have h2:=hix.hi;have stop:(q=a\/Le (ltC c) (x (q-1)) (x q))->y50 QF kk D (.int .i64 a) (.int .i64 b) (fnG g) (.int .i64 i) (.int .i64 j) (SS x):=fun hq=>by
       have:=hix.stop ho hq;rw [show i-1+1=i by omega] at this
       exact right x hx this
      (try simp only [rwp,zA,zB,zC,zD,zE,zF,zG,zH,zI,rwb,reduceIte,yx3]);cases a6:decide ((1:Int)<=q)
      ·(try simp only [rwp,zA,zB,zC,zD,zE,zF,zG,zH,zI,rwb,reduceIte]);exact stop (.inl (by have:=of_decide_eq_false a6;omega))
      ·have hq1:=of_decide_eq_true a6;(try simp only [rwp,zA,zB,zC,zD,zE,zF,zG,zH,zI,rwb,reduceIte]);refine hD.ia (i:=q) rfl (by omega) ?_
       (try simp only [rwp,zA,zB,zC,zD,zE,zF,zG,zH,zI,rwb,reduceIte]);(try (simp (disch:=omega) only [q04]));refine hD.ia (i:=q-1) (by omega) (by omega) (hD.ld (by omega) (hD.ld (by omega) (q05 (hg _ _) ?_)))
       (try simp only [rwp,zA,zB,zC,zD,zE,zF,zG,zH,zI,rwb,reduceIte]);cases a7:decide (c (x q) (x (q-1))<0)
       ·(try simp only [rwp,zA,zB,zC,zD,zE,zF,zG,zH,zI,rwb,reduceIte]);exact stop (.inr a7)
       ·have hqa:a<q:=by
         refine Classical.byContradiction fun hq=>?_
         have e:q=a:=by omega
         subst e;have:=(hp.rng hb hx) (by omega) q (Nat.le_refl _) hab
         unfold Le ltC at this;rw [a7] at this;cases this
        (try simp only [rwp,zA,zB,zC,zD,zE,zF,zG,zH,zI,rwb,reduceIte]);(try (simp (disch:=omega) only [q04]));refine hD.swap (i:=q-1) (j:=q) (by omega) rfl (by omega) rfl (by omega) (by omega) ?_
        (try simp only [rwp,zA,zB,zC,zD,zE,zF,zG,zH,zI,rwb,reduceIte]);(try (simp (disch:=omega) only [q04]));rw [show (q:Int)-1=((q-1:Nat):Int) by omega]
        exact q08 rfl (hkk3 (q-1) _ ⟨_,rfl,hx.trans (Rng.sw (by omega) (by omega) (by omega) (by omega) hb),hix.step ho hqa a7⟩ (by omega))
    ·(try simp only [rwp,zA,zB,zC,zD,zE,zF,zG,zH,zI,rwb,reduceIte]);exact no w hr
end
set_option maxRecDepth 4000
section
variable {D:AV} {pt:Nat->AV} {SS:(Nat->Ob)->q00} {n g:Nat} {c:Ob->Ob->Int}
structure PqA where
 a:Nat
 b:Nat
 lim:Nat
 wb:Bool
 wp:Bool
theorem xfx (hD:Dat D pt SS n) (hg:∀ x y,y02 PG g [.agg (obC x),.agg (obC y)] (.int .i64 (c x y))) (ho:y0u (ltC c)):∀ (N a b lim:Nat) (v:Nat->Ob),b<=a+N->a<=b->b<=n->b<a+256->lim<=1000->PreF (ltC c) a b v ->
  ACalls PG yvl [D,.int .i64 a,.int .i64 b,.int .i64 lim,fnG g] (SS v) fun ae S'=>ae=.ret (.tup [])/\∃ w,S'=SS w/\Rng n a b v w/\Srt (ltC c) a b w:=by
 have hn:=hD.bd;intro N
 induction N using Nat.strongRecOn with
 | ind N ih=>
 intro A B lim v hN hAB hB hl hlm hp;refine xf6 ?_;unfold xc6;generalize hQ:(fun ae S'=>ae=AEnd.ret (.tup [])/\∃ w,S'=SS w/\Rng n A B v w/\Srt (ltC c) A B w)=QF
 have fin:∀ w:Nat->Ob,Rng n A B v w->Srt (ltC c) A B w->rtW [] QF (SS w):=fun w h1 h2=>by
  subst hQ;exact q2s ⟨rfl,w,rfl,h1,h2⟩
 refine LoopP.introS (fun x:PqA=>[(0,D),(1,.int .i64 x.a),(2,.int .i64 x.b),(3,.int .i64 x.lim),(4,fnG g),(10,.bool x.wb),(11,.bool x.wp)]) (fun x S'=>x.lim<=1000/\∃ w,S'=SS w/\Rng n A B v w/\Pdq (ltC c) A B x.a x.b w) (fun x=>x.b-x.a) ⟨A,B,lim,true,true⟩
  ⟨hlm,v,rfl,Rng.refl _ _ _ _,Pdq.start hAB⟩ rfl ?_
 rintro ⟨a,b,lim,wb,wp⟩ S1 ⟨hlm,w,rfl,hr,hq⟩ kk hkk;dsimp only at hq hlm ⊢;have q1:=hq.pa;have q2:=hq.ab;have q3:=hq.pb
 -- a part is put in order,the rest is
 have done:∀ (w x:Nat->Ob),Rng n A B v w->Pdq (ltC c) A B a b w->Rng n a b w x->Srt (ltC c) a b x->rtW [] QF (SS x):=fun w x h1 h2 h3 h4=>fin x (h1.trans (h3.mono q1 q3)) ((h2.rng hB h3).done ho h4)
 (try simp only [rwp,zA,zB,zC,zD,zE,zF,zG,zH,zI,rwb,reduceIte,yxw]);(try (simp (disch:=omega) only [q04]));cases a1:decide ((b:Int)-a<=12)
 ·have h12:a+12<b:=by have:=of_decide_eq_false a1;omega
  (try simp only [rwp,zA,zB,zC,zD,zE,zF,zG,zH,zI,rwb,reduceIte]);cases a2:decide ((lim:Int)=0)
  ·have hlim:lim≠0:=fun h=>(of_decide_eq_false a2) (by rw [h];rfl)
   -- from the choice of a pivot on
   have p7:∀ (w:Nat->Ob) (lim:Nat) (wb wp:Bool) (p:Nat) (b7:Bool),lim<=1000->Rng n A B v w->Pdq (ltC c) A B a b w->a<=p->p<b->(b7=true->0<a/\Le (ltC c) (w p) (w (a-1))) ->
     yas QF kk D (.int .i64 a) (.int .i64 b) (.int .i64 lim) (fnG g) (.bool wb) (.bool wp) (.int .i64 ((b:Int)-a)) (.int .i64 p) (.bool b7) (SS w):=by
    intro w lim wb wp p b7 hlm hr hq hp1 hp2 h7;cases b7
    ·(try simp only [rwp,zA,zB,zC,zD,zE,zF,zG,zH,zI,rwb,reduceIte,yas]);refine q0c (yce hD hg ho hp1 hp2 (by omega) w) ?_
     rintro ae S2 ⟨x,m,al,rfl,rfl,hx,hc⟩;have hc1:=hc.ca;have hc2:=hc.cb;have hrx:=hr.trans (hx.mono q1 q3);have hqx:=hq.rng hB hx;have hpx:=Pdq.pre hp hB hrx hqx;dsimp only;(try simp only [rwp,zA,zB,zC,zD,zE,zF,zG,zH,zI,rwb,reduceIte]);(try (simp (disch:=omega) only [q04]));refine yz4 (a:=b-a) (b:=8) (by omega) rfl (by omega) (by omega) ?_
     (try simp only [rwp,zA,zB,zC,zD,zE,zF,zG,zH,zI,rwb,reduceIte]);cases a3:decide ((m:Int)-a<(b:Int)-m)
     ·(try simp only [rwp,zA,zB,zC,zD,zE,zF,zG,zH,zI,rwb,reduceIte]);(try (simp (disch:=omega) only [q04]));rw [show (m:Int)+1=((m+1:Nat):Int) by omega]
      refine q0c (ih (b-(m+1)) (by omega) (m+1) b lim x (by omega) (by omega) (by omega) (by omega) hlm (fun _ k k1 k2=>hc.r k (by omega) k2)) ?_
      rintro ae S3 ⟨rfl,y,rfl,hy,hys⟩;dsimp only;exact q08 rfl (hkk ⟨a,m,lim,_,al⟩ _ ⟨hlm,y,rfl,hrx.trans (hy.mono (by omega) q3),(hqx.rng hB (hy.mono (by omega) (Nat.le_refl _))).right ho (hc.right (by omega) hy) hys⟩ (by dsimp only;omega))
     ·(try simp only [rwp,zA,zB,zC,zD,zE,zF,zG,zH,zI,rwb,reduceIte]);(try (simp (disch:=omega) only [q04]));refine q0c (ih (m-a) (by omega) a m lim x (by omega) (by omega) (by omega) (by omega) hlm (fun h0 k k1 k2=>hpx h0 k k1 (by omega))) ?_
      rintro ae S3 ⟨rfl,y,rfl,hy,hys⟩;dsimp only;(try simp only [rwp,zA,zB,zC,zD,zE,zF,zG,zH,zI,rwb,reduceIte]);(try (simp (disch:=omega) only [q04]));rw [show (m:Int)+1=((m+1:Nat):Int) by omega]
      exact q08 rfl (hkk ⟨m+1,b,lim,_,al⟩ _ ⟨hlm,y,rfl,hrx.trans (hy.mono q1 (by omega)),(hqx.rng hB (hy.mono (Nat.le_refl _) (by omega))).left ho (hc.left (by omega) hy) hys⟩ (by dsimp only;omega))
    ·obtain ⟨h0,hle⟩:=h7 rfl;(try simp only [rwp,zA,zB,zC,zD,zE,zF,zG,zH,zI,rwb,reduceIte,yas]);refine q0c (y9d hD hg ho hp1 hp2 (by omega) w) ?_
     rintro ae S2 ⟨x,m,rfl,rfl,hx,hxa,hm1,hm2,hxl⟩;dsimp only;have hpw:=Pdq.pre hp hB hr hq;refine q08 rfl (hkk ⟨m,b,lim,wb,wp⟩ _ ⟨hlm,x,rfl,hr.trans (hx.mono q1 q3),(hq.rng hB hx).same ho (by dsimp only;omega) hm2 (fun k k1 k2=>?_) hxl⟩ (by dsimp only;omega))
     obtain ⟨j,j1,j2,e⟩:=hx.mem (by omega) k1 k2
     rw [hxa,e];exact hle.trans ho (hpw h0 j j1 j2)
   have p6:∀ (w:Nat->Ob) (lim:Nat) (wb wp:Bool) (p:Nat),lim<=1000->Rng n A B v w->Pdq (ltC c) A B a b w->a<=p->p<b ->
     ygn QF kk D (.int .i64 a) (.int .i64 b) (.int .i64 lim) (fnG g) (.bool wb) (.bool wp) (.int .i64 ((b:Int)-a)) (.int .i64 p) (SS w):=by
    intro w lim wb wp p hlm hr hq hp1 hp2;(try simp only [rwp,zA,zB,zC,zD,zE,zF,zG,zH,zI,rwb,reduceIte,ygn]);cases a3:decide ((0:Int)<a)
    ·(try simp only [rwp,zA,zB,zC,zD,zE,zF,zG,zH,zI,rwb,reduceIte]);exact p7 w lim wb wp p false hlm hr hq hp1 hp2 fun h=>by cases h
    ·have h0:=of_decide_eq_true a3;(try simp only [rwp,zA,zB,zC,zD,zE,zF,zG,zH,zI,rwb,reduceIte]);(try (simp (disch:=omega) only [q04]));refine hD.cmp hg (i:=a-1) (j:=p) (by omega) rfl (by omega) (by omega) ?_
     (try simp only [rwp,zA,zB,zC,zD,zE,zF,zG,zH,zI,rwb,reduceIte]);cases a4:decide (c (w (a-1)) (w p)<0)
     ·exact p7 w lim wb wp p true hlm hr hq hp1 hp2 fun _=>⟨by omega,a4⟩
     ·exact p7 w lim wb wp p false hlm hr hq hp1 hp2 fun h=>by cases h
   have p5:∀ (w:Nat->Ob) (lim:Nat) (wb wp:Bool) (p:Nat) (b5:Bool),lim<=1000->Rng n A B v w->Pdq (ltC c) A B a b w->a<=p->p<b ->
     yat QF kk D (.int .i64 a) (.int .i64 b) (.int .i64 lim) (fnG g) (.bool wb) (.bool wp) (.int .i64 ((b:Int)-a)) (.int .i64 p) (.bool b5) (SS w):=by
    intro w lim wb wp p b5 hlm hr hq hp1 hp2;cases b5
    ·(try simp only [rwp,zA,zB,zC,zD,zE,zF,zG,zH,zI,rwb,reduceIte,yat]);exact p6 w lim wb wp p hlm hr hq hp1 hp2
    ·(try simp only [rwp,zA,zB,zC,zD,zE,zF,zG,zH,zI,rwb,reduceIte,yat]);refine q0c (yms hD hg ho (by omega) (by omega) w (Pdq.pre hp hB hr hq)) ?_
     rintro ae S2 ⟨r,x,rfl,rfl,hx,hxs⟩;dsimp only;cases r
     ·(try simp only [rwp,zA,zB,zC,zD,zE,zF,zG,zH,zI,rwb,reduceIte]);exact p6 x lim wb wp p hlm (hr.trans (hx.mono q1 q3)) (hq.rng hB hx) hp1 hp2
     ·(try simp only [rwp,zA,zB,zC,zD,zE,zF,zG,zH,zI,rwb,reduceIte]);exact done w x hr hq hx (hxs rfl)
   have p3:∀ (w:Nat->Ob) (lim:Nat) (wb wp:Bool) (p:Nat) (h:Int),lim<=1000->Rng n A B v w->Pdq (ltC c) A B a b w->a<=p->p<b ->
     y55 QF kk D (.int .i64 a) (.int .i64 b) (.int .i64 lim) (fnG g) (.bool wb) (.bool wp) (.int .i64 ((b:Int)-a)) (.int .i64 p) (.int .i64 h) (SS w):=by
    intro w lim wb wp p h hlm hr hq hp1 hp2;cases wb
    ·(try simp only [rwp,zA,zB,zC,zD,zE,zF,zG,zH,zI,rwb,reduceIte,y55,yau]);exact p5 w lim false wp p false hlm hr hq hp1 hp2
    ·cases wp
     ·(try simp only [rwp,zA,zB,zC,zD,zE,zF,zG,zH,zI,rwb,reduceIte,y55,yau]);exact p5 w lim true false p false hlm hr hq hp1 hp2
     ·(try simp only [rwp,zA,zB,zC,zD,zE,zF,zG,zH,zI,rwb,reduceIte,y55,yau]);exact p5 w lim true true p _ hlm hr hq hp1 hp2
   have p2:∀ (w:Nat->Ob) (lim:Nat) (wb wp:Bool),lim<=1000->Rng n A B v w->Pdq (ltC c) A B a b w ->
     ygo QF kk D (.int .i64 a) (.int .i64 b) (.int .i64 lim) (fnG g) (.bool wb) (.bool wp) (.int .i64 ((b:Int)-a)) (SS w):=by
    intro w lim wb wp hlm hr hq;(try simp only [rwp,zA,zB,zC,zD,zE,zF,zG,zH,zI,rwb,reduceIte,ygo]);refine q0c (x1f hD hg h12 (by omega)) ?_
    rintro ae S2 ⟨p,h,rfl,rfl,hp1,hp2⟩;dsimp only;(try simp only [rwp,zA,zB,zC,zD,zE,zF,zG,zH,zI,rwb,reduceIte]);cases a3:decide (h=2)
    ·(try simp only [rwp,zA,zB,zC,zD,zE,zF,zG,zH,zI,rwb,reduceIte]);exact p3 w lim wb wp p h hlm hr hq hp1 hp2
    ·(try simp only [rwp,zA,zB,zC,zD,zE,zF,zG,zH,zI,rwb,reduceIte]);refine q0c (ymq hD (by omega) (by omega) (fnG g) w) ?_
     rintro ae S3 ⟨rfl,x,rfl,hx⟩;dsimp only;(try simp only [rwp,zA,zB,zC,zD,zE,zF,zG,zH,zI,rwb,reduceIte]);(try (simp (disch:=omega) only [q04]));rw [show (b:Int)-1-((p:Int)-a)=((b-1-(p-a):Nat):Int) by omega]
     exact p3 x lim wb wp _ 1 hlm (hr.trans (hx.mono q1 q3)) (hq.rng hB hx) (by omega) (by omega)
   (try simp only [rwp,zA,zB,zC,zD,zE,zF,zG,zH,zI,rwb,reduceIte]);cases wb
   ·(try simp only [rwp,zA,zB,zC,zD,zE,zF,zG,zH,zI,rwb,reduceIte]);refine q0c (x1g hD h12 (by omega) (by omega) (fnG g)) ?_
    rintro ae S2 ⟨rfl,x,rfl,hx⟩;dsimp only;(try simp only [rwp,zA,zB,zC,zD,zE,zF,zG,zH,zI,rwb,reduceIte]);(try (simp (disch:=omega) only [q04]));have e:(lim:Int)-1=((lim-1:Nat):Int):=by omega
    rw [e];exact p2 x (lim-1) false wp (by omega) (hr.trans (hx.mono q1 q3)) (hq.rng hB hx)
   ·(try simp only [rwp,zA,zB,zC,zD,zE,zF,zG,zH,zI,rwb,reduceIte]);exact p2 w lim true wp hlm hr hq
  ·(try simp only [rwp,zA,zB,zC,zD,zE,zF,zG,zH,zI,rwb,reduceIte]);refine q0c (x82 hD hg ho (by omega) (by omega) w) ?_
   rintro ae S2 ⟨rfl,x,rfl,hx,hxs⟩;dsimp only;exact done w x hr hq hx hxs
 ·(try simp only [rwp,zA,zB,zC,zD,zE,zF,zG,zH,zI,rwb,reduceIte]);refine q0c (xfy hD hg ho q2 (by omega) w) ?_
  rintro ae S2 ⟨rfl,x,rfl,hx,hxs⟩;dsimp only;exact done w x hr hq hx hxs
end
theorem yyn:ywd 255:=by
 intro D pt SS n g c hD hg ho hn v;refine xj3 ?_;unfold xhf;refine hD.ln ?_;(try simp only [rwp,zA,zB,zC,zD,zE,zF,zG,zH,zI,rwb,reduceIte]);rw [x3s (by omega)]
 refine q05 (x85 (by omega)) ?_
 have h8:=(y65 ⟨n,by omega⟩).2.2
 dsimp only at h8;have q:=xfx hD hg ho n 0 n (yj6 n) v (by omega) (by omega) (Nat.le_refl _) (by omega) (by omega) (fun h=>by omega)
 refine q0c q ?_;rintro ae S1 ⟨rfl,w,rfl,h1,h2⟩;dsimp only;exact q2s ⟨rfl,w,rfl,h1,h2⟩
end Go.HL
