/- A part of a proof. -/
import Derived.Test.YtadmdlpmikoghaaGreatKfM2
import Derived.Test.YtadmdlpmikoghaaGreatKfHlS7
import Derived.Lib.Strings
import Derived.Test.YtadmdlpmikoghaaGreatKfHlS5
import Derived.Test.YtadmdlpmikoghaaGreatKfHlS8
import Derived.Test.YtadmdlpmikoghaaGreatKfHlS10
import Derived.Test.YtadmdlpmikoghaaGreatKfHlS13
import Derived.Test.YtadmdlpmikoghaaGreatKfHlS14
import Derived.Test.YtadmdlpmikoghaaGreatKfHlS1
import Derived.Test.YtadmdlpmikoghaaGreatKfHlS4
import Derived.Test.YtadmdlpmikoghaaGreatKfHlQ
import Derived.Test.YtadmdlpmikoghaaGreatKfM1
import Derived.Test.YtadmdlpmikoghaaGreatKfHlS12
import Derived.Test.YtadmdlpmikoghaaGreatKfHlS6
import Derived.Test.YtadmdlpmikoghaaGreatKfHlS9
import Derived.Test.YtadmdlpmikoghaaGreatKfHlO
set_option maxRecDepth 4000
set_option linter.unusedSimpArgs false
set_option linter.unusedVariables false
namespace Go.HL
open Nat renaming reduceAdd→zA,reduceLeDiff→zB,reduceLT→zC,reduceSub→zD,reduceMul→zE,reduceEqDiff→zF,reduceBEq→zG
open Int renaming reduceAdd→zH,reduceToNat→zI
def addT (T:List Ob) (o:Ob):List Ob:=if o∈T then T else T++[o]
theorem c_add14 {S0 S:q00} {tv:AV} {T:List Ob} (hs:Sub S0 S) (ht:LstW S0 S tyOb 2 tv (T.map obC)) (hl:T.length≤1000000) (o:Ob) :
  ACalls PG nrx106 [tv,.agg (obC o)] S fun ae S'=>∃ tv',ae=.ret tv'∧LstW S0 S' tyOb 2 tv' ((addT T o).map obC)∧Sub S0 S'∧∀ c x,sget S c=some x→q0n tv c→sget S' c=some x∧q0n tv' c:=by
 refine wx106 ?_
 unfold Bx106
 (try simp only [rwp,zA,zB,zC,zD,zE,zF,zG,zH,zI,rwb,reduceIte,obC])
 refine LoopP.introS (fun i:Nat=>[(0,tv),(3,.rop [.str o.ty,.str o.id]),(5,.int .i64 i)]) (fun i S'=>S'=S∧i≤T.length∧∀ (j:Nat) (m:Ob),j<i→T[j]?=some m→¬ m=o) (fun i=>T.length-i) 0 ⟨rfl,by omega,fun j m hj=>by omega⟩ rfl ?_
 rintro i S' ⟨rfl,hi,hno⟩ kk hkk
 (try simp only [rwp,zA,zB,zC,zD,zE,zF,zG,zH,zI,rwb,reduceIte,C106_1,ht.ln,List.length_map])
 (refine q05 (fun hlt=>?_) (fun hlt=>?_)<;>(try simp only [hlc] at hlt))
 ·obtain ⟨m,hm⟩:=q0z hlt
  obtain ⟨b1,cap,cs,rfl,hcs,hrow,hle⟩:=ht.get (i:=i) (r:=obC m) (by rw [List.getElem?_map,hm];rfl)
  simp only [List.length_map] at hkk ht
  (try simp only [rwp,zA,zB,zC,zD,zE,zF,zG,zH,zI,rwb,reduceIte,hcs,List.length_map,Int.toNat_natCast,Nat.zero_add])
  obtain ⟨rest,hd1⟩:=drop_two (hrow.trans (show obC m=[.str m.ty,.str m.id] from rfl))
  (try simp only [rwp,zA,zB,zC,zD,zE,zF,zG,zH,zI,rwb,reduceIte,hd1])
  refine ⟨hlt,?_⟩
  have hnd:=ob_dec m o
  cases a1:(decide (m.ty=o.ty)&&decide (m.id=o.id))
  ·rw [a1] at hnd
   (try simp only [rwp,zA,zB,zC,zD,zE,zF,zG,zH,zI,rwb,reduceIte])
   (simp (disch:=omega) only [q04])
   refine q0a rfl (hkk (i+1) _ ⟨rfl,by omega,fun j u hj hu=>?_⟩ (by omega))
   rcases Nat.lt_succ_iff_lt_or_eq.1 hj with h1 | rfl
   ·exact hno j u h1 hu
   ·rw [hm] at hu;cases hu;exact of_decide_eq_false hnd
  ·rw [a1] at hnd
   have e:=of_decide_eq_true hnd
   subst e
   (try simp only [rwp,zA,zB,zC,zD,zE,zF,zG,zH,zI,rwb,reduceIte])
   refine q03 ⟨_,rfl,?_,hs,fun c x hc ha=>⟨hc,ha⟩⟩
   rw [addT,if_pos (List.mem_of_getElem? hm)]
   exact ht
 ·have hn:o ∉ T:=by
   intro hn
   obtain ⟨j,hj⟩:=List.getElem?_of_mem hn
   have:=(List.getElem?_eq_some_iff.1 hj).1
   exact hno j o (by omega) hj rfl
  (try simp only [rwp,zA,zB,zC,zD,zE,zF,zG,zH,zI,rwb,reduceIte])
  refine LstW.app hs ht (x:=[.str o.ty,.str o.id]) rfl rfl (by simp only [List.length_map];omega) fun tv' S2 h1 h2 h3=>?_
  refine q03 ⟨tv',rfl,?_,h1,h3⟩
  rw [addT,if_neg hn,List.map_append]
  exact h2
theorem good_find {s:List Ty} (hg:GoodS s) {i k:Nat} {t:Ty} {r:Rl} (ht:s[i]?=some t) (hr:t.rels[k]?=some r):q0q s t.name r.name=some (i,k,r):=by
 have h1:=hg.once ht hr
 unfold fiN at h1
 simp only [Prod.mk.injEq] at h1
 obtain ⟨e1,e2⟩:=h1
 have ty:typF s t.name=some i:=by
  cases hq:typF s t.name with
  | none=>
   have:=firstI_none.1 hq i t ht
   simp at this
  | some i'=>rw [hq] at e1;exact congrArg some e1
 have rl:q43 t.rels r.name=some k:=by
  cases hq:q43 t.rels r.name with
  | none=>
   have:=firstI_none.1 hq k r hr
   simp at this
  | some k'=>
   rw [ty] at e2
   unfold relF at e2
   simp only [Option.bind_some,ht,hq,Option.getD_some] at e2
   rw [e2]
 unfold q0q
 rw [ty]
 dsimp only
 rw [ht]
 dsimp only
 rw [rl]
 dsimp only
 rw [hr]
 rfl
theorem LstW.keep {S0 S S':q00} {t sz:Nat} {u v v':AV} {rows:List (List AV)} (h:LstW S0 S t sz u rows) (ha:∀ b off n cap,u=.own b off n cap→q0n v b) (hk:∀ c o,sget S c=some o→q0n v c→sget S' c=some o∧q0n v' c) :
  LstW S0 S' t sz u rows∧∀ b off n cap,u=.own b off n cap→q0n v' b:=by
 obtain ⟨hr,h⟩:=h
 rcases h with ⟨rfl,rfl⟩ | ⟨b,cap,cs,rfl,h1,h2,h3⟩
 ·exact ⟨⟨hr,.inl ⟨rfl,rfl⟩⟩,fun b off n cap e=>by cases e⟩
 ·obtain ⟨k1,k2⟩:=hk b _ h2 (ha b _ _ _ rfl)
  exact ⟨⟨hr,.inr ⟨b,cap,cs,rfl,h1,k1,h3⟩⟩,fun b off n cap e=>by cases e;exact k2⟩
structure Rnd (s:List Ty) (L:List Tu) (who:Ob):Prop where
 os:OkS s
 c:errA (chkF s)=0
 oL:OkL L
 e:OfOk (envL s L who)
structure RdI (s:List Ty) (L:List Tu) (who:Ob) (bw:Nat) (S0:q00) (T:List Ob) (C:List Nd) (v:Nat) (K0:List Nd) (i t k:Nat) (K:List Nd) (b:Bool) (S:q00):Prop where
 w:W14 s L who bw S0 T K S
 u:Upto (envL s L who) C v K
 y:b=true→K0.length<K.length
 n:b=false→K=K0∧∀ (i' t' k':Nat) (o:Ob) (ty:Ty) (r:Rl),(i'<i∨i'=i∧(t'<t∨t'=t∧k'<k))→T[i']?=some o→s[t']?=some ty→ty.name=o.ty→ty.rels[k']?=some r→getL (levF s) (t',k')=v→q1w (envL s L who) (fun c=>decide (c∈K0)) ⟨o,r.name⟩ r=true→(⟨o,r.name⟩:Nd)∈K0
theorem RdI.skip {s:List Ty} {L:List Tu} {who:Ob} {bw:Nat} {S0 S:q00} {T:List Ob} {C:List Nd} {v:Nat} {K0 K:List Nd} {i t k i2 t2 k2:Nat} {b:Bool} (h:RdI s L who bw S0 T C v K0 i t k K b S)
  (hs:∀ (i' t' k':Nat) (o:Ob) (ty:Ty) (r:Rl),(i'<i2∨i'=i2∧(t'<t2∨t'=t2∧k'<k2))→T[i']?=some o→s[t']?=some ty→ty.name=o.ty→ty.rels[k']?=some r→getL (levF s) (t',k')=v→¬ (i'<i∨i'=i∧(t'<t∨t'=t∧k'<k))→q1w (envL s L who) (fun c=>decide (c∈K)) ⟨o,r.name⟩ r=true→(⟨o,r.name⟩:Nd)∈K):RdI s L who bw S0 T C v K0 i2 t2 k2 K b S:=by
 refine ⟨h.w,h.u,h.y,fun hb=>?_⟩
 obtain ⟨e,h1⟩:=h.n hb
 subst e
 refine ⟨rfl,fun i' t' k' o ty r hlt a1 a2 a3 a4 a5 a6=>?_⟩
 by_cases hq:i'<i∨i'=i∧(t'<t∨t'=t∧k'<k)
 ·exact h1 i' t' k' o ty r hq a1 a2 a3 a4 a5 a6
 ·exact hs i' t' k' o ty r hlt a1 a2 a3 a4 a5 hq a6
set_option maxRecDepth 4000
theorem LstW.appL {S0 S:q00} {t sz bytes:Nat} {v x:AV} {rows xs:List (List AV)} {K:AV→q00→Prop} (hs:Sub S0 S) (h:LstW S0 S t sz v rows) (hap:appX S sz x=some (xs.length,xs.flatten)) (hx:∀ r∈xs,r.length=sz) (ho:ones xs.flatten=true) (hb:(rows.length+xs.length) * bytes≤140737488355328)
  (hK:∀ v' S',Sub S0 S'→LstW S0 S' t sz v' (rows++xs)→(∀ c o,sget S c=some o→q0n v c→sget S' c=some o∧q0n v' c)→K v' S'):apW S t sz bytes v x K:=by
 refine ⟨xs.length,xs.flatten,hap,ho,?_⟩
 obtain ⟨hr,h⟩:=h
 have hall:∀ r∈rows++xs,r.length=sz:=fun r hm=>(List.mem_append.1 hm).elim (hr r) (hx r)
 have hfx:=q25 hx
 have hfr:=q25 hr
 have hfl:(rows++xs).flatten.length=(rows.length+xs.length) * sz:=by rw [q25 hall,List.length_append]
 rcases h with ⟨rfl,rfl⟩ | ⟨b,cap,cs,rfl,h1,h2,h3,h4,h5,h6⟩
 ·dsimp only
  simp only [List.length_nil,Nat.zero_add] at hb
  refine ⟨hb,?_⟩
  split
  ·rename_i h0
   have:xs=[]:=List.length_eq_zero_iff.1 h0
   subst this
   exact hK _ _ hs LstW.nil fun c o hc _=>⟨hc,fun b off n cap e=>by cases e⟩
  ·intro b cap hbn k1 k2
   have hb0:=Sub.none hs hbn
   refine hK _ _ (hs.supd hb0) ⟨hall,.inr ⟨b,cap,xs.flatten,by simp,hb0,by rw [q01,if_pos rfl],?_,by rw [List.nil_append,hfx];exact Nat.le_refl _,by simpa using k1,k2⟩⟩ fun c o hc _=>?_
   ·rw [List.nil_append,List.take_of_length_le (by rw [hfx];exact Nat.le_refl _)]
   ·have hne:b≠c:=q0i hbn hc
    exact ⟨by rw [q01,if_neg hne];exact hc,fun b' off n cap h=>by cases h;exact Ne.symm hne⟩
 ·refine ⟨_,h2,h5,h6,h4,hb,fun b' cap' k1 k2 k3=>?_⟩
  rw [h3]
  have hb0:sget S0 b'=none:=by
   rcases k1 with rfl | k1
   ·exact h1
   ·exact Sub.none hs k1
  have hsub:Sub S0 (supd (sdel S b) b' (.cells t (rows.flatten++xs.flatten) (cap' * sz))):=by
   refine Sub.supd hb0 fun c o hc=>?_
   have hne:b≠c:=by rintro rfl;rw [h1] at hc;cases hc
   rw [q0b,if_neg hne]
   exact hs c o hc
  refine hK _ _ hsub ⟨hall,.inr ⟨b',cap',rows.flatten++xs.flatten,by simp,hb0,by rw [q01,if_pos rfl],?_,?_,by simpa using k2,k3⟩⟩ fun c o hc ha=>?_
  ·rw [← List.flatten_append,List.take_of_length_le (by rw [hfl,List.length_append];exact Nat.le_refl _)]
  ·rw [← List.flatten_append,hfl,List.length_append];exact Nat.le_refl _
  ·have hcb:c≠b:=ha b 0 _ _ rfl
   have hcb':b'≠c:=by
    rcases k1 with rfl | k1
    ·exact Ne.symm hcb
    ·exact q0i k1 hc
   exact ⟨by rw [q01,if_neg hcb',q0b,if_neg (Ne.symm hcb)];exact hc,fun b'' off n cap h=>by cases h;exact Ne.symm hcb'⟩
theorem Fr.lst14 {S0 S:q00} {t sz:Nat} {v:AV} {rows:List (List AV)} (h:LstW S0 S t sz v rows):Fr S0 S v (.sl sz rows):=by
 obtain ⟨hr,⟨rfl,rfl⟩ | ⟨b,cap,cs,rfl,h1,h2,h3,h4,h5,h6⟩⟩:=h
 ·exact .nils sz
 ·exact .ownW t sz b _ cap rows cs hr h1 h2 h3 rfl h5
theorem appX_sl {S:q00} {sz:Nat} {xs:List (List AV)}:appX S sz (.sl sz xs)=some (xs.length,xs.flatten):=by simp [appX]
theorem idx_at {L:List Nd} {n:Nd} (h:n∈L):L[L.idxOf n]?=some n:=by
 have hlt:=List.idxOf_lt_length_iff.2 h
 rw [List.getElem?_eq_getElem hlt,List.getElem_idxOf hlt]
theorem exB_mono {E:q1g} (hE:OfOk E) {N:Nat} {K K':Nd→Bool} (h:∀ c,Low E.s N false c→K c=true→K' c=true) (hn:∀ c,Low E.s N true c→K c=K' c) (o:Ob) :
  ∀ (m:Nat) (e:Ex) (out:Bool),mayE m e=true→(∀ p∈q0u e out,∀ l∈q3t E.s o.ty p.1 p.2,getL (levF E.s) l.1+l.2.toNat≤N) →
   (out=false→exB E K o m e=true→exB E K' o m e=true)∧(out=true→exB E K o m e=exB E K' o m e)
 | 0,e,out,hm,hl=>by cases hm
 | m+1,.mk k n ov ks,out,hm,hl=>by
  have ih:=exB_mono hE h hn o m
  unfold mayE at hm
  unfold exB
  unfold q0u at hl
  by_cases k0:k=0
  ·simp only [if_pos k0] at hm ⊢
   rw [Bool.and_eq_true] at hm
   rw [if_pos hm.2] at hl
   have low:Low E.s N out ⟨o,n⟩:=by
    unfold Low lvN
    cases hq:q0q E.s o.ty n with
    | none=>exact .inl rfl
    | some p=>
     obtain ⟨i,j,r⟩:=p
     refine .inr (hl (.mk k n ov ks,out) (by simp) ((i,j),out) ?_)
     unfold q3t Ex.name
     simp only [hq]
     exact List.mem_cons_self
   exact ⟨fun ho=>by subst ho;exact h _ low,fun ho=>by subst ho;exact hn _ low⟩
  ·simp only [if_neg k0] at hm ⊢
   by_cases k1:k=1
   ·simp only [if_pos k1] at hm ⊢
    rw [Bool.and_eq_true,Bool.and_eq_true] at hm
    rw [if_pos hm.2.2] at hl
    have low:∀ x∈E.of ⟨o,n⟩,x.rl=⟨#[]⟩→Low E.s N out ⟨x.o,ov⟩:=by
     intro x hx hx0
     obtain ⟨i,j,r,h1,f,h2,h3,h4⟩:=hE.ok _ x hx
     unfold Low lvN
     cases hq:q0q E.s x.o.ty ov with
     | none=>exact .inl rfl
     | some p=>
      obtain ⟨i2,j2,r2⟩:=p
      refine .inr ?_
      simp only
      refine hl (.mk k n ov ks,out) (by simp) ((i2,j2),out) ?_
      unfold q3t Ex.name Ex.kind Ex.over
      simp only [show q0q E.s o.ty n=some (i,j,r) from h1,if_pos k1]
      refine List.mem_cons_of_mem _ (List.mem_map.2 ⟨(i2,j2),?_,rfl⟩)
      unfold q5g
      refine List.mem_filterMap.2 ⟨f,h2,?_⟩
      rw [if_pos (h4.symm.trans hx0),← h3,hq]
      rfl
    refine ⟨fun ho=>?_,fun ho=>?_⟩
    ·subst ho
     simp only [List.any_eq_true,Bool.and_eq_true,decide_eq_true_eq]
     rintro ⟨x,hx,h0,h1⟩
     exact ⟨x,hx,h0,h _ (low x hx h0) h1⟩
    ·subst ho
     rw [Bool.eq_iff_iff]
     simp only [List.any_eq_true,Bool.and_eq_true,decide_eq_true_eq]
     constructor
     ·rintro ⟨x,hx,h0,h1⟩;exact ⟨x,hx,h0,by rw [← hn _ (low x hx h0)];exact h1⟩
     ·rintro ⟨x,hx,h0,h1⟩;exact ⟨x,hx,h0,by rw [hn _ (low x hx h0)];exact h1⟩
   ·simp only [if_neg k1] at hm ⊢
    have k234:k=2∨k=3∨k=4:=by
     refine Classical.byContradiction fun hn=>?_
     rw [if_neg hn] at hm
     cases hm
    rw [if_pos k234] at hm
    obtain ⟨x1,x2,rfl⟩:∃ a b,ks=[a,b]:=by
     match ks,hm with
     | [a,b],_=>exact ⟨a,b,rfl⟩
     | [],hm=>cases hm
     | [_],hm=>cases hm
     | _ :: _ :: _ :: _,hm=>cases hm
    simp only [two,Bool.and_eq_true] at hm
    have hl':∀ p∈q0u x1 out++q0u x2 (out||decide (k=4)),∀ l∈q3t E.s o.ty p.1 p.2,getL (levF E.s) l.1+l.2.toNat≤N:=by
     intro p hp
     refine hl p ?_
     rw [if_neg (by simp)]
     simp only [q2k,List.append_nil]
     simpa using hp
    have ha:=ih x1 out hm.1 fun p hp=>hl' p (List.mem_append_left _ hp)
    have hb:=ih x2 (out||decide (k=4)) hm.2 fun p hp=>hl' p (List.mem_append_right _ hp)
    dsimp only
    generalize exB E K o m x1=A at ha ⊢
    generalize exB E K' o m x1=A' at ha ⊢
    generalize exB E K o m x2=B at hb ⊢
    generalize exB E K' o m x2=B' at hb ⊢
    rcases k234 with rfl | rfl | rfl<;>cases out<;>cases A<;>cases A'<;>cases B<;>cases B'<;>revert ha hb<;>decide
theorem body_mono {E:q1g} (hE:OfOk E) (hc:errA (chkF E.s)=0) {K K':Nd→Bool} {n:Nd} {i k:Nat} {r:Rl} (hf:q0q E.s n.o.ty n.rl=some (i,k,r)) (h:∀ c,Low E.s (lvN E.s n) false c→K c=true→K' c=true) (hn:∀ c,Low E.s (lvN E.s n) true c→K c=K' c) :
  q1w E K n r=true→q1w E K' n r=true:=by
 obtain ⟨ht0,ty,hty,-,hkr⟩:=q1v hf
 have hnm:ty.name=n.o.ty:=by
  obtain ⟨⟨x,hx,hp⟩,-⟩:=firstI_some.1 ht0
  rw [hty] at hx
  cases hx
  exact of_decide_eq_true hp
 have hst:=(q4v hc hty hkr).2
 have hlv:lvN E.s n=getL (levF E.s) (i,k):=by unfold lvN;rw [hf]
 rw [← hlv,hnm] at hst
 unfold q1w
 unfold q1j at hst
 by_cases h0:r.refs.length=0
 ·simp only [if_pos h0] at hst ⊢
  have hm:mayE 12 r.ex=true:=sc_may (q2v hc).may ty (List.mem_of_getElem? hty) r (List.mem_of_getElem? hkr) h0
  exact (exB_mono hE h hn n.o 12 r.ex false hm fun p hp l hl=>hst l (List.mem_flatMap.2 ⟨p,hp,hl⟩)).1 rfl
 ·simp only [if_neg h0] at hst ⊢
  have low:∀ x∈E.of n,x.rl≠⟨#[]⟩→K x=true→K' x=true:=by
   intro x hx hx0
   obtain ⟨i1,k1,r1,h1,f,h2,h3,h4⟩:=hE.ok _ x hx
   rw [hf] at h1
   cases h1
   refine h _ ?_
   unfold Low
   cases hq:q0q E.s x.o.ty x.rl with
   | none=>exact .inl rfl
   | some p=>
    obtain ⟨i2,j2,r2⟩:=p
    refine .inr ?_
    have:=hst ((i2,j2),false) (List.mem_filterMap.2 ⟨f,h2,by unfold q2q;rw [if_neg (by rw [← h4];exact hx0),← h3,← h4,hq];rfl⟩)
    unfold lvN at this ⊢
    rw [hq]
    exact this
  simp only [List.any_eq_true]
  rintro ⟨x,hx,hb⟩
  refine ⟨x,hx,?_⟩
  by_cases h0:x.rl=⟨#[]⟩
  ·rw [if_pos h0] at hb ⊢;exact hb
  ·rw [if_neg h0] at hb ⊢;exact low x hx h0 hb
theorem Mod.none {E:q1g} {L:List Nd} (h:Mod E L) {n:Nd} (hn:q0q E.s n.o.ty n.rl=Option.none):n ∉ L:=by
 intro hm
 obtain ⟨i,hi⟩:=List.getElem?_of_mem hm
 obtain ⟨j,k,r,h1,-⟩:=h.step i n hi
 rw [hn] at h1
 cases h1
theorem Mod.le {E:q1g} {L L':List Nd} (hE:OfOk E) (hc:errA (chkF E.s)=0) (h:Mod E L) (h':Mod E L') {v:Nat} (hv:∀ c,lvN E.s c<v→(c∈L↔c∈L')):∀ (i:Nat) (n:Nd),L.idxOf n=i→lvN E.s n=v→n∈L→n∈L':=by
 intro i
 induction i using Nat.strongRecOn with
 | ind i ih=>
  intro n hi hl hn
  obtain ⟨j,k,r,hf,hb⟩:=h.step _ n (idx_at hn)
  refine h'.closed n j k r hf (body_mono hE hc hf (fun c hlow hq=>?_) (fun c hlow=>?_) hb)
  ·rw [decide_eq_true_eq,q2n] at hq
   rw [decide_eq_true_eq]
   rcases hlow with h0 | h0
   ·exact absurd hq.1 (h.none h0)
   ·have h0:lvN E.s c≤lvN E.s n:=by simpa using h0
    rcases Nat.lt_or_eq_of_le h0 with h1 | h1
    ·exact (hv c (by omega)).1 hq.1
    ·exact ih _ (by omega) c rfl (by omega) hq.1
  ·rw [Bool.eq_iff_iff,decide_eq_true_eq,decide_eq_true_eq,q2n]
   rcases hlow with h0 | h0
   ·exact ⟨fun hq=>absurd hq.1 (h.none h0),fun hq=>absurd hq (h'.none h0)⟩
   ·have h0:lvN E.s c<lvN E.s n:=by simpa [Nat.lt_iff_add_one_le] using h0
    have hvc:=hv c (by omega)
    exact ⟨fun hq=>hvc.1 hq.1,fun hq=>⟨hvc.2 hq,h.lev c n (hvc.2 hq) hn h0⟩⟩
theorem Mod.uniq {E:q1g} {L L':List Nd} (hE:OfOk E) (hc:errA (chkF E.s)=0) (h:Mod E L) (h':Mod E L') (n:Nd):n∈L↔n∈L':=by
 have key:∀ (v:Nat) (n:Nd),lvN E.s n=v→(n∈L↔n∈L'):=by
  intro v
  induction v using Nat.strongRecOn with
  | ind v ih=>
   intro n hn
   have hv:∀ c,lvN E.s c<v→(c∈L↔c∈L'):=fun c hc=>ih _ hc c rfl
   exact ⟨Mod.le hE hc h h' hv _ n rfl hn,Mod.le hE hc h' h (fun c hc=>(hv c hc).symm) _ n rfl hn⟩
 exact key _ n rfl
noncomputable def inB (E:q1g) (n:Nd):Bool:=@decide (∃ K,Mod E K∧n∈K) (Classical.propDecidable _)
theorem inB_eq {E:q1g} {K:List Nd} (hE:OfOk E) (hc:errA (chkF E.s)=0) (h:Mod E K) (n:Nd):decide (n∈K)=inB E n:=by
 unfold inB
 rw [Bool.eq_iff_iff,decide_eq_true_eq]
 exact ⟨fun hn=>(@decide_eq_true_iff _ (Classical.propDecidable _)).2 ⟨K,h,hn⟩,fun hq=>by
  obtain ⟨K',h',hn⟩:=(@decide_eq_true_iff _ (Classical.propDecidable _)).1 hq
  exact (Mod.uniq hE hc h' h n).1 hn⟩
theorem in_body {E:q1g} {K:List Nd} (hE:OfOk E) (hc:errA (chkF E.s)=0) (h:Mod E K) {n:Nd} {i k:Nat} {r:Rl} (hf:q0q E.s n.o.ty n.rl=some (i,k,r)):decide (n∈K)=q1w E (fun c=>decide (c∈K)) n r:=by
 rw [Bool.eq_iff_iff,decide_eq_true_eq]
 refine ⟨fun hn=>?_,h.closed n _ _ _ hf⟩
 obtain ⟨j',k',r',hf',hb⟩:=h.step _ n (idx_at hn)
 rw [hf] at hf'
 cases hf'
 refine body_mono hE hc hf (fun c _ hq=>?_) (fun c hlow=>?_) hb
 ·rw [decide_eq_true_eq] at hq ⊢
  exact List.mem_of_mem_take hq
 ·rw [Bool.eq_iff_iff,decide_eq_true_eq,decide_eq_true_eq,q2n]
  refine ⟨fun hq=>hq.1,fun hq=>⟨hq,?_⟩⟩
  rcases hlow with h0 | h0
  ·exact absurd hq (h.none h0)
  ·have h0:lvN E.s c<lvN E.s n:=by simpa [Nat.lt_iff_add_one_le] using h0
   exact h.lev c n hq hn h0
mutual
def outsE:Ex→Bool
 | .mk k _ _ ks=>decide (k=4)||outsL ks
def outsL:List Ex→Bool
 | []=>false
 | e :: r=>outsE e||outsL r
end
theorem exB_grow {E E':q1g} {K K':Nd→Bool} (ho:∀ n x,x∈E.of n→x∈E'.of n) (hk:∀ c,K c=true→K' c=true) (o:Ob) :
  ∀ (m:Nat) (e:Ex),outsE e=false→exB E K o m e=true→exB E' K' o m e=true
 | 0,e,_,h=>by cases h
 | m+1,.mk k n ov ks,h4,h=>by
  have ih:=exB_grow ho hk o m
  unfold exB at h ⊢
  unfold outsE at h4
  rw [Bool.or_eq_false_iff] at h4
  have k4:¬ k=4:=of_decide_eq_false h4.1
  by_cases k0:k=0
  ·rw [if_pos k0] at h ⊢
   exact hk _ h
  ·rw [if_neg k0] at h ⊢
   by_cases k1:k=1
   ·rw [if_pos k1] at h ⊢
    simp only [List.any_eq_true,Bool.and_eq_true] at h ⊢
    obtain ⟨x,hx,h0,h1⟩:=h
    exact ⟨x,ho _ x hx,h0,hk _ h1⟩
   ·rw [if_neg k1] at h ⊢
    match ks,h4.2,h with
    | [a,b],h5,h=>
     unfold outsL at h5
     unfold outsL at h5
     simp only [Bool.or_eq_false_iff] at h5
     dsimp only at h ⊢
     rw [if_neg k4] at h ⊢
     by_cases k2:k=2
     ·rw [if_pos k2,Bool.or_eq_true] at h ⊢
      exact h.imp (ih a h5.1) (ih b h5.2.1)
     ·rw [if_neg k2,Bool.and_eq_true] at h ⊢
      exact ⟨ih a h5.1 h.1,ih b h5.2.1 h.2⟩
    | [],_,h=>cases h
    | [_],_,h=>cases h
    | _ :: _ :: _ :: _,_,h=>cases h
theorem body_grow {E E':q1g} {K K':Nd→Bool} (hw:E.who=E'.who) (ho:∀ n x,x∈E.of n→x∈E'.of n) (hk:∀ c,K c=true→K' c=true) {n:Nd} {r:Rl} (h4:outsE r.ex=false) (h:q1w E K n r=true):q1w E' K' n r=true:=by
 unfold q1w at h ⊢
 by_cases h0:r.refs.length=0
 ·rw [if_pos h0] at h ⊢
  exact exB_grow ho hk _ _ _ h4 h
 ·rw [if_neg h0] at h ⊢
  rw [List.any_eq_true] at h ⊢
  obtain ⟨x,hx,h1⟩:=h
  refine ⟨x,ho _ x hx,?_⟩
  by_cases hr:x.rl=⟨#[]⟩
  ·rw [if_pos hr] at h1 ⊢;rw [← hw];exact h1
  ·rw [if_neg hr] at h1 ⊢;exact hk _ h1
theorem Mod.grow {E E':q1g} {L L':List Nd} (hs:E.s=E'.s) (hw:E.who=E'.who) (ho:∀ n x,x∈E.of n→x∈E'.of n) (hno:∀ t∈E.s,∀ r∈t.rels,outsE r.ex=false) (h:Mod E L) (h':Mod E' L') :
  ∀ (i:Nat) (n:Nd),L.idxOf n=i→n∈L→n∈L':=by
 intro i
 induction i using Nat.strongRecOn with
 | ind i ih=>
  intro n hi hn
  obtain ⟨j,k,r,hf,hb⟩:=h.step _ n (idx_at hn)
  have hf':=hf
  rw [hs] at hf'
  obtain ⟨-,ty,hty,-,hkr⟩:=q1v hf
  refine h'.closed n j k r hf' (body_grow hw ho (fun c hq=>?_) (hno ty (List.mem_of_getElem? hty) r (List.mem_of_getElem? hkr)) hb)
  rw [decide_eq_true_eq,q2n] at hq
  rw [decide_eq_true_eq]
  exact ih _ (by omega) c rfl hq.1
set_option maxRecDepth 4000
abbrev tyGw:Nat:=186
def gwC (bo br bk:Nat) (who:Ob):List AV:=[.map (some bo),.map (some br),.map (some bk),.str who.ty,.str who.id]
structure GW (E:q1g) (bw bo br bk:Nat) (K:List Nd) (S:q00):Prop where
 c:q0h S bw=some (tyGw,gwC bo br bk E.who,5)
 of:KMap MD ndA S bo (fun n=>ofA (E.of n))
 kn:KMap MD ndA S bk (fun n=>if n∈K then some (.bool true) else none)
 len:∀ n,(E.of n).length≤1125899906842624
theorem q4w {K:List Nd} {n:Nd}:q1r false (.bool false) (if n∈K then some (.bool true) else none)=.bool (decide (n∈K)):=by
 by_cases h:n∈K
 ·rw [if_pos h,decide_eq_true h];rfl
 ·rw [if_neg h,decide_eq_false h];rfl
theorem foldE_pure {p:Nd→Bool}:∀ {xs:List Nd} {w:Nat},q4f (fun w x=>some (p x,w)) xs w=some (xs.any p,w)
 | [],w=>rfl
 | x :: r,w=>by
  rw [foldE_cons,List.any_cons]
  cases h:p x
  ·dsimp only
   rw [foldE_pure,Bool.false_or]
  ·rfl
theorem q4n {xs:List Nd} {g:Nat} {fi ca:List AV} {p:Nd→Bool} {S:q00} (hb:xs.length≤1125899906842624) (hp:∀ x∈xs,AFunS PG g (fi++[.agg (ndC x)]++ca) S (.bool (p x))) :
  AFunS PG nrx147 [q1r false .nils (ofA xs),.func (.func g) fi ca] S (.bool (xs.any p)):=by
 have q:=q7k (pv:=.nils) (X:=fun _=>False) (St:=fun _ S'=>S'=S) (step:=fun w x=>some (p x,w)) hb (fun x hx w S' hS=>by subst hS;exact hp x hx) (w:=0) rfl
 rw [foldE_pure] at q
 exact q
section
variable {E:q1g} {bw bo br bk:Nat} {K:List Nd} {S:q00}
theorem c_gholds_1 (h:GW E bw bo br bk K S) (x:Nd) (k n:AV) (ov:ByteArray) (ks:AV):AFunS PG nrx211 ([]++[.agg (ndC x)]++[.rop [.ptr bw 0],.rop [k,n,.str ov,ks]]) S (.bool (decide (x.rl=⟨#[]⟩)&&decide ((⟨x.o,ov⟩:Nd)∈K))):=by
 have hc:=q08 h.c
 refine wx211 ?_
 unfold Bx211
 (try simp only [rwp,zA,zB,zC,zD,zE,zF,zG,zH,zI,rwb,reduceIte,ndC])
 cases a1:decide (x.rl=⟨#[]⟩)
 ·(try simp only [rwp,zA,zB,zC,zD,zE,zF,zG,zH,zI,rwb,reduceIte])
  exact q03 ⟨rfl,rfl⟩
 ·(try simp only [rwp,zA,zB,zC,zD,zE,zF,zG,zH,zI,rwb,reduceIte,hc,gwC])
  have q:=fun K' hk=>h.kn.lki (ok:=false) (z:=.bool false) (K:=K') ke_nd ⟨x.o,ov⟩ hk
  simp only [ndA,ndC] at q
  refine q _ ?_
  rw [q4w]
  (try simp only [rwp,zA,zB,zC,zD,zE,zF,zG,zH,zI,rwb,reduceIte])
  exact q03 ⟨rfl,rfl⟩
theorem c_gholds (h:GW E bw bo br bk K S) (o:Ob):∀ (m:Nat) (e:Ex),mayE m e=true→AFunS PG nrx192 [.ptr bw 0,.agg (obC o),.agg (exC e)] S (.bool (exB E (fun c=>decide (c∈K)) o m e))
 | 0,e,hm=>by cases hm
 | m+1,.mk k n ov ks,hm=>by
  have ih:=c_gholds h o m
  have hc:=q08 h.c
  refine wx192 ?_
  unfold Bx192 exB
  unfold mayE at hm
  (try simp only [rwp,zA,zB,zC,zD,zE,zF,zG,zH,zI,rwb,reduceIte,obC,q0d,Ex.kind,Ex.name,Ex.over,Ex.kids])
  (refine q05 (fun k0=>?_) (fun k0=>?_)<;>(try simp only [hlc] at k0))
  ·rw [if_pos k0]
   (try simp only [rwp,zA,zB,zC,zD,zE,zF,zG,zH,zI,rwb,reduceIte,hc,gwC])
   have q:=fun K' hk=>h.kn.lki (ok:=false) (z:=.bool false) (K:=K') ke_nd ⟨o,n⟩ hk
   simp only [ndA,ndC] at q
   refine q _ ?_
   rw [q4w]
   exact q03 ⟨rfl,rfl⟩
  ·rw [if_neg k0] at hm ⊢
   (refine q05 (fun k1=>?_) (fun k1=>?_)<;>(try simp only [hlc] at k1))
   ·rw [if_pos k1]
    (try simp only [rwp,zA,zB,zC,zD,zE,zF,zG,zH,zI,rwb,reduceIte,hc,gwC])
    have q:=fun K' hk=>h.of.lki (ok:=false) (z:=.nils) (K:=K') ke_nd ⟨o,n⟩ hk
    simp only [ndA,ndC] at q
    refine q _ ?_
    refine q1a (q4n (h.len _) fun x hx=>c_gholds_1 h x _ _ ov _) ?_
    exact q03 ⟨rfl,rfl⟩
   ·rw [if_neg k1] at hm ⊢
    have k234:k=2∨k=3∨k=4:=by
     refine Classical.byContradiction fun hn=>?_
     rw [if_neg hn] at hm
     cases hm
    rw [if_pos k234] at hm
    obtain ⟨a,b,rfl⟩:∃ a b,ks=[a,b]:=by
     match ks,hm with
     | [a,b],_=>exact ⟨a,b,rfl⟩
     | [],hm=>cases hm
     | [_],hm=>cases hm
     | _ :: _ :: _ :: _,hm=>cases hm
    simp only [two,Bool.and_eq_true] at hm
    have ha:=ih a hm.1
    have hb:=ih b hm.2
    dsimp only
    generalize exB E (fun c=>decide (c∈K)) o m a=va at ha ⊢
    generalize exB E (fun c=>decide (c∈K)) o m b=vb at hb ⊢
    obtain ⟨ka,na,oa,ksa⟩:=a
    obtain ⟨kb,nb,ob,ksb⟩:=b
    simp only [obC,q0d,Ex.kind,Ex.name,Ex.over,Ex.kids] at ha hb
    rcases k234 with rfl | rfl | rfl<;>(try simp only [rwp,zA,zB,zC,zD,zE,zF,zG,zH,zI,rwb,reduceIte,Int.reduceEq,q0d,Ex.kind,Ex.name,Ex.over,Ex.kids,List.getElem?_cons_zero,List.getElem?_cons_succ,Option.map_some,List.map_cons])<;>refine q1a ha ?_<;>cases va<;>(try simp only [rwp,zA,zB,zC,zD,zE,zF,zG,zH,zI,rwb,reduceIte,q0d,Ex.kind,Ex.name,Ex.over,Ex.kids,List.getElem?_cons_zero,List.getElem?_cons_succ,Option.map_some,List.map_cons])<;>first
     | exact q03 ⟨rfl,rfl⟩
     | (refine q1a hb ?_;cases vb<;>(try simp only [rwp,zA,zB,zC,zD,zE,zF,zG,zH,zI,rwb,reduceIte])<;>exact q03 ⟨rfl,rfl⟩)
theorem c_gstands_1 (h:GW E bw bo br bk K S) (x:Nd):AFunS PG nrx193 ([]++[.agg (ndC x)]++[.rop [.ptr bw 0]]) S (.bool (if x.rl=⟨#[]⟩ then decide (x.o=E.who) else decide (x∈K))):=by
 have hc:=q08 h.c
 have eo:decide (x.o=E.who)=(decide (x.o.ty=E.who.ty)&&decide (x.o.id=E.who.id)):=by
  rw [Bool.eq_iff_iff]
  cases x.o;cases E.who
  simp
 refine wx193 ?_
 unfold Bx193
 (try simp only [rwp,zA,zB,zC,zD,zE,zF,zG,zH,zI,rwb,reduceIte,ndC])
 cases a1:decide (x.rl=⟨#[]⟩)
 ·have a1':=of_decide_eq_false a1
  rw [if_neg a1']
  (try simp only [rwp,zA,zB,zC,zD,zE,zF,zG,zH,zI,rwb,reduceIte,C193_1,C193_2,a1,hc,gwC])
  have q:=fun K' hk=>h.kn.lki (ok:=false) (z:=.bool false) (K:=K') ke_nd x hk
  simp only [ndA,ndC] at q
  refine q _ ?_
  rw [q4w]
  (try simp only [rwp,zA,zB,zC,zD,zE,zF,zG,zH,zI,rwb,reduceIte,C193_3])
  exact q03 ⟨rfl,rfl⟩
 ·have a1':=of_decide_eq_true a1
  rw [if_pos a1',eo]
  (try simp only [rwp,zA,zB,zC,zD,zE,zF,zG,zH,zI,rwb,reduceIte,hc,gwC])
  cases a2:(decide (x.o.ty=E.who.ty)&&decide (x.o.id=E.who.id))<;>(try simp only [rwp,zA,zB,zC,zD,zE,zF,zG,zH,zI,rwb,reduceIte,C193_1,C193_2,C193_3,a1])<;>exact q03 ⟨rfl,rfl⟩
theorem c_gstands (h:GW E bw bo br bk K S) (n:Nd) (r:Rl) (hn:r.name=n.rl) (hm:r.refs.length=0→mayE 12 r.ex=true):AFunS PG nrx154 [.ptr bw 0,.agg (obC n.o),.agg (rlC r)] S (.bool (q1w E (fun c=>decide (c∈K)) n r)):=by
 have hc:=q08 h.c
 refine wx154 ?_
 unfold Bx154 q1w
 (try simp only [rwp,zA,zB,zC,zD,zE,zF,zG,zH,zI,rwb,reduceIte,obC,q0y,hn])
 cases a1:decide ((r.refs.length:Int)=0)
 ·have h0:¬ r.refs.length=0:=by have:=of_decide_eq_false a1;omega
  rw [if_neg h0]
  (try simp only [rwp,zA,zB,zC,zD,zE,zF,zG,zH,zI,rwb,reduceIte,hc,gwC])
  have q:=fun K' hk=>h.of.lki (ok:=false) (z:=.nils) (K:=K') ke_nd n hk
  simp only [ndA,ndC] at q
  refine q _ ?_
  refine q1a (q4n (h.len _) fun x hx=>c_gstands_1 h x) ?_
  exact q03 ⟨rfl,rfl⟩
 ·have h0:r.refs.length=0:=by have:=of_decide_eq_true a1;omega
  rw [if_pos h0]
  have q:=c_gholds h n.o 12 r.ex (hm h0)
  generalize r.ex=e at q ⊢
  obtain ⟨ka,na,oa,ksa⟩:=e
  simp only [obC,q0d,Ex.kind,Ex.name,Ex.over,Ex.kids] at q ⊢
  (try simp only [rwp,zA,zB,zC,zD,zE,zF,zG,zH,zI,rwb,reduceIte])
  refine q1a q ?_
  exact q03 ⟨rfl,rfl⟩
end
set_option maxRecDepth 4000
def relsA (s:List Ty) (nm:ByteArray):Option AV:=match typF s nm with
 | none=>none
 | some i=>(s[i]?).map fun t=>.sl 6 (t.rels.map rlC)
def levsA (s:List Ty) (nm:ByteArray):Option AV:=match typF s nm with
 | none=>none
 | some i=>((levF s)[i]?).map fun l=>.sl 1 (l.map fun x=>[iv x])
theorem c_gknown_1 {s:List Ty} {S:q00} {bl bc i k x v:Nat} {mst:Int} {nm:ByteArray} {l:List Nat} (h1:KMap MS AV.str S bl (levsA s)) (h2:q1z S bc=some [.int .i64 v]) (ht:typF s nm=some i) (hl:(levF s)[i]?=some l) (hx:l[k]?=some x) :
  AFunS PG nrx111 ([]++[.str nm,.int .i64 k]++[.rop [.map (some bl),.int .i64 mst],.ptr bc 0]) S (.bool (decide (x=v))):=by
 refine wx111 ?_
 unfold Bx111
 (try simp only [rwp,zA,zB,zC,zD,zE,zF,zG,zH,zI,rwb,reduceIte])
 refine h1.lki q2g nm ?_
 have e:levsA s nm=some (.sl 1 (l.map fun x=>[iv x])):=by unfold levsA;rw [ht];simp [hl]
 rw [e]
 (try simp only [rwp,zA,zB,zC,zD,zE,zF,zG,zH,zI,rwb,reduceIte,q1r,h2,List.getElem?_map,hx,iv])
 exact q03 ⟨by simp only [Int.ofNat_inj],rfl⟩
structure KN (bk:Nat) (K:List Nd) (es:List (AV×AV×Nat)) (clk:Nat) (S:q00):Prop where
 map:sget S bk=some (.map MD es clk)
 key:∀ x∈es,∃ n,x.1=ndA n
 nd:(es.map fun x=>x.2.2).Nodup
 lt:∀ x∈es,x.2.2<clk
 get:∀ n,mget es (ndA n)=if n∈K then some (.bool true) else none
theorem KN.push {bk:Nat} {K:List Nd} {es:List (AV×AV×Nat)} {clk:Nat} {S:q00} (h:KN bk K es clk S) {n:Nd} (hn:n ∉ K) {KT:q00→Prop}
  (hK:∀ es' clk',KN bk (K++[n]) es' clk' (supd S bk (.map MD es' clk'))→KT (supd S bk (.map MD es' clk'))) :
  meW S MD (.bool false) (.map (some bk)) (ndA n) fun v S=>exW 1 v fun v62=>mtW S (.map (some bk)) v62 (.bool true) KT:=by
 have hq:mget es (ndA n)=none:=by rw [h.get,if_neg hn]
 have hm:=mfind_none hq
 refine ⟨bk,es,clk,rfl,h.map,ke_nd.ok n,?_⟩
 rw [hm]
 dsimp only
 rw [q8l,q50]
 have hnd:((es++[(ndA n,AV.bool false,clk)]).map fun x=>x.2.2).Nodup:=by
  rw [List.map_append,List.nodup_append]
  refine ⟨h.nd,by simp,fun a ha b hb=>?_⟩
  obtain ⟨x,hx,rfl⟩:=List.mem_map.1 ha
  have:=h.lt x hx
  simp at hb
  omega
 have hset:(mset es (ndA n) (.bool true) clk)=(es++[(ndA n,.bool true,clk)],clk+1):=by unfold mset;rw [hm]
 refine ⟨bk,MD,es++[(ndA n,.bool false,clk)],clk+1,es.length,ndA n,.bool false,clk,rfl,by rw [q01,if_pos rfl],rfl,q79 hnd (x:=(ndA n,.bool false,clk)) (by simp) rfl,by simp,?_⟩
 have e:(es++[(ndA n,AV.bool false,clk)]).set es.length (ndA n,.bool true,clk)=es++[(ndA n,.bool true,clk)]:=by simp
 rw [e]
 have e2:supd (supd S bk (.map MD (es++[(ndA n,.bool false,clk)]) (clk+1))) bk (.map MD (es++[(ndA n,.bool true,clk)]) (clk+1))=supd S bk (.map MD (es++[(ndA n,.bool true,clk)]) (clk+1)):=by
  funext c
  unfold supd
  split<;>rfl
 rw [e2]
 refine hK _ _ ⟨by rw [q01,if_pos rfl],fun x hx=>?_,by simpa using hnd,fun x hx=>?_,fun m=>?_⟩
 ·rcases List.mem_append.1 hx with hx | hx
  ·exact h.key x hx
  ·rw [List.mem_singleton.1 hx];exact ⟨n,rfl⟩
 ·rcases List.mem_append.1 hx with hx | hx
  ·have:=h.lt x hx;omega
  ·rw [List.mem_singleton.1 hx];exact Nat.lt_succ_self _
 ·have:=mget_mset (es:=es) (n:=n) (m:=m) (v:=.bool true) (clk:=clk) h.key
  rw [hset] at this
  rw [this,h.get]
  by_cases hmn:m=n
  ·subst hmn;simp
  ·rw [if_neg hmn]
   simp [List.mem_append,hmn]
abbrev MO:Bool×List EK:=(true,[.str,.str])
def obA (o:Ob):AV:=.agg (obC o)
theorem ke_ob:KE MO obA:=⟨fun n=>by simp [obA,obC,q0o,q12,ekOk],fun n m h=>by
 obtain ⟨a,b⟩:=n
 obtain ⟨d,e⟩:=m
 simp only [obA,obC,AV.agg.injEq,List.cons.injEq,AV.str.injEq,and_true] at h
 obtain ⟨rfl,rfl⟩:=h
 rfl⟩
section
variable {S0 S S':q00} {t bo:Nat} {Ks Ks':Nat→Prop} {f:Nd→List (List AV)} {es:List (AV×AV×Nat)} {clk:Nat}
theorem OfM.other (h:OfM S0 S t bo Ks f es clk) {v v':AV} (hv:∀ b off n cap,v=.own b off n cap→Ks b) (hk:∀ c o,sget S c=some o→q0n v c→sget S' c=some o∧q0n v' c)
  (hK:∀ c,Ks' c→Ks c∨∃ off n cap,v'=.own c off n cap) (hs:∀ c,Ks' c→c≠bo∧sget S' c≠none):OfM S0 S' t bo Ks' f es clk:=by
 have asd:∀ n u,mget es (ndA n)=some u→∀ b off k cap,u=.own b off k cap→q0n v b:=by
  intro n u hu b off k cap e b' off' k' cap' e'
  exact Ne.symm ((h.yes n u hu).2.2.2 b' (hv _ _ _ _ e') b off k cap e)
 have lst:∀ n u,mget es (ndA n)=some u→∀ b off k cap,u=.own b off k cap→∃ o,sget S b=some o∧sget S' b=some o∧q0n v' b:=by
  intro n u hu b off k cap e
  subst e
  obtain ⟨-,⟨hr,hl⟩,-,-⟩:=h.yes n _ hu
  rcases hl with ⟨e,-⟩ | ⟨b1,cap1,e,q1,q2,q3⟩
  ·cases e
  ·cases e
   exact ⟨_,q2,hk b _ q2 (asd n _ hu b _ _ _ rfl)⟩
 have hbo:q0n v bo:=fun b off n cap e=>Ne.symm (h.ks b (hv _ _ _ _ e)).1
 refine ⟨(hk bo _ h.map hbo).1,h.b0,h.key,h.nd,h.ku,h.lt,h.no,fun n u hu=>?_,h.apart,hs⟩
 obtain ⟨k1,⟨hr,hl⟩,k3,k4⟩:=h.yes n u hu
 refine ⟨k1,⟨hr,?_⟩,k3,fun c hc=>?_⟩
 ·rcases hl with hl | ⟨b,cap,rfl,q1,q2,q3⟩
  ·exact .inl hl
  ·obtain ⟨o,o1,o2,o3⟩:=lst n _ hu b _ _ _ rfl
   rw [q2] at o1
   cases o1
   exact .inr ⟨b,cap,rfl,q1,o2,q3⟩
 ·rcases hK c hc with hc | ⟨off,m,cap,rfl⟩
  ·exact k4 c hc
  ·intro b off' k cap' e
   obtain ⟨o,o1,o2,o3⟩:=lst n u hu b _ _ _ e
   exact Ne.symm (o3 c _ _ _ rfl)
theorem OfM.supd (h:OfM S0 S t bo Ks f es clk) {c:Nat} (hc:Ks c) (o:AObj):OfM S0 (supd S c o) t bo Ks f es clk:=by
 refine h.other (v:=.own c 0 0 0) (v':=.nils) (fun b off n cap e=>by cases e;exact hc) (fun b x hb ha=>⟨?_,fun _ _ _ _ e=>by cases e⟩) (fun b hb=>.inl hb) fun b hb=>⟨(h.ks b hb).1,?_⟩
 ·rw [q01,if_neg (Ne.symm (ha c 0 0 0 rfl))]
  exact hb
 ·rw [q01]
  split
  ·simp
  ·exact (h.ks b hb).2
theorem OfM.more (h:OfM S0 S t bo Ks f es clk) (hs:Sub S S') (hK:∀ c,Ks' c→Ks c∨sget S c=none) (hc:∀ c,Ks' c→c≠bo∧sget S' c≠none):OfM S0 S' t bo Ks' f es clk:=by
 refine ⟨hs _ _ h.map,h.b0,h.key,h.nd,h.ku,h.lt,h.no,fun n u hu=>?_,h.apart,hc⟩
 obtain ⟨k1,k2,k3,k4⟩:=h.yes n u hu
 refine ⟨k1,k2.sub hs,k3,fun c hc=>?_⟩
 rcases hK c hc with hc | hc
 ·exact k4 c hc
 ·intro b off k cap e
  subst e
  obtain ⟨hr,⟨e,-⟩ | ⟨b1,cap1,e,q1,q2,-⟩⟩:=k2
  ·cases e
  ·cases e
   rintro rfl
   rw [q2] at hc
   cases hc
theorem OfM.nil {bo:Nat} (hb:sget S0 bo=none) (hs:sget S bo=some (.map MD [] 0)) (hK:∀ c,Ks c→c≠bo∧sget S c≠none):OfM S0 S t bo Ks (fun _=>[]) [] 0:=
 ⟨hs,hb,fun x hx=>(by cases hx),by simp,fun i j x y hx=>by simp at hx,fun x hx=>(by cases hx),fun m _=>rfl,fun m v hv=>(by cases hv),fun m p v u _ hv=>(by cases hv),hK⟩
end
set_option maxRecDepth 4000
structure GS (E:q1g) (S0:q00) (bw bo br bk bl:Nat) (K:List Nd) (S:q00):Prop where
 w:q0h S bw=some (tyGw,gwC bo br bk E.who,5)
 of:KMap MD ndA S bo (fun n=>ofA (E.of n))
 rl:KMap MS AV.str S br (relsA E.s)
 lv:KMap MS AV.str S bl (levsA E.s)
 kn:∃ es clk,KN bk K es clk S
 nw:bk≠bw
 no:bk≠bo
 nr:bk≠br
 nl:bk≠bl
 len:∀ n,(E.of n).length≤1125899906842624
 sub:Sub S0 S
 nb:sget S0 bk=none
section
variable {E:q1g} {S0 S:q00} {bw bo br bk bl:Nat} {K K':List Nd}
theorem KN.kmap {es:List (AV×AV×Nat)} {clk:Nat} (h:KN bk K es clk S):KMap MD ndA S bk (fun n=>if n∈K then some (.bool true) else none):=
 ⟨es,clk,mapObj_some.2 h.map,fun x hx=>by obtain ⟨n,e⟩:=h.key x hx;rw [e];exact ke_nd.ok n,h.get⟩
theorem GS.gw (h:GS E S0 bw bo br bk bl K S):GW E bw bo br bk K S:=by
 obtain ⟨es,clk,hk⟩:=h.kn
 exact ⟨h.w,h.of,hk.kmap,h.len⟩
theorem GS.set (h:GS E S0 bw bo br bk bl K S) {es:List (AV×AV×Nat)} {clk:Nat} (hk:KN bk K' es clk (supd S bk (.map MD es clk))):GS E S0 bw bo br bk bl K' (supd S bk (.map MD es clk)):=
 ⟨by rw [q0e h.nw];exact h.w,h.of.upd h.no _,h.rl.upd h.nr _,h.lv.upd h.nl _,⟨es,clk,hk⟩,h.nw,h.no,h.nr,h.nl,h.len,Sub.supd h.nb h.sub,h.nb⟩
theorem GS.kb (h:GS E S0 bw bo br bk bl K S):sget S bk≠none:=by
 obtain ⟨es,clk,hk⟩:=h.kn
 rw [hk.map]
 simp
theorem GS.fresh (h:GS E S0 bw bo br bk bl K S) {c:Nat} (hc:sget S c=none) (o:AObj):GS E S0 bw bo br bk bl K (supd S c o):=by
 obtain ⟨es,clk,hk⟩:=h.kn
 have hcw:c≠bw:=fun e=>q65 h.w (e ▸ hc)
 have hck:c≠bk:=fun e=>h.kb (e ▸ hc)
 exact ⟨by rw [q0e hcw];exact h.w,h.of.fresh hc _,h.rl.fresh hc _,h.lv.fresh hc _,⟨es,clk,⟨by rw [q01,if_neg hck];exact hk.map,hk.key,hk.nd,hk.lt,hk.get⟩⟩,h.nw,h.no,h.nr,h.nl,h.len,Sub.supd (Sub.none h.sub hc) h.sub,h.nb⟩
end
structure RdG (s:List Ty) (L:List Tu) (who:Ob) (T:List Ob) (v:Nat) (K0:List Nd) (i k:Nat) (K:List Nd) (b:Bool):Prop where
 u:Upto (envL s L who) (q49 s T) v K
 y:b=true→K0.length<K.length
 n:b=false→K=K0∧∀ (i' k':Nat) (o:Ob) (t:Nat) (ty:Ty) (r:Rl),(i'<i∨i'=i∧k'<k)→T[i']?=some o→typF s o.ty=some t→s[t]?=some ty→ty.rels[k']?=some r→getL (levF s) (t,k')=v→q1w (envL s L who) (fun c=>decide (c∈K0)) ⟨o,r.name⟩ r=true→(⟨o,r.name⟩:Nd)∈K0
theorem RdG.skip {s:List Ty} {L:List Tu} {who:Ob} {T:List Ob} {v:Nat} {K0 K:List Nd} {i k i2 k2:Nat} {b:Bool} (h:RdG s L who T v K0 i k K b)
  (hs:∀ (i' k':Nat) (o:Ob) (t:Nat) (ty:Ty) (r:Rl),(i'<i2∨i'=i2∧k'<k2)→T[i']?=some o→typF s o.ty=some t→s[t]?=some ty→ty.rels[k']?=some r→getL (levF s) (t,k')=v→¬ (i'<i∨i'=i∧k'<k)→q1w (envL s L who) (fun c=>decide (c∈K)) ⟨o,r.name⟩ r=true→(⟨o,r.name⟩:Nd)∈K):RdG s L who T v K0 i2 k2 K b:=by
 refine ⟨h.u,h.y,fun hb=>?_⟩
 obtain ⟨e,h1⟩:=h.n hb
 subst e
 refine ⟨rfl,fun i' k' o t ty r hlt a1 a2 a3 a4 a5 a6=>?_⟩
 by_cases hq:i'<i∨i'=i∧k'<k
 ·exact h1 i' k' o t ty r hq a1 a2 a3 a4 a5 a6
 ·exact hs i' k' o t ty r hlt a1 a2 a3 a4 a5 hq a6
theorem c_gsettle {s:List Ty} {L:List Tu} {who:Ob} (R:Rnd s L who) {S0 S:q00} {bw bo br bk bl bc:Nat} {K:List Nd} {T:List Ob} {v:Nat} {mst:Int} (h:GS (envL s L who) S0 bw bo br bk bl K S) (hb:sget S bc=some (.cells 3 [.int .i64 v] 1)) (hne:bk≠bc)
  (hu:Upto (envL s L who) (q49 s T) v K) (hlT:T.length≤1000000) :
  ACalls PG nrx110 [.ptr bw 0,.sl 2 (T.map obC),.func (.func nrx111) [] [.rop [.map (some bl),.int .i64 mst],.ptr bc 0]] S fun ae S'=>ae=.ret (.tup [])∧∃ K',GS (envL s L who) S0 bw bo br bk bl K' S'∧sget S' bc=sget S bc∧Upto (envL s L who) (q49 s T) v K' ∧
   ∀ n j k r,q0q s n.o.ty n.rl=some (j,k,r)→lvN s n=v→n.o∈T→q1w (envL s L who) (fun c=>decide (c∈K')) n r=true→n∈K':=by
 have hst:=R.os.types
 have hcl0:q1z S bc=some [.int .i64 v]:=q08 (objAt_some.2 hb)
 generalize hF:AV.func (.func nrx111) [] [.rop [.map (some bl),.int .i64 mst],.ptr bc 0]=F
 refine wx110 ?_
 unfold Bx110
 refine LoopP.introS (fun x:Bool×Nat=>[(0,.ptr bw 0),(1,.sl 2 (T.map obC)),(2,F),(6,.bool x.1)])
  (fun x S'=>∃ K',GS (envL s L who) S0 bw bo br bk bl K' S'∧sget S' bc=sget S bc∧Upto (envL s L who) (q49 s T) v K'∧x.2=K'.length∧(x.1=false→∀ n j k r,q0q s n.o.ty n.rl=some (j,k,r)→lvN s n=v→n.o∈T→q1w (envL s L who) (fun c=>decide (c∈K')) n r=true→n∈K'))
  (fun x=>2 * ((q49 s T).length-x.2)+(if x.1 then 1 else 0)) (true,K.length) ⟨K,h,rfl,hu,rfl,fun e=>by cases e⟩ rfl ?_
 rintro ⟨more,kl⟩ S1 ⟨K1,g1,b1,u1,rfl,cl1⟩ kk hkk
 dsimp only at cl1 ⊢
 cases more
 ·(try simp only [rwp,zA,zB,zC,zD,zE,zF,zG,zH,zI,rwb,reduceIte,C110_1])
  exact q1k ⟨rfl,K1,g1,b1,u1,cl1 rfl⟩
 ·(try simp only [rwp,zA,zB,zC,zD,zE,zF,zG,zH,zI,rwb,reduceIte,C110_1])
  clear cl1
  refine LoopP.introS (fun x:Nat×Bool=>[(0,.ptr bw 0),(1,.sl 2 (T.map obC)),(2,F),(6,.bool x.2),(13,.sl 2 (T.map obC)),(14,.int .i64 T.length),(15,.int .i64 x.1)])
   (fun x S'=>x.1≤T.length∧sget S' bc=sget S bc∧∃ K',GS (envL s L who) S0 bw bo br bk bl K' S'∧RdG s L who T v K1 x.1 0 K' x.2) (fun x=>T.length-x.1) (0,false)
   ⟨by omega,b1,K1,g1,u1,fun e=>(by cases e),fun _=>⟨rfl,fun i' k' o t ty r hq=>by omega⟩⟩ rfl ?_
  rintro ⟨i,b⟩ S2 ⟨hi,b2,K2,g2,r2⟩ kk1 hkk1
  dsimp only at hi r2 ⊢
  (try simp only [rwp,zA,zB,zC,zD,zE,zF,zG,zH,zI,rwb,reduceIte,C110_2])
  (refine q05 (fun hlti=>?_) (fun hlti=>?_)<;>(try simp only [hlc] at hlti))
  ·obtain ⟨o,hoT⟩:=q0z hlti
   have hc2:=q08 g2.w
   (try simp only [rwp,zA,zB,zC,zD,zE,zF,zG,zH,zI,rwb,reduceIte,List.getElem?_map,hoT,obC,hc2,gwC])
   refine g2.rl.lki q2g o.ty ?_
   have ho:o∈T:=List.mem_of_getElem? hoT
   have next:∀ (b3:Bool) (S3:q00) (K3:List Nd),sget S3 bc=sget S bc→GS (envL s L who) S0 bw bo br bk bl K3 S3→RdG s L who T v K1 (i+1) 0 K3 b3→rcW kk1 [(0,.ptr bw 0),(1,.sl 2 (T.map obC)),(2,F),(6,.bool b3),(13,.sl 2 (T.map obC)),(14,.int .i64 T.length),(15,.int .i64 (IntKind.i64.wrap (↑i+1)))] S3:=by
    intro b3 S3 K3 h1 h2 h3
    (simp (disch:=omega) only [q04])
    exact q0a rfl (hkk1 (i+1,b3) _ ⟨by dsimp only;omega,h1,K3,h2,h3⟩ (by dsimp only;omega))
   show _
   cases ht:typF s o.ty with
   | none=>
    have e:relsA (envL s L who).s o.ty=none:=by unfold relsA;rw [show (envL s L who).s=s from rfl,ht]
    rw [e]
    (try simp only [rwp,zA,zB,zC,zD,zE,zF,zG,zH,zI,rwb,reduceIte,q1r])
    refine LoopP.introS (fun _:Unit=>[(0,.ptr bw 0),(1,.sl 2 (T.map obC)),(2,F),(6,.bool b),(8,.rop [.str o.ty,.str o.id]),(13,.sl 2 (T.map obC)),(14,.int .i64 T.length),(15,.int .i64 i),(25,.nils),(26,.int .i64 0),(27,.int .i64 0)]) (fun _ S'=>S'=S2) (fun _=>0) () rfl rfl ?_
    rintro _ S' rfl kk2 hkk2
    (try simp only [rwp,zA,zB,zC,zD,zE,zF,zG,zH,zI,rwb,reduceIte,C110_3])
    refine q37 (next b _ K2 b2 g2 (r2.skip fun i' k' o' t ty r hq a1 a2 a3 a4 a5 a6 a7=>?_))
    exfalso
    have e1:i'=i:=by omega
    subst e1
    rw [hoT] at a1
    cases a1
    rw [ht] at a2
    cases a2
   | some t=>
    obtain ⟨⟨ty,hty,hnm⟩,-⟩:=firstI_some.1 ht
    have hnm:ty.name=o.ty:=of_decide_eq_true hnm
    have e:relsA (envL s L who).s o.ty=some (.sl 6 (ty.rels.map rlC)):=by unfold relsA;rw [show (envL s L who).s=s from rfl,ht];simp [hty]
    rw [e]
    (try simp only [rwp,zA,zB,zC,zD,zE,zF,zG,zH,zI,rwb,reduceIte,q1r,List.length_map])
    have hbr:=(R.os.at hty).rels
    refine LoopP.introS (fun x:Nat×Bool=>[(0,.ptr bw 0),(1,.sl 2 (T.map obC)),(2,F),(6,.bool x.2),(8,.rop [.str o.ty,.str o.id]),(13,.sl 2 (T.map obC)),(14,.int .i64 T.length),(15,.int .i64 i),(25,.sl 6 (ty.rels.map rlC)),(26,.int .i64 ty.rels.length),(27,.int .i64 x.1)])
     (fun x S'=>x.1≤ty.rels.length∧sget S' bc=sget S bc∧∃ K',GS (envL s L who) S0 bw bo br bk bl K' S'∧RdG s L who T v K1 i x.1 K' x.2) (fun x=>ty.rels.length-x.1) (0,b) ⟨by omega,b2,K2,g2,r2⟩ rfl ?_
    rintro ⟨k,b'⟩ S3 ⟨hk,b3,K3,g3,r3⟩ kk2 hkk2
    dsimp only at hk r3 ⊢
    (try simp only [rwp,zA,zB,zC,zD,zE,zF,zG,zH,zI,rwb,reduceIte,C110_3])
    (refine q05 (fun hltk=>?_) (fun hltk=>?_)<;>(try simp only [hlc] at hltk))
    ·obtain ⟨r,hr⟩:=q0z hltk
     have hf:q0q s o.ty r.name=some (t,k,r):=by rw [← hnm];exact good_find (q2v R.c) hty hr
     have hlvn:lvN s ⟨o,r.name⟩=getL (levF s) (t,k):=by unfold lvN;rw [hf]
     obtain ⟨lv,hl1,hl2⟩:=shp_row (q73 s) hty
     obtain ⟨x,hx⟩:∃ x,lv[k]?=some x:=⟨_,List.getElem?_eq_getElem (by omega)⟩
     have hgl:getL (levF s) (t,k)=x:=by unfold getL;simp [hl1,hx]
     (try simp only [rwp,zA,zB,zC,zD,zE,zF,zG,zH,zI,rwb,reduceIte,List.getElem?_map,hr,q0y])
     refine alst rfl ?_
     (try simp only [rwp,zA,zB,zC,zD,zE,zF,zG,zH,zI,rwb,reduceIte,hnm])
     have q0:=c_gknown_1 (mst:=mst) (k:=k) g3.lv (q08 (objAt_some.2 (b3.trans hb))) ht hl1 hx
     rw [← hF]
     refine caW_atv q0 ?_
     rw [hF]
     have go:∀ {S4:q00} {b4:Bool} {K4:List Nd},sget S4 bc=sget S bc→GS (envL s L who) S0 bw bo br bk bl K4 S4→RdG s L who T v K1 i (k+1) K4 b4→rcW kk2 [(0,.ptr bw 0),(1,.sl 2 (T.map obC)),(2,F),(6,.bool b4),(8,.rop [.str o.ty,.str o.id]),(13,.sl 2 (T.map obC)),(14,.int .i64 T.length),(15,.int .i64 i),(25,.sl 6 (ty.rels.map rlC)),(26,.int .i64 ty.rels.length),(27,.int .i64 (IntKind.i64.wrap (↑k+1)))] S4:=by
      intro S4 b4 K4 h1 h2 h3
      (simp (disch:=omega) only [q04])
      exact q0a rfl (hkk2 (k+1,b4) _ ⟨by dsimp only;omega,h1,K4,h2,h3⟩ (by dsimp only;omega))
     have nx:(q1w (envL s L who) (fun c=>decide (c∈K3)) ⟨o,r.name⟩ r=true→x=v→(⟨o,r.name⟩:Nd)∈K3)→RdG s L who T v K1 i (k+1) K3 b':=fun hq=>r3.skip fun i' k' o' t' ty' r' hlt a1 a2 a3 a4 a5 a6 a7=>by
      have e1:i'=i:=by omega
      have e3:k'=k:=by omega
      subst e1 e3
      rw [hoT] at a1
      cases a1
      rw [ht] at a2
      cases a2
      rw [hty] at a3
      cases a3
      rw [hr] at a4
      cases a4
      exact hq a7 (by rw [← hgl];exact a5)
     cases g5:decide (x=v)
     ·(try simp only [rwp,zA,zB,zC,zD,zE,zF,zG,zH,zI,rwb,reduceIte,C110_4,C110_5,C110_6])
      exact go b3 g3 (nx fun _ e=>absurd e (of_decide_eq_false g5))
     ·have hc3:=q08 g3.w
      (try simp only [rwp,zA,zB,zC,zD,zE,zF,zG,zH,zI,rwb,reduceIte,hc3,gwC])
      have q:=fun K' hk=>g3.gw.kn.lki (ok:=false) (z:=.bool false) (K:=K') ke_nd ⟨o,r.name⟩ hk
      simp only [ndA,ndC] at q
      refine q _ ?_
      rw [q4w]
      cases g6:decide ((⟨o,r.name⟩:Nd)∈K3)
      ·have q2:=c_gstands g3.gw ⟨o,r.name⟩ r rfl (fun h0=>sc_may (q2v R.c).may ty (List.mem_of_getElem? hty) r (List.mem_of_getElem? hr) h0)
       simp only [obC,q0y] at q2
       (try simp only [rwp,zA,zB,zC,zD,zE,zF,zG,zH,zI,rwb,reduceIte,C110_4])
       refine q1a q2 ?_
       cases g7:q1w (envL s L who) (fun c=>decide (c∈K3)) ⟨o,r.name⟩ r
       ·(try simp only [rwp,zA,zB,zC,zD,zE,zF,zG,zH,zI,rwb,reduceIte,C110_5,C110_6])
        exact go b3 g3 (nx fun h=>by rw [g7] at h;cases h)
       ·have hn:(⟨o,r.name⟩:Nd) ∉ K3:=of_decide_eq_false g6
        have hu4:=r3.u.snoc R.e R.c (n:=⟨o,r.name⟩) hf (by show lvN s ⟨o,r.name⟩=v;rw [hlvn,hgl];exact of_decide_eq_true g5) hn (mem_nodes hf ho) g7
        obtain ⟨es,clk,hkn⟩:=g3.kn
        (try simp only [rwp,zA,zB,zC,zD,zE,zF,zG,zH,zI,rwb,reduceIte,C110_5,hc3,gwC])
        refine hkn.push (n:=⟨o,r.name⟩) hn fun es' clk' hk4=>?_
        (try simp only [rwp,zA,zB,zC,zD,zE,zF,zG,zH,zI,rwb,reduceIte,C110_6])
        refine go (b4:=true) (by rw [q01,if_neg hne];exact b3) (g3.set hk4) ⟨hu4,fun _=>?_,fun h=>by cases h⟩
        rw [List.length_append,List.length_singleton]
        cases b' with
        | true=>have:=r3.y rfl;omega
        | false=>rw [(r3.n rfl).1];omega
      ·(try simp only [rwp,zA,zB,zC,zD,zE,zF,zG,zH,zI,rwb,reduceIte,C110_4,C110_5,C110_6])
       exact go b3 g3 (nx fun _ _=>of_decide_eq_true g6)
    ·(try simp only [rwp,zA,zB,zC,zD,zE,zF,zG,zH,zI,rwb,reduceIte])
     refine next b' S3 K3 b3 g3 (r3.skip fun i' k' o' t' ty' r' hq a1 a2 a3 a4 a5 a6 a7=>?_)
     exfalso
     have e1:i'=i:=by omega
     subst e1
     rw [hoT] at a1
     cases a1
     rw [ht] at a2
     cases a2
     rw [hty] at a3
     cases a3
     have:=(List.getElem?_eq_some_iff.1 a4).1
     omega
  ·(try simp only [rwp,zA,zB,zC,zD,zE,zF,zG,zH,zI,rwb,reduceIte])
   refine q0a rfl (hkk (b,K2.length) _ ⟨K2,g2,b2,r2.u,rfl,fun hbf=>?_⟩ ?_)
   ·dsimp only at hbf
    obtain ⟨e,hq⟩:=r2.n hbf
    subst e
    intro n j k r hf hl hT hbd
    obtain ⟨a,ha⟩:=List.getElem?_of_mem hT
    obtain ⟨ht0,ty,hty,hrl,hkr⟩:=q1v hf
    have hrn:r.name=n.rl:=by
     obtain ⟨⟨x,hx,hp⟩,-⟩:=firstI_some.1 hrl
     rw [hkr] at hx
     cases hx
     exact of_decide_eq_true hp
    have hlv:getL (levF s) (j,k)=v:=by rw [← hl];unfold lvN;rw [hf]
    have hlt2:=(List.getElem?_eq_some_iff.1 ha).1
    have:=hq a k n.o j ty r (.inl (by omega)) ha ht0 hty hkr hlv (by rw [hrn];exact hbd)
    rw [hrn] at this
    exact this
   ·have hn2:=nd_len r2.u.nd r2.u.sub
    dsimp only
    cases b with
    | false=>rw [(r2.n rfl).1];simp
    | true=>have:=r2.y rfl;simp;omega
set_option maxRecDepth 4000
def levsI (s:List Ty) (i:Nat) (nm:ByteArray):Option AV:=match typF s nm with
 | none=>none
 | some j=>if j<i then ((levF s)[j]?).map fun l=>.sl 1 (l.map fun x=>[iv x]) else none
def relsI (s:List Ty) (i:Nat) (nm:ByteArray):Option AV:=match typF s nm with
 | none=>none
 | some j=>if j<i then (s[j]?).map fun t=>.sl 6 (t.rels.map rlC) else none
theorem levsI_all (s:List Ty) (nm:ByteArray):levsI s s.length nm=levsA s nm:=by
 unfold levsI levsA
 cases h:typF s nm with
 | none=>rfl
 | some j=>
  obtain ⟨⟨t,ht,-⟩,-⟩:=firstI_some.1 h
  have:=(List.getElem?_eq_some_iff.1 ht).1
  simp [this]
theorem relsI_all (s:List Ty) (nm:ByteArray):relsI s s.length nm=relsA s nm:=by
 unfold relsI relsA
 cases h:typF s nm with
 | none=>rfl
 | some j=>
  obtain ⟨⟨t,ht,-⟩,-⟩:=firstI_some.1 h
  have:=(List.getElem?_eq_some_iff.1 ht).1
  simp [this]
theorem levsI_succ {s:List Ty} (hg:GoodS s) {i:Nat} {t:Ty} {l:List Nat} (ht:s[i]?=some t) (hl:(levF s)[i]?=some l) (nm:ByteArray):@ite (Option AV) (nm=t.name) (Classical.propDecidable (nm=t.name)) (some (.sl 1 (l.map fun x=>[iv x]))) (levsI s i nm)=levsI s (i+1) nm:=by
 have hi:=good_typ hg ht
 by_cases h:nm=t.name
 ·subst h
  rw [if_pos rfl]
  unfold levsI
  rw [hi]
  simp [hl]
 ·rw [if_neg h]
  unfold levsI
  cases hq:typF s nm with
  | none=>rfl
  | some j=>
   have hj:j≠i:=by
    rintro rfl
    obtain ⟨⟨x,hx,hp⟩,-⟩:=firstI_some.1 hq
    rw [ht] at hx
    cases hx
    exact h (of_decide_eq_true hp).symm
   dsimp only
   by_cases h1:j<i
   ·rw [if_pos h1,if_pos (by omega)]
   ·rw [if_neg h1,if_neg (by omega)]
theorem relsI_succ {s:List Ty} (hg:GoodS s) {i:Nat} {t:Ty} (ht:s[i]?=some t) (nm:ByteArray):@ite (Option AV) (nm=t.name) (Classical.propDecidable (nm=t.name)) (some (.sl 6 (t.rels.map rlC))) (relsI s i nm)=relsI s (i+1) nm:=by
 have hi:=good_typ hg ht
 by_cases h:nm=t.name
 ·subst h
  rw [if_pos rfl]
  unfold relsI
  rw [hi]
  simp [ht]
 ·rw [if_neg h]
  unfold relsI
  cases hq:typF s nm with
  | none=>rfl
  | some j=>
   have hj:j≠i:=by
    rintro rfl
    obtain ⟨⟨x,hx,hp⟩,-⟩:=firstI_some.1 hq
    rw [ht] at hx
    cases hx
    exact h (of_decide_eq_true hp).symm
   dsimp only
   by_cases h1:j<i
   ·rw [if_pos h1,if_pos (by omega)]
   ·rw [if_neg h1,if_neg (by omega)]
abbrev tyRk:Nat:=189
structure RkI (s:List Ty) (S:q00) (b4 bm b5:Nat) (i:Nat) (m:Nat) (S':q00):Prop where
 sub:Sub S S'
 c4:q0h S' b4=some (tyRk,[.map none,.int .i64 0],2)
 c5:q0h S' b5=some (tyRk,[.map (some bm),.int .i64 m],2)
 mp:KMap MS AV.str S' bm (levsI s i)
 le:m≤q0r s
 up:∀ (j k x:Nat) (l:List Nat),j<i→(levF s)[j]?=some l→l[k]?=some x→x≤m
theorem c_grank {s:List Ty} (hs:OkS s) (hc:errA (chkF s)=0) (S:q00) :
  ACalls PG nrx109 [scA s,.sl 1 (lvC (levF s))] S fun ae S'=>∃ bl m:Nat,ae=.ret (.agg [.map (some bl),.int .i64 m])∧Sub S S'∧sget S bl=none∧KMap MS AV.str S' bl (levsA s)∧m≤q0r s∧∀ (j k x:Nat) (l:List Nat),(levF s)[j]?=some l→l[k]?=some x→x≤m:=by
 have hg:=q2v hc
 have hmany:=hg.many
 have hst:=hs.types
 have hll:=shp_len (q73 s)
 refine wx109 ?_
 unfold Bx109
 (try simp only [rwp,zA,zB,zC,zD,zE,zF,zG,zH,zI,rwb,reduceIte,scA])
 intro b4 hb4 bm hbm
 obtain ⟨dm4,hbm'⟩:=frsh hbm
 (try simp only [rwp,zA,zB,zC,zD,zE,zF,zG,zH,zI,rwb,reduceIte])
 intro b5 hb5
 obtain ⟨d5m,hb5'⟩:=frsh hb5
 obtain ⟨d54,hb5'⟩:=frsh hb5'
 (try simp only [rwp,zA,zB,zC,zD,zE,zF,zG,zH,zI,rwb,reduceIte,List.length_map])
 generalize hS3:supd _ b5 _=S3
 have h4:q0h S3 b4=some (tyRk,[.map none,.int .i64 0],2):=by rw [← hS3];(try simp only [rwp,zA,zB,zC,zD,zE,zF,zG,zH,zI,rwb,reduceIte,Ne.symm d54,Ne.symm dm4,d54,dm4])
 have h5:q0h S3 b5=some (tyRk,[.map (some bm),.int .i64 0],2):=by rw [← hS3];(try simp only [rwp,zA,zB,zC,zD,zE,zF,zG,zH,zI,rwb,reduceIte])
 have hm:KMap MS AV.str S3 bm (levsI s 0):=by
  refine ⟨[],0,mapObj_some.2 (by rw [← hS3];rw [q01,if_neg d5m,q01,if_pos rfl]),fun x hx=>(by cases hx),fun k=>?_⟩
  rw [q4t]
  unfold levsI
  cases typF s k with
  | none=>rfl
  | some j=>simp
 have hsub:Sub S S3:=by rw [← hS3];first | exact Sub.supd hb5' (Sub.supd hb5' (Sub.supd hbm' (Sub.supd hb4 (Sub.refl _)))) | exact Sub.supd hb5' (Sub.supd hbm' (Sub.supd hb4 (Sub.refl _)))
 clear hS3
 refine LoopP.introS (fun i:Nat=>[(1,.sl 1 (lvC (levF s))),(4,.ptr b4 0),(5,.ptr b5 0),(13,.sl 2 (s.map tyC)),(14,.int .i64 s.length),(15,.int .i64 i)])
  (fun i S'=>i≤s.length∧∃ m,RkI s S b4 bm b5 i m S') (fun i=>s.length-i) 0 ⟨by omega,0,hsub,h4,h5,hm,Nat.zero_le _,fun j k x l hj=>by omega⟩ rfl ?_
 rintro i S1 ⟨hi,m,r1⟩ kk hkk
 (try simp only [rwp,zA,zB,zC,zD,zE,zF,zG,zH,zI,rwb,reduceIte,C109_1])
 (refine q05 (fun hlt=>?_) (fun hlt=>?_)<;>(try simp only [hlc] at hlt))
 ·obtain ⟨t,ht⟩:=q0z hlt
  obtain ⟨l,hl1,hl2⟩:=shp_row (q73 s) ht
  have hcl:(lvC (levF s))[i]?=some [.sl 1 (l.map fun x=>[iv x])]:=by rw [lvC,List.getElem?_map,hl1];rfl
  have hc5:=q08 r1.c5
  (try simp only [rwp,zA,zB,zC,zD,zE,zF,zG,zH,zI,rwb,reduceIte,List.getElem?_map,ht,tyC])
  refine alst rfl ?_
  (try simp only [rwp,zA,zB,zC,zD,zE,zF,zG,zH,zI,rwb,reduceIte,hc5,hcl])
  refine r1.mp.mu q2g t.name fun es clk hk=>?_
  have hne5:bm≠b5:=by rintro rfl;have h1:=objAt_some.1 r1.c5;obtain ⟨es,clk,h2,-⟩:=r1.mp;rw [mapObj_some.1 h2] at h1;cases h1
  have hne4:bm≠b4:=by rintro rfl;have h1:=objAt_some.1 r1.c4;obtain ⟨es,clk,h2,-⟩:=r1.mp;rw [mapObj_some.1 h2] at h1;cases h1
  have hne45:b5≠b4:=d54
  have r2:∃ m',RkI s S b4 bm b5 i m' (supd S1 bm (.map MS es clk))∨True:=⟨m,.inr trivial⟩
  have hsub1:Sub S (supd S1 bm (.map MS es clk)):=Sub.supd hbm' r1.sub
  have c41:q0h (supd S1 bm (.map MS es clk)) b4=some (tyRk,[.map none,.int .i64 0],2):=by rw [q0e hne4];exact r1.c4
  have c51:q0h (supd S1 bm (.map MS es clk)) b5=some (tyRk,[.map (some bm),.int .i64 m],2):=by rw [q0e hne5];exact r1.c5
  have mp1:=hk.cong (levsI_succ hg ht hl1)
  generalize supd S1 bm (.map MS es clk)=S2 at hsub1 c41 c51 mp1 ⊢
  (try simp only [rwp,zA,zB,zC,zD,zE,zF,zG,zH,zI,rwb,reduceIte,hcl,List.length_map])
  refine LoopP.introS (fun x:Nat=>[(1,.sl 1 (lvC (levF s))),(4,.ptr b4 0),(5,.ptr b5 0),(13,.sl 2 (s.map tyC)),(14,.int .i64 s.length),(15,.int .i64 i),(31,.sl 1 (l.map fun x=>[iv x])),(32,.int .i64 l.length),(33,.int .i64 x)])
   (fun x S'=>x≤l.length∧∃ m':Nat,Sub S S'∧q0h S' b4=some (tyRk,[.map none,.int .i64 0],2)∧q0h S' b5=some (tyRk,[.map (some bm),.int .i64 m'],2)∧KMap MS AV.str S' bm (levsI s (i+1))∧m≤m'∧m'≤q0r s∧∀ (k y:Nat),k<x→l[k]?=some y→y≤m') (fun x=>l.length-x) 0
   ⟨by omega,m,hsub1,c41,c51,mp1,Nat.le_refl _,r1.le,fun k y hk=>by omega⟩ rfl ?_
  rintro x S3 ⟨hx,m',k1,k2,k3,k4,k5,k6,k7⟩ kk2 hkk2
  (try simp only [rwp,zA,zB,zC,zD,zE,zF,zG,zH,zI,rwb,reduceIte,C109_2])
  (refine q05 (fun hltx=>?_) (fun hltx=>?_)<;>(try simp only [hlc] at hltx))
  ·obtain ⟨y,hy⟩:=q0z hltx
   have hyb:y≤q0r s:=by
    obtain ⟨r,hr⟩:∃ r,t.rels[x]?=some r:=⟨_,List.getElem?_eq_getElem (by omega)⟩
    have:=(q4v hc ht hr).1
    unfold getL at this
    simpa [hl1,hy] using this
   have hc3:=q08 k3
   (try simp only [rwp,zA,zB,zC,zD,zE,zF,zG,zH,zI,rwb,reduceIte,List.getElem?_map,hy,iv,hc3,k3])
   have hrl:=(hs.at ht).rels
   (simp (disch:=omega) only [q04])
   have e:(if (m':Int)<y then (y:Int) else (m':Int))=((max m' y:Nat):Int):=by
    split<;>omega
   rw [e]
   refine q0a rfl (hkk2 (x+1) _ ⟨by omega,max m' y,Sub.supd hb5' k1,by rw [q0e hne45];exact k2,q0f,k4.upd (Ne.symm hne5) _,by omega,by omega,fun k z hk hz=>?_⟩ (by omega))
   rcases Nat.lt_succ_iff_lt_or_eq.1 hk with h1 | rfl
   ·exact Nat.le_trans (k7 k z h1 hz) (Nat.le_max_left _ _)
   ·rw [hy] at hz;cases hz;exact Nat.le_max_right _ _
  ·(try simp only [rwp,zA,zB,zC,zD,zE,zF,zG,zH,zI,rwb,reduceIte])
   (simp (disch:=omega) only [q04])
   refine q0a rfl (hkk (i+1) _ ⟨by omega,m',k1,k2,k3,k4,k6,fun j k z l' hj hl' hz=>?_⟩ (by omega))
   rcases Nat.lt_succ_iff_lt_or_eq.1 hj with h1 | rfl
   ·exact Nat.le_trans (r1.up j k z l' h1 hl' hz) k5
   ·rw [hl1] at hl'
    cases hl'
    have hk:=(List.getElem?_eq_some_iff.1 hz).1
    exact k7 k z (by omega) hz
 ·have e:i=s.length:=by omega
  subst e
  have hc5:=q08 r1.c5
  have o4:=r1.c4
  (try simp only [rwp,zA,zB,zC,zD,zE,zF,zG,zH,zI,rwb,reduceIte,hc5,o4])
  have mp2:=r1.mp.cong (levsI_all s)
  have hne4:bm≠b4:=dm4
  refine q1d (sdel S1 b4) ?_ ?_
  ·intro c o hc
   rw [q0b] at hc
   split at hc
   ·cases hc
   ·rename_i hn
    rw [q0b,if_neg hn,q01,if_neg hn]
    exact hc
  ·refine ⟨bm,m,rfl,fun c o hc=>?_,hbm',?_,r1.le,fun j k x l hl hx=>?_⟩
   ·rw [q0b,if_neg (q0i hb4 hc)]
    exact r1.sub c o hc
   ·obtain ⟨es,clk,h1,h2,h3⟩:=mp2
    exact ⟨es,clk,mapObj_some.2 (by rw [q0b,if_neg (Ne.symm hne4)];exact mapObj_some.1 h1),h2,h3⟩
   ·have:=(List.getElem?_eq_some_iff.1 hl).1
    exact r1.up j k x l (by omega) hl hx
set_option maxRecDepth 4000
theorem Upto.next {s:List Ty} {L:List Tu} {who:Ob} {T:List Ob} {v:Nat} {K:List Nd} (h:Upto (envL s L who) (q49 s T) v K) (hT:∀ n x,x∈(envL s L who).of n→n.o∈T)
  (hcl:∀ n j k r,q0q s n.o.ty n.rl=some (j,k,r)→lvN s n=v→n.o∈T→q1w (envL s L who) (fun c=>decide (c∈K)) n r=true→n∈K):Upto (envL s L who) (q49 s T) (v+1) K:=by
 have hT':∀ n∈K,n.o∈T:=by
  intro n hn
  have:=h.sub n hn
  obtain ⟨o,ho,hq⟩:=List.mem_flatMap.1 this
  obtain ⟨t,-,hq⟩:=List.mem_flatMap.1 hq
  obtain ⟨r,-,rfl⟩:=List.mem_map.1 hq
  exact ho
 refine ⟨h.nd,h.sub,h.step,h.srt,fun n hn=>Nat.le_succ_of_le (h.top n hn),fun n j k r hf hlt hb=>?_⟩
 rcases Nat.lt_succ_iff_lt_or_eq.1 hlt with h1 | h1
 ·exact h.closed n j k r hf h1 hb
 ·exact hcl n j k r hf h1 (body_thing hT (fun c hc=>hT' c (of_decide_eq_true hc)) hb) hb
structure P14 (s:List Ty) (L:List Tu) (who:Ob) (bw:Nat) (S0:q00) (T:List Ob) (S:q00):Prop where
 ex:∃ tv,q0h S bw=some (tyW14,wC s L tv who .nils,6)∧LstW S0 S tyOb 2 tv (T.map obC)∧q0n tv bw
 sub:Sub S0 S
 nb:sget S0 bw=none
theorem P14.w {s:List Ty} {L:List Tu} {who:Ob} {bw:Nat} {S0 S:q00} {T:List Ob} (h:P14 s L who bw S0 T S) (hl:T.length≤1000000):W14 s L who bw S0 T [] S:=by
 obtain ⟨tv,h1,h2,h3⟩:=h.ex
 exact ⟨⟨tv,.nils,h1,h2,LstW.nil,h3,fun b off n cap e=>(by cases e),fun _ _ _ _ _ b off n cap e=>(by cases e)⟩,h.sub,h.nb,by simp,hl⟩
theorem P14.add {s:List Ty} {L:List Tu} {who:Ob} {bw:Nat} {S0 S:q00} {T:List Ob} {tv:AV} (hnb:sget S0 bw=none) (hs:Sub S0 S) (h1:q0h S bw=some (tyW14,wC s L tv who .nils,6)) (h2:LstW S0 S tyOb 2 tv (T.map obC)) (h3:q0n tv bw) (hl:T.length≤1000000) (o:Ob) {K:AV→q00→Prop} {Qp:AV→q00→Prop}
  (hK:∀ tv' S',q0h S' bw=some (tyW14,wC s L tv who .nils,6)→one tv'=true→P14 s L who bw S0 (addT T o) (supd S' bw (.cells tyW14 (wC s L tv' who .nils) 6))→K tv' S'):caW PG S (.func (.func nrx106) [] []) [tv,.agg (obC o)] K Qp:=by
 refine q0g (c_add14 hs h2 hl o) ?_
 rintro ae S' ⟨tv',rfl,k1,k2,k3⟩
 obtain ⟨i1,i2⟩:=k3 bw _ (objAt_some.1 h1) h3
 exact hK tv' S' (objAt_some.2 i1) k1.one ⟨⟨tv',q0f,k1.upd i2 _,i2⟩,Sub.supd hnb k2,hnb⟩
theorem addT_len {T:List Ob} {o:Ob}:(addT T o).length≤T.length+1:=by
 unfold addT
 split<;>simp
theorem addT_mem {T:List Ob} {o x:Ob}:x∈addT T o↔x∈T∨x=o:=by
 unfold addT
 split
 ·rename_i h
  exact ⟨.inl,fun hq=>hq.elim id fun e=>by rw [e];exact h⟩
 ·rw [List.mem_append,List.mem_singleton]
set_option maxRecDepth 4000
theorem Fr.lstW {S0 S:q00} {t sz:Nat} {v:AV} {rows:List (List AV)} (h:LstW S0 S t sz v rows):Fr S0 S v (.sl sz rows):=by
 obtain ⟨hr,⟨rfl,rfl⟩ | ⟨b,cap,cs,rfl,h1,h2,h3,h4,h5,h6⟩⟩:=h
 ·exact .nils sz
 ·exact .ownW t sz b _ cap rows cs hr h1 h2 h3 rfl h5
theorem LstN.keepAt {S0 S S':q00} {t sz:Nat} {v:AV} {rows:List (List AV)} (h:LstN S0 S t sz v rows) (hk:∀ b off n cap,v=.own b off n cap→sget S' b=sget S b):LstN S0 S' t sz v rows:=by
 obtain ⟨hr,h⟩:=h
 refine ⟨hr,?_⟩
 rcases h with h | ⟨b,cap,rfl,h1,h2,h3⟩
 ·exact .inl h
 ·exact .inr ⟨b,cap,rfl,h1,by rw [hk b _ _ _ rfl];exact h2,h3⟩
def ofL (L:List Tu) (n:Nd):List (List AV):=((ofF L n).map Tu.s).map ndC
theorem ofL_take {L:List Tu} {i:Nat} {t:Tu} (h:L[i]?=some t) (n:Nd):ofL (L.take (i+1)) n=ofL (L.take i) n++if n=ndT t then [ndC t.s] else []:=by
 unfold ofL ofF
 rw [q3z h,List.map_append,List.map_append]
 congr 1
 by_cases h2:n=ndT t
 ·rw [if_pos h2]
  subst h2
  simp [ndT]
 ·rw [if_neg h2]
  have:(decide (t.o=n.o)&&decide (t.rl=n.rl))=false:=by
   rw [Bool.eq_false_iff]
   intro hq
   simp only [Bool.and_eq_true,decide_eq_true_eq] at hq
   refine h2 ?_
   cases n
   simp only [ndT,Nd.mk.injEq]
   exact ⟨hq.1.symm,hq.2.symm⟩
  simp [this]
theorem ofL_len {L:List Tu} {i:Nat} {n:Nd}:(ofL (L.take i) n).length≤i:=by
 unfold ofL ofF
 rw [List.length_map,List.length_map]
 exact Nat.le_trans (List.length_filter_le _ _) (List.length_take_le _ _)
abbrev KsG (bw br bk bh:Nat) (tv:AV) (c:Nat):Prop:=c=bw∨c=br∨c=bk∨c=bh∨∃ off n cap,tv=.own c off n cap
structure KnI (s:List Ty) (who:Ob) (S:q00) (bw bo br bk bh:Nat) (f:Nd→List (List AV)) (tv:AV) (T:List Ob) (S':q00):Prop where
 sub:Sub S S'
 w:q0h S' bw=some (tyGw,gwC bo br bk who,5)
 rl:KMap MS AV.str S' br (relsA s)
 kn:sget S' bk=some (.map MD [] 0)
 of:∃ es clk,OfM S S' 39 bo (KsG bw br bk bh tv) f es clk
 tl:LstN S S' tyOb 2 tv (T.map obC)
 ta:∀ c,(c=bw∨c=br∨c=bk∨c=bh∨c=bo)→q0n tv c
 hd:KMap MO obA S' bh (fun x=>if x∈T then some (.bool true) else none)
 nh:sget S bh=none
 dh:bh≠bw∧bh≠br∧bh≠bk
theorem KMap.at {κ:Type} {M:Bool×List EK} {enc:κ→AV} {S S':q00} {b:Nat} {f:κ→Option AV} (h:KMap M enc S b f) (e:sget S' b=sget S b):KMap M enc S' b f:=by
 obtain ⟨es,clk,h1,h2,h3⟩:=h
 exact ⟨es,clk,mapObj_some.2 (e.trans (mapObj_some.1 h1)),h2,h3⟩
section
variable {s:List Ty} {who:Ob} {S S':q00} {bw bo br bk bh:Nat} {f:Nd→List (List AV)} {tv:AV} {T:List Ob}
theorem KnI.add (h:KnI s who S bw bo br bk bh f tv T S') (hT:T.length≤100000) (x:Ob) {K:AV→q00→Prop} (hK:∀ tv' S2,KnI s who S bw bo br bk bh f tv' (addT T x) S2→K tv' S2) :
  lkW S' MO false (.bool false) (.map (some bh)) (.agg (obC x)) fun v84=>ntW v84 fun v85=>cnW v85 (muW S' MO (.map (some bh)) (.agg (obC x)) (.bool true) fun S2=>apW S2 tyOb 2 32 tv (.sl 2 [obC x]) K) (K tv S'):=by
 refine h.hd.lki ke_ob x ?_
 by_cases hx:x∈T
 ·rw [if_pos hx]
  refine q37 (hK tv S' ?_)
  rw [addT,if_pos hx]
  exact h
 ·rw [if_neg hx]
  show cnW (.bool true) _ _
  refine ⟨fun _=>?_,fun e=>by cases e⟩
  refine h.hd.mu ke_ob x fun es clk hd2=>?_
  obtain ⟨es1,clk1,hof⟩:=h.of
  have hof2:=hof.supd (c:=bh) (.inr (.inr (.inr (.inl rfl)))) (.map MO es clk)
  have hsub2:Sub S (supd S' bh (.map MO es clk)):=Sub.supd h.nh h.sub
  have tl2:=h.tl.upd (c:=bh) (h.ta bh (by simp)) (.map MO es clk)
  have hbo:bh≠bo:=(hof.ks bh (.inr (.inr (.inr (.inl rfl))))).1
  have w2:sget (supd S' bh (.map MO es clk)) bw=some (.cells tyGw (gwC bo br bk who) 5):=by rw [q01,if_neg h.dh.1];exact objAt_some.1 h.w
  have k2:sget (supd S' bh (.map MO es clk)) bk=some (.map MD [] 0):=by rw [q01,if_neg h.dh.2.2];exact h.kn
  have r2:=h.rl.upd h.dh.2.1 (.map MO es clk)
  generalize supd S' bh (.map MO es clk)=S2 at hd2 hof2 hsub2 tl2 w2 k2 r2 ⊢
  refine LstN.app hsub2 tl2 (fun r hr=>by rw [List.mem_singleton.1 hr];rfl) (q3r fun r hr=>by rw [List.mem_singleton.1 hr];rfl) (by simp only [List.length_map,List.length_singleton];omega) fun tv' S3 j1 j2 j3=>hK tv' S3 ?_
  have keep:∀ c,(c=bw∨c=br∨c=bk∨c=bh∨c=bo)→∀ o,sget S2 c=some o→sget S3 c=some o∧q0n tv' c:=fun c hc o ho=>j3 c o ho (h.ta c hc)
  have keepM:∀ {κ:Type} {M:Bool×List EK} {enc:κ→AV} {b:Nat} {g:κ→Option AV},(b=bw∨b=br∨b=bk∨b=bh∨b=bo)→KMap M enc S2 b g→KMap M enc S3 b g:=by
   intro κ M enc b g hb hm
   obtain ⟨es,clk,m1,-⟩:=id hm
   exact hm.at ((keep b hb _ (mapObj_some.1 m1)).1.trans (mapObj_some.1 m1).symm)
  obtain ⟨rk,rclk,rm,-⟩:=id r2
  obtain ⟨dk,dclk,dm,-⟩:=id hd2
  refine ⟨j1,objAt_some.2 (keep bw (by simp) _ w2).1,keepM (by simp) r2,(keep bk (by simp) _ k2).1,⟨es1,clk1,hof2.other (v:=tv) (v':=tv') (fun b off n cap e=>.inr (.inr (.inr (.inr ⟨off,n,cap,e⟩)))) j3 (fun c hc=>?_) fun c hc=>?_⟩,?_,fun c hc=>?_,?_,h.nh,h.dh⟩
  ·rcases hc with hc | hc | hc | hc | hc
   ·exact .inl (.inl hc)
   ·exact .inl (.inr (.inl hc))
   ·exact .inl (.inr (.inr (.inl hc)))
   ·exact .inl (.inr (.inr (.inr (.inl hc))))
   ·exact .inr hc
  ·have old:∀ {o:AObj},(c=bw∨c=br∨c=bk∨c=bh∨c=bo)→sget S2 c=some o→sget S3 c≠none:=fun hc ho=>by rw [(keep c hc _ ho).1];simp
   rcases hc with rfl | rfl | rfl | rfl | ⟨off,n,cap,rfl⟩
   ·exact ⟨(hof.ks _ (.inl rfl)).1,old (by simp) w2⟩
   ·exact ⟨(hof.ks _ (.inr (.inl rfl))).1,old (by simp) (mapObj_some.1 rm)⟩
   ·exact ⟨(hof.ks _ (.inr (.inr (.inl rfl)))).1,old (by simp) k2⟩
   ·exact ⟨hbo,old (by simp) (mapObj_some.1 dm)⟩
   ·refine ⟨Ne.symm ((keep bo (by simp) _ hof2.map).2 c _ _ _ rfl),?_⟩
    obtain ⟨hr,⟨e,-⟩ | ⟨b1,cap1,e,q1,q2,-⟩⟩:=j2
    ·cases e
    ·cases e
     rw [q2]
     simp
  ·rw [addT,if_neg hx,List.map_append]
   exact j2
  ·rcases hc with rfl | rfl | rfl | rfl | rfl
   ·exact (keep _ (by simp) _ w2).2
   ·exact (keep _ (by simp) _ (mapObj_some.1 rm)).2
   ·exact (keep _ (by simp) _ k2).2
   ·exact (keep _ (by simp) _ (mapObj_some.1 dm)).2
   ·exact (keep _ (by simp) _ hof2.map).2
  ·refine (keepM (by simp) hd2).cong fun y=>?_
   rw [addT,if_neg hx]
   by_cases e:y=x
   ·subst e;simp
   ·simp [List.mem_append,e]
theorem KnI.push (h:KnI s who S bw bo br bk bh f tv T S') (n:Nd) {row:List AV} {K:q00→Prop} (hr:row.length=3) (ho:ones row=true) (hb:((f n).length+1) * 48≤140737488355328)
  (hK:∀ S2,KnI s who S bw bo br bk bh (fun m=>if m=n then f n++[row] else f m) tv T S2→K S2) :
  meW S' MD .nils (.map (some bo)) (ndA n) fun v S=>exW 0 v fun v70=>exW 1 v fun v76=>apW S 39 3 48 v70 (.sl 3 [row]) fun v75 S=>mtW S (.map (some bo)) v76 v75 K:=by
 obtain ⟨es,clk,hof⟩:=h.of
 refine hof.push h.sub n hr ho hb fun S2 es' clk' u1 u2 u3=>hK S2 ?_
 exact ⟨u1,objAt_some.2 ((u3 bw (.inl rfl)).trans (objAt_some.1 h.w)),h.rl.at (u3 br (.inr (.inl rfl))),(u3 bk (.inr (.inr (.inl rfl)))).trans h.kn,⟨es',clk',u2⟩,h.tl.keepAt fun b off n cap e=>u3 b (.inr (.inr (.inr (.inr ⟨off,n,cap,e⟩)))),h.ta,h.hd.at (u3 bh (.inr (.inr (.inr (.inl rfl))))),h.nh,h.dh⟩
end
set_option maxRecDepth 4000
theorem ix_two0 {a b c d:AV} {j:Nat} {K:AV→Prop} (h:j=0) (hk:K (.agg [a,b])):ixW 2 2 true (.agg [a,b,c,d]) (.int .i64 (j:Int)) K:=by
 subst h
 exact hk
theorem ix_two1 {a b c d:AV} {j:Nat} {K:AV→Prop} (h:j=1) (hk:K (.agg [c,d])):ixW 2 2 true (.agg [a,b,c,d]) (.int .i64 (j:Int)) K:=by
 subst h
 exact hk
section
variable {s:List Ty} {L:List Tu} {who:Ob} {S:q00} {bw bo br bk bl:Nat}
def PostK (s:List Ty) (L:List Tu) (who:Ob) (S:q00) (ae:AEnd) (S':q00):Prop:=∃ (bk:Nat) (K:List Nd),ae=.ret (.map (some bk))∧Sub S S'∧KMap MD ndA S' bk (fun n=>if n∈K then some (.bool true) else none)∧Mod (envL s L who) K
theorem known_3 (R:Rnd s L who) {S1:q00} {bc m:Nat} {T:List Ob} (hm:m≤q0r s) (hup:∀ (j k x:Nat) (l:List Nat),(levF s)[j]?=some l→l[k]?=some x→x≤m) (g:GS (envL s L who) S bw bo br bk bl [] S1) (hb:sget S1 bc=some (.cells 3 [.int .i64 0] 1)) (hne:bk≠bc) (hlT:T.length≤2000) (hT:∀ n x,x∈(envL s L who).of n→n.o∈T) :
  LoopP (fun r0 l S'=>C57_3 (PostK s L who S) r0 (lget l 11) (lget l 15) (lget l 21) (lget l 22) S') [(11,.ptr bw 0),(15,.sl 2 (T.map obC)),(21,.rop [.map (some bl),.int .i64 m]),(22,.ptr bc 0)] S1:=by
 have hmany:=(q2v R.c).many
 refine LoopP.introS (fun x:Nat×Nat=>[(11,.ptr bw 0),(15,.sl 2 (T.map obC)),(21,.rop [.map (some bl),.int .i64 m]),(22,.ptr x.2 0)])
  (fun x S'=>x.1≤m+1∧∃ K,GS (envL s L who) S bw bo br bk bl K S'∧sget S' x.2=some (.cells 3 [.int .i64 x.1] 1)∧bk≠x.2∧Upto (envL s L who) (q49 s T) x.1 K) (fun x=>m+1-x.1) (0,bc)
  ⟨by dsimp only;omega,[],g,hb,hne,⟨by simp,fun n hn=>(by cases hn),fun i n hi=>by simp at hi,fun i j n m hi=>by simp at hi,fun n hn=>(by cases hn),fun n j k r _ hlt=>by omega⟩⟩ rfl ?_
 rintro ⟨v,bc⟩ S2 ⟨hv,K,g2,b2,hne2,u2⟩ kk hkk
 dsimp only at hv b2 hne2 u2 ⊢
 have hc2:=q08 (objAt_some.2 b2)
 (try simp only [rwp,zA,zB,zC,zD,zE,zF,zG,zH,zI,rwb,reduceIte,C57_3,hc2])
 cases a1:decide ((v:Int)≤m)
 ·have hcw:=q08 g2.w
  (try simp only [rwp,zA,zB,zC,zD,zE,zF,zG,zH,zI,rwb,reduceIte,hcw,gwC])
  obtain ⟨es,clk,hkn⟩:=g2.kn
  have ev:v=m+1:=by have:=of_decide_eq_false a1;omega
  subst ev
  refine q03 ⟨bk,K,rfl,g2.sub,hkn.kmap,u2.mod fun n j k r hf=>?_⟩
  obtain ⟨-,ty,hty,-,hkr⟩:=q1v hf
  obtain ⟨lv,hl1,hl2⟩:=shp_row (q73 s) hty
  have hkl:=(List.getElem?_eq_some_iff.1 hkr).1
  obtain ⟨x,hx⟩:∃ x,lv[k]?=some x:=⟨_,List.getElem?_eq_getElem (by omega)⟩
  have:=hup j k x lv hl1 hx
  unfold lvN
  rw [hf]
  show getL (levF s) (j,k)<m+1
  unfold getL
  simp [hl1,hx]
  omega
 ·have hle:=of_decide_eq_true a1
  (try simp only [rwp,zA,zB,zC,zD,zE,zF,zG,zH,zI,rwb,reduceIte])
  refine q0g (c_gsettle R (mst:=m) g2 b2 hne2 u2 (by omega)) ?_
  rintro ae S3 ⟨rfl,K3,g3,b3,u3,cl3⟩
  dsimp only
  have hc3:=q08 (objAt_some.2 (b3.trans b2))
  (try simp only [rwp,zA,zB,zC,zD,zE,zF,zG,zH,zI,rwb,reduceIte,hc3])
  intro bd hbd
  (try simp only [rwp,zA,zB,zC,zD,zE,zF,zG,zH,zI,rwb,reduceIte])
  (simp (disch:=omega) only [q04])
  have e:supd (supd (supd S3 bd (.cells 3 [.int .i64 0] 1)) bd (.cells 3 [.int .i64 v] 1)) bd (.cells 3 [.int .i64 (v+1)] 1)=supd S3 bd (.cells 3 [.int .i64 ((v+1:Nat):Int)] 1):=by rw [q0j,q0j];rfl
  refine q0a rfl (hkk (v+1,bd) _ ⟨by dsimp only;omega,K3,g3.fresh hbd _,by rw [q01,if_pos rfl];rfl,?_,u3.next hT cl3⟩ (by dsimp only;omega))
  rintro rfl
  exact g3.kb hbd
theorem c_gknown (R:Rnd s L who) (hL:L.length≤500) (o:Ob) (S:q00):ACalls PG nrx57 [scA s,.sl 1 (lvC (levF s)),.sl 6 (L.map tuC),.agg (obC o),.agg (obC who)] S (PostK s L who S):=by
 have hst:=R.os.types
 refine wx57 ?_
 unfold Bx57
 (try simp only [rwp,zA,zB,zC,zD,zE,zF,zG,zH,zI,rwb,reduceIte,scA,obC])
 intro bo hbo br hbr
 obtain ⟨dro,hbr'⟩:=frsh hbr
 intro bk hbk
 obtain ⟨dkr,hbk'⟩:=frsh hbk
 obtain ⟨dko,hbk'⟩:=frsh hbk'
 (try simp only [rwp,zA,zB,zC,zD,zE,zF,zG,zH,zI,rwb,reduceIte])
 refine ⟨rfl,rfl,fun bw hbw=>?_⟩
 obtain ⟨dwk,hbw'⟩:=frsh hbw
 obtain ⟨dwr,hbw'⟩:=frsh hbw'
 obtain ⟨dwo,hbw'⟩:=frsh hbw'
 (try simp only [rwp,zA,zB,zC,zD,zE,zF,zG,zH,zI,rwb,reduceIte,List.length_map])
 generalize hS4:supd _ bw _=S4
 have g4:∀ c,sget S4 c=if bw=c then some (.cells tyGw (gwC bo br bk who) 5) else if bk=c then some (.map MD [] 0) else if br=c then some (.map MS [] 0) else if bo=c then some (.map MD [] 0) else sget S c:=by
  intro c
  rw [← hS4,q01,q01,q01,q01]
  rfl
 have sub4:Sub S S4:=by rw [← hS4];exact Sub.supd hbw' (Sub.supd hbk' (Sub.supd hbr' (Sub.supd hbo (Sub.refl _))))
 have w4:sget S4 bw=some (.cells tyGw (gwC bo br bk who) 5):=by rw [g4,if_pos rfl]
 have k4:sget S4 bk=some (.map MD [] 0):=by rw [g4,if_neg dwk,if_pos rfl]
 have o4:sget S4 bo=some (.map MD [] 0):=by rw [g4,if_neg dwo,if_neg dko,if_neg dro,if_pos rfl]
 have r4:KMap MS AV.str S4 br (relsI s 0):=by
  refine ⟨[],0,mapObj_some.2 (by rw [g4,if_neg dwr,if_neg dkr,if_pos rfl]),fun x hx=>(by cases hx),fun k=>?_⟩
  rw [q4t]
  unfold relsI
  cases typF s k with
  | none=>rfl
  | some j=>simp
 clear hS4 g4
 have hg:=q2v R.c
 refine LoopP.introS (fun i:Nat=>[(1,.sl 1 (lvC (levF s))),(2,.sl 6 (L.map tuC)),(5,.rop [.sl 2 (s.map tyC)]),(8,.rop [.str o.ty,.str o.id]),(11,.ptr bw 0),(30,.sl 2 (s.map tyC)),(31,.int .i64 s.length),(32,.int .i64 i)])
  (fun i S'=>i≤s.length∧Sub S S'∧sget S' bw=some (.cells tyGw (gwC bo br bk who) 5)∧sget S' bk=some (.map MD [] 0)∧sget S' bo=some (.map MD [] 0)∧KMap MS AV.str S' br (relsI s i)) (fun i=>s.length-i) 0 ⟨by omega,sub4,w4,k4,o4,r4⟩ rfl ?_
 rintro i S5 ⟨hi,sub5,w5,k5,o5,r5⟩ kk hkk
 have hc5:=q08 (objAt_some.2 w5)
 (try simp only [rwp,zA,zB,zC,zD,zE,zF,zG,zH,zI,rwb,reduceIte,C57_1])
 (refine q05 (fun hlt=>?_) (fun hlt=>?_)<;>(try simp only [hlc] at hlt))
 ·obtain ⟨t,ht⟩:=q0z hlt
  (try simp only [rwp,zA,zB,zC,zD,zE,zF,zG,zH,zI,rwb,reduceIte,List.getElem?_map,ht,tyC,hc5,gwC])
  refine r5.mu q2g t.name fun es clk hk=>?_
  (simp (disch:=omega) only [q04])
  exact q0a rfl (hkk (i+1) _ ⟨by omega,Sub.supd hbr' sub5,by rw [q01,if_neg (Ne.symm dwr)];exact w5,by rw [q01,if_neg (Ne.symm dkr)];exact k5,by rw [q01,if_neg dro];exact o5,hk.cong (relsI_succ hg ht)⟩ (by omega))
 ·have e:i=s.length:=by omega
  subst e
  have r5:=r5.cong (relsI_all s)
  clear hkk
  (try simp only [rwp,zA,zB,zC,zD,zE,zF,zG,zH,zI,rwb,reduceIte])
  intro bh hbh
  have hd0:KMap MO obA (supd S5 bh (.map MO [] 0)) bh (fun _=>none):=⟨[],0,mapObj_some.2 (by rw [q01,if_pos rfl]),fun x hx=>(by cases hx),fun k=>q4t⟩
  refine hd0.mu ke_ob o fun es clk hd=>?_
  rw [q0j] at hd ⊢
  refine ⟨by simp [allV,q09,notJ],fun tb htb=>?_⟩
  obtain ⟨dth,htb'⟩:=frsh htb
  have nS:∀ {c:Nat},sget S5 c=none→sget S c=none:=fun h=>Sub.none sub5 h
  have neW:∀ {c:Nat},sget S5 c=none→c≠bw∧c≠br∧c≠bk∧c≠bo:=by
   intro c hc
   refine ⟨?_,?_,?_,?_⟩
   ·rintro rfl;rw [w5] at hc;cases hc
   ·rintro rfl;exact r5.is hc
   ·rintro rfl;rw [k5] at hc;cases hc
   ·rintro rfl;rw [o5] at hc;cases hc
  obtain ⟨h1,h2,h3,h4⟩:=neW hbh
  obtain ⟨t1,t2,t3,t4⟩:=neW htb'
  generalize hS7:supd _ tb _=S7
  have g7:∀ c,sget S7 c=if tb=c then some (.cells tyOb [.str o.ty,.str o.id] 2) else if bh=c then some (.map MO es clk) else sget S5 c:=by
   intro c
   rw [← hS7,q01,q01]
   rfl
  have sub7:Sub S S7:=by rw [← hS7];exact Sub.supd (nS htb') (Sub.supd (nS hbh) sub5)
  have e7:∀ c,c≠tb→c≠bh→sget S7 c=sget S5 c:=fun c c1 c2=>by rw [g7,if_neg (Ne.symm c1),if_neg (Ne.symm c2)]
  have kn7:KnI s who S bw bo br bk bh (ofL (L.take 0)) (.own tb 0 1 1) [o] S7:=by
   have ef:ofL (L.take 0)=fun _=>[]:=rfl
   refine ⟨sub7,objAt_some.2 ((e7 bw (Ne.symm t1) (Ne.symm h1)).trans w5),r5.at (e7 br (Ne.symm t2) (Ne.symm h2)),(e7 bk (Ne.symm t3) (Ne.symm h3)).trans k5,⟨[],0,?_⟩,⟨fun r hr=>by rw [List.mem_singleton.1 hr];rfl,.inr ⟨tb,1,rfl,nS htb',?_,by simp,by decide,by simp⟩⟩,fun c hc=>?_,?_,nS hbh,h1,h2,h3⟩
   ·rw [ef]
    refine OfM.nil hbo ((e7 bo (Ne.symm t4) (Ne.symm h4)).trans o5) fun c hc=>?_
    rcases hc with rfl | rfl | rfl | rfl | ⟨off,n,cap,e⟩
    ·exact ⟨dwo,by rw [e7 _ (Ne.symm t1) (Ne.symm h1),w5];simp⟩
    ·exact ⟨dro,by rw [e7 _ (Ne.symm t2) (Ne.symm h2)];exact r5.is⟩
    ·exact ⟨dko,by rw [e7 _ (Ne.symm t3) (Ne.symm h3),k5];simp⟩
    ·exact ⟨h4,by rw [g7,if_neg dth,if_pos rfl];simp⟩
    ·cases e;exact ⟨t4,by rw [g7,if_pos rfl];simp⟩
   ·rw [g7,if_pos rfl];rfl
   ·rcases hc with rfl | rfl | rfl | rfl | rfl<;>intro b off n cap e<;>cases e
    ·exact Ne.symm t1
    ·exact Ne.symm t2
    ·exact Ne.symm t3
    ·exact Ne.symm dth
    ·exact Ne.symm t4
   ·refine (hd.at (S':=S7) ?_).cong fun x=>?_
    ·rw [g7,if_neg dth,if_pos rfl,q01,if_pos rfl]
    ·by_cases e:x=o
     ·subst e;simp
     ·simp [e]
  clear hS7 g7 e7 sub7 hd hd0 htb
  refine LoopP.introS (fun x:Nat×AV=>[(1,.sl 1 (lvC (levF s))),(5,.rop [.sl 2 (s.map tyC)]),(11,.ptr bw 0),(14,.map (some bh)),(15,x.2),(50,.sl 6 (L.map tuC)),(51,.int .i64 L.length),(52,.int .i64 x.1)])
   (fun x S'=>x.1≤L.length∧∃ T,KnI s who S bw bo br bk bh (ofL (L.take x.1)) x.2 T S'∧T.length≤1+2 * x.1∧∀ (j:Nat) (t:Tu),j<x.1→L[j]?=some t→t.o∈T) (fun x=>L.length-x.1) (0,.own tb 0 1 1) ⟨by dsimp only;omega,[o],kn7,by simp,fun j t hj=>by dsimp only at hj;omega⟩ rfl ?_
  rintro ⟨i,tv⟩ S8 ⟨hi,T,n8,hlT,hmem⟩ kk hkk
  dsimp only at hi n8 hlT hmem ⊢
  (try simp only [rwp,zA,zB,zC,zD,zE,zF,zG,zH,zI,rwb,reduceIte,C57_2])
  (refine q05 (fun hlt=>?_) (fun hlt=>?_)<;>(try simp only [hlc] at hlt))
  ·obtain ⟨t,ht⟩:=q0z hlt
   have hc8:=q08 n8.w
   (try simp only [rwp,zA,zB,zC,zD,zE,zF,zG,zH,zI,rwb,reduceIte,List.getElem?_map,ht,tuC,hc8,gwC])
   refine n8.push (ndT t) rfl rfl (by have:=ofL_len (L:=L) (i:=i) (n:=ndT t);omega) fun S9 n9=>?_
   have ef:(fun m=>if m=ndT t then ofL (L.take i) (ndT t)++[ndC t.s] else ofL (L.take i) m)=ofL (L.take (i+1)):=by
    funext m
    rw [ofL_take ht]
    by_cases hm:m=ndT t
    ·rw [if_pos hm,if_pos hm,hm]
    ·rw [if_neg hm,if_neg hm,List.append_nil]
   have n9:KnI s who S bw bo br bk bh (ofL (L.take (i+1))) tv T S9:=by rw [← ef];exact n9
   (try simp only [rwp,zA,zB,zC,zD,zE,zF,zG,zH,zI,rwb,reduceIte])
   refine LoopP.introS (fun x:Nat×AV=>[(1,.sl 1 (lvC (levF s))),(5,.rop [.sl 2 (s.map tyC)]),(11,.ptr bw 0),(14,.map (some bh)),(15,x.2),(50,.sl 6 (L.map tuC)),(51,.int .i64 L.length),(52,.int .i64 i),(78,.agg [.str t.o.ty,.str t.o.id,.str t.s.o.ty,.str t.s.o.id]),(79,.int .i64 x.1)])
    (fun x S'=>x.1≤2∧∃ T',KnI s who S bw bo br bk bh (ofL (L.take (i+1))) x.2 T' S'∧T'.length≤1+2 * i+x.1∧(∀ y∈T,y∈T')∧(0<x.1→t.o∈T')) (fun x=>2-x.1) (0,tv) ⟨by dsimp only;omega,T,n9,by dsimp only;omega,fun y hy=>hy,fun h=>by dsimp only at h;omega⟩ rfl ?_
   rintro ⟨j,tv2⟩ S10 ⟨hj,T2,n10,hl2,hs2,hm2⟩ kk2 hkk2
   dsimp only at hj n10 hl2 hs2 hm2 ⊢
   have fin:∀ (x:Ob) (tv3:AV) (S11:q00),j<2→(j=0→x=t.o)→KnI s who S bw bo br bk bh (ofL (L.take (i+1))) tv3 (addT T2 x) S11→C57_5 (PostK s L who S) kk kk2 (.sl 1 (lvC (levF s))) (.rop [.sl 2 (s.map tyC)]) (.ptr bw 0) (.map (some bh)) tv3 (.sl 6 (L.map tuC)) (.int .i64 L.length) (.int .i64 i) (.agg [.str t.o.ty,.str t.o.id,.str t.s.o.ty,.str t.s.o.id]) (.int .i64 j) S11:=by
    intro x tv3 S11 hj2 hx n11
    (try simp only [rwp,zA,zB,zC,zD,zE,zF,zG,zH,zI,rwb,reduceIte,C57_5])
    (simp (disch:=omega) only [q04])
    have:=@addT_len T2 x
    refine q0a rfl (hkk2 (j+1,tv3) _ ⟨by dsimp only;omega,_,n11,by dsimp only;omega,fun y hy=>addT_mem.2 (.inl (hs2 y hy)),fun _=>?_⟩ (by dsimp only;omega))
    by_cases e:j=0
    ·rw [hx e];exact addT_mem.2 (.inr rfl)
    ·exact addT_mem.2 (.inl (hm2 (by omega)))
   have j3:j=0∨j=1∨j=2:=by omega
   rcases j3 with e | e | e
   ·(try simp only [rwp,zA,zB,zC,zD,zE,zF,zG,zH,zI,rwb,reduceIte,C57_4,decide_eq_true (show (j:Int)<2 by omega)])
    refine ix_two0 e ?_
    (try simp only [rwp,zA,zB,zC,zD,zE,zF,zG,zH,zI,rwb,reduceIte])
    exact n10.add (by omega) t.o fun tv3 S11 n11=>fin t.o tv3 S11 (by omega) (fun _=>rfl) n11
   ·(try simp only [rwp,zA,zB,zC,zD,zE,zF,zG,zH,zI,rwb,reduceIte,C57_4,decide_eq_true (show (j:Int)<2 by omega)])
    refine ix_two1 e ?_
    (try simp only [rwp,zA,zB,zC,zD,zE,zF,zG,zH,zI,rwb,reduceIte])
    exact n10.add (by omega) t.s.o fun tv3 S11 n11=>fin t.s.o tv3 S11 (by omega) (fun h=>by omega) n11
   ·(try simp only [rwp,zA,zB,zC,zD,zE,zF,zG,zH,zI,rwb,reduceIte,C57_4,decide_eq_false (show ¬ (j:Int)<2 by omega)])
    (simp (disch:=omega) only [q04])
    refine q0a rfl (hkk (i+1,tv2) _ ⟨by dsimp only;omega,T2,n10,by dsimp only;omega,fun j' u hj' hu=>?_⟩ (by dsimp only;omega))
    dsimp only at hj'
    rcases Nat.lt_succ_iff_lt_or_eq.1 hj' with h1 | rfl
    ·exact hs2 _ (hmem j' u h1 hu)
    ·rw [ht] at hu;cases hu;exact hm2 (by omega)
  ·have e:i=L.length:=by omega
   subst e
   clear hkk
   rw [List.take_length] at n8
   have q:=c_grank R.os R.c S8
   simp only [scA] at q
   (try simp only [rwp,zA,zB,zC,zD,zE,zF,zG,zH,zI,rwb,reduceIte])
   refine q0g q ?_
   rintro ae S9 ⟨bl,m,rfl,s9,hbl,lv9,hm,hup⟩
   dsimp only
   (try simp only [rwp,zA,zB,zC,zD,zE,zF,zG,zH,zI,rwb,reduceIte])
   intro bc hbc
   (try simp only [rwp,zA,zB,zC,zD,zE,zF,zG,zH,zI,rwb,reduceIte])
   obtain ⟨es9,clk9,hof⟩:=n8.of
   have hT:∀ n x,x∈(envL s L who).of n→n.o∈T:=by
    intro n x hx
    obtain ⟨t,ht,rfl⟩:=List.mem_map.1 hx
    unfold ofF at ht
    simp only [List.mem_filter,Bool.and_eq_true,decide_eq_true_eq] at ht
    obtain ⟨j,hj⟩:=List.getElem?_of_mem ht.1
    have:=hmem j t (List.getElem?_eq_some_iff.1 hj).1 hj
    rw [ht.2.1] at this
    exact this
   have neW8:∀ {c:Nat},sget S8 c=none→c≠bw∧c≠br∧c≠bk∧c≠bo:=by
    intro c hc
    refine ⟨?_,?_,?_,?_⟩
    ·rintro rfl;exact q65 n8.w hc
    ·rintro rfl;exact n8.rl.is hc
    ·rintro rfl;rw [n8.kn] at hc;cases hc
    ·rintro rfl;rw [hof.map] at hc;cases hc
   obtain ⟨l1,l2,l3,l4⟩:=neW8 hbl
   have hbc8:sget S8 bc=none:=Sub.none s9 hbc
   obtain ⟨c1,c2,c3,c4⟩:=neW8 hbc8
   have hcl:bc≠bl:=by rintro rfl;exact lv9.is hbc
   obtain ⟨xr,xrc,hxr,hxr2,hxr3⟩:=id n8.rl
   obtain ⟨xl,xlc,hxl,hxl2,hxl3⟩:=id lv9
   have nbl:sget S bl=none:=Sub.none n8.sub hbl
   have nbc:sget S bc=none:=Sub.none n8.sub hbc8
   let S1:q00:=supd (supd (supd (supd (supd (supd S bw (.cells tyGw (gwC bo br bk who) 5)) br (.map MS xr xrc)) bk (.map MD [] 0)) bl (.map MS xl xlc)) bc (.cells 3 [.int .i64 0] 1)) bo (.map MD (frzM (ofL L) es9) clk9)
   have g1:∀ c,sget S1 c=if bo=c then some (.map MD (frzM (ofL L) es9) clk9) else if bc=c then some (.cells 3 [.int .i64 0] 1) else if bl=c then some (.map MS xl xlc) else if bk=c then some (.map MD [] 0) else if br=c then some (.map MS xr xrc) else if bw=c then some (.cells tyGw (gwC bo br bk who) 5) else sget S c:=fun c=>rfl
   have sub1:Sub S S1:=Sub.supd hbo (Sub.supd nbc (Sub.supd nbl (Sub.supd hbk' (Sub.supd hbr' (Sub.supd hbw' (Sub.refl _))))))
   have hcur:∀ c,sget (supd S9 bc (.cells 3 [.int .i64 0] 1)) c=if bc=c then some (.cells 3 [.int .i64 0] 1) else sget S9 c:=fun c=>rfl
   have hin:∀ b,sget S1 b≠none→b=bo∨(b=bc∨b=bl∨KsG bw br bk bh tv b)∨sget S b≠none:=by
    intro b hb
    rw [g1] at hb
    split at hb
    ·rename_i e;exact .inl e.symm
    ·split at hb
     ·rename_i e;exact .inr (.inl (.inl e.symm))
     ·split at hb
      ·rename_i e;exact .inr (.inl (.inr (.inl e.symm)))
      ·split at hb
       ·rename_i e;exact .inr (.inl (.inr (.inr (.inr (.inr (.inl e.symm))))))
       ·split at hb
        ·rename_i e;exact .inr (.inl (.inr (.inr (.inr (.inl e.symm)))))
        ·split at hb
         ·rename_i e;exact .inr (.inl (.inr (.inr (.inl e.symm))))
         ·exact .inr (.inr hb)
   have hof9:OfM S (supd S9 bc (.cells 3 [.int .i64 0] 1)) 39 bo (fun b=>b=bc∨b=bl∨KsG bw br bk bh tv b) (ofL L) es9 clk9:=by
    refine hof.more (s9.trans fun c o hc=>?_) (fun c hc=>?_) fun c hc=>?_
    ·rw [hcur,if_neg (q0i hbc hc)];exact hc
    ·rcases hc with rfl | rfl | hc
     ·exact .inr hbc8
     ·exact .inr hbl
     ·exact .inl hc
    ·rw [hcur]
     rcases hc with rfl | rfl | hc
     ·exact ⟨c4,by rw [if_pos rfl];simp⟩
     ·exact ⟨l4,by rw [if_neg hcl];exact lv9.is⟩
     ·refine ⟨(hof.ks c hc).1,?_⟩
      split
      ·simp
      ·cases ho:sget S8 c with
       | none=>exact absurd ho (hof.ks c hc).2
       | some o=>rw [s9 c o ho];simp
   have hlst:LstN S1 (supd S9 bc (.cells 3 [.int .i64 0] 1)) tyOb 2 tv (T.map obC):=by
    obtain ⟨hr,⟨rfl,e⟩ | ⟨b,cap,rfl,q1,q2,q3⟩⟩:=n8.tl
    ·exact ⟨hr,.inl ⟨rfl,e⟩⟩
    ·refine ⟨hr,.inr ⟨b,cap,rfl,?_,?_,q3⟩⟩
     ·rw [g1,if_neg (n8.ta bo (by simp) b _ _ _ rfl),if_neg (by rintro rfl;rw [q2] at hbc8;cases hbc8),if_neg (by rintro rfl;rw [q2] at hbl;cases hbl),if_neg (n8.ta bk (by simp) b _ _ _ rfl),if_neg (n8.ta br (by simp) b _ _ _ rfl),if_neg (n8.ta bw (by simp) b _ _ _ rfl)]
      exact q1
     ·rw [hcur,if_neg (by rintro rfl;rw [q2] at hbc8;cases hbc8)]
      exact s9 _ _ q2
   refine LoopP.frz (S1:=S1) (l':=[(11,.ptr bw 0),(15,.sl 2 (T.map obC)),(21,.rop [.map (some bl),.int .i64 m]),(22,.ptr bc 0)]) ?_ (.cons (.same _) (.cons (Fr.lst hlst) (.cons (.same _) (.cons (.same _) .nil)))) (known_3 (bo:=bo) (br:=br) (bk:=bk) R hm hup ?_ ?_ ?_ (by omega) hT)
   ·intro b o' hb
    rw [g1] at hb
    split at hb
    ·rename_i e;subst e;cases hb;exact ⟨_,hof9.map,hof9.fr hin⟩
    ·split at hb
     ·rename_i e;subst e;cases hb;exact ⟨_,by rw [hcur,if_pos rfl],.same _⟩
     ·rename_i hbn
      have hn:∀ {o:AObj},sget S8 b=some o→sget (supd S9 bc (.cells 3 [.int .i64 0] 1)) b=some o:=fun h=>by rw [hcur,if_neg hbn];exact s9 b _ h
      split at hb
      ·rename_i e;subst e;cases hb;exact ⟨_,by rw [hcur,if_neg hbn];exact mapObj_some.1 hxl,.same _⟩
      ·split at hb
       ·rename_i e;subst e;cases hb;exact ⟨_,hn n8.kn,.same _⟩
       ·split at hb
        ·rename_i e;subst e;cases hb;exact ⟨_,hn (mapObj_some.1 hxr),.same _⟩
        ·split at hb
         ·rename_i e;subst e;cases hb;exact ⟨_,hn (objAt_some.1 n8.w),.same _⟩
         ·exact ⟨_,hn (n8.sub b o' hb),.same _⟩
   ·have hfk:∀ x∈frzM (ofL L) es9,∃ n,x.1=ndA n:=by
     intro x hx
     unfold frzM at hx
     obtain ⟨y,hy,rfl⟩:=List.mem_map.1 hx
     exact hof.key y hy
    have hofA:∀ m,ofA ((envL s L who).of m)=(mget es9 (ndA m)).map fun _=>AV.sl 3 (ofL L m):=by
     intro m
     unfold ofA
     cases hm:mget es9 (ndA m) with
     | none=>
      have:=hof.no m hm
      unfold ofL at this
      rw [List.map_eq_nil_iff] at this
      rw [show (envL s L who).of m=(ofF L m).map Tu.s from rfl,this]
      rfl
     | some v=>
      have:=(hof.yes m v hm).1
      unfold ofL at this
      rw [if_neg fun h=>this (by rw [show (ofF L m).map Tu.s=(envL s L who).of m from rfl,h];rfl)]
      rfl
    refine ⟨objAt_some.2 ?_,⟨frzM (ofL L) es9,clk9,mapObj_some.2 (by rw [g1,if_pos rfl]),fun x hx=>?_,fun m=>?_⟩,⟨xr,xrc,mapObj_some.2 ?_,hxr2,hxr3⟩,⟨xl,xlc,mapObj_some.2 ?_,hxl2,hxl3⟩,⟨[],0,⟨?_,fun x hx=>(by cases hx),by simp,fun x hx=>(by cases hx),fun n=>by simp [q4t]⟩⟩,Ne.symm dwk,dko,dkr,Ne.symm l3,fun n=>?_,sub1,hbk'⟩
    ·rw [g1,if_neg (Ne.symm dwo),if_neg c1,if_neg l1,if_neg (Ne.symm dwk),if_neg (Ne.symm dwr),if_pos rfl];rfl
    ·obtain ⟨m,hm⟩:=hfk x hx
     rw [hm]
     exact ke_nd.ok m
    ·rw [mget_frz hof.key];exact (hofA m).symm
    ·rw [g1,if_neg (Ne.symm dro),if_neg c2,if_neg l2,if_neg dkr,if_pos rfl]
    ·rw [g1,if_neg (Ne.symm l4),if_neg hcl,if_pos rfl]
    ·rw [g1,if_neg (Ne.symm dko),if_neg c3,if_neg l3,if_pos rfl]
    ·show ((ofF L n).map Tu.s).length≤1125899906842624
     rw [List.length_map]
     exact Nat.le_trans (List.length_filter_le _ _) (Nat.le_trans hL (by decide))
   ·rw [g1,if_neg (Ne.symm c4),if_pos rfl]
   ·exact Ne.symm c3
end
set_option maxRecDepth 4000
theorem c_gHolds {s:List Ty} (hs:OkS s) (hN:OkN s) {l:List Tu} (hl:OkL l) (hn:l.length≤500) (n:Nd) (who:Ob) :
  AFun PG nrx22 [scA s,.sl 6 (l.map tuC),.agg (obC n.o),.str n.rl,.agg (obC who)] (.bool (decide (errA (chkF s)=0)&&inB (envE s l who) n)):=by
 intro S
 refine wx22 ?_
 unfold Bx22
 have q1:=q5c hs hN
 unfold lvlF at q1
 simp only [scA] at q1
 (try simp only [rwp,zA,zB,zC,zD,zE,zF,zG,zH,zI,rwb,reduceIte,scA,obC])
 by_cases hk:errA (chkF s)=0
 ·rw [if_pos hk] at q1
  rw [decide_eq_true hk,Bool.true_and]
  refine q06 q1 ?_
  have R:Rnd s (q0s s l) who:=⟨hs,hk,counts_ok hl,q7z s l who⟩
  have hlc:(q0s s l).length≤500:=Nat.le_trans (List.length_filter_le _ _) hn
  have q2:=c_gcounts hs hl S
  have q3:=c_gknown R hlc n.o S
  simp only [scA,obC] at q2 q3
  (try simp only [rwp,zA,zB,zC,zD,zE,zF,zG,zH,zI,rwb,reduceIte])
  refine q0g q2 ?_
  rintro ae S1 ⟨a,rfl,h1,h2⟩
  dsimp only
  (try simp only [rwp,zA,zB,zC,zD,zE,zF,zG,zH,zI,rwb,reduceIte])
  refine q0g (ACalls.frz (FrS.sub h1) (.cons (.same _) (.cons (.same _) (.cons (Fr.lstW h2) (.cons (.same _) (.cons (.same _) .nil))))) q3) ?_
  rintro ae S2 ⟨bk,K,rfl,h3,h4,h5⟩
  dsimp only
  (try simp only [rwp,zA,zB,zC,zD,zE,zF,zG,zH,zI,rwb,reduceIte])
  have q:=fun K' hk=>h4.lki (ok:=false) (z:=.bool false) (K:=K') ke_nd n hk
  simp only [ndA,ndC] at q
  refine q _ ?_
  rw [q4w]
  (try simp only [rwp,zA,zB,zC,zD,zE,zF,zG,zH,zI,rwb,reduceIte])
  refine rtW_sub h3 ⟨?_,rfl⟩
  rw [inB_eq (q7z s l who) hk h5]
 ·rw [if_neg hk] at q1
  rw [decide_eq_false hk,Bool.false_and]
  refine q06 q1 ?_
  (try simp only [rwp,zA,zB,zC,zD,zE,zF,zG,zH,zI,rwb,reduceIte])
  exact q03 ⟨rfl,rfl⟩
set_option maxRecDepth 4000
noncomputable def outF (s:List Ty) (l L:List Tu) (n:Nd):List Ob:=(L.filter fun t=>decide (t.s.rl=⟨#[]⟩)&&inB (envE s l t.s.o) n).map fun t=>t.s.o
noncomputable def memF (s:List Ty) (l:List Tu) (n:Nd):List Ob:=if errA (chkF s)=0 then srtO ltO (outF s l (q0s s l) n) else []
theorem outF_take {s:List Ty} {l L:List Tu} {n:Nd} {i:Nat} {t:Tu} (h:L[i]?=some t):outF s l (L.take (i+1)) n=outF s l (L.take i) n++if (decide (t.s.rl=⟨#[]⟩)&&inB (envE s l t.s.o) n)=true then [t.s.o] else []:=by
 unfold outF
 rw [q3z h,List.map_append]
 congr 1
 cases (decide (t.s.rl=⟨#[]⟩)&&inB (envE s l t.s.o) n)<;>rfl
theorem q62 {s:List Ty} {l L:List Tu} {n:Nd}:(outF s l L n).length≤L.length:=by
 unfold outF
 rw [List.length_map]
 exact List.length_filter_le _ _
theorem LstN.ln {S0 S S':q00} {t sz:Nat} {v:AV} {rows:List (List AV)} {K:AV→Prop} (h:LstN S0 S t sz v rows):lnW S' 1 v K=K (.int .i64 rows.length):=by
 obtain ⟨hr,⟨rfl,rfl⟩ | ⟨b,cap,rfl,-⟩⟩:=h
 ·rw [q8j];rfl
 ·rw [lnW_own]
theorem dat_nil (S:q00):Dat .nils (fun _=>.nils) (fun _=>S) 0:=⟨fun _ h=>absurd h (by omega),fun h=>absurd h (by omega),fun h=>absurd h (by omega),fun hk=>by rw [q8j];exact hk,by omega,fun _ h=>absurd h (by omega),fun _ h=>absurd h (by omega),fun h=>h⟩
theorem sort_compact {N g:Nat} (hN:SortOk N) (hg:∀ x y,AFun PG g [.agg (obC x),.agg (obC y)] (.int .i64 (cmpO x y))) {S0 S:q00} {v:AV} {M:List Ob} (hs:Sub S0 S) (h:LstN S0 S tyOb 2 v (M.map obC)) (hl:M.length≤N) (hb:M.length≤100000) {QF:AEnd→q00→Prop} (hQ:QF (.ret (.sl 2 ((srtO ltO M).map obC))) S0) :
  caW PG S (.func (.func nrx59) [] []) [v,.func (.func g) [] []] (fun _ S=>caW PG S (.func (.func nrx63) [] []) [v] (fun v58 S=>rtW [.tmp v58] QF S) (pqW QF)) (pqW QF):=by
 have fin:∀ (w:Nat→Ob) (S1:q00),Sub S0 S1→OwnL S0 S1 tyOb 2 obC v M.length w→Rng M.length 0 M.length (at' M) w→Srt (ltC cmpO) 0 M.length w →
   caW PG S1 (.func (.func nrx63) [] []) [v] (fun v58 S=>rtW [.tmp v58] QF S) (pqW QF):=by
  intro w S1 hs1 ho hr hw
  refine q0g (c_Compact hs1 ho hb) ?_
  rintro ae S2 ⟨a',rfl,h1,h2⟩
  dsimp only
  have e:dd w M.length=srtO ltO M:=by
   obtain ⟨k1,k2,-⟩:=srtO_ok stO M _ rfl
   refine Asc.uniq stO (dd_asc stO hw) k1 fun x=>?_
   rw [k2,mem_dd]
   have hm:x∈M↔x∈vl M.length w:=by
    conv=>lhs;rw [← vl_at M]
    exact hr.perm.mem_iff
   rw [hm]
   unfold vl
   rw [List.mem_map]
   constructor
   ·rintro ⟨i,h1,h2⟩;exact ⟨i,by simpa using h1,h2⟩
   ·rintro ⟨i,h1,h2⟩;exact ⟨i,by simpa using h1,h2⟩
  rw [e] at h2
  exact rtW_fr S0 _ h1 (Fr.lstW h2) hQ
 obtain ⟨hr,⟨rfl,e⟩ | ⟨b,cap,rfl,h1,h2,h3,h4,h5⟩⟩:=h
 ·have e:M=[]:=by simpa using e
  subst e
  refine q0g (hN .nils (fun _=>.nils) (fun _=>S) 0 g cmpO (dat_nil S) hg stO.ok (by omega) (at' [])) ?_
  rintro ae S1 ⟨rfl,w,rfl,k1,k2⟩
  dsimp only
  exact fin w _ hs (.inl ⟨rfl,rfl⟩) k1 k2
 ·simp only [List.length_map] at h3 h5 h2 ⊢
  have hsm:supd S b (.cells tyOb (fl obC M.length (at' M)) (cap * 2))=S:=by
   funext c
   unfold supd
   split
   ·rename_i e
    subst e
    have:fl obC M.length (at' M)=(M.map obC).flatten:=by unfold fl;rw [vl_at]
    rw [this]
    exact h2.symm
   ·rfl
  have q:=hN _ _ _ M.length g cmpO (dat_own (S0:=S) (b:=b) h3 hb) hg stO.ok hl (at' M)
  rw [hsm] at q
  refine q0g q ?_
  rintro ae S1 ⟨rfl,w,rfl,k1,k2⟩
  dsimp only
  simp only [List.length_map] at fin
  exact fin w _ (Sub.supd h1 hs) (.inr ⟨b,cap,rfl,h1,by rw [q01,if_pos rfl],h3,h4⟩) k1 k2
theorem q7i {N:Nat} (hNs:SortOk N) {s:List Ty} (hs:OkS s) (hN:OkN s) {l:List Tu} (hl:OkL l) (hn:l.length≤500) (n:Nd) (hlen:errA (chkF s)=0→(outF s l (q0s s l) n).length≤N) :
  AFun PG nrx23 [scA s,.sl 6 (l.map tuC),.agg (obC n.o),.str n.rl] (.sl 2 ((memF s l n).map obC)):=by
 intro S
 refine wx23 ?_
 unfold Bx23
 have q1:=q5c hs hN
 unfold lvlF at q1
 simp only [scA] at q1
 (try simp only [rwp,zA,zB,zC,zD,zE,zF,zG,zH,zI,rwb,reduceIte,scA,obC])
 unfold memF
 by_cases hk:errA (chkF s)=0
 ·rw [if_pos hk] at q1
  rw [if_pos hk]
  refine q06 q1 ?_
  have hlen:=hlen hk
  have hlc:(q0s s l).length≤500:=Nat.le_trans (List.length_filter_le _ _) hn
  have q2:=c_gcounts hs hl S
  simp only [scA] at q2
  (try simp only [rwp,zA,zB,zC,zD,zE,zF,zG,zH,zI,rwb,reduceIte])
  refine q0g q2 ?_
  rintro ae S1 ⟨a,rfl,h1,h2⟩
  dsimp only
  rw [h2.ln,List.length_map]
  refine LoopP.frz (S1:=S) (l':=[(1,.sl 6 ((q0s s l).map tuC)),(3,.str n.rl),(4,.rop [.sl 2 (s.map tyC)]),(6,.rop [.str n.o.ty,.str n.o.id]),(9,.sl 1 (lvC (levF s))),(11,.nils),(24,.sl 6 ((q0s s l).map tuC)),(25,.int .i64 (q0s s l).length),(26,.int .i64 0)]) (FrS.sub h1) (.cons (Fr.lstW h2) (.cons (.same _) (.cons (.same _) (.cons (.same _) (.cons (.same _) (.cons (.same _) (.cons (Fr.lstW h2) (.cons (.same _) (.cons (.same _) .nil))))))))) ?_
  generalize hL:q0s s l=L at hlen hlc ⊢
  refine LoopP.introS (fun x:Nat×AV=>[(1,.sl 6 (L.map tuC)),(3,.str n.rl),(4,.rop [.sl 2 (s.map tyC)]),(6,.rop [.str n.o.ty,.str n.o.id]),(9,.sl 1 (lvC (levF s))),(11,x.2),(24,.sl 6 (L.map tuC)),(25,.int .i64 L.length),(26,.int .i64 x.1)])
   (fun x S'=>x.1≤L.length∧Sub S S'∧LstN S S' tyOb 2 x.2 ((outF s l (L.take x.1) n).map obC)) (fun x=>L.length-x.1) (0,.nils) ⟨by dsimp only;omega,Sub.refl _,LstN.nil⟩ rfl ?_
  rintro ⟨i,ov⟩ S2 ⟨hi,s2,o2⟩ kk hkk
  dsimp only at hi o2 ⊢
  (try simp only [rwp,zA,zB,zC,zD,zE,zF,zG,zH,zI,rwb,reduceIte,C23_1])
  cases a0:decide ((i:Int)<L.length)
  ·have e:i=L.length:=by have:=of_decide_eq_false a0;omega
   subst e
   (try simp only [rwp,zA,zB,zC,zD,zE,zF,zG,zH,zI,rwb,reduceIte])
   rw [List.take_length] at o2
   have:=@q62 s l L n
   exact sort_compact hNs c_gcmp s2 o2 hlen (by omega) ⟨rfl,rfl⟩
  ·have hlt:=of_decide_eq_true a0
   (try simp only [rwp,zA,zB,zC,zD,zE,zF,zG,zH,zI,rwb,reduceIte])
   obtain ⟨t,ht⟩:=q0z hlt
   have go:∀ {b:Bool} {S3:q00},b=(decide (t.s.rl=⟨#[]⟩)&&inB (envE s l t.s.o) n)→Sub S S3→LstN S S3 tyOb 2 ov ((outF s l (L.take i) n).map obC)→C23_2 (fun ae S'=>ae=AEnd.ret (AV.sl 2 ((srtO ltO (outF s l L n)).map obC))∧S'=S) kk (.sl 6 (L.map tuC)) (.str n.rl) (.rop [.sl 2 (s.map tyC)]) (.rop [.str n.o.ty,.str n.o.id]) (.sl 1 (lvC (levF s))) ov (.rop [.str t.o.ty,.str t.o.id,.str t.rl,.str t.s.o.ty,.str t.s.o.id,.str t.s.rl]) (.sl 6 (L.map tuC)) (.int .i64 L.length) (.int .i64 i) (.bool b) S3:=by
    intro b S3 hb s3 o3
    have hot:=outF_take (s:=s) (l:=l) (n:=n) ht
    rw [← hb] at hot
    cases b
    ·(try simp only [rwp,zA,zB,zC,zD,zE,zF,zG,zH,zI,rwb,reduceIte,C23_2])
     (simp (disch:=omega) only [q04])
     refine q0a rfl (hkk (i+1,ov) _ ⟨by dsimp only;omega,s3,?_⟩ (by dsimp only;omega))
     dsimp only
     rw [hot]
     simpa using o3
    ·(try simp only [rwp,zA,zB,zC,zD,zE,zF,zG,zH,zI,rwb,reduceIte,C23_2])
     have:=@q62 s l (L.take i) n
     have:=List.length_take_le i L
     refine LstN.app s3 o3 (xs:=[[.str t.s.o.ty,.str t.s.o.id]]) (fun r hr=>by rw [List.mem_singleton.1 hr];rfl) (q3r fun r hr=>by rw [List.mem_singleton.1 hr];rfl) (by simp only [List.length_map,List.length_singleton];omega) fun v' S4 j1 j2 j3=>?_
     (simp (disch:=omega) only [q04])
     refine q0a rfl (hkk (i+1,v') _ ⟨by dsimp only;omega,j1,?_⟩ (by dsimp only;omega))
     dsimp only
     rw [hot,List.map_append]
     exact j2
   (try simp only [rwp,zA,zB,zC,zD,zE,zF,zG,zH,zI,rwb,reduceIte,List.getElem?_map,ht,tuC])
   cases a1:decide (t.s.rl=⟨#[]⟩)
   ·(try simp only [rwp,zA,zB,zC,zD,zE,zF,zG,zH,zI,rwb,reduceIte])
    exact go (by rw [a1];rfl) s2 o2
   ·have R:Rnd s L t.s.o:=by rw [← hL];exact ⟨hs,hk,counts_ok hl,q7z s l t.s.o⟩
    have q3:=c_gknown R hlc n.o S2
    simp only [scA,obC] at q3
    (try simp only [rwp,zA,zB,zC,zD,zE,zF,zG,zH,zI,rwb,reduceIte])
    refine q0g q3 ?_
    rintro ae S3 ⟨bk,K,rfl,h3,h4,h5⟩
    dsimp only
    (try simp only [rwp,zA,zB,zC,zD,zE,zF,zG,zH,zI,rwb,reduceIte])
    have q:=fun K' hk=>h4.lki (ok:=false) (z:=.bool false) (K:=K') ke_nd n hk
    simp only [ndA,ndC] at q
    refine q _ ?_
    rw [q4w]
    (try simp only [rwp,zA,zB,zC,zD,zE,zF,zG,zH,zI,rwb,reduceIte])
    refine go ?_ (s2.trans h3) (o2.sub h3)
    rw [a1,Bool.true_and]
    rw [← hL] at h5
    exact inB_eq (q7z s l t.s.o) hk h5 n
 ·rw [if_neg hk] at q1
  rw [if_neg hk]
  refine q06 q1 ?_
  (try simp only [rwp,zA,zB,zC,zD,zE,zF,zG,zH,zI,rwb,reduceIte])
  exact rtW_fr S _ (Sub.refl _) (.nils 2) ⟨rfl,rfl⟩
set_option maxRecDepth 4000
structure Tk where
 s:ByteArray
 line:Int
 col:Int
instance:Inhabited Tk:=⟨⟨⟨#[]⟩,0,0⟩⟩
def tkC (t:Tk):List AV:=[.str t.s,.int .i64 t.line,.int .i64 t.col]
structure Rd where
 at':Nat
 op:Int
 dl:Int
 dc:Int
 de:Int
def rdC (T:List Tk) (r:Rd):List AV:=[.sl 3 (T.map tkC),.int .i64 r.at',.int .i64 r.op,.int .i64 r.dl,.int .i64 r.dc,.int .i64 r.de]
def rdO (T:List Tk) (r:Rd):AObj:=.cells 145 (rdC T r) 6
def AFunR (f b:Nat) (xs:List AV) (T:List Tk) (r:Rd) (v:AV) (r':Rd):Prop:=∀ S,sget S b=some (rdO T r)→ACalls PG f (.ptr b 0 :: xs) S fun ae S'=>ae=.ret v∧S'=supd S b (rdO T r')
theorem q71 {S:q00} {b:Nat} {T:List Tk} {r:Rd} (h:sget S b=some (rdO T r)):q0h S b=some (145,[.sl 3 (T.map tkC),.int .i64 r.at',.int .i64 r.op,.int .i64 r.dl,.int .i64 r.dc,.int .i64 r.de],6):=objAt_some.2 h
theorem q0p {S:q00} {b:Nat} {o:AObj} (h:sget S b=some o):supd S b o=S:=by
 funext c
 unfold supd
 by_cases hc:b=c
 ·subst hc;rw [if_pos rfl];exact h.symm
 ·rw [if_neg hc]
def nxP (T:List Tk) (r:Rd):Tk:=T.getD r.at' default
def q45 (t:Tk) (e:Int) (r:Rd):Rd:=if r.de=0 then { r with dl:=t.line,dc:=t.col,de:=e } else r
def isP (T:List Tk) (s:ByteArray) (r:Rd):Bool:=decide (r.de=0)&&decide ((nxP T r).s=s)
def isR (T:List Tk) (s:ByteArray) (r:Rd):Rd:=if isP T s r then { r with at':=r.at'+1 } else r
def q1p (T:List Tk) (s:ByteArray) (r:Rd):Rd:=if isP T s r then isR T s r else q45 (nxP T r) 8 r
def q2b (T:List Tk) (r:Rd):ByteArray:=if q0v (nxP T r).s=true∧r.de=0 then (nxP T r).s else ⟨#[]⟩
def q0k (T:List Tk) (r:Rd):Rd:=if q0v (nxP T r).s=true∧r.de=0 then { r with at':=r.at'+1 } else q45 (nxP T r) 8 r
structure OkTk (T:List Tk):Prop where
 len:T.length≤5000
 size:∀ t∈T,t.s.size≤1125899906842624
 last:∀ t,T[T.length-1]?=some t→t.s=⟨#[]⟩∨t.s=⟨#[63]⟩
def InR (T:List Tk) (r:Rd):Prop:=r.at'<T.length
theorem nx_get {T:List Tk} {r:Rd} (h:InR T r):T[r.at']?=some (nxP T r):=by
 unfold nxP InR at *
 rw [List.getD_eq_getElem?_getD,List.getElem?_eq_getElem h]
 rfl
theorem c_fail {T:List Tk} {r:Rd} {b:Nat} (t:Tk) (e:Int):AFunR nrx88 b [.agg (tkC t),.int .i64 e] T r (.tup []) (q45 t e r):=by
 intro S h
 have ho:=q71 h
 refine wx88 ?_
 unfold Bx88
 (try simp only [rwp,hwR,zA,zB,zC,zD,zE,zF,zG,zH,zI,tkC,q08 ho])
 (refine q05 (fun h0=>?_) (fun h0=>?_)<;>(try simp only [hlc] at h0))
 ·(try simp only [rwp,hwR,zA,zB,zC,zD,zE,zF,zG,zH,zI,ho])
  exact q1k ⟨rfl,by rw [q45,if_pos h0];rfl⟩
 ·exact q1k ⟨rfl,by rw [q45,if_neg h0,q0p h]⟩
theorem q4m {T:List Tk} {r:Rd} {b:Nat} (hT:OkTk T) (hr:InR T r):AFunR nrx87 b [] T r (.agg (tkC (nxP T r))) r:=by
 intro S h
 have ho:=q71 h
 have hx:=nx_get hr
 refine wx87 ?_
 unfold Bx87
 intro b2 hb2
 have hne:b2≠b:=q0i hb2 h
 (try simp only [rwp,hwR,zA,zB,zC,zD,zE,zF,zG,zH,zI,q08 ho,if_neg hne,hx,tkC])
 refine q1d S (by rw [q2h hb2];exact Sub.refl S) ?_
 (try simp only [rwp,hwR,zA,zB,zC,zD,zE,zF,zG,zH,zI])
 first | exact ⟨rfl,(q0p h).symm⟩ | exact (q0p h).symm
theorem c_is {T:List Tk} {r:Rd} {b:Nat} (hT:OkTk T) (hr:InR T r) (s:ByteArray):AFunR nrx84 b [.str s] T r (.bool (isP T s r)) (isR T s r):=by
 intro S h
 have ho:=q71 h
 have hx:=nx_get hr
 have hl:=hT.len
 have hr':r.at'<T.length:=hr
 refine wx84 ?_
 unfold Bx84
 (try simp only [rwp,hwR,zA,zB,zC,zD,zE,zF,zG,zH,zI,q08 ho])
 cases a1:decide (r.de=0) with
 | false=>
  (try simp only [rwp,hwR,zA,zB,zC,zD,zE,zF,zG,zH,zI,C84_1])
  have hp:isP T s r=false:=by rw [isP,a1];rfl
  exact q03 ⟨by rw [hp],by rw [isR,hp];exact (q0p h).symm⟩
 | true=>
  (try simp only [rwp,hwR,zA,zB,zC,zD,zE,zF,zG,zH,zI,hx,tkC])
  cases a2:decide ((nxP T r).s=s) with
  | false=>
   (try simp only [rwp,hwR,zA,zB,zC,zD,zE,zF,zG,zH,zI,C84_1])
   have hp:isP T s r=false:=by rw [isP,a1,a2];rfl
   exact q03 ⟨by rw [hp],by rw [isR,hp];exact (q0p h).symm⟩
  | true=>
   (try simp only [rwp,hwR,zA,zB,zC,zD,zE,zF,zG,zH,zI,C84_1,q08 ho,ho])
   have hp:isP T s r=true:=by rw [isP,a1,a2];rfl
   (simp (disch:=omega) only [q04])
   exact q03 ⟨by rw [hp],by rw [isR,hp];rfl⟩
theorem AFunR.ca {f b:Nat} {xs:List AV} {T:List Tk} {r r':Rd} {v:AV} (h:AFunR f b xs T r v r') {S:q00} (hS:sget S b=some (rdO T r)) {K Qp:AV→q00→Prop} (hK:K v (supd S b (rdO T r'))):caW PG S (.func (.func f) [] []) (.ptr b 0 :: xs) K Qp:=
 q0g (h S hS) fun ae S' ⟨h1,h2⟩=>by subst h1;subst h2;exact hK
theorem q14 {S:q00} {b:Nat} {T:List Tk} {r:Rd}:sget (supd S b (rdO T r)) b=some (rdO T r):=by rw [q01,if_pos rfl]
theorem q7x {T:List Tk} {s:ByteArray} {r:Rd} (h:isP T s r=false):isR T s r=r:=by rw [isR,h];rfl
theorem c_must {T:List Tk} {r:Rd} {b:Nat} (hT:OkTk T) (hr:InR T r) (s:ByteArray):AFunR nrx130 b [.str s] T r (.tup []) (q1p T s r):=by
 intro S h
 refine wx130 ?_
 unfold Bx130
 refine (c_is hT hr s).ca h ?_
 cases hp:isP T s r with
 | true=>
  (try simp only [rwp,hwR,zA,zB,zC,zD,zE,zF,zG,zH,zI])
  exact q1k ⟨rfl,by rw [q1p,hp];rfl⟩
 | false=>
  (try simp only [rwp,hwR,zA,zB,zC,zD,zE,zF,zG,zH,zI])
  have hi:=q7x hp
  rw [hi]
  refine (q4m hT hr).ca q14 ?_
  (try simp only [rwp,hwR,zA,zB,zC,zD,zE,zF,zG,zH,zI,tkC])
  refine (c_fail (nxP T r) 8).ca q14 ?_
  (try simp only [rwp,hwR,zA,zB,zC,zD,zE,zF,zG,zH,zI])
  exact q1k ⟨rfl,by rw [q1p,hp];rfl⟩
theorem c_name {T:List Tk} {r:Rd} {b:Nat} (hT:OkTk T) (hr:InR T r):AFunR nrx85 b [] T r (.str (q2b T r)) (q0k T r):=by
 intro S h
 have hx:=nx_get hr
 have hl:=hT.len
 have hr':r.at'<T.length:=hr
 refine wx85 ?_
 unfold Bx85
 refine (q4m hT hr).ca h ?_
 rw [q0p h]
 have ho:=q71 h
 (try simp only [rwp,hwR,zA,zB,zC,zD,zE,zF,zG,zH,zI,tkC])
 refine q06 (q3h (hT.size _ (List.mem_of_getElem? hx))) ?_
 cases hn:q0v (nxP T r).s with
 | false=>
  (try simp only [rwp,hwR,zA,zB,zC,zD,zE,zF,zG,zH,zI,C85_1])
  have hc:¬ (q0v (nxP T r).s=true∧r.de=0):=by rw [hn];simp
  refine (c_fail (nxP T r) 8).ca h ?_
  (try simp only [rwp,hwR,zA,zB,zC,zD,zE,zF,zG,zH,zI])
  exact q03 ⟨by rw [q2b,if_neg hc],by rw [q0k,if_neg hc]⟩
 | true=>
  (try simp only [rwp,hwR,zA,zB,zC,zD,zE,zF,zG,zH,zI,q08 ho])
  cases a1:decide (r.de=0) with
  | false=>
   have hc:¬ (q0v (nxP T r).s=true∧r.de=0):=fun h=>by rw [decide_eq_true h.2] at a1;cases a1
   (try simp only [rwp,hwR,zA,zB,zC,zD,zE,zF,zG,zH,zI,C85_1])
   refine (c_fail (nxP T r) 8).ca h ?_
   (try simp only [rwp,hwR,zA,zB,zC,zD,zE,zF,zG,zH,zI])
   exact q03 ⟨by rw [q2b,if_neg hc],by rw [q0k,if_neg hc]⟩
  | true=>
   have hc:q0v (nxP T r).s=true∧r.de=0:=⟨hn,of_decide_eq_true a1⟩
   (try simp only [rwp,hwR,zA,zB,zC,zD,zE,zF,zG,zH,zI,C85_1,q08 ho,ho])
   (simp (disch:=omega) only [q04])
   exact q03 ⟨by rw [q2b,if_pos hc],by rw [q0k,if_pos hc];rfl⟩
mutual
def hgt:Ex→Nat
 | .mk _ _ _ ks=>hgtL ks+1
def hgtL:List Ex→Nat
 | []=>0
 | e :: r=>max (hgt e) (hgtL r)
end
mutual
theorem hgt_le:∀ e:Ex,hgt e≤esz e
 | .mk _ _ _ ks=>by
  unfold hgt esz
  have:=hgtL_le ks
  omega
theorem hgtL_le:∀ l:List Ex,hgtL l≤eszL l
 | []=>by simp [hgtL]
 | e :: r=>by
  unfold hgtL eszL
  have h1:=hgt_le e
  have h2:=hgtL_le r
  omega
end
theorem c_Height:∀ (e:Ex),OkE e→esz e≤1125899906842624→AFun PG nrx204 [.agg (exC e)] (.int .i64 (hgt e)):=by
 intro e he
 induction he with
 | mk k n o ks hk hn ho hks ih=>
  intro hsz S
  have hle:=hgt_le (.mk k n o ks)
  rw [hgt] at hle
  refine wx204 ?_
  unfold Bx204
  (try simp only [rwp,hwR,zA,zB,zC,zD,zE,zF,zG,zH,zI,q0d,Ex.kind,Ex.name,Ex.over,Ex.kids])
  refine LoopP.introS (fun p:Nat×Nat=>[(1,.rop [.int .i64 k,.str n,.str o,.sl 4 (ks.map exC)]),(3,.int .i64 p.2),(4,.int .i64 p.1)])
   (fun p S'=>S'=S∧p.1≤ks.length∧max p.2 (hgtL (ks.drop p.1))=hgtL ks) (fun p=>ks.length-p.1) (0,0) ⟨rfl,by omega,by simp⟩ rfl ?_
  rintro ⟨i,m⟩ S1 ⟨rfl,hi,hf⟩ q hq
  dsimp only at hi hf
  (try simp only [rwp,hwR,zA,zB,zC,zD,zE,zF,zG,zH,zI,C204_1])
  (refine q05 (fun hlt=>?_) (fun hlt=>?_)<;>(try simp only [hlc] at hlt))
  ·obtain ⟨x,hx⟩:=q0z hlt
   have hkid:=esz_kid (k:=k) (n:=n) (o:=o) (List.mem_of_getElem? hx)
   rw [q11 hx,hgtL] at hf
   (try simp only [rwp,hwR,zA,zB,zC,zD,zE,zF,zG,zH,zI,hx])
   refine q06 (ih x (List.mem_of_getElem? hx) (by omega)) ?_
   (try simp only [rwp,hwR,zA,zB,zC,zD,zE,zF,zG,zH,zI])
   (refine q05 (fun hc=>?_) (fun hc=>?_)<;>(try simp only [hlc] at hc))
   ·(simp (disch:=omega) only [q04])
    exact q0a rfl (hq (i+1,hgt x) _ ⟨rfl,by dsimp only;omega,by dsimp only;omega⟩ (by dsimp only;omega))
   ·(simp (disch:=omega) only [q04])
    exact q0a rfl (hq (i+1,m) _ ⟨rfl,by dsimp only;omega,by dsimp only;omega⟩ (by dsimp only;omega))
  ·rw [q2u hlt,hgtL] at hf
   have:m=hgtL ks:=by omega
   subst this
   (simp (disch:=omega) only [q04])
   exact q03 ⟨by rw [hgt];rfl,rfl⟩
def twoE (k:Int) (a c:Ex):Ex:=.mk k ⟨#[]⟩ ⟨#[]⟩ [a,c]
def twoR (k:Int) (t:Tk) (a c:Ex) (r:Rd):Rd:=if r.de=0∧12<hgt (twoE k a c) then q45 t 9 r else r
theorem twoE_ok {k:Int} {a c:Ex} (ha:OkE a) (hc:OkE c):OkE (twoE k a c):=.mk k _ _ _ (by simp) (by decide) (by decide) fun e he=>by
 simp at he
 rcases he with rfl | rfl<;>assumption
theorem twoE_sz {k:Int} {a c:Ex}:esz (twoE k a c)=esz a+esz c+1:=by simp [twoE,esz,eszL];omega
theorem c_two {T:List Tk} {r:Rd} {b:Nat} (k:Int) (t:Tk) {a c:Ex} (ha:OkE a) (hc:OkE c) (hsz:r.de=0→esz a+esz c+1≤1125899906842624):AFunR nrx172 b [.int .i64 k,.agg (tkC t),.agg (exC a),.agg (exC c)] T r (.agg (exC (twoE k a c))) (twoR k t a c r):=by
 intro S h
 have ho:=q71 h
 refine wx172 ?_
 unfold Bx172
 (try simp only [rwp,hwR,zA,zB,zC,zD,zE,zF,zG,zH,zI,tkC,q0d])
 intro b2 hb2
 have hne:b2≠b:=q0i hb2 h
 (try simp only [rwp,hwR,zA,zB,zC,zD,zE,zF,zG,zH,zI,q08 ho,if_neg hne,q15])
 have h2:∀ r2,sget (supd (supd S b2 (.cells 51 [.int .i64 0,.str ⟨#[]⟩,.str ⟨#[]⟩,.nils] 4)) b (rdO T r2)) b=some (rdO T r2):=fun r2=>q14
 have hS0:sget (supd S b2 (.cells 51 [.int .i64 0,.str ⟨#[]⟩,.str ⟨#[]⟩,.nils] 4)) b=some (rdO T r):=by rw [q01,if_neg hne];exact h
 have fin:∀ S2 r',q0h S2 b2=some (51,[.int .i64 0,.str ⟨#[]⟩,.str ⟨#[]⟩,.nils],4)→(∀ x,b2≠x→sget S2 x=sget (supd S b (rdO T r')) x)→r'=twoR k t a c r →
   C172_2 (fun ae S'=>ae=.ret (.agg (exC (twoE k a c)))∧S'=supd S b (rdO T (twoR k t a c r))) (.ptr b2 0) (.rop [.int .i64 k,.str ⟨#[]⟩,.str ⟨#[]⟩,.sl 4 [exC a,exC c]]) S2:=by
  intro S2 r' hob hS2 hr'
  unfold C172_2
  have hb2':sget (supd S b (rdO T r')) b2=none:=by rw [q01,if_neg (Ne.symm hne)];exact hb2
  have hsub:Sub (supd S b (rdO T r')) (sdel (supd S2 b2 (.cells 51 [.int .i64 k,.str ⟨#[]⟩,.str ⟨#[]⟩,.sl 4 [exC a,exC c]] 4)) b2):=by
   intro x o hx
   have hxb:b2≠x:=by rintro rfl;rw [hb2'] at hx;cases hx
   rw [q0b,if_neg hxb,q01,if_neg hxb]
   rw [hS2 x hxb];exact hx
  simp only [q0d] at hsub
  (try simp only [rwp,hwR,zA,zB,zC,zD,zE,zF,zG,zH,zI,hob,q0d,q15])
  refine q1d _ hsub ?_
  (try simp only [rwp,hwR,zA,zB,zC,zD,zE,zF,zG,zH,zI])
  refine ⟨?_,by rw [hr']⟩
  simp only [twoE,Ex.kind,Ex.name,Ex.over,Ex.kids,List.map_cons,List.map_nil,q0d]
 simp only [q0d] at fin
 cases a1:decide (r.de=0) with
 | false=>
  (try simp only [rwp,hwR,zA,zB,zC,zD,zE,zF,zG,zH,zI,C172_1])
  refine fin _ r q0f (fun x hx=>by rw [q01,if_neg hx,q0p h]) ?_
  rw [twoR,if_neg (fun h=>by rw [decide_eq_true h.1] at a1;cases a1)]
 | true=>
  have hde:=of_decide_eq_true a1
  (try simp only [rwp,hwR,zA,zB,zC,zD,zE,zF,zG,zH,zI])
  have hH:=c_Height (twoE k a c) (twoE_ok ha hc) (by rw [twoE_sz];exact hsz hde)
  simp only [twoE,q0d,Ex.kind,Ex.name,Ex.over,Ex.kids,List.map_cons,List.map_nil] at hH
  refine q06 hH ?_
  (try simp only [rwp,hwR,zA,zB,zC,zD,zE,zF,zG,zH,zI,C172_1])
  (refine q05 (fun hg=>?_) (fun hg=>?_)<;>(try simp only [hlc] at hg))
  ·refine (c_fail t 9).ca hS0 ?_
   refine fin _ (q45 t 9 r) (by rw [q0e (Ne.symm hne)];exact q0f) (fun x hx=>?_) ?_
   ·rw [q01,q01,q01,if_neg hx]
   ·rw [twoR,if_pos ⟨hde,by simp only [twoE];omega⟩]
  ·refine fin _ r q0f (fun x hx=>by rw [q01,if_neg hx,q0p h]) ?_
   rw [twoR,if_neg (fun h=>by have:=h.2;simp only [twoE] at this;omega)]
def q85:Ex:=.mk 0 ⟨#[]⟩ ⟨#[]⟩ []
def sLP:ByteArray:=⟨#[40]⟩
def sRP:ByteArray:=⟨#[41]⟩
def sDot:ByteArray:=⟨#[46]⟩
def q23 (T:List Tk) (ex:Rd→Ex×Rd) (r:Rd):Ex×Rd:=
 if isP T sLP r then
  (if 12<r.op+1 then (q85,q45 (nxP T r) 9 { isR T sLP r with op:=r.op+1 })
  else ((ex { isR T sLP r with op:=r.op+1 }).1,{ q1p T sRP (ex { isR T sLP r with op:=r.op+1 }).2 with op:=(q1p T sRP (ex { isR T sLP r with op:=r.op+1 }).2).op-1 }))
 else if isP T sDot (q0k T r) then (.mk 1 (q2b T r) (q2b T (isR T sDot (q0k T r))) [],q0k T (isR T sDot (q0k T r)))
 else (.mk 0 (q2b T r) ⟨#[]⟩ [],q0k T r)
def opL (T:List Tk) (tk:ByteArray→Option Int) (sub:Rd→Ex×Rd):Nat→Ex×Rd→Ex×Rd
 | 0,p=>p
 | f+1,(e,r)=>if r.de=0 then (match tk (nxP T r).s with
   | some k=>opL T tk sub f (twoE k e (sub { r with at':=r.at'+1 }).1,twoR k (nxP T r) e (sub { r with at':=r.at'+1 }).1 (sub { r with at':=r.at'+1 }).2)
   | none=>(e,r)) else (e,r)
def termK (s:ByteArray):Option Int:=if s=⟨#[38]⟩ then some 3 else none
def q89 (s:ByteArray):Option Int:=if s=⟨#[43]⟩ then some 2 else if s=⟨#[45]⟩ then some 4 else none
def q2f (T:List Tk) (ex:Rd→Ex×Rd) (r:Rd):Ex×Rd:=opL T termK (q23 T ex) T.length (q23 T ex r)
def q40 (T:List Tk) (ex:Rd→Ex×Rd) (r:Rd):Ex×Rd:=opL T q89 (q2f T ex) T.length (q2f T ex r)
def exprP (T:List Tk):Nat→Rd→Ex×Rd
 | 0=>q40 T fun r=>(q85,r)
 | n+1=>q40 T (exprP T n)
structure Pre (T:List Tk) (n:Nat) (r:Rd):Prop where
 inr:InR T r
 op0:0≤r.op
 op13:r.op≤13
 ok:r.de=0→r.op≤12∧12≤r.op+n
structure StepR (T:List Tk) (r r':Rd) (w:Nat):Prop where
 inr:InR T r'
 mono:r.at'≤r'.at'
 fault:r'.de=0→r.de=0
 op1:r.op≤r'.op
 op2:r'.op≤13
 op:r'.de=0→r'.op=r.op
 sz:r'.de=0→w+r.at'≤r'.at'
theorem StepR.pre {T:List Tk} {r r':Rd} {n w:Nat} (h:StepR T r r' w) (hp:Pre T n r):Pre T n r':=
 ⟨h.inr,by have:=hp.op0;have:=h.op1;omega,h.op2,fun h0=>by have h1:=h.op h0;rw [h1];exact hp.ok (h.fault h0)⟩
theorem StepR.trans {T:List Tk} {r r1 r2:Rd} {w1 w2:Nat} (h:StepR T r r1 w1) (k:StepR T r1 r2 w2):StepR T r r2 (w1+w2):=
 ⟨k.inr,Nat.le_trans h.mono k.mono,fun h0=>h.fault (k.fault h0),by have:=h.op1;have:=k.op1;omega,k.op2,fun h0=>(k.op h0).trans (h.op (k.fault h0)),fun h0=>by have:=h.sz (k.fault h0);have:=k.sz h0;omega⟩
theorem StepR.le {T:List Tk} {r r1:Rd} {w w':Nat} (h:StepR T r r1 w) (hw:w'≤w):StepR T r r1 w':=
 ⟨h.inr,h.mono,h.fault,h.op1,h.op2,h.op,fun h0=>by have:=h.sz h0;omega⟩
theorem StepR.refl {T:List Tk} {r:Rd} {n:Nat} (hp:Pre T n r):StepR T r r 0:=⟨hp.inr,Nat.le_refl _,id,Int.le_refl _,hp.op13,fun _=>rfl,fun _=>by omega⟩
theorem more_in {T:List Tk} (hT:OkTk T) {r:Rd} (hr:InR T r) (h1:(nxP T r).s≠⟨#[]⟩) (h2:(nxP T r).s≠⟨#[63]⟩):r.at'+1<T.length:=by
 have hx:=nx_get hr
 unfold InR at hr
 rcases Nat.lt_or_ge (r.at'+1) T.length with h | h
 ·exact h
 ·have e:T.length-1=r.at':=by omega
  have:=hT.last (nxP T r) (by rw [e];exact hx)
  rcases this with h3 | h3
  ·exact absurd h3 h1
  ·exact absurd h3 h2
theorem adv {T:List Tk} (hT:OkTk T) {r:Rd} {n:Nat} (hp:Pre T n r) (h1:(nxP T r).s≠⟨#[]⟩) (h2:(nxP T r).s≠⟨#[63]⟩):StepR T r { r with at':=r.at'+1 } 1:=
 ⟨more_in hT hp.inr h1 h2,Nat.le_succ _,id,Int.le_refl _,hp.op13,fun _=>rfl,fun _=>by dsimp only;omega⟩
theorem fail_any {T:List Tk} {r r1:Rd} (t:Tk) {e:Int} (he:e≠0) (w':Nat) (h1:InR T r1) (h2:r.at'≤r1.at') (h3:r.op≤r1.op) (h4:r1.op≤13):StepR T r (q45 t e r1) w':=by
 have hne:¬ (q45 t e r1).de=0:=by
  unfold q45
  split
  ·exact he
  ·assumption
 have e1:(q45 t e r1).at'=r1.at':=by unfold q45;split<;>rfl
 have e2:(q45 t e r1).op=r1.op:=by unfold q45;split<;>rfl
 exact ⟨by unfold InR;rw [e1];exact h1,by rw [e1];exact h2,fun h0=>absurd h0 hne,by rw [e2];exact h3,by rw [e2];exact h4,fun h0=>absurd h0 hne,fun h0=>absurd h0 hne⟩
theorem q6f {T:List Tk} {r r1:Rd} {w:Nat} (t:Tk) {e:Int} (he:e≠0) (w':Nat) (h:StepR T r r1 w):StepR T r (q45 t e r1) w':=fail_any t he w' h.inr h.mono h.op1 h.op2
theorem is_true {T:List Tk} {s:ByteArray} {r:Rd} (h:isP T s r=true):r.de=0∧(nxP T r).s=s:=by
 unfold isP at h
 simpa using h
theorem q28 {T:List Tk} (hT:OkTk T) {s:ByteArray} {r:Rd} {n:Nat} (hp:Pre T n r) (h:isP T s r=true) (h1:s≠⟨#[]⟩) (h2:s≠⟨#[63]⟩):StepR T r (isR T s r) 1:=by
 obtain ⟨-,h4⟩:=is_true h
 rw [isR,if_pos h]
 exact adv hT hp (by rw [h4];exact h1) (by rw [h4];exact h2)
theorem q3n {T:List Tk} (hT:OkTk T) {s:ByteArray} {r:Rd} {n:Nat} (hp:Pre T n r) (h1:s≠⟨#[]⟩) (h2:s≠⟨#[63]⟩):StepR T r (q1p T s r) 1:=by
 unfold q1p
 cases h:isP T s r with
 | true=>rw [if_pos rfl];exact q28 hT hp h h1 h2
 | false=>rw [if_neg (by simp)];exact q6f _ (by decide) 1 (StepR.refl hp)
theorem name_some {s:ByteArray} (h:q0v s=true):s≠⟨#[]⟩∧s≠⟨#[63]⟩:=by
 constructor
 ·rintro rfl
  revert h
  decide +kernel
 ·rintro rfl
  revert h
  decide +kernel
theorem q1o {T:List Tk} (hT:OkTk T) {r:Rd} {n:Nat} (hp:Pre T n r):StepR T r (q0k T r) 1:=by
 unfold q0k
 split
 ·rename_i h
  obtain ⟨h1,h2⟩:=name_some h.1
  exact adv hT hp h1 h2
 ·exact q6f _ (by decide) 1 (StepR.refl hp)
theorem q2c {T:List Tk} (hT:OkTk T) {r:Rd} (hr:InR T r):(q2b T r).size≤1125899906842624:=by
 unfold q2b
 split
 ·exact hT.size _ (List.mem_of_getElem? (nx_get hr))
 ·exact Nat.zero_le _
theorem q3d {T:List Tk} {r r1:Rd} {w:Nat} (k:Int) (t:Tk) (a c:Ex) (h:StepR T r r1 w):StepR T r (twoR k t a c r1) w:=by
 unfold twoR
 split
 ·exact q6f _ (by decide) w h
 ·exact h
structure ExSt (T:List Tk) (r:Rd) (p:Ex×Rd):Prop where
 st:StepR T r p.2 (esz p.1)
 ok:OkE p.1
theorem q64 {k:Int} {n o:ByteArray} (hn:n.size≤1125899906842624) (ho:o.size≤1125899906842624):OkE (.mk k n o []):=.mk k n o [] (by simp) hn ho fun e he=>by (cases he)
theorem esz_leaf {k:Int} {n o:ByteArray}:esz (.mk k n o [])=1:=by simp [esz,eszL]
def Inner (T:List Tk) (n:Nat) (ex:Rd→Ex×Rd):Prop:=∀ m,n=m+1→∀ r,Pre T m r→ExSt T r (ex r)
theorem lp_pre {T:List Tk} (hT:OkTk T) {n:Nat} {r:Rd} (hp:Pre T n r) (h:isP T sLP r=true) (h12:¬ 12<r.op+1):∃ m,n=m+1∧Pre T m { isR T sLP r with op:=r.op+1 }:=by
 obtain ⟨h1,h2⟩:=is_true h
 obtain ⟨k1,k2⟩:=hp.ok h1
 have hs:=q28 hT hp h (by decide +kernel) (by decide +kernel)
 refine ⟨n-1,by omega,hs.inr,?_,?_,fun _=>?_⟩
 ·have:=hp.op0;dsimp only;omega
 ·dsimp only;omega
 ·dsimp only;omega
theorem atom_ok {T:List Tk} (hT:OkTk T) {n:Nat} {ex:Rd→Ex×Rd} (hex:Inner T n ex) {r:Rd} (hp:Pre T n r):ExSt T r (q23 T ex r):=by
 unfold q23
 split
 ·rename_i h
  have hs:=q28 hT hp h (by decide +kernel) (by decide +kernel)
  obtain ⟨h1,h2⟩:=is_true h
  split
  ·rename_i h12
   have h5:r.op=12:=by have:=(hp.ok h1).1;omega
   refine ⟨?_,q64 (Nat.zero_le _) (Nat.zero_le _)⟩
   exact fail_any _ (by decide) _ hs.inr hs.mono (by dsimp only;omega) (by dsimp only;omega)
  ·rename_i h12
   obtain ⟨m,hm,hp2⟩:=lp_pre hT hp h h12
   have he:=hex m hm _ hp2
   generalize ex { isR T sLP r with op:=r.op+1 }=q at he
   obtain ⟨e,r3⟩:=q
   have hp3:=he.st.pre hp2
   have hm2:=q3n hT hp3 (s:=sRP) (by decide +kernel) (by decide +kernel)
   have h6:=he.st.trans hm2
   dsimp only at h6 ⊢
   refine ⟨⟨h6.inr,?_,fun h0=>?_,?_,?_,fun h0=>?_,fun h0=>?_⟩,he.ok⟩
   ·have:=hs.mono;have:=h6.mono;dsimp only at *;omega
   ·exact hs.fault (h6.fault h0)
   ·have:=h6.op1;dsimp only at *;omega
   ·have:=h6.op2;dsimp only at *;omega
   ·have:=h6.op h0;dsimp only at *;omega
   ·have h7:=h6.sz h0
    have h8:=hs.mono
    dsimp only at *;omega
 ·have hn:=q1o hT hp
  have hpn:=hn.pre hp
  split
  ·rename_i h
   have h1:=q28 hT hpn h (by decide +kernel) (by decide +kernel)
   have hp1:=h1.pre hpn
   have h2:=q1o hT hp1
   refine ⟨?_,q64 (q2c hT hp.inr) (q2c hT hp1.inr)⟩
   rw [esz_leaf]
   exact ((hn.trans h1).trans h2).le (by omega)
  ·refine ⟨?_,q64 (q2c hT hp.inr) (Nat.zero_le _)⟩
   rw [esz_leaf]
   exact hn
def Signs (tk:ByteArray→Option Int):Prop:=tk ⟨#[]⟩=none∧tk ⟨#[63]⟩=none
theorem opL_ok {T:List Tk} (hT:OkTk T) {n:Nat} {tk:ByteArray→Option Int} (htk:Signs tk) {sub:Rd→Ex×Rd} (hsub:∀ r,Pre T n r→ExSt T r (sub r)) {r0:Rd} (hp0:Pre T n r0):∀ {f:Nat} {p:Ex×Rd},ExSt T r0 p→ExSt T r0 (opL T tk sub f p)
 | 0,p,h=>h
 | f+1,(e,r),h=>by
  unfold opL
  split
  ·rename_i h0
   split
   ·rename_i k hk
    have hp:=h.st.pre hp0
    have ha:=adv hT hp (fun h1=>by rw [h1,htk.1] at hk;cases hk) (fun h1=>by rw [h1,htk.2] at hk;cases hk)
    have hs:=hsub _ (ha.pre hp)
    refine opL_ok hT htk hsub hp0 ⟨q3d _ _ _ _ ?_,twoE_ok h.ok hs.ok⟩
    have hst:=h.st
    have hss:=hs.st
    dsimp only at hst ha hss ⊢
    rw [twoE_sz]
    exact ((hst.trans ha).trans hss).le (by omega)
   ·exact h
  ·exact h
theorem signs_term:Signs termK:=⟨by decide +kernel,by decide +kernel⟩
theorem signs_expr:Signs q89:=⟨by decide +kernel,by decide +kernel⟩
theorem term_ok {T:List Tk} (hT:OkTk T) {n:Nat} {ex:Rd→Ex×Rd} (hex:Inner T n ex) {r:Rd} (hp:Pre T n r):ExSt T r (q2f T ex r):=opL_ok hT signs_term (fun _ h=>atom_ok hT hex h) hp (atom_ok hT hex hp)
theorem exprOf_ok {T:List Tk} (hT:OkTk T) {n:Nat} {ex:Rd→Ex×Rd} (hex:Inner T n ex) {r:Rd} (hp:Pre T n r):ExSt T r (q40 T ex r):=opL_ok hT signs_expr (fun _ h=>term_ok hT hex h) hp (term_ok hT hex hp)
theorem expr_ok {T:List Tk} (hT:OkTk T):∀ {n:Nat} {r:Rd},Pre T n r→ExSt T r (exprP T n r)
 | 0,r,hp=>exprOf_ok hT (fun m h=>by omega) hp
 | n+1,r,hp=>exprOf_ok hT (fun m h r hr=>by
  have:n=m:=by omega
  subst this
  exact expr_ok hT hr) hp
set_option maxRecDepth 4000
theorem sub_both {S S1:q00} (h:Sub S S1) (b:Nat) (o:AObj):Sub (supd S b o) (supd S1 b o):=by
 intro x y hx
 rw [q01] at hx ⊢
 split
 ·rename_i hb;rw [if_pos hb] at hx;exact hx
 ·rename_i hb;rw [if_neg hb] at hx;exact h x y hx
theorem sub_cell {S:q00} {b b2:Nat} {o x y:AObj} (hb2:sget S b2=none) (hne:b2≠b):Sub (supd S b o) (supd (supd (supd S b2 x) b o) b2 y):=
 Sub.supd (by rw [q01,if_neg (Ne.symm hne)];exact hb2) (sub_both (Sub.fresh x hb2) b o)
theorem rd_lit {T:List Tk} {a:Nat} {o x y z:Int}:(AObj.cells 145 [.sl 3 (T.map tkC),.int .i64 a,.int .i64 o,.int .i64 x,.int .i64 y,.int .i64 z] 6)=rdO T ⟨a,o,x,y,z⟩:=rfl
abbrev c41:AObj:=.cells 51 [.int .i64 0,.str ⟨#[]⟩,.str ⟨#[]⟩,.nils] 4
def InnerW (T:List Tk) (n b:Nat) (ex:Rd→Ex×Rd):Prop:=∀ m,n=m+1→∀ r,Pre T m r→AFunR nrx132 b [] T r (.agg (exC (ex r).1)) (ex r).2
theorem c_atom {T:List Tk} (hT:OkTk T) {n b:Nat} {ex:Rd→Ex×Rd} (hex:Inner T n ex) (hexW:InnerW T n b ex) {r:Rd} (hp:Pre T n r):AFunR nrx203 b [] T r (.agg (exC (q23 T ex r).1)) (q23 T ex r).2:=by
 intro S h
 have hl:=hT.len
 have hr':r.at'<T.length:=hp.inr
 have h0:=hp.op0
 have h13:=hp.op13
 refine wx203 ?_
 unfold Bx203
 intro b2 hb2
 have hne:b2≠b:=q0i hb2 h
 have hS0:sget (supd S b2 c41) b=some (rdO T r):=by rw [q01,if_neg hne];exact h
 refine (q4m hT hp.inr).ca hS0 ?_
 rw [q0p hS0]
 (try simp only [rwp,hwR,zA,zB,zC,zD,zE,zF,zG,zH,zI,tkC])
 refine (c_is hT hp.inr sLP).ca hS0 ?_
 have fin:∀ (k:Int) (s o:ByteArray) (v:AV) (e:Ex) (r':Rd),e=.mk k s o e.kids→q23 T ex r=(e,r')→(v=.nils∧e.kids=[]∨v=.sl 4 (e.kids.map exC)) →
   rtW [.cell (.ptr b2 0) 4 true] (fun ae S'=>ae=.ret (.agg (exC (q23 T ex r).1))∧S'=supd S b (rdO T (q23 T ex r).2)) (supd (supd (supd S b2 c41) b (rdO T r')) b2 (.cells 51 [.int .i64 k,.str s,.str o,v] 4)):=by
  intro k s o v e r' he0 he hv
  rw [he]
  refine rtW_fr (supd S b (rdO T r')) (.agg (exC e)) (sub_cell hb2 hne) ?_ ⟨rfl,rfl⟩
  rw [he0,q0d]
  (try simp only [rwp,hwR,zA,zB,zC,zD,zE,zF,zG,zH,zI])
  refine .ag (.cons (.same _) (.cons (.same _) (.cons (.same _) (.cons ?_ .nil))))
  rcases hv with ⟨rfl,h2⟩ | rfl
  ·rw [Ex.kids,h2];exact .nils 4
  ·exact .same _
 have hob:∀ o,q0h (supd (supd S b2 c41) b o) b2=some (51,[.int .i64 0,.str ⟨#[]⟩,.str ⟨#[]⟩,.nils],4):=fun o=>by rw [q0e (Ne.symm hne)];exact q0f
 cases hi:isP T sLP r with
 | true=>
  have hs:=q28 hT hp hi (by decide +kernel) (by decide +kernel)
  have hir:isR T sLP r={ r with at':=r.at'+1 }:=by rw [isR,if_pos hi]
  (try simp only [rwp,hwR,zA,zB,zC,zD,zE,zF,zG,zH,zI,q08 (q71 q14),q71 q14,hir])
  rw [q04 (by omega) (by omega)]
  simp only [rd_lit]
  (refine q05 (fun h12=>?_) (fun h12=>?_)<;>(try simp only [hlc] at h12))
  ·refine (c_fail (nxP T r) 9).ca q14 ?_
   (try simp only [rwp,hwR,zA,zB,zC,zD,zE,zF,zG,zH,zI,hob])
   refine fin 0 _ _ _ q85 _ rfl ?_ (.inl ⟨rfl,rfl⟩)
   rw [q23,if_pos hi,if_pos h12,hir]
  ·obtain ⟨m,hm,hp2⟩:=lp_pre hT hp hi h12
   have he:=hex m hm _ hp2
   rw [hir] at hp2 he
   refine (hexW m hm _ hp2).ca q14 ?_
   have hat:q23 T ex r=((ex { r with at':=r.at'+1,op:=r.op+1 }).1,{ q1p T sRP (ex { r with at':=r.at'+1,op:=r.op+1 }).2 with op:=(q1p T sRP (ex { r with at':=r.at'+1,op:=r.op+1 }).2).op-1 }):=by
    rw [q23,if_pos hi,if_neg h12,hir]
   generalize ex { r with at':=r.at'+1,op:=r.op+1 }=q at he hat
   obtain ⟨e,r3⟩:=q
   have hp3:=he.st.pre hp2
   have hm2:=q3n hT hp3 (s:=sRP) (by decide +kernel) (by decide +kernel)
   have hp4:=hm2.pre hp3
   have o1:=hp4.op0
   have o2:=hp4.op13
   dsimp only at o1 o2
   (try simp only [rwp,hwR,zA,zB,zC,zD,zE,zF,zG,zH,zI,q0d])
   refine (c_must hT hp3.inr sRP).ca q14 ?_
   (try simp only [rwp,hwR,zA,zB,zC,zD,zE,zF,zG,zH,zI,q08 (q71 q14),q71 q14])
   rw [q04 (by omega) (by omega)]
   simp only [rd_lit]
   (try simp only [rwp,hwR,zA,zB,zC,zD,zE,zF,zG,zH,zI,hob,if_neg (Ne.symm hne)])
   have hf:=fin e.kind e.name e.over _ e _ (by cases e;rfl) hat (.inr rfl)
   simp only [q0d] at hf
   exact hf
 | false=>
  rw [q7x hi]
  have hn:=q1o hT hp
  have hpn:=hn.pre hp
  (try simp only [rwp,hwR,zA,zB,zC,zD,zE,zF,zG,zH,zI])
  refine (c_name hT hp.inr).ca q14 ?_
  (try simp only [rwp,hwR,zA,zB,zC,zD,zE,zF,zG,zH,zI])
  refine (c_is hT hpn.inr sDot).ca q14 ?_
  cases hd:isP T sDot (q0k T r) with
  | true=>
   have h1:=q28 hT hpn hd (by decide +kernel) (by decide +kernel)
   have hp1:=h1.pre hpn
   (try simp only [rwp,hwR,zA,zB,zC,zD,zE,zF,zG,zH,zI])
   refine (c_name hT hp1.inr).ca q14 ?_
   (try simp only [rwp,hwR,zA,zB,zC,zD,zE,zF,zG,zH,zI,hob])
   refine fin _ _ _ _ (.mk 1 (q2b T r) (q2b T (isR T sDot (q0k T r))) []) _ rfl ?_ (.inl ⟨rfl,rfl⟩)
   rw [q23,if_neg (by rw [hi];simp),if_pos hd]
  | false=>
   rw [q7x hd]
   (try simp only [rwp,hwR,zA,zB,zC,zD,zE,zF,zG,zH,zI,hob])
   refine fin _ _ _ _ (.mk 0 (q2b T r) ⟨#[]⟩ []) _ rfl ?_ (.inl ⟨rfl,rfl⟩)
   rw [q23,if_neg (by rw [hi];simp),if_neg (by rw [hd];simp)]
theorem opL_stop {T:List Tk} {tk:ByteArray→Option Int} {sub:Rd→Ex×Rd} {f:Nat} {p:Ex×Rd} (h:¬ (p.2.de=0∧(tk (nxP T p.2).s).isSome=true)):opL T tk sub f p=p:=by
 cases f with
 | zero=>rfl
 | succ f=>
  obtain ⟨e,r⟩:=p
  unfold opL
  split
  ·rename_i h0
   split
   ·rename_i k hk
    exact absurd ⟨h0,by rw [hk];rfl⟩ h
   ·rfl
  ·rfl
theorem opL_more {T:List Tk} (hT:OkTk T) {n:Nat} {tk:ByteArray→Option Int} (htk:Signs tk) {sub:Rd→Ex×Rd} (hsub:∀ r,Pre T n r→ExSt T r (sub r)):∀ {f g:Nat} {p:Ex×Rd},Pre T n p.2→T.length≤f+p.2.at'→T.length≤g+p.2.at'→opL T tk sub f p=opL T tk sub g p
 | 0,g,p,hp,h1,h2=>by have h3:p.2.at'<T.length:=hp.inr;omega
 | f+1,0,p,hp,h1,h2=>by have h3:p.2.at'<T.length:=hp.inr;omega
 | f+1,g+1,(e,r),hp,h1,h2=>by
  dsimp only at h1 h2
  unfold opL
  split
  ·rename_i h0
   split
   ·rename_i k hk
    have ha:=adv hT hp (fun h1=>by rw [h1,htk.1] at hk;cases hk) (fun h1=>by rw [h1,htk.2] at hk;cases hk)
    have hs:=hsub _ (ha.pre hp)
    have h5:=q3d k (nxP T r) e (sub { r with at':=r.at'+1 }).1 hs.st
    have h6:=h5.mono
    dsimp only at h6 hp
    exact opL_more hT htk hsub (h5.pre (ha.pre hp)) (by dsimp only;omega) (by dsimp only;omega)
   ·rfl
  ·rfl
structure TrI (S:q00) (b b2 b3:Nat) (T:List Tk) (p:Ex×Rd) (S':q00):Prop where
 rd:sget S' b=some (rdO T p.2)
 c3:sget S' b3=some (.cells 51 (exC p.1) 4)
 c2:sget S' b2=some c41
 oth:∀ x,b≠x→b3≠x→b2≠x→sget S' x=sget S x
theorem TrI.step {S S':q00} {b b2 b3:Nat} {T:List Tk} {p:Ex×Rd} (h:TrI S b b2 b3 T p S') (n1:b2≠b) (n2:b3≠b) (n3:b3≠b2) (e:Ex) (r':Rd):TrI S b b2 b3 T (e,r') (supd (supd S' b (rdO T r')) b3 (.cells 51 (exC e) 4)):=
 ⟨by rw [q01,if_neg n2,q01,if_pos rfl],by rw [q01,if_pos rfl],by rw [q01,if_neg n3,q01,if_neg (Ne.symm n1)];exact h.c2,fun x h1 h2 h3=>by rw [q01,if_neg h2,q01,if_neg h1];exact h.oth x h1 h2 h3⟩
theorem TrI.sub {S S':q00} {b b2 b3:Nat} {T:List Tk} {p:Ex×Rd} (h:TrI S b b2 b3 T p S') (n1:b2≠b) (n2:b3≠b) (n3:b3≠b2) (k2:sget S b2=none) (k3:sget S b3=none) (o:AObj):Sub (supd S b (rdO T p.2)) (sdel (supd S' b2 o) b2):=by
 intro x y hx
 have h2:b2≠x:=by
  rintro rfl
  rw [q01,if_neg (Ne.symm n1),k2] at hx;cases hx
 have h3:b3≠x:=by
  rintro rfl
  rw [q01,if_neg (Ne.symm n2),k3] at hx;cases hx
 rw [q0b,if_neg h2,q01,if_neg h2]
 rw [q01] at hx
 by_cases hb:b=x
 ·subst hb;rw [if_pos rfl] at hx;rw [h.rd];exact hx
 ·rw [if_neg hb] at hx;rw [h.oth x hb h3 h2];exact hx
theorem c_term {T:List Tk} (hT:OkTk T) {n b:Nat} {ex:Rd→Ex×Rd} (hex:Inner T n ex) (hexW:InnerW T n b ex) {r:Rd} (hp:Pre T n r):AFunR nrx171 b [] T r (.agg (exC (q2f T ex r).1)) (q2f T ex r).2:=by
 intro S h
 have hl:=hT.len
 refine wx171 ?_
 unfold Bx171
 intro b2 hb2
 have n1:b2≠b:=q0i hb2 h
 have hS0:sget (supd S b2 c41) b=some (rdO T r):=by rw [q01,if_neg n1];exact h
 (try simp only [rwp,hwR,zA,zB,zC,zD,zE,zF,zG,zH,zI])
 refine (c_atom hT hex hexW hp).ca hS0 ?_
 intro b3 hb3
 have n2:b3≠b:=q0i hb3 q14
 have n3:b3≠b2:=q0i hb3 (x:=c41) (by rw [q01,if_neg (Ne.symm n1),q01,if_pos rfl])
 have k3:sget S b3=none:=by rw [q01,if_neg (Ne.symm n2),q01,if_neg (Ne.symm n3)] at hb3;exact hb3
 have hI0:TrI S b b2 b3 T (q23 T ex r) (supd (supd (supd S b2 c41) b (rdO T (q23 T ex r).2)) b3 (.cells 51 (exC (q23 T ex r).1) 4)):=
  ⟨by rw [q01,if_neg n2,q01,if_pos rfl],by rw [q01,if_pos rfl],by rw [q01,if_neg n3,q01,if_neg (Ne.symm n1),q01,if_pos rfl],fun x h1 h2 h3=>by rw [q01,if_neg h2,q01,if_neg h1,q01,if_neg h3]⟩
 have hat:=atom_ok hT hex hp
 have hfin:opL T termK (q23 T ex) T.length (q23 T ex r)=q2f T ex r:=rfl
 simp only [q0d] at hI0
 (try simp only [rwp,hwR,zA,zB,zC,zD,zE,zF,zG,zH,zI,q0d,q15])
 rw [← q0d]
 simp only [← q0d] at hI0
 generalize q23 T ex r=p0 at hI0 hat hfin
 refine LoopP.introS (fun _:Ex×Rd=>[(0,.ptr b 0),(2,.ptr b2 0),(3,.ptr b3 0)])
  (fun p S'=>TrI S b b2 b3 T p S'∧ExSt T r p∧opL T termK (q23 T ex) T.length p=q2f T ex r) (fun p=>T.length-p.2.at') p0 ⟨by simpa only [q0d] using hI0,hat,hfin⟩ rfl ?_
 clear hI0 hat hfin
 rintro ⟨e,r1⟩ S1 ⟨hI,hE,hf⟩ q hq
 have hp1:=hE.st.pre hp
 have hin:r1.at'<T.length:=hp1.inr
 have ho:=q71 hI.rd
 (try simp only [rwp,hwR,zA,zB,zC,zD,zE,zF,zG,zH,zI,C171_1,q08 ho])
 have stop:¬ (r1.de=0∧(termK (nxP T r1).s).isSome=true)→C171_2 (fun ae S'=>ae=.ret (.agg (exC (q2f T ex r).1))∧S'=supd S b (rdO T (q2f T ex r).2)) q (.ptr b 0) (.ptr b2 0) (.ptr b3 0) (.bool false) S1:=fun hn=>by
  rw [opL_stop hn] at hf
  rw [← hf]
  unfold C171_2
  have hsub:=hI.sub n1 n2 n3 hb2 k3
  have hc3:=objAt_some.2 hI.c3
  have hc2:=objAt_some.2 hI.c2
  simp only [q0d] at hc3
  (try simp only [rwp,hwR,zA,zB,zC,zD,zE,zF,zG,zH,zI,q08 hc3,hc2,q0d,q15])
  refine q1d _ (hsub _) ?_
  (try simp only [rwp,hwR,zA,zB,zC,zD,zE,zF,zG,zH,zI,q0d])
 cases a1:decide (r1.de=0) with
 | false=>
  (try simp only [rwp,hwR,zA,zB,zC,zD,zE,zF,zG,zH,zI])
  exact stop fun h=>by rw [decide_eq_true h.1] at a1;cases a1
 | true=>
  have hde:r1.de=0:=of_decide_eq_true a1
  (try simp only [rwp,hwR,zA,zB,zC,zD,zE,zF,zG,zH,zI])
  refine (q4m hT hp1.inr).ca hI.rd ?_
  rw [q0p hI.rd]
  (try simp only [rwp,hwR,zA,zB,zC,zD,zE,zF,zG,zH,zI,tkC])
  cases a2:decide ((nxP T r1).s=⟨#[38]⟩) with
  | false=>
   (try simp only [rwp,hwR,zA,zB,zC,zD,zE,zF,zG,zH,zI])
   exact stop fun h=>by
    have:=of_decide_eq_false a2
    rw [termK,if_neg this] at h
    cases h.2
  | true=>
   have hk:termK (nxP T r1).s=some 3:=by rw [termK,if_pos (of_decide_eq_true a2)]
   have ha:=adv hT hp1 (fun h1=>by rw [h1] at hk;revert hk;decide +kernel) (fun h1=>by rw [h1] at hk;revert hk;decide +kernel)
   have hpa:=ha.pre hp1
   have hs:=atom_ok hT hex hpa
   have hps:=hs.st.pre hpa
   have hfu:opL T termK (q23 T ex) T.length (twoE 3 e (q23 T ex { r1 with at':=r1.at'+1 }).1,twoR 3 (nxP T r1) e (q23 T ex { r1 with at':=r1.at'+1 }).1 (q23 T ex { r1 with at':=r1.at'+1 }).2)=q2f T ex r:=by
    rw [← hf]
    obtain ⟨m,hm⟩:∃ m,T.length=m+1:=⟨T.length-1,by omega⟩
    have h5:=q3d 3 (nxP T r1) e (q23 T ex { r1 with at':=r1.at'+1 }).1 hs.st
    have h6:=h5.mono
    dsimp only at h6
    conv=>rhs;rw [hm,opL,if_pos hde]
    simp only [hk]
    exact opL_more hT signs_term (fun _ h=>atom_ok hT hex h) (h5.pre hpa) (by dsimp only;omega) (by dsimp only;omega)
   have hE2:ExSt T r (twoE 3 e (q23 T ex { r1 with at':=r1.at'+1 }).1,twoR 3 (nxP T r1) e (q23 T ex { r1 with at':=r1.at'+1 }).1 (q23 T ex { r1 with at':=r1.at'+1 }).2):=by
    refine ⟨q3d _ _ _ _ ?_,twoE_ok hE.ok hs.ok⟩
    have hst:=hE.st
    have hss:=hs.st
    dsimp only at hst ha hss ⊢
    rw [twoE_sz]
    exact ((hst.trans ha).trans hss).le (by omega)
   have hmu:r1.at'+1≤(twoR 3 (nxP T r1) e (q23 T ex { r1 with at':=r1.at'+1 }).1 (q23 T ex { r1 with at':=r1.at'+1 }).2).at':=(q3d 3 (nxP T r1) e _ hs.st).mono
   (try simp only [rwp,hwR,zA,zB,zC,zD,zE,zF,zG,zH,zI,C171_2])
   refine (q4m hT hp1.inr).ca hI.rd ?_
   rw [q0p hI.rd]
   (try simp only [rwp,hwR,zA,zB,zC,zD,zE,zF,zG,zH,zI,tkC,q08 ho,ho])
   (simp (disch:=omega) only [q04])
   rw [show ((r1.at':Int)+1)=((r1.at'+1:Nat):Int) from rfl]
   simp only [rd_lit]
   refine (c_atom hT hex hexW hpa).ca q14 ?_
   generalize q23 T ex { r1 with at':=r1.at'+1 }=p2 at hs hps hfu hE2 hmu
   obtain ⟨c,r2⟩:=p2
   have hbd:r2.de=0→esz e+esz c+1≤1125899906842624:=fun h0=>by
    have h7:=hs.st.sz h0
    have h8:=hE.st.sz (ha.fault (hs.st.fault h0))
    have h9:r2.at'<T.length:=hps.inr
    dsimp only at h7 h8
    omega
   have htwo:=c_two (T:=T) (r:=r2) (b:=b) 3 (nxP T r1) hE.ok hs.ok hbd
   dsimp only at htwo hfu hE2 hmu
   have c3:∀ r',q0h (supd S1 b (rdO T r')) b3=some (51,exC e,4):=fun r'=>by rw [q0e (Ne.symm n2)];exact objAt_some.2 hI.c3
   have st:=hI.step n1 n2 n3 (twoE 3 e c) (twoR 3 (nxP T r1) e c r2)
   simp only [q0d] at c3 st
   (try simp only [rwp,hwR,zA,zB,zC,zD,zE,zF,zG,zH,zI,q0d,q08 (c3 r2)])
   simp only [← q0d]
   refine htwo.ca q14 ?_
   generalize twoE 3 e c=e3 at hfu hE2 st ⊢
   generalize twoR 3 (nxP T r1) e c r2=r3 at hfu hE2 st c3 hmu ⊢
   (try simp only [rwp,hwR,zA,zB,zC,zD,zE,zF,zG,zH,zI,q0d,c3 r3,q15])
   exact q0a rfl (hq (e3,r3) _ ⟨by simpa only [q0d] using st,hE2,hfu⟩ (by dsimp only;omega))
set_option maxRecDepth 4000
theorem c_exprOf {T:List Tk} (hT:OkTk T) {n b:Nat} {ex:Rd→Ex×Rd} (hex:Inner T n ex) (hexW:InnerW T n b ex) {r:Rd} (hp:Pre T n r):AFunR nrx132 b [] T r (.agg (exC (q40 T ex r).1)) (q40 T ex r).2:=by
 intro S h
 have hl:=hT.len
 refine wx132 ?_
 unfold Bx132
 intro b2 hb2
 have n1:b2≠b:=q0i hb2 h
 have hS0:sget (supd S b2 c41) b=some (rdO T r):=by rw [q01,if_neg n1];exact h
 (try simp only [rwp,hwR,zA,zB,zC,zD,zE,zF,zG,zH,zI])
 refine (c_term hT hex hexW hp).ca hS0 ?_
 intro b3 hb3
 have n2:b3≠b:=q0i hb3 q14
 have n3:b3≠b2:=q0i hb3 (x:=c41) (by rw [q01,if_neg (Ne.symm n1),q01,if_pos rfl])
 have k3:sget S b3=none:=by rw [q01,if_neg (Ne.symm n2),q01,if_neg (Ne.symm n3)] at hb3;exact hb3
 have hI0:TrI S b b2 b3 T (q2f T ex r) (supd (supd (supd S b2 c41) b (rdO T (q2f T ex r).2)) b3 (.cells 51 (exC (q2f T ex r).1) 4)):=
  ⟨by rw [q01,if_neg n2,q01,if_pos rfl],by rw [q01,if_pos rfl],by rw [q01,if_neg n3,q01,if_neg (Ne.symm n1),q01,if_pos rfl],fun x h1 h2 h3=>by rw [q01,if_neg h2,q01,if_neg h1,q01,if_neg h3]⟩
 have hat:=term_ok hT hex hp
 have hfin:opL T q89 (q2f T ex) T.length (q2f T ex r)=q40 T ex r:=rfl
 simp only [q0d] at hI0
 (try simp only [rwp,hwR,zA,zB,zC,zD,zE,zF,zG,zH,zI,q0d,q15])
 rw [← q0d]
 simp only [← q0d] at hI0
 generalize q2f T ex r=p0 at hI0 hat hfin
 refine LoopP.introS (fun _:Ex×Rd=>[(0,.ptr b 0),(2,.ptr b2 0),(3,.ptr b3 0)])
  (fun p S'=>TrI S b b2 b3 T p S'∧ExSt T r p∧opL T q89 (q2f T ex) T.length p=q40 T ex r) (fun p=>T.length-p.2.at') p0 ⟨by simpa only [q0d] using hI0,hat,hfin⟩ rfl ?_
 clear hI0 hat hfin
 rintro ⟨e,r1⟩ S1 ⟨hI,hE,hf⟩ q hq
 have hp1:=hE.st.pre hp
 have hin:r1.at'<T.length:=hp1.inr
 have ho:=q71 hI.rd
 (try simp only [rwp,hwR,zA,zB,zC,zD,zE,zF,zG,zH,zI,C132_1,q08 ho])
 have stop:¬ (r1.de=0∧(q89 (nxP T r1).s).isSome=true)→C132_4 (fun ae S'=>ae=.ret (.agg (exC (q40 T ex r).1))∧S'=supd S b (rdO T (q40 T ex r).2)) q (.ptr b 0) (.ptr b2 0) (.ptr b3 0) (.bool false) S1:=fun hn=>by
  rw [opL_stop hn] at hf
  rw [← hf]
  unfold C132_4
  have hsub:=hI.sub n1 n2 n3 hb2 k3
  have hc3:=objAt_some.2 hI.c3
  have hc2:=objAt_some.2 hI.c2
  simp only [q0d] at hc3
  (try simp only [rwp,hwR,zA,zB,zC,zD,zE,zF,zG,zH,zI,q08 hc3,hc2,q0d,q15])
  refine q1d _ (hsub _) ?_
  (try simp only [rwp,hwR,zA,zB,zC,zD,zE,zF,zG,zH,zI,q0d])
 cases a1:decide (r1.de=0) with
 | false=>
  (try simp only [rwp,hwR,zA,zB,zC,zD,zE,zF,zG,zH,zI,C132_2,C132_3])
  exact stop fun h=>by rw [decide_eq_true h.1] at a1;cases a1
 | true=>
  have hde:r1.de=0:=of_decide_eq_true a1
  (try simp only [rwp,hwR,zA,zB,zC,zD,zE,zF,zG,zH,zI])
  refine (q4m hT hp1.inr).ca hI.rd ?_
  rw [q0p hI.rd]
  (try simp only [rwp,hwR,zA,zB,zC,zD,zE,zF,zG,zH,zI,tkC])
  have low:∀ k:Int,q89 (nxP T r1).s=some k→C132_5 (fun ae S'=>ae=.ret (.agg (exC (q40 T ex r).1))∧S'=supd S b (rdO T (q40 T ex r).2)) q (.ptr b 0) (.ptr b2 0) (.ptr b3 0) (.rop (tkC (nxP T r1))) (.int .i64 k) S1:=by
   intro k hk
   have ha:=adv hT hp1 (fun h1=>by rw [h1,signs_expr.1] at hk;cases hk) (fun h1=>by rw [h1,signs_expr.2] at hk;cases hk)
   have hpa:=ha.pre hp1
   have hs:=term_ok hT hex hpa
   have hps:=hs.st.pre hpa
   have hfu:opL T q89 (q2f T ex) T.length (twoE k e (q2f T ex { r1 with at':=r1.at'+1 }).1,twoR k (nxP T r1) e (q2f T ex { r1 with at':=r1.at'+1 }).1 (q2f T ex { r1 with at':=r1.at'+1 }).2)=q40 T ex r:=by
    rw [← hf]
    obtain ⟨m,hm⟩:∃ m,T.length=m+1:=⟨T.length-1,by omega⟩
    have h5:=q3d k (nxP T r1) e (q2f T ex { r1 with at':=r1.at'+1 }).1 hs.st
    have h6:=h5.mono
    dsimp only at h6
    conv=>rhs;rw [hm,opL,if_pos hde]
    simp only [hk]
    exact opL_more hT signs_expr (fun _ h=>term_ok hT hex h) (h5.pre hpa) (by dsimp only;omega) (by dsimp only;omega)
   have hE2:ExSt T r (twoE k e (q2f T ex { r1 with at':=r1.at'+1 }).1,twoR k (nxP T r1) e (q2f T ex { r1 with at':=r1.at'+1 }).1 (q2f T ex { r1 with at':=r1.at'+1 }).2):=by
    refine ⟨q3d _ _ _ _ ?_,twoE_ok hE.ok hs.ok⟩
    have hst:=hE.st
    have hss:=hs.st
    dsimp only at hst ha hss ⊢
    rw [twoE_sz]
    exact ((hst.trans ha).trans hss).le (by omega)
   have hmu:r1.at'+1≤(twoR k (nxP T r1) e (q2f T ex { r1 with at':=r1.at'+1 }).1 (q2f T ex { r1 with at':=r1.at'+1 }).2).at':=(q3d k (nxP T r1) e _ hs.st).mono
   unfold C132_5
   (try simp only [rwp,hwR,zA,zB,zC,zD,zE,zF,zG,zH,zI,tkC,q08 ho,ho])
   (simp (disch:=omega) only [q04])
   rw [show ((r1.at':Int)+1)=((r1.at'+1:Nat):Int) from rfl]
   simp only [rd_lit]
   refine (c_term hT hex hexW hpa).ca q14 ?_
   generalize q2f T ex { r1 with at':=r1.at'+1 }=p2 at hs hps hfu hE2 hmu
   obtain ⟨c,r2⟩:=p2
   have hbd:r2.de=0→esz e+esz c+1≤1125899906842624:=fun h0=>by
    have h7:=hs.st.sz h0
    have h8:=hE.st.sz (ha.fault (hs.st.fault h0))
    have h9:r2.at'<T.length:=hps.inr
    dsimp only at h7 h8
    omega
   have htwo:=c_two (T:=T) (r:=r2) (b:=b) k (nxP T r1) hE.ok hs.ok hbd
   dsimp only at htwo hfu hE2 hmu
   have c3:∀ r',q0h (supd S1 b (rdO T r')) b3=some (51,exC e,4):=fun r'=>by rw [q0e (Ne.symm n2)];exact objAt_some.2 hI.c3
   have st:=hI.step n1 n2 n3 (twoE k e c) (twoR k (nxP T r1) e c r2)
   simp only [q0d] at c3 st
   (try simp only [rwp,hwR,zA,zB,zC,zD,zE,zF,zG,zH,zI,q0d,q08 (c3 r2)])
   simp only [← q0d]
   refine htwo.ca q14 ?_
   generalize twoE k e c=e3 at hfu hE2 st ⊢
   generalize twoR k (nxP T r1) e c r2=r3 at hfu hE2 st c3 hmu ⊢
   (try simp only [rwp,hwR,zA,zB,zC,zD,zE,zF,zG,zH,zI,q0d,c3 r3,q15])
   exact q0a rfl (hq (e3,r3) _ ⟨by simpa only [q0d] using st,hE2,hfu⟩ (by dsimp only;omega))
  simp only [tkC] at low
  cases a2:decide ((nxP T r1).s=⟨#[43]⟩) with
  | true=>
   have e2:=of_decide_eq_true a2
   have hk:q89 (nxP T r1).s=some 2:=by rw [q89,if_pos e2]
   have e3:decide ((nxP T r1).s=⟨#[45]⟩)=false:=by rw [e2];decide +kernel
   (try simp only [rwp,hwR,zA,zB,zC,zD,zE,zF,zG,zH,zI,C132_2,C132_3,C132_4])
   refine (q4m hT hp1.inr).ca hI.rd ?_
   rw [q0p hI.rd]
   (try simp only [rwp,hwR,zA,zB,zC,zD,zE,zF,zG,zH,zI,tkC,e3])
   exact low 2 hk
  | false=>
   (try simp only [rwp,hwR,zA,zB,zC,zD,zE,zF,zG,zH,zI,C132_2])
   refine (q4m hT hp1.inr).ca hI.rd ?_
   rw [q0p hI.rd]
   (try simp only [rwp,hwR,zA,zB,zC,zD,zE,zF,zG,zH,zI,tkC])
   cases a3:decide ((nxP T r1).s=⟨#[45]⟩) with
   | true=>
    have hk:q89 (nxP T r1).s=some 4:=by rw [q89,if_neg (of_decide_eq_false a2),if_pos (of_decide_eq_true a3)]
    (try simp only [rwp,hwR,zA,zB,zC,zD,zE,zF,zG,zH,zI,C132_3,C132_4])
    refine (q4m hT hp1.inr).ca hI.rd ?_
    rw [q0p hI.rd]
    (try simp only [rwp,hwR,zA,zB,zC,zD,zE,zF,zG,zH,zI,tkC,a3])
    exact low 4 hk
   | false=>
    (try simp only [rwp,hwR,zA,zB,zC,zD,zE,zF,zG,zH,zI,C132_3])
    exact stop fun h=>by
     have h1:=of_decide_eq_false a2
     have h2:=of_decide_eq_false a3
     rw [q89,if_neg h1,if_neg h2] at h
     cases h.2
theorem c_expr {T:List Tk} (hT:OkTk T) {b:Nat}:∀ {n:Nat} {r:Rd},Pre T n r→AFunR nrx132 b [] T r (.agg (exC (exprP T n r).1)) (exprP T n r).2
 | 0,r,hp=>c_exprOf hT (fun m h=>by omega) (fun m h=>by omega) hp
 | n+1,r,hp=>c_exprOf hT (fun m h r hr=>by
   have:n=m:=by omega
   subst this
   exact expr_ok hT hr) (fun m h r hr=>by
   have:n=m:=by omega
   subst this
   exact c_expr hT hr) hp
def sHash:ByteArray:=⟨#[35]⟩
def sBar:ByteArray:=⟨#[124]⟩
def q13:ByteArray:=⟨#[58]⟩
def refP (T:List Tk) (r:Rd):Rf×Rd:=
 if isP T sHash (q0k T r) then (⟨q2b T r,q2b T (isR T sHash (q0k T r))⟩,q0k T (isR T sHash (q0k T r)))
 else (⟨q2b T r,⟨#[]⟩⟩,q0k T r)
def q44 (T:List Tk):Nat→List Rf×Rd→List Rf×Rd
 | 0,p=>p
 | f+1,(l,r)=>if isP T sBar r then q44 T f (l++[(refP T (isR T sBar r)).1],(refP T (isR T sBar r)).2) else (l,r)
def relP (T:List Tk) (r:Rd):(Rl×Bool)×Rd:=
 if isP T q0c r then
  ((⟨q2b T (isR T q0c r),(q44 T T.length ([(refP T (q1p T q13 (q0k T (isR T q0c r)))).1],(refP T (q1p T q13 (q0k T (isR T q0c r)))).2)).1,q85⟩,true),
   (q44 T T.length ([(refP T (q1p T q13 (q0k T (isR T q0c r)))).1],(refP T (q1p T q13 (q0k T (isR T q0c r)))).2)).2)
 else if isP T q17 r then
  ((⟨q2b T (isR T q17 r),[],(exprP T 12 (q1p T q13 (q0k T (isR T q17 r)))).1⟩,true),(exprP T 12 (q1p T q13 (q0k T (isR T q17 r)))).2)
 else ((⟨⟨#[]⟩,[],q85⟩,false),r)
def q3b (T:List Tk):Nat→List Rl×Rd→List Rl×Rd
 | 0,p=>p
 | f+1,(l,r)=>if (relP T r).1.2=true then q3b T f (l++[(relP T r).1.1],(relP T r).2) else (l,(relP T r).2)
def q20 (T:List Tk):Nat→List Ty×Rd→List Ty×Rd
 | 0,p=>p
 | f+1,(l,r)=>if isP T q1x r then
   q20 T f (l++[⟨q2b T (isR T q1x r),(q3b T T.length ([],q0k T (isR T q1x r))).1⟩],(q3b T T.length ([],q0k T (isR T q1x r))).2)
  else (l,r)
def endR (T:List Tk) (r:Rd):Rd:=if r.de=0∧¬ (nxP T r).s=⟨#[]⟩ then q45 (nxP T r) 8 r else r
def rd0:Rd:=⟨0,0,0,0,0⟩
def q61 (T:List Tk):List Ty×AV:=
 if (endR T (q20 T T.length ([],rd0)).2).de=0 then ((q20 T T.length ([],rd0)).1,.agg [.int .i64 0,.int .i64 0,.int .i64 0])
 else ([],.agg [.int .i64 (endR T (q20 T T.length ([],rd0)).2).dl,.int .i64 (endR T (q20 T T.length ([],rd0)).2).dc,.int .i64 (endR T (q20 T T.length ([],rd0)).2).de])
theorem ref_step {T:List Tk} (hT:OkTk T) {r:Rd} {n:Nat} (hp:Pre T n r):StepR T r (refP T r).2 1∧OkF (refP T r).1:=by
 have hn:=q1o hT hp
 have hpn:=hn.pre hp
 unfold refP
 split
 ·rename_i h
  have h1:=q28 hT hpn h (by decide +kernel) (by decide +kernel)
  have hp1:=h1.pre hpn
  have h2:=q1o hT hp1
  exact ⟨((hn.trans h1).trans h2).le (by omega),q2c hT hp.inr,q2c hT hp1.inr⟩
 ·exact ⟨hn,q2c hT hp.inr,Nat.zero_le _⟩
structure RfSt (T:List Tk) (r:Rd) (p:List Rf×Rd):Prop where
 st:StepR T r p.2 p.1.length
 len:p.1.length≤p.2.at'+1
 ok:∀ f∈p.1,OkF f
theorem refs_next {T:List Tk} (hT:OkTk T) {n:Nat} {r0 r:Rd} (hp0:Pre T n r0) {l:List Rf} (h:RfSt T r0 (l,r)) (hi:isP T sBar r=true) :
  RfSt T r0 (l++[(refP T (isR T sBar r)).1],(refP T (isR T sBar r)).2)∧r.at'+1≤(refP T (isR T sBar r)).2.at':=by
 have hp:=h.st.pre hp0
 have h1:=q28 hT hp hi (by decide +kernel) (by decide +kernel)
 obtain ⟨h2,h3⟩:=ref_step hT (h1.pre hp)
 have e1:(isR T sBar r).at'=r.at'+1:=by rw [isR,if_pos hi]
 have h4:=h2.mono
 have h5:=h.len
 dsimp only at h4 h5 e1 h2
 refine ⟨⟨?_,?_,fun f hf=>?_⟩,by omega⟩
 ·have h6:=(h.st.trans h1).trans h2
  exact h6.le (by simp)
 ·simp only [List.length_append,List.length_cons,List.length_nil]
  omega
 ·rcases List.mem_append.1 hf with hf | hf
  ·exact h.ok f hf
  ·rw [List.mem_singleton.1 hf];exact h3
theorem refsL_ok {T:List Tk} (hT:OkTk T) {n:Nat} {r0:Rd} (hp0:Pre T n r0):∀ {f:Nat} {p:List Rf×Rd},RfSt T r0 p→RfSt T r0 (q44 T f p)
 | 0,p,h=>h
 | f+1,(l,r),h=>by
  unfold q44
  split
  ·rename_i hi
   exact refsL_ok hT hp0 (refs_next hT hp0 h hi).1
  ·exact h
theorem refsL_more {T:List Tk} (hT:OkTk T) {n:Nat} {r0:Rd} (hp0:Pre T n r0):∀ {f g:Nat} {p:List Rf×Rd},RfSt T r0 p→T.length≤f+p.2.at'→T.length≤g+p.2.at'→q44 T f p=q44 T g p
 | 0,g,p,h,h1,h2=>by have h3:p.2.at'<T.length:=h.st.inr;omega
 | f+1,0,p,h,h1,h2=>by have h3:p.2.at'<T.length:=h.st.inr;omega
 | f+1,g+1,(l,r),h,h1,h2=>by
  dsimp only at h1 h2
  unfold q44
  split
  ·rename_i hi
   obtain ⟨k1,k2⟩:=refs_next hT hp0 h hi
   exact refsL_more hT hp0 k1 (by dsimp only;omega) (by dsimp only;omega)
  ·rfl
theorem rel_ok {T:List Tk} (hT:OkTk T) {r:Rd} (hp:Pre T 12 r):StepR T r (relP T r).2 (if (relP T r).1.2 then rsz (relP T r).1.1 else 0)∧OkR (relP T r).1.1∧((relP T r).1.2=true→r.at'+1≤(relP T r).2.at'):=by
 unfold relP
 split
 ·rename_i hi
  have h1:=q28 hT hp hi (by decide +kernel) (by decide +kernel)
  have hp1:=h1.pre hp
  have h2:=q1o hT hp1
  have hp2:=h2.pre hp1
  have h3:=q3n hT hp2 (s:=q13) (by decide +kernel) (by decide +kernel)
  have hp3:=h3.pre hp2
  obtain ⟨h4,h5⟩:=ref_step hT hp3
  have hR0:RfSt T (q1p T q13 (q0k T (isR T q0c r))) ([(refP T (q1p T q13 (q0k T (isR T q0c r)))).1],(refP T (q1p T q13 (q0k T (isR T q0c r)))).2):=
   ⟨h4,by simp,fun f hf=>by rw [List.mem_singleton.1 hf];exact h5⟩
  have hR:=refsL_ok hT hp3 (f:=T.length) hR0
  generalize q44 T T.length ([(refP T (q1p T q13 (q0k T (isR T q0c r)))).1],(refP T (q1p T q13 (q0k T (isR T q0c r)))).2)=p at hR
  obtain ⟨l,r'⟩:=p
  have hl:=hR.len
  have hin:r'.at'<T.length:=hR.st.inr
  have hTl:=hT.len
  have e1:(isR T q0c r).at'=r.at'+1:=by rw [isR,if_pos hi]
  refine ⟨?_,⟨q2c hT hp1.inr,?_,hR.ok,q64 (Nat.zero_le _) (Nat.zero_le _)⟩,fun _=>?_⟩
  ·have h6:=((h1.trans h2).trans h3).trans hR.st
   refine h6.le ?_
   simp only [if_true,rsz,q85,esz_leaf]
   omega
  ·dsimp only at hl ⊢;omega
  ·have:=h2.mono;have:=h3.mono;have:=hR.st.mono;dsimp only at *;omega
 ·split
  ·rename_i hi
   have h1:=q28 hT hp hi (by decide +kernel) (by decide +kernel)
   have hp1:=h1.pre hp
   have h2:=q1o hT hp1
   have hp2:=h2.pre hp1
   have h3:=q3n hT hp2 (s:=q13) (by decide +kernel) (by decide +kernel)
   have hp3:=h3.pre hp2
   have h4:=expr_ok hT hp3
   have e1:(isR T q17 r).at'=r.at'+1:=by rw [isR,if_pos hi]
   refine ⟨?_,⟨q2c hT hp1.inr,by simp,fun f hf=>(by cases hf),h4.ok⟩,fun _=>?_⟩
   ·have h6:=((h1.trans h2).trans h3).trans h4.st
    refine h6.le ?_
    simp only [if_true,rsz,List.length_nil]
    omega
   ·have:=h2.mono;have:=h3.mono;have:=h4.st.mono;dsimp only at *;omega
  ·exact ⟨StepR.refl hp,⟨Nat.zero_le _,by simp,fun f hf=>(by cases hf),q64 (Nat.zero_le _) (Nat.zero_le _)⟩,fun h=>by cases h⟩
set_option maxRecDepth 4000
abbrev c53:AObj:=.cells 171 [.str ⟨#[]⟩,.str ⟨#[]⟩] 2
abbrev c43:AObj:=.cells 53 [.str ⟨#[]⟩,.nils,.int .i64 0,.str ⟨#[]⟩,.str ⟨#[]⟩,.nils] 6
theorem c_ref {T:List Tk} (hT:OkTk T) {n b:Nat} {r:Rd} (hp:Pre T n r):AFunR nrx131 b [] T r (.agg (rfC (refP T r).1)) (refP T r).2:=by
 intro S h
 refine wx131 ?_
 unfold Bx131
 intro b2 hb2
 have n1:b2≠b:=q0i hb2 h
 have hS0:sget (supd S b2 c53) b=some (rdO T r):=by rw [q01,if_neg n1];exact h
 have hn:=q1o hT hp
 have hpn:=hn.pre hp
 (try simp only [rwp,hwR,zA,zB,zC,zD,zE,zF,zG,zH,zI])
 refine (c_name hT hp.inr).ca hS0 ?_
 (try simp only [rwp,hwR,zA,zB,zC,zD,zE,zF,zG,zH,zI])
 intro b3 hb3
 have n2:b3≠b:=q0i hb3 q14
 have n3:b3≠b2:=q0i hb3 (x:=c53) (by rw [q01,if_neg (Ne.symm n1),q01,if_pos rfl])
 have k3:sget S b3=none:=by rw [q01,if_neg (Ne.symm n2),q01,if_neg (Ne.symm n3)] at hb3;exact hb3
 (try simp only [rwp,hwR,zA,zB,zC,zD,zE,zF,zG,zH,zI])
 have hrd:∀ o,sget (supd (supd (supd S b2 c53) b (rdO T (q0k T r))) b3 o) b=some (rdO T (q0k T r)):=fun o=>by rw [q01,if_neg n2,q01,if_pos rfl]
 refine (c_is hT hpn.inr sHash).ca (hrd _) ?_
 have fin:∀ (f:Rf) (r':Rd) (S2:q00),refP T r=(f,r')→q0h S2 b3=some (171,rfC f,2)→q0h S2 b2=some (171,[.str ⟨#[]⟩,.str ⟨#[]⟩],2)→(∀ x,b2≠x→b3≠x→sget S2 x=sget (supd S b (rdO T r')) x) →
   C131_1 (fun ae S'=>ae=.ret (.agg (rfC (refP T r).1))∧S'=supd S b (rdO T (refP T r).2)) (.ptr b2 0) (.ptr b3 0) S2:=by
  intro f r' S2 he h3 h2 hS2
  rw [he]
  unfold C131_1
  have hsub:∀ o,Sub (supd S b (rdO T r')) (sdel (supd S2 b2 o) b2):=fun o x y hx=>by
   have e2:b2≠x:=by rintro rfl;rw [q01,if_neg (Ne.symm n1),hb2] at hx;cases hx
   have e3:b3≠x:=by rintro rfl;rw [q01,if_neg (Ne.symm n2),k3] at hx;cases hx
   rw [q0b,if_neg e2,q01,if_neg e2,hS2 x e2 e3]
   exact hx
  simp only [rfC] at h3
  (try simp only [rwp,hwR,zA,zB,zC,zD,zE,zF,zG,zH,zI,q08 h3,h2])
  refine q1d _ (hsub _) ?_
  (try simp only [rwp,hwR,zA,zB,zC,zD,zE,zF,zG,zH,zI,rfC])
 cases hi:isP T sHash (q0k T r) with
 | true=>
  have h1:=q28 hT hpn hi (by decide +kernel) (by decide +kernel)
  have hp1:=h1.pre hpn
  (try simp only [rwp,hwR,zA,zB,zC,zD,zE,zF,zG,zH,zI])
  refine (c_name hT hp1.inr).ca q14 ?_
  have ob3:∀ X cs o,q0h (supd (supd X b3 (.cells 171 cs 2)) b o) b3=some (171,cs,2):=fun X cs o=>by rw [q0e (Ne.symm n2)];exact q0f
  (try simp only [rwp,hwR,zA,zB,zC,zD,zE,zF,zG,zH,zI,ob3])
  refine fin ⟨q2b T r,q2b T (isR T sHash (q0k T r))⟩ (q0k T (isR T sHash (q0k T r))) _ ?_ q0f ?_ fun x e2 e3=>?_
  ·rw [refP,if_pos hi]
  ·rw [q0e n3,q0e (Ne.symm n1),q0e n3,q0e (Ne.symm n1)];exact q0f
  ·simp only [q01,if_neg e2,if_neg e3]
   by_cases hb:b=x
   ·subst hb;simp
   ·simp [hb]
 | false=>
  rw [q7x hi]
  (try simp only [rwp,hwR,zA,zB,zC,zD,zE,zF,zG,zH,zI])
  refine fin ⟨q2b T r,⟨#[]⟩⟩ (q0k T r) _ ?_ ?_ ?_ fun x e2 e3=>?_
  ·rw [refP,if_neg (by rw [hi];simp)]
  ·rw [q0e (Ne.symm n2)];exact q0f
  ·rw [q0e (Ne.symm n1),q0e n3,q0e (Ne.symm n1)];exact q0f
  ·simp only [q01,if_neg e2,if_neg e3]
   by_cases hb:b=x
   ·subst hb;simp
   ·simp [hb]
structure RlI (S:q00) (b b2 b4:Nat) (T:List Tk) (name:ByteArray) (p:List Rf×Rd) (S':q00):Prop where
 rd:sget S' b=some (rdO T p.2)
 c2:sget S' b2=some c43
 c4:∃ v,sget S' b4=some (.cells 53 [.str name,v,.int .i64 0,.str ⟨#[]⟩,.str ⟨#[]⟩,.nils] 6)∧LstN (sdel S b) S' 171 2 v (p.1.map rfC)∧q0n v b∧q0n v b2∧q0n v b4
 sub:Sub (sdel S b) S'
theorem LstN.base2 {S S':q00} {b t sz:Nat} {v:AV} {rows:List (List AV)} {o:AObj} (h:LstN (sdel S b) S' t sz v rows) (ha:q0n v b):LstN (supd S b o) S' t sz v rows:=by
 obtain ⟨hr,h⟩:=h
 refine ⟨hr,?_⟩
 rcases h with h | ⟨c,cap,rfl,h1,h2⟩
 ·exact .inl h
 ·refine .inr ⟨c,cap,rfl,?_,h2⟩
  have:=ha c 0 _ _ rfl
  rw [q0b,if_neg this] at h1
  rw [q01,if_neg this]
  exact h1
theorem q2z {c:Nat}:q0n .nils c:=fun b off n cap h=>by cases h
theorem kpW_one {S S':q00} {Y:Prop} {b off:Nat} (h:sget S' b=sget S b) (hY:Y):kpW [.ptr b off] S S' Y:=by
 refine ⟨fun v hv c hc=>?_,hY⟩
 rw [List.mem_singleton] at hv
 subst hv
 simp [blk] at hc
 subst hc
 exact h
theorem RlI.more {S S1:q00} {b b2 b4:Nat} {T:List Tk} {name:ByteArray} {l:List Rf} {r r2:Rd} (h:RlI S b b2 b4 T name (l,r) S1) (n1:b2≠b) (n2:b4≠b) (n3:b4≠b2) (k2:sget S b2=none) (k4:sget S b4=none) (hlen:l.length≤100000) (f:Rf) {v:AV} (hv:sget S1 b4=some (.cells 53 [.str name,v,.int .i64 0,.str ⟨#[]⟩,.str ⟨#[]⟩,.nils] 6)) {K:q00→Prop} (hK:∀ S3,RlI S b b2 b4 T name (l++[f],r2) S3→K S3) :
  apW (supd S1 b (rdO T r2)) 171 2 32 v (.sl 2 [[.str f.ty,.str f.rl]]) fun v' S2=>soW (q0h S2 b4) S2 1 b4 1 v' K:=by
 obtain ⟨hrd,hc2,⟨v0,hv0,hl,a1,a2,a4⟩,hsub⟩:=h
 rw [hv] at hv0
 cases hv0
 dsimp only at hl hrd
 have hb0:sget (sdel S b) b=none:=by rw [q0b,if_pos rfl]
 have hb4:sget (sdel S b) b4=none:=by rw [q0b,if_neg (Ne.symm n2)];exact k4
 refine (hl.upd a1 (rdO T r2)).app (hsub.supd hb0) (xs:=[[.str f.ty,.str f.rl]]) (fun r hr=>by rw [List.mem_singleton] at hr;subst hr;rfl) rfl (by simp;omega) ?_
 intro v' S2 h1 h2 h3
 obtain ⟨q1,q2⟩:=h3 b (rdO T r2) (by rw [q01,if_pos rfl]) a1
 obtain ⟨q3,q4⟩:=h3 b4 _ (by rw [q01,if_neg (Ne.symm n2)];exact hv) a4
 obtain ⟨q5,q6⟩:=h3 b2 _ (by rw [q01,if_neg (Ne.symm n1)];exact hc2) a2
 rw [objAt_some.2 q3,q2t]
 have hone:=h2.one
 have hac:q09 v'=[v']:=by cases v'<;>first | rfl | cases hone
 rw [hac]
 refine ⟨rfl,by simp,by simp [ones,hone],hK _ ⟨?_,?_,⟨v',?_,?_,q2,q6,q4⟩,?_⟩⟩
 ·rw [q01,if_neg n2];exact q1
 ·rw [q01,if_neg n3];exact q5
 ·rw [q01,if_pos rfl];rfl
 ·simpa [rfC] using h2.upd q4 _
 ·exact h1.supd hb4
theorem sub_del {S:q00} {b:Nat} {T:List Tk} {S2:q00} {r':Rd} {b2:Nat} {o:AObj} (h:Sub (sdel S b) S2) (hb:sget S2 b=some (rdO T r')) (k2:sget S b2=none) (n1:b2≠b):Sub (supd S b (rdO T r')) (supd S2 b2 o):=by
 intro x y hx
 have e2:b2≠x:=by rintro rfl;rw [q01,if_neg (Ne.symm n1),k2] at hx;cases hx
 rw [q01,if_neg e2]
 rw [q01] at hx
 by_cases hbx:b=x
 ·subst hbx;rw [if_pos rfl] at hx;rw [hb];exact hx
 ·rw [if_neg hbx] at hx
  exact h x y (by rw [q0b,if_neg hbx];exact hx)
theorem c_rel {T:List Tk} (hT:OkTk T) {b:Nat} {r:Rd} (hp:Pre T 12 r):AFunR nrx86 b [] T r (.tup [.agg (rlC (relP T r).1.1),.bool (relP T r).1.2]) (relP T r).2:=by
 intro S h
 have hTl:=hT.len
 refine wx86 ?_
 unfold Bx86
 intro b2 hb2
 have n1:b2≠b:=q0i hb2 h
 (try simp only [rwp,hwR,zA,zB,zC,zD,zE,zF,zG,zH,zI])
 intro b4 hb4
 have n2:b4≠b:=q0i hb4 (x:=rdO T r) (by rw [q01,if_neg n1];exact h)
 have n3:b4≠b2:=q0i hb4 (x:=c43) (by rw [q01,if_pos rfl])
 have k4:sget S b4=none:=by rw [q01,if_neg (Ne.symm n3)] at hb4;exact hb4
 have m1:=Ne.symm n1
 have m2:=Ne.symm n2
 have m3:=Ne.symm n3
 (try simp only [rwp,hwR,zA,zB,zC,zD,zE,zF,zG,zH,zI])
 have fin:∀ (x:Rl) (ok:Bool) (r':Rd) (S2:q00) (n:ByteArray) (v:AV) (k:Int) (a o:ByteArray) (w:AV),relP T r=((x,ok),r')→sget S2 b=some (rdO T r')→Sub (sdel S b) S2 →
   Frs (supd S b (rdO T r')) (supd S2 b2 (.cells 53 [.str n,v,.int .i64 k,.str a,.str o,w] 6)) [.str n,v,.int .i64 k,.str a,.str o,w] (rlC x) →
   rtW [.cell (.ptr b2 0) 6 true,.tmp (.bool ok)] (fun ae S'=>ae=.ret (.tup [.agg (rlC (relP T r).1.1),.bool (relP T r).1.2])∧S'=supd S b (rdO T (relP T r).2)) (supd S2 b2 (.cells 53 [.str n,v,.int .i64 k,.str a,.str o,w] 6)):=by
  intro x ok r' S2 n v k a o w he hb hsub hfr
  rw [he]
  refine rtW_fr (supd S b (rdO T r')) (.tup [.agg (rlC x),.bool ok]) (sub_del hsub hb hb2 n1) ?_ ⟨rfl,rfl⟩
  (try simp only [rwp,hwR,zA,zB,zC,zD,zE,zF,zG,zH,zI])
  exact .tu (.cons (.ag hfr) (.cons (.same _) .nil))
 have hS0:sget (supd (supd S b2 c43) b4 c43) b=some (rdO T r):=by rw [q01,if_neg n2,q01,if_neg n1];exact h
 have hsub0:Sub (sdel S b) (supd (supd S b2 c43) b4 c43):=by
  intro x y hx
  have hbx:b≠x:=by rintro rfl;rw [q0b,if_pos rfl] at hx;cases hx
  rw [q0b,if_neg hbx] at hx
  rw [q01,if_neg (q0i k4 hx),q01,if_neg (q0i hb2 hx)]
  exact hx
 refine (c_is hT hp.inr q0c).ca hS0 ?_
 cases hi:isP T q0c r with
 | true=>
  have h1:=q28 hT hp hi (by decide +kernel) (by decide +kernel)
  have hp1:=h1.pre hp
  have h2:=q1o hT hp1
  have hp2:=h2.pre hp1
  have h3:=q3n hT hp2 (s:=q13) (by decide +kernel) (by decide +kernel)
  have hp3:=h3.pre hp2
  obtain ⟨h4,h5⟩:=ref_step hT hp3
  (try simp only [rwp,hwR,zA,zB,zC,zD,zE,zF,zG,zH,zI])
  refine (c_name hT hp1.inr).ca q14 ?_
  have ob4:∀ X cs o,q0h (supd (supd X b4 (.cells 53 cs 6)) b o) b4=some (53,cs,6):=fun X cs o=>by rw [q0e m2];exact q0f
  (try simp only [rwp,hwR,zA,zB,zC,zD,zE,zF,zG,zH,zI,ob4])
  have hrd:∀ X cs r',sget (supd (supd X b (rdO T r')) b4 (.cells 53 cs 6)) b=some (rdO T r'):=fun X cs r'=>by rw [q01,if_neg n2];exact q14
  refine (c_must hT hp2.inr q13).ca (hrd _ _ _) ?_
  (try simp only [rwp,hwR,zA,zB,zC,zD,zE,zF,zG,zH,zI,q08 (ob4 _ _ _)])
  refine (c_ref hT hp3).ca q14 ?_
  refine kpW_one (by rw [q01,if_neg m2]) ?_
  refine ⟨⟨rfl,rfl⟩,?_⟩
  have hI0:RlI S b b2 b4 T (q2b T (isR T q0c r)) ([],q1p T q13 (q0k T (isR T q0c r)))
    (supd (supd (supd (supd (supd S b2 c43) b4 c43) b (rdO T (q0k T (isR T q0c r)))) b4 (.cells 53 [.str (q2b T (isR T q0c r)),.nils,.int .i64 0,.str ⟨#[]⟩,.str ⟨#[]⟩,.nils] 6)) b (rdO T (q1p T q13 (q0k T (isR T q0c r))))):=by
   refine ⟨q14,?_,⟨.nils,?_,.nil,q2z,q2z,q2z⟩,?_⟩
   ·simp [q01,m1,m2,m3,n1,n2,n3]
   ·simp [q01,m1,m2,m3,n1,n2,n3]
   ·have hb0:sget (sdel S b) b=none:=by rw [q0b,if_pos rfl]
    have hb4':sget (sdel S b) b4=none:=by rw [q0b,if_neg m2];exact k4
    exact ((hsub0.supd hb0).supd hb4').supd hb0
  have hrel:relP T r=((⟨q2b T (isR T q0c r),(q44 T T.length ([(refP T (q1p T q13 (q0k T (isR T q0c r)))).1],(refP T (q1p T q13 (q0k T (isR T q0c r)))).2)).1,q85⟩,true),(q44 T T.length ([(refP T (q1p T q13 (q0k T (isR T q0c r)))).1],(refP T (q1p T q13 (q0k T (isR T q0c r)))).2)).2):=by
   rw [relP,if_pos hi]
  refine hI0.more n1 n2 n3 hb2 k4 (by simp) (refP T (q1p T q13 (q0k T (isR T q0c r)))).1 (r2:=(refP T (q1p T q13 (q0k T (isR T q0c r)))).2) (v:=.nils) ?_ ?_
  ·rw [q01,if_neg m2,q01,if_pos rfl]
  clear hI0
  intro S3 hI
  generalize q2b T (isR T q0c r)=nm at hI hrel
  have hR0:RfSt T (q1p T q13 (q0k T (isR T q0c r))) ([(refP T (q1p T q13 (q0k T (isR T q0c r)))).1],(refP T (q1p T q13 (q0k T (isR T q0c r)))).2):=
   ⟨h4,by simp,fun f hf=>by rw [List.mem_singleton.1 hf];exact h5⟩
  generalize q1p T q13 (q0k T (isR T q0c r))=r3 at hI hrel hp3 hR0
  rw [List.nil_append] at hI
  generalize ([(refP T r3).1],(refP T r3).2)=p0 at hI hrel hR0
  refine LoopP.introS (fun _:List Rf×Rd=>[(0,.ptr b 0),(2,.ptr b2 0),(4,.ptr b4 0)])
   (fun p S'=>RlI S b b2 b4 T nm p S'∧RfSt T r3 p∧q44 T T.length p=q44 T T.length p0) (fun p=>T.length-p.2.at') p0 ⟨hI,hR0,rfl⟩ rfl ?_
  clear hI hR0
  rintro ⟨l,r4⟩ S4 ⟨hI,hR,hf⟩ q hq
  have hp4:=hR.st.pre hp3
  have hin:r4.at'<T.length:=hp4.inr
  have hll:=hR.len
  dsimp only at hll
  have hI':=hI
  obtain ⟨krd,kc2,⟨v,kv,klst,a1,a2,a4⟩,ksub⟩:=hI'
  dsimp only at krd klst
  (try simp only [rwp,hwR,zA,zB,zC,zD,zE,zF,zG,zH,zI,C86_1])
  refine (c_is hT hp4.inr sBar).ca krd ?_
  cases hb:isP T sBar r4 with
  | true=>
   obtain ⟨hR2,hmu⟩:=refs_next hT hp3 hR hb
   have h6:=q28 hT hp4 hb (by decide +kernel) (by decide +kernel)
   have hp6:=h6.pre hp4
   have hob:q0h (supd S4 b (rdO T (isR T sBar r4))) b4=some (53,[.str nm,v,.int .i64 0,.str ⟨#[]⟩,.str ⟨#[]⟩,.nils],6):=by rw [q0e m2];exact objAt_some.2 kv
   have hf2:q44 T T.length (l++[(refP T (isR T sBar r4)).1],(refP T (isR T sBar r4)).2)=q44 T T.length p0:=by
    rw [← hf]
    obtain ⟨m,hm⟩:∃ m,T.length=m+1:=⟨T.length-1,by omega⟩
    conv=>rhs;rw [hm,q44,if_pos hb]
    exact refsL_more hT hp3 hR2 (by dsimp only;omega) (by dsimp only;omega)
   have hI2:RlI S b b2 b4 T nm (l,isR T sBar r4) (supd S4 b (rdO T (isR T sBar r4))):=by
    refine ⟨q14,by rw [q01,if_neg m1];exact kc2,⟨v,by rw [q01,if_neg m2];exact kv,klst.upd a1 _,a1,a2,a4⟩,ksub.supd (by rw [q0b,if_pos rfl])⟩
   (try simp only [rwp,hwR,zA,zB,zC,zD,zE,zF,zG,zH,zI,q08 hob])
   refine (c_ref hT hp6).ca q14 ?_
   refine kpW_one (by rw [q01,if_neg m2]) ?_
   refine ⟨⟨rfl,rfl⟩,?_⟩
   refine hI2.more n1 n2 n3 hb2 k4 (by omega) (refP T (isR T sBar r4)).1 (r2:=(refP T (isR T sBar r4)).2) (v:=v) ?_ ?_
   ·rw [q01,if_neg m2];exact kv
   intro S5 hI5
   exact q0a rfl (hq (l++[(refP T (isR T sBar r4)).1],(refP T (isR T sBar r4)).2) S5 ⟨hI5,hR2,hf2⟩ (by dsimp only;omega))
  | false=>
   rw [q7x hb,q0p krd]
   have hstop:q44 T T.length (l,r4)=(l,r4):=by
    cases T.length with
    | zero=>rfl
    | succ m=>rw [q44,if_neg (by rw [hb];simp)]
   rw [hstop] at hf
   rw [← hf] at hrel
   have ob2:=objAt_some.2 kc2
   have ob4':=objAt_some.2 kv
   have hone:=klst.one
   have hac:q09 v=[v]:=by cases v<;>first | rfl | cases hone
   (try simp only [rwp,hwR,zA,zB,zC,zD,zE,zF,zG,zH,zI,q08 ob4',ob2,q15])
   refine ⟨hone,fin ⟨nm,l,q85⟩ true r4 S4 nm v 0 _ _ _ hrel krd ksub ?_⟩
   rw [q0y]
   exact .cons (.same _) (.cons (Fr.lst ((klst.upd a2 _).base2 a1)) (.cons (.same _) (.cons (.same _) (.cons (.same _) (.cons (.nils 4) .nil)))))
 | false=>
  rw [q7x hi,q0p hS0]
  (try simp only [rwp,hwR,zA,zB,zC,zD,zE,zF,zG,zH,zI])
  refine (c_is hT hp.inr q17).ca hS0 ?_
  cases hd:isP T q17 r with
  | true=>
   have h1:=q28 hT hp hd (by decide +kernel) (by decide +kernel)
   have hp1:=h1.pre hp
   have h2:=q1o hT hp1
   have hp2:=h2.pre hp1
   have h3:=q3n hT hp2 (s:=q13) (by decide +kernel) (by decide +kernel)
   have hp3:=h3.pre hp2
   (try simp only [rwp,hwR,zA,zB,zC,zD,zE,zF,zG,zH,zI])
   refine (c_name hT hp1.inr).ca q14 ?_
   have ob4:∀ X cs o,q0h (supd (supd X b4 (.cells 53 cs 6)) b o) b4=some (53,cs,6):=fun X cs o=>by rw [q0e m2];exact q0f
   (try simp only [rwp,hwR,zA,zB,zC,zD,zE,zF,zG,zH,zI,ob4])
   have hrd:∀ X cs r',sget (supd (supd X b (rdO T r')) b4 (.cells 53 cs 6)) b=some (rdO T r'):=fun X cs r'=>by rw [q01,if_neg n2];exact q14
   refine (c_must hT hp2.inr q13).ca (hrd _ _ _) ?_
   (try simp only [rwp,hwR,zA,zB,zC,zD,zE,zF,zG,zH,zI])
   refine (c_expr hT hp3).ca q14 ?_
   have hrel:relP T r=((⟨q2b T (isR T q17 r),[],(exprP T 12 (q1p T q13 (q0k T (isR T q17 r)))).1⟩,true),(exprP T 12 (q1p T q13 (q0k T (isR T q17 r)))).2):=by
    rw [relP,if_neg (by rw [hi];simp),if_pos hd]
   generalize q2b T (isR T q17 r)=nm at hrel ⊢
   generalize exprP T 12 (q1p T q13 (q0k T (isR T q17 r)))=pe at hrel ⊢
   obtain ⟨e,r5⟩:=pe
   dsimp only at hrel ⊢
   rw [q0j]
   have hb0:sget (sdel S b) b=none:=by rw [q0b,if_pos rfl]
   have hb4':sget (sdel S b) b4=none:=by rw [q0b,if_neg m2];exact k4
   have q1:∀ X cs,sget (supd (supd X b4 (.cells 53 cs 6)) b (rdO T r5)) b=some (rdO T r5):=fun X cs=>q14
   have q2:q0h (supd (supd (supd (supd (supd S b2 c43) b4 c43) b (rdO T (q0k T (isR T q17 r)))) b4 (.cells 53 [.str nm,.nils,.int .i64 0,.str ⟨#[]⟩,.str ⟨#[]⟩,.nils] 6)) b (rdO T r5)) b4=some (53,[.str nm,.nils,.int .i64 0,.str ⟨#[]⟩,.str ⟨#[]⟩,.nils],6):=ob4 _ _ _
   have q3:q0h (supd (supd (supd (supd (supd S b2 c43) b4 c43) b (rdO T (q0k T (isR T q17 r)))) b4 (.cells 53 [.str nm,.nils,.int .i64 0,.str ⟨#[]⟩,.str ⟨#[]⟩,.nils] 6)) b (rdO T r5)) b2=some (53,[.str ⟨#[]⟩,.nils,.int .i64 0,.str ⟨#[]⟩,.str ⟨#[]⟩,.nils],6):=by
    refine objAt_some.2 ?_
    simp [q01,m1,m2,m3,n1,n2,n3]
   have q4:Sub (sdel S b) (supd (supd (supd (supd (supd S b2 c43) b4 c43) b (rdO T (q0k T (isR T q17 r)))) b4 (.cells 53 [.str nm,.nils,.int .i64 0,.str ⟨#[]⟩,.str ⟨#[]⟩,.nils] 6)) b (rdO T r5)):=((hsub0.supd hb0).supd hb4').supd hb0
   have q1:=q1 (supd (supd (supd S b2 c43) b4 c43) b (rdO T (q0k T (isR T q17 r)))) [.str nm,.nils,.int .i64 0,.str ⟨#[]⟩,.str ⟨#[]⟩,.nils]
   generalize supd (supd (supd (supd (supd S b2 c43) b4 c43) b (rdO T (q0k T (isR T q17 r)))) b4 (.cells 53 [.str nm,.nils,.int .i64 0,.str ⟨#[]⟩,.str ⟨#[]⟩,.nils] 6)) b (rdO T r5)=S5 at q1 q2 q3 q4 ⊢
   (try simp only [rwp,hwR,zA,zB,zC,zD,zE,zF,zG,zH,zI,q2,q3,q0d,q15,if_neg n3])
   refine fin ⟨nm,[],e⟩ true r5 _ nm .nils e.kind _ _ _ hrel (by rw [q01,if_neg n2];exact q1) (q4.supd hb4') ?_
   rw [q0y]
   exact .cons (.same _) (.cons (.nils 2) (.cons (.same _) (.cons (.same _) (.cons (.same _) (.cons (.same _) .nil)))))
  | false=>
   rw [q7x hd,q0p hS0]
   have hrel:relP T r=((⟨⟨#[]⟩,[],q85⟩,false),r):=by
    rw [relP,if_neg (by rw [hi];simp),if_neg (by rw [hd];simp)]
   (try simp only [rwp,hwR,zA,zB,zC,zD,zE,zF,zG,zH,zI,if_neg n3,if_neg m3])
   refine fin ⟨⟨#[]⟩,[],q85⟩ false r _ _ .nils 0 _ _ _ hrel hS0 hsub0 ?_
   rw [q0y]
   exact .cons (.same _) (.cons (.nils 2) (.cons (.same _) (.cons (.same _) (.cons (.same _) (.cons (.nils 4) .nil)))))
set_option maxRecDepth 4000
def bl (s:ByteArray):List UInt8:=s.data.toList
def mkB (l:List UInt8):ByteArray:=⟨l.toArray⟩
theorem mkB_bl (s:ByteArray):mkB (bl s)=s:=by cases s;rfl
theorem q4o (s:ByteArray):(bl s).length=s.size:=by cases s;simp [bl,ByteArray.size]
theorem bl_extract (s:ByteArray) (i j:Nat):bl (s.extract i j)=((bl s).take j).drop i:=by
 unfold bl
 rw [ByteArray.data_extract,Array.toList_extract,List.extract_eq_take_drop,List.drop_take]
theorem q4z (s:ByteArray) (i j:Nat):s.extract i j=mkB (((bl s).take j).drop i):=by rw [← bl_extract,mkB_bl]
theorem bl_get (s:ByteArray) (i:Nat):s[i]?=(bl s)[i]?:=q6o s i
def q2p:Nat→List UInt8→Nat
 | _,[]=>0
 | i,c :: r=>if atN i c.toNat then q2p (i+1) r+1 else 0
theorem wordL_le:∀ {l:List UInt8} {i:Nat},q2p i l≤l.length
 | [],i=>by simp [q2p]
 | c :: r,i=>by
  unfold q2p
  have:=wordL_le (l:=r) (i:=i+1)
  split
  ·simp;omega
  ·simp
theorem c_word {s:ByteArray} (hs:s.size≤1125899906842624):AFun PG nrx128 [.str s] (.int .i64 (q2p 0 (bl s))):=by
 intro S
 refine wx128 ?_
 unfold Bx128
 refine LoopP.introS (fun i:Nat=>[(0,.str s),(3,.int .i64 i)]) (fun i S'=>S'=S∧i≤s.size∧q2p 0 (bl s)=i+q2p i ((bl s).drop i)) (fun i=>s.size-i) 0 ⟨rfl,by omega,by simp⟩ rfl ?_
 rintro i S' ⟨rfl,hi,hf⟩ r hr
 cases h0:decide ((i:Int)<s.size) with
 | false=>
  have hd:(bl s).drop i=[]:=List.drop_of_length_le (by rw [q4o];have:=of_decide_eq_false h0;omega)
  rw [hd,q2p] at hf
  (try simp only [rwp,hwR,zA,zB,zC,zD,zE,zF,zG,zH,zI,C128_1,h0,C128_2,C128_3,C128_4,C128_5,C128_6,C128_7,C128_8,C128_9,C128_10,C128_11])
  exact q03 ⟨by rw [hf];rfl,rfl⟩
 | true=>
  have hlt:=of_decide_eq_true h0
  obtain ⟨b,hb⟩:=q3x hlt
  have hd:=q11 (l:=bl s) (by rw [← bl_get];exact hb)
  rw [hd,q2p] at hf
  have ea:atN i b.toNat=((decide (97≤(b.toNat:Int))&&decide ((b.toNat:Int)≤122))||(decide (0<(i:Int))&&(decide ((b.toNat:Int)=95)||(decide (48≤(b.toNat:Int))&&decide ((b.toNat:Int)≤57))))):=by
   have:(!decide ((i:Int)=0))=decide (0<(i:Int)):=by rw [← decide_not];congr 1;exact propext (by omega)
   simp only [atN,q57,digitN,this]
  have good:atN i b.toNat=true→r [(0,.str s),(3,.int .i64 ((i:Int)+1))] S':=fun h=>by
   rw [if_pos h] at hf
   exact hr (i+1) _ ⟨rfl,by omega,by omega⟩ (by omega)
  have bad:atN i b.toNat=false→q2p 0 (bl s)=i:=fun h=>by
   rw [if_neg (by rw [h];simp)] at hf
   exact hf
  cases h1:decide (97≤(b.toNat:Int))<;>cases h2:decide ((b.toNat:Int)≤122)<;>cases h3:decide (0<(i:Int))<;>cases h4:decide ((b.toNat:Int)=95)<;>cases h5:decide (48≤(b.toNat:Int))<;>cases h6:decide ((b.toNat:Int)≤57) <;>
   simp only [h1,h2,h3,h4,h5,h6,Bool.true_and,Bool.false_and,Bool.and_true,Bool.and_false,Bool.or_true,Bool.true_or,Bool.or_false,Bool.false_or,Bool.not_true,Bool.not_false] at ea <;>
   (try simp only [rwp,hwR,zA,zB,zC,zD,zE,zF,zG,zH,zI,C128_1,h0,hb,C128_2,C128_3,C128_4,C128_5,C128_6,C128_7,C128_8,C128_9,C128_10,C128_11,h1,h2,h3,h4,h5,h6]) <;>
   first
    | exact q03 ⟨by rw [bad ea],rfl⟩
    | ((simp (disch:=omega) only [q04]);exact q0a rfl (good ea))
set_option maxRecDepth 4000
def signs:ByteArray:=⟨#[58,124,35,43,45,38,46,40,41]⟩
def signF (c:UInt8):ByteArray:=if c∈[58,124,35,43,45,38,46,40,(41:UInt8)] then mkB [c] else ⟨#[63]⟩
theorem signs_get {i:Nat} {c:UInt8} (h:signs[i]?=some c):c∈[58,124,35,43,45,38,46,40,(41:UInt8)]∧signs.extract i (i+1)=mkB [c]:=by
 rw [bl_get] at h
 have hm:=List.mem_of_getElem? h
 refine ⟨hm,?_⟩
 rw [q4z,List.drop_take,show i+1-i=1 by omega,q11 h]
 rfl
theorem c_sign (c:UInt8):AFun PG nrx129 [.int .u8 c.toNat] (.str (signF c)):=by
 intro S
 refine wx129 ?_
 unfold Bx129
 refine LoopP.introS (fun i:Nat=>[(0,.int .u8 c.toNat),(3,.str signs),(4,.int .i64 i)]) (fun i S'=>S'=S∧i≤9∧∀ j b,j<i→signs[j]?=some b→b≠c) (fun i=>9-i) 0 ⟨rfl,by omega,by omega⟩ rfl ?_
 rintro i S' ⟨rfl,hi,hn⟩ r hr
 have hsz:signs.size=9:=rfl
 (try simp only [rwp,hwR,zA,zB,zC,zD,zE,zF,zG,zH,zI,C129_1,hsz])
 (refine q05 (fun hlt=>?_) (fun hlt=>?_)<;>(try simp only [hlc] at hlt))
 ·obtain ⟨b,hb⟩:=q3x (s:=signs) (i:=i) (by rw [hsz];omega)
  obtain ⟨h1,h2⟩:=signs_get hb
  (try simp only [rwp,hwR,zA,zB,zC,zD,zE,zF,zG,zH,zI,hb])
  (refine q05 (fun he=>?_) (fun he=>?_)<;>(try simp only [hlc] at he))
  ·have hbc:b=c:=UInt8.toNat_inj.1 (by omega)
   subst hbc
   (simp (disch:=omega) only [q04])
   (try simp only [rwp,hwR,zA,zB,zC,zD,zE,zF,zG,zH,zI,hsz])
   refine ⟨by omega,by omega,?_⟩
   rw [show ((i:Int)+1).toNat=i+1 by omega,h2]
   exact q03 ⟨by rw [signF,if_pos h1],rfl⟩
  ·(simp (disch:=omega) only [q04])
   refine q0a rfl (hr (i+1) _ ⟨rfl,by omega,fun j x hj hx=>?_⟩ (by omega))
   rcases Nat.lt_succ_iff_lt_or_eq.1 hj with h | rfl
   ·exact hn j x h hx
   ·rw [hb] at hx;cases hx
    rintro rfl
    exact he rfl
 ·refine q03 ⟨?_,rfl⟩
  rw [signF,if_neg]
  intro hm
  obtain ⟨j,hj⟩:=List.getElem?_of_mem hm
  have h9:signs[j]?=some c:=by rw [bl_get];exact hj
  exact hn j c (by have:=q6n h9;omega) h9 rfl
def tokL:Nat→List UInt8→Nat→Nat→List Tk
 | 0,_,_,_=>[]
 | _+1,[],line,col=>[⟨⟨#[]⟩,line,col⟩]
 | f+1,c :: r,line,col=>
  if c.toNat=32∨c.toNat=9∨c.toNat=10 then tokL f r (if c.toNat=10 then line+1 else line) (if c.toNat=10 then 1 else col+1)
  else if q2p 0 (c :: r)=0 then (if signF c=⟨#[63]⟩ then [⟨⟨#[63]⟩,line,col⟩] else ⟨signF c,line,col⟩ :: tokL f r line (col+1))
  else ⟨mkB ((c :: r).take (q2p 0 (c :: r))),line,col⟩ :: tokL f ((c :: r).drop (q2p 0 (c :: r))) line (col+q2p 0 (c :: r))
def tokT (s:ByteArray):List Tk:=tokL (s.size+1) (bl s) 1 1
theorem c_Tokens {s:ByteArray} (hs:s.size≤4096):AFun PG nrx83 [.str s] (.sl 3 ((tokT s).map tkC)):=by
 intro S
 refine wx83 ?_
 unfold Bx83
 refine LoopP.introS (fun p:AV×Nat×Nat×Nat=>[(0,.str s),(3,p.1),(4,.int .i64 p.2.1),(5,.int .i64 p.2.2.1),(6,.int .i64 p.2.2.2)])
  (fun p S'=>p.2.2.2≤s.size∧p.2.1≤p.2.2.2+1∧p.2.2.1≤p.2.2.2+1∧Sub S S'∧∃ (d:List Tk) (f:Nat),s.size-p.2.2.2<f∧d.length≤p.2.2.2∧LstN S S' 149 3 p.1 (d.map tkC)∧d++tokL f ((bl s).drop p.2.2.2) p.2.1 p.2.2.1=tokT s) (fun p=>s.size-p.2.2.2) (.nils,1,1,0)
  ⟨Nat.zero_le _,Nat.le_refl _,Nat.le_refl _,Sub.refl S,[],s.size+1,by dsimp only;omega,by simp,.nil,rfl⟩ rfl ?_
 rintro ⟨v,line,col,i⟩ S1 ⟨hi,hln,hcl,hs1,d,f,hf,hd,hl,ht⟩ q hq
 dsimp only at hi hln hcl hf hd hl ht
 obtain ⟨f,rfl⟩:∃ m,f=m+1:=⟨f-1,by omega⟩
 (try simp only [rwp,hwR,zA,zB,zC,zD,zE,zF,zG,zH,zI,C83_1])
 (refine q05 (fun hlt=>?_) (fun hlt=>?_)<;>(try simp only [hlc] at hlt))
 ·obtain ⟨c,hc⟩:=q3x hlt
  have hdc:=q11 (l:=bl s) (by rw [← bl_get];exact hc)
  rw [hdc,tokL] at ht
  (try simp only [rwp,hwR,zA,zB,zC,zD,zE,zF,zG,zH,zI,hc])
  have ws:∀ w:Bool,w=(decide (c.toNat=32∨c.toNat=9∨c.toNat=10))→C83_3 (fun ae S'=>ae=.ret (.sl 3 ((tokT s).map tkC))∧S'=S) q (.str s) v (.int .i64 line) (.int .i64 col) (.int .i64 i) (.int .u8 c.toNat) (.bool w) S1:=by
   intro w hw
   unfold C83_3
   cases w with
   | true=>
    have hw:=of_decide_eq_true hw.symm
    rw [if_pos hw] at ht
    cases a3:decide ((c.toNat:Int)=10) with
    | true=>
     have h10:c.toNat=10:=by have:=of_decide_eq_true a3;omega
     rw [if_pos h10,if_pos h10] at ht
     (try simp only [rwp,hwR,zA,zB,zC,zD,zE,zF,zG,zH,zI,a3])
     (simp (disch:=omega) only [q04])
     refine q0a rfl (hq (v,line+1,1,i+1) S1 ⟨by dsimp only;omega,by dsimp only;omega,by dsimp only;omega,hs1,d,f,by dsimp only;omega,by dsimp only;omega,hl,ht⟩ (by dsimp only;omega))
    | false=>
     have h10:¬ c.toNat=10:=by have:=of_decide_eq_false a3;omega
     rw [if_neg h10,if_neg h10] at ht
     (try simp only [rwp,hwR,zA,zB,zC,zD,zE,zF,zG,zH,zI,a3])
     (simp (disch:=omega) only [q04])
     refine q0a rfl (hq (v,line,col+1,i+1) S1 ⟨by dsimp only;omega,by dsimp only;omega,by dsimp only;omega,hs1,d,f,by dsimp only;omega,by dsimp only;omega,hl,ht⟩ (by dsimp only;omega))
   | false=>
    have hw:=of_decide_eq_false hw.symm
    rw [if_neg hw] at ht
    have low:∀ (x:ByteArray) (w:Nat),1≤w→i+w≤s.size→tokT s=d++(if x=⟨#[63]⟩ then [⟨⟨#[63]⟩,line,col⟩] else ⟨x,line,col⟩ :: tokL f ((bl s).drop (i+w)) line (col+w))→C83_4 (fun ae S'=>ae=.ret (.sl 3 ((tokT s).map tkC))∧S'=S) q (.str s) v (.int .i64 line) (.int .i64 col) (.int .i64 i) (.int .i64 w) (.str x) S1:=by
     intro x w hw1 hw2 hx
     unfold C83_4
     (try simp only [rwp,hwR,zA,zB,zC,zD,zE,zF,zG,zH,zI])
     refine hl.app hs1 (xs:=[tkC ⟨x,line,col⟩]) (fun r hr=>by rw [List.mem_singleton] at hr;subst hr;rfl) rfl (by simp;omega) ?_
     intro v' S2 h1 h2 _
     (try simp only [rwp,hwR,zA,zB,zC,zD,zE,zF,zG,zH,zI])
     (refine q05 (fun hq3=>?_) (fun hq3=>?_)<;>(try simp only [hlc] at hq3))
     ·rw [if_pos hq3] at hx
      have e1:(d.map tkC)++[tkC ⟨x,line,col⟩]=(tokT s).map tkC:=by rw [hx,hq3];simp
      rw [e1] at h2
      exact q6z h1 h2 ⟨rfl,rfl⟩
     ·rw [if_neg (by simpa using hq3)] at hx
      (simp (disch:=omega) only [q04])
      rw [show (i:Int)+(w:Int)=((i+w:Nat):Int) from rfl,show (col:Int)+(w:Int)=((col+w:Nat):Int) from rfl]
      refine q0a rfl (hq (v',line,col+w,i+w) S2 ⟨by dsimp only;omega,by dsimp only;omega,by dsimp only;omega,h1,d++[⟨x,line,col⟩],f,by dsimp only;omega,by simp;omega,by simpa using h2,?_⟩ (by dsimp only;omega))
      dsimp only
      rw [hx]
      simp
    have hbe:bl (s.extract i s.size)=c :: (bl s).drop (i+1):=by
     rw [bl_extract,List.take_of_length_le (by rw [q4o];exact Nat.le_refl _),hdc]
    have hwl:=wordL_le (l:=c :: (bl s).drop (i+1)) (i:=0)
    have hcl2:(c :: (bl s).drop (i+1)).length=s.size-i:=by rw [← hdc,List.length_drop,q4o]
    rw [hcl2] at hwl
    have hcw:=c_word (s:=s.extract i s.size) (by rw [ByteArray.size_extract];omega)
    rw [hbe] at hcw
    (try simp only [rwp,hwR,zA,zB,zC,zD,zE,zF,zG,zH,zI])
    refine ⟨by omega,by omega,?_⟩
    refine q06 hcw ?_
    have hw0:∀ r,q2p 0 (c :: r)≠0→c≠63:=fun r h=>by
     rintro rfl
     apply h
     unfold q2p
     rw [if_neg (by decide)]
    have hw0:=hw0 ((bl s).drop (i+1))
    have htk:(c :: (bl s).drop (i+1)).drop (q2p 0 (c :: (bl s).drop (i+1)))=(bl s).drop (i+q2p 0 (c :: (bl s).drop (i+1))):=by
     rw [← hdc,List.drop_drop]
    have hex:s.extract i (i+q2p 0 (c :: (bl s).drop (i+1)))=mkB ((c :: (bl s).drop (i+1)).take (q2p 0 (c :: (bl s).drop (i+1)))):=by
     rw [q4z,List.drop_take,Nat.add_sub_cancel_left,hdc]
    rw [htk] at ht
    generalize hn:q2p 0 (c :: (bl s).drop (i+1))=n at *
    (try simp only [rwp,hwR,zA,zB,zC,zD,zE,zF,zG,zH,zI])
    (simp (disch:=omega) only [q04])
    (try simp only [rwp,hwR,zA,zB,zC,zD,zE,zF,zG,zH,zI])
    refine ⟨by omega,by omega,?_⟩
    rw [show ((i:Int)+(n:Int)).toNat=i+n by omega,hex]
    (refine q05 (fun hn0=>?_) (fun hn0=>?_)<;>(try simp only [hlc] at hn0))
    ·have hn0:n=0:=by omega
     refine q06 (c_sign c) ?_
     rw [if_pos hn0] at ht
     refine low _ 1 (by omega) (by omega) ?_
     rw [← ht]
    ·have hn0:¬ n=0:=by omega
     rw [if_neg hn0] at ht
     refine low _ n (by omega) (by omega) ?_
     rw [← ht,if_neg]
     intro h63
     have h1:=congrArg bl h63
     obtain ⟨m,hm⟩:∃ m,n=m+1:=⟨n-1,by omega⟩
     rw [hm,List.take_succ_cons] at h1
     have h2:c :: ((bl s).drop (i+1)).take m=[63]:=by
      have:bl (mkB (c :: ((bl s).drop (i+1)).take m))=c :: ((bl s).drop (i+1)).take m:=by simp [bl,mkB]
      rw [← this,h1];rfl
     exact hw0 hn0 (List.cons.inj h2).1
  cases a1:decide ((c.toNat:Int)=32)<;>cases a2:decide ((c.toNat:Int)=9)<;>cases a3:decide ((c.toNat:Int)=10) <;>
   (try simp only [rwp,hwR,zA,zB,zC,zD,zE,zF,zG,zH,zI,C83_2,a1,a2,a3])<;>refine ws _ ?_<;>simp only [decide_eq_true_eq,decide_eq_false_iff_not] at a1 a2 a3<;>(symm;first | exact decide_eq_true (by omega) | exact decide_eq_false (by omega))
 ·rw [List.drop_of_length_le (by rw [q4o];omega),tokL] at ht
  (try simp only [rwp,hwR,zA,zB,zC,zD,zE,zF,zG,zH,zI])
  refine hl.app hs1 (xs:=[tkC ⟨⟨#[]⟩,line,col⟩]) (fun r hr=>by rw [List.mem_singleton] at hr;subst hr;rfl) rfl (by simp;omega) ?_
  intro v' S2 h1 h2 _
  have e1:(d.map tkC)++[tkC ⟨⟨#[]⟩,line,col⟩]=(tokT s).map tkC:=by rw [← ht];simp
  rw [e1] at h2
  exact q6z h1 h2 ⟨rfl,rfl⟩
theorem q5t:∀ {f:Nat} {l:List UInt8} {a b:Nat},(tokL f l a b).length≤l.length+1
 | 0,l,a,b=>by simp [tokL]
 | f+1,[],a,b=>by simp [tokL]
 | f+1,c :: r,a,b=>by
  unfold tokL
  split
  ·have:=q5t (f:=f) (l:=r) (a:=if c.toNat=10 then a+1 else a) (b:=if c.toNat=10 then 1 else b+1)
   simp only [List.length_cons];omega
  ·split
   ·split
    ·simp
    ·have:=q5t (f:=f) (l:=r) (a:=a) (b:=b+1)
     simp only [List.length_cons];omega
   ·rename_i h0
    have:=q5t (f:=f) (l:=(c :: r).drop (q2p 0 (c :: r))) (a:=a) (b:=b+q2p 0 (c :: r))
    have h2:((c :: r).drop (q2p 0 (c :: r))).length≤r.length:=by
     rw [List.length_drop,List.length_cons];omega
    simp only [List.length_cons];omega
theorem mkB_size {l:List UInt8}:(mkB l).size=l.length:=by simp [mkB,ByteArray.size]
theorem signF_size {c:UInt8}:(signF c).size≤1:=by
 unfold signF
 split
 ·rw [mkB_size];exact Nat.le_refl _
 ·decide
theorem q5s:∀ {f:Nat} {l:List UInt8} {a b:Nat},∀ t∈tokL f l a b,t.s.size≤l.length+1
 | 0,l,a,b,t,ht=>by cases ht
 | f+1,[],a,b,t,ht=>by
  rw [tokL,List.mem_singleton] at ht
  subst ht
  exact Nat.zero_le _
 | f+1,c :: r,a,b,t,ht=>by
  unfold tokL at ht
  split at ht
  ·have:=q5s t ht
   simp only [List.length_cons];omega
  ·split at ht
   ·split at ht
    ·rw [List.mem_singleton] at ht
     subst ht
     exact Nat.le_add_left _ _
    ·rcases List.mem_cons.1 ht with rfl | ht
     ·have:=signF_size (c:=c);dsimp only;omega
     ·have:=q5s t ht
      simp only [List.length_cons];omega
   ·rcases List.mem_cons.1 ht with rfl | ht
    ·dsimp only
     rw [mkB_size,List.length_take]
     omega
    ·have:=q5s t ht
     rw [List.length_drop] at this
     omega
theorem q5u:∀ {f:Nat} {l:List UInt8} {a b:Nat} {t:Tk},(tokL f l a b).getLast?=some t→l.length<f→t.s=⟨#[]⟩∨t.s=⟨#[63]⟩
 | 0,l,a,b,t,ht,hf=>by omega
 | f+1,[],a,b,t,ht,hf=>by
  rw [tokL] at ht
  simp at ht
  subst ht
  exact .inl rfl
 | f+1,c :: r,a,b,t,ht,hf=>by
  have hne:∀ {f:Nat} {l:List UInt8} {a b:Nat},l.length<f→tokL f l a b≠[]:=by
   intro f
   induction f with
   | zero=>intro l a b h;omega
   | succ f ih=>
    intro l a b h
    cases l with
    | nil=>simp [tokL]
    | cons c r=>
     unfold tokL
     simp only [List.length_cons] at h
     split
     ·exact ih (by omega)
     ·split
      ·split<;>simp
      ·simp
  simp only [List.length_cons] at hf
  unfold tokL at ht
  split at ht
  ·exact q5u ht (by omega)
  ·split at ht
   ·split at ht
    ·simp at ht
     subst ht
     exact .inr rfl
    ·rw [List.getLast?_cons_of_ne_nil (hne (by omega))] at ht
     exact q5u ht (by omega)
   ·rename_i h0
    have hl:((c :: r).drop (q2p 0 (c :: r))).length<f:=by
     rw [List.length_drop,List.length_cons];omega
    rw [List.getLast?_cons_of_ne_nil (hne hl)] at ht
    exact q5u ht hl
theorem tokT_ok {s:ByteArray} (hs:s.size≤4096):OkTk (tokT s):=by
 have h1:=q5t (f:=s.size+1) (l:=bl s) (a:=1) (b:=1)
 rw [q4o] at h1
 refine ⟨?_,fun t ht=>?_,fun t ht=>?_⟩
 ·unfold tokT;omega
 ·have:=q5s t ht
  rw [q4o] at this
  omega
 ·rw [← List.getLast?_eq_getElem?] at ht
  exact q5u ht (by rw [q4o];omega)
structure RsSt (T:List Tk) (r:Rd) (p:List Rl×Rd):Prop where
 st:StepR T r p.2 0
 len:p.1.length≤p.2.at'
 ok:∀ x∈p.1,OkR x
 sz:p.2.de=0→∀ x∈p.1,rsz x≤p.2.at'
theorem rels_next {T:List Tk} (hT:OkTk T) {r0 r:Rd} (hp0:Pre T 12 r0) {l:List Rl} (h:RsSt T r0 (l,r)) :
  ((relP T r).1.2=true→RsSt T r0 (l++[(relP T r).1.1],(relP T r).2)∧r.at'+1≤(relP T r).2.at')∧RsSt T r0 (l,(relP T r).2):=by
 have hp:=h.st.pre hp0
 obtain ⟨h1,h2,h3⟩:=rel_ok hT hp
 have h5:=h.len
 have h6:=h1.mono
 dsimp only at h1 h5 h6 hp
 refine ⟨fun hf=>⟨⟨(h.st.trans h1).le (by omega),?_,fun x hx=>?_,fun h0 x hx=>?_⟩,h3 hf⟩,⟨(h.st.trans h1).le (by omega),by dsimp only;omega,h.ok,fun h0 x hx=>?_⟩⟩
 ·have:=h3 hf
  dsimp only at this
  simp only [List.length_append,List.length_cons,List.length_nil]
  omega
 ·rcases List.mem_append.1 hx with hx | hx
  ·exact h.ok x hx
  ·rw [List.mem_singleton.1 hx];exact h2
 ·dsimp only at h0 ⊢
  rcases List.mem_append.1 hx with hx | hx
  ·have:=h.sz (h1.fault h0) x hx
   dsimp only at this
   omega
  ·rw [List.mem_singleton.1 hx]
   have:=h1.sz h0
   rw [if_pos hf] at this
   omega
 ·dsimp only at h0 ⊢
  have:=h.sz (h1.fault h0) x hx
  dsimp only at this
  omega
theorem relsL_ok {T:List Tk} (hT:OkTk T) {r0:Rd} (hp0:Pre T 12 r0):∀ {f:Nat} {p:List Rl×Rd},RsSt T r0 p→RsSt T r0 (q3b T f p)
 | 0,p,h=>h
 | f+1,(l,r),h=>by
  obtain ⟨k1,k2⟩:=rels_next hT hp0 h
  unfold q3b
  split
  ·rename_i hi
   exact relsL_ok hT hp0 (k1 hi).1
  ·exact k2
theorem relsL_more {T:List Tk} (hT:OkTk T) {r0:Rd} (hp0:Pre T 12 r0):∀ {f g:Nat} {p:List Rl×Rd},RsSt T r0 p→T.length≤f+p.2.at'→T.length≤g+p.2.at'→q3b T f p=q3b T g p
 | 0,g,p,h,h1,h2=>by have h3:p.2.at'<T.length:=h.st.inr;omega
 | f+1,0,p,h,h1,h2=>by have h3:p.2.at'<T.length:=h.st.inr;omega
 | f+1,g+1,(l,r),h,h1,h2=>by
  dsimp only at h1 h2
  obtain ⟨k1,k2⟩:=rels_next hT hp0 h
  unfold q3b
  split
  ·rename_i hi
   obtain ⟨k3,k4⟩:=k1 hi
   exact relsL_more hT hp0 k3 (by dsimp only;omega) (by dsimp only;omega)
  ·rfl
structure TsSt (T:List Tk) (p:List Ty×Rd):Prop where
 pre:Pre T 12 p.2
 len:p.1.length≤p.2.at'
 ok:∀ t∈p.1,OkT t
 sz:p.2.de=0→∀ t∈p.1,∀ x∈t.rels,rsz x≤p.2.at'
theorem q6v {T:List Tk} (hT:OkTk T) {l:List Ty} {r:Rd} (h:TsSt T (l,r)) (hi:isP T q1x r=true) :
  Pre T 12 (isR T q1x r)∧Pre T 12 (q0k T (isR T q1x r))∧RsSt T (q0k T (isR T q1x r)) (q3b T T.length ([],q0k T (isR T q1x r))) ∧
  TsSt T (l++[⟨q2b T (isR T q1x r),(q3b T T.length ([],q0k T (isR T q1x r))).1⟩],(q3b T T.length ([],q0k T (isR T q1x r))).2)∧r.at'+1≤(q3b T T.length ([],q0k T (isR T q1x r))).2.at':=by
 have hp:Pre T 12 r:=h.pre
 have h1:=q28 hT hp hi (by decide +kernel) (by decide +kernel)
 have hp1:=h1.pre hp
 have h2:=q1o hT hp1
 have hp2:=h2.pre hp1
 have e1:(isR T q1x r).at'=r.at'+1:=by rw [isR,if_pos hi]
 have hR:=relsL_ok hT hp2 (f:=T.length) (p:=([],q0k T (isR T q1x r))) ⟨StepR.refl hp2,Nat.zero_le _,fun x hx=>(by cases hx),fun _ x hx=>(by cases hx)⟩
 have hn:=q2c hT hp1.inr
 generalize q3b T T.length ([],q0k T (isR T q1x r))=p at hR
 obtain ⟨rs,r3⟩:=p
 have m1:=h2.mono
 have m2:=hR.st.mono
 have m3:=hR.len
 have m4:=h.len
 have hin:r3.at'<T.length:=hR.st.inr
 have hTl:=hT.len
 dsimp only at m2 m3 m4 ⊢
 refine ⟨hp1,hp2,hR,⟨hR.st.pre hp2,?_,fun t ht=>?_,fun h0 t ht x hx=>?_⟩,by omega⟩
 ·simp only [List.length_append,List.length_cons,List.length_nil];omega
 ·rcases List.mem_append.1 ht with ht | ht
  ·exact h.ok t ht
  ·rw [List.mem_singleton.1 ht]
   exact ⟨hn,by dsimp only;omega,hR.ok⟩
 ·dsimp only at h0 ⊢
  rcases List.mem_append.1 ht with ht | ht
  ·have:=h.sz (h1.fault (h2.fault (hR.st.fault h0))) t ht x hx
   dsimp only at this
   omega
  ·rw [List.mem_singleton.1 ht] at hx
   exact hR.sz h0 x hx
theorem typesL_ok {T:List Tk} (hT:OkTk T):∀ {f:Nat} {p:List Ty×Rd},TsSt T p→TsSt T (q20 T f p)
 | 0,p,h=>h
 | f+1,(l,r),h=>by
  unfold q20
  split
  ·rename_i hi
   exact typesL_ok hT (q6v hT h hi).2.2.2.1
  ·exact h
theorem typesL_more {T:List Tk} (hT:OkTk T):∀ {f g:Nat} {p:List Ty×Rd},TsSt T p→T.length≤f+p.2.at'→T.length≤g+p.2.at'→q20 T f p=q20 T g p
 | 0,g,p,h,h1,h2=>by have h3:p.2.at'<T.length:=h.pre.inr;omega
 | f+1,0,p,h,h1,h2=>by have h3:p.2.at'<T.length:=h.pre.inr;omega
 | f+1,g+1,(l,r),h,h1,h2=>by
  dsimp only at h1 h2
  unfold q20
  split
  ·rename_i hi
   obtain ⟨-,-,-,k3,k4⟩:=q6v hT h hi
   exact typesL_more hT k3 (by dsimp only;omega) (by dsimp only;omega)
  ·rfl
theorem pre0 {T:List Tk} (h:0<T.length):Pre T 12 rd0:=⟨h,by decide,by decide,fun _=>by decide⟩
theorem ts0 {T:List Tk} (h:0<T.length):TsSt T ([],rd0):=⟨pre0 h,Nat.zero_le _,fun t ht=>(by cases ht),fun _ t ht=>(by cases ht)⟩
theorem end_step {T:List Tk} {r:Rd} (hp:Pre T 12 r):StepR T r (endR T r) 0:=by
 unfold endR
 split
 ·exact q6f _ (by decide) 0 (StepR.refl hp)
 ·exact StepR.refl hp
theorem parseT_ok {T:List Tk} (hT:OkTk T) (h:0<T.length):OkS (q61 T).1∧∀ t∈(q61 T).1,∀ x∈t.rels,rsz x≤T.length:=by
 have hR:=typesL_ok hT (f:=T.length) (ts0 h)
 have hin:(q20 T T.length ([],rd0)).2.at'<T.length:=hR.pre.inr
 have hl:=hR.len
 have hTl:=hT.len
 unfold q61
 split
 ·rename_i h0
  refine ⟨⟨by dsimp only;omega,hR.ok⟩,fun t ht x hx=>?_⟩
  have:=hR.sz ((end_step hR.pre).fault h0) t ht x hx
  omega
 ·exact ⟨⟨Nat.zero_le _,fun t ht=>(by cases ht)⟩,fun t ht=>(by cases ht)⟩
end Go.HL
