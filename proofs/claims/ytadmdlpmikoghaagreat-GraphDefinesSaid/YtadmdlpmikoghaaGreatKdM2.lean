/- A part of a proof. -/
import Derived.Test.YtadmdlpmikoghaaGreatKdM1
import Derived.Test.YtadmdlpmikoghaaGreatKdHlS11
import Derived.Test.YtadmdlpmikoghaaGreatKdHlS8
import Derived.Test.YtadmdlpmikoghaaGreatKdHlS4
import Derived.Test.YtadmdlpmikoghaaGreatKdHlS7
import Derived.Test.YtadmdlpmikoghaaGreatKdHlS2
import Derived.Test.YtadmdlpmikoghaaGreatKdHlS3
import Derived.Lib.Bytealg
import Derived.Laws.Externs
import Derived.Test.YtadmdlpmikoghaaGreatKdHlS13
import Derived.Test.YtadmdlpmikoghaaGreatKdHlS14
import Derived.Test.YtadmdlpmikoghaaGreatKdHlS5
import Derived.Test.YtadmdlpmikoghaaGreatKdHlS6
import Derived.Test.YtadmdlpmikoghaaGreatKdHlS1
import Derived.Test.YtadmdlpmikoghaaGreatKdHlS9
import Derived.Test.YtadmdlpmikoghaaGreatKdHlM
import Derived.Test.YtadmdlpmikoghaaGreatKdHlQ
import Derived.Test.YtadmdlpmikoghaaGreatKdHlS10
import Derived.Test.YtadmdlpmikoghaaGreatKdHlS12
import Derived.Defers
import Derived.Recover
import Derived.Test.YtadmdlpmikoghaaGreatKdHlP
set_option maxRecDepth 4000
set_option linter.unusedSimpArgs false
set_option linter.unusedVariables false
namespace Go.HL
open Nat renaming reduceAdd→zA,reduceLeDiff→zB,reduceLT→zC,reduceSub→zD,reduceMul→zE,reduceEqDiff→zF,reduceBEq→zG
open Int renaming reduceAdd→zH,reduceToNat→zI
theorem good_refs {s:List Ty} (h:GoodS s) {i k:Nat} {t:Ty} {r:Rl} (ht:s[i]?=some t) (hr:t.rels[k]?=some r):∀ f∈r.refs,q34 s f=true:=by
 have:=h.name ht hr
 unfold q1p at this
 split at this
 ·rename_i h;exact List.all_eq_true.1 h
 ·omega
theorem good_typ {s:List Ty} (h:GoodS s) {i:Nat} {t:Ty} (ht:s[i]?=some t):typF s t.name=some i:=dup_typ h.sizes.2.2 ht
theorem refLean_ok {s:List Ty} {f:Rf} (h:q34 s f=true):q1r s f=if f.rl=⟨#[]⟩ then none else some (((typF s f.ty).getD 0,((q0g s f.ty f.rl).map fun q=>q.2.1).getD 0),false):=by
 unfold q1r
 by_cases h0:f.rl=⟨#[]⟩
 ·rw [if_pos h0,if_pos h0]
 ·rw [if_neg h0,if_neg h0]
  unfold q34 at h
  simp only [h0,decide_false,Bool.false_or,Bool.and_eq_true] at h
  cases hq:q0g s f.ty f.rl with
  | none=>rw [hq] at h;cases h.2
  | some q=>
   obtain ⟨i,k,w⟩:=q
   obtain ⟨h1,-⟩:=q11 hq
   rw [h1]
   rfl
theorem c_ref12_all {s:List Ty} (hs:OkS s) (hN:OkN s) (hg:GoodS s) {i k:Nat} {t:Ty} {r:Rl} (ht:s[i]?=some t) (hr:t.rels[k]?=some r):AFun PG nrx167 [scA s,.int .i64 i,.agg (rlC r)] (.sl 3 ((q1a s t.name r).map q2p)):=by
 intro S
 have hok:=(hs.at ht).at hr
 have hm:=List.mem_of_getElem? ht
 have hmr:=List.mem_of_getElem? hr
 have hn:=hN t hm r hmr
 have hrl:r.refs.length≤1000:=by unfold rsz at hn;omega
 have hez:esz r.ex≤1000:=by unfold rsz at hn;omega
 have hrf:=good_refs hg ht hr
 refine wx167 ?_
 unfold Bx167
 (try simp only [rwp,hwR,zA,zB,zC,zD,zE,zF,zG,zH,zI,q0l,scA])
 (refine q02 (fun h0=>?_) (fun h0=>?_)<;>(try simp only [hlc] at h0))
 ·refine q05 (by simpa only [scA,q0c] using c_ref12_leans hs hN (good_typ hg ht) r.ex hok.ex hez false (hg.found t hm r hmr (by omega))) ?_
  exact q03 ⟨by rw [q1a,if_pos (by omega)],rfl⟩
 refine LoopP.introS (fun p:Nat×AV=>[(3,.rop [.sl 2 (s.map tyC)]),(5,.rop [.str r.name,.sl 2 (r.refs.map rfC),.int .i64 r.ex.kind,.str r.ex.name,.str r.ex.over,.sl 4 (r.ex.kids.map exC)]),(7,p.2),(8,.int .i64 p.1)])
  (fun p S'=>p.1≤r.refs.length∧Sub S S'∧LstN S S' 253 3 p.2 (((r.refs.take p.1).filterMap (q1r s)).map q2p)) (fun p=>r.refs.length-p.1) (0,.nils) ⟨by omega,Sub.refl S,.nil⟩ rfl ?_
 rintro ⟨j,v⟩ S1 ⟨hj,hs1,hl⟩ q hq
 dsimp only at hj hl
 (try simp only [rwp,hwR,zA,zB,zC,zD,zE,zF,zG,zH,zI,C167_1])
 (refine q02 (fun hlt=>?_) (fun hlt=>?_)<;>(try simp only [hlc] at hlt))
 ·obtain ⟨f,hf⟩:=q0e hlt
  have hfo:=hrf f (List.mem_of_getElem? hf)
  have htk:=take_fm (g:=q1r s) hf
  have hle:=fm_le (g:=q1r s) (l:=r.refs) (i:=j)
  have hrl2:=refLean_ok hfo
  (try simp only [rwp,hwR,zA,zB,zC,zD,zE,zF,zG,zH,zI,hf,rfC])
  cases a1:decide (f.rl=⟨#[]⟩) with
  | true=>
   rw [if_pos (of_decide_eq_true a1)] at hrl2
   (try simp only [rwp,hwR,zA,zB,zC,zD,zE,zF,zG,zH,zI])
   (simp (disch:=omega) only [q07])
   refine q09 rfl (hq (j+1,v) S1 ⟨by dsimp only;omega,hs1,?_⟩ (by dsimp only;omega))
   dsimp only
   rw [htk,hrl2]
   simpa using hl
  | false=>
   rw [if_neg (of_decide_eq_false a1)] at hrl2
   unfold q34 at hfo
   rw [a1,Bool.false_or,Bool.and_eq_true] at hfo
   obtain ⟨q1,hq1⟩:=Option.isSome_iff_exists.1 hfo.2
   obtain ⟨x,y,w⟩:=q1
   obtain ⟨k1,-⟩:=q11 hq1
   rw [k1,hq1] at hrl2
   have hrl2:q1r s f=some ((x,y),false):=hrl2
   (try simp only [rwp,hwR,zA,zB,zC,zD,zE,zF,zG,zH,zI,hf,rfC])
   refine q05 (by simpa only [scA] using q2y hs f.ty) ?_
   (try simp only [rwp,hwR,zA,zB,zC,zD,zE,zF,zG,zH,zI,hf,rfC])
   refine q05 (by simpa only [scA] using q24 hs f.ty f.rl) ?_
   (try simp only [rwp,hwR,zA,zB,zC,zD,zE,zF,zG,zH,zI,k1,hq1,Option.map_some,oi])
   refine hl.app hs1 (xs:=[q2p ((x,y),false)]) (fun r hr=>by simp at hr;subst hr;rfl) rfl (by simp only [List.length_map,List.length_cons,List.length_nil];omega) ?_
   intro v' S2 h1 h2 _
   (try simp only [rwp,hwR,zA,zB,zC,zD,zE,zF,zG,zH,zI])
   (simp (disch:=omega) only [q07])
   refine q09 rfl (hq (j+1,v') S2 ⟨by dsimp only;omega,h1,?_⟩ (by dsimp only;omega))
   dsimp only
   rw [htk,hrl2]
   simpa using h2
 ·have hend:r.refs.take j=r.refs:=List.take_of_length_le (by omega)
  rw [hend] at hl
  exact q3j hs1 hl ⟨by rw [q1a,if_neg (by omega)],rfl⟩
def rwC (w:Rw):List AV:=[.int .i64 w.1.1,.int .i64 w.1.2,.sl 3 (w.2.map q2p)]
theorem c_ref12_rows {s:List Ty} (hs:OkS s) (hN:OkN s) (hg:GoodS s):AFun PG nrx118 [scA s] (.sl 3 ((q26 s).map rwC)):=by
 intro S
 have hb:=hs.types
 have hsz:=hg.sizes
 have hall:(q26 s).length≤256:=by rw [rows_len];exact hg.many
 refine wx118 ?_
 unfold Bx118
 (try simp only [rwp,hwR,zA,zB,zC,zD,zE,zF,zG,zH,zI,scA])
 refine LoopP.introS (fun p:Nat×AV=>[(1,.rop [.sl 2 (s.map tyC)]),(3,p.2),(4,.int .i64 p.1)])
  (fun p S'=>p.1≤s.length∧Sub S S'∧∃ w:List Rw,LstN S S' 251 3 p.2 (w.map rwC)∧w++q3z s p.1 (s.drop p.1)=q26 s) (fun p=>s.length-p.1) (0,.nils) ⟨by omega,Sub.refl S,[],.nil,rfl⟩ rfl ?_
 rintro ⟨i,v⟩ S1 ⟨hi,hs1,w,hl,hf⟩ q hq
 dsimp only at hi hl hf
 (try simp only [rwp,hwR,zA,zB,zC,zD,zE,zF,zG,zH,zI,C118_1])
 (refine q02 (fun hlt=>?_) (fun hlt=>?_)<;>(try simp only [hlc] at hlt))
 ·obtain ⟨t,ht⟩:=q0e hlt
  have hbt:=(hs.at ht).rels
  rw [q0h ht,q3z,← List.append_assoc] at hf
  refine LoopP.introS (fun p:Nat×AV=>[(1,.rop [.sl 2 (s.map tyC)]),(3,p.2),(4,.int .i64 i),(5,.int .i64 p.1)])
   (fun p S'=>p.1≤t.rels.length∧Sub S S'∧∃ u:List Rw,LstN S S' 251 3 p.2 (u.map rwC)∧u++q33 s i t.name p.1 (t.rels.drop p.1)=w++q33 s i t.name 0 t.rels) (fun p=>t.rels.length-p.1) (0,v) ⟨by omega,hs1,w,hl,rfl⟩ rfl ?_
  rintro ⟨k,v2⟩ S2 ⟨hk,hs2,u,hl2,hf2⟩ q2 hq2
  dsimp only at hk hl2 hf2
  (try simp only [rwp,hwR,zA,zB,zC,zD,zE,zF,zG,zH,zI,C118_2,ht,tyC])
  (refine q02 (fun hlt2=>?_) (fun hlt2=>?_)<;>(try simp only [hlc] at hlt2))
  ·obtain ⟨r,hr⟩:=q0e hlt2
   rw [q0h hr,q33] at hf2
   (try simp only [rwp,hwR,zA,zB,zC,zD,zE,zF,zG,zH,zI,ht,hr,tyC,q0l])
   refine q05 (by simpa only [scA,q0l] using c_ref12_all hs hN hg ht hr) ?_
   have hul:u.length≤256:=by
    have h1:=congrArg List.length hf
    have h2:=congrArg List.length hf2
    simp only [List.length_append,List.length_cons] at h1 h2
    omega
   (try simp only [rwp,hwR,zA,zB,zC,zD,zE,zF,zG,zH,zI])
   refine hl2.app hs2 (xs:=[rwC ((i,k),q1a s t.name r)]) (fun r hr=>by simp at hr;subst hr;rfl) rfl (by simp only [List.length_map,List.length_cons,List.length_nil];omega) ?_
   intro v' S3 h1 h2 _
   (try simp only [rwp,hwR,zA,zB,zC,zD,zE,zF,zG,zH,zI])
   (simp (disch:=omega) only [q07])
   refine q09 rfl (hq2 (k+1,v') S3 ⟨by dsimp only;omega,h1,u++[((i,k),q1a s t.name r)],by simpa using h2,?_⟩ (by dsimp only;omega))
   rw [List.append_assoc]
   exact hf2
  ·rw [q0z hlt2,q33,List.append_nil] at hf2
   (simp (disch:=omega) only [q07])
   refine q09 rfl (hq (i+1,v2) S2 ⟨by dsimp only;omega,hs2,u,hl2,?_⟩ (by dsimp only;omega))
   rw [hf2]
   exact hf
 ·rw [q0z hlt,q3z,List.append_nil] at hf
  exact q3j hs1 hl ⟨by rw [hf],rfl⟩
set_option maxRecDepth 4000
theorem LvO.cell {S0 S:q00} {v:AV} {bs:List Nat} {lv:Lv} (h:LvO S0 S v bs lv) {i j:Nat} (hin:In lv (i,j)):∃ bl cap b l,v=.own bl 0 lv.length cap∧i<lv.length∧q0k S bl=some (174,(q1q bs lv).flatten,cap * 1)∧(q1q bs lv).flatten.drop i=.own b 0 l.length l.length :: (q1q bs lv).flatten.drop (i+1) ∧
  bs[i]?=some b∧lv[i]?=some l∧q0k S b=some (3,l.map iv,l.length)∧b≠bl∧l[j]?=some (getL lv (i,j)):=by
 obtain ⟨l,h1,h2⟩:=hin
 dsimp only at h1 h2
 have hil:=(List.getElem?_eq_some_iff.1 h1).1
 obtain ⟨hs,hlen,⟨hr,hl⟩,hi,hnd⟩:=h
 have hrl:(q1q bs lv).length=lv.length:=by simp [q1q,hlen]
 obtain ⟨b,hb⟩:∃ b,bs[i]?=some b:=⟨_,List.getElem?_eq_getElem (by omega)⟩
 obtain ⟨o1,o2,o3⟩:=hi i b l hb h1
 have hrow:(q1q bs lv)[i]?=some [.own b 0 l.length l.length]:=by rw [q5j,hb,h1]
 rcases hl with ⟨rfl,h0⟩ | ⟨bl,cap,rfl,k1,k2,k3,k4,k5⟩
 ·rw [h0] at hrow;simp at hrow
 ·refine ⟨bl,cap,b,l,by rw [hrl],hil,objAt_some.2 k2,?_,hb,h1,o1,o3 bl 0 _ _ rfl,?_⟩
  ·have h3:=q71 hr hrow (j:=0) rfl
   rw [Nat.mul_one,Nat.add_zero] at h3
   exact q0h h3
  ·unfold getL
   rw [h1]
   simp [List.getElem?_eq_getElem h2]
theorem LvO.rd {S0 S:q00} {v:AV} {bs:List Nat} {lv:Lv} (h:LvO S0 S v bs lv) {i j:Nat} (hin:In lv (i,j)) {K:AV→Prop} (hK:K (.int .i64 (getL lv (i,j)))) :
  iaW 1 v (.int .i64 i) (fun a=>ldW S 1 false a fun r=>iaW 1 r (.int .i64 j) fun c=>ldW S 1 false c K):=by
 obtain ⟨bl,cap,b,l,rfl,h1,h2,h3,h4,h5,h6,h7,h8⟩:=h.cell hin
 have hj:=(List.getElem?_eq_some_iff.1 h8).1
 have hd:(l.map iv).drop j=iv (getL lv (i,j)) :: (l.map iv).drop (j+1):=q0h (by rw [List.getElem?_map,h8];rfl)
 rw [q7y]
 refine ⟨by omega,by omega,?_⟩
 rw [q7v,q08 h2,q5m,Int.toNat_natCast,Nat.mul_one,Nat.zero_add,h3,mkW_one,q7y]
 refine ⟨by omega,by omega,?_⟩
 rw [q7v,q08 h6,q5m,Int.toNat_natCast,Nat.mul_one,Nat.zero_add,hd,mkW_one]
 exact hK
theorem lvRows_set {bs:List Nat} {lv:Lv} {p:Nat×Nat} {x:Nat}:q1q bs (setL lv p x)=q1q bs lv:=by
 apply List.ext_getElem?
 intro i
 rw [q5j,q5j]
 unfold setL
 rw [List.getElem?_set]
 by_cases h:p.1=i
 ·subst h
  rw [if_pos rfl]
  cases hl:lv[p.1]? with
  | none=>rw [if_neg (by have:=List.getElem?_eq_none_iff.1 hl;omega)]
  | some l=>
   rw [if_pos (List.getElem?_eq_some_iff.1 hl).1]
   cases bs[p.1]?<;>simp
 ·rw [if_neg h]
theorem LvO.wr {S0 S:q00} {v:AV} {bs:List Nat} {lv:Lv} (h:LvO S0 S v bs lv) {i j x:Nat} (hin:In lv (i,j)) {K:q00→Prop} (hK:∀ S',LvO S0 S' v bs (setL lv (i,j) x)→K S') :
  iaW 1 v (.int .i64 i) (fun a=>ldW S 1 false a fun r=>iaW 1 r (.int .i64 j) fun c=>stW S 1 c (.int .i64 x) K):=by
 obtain ⟨bl,cap,b,l,rfl,h1,h2,h3,h4,h5,h6,h7,h8⟩:=h.cell hin
 have hj:=(List.getElem?_eq_some_iff.1 h8).1
 rw [q7y]
 refine ⟨by omega,by omega,?_⟩
 rw [q7v,q08 h2,q5m,Int.toNat_natCast,Nat.mul_one,Nat.zero_add,h3,mkW_one,q7y]
 refine ⟨by omega,by omega,?_⟩
 rw [q64,h6,Int.toNat_natCast,Nat.mul_one,Nat.zero_add,q2z]
 refine ⟨rfl,by simp;omega,rfl,hK _ ?_⟩
 obtain ⟨hs,hlen,hlst,hi,hnd⟩:=h
 have hb0:=(hi i b l h4 h5).2.1
 have hbv:=(hi i b l h4 h5).2.2
 have hset:q1i (l.map iv) j (q0a (.int .i64 x))=(l.set j x).map iv:=by
  show (l.map iv).set j (iv x)=_
  rw [List.map_set]
 rw [hset]
 refine ⟨hs.supd hb0,?_,?_,fun m c l' k1 k2=>?_,hnd⟩
 ·unfold setL;rw [List.length_set];exact hlen
 ·rw [lvRows_set]
  exact hlst.upd hbv _
 ·unfold setL at k2
  rw [List.getElem?_set,h5,if_pos h1] at k2
  dsimp only [Option.getD_some] at k2
  by_cases hmi:i=m
  ·subst hmi
   rw [if_pos rfl] at k2
   rw [h4] at k1
   cases k1;cases k2
   exact ⟨by rw [List.length_set];exact q0j,hb0,hbv⟩
  ·rw [if_neg hmi] at k2
   have hne:b≠c:=by
    rintro rfl
    have e1:=(List.getElem?_eq_some_iff.1 h4).1
    exact hmi ((List.getElem?_inj e1 hnd).1 (by rw [h4,k1]))
   obtain ⟨o1,o2,o3⟩:=hi m c l' k1 k2
   exact ⟨by rw [q0i hne];exact o1,o2,o3⟩
theorem LvO.app {S0 S:q00} {v:AV} {bs:List Nat} {lv:Lv} (h:LvO S0 S v bs lv) {b:Nat} (hb:sget S b=none) (l:List Nat) (hlen:lv.length≤1000000) {K:AV→q00→Prop} (hK:∀ v' S',LvO S0 S' v' (bs++[b]) (lv++[l])→K v' S') :
  apW (supd S b (.cells 3 (l.map iv) l.length)) 174 1 24 v (.sl 1 [[.own b 0 l.length l.length]]) K:=by
 have hb0:=Sub.none h.sub hb
 have hba:q0u v b:=h.lst.fresh hb
 have hbn:∀ (j c:Nat),bs[j]?=some c→c≠b:=by
  intro j c hj
  have hj1:=(List.getElem?_eq_some_iff.1 hj).1
  have hj2:j<lv.length:=by rw [← h.len];exact hj1
  have:=objAt_some.1 (h.inn j c _ hj (List.getElem?_eq_getElem hj2)).1
  rintro rfl
  rw [this] at hb
  cases hb
 have hL:=h.fresh hb (.cells 3 (l.map iv) l.length)
 have hrl:(q1q bs lv).length=lv.length:=by simp [q1q,h.len]
 have hbo:sget (supd S b (.cells 3 (l.map iv) l.length)) b=some (.cells 3 (l.map iv) l.length):=by rw [q01,if_pos rfl]
 refine LstN.app (rows:=q1q bs lv) (xs:=[[.own b 0 l.length l.length]]) hL.sub hL.lst (by simp) rfl (by rw [hrl];simp;omega) ?_
 intro v' S5 hs5 hl5 keep
 obtain ⟨q1,q2⟩:=keep b _ hbo hba
 rw [← lvRows_snoc h.len] at hl5
 refine hK v' S5 ⟨hs5,by simp [h.len],hl5,fun j c l' hj hl'=>?_,?_⟩
 ·by_cases hjb:j<bs.length
  ·rw [List.getElem?_append_left hjb] at hj
   rw [List.getElem?_append_left (by rw [← h.len];exact hjb)] at hl'
   obtain ⟨o1,o2,o3⟩:=hL.inn j c l' hj hl'
   obtain ⟨k1,k2⟩:=keep c _ (objAt_some.1 o1) o3
   exact ⟨objAt_some.2 k1,o2,k2⟩
  ·rw [List.getElem?_append_right (by omega)] at hj
   rw [List.getElem?_append_right (by rw [← h.len];omega),← h.len] at hl'
   obtain ⟨m,hm⟩:∃ m,j-bs.length=m:=⟨_,rfl⟩
   rw [hm] at hj hl'
   cases m with
   | succ m=>simp at hj
   | zero=>
    simp at hj hl'
    subst hj;subst hl'
    exact ⟨objAt_some.2 q1,hb0,q2⟩
 ·refine List.nodup_append.2 ⟨h.nod,by simp,fun x hx y hy e=>?_⟩
  simp at hy
  subst hy
  obtain ⟨j,hj⟩:=List.getElem?_of_mem hx
  exact hbn j x hj e
def InS (s:List Ty) (p:Nat×Nat):Prop:=∃ t,s[p.1]?=some t∧p.2<t.rels.length
theorem find_in {s:List Ty} {t n:ByteArray} {i k:Nat} {r:Rl} (h:q0g s t n=some (i,k,r)):InS s (i,k):=by
 obtain ⟨-,ty,h2,-,h4⟩:=q11 h
 exact ⟨ty,h2,(List.getElem?_eq_some_iff.1 h4).1⟩
theorem over_in {s:List Ty} {refs:List Rf} {n:ByteArray}:∀ p∈q22 s refs n,InS s p:=by
 intro p hp
 unfold q22 at hp
 obtain ⟨f,-,hf⟩:=List.mem_filterMap.1 hp
 split at hf
 ·cases hq:q0g s f.ty n with
  | none=>rw [hq] at hf;cases hf
  | some q=>
   obtain ⟨i,k,r⟩:=q
   rw [hq] at hf
   cases hf
   exact find_in hq
 ·cases hf
theorem leans_in {s:List Ty} {t:ByteArray} {r:Rl}:∀ l∈q1a s t r,InS s l.1:=by
 intro l hl
 unfold q1a at hl
 split at hl
 ·obtain ⟨p,-,hp⟩:=List.mem_flatMap.1 hl
  unfold q3m at hp
  split at hp
  ·cases hp
  ·rename_i i k r hq
   rcases List.mem_cons.1 hp with rfl | hp
   ·exact find_in hq
   ·split at hp
    ·obtain ⟨q,hq2,rfl⟩:=List.mem_map.1 hp
     exact over_in q hq2
    ·cases hp
 ·obtain ⟨f,-,hf⟩:=List.mem_filterMap.1 hl
  unfold q1r at hf
  split at hf
  ·cases hf
  ·cases hq:q0g s f.ty f.rl with
   | none=>rw [hq] at hf;cases hf
   | some q=>
    obtain ⟨i,k,r⟩:=q
    rw [hq] at hf
    cases hf
    exact find_in hq
theorem rowsR_in {s:List Ty} {i:Nat} {n:ByteArray}:∀ {l:List Rl} {k:Nat},∀ x∈q33 s i n k l,∀ y∈x.2,InS s y.1
 | [],k,x,hx=>by cases hx
 | r :: l,k,x,hx=>by
  rw [q33] at hx
  rcases List.mem_cons.1 hx with rfl | hx
  ·exact leans_in
  ·exact rowsR_in x hx
theorem rowsT_in {s:List Ty}:∀ {l:List Ty} {i:Nat},∀ x∈q3z s i l,∀ y∈x.2,InS s y.1
 | [],i,x,hx=>by cases hx
 | t :: l,i,x,hx=>by
  rw [q3z] at hx
  rcases List.mem_append.1 hx with hx | hx
  ·exact rowsR_in x hx
  ·exact rowsT_in x hx
theorem in_shp {lv:Lv} {s:List Ty} (h:Shp lv s) {p:Nat×Nat} (hp:InS s p):In lv p:=by
 obtain ⟨t,h1,h2⟩:=hp
 exact in_of (i:=p.1) (k:=p.2) h h1 h2
theorem rowsR_le {s:List Ty} (hN:OkN s) {i:Nat} {n:ByteArray}:∀ {l:List Rl} {k:Nat},(∀ r∈l,rsz r≤1000)→∀ x∈q33 s i n k l,x.2.length≤4000000
 | [],k,_,x,hx=>by cases hx
 | r :: l,k,h,x,hx=>by
  rw [q33] at hx
  rcases List.mem_cons.1 hx with rfl | hx
  ·exact leans_len hN (h r (by simp))
  ·exact rowsR_le hN (fun r hr=>h r (List.mem_cons_of_mem _ hr)) x hx
theorem rowsT_le {s:List Ty} (hN:OkN s):∀ {l:List Ty} {i:Nat},(∀ t∈l,∀ r∈t.rels,rsz r≤1000)→∀ x∈q3z s i l,x.2.length≤4000000
 | [],i,_,x,hx=>by cases hx
 | t :: l,i,h,x,hx=>by
  rw [q3z] at hx
  rcases List.mem_append.1 hx with hx | hx
  ·exact rowsR_le hN (h t (by simp)) x hx
  ·exact rowsT_le hN (fun t ht=>h t (List.mem_cons_of_mem _ ht)) x hx
theorem c_ref12_raised {s:List Ty} {rows:List Rw} (hN:rows.length≤1000) (hM:q0n s≤1000) (hok:RwOk s rows) (hin:∀ x∈rows,∀ y∈x.2,InS s y.1) (hle:∀ x∈rows,x.2.length≤4000000) {S0 S:q00} {v:AV} {bs:List Nat} {lv:Lv} (hL:LvO S0 S v bs lv) (hS:Shp lv s) (hB:Bdd rows.length lv) :
  ACalls PG nrx119 [.sl 3 (rows.map rwC),v] S fun ae S'=>ae=.ret (.bool (q16 rows.length rows (lv,false)).2)∧LvO S0 S' v bs (q16 rows.length rows (lv,false)).1:=by
 refine wx119 ?_
 unfold Bx119
 (try simp only [rwp,hwR,zA,zB,zC,zD,zE,zF,zG,zH,zI])
 refine LoopP.introS (fun p:Nat×Lv×Bool=>[(0,.sl 3 (rows.map rwC)),(1,v),(5,.bool p.2.2),(6,.int .i64 p.1)])
  (fun p S'=>p.1≤rows.length∧LvO S0 S' v bs p.2.1∧Shp p.2.1 s∧Bdd rows.length p.2.1∧q16 rows.length (rows.drop p.1) p.2=q16 rows.length rows (lv,false)) (fun p=>rows.length-p.1) (0,lv,false) ⟨by omega,hL,hS,hB,rfl⟩ rfl ?_
 clear hL hS hB
 rintro ⟨i,lv1,mo⟩ S1 ⟨hi,hL,hS,hB,hf⟩ q hq
 dsimp only at hi hL hS hB hf
 (try simp only [rwp,hwR,zA,zB,zC,zD,zE,zF,zG,zH,zI,C119_1])
 (refine q02 (fun hlt=>?_) (fun hlt=>?_)<;>(try simp only [hlc] at hlt))
 ·obtain ⟨w,hw⟩:=q0e hlt
  have hmw:=List.mem_of_getElem? hw
  obtain ⟨nd,ln⟩:=w
  obtain ⟨ni,nk⟩:=nd
  obtain ⟨t,ht,hk⟩:=hok _ hmw
  dsimp only at ht hk
  have hln:=hle _ hmw
  dsimp only at hln
  rw [q0h hw,q16] at hf
  dsimp only at hf
  (try simp only [rwp,hwR,zA,zB,zC,zD,zE,zF,zG,zH,zI,hw,rwC])
  refine LoopP.introS (fun p:Nat×Lv×Bool=>[(0,.sl 3 (rows.map rwC)),(1,v),(5,.bool p.2.2),(6,.int .i64 i),(7,.int .i64 ni),(8,.int .i64 nk),(9,.int .i64 p.1)])
   (fun p S'=>p.1≤ln.length∧LvO S0 S' v bs p.2.1∧Shp p.2.1 s∧Bdd rows.length p.2.1∧q13 rows.length (ni,nk) (ln.drop p.1) p.2=q13 rows.length (ni,nk) ln (lv1,mo)) (fun p=>ln.length-p.1) (0,lv1,mo) ⟨by omega,hL,hS,hB,rfl⟩ rfl ?_
  clear hL hS hB
  rintro ⟨j,lv2,mo2⟩ S2 ⟨hj,hL,hS,hB,hf2⟩ q2 hq2
  dsimp only at hj hL hS hB hf2
  (try simp only [rwp,hwR,zA,zB,zC,zD,zE,zF,zG,zH,zI,C119_2,hw,rwC])
  (refine q02 (fun hlt2=>?_) (fun hlt2=>?_)<;>(try simp only [hlc] at hlt2))
  ·obtain ⟨l,hl⟩:=q0e hlt2
   obtain ⟨m,o⟩:=l
   obtain ⟨mi,mk⟩:=m
   have hmin:In lv2 (mi,mk):=in_shp hS (hin _ hmw _ (List.mem_of_getElem? hl))
   have hnin:In lv2 (ni,nk):=in_of hS ht hk
   rw [q0h hl,q13] at hf2
   dsimp only at hf2
   have hphi:=q7t (N:=rows.length) hS
   have hMM:q0n s * (rows.length+1)≤1000 * 1001:=Nat.mul_le_mul hM (by omega)
   have hb1:=hB (mi,mk)
   have hb2:=hB (ni,nk)
   (try simp only [rwp,hwR,zA,zB,zC,zD,zE,zF,zG,zH,zI,hl,hw,rwC,q2p])
   refine hL.rd hmin ?_
   have low:∀ x:Nat,x=getL lv2 (mi,mk)+o.toNat→C119_3 (fun ae S'=>ae=.ret (.bool (q16 rows.length rows (lv,false)).2)∧LvO S0 S' v bs (q16 rows.length rows (lv,false)).1) q q2 (.sl 3 (rows.map rwC)) v (.bool mo2) (.int .i64 i) (.int .i64 ni) (.int .i64 nk) (.int .i64 j) (.int .i64 x) S2:=by
    intro x hx
    unfold C119_3
    rw [← hx] at hf2
    refine hL.rd hnin ?_
    have keep:¬ (getL lv2 (ni,nk)<x∧getL lv2 (ni,nk)≤rows.length)→q2 [(0,.sl 3 (rows.map rwC)),(1,v),(5,.bool mo2),(6,.int .i64 i),(7,.int .i64 ni),(8,.int .i64 nk),(9,.int .i64 ((j:Int)+1))] S2:=fun h=>by
     rw [if_neg h] at hf2
     exact hq2 (j+1,lv2,mo2) S2 ⟨by dsimp only;omega,hL,hS,hB,hf2⟩ (by dsimp only;omega)
    (try simp only [rwp,hwR,zA,zB,zC,zD,zE,zF,zG,zH,zI])
    (refine q1l (fun hg=>?_) (fun hg=>?_)<;>(try simp only [rwp,hwR,zA,zB,zC,zD,zE,zF,zG,zH,zI,hg]))
    ·have h1:getL lv2 (ni,nk)<x:=by simpa using hg
     refine hL.rd hnin ?_
     (try simp only [rwp,hwR,zA,zB,zC,zD,zE,zF,zG,zH,zI,hg])
     (refine q02 (fun h2=>?_) (fun h2=>?_)<;>(try simp only [hlc] at h2))
     ·have h3:getL lv2 (ni,nk)<x∧getL lv2 (ni,nk)≤rows.length:=⟨h1,by simpa using h2⟩
      rw [if_pos h3] at hf2
      rw [hx] at h3
      obtain ⟨k1,k2⟩:=q66 (N:=rows.length) (m:=(mi,mk)) (o:=o) hnin hB h3
      rw [← hx] at k1
      (try simp only [rwp,hwR,zA,zB,zC,zD,zE,zF,zG,zH,zI,C119_4])
      refine hL.wr (x:=x) hnin fun S3 hL3=>?_
      (try simp only [rwp,hwR,zA,zB,zC,zD,zE,zF,zG,zH,zI])
      (simp (disch:=omega) only [q07])
      exact q09 rfl (hq2 (j+1,setL lv2 (ni,nk) x,true) S3 ⟨by dsimp only;omega,hL3,shp_set hS _ _,k1,hf2⟩ (by dsimp only;omega))
     ·(try simp only [rwp,hwR,zA,zB,zC,zD,zE,zF,zG,zH,zI,C119_4])
      (simp (disch:=omega) only [q07])
      refine q09 rfl (keep fun h=>?_)
      have:=h.2
      simp at h2
      omega
    ·have h1:¬ getL lv2 (ni,nk)<x:=by simpa using hg
     (try simp only [rwp,hwR,zA,zB,zC,zD,zE,zF,zG,zH,zI,C119_4,hg])
     (simp (disch:=omega) only [q07])
     exact q09 rfl (keep fun h=>h1 h.1)
   cases o with
   | true=>
    (try simp only [rwp,hwR,zA,zB,zC,zD,zE,zF,zG,zH,zI])
    rw [q07 (by omega) (by omega)]
    exact low (getL lv2 (mi,mk)+1) rfl
   | false=>
    (try simp only [rwp,hwR,zA,zB,zC,zD,zE,zF,zG,zH,zI])
    exact low (getL lv2 (mi,mk)) rfl
  ·rw [q0z hlt2,q13] at hf2
   rw [← hf2] at hf
   (simp (disch:=omega) only [q07])
   exact q09 rfl (hq (i+1,lv2,mo2) S2 ⟨by dsimp only;omega,hL,hS,hB,hf⟩ (by dsimp only;omega))
 ·rw [q0z hlt,q16] at hf
  exact q03 ⟨by rw [← hf],by rw [← hf];exact hL⟩
set_option maxRecDepth 4000
theorem c_ref12_many {s:List Ty} (hs:OkS s) (h1:s.length≤16) (h2:∀ t∈s,t.rels.length≤16):AFun PG nrx103 [scA s] (.int .i64 (q0n s)):=by
 intro S
 refine wx103 ?_
 unfold Bx103
 (try simp only [rwp,hwR,zA,zB,zC,zD,zE,zF,zG,zH,zI,scA])
 have hm:=manyF_le h1 h2
 refine LoopP.introS (fun p:Nat×Nat=>[(1,.rop [.sl 2 (s.map tyC)]),(3,.int .i64 p.2),(4,.int .i64 p.1)])
  (fun p S'=>S'=S∧p.1≤s.length∧p.2+q0n (s.drop p.1)=q0n s) (fun p=>s.length-p.1) (0,0) ⟨rfl,by omega,by simp⟩ rfl ?_
 rintro ⟨i,n⟩ S1 ⟨rfl,hi,hf⟩ q hq
 dsimp only at hi hf
 (try simp only [rwp,hwR,zA,zB,zC,zD,zE,zF,zG,zH,zI,C103_1])
 (refine q02 (fun hlt=>?_) (fun hlt=>?_)<;>(try simp only [hlc] at hlt))
 ·obtain ⟨t,ht⟩:=q0e hlt
  rw [q0h ht] at hf
  have e1:q0n (t :: s.drop (i+1))=t.rels.length+q0n (s.drop (i+1)):=by simp [q0n]
  rw [e1] at hf
  (try simp only [rwp,hwR,zA,zB,zC,zD,zE,zF,zG,zH,zI,ht,tyC])
  rw [show (n:Int)+(t.rels.length:Int)=((n+t.rels.length:Nat):Int) by omega]
  (simp (disch:=omega) only [q07])
  exact q09 rfl (hq (i+1,n+t.rels.length) _ ⟨rfl,by dsimp only;omega,by dsimp only;omega⟩ (by dsimp only;omega))
 ·rw [q0z hlt] at hf
  have:n=q0n s:=by rw [← hf];rfl
  exact q03 ⟨by rw [this],rfl⟩
theorem zeroL_snoc {s:List Ty} {i:Nat} {t:Ty} (h:s[i]?=some t):q63 (s.take (i+1))=q63 (s.take i)++[List.replicate t.rels.length 0]:=by
 rw [q10 h]
 simp [q63]
theorem q62 {s:List Ty} (hs:OkS s) (hN:OkN s) (hg:GoodS s):AFun PG nrx65 [scA s] (.sl 1 (lvC (levF s))):=by
 intro S
 have hsz:=hg.sizes
 have hmany:=hg.many
 have hrows:=rows_len s
 refine wx65 ?_
 unfold Bx65
 (try simp only [rwp,hwR,zA,zB,zC,zD,zE,zF,zG,zH,zI,scA])
 refine LoopP.introS (fun p:Nat×AV×List Nat=>[(1,.rop [.sl 2 (s.map tyC)]),(3,p.2.1),(4,.int .i64 p.1)])
  (fun p S'=>p.1≤s.length∧LvO S S' p.2.1 p.2.2 (q63 (s.take p.1))) (fun p=>s.length-p.1) (0,.nils,[]) ⟨by omega,LvO.nil S (Sub.refl S)⟩ rfl ?_
 rintro ⟨i,v,bs⟩ S1 ⟨hi,hL⟩ q hq
 dsimp only at hi hL
 (try simp only [rwp,hwR,zA,zB,zC,zD,zE,zF,zG,zH,zI,C65_1])
 (refine q02 (fun hlt=>?_) (fun hlt=>?_)<;>(try simp only [hlc] at hlt))
 ·obtain ⟨t,ht⟩:=q0e hlt
  have htn:=hsz.2.1 t (List.mem_of_getElem? ht)
  (try simp only [rwp,hwR,zA,zB,zC,zD,zE,zF,zG,zH,zI,ht,tyC])
  refine ⟨t.rels.length,rfl,rfl,by omega,fun b hb=>?_⟩
  have hz:List.replicate t.rels.length (AV.int .i64 0)=(List.replicate t.rels.length 0).map iv:=by rw [List.map_replicate];rfl
  have h1:=LvO.app hL hb (List.replicate t.rels.length 0) (by simp [q63];omega) (K:=fun v' S'=>rcW q [(1,.rop [.sl 2 (s.map tyC)]),(3,v'),(4,.int .i64 (IntKind.i64.wrap ((i:Int)+1)))] S') fun v' S2 hL2=>by
   (simp (disch:=omega) only [q07])
   refine q09 rfl (hq (i+1,v',bs++[b]) S2 ⟨by dsimp only;omega,?_⟩ (by dsimp only;omega))
   rw [zeroL_snoc ht]
   exact hL2
  rw [List.length_replicate,← hz] at h1
  (try simp only [rwp,hwR,zA,zB,zC,zD,zE,zF,zG,zH,zI])
  exact h1
 ·have hend:s.take i=s:=List.take_of_length_le (by omega)
  rw [hend] at hL
  (try simp only [rwp,hwR,zA,zB,zC,zD,zE,zF,zG,zH,zI])
  refine q05 (by simpa only [scA] using c_ref12_rows hs hN hg) ?_
  refine LoopP.introS (fun p:Nat×Lv=>[(3,v),(5,.sl 3 ((q26 s).map rwC)),(6,.int .i64 p.1)])
   (fun p S'=>p.1≤70000∧LvO S S' v bs p.2∧Shp p.2 s∧Bdd (q26 s).length p.2∧q4z (q26 s).length (q26 s) (70000-p.1) p.2=levF s) (fun p=>70000-p.1) (0,q63 s) ⟨by omega,hL,q5f s,q4g,by rw [hrows];rfl⟩ rfl ?_
  clear hL
  rintro ⟨n,lv⟩ S2 ⟨hn,hL,hS,hB,hf⟩ q2 hq2
  dsimp only at hn hL hS hB hf
  (try simp only [rwp,hwR,zA,zB,zC,zD,zE,zF,zG,zH,zI,C65_2])
  (refine q02 (fun hlt2=>?_) (fun hlt2=>?_)<;>(try simp only [hlc] at hlt2))
  ·obtain ⟨m,hm⟩:∃ m,70000-n=m+1:=⟨70000-n-1,by omega⟩
   rw [hm,q4z] at hf
   refine q1b (c_ref12_raised (s:=s) (rows:=q26 s) (by omega) (by omega) (q4s s) (rowsT_in) (rowsT_le hN hN) hL hS hB) ?_
   rintro _ S3 ⟨rfl,hL3⟩
   obtain ⟨k1,k2,k3,k4,k5,k6⟩:=q2x (N:=(q26 s).length) (a:=(lv,false)) (q4s s) hS hB
   generalize hR:q16 (q26 s).length (q26 s) (lv,false)=R at hL3 k1 k2 hf ⊢
   obtain ⟨lv2,mo2⟩:=R
   dsimp only at hL3 k1 k2 hf ⊢
   cases mo2 with
   | true=>
    (try simp only [rwp,hwR,zA,zB,zC,zD,zE,zF,zG,zH,zI])
    rw [if_pos rfl] at hf
    (simp (disch:=omega) only [q07])
    refine q09 rfl (hq2 (n+1,lv2) S3 ⟨by dsimp only;omega,hL3,k1,k2,?_⟩ (by dsimp only;omega))
    dsimp only
    rw [show 70000-(n+1)=m by omega]
    exact hf
   | false=>
    (try simp only [rwp,hwR,zA,zB,zC,zD,zE,zF,zG,zH,zI])
    rw [if_neg (by simp)] at hf
    subst hf
    exact q98 (vs:=[v]) rfl (ShV.lv hL3) ⟨rfl,rfl⟩
  ·rw [show 70000-n=0 by omega,q4z] at hf
   subst hf
   exact q98 (vs:=[v]) rfl (ShV.lv hL) ⟨rfl,rfl⟩
theorem c_ref12_Check {s:List Ty} (hs:OkS s) (hN:OkN s):AFun PG nrx52 [scA s] (chkF s):=by
 intro S
 refine wx52 ?_
 unfold Bx52
 (try simp only [rwp,hwR,zA,zB,zC,zD,zE,zF,zG,zH,zI,scA])
 intro b hb
 (try simp only [rwp,hwR,zA,zB,zC,zD,zE,zF,zG,zH,zI])
 refine q05 (by simpa only [scA] using c_ref12_plain hs) ?_
 obtain ⟨ft,fr,fe,hp⟩:=plainF_fl s
 rw [hp]
 have ret:∀ x y z:Int,chkF s=flA x y z→rtW [.cell (.ptr b 0) 3 true] (fun ae S'=>ae=.ret (chkF s)∧S'=S) (supd S b (.cells 88 [.int .i64 x,.int .i64 y,.int .i64 z] 3)):=by
  intro x y z hp
  refine q1f S (Sub.fresh _ hb) ?_
  (try simp only [rwp,hwR,zA,zB,zC,zD,zE,zF,zG,zH,zI])
  rw [hp];rfl
 (try simp only [rwp,hwR,zA,zB,zC,zD,zE,zF,zG,zH,zI,flA])
 (refine q02 (fun h0=>?_) (fun h0=>?_)<;>(try simp only [hlc] at h0))
 ·refine ret _ _ _ ?_
  rw [chkF,hp,q1t,if_pos h0]<;>rfl
 have hg:GoodS s:=q7s (by rw [hp,q1t];omega)
 have hck:chkF s=flO (q2s s (cycF s)):=by rw [chkF,hp,q1t,if_neg (by simp [h0])]
 have hsz:=hg.sizes
 have hmany:=hg.many
 (try simp only [rwp,hwR,zA,zB,zC,zD,zE,zF,zG,zH,zI])
 refine q05 (by simpa only [scA] using q62 hs hN hg) ?_
 (try simp only [rwp,hwR,zA,zB,zC,zD,zE,zF,zG,zH,zI])
 refine q05 (by simpa only [scA] using c_ref12_many hs hsz.1 hsz.2.1) ?_
 have hll:(levF s).length=s.length:=shp_len (q4x s)
 refine LoopP.introS (fun i:Nat=>[(2,.ptr b 0),(4,.sl 1 (lvC (levF s))),(5,.int .i64 (q0n s)),(6,.int .i64 i)])
  (fun i S'=>S'=supd S b (.cells 88 [.int .i64 0,.int .i64 0,.int .i64 0] 3)∧i≤s.length∧(q2q (fun (_:Unit) i k t r=>(cycF s i k t r,())) i (s.drop i) ()).1=q2s s (cycF s)) (fun i=>s.length-i) 0 ⟨rfl,by omega,rfl⟩ rfl ?_
 rintro i _ ⟨rfl,hi,hf⟩ q hq
 have hcl0:(lvC (levF s)).length=s.length:=by simp [lvC,hll]
 (try simp only [rwp,hwR,zA,zB,zC,zD,zE,zF,zG,zH,zI,C52_1])
 (refine q02 (fun hlt=>?_) (fun hlt=>?_)<;>(try simp only [hlc] at hlt))<;>rw [hcl0] at hlt
 ·obtain ⟨t,ht⟩:=q0e hlt
  obtain ⟨l,hl,hlen⟩:=shp_row (q4x s) ht
  have htn:=hsz.2.1 t (List.mem_of_getElem? ht)
  have hcl:(lvC (levF s))[i]?=some [.sl 1 (l.map fun x=>[iv x])]:=by rw [lvC,List.getElem?_map,hl];rfl
  rw [q0h ht,q2q] at hf
  refine LoopP.introS (fun k:Nat=>[(2,.ptr b 0),(4,.sl 1 (lvC (levF s))),(5,.int .i64 (q0n s)),(6,.int .i64 i),(7,.int .i64 k)])
   (fun k S'=>S'=supd S b (.cells 88 [.int .i64 0,.int .i64 0,.int .i64 0] 3)∧k≤t.rels.length∧q2r (fun (_:Unit) k r=>(cycF s i k t r,())) k (t.rels.drop k) ()=q2r (fun (_:Unit) k r=>(cycF s i k t r,())) 0 t.rels ()) (fun k=>t.rels.length-k) 0 ⟨rfl,by omega,rfl⟩ rfl ?_
  rintro k _ ⟨rfl,hk,hf2⟩ q2 hq2
  have hlm:(l.map fun x=>[iv x]).length=t.rels.length:=by rw [List.length_map,hlen]
  (try simp only [rwp,hwR,zA,zB,zC,zD,zE,zF,zG,zH,zI,C52_2,hcl])
  (refine q02 (fun hlt2=>?_) (fun hlt2=>?_)<;>(try simp only [hlc] at hlt2))<;>(try simp only [List.length_map] at hlt2)<;>rw [hlen] at hlt2
  ·obtain ⟨r,hr⟩:=q0e hlt2
   have hkl:k<l.length:=by omega
   have hgx:getL (levF s) (i,k)=l[k]:=by simp [getL,hl,List.getElem?_eq_getElem hkl]
   have hxk:l[k]?=some l[k]:=List.getElem?_eq_getElem hkl
   rw [q0h hr,q2r] at hf2
   (try simp only [rwp,hwR,zA,zB,zC,zD,zE,zF,zG,zH,zI,hcl,hxk,Option.map_some])
   (refine q02 (fun hc=>?_) (fun hc=>?_)<;>(try simp only [hlc] at hc))
   ·have he:cycF s i k t r=11:=by rw [cycF,hgx,if_pos (by omega)]
    rw [he,if_neg (by decide)] at hf2
    rw [← hf2] at hf
    (try simp only [rwp,hwR,zA,zB,zC,zD,zE,zF,zG,zH,zI])
    refine ret _ _ _ ?_
    rw [hck,← hf];rfl
   ·have he:cycF s i k t r=0:=by rw [cycF,hgx,if_neg (by omega)]
    rw [he,if_pos rfl] at hf2
    (simp (disch:=omega) only [q07])
    exact q09 rfl (hq2 (k+1) _ ⟨rfl,by omega,hf2⟩ (by omega))
  ·rw [q0z hlt2,q2r] at hf2
   rw [← hf2] at hf
   (simp (disch:=omega) only [q07])
   exact q09 rfl (hq (i+1) _ ⟨rfl,by omega,hf⟩ (by omega))
 ·rw [q0z hlt,q2q] at hf
  (try simp only [rwp,hwR,zA,zB,zC,zD,zE,zF,zG,zH,zI])
  refine ret _ _ _ ?_
  rw [hck,← hf];rfl
theorem c_ref12_Levels {s:List Ty} (hs:OkS s) (hN:OkN s):AFun PG nrx27 [scA s] (lvlF s):=by
 intro S
 refine wx27 ?_
 unfold Bx27
 (try simp only [rwp,hwR,zA,zB,zC,zD,zE,zF,zG,zH,zI,scA])
 refine q05 (by simpa only [scA] using c_ref12_Check hs hN) ?_
 obtain ⟨ft,fr,fe,hp⟩:=chkF_fl s
 rw [hp]
 (try simp only [rwp,hwR,zA,zB,zC,zD,zE,zF,zG,zH,zI,flA])
 (refine q02 (fun h0=>?_) (fun h0=>?_)<;>(try simp only [hlc] at h0))
 ·exact q7q ⟨by rw [lvlF,hp,q1t,if_neg (by omega)],rfl⟩
 have hg:GoodS s:=q2n (by rw [hp,q1t];omega)
 refine q05 (by simpa only [scA] using q62 hs hN hg) ?_
 (try simp only [rwp,hwR,zA,zB,zC,zD,zE,zF,zG,zH,zI])
 exact q7q ⟨by rw [lvlF,hp,q1t,if_pos (by omega)],rfl⟩
theorem sum_mem:∀ {l:List Nat} {x:Nat},x∈l→x≤l.sum
 | [],x,h=>by cases h
 | y :: l,x,h=>by
  rw [List.sum_cons]
  rcases List.mem_cons.1 h with rfl | h
  ·omega
  ·have:=sum_mem h;omega
theorem few_N {s:List Ty} {most:Int} (h:fewF s most=true) (hm:most≤1000):OkN s:=by
 have h1:=few_size h
 intro t ht r hr
 have h2:rsz r≤tsz t:=by
  unfold tsz
  exact sum_mem (List.mem_map_of_mem hr)
 have h3:tsz t≤(s.map tsz).sum:=sum_mem (List.mem_map_of_mem ht)
 unfold ssz at h1
 omega
set_option maxRecDepth 4000
structure Ob where
 ty:ByteArray
 id:ByteArray
 deriving DecidableEq
structure Nd where
 o:Ob
 rl:ByteArray
 deriving DecidableEq
structure Tu where
 o:Ob
 rl:ByteArray
 s:Nd
 deriving DecidableEq
def obC (o:Ob):List AV:=[.str o.ty,.str o.id]
def ndC (n:Nd):List AV:=[.str n.o.ty,.str n.o.id,.str n.rl]
def tuC (t:Tu):List AV:=[.str t.o.ty,.str t.o.id,.str t.rl,.str t.s.o.ty,.str t.s.o.id,.str t.s.rl]
structure OkO (o:Ob):Prop where
 ty:o.ty.size≤1125899906842624
 id:o.id.size≤1125899906842624
structure OkD (n:Nd):Prop where
 o:OkO n.o
 rl:n.rl.size≤1125899906842624
structure OkU (t:Tu):Prop where
 o:OkO t.o
 rl:t.rl.size≤1125899906842624
 s:OkD t.s
theorem c_names_great (n:Int):AFun PG nrx201 [.int .u8 n] (.bool (greatN n)):=by
 intro S
 refine wx201 ?_
 unfold Bx201
 (try simp only [rwp,zA,zB,zC,zD,zE,zF,zG,zH,zI])
 exact q03 ⟨rfl,rfl⟩
theorem q8b (s:ByteArray) (c:Int):AFun PG 216 [.str s,.int .u8 c] (.int .i64 (Lib.indexByte s.data.toList c.toNat.toUInt8)):=by
 intro S R w vs hs hv
 obtain ⟨l⟩:=vs
 match l,hv with
 | [],hv=>cases hv.1
 | [_],hv=>cases hv.1
 | _ :: _ :: _ :: _,hv=>cases hv.1
 | [a,b],hv=>
  have h1:RV R w (.str s) a:=hv.head
  have h2:RV R w (.int .u8 c) b:=hv.tail.head
  cases h1
  cases h2
  refine .inr ⟨_,w,?_,R,S,.ret (.int .i64 (Lib.indexByte s.data.toList c.toNat.toUInt8)),.int _ _,⟨rfl,rfl⟩,hs,Step.refl _ _ _⟩
  rw [run_callFunc_extern Go.Proofs.Tryz.func216 (by kernel_rfl) (by kernel_rfl) (by kernel_rfl) (e:=Extern.BytealgIndexByte.indexByte) (by kernel_rfl),Lib.run_indexByteString]
  rfl
theorem c_IndexByte0 (s:ByteArray) (c:Int):AFun PG nrx213 [.str s,.int .u8 c] (.int .i64 (Lib.indexByte s.data.toList c.toNat.toUInt8)):=by
 intro S
 refine wx213 ?_
 unfold Bx213
 refine q05 (q8b s c) ?_
 exact q03 ⟨rfl,rfl⟩
theorem c_IndexByte (s:ByteArray) (c:Int):AFun PG nrx202 [.str s,.int .u8 c] (.int .i64 (Lib.indexByte s.data.toList c.toNat.toUInt8)):=by
 intro S
 refine wx202 ?_
 unfold Bx202
 refine q05 (c_IndexByte0 s c) ?_
 exact q03 ⟨rfl,rfl⟩
def signN (n:Int):Bool:=decide (n=95)||(decide (n=46)||decide (n=45))
theorem sign_idx {b:UInt8}:decide ((0:Int)≤Lib.indexByte [95,46,45] b.toNat.toUInt8)=signN b.toNat:=by
 have key:∀ n:Fin 256,decide ((0:Int)≤Lib.indexByte [95,46,45] n.1.toUInt8)=signN n.1:=by decide +kernel
 exact key ⟨b.toNat,b.toNat_lt⟩
def idN (n:Int):Bool:=q5x n||(greatN n||(digitN n||signN n))
theorem c_names_ID_1 (b:UInt8):AFun PG nrx200 [.int .u8 b.toNat] (.bool (idN b.toNat)):=by
 intro S
 refine wx200 ?_
 unfold Bx200
 refine q05 (q4e b.toNat) ?_
 cases h1:q5x b.toNat
 ·(try simp only [rwp,zA,zB,zC,zD,zE,zF,zG,zH,zI])
  refine q05 (c_names_great b.toNat) ?_
  cases h2:greatN b.toNat
  ·(try simp only [rwp,zA,zB,zC,zD,zE,zF,zG,zH,zI,C200_1])
   refine q05 (q79 b.toNat) ?_
   cases h3:digitN b.toNat
   ·(try simp only [rwp,zA,zB,zC,zD,zE,zF,zG,zH,zI,C200_2])
    refine q05 (c_IndexByte _ _) ?_
    (try simp only [rwp,zA,zB,zC,zD,zE,zF,zG,zH,zI])
    exact q03 ⟨by rw [sign_idx];simp [idN,h1,h2,h3],rfl⟩
   ·(try simp only [rwp,zA,zB,zC,zD,zE,zF,zG,zH,zI,C200_2])
    exact q03 ⟨by simp [idN,h1,h2,h3],rfl⟩
  ·(try simp only [rwp,zA,zB,zC,zD,zE,zF,zG,zH,zI,C200_1,C200_2])
   exact q03 ⟨by simp [idN,h1,h2],rfl⟩
 ·(try simp only [rwp,zA,zB,zC,zD,zE,zF,zG,zH,zI,C200_1,C200_2])
  exact q03 ⟨by simp [idN,h1],rfl⟩
def idB (s:ByteArray):Bool:=allB idN s&&(decide ((0:Int)<s.size)&&decide ((s.size:Int)≤24))
theorem c_names_ID {s:ByteArray} (hs:s.size≤1125899906842624):AFun PG nrx168 [.str s] (.bool (idB s)):=by
 intro S
 refine wx168 ?_
 unfold Bx168
 refine q05 (q8u c_names_ID_1 hs 24) ?_
 exact q03 ⟨rfl,rfl⟩
theorem nb1:∀ a b c d e:Bool,(!(a&&b)&&!c&&!d&&!e)=!((a&&b)||(c||(d||e))):=by decide
theorem nb2:∀ z a b c d e:Bool,(!z&&!(a&&b)&&!c&&!d&&!e)=!(z||((a&&b)||(c||(d||e)))):=by decide
theorem c_ref10_ID {s:ByteArray} (hs:s.size≤1125899906842624):AFun PG nrx79 [.str s] (.bool (idB s)):=by
 intro S
 refine wx79 ?_
 unfold Bx79
 (try simp only [rwp,zA,zB,zC,zD,zE,zF,zG,zH,zI,C79_1])
 (refine q02 (fun h0=>?_) (fun h0=>?_)<;>(try simp only [rwp,zA,zB,zC,zD,zE,zF,zG,zH,zI,h0]))
 ·simp only [Bool.or_eq_true,decide_eq_true_eq] at h0
  refine q03 ⟨?_,rfl⟩
  have:idB s=false:=by
   rcases h0 with h | h
   ·simp only [idB,decide_eq_false (show ¬ (0:Int)<s.size by omega),Bool.false_and,Bool.and_false]
   ·simp only [idB,decide_eq_false (show ¬ (s.size:Int)≤24 by omega),Bool.and_false]
  rw [this]
 ·simp only [Bool.or_eq_false_iff,decide_eq_false_iff_not] at h0
  refine LoopP.intro (fun i:Nat=>[(0,.str s),(3,.int .i64 i)]) (fun _=>S) (fun i=>i≤s.size∧∀ j b,j<i→s[j]?=some b→idN b.toNat=true) (fun i=>s.size-i) 0 ⟨by omega,by omega⟩ rfl (Sub.refl S) ?_
  rintro i ⟨hi,hn⟩ r hr
  (try simp only [rwp,zA,zB,zC,zD,zE,zF,zG,zH,zI,C79_2])
  (refine q02 (fun hlt=>?_) (fun hlt=>?_)<;>(try simp only [hlc] at hlt))
  ·obtain ⟨b,hb⟩:=q4f hlt
   (try simp only [rwp,zA,zB,zC,zD,zE,zF,zG,zH,zI,hb])
   have good:idN b.toNat=true→r [(0,.str s),(3,.int .i64 ((i:Int)+1))] S:=fun h=>by
    refine hr (i+1) ⟨by omega,fun j c hj hc=>?_⟩ (by omega)
    rcases Nat.lt_succ_iff_lt_or_eq.1 hj with h1 | rfl
    ·exact hn j c h1 hc
    ·rw [hb] at hc;cases hc;exact h
   have bad:idN b.toNat=false→idB s=false:=fun h=>by simp only [idB,q8d hb h,Bool.false_and]
   cases a1:(decide (97≤(b.toNat:Int))&&decide ((b.toNat:Int)≤122))<;>cases a2:decide (65≤(b.toNat:Int))<;>(try simp only [rwp,zA,zB,zC,zD,zE,zF,zG,zH,zI,C79_3,C79_4,C79_5,C79_6,C79_7,C79_8,C79_9,C79_10,a1,a2])
   all_goals have key:idN b.toNat=((decide (97≤(b.toNat:Int))&&decide ((b.toNat:Int)≤122))||((decide (65≤(b.toNat:Int))&&decide ((b.toNat:Int)≤90))||((decide (48≤(b.toNat:Int))&&decide ((b.toNat:Int)≤57))||(decide ((b.toNat:Int)=95)||(decide ((b.toNat:Int)=46)||decide ((b.toNat:Int)=45)))))):=rfl
   all_goals rw [a1,a2] at key
   ·simp only [Bool.false_or,Bool.false_and] at key
    (refine q02 (fun h9=>?_) (fun h9=>?_)<;>(try simp only [rwp,zA,zB,zC,zD,zE,zF,zG,zH,zI,h9]))
    ·exact q03 ⟨by rw [bad (key.trans (Eq.mp (Bool.not_eq_true' _) ((nb1 _ _ _ _ _).symm.trans h9)))],rfl⟩
    ·(simp (disch:=omega) only [q07]);exact q09 rfl (good (key.trans (Eq.mp (Bool.not_eq_false' _) ((nb1 _ _ _ _ _).symm.trans h9))))
   ·simp only [Bool.false_or,Bool.true_and] at key
    (refine q02 (fun h9=>?_) (fun h9=>?_)<;>(try simp only [rwp,zA,zB,zC,zD,zE,zF,zG,zH,zI,h9]))
    ·exact q03 ⟨by rw [bad (key.trans (Eq.mp (Bool.not_eq_true' _) ((nb2 _ _ _ _ _ _).symm.trans h9)))],rfl⟩
    ·(simp (disch:=omega) only [q07]);exact q09 rfl (good (key.trans (Eq.mp (Bool.not_eq_false' _) ((nb2 _ _ _ _ _ _).symm.trans h9))))
   ·(simp (disch:=omega) only [q07]);exact q09 rfl (good key)
   ·(simp (disch:=omega) only [q07]);exact q09 rfl (good key)
  ·have hall:allB idN s=true:=allB_iff.2 fun j c hc=>hn j c (by have:=q7d hc;omega) hc
   refine q03 ⟨?_,rfl⟩
   rw [idB,hall,decide_eq_true (show (0:Int)<s.size by omega),decide_eq_true (show (s.size:Int)≤24 by omega)]
   rfl
def obB (o:Ob):Bool:=q0q o.ty&&idB o.id
def tuB (t:Tu):Bool:=obB t.o&&(obB t.s.o&&(q0q t.rl&&(decide (t.s.rl=⟨#[]⟩)||q0q t.s.rl)))
def q4l (o:Ob):ByteArray:=if obB o then o.ty++⟨#[58]⟩++o.id else ⟨#[]⟩
def q65 (n:Nd):ByteArray:=if obB n.o then (if n.rl=⟨#[]⟩ then q4l n.o else if q0q n.rl then q4l n.o++⟨#[35]⟩++n.rl else ⟨#[]⟩) else ⟨#[]⟩
def q8x (t:Tu):ByteArray:=if tuB t then q4l t.o++⟨#[35]⟩++t.rl++⟨#[64]⟩++q65 t.s else ⟨#[]⟩
theorem q3s {a b:ByteArray}:(a++b).size=a.size+b.size:=by simp
theorem app_ne {a b:ByteArray} (h:0<a.size∨0<b.size):¬ a++b=⟨#[]⟩:=fun e=>by
 have:=congrArg ByteArray.size e
 rw [q3s] at this
 have:(ByteArray.mk #[]).size=0:=rfl
 omega
theorem q3y {o:Ob} (ho:OkO o):AFun PG nrx124 [.agg (obC o)] (.str (q4l o)):=by
 intro S
 refine wx124 ?_
 unfold Bx124
 (try simp only [rwp,zA,zB,zC,zD,zE,zF,zG,zH,zI,rwb,reduceIte,obC])
 refine q05 (q14 ho.ty) ?_
 have h1:=ho.ty
 have h2:=ho.id
 cases a1:q0q o.ty
 ·(try simp only [rwp,zA,zB,zC,zD,zE,zF,zG,zH,zI,rwb,reduceIte,C124_1])
  exact q03 ⟨by simp [q4l,obB,a1],rfl⟩
 ·(try simp only [rwp,zA,zB,zC,zD,zE,zF,zG,zH,zI,rwb,reduceIte])
  refine q05 (c_names_ID ho.id) ?_
  cases a2:idB o.id
  ·(try simp only [rwp,zA,zB,zC,zD,zE,zF,zG,zH,zI,rwb,reduceIte,C124_1])
   exact q03 ⟨by simp [q4l,obB,a1,a2],rfl⟩
  ·(try simp only [rwp,zA,zB,zC,zD,zE,zF,zG,zH,zI,rwb,reduceIte,C124_1,ByteArray.size_append])
   refine ⟨?_,?_,q03 ⟨by simp [q4l,obB,a1,a2],rfl⟩⟩
   ·have:(ByteArray.mk #[58]).size=1:=rfl
    omega
   ·have:(ByteArray.mk #[58]).size=1:=rfl
    omega
theorem q6s {o:Ob} (ho:OkO o):(q4l o).size≤2251799813685249:=by
 have h1:=ho.ty
 have h2:=ho.id
 unfold q4l
 split
 ·rw [q3s,q3s]
  have:(ByteArray.mk #[58]).size=1:=rfl
  omega
 ·exact Nat.zero_le _
theorem q4q {o:Ob}:decide (q4l o=⟨#[]⟩)=!obB o:=by
 unfold q4l
 cases h:obB o
 ·rfl
 ·rw [if_pos rfl]
  refine decide_eq_false (app_ne (.inl ?_))
  rw [q3s]
  have:(ByteArray.mk #[58]).size=1:=rfl
  omega
theorem q6h {n:Nd} (hn:OkD n):AFun PG nrx125 [.agg (ndC n)] (.str (q65 n)):=by
 intro S
 refine wx125 ?_
 unfold Bx125
 (try simp only [rwp,zA,zB,zC,zD,zE,zF,zG,zH,zI,rwb,reduceIte,ndC])
 have q:=q3y hn.o
 simp only [obC] at q
 have h1:=q6s hn.o
 have h2:=hn.rl
 refine q05 q ?_
 (try simp only [rwp,zA,zB,zC,zD,zE,zF,zG,zH,zI,rwb,reduceIte])
 rw [q4q]
 cases a1:obB n.o
 ·(try simp only [rwp,zA,zB,zC,zD,zE,zF,zG,zH,zI,rwb,reduceIte,C125_1])
  exact q03 ⟨by simp [q65,q4l,a1],rfl⟩
 ·cases a2:decide (n.rl=⟨#[]⟩)
  ·(try simp only [rwp,zA,zB,zC,zD,zE,zF,zG,zH,zI,rwb,reduceIte,C125_1,a2])
   have a2:=of_decide_eq_false a2
   refine q05 (q14 hn.rl) ?_
   cases a3:q0q n.rl
   ·(try simp only [rwp,zA,zB,zC,zD,zE,zF,zG,zH,zI,rwb,reduceIte])
    exact q03 ⟨by simp [q65,a1,a2,a3],rfl⟩
   ·(try simp only [rwp,zA,zB,zC,zD,zE,zF,zG,zH,zI,rwb,reduceIte,ByteArray.size_append])
    have:(ByteArray.mk #[35]).size=1:=rfl
    exact ⟨by omega,by omega,q03 ⟨by simp [q65,a1,a2,a3],rfl⟩⟩
  ·(try simp only [rwp,zA,zB,zC,zD,zE,zF,zG,zH,zI,rwb,reduceIte,C125_1,a2])
   have a2:=of_decide_eq_true a2
   exact q03 ⟨by simp [q65,a1,a2],rfl⟩
theorem showN_le {n:Nd} (hn:OkD n):(q65 n).size≤4503599627370496:=by
 have h1:=q6s hn.o
 have h2:=hn.rl
 have:(ByteArray.mk #[35]).size=1:=rfl
 unfold q65
 repeat' split
 ·omega
 ·rw [q3s,q3s];omega
 ·exact Nat.zero_le _
 ·exact Nat.zero_le _
theorem showN_nil {n:Nd}:decide (q65 n=⟨#[]⟩)=!(obB n.o&&(decide (n.rl=⟨#[]⟩)||q0q n.rl)):=by
 unfold q65
 cases h1:obB n.o
 ·rfl
 ·rw [if_pos rfl]
  by_cases h2:n.rl=⟨#[]⟩
  ·rw [if_pos h2,q4q,h1,decide_eq_true h2];rfl
  ·rw [if_neg h2,decide_eq_false h2]
   cases h3:q0q n.rl
   ·rfl
   ·rw [if_pos rfl]
    refine decide_eq_false (app_ne (.inl ?_))
    rw [q3s]
    have:(ByteArray.mk #[35]).size=1:=rfl
    omega
theorem tuB_eq (t:Tu):tuB t=(obB t.o&&((obB t.s.o&&(decide (t.s.rl=⟨#[]⟩)||q0q t.s.rl))&&q0q t.rl)):=by
 unfold tuB
 cases obB t.o<;>cases obB t.s.o<;>cases q0q t.rl<;>simp
theorem showT_nil {t:Tu}:decide (q8x t=⟨#[]⟩)=!tuB t:=by
 unfold q8x
 cases h1:tuB t
 ·rfl
 ·rw [if_pos rfl]
  refine decide_eq_false (app_ne (.inl ?_))
  rw [q3s]
  have:(ByteArray.mk #[64]).size=1:=rfl
  omega
theorem q8a {t:Tu} (ht:OkU t):AFun PG nrx98 [.agg (tuC t)] (.str (q8x t)):=by
 intro S
 refine wx98 ?_
 unfold Bx98
 (try simp only [rwp,zA,zB,zC,zD,zE,zF,zG,zH,zI,rwb,reduceIte,tuC])
 have q1:=q3y ht.o
 have q2:=q6h ht.s
 simp only [obC] at q1
 simp only [ndC] at q2
 have h1:=q6s ht.o
 have h2:=showN_le ht.s
 have h3:=ht.rl
 refine q05 q1 ?_
 (try simp only [rwp,zA,zB,zC,zD,zE,zF,zG,zH,zI,rwb,reduceIte])
 refine q05 q2 ?_
 (try simp only [rwp,zA,zB,zC,zD,zE,zF,zG,zH,zI,rwb,reduceIte])
 have e:=tuB_eq t
 rw [q4q,showN_nil]
 cases a1:obB t.o
 ·(try simp only [rwp,zA,zB,zC,zD,zE,zF,zG,zH,zI,rwb,reduceIte,C98_1,C98_2])
  exact q03 ⟨by simp [q8x,e,a1],rfl⟩
 ·cases a2:(obB t.s.o&&(decide (t.s.rl=⟨#[]⟩)||q0q t.s.rl))
  ·(try simp only [rwp,zA,zB,zC,zD,zE,zF,zG,zH,zI,rwb,reduceIte,C98_1,C98_2])
   exact q03 ⟨by simp only [q8x,e,a1,a2];rfl,rfl⟩
  ·(try simp only [rwp,zA,zB,zC,zD,zE,zF,zG,zH,zI,rwb,reduceIte,C98_1])
   refine q05 (q14 ht.rl) ?_
   cases a3:q0q t.rl
   ·(try simp only [rwp,zA,zB,zC,zD,zE,zF,zG,zH,zI,rwb,reduceIte,C98_2])
    exact q03 ⟨by simp only [q8x,e,a1,a2,a3];rfl,rfl⟩
   ·(try simp only [rwp,zA,zB,zC,zD,zE,zF,zG,zH,zI,rwb,reduceIte,C98_2,ByteArray.size_append])
    have:(ByteArray.mk #[35]).size=1:=rfl
    have:(ByteArray.mk #[64]).size=1:=rfl
    exact ⟨by omega,by omega,by omega,by omega,q03 ⟨by simp only [q8x,e,a1,a2,a3];rfl,rfl⟩⟩
set_option maxRecDepth 4000
section
variable {α:Type} {enc:α→List AV} {xs:List α} {S:q00} {g:Nat} {fi ca:List AV} {p:α→Bool}
theorem q95 (hl:∀ x∈xs,(enc x).length=2) (hb:xs.length≤1125899906842624) (hp:∀ x∈xs,AFunS PG g (fi++[.agg (enc x)]++ca) S (.bool (p x))) :
  AFunS PG nrx127 [.sl 2 (xs.map enc),.func (.func g) fi ca] S (.int .i64 (oi (q0r p xs))):=by
 refine wx127 ?_
 unfold Bx127
 (try simp only [rwp,zA,zB,zC,zD,zE,zF,zG,zH,zI])
 refine LoopP.intro (fun i:Nat=>[(0,.sl 2 (xs.map enc)),(1,.func (.func g) fi ca),(7,.int .i64 xs.length),(8,.int .i64 i)]) (fun _=>S) (fun i=>i≤xs.length∧∀ j x,j<i→xs[j]?=some x→p x=false) (fun i=>xs.length-i) 0 ⟨by omega,by omega⟩ rfl (Sub.refl S) ?_
 rintro i ⟨hi,hn⟩ r hr
 unfold C127_1
 (try simp only [rwp,zA,zB,zC,zD,zE,zF,zG,zH,zI])
 (refine q02 (fun hlt=>?_) (fun hlt=>?_)<;>(try simp only [hlc] at hlt))
 ·obtain ⟨x,hx⟩:=q0e hlt
  (try simp only [rwp,zA,zB,zC,zD,zE,zF,zG,zH,zI,hx])
  rw [tkW_all (hl x (List.mem_of_getElem? hx))]
  refine caW_atv (hp x (List.mem_of_getElem? hx)) ?_
  (refine q02 (fun he=>?_) (fun he=>?_)<;>(try simp only [rwp,zA,zB,zC,zD,zE,zF,zG,zH,zI,he]))
  ·have:q0r p xs=some i:=firstI_some.2 ⟨⟨x,hx,he⟩,hn⟩
   exact q03 ⟨by rw [this];rfl,rfl⟩
  ·(simp (disch:=omega) only [q07])
   refine q09 rfl (hr (i+1) ⟨by omega,fun j u hj hu=>?_⟩ (by omega))
   rcases Nat.lt_succ_iff_lt_or_eq.1 hj with h | rfl
   ·exact hn j u h hu
   ·rw [hx] at hu;cases hu;exact he
 ·have:q0r p xs=none:=firstI_none.2 fun j u hu=>hn j u (by have:=(List.getElem?_eq_some_iff.1 hu).1;omega) hu
  exact q03 ⟨by rw [this];rfl,rfl⟩
theorem q6j (hl:∀ x∈xs,(enc x).length=2) (hb:xs.length≤1125899906842624) (hp:∀ x∈xs,AFunS PG g (fi++[.agg (enc x)]++ca) S (.bool (p x))) :
  AFunS PG nrx80 [.sl 2 (xs.map enc),.func (.func g) fi ca] S (.bool (xs.any p)):=by
 refine wx80 ?_
 unfold Bx80
 refine q1h (q95 hl hb hp) ?_
 (try simp only [rwp,zA,zB,zC,zD,zE,zF,zG,zH,zI])
 exact q03 ⟨by rw [oi_some,q3f],rfl⟩
end
theorem c_Index_Ref {l:List Rf} (hl:l.length≤1125899906842624) (f:Rf):AFun PG nrx145 [.sl 2 (l.map rfC),.agg (rfC f)] (.int .i64 (oi (q0r (fun g=>decide (f.ty=g.ty)&&decide (f.rl=g.rl)) l))):=by
 intro S
 refine wx145 ?_
 unfold Bx145
 (try simp only [rwp,zA,zB,zC,zD,zE,zF,zG,zH,zI,rfC])
 refine LoopP.intro (fun i:Nat=>[(0,.sl 2 (l.map rfC)),(3,.rop [.str f.ty,.str f.rl]),(7,.int .i64 l.length),(8,.int .i64 i)]) (fun _=>S) (fun i=>i≤l.length∧∀ j x,j<i→l[j]?=some x→(decide (f.ty=x.ty)&&decide (f.rl=x.rl))=false) (fun i=>l.length-i) 0 ⟨by omega,by omega⟩ rfl (Sub.refl S) ?_
 rintro i ⟨hi,hn⟩ r hr
 unfold C145_1
 (try simp only [rwp,zA,zB,zC,zD,zE,zF,zG,zH,zI])
 (refine q02 (fun hlt=>?_) (fun hlt=>?_)<;>(try simp only [hlc] at hlt))
 ·obtain ⟨x,hx⟩:=q0e hlt
  (try simp only [rwp,zA,zB,zC,zD,zE,zF,zG,zH,zI,hx,rfC,eqW_def])
  (refine q02 (fun he=>?_) (fun he=>?_)<;>(try simp only [rwp,zA,zB,zC,zD,zE,zF,zG,zH,zI,he]))
  ·have:q0r (fun g:Rf=>decide (f.ty=g.ty)&&decide (f.rl=g.rl)) l=some i:=firstI_some.2 ⟨⟨x,hx,he⟩,hn⟩
   exact q03 ⟨by rw [this];rfl,rfl⟩
  ·(simp (disch:=omega) only [q07])
   refine q09 rfl (hr (i+1) ⟨by omega,fun j u hj hu=>?_⟩ (by omega))
   rcases Nat.lt_succ_iff_lt_or_eq.1 hj with h | rfl
   ·exact hn j u h hu
   ·rw [hx] at hu;cases hu;exact he
 ·have:q0r (fun g:Rf=>decide (f.ty=g.ty)&&decide (f.rl=g.rl)) l=none:=firstI_none.2 fun j u hu=>hn j u (by have:=(List.getElem?_eq_some_iff.1 hu).1;omega) hu
  exact q03 ⟨by rw [this];rfl,rfl⟩
theorem c_Contains_Ref {l:List Rf} (hl:l.length≤1125899906842624) (f:Rf):AFun PG nrx100 [.sl 2 (l.map rfC),.agg (rfC f)] (.bool (l.any fun g=>decide (f.ty=g.ty)&&decide (f.rl=g.rl))):=by
 intro S
 refine wx100 ?_
 unfold Bx100
 have q:=c_Index_Ref hl f
 simp only [rfC] at q
 (try simp only [rwp,zA,zB,zC,zD,zE,zF,zG,zH,zI,rfC])
 refine q05 q ?_
 (try simp only [rwp,zA,zB,zC,zD,zE,zF,zG,zH,zI])
 exact q03 ⟨by rw [oi_some,q3f],rfl⟩
def q2d (s:List Ty) (t:Tu):Int:=if tuB t then (match q0g s t.o.ty t.rl with
  | none=>6
  | some (_,_,r)=>if (typF s t.s.o.ty).isSome then (if r.refs.any fun f=>decide (t.s.o.ty=f.ty)&&decide (t.s.rl=f.rl) then 0 else 10) else 6) else 1
theorem q88 {u:Ty} {t:Tu}:AFun PG nrx99 [.agg (tyC u),.rop (tuC t)] (.bool (decide (u.name=t.s.o.ty))):=by
 intro S
 refine wx99 ?_
 unfold Bx99
 (try simp only [rwp,zA,zB,zC,zD,zE,zF,zG,zH,zI,tyC,tuC])
 exact q03 ⟨rfl,rfl⟩
theorem typ_any {s:List Ty} {n:ByteArray}:(s.any fun u=>decide (u.name=n))=(typF s n).isSome:=by rw [typF,q3f]
theorem c_tuple_Allowed {s:List Ty} (hs:OkS s) {t:Tu} (ht:OkU t):AFun PG nrx49 [scA s,.agg (tuC t)] (.int .i64 (q2d s t)):=by
 intro S
 refine wx49 ?_
 unfold Bx49
 have q:=q8a ht
 simp only [tuC] at q
 (try simp only [rwp,zA,zB,zC,zD,zE,zF,zG,zH,zI,rwb,reduceIte,scA,tuC])
 refine q05 q ?_
 (try simp only [rwp,zA,zB,zC,zD,zE,zF,zG,zH,zI,rwb,reduceIte])
 rw [showT_nil]
 cases a1:tuB t
 ·(try simp only [rwp,zA,zB,zC,zD,zE,zF,zG,zH,zI,rwb,reduceIte])
  exact q03 ⟨by simp [q2d,a1],rfl⟩
 ·(try simp only [rwp,zA,zB,zC,zD,zE,zF,zG,zH,zI,rwb,reduceIte])
  have q2:=c_rules_Find hs t.o.ty t.rl
  simp only [scA] at q2
  cases hq:q0g s t.o.ty t.rl with
  | none=>
   refine q1b (q2 S) ?_
   rintro ae S' ⟨rfl,rfl⟩
   rw [hq]
   dsimp only
   (try simp only [rwp,zA,zB,zC,zD,zE,zF,zG,zH,zI,rwb,reduceIte,C49_1,zeroR])
   exact q03 ⟨by simp [q2d,a1,hq],rfl⟩
  | some q3=>
   obtain ⟨i,k,r⟩:=q3
   obtain ⟨-,ty,h2,-,h4⟩:=q11 hq
   have hok:=(hs.at h2).at h4
   refine q1b (q2 S) ?_
   rintro ae S' ⟨rfl,rfl⟩
   rw [hq]
   dsimp only
   (try simp only [rwp,zA,zB,zC,zD,zE,zF,zG,zH,zI,rwb,reduceIte,q0l])
   refine q1h (q6j (enc:=tyC) (fi:=[]) (p:=fun u:Ty=>decide (u.name=t.s.o.ty)) (fun x _=>rfl) hs.types fun u _=>q88 (u:=u) (t:=t) S') ?_
   rw [typ_any]
   cases a2:(typF s t.s.o.ty).isSome
   ·(try simp only [rwp,zA,zB,zC,zD,zE,zF,zG,zH,zI,rwb,reduceIte,C49_1])
    exact q03 ⟨by simp only [q2d,a1,hq,a2];rfl,rfl⟩
   ·(try simp only [rwp,zA,zB,zC,zD,zE,zF,zG,zH,zI,rwb,reduceIte,C49_1])
    have q4:=c_Contains_Ref hok.refs ⟨t.s.o.ty,t.s.rl⟩
    simp only [rfC] at q4
    refine q05 q4 ?_
    cases a3:(r.refs.any fun f=>decide (t.s.o.ty=f.ty)&&decide (t.s.rl=f.rl))
    ·(try simp only [rwp,zA,zB,zC,zD,zE,zF,zG,zH,zI,rwb,reduceIte])
     exact q03 ⟨by simp only [q2d,a1,hq,a2,a3];rfl,rfl⟩
    ·(try simp only [rwp,zA,zB,zC,zD,zE,zF,zG,zH,zI,rwb,reduceIte])
     exact q03 ⟨by simp only [q2d,a1,hq,a2,a3];rfl,rfl⟩
theorem q7g {α:Type} {p:α→Bool} {l:List α} {i:Nat} {x:α} (h:l[i]?=some x):(l.take (i+1)).any p=((l.take i).any p||p x):=by
 rw [q10 h,List.any_append];simp
def q0v (s:List Ty) (l:List Tu):List Tu:=l.filter fun t=>decide (q2d s t=0)
def ofF (l:List Tu) (n:Nd):List Tu:=l.filter fun t=>decide (t.o=n.o)&&decide (t.rl=n.rl)
theorem q39 {α:Type} {p:α→Bool} {l:List α} {i:Nat} {x:α} (h:l[i]?=some x):(l.take (i+1)).filter p=(l.take i).filter p++if p x then [x] else []:=by
 rw [q10 h,List.filter_append]
 congr 1
 cases hp:p x<;>simp [hp]
abbrev tyTu:Nat:=41
theorem LstN.tu {S0 S:q00} {v:AV} {l:List Tu} {t:Tu} {K:AV→q00→Prop} (hs:Sub S0 S) (h:LstN S0 S tyTu 6 v (l.map tuC)) (hl:l.length≤1000000) (hK:∀ v' S',Sub S0 S'→LstN S0 S' tyTu 6 v' ((l++[t]).map tuC)→K v' S'):apW S tyTu 6 96 v (.sl 6 [tuC t]) K:=by
 refine LstN.app hs h (fun r hr=>by rw [List.mem_singleton.1 hr];rfl) (q4a fun r hr=>by rw [List.mem_singleton.1 hr];rfl) (by simp only [List.length_map,List.length_singleton];omega) fun v' S' h1 h2 _=>?_
 exact hK v' S' h1 (by simpa using h2)
structure OkL (l:List Tu):Prop where
 n:l.length≤100000
 ok:∀ t∈l,OkU t
def smallF (s:List Ty) (l:List Tu):Bool:=fewF s 60&&decide ((l.length:Int)≤30)
theorem c_law14_Small {s:List Ty} (hs:OkS s) (l:List Tu):AFun PG nrx17 [scA s,.sl 6 (l.map tuC)] (.bool (smallF s l)):=by
 intro S
 refine wx17 ?_
 unfold Bx17
 (try simp only [rwp,zA,zB,zC,zD,zE,zF,zG,zH,zI,rwb,reduceIte,scA])
 refine q05 (by simpa only [scA] using c_law11_Few hs (most:=60) (by decide) (by decide)) ?_
 cases a1:fewF s 60<;>(try simp only [rwp,zA,zB,zC,zD,zE,zF,zG,zH,zI,rwb,reduceIte])<;>exact q03 ⟨by simp [smallF,a1],rfl⟩
def q52 {α σ:Type} (step:σ→α→Option (Bool×σ)):List α→σ→Option (Bool×σ)
 | [],a=>some (false,a)
 | x :: r,a=>match step a x with
  | none=>none
  | some (true,a')=>some (true,a')
  | some (false,a')=>q52 step r a'
structure q1n where
 s:List Ty
 of:Nd→List Nd
 who:Ob
def stepT (who:Ob) (ask:Nd→Nat→Option (Bool×Nat)) (w:Nat) (x:Nd):Option (Bool×Nat):=if x.rl=⟨#[]⟩ then some (decide (x.o=who),w) else ask x w
def stepA (over:ByteArray) (ask:Nd→Nat→Option (Bool×Nat)) (w:Nat) (x:Nd):Option (Bool×Nat):=if x.rl=⟨#[]⟩ then ask ⟨x.o,over⟩ w else some (false,w)
def comb (k:Int) (p:Option (Bool×Nat)) (q:Nat→Option (Bool×Nat)):Option (Bool×Nat):=match p with
 | none=>none
 | some (x,w1)=>if x=decide (k=2) then some (x,w1) else match q w1 with
  | none=>none
  | some (y,w2)=>some (if k=4 then !y else y,w2)
def exQ (E:q1n) (ask:Nd→Nat→Option (Bool×Nat)) (o:Ob):Nat→Ex→Nat→Option (Bool×Nat)
 | 0,_,_=>none
 | m+1,.mk k n ov ks,w=>if k=0 then ask ⟨o,n⟩ w else if k=1 then q52 (stepA ov ask) (E.of ⟨o,n⟩) w else match ks with
  | [a,b]=>comb k (exQ E ask o m a w) (exQ E ask o m b)
  | _=>none
def bodyQ (E:q1n) (ask:Nd→Nat→Option (Bool×Nat)) (n:Nd) (r:Rl) (w:Nat):Option (Bool×Nat):=
 if r.refs.length=0 then exQ E ask n.o 12 r.ex w else q52 (stepT E.who ask) (E.of n) w
def Bu {α:Type} (b:Int) (f g:α→Nat→Option (Bool×Nat)):Prop:=∀ n w x w',f n w=some (x,w')→w≤w'∧((w:Int)≤b→((w':Int)≤b→g n w=some (x,w'))∧(b<(w':Int)→g n w=none))
section
variable {b:Int} {E:q1n} {f g:Nd→Nat→Option (Bool×Nat)}
theorem Bu.fold {α:Type} {s t:Nat→α→Option (Bool×Nat)} (h:Bu b (fun x w=>s w x) (fun x w=>t w x)):Bu b (q52 s) (q52 t):=by
 intro l
 induction l with
 | nil=>
  intro w y w' e
  simp only [q52,Option.some.injEq,Prod.mk.injEq] at e
  obtain ⟨rfl,rfl⟩:=e
  exact ⟨Nat.le_refl _,fun hw=>⟨fun _=>rfl,fun h=>by omega⟩⟩
 | cons x r ih=>
  intro w y w' e
  unfold q52 at e ⊢
  cases hs:s w x with
  | none=>rw [hs] at e;cases e
  | some q=>
   obtain ⟨z,w1⟩:=q
   rw [hs] at e
   obtain ⟨h1,h2⟩:=h x w z w1 hs
   dsimp only at h2
   cases z with
   | true=>
    simp only [Option.some.injEq,Prod.mk.injEq] at e
    obtain ⟨rfl,rfl⟩:=e
    exact ⟨h1,fun hw=>⟨fun h=>by rw [(h2 hw).1 h],fun h=>by rw [(h2 hw).2 h]⟩⟩
   | false=>
    obtain ⟨k1,k2⟩:=ih w1 y w' e
    refine ⟨by omega,fun hw=>?_⟩
    by_cases h4:(w1:Int)≤b
    ·rw [(h2 hw).1 h4]
     exact k2 h4
    ·rw [(h2 hw).2 (by omega)]
     exact ⟨fun h=>by omega,fun _=>rfl⟩
theorem Bu.told {who:Ob} (h:Bu b f g):Bu b (fun x w=>stepT who f w x) (fun x w=>stepT who g w x):=by
 intro x w y w' e
 dsimp only at e ⊢
 unfold stepT at e ⊢
 split at e
 ·rename_i h0
  simp only [if_pos h0]
  simp only [Option.some.injEq,Prod.mk.injEq] at e
  obtain ⟨rfl,rfl⟩:=e
  exact ⟨Nat.le_refl _,fun hw=>⟨fun _=>rfl,fun h=>by omega⟩⟩
 ·rename_i h0
  simp only [if_neg h0]
  exact h x w y w' e
theorem Bu.arr {over:ByteArray} (h:Bu b f g):Bu b (fun x w=>stepA over f w x) (fun x w=>stepA over g w x):=by
 intro x w y w' e
 dsimp only at e ⊢
 unfold stepA at e ⊢
 split at e
 ·rename_i h0
  simp only [if_pos h0]
  exact h _ w y w' e
 ·rename_i h0
  simp only [if_neg h0]
  simp only [Option.some.injEq,Prod.mk.injEq] at e
  obtain ⟨rfl,rfl⟩:=e
  exact ⟨Nat.le_refl _,fun hw=>⟨fun _=>rfl,fun h=>by omega⟩⟩
theorem Bu.ex (h:Bu b f g) (o:Ob):∀ m,Bu b (exQ E f o m) (exQ E g o m)
 | 0=>fun e w y w' h=>by cases h
 | m+1=>by
  have ih:=Bu.ex h o m
  rintro ⟨k,n,ov,ks⟩ w y w' e
  unfold exQ at e ⊢
  split at e
  ·rename_i h0
   simp only [if_pos h0]
   exact h _ w y w' e
  ·rename_i h0
   simp only [if_neg h0]
   split at e
   ·rename_i h1
    simp only [if_pos h1]
    exact Bu.fold (Bu.arr h) _ w y w' e
   ·rename_i h1
    simp only [if_neg h1]
    match ks,e with
    | [x1,x2],e=>
     dsimp only at e ⊢
     unfold comb at e ⊢
     cases hs:exQ E f o m x1 w with
     | none=>rw [hs] at e;cases e
     | some q=>
      obtain ⟨z,w1⟩:=q
      rw [hs] at e
      obtain ⟨k1,k2⟩:=ih x1 w z w1 hs
      dsimp only at e
      split at e
      ·rename_i h2
       simp only [Option.some.injEq,Prod.mk.injEq] at e
       obtain ⟨rfl,rfl⟩:=e
       exact ⟨k1,fun hw=>⟨fun h=>by rw [(k2 hw).1 h];dsimp only;rw [if_pos h2],fun h=>by rw [(k2 hw).2 h]⟩⟩
      ·rename_i h2
       cases hs2:exQ E f o m x2 w1 with
       | none=>rw [hs2] at e;cases e
       | some q2=>
        obtain ⟨z2,w2⟩:=q2
        rw [hs2] at e
        simp only [Option.some.injEq,Prod.mk.injEq] at e
        obtain ⟨e1,rfl⟩:=e
        obtain ⟨k3,k4⟩:=ih x2 w1 z2 w2 hs2
        refine ⟨by omega,fun hw=>?_⟩
        by_cases h4:(w1:Int)≤b
        ·rw [(k2 hw).1 h4]
         dsimp only
         rw [if_neg h2]
         exact ⟨fun h=>by rw [(k4 h4).1 h,← e1],fun h=>by rw [(k4 h4).2 h]⟩
        ·rw [(k2 hw).2 (by omega)]
         exact ⟨fun h=>by omega,fun _=>rfl⟩
    | [],e=>cases e
    | [_],e=>cases e
    | _ :: _ :: _ :: _,e=>cases e
theorem Bu.body (h:Bu b f g) (n:Nd) (r:Rl):Bu b (fun (_:Unit) w=>bodyQ E f n r w) (fun _ w=>bodyQ E g n r w):=by
 intro _ w y w' e
 dsimp only at e ⊢
 unfold bodyQ at e ⊢
 split at e
 ·rename_i h0
  simp only [if_pos h0]
  exact Bu.ex h _ _ _ w y w' e
 ·rename_i h0
  simp only [if_neg h0]
  exact Bu.fold (Bu.told h) _ w y w' e
end
def envE (s:List Ty) (l:List Tu) (who:Ob):q1n:=⟨s,fun n=>(ofF (q0v s l) n).map Tu.s,who⟩
theorem sc_may {s:List Ty} (h:scB s=true):∀ t∈s,∀ r∈t.rels,r.refs.length=0→mayE 12 r.ex=true:=by
 intro t ht r hr h0
 have h1:=List.all_eq_true.1 h t ht
 simp only [typB,Bool.and_eq_true] at h1
 have h2:=List.all_eq_true.1 h1.2 r hr
 simp only [relB,Bool.and_eq_true,Bool.or_eq_true] at h2
 rcases h2.2.2 with h3 | h3
 ·rw [List.length_eq_zero_iff.1 h0] at h3;cases h3
 ·exact h3
theorem counts_ok {s:List Ty} {l:List Tu} (h:OkL l):OkL (q0v s l):=⟨Nat.le_trans (List.length_filter_le _ _) h.n,fun t ht=>h.ok t (List.mem_filter.1 ht).1⟩
theorem q8l {N:Nat} {n:Nat×Nat}:∀ {l:List Ln} {a:Lv×Bool},a.2=false→(q13 N n l a).2=false→(q13 N n l a)=a∧∀ x∈l,¬ (getL a.1 n<getL a.1 x.1+x.2.toNat∧getL a.1 n≤N)
 | [],a,h0,h=>⟨rfl,fun x hx=>by cases hx⟩
 | l :: r,a,h0,h=>by
  have stay:∀ {l:List Ln} {a:Lv×Bool},a.2=true→(q13 N n l a).2=true:=by
   intro l
   induction l with
   | nil=>intro a h;exact h
   | cons x l ih=>
    intro a h
    unfold q13
    split
    ·exact ih rfl
    ·exact ih h
  unfold q13 at h ⊢
  split at h
  ·rw [stay rfl] at h;cases h
  ·rename_i hc
   rw [if_neg hc]
   obtain ⟨h1,h2⟩:=q8l h0 h
   refine ⟨h1,fun x hx=>?_⟩
   rcases List.mem_cons.1 hx with rfl | hx
   ·exact hc
   ·exact h2 x hx
theorem q8k {N:Nat}:∀ {w:List Rw} {a:Lv×Bool},a.2=false→(q16 N w a).2=false→∀ x∈w,∀ l∈x.2,¬ (getL a.1 x.1<getL a.1 l.1+l.2.toNat∧getL a.1 x.1≤N)
 | [],a,h0,h,x,hx=>by cases hx
 | y :: w,a,h0,h,x,hx=>by
  unfold q16 at h
  have stay:∀ {w:List Rw} {a:Lv×Bool},a.2=true→(q16 N w a).2=true:=by
   intro w
   induction w with
   | nil=>intro a h;exact h
   | cons z w ih=>
    intro a h
    unfold q16
    refine ih ?_
    have:∀ {l:List Ln} {a:Lv×Bool},a.2=true→(q13 N z.1 l a).2=true:=by
     intro l
     induction l with
     | nil=>intro a h;exact h
     | cons x l ih=>
      intro a h
      unfold q13
      split
      ·exact ih rfl
      ·exact ih h
    exact this h
  have h1:(q13 N y.1 y.2 a).2=false:=by
   cases hq:(q13 N y.1 y.2 a).2 with
   | false=>rfl
   | true=>rw [stay hq] at h;cases h
  obtain ⟨e1,e2⟩:=q8l h0 h1
  rw [e1] at h
  rcases List.mem_cons.1 hx with rfl | hx
  ·exact e2
  ·exact q8k h0 h x hx
theorem iterF_quiet {N:Nat} {s:List Ty} {w:List Rw} (hw:RwOk s w):∀ {f:Nat} {lv:Lv},Shp lv s→Bdd N lv→q0n s * (N+1)<f+phi N lv→(q16 N w (q4z N w f lv,false)).2=false
 | 0,lv,h1,h2,h3=>by have:=q7t (N:=N) h1;omega
 | f+1,lv,h1,h2,h3=>by
  obtain ⟨k1,k2,k3,k4,k5,k6⟩:=q2x (N:=N) (a:=(lv,false)) hw h1 h2
  unfold q4z
  split
  ·rename_i hr
   have:=k5 rfl hr
   exact iterF_quiet hw k1 k2 (by dsimp only at this;omega)
  ·rename_i hr
   have hr:(q16 N w (lv,false)).2=false:=by simpa using hr
   have h4:=k6 hr
   dsimp only at h4
   rw [h4]
   exact hr
theorem lev_quiet {s:List Ty} (h:q0n s≤256):(q16 (q0n s) (q26 s) (levF s,false)).2=false:=by
 refine iterF_quiet (q4s s) (q5f s) q4g ?_
 have:q0n s * (q0n s+1)≤256 * 257:=Nat.mul_le_mul h (by omega)
 omega
theorem q5k {s:List Ty} (h:errA (chkF s)=0) {i k:Nat} {t:Ty} {r:Rl} (ht:s[i]?=some t) (hr:t.rels[k]?=some r):getL (levF s) (i,k)≤q0n s∧∀ l∈q1a s t.name r,getL (levF s) l.1+l.2.toNat≤getL (levF s) (i,k):=by
 have hg:=q2n h
 have h1:getL (levF s) (i,k)≤q0n s:=by
  unfold chkF at h
  split at h
  ·rename_i h0;exact absurd h h0
  ·cases hq:q2s s (cycF s) with
   | some q=>
    obtain ⟨a,b,e⟩:=q
    have:=q76 hq
    rw [hq] at h
    exact absurd h this
   | none=>
    have h2:=q85 hq ht hr
    unfold cycF at h2
    split at h2
    ·cases h2
    ·omega
 refine ⟨h1,fun l hl=>?_⟩
 have h2:=q8k rfl (lev_quiet hg.many)
 have hm:∃ x∈q26 s,x.1=(i,k)∧x.2=q1a s t.name r:=by
  have h3:=lookR_at ht hr
  have key:∀ w:List Rw,q1s w (i,k)=some (q1a s t.name r)→∃ x∈w,x.1=(i,k)∧x.2=q1a s t.name r:=by
   intro w
   induction w with
   | nil=>intro h;cases h
   | cons x w ih=>
    intro h
    unfold q1s at h
    split at h
    ·rename_i he
     exact ⟨x,by simp,he.symm,Option.some.inj h⟩
    ·obtain ⟨y,hy,h4⟩:=ih h
     exact ⟨y,List.mem_cons_of_mem _ hy,h4⟩
  exact key _ h3
 obtain ⟨x,hx,e1,e2⟩:=hm
 have h4:=h2 x hx l (by rw [e2];exact hl)
 rw [e1] at h4
 dsimp only at h4
 omega
def lvN (s:List Ty) (n:Nd):Nat:=match q0g s n.o.ty n.rl with
 | some (i,k,_)=>getL (levF s) (i,k)
 | none=>0
def exB (E:q1n) (K:Nd→Bool) (o:Ob):Nat→Ex→Bool
 | 0,_=>false
 | m+1,.mk k n ov ks=>if k=0 then K ⟨o,n⟩ else if k=1 then (E.of ⟨o,n⟩).any (fun x=>decide (x.rl=⟨#[]⟩)&&K ⟨x.o,ov⟩) else match ks with
  | [a,b]=>if k=2 then exB E K o m a||exB E K o m b else if k=4 then exB E K o m a&&!exB E K o m b else exB E K o m a&&exB E K o m b
  | _=>false
def q21 (E:q1n) (K:Nd→Bool) (n:Nd) (r:Rl):Bool:=
 if r.refs.length=0 then exB E K n.o 12 r.ex else (E.of n).any fun x=>if x.rl=⟨#[]⟩ then decide (x.o=E.who) else K x
structure OfOk (E:q1n):Prop where
 ok:∀ n x,x∈E.of n→∃ i k r,q0g E.s n.o.ty n.rl=some (i,k,r)∧∃ f∈r.refs,x.o.ty=f.ty∧x.rl=f.rl
theorem env_ok (s:List Ty) (l:List Tu) (who:Ob):OfOk (envE s l who):=by
 refine ⟨fun n x hx=>?_⟩
 obtain ⟨t,ht,rfl⟩:=List.mem_map.1 hx
 unfold ofF q0v at ht
 simp only [List.mem_filter,Bool.and_eq_true,decide_eq_true_eq] at ht
 obtain ⟨⟨-,h1⟩,h2,h3⟩:=ht
 unfold q2d at h1
 rw [h2,h3] at h1
 split at h1
 ·split at h1
  ·cases h1
  ·rename_i i k r hf
   refine ⟨i,k,r,hf,?_⟩
   split at h1
   ·split at h1
    ·rename_i hq
     obtain ⟨f,hf,hq⟩:=List.any_eq_true.1 hq
     simp only [Bool.and_eq_true,decide_eq_true_eq] at hq
     exact ⟨f,hf,hq⟩
    ·cases h1
   ·cases h1
 ·cases h1
def Low (s:List Ty) (N:Nat) (out:Bool) (c:Nd):Prop:=q0g s c.o.ty c.rl=none∨lvN s c+out.toNat≤N
section
variable {E:q1n} {ask:Nd→Nat→Option (Bool×Nat)} {M K:Nd→Bool} {N:Nat}
end
theorem q35 {n:Nd}:∀ {L:List Nd} {k:Nat},n∈L.take k↔n∈L∧L.idxOf n<k
 | [],k=>by simp
 | x :: r,0=>by simp
 | x :: r,k+1=>by
  rw [List.take_succ_cons,List.mem_cons,List.mem_cons,q35 (L:=r) (k:=k),List.idxOf_cons]
  by_cases h:x=n
  ·subst h;simp
  ·have h':n≠x:=fun e=>h e.symm
   have hb:(x==n)=false:=by simpa using h
   rw [hb]
   simp only [h',false_or,cond_false]
   constructor
   ·rintro ⟨h1,h2⟩;exact ⟨h1,by omega⟩
   ·rintro ⟨h1,h2⟩;exact ⟨h1,by omega⟩
structure Mod (E:q1n) (L:List Nd):Prop where
 step:∀ i n,L[i]?=some n→∃ j k r,q0g E.s n.o.ty n.rl=some (j,k,r)∧q21 E (fun c=>decide (c∈L.take i)) n r=true
 lev:∀ n m,n∈L→m∈L→lvN E.s n<lvN E.s m→L.idxOf n<L.idxOf m
 closed:∀ n j k r,q0g E.s n.o.ty n.rl=some (j,k,r)→q21 E (fun c=>decide (c∈L)) n r=true→n∈L
section
variable {E:q1n} {B:Int} {L:List Nd}
end
section
variable {E:q1n} {K K':Nd→Bool} {N:Nat}
theorem Low.weak {s:List Ty} {out:Bool} {c:Nd} (h:Low s N out c):Low s N false c:=by
 rcases h with h | h
 ·exact .inl h
 ·exact .inr (by simp;omega)
theorem exB_congr (hE:OfOk E) (h:∀ c,Low E.s N false c→K c=K' c) (o:Ob) :
  ∀ (m:Nat) (e:Ex) (out:Bool),mayE m e=true→(∀ p∈q0f e out,∀ l∈q3m E.s o.ty p.1 p.2,getL (levF E.s) l.1+l.2.toNat≤N)→exB E K o m e=exB E K' o m e
 | 0,e,out,hm,hl=>by cases hm
 | m+1,.mk k n ov ks,out,hm,hl=>by
  have ih:=exB_congr hE h o m
  unfold mayE at hm
  unfold exB
  unfold q0f at hl
  by_cases k0:k=0
  ·simp only [if_pos k0] at hm ⊢
   rw [Bool.and_eq_true] at hm
   rw [if_pos hm.2] at hl
   refine h _ (Low.weak (out:=out) ?_)
   unfold Low lvN
   cases hq:q0g E.s o.ty n with
   | none=>exact .inl rfl
   | some p=>
    obtain ⟨i,j,r⟩:=p
    refine .inr (hl (.mk k n ov ks,out) (by simp) ((i,j),out) ?_)
    unfold q3m Ex.name
    simp only [hq]
    exact List.mem_cons_self
  ·simp only [if_neg k0] at hm ⊢
   by_cases k1:k=1
   ·simp only [if_pos k1] at hm ⊢
    rw [Bool.and_eq_true,Bool.and_eq_true] at hm
    rw [if_pos hm.2.2] at hl
    have low:∀ x∈E.of ⟨o,n⟩,x.rl=⟨#[]⟩→K ⟨x.o,ov⟩=K' ⟨x.o,ov⟩:=by
     intro x hx hx0
     obtain ⟨i,j,r,h1,f,h2,h3,h4⟩:=hE.ok _ x hx
     refine h _ (Low.weak (out:=out) ?_)
     unfold Low lvN
     cases hq:q0g E.s x.o.ty ov with
     | none=>exact .inl rfl
     | some p=>
      obtain ⟨i2,j2,r2⟩:=p
      refine .inr ?_
      simp only
      refine hl (.mk k n ov ks,out) (by simp) ((i2,j2),out) ?_
      unfold q3m Ex.name Ex.kind Ex.over
      simp only [show q0g E.s o.ty n=some (i,j,r) from h1,if_pos k1]
      refine List.mem_cons_of_mem _ (List.mem_map.2 ⟨(i2,j2),?_,rfl⟩)
      unfold q22
      refine List.mem_filterMap.2 ⟨f,h2,?_⟩
      rw [if_pos (h4.symm.trans hx0),← h3,hq]
      rfl
    rw [Bool.eq_iff_iff]
    simp only [List.any_eq_true,Bool.and_eq_true,decide_eq_true_eq]
    constructor
    ·rintro ⟨x,hx,h0,h1⟩;exact ⟨x,hx,h0,by rw [← low x hx h0];exact h1⟩
    ·rintro ⟨x,hx,h0,h1⟩;exact ⟨x,hx,h0,by rw [low x hx h0];exact h1⟩
   ·simp only [if_neg k1] at hm ⊢
    have k234:k=2∨k=3∨k=4:=by
     refine Classical.byContradiction fun hn=>?_
     rw [if_neg hn] at hm
     cases hm
    rw [if_pos k234] at hm
    obtain ⟨x1,x2,rfl⟩:∃ a b,ks=[a,b]:=by
     match ks,hm with
     | [a,b],_=>exact ⟨a,b,rfl⟩
     | [],hm=>cases hm
     | [_],hm=>cases hm
     | _ :: _ :: _ :: _,hm=>cases hm
    simp only [two,Bool.and_eq_true] at hm
    have hl':∀ p∈q0f x1 out++q0f x2 (out||decide (k=4)),∀ l∈q3m E.s o.ty p.1 p.2,getL (levF E.s) l.1+l.2.toNat≤N:=by
     intro p hp
     refine hl p ?_
     rw [if_neg (by simp)]
     simp only [q0y,List.append_nil]
     simpa using hp
    dsimp only
    rw [ih x1 out hm.1 fun p hp=>hl' p (List.mem_append_left _ hp),ih x2 _ hm.2 fun p hp=>hl' p (List.mem_append_right _ hp)]
theorem body_congr (hE:OfOk E) (hc:errA (chkF E.s)=0) {n:Nd} {i k:Nat} {r:Rl} (hf:q0g E.s n.o.ty n.rl=some (i,k,r)) (h:∀ c,Low E.s (lvN E.s n) false c→K c=K' c):q21 E K n r=q21 E K' n r:=by
 obtain ⟨ht0,ty,hty,-,hkr⟩:=q11 hf
 have hnm:ty.name=n.o.ty:=by
  obtain ⟨⟨x,hx,hp⟩,-⟩:=firstI_some.1 ht0
  rw [hty] at hx
  cases hx
  exact of_decide_eq_true hp
 have hst:=(q5k hc hty hkr).2
 have hlv:lvN E.s n=getL (levF E.s) (i,k):=by unfold lvN;rw [hf]
 rw [← hlv,hnm] at hst
 unfold q21
 unfold q1a at hst
 by_cases h0:r.refs.length=0
 ·simp only [if_pos h0] at hst ⊢
  have hm:mayE 12 r.ex=true:=sc_may (q2n hc).may ty (List.mem_of_getElem? hty) r (List.mem_of_getElem? hkr) h0
  exact exB_congr hE h n.o 12 r.ex false hm fun p hp l hl=>hst l (List.mem_flatMap.2 ⟨p,hp,hl⟩)
 ·simp only [if_neg h0] at hst ⊢
  have low:∀ x∈E.of n,x.rl≠⟨#[]⟩→K x=K' x:=by
   intro x hx hx0
   obtain ⟨i1,k1,r1,h1,f,h2,h3,h4⟩:=hE.ok _ x hx
   rw [hf] at h1
   cases h1
   refine h _ ?_
   unfold Low
   cases hq:q0g E.s x.o.ty x.rl with
   | none=>exact .inl rfl
   | some p=>
    obtain ⟨i2,j2,r2⟩:=p
    refine .inr ?_
    have:=hst ((i2,j2),false) (List.mem_filterMap.2 ⟨f,h2,by unfold q1r;rw [if_neg (by rw [← h4];exact hx0),← h3,← h4,hq];rfl⟩)
    unfold lvN at this ⊢
    rw [hq]
    exact this
  rw [Bool.eq_iff_iff]
  simp only [List.any_eq_true]
  constructor
  ·rintro ⟨x,hx,hb⟩
   refine ⟨x,hx,?_⟩
   by_cases h0:x.rl=⟨#[]⟩
   ·rw [if_pos h0] at hb ⊢;exact hb
   ·rw [if_neg h0] at hb ⊢;rw [← low x hx h0];exact hb
  ·rintro ⟨x,hx,hb⟩
   refine ⟨x,hx,?_⟩
   by_cases h0:x.rl=⟨#[]⟩
   ·rw [if_pos h0] at hb ⊢;exact hb
   ·rw [if_neg h0] at hb ⊢;rw [low x hx h0];exact hb
theorem exB_thing {T:List Ob} (hT:∀ n x,x∈E.of n→n.o∈T) (hK:∀ c,K c=true→c.o∈T) (o:Ob):∀ (m:Nat) (e:Ex),exB E K o m e=true→o∈T
 | 0,e,h=>by cases h
 | m+1,.mk k n ov ks,h=>by
  have ih:=exB_thing hT hK o m
  unfold exB at h
  split at h
  ·exact hK _ h
  ·split at h
   ·obtain ⟨x,hx,-⟩:=List.any_eq_true.1 h
    exact hT _ x hx
   ·split at h
    ·split at h
     ·rw [Bool.or_eq_true] at h
      exact h.elim (ih _) (ih _)
     ·split at h<;>(rw [Bool.and_eq_true] at h;exact ih _ h.1)
    ·cases h
theorem body_thing {T:List Ob} (hT:∀ n x,x∈E.of n→n.o∈T) (hK:∀ c,K c=true→c.o∈T) {n:Nd} {r:Rl} (h:q21 E K n r=true):n.o∈T:=by
 unfold q21 at h
 split at h
 ·exact exB_thing hT hK _ _ _ h
 ·obtain ⟨x,hx,-⟩:=List.any_eq_true.1 h
  exact hT _ x hx
end
def q4u (s:List Ty) (T:List Ob):List Nd:=T.flatMap fun o=>s.flatMap fun t=>t.rels.map fun r=>⟨o,r.name⟩
theorem mem_nodes {s:List Ty} {T:List Ob} {n:Nd} {i k:Nat} {r:Rl} (hf:q0g s n.o.ty n.rl=some (i,k,r)) (hT:n.o∈T):n∈q4u s T:=by
 obtain ⟨-,ty,hty,hrl,hkr⟩:=q11 hf
 obtain ⟨⟨x,hx,hp⟩,-⟩:=firstI_some.1 hrl
 rw [hkr] at hx
 cases hx
 refine List.mem_flatMap.2 ⟨n.o,hT,List.mem_flatMap.2 ⟨ty,List.mem_of_getElem? hty,List.mem_map.2 ⟨r,List.mem_of_getElem? hkr,?_⟩⟩⟩
 have:=of_decide_eq_true hp
 cases n
 simp only [Nd.mk.injEq,true_and]
 exact this
structure Upto (E:q1n) (C:List Nd) (v:Nat) (L:List Nd):Prop where
 nd:L.Nodup
 sub:∀ n∈L,n∈C
 step:∀ (i:Nat) (n:Nd),L[i]?=some n→∃ j k r,q0g E.s n.o.ty n.rl=some (j,k,r)∧q21 E (fun c=>decide (c∈L.take i)) n r=true
 srt:∀ (i j:Nat) (n m:Nd),L[i]?=some n→L[j]?=some m→i<j→lvN E.s n≤lvN E.s m
 top:∀ n∈L,lvN E.s n≤v
 closed:∀ n j k r,q0g E.s n.o.ty n.rl=some (j,k,r)→lvN E.s n<v→q21 E (fun c=>decide (c∈L)) n r=true→n∈L
theorem nd_len {α:Type} [DecidableEq α]:∀ {L C:List α},L.Nodup→(∀ x∈L,x∈C)→L.length≤C.length
 | [],C,_,_=>Nat.zero_le _
 | x :: r,C,h,hs=>by
  rw [List.nodup_cons] at h
  have hx:=hs x (by simp)
  have:=nd_len (L:=r) (C:=C.erase x) h.2 fun y hy=>(List.mem_erase_of_ne (by rintro rfl;exact h.1 hy)).2 (hs y (List.mem_cons_of_mem _ hy))
  rw [List.length_erase_of_mem hx] at this
  have hpos:=List.length_pos_of_mem hx
  simp only [List.length_cons]
  omega
section
variable {E:q1n} {C L:List Nd} {v:Nat}
theorem Upto.snoc (hE:OfOk E) (hc:errA (chkF E.s)=0) (h:Upto E C v L) {n:Nd} {j k:Nat} {r:Rl} (hf:q0g E.s n.o.ty n.rl=some (j,k,r)) (hv:lvN E.s n=v) (hn:n ∉ L) (hC:n∈C) (hb:q21 E (fun c=>decide (c∈L)) n r=true) :
  Upto E C v (L++[n]):=by
 have get:∀ i m,(L++[n])[i]?=some m→(i<L.length∧L[i]?=some m)∨(i=L.length∧m=n):=by
  intro i m hi
  rw [List.getElem?_append] at hi
  split at hi
  ·rename_i h1;exact .inl ⟨h1,hi⟩
  ·rename_i h1
   rw [List.getElem?_singleton] at hi
   split at hi
   ·cases hi;exact .inr ⟨by omega,rfl⟩
   ·cases hi
 refine ⟨?_,fun m hm=>?_,fun i m hi=>?_,fun i i2 m m2 hi hi2 hlt=>?_,fun m hm=>?_,fun m j2 k2 r2 hf2 hlt hb2=>?_⟩
 ·rw [List.nodup_append]
  exact ⟨h.nd,by simp,fun a ha b hb=>by rw [List.mem_singleton.1 hb];rintro rfl;exact hn ha⟩
 ·rcases List.mem_append.1 hm with hm | hm
  ·exact h.sub m hm
  ·rw [List.mem_singleton.1 hm];exact hC
 ·rcases get i m hi with ⟨h1,h2⟩ | ⟨h1,rfl⟩
  ·rw [List.take_append_of_le_length (Nat.le_of_lt h1)]
   exact h.step i m h2
  ·rw [h1,List.take_append_of_le_length (Nat.le_refl _),List.take_length]
   exact ⟨j,k,r,hf,hb⟩
 ·rcases get i m hi with ⟨h1,h2⟩ | ⟨h1,rfl⟩
  ·rcases get i2 m2 hi2 with ⟨h3,h4⟩ | ⟨h3,rfl⟩
   ·exact h.srt i i2 m m2 h2 h4 hlt
   ·rw [hv];exact h.top m (List.mem_of_getElem? h2)
  ·rcases get i2 m2 hi2 with ⟨h3,h4⟩ | ⟨h3,rfl⟩
   ·omega
   ·exact Nat.le_refl _
 ·rcases List.mem_append.1 hm with hm | hm
  ·exact h.top m hm
  ·rw [List.mem_singleton.1 hm,hv];exact Nat.le_refl _
 ·refine List.mem_append_left _ (h.closed m j2 k2 r2 hf2 hlt ?_)
  rw [← hb2]
  refine body_congr hE hc hf2 fun c hl=>?_
  rw [Bool.eq_iff_iff,decide_eq_true_eq,decide_eq_true_eq,List.mem_append,List.mem_singleton]
  refine ⟨.inl,fun hq=>hq.elim id fun e=>?_⟩
  subst e
  rcases hl with hl | hl
  ·rw [hf] at hl;cases hl
  ·have:lvN E.s c≤lvN E.s m:=by simpa using hl
   omega
theorem Upto.close (hE:OfOk E) (hc:errA (chkF E.s)=0):∀ (d:Nat) (L:List Nd),Upto E C v L→C.length≤L.length+d→∃ L',Upto E C v L'∧∀ n j k r,q0g E.s n.o.ty n.rl=some (j,k,r)→lvN E.s n=v→n∈C→q21 E (fun c=>decide (c∈L')) n r=true→n∈L':=by
 intro d
 induction d with
 | zero=>
  intro L h hd
  refine ⟨L,h,fun n j k r hf hv hC hb=>Classical.byContradiction fun hn=>?_⟩
  have q:=h.snoc hE hc hf hv hn hC hb
  have:=nd_len q.nd q.sub
  rw [List.length_append,List.length_singleton] at this
  omega
 | succ d ih=>
  intro L h hd
  by_cases hq:∃ n j k r,q0g E.s n.o.ty n.rl=some (j,k,r)∧lvN E.s n=v∧n∈C∧q21 E (fun c=>decide (c∈L)) n r=true∧n ∉ L
  ·obtain ⟨n,j,k,r,hf,hv,hC,hb,hn⟩:=hq
   exact ih _ (h.snoc hE hc hf hv hn hC hb) (by rw [List.length_append,List.length_singleton];omega)
  ·exact ⟨L,h,fun n j k r hf hv hC hb=>Classical.byContradiction fun hn=>hq ⟨n,j,k,r,hf,hv,hC,hb,hn⟩⟩
theorem Upto.mod (h:Upto E C v L) (hv:∀ n j k r,q0g E.s n.o.ty n.rl=some (j,k,r)→lvN E.s n<v):Mod E L:=by
 refine ⟨h.step,fun n m hn hm hlt=>?_,fun n j k r hf hb=>h.closed n j k r hf (hv n j k r hf) hb⟩
 have gi:∀ n,n∈L→L[L.idxOf n]?=some n:=fun n hn=>by
  have hlt:=List.idxOf_lt_length_iff.2 hn
  rw [List.getElem?_eq_getElem hlt,List.getElem_idxOf hlt]
 have g1:=gi n hn
 have g2:=gi m hm
 rcases Nat.lt_trichotomy (L.idxOf n) (L.idxOf m) with h1 | h1 | h1
 ·exact h1
 ·rw [h1,g2] at g1
  cases g1
  omega
 ·have:=h.srt _ _ m n g2 g1 h1
  omega
theorem lvN_le (hc:errA (chkF E.s)=0) {n:Nd} {j k:Nat} {r:Rl} (hf:q0g E.s n.o.ty n.rl=some (j,k,r)):lvN E.s n≤q0n E.s:=by
 obtain ⟨-,ty,hty,-,hkr⟩:=q11 hf
 have:=(q5k hc hty hkr).1
 unfold lvN
 rw [hf]
 exact this
theorem mod_ex (hE:OfOk E) (hc:errA (chkF E.s)=0) {T:List Ob} (hT:∀ n x,x∈E.of n→n.o∈T):∃ L,Mod E L:=by
 have key:∀ v,∃ L,Upto E (q4u E.s T) v L∧∀ n∈L,n.o∈T:=by
  intro v
  induction v with
  | zero=>exact ⟨[],⟨by simp,fun n hn=>(by cases hn),fun i n hi=>by simp at hi,fun i j n m hi=>by simp at hi,fun n hn=>(by cases hn),fun n j k r _ hlt=>by omega⟩,fun n hn=>(by cases hn)⟩
  | succ v ih=>
   obtain ⟨L,h,-⟩:=ih
   obtain ⟨L',h',hcl⟩:=Upto.close hE hc (q4u E.s T).length L h (by omega)
   have hT':∀ n∈L',n.o∈T:=by
    intro n hn
    have:=h'.sub n hn
    obtain ⟨o,ho,hq⟩:=List.mem_flatMap.1 this
    obtain ⟨t,-,hq⟩:=List.mem_flatMap.1 hq
    obtain ⟨r,-,rfl⟩:=List.mem_map.1 hq
    exact ho
   refine ⟨L',⟨h'.nd,h'.sub,h'.step,h'.srt,fun n hn=>Nat.le_succ_of_le (h'.top n hn),fun n j k r hf hlt hb=>?_⟩,hT'⟩
   rcases Nat.lt_succ_iff_lt_or_eq.1 hlt with h1 | h1
   ·exact h'.closed n j k r hf h1 hb
   ·refine hcl n j k r hf h1 (mem_nodes hf (body_thing hT (fun c hc=>hT' c (of_decide_eq_true hc)) hb)) hb
 obtain ⟨L,h,-⟩:=key (q0n E.s+1)
 exact ⟨L,h.mod fun n j k r hf=>Nat.lt_succ_of_le (lvN_le hc hf)⟩
end
theorem exB_of {E E':q1n} (hof:∀ n x,x∈E.of n↔x∈E'.of n) (K:Nd→Bool) (o:Ob):∀ (m:Nat) (e:Ex),exB E K o m e=exB E' K o m e
 | 0,e=>rfl
 | m+1,.mk k n ov ks=>by
  have ih:=exB_of hof K o m
  unfold exB
  by_cases k0:k=0
  ·rw [if_pos k0,if_pos k0]
  ·rw [if_neg k0,if_neg k0]
   by_cases k1:k=1
   ·rw [if_pos k1,if_pos k1,Bool.eq_iff_iff,List.any_eq_true,List.any_eq_true]
    constructor
    ·rintro ⟨x,hx,h⟩;exact ⟨x,(hof _ x).1 hx,h⟩
    ·rintro ⟨x,hx,h⟩;exact ⟨x,(hof _ x).2 hx,h⟩
   ·rw [if_neg k1,if_neg k1]
    match ks with
    | [a,b]=>dsimp only;rw [ih a,ih b]
    | []=>rfl
    | [_]=>rfl
    | _ :: _ :: _ :: _=>rfl
theorem Mod.of {E E':q1n} {L:List Nd} (h:Mod E L) (hs:E'.s=E.s) (hw:E'.who=E.who) (hof:∀ n x,x∈E.of n↔x∈E'.of n):Mod E' L:=by
 have hb:∀ K n r,q21 E K n r=q21 E' K n r:=by
  intro K n r
  unfold q21
  split
  ·exact exB_of hof K _ _ _
  ·rw [hw,Bool.eq_iff_iff,List.any_eq_true,List.any_eq_true]
   constructor
   ·rintro ⟨x,hx,h⟩;exact ⟨x,(hof _ x).1 hx,h⟩
   ·rintro ⟨x,hx,h⟩;exact ⟨x,(hof _ x).2 hx,h⟩
 refine ⟨fun i n hi=>?_,fun n m=>?_,fun n j k r hf hq=>?_⟩
 ·obtain ⟨j,k,r,h1,h2⟩:=h.step i n hi
  exact ⟨j,k,r,by rw [hs];exact h1,by rw [← hb];exact h2⟩
 ·rw [hs];exact h.lev n m
 ·rw [hs] at hf
  exact h.closed n j k r hf (by rw [hb];exact hq)
theorem idx_at {L:List Nd} {n:Nd} (h:n∈L):L[L.idxOf n]?=some n:=by
 have hlt:=List.idxOf_lt_length_iff.2 h
 rw [List.getElem?_eq_getElem hlt,List.getElem_idxOf hlt]
theorem exB_mono {E:q1n} (hE:OfOk E) {N:Nat} {K K':Nd→Bool} (h:∀ c,Low E.s N false c→K c=true→K' c=true) (hn:∀ c,Low E.s N true c→K c=K' c) (o:Ob) :
  ∀ (m:Nat) (e:Ex) (out:Bool),mayE m e=true→(∀ p∈q0f e out,∀ l∈q3m E.s o.ty p.1 p.2,getL (levF E.s) l.1+l.2.toNat≤N) →
   (out=false→exB E K o m e=true→exB E K' o m e=true)∧(out=true→exB E K o m e=exB E K' o m e)
 | 0,e,out,hm,hl=>by cases hm
 | m+1,.mk k n ov ks,out,hm,hl=>by
  have ih:=exB_mono hE h hn o m
  unfold mayE at hm
  unfold exB
  unfold q0f at hl
  by_cases k0:k=0
  ·simp only [if_pos k0] at hm ⊢
   rw [Bool.and_eq_true] at hm
   rw [if_pos hm.2] at hl
   have low:Low E.s N out ⟨o,n⟩:=by
    unfold Low lvN
    cases hq:q0g E.s o.ty n with
    | none=>exact .inl rfl
    | some p=>
     obtain ⟨i,j,r⟩:=p
     refine .inr (hl (.mk k n ov ks,out) (by simp) ((i,j),out) ?_)
     unfold q3m Ex.name
     simp only [hq]
     exact List.mem_cons_self
   exact ⟨fun ho=>by subst ho;exact h _ low,fun ho=>by subst ho;exact hn _ low⟩
  ·simp only [if_neg k0] at hm ⊢
   by_cases k1:k=1
   ·simp only [if_pos k1] at hm ⊢
    rw [Bool.and_eq_true,Bool.and_eq_true] at hm
    rw [if_pos hm.2.2] at hl
    have low:∀ x∈E.of ⟨o,n⟩,x.rl=⟨#[]⟩→Low E.s N out ⟨x.o,ov⟩:=by
     intro x hx hx0
     obtain ⟨i,j,r,h1,f,h2,h3,h4⟩:=hE.ok _ x hx
     unfold Low lvN
     cases hq:q0g E.s x.o.ty ov with
     | none=>exact .inl rfl
     | some p=>
      obtain ⟨i2,j2,r2⟩:=p
      refine .inr ?_
      simp only
      refine hl (.mk k n ov ks,out) (by simp) ((i2,j2),out) ?_
      unfold q3m Ex.name Ex.kind Ex.over
      simp only [show q0g E.s o.ty n=some (i,j,r) from h1,if_pos k1]
      refine List.mem_cons_of_mem _ (List.mem_map.2 ⟨(i2,j2),?_,rfl⟩)
      unfold q22
      refine List.mem_filterMap.2 ⟨f,h2,?_⟩
      rw [if_pos (h4.symm.trans hx0),← h3,hq]
      rfl
    refine ⟨fun ho=>?_,fun ho=>?_⟩
    ·subst ho
     simp only [List.any_eq_true,Bool.and_eq_true,decide_eq_true_eq]
     rintro ⟨x,hx,h0,h1⟩
     exact ⟨x,hx,h0,h _ (low x hx h0) h1⟩
    ·subst ho
     rw [Bool.eq_iff_iff]
     simp only [List.any_eq_true,Bool.and_eq_true,decide_eq_true_eq]
     constructor
     ·rintro ⟨x,hx,h0,h1⟩;exact ⟨x,hx,h0,by rw [← hn _ (low x hx h0)];exact h1⟩
     ·rintro ⟨x,hx,h0,h1⟩;exact ⟨x,hx,h0,by rw [hn _ (low x hx h0)];exact h1⟩
   ·simp only [if_neg k1] at hm ⊢
    have k234:k=2∨k=3∨k=4:=by
     refine Classical.byContradiction fun hn=>?_
     rw [if_neg hn] at hm
     cases hm
    rw [if_pos k234] at hm
    obtain ⟨x1,x2,rfl⟩:∃ a b,ks=[a,b]:=by
     match ks,hm with
     | [a,b],_=>exact ⟨a,b,rfl⟩
     | [],hm=>cases hm
     | [_],hm=>cases hm
     | _ :: _ :: _ :: _,hm=>cases hm
    simp only [two,Bool.and_eq_true] at hm
    have hl':∀ p∈q0f x1 out++q0f x2 (out||decide (k=4)),∀ l∈q3m E.s o.ty p.1 p.2,getL (levF E.s) l.1+l.2.toNat≤N:=by
     intro p hp
     refine hl p ?_
     rw [if_neg (by simp)]
     simp only [q0y,List.append_nil]
     simpa using hp
    have ha:=ih x1 out hm.1 fun p hp=>hl' p (List.mem_append_left _ hp)
    have hb:=ih x2 (out||decide (k=4)) hm.2 fun p hp=>hl' p (List.mem_append_right _ hp)
    dsimp only
    generalize exB E K o m x1=A at ha ⊢
    generalize exB E K' o m x1=A' at ha ⊢
    generalize exB E K o m x2=B at hb ⊢
    generalize exB E K' o m x2=B' at hb ⊢
    rcases k234 with rfl | rfl | rfl<;>cases out<;>cases A<;>cases A'<;>cases B<;>cases B'<;>revert ha hb<;>decide
theorem body_mono {E:q1n} (hE:OfOk E) (hc:errA (chkF E.s)=0) {K K':Nd→Bool} {n:Nd} {i k:Nat} {r:Rl} (hf:q0g E.s n.o.ty n.rl=some (i,k,r)) (h:∀ c,Low E.s (lvN E.s n) false c→K c=true→K' c=true) (hn:∀ c,Low E.s (lvN E.s n) true c→K c=K' c) :
  q21 E K n r=true→q21 E K' n r=true:=by
 obtain ⟨ht0,ty,hty,-,hkr⟩:=q11 hf
 have hnm:ty.name=n.o.ty:=by
  obtain ⟨⟨x,hx,hp⟩,-⟩:=firstI_some.1 ht0
  rw [hty] at hx
  cases hx
  exact of_decide_eq_true hp
 have hst:=(q5k hc hty hkr).2
 have hlv:lvN E.s n=getL (levF E.s) (i,k):=by unfold lvN;rw [hf]
 rw [← hlv,hnm] at hst
 unfold q21
 unfold q1a at hst
 by_cases h0:r.refs.length=0
 ·simp only [if_pos h0] at hst ⊢
  have hm:mayE 12 r.ex=true:=sc_may (q2n hc).may ty (List.mem_of_getElem? hty) r (List.mem_of_getElem? hkr) h0
  exact (exB_mono hE h hn n.o 12 r.ex false hm fun p hp l hl=>hst l (List.mem_flatMap.2 ⟨p,hp,hl⟩)).1 rfl
 ·simp only [if_neg h0] at hst ⊢
  have low:∀ x∈E.of n,x.rl≠⟨#[]⟩→K x=true→K' x=true:=by
   intro x hx hx0
   obtain ⟨i1,k1,r1,h1,f,h2,h3,h4⟩:=hE.ok _ x hx
   rw [hf] at h1
   cases h1
   refine h _ ?_
   unfold Low
   cases hq:q0g E.s x.o.ty x.rl with
   | none=>exact .inl rfl
   | some p=>
    obtain ⟨i2,j2,r2⟩:=p
    refine .inr ?_
    have:=hst ((i2,j2),false) (List.mem_filterMap.2 ⟨f,h2,by unfold q1r;rw [if_neg (by rw [← h4];exact hx0),← h3,← h4,hq];rfl⟩)
    unfold lvN at this ⊢
    rw [hq]
    exact this
  simp only [List.any_eq_true]
  rintro ⟨x,hx,hb⟩
  refine ⟨x,hx,?_⟩
  by_cases h0:x.rl=⟨#[]⟩
  ·rw [if_pos h0] at hb ⊢;exact hb
  ·rw [if_neg h0] at hb ⊢;exact low x hx h0 hb
theorem Mod.none {E:q1n} {L:List Nd} (h:Mod E L) {n:Nd} (hn:q0g E.s n.o.ty n.rl=Option.none):n ∉ L:=by
 intro hm
 obtain ⟨i,hi⟩:=List.getElem?_of_mem hm
 obtain ⟨j,k,r,h1,-⟩:=h.step i n hi
 rw [hn] at h1
 cases h1
theorem Mod.le {E:q1n} {L L':List Nd} (hE:OfOk E) (hc:errA (chkF E.s)=0) (h:Mod E L) (h':Mod E L') {v:Nat} (hv:∀ c,lvN E.s c<v→(c∈L↔c∈L')):∀ (i:Nat) (n:Nd),L.idxOf n=i→lvN E.s n=v→n∈L→n∈L':=by
 intro i
 induction i using Nat.strongRecOn with
 | ind i ih=>
  intro n hi hl hn
  obtain ⟨j,k,r,hf,hb⟩:=h.step _ n (idx_at hn)
  refine h'.closed n j k r hf (body_mono hE hc hf (fun c hlow hq=>?_) (fun c hlow=>?_) hb)
  ·rw [decide_eq_true_eq,q35] at hq
   rw [decide_eq_true_eq]
   rcases hlow with h0 | h0
   ·exact absurd hq.1 (h.none h0)
   ·have h0:lvN E.s c≤lvN E.s n:=by simpa using h0
    rcases Nat.lt_or_eq_of_le h0 with h1 | h1
    ·exact (hv c (by omega)).1 hq.1
    ·exact ih _ (by omega) c rfl (by omega) hq.1
  ·rw [Bool.eq_iff_iff,decide_eq_true_eq,decide_eq_true_eq,q35]
   rcases hlow with h0 | h0
   ·exact ⟨fun hq=>absurd hq.1 (h.none h0),fun hq=>absurd hq (h'.none h0)⟩
   ·have h0:lvN E.s c<lvN E.s n:=by simpa [Nat.lt_iff_add_one_le] using h0
    have hvc:=hv c (by omega)
    exact ⟨fun hq=>hvc.1 hq.1,fun hq=>⟨hvc.2 hq,h.lev c n (hvc.2 hq) hn h0⟩⟩
theorem Mod.uniq {E:q1n} {L L':List Nd} (hE:OfOk E) (hc:errA (chkF E.s)=0) (h:Mod E L) (h':Mod E L') (n:Nd):n∈L↔n∈L':=by
 have key:∀ (v:Nat) (n:Nd),lvN E.s n=v→(n∈L↔n∈L'):=by
  intro v
  induction v using Nat.strongRecOn with
  | ind v ih=>
   intro n hn
   have hv:∀ c,lvN E.s c<v→(c∈L↔c∈L'):=fun c hc=>ih _ hc c rfl
   exact ⟨Mod.le hE hc h h' hv _ n rfl hn,Mod.le hE hc h' h (fun c hc=>(hv c hc).symm) _ n rfl hn⟩
 exact key _ n rfl
noncomputable def inB (E:q1n) (n:Nd):Bool:=@decide (∃ K,Mod E K∧n∈K) (Classical.propDecidable _)
theorem inB_eq {E:q1n} {K:List Nd} (hE:OfOk E) (hc:errA (chkF E.s)=0) (h:Mod E K) (n:Nd):decide (n∈K)=inB E n:=by
 unfold inB
 rw [Bool.eq_iff_iff,decide_eq_true_eq]
 exact ⟨fun hn=>(@decide_eq_true_iff _ (Classical.propDecidable _)).2 ⟨K,h,hn⟩,fun hq=>by
  obtain ⟨K',h',hn⟩:=(@decide_eq_true_iff _ (Classical.propDecidable _)).1 hq
  exact (Mod.uniq hE hc h' h n).1 hn⟩
theorem in_body {E:q1n} {K:List Nd} (hE:OfOk E) (hc:errA (chkF E.s)=0) (h:Mod E K) {n:Nd} {i k:Nat} {r:Rl} (hf:q0g E.s n.o.ty n.rl=some (i,k,r)):decide (n∈K)=q21 E (fun c=>decide (c∈K)) n r:=by
 rw [Bool.eq_iff_iff,decide_eq_true_eq]
 refine ⟨fun hn=>?_,h.closed n _ _ _ hf⟩
 obtain ⟨j',k',r',hf',hb⟩:=h.step _ n (idx_at hn)
 rw [hf] at hf'
 cases hf'
 refine body_mono hE hc hf (fun c _ hq=>?_) (fun c hlow=>?_) hb
 ·rw [decide_eq_true_eq] at hq ⊢
  exact List.mem_of_mem_take hq
 ·rw [Bool.eq_iff_iff,decide_eq_true_eq,decide_eq_true_eq,q35]
  refine ⟨fun hq=>hq.1,fun hq=>⟨hq,?_⟩⟩
  rcases hlow with h0 | h0
  ·exact absurd hq (h.none h0)
  ·have h0:lvN E.s c<lvN E.s n:=by simpa [Nat.lt_iff_add_one_le] using h0
   exact h.lev c n hq hn h0
mutual
def outsE:Ex→Bool
 | .mk k _ _ ks=>decide (k=4)||outsL ks
def outsL:List Ex→Bool
 | []=>false
 | e :: r=>outsE e||outsL r
end
theorem exB_grow {E E':q1n} {K K':Nd→Bool} (ho:∀ n x,x∈E.of n→x∈E'.of n) (hk:∀ c,K c=true→K' c=true) (o:Ob) :
  ∀ (m:Nat) (e:Ex),outsE e=false→exB E K o m e=true→exB E' K' o m e=true
 | 0,e,_,h=>by cases h
 | m+1,.mk k n ov ks,h4,h=>by
  have ih:=exB_grow ho hk o m
  unfold exB at h ⊢
  unfold outsE at h4
  rw [Bool.or_eq_false_iff] at h4
  have k4:¬ k=4:=of_decide_eq_false h4.1
  by_cases k0:k=0
  ·rw [if_pos k0] at h ⊢
   exact hk _ h
  ·rw [if_neg k0] at h ⊢
   by_cases k1:k=1
   ·rw [if_pos k1] at h ⊢
    simp only [List.any_eq_true,Bool.and_eq_true] at h ⊢
    obtain ⟨x,hx,h0,h1⟩:=h
    exact ⟨x,ho _ x hx,h0,hk _ h1⟩
   ·rw [if_neg k1] at h ⊢
    match ks,h4.2,h with
    | [a,b],h5,h=>
     unfold outsL at h5
     unfold outsL at h5
     simp only [Bool.or_eq_false_iff] at h5
     dsimp only at h ⊢
     rw [if_neg k4] at h ⊢
     by_cases k2:k=2
     ·rw [if_pos k2,Bool.or_eq_true] at h ⊢
      exact h.imp (ih a h5.1) (ih b h5.2.1)
     ·rw [if_neg k2,Bool.and_eq_true] at h ⊢
      exact ⟨ih a h5.1 h.1,ih b h5.2.1 h.2⟩
    | [],_,h=>cases h
    | [_],_,h=>cases h
    | _ :: _ :: _ :: _,_,h=>cases h
theorem body_grow {E E':q1n} {K K':Nd→Bool} (hw:E.who=E'.who) (ho:∀ n x,x∈E.of n→x∈E'.of n) (hk:∀ c,K c=true→K' c=true) {n:Nd} {r:Rl} (h4:outsE r.ex=false) (h:q21 E K n r=true):q21 E' K' n r=true:=by
 unfold q21 at h ⊢
 by_cases h0:r.refs.length=0
 ·rw [if_pos h0] at h ⊢
  exact exB_grow ho hk _ _ _ h4 h
 ·rw [if_neg h0] at h ⊢
  rw [List.any_eq_true] at h ⊢
  obtain ⟨x,hx,h1⟩:=h
  refine ⟨x,ho _ x hx,?_⟩
  by_cases hr:x.rl=⟨#[]⟩
  ·rw [if_pos hr] at h1 ⊢;rw [← hw];exact h1
  ·rw [if_neg hr] at h1 ⊢;exact hk _ h1
theorem Mod.grow {E E':q1n} {L L':List Nd} (hs:E.s=E'.s) (hw:E.who=E'.who) (ho:∀ n x,x∈E.of n→x∈E'.of n) (hno:∀ t∈E.s,∀ r∈t.rels,outsE r.ex=false) (h:Mod E L) (h':Mod E' L') :
  ∀ (i:Nat) (n:Nd),L.idxOf n=i→n∈L→n∈L':=by
 intro i
 induction i using Nat.strongRecOn with
 | ind i ih=>
  intro n hi hn
  obtain ⟨j,k,r,hf,hb⟩:=h.step _ n (idx_at hn)
  have hf':=hf
  rw [hs] at hf'
  obtain ⟨-,ty,hty,-,hkr⟩:=q11 hf
  refine h'.closed n j k r hf' (body_grow hw ho (fun c hq=>?_) (hno ty (List.mem_of_getElem? hty) r (List.mem_of_getElem? hkr)) hb)
  rw [decide_eq_true_eq,q35] at hq
  rw [decide_eq_true_eq]
  exact ih _ (by omega) c rfl hq.1
theorem q8p {s:List Ty} {l:List Tu}:q0v s (q0v s l)=q0v s l:=by
 unfold q0v
 rw [List.filter_filter]
 congr 1
 funext t
 exact Bool.and_self _
theorem env_counts {s:List Ty} {l:List Tu} {who:Ob}:envE s (q0v s l) who=envE s l who:=by
 unfold envE
 rw [q8p]
section
variable {α:Type}
def vl (n:Nat) (v:Nat→α):List α:=(List.range n).map v
theorem q1o {n:Nat} {v:Nat→α}:(vl n v).length=n:=by simp [vl]
theorem vl_get {n:Nat} {v:Nat→α} {i:Nat} (h:i<n):(vl n v)[i]?=some (v i):=by simp [vl,h]
theorem vl_of (xs:List α) (d:α):vl xs.length (fun i=>xs.getD i d)=xs:=by
 apply List.ext_getElem?
 intro i
 by_cases h:i<xs.length
 ·rw [vl_get h];simp [h]
 ·rw [List.getElem?_eq_none_iff.2 (by rw [q1o];omega),List.getElem?_eq_none_iff.2 (by omega)]
structure Rng (n a b:Nat) (v w:Nat→α):Prop where
 perm:(vl n v).Perm (vl n w)
 out:∀ i,i<a∨b≤i→w i=v i
def sw (v:Nat→α) (i j:Nat):Nat→α:=fun k=>if k=j then v i else if k=i then v j else v k
theorem sw_i {v:Nat→α} {i j:Nat}:sw v i j i=v j:=by
 unfold sw
 by_cases h:i=j
 ·rw [if_pos h,h]
 ·rw [if_neg h,if_pos rfl]
theorem sw_j {v:Nat→α} {i j:Nat}:sw v i j j=v i:=if_pos rfl
theorem sw_o {v:Nat→α} {i j k:Nat} (h1:k≠i) (h2:k≠j):sw v i j k=v k:=by unfold sw;rw [if_neg h2,if_neg h1]
theorem vl_set {n:Nat} {v:Nat→α} {i:Nat} {x:α}:(vl n v).set i x=vl n fun k=>if k=i then x else v k:=by
 apply List.ext_getElem?
 intro k
 rw [List.getElem?_set]
 by_cases h:k<n
 ·rw [vl_get h,vl_get h,q1o]
  by_cases e:i=k
  ·subst e;simp [h]
  ·rw [if_neg e,if_neg (Ne.symm e)]
 ·rw [List.getElem?_eq_none_iff.2 (by rw [q1o];omega),List.getElem?_eq_none_iff.2 (by rw [q1o];omega),q1o]
  split
  ·rw [if_neg (by omega)]
  ·rfl
theorem Rng.refl (n a b:Nat) (v:Nat→α):Rng n a b v v:=⟨List.Perm.refl _,fun _ _=>rfl⟩
theorem Rng.trans {n a b:Nat} {u v w:Nat→α} (h:Rng n a b u v) (k:Rng n a b v w):Rng n a b u w:=⟨h.perm.trans k.perm,fun i hi=>(k.out i hi).trans (h.out i hi)⟩
theorem Rng.mono {n a b a' b':Nat} {v w:Nat→α} (h:Rng n a b v w) (ha:a'≤a) (hb:b≤b'):Rng n a' b' v w:=⟨h.perm,fun i hi=>h.out i (by omega)⟩
theorem Rng.sw {n a b i j:Nat} {v:Nat→α} (hi:a≤i) (hi':i<b) (hj:a≤j) (hj':j<b) (hb:b≤n):Rng n a b v (sw v i j):=by
 refine ⟨?_,fun k hk=>sw_o (by omega) (by omega)⟩
 have h:=@List.set_set_perm _ (vl n v) i j (by rw [q1o];omega) (by rw [q1o];omega)
 have e1:(vl n v)[i]'(by rw [q1o];omega)=v i:=by
  have:=vl_get (v:=v) (show i<n by omega)
  rw [List.getElem?_eq_getElem (by rw [q1o];omega)] at this
  exact Option.some.inj this
 have e2:(vl n v)[j]'(by rw [q1o];omega)=v j:=by
  have:=vl_get (v:=v) (show j<n by omega)
  rw [List.getElem?_eq_getElem (by rw [q1o];omega)] at this
  exact Option.some.inj this
 rw [e1,e2,vl_set,vl_set] at h
 exact h.symm
theorem Rng.mem {n a b:Nat} {v w:Nat→α} (h:Rng n a b v w) (hb:b≤n) {i:Nat} (h1:a≤i) (h2:i<b):∃ j,a≤j∧j<b∧w i=v j:=by
 have e:∀ u:Nat→α,vl n u=(List.range' 0 a).map u++((List.range' a (b-a)).map u++(List.range' b (n-b)).map u):=by
  intro u
  rw [← List.map_append,← List.map_append]
  unfold vl
  congr 1
  rw [List.range_eq_range']
  have r2:List.range' a (b-a)++List.range' b (n-b)=List.range' a (n-a):=by
   have:=List.range'_append (s:=a) (m:=b-a) (n:=n-b) (step:=1)
   rw [show a+1 * (b-a)=b by omega,show (b-a)+(n-b)=n-a by omega] at this
   exact this
  have r1:List.range' 0 a++List.range' a (n-a)=List.range' 0 n:=by
   have:=List.range'_append (s:=0) (m:=a) (n:=n-a) (step:=1)
   rw [show 0+1 * a=a by omega,show a+(n-a)=n by omega] at this
   exact this
  rw [r2,r1]
 have hp:=h.perm
 rw [e v,e w] at hp
 have c1:(List.range' 0 a).map w=(List.range' 0 a).map v:=List.map_congr_left fun k hk=>h.out k (.inl (by simp at hk;omega))
 have c2:(List.range' b (n-b)).map w=(List.range' b (n-b)).map v:=List.map_congr_left fun k hk=>h.out k (.inr (by simp at hk;omega))
 rw [c1,c2,List.perm_append_left_iff,List.perm_append_right_iff] at hp
 have hm:w i∈(List.range' a (b-a)).map w:=List.mem_map.2 ⟨i,by simp;omega,rfl⟩
 obtain ⟨j,hj,e⟩:=List.mem_map.1 (hp.mem_iff.2 hm)
 simp at hj
 exact ⟨j,by omega,by omega,e.symm⟩
structure LtOk (lt:α→α→Bool):Prop where
 asy:∀ x y,lt x y=true→lt y x=false
 tr:∀ x y z,lt y x=false→lt z y=false→lt z x=false
variable {lt:α→α→Bool}
def Le (lt:α→α→Bool) (x y:α):Prop:=lt y x=false
theorem Le.refl (h:LtOk lt) (x:α):Le lt x x:=by
 unfold Le
 cases e:lt x x with
 | false=>rfl
 | true=>have:=h.asy x x e;rw [e] at this;exact this
theorem Le.trans (h:LtOk lt) {x y z:α} (h1:Le lt x y) (h2:Le lt y z):Le lt x z:=h.tr x y z h1 h2
theorem Le.of_lt (h:LtOk lt) {x y:α} (h1:lt x y=true):Le lt x y:=h.asy x y h1
def Srt (lt:α→α→Bool) (a b:Nat) (v:Nat→α):Prop:=∀ p q,a≤p→p<q→q<b→Le lt (v p) (v q)
theorem Srt.one {a b:Nat} {v:Nat→α} (h:b≤a+1):Srt lt a b v:=fun p q h1 h2 h3=>by omega
theorem Srt.snoc (h:LtOk lt) {a b:Nat} {v:Nat→α} (hs:Srt lt a b v) (hab:a<b) (hl:Le lt (v (b-1)) (v b)):Srt lt a (b+1) v:=by
 intro p q h1 h2 h3
 by_cases hq:q=b
 ·subst hq
  by_cases hp:p=q-1
  ·rw [hp];exact hl
  ·exact (hs p (q-1) h1 (by omega) (by omega)).trans h hl
 ·exact hs p q h1 h2 (by omega)
theorem Srt.same {a b:Nat} {v w:Nat→α} (hs:Srt lt a b v) (e:∀ i,a≤i→i<b→w i=v i):Srt lt a b w:=fun p q h1 h2 h3=>by rw [e p h1 (by omega),e q (by omega) h3];exact hs p q h1 h2 h3
structure InsI (lt:α→α→Bool) (a i j:Nat) (v:Nat→α):Prop where
 lo:a≤j
 hi:j≤i
 s:∀ p q,a≤p→p<q→q≤i→q≠j→Le lt (v p) (v q)
theorem InsI.start {a i:Nat} {v:Nat→α} (hs:Srt lt a i v) (h:a≤i):InsI lt a i i v:=⟨h,Nat.le_refl _,fun p q h1 h2 h3 h4=>hs p q h1 h2 (by omega)⟩
theorem InsI.stop (h:LtOk lt) {a i j:Nat} {v:Nat→α} (hs:InsI lt a i j v) (hj:j=a∨Le lt (v (j-1)) (v j)):Srt lt a (i+1) v:=by
 intro p q h1 h2 h3
 by_cases hq:q=j
 ·rcases hj with hj | hj
  ·omega
  ·subst hq
   by_cases hp:p=q-1
   ·rw [hp];exact hj
   ·exact (hs.s p (q-1) h1 (by omega) (by have:=hs.hi;omega) (by omega)).trans h hj
 ·exact hs.s p q h1 h2 (by omega) hq
theorem InsI.step (h:LtOk lt) {a i j:Nat} {v:Nat→α} (hs:InsI lt a i j v) (hj:a<j) (hl:lt (v j) (v (j-1))=true):InsI lt a i (j-1) (sw v j (j-1)):=by
 have h0:=hs.hi
 refine ⟨by omega,by omega,fun p q h1 h2 h3 h4=>?_⟩
 by_cases hq:q=j
 ·subst hq
  rw [sw_i]
  by_cases hp:p=q-1
  ·subst hp
   rw [sw_j]
   exact Le.of_lt h hl
  ·rw [sw_o (by omega) hp]
   exact hs.s p (q-1) h1 (by omega) (by omega) (by omega)
 ·rw [sw_o hq h4 (v:=v)]
  by_cases hp:p=j-1
  ·subst hp
   rw [sw_j]
   exact hs.s j q (by omega) (by omega) h3 hq
  ·by_cases hp2:p=j
   ·subst hp2
    rw [sw_i]
    exact hs.s (p-1) q (by omega) (by omega) h3 hq
   ·rw [sw_o hp2 hp]
    exact hs.s p q h1 h2 h3 hq
def Hp (lt:α→α→Bool) (f lo hi:Nat) (v:Nat→α):Prop:=∀ p c,lo≤p→(c=2 * p+1∨c=2 * p+2)→c<hi→Le lt (v (f+c)) (v (f+p))
structure Sif (lt:α→α→Bool) (f lo hi r:Nat) (v:Nat→α):Prop where
 lr:lo≤r
 pp:∀ p c,lo≤p→p≠r→(c=2 * p+1∨c=2 * p+2)→c<hi→Le lt (v (f+c)) (v (f+p))
 gg:∀ q c,lo≤q→(r=2 * q+1∨r=2 * q+2)→(c=2 * r+1∨c=2 * r+2)→c<hi→Le lt (v (f+c)) (v (f+q))
theorem Sif.start {f lo hi:Nat} {v:Nat→α} (h:Hp lt f (lo+1) hi v):Sif lt f lo hi lo v:=⟨Nat.le_refl _,fun p c h1 h2 h3 h4=>h p c (by omega) h3 h4,fun q c h1 h2=>by omega⟩
structure Best (lt:α→α→Bool) (f hi r ch:Nat) (v:Nat→α):Prop where
 cc:ch=2 * r+1∨ch=2 * r+2
 cl:ch<hi
 mm:∀ c,(c=2 * r+1∨c=2 * r+2)→c<hi→Le lt (v (f+c)) (v (f+ch))
theorem Sif.stop (h0:LtOk lt) {f lo hi r ch:Nat} {v:Nat→α} (h:Sif lt f lo hi r v) (hb:Best lt f hi r ch v) (hl:Le lt (v (f+ch)) (v (f+r))):Hp lt f lo hi v:=fun p c h1 h2 h3=>by
 by_cases hp:p=r
 ·subst hp
  exact (hb.mm c h2 h3).trans h0 hl
 ·exact h.pp p c h1 hp h2 h3
theorem Sif.step (h0:LtOk lt) {f lo hi r ch:Nat} {v:Nat→α} (h:Sif lt f lo hi r v) (hb:Best lt f hi r ch v) (hl:lt (v (f+r)) (v (f+ch))=true):Sif lt f lo hi ch (sw v (f+r) (f+ch)):=by
 have h1:=h.lr
 have h2:=hb.cc
 have h3:=hb.cl
 refine ⟨by omega,fun p c a1 a2 a3 a4=>?_,fun q c a1 a2 a3 a4=>?_⟩
 ·by_cases hp:p=r
  ·subst hp
   rw [sw_i]
   by_cases hc:c=ch
   ·subst hc
    rw [sw_j]
    exact Le.of_lt h0 hl
   ·rw [sw_o (by omega) (by omega)]
    exact hb.mm c a3 a4
  ·rw [sw_o (k:=f+p) (by omega) (by omega)]
   by_cases hc:c=r
   ·subst hc
    rw [sw_i]
    exact h.gg p ch a1 a3 h2 h3
   ·rw [sw_o (by omega) (by omega)]
    exact h.pp p c a1 hp a3 a4
 ·have hq:q=r:=by omega
  subst hq
  rw [sw_i,sw_o (by omega) (by omega)]
  exact h.pp ch c (by omega) (by omega) a3 a4
theorem Hp.max (h0:LtOk lt) {f hi:Nat} {v:Nat→α} (h:Hp lt f 0 hi v):∀ i,i<hi→Le lt (v (f+i)) (v f):=by
 intro i
 induction i using Nat.strongRecOn with
 | ind i ih=>
  intro hi'
  by_cases e:i=0
  ·subst e;exact Le.refl h0 _
  ·exact (h ((i-1) / 2) i (Nat.zero_le _) (by omega) hi').trans h0 (ih ((i-1) / 2) (by omega) (by omega))
structure Pop (lt:α→α→Bool) (f m hi:Nat) (v:Nat→α):Prop where
 h:Hp lt f 0 m v
 s:Srt lt (f+m) (f+hi) v
 u:∀ i j,i<m→m≤j→j<hi→Le lt (v (f+i)) (v (f+j))
theorem Pop.pre {f i hi:Nat} {v:Nat→α} (h:Pop lt f (i+1) hi v):Hp lt f 1 i (sw v f (f+i)):=fun p c h1 h2 h3=>by
 rw [sw_o (by omega) (by omega),sw_o (by omega) (by omega)]
 exact h.h p c (Nat.zero_le _) h2 (by omega)
theorem Pop.step (h0:LtOk lt) {n f i hi:Nat} {v w:Nat→α} (hi':i<hi) (hn:f+hi≤n) (h:Pop lt f (i+1) hi v) (hr:Rng n f (f+i) (sw v f (f+i)) w) (hw:Hp lt f 0 i w):Pop lt f i hi w:=by
 have hmax:=h.h.max h0
 have wi:w (f+i)=v f:=by rw [hr.out _ (.inr (Nat.le_refl _)),sw_j]
 have wo:∀ j,i<j→w (f+j)=v (f+j):=fun j hj=>by rw [hr.out _ (.inr (by omega)),sw_o (by omega) (by omega)]
 have wl:∀ k,k<i→∃ m,m≤i∧w (f+k)=v (f+m):=by
  intro k hk
  obtain ⟨j,j1,j2,j3⟩:=hr.mem (by omega) (i:=f+k) (by omega) (by omega)
  rw [j3]
  by_cases e:j=f
  ·subst e;exact ⟨i,Nat.le_refl _,sw_i⟩
  ·exact ⟨j-f,by omega,by rw [sw_o e (by omega)];congr 1;omega⟩
 refine ⟨hw,fun p q h1 h2 h3=>?_,fun k j h1 h2 h3=>?_⟩
 ·have ep:p=f+(p-f):=by omega
  have eq:q=f+(q-f):=by omega
  rw [eq,wo _ (by omega)]
  by_cases hp:p=f+i
  ·rw [hp,wi]
   exact h.u 0 (q-f) (by omega) (by omega) (by omega)
  ·rw [ep,wo _ (by omega)]
   exact h.s _ _ (by omega) (by omega) (by omega)
 ·obtain ⟨m,m1,m2⟩:=wl k h1
  rw [m2]
  by_cases e:j=i
  ·subst e
   rw [wi]
   exact hmax m (by omega)
  ·rw [wo j (by omega)]
   exact h.u m j (by omega) (by omega) h3
structure Cut (lt:α→α→Bool) (a b m:Nat) (v:Nat→α):Prop where
 ca:a≤m
 cb:m<b
 l:∀ k,a≤k→k<m→Le lt (v k) (v m)
 r:∀ k,m<k→k<b→Le lt (v m) (v k)
structure Pdq (lt:α→α→Bool) (A B a b:Nat) (v:Nat→α):Prop where
 pa:A≤a
 ab:a≤b
 pb:b≤B
 l:Srt lt A a v
 r:Srt lt b B v
 lm:∀ i j,A≤i→i<a→a≤j→j<B→Le lt (v i) (v j)
 mr:∀ i j,A≤i→i<b→b≤j→j<B→Le lt (v i) (v j)
theorem Pdq.start {A B:Nat} {v:Nat→α} (h:A≤B):Pdq lt A B A B v:=⟨Nat.le_refl _,h,Nat.le_refl _,Srt.one (by omega),Srt.one (by omega),fun i j h1 h2=>by omega,fun i j h1 h2 h3 h4=>by omega⟩
theorem Pdq.done (h0:LtOk lt) {A B a b:Nat} {v:Nat→α} (h:Pdq lt A B a b v) (hs:Srt lt a b v):Srt lt A B v:=by
 have h1:=h.ab
 intro p q a1 a2 a3
 by_cases e1:q<a
 ·exact h.l p q a1 a2 e1
 ·by_cases e2:p<a
  ·exact h.lm p q a1 e2 (by omega) a3
  ·by_cases e3:q<b
   ·exact hs p q (by omega) a2 e3
   ·by_cases e4:p<b
    ·exact h.mr p q a1 e4 (by omega) a3
    ·exact h.r p q (by omega) a2 a3
theorem Pdq.left (h0:LtOk lt) {A B a b m:Nat} {v:Nat→α} (h:Pdq lt A B a b v) (hm:Cut lt a b m v) (hs:Srt lt a m v):Pdq lt A B (m+1) b v:=by
 have h1:=h.pa
 have h2:=hm.ca
 have h3:=hm.cb
 have h4:=h.pb
 have key:∀ i j,a≤i→i<m+1→m≤j→j<b→i<j→Le lt (v i) (v j):=by
  intro i j b1 b2 b3 b4 b5
  have q1:Le lt (v i) (v m):=by
   by_cases e:i=m
   ·rw [e];exact Le.refl h0 _
   ·exact hm.l i b1 (by omega)
  by_cases e:j=m
  ·rw [e];exact q1
  ·exact q1.trans h0 (hm.r j (by omega) b4)
 refine ⟨by omega,by omega,h4,fun p q a1 a2 a3=>?_,h.r,fun i j a1 a2 a3 a4=>?_,h.mr⟩
 ·by_cases e1:q<a
  ·exact h.l p q a1 a2 e1
  ·by_cases e2:p<a
   ·exact h.lm p q a1 e2 (by omega) (by omega)
   ·by_cases e3:q<m
    ·exact hs p q (by omega) a2 e3
    ·exact key p q (by omega) (by omega) (by omega) (by omega) a2
 ·by_cases e1:i<a
  ·exact h.lm i j a1 e1 (by omega) a4
  ·by_cases e2:j<b
   ·exact key i j (by omega) a2 (by omega) e2 (by omega)
   ·exact h.mr i j a1 (by omega) (by omega) a4
theorem Pdq.right (h0:LtOk lt) {A B a b m:Nat} {v:Nat→α} (h:Pdq lt A B a b v) (hm:Cut lt a b m v) (hs:Srt lt (m+1) b v):Pdq lt A B a m v:=by
 have h1:=h.pa
 have h2:=hm.ca
 have h3:=hm.cb
 have h4:=h.pb
 have key:∀ i j,a≤i→i<m+1→m≤j→j<b→i<j→Le lt (v i) (v j):=by
  intro i j b1 b2 b3 b4 b5
  have q1:Le lt (v i) (v m):=by
   by_cases e:i=m
   ·rw [e];exact Le.refl h0 _
   ·exact hm.l i b1 (by omega)
  by_cases e:j=m
  ·rw [e];exact q1
  ·exact q1.trans h0 (hm.r j (by omega) b4)
 refine ⟨h1,h2,by omega,h.l,fun p q a1 a2 a3=>?_,h.lm,fun i j a1 a2 a3 a4=>?_⟩
 ·by_cases e1:b≤p
  ·exact h.r p q e1 a2 a3
  ·by_cases e2:b≤q
   ·exact h.mr p q (by omega) (by omega) e2 a3
   ·by_cases e3:p=m
    ·subst e3;exact hm.r q a2 (by omega)
    ·exact hs p q (by omega) a2 (by omega)
 ·by_cases e1:b≤j
  ·exact h.mr i j a1 (by omega) e1 a4
  ·by_cases e2:i<a
   ·exact h.lm i j a1 e2 (by omega) a4
   ·exact key i j (by omega) (by omega) a3 (by omega) (by omega)
theorem Pdq.same (h0:LtOk lt) {A B a b m:Nat} {v:Nat→α} (h:Pdq lt A B a b v) (ham:a≤m) (hmb:m≤b) (hmin:∀ k,a≤k→k<b→Le lt (v a) (v k)) (hl:∀ k,a≤k→k<m→Le lt (v k) (v a)):Pdq lt A B m b v:=by
 have h1:=h.pa
 have h4:=h.pb
 have key:∀ i j,a≤i→i<m→a≤j→j<b→Le lt (v i) (v j):=fun i j b1 b2 b3 b4=>(hl i b1 b2).trans h0 (hmin j b3 b4)
 refine ⟨by omega,hmb,h4,fun p q a1 a2 a3=>?_,h.r,fun i j a1 a2 a3 a4=>?_,h.mr⟩
 ·by_cases e1:q<a
  ·exact h.l p q a1 a2 e1
  ·by_cases e2:p<a
   ·exact h.lm p q a1 e2 (by omega) (by omega)
   ·exact key p q (by omega) (by omega) (by omega) (by omega)
 ·by_cases e1:i<a
  ·exact h.lm i j a1 e1 (by omega) a4
  ·by_cases e2:j<b
   ·exact key i j (by omega) a2 (by omega) e2
   ·exact h.mr i j a1 (by omega) (by omega) a4
end
set_option maxRecDepth 4000
abbrev MD:Bool×List EK:=(true,[.str,.str,.str])
def ndA (n:Nd):AV:=.agg (ndC n)
theorem ke_nd:KE MD ndA:=⟨fun n=>by simp [ndA,ndC,q0s,q17,ekOk],fun n m h=>by
 obtain ⟨⟨a,b⟩,c⟩:=n
 obtain ⟨⟨d,e⟩,f⟩:=m
 simp only [ndA,ndC,AV.agg.injEq,List.cons.injEq,AV.str.injEq,and_true] at h
 obtain ⟨rfl,rfl,rfl⟩:=h
 rfl⟩
theorem foldE_cons {α σ:Type} {step:σ→α→Option (Bool×σ)} {x:α} {r:List α} {a:σ}:q52 step (x :: r) a=match step a x with
  | none=>none
  | some (true,a')=>some (true,a')
  | some (false,a')=>q52 step r a':=rfl
theorem KMap.lki {κ:Type} {M:Bool×List EK} {enc:κ→AV} {S:q00} {b:Nat} {f:κ→Option AV} {ok:Bool} {z:AV} {K:AV→Prop} (h:KMap M enc S b f) (he:KE M enc) (k:κ) (hk:K (q1y ok z (f k))):lkW S M ok z (.map (some b)) (enc k) K:=Eq.mpr (h.lk he k) hk
def PostQ (pv:AV) (X:q00→Prop) (St:Nat→q00→Prop) (q:Option (Bool×Nat)) (ae:AEnd) (S':q00):Prop:=match q with
 | some (b,w')=>ae=.ret (.bool b)∧St w' S'
 | none=>ae=.pan pv∧X S'
section
variable {xs:List Nd} {g:Nat} {fi ca:List AV} {St:Nat→q00→Prop} {step:Nat→Nd→Option (Bool×Nat)} {pv:AV} {X:q00→Prop}
theorem q6i (hb:xs.length≤1125899906842624) (hp:∀ x∈xs,∀ w S,St w S→ACalls PG g (fi++[.agg (ndC x)]++ca) S (PostQ pv X St (step w x))) {w:Nat} {S:q00} (h0:St w S) :
  ACalls PG nrx186 [.sl 3 (xs.map ndC),.func (.func g) fi ca] S fun ae S'=>match q52 step xs w with
   | some (b,w')=>(∃ i:Int,ae=.ret (.int .i64 i)∧decide (0≤i)=b)∧St w' S'
   | none=>ae=.pan pv∧X S':=by
 refine wx186 ?_
 unfold Bx186
 (try simp only [rwp,zA,zB,zC,zD,zE,zF,zG,zH,zI])
 refine LoopP.introS (fun i:Nat=>[(0,.sl 3 (xs.map ndC)),(1,.func (.func g) fi ca),(7,.int .i64 xs.length),(8,.int .i64 i)]) (fun i S'=>i≤xs.length∧∃ w',St w' S'∧q52 step (xs.drop i) w'=q52 step xs w) (fun i=>xs.length-i) 0 ⟨by omega,w,h0,rfl⟩ rfl ?_
 rintro i S' ⟨hi,w1,h1,h2⟩ r hr
 unfold C186_1
 (try simp only [rwp,zA,zB,zC,zD,zE,zF,zG,zH,zI])
 (refine q02 (fun hlt=>?_) (fun hlt=>?_)<;>(try simp only [hlc] at hlt))
 ·obtain ⟨x,hx⟩:=q0e hlt
  have q:=hp x (List.mem_of_getElem? hx) w1 S' h1
  rw [q0h hx,foldE_cons] at h2
  (try simp only [rwp,zA,zB,zC,zD,zE,zF,zG,zH,zI,hx,ndC])
  refine caW_ofv q ?_
  intro ae S2 hq
  unfold PostQ at hq
  cases hs:step w1 x with
  | none=>
   rw [hs] at hq h2
   obtain ⟨rfl,hx⟩:=hq
   show pqW _ _ _
   unfold pqW
   rw [← h2]
   exact ⟨rfl,hx⟩
  | some p=>
   obtain ⟨b,w2⟩:=p
   rw [hs] at hq h2
   obtain ⟨rfl,h3⟩:=hq
   dsimp only at h2 ⊢
   cases b with
   | true=>
    dsimp only at h2
    (try simp only [rwp,zA,zB,zC,zD,zE,zF,zG,zH,zI])
    refine q03 ?_
    rw [← h2]
    exact ⟨⟨i,rfl,by simp⟩,h3⟩
   | false=>
    dsimp only at h2
    (try simp only [rwp,zA,zB,zC,zD,zE,zF,zG,zH,zI])
    (simp (disch:=omega) only [q07])
    exact q09 rfl (hr (i+1) S2 ⟨by omega,w2,h3,h2⟩ (by omega))
 ·have e:xs.drop i=[]:=q0z hlt
  rw [e] at h2
  refine q03 ?_
  rw [← h2]
  exact ⟨⟨-1,rfl,rfl⟩,h1⟩
theorem q4o (hb:xs.length≤1125899906842624) (hp:∀ x∈xs,∀ w S,St w S→ACalls PG g (fi++[.agg (ndC x)]++ca) S (PostQ pv X St (step w x))) {w:Nat} {S:q00} (h0:St w S) :
  ACalls PG nrx147 [.sl 3 (xs.map ndC),.func (.func g) fi ca] S (PostQ pv X St (q52 step xs w)):=by
 refine wx147 ?_
 unfold Bx147
 refine q1b (q6i hb hp h0) ?_
 intro ae S' hq
 unfold PostQ
 cases hf:q52 step xs w with
 | none=>
  rw [hf] at hq
  obtain ⟨rfl,hx⟩:=hq
  exact ⟨rfl,hx⟩
 | some p=>
  obtain ⟨b,w2⟩:=p
  rw [hf] at hq
  obtain ⟨⟨i,rfl,h1⟩,h2⟩:=hq
  dsimp only
  (try simp only [rwp,zA,zB,zC,zD,zE,zF,zG,zH,zI])
  exact q03 ⟨by rw [h1],h2⟩
theorem q7a {w:Nat} {S:q00} (h0:St w S) :
  ACalls PG nrx147 [.nils,.func (.func g) fi ca] S (PostQ pv X St (q52 step [] w)):=by
 refine wx147 ?_
 unfold Bx147
 have q:AFunS PG nrx186 [.nils,.func (.func g) fi ca] S (.int .i64 (-1)):=by
  refine wx186 ?_
  unfold Bx186
  (try simp only [rwp,zA,zB,zC,zD,zE,zF,zG,zH,zI])
  refine LoopP.introS (fun _:Nat=>[(0,.nils),(1,.func (.func g) fi ca),(7,.int .i64 0),(8,.int .i64 0)]) (fun i S'=>S'=S) (fun i=>i) 0 rfl rfl ?_
  rintro i S' rfl r hr
  (try simp only [rwp,zA,zB,zC,zD,zE,zF,zG,zH,zI,rwb,reduceIte,C186_1,Int.lt_irrefl])
  exact q03 ⟨rfl,rfl⟩
 refine q1h q ?_
 (try simp only [rwp,zA,zB,zC,zD,zE,zF,zG,zH,zI])
 exact q03 ⟨rfl,h0⟩
def ofA (l:List Nd):Option AV:=if l=[] then none else some (.sl 3 (l.map ndC))
theorem q8c (hb:xs.length≤1125899906842624) (hp:∀ x∈xs,∀ w S,St w S→ACalls PG g (fi++[.agg (ndC x)]++ca) S (PostQ pv X St (step w x))) {w:Nat} {S:q00} (h0:St w S) :
  ACalls PG nrx147 [q1y false .nils (ofA xs),.func (.func g) fi ca] S (PostQ pv X St (q52 step xs w)):=by
 unfold ofA
 split
 ·rename_i h;subst h;exact q7a h0
 ·exact q4o hb hp h0
end
abbrev tySe:Nat:=94
structure PathE (es:List (AV×AV×Nat)) (P:List Nd):Prop where
 key:∀ x∈es,∃ n,x.1=ndA n
 len:es.length=P.length
 get:∀ n,mget es (ndA n)=if n∈P then some (.bool true) else none
def seC (E:q1n) (B:Int) (bo bp w:Nat):List AV:=[.sl 2 (E.s.map tyC),.map (some bo),.str E.who.ty,.str E.who.id,.int .i64 B,.int .i64 w,.map (some bp)]
def stE (E:q1n) (B:Int) (bc bo bp:Nat) (S0:q00) (w:Nat) (es:List (AV×AV×Nat)) (clk:Nat):q00:=supd (supd S0 bc (.cells tySe (seC E B bo bp w) 7)) bp (.map MD es clk)
section
variable {E:q1n} {B:Int} {bc bo bp:Nat} {S0:q00}
theorem stE_map {w:Nat} {es:List (AV×AV×Nat)} {clk:Nat}:q2i (stE E B bc bo bp S0 w es clk) bp=some (MD,es,clk):=mapObj_some.2 (by unfold stE;rw [q01,if_pos rfl])
end
theorem mfind_none {es:List (AV×AV×Nat)} {k:AV} (h:mget es k=none):q1d es k=none:=by
 unfold mget at h
 exact Option.map_eq_none_iff.1 h
theorem mget_snoc {k v k':AV} {c:Nat}:∀ {es:List (AV×AV×Nat)},mget (es++[(k,v,c)]) k'=match mget es k' with
  | some u=>some u
  | none=>if q1g k' k then some v else none
 | []=>by simp [mget,q1d]
 | x :: r=>by
  rw [List.cons_append,q1x,q1x]
  split
  ·rfl
  ·exact mget_snoc
theorem ndA_eq (n m:Nd):q1g (ndA n) (ndA m)=decide (n=m):=by
 have hk:=ke_nd
 by_cases h:n=m
 ·subst h
  rw [decide_eq_true rfl]
  exact q7w (hk.ok n)
 ·rw [decide_eq_false h]
  cases hq:q1g (ndA n) (ndA m) with
  | false=>rfl
  | true=>exact absurd (hk.inj _ _ ((q46 (hk.ok n) (hk.ok m)).1 hq)) h
theorem PathE.push {es:List (AV×AV×Nat)} {P:List Nd} (h:PathE es P) {n:Nd} (hn:n ∉ P) (clk:Nat):PathE (es++[(ndA n,.bool true,clk)]) (n :: P) where
 key:=fun x hx=>by
  rcases List.mem_append.1 hx with h1 | h1
  ·exact h.key x h1
  ·rw [List.mem_singleton.1 h1];exact ⟨n,rfl⟩
 len:=by rw [List.length_append,h.len];rfl
 get:=fun m=>by
  rw [mget_snoc,h.get]
  by_cases h1:m∈P
  ·rw [if_pos h1,if_pos (List.mem_cons_of_mem _ h1)]
  ·rw [if_neg h1]
   dsimp only
   rw [ndA_eq]
   by_cases h2:m=n
   ·subst h2;simp
   ·rw [decide_eq_false h2,if_neg (by simp),if_neg (by simp [h1,h2])]
theorem PathE.map {E:q1n} {B:Int} {bc bo bp:Nat} {S0:q00} {es:List (AV×AV×Nat)} {P:List Nd} (h:PathE es P) {w clk:Nat}:KMap MD ndA (stE E B bc bo bp S0 w es clk) bp (fun n=>if n∈P then some (.bool true) else none):=
 ⟨es,clk,stE_map,fun x hx=>by obtain ⟨n,e⟩:=h.key x hx;rw [e];exact ke_nd.ok n,h.get⟩
section
variable {E:q1n} {B:Int} {bc bo bp:Nat} {S0:q00}
end
structure OfM (S0 S:q00) (t bo:Nat) (Ks:Nat→Prop) (f:Nd→List (List AV)) (es:List (AV×AV×Nat)) (clk:Nat):Prop where
 map:sget S bo=some (.map MD es clk)
 b0:sget S0 bo=none
 key:∀ x∈es,∃ n,x.1=ndA n
 nd:(es.map fun x=>x.2.2).Nodup
 ku:∀ (i j:Nat) (x y:AV×AV×Nat),es[i]?=some x→es[j]?=some y→x.1=y.1→i=j
 lt:∀ x∈es,x.2.2<clk
 no:∀ n,mget es (ndA n)=none→f n=[]
 yes:∀ n v,mget es (ndA n)=some v→f n≠[]∧LstN S0 S t 3 v (f n)∧q0u v bo∧∀ c,Ks c→q0u v c
 apart:∀ n m v u,n≠m→mget es (ndA n)=some v→mget es (ndA m)=some u→∀ b off k cap,u=.own b off k cap→q0u v b
 ks:∀ c,Ks c→c≠bo∧sget S c≠none
theorem q81 {bn:Nat}:∀ {es:List (AV×AV×Nat)} {i:Nat} {x:AV×AV×Nat},(es.map fun x=>x.2.2).Nodup→es[i]?=some x→x.2.2=bn→es.findIdx? (fun x=>x.2.2==bn)=some i:=by
 intro es i x hnd hx hb
 have hi:=(List.getElem?_eq_some_iff.1 hx).1
 rw [List.findIdx?_eq_some_iff_getElem]
 refine ⟨hi,?_,fun j hj=>?_⟩
 ·have:=(List.getElem?_eq_some_iff.1 hx).2
  simp [this,hb]
 ·intro hq
  have hj2:j<es.length:=by omega
  have h1:es[j].2.2=bn:=by simpa using hq
  have h2:es[i].2.2=bn:=by rw [(List.getElem?_eq_some_iff.1 hx).2];exact hb
  have:=(List.getElem_inj (xs:=es.map fun (x:AV×AV×Nat)=>x.2.2) (i:=j) (j:=i) (h₀:=by simpa using hj2) (h₁:=by simpa using hi) hnd).1 (by simp [h1,h2])
  omega
theorem mget_no {es:List (AV×AV×Nat)} {n:Nd} (hk:∀ x∈es,∃ n,x.1=ndA n) (h:mget es (ndA n)=none):∀ x∈es,x.1≠ndA n:=by
 induction es with
 | nil=>intro x hx;cases hx
 | cons y r ih=>
  rw [q1x] at h
  obtain ⟨m,hm⟩:=hk y (by simp)
  intro x hx
  split at h
  ·cases h
  ·rename_i hq
   rcases List.mem_cons.1 hx with rfl | hx
   ·intro e
    rw [e,ndA_eq] at hq
    simp at hq
   ·exact ih (fun z hz=>hk z (List.mem_cons_of_mem _ hz)) h x hx
theorem mfind_key {es:List (AV×AV×Nat)} {n:Nd} {i:Nat} {v:AV} {bn:Nat} (hk:∀ x∈es,∃ n,x.1=ndA n) (h:q1d es (ndA n)=some (i,v,bn)):es[i]?=some (ndA n,v,bn):=by
 obtain ⟨kk,h1,h2⟩:=q4v h
 obtain ⟨m,hm⟩:=hk _ (List.mem_of_getElem? h1)
 dsimp only at hm
 subst hm
 rw [ndA_eq] at h2
 rw [h1,of_decide_eq_true h2]
theorem mget_mset {es:List (AV×AV×Nat)} {n m:Nd} {v:AV} {clk:Nat} (hk:∀ x∈es,∃ n,x.1=ndA n):mget (mset es (ndA n) v clk).1 (ndA m)=if m=n then some v else mget es (ndA m):=by
 have hko:keysOk MD es:=fun x hx=>by obtain ⟨n,e⟩:=hk x hx;rw [e];exact ke_nd.ok n
 rw [q3l,q6y (ke_nd.ok n) _ _ hko (ke_nd.ok m)]
 by_cases h:m=n
 ·subst h;simp
 ·rw [if_neg fun e=>h (ke_nd.inj _ _ e),if_neg h]
section
variable {S0 S:q00} {t bo:Nat} {Ks:Nat→Prop} {f:Nd→List (List AV)} {es:List (AV×AV×Nat)} {clk:Nat}
theorem OfM.put (h:OfM S0 S t bo Ks f es clk) {n:Nd} {v v':AV} {row:List AV} {S2:q00} {es':List (AV×AV×Nat)} {clk':Nat} (hv:mget es (ndA n)=some v∨(mget es (ndA n)=none∧v=.nils))
  (h2:LstN S0 S2 t 3 v' (f n++[row])) (hF:∀ c o,c≠bo→sget S c=some o→q0u v c→sget S2 c=some o∧q0u v' c) (hvb:q0u v' bo)
  (he:es'=(mset es (ndA n) v' clk).1) (hkey:∀ x∈es',∃ n,x.1=ndA n) (hnd:(es'.map fun x=>x.2.2).Nodup) (hku:∀ (i j:Nat) (x y:AV×AV×Nat),es'[i]?=some x→es'[j]?=some y→x.1=y.1→i=j) (hlt:∀ x∈es',x.2.2<clk') :
  OfM S0 (supd S2 bo (.map MD es' clk')) t bo Ks (fun m=>if m=n then f n++[row] else f m) es' clk':=by
 have hg:∀ m,mget es' (ndA m)=if m=n then some v' else mget es (ndA m):=fun m=>by rw [he,mget_mset h.key]
 have hva:∀ c,Ks c→q0u v c:=fun c hc=>by
  rcases hv with hv | ⟨-,rfl⟩
  ·exact (h.yes n v hv).2.2.2 c hc
  ·intro b off k cap e;cases e
 refine ⟨by rw [q01,if_pos rfl],h.b0,hkey,hnd,hku,hlt,fun m hm=>?_,fun m u hm=>?_,fun m p u x hmp hm hp=>?_,fun c hc=>⟨(h.ks c hc).1,?_⟩⟩
 ·rw [hg] at hm
  by_cases hmn:m=n
  ·rw [if_pos hmn] at hm;cases hm
  ·rw [if_neg hmn] at hm ⊢
   exact h.no m hm
 ·rw [hg] at hm
  by_cases hmn:m=n
  ·rw [if_pos hmn] at hm ⊢
   cases hm
   refine ⟨by simp,h2.upd hvb _,hvb,fun c hc=>?_⟩
   cases ho:sget S c with
   | none=>exact absurd ho (h.ks c hc).2
   | some o=>exact (hF c o (h.ks c hc).1 ho (hva c hc)).2
  ·rw [if_neg hmn] at hm ⊢
   obtain ⟨k1,k2,k3,k4⟩:=h.yes m u hm
   refine ⟨k1,LstN.upd ?_ k3 _,k3,k4⟩
   obtain ⟨hr,hl⟩:=k2
   refine ⟨hr,?_⟩
   rcases hl with hl | ⟨b,cap,rfl,q1,q2,q3⟩
   ·exact .inl hl
   ·refine .inr ⟨b,cap,rfl,q1,?_,q3⟩
    have hav:q0u v b:=by
     rcases hv with hv | ⟨-,rfl⟩
     ·exact h.apart n m v _ (Ne.symm hmn) hv hm b _ _ _ rfl
     ·intro b off k cap e;cases e
    exact (hF b _ (Ne.symm (k3 b _ _ _ rfl)) q2 hav).1
 ·rw [hg] at hm hp
  intro b off k cap hx
  have other:∀ (m:Nd) (u:AV),m≠n→mget es (ndA m)=some u→∀ b off k cap,u=.own b off k cap→q0u v' b:=by
   intro m u hmn hm b off k cap e
   subst e
   obtain ⟨k1,k2,k3,k4⟩:=h.yes m _ hm
   have hav:q0u v b:=by
    rcases hv with hv | ⟨-,rfl⟩
    ·exact h.apart n m v _ (Ne.symm hmn) hv hm b _ _ _ rfl
    ·intro b off k cap e;cases e
   obtain ⟨hr,hl⟩:=k2
   rcases hl with ⟨e,-⟩ | ⟨b1,cap1,e,q1,q2,q3⟩
   ·cases e
   ·cases e
    exact (hF b _ (Ne.symm (k3 b _ _ _ rfl)) q2 hav).2
  by_cases hmn:m=n
  ·rw [if_pos hmn] at hm
   cases hm
   have hpn:p≠n:=fun e=>hmp (hmn.trans e.symm)
   rw [if_neg hpn] at hp
   exact other p x hpn hp b off k cap hx
  ·rw [if_neg hmn] at hm
   by_cases hpn:p=n
   ·rw [if_pos hpn] at hp
    cases hp
    subst hx
    intro b1 off1 k1 cap1 e
    exact Ne.symm (other m u hmn hm b1 off1 k1 cap1 e b off k cap rfl)
   ·rw [if_neg hpn] at hp
    exact h.apart m p u x hmp hm hp b off k cap hx
 ·rw [q01,if_neg (Ne.symm (h.ks c hc).1)]
  cases ho:sget S c with
  | none=>exact absurd ho (h.ks c hc).2
  | some o=>rw [(hF c o (h.ks c hc).1 ho (hva c hc)).1];simp
theorem OfM.push (h:OfM S0 S t bo Ks f es clk) (hs:Sub S0 S) (n:Nd) {row:List AV} {bytes:Nat} {K:q00→Prop} (hr:row.length=3) (ho:ones row=true) (hb:((f n).length+1) * bytes≤140737488355328)
  (hK:∀ S' es' clk',Sub S0 S'→OfM S0 S' t bo Ks (fun m=>if m=n then f n++[row] else f m) es' clk'→(∀ c,Ks c→sget S' c=sget S c)→K S') :
  meW S MD .nils (.map (some bo)) (ndA n) fun v S=>exW 0 v fun v70=>exW 1 v fun v76=>apW S t 3 bytes v70 (.sl 3 [row]) fun v75 S=>mtW S (.map (some bo)) v76 v75 K:=by
 have keep:∀ {v v':AV} {S1 S2:q00},(∀ c,Ks c→q0u v c)→(∀ c o,c≠bo→sget S c=some o→q0u v c→sget S2 c=some o∧q0u v' c)→∀ es' clk',∀ c,Ks c→sget (supd S2 bo (.map MD es' clk')) c=sget S c:=by
  intro v v' S1 S2 hv hF es' clk' c hc
  rw [q01,if_neg (Ne.symm (h.ks c hc).1)]
  cases ho:sget S c with
  | none=>exact absurd ho (h.ks c hc).2
  | some o=>exact (hF c o (h.ks c hc).1 ho (hv c hc)).1
 cases hq:mget es (ndA n) with
 | none=>
  have hm:=mfind_none hq
  have hf:=h.no n hq
  refine ⟨bo,es,clk,rfl,h.map,ke_nd.ok n,?_⟩
  rw [hm]
  dsimp only
  rw [q5r,q9f,q5r]
  have hsub1:Sub S0 (supd S bo (.map MD (es++[(ndA n,.nils,clk)]) (clk+1))):=Sub.supd h.b0 hs
  refine LstN.app hsub1 (LstN.nil (S0:=S0)) (fun r hr'=>by rw [List.mem_singleton.1 hr'];exact hr) (q4a fun r hr'=>by rw [List.mem_singleton.1 hr'];exact ho) (by rw [hf] at hb;simpa using hb) fun v' S2 h1 h2 h3=>?_
  rw [List.nil_append] at h2
  have hbo2:=h3 bo _ (by rw [q01,if_pos rfl]) (fun b off k cap e=>by cases e)
  have hF:∀ c o,c≠bo→sget S c=some o→q0u .nils c→sget S2 c=some o∧q0u v' c:=fun c o hc hso ha=>h3 c o (by rw [q01,if_neg (Ne.symm hc)];exact hso) ha
  have hnd:((es++[(ndA n,AV.nils,clk)]).map fun x=>x.2.2).Nodup:=by
   rw [List.map_append,List.nodup_append]
   refine ⟨h.nd,by simp,fun a ha b hb=>?_⟩
   obtain ⟨x,hx,rfl⟩:=List.mem_map.1 ha
   have:=h.lt x hx
   simp at hb
   omega
  have hset:(mset es (ndA n) v' clk)=(es++[(ndA n,v',clk)],clk+1):=by unfold mset;rw [hm]
  have hku:∀ (i j:Nat) (x y:AV×AV×Nat),(es++[(ndA n,v',clk)])[i]?=some x→(es++[(ndA n,v',clk)])[j]?=some y→x.1=y.1→i=j:=by
   intro i j x y hx hy hxy
   have hno:=mget_no h.key hq
   rw [List.getElem?_append] at hx hy
   split at hx<;>split at hy
   ·exact h.ku i j x y hx hy hxy
   ·rw [List.getElem?_singleton] at hy
    split at hy
    ·cases hy
     exact absurd hxy (hno x (List.mem_of_getElem? hx))
    ·cases hy
   ·rw [List.getElem?_singleton] at hx
    split at hx
    ·cases hx
     exact absurd hxy.symm (hno y (List.mem_of_getElem? hy))
    ·cases hx
   ·rw [List.getElem?_singleton] at hx hy
    split at hx
    ·split at hy
     ·omega
     ·cases hy
    ·cases hx
  refine ⟨bo,MD,es++[(ndA n,.nils,clk)],clk+1,es.length,ndA n,.nils,clk,rfl,hbo2.1,rfl,q81 hnd (x:=(ndA n,.nils,clk)) (by simp) rfl,by simp,?_⟩
  have e:(es++[(ndA n,AV.nils,clk)]).set es.length (ndA n,v',clk)=es++[(ndA n,v',clk)]:=by simp
  rw [e]
  refine hK _ _ _ (Sub.supd h.b0 h1) (h.put (n:=n) (v:=.nils) (.inr ⟨hq,rfl⟩) (by rw [hf];exact h2) hF hbo2.2 (by rw [hset]) (fun x hx=>?_) (by simpa using hnd) hku fun x hx=>?_) (keep (S1:=S) (fun c _ b off k cap e=>by cases e) hF _ _)
  ·rcases List.mem_append.1 hx with hx | hx
   ·exact h.key x hx
   ·rw [List.mem_singleton.1 hx];exact ⟨n,rfl⟩
  ·rcases List.mem_append.1 hx with hx | hx
   ·have:=h.lt x hx;omega
   ·rw [List.mem_singleton.1 hx];exact Nat.lt_succ_self _
 | some v=>
  obtain ⟨hne,hl,hvb,hvk⟩:=h.yes n v hq
  have hm:∃ i bn,q1d es (ndA n)=some (i,v,bn):=by
   unfold mget at hq
   cases hmf:q1d es (ndA n) with
   | none=>rw [hmf] at hq;cases hq
   | some p=>
    obtain ⟨i,u,bn⟩:=p
    rw [hmf] at hq
    simp at hq
    subst hq
    exact ⟨i,bn,rfl⟩
  obtain ⟨i,bn,hm⟩:=hm
  have hi:=mfind_key h.key hm
  refine ⟨bo,es,clk,rfl,h.map,ke_nd.ok n,?_⟩
  rw [hm]
  dsimp only
  have e0:es.set i (ndA n,v,bn)=es:=by
   apply List.ext_getElem?
   intro j
   rw [List.getElem?_set]
   split
   ·rename_i hij
    subst hij
    rw [if_pos (List.getElem?_eq_some_iff.1 hi).1,hi]
   ·rfl
  rw [e0,q5r,q9f,q5r]
  have e1:supd S bo (.map MD es clk)=S:=by
   funext c
   unfold supd
   split
   ·rename_i hc;subst hc;exact h.map.symm
   ·rfl
  rw [e1]
  refine LstN.app hs hl (fun r hr'=>by rw [List.mem_singleton.1 hr'];exact hr) (q4a fun r hr'=>by rw [List.mem_singleton.1 hr'];exact ho) (by simpa using hb) fun v' S2 h1 h2 h3=>?_
  have hbo2:=h3 bo _ h.map hvb
  have hF:∀ c o,c≠bo→sget S c=some o→q0u v c→sget S2 c=some o∧q0u v' c:=fun c o _ hso ha=>h3 c o hso ha
  have hset:(mset es (ndA n) v' clk)=(es.set i (ndA n,v',bn),clk):=by unfold mset;rw [hm]
  refine ⟨bo,MD,es,clk,i,ndA n,v,bn,rfl,hbo2.1,rfl,q81 h.nd hi rfl,hi,?_⟩
  have hlt:=(List.getElem?_eq_some_iff.1 hi).1
  have hmap:(es.set i (ndA n,v',bn)).map (fun x=>x.2.2)=es.map fun x=>x.2.2:=by
   rw [List.map_set]
   apply List.ext_getElem?
   intro j
   rw [List.getElem?_set]
   split
   ·rename_i hij
    subst hij
    rw [if_pos (by simpa using hlt),List.getElem?_map,hi];rfl
   ·rfl
  refine hK _ _ _ (Sub.supd h.b0 h1) (h.put (n:=n) (v:=v) (.inl hq) h2 hF hbo2.2 (by rw [hset]) (fun x hx=>?_) (by rw [hmap];exact h.nd) (fun i2 j2 x y hx hy hxy=>?_) fun x hx=>?_) (keep (S1:=S) hvk hF _ _)
  ·rcases List.mem_or_eq_of_mem_set hx with hx | rfl
   ·exact h.key x hx
   ·exact ⟨n,rfl⟩
  ·have hget:∀ (k:Nat) (z:AV×AV×Nat),(es.set i (ndA n,v',bn))[k]?=some z→∃ z',es[k]?=some z'∧z'.1=z.1:=by
    intro k z hz
    rw [List.getElem?_set] at hz
    split at hz
    ·rename_i hik
     subst hik
     cases hz
     exact ⟨_,hi,rfl⟩
    ·exact ⟨z,hz,rfl⟩
   obtain ⟨x',hx',ex⟩:=hget i2 x hx
   obtain ⟨y',hy',ey⟩:=hget j2 y hy
   exact h.ku i2 j2 x' y' hx' hy' (by rw [ex,ey,hxy])
  ·rcases List.mem_or_eq_of_mem_set hx with hx | rfl
   ·exact h.lt x hx
   ·exact h.lt (ndA n,v,bn) (List.mem_of_getElem? hi)
end
def ndD:AV→Nd
 | .agg [.str a,.str b,.str c]=>⟨⟨a,b⟩,c⟩
 | _=>⟨⟨⟨#[]⟩,⟨#[]⟩⟩,⟨#[]⟩⟩
theorem ndD_A (n:Nd):ndD (ndA n)=n:=rfl
def frzM (f:Nd→List (List AV)) (es:List (AV×AV×Nat)):List (AV×AV×Nat):=es.map fun x=>(x.1,.sl 3 (f (ndD x.1)),x.2.2)
theorem mget_frz {f:Nd→List (List AV)} {n:Nd}:∀ {es:List (AV×AV×Nat)},(∀ x∈es,∃ n,x.1=ndA n)→mget (frzM f es) (ndA n)=(mget es (ndA n)).map fun _=>.sl 3 (f n)
 | [],_=>rfl
 | x :: r,h=>by
  obtain ⟨m,hm⟩:=h x (by simp)
  have ih:=mget_frz (f:=f) (n:=n) (es:=r) fun y hy=>h y (List.mem_cons_of_mem _ hy)
  unfold frzM at ih ⊢
  rw [List.map_cons,q1x,q1x,hm,ndA_eq]
  dsimp only
  by_cases e:n=m
  ·subst e
   simp [ndD_A]
  ·rw [decide_eq_false e,if_neg (by simp),if_neg (by simp)]
   exact ih
section
variable {S0 S:q00} {t bo:Nat} {Ks:Nat→Prop} {f:Nd→List (List AV)} {es:List (AV×AV×Nat)} {clk:Nat}
theorem OfM.fr (h:OfM S0 S t bo Ks f es clk) {S1:q00} (h1:∀ b,sget S1 b≠none→b=bo∨Ks b∨sget S0 b≠none):FrO S1 S (.map MD es clk) (.map MD (frzM f es) clk):=by
 refine .map MD es _ clk (by simp [frzM]) fun i e e' he he'=>?_
 unfold frzM at he'
 rw [List.getElem?_map,he] at he'
 simp only [Option.map_some,Option.some.injEq] at he'
 subst he'
 obtain ⟨n,hn⟩:=h.key e (List.mem_of_getElem? he)
 refine ⟨rfl,?_,rfl⟩
 dsimp only
 rw [hn,ndD_A]
 have hg:mget es (ndA n)=some e.2.1:=by
  cases hq:mget es (ndA n) with
  | none=>exact absurd hn (mget_no h.key hq e (List.mem_of_getElem? he))
  | some u=>
   unfold mget at hq
   cases hmf:q1d es (ndA n) with
   | none=>rw [hmf] at hq;cases hq
   | some p=>
    obtain ⟨j,u',bn⟩:=p
    have hj:=mfind_key h.key hmf
    have:=h.ku i j _ _ he hj hn
    subst this
    rw [he] at hj
    cases hj
    rw [hmf] at hq
    exact hq.symm
 obtain ⟨-,⟨hr,hl⟩,hvb,hvk⟩:=h.yes n _ hg
 rcases hl with ⟨e1,e2⟩ | ⟨b,cap,e1,q1,q2,q3,-,-⟩
 ·rw [e1,e2];exact .nils 3
 ·rw [e1] at hvb hvk ⊢
  refine .own t 3 b _ cap (f n) hr ?_ q2 rfl q3
  cases hs:sget S1 b with
  | none=>rfl
  | some o=>
   rcases h1 b (by rw [hs];simp) with rfl | hk | h0
   ·exact absurd rfl (hvb _ _ _ _ rfl)
   ·exact absurd rfl (hvk b hk _ _ _ _ rfl)
   ·exact absurd q1 h0
end
set_option maxRecDepth 4000
def ndT (t:Tu):Nd:=⟨t.o,t.rl⟩
section
variable {S0 S1:q00} {b1 b2 b3 t1 t2 t3:Nat} {x1 x2 x3:AV} {QF:AEnd→q00→Prop}
end
theorem frsh {S:q00} {b c:Nat} {o:AObj} (h:sget (supd S b o) c=none):c≠b∧sget S c=none:=by
 rw [q01] at h
 split at h
 ·cases h
 ·rename_i hn;exact ⟨fun e=>hn e.symm,h⟩
theorem q3o {Y N:Prop} (h:N):cnW (.bool false) Y N:=⟨fun h=>by (cases h),fun _=>h⟩
set_option maxRecDepth 4000
theorem q3x {o:Ob} (ho:OkO o):AFun PG nrx40 [.agg (obC o)] (.str (q4l o)):=by
 intro S
 refine wx40 ?_
 unfold Bx40
 (try simp only [rwp,zA,zB,zC,zD,zE,zF,zG,zH,zI,rwb,reduceIte,obC])
 refine q05 (q0w ho.ty) ?_
 have h1:=ho.ty
 have h2:=ho.id
 (try simp only [rwp,zA,zB,zC,zD,zE,zF,zG,zH,zI,rwb,reduceIte])
 refine q05 (c_ref10_ID ho.id) ?_
 cases a1:q0q o.ty<;>cases a2:idB o.id<;>(try simp only [rwp,zA,zB,zC,zD,zE,zF,zG,zH,zI,rwb,reduceIte,C40_1,ByteArray.size_append])
 ·exact q03 ⟨by simp [q4l,obB,a1],rfl⟩
 ·exact q03 ⟨by simp [q4l,obB,a1],rfl⟩
 ·exact q03 ⟨by simp [q4l,obB,a1,a2],rfl⟩
 ·have:(ByteArray.mk #[58]).size=1:=rfl
  exact ⟨by omega,by omega,q03 ⟨by simp [q4l,obB,a1,a2],rfl⟩⟩
theorem q6g {n:Nd} (hn:OkD n):AFun PG nrx39 [.agg (ndC n)] (.str (q65 n)):=by
 intro S
 refine wx39 ?_
 unfold Bx39
 (try simp only [rwp,zA,zB,zC,zD,zE,zF,zG,zH,zI,rwb,reduceIte,ndC])
 have q:=q3x hn.o
 simp only [obC] at q
 have h1:=q6s hn.o
 have h2:=hn.rl
 refine q05 q ?_
 (try simp only [rwp,zA,zB,zC,zD,zE,zF,zG,zH,zI,rwb,reduceIte])
 refine q05 (q0w hn.rl) ?_
 (try simp only [rwp,zA,zB,zC,zD,zE,zF,zG,zH,zI,rwb,reduceIte])
 rw [q4q]
 cases a1:obB n.o
 ·(try simp only [rwp,zA,zB,zC,zD,zE,zF,zG,zH,zI,rwb,reduceIte,C39_1])
  exact q03 ⟨by simp [q65,q4l,a1],rfl⟩
 ·cases a2:decide (n.rl=⟨#[]⟩)
  ·(try simp only [rwp,zA,zB,zC,zD,zE,zF,zG,zH,zI,rwb,reduceIte,C39_1,a2])
   have a2:=of_decide_eq_false a2
   cases a3:q0q n.rl
   ·(try simp only [rwp,zA,zB,zC,zD,zE,zF,zG,zH,zI,rwb,reduceIte])
    exact q03 ⟨by simp [q65,a1,a2,a3],rfl⟩
   ·(try simp only [rwp,zA,zB,zC,zD,zE,zF,zG,zH,zI,rwb,reduceIte,ByteArray.size_append])
    have:(ByteArray.mk #[35]).size=1:=rfl
    exact ⟨by omega,by omega,q03 ⟨by simp [q65,a1,a2,a3],rfl⟩⟩
  ·(try simp only [rwp,zA,zB,zC,zD,zE,zF,zG,zH,zI,rwb,reduceIte,C39_1,a2])
   have a2:=of_decide_eq_true a2
   exact q03 ⟨by simp [q65,a1,a2],rfl⟩
theorem q89 {t:Tu} (ht:OkU t):AFun PG nrx120 [.agg (tuC t)] (.str (q8x t)):=by
 intro S
 refine wx120 ?_
 unfold Bx120
 (try simp only [rwp,zA,zB,zC,zD,zE,zF,zG,zH,zI,rwb,reduceIte,tuC])
 have q1:=q3x ht.o
 have q2:=q6g ht.s
 simp only [obC] at q1
 simp only [ndC] at q2
 have h1:=q6s ht.o
 have h2:=showN_le ht.s
 have h3:=ht.rl
 refine q05 q1 ?_
 (try simp only [rwp,zA,zB,zC,zD,zE,zF,zG,zH,zI,rwb,reduceIte])
 refine q05 q2 ?_
 (try simp only [rwp,zA,zB,zC,zD,zE,zF,zG,zH,zI,rwb,reduceIte])
 refine q05 (q0w ht.rl) ?_
 (try simp only [rwp,zA,zB,zC,zD,zE,zF,zG,zH,zI,rwb,reduceIte])
 have e:=tuB_eq t
 rw [q4q,showN_nil]
 cases a1:obB t.o
 ·(try simp only [rwp,zA,zB,zC,zD,zE,zF,zG,zH,zI,rwb,reduceIte,C120_1,C120_2])
  exact q03 ⟨by simp [q8x,e,a1],rfl⟩
 ·cases a2:(obB t.s.o&&(decide (t.s.rl=⟨#[]⟩)||q0q t.s.rl))
  ·(try simp only [rwp,zA,zB,zC,zD,zE,zF,zG,zH,zI,rwb,reduceIte,C120_1,C120_2])
   exact q03 ⟨by simp only [q8x,e,a1,a2];rfl,rfl⟩
  ·(try simp only [rwp,zA,zB,zC,zD,zE,zF,zG,zH,zI,rwb,reduceIte,C120_1])
   cases a3:q0q t.rl
   ·(try simp only [rwp,zA,zB,zC,zD,zE,zF,zG,zH,zI,rwb,reduceIte,C120_2])
    exact q03 ⟨by simp only [q8x,e,a1,a2,a3];rfl,rfl⟩
   ·(try simp only [rwp,zA,zB,zC,zD,zE,zF,zG,zH,zI,rwb,reduceIte,C120_2,ByteArray.size_append])
    have:(ByteArray.mk #[35]).size=1:=rfl
    have:(ByteArray.mk #[64]).size=1:=rfl
    exact ⟨by omega,by omega,by omega,by omega,q03 ⟨by simp only [q8x,e,a1,a2,a3];rfl,rfl⟩⟩
theorem c_ref13_Allowed {s:List Ty} (hs:OkS s) {t:Tu} (ht:OkU t):AFun PG nrx68 [scA s,.agg (tuC t)] (.int .i64 (q2d s t)):=by
 intro S
 refine wx68 ?_
 unfold Bx68
 have q:=q89 ht
 simp only [tuC] at q
 have hty:=hs.types
 (try simp only [rwp,zA,zB,zC,zD,zE,zF,zG,zH,zI,rwb,reduceIte,scA,tuC])
 refine q05 q ?_
 (try simp only [rwp,zA,zB,zC,zD,zE,zF,zG,zH,zI,rwb,reduceIte])
 rw [showT_nil]
 cases a1:tuB t
 ·(try simp only [rwp,zA,zB,zC,zD,zE,zF,zG,zH,zI,rwb,reduceIte])
  exact q03 ⟨by simp [q2d,a1],rfl⟩
 ·(try simp only [rwp,zA,zB,zC,zD,zE,zF,zG,zH,zI,rwb,reduceIte])
  have q2:=q8t hs t.o.ty t.rl
  simp only [scA] at q2
  have loop:∀ (v5:List AV) (fd:Bool) (K:Bool→Prop),(∀ b:Bool,b=(typF s t.s.o.ty).isSome→C68_2 (fun ae S'=>ae=.ret (.int .i64 (q2d s t))∧S'=S) (.rop (tuC t)) (.rop v5) (.bool (!fd||!b)) S) →
    LoopP (fun r0 l S1=>C68_1 (fun ae S'=>ae=.ret (.int .i64 (q2d s t))∧S'=S) r0 (lget l 2) (lget l 3) (lget l 5) (lget l 6) (lget l 7) (lget l 8) S1) [(2,.rop [.sl 2 (s.map tyC)]),(3,.rop (tuC t)),(5,.rop v5),(6,.bool fd),(7,.bool false),(8,.int .i64 0)] S:=by
   intro v5 fd K hK
   refine LoopP.intro (fun i:Nat=>[(2,.rop [.sl 2 (s.map tyC)]),(3,.rop (tuC t)),(5,.rop v5),(6,.bool fd),(7,.bool ((s.take i).any fun u=>decide (u.name=t.s.o.ty))),(8,.int .i64 i)]) (fun _=>S) (fun i=>i≤s.length) (fun i=>s.length-i) 0 (by omega) rfl (Sub.refl S) ?_
   intro i hi k hk
   (try simp only [rwp,zA,zB,zC,zD,zE,zF,zG,zH,zI,rwb,reduceIte,C68_1])
   (refine q02 (fun hlt=>?_) (fun hlt=>?_)<;>(try simp only [hlc] at hlt))
   ·obtain ⟨u,hu⟩:=q0e hlt
    have hn:=hk (i+1) (by omega) (by omega)
    rw [q7g hu] at hn
    cases a2:(s.take i).any fun u=>decide (u.name=t.s.o.ty)
    ·rw [a2,Bool.false_or] at hn
     (try simp only [rwp,zA,zB,zC,zD,zE,zF,zG,zH,zI,rwb,reduceIte,hu,tyC,tuC])
     (simp (disch:=omega) only [q07])
     exact q09 rfl hn
    ·rw [a2,Bool.true_or] at hn
     (try simp only [rwp,zA,zB,zC,zD,zE,zF,zG,zH,zI,rwb,reduceIte,hu,tyC,tuC])
     (simp (disch:=omega) only [q07])
     exact q09 rfl hn
   ·have e:s.take i=s:=List.take_of_length_le (by omega)
    rw [e,typ_any]
    have:=hK _ rfl
    cases fd
    ·(try simp only [rwp,zA,zB,zC,zD,zE,zF,zG,zH,zI,rwb,reduceIte])
     simpa only [Bool.not_false,Bool.true_or] using this
    ·(try simp only [rwp,zA,zB,zC,zD,zE,zF,zG,zH,zI,rwb,reduceIte])
     simpa only [Bool.not_true,Bool.false_or] using this
  cases hq:q0g s t.o.ty t.rl with
  | none=>
   rw [hq] at q2
   refine q05 q2 ?_
   (try simp only [rwp,zA,zB,zC,zD,zE,zF,zG,zH,zI,rwb,reduceIte,zeroR])
   refine loop _ false (fun _=>True) fun b hb=>?_
   (try simp only [rwp,zA,zB,zC,zD,zE,zF,zG,zH,zI,rwb,reduceIte,C68_2])
   exact q03 ⟨by simp [q2d,a1,hq],rfl⟩
  | some q3=>
   obtain ⟨i,k,r⟩:=q3
   obtain ⟨-,ty,h2,-,h4⟩:=q11 hq
   have hok:=(hs.at h2).at h4
   have hrl:=hok.refs
   rw [hq] at q2
   refine q05 q2 ?_
   (try simp only [rwp,zA,zB,zC,zD,zE,zF,zG,zH,zI,rwb,reduceIte,q0l])
   refine loop _ true (fun _=>True) fun b hb=>?_
   cases b
   ·(try simp only [rwp,zA,zB,zC,zD,zE,zF,zG,zH,zI,rwb,reduceIte,C68_2])
    exact q03 ⟨by simp only [q2d,a1,hq,← hb];rfl,rfl⟩
   ·(try simp only [rwp,zA,zB,zC,zD,zE,zF,zG,zH,zI,rwb,reduceIte,C68_2])
    have hval:q2d s t=if r.refs.any (fun f=>decide (t.s.o.ty=f.ty)&&decide (t.s.rl=f.rl)) then 0 else 10:=by simp only [q2d,a1,hq,← hb];rfl
    refine LoopP.intro (fun i:Nat=>[(3,.rop (tuC t)),(5,.rop [.str r.name,.sl 2 (r.refs.map rfC),.int .i64 r.ex.kind,.str r.ex.name,.str r.ex.over,.sl 4 (r.ex.kids.map exC)]),(9,.int .i64 i)]) (fun _=>S) (fun i=>i≤r.refs.length∧(r.refs.take i).any (fun f=>decide (t.s.o.ty=f.ty)&&decide (t.s.rl=f.rl))=false) (fun i=>r.refs.length-i) 0 ⟨by omega,rfl⟩ rfl (Sub.refl S) ?_
    rintro i ⟨hi,hn⟩ k hk
    (try simp only [rwp,zA,zB,zC,zD,zE,zF,zG,zH,zI,rwb,reduceIte,C68_3])
    (refine q02 (fun hlt=>?_) (fun hlt=>?_)<;>(try simp only [hlc] at hlt))
    ·obtain ⟨f,hf⟩:=q0e hlt
     have hs:=q7g (p:=fun f:Rf=>decide (t.s.o.ty=f.ty)&&decide (t.s.rl=f.rl)) hf
     rw [hn,Bool.false_or] at hs
     (try simp only [rwp,zA,zB,zC,zD,zE,zF,zG,zH,zI,rwb,reduceIte,hf,rfC,tuC])
     have comm:∀ a b:ByteArray,decide (a=b)=decide (b=a):=fun a b=>by rw [Bool.eq_iff_iff];simp [eq_comm]
     rw [comm f.ty]
     cases b1:decide (t.s.o.ty=f.ty)
     ·(try simp only [rwp,zA,zB,zC,zD,zE,zF,zG,zH,zI,rwb,reduceIte])
      (simp (disch:=omega) only [q07])
      exact q09 rfl (hk (i+1) ⟨by omega,by rw [hs,b1];rfl⟩ (by omega))
     ·(try simp only [rwp,zA,zB,zC,zD,zE,zF,zG,zH,zI,rwb,reduceIte,hf,rfC,tuC])
      rw [comm f.rl]
      cases b2:decide (t.s.rl=f.rl)
      ·(try simp only [rwp,zA,zB,zC,zD,zE,zF,zG,zH,zI,rwb,reduceIte])
       (simp (disch:=omega) only [q07])
       exact q09 rfl (hk (i+1) ⟨by omega,by rw [hs,b1,b2];rfl⟩ (by omega))
      ·(try simp only [rwp,zA,zB,zC,zD,zE,zF,zG,zH,zI,rwb,reduceIte])
       refine q03 ⟨?_,rfl⟩
       rw [hval,if_pos (List.any_eq_true.2 ⟨f,List.mem_of_getElem? hf,by rw [b1,b2];rfl⟩)]
    ·have e:r.refs.take i=r.refs:=List.take_of_length_le (by omega)
     rw [e] at hn
     exact q03 ⟨by rw [hval,hn];rfl,rfl⟩
theorem c_ref14_Counts {s:List Ty} (hs:OkS s) {l:List Tu} (hl:OkL l):AFun PG nrx29 [scA s,.sl 6 (l.map tuC)] (.sl 6 ((q0v s l).map tuC)):=by
 intro S
 refine wx29 ?_
 unfold Bx29
 have hn:=hl.n
 (try simp only [rwp,zA,zB,zC,zD,zE,zF,zG,zH,zI,rwb,reduceIte,scA])
 refine LoopP.introS (fun p:Nat×AV=>[(1,.sl 6 (l.map tuC)),(2,.rop [.sl 2 (s.map tyC)]),(5,p.2),(6,.int .i64 p.1)]) (fun p S'=>p.1≤l.length∧Sub S S'∧LstN S S' tyTu 6 p.2 ((q0v s (l.take p.1)).map tuC)) (fun p=>l.length-p.1) (0,.nils) ⟨by omega,Sub.refl S,LstN.nil⟩ rfl ?_
 rintro ⟨i,v⟩ S' ⟨hi,hsub,hv⟩ k hk
 dsimp only at hi hsub hv
 (try simp only [rwp,zA,zB,zC,zD,zE,zF,zG,zH,zI,rwb,reduceIte,C29_1])
 (refine q02 (fun hlt=>?_) (fun hlt=>?_)<;>(try simp only [hlc] at hlt))
 ·obtain ⟨t,ht⟩:=q0e hlt
  have q:=c_ref13_Allowed hs (hl.ok t (List.mem_of_getElem? ht))
  simp only [scA,tuC] at q
  have e:=q39 (p:=fun t=>decide (q2d s t=0)) ht
  (try simp only [rwp,zA,zB,zC,zD,zE,zF,zG,zH,zI,rwb,reduceIte,ht,tuC])
  refine q05 q ?_
  (try simp only [rwp,zA,zB,zC,zD,zE,zF,zG,zH,zI,rwb,reduceIte])
  have hlen:(q0v s (l.take i)).length≤i:=Nat.le_trans (List.length_filter_le _ _) (by rw [List.length_take];omega)
  cases a1:decide (q2d s t=0)
  ·rw [a1] at e
   (try simp only [rwp,zA,zB,zC,zD,zE,zF,zG,zH,zI,rwb,reduceIte])
   (simp (disch:=omega) only [q07])
   exact q09 rfl (hk (i+1,v) S' ⟨by dsimp only;omega,hsub,by dsimp only;rw [q0v,e];simpa [q0v] using hv⟩ (by dsimp only;omega))
  ·rw [a1] at e
   (try simp only [rwp,zA,zB,zC,zD,zE,zF,zG,zH,zI,rwb,reduceIte,ht,tuC])
   refine LstN.tu (t:=t) hsub hv (by omega) fun v' S2 h1 h2=>?_
   (simp (disch:=omega) only [q07])
   exact q09 rfl (hk (i+1,v') S2 ⟨by dsimp only;omega,h1,by dsimp only;rw [q0v,e];exact h2⟩ (by dsimp only;omega))
 ·have e:l.take i=l:=List.take_of_length_le (by omega)
  rw [e] at hv
  exact q3j hsub hv ⟨rfl,rfl⟩
set_option maxRecDepth 4000
def LstW (S0 S:q00) (t sz:Nat) (v:AV) (rows:List (List AV)):Prop:=
 (∀ r∈rows,r.length=sz)∧((v=.nils∧rows=[])∨∃ b cap cs,v=.own b 0 rows.length cap∧sget S0 b=none∧sget S b=some (.cells t cs (cap * sz))∧cs.take (rows.length * sz)=rows.flatten∧rows.length * sz≤cs.length∧rows.length≤cap∧cap≤maxLen)
section
variable {S0 S:q00} {t sz bytes:Nat} {v:AV} {rows xs:List (List AV)} {K:AV→q00→Prop}
theorem LstW.nil:LstW S0 S t sz .nils []:=⟨fun r hr=>by (cases hr),.inl ⟨rfl,rfl⟩⟩
theorem LstW.upd (h:LstW S0 S t sz v rows) {c:Nat} (hc:q0u v c) (o:AObj):LstW S0 (supd S c o) t sz v rows:=by
 obtain ⟨hr,h⟩:=h
 refine ⟨hr,?_⟩
 rcases h with h | ⟨b,cap,cs,rfl,h1,h2,h3⟩
 ·exact .inl h
 ·exact .inr ⟨b,cap,cs,rfl,h1,by rw [q01,if_neg (hc b 0 _ _ rfl)];exact h2,h3⟩
theorem LstW.app (hs:Sub S0 S) (h:LstW S0 S t sz v rows) {x:List AV} (hx:x.length=sz) (ho:ones x=true) (hb:(rows.length+1) * bytes≤140737488355328)
  (hK:∀ v' S',Sub S0 S'→LstW S0 S' t sz v' (rows++[x])→(∀ c o,sget S c=some o→q0u v c→sget S' c=some o∧q0u v' c)→K v' S'):apW S t sz bytes v (.sl sz [x]) K:=by
 refine ⟨1,x,by simp [appX],ho,?_⟩
 obtain ⟨hr,h⟩:=h
 have hall:∀ r∈rows++[x],r.length=sz:=fun r hm=>(List.mem_append.1 hm).elim (hr r) fun h=>by rw [List.mem_singleton.1 h];exact hx
 have hfl:(rows++[x]).flatten.length=(rows.length+1) * sz:=by rw [q3v hall];simp
 rcases h with ⟨rfl,rfl⟩ | ⟨b,cap,cs,rfl,h1,h2,h3,h4,h5,h6⟩
 ·dsimp only
  simp only [List.length_nil,Nat.zero_add] at hb
  refine ⟨hb,?_⟩
  rw [if_neg (by decide)]
  intro b cap hbn k1 k2
  have hb0:=Sub.none hs hbn
  refine hK _ _ (hs.supd hb0) ⟨hall,.inr ⟨b,cap,x,by simp,hb0,by rw [q01,if_pos rfl],?_,by simp [hx],by simpa using k1,k2⟩⟩ fun c o hc _=>?_
  ·simp [List.take_of_length_le,hx]
  ·have hne:b≠c:=q0o hbn hc
   exact ⟨by rw [q01,if_neg hne];exact hc,fun b' off n cap h=>by cases h;exact Ne.symm hne⟩
 ·refine ⟨_,h2,h5,h6,h4,hb,fun b' cap' k1 k2 k3=>?_⟩
  rw [h3]
  have hb0:sget S0 b'=none:=by
   rcases k1 with rfl | k1
   ·exact h1
   ·exact Sub.none hs k1
  have hsub:Sub S0 (supd (sdel S b) b' (.cells t (rows.flatten++x) (cap' * sz))):=by
   refine Sub.supd hb0 fun c o hc=>?_
   have hne:b≠c:=by rintro rfl;rw [h1] at hc;cases hc
   rw [q0d,if_neg hne]
   exact hs c o hc
  refine hK _ _ hsub ⟨hall,.inr ⟨b',cap',rows.flatten++x,by simp,hb0,by rw [q01,if_pos rfl],?_,?_,by simpa using k2,k3⟩⟩ fun c o hc ha=>?_
  ·have e:rows.flatten++x=(rows++[x]).flatten:=by simp
   rw [e,List.take_of_length_le (by rw [hfl];simp)]
  ·have e:rows.flatten++x=(rows++[x]).flatten:=by simp
   rw [e,hfl];simp
  ·have hcb:c≠b:=ha b 0 _ _ rfl
   have hcb':b'≠c:=by
    rcases k1 with rfl | k1
    ·exact Ne.symm hcb
    ·exact q0o k1 hc
   exact ⟨by rw [q01,if_neg hcb',q0d,if_neg (Ne.symm hcb)];exact hc,fun b'' off n cap h=>by cases h;exact Ne.symm hcb'⟩
theorem LstW.one (h:LstW S0 S t sz v rows):Go.HL.one v=true:=by
 obtain ⟨hr,h⟩:=h
 rcases h with ⟨rfl,-⟩ | ⟨b,cap,cs,rfl,-⟩<;>rfl
theorem LstW.ln {K:AV→Prop} {S':q00} (h:LstW S0 S t sz v rows):lnW S' 1 v K=K (.int .i64 rows.length):=by
 obtain ⟨hr,⟨rfl,rfl⟩ | ⟨b,cap,cs,rfl,-⟩⟩:=h
 ·rw [q9c];rfl
 ·rw [lnW_own]
theorem LstW.get (h:LstW S0 S t sz v rows) {i:Nat} {r:List AV} (hi:rows[i]?=some r):∃ b cap cs,v=.own b 0 rows.length cap∧q28 S b=some cs∧(cs.drop (i * sz)).take sz=r∧i * sz+sz≤cs.length:=by
 obtain ⟨hr,⟨rfl,rfl⟩ | ⟨b,cap,cs,rfl,h1,h2,h3,h4,h5,h6⟩⟩:=h
 ·simp at hi
 ·have hlt:=(List.getElem?_eq_some_iff.1 hi).1
  have hrl:=hr r (List.mem_of_getElem? hi)
  have hle:i * sz+sz≤rows.length * sz:=by
   calc i * sz+sz=(i+1) * sz:=by rw [Nat.succ_mul]
    _≤rows.length * sz:=Nat.mul_le_mul_right _ hlt
  refine ⟨b,cap,cs,rfl,q08 (objAt_some.2 h2),?_,by omega⟩
  apply List.ext_getElem?
  intro j
  rw [List.getElem?_take]
  by_cases hj:j<sz
  ·rw [if_pos hj,List.getElem?_drop]
   have hu:r[j]?=some (r[j]'(by omega)):=List.getElem?_eq_getElem (by omega)
   have:=q71 hr hi hu
   rw [← h3,List.getElem?_take,if_pos (by omega)] at this
   rw [this,hu]
  ·rw [if_neg hj,List.getElem?_eq_none_iff.2 (by omega)]
end
abbrev tyS5:Nat:=106
abbrev tyFa:Nat:=175
def s5C (E:q1n) (L:List Tu) (B:Int) (w:Nat) (pv:AV) (over:Bool):List AV:=[.sl 2 (E.s.map tyC),.sl 6 (L.map tuC),.str E.who.ty,.str E.who.id,.int .i64 B,.int .i64 w,pv,.bool over]
structure RfOk (E:q1n) (L:List Tu) (B:Int) (bc:Nat) (S0:q00):Prop where
 s:OkS E.s
 may:∀ t∈E.s,∀ r∈t.rels,r.refs.length=0→mayE 12 r.ex=true
 nb:sget S0 bc=none
 lst:OkL L
 of:∀ n,E.of n=(ofF L n).map Tu.s
 B:B≤100000
def StR (E:q1n) (L:List Tu) (B:Int) (bc:Nat) (S0:q00) (P:List Nd) (over:Bool) (w:Nat) (S:q00):Prop:=
 (over=false→(w:Int)≤B)∧Sub S0 S∧∃ pv,q0k S bc=some (tyS5,s5C E L B w pv over,8)∧LstW S0 S tyFa 3 pv (P.reverse.map ndC)∧q0u pv bc
section
variable {E:q1n} {L:List Tu} {B:Int} {bc:Nat} {S0:q00} {P:List Nd} {ask:Nd→Nat→Option (Bool×Nat)}
theorem ob_dec (a b:Ob):decide (a=b)=(decide (a.ty=b.ty)&&decide (a.id=b.id)):=by
 rw [Bool.eq_iff_iff]
 cases a;cases b
 simp
theorem seen {P:List Nd} {n:Nd} {i:Nat} (h:∀ (j:Nat) (m:Nd),j<i→P.reverse[j]?=some m→¬ m=n) (hi:P.length≤i):n ∉ P:=fun hn=>by
 obtain ⟨j,hj⟩:=List.getElem?_of_mem (List.mem_reverse.2 hn)
 have hlt:=(List.getElem?_eq_some_iff.1 hj).1
 rw [List.length_reverse] at hlt
 exact h j n (by omega) hj rfl
theorem StR.set (h:RfOk E L B bc S0) {S:q00} {pv:AV} {over:Bool} {w:Nat} {cs:List AV} (hw:over=false→(w:Int)≤B) (hsub:Sub S0 S) (hlst:LstW S0 S tyFa 3 pv (P.reverse.map ndC)) (ha:q0u pv bc) (hcs:cs=s5C E L B w pv over):StR E L B bc S0 P over w (supd S bc (.cells tyS5 cs 8)):=by
 subst hcs
 exact ⟨hw,Sub.supd h.nb hsub,pv,by rw [objAt_supd,if_pos rfl],hlst.upd ha _,ha⟩
end
set_option maxRecDepth 4000
theorem q5p:∀ (vs cs:List AV) (off:Nat),off+vs.length≤cs.length→q1i cs off vs=cs.take off++(vs++cs.drop (off+vs.length))
 | [],cs,off,h=>by simp [q1i]
 | v :: r,cs,off,h=>by
  simp only [List.length_cons] at h
  have ih:=q5p r (cs.set off v) (off+1) (by rw [List.length_set];omega)
  show q1i (cs.set off v) (off+1) r=_
  rw [ih]
  have hlt:off<cs.length:=by omega
  have e1:(cs.set off v).take (off+1)=cs.take off++[v]:=by
   rw [List.set_eq_take_append_cons_drop,if_pos hlt,List.take_append,List.length_take,Nat.min_eq_left (by omega)]
   have:off+1-off=1:=by omega
   rw [this,List.take_of_length_le (by rw [List.length_take];omega)]
   rfl
  have e2:(cs.set off v).drop (off+1+r.length)=cs.drop (off+(v :: r).length):=by
   rw [List.drop_set_of_lt (by omega)]
   congr 1
   simp only [List.length_cons]
   omega
  rw [e1,e2,List.append_assoc]
  rfl
section
variable {α:Type} {enc:α→List AV} {sz:Nat}
def upv (v:Nat→α) (i:Nat) (x:α):Nat→α:=fun k=>if k=i then x else v k
def fl (enc:α→List AV) (n:Nat) (v:Nat→α):List AV:=((vl n v).map enc).flatten
theorem sw_upv {v:Nat→α} {i j:Nat}:upv (upv v i (v j)) j (v i)=sw v i j:=rfl
theorem fl_rows (he:∀ x,(enc x).length=sz) {n:Nat} {v:Nat→α}:∀ r∈(vl n v).map enc,r.length=sz:=fun r hr=>by
 obtain ⟨x,-,rfl⟩:=List.mem_map.1 hr
 exact he x
theorem q1z (he:∀ x,(enc x).length=sz) {n:Nat} {v:Nat→α}:(fl enc n v).length=n * sz:=by
 unfold fl
 rw [q3v (fl_rows he),List.length_map,q1o]
theorem vl_add {n k:Nat} {v:Nat→α}:vl (n+k) v=vl n v++(List.range' n k).map v:=by
 unfold vl
 rw [← List.map_append,List.range_eq_range',List.range_eq_range']
 congr 1
 have:=List.range'_append (s:=0) (m:=n) (n:=k) (step:=1)
 rw [show 0+1 * n=n by omega] at this
 exact this.symm
theorem q7l {n:Nat} {v:Nat→α}:vl (n+1) v=vl n v++[v n]:=by rw [vl_add];rfl
theorem fl_split (he:∀ x,(enc x).length=sz) {n i:Nat} (hi:i≤n) {v:Nat→α}:∃ rest,fl enc n v=fl enc i v++rest:=by
 obtain ⟨k,rfl⟩:∃ k,n=i+k:=⟨n-i,by omega⟩
 refine ⟨(((List.range' i k).map v).map enc).flatten,?_⟩
 unfold fl
 rw [vl_add,List.map_append,List.flatten_append]
theorem fl_take (he:∀ x,(enc x).length=sz) {n i:Nat} (hi:i≤n) {v:Nat→α}:(fl enc n v).take (i * sz)=fl enc i v:=by
 obtain ⟨rest,e⟩:=fl_split (v:=v) he hi
 rw [e,List.take_append_of_le_length (by rw [q1z he];exact Nat.le_refl _),List.take_of_length_le (by rw [q1z he];exact Nat.le_refl _)]
theorem fl_succ {n:Nat} {v:Nat→α}:fl enc (n+1) v=fl enc n v++enc (v n):=by
 unfold fl
 rw [q7l,List.map_append,List.flatten_append]
 simp
theorem fl_drop (he:∀ x,(enc x).length=sz) {n i:Nat} (hi:i<n) {v:Nat→α}:∃ rest,(fl enc n v).drop (i * sz)=enc (v i)++rest:=by
 obtain ⟨rest,e⟩:=fl_split (v:=v) (i:=i+1) he hi
 refine ⟨rest,?_⟩
 rw [e,fl_succ,List.append_assoc,List.drop_append_of_le_length (by rw [q1z he];exact Nat.le_refl _),List.drop_of_length_le (by rw [q1z he];exact Nat.le_refl _)]
 rfl
theorem fl_cong {n:Nat} {v w:Nat→α} (h:∀ i,i<n→v i=w i):fl enc n v=fl enc n w:=by
 unfold fl vl
 congr 2
 exact List.map_congr_left fun i hi=>h i (by simpa using hi)
theorem fl_fill (he:∀ x,(enc x).length=sz) {n i:Nat} (hi:i<n) {v:Nat→α} {x:α}:q1i (fl enc n v) (i * sz) (enc x)=fl enc n (upv v i x):=by
 have hle:i * sz+sz≤n * sz:=by
  calc i * sz+sz=(i+1) * sz:=by rw [Nat.succ_mul]
   _≤n * sz:=Nat.mul_le_mul_right _ hi
 rw [q5p _ _ _ (by rw [he,q1z he];exact hle),fl_take he (by omega),he]
 obtain ⟨k,rfl⟩:∃ k,n=i+1+k:=⟨n-(i+1),by omega⟩
 have e:∀ w:Nat→α,fl enc (i+1+k) w=fl enc i w++(enc (w i)++(((List.range' (i+1) k).map w).map enc).flatten):=by
  intro w
  have:fl enc (i+1+k) w=fl enc (i+1) w++(((List.range' (i+1) k).map w).map enc).flatten:=by
   unfold fl
   rw [vl_add,List.map_append,List.flatten_append]
  rw [this,fl_succ,List.append_assoc]
 rw [e v,e (upv v i x)]
 have e1:fl enc i (upv v i x)=fl enc i v:=fl_cong fun j hj=>if_neg (by omega)
 have e2:(List.range' (i+1) k).map (upv v i x)=(List.range' (i+1) k).map v:=List.map_congr_left fun j hj=>if_neg (by simp at hj;omega)
 have e3:upv v i x i=x:=if_pos rfl
 rw [e1,e2,e3]
 have hd:∀ R:List AV,(fl enc i v++(enc (v i)++R)).drop (i * sz+sz)=R:=fun R=>by
  rw [← List.append_assoc,List.drop_left' (by rw [List.length_append,q1z he,he])]
 rw [hd]
end
def OwnL {α:Type} (S0 S:q00) (t sz:Nat) (enc:α→List AV) (a:AV) (n:Nat) (v:Nat→α):Prop:=
 (a=.nils∧n=0)∨∃ b cap,a=.own b 0 n cap∧sget S0 b=none∧sget S b=some (.cells t (fl enc n v) (cap * sz))∧n≤cap∧cap≤maxLen
theorem OwnL.lstW {α:Type} {S0 S:q00} {t sz:Nat} {enc:α→List AV} (he:∀ x,(enc x).length=sz) {a:AV} {n:Nat} {v:Nat→α} (h:OwnL S0 S t sz enc a n v):LstW S0 S t sz a ((vl n v).map enc):=by
 refine ⟨fl_rows he,?_⟩
 rcases h with ⟨rfl,rfl⟩ | ⟨b,cap,rfl,h1,h2,h3,h4⟩
 ·exact .inl ⟨rfl,rfl⟩
 ·refine .inr ⟨b,cap,_,?_,h1,h2,?_,?_,?_,h4⟩
  ·rw [List.length_map,q1o]
  ·rw [List.length_map,q1o,List.take_of_length_le (by rw [q1z he];exact Nat.le_refl _)];rfl
  ·rw [List.length_map,q1o,q1z he];exact Nat.le_refl _
  ·rw [List.length_map,q1o];exact h3
def at' {α:Type} [Inhabited α] (l:List α):Nat→α:=fun i=>l.getD i default
theorem vl_at {α:Type} [Inhabited α] (l:List α):vl l.length (at' l)=l:=vl_of l default
instance:Inhabited Tu:=⟨⟨⟨⟨#[]⟩,⟨#[]⟩⟩,⟨#[]⟩,⟨⟨⟨#[]⟩,⟨#[]⟩⟩,⟨#[]⟩⟩⟩⟩
instance:Inhabited Ob:=⟨⟨⟨#[]⟩,⟨#[]⟩⟩⟩
theorem q2f (t:Tu):(tuC t).length=6:=rfl
theorem c_Clone {l:List Tu} (hb:l.length≤100000) (S:q00):ACalls PG nrx113 [.sl 6 (l.map tuC)] S fun ae S'=>∃ a,ae=.ret a∧Sub S S'∧OwnL S S' tyTu 6 tuC a l.length (at' l):=by
 refine wx113 ?_
 unfold Bx113
 have hfl:fl tuC l.length (at' l)=(l.map tuC).flatten:=by unfold fl;rw [vl_at]
 have app:bsW S tyTu 6 [] fun v5 S2=>apW S2 tyTu 6 96 v5 (.sl 6 (l.map tuC)) fun v7 S1=>rtW [.tmp v7] (fun ae S'=>∃ a,ae=.ret a∧Sub S S'∧OwnL S S' tyTu 6 tuC a l.length (at' l)) S1:=by
  refine ⟨trivial,fun b hb0=>?_⟩
  refine ⟨l.length,(l.map tuC).flatten,by simp [appX],q4a fun r hr=>by obtain ⟨t,-,rfl⟩:=List.mem_map.1 hr;rfl,?_⟩
  refine ⟨[],by rw [q01,if_pos rfl];rfl,Nat.le_refl _,Nat.zero_le _,by simp,by simp only [List.length_nil];omega,fun b' cap' k1 k2 k3=>?_⟩
  have hb':sget S b'=none:=by
   rcases k1 with rfl | k1
   ·exact hb0
   ·rw [q01] at k1
    split at k1
    ·cases k1
    ·exact k1
  refine q03 ⟨_,rfl,Sub.supd hb' (fun c o hc=>?_),.inr ⟨b',cap',by simp,hb',by rw [q01,if_pos rfl,hfl];simp,by simpa using k2,k3⟩⟩
  have hne:b≠c:=q0o hb0 hc
  rw [q0d,if_neg hne,q01,if_neg hne]
  exact hc
 cases l with
 | nil=>exact ⟨q3o app,⟨fun _=>q03 ⟨_,rfl,Sub.refl _,.inl ⟨rfl,rfl⟩⟩,fun h=>by cases h⟩⟩
 | cons t r=>exact q3o app
section
variable {S0 S:q00} {a:AV} {n:Nat} {u:Nat→Tu} {g:Nat} {fi ca:List AV} {p:Tu→Bool}
theorem c_IndexT (h:OwnL S0 S tyTu 6 tuC a n u) (hb:n≤100000) (hp:∀ i,i<n→AFun PG g (fi++[.agg (tuC (u i))]++ca) (.bool (p (u i)))) :
  ACalls PG nrx155 [a,.func (.func g) fi ca] S fun ae S'=>S'=S∧((ae=.ret (.int .i64 (-1))∧∀ i,i<n→p (u i)=false)∨∃ k:Nat,k<n∧ae=.ret (.int .i64 k)∧p (u k)=true∧∀ i,i<k→p (u i)=false):=by
 refine wx155 ?_
 unfold Bx155
 have hl:=h.lstW q2f
 rw [hl.ln,List.length_map,q1o]
 refine LoopP.introS (fun i:Nat=>[(0,a),(1,.func (.func g) fi ca),(7,.int .i64 n),(8,.int .i64 i)]) (fun i S'=>S'=S∧i≤n∧∀ j,j<i→p (u j)=false) (fun i=>n-i) 0 ⟨rfl,by omega,fun j hj=>by omega⟩ rfl ?_
 rintro i S' ⟨rfl,hi,hno⟩ kk hkk
 (try simp only [rwp,zA,zB,zC,zD,zE,zF,zG,zH,zI,rwb,reduceIte,C155_1])
 (refine q02 (fun hlt=>?_) (fun hlt=>?_)<;>(try simp only [hlc] at hlt))
 ·have hin:i<n:=by omega
  rcases h with ⟨rfl,e⟩ | ⟨b,cap,rfl,h1,h2,h3,h4⟩
  ·omega
  ·have hc:=q08 (objAt_some.2 h2)
   obtain ⟨rest,hd⟩:=fl_drop (v:=u) q2f hin
   rw [show tuC (u i)=[.str (u i).o.ty,.str (u i).o.id,.str (u i).rl,.str (u i).s.o.ty,.str (u i).s.o.id,.str (u i).s.rl] from rfl] at hd
   simp only [List.cons_append,List.nil_append] at hd
   (try simp only [rwp,zA,zB,zC,zD,zE,zF,zG,zH,zI,rwb,reduceIte,hc,Int.toNat_natCast,Nat.zero_add,hd])
   refine ⟨hlt,?_⟩
   have q:=hp i hin
   rw [show tuC (u i)=[.str (u i).o.ty,.str (u i).o.id,.str (u i).rl,.str (u i).s.o.ty,.str (u i).s.o.id,.str (u i).s.rl] from rfl] at q
   refine caW_purev q ?_
   cases hq:p (u i)
   ·(try simp only [rwp,zA,zB,zC,zD,zE,zF,zG,zH,zI,rwb,reduceIte])
    (simp (disch:=omega) only [q07])
    refine q09 rfl (hkk (i+1) _ ⟨rfl,by omega,fun j hj=>?_⟩ (by omega))
    by_cases e:j=i
    ·rw [e];exact hq
    ·exact hno j (by omega)
   ·(try simp only [rwp,zA,zB,zC,zD,zE,zF,zG,zH,zI,rwb,reduceIte])
    exact q03 ⟨rfl,.inr ⟨i,hin,rfl,hq,hno⟩⟩
 ·(try simp only [rwp,zA,zB,zC,zD,zE,zF,zG,zH,zI,rwb,reduceIte])
  exact q03 ⟨rfl,.inl ⟨rfl,fun j hj=>hno j (by omega)⟩⟩
end
theorem filter_none {α:Type} {p:α→Bool} {n:Nat} {u:Nat→α} (h:∀ i,i<n→p (u i)=true):(vl n u).filter p=vl n u:=by
 rw [List.filter_eq_self]
 intro x hx
 obtain ⟨i,hi,rfl⟩:=List.mem_map.1 hx
 exact h i (by simpa using hi)
theorem c_DeleteT {S0 S:q00} {a:AV} {n:Nat} {u:Nat→Tu} {g:Nat} {fi ca:List AV} {p:Tu→Bool} (hs:Sub S0 S) (h:OwnL S0 S tyTu 6 tuC a n u) (hb:n≤100000) (hp:∀ i,i<n→AFun PG g (fi++[.agg (tuC (u i))]++ca) (.bool (p (u i)))) :
  ACalls PG nrx112 [a,.func (.func g) fi ca] S fun ae S'=>∃ a',ae=.ret a'∧Sub S0 S'∧LstW S0 S' tyTu 6 a' (((vl n u).filter fun t=>!p t).map tuC):=by
 refine wx112 ?_
 unfold Bx112
 refine q1b (c_IndexT h hb hp) ?_
 rintro ae S' ⟨rfl,⟨rfl,hno⟩ | ⟨k,hk,rfl,hpk,hno⟩⟩
 ·dsimp only
  (try simp only [rwp,zA,zB,zC,zD,zE,zF,zG,zH,zI,rwb,reduceIte])
  refine q03 ⟨a,rfl,hs,?_⟩
  rw [filter_none (p:=fun t=>!p t) (n:=n) (u:=u) fun i hi=>by simp [hno i hi]]
  exact h.lstW q2f
 ·rcases h with ⟨rfl,e⟩ | ⟨b,cap,rfl,h1,h2,h3,h4⟩
  ·omega
  ·dsimp only
   (try simp only [rwp,zA,zB,zC,zD,zE,zF,zG,zH,zI,rwb,reduceIte])
   rw [decide_eq_false (show ¬ (k:Int)=-1 by omega)]
   (try simp only [rwp,zA,zB,zC,zD,zE,zF,zG,zH,zI,rwb,reduceIte])
   (simp (disch:=omega) only [q07])
   refine LoopP.introS (fun x:Nat×Nat=>[(0,.own b 0 n cap),(1,.func (.func g) fi ca),(5,.int .i64 x.1),(6,.int .i64 x.2)])
    (fun x S2=>x.1<x.2∧x.2≤n∧∃ v,S2=supd S' b (.cells tyTu (fl tuC n v) (cap * 6))∧vl x.1 v=(vl x.2 u).filter (fun t=>!p t)∧∀ i,x.2≤i→v i=u i) (fun x=>n-x.2) (k,k+1)
    ⟨by dsimp only;omega,by dsimp only;omega,u,?_,?_,fun _ _=>rfl⟩ rfl ?_
   ·funext c
    unfold supd
    split
    ·rename_i e;subst e;exact h2
    ·rfl
   ·dsimp only
    rw [q7l,List.filter_append,filter_none (p:=fun t=>!p t) (n:=k) (u:=u) fun i hi=>by simp [hno i hi]]
    simp [hpk]
   ·rintro ⟨i,j⟩ S2 ⟨hij,hj,v,rfl,hv,hr⟩ kk hkk
    dsimp only at hij hj hv hr ⊢
    (try simp only [rwp,zA,zB,zC,zD,zE,zF,zG,zH,zI,rwb,reduceIte,C112_1])
    have ho:q0k (supd S' b (.cells tyTu (fl tuC n v) (cap * 6))) b=some (tyTu,fl tuC n v,cap * 6):=q0j
    have hc:=q08 ho
    (refine q02 (fun hlt=>?_) (fun hlt=>?_)<;>(try simp only [hlc] at hlt))
    ·have hjn:j<n:=by omega
     obtain ⟨rest,hd⟩:=fl_drop (v:=v) q2f hjn
     rw [hr j (Nat.le_refl _)] at hd
     have ec:tuC (u j)=[.str (u j).o.ty,.str (u j).o.id,.str (u j).rl,.str (u j).s.o.ty,.str (u j).s.o.id,.str (u j).s.rl]:=rfl
     rw [ec] at hd
     simp only [List.cons_append,List.nil_append] at hd
     (try simp only [rwp,zA,zB,zC,zD,zE,zF,zG,zH,zI,rwb,reduceIte,hc,Int.toNat_natCast,Nat.zero_add,hd])
     refine ⟨hlt,?_⟩
     have q:=hp j hjn
     rw [ec] at q
     refine caW_purev q ?_
     have fs:(vl (j+1) u).filter (fun t=>!p t)=(vl j u).filter (fun t=>!p t)++if p (u j) then [] else [u j]:=by
      rw [q7l,List.filter_append]
      congr 1
      cases hq:p (u j)<;>simp [hq]
     cases hq:p (u j)
     ·rw [hq] at fs
      have ff:=fl_fill (v:=v) (x:=u j) q2f (show i<n by omega)
      rw [ec] at ff
      (try simp only [rwp,zA,zB,zC,zD,zE,zF,zG,zH,zI,rwb,reduceIte,ho,Int.toNat_natCast,Nat.zero_add,ff])
      refine ⟨by omega,?_⟩
      have fits:i * 6+6≤(fl tuC n v).length:=by rw [q1z q2f];omega
      (simp (disch:=omega) only [q07])
      (try simp only [rwp,zA,zB,zC,zD,zE,zF,zG,zH,zI,rwb,reduceIte,fits,q0x])
      refine q09 rfl (hkk (i+1,j+1) _ ⟨by dsimp only;omega,by dsimp only;omega,upv v i (u j),rfl,?_,fun m hm=>?_⟩ (by dsimp only;omega))
      ·dsimp only
       rw [fs,← hv,q7l]
       have e1:vl i (upv v i (u j))=vl i v:=by unfold vl;exact List.map_congr_left fun m hm=>if_neg (by simp at hm;omega)
       rw [e1]
       congr 1
       rw [show upv v i (u j) i=u j from if_pos rfl]
       rfl
      ·dsimp only at hm ⊢
       rw [show upv v i (u j) m=v m from if_neg (by omega)]
       exact hr m (by omega)
     ·rw [hq] at fs
      (try simp only [rwp,zA,zB,zC,zD,zE,zF,zG,zH,zI,rwb,reduceIte])
      (simp (disch:=omega) only [q07])
      refine q09 rfl (hkk (i,j+1) _ ⟨by dsimp only;omega,by dsimp only;omega,v,rfl,?_,fun m hm=>hr m (by dsimp only at hm;omega)⟩ (by dsimp only;omega))
      dsimp only
      rw [fs,hv]
      simp
    ·have e:j=n:=by omega
     subst e
     (try simp only [rwp,zA,zB,zC,zD,zE,zF,zG,zH,zI,rwb,reduceIte,loI,hiI,cutI])
     refine ⟨by omega,by omega,⟨tyTu,fl tuC j v,cap * 6,by rw [q01,if_pos rfl],?_,rfl,rfl,?_⟩⟩
     ·rw [q1z q2f]
      split
      ·omega
      ·omega
     ·refine ⟨Int.le_refl 0,by omega,?_⟩
      rw [show AV.own b (if cap=0 then 0 else 0) (i-0) (cap-0)=.own b 0 i cap by simp,q0x,← hv]
      refine q03 ⟨_,rfl,Sub.supd h1 hs,fl_rows q2f,.inr ⟨b,cap,_,by rw [List.length_map,q1o],h1,by rw [q01,if_pos rfl],?_,?_,by rw [List.length_map,q1o];omega,h4⟩⟩
      ·rw [List.length_map,q1o]
       split
       ·rename_i e
        have ej:j-i=0:=by omega
        rw [ej]
        exact fl_take q2f (by omega)
       ·rw [q5p _ _ _ (by rw [q5g,q1z q2f];simp only [List.length_cons,List.length_nil];omega),List.take_append_of_le_length (by rw [List.length_take,q1z q2f];omega),List.take_take,Nat.min_self]
        exact fl_take q2f (by omega)
      ·rw [List.length_map,q1o]
       split
       ·rename_i e
        have ej:j-i=0:=by omega
        rw [ej]
        show i * 6≤(fl tuC j v).length
        rw [q1z q2f]
        omega
       ·rw [q5p _ _ _ (by rw [q5g,q1z q2f];simp only [List.length_cons,List.length_nil];omega)]
        simp only [List.length_append,List.length_take,q1z q2f]
        omega
theorem c_gcounts_1 {s:List Ty} (hs:OkS s) {t:Tu} (ht:OkU t):AFun PG nrx114 ([]++[.agg (tuC t)]++[.rop [.sl 2 (s.map tyC)]]) (.bool (!decide (q2d s t=0))):=by
 intro S
 refine wx114 ?_
 unfold Bx114
 have q:=c_tuple_Allowed hs ht
 simp only [scA] at q
 (try simp only [rwp,zA,zB,zC,zD,zE,zF,zG,zH,zI,rwb,reduceIte,tuC])
 refine q05 q ?_
 (try simp only [rwp,zA,zB,zC,zD,zE,zF,zG,zH,zI,rwb,reduceIte])
 exact q03 ⟨rfl,rfl⟩
theorem c_gcounts {s:List Ty} (hs:OkS s) {l:List Tu} (hl:OkL l) (S:q00) :
  ACalls PG nrx58 [scA s,.sl 6 (l.map tuC)] S fun ae S'=>∃ a,ae=.ret a∧Sub S S'∧LstW S S' tyTu 6 a ((q0v s l).map tuC):=by
 refine wx58 ?_
 unfold Bx58
 have hn:=hl.n
 (try simp only [rwp,zA,zB,zC,zD,zE,zF,zG,zH,zI,rwb,reduceIte,scA])
 refine q1b (c_Clone (by omega) S) ?_
 rintro ae S1 ⟨a,rfl,h1,h2⟩
 dsimp only
 have q:=c_DeleteT (g:=nrx114) (fi:=[]) (ca:=[.rop [.sl 2 (s.map tyC)]]) (p:=fun t=>!decide (q2d s t=0)) h1 h2 (by omega) (fun i hi=>c_gcounts_1 hs (hl.ok _ (by
  have:at' l i=l[i]'hi:=by unfold at';simp [hi]
  rw [this]
  exact List.getElem_mem hi)))
 refine q1b q ?_
 rintro ae S2 ⟨a',rfl,h3,h4⟩
 dsimp only
 (try simp only [rwp,zA,zB,zC,zD,zE,zF,zG,zH,zI,rwb,reduceIte])
 refine q03 ⟨a',rfl,h3,?_⟩
 rw [vl_at] at h4
 have e:(l.filter fun t=>!(!decide (q2d s t=0)))=q0v s l:=by
  unfold q0v
  congr 1
  funext t
  rw [Bool.not_not]
 rw [e] at h4
 exact h4
set_option maxRecDepth 4000
abbrev tyGw:Nat:=186
def gwC (bo br bk:Nat) (who:Ob):List AV:=[.map (some bo),.map (some br),.map (some bk),.str who.ty,.str who.id]
structure GW (E:q1n) (bw bo br bk:Nat) (K:List Nd) (S:q00):Prop where
 c:q0k S bw=some (tyGw,gwC bo br bk E.who,5)
 of:KMap MD ndA S bo (fun n=>ofA (E.of n))
 kn:KMap MD ndA S bk (fun n=>if n∈K then some (.bool true) else none)
 len:∀ n,(E.of n).length≤1125899906842624
theorem q5n {K:List Nd} {n:Nd}:q1y false (.bool false) (if n∈K then some (.bool true) else none)=.bool (decide (n∈K)):=by
 by_cases h:n∈K
 ·rw [if_pos h,decide_eq_true h];rfl
 ·rw [if_neg h,decide_eq_false h];rfl
theorem foldE_pure {p:Nd→Bool}:∀ {xs:List Nd} {w:Nat},q52 (fun w x=>some (p x,w)) xs w=some (xs.any p,w)
 | [],w=>rfl
 | x :: r,w=>by
  rw [foldE_cons,List.any_cons]
  cases h:p x
  ·dsimp only
   rw [foldE_pure,Bool.false_or]
  ·rfl
theorem q59 {xs:List Nd} {g:Nat} {fi ca:List AV} {p:Nd→Bool} {S:q00} (hb:xs.length≤1125899906842624) (hp:∀ x∈xs,AFunS PG g (fi++[.agg (ndC x)]++ca) S (.bool (p x))) :
  AFunS PG nrx147 [q1y false .nils (ofA xs),.func (.func g) fi ca] S (.bool (xs.any p)):=by
 have q:=q8c (pv:=.nils) (X:=fun _=>False) (St:=fun _ S'=>S'=S) (step:=fun w x=>some (p x,w)) hb (fun x hx w S' hS=>by subst hS;exact hp x hx) (w:=0) rfl
 rw [foldE_pure] at q
 exact q
section
variable {E:q1n} {bw bo br bk:Nat} {K:List Nd} {S:q00}
theorem c_gholds_1 (h:GW E bw bo br bk K S) (x:Nd) (k n:AV) (ov:ByteArray) (ks:AV):AFunS PG nrx211 ([]++[.agg (ndC x)]++[.rop [.ptr bw 0],.rop [k,n,.str ov,ks]]) S (.bool (decide (x.rl=⟨#[]⟩)&&decide ((⟨x.o,ov⟩:Nd)∈K))):=by
 have hc:=q08 h.c
 refine wx211 ?_
 unfold Bx211
 (try simp only [rwp,zA,zB,zC,zD,zE,zF,zG,zH,zI,rwb,reduceIte,ndC])
 cases a1:decide (x.rl=⟨#[]⟩)
 ·(try simp only [rwp,zA,zB,zC,zD,zE,zF,zG,zH,zI,rwb,reduceIte])
  exact q03 ⟨rfl,rfl⟩
 ·(try simp only [rwp,zA,zB,zC,zD,zE,zF,zG,zH,zI,rwb,reduceIte,hc,gwC])
  have q:=fun K' hk=>h.kn.lki (ok:=false) (z:=.bool false) (K:=K') ke_nd ⟨x.o,ov⟩ hk
  simp only [ndA,ndC] at q
  refine q _ ?_
  rw [q5n]
  (try simp only [rwp,zA,zB,zC,zD,zE,zF,zG,zH,zI,rwb,reduceIte])
  exact q03 ⟨rfl,rfl⟩
theorem c_gholds (h:GW E bw bo br bk K S) (o:Ob):∀ (m:Nat) (e:Ex),mayE m e=true→AFunS PG nrx192 [.ptr bw 0,.agg (obC o),.agg (exC e)] S (.bool (exB E (fun c=>decide (c∈K)) o m e))
 | 0,e,hm=>by cases hm
 | m+1,.mk k n ov ks,hm=>by
  have ih:=c_gholds h o m
  have hc:=q08 h.c
  refine wx192 ?_
  unfold Bx192 exB
  unfold mayE at hm
  (try simp only [rwp,zA,zB,zC,zD,zE,zF,zG,zH,zI,rwb,reduceIte,obC,q0c,Ex.kind,Ex.name,Ex.over,Ex.kids])
  (refine q02 (fun k0=>?_) (fun k0=>?_)<;>(try simp only [hlc] at k0))
  ·rw [if_pos k0]
   (try simp only [rwp,zA,zB,zC,zD,zE,zF,zG,zH,zI,rwb,reduceIte,hc,gwC])
   have q:=fun K' hk=>h.kn.lki (ok:=false) (z:=.bool false) (K:=K') ke_nd ⟨o,n⟩ hk
   simp only [ndA,ndC] at q
   refine q _ ?_
   rw [q5n]
   exact q03 ⟨rfl,rfl⟩
  ·rw [if_neg k0] at hm ⊢
   (refine q02 (fun k1=>?_) (fun k1=>?_)<;>(try simp only [hlc] at k1))
   ·rw [if_pos k1]
    (try simp only [rwp,zA,zB,zC,zD,zE,zF,zG,zH,zI,rwb,reduceIte,hc,gwC])
    have q:=fun K' hk=>h.of.lki (ok:=false) (z:=.nils) (K:=K') ke_nd ⟨o,n⟩ hk
    simp only [ndA,ndC] at q
    refine q _ ?_
    refine q1h (q59 (h.len _) fun x hx=>c_gholds_1 h x _ _ ov _) ?_
    exact q03 ⟨rfl,rfl⟩
   ·rw [if_neg k1] at hm ⊢
    have k234:k=2∨k=3∨k=4:=by
     refine Classical.byContradiction fun hn=>?_
     rw [if_neg hn] at hm
     cases hm
    rw [if_pos k234] at hm
    obtain ⟨a,b,rfl⟩:∃ a b,ks=[a,b]:=by
     match ks,hm with
     | [a,b],_=>exact ⟨a,b,rfl⟩
     | [],hm=>cases hm
     | [_],hm=>cases hm
     | _ :: _ :: _ :: _,hm=>cases hm
    simp only [two,Bool.and_eq_true] at hm
    have ha:=ih a hm.1
    have hb:=ih b hm.2
    dsimp only
    generalize exB E (fun c=>decide (c∈K)) o m a=va at ha ⊢
    generalize exB E (fun c=>decide (c∈K)) o m b=vb at hb ⊢
    obtain ⟨ka,na,oa,ksa⟩:=a
    obtain ⟨kb,nb,ob,ksb⟩:=b
    simp only [obC,q0c,Ex.kind,Ex.name,Ex.over,Ex.kids] at ha hb
    rcases k234 with rfl | rfl | rfl<;>(try simp only [rwp,zA,zB,zC,zD,zE,zF,zG,zH,zI,rwb,reduceIte,Int.reduceEq,q0c,Ex.kind,Ex.name,Ex.over,Ex.kids,List.getElem?_cons_zero,List.getElem?_cons_succ,Option.map_some,List.map_cons])<;>refine q1h ha ?_<;>cases va<;>(try simp only [rwp,zA,zB,zC,zD,zE,zF,zG,zH,zI,rwb,reduceIte,q0c,Ex.kind,Ex.name,Ex.over,Ex.kids,List.getElem?_cons_zero,List.getElem?_cons_succ,Option.map_some,List.map_cons])<;>first
     | exact q03 ⟨rfl,rfl⟩
     | (refine q1h hb ?_;cases vb<;>(try simp only [rwp,zA,zB,zC,zD,zE,zF,zG,zH,zI,rwb,reduceIte])<;>exact q03 ⟨rfl,rfl⟩)
theorem c_gstands_1 (h:GW E bw bo br bk K S) (x:Nd):AFunS PG nrx193 ([]++[.agg (ndC x)]++[.rop [.ptr bw 0]]) S (.bool (if x.rl=⟨#[]⟩ then decide (x.o=E.who) else decide (x∈K))):=by
 have hc:=q08 h.c
 have eo:decide (x.o=E.who)=(decide (x.o.ty=E.who.ty)&&decide (x.o.id=E.who.id)):=by
  rw [Bool.eq_iff_iff]
  cases x.o;cases E.who
  simp
 refine wx193 ?_
 unfold Bx193
 (try simp only [rwp,zA,zB,zC,zD,zE,zF,zG,zH,zI,rwb,reduceIte,ndC])
 cases a1:decide (x.rl=⟨#[]⟩)
 ·have a1':=of_decide_eq_false a1
  rw [if_neg a1']
  (try simp only [rwp,zA,zB,zC,zD,zE,zF,zG,zH,zI,rwb,reduceIte,C193_1,C193_2,a1,hc,gwC])
  have q:=fun K' hk=>h.kn.lki (ok:=false) (z:=.bool false) (K:=K') ke_nd x hk
  simp only [ndA,ndC] at q
  refine q _ ?_
  rw [q5n]
  (try simp only [rwp,zA,zB,zC,zD,zE,zF,zG,zH,zI,rwb,reduceIte,C193_3])
  exact q03 ⟨rfl,rfl⟩
 ·have a1':=of_decide_eq_true a1
  rw [if_pos a1',eo]
  (try simp only [rwp,zA,zB,zC,zD,zE,zF,zG,zH,zI,rwb,reduceIte,hc,gwC])
  cases a2:(decide (x.o.ty=E.who.ty)&&decide (x.o.id=E.who.id))<;>(try simp only [rwp,zA,zB,zC,zD,zE,zF,zG,zH,zI,rwb,reduceIte,C193_1,C193_2,C193_3,a1])<;>exact q03 ⟨rfl,rfl⟩
theorem c_gstands (h:GW E bw bo br bk K S) (n:Nd) (r:Rl) (hn:r.name=n.rl) (hm:r.refs.length=0→mayE 12 r.ex=true):AFunS PG nrx154 [.ptr bw 0,.agg (obC n.o),.agg (rlC r)] S (.bool (q21 E (fun c=>decide (c∈K)) n r)):=by
 have hc:=q08 h.c
 refine wx154 ?_
 unfold Bx154 q21
 (try simp only [rwp,zA,zB,zC,zD,zE,zF,zG,zH,zI,rwb,reduceIte,obC,q0l,hn])
 cases a1:decide ((r.refs.length:Int)=0)
 ·have h0:¬ r.refs.length=0:=by have:=of_decide_eq_false a1;omega
  rw [if_neg h0]
  (try simp only [rwp,zA,zB,zC,zD,zE,zF,zG,zH,zI,rwb,reduceIte,hc,gwC])
  have q:=fun K' hk=>h.of.lki (ok:=false) (z:=.nils) (K:=K') ke_nd n hk
  simp only [ndA,ndC] at q
  refine q _ ?_
  refine q1h (q59 (h.len _) fun x hx=>c_gstands_1 h x) ?_
  exact q03 ⟨rfl,rfl⟩
 ·have h0:r.refs.length=0:=by have:=of_decide_eq_true a1;omega
  rw [if_pos h0]
  have q:=c_gholds h n.o 12 r.ex (hm h0)
  generalize r.ex=e at q ⊢
  obtain ⟨ka,na,oa,ksa⟩:=e
  simp only [obC,q0c,Ex.kind,Ex.name,Ex.over,Ex.kids] at q ⊢
  (try simp only [rwp,zA,zB,zC,zD,zE,zF,zG,zH,zI,rwb,reduceIte])
  refine q1h q ?_
  exact q03 ⟨rfl,rfl⟩
end
set_option maxRecDepth 4000
abbrev tyW14:Nat:=178
abbrev tyOb:Nat:=27
def wC (s:List Ty) (L:List Tu) (tv:AV) (who:Ob) (kv:AV):List AV:=[.sl 2 (s.map tyC),.sl 6 (L.map tuC),tv,.str who.ty,.str who.id,kv]
structure W14 (s:List Ty) (L:List Tu) (who:Ob) (bw:Nat) (S0:q00) (T:List Ob) (K:List Nd) (S:q00):Prop where
 ex:∃ tv kv,q0k S bw=some (tyW14,wC s L tv who kv,6)∧LstW S0 S tyOb 2 tv (T.map obC)∧LstW S0 S tyFa 3 kv (K.map ndC)∧q0u tv bw∧q0u kv bw∧∀ b off n cap,tv=.own b off n cap→q0u kv b
 sub:Sub S0 S
 nb:sget S0 bw=none
 lk:K.length≤1000000
 lt:T.length≤1000000
theorem drop_two {cs:List AV} {p:Nat} {a b:AV} (h:(cs.drop p).take 2=[a,b]):∃ rest,cs.drop p=a :: b :: rest:=by
 refine ⟨(cs.drop p).drop 2,?_⟩
 have:=List.take_append_drop 2 (cs.drop p)
 rw [h] at this
 exact this.symm
theorem ob_dec14 {a b:Ob}:decide (a=b)=(decide (a.ty=b.ty)&&decide (a.id=b.id)):=by
 rw [Bool.eq_iff_iff]
 cases a;cases b
 simp
section
variable {s:List Ty} {L:List Tu} {who:Ob} {bw:Nat} {S0 S:q00} {T:List Ob} {K:List Nd}
def envL (s:List Ty) (L:List Tu) (who:Ob):q1n:=⟨s,fun n=>(ofF L n).map Tu.s,who⟩
theorem any_of {L:List Tu} {n:Nd} {q:Nd→Bool}:((ofF L n).map Tu.s).any q=L.any fun t=>(decide (t.o=n.o)&&decide (t.rl=n.rl))&&q t.s:=by
 unfold ofF
 rw [List.any_map,List.any_filter]
 rfl
theorem any_take {α:Type} {p:α→Bool} {l:List α} {i:Nat} {x:α} (h:l[i]?=some x) (h0:(l.take i).any p=false):(l.take (i+1)).any p=p x:=by
 rw [q10 h,List.any_append,h0]
 simp
theorem any_yes {α:Type} {p:α→Bool} {l:List α} {i:Nat} {x:α} (h:l[i]?=some x) (hp:p x=true):l.any p=true:=List.any_eq_true.2 ⟨x,List.mem_of_getElem? h,hp⟩
end
set_option maxRecDepth 4000
def addT (T:List Ob) (o:Ob):List Ob:=if o∈T then T else T++[o]
theorem c_add14 {S0 S:q00} {tv:AV} {T:List Ob} (hs:Sub S0 S) (ht:LstW S0 S tyOb 2 tv (T.map obC)) (hl:T.length≤1000000) (o:Ob) :
  ACalls PG nrx106 [tv,.agg (obC o)] S fun ae S'=>∃ tv',ae=.ret tv'∧LstW S0 S' tyOb 2 tv' ((addT T o).map obC)∧Sub S0 S'∧∀ c x,sget S c=some x→q0u tv c→sget S' c=some x∧q0u tv' c:=by
 refine wx106 ?_
 unfold Bx106
 (try simp only [rwp,zA,zB,zC,zD,zE,zF,zG,zH,zI,rwb,reduceIte,obC])
 refine LoopP.introS (fun i:Nat=>[(0,tv),(3,.rop [.str o.ty,.str o.id]),(5,.int .i64 i)]) (fun i S'=>S'=S∧i≤T.length∧∀ (j:Nat) (m:Ob),j<i→T[j]?=some m→¬ m=o) (fun i=>T.length-i) 0 ⟨rfl,by omega,fun j m hj=>by omega⟩ rfl ?_
 rintro i S' ⟨rfl,hi,hno⟩ kk hkk
 (try simp only [rwp,zA,zB,zC,zD,zE,zF,zG,zH,zI,rwb,reduceIte,C106_1,ht.ln,List.length_map])
 (refine q02 (fun hlt=>?_) (fun hlt=>?_)<;>(try simp only [hlc] at hlt))
 ·obtain ⟨m,hm⟩:=q0e hlt
  obtain ⟨b1,cap,cs,rfl,hcs,hrow,hle⟩:=ht.get (i:=i) (r:=obC m) (by rw [List.getElem?_map,hm];rfl)
  simp only [List.length_map] at hkk ht
  (try simp only [rwp,zA,zB,zC,zD,zE,zF,zG,zH,zI,rwb,reduceIte,hcs,List.length_map,Int.toNat_natCast,Nat.zero_add])
  obtain ⟨rest,hd1⟩:=drop_two (hrow.trans (show obC m=[.str m.ty,.str m.id] from rfl))
  (try simp only [rwp,zA,zB,zC,zD,zE,zF,zG,zH,zI,rwb,reduceIte,hd1])
  refine ⟨hlt,?_⟩
  have hnd:=ob_dec m o
  cases a1:(decide (m.ty=o.ty)&&decide (m.id=o.id))
  ·rw [a1] at hnd
   (try simp only [rwp,zA,zB,zC,zD,zE,zF,zG,zH,zI,rwb,reduceIte])
   (simp (disch:=omega) only [q07])
   refine q09 rfl (hkk (i+1) _ ⟨rfl,by omega,fun j u hj hu=>?_⟩ (by omega))
   rcases Nat.lt_succ_iff_lt_or_eq.1 hj with h1 | rfl
   ·exact hno j u h1 hu
   ·rw [hm] at hu;cases hu;exact of_decide_eq_false hnd
  ·rw [a1] at hnd
   have e:=of_decide_eq_true hnd
   subst e
   (try simp only [rwp,zA,zB,zC,zD,zE,zF,zG,zH,zI,rwb,reduceIte])
   refine q03 ⟨_,rfl,?_,hs,fun c x hc ha=>⟨hc,ha⟩⟩
   rw [addT,if_pos (List.mem_of_getElem? hm)]
   exact ht
 ·have hn:o ∉ T:=by
   intro hn
   obtain ⟨j,hj⟩:=List.getElem?_of_mem hn
   have:=(List.getElem?_eq_some_iff.1 hj).1
   exact hno j o (by omega) hj rfl
  (try simp only [rwp,zA,zB,zC,zD,zE,zF,zG,zH,zI,rwb,reduceIte])
  refine LstW.app hs ht (x:=[.str o.ty,.str o.id]) rfl rfl (by simp only [List.length_map];omega) fun tv' S2 h1 h2 h3=>?_
  refine q03 ⟨tv',rfl,?_,h1,h3⟩
  rw [addT,if_neg hn,List.map_append]
  exact h2
theorem good_find {s:List Ty} (hg:GoodS s) {i k:Nat} {t:Ty} {r:Rl} (ht:s[i]?=some t) (hr:t.rels[k]?=some r):q0g s t.name r.name=some (i,k,r):=by
 have h1:=hg.once ht hr
 unfold fiN at h1
 simp only [Prod.mk.injEq] at h1
 obtain ⟨e1,e2⟩:=h1
 have ty:typF s t.name=some i:=by
  cases hq:typF s t.name with
  | none=>
   have:=firstI_none.1 hq i t ht
   simp at this
  | some i'=>rw [hq] at e1;exact congrArg some e1
 have rl:q40 t.rels r.name=some k:=by
  cases hq:q40 t.rels r.name with
  | none=>
   have:=firstI_none.1 hq k r hr
   simp at this
  | some k'=>
   rw [ty] at e2
   unfold relF at e2
   simp only [Option.bind_some,ht,hq,Option.getD_some] at e2
   rw [e2]
 unfold q0g
 rw [ty]
 dsimp only
 rw [ht]
 dsimp only
 rw [rl]
 dsimp only
 rw [hr]
 rfl
theorem LstW.keep {S0 S S':q00} {t sz:Nat} {u v v':AV} {rows:List (List AV)} (h:LstW S0 S t sz u rows) (ha:∀ b off n cap,u=.own b off n cap→q0u v b) (hk:∀ c o,sget S c=some o→q0u v c→sget S' c=some o∧q0u v' c) :
  LstW S0 S' t sz u rows∧∀ b off n cap,u=.own b off n cap→q0u v' b:=by
 obtain ⟨hr,h⟩:=h
 rcases h with ⟨rfl,rfl⟩ | ⟨b,cap,cs,rfl,h1,h2,h3⟩
 ·exact ⟨⟨hr,.inl ⟨rfl,rfl⟩⟩,fun b off n cap e=>by cases e⟩
 ·obtain ⟨k1,k2⟩:=hk b _ h2 (ha b _ _ _ rfl)
  exact ⟨⟨hr,.inr ⟨b,cap,cs,rfl,h1,k1,h3⟩⟩,fun b off n cap e=>by cases e;exact k2⟩
structure Rnd (s:List Ty) (L:List Tu) (who:Ob):Prop where
 os:OkS s
 c:errA (chkF s)=0
 oL:OkL L
 e:OfOk (envL s L who)
structure RdI (s:List Ty) (L:List Tu) (who:Ob) (bw:Nat) (S0:q00) (T:List Ob) (C:List Nd) (v:Nat) (K0:List Nd) (i t k:Nat) (K:List Nd) (b:Bool) (S:q00):Prop where
 w:W14 s L who bw S0 T K S
 u:Upto (envL s L who) C v K
 y:b=true→K0.length<K.length
 n:b=false→K=K0∧∀ (i' t' k':Nat) (o:Ob) (ty:Ty) (r:Rl),(i'<i∨i'=i∧(t'<t∨t'=t∧k'<k))→T[i']?=some o→s[t']?=some ty→ty.name=o.ty→ty.rels[k']?=some r→getL (levF s) (t',k')=v→q21 (envL s L who) (fun c=>decide (c∈K0)) ⟨o,r.name⟩ r=true→(⟨o,r.name⟩:Nd)∈K0
theorem RdI.skip {s:List Ty} {L:List Tu} {who:Ob} {bw:Nat} {S0 S:q00} {T:List Ob} {C:List Nd} {v:Nat} {K0 K:List Nd} {i t k i2 t2 k2:Nat} {b:Bool} (h:RdI s L who bw S0 T C v K0 i t k K b S)
  (hs:∀ (i' t' k':Nat) (o:Ob) (ty:Ty) (r:Rl),(i'<i2∨i'=i2∧(t'<t2∨t'=t2∧k'<k2))→T[i']?=some o→s[t']?=some ty→ty.name=o.ty→ty.rels[k']?=some r→getL (levF s) (t',k')=v→¬ (i'<i∨i'=i∧(t'<t∨t'=t∧k'<k))→q21 (envL s L who) (fun c=>decide (c∈K)) ⟨o,r.name⟩ r=true→(⟨o,r.name⟩:Nd)∈K):RdI s L who bw S0 T C v K0 i2 t2 k2 K b S:=by
 refine ⟨h.w,h.u,h.y,fun hb=>?_⟩
 obtain ⟨e,h1⟩:=h.n hb
 subst e
 refine ⟨rfl,fun i' t' k' o ty r hlt a1 a2 a3 a4 a5 a6=>?_⟩
 by_cases hq:i'<i∨i'=i∧(t'<t∨t'=t∧k'<k)
 ·exact h1 i' t' k' o ty r hq a1 a2 a3 a4 a5 a6
 ·exact hs i' t' k' o ty r hlt a1 a2 a3 a4 a5 hq a6
set_option maxRecDepth 4000
def relsA (s:List Ty) (nm:ByteArray):Option AV:=match typF s nm with
 | none=>none
 | some i=>(s[i]?).map fun t=>.sl 6 (t.rels.map rlC)
def levsA (s:List Ty) (nm:ByteArray):Option AV:=match typF s nm with
 | none=>none
 | some i=>((levF s)[i]?).map fun l=>.sl 1 (l.map fun x=>[iv x])
theorem c_gknown_1 {s:List Ty} {S:q00} {bl bc i k x v:Nat} {mst:Int} {nm:ByteArray} {l:List Nat} (h1:KMap MS AV.str S bl (levsA s)) (h2:q28 S bc=some [.int .i64 v]) (ht:typF s nm=some i) (hl:(levF s)[i]?=some l) (hx:l[k]?=some x) :
  AFunS PG nrx111 ([]++[.str nm,.int .i64 k]++[.rop [.map (some bl),.int .i64 mst],.ptr bc 0]) S (.bool (decide (x=v))):=by
 refine wx111 ?_
 unfold Bx111
 (try simp only [rwp,zA,zB,zC,zD,zE,zF,zG,zH,zI,rwb,reduceIte])
 refine h1.lki q2t nm ?_
 have e:levsA s nm=some (.sl 1 (l.map fun x=>[iv x])):=by unfold levsA;rw [ht];simp [hl]
 rw [e]
 (try simp only [rwp,zA,zB,zC,zD,zE,zF,zG,zH,zI,rwb,reduceIte,q1y,h2,List.getElem?_map,hx,iv])
 exact q03 ⟨by simp only [Int.ofNat_inj],rfl⟩
structure KN (bk:Nat) (K:List Nd) (es:List (AV×AV×Nat)) (clk:Nat) (S:q00):Prop where
 map:sget S bk=some (.map MD es clk)
 key:∀ x∈es,∃ n,x.1=ndA n
 nd:(es.map fun x=>x.2.2).Nodup
 lt:∀ x∈es,x.2.2<clk
 get:∀ n,mget es (ndA n)=if n∈K then some (.bool true) else none
theorem KN.push {bk:Nat} {K:List Nd} {es:List (AV×AV×Nat)} {clk:Nat} {S:q00} (h:KN bk K es clk S) {n:Nd} (hn:n ∉ K) {KT:q00→Prop}
  (hK:∀ es' clk',KN bk (K++[n]) es' clk' (supd S bk (.map MD es' clk'))→KT (supd S bk (.map MD es' clk'))) :
  meW S MD (.bool false) (.map (some bk)) (ndA n) fun v S=>exW 1 v fun v62=>mtW S (.map (some bk)) v62 (.bool true) KT:=by
 have hq:mget es (ndA n)=none:=by rw [h.get,if_neg hn]
 have hm:=mfind_none hq
 refine ⟨bk,es,clk,rfl,h.map,ke_nd.ok n,?_⟩
 rw [hm]
 dsimp only
 rw [q9f,q5r]
 have hnd:((es++[(ndA n,AV.bool false,clk)]).map fun x=>x.2.2).Nodup:=by
  rw [List.map_append,List.nodup_append]
  refine ⟨h.nd,by simp,fun a ha b hb=>?_⟩
  obtain ⟨x,hx,rfl⟩:=List.mem_map.1 ha
  have:=h.lt x hx
  simp at hb
  omega
 have hset:(mset es (ndA n) (.bool true) clk)=(es++[(ndA n,.bool true,clk)],clk+1):=by unfold mset;rw [hm]
 refine ⟨bk,MD,es++[(ndA n,.bool false,clk)],clk+1,es.length,ndA n,.bool false,clk,rfl,by rw [q01,if_pos rfl],rfl,q81 hnd (x:=(ndA n,.bool false,clk)) (by simp) rfl,by simp,?_⟩
 have e:(es++[(ndA n,AV.bool false,clk)]).set es.length (ndA n,.bool true,clk)=es++[(ndA n,.bool true,clk)]:=by simp
 rw [e]
 have e2:supd (supd S bk (.map MD (es++[(ndA n,.bool false,clk)]) (clk+1))) bk (.map MD (es++[(ndA n,.bool true,clk)]) (clk+1))=supd S bk (.map MD (es++[(ndA n,.bool true,clk)]) (clk+1)):=by
  funext c
  unfold supd
  split<;>rfl
 rw [e2]
 refine hK _ _ ⟨by rw [q01,if_pos rfl],fun x hx=>?_,by simpa using hnd,fun x hx=>?_,fun m=>?_⟩
 ·rcases List.mem_append.1 hx with hx | hx
  ·exact h.key x hx
  ·rw [List.mem_singleton.1 hx];exact ⟨n,rfl⟩
 ·rcases List.mem_append.1 hx with hx | hx
  ·have:=h.lt x hx;omega
  ·rw [List.mem_singleton.1 hx];exact Nat.lt_succ_self _
 ·have:=mget_mset (es:=es) (n:=n) (m:=m) (v:=.bool true) (clk:=clk) h.key
  rw [hset] at this
  rw [this,h.get]
  by_cases hmn:m=n
  ·subst hmn;simp
  ·rw [if_neg hmn]
   simp [List.mem_append,hmn]
abbrev MO:Bool×List EK:=(true,[.str,.str])
def obA (o:Ob):AV:=.agg (obC o)
theorem ke_ob:KE MO obA:=⟨fun n=>by simp [obA,obC,q0s,q17,ekOk],fun n m h=>by
 obtain ⟨a,b⟩:=n
 obtain ⟨d,e⟩:=m
 simp only [obA,obC,AV.agg.injEq,List.cons.injEq,AV.str.injEq,and_true] at h
 obtain ⟨rfl,rfl⟩:=h
 rfl⟩
section
variable {S0 S S':q00} {t bo:Nat} {Ks Ks':Nat→Prop} {f:Nd→List (List AV)} {es:List (AV×AV×Nat)} {clk:Nat}
theorem OfM.other (h:OfM S0 S t bo Ks f es clk) {v v':AV} (hv:∀ b off n cap,v=.own b off n cap→Ks b) (hk:∀ c o,sget S c=some o→q0u v c→sget S' c=some o∧q0u v' c)
  (hK:∀ c,Ks' c→Ks c∨∃ off n cap,v'=.own c off n cap) (hs:∀ c,Ks' c→c≠bo∧sget S' c≠none):OfM S0 S' t bo Ks' f es clk:=by
 have asd:∀ n u,mget es (ndA n)=some u→∀ b off k cap,u=.own b off k cap→q0u v b:=by
  intro n u hu b off k cap e b' off' k' cap' e'
  exact Ne.symm ((h.yes n u hu).2.2.2 b' (hv _ _ _ _ e') b off k cap e)
 have lst:∀ n u,mget es (ndA n)=some u→∀ b off k cap,u=.own b off k cap→∃ o,sget S b=some o∧sget S' b=some o∧q0u v' b:=by
  intro n u hu b off k cap e
  subst e
  obtain ⟨-,⟨hr,hl⟩,-,-⟩:=h.yes n _ hu
  rcases hl with ⟨e,-⟩ | ⟨b1,cap1,e,q1,q2,q3⟩
  ·cases e
  ·cases e
   exact ⟨_,q2,hk b _ q2 (asd n _ hu b _ _ _ rfl)⟩
 have hbo:q0u v bo:=fun b off n cap e=>Ne.symm (h.ks b (hv _ _ _ _ e)).1
 refine ⟨(hk bo _ h.map hbo).1,h.b0,h.key,h.nd,h.ku,h.lt,h.no,fun n u hu=>?_,h.apart,hs⟩
 obtain ⟨k1,⟨hr,hl⟩,k3,k4⟩:=h.yes n u hu
 refine ⟨k1,⟨hr,?_⟩,k3,fun c hc=>?_⟩
 ·rcases hl with hl | ⟨b,cap,rfl,q1,q2,q3⟩
  ·exact .inl hl
  ·obtain ⟨o,o1,o2,o3⟩:=lst n _ hu b _ _ _ rfl
   rw [q2] at o1
   cases o1
   exact .inr ⟨b,cap,rfl,q1,o2,q3⟩
 ·rcases hK c hc with hc | ⟨off,m,cap,rfl⟩
  ·exact k4 c hc
  ·intro b off' k cap' e
   obtain ⟨o,o1,o2,o3⟩:=lst n u hu b _ _ _ e
   exact Ne.symm (o3 c _ _ _ rfl)
theorem OfM.supd (h:OfM S0 S t bo Ks f es clk) {c:Nat} (hc:Ks c) (o:AObj):OfM S0 (supd S c o) t bo Ks f es clk:=by
 refine h.other (v:=.own c 0 0 0) (v':=.nils) (fun b off n cap e=>by cases e;exact hc) (fun b x hb ha=>⟨?_,fun _ _ _ _ e=>by cases e⟩) (fun b hb=>.inl hb) fun b hb=>⟨(h.ks b hb).1,?_⟩
 ·rw [q01,if_neg (Ne.symm (ha c 0 0 0 rfl))]
  exact hb
 ·rw [q01]
  split
  ·simp
  ·exact (h.ks b hb).2
theorem OfM.more (h:OfM S0 S t bo Ks f es clk) (hs:Sub S S') (hK:∀ c,Ks' c→Ks c∨sget S c=none) (hc:∀ c,Ks' c→c≠bo∧sget S' c≠none):OfM S0 S' t bo Ks' f es clk:=by
 refine ⟨hs _ _ h.map,h.b0,h.key,h.nd,h.ku,h.lt,h.no,fun n u hu=>?_,h.apart,hc⟩
 obtain ⟨k1,k2,k3,k4⟩:=h.yes n u hu
 refine ⟨k1,k2.sub hs,k3,fun c hc=>?_⟩
 rcases hK c hc with hc | hc
 ·exact k4 c hc
 ·intro b off k cap e
  subst e
  obtain ⟨hr,⟨e,-⟩ | ⟨b1,cap1,e,q1,q2,-⟩⟩:=k2
  ·cases e
  ·cases e
   rintro rfl
   rw [q2] at hc
   cases hc
theorem OfM.nil {bo:Nat} (hb:sget S0 bo=none) (hs:sget S bo=some (.map MD [] 0)) (hK:∀ c,Ks c→c≠bo∧sget S c≠none):OfM S0 S t bo Ks (fun _=>[]) [] 0:=
 ⟨hs,hb,fun x hx=>(by cases hx),by simp,fun i j x y hx=>by simp at hx,fun x hx=>(by cases hx),fun m _=>rfl,fun m v hv=>(by cases hv),fun m p v u _ hv=>(by cases hv),hK⟩
end
end Go.HL
