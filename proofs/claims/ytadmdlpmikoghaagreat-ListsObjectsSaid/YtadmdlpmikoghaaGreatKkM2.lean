/- A part of a proof. -/
import Derived.Test.YtadmdlpmikoghaaGreatKkM1
import Derived.Lib.Bytealg
import Derived.Laws.Externs
import Derived.Test.YtadmdlpmikoghaaGreatKkHlS0
import Derived.Test.YtadmdlpmikoghaaGreatKkHlS8
set_option maxRecDepth 4000
set_option linter.unusedSimpArgs false
set_option linter.unusedVariables false
namespace Go.HL
open Nat renaming reduceAdd→zA,reduceLeDiff→zB,reduceLT→zC,reduceSub→zD,reduceMul→zE,reduceEqDiff→zF,reduceBEq→zG
open Int renaming reduceAdd→zH,reduceToNat→zI
theorem LvO.cell {S0 S:q00} {v:AV} {bs:List Nat} {lv:Lv} (h:LvO S0 S v bs lv) {i j:Nat} (hin:In lv (i,j)):∃ bl cap b l,v=.own bl 0 lv.length cap∧i<lv.length∧q0j S bl=some (174,(q2o bs lv).flatten,cap * 1)∧(q2o bs lv).flatten.drop i=.own b 0 l.length l.length :: (q2o bs lv).flatten.drop (i+1) ∧
  bs[i]?=some b∧lv[i]?=some l∧q0j S b=some (3,l.map iv,l.length)∧b≠bl∧l[j]?=some (getL lv (i,j)):=by
 obtain ⟨l,h1,h2⟩:=hin
 dsimp only at h1 h2
 have hil:=(List.getElem?_eq_some_iff.1 h1).1
 obtain ⟨hs,hlen,⟨hr,hl⟩,hi,hnd⟩:=h
 have hrl:(q2o bs lv).length=lv.length:=by simp [q2o,hlen]
 obtain ⟨b,hb⟩:∃ b,bs[i]?=some b:=⟨_,List.getElem?_eq_getElem (by omega)⟩
 obtain ⟨o1,o2,o3⟩:=hi i b l hb h1
 have hrow:(q2o bs lv)[i]?=some [.own b 0 l.length l.length]:=by rw [q5x,hb,h1]
 rcases hl with ⟨rfl,h0⟩ | ⟨bl,cap,rfl,k1,k2,k3,k4,k5⟩
 ·rw [h0] at hrow;simp at hrow
 ·refine ⟨bl,cap,b,l,by rw [hrl],hil,objAt_some.2 k2,?_,hb,h1,o1,o3 bl 0 _ _ rfl,?_⟩
  ·have h3:=q7j hr hrow (j:=0) rfl
   rw [Nat.mul_one,Nat.add_zero] at h3
   exact q0e h3
  ·unfold getL
   rw [h1]
   simp [List.getElem?_eq_getElem h2]
theorem LvO.rd {S0 S:q00} {v:AV} {bs:List Nat} {lv:Lv} (h:LvO S0 S v bs lv) {i j:Nat} (hin:In lv (i,j)) {K:AV→Prop} (hK:K (.int .i64 (getL lv (i,j)))) :
  iaW 1 v (.int .i64 i) (fun a=>ldW S 1 false a fun r=>iaW 1 r (.int .i64 j) fun c=>ldW S 1 false c K):=by
 obtain ⟨bl,cap,b,l,rfl,h1,h2,h3,h4,h5,h6,h7,h8⟩:=h.cell hin
 have hj:=(List.getElem?_eq_some_iff.1 h8).1
 have hd:(l.map iv).drop j=iv (getL lv (i,j)) :: (l.map iv).drop (j+1):=q0e (by rw [List.getElem?_map,h8];rfl)
 rw [q8l]
 refine ⟨by omega,by omega,?_⟩
 rw [q8j,q07 h2,q5z,Int.toNat_natCast,Nat.mul_one,Nat.zero_add,h3,mkW_one,q8l]
 refine ⟨by omega,by omega,?_⟩
 rw [q8j,q07 h6,q5z,Int.toNat_natCast,Nat.mul_one,Nat.zero_add,hd,mkW_one]
 exact hK
theorem lvRows_set {bs:List Nat} {lv:Lv} {p:Nat×Nat} {x:Nat}:q2o bs (setL lv p x)=q2o bs lv:=by
 apply List.ext_getElem?
 intro i
 rw [q5x,q5x]
 unfold setL
 rw [List.getElem?_set]
 by_cases h:p.1=i
 ·subst h
  rw [if_pos rfl]
  cases hl:lv[p.1]? with
  | none=>rw [if_neg (by have:=List.getElem?_eq_none_iff.1 hl;omega)]
  | some l=>
   rw [if_pos (List.getElem?_eq_some_iff.1 hl).1]
   cases bs[p.1]?<;>simp
 ·rw [if_neg h]
theorem LvO.wr {S0 S:q00} {v:AV} {bs:List Nat} {lv:Lv} (h:LvO S0 S v bs lv) {i j x:Nat} (hin:In lv (i,j)) {K:q00→Prop} (hK:∀ S',LvO S0 S' v bs (setL lv (i,j) x)→K S') :
  iaW 1 v (.int .i64 i) (fun a=>ldW S 1 false a fun r=>iaW 1 r (.int .i64 j) fun c=>stW S 1 c (.int .i64 x) K):=by
 obtain ⟨bl,cap,b,l,rfl,h1,h2,h3,h4,h5,h6,h7,h8⟩:=h.cell hin
 have hj:=(List.getElem?_eq_some_iff.1 h8).1
 rw [q8l]
 refine ⟨by omega,by omega,?_⟩
 rw [q8j,q07 h2,q5z,Int.toNat_natCast,Nat.mul_one,Nat.zero_add,h3,mkW_one,q8l]
 refine ⟨by omega,by omega,?_⟩
 rw [q3u,h6,Int.toNat_natCast,Nat.mul_one,Nat.zero_add,q39]
 refine ⟨rfl,by simp;omega,rfl,hK _ ?_⟩
 obtain ⟨hs,hlen,hlst,hi,hnd⟩:=h
 have hb0:=(hi i b l h4 h5).2.1
 have hbv:=(hi i b l h4 h5).2.2
 have hset:q1n (l.map iv) j (q09 (.int .i64 x))=(l.set j x).map iv:=by
  show (l.map iv).set j (iv x)=_
  rw [List.map_set]
 rw [hset]
 refine ⟨hs.supd hb0,?_,?_,fun m c l' k1 k2=>?_,hnd⟩
 ·unfold setL;rw [List.length_set];exact hlen
 ·rw [lvRows_set]
  exact hlst.upd hbv _
 ·unfold setL at k2
  rw [List.getElem?_set,h5,if_pos h1] at k2
  dsimp only [Option.getD_some] at k2
  by_cases hmi:i=m
  ·subst hmi
   rw [if_pos rfl] at k2
   rw [h4] at k1
   cases k1;cases k2
   exact ⟨by rw [List.length_set];exact q0m,hb0,hbv⟩
  ·rw [if_neg hmi] at k2
   have hne:b≠c:=by
    rintro rfl
    have e1:=(List.getElem?_eq_some_iff.1 h4).1
    exact hmi ((List.getElem?_inj e1 hnd).1 (by rw [h4,k1]))
   obtain ⟨o1,o2,o3⟩:=hi m c l' k1 k2
   exact ⟨by rw [q0n hne];exact o1,o2,o3⟩
theorem LvO.app {S0 S:q00} {v:AV} {bs:List Nat} {lv:Lv} (h:LvO S0 S v bs lv) {b:Nat} (hb:sget S b=none) (l:List Nat) (hlen:lv.length≤1000000) {K:AV→q00→Prop} (hK:∀ v' S',LvO S0 S' v' (bs++[b]) (lv++[l])→K v' S') :
  apW (supd S b (.cells 3 (l.map iv) l.length)) 174 1 24 v (.sl 1 [[.own b 0 l.length l.length]]) K:=by
 have hb0:=Sub.none h.sub hb
 have hba:q0x v b:=h.lst.fresh hb
 have hbn:∀ (j c:Nat),bs[j]?=some c→c≠b:=by
  intro j c hj
  have hj1:=(List.getElem?_eq_some_iff.1 hj).1
  have hj2:j<lv.length:=by rw [← h.len];exact hj1
  have:=objAt_some.1 (h.inn j c _ hj (List.getElem?_eq_getElem hj2)).1
  rintro rfl
  rw [this] at hb
  cases hb
 have hL:=h.fresh hb (.cells 3 (l.map iv) l.length)
 have hrl:(q2o bs lv).length=lv.length:=by simp [q2o,h.len]
 have hbo:sget (supd S b (.cells 3 (l.map iv) l.length)) b=some (.cells 3 (l.map iv) l.length):=by rw [q01,if_pos rfl]
 refine LstN.app (rows:=q2o bs lv) (xs:=[[.own b 0 l.length l.length]]) hL.sub hL.lst (by simp) rfl (by rw [hrl];simp;omega) ?_
 intro v' S5 hs5 hl5 keep
 obtain ⟨q1,q2⟩:=keep b _ hbo hba
 rw [← lvRows_snoc h.len] at hl5
 refine hK v' S5 ⟨hs5,by simp [h.len],hl5,fun j c l' hj hl'=>?_,?_⟩
 ·by_cases hjb:j<bs.length
  ·rw [List.getElem?_append_left hjb] at hj
   rw [List.getElem?_append_left (by rw [← h.len];exact hjb)] at hl'
   obtain ⟨o1,o2,o3⟩:=hL.inn j c l' hj hl'
   obtain ⟨k1,k2⟩:=keep c _ (objAt_some.1 o1) o3
   exact ⟨objAt_some.2 k1,o2,k2⟩
  ·rw [List.getElem?_append_right (by omega)] at hj
   rw [List.getElem?_append_right (by rw [← h.len];omega),← h.len] at hl'
   obtain ⟨m,hm⟩:∃ m,j-bs.length=m:=⟨_,rfl⟩
   rw [hm] at hj hl'
   cases m with
   | succ m=>simp at hj
   | zero=>
    simp at hj hl'
    subst hj;subst hl'
    exact ⟨objAt_some.2 q1,hb0,q2⟩
 ·refine List.nodup_append.2 ⟨h.nod,by simp,fun x hx y hy e=>?_⟩
  simp at hy
  subst hy
  obtain ⟨j,hj⟩:=List.getElem?_of_mem hx
  exact hbn j x hj e
def InS (s:List Ty) (p:Nat×Nat):Prop:=∃ t,s[p.1]?=some t∧p.2<t.rels.length
theorem find_in {s:List Ty} {t n:ByteArray} {i k:Nat} {r:Rl} (h:q0l s t n=some (i,k,r)):InS s (i,k):=by
 obtain ⟨-,ty,h2,-,h4⟩:=q1h h
 exact ⟨ty,h2,(List.getElem?_eq_some_iff.1 h4).1⟩
theorem over_in {s:List Ty} {refs:List Rf} {n:ByteArray}:∀ p∈q2c s refs n,InS s p:=by
 intro p hp
 unfold q2c at hp
 obtain ⟨f,-,hf⟩:=List.mem_filterMap.1 hp
 split at hf
 ·cases hq:q0l s f.ty n with
  | none=>rw [hq] at hf;cases hf
  | some q=>
   obtain ⟨i,k,r⟩:=q
   rw [hq] at hf
   cases hf
   exact find_in hq
 ·cases hf
theorem leans_in {s:List Ty} {t:ByteArray} {r:Rl}:∀ l∈q1p s t r,InS s l.1:=by
 intro l hl
 unfold q1p at hl
 split at hl
 ·obtain ⟨p,-,hp⟩:=List.mem_flatMap.1 hl
  unfold q6i at hp
  split at hp
  ·cases hp
  ·rename_i i k r hq
   rcases List.mem_cons.1 hp with rfl | hp
   ·exact find_in hq
   ·split at hp
    ·obtain ⟨q,hq2,rfl⟩:=List.mem_map.1 hp
     exact over_in q hq2
    ·cases hp
 ·obtain ⟨f,-,hf⟩:=List.mem_filterMap.1 hl
  unfold q1y at hf
  split at hf
  ·cases hf
  ·cases hq:q0l s f.ty f.rl with
   | none=>rw [hq] at hf;cases hf
   | some q=>
    obtain ⟨i,k,r⟩:=q
    rw [hq] at hf
    cases hf
    exact find_in hq
theorem rowsR_in {s:List Ty} {i:Nat} {n:ByteArray}:∀ {l:List Rl} {k:Nat},∀ x∈q3e s i n k l,∀ y∈x.2,InS s y.1
 | [],k,x,hx=>by cases hx
 | r :: l,k,x,hx=>by
  rw [q3e] at hx
  rcases List.mem_cons.1 hx with rfl | hx
  ·exact leans_in
  ·exact rowsR_in x hx
theorem rowsT_in {s:List Ty}:∀ {l:List Ty} {i:Nat},∀ x∈q4f s i l,∀ y∈x.2,InS s y.1
 | [],i,x,hx=>by cases hx
 | t :: l,i,x,hx=>by
  rw [q4f] at hx
  rcases List.mem_append.1 hx with hx | hx
  ·exact rowsR_in x hx
  ·exact rowsT_in x hx
theorem in_shp {lv:Lv} {s:List Ty} (h:Shp lv s) {p:Nat×Nat} (hp:InS s p):In lv p:=by
 obtain ⟨t,h1,h2⟩:=hp
 exact in_of (i:=p.1) (k:=p.2) h h1 h2
theorem rowsR_le {s:List Ty} (hN:OkN s) {i:Nat} {n:ByteArray}:∀ {l:List Rl} {k:Nat},(∀ r∈l,rsz r≤1000)→∀ x∈q3e s i n k l,x.2.length≤4000000
 | [],k,_,x,hx=>by cases hx
 | r :: l,k,h,x,hx=>by
  rw [q3e] at hx
  rcases List.mem_cons.1 hx with rfl | hx
  ·exact leans_len hN (h r (by simp))
  ·exact rowsR_le hN (fun r hr=>h r (List.mem_cons_of_mem _ hr)) x hx
theorem rowsT_le {s:List Ty} (hN:OkN s):∀ {l:List Ty} {i:Nat},(∀ t∈l,∀ r∈t.rels,rsz r≤1000)→∀ x∈q4f s i l,x.2.length≤4000000
 | [],i,_,x,hx=>by cases hx
 | t :: l,i,h,x,hx=>by
  rw [q4f] at hx
  rcases List.mem_append.1 hx with hx | hx
  ·exact rowsR_le hN (h t (by simp)) x hx
  ·exact rowsT_le hN (fun t ht=>h t (List.mem_cons_of_mem _ ht)) x hx
theorem c_ref12_raised {s:List Ty} {rows:List Rw} (hN:rows.length≤1000) (hM:q0y s≤1000) (hok:RwOk s rows) (hin:∀ x∈rows,∀ y∈x.2,InS s y.1) (hle:∀ x∈rows,x.2.length≤4000000) {S0 S:q00} {v:AV} {bs:List Nat} {lv:Lv} (hL:LvO S0 S v bs lv) (hS:Shp lv s) (hB:Bdd rows.length lv) :
  ACalls PG nrx119 [.sl 3 (rows.map rwC),v] S fun ae S'=>ae=.ret (.bool (q1o rows.length rows (lv,false)).2)∧LvO S0 S' v bs (q1o rows.length rows (lv,false)).1:=by
 refine wx119 ?_
 unfold Bx119
 (try simp only [rwp,hwR,zA,zB,zC,zD,zE,zF,zG,zH,zI])
 refine LoopP.introS (fun p:Nat×Lv×Bool=>[(0,.sl 3 (rows.map rwC)),(1,v),(5,.bool p.2.2),(6,.int .i64 p.1)])
  (fun p S'=>p.1≤rows.length∧LvO S0 S' v bs p.2.1∧Shp p.2.1 s∧Bdd rows.length p.2.1∧q1o rows.length (rows.drop p.1) p.2=q1o rows.length rows (lv,false)) (fun p=>rows.length-p.1) (0,lv,false) ⟨by omega,hL,hS,hB,rfl⟩ rfl ?_
 clear hL hS hB
 rintro ⟨i,lv1,mo⟩ S1 ⟨hi,hL,hS,hB,hf⟩ q hq
 dsimp only at hi hL hS hB hf
 (try simp only [rwp,hwR,zA,zB,zC,zD,zE,zF,zG,zH,zI,C119_1])
 (refine q03 (fun hlt=>?_) (fun hlt=>?_)<;>(try simp only [hlc] at hlt))
 ·obtain ⟨w,hw⟩:=q0h hlt
  have hmw:=List.mem_of_getElem? hw
  obtain ⟨nd,ln⟩:=w
  obtain ⟨ni,nk⟩:=nd
  obtain ⟨t,ht,hk⟩:=hok _ hmw
  dsimp only at ht hk
  have hln:=hle _ hmw
  dsimp only at hln
  rw [q0e hw,q1o] at hf
  dsimp only at hf
  (try simp only [rwp,hwR,zA,zB,zC,zD,zE,zF,zG,zH,zI,hw,rwC])
  refine LoopP.introS (fun p:Nat×Lv×Bool=>[(0,.sl 3 (rows.map rwC)),(1,v),(5,.bool p.2.2),(6,.int .i64 i),(7,.int .i64 ni),(8,.int .i64 nk),(9,.int .i64 p.1)])
   (fun p S'=>p.1≤ln.length∧LvO S0 S' v bs p.2.1∧Shp p.2.1 s∧Bdd rows.length p.2.1∧q1i rows.length (ni,nk) (ln.drop p.1) p.2=q1i rows.length (ni,nk) ln (lv1,mo)) (fun p=>ln.length-p.1) (0,lv1,mo) ⟨by omega,hL,hS,hB,rfl⟩ rfl ?_
  clear hL hS hB
  rintro ⟨j,lv2,mo2⟩ S2 ⟨hj,hL,hS,hB,hf2⟩ q2 hq2
  dsimp only at hj hL hS hB hf2
  (try simp only [rwp,hwR,zA,zB,zC,zD,zE,zF,zG,zH,zI,C119_2,hw,rwC])
  (refine q03 (fun hlt2=>?_) (fun hlt2=>?_)<;>(try simp only [hlc] at hlt2))
  ·obtain ⟨l,hl⟩:=q0h hlt2
   obtain ⟨m,o⟩:=l
   obtain ⟨mi,mk⟩:=m
   have hmin:In lv2 (mi,mk):=in_shp hS (hin _ hmw _ (List.mem_of_getElem? hl))
   have hnin:In lv2 (ni,nk):=in_of hS ht hk
   rw [q0e hl,q1i] at hf2
   dsimp only at hf2
   have hphi:=phi_shp (N:=rows.length) hS
   have hMM:q0y s * (rows.length+1)≤1000 * 1001:=Nat.mul_le_mul hM (by omega)
   have hb1:=hB (mi,mk)
   have hb2:=hB (ni,nk)
   (try simp only [rwp,hwR,zA,zB,zC,zD,zE,zF,zG,zH,zI,hl,hw,rwC,q2z])
   refine hL.rd hmin ?_
   have low:∀ x:Nat,x=getL lv2 (mi,mk)+o.toNat→C119_3 (fun ae S'=>ae=.ret (.bool (q1o rows.length rows (lv,false)).2)∧LvO S0 S' v bs (q1o rows.length rows (lv,false)).1) q q2 (.sl 3 (rows.map rwC)) v (.bool mo2) (.int .i64 i) (.int .i64 ni) (.int .i64 nk) (.int .i64 j) (.int .i64 x) S2:=by
    intro x hx
    unfold C119_3
    rw [← hx] at hf2
    refine hL.rd hnin ?_
    have keep:¬ (getL lv2 (ni,nk)<x∧getL lv2 (ni,nk)≤rows.length)→q2 [(0,.sl 3 (rows.map rwC)),(1,v),(5,.bool mo2),(6,.int .i64 i),(7,.int .i64 ni),(8,.int .i64 nk),(9,.int .i64 ((j:Int)+1))] S2:=fun h=>by
     rw [if_neg h] at hf2
     exact hq2 (j+1,lv2,mo2) S2 ⟨by dsimp only;omega,hL,hS,hB,hf2⟩ (by dsimp only;omega)
    (try simp only [rwp,hwR,zA,zB,zC,zD,zE,zF,zG,zH,zI])
    (refine q1m (fun hg=>?_) (fun hg=>?_)<;>(try simp only [rwp,hwR,zA,zB,zC,zD,zE,zF,zG,zH,zI,hg]))
    ·have h1:getL lv2 (ni,nk)<x:=by simpa using hg
     refine hL.rd hnin ?_
     (try simp only [rwp,hwR,zA,zB,zC,zD,zE,zF,zG,zH,zI,hg])
     (refine q03 (fun h2=>?_) (fun h2=>?_)<;>(try simp only [hlc] at h2))
     ·have h3:getL lv2 (ni,nk)<x∧getL lv2 (ni,nk)≤rows.length:=⟨h1,by simpa using h2⟩
      rw [if_pos h3] at hf2
      rw [hx] at h3
      obtain ⟨k1,k2⟩:=q6e (N:=rows.length) (m:=(mi,mk)) (o:=o) hnin hB h3
      rw [← hx] at k1
      (try simp only [rwp,hwR,zA,zB,zC,zD,zE,zF,zG,zH,zI,C119_4])
      refine hL.wr (x:=x) hnin fun S3 hL3=>?_
      (try simp only [rwp,hwR,zA,zB,zC,zD,zE,zF,zG,zH,zI])
      (simp (disch:=omega) only [q04])
      exact q08 rfl (hq2 (j+1,setL lv2 (ni,nk) x,true) S3 ⟨by dsimp only;omega,hL3,shp_set hS _ _,k1,hf2⟩ (by dsimp only;omega))
     ·(try simp only [rwp,hwR,zA,zB,zC,zD,zE,zF,zG,zH,zI,C119_4])
      (simp (disch:=omega) only [q04])
      refine q08 rfl (keep fun h=>?_)
      have:=h.2
      simp at h2
      omega
    ·have h1:¬ getL lv2 (ni,nk)<x:=by simpa using hg
     (try simp only [rwp,hwR,zA,zB,zC,zD,zE,zF,zG,zH,zI,C119_4,hg])
     (simp (disch:=omega) only [q04])
     exact q08 rfl (keep fun h=>h1 h.1)
   cases o with
   | true=>
    (try simp only [rwp,hwR,zA,zB,zC,zD,zE,zF,zG,zH,zI])
    rw [q04 (by omega) (by omega)]
    exact low (getL lv2 (mi,mk)+1) rfl
   | false=>
    (try simp only [rwp,hwR,zA,zB,zC,zD,zE,zF,zG,zH,zI])
    exact low (getL lv2 (mi,mk)) rfl
  ·rw [q0u hlt2,q1i] at hf2
   rw [← hf2] at hf
   (simp (disch:=omega) only [q04])
   exact q08 rfl (hq (i+1,lv2,mo2) S2 ⟨by dsimp only;omega,hL,hS,hB,hf⟩ (by dsimp only;omega))
 ·rw [q0u hlt,q1o] at hf
  exact q02 ⟨by rw [← hf],by rw [← hf];exact hL⟩
set_option maxRecDepth 4000
theorem c_ref12_many {s:List Ty} (hs:OkS s) (h1:s.length≤16) (h2:∀ t∈s,t.rels.length≤16):AFun PG nrx103 [scA s] (.int .i64 (q0y s)):=by
 intro S
 refine wx103 ?_
 unfold Bx103
 (try simp only [rwp,hwR,zA,zB,zC,zD,zE,zF,zG,zH,zI,scA])
 have hm:=manyF_le h1 h2
 refine LoopP.introS (fun p:Nat×Nat=>[(1,.rop [.sl 2 (s.map tyC)]),(3,.int .i64 p.2),(4,.int .i64 p.1)])
  (fun p S'=>S'=S∧p.1≤s.length∧p.2+q0y (s.drop p.1)=q0y s) (fun p=>s.length-p.1) (0,0) ⟨rfl,by omega,by simp⟩ rfl ?_
 rintro ⟨i,n⟩ S1 ⟨rfl,hi,hf⟩ q hq
 dsimp only at hi hf
 (try simp only [rwp,hwR,zA,zB,zC,zD,zE,zF,zG,zH,zI,C103_1])
 (refine q03 (fun hlt=>?_) (fun hlt=>?_)<;>(try simp only [hlc] at hlt))
 ·obtain ⟨t,ht⟩:=q0h hlt
  rw [q0e ht] at hf
  have e1:q0y (t :: s.drop (i+1))=t.rels.length+q0y (s.drop (i+1)):=by simp [q0y]
  rw [e1] at hf
  (try simp only [rwp,hwR,zA,zB,zC,zD,zE,zF,zG,zH,zI,ht,tyC])
  rw [show (n:Int)+(t.rels.length:Int)=((n+t.rels.length:Nat):Int) by omega]
  (simp (disch:=omega) only [q04])
  exact q08 rfl (hq (i+1,n+t.rels.length) _ ⟨rfl,by dsimp only;omega,by dsimp only;omega⟩ (by dsimp only;omega))
 ·rw [q0u hlt] at hf
  have:n=q0y s:=by rw [← hf];rfl
  exact q02 ⟨by rw [this],rfl⟩
theorem zeroL_snoc {s:List Ty} {i:Nat} {t:Ty} (h:s[i]?=some t):q6b (s.take (i+1))=q6b (s.take i)++[List.replicate t.rels.length 0]:=by
 rw [q0z h]
 simp [q6b]
theorem c_ref12_levels {s:List Ty} (hs:OkS s) (hN:OkN s) (hg:GoodS s):AFun PG nrx65 [scA s] (.sl 1 (lvC (levF s))):=by
 intro S
 have hsz:=hg.sizes
 have hmany:=hg.many
 have hrows:=rows_len s
 refine wx65 ?_
 unfold Bx65
 (try simp only [rwp,hwR,zA,zB,zC,zD,zE,zF,zG,zH,zI,scA])
 refine LoopP.introS (fun p:Nat×AV×List Nat=>[(1,.rop [.sl 2 (s.map tyC)]),(3,p.2.1),(4,.int .i64 p.1)])
  (fun p S'=>p.1≤s.length∧LvO S S' p.2.1 p.2.2 (q6b (s.take p.1))) (fun p=>s.length-p.1) (0,.nils,[]) ⟨by omega,LvO.nil S (Sub.refl S)⟩ rfl ?_
 rintro ⟨i,v,bs⟩ S1 ⟨hi,hL⟩ q hq
 dsimp only at hi hL
 (try simp only [rwp,hwR,zA,zB,zC,zD,zE,zF,zG,zH,zI,C65_1])
 (refine q03 (fun hlt=>?_) (fun hlt=>?_)<;>(try simp only [hlc] at hlt))
 ·obtain ⟨t,ht⟩:=q0h hlt
  have htn:=hsz.2.1 t (List.mem_of_getElem? ht)
  (try simp only [rwp,hwR,zA,zB,zC,zD,zE,zF,zG,zH,zI,ht,tyC])
  refine ⟨t.rels.length,rfl,rfl,by omega,fun b hb=>?_⟩
  have hz:List.replicate t.rels.length (AV.int .i64 0)=(List.replicate t.rels.length 0).map iv:=by rw [List.map_replicate];rfl
  have h1:=LvO.app hL hb (List.replicate t.rels.length 0) (by simp [q6b];omega) (K:=fun v' S'=>rcW q [(1,.rop [.sl 2 (s.map tyC)]),(3,v'),(4,.int .i64 (IntKind.i64.wrap ((i:Int)+1)))] S') fun v' S2 hL2=>by
   (simp (disch:=omega) only [q04])
   refine q08 rfl (hq (i+1,v',bs++[b]) S2 ⟨by dsimp only;omega,?_⟩ (by dsimp only;omega))
   rw [zeroL_snoc ht]
   exact hL2
  rw [List.length_replicate,← hz] at h1
  (try simp only [rwp,hwR,zA,zB,zC,zD,zE,zF,zG,zH,zI])
  exact h1
 ·have hend:s.take i=s:=List.take_of_length_le (by omega)
  rw [hend] at hL
  (try simp only [rwp,hwR,zA,zB,zC,zD,zE,zF,zG,zH,zI])
  refine q05 (by simpa only [scA] using c_ref12_rows hs hN hg) ?_
  refine LoopP.introS (fun p:Nat×Lv=>[(3,v),(5,.sl 3 ((q2l s).map rwC)),(6,.int .i64 p.1)])
   (fun p S'=>p.1≤70000∧LvO S S' v bs p.2∧Shp p.2 s∧Bdd (q2l s).length p.2∧q6k (q2l s).length (q2l s) (70000-p.1) p.2=levF s) (fun p=>70000-p.1) (0,q6b s) ⟨by omega,hL,q9q s,q83,by rw [hrows];rfl⟩ rfl ?_
  clear hL
  rintro ⟨n,lv⟩ S2 ⟨hn,hL,hS,hB,hf⟩ q2 hq2
  dsimp only at hn hL hS hB hf
  (try simp only [rwp,hwR,zA,zB,zC,zD,zE,zF,zG,zH,zI,C65_2])
  (refine q03 (fun hlt2=>?_) (fun hlt2=>?_)<;>(try simp only [hlc] at hlt2))
  ·obtain ⟨m,hm⟩:∃ m,70000-n=m+1:=⟨70000-n-1,by omega⟩
   rw [hm,q6k] at hf
   refine q0b (c_ref12_raised (s:=s) (rows:=q2l s) (by omega) (by omega) (q8e s) (rowsT_in) (rowsT_le hN hN) hL hS hB) ?_
   rintro _ S3 ⟨rfl,hL3⟩
   obtain ⟨k1,k2,k3,k4,k5,k6⟩:=q3x (N:=(q2l s).length) (a:=(lv,false)) (q8e s) hS hB
   generalize hR:q1o (q2l s).length (q2l s) (lv,false)=R at hL3 k1 k2 hf ⊢
   obtain ⟨lv2,mo2⟩:=R
   dsimp only at hL3 k1 k2 hf ⊢
   cases mo2 with
   | true=>
    (try simp only [rwp,hwR,zA,zB,zC,zD,zE,zF,zG,zH,zI])
    rw [if_pos rfl] at hf
    (simp (disch:=omega) only [q04])
    refine q08 rfl (hq2 (n+1,lv2) S3 ⟨by dsimp only;omega,hL3,k1,k2,?_⟩ (by dsimp only;omega))
    dsimp only
    rw [show 70000-(n+1)=m by omega]
    exact hf
   | false=>
    (try simp only [rwp,hwR,zA,zB,zC,zD,zE,zF,zG,zH,zI])
    rw [if_neg (by simp)] at hf
    subst hf
    exact rtW_view (vs:=[v]) rfl (ShV.lv hL3) ⟨rfl,rfl⟩
  ·rw [show 70000-n=0 by omega,q6k] at hf
   subst hf
   exact rtW_view (vs:=[v]) rfl (ShV.lv hL) ⟨rfl,rfl⟩
theorem q7v {s:List Ty} (hs:OkS s) (hN:OkN s):AFun PG nrx52 [scA s] (chkF s):=by
 intro S
 refine wx52 ?_
 unfold Bx52
 (try simp only [rwp,hwR,zA,zB,zC,zD,zE,zF,zG,zH,zI,scA])
 intro b hb
 (try simp only [rwp,hwR,zA,zB,zC,zD,zE,zF,zG,zH,zI])
 refine q05 (by simpa only [scA] using c_ref12_plain hs) ?_
 obtain ⟨ft,fr,fe,hp⟩:=plainF_fl s
 rw [hp]
 have ret:∀ x y z:Int,chkF s=flA x y z→rtW [.cell (.ptr b 0) 3 true] (fun ae S'=>ae=.ret (chkF s)∧S'=S) (supd S b (.cells 88 [.int .i64 x,.int .i64 y,.int .i64 z] 3)):=by
  intro x y z hp
  refine q17 S (Sub.fresh _ hb) ?_
  (try simp only [rwp,hwR,zA,zB,zC,zD,zE,zF,zG,zH,zI])
  rw [hp];rfl
 (try simp only [rwp,hwR,zA,zB,zC,zD,zE,zF,zG,zH,zI,flA])
 (refine q03 (fun h0=>?_) (fun h0=>?_)<;>(try simp only [hlc] at h0))
 ·refine ret _ _ _ ?_
  rw [chkF,hp,q28,if_pos h0]<;>rfl
 have hg:GoodS s:=q8g (by rw [hp,q28];omega)
 have hck:chkF s=flO (q36 s (cycF s)):=by rw [chkF,hp,q28,if_neg (by simp [h0])]
 have hsz:=hg.sizes
 have hmany:=hg.many
 (try simp only [rwp,hwR,zA,zB,zC,zD,zE,zF,zG,zH,zI])
 refine q05 (by simpa only [scA] using c_ref12_levels hs hN hg) ?_
 (try simp only [rwp,hwR,zA,zB,zC,zD,zE,zF,zG,zH,zI])
 refine q05 (by simpa only [scA] using c_ref12_many hs hsz.1 hsz.2.1) ?_
 have hll:(levF s).length=s.length:=shp_len (lev_shp s)
 refine LoopP.introS (fun i:Nat=>[(2,.ptr b 0),(4,.sl 1 (lvC (levF s))),(5,.int .i64 (q0y s)),(6,.int .i64 i)])
  (fun i S'=>S'=supd S b (.cells 88 [.int .i64 0,.int .i64 0,.int .i64 0] 3)∧i≤s.length∧(q30 (fun (_:Unit) i k t r=>(cycF s i k t r,())) i (s.drop i) ()).1=q36 s (cycF s)) (fun i=>s.length-i) 0 ⟨rfl,by omega,rfl⟩ rfl ?_
 rintro i _ ⟨rfl,hi,hf⟩ q hq
 have hcl0:(lvC (levF s)).length=s.length:=by simp [lvC,hll]
 (try simp only [rwp,hwR,zA,zB,zC,zD,zE,zF,zG,zH,zI,C52_1])
 (refine q03 (fun hlt=>?_) (fun hlt=>?_)<;>(try simp only [hlc] at hlt))<;>rw [hcl0] at hlt
 ·obtain ⟨t,ht⟩:=q0h hlt
  obtain ⟨l,hl,hlen⟩:=shp_row (lev_shp s) ht
  have htn:=hsz.2.1 t (List.mem_of_getElem? ht)
  have hcl:(lvC (levF s))[i]?=some [.sl 1 (l.map fun x=>[iv x])]:=by rw [lvC,List.getElem?_map,hl];rfl
  rw [q0e ht,q30] at hf
  refine LoopP.introS (fun k:Nat=>[(2,.ptr b 0),(4,.sl 1 (lvC (levF s))),(5,.int .i64 (q0y s)),(6,.int .i64 i),(7,.int .i64 k)])
   (fun k S'=>S'=supd S b (.cells 88 [.int .i64 0,.int .i64 0,.int .i64 0] 3)∧k≤t.rels.length∧q31 (fun (_:Unit) k r=>(cycF s i k t r,())) k (t.rels.drop k) ()=q31 (fun (_:Unit) k r=>(cycF s i k t r,())) 0 t.rels ()) (fun k=>t.rels.length-k) 0 ⟨rfl,by omega,rfl⟩ rfl ?_
  rintro k _ ⟨rfl,hk,hf2⟩ q2 hq2
  have hlm:(l.map fun x=>[iv x]).length=t.rels.length:=by rw [List.length_map,hlen]
  (try simp only [rwp,hwR,zA,zB,zC,zD,zE,zF,zG,zH,zI,C52_2,hcl])
  (refine q03 (fun hlt2=>?_) (fun hlt2=>?_)<;>(try simp only [hlc] at hlt2))<;>(try simp only [List.length_map] at hlt2)<;>rw [hlen] at hlt2
  ·obtain ⟨r,hr⟩:=q0h hlt2
   have hkl:k<l.length:=by omega
   have hgx:getL (levF s) (i,k)=l[k]:=by simp [getL,hl,List.getElem?_eq_getElem hkl]
   have hxk:l[k]?=some l[k]:=List.getElem?_eq_getElem hkl
   rw [q0e hr,q31] at hf2
   (try simp only [rwp,hwR,zA,zB,zC,zD,zE,zF,zG,zH,zI,hcl,hxk,Option.map_some])
   (refine q03 (fun hc=>?_) (fun hc=>?_)<;>(try simp only [hlc] at hc))
   ·have he:cycF s i k t r=11:=by rw [cycF,hgx,if_pos (by omega)]
    rw [he,if_neg (by decide)] at hf2
    rw [← hf2] at hf
    (try simp only [rwp,hwR,zA,zB,zC,zD,zE,zF,zG,zH,zI])
    refine ret _ _ _ ?_
    rw [hck,← hf];rfl
   ·have he:cycF s i k t r=0:=by rw [cycF,hgx,if_neg (by omega)]
    rw [he,if_pos rfl] at hf2
    (simp (disch:=omega) only [q04])
    exact q08 rfl (hq2 (k+1) _ ⟨rfl,by omega,hf2⟩ (by omega))
  ·rw [q0u hlt2,q31] at hf2
   rw [← hf2] at hf
   (simp (disch:=omega) only [q04])
   exact q08 rfl (hq (i+1) _ ⟨rfl,by omega,hf⟩ (by omega))
 ·rw [q0u hlt,q30] at hf
  (try simp only [rwp,hwR,zA,zB,zC,zD,zE,zF,zG,zH,zI])
  refine ret _ _ _ ?_
  rw [hck,← hf];rfl
theorem sum_mem:∀ {l:List Nat} {x:Nat},x∈l→x≤l.sum
 | [],x,h=>by cases h
 | y :: l,x,h=>by
  rw [List.sum_cons]
  rcases List.mem_cons.1 h with rfl | h
  ·omega
  ·have:=sum_mem h;omega
theorem few_N {s:List Ty} {most:Int} (h:fewF s most=true) (hm:most≤1000):OkN s:=by
 have h1:=few_size h
 intro t ht r hr
 have h2:rsz r≤tsz t:=by
  unfold tsz
  exact sum_mem (List.mem_map_of_mem hr)
 have h3:tsz t≤(s.map tsz).sum:=sum_mem (List.mem_map_of_mem ht)
 unfold ssz at h1
 omega
set_option maxRecDepth 4000
structure Ob where
 ty:ByteArray
 id:ByteArray
 deriving DecidableEq
structure Nd where
 o:Ob
 rl:ByteArray
 deriving DecidableEq
structure Tu where
 o:Ob
 rl:ByteArray
 s:Nd
 deriving DecidableEq
def obC (o:Ob):List AV:=[.str o.ty,.str o.id]
def ndC (n:Nd):List AV:=[.str n.o.ty,.str n.o.id,.str n.rl]
def tuC (t:Tu):List AV:=[.str t.o.ty,.str t.o.id,.str t.rl,.str t.s.o.ty,.str t.s.o.id,.str t.s.rl]
structure OkO (o:Ob):Prop where
 ty:o.ty.size≤1125899906842624
 id:o.id.size≤1125899906842624
structure OkD (n:Nd):Prop where
 o:OkO n.o
 rl:n.rl.size≤1125899906842624
structure OkU (t:Tu):Prop where
 o:OkO t.o
 rl:t.rl.size≤1125899906842624
 s:OkD t.s
theorem c_names_great (n:Int):AFun PG nrx201 [.int .u8 n] (.bool (greatN n)):=by
 intro S
 refine wx201 ?_
 unfold Bx201
 (try simp only [rwp,zA,zB,zC,zD,zE,zF,zG,zH,zI])
 exact q02 ⟨rfl,rfl⟩
theorem q8x (s:ByteArray) (c:Int):AFun PG 216 [.str s,.int .u8 c] (.int .i64 (Lib.indexByte s.data.toList c.toNat.toUInt8)):=by
 intro S R w vs hs hv
 obtain ⟨l⟩:=vs
 match l,hv with
 | [],hv=>cases hv.1
 | [_],hv=>cases hv.1
 | _ :: _ :: _ :: _,hv=>cases hv.1
 | [a,b],hv=>
  have h1:RV R w (.str s) a:=hv.head
  have h2:RV R w (.int .u8 c) b:=hv.tail.head
  cases h1
  cases h2
  refine .inr ⟨_,w,?_,R,S,.ret (.int .i64 (Lib.indexByte s.data.toList c.toNat.toUInt8)),.int _ _,⟨rfl,rfl⟩,hs,Step.refl _ _ _⟩
  rw [run_callFunc_extern Go.Proofs.Tryz.func216 (by kernel_rfl) (by kernel_rfl) (by kernel_rfl) (e:=Extern.BytealgIndexByte.indexByte) (by kernel_rfl),Lib.run_indexByteString]
  rfl
theorem c_IndexByte0 (s:ByteArray) (c:Int):AFun PG nrx213 [.str s,.int .u8 c] (.int .i64 (Lib.indexByte s.data.toList c.toNat.toUInt8)):=by
 intro S
 refine wx213 ?_
 unfold Bx213
 refine q05 (q8x s c) ?_
 exact q02 ⟨rfl,rfl⟩
theorem c_IndexByte (s:ByteArray) (c:Int):AFun PG nrx202 [.str s,.int .u8 c] (.int .i64 (Lib.indexByte s.data.toList c.toNat.toUInt8)):=by
 intro S
 refine wx202 ?_
 unfold Bx202
 refine q05 (c_IndexByte0 s c) ?_
 exact q02 ⟨rfl,rfl⟩
def signN (n:Int):Bool:=decide (n=95)||(decide (n=46)||decide (n=45))
theorem sign_idx {b:UInt8}:decide ((0:Int)≤Lib.indexByte [95,46,45] b.toNat.toUInt8)=signN b.toNat:=by
 have key:∀ n:Fin 256,decide ((0:Int)≤Lib.indexByte [95,46,45] n.1.toUInt8)=signN n.1:=by decide +kernel
 exact key ⟨b.toNat,b.toNat_lt⟩
def idN (n:Int):Bool:=q66 n||(greatN n||(digitN n||signN n))
theorem c_names_ID_1 (b:UInt8):AFun PG nrx200 [.int .u8 b.toNat] (.bool (idN b.toNat)):=by
 intro S
 refine wx200 ?_
 unfold Bx200
 refine q05 (q50 b.toNat) ?_
 cases h1:q66 b.toNat
 ·(try simp only [rwp,zA,zB,zC,zD,zE,zF,zG,zH,zI])
  refine q05 (c_names_great b.toNat) ?_
  cases h2:greatN b.toNat
  ·(try simp only [rwp,zA,zB,zC,zD,zE,zF,zG,zH,zI,C200_1])
   refine q05 (q7w b.toNat) ?_
   cases h3:digitN b.toNat
   ·(try simp only [rwp,zA,zB,zC,zD,zE,zF,zG,zH,zI,C200_2])
    refine q05 (c_IndexByte _ _) ?_
    (try simp only [rwp,zA,zB,zC,zD,zE,zF,zG,zH,zI])
    exact q02 ⟨by rw [sign_idx];simp [idN,h1,h2,h3],rfl⟩
   ·(try simp only [rwp,zA,zB,zC,zD,zE,zF,zG,zH,zI,C200_2])
    exact q02 ⟨by simp [idN,h1,h2,h3],rfl⟩
  ·(try simp only [rwp,zA,zB,zC,zD,zE,zF,zG,zH,zI,C200_1,C200_2])
   exact q02 ⟨by simp [idN,h1,h2],rfl⟩
 ·(try simp only [rwp,zA,zB,zC,zD,zE,zF,zG,zH,zI,C200_1,C200_2])
  exact q02 ⟨by simp [idN,h1],rfl⟩
def idB (s:ByteArray):Bool:=allB idN s&&(decide ((0:Int)<s.size)&&decide ((s.size:Int)≤24))
theorem c_names_ID {s:ByteArray} (hs:s.size≤1125899906842624):AFun PG nrx168 [.str s] (.bool (idB s)):=by
 intro S
 refine wx168 ?_
 unfold Bx168
 refine q05 (q9c c_names_ID_1 hs 24) ?_
 exact q02 ⟨rfl,rfl⟩
theorem nb1:∀ a b c d e:Bool,(!(a&&b)&&!c&&!d&&!e)=!((a&&b)||(c||(d||e))):=by decide
theorem nb2:∀ z a b c d e:Bool,(!z&&!(a&&b)&&!c&&!d&&!e)=!(z||((a&&b)||(c||(d||e)))):=by decide
theorem c_ref10_ID {s:ByteArray} (hs:s.size≤1125899906842624):AFun PG nrx79 [.str s] (.bool (idB s)):=by
 intro S
 refine wx79 ?_
 unfold Bx79
 (try simp only [rwp,zA,zB,zC,zD,zE,zF,zG,zH,zI,C79_1])
 (refine q03 (fun h0=>?_) (fun h0=>?_)<;>(try simp only [rwp,zA,zB,zC,zD,zE,zF,zG,zH,zI,h0]))
 ·simp only [Bool.or_eq_true,decide_eq_true_eq] at h0
  refine q02 ⟨?_,rfl⟩
  have:idB s=false:=by
   rcases h0 with h | h
   ·simp only [idB,decide_eq_false (show ¬ (0:Int)<s.size by omega),Bool.false_and,Bool.and_false]
   ·simp only [idB,decide_eq_false (show ¬ (s.size:Int)≤24 by omega),Bool.and_false]
  rw [this]
 ·simp only [Bool.or_eq_false_iff,decide_eq_false_iff_not] at h0
  refine LoopP.intro (fun i:Nat=>[(0,.str s),(3,.int .i64 i)]) (fun _=>S) (fun i=>i≤s.size∧∀ j b,j<i→s[j]?=some b→idN b.toNat=true) (fun i=>s.size-i) 0 ⟨by omega,by omega⟩ rfl (Sub.refl S) ?_
  rintro i ⟨hi,hn⟩ r hr
  (try simp only [rwp,zA,zB,zC,zD,zE,zF,zG,zH,zI,C79_2])
  (refine q03 (fun hlt=>?_) (fun hlt=>?_)<;>(try simp only [hlc] at hlt))
  ·obtain ⟨b,hb⟩:=q51 hlt
   (try simp only [rwp,zA,zB,zC,zD,zE,zF,zG,zH,zI,hb])
   have good:idN b.toNat=true→r [(0,.str s),(3,.int .i64 ((i:Int)+1))] S:=fun h=>by
    refine hr (i+1) ⟨by omega,fun j c hj hc=>?_⟩ (by omega)
    rcases Nat.lt_succ_iff_lt_or_eq.1 hj with h1 | rfl
    ·exact hn j c h1 hc
    ·rw [hb] at hc;cases hc;exact h
   have bad:idN b.toNat=false→idB s=false:=fun h=>by simp only [idB,q8y hb h,Bool.false_and]
   cases a1:(decide (97≤(b.toNat:Int))&&decide ((b.toNat:Int)≤122))<;>cases a2:decide (65≤(b.toNat:Int))<;>(try simp only [rwp,zA,zB,zC,zD,zE,zF,zG,zH,zI,C79_3,C79_4,C79_5,C79_6,C79_7,C79_8,C79_9,C79_10,a1,a2])
   all_goals have key:idN b.toNat=((decide (97≤(b.toNat:Int))&&decide ((b.toNat:Int)≤122))||((decide (65≤(b.toNat:Int))&&decide ((b.toNat:Int)≤90))||((decide (48≤(b.toNat:Int))&&decide ((b.toNat:Int)≤57))||(decide ((b.toNat:Int)=95)||(decide ((b.toNat:Int)=46)||decide ((b.toNat:Int)=45)))))):=rfl
   all_goals rw [a1,a2] at key
   ·simp only [Bool.false_or,Bool.false_and] at key
    (refine q03 (fun h9=>?_) (fun h9=>?_)<;>(try simp only [rwp,zA,zB,zC,zD,zE,zF,zG,zH,zI,h9]))
    ·exact q02 ⟨by rw [bad (key.trans (Eq.mp (Bool.not_eq_true' _) ((nb1 _ _ _ _ _).symm.trans h9)))],rfl⟩
    ·(simp (disch:=omega) only [q04]);exact q08 rfl (good (key.trans (Eq.mp (Bool.not_eq_false' _) ((nb1 _ _ _ _ _).symm.trans h9))))
   ·simp only [Bool.false_or,Bool.true_and] at key
    (refine q03 (fun h9=>?_) (fun h9=>?_)<;>(try simp only [rwp,zA,zB,zC,zD,zE,zF,zG,zH,zI,h9]))
    ·exact q02 ⟨by rw [bad (key.trans (Eq.mp (Bool.not_eq_true' _) ((nb2 _ _ _ _ _ _).symm.trans h9)))],rfl⟩
    ·(simp (disch:=omega) only [q04]);exact q08 rfl (good (key.trans (Eq.mp (Bool.not_eq_false' _) ((nb2 _ _ _ _ _ _).symm.trans h9))))
   ·(simp (disch:=omega) only [q04]);exact q08 rfl (good key)
   ·(simp (disch:=omega) only [q04]);exact q08 rfl (good key)
  ·have hall:allB idN s=true:=allB_iff.2 fun j c hc=>hn j c (by have:=q80 hc;omega) hc
   refine q02 ⟨?_,rfl⟩
   rw [idB,hall,decide_eq_true (show (0:Int)<s.size by omega),decide_eq_true (show (s.size:Int)≤24 by omega)]
   rfl
def obB (o:Ob):Bool:=q0q o.ty&&idB o.id
def tuB (t:Tu):Bool:=obB t.o&&(obB t.s.o&&(q0q t.rl&&(decide (t.s.rl=⟨#[]⟩)||q0q t.s.rl)))
def q4h (o:Ob):ByteArray:=if obB o then o.ty++⟨#[58]⟩++o.id else ⟨#[]⟩
def q4v (n:Nd):ByteArray:=if obB n.o then (if n.rl=⟨#[]⟩ then q4h n.o else if q0q n.rl then q4h n.o++⟨#[35]⟩++n.rl else ⟨#[]⟩) else ⟨#[]⟩
def q9f (t:Tu):ByteArray:=if tuB t then q4h t.o++⟨#[35]⟩++t.rl++⟨#[64]⟩++q4v t.s else ⟨#[]⟩
theorem q47 {a b:ByteArray}:(a++b).size=a.size+b.size:=by simp
theorem app_ne {a b:ByteArray} (h:0<a.size∨0<b.size):¬ a++b=⟨#[]⟩:=fun e=>by
 have:=congrArg ByteArray.size e
 rw [q47] at this
 have:(ByteArray.mk #[]).size=0:=rfl
 omega
theorem q2x {o:Ob} (ho:OkO o):AFun PG nrx124 [.agg (obC o)] (.str (q4h o)):=by
 intro S
 refine wx124 ?_
 unfold Bx124
 (try simp only [rwp,zA,zB,zC,zD,zE,zF,zG,zH,zI,rwb,reduceIte,obC])
 refine q05 (q19 ho.ty) ?_
 have h1:=ho.ty
 have h2:=ho.id
 cases a1:q0q o.ty
 ·(try simp only [rwp,zA,zB,zC,zD,zE,zF,zG,zH,zI,rwb,reduceIte,C124_1])
  exact q02 ⟨by simp [q4h,obB,a1],rfl⟩
 ·(try simp only [rwp,zA,zB,zC,zD,zE,zF,zG,zH,zI,rwb,reduceIte])
  refine q05 (c_names_ID ho.id) ?_
  cases a2:idB o.id
  ·(try simp only [rwp,zA,zB,zC,zD,zE,zF,zG,zH,zI,rwb,reduceIte,C124_1])
   exact q02 ⟨by simp [q4h,obB,a1,a2],rfl⟩
  ·(try simp only [rwp,zA,zB,zC,zD,zE,zF,zG,zH,zI,rwb,reduceIte,C124_1,ByteArray.size_append])
   refine ⟨?_,?_,q02 ⟨by simp [q4h,obB,a1,a2],rfl⟩⟩
   ·have:(ByteArray.mk #[58]).size=1:=rfl
    omega
   ·have:(ByteArray.mk #[58]).size=1:=rfl
    omega
theorem q5v {o:Ob} (ho:OkO o):(q4h o).size≤2251799813685249:=by
 have h1:=ho.ty
 have h2:=ho.id
 unfold q4h
 split
 ·rw [q47,q47]
  have:(ByteArray.mk #[58]).size=1:=rfl
  omega
 ·exact Nat.zero_le _
theorem q5c {o:Ob}:decide (q4h o=⟨#[]⟩)=!obB o:=by
 unfold q4h
 cases h:obB o
 ·rfl
 ·rw [if_pos rfl]
  refine decide_eq_false (app_ne (.inl ?_))
  rw [q47]
  have:(ByteArray.mk #[58]).size=1:=rfl
  omega
theorem q42 {n:Nd} (hn:OkD n):AFun PG nrx125 [.agg (ndC n)] (.str (q4v n)):=by
 intro S
 refine wx125 ?_
 unfold Bx125
 (try simp only [rwp,zA,zB,zC,zD,zE,zF,zG,zH,zI,rwb,reduceIte,ndC])
 have q:=q2x hn.o
 simp only [obC] at q
 have h1:=q5v hn.o
 have h2:=hn.rl
 refine q05 q ?_
 (try simp only [rwp,zA,zB,zC,zD,zE,zF,zG,zH,zI,rwb,reduceIte])
 rw [q5c]
 cases a1:obB n.o
 ·(try simp only [rwp,zA,zB,zC,zD,zE,zF,zG,zH,zI,rwb,reduceIte,C125_1])
  exact q02 ⟨by simp [q4v,q4h,a1],rfl⟩
 ·cases a2:decide (n.rl=⟨#[]⟩)
  ·(try simp only [rwp,zA,zB,zC,zD,zE,zF,zG,zH,zI,rwb,reduceIte,C125_1,a2])
   have a2:=of_decide_eq_false a2
   refine q05 (q19 hn.rl) ?_
   cases a3:q0q n.rl
   ·(try simp only [rwp,zA,zB,zC,zD,zE,zF,zG,zH,zI,rwb,reduceIte])
    exact q02 ⟨by simp [q4v,a1,a2,a3],rfl⟩
   ·(try simp only [rwp,zA,zB,zC,zD,zE,zF,zG,zH,zI,rwb,reduceIte,ByteArray.size_append])
    have:(ByteArray.mk #[35]).size=1:=rfl
    exact ⟨by omega,by omega,q02 ⟨by simp [q4v,a1,a2,a3],rfl⟩⟩
  ·(try simp only [rwp,zA,zB,zC,zD,zE,zF,zG,zH,zI,rwb,reduceIte,C125_1,a2])
   have a2:=of_decide_eq_true a2
   exact q02 ⟨by simp [q4v,a1,a2],rfl⟩
theorem showN_le {n:Nd} (hn:OkD n):(q4v n).size≤4503599627370496:=by
 have h1:=q5v hn.o
 have h2:=hn.rl
 have:(ByteArray.mk #[35]).size=1:=rfl
 unfold q4v
 repeat' split
 ·omega
 ·rw [q47,q47];omega
 ·exact Nat.zero_le _
 ·exact Nat.zero_le _
theorem showN_nil {n:Nd}:decide (q4v n=⟨#[]⟩)=!(obB n.o&&(decide (n.rl=⟨#[]⟩)||q0q n.rl)):=by
 unfold q4v
 cases h1:obB n.o
 ·rfl
 ·rw [if_pos rfl]
  by_cases h2:n.rl=⟨#[]⟩
  ·rw [if_pos h2,q5c,h1,decide_eq_true h2];rfl
  ·rw [if_neg h2,decide_eq_false h2]
   cases h3:q0q n.rl
   ·rfl
   ·rw [if_pos rfl]
    refine decide_eq_false (app_ne (.inl ?_))
    rw [q47]
    have:(ByteArray.mk #[35]).size=1:=rfl
    omega
theorem tuB_eq (t:Tu):tuB t=(obB t.o&&((obB t.s.o&&(decide (t.s.rl=⟨#[]⟩)||q0q t.s.rl))&&q0q t.rl)):=by
 unfold tuB
 cases obB t.o<;>cases obB t.s.o<;>cases q0q t.rl<;>simp
theorem showT_nil {t:Tu}:decide (q9f t=⟨#[]⟩)=!tuB t:=by
 unfold q9f
 cases h1:tuB t
 ·rfl
 ·rw [if_pos rfl]
  refine decide_eq_false (app_ne (.inl ?_))
  rw [q47]
  have:(ByteArray.mk #[64]).size=1:=rfl
  omega
theorem q8w {t:Tu} (ht:OkU t):AFun PG nrx98 [.agg (tuC t)] (.str (q9f t)):=by
 intro S
 refine wx98 ?_
 unfold Bx98
 (try simp only [rwp,zA,zB,zC,zD,zE,zF,zG,zH,zI,rwb,reduceIte,tuC])
 have q1:=q2x ht.o
 have q2:=q42 ht.s
 simp only [obC] at q1
 simp only [ndC] at q2
 have h1:=q5v ht.o
 have h2:=showN_le ht.s
 have h3:=ht.rl
 refine q05 q1 ?_
 (try simp only [rwp,zA,zB,zC,zD,zE,zF,zG,zH,zI,rwb,reduceIte])
 refine q05 q2 ?_
 (try simp only [rwp,zA,zB,zC,zD,zE,zF,zG,zH,zI,rwb,reduceIte])
 have e:=tuB_eq t
 rw [q5c,showN_nil]
 cases a1:obB t.o
 ·(try simp only [rwp,zA,zB,zC,zD,zE,zF,zG,zH,zI,rwb,reduceIte,C98_1,C98_2])
  exact q02 ⟨by simp [q9f,e,a1],rfl⟩
 ·cases a2:(obB t.s.o&&(decide (t.s.rl=⟨#[]⟩)||q0q t.s.rl))
  ·(try simp only [rwp,zA,zB,zC,zD,zE,zF,zG,zH,zI,rwb,reduceIte,C98_1,C98_2])
   exact q02 ⟨by simp only [q9f,e,a1,a2];rfl,rfl⟩
  ·(try simp only [rwp,zA,zB,zC,zD,zE,zF,zG,zH,zI,rwb,reduceIte,C98_1])
   refine q05 (q19 ht.rl) ?_
   cases a3:q0q t.rl
   ·(try simp only [rwp,zA,zB,zC,zD,zE,zF,zG,zH,zI,rwb,reduceIte,C98_2])
    exact q02 ⟨by simp only [q9f,e,a1,a2,a3];rfl,rfl⟩
   ·(try simp only [rwp,zA,zB,zC,zD,zE,zF,zG,zH,zI,rwb,reduceIte,C98_2,ByteArray.size_append])
    have:(ByteArray.mk #[35]).size=1:=rfl
    have:(ByteArray.mk #[64]).size=1:=rfl
    exact ⟨by omega,by omega,by omega,by omega,q02 ⟨by simp only [q9f,e,a1,a2,a3];rfl,rfl⟩⟩
set_option maxRecDepth 4000
section
variable {α:Type} {enc:α→List AV} {xs:List α} {S:q00} {g:Nat} {fi ca:List AV} {p:α→Bool}
theorem q9p (hl:∀ x∈xs,(enc x).length=2) (hb:xs.length≤1125899906842624) (hp:∀ x∈xs,AFunS PG g (fi++[.agg (enc x)]++ca) S (.bool (p x))) :
  AFunS PG nrx127 [.sl 2 (xs.map enc),.func (.func g) fi ca] S (.int .i64 (oi (q0r p xs))):=by
 refine wx127 ?_
 unfold Bx127
 (try simp only [rwp,zA,zB,zC,zD,zE,zF,zG,zH,zI])
 refine LoopP.intro (fun i:Nat=>[(0,.sl 2 (xs.map enc)),(1,.func (.func g) fi ca),(7,.int .i64 xs.length),(8,.int .i64 i)]) (fun _=>S) (fun i=>i≤xs.length∧∀ j x,j<i→xs[j]?=some x→p x=false) (fun i=>xs.length-i) 0 ⟨by omega,by omega⟩ rfl (Sub.refl S) ?_
 rintro i ⟨hi,hn⟩ r hr
 unfold C127_1
 (try simp only [rwp,zA,zB,zC,zD,zE,zF,zG,zH,zI])
 (refine q03 (fun hlt=>?_) (fun hlt=>?_)<;>(try simp only [hlc] at hlt))
 ·obtain ⟨x,hx⟩:=q0h hlt
  (try simp only [rwp,zA,zB,zC,zD,zE,zF,zG,zH,zI,hx])
  rw [tkW_all (hl x (List.mem_of_getElem? hx))]
  refine caW_atv (hp x (List.mem_of_getElem? hx)) ?_
  (refine q03 (fun he=>?_) (fun he=>?_)<;>(try simp only [rwp,zA,zB,zC,zD,zE,zF,zG,zH,zI,he]))
  ·have:q0r p xs=some i:=firstI_some.2 ⟨⟨x,hx,he⟩,hn⟩
   exact q02 ⟨by rw [this];rfl,rfl⟩
  ·(simp (disch:=omega) only [q04])
   refine q08 rfl (hr (i+1) ⟨by omega,fun j u hj hu=>?_⟩ (by omega))
   rcases Nat.lt_succ_iff_lt_or_eq.1 hj with h | rfl
   ·exact hn j u h hu
   ·rw [hx] at hu;cases hu;exact he
 ·have:q0r p xs=none:=firstI_none.2 fun j u hu=>hn j u (by have:=(List.getElem?_eq_some_iff.1 hu).1;omega) hu
  exact q02 ⟨by rw [this];rfl,rfl⟩
theorem q6t (hl:∀ x∈xs,(enc x).length=2) (hb:xs.length≤1125899906842624) (hp:∀ x∈xs,AFunS PG g (fi++[.agg (enc x)]++ca) S (.bool (p x))) :
  AFunS PG nrx80 [.sl 2 (xs.map enc),.func (.func g) fi ca] S (.bool (xs.any p)):=by
 refine wx80 ?_
 unfold Bx80
 refine q1u (q9p hl hb hp) ?_
 (try simp only [rwp,zA,zB,zC,zD,zE,zF,zG,zH,zI])
 exact q02 ⟨by rw [oi_some,q3r],rfl⟩
end
theorem c_Index_Ref {l:List Rf} (hl:l.length≤1125899906842624) (f:Rf):AFun PG nrx145 [.sl 2 (l.map rfC),.agg (rfC f)] (.int .i64 (oi (q0r (fun g=>decide (f.ty=g.ty)&&decide (f.rl=g.rl)) l))):=by
 intro S
 refine wx145 ?_
 unfold Bx145
 (try simp only [rwp,zA,zB,zC,zD,zE,zF,zG,zH,zI,rfC])
 refine LoopP.intro (fun i:Nat=>[(0,.sl 2 (l.map rfC)),(3,.rop [.str f.ty,.str f.rl]),(7,.int .i64 l.length),(8,.int .i64 i)]) (fun _=>S) (fun i=>i≤l.length∧∀ j x,j<i→l[j]?=some x→(decide (f.ty=x.ty)&&decide (f.rl=x.rl))=false) (fun i=>l.length-i) 0 ⟨by omega,by omega⟩ rfl (Sub.refl S) ?_
 rintro i ⟨hi,hn⟩ r hr
 unfold C145_1
 (try simp only [rwp,zA,zB,zC,zD,zE,zF,zG,zH,zI])
 (refine q03 (fun hlt=>?_) (fun hlt=>?_)<;>(try simp only [hlc] at hlt))
 ·obtain ⟨x,hx⟩:=q0h hlt
  (try simp only [rwp,zA,zB,zC,zD,zE,zF,zG,zH,zI,hx,rfC,q6o])
  (refine q03 (fun he=>?_) (fun he=>?_)<;>(try simp only [rwp,zA,zB,zC,zD,zE,zF,zG,zH,zI,he]))
  ·have:q0r (fun g:Rf=>decide (f.ty=g.ty)&&decide (f.rl=g.rl)) l=some i:=firstI_some.2 ⟨⟨x,hx,he⟩,hn⟩
   exact q02 ⟨by rw [this];rfl,rfl⟩
  ·(simp (disch:=omega) only [q04])
   refine q08 rfl (hr (i+1) ⟨by omega,fun j u hj hu=>?_⟩ (by omega))
   rcases Nat.lt_succ_iff_lt_or_eq.1 hj with h | rfl
   ·exact hn j u h hu
   ·rw [hx] at hu;cases hu;exact he
 ·have:q0r (fun g:Rf=>decide (f.ty=g.ty)&&decide (f.rl=g.rl)) l=none:=firstI_none.2 fun j u hu=>hn j u (by have:=(List.getElem?_eq_some_iff.1 hu).1;omega) hu
  exact q02 ⟨by rw [this];rfl,rfl⟩
theorem c_Contains_Ref {l:List Rf} (hl:l.length≤1125899906842624) (f:Rf):AFun PG nrx100 [.sl 2 (l.map rfC),.agg (rfC f)] (.bool (l.any fun g=>decide (f.ty=g.ty)&&decide (f.rl=g.rl))):=by
 intro S
 refine wx100 ?_
 unfold Bx100
 have q:=c_Index_Ref hl f
 simp only [rfC] at q
 (try simp only [rwp,zA,zB,zC,zD,zE,zF,zG,zH,zI,rfC])
 refine q05 q ?_
 (try simp only [rwp,zA,zB,zC,zD,zE,zF,zG,zH,zI])
 exact q02 ⟨by rw [oi_some,q3r],rfl⟩
def q1v (s:List Ty) (t:Tu):Int:=if tuB t then (match q0l s t.o.ty t.rl with
  | none=>6
  | some (_,_,r)=>if (typF s t.s.o.ty).isSome then (if r.refs.any fun f=>decide (t.s.o.ty=f.ty)&&decide (t.s.rl=f.rl) then 0 else 10) else 6) else 1
theorem q8u {u:Ty} {t:Tu}:AFun PG nrx99 [.agg (tyC u),.rop (tuC t)] (.bool (decide (u.name=t.s.o.ty))):=by
 intro S
 refine wx99 ?_
 unfold Bx99
 (try simp only [rwp,zA,zB,zC,zD,zE,zF,zG,zH,zI,tyC,tuC])
 exact q02 ⟨rfl,rfl⟩
theorem typ_any {s:List Ty} {n:ByteArray}:(s.any fun u=>decide (u.name=n))=(typF s n).isSome:=by rw [typF,q3r]
theorem q5o {s:List Ty} (hs:OkS s) {t:Tu} (ht:OkU t):AFun PG nrx49 [scA s,.agg (tuC t)] (.int .i64 (q1v s t)):=by
 intro S
 refine wx49 ?_
 unfold Bx49
 have q:=q8w ht
 simp only [tuC] at q
 (try simp only [rwp,zA,zB,zC,zD,zE,zF,zG,zH,zI,rwb,reduceIte,scA,tuC])
 refine q05 q ?_
 (try simp only [rwp,zA,zB,zC,zD,zE,zF,zG,zH,zI,rwb,reduceIte])
 rw [showT_nil]
 cases a1:tuB t
 ·(try simp only [rwp,zA,zB,zC,zD,zE,zF,zG,zH,zI,rwb,reduceIte])
  exact q02 ⟨by simp [q1v,a1],rfl⟩
 ·(try simp only [rwp,zA,zB,zC,zD,zE,zF,zG,zH,zI,rwb,reduceIte])
  have q2:=q1q hs t.o.ty t.rl
  simp only [scA] at q2
  cases hq:q0l s t.o.ty t.rl with
  | none=>
   refine q0b (q2 S) ?_
   rintro ae S' ⟨rfl,rfl⟩
   rw [hq]
   dsimp only
   (try simp only [rwp,zA,zB,zC,zD,zE,zF,zG,zH,zI,rwb,reduceIte,C49_1,q6w])
   exact q02 ⟨by simp [q1v,a1,hq],rfl⟩
  | some q3=>
   obtain ⟨i,k,r⟩:=q3
   obtain ⟨-,ty,h2,-,h4⟩:=q1h hq
   have hok:=(hs.at h2).at h4
   refine q0b (q2 S) ?_
   rintro ae S' ⟨rfl,rfl⟩
   rw [hq]
   dsimp only
   (try simp only [rwp,zA,zB,zC,zD,zE,zF,zG,zH,zI,rwb,reduceIte,q0i])
   refine q1u (q6t (enc:=tyC) (fi:=[]) (p:=fun u:Ty=>decide (u.name=t.s.o.ty)) (fun x _=>rfl) hs.types fun u _=>q8u (u:=u) (t:=t) S') ?_
   rw [typ_any]
   cases a2:(typF s t.s.o.ty).isSome
   ·(try simp only [rwp,zA,zB,zC,zD,zE,zF,zG,zH,zI,rwb,reduceIte,C49_1])
    exact q02 ⟨by simp only [q1v,a1,hq,a2];rfl,rfl⟩
   ·(try simp only [rwp,zA,zB,zC,zD,zE,zF,zG,zH,zI,rwb,reduceIte,C49_1])
    have q4:=c_Contains_Ref hok.refs ⟨t.s.o.ty,t.s.rl⟩
    simp only [rfC] at q4
    refine q05 q4 ?_
    cases a3:(r.refs.any fun f=>decide (t.s.o.ty=f.ty)&&decide (t.s.rl=f.rl))
    ·(try simp only [rwp,zA,zB,zC,zD,zE,zF,zG,zH,zI,rwb,reduceIte])
     exact q02 ⟨by simp only [q1v,a1,hq,a2,a3];rfl,rfl⟩
    ·(try simp only [rwp,zA,zB,zC,zD,zE,zF,zG,zH,zI,rwb,reduceIte])
     exact q02 ⟨by simp only [q1v,a1,hq,a2,a3];rfl,rfl⟩
theorem q85 {α:Type} {p:α→Bool} {l:List α} {i:Nat} {x:α} (h:l[i]?=some x):(l.take (i+1)).any p=((l.take i).any p||p x):=by
 rw [q0z h,List.any_append];simp
def q0g (s:List Ty) (l:List Tu):List Tu:=l.filter fun t=>decide (q1v s t=0)
def ofF (l:List Tu) (n:Nd):List Tu:=l.filter fun t=>decide (t.o=n.o)&&decide (t.rl=n.rl)
theorem q2g {α:Type} {p:α→Bool} {l:List α} {i:Nat} {x:α} (h:l[i]?=some x):(l.take (i+1)).filter p=(l.take i).filter p++if p x then [x] else []:=by
 rw [q0z h,List.filter_append]
 congr 1
 cases hp:p x<;>simp [hp]
abbrev tyTu:Nat:=41
theorem LstN.tu {S0 S:q00} {v:AV} {l:List Tu} {t:Tu} {K:AV→q00→Prop} (hs:Sub S0 S) (h:LstN S0 S tyTu 6 v (l.map tuC)) (hl:l.length≤1000000) (hK:∀ v' S',Sub S0 S'→LstN S0 S' tyTu 6 v' ((l++[t]).map tuC)→K v' S'):apW S tyTu 6 96 v (.sl 6 [tuC t]) K:=by
 refine LstN.app hs h (fun r hr=>by rw [List.mem_singleton.1 hr];rfl) (q1t fun r hr=>by rw [List.mem_singleton.1 hr];rfl) (by simp only [List.length_map,List.length_singleton];omega) fun v' S' h1 h2 _=>?_
 exact hK v' S' h1 (by simpa using h2)
structure OkL (l:List Tu):Prop where
 n:l.length≤100000
 ok:∀ t∈l,OkU t
def smallF (s:List Ty) (l:List Tu):Bool:=fewF s 60&&decide ((l.length:Int)≤30)
theorem c_law14_Small {s:List Ty} (hs:OkS s) (l:List Tu):AFun PG nrx17 [scA s,.sl 6 (l.map tuC)] (.bool (smallF s l)):=by
 intro S
 refine wx17 ?_
 unfold Bx17
 (try simp only [rwp,zA,zB,zC,zD,zE,zF,zG,zH,zI,rwb,reduceIte,scA])
 refine q05 (by simpa only [scA] using c_law11_Few hs (most:=60) (by decide) (by decide)) ?_
 cases a1:fewF s 60<;>(try simp only [rwp,zA,zB,zC,zD,zE,zF,zG,zH,zI,rwb,reduceIte])<;>exact q02 ⟨by simp [smallF,a1],rfl⟩
def q3m {α σ:Type} (step:σ→α→Option (Bool×σ)):List α→σ→Option (Bool×σ)
 | [],a=>some (false,a)
 | x :: r,a=>match step a x with
  | none=>none
  | some (true,a')=>some (true,a')
  | some (false,a')=>q3m step r a'
structure q23 where
 s:List Ty
 of:Nd→List Nd
 who:Ob
def q8c (who:Ob) (ask:Nd→Nat→Option (Bool×Nat)) (w:Nat) (x:Nd):Option (Bool×Nat):=if x.rl=⟨#[]⟩ then some (decide (x.o=who),w) else ask x w
def q9e (over:ByteArray) (ask:Nd→Nat→Option (Bool×Nat)) (w:Nat) (x:Nd):Option (Bool×Nat):=if x.rl=⟨#[]⟩ then ask ⟨x.o,over⟩ w else some (false,w)
def comb (k:Int) (p:Option (Bool×Nat)) (q:Nat→Option (Bool×Nat)):Option (Bool×Nat):=match p with
 | none=>none
 | some (x,w1)=>if x=decide (k=2) then some (x,w1) else match q w1 with
  | none=>none
  | some (y,w2)=>some (if k=4 then !y else y,w2)
def exQ (E:q23) (ask:Nd→Nat→Option (Bool×Nat)) (o:Ob):Nat→Ex→Nat→Option (Bool×Nat)
 | 0,_,_=>none
 | m+1,.mk k n ov ks,w=>if k=0 then ask ⟨o,n⟩ w else if k=1 then q3m (q9e ov ask) (E.of ⟨o,n⟩) w else match ks with
  | [a,b]=>comb k (exQ E ask o m a w) (exQ E ask o m b)
  | _=>none
def bodyQ (E:q23) (ask:Nd→Nat→Option (Bool×Nat)) (n:Nd) (r:Rl) (w:Nat):Option (Bool×Nat):=
 if r.refs.length=0 then exQ E ask n.o 12 r.ex w else q3m (q8c E.who ask) (E.of n) w
def askQ (E:q23) (B:Int):Nat→List Nd→Nd→Nat→Option (Bool×Nat)
 | 0,P,n,w=>match q0l E.s n.o.ty n.rl with
  | none=>some (false,w)
  | some _=>none
 | f+1,P,n,w=>match q0l E.s n.o.ty n.rl with
  | none=>some (false,w)
  | some (_,_,r)=>if B<(w:Int)+1 then none else if n∈P then some (false,w+1) else bodyQ E (askQ E B f (n :: P)) n r (w+1)
def Bu {α:Type} (b:Int) (f g:α→Nat→Option (Bool×Nat)):Prop:=∀ n w x w',f n w=some (x,w')→w≤w'∧((w:Int)≤b→((w':Int)≤b→g n w=some (x,w'))∧(b<(w':Int)→g n w=none))
section
variable {b:Int} {E:q23} {f g:Nd→Nat→Option (Bool×Nat)}
theorem Bu.fold {α:Type} {s t:Nat→α→Option (Bool×Nat)} (h:Bu b (fun x w=>s w x) (fun x w=>t w x)):Bu b (q3m s) (q3m t):=by
 intro l
 induction l with
 | nil=>
  intro w y w' e
  simp only [q3m,Option.some.injEq,Prod.mk.injEq] at e
  obtain ⟨rfl,rfl⟩:=e
  exact ⟨Nat.le_refl _,fun hw=>⟨fun _=>rfl,fun h=>by omega⟩⟩
 | cons x r ih=>
  intro w y w' e
  unfold q3m at e ⊢
  cases hs:s w x with
  | none=>rw [hs] at e;cases e
  | some q=>
   obtain ⟨z,w1⟩:=q
   rw [hs] at e
   obtain ⟨h1,h2⟩:=h x w z w1 hs
   dsimp only at h2
   cases z with
   | true=>
    simp only [Option.some.injEq,Prod.mk.injEq] at e
    obtain ⟨rfl,rfl⟩:=e
    exact ⟨h1,fun hw=>⟨fun h=>by rw [(h2 hw).1 h],fun h=>by rw [(h2 hw).2 h]⟩⟩
   | false=>
    obtain ⟨k1,k2⟩:=ih w1 y w' e
    refine ⟨by omega,fun hw=>?_⟩
    by_cases h4:(w1:Int)≤b
    ·rw [(h2 hw).1 h4]
     exact k2 h4
    ·rw [(h2 hw).2 (by omega)]
     exact ⟨fun h=>by omega,fun _=>rfl⟩
theorem Bu.told {who:Ob} (h:Bu b f g):Bu b (fun x w=>q8c who f w x) (fun x w=>q8c who g w x):=by
 intro x w y w' e
 dsimp only at e ⊢
 unfold q8c at e ⊢
 split at e
 ·rename_i h0
  simp only [if_pos h0]
  simp only [Option.some.injEq,Prod.mk.injEq] at e
  obtain ⟨rfl,rfl⟩:=e
  exact ⟨Nat.le_refl _,fun hw=>⟨fun _=>rfl,fun h=>by omega⟩⟩
 ·rename_i h0
  simp only [if_neg h0]
  exact h x w y w' e
theorem Bu.arr {over:ByteArray} (h:Bu b f g):Bu b (fun x w=>q9e over f w x) (fun x w=>q9e over g w x):=by
 intro x w y w' e
 dsimp only at e ⊢
 unfold q9e at e ⊢
 split at e
 ·rename_i h0
  simp only [if_pos h0]
  exact h _ w y w' e
 ·rename_i h0
  simp only [if_neg h0]
  simp only [Option.some.injEq,Prod.mk.injEq] at e
  obtain ⟨rfl,rfl⟩:=e
  exact ⟨Nat.le_refl _,fun hw=>⟨fun _=>rfl,fun h=>by omega⟩⟩
theorem Bu.ex (h:Bu b f g) (o:Ob):∀ m,Bu b (exQ E f o m) (exQ E g o m)
 | 0=>fun e w y w' h=>by cases h
 | m+1=>by
  have ih:=Bu.ex h o m
  rintro ⟨k,n,ov,ks⟩ w y w' e
  unfold exQ at e ⊢
  split at e
  ·rename_i h0
   simp only [if_pos h0]
   exact h _ w y w' e
  ·rename_i h0
   simp only [if_neg h0]
   split at e
   ·rename_i h1
    simp only [if_pos h1]
    exact Bu.fold (Bu.arr h) _ w y w' e
   ·rename_i h1
    simp only [if_neg h1]
    match ks,e with
    | [x1,x2],e=>
     dsimp only at e ⊢
     unfold comb at e ⊢
     cases hs:exQ E f o m x1 w with
     | none=>rw [hs] at e;cases e
     | some q=>
      obtain ⟨z,w1⟩:=q
      rw [hs] at e
      obtain ⟨k1,k2⟩:=ih x1 w z w1 hs
      dsimp only at e
      split at e
      ·rename_i h2
       simp only [Option.some.injEq,Prod.mk.injEq] at e
       obtain ⟨rfl,rfl⟩:=e
       exact ⟨k1,fun hw=>⟨fun h=>by rw [(k2 hw).1 h];dsimp only;rw [if_pos h2],fun h=>by rw [(k2 hw).2 h]⟩⟩
      ·rename_i h2
       cases hs2:exQ E f o m x2 w1 with
       | none=>rw [hs2] at e;cases e
       | some q2=>
        obtain ⟨z2,w2⟩:=q2
        rw [hs2] at e
        simp only [Option.some.injEq,Prod.mk.injEq] at e
        obtain ⟨e1,rfl⟩:=e
        obtain ⟨k3,k4⟩:=ih x2 w1 z2 w2 hs2
        refine ⟨by omega,fun hw=>?_⟩
        by_cases h4:(w1:Int)≤b
        ·rw [(k2 hw).1 h4]
         dsimp only
         rw [if_neg h2]
         exact ⟨fun h=>by rw [(k4 h4).1 h,← e1],fun h=>by rw [(k4 h4).2 h]⟩
        ·rw [(k2 hw).2 (by omega)]
         exact ⟨fun h=>by omega,fun _=>rfl⟩
    | [],e=>cases e
    | [_],e=>cases e
    | _ :: _ :: _ :: _,e=>cases e
theorem Bu.body (h:Bu b f g) (n:Nd) (r:Rl):Bu b (fun (_:Unit) w=>bodyQ E f n r w) (fun _ w=>bodyQ E g n r w):=by
 intro _ w y w' e
 dsimp only at e ⊢
 unfold bodyQ at e ⊢
 split at e
 ·rename_i h0
  simp only [if_pos h0]
  exact Bu.ex h _ _ _ w y w' e
 ·rename_i h0
  simp only [if_neg h0]
  exact Bu.fold (Bu.told h) _ w y w' e
theorem ask_bu {B:Int}:∀ (fu:Nat) (P:List Nd),Bu b (askQ E B fu P) (askQ E b fu P)
 | 0,P=>by
  intro n w y w' e
  unfold askQ at e ⊢
  split at e
  ·rename_i h0
   try simp only [h0]
   simp only [Option.some.injEq,Prod.mk.injEq] at e
   obtain ⟨rfl,rfl⟩:=e
   exact ⟨Nat.le_refl _,fun hw=>⟨fun _=>rfl,fun h=>by omega⟩⟩
  ·cases e
 | fu+1,P=>by
  intro n w y w' e
  unfold askQ at e ⊢
  split at e
  ·rename_i h0
   try simp only [h0]
   simp only [Option.some.injEq,Prod.mk.injEq] at e
   obtain ⟨rfl,rfl⟩:=e
   exact ⟨Nat.le_refl _,fun hw=>⟨fun _=>rfl,fun h=>by omega⟩⟩
  ·rename_i i k r h0
   try simp only [h0]
   split at e
   ·cases e
   ·split at e
    ·rename_i h2
     simp only [Option.some.injEq,Prod.mk.injEq] at e
     obtain ⟨rfl,rfl⟩:=e
     refine ⟨by omega,fun hw=>⟨fun h=>?_,fun h=>?_⟩⟩
     ·rw [if_neg (by omega),if_pos h2]
     ·rw [if_pos (by omega)]
    ·rename_i h2
     obtain ⟨k1,k2⟩:=Bu.body (ask_bu fu (n :: P)) n r () (w+1) y w' e
     refine ⟨by omega,fun hw=>?_⟩
     by_cases h3:b<(w:Int)+1
     ·rw [if_pos h3]
      exact ⟨fun h=>by omega,fun _=>rfl⟩
     ·rw [if_neg h3,if_neg h2]
      exact k2 (by omega)
theorem ask_work {B:Int} {fu:Nat} {n:Nd} {y:Bool} {w':Nat} (hn:(q0l E.s n.o.ty n.rl).isSome=true) (h:askQ E B (fu+1) [] n 0=some (y,w')):1≤w'∧(w':Int)≤B:=by
 have key:∀ (fu:Nat) (P:List Nd) n w y w',askQ E B fu P n w=some (y,w')→(w:Int)≤B→(w':Int)≤B:=by
  intro fu P n w y w' h hw
  rcases Int.lt_or_le B (w':Int) with h1 | h1
  ·have:=((ask_bu (b:=B) fu P n w y w' h).2 hw).2 h1
   rw [h] at this
   cases this
  ·exact h1
 unfold askQ at h
 split at h
 ·rename_i h0;rw [h0] at hn;cases hn
 ·rename_i i k r h0
  split at h
  ·cases h
  ·rename_i h1
   simp only [List.not_mem_nil,if_false] at h
   have h2:=(Bu.body (b:=B) (ask_bu fu [n]) n r () 1 y w' h).1
   refine ⟨h2,?_⟩
   rcases Int.lt_or_le B (w':Int) with h3 | h3
   ·have:=((Bu.body (b:=B) (ask_bu fu [n]) n r () 1 y w' h).2 (by omega)).2 h3
    dsimp only at this
    rw [h] at this
    cases this
   ·exact h3
end
def chk15 (E:q23) (B:Int) (n:Nd):AV:=
 if B<0∨100000<B∨errA (chkF E.s)≠0 then .tup [.bool false,.int .i64 0,.int .i64 1]
 else if q0l E.s n.o.ty n.rl=none then .tup [.bool false,.int .i64 0,.int .i64 6]
 else match askQ E B 50 [] n 0 with
  | none=>.tup [.bool false,.int .i64 0,.int .i64 12]
  | some (b,w)=>.tup [.bool b,.int .i64 w,.int .i64 0]
def envE (s:List Ty) (l:List Tu) (who:Ob):q23:=⟨s,fun n=>(ofF (q0g s l) n).map Tu.s,who⟩
theorem sc_may {s:List Ty} (h:scB s=true):∀ t∈s,∀ r∈t.rels,r.refs.length=0→mayE 12 r.ex=true:=by
 intro t ht r hr h0
 have h1:=List.all_eq_true.1 h t ht
 simp only [typB,Bool.and_eq_true] at h1
 have h2:=List.all_eq_true.1 h1.2 r hr
 simp only [relB,Bool.and_eq_true,Bool.or_eq_true] at h2
 rcases h2.2.2 with h3 | h3
 ·rw [List.length_eq_zero_iff.1 h0] at h3;cases h3
 ·exact h3
theorem q4n {s:List Ty} {l:List Tu} (h:OkL l):OkL (q0g s l):=⟨Nat.le_trans (List.length_filter_le _ _) h.n,fun t ht=>h.ok t (List.mem_filter.1 ht).1⟩
theorem nd_len {α:Type} [DecidableEq α]:∀ {L C:List α},L.Nodup→(∀ x∈L,x∈C)→L.length≤C.length
 | [],C,_,_=>Nat.zero_le _
 | x :: r,C,h,hs=>by
  rw [List.nodup_cons] at h
  have hx:=hs x (by simp)
  have:=nd_len (L:=r) (C:=C.erase x) h.2 fun y hy=>(List.mem_erase_of_ne (by rintro rfl;exact h.1 hy)).2 (hs y (List.mem_cons_of_mem _ hy))
  rw [List.length_erase_of_mem hx] at this
  have hpos:=List.length_pos_of_mem hx
  simp only [List.length_cons]
  omega
section
variable {α:Type}
def vl (n:Nat) (v:Nat→α):List α:=(List.range n).map v
theorem q29 {n:Nat} {v:Nat→α}:(vl n v).length=n:=by simp [vl]
theorem vl_get {n:Nat} {v:Nat→α} {i:Nat} (h:i<n):(vl n v)[i]?=some (v i):=by simp [vl,h]
theorem vl_of (xs:List α) (d:α):vl xs.length (fun i=>xs.getD i d)=xs:=by
 apply List.ext_getElem?
 intro i
 by_cases h:i<xs.length
 ·rw [vl_get h];simp [h]
 ·rw [List.getElem?_eq_none_iff.2 (by rw [q29];omega),List.getElem?_eq_none_iff.2 (by omega)]
structure Rng (n a b:Nat) (v w:Nat→α):Prop where
 perm:(vl n v).Perm (vl n w)
 out:∀ i,i<a∨b≤i→w i=v i
def sw (v:Nat→α) (i j:Nat):Nat→α:=fun k=>if k=j then v i else if k=i then v j else v k
theorem sw_i {v:Nat→α} {i j:Nat}:sw v i j i=v j:=by
 unfold sw
 by_cases h:i=j
 ·rw [if_pos h,h]
 ·rw [if_neg h,if_pos rfl]
theorem sw_j {v:Nat→α} {i j:Nat}:sw v i j j=v i:=if_pos rfl
theorem sw_o {v:Nat→α} {i j k:Nat} (h1:k≠i) (h2:k≠j):sw v i j k=v k:=by unfold sw;rw [if_neg h2,if_neg h1]
theorem vl_set {n:Nat} {v:Nat→α} {i:Nat} {x:α}:(vl n v).set i x=vl n fun k=>if k=i then x else v k:=by
 apply List.ext_getElem?
 intro k
 rw [List.getElem?_set]
 by_cases h:k<n
 ·rw [vl_get h,vl_get h,q29]
  by_cases e:i=k
  ·subst e;simp [h]
  ·rw [if_neg e,if_neg (Ne.symm e)]
 ·rw [List.getElem?_eq_none_iff.2 (by rw [q29];omega),List.getElem?_eq_none_iff.2 (by rw [q29];omega),q29]
  split
  ·rw [if_neg (by omega)]
  ·rfl
theorem Rng.refl (n a b:Nat) (v:Nat→α):Rng n a b v v:=⟨List.Perm.refl _,fun _ _=>rfl⟩
theorem Rng.trans {n a b:Nat} {u v w:Nat→α} (h:Rng n a b u v) (k:Rng n a b v w):Rng n a b u w:=⟨h.perm.trans k.perm,fun i hi=>(k.out i hi).trans (h.out i hi)⟩
theorem Rng.mono {n a b a' b':Nat} {v w:Nat→α} (h:Rng n a b v w) (ha:a'≤a) (hb:b≤b'):Rng n a' b' v w:=⟨h.perm,fun i hi=>h.out i (by omega)⟩
theorem Rng.sw {n a b i j:Nat} {v:Nat→α} (hi:a≤i) (hi':i<b) (hj:a≤j) (hj':j<b) (hb:b≤n):Rng n a b v (sw v i j):=by
 refine ⟨?_,fun k hk=>sw_o (by omega) (by omega)⟩
 have h:=@List.set_set_perm _ (vl n v) i j (by rw [q29];omega) (by rw [q29];omega)
 have e1:(vl n v)[i]'(by rw [q29];omega)=v i:=by
  have:=vl_get (v:=v) (show i<n by omega)
  rw [List.getElem?_eq_getElem (by rw [q29];omega)] at this
  exact Option.some.inj this
 have e2:(vl n v)[j]'(by rw [q29];omega)=v j:=by
  have:=vl_get (v:=v) (show j<n by omega)
  rw [List.getElem?_eq_getElem (by rw [q29];omega)] at this
  exact Option.some.inj this
 rw [e1,e2,vl_set,vl_set] at h
 exact h.symm
theorem Rng.mem {n a b:Nat} {v w:Nat→α} (h:Rng n a b v w) (hb:b≤n) {i:Nat} (h1:a≤i) (h2:i<b):∃ j,a≤j∧j<b∧w i=v j:=by
 have e:∀ u:Nat→α,vl n u=(List.range' 0 a).map u++((List.range' a (b-a)).map u++(List.range' b (n-b)).map u):=by
  intro u
  rw [← List.map_append,← List.map_append]
  unfold vl
  congr 1
  rw [List.range_eq_range']
  have r2:List.range' a (b-a)++List.range' b (n-b)=List.range' a (n-a):=by
   have:=List.range'_append (s:=a) (m:=b-a) (n:=n-b) (step:=1)
   rw [show a+1 * (b-a)=b by omega,show (b-a)+(n-b)=n-a by omega] at this
   exact this
  have r1:List.range' 0 a++List.range' a (n-a)=List.range' 0 n:=by
   have:=List.range'_append (s:=0) (m:=a) (n:=n-a) (step:=1)
   rw [show 0+1 * a=a by omega,show a+(n-a)=n by omega] at this
   exact this
  rw [r2,r1]
 have hp:=h.perm
 rw [e v,e w] at hp
 have c1:(List.range' 0 a).map w=(List.range' 0 a).map v:=List.map_congr_left fun k hk=>h.out k (.inl (by simp at hk;omega))
 have c2:(List.range' b (n-b)).map w=(List.range' b (n-b)).map v:=List.map_congr_left fun k hk=>h.out k (.inr (by simp at hk;omega))
 rw [c1,c2,List.perm_append_left_iff,List.perm_append_right_iff] at hp
 have hm:w i∈(List.range' a (b-a)).map w:=List.mem_map.2 ⟨i,by simp;omega,rfl⟩
 obtain ⟨j,hj,e⟩:=List.mem_map.1 (hp.mem_iff.2 hm)
 simp at hj
 exact ⟨j,by omega,by omega,e.symm⟩
structure LtOk (lt:α→α→Bool):Prop where
 asy:∀ x y,lt x y=true→lt y x=false
 tr:∀ x y z,lt y x=false→lt z y=false→lt z x=false
variable {lt:α→α→Bool}
def Le (lt:α→α→Bool) (x y:α):Prop:=lt y x=false
theorem Le.refl (h:LtOk lt) (x:α):Le lt x x:=by
 unfold Le
 cases e:lt x x with
 | false=>rfl
 | true=>have:=h.asy x x e;rw [e] at this;exact this
theorem Le.trans (h:LtOk lt) {x y z:α} (h1:Le lt x y) (h2:Le lt y z):Le lt x z:=h.tr x y z h1 h2
theorem Le.of_lt (h:LtOk lt) {x y:α} (h1:lt x y=true):Le lt x y:=h.asy x y h1
def Srt (lt:α→α→Bool) (a b:Nat) (v:Nat→α):Prop:=∀ p q,a≤p→p<q→q<b→Le lt (v p) (v q)
theorem Srt.one {a b:Nat} {v:Nat→α} (h:b≤a+1):Srt lt a b v:=fun p q h1 h2 h3=>by omega
theorem Srt.snoc (h:LtOk lt) {a b:Nat} {v:Nat→α} (hs:Srt lt a b v) (hab:a<b) (hl:Le lt (v (b-1)) (v b)):Srt lt a (b+1) v:=by
 intro p q h1 h2 h3
 by_cases hq:q=b
 ·subst hq
  by_cases hp:p=q-1
  ·rw [hp];exact hl
  ·exact (hs p (q-1) h1 (by omega) (by omega)).trans h hl
 ·exact hs p q h1 h2 (by omega)
theorem Srt.same {a b:Nat} {v w:Nat→α} (hs:Srt lt a b v) (e:∀ i,a≤i→i<b→w i=v i):Srt lt a b w:=fun p q h1 h2 h3=>by rw [e p h1 (by omega),e q (by omega) h3];exact hs p q h1 h2 h3
structure InsI (lt:α→α→Bool) (a i j:Nat) (v:Nat→α):Prop where
 lo:a≤j
 hi:j≤i
 s:∀ p q,a≤p→p<q→q≤i→q≠j→Le lt (v p) (v q)
theorem InsI.start {a i:Nat} {v:Nat→α} (hs:Srt lt a i v) (h:a≤i):InsI lt a i i v:=⟨h,Nat.le_refl _,fun p q h1 h2 h3 h4=>hs p q h1 h2 (by omega)⟩
theorem InsI.stop (h:LtOk lt) {a i j:Nat} {v:Nat→α} (hs:InsI lt a i j v) (hj:j=a∨Le lt (v (j-1)) (v j)):Srt lt a (i+1) v:=by
 intro p q h1 h2 h3
 by_cases hq:q=j
 ·rcases hj with hj | hj
  ·omega
  ·subst hq
   by_cases hp:p=q-1
   ·rw [hp];exact hj
   ·exact (hs.s p (q-1) h1 (by omega) (by have:=hs.hi;omega) (by omega)).trans h hj
 ·exact hs.s p q h1 h2 (by omega) hq
theorem InsI.step (h:LtOk lt) {a i j:Nat} {v:Nat→α} (hs:InsI lt a i j v) (hj:a<j) (hl:lt (v j) (v (j-1))=true):InsI lt a i (j-1) (sw v j (j-1)):=by
 have h0:=hs.hi
 refine ⟨by omega,by omega,fun p q h1 h2 h3 h4=>?_⟩
 by_cases hq:q=j
 ·subst hq
  rw [sw_i]
  by_cases hp:p=q-1
  ·subst hp
   rw [sw_j]
   exact Le.of_lt h hl
  ·rw [sw_o (by omega) hp]
   exact hs.s p (q-1) h1 (by omega) (by omega) (by omega)
 ·rw [sw_o hq h4 (v:=v)]
  by_cases hp:p=j-1
  ·subst hp
   rw [sw_j]
   exact hs.s j q (by omega) (by omega) h3 hq
  ·by_cases hp2:p=j
   ·subst hp2
    rw [sw_i]
    exact hs.s (p-1) q (by omega) (by omega) h3 hq
   ·rw [sw_o hp2 hp]
    exact hs.s p q h1 h2 h3 hq
def Hp (lt:α→α→Bool) (f lo hi:Nat) (v:Nat→α):Prop:=∀ p c,lo≤p→(c=2 * p+1∨c=2 * p+2)→c<hi→Le lt (v (f+c)) (v (f+p))
structure Sif (lt:α→α→Bool) (f lo hi r:Nat) (v:Nat→α):Prop where
 lr:lo≤r
 pp:∀ p c,lo≤p→p≠r→(c=2 * p+1∨c=2 * p+2)→c<hi→Le lt (v (f+c)) (v (f+p))
 gg:∀ q c,lo≤q→(r=2 * q+1∨r=2 * q+2)→(c=2 * r+1∨c=2 * r+2)→c<hi→Le lt (v (f+c)) (v (f+q))
theorem Sif.start {f lo hi:Nat} {v:Nat→α} (h:Hp lt f (lo+1) hi v):Sif lt f lo hi lo v:=⟨Nat.le_refl _,fun p c h1 h2 h3 h4=>h p c (by omega) h3 h4,fun q c h1 h2=>by omega⟩
theorem Sif.stop0 {f lo hi r:Nat} {v:Nat→α} (h:Sif lt f lo hi r v) (hr:hi≤2 * r+1):Hp lt f lo hi v:=fun p c h1 h2 h3=>by
 by_cases hp:p=r
 ·omega
 ·exact h.pp p c h1 hp h2 h3
structure Best (lt:α→α→Bool) (f hi r ch:Nat) (v:Nat→α):Prop where
 cc:ch=2 * r+1∨ch=2 * r+2
 cl:ch<hi
 mm:∀ c,(c=2 * r+1∨c=2 * r+2)→c<hi→Le lt (v (f+c)) (v (f+ch))
theorem Sif.stop (h0:LtOk lt) {f lo hi r ch:Nat} {v:Nat→α} (h:Sif lt f lo hi r v) (hb:Best lt f hi r ch v) (hl:Le lt (v (f+ch)) (v (f+r))):Hp lt f lo hi v:=fun p c h1 h2 h3=>by
 by_cases hp:p=r
 ·subst hp
  exact (hb.mm c h2 h3).trans h0 hl
 ·exact h.pp p c h1 hp h2 h3
theorem Sif.step (h0:LtOk lt) {f lo hi r ch:Nat} {v:Nat→α} (h:Sif lt f lo hi r v) (hb:Best lt f hi r ch v) (hl:lt (v (f+r)) (v (f+ch))=true):Sif lt f lo hi ch (sw v (f+r) (f+ch)):=by
 have h1:=h.lr
 have h2:=hb.cc
 have h3:=hb.cl
 refine ⟨by omega,fun p c a1 a2 a3 a4=>?_,fun q c a1 a2 a3 a4=>?_⟩
 ·by_cases hp:p=r
  ·subst hp
   rw [sw_i]
   by_cases hc:c=ch
   ·subst hc
    rw [sw_j]
    exact Le.of_lt h0 hl
   ·rw [sw_o (by omega) (by omega)]
    exact hb.mm c a3 a4
  ·rw [sw_o (k:=f+p) (by omega) (by omega)]
   by_cases hc:c=r
   ·subst hc
    rw [sw_i]
    exact h.gg p ch a1 a3 h2 h3
   ·rw [sw_o (by omega) (by omega)]
    exact h.pp p c a1 hp a3 a4
 ·have hq:q=r:=by omega
  subst hq
  rw [sw_i,sw_o (by omega) (by omega)]
  exact h.pp ch c (by omega) (by omega) a3 a4
theorem Hp.max (h0:LtOk lt) {f hi:Nat} {v:Nat→α} (h:Hp lt f 0 hi v):∀ i,i<hi→Le lt (v (f+i)) (v f):=by
 intro i
 induction i using Nat.strongRecOn with
 | ind i ih=>
  intro hi'
  by_cases e:i=0
  ·subst e;exact Le.refl h0 _
  ·exact (h ((i-1) / 2) i (Nat.zero_le _) (by omega) hi').trans h0 (ih ((i-1) / 2) (by omega) (by omega))
structure Pop (lt:α→α→Bool) (f m hi:Nat) (v:Nat→α):Prop where
 h:Hp lt f 0 m v
 s:Srt lt (f+m) (f+hi) v
 u:∀ i j,i<m→m≤j→j<hi→Le lt (v (f+i)) (v (f+j))
theorem Pop.pre {f i hi:Nat} {v:Nat→α} (h:Pop lt f (i+1) hi v):Hp lt f 1 i (sw v f (f+i)):=fun p c h1 h2 h3=>by
 rw [sw_o (by omega) (by omega),sw_o (by omega) (by omega)]
 exact h.h p c (Nat.zero_le _) h2 (by omega)
theorem Pop.step (h0:LtOk lt) {n f i hi:Nat} {v w:Nat→α} (hi':i<hi) (hn:f+hi≤n) (h:Pop lt f (i+1) hi v) (hr:Rng n f (f+i) (sw v f (f+i)) w) (hw:Hp lt f 0 i w):Pop lt f i hi w:=by
 have hmax:=h.h.max h0
 have wi:w (f+i)=v f:=by rw [hr.out _ (.inr (Nat.le_refl _)),sw_j]
 have wo:∀ j,i<j→w (f+j)=v (f+j):=fun j hj=>by rw [hr.out _ (.inr (by omega)),sw_o (by omega) (by omega)]
 have wl:∀ k,k<i→∃ m,m≤i∧w (f+k)=v (f+m):=by
  intro k hk
  obtain ⟨j,j1,j2,j3⟩:=hr.mem (by omega) (i:=f+k) (by omega) (by omega)
  rw [j3]
  by_cases e:j=f
  ·subst e;exact ⟨i,Nat.le_refl _,sw_i⟩
  ·exact ⟨j-f,by omega,by rw [sw_o e (by omega)];congr 1;omega⟩
 refine ⟨hw,fun p q h1 h2 h3=>?_,fun k j h1 h2 h3=>?_⟩
 ·have ep:p=f+(p-f):=by omega
  have eq:q=f+(q-f):=by omega
  rw [eq,wo _ (by omega)]
  by_cases hp:p=f+i
  ·rw [hp,wi]
   exact h.u 0 (q-f) (by omega) (by omega) (by omega)
  ·rw [ep,wo _ (by omega)]
   exact h.s _ _ (by omega) (by omega) (by omega)
 ·obtain ⟨m,m1,m2⟩:=wl k h1
  rw [m2]
  by_cases e:j=i
  ·subst e
   rw [wi]
   exact hmax m (by omega)
  ·rw [wo j (by omega)]
   exact h.u m j (by omega) (by omega) h3
structure Par (lt:α→α→Bool) (a b i j:Nat) (v:Nat→α):Prop where
 i1:a<i
 j1:j<b
 ij:i≤j+1
 l:∀ k,a<k→k<i→lt (v k) (v a)=true
 r:∀ k,j<k→k<b→Le lt (v a) (v k)
theorem Par.swap {a b i j:Nat} {v:Nat→α} (h:Par lt a b i j v) (hij:i≤j) (h1:Le lt (v a) (v i)) (h2:lt (v j) (v a)=true):Par lt a b (i+1) (j-1) (sw v i j)∧i<j:=by
 have hi:=h.i1
 have hne:i≠j:=by rintro rfl;unfold Le at h1;rw [h1] at h2;cases h2
 have ea:sw v i j a=v a:=sw_o (by omega) (by omega)
 refine ⟨⟨by omega,by have:=h.j1;omega,by omega,fun k k1 k2=>?_,fun k k1 k2=>?_⟩,by omega⟩
 ·rw [ea]
  by_cases e:k=i
  ·subst e;rw [sw_i];exact h2
  ·rw [sw_o e (by omega)];exact h.l k k1 (by omega)
 ·rw [ea]
  by_cases e:k=j
  ·subst e;rw [sw_j];exact h1
  ·rw [sw_o (by omega) e];exact h.r k (by omega) k2
structure Cut (lt:α→α→Bool) (a b m:Nat) (v:Nat→α):Prop where
 ca:a≤m
 cb:m<b
 l:∀ k,a≤k→k<m→Le lt (v k) (v m)
 r:∀ k,m<k→k<b→Le lt (v m) (v k)
theorem Par.cut (h0:LtOk lt) {a b i j:Nat} {v:Nat→α} (h:Par lt a b i j v) (hij:j<i):Cut lt a b j (sw v j a):=by
 have h1:=h.i1
 have h2:=h.ij
 have h3:=h.j1
 have ej:sw v j a j=v a:=sw_i
 refine ⟨by omega,h3,fun k k1 k2=>?_,fun k k1 k2=>?_⟩
 ·rw [ej]
  by_cases e:k=a
  ·subst e
   rw [sw_j]
   exact Le.of_lt h0 (h.l j k2 hij)
  ·rw [sw_o (by omega) e]
   exact Le.of_lt h0 (h.l k (by omega) (by omega))
 ·rw [ej,sw_o (by omega) (by omega)]
  exact h.r k k1 k2
structure ParE (lt:α→α→Bool) (a b i j:Nat) (v:Nat→α):Prop where
 i1:a<i
 j1:j<b
 ij:i≤j+1
 l:∀ k,a<k→k<i→Le lt (v k) (v a)
 r:∀ k,j<k→k<b→lt (v a) (v k)=true
theorem ParE.swap {a b i j:Nat} {v:Nat→α} (h:ParE lt a b i j v) (hij:i≤j) (h1:lt (v a) (v i)=true) (h2:Le lt (v j) (v a)):ParE lt a b (i+1) (j-1) (sw v i j)∧i<j:=by
 have hi:=h.i1
 have hne:i≠j:=by rintro rfl;unfold Le at h2;rw [h2] at h1;cases h1
 have ea:sw v i j a=v a:=sw_o (by omega) (by omega)
 refine ⟨⟨by omega,by have:=h.j1;omega,by omega,fun k k1 k2=>?_,fun k k1 k2=>?_⟩,by omega⟩
 ·rw [ea]
  by_cases e:k=i
  ·subst e;rw [sw_i];exact h2
  ·rw [sw_o e (by omega)];exact h.l k k1 (by omega)
 ·rw [ea]
  by_cases e:k=j
  ·subst e;rw [sw_j];exact h1
  ·rw [sw_o (by omega) e];exact h.r k (by omega) k2
structure Pdq (lt:α→α→Bool) (A B a b:Nat) (v:Nat→α):Prop where
 pa:A≤a
 ab:a≤b
 pb:b≤B
 l:Srt lt A a v
 r:Srt lt b B v
 lm:∀ i j,A≤i→i<a→a≤j→j<B→Le lt (v i) (v j)
 mr:∀ i j,A≤i→i<b→b≤j→j<B→Le lt (v i) (v j)
theorem Pdq.start {A B:Nat} {v:Nat→α} (h:A≤B):Pdq lt A B A B v:=⟨Nat.le_refl _,h,Nat.le_refl _,Srt.one (by omega),Srt.one (by omega),fun i j h1 h2=>by omega,fun i j h1 h2 h3 h4=>by omega⟩
theorem Pdq.rng {n A B a b:Nat} {v w:Nat→α} (h:Pdq lt A B a b v) (hn:B≤n) (hr:Rng n a b v w):Pdq lt A B a b w:=by
 have h1:=h.pa
 have h2:=h.ab
 have h3:=h.pb
 have lo:∀ i,i<a→w i=v i:=fun i hi=>hr.out i (.inl hi)
 have hi:∀ i,b≤i→w i=v i:=fun i hi=>hr.out i (.inr hi)
 refine ⟨h1,h2,h3,h.l.same fun i _ hi=>lo i hi,h.r.same fun i hi' _=>hi i hi',fun i j a1 a2 a3 a4=>?_,fun i j a1 a2 a3 a4=>?_⟩
 ·rw [lo i a2]
  by_cases e:j<b
  ·obtain ⟨k,k1,k2,k3⟩:=hr.mem (by omega) a3 e
   rw [k3]
   exact h.lm i k a1 a2 k1 (by omega)
  ·rw [hi j (by omega)]
   exact h.lm i j a1 a2 a3 a4
 ·rw [hi j a3]
  by_cases e:a≤i
  ·obtain ⟨k,k1,k2,k3⟩:=hr.mem (by omega) e a2
   rw [k3]
   exact h.mr k j (by omega) k2 a3 a4
  ·rw [lo i (by omega)]
   exact h.mr i j a1 a2 a3 a4
theorem Pdq.done (h0:LtOk lt) {A B a b:Nat} {v:Nat→α} (h:Pdq lt A B a b v) (hs:Srt lt a b v):Srt lt A B v:=by
 have h1:=h.ab
 intro p q a1 a2 a3
 by_cases e1:q<a
 ·exact h.l p q a1 a2 e1
 ·by_cases e2:p<a
  ·exact h.lm p q a1 e2 (by omega) a3
  ·by_cases e3:q<b
   ·exact hs p q (by omega) a2 e3
   ·by_cases e4:p<b
    ·exact h.mr p q a1 e4 (by omega) a3
    ·exact h.r p q (by omega) a2 a3
theorem Pdq.left (h0:LtOk lt) {A B a b m:Nat} {v:Nat→α} (h:Pdq lt A B a b v) (hm:Cut lt a b m v) (hs:Srt lt a m v):Pdq lt A B (m+1) b v:=by
 have h1:=h.pa
 have h2:=hm.ca
 have h3:=hm.cb
 have h4:=h.pb
 have key:∀ i j,a≤i→i<m+1→m≤j→j<b→i<j→Le lt (v i) (v j):=by
  intro i j b1 b2 b3 b4 b5
  have q1:Le lt (v i) (v m):=by
   by_cases e:i=m
   ·rw [e];exact Le.refl h0 _
   ·exact hm.l i b1 (by omega)
  by_cases e:j=m
  ·rw [e];exact q1
  ·exact q1.trans h0 (hm.r j (by omega) b4)
 refine ⟨by omega,by omega,h4,fun p q a1 a2 a3=>?_,h.r,fun i j a1 a2 a3 a4=>?_,h.mr⟩
 ·by_cases e1:q<a
  ·exact h.l p q a1 a2 e1
  ·by_cases e2:p<a
   ·exact h.lm p q a1 e2 (by omega) (by omega)
   ·by_cases e3:q<m
    ·exact hs p q (by omega) a2 e3
    ·exact key p q (by omega) (by omega) (by omega) (by omega) a2
 ·by_cases e1:i<a
  ·exact h.lm i j a1 e1 (by omega) a4
  ·by_cases e2:j<b
   ·exact key i j (by omega) a2 (by omega) e2 (by omega)
   ·exact h.mr i j a1 (by omega) (by omega) a4
theorem Pdq.right (h0:LtOk lt) {A B a b m:Nat} {v:Nat→α} (h:Pdq lt A B a b v) (hm:Cut lt a b m v) (hs:Srt lt (m+1) b v):Pdq lt A B a m v:=by
 have h1:=h.pa
 have h2:=hm.ca
 have h3:=hm.cb
 have h4:=h.pb
 have key:∀ i j,a≤i→i<m+1→m≤j→j<b→i<j→Le lt (v i) (v j):=by
  intro i j b1 b2 b3 b4 b5
  have q1:Le lt (v i) (v m):=by
   by_cases e:i=m
   ·rw [e];exact Le.refl h0 _
   ·exact hm.l i b1 (by omega)
  by_cases e:j=m
  ·rw [e];exact q1
  ·exact q1.trans h0 (hm.r j (by omega) b4)
 refine ⟨h1,h2,by omega,h.l,fun p q a1 a2 a3=>?_,h.lm,fun i j a1 a2 a3 a4=>?_⟩
 ·by_cases e1:b≤p
  ·exact h.r p q e1 a2 a3
  ·by_cases e2:b≤q
   ·exact h.mr p q (by omega) (by omega) e2 a3
   ·by_cases e3:p=m
    ·subst e3;exact hm.r q a2 (by omega)
    ·exact hs p q (by omega) a2 (by omega)
 ·by_cases e1:b≤j
  ·exact h.mr i j a1 (by omega) e1 a4
  ·by_cases e2:i<a
   ·exact h.lm i j a1 e2 (by omega) a4
   ·exact key i j (by omega) (by omega) a3 (by omega) (by omega)
theorem Pdq.same (h0:LtOk lt) {A B a b m:Nat} {v:Nat→α} (h:Pdq lt A B a b v) (ham:a≤m) (hmb:m≤b) (hmin:∀ k,a≤k→k<b→Le lt (v a) (v k)) (hl:∀ k,a≤k→k<m→Le lt (v k) (v a)):Pdq lt A B m b v:=by
 have h1:=h.pa
 have h4:=h.pb
 have key:∀ i j,a≤i→i<m→a≤j→j<b→Le lt (v i) (v j):=fun i j b1 b2 b3 b4=>(hl i b1 b2).trans h0 (hmin j b3 b4)
 refine ⟨by omega,hmb,h4,fun p q a1 a2 a3=>?_,h.r,fun i j a1 a2 a3 a4=>?_,h.mr⟩
 ·by_cases e1:q<a
  ·exact h.l p q a1 a2 e1
  ·by_cases e2:p<a
   ·exact h.lm p q a1 e2 (by omega) (by omega)
   ·exact key p q (by omega) (by omega) (by omega) (by omega)
 ·by_cases e1:i<a
  ·exact h.lm i j a1 e1 (by omega) a4
  ·by_cases e2:j<b
   ·exact key i j (by omega) a2 (by omega) e2
   ·exact h.mr i j a1 (by omega) (by omega) a4
end
set_option maxRecDepth 4000
abbrev MD:Bool×List EK:=(true,[.str,.str,.str])
def ndA (n:Nd):AV:=.agg (ndC n)
theorem ke_nd:KE MD ndA:=⟨fun n=>by simp [ndA,ndC,q0s,q1d,ekOk],fun n m h=>by
 obtain ⟨⟨a,b⟩,c⟩:=n
 obtain ⟨⟨d,e⟩,f⟩:=m
 simp only [ndA,ndC,AV.agg.injEq,List.cons.injEq,AV.str.injEq,and_true] at h
 obtain ⟨rfl,rfl,rfl⟩:=h
 rfl⟩
theorem q8o {α σ:Type} {step:σ→α→Option (Bool×σ)} {x:α} {r:List α} {a:σ}:q3m step (x :: r) a=match step a x with
  | none=>none
  | some (true,a')=>some (true,a')
  | some (false,a')=>q3m step r a':=rfl
theorem KMap.lki {κ:Type} {M:Bool×List EK} {enc:κ→AV} {S:q00} {b:Nat} {f:κ→Option AV} {ok:Bool} {z:AV} {K:AV→Prop} (h:KMap M enc S b f) (he:KE M enc) (k:κ) (hk:K (q2p ok z (f k))):lkW S M ok z (.map (some b)) (enc k) K:=Eq.mpr (h.lk he k) hk
def q38 (pv:AV) (X:q00→Prop) (St:Nat→q00→Prop) (q:Option (Bool×Nat)) (ae:AEnd) (S':q00):Prop:=match q with
 | some (b,w')=>ae=.ret (.bool b)∧St w' S'
 | none=>ae=.pan pv∧X S'
section
variable {xs:List Nd} {g:Nat} {fi ca:List AV} {St:Nat→q00→Prop} {step:Nat→Nd→Option (Bool×Nat)} {pv:AV} {X:q00→Prop}
theorem q6s (hb:xs.length≤1125899906842624) (hp:∀ x∈xs,∀ w S,St w S→ACalls PG g (fi++[.agg (ndC x)]++ca) S (q38 pv X St (step w x))) {w:Nat} {S:q00} (h0:St w S) :
  ACalls PG nrx186 [.sl 3 (xs.map ndC),.func (.func g) fi ca] S fun ae S'=>match q3m step xs w with
   | some (b,w')=>(∃ i:Int,ae=.ret (.int .i64 i)∧decide (0≤i)=b)∧St w' S'
   | none=>ae=.pan pv∧X S':=by
 refine wx186 ?_
 unfold Bx186
 (try simp only [rwp,zA,zB,zC,zD,zE,zF,zG,zH,zI])
 refine LoopP.introS (fun i:Nat=>[(0,.sl 3 (xs.map ndC)),(1,.func (.func g) fi ca),(7,.int .i64 xs.length),(8,.int .i64 i)]) (fun i S'=>i≤xs.length∧∃ w',St w' S'∧q3m step (xs.drop i) w'=q3m step xs w) (fun i=>xs.length-i) 0 ⟨by omega,w,h0,rfl⟩ rfl ?_
 rintro i S' ⟨hi,w1,h1,h2⟩ r hr
 unfold C186_1
 (try simp only [rwp,zA,zB,zC,zD,zE,zF,zG,zH,zI])
 (refine q03 (fun hlt=>?_) (fun hlt=>?_)<;>(try simp only [hlc] at hlt))
 ·obtain ⟨x,hx⟩:=q0h hlt
  have q:=hp x (List.mem_of_getElem? hx) w1 S' h1
  rw [q0e hx,q8o] at h2
  (try simp only [rwp,zA,zB,zC,zD,zE,zF,zG,zH,zI,hx,ndC])
  refine caW_ofv q ?_
  intro ae S2 hq
  unfold q38 at hq
  cases hs:step w1 x with
  | none=>
   rw [hs] at hq h2
   obtain ⟨rfl,hx⟩:=hq
   show pqW _ _ _
   unfold pqW
   rw [← h2]
   exact ⟨rfl,hx⟩
  | some p=>
   obtain ⟨b,w2⟩:=p
   rw [hs] at hq h2
   obtain ⟨rfl,h3⟩:=hq
   dsimp only at h2 ⊢
   cases b with
   | true=>
    dsimp only at h2
    (try simp only [rwp,zA,zB,zC,zD,zE,zF,zG,zH,zI])
    refine q02 ?_
    rw [← h2]
    exact ⟨⟨i,rfl,by simp⟩,h3⟩
   | false=>
    dsimp only at h2
    (try simp only [rwp,zA,zB,zC,zD,zE,zF,zG,zH,zI])
    (simp (disch:=omega) only [q04])
    exact q08 rfl (hr (i+1) S2 ⟨by omega,w2,h3,h2⟩ (by omega))
 ·have e:xs.drop i=[]:=q0u hlt
  rw [e] at h2
  refine q02 ?_
  rw [← h2]
  exact ⟨⟨-1,rfl,rfl⟩,h1⟩
theorem q59 (hb:xs.length≤1125899906842624) (hp:∀ x∈xs,∀ w S,St w S→ACalls PG g (fi++[.agg (ndC x)]++ca) S (q38 pv X St (step w x))) {w:Nat} {S:q00} (h0:St w S) :
  ACalls PG nrx147 [.sl 3 (xs.map ndC),.func (.func g) fi ca] S (q38 pv X St (q3m step xs w)):=by
 refine wx147 ?_
 unfold Bx147
 refine q0b (q6s hb hp h0) ?_
 intro ae S' hq
 unfold q38
 cases hf:q3m step xs w with
 | none=>
  rw [hf] at hq
  obtain ⟨rfl,hx⟩:=hq
  exact ⟨rfl,hx⟩
 | some p=>
  obtain ⟨b,w2⟩:=p
  rw [hf] at hq
  obtain ⟨⟨i,rfl,h1⟩,h2⟩:=hq
  dsimp only
  (try simp only [rwp,zA,zB,zC,zD,zE,zF,zG,zH,zI])
  exact q02 ⟨by rw [h1],h2⟩
theorem q7x {w:Nat} {S:q00} (h0:St w S) :
  ACalls PG nrx147 [.nils,.func (.func g) fi ca] S (q38 pv X St (q3m step [] w)):=by
 refine wx147 ?_
 unfold Bx147
 have q:AFunS PG nrx186 [.nils,.func (.func g) fi ca] S (.int .i64 (-1)):=by
  refine wx186 ?_
  unfold Bx186
  (try simp only [rwp,zA,zB,zC,zD,zE,zF,zG,zH,zI])
  refine LoopP.introS (fun _:Nat=>[(0,.nils),(1,.func (.func g) fi ca),(7,.int .i64 0),(8,.int .i64 0)]) (fun i S'=>S'=S) (fun i=>i) 0 rfl rfl ?_
  rintro i S' rfl r hr
  (try simp only [rwp,zA,zB,zC,zD,zE,zF,zG,zH,zI,rwb,reduceIte,C186_1,Int.lt_irrefl])
  exact q02 ⟨rfl,rfl⟩
 refine q1u q ?_
 (try simp only [rwp,zA,zB,zC,zD,zE,zF,zG,zH,zI])
 exact q02 ⟨rfl,h0⟩
def ofA (l:List Nd):Option AV:=if l=[] then none else some (.sl 3 (l.map ndC))
theorem q4o (hb:xs.length≤1125899906842624) (hp:∀ x∈xs,∀ w S,St w S→ACalls PG g (fi++[.agg (ndC x)]++ca) S (q38 pv X St (step w x))) {w:Nat} {S:q00} (h0:St w S) :
  ACalls PG nrx147 [q2p false .nils (ofA xs),.func (.func g) fi ca] S (q38 pv X St (q3m step xs w)):=by
 unfold ofA
 split
 ·rename_i h;subst h;exact q7x h0
 ·exact q59 hb hp h0
end
abbrev tySe:Nat:=94
abbrev spV:AV:=.iface 100 (.agg [])
structure PathE (es:List (AV×AV×Nat)) (P:List Nd):Prop where
 key:∀ x∈es,∃ n,x.1=ndA n
 len:es.length=P.length
 get:∀ n,mget es (ndA n)=if n∈P then some (.bool true) else none
def seC (E:q23) (B:Int) (bo bp w:Nat):List AV:=[.sl 2 (E.s.map tyC),.map (some bo),.str E.who.ty,.str E.who.id,.int .i64 B,.int .i64 w,.map (some bp)]
def stE (E:q23) (B:Int) (bc bo bp:Nat) (S0:q00) (w:Nat) (es:List (AV×AV×Nat)) (clk:Nat):q00:=supd (supd S0 bc (.cells tySe (seC E B bo bp w) 7)) bp (.map MD es clk)
structure SeOk (E:q23) (B:Int) (bc bo bp:Nat) (S0:q00):Prop where
 s:OkS E.s
 may:∀ t∈E.s,∀ r∈t.rels,r.refs.length=0→mayE 12 r.ex=true
 n1:bp≠bc
 nc:sget S0 bc=none
 np:sget S0 bp=none
 n2:bo≠bc
 n3:bo≠bp
 of:KMap MD ndA S0 bo (fun n=>ofA (E.of n))
 B:B≤100000
 len:∀ n,(E.of n).length≤100000
section
variable {E:q23} {B:Int} {bc bo bp:Nat} {S0:q00}
def StE (E:q23) (B:Int) (bc bo bp:Nat) (S0:q00) (es:List (AV×AV×Nat)) (w:Nat) (S:q00):Prop:=(w:Int)≤B∧∃ clk,S=stE E B bc bo bp S0 w es clk
def AskOk (E:q23) (B:Int) (bc bo bp:Nat) (S0:q00) (ask:Nd→Nat→Option (Bool×Nat)) (es:List (AV×AV×Nat)):Prop:=∀ n w S,StE E B bc bo bp S0 es w S →
 ACalls PG nrx51 [.ptr bc 0,.agg (obC n.o),.str n.rl] S (q38 spV (Sub S0) (StE E B bc bo bp S0 es) (ask n w))
theorem stE_c (h:SeOk E B bc bo bp S0) {w:Nat} {es:List (AV×AV×Nat)} {clk:Nat}:q0j (stE E B bc bo bp S0 w es clk) bc=some (tySe,seC E B bo bp w,7):=by
 unfold stE
 rw [q3d,if_neg h.n1,objAt_supd,if_pos rfl]
theorem stE_of (h:SeOk E B bc bo bp S0) {w:Nat} {es:List (AV×AV×Nat)} {clk:Nat}:KMap MD ndA (stE E B bc bo bp S0 w es clk) bo (fun n=>ofA (E.of n)):=(h.of.upd (Ne.symm h.n2) _).upd (Ne.symm h.n3) _
theorem c_stands_1 (h:SeOk E B bc bo bp S0) {ask:Nd→Nat→Option (Bool×Nat)} {es:List (AV×AV×Nat)} (hask:AskOk E B bc bo bp S0 ask es) (x:Nd) (w:Nat) (S:q00) (hS:StE E B bc bo bp S0 es w S) :
  ACalls PG nrx148 ([]++[.agg (ndC x)]++[.rop [.ptr bc 0]]) S (q38 spV (Sub S0) (StE E B bc bo bp S0 es) (q8c E.who ask w x)):=by
 obtain ⟨hw,clk,rfl⟩:=hS
 have hc:=q07 (stE_c h (w:=w) (es:=es) (clk:=clk))
 refine wx148 ?_
 unfold Bx148
 (try simp only [rwp,zA,zB,zC,zD,zE,zF,zG,zH,zI,rwb,reduceIte,ndC])
 unfold q8c
 (refine q03 (fun h0=>?_) (fun h0=>?_)<;>(try simp only [hlc] at h0))
 ·rw [if_pos h0]
  (try simp only [rwp,zA,zB,zC,zD,zE,zF,zG,zH,zI,rwb,reduceIte,hc,seC,q6o])
  have eo:decide (x.o=E.who)=(decide (x.o.ty=E.who.ty)&&decide (x.o.id=E.who.id)):=by
   rw [Bool.eq_iff_iff]
   cases x.o;cases E.who
   simp
  exact q02 ⟨by rw [eo],hw,clk,rfl⟩
 ·rw [if_neg h0]
  refine q0b (hask x w _ ⟨hw,clk,rfl⟩) ?_
  intro ae S' hq
  unfold q38 at hq ⊢
  cases hs:ask x w with
  | none=>rw [hs] at hq;obtain ⟨rfl,hx⟩:=hq;exact ⟨rfl,hx⟩
  | some p=>
   obtain ⟨b,w2⟩:=p
   rw [hs] at hq
   obtain ⟨rfl,h1⟩:=hq
   exact q02 ⟨rfl,h1⟩
theorem c_expr_1 (h:SeOk E B bc bo bp S0) {ask:Nd→Nat→Option (Bool×Nat)} {es:List (AV×AV×Nat)} (hask:AskOk E B bc bo bp S0 ask es) (k n:AV) (ov:ByteArray) (ks:AV) (x:Nd) (w:Nat) (S:q00) (hS:StE E B bc bo bp S0 es w S) :
  ACalls PG nrx185 ([]++[.agg (ndC x)]++[.rop [.ptr bc 0],.rop [k,n,.str ov,ks]]) S (q38 spV (Sub S0) (StE E B bc bo bp S0 es) (q9e ov ask w x)):=by
 refine wx185 ?_
 unfold Bx185
 (try simp only [rwp,zA,zB,zC,zD,zE,zF,zG,zH,zI,rwb,reduceIte,ndC])
 unfold q9e
 cases h0:decide (x.rl=⟨#[]⟩)
 ·have h1:=of_decide_eq_false h0
  rw [if_neg h1]
  (try simp only [rwp,zA,zB,zC,zD,zE,zF,zG,zH,zI,rwb,reduceIte])
  exact q02 ⟨rfl,hS⟩
 ·have h1:=of_decide_eq_true h0
  rw [if_pos h1]
  (try simp only [rwp,zA,zB,zC,zD,zE,zF,zG,zH,zI,rwb,reduceIte,ndC])
  refine q0b (hask ⟨x.o,ov⟩ w _ hS) ?_
  intro ae S' hq
  unfold q38 at hq ⊢
  cases hs:ask ⟨x.o,ov⟩ w with
  | none=>rw [hs] at hq;obtain ⟨rfl,hx⟩:=hq;exact ⟨rfl,hx⟩
  | some p=>
   obtain ⟨b,w2⟩:=p
   rw [hs] at hq
   obtain ⟨rfl,h1⟩:=hq
   (try simp only [rwp,zA,zB,zC,zD,zE,zF,zG,zH,zI,rwb,reduceIte])
   exact q02 ⟨rfl,h1⟩
theorem c_exprE (h:SeOk E B bc bo bp S0) {ask:Nd→Nat→Option (Bool×Nat)} {es:List (AV×AV×Nat)} (hask:AskOk E B bc bo bp S0 ask es) (o:Ob):∀ (m:Nat) (e:Ex),mayE m e=true→∀ (w:Nat) (S:q00),StE E B bc bo bp S0 es w S →
  ACalls PG nrx146 [.ptr bc 0,.agg (obC o),.agg (exC e)] S (q38 spV (Sub S0) (StE E B bc bo bp S0 es) (exQ E ask o m e w))
 | 0,e,hm,w,S,hS=>by cases hm
 | m+1,.mk k n ov ks,hm,w,S,hS=>by
  have ih:=c_exprE h hask o m
  have hS0:=hS
  obtain ⟨hw,clk,rfl⟩:=hS
  have hc:=q07 (stE_c h (w:=w) (es:=es) (clk:=clk))
  have hof:=stE_of h (w:=w) (es:=es) (clk:=clk)
  unfold mayE at hm
  refine wx146 ?_
  unfold Bx146 exQ
  (try simp only [rwp,zA,zB,zC,zD,zE,zF,zG,zH,zI,rwb,reduceIte,obC,q0d,Ex.kind,Ex.name,Ex.over,Ex.kids])
  (refine q03 (fun k0=>?_) (fun k0=>?_)<;>(try simp only [hlc] at k0))
  ·rw [if_pos k0]
   refine q0b (hask ⟨o,n⟩ w _ hS0) ?_
   intro ae S' hq
   unfold q38 at hq ⊢
   cases hs:ask ⟨o,n⟩ w with
   | none=>rw [hs] at hq;obtain ⟨rfl,hx⟩:=hq;exact ⟨rfl,hx⟩
   | some p=>
    obtain ⟨b,w2⟩:=p
    rw [hs] at hq
    obtain ⟨rfl,h1⟩:=hq
    exact q02 ⟨rfl,h1⟩
  ·rw [if_neg k0] at hm ⊢
   (refine q03 (fun k1=>?_) (fun k1=>?_)<;>(try simp only [hlc] at k1))
   ·rw [if_pos k1]
    (try simp only [rwp,zA,zB,zC,zD,zE,zF,zG,zH,zI,rwb,reduceIte,hc,seC])
    refine KMap.lki hof ke_nd ⟨o,n⟩ ?_
    refine q0b (q4o (step:=q9e ov ask) (Nat.le_trans (h.len _) (by decide)) (fun x _ w S hS=>c_expr_1 h hask _ _ ov _ x w S hS) hS0) ?_
    intro ae S' hq
    unfold q38 at hq ⊢
    cases hs:q3m (q9e ov ask) (E.of ⟨o,n⟩) w with
    | none=>rw [hs] at hq;obtain ⟨rfl,hx⟩:=hq;exact ⟨rfl,hx⟩
    | some p=>
     obtain ⟨b,w2⟩:=p
     rw [hs] at hq
     obtain ⟨rfl,h1⟩:=hq
     exact q02 ⟨rfl,h1⟩
   ·rw [if_neg k1] at hm ⊢
    have hk:k=2∨k=3∨k=4:=by
     refine Classical.byContradiction fun hn=>?_
     rw [if_neg hn] at hm
     cases hm
    rw [if_pos hk] at hm
    obtain ⟨a,b,rfl⟩:∃ a b,ks=[a,b]:=by
     match ks,hm with
     | [a,b],_=>exact ⟨a,b,rfl⟩
     | [],hm=>cases hm
     | [_],hm=>cases hm
     | _ :: _ :: _ :: _,hm=>cases hm
    simp only [two,Bool.and_eq_true] at hm
    obtain ⟨ma,mb⟩:=hm
    have first:=ih a ma w _ hS0
    have second:=fun w2 S2 hS2=>ih b mb w2 S2 hS2
    simp only [obC] at first second
    have fin:∀ (K:AV→q00→Prop),(∀ x w1 S1,exQ E ask o m a w=some (x,w1)→StE E B bc bo bp S0 es w1 S1→K (.bool x) S1)→∀ ae S',q38 spV (Sub S0) (StE E B bc bo bp S0 es) (exQ E ask o m a w) ae S'→(match (generalizing:=false) ae with
      | .ret v=>K v S'
      | .pan v=>pqW (q38 spV (Sub S0) (StE E B bc bo bp S0 es) (comb k (exQ E ask o m a w) (exQ E ask o m b))) v S'):=by
     intro K hK ae S' hq
     unfold q38 at hq
     cases hs:exQ E ask o m a w with
     | none=>rw [hs] at hq;obtain ⟨rfl,hx⟩:=hq;exact ⟨rfl,hx⟩
     | some p=>
      obtain ⟨x,w2⟩:=p
      rw [hs] at hq
      obtain ⟨rfl,h1⟩:=hq
      exact hK x w2 S' hs h1
    have fin2:∀ (x:Bool) (w1:Nat) (K:AV→q00→Prop),exQ E ask o m a w=some (x,w1)→¬ x=decide (k=2)→(∀ y w2 S2,exQ E ask o m b w1=some (y,w2)→StE E B bc bo bp S0 es w2 S2→K (.bool y) S2)→∀ ae S',q38 spV (Sub S0) (StE E B bc bo bp S0 es) (exQ E ask o m b w1) ae S'→(match (generalizing:=false) ae with
      | .ret v=>K v S'
      | .pan v=>pqW (q38 spV (Sub S0) (StE E B bc bo bp S0 es) (comb k (exQ E ask o m a w) (exQ E ask o m b))) v S'):=by
     intro x w1 K hx hne hK ae S' hq
     rw [hx]
     unfold comb
     dsimp only
     rw [if_neg hne]
     unfold q38 at hq
     cases hs:exQ E ask o m b w1 with
     | none=>rw [hs] at hq;obtain ⟨rfl,hx⟩:=hq;exact ⟨rfl,hx⟩
     | some p=>
      obtain ⟨y,w2⟩:=p
      rw [hs] at hq
      obtain ⟨rfl,h1⟩:=hq
      exact hK y w2 S' hs h1
    rcases hk with rfl | rfl | rfl
    ·(try simp only [rwp,zA,zB,zC,zD,zE,zF,zG,zH,zI,rwb,reduceIte,hwR,reduceCtorEq,Int.reduceEq])
     refine q0b first (fin _ fun x w1 S1 hx hS1=>?_)
     cases x
     ·(try simp only [rwp,zA,zB,zC,zD,zE,zF,zG,zH,zI,rwb,reduceIte,hwR,reduceCtorEq,Int.reduceEq])
      refine q0b (second w1 S1 hS1) (fin2 _ _ _ hx (by decide) fun y w2 S2 hy hS2=>?_)
      (try simp only [rwp,zA,zB,zC,zD,zE,zF,zG,zH,zI,rwb,reduceIte,hwR,reduceCtorEq,Int.reduceEq])
      refine q02 ?_
      rw [hx]
      unfold comb
      dsimp only
      rw [if_neg (by decide),hy]
      exact ⟨rfl,hS2⟩
     ·(try simp only [rwp,zA,zB,zC,zD,zE,zF,zG,zH,zI,rwb,reduceIte,hwR,reduceCtorEq,Int.reduceEq])
      refine q02 ?_
      rw [hx]
      exact ⟨rfl,hS1⟩
    ·(try simp only [rwp,zA,zB,zC,zD,zE,zF,zG,zH,zI,rwb,reduceIte,hwR,reduceCtorEq,Int.reduceEq])
     refine q0b first (fin _ fun x w1 S1 hx hS1=>?_)
     cases x
     ·(try simp only [rwp,zA,zB,zC,zD,zE,zF,zG,zH,zI,rwb,reduceIte,hwR,reduceCtorEq,Int.reduceEq])
      refine q02 ?_
      rw [hx]
      exact ⟨rfl,hS1⟩
     ·(try simp only [rwp,zA,zB,zC,zD,zE,zF,zG,zH,zI,rwb,reduceIte,hwR,reduceCtorEq,Int.reduceEq])
      refine q0b (second w1 S1 hS1) (fin2 _ _ _ hx (by decide) fun y w2 S2 hy hS2=>?_)
      (try simp only [rwp,zA,zB,zC,zD,zE,zF,zG,zH,zI,rwb,reduceIte,hwR,reduceCtorEq,Int.reduceEq])
      refine q02 ?_
      rw [hx]
      unfold comb
      dsimp only
      rw [if_neg (by decide),hy]
      exact ⟨rfl,hS2⟩
    ·(try simp only [rwp,zA,zB,zC,zD,zE,zF,zG,zH,zI,rwb,reduceIte,hwR,reduceCtorEq,Int.reduceEq])
     refine q0b first (fin _ fun x w1 S1 hx hS1=>?_)
     cases x
     ·(try simp only [rwp,zA,zB,zC,zD,zE,zF,zG,zH,zI,rwb,reduceIte,hwR,reduceCtorEq,Int.reduceEq])
      refine q02 ?_
      rw [hx]
      exact ⟨rfl,hS1⟩
     ·(try simp only [rwp,zA,zB,zC,zD,zE,zF,zG,zH,zI,rwb,reduceIte,hwR,reduceCtorEq,Int.reduceEq])
      refine q0b (second w1 S1 hS1) (fin2 _ _ _ hx (by decide) fun y w2 S2 hy hS2=>?_)
      (try simp only [rwp,zA,zB,zC,zD,zE,zF,zG,zH,zI,rwb,reduceIte,hwR,reduceCtorEq,Int.reduceEq])
      refine q02 ?_
      rw [hx]
      unfold comb
      dsimp only
      rw [if_neg (by decide),hy]
      exact ⟨rfl,hS2⟩
theorem c_stands (h:SeOk E B bc bo bp S0) {ask:Nd→Nat→Option (Bool×Nat)} {es:List (AV×AV×Nat)} (hask:AskOk E B bc bo bp S0 ask es) (n:Nd) (r:Rl) (hr:r.refs.length=0→mayE 12 r.ex=true) (w:Nat) (S:q00) (hS:StE E B bc bo bp S0 es w S) :
  ACalls PG nrx101 [.ptr bc 0,.agg (ndC n),.agg (rlC r)] S (q38 spV (Sub S0) (StE E B bc bo bp S0 es) (bodyQ E ask n r w)):=by
 have hS0:=hS
 obtain ⟨hw,clk,rfl⟩:=hS
 have hc:=q07 (stE_c h (w:=w) (es:=es) (clk:=clk))
 have hof:=stE_of h (w:=w) (es:=es) (clk:=clk)
 refine wx101 ?_
 unfold Bx101 bodyQ
 (try simp only [rwp,zA,zB,zC,zD,zE,zF,zG,zH,zI,rwb,reduceIte,ndC,q0i])
 (refine q03 (fun h0=>?_) (fun h0=>?_)<;>(try simp only [hlc] at h0))
 ·have h1:r.refs.length=0:=by omega
  rw [if_pos h1]
  have q:=c_exprE h hask n.o 12 r.ex (hr h1) w _ hS0
  simp only [obC,q0d] at q
  refine q0b q ?_
  intro ae S' hq
  unfold q38 at hq ⊢
  cases hs:exQ E ask n.o 12 r.ex w with
  | none=>rw [hs] at hq;obtain ⟨rfl,hx⟩:=hq;exact ⟨rfl,hx⟩
  | some p=>
   obtain ⟨b,w2⟩:=p
   rw [hs] at hq
   obtain ⟨rfl,h1⟩:=hq
   exact q02 ⟨rfl,h1⟩
 ·have h1:¬ r.refs.length=0:=by omega
  rw [if_neg h1]
  (try simp only [rwp,zA,zB,zC,zD,zE,zF,zG,zH,zI,rwb,reduceIte,hc,seC])
  refine KMap.lki hof ke_nd n ?_
  refine q0b (q4o (step:=q8c E.who ask) (Nat.le_trans (h.len _) (by decide)) (fun x _ w S hS=>c_stands_1 h hask x w S hS) hS0) ?_
  intro ae S' hq
  unfold q38 at hq ⊢
  cases hs:q3m (q8c E.who ask) (E.of n) w with
  | none=>rw [hs] at hq;obtain ⟨rfl,hx⟩:=hq;exact ⟨rfl,hx⟩
  | some p=>
   obtain ⟨b,w2⟩:=p
   rw [hs] at hq
   obtain ⟨rfl,h1⟩:=hq
   exact q02 ⟨rfl,h1⟩
theorem stE_w (h:SeOk E B bc bo bp S0) {w w':Nat} {es:List (AV×AV×Nat)} {clk:Nat}:supd (stE E B bc bo bp S0 w es clk) bc (.cells tySe (seC E B bo bp w') 7)=stE E B bc bo bp S0 w' es clk:=by
 unfold stE
 funext k
 simp only [supd]
 have:=h.n1
 split<;>split<;>(try split)<;>first | rfl | (exfalso;omega)
theorem stE_sub (h:SeOk E B bc bo bp S0) {w:Nat} {es:List (AV×AV×Nat)} {clk:Nat}:Sub S0 (stE E B bc bo bp S0 w es clk):=Sub.supd h.np (Sub.fresh _ h.nc)
theorem stE_m {w:Nat} {es es':List (AV×AV×Nat)} {clk clk':Nat}:supd (stE E B bc bo bp S0 w es clk) bp (.map MD es' clk')=stE E B bc bo bp S0 w es' clk':=by
 unfold stE
 funext k
 simp only [supd]
 split<;>rfl
theorem stE_map {w:Nat} {es:List (AV×AV×Nat)} {clk:Nat}:q2d (stE E B bc bo bp S0 w es clk) bp=some (MD,es,clk):=mapObj_some.2 (by unfold stE;rw [q01,if_pos rfl])
end
theorem q4j {es:List (AV×AV×Nat)} {k:AV} (h:mget es k=none):q15 es k=none:=by
 unfold mget at h
 exact Option.map_eq_none_iff.1 h
theorem q8h {k v:AV} {c:Nat} (hk:q1g k k=true):∀ {es:List (AV×AV×Nat)},q15 es k=none→q15 (es++[(k,v,c)]) k=some (es.length,v,c)
 | [],_=>by simp [q15,hk]
 | x :: r,h=>by
  simp only [q15] at h
  split at h
  ·cases h
  ·rename_i hx
   have h2:q15 r k=none:=by simpa using h
   simp only [List.cons_append,q15,if_neg hx,q8h hk h2]
   rfl
theorem mget_snoc {k v k':AV} {c:Nat}:∀ {es:List (AV×AV×Nat)},mget (es++[(k,v,c)]) k'=match mget es k' with
  | some u=>some u
  | none=>if q1g k' k then some v else none
 | []=>by simp [mget,q15]
 | x :: r=>by
  rw [List.cons_append,q21,q21]
  split
  ·rfl
  ·exact mget_snoc
theorem ndA_eq (n m:Nd):q1g (ndA n) (ndA m)=decide (n=m):=by
 have hk:=ke_nd
 by_cases h:n=m
 ·subst h
  rw [decide_eq_true rfl]
  exact q3q (hk.ok n)
 ·rw [decide_eq_false h]
  cases hq:q1g (ndA n) (ndA m) with
  | false=>rfl
  | true=>exact absurd (hk.inj _ _ ((q3z (hk.ok n) (hk.ok m)).1 hq)) h
theorem PathE.push {es:List (AV×AV×Nat)} {P:List Nd} (h:PathE es P) {n:Nd} (hn:n ∉ P) (clk:Nat):PathE (es++[(ndA n,.bool true,clk)]) (n :: P) where
 key:=fun x hx=>by
  rcases List.mem_append.1 hx with h1 | h1
  ·exact h.key x h1
  ·rw [List.mem_singleton.1 h1];exact ⟨n,rfl⟩
 len:=by rw [List.length_append,h.len];rfl
 get:=fun m=>by
  rw [mget_snoc,h.get]
  by_cases h1:m∈P
  ·rw [if_pos h1,if_pos (List.mem_cons_of_mem _ h1)]
  ·rw [if_neg h1]
   dsimp only
   rw [ndA_eq]
   by_cases h2:m=n
   ·subst h2;simp
   ·rw [decide_eq_false h2,if_neg (by simp),if_neg (by simp [h1,h2])]
theorem PathE.map {E:q23} {B:Int} {bc bo bp:Nat} {S0:q00} {es:List (AV×AV×Nat)} {P:List Nd} (h:PathE es P) {w clk:Nat}:KMap MD ndA (stE E B bc bo bp S0 w es clk) bp (fun n=>if n∈P then some (.bool true) else none):=
 ⟨es,clk,stE_map,fun x hx=>by obtain ⟨n,e⟩:=h.key x hx;rw [e];exact ke_nd.ok n,h.get⟩
theorem q5f {S:q00} {t:Nat} {v:AV} {Qp:AV→q00→Prop} (h:Qp (.iface t v) S):paW S (.iface t v) Qp:=⟨t,v,rfl,h⟩
section
variable {E:q23} {B:Int} {bc bo bp:Nat} {S0:q00}
theorem c_ask (h:SeOk E B bc bo bp S0):∀ (fu:Nat) (P:List Nd) (es:List (AV×AV×Nat)),PathE es P→P.length+fu=50→AskOk E B bc bo bp S0 (askQ E B fu P) es:=by
 intro fu
 induction fu with
 | zero=>
  intro P es hP hl n w S hS
  obtain ⟨hw,clk,rfl⟩:=hS
  have hc:=q07 (stE_c h (w:=w) (es:=es) (clk:=clk))
  have ho:=stE_c h (w:=w) (es:=es) (clk:=clk)
  have hm:=fun w=>stE_map (E:=E) (B:=B) (bc:=bc) (bo:=bo) (bp:=bp) (S0:=S0) (w:=w) (es:=es) (clk:=clk)
  have hB:=h.B
  have hen:=hP.len
  refine wx51 ?_
  unfold Bx51 askQ
  (try simp only [rwp,zA,zB,zC,zD,zE,zF,zG,zH,zI,rwb,reduceIte,obC,hc,seC])
  have q:=q1q h.s n.o.ty n.rl (stE E B bc bo bp S0 w es clk)
  simp only [scA] at q
  refine q0b q ?_
  rintro ae S' ⟨rfl,rfl⟩
  cases hq:q0l E.s n.o.ty n.rl with
  | none=>
   dsimp only
   (try simp only [rwp,zA,zB,zC,zD,zE,zF,zG,zH,zI,rwb,reduceIte,q6w])
   refine alst rfl ?_
   (try simp only [rwp,zA,zB,zC,zD,zE,zF,zG,zH,zI,rwb,reduceIte])
   exact q02 ⟨rfl,hw,clk,rfl⟩
  | some p=>
   obtain ⟨i,k,r⟩:=p
   dsimp only
   (try simp only [rwp,zA,zB,zC,zD,zE,zF,zG,zH,zI,rwb,reduceIte,q0i])
   refine alst rfl ?_
   (try simp only [rwp,zA,zB,zC,zD,zE,zF,zG,zH,zI,rwb,reduceIte,hc,seC,ho])
   (simp (disch:=omega) only [q04])
   have e1:supd (stE E B bc bo bp S0 w es clk) bc (.cells tySe [.sl 2 (E.s.map tyC),.map (some bo),.str E.who.ty,.str E.who.id,.int .i64 B,.int .i64 ((w:Int)+1),.map (some bp)] 7)=stE E B bc bo bp S0 (w+1) es clk:=stE_w h
   rw [e1]
   cases a1:decide (B<(w:Int)+1)
   ·(try simp only [rwp,zA,zB,zC,zD,zE,zF,zG,zH,zI,rwb,reduceIte,lnW_map,hm,q7d])
    rw [decide_eq_true (show ((es.length:Int)=50) by omega)]
    (try simp only [rwp,zA,zB,zC,zD,zE,zF,zG,zH,zI,rwb,reduceIte])
    exact q5f ⟨rfl,stE_sub h⟩
   ·(try simp only [rwp,zA,zB,zC,zD,zE,zF,zG,zH,zI,rwb,reduceIte])
    exact q5f ⟨rfl,stE_sub h⟩
 | succ fu ih=>
  intro P es hP hl n w S hS
  obtain ⟨hw,clk,rfl⟩:=hS
  have hc:=q07 (stE_c h (w:=w) (es:=es) (clk:=clk))
  have ho:=stE_c h (w:=w) (es:=es) (clk:=clk)
  have hm:=fun w=>stE_map (E:=E) (B:=B) (bc:=bc) (bo:=bo) (bp:=bp) (S0:=S0) (w:=w) (es:=es) (clk:=clk)
  have hB:=h.B
  have hen:=hP.len
  refine wx51 ?_
  unfold Bx51 askQ
  (try simp only [rwp,zA,zB,zC,zD,zE,zF,zG,zH,zI,rwb,reduceIte,obC,hc,seC])
  have q:=q1q h.s n.o.ty n.rl (stE E B bc bo bp S0 w es clk)
  simp only [scA] at q
  refine q0b q ?_
  rintro ae S' ⟨rfl,rfl⟩
  cases hq:q0l E.s n.o.ty n.rl with
  | none=>
   dsimp only
   (try simp only [rwp,zA,zB,zC,zD,zE,zF,zG,zH,zI,rwb,reduceIte,q6w])
   refine alst rfl ?_
   (try simp only [rwp,zA,zB,zC,zD,zE,zF,zG,zH,zI,rwb,reduceIte])
   exact q02 ⟨rfl,hw,clk,rfl⟩
  | some p=>
   obtain ⟨i,k,r⟩:=p
   obtain ⟨-,ty,hty,-,hk⟩:=q1h hq
   have hr:r.refs.length=0→mayE 12 r.ex=true:=h.may ty (List.mem_of_getElem? hty) r (List.mem_of_getElem? hk)
   dsimp only
   (try simp only [rwp,zA,zB,zC,zD,zE,zF,zG,zH,zI,rwb,reduceIte,q0i])
   refine alst rfl ?_
   (try simp only [rwp,zA,zB,zC,zD,zE,zF,zG,zH,zI,rwb,reduceIte,hc,seC,ho])
   (simp (disch:=omega) only [q04])
   have e1:supd (stE E B bc bo bp S0 w es clk) bc (.cells tySe [.sl 2 (E.s.map tyC),.map (some bo),.str E.who.ty,.str E.who.id,.int .i64 B,.int .i64 ((w:Int)+1),.map (some bp)] 7)=stE E B bc bo bp S0 (w+1) es clk:=stE_w h
   rw [e1]
   cases a1:decide (B<(w:Int)+1)
   ·have b1:=of_decide_eq_false a1
    rw [if_neg b1]
    (try simp only [rwp,zA,zB,zC,zD,zE,zF,zG,zH,zI,rwb,reduceIte,lnW_map,hm,q7d])
    rw [decide_eq_false (show ¬ ((es.length:Int)=50) by omega)]
    (try simp only [rwp,zA,zB,zC,zD,zE,zF,zG,zH,zI,rwb,reduceIte,C51_1])
    have hc1:=q07 (stE_c h (w:=w+1) (es:=es) (clk:=clk))
    (try simp only [rwp,zA,zB,zC,zD,zE,zF,zG,zH,zI,rwb,reduceIte,hc1,seC])
    refine KMap.lki hP.map ke_nd n ?_
    by_cases hn:n∈P
    ·simp only [if_pos hn]
     (try simp only [rwp,zA,zB,zC,zD,zE,zF,zG,zH,zI,rwb,reduceIte])
     exact q02 ⟨rfl,by omega,clk,rfl⟩
    ·simp only [if_neg hn]
     (try simp only [rwp,zA,zB,zC,zD,zE,zF,zG,zH,zI,rwb,reduceIte,hc1,seC,muW_map,hm])
     have hg0:mget es (ndA n)=none:=by rw [hP.get,if_neg hn]
     have hset:mset es (ndA n) (.bool true) clk=(es++[(ndA n,.bool true,clk)],clk+1):=by
      unfold mset
      rw [q4j hg0]
     have e2:mset es (.agg [.str n.o.ty,.str n.o.id,.str n.rl]) (.bool true) clk=(es++[(ndA n,.bool true,clk)],clk+1):=hset
     rw [e2,stE_m]
     have hP2:=hP.push hn clk
     have q2:=c_stands h (ih (n :: P) _ hP2 (by simp only [List.length_cons];omega)) n r hr (w+1) _ ⟨by omega,clk+1,rfl⟩
     simp only [ndC,q0i] at q2
     refine q0b q2 ?_
     intro ae S2 hq2
     unfold q38 at hq2
     cases hs:bodyQ E (askQ E B fu (n :: P)) n r (w+1) with
     | none=>rw [hs] at hq2;obtain ⟨rfl,hx⟩:=hq2;exact ⟨rfl,hx⟩
     | some p2=>
      obtain ⟨b,w2⟩:=p2
      rw [hs] at hq2
      obtain ⟨rfl,hw2,clk2,rfl⟩:=hq2
      have hc2:=q07 (stE_c h (w:=w2) (es:=es++[(ndA n,.bool true,clk)]) (clk:=clk2))
      dsimp only
      (try simp only [rwp,zA,zB,zC,zD,zE,zF,zG,zH,zI,rwb,reduceIte,hc2,seC])
      have hf:=q8h (k:=ndA n) (v:=.bool true) (c:=clk) (q3q (ke_nd.ok n)) (q4j hg0)
      refine ⟨bp,es++[(ndA n,.bool true,clk)],clk2,rfl,mapObj_some.1 stE_map,ke_nd.ok n,?_⟩
      have hf':q15 (es++[(ndA n,.bool true,clk)]) (.agg [.str n.o.ty,.str n.o.id,.str n.rl])=some (es.length,.bool true,clk):=hf
      rw [hf']
      dsimp only
      rw [List.eraseIdx_append_of_length_le (Nat.le_refl _),Nat.sub_self]
      simp only [List.eraseIdx_cons_zero,List.append_nil]
      rw [stE_m]
      exact q02 ⟨rfl,hw2,clk2,rfl⟩
   ·have b1:=of_decide_eq_true a1
    rw [if_pos b1]
    (try simp only [rwp,zA,zB,zC,zD,zE,zF,zG,zH,zI,rwb,reduceIte])
    exact q5f ⟨rfl,stE_sub h⟩
end
structure OfM (S0 S:q00) (t bo:Nat) (Ks:Nat→Prop) (f:Nd→List (List AV)) (es:List (AV×AV×Nat)) (clk:Nat):Prop where
 map:sget S bo=some (.map MD es clk)
 b0:sget S0 bo=none
 key:∀ x∈es,∃ n,x.1=ndA n
 nd:(es.map fun x=>x.2.2).Nodup
 ku:∀ (i j:Nat) (x y:AV×AV×Nat),es[i]?=some x→es[j]?=some y→x.1=y.1→i=j
 lt:∀ x∈es,x.2.2<clk
 no:∀ n,mget es (ndA n)=none→f n=[]
 yes:∀ n v,mget es (ndA n)=some v→f n≠[]∧LstN S0 S t 3 v (f n)∧q0x v bo∧∀ c,Ks c→q0x v c
 apart:∀ n m v u,n≠m→mget es (ndA n)=some v→mget es (ndA m)=some u→∀ b off k cap,u=.own b off k cap→q0x v b
 ks:∀ c,Ks c→c≠bo∧sget S c≠none
theorem findIdx_bn {bn:Nat}:∀ {es:List (AV×AV×Nat)} {i:Nat} {x:AV×AV×Nat},(es.map fun x=>x.2.2).Nodup→es[i]?=some x→x.2.2=bn→es.findIdx? (fun x=>x.2.2==bn)=some i:=by
 intro es i x hnd hx hb
 have hi:=(List.getElem?_eq_some_iff.1 hx).1
 rw [List.findIdx?_eq_some_iff_getElem]
 refine ⟨hi,?_,fun j hj=>?_⟩
 ·have:=(List.getElem?_eq_some_iff.1 hx).2
  simp [this,hb]
 ·intro hq
  have hj2:j<es.length:=by omega
  have h1:es[j].2.2=bn:=by simpa using hq
  have h2:es[i].2.2=bn:=by rw [(List.getElem?_eq_some_iff.1 hx).2];exact hb
  have:=(List.getElem_inj (xs:=es.map fun (x:AV×AV×Nat)=>x.2.2) (i:=j) (j:=i) (h₀:=by simpa using hj2) (h₁:=by simpa using hi) hnd).1 (by simp [h1,h2])
  omega
theorem mget_no {es:List (AV×AV×Nat)} {n:Nd} (hk:∀ x∈es,∃ n,x.1=ndA n) (h:mget es (ndA n)=none):∀ x∈es,x.1≠ndA n:=by
 induction es with
 | nil=>intro x hx;cases hx
 | cons y r ih=>
  rw [q21] at h
  obtain ⟨m,hm⟩:=hk y (by simp)
  intro x hx
  split at h
  ·cases h
  ·rename_i hq
   rcases List.mem_cons.1 hx with rfl | hx
   ·intro e
    rw [e,ndA_eq] at hq
    simp at hq
   ·exact ih (fun z hz=>hk z (List.mem_cons_of_mem _ hz)) h x hx
theorem mfind_key {es:List (AV×AV×Nat)} {n:Nd} {i:Nat} {v:AV} {bn:Nat} (hk:∀ x∈es,∃ n,x.1=ndA n) (h:q15 es (ndA n)=some (i,v,bn)):es[i]?=some (ndA n,v,bn):=by
 obtain ⟨kk,h1,h2⟩:=q4k h
 obtain ⟨m,hm⟩:=hk _ (List.mem_of_getElem? h1)
 dsimp only at hm
 subst hm
 rw [ndA_eq] at h2
 rw [h1,of_decide_eq_true h2]
theorem mget_mset {es:List (AV×AV×Nat)} {n m:Nd} {v:AV} {clk:Nat} (hk:∀ x∈es,∃ n,x.1=ndA n):mget (mset es (ndA n) v clk).1 (ndA m)=if m=n then some v else mget es (ndA m):=by
 have hko:keysOk MD es:=fun x hx=>by obtain ⟨n,e⟩:=hk x hx;rw [e];exact ke_nd.ok n
 rw [q3y,q7e (ke_nd.ok n) _ _ hko (ke_nd.ok m)]
 by_cases h:m=n
 ·subst h;simp
 ·rw [if_neg fun e=>h (ke_nd.inj _ _ e),if_neg h]
section
variable {S0 S:q00} {t bo:Nat} {Ks:Nat→Prop} {f:Nd→List (List AV)} {es:List (AV×AV×Nat)} {clk:Nat}
theorem OfM.put (h:OfM S0 S t bo Ks f es clk) {n:Nd} {v v':AV} {row:List AV} {S2:q00} {es':List (AV×AV×Nat)} {clk':Nat} (hv:mget es (ndA n)=some v∨(mget es (ndA n)=none∧v=.nils))
  (h2:LstN S0 S2 t 3 v' (f n++[row])) (hF:∀ c o,c≠bo→sget S c=some o→q0x v c→sget S2 c=some o∧q0x v' c) (hvb:q0x v' bo)
  (he:es'=(mset es (ndA n) v' clk).1) (hkey:∀ x∈es',∃ n,x.1=ndA n) (hnd:(es'.map fun x=>x.2.2).Nodup) (hku:∀ (i j:Nat) (x y:AV×AV×Nat),es'[i]?=some x→es'[j]?=some y→x.1=y.1→i=j) (hlt:∀ x∈es',x.2.2<clk') :
  OfM S0 (supd S2 bo (.map MD es' clk')) t bo Ks (fun m=>if m=n then f n++[row] else f m) es' clk':=by
 have hg:∀ m,mget es' (ndA m)=if m=n then some v' else mget es (ndA m):=fun m=>by rw [he,mget_mset h.key]
 have hva:∀ c,Ks c→q0x v c:=fun c hc=>by
  rcases hv with hv | ⟨-,rfl⟩
  ·exact (h.yes n v hv).2.2.2 c hc
  ·intro b off k cap e;cases e
 refine ⟨by rw [q01,if_pos rfl],h.b0,hkey,hnd,hku,hlt,fun m hm=>?_,fun m u hm=>?_,fun m p u x hmp hm hp=>?_,fun c hc=>⟨(h.ks c hc).1,?_⟩⟩
 ·rw [hg] at hm
  by_cases hmn:m=n
  ·rw [if_pos hmn] at hm;cases hm
  ·rw [if_neg hmn] at hm ⊢
   exact h.no m hm
 ·rw [hg] at hm
  by_cases hmn:m=n
  ·rw [if_pos hmn] at hm ⊢
   cases hm
   refine ⟨by simp,h2.upd hvb _,hvb,fun c hc=>?_⟩
   cases ho:sget S c with
   | none=>exact absurd ho (h.ks c hc).2
   | some o=>exact (hF c o (h.ks c hc).1 ho (hva c hc)).2
  ·rw [if_neg hmn] at hm ⊢
   obtain ⟨k1,k2,k3,k4⟩:=h.yes m u hm
   refine ⟨k1,LstN.upd ?_ k3 _,k3,k4⟩
   obtain ⟨hr,hl⟩:=k2
   refine ⟨hr,?_⟩
   rcases hl with hl | ⟨b,cap,rfl,q1,q2,q3⟩
   ·exact .inl hl
   ·refine .inr ⟨b,cap,rfl,q1,?_,q3⟩
    have hav:q0x v b:=by
     rcases hv with hv | ⟨-,rfl⟩
     ·exact h.apart n m v _ (Ne.symm hmn) hv hm b _ _ _ rfl
     ·intro b off k cap e;cases e
    exact (hF b _ (Ne.symm (k3 b _ _ _ rfl)) q2 hav).1
 ·rw [hg] at hm hp
  intro b off k cap hx
  have other:∀ (m:Nd) (u:AV),m≠n→mget es (ndA m)=some u→∀ b off k cap,u=.own b off k cap→q0x v' b:=by
   intro m u hmn hm b off k cap e
   subst e
   obtain ⟨k1,k2,k3,k4⟩:=h.yes m _ hm
   have hav:q0x v b:=by
    rcases hv with hv | ⟨-,rfl⟩
    ·exact h.apart n m v _ (Ne.symm hmn) hv hm b _ _ _ rfl
    ·intro b off k cap e;cases e
   obtain ⟨hr,hl⟩:=k2
   rcases hl with ⟨e,-⟩ | ⟨b1,cap1,e,q1,q2,q3⟩
   ·cases e
   ·cases e
    exact (hF b _ (Ne.symm (k3 b _ _ _ rfl)) q2 hav).2
  by_cases hmn:m=n
  ·rw [if_pos hmn] at hm
   cases hm
   have hpn:p≠n:=fun e=>hmp (hmn.trans e.symm)
   rw [if_neg hpn] at hp
   exact other p x hpn hp b off k cap hx
  ·rw [if_neg hmn] at hm
   by_cases hpn:p=n
   ·rw [if_pos hpn] at hp
    cases hp
    subst hx
    intro b1 off1 k1 cap1 e
    exact Ne.symm (other m u hmn hm b1 off1 k1 cap1 e b off k cap rfl)
   ·rw [if_neg hpn] at hp
    exact h.apart m p u x hmp hm hp b off k cap hx
 ·rw [q01,if_neg (Ne.symm (h.ks c hc).1)]
  cases ho:sget S c with
  | none=>exact absurd ho (h.ks c hc).2
  | some o=>rw [(hF c o (h.ks c hc).1 ho (hva c hc)).1];simp
theorem OfM.push (h:OfM S0 S t bo Ks f es clk) (hs:Sub S0 S) (n:Nd) {row:List AV} {bytes:Nat} {K:q00→Prop} (hr:row.length=3) (ho:ones row=true) (hb:((f n).length+1) * bytes≤140737488355328)
  (hK:∀ S' es' clk',Sub S0 S'→OfM S0 S' t bo Ks (fun m=>if m=n then f n++[row] else f m) es' clk'→(∀ c,Ks c→sget S' c=sget S c)→K S') :
  meW S MD .nils (.map (some bo)) (ndA n) fun v S=>exW 0 v fun v70=>exW 1 v fun v76=>apW S t 3 bytes v70 (.sl 3 [row]) fun v75 S=>mtW S (.map (some bo)) v76 v75 K:=by
 have keep:∀ {v v':AV} {S1 S2:q00},(∀ c,Ks c→q0x v c)→(∀ c o,c≠bo→sget S c=some o→q0x v c→sget S2 c=some o∧q0x v' c)→∀ es' clk',∀ c,Ks c→sget (supd S2 bo (.map MD es' clk')) c=sget S c:=by
  intro v v' S1 S2 hv hF es' clk' c hc
  rw [q01,if_neg (Ne.symm (h.ks c hc).1)]
  cases ho:sget S c with
  | none=>exact absurd ho (h.ks c hc).2
  | some o=>exact (hF c o (h.ks c hc).1 ho (hv c hc)).1
 cases hq:mget es (ndA n) with
 | none=>
  have hm:=q4j hq
  have hf:=h.no n hq
  refine ⟨bo,es,clk,rfl,h.map,ke_nd.ok n,?_⟩
  rw [hm]
  dsimp only
  rw [q7p,exW_succ,q7p]
  have hsub1:Sub S0 (supd S bo (.map MD (es++[(ndA n,.nils,clk)]) (clk+1))):=Sub.supd h.b0 hs
  refine LstN.app hsub1 (LstN.nil (S0:=S0)) (fun r hr'=>by rw [List.mem_singleton.1 hr'];exact hr) (q1t fun r hr'=>by rw [List.mem_singleton.1 hr'];exact ho) (by rw [hf] at hb;simpa using hb) fun v' S2 h1 h2 h3=>?_
  rw [List.nil_append] at h2
  have hbo2:=h3 bo _ (by rw [q01,if_pos rfl]) (fun b off k cap e=>by cases e)
  have hF:∀ c o,c≠bo→sget S c=some o→q0x .nils c→sget S2 c=some o∧q0x v' c:=fun c o hc hso ha=>h3 c o (by rw [q01,if_neg (Ne.symm hc)];exact hso) ha
  have hnd:((es++[(ndA n,AV.nils,clk)]).map fun x=>x.2.2).Nodup:=by
   rw [List.map_append,List.nodup_append]
   refine ⟨h.nd,by simp,fun a ha b hb=>?_⟩
   obtain ⟨x,hx,rfl⟩:=List.mem_map.1 ha
   have:=h.lt x hx
   simp at hb
   omega
  have hset:(mset es (ndA n) v' clk)=(es++[(ndA n,v',clk)],clk+1):=by unfold mset;rw [hm]
  have hku:∀ (i j:Nat) (x y:AV×AV×Nat),(es++[(ndA n,v',clk)])[i]?=some x→(es++[(ndA n,v',clk)])[j]?=some y→x.1=y.1→i=j:=by
   intro i j x y hx hy hxy
   have hno:=mget_no h.key hq
   rw [List.getElem?_append] at hx hy
   split at hx<;>split at hy
   ·exact h.ku i j x y hx hy hxy
   ·rw [List.getElem?_singleton] at hy
    split at hy
    ·cases hy
     exact absurd hxy (hno x (List.mem_of_getElem? hx))
    ·cases hy
   ·rw [List.getElem?_singleton] at hx
    split at hx
    ·cases hx
     exact absurd hxy.symm (hno y (List.mem_of_getElem? hy))
    ·cases hx
   ·rw [List.getElem?_singleton] at hx hy
    split at hx
    ·split at hy
     ·omega
     ·cases hy
    ·cases hx
  refine ⟨bo,MD,es++[(ndA n,.nils,clk)],clk+1,es.length,ndA n,.nils,clk,rfl,hbo2.1,rfl,findIdx_bn hnd (x:=(ndA n,.nils,clk)) (by simp) rfl,by simp,?_⟩
  have e:(es++[(ndA n,AV.nils,clk)]).set es.length (ndA n,v',clk)=es++[(ndA n,v',clk)]:=by simp
  rw [e]
  refine hK _ _ _ (Sub.supd h.b0 h1) (h.put (n:=n) (v:=.nils) (.inr ⟨hq,rfl⟩) (by rw [hf];exact h2) hF hbo2.2 (by rw [hset]) (fun x hx=>?_) (by simpa using hnd) hku fun x hx=>?_) (keep (S1:=S) (fun c _ b off k cap e=>by cases e) hF _ _)
  ·rcases List.mem_append.1 hx with hx | hx
   ·exact h.key x hx
   ·rw [List.mem_singleton.1 hx];exact ⟨n,rfl⟩
  ·rcases List.mem_append.1 hx with hx | hx
   ·have:=h.lt x hx;omega
   ·rw [List.mem_singleton.1 hx];exact Nat.lt_succ_self _
 | some v=>
  obtain ⟨hne,hl,hvb,hvk⟩:=h.yes n v hq
  have hm:∃ i bn,q15 es (ndA n)=some (i,v,bn):=by
   unfold mget at hq
   cases hmf:q15 es (ndA n) with
   | none=>rw [hmf] at hq;cases hq
   | some p=>
    obtain ⟨i,u,bn⟩:=p
    rw [hmf] at hq
    simp at hq
    subst hq
    exact ⟨i,bn,rfl⟩
  obtain ⟨i,bn,hm⟩:=hm
  have hi:=mfind_key h.key hm
  refine ⟨bo,es,clk,rfl,h.map,ke_nd.ok n,?_⟩
  rw [hm]
  dsimp only
  have e0:es.set i (ndA n,v,bn)=es:=by
   apply List.ext_getElem?
   intro j
   rw [List.getElem?_set]
   split
   ·rename_i hij
    subst hij
    rw [if_pos (List.getElem?_eq_some_iff.1 hi).1,hi]
   ·rfl
  rw [e0,q7p,exW_succ,q7p]
  have e1:supd S bo (.map MD es clk)=S:=by
   funext c
   unfold supd
   split
   ·rename_i hc;subst hc;exact h.map.symm
   ·rfl
  rw [e1]
  refine LstN.app hs hl (fun r hr'=>by rw [List.mem_singleton.1 hr'];exact hr) (q1t fun r hr'=>by rw [List.mem_singleton.1 hr'];exact ho) (by simpa using hb) fun v' S2 h1 h2 h3=>?_
  have hbo2:=h3 bo _ h.map hvb
  have hF:∀ c o,c≠bo→sget S c=some o→q0x v c→sget S2 c=some o∧q0x v' c:=fun c o _ hso ha=>h3 c o hso ha
  have hset:(mset es (ndA n) v' clk)=(es.set i (ndA n,v',bn),clk):=by unfold mset;rw [hm]
  refine ⟨bo,MD,es,clk,i,ndA n,v,bn,rfl,hbo2.1,rfl,findIdx_bn h.nd hi rfl,hi,?_⟩
  have hlt:=(List.getElem?_eq_some_iff.1 hi).1
  have hmap:(es.set i (ndA n,v',bn)).map (fun x=>x.2.2)=es.map fun x=>x.2.2:=by
   rw [List.map_set]
   apply List.ext_getElem?
   intro j
   rw [List.getElem?_set]
   split
   ·rename_i hij
    subst hij
    rw [if_pos (by simpa using hlt),List.getElem?_map,hi];rfl
   ·rfl
  refine hK _ _ _ (Sub.supd h.b0 h1) (h.put (n:=n) (v:=v) (.inl hq) h2 hF hbo2.2 (by rw [hset]) (fun x hx=>?_) (by rw [hmap];exact h.nd) (fun i2 j2 x y hx hy hxy=>?_) fun x hx=>?_) (keep (S1:=S) hvk hF _ _)
  ·rcases List.mem_or_eq_of_mem_set hx with hx | rfl
   ·exact h.key x hx
   ·exact ⟨n,rfl⟩
  ·have hget:∀ (k:Nat) (z:AV×AV×Nat),(es.set i (ndA n,v',bn))[k]?=some z→∃ z',es[k]?=some z'∧z'.1=z.1:=by
    intro k z hz
    rw [List.getElem?_set] at hz
    split at hz
    ·rename_i hik
     subst hik
     cases hz
     exact ⟨_,hi,rfl⟩
    ·exact ⟨z,hz,rfl⟩
   obtain ⟨x',hx',ex⟩:=hget i2 x hx
   obtain ⟨y',hy',ey⟩:=hget j2 y hy
   exact h.ku i2 j2 x' y' hx' hy' (by rw [ex,ey,hxy])
  ·rcases List.mem_or_eq_of_mem_set hx with hx | rfl
   ·exact h.lt x hx
   ·exact h.lt (ndA n,v,bn) (List.mem_of_getElem? hi)
end
def ndD:AV→Nd
 | .agg [.str a,.str b,.str c]=>⟨⟨a,b⟩,c⟩
 | _=>⟨⟨⟨#[]⟩,⟨#[]⟩⟩,⟨#[]⟩⟩
theorem ndD_A (n:Nd):ndD (ndA n)=n:=rfl
def frzM (f:Nd→List (List AV)) (es:List (AV×AV×Nat)):List (AV×AV×Nat):=es.map fun x=>(x.1,.sl 3 (f (ndD x.1)),x.2.2)
theorem mget_frz {f:Nd→List (List AV)} {n:Nd}:∀ {es:List (AV×AV×Nat)},(∀ x∈es,∃ n,x.1=ndA n)→mget (frzM f es) (ndA n)=(mget es (ndA n)).map fun _=>.sl 3 (f n)
 | [],_=>rfl
 | x :: r,h=>by
  obtain ⟨m,hm⟩:=h x (by simp)
  have ih:=mget_frz (f:=f) (n:=n) (es:=r) fun y hy=>h y (List.mem_cons_of_mem _ hy)
  unfold frzM at ih ⊢
  rw [List.map_cons,q21,q21,hm,ndA_eq]
  dsimp only
  by_cases e:n=m
  ·subst e
   simp [ndD_A]
  ·rw [decide_eq_false e,if_neg (by simp),if_neg (by simp)]
   exact ih
section
variable {S0 S:q00} {t bo:Nat} {Ks:Nat→Prop} {f:Nd→List (List AV)} {es:List (AV×AV×Nat)} {clk:Nat}
theorem OfM.fr (h:OfM S0 S t bo Ks f es clk) {S1:q00} (h1:∀ b,sget S1 b≠none→b=bo∨Ks b∨sget S0 b≠none):FrO S1 S (.map MD es clk) (.map MD (frzM f es) clk):=by
 refine .map MD es _ clk (by simp [frzM]) fun i e e' he he'=>?_
 unfold frzM at he'
 rw [List.getElem?_map,he] at he'
 simp only [Option.map_some,Option.some.injEq] at he'
 subst he'
 obtain ⟨n,hn⟩:=h.key e (List.mem_of_getElem? he)
 refine ⟨rfl,?_,rfl⟩
 dsimp only
 rw [hn,ndD_A]
 have hg:mget es (ndA n)=some e.2.1:=by
  cases hq:mget es (ndA n) with
  | none=>exact absurd hn (mget_no h.key hq e (List.mem_of_getElem? he))
  | some u=>
   unfold mget at hq
   cases hmf:q15 es (ndA n) with
   | none=>rw [hmf] at hq;cases hq
   | some p=>
    obtain ⟨j,u',bn⟩:=p
    have hj:=mfind_key h.key hmf
    have:=h.ku i j _ _ he hj hn
    subst this
    rw [he] at hj
    cases hj
    rw [hmf] at hq
    exact hq.symm
 obtain ⟨-,⟨hr,hl⟩,hvb,hvk⟩:=h.yes n _ hg
 rcases hl with ⟨e1,e2⟩ | ⟨b,cap,e1,q1,q2,q3,-,-⟩
 ·rw [e1,e2];exact .nils 3
 ·rw [e1] at hvb hvk ⊢
  refine .own t 3 b _ cap (f n) hr ?_ q2 rfl q3
  cases hs:sget S1 b with
  | none=>rfl
  | some o=>
   rcases h1 b (by rw [hs];simp) with rfl | hk | h0
   ·exact absurd rfl (hvb _ _ _ _ rfl)
   ·exact absurd rfl (hvk b hk _ _ _ _ rfl)
   ·exact absurd q1 h0
end
set_option maxRecDepth 4000
def ndT (t:Tu):Nd:=⟨t.o,t.rl⟩
def ofR (s:List Ty) (l:List Tu) (n:Nd):List (List AV):=((ofF (q0g s l) n).map Tu.s).map ndC
theorem of_take {s:List Ty} {l:List Tu} {i:Nat} {t:Tu} (h:l[i]?=some t) (n:Nd):ofR s (l.take (i+1)) n=ofR s (l.take i) n++if q1v s t=0∧n=ndT t then [ndC t.s] else []:=by
 unfold ofR q0g ofF
 rw [q2g h]
 by_cases h1:q1v s t=0
 ·by_cases h2:n=ndT t
  ·rw [if_pos (decide_eq_true h1),if_pos ⟨h1,h2⟩,List.filter_append,List.map_append,List.map_append]
   subst h2
   simp [ndT]
  ·rw [if_pos (decide_eq_true h1),if_neg fun h=>h2 h.2,List.filter_append,List.map_append,List.map_append]
   have:(decide (t.o=n.o)&&decide (t.rl=n.rl))=false:=by
    rw [Bool.eq_false_iff]
    intro hq
    simp only [Bool.and_eq_true,decide_eq_true_eq] at hq
    refine h2 ?_
    cases n
    simp only [ndT,Nd.mk.injEq]
    exact ⟨hq.1.symm,hq.2.symm⟩
   simp [this]
 ·rw [if_neg (show ¬ (decide (q1v s t=0)=true) by simp [h1]),if_neg fun h=>h1 h.1,List.append_nil,List.append_nil]
section
variable {S0 S1:q00} {b1 b2 b3 t1 t2 t3:Nat} {x1 x2 x3:AV} {QF:AEnd→q00→Prop}
abbrev res3 (b1 b2 b3:Nat):List RW:=[.cell (.ptr b1 0) 1 false,.cell (.ptr b2 0) 1 false,.cell (.ptr b3 0) 1 false]
theorem put3 (h1:q0j S1 b1=some (t1,[x1],1)) (h2:q0j S1 b2=some (t2,[x2],1)) (h3:q0j S1 b3=some (t3,[x3],1)) (d1:b1≠b2) (d2:b1≠b3) (d3:b2≠b3)
  (n1:sget S0 b1=none) (n2:sget S0 b2=none) (n3:sget S0 b3=none) (hs:Sub S0 S1) {a:Bool} {w e:Int} (hQ:QF (.ret (.tup [.bool a,.int .i64 w,.int .i64 e])) S0) :
  stW S1 1 (.ptr b1 0) (.bool a) fun S=>stW S 1 (.ptr b2 0) (.int .i64 w) fun S=>stW S 1 (.ptr b3 0) (.int .i64 e) fun S=>rtW (res3 b1 b2 b3) QF S:=by
 (try simp only [rwp,zA,zB,zC,zD,zE,zF,zG,zH,zI,rwb,reduceIte,h1,h2,h3,d1,d2,d3,Ne.symm d1,Ne.symm d2,Ne.symm d3])
 refine q17 S0 (Sub.supd n3 (Sub.supd n2 (Sub.supd n1 hs))) ?_
 (try simp only [rwp,zA,zB,zC,zD,zE,zF,zG,zH,zI,rwb,reduceIte,h1,h2,h3,d1,d2,d3,Ne.symm d1,Ne.symm d2,Ne.symm d3])
 exact hQ
end
theorem frsh {S:q00} {b c:Nat} {o:AObj} (h:sget (supd S b o) c=none):c≠b∧sget S c=none:=by
 rw [q01] at h
 split at h
 ·cases h
 ·rename_i hn;exact ⟨fun e=>hn e.symm,h⟩
theorem q41 {Y N:Prop} (h:N):cnW (.bool false) Y N:=⟨fun h=>by (cases h),fun _=>h⟩
theorem c_engine_Check {s:List Ty} (hs:OkS s) (hN:OkN s) {l:List Tu} (hl:OkL l) (n:Nd) (who:Ob) (B:Int) :
  AFun PG nrx18 [scA s,.sl 6 (l.map tuC),.agg (obC n.o),.str n.rl,.agg (obC who),.int .i64 B] (chk15 (envE s l who) B n):=by
 intro S
 suffices key:∀ QF:AEnd→q00→Prop,QF (.ret (chk15 (envE s l who) B n)) S→ACalls PG nrx18 [scA s,.sl 6 (l.map tuC),.agg (obC n.o),.str n.rl,.agg (obC who),.int .i64 B] S QF from key _ ⟨rfl,rfl⟩
 intro QF hQ
 refine wx18 ?_
 unfold Ax18
 have q1:=q7u hs hN
 obtain ⟨x,y,z,hc⟩:=chkF_fl s
 have hz:errA (chkF s)=z:=by rw [hc,q28]
 rw [hc] at q1
 have q2:=q1q hs n.o.ty n.rl
 simp only [scA,flA] at q1 q2
 (try simp only [rwp,zA,zB,zC,zD,zE,zF,zG,zH,zI,rwb,reduceIte,scA,obC])
 intro b1 hb1 b2 hb2 b3 hb3
 obtain ⟨d21,hb2'⟩:=frsh hb2
 obtain ⟨d32,hb3'⟩:=frsh hb3
 obtain ⟨d31,hb3'⟩:=frsh hb3'
 generalize hS3:supd _ b3 _=S3
 have h31:q0j S3 b1=some (4,[.bool false],1):=by rw [← hS3];(try simp only [rwp,zA,zB,zC,zD,zE,zF,zG,zH,zI,rwb,reduceIte,d21,d31,d32,Ne.symm d21,Ne.symm d31,Ne.symm d32])
 have h32:q0j S3 b2=some (3,[.int .i64 0],1):=by rw [← hS3];(try simp only [rwp,zA,zB,zC,zD,zE,zF,zG,zH,zI,rwb,reduceIte,d21,d31,d32,Ne.symm d21,Ne.symm d31,Ne.symm d32])
 have h33:q0j S3 b3=some (30,[.int .i64 0],1):=by rw [← hS3];(try simp only [rwp,zA,zB,zC,zD,zE,zF,zG,zH,zI,rwb,reduceIte,d21,d31,d32,Ne.symm d21,Ne.symm d31,Ne.symm d32])
 have hs3:Sub S S3:=by rw [← hS3];exact Sub.supd hb3' (Sub.supd hb2' (Sub.supd hb1 (Sub.refl _)))
 have hf3:∀ b,sget S3 b≠none→b=b1∨b=b2∨b=b3∨sget S b≠none:=by
  intro b hb
  rw [← hS3,q01,q01,q01] at hb
  split at hb
  ·rename_i e;exact .inr (.inr (.inl e.symm))
  ·split at hb
   ·rename_i e;exact .inr (.inl e.symm)
   ·split at hb
    ·rename_i e;exact .inl e.symm
    ·exact .inr (.inr (.inr hb))
 have bad:∀ b:Bool,(b=true→B<0∨100000<B∨errA (chkF s)≠0)→(b=false→¬ (B<0∨100000<B∨errA (chkF s)≠0)) →
   CA18_2 QF (fun l S=>dfrW PG dfx18 (endW PG dfx18 tf_engine_Check_1 QF (dfx18.caps.map (lget l))) (panW PG dfx18 tf_engine_Check_1 QF (dfx18.caps.map (lget l))) l S)
    (.sl 6 (l.map tuC)) (.str n.rl) (.int .i64 B) (.rop [.sl 2 (s.map tyC)]) (.rop [.str n.o.ty,.str n.o.id]) (.rop [.str who.ty,.str who.id]) (.ptr b1 0) (.ptr b2 0) (.ptr b3 0) (.bool b) S3:=by
  intro b k1 k2
  unfold chk15 at hQ
  cases b
  ·have h0:=k2 rfl
   rw [if_neg (show ¬ (B<0∨100000<B∨errA (chkF (envE s l who).s)≠0) from h0)] at hQ
   have hk:errA (chkF s)=0:=by
    refine Classical.byContradiction fun hn=>h0 (.inr (.inr hn))
   have hg:=qa2 hk
   (try simp only [rwp,zA,zB,zC,zD,zE,zF,zG,zH,zI,rwb,reduceIte,CA18_2])
   refine q0b (q2 _) ?_
   rintro ae S' ⟨rfl,rfl⟩
   have he:(envE s l who).s=s:=rfl
   rw [he] at hQ
   cases hq:q0l s n.o.ty n.rl with
   | none=>
    rw [hq,if_pos rfl] at hQ
    dsimp only
    (try simp only [rwp,zA,zB,zC,zD,zE,zF,zG,zH,zI,rwb,reduceIte,q6w])
    exact put3 h31 h32 h33 (Ne.symm d21) (Ne.symm d31) (Ne.symm d32) hb1 hb2' hb3' hs3 hQ
   | some p=>
    obtain ⟨i,k,r⟩:=p
    rw [hq,if_neg (by simp)] at hQ
    dsimp only
    (try simp only [rwp,zA,zB,zC,zD,zE,zF,zG,zH,zI,rwb,reduceIte,q0i])
    intro bo hbo bp hbp
    obtain ⟨dpo,hbp'⟩:=frsh hbp
    (try simp only [rwp,zA,zB,zC,zD,zE,zF,zG,zH,zI,rwb,reduceIte])
    refine ⟨rfl,rfl,fun bc hbc=>?_⟩
    obtain ⟨dcp,hbc'⟩:=frsh hbc
    obtain ⟨dco,hbc'⟩:=frsh hbc'
    have Sn:∀ {b:Nat},sget S' b=none→b≠b1∧b≠b2∧b≠b3∧sget S b=none:=by
     intro b hb
     refine ⟨?_,?_,?_,?_⟩
     ·rintro rfl;rw [objAt_some.1 h31] at hb;cases hb
     ·rintro rfl;rw [objAt_some.1 h32] at hb;cases hb
     ·rintro rfl;rw [objAt_some.1 h33] at hb;cases hb
     ·cases hq:sget S b with
      | none=>rfl
      | some o=>rw [hs3 b o hq] at hb;cases hb
    obtain ⟨o1,o2,o3,no⟩:=Sn hbo
    obtain ⟨p1,p2,p3,np⟩:=Sn hbp'
    obtain ⟨c1,c2,c3,nc⟩:=Sn hbc'
    generalize hS5:supd _ bc _=S5
    have g5:∀ c,sget S5 c=if bc=c then some (.cells tySe (seC (envE s l who) B bo bp 0) 7) else if bp=c then some (.map MD [] 0) else if bo=c then some (.map MD [] 0) else sget S' c:=by
     intro c
     rw [← hS5,q01,q01,q01]
     rfl
    have f5:Sub S S5:=by rw [← hS5];exact Sub.supd nc (Sub.supd np (Sub.supd no hs3))
    have s51:sget S5 b1=some (.cells 4 [.bool false] 1):=by rw [g5,if_neg c1,if_neg p1,if_neg o1];exact objAt_some.1 h31
    have s52:sget S5 b2=some (.cells 3 [.int .i64 0] 1):=by rw [g5,if_neg c2,if_neg p2,if_neg o2];exact objAt_some.1 h32
    have s53:sget S5 b3=some (.cells 30 [.int .i64 0] 1):=by rw [g5,if_neg c3,if_neg p3,if_neg o3];exact objAt_some.1 h33
    have s5p:sget S5 bp=some (.map MD [] 0):=by rw [g5,if_neg dcp,if_pos rfl]
    have s5c:sget S5 bc=some (.cells tySe (seC (envE s l who) B bo bp 0) 7):=by rw [g5,if_pos rfl]
    have s5o:sget S5 bo=some (.map MD [] 0):=by rw [g5,if_neg dco,if_neg dpo,if_pos rfl]
    have hKs:∀ c,(c=b1∨c=b2∨c=b3∨c=bp∨c=bc)→c≠bo∧sget S5 c≠none:=by
     rintro c (rfl | rfl | rfl | rfl | rfl)
     ·exact ⟨Ne.symm o1,by rw [s51];simp⟩
     ·exact ⟨Ne.symm o2,by rw [s52];simp⟩
     ·exact ⟨Ne.symm o3,by rw [s53];simp⟩
     ·exact ⟨dpo,by rw [s5p];simp⟩
     ·exact ⟨dco,by rw [s5c];simp⟩
    refine LoopP.introS (fun i:Nat=>[(3,AV.str n.rl),(6,AV.rop [AV.sl 2 (List.map tyC s)]),(8,AV.rop [AV.str n.o.ty,AV.str n.o.id]),(12,AV.ptr b1 0),(13,AV.ptr b2 0),(14,AV.ptr b3 0),(17,.ptr bc 0),(50,AV.sl 6 (List.map tuC l)),(51,AV.int IntKind.i64 ↑l.length),(52,.int .i64 i)])
     (fun i S2=>i≤l.length∧Sub S S2∧(∃ es clk,OfM S S2 39 bo (fun c=>c=b1∨c=b2∨c=b3∨c=bp∨c=bc) (ofR s (l.take i)) es clk)∧∀ c,(c=b1∨c=b2∨c=b3∨c=bp∨c=bc)→sget S2 c=sget S5 c) (fun i=>l.length-i) 0
     ⟨by omega,f5,⟨[],0,⟨s5o,no,fun x hx=>(by cases hx),by simp,fun i j x y hx=>by simp at hx,fun x hx=>(by cases hx),fun m _=>rfl,fun m v hv=>(by cases hv),fun m p v u _ hv=>(by cases hv),hKs⟩⟩,fun c _=>rfl⟩ rfl ?_
    rintro i S2 ⟨hi,j1,⟨es,clk,hO⟩,j2⟩ kk hkk
    have hln:=hl.n
    have s2c:=j2 bc (by simp)
    rw [s5c] at s2c
    have s2o:=objAt_some.2 s2c
    have hc2:=q07 s2o
    (try simp only [rwp,zA,zB,zC,zD,zE,zF,zG,zH,zI,rwb,reduceIte,CA18_3])
    cases a1:decide ((i:Int)<l.length)
    ·refine q41 ?_
     have hEnd:∀ (L:LE) (x:AV) (S4:q00),L=[(12,.ptr b1 0),(13,.ptr b2 0),(14,.ptr b3 0)]∨L=[(12,.ptr b1 0),(13,.ptr b2 0),(14,.ptr b3 0),(17,.ptr bc 0)]→q2j (fun S=>rtW (res3 b1 b2 b3) QF S) (.ptr b1 0) (.ptr b2 0) (.ptr b3 0) x S4→cloW PG dfx18 tf_engine_Check_1 QF [.ptr b1 0,.ptr b2 0,.ptr b3 0] x L S4:=by
      rintro L x S4 (rfl | rfl) h<;>exact Eq.mpr (q9m (T:=fun S=>rtW (res3 b1 b2 b3) QF S)) h
     have eil:i=l.length:=by have:=of_decide_eq_false a1;omega
     subst eil
     rw [List.take_length] at hO
     rw [gx18]
     unfold Gx18
     (try simp only [rwp,zA,zB,zC,zD,zE,zF,zG,zH,zI,rwb,reduceIte])
     let S0':q00:=supd (supd (supd (supd S b1 (.cells 4 [.bool false] 1)) b2 (.cells 3 [.int .i64 0] 1)) b3 (.cells 30 [.int .i64 0] 1)) bo (.map MD (frzM (ofR s l) es) clk)
     have g0:∀ c,sget S0' c=if bo=c then some (.map MD (frzM (ofR s l) es) clk) else if b3=c then some (.cells 30 [.int .i64 0] 1) else if b2=c then some (.cells 3 [.int .i64 0] 1) else if b1=c then some (.cells 4 [.bool false] 1) else sget S c:=fun c=>rfl
     have hsub0:Sub S S0':=Sub.supd no (Sub.supd hb3' (Sub.supd hb2' (Sub.supd hb1 (Sub.refl _))))
     have hof:∀ m,ofA ((envE s l who).of m)=(mget es (ndA m)).map fun _=>AV.sl 3 (ofR s l m):=by
      intro m
      unfold ofA
      cases hm:mget es (ndA m) with
      | none=>
       have:=hO.no m hm
       unfold ofR at this
       rw [List.map_eq_nil_iff] at this
       rw [show (envE s l who).of m=(ofF (q0g s l) m).map Tu.s from rfl,this]
       rfl
      | some v=>
       have:=(hO.yes m v hm).1
       unfold ofR at this
       rw [if_neg fun h=>this (by rw [show (ofF (q0g s l) m).map Tu.s=(envE s l who).of m from rfl,h];rfl)]
       rfl
     have hfk:∀ x∈frzM (ofR s l) es,∃ n,x.1=ndA n:=by
      intro x hx
      unfold frzM at hx
      obtain ⟨y,hy,rfl⟩:=List.mem_map.1 hx
      exact hO.key y hy
     have hOk:SeOk (envE s l who) B bc bo bp S0':=by
      refine ⟨hs,sc_may hg.may,Ne.symm dcp,?_,?_,Ne.symm dco,Ne.symm dpo,⟨frzM (ofR s l) es,clk,mapObj_some.2 (by rw [g0,if_pos rfl]),fun x hx=>?_,fun m=>?_⟩,by omega,fun m=>?_⟩
      ·rw [g0,if_neg (Ne.symm dco),if_neg (Ne.symm c3),if_neg (Ne.symm c2),if_neg (Ne.symm c1)];exact nc
      ·rw [g0,if_neg (Ne.symm dpo),if_neg (Ne.symm p3),if_neg (Ne.symm p2),if_neg (Ne.symm p1)];exact np
      ·obtain ⟨m,hm⟩:=hfk x hx
       rw [hm]
       exact ke_nd.ok m
      ·rw [mget_frz hO.key];exact (hof m).symm
      ·show ((ofF (q0g s l) m).map Tu.s).length≤100000
       rw [List.length_map]
       exact Nat.le_trans (List.length_filter_le _ _) (q4n hl).n
     have q4:=c_ask hOk 50 [] [] ⟨fun x hx=>(by cases hx),rfl,fun m=>by simp [q9w]⟩ rfl n 0 (stE (envE s l who) B bc bo bp S0' 0 [] 0) ⟨by omega,0,rfl⟩
     have hfr:FrS (stE (envE s l who) B bc bo bp S0' 0 [] 0) S2:=by
      intro b o' hb
      unfold stE at hb
      rw [q01,q01,g0] at hb
      split at hb
      ·rename_i e;subst e;cases hb;exact ⟨_,(j2 _ (by simp)).trans s5p,.same _⟩
      ·split at hb
       ·rename_i e;subst e;cases hb;exact ⟨_,(j2 _ (by simp)).trans s5c,.same _⟩
       ·split at hb
        ·rename_i e
         subst e
         cases hb
         refine ⟨_,hO.map,hO.fr fun b hb=>?_⟩
         unfold stE at hb
         rw [q01,q01,g0] at hb
         split at hb
         ·rename_i e;exact .inr (.inl (by simp [e]))
         ·split at hb
          ·rename_i e;exact .inr (.inl (by simp [e]))
          ·split at hb
           ·rename_i e;exact .inl e.symm
           ·split at hb
            ·rename_i e;exact .inr (.inl (by simp [e]))
            ·split at hb
             ·rename_i e;exact .inr (.inl (by simp [e]))
             ·split at hb
              ·rename_i e;exact .inr (.inl (by simp [e]))
              ·exact .inr (.inr hb)
        ·split at hb
         ·rename_i e;subst e;cases hb;exact ⟨_,(j2 _ (by simp)).trans s53,.same _⟩
         ·split at hb
          ·rename_i e;subst e;cases hb;exact ⟨_,(j2 _ (by simp)).trans s52,.same _⟩
          ·split at hb
           ·rename_i e;subst e;cases hb;exact ⟨_,(j2 _ (by simp)).trans s51,.same _⟩
           ·exact ⟨_,j1 b o' hb,.same _⟩
     have t1:sget S0' b1=some (.cells 4 [.bool false] 1):=by rw [g0,if_neg o1,if_neg d31,if_neg d21,if_pos rfl]
     have t2:sget S0' b2=some (.cells 3 [.int .i64 0] 1):=by rw [g0,if_neg o2,if_neg d32,if_pos rfl]
     have t3:sget S0' b3=some (.cells 30 [.int .i64 0] 1):=by rw [g0,if_neg o3,if_pos rfl]
     simp only [obC] at q4
     refine q0b (ACalls.frz hfr (Frs.same _) q4) ?_
     intro ae S3 hq4
     unfold q38 at hq4
     cases ha:askQ (envE s l who) B 50 [] n 0 with
     | none=>
      rw [ha] at hq4 hQ
      obtain ⟨rfl,hx⟩:=hq4
      dsimp only
      refine hEnd _ _ _ (.inr rfl) ?_
      unfold q2j
      (try simp only [rwp,zA,zB,zC,zD,zE,zF,zG,zH,zI,rwb,reduceIte,spV])
      exact put3 (objAt_some.2 (hx _ _ t1)) (objAt_some.2 (hx _ _ t2)) (objAt_some.2 (hx _ _ t3)) (Ne.symm d21) (Ne.symm d31) (Ne.symm d32) hb1 hb2' hb3' (hsub0.trans hx) hQ
     | some p=>
      obtain ⟨b,w2⟩:=p
      rw [ha] at hq4 hQ
      obtain ⟨rfl,hw,clk',rfl⟩:=hq4
      dsimp only
      have eE:∀ c,sget (stE (envE s l who) B bc bo bp S0' w2 [] clk') c=if bp=c then some (.map MD [] clk') else if bc=c then some (.cells tySe (seC (envE s l who) B bo bp w2) 7) else sget S0' c:=fun c=>rfl
      have r1:=eE b1
      rw [if_neg p1,if_neg c1,t1] at r1
      have r2:=eE b2
      rw [if_neg p2,if_neg c2,t2] at r2
      have r3:=eE b3
      rw [if_neg p3,if_neg c3,t3] at r3
      have rc:=eE bc
      rw [if_neg (Ne.symm dcp),if_pos rfl] at rc
      have hsE:Sub S (stE (envE s l who) B bc bo bp S0' w2 [] clk'):=hsub0.trans (stE_sub hOk)
      have rco:=objAt_some.2 rc
      have rcc:=q07 rco
      have r1o:=objAt_some.2 r1
      have r1c:=q07 r1o
      generalize stE (envE s l who) B bc bo bp S0' w2 [] clk'=SE at r1 r2 r3 rc rco rcc r1o r1c hsE ⊢
      have r2o:=objAt_some.2 r2
      have r3o:=objAt_some.2 r3
      (try simp only [rwp,zA,zB,zC,zD,zE,zF,zG,zH,zI,rwb,reduceIte,r1o,r1c,rcc,rco,seC,c1,Ne.symm c1,kpW_cons,d21,d31,d32,Ne.symm d21,Ne.symm d31,Ne.symm d32,r2o,r3o])
      refine hEnd _ _ _ (.inl rfl) ?_
      unfold q2j
      (try simp only [rwp,zA,zB,zC,zD,zE,zF,zG,zH,zI,rwb,reduceIte])
      refine q17 S (Sub.supd hb3' (Sub.supd hb2' (Sub.supd hb1 hsE))) ?_
      (try simp only [rwp,zA,zB,zC,zD,zE,zF,zG,zH,zI,rwb,reduceIte,r1o,r2o,r3o,d21,d31,d32,Ne.symm d21,Ne.symm d31,Ne.symm d32])
      exact hQ
    ·have hlt:=of_decide_eq_true a1
     obtain ⟨t,ht⟩:=q0h hlt
     have q3:=q5o hs (hl.ok t (List.mem_of_getElem? ht))
     simp only [scA] at q3
     (try simp only [rwp,zA,zB,zC,zD,zE,zF,zG,zH,zI,rwb,reduceIte,ht,tuC])
     refine q05 q3 ?_
     (try simp only [rwp,zA,zB,zC,zD,zE,zF,zG,zH,zI,rwb,reduceIte,hc2,seC])
     have hnx:=of_take (s:=s) ht
     cases a2:decide (q1v s t=0)
     ·(try simp only [rwp,zA,zB,zC,zD,zE,zF,zG,zH,zI,rwb,reduceIte,CA18_4])
      (simp (disch:=omega) only [q04])
      have e:ofR s (l.take (i+1))=ofR s (l.take i):=by
       funext m
       rw [hnx,if_neg fun h=>(of_decide_eq_false a2) h.1,List.append_nil]
      exact q08 rfl (hkk (i+1) S2 ⟨by omega,j1,⟨es,clk,by rw [e];exact hO⟩,j2⟩ (by omega))
     ·(try simp only [rwp,zA,zB,zC,zD,zE,zF,zG,zH,zI,rwb,reduceIte])
      refine hO.push j1 (ndT t) rfl rfl ?_ fun S4 es2 clk2 u1 u2 u3=>?_
      ·have:(ofR s (l.take i) (ndT t)).length≤i:=by
        unfold ofR ofF q0g
        rw [List.length_map,List.length_map]
        exact Nat.le_trans (List.length_filter_le _ _) (Nat.le_trans (List.length_filter_le _ _) (List.length_take_le _ _))
       omega
      ·(try simp only [rwp,zA,zB,zC,zD,zE,zF,zG,zH,zI,rwb,reduceIte,CA18_4])
       (simp (disch:=omega) only [q04])
       have e:ofR s (l.take (i+1))=fun m=>if m=ndT t then ofR s (l.take i) (ndT t)++[ndC t.s] else ofR s (l.take i) m:=by
        funext m
        rw [hnx]
        by_cases hm:m=ndT t
        ·rw [if_pos ⟨of_decide_eq_true a2,hm⟩,if_pos hm,hm]
        ·rw [if_neg fun h=>hm h.2,if_neg hm,List.append_nil]
       exact q08 rfl (hkk (i+1) S4 ⟨by omega,u1,⟨es2,clk2,by rw [e];exact u2⟩,fun c hc=>(u3 c hc).trans (j2 c hc)⟩ (by omega))
  ·rw [if_pos (show (B<0∨100000<B∨errA (chkF (envE s l who).s)≠0) from k1 rfl)] at hQ
   (try simp only [rwp,zA,zB,zC,zD,zE,zF,zG,zH,zI,rwb,reduceIte,CA18_2])
   exact put3 h31 h32 h33 (Ne.symm d21) (Ne.symm d31) (Ne.symm d32) hb1 hb2' hb3' hs3 hQ
 have hbad:∀ b:Bool,b=(!decide (z=0)||decide (B<0)||decide (100000<B))→(b=true→B<0∨100000<B∨errA (chkF s)≠0)∧(b=false→¬ (B<0∨100000<B∨errA (chkF s)≠0)):=by
  rintro b rfl
  rw [hz]
  constructor
  ·intro h
   simp only [Bool.or_eq_true,Bool.not_eq_true',decide_eq_true_eq,decide_eq_false_iff_not] at h
   omega
  ·intro h
   simp only [Bool.or_eq_false_iff,Bool.not_eq_false',decide_eq_true_eq,decide_eq_false_iff_not] at h
   omega
 (try simp only [rwp,zA,zB,zC,zD,zE,zF,zG,zH,zI,rwb,reduceIte,CA18_1])
 cases hb:(decide (B<0)||decide (100000<B))
 ·(try simp only [rwp,zA,zB,zC,zD,zE,zF,zG,zH,zI,rwb,reduceIte])
  refine q05 q1 ?_
  (try simp only [rwp,zA,zB,zC,zD,zE,zF,zG,zH,zI,rwb,reduceIte])
  have e:(!decide (z=0))=(!decide (z=0)||decide (B<0)||decide (100000<B)):=by rw [Bool.or_assoc,hb,Bool.or_false]
  exact bad _ (hbad _ e).1 (hbad _ e).2
 ·(try simp only [rwp,zA,zB,zC,zD,zE,zF,zG,zH,zI,rwb,reduceIte])
  refine bad true (fun _=>?_) (fun h=>by cases h)
  simp only [Bool.or_eq_true,decide_eq_true_eq] at hb
  omega
set_option maxRecDepth 4000
theorem q4c {o:Ob} (ho:OkO o):AFun PG nrx40 [.agg (obC o)] (.str (q4h o)):=by
 intro S
 refine wx40 ?_
 unfold Bx40
 (try simp only [rwp,zA,zB,zC,zD,zE,zF,zG,zH,zI,rwb,reduceIte,obC])
 refine q05 (q0v ho.ty) ?_
 have h1:=ho.ty
 have h2:=ho.id
 (try simp only [rwp,zA,zB,zC,zD,zE,zF,zG,zH,zI,rwb,reduceIte])
 refine q05 (c_ref10_ID ho.id) ?_
 cases a1:q0q o.ty<;>cases a2:idB o.id<;>(try simp only [rwp,zA,zB,zC,zD,zE,zF,zG,zH,zI,rwb,reduceIte,C40_1,ByteArray.size_append])
 ·exact q02 ⟨by simp [q4h,obB,a1],rfl⟩
 ·exact q02 ⟨by simp [q4h,obB,a1],rfl⟩
 ·exact q02 ⟨by simp [q4h,obB,a1,a2],rfl⟩
 ·have:(ByteArray.mk #[58]).size=1:=rfl
  exact ⟨by omega,by omega,q02 ⟨by simp [q4h,obB,a1,a2],rfl⟩⟩
theorem q6r {n:Nd} (hn:OkD n):AFun PG nrx39 [.agg (ndC n)] (.str (q4v n)):=by
 intro S
 refine wx39 ?_
 unfold Bx39
 (try simp only [rwp,zA,zB,zC,zD,zE,zF,zG,zH,zI,rwb,reduceIte,ndC])
 have q:=q4c hn.o
 simp only [obC] at q
 have h1:=q5v hn.o
 have h2:=hn.rl
 refine q05 q ?_
 (try simp only [rwp,zA,zB,zC,zD,zE,zF,zG,zH,zI,rwb,reduceIte])
 refine q05 (q0v hn.rl) ?_
 (try simp only [rwp,zA,zB,zC,zD,zE,zF,zG,zH,zI,rwb,reduceIte])
 rw [q5c]
 cases a1:obB n.o
 ·(try simp only [rwp,zA,zB,zC,zD,zE,zF,zG,zH,zI,rwb,reduceIte,C39_1])
  exact q02 ⟨by simp [q4v,q4h,a1],rfl⟩
 ·cases a2:decide (n.rl=⟨#[]⟩)
  ·(try simp only [rwp,zA,zB,zC,zD,zE,zF,zG,zH,zI,rwb,reduceIte,C39_1,a2])
   have a2:=of_decide_eq_false a2
   cases a3:q0q n.rl
   ·(try simp only [rwp,zA,zB,zC,zD,zE,zF,zG,zH,zI,rwb,reduceIte])
    exact q02 ⟨by simp [q4v,a1,a2,a3],rfl⟩
   ·(try simp only [rwp,zA,zB,zC,zD,zE,zF,zG,zH,zI,rwb,reduceIte,ByteArray.size_append])
    have:(ByteArray.mk #[35]).size=1:=rfl
    exact ⟨by omega,by omega,q02 ⟨by simp [q4v,a1,a2,a3],rfl⟩⟩
  ·(try simp only [rwp,zA,zB,zC,zD,zE,zF,zG,zH,zI,rwb,reduceIte,C39_1,a2])
   have a2:=of_decide_eq_true a2
   exact q02 ⟨by simp [q4v,a1,a2],rfl⟩
theorem q8v {t:Tu} (ht:OkU t):AFun PG nrx120 [.agg (tuC t)] (.str (q9f t)):=by
 intro S
 refine wx120 ?_
 unfold Bx120
 (try simp only [rwp,zA,zB,zC,zD,zE,zF,zG,zH,zI,rwb,reduceIte,tuC])
 have q1:=q4c ht.o
 have q2:=q6r ht.s
 simp only [obC] at q1
 simp only [ndC] at q2
 have h1:=q5v ht.o
 have h2:=showN_le ht.s
 have h3:=ht.rl
 refine q05 q1 ?_
 (try simp only [rwp,zA,zB,zC,zD,zE,zF,zG,zH,zI,rwb,reduceIte])
 refine q05 q2 ?_
 (try simp only [rwp,zA,zB,zC,zD,zE,zF,zG,zH,zI,rwb,reduceIte])
 refine q05 (q0v ht.rl) ?_
 (try simp only [rwp,zA,zB,zC,zD,zE,zF,zG,zH,zI,rwb,reduceIte])
 have e:=tuB_eq t
 rw [q5c,showN_nil]
 cases a1:obB t.o
 ·(try simp only [rwp,zA,zB,zC,zD,zE,zF,zG,zH,zI,rwb,reduceIte,C120_1,C120_2])
  exact q02 ⟨by simp [q9f,e,a1],rfl⟩
 ·cases a2:(obB t.s.o&&(decide (t.s.rl=⟨#[]⟩)||q0q t.s.rl))
  ·(try simp only [rwp,zA,zB,zC,zD,zE,zF,zG,zH,zI,rwb,reduceIte,C120_1,C120_2])
   exact q02 ⟨by simp only [q9f,e,a1,a2];rfl,rfl⟩
  ·(try simp only [rwp,zA,zB,zC,zD,zE,zF,zG,zH,zI,rwb,reduceIte,C120_1])
   cases a3:q0q t.rl
   ·(try simp only [rwp,zA,zB,zC,zD,zE,zF,zG,zH,zI,rwb,reduceIte,C120_2])
    exact q02 ⟨by simp only [q9f,e,a1,a2,a3];rfl,rfl⟩
   ·(try simp only [rwp,zA,zB,zC,zD,zE,zF,zG,zH,zI,rwb,reduceIte,C120_2,ByteArray.size_append])
    have:(ByteArray.mk #[35]).size=1:=rfl
    have:(ByteArray.mk #[64]).size=1:=rfl
    exact ⟨by omega,by omega,by omega,by omega,q02 ⟨by simp only [q9f,e,a1,a2,a3];rfl,rfl⟩⟩
theorem c_ref13_Allowed {s:List Ty} (hs:OkS s) {t:Tu} (ht:OkU t):AFun PG nrx68 [scA s,.agg (tuC t)] (.int .i64 (q1v s t)):=by
 intro S
 refine wx68 ?_
 unfold Bx68
 have q:=q8v ht
 simp only [tuC] at q
 have hty:=hs.types
 (try simp only [rwp,zA,zB,zC,zD,zE,zF,zG,zH,zI,rwb,reduceIte,scA,tuC])
 refine q05 q ?_
 (try simp only [rwp,zA,zB,zC,zD,zE,zF,zG,zH,zI,rwb,reduceIte])
 rw [showT_nil]
 cases a1:tuB t
 ·(try simp only [rwp,zA,zB,zC,zD,zE,zF,zG,zH,zI,rwb,reduceIte])
  exact q02 ⟨by simp [q1v,a1],rfl⟩
 ·(try simp only [rwp,zA,zB,zC,zD,zE,zF,zG,zH,zI,rwb,reduceIte])
  have q2:=q3h hs t.o.ty t.rl
  simp only [scA] at q2
  have loop:∀ (v5:List AV) (fd:Bool) (K:Bool→Prop),(∀ b:Bool,b=(typF s t.s.o.ty).isSome→C68_2 (fun ae S'=>ae=.ret (.int .i64 (q1v s t))∧S'=S) (.rop (tuC t)) (.rop v5) (.bool (!fd||!b)) S) →
    LoopP (fun r0 l S1=>C68_1 (fun ae S'=>ae=.ret (.int .i64 (q1v s t))∧S'=S) r0 (lget l 2) (lget l 3) (lget l 5) (lget l 6) (lget l 7) (lget l 8) S1) [(2,.rop [.sl 2 (s.map tyC)]),(3,.rop (tuC t)),(5,.rop v5),(6,.bool fd),(7,.bool false),(8,.int .i64 0)] S:=by
   intro v5 fd K hK
   refine LoopP.intro (fun i:Nat=>[(2,.rop [.sl 2 (s.map tyC)]),(3,.rop (tuC t)),(5,.rop v5),(6,.bool fd),(7,.bool ((s.take i).any fun u=>decide (u.name=t.s.o.ty))),(8,.int .i64 i)]) (fun _=>S) (fun i=>i≤s.length) (fun i=>s.length-i) 0 (by omega) rfl (Sub.refl S) ?_
   intro i hi k hk
   (try simp only [rwp,zA,zB,zC,zD,zE,zF,zG,zH,zI,rwb,reduceIte,C68_1])
   (refine q03 (fun hlt=>?_) (fun hlt=>?_)<;>(try simp only [hlc] at hlt))
   ·obtain ⟨u,hu⟩:=q0h hlt
    have hn:=hk (i+1) (by omega) (by omega)
    rw [q85 hu] at hn
    cases a2:(s.take i).any fun u=>decide (u.name=t.s.o.ty)
    ·rw [a2,Bool.false_or] at hn
     (try simp only [rwp,zA,zB,zC,zD,zE,zF,zG,zH,zI,rwb,reduceIte,hu,tyC,tuC])
     (simp (disch:=omega) only [q04])
     exact q08 rfl hn
    ·rw [a2,Bool.true_or] at hn
     (try simp only [rwp,zA,zB,zC,zD,zE,zF,zG,zH,zI,rwb,reduceIte,hu,tyC,tuC])
     (simp (disch:=omega) only [q04])
     exact q08 rfl hn
   ·have e:s.take i=s:=List.take_of_length_le (by omega)
    rw [e,typ_any]
    have:=hK _ rfl
    cases fd
    ·(try simp only [rwp,zA,zB,zC,zD,zE,zF,zG,zH,zI,rwb,reduceIte])
     simpa only [Bool.not_false,Bool.true_or] using this
    ·(try simp only [rwp,zA,zB,zC,zD,zE,zF,zG,zH,zI,rwb,reduceIte])
     simpa only [Bool.not_true,Bool.false_or] using this
  cases hq:q0l s t.o.ty t.rl with
  | none=>
   rw [hq] at q2
   refine q05 q2 ?_
   (try simp only [rwp,zA,zB,zC,zD,zE,zF,zG,zH,zI,rwb,reduceIte,q6w])
   refine loop _ false (fun _=>True) fun b hb=>?_
   (try simp only [rwp,zA,zB,zC,zD,zE,zF,zG,zH,zI,rwb,reduceIte,C68_2])
   exact q02 ⟨by simp [q1v,a1,hq],rfl⟩
  | some q3=>
   obtain ⟨i,k,r⟩:=q3
   obtain ⟨-,ty,h2,-,h4⟩:=q1h hq
   have hok:=(hs.at h2).at h4
   have hrl:=hok.refs
   rw [hq] at q2
   refine q05 q2 ?_
   (try simp only [rwp,zA,zB,zC,zD,zE,zF,zG,zH,zI,rwb,reduceIte,q0i])
   refine loop _ true (fun _=>True) fun b hb=>?_
   cases b
   ·(try simp only [rwp,zA,zB,zC,zD,zE,zF,zG,zH,zI,rwb,reduceIte,C68_2])
    exact q02 ⟨by simp only [q1v,a1,hq,← hb];rfl,rfl⟩
   ·(try simp only [rwp,zA,zB,zC,zD,zE,zF,zG,zH,zI,rwb,reduceIte,C68_2])
    have hval:q1v s t=if r.refs.any (fun f=>decide (t.s.o.ty=f.ty)&&decide (t.s.rl=f.rl)) then 0 else 10:=by simp only [q1v,a1,hq,← hb];rfl
    refine LoopP.intro (fun i:Nat=>[(3,.rop (tuC t)),(5,.rop [.str r.name,.sl 2 (r.refs.map rfC),.int .i64 r.ex.kind,.str r.ex.name,.str r.ex.over,.sl 4 (r.ex.kids.map exC)]),(9,.int .i64 i)]) (fun _=>S) (fun i=>i≤r.refs.length∧(r.refs.take i).any (fun f=>decide (t.s.o.ty=f.ty)&&decide (t.s.rl=f.rl))=false) (fun i=>r.refs.length-i) 0 ⟨by omega,rfl⟩ rfl (Sub.refl S) ?_
    rintro i ⟨hi,hn⟩ k hk
    (try simp only [rwp,zA,zB,zC,zD,zE,zF,zG,zH,zI,rwb,reduceIte,C68_3])
    (refine q03 (fun hlt=>?_) (fun hlt=>?_)<;>(try simp only [hlc] at hlt))
    ·obtain ⟨f,hf⟩:=q0h hlt
     have hs:=q85 (p:=fun f:Rf=>decide (t.s.o.ty=f.ty)&&decide (t.s.rl=f.rl)) hf
     rw [hn,Bool.false_or] at hs
     (try simp only [rwp,zA,zB,zC,zD,zE,zF,zG,zH,zI,rwb,reduceIte,hf,rfC,tuC])
     have comm:∀ a b:ByteArray,decide (a=b)=decide (b=a):=fun a b=>by rw [Bool.eq_iff_iff];simp [eq_comm]
     rw [comm f.ty]
     cases b1:decide (t.s.o.ty=f.ty)
     ·(try simp only [rwp,zA,zB,zC,zD,zE,zF,zG,zH,zI,rwb,reduceIte])
      (simp (disch:=omega) only [q04])
      exact q08 rfl (hk (i+1) ⟨by omega,by rw [hs,b1];rfl⟩ (by omega))
     ·(try simp only [rwp,zA,zB,zC,zD,zE,zF,zG,zH,zI,rwb,reduceIte,hf,rfC,tuC])
      rw [comm f.rl]
      cases b2:decide (t.s.rl=f.rl)
      ·(try simp only [rwp,zA,zB,zC,zD,zE,zF,zG,zH,zI,rwb,reduceIte])
       (simp (disch:=omega) only [q04])
       exact q08 rfl (hk (i+1) ⟨by omega,by rw [hs,b1,b2];rfl⟩ (by omega))
      ·(try simp only [rwp,zA,zB,zC,zD,zE,zF,zG,zH,zI,rwb,reduceIte])
       refine q02 ⟨?_,rfl⟩
       rw [hval,if_pos (List.any_eq_true.2 ⟨f,List.mem_of_getElem? hf,by rw [b1,b2];rfl⟩)]
    ·have e:r.refs.take i=r.refs:=List.take_of_length_le (by omega)
     rw [e] at hn
     exact q02 ⟨by rw [hval,hn];rfl,rfl⟩
theorem q69 {s:List Ty} (hs:OkS s) {l:List Tu} (hl:OkL l):AFun PG nrx29 [scA s,.sl 6 (l.map tuC)] (.sl 6 ((q0g s l).map tuC)):=by
 intro S
 refine wx29 ?_
 unfold Bx29
 have hn:=hl.n
 (try simp only [rwp,zA,zB,zC,zD,zE,zF,zG,zH,zI,rwb,reduceIte,scA])
 refine LoopP.introS (fun p:Nat×AV=>[(1,.sl 6 (l.map tuC)),(2,.rop [.sl 2 (s.map tyC)]),(5,p.2),(6,.int .i64 p.1)]) (fun p S'=>p.1≤l.length∧Sub S S'∧LstN S S' tyTu 6 p.2 ((q0g s (l.take p.1)).map tuC)) (fun p=>l.length-p.1) (0,.nils) ⟨by omega,Sub.refl S,LstN.nil⟩ rfl ?_
 rintro ⟨i,v⟩ S' ⟨hi,hsub,hv⟩ k hk
 dsimp only at hi hsub hv
 (try simp only [rwp,zA,zB,zC,zD,zE,zF,zG,zH,zI,rwb,reduceIte,C29_1])
 (refine q03 (fun hlt=>?_) (fun hlt=>?_)<;>(try simp only [hlc] at hlt))
 ·obtain ⟨t,ht⟩:=q0h hlt
  have q:=c_ref13_Allowed hs (hl.ok t (List.mem_of_getElem? ht))
  simp only [scA,tuC] at q
  have e:=q2g (p:=fun t=>decide (q1v s t=0)) ht
  (try simp only [rwp,zA,zB,zC,zD,zE,zF,zG,zH,zI,rwb,reduceIte,ht,tuC])
  refine q05 q ?_
  (try simp only [rwp,zA,zB,zC,zD,zE,zF,zG,zH,zI,rwb,reduceIte])
  have hlen:(q0g s (l.take i)).length≤i:=Nat.le_trans (List.length_filter_le _ _) (by rw [List.length_take];omega)
  cases a1:decide (q1v s t=0)
  ·rw [a1] at e
   (try simp only [rwp,zA,zB,zC,zD,zE,zF,zG,zH,zI,rwb,reduceIte])
   (simp (disch:=omega) only [q04])
   exact q08 rfl (hk (i+1,v) S' ⟨by dsimp only;omega,hsub,by dsimp only;rw [q0g,e];simpa [q0g] using hv⟩ (by dsimp only;omega))
  ·rw [a1] at e
   (try simp only [rwp,zA,zB,zC,zD,zE,zF,zG,zH,zI,rwb,reduceIte,ht,tuC])
   refine LstN.tu (t:=t) hsub hv (by omega) fun v' S2 h1 h2=>?_
   (simp (disch:=omega) only [q04])
   exact q08 rfl (hk (i+1,v') S2 ⟨by dsimp only;omega,h1,by dsimp only;rw [q0g,e];exact h2⟩ (by dsimp only;omega))
 ·have e:l.take i=l:=List.take_of_length_le (by omega)
  rw [e] at hv
  exact q3l hsub hv ⟨rfl,rfl⟩
theorem c_ref13_Of {l:List Tu} (hl:OkL l) (n:Nd):AFun PG nrx151 [.sl 6 (l.map tuC),.agg (obC n.o),.str n.rl] (.sl 6 ((ofF l n).map tuC)):=by
 intro S
 refine wx151 ?_
 unfold Bx151
 have hn:=hl.n
 (try simp only [rwp,zA,zB,zC,zD,zE,zF,zG,zH,zI,rwb,reduceIte,obC])
 refine LoopP.introS (fun p:Nat×AV=>[(0,.sl 6 (l.map tuC)),(2,.str n.rl),(4,.rop [.str n.o.ty,.str n.o.id]),(7,p.2),(8,.int .i64 p.1)]) (fun p S'=>p.1≤l.length∧Sub S S'∧LstN S S' tyTu 6 p.2 ((ofF (l.take p.1) n).map tuC)) (fun p=>l.length-p.1) (0,.nils) ⟨by omega,Sub.refl S,LstN.nil⟩ rfl ?_
 rintro ⟨i,v⟩ S' ⟨hi,hsub,hv⟩ k hk
 dsimp only at hi hsub hv
 (try simp only [rwp,zA,zB,zC,zD,zE,zF,zG,zH,zI,rwb,reduceIte,C151_1])
 (refine q03 (fun hlt=>?_) (fun hlt=>?_)<;>(try simp only [hlc] at hlt))
 ·obtain ⟨t,ht⟩:=q0h hlt
  have e:=q2g (p:=fun t=>decide (t.o=n.o)&&decide (t.rl=n.rl)) ht
  have eo:decide (t.o=n.o)=(decide (t.o.ty=n.o.ty)&&decide (t.o.id=n.o.id)):=by
   rw [Bool.eq_iff_iff]
   cases t.o;cases n.o
   simp
  have hlen:(ofF (l.take i) n).length≤i:=Nat.le_trans (List.length_filter_le _ _) (by rw [List.length_take];omega)
  have no:(decide (t.o=n.o)&&decide (t.rl=n.rl))=false→C151_2 (fun ae S'=>ae=.ret (.sl 6 ((ofF l n).map tuC))∧S'=S) k (.sl 6 (l.map tuC)) (.str n.rl) (.rop [.str n.o.ty,.str n.o.id]) v (.int .i64 i) (.bool false) S':=fun h=>by
   rw [h] at e
   (try simp only [rwp,zA,zB,zC,zD,zE,zF,zG,zH,zI,rwb,reduceIte,C151_2])
   (simp (disch:=omega) only [q04])
   exact q08 rfl (hk (i+1,v) S' ⟨by dsimp only;omega,hsub,by dsimp only;rw [ofF,e];simpa [ofF] using hv⟩ (by dsimp only;omega))
  (try simp only [rwp,zA,zB,zC,zD,zE,zF,zG,zH,zI,rwb,reduceIte,ht,tuC,q6o])
  cases a1:decide (t.o=n.o)
  ·rw [← eo,a1]
   (try simp only [rwp,zA,zB,zC,zD,zE,zF,zG,zH,zI,rwb,reduceIte])
   exact no (by rw [a1];rfl)
  ·rw [← eo,a1]
   (try simp only [rwp,zA,zB,zC,zD,zE,zF,zG,zH,zI,rwb,reduceIte,ht,tuC])
   cases a2:decide (t.rl=n.rl)
   ·exact no (by rw [a1,a2];rfl)
   ·rw [a1,a2] at e
    (try simp only [rwp,zA,zB,zC,zD,zE,zF,zG,zH,zI,rwb,reduceIte,C151_2,ht,tuC])
    refine LstN.tu (t:=t) hsub hv (by omega) fun v' S2 h1 h2=>?_
    (simp (disch:=omega) only [q04])
    exact q08 rfl (hk (i+1,v') S2 ⟨by dsimp only;omega,h1,by dsimp only;rw [ofF,e];exact h2⟩ (by dsimp only;omega))
 ·have e:l.take i=l:=List.take_of_length_le (by omega)
  rw [e] at hv
  exact q3l hsub hv ⟨rfl,rfl⟩
set_option maxRecDepth 4000
def LstW (S0 S:q00) (t sz:Nat) (v:AV) (rows:List (List AV)):Prop:=
 (∀ r∈rows,r.length=sz)∧((v=.nils∧rows=[])∨∃ b cap cs,v=.own b 0 rows.length cap∧sget S0 b=none∧sget S b=some (.cells t cs (cap * sz))∧cs.take (rows.length * sz)=rows.flatten∧rows.length * sz≤cs.length∧rows.length≤cap∧cap≤maxLen)
section
variable {S0 S:q00} {t sz bytes:Nat} {v:AV} {rows xs:List (List AV)} {K:AV→q00→Prop}
theorem LstW.nil:LstW S0 S t sz .nils []:=⟨fun r hr=>by (cases hr),.inl ⟨rfl,rfl⟩⟩
theorem LstW.upd (h:LstW S0 S t sz v rows) {c:Nat} (hc:q0x v c) (o:AObj):LstW S0 (supd S c o) t sz v rows:=by
 obtain ⟨hr,h⟩:=h
 refine ⟨hr,?_⟩
 rcases h with h | ⟨b,cap,cs,rfl,h1,h2,h3⟩
 ·exact .inl h
 ·exact .inr ⟨b,cap,cs,rfl,h1,by rw [q01,if_neg (hc b 0 _ _ rfl)];exact h2,h3⟩
theorem LstW.app (hs:Sub S0 S) (h:LstW S0 S t sz v rows) {x:List AV} (hx:x.length=sz) (ho:ones x=true) (hb:(rows.length+1) * bytes≤140737488355328)
  (hK:∀ v' S',Sub S0 S'→LstW S0 S' t sz v' (rows++[x])→(∀ c o,sget S c=some o→q0x v c→sget S' c=some o∧q0x v' c)→K v' S'):apW S t sz bytes v (.sl sz [x]) K:=by
 refine ⟨1,x,by simp [appX],ho,?_⟩
 obtain ⟨hr,h⟩:=h
 have hall:∀ r∈rows++[x],r.length=sz:=fun r hm=>(List.mem_append.1 hm).elim (hr r) fun h=>by rw [List.mem_singleton.1 h];exact hx
 have hfl:(rows++[x]).flatten.length=(rows.length+1) * sz:=by rw [q25 hall];simp
 rcases h with ⟨rfl,rfl⟩ | ⟨b,cap,cs,rfl,h1,h2,h3,h4,h5,h6⟩
 ·dsimp only
  simp only [List.length_nil,Nat.zero_add] at hb
  refine ⟨hb,?_⟩
  rw [if_neg (by decide)]
  intro b cap hbn k1 k2
  have hb0:=Sub.none hs hbn
  refine hK _ _ (hs.supd hb0) ⟨hall,.inr ⟨b,cap,x,by simp,hb0,by rw [q01,if_pos rfl],?_,by simp [hx],by simpa using k1,k2⟩⟩ fun c o hc _=>?_
  ·simp [List.take_of_length_le,hx]
  ·have hne:b≠c:=q0f hbn hc
   exact ⟨by rw [q01,if_neg hne];exact hc,fun b' off n cap h=>by cases h;exact Ne.symm hne⟩
 ·refine ⟨_,h2,h5,h6,h4,hb,fun b' cap' k1 k2 k3=>?_⟩
  rw [h3]
  have hb0:sget S0 b'=none:=by
   rcases k1 with rfl | k1
   ·exact h1
   ·exact Sub.none hs k1
  have hsub:Sub S0 (supd (sdel S b) b' (.cells t (rows.flatten++x) (cap' * sz))):=by
   refine Sub.supd hb0 fun c o hc=>?_
   have hne:b≠c:=by rintro rfl;rw [h1] at hc;cases hc
   rw [q0a,if_neg hne]
   exact hs c o hc
  refine hK _ _ hsub ⟨hall,.inr ⟨b',cap',rows.flatten++x,by simp,hb0,by rw [q01,if_pos rfl],?_,?_,by simpa using k2,k3⟩⟩ fun c o hc ha=>?_
  ·have e:rows.flatten++x=(rows++[x]).flatten:=by simp
   rw [e,List.take_of_length_le (by rw [hfl];simp)]
  ·have e:rows.flatten++x=(rows++[x]).flatten:=by simp
   rw [e,hfl];simp
  ·have hcb:c≠b:=ha b 0 _ _ rfl
   have hcb':b'≠c:=by
    rcases k1 with rfl | k1
    ·exact Ne.symm hcb
    ·exact q0f k1 hc
   exact ⟨by rw [q01,if_neg hcb',q0a,if_neg (Ne.symm hcb)];exact hc,fun b'' off n cap h=>by cases h;exact Ne.symm hcb'⟩
theorem LstW.one (h:LstW S0 S t sz v rows):Go.HL.one v=true:=by
 obtain ⟨hr,h⟩:=h
 rcases h with ⟨rfl,-⟩ | ⟨b,cap,cs,rfl,-⟩<;>rfl
theorem LstW.cut {x:List AV} (h:LstW S0 S t sz v (rows++[x])):∃ b cap,v=.own b 0 (rows.length+1) cap∧LstW S0 S t sz (.own b 0 rows.length cap) rows∧rows.length+1≤cap:=by
 obtain ⟨hr,h⟩:=h
 rcases h with ⟨rfl,h⟩ | ⟨b,cap,cs,rfl,h1,h2,h3,h4,h5,h6⟩
 ·simp at h
 ·have hr':∀ r∈rows,r.length=sz:=fun r hm=>hr r (List.mem_append.2 (.inl hm))
  simp only [List.length_append,List.length_singleton] at *
  refine ⟨b,cap,rfl,⟨hr',.inr ⟨b,cap,cs,rfl,h1,h2,?_,?_,by omega,h6⟩⟩,h5⟩
  ·have hl:=q25 hr'
   have h7:(cs.take ((rows.length+1) * sz)).take (rows.length * sz)=rows.flatten:=by
    rw [h3,List.flatten_append,List.take_append_of_le_length (by rw [hl];exact Nat.le_refl _),List.take_of_length_le (by rw [hl];exact Nat.le_refl _)]
   rw [List.take_take,Nat.min_eq_left (Nat.mul_le_mul_right _ (by omega))] at h7
   exact h7
  ·exact Nat.le_trans (Nat.mul_le_mul_right _ (by omega)) h4
theorem LstW.ln {K:AV→Prop} {S':q00} (h:LstW S0 S t sz v rows):lnW S' 1 v K=K (.int .i64 rows.length):=by
 obtain ⟨hr,⟨rfl,rfl⟩ | ⟨b,cap,cs,rfl,-⟩⟩:=h
 ·rw [q9y];rfl
 ·rw [lnW_own]
theorem LstW.get (h:LstW S0 S t sz v rows) {i:Nat} {r:List AV} (hi:rows[i]?=some r):∃ b cap cs,v=.own b 0 rows.length cap∧q2w S b=some cs∧(cs.drop (i * sz)).take sz=r∧i * sz+sz≤cs.length:=by
 obtain ⟨hr,⟨rfl,rfl⟩ | ⟨b,cap,cs,rfl,h1,h2,h3,h4,h5,h6⟩⟩:=h
 ·simp at hi
 ·have hlt:=(List.getElem?_eq_some_iff.1 hi).1
  have hrl:=hr r (List.mem_of_getElem? hi)
  have hle:i * sz+sz≤rows.length * sz:=by
   calc i * sz+sz=(i+1) * sz:=by rw [Nat.succ_mul]
    _≤rows.length * sz:=Nat.mul_le_mul_right _ hlt
  refine ⟨b,cap,cs,rfl,q07 (objAt_some.2 h2),?_,by omega⟩
  apply List.ext_getElem?
  intro j
  rw [List.getElem?_take]
  by_cases hj:j<sz
  ·rw [if_pos hj,List.getElem?_drop]
   have hu:r[j]?=some (r[j]'(by omega)):=List.getElem?_eq_getElem (by omega)
   have:=q7j hr hi hu
   rw [← h3,List.getElem?_take,if_pos (by omega)] at this
   rw [this,hu]
  ·rw [if_neg hj,List.getElem?_eq_none_iff.2 (by omega)]
end
abbrev tyS5:Nat:=106
abbrev tyFa:Nat:=175
def s5C (E:q23) (L:List Tu) (B:Int) (w:Nat) (pv:AV) (over:Bool):List AV:=[.sl 2 (E.s.map tyC),.sl 6 (L.map tuC),.str E.who.ty,.str E.who.id,.int .i64 B,.int .i64 w,pv,.bool over]
structure RfOk (E:q23) (L:List Tu) (B:Int) (bc:Nat) (S0:q00):Prop where
 s:OkS E.s
 may:∀ t∈E.s,∀ r∈t.rels,r.refs.length=0→mayE 12 r.ex=true
 nb:sget S0 bc=none
 lst:OkL L
 of:∀ n,E.of n=(ofF L n).map Tu.s
 B:B≤100000
def StR (E:q23) (L:List Tu) (B:Int) (bc:Nat) (S0:q00) (P:List Nd) (over:Bool) (w:Nat) (S:q00):Prop:=
 (over=false→(w:Int)≤B)∧Sub S0 S∧∃ pv,q0j S bc=some (tyS5,s5C E L B w pv over,8)∧LstW S0 S tyFa 3 pv (P.reverse.map ndC)∧q0x pv bc
def q8z (E:q23) (L:List Tu) (B:Int) (bc:Nat) (S0:q00) (P:List Nd) (q:Option (Bool×Nat)) (ae:AEnd) (S':q00):Prop:=match q with
 | some (b,w')=>ae=.ret (.bool b)∧StR E L B bc S0 P false w' S'
 | none=>∃ b w',ae=.ret (.bool b)∧StR E L B bc S0 P true w' S'
section
variable {E:q23} {L:List Tu} {B:Int} {bc:Nat} {S0:q00} {P:List Nd} {ask:Nd→Nat→Option (Bool×Nat)}
def AskR (E:q23) (L:List Tu) (B:Int) (bc:Nat) (S0:q00) (P:List Nd) (ask:Nd→Nat→Option (Bool×Nat)):Prop:=∀ n w S,StR E L B bc S0 P false w S →
 ACalls PG nrx53 [.ptr bc 0,.agg (obC n.o),.str n.rl] S (q8z E L B bc S0 P (ask n w))
theorem of_len (hl:OkL L) (n:Nd):(ofF L n).length≤100000:=Nat.le_trans (List.length_filter_le _ _) hl.n
theorem ob_dec (a b:Ob):decide (a=b)=(decide (a.ty=b.ty)&&decide (a.id=b.id)):=by
 rw [Bool.eq_iff_iff]
 cases a;cases b
 simp
theorem c_told (h:RfOk E L B bc S0) (hask:AskR E L B bc S0 P ask) (n:Nd) (w:Nat) (S:q00) (hS:StR E L B bc S0 P false w S) :
  ACalls PG nrx104 [.ptr bc 0,.agg (obC n.o),.str n.rl] S (q8z E L B bc S0 P (q3m (q8c E.who ask) (E.of n) w)):=by
 have hS0:=hS
 obtain ⟨hw,hsub,pv,ho,hl,ha⟩:=hS
 have hc:=q07 ho
 refine wx104 ?_
 unfold Bx104
 have q:=c_ref13_Of h.lst n
 simp only [obC] at q
 (try simp only [rwp,zA,zB,zC,zD,zE,zF,zG,zH,zI,rwb,reduceIte,obC,hc,s5C])
 refine q05 q ?_
 rw [h.of n]
 have hlen:=of_len h.lst n
 generalize ofF L n=l at hlen
 refine LoopP.introS (fun i:Nat=>[(0,.ptr bc 0),(7,.sl 6 (l.map tuC)),(8,.int .i64 i)]) (fun i S'=>i≤l.length∧((∃ w',StR E L B bc S0 P false w' S'∧q3m (q8c E.who ask) ((l.drop i).map Tu.s) w'=q3m (q8c E.who ask) (l.map Tu.s) w)∨(q3m (q8c E.who ask) (l.map Tu.s) w=none∧∃ w',StR E L B bc S0 P true w' S'))) (fun i=>l.length-i) 0 ⟨by omega,.inl ⟨w,hS0,rfl⟩⟩ rfl ?_
 rintro i S' ⟨hi,hI⟩ k hk
 (try simp only [rwp,zA,zB,zC,zD,zE,zF,zG,zH,zI,rwb,reduceIte,C104_1])
 rcases hI with ⟨w1,h1,h2⟩ | ⟨h2,w1,h1⟩
 ·obtain ⟨pv1,ho1⟩:∃ pv,q0j S' bc=_:=h1.2.2.imp fun _ h=>h.1
  have hc1:=q07 ho1
  cases a1:decide ((i:Int)<l.length)
  ·(try simp only [rwp,zA,zB,zC,zD,zE,zF,zG,zH,zI,rwb,reduceIte,C104_2])
   have e:l.drop i=[]:=q0u (of_decide_eq_false a1)
   rw [e] at h2
   refine q02 ?_
   rw [← h2]
   exact ⟨rfl,h1⟩
  ·have hlt:=of_decide_eq_true a1
   obtain ⟨t,ht⟩:=q0h hlt
   rw [q0e ht,List.map_cons,q8o] at h2
   (try simp only [rwp,zA,zB,zC,zD,zE,zF,zG,zH,zI,rwb,reduceIte,C104_2,hc1,s5C,ht,tuC])
   rw [show q8c E.who ask w1 t.s=if t.s.rl=⟨#[]⟩ then some (decide (t.s.o=E.who),w1) else ask t.s w1 from rfl] at h2
   (refine q03 (fun h0=>?_) (fun h0=>?_)<;>(try simp only [hlc] at h0))
   ·rw [if_pos h0] at h2
    (try simp only [rwp,zA,zB,zC,zD,zE,zF,zG,zH,zI,rwb,reduceIte,hc1,s5C,ht,tuC,q6o])
    rw [← ob_dec]
    cases a2:decide (t.s.o=E.who)
    ·rw [a2] at h2
     (try simp only [rwp,zA,zB,zC,zD,zE,zF,zG,zH,zI,rwb,reduceIte])
     (simp (disch:=omega) only [q04])
     exact q08 rfl (hk (i+1) S' ⟨by omega,.inl ⟨w1,h1,h2⟩⟩ (by omega))
    ·rw [a2] at h2
     (try simp only [rwp,zA,zB,zC,zD,zE,zF,zG,zH,zI,rwb,reduceIte])
     refine q02 ?_
     rw [← h2]
     exact ⟨rfl,h1⟩
   ·rw [if_neg h0] at h2
    (try simp only [rwp,zA,zB,zC,zD,zE,zF,zG,zH,zI,rwb,reduceIte,ht,tuC])
    refine q0b (hask t.s w1 S' h1) ?_
    intro ae S2 hq
    unfold q8z at hq
    cases hs:ask t.s w1 with
    | none=>
     rw [hs] at hq h2
     obtain ⟨b,w2,rfl,h3⟩:=hq
     dsimp only
     cases b
     ·(try simp only [rwp,zA,zB,zC,zD,zE,zF,zG,zH,zI,rwb,reduceIte])
      (simp (disch:=omega) only [q04])
      exact q08 rfl (hk (i+1) S2 ⟨by omega,.inr ⟨h2.symm,w2,h3⟩⟩ (by omega))
     ·(try simp only [rwp,zA,zB,zC,zD,zE,zF,zG,zH,zI,rwb,reduceIte])
      refine q02 ?_
      rw [← h2]
      exact ⟨true,w2,rfl,h3⟩
    | some p=>
     obtain ⟨b,w2⟩:=p
     rw [hs] at hq h2
     obtain ⟨rfl,h3⟩:=hq
     dsimp only at h2 ⊢
     cases b
     ·(try simp only [rwp,zA,zB,zC,zD,zE,zF,zG,zH,zI,rwb,reduceIte])
      (simp (disch:=omega) only [q04])
      exact q08 rfl (hk (i+1) S2 ⟨by omega,.inl ⟨w2,h3,h2⟩⟩ (by omega))
     ·(try simp only [rwp,zA,zB,zC,zD,zE,zF,zG,zH,zI,rwb,reduceIte])
      refine q02 ?_
      rw [← h2]
      exact ⟨rfl,h3⟩
 ·obtain ⟨pv1,ho1⟩:∃ pv,q0j S' bc=_:=h1.2.2.imp fun _ h=>h.1
  have hc1:=q07 ho1
  cases a1:decide ((i:Int)<l.length)<;>(try simp only [rwp,zA,zB,zC,zD,zE,zF,zG,zH,zI,rwb,reduceIte,C104_2,hc1,s5C])<;>refine q02 ?_<;>rw [h2]<;>exact ⟨false,w1,rfl,h1⟩
theorem c_expr15 (h:RfOk E L B bc S0) (hask:AskR E L B bc S0 P ask) (o:Ob):∀ (m:Nat) (e:Ex),mayE m e=true→∀ (w:Nat) (S:q00),StR E L B bc S0 P false w S →
  ACalls PG nrx105 [.ptr bc 0,.agg (obC o),.agg (exC e)] S (q8z E L B bc S0 P (exQ E ask o m e w))
 | 0,e,hm,w,S,hS=>by cases hm
 | m+1,.mk k n ov ks,hm,w,S,hS=>by
  have ih:=c_expr15 h hask o m
  obtain ⟨pv,ho⟩:∃ pv,q0j S bc=_:=hS.2.2.imp fun _ h=>h.1
  have hc:=q07 ho
  unfold mayE at hm
  refine wx105 ?_
  unfold Bx105 exQ
  (try simp only [rwp,zA,zB,zC,zD,zE,zF,zG,zH,zI,rwb,reduceIte,obC,q0d,Ex.kind,Ex.name,Ex.over,Ex.kids,hc,s5C])
  (refine q03 (fun k0=>?_) (fun k0=>?_)<;>(try simp only [hlc] at k0))
  ·rw [if_pos k0]
   refine q0b (hask ⟨o,n⟩ w _ hS) ?_
   intro ae S' hq
   unfold q8z at hq ⊢
   cases hs:ask ⟨o,n⟩ w with
   | none=>
    rw [hs] at hq
    obtain ⟨b,w2,rfl,h3⟩:=hq
    exact q02 ⟨b,w2,rfl,h3⟩
   | some p=>
    obtain ⟨b,w2⟩:=p
    rw [hs] at hq
    obtain ⟨rfl,h1⟩:=hq
    exact q02 ⟨rfl,h1⟩
  ·rw [if_neg k0] at hm ⊢
   (refine q03 (fun k1=>?_) (fun k1=>?_)<;>(try simp only [hlc] at k1))
   ·rw [if_pos k1]
    have q:=c_ref13_Of h.lst ⟨o,n⟩
    simp only [obC] at q
    (try simp only [rwp,zA,zB,zC,zD,zE,zF,zG,zH,zI,rwb,reduceIte,hc,s5C])
    refine q05 q ?_
    rw [h.of ⟨o,n⟩]
    have hlen:=of_len h.lst ⟨o,n⟩
    generalize ofF L ⟨o,n⟩=l at hlen
    refine LoopP.introS (fun i:Nat=>[(0,.ptr bc 0),(5,.rop [.int .i64 k,.str n,.str ov,.sl 4 (ks.map exC)]),(7,.sl 6 (l.map tuC)),(8,.int .i64 i)]) (fun i S'=>i≤l.length∧((∃ w',StR E L B bc S0 P false w' S'∧q3m (q9e ov ask) ((l.drop i).map Tu.s) w'=q3m (q9e ov ask) (l.map Tu.s) w)∨(q3m (q9e ov ask) (l.map Tu.s) w=none∧∃ w',StR E L B bc S0 P true w' S'))) (fun i=>l.length-i) 0 ⟨by omega,.inl ⟨w,hS,rfl⟩⟩ rfl ?_
    rintro i S' ⟨hi,hI⟩ kk hk
    (try simp only [rwp,zA,zB,zC,zD,zE,zF,zG,zH,zI,rwb,reduceIte,C105_2])
    rcases hI with ⟨w1,h1,h2⟩ | ⟨h2,w1,h1⟩
    ·obtain ⟨pv1,ho1⟩:∃ pv,q0j S' bc=_:=h1.2.2.imp fun _ h=>h.1
     have hc1:=q07 ho1
     cases a1:decide ((i:Int)<l.length)
     ·(try simp only [rwp,zA,zB,zC,zD,zE,zF,zG,zH,zI,rwb,reduceIte,C105_3])
      have e:l.drop i=[]:=q0u (of_decide_eq_false a1)
      rw [e] at h2
      refine q02 ?_
      rw [← h2]
      exact ⟨rfl,h1⟩
     ·have hlt:=of_decide_eq_true a1
      obtain ⟨t,ht⟩:=q0h hlt
      rw [q0e ht,List.map_cons,q8o] at h2
      (try simp only [rwp,zA,zB,zC,zD,zE,zF,zG,zH,zI,rwb,reduceIte,C105_3,hc1,s5C,ht,tuC])
      rw [show q9e ov ask w1 t.s=if t.s.rl=⟨#[]⟩ then ask ⟨t.s.o,ov⟩ w1 else some (false,w1) from rfl] at h2
      cases a2:decide (t.s.rl=⟨#[]⟩)
      ·rw [if_neg (of_decide_eq_false a2)] at h2
       (try simp only [rwp,zA,zB,zC,zD,zE,zF,zG,zH,zI,rwb,reduceIte])
       (simp (disch:=omega) only [q04])
       exact q08 rfl (hk (i+1) S' ⟨by omega,.inl ⟨w1,h1,h2⟩⟩ (by omega))
      ·rw [if_pos (of_decide_eq_true a2)] at h2
       (try simp only [rwp,zA,zB,zC,zD,zE,zF,zG,zH,zI,rwb,reduceIte,ht,tuC])
       refine q0b (hask ⟨t.s.o,ov⟩ w1 S' h1) ?_
       intro ae S2 hq
       unfold q8z at hq
       cases hs:ask ⟨t.s.o,ov⟩ w1 with
       | none=>
        rw [hs] at hq h2
        obtain ⟨b,w2,rfl,h3⟩:=hq
        dsimp only
        cases b
        ·(try simp only [rwp,zA,zB,zC,zD,zE,zF,zG,zH,zI,rwb,reduceIte])
         (simp (disch:=omega) only [q04])
         exact q08 rfl (hk (i+1) S2 ⟨by omega,.inr ⟨h2.symm,w2,h3⟩⟩ (by omega))
        ·(try simp only [rwp,zA,zB,zC,zD,zE,zF,zG,zH,zI,rwb,reduceIte])
         refine q02 ?_
         rw [← h2]
         exact ⟨true,w2,rfl,h3⟩
       | some p=>
        obtain ⟨b,w2⟩:=p
        rw [hs] at hq h2
        obtain ⟨rfl,h3⟩:=hq
        dsimp only at h2 ⊢
        cases b
        ·(try simp only [rwp,zA,zB,zC,zD,zE,zF,zG,zH,zI,rwb,reduceIte])
         (simp (disch:=omega) only [q04])
         exact q08 rfl (hk (i+1) S2 ⟨by omega,.inl ⟨w2,h3,h2⟩⟩ (by omega))
        ·(try simp only [rwp,zA,zB,zC,zD,zE,zF,zG,zH,zI,rwb,reduceIte])
         refine q02 ?_
         rw [← h2]
         exact ⟨rfl,h3⟩
    ·obtain ⟨pv1,ho1⟩:∃ pv,q0j S' bc=_:=h1.2.2.imp fun _ h=>h.1
     have hc1:=q07 ho1
     cases a1:decide ((i:Int)<l.length)<;>(try simp only [rwp,zA,zB,zC,zD,zE,zF,zG,zH,zI,rwb,reduceIte,C105_3,hc1,s5C])<;>refine q02 ?_<;>rw [h2]<;>exact ⟨false,w1,rfl,h1⟩
   ·rw [if_neg k1] at hm ⊢
    have hk:k=2∨k=3∨k=4:=by
     refine Classical.byContradiction fun hn=>?_
     rw [if_neg hn] at hm
     cases hm
    rw [if_pos hk] at hm
    obtain ⟨a,b,rfl⟩:∃ a b,ks=[a,b]:=by
     match ks,hm with
     | [a,b],_=>exact ⟨a,b,rfl⟩
     | [],hm=>cases hm
     | [_],hm=>cases hm
     | _ :: _ :: _ :: _,hm=>cases hm
    simp only [two,Bool.and_eq_true] at hm
    obtain ⟨ma,mb⟩:=hm
    have first:=ih a ma w _ hS
    have second:=fun w2 S2 hS2=>ih b mb w2 S2 hS2
    simp only [obC] at first second
    (try simp only [rwp,zA,zB,zC,zD,zE,zF,zG,zH,zI,rwb,reduceIte,hwR])
    refine q0b first ?_
    intro ae S1 hq
    unfold q8z at hq
    cases hs:exQ E ask o m a w with
    | none=>
     rw [hs] at hq
     obtain ⟨x,w2,rfl,h3⟩:=hq
     obtain ⟨pv1,ho1⟩:∃ pv,q0j S1 bc=_:=h3.2.2.imp fun _ h=>h.1
     have hc1:=q07 ho1
     dsimp only
     (try simp only [rwp,zA,zB,zC,zD,zE,zF,zG,zH,zI,rwb,reduceIte,hc1,s5C,C105_1])
     exact q02 ⟨x,w2,rfl,h3⟩
    | some p=>
     obtain ⟨x,w1⟩:=p
     rw [hs] at hq
     obtain ⟨rfl,h1⟩:=hq
     obtain ⟨pv1,ho1⟩:∃ pv,q0j S1 bc=_:=h1.2.2.imp fun _ h=>h.1
     have hc1:=q07 ho1
     dsimp only
     (try simp only [rwp,zA,zB,zC,zD,zE,zF,zG,zH,zI,rwb,reduceIte,hc1,s5C,q6o])
     unfold comb
     dsimp only
     cases a1:(x==decide (k=2))
     ·rw [if_neg (by simpa using a1)]
      (try simp only [rwp,zA,zB,zC,zD,zE,zF,zG,zH,zI,rwb,reduceIte,C105_1,hwR])
      refine q0b (second w1 S1 h1) ?_
      intro ae S2 hq
      unfold q8z at hq
      cases hs2:exQ E ask o m b w1 with
      | none=>
       rw [hs2] at hq
       obtain ⟨y,w2,rfl,h3⟩:=hq
       dsimp only
       (try simp only [rwp,zA,zB,zC,zD,zE,zF,zG,zH,zI,rwb,reduceIte])
       (refine q03 (fun k4=>?_) (fun k4=>?_)<;>(try simp only [hlc] at k4))
       ·exact q02 ⟨!y,w2,rfl,h3⟩
       ·exact q02 ⟨y,w2,rfl,h3⟩
      | some p2=>
       obtain ⟨y,w2⟩:=p2
       rw [hs2] at hq
       obtain ⟨rfl,h3⟩:=hq
       dsimp only
       (try simp only [rwp,zA,zB,zC,zD,zE,zF,zG,zH,zI,rwb,reduceIte])
       (refine q03 (fun k4=>?_) (fun k4=>?_)<;>(try simp only [hlc] at k4))
       ·rw [if_pos k4];exact q02 ⟨rfl,h3⟩
       ·rw [if_neg k4];exact q02 ⟨rfl,h3⟩
     ·rw [if_pos (by simpa using a1)]
      (try simp only [rwp,zA,zB,zC,zD,zE,zF,zG,zH,zI,rwb,reduceIte,C105_1])
      exact q02 ⟨rfl,h1⟩
theorem tkW_take {K:List AV→Prop}:∀ {n:Nat} {cs:List AV},n≤cs.length→tkW n cs K=K (cs.take n):=by
 intro n
 induction n generalizing K with
 | zero=>intro cs _;rfl
 | succ n ih=>
  intro cs h
  cases cs with
  | nil=>simp at h
  | cons c cs=>rw [tkW_succ,ih (by simpa using h)];rfl
theorem seen {P:List Nd} {n:Nd} {i:Nat} (h:∀ (j:Nat) (m:Nd),j<i→P.reverse[j]?=some m→¬ m=n) (hi:P.length≤i):n ∉ P:=fun hn=>by
 obtain ⟨j,hj⟩:=List.getElem?_of_mem (List.mem_reverse.2 hn)
 have hlt:=(List.getElem?_eq_some_iff.1 hj).1
 rw [List.length_reverse] at hlt
 exact h j n (by omega) hj rfl
theorem nd_dec (a b:Nd):decide (a=b)=(decide (a.o.ty=b.o.ty)&&(decide (a.o.id=b.o.id)&&decide (a.rl=b.rl))):=by
 rw [Bool.eq_iff_iff]
 obtain ⟨⟨a1,a2⟩,a3⟩:=a
 obtain ⟨⟨b1,b2⟩,b3⟩:=b
 simp [and_assoc]
theorem c_ask15_4 (h:RfOk E L B bc S0) {n:Nd} {b over:Bool} {w:Nat} {S:q00} {QF:AEnd→q00→Prop} (hl:P.length≤60) (hS:StR E L B bc S0 (n :: P) over w S) (hQ:∀ S',StR E L B bc S0 P over w S'→QF (.ret (.bool b)) S'):C53_4 QF (.ptr bc 0) (.bool b) S:=by
 obtain ⟨hw,hsub,pv,ho,hlst,ha⟩:=hS
 have hc:=q07 ho
 rw [List.reverse_cons,List.map_append] at hlst
 obtain ⟨b1,cap,rfl,h1,h2⟩:=hlst.cut
 simp only [List.length_map,List.length_reverse] at h1 h2
 unfold C53_4
 (try simp only [rwp,zA,zB,zC,zD,zE,zF,zG,zH,zI,rwb,reduceIte,hc,s5C,ho,List.length_map,List.length_reverse])
 (simp (disch:=omega) only [q04])
 refine ⟨by omega,by omega,by omega,?_⟩
 have e1:(if cap=0 then 0 else 0)=0:=by split<;>rfl
 have e2:(((P.length+1:Nat):Int)-1).toNat-0=P.length:=by omega
 rw [e1,e2,Nat.sub_zero]
 refine q02 (hQ _ ⟨hw,Sub.supd h.nb hsub,_,by rw [objAt_supd,if_pos rfl];rfl,?_,fun b off n cap e=>?_⟩)
 ·refine LstW.upd ?_ (fun b off n cap e=>?_) _
  ·simpa using h1
  ·cases e;exact ha _ _ _ _ rfl
 ·cases e;exact ha _ _ _ _ rfl
theorem StR.set (h:RfOk E L B bc S0) {S:q00} {pv:AV} {over:Bool} {w:Nat} {cs:List AV} (hw:over=false→(w:Int)≤B) (hsub:Sub S0 S) (hlst:LstW S0 S tyFa 3 pv (P.reverse.map ndC)) (ha:q0x pv bc) (hcs:cs=s5C E L B w pv over):StR E L B bc S0 P over w (supd S bc (.cells tyS5 cs 8)):=by
 subst hcs
 exact ⟨hw,Sub.supd h.nb hsub,pv,by rw [objAt_supd,if_pos rfl],hlst.upd ha _,ha⟩
theorem c_ask15 (h:RfOk E L B bc S0):∀ (fu:Nat) (P:List Nd),P.length+fu=50→AskR E L B bc S0 P (askQ E B fu P):=by
 intro fu
 induction fu with
 | zero=>
  intro P hl n w S hS
  have hS1:=hS
  obtain ⟨hw,hsub,pv,ho,hlst,ha⟩:=hS
  have hw:=hw rfl
  have hc:=q07 ho
  have hB:=h.B
  refine wx53 ?_
  unfold Bx53 askQ
  have q:=q3h h.s n.o.ty n.rl
  simp only [scA] at q
  (try simp only [rwp,zA,zB,zC,zD,zE,zF,zG,zH,zI,rwb,reduceIte,obC,hc,s5C])
  refine q05 q ?_
  cases hq:q0l E.s n.o.ty n.rl with
  | none=>
   dsimp only
   (try simp only [rwp,zA,zB,zC,zD,zE,zF,zG,zH,zI,rwb,reduceIte,q6w])
   refine alst rfl ?_
   (try simp only [rwp,zA,zB,zC,zD,zE,zF,zG,zH,zI,rwb,reduceIte,hc,s5C,C53_1])
   exact q02 ⟨rfl,hS1⟩
  | some p=>
   obtain ⟨i,k,r⟩:=p
   dsimp only
   (try simp only [rwp,zA,zB,zC,zD,zE,zF,zG,zH,zI,rwb,reduceIte,q0i])
   refine alst rfl ?_
   (try simp only [rwp,zA,zB,zC,zD,zE,zF,zG,zH,zI,rwb,reduceIte,hc,s5C,ho,C53_1])
   (simp (disch:=omega) only [q04])
   cases a1:decide (B<(w:Int)+1)
   ·(try simp only [rwp,zA,zB,zC,zD,zE,zF,zG,zH,zI,rwb,reduceIte,hlst.ln,List.length_map,List.length_reverse])
    rw [decide_eq_true (show (50:Int)≤P.length by omega)]
    (try simp only [rwp,zA,zB,zC,zD,zE,zF,zG,zH,zI,rwb,reduceIte,C53_2])
    exact q02 ⟨false,w+1,rfl,StR.set h (fun h=>by cases h) hsub hlst ha rfl⟩
   ·(try simp only [rwp,zA,zB,zC,zD,zE,zF,zG,zH,zI,rwb,reduceIte,C53_2])
    exact q02 ⟨false,w+1,rfl,StR.set h (fun h=>by cases h) hsub hlst ha rfl⟩
 | succ fu ih=>
  intro P hl n w S hS
  have hS1:=hS
  obtain ⟨hw,hsub,pv,ho,hlst,ha⟩:=hS
  have hw:=hw rfl
  have hc:=q07 ho
  have hB:=h.B
  refine wx53 ?_
  unfold Bx53 askQ
  have q:=q3h h.s n.o.ty n.rl
  simp only [scA] at q
  (try simp only [rwp,zA,zB,zC,zD,zE,zF,zG,zH,zI,rwb,reduceIte,obC,hc,s5C])
  refine q05 q ?_
  cases hq:q0l E.s n.o.ty n.rl with
  | none=>
   dsimp only
   (try simp only [rwp,zA,zB,zC,zD,zE,zF,zG,zH,zI,rwb,reduceIte,q6w])
   refine alst rfl ?_
   (try simp only [rwp,zA,zB,zC,zD,zE,zF,zG,zH,zI,rwb,reduceIte,hc,s5C,C53_1])
   exact q02 ⟨rfl,hS1⟩
  | some p=>
   obtain ⟨i,k,r⟩:=p
   obtain ⟨-,ty,hty,-,hk⟩:=q1h hq
   have hr:r.refs.length=0→mayE 12 r.ex=true:=h.may ty (List.mem_of_getElem? hty) r (List.mem_of_getElem? hk)
   dsimp only
   (try simp only [rwp,zA,zB,zC,zD,zE,zF,zG,zH,zI,rwb,reduceIte,q0i])
   refine alst rfl ?_
   (try simp only [rwp,zA,zB,zC,zD,zE,zF,zG,zH,zI,rwb,reduceIte,hc,s5C,ho,C53_1])
   (simp (disch:=omega) only [q04])
   cases a1:decide (B<(w:Int)+1)
   ·have b1:=of_decide_eq_false a1
    rw [if_neg b1]
    (try simp only [rwp,zA,zB,zC,zD,zE,zF,zG,zH,zI,rwb,reduceIte,hlst.ln,List.length_map,List.length_reverse])
    rw [decide_eq_false (show ¬ (50:Int)≤P.length by omega)]
    (try simp only [rwp,zA,zB,zC,zD,zE,zF,zG,zH,zI,rwb,reduceIte,C53_2])
    have hS2:StR E L B bc S0 P false (w+1) (supd S bc (.cells tyS5 [.sl 2 (E.s.map tyC),.sl 6 (L.map tuC),.str E.who.ty,.str E.who.id,.int .i64 B,.int .i64 ((w:Int)+1),pv,.bool false] 8)):=StR.set h (fun _=>by omega) hsub hlst ha rfl
    generalize supd S bc (.cells tyS5 [.sl 2 (E.s.map tyC),.sl 6 (L.map tuC),.str E.who.ty,.str E.who.id,.int .i64 B,.int .i64 ((w:Int)+1),pv,.bool false] 8)=S2 at hS2
    clear ho hlst hc ha hsub
    refine LoopP.introS (fun i:Nat=>[(0,.ptr bc 0),(2,.str n.rl),(4,.rop [.str n.o.ty,.str n.o.id]),(7,.rop [.str r.name,.sl 2 (r.refs.map rfC),.int .i64 r.ex.kind,.str r.ex.name,.str r.ex.over,.sl 4 (r.ex.kids.map exC)]),(9,.rop [.str n.o.ty,.str n.o.id,.str n.rl]),(10,.int .i64 i)]) (fun i S'=>S'=S2∧i≤P.length∧∀ (j:Nat) (m:Nd),j<i→P.reverse[j]?=some m→¬ m=n) (fun i=>P.length-i) 0 ⟨rfl,by omega,fun j m hj=>by omega⟩ rfl ?_
    rintro i S' ⟨rfl,hi,hno⟩ kk hkk
    have hS3:=hS2
    obtain ⟨-,hsub,pv,ho,hlst,ha⟩:=hS2
    have hc:=q07 ho
    (try simp only [rwp,zA,zB,zC,zD,zE,zF,zG,zH,zI,rwb,reduceIte,C53_3,hc,s5C,hlst.ln,List.length_map,List.length_reverse])
    (refine q03 (fun hlt=>?_) (fun hlt=>?_)<;>(try simp only [hlc] at hlt))
    ·obtain ⟨m,hm⟩:=q0h (l:=P.reverse) (i:=i) (by rw [List.length_reverse];exact hlt)
     obtain ⟨b1,cap,cs,rfl,hcs,hrow,hle⟩:=hlst.get (i:=i) (r:=ndC m) (by rw [List.getElem?_map,hm];rfl)
     (try simp only [rwp,zA,zB,zC,zD,zE,zF,zG,zH,zI,rwb,reduceIte,hc,s5C,hcs,List.length_map,List.length_reverse,Int.toNat_natCast,Nat.zero_add])
     rw [tkW_take (by rw [List.length_drop];omega),hrow]
     (try simp only [rwp,zA,zB,zC,zD,zE,zF,zG,zH,zI,rwb,reduceIte,ndC,eqs_cons,eqs_nil,eq1_str])
     rw [← nd_dec]
     refine ⟨hlt,?_⟩
     (refine q03 (fun he=>?_) (fun he=>?_)<;>(try simp only [hlc] at he))
     ·have hn:n∈P:=by
       rw [← he]
       exact List.mem_reverse.1 (List.mem_of_getElem? hm)
      rw [if_pos hn]
      exact q02 ⟨rfl,hS3⟩
     ·(simp (disch:=omega) only [q04])
      refine q08 rfl (hkk (i+1) _ ⟨rfl,by omega,fun j u hj hu=>?_⟩ (by omega))
      rcases Nat.lt_succ_iff_lt_or_eq.1 hj with h1 | rfl
      ·exact hno j u h1 hu
      ·rw [hm] at hu;cases hu;exact he
    ·have hn:n ∉ P:=seen hno (by omega)
     rw [if_neg hn]
     (try simp only [rwp,zA,zB,zC,zD,zE,zF,zG,zH,zI,rwb,reduceIte,hc,s5C])
     refine LstW.app hsub hlst (x:=ndC n) rfl rfl (by simp only [List.length_map,List.length_reverse];omega) fun pv2 S3 h1 h2 h3=>?_
     obtain ⟨ho2,ha2⟩:=h3 bc _ (objAt_some.1 ho) ha
     have ho2':=objAt_some.2 ho2
     (try simp only [rwp,zA,zB,zC,zD,zE,zF,zG,zH,zI,rwb,reduceIte,ho2',s5C])
     have e1:P.reverse.map ndC++[ndC n]=(n :: P).reverse.map ndC:=by simp
     rw [e1] at h2
     have ho1:=h2.one
     rw [(one_aC ho1).1]
     refine ⟨rfl,by simp [ones,ho1],?_⟩
     have e2:q1n [.sl 2 (E.s.map tyC),.sl 6 (L.map tuC),.str E.who.ty,.str E.who.id,.int .i64 B,.int .i64 ((w+1:Nat):Int),pv,.bool false] 6 [pv2]=s5C E L B (w+1) pv2 false:=rfl
     rw [e2]
     have hS4:StR E L B bc S0 (n :: P) false (w+1) (supd S3 bc (.cells tyS5 (s5C E L B (w+1) pv2 false) 8)):=StR.set h (fun _=>by omega) h1 h2 ha2 rfl
     have hask:=ih (n :: P) (by simp only [List.length_cons];omega)
     have out:∀ (q:Option (Bool×Nat)) (ae:AEnd) (S5:q00),q8z E L B bc S0 (n :: P) q ae S5→(match (generalizing:=false) ae with
       | .ret v=>C53_4 (q8z E L B bc S0 P q) (.ptr bc 0) v S5
       | .pan v=>pqW (q8z E L B bc S0 P q) v S5):=by
      intro q ae S5 hq
      unfold q8z at hq
      cases q with
      | none=>
       obtain ⟨b,w2,rfl,h5⟩:=hq
       exact c_ask15_4 h (by omega) h5 fun S6 h6=>⟨b,w2,rfl,h6⟩
      | some p=>
       obtain ⟨b,w2⟩:=p
       obtain ⟨rfl,h5⟩:=hq
       exact c_ask15_4 h (by omega) h5 fun S6 h6=>⟨rfl,h6⟩
     unfold bodyQ
     cases a2:decide (0<(r.refs.length:Int))
     ·have h0:r.refs.length=0:=by have:=of_decide_eq_false a2;omega
      rw [if_pos h0]
      (try simp only [rwp,zA,zB,zC,zD,zE,zF,zG,zH,zI,rwb,reduceIte])
      have q2:=c_expr15 h hask n.o 12 r.ex (hr h0) (w+1) _ hS4
      simp only [obC,q0d] at q2
      exact q0b q2 (out _)
     ·have h0:¬ r.refs.length=0:=by have:=of_decide_eq_true a2;omega
      rw [if_neg h0]
      (try simp only [rwp,zA,zB,zC,zD,zE,zF,zG,zH,zI,rwb,reduceIte])
      have q2:=c_told h hask n (w+1) _ hS4
      simp only [obC] at q2
      exact q0b q2 (out _)
   ·have b1:=of_decide_eq_true a1
    rw [if_pos b1]
    (try simp only [rwp,zA,zB,zC,zD,zE,zF,zG,zH,zI,rwb,reduceIte,C53_2])
    exact q02 ⟨false,w+1,rfl,StR.set h (fun h=>by cases h) hsub hlst ha rfl⟩
end
end Go.HL
