/- A part of a proof. -/
import Derived.Test.YtadmdlpmikoghaaGreatKhM1
import Derived.Test.YtadmdlpmikoghaaGreatKhHlS4
import Derived.Test.YtadmdlpmikoghaaGreatKhHlS7
import Derived.Test.YtadmdlpmikoghaaGreatKhHlS8
import Derived.Test.YtadmdlpmikoghaaGreatKhHlS2
import Derived.Test.YtadmdlpmikoghaaGreatKhHlS3
import Derived.Lib.Bytealg
import Derived.Laws.Externs
import Derived.Test.YtadmdlpmikoghaaGreatKhHlS11
import Derived.Test.YtadmdlpmikoghaaGreatKhHlS13
import Derived.Test.YtadmdlpmikoghaaGreatKhHlS14
import Derived.Test.YtadmdlpmikoghaaGreatKhHlS5
import Derived.Test.YtadmdlpmikoghaaGreatKhHlS6
import Derived.Test.YtadmdlpmikoghaaGreatKhHlS1
import Derived.Test.YtadmdlpmikoghaaGreatKhHlS9
import Derived.Test.YtadmdlpmikoghaaGreatKhHlQ
import Derived.Test.YtadmdlpmikoghaaGreatKhHlS10
import Derived.Test.YtadmdlpmikoghaaGreatKhHlS12
import Derived.Test.YtadmdlpmikoghaaGreatKhHlR
import Derived.Test.YtadmdlpmikoghaaGreatKhHlS15
import Derived.Test.YtadmdlpmikoghaaGreatKhHlO
set_option linter.unusedVariables false
set_option linter.unusedSimpArgs false
set_option maxRecDepth 4000
namespace Go.HL
open Nat renaming reduceAdd→zA,reduceLeDiff→zB,reduceLT→zC,reduceSub→zD,reduceMul→zE,reduceEqDiff→zF,reduceBEq→zG
open Int renaming reduceAdd→zH,reduceToNat→zI
theorem LvO.cell {S0 S:Store} {v:AV} {bs:List Nat} {lv:Lv} (h:LvO S0 S v bs lv) {i j:Nat} (hin:In lv (i,j)):∃ bl cap b l,v=.own bl 0 lv.length cap∧i<lv.length∧objAt S bl=some (174,(lvRows bs lv).flatten,cap * 1)∧(lvRows bs lv).flatten.drop i=.own b 0 l.length l.length :: (lvRows bs lv).flatten.drop (i+1) ∧
    bs[i]?=some b∧lv[i]?=some l∧objAt S b=some (3,l.map iv,l.length)∧b≠bl∧l[j]?=some (getL lv (i,j)):=by
  obtain ⟨l,h1,h2⟩:=hin
  dsimp only at h1 h2
  have hil:=(List.getElem?_eq_some_iff.1 h1).1
  obtain ⟨hs,hlen,⟨hr,hl⟩,hi,hnd⟩:=h
  have hrl:(lvRows bs lv).length=lv.length:=by simp [lvRows,hlen]
  obtain ⟨b,hb⟩:∃ b,bs[i]?=some b:=⟨_,List.getElem?_eq_getElem (by omega)⟩
  obtain ⟨o1,o2,o3⟩:=hi i b l hb h1
  have hrow:(lvRows bs lv)[i]?=some [.own b 0 l.length l.length]:=by rw [lvRows_get,hb,h1]
  rcases hl with ⟨rfl,h0⟩ | ⟨bl,cap,rfl,k1,k2,k3,k4,k5⟩
  · rw [h0] at hrow;simp at hrow
  · refine ⟨bl,cap,b,l,by rw [hrl],hil,objAt_some.2 k2,?_,hb,h1,o1,o3 bl 0 _ _ rfl,?_⟩
    · have h3:=flat_get hr hrow (j:=0) rfl
      rw [Nat.mul_one,Nat.add_zero] at h3
      exact drop_cons h3
    · unfold getL
      rw [h1]
      simp [List.getElem?_eq_getElem h2]
theorem LvO.rd {S0 S:Store} {v:AV} {bs:List Nat} {lv:Lv} (h:LvO S0 S v bs lv) {i j:Nat} (hin:In lv (i,j)) {K:AV→Prop} (hK:K (.int .i64 (getL lv (i,j)))) :
    iaW 1 v (.int .i64 i) (fun a=>ldW S 1 false a fun r=>iaW 1 r (.int .i64 j) fun c=>ldW S 1 false c K):=by
  obtain ⟨bl,cap,b,l,rfl,h1,h2,h3,h4,h5,h6,h7,h8⟩:=h.cell hin
  have hj:=(List.getElem?_eq_some_iff.1 h8).1
  have hd:(l.map iv).drop j=iv (getL lv (i,j)) :: (l.map iv).drop (j+1):=drop_cons (by rw [List.getElem?_map,h8];rfl)
  rw [iaW_own]
  refine ⟨by omega,by omega,?_⟩
  rw [ldW_ptr,cellsAt_of h2,lcW_some,Int.toNat_natCast,Nat.mul_one,Nat.zero_add,h3,mkW_one,iaW_own]
  refine ⟨by omega,by omega,?_⟩
  rw [ldW_ptr,cellsAt_of h6,lcW_some,Int.toNat_natCast,Nat.mul_one,Nat.zero_add,hd,mkW_one]
  exact hK
theorem lvRows_set {bs:List Nat} {lv:Lv} {p:Nat×Nat} {x:Nat}:lvRows bs (setL lv p x)=lvRows bs lv:=by
  apply List.ext_getElem?
  intro i
  rw [lvRows_get,lvRows_get]
  unfold setL
  rw [List.getElem?_set]
  by_cases h:p.1=i
  · subst h
    rw [if_pos rfl]
    cases hl:lv[p.1]? with
    | none=>rw [if_neg (by have:=List.getElem?_eq_none_iff.1 hl;omega)]
    | some l=>
      rw [if_pos (List.getElem?_eq_some_iff.1 hl).1]
      cases bs[p.1]?<;>simp
  · rw [if_neg h]
theorem LvO.wr {S0 S:Store} {v:AV} {bs:List Nat} {lv:Lv} (h:LvO S0 S v bs lv) {i j x:Nat} (hin:In lv (i,j)) {K:Store→Prop} (hK:∀ S',LvO S0 S' v bs (setL lv (i,j) x)→K S') :
    iaW 1 v (.int .i64 i) (fun a=>ldW S 1 false a fun r=>iaW 1 r (.int .i64 j) fun c=>stW S 1 c (.int .i64 x) K):=by
  obtain ⟨bl,cap,b,l,rfl,h1,h2,h3,h4,h5,h6,h7,h8⟩:=h.cell hin
  have hj:=(List.getElem?_eq_some_iff.1 h8).1
  rw [iaW_own]
  refine ⟨by omega,by omega,?_⟩
  rw [ldW_ptr,cellsAt_of h2,lcW_some,Int.toNat_natCast,Nat.mul_one,Nat.zero_add,h3,mkW_one,iaW_own]
  refine ⟨by omega,by omega,?_⟩
  rw [stW_ptr,h6,Int.toNat_natCast,Nat.mul_one,Nat.zero_add,soW_some]
  refine ⟨rfl,by simp;omega,rfl,hK _ ?_⟩
  obtain ⟨hs,hlen,hlst,hi,hnd⟩:=h
  have hb0:=(hi i b l h4 h5).2.1
  have hbv:=(hi i b l h4 h5).2.2
  have hset:fillA (l.map iv) j (aCells (.int .i64 x))=(l.set j x).map iv:=by
    show (l.map iv).set j (iv x)=_
    rw [List.map_set]
  rw [hset]
  refine ⟨hs.supd hb0,?_,?_,fun m c l' k1 k2=>?_,hnd⟩
  · unfold setL;rw [List.length_set];exact hlen
  · rw [lvRows_set]
    exact hlst.upd hbv _
  · unfold setL at k2
    rw [List.getElem?_set,h5,if_pos h1] at k2
    dsimp only [Option.getD_some] at k2
    by_cases hmi:i=m
    · subst hmi
      rw [if_pos rfl] at k2
      rw [h4] at k1
      cases k1;cases k2
      exact ⟨by rw [List.length_set];exact objAt_eq,hb0,hbv⟩
    · rw [if_neg hmi] at k2
      have hne:b≠c:=by
        rintro rfl
        have e1:=(List.getElem?_eq_some_iff.1 h4).1
        exact hmi ((List.getElem?_inj e1 hnd).1 (by rw [h4,k1]))
      obtain ⟨o1,o2,o3⟩:=hi m c l' k1 k2
      exact ⟨by rw [objAt_ne hne];exact o1,o2,o3⟩
theorem LvO.app {S0 S:Store} {v:AV} {bs:List Nat} {lv:Lv} (h:LvO S0 S v bs lv) {b:Nat} (hb:sget S b=none) (l:List Nat) (hlen:lv.length≤1000000) {K:AV→Store→Prop} (hK:∀ v' S',LvO S0 S' v' (bs++[b]) (lv++[l])→K v' S') :
    apW (supd S b (.cells 3 (l.map iv) l.length)) 174 1 24 v (.sl 1 [[.own b 0 l.length l.length]]) K:=by
  have hb0:=Sub.none h.sub hb
  have hba:Aside v b:=h.lst.fresh hb
  have hbn:∀ (j c:Nat),bs[j]?=some c→c≠b:=by
    intro j c hj
    have hj1:=(List.getElem?_eq_some_iff.1 hj).1
    have hj2:j<lv.length:=by rw [← h.len];exact hj1
    have:=objAt_some.1 (h.inn j c _ hj (List.getElem?_eq_getElem hj2)).1
    rintro rfl
    rw [this] at hb
    cases hb
  have hL:=h.fresh hb (.cells 3 (l.map iv) l.length)
  have hrl:(lvRows bs lv).length=lv.length:=by simp [lvRows,h.len]
  have hbo:sget (supd S b (.cells 3 (l.map iv) l.length)) b=some (.cells 3 (l.map iv) l.length):=by rw [sget_supd,if_pos rfl]
  refine LstN.app (rows:=lvRows bs lv) (xs:=[[.own b 0 l.length l.length]]) hL.sub hL.lst (by simp) rfl (by rw [hrl];simp;omega) ?_
  intro v' S5 hs5 hl5 keep
  obtain ⟨q1,q2⟩:=keep b _ hbo hba
  rw [← lvRows_snoc h.len] at hl5
  refine hK v' S5 ⟨hs5,by simp [h.len],hl5,fun j c l' hj hl'=>?_,?_⟩
  · by_cases hjb:j<bs.length
    · rw [List.getElem?_append_left hjb] at hj
      rw [List.getElem?_append_left (by rw [← h.len];exact hjb)] at hl'
      obtain ⟨o1,o2,o3⟩:=hL.inn j c l' hj hl'
      obtain ⟨k1,k2⟩:=keep c _ (objAt_some.1 o1) o3
      exact ⟨objAt_some.2 k1,o2,k2⟩
    · rw [List.getElem?_append_right (by omega)] at hj
      rw [List.getElem?_append_right (by rw [← h.len];omega),← h.len] at hl'
      obtain ⟨m,hm⟩:∃ m,j-bs.length=m:=⟨_,rfl⟩
      rw [hm] at hj hl'
      cases m with
      | succ m=>simp at hj
      | zero=>
        simp at hj hl'
        subst hj;subst hl'
        exact ⟨objAt_some.2 q1,hb0,q2⟩
  · refine List.nodup_append.2 ⟨h.nod,by simp,fun x hx y hy e=>?_⟩
    simp at hy
    subst hy
    obtain ⟨j,hj⟩:=List.getElem?_of_mem hx
    exact hbn j x hj e
def InS (s:List Ty) (p:Nat×Nat):Prop:=∃ t,s[p.1]?=some t∧p.2<t.rels.length
theorem find_in {s:List Ty} {t n:ByteArray} {i k:Nat} {r:Rl} (h:findF s t n=some (i,k,r)):InS s (i,k):=by
  obtain ⟨-,ty,h2,-,h4⟩:=findF_at h
  exact ⟨ty,h2,(List.getElem?_eq_some_iff.1 h4).1⟩
theorem over_in {s:List Ty} {refs:List Rf} {n:ByteArray}:∀ p∈overF s refs n,InS s p:=by
  intro p hp
  unfold overF at hp
  obtain ⟨f,-,hf⟩:=List.mem_filterMap.1 hp
  split at hf
  · cases hq:findF s f.ty n with
    | none=>rw [hq] at hf;cases hf
    | some q=>
      obtain ⟨i,k,r⟩:=q
      rw [hq] at hf
      cases hf
      exact find_in hq
  · cases hf
theorem leans_in {s:List Ty} {t:ByteArray} {r:Rl}:∀ l∈leansF s t r,InS s l.1:=by
  intro l hl
  unfold leansF at hl
  split at hl
  · obtain ⟨p,-,hp⟩:=List.mem_flatMap.1 hl
    unfold leafF at hp
    split at hp
    · cases hp
    · rename_i i k r hq
      rcases List.mem_cons.1 hp with rfl | hp
      · exact find_in hq
      · split at hp
        · obtain ⟨q,hq2,rfl⟩:=List.mem_map.1 hp
          exact over_in q hq2
        · cases hp
  · obtain ⟨f,-,hf⟩:=List.mem_filterMap.1 hl
    unfold refLean at hf
    split at hf
    · cases hf
    · cases hq:findF s f.ty f.rl with
      | none=>rw [hq] at hf;cases hf
      | some q=>
        obtain ⟨i,k,r⟩:=q
        rw [hq] at hf
        cases hf
        exact find_in hq
theorem rowsR_in {s:List Ty} {i:Nat} {n:ByteArray}:∀ {l:List Rl} {k:Nat},∀ x∈rowsR s i n k l,∀ y∈x.2,InS s y.1
  | [],k,x,hx=>by cases hx
  | r :: l,k,x,hx=>by
    rw [rowsR] at hx
    rcases List.mem_cons.1 hx with rfl | hx
    · exact leans_in
    · exact rowsR_in x hx
theorem rowsT_in {s:List Ty}:∀ {l:List Ty} {i:Nat},∀ x∈rowsT s i l,∀ y∈x.2,InS s y.1
  | [],i,x,hx=>by cases hx
  | t :: l,i,x,hx=>by
    rw [rowsT] at hx
    rcases List.mem_append.1 hx with hx | hx
    · exact rowsR_in x hx
    · exact rowsT_in x hx
theorem in_shp {lv:Lv} {s:List Ty} (h:Shp lv s) {p:Nat×Nat} (hp:InS s p):In lv p:=by
  obtain ⟨t,h1,h2⟩:=hp
  exact in_of (i:=p.1) (k:=p.2) h h1 h2
theorem rowsR_le {s:List Ty} (hN:OkN s) {i:Nat} {n:ByteArray}:∀ {l:List Rl} {k:Nat},(∀ r∈l,rsz r≤1000)→∀ x∈rowsR s i n k l,x.2.length≤4000000
  | [],k,_,x,hx=>by cases hx
  | r :: l,k,h,x,hx=>by
    rw [rowsR] at hx
    rcases List.mem_cons.1 hx with rfl | hx
    · exact leans_len hN (h r (by simp))
    · exact rowsR_le hN (fun r hr=>h r (List.mem_cons_of_mem _ hr)) x hx
theorem rowsT_le {s:List Ty} (hN:OkN s):∀ {l:List Ty} {i:Nat},(∀ t∈l,∀ r∈t.rels,rsz r≤1000)→∀ x∈rowsT s i l,x.2.length≤4000000
  | [],i,_,x,hx=>by cases hx
  | t :: l,i,h,x,hx=>by
    rw [rowsT] at hx
    rcases List.mem_append.1 hx with hx | hx
    · exact rowsR_le hN (h t (by simp)) x hx
    · exact rowsT_le hN (fun t ht=>h t (List.mem_cons_of_mem _ ht)) x hx
theorem c_ref12_raised {s:List Ty} {rows:List Rw} (hN:rows.length≤1000) (hM:manyF s≤1000) (hok:RwOk s rows) (hin:∀ x∈rows,∀ y∈x.2,InS s y.1) (hle:∀ x∈rows,x.2.length≤4000000) {S0 S:Store} {v:AV} {bs:List Nat} {lv:Lv} (hL:LvO S0 S v bs lv) (hS:Shp lv s) (hB:Bdd rows.length lv) :
    ACalls PG nr_ref12_raised [.sl 3 (rows.map rwC),v] S fun ae S'=>ae=.ret (.bool (roundF rows.length rows (lv,false)).2)∧LvO S0 S' v bs (roundF rows.length rows (lv,false)).1:=by
  refine w_ref12_raised ?_
  unfold B_ref12_raised
  (try simp only [rwp,hwR,zA,zB,zC,zD,zE,zF,zG,zH,zI])
  refine LoopP.introS (fun p:Nat×Lv×Bool=>[(0,.sl 3 (rows.map rwC)),(1,v),(5,.bool p.2.2),(6,.int .i64 p.1)])
    (fun p S'=>p.1≤rows.length∧LvO S0 S' v bs p.2.1∧Shp p.2.1 s∧Bdd rows.length p.2.1∧roundF rows.length (rows.drop p.1) p.2=roundF rows.length rows (lv,false)) (fun p=>rows.length-p.1) (0,lv,false) ⟨by omega,hL,hS,hB,rfl⟩ rfl ?_
  clear hL hS hB
  rintro ⟨i,lv1,mo⟩ S1 ⟨hi,hL,hS,hB,hf⟩ q hq
  dsimp only at hi hL hS hB hf
  (try simp only [rwp,hwR,zA,zB,zC,zD,zE,zF,zG,zH,zI,C_ref12_raised_1])
  (refine cnW_intro (fun hlt=>?_) (fun hlt=>?_)<;>(try simp only [hlc] at hlt))
  · obtain ⟨w,hw⟩:=get_lt hlt
    have hmw:=List.mem_of_getElem? hw
    obtain ⟨nd,ln⟩:=w
    obtain ⟨ni,nk⟩:=nd
    obtain ⟨t,ht,hk⟩:=hok _ hmw
    dsimp only at ht hk
    have hln:=hle _ hmw
    dsimp only at hln
    rw [drop_cons hw,roundF] at hf
    dsimp only at hf
    (try simp only [rwp,hwR,zA,zB,zC,zD,zE,zF,zG,zH,zI,hw,rwC])
    refine LoopP.introS (fun p:Nat×Lv×Bool=>[(0,.sl 3 (rows.map rwC)),(1,v),(5,.bool p.2.2),(6,.int .i64 i),(7,.int .i64 ni),(8,.int .i64 nk),(9,.int .i64 p.1)])
      (fun p S'=>p.1≤ln.length∧LvO S0 S' v bs p.2.1∧Shp p.2.1 s∧Bdd rows.length p.2.1∧raiseN rows.length (ni,nk) (ln.drop p.1) p.2=raiseN rows.length (ni,nk) ln (lv1,mo)) (fun p=>ln.length-p.1) (0,lv1,mo) ⟨by omega,hL,hS,hB,rfl⟩ rfl ?_
    clear hL hS hB
    rintro ⟨j,lv2,mo2⟩ S2 ⟨hj,hL,hS,hB,hf2⟩ q2 hq2
    dsimp only at hj hL hS hB hf2
    (try simp only [rwp,hwR,zA,zB,zC,zD,zE,zF,zG,zH,zI,C_ref12_raised_2,hw,rwC])
    (refine cnW_intro (fun hlt2=>?_) (fun hlt2=>?_)<;>(try simp only [hlc] at hlt2))
    · obtain ⟨l,hl⟩:=get_lt hlt2
      obtain ⟨m,o⟩:=l
      obtain ⟨mi,mk⟩:=m
      have hmin:In lv2 (mi,mk):=in_shp hS (hin _ hmw _ (List.mem_of_getElem? hl))
      have hnin:In lv2 (ni,nk):=in_of hS ht hk
      rw [drop_cons hl,raiseN] at hf2
      dsimp only at hf2
      have hphi:=phi_shp (N:=rows.length) hS
      have hMM:manyF s * (rows.length+1)≤1000 * 1001:=Nat.mul_le_mul hM (by omega)
      have hb1:=hB (mi,mk)
      have hb2:=hB (ni,nk)
      (try simp only [rwp,hwR,zA,zB,zC,zD,zE,zF,zG,zH,zI,hl,hw,rwC,leanC])
      refine hL.rd hmin ?_
      have low:∀ x:Nat,x=getL lv2 (mi,mk)+o.toNat→C_ref12_raised_3 (fun ae S'=>ae=.ret (.bool (roundF rows.length rows (lv,false)).2)∧LvO S0 S' v bs (roundF rows.length rows (lv,false)).1) q q2 (.sl 3 (rows.map rwC)) v (.bool mo2) (.int .i64 i) (.int .i64 ni) (.int .i64 nk) (.int .i64 j) (.int .i64 x) S2:=by
        intro x hx
        unfold C_ref12_raised_3
        rw [← hx] at hf2
        refine hL.rd hnin ?_
        have keep:¬ (getL lv2 (ni,nk)<x∧getL lv2 (ni,nk)≤rows.length)→q2 [(0,.sl 3 (rows.map rwC)),(1,v),(5,.bool mo2),(6,.int .i64 i),(7,.int .i64 ni),(8,.int .i64 nk),(9,.int .i64 ((j:Int)+1))] S2:=fun h=>by
          rw [if_neg h] at hf2
          exact hq2 (j+1,lv2,mo2) S2 ⟨by dsimp only;omega,hL,hS,hB,hf2⟩ (by dsimp only;omega)
        (try simp only [rwp,hwR,zA,zB,zC,zD,zE,zF,zG,zH,zI])
        (refine grW_intro (fun hg=>?_) (fun hg=>?_)<;>(try simp only [rwp,hwR,zA,zB,zC,zD,zE,zF,zG,zH,zI,hg]))
        · have h1:getL lv2 (ni,nk)<x:=by simpa using hg
          refine hL.rd hnin ?_
          (try simp only [rwp,hwR,zA,zB,zC,zD,zE,zF,zG,zH,zI,hg])
          (refine cnW_intro (fun h2=>?_) (fun h2=>?_)<;>(try simp only [hlc] at h2))
          · have h3:getL lv2 (ni,nk)<x∧getL lv2 (ni,nk)≤rows.length:=⟨h1,by simpa using h2⟩
            rw [if_pos h3] at hf2
            rw [hx] at h3
            obtain ⟨k1,k2⟩:=raiseN_step (N:=rows.length) (m:=(mi,mk)) (o:=o) hnin hB h3
            rw [← hx] at k1
            (try simp only [rwp,hwR,zA,zB,zC,zD,zE,zF,zG,zH,zI,C_ref12_raised_4])
            refine hL.wr (x:=x) hnin fun S3 hL3=>?_
            (try simp only [rwp,hwR,zA,zB,zC,zD,zE,zF,zG,zH,zI])
            (simp (disch:=omega) only [hwrap64])
            exact rcW_as rfl (hq2 (j+1,setL lv2 (ni,nk) x,true) S3 ⟨by dsimp only;omega,hL3,shp_set hS _ _,k1,hf2⟩ (by dsimp only;omega))
          · (try simp only [rwp,hwR,zA,zB,zC,zD,zE,zF,zG,zH,zI,C_ref12_raised_4])
            (simp (disch:=omega) only [hwrap64])
            refine rcW_as rfl (keep fun h=>?_)
            have:=h.2
            simp at h2
            omega
        · have h1:¬ getL lv2 (ni,nk)<x:=by simpa using hg
          (try simp only [rwp,hwR,zA,zB,zC,zD,zE,zF,zG,zH,zI,C_ref12_raised_4,hg])
          (simp (disch:=omega) only [hwrap64])
          exact rcW_as rfl (keep fun h=>h1 h.1)
      cases o with
      | true=>
        (try simp only [rwp,hwR,zA,zB,zC,zD,zE,zF,zG,zH,zI])
        rw [hwrap64 (by omega) (by omega)]
        exact low (getL lv2 (mi,mk)+1) rfl
      | false=>
        (try simp only [rwp,hwR,zA,zB,zC,zD,zE,zF,zG,zH,zI])
        exact low (getL lv2 (mi,mk)) rfl
    · rw [drop_end hlt2,raiseN] at hf2
      rw [← hf2] at hf
      (simp (disch:=omega) only [hwrap64])
      exact rcW_as rfl (hq (i+1,lv2,mo2) S2 ⟨by dsimp only;omega,hL,hS,hB,hf⟩ (by dsimp only;omega))
  · rw [drop_end hlt,roundF] at hf
    exact rtW_one ⟨by rw [← hf],by rw [← hf];exact hL⟩
end Go.HL
set_option linter.unusedVariables false
set_option linter.unusedSimpArgs false
set_option maxRecDepth 4000
namespace Go.HL
open Nat renaming reduceAdd→zA,reduceLeDiff→zB,reduceLT→zC,reduceSub→zD,reduceMul→zE,reduceEqDiff→zF,reduceBEq→zG
open Int renaming reduceAdd→zH,reduceToNat→zI
theorem c_ref12_many {s:List Ty} (hs:OkS s) (h1:s.length≤16) (h2:∀ t∈s,t.rels.length≤16):AFun PG nr_ref12_many [scA s] (.int .i64 (manyF s)):=by
  intro S
  refine w_ref12_many ?_
  unfold B_ref12_many
  (try simp only [rwp,hwR,zA,zB,zC,zD,zE,zF,zG,zH,zI,scA])
  have hm:=manyF_le h1 h2
  refine LoopP.introS (fun p:Nat×Nat=>[(1,.rop [.sl 2 (s.map tyC)]),(3,.int .i64 p.2),(4,.int .i64 p.1)])
    (fun p S'=>S'=S∧p.1≤s.length∧p.2+manyF (s.drop p.1)=manyF s) (fun p=>s.length-p.1) (0,0) ⟨rfl,by omega,by simp⟩ rfl ?_
  rintro ⟨i,n⟩ S1 ⟨rfl,hi,hf⟩ q hq
  dsimp only at hi hf
  (try simp only [rwp,hwR,zA,zB,zC,zD,zE,zF,zG,zH,zI,C_ref12_many_1])
  (refine cnW_intro (fun hlt=>?_) (fun hlt=>?_)<;>(try simp only [hlc] at hlt))
  · obtain ⟨t,ht⟩:=get_lt hlt
    rw [drop_cons ht] at hf
    have e1:manyF (t :: s.drop (i+1))=t.rels.length+manyF (s.drop (i+1)):=by simp [manyF]
    rw [e1] at hf
    (try simp only [rwp,hwR,zA,zB,zC,zD,zE,zF,zG,zH,zI,ht,tyC])
    rw [show (n:Int)+(t.rels.length:Int)=((n+t.rels.length:Nat):Int) by omega]
    (simp (disch:=omega) only [hwrap64])
    exact rcW_as rfl (hq (i+1,n+t.rels.length) _ ⟨rfl,by dsimp only;omega,by dsimp only;omega⟩ (by dsimp only;omega))
  · rw [drop_end hlt] at hf
    have:n=manyF s:=by rw [← hf];rfl
    exact rtW_one ⟨by rw [this],rfl⟩
theorem zeroL_snoc {s:List Ty} {i:Nat} {t:Ty} (h:s[i]?=some t):zeroL (s.take (i+1))=zeroL (s.take i)++[List.replicate t.rels.length 0]:=by
  rw [take_snoc' h]
  simp [zeroL]
theorem c_ref12_levels {s:List Ty} (hs:OkS s) (hN:OkN s) (hg:GoodS s):AFun PG nr_ref12_levels [scA s] (.sl 1 (lvC (levF s))):=by
  intro S
  have hsz:=hg.sizes
  have hmany:=hg.many
  have hrows:=rows_len s
  refine w_ref12_levels ?_
  unfold B_ref12_levels
  (try simp only [rwp,hwR,zA,zB,zC,zD,zE,zF,zG,zH,zI,scA])
  refine LoopP.introS (fun p:Nat×AV×List Nat=>[(1,.rop [.sl 2 (s.map tyC)]),(3,p.2.1),(4,.int .i64 p.1)])
    (fun p S'=>p.1≤s.length∧LvO S S' p.2.1 p.2.2 (zeroL (s.take p.1))) (fun p=>s.length-p.1) (0,.nils,[]) ⟨by omega,LvO.nil S (Sub.refl S)⟩ rfl ?_
  rintro ⟨i,v,bs⟩ S1 ⟨hi,hL⟩ q hq
  dsimp only at hi hL
  (try simp only [rwp,hwR,zA,zB,zC,zD,zE,zF,zG,zH,zI,C_ref12_levels_1])
  (refine cnW_intro (fun hlt=>?_) (fun hlt=>?_)<;>(try simp only [hlc] at hlt))
  · obtain ⟨t,ht⟩:=get_lt hlt
    have htn:=hsz.2.1 t (List.mem_of_getElem? ht)
    (try simp only [rwp,hwR,zA,zB,zC,zD,zE,zF,zG,zH,zI,ht,tyC])
    refine ⟨t.rels.length,rfl,rfl,by omega,fun b hb=>?_⟩
    have hz:List.replicate t.rels.length (AV.int .i64 0)=(List.replicate t.rels.length 0).map iv:=by rw [List.map_replicate];rfl
    have h1:=LvO.app hL hb (List.replicate t.rels.length 0) (by simp [zeroL];omega) (K:=fun v' S'=>rcW q [(1,.rop [.sl 2 (s.map tyC)]),(3,v'),(4,.int .i64 (IntKind.i64.wrap ((i:Int)+1)))] S') fun v' S2 hL2=>by
      (simp (disch:=omega) only [hwrap64])
      refine rcW_as rfl (hq (i+1,v',bs++[b]) S2 ⟨by dsimp only;omega,?_⟩ (by dsimp only;omega))
      rw [zeroL_snoc ht]
      exact hL2
    rw [List.length_replicate,← hz] at h1
    (try simp only [rwp,hwR,zA,zB,zC,zD,zE,zF,zG,zH,zI])
    exact h1
  · have hend:s.take i=s:=List.take_of_length_le (by omega)
    rw [hend] at hL
    (try simp only [rwp,hwR,zA,zB,zC,zD,zE,zF,zG,zH,zI])
    refine caW_pure (by simpa only [scA] using c_ref12_rows hs hN hg) ?_
    refine LoopP.introS (fun p:Nat×Lv=>[(3,v),(5,.sl 3 ((rowsF s).map rwC)),(6,.int .i64 p.1)])
      (fun p S'=>p.1≤70000∧LvO S S' v bs p.2∧Shp p.2 s∧Bdd (rowsF s).length p.2∧iterF (rowsF s).length (rowsF s) (70000-p.1) p.2=levF s) (fun p=>70000-p.1) (0,zeroL s) ⟨by omega,hL,shp_zero s,bdd_zero,by rw [hrows];rfl⟩ rfl ?_
    clear hL
    rintro ⟨n,lv⟩ S2 ⟨hn,hL,hS,hB,hf⟩ q2 hq2
    dsimp only at hn hL hS hB hf
    (try simp only [rwp,hwR,zA,zB,zC,zD,zE,zF,zG,zH,zI,C_ref12_levels_2])
    (refine cnW_intro (fun hlt2=>?_) (fun hlt2=>?_)<;>(try simp only [hlc] at hlt2))
    · obtain ⟨m,hm⟩:∃ m,70000-n=m+1:=⟨70000-n-1,by omega⟩
      rw [hm,iterF] at hf
      refine caW_of (c_ref12_raised (s:=s) (rows:=rowsF s) (by omega) (by omega) (rows_ok s) (rowsT_in) (rowsT_le hN hN) hL hS hB) ?_
      rintro _ S3 ⟨rfl,hL3⟩
      obtain ⟨k1,k2,k3,k4,k5,k6⟩:=roundF_keep (N:=(rowsF s).length) (a:=(lv,false)) (rows_ok s) hS hB
      generalize hR:roundF (rowsF s).length (rowsF s) (lv,false)=R at hL3 k1 k2 hf ⊢
      obtain ⟨lv2,mo2⟩:=R
      dsimp only at hL3 k1 k2 hf ⊢
      cases mo2 with
      | true=>
        (try simp only [rwp,hwR,zA,zB,zC,zD,zE,zF,zG,zH,zI])
        rw [if_pos rfl] at hf
        (simp (disch:=omega) only [hwrap64])
        refine rcW_as rfl (hq2 (n+1,lv2) S3 ⟨by dsimp only;omega,hL3,k1,k2,?_⟩ (by dsimp only;omega))
        dsimp only
        rw [show 70000-(n+1)=m by omega]
        exact hf
      | false=>
        (try simp only [rwp,hwR,zA,zB,zC,zD,zE,zF,zG,zH,zI])
        rw [if_neg (by simp)] at hf
        subst hf
        exact rtW_view (vs:=[v]) rfl (ShV.lv hL3) ⟨rfl,rfl⟩
    · rw [show 70000-n=0 by omega,iterF] at hf
      subst hf
      exact rtW_view (vs:=[v]) rfl (ShV.lv hL) ⟨rfl,rfl⟩
theorem c_ref12_Check {s:List Ty} (hs:OkS s) (hN:OkN s):AFun PG nr_ref12_Check [scA s] (chkF s):=by
  intro S
  refine w_ref12_Check ?_
  unfold B_ref12_Check
  (try simp only [rwp,hwR,zA,zB,zC,zD,zE,zF,zG,zH,zI,scA])
  intro b hb
  (try simp only [rwp,hwR,zA,zB,zC,zD,zE,zF,zG,zH,zI])
  refine caW_pure (by simpa only [scA] using c_ref12_plain hs) ?_
  obtain ⟨ft,fr,fe,hp⟩:=plainF_fl s
  rw [hp]
  have ret:∀ x y z:Int,chkF s=flA x y z→rtW [.cell (.ptr b 0) 3 true] (fun ae S'=>ae=.ret (chkF s)∧S'=S) (supd S b (.cells 88 [.int .i64 x,.int .i64 y,.int .i64 z] 3)):=by
    intro x y z hp
    refine rtW_go S (Sub.fresh _ hb) ?_
    (try simp only [rwp,hwR,zA,zB,zC,zD,zE,zF,zG,zH,zI])
    rw [hp];rfl
  (try simp only [rwp,hwR,zA,zB,zC,zD,zE,zF,zG,zH,zI,flA])
  (refine cnW_intro (fun h0=>?_) (fun h0=>?_)<;>(try simp only [hlc] at h0))
  · refine ret _ _ _ ?_
    rw [chkF,hp,flA_err,if_pos h0]<;>rfl
  have hg:GoodS s:=plain_good (by rw [hp,flA_err];omega)
  have hck:chkF s=flO (eachF s (cycF s)):=by rw [chkF,hp,flA_err,if_neg (by simp [h0])]
  have hsz:=hg.sizes
  have hmany:=hg.many
  (try simp only [rwp,hwR,zA,zB,zC,zD,zE,zF,zG,zH,zI])
  refine caW_pure (by simpa only [scA] using c_ref12_levels hs hN hg) ?_
  (try simp only [rwp,hwR,zA,zB,zC,zD,zE,zF,zG,zH,zI])
  refine caW_pure (by simpa only [scA] using c_ref12_many hs hsz.1 hsz.2.1) ?_
  have hll:(levF s).length=s.length:=shp_len (lev_shp s)
  refine LoopP.introS (fun i:Nat=>[(2,.ptr b 0),(4,.sl 1 (lvC (levF s))),(5,.int .i64 (manyF s)),(6,.int .i64 i)])
    (fun i S'=>S'=supd S b (.cells 88 [.int .i64 0,.int .i64 0,.int .i64 0] 3)∧i≤s.length∧(eachT (fun (_:Unit) i k t r=>(cycF s i k t r,())) i (s.drop i) ()).1=eachF s (cycF s)) (fun i=>s.length-i) 0 ⟨rfl,by omega,rfl⟩ rfl ?_
  rintro i _ ⟨rfl,hi,hf⟩ q hq
  have hcl0:(lvC (levF s)).length=s.length:=by simp [lvC,hll]
  (try simp only [rwp,hwR,zA,zB,zC,zD,zE,zF,zG,zH,zI,C_ref12_Check_1])
  (refine cnW_intro (fun hlt=>?_) (fun hlt=>?_)<;>(try simp only [hlc] at hlt))<;>rw [hcl0] at hlt
  · obtain ⟨t,ht⟩:=get_lt hlt
    obtain ⟨l,hl,hlen⟩:=shp_row (lev_shp s) ht
    have htn:=hsz.2.1 t (List.mem_of_getElem? ht)
    have hcl:(lvC (levF s))[i]?=some [.sl 1 (l.map fun x=>[iv x])]:=by rw [lvC,List.getElem?_map,hl];rfl
    rw [drop_cons ht,eachT] at hf
    refine LoopP.introS (fun k:Nat=>[(2,.ptr b 0),(4,.sl 1 (lvC (levF s))),(5,.int .i64 (manyF s)),(6,.int .i64 i),(7,.int .i64 k)])
      (fun k S'=>S'=supd S b (.cells 88 [.int .i64 0,.int .i64 0,.int .i64 0] 3)∧k≤t.rels.length∧eachR (fun (_:Unit) k r=>(cycF s i k t r,())) k (t.rels.drop k) ()=eachR (fun (_:Unit) k r=>(cycF s i k t r,())) 0 t.rels ()) (fun k=>t.rels.length-k) 0 ⟨rfl,by omega,rfl⟩ rfl ?_
    rintro k _ ⟨rfl,hk,hf2⟩ q2 hq2
    have hlm:(l.map fun x=>[iv x]).length=t.rels.length:=by rw [List.length_map,hlen]
    (try simp only [rwp,hwR,zA,zB,zC,zD,zE,zF,zG,zH,zI,C_ref12_Check_2,hcl])
    (refine cnW_intro (fun hlt2=>?_) (fun hlt2=>?_)<;>(try simp only [hlc] at hlt2))<;>(try simp only [List.length_map] at hlt2)<;>rw [hlen] at hlt2
    · obtain ⟨r,hr⟩:=get_lt hlt2
      have hkl:k<l.length:=by omega
      have hgx:getL (levF s) (i,k)=l[k]:=by simp [getL,hl,List.getElem?_eq_getElem hkl]
      have hxk:l[k]?=some l[k]:=List.getElem?_eq_getElem hkl
      rw [drop_cons hr,eachR] at hf2
      (try simp only [rwp,hwR,zA,zB,zC,zD,zE,zF,zG,zH,zI,hcl,hxk,Option.map_some])
      (refine cnW_intro (fun hc=>?_) (fun hc=>?_)<;>(try simp only [hlc] at hc))
      · have he:cycF s i k t r=11:=by rw [cycF,hgx,if_pos (by omega)]
        rw [he,if_neg (by decide)] at hf2
        rw [← hf2] at hf
        (try simp only [rwp,hwR,zA,zB,zC,zD,zE,zF,zG,zH,zI])
        refine ret _ _ _ ?_
        rw [hck,← hf];rfl
      · have he:cycF s i k t r=0:=by rw [cycF,hgx,if_neg (by omega)]
        rw [he,if_pos rfl] at hf2
        (simp (disch:=omega) only [hwrap64])
        exact rcW_as rfl (hq2 (k+1) _ ⟨rfl,by omega,hf2⟩ (by omega))
    · rw [drop_end hlt2,eachR] at hf2
      rw [← hf2] at hf
      (simp (disch:=omega) only [hwrap64])
      exact rcW_as rfl (hq (i+1) _ ⟨rfl,by omega,hf⟩ (by omega))
  · rw [drop_end hlt,eachT] at hf
    (try simp only [rwp,hwR,zA,zB,zC,zD,zE,zF,zG,zH,zI])
    refine ret _ _ _ ?_
    rw [hck,← hf];rfl
theorem c_ref12_Levels {s:List Ty} (hs:OkS s) (hN:OkN s):AFun PG nr_ref12_Levels [scA s] (lvlF s):=by
  intro S
  refine w_ref12_Levels ?_
  unfold B_ref12_Levels
  (try simp only [rwp,hwR,zA,zB,zC,zD,zE,zF,zG,zH,zI,scA])
  refine caW_pure (by simpa only [scA] using c_ref12_Check hs hN) ?_
  obtain ⟨ft,fr,fe,hp⟩:=chkF_fl s
  rw [hp]
  (try simp only [rwp,hwR,zA,zB,zC,zD,zE,zF,zG,zH,zI,flA])
  (refine cnW_intro (fun h0=>?_) (fun h0=>?_)<;>(try simp only [hlc] at h0))
  · exact rtW_two ⟨by rw [lvlF,hp,flA_err,if_neg (by omega)],rfl⟩
  have hg:GoodS s:=chk_good (by rw [hp,flA_err];omega)
  refine caW_pure (by simpa only [scA] using c_ref12_levels hs hN hg) ?_
  (try simp only [rwp,hwR,zA,zB,zC,zD,zE,zF,zG,zH,zI])
  exact rtW_two ⟨by rw [lvlF,hp,flA_err,if_pos (by omega)],rfl⟩
end Go.HL
set_option linter.unusedVariables false
set_option linter.unusedSimpArgs false
namespace Go.HL
open Nat renaming reduceAdd→zA,reduceLeDiff→zB,reduceLT→zC,reduceSub→zD,reduceMul→zE,reduceEqDiff→zF,reduceBEq→zG
open Int renaming reduceAdd→zH,reduceToNat→zI
theorem sum_mem:∀ {l:List Nat} {x:Nat},x∈l→x≤l.sum
  | [],x,h=>by cases h
  | y :: l,x,h=>by
    rw [List.sum_cons]
    rcases List.mem_cons.1 h with rfl | h
    · omega
    · have:=sum_mem h;omega
theorem few_N {s:List Ty} {most:Int} (h:fewF s most=true) (hm:most≤1000):OkN s:=by
  have h1:=few_size h
  intro t ht r hr
  have h2:rsz r≤tsz t:=by
    unfold tsz
    exact sum_mem (List.mem_map_of_mem hr)
  have h3:tsz t≤(s.map tsz).sum:=sum_mem (List.mem_map_of_mem ht)
  unfold ssz at h1
  omega
end Go.HL
set_option linter.unusedVariables false
set_option linter.unusedSimpArgs false
set_option maxRecDepth 4000
namespace Go.HL
open Nat renaming reduceAdd→zA,reduceLeDiff→zB,reduceLT→zC,reduceSub→zD,reduceMul→zE,reduceEqDiff→zF,reduceBEq→zG
open Int renaming reduceAdd→zH,reduceToNat→zI
structure Ob where
  ty:ByteArray
  id:ByteArray
  deriving DecidableEq
structure Nd where
  o:Ob
  rl:ByteArray
  deriving DecidableEq
structure Tu where
  o:Ob
  rl:ByteArray
  s:Nd
  deriving DecidableEq
def obC (o:Ob):List AV:=[.str o.ty,.str o.id]
def ndC (n:Nd):List AV:=[.str n.o.ty,.str n.o.id,.str n.rl]
def tuC (t:Tu):List AV:=[.str t.o.ty,.str t.o.id,.str t.rl,.str t.s.o.ty,.str t.s.o.id,.str t.s.rl]
structure OkO (o:Ob):Prop where
  ty:o.ty.size≤1125899906842624
  id:o.id.size≤1125899906842624
structure OkD (n:Nd):Prop where
  o:OkO n.o
  rl:n.rl.size≤1125899906842624
structure OkU (t:Tu):Prop where
  o:OkO t.o
  rl:t.rl.size≤1125899906842624
  s:OkD t.s
theorem c_names_great (n:Int):AFun PG nr_names_great [.int .u8 n] (.bool (greatN n)):=by
  intro S
  refine w_names_great ?_
  unfold B_names_great
  (try simp only [rwp,zA,zB,zC,zD,zE,zF,zG,zH,zI])
  exact rtW_one ⟨rfl,rfl⟩
theorem c_IndexByteString (s:ByteArray) (c:Int):AFun PG 216 [.str s,.int .u8 c] (.int .i64 (Lib.indexByte s.data.toList c.toNat.toUInt8)):=by
  intro S R w vs hs hv
  obtain ⟨l⟩:=vs
  match l,hv with
  | [],hv=>cases hv.1
  | [_],hv=>cases hv.1
  | _ :: _ :: _ :: _,hv=>cases hv.1
  | [a,b],hv=>
    have h1:RV R w (.str s) a:=hv.head
    have h2:RV R w (.int .u8 c) b:=hv.tail.head
    cases h1
    cases h2
    refine .inr ⟨_,w,?_,R,S,.ret (.int .i64 (Lib.indexByte s.data.toList c.toNat.toUInt8)),.int _ _,⟨rfl,rfl⟩,hs,Step.refl _ _ _⟩
    rw [run_callFunc_extern Go.Proofs.Tryz.func216 (by kernel_rfl) (by kernel_rfl) (by kernel_rfl) (e:=Extern.BytealgIndexByte.indexByte) (by kernel_rfl),Lib.run_indexByteString]
    rfl
theorem c_IndexByte0 (s:ByteArray) (c:Int):AFun PG nr_internal_stringslite_IndexByte [.str s,.int .u8 c] (.int .i64 (Lib.indexByte s.data.toList c.toNat.toUInt8)):=by
  intro S
  refine w_internal_stringslite_IndexByte ?_
  unfold B_internal_stringslite_IndexByte
  refine caW_pure (c_IndexByteString s c) ?_
  exact rtW_one ⟨rfl,rfl⟩
theorem c_IndexByte (s:ByteArray) (c:Int):AFun PG nr_strings_IndexByte [.str s,.int .u8 c] (.int .i64 (Lib.indexByte s.data.toList c.toNat.toUInt8)):=by
  intro S
  refine w_strings_IndexByte ?_
  unfold B_strings_IndexByte
  refine caW_pure (c_IndexByte0 s c) ?_
  exact rtW_one ⟨rfl,rfl⟩
def signN (n:Int):Bool:=decide (n=95)||(decide (n=46)||decide (n=45))
theorem sign_idx {b:UInt8}:decide ((0:Int)≤Lib.indexByte [95,46,45] b.toNat.toUInt8)=signN b.toNat:=by
  have key:∀ n:Fin 256,decide ((0:Int)≤Lib.indexByte [95,46,45] n.1.toUInt8)=signN n.1:=by decide +kernel
  exact key ⟨b.toNat,b.toNat_lt⟩
def idN (n:Int):Bool:=smallN n||(greatN n||(digitN n||signN n))
theorem c_names_ID_1 (b:UInt8):AFun PG nr_names_ID_1 [.int .u8 b.toNat] (.bool (idN b.toNat)):=by
  intro S
  refine w_names_ID_1 ?_
  unfold B_names_ID_1
  refine caW_pure (c_names_small b.toNat) ?_
  cases h1:smallN b.toNat
  · (try simp only [rwp,zA,zB,zC,zD,zE,zF,zG,zH,zI])
    refine caW_pure (c_names_great b.toNat) ?_
    cases h2:greatN b.toNat
    · (try simp only [rwp,zA,zB,zC,zD,zE,zF,zG,zH,zI,C_names_ID_1_1])
      refine caW_pure (c_names_digit b.toNat) ?_
      cases h3:digitN b.toNat
      · (try simp only [rwp,zA,zB,zC,zD,zE,zF,zG,zH,zI,C_names_ID_1_2])
        refine caW_pure (c_IndexByte _ _) ?_
        (try simp only [rwp,zA,zB,zC,zD,zE,zF,zG,zH,zI])
        exact rtW_one ⟨by rw [sign_idx];simp [idN,h1,h2,h3],rfl⟩
      · (try simp only [rwp,zA,zB,zC,zD,zE,zF,zG,zH,zI,C_names_ID_1_2])
        exact rtW_one ⟨by simp [idN,h1,h2,h3],rfl⟩
    · (try simp only [rwp,zA,zB,zC,zD,zE,zF,zG,zH,zI,C_names_ID_1_1,C_names_ID_1_2])
      exact rtW_one ⟨by simp [idN,h1,h2],rfl⟩
  · (try simp only [rwp,zA,zB,zC,zD,zE,zF,zG,zH,zI,C_names_ID_1_1,C_names_ID_1_2])
    exact rtW_one ⟨by simp [idN,h1],rfl⟩
def idB (s:ByteArray):Bool:=allB idN s&&(decide ((0:Int)<s.size)&&decide ((s.size:Int)≤24))
theorem c_names_ID {s:ByteArray} (hs:s.size≤1125899906842624):AFun PG nr_names_ID [.str s] (.bool (idB s)):=by
  intro S
  refine w_names_ID ?_
  unfold B_names_ID
  refine caW_pure (c_names_only c_names_ID_1 hs 24) ?_
  exact rtW_one ⟨rfl,rfl⟩
theorem nb1:∀ a b c d e:Bool,(!(a&&b)&&!c&&!d&&!e)=!((a&&b)||(c||(d||e))):=by decide
theorem nb2:∀ z a b c d e:Bool,(!z&&!(a&&b)&&!c&&!d&&!e)=!(z||((a&&b)||(c||(d||e)))):=by decide
theorem c_ref10_ID {s:ByteArray} (hs:s.size≤1125899906842624):AFun PG nr_ref10_ID [.str s] (.bool (idB s)):=by
  intro S
  refine w_ref10_ID ?_
  unfold B_ref10_ID
  (try simp only [rwp,zA,zB,zC,zD,zE,zF,zG,zH,zI,C_ref10_ID_1])
  (refine cnW_intro (fun h0=>?_) (fun h0=>?_)<;>(try simp only [rwp,zA,zB,zC,zD,zE,zF,zG,zH,zI,h0]))
  · simp only [Bool.or_eq_true,decide_eq_true_eq] at h0
    refine rtW_one ⟨?_,rfl⟩
    have:idB s=false:=by
      rcases h0 with h | h
      · simp only [idB,decide_eq_false (show ¬ (0:Int)<s.size by omega),Bool.false_and,Bool.and_false]
      · simp only [idB,decide_eq_false (show ¬ (s.size:Int)≤24 by omega),Bool.and_false]
    rw [this]
  · simp only [Bool.or_eq_false_iff,decide_eq_false_iff_not] at h0
    refine LoopP.intro (fun i:Nat=>[(0,.str s),(3,.int .i64 i)]) (fun _=>S) (fun i=>i≤s.size∧∀ j b,j<i→s[j]?=some b→idN b.toNat=true) (fun i=>s.size-i) 0 ⟨by omega,by omega⟩ rfl (Sub.refl S) ?_
    rintro i ⟨hi,hn⟩ r hr
    (try simp only [rwp,zA,zB,zC,zD,zE,zF,zG,zH,zI,C_ref10_ID_2])
    (refine cnW_intro (fun hlt=>?_) (fun hlt=>?_)<;>(try simp only [hlc] at hlt))
    · obtain ⟨b,hb⟩:=byte_lt hlt
      (try simp only [rwp,zA,zB,zC,zD,zE,zF,zG,zH,zI,hb])
      have good:idN b.toNat=true→r [(0,.str s),(3,.int .i64 ((i:Int)+1))] S:=fun h=>by
        refine hr (i+1) ⟨by omega,fun j c hj hc=>?_⟩ (by omega)
        rcases Nat.lt_succ_iff_lt_or_eq.1 hj with h1 | rfl
        · exact hn j c h1 hc
        · rw [hb] at hc;cases hc;exact h
      have bad:idN b.toNat=false→idB s=false:=fun h=>by simp only [idB,allB_false hb h,Bool.false_and]
      cases a1:(decide (97≤(b.toNat:Int))&&decide ((b.toNat:Int)≤122))<;>cases a2:decide (65≤(b.toNat:Int))<;>(try simp only [rwp,zA,zB,zC,zD,zE,zF,zG,zH,zI,C_ref10_ID_3,C_ref10_ID_4,C_ref10_ID_5,C_ref10_ID_6,C_ref10_ID_7,C_ref10_ID_8,C_ref10_ID_9,C_ref10_ID_10,a1,a2])
      all_goals have key:idN b.toNat=((decide (97≤(b.toNat:Int))&&decide ((b.toNat:Int)≤122))||((decide (65≤(b.toNat:Int))&&decide ((b.toNat:Int)≤90))||((decide (48≤(b.toNat:Int))&&decide ((b.toNat:Int)≤57))||(decide ((b.toNat:Int)=95)||(decide ((b.toNat:Int)=46)||decide ((b.toNat:Int)=45)))))):=rfl
      all_goals rw [a1,a2] at key
      · simp only [Bool.false_or,Bool.false_and] at key
        (refine cnW_intro (fun h9=>?_) (fun h9=>?_)<;>(try simp only [rwp,zA,zB,zC,zD,zE,zF,zG,zH,zI,h9]))
        · exact rtW_one ⟨by rw [bad (key.trans (Eq.mp (Bool.not_eq_true' _) ((nb1 _ _ _ _ _).symm.trans h9)))],rfl⟩
        · (simp (disch:=omega) only [hwrap64]);exact rcW_as rfl (good (key.trans (Eq.mp (Bool.not_eq_false' _) ((nb1 _ _ _ _ _).symm.trans h9))))
      · simp only [Bool.false_or,Bool.true_and] at key
        (refine cnW_intro (fun h9=>?_) (fun h9=>?_)<;>(try simp only [rwp,zA,zB,zC,zD,zE,zF,zG,zH,zI,h9]))
        · exact rtW_one ⟨by rw [bad (key.trans (Eq.mp (Bool.not_eq_true' _) ((nb2 _ _ _ _ _ _).symm.trans h9)))],rfl⟩
        · (simp (disch:=omega) only [hwrap64]);exact rcW_as rfl (good (key.trans (Eq.mp (Bool.not_eq_false' _) ((nb2 _ _ _ _ _ _).symm.trans h9))))
      · (simp (disch:=omega) only [hwrap64]);exact rcW_as rfl (good key)
      · (simp (disch:=omega) only [hwrap64]);exact rcW_as rfl (good key)
    · have hall:allB idN s=true:=allB_iff.2 fun j c hc=>hn j c (by have:=byte_size hc;omega) hc
      refine rtW_one ⟨?_,rfl⟩
      rw [idB,hall,decide_eq_true (show (0:Int)<s.size by omega),decide_eq_true (show (s.size:Int)≤24 by omega)]
      rfl
def obB (o:Ob):Bool:=nameB o.ty&&idB o.id
def tuB (t:Tu):Bool:=obB t.o&&(obB t.s.o&&(nameB t.rl&&(decide (t.s.rl=⟨#[]⟩)||nameB t.s.rl)))
def showO (o:Ob):ByteArray:=if obB o then o.ty++⟨#[58]⟩++o.id else ⟨#[]⟩
def showN (n:Nd):ByteArray:=if obB n.o then (if n.rl=⟨#[]⟩ then showO n.o else if nameB n.rl then showO n.o++⟨#[35]⟩++n.rl else ⟨#[]⟩) else ⟨#[]⟩
def showT (t:Tu):ByteArray:=if tuB t then showO t.o++⟨#[35]⟩++t.rl++⟨#[64]⟩++showN t.s else ⟨#[]⟩
theorem size_app {a b:ByteArray}:(a++b).size=a.size+b.size:=by simp
theorem app_ne {a b:ByteArray} (h:0<a.size∨0<b.size):¬ a++b=⟨#[]⟩:=fun e=>by
  have:=congrArg ByteArray.size e
  rw [size_app] at this
  have:(ByteArray.mk #[]).size=0:=rfl
  omega
theorem c_names_ShowObject {o:Ob} (ho:OkO o):AFun PG nr_names_ShowObject [.agg (obC o)] (.str (showO o)):=by
  intro S
  refine w_names_ShowObject ?_
  unfold B_names_ShowObject
  (try simp only [rwp,zA,zB,zC,zD,zE,zF,zG,zH,zI,rwb,reduceIte,obC])
  refine caW_pure (c_names_Name ho.ty) ?_
  have h1:=ho.ty
  have h2:=ho.id
  cases a1:nameB o.ty
  · (try simp only [rwp,zA,zB,zC,zD,zE,zF,zG,zH,zI,rwb,reduceIte,C_names_ShowObject_1])
    exact rtW_one ⟨by simp [showO,obB,a1],rfl⟩
  · (try simp only [rwp,zA,zB,zC,zD,zE,zF,zG,zH,zI,rwb,reduceIte])
    refine caW_pure (c_names_ID ho.id) ?_
    cases a2:idB o.id
    · (try simp only [rwp,zA,zB,zC,zD,zE,zF,zG,zH,zI,rwb,reduceIte,C_names_ShowObject_1])
      exact rtW_one ⟨by simp [showO,obB,a1,a2],rfl⟩
    · (try simp only [rwp,zA,zB,zC,zD,zE,zF,zG,zH,zI,rwb,reduceIte,C_names_ShowObject_1,ByteArray.size_append])
      refine ⟨?_,?_,rtW_one ⟨by simp [showO,obB,a1,a2],rfl⟩⟩
      · have:(ByteArray.mk #[58]).size=1:=rfl
        omega
      · have:(ByteArray.mk #[58]).size=1:=rfl
        omega
theorem showO_le {o:Ob} (ho:OkO o):(showO o).size≤2251799813685249:=by
  have h1:=ho.ty
  have h2:=ho.id
  unfold showO
  split
  · rw [size_app,size_app]
    have:(ByteArray.mk #[58]).size=1:=rfl
    omega
  · exact Nat.zero_le _
theorem showO_nil {o:Ob}:decide (showO o=⟨#[]⟩)=!obB o:=by
  unfold showO
  cases h:obB o
  · rfl
  · rw [if_pos rfl]
    refine decide_eq_false (app_ne (.inl ?_))
    rw [size_app]
    have:(ByteArray.mk #[58]).size=1:=rfl
    omega
theorem c_names_ShowSubject {n:Nd} (hn:OkD n):AFun PG nr_names_ShowSubject [.agg (ndC n)] (.str (showN n)):=by
  intro S
  refine w_names_ShowSubject ?_
  unfold B_names_ShowSubject
  (try simp only [rwp,zA,zB,zC,zD,zE,zF,zG,zH,zI,rwb,reduceIte,ndC])
  have q:=c_names_ShowObject hn.o
  simp only [obC] at q
  have h1:=showO_le hn.o
  have h2:=hn.rl
  refine caW_pure q ?_
  (try simp only [rwp,zA,zB,zC,zD,zE,zF,zG,zH,zI,rwb,reduceIte])
  rw [showO_nil]
  cases a1:obB n.o
  · (try simp only [rwp,zA,zB,zC,zD,zE,zF,zG,zH,zI,rwb,reduceIte,C_names_ShowSubject_1])
    exact rtW_one ⟨by simp [showN,showO,a1],rfl⟩
  · cases a2:decide (n.rl=⟨#[]⟩)
    · (try simp only [rwp,zA,zB,zC,zD,zE,zF,zG,zH,zI,rwb,reduceIte,C_names_ShowSubject_1,a2])
      have a2:=of_decide_eq_false a2
      refine caW_pure (c_names_Name hn.rl) ?_
      cases a3:nameB n.rl
      · (try simp only [rwp,zA,zB,zC,zD,zE,zF,zG,zH,zI,rwb,reduceIte])
        exact rtW_one ⟨by simp [showN,a1,a2,a3],rfl⟩
      · (try simp only [rwp,zA,zB,zC,zD,zE,zF,zG,zH,zI,rwb,reduceIte,ByteArray.size_append])
        have:(ByteArray.mk #[35]).size=1:=rfl
        exact ⟨by omega,by omega,rtW_one ⟨by simp [showN,a1,a2,a3],rfl⟩⟩
    · (try simp only [rwp,zA,zB,zC,zD,zE,zF,zG,zH,zI,rwb,reduceIte,C_names_ShowSubject_1,a2])
      have a2:=of_decide_eq_true a2
      exact rtW_one ⟨by simp [showN,a1,a2],rfl⟩
theorem showN_le {n:Nd} (hn:OkD n):(showN n).size≤4503599627370496:=by
  have h1:=showO_le hn.o
  have h2:=hn.rl
  have:(ByteArray.mk #[35]).size=1:=rfl
  unfold showN
  repeat' split
  · omega
  · rw [size_app,size_app];omega
  · exact Nat.zero_le _
  · exact Nat.zero_le _
theorem showN_nil {n:Nd}:decide (showN n=⟨#[]⟩)=!(obB n.o&&(decide (n.rl=⟨#[]⟩)||nameB n.rl)):=by
  unfold showN
  cases h1:obB n.o
  · rfl
  · rw [if_pos rfl]
    by_cases h2:n.rl=⟨#[]⟩
    · rw [if_pos h2,showO_nil,h1,decide_eq_true h2];rfl
    · rw [if_neg h2,decide_eq_false h2]
      cases h3:nameB n.rl
      · rfl
      · rw [if_pos rfl]
        refine decide_eq_false (app_ne (.inl ?_))
        rw [size_app]
        have:(ByteArray.mk #[35]).size=1:=rfl
        omega
theorem tuB_eq (t:Tu):tuB t=(obB t.o&&((obB t.s.o&&(decide (t.s.rl=⟨#[]⟩)||nameB t.s.rl))&&nameB t.rl)):=by
  unfold tuB
  cases obB t.o<;>cases obB t.s.o<;>cases nameB t.rl<;>simp
theorem showT_nil {t:Tu}:decide (showT t=⟨#[]⟩)=!tuB t:=by
  unfold showT
  cases h1:tuB t
  · rfl
  · rw [if_pos rfl]
    refine decide_eq_false (app_ne (.inl ?_))
    rw [size_app]
    have:(ByteArray.mk #[64]).size=1:=rfl
    omega
theorem c_names_ShowTuple {t:Tu} (ht:OkU t):AFun PG nr_names_ShowTuple [.agg (tuC t)] (.str (showT t)):=by
  intro S
  refine w_names_ShowTuple ?_
  unfold B_names_ShowTuple
  (try simp only [rwp,zA,zB,zC,zD,zE,zF,zG,zH,zI,rwb,reduceIte,tuC])
  have q1:=c_names_ShowObject ht.o
  have q2:=c_names_ShowSubject ht.s
  simp only [obC] at q1
  simp only [ndC] at q2
  have h1:=showO_le ht.o
  have h2:=showN_le ht.s
  have h3:=ht.rl
  refine caW_pure q1 ?_
  (try simp only [rwp,zA,zB,zC,zD,zE,zF,zG,zH,zI,rwb,reduceIte])
  refine caW_pure q2 ?_
  (try simp only [rwp,zA,zB,zC,zD,zE,zF,zG,zH,zI,rwb,reduceIte])
  have e:=tuB_eq t
  rw [showO_nil,showN_nil]
  cases a1:obB t.o
  · (try simp only [rwp,zA,zB,zC,zD,zE,zF,zG,zH,zI,rwb,reduceIte,C_names_ShowTuple_1,C_names_ShowTuple_2])
    exact rtW_one ⟨by simp [showT,e,a1],rfl⟩
  · cases a2:(obB t.s.o&&(decide (t.s.rl=⟨#[]⟩)||nameB t.s.rl))
    · (try simp only [rwp,zA,zB,zC,zD,zE,zF,zG,zH,zI,rwb,reduceIte,C_names_ShowTuple_1,C_names_ShowTuple_2])
      exact rtW_one ⟨by simp only [showT,e,a1,a2];rfl,rfl⟩
    · (try simp only [rwp,zA,zB,zC,zD,zE,zF,zG,zH,zI,rwb,reduceIte,C_names_ShowTuple_1])
      refine caW_pure (c_names_Name ht.rl) ?_
      cases a3:nameB t.rl
      · (try simp only [rwp,zA,zB,zC,zD,zE,zF,zG,zH,zI,rwb,reduceIte,C_names_ShowTuple_2])
        exact rtW_one ⟨by simp only [showT,e,a1,a2,a3];rfl,rfl⟩
      · (try simp only [rwp,zA,zB,zC,zD,zE,zF,zG,zH,zI,rwb,reduceIte,C_names_ShowTuple_2,ByteArray.size_append])
        have:(ByteArray.mk #[35]).size=1:=rfl
        have:(ByteArray.mk #[64]).size=1:=rfl
        exact ⟨by omega,by omega,by omega,by omega,rtW_one ⟨by simp only [showT,e,a1,a2,a3];rfl,rfl⟩⟩
end Go.HL
set_option linter.unusedVariables false
set_option linter.unusedSimpArgs false
set_option maxRecDepth 4000
namespace Go.HL
open Nat renaming reduceAdd→zA,reduceLeDiff→zB,reduceLT→zC,reduceSub→zD,reduceMul→zE,reduceEqDiff→zF,reduceBEq→zG
open Int renaming reduceAdd→zH,reduceToNat→zI
section
variable {α:Type} {enc:α→List AV} {xs:List α} {S:Store} {g:Nat} {fi ca:List AV} {p:α→Bool}
theorem c_IndexFunc_Type (hl:∀ x∈xs,(enc x).length=2) (hb:xs.length≤1125899906842624) (hp:∀ x∈xs,AFunS PG g (fi++[.agg (enc x)]++ca) S (.bool (p x))) :
    AFunS PG nr_slices_IndexFunc_Type [.sl 2 (xs.map enc),.func (.func g) fi ca] S (.int .i64 (oi (firstI p xs))):=by
  refine w_slices_IndexFunc_Type ?_
  unfold B_slices_IndexFunc_Type
  (try simp only [rwp,zA,zB,zC,zD,zE,zF,zG,zH,zI])
  refine LoopP.intro (fun i:Nat=>[(0,.sl 2 (xs.map enc)),(1,.func (.func g) fi ca),(7,.int .i64 xs.length),(8,.int .i64 i)]) (fun _=>S) (fun i=>i≤xs.length∧∀ j x,j<i→xs[j]?=some x→p x=false) (fun i=>xs.length-i) 0 ⟨by omega,by omega⟩ rfl (Sub.refl S) ?_
  rintro i ⟨hi,hn⟩ r hr
  unfold C_slices_IndexFunc_Type_1
  (try simp only [rwp,zA,zB,zC,zD,zE,zF,zG,zH,zI])
  (refine cnW_intro (fun hlt=>?_) (fun hlt=>?_)<;>(try simp only [hlc] at hlt))
  · obtain ⟨x,hx⟩:=get_lt hlt
    (try simp only [rwp,zA,zB,zC,zD,zE,zF,zG,zH,zI,hx])
    rw [tkW_all (hl x (List.mem_of_getElem? hx))]
    refine caW_atv (hp x (List.mem_of_getElem? hx)) ?_
    (refine cnW_intro (fun he=>?_) (fun he=>?_)<;>(try simp only [rwp,zA,zB,zC,zD,zE,zF,zG,zH,zI,he]))
    · have:firstI p xs=some i:=firstI_some.2 ⟨⟨x,hx,he⟩,hn⟩
      exact rtW_one ⟨by rw [this];rfl,rfl⟩
    · (simp (disch:=omega) only [hwrap64])
      refine rcW_as rfl (hr (i+1) ⟨by omega,fun j u hj hu=>?_⟩ (by omega))
      rcases Nat.lt_succ_iff_lt_or_eq.1 hj with h | rfl
      · exact hn j u h hu
      · rw [hx] at hu;cases hu;exact he
  · have:firstI p xs=none:=firstI_none.2 fun j u hu=>hn j u (by have:=(List.getElem?_eq_some_iff.1 hu).1;omega) hu
    exact rtW_one ⟨by rw [this];rfl,rfl⟩
theorem c_ContainsFunc_Type (hl:∀ x∈xs,(enc x).length=2) (hb:xs.length≤1125899906842624) (hp:∀ x∈xs,AFunS PG g (fi++[.agg (enc x)]++ca) S (.bool (p x))) :
    AFunS PG nr_slices_ContainsFunc_Type [.sl 2 (xs.map enc),.func (.func g) fi ca] S (.bool (xs.any p)):=by
  refine w_slices_ContainsFunc_Type ?_
  unfold B_slices_ContainsFunc_Type
  refine caW_at (c_IndexFunc_Type hl hb hp) ?_
  (try simp only [rwp,zA,zB,zC,zD,zE,zF,zG,zH,zI])
  exact rtW_one ⟨by rw [oi_some,firstI_any],rfl⟩
end
theorem c_Index_Ref {l:List Rf} (hl:l.length≤1125899906842624) (f:Rf):AFun PG nr_slices_Index_Ref [.sl 2 (l.map rfC),.agg (rfC f)] (.int .i64 (oi (firstI (fun g=>decide (f.ty=g.ty)&&decide (f.rl=g.rl)) l))):=by
  intro S
  refine w_slices_Index_Ref ?_
  unfold B_slices_Index_Ref
  (try simp only [rwp,zA,zB,zC,zD,zE,zF,zG,zH,zI,rfC])
  refine LoopP.intro (fun i:Nat=>[(0,.sl 2 (l.map rfC)),(3,.rop [.str f.ty,.str f.rl]),(7,.int .i64 l.length),(8,.int .i64 i)]) (fun _=>S) (fun i=>i≤l.length∧∀ j x,j<i→l[j]?=some x→(decide (f.ty=x.ty)&&decide (f.rl=x.rl))=false) (fun i=>l.length-i) 0 ⟨by omega,by omega⟩ rfl (Sub.refl S) ?_
  rintro i ⟨hi,hn⟩ r hr
  unfold C_slices_Index_Ref_1
  (try simp only [rwp,zA,zB,zC,zD,zE,zF,zG,zH,zI])
  (refine cnW_intro (fun hlt=>?_) (fun hlt=>?_)<;>(try simp only [hlc] at hlt))
  · obtain ⟨x,hx⟩:=get_lt hlt
    (try simp only [rwp,zA,zB,zC,zD,zE,zF,zG,zH,zI,hx,rfC,eqW_def])
    (refine cnW_intro (fun he=>?_) (fun he=>?_)<;>(try simp only [rwp,zA,zB,zC,zD,zE,zF,zG,zH,zI,he]))
    · have:firstI (fun g:Rf=>decide (f.ty=g.ty)&&decide (f.rl=g.rl)) l=some i:=firstI_some.2 ⟨⟨x,hx,he⟩,hn⟩
      exact rtW_one ⟨by rw [this];rfl,rfl⟩
    · (simp (disch:=omega) only [hwrap64])
      refine rcW_as rfl (hr (i+1) ⟨by omega,fun j u hj hu=>?_⟩ (by omega))
      rcases Nat.lt_succ_iff_lt_or_eq.1 hj with h | rfl
      · exact hn j u h hu
      · rw [hx] at hu;cases hu;exact he
  · have:firstI (fun g:Rf=>decide (f.ty=g.ty)&&decide (f.rl=g.rl)) l=none:=firstI_none.2 fun j u hu=>hn j u (by have:=(List.getElem?_eq_some_iff.1 hu).1;omega) hu
    exact rtW_one ⟨by rw [this];rfl,rfl⟩
theorem c_Contains_Ref {l:List Rf} (hl:l.length≤1125899906842624) (f:Rf):AFun PG nr_slices_Contains_Ref [.sl 2 (l.map rfC),.agg (rfC f)] (.bool (l.any fun g=>decide (f.ty=g.ty)&&decide (f.rl=g.rl))):=by
  intro S
  refine w_slices_Contains_Ref ?_
  unfold B_slices_Contains_Ref
  have q:=c_Index_Ref hl f
  simp only [rfC] at q
  (try simp only [rwp,zA,zB,zC,zD,zE,zF,zG,zH,zI,rfC])
  refine caW_pure q ?_
  (try simp only [rwp,zA,zB,zC,zD,zE,zF,zG,zH,zI])
  exact rtW_one ⟨by rw [oi_some,firstI_any],rfl⟩
def allowF (s:List Ty) (t:Tu):Int:=if tuB t then (match findF s t.o.ty t.rl with
    | none=>6
    | some (_,_,r)=>if (typF s t.s.o.ty).isSome then (if r.refs.any fun f=>decide (t.s.o.ty=f.ty)&&decide (t.s.rl=f.rl) then 0 else 10) else 6) else 1
theorem c_tuple_Allowed_1 {u:Ty} {t:Tu}:AFun PG nr_tuple_Allowed_1 [.agg (tyC u),.rop (tuC t)] (.bool (decide (u.name=t.s.o.ty))):=by
  intro S
  refine w_tuple_Allowed_1 ?_
  unfold B_tuple_Allowed_1
  (try simp only [rwp,zA,zB,zC,zD,zE,zF,zG,zH,zI,tyC,tuC])
  exact rtW_one ⟨rfl,rfl⟩
theorem typ_any {s:List Ty} {n:ByteArray}:(s.any fun u=>decide (u.name=n))=(typF s n).isSome:=by rw [typF,firstI_any]
theorem c_tuple_Allowed {s:List Ty} (hs:OkS s) {t:Tu} (ht:OkU t):AFun PG nr_tuple_Allowed [scA s,.agg (tuC t)] (.int .i64 (allowF s t)):=by
  intro S
  refine w_tuple_Allowed ?_
  unfold B_tuple_Allowed
  have q:=c_names_ShowTuple ht
  simp only [tuC] at q
  (try simp only [rwp,zA,zB,zC,zD,zE,zF,zG,zH,zI,rwb,reduceIte,scA,tuC])
  refine caW_pure q ?_
  (try simp only [rwp,zA,zB,zC,zD,zE,zF,zG,zH,zI,rwb,reduceIte])
  rw [showT_nil]
  cases a1:tuB t
  · (try simp only [rwp,zA,zB,zC,zD,zE,zF,zG,zH,zI,rwb,reduceIte])
    exact rtW_one ⟨by simp [allowF,a1],rfl⟩
  · (try simp only [rwp,zA,zB,zC,zD,zE,zF,zG,zH,zI,rwb,reduceIte])
    have q2:=c_rules_Find hs t.o.ty t.rl
    simp only [scA] at q2
    cases hq:findF s t.o.ty t.rl with
    | none=>
      refine caW_of (q2 S) ?_
      rintro ae S' ⟨rfl,rfl⟩
      rw [hq]
      dsimp only
      (try simp only [rwp,zA,zB,zC,zD,zE,zF,zG,zH,zI,rwb,reduceIte,C_tuple_Allowed_1,zeroR])
      exact rtW_one ⟨by simp [allowF,a1,hq],rfl⟩
    | some q3=>
      obtain ⟨i,k,r⟩:=q3
      obtain ⟨-,ty,h2,-,h4⟩:=findF_at hq
      have hok:=(hs.at h2).at h4
      refine caW_of (q2 S) ?_
      rintro ae S' ⟨rfl,rfl⟩
      rw [hq]
      dsimp only
      (try simp only [rwp,zA,zB,zC,zD,zE,zF,zG,zH,zI,rwb,reduceIte,rlC_eq])
      refine caW_at (c_ContainsFunc_Type (enc:=tyC) (fi:=[]) (p:=fun u:Ty=>decide (u.name=t.s.o.ty)) (fun x _=>rfl) hs.types fun u _=>c_tuple_Allowed_1 (u:=u) (t:=t) S') ?_
      rw [typ_any]
      cases a2:(typF s t.s.o.ty).isSome
      · (try simp only [rwp,zA,zB,zC,zD,zE,zF,zG,zH,zI,rwb,reduceIte,C_tuple_Allowed_1])
        exact rtW_one ⟨by simp only [allowF,a1,hq,a2];rfl,rfl⟩
      · (try simp only [rwp,zA,zB,zC,zD,zE,zF,zG,zH,zI,rwb,reduceIte,C_tuple_Allowed_1])
        have q4:=c_Contains_Ref hok.refs ⟨t.s.o.ty,t.s.rl⟩
        simp only [rfC] at q4
        refine caW_pure q4 ?_
        cases a3:(r.refs.any fun f=>decide (t.s.o.ty=f.ty)&&decide (t.s.rl=f.rl))
        · (try simp only [rwp,zA,zB,zC,zD,zE,zF,zG,zH,zI,rwb,reduceIte])
          exact rtW_one ⟨by simp only [allowF,a1,hq,a2,a3];rfl,rfl⟩
        · (try simp only [rwp,zA,zB,zC,zD,zE,zF,zG,zH,zI,rwb,reduceIte])
          exact rtW_one ⟨by simp only [allowF,a1,hq,a2,a3];rfl,rfl⟩
theorem any_take_succ {α:Type} {p:α→Bool} {l:List α} {i:Nat} {x:α} (h:l[i]?=some x):(l.take (i+1)).any p=((l.take i).any p||p x):=by
  rw [take_snoc' h,List.any_append];simp
def countsF (s:List Ty) (l:List Tu):List Tu:=l.filter fun t=>decide (allowF s t=0)
def ofF (l:List Tu) (n:Nd):List Tu:=l.filter fun t=>decide (t.o=n.o)&&decide (t.rl=n.rl)
theorem filter_take_succ {α:Type} {p:α→Bool} {l:List α} {i:Nat} {x:α} (h:l[i]?=some x):(l.take (i+1)).filter p=(l.take i).filter p++if p x then [x] else []:=by
  rw [take_snoc' h,List.filter_append]
  congr 1
  cases hp:p x<;>simp [hp]
abbrev tyTu:Nat:=41
theorem LstN.tu {S0 S:Store} {v:AV} {l:List Tu} {t:Tu} {K:AV→Store→Prop} (hs:Sub S0 S) (h:LstN S0 S tyTu 6 v (l.map tuC)) (hl:l.length≤1000000) (hK:∀ v' S',Sub S0 S'→LstN S0 S' tyTu 6 v' ((l++[t]).map tuC)→K v' S'):apW S tyTu 6 96 v (.sl 6 [tuC t]) K:=by
  refine LstN.app hs h (fun r hr=>by rw [List.mem_singleton.1 hr];rfl) (one_flat fun r hr=>by rw [List.mem_singleton.1 hr];rfl) (by simp only [List.length_map,List.length_singleton];omega) fun v' S' h1 h2 _=>?_
  exact hK v' S' h1 (by simpa using h2)
structure OkL (l:List Tu):Prop where
  n:l.length≤100000
  ok:∀ t∈l,OkU t
def smallF (s:List Ty) (l:List Tu):Bool:=fewF s 60&&decide ((l.length:Int)≤30)
theorem c_law14_Small {s:List Ty} (hs:OkS s) (l:List Tu):AFun PG nr_law14_Small [scA s,.sl 6 (l.map tuC)] (.bool (smallF s l)):=by
  intro S
  refine w_law14_Small ?_
  unfold B_law14_Small
  (try simp only [rwp,zA,zB,zC,zD,zE,zF,zG,zH,zI,rwb,reduceIte,scA])
  refine caW_pure (by simpa only [scA] using c_law11_Few hs (most:=60) (by decide) (by decide)) ?_
  cases a1:fewF s 60<;>(try simp only [rwp,zA,zB,zC,zD,zE,zF,zG,zH,zI,rwb,reduceIte])<;>exact rtW_one ⟨by simp [smallF,a1],rfl⟩
end Go.HL
set_option linter.unusedVariables false
set_option linter.unusedSimpArgs false
namespace Go.HL
open Nat renaming reduceAdd→zA,reduceLeDiff→zB,reduceLT→zC,reduceSub→zD,reduceMul→zE,reduceEqDiff→zF,reduceBEq→zG
open Int renaming reduceAdd→zH,reduceToNat→zI
def foldE {α σ:Type} (step:σ→α→Option (Bool×σ)):List α→σ→Option (Bool×σ)
  | [],a=>some (false,a)
  | x :: r,a=>match step a x with
    | none=>none
    | some (true,a')=>some (true,a')
    | some (false,a')=>foldE step r a'
structure Env15 where
  s:List Ty
  of:Nd→List Nd
  who:Ob
def stepT (who:Ob) (ask:Nd→Nat→Option (Bool×Nat)) (w:Nat) (x:Nd):Option (Bool×Nat):=if x.rl=⟨#[]⟩ then some (decide (x.o=who),w) else ask x w
def stepA (over:ByteArray) (ask:Nd→Nat→Option (Bool×Nat)) (w:Nat) (x:Nd):Option (Bool×Nat):=if x.rl=⟨#[]⟩ then ask ⟨x.o,over⟩ w else some (false,w)
def comb (k:Int) (p:Option (Bool×Nat)) (q:Nat→Option (Bool×Nat)):Option (Bool×Nat):=match p with
  | none=>none
  | some (x,w1)=>if x=decide (k=2) then some (x,w1) else match q w1 with
    | none=>none
    | some (y,w2)=>some (if k=4 then !y else y,w2)
def exQ (E:Env15) (ask:Nd→Nat→Option (Bool×Nat)) (o:Ob):Nat→Ex→Nat→Option (Bool×Nat)
  | 0,_,_=>none
  | m+1,.mk k n ov ks,w=>if k=0 then ask ⟨o,n⟩ w else if k=1 then foldE (stepA ov ask) (E.of ⟨o,n⟩) w else match ks with
    | [a,b]=>comb k (exQ E ask o m a w) (exQ E ask o m b)
    | _=>none
def bodyQ (E:Env15) (ask:Nd→Nat→Option (Bool×Nat)) (n:Nd) (r:Rl) (w:Nat):Option (Bool×Nat):=
  if r.refs.length=0 then exQ E ask n.o 12 r.ex w else foldE (stepT E.who ask) (E.of n) w
def askQ (E:Env15) (B:Int):Nat→List Nd→Nd→Nat→Option (Bool×Nat)
  | 0,P,n,w=>match findF E.s n.o.ty n.rl with
    | none=>some (false,w)
    | some _=>none
  | f+1,P,n,w=>match findF E.s n.o.ty n.rl with
    | none=>some (false,w)
    | some (_,_,r)=>if B<(w:Int)+1 then none else if n∈P then some (false,w+1) else bodyQ E (askQ E B f (n :: P)) n r (w+1)
def Bu {α:Type} (b:Int) (f g:α→Nat→Option (Bool×Nat)):Prop:=∀ n w x w',f n w=some (x,w')→w≤w'∧((w:Int)≤b→((w':Int)≤b→g n w=some (x,w'))∧(b<(w':Int)→g n w=none))
section
variable {b:Int} {E:Env15} {f g:Nd→Nat→Option (Bool×Nat)}
theorem Bu.fold {α:Type} {s t:Nat→α→Option (Bool×Nat)} (h:Bu b (fun x w=>s w x) (fun x w=>t w x)):Bu b (foldE s) (foldE t):=by
  intro l
  induction l with
  | nil=>
    intro w y w' e
    simp only [foldE,Option.some.injEq,Prod.mk.injEq] at e
    obtain ⟨rfl,rfl⟩:=e
    exact ⟨Nat.le_refl _,fun hw=>⟨fun _=>rfl,fun h=>by omega⟩⟩
  | cons x r ih=>
    intro w y w' e
    unfold foldE at e ⊢
    cases hs:s w x with
    | none=>rw [hs] at e;cases e
    | some q=>
      obtain ⟨z,w1⟩:=q
      rw [hs] at e
      obtain ⟨h1,h2⟩:=h x w z w1 hs
      dsimp only at h2
      cases z with
      | true=>
        simp only [Option.some.injEq,Prod.mk.injEq] at e
        obtain ⟨rfl,rfl⟩:=e
        exact ⟨h1,fun hw=>⟨fun h=>by rw [(h2 hw).1 h],fun h=>by rw [(h2 hw).2 h]⟩⟩
      | false=>
        obtain ⟨k1,k2⟩:=ih w1 y w' e
        refine ⟨by omega,fun hw=>?_⟩
        by_cases h4:(w1:Int)≤b
        · rw [(h2 hw).1 h4]
          exact k2 h4
        · rw [(h2 hw).2 (by omega)]
          exact ⟨fun h=>by omega,fun _=>rfl⟩
theorem Bu.told {who:Ob} (h:Bu b f g):Bu b (fun x w=>stepT who f w x) (fun x w=>stepT who g w x):=by
  intro x w y w' e
  dsimp only at e ⊢
  unfold stepT at e ⊢
  split at e
  · rename_i h0
    simp only [if_pos h0]
    simp only [Option.some.injEq,Prod.mk.injEq] at e
    obtain ⟨rfl,rfl⟩:=e
    exact ⟨Nat.le_refl _,fun hw=>⟨fun _=>rfl,fun h=>by omega⟩⟩
  · rename_i h0
    simp only [if_neg h0]
    exact h x w y w' e
theorem Bu.arr {over:ByteArray} (h:Bu b f g):Bu b (fun x w=>stepA over f w x) (fun x w=>stepA over g w x):=by
  intro x w y w' e
  dsimp only at e ⊢
  unfold stepA at e ⊢
  split at e
  · rename_i h0
    simp only [if_pos h0]
    exact h _ w y w' e
  · rename_i h0
    simp only [if_neg h0]
    simp only [Option.some.injEq,Prod.mk.injEq] at e
    obtain ⟨rfl,rfl⟩:=e
    exact ⟨Nat.le_refl _,fun hw=>⟨fun _=>rfl,fun h=>by omega⟩⟩
theorem Bu.ex (h:Bu b f g) (o:Ob):∀ m,Bu b (exQ E f o m) (exQ E g o m)
  | 0=>fun e w y w' h=>by cases h
  | m+1=>by
    have ih:=Bu.ex h o m
    rintro ⟨k,n,ov,ks⟩ w y w' e
    unfold exQ at e ⊢
    split at e
    · rename_i h0
      simp only [if_pos h0]
      exact h _ w y w' e
    · rename_i h0
      simp only [if_neg h0]
      split at e
      · rename_i h1
        simp only [if_pos h1]
        exact Bu.fold (Bu.arr h) _ w y w' e
      · rename_i h1
        simp only [if_neg h1]
        match ks,e with
        | [x1,x2],e=>
          dsimp only at e ⊢
          unfold comb at e ⊢
          cases hs:exQ E f o m x1 w with
          | none=>rw [hs] at e;cases e
          | some q=>
            obtain ⟨z,w1⟩:=q
            rw [hs] at e
            obtain ⟨k1,k2⟩:=ih x1 w z w1 hs
            dsimp only at e
            split at e
            · rename_i h2
              simp only [Option.some.injEq,Prod.mk.injEq] at e
              obtain ⟨rfl,rfl⟩:=e
              exact ⟨k1,fun hw=>⟨fun h=>by rw [(k2 hw).1 h];dsimp only;rw [if_pos h2],fun h=>by rw [(k2 hw).2 h]⟩⟩
            · rename_i h2
              cases hs2:exQ E f o m x2 w1 with
              | none=>rw [hs2] at e;cases e
              | some q2=>
                obtain ⟨z2,w2⟩:=q2
                rw [hs2] at e
                simp only [Option.some.injEq,Prod.mk.injEq] at e
                obtain ⟨e1,rfl⟩:=e
                obtain ⟨k3,k4⟩:=ih x2 w1 z2 w2 hs2
                refine ⟨by omega,fun hw=>?_⟩
                by_cases h4:(w1:Int)≤b
                · rw [(k2 hw).1 h4]
                  dsimp only
                  rw [if_neg h2]
                  exact ⟨fun h=>by rw [(k4 h4).1 h,← e1],fun h=>by rw [(k4 h4).2 h]⟩
                · rw [(k2 hw).2 (by omega)]
                  exact ⟨fun h=>by omega,fun _=>rfl⟩
        | [],e=>cases e
        | [_],e=>cases e
        | _ :: _ :: _ :: _,e=>cases e
theorem Bu.body (h:Bu b f g) (n:Nd) (r:Rl):Bu b (fun (_:Unit) w=>bodyQ E f n r w) (fun _ w=>bodyQ E g n r w):=by
  intro _ w y w' e
  dsimp only at e ⊢
  unfold bodyQ at e ⊢
  split at e
  · rename_i h0
    simp only [if_pos h0]
    exact Bu.ex h _ _ _ w y w' e
  · rename_i h0
    simp only [if_neg h0]
    exact Bu.fold (Bu.told h) _ w y w' e
end
def chk15 (E:Env15) (B:Int) (n:Nd):AV:=
  if B<0∨100000<B∨errA (chkF E.s)≠0 then .tup [.bool false,.int .i64 0,.int .i64 1]
  else if findF E.s n.o.ty n.rl=none then .tup [.bool false,.int .i64 0,.int .i64 6]
  else match askQ E B 50 [] n 0 with
    | none=>.tup [.bool false,.int .i64 0,.int .i64 12]
    | some (b,w)=>.tup [.bool b,.int .i64 w,.int .i64 0]
def envE (s:List Ty) (l:List Tu) (who:Ob):Env15:=⟨s,fun n=>(ofF (countsF s l) n).map Tu.s,who⟩
theorem sc_may {s:List Ty} (h:scB s=true):∀ t∈s,∀ r∈t.rels,r.refs.length=0→mayE 12 r.ex=true:=by
  intro t ht r hr h0
  have h1:=List.all_eq_true.1 h t ht
  simp only [typB,Bool.and_eq_true] at h1
  have h2:=List.all_eq_true.1 h1.2 r hr
  simp only [relB,Bool.and_eq_true,Bool.or_eq_true] at h2
  rcases h2.2.2 with h3 | h3
  · rw [List.length_eq_zero_iff.1 h0] at h3;cases h3
  · exact h3
theorem counts_ok {s:List Ty} {l:List Tu} (h:OkL l):OkL (countsF s l):=⟨Nat.le_trans (List.length_filter_le _ _) h.n,fun t ht=>h.ok t (List.mem_filter.1 ht).1⟩
end Go.HL
set_option linter.unusedVariables false
set_option linter.unusedSimpArgs false
set_option maxRecDepth 4000
namespace Go.HL
open Nat renaming reduceAdd→zA,reduceLeDiff→zB,reduceLT→zC,reduceSub→zD,reduceMul→zE,reduceEqDiff→zF,reduceBEq→zG
open Int renaming reduceAdd→zH,reduceToNat→zI
abbrev MD:Bool×List EK:=(true,[.str,.str,.str])
def ndA (n:Nd):AV:=.agg (ndC n)
theorem ke_nd:KE MD ndA:=⟨fun n=>by simp [ndA,ndC,keyOk,eksOk,ekOk],fun n m h=>by
  obtain ⟨⟨a,b⟩,c⟩:=n
  obtain ⟨⟨d,e⟩,f⟩:=m
  simp only [ndA,ndC,AV.agg.injEq,List.cons.injEq,AV.str.injEq,and_true] at h
  obtain ⟨rfl,rfl,rfl⟩:=h
  rfl⟩
theorem foldE_cons {α σ:Type} {step:σ→α→Option (Bool×σ)} {x:α} {r:List α} {a:σ}:foldE step (x :: r) a=match step a x with
    | none=>none
    | some (true,a')=>some (true,a')
    | some (false,a')=>foldE step r a':=rfl
theorem KMap.lki {κ:Type} {M:Bool×List EK} {enc:κ→AV} {S:Store} {b:Nat} {f:κ→Option AV} {ok:Bool} {z:AV} {K:AV→Prop} (h:KMap M enc S b f) (he:KE M enc) (k:κ) (hk:K (foundG ok z (f k))):lkW S M ok z (.map (some b)) (enc k) K:=Eq.mpr (h.lk he k) hk
def PostQ (pv:AV) (X:Store→Prop) (St:Nat→Store→Prop) (q:Option (Bool×Nat)) (ae:AEnd) (S':Store):Prop:=match q with
  | some (b,w')=>ae=.ret (.bool b)∧St w' S'
  | none=>ae=.pan pv∧X S'
section
variable {xs:List Nd} {g:Nat} {fi ca:List AV} {St:Nat→Store→Prop} {step:Nat→Nd→Option (Bool×Nat)} {pv:AV} {X:Store→Prop}
theorem c_IndexFunc_Subject (hb:xs.length≤1125899906842624) (hp:∀ x∈xs,∀ w S,St w S→ACalls PG g (fi++[.agg (ndC x)]++ca) S (PostQ pv X St (step w x))) {w:Nat} {S:Store} (h0:St w S) :
    ACalls PG nr_slices_IndexFunc_Subject [.sl 3 (xs.map ndC),.func (.func g) fi ca] S fun ae S'=>match foldE step xs w with
      | some (b,w')=>(∃ i:Int,ae=.ret (.int .i64 i)∧decide (0≤i)=b)∧St w' S'
      | none=>ae=.pan pv∧X S':=by
  refine w_slices_IndexFunc_Subject ?_
  unfold B_slices_IndexFunc_Subject
  (try simp only [rwp,zA,zB,zC,zD,zE,zF,zG,zH,zI])
  refine LoopP.introS (fun i:Nat=>[(0,.sl 3 (xs.map ndC)),(1,.func (.func g) fi ca),(7,.int .i64 xs.length),(8,.int .i64 i)]) (fun i S'=>i≤xs.length∧∃ w',St w' S'∧foldE step (xs.drop i) w'=foldE step xs w) (fun i=>xs.length-i) 0 ⟨by omega,w,h0,rfl⟩ rfl ?_
  rintro i S' ⟨hi,w1,h1,h2⟩ r hr
  unfold C_slices_IndexFunc_Subject_1
  (try simp only [rwp,zA,zB,zC,zD,zE,zF,zG,zH,zI])
  (refine cnW_intro (fun hlt=>?_) (fun hlt=>?_)<;>(try simp only [hlc] at hlt))
  · obtain ⟨x,hx⟩:=get_lt hlt
    have q:=hp x (List.mem_of_getElem? hx) w1 S' h1
    rw [drop_cons hx,foldE_cons] at h2
    (try simp only [rwp,zA,zB,zC,zD,zE,zF,zG,zH,zI,hx,ndC])
    refine caW_ofv q ?_
    intro ae S2 hq
    unfold PostQ at hq
    cases hs:step w1 x with
    | none=>
      rw [hs] at hq h2
      obtain ⟨rfl,hx⟩:=hq
      show pqW _ _ _
      unfold pqW
      rw [← h2]
      exact ⟨rfl,hx⟩
    | some p=>
      obtain ⟨b,w2⟩:=p
      rw [hs] at hq h2
      obtain ⟨rfl,h3⟩:=hq
      dsimp only at h2 ⊢
      cases b with
      | true=>
        dsimp only at h2
        (try simp only [rwp,zA,zB,zC,zD,zE,zF,zG,zH,zI])
        refine rtW_one ?_
        rw [← h2]
        exact ⟨⟨i,rfl,by simp⟩,h3⟩
      | false=>
        dsimp only at h2
        (try simp only [rwp,zA,zB,zC,zD,zE,zF,zG,zH,zI])
        (simp (disch:=omega) only [hwrap64])
        exact rcW_as rfl (hr (i+1) S2 ⟨by omega,w2,h3,h2⟩ (by omega))
  · have e:xs.drop i=[]:=drop_end hlt
    rw [e] at h2
    refine rtW_one ?_
    rw [← h2]
    exact ⟨⟨-1,rfl,rfl⟩,h1⟩
theorem c_ContainsFunc_Subject (hb:xs.length≤1125899906842624) (hp:∀ x∈xs,∀ w S,St w S→ACalls PG g (fi++[.agg (ndC x)]++ca) S (PostQ pv X St (step w x))) {w:Nat} {S:Store} (h0:St w S) :
    ACalls PG nr_slices_ContainsFunc_Subject [.sl 3 (xs.map ndC),.func (.func g) fi ca] S (PostQ pv X St (foldE step xs w)):=by
  refine w_slices_ContainsFunc_Subject ?_
  unfold B_slices_ContainsFunc_Subject
  refine caW_of (c_IndexFunc_Subject hb hp h0) ?_
  intro ae S' hq
  unfold PostQ
  cases hf:foldE step xs w with
  | none=>
    rw [hf] at hq
    obtain ⟨rfl,hx⟩:=hq
    exact ⟨rfl,hx⟩
  | some p=>
    obtain ⟨b,w2⟩:=p
    rw [hf] at hq
    obtain ⟨⟨i,rfl,h1⟩,h2⟩:=hq
    dsimp only
    (try simp only [rwp,zA,zB,zC,zD,zE,zF,zG,zH,zI])
    exact rtW_one ⟨by rw [h1],h2⟩
theorem c_ContainsFunc_nil {w:Nat} {S:Store} (h0:St w S) :
    ACalls PG nr_slices_ContainsFunc_Subject [.nils,.func (.func g) fi ca] S (PostQ pv X St (foldE step [] w)):=by
  refine w_slices_ContainsFunc_Subject ?_
  unfold B_slices_ContainsFunc_Subject
  have q:AFunS PG nr_slices_IndexFunc_Subject [.nils,.func (.func g) fi ca] S (.int .i64 (-1)):=by
    refine w_slices_IndexFunc_Subject ?_
    unfold B_slices_IndexFunc_Subject
    (try simp only [rwp,zA,zB,zC,zD,zE,zF,zG,zH,zI])
    refine LoopP.introS (fun _:Nat=>[(0,.nils),(1,.func (.func g) fi ca),(7,.int .i64 0),(8,.int .i64 0)]) (fun i S'=>S'=S) (fun i=>i) 0 rfl rfl ?_
    rintro i S' rfl r hr
    (try simp only [rwp,zA,zB,zC,zD,zE,zF,zG,zH,zI,rwb,reduceIte,C_slices_IndexFunc_Subject_1,Int.lt_irrefl])
    exact rtW_one ⟨rfl,rfl⟩
  refine caW_at q ?_
  (try simp only [rwp,zA,zB,zC,zD,zE,zF,zG,zH,zI])
  exact rtW_one ⟨rfl,h0⟩
def ofA (l:List Nd):Option AV:=if l=[] then none else some (.sl 3 (l.map ndC))
theorem c_ContainsFunc_of (hb:xs.length≤1125899906842624) (hp:∀ x∈xs,∀ w S,St w S→ACalls PG g (fi++[.agg (ndC x)]++ca) S (PostQ pv X St (step w x))) {w:Nat} {S:Store} (h0:St w S) :
    ACalls PG nr_slices_ContainsFunc_Subject [foundG false .nils (ofA xs),.func (.func g) fi ca] S (PostQ pv X St (foldE step xs w)):=by
  unfold ofA
  split
  · rename_i h;subst h;exact c_ContainsFunc_nil h0
  · exact c_ContainsFunc_Subject hb hp h0
end
abbrev tySe:Nat:=94
abbrev spV:AV:=.iface 100 (.agg [])
structure PathE (es:List (AV×AV×Nat)) (P:List Nd):Prop where
  key:∀ x∈es,∃ n,x.1=ndA n
  len:es.length=P.length
  get:∀ n,mget es (ndA n)=if n∈P then some (.bool true) else none
def seC (E:Env15) (B:Int) (bo bp w:Nat):List AV:=[.sl 2 (E.s.map tyC),.map (some bo),.str E.who.ty,.str E.who.id,.int .i64 B,.int .i64 w,.map (some bp)]
def stE (E:Env15) (B:Int) (bc bo bp:Nat) (S0:Store) (w:Nat) (es:List (AV×AV×Nat)) (clk:Nat):Store:=supd (supd S0 bc (.cells tySe (seC E B bo bp w) 7)) bp (.map MD es clk)
structure SeOk (E:Env15) (B:Int) (bc bo bp:Nat) (S0:Store):Prop where
  s:OkS E.s
  may:∀ t∈E.s,∀ r∈t.rels,r.refs.length=0→mayE 12 r.ex=true
  n1:bp≠bc
  nc:sget S0 bc=none
  np:sget S0 bp=none
  n2:bo≠bc
  n3:bo≠bp
  of:KMap MD ndA S0 bo (fun n=>ofA (E.of n))
  B:B≤100000
  len:∀ n,(E.of n).length≤100000
section
variable {E:Env15} {B:Int} {bc bo bp:Nat} {S0:Store}
def StE (E:Env15) (B:Int) (bc bo bp:Nat) (S0:Store) (es:List (AV×AV×Nat)) (w:Nat) (S:Store):Prop:=(w:Int)≤B∧∃ clk,S=stE E B bc bo bp S0 w es clk
def AskOk (E:Env15) (B:Int) (bc bo bp:Nat) (S0:Store) (ask:Nd→Nat→Option (Bool×Nat)) (es:List (AV×AV×Nat)):Prop:=∀ n w S,StE E B bc bo bp S0 es w S →
  ACalls PG nr_engine_search_ask [.ptr bc 0,.agg (obC n.o),.str n.rl] S (PostQ spV (Sub S0) (StE E B bc bo bp S0 es) (ask n w))
theorem stE_c (h:SeOk E B bc bo bp S0) {w:Nat} {es:List (AV×AV×Nat)} {clk:Nat}:objAt (stE E B bc bo bp S0 w es clk) bc=some (tySe,seC E B bo bp w,7):=by
  unfold stE
  rw [objAt_supd_map,if_neg h.n1,objAt_supd,if_pos rfl]
theorem stE_of (h:SeOk E B bc bo bp S0) {w:Nat} {es:List (AV×AV×Nat)} {clk:Nat}:KMap MD ndA (stE E B bc bo bp S0 w es clk) bo (fun n=>ofA (E.of n)):=(h.of.upd (Ne.symm h.n2) _).upd (Ne.symm h.n3) _
theorem c_stands_1 (h:SeOk E B bc bo bp S0) {ask:Nd→Nat→Option (Bool×Nat)} {es:List (AV×AV×Nat)} (hask:AskOk E B bc bo bp S0 ask es) (x:Nd) (w:Nat) (S:Store) (hS:StE E B bc bo bp S0 es w S) :
    ACalls PG nr_engine_search_stands_1 ([]++[.agg (ndC x)]++[.rop [.ptr bc 0]]) S (PostQ spV (Sub S0) (StE E B bc bo bp S0 es) (stepT E.who ask w x)):=by
  obtain ⟨hw,clk,rfl⟩:=hS
  have hc:=cellsAt_of (stE_c h (w:=w) (es:=es) (clk:=clk))
  refine w_engine_search_stands_1 ?_
  unfold B_engine_search_stands_1
  (try simp only [rwp,zA,zB,zC,zD,zE,zF,zG,zH,zI,rwb,reduceIte,ndC])
  unfold stepT
  (refine cnW_intro (fun h0=>?_) (fun h0=>?_)<;>(try simp only [hlc] at h0))
  · rw [if_pos h0]
    (try simp only [rwp,zA,zB,zC,zD,zE,zF,zG,zH,zI,rwb,reduceIte,hc,seC,eqW_def])
    have eo:decide (x.o=E.who)=(decide (x.o.ty=E.who.ty)&&decide (x.o.id=E.who.id)):=by
      rw [Bool.eq_iff_iff]
      cases x.o;cases E.who
      simp
    exact rtW_one ⟨by rw [eo],hw,clk,rfl⟩
  · rw [if_neg h0]
    refine caW_of (hask x w _ ⟨hw,clk,rfl⟩) ?_
    intro ae S' hq
    unfold PostQ at hq ⊢
    cases hs:ask x w with
    | none=>rw [hs] at hq;obtain ⟨rfl,hx⟩:=hq;exact ⟨rfl,hx⟩
    | some p=>
      obtain ⟨b,w2⟩:=p
      rw [hs] at hq
      obtain ⟨rfl,h1⟩:=hq
      exact rtW_one ⟨rfl,h1⟩
theorem c_expr_1 (h:SeOk E B bc bo bp S0) {ask:Nd→Nat→Option (Bool×Nat)} {es:List (AV×AV×Nat)} (hask:AskOk E B bc bo bp S0 ask es) (k n:AV) (ov:ByteArray) (ks:AV) (x:Nd) (w:Nat) (S:Store) (hS:StE E B bc bo bp S0 es w S) :
    ACalls PG nr_engine_search_expr_1 ([]++[.agg (ndC x)]++[.rop [.ptr bc 0],.rop [k,n,.str ov,ks]]) S (PostQ spV (Sub S0) (StE E B bc bo bp S0 es) (stepA ov ask w x)):=by
  refine w_engine_search_expr_1 ?_
  unfold B_engine_search_expr_1
  (try simp only [rwp,zA,zB,zC,zD,zE,zF,zG,zH,zI,rwb,reduceIte,ndC])
  unfold stepA
  cases h0:decide (x.rl=⟨#[]⟩)
  · have h1:=of_decide_eq_false h0
    rw [if_neg h1]
    (try simp only [rwp,zA,zB,zC,zD,zE,zF,zG,zH,zI,rwb,reduceIte])
    exact rtW_one ⟨rfl,hS⟩
  · have h1:=of_decide_eq_true h0
    rw [if_pos h1]
    (try simp only [rwp,zA,zB,zC,zD,zE,zF,zG,zH,zI,rwb,reduceIte,ndC])
    refine caW_of (hask ⟨x.o,ov⟩ w _ hS) ?_
    intro ae S' hq
    unfold PostQ at hq ⊢
    cases hs:ask ⟨x.o,ov⟩ w with
    | none=>rw [hs] at hq;obtain ⟨rfl,hx⟩:=hq;exact ⟨rfl,hx⟩
    | some p=>
      obtain ⟨b,w2⟩:=p
      rw [hs] at hq
      obtain ⟨rfl,h1⟩:=hq
      (try simp only [rwp,zA,zB,zC,zD,zE,zF,zG,zH,zI,rwb,reduceIte])
      exact rtW_one ⟨rfl,h1⟩
theorem c_exprE (h:SeOk E B bc bo bp S0) {ask:Nd→Nat→Option (Bool×Nat)} {es:List (AV×AV×Nat)} (hask:AskOk E B bc bo bp S0 ask es) (o:Ob):∀ (m:Nat) (e:Ex),mayE m e=true→∀ (w:Nat) (S:Store),StE E B bc bo bp S0 es w S →
    ACalls PG nr_engine_search_expr [.ptr bc 0,.agg (obC o),.agg (exC e)] S (PostQ spV (Sub S0) (StE E B bc bo bp S0 es) (exQ E ask o m e w))
  | 0,e,hm,w,S,hS=>by cases hm
  | m+1,.mk k n ov ks,hm,w,S,hS=>by
    have ih:=c_exprE h hask o m
    have hS0:=hS
    obtain ⟨hw,clk,rfl⟩:=hS
    have hc:=cellsAt_of (stE_c h (w:=w) (es:=es) (clk:=clk))
    have hof:=stE_of h (w:=w) (es:=es) (clk:=clk)
    unfold mayE at hm
    refine w_engine_search_expr ?_
    unfold B_engine_search_expr exQ
    (try simp only [rwp,zA,zB,zC,zD,zE,zF,zG,zH,zI,rwb,reduceIte,obC,exC_eq,Ex.kind,Ex.name,Ex.over,Ex.kids])
    (refine cnW_intro (fun k0=>?_) (fun k0=>?_)<;>(try simp only [hlc] at k0))
    · rw [if_pos k0]
      refine caW_of (hask ⟨o,n⟩ w _ hS0) ?_
      intro ae S' hq
      unfold PostQ at hq ⊢
      cases hs:ask ⟨o,n⟩ w with
      | none=>rw [hs] at hq;obtain ⟨rfl,hx⟩:=hq;exact ⟨rfl,hx⟩
      | some p=>
        obtain ⟨b,w2⟩:=p
        rw [hs] at hq
        obtain ⟨rfl,h1⟩:=hq
        exact rtW_one ⟨rfl,h1⟩
    · rw [if_neg k0] at hm ⊢
      (refine cnW_intro (fun k1=>?_) (fun k1=>?_)<;>(try simp only [hlc] at k1))
      · rw [if_pos k1]
        (try simp only [rwp,zA,zB,zC,zD,zE,zF,zG,zH,zI,rwb,reduceIte,hc,seC])
        refine KMap.lki hof ke_nd ⟨o,n⟩ ?_
        refine caW_of (c_ContainsFunc_of (step:=stepA ov ask) (Nat.le_trans (h.len _) (by decide)) (fun x _ w S hS=>c_expr_1 h hask _ _ ov _ x w S hS) hS0) ?_
        intro ae S' hq
        unfold PostQ at hq ⊢
        cases hs:foldE (stepA ov ask) (E.of ⟨o,n⟩) w with
        | none=>rw [hs] at hq;obtain ⟨rfl,hx⟩:=hq;exact ⟨rfl,hx⟩
        | some p=>
          obtain ⟨b,w2⟩:=p
          rw [hs] at hq
          obtain ⟨rfl,h1⟩:=hq
          exact rtW_one ⟨rfl,h1⟩
      · rw [if_neg k1] at hm ⊢
        have hk:k=2∨k=3∨k=4:=by
          refine Classical.byContradiction fun hn=>?_
          rw [if_neg hn] at hm
          cases hm
        rw [if_pos hk] at hm
        obtain ⟨a,b,rfl⟩:∃ a b,ks=[a,b]:=by
          match ks,hm with
          | [a,b],_=>exact ⟨a,b,rfl⟩
          | [],hm=>cases hm
          | [_],hm=>cases hm
          | _ :: _ :: _ :: _,hm=>cases hm
        simp only [two,Bool.and_eq_true] at hm
        obtain ⟨ma,mb⟩:=hm
        have first:=ih a ma w _ hS0
        have second:=fun w2 S2 hS2=>ih b mb w2 S2 hS2
        simp only [obC] at first second
        have fin:∀ (K:AV→Store→Prop),(∀ x w1 S1,exQ E ask o m a w=some (x,w1)→StE E B bc bo bp S0 es w1 S1→K (.bool x) S1)→∀ ae S',PostQ spV (Sub S0) (StE E B bc bo bp S0 es) (exQ E ask o m a w) ae S'→(match (generalizing:=false) ae with
            | .ret v=>K v S'
            | .pan v=>pqW (PostQ spV (Sub S0) (StE E B bc bo bp S0 es) (comb k (exQ E ask o m a w) (exQ E ask o m b))) v S'):=by
          intro K hK ae S' hq
          unfold PostQ at hq
          cases hs:exQ E ask o m a w with
          | none=>rw [hs] at hq;obtain ⟨rfl,hx⟩:=hq;exact ⟨rfl,hx⟩
          | some p=>
            obtain ⟨x,w2⟩:=p
            rw [hs] at hq
            obtain ⟨rfl,h1⟩:=hq
            exact hK x w2 S' hs h1
        have fin2:∀ (x:Bool) (w1:Nat) (K:AV→Store→Prop),exQ E ask o m a w=some (x,w1)→¬ x=decide (k=2)→(∀ y w2 S2,exQ E ask o m b w1=some (y,w2)→StE E B bc bo bp S0 es w2 S2→K (.bool y) S2)→∀ ae S',PostQ spV (Sub S0) (StE E B bc bo bp S0 es) (exQ E ask o m b w1) ae S'→(match (generalizing:=false) ae with
            | .ret v=>K v S'
            | .pan v=>pqW (PostQ spV (Sub S0) (StE E B bc bo bp S0 es) (comb k (exQ E ask o m a w) (exQ E ask o m b))) v S'):=by
          intro x w1 K hx hne hK ae S' hq
          rw [hx]
          unfold comb
          dsimp only
          rw [if_neg hne]
          unfold PostQ at hq
          cases hs:exQ E ask o m b w1 with
          | none=>rw [hs] at hq;obtain ⟨rfl,hx⟩:=hq;exact ⟨rfl,hx⟩
          | some p=>
            obtain ⟨y,w2⟩:=p
            rw [hs] at hq
            obtain ⟨rfl,h1⟩:=hq
            exact hK y w2 S' hs h1
        rcases hk with rfl | rfl | rfl
        · (try simp only [rwp,zA,zB,zC,zD,zE,zF,zG,zH,zI,rwb,reduceIte,hwR,reduceCtorEq,Int.reduceEq])
          refine caW_of first (fin _ fun x w1 S1 hx hS1=>?_)
          cases x
          · (try simp only [rwp,zA,zB,zC,zD,zE,zF,zG,zH,zI,rwb,reduceIte,hwR,reduceCtorEq,Int.reduceEq])
            refine caW_of (second w1 S1 hS1) (fin2 _ _ _ hx (by decide) fun y w2 S2 hy hS2=>?_)
            (try simp only [rwp,zA,zB,zC,zD,zE,zF,zG,zH,zI,rwb,reduceIte,hwR,reduceCtorEq,Int.reduceEq])
            refine rtW_one ?_
            rw [hx]
            unfold comb
            dsimp only
            rw [if_neg (by decide),hy]
            exact ⟨rfl,hS2⟩
          · (try simp only [rwp,zA,zB,zC,zD,zE,zF,zG,zH,zI,rwb,reduceIte,hwR,reduceCtorEq,Int.reduceEq])
            refine rtW_one ?_
            rw [hx]
            exact ⟨rfl,hS1⟩
        · (try simp only [rwp,zA,zB,zC,zD,zE,zF,zG,zH,zI,rwb,reduceIte,hwR,reduceCtorEq,Int.reduceEq])
          refine caW_of first (fin _ fun x w1 S1 hx hS1=>?_)
          cases x
          · (try simp only [rwp,zA,zB,zC,zD,zE,zF,zG,zH,zI,rwb,reduceIte,hwR,reduceCtorEq,Int.reduceEq])
            refine rtW_one ?_
            rw [hx]
            exact ⟨rfl,hS1⟩
          · (try simp only [rwp,zA,zB,zC,zD,zE,zF,zG,zH,zI,rwb,reduceIte,hwR,reduceCtorEq,Int.reduceEq])
            refine caW_of (second w1 S1 hS1) (fin2 _ _ _ hx (by decide) fun y w2 S2 hy hS2=>?_)
            (try simp only [rwp,zA,zB,zC,zD,zE,zF,zG,zH,zI,rwb,reduceIte,hwR,reduceCtorEq,Int.reduceEq])
            refine rtW_one ?_
            rw [hx]
            unfold comb
            dsimp only
            rw [if_neg (by decide),hy]
            exact ⟨rfl,hS2⟩
        · (try simp only [rwp,zA,zB,zC,zD,zE,zF,zG,zH,zI,rwb,reduceIte,hwR,reduceCtorEq,Int.reduceEq])
          refine caW_of first (fin _ fun x w1 S1 hx hS1=>?_)
          cases x
          · (try simp only [rwp,zA,zB,zC,zD,zE,zF,zG,zH,zI,rwb,reduceIte,hwR,reduceCtorEq,Int.reduceEq])
            refine rtW_one ?_
            rw [hx]
            exact ⟨rfl,hS1⟩
          · (try simp only [rwp,zA,zB,zC,zD,zE,zF,zG,zH,zI,rwb,reduceIte,hwR,reduceCtorEq,Int.reduceEq])
            refine caW_of (second w1 S1 hS1) (fin2 _ _ _ hx (by decide) fun y w2 S2 hy hS2=>?_)
            (try simp only [rwp,zA,zB,zC,zD,zE,zF,zG,zH,zI,rwb,reduceIte,hwR,reduceCtorEq,Int.reduceEq])
            refine rtW_one ?_
            rw [hx]
            unfold comb
            dsimp only
            rw [if_neg (by decide),hy]
            exact ⟨rfl,hS2⟩
theorem c_stands (h:SeOk E B bc bo bp S0) {ask:Nd→Nat→Option (Bool×Nat)} {es:List (AV×AV×Nat)} (hask:AskOk E B bc bo bp S0 ask es) (n:Nd) (r:Rl) (hr:r.refs.length=0→mayE 12 r.ex=true) (w:Nat) (S:Store) (hS:StE E B bc bo bp S0 es w S) :
    ACalls PG nr_engine_search_stands [.ptr bc 0,.agg (ndC n),.agg (rlC r)] S (PostQ spV (Sub S0) (StE E B bc bo bp S0 es) (bodyQ E ask n r w)):=by
  have hS0:=hS
  obtain ⟨hw,clk,rfl⟩:=hS
  have hc:=cellsAt_of (stE_c h (w:=w) (es:=es) (clk:=clk))
  have hof:=stE_of h (w:=w) (es:=es) (clk:=clk)
  refine w_engine_search_stands ?_
  unfold B_engine_search_stands bodyQ
  (try simp only [rwp,zA,zB,zC,zD,zE,zF,zG,zH,zI,rwb,reduceIte,ndC,rlC_eq])
  (refine cnW_intro (fun h0=>?_) (fun h0=>?_)<;>(try simp only [hlc] at h0))
  · have h1:r.refs.length=0:=by omega
    rw [if_pos h1]
    have q:=c_exprE h hask n.o 12 r.ex (hr h1) w _ hS0
    simp only [obC,exC_eq] at q
    refine caW_of q ?_
    intro ae S' hq
    unfold PostQ at hq ⊢
    cases hs:exQ E ask n.o 12 r.ex w with
    | none=>rw [hs] at hq;obtain ⟨rfl,hx⟩:=hq;exact ⟨rfl,hx⟩
    | some p=>
      obtain ⟨b,w2⟩:=p
      rw [hs] at hq
      obtain ⟨rfl,h1⟩:=hq
      exact rtW_one ⟨rfl,h1⟩
  · have h1:¬ r.refs.length=0:=by omega
    rw [if_neg h1]
    (try simp only [rwp,zA,zB,zC,zD,zE,zF,zG,zH,zI,rwb,reduceIte,hc,seC])
    refine KMap.lki hof ke_nd n ?_
    refine caW_of (c_ContainsFunc_of (step:=stepT E.who ask) (Nat.le_trans (h.len _) (by decide)) (fun x _ w S hS=>c_stands_1 h hask x w S hS) hS0) ?_
    intro ae S' hq
    unfold PostQ at hq ⊢
    cases hs:foldE (stepT E.who ask) (E.of n) w with
    | none=>rw [hs] at hq;obtain ⟨rfl,hx⟩:=hq;exact ⟨rfl,hx⟩
    | some p=>
      obtain ⟨b,w2⟩:=p
      rw [hs] at hq
      obtain ⟨rfl,h1⟩:=hq
      exact rtW_one ⟨rfl,h1⟩
theorem stE_w (h:SeOk E B bc bo bp S0) {w w':Nat} {es:List (AV×AV×Nat)} {clk:Nat}:supd (stE E B bc bo bp S0 w es clk) bc (.cells tySe (seC E B bo bp w') 7)=stE E B bc bo bp S0 w' es clk:=by
  unfold stE
  funext k
  simp only [supd]
  have:=h.n1
  split<;>split<;>(try split)<;>first | rfl | (exfalso;omega)
theorem stE_sub (h:SeOk E B bc bo bp S0) {w:Nat} {es:List (AV×AV×Nat)} {clk:Nat}:Sub S0 (stE E B bc bo bp S0 w es clk):=Sub.supd h.np (Sub.fresh _ h.nc)
theorem stE_m {w:Nat} {es es':List (AV×AV×Nat)} {clk clk':Nat}:supd (stE E B bc bo bp S0 w es clk) bp (.map MD es' clk')=stE E B bc bo bp S0 w es' clk':=by
  unfold stE
  funext k
  simp only [supd]
  split<;>rfl
theorem stE_map {w:Nat} {es:List (AV×AV×Nat)} {clk:Nat}:mapObj (stE E B bc bo bp S0 w es clk) bp=some (MD,es,clk):=mapObj_some.2 (by unfold stE;rw [sget_supd,if_pos rfl])
end
theorem mfind_none {es:List (AV×AV×Nat)} {k:AV} (h:mget es k=none):mfind es k=none:=by
  unfold mget at h
  exact Option.map_eq_none_iff.1 h
theorem mfind_snoc {k v:AV} {c:Nat} (hk:keyEq k k=true):∀ {es:List (AV×AV×Nat)},mfind es k=none→mfind (es++[(k,v,c)]) k=some (es.length,v,c)
  | [],_=>by simp [mfind,hk]
  | x :: r,h=>by
    simp only [mfind] at h
    split at h
    · cases h
    · rename_i hx
      have h2:mfind r k=none:=by simpa using h
      simp only [List.cons_append,mfind,if_neg hx,mfind_snoc hk h2]
      rfl
theorem mget_snoc {k v k':AV} {c:Nat}:∀ {es:List (AV×AV×Nat)},mget (es++[(k,v,c)]) k'=match mget es k' with
    | some u=>some u
    | none=>if keyEq k' k then some v else none
  | []=>by simp [mget,mfind]
  | x :: r=>by
    rw [List.cons_append,mget_cons,mget_cons]
    split
    · rfl
    · exact mget_snoc
theorem ndA_eq (n m:Nd):keyEq (ndA n) (ndA m)=decide (n=m):=by
  have hk:=ke_nd
  by_cases h:n=m
  · subst h
    rw [decide_eq_true rfl]
    exact keyEq_refl (hk.ok n)
  · rw [decide_eq_false h]
    cases hq:keyEq (ndA n) (ndA m) with
    | false=>rfl
    | true=>exact absurd (hk.inj _ _ ((keyEq_iff (hk.ok n) (hk.ok m)).1 hq)) h
theorem PathE.push {es:List (AV×AV×Nat)} {P:List Nd} (h:PathE es P) {n:Nd} (hn:n ∉ P) (clk:Nat):PathE (es++[(ndA n,.bool true,clk)]) (n :: P) where
  key:=fun x hx=>by
    rcases List.mem_append.1 hx with h1 | h1
    · exact h.key x h1
    · rw [List.mem_singleton.1 h1];exact ⟨n,rfl⟩
  len:=by rw [List.length_append,h.len];rfl
  get:=fun m=>by
    rw [mget_snoc,h.get]
    by_cases h1:m∈P
    · rw [if_pos h1,if_pos (List.mem_cons_of_mem _ h1)]
    · rw [if_neg h1]
      dsimp only
      rw [ndA_eq]
      by_cases h2:m=n
      · subst h2;simp
      · rw [decide_eq_false h2,if_neg (by simp),if_neg (by simp [h1,h2])]
theorem PathE.map {E:Env15} {B:Int} {bc bo bp:Nat} {S0:Store} {es:List (AV×AV×Nat)} {P:List Nd} (h:PathE es P) {w clk:Nat}:KMap MD ndA (stE E B bc bo bp S0 w es clk) bp (fun n=>if n∈P then some (.bool true) else none):=
  ⟨es,clk,stE_map,fun x hx=>by obtain ⟨n,e⟩:=h.key x hx;rw [e];exact ke_nd.ok n,h.get⟩
theorem paW_iface {S:Store} {t:Nat} {v:AV} {Qp:AV→Store→Prop} (h:Qp (.iface t v) S):paW S (.iface t v) Qp:=⟨t,v,rfl,h⟩
section
variable {E:Env15} {B:Int} {bc bo bp:Nat} {S0:Store}
theorem c_ask (h:SeOk E B bc bo bp S0):∀ (fu:Nat) (P:List Nd) (es:List (AV×AV×Nat)),PathE es P→P.length+fu=50→AskOk E B bc bo bp S0 (askQ E B fu P) es:=by
  intro fu
  induction fu with
  | zero=>
    intro P es hP hl n w S hS
    obtain ⟨hw,clk,rfl⟩:=hS
    have hc:=cellsAt_of (stE_c h (w:=w) (es:=es) (clk:=clk))
    have ho:=stE_c h (w:=w) (es:=es) (clk:=clk)
    have hm:=fun w=>stE_map (E:=E) (B:=B) (bc:=bc) (bo:=bo) (bp:=bp) (S0:=S0) (w:=w) (es:=es) (clk:=clk)
    have hB:=h.B
    have hen:=hP.len
    refine w_engine_search_ask ?_
    unfold B_engine_search_ask askQ
    (try simp only [rwp,zA,zB,zC,zD,zE,zF,zG,zH,zI,rwb,reduceIte,obC,hc,seC])
    have q:=c_rules_Find h.s n.o.ty n.rl (stE E B bc bo bp S0 w es clk)
    simp only [scA] at q
    refine caW_of q ?_
    rintro ae S' ⟨rfl,rfl⟩
    cases hq:findF E.s n.o.ty n.rl with
    | none=>
      dsimp only
      (try simp only [rwp,zA,zB,zC,zD,zE,zF,zG,zH,zI,rwb,reduceIte,zeroR])
      refine alst rfl ?_
      (try simp only [rwp,zA,zB,zC,zD,zE,zF,zG,zH,zI,rwb,reduceIte])
      exact rtW_one ⟨rfl,hw,clk,rfl⟩
    | some p=>
      obtain ⟨i,k,r⟩:=p
      dsimp only
      (try simp only [rwp,zA,zB,zC,zD,zE,zF,zG,zH,zI,rwb,reduceIte,rlC_eq])
      refine alst rfl ?_
      (try simp only [rwp,zA,zB,zC,zD,zE,zF,zG,zH,zI,rwb,reduceIte,hc,seC,ho])
      (simp (disch:=omega) only [hwrap64])
      have e1:supd (stE E B bc bo bp S0 w es clk) bc (.cells tySe [.sl 2 (E.s.map tyC),.map (some bo),.str E.who.ty,.str E.who.id,.int .i64 B,.int .i64 ((w:Int)+1),.map (some bp)] 7)=stE E B bc bo bp S0 (w+1) es clk:=stE_w h
      rw [e1]
      cases a1:decide (B<(w:Int)+1)
      · (try simp only [rwp,zA,zB,zC,zD,zE,zF,zG,zH,zI,rwb,reduceIte,lnW_map,hm,mlW_some])
        rw [decide_eq_true (show ((es.length:Int)=50) by omega)]
        (try simp only [rwp,zA,zB,zC,zD,zE,zF,zG,zH,zI,rwb,reduceIte])
        exact paW_iface ⟨rfl,stE_sub h⟩
      · (try simp only [rwp,zA,zB,zC,zD,zE,zF,zG,zH,zI,rwb,reduceIte])
        exact paW_iface ⟨rfl,stE_sub h⟩
  | succ fu ih=>
    intro P es hP hl n w S hS
    obtain ⟨hw,clk,rfl⟩:=hS
    have hc:=cellsAt_of (stE_c h (w:=w) (es:=es) (clk:=clk))
    have ho:=stE_c h (w:=w) (es:=es) (clk:=clk)
    have hm:=fun w=>stE_map (E:=E) (B:=B) (bc:=bc) (bo:=bo) (bp:=bp) (S0:=S0) (w:=w) (es:=es) (clk:=clk)
    have hB:=h.B
    have hen:=hP.len
    refine w_engine_search_ask ?_
    unfold B_engine_search_ask askQ
    (try simp only [rwp,zA,zB,zC,zD,zE,zF,zG,zH,zI,rwb,reduceIte,obC,hc,seC])
    have q:=c_rules_Find h.s n.o.ty n.rl (stE E B bc bo bp S0 w es clk)
    simp only [scA] at q
    refine caW_of q ?_
    rintro ae S' ⟨rfl,rfl⟩
    cases hq:findF E.s n.o.ty n.rl with
    | none=>
      dsimp only
      (try simp only [rwp,zA,zB,zC,zD,zE,zF,zG,zH,zI,rwb,reduceIte,zeroR])
      refine alst rfl ?_
      (try simp only [rwp,zA,zB,zC,zD,zE,zF,zG,zH,zI,rwb,reduceIte])
      exact rtW_one ⟨rfl,hw,clk,rfl⟩
    | some p=>
      obtain ⟨i,k,r⟩:=p
      obtain ⟨-,ty,hty,-,hk⟩:=findF_at hq
      have hr:r.refs.length=0→mayE 12 r.ex=true:=h.may ty (List.mem_of_getElem? hty) r (List.mem_of_getElem? hk)
      dsimp only
      (try simp only [rwp,zA,zB,zC,zD,zE,zF,zG,zH,zI,rwb,reduceIte,rlC_eq])
      refine alst rfl ?_
      (try simp only [rwp,zA,zB,zC,zD,zE,zF,zG,zH,zI,rwb,reduceIte,hc,seC,ho])
      (simp (disch:=omega) only [hwrap64])
      have e1:supd (stE E B bc bo bp S0 w es clk) bc (.cells tySe [.sl 2 (E.s.map tyC),.map (some bo),.str E.who.ty,.str E.who.id,.int .i64 B,.int .i64 ((w:Int)+1),.map (some bp)] 7)=stE E B bc bo bp S0 (w+1) es clk:=stE_w h
      rw [e1]
      cases a1:decide (B<(w:Int)+1)
      · have b1:=of_decide_eq_false a1
        rw [if_neg b1]
        (try simp only [rwp,zA,zB,zC,zD,zE,zF,zG,zH,zI,rwb,reduceIte,lnW_map,hm,mlW_some])
        rw [decide_eq_false (show ¬ ((es.length:Int)=50) by omega)]
        (try simp only [rwp,zA,zB,zC,zD,zE,zF,zG,zH,zI,rwb,reduceIte,C_engine_search_ask_1])
        have hc1:=cellsAt_of (stE_c h (w:=w+1) (es:=es) (clk:=clk))
        (try simp only [rwp,zA,zB,zC,zD,zE,zF,zG,zH,zI,rwb,reduceIte,hc1,seC])
        refine KMap.lki hP.map ke_nd n ?_
        by_cases hn:n∈P
        · simp only [if_pos hn]
          (try simp only [rwp,zA,zB,zC,zD,zE,zF,zG,zH,zI,rwb,reduceIte])
          exact rtW_one ⟨rfl,by omega,clk,rfl⟩
        · simp only [if_neg hn]
          (try simp only [rwp,zA,zB,zC,zD,zE,zF,zG,zH,zI,rwb,reduceIte,hc1,seC,muW_map,hm])
          have hg0:mget es (ndA n)=none:=by rw [hP.get,if_neg hn]
          have hset:mset es (ndA n) (.bool true) clk=(es++[(ndA n,.bool true,clk)],clk+1):=by
            unfold mset
            rw [mfind_none hg0]
          have e2:mset es (.agg [.str n.o.ty,.str n.o.id,.str n.rl]) (.bool true) clk=(es++[(ndA n,.bool true,clk)],clk+1):=hset
          rw [e2,stE_m]
          have hP2:=hP.push hn clk
          have q2:=c_stands h (ih (n :: P) _ hP2 (by simp only [List.length_cons];omega)) n r hr (w+1) _ ⟨by omega,clk+1,rfl⟩
          simp only [ndC,rlC_eq] at q2
          refine caW_of q2 ?_
          intro ae S2 hq2
          unfold PostQ at hq2
          cases hs:bodyQ E (askQ E B fu (n :: P)) n r (w+1) with
          | none=>rw [hs] at hq2;obtain ⟨rfl,hx⟩:=hq2;exact ⟨rfl,hx⟩
          | some p2=>
            obtain ⟨b,w2⟩:=p2
            rw [hs] at hq2
            obtain ⟨rfl,hw2,clk2,rfl⟩:=hq2
            have hc2:=cellsAt_of (stE_c h (w:=w2) (es:=es++[(ndA n,.bool true,clk)]) (clk:=clk2))
            dsimp only
            (try simp only [rwp,zA,zB,zC,zD,zE,zF,zG,zH,zI,rwb,reduceIte,hc2,seC])
            have hf:=mfind_snoc (k:=ndA n) (v:=.bool true) (c:=clk) (keyEq_refl (ke_nd.ok n)) (mfind_none hg0)
            refine ⟨bp,es++[(ndA n,.bool true,clk)],clk2,rfl,mapObj_some.1 stE_map,ke_nd.ok n,?_⟩
            have hf':mfind (es++[(ndA n,.bool true,clk)]) (.agg [.str n.o.ty,.str n.o.id,.str n.rl])=some (es.length,.bool true,clk):=hf
            rw [hf']
            dsimp only
            rw [List.eraseIdx_append_of_length_le (Nat.le_refl _),Nat.sub_self]
            simp only [List.eraseIdx_cons_zero,List.append_nil]
            rw [stE_m]
            exact rtW_one ⟨rfl,hw2,clk2,rfl⟩
      · have b1:=of_decide_eq_true a1
        rw [if_pos b1]
        (try simp only [rwp,zA,zB,zC,zD,zE,zF,zG,zH,zI,rwb,reduceIte])
        exact paW_iface ⟨rfl,stE_sub h⟩
end
end Go.HL
set_option linter.unusedVariables false
set_option linter.unusedSimpArgs false
namespace Go.HL
open Nat renaming reduceAdd→zA,reduceLeDiff→zB,reduceLT→zC,reduceSub→zD,reduceMul→zE,reduceEqDiff→zF,reduceBEq→zG
open Int renaming reduceAdd→zH,reduceToNat→zI
structure OfM (S0 S:Store) (t bo:Nat) (Ks:Nat→Prop) (f:Nd→List (List AV)) (es:List (AV×AV×Nat)) (clk:Nat):Prop where
  map:sget S bo=some (.map MD es clk)
  b0:sget S0 bo=none
  key:∀ x∈es,∃ n,x.1=ndA n
  nd:(es.map fun x=>x.2.2).Nodup
  ku:∀ (i j:Nat) (x y:AV×AV×Nat),es[i]?=some x→es[j]?=some y→x.1=y.1→i=j
  lt:∀ x∈es,x.2.2<clk
  no:∀ n,mget es (ndA n)=none→f n=[]
  yes:∀ n v,mget es (ndA n)=some v→f n≠[]∧LstN S0 S t 3 v (f n)∧Aside v bo∧∀ c,Ks c→Aside v c
  apart:∀ n m v u,n≠m→mget es (ndA n)=some v→mget es (ndA m)=some u→∀ b off k cap,u=.own b off k cap→Aside v b
  ks:∀ c,Ks c→c≠bo∧sget S c≠none
theorem findIdx_bn {bn:Nat}:∀ {es:List (AV×AV×Nat)} {i:Nat} {x:AV×AV×Nat},(es.map fun x=>x.2.2).Nodup→es[i]?=some x→x.2.2=bn→es.findIdx? (fun x=>x.2.2==bn)=some i:=by
  intro es i x hnd hx hb
  have hi:=(List.getElem?_eq_some_iff.1 hx).1
  rw [List.findIdx?_eq_some_iff_getElem]
  refine ⟨hi,?_,fun j hj=>?_⟩
  · have:=(List.getElem?_eq_some_iff.1 hx).2
    simp [this,hb]
  · intro hq
    have hj2:j<es.length:=by omega
    have h1:es[j].2.2=bn:=by simpa using hq
    have h2:es[i].2.2=bn:=by rw [(List.getElem?_eq_some_iff.1 hx).2];exact hb
    have:=(List.getElem_inj (xs:=es.map fun (x:AV×AV×Nat)=>x.2.2) (i:=j) (j:=i) (h₀:=by simpa using hj2) (h₁:=by simpa using hi) hnd).1 (by simp [h1,h2])
    omega
theorem mget_no {es:List (AV×AV×Nat)} {n:Nd} (hk:∀ x∈es,∃ n,x.1=ndA n) (h:mget es (ndA n)=none):∀ x∈es,x.1≠ndA n:=by
  induction es with
  | nil=>intro x hx;cases hx
  | cons y r ih=>
    rw [mget_cons] at h
    obtain ⟨m,hm⟩:=hk y (by simp)
    intro x hx
    split at h
    · cases h
    · rename_i hq
      rcases List.mem_cons.1 hx with rfl | hx
      · intro e
        rw [e,ndA_eq] at hq
        simp at hq
      · exact ih (fun z hz=>hk z (List.mem_cons_of_mem _ hz)) h x hx
theorem mfind_key {es:List (AV×AV×Nat)} {n:Nd} {i:Nat} {v:AV} {bn:Nat} (hk:∀ x∈es,∃ n,x.1=ndA n) (h:mfind es (ndA n)=some (i,v,bn)):es[i]?=some (ndA n,v,bn):=by
  obtain ⟨kk,h1,h2⟩:=mfind_get h
  obtain ⟨m,hm⟩:=hk _ (List.mem_of_getElem? h1)
  dsimp only at hm
  subst hm
  rw [ndA_eq] at h2
  rw [h1,of_decide_eq_true h2]
theorem mget_mset {es:List (AV×AV×Nat)} {n m:Nd} {v:AV} {clk:Nat} (hk:∀ x∈es,∃ n,x.1=ndA n):mget (mset es (ndA n) v clk).1 (ndA m)=if m=n then some v else mget es (ndA m):=by
  have hko:keysOk MD es:=fun x hx=>by obtain ⟨n,e⟩:=hk x hx;rw [e];exact ke_nd.ok n
  rw [mset_mput,mget_mput (ke_nd.ok n) _ _ hko (ke_nd.ok m)]
  by_cases h:m=n
  · subst h;simp
  · rw [if_neg fun e=>h (ke_nd.inj _ _ e),if_neg h]
section
variable {S0 S:Store} {t bo:Nat} {Ks:Nat→Prop} {f:Nd→List (List AV)} {es:List (AV×AV×Nat)} {clk:Nat}
theorem OfM.put (h:OfM S0 S t bo Ks f es clk) {n:Nd} {v v':AV} {row:List AV} {S2:Store} {es':List (AV×AV×Nat)} {clk':Nat} (hv:mget es (ndA n)=some v∨(mget es (ndA n)=none∧v=.nils))
    (h2:LstN S0 S2 t 3 v' (f n++[row])) (hF:∀ c o,c≠bo→sget S c=some o→Aside v c→sget S2 c=some o∧Aside v' c) (hvb:Aside v' bo)
    (he:es'=(mset es (ndA n) v' clk).1) (hkey:∀ x∈es',∃ n,x.1=ndA n) (hnd:(es'.map fun x=>x.2.2).Nodup) (hku:∀ (i j:Nat) (x y:AV×AV×Nat),es'[i]?=some x→es'[j]?=some y→x.1=y.1→i=j) (hlt:∀ x∈es',x.2.2<clk') :
    OfM S0 (supd S2 bo (.map MD es' clk')) t bo Ks (fun m=>if m=n then f n++[row] else f m) es' clk':=by
  have hg:∀ m,mget es' (ndA m)=if m=n then some v' else mget es (ndA m):=fun m=>by rw [he,mget_mset h.key]
  have hva:∀ c,Ks c→Aside v c:=fun c hc=>by
    rcases hv with hv | ⟨-,rfl⟩
    · exact (h.yes n v hv).2.2.2 c hc
    · intro b off k cap e;cases e
  refine ⟨by rw [sget_supd,if_pos rfl],h.b0,hkey,hnd,hku,hlt,fun m hm=>?_,fun m u hm=>?_,fun m p u x hmp hm hp=>?_,fun c hc=>⟨(h.ks c hc).1,?_⟩⟩
  · rw [hg] at hm
    by_cases hmn:m=n
    · rw [if_pos hmn] at hm;cases hm
    · rw [if_neg hmn] at hm ⊢
      exact h.no m hm
  · rw [hg] at hm
    by_cases hmn:m=n
    · rw [if_pos hmn] at hm ⊢
      cases hm
      refine ⟨by simp,h2.upd hvb _,hvb,fun c hc=>?_⟩
      cases ho:sget S c with
      | none=>exact absurd ho (h.ks c hc).2
      | some o=>exact (hF c o (h.ks c hc).1 ho (hva c hc)).2
    · rw [if_neg hmn] at hm ⊢
      obtain ⟨k1,k2,k3,k4⟩:=h.yes m u hm
      refine ⟨k1,LstN.upd ?_ k3 _,k3,k4⟩
      obtain ⟨hr,hl⟩:=k2
      refine ⟨hr,?_⟩
      rcases hl with hl | ⟨b,cap,rfl,q1,q2,q3⟩
      · exact .inl hl
      · refine .inr ⟨b,cap,rfl,q1,?_,q3⟩
        have hav:Aside v b:=by
          rcases hv with hv | ⟨-,rfl⟩
          · exact h.apart n m v _ (Ne.symm hmn) hv hm b _ _ _ rfl
          · intro b off k cap e;cases e
        exact (hF b _ (Ne.symm (k3 b _ _ _ rfl)) q2 hav).1
  · rw [hg] at hm hp
    intro b off k cap hx
    have other:∀ (m:Nd) (u:AV),m≠n→mget es (ndA m)=some u→∀ b off k cap,u=.own b off k cap→Aside v' b:=by
      intro m u hmn hm b off k cap e
      subst e
      obtain ⟨k1,k2,k3,k4⟩:=h.yes m _ hm
      have hav:Aside v b:=by
        rcases hv with hv | ⟨-,rfl⟩
        · exact h.apart n m v _ (Ne.symm hmn) hv hm b _ _ _ rfl
        · intro b off k cap e;cases e
      obtain ⟨hr,hl⟩:=k2
      rcases hl with ⟨e,-⟩ | ⟨b1,cap1,e,q1,q2,q3⟩
      · cases e
      · cases e
        exact (hF b _ (Ne.symm (k3 b _ _ _ rfl)) q2 hav).2
    by_cases hmn:m=n
    · rw [if_pos hmn] at hm
      cases hm
      have hpn:p≠n:=fun e=>hmp (hmn.trans e.symm)
      rw [if_neg hpn] at hp
      exact other p x hpn hp b off k cap hx
    · rw [if_neg hmn] at hm
      by_cases hpn:p=n
      · rw [if_pos hpn] at hp
        cases hp
        subst hx
        intro b1 off1 k1 cap1 e
        exact Ne.symm (other m u hmn hm b1 off1 k1 cap1 e b off k cap rfl)
      · rw [if_neg hpn] at hp
        exact h.apart m p u x hmp hm hp b off k cap hx
  · rw [sget_supd,if_neg (Ne.symm (h.ks c hc).1)]
    cases ho:sget S c with
    | none=>exact absurd ho (h.ks c hc).2
    | some o=>rw [(hF c o (h.ks c hc).1 ho (hva c hc)).1];simp
theorem OfM.push (h:OfM S0 S t bo Ks f es clk) (hs:Sub S0 S) (n:Nd) {row:List AV} {bytes:Nat} {K:Store→Prop} (hr:row.length=3) (ho:ones row=true) (hb:((f n).length+1) * bytes≤140737488355328)
    (hK:∀ S' es' clk',Sub S0 S'→OfM S0 S' t bo Ks (fun m=>if m=n then f n++[row] else f m) es' clk'→(∀ c,Ks c→sget S' c=sget S c)→K S') :
    meW S MD .nils (.map (some bo)) (ndA n) fun v S=>exW 0 v fun v70=>exW 1 v fun v76=>apW S t 3 bytes v70 (.sl 3 [row]) fun v75 S=>mtW S (.map (some bo)) v76 v75 K:=by
  have keep:∀ {v v':AV} {S1 S2:Store},(∀ c,Ks c→Aside v c)→(∀ c o,c≠bo→sget S c=some o→Aside v c→sget S2 c=some o∧Aside v' c)→∀ es' clk',∀ c,Ks c→sget (supd S2 bo (.map MD es' clk')) c=sget S c:=by
    intro v v' S1 S2 hv hF es' clk' c hc
    rw [sget_supd,if_neg (Ne.symm (h.ks c hc).1)]
    cases ho:sget S c with
    | none=>exact absurd ho (h.ks c hc).2
    | some o=>exact (hF c o (h.ks c hc).1 ho (hv c hc)).1
  cases hq:mget es (ndA n) with
  | none=>
    have hm:=mfind_none hq
    have hf:=h.no n hq
    refine ⟨bo,es,clk,rfl,h.map,ke_nd.ok n,?_⟩
    rw [hm]
    dsimp only
    rw [exW_zero,exW_succ,exW_zero]
    have hsub1:Sub S0 (supd S bo (.map MD (es++[(ndA n,.nils,clk)]) (clk+1))):=Sub.supd h.b0 hs
    refine LstN.app hsub1 (LstN.nil (S0:=S0)) (fun r hr'=>by rw [List.mem_singleton.1 hr'];exact hr) (one_flat fun r hr'=>by rw [List.mem_singleton.1 hr'];exact ho) (by rw [hf] at hb;simpa using hb) fun v' S2 h1 h2 h3=>?_
    rw [List.nil_append] at h2
    have hbo2:=h3 bo _ (by rw [sget_supd,if_pos rfl]) (fun b off k cap e=>by cases e)
    have hF:∀ c o,c≠bo→sget S c=some o→Aside .nils c→sget S2 c=some o∧Aside v' c:=fun c o hc hso ha=>h3 c o (by rw [sget_supd,if_neg (Ne.symm hc)];exact hso) ha
    have hnd:((es++[(ndA n,AV.nils,clk)]).map fun x=>x.2.2).Nodup:=by
      rw [List.map_append,List.nodup_append]
      refine ⟨h.nd,by simp,fun a ha b hb=>?_⟩
      obtain ⟨x,hx,rfl⟩:=List.mem_map.1 ha
      have:=h.lt x hx
      simp at hb
      omega
    have hset:(mset es (ndA n) v' clk)=(es++[(ndA n,v',clk)],clk+1):=by unfold mset;rw [hm]
    have hku:∀ (i j:Nat) (x y:AV×AV×Nat),(es++[(ndA n,v',clk)])[i]?=some x→(es++[(ndA n,v',clk)])[j]?=some y→x.1=y.1→i=j:=by
      intro i j x y hx hy hxy
      have hno:=mget_no h.key hq
      rw [List.getElem?_append] at hx hy
      split at hx<;>split at hy
      · exact h.ku i j x y hx hy hxy
      · rw [List.getElem?_singleton] at hy
        split at hy
        · cases hy
          exact absurd hxy (hno x (List.mem_of_getElem? hx))
        · cases hy
      · rw [List.getElem?_singleton] at hx
        split at hx
        · cases hx
          exact absurd hxy.symm (hno y (List.mem_of_getElem? hy))
        · cases hx
      · rw [List.getElem?_singleton] at hx hy
        split at hx
        · split at hy
          · omega
          · cases hy
        · cases hx
    refine ⟨bo,MD,es++[(ndA n,.nils,clk)],clk+1,es.length,ndA n,.nils,clk,rfl,hbo2.1,rfl,findIdx_bn hnd (x:=(ndA n,.nils,clk)) (by simp) rfl,by simp,?_⟩
    have e:(es++[(ndA n,AV.nils,clk)]).set es.length (ndA n,v',clk)=es++[(ndA n,v',clk)]:=by simp
    rw [e]
    refine hK _ _ _ (Sub.supd h.b0 h1) (h.put (n:=n) (v:=.nils) (.inr ⟨hq,rfl⟩) (by rw [hf];exact h2) hF hbo2.2 (by rw [hset]) (fun x hx=>?_) (by simpa using hnd) hku fun x hx=>?_) (keep (S1:=S) (fun c _ b off k cap e=>by cases e) hF _ _)
    · rcases List.mem_append.1 hx with hx | hx
      · exact h.key x hx
      · rw [List.mem_singleton.1 hx];exact ⟨n,rfl⟩
    · rcases List.mem_append.1 hx with hx | hx
      · have:=h.lt x hx;omega
      · rw [List.mem_singleton.1 hx];exact Nat.lt_succ_self _
  | some v=>
    obtain ⟨hne,hl,hvb,hvk⟩:=h.yes n v hq
    have hm:∃ i bn,mfind es (ndA n)=some (i,v,bn):=by
      unfold mget at hq
      cases hmf:mfind es (ndA n) with
      | none=>rw [hmf] at hq;cases hq
      | some p=>
        obtain ⟨i,u,bn⟩:=p
        rw [hmf] at hq
        simp at hq
        subst hq
        exact ⟨i,bn,rfl⟩
    obtain ⟨i,bn,hm⟩:=hm
    have hi:=mfind_key h.key hm
    refine ⟨bo,es,clk,rfl,h.map,ke_nd.ok n,?_⟩
    rw [hm]
    dsimp only
    have e0:es.set i (ndA n,v,bn)=es:=by
      apply List.ext_getElem?
      intro j
      rw [List.getElem?_set]
      split
      · rename_i hij
        subst hij
        rw [if_pos (List.getElem?_eq_some_iff.1 hi).1,hi]
      · rfl
    rw [e0,exW_zero,exW_succ,exW_zero]
    have e1:supd S bo (.map MD es clk)=S:=by
      funext c
      unfold supd
      split
      · rename_i hc;subst hc;exact h.map.symm
      · rfl
    rw [e1]
    refine LstN.app hs hl (fun r hr'=>by rw [List.mem_singleton.1 hr'];exact hr) (one_flat fun r hr'=>by rw [List.mem_singleton.1 hr'];exact ho) (by simpa using hb) fun v' S2 h1 h2 h3=>?_
    have hbo2:=h3 bo _ h.map hvb
    have hF:∀ c o,c≠bo→sget S c=some o→Aside v c→sget S2 c=some o∧Aside v' c:=fun c o _ hso ha=>h3 c o hso ha
    have hset:(mset es (ndA n) v' clk)=(es.set i (ndA n,v',bn),clk):=by unfold mset;rw [hm]
    refine ⟨bo,MD,es,clk,i,ndA n,v,bn,rfl,hbo2.1,rfl,findIdx_bn h.nd hi rfl,hi,?_⟩
    have hlt:=(List.getElem?_eq_some_iff.1 hi).1
    have hmap:(es.set i (ndA n,v',bn)).map (fun x=>x.2.2)=es.map fun x=>x.2.2:=by
      rw [List.map_set]
      apply List.ext_getElem?
      intro j
      rw [List.getElem?_set]
      split
      · rename_i hij
        subst hij
        rw [if_pos (by simpa using hlt),List.getElem?_map,hi];rfl
      · rfl
    refine hK _ _ _ (Sub.supd h.b0 h1) (h.put (n:=n) (v:=v) (.inl hq) h2 hF hbo2.2 (by rw [hset]) (fun x hx=>?_) (by rw [hmap];exact h.nd) (fun i2 j2 x y hx hy hxy=>?_) fun x hx=>?_) (keep (S1:=S) hvk hF _ _)
    · rcases List.mem_or_eq_of_mem_set hx with hx | rfl
      · exact h.key x hx
      · exact ⟨n,rfl⟩
    · have hget:∀ (k:Nat) (z:AV×AV×Nat),(es.set i (ndA n,v',bn))[k]?=some z→∃ z',es[k]?=some z'∧z'.1=z.1:=by
        intro k z hz
        rw [List.getElem?_set] at hz
        split at hz
        · rename_i hik
          subst hik
          cases hz
          exact ⟨_,hi,rfl⟩
        · exact ⟨z,hz,rfl⟩
      obtain ⟨x',hx',ex⟩:=hget i2 x hx
      obtain ⟨y',hy',ey⟩:=hget j2 y hy
      exact h.ku i2 j2 x' y' hx' hy' (by rw [ex,ey,hxy])
    · rcases List.mem_or_eq_of_mem_set hx with hx | rfl
      · exact h.lt x hx
      · exact h.lt (ndA n,v,bn) (List.mem_of_getElem? hi)
end
def ndD:AV→Nd
  | .agg [.str a,.str b,.str c]=>⟨⟨a,b⟩,c⟩
  | _=>⟨⟨⟨#[]⟩,⟨#[]⟩⟩,⟨#[]⟩⟩
theorem ndD_A (n:Nd):ndD (ndA n)=n:=rfl
def frzM (f:Nd→List (List AV)) (es:List (AV×AV×Nat)):List (AV×AV×Nat):=es.map fun x=>(x.1,.sl 3 (f (ndD x.1)),x.2.2)
theorem mget_frz {f:Nd→List (List AV)} {n:Nd}:∀ {es:List (AV×AV×Nat)},(∀ x∈es,∃ n,x.1=ndA n)→mget (frzM f es) (ndA n)=(mget es (ndA n)).map fun _=>.sl 3 (f n)
  | [],_=>rfl
  | x :: r,h=>by
    obtain ⟨m,hm⟩:=h x (by simp)
    have ih:=mget_frz (f:=f) (n:=n) (es:=r) fun y hy=>h y (List.mem_cons_of_mem _ hy)
    unfold frzM at ih ⊢
    rw [List.map_cons,mget_cons,mget_cons,hm,ndA_eq]
    dsimp only
    by_cases e:n=m
    · subst e
      simp [ndD_A]
    · rw [decide_eq_false e,if_neg (by simp),if_neg (by simp)]
      exact ih
section
variable {S0 S:Store} {t bo:Nat} {Ks:Nat→Prop} {f:Nd→List (List AV)} {es:List (AV×AV×Nat)} {clk:Nat}
theorem OfM.fr (h:OfM S0 S t bo Ks f es clk) {S1:Store} (h1:∀ b,sget S1 b≠none→b=bo∨Ks b∨sget S0 b≠none):FrO S1 S (.map MD es clk) (.map MD (frzM f es) clk):=by
  refine .map MD es _ clk (by simp [frzM]) fun i e e' he he'=>?_
  unfold frzM at he'
  rw [List.getElem?_map,he] at he'
  simp only [Option.map_some,Option.some.injEq] at he'
  subst he'
  obtain ⟨n,hn⟩:=h.key e (List.mem_of_getElem? he)
  refine ⟨rfl,?_,rfl⟩
  dsimp only
  rw [hn,ndD_A]
  have hg:mget es (ndA n)=some e.2.1:=by
    cases hq:mget es (ndA n) with
    | none=>exact absurd hn (mget_no h.key hq e (List.mem_of_getElem? he))
    | some u=>
      unfold mget at hq
      cases hmf:mfind es (ndA n) with
      | none=>rw [hmf] at hq;cases hq
      | some p=>
        obtain ⟨j,u',bn⟩:=p
        have hj:=mfind_key h.key hmf
        have:=h.ku i j _ _ he hj hn
        subst this
        rw [he] at hj
        cases hj
        rw [hmf] at hq
        exact hq.symm
  obtain ⟨-,⟨hr,hl⟩,hvb,hvk⟩:=h.yes n _ hg
  rcases hl with ⟨e1,e2⟩ | ⟨b,cap,e1,q1,q2,q3,-,-⟩
  · rw [e1,e2];exact .nils 3
  · rw [e1] at hvb hvk ⊢
    refine .own t 3 b _ cap (f n) hr ?_ q2 rfl q3
    cases hs:sget S1 b with
    | none=>rfl
    | some o=>
      rcases h1 b (by rw [hs];simp) with rfl | hk | h0
      · exact absurd rfl (hvb _ _ _ _ rfl)
      · exact absurd rfl (hvk b hk _ _ _ _ rfl)
      · exact absurd q1 h0
end
end Go.HL
set_option linter.unusedVariables false
set_option linter.unusedSimpArgs false
set_option maxRecDepth 4000
namespace Go.HL
open Nat renaming reduceAdd→zA,reduceLeDiff→zB,reduceLT→zC,reduceSub→zD,reduceMul→zE,reduceEqDiff→zF,reduceBEq→zG
open Int renaming reduceAdd→zH,reduceToNat→zI
def ndT (t:Tu):Nd:=⟨t.o,t.rl⟩
def ofR (s:List Ty) (l:List Tu) (n:Nd):List (List AV):=((ofF (countsF s l) n).map Tu.s).map ndC
theorem of_take {s:List Ty} {l:List Tu} {i:Nat} {t:Tu} (h:l[i]?=some t) (n:Nd):ofR s (l.take (i+1)) n=ofR s (l.take i) n++if allowF s t=0∧n=ndT t then [ndC t.s] else []:=by
  unfold ofR countsF ofF
  rw [filter_take_succ h]
  by_cases h1:allowF s t=0
  · by_cases h2:n=ndT t
    · rw [if_pos (decide_eq_true h1),if_pos ⟨h1,h2⟩,List.filter_append,List.map_append,List.map_append]
      subst h2
      simp [ndT]
    · rw [if_pos (decide_eq_true h1),if_neg fun h=>h2 h.2,List.filter_append,List.map_append,List.map_append]
      have:(decide (t.o=n.o)&&decide (t.rl=n.rl))=false:=by
        rw [Bool.eq_false_iff]
        intro hq
        simp only [Bool.and_eq_true,decide_eq_true_eq] at hq
        refine h2 ?_
        cases n
        simp only [ndT,Nd.mk.injEq]
        exact ⟨hq.1.symm,hq.2.symm⟩
      simp [this]
  · rw [if_neg (show ¬ (decide (allowF s t=0)=true) by simp [h1]),if_neg fun h=>h1 h.1,List.append_nil,List.append_nil]
section
variable {S0 S1:Store} {b1 b2 b3 t1 t2 t3:Nat} {x1 x2 x3:AV} {QF:AEnd→Store→Prop}
abbrev res3 (b1 b2 b3:Nat):List RW:=[.cell (.ptr b1 0) 1 false,.cell (.ptr b2 0) 1 false,.cell (.ptr b3 0) 1 false]
theorem put3 (h1:objAt S1 b1=some (t1,[x1],1)) (h2:objAt S1 b2=some (t2,[x2],1)) (h3:objAt S1 b3=some (t3,[x3],1)) (d1:b1≠b2) (d2:b1≠b3) (d3:b2≠b3)
    (n1:sget S0 b1=none) (n2:sget S0 b2=none) (n3:sget S0 b3=none) (hs:Sub S0 S1) {a:Bool} {w e:Int} (hQ:QF (.ret (.tup [.bool a,.int .i64 w,.int .i64 e])) S0) :
    stW S1 1 (.ptr b1 0) (.bool a) fun S=>stW S 1 (.ptr b2 0) (.int .i64 w) fun S=>stW S 1 (.ptr b3 0) (.int .i64 e) fun S=>rtW (res3 b1 b2 b3) QF S:=by
  (try simp only [rwp,zA,zB,zC,zD,zE,zF,zG,zH,zI,rwb,reduceIte,h1,h2,h3,d1,d2,d3,Ne.symm d1,Ne.symm d2,Ne.symm d3])
  refine rtW_go S0 (Sub.supd n3 (Sub.supd n2 (Sub.supd n1 hs))) ?_
  (try simp only [rwp,zA,zB,zC,zD,zE,zF,zG,zH,zI,rwb,reduceIte,h1,h2,h3,d1,d2,d3,Ne.symm d1,Ne.symm d2,Ne.symm d3])
  exact hQ
end
theorem frsh {S:Store} {b c:Nat} {o:AObj} (h:sget (supd S b o) c=none):c≠b∧sget S c=none:=by
  rw [sget_supd] at h
  split at h
  · cases h
  · rename_i hn;exact ⟨fun e=>hn e.symm,h⟩
theorem cnW_false {Y N:Prop} (h:N):cnW (.bool false) Y N:=⟨fun h=>by (cases h),fun _=>h⟩
theorem c_engine_Check {s:List Ty} (hs:OkS s) (hN:OkN s) {l:List Tu} (hl:OkL l) (n:Nd) (who:Ob) (B:Int) :
    AFun PG nr_engine_Check [scA s,.sl 6 (l.map tuC),.agg (obC n.o),.str n.rl,.agg (obC who),.int .i64 B] (chk15 (envE s l who) B n):=by
  intro S
  suffices key:∀ QF:AEnd→Store→Prop,QF (.ret (chk15 (envE s l who) B n)) S→ACalls PG nr_engine_Check [scA s,.sl 6 (l.map tuC),.agg (obC n.o),.str n.rl,.agg (obC who),.int .i64 B] S QF from key _ ⟨rfl,rfl⟩
  intro QF hQ
  refine w_engine_Check ?_
  unfold A_engine_Check
  have q1:=c_rules_Check hs hN
  obtain ⟨x,y,z,hc⟩:=chkF_fl s
  have hz:errA (chkF s)=z:=by rw [hc,flA_err]
  rw [hc] at q1
  have q2:=c_rules_Find hs n.o.ty n.rl
  simp only [scA,flA] at q1 q2
  (try simp only [rwp,zA,zB,zC,zD,zE,zF,zG,zH,zI,rwb,reduceIte,scA,obC])
  intro b1 hb1 b2 hb2 b3 hb3
  obtain ⟨d21,hb2'⟩:=frsh hb2
  obtain ⟨d32,hb3'⟩:=frsh hb3
  obtain ⟨d31,hb3'⟩:=frsh hb3'
  generalize hS3:supd _ b3 _=S3
  have h31:objAt S3 b1=some (4,[.bool false],1):=by rw [← hS3];(try simp only [rwp,zA,zB,zC,zD,zE,zF,zG,zH,zI,rwb,reduceIte,d21,d31,d32,Ne.symm d21,Ne.symm d31,Ne.symm d32])
  have h32:objAt S3 b2=some (3,[.int .i64 0],1):=by rw [← hS3];(try simp only [rwp,zA,zB,zC,zD,zE,zF,zG,zH,zI,rwb,reduceIte,d21,d31,d32,Ne.symm d21,Ne.symm d31,Ne.symm d32])
  have h33:objAt S3 b3=some (30,[.int .i64 0],1):=by rw [← hS3];(try simp only [rwp,zA,zB,zC,zD,zE,zF,zG,zH,zI,rwb,reduceIte,d21,d31,d32,Ne.symm d21,Ne.symm d31,Ne.symm d32])
  have hs3:Sub S S3:=by rw [← hS3];exact Sub.supd hb3' (Sub.supd hb2' (Sub.supd hb1 (Sub.refl _)))
  have hf3:∀ b,sget S3 b≠none→b=b1∨b=b2∨b=b3∨sget S b≠none:=by
    intro b hb
    rw [← hS3,sget_supd,sget_supd,sget_supd] at hb
    split at hb
    · rename_i e;exact .inr (.inr (.inl e.symm))
    · split at hb
      · rename_i e;exact .inr (.inl e.symm)
      · split at hb
        · rename_i e;exact .inl e.symm
        · exact .inr (.inr (.inr hb))
  have bad:∀ b:Bool,(b=true→B<0∨100000<B∨errA (chkF s)≠0)→(b=false→¬ (B<0∨100000<B∨errA (chkF s)≠0)) →
      CA_engine_Check_2 QF (fun l S=>dfrW PG df_engine_Check (endW PG df_engine_Check tf_engine_Check_1 QF (df_engine_Check.caps.map (lget l))) (panW PG df_engine_Check tf_engine_Check_1 QF (df_engine_Check.caps.map (lget l))) l S)
        (.sl 6 (l.map tuC)) (.str n.rl) (.int .i64 B) (.rop [.sl 2 (s.map tyC)]) (.rop [.str n.o.ty,.str n.o.id]) (.rop [.str who.ty,.str who.id]) (.ptr b1 0) (.ptr b2 0) (.ptr b3 0) (.bool b) S3:=by
    intro b k1 k2
    unfold chk15 at hQ
    cases b
    · have h0:=k2 rfl
      rw [if_neg (show ¬ (B<0∨100000<B∨errA (chkF (envE s l who).s)≠0) from h0)] at hQ
      have hk:errA (chkF s)=0:=by
        refine Classical.byContradiction fun hn=>h0 (.inr (.inr hn))
      have hg:=chk_good hk
      (try simp only [rwp,zA,zB,zC,zD,zE,zF,zG,zH,zI,rwb,reduceIte,CA_engine_Check_2])
      refine caW_of (q2 _) ?_
      rintro ae S' ⟨rfl,rfl⟩
      have he:(envE s l who).s=s:=rfl
      rw [he] at hQ
      cases hq:findF s n.o.ty n.rl with
      | none=>
        rw [hq,if_pos rfl] at hQ
        dsimp only
        (try simp only [rwp,zA,zB,zC,zD,zE,zF,zG,zH,zI,rwb,reduceIte,zeroR])
        exact put3 h31 h32 h33 (Ne.symm d21) (Ne.symm d31) (Ne.symm d32) hb1 hb2' hb3' hs3 hQ
      | some p=>
        obtain ⟨i,k,r⟩:=p
        rw [hq,if_neg (by simp)] at hQ
        dsimp only
        (try simp only [rwp,zA,zB,zC,zD,zE,zF,zG,zH,zI,rwb,reduceIte,rlC_eq])
        intro bo hbo bp hbp
        obtain ⟨dpo,hbp'⟩:=frsh hbp
        (try simp only [rwp,zA,zB,zC,zD,zE,zF,zG,zH,zI,rwb,reduceIte])
        refine ⟨rfl,rfl,fun bc hbc=>?_⟩
        obtain ⟨dcp,hbc'⟩:=frsh hbc
        obtain ⟨dco,hbc'⟩:=frsh hbc'
        have Sn:∀ {b:Nat},sget S' b=none→b≠b1∧b≠b2∧b≠b3∧sget S b=none:=by
          intro b hb
          refine ⟨?_,?_,?_,?_⟩
          · rintro rfl;rw [objAt_some.1 h31] at hb;cases hb
          · rintro rfl;rw [objAt_some.1 h32] at hb;cases hb
          · rintro rfl;rw [objAt_some.1 h33] at hb;cases hb
          · cases hq:sget S b with
            | none=>rfl
            | some o=>rw [hs3 b o hq] at hb;cases hb
        obtain ⟨o1,o2,o3,no⟩:=Sn hbo
        obtain ⟨p1,p2,p3,np⟩:=Sn hbp'
        obtain ⟨c1,c2,c3,nc⟩:=Sn hbc'
        generalize hS5:supd _ bc _=S5
        have g5:∀ c,sget S5 c=if bc=c then some (.cells tySe (seC (envE s l who) B bo bp 0) 7) else if bp=c then some (.map MD [] 0) else if bo=c then some (.map MD [] 0) else sget S' c:=by
          intro c
          rw [← hS5,sget_supd,sget_supd,sget_supd]
          rfl
        have f5:Sub S S5:=by rw [← hS5];exact Sub.supd nc (Sub.supd np (Sub.supd no hs3))
        have s51:sget S5 b1=some (.cells 4 [.bool false] 1):=by rw [g5,if_neg c1,if_neg p1,if_neg o1];exact objAt_some.1 h31
        have s52:sget S5 b2=some (.cells 3 [.int .i64 0] 1):=by rw [g5,if_neg c2,if_neg p2,if_neg o2];exact objAt_some.1 h32
        have s53:sget S5 b3=some (.cells 30 [.int .i64 0] 1):=by rw [g5,if_neg c3,if_neg p3,if_neg o3];exact objAt_some.1 h33
        have s5p:sget S5 bp=some (.map MD [] 0):=by rw [g5,if_neg dcp,if_pos rfl]
        have s5c:sget S5 bc=some (.cells tySe (seC (envE s l who) B bo bp 0) 7):=by rw [g5,if_pos rfl]
        have s5o:sget S5 bo=some (.map MD [] 0):=by rw [g5,if_neg dco,if_neg dpo,if_pos rfl]
        have hKs:∀ c,(c=b1∨c=b2∨c=b3∨c=bp∨c=bc)→c≠bo∧sget S5 c≠none:=by
          rintro c (rfl | rfl | rfl | rfl | rfl)
          · exact ⟨Ne.symm o1,by rw [s51];simp⟩
          · exact ⟨Ne.symm o2,by rw [s52];simp⟩
          · exact ⟨Ne.symm o3,by rw [s53];simp⟩
          · exact ⟨dpo,by rw [s5p];simp⟩
          · exact ⟨dco,by rw [s5c];simp⟩
        refine LoopP.introS (fun i:Nat=>[(3,AV.str n.rl),(6,AV.rop [AV.sl 2 (List.map tyC s)]),(8,AV.rop [AV.str n.o.ty,AV.str n.o.id]),(12,AV.ptr b1 0),(13,AV.ptr b2 0),(14,AV.ptr b3 0),(17,.ptr bc 0),(50,AV.sl 6 (List.map tuC l)),(51,AV.int IntKind.i64 ↑l.length),(52,.int .i64 i)])
          (fun i S2=>i≤l.length∧Sub S S2∧(∃ es clk,OfM S S2 39 bo (fun c=>c=b1∨c=b2∨c=b3∨c=bp∨c=bc) (ofR s (l.take i)) es clk)∧∀ c,(c=b1∨c=b2∨c=b3∨c=bp∨c=bc)→sget S2 c=sget S5 c) (fun i=>l.length-i) 0
          ⟨by omega,f5,⟨[],0,⟨s5o,no,fun x hx=>(by cases hx),by simp,fun i j x y hx=>by simp at hx,fun x hx=>(by cases hx),fun m _=>rfl,fun m v hv=>(by cases hv),fun m p v u _ hv=>(by cases hv),hKs⟩⟩,fun c _=>rfl⟩ rfl ?_
        rintro i S2 ⟨hi,j1,⟨es,clk,hO⟩,j2⟩ kk hkk
        have hln:=hl.n
        have s2c:=j2 bc (by simp)
        rw [s5c] at s2c
        have s2o:=objAt_some.2 s2c
        have hc2:=cellsAt_of s2o
        (try simp only [rwp,zA,zB,zC,zD,zE,zF,zG,zH,zI,rwb,reduceIte,CA_engine_Check_3])
        cases a1:decide ((i:Int)<l.length)
        · refine cnW_false ?_
          have hEnd:∀ (L:LE) (x:AV) (S4:Store),L=[(12,.ptr b1 0),(13,.ptr b2 0),(14,.ptr b3 0)]∨L=[(12,.ptr b1 0),(13,.ptr b2 0),(14,.ptr b3 0),(17,.ptr bc 0)]→B_engine_Check_1 (fun S=>rtW (res3 b1 b2 b3) QF S) (.ptr b1 0) (.ptr b2 0) (.ptr b3 0) x S4→cloW PG df_engine_Check tf_engine_Check_1 QF [.ptr b1 0,.ptr b2 0,.ptr b3 0] x L S4:=by
            rintro L x S4 (rfl | rfl) h<;>exact Eq.mpr (e_engine_Check_1 (T:=fun S=>rtW (res3 b1 b2 b3) QF S)) h
          have eil:i=l.length:=by have:=of_decide_eq_false a1;omega
          subst eil
          rw [List.take_length] at hO
          rw [g_engine_Check]
          unfold G_engine_Check
          (try simp only [rwp,zA,zB,zC,zD,zE,zF,zG,zH,zI,rwb,reduceIte])
          let S0':Store:=supd (supd (supd (supd S b1 (.cells 4 [.bool false] 1)) b2 (.cells 3 [.int .i64 0] 1)) b3 (.cells 30 [.int .i64 0] 1)) bo (.map MD (frzM (ofR s l) es) clk)
          have g0:∀ c,sget S0' c=if bo=c then some (.map MD (frzM (ofR s l) es) clk) else if b3=c then some (.cells 30 [.int .i64 0] 1) else if b2=c then some (.cells 3 [.int .i64 0] 1) else if b1=c then some (.cells 4 [.bool false] 1) else sget S c:=fun c=>rfl
          have hsub0:Sub S S0':=Sub.supd no (Sub.supd hb3' (Sub.supd hb2' (Sub.supd hb1 (Sub.refl _))))
          have hof:∀ m,ofA ((envE s l who).of m)=(mget es (ndA m)).map fun _=>AV.sl 3 (ofR s l m):=by
            intro m
            unfold ofA
            cases hm:mget es (ndA m) with
            | none=>
              have:=hO.no m hm
              unfold ofR at this
              rw [List.map_eq_nil_iff] at this
              rw [show (envE s l who).of m=(ofF (countsF s l) m).map Tu.s from rfl,this]
              rfl
            | some v=>
              have:=(hO.yes m v hm).1
              unfold ofR at this
              rw [if_neg fun h=>this (by rw [show (ofF (countsF s l) m).map Tu.s=(envE s l who).of m from rfl,h];rfl)]
              rfl
          have hfk:∀ x∈frzM (ofR s l) es,∃ n,x.1=ndA n:=by
            intro x hx
            unfold frzM at hx
            obtain ⟨y,hy,rfl⟩:=List.mem_map.1 hx
            exact hO.key y hy
          have hOk:SeOk (envE s l who) B bc bo bp S0':=by
            refine ⟨hs,sc_may hg.may,Ne.symm dcp,?_,?_,Ne.symm dco,Ne.symm dpo,⟨frzM (ofR s l) es,clk,mapObj_some.2 (by rw [g0,if_pos rfl]),fun x hx=>?_,fun m=>?_⟩,by omega,fun m=>?_⟩
            · rw [g0,if_neg (Ne.symm dco),if_neg (Ne.symm c3),if_neg (Ne.symm c2),if_neg (Ne.symm c1)];exact nc
            · rw [g0,if_neg (Ne.symm dpo),if_neg (Ne.symm p3),if_neg (Ne.symm p2),if_neg (Ne.symm p1)];exact np
            · obtain ⟨m,hm⟩:=hfk x hx
              rw [hm]
              exact ke_nd.ok m
            · rw [mget_frz hO.key];exact (hof m).symm
            · show ((ofF (countsF s l) m).map Tu.s).length≤100000
              rw [List.length_map]
              exact Nat.le_trans (List.length_filter_le _ _) (counts_ok hl).n
          have q4:=c_ask hOk 50 [] [] ⟨fun x hx=>(by cases hx),rfl,fun m=>by simp [mget_nil]⟩ rfl n 0 (stE (envE s l who) B bc bo bp S0' 0 [] 0) ⟨by omega,0,rfl⟩
          have hfr:FrS (stE (envE s l who) B bc bo bp S0' 0 [] 0) S2:=by
            intro b o' hb
            unfold stE at hb
            rw [sget_supd,sget_supd,g0] at hb
            split at hb
            · rename_i e;subst e;cases hb;exact ⟨_,(j2 _ (by simp)).trans s5p,.same _⟩
            · split at hb
              · rename_i e;subst e;cases hb;exact ⟨_,(j2 _ (by simp)).trans s5c,.same _⟩
              · split at hb
                · rename_i e
                  subst e
                  cases hb
                  refine ⟨_,hO.map,hO.fr fun b hb=>?_⟩
                  unfold stE at hb
                  rw [sget_supd,sget_supd,g0] at hb
                  split at hb
                  · rename_i e;exact .inr (.inl (by simp [e]))
                  · split at hb
                    · rename_i e;exact .inr (.inl (by simp [e]))
                    · split at hb
                      · rename_i e;exact .inl e.symm
                      · split at hb
                        · rename_i e;exact .inr (.inl (by simp [e]))
                        · split at hb
                          · rename_i e;exact .inr (.inl (by simp [e]))
                          · split at hb
                            · rename_i e;exact .inr (.inl (by simp [e]))
                            · exact .inr (.inr hb)
                · split at hb
                  · rename_i e;subst e;cases hb;exact ⟨_,(j2 _ (by simp)).trans s53,.same _⟩
                  · split at hb
                    · rename_i e;subst e;cases hb;exact ⟨_,(j2 _ (by simp)).trans s52,.same _⟩
                    · split at hb
                      · rename_i e;subst e;cases hb;exact ⟨_,(j2 _ (by simp)).trans s51,.same _⟩
                      · exact ⟨_,j1 b o' hb,.same _⟩
          have t1:sget S0' b1=some (.cells 4 [.bool false] 1):=by rw [g0,if_neg o1,if_neg d31,if_neg d21,if_pos rfl]
          have t2:sget S0' b2=some (.cells 3 [.int .i64 0] 1):=by rw [g0,if_neg o2,if_neg d32,if_pos rfl]
          have t3:sget S0' b3=some (.cells 30 [.int .i64 0] 1):=by rw [g0,if_neg o3,if_pos rfl]
          simp only [obC] at q4
          refine caW_of (ACalls.frz hfr (Frs.same _) q4) ?_
          intro ae S3 hq4
          unfold PostQ at hq4
          cases ha:askQ (envE s l who) B 50 [] n 0 with
          | none=>
            rw [ha] at hq4 hQ
            obtain ⟨rfl,hx⟩:=hq4
            dsimp only
            refine hEnd _ _ _ (.inr rfl) ?_
            unfold B_engine_Check_1
            (try simp only [rwp,zA,zB,zC,zD,zE,zF,zG,zH,zI,rwb,reduceIte,spV])
            exact put3 (objAt_some.2 (hx _ _ t1)) (objAt_some.2 (hx _ _ t2)) (objAt_some.2 (hx _ _ t3)) (Ne.symm d21) (Ne.symm d31) (Ne.symm d32) hb1 hb2' hb3' (hsub0.trans hx) hQ
          | some p=>
            obtain ⟨b,w2⟩:=p
            rw [ha] at hq4 hQ
            obtain ⟨rfl,hw,clk',rfl⟩:=hq4
            dsimp only
            have eE:∀ c,sget (stE (envE s l who) B bc bo bp S0' w2 [] clk') c=if bp=c then some (.map MD [] clk') else if bc=c then some (.cells tySe (seC (envE s l who) B bo bp w2) 7) else sget S0' c:=fun c=>rfl
            have r1:=eE b1
            rw [if_neg p1,if_neg c1,t1] at r1
            have r2:=eE b2
            rw [if_neg p2,if_neg c2,t2] at r2
            have r3:=eE b3
            rw [if_neg p3,if_neg c3,t3] at r3
            have rc:=eE bc
            rw [if_neg (Ne.symm dcp),if_pos rfl] at rc
            have hsE:Sub S (stE (envE s l who) B bc bo bp S0' w2 [] clk'):=hsub0.trans (stE_sub hOk)
            have rco:=objAt_some.2 rc
            have rcc:=cellsAt_of rco
            have r1o:=objAt_some.2 r1
            have r1c:=cellsAt_of r1o
            generalize stE (envE s l who) B bc bo bp S0' w2 [] clk'=SE at r1 r2 r3 rc rco rcc r1o r1c hsE ⊢
            have r2o:=objAt_some.2 r2
            have r3o:=objAt_some.2 r3
            (try simp only [rwp,zA,zB,zC,zD,zE,zF,zG,zH,zI,rwb,reduceIte,r1o,r1c,rcc,rco,seC,c1,Ne.symm c1,kpW_cons,d21,d31,d32,Ne.symm d21,Ne.symm d31,Ne.symm d32,r2o,r3o])
            refine hEnd _ _ _ (.inl rfl) ?_
            unfold B_engine_Check_1
            (try simp only [rwp,zA,zB,zC,zD,zE,zF,zG,zH,zI,rwb,reduceIte])
            refine rtW_go S (Sub.supd hb3' (Sub.supd hb2' (Sub.supd hb1 hsE))) ?_
            (try simp only [rwp,zA,zB,zC,zD,zE,zF,zG,zH,zI,rwb,reduceIte,r1o,r2o,r3o,d21,d31,d32,Ne.symm d21,Ne.symm d31,Ne.symm d32])
            exact hQ
        · have hlt:=of_decide_eq_true a1
          obtain ⟨t,ht⟩:=get_lt hlt
          have q3:=c_tuple_Allowed hs (hl.ok t (List.mem_of_getElem? ht))
          simp only [scA] at q3
          (try simp only [rwp,zA,zB,zC,zD,zE,zF,zG,zH,zI,rwb,reduceIte,ht,tuC])
          refine caW_pure q3 ?_
          (try simp only [rwp,zA,zB,zC,zD,zE,zF,zG,zH,zI,rwb,reduceIte,hc2,seC])
          have hnx:=of_take (s:=s) ht
          cases a2:decide (allowF s t=0)
          · (try simp only [rwp,zA,zB,zC,zD,zE,zF,zG,zH,zI,rwb,reduceIte,CA_engine_Check_4])
            (simp (disch:=omega) only [hwrap64])
            have e:ofR s (l.take (i+1))=ofR s (l.take i):=by
              funext m
              rw [hnx,if_neg fun h=>(of_decide_eq_false a2) h.1,List.append_nil]
            exact rcW_as rfl (hkk (i+1) S2 ⟨by omega,j1,⟨es,clk,by rw [e];exact hO⟩,j2⟩ (by omega))
          · (try simp only [rwp,zA,zB,zC,zD,zE,zF,zG,zH,zI,rwb,reduceIte])
            refine hO.push j1 (ndT t) rfl rfl ?_ fun S4 es2 clk2 u1 u2 u3=>?_
            · have:(ofR s (l.take i) (ndT t)).length≤i:=by
                unfold ofR ofF countsF
                rw [List.length_map,List.length_map]
                exact Nat.le_trans (List.length_filter_le _ _) (Nat.le_trans (List.length_filter_le _ _) (List.length_take_le _ _))
              omega
            · (try simp only [rwp,zA,zB,zC,zD,zE,zF,zG,zH,zI,rwb,reduceIte,CA_engine_Check_4])
              (simp (disch:=omega) only [hwrap64])
              have e:ofR s (l.take (i+1))=fun m=>if m=ndT t then ofR s (l.take i) (ndT t)++[ndC t.s] else ofR s (l.take i) m:=by
                funext m
                rw [hnx]
                by_cases hm:m=ndT t
                · rw [if_pos ⟨of_decide_eq_true a2,hm⟩,if_pos hm,hm]
                · rw [if_neg fun h=>hm h.2,if_neg hm,List.append_nil]
              exact rcW_as rfl (hkk (i+1) S4 ⟨by omega,u1,⟨es2,clk2,by rw [e];exact u2⟩,fun c hc=>(u3 c hc).trans (j2 c hc)⟩ (by omega))
    · rw [if_pos (show (B<0∨100000<B∨errA (chkF (envE s l who).s)≠0) from k1 rfl)] at hQ
      (try simp only [rwp,zA,zB,zC,zD,zE,zF,zG,zH,zI,rwb,reduceIte,CA_engine_Check_2])
      exact put3 h31 h32 h33 (Ne.symm d21) (Ne.symm d31) (Ne.symm d32) hb1 hb2' hb3' hs3 hQ
  have hbad:∀ b:Bool,b=(!decide (z=0)||decide (B<0)||decide (100000<B))→(b=true→B<0∨100000<B∨errA (chkF s)≠0)∧(b=false→¬ (B<0∨100000<B∨errA (chkF s)≠0)):=by
    rintro b rfl
    rw [hz]
    constructor
    · intro h
      simp only [Bool.or_eq_true,Bool.not_eq_true',decide_eq_true_eq,decide_eq_false_iff_not] at h
      omega
    · intro h
      simp only [Bool.or_eq_false_iff,Bool.not_eq_false',decide_eq_true_eq,decide_eq_false_iff_not] at h
      omega
  (try simp only [rwp,zA,zB,zC,zD,zE,zF,zG,zH,zI,rwb,reduceIte,CA_engine_Check_1])
  cases hb:(decide (B<0)||decide (100000<B))
  · (try simp only [rwp,zA,zB,zC,zD,zE,zF,zG,zH,zI,rwb,reduceIte])
    refine caW_pure q1 ?_
    (try simp only [rwp,zA,zB,zC,zD,zE,zF,zG,zH,zI,rwb,reduceIte])
    have e:(!decide (z=0))=(!decide (z=0)||decide (B<0)||decide (100000<B)):=by rw [Bool.or_assoc,hb,Bool.or_false]
    exact bad _ (hbad _ e).1 (hbad _ e).2
  · (try simp only [rwp,zA,zB,zC,zD,zE,zF,zG,zH,zI,rwb,reduceIte])
    refine bad true (fun _=>?_) (fun h=>by cases h)
    simp only [Bool.or_eq_true,decide_eq_true_eq] at hb
    omega
end Go.HL
set_option linter.unusedVariables false
set_option linter.unusedSimpArgs false
set_option maxRecDepth 4000
namespace Go.HL
open Nat renaming reduceAdd→zA,reduceLeDiff→zB,reduceLT→zC,reduceSub→zD,reduceMul→zE,reduceEqDiff→zF,reduceBEq→zG
open Int renaming reduceAdd→zH,reduceToNat→zI
structure Tk where
  s:ByteArray
  line:Int
  col:Int
instance:Inhabited Tk:=⟨⟨⟨#[]⟩,0,0⟩⟩
def tkC (t:Tk):List AV:=[.str t.s,.int .i64 t.line,.int .i64 t.col]
structure Rd where
  at':Nat
  op:Int
  dl:Int
  dc:Int
  de:Int
def rdC (T:List Tk) (r:Rd):List AV:=[.sl 3 (T.map tkC),.int .i64 r.at',.int .i64 r.op,.int .i64 r.dl,.int .i64 r.dc,.int .i64 r.de]
def rdO (T:List Tk) (r:Rd):AObj:=.cells 145 (rdC T r) 6
def AFunR (f b:Nat) (xs:List AV) (T:List Tk) (r:Rd) (v:AV) (r':Rd):Prop:=∀ S,sget S b=some (rdO T r)→ACalls PG f (.ptr b 0 :: xs) S fun ae S'=>ae=.ret v∧S'=supd S b (rdO T r')
theorem rd_at {S:Store} {b:Nat} {T:List Tk} {r:Rd} (h:sget S b=some (rdO T r)):objAt S b=some (145,[.sl 3 (T.map tkC),.int .i64 r.at',.int .i64 r.op,.int .i64 r.dl,.int .i64 r.dc,.int .i64 r.de],6):=objAt_some.2 h
theorem supd_self {S:Store} {b:Nat} {o:AObj} (h:sget S b=some o):supd S b o=S:=by
  funext c
  unfold supd
  by_cases hc:b=c
  · subst hc;rw [if_pos rfl];exact h.symm
  · rw [if_neg hc]
def nxP (T:List Tk) (r:Rd):Tk:=T.getD r.at' default
def failP (t:Tk) (e:Int) (r:Rd):Rd:=if r.de=0 then { r with dl:=t.line,dc:=t.col,de:=e } else r
def isP (T:List Tk) (s:ByteArray) (r:Rd):Bool:=decide (r.de=0)&&decide ((nxP T r).s=s)
def isR (T:List Tk) (s:ByteArray) (r:Rd):Rd:=if isP T s r then { r with at':=r.at'+1 } else r
def mustR (T:List Tk) (s:ByteArray) (r:Rd):Rd:=if isP T s r then isR T s r else failP (nxP T r) 8 r
def nameP (T:List Tk) (r:Rd):ByteArray:=if nameB (nxP T r).s=true∧r.de=0 then (nxP T r).s else ⟨#[]⟩
def nameR (T:List Tk) (r:Rd):Rd:=if nameB (nxP T r).s=true∧r.de=0 then { r with at':=r.at'+1 } else failP (nxP T r) 8 r
structure OkTk (T:List Tk):Prop where
  len:T.length≤5000
  size:∀ t∈T,t.s.size≤1125899906842624
  last:∀ t,T[T.length-1]?=some t→t.s=⟨#[]⟩∨t.s=⟨#[63]⟩
def InR (T:List Tk) (r:Rd):Prop:=r.at'<T.length
theorem nx_get {T:List Tk} {r:Rd} (h:InR T r):T[r.at']?=some (nxP T r):=by
  unfold nxP InR at *
  rw [List.getD_eq_getElem?_getD,List.getElem?_eq_getElem h]
  rfl
theorem c_fail {T:List Tk} {r:Rd} {b:Nat} (t:Tk) (e:Int):AFunR nr_ref11_Reader_fail b [.agg (tkC t),.int .i64 e] T r (.tup []) (failP t e r):=by
  intro S h
  have ho:=rd_at h
  refine w_ref11_Reader_fail ?_
  unfold B_ref11_Reader_fail
  (try simp only [rwp,hwR,zA,zB,zC,zD,zE,zF,zG,zH,zI,tkC,cellsAt_of ho])
  (refine cnW_intro (fun h0=>?_) (fun h0=>?_)<;>(try simp only [hlc] at h0))
  · (try simp only [rwp,hwR,zA,zB,zC,zD,zE,zF,zG,zH,zI,ho])
    exact rtW_none ⟨rfl,by rw [failP,if_pos h0];rfl⟩
  · exact rtW_none ⟨rfl,by rw [failP,if_neg h0,supd_self h]⟩
theorem c_next {T:List Tk} {r:Rd} {b:Nat} (hT:OkTk T) (hr:InR T r):AFunR nr_ref11_Reader_next b [] T r (.agg (tkC (nxP T r))) r:=by
  intro S h
  have ho:=rd_at h
  have hx:=nx_get hr
  refine w_ref11_Reader_next ?_
  unfold B_ref11_Reader_next
  intro b2 hb2
  have hne:b2≠b:=sget_ne hb2 h
  (try simp only [rwp,hwR,zA,zB,zC,zD,zE,zF,zG,zH,zI,cellsAt_of ho,if_neg hne,hx,tkC])
  refine rtW_go S (by rw [sdel_fresh hb2];exact Sub.refl S) ?_
  (try simp only [rwp,hwR,zA,zB,zC,zD,zE,zF,zG,zH,zI])
  first | exact ⟨rfl,(supd_self h).symm⟩ | exact (supd_self h).symm
theorem c_is {T:List Tk} {r:Rd} {b:Nat} (hT:OkTk T) (hr:InR T r) (s:ByteArray):AFunR nr_ref11_Reader_is b [.str s] T r (.bool (isP T s r)) (isR T s r):=by
  intro S h
  have ho:=rd_at h
  have hx:=nx_get hr
  have hl:=hT.len
  have hr':r.at'<T.length:=hr
  refine w_ref11_Reader_is ?_
  unfold B_ref11_Reader_is
  (try simp only [rwp,hwR,zA,zB,zC,zD,zE,zF,zG,zH,zI,cellsAt_of ho])
  cases a1:decide (r.de=0) with
  | false=>
    (try simp only [rwp,hwR,zA,zB,zC,zD,zE,zF,zG,zH,zI,C_ref11_Reader_is_1])
    have hp:isP T s r=false:=by rw [isP,a1];rfl
    exact rtW_one ⟨by rw [hp],by rw [isR,hp];exact (supd_self h).symm⟩
  | true=>
    (try simp only [rwp,hwR,zA,zB,zC,zD,zE,zF,zG,zH,zI,hx,tkC])
    cases a2:decide ((nxP T r).s=s) with
    | false=>
      (try simp only [rwp,hwR,zA,zB,zC,zD,zE,zF,zG,zH,zI,C_ref11_Reader_is_1])
      have hp:isP T s r=false:=by rw [isP,a1,a2];rfl
      exact rtW_one ⟨by rw [hp],by rw [isR,hp];exact (supd_self h).symm⟩
    | true=>
      (try simp only [rwp,hwR,zA,zB,zC,zD,zE,zF,zG,zH,zI,C_ref11_Reader_is_1,cellsAt_of ho,ho])
      have hp:isP T s r=true:=by rw [isP,a1,a2];rfl
      (simp (disch:=omega) only [hwrap64])
      exact rtW_one ⟨by rw [hp],by rw [isR,hp];rfl⟩
theorem AFunR.ca {f b:Nat} {xs:List AV} {T:List Tk} {r r':Rd} {v:AV} (h:AFunR f b xs T r v r') {S:Store} (hS:sget S b=some (rdO T r)) {K Qp:AV→Store→Prop} (hK:K v (supd S b (rdO T r'))):caW PG S (.func (.func f) [] []) (.ptr b 0 :: xs) K Qp:=
  caW_of (h S hS) fun ae S' ⟨h1,h2⟩=>by subst h1;subst h2;exact hK
theorem rd_new {S:Store} {b:Nat} {T:List Tk} {r:Rd}:sget (supd S b (rdO T r)) b=some (rdO T r):=by rw [sget_supd,if_pos rfl]
theorem isR_no {T:List Tk} {s:ByteArray} {r:Rd} (h:isP T s r=false):isR T s r=r:=by rw [isR,h];rfl
theorem c_must {T:List Tk} {r:Rd} {b:Nat} (hT:OkTk T) (hr:InR T r) (s:ByteArray):AFunR nr_ref11_Reader_must b [.str s] T r (.tup []) (mustR T s r):=by
  intro S h
  refine w_ref11_Reader_must ?_
  unfold B_ref11_Reader_must
  refine (c_is hT hr s).ca h ?_
  cases hp:isP T s r with
  | true=>
    (try simp only [rwp,hwR,zA,zB,zC,zD,zE,zF,zG,zH,zI])
    exact rtW_none ⟨rfl,by rw [mustR,hp];rfl⟩
  | false=>
    (try simp only [rwp,hwR,zA,zB,zC,zD,zE,zF,zG,zH,zI])
    have hi:=isR_no hp
    rw [hi]
    refine (c_next hT hr).ca rd_new ?_
    (try simp only [rwp,hwR,zA,zB,zC,zD,zE,zF,zG,zH,zI,tkC])
    refine (c_fail (nxP T r) 8).ca rd_new ?_
    (try simp only [rwp,hwR,zA,zB,zC,zD,zE,zF,zG,zH,zI])
    exact rtW_none ⟨rfl,by rw [mustR,hp];rfl⟩
theorem c_name {T:List Tk} {r:Rd} {b:Nat} (hT:OkTk T) (hr:InR T r):AFunR nr_ref11_Reader_name b [] T r (.str (nameP T r)) (nameR T r):=by
  intro S h
  have hx:=nx_get hr
  have hl:=hT.len
  have hr':r.at'<T.length:=hr
  refine w_ref11_Reader_name ?_
  unfold B_ref11_Reader_name
  refine (c_next hT hr).ca h ?_
  rw [supd_self h]
  have ho:=rd_at h
  (try simp only [rwp,hwR,zA,zB,zC,zD,zE,zF,zG,zH,zI,tkC])
  refine caW_pure (c_ref10_Name (hT.size _ (List.mem_of_getElem? hx))) ?_
  cases hn:nameB (nxP T r).s with
  | false=>
    (try simp only [rwp,hwR,zA,zB,zC,zD,zE,zF,zG,zH,zI,C_ref11_Reader_name_1])
    have hc:¬ (nameB (nxP T r).s=true∧r.de=0):=by rw [hn];simp
    refine (c_fail (nxP T r) 8).ca h ?_
    (try simp only [rwp,hwR,zA,zB,zC,zD,zE,zF,zG,zH,zI])
    exact rtW_one ⟨by rw [nameP,if_neg hc],by rw [nameR,if_neg hc]⟩
  | true=>
    (try simp only [rwp,hwR,zA,zB,zC,zD,zE,zF,zG,zH,zI,cellsAt_of ho])
    cases a1:decide (r.de=0) with
    | false=>
      have hc:¬ (nameB (nxP T r).s=true∧r.de=0):=fun h=>by rw [decide_eq_true h.2] at a1;cases a1
      (try simp only [rwp,hwR,zA,zB,zC,zD,zE,zF,zG,zH,zI,C_ref11_Reader_name_1])
      refine (c_fail (nxP T r) 8).ca h ?_
      (try simp only [rwp,hwR,zA,zB,zC,zD,zE,zF,zG,zH,zI])
      exact rtW_one ⟨by rw [nameP,if_neg hc],by rw [nameR,if_neg hc]⟩
    | true=>
      have hc:nameB (nxP T r).s=true∧r.de=0:=⟨hn,of_decide_eq_true a1⟩
      (try simp only [rwp,hwR,zA,zB,zC,zD,zE,zF,zG,zH,zI,C_ref11_Reader_name_1,cellsAt_of ho,ho])
      (simp (disch:=omega) only [hwrap64])
      exact rtW_one ⟨by rw [nameP,if_pos hc],by rw [nameR,if_pos hc];rfl⟩
mutual
def hgt:Ex→Nat
  | .mk _ _ _ ks=>hgtL ks+1
def hgtL:List Ex→Nat
  | []=>0
  | e :: r=>max (hgt e) (hgtL r)
end
mutual
theorem hgt_le:∀ e:Ex,hgt e≤esz e
  | .mk _ _ _ ks=>by
    unfold hgt esz
    have:=hgtL_le ks
    omega
theorem hgtL_le:∀ l:List Ex,hgtL l≤eszL l
  | []=>by simp [hgtL]
  | e :: r=>by
    unfold hgtL eszL
    have h1:=hgt_le e
    have h2:=hgtL_le r
    omega
end
theorem c_Height:∀ (e:Ex),OkE e→esz e≤1125899906842624→AFun PG nr_ref11_Height [.agg (exC e)] (.int .i64 (hgt e)):=by
  intro e he
  induction he with
  | mk k n o ks hk hn ho hks ih=>
    intro hsz S
    have hle:=hgt_le (.mk k n o ks)
    rw [hgt] at hle
    refine w_ref11_Height ?_
    unfold B_ref11_Height
    (try simp only [rwp,hwR,zA,zB,zC,zD,zE,zF,zG,zH,zI,exC_eq,Ex.kind,Ex.name,Ex.over,Ex.kids])
    refine LoopP.introS (fun p:Nat×Nat=>[(1,.rop [.int .i64 k,.str n,.str o,.sl 4 (ks.map exC)]),(3,.int .i64 p.2),(4,.int .i64 p.1)])
      (fun p S'=>S'=S∧p.1≤ks.length∧max p.2 (hgtL (ks.drop p.1))=hgtL ks) (fun p=>ks.length-p.1) (0,0) ⟨rfl,by omega,by simp⟩ rfl ?_
    rintro ⟨i,m⟩ S1 ⟨rfl,hi,hf⟩ q hq
    dsimp only at hi hf
    (try simp only [rwp,hwR,zA,zB,zC,zD,zE,zF,zG,zH,zI,C_ref11_Height_1])
    (refine cnW_intro (fun hlt=>?_) (fun hlt=>?_)<;>(try simp only [hlc] at hlt))
    · obtain ⟨x,hx⟩:=get_lt hlt
      have hkid:=esz_kid (k:=k) (n:=n) (o:=o) (List.mem_of_getElem? hx)
      rw [drop_cons hx,hgtL] at hf
      (try simp only [rwp,hwR,zA,zB,zC,zD,zE,zF,zG,zH,zI,hx])
      refine caW_pure (ih x (List.mem_of_getElem? hx) (by omega)) ?_
      (try simp only [rwp,hwR,zA,zB,zC,zD,zE,zF,zG,zH,zI])
      (refine cnW_intro (fun hc=>?_) (fun hc=>?_)<;>(try simp only [hlc] at hc))
      · (simp (disch:=omega) only [hwrap64])
        exact rcW_as rfl (hq (i+1,hgt x) _ ⟨rfl,by dsimp only;omega,by dsimp only;omega⟩ (by dsimp only;omega))
      · (simp (disch:=omega) only [hwrap64])
        exact rcW_as rfl (hq (i+1,m) _ ⟨rfl,by dsimp only;omega,by dsimp only;omega⟩ (by dsimp only;omega))
    · rw [drop_end hlt,hgtL] at hf
      have:m=hgtL ks:=by omega
      subst this
      (simp (disch:=omega) only [hwrap64])
      exact rtW_one ⟨by rw [hgt];rfl,rfl⟩
def twoE (k:Int) (a c:Ex):Ex:=.mk k ⟨#[]⟩ ⟨#[]⟩ [a,c]
def twoR (k:Int) (t:Tk) (a c:Ex) (r:Rd):Rd:=if r.de=0∧12<hgt (twoE k a c) then failP t 9 r else r
theorem twoE_ok {k:Int} {a c:Ex} (ha:OkE a) (hc:OkE c):OkE (twoE k a c):=.mk k _ _ _ (by simp) (by decide) (by decide) fun e he=>by
  simp at he
  rcases he with rfl | rfl<;>assumption
theorem twoE_sz {k:Int} {a c:Ex}:esz (twoE k a c)=esz a+esz c+1:=by simp [twoE,esz,eszL];omega
theorem c_two {T:List Tk} {r:Rd} {b:Nat} (k:Int) (t:Tk) {a c:Ex} (ha:OkE a) (hc:OkE c) (hsz:r.de=0→esz a+esz c+1≤1125899906842624):AFunR nr_ref11_Reader_two b [.int .i64 k,.agg (tkC t),.agg (exC a),.agg (exC c)] T r (.agg (exC (twoE k a c))) (twoR k t a c r):=by
  intro S h
  have ho:=rd_at h
  refine w_ref11_Reader_two ?_
  unfold B_ref11_Reader_two
  (try simp only [rwp,hwR,zA,zB,zC,zD,zE,zF,zG,zH,zI,tkC,exC_eq])
  intro b2 hb2
  have hne:b2≠b:=sget_ne hb2 h
  (try simp only [rwp,hwR,zA,zB,zC,zD,zE,zF,zG,zH,zI,cellsAt_of ho,if_neg hne,ones_cons])
  have h2:∀ r2,sget (supd (supd S b2 (.cells 51 [.int .i64 0,.str ⟨#[]⟩,.str ⟨#[]⟩,.nils] 4)) b (rdO T r2)) b=some (rdO T r2):=fun r2=>rd_new
  have hS0:sget (supd S b2 (.cells 51 [.int .i64 0,.str ⟨#[]⟩,.str ⟨#[]⟩,.nils] 4)) b=some (rdO T r):=by rw [sget_supd,if_neg hne];exact h
  have fin:∀ S2 r',objAt S2 b2=some (51,[.int .i64 0,.str ⟨#[]⟩,.str ⟨#[]⟩,.nils],4)→(∀ x,b2≠x→sget S2 x=sget (supd S b (rdO T r')) x)→r'=twoR k t a c r →
      C_ref11_Reader_two_2 (fun ae S'=>ae=.ret (.agg (exC (twoE k a c)))∧S'=supd S b (rdO T (twoR k t a c r))) (.ptr b2 0) (.rop [.int .i64 k,.str ⟨#[]⟩,.str ⟨#[]⟩,.sl 4 [exC a,exC c]]) S2:=by
    intro S2 r' hob hS2 hr'
    unfold C_ref11_Reader_two_2
    have hb2':sget (supd S b (rdO T r')) b2=none:=by rw [sget_supd,if_neg (Ne.symm hne)];exact hb2
    have hsub:Sub (supd S b (rdO T r')) (sdel (supd S2 b2 (.cells 51 [.int .i64 k,.str ⟨#[]⟩,.str ⟨#[]⟩,.sl 4 [exC a,exC c]] 4)) b2):=by
      intro x o hx
      have hxb:b2≠x:=by rintro rfl;rw [hb2'] at hx;cases hx
      rw [sget_sdel,if_neg hxb,sget_supd,if_neg hxb]
      rw [hS2 x hxb];exact hx
    simp only [exC_eq] at hsub
    (try simp only [rwp,hwR,zA,zB,zC,zD,zE,zF,zG,zH,zI,hob,exC_eq,ones_cons])
    refine rtW_go _ hsub ?_
    (try simp only [rwp,hwR,zA,zB,zC,zD,zE,zF,zG,zH,zI])
    refine ⟨?_,by rw [hr']⟩
    simp only [twoE,Ex.kind,Ex.name,Ex.over,Ex.kids,List.map_cons,List.map_nil,exC_eq]
  simp only [exC_eq] at fin
  cases a1:decide (r.de=0) with
  | false=>
    (try simp only [rwp,hwR,zA,zB,zC,zD,zE,zF,zG,zH,zI,C_ref11_Reader_two_1])
    refine fin _ r objAt_eq (fun x hx=>by rw [sget_supd,if_neg hx,supd_self h]) ?_
    rw [twoR,if_neg (fun h=>by rw [decide_eq_true h.1] at a1;cases a1)]
  | true=>
    have hde:=of_decide_eq_true a1
    (try simp only [rwp,hwR,zA,zB,zC,zD,zE,zF,zG,zH,zI])
    have hH:=c_Height (twoE k a c) (twoE_ok ha hc) (by rw [twoE_sz];exact hsz hde)
    simp only [twoE,exC_eq,Ex.kind,Ex.name,Ex.over,Ex.kids,List.map_cons,List.map_nil] at hH
    refine caW_pure hH ?_
    (try simp only [rwp,hwR,zA,zB,zC,zD,zE,zF,zG,zH,zI,C_ref11_Reader_two_1])
    (refine cnW_intro (fun hg=>?_) (fun hg=>?_)<;>(try simp only [hlc] at hg))
    · refine (c_fail t 9).ca hS0 ?_
      refine fin _ (failP t 9 r) (by rw [objAt_ne (Ne.symm hne)];exact objAt_eq) (fun x hx=>?_) ?_
      · rw [sget_supd,sget_supd,sget_supd,if_neg hx]
      · rw [twoR,if_pos ⟨hde,by simp only [twoE];omega⟩]
    · refine fin _ r objAt_eq (fun x hx=>by rw [sget_supd,if_neg hx,supd_self h]) ?_
      rw [twoR,if_neg (fun h=>by have:=h.2;simp only [twoE] at this;omega)]
end Go.HL
set_option linter.unusedVariables false
set_option linter.unusedSimpArgs false
namespace Go.HL
open Nat renaming reduceAdd→zA,reduceLeDiff→zB,reduceLT→zC,reduceSub→zD,reduceMul→zE,reduceEqDiff→zF,reduceBEq→zG
open Int renaming reduceAdd→zH,reduceToNat→zI
def zeroE:Ex:=.mk 0 ⟨#[]⟩ ⟨#[]⟩ []
def sLP:ByteArray:=⟨#[40]⟩
def sRP:ByteArray:=⟨#[41]⟩
def sDot:ByteArray:=⟨#[46]⟩
def atomP (T:List Tk) (ex:Rd→Ex×Rd) (r:Rd):Ex×Rd:=
  if isP T sLP r then
    (if 12<r.op+1 then (zeroE,failP (nxP T r) 9 { isR T sLP r with op:=r.op+1 })
    else ((ex { isR T sLP r with op:=r.op+1 }).1,{ mustR T sRP (ex { isR T sLP r with op:=r.op+1 }).2 with op:=(mustR T sRP (ex { isR T sLP r with op:=r.op+1 }).2).op-1 }))
  else if isP T sDot (nameR T r) then (.mk 1 (nameP T r) (nameP T (isR T sDot (nameR T r))) [],nameR T (isR T sDot (nameR T r)))
  else (.mk 0 (nameP T r) ⟨#[]⟩ [],nameR T r)
def opL (T:List Tk) (tk:ByteArray→Option Int) (sub:Rd→Ex×Rd):Nat→Ex×Rd→Ex×Rd
  | 0,p=>p
  | f+1,(e,r)=>if r.de=0 then (match tk (nxP T r).s with
      | some k=>opL T tk sub f (twoE k e (sub { r with at':=r.at'+1 }).1,twoR k (nxP T r) e (sub { r with at':=r.at'+1 }).1 (sub { r with at':=r.at'+1 }).2)
      | none=>(e,r)) else (e,r)
def termK (s:ByteArray):Option Int:=if s=⟨#[38]⟩ then some 3 else none
def exprK (s:ByteArray):Option Int:=if s=⟨#[43]⟩ then some 2 else if s=⟨#[45]⟩ then some 4 else none
def termP (T:List Tk) (ex:Rd→Ex×Rd) (r:Rd):Ex×Rd:=opL T termK (atomP T ex) T.length (atomP T ex r)
def exprOf (T:List Tk) (ex:Rd→Ex×Rd) (r:Rd):Ex×Rd:=opL T exprK (termP T ex) T.length (termP T ex r)
def exprP (T:List Tk):Nat→Rd→Ex×Rd
  | 0=>exprOf T fun r=>(zeroE,r)
  | n+1=>exprOf T (exprP T n)
structure Pre (T:List Tk) (n:Nat) (r:Rd):Prop where
  inr:InR T r
  op0:0≤r.op
  op13:r.op≤13
  ok:r.de=0→r.op≤12∧12≤r.op+n
structure StepR (T:List Tk) (r r':Rd) (w:Nat):Prop where
  inr:InR T r'
  mono:r.at'≤r'.at'
  fault:r'.de=0→r.de=0
  op1:r.op≤r'.op
  op2:r'.op≤13
  op:r'.de=0→r'.op=r.op
  sz:r'.de=0→w+r.at'≤r'.at'
theorem StepR.pre {T:List Tk} {r r':Rd} {n w:Nat} (h:StepR T r r' w) (hp:Pre T n r):Pre T n r':=
  ⟨h.inr,by have:=hp.op0;have:=h.op1;omega,h.op2,fun h0=>by have h1:=h.op h0;rw [h1];exact hp.ok (h.fault h0)⟩
theorem StepR.trans {T:List Tk} {r r1 r2:Rd} {w1 w2:Nat} (h:StepR T r r1 w1) (k:StepR T r1 r2 w2):StepR T r r2 (w1+w2):=
  ⟨k.inr,Nat.le_trans h.mono k.mono,fun h0=>h.fault (k.fault h0),by have:=h.op1;have:=k.op1;omega,k.op2,fun h0=>(k.op h0).trans (h.op (k.fault h0)),fun h0=>by have:=h.sz (k.fault h0);have:=k.sz h0;omega⟩
theorem StepR.le {T:List Tk} {r r1:Rd} {w w':Nat} (h:StepR T r r1 w) (hw:w'≤w):StepR T r r1 w':=
  ⟨h.inr,h.mono,h.fault,h.op1,h.op2,h.op,fun h0=>by have:=h.sz h0;omega⟩
theorem StepR.refl {T:List Tk} {r:Rd} {n:Nat} (hp:Pre T n r):StepR T r r 0:=⟨hp.inr,Nat.le_refl _,id,Int.le_refl _,hp.op13,fun _=>rfl,fun _=>by omega⟩
theorem more_in {T:List Tk} (hT:OkTk T) {r:Rd} (hr:InR T r) (h1:(nxP T r).s≠⟨#[]⟩) (h2:(nxP T r).s≠⟨#[63]⟩):r.at'+1<T.length:=by
  have hx:=nx_get hr
  unfold InR at hr
  rcases Nat.lt_or_ge (r.at'+1) T.length with h | h
  · exact h
  · have e:T.length-1=r.at':=by omega
    have:=hT.last (nxP T r) (by rw [e];exact hx)
    rcases this with h3 | h3
    · exact absurd h3 h1
    · exact absurd h3 h2
theorem adv {T:List Tk} (hT:OkTk T) {r:Rd} {n:Nat} (hp:Pre T n r) (h1:(nxP T r).s≠⟨#[]⟩) (h2:(nxP T r).s≠⟨#[63]⟩):StepR T r { r with at':=r.at'+1 } 1:=
  ⟨more_in hT hp.inr h1 h2,Nat.le_succ _,id,Int.le_refl _,hp.op13,fun _=>rfl,fun _=>by dsimp only;omega⟩
theorem fail_any {T:List Tk} {r r1:Rd} (t:Tk) {e:Int} (he:e≠0) (w':Nat) (h1:InR T r1) (h2:r.at'≤r1.at') (h3:r.op≤r1.op) (h4:r1.op≤13):StepR T r (failP t e r1) w':=by
  have hne:¬ (failP t e r1).de=0:=by
    unfold failP
    split
    · exact he
    · assumption
  have e1:(failP t e r1).at'=r1.at':=by unfold failP;split<;>rfl
  have e2:(failP t e r1).op=r1.op:=by unfold failP;split<;>rfl
  exact ⟨by unfold InR;rw [e1];exact h1,by rw [e1];exact h2,fun h0=>absurd h0 hne,by rw [e2];exact h3,by rw [e2];exact h4,fun h0=>absurd h0 hne,fun h0=>absurd h0 hne⟩
theorem fail_step {T:List Tk} {r r1:Rd} {w:Nat} (t:Tk) {e:Int} (he:e≠0) (w':Nat) (h:StepR T r r1 w):StepR T r (failP t e r1) w':=fail_any t he w' h.inr h.mono h.op1 h.op2
theorem is_true {T:List Tk} {s:ByteArray} {r:Rd} (h:isP T s r=true):r.de=0∧(nxP T r).s=s:=by
  unfold isP at h
  simpa using h
theorem is_step {T:List Tk} (hT:OkTk T) {s:ByteArray} {r:Rd} {n:Nat} (hp:Pre T n r) (h:isP T s r=true) (h1:s≠⟨#[]⟩) (h2:s≠⟨#[63]⟩):StepR T r (isR T s r) 1:=by
  obtain ⟨-,h4⟩:=is_true h
  rw [isR,if_pos h]
  exact adv hT hp (by rw [h4];exact h1) (by rw [h4];exact h2)
theorem must_step {T:List Tk} (hT:OkTk T) {s:ByteArray} {r:Rd} {n:Nat} (hp:Pre T n r) (h1:s≠⟨#[]⟩) (h2:s≠⟨#[63]⟩):StepR T r (mustR T s r) 1:=by
  unfold mustR
  cases h:isP T s r with
  | true=>rw [if_pos rfl];exact is_step hT hp h h1 h2
  | false=>rw [if_neg (by simp)];exact fail_step _ (by decide) 1 (StepR.refl hp)
theorem name_some {s:ByteArray} (h:nameB s=true):s≠⟨#[]⟩∧s≠⟨#[63]⟩:=by
  constructor
  · rintro rfl
    revert h
    decide +kernel
  · rintro rfl
    revert h
    decide +kernel
theorem name_step {T:List Tk} (hT:OkTk T) {r:Rd} {n:Nat} (hp:Pre T n r):StepR T r (nameR T r) 1:=by
  unfold nameR
  split
  · rename_i h
    obtain ⟨h1,h2⟩:=name_some h.1
    exact adv hT hp h1 h2
  · exact fail_step _ (by decide) 1 (StepR.refl hp)
theorem name_size {T:List Tk} (hT:OkTk T) {r:Rd} (hr:InR T r):(nameP T r).size≤1125899906842624:=by
  unfold nameP
  split
  · exact hT.size _ (List.mem_of_getElem? (nx_get hr))
  · exact Nat.zero_le _
theorem two_step {T:List Tk} {r r1:Rd} {w:Nat} (k:Int) (t:Tk) (a c:Ex) (h:StepR T r r1 w):StepR T r (twoR k t a c r1) w:=by
  unfold twoR
  split
  · exact fail_step _ (by decide) w h
  · exact h
structure ExSt (T:List Tk) (r:Rd) (p:Ex×Rd):Prop where
  st:StepR T r p.2 (esz p.1)
  ok:OkE p.1
theorem okE_leaf {k:Int} {n o:ByteArray} (hn:n.size≤1125899906842624) (ho:o.size≤1125899906842624):OkE (.mk k n o []):=.mk k n o [] (by simp) hn ho fun e he=>by (cases he)
theorem esz_leaf {k:Int} {n o:ByteArray}:esz (.mk k n o [])=1:=by simp [esz,eszL]
def Inner (T:List Tk) (n:Nat) (ex:Rd→Ex×Rd):Prop:=∀ m,n=m+1→∀ r,Pre T m r→ExSt T r (ex r)
theorem lp_pre {T:List Tk} (hT:OkTk T) {n:Nat} {r:Rd} (hp:Pre T n r) (h:isP T sLP r=true) (h12:¬ 12<r.op+1):∃ m,n=m+1∧Pre T m { isR T sLP r with op:=r.op+1 }:=by
  obtain ⟨h1,h2⟩:=is_true h
  obtain ⟨k1,k2⟩:=hp.ok h1
  have hs:=is_step hT hp h (by decide +kernel) (by decide +kernel)
  refine ⟨n-1,by omega,hs.inr,?_,?_,fun _=>?_⟩
  · have:=hp.op0;dsimp only;omega
  · dsimp only;omega
  · dsimp only;omega
theorem atom_ok {T:List Tk} (hT:OkTk T) {n:Nat} {ex:Rd→Ex×Rd} (hex:Inner T n ex) {r:Rd} (hp:Pre T n r):ExSt T r (atomP T ex r):=by
  unfold atomP
  split
  · rename_i h
    have hs:=is_step hT hp h (by decide +kernel) (by decide +kernel)
    obtain ⟨h1,h2⟩:=is_true h
    split
    · rename_i h12
      have h5:r.op=12:=by have:=(hp.ok h1).1;omega
      refine ⟨?_,okE_leaf (Nat.zero_le _) (Nat.zero_le _)⟩
      exact fail_any _ (by decide) _ hs.inr hs.mono (by dsimp only;omega) (by dsimp only;omega)
    · rename_i h12
      obtain ⟨m,hm,hp2⟩:=lp_pre hT hp h h12
      have he:=hex m hm _ hp2
      generalize ex { isR T sLP r with op:=r.op+1 }=q at he
      obtain ⟨e,r3⟩:=q
      have hp3:=he.st.pre hp2
      have hm2:=must_step hT hp3 (s:=sRP) (by decide +kernel) (by decide +kernel)
      have h6:=he.st.trans hm2
      dsimp only at h6 ⊢
      refine ⟨⟨h6.inr,?_,fun h0=>?_,?_,?_,fun h0=>?_,fun h0=>?_⟩,he.ok⟩
      · have:=hs.mono;have:=h6.mono;dsimp only at *;omega
      · exact hs.fault (h6.fault h0)
      · have:=h6.op1;dsimp only at *;omega
      · have:=h6.op2;dsimp only at *;omega
      · have:=h6.op h0;dsimp only at *;omega
      · have h7:=h6.sz h0
        have h8:=hs.mono
        dsimp only at *;omega
  · have hn:=name_step hT hp
    have hpn:=hn.pre hp
    split
    · rename_i h
      have h1:=is_step hT hpn h (by decide +kernel) (by decide +kernel)
      have hp1:=h1.pre hpn
      have h2:=name_step hT hp1
      refine ⟨?_,okE_leaf (name_size hT hp.inr) (name_size hT hp1.inr)⟩
      rw [esz_leaf]
      exact ((hn.trans h1).trans h2).le (by omega)
    · refine ⟨?_,okE_leaf (name_size hT hp.inr) (Nat.zero_le _)⟩
      rw [esz_leaf]
      exact hn
def Signs (tk:ByteArray→Option Int):Prop:=tk ⟨#[]⟩=none∧tk ⟨#[63]⟩=none
theorem opL_ok {T:List Tk} (hT:OkTk T) {n:Nat} {tk:ByteArray→Option Int} (htk:Signs tk) {sub:Rd→Ex×Rd} (hsub:∀ r,Pre T n r→ExSt T r (sub r)) {r0:Rd} (hp0:Pre T n r0):∀ {f:Nat} {p:Ex×Rd},ExSt T r0 p→ExSt T r0 (opL T tk sub f p)
  | 0,p,h=>h
  | f+1,(e,r),h=>by
    unfold opL
    split
    · rename_i h0
      split
      · rename_i k hk
        have hp:=h.st.pre hp0
        have ha:=adv hT hp (fun h1=>by rw [h1,htk.1] at hk;cases hk) (fun h1=>by rw [h1,htk.2] at hk;cases hk)
        have hs:=hsub _ (ha.pre hp)
        refine opL_ok hT htk hsub hp0 ⟨two_step _ _ _ _ ?_,twoE_ok h.ok hs.ok⟩
        have hst:=h.st
        have hss:=hs.st
        dsimp only at hst ha hss ⊢
        rw [twoE_sz]
        exact ((hst.trans ha).trans hss).le (by omega)
      · exact h
    · exact h
theorem signs_term:Signs termK:=⟨by decide +kernel,by decide +kernel⟩
theorem signs_expr:Signs exprK:=⟨by decide +kernel,by decide +kernel⟩
theorem term_ok {T:List Tk} (hT:OkTk T) {n:Nat} {ex:Rd→Ex×Rd} (hex:Inner T n ex) {r:Rd} (hp:Pre T n r):ExSt T r (termP T ex r):=opL_ok hT signs_term (fun _ h=>atom_ok hT hex h) hp (atom_ok hT hex hp)
theorem exprOf_ok {T:List Tk} (hT:OkTk T) {n:Nat} {ex:Rd→Ex×Rd} (hex:Inner T n ex) {r:Rd} (hp:Pre T n r):ExSt T r (exprOf T ex r):=opL_ok hT signs_expr (fun _ h=>term_ok hT hex h) hp (term_ok hT hex hp)
theorem expr_ok {T:List Tk} (hT:OkTk T):∀ {n:Nat} {r:Rd},Pre T n r→ExSt T r (exprP T n r)
  | 0,r,hp=>exprOf_ok hT (fun m h=>by omega) hp
  | n+1,r,hp=>exprOf_ok hT (fun m h r hr=>by
    have:n=m:=by omega
    subst this
    exact expr_ok hT hr) hp
end Go.HL
set_option linter.unusedVariables false
set_option linter.unusedSimpArgs false
set_option maxRecDepth 4000
namespace Go.HL
open Nat renaming reduceAdd→zA,reduceLeDiff→zB,reduceLT→zC,reduceSub→zD,reduceMul→zE,reduceEqDiff→zF,reduceBEq→zG
open Int renaming reduceAdd→zH,reduceToNat→zI
theorem sub_both {S S1:Store} (h:Sub S S1) (b:Nat) (o:AObj):Sub (supd S b o) (supd S1 b o):=by
  intro x y hx
  rw [sget_supd] at hx ⊢
  split
  · rename_i hb;rw [if_pos hb] at hx;exact hx
  · rename_i hb;rw [if_neg hb] at hx;exact h x y hx
theorem sub_cell {S:Store} {b b2:Nat} {o x y:AObj} (hb2:sget S b2=none) (hne:b2≠b):Sub (supd S b o) (supd (supd (supd S b2 x) b o) b2 y):=
  Sub.supd (by rw [sget_supd,if_neg (Ne.symm hne)];exact hb2) (sub_both (Sub.fresh x hb2) b o)
theorem rd_lit {T:List Tk} {a:Nat} {o x y z:Int}:(AObj.cells 145 [.sl 3 (T.map tkC),.int .i64 a,.int .i64 o,.int .i64 x,.int .i64 y,.int .i64 z] 6)=rdO T ⟨a,o,x,y,z⟩:=rfl
abbrev c41:AObj:=.cells 51 [.int .i64 0,.str ⟨#[]⟩,.str ⟨#[]⟩,.nils] 4
def InnerW (T:List Tk) (n b:Nat) (ex:Rd→Ex×Rd):Prop:=∀ m,n=m+1→∀ r,Pre T m r→AFunR nr_ref11_Reader_expr b [] T r (.agg (exC (ex r).1)) (ex r).2
theorem c_atom {T:List Tk} (hT:OkTk T) {n b:Nat} {ex:Rd→Ex×Rd} (hex:Inner T n ex) (hexW:InnerW T n b ex) {r:Rd} (hp:Pre T n r):AFunR nr_ref11_Reader_atom b [] T r (.agg (exC (atomP T ex r).1)) (atomP T ex r).2:=by
  intro S h
  have hl:=hT.len
  have hr':r.at'<T.length:=hp.inr
  have h0:=hp.op0
  have h13:=hp.op13
  refine w_ref11_Reader_atom ?_
  unfold B_ref11_Reader_atom
  intro b2 hb2
  have hne:b2≠b:=sget_ne hb2 h
  have hS0:sget (supd S b2 c41) b=some (rdO T r):=by rw [sget_supd,if_neg hne];exact h
  refine (c_next hT hp.inr).ca hS0 ?_
  rw [supd_self hS0]
  (try simp only [rwp,hwR,zA,zB,zC,zD,zE,zF,zG,zH,zI,tkC])
  refine (c_is hT hp.inr sLP).ca hS0 ?_
  have fin:∀ (k:Int) (s o:ByteArray) (v:AV) (e:Ex) (r':Rd),e=.mk k s o e.kids→atomP T ex r=(e,r')→(v=.nils∧e.kids=[]∨v=.sl 4 (e.kids.map exC)) →
      rtW [.cell (.ptr b2 0) 4 true] (fun ae S'=>ae=.ret (.agg (exC (atomP T ex r).1))∧S'=supd S b (rdO T (atomP T ex r).2)) (supd (supd (supd S b2 c41) b (rdO T r')) b2 (.cells 51 [.int .i64 k,.str s,.str o,v] 4)):=by
    intro k s o v e r' he0 he hv
    rw [he]
    refine rtW_fr (supd S b (rdO T r')) (.agg (exC e)) (sub_cell hb2 hne) ?_ ⟨rfl,rfl⟩
    rw [he0,exC_eq]
    (try simp only [rwp,hwR,zA,zB,zC,zD,zE,zF,zG,zH,zI])
    refine .ag (.cons (.same _) (.cons (.same _) (.cons (.same _) (.cons ?_ .nil))))
    rcases hv with ⟨rfl,h2⟩ | rfl
    · rw [Ex.kids,h2];exact .nils 4
    · exact .same _
  have hob:∀ o,objAt (supd (supd S b2 c41) b o) b2=some (51,[.int .i64 0,.str ⟨#[]⟩,.str ⟨#[]⟩,.nils],4):=fun o=>by rw [objAt_ne (Ne.symm hne)];exact objAt_eq
  cases hi:isP T sLP r with
  | true=>
    have hs:=is_step hT hp hi (by decide +kernel) (by decide +kernel)
    have hir:isR T sLP r={ r with at':=r.at'+1 }:=by rw [isR,if_pos hi]
    (try simp only [rwp,hwR,zA,zB,zC,zD,zE,zF,zG,zH,zI,cellsAt_of (rd_at rd_new),rd_at rd_new,hir])
    rw [hwrap64 (by omega) (by omega)]
    simp only [rd_lit]
    (refine cnW_intro (fun h12=>?_) (fun h12=>?_)<;>(try simp only [hlc] at h12))
    · refine (c_fail (nxP T r) 9).ca rd_new ?_
      (try simp only [rwp,hwR,zA,zB,zC,zD,zE,zF,zG,zH,zI,hob])
      refine fin 0 _ _ _ zeroE _ rfl ?_ (.inl ⟨rfl,rfl⟩)
      rw [atomP,if_pos hi,if_pos h12,hir]
    · obtain ⟨m,hm,hp2⟩:=lp_pre hT hp hi h12
      have he:=hex m hm _ hp2
      rw [hir] at hp2 he
      refine (hexW m hm _ hp2).ca rd_new ?_
      have hat:atomP T ex r=((ex { r with at':=r.at'+1,op:=r.op+1 }).1,{ mustR T sRP (ex { r with at':=r.at'+1,op:=r.op+1 }).2 with op:=(mustR T sRP (ex { r with at':=r.at'+1,op:=r.op+1 }).2).op-1 }):=by
        rw [atomP,if_pos hi,if_neg h12,hir]
      generalize ex { r with at':=r.at'+1,op:=r.op+1 }=q at he hat
      obtain ⟨e,r3⟩:=q
      have hp3:=he.st.pre hp2
      have hm2:=must_step hT hp3 (s:=sRP) (by decide +kernel) (by decide +kernel)
      have hp4:=hm2.pre hp3
      have o1:=hp4.op0
      have o2:=hp4.op13
      dsimp only at o1 o2
      (try simp only [rwp,hwR,zA,zB,zC,zD,zE,zF,zG,zH,zI,exC_eq])
      refine (c_must hT hp3.inr sRP).ca rd_new ?_
      (try simp only [rwp,hwR,zA,zB,zC,zD,zE,zF,zG,zH,zI,cellsAt_of (rd_at rd_new),rd_at rd_new])
      rw [hwrap64 (by omega) (by omega)]
      simp only [rd_lit]
      (try simp only [rwp,hwR,zA,zB,zC,zD,zE,zF,zG,zH,zI,hob,if_neg (Ne.symm hne)])
      have hf:=fin e.kind e.name e.over _ e _ (by cases e;rfl) hat (.inr rfl)
      simp only [exC_eq] at hf
      exact hf
  | false=>
    rw [isR_no hi]
    have hn:=name_step hT hp
    have hpn:=hn.pre hp
    (try simp only [rwp,hwR,zA,zB,zC,zD,zE,zF,zG,zH,zI])
    refine (c_name hT hp.inr).ca rd_new ?_
    (try simp only [rwp,hwR,zA,zB,zC,zD,zE,zF,zG,zH,zI])
    refine (c_is hT hpn.inr sDot).ca rd_new ?_
    cases hd:isP T sDot (nameR T r) with
    | true=>
      have h1:=is_step hT hpn hd (by decide +kernel) (by decide +kernel)
      have hp1:=h1.pre hpn
      (try simp only [rwp,hwR,zA,zB,zC,zD,zE,zF,zG,zH,zI])
      refine (c_name hT hp1.inr).ca rd_new ?_
      (try simp only [rwp,hwR,zA,zB,zC,zD,zE,zF,zG,zH,zI,hob])
      refine fin _ _ _ _ (.mk 1 (nameP T r) (nameP T (isR T sDot (nameR T r))) []) _ rfl ?_ (.inl ⟨rfl,rfl⟩)
      rw [atomP,if_neg (by rw [hi];simp),if_pos hd]
    | false=>
      rw [isR_no hd]
      (try simp only [rwp,hwR,zA,zB,zC,zD,zE,zF,zG,zH,zI,hob])
      refine fin _ _ _ _ (.mk 0 (nameP T r) ⟨#[]⟩ []) _ rfl ?_ (.inl ⟨rfl,rfl⟩)
      rw [atomP,if_neg (by rw [hi];simp),if_neg (by rw [hd];simp)]
theorem opL_stop {T:List Tk} {tk:ByteArray→Option Int} {sub:Rd→Ex×Rd} {f:Nat} {p:Ex×Rd} (h:¬ (p.2.de=0∧(tk (nxP T p.2).s).isSome=true)):opL T tk sub f p=p:=by
  cases f with
  | zero=>rfl
  | succ f=>
    obtain ⟨e,r⟩:=p
    unfold opL
    split
    · rename_i h0
      split
      · rename_i k hk
        exact absurd ⟨h0,by rw [hk];rfl⟩ h
      · rfl
    · rfl
theorem opL_more {T:List Tk} (hT:OkTk T) {n:Nat} {tk:ByteArray→Option Int} (htk:Signs tk) {sub:Rd→Ex×Rd} (hsub:∀ r,Pre T n r→ExSt T r (sub r)):∀ {f g:Nat} {p:Ex×Rd},Pre T n p.2→T.length≤f+p.2.at'→T.length≤g+p.2.at'→opL T tk sub f p=opL T tk sub g p
  | 0,g,p,hp,h1,h2=>by have h3:p.2.at'<T.length:=hp.inr;omega
  | f+1,0,p,hp,h1,h2=>by have h3:p.2.at'<T.length:=hp.inr;omega
  | f+1,g+1,(e,r),hp,h1,h2=>by
    dsimp only at h1 h2
    unfold opL
    split
    · rename_i h0
      split
      · rename_i k hk
        have ha:=adv hT hp (fun h1=>by rw [h1,htk.1] at hk;cases hk) (fun h1=>by rw [h1,htk.2] at hk;cases hk)
        have hs:=hsub _ (ha.pre hp)
        have h5:=two_step k (nxP T r) e (sub { r with at':=r.at'+1 }).1 hs.st
        have h6:=h5.mono
        dsimp only at h6 hp
        exact opL_more hT htk hsub (h5.pre (ha.pre hp)) (by dsimp only;omega) (by dsimp only;omega)
      · rfl
    · rfl
structure TrI (S:Store) (b b2 b3:Nat) (T:List Tk) (p:Ex×Rd) (S':Store):Prop where
  rd:sget S' b=some (rdO T p.2)
  c3:sget S' b3=some (.cells 51 (exC p.1) 4)
  c2:sget S' b2=some c41
  oth:∀ x,b≠x→b3≠x→b2≠x→sget S' x=sget S x
theorem TrI.step {S S':Store} {b b2 b3:Nat} {T:List Tk} {p:Ex×Rd} (h:TrI S b b2 b3 T p S') (n1:b2≠b) (n2:b3≠b) (n3:b3≠b2) (e:Ex) (r':Rd):TrI S b b2 b3 T (e,r') (supd (supd S' b (rdO T r')) b3 (.cells 51 (exC e) 4)):=
  ⟨by rw [sget_supd,if_neg n2,sget_supd,if_pos rfl],by rw [sget_supd,if_pos rfl],by rw [sget_supd,if_neg n3,sget_supd,if_neg (Ne.symm n1)];exact h.c2,fun x h1 h2 h3=>by rw [sget_supd,if_neg h2,sget_supd,if_neg h1];exact h.oth x h1 h2 h3⟩
theorem TrI.sub {S S':Store} {b b2 b3:Nat} {T:List Tk} {p:Ex×Rd} (h:TrI S b b2 b3 T p S') (n1:b2≠b) (n2:b3≠b) (n3:b3≠b2) (k2:sget S b2=none) (k3:sget S b3=none) (o:AObj):Sub (supd S b (rdO T p.2)) (sdel (supd S' b2 o) b2):=by
  intro x y hx
  have h2:b2≠x:=by
    rintro rfl
    rw [sget_supd,if_neg (Ne.symm n1),k2] at hx;cases hx
  have h3:b3≠x:=by
    rintro rfl
    rw [sget_supd,if_neg (Ne.symm n2),k3] at hx;cases hx
  rw [sget_sdel,if_neg h2,sget_supd,if_neg h2]
  rw [sget_supd] at hx
  by_cases hb:b=x
  · subst hb;rw [if_pos rfl] at hx;rw [h.rd];exact hx
  · rw [if_neg hb] at hx;rw [h.oth x hb h3 h2];exact hx
theorem c_term {T:List Tk} (hT:OkTk T) {n b:Nat} {ex:Rd→Ex×Rd} (hex:Inner T n ex) (hexW:InnerW T n b ex) {r:Rd} (hp:Pre T n r):AFunR nr_ref11_Reader_term b [] T r (.agg (exC (termP T ex r).1)) (termP T ex r).2:=by
  intro S h
  have hl:=hT.len
  refine w_ref11_Reader_term ?_
  unfold B_ref11_Reader_term
  intro b2 hb2
  have n1:b2≠b:=sget_ne hb2 h
  have hS0:sget (supd S b2 c41) b=some (rdO T r):=by rw [sget_supd,if_neg n1];exact h
  (try simp only [rwp,hwR,zA,zB,zC,zD,zE,zF,zG,zH,zI])
  refine (c_atom hT hex hexW hp).ca hS0 ?_
  intro b3 hb3
  have n2:b3≠b:=sget_ne hb3 rd_new
  have n3:b3≠b2:=sget_ne hb3 (x:=c41) (by rw [sget_supd,if_neg (Ne.symm n1),sget_supd,if_pos rfl])
  have k3:sget S b3=none:=by rw [sget_supd,if_neg (Ne.symm n2),sget_supd,if_neg (Ne.symm n3)] at hb3;exact hb3
  have hI0:TrI S b b2 b3 T (atomP T ex r) (supd (supd (supd S b2 c41) b (rdO T (atomP T ex r).2)) b3 (.cells 51 (exC (atomP T ex r).1) 4)):=
    ⟨by rw [sget_supd,if_neg n2,sget_supd,if_pos rfl],by rw [sget_supd,if_pos rfl],by rw [sget_supd,if_neg n3,sget_supd,if_neg (Ne.symm n1),sget_supd,if_pos rfl],fun x h1 h2 h3=>by rw [sget_supd,if_neg h2,sget_supd,if_neg h1,sget_supd,if_neg h3]⟩
  have hat:=atom_ok hT hex hp
  have hfin:opL T termK (atomP T ex) T.length (atomP T ex r)=termP T ex r:=rfl
  simp only [exC_eq] at hI0
  (try simp only [rwp,hwR,zA,zB,zC,zD,zE,zF,zG,zH,zI,exC_eq,ones_cons])
  rw [← exC_eq]
  simp only [← exC_eq] at hI0
  generalize atomP T ex r=p0 at hI0 hat hfin
  refine LoopP.introS (fun _:Ex×Rd=>[(0,.ptr b 0),(2,.ptr b2 0),(3,.ptr b3 0)])
    (fun p S'=>TrI S b b2 b3 T p S'∧ExSt T r p∧opL T termK (atomP T ex) T.length p=termP T ex r) (fun p=>T.length-p.2.at') p0 ⟨by simpa only [exC_eq] using hI0,hat,hfin⟩ rfl ?_
  clear hI0 hat hfin
  rintro ⟨e,r1⟩ S1 ⟨hI,hE,hf⟩ q hq
  have hp1:=hE.st.pre hp
  have hin:r1.at'<T.length:=hp1.inr
  have ho:=rd_at hI.rd
  (try simp only [rwp,hwR,zA,zB,zC,zD,zE,zF,zG,zH,zI,C_ref11_Reader_term_1,cellsAt_of ho])
  have stop:¬ (r1.de=0∧(termK (nxP T r1).s).isSome=true)→C_ref11_Reader_term_2 (fun ae S'=>ae=.ret (.agg (exC (termP T ex r).1))∧S'=supd S b (rdO T (termP T ex r).2)) q (.ptr b 0) (.ptr b2 0) (.ptr b3 0) (.bool false) S1:=fun hn=>by
    rw [opL_stop hn] at hf
    rw [← hf]
    unfold C_ref11_Reader_term_2
    have hsub:=hI.sub n1 n2 n3 hb2 k3
    have hc3:=objAt_some.2 hI.c3
    have hc2:=objAt_some.2 hI.c2
    simp only [exC_eq] at hc3
    (try simp only [rwp,hwR,zA,zB,zC,zD,zE,zF,zG,zH,zI,cellsAt_of hc3,hc2,exC_eq,ones_cons])
    refine rtW_go _ (hsub _) ?_
    (try simp only [rwp,hwR,zA,zB,zC,zD,zE,zF,zG,zH,zI,exC_eq])
  cases a1:decide (r1.de=0) with
  | false=>
    (try simp only [rwp,hwR,zA,zB,zC,zD,zE,zF,zG,zH,zI])
    exact stop fun h=>by rw [decide_eq_true h.1] at a1;cases a1
  | true=>
    have hde:r1.de=0:=of_decide_eq_true a1
    (try simp only [rwp,hwR,zA,zB,zC,zD,zE,zF,zG,zH,zI])
    refine (c_next hT hp1.inr).ca hI.rd ?_
    rw [supd_self hI.rd]
    (try simp only [rwp,hwR,zA,zB,zC,zD,zE,zF,zG,zH,zI,tkC])
    cases a2:decide ((nxP T r1).s=⟨#[38]⟩) with
    | false=>
      (try simp only [rwp,hwR,zA,zB,zC,zD,zE,zF,zG,zH,zI])
      exact stop fun h=>by
        have:=of_decide_eq_false a2
        rw [termK,if_neg this] at h
        cases h.2
    | true=>
      have hk:termK (nxP T r1).s=some 3:=by rw [termK,if_pos (of_decide_eq_true a2)]
      have ha:=adv hT hp1 (fun h1=>by rw [h1] at hk;revert hk;decide +kernel) (fun h1=>by rw [h1] at hk;revert hk;decide +kernel)
      have hpa:=ha.pre hp1
      have hs:=atom_ok hT hex hpa
      have hps:=hs.st.pre hpa
      have hfu:opL T termK (atomP T ex) T.length (twoE 3 e (atomP T ex { r1 with at':=r1.at'+1 }).1,twoR 3 (nxP T r1) e (atomP T ex { r1 with at':=r1.at'+1 }).1 (atomP T ex { r1 with at':=r1.at'+1 }).2)=termP T ex r:=by
        rw [← hf]
        obtain ⟨m,hm⟩:∃ m,T.length=m+1:=⟨T.length-1,by omega⟩
        have h5:=two_step 3 (nxP T r1) e (atomP T ex { r1 with at':=r1.at'+1 }).1 hs.st
        have h6:=h5.mono
        dsimp only at h6
        conv=>rhs;rw [hm,opL,if_pos hde]
        simp only [hk]
        exact opL_more hT signs_term (fun _ h=>atom_ok hT hex h) (h5.pre hpa) (by dsimp only;omega) (by dsimp only;omega)
      have hE2:ExSt T r (twoE 3 e (atomP T ex { r1 with at':=r1.at'+1 }).1,twoR 3 (nxP T r1) e (atomP T ex { r1 with at':=r1.at'+1 }).1 (atomP T ex { r1 with at':=r1.at'+1 }).2):=by
        refine ⟨two_step _ _ _ _ ?_,twoE_ok hE.ok hs.ok⟩
        have hst:=hE.st
        have hss:=hs.st
        dsimp only at hst ha hss ⊢
        rw [twoE_sz]
        exact ((hst.trans ha).trans hss).le (by omega)
      have hmu:r1.at'+1≤(twoR 3 (nxP T r1) e (atomP T ex { r1 with at':=r1.at'+1 }).1 (atomP T ex { r1 with at':=r1.at'+1 }).2).at':=(two_step 3 (nxP T r1) e _ hs.st).mono
      (try simp only [rwp,hwR,zA,zB,zC,zD,zE,zF,zG,zH,zI,C_ref11_Reader_term_2])
      refine (c_next hT hp1.inr).ca hI.rd ?_
      rw [supd_self hI.rd]
      (try simp only [rwp,hwR,zA,zB,zC,zD,zE,zF,zG,zH,zI,tkC,cellsAt_of ho,ho])
      (simp (disch:=omega) only [hwrap64])
      rw [show ((r1.at':Int)+1)=((r1.at'+1:Nat):Int) from rfl]
      simp only [rd_lit]
      refine (c_atom hT hex hexW hpa).ca rd_new ?_
      generalize atomP T ex { r1 with at':=r1.at'+1 }=p2 at hs hps hfu hE2 hmu
      obtain ⟨c,r2⟩:=p2
      have hbd:r2.de=0→esz e+esz c+1≤1125899906842624:=fun h0=>by
        have h7:=hs.st.sz h0
        have h8:=hE.st.sz (ha.fault (hs.st.fault h0))
        have h9:r2.at'<T.length:=hps.inr
        dsimp only at h7 h8
        omega
      have htwo:=c_two (T:=T) (r:=r2) (b:=b) 3 (nxP T r1) hE.ok hs.ok hbd
      dsimp only at htwo hfu hE2 hmu
      have c3:∀ r',objAt (supd S1 b (rdO T r')) b3=some (51,exC e,4):=fun r'=>by rw [objAt_ne (Ne.symm n2)];exact objAt_some.2 hI.c3
      have st:=hI.step n1 n2 n3 (twoE 3 e c) (twoR 3 (nxP T r1) e c r2)
      simp only [exC_eq] at c3 st
      (try simp only [rwp,hwR,zA,zB,zC,zD,zE,zF,zG,zH,zI,exC_eq,cellsAt_of (c3 r2)])
      simp only [← exC_eq]
      refine htwo.ca rd_new ?_
      generalize twoE 3 e c=e3 at hfu hE2 st ⊢
      generalize twoR 3 (nxP T r1) e c r2=r3 at hfu hE2 st c3 hmu ⊢
      (try simp only [rwp,hwR,zA,zB,zC,zD,zE,zF,zG,zH,zI,exC_eq,c3 r3,ones_cons])
      exact rcW_as rfl (hq (e3,r3) _ ⟨by simpa only [exC_eq] using st,hE2,hfu⟩ (by dsimp only;omega))
end Go.HL
set_option linter.unusedVariables false
set_option linter.unusedSimpArgs false
set_option maxRecDepth 4000
namespace Go.HL
open Nat renaming reduceAdd→zA,reduceLeDiff→zB,reduceLT→zC,reduceSub→zD,reduceMul→zE,reduceEqDiff→zF,reduceBEq→zG
open Int renaming reduceAdd→zH,reduceToNat→zI
theorem c_exprOf {T:List Tk} (hT:OkTk T) {n b:Nat} {ex:Rd→Ex×Rd} (hex:Inner T n ex) (hexW:InnerW T n b ex) {r:Rd} (hp:Pre T n r):AFunR nr_ref11_Reader_expr b [] T r (.agg (exC (exprOf T ex r).1)) (exprOf T ex r).2:=by
  intro S h
  have hl:=hT.len
  refine w_ref11_Reader_expr ?_
  unfold B_ref11_Reader_expr
  intro b2 hb2
  have n1:b2≠b:=sget_ne hb2 h
  have hS0:sget (supd S b2 c41) b=some (rdO T r):=by rw [sget_supd,if_neg n1];exact h
  (try simp only [rwp,hwR,zA,zB,zC,zD,zE,zF,zG,zH,zI])
  refine (c_term hT hex hexW hp).ca hS0 ?_
  intro b3 hb3
  have n2:b3≠b:=sget_ne hb3 rd_new
  have n3:b3≠b2:=sget_ne hb3 (x:=c41) (by rw [sget_supd,if_neg (Ne.symm n1),sget_supd,if_pos rfl])
  have k3:sget S b3=none:=by rw [sget_supd,if_neg (Ne.symm n2),sget_supd,if_neg (Ne.symm n3)] at hb3;exact hb3
  have hI0:TrI S b b2 b3 T (termP T ex r) (supd (supd (supd S b2 c41) b (rdO T (termP T ex r).2)) b3 (.cells 51 (exC (termP T ex r).1) 4)):=
    ⟨by rw [sget_supd,if_neg n2,sget_supd,if_pos rfl],by rw [sget_supd,if_pos rfl],by rw [sget_supd,if_neg n3,sget_supd,if_neg (Ne.symm n1),sget_supd,if_pos rfl],fun x h1 h2 h3=>by rw [sget_supd,if_neg h2,sget_supd,if_neg h1,sget_supd,if_neg h3]⟩
  have hat:=term_ok hT hex hp
  have hfin:opL T exprK (termP T ex) T.length (termP T ex r)=exprOf T ex r:=rfl
  simp only [exC_eq] at hI0
  (try simp only [rwp,hwR,zA,zB,zC,zD,zE,zF,zG,zH,zI,exC_eq,ones_cons])
  rw [← exC_eq]
  simp only [← exC_eq] at hI0
  generalize termP T ex r=p0 at hI0 hat hfin
  refine LoopP.introS (fun _:Ex×Rd=>[(0,.ptr b 0),(2,.ptr b2 0),(3,.ptr b3 0)])
    (fun p S'=>TrI S b b2 b3 T p S'∧ExSt T r p∧opL T exprK (termP T ex) T.length p=exprOf T ex r) (fun p=>T.length-p.2.at') p0 ⟨by simpa only [exC_eq] using hI0,hat,hfin⟩ rfl ?_
  clear hI0 hat hfin
  rintro ⟨e,r1⟩ S1 ⟨hI,hE,hf⟩ q hq
  have hp1:=hE.st.pre hp
  have hin:r1.at'<T.length:=hp1.inr
  have ho:=rd_at hI.rd
  (try simp only [rwp,hwR,zA,zB,zC,zD,zE,zF,zG,zH,zI,C_ref11_Reader_expr_1,cellsAt_of ho])
  have stop:¬ (r1.de=0∧(exprK (nxP T r1).s).isSome=true)→C_ref11_Reader_expr_4 (fun ae S'=>ae=.ret (.agg (exC (exprOf T ex r).1))∧S'=supd S b (rdO T (exprOf T ex r).2)) q (.ptr b 0) (.ptr b2 0) (.ptr b3 0) (.bool false) S1:=fun hn=>by
    rw [opL_stop hn] at hf
    rw [← hf]
    unfold C_ref11_Reader_expr_4
    have hsub:=hI.sub n1 n2 n3 hb2 k3
    have hc3:=objAt_some.2 hI.c3
    have hc2:=objAt_some.2 hI.c2
    simp only [exC_eq] at hc3
    (try simp only [rwp,hwR,zA,zB,zC,zD,zE,zF,zG,zH,zI,cellsAt_of hc3,hc2,exC_eq,ones_cons])
    refine rtW_go _ (hsub _) ?_
    (try simp only [rwp,hwR,zA,zB,zC,zD,zE,zF,zG,zH,zI,exC_eq])
  cases a1:decide (r1.de=0) with
  | false=>
    (try simp only [rwp,hwR,zA,zB,zC,zD,zE,zF,zG,zH,zI,C_ref11_Reader_expr_2,C_ref11_Reader_expr_3])
    exact stop fun h=>by rw [decide_eq_true h.1] at a1;cases a1
  | true=>
    have hde:r1.de=0:=of_decide_eq_true a1
    (try simp only [rwp,hwR,zA,zB,zC,zD,zE,zF,zG,zH,zI])
    refine (c_next hT hp1.inr).ca hI.rd ?_
    rw [supd_self hI.rd]
    (try simp only [rwp,hwR,zA,zB,zC,zD,zE,zF,zG,zH,zI,tkC])
    have low:∀ k:Int,exprK (nxP T r1).s=some k→C_ref11_Reader_expr_5 (fun ae S'=>ae=.ret (.agg (exC (exprOf T ex r).1))∧S'=supd S b (rdO T (exprOf T ex r).2)) q (.ptr b 0) (.ptr b2 0) (.ptr b3 0) (.rop (tkC (nxP T r1))) (.int .i64 k) S1:=by
      intro k hk
      have ha:=adv hT hp1 (fun h1=>by rw [h1,signs_expr.1] at hk;cases hk) (fun h1=>by rw [h1,signs_expr.2] at hk;cases hk)
      have hpa:=ha.pre hp1
      have hs:=term_ok hT hex hpa
      have hps:=hs.st.pre hpa
      have hfu:opL T exprK (termP T ex) T.length (twoE k e (termP T ex { r1 with at':=r1.at'+1 }).1,twoR k (nxP T r1) e (termP T ex { r1 with at':=r1.at'+1 }).1 (termP T ex { r1 with at':=r1.at'+1 }).2)=exprOf T ex r:=by
        rw [← hf]
        obtain ⟨m,hm⟩:∃ m,T.length=m+1:=⟨T.length-1,by omega⟩
        have h5:=two_step k (nxP T r1) e (termP T ex { r1 with at':=r1.at'+1 }).1 hs.st
        have h6:=h5.mono
        dsimp only at h6
        conv=>rhs;rw [hm,opL,if_pos hde]
        simp only [hk]
        exact opL_more hT signs_expr (fun _ h=>term_ok hT hex h) (h5.pre hpa) (by dsimp only;omega) (by dsimp only;omega)
      have hE2:ExSt T r (twoE k e (termP T ex { r1 with at':=r1.at'+1 }).1,twoR k (nxP T r1) e (termP T ex { r1 with at':=r1.at'+1 }).1 (termP T ex { r1 with at':=r1.at'+1 }).2):=by
        refine ⟨two_step _ _ _ _ ?_,twoE_ok hE.ok hs.ok⟩
        have hst:=hE.st
        have hss:=hs.st
        dsimp only at hst ha hss ⊢
        rw [twoE_sz]
        exact ((hst.trans ha).trans hss).le (by omega)
      have hmu:r1.at'+1≤(twoR k (nxP T r1) e (termP T ex { r1 with at':=r1.at'+1 }).1 (termP T ex { r1 with at':=r1.at'+1 }).2).at':=(two_step k (nxP T r1) e _ hs.st).mono
      unfold C_ref11_Reader_expr_5
      (try simp only [rwp,hwR,zA,zB,zC,zD,zE,zF,zG,zH,zI,tkC,cellsAt_of ho,ho])
      (simp (disch:=omega) only [hwrap64])
      rw [show ((r1.at':Int)+1)=((r1.at'+1:Nat):Int) from rfl]
      simp only [rd_lit]
      refine (c_term hT hex hexW hpa).ca rd_new ?_
      generalize termP T ex { r1 with at':=r1.at'+1 }=p2 at hs hps hfu hE2 hmu
      obtain ⟨c,r2⟩:=p2
      have hbd:r2.de=0→esz e+esz c+1≤1125899906842624:=fun h0=>by
        have h7:=hs.st.sz h0
        have h8:=hE.st.sz (ha.fault (hs.st.fault h0))
        have h9:r2.at'<T.length:=hps.inr
        dsimp only at h7 h8
        omega
      have htwo:=c_two (T:=T) (r:=r2) (b:=b) k (nxP T r1) hE.ok hs.ok hbd
      dsimp only at htwo hfu hE2 hmu
      have c3:∀ r',objAt (supd S1 b (rdO T r')) b3=some (51,exC e,4):=fun r'=>by rw [objAt_ne (Ne.symm n2)];exact objAt_some.2 hI.c3
      have st:=hI.step n1 n2 n3 (twoE k e c) (twoR k (nxP T r1) e c r2)
      simp only [exC_eq] at c3 st
      (try simp only [rwp,hwR,zA,zB,zC,zD,zE,zF,zG,zH,zI,exC_eq,cellsAt_of (c3 r2)])
      simp only [← exC_eq]
      refine htwo.ca rd_new ?_
      generalize twoE k e c=e3 at hfu hE2 st ⊢
      generalize twoR k (nxP T r1) e c r2=r3 at hfu hE2 st c3 hmu ⊢
      (try simp only [rwp,hwR,zA,zB,zC,zD,zE,zF,zG,zH,zI,exC_eq,c3 r3,ones_cons])
      exact rcW_as rfl (hq (e3,r3) _ ⟨by simpa only [exC_eq] using st,hE2,hfu⟩ (by dsimp only;omega))
    simp only [tkC] at low
    cases a2:decide ((nxP T r1).s=⟨#[43]⟩) with
    | true=>
      have e2:=of_decide_eq_true a2
      have hk:exprK (nxP T r1).s=some 2:=by rw [exprK,if_pos e2]
      have e3:decide ((nxP T r1).s=⟨#[45]⟩)=false:=by rw [e2];decide +kernel
      (try simp only [rwp,hwR,zA,zB,zC,zD,zE,zF,zG,zH,zI,C_ref11_Reader_expr_2,C_ref11_Reader_expr_3,C_ref11_Reader_expr_4])
      refine (c_next hT hp1.inr).ca hI.rd ?_
      rw [supd_self hI.rd]
      (try simp only [rwp,hwR,zA,zB,zC,zD,zE,zF,zG,zH,zI,tkC,e3])
      exact low 2 hk
    | false=>
      (try simp only [rwp,hwR,zA,zB,zC,zD,zE,zF,zG,zH,zI,C_ref11_Reader_expr_2])
      refine (c_next hT hp1.inr).ca hI.rd ?_
      rw [supd_self hI.rd]
      (try simp only [rwp,hwR,zA,zB,zC,zD,zE,zF,zG,zH,zI,tkC])
      cases a3:decide ((nxP T r1).s=⟨#[45]⟩) with
      | true=>
        have hk:exprK (nxP T r1).s=some 4:=by rw [exprK,if_neg (of_decide_eq_false a2),if_pos (of_decide_eq_true a3)]
        (try simp only [rwp,hwR,zA,zB,zC,zD,zE,zF,zG,zH,zI,C_ref11_Reader_expr_3,C_ref11_Reader_expr_4])
        refine (c_next hT hp1.inr).ca hI.rd ?_
        rw [supd_self hI.rd]
        (try simp only [rwp,hwR,zA,zB,zC,zD,zE,zF,zG,zH,zI,tkC,a3])
        exact low 4 hk
      | false=>
        (try simp only [rwp,hwR,zA,zB,zC,zD,zE,zF,zG,zH,zI,C_ref11_Reader_expr_3])
        exact stop fun h=>by
          have h1:=of_decide_eq_false a2
          have h2:=of_decide_eq_false a3
          rw [exprK,if_neg h1,if_neg h2] at h
          cases h.2
theorem c_expr {T:List Tk} (hT:OkTk T) {b:Nat}:∀ {n:Nat} {r:Rd},Pre T n r→AFunR nr_ref11_Reader_expr b [] T r (.agg (exC (exprP T n r).1)) (exprP T n r).2
  | 0,r,hp=>c_exprOf hT (fun m h=>by omega) (fun m h=>by omega) hp
  | n+1,r,hp=>c_exprOf hT (fun m h r hr=>by
      have:n=m:=by omega
      subst this
      exact expr_ok hT hr) (fun m h r hr=>by
      have:n=m:=by omega
      subst this
      exact c_expr hT hr) hp
end Go.HL
set_option linter.unusedVariables false
set_option linter.unusedSimpArgs false
namespace Go.HL
open Nat renaming reduceAdd→zA,reduceLeDiff→zB,reduceLT→zC,reduceSub→zD,reduceMul→zE,reduceEqDiff→zF,reduceBEq→zG
open Int renaming reduceAdd→zH,reduceToNat→zI
def sHash:ByteArray:=⟨#[35]⟩
def sBar:ByteArray:=⟨#[124]⟩
def sColon:ByteArray:=⟨#[58]⟩
def refP (T:List Tk) (r:Rd):Rf×Rd:=
  if isP T sHash (nameR T r) then (⟨nameP T r,nameP T (isR T sHash (nameR T r))⟩,nameR T (isR T sHash (nameR T r)))
  else (⟨nameP T r,⟨#[]⟩⟩,nameR T r)
def refsL (T:List Tk):Nat→List Rf×Rd→List Rf×Rd
  | 0,p=>p
  | f+1,(l,r)=>if isP T sBar r then refsL T f (l++[(refP T (isR T sBar r)).1],(refP T (isR T sBar r)).2) else (l,r)
def relP (T:List Tk) (r:Rd):(Rl×Bool)×Rd:=
  if isP T wRelation r then
    ((⟨nameP T (isR T wRelation r),(refsL T T.length ([(refP T (mustR T sColon (nameR T (isR T wRelation r)))).1],(refP T (mustR T sColon (nameR T (isR T wRelation r)))).2)).1,zeroE⟩,true),
      (refsL T T.length ([(refP T (mustR T sColon (nameR T (isR T wRelation r)))).1],(refP T (mustR T sColon (nameR T (isR T wRelation r)))).2)).2)
  else if isP T wDefine r then
    ((⟨nameP T (isR T wDefine r),[],(exprP T 12 (mustR T sColon (nameR T (isR T wDefine r)))).1⟩,true),(exprP T 12 (mustR T sColon (nameR T (isR T wDefine r)))).2)
  else ((⟨⟨#[]⟩,[],zeroE⟩,false),r)
def relsL (T:List Tk):Nat→List Rl×Rd→List Rl×Rd
  | 0,p=>p
  | f+1,(l,r)=>if (relP T r).1.2=true then relsL T f (l++[(relP T r).1.1],(relP T r).2) else (l,(relP T r).2)
def typesL (T:List Tk):Nat→List Ty×Rd→List Ty×Rd
  | 0,p=>p
  | f+1,(l,r)=>if isP T wType r then
      typesL T f (l++[⟨nameP T (isR T wType r),(relsL T T.length ([],nameR T (isR T wType r))).1⟩],(relsL T T.length ([],nameR T (isR T wType r))).2)
    else (l,r)
def endR (T:List Tk) (r:Rd):Rd:=if r.de=0∧¬ (nxP T r).s=⟨#[]⟩ then failP (nxP T r) 8 r else r
def rd0:Rd:=⟨0,0,0,0,0⟩
def parseT (T:List Tk):List Ty×AV:=
  if (endR T (typesL T T.length ([],rd0)).2).de=0 then ((typesL T T.length ([],rd0)).1,.agg [.int .i64 0,.int .i64 0,.int .i64 0])
  else ([],.agg [.int .i64 (endR T (typesL T T.length ([],rd0)).2).dl,.int .i64 (endR T (typesL T T.length ([],rd0)).2).dc,.int .i64 (endR T (typesL T T.length ([],rd0)).2).de])
theorem ref_step {T:List Tk} (hT:OkTk T) {r:Rd} {n:Nat} (hp:Pre T n r):StepR T r (refP T r).2 1∧OkF (refP T r).1:=by
  have hn:=name_step hT hp
  have hpn:=hn.pre hp
  unfold refP
  split
  · rename_i h
    have h1:=is_step hT hpn h (by decide +kernel) (by decide +kernel)
    have hp1:=h1.pre hpn
    have h2:=name_step hT hp1
    exact ⟨((hn.trans h1).trans h2).le (by omega),name_size hT hp.inr,name_size hT hp1.inr⟩
  · exact ⟨hn,name_size hT hp.inr,Nat.zero_le _⟩
structure RfSt (T:List Tk) (r:Rd) (p:List Rf×Rd):Prop where
  st:StepR T r p.2 p.1.length
  len:p.1.length≤p.2.at'+1
  ok:∀ f∈p.1,OkF f
theorem refs_next {T:List Tk} (hT:OkTk T) {n:Nat} {r0 r:Rd} (hp0:Pre T n r0) {l:List Rf} (h:RfSt T r0 (l,r)) (hi:isP T sBar r=true) :
    RfSt T r0 (l++[(refP T (isR T sBar r)).1],(refP T (isR T sBar r)).2)∧r.at'+1≤(refP T (isR T sBar r)).2.at':=by
  have hp:=h.st.pre hp0
  have h1:=is_step hT hp hi (by decide +kernel) (by decide +kernel)
  obtain ⟨h2,h3⟩:=ref_step hT (h1.pre hp)
  have e1:(isR T sBar r).at'=r.at'+1:=by rw [isR,if_pos hi]
  have h4:=h2.mono
  have h5:=h.len
  dsimp only at h4 h5 e1 h2
  refine ⟨⟨?_,?_,fun f hf=>?_⟩,by omega⟩
  · have h6:=(h.st.trans h1).trans h2
    exact h6.le (by simp)
  · simp only [List.length_append,List.length_cons,List.length_nil]
    omega
  · rcases List.mem_append.1 hf with hf | hf
    · exact h.ok f hf
    · rw [List.mem_singleton.1 hf];exact h3
theorem refsL_ok {T:List Tk} (hT:OkTk T) {n:Nat} {r0:Rd} (hp0:Pre T n r0):∀ {f:Nat} {p:List Rf×Rd},RfSt T r0 p→RfSt T r0 (refsL T f p)
  | 0,p,h=>h
  | f+1,(l,r),h=>by
    unfold refsL
    split
    · rename_i hi
      exact refsL_ok hT hp0 (refs_next hT hp0 h hi).1
    · exact h
theorem refsL_more {T:List Tk} (hT:OkTk T) {n:Nat} {r0:Rd} (hp0:Pre T n r0):∀ {f g:Nat} {p:List Rf×Rd},RfSt T r0 p→T.length≤f+p.2.at'→T.length≤g+p.2.at'→refsL T f p=refsL T g p
  | 0,g,p,h,h1,h2=>by have h3:p.2.at'<T.length:=h.st.inr;omega
  | f+1,0,p,h,h1,h2=>by have h3:p.2.at'<T.length:=h.st.inr;omega
  | f+1,g+1,(l,r),h,h1,h2=>by
    dsimp only at h1 h2
    unfold refsL
    split
    · rename_i hi
      obtain ⟨k1,k2⟩:=refs_next hT hp0 h hi
      exact refsL_more hT hp0 k1 (by dsimp only;omega) (by dsimp only;omega)
    · rfl
theorem rel_ok {T:List Tk} (hT:OkTk T) {r:Rd} (hp:Pre T 12 r):StepR T r (relP T r).2 (if (relP T r).1.2 then rsz (relP T r).1.1 else 0)∧OkR (relP T r).1.1∧((relP T r).1.2=true→r.at'+1≤(relP T r).2.at'):=by
  unfold relP
  split
  · rename_i hi
    have h1:=is_step hT hp hi (by decide +kernel) (by decide +kernel)
    have hp1:=h1.pre hp
    have h2:=name_step hT hp1
    have hp2:=h2.pre hp1
    have h3:=must_step hT hp2 (s:=sColon) (by decide +kernel) (by decide +kernel)
    have hp3:=h3.pre hp2
    obtain ⟨h4,h5⟩:=ref_step hT hp3
    have hR0:RfSt T (mustR T sColon (nameR T (isR T wRelation r))) ([(refP T (mustR T sColon (nameR T (isR T wRelation r)))).1],(refP T (mustR T sColon (nameR T (isR T wRelation r)))).2):=
      ⟨h4,by simp,fun f hf=>by rw [List.mem_singleton.1 hf];exact h5⟩
    have hR:=refsL_ok hT hp3 (f:=T.length) hR0
    generalize refsL T T.length ([(refP T (mustR T sColon (nameR T (isR T wRelation r)))).1],(refP T (mustR T sColon (nameR T (isR T wRelation r)))).2)=p at hR
    obtain ⟨l,r'⟩:=p
    have hl:=hR.len
    have hin:r'.at'<T.length:=hR.st.inr
    have hTl:=hT.len
    have e1:(isR T wRelation r).at'=r.at'+1:=by rw [isR,if_pos hi]
    refine ⟨?_,⟨name_size hT hp1.inr,?_,hR.ok,okE_leaf (Nat.zero_le _) (Nat.zero_le _)⟩,fun _=>?_⟩
    · have h6:=((h1.trans h2).trans h3).trans hR.st
      refine h6.le ?_
      simp only [if_true,rsz,zeroE,esz_leaf]
      omega
    · dsimp only at hl ⊢;omega
    · have:=h2.mono;have:=h3.mono;have:=hR.st.mono;dsimp only at *;omega
  · split
    · rename_i hi
      have h1:=is_step hT hp hi (by decide +kernel) (by decide +kernel)
      have hp1:=h1.pre hp
      have h2:=name_step hT hp1
      have hp2:=h2.pre hp1
      have h3:=must_step hT hp2 (s:=sColon) (by decide +kernel) (by decide +kernel)
      have hp3:=h3.pre hp2
      have h4:=expr_ok hT hp3
      have e1:(isR T wDefine r).at'=r.at'+1:=by rw [isR,if_pos hi]
      refine ⟨?_,⟨name_size hT hp1.inr,by simp,fun f hf=>(by cases hf),h4.ok⟩,fun _=>?_⟩
      · have h6:=((h1.trans h2).trans h3).trans h4.st
        refine h6.le ?_
        simp only [if_true,rsz,List.length_nil]
        omega
      · have:=h2.mono;have:=h3.mono;have:=h4.st.mono;dsimp only at *;omega
    · exact ⟨StepR.refl hp,⟨Nat.zero_le _,by simp,fun f hf=>(by cases hf),okE_leaf (Nat.zero_le _) (Nat.zero_le _)⟩,fun h=>by cases h⟩
end Go.HL
set_option linter.unusedVariables false
set_option linter.unusedSimpArgs false
set_option maxRecDepth 4000
namespace Go.HL
open Nat renaming reduceAdd→zA,reduceLeDiff→zB,reduceLT→zC,reduceSub→zD,reduceMul→zE,reduceEqDiff→zF,reduceBEq→zG
open Int renaming reduceAdd→zH,reduceToNat→zI
abbrev c53:AObj:=.cells 171 [.str ⟨#[]⟩,.str ⟨#[]⟩] 2
abbrev c43:AObj:=.cells 53 [.str ⟨#[]⟩,.nils,.int .i64 0,.str ⟨#[]⟩,.str ⟨#[]⟩,.nils] 6
theorem c_ref {T:List Tk} (hT:OkTk T) {n b:Nat} {r:Rd} (hp:Pre T n r):AFunR nr_ref11_Reader_ref b [] T r (.agg (rfC (refP T r).1)) (refP T r).2:=by
  intro S h
  refine w_ref11_Reader_ref ?_
  unfold B_ref11_Reader_ref
  intro b2 hb2
  have n1:b2≠b:=sget_ne hb2 h
  have hS0:sget (supd S b2 c53) b=some (rdO T r):=by rw [sget_supd,if_neg n1];exact h
  have hn:=name_step hT hp
  have hpn:=hn.pre hp
  (try simp only [rwp,hwR,zA,zB,zC,zD,zE,zF,zG,zH,zI])
  refine (c_name hT hp.inr).ca hS0 ?_
  (try simp only [rwp,hwR,zA,zB,zC,zD,zE,zF,zG,zH,zI])
  intro b3 hb3
  have n2:b3≠b:=sget_ne hb3 rd_new
  have n3:b3≠b2:=sget_ne hb3 (x:=c53) (by rw [sget_supd,if_neg (Ne.symm n1),sget_supd,if_pos rfl])
  have k3:sget S b3=none:=by rw [sget_supd,if_neg (Ne.symm n2),sget_supd,if_neg (Ne.symm n3)] at hb3;exact hb3
  (try simp only [rwp,hwR,zA,zB,zC,zD,zE,zF,zG,zH,zI])
  have hrd:∀ o,sget (supd (supd (supd S b2 c53) b (rdO T (nameR T r))) b3 o) b=some (rdO T (nameR T r)):=fun o=>by rw [sget_supd,if_neg n2,sget_supd,if_pos rfl]
  refine (c_is hT hpn.inr sHash).ca (hrd _) ?_
  have fin:∀ (f:Rf) (r':Rd) (S2:Store),refP T r=(f,r')→objAt S2 b3=some (171,rfC f,2)→objAt S2 b2=some (171,[.str ⟨#[]⟩,.str ⟨#[]⟩],2)→(∀ x,b2≠x→b3≠x→sget S2 x=sget (supd S b (rdO T r')) x) →
      C_ref11_Reader_ref_1 (fun ae S'=>ae=.ret (.agg (rfC (refP T r).1))∧S'=supd S b (rdO T (refP T r).2)) (.ptr b2 0) (.ptr b3 0) S2:=by
    intro f r' S2 he h3 h2 hS2
    rw [he]
    unfold C_ref11_Reader_ref_1
    have hsub:∀ o,Sub (supd S b (rdO T r')) (sdel (supd S2 b2 o) b2):=fun o x y hx=>by
      have e2:b2≠x:=by rintro rfl;rw [sget_supd,if_neg (Ne.symm n1),hb2] at hx;cases hx
      have e3:b3≠x:=by rintro rfl;rw [sget_supd,if_neg (Ne.symm n2),k3] at hx;cases hx
      rw [sget_sdel,if_neg e2,sget_supd,if_neg e2,hS2 x e2 e3]
      exact hx
    simp only [rfC] at h3
    (try simp only [rwp,hwR,zA,zB,zC,zD,zE,zF,zG,zH,zI,cellsAt_of h3,h2])
    refine rtW_go _ (hsub _) ?_
    (try simp only [rwp,hwR,zA,zB,zC,zD,zE,zF,zG,zH,zI,rfC])
  cases hi:isP T sHash (nameR T r) with
  | true=>
    have h1:=is_step hT hpn hi (by decide +kernel) (by decide +kernel)
    have hp1:=h1.pre hpn
    (try simp only [rwp,hwR,zA,zB,zC,zD,zE,zF,zG,zH,zI])
    refine (c_name hT hp1.inr).ca rd_new ?_
    have ob3:∀ X cs o,objAt (supd (supd X b3 (.cells 171 cs 2)) b o) b3=some (171,cs,2):=fun X cs o=>by rw [objAt_ne (Ne.symm n2)];exact objAt_eq
    (try simp only [rwp,hwR,zA,zB,zC,zD,zE,zF,zG,zH,zI,ob3])
    refine fin ⟨nameP T r,nameP T (isR T sHash (nameR T r))⟩ (nameR T (isR T sHash (nameR T r))) _ ?_ objAt_eq ?_ fun x e2 e3=>?_
    · rw [refP,if_pos hi]
    · rw [objAt_ne n3,objAt_ne (Ne.symm n1),objAt_ne n3,objAt_ne (Ne.symm n1)];exact objAt_eq
    · simp only [sget_supd,if_neg e2,if_neg e3]
      by_cases hb:b=x
      · subst hb;simp
      · simp [hb]
  | false=>
    rw [isR_no hi]
    (try simp only [rwp,hwR,zA,zB,zC,zD,zE,zF,zG,zH,zI])
    refine fin ⟨nameP T r,⟨#[]⟩⟩ (nameR T r) _ ?_ ?_ ?_ fun x e2 e3=>?_
    · rw [refP,if_neg (by rw [hi];simp)]
    · rw [objAt_ne (Ne.symm n2)];exact objAt_eq
    · rw [objAt_ne (Ne.symm n1),objAt_ne n3,objAt_ne (Ne.symm n1)];exact objAt_eq
    · simp only [sget_supd,if_neg e2,if_neg e3]
      by_cases hb:b=x
      · subst hb;simp
      · simp [hb]
structure RlI (S:Store) (b b2 b4:Nat) (T:List Tk) (name:ByteArray) (p:List Rf×Rd) (S':Store):Prop where
  rd:sget S' b=some (rdO T p.2)
  c2:sget S' b2=some c43
  c4:∃ v,sget S' b4=some (.cells 53 [.str name,v,.int .i64 0,.str ⟨#[]⟩,.str ⟨#[]⟩,.nils] 6)∧LstN (sdel S b) S' 171 2 v (p.1.map rfC)∧Aside v b∧Aside v b2∧Aside v b4
  sub:Sub (sdel S b) S'
theorem LstN.base2 {S S':Store} {b t sz:Nat} {v:AV} {rows:List (List AV)} {o:AObj} (h:LstN (sdel S b) S' t sz v rows) (ha:Aside v b):LstN (supd S b o) S' t sz v rows:=by
  obtain ⟨hr,h⟩:=h
  refine ⟨hr,?_⟩
  rcases h with h | ⟨c,cap,rfl,h1,h2⟩
  · exact .inl h
  · refine .inr ⟨c,cap,rfl,?_,h2⟩
    have:=ha c 0 _ _ rfl
    rw [sget_sdel,if_neg this] at h1
    rw [sget_supd,if_neg this]
    exact h1
theorem aside_nils {c:Nat}:Aside .nils c:=fun b off n cap h=>by cases h
theorem kpW_one {S S':Store} {Y:Prop} {b off:Nat} (h:sget S' b=sget S b) (hY:Y):kpW [.ptr b off] S S' Y:=by
  refine ⟨fun v hv c hc=>?_,hY⟩
  rw [List.mem_singleton] at hv
  subst hv
  simp [blk] at hc
  subst hc
  exact h
theorem RlI.more {S S1:Store} {b b2 b4:Nat} {T:List Tk} {name:ByteArray} {l:List Rf} {r r2:Rd} (h:RlI S b b2 b4 T name (l,r) S1) (n1:b2≠b) (n2:b4≠b) (n3:b4≠b2) (k2:sget S b2=none) (k4:sget S b4=none) (hlen:l.length≤100000) (f:Rf) {v:AV} (hv:sget S1 b4=some (.cells 53 [.str name,v,.int .i64 0,.str ⟨#[]⟩,.str ⟨#[]⟩,.nils] 6)) {K:Store→Prop} (hK:∀ S3,RlI S b b2 b4 T name (l++[f],r2) S3→K S3) :
    apW (supd S1 b (rdO T r2)) 171 2 32 v (.sl 2 [[.str f.ty,.str f.rl]]) fun v' S2=>soW (objAt S2 b4) S2 1 b4 1 v' K:=by
  obtain ⟨hrd,hc2,⟨v0,hv0,hl,a1,a2,a4⟩,hsub⟩:=h
  rw [hv] at hv0
  cases hv0
  dsimp only at hl hrd
  have hb0:sget (sdel S b) b=none:=by rw [sget_sdel,if_pos rfl]
  have hb4:sget (sdel S b) b4=none:=by rw [sget_sdel,if_neg (Ne.symm n2)];exact k4
  refine (hl.upd a1 (rdO T r2)).app (hsub.supd hb0) (xs:=[[.str f.ty,.str f.rl]]) (fun r hr=>by rw [List.mem_singleton] at hr;subst hr;rfl) rfl (by simp;omega) ?_
  intro v' S2 h1 h2 h3
  obtain ⟨q1,q2⟩:=h3 b (rdO T r2) (by rw [sget_supd,if_pos rfl]) a1
  obtain ⟨q3,q4⟩:=h3 b4 _ (by rw [sget_supd,if_neg (Ne.symm n2)];exact hv) a4
  obtain ⟨q5,q6⟩:=h3 b2 _ (by rw [sget_supd,if_neg (Ne.symm n1)];exact hc2) a2
  rw [objAt_some.2 q3,soW_some]
  have hone:=h2.one
  have hac:aCells v'=[v']:=by cases v'<;>first | rfl | cases hone
  rw [hac]
  refine ⟨rfl,by simp,by simp [ones,hone],hK _ ⟨?_,?_,⟨v',?_,?_,q2,q6,q4⟩,?_⟩⟩
  · rw [sget_supd,if_neg n2];exact q1
  · rw [sget_supd,if_neg n3];exact q5
  · rw [sget_supd,if_pos rfl];rfl
  · simpa [rfC] using h2.upd q4 _
  · exact h1.supd hb4
theorem sub_del {S:Store} {b:Nat} {T:List Tk} {S2:Store} {r':Rd} {b2:Nat} {o:AObj} (h:Sub (sdel S b) S2) (hb:sget S2 b=some (rdO T r')) (k2:sget S b2=none) (n1:b2≠b):Sub (supd S b (rdO T r')) (supd S2 b2 o):=by
  intro x y hx
  have e2:b2≠x:=by rintro rfl;rw [sget_supd,if_neg (Ne.symm n1),k2] at hx;cases hx
  rw [sget_supd,if_neg e2]
  rw [sget_supd] at hx
  by_cases hbx:b=x
  · subst hbx;rw [if_pos rfl] at hx;rw [hb];exact hx
  · rw [if_neg hbx] at hx
    exact h x y (by rw [sget_sdel,if_neg hbx];exact hx)
theorem c_rel {T:List Tk} (hT:OkTk T) {b:Nat} {r:Rd} (hp:Pre T 12 r):AFunR nr_ref11_Reader_rel b [] T r (.tup [.agg (rlC (relP T r).1.1),.bool (relP T r).1.2]) (relP T r).2:=by
  intro S h
  have hTl:=hT.len
  refine w_ref11_Reader_rel ?_
  unfold B_ref11_Reader_rel
  intro b2 hb2
  have n1:b2≠b:=sget_ne hb2 h
  (try simp only [rwp,hwR,zA,zB,zC,zD,zE,zF,zG,zH,zI])
  intro b4 hb4
  have n2:b4≠b:=sget_ne hb4 (x:=rdO T r) (by rw [sget_supd,if_neg n1];exact h)
  have n3:b4≠b2:=sget_ne hb4 (x:=c43) (by rw [sget_supd,if_pos rfl])
  have k4:sget S b4=none:=by rw [sget_supd,if_neg (Ne.symm n3)] at hb4;exact hb4
  have m1:=Ne.symm n1
  have m2:=Ne.symm n2
  have m3:=Ne.symm n3
  (try simp only [rwp,hwR,zA,zB,zC,zD,zE,zF,zG,zH,zI])
  have fin:∀ (x:Rl) (ok:Bool) (r':Rd) (S2:Store) (n:ByteArray) (v:AV) (k:Int) (a o:ByteArray) (w:AV),relP T r=((x,ok),r')→sget S2 b=some (rdO T r')→Sub (sdel S b) S2 →
      Frs (supd S b (rdO T r')) (supd S2 b2 (.cells 53 [.str n,v,.int .i64 k,.str a,.str o,w] 6)) [.str n,v,.int .i64 k,.str a,.str o,w] (rlC x) →
      rtW [.cell (.ptr b2 0) 6 true,.tmp (.bool ok)] (fun ae S'=>ae=.ret (.tup [.agg (rlC (relP T r).1.1),.bool (relP T r).1.2])∧S'=supd S b (rdO T (relP T r).2)) (supd S2 b2 (.cells 53 [.str n,v,.int .i64 k,.str a,.str o,w] 6)):=by
    intro x ok r' S2 n v k a o w he hb hsub hfr
    rw [he]
    refine rtW_fr (supd S b (rdO T r')) (.tup [.agg (rlC x),.bool ok]) (sub_del hsub hb hb2 n1) ?_ ⟨rfl,rfl⟩
    (try simp only [rwp,hwR,zA,zB,zC,zD,zE,zF,zG,zH,zI])
    exact .tu (.cons (.ag hfr) (.cons (.same _) .nil))
  have hS0:sget (supd (supd S b2 c43) b4 c43) b=some (rdO T r):=by rw [sget_supd,if_neg n2,sget_supd,if_neg n1];exact h
  have hsub0:Sub (sdel S b) (supd (supd S b2 c43) b4 c43):=by
    intro x y hx
    have hbx:b≠x:=by rintro rfl;rw [sget_sdel,if_pos rfl] at hx;cases hx
    rw [sget_sdel,if_neg hbx] at hx
    rw [sget_supd,if_neg (sget_ne k4 hx),sget_supd,if_neg (sget_ne hb2 hx)]
    exact hx
  refine (c_is hT hp.inr wRelation).ca hS0 ?_
  cases hi:isP T wRelation r with
  | true=>
    have h1:=is_step hT hp hi (by decide +kernel) (by decide +kernel)
    have hp1:=h1.pre hp
    have h2:=name_step hT hp1
    have hp2:=h2.pre hp1
    have h3:=must_step hT hp2 (s:=sColon) (by decide +kernel) (by decide +kernel)
    have hp3:=h3.pre hp2
    obtain ⟨h4,h5⟩:=ref_step hT hp3
    (try simp only [rwp,hwR,zA,zB,zC,zD,zE,zF,zG,zH,zI])
    refine (c_name hT hp1.inr).ca rd_new ?_
    have ob4:∀ X cs o,objAt (supd (supd X b4 (.cells 53 cs 6)) b o) b4=some (53,cs,6):=fun X cs o=>by rw [objAt_ne m2];exact objAt_eq
    (try simp only [rwp,hwR,zA,zB,zC,zD,zE,zF,zG,zH,zI,ob4])
    have hrd:∀ X cs r',sget (supd (supd X b (rdO T r')) b4 (.cells 53 cs 6)) b=some (rdO T r'):=fun X cs r'=>by rw [sget_supd,if_neg n2];exact rd_new
    refine (c_must hT hp2.inr sColon).ca (hrd _ _ _) ?_
    (try simp only [rwp,hwR,zA,zB,zC,zD,zE,zF,zG,zH,zI,cellsAt_of (ob4 _ _ _)])
    refine (c_ref hT hp3).ca rd_new ?_
    refine kpW_one (by rw [sget_supd,if_neg m2]) ?_
    refine ⟨⟨rfl,rfl⟩,?_⟩
    have hI0:RlI S b b2 b4 T (nameP T (isR T wRelation r)) ([],mustR T sColon (nameR T (isR T wRelation r)))
        (supd (supd (supd (supd (supd S b2 c43) b4 c43) b (rdO T (nameR T (isR T wRelation r)))) b4 (.cells 53 [.str (nameP T (isR T wRelation r)),.nils,.int .i64 0,.str ⟨#[]⟩,.str ⟨#[]⟩,.nils] 6)) b (rdO T (mustR T sColon (nameR T (isR T wRelation r))))):=by
      refine ⟨rd_new,?_,⟨.nils,?_,.nil,aside_nils,aside_nils,aside_nils⟩,?_⟩
      · simp [sget_supd,m1,m2,m3,n1,n2,n3]
      · simp [sget_supd,m1,m2,m3,n1,n2,n3]
      · have hb0:sget (sdel S b) b=none:=by rw [sget_sdel,if_pos rfl]
        have hb4':sget (sdel S b) b4=none:=by rw [sget_sdel,if_neg m2];exact k4
        exact ((hsub0.supd hb0).supd hb4').supd hb0
    have hrel:relP T r=((⟨nameP T (isR T wRelation r),(refsL T T.length ([(refP T (mustR T sColon (nameR T (isR T wRelation r)))).1],(refP T (mustR T sColon (nameR T (isR T wRelation r)))).2)).1,zeroE⟩,true),(refsL T T.length ([(refP T (mustR T sColon (nameR T (isR T wRelation r)))).1],(refP T (mustR T sColon (nameR T (isR T wRelation r)))).2)).2):=by
      rw [relP,if_pos hi]
    refine hI0.more n1 n2 n3 hb2 k4 (by simp) (refP T (mustR T sColon (nameR T (isR T wRelation r)))).1 (r2:=(refP T (mustR T sColon (nameR T (isR T wRelation r)))).2) (v:=.nils) ?_ ?_
    · rw [sget_supd,if_neg m2,sget_supd,if_pos rfl]
    clear hI0
    intro S3 hI
    generalize nameP T (isR T wRelation r)=nm at hI hrel
    have hR0:RfSt T (mustR T sColon (nameR T (isR T wRelation r))) ([(refP T (mustR T sColon (nameR T (isR T wRelation r)))).1],(refP T (mustR T sColon (nameR T (isR T wRelation r)))).2):=
      ⟨h4,by simp,fun f hf=>by rw [List.mem_singleton.1 hf];exact h5⟩
    generalize mustR T sColon (nameR T (isR T wRelation r))=r3 at hI hrel hp3 hR0
    rw [List.nil_append] at hI
    generalize ([(refP T r3).1],(refP T r3).2)=p0 at hI hrel hR0
    refine LoopP.introS (fun _:List Rf×Rd=>[(0,.ptr b 0),(2,.ptr b2 0),(4,.ptr b4 0)])
      (fun p S'=>RlI S b b2 b4 T nm p S'∧RfSt T r3 p∧refsL T T.length p=refsL T T.length p0) (fun p=>T.length-p.2.at') p0 ⟨hI,hR0,rfl⟩ rfl ?_
    clear hI hR0
    rintro ⟨l,r4⟩ S4 ⟨hI,hR,hf⟩ q hq
    have hp4:=hR.st.pre hp3
    have hin:r4.at'<T.length:=hp4.inr
    have hll:=hR.len
    dsimp only at hll
    have hI':=hI
    obtain ⟨krd,kc2,⟨v,kv,klst,a1,a2,a4⟩,ksub⟩:=hI'
    dsimp only at krd klst
    (try simp only [rwp,hwR,zA,zB,zC,zD,zE,zF,zG,zH,zI,C_ref11_Reader_rel_1])
    refine (c_is hT hp4.inr sBar).ca krd ?_
    cases hb:isP T sBar r4 with
    | true=>
      obtain ⟨hR2,hmu⟩:=refs_next hT hp3 hR hb
      have h6:=is_step hT hp4 hb (by decide +kernel) (by decide +kernel)
      have hp6:=h6.pre hp4
      have hob:objAt (supd S4 b (rdO T (isR T sBar r4))) b4=some (53,[.str nm,v,.int .i64 0,.str ⟨#[]⟩,.str ⟨#[]⟩,.nils],6):=by rw [objAt_ne m2];exact objAt_some.2 kv
      have hf2:refsL T T.length (l++[(refP T (isR T sBar r4)).1],(refP T (isR T sBar r4)).2)=refsL T T.length p0:=by
        rw [← hf]
        obtain ⟨m,hm⟩:∃ m,T.length=m+1:=⟨T.length-1,by omega⟩
        conv=>rhs;rw [hm,refsL,if_pos hb]
        exact refsL_more hT hp3 hR2 (by dsimp only;omega) (by dsimp only;omega)
      have hI2:RlI S b b2 b4 T nm (l,isR T sBar r4) (supd S4 b (rdO T (isR T sBar r4))):=by
        refine ⟨rd_new,by rw [sget_supd,if_neg m1];exact kc2,⟨v,by rw [sget_supd,if_neg m2];exact kv,klst.upd a1 _,a1,a2,a4⟩,ksub.supd (by rw [sget_sdel,if_pos rfl])⟩
      (try simp only [rwp,hwR,zA,zB,zC,zD,zE,zF,zG,zH,zI,cellsAt_of hob])
      refine (c_ref hT hp6).ca rd_new ?_
      refine kpW_one (by rw [sget_supd,if_neg m2]) ?_
      refine ⟨⟨rfl,rfl⟩,?_⟩
      refine hI2.more n1 n2 n3 hb2 k4 (by omega) (refP T (isR T sBar r4)).1 (r2:=(refP T (isR T sBar r4)).2) (v:=v) ?_ ?_
      · rw [sget_supd,if_neg m2];exact kv
      intro S5 hI5
      exact rcW_as rfl (hq (l++[(refP T (isR T sBar r4)).1],(refP T (isR T sBar r4)).2) S5 ⟨hI5,hR2,hf2⟩ (by dsimp only;omega))
    | false=>
      rw [isR_no hb,supd_self krd]
      have hstop:refsL T T.length (l,r4)=(l,r4):=by
        cases T.length with
        | zero=>rfl
        | succ m=>rw [refsL,if_neg (by rw [hb];simp)]
      rw [hstop] at hf
      rw [← hf] at hrel
      have ob2:=objAt_some.2 kc2
      have ob4':=objAt_some.2 kv
      have hone:=klst.one
      have hac:aCells v=[v]:=by cases v<;>first | rfl | cases hone
      (try simp only [rwp,hwR,zA,zB,zC,zD,zE,zF,zG,zH,zI,cellsAt_of ob4',ob2,ones_cons])
      refine ⟨hone,fin ⟨nm,l,zeroE⟩ true r4 S4 nm v 0 _ _ _ hrel krd ksub ?_⟩
      rw [rlC_eq]
      exact .cons (.same _) (.cons (Fr.lst ((klst.upd a2 _).base2 a1)) (.cons (.same _) (.cons (.same _) (.cons (.same _) (.cons (.nils 4) .nil)))))
  | false=>
    rw [isR_no hi,supd_self hS0]
    (try simp only [rwp,hwR,zA,zB,zC,zD,zE,zF,zG,zH,zI])
    refine (c_is hT hp.inr wDefine).ca hS0 ?_
    cases hd:isP T wDefine r with
    | true=>
      have h1:=is_step hT hp hd (by decide +kernel) (by decide +kernel)
      have hp1:=h1.pre hp
      have h2:=name_step hT hp1
      have hp2:=h2.pre hp1
      have h3:=must_step hT hp2 (s:=sColon) (by decide +kernel) (by decide +kernel)
      have hp3:=h3.pre hp2
      (try simp only [rwp,hwR,zA,zB,zC,zD,zE,zF,zG,zH,zI])
      refine (c_name hT hp1.inr).ca rd_new ?_
      have ob4:∀ X cs o,objAt (supd (supd X b4 (.cells 53 cs 6)) b o) b4=some (53,cs,6):=fun X cs o=>by rw [objAt_ne m2];exact objAt_eq
      (try simp only [rwp,hwR,zA,zB,zC,zD,zE,zF,zG,zH,zI,ob4])
      have hrd:∀ X cs r',sget (supd (supd X b (rdO T r')) b4 (.cells 53 cs 6)) b=some (rdO T r'):=fun X cs r'=>by rw [sget_supd,if_neg n2];exact rd_new
      refine (c_must hT hp2.inr sColon).ca (hrd _ _ _) ?_
      (try simp only [rwp,hwR,zA,zB,zC,zD,zE,zF,zG,zH,zI])
      refine (c_expr hT hp3).ca rd_new ?_
      have hrel:relP T r=((⟨nameP T (isR T wDefine r),[],(exprP T 12 (mustR T sColon (nameR T (isR T wDefine r)))).1⟩,true),(exprP T 12 (mustR T sColon (nameR T (isR T wDefine r)))).2):=by
        rw [relP,if_neg (by rw [hi];simp),if_pos hd]
      generalize nameP T (isR T wDefine r)=nm at hrel ⊢
      generalize exprP T 12 (mustR T sColon (nameR T (isR T wDefine r)))=pe at hrel ⊢
      obtain ⟨e,r5⟩:=pe
      dsimp only at hrel ⊢
      rw [supd_supd]
      have hb0:sget (sdel S b) b=none:=by rw [sget_sdel,if_pos rfl]
      have hb4':sget (sdel S b) b4=none:=by rw [sget_sdel,if_neg m2];exact k4
      have q1:∀ X cs,sget (supd (supd X b4 (.cells 53 cs 6)) b (rdO T r5)) b=some (rdO T r5):=fun X cs=>rd_new
      have q2:objAt (supd (supd (supd (supd (supd S b2 c43) b4 c43) b (rdO T (nameR T (isR T wDefine r)))) b4 (.cells 53 [.str nm,.nils,.int .i64 0,.str ⟨#[]⟩,.str ⟨#[]⟩,.nils] 6)) b (rdO T r5)) b4=some (53,[.str nm,.nils,.int .i64 0,.str ⟨#[]⟩,.str ⟨#[]⟩,.nils],6):=ob4 _ _ _
      have q3:objAt (supd (supd (supd (supd (supd S b2 c43) b4 c43) b (rdO T (nameR T (isR T wDefine r)))) b4 (.cells 53 [.str nm,.nils,.int .i64 0,.str ⟨#[]⟩,.str ⟨#[]⟩,.nils] 6)) b (rdO T r5)) b2=some (53,[.str ⟨#[]⟩,.nils,.int .i64 0,.str ⟨#[]⟩,.str ⟨#[]⟩,.nils],6):=by
        refine objAt_some.2 ?_
        simp [sget_supd,m1,m2,m3,n1,n2,n3]
      have q4:Sub (sdel S b) (supd (supd (supd (supd (supd S b2 c43) b4 c43) b (rdO T (nameR T (isR T wDefine r)))) b4 (.cells 53 [.str nm,.nils,.int .i64 0,.str ⟨#[]⟩,.str ⟨#[]⟩,.nils] 6)) b (rdO T r5)):=((hsub0.supd hb0).supd hb4').supd hb0
      have q1:=q1 (supd (supd (supd S b2 c43) b4 c43) b (rdO T (nameR T (isR T wDefine r)))) [.str nm,.nils,.int .i64 0,.str ⟨#[]⟩,.str ⟨#[]⟩,.nils]
      generalize supd (supd (supd (supd (supd S b2 c43) b4 c43) b (rdO T (nameR T (isR T wDefine r)))) b4 (.cells 53 [.str nm,.nils,.int .i64 0,.str ⟨#[]⟩,.str ⟨#[]⟩,.nils] 6)) b (rdO T r5)=S5 at q1 q2 q3 q4 ⊢
      (try simp only [rwp,hwR,zA,zB,zC,zD,zE,zF,zG,zH,zI,q2,q3,exC_eq,ones_cons,if_neg n3])
      refine fin ⟨nm,[],e⟩ true r5 _ nm .nils e.kind _ _ _ hrel (by rw [sget_supd,if_neg n2];exact q1) (q4.supd hb4') ?_
      rw [rlC_eq]
      exact .cons (.same _) (.cons (.nils 2) (.cons (.same _) (.cons (.same _) (.cons (.same _) (.cons (.same _) .nil)))))
    | false=>
      rw [isR_no hd,supd_self hS0]
      have hrel:relP T r=((⟨⟨#[]⟩,[],zeroE⟩,false),r):=by
        rw [relP,if_neg (by rw [hi];simp),if_neg (by rw [hd];simp)]
      (try simp only [rwp,hwR,zA,zB,zC,zD,zE,zF,zG,zH,zI,if_neg n3,if_neg m3])
      refine fin ⟨⟨#[]⟩,[],zeroE⟩ false r _ _ .nils 0 _ _ _ hrel hS0 hsub0 ?_
      rw [rlC_eq]
      exact .cons (.same _) (.cons (.nils 2) (.cons (.same _) (.cons (.same _) (.cons (.same _) (.cons (.nils 4) .nil)))))
end Go.HL
set_option linter.unusedVariables false
set_option linter.unusedSimpArgs false
set_option maxRecDepth 4000
namespace Go.HL
open Nat renaming reduceAdd→zA,reduceLeDiff→zB,reduceLT→zC,reduceSub→zD,reduceMul→zE,reduceEqDiff→zF,reduceBEq→zG
open Int renaming reduceAdd→zH,reduceToNat→zI
def bl (s:ByteArray):List UInt8:=s.data.toList
def mkB (l:List UInt8):ByteArray:=⟨l.toArray⟩
theorem mkB_bl (s:ByteArray):mkB (bl s)=s:=by cases s;rfl
theorem bl_len (s:ByteArray):(bl s).length=s.size:=by cases s;simp [bl,ByteArray.size]
theorem bl_extract (s:ByteArray) (i j:Nat):bl (s.extract i j)=((bl s).take j).drop i:=by
  unfold bl
  rw [ByteArray.data_extract,Array.toList_extract,List.extract_eq_take_drop,List.drop_take]
theorem extract_mk (s:ByteArray) (i j:Nat):s.extract i j=mkB (((bl s).take j).drop i):=by rw [← bl_extract,mkB_bl]
theorem bl_get (s:ByteArray) (i:Nat):s[i]?=(bl s)[i]?:=byte_list s i
def wordL:Nat→List UInt8→Nat
  | _,[]=>0
  | i,c :: r=>if atN i c.toNat then wordL (i+1) r+1 else 0
theorem wordL_le:∀ {l:List UInt8} {i:Nat},wordL i l≤l.length
  | [],i=>by simp [wordL]
  | c :: r,i=>by
    unfold wordL
    have:=wordL_le (l:=r) (i:=i+1)
    split
    · simp;omega
    · simp
theorem c_word {s:ByteArray} (hs:s.size≤1125899906842624):AFun PG nr_ref11_word [.str s] (.int .i64 (wordL 0 (bl s))):=by
  intro S
  refine w_ref11_word ?_
  unfold B_ref11_word
  refine LoopP.introS (fun i:Nat=>[(0,.str s),(3,.int .i64 i)]) (fun i S'=>S'=S∧i≤s.size∧wordL 0 (bl s)=i+wordL i ((bl s).drop i)) (fun i=>s.size-i) 0 ⟨rfl,by omega,by simp⟩ rfl ?_
  rintro i S' ⟨rfl,hi,hf⟩ r hr
  cases h0:decide ((i:Int)<s.size) with
  | false=>
    have hd:(bl s).drop i=[]:=List.drop_of_length_le (by rw [bl_len];have:=of_decide_eq_false h0;omega)
    rw [hd,wordL] at hf
    (try simp only [rwp,hwR,zA,zB,zC,zD,zE,zF,zG,zH,zI,C_ref11_word_1,h0,C_ref11_word_2,C_ref11_word_3,C_ref11_word_4,C_ref11_word_5,C_ref11_word_6,C_ref11_word_7,C_ref11_word_8,C_ref11_word_9,C_ref11_word_10,C_ref11_word_11])
    exact rtW_one ⟨by rw [hf];rfl,rfl⟩
  | true=>
    have hlt:=of_decide_eq_true h0
    obtain ⟨b,hb⟩:=byte_lt hlt
    have hd:=drop_cons (l:=bl s) (by rw [← bl_get];exact hb)
    rw [hd,wordL] at hf
    have ea:atN i b.toNat=((decide (97≤(b.toNat:Int))&&decide ((b.toNat:Int)≤122))||(decide (0<(i:Int))&&(decide ((b.toNat:Int)=95)||(decide (48≤(b.toNat:Int))&&decide ((b.toNat:Int)≤57))))):=by
      have:(!decide ((i:Int)=0))=decide (0<(i:Int)):=by rw [← decide_not];congr 1;exact propext (by omega)
      simp only [atN,smallN,digitN,this]
    have good:atN i b.toNat=true→r [(0,.str s),(3,.int .i64 ((i:Int)+1))] S':=fun h=>by
      rw [if_pos h] at hf
      exact hr (i+1) _ ⟨rfl,by omega,by omega⟩ (by omega)
    have bad:atN i b.toNat=false→wordL 0 (bl s)=i:=fun h=>by
      rw [if_neg (by rw [h];simp)] at hf
      exact hf
    cases h1:decide (97≤(b.toNat:Int))<;>cases h2:decide ((b.toNat:Int)≤122)<;>cases h3:decide (0<(i:Int))<;>cases h4:decide ((b.toNat:Int)=95)<;>cases h5:decide (48≤(b.toNat:Int))<;>cases h6:decide ((b.toNat:Int)≤57) <;>
      simp only [h1,h2,h3,h4,h5,h6,Bool.true_and,Bool.false_and,Bool.and_true,Bool.and_false,Bool.or_true,Bool.true_or,Bool.or_false,Bool.false_or,Bool.not_true,Bool.not_false] at ea <;>
      (try simp only [rwp,hwR,zA,zB,zC,zD,zE,zF,zG,zH,zI,C_ref11_word_1,h0,hb,C_ref11_word_2,C_ref11_word_3,C_ref11_word_4,C_ref11_word_5,C_ref11_word_6,C_ref11_word_7,C_ref11_word_8,C_ref11_word_9,C_ref11_word_10,C_ref11_word_11,h1,h2,h3,h4,h5,h6]) <;>
      first
        | exact rtW_one ⟨by rw [bad ea],rfl⟩
        | ((simp (disch:=omega) only [hwrap64]);exact rcW_as rfl (good ea))
end Go.HL
set_option linter.unusedVariables false
set_option linter.unusedSimpArgs false
set_option maxRecDepth 4000
namespace Go.HL
open Nat renaming reduceAdd→zA,reduceLeDiff→zB,reduceLT→zC,reduceSub→zD,reduceMul→zE,reduceEqDiff→zF,reduceBEq→zG
open Int renaming reduceAdd→zH,reduceToNat→zI
def signs:ByteArray:=⟨#[58,124,35,43,45,38,46,40,41]⟩
def signF (c:UInt8):ByteArray:=if c∈[58,124,35,43,45,38,46,40,(41:UInt8)] then mkB [c] else ⟨#[63]⟩
theorem signs_get {i:Nat} {c:UInt8} (h:signs[i]?=some c):c∈[58,124,35,43,45,38,46,40,(41:UInt8)]∧signs.extract i (i+1)=mkB [c]:=by
  rw [bl_get] at h
  have hm:=List.mem_of_getElem? h
  refine ⟨hm,?_⟩
  rw [extract_mk,List.drop_take,show i+1-i=1 by omega,drop_cons h]
  rfl
theorem c_sign (c:UInt8):AFun PG nr_ref11_sign [.int .u8 c.toNat] (.str (signF c)):=by
  intro S
  refine w_ref11_sign ?_
  unfold B_ref11_sign
  refine LoopP.introS (fun i:Nat=>[(0,.int .u8 c.toNat),(3,.str signs),(4,.int .i64 i)]) (fun i S'=>S'=S∧i≤9∧∀ j b,j<i→signs[j]?=some b→b≠c) (fun i=>9-i) 0 ⟨rfl,by omega,by omega⟩ rfl ?_
  rintro i S' ⟨rfl,hi,hn⟩ r hr
  have hsz:signs.size=9:=rfl
  (try simp only [rwp,hwR,zA,zB,zC,zD,zE,zF,zG,zH,zI,C_ref11_sign_1,hsz])
  (refine cnW_intro (fun hlt=>?_) (fun hlt=>?_)<;>(try simp only [hlc] at hlt))
  · obtain ⟨b,hb⟩:=byte_lt (s:=signs) (i:=i) (by rw [hsz];omega)
    obtain ⟨h1,h2⟩:=signs_get hb
    (try simp only [rwp,hwR,zA,zB,zC,zD,zE,zF,zG,zH,zI,hb])
    (refine cnW_intro (fun he=>?_) (fun he=>?_)<;>(try simp only [hlc] at he))
    · have hbc:b=c:=UInt8.toNat_inj.1 (by omega)
      subst hbc
      (simp (disch:=omega) only [hwrap64])
      (try simp only [rwp,hwR,zA,zB,zC,zD,zE,zF,zG,zH,zI,hsz])
      refine ⟨by omega,by omega,?_⟩
      rw [show ((i:Int)+1).toNat=i+1 by omega,h2]
      exact rtW_one ⟨by rw [signF,if_pos h1],rfl⟩
    · (simp (disch:=omega) only [hwrap64])
      refine rcW_as rfl (hr (i+1) _ ⟨rfl,by omega,fun j x hj hx=>?_⟩ (by omega))
      rcases Nat.lt_succ_iff_lt_or_eq.1 hj with h | rfl
      · exact hn j x h hx
      · rw [hb] at hx;cases hx
        rintro rfl
        exact he rfl
  · refine rtW_one ⟨?_,rfl⟩
    rw [signF,if_neg]
    intro hm
    obtain ⟨j,hj⟩:=List.getElem?_of_mem hm
    have h9:signs[j]?=some c:=by rw [bl_get];exact hj
    exact hn j c (by have:=byte_size h9;omega) h9 rfl
def tokL:Nat→List UInt8→Nat→Nat→List Tk
  | 0,_,_,_=>[]
  | _+1,[],line,col=>[⟨⟨#[]⟩,line,col⟩]
  | f+1,c :: r,line,col=>
    if c.toNat=32∨c.toNat=9∨c.toNat=10 then tokL f r (if c.toNat=10 then line+1 else line) (if c.toNat=10 then 1 else col+1)
    else if wordL 0 (c :: r)=0 then (if signF c=⟨#[63]⟩ then [⟨⟨#[63]⟩,line,col⟩] else ⟨signF c,line,col⟩ :: tokL f r line (col+1))
    else ⟨mkB ((c :: r).take (wordL 0 (c :: r))),line,col⟩ :: tokL f ((c :: r).drop (wordL 0 (c :: r))) line (col+wordL 0 (c :: r))
def tokT (s:ByteArray):List Tk:=tokL (s.size+1) (bl s) 1 1
theorem c_Tokens {s:ByteArray} (hs:s.size≤4096):AFun PG nr_ref11_Tokens [.str s] (.sl 3 ((tokT s).map tkC)):=by
  intro S
  refine w_ref11_Tokens ?_
  unfold B_ref11_Tokens
  refine LoopP.introS (fun p:AV×Nat×Nat×Nat=>[(0,.str s),(3,p.1),(4,.int .i64 p.2.1),(5,.int .i64 p.2.2.1),(6,.int .i64 p.2.2.2)])
    (fun p S'=>p.2.2.2≤s.size∧p.2.1≤p.2.2.2+1∧p.2.2.1≤p.2.2.2+1∧Sub S S'∧∃ (d:List Tk) (f:Nat),s.size-p.2.2.2<f∧d.length≤p.2.2.2∧LstN S S' 149 3 p.1 (d.map tkC)∧d++tokL f ((bl s).drop p.2.2.2) p.2.1 p.2.2.1=tokT s) (fun p=>s.size-p.2.2.2) (.nils,1,1,0)
    ⟨Nat.zero_le _,Nat.le_refl _,Nat.le_refl _,Sub.refl S,[],s.size+1,by dsimp only;omega,by simp,.nil,rfl⟩ rfl ?_
  rintro ⟨v,line,col,i⟩ S1 ⟨hi,hln,hcl,hs1,d,f,hf,hd,hl,ht⟩ q hq
  dsimp only at hi hln hcl hf hd hl ht
  obtain ⟨f,rfl⟩:∃ m,f=m+1:=⟨f-1,by omega⟩
  (try simp only [rwp,hwR,zA,zB,zC,zD,zE,zF,zG,zH,zI,C_ref11_Tokens_1])
  (refine cnW_intro (fun hlt=>?_) (fun hlt=>?_)<;>(try simp only [hlc] at hlt))
  · obtain ⟨c,hc⟩:=byte_lt hlt
    have hdc:=drop_cons (l:=bl s) (by rw [← bl_get];exact hc)
    rw [hdc,tokL] at ht
    (try simp only [rwp,hwR,zA,zB,zC,zD,zE,zF,zG,zH,zI,hc])
    have ws:∀ w:Bool,w=(decide (c.toNat=32∨c.toNat=9∨c.toNat=10))→C_ref11_Tokens_3 (fun ae S'=>ae=.ret (.sl 3 ((tokT s).map tkC))∧S'=S) q (.str s) v (.int .i64 line) (.int .i64 col) (.int .i64 i) (.int .u8 c.toNat) (.bool w) S1:=by
      intro w hw
      unfold C_ref11_Tokens_3
      cases w with
      | true=>
        have hw:=of_decide_eq_true hw.symm
        rw [if_pos hw] at ht
        cases a3:decide ((c.toNat:Int)=10) with
        | true=>
          have h10:c.toNat=10:=by have:=of_decide_eq_true a3;omega
          rw [if_pos h10,if_pos h10] at ht
          (try simp only [rwp,hwR,zA,zB,zC,zD,zE,zF,zG,zH,zI,a3])
          (simp (disch:=omega) only [hwrap64])
          refine rcW_as rfl (hq (v,line+1,1,i+1) S1 ⟨by dsimp only;omega,by dsimp only;omega,by dsimp only;omega,hs1,d,f,by dsimp only;omega,by dsimp only;omega,hl,ht⟩ (by dsimp only;omega))
        | false=>
          have h10:¬ c.toNat=10:=by have:=of_decide_eq_false a3;omega
          rw [if_neg h10,if_neg h10] at ht
          (try simp only [rwp,hwR,zA,zB,zC,zD,zE,zF,zG,zH,zI,a3])
          (simp (disch:=omega) only [hwrap64])
          refine rcW_as rfl (hq (v,line,col+1,i+1) S1 ⟨by dsimp only;omega,by dsimp only;omega,by dsimp only;omega,hs1,d,f,by dsimp only;omega,by dsimp only;omega,hl,ht⟩ (by dsimp only;omega))
      | false=>
        have hw:=of_decide_eq_false hw.symm
        rw [if_neg hw] at ht
        have low:∀ (x:ByteArray) (w:Nat),1≤w→i+w≤s.size→tokT s=d++(if x=⟨#[63]⟩ then [⟨⟨#[63]⟩,line,col⟩] else ⟨x,line,col⟩ :: tokL f ((bl s).drop (i+w)) line (col+w))→C_ref11_Tokens_4 (fun ae S'=>ae=.ret (.sl 3 ((tokT s).map tkC))∧S'=S) q (.str s) v (.int .i64 line) (.int .i64 col) (.int .i64 i) (.int .i64 w) (.str x) S1:=by
          intro x w hw1 hw2 hx
          unfold C_ref11_Tokens_4
          (try simp only [rwp,hwR,zA,zB,zC,zD,zE,zF,zG,zH,zI])
          refine hl.app hs1 (xs:=[tkC ⟨x,line,col⟩]) (fun r hr=>by rw [List.mem_singleton] at hr;subst hr;rfl) rfl (by simp;omega) ?_
          intro v' S2 h1 h2 _
          (try simp only [rwp,hwR,zA,zB,zC,zD,zE,zF,zG,zH,zI])
          (refine cnW_intro (fun hq3=>?_) (fun hq3=>?_)<;>(try simp only [hlc] at hq3))
          · rw [if_pos hq3] at hx
            have e1:(d.map tkC)++[tkC ⟨x,line,col⟩]=(tokT s).map tkC:=by rw [hx,hq3];simp
            rw [e1] at h2
            exact rtW_lst h1 h2 ⟨rfl,rfl⟩
          · rw [if_neg (by simpa using hq3)] at hx
            (simp (disch:=omega) only [hwrap64])
            rw [show (i:Int)+(w:Int)=((i+w:Nat):Int) from rfl,show (col:Int)+(w:Int)=((col+w:Nat):Int) from rfl]
            refine rcW_as rfl (hq (v',line,col+w,i+w) S2 ⟨by dsimp only;omega,by dsimp only;omega,by dsimp only;omega,h1,d++[⟨x,line,col⟩],f,by dsimp only;omega,by simp;omega,by simpa using h2,?_⟩ (by dsimp only;omega))
            dsimp only
            rw [hx]
            simp
        have hbe:bl (s.extract i s.size)=c :: (bl s).drop (i+1):=by
          rw [bl_extract,List.take_of_length_le (by rw [bl_len];exact Nat.le_refl _),hdc]
        have hwl:=wordL_le (l:=c :: (bl s).drop (i+1)) (i:=0)
        have hcl2:(c :: (bl s).drop (i+1)).length=s.size-i:=by rw [← hdc,List.length_drop,bl_len]
        rw [hcl2] at hwl
        have hcw:=c_word (s:=s.extract i s.size) (by rw [ByteArray.size_extract];omega)
        rw [hbe] at hcw
        (try simp only [rwp,hwR,zA,zB,zC,zD,zE,zF,zG,zH,zI])
        refine ⟨by omega,by omega,?_⟩
        refine caW_pure hcw ?_
        have hw0:∀ r,wordL 0 (c :: r)≠0→c≠63:=fun r h=>by
          rintro rfl
          apply h
          unfold wordL
          rw [if_neg (by decide)]
        have hw0:=hw0 ((bl s).drop (i+1))
        have htk:(c :: (bl s).drop (i+1)).drop (wordL 0 (c :: (bl s).drop (i+1)))=(bl s).drop (i+wordL 0 (c :: (bl s).drop (i+1))):=by
          rw [← hdc,List.drop_drop]
        have hex:s.extract i (i+wordL 0 (c :: (bl s).drop (i+1)))=mkB ((c :: (bl s).drop (i+1)).take (wordL 0 (c :: (bl s).drop (i+1)))):=by
          rw [extract_mk,List.drop_take,Nat.add_sub_cancel_left,hdc]
        rw [htk] at ht
        generalize hn:wordL 0 (c :: (bl s).drop (i+1))=n at *
        (try simp only [rwp,hwR,zA,zB,zC,zD,zE,zF,zG,zH,zI])
        (simp (disch:=omega) only [hwrap64])
        (try simp only [rwp,hwR,zA,zB,zC,zD,zE,zF,zG,zH,zI])
        refine ⟨by omega,by omega,?_⟩
        rw [show ((i:Int)+(n:Int)).toNat=i+n by omega,hex]
        (refine cnW_intro (fun hn0=>?_) (fun hn0=>?_)<;>(try simp only [hlc] at hn0))
        · have hn0:n=0:=by omega
          refine caW_pure (c_sign c) ?_
          rw [if_pos hn0] at ht
          refine low _ 1 (by omega) (by omega) ?_
          rw [← ht]
        · have hn0:¬ n=0:=by omega
          rw [if_neg hn0] at ht
          refine low _ n (by omega) (by omega) ?_
          rw [← ht,if_neg]
          intro h63
          have h1:=congrArg bl h63
          obtain ⟨m,hm⟩:∃ m,n=m+1:=⟨n-1,by omega⟩
          rw [hm,List.take_succ_cons] at h1
          have h2:c :: ((bl s).drop (i+1)).take m=[63]:=by
            have:bl (mkB (c :: ((bl s).drop (i+1)).take m))=c :: ((bl s).drop (i+1)).take m:=by simp [bl,mkB]
            rw [← this,h1];rfl
          exact hw0 hn0 (List.cons.inj h2).1
    cases a1:decide ((c.toNat:Int)=32)<;>cases a2:decide ((c.toNat:Int)=9)<;>cases a3:decide ((c.toNat:Int)=10) <;>
      (try simp only [rwp,hwR,zA,zB,zC,zD,zE,zF,zG,zH,zI,C_ref11_Tokens_2,a1,a2,a3])<;>refine ws _ ?_<;>simp only [decide_eq_true_eq,decide_eq_false_iff_not] at a1 a2 a3<;>(symm;first | exact decide_eq_true (by omega) | exact decide_eq_false (by omega))
  · rw [List.drop_of_length_le (by rw [bl_len];omega),tokL] at ht
    (try simp only [rwp,hwR,zA,zB,zC,zD,zE,zF,zG,zH,zI])
    refine hl.app hs1 (xs:=[tkC ⟨⟨#[]⟩,line,col⟩]) (fun r hr=>by rw [List.mem_singleton] at hr;subst hr;rfl) rfl (by simp;omega) ?_
    intro v' S2 h1 h2 _
    have e1:(d.map tkC)++[tkC ⟨⟨#[]⟩,line,col⟩]=(tokT s).map tkC:=by rw [← ht];simp
    rw [e1] at h2
    exact rtW_lst h1 h2 ⟨rfl,rfl⟩
theorem tokL_len:∀ {f:Nat} {l:List UInt8} {a b:Nat},(tokL f l a b).length≤l.length+1
  | 0,l,a,b=>by simp [tokL]
  | f+1,[],a,b=>by simp [tokL]
  | f+1,c :: r,a,b=>by
    unfold tokL
    split
    · have:=tokL_len (f:=f) (l:=r) (a:=if c.toNat=10 then a+1 else a) (b:=if c.toNat=10 then 1 else b+1)
      simp only [List.length_cons];omega
    · split
      · split
        · simp
        · have:=tokL_len (f:=f) (l:=r) (a:=a) (b:=b+1)
          simp only [List.length_cons];omega
      · rename_i h0
        have:=tokL_len (f:=f) (l:=(c :: r).drop (wordL 0 (c :: r))) (a:=a) (b:=b+wordL 0 (c :: r))
        have h2:((c :: r).drop (wordL 0 (c :: r))).length≤r.length:=by
          rw [List.length_drop,List.length_cons];omega
        simp only [List.length_cons];omega
theorem mkB_size {l:List UInt8}:(mkB l).size=l.length:=by simp [mkB,ByteArray.size]
theorem signF_size {c:UInt8}:(signF c).size≤1:=by
  unfold signF
  split
  · rw [mkB_size];exact Nat.le_refl _
  · decide
theorem tokL_size:∀ {f:Nat} {l:List UInt8} {a b:Nat},∀ t∈tokL f l a b,t.s.size≤l.length+1
  | 0,l,a,b,t,ht=>by cases ht
  | f+1,[],a,b,t,ht=>by
    rw [tokL,List.mem_singleton] at ht
    subst ht
    exact Nat.zero_le _
  | f+1,c :: r,a,b,t,ht=>by
    unfold tokL at ht
    split at ht
    · have:=tokL_size t ht
      simp only [List.length_cons];omega
    · split at ht
      · split at ht
        · rw [List.mem_singleton] at ht
          subst ht
          exact Nat.le_add_left _ _
        · rcases List.mem_cons.1 ht with rfl | ht
          · have:=signF_size (c:=c);dsimp only;omega
          · have:=tokL_size t ht
            simp only [List.length_cons];omega
      · rcases List.mem_cons.1 ht with rfl | ht
        · dsimp only
          rw [mkB_size,List.length_take]
          omega
        · have:=tokL_size t ht
          rw [List.length_drop] at this
          omega
theorem tokL_last:∀ {f:Nat} {l:List UInt8} {a b:Nat} {t:Tk},(tokL f l a b).getLast?=some t→l.length<f→t.s=⟨#[]⟩∨t.s=⟨#[63]⟩
  | 0,l,a,b,t,ht,hf=>by omega
  | f+1,[],a,b,t,ht,hf=>by
    rw [tokL] at ht
    simp at ht
    subst ht
    exact .inl rfl
  | f+1,c :: r,a,b,t,ht,hf=>by
    have hne:∀ {f:Nat} {l:List UInt8} {a b:Nat},l.length<f→tokL f l a b≠[]:=by
      intro f
      induction f with
      | zero=>intro l a b h;omega
      | succ f ih=>
        intro l a b h
        cases l with
        | nil=>simp [tokL]
        | cons c r=>
          unfold tokL
          simp only [List.length_cons] at h
          split
          · exact ih (by omega)
          · split
            · split<;>simp
            · simp
    simp only [List.length_cons] at hf
    unfold tokL at ht
    split at ht
    · exact tokL_last ht (by omega)
    · split at ht
      · split at ht
        · simp at ht
          subst ht
          exact .inr rfl
        · rw [List.getLast?_cons_of_ne_nil (hne (by omega))] at ht
          exact tokL_last ht (by omega)
      · rename_i h0
        have hl:((c :: r).drop (wordL 0 (c :: r))).length<f:=by
          rw [List.length_drop,List.length_cons];omega
        rw [List.getLast?_cons_of_ne_nil (hne hl)] at ht
        exact tokL_last ht hl
theorem tokT_ok {s:ByteArray} (hs:s.size≤4096):OkTk (tokT s):=by
  have h1:=tokL_len (f:=s.size+1) (l:=bl s) (a:=1) (b:=1)
  rw [bl_len] at h1
  refine ⟨?_,fun t ht=>?_,fun t ht=>?_⟩
  · unfold tokT;omega
  · have:=tokL_size t ht
    rw [bl_len] at this
    omega
  · rw [← List.getLast?_eq_getElem?] at ht
    exact tokL_last ht (by rw [bl_len];omega)
end Go.HL
