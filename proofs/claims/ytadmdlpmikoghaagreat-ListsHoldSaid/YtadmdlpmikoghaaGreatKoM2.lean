/- A part of a proof. -/
import Derived.Test.YtadmdlpmikoghaaGreatKoM1
import Derived.Lib.Bytealg
import Derived.Laws.Externs
import Derived.Test.YtadmdlpmikoghaaGreatKoHlS0
import Derived.Test.YtadmdlpmikoghaaGreatKoHlS8
set_option maxRecDepth 4000
set_option linter.unusedSimpArgs false
set_option linter.unusedVariables false
namespace Go.HL
open List renaming mem_of_getElem?→lA,length_map→lB,getElem?_map→lC,length_cons→lD,map_append→lE,getElem?_eq_getElem→lF,length_append→lG,take_of_length_le→lH,mem_cons_of_mem→lI,append_nil→lJ,length_filter_le→lK,length_nil→lL,length_singleton→lM,range'→lN,getElem?_of_mem→lO,map_cons→lP,mem_cons→lQ,nil_append→lR,mem_singleton→lS,mem_filter→lT,take_length→lU,getElem?_set→lV,mem_append_left→lX
open Nat renaming reduceAdd→zA,reduceLeDiff→zB,reduceLT→zC,reduceSub→zD,reduceMul→zE,reduceEqDiff→zF,reduceBEq→zG
open Int renaming reduceAdd→zH,reduceToNat→zI
theorem LvO.cell {S0 S:q00} {v:AV} {bs:List Nat} {lv:Lv} (h:LvO S0 S v bs lv) {i j:Nat} (hin:In lv (i,j)):∃ bl cap b l,v=.own bl 0 lv.length cap/\i<lv.length/\q0m S bl=some (174,(q2p bs lv).flatten,cap * 1)/\(q2p bs lv).flatten.drop i=.own b 0 l.length l.length :: (q2p bs lv).flatten.drop (i+1) /\
  bs[i]?=some b/\lv[i]?=some l/\q0m S b=some (3,l.map iv,l.length)/\b≠bl/\l[j]?=some (y04 lv (i,j)):=by
 obtain ⟨l,h1,h2⟩:=hin;dsimp only at h1 h2;have hil:=(List.getElem?_eq_some_iff.1 h1).1;obtain ⟨hs,hlen,⟨hr,hl⟩,hi,hnd⟩:=h;have hrl:(q2p bs lv).length=lv.length:=by simp [q2p,hlen]
 obtain ⟨b,hb⟩:∃ b,bs[i]?=some b:=⟨_,lF (by omega)⟩
 obtain ⟨o1,o2,o3⟩:=hi i b l hb h1;have hrow:(q2p bs lv)[i]?=some [.own b 0 l.length l.length]:=by rw [q69,hb,h1]
 rcases hl with ⟨rfl,h0⟩ | ⟨bl,cap,rfl,k1,k2,k3,k4,k5⟩
 ·rw [h0] at hrow;simp at hrow
 ·refine ⟨bl,cap,b,l,by rw [hrl],hil,objAt_some.2 k2,?_,hb,h1,o1,o3 bl 0 _ _ rfl,?_⟩
  ·have h3:=q7u hr hrow (j:=0) rfl;rw [Nat.mul_one,Nat.add_zero] at h3;exact q0j h3
  ·unfold y04;rw [h1];simp [lF h2]
theorem LvO.rd {S0 S:q00} {v:AV} {bs:List Nat} {lv:Lv} (h:LvO S0 S v bs lv) {i j:Nat} (hin:In lv (i,j)) {K:AV->Prop} (hK:K (.int .i64 (y04 lv (i,j)))) :
  iaW 1 v (.int .i64 i) (fun a=>ldW S 1 false a fun r=>iaW 1 r (.int .i64 j) fun c=>ldW S 1 false c K):=by
 obtain ⟨bl,cap,b,l,rfl,h1,h2,h3,h4,h5,h6,h7,h8⟩:=h.cell hin;have hj:=(List.getElem?_eq_some_iff.1 h8).1;have hd:(l.map iv).drop j=iv (y04 lv (i,j)) :: (l.map iv).drop (j+1):=q0j (by rw [lC,h8];rfl)
 rw [q8w];refine ⟨by omega,by omega,?_⟩
 rw [q8u,q07 h2,q6d,Int.toNat_natCast,Nat.mul_one,Nat.zero_add,h3,y5z,q8w];refine ⟨by omega,by omega,?_⟩
 rw [q8u,q07 h6,q6d,Int.toNat_natCast,Nat.mul_one,Nat.zero_add,hd,y5z];exact hK
theorem yhi {bs:List Nat} {lv:Lv} {p:Nat×Nat} {x:Nat}:q2p bs (y2s lv p x)=q2p bs lv:=by
 apply List.ext_getElem?
 intro i;rw [q69,q69];unfold y2s;rw [lV];by_cases h:p.1=i
 ·subst h;rw [if_pos rfl];cases hl:lv[p.1]? with
  | none=>rw [if_neg (by have:=List.getElem?_eq_none_iff.1 hl;omega)]
  | some l=>
   rw [if_pos (List.getElem?_eq_some_iff.1 hl).1];cases bs[p.1]?<;>simp
 ·rw [if_neg h]
theorem LvO.wr {S0 S:q00} {v:AV} {bs:List Nat} {lv:Lv} (h:LvO S0 S v bs lv) {i j x:Nat} (hin:In lv (i,j)) {K:q00->Prop} (hK:∀ S',LvO S0 S' v bs (y2s lv (i,j) x)->K S') :
  iaW 1 v (.int .i64 i) (fun a=>ldW S 1 false a fun r=>iaW 1 r (.int .i64 j) fun c=>stW S 1 c (.int .i64 x) K):=by
 obtain ⟨bl,cap,b,l,rfl,h1,h2,h3,h4,h5,h6,h7,h8⟩:=h.cell hin;have hj:=(List.getElem?_eq_some_iff.1 h8).1;rw [q8w];refine ⟨by omega,by omega,?_⟩
 rw [q8u,q07 h2,q6d,Int.toNat_natCast,Nat.mul_one,Nat.zero_add,h3,y5z,q8w];refine ⟨by omega,by omega,?_⟩
 rw [q3s,h6,Int.toNat_natCast,Nat.mul_one,Nat.zero_add,q3h];refine ⟨rfl,by simp;omega,rfl,hK _ ?_⟩
 obtain ⟨hs,hlen,hlst,hi,hnd⟩:=h;have hb0:=(hi i b l h4 h5).2.1;have hbv:=(hi i b l h4 h5).2.2;have hset:q1t (l.map iv) j (q09 (.int .i64 x))=(l.set j x).map iv:=by
  show (l.map iv).set j (iv x)=_;rw [List.map_set]
 rw [hset];refine ⟨hs.supd hb0,?_,?_,fun m c l' k1 k2=>?_,hnd⟩
 ·unfold y2s;rw [List.length_set];exact hlen
 ·rw [yhi];exact hlst.upd hbv _
 ·unfold y2s at k2;rw [lV,h5,if_pos h1] at k2;dsimp only [Option.getD_some] at k2;by_cases hmi:i=m
  ·subst hmi;rw [if_pos rfl] at k2;rw [h4] at k1;cases k1;cases k2;exact ⟨by rw [List.length_set];exact q0l,hb0,hbv⟩
  ·rw [if_neg hmi] at k2;have hne:b≠c:=by
    rintro rfl;have e1:=(List.getElem?_eq_some_iff.1 h4).1;exact hmi ((List.getElem?_inj e1 hnd).1 (by rw [h4,k1]))
   obtain ⟨o1,o2,o3⟩:=hi m c l' k1 k2;exact ⟨by rw [q0n hne];exact o1,o2,o3⟩
theorem LvO.app {S0 S:q00} {v:AV} {bs:List Nat} {lv:Lv} (h:LvO S0 S v bs lv) {b:Nat} (hb:y01 S b=none) (l:List Nat) (hlen:lv.length<=1000000) {K:AV->q00->Prop} (hK:∀ v' S',LvO S0 S' v' (bs++[b]) (lv++[l])->K v' S') :
  apW (supd S b (.cells 3 (l.map iv) l.length)) 174 1 24 v (.sl 1 [[.own b 0 l.length l.length]]) K:=by
 have hb0:=Sub.none h.sub hb;have hba:q0v v b:=h.lst.fresh hb;have hbn:∀ (j c:Nat),bs[j]?=some c->c≠b:=by
  intro j c hj;have hj1:=(List.getElem?_eq_some_iff.1 hj).1;have hj2:j<lv.length:=by rw [<- h.len];exact hj1
  have:=objAt_some.1 (h.inn j c _ hj (lF hj2)).1;rintro rfl;rw [this] at hb;cases hb
 have hL:=h.fresh hb (.cells 3 (l.map iv) l.length);have hrl:(q2p bs lv).length=lv.length:=by simp [q2p,h.len]
 have hbo:y01 (supd S b (.cells 3 (l.map iv) l.length)) b=some (.cells 3 (l.map iv) l.length):=by rw [q01,if_pos rfl]
 refine LstN.app (rows:=q2p bs lv) (xs:=[[.own b 0 l.length l.length]]) hL.sub hL.lst (by simp) rfl (by rw [hrl];simp;omega) ?_
 intro v' S5 hs5 hl5 keep;obtain ⟨q1,q2⟩:=keep b _ hbo hba;rw [<- ybj h.len] at hl5;refine hK v' S5 ⟨hs5,by simp [h.len],hl5,fun j c l' hj hl'=>?_,?_⟩
 ·by_cases hjb:j<bs.length
  ·rw [List.getElem?_append_left hjb] at hj;rw [List.getElem?_append_left (by rw [<- h.len];exact hjb)] at hl'
   obtain ⟨o1,o2,o3⟩:=hL.inn j c l' hj hl';obtain ⟨k1,k2⟩:=keep c _ (objAt_some.1 o1) o3;exact ⟨objAt_some.2 k1,o2,k2⟩
  ·rw [List.getElem?_append_right (by omega)] at hj
   rw [List.getElem?_append_right (by rw [<- h.len];omega),<- h.len] at hl'
   obtain ⟨m,hm⟩:∃ m,j-bs.length=m:=⟨_,rfl⟩;rw [hm] at hj hl';cases m with
   | succ m=>simp at hj
   | zero=>
    simp at hj hl';subst hj;subst hl';exact ⟨objAt_some.2 q1,hb0,q2⟩
 ·refine List.nodup_append.2 ⟨h.nod,by simp,fun x hx y hy e=>?_⟩
  simp at hy;subst hy;obtain ⟨j,hj⟩:=lO hx;exact hbn j x hj e
def InS (s:List Ty) (p:Nat×Nat):Prop:=∃ t,s[p.1]?=some t/\p.2<t.rels.length
theorem ybz {s:List Ty} {t n:ByteArray} {i k:Nat} {r:Rl} (h:q0d s t n=some (i,k,r)):InS s (i,k):=by
 obtain ⟨-,ty,h2,-,h4⟩:=q0z h;exact ⟨ty,h2,(List.getElem?_eq_some_iff.1 h4).1⟩
theorem yze {s:List Ty} {refs:List Rf} {n:ByteArray}:∀ p∈q21 s refs n,InS s p:=by
 intro p hp;unfold q21 at hp;obtain ⟨f,-,hf⟩:=List.mem_filterMap.1 hp;split at hf
 ·cases hq:q0d s f.ty n with
  | none=>rw [hq] at hf;cases hf
  | some q=>
   obtain ⟨i,k,r⟩:=q;rw [hq] at hf;cases hf;exact ybz hq
 ·cases hf
theorem yqy {s:List Ty} {t:ByteArray} {r:Rl}:∀ l∈q1f s t r,InS s l.1:=by
 intro l hl;unfold q1f at hl;split at hl
 ·obtain ⟨p,-,hp⟩:=List.mem_flatMap.1 hl;unfold q3d at hp;split at hp
  ·cases hp
  ·rename_i i k r hq
   rcases List.mem_cons.1 hp with rfl | hp
   ·exact ybz hq
   ·split at hp
    ·obtain ⟨q,hq2,rfl⟩:=List.mem_map.1 hp;exact yze q hq2
    ·cases hp
 ·obtain ⟨f,-,hf⟩:=List.mem_filterMap.1 hl;unfold q1q at hf;split at hf
  ·cases hf
  ·cases hq:q0d s f.ty f.rl with
   | none=>rw [hq] at hf;cases hf
   | some q=>
    obtain ⟨i,k,r⟩:=q;rw [hq] at hf;cases hf;exact ybz hq
theorem ydc {s:List Ty} {i:Nat} {n:ByteArray}:∀ {l:List Rl} {k:Nat},∀ x∈q3l s i n k l,∀ y∈x.2,InS s y.1
 | [],k,x,hx=>by cases hx
 | r :: l,k,x,hx=>by
  rw [q3l] at hx;rcases List.mem_cons.1 hx with rfl | hx
  ·exact yqy
  ·exact ydc x hx
theorem yd9 {s:List Ty}:∀ {l:List Ty} {i:Nat},∀ x∈q4m s i l,∀ y∈x.2,InS s y.1
 | [],i,x,hx=>by cases hx
 | t :: l,i,x,hx=>by
  rw [q4m] at hx;rcases List.mem_append.1 hx with hx | hx
  ·exact ydc x hx
  ·exact yd9 x hx
theorem x73 {lv:Lv} {s:List Ty} (h:Shp lv s) {p:Nat×Nat} (hp:InS s p):In lv p:=by
 obtain ⟨t,h1,h2⟩:=hp;exact yr1 (i:=p.1) (k:=p.2) h h1 h2
theorem ydb {s:List Ty} (hN:OkN s) {i:Nat} {n:ByteArray}:∀ {l:List Rl} {k:Nat},(∀ r∈l,rsz r<=1000)->∀ x∈q3l s i n k l,x.2.length<=4000000
 | [],k,_,x,hx=>by cases hx
 | r :: l,k,h,x,hx=>by
  rw [q3l] at hx;rcases List.mem_cons.1 hx with rfl | hx
  ·exact y8o hN (h r (by simp))
  ·exact ydb hN (fun r hr=>h r (lI _ hr)) x hx
theorem yd8 {s:List Ty} (hN:OkN s):∀ {l:List Ty} {i:Nat},(∀ t∈l,∀ r∈t.rels,rsz r<=1000)->∀ x∈q4m s i l,x.2.length<=4000000
 | [],i,_,x,hx=>by cases hx
 | t :: l,i,h,x,hx=>by
  rw [q4m] at hx;rcases List.mem_append.1 hx with hx | hx
  ·exact ydb hN (h t (by simp)) x hx
  ·exact yd8 hN (fun t ht=>h t (lI _ ht)) x hx
theorem y2x {s:List Ty} {rows:List Rw} (hN:rows.length<=1000) (hM:q0q s<=1000) (hok:x42 s rows) (hin:∀ x∈rows,∀ y∈x.2,InS s y.1) (hle:∀ x∈rows,x.2.length<=4000000) {S0 S:q00} {v:AV} {bs:List Nat} {lv:Lv} (hL:LvO S0 S v bs lv) (hS:Shp lv s) (hB:Bdd rows.length lv) :
  ACalls PG yvh [.sl 3 (rows.map rwC),v] S fun ae S'=>ae=.ret (.bool (q1e rows.length rows (lv,false)).2)/\LvO S0 S' v bs (q1e rows.length rows (lv,false)).1:=by
 refine xf2 ?_;unfold xc2;(try simp only [rwp,hwR,zA,zB,zC,zD,zE,zF,zG,zH,zI]);refine LoopP.introS (fun p:Nat×Lv×Bool=>[(0,.sl 3 (rows.map rwC)),(1,v),(5,.bool p.2.2),(6,.int .i64 p.1)])
  (fun p S'=>p.1<=rows.length/\LvO S0 S' v bs p.2.1/\Shp p.2.1 s/\Bdd rows.length p.2.1/\q1e rows.length (rows.drop p.1) p.2=q1e rows.length rows (lv,false)) (fun p=>rows.length-p.1) (0,lv,false) ⟨by omega,hL,hS,hB,rfl⟩ rfl ?_
 clear hL hS hB;rintro ⟨i,lv1,mo⟩ S1 ⟨hi,hL,hS,hB,hf⟩ q hq;dsimp only at hi hL hS hB hf;(try simp only [rwp,hwR,zA,zB,zC,zD,zE,zF,zG,zH,zI,yxt])
 (refine q03 (fun hlt=>?_) (fun hlt=>?_)<;>(try simp only [hlc] at hlt))
 ·obtain ⟨w,hw⟩:=q0e hlt;have hmw:=lA hw;obtain ⟨nd,ln⟩:=w;obtain ⟨ni,nk⟩:=nd;obtain ⟨t,ht,hk⟩:=hok _ hmw;dsimp only at ht hk;have hln:=hle _ hmw;dsimp only at hln;rw [q0j hw,q1e] at hf;dsimp only at hf;(try simp only [rwp,hwR,zA,zB,zC,zD,zE,zF,zG,zH,zI,hw,rwC]);refine LoopP.introS (fun p:Nat×Lv×Bool=>[(0,.sl 3 (rows.map rwC)),(1,v),(5,.bool p.2.2),(6,.int .i64 i),(7,.int .i64 ni),(8,.int .i64 nk),(9,.int .i64 p.1)])
   (fun p S'=>p.1<=ln.length/\LvO S0 S' v bs p.2.1/\Shp p.2.1 s/\Bdd rows.length p.2.1/\q19 rows.length (ni,nk) (ln.drop p.1) p.2=q19 rows.length (ni,nk) ln (lv1,mo)) (fun p=>ln.length-p.1) (0,lv1,mo) ⟨by omega,hL,hS,hB,rfl⟩ rfl ?_
  clear hL hS hB;rintro ⟨j,lv2,mo2⟩ S2 ⟨hj,hL,hS,hB,hf2⟩ q2 hq2;dsimp only at hj hL hS hB hf2;(try simp only [rwp,hwR,zA,zB,zC,zD,zE,zF,zG,zH,zI,yxs,hw,rwC])
  (refine q03 (fun hlt2=>?_) (fun hlt2=>?_)<;>(try simp only [hlc] at hlt2))
  ·obtain ⟨l,hl⟩:=q0e hlt2;obtain ⟨m,o⟩:=l;obtain ⟨mi,mk⟩:=m;have hmin:In lv2 (mi,mk):=x73 hS (hin _ hmw _ (lA hl));have hnin:In lv2 (ni,nk):=yr1 hS ht hk;rw [q0j hl,q19] at hf2;dsimp only at hf2;have hphi:=q8r (N:=rows.length) hS;have hMM:q0q s * (rows.length+1)<=1000 * 1001:=Nat.mul_le_mul hM (by omega)
   have hb1:=hB (mi,mk);have hb2:=hB (ni,nk);(try simp only [rwp,hwR,zA,zB,zC,zD,zE,zF,zG,zH,zI,hl,hw,rwC,q31]);refine hL.rd hmin ?_;have low:∀ x:Nat,x=y04 lv2 (mi,mk)+o.toNat->ygm (fun ae S'=>ae=.ret (.bool (q1e rows.length rows (lv,false)).2)/\LvO S0 S' v bs (q1e rows.length rows (lv,false)).1) q q2 (.sl 3 (rows.map rwC)) v (.bool mo2) (.int .i64 i) (.int .i64 ni) (.int .i64 nk) (.int .i64 j) (.int .i64 x) S2:=by
    intro x hx;unfold ygm;rw [<- hx] at hf2;refine hL.rd hnin ?_;have keep:¬ (y04 lv2 (ni,nk)<x/\y04 lv2 (ni,nk)<=rows.length)->q2 [(0,.sl 3 (rows.map rwC)),(1,v),(5,.bool mo2),(6,.int .i64 i),(7,.int .i64 ni),(8,.int .i64 nk),(9,.int .i64 ((j:Int)+1))] S2:=fun h=>by
     rw [if_neg h] at hf2;exact hq2 (j+1,lv2,mo2) S2 ⟨by dsimp only;omega,hL,hS,hB,hf2⟩ (by dsimp only;omega)
    (try simp only [rwp,hwR,zA,zB,zC,zD,zE,zF,zG,zH,zI])
    (refine q1s (fun hg=>?_) (fun hg=>?_)<;>(try simp only [rwp,hwR,zA,zB,zC,zD,zE,zF,zG,zH,zI,hg]))
    ·have h1:y04 lv2 (ni,nk)<x:=by simpa using hg
     refine hL.rd hnin ?_;(try simp only [rwp,hwR,zA,zB,zC,zD,zE,zF,zG,zH,zI,hg])
     (refine q03 (fun h2=>?_) (fun h2=>?_)<;>(try simp only [hlc] at h2))
     ·have h3:y04 lv2 (ni,nk)<x/\y04 lv2 (ni,nk)<=rows.length:=⟨h1,by simpa using h2⟩
      rw [if_pos h3] at hf2;rw [hx] at h3;obtain ⟨k1,k2⟩:=q6t (N:=rows.length) (m:=(mi,mk)) (o:=o) hnin hB h3;rw [<- hx] at k1;(try simp only [rwp,hwR,zA,zB,zC,zD,zE,zF,zG,zH,zI,yar]);refine hL.wr (x:=x) hnin fun S3 hL3=>?_
      (try simp only [rwp,hwR,zA,zB,zC,zD,zE,zF,zG,zH,zI])
      (simp (disch:=omega) only [q04])
      exact q08 rfl (hq2 (j+1,y2s lv2 (ni,nk) x,true) S3 ⟨by dsimp only;omega,hL3,ybb hS _ _,k1,hf2⟩ (by dsimp only;omega))
     ·(try simp only [rwp,hwR,zA,zB,zC,zD,zE,zF,zG,zH,zI,yar])
      (simp (disch:=omega) only [q04])
      refine q08 rfl (keep fun h=>?_)
      have:=h.2;simp at h2;omega
    ·have h1:¬ y04 lv2 (ni,nk)<x:=by simpa using hg
     (try simp only [rwp,hwR,zA,zB,zC,zD,zE,zF,zG,zH,zI,yar,hg])
     (simp (disch:=omega) only [q04])
     exact q08 rfl (keep fun h=>h1 h.1)
   cases o with
   | true=>
    (try simp only [rwp,hwR,zA,zB,zC,zD,zE,zF,zG,zH,zI]);rw [q04 (by omega) (by omega)]
    exact low (y04 lv2 (mi,mk)+1) rfl
   | false=>
    (try simp only [rwp,hwR,zA,zB,zC,zD,zE,zF,zG,zH,zI]);exact low (y04 lv2 (mi,mk)) rfl
  ·rw [q15 hlt2,q19] at hf2;rw [<- hf2] at hf
   (simp (disch:=omega) only [q04])
   exact q08 rfl (hq (i+1,lv2,mo2) S2 ⟨by dsimp only;omega,hL,hS,hB,hf⟩ (by dsimp only;omega))
 ·rw [q15 hlt,q1e] at hf;exact q02 ⟨by rw [<- hf],by rw [<- hf];exact hL⟩
set_option maxRecDepth 4000
theorem y9a {s:List Ty} (hs:OkS s) (h1:s.length<=16) (h2:∀ t∈s,t.rels.length<=16):y02 PG yvp [scA s] (.int .i64 (q0q s)):=by
 intro S;refine xfb ?_;unfold xcb;(try simp only [rwp,hwR,zA,zB,zC,zD,zE,zF,zG,zH,zI,scA]);have hm:=yeb h1 h2;refine LoopP.introS (fun p:Nat×Nat=>[(1,.rop [.sl 2 (s.map tyC)]),(3,.int .i64 p.2),(4,.int .i64 p.1)])
  (fun p S'=>S'=S/\p.1<=s.length/\p.2+q0q (s.drop p.1)=q0q s) (fun p=>s.length-p.1) (0,0) ⟨rfl,by omega,by simp⟩ rfl ?_
 rintro ⟨i,n⟩ S1 ⟨rfl,hi,hf⟩ q hq;dsimp only at hi hf;(try simp only [rwp,hwR,zA,zB,zC,zD,zE,zF,zG,zH,zI,yy2])
 (refine q03 (fun hlt=>?_) (fun hlt=>?_)<;>(try simp only [hlc] at hlt))
 ·obtain ⟨t,ht⟩:=q0e hlt;rw [q0j ht] at hf;have e1:q0q (t :: s.drop (i+1))=t.rels.length+q0q (s.drop (i+1)):=by simp [q0q]
  rw [e1] at hf;(try simp only [rwp,hwR,zA,zB,zC,zD,zE,zF,zG,zH,zI,ht,tyC]);rw [show (n:Int)+(t.rels.length:Int)=((n+t.rels.length:Nat):Int) by omega]
  (simp (disch:=omega) only [q04])
  exact q08 rfl (hq (i+1,n+t.rels.length) _ ⟨rfl,by dsimp only;omega,by dsimp only;omega⟩ (by dsimp only;omega))
 ·rw [q15 hlt] at hf;have:n=q0q s:=by rw [<- hf];rfl
  exact q02 ⟨by rw [this],rfl⟩
theorem ygr {s:List Ty} {i:Nat} {t:Ty} (h:s[i]?=some t):q6q (s.take (i+1))=q6q (s.take i)++[List.replicate t.rels.length 0]:=by
 rw [q0w h];simp [q6q]
theorem q6o {s:List Ty} (hs:OkS s) (hN:OkN s) (hg:GoodS s):y02 PG x5o [scA s] (.sl 1 (lvC (y0b s))):=by
 intro S;have hsz:=hg.sizes;have hmany:=hg.many;have hrows:=y5o s;refine xiz ?_;unfold xhb;(try simp only [rwp,hwR,zA,zB,zC,zD,zE,zF,zG,zH,zI,scA]);refine LoopP.introS (fun p:Nat×AV×List Nat=>[(1,.rop [.sl 2 (s.map tyC)]),(3,p.2.1),(4,.int .i64 p.1)])
  (fun p S'=>p.1<=s.length/\LvO S S' p.2.1 p.2.2 (q6q (s.take p.1))) (fun p=>s.length-p.1) (0,.nils,[]) ⟨by omega,LvO.nil S (Sub.refl S)⟩ rfl ?_
 rintro ⟨i,v,bs⟩ S1 ⟨hi,hL⟩ q hq;dsimp only at hi hL;(try simp only [rwp,hwR,zA,zB,zC,zD,zE,zF,zG,zH,zI,x96])
 (refine q03 (fun hlt=>?_) (fun hlt=>?_)<;>(try simp only [hlc] at hlt))
 ·obtain ⟨t,ht⟩:=q0e hlt;have htn:=hsz.2.1 t (lA ht);(try simp only [rwp,hwR,zA,zB,zC,zD,zE,zF,zG,zH,zI,ht,tyC]);refine ⟨t.rels.length,rfl,rfl,by omega,fun b hb=>?_⟩
  have hz:List.replicate t.rels.length (AV.int .i64 0)=(List.replicate t.rels.length 0).map iv:=by rw [List.map_replicate];rfl
  have h1:=LvO.app hL hb (List.replicate t.rels.length 0) (by simp [q6q];omega) (K:=fun v' S'=>rcW q [(1,.rop [.sl 2 (s.map tyC)]),(3,v'),(4,.int .i64 (IntKind.i64.wrap ((i:Int)+1)))] S') fun v' S2 hL2=>by
   (simp (disch:=omega) only [q04])
   refine q08 rfl (hq (i+1,v',bs++[b]) S2 ⟨by dsimp only;omega,?_⟩ (by dsimp only;omega))
   rw [ygr ht];exact hL2
  rw [List.length_replicate,<- hz] at h1;(try simp only [rwp,hwR,zA,zB,zC,zD,zE,zF,zG,zH,zI]);exact h1
 ·have hend:s.take i=s:=lH (by omega)
  rw [hend] at hL;(try simp only [rwp,hwR,zA,zB,zC,zD,zE,zF,zG,zH,zI]);refine q05 (by simpa only [scA] using y99 hs hN hg) ?_
  refine LoopP.introS (fun p:Nat×Lv=>[(3,v),(5,.sl 3 ((q2c s).map rwC)),(6,.int .i64 p.1)])
   (fun p S'=>p.1<=70000/\LvO S S' v bs p.2/\Shp p.2 s/\Bdd (q2c s).length p.2/\q5r (q2c s).length (q2c s) (70000-p.1) p.2=y0b s) (fun p=>70000-p.1) (0,q6q s) ⟨by omega,hL,q7g s,q6h,by rw [hrows];rfl⟩ rfl ?_
  clear hL;rintro ⟨n,lv⟩ S2 ⟨hn,hL,hS,hB,hf⟩ q2 hq2;dsimp only at hn hL hS hB hf;(try simp only [rwp,hwR,zA,zB,zC,zD,zE,zF,zG,zH,zI,x95])
  (refine q03 (fun hlt2=>?_) (fun hlt2=>?_)<;>(try simp only [hlc] at hlt2))
  ·obtain ⟨m,hm⟩:∃ m,70000-n=m+1:=⟨70000-n-1,by omega⟩
   rw [hm,q5r] at hf;refine q0c (y2x (s:=s) (rows:=q2c s) (by omega) (by omega) (q6s s) (yd9) (yd8 hN hN) hL hS hB) ?_
   rintro _ S3 ⟨rfl,hL3⟩;obtain ⟨k1,k2,k3,k4,k5,k6⟩:=q3c (N:=(q2c s).length) (a:=(lv,false)) (q6s s) hS hB;generalize hR:q1e (q2c s).length (q2c s) (lv,false)=R at hL3 k1 k2 hf ⊢;obtain ⟨lv2,mo2⟩:=R;dsimp only at hL3 k1 k2 hf ⊢;cases mo2 with
   | true=>
    (try simp only [rwp,hwR,zA,zB,zC,zD,zE,zF,zG,zH,zI]);rw [if_pos rfl] at hf
    (simp (disch:=omega) only [q04])
    refine q08 rfl (hq2 (n+1,lv2) S3 ⟨by dsimp only;omega,hL3,k1,k2,?_⟩ (by dsimp only;omega))
    dsimp only;rw [show 70000-(n+1)=m by omega]
    exact hf
   | false=>
    (try simp only [rwp,hwR,zA,zB,zC,zD,zE,zF,zG,zH,zI]);rw [if_neg (by simp)] at hf
    subst hf;exact y5n (vs:=[v]) rfl (ShV.lv hL3) ⟨rfl,rfl⟩
  ·rw [show 70000-n=0 by omega,q5r] at hf
   subst hf;exact y5n (vs:=[v]) rfl (ShV.lv hL) ⟨rfl,rfl⟩
theorem y6x {s:List Ty} (hs:OkS s) (hN:OkN s):y02 PG x5u [scA s] (y06 s):=by
 intro S;refine xj6 ?_;unfold xhi;(try simp only [rwp,hwR,zA,zB,zC,zD,zE,zF,zG,zH,zI,scA]);intro b hb;(try simp only [rwp,hwR,zA,zB,zC,zD,zE,zF,zG,zH,zI]);refine q05 (by simpa only [scA] using y6u hs) ?_
 obtain ⟨ft,fr,fe,hp⟩:=y1g s;rw [hp];have ret:∀ x y z:Int,y06 s=flA x y z->rtW [.cell (.ptr b 0) 3 true] (fun ae S'=>ae=.ret (y06 s)/\S'=S) (supd S b (.cells 88 [.int .i64 x,.int .i64 y,.int .i64 z] 3)):=by
  intro x y z hp;refine q18 S (Sub.fresh _ hb) ?_;(try simp only [rwp,hwR,zA,zB,zC,zD,zE,zF,zG,zH,zI]);rw [hp];rfl
 (try simp only [rwp,hwR,zA,zB,zC,zD,zE,zF,zG,zH,zI,flA])
 (refine q03 (fun h0=>?_) (fun h0=>?_)<;>(try simp only [hlc] at h0))
 ·refine ret _ _ _ ?_;rw [y06,hp,q25,if_pos h0]<;>rfl
 have hg:GoodS s:=q8q (by rw [hp,q25];omega)
 have hck:y06 s=flO (q34 s (y6j s)):=by rw [y06,hp,q25,if_neg (by simp [h0])]
 have hsz:=hg.sizes;have hmany:=hg.many;(try simp only [rwp,hwR,zA,zB,zC,zD,zE,zF,zG,zH,zI]);refine q05 (by simpa only [scA] using q6o hs hN hg) ?_
 (try simp only [rwp,hwR,zA,zB,zC,zD,zE,zF,zG,zH,zI]);refine q05 (by simpa only [scA] using y9a hs hsz.1 hsz.2.1) ?_
 have hll:(y0b s).length=s.length:=yjs (y64 s);refine LoopP.introS (fun i:Nat=>[(2,.ptr b 0),(4,.sl 1 (lvC (y0b s))),(5,.int .i64 (q0q s)),(6,.int .i64 i)])
  (fun i S'=>S'=supd S b (.cells 88 [.int .i64 0,.int .i64 0,.int .i64 0] 3)/\i<=s.length/\(q32 (fun (_:Unit) i k t r=>(y6j s i k t r,())) i (s.drop i) ()).1=q34 s (y6j s)) (fun i=>s.length-i) 0 ⟨rfl,by omega,rfl⟩ rfl ?_
 rintro i _ ⟨rfl,hi,hf⟩ q hq;have hcl0:(lvC (y0b s)).length=s.length:=by simp [lvC,hll]
 (try simp only [rwp,hwR,zA,zB,zC,zD,zE,zF,zG,zH,zI,x9d])
 (refine q03 (fun hlt=>?_) (fun hlt=>?_)<;>(try simp only [hlc] at hlt))<;>rw [hcl0] at hlt
 ·obtain ⟨t,ht⟩:=q0e hlt;obtain ⟨l,hl,hlen⟩:=yjr (y64 s) ht;have htn:=hsz.2.1 t (lA ht);have hcl:(lvC (y0b s))[i]?=some [.sl 1 (l.map fun x=>[iv x])]:=by rw [lvC,lC,hl];rfl
  rw [q0j ht,q32] at hf;refine LoopP.introS (fun k:Nat=>[(2,.ptr b 0),(4,.sl 1 (lvC (y0b s))),(5,.int .i64 (q0q s)),(6,.int .i64 i),(7,.int .i64 k)])
   (fun k S'=>S'=supd S b (.cells 88 [.int .i64 0,.int .i64 0,.int .i64 0] 3)/\k<=t.rels.length/\q33 (fun (_:Unit) k r=>(y6j s i k t r,())) k (t.rels.drop k) ()=q33 (fun (_:Unit) k r=>(y6j s i k t r,())) 0 t.rels ()) (fun k=>t.rels.length-k) 0 ⟨rfl,by omega,rfl⟩ rfl ?_
  rintro k _ ⟨rfl,hk,hf2⟩ q2 hq2;have hlm:(l.map fun x=>[iv x]).length=t.rels.length:=by rw [lB,hlen]
  (try simp only [rwp,hwR,zA,zB,zC,zD,zE,zF,zG,zH,zI,x9c,hcl])
  (refine q03 (fun hlt2=>?_) (fun hlt2=>?_)<;>(try simp only [hlc] at hlt2))<;>(try simp only [lB] at hlt2)<;>rw [hlen] at hlt2
  ·obtain ⟨r,hr⟩:=q0e hlt2;have hkl:k<l.length:=by omega
   have hgx:y04 (y0b s) (i,k)=l[k]:=by simp [y04,hl,lF hkl]
   have hxk:l[k]?=some l[k]:=lF hkl;rw [q0j hr,q33] at hf2;(try simp only [rwp,hwR,zA,zB,zC,zD,zE,zF,zG,zH,zI,hcl,hxk,Option.map_some])
   (refine q03 (fun hc=>?_) (fun hc=>?_)<;>(try simp only [hlc] at hc))
   ·have he:y6j s i k t r=11:=by rw [y6j,hgx,if_pos (by omega)]
    rw [he,if_neg (by decide)] at hf2
    rw [<- hf2] at hf;(try simp only [rwp,hwR,zA,zB,zC,zD,zE,zF,zG,zH,zI]);refine ret _ _ _ ?_;rw [hck,<- hf];rfl
   ·have he:y6j s i k t r=0:=by rw [y6j,hgx,if_neg (by omega)]
    rw [he,if_pos rfl] at hf2
    (simp (disch:=omega) only [q04])
    exact q08 rfl (hq2 (k+1) _ ⟨rfl,by omega,hf2⟩ (by omega))
  ·rw [q15 hlt2,q33] at hf2;rw [<- hf2] at hf
   (simp (disch:=omega) only [q04])
   exact q08 rfl (hq (i+1) _ ⟨rfl,by omega,hf⟩ (by omega))
 ·rw [q15 hlt,q32] at hf;(try simp only [rwp,hwR,zA,zB,zC,zD,zE,zF,zG,zH,zI]);refine ret _ _ _ ?_;rw [hck,<- hf];rfl
theorem y2y {s:List Ty} (hs:OkS s) (hN:OkN s):y02 PG x6c [scA s] (xcl s):=by
 intro S;refine xjo ?_;unfold xhz;(try simp only [rwp,hwR,zA,zB,zC,zD,zE,zF,zG,zH,zI,scA]);refine q05 (by simpa only [scA] using y6x hs hN) ?_
 obtain ⟨ft,fr,fe,hp⟩:=yc7 s;rw [hp];(try simp only [rwp,hwR,zA,zB,zC,zD,zE,zF,zG,zH,zI,flA])
 (refine q03 (fun h0=>?_) (fun h0=>?_)<;>(try simp only [hlc] at h0))
 ·exact q5n ⟨by rw [xcl,hp,q25,if_neg (by omega)],rfl⟩
 have hg:GoodS s:=q2x (by rw [hp,q25];omega)
 refine q05 (by simpa only [scA] using q6o hs hN hg) ?_
 (try simp only [rwp,hwR,zA,zB,zC,zD,zE,zF,zG,zH,zI]);exact q5n ⟨by rw [xcl,hp,q25,if_pos (by omega)],rfl⟩
theorem yb4:∀ {l:List Nat} {x:Nat},x∈l->x<=l.sum
 | [],x,h=>by cases h
 | y :: l,x,h=>by
  rw [List.sum_cons];rcases List.mem_cons.1 h with rfl | h
  ·omega
  ·have:=yb4 h;omega
theorem xfr {s:List Ty} {most:Int} (h:yrb s most=true) (hm:most<=1000):OkN s:=by
 have h1:=yra h;intro t ht r hr;have h2:rsz r<=tsz t:=by
  unfold tsz;exact yb4 (List.mem_map_of_mem hr)
 have h3:tsz t<=(s.map tsz).sum:=yb4 (List.mem_map_of_mem ht);unfold ssz at h1;omega
set_option maxRecDepth 4000
structure Ob where
 ty:ByteArray
 id:ByteArray
 deriving DecidableEq
structure Nd where
 o:Ob
 rl:ByteArray
 deriving DecidableEq
structure Tu where
 o:Ob
 rl:ByteArray
 s:Nd
 deriving DecidableEq
def obC (o:Ob):List AV:=[.str o.ty,.str o.id]
def ndC (n:Nd):List AV:=[.str n.o.ty,.str n.o.id,.str n.rl]
def tuC (t:Tu):List AV:=[.str t.o.ty,.str t.o.id,.str t.rl,.str t.s.o.ty,.str t.s.o.id,.str t.s.rl]
structure OkO (o:Ob):Prop where
 ty:o.ty.size<=1125899906842624
 id:o.id.size<=1125899906842624
structure OkD (n:Nd):Prop where
 o:OkO n.o
 rl:n.rl.size<=1125899906842624
structure OkU (t:Tu):Prop where
 o:OkO t.o
 rl:t.rl.size<=1125899906842624
 s:OkD t.s
theorem y6z (n:Int):y02 PG yts [.int .u8 n] (.bool (ylt n)):=by
 intro S;refine xd3 ?_;unfold xa3;(try simp only [rwp,zA,zB,zC,zD,zE,zF,zG,zH,zI]);exact q02 ⟨rfl,rfl⟩
theorem q99 (s:ByteArray) (c:Int):y02 PG 216 [.str s,.int .u8 c] (.int .i64 (Lib.indexByte s.data.toList c.toNat.toUInt8)):=by
 intro S R w vs hs hv;obtain ⟨l⟩:=vs
 match l,hv with
 | [],hv=>cases hv.1
 | [_],hv=>cases hv.1
 | _ :: _ :: _ :: _,hv=>cases hv.1
 | [a,b],hv=>
  have h1:RV R w (.str s) a:=hv.head;have h2:RV R w (.int .u8 c) b:=hv.tail.head;cases h1;cases h2;refine .inr ⟨_,w,?_,R,S,.ret (.int .i64 (Lib.indexByte s.data.toList c.toNat.toUInt8)),.int _ _,⟨rfl,rfl⟩,hs,Step.refl _ _ _⟩;rw [run_callFunc_extern Go.Proofs.Tryz.func216 (by kernel_rfl) (by kernel_rfl) (by kernel_rfl) (e:=Extern.BytealgIndexByte.indexByte) (by kernel_rfl),Lib.run_indexByteString]
  rfl
theorem y9j (s:ByteArray) (c:Int):y02 PG yth [.str s,.int .u8 c] (.int .i64 (Lib.indexByte s.data.toList c.toNat.toUInt8)):=by
 intro S;refine xcu ?_;unfold x9u;refine q05 (q99 s c) ?_;exact q02 ⟨rfl,rfl⟩
theorem ycm (s:ByteArray) (c:Int):y02 PG ytr [.str s,.int .u8 c] (.int .i64 (Lib.indexByte s.data.toList c.toNat.toUInt8)):=by
 intro S;refine xd2 ?_;unfold xa2;refine q05 (y9j s c) ?_;exact q02 ⟨rfl,rfl⟩
def yyx (n:Int):Bool:=decide (n=95)||(decide (n=46)||decide (n=45))
theorem ypt {b:UInt8}:decide ((0:Int)<=Lib.indexByte [95,46,45] b.toNat.toUInt8)=yyx b.toNat:=by
 have key:∀ n:Fin 256,decide ((0:Int)<=Lib.indexByte [95,46,45] n.1.toUInt8)=yyx n.1:=by decide +kernel
 exact key ⟨b.toNat,b.toNat_lt⟩
def idN (n:Int):Bool:=q6l n||(ylt n||(y22 n||yyx n))
theorem y9e (b:UInt8):y02 PG ytt [.int .u8 b.toNat] (.bool (idN b.toNat)):=by
 intro S;refine xd4 ?_;unfold xa4;refine q05 (q58 b.toNat) ?_;cases h1:q6l b.toNat
 ·(try simp only [rwp,zA,zB,zC,zD,zE,zF,zG,zH,zI]);refine q05 (y6z b.toNat) ?_;cases h2:ylt b.toNat
  ·(try simp only [rwp,zA,zB,zC,zD,zE,zF,zG,zH,zI,ya5]);refine q05 (q87 b.toNat) ?_;cases h3:y22 b.toNat
   ·(try simp only [rwp,zA,zB,zC,zD,zE,zF,zG,zH,zI,y4z]);refine q05 (ycm _ _) ?_;(try simp only [rwp,zA,zB,zC,zD,zE,zF,zG,zH,zI]);exact q02 ⟨by rw [ypt];simp [idN,h1,h2,h3],rfl⟩
   ·(try simp only [rwp,zA,zB,zC,zD,zE,zF,zG,zH,zI,y4z]);exact q02 ⟨by simp [idN,h1,h2,h3],rfl⟩
  ·(try simp only [rwp,zA,zB,zC,zD,zE,zF,zG,zH,zI,ya5,y4z]);exact q02 ⟨by simp [idN,h1,h2],rfl⟩
 ·(try simp only [rwp,zA,zB,zC,zD,zE,zF,zG,zH,zI,ya5,y4z]);exact q02 ⟨by simp [idN,h1],rfl⟩
def idB (s:ByteArray):Bool:=ypd idN s&&(decide ((0:Int)<s.size)&&decide ((s.size:Int)<=24))
theorem yib {s:ByteArray} (hs:s.size<=1125899906842624):y02 PG yui [.str s] (.bool (idB s)):=by
 intro S;refine xdv ?_;unfold xav;refine q05 (q9q y9e hs 24) ?_;exact q02 ⟨rfl,rfl⟩
theorem nb1:∀ a b c d e:Bool,(!(a&&b)&&!c&&!d&&!e)=!((a&&b)||(c||(d||e))):=by decide
theorem nb2:∀ z a b c d e:Bool,(!z&&!(a&&b)&&!c&&!d&&!e)=!(z||((a&&b)||(c||(d||e)))):=by decide
theorem y4g {s:ByteArray} (hs:s.size<=1125899906842624):y02 PG x5h [.str s] (.bool (idB s)):=by
 intro S;refine xio ?_;unfold xh0;(try simp only [rwp,zA,zB,zC,zD,zE,zF,zG,zH,zI,x31])
 (refine q03 (fun h0=>?_) (fun h0=>?_)<;>(try simp only [rwp,zA,zB,zC,zD,zE,zF,zG,zH,zI,h0]))
 ·simp only [Bool.or_eq_true,decide_eq_true_eq] at h0;refine q02 ⟨?_,rfl⟩;have:idB s=false:=by
   rcases h0 with h | h
   ·simp only [idB,decide_eq_false (show ¬ (0:Int)<s.size by omega),Bool.false_and,Bool.and_false]
   ·simp only [idB,decide_eq_false (show ¬ (s.size:Int)<=24 by omega),Bool.and_false]
  rw [this]
 ·simp only [Bool.or_eq_false_iff,decide_eq_false_iff_not] at h0;refine LoopP.intro (fun i:Nat=>[(0,.str s),(3,.int .i64 i)]) (fun _=>S) (fun i=>i<=s.size/\∀ j b,j<i->s[j]?=some b->idN b.toNat=true) (fun i=>s.size-i) 0 ⟨by omega,by omega⟩ rfl (Sub.refl S) ?_
  rintro i ⟨hi,hn⟩ r hr;(try simp only [rwp,zA,zB,zC,zD,zE,zF,zG,zH,zI,x8u])
  (refine q03 (fun hlt=>?_) (fun hlt=>?_)<;>(try simp only [hlc] at hlt))
  ·obtain ⟨b,hb⟩:=q59 hlt;(try simp only [rwp,zA,zB,zC,zD,zE,zF,zG,zH,zI,hb]);have good:idN b.toNat=true->r [(0,.str s),(3,.int .i64 ((i:Int)+1))] S:=fun h=>by
    refine hr (i+1) ⟨by omega,fun j c hj hc=>?_⟩ (by omega)
    rcases Nat.lt_succ_iff_lt_or_eq.1 hj with h1 | rfl
    ·exact hn j c h1 hc
    ·rw [hb] at hc;cases hc;exact h
   have bad:idN b.toNat=false->idB s=false:=fun h=>by simp only [idB,q9a hb h,Bool.false_and]
   cases a1:(decide (97<=(b.toNat:Int))&&decide ((b.toNat:Int)<=122))<;>cases a2:decide (65<=(b.toNat:Int))<;>(try simp only [rwp,zA,zB,zC,zD,zE,zF,zG,zH,zI,x30,x2z,x2y,x2x,x2w,x2v,x2u,ynt,a1,a2])
   all_goals have key:idN b.toNat=((decide (97<=(b.toNat:Int))&&decide ((b.toNat:Int)<=122))||((decide (65<=(b.toNat:Int))&&decide ((b.toNat:Int)<=90))||((decide (48<=(b.toNat:Int))&&decide ((b.toNat:Int)<=57))||(decide ((b.toNat:Int)=95)||(decide ((b.toNat:Int)=46)||decide ((b.toNat:Int)=45)))))):=rfl
   all_goals rw [a1,a2] at key
   ·simp only [Bool.false_or,Bool.false_and] at key
    (refine q03 (fun h9=>?_) (fun h9=>?_)<;>(try simp only [rwp,zA,zB,zC,zD,zE,zF,zG,zH,zI,h9]))
    ·exact q02 ⟨by rw [bad (key.trans (Eq.mp (Bool.not_eq_true' _) ((nb1 _ _ _ _ _).symm.trans h9)))],rfl⟩
    ·(simp (disch:=omega) only [q04]);exact q08 rfl (good (key.trans (Eq.mp (Bool.not_eq_false' _) ((nb1 _ _ _ _ _).symm.trans h9))))
   ·simp only [Bool.false_or,Bool.true_and] at key
    (refine q03 (fun h9=>?_) (fun h9=>?_)<;>(try simp only [rwp,zA,zB,zC,zD,zE,zF,zG,zH,zI,h9]))
    ·exact q02 ⟨by rw [bad (key.trans (Eq.mp (Bool.not_eq_true' _) ((nb2 _ _ _ _ _ _).symm.trans h9)))],rfl⟩
    ·(simp (disch:=omega) only [q04]);exact q08 rfl (good (key.trans (Eq.mp (Bool.not_eq_false' _) ((nb2 _ _ _ _ _ _).symm.trans h9))))
   ·(simp (disch:=omega) only [q04]);exact q08 rfl (good key)
   ·(simp (disch:=omega) only [q04]);exact q08 rfl (good key)
  ·have hall:ypd idN s=true:=allB_iff.2 fun j c hc=>hn j c (by have:=q8b hc;omega) hc
   refine q02 ⟨?_,rfl⟩;rw [idB,hall,decide_eq_true (show (0:Int)<s.size by omega),decide_eq_true (show (s.size:Int)<=24 by omega)]
   rfl
def obB (o:Ob):Bool:=q0r o.ty&&idB o.id
def tuB (t:Tu):Bool:=obB t.o&&(obB t.s.o&&(q0r t.rl&&(decide (t.s.rl=⟨#[]⟩)||q0r t.s.rl)))
def q4r (o:Ob):ByteArray:=if obB o then o.ty++⟨#[58]⟩++o.id else ⟨#[]⟩
def q54 (n:Nd):ByteArray:=if obB n.o then (if n.rl=⟨#[]⟩ then q4r n.o else if q0r n.rl then q4r n.o++⟨#[35]⟩++n.rl else ⟨#[]⟩) else ⟨#[]⟩
def q9s (t:Tu):ByteArray:=if tuB t then q4r t.o++⟨#[35]⟩++t.rl++⟨#[64]⟩++q54 t.s else ⟨#[]⟩
theorem q4e {a b:ByteArray}:(a++b).size=a.size+b.size:=by simp
theorem yn4 {a b:ByteArray} (h:0<a.size\/0<b.size):¬ a++b=⟨#[]⟩:=fun e=>by
 have:=congrArg ByteArray.size e;rw [q4e] at this;have:(ByteArray.mk #[]).size=0:=rfl;omega
theorem q2z {o:Ob} (ho:OkO o):y02 PG yve [.agg (obC o)] (.str (q4r o)):=by
 intro S;refine xex ?_;unfold xbx;(try simp only [rwp,zA,zB,zC,zD,zE,zF,zG,zH,zI,rwb,reduceIte,obC]);refine q05 (q1c ho.ty) ?_;have h1:=ho.ty;have h2:=ho.id;cases a1:q0r o.ty
 ·(try simp only [rwp,zA,zB,zC,zD,zE,zF,zG,zH,zI,rwb,reduceIte,yao]);exact q02 ⟨by simp [q4r,obB,a1],rfl⟩
 ·(try simp only [rwp,zA,zB,zC,zD,zE,zF,zG,zH,zI,rwb,reduceIte]);refine q05 (yib ho.id) ?_;cases a2:idB o.id
  ·(try simp only [rwp,zA,zB,zC,zD,zE,zF,zG,zH,zI,rwb,reduceIte,yao]);exact q02 ⟨by simp [q4r,obB,a1,a2],rfl⟩
  ·(try simp only [rwp,zA,zB,zC,zD,zE,zF,zG,zH,zI,rwb,reduceIte,yao,ByteArray.size_append]);refine ⟨?_,?_,q02 ⟨by simp [q4r,obB,a1,a2],rfl⟩⟩
   ·have:(ByteArray.mk #[58]).size=1:=rfl;omega
   ·have:(ByteArray.mk #[58]).size=1:=rfl;omega
theorem q66 {o:Ob} (ho:OkO o):(q4r o).size<=2251799813685249:=by
 have h1:=ho.ty;have h2:=ho.id;unfold q4r;split
 ·rw [q4e,q4e];have:(ByteArray.mk #[58]).size=1:=rfl;omega
 ·exact Nat.zero_le _
theorem q5l {o:Ob}:decide (q4r o=⟨#[]⟩)=!obB o:=by
 unfold q4r;cases h:obB o
 ·rfl
 ·rw [if_pos rfl];refine decide_eq_false (yn4 (.inl ?_));rw [q4e];have:(ByteArray.mk #[58]).size=1:=rfl;omega
theorem q48 {n:Nd} (hn:OkD n):y02 PG yvd [.agg (ndC n)] (.str (q54 n)):=by
 intro S;refine xew ?_;unfold xbw;(try simp only [rwp,zA,zB,zC,zD,zE,zF,zG,zH,zI,rwb,reduceIte,ndC]);have q:=q2z hn.o;simp only [obC] at q;have h1:=q66 hn.o;have h2:=hn.rl;refine q05 q ?_;(try simp only [rwp,zA,zB,zC,zD,zE,zF,zG,zH,zI,rwb,reduceIte]);rw [q5l];cases a1:obB n.o
 ·(try simp only [rwp,zA,zB,zC,zD,zE,zF,zG,zH,zI,rwb,reduceIte,yan]);exact q02 ⟨by simp [q54,q4r,a1],rfl⟩
 ·cases a2:decide (n.rl=⟨#[]⟩)
  ·(try simp only [rwp,zA,zB,zC,zD,zE,zF,zG,zH,zI,rwb,reduceIte,yan,a2]);have a2:=of_decide_eq_false a2;refine q05 (q1c hn.rl) ?_;cases a3:q0r n.rl
   ·(try simp only [rwp,zA,zB,zC,zD,zE,zF,zG,zH,zI,rwb,reduceIte]);exact q02 ⟨by simp [q54,a1,a2,a3],rfl⟩
   ·(try simp only [rwp,zA,zB,zC,zD,zE,zF,zG,zH,zI,rwb,reduceIte,ByteArray.size_append]);have:(ByteArray.mk #[35]).size=1:=rfl;exact ⟨by omega,by omega,q02 ⟨by simp [q54,a1,a2,a3],rfl⟩⟩
  ·(try simp only [rwp,zA,zB,zC,zD,zE,zF,zG,zH,zI,rwb,reduceIte,yan,a2]);have a2:=of_decide_eq_true a2;exact q02 ⟨by simp [q54,a1,a2],rfl⟩
theorem yd4 {n:Nd} (hn:OkD n):(q54 n).size<=4503599627370496:=by
 have h1:=q66 hn.o;have h2:=hn.rl;have:(ByteArray.mk #[35]).size=1:=rfl;unfold q54
 repeat' split
 ·omega
 ·rw [q4e,q4e];omega
 ·exact Nat.zero_le _
 ·exact Nat.zero_le _
theorem y7s {n:Nd}:decide (q54 n=⟨#[]⟩)=!(obB n.o&&(decide (n.rl=⟨#[]⟩)||q0r n.rl)):=by
 unfold q54;cases h1:obB n.o
 ·rfl
 ·rw [if_pos rfl];by_cases h2:n.rl=⟨#[]⟩
  ·rw [if_pos h2,q5l,h1,decide_eq_true h2];rfl
  ·rw [if_neg h2,decide_eq_false h2];cases h3:q0r n.rl
   ·rfl
   ·rw [if_pos rfl];refine decide_eq_false (yn4 (.inl ?_));rw [q4e];have:(ByteArray.mk #[35]).size=1:=rfl;omega
theorem yt5 (t:Tu):tuB t=(obB t.o&&((obB t.s.o&&(decide (t.s.rl=⟨#[]⟩)||q0r t.s.rl))&&q0r t.rl)):=by
 unfold tuB;cases obB t.o<;>cases obB t.s.o<;>cases q0r t.rl<;>simp
theorem y7r {t:Tu}:decide (q9s t=⟨#[]⟩)=!tuB t:=by
 unfold q9s;cases h1:tuB t
 ·rfl
 ·rw [if_pos rfl];refine decide_eq_false (yn4 (.inl ?_));rw [q4e];have:(ByteArray.mk #[64]).size=1:=rfl;omega
theorem q98 {t:Tu} (ht:OkU t):y02 PG x52 [.agg (tuC t)] (.str (q9s t)):=by
 intro S;refine xi5 ?_;unfold xgh;(try simp only [rwp,zA,zB,zC,zD,zE,zF,zG,zH,zI,rwb,reduceIte,tuC]);have q1:=q2z ht.o;have q2:=q48 ht.s;simp only [obC] at q1;simp only [ndC] at q2;have h1:=q66 ht.o;have h2:=yd4 ht.s;have h3:=ht.rl;refine q05 q1 ?_;(try simp only [rwp,zA,zB,zC,zD,zE,zF,zG,zH,zI,rwb,reduceIte]);refine q05 q2 ?_;(try simp only [rwp,zA,zB,zC,zD,zE,zF,zG,zH,zI,rwb,reduceIte]);have e:=yt5 t;rw [q5l,y7s];cases a1:obB t.o
 ·(try simp only [rwp,zA,zB,zC,zD,zE,zF,zG,zH,zI,rwb,reduceIte,ynq,yiz]);exact q02 ⟨by simp [q9s,e,a1],rfl⟩
 ·cases a2:(obB t.s.o&&(decide (t.s.rl=⟨#[]⟩)||q0r t.s.rl))
  ·(try simp only [rwp,zA,zB,zC,zD,zE,zF,zG,zH,zI,rwb,reduceIte,ynq,yiz]);exact q02 ⟨by simp only [q9s,e,a1,a2];rfl,rfl⟩
  ·(try simp only [rwp,zA,zB,zC,zD,zE,zF,zG,zH,zI,rwb,reduceIte,ynq]);refine q05 (q1c ht.rl) ?_;cases a3:q0r t.rl
   ·(try simp only [rwp,zA,zB,zC,zD,zE,zF,zG,zH,zI,rwb,reduceIte,yiz]);exact q02 ⟨by simp only [q9s,e,a1,a2,a3];rfl,rfl⟩
   ·(try simp only [rwp,zA,zB,zC,zD,zE,zF,zG,zH,zI,rwb,reduceIte,yiz,ByteArray.size_append]);have:(ByteArray.mk #[35]).size=1:=rfl;have:(ByteArray.mk #[64]).size=1:=rfl;exact ⟨by omega,by omega,by omega,by omega,q02 ⟨by simp only [q9s,e,a1,a2,a3];rfl,rfl⟩⟩
set_option maxRecDepth 4000
section
variable {α:Type} {enc:α->List AV} {xs:List α} {S:q00} {g:Nat} {fi ca:List AV} {p:α->Bool}
theorem qa2 (hl:∀ x∈xs,(enc x).length=2) (hb:xs.length<=1125899906842624) (hp:∀ x∈xs,AFunS PG g (fi++[.agg (enc x)]++ca) S (.bool (p x))) :
  AFunS PG yvc [.sl 2 (xs.map enc),.func (.func g) fi ca] S (.int .i64 (oi (q0s p xs))):=by
 refine xeu ?_;unfold xbu;(try simp only [rwp,zA,zB,zC,zD,zE,zF,zG,zH,zI]);refine LoopP.intro (fun i:Nat=>[(0,.sl 2 (xs.map enc)),(1,.func (.func g) fi ca),(7,.int .i64 xs.length),(8,.int .i64 i)]) (fun _=>S) (fun i=>i<=xs.length/\∀ j x,j<i->xs[j]?=some x->p x=false) (fun i=>xs.length-i) 0 ⟨by omega,by omega⟩ rfl (Sub.refl S) ?_
 rintro i ⟨hi,hn⟩ r hr;unfold yxr;(try simp only [rwp,zA,zB,zC,zD,zE,zF,zG,zH,zI])
 (refine q03 (fun hlt=>?_) (fun hlt=>?_)<;>(try simp only [hlc] at hlt))
 ·obtain ⟨x,hx⟩:=q0e hlt;(try simp only [rwp,zA,zB,zC,zD,zE,zF,zG,zH,zI,hx]);rw [y12 (hl x (lA hx))];refine y6o (hp x (lA hx)) ?_
  (refine q03 (fun he=>?_) (fun he=>?_)<;>(try simp only [rwp,zA,zB,zC,zD,zE,zF,zG,zH,zI,he]))
  ·have:q0s p xs=some i:=firstI_some.2 ⟨⟨x,hx,he⟩,hn⟩;exact q02 ⟨by rw [this];rfl,rfl⟩
  ·(simp (disch:=omega) only [q04])
   refine q08 rfl (hr (i+1) ⟨by omega,fun j u hj hu=>?_⟩ (by omega))
   rcases Nat.lt_succ_iff_lt_or_eq.1 hj with h | rfl
   ·exact hn j u h hu
   ·rw [hx] at hu;cases hu;exact he
 ·have:q0s p xs=none:=firstI_none.2 fun j u hu=>hn j u (by have:=(List.getElem?_eq_some_iff.1 hu).1;omega) hu
  exact q02 ⟨by rw [this];rfl,rfl⟩
theorem q49 (hl:∀ x∈xs,(enc x).length=2) (hb:xs.length<=1125899906842624) (hp:∀ x∈xs,AFunS PG g (fi++[.agg (enc x)]++ca) S (.bool (p x))) :
  AFunS PG x5g [.sl 2 (xs.map enc),.func (.func g) fi ca] S (.bool (xs.any p)):=by
 refine xin ?_;unfold xgz;refine q1a (qa2 hl hb hp) ?_;(try simp only [rwp,zA,zB,zC,zD,zE,zF,zG,zH,zI]);exact q02 ⟨by rw [y5w,q3x],rfl⟩
end
theorem ycl {l:List Rf} (hl:l.length<=1125899906842624) (f:Rf):y02 PG yuz [.sl 2 (l.map rfC),.agg (rfC f)] (.int .i64 (oi (q0s (fun g=>decide (f.ty=g.ty)&&decide (f.rl=g.rl)) l))):=by
 intro S;refine xec ?_;unfold xbc;(try simp only [rwp,zA,zB,zC,zD,zE,zF,zG,zH,zI,rfC]);refine LoopP.intro (fun i:Nat=>[(0,.sl 2 (l.map rfC)),(3,.rop [.str f.ty,.str f.rl]),(7,.int .i64 l.length),(8,.int .i64 i)]) (fun _=>S) (fun i=>i<=l.length/\∀ j x,j<i->l[j]?=some x->(decide (f.ty=x.ty)&&decide (f.rl=x.rl))=false) (fun i=>l.length-i) 0 ⟨by omega,by omega⟩ rfl (Sub.refl S) ?_
 rintro i ⟨hi,hn⟩ r hr;unfold yxh;(try simp only [rwp,zA,zB,zC,zD,zE,zF,zG,zH,zI])
 (refine q03 (fun hlt=>?_) (fun hlt=>?_)<;>(try simp only [hlc] at hlt))
 ·obtain ⟨x,hx⟩:=q0e hlt;(try simp only [rwp,zA,zB,zC,zD,zE,zF,zG,zH,zI,hx,rfC,q8z])
  (refine q03 (fun he=>?_) (fun he=>?_)<;>(try simp only [rwp,zA,zB,zC,zD,zE,zF,zG,zH,zI,he]))
  ·have:q0s (fun g:Rf=>decide (f.ty=g.ty)&&decide (f.rl=g.rl)) l=some i:=firstI_some.2 ⟨⟨x,hx,he⟩,hn⟩
   exact q02 ⟨by rw [this];rfl,rfl⟩
  ·(simp (disch:=omega) only [q04])
   refine q08 rfl (hr (i+1) ⟨by omega,fun j u hj hu=>?_⟩ (by omega))
   rcases Nat.lt_succ_iff_lt_or_eq.1 hj with h | rfl
   ·exact hn j u h hu
   ·rw [hx] at hu;cases hu;exact he
 ·have:q0s (fun g:Rf=>decide (f.ty=g.ty)&&decide (f.rl=g.rl)) l=none:=firstI_none.2 fun j u hu=>hn j u (by have:=(List.getElem?_eq_some_iff.1 hu).1;omega) hu
  exact q02 ⟨by rw [this];rfl,rfl⟩
theorem y32 {l:List Rf} (hl:l.length<=1125899906842624) (f:Rf):y02 PG yvs [.sl 2 (l.map rfC),.agg (rfC f)] (.bool (l.any fun g=>decide (f.ty=g.ty)&&decide (f.rl=g.rl))):=by
 intro S;refine xfe ?_;unfold xce;have q:=ycl hl f;simp only [rfC] at q;(try simp only [rwp,zA,zB,zC,zD,zE,zF,zG,zH,zI,rfC]);refine q05 q ?_;(try simp only [rwp,zA,zB,zC,zD,zE,zF,zG,zH,zI]);exact q02 ⟨by rw [y5w,q3x],rfl⟩
def q1z (s:List Ty) (t:Tu):Int:=if tuB t then (match q0d s t.o.ty t.rl with
  | none=>6
  | some (_,_,r)=>if (y05 s t.s.o.ty).isSome then (if r.refs.any fun f=>decide (t.s.o.ty=f.ty)&&decide (t.s.rl=f.rl) then 0 else 10) else 6) else 1
theorem q96 {u:Ty} {t:Tu}:y02 PG x51 [.agg (tyC u),.rop (tuC t)] (.bool (decide (u.name=t.s.o.ty))):=by
 intro S;refine xi4 ?_;unfold xgg;(try simp only [rwp,zA,zB,zC,zD,zE,zF,zG,zH,zI,tyC,tuC]);exact q02 ⟨rfl,rfl⟩
theorem yjc {s:List Ty} {n:ByteArray}:(s.any fun u=>decide (u.name=n))=(y05 s n).isSome:=by rw [y05,q3x]
theorem q5y {s:List Ty} (hs:OkS s) {t:Tu} (ht:OkU t):y02 PG x5w [scA s,.agg (tuC t)] (.int .i64 (q1z s t)):=by
 intro S;refine xj7 ?_;unfold xhj;have q:=q98 ht;simp only [tuC] at q;(try simp only [rwp,zA,zB,zC,zD,zE,zF,zG,zH,zI,rwb,reduceIte,scA,tuC]);refine q05 q ?_;(try simp only [rwp,zA,zB,zC,zD,zE,zF,zG,zH,zI,rwb,reduceIte]);rw [y7r];cases a1:tuB t
 ·(try simp only [rwp,zA,zB,zC,zD,zE,zF,zG,zH,zI,rwb,reduceIte]);exact q02 ⟨by simp [q1z,a1],rfl⟩
 ·(try simp only [rwp,zA,zB,zC,zD,zE,zF,zG,zH,zI,rwb,reduceIte]);have q2:=q1n hs t.o.ty t.rl;simp only [scA] at q2;cases hq:q0d s t.o.ty t.rl with
  | none=>
   refine q0c (q2 S) ?_;rintro ae S' ⟨rfl,rfl⟩;rw [hq];dsimp only;(try simp only [rwp,zA,zB,zC,zD,zE,zF,zG,zH,zI,rwb,reduceIte,yo1,y0v]);exact q02 ⟨by simp [q1z,a1,hq],rfl⟩
  | some q3=>
   obtain ⟨i,k,r⟩:=q3;obtain ⟨-,ty,h2,-,h4⟩:=q0z hq;have hok:=(hs.at h2).at h4;refine q0c (q2 S) ?_;rintro ae S' ⟨rfl,rfl⟩;rw [hq];dsimp only;(try simp only [rwp,zA,zB,zC,zD,zE,zF,zG,zH,zI,rwb,reduceIte,q0k]);refine q1a (q49 (enc:=tyC) (fi:=[]) (p:=fun u:Ty=>decide (u.name=t.s.o.ty)) (fun x _=>rfl) hs.types fun u _=>q96 (u:=u) (t:=t) S') ?_
   rw [yjc];cases a2:(y05 s t.s.o.ty).isSome
   ·(try simp only [rwp,zA,zB,zC,zD,zE,zF,zG,zH,zI,rwb,reduceIte,yo1]);exact q02 ⟨by simp only [q1z,a1,hq,a2];rfl,rfl⟩
   ·(try simp only [rwp,zA,zB,zC,zD,zE,zF,zG,zH,zI,rwb,reduceIte,yo1]);have q4:=y32 hok.refs ⟨t.s.o.ty,t.s.rl⟩;simp only [rfC] at q4;refine q05 q4 ?_;cases a3:(r.refs.any fun f=>decide (t.s.o.ty=f.ty)&&decide (t.s.rl=f.rl))
    ·(try simp only [rwp,zA,zB,zC,zD,zE,zF,zG,zH,zI,rwb,reduceIte]);exact q02 ⟨by simp only [q1z,a1,hq,a2,a3];rfl,rfl⟩
    ·(try simp only [rwp,zA,zB,zC,zD,zE,zF,zG,zH,zI,rwb,reduceIte]);exact q02 ⟨by simp only [q1z,a1,hq,a2,a3];rfl,rfl⟩
theorem q8f {α:Type} {p:α->Bool} {l:List α} {i:Nat} {x:α} (h:l[i]?=some x):(l.take (i+1)).any p=((l.take i).any p||p x):=by
 rw [q0w h,List.any_append];simp
def q0a (s:List Ty) (l:List Tu):List Tu:=l.filter fun t=>decide (q1z s t=0)
def ofF (l:List Tu) (n:Nd):List Tu:=l.filter fun t=>decide (t.o=n.o)&&decide (t.rl=n.rl)
theorem q1y {α:Type} {p:α->Bool} {l:List α} {i:Nat} {x:α} (h:l[i]?=some x):(l.take (i+1)).filter p=(l.take i).filter p++if p x then [x] else []:=by
 rw [q0w h,List.filter_append]
 congr 1
 cases hp:p x<;>simp [hp]
abbrev y7b:Nat:=41
theorem LstN.tu {S0 S:q00} {v:AV} {l:List Tu} {t:Tu} {K:AV->q00->Prop} (hs:Sub S0 S) (h:LstN S0 S y7b 6 v (l.map tuC)) (hl:l.length<=1000000) (hK:∀ v' S',Sub S0 S'->LstN S0 S' y7b 6 v' ((l++[t]).map tuC)->K v' S'):apW S y7b 6 96 v (.sl 6 [tuC t]) K:=by
 refine LstN.app hs h (fun r hr=>by rw [List.mem_singleton.1 hr];rfl) (q1u fun r hr=>by rw [List.mem_singleton.1 hr];rfl) (by simp only [lB,lM];omega) fun v' S' h1 h2 _=>?_
 exact hK v' S' h1 (by simpa using h2)
structure OkL (l:List Tu):Prop where
 n:l.length<=100000
 ok:∀ t∈l,OkU t
def y7o (s:List Ty) (l:List Tu):Bool:=yrb s 60&&decide ((l.length:Int)<=30)
theorem y71 {s:List Ty} (hs:OkS s) (l:List Tu):y02 PG x6e [scA s,.sl 6 (l.map tuC)] (.bool (y7o s l)):=by
 intro S;refine xjs ?_;unfold xi2;(try simp only [rwp,zA,zB,zC,zD,zE,zF,zG,zH,zI,rwb,reduceIte,scA]);refine q05 (by simpa only [scA] using ycg hs (most:=60) (by decide) (by decide)) ?_
 cases a1:yrb s 60<;>(try simp only [rwp,zA,zB,zC,zD,zE,zF,zG,zH,zI,rwb,reduceIte])<;>exact q02 ⟨by simp [y7o,a1],rfl⟩
def q4o {α σ:Type} (step:σ->α->Option (Bool×σ)):List α->σ->Option (Bool×σ)
 | [],a=>some (false,a)
 | x :: r,a=>match step a x with
  | none=>none
  | some (true,a')=>some (true,a')
  | some (false,a')=>q4o step r a'
structure q1k where
 s:List Ty
 of:Nd->List Nd
 who:Ob
def y5e (who:Ob) (ask:Nd->Nat->Option (Bool×Nat)) (w:Nat) (x:Nd):Option (Bool×Nat):=if x.rl=⟨#[]⟩ then some (decide (x.o=who),w) else ask x w
def y2r (over:ByteArray) (ask:Nd->Nat->Option (Bool×Nat)) (w:Nat) (x:Nd):Option (Bool×Nat):=if x.rl=⟨#[]⟩ then ask ⟨x.o,over⟩ w else some (false,w)
def yrh (k:Int) (p:Option (Bool×Nat)) (q:Nat->Option (Bool×Nat)):Option (Bool×Nat):=match p with
 | none=>none
 | some (x,w1)=>if x=decide (k=2) then some (x,w1) else match q w1 with
  | none=>none
  | some (y,w2)=>some (if k=4 then !y else y,w2)
def exQ (E:q1k) (ask:Nd->Nat->Option (Bool×Nat)) (o:Ob):Nat->Ex->Nat->Option (Bool×Nat)
 | 0,_,_=>none
 | m+1,.mk k n ov ks,w=>if k=0 then ask ⟨o,n⟩ w else if k=1 then q4o (y2r ov ask) (E.of ⟨o,n⟩) w else match ks with
  | [a,b]=>yrh k (exQ E ask o m a w) (exQ E ask o m b)
  | _=>none
def y74 (E:q1k) (ask:Nd->Nat->Option (Bool×Nat)) (n:Nd) (r:Rl) (w:Nat):Option (Bool×Nat):=
 if r.refs.length=0 then exQ E ask n.o 12 r.ex w else q4o (y5e E.who ask) (E.of n) w
def y0q (E:q1k) (B:Int):Nat->List Nd->Nd->Nat->Option (Bool×Nat)
 | 0,P,n,w=>match q0d E.s n.o.ty n.rl with
  | none=>some (false,w)
  | some _=>none
 | f+1,P,n,w=>match q0d E.s n.o.ty n.rl with
  | none=>some (false,w)
  | some (_,_,r)=>if B<(w:Int)+1 then none else if n∈P then some (false,w+1) else y74 E (y0q E B f (n :: P)) n r (w+1)
def Bu {α:Type} (b:Int) (f g:α->Nat->Option (Bool×Nat)):Prop:=∀ n w x w',f n w=some (x,w')->w<=w'/\((w:Int)<=b->((w':Int)<=b->g n w=some (x,w'))/\(b<(w':Int)->g n w=none))
section
variable {b:Int} {E:q1k} {f g:Nd->Nat->Option (Bool×Nat)}
theorem Bu.fold {α:Type} {s t:Nat->α->Option (Bool×Nat)} (h:Bu b (fun x w=>s w x) (fun x w=>t w x)):Bu b (q4o s) (q4o t):=by
 intro l
 induction l with
 | nil=>
  intro w y w' e;simp only [q4o,Option.some.injEq,Prod.mk.injEq] at e;obtain ⟨rfl,rfl⟩:=e;exact ⟨Nat.le_refl _,fun hw=>⟨fun _=>rfl,fun h=>by omega⟩⟩
 | cons x r ih=>
  intro w y w' e;unfold q4o at e ⊢;cases hs:s w x with
  | none=>rw [hs] at e;cases e
  | some q=>
   obtain ⟨z,w1⟩:=q;rw [hs] at e;obtain ⟨h1,h2⟩:=h x w z w1 hs;dsimp only at h2;cases z with
   | true=>
    simp only [Option.some.injEq,Prod.mk.injEq] at e;obtain ⟨rfl,rfl⟩:=e;exact ⟨h1,fun hw=>⟨fun h=>by rw [(h2 hw).1 h],fun h=>by rw [(h2 hw).2 h]⟩⟩
   | false=>
    obtain ⟨k1,k2⟩:=ih w1 y w' e;refine ⟨by omega,fun hw=>?_⟩
    by_cases h4:(w1:Int)<=b
    ·rw [(h2 hw).1 h4];exact k2 h4
    ·rw [(h2 hw).2 (by omega)]
     exact ⟨fun h=>by omega,fun _=>rfl⟩
theorem Bu.told {who:Ob} (h:Bu b f g):Bu b (fun x w=>y5e who f w x) (fun x w=>y5e who g w x):=by
 intro x w y w' e;dsimp only at e ⊢;unfold y5e at e ⊢;split at e
 ·rename_i h0
  simp only [if_pos h0];simp only [Option.some.injEq,Prod.mk.injEq] at e;obtain ⟨rfl,rfl⟩:=e;exact ⟨Nat.le_refl _,fun hw=>⟨fun _=>rfl,fun h=>by omega⟩⟩
 ·rename_i h0
  simp only [if_neg h0];exact h x w y w' e
theorem Bu.arr {over:ByteArray} (h:Bu b f g):Bu b (fun x w=>y2r over f w x) (fun x w=>y2r over g w x):=by
 intro x w y w' e;dsimp only at e ⊢;unfold y2r at e ⊢;split at e
 ·rename_i h0
  simp only [if_pos h0];exact h _ w y w' e
 ·rename_i h0
  simp only [if_neg h0];simp only [Option.some.injEq,Prod.mk.injEq] at e;obtain ⟨rfl,rfl⟩:=e;exact ⟨Nat.le_refl _,fun hw=>⟨fun _=>rfl,fun h=>by omega⟩⟩
theorem Bu.ex (h:Bu b f g) (o:Ob):∀ m,Bu b (exQ E f o m) (exQ E g o m)
 | 0=>fun e w y w' h=>by cases h
 | m+1=>by
  have ih:=Bu.ex h o m;rintro ⟨k,n,ov,ks⟩ w y w' e;unfold exQ at e ⊢;split at e
  ·rename_i h0
   simp only [if_pos h0];exact h _ w y w' e
  ·rename_i h0
   simp only [if_neg h0];split at e
   ·rename_i h1
    simp only [if_pos h1];exact Bu.fold (Bu.arr h) _ w y w' e
   ·rename_i h1
    simp only [if_neg h1]
    match ks,e with
    | [x1,x2],e=>
     dsimp only at e ⊢;unfold yrh at e ⊢;cases hs:exQ E f o m x1 w with
     | none=>rw [hs] at e;cases e
     | some q=>
      obtain ⟨z,w1⟩:=q;rw [hs] at e;obtain ⟨k1,k2⟩:=ih x1 w z w1 hs;dsimp only at e;split at e
      ·rename_i h2
       simp only [Option.some.injEq,Prod.mk.injEq] at e;obtain ⟨rfl,rfl⟩:=e;exact ⟨k1,fun hw=>⟨fun h=>by rw [(k2 hw).1 h];dsimp only;rw [if_pos h2],fun h=>by rw [(k2 hw).2 h]⟩⟩
      ·rename_i h2
       cases hs2:exQ E f o m x2 w1 with
       | none=>rw [hs2] at e;cases e
       | some q2=>
        obtain ⟨z2,w2⟩:=q2;rw [hs2] at e;simp only [Option.some.injEq,Prod.mk.injEq] at e;obtain ⟨e1,rfl⟩:=e;obtain ⟨k3,k4⟩:=ih x2 w1 z2 w2 hs2;refine ⟨by omega,fun hw=>?_⟩
        by_cases h4:(w1:Int)<=b
        ·rw [(k2 hw).1 h4];dsimp only;rw [if_neg h2];exact ⟨fun h=>by rw [(k4 h4).1 h,<- e1],fun h=>by rw [(k4 h4).2 h]⟩
        ·rw [(k2 hw).2 (by omega)]
         exact ⟨fun h=>by omega,fun _=>rfl⟩
    | [],e=>cases e
    | [_],e=>cases e
    | _ :: _ :: _ :: _,e=>cases e
theorem Bu.body (h:Bu b f g) (n:Nd) (r:Rl):Bu b (fun (_:Unit) w=>y74 E f n r w) (fun _ w=>y74 E g n r w):=by
 intro _ w y w' e;dsimp only at e ⊢;unfold y74 at e ⊢;split at e
 ·rename_i h0
  simp only [if_pos h0];exact Bu.ex h _ _ _ w y w' e
 ·rename_i h0
  simp only [if_neg h0];exact Bu.fold (Bu.told h) _ w y w' e
theorem yfm {B:Int}:∀ (fu:Nat) (P:List Nd),Bu b (y0q E B fu P) (y0q E b fu P)
 | 0,P=>by
  intro n w y w' e;unfold y0q at e ⊢;split at e
  ·rename_i h0
   try simp only [h0]
   simp only [Option.some.injEq,Prod.mk.injEq] at e;obtain ⟨rfl,rfl⟩:=e;exact ⟨Nat.le_refl _,fun hw=>⟨fun _=>rfl,fun h=>by omega⟩⟩
  ·cases e
 | fu+1,P=>by
  intro n w y w' e;unfold y0q at e ⊢;split at e
  ·rename_i h0
   try simp only [h0]
   simp only [Option.some.injEq,Prod.mk.injEq] at e;obtain ⟨rfl,rfl⟩:=e;exact ⟨Nat.le_refl _,fun hw=>⟨fun _=>rfl,fun h=>by omega⟩⟩
  ·rename_i i k r h0
   try simp only [h0]
   split at e
   ·cases e
   ·split at e
    ·rename_i h2
     simp only [Option.some.injEq,Prod.mk.injEq] at e;obtain ⟨rfl,rfl⟩:=e;refine ⟨by omega,fun hw=>⟨fun h=>?_,fun h=>?_⟩⟩
     ·rw [if_neg (by omega),if_pos h2]
     ·rw [if_pos (by omega)]
    ·rename_i h2
     obtain ⟨k1,k2⟩:=Bu.body (yfm fu (n :: P)) n r () (w+1) y w' e;refine ⟨by omega,fun hw=>?_⟩
     by_cases h3:b<(w:Int)+1
     ·rw [if_pos h3];exact ⟨fun h=>by omega,fun _=>rfl⟩
     ·rw [if_neg h3,if_neg h2];exact k2 (by omega)
theorem ysj {B:Int} {fu:Nat} {n:Nd} {y:Bool} {w':Nat} (hn:(q0d E.s n.o.ty n.rl).isSome=true) (h:y0q E B (fu+1) [] n 0=some (y,w')):1<=w'/\(w':Int)<=B:=by
 have key:∀ (fu:Nat) (P:List Nd) n w y w',y0q E B fu P n w=some (y,w')->(w:Int)<=B->(w':Int)<=B:=by
  intro fu P n w y w' h hw;rcases Int.lt_or_le B (w':Int) with h1 | h1
  ·have:=((yfm (b:=B) fu P n w y w' h).2 hw).2 h1;rw [h] at this;cases this
  ·exact h1
 unfold y0q at h;split at h
 ·rename_i h0;rw [h0] at hn;cases hn
 ·rename_i i k r h0
  split at h
  ·cases h
  ·rename_i h1
   simp only [List.not_mem_nil,if_false] at h;have h2:=(Bu.body (b:=B) (yfm fu [n]) n r () 1 y w' h).1;refine ⟨h2,?_⟩;rcases Int.lt_or_le B (w':Int) with h3 | h3
   ·have:=((Bu.body (b:=B) (yfm fu [n]) n r () 1 y w' h).2 (by omega)).2 h3
    dsimp only at this;rw [h] at this;cases this
   ·exact h3
end
def ymn (E:q1k) (B:Int) (n:Nd):AV:=
 if B<0\/100000<B\/y0a (y06 E.s)≠0 then .tup [.bool false,.int .i64 0,.int .i64 1]
 else if q0d E.s n.o.ty n.rl=none then .tup [.bool false,.int .i64 0,.int .i64 6]
 else match y0q E B 50 [] n 0 with
  | none=>.tup [.bool false,.int .i64 0,.int .i64 12]
  | some (b,w)=>.tup [.bool b,.int .i64 w,.int .i64 0]
def y07 (s:List Ty) (l:List Tu) (who:Ob):q1k:=⟨s,fun n=>(ofF (q0a s l) n).map Tu.s,who⟩
theorem y16 {s:List Ty} (h:scB s=true):∀ t∈s,∀ r∈t.rels,r.refs.length=0->y0d 12 r.ex=true:=by
 intro t ht r hr h0;have h1:=List.all_eq_true.1 h t ht;simp only [yjd,Bool.and_eq_true] at h1;have h2:=List.all_eq_true.1 h1.2 r hr;simp only [y5s,Bool.and_eq_true,Bool.or_eq_true] at h2;rcases h2.2.2 with h3 | h3
 ·rw [List.length_eq_zero_iff.1 h0] at h3;cases h3
 ·exact h3
theorem q46 {s:List Ty} {l:List Tu} (h:OkL l):OkL (q0a s l):=⟨Nat.le_trans (lK _ _) h.n,fun t ht=>h.ok t (List.mem_filter.1 ht).1⟩
theorem q9h {N:Nat} {n:Nat×Nat}:∀ {l:List Ln} {a:Lv×Bool},a.2=false->(q19 N n l a).2=false->(q19 N n l a)=a/\∀ x∈l,¬ (y04 a.1 n<y04 a.1 x.1+x.2.toNat/\y04 a.1 n<=N)
 | [],a,h0,h=>⟨rfl,fun x hx=>by cases hx⟩
 | l :: r,a,h0,h=>by
  have stay:∀ {l:List Ln} {a:Lv×Bool},a.2=true->(q19 N n l a).2=true:=by
   intro l
   induction l with
   | nil=>intro a h;exact h
   | cons x l ih=>
    intro a h;unfold q19;split
    ·exact ih rfl
    ·exact ih h
  unfold q19 at h ⊢;split at h
  ·rw [stay rfl] at h;cases h
  ·rename_i hc
   rw [if_neg hc];obtain ⟨h1,h2⟩:=q9h h0 h;refine ⟨h1,fun x hx=>?_⟩
   rcases List.mem_cons.1 hx with rfl | hx
   ·exact hc
   ·exact h2 x hx
theorem q9g {N:Nat}:∀ {w:List Rw} {a:Lv×Bool},a.2=false->(q1e N w a).2=false->∀ x∈w,∀ l∈x.2,¬ (y04 a.1 x.1<y04 a.1 l.1+l.2.toNat/\y04 a.1 x.1<=N)
 | [],a,h0,h,x,hx=>by cases hx
 | y :: w,a,h0,h,x,hx=>by
  unfold q1e at h;have stay:∀ {w:List Rw} {a:Lv×Bool},a.2=true->(q1e N w a).2=true:=by
   intro w
   induction w with
   | nil=>intro a h;exact h
   | cons z w ih=>
    intro a h;unfold q1e;refine ih ?_;have:∀ {l:List Ln} {a:Lv×Bool},a.2=true->(q19 N z.1 l a).2=true:=by
     intro l
     induction l with
     | nil=>intro a h;exact h
     | cons x l ih=>
      intro a h;unfold q19;split
      ·exact ih rfl
      ·exact ih h
    exact this h
  have h1:(q19 N y.1 y.2 a).2=false:=by
   cases hq:(q19 N y.1 y.2 a).2 with
   | false=>rfl
   | true=>rw [stay hq] at h;cases h
  obtain ⟨e1,e2⟩:=q9h h0 h1;rw [e1] at h;rcases List.mem_cons.1 hx with rfl | hx
  ·exact e2
  ·exact q9g h0 h x hx
theorem y1p {N:Nat} {s:List Ty} {w:List Rw} (hw:x42 s w):∀ {f:Nat} {lv:Lv},Shp lv s->Bdd N lv->q0q s * (N+1)<f+phi N lv->(q1e N w (q5r N w f lv,false)).2=false
 | 0,lv,h1,h2,h3=>by have:=q8r (N:=N) h1;omega
 | f+1,lv,h1,h2,h3=>by
  obtain ⟨k1,k2,k3,k4,k5,k6⟩:=q3c (N:=N) (a:=(lv,false)) hw h1 h2;unfold q5r;split
  ·rename_i hr
   have:=k5 rfl hr;exact y1p hw k1 k2 (by dsimp only at this;omega)
  ·rename_i hr
   have hr:(q1e N w (lv,false)).2=false:=by simpa using hr
   have h4:=k6 hr;dsimp only at h4;rw [h4];exact hr
theorem yla {s:List Ty} (h:q0q s<=256):(q1e (q0q s) (q2c s) (y0b s,false)).2=false:=by
 refine y1p (q6s s) (q7g s) q6h ?_;have:q0q s * (q0q s+1)<=256 * 257:=Nat.mul_le_mul h (by omega)
 omega
theorem q6b {s:List Ty} (h:y0a (y06 s)=0) {i k:Nat} {t:Ty} {r:Rl} (ht:s[i]?=some t) (hr:t.rels[k]?=some r):y04 (y0b s) (i,k)<=q0q s/\∀ l∈q1f s t.name r,y04 (y0b s) l.1+l.2.toNat<=y04 (y0b s) (i,k):=by
 have hg:=q2x h;have h1:y04 (y0b s) (i,k)<=q0q s:=by
  unfold y06 at h;split at h
  ·rename_i h0;exact absurd h h0
  ·cases hq:q34 s (y6j s) with
   | some q=>
    obtain ⟨a,b,e⟩:=q;have:=q82 hq;rw [hq] at h;exact absurd h this
   | none=>
    have h2:=q91 hq ht hr;unfold y6j at h2;split at h2
    ·cases h2
    ·omega
 refine ⟨h1,fun l hl=>?_⟩
 have h2:=q9g rfl (yla hg.many);have hm:∃ x∈q2c s,x.1=(i,k)/\x.2=q1f s t.name r:=by
  have h3:=yed ht hr;have key:∀ w:List Rw,q1x w (i,k)=some (q1f s t.name r)->∃ x∈w,x.1=(i,k)/\x.2=q1f s t.name r:=by
   intro w
   induction w with
   | nil=>intro h;cases h
   | cons x w ih=>
    intro h;unfold q1x at h;split at h
    ·rename_i he
     exact ⟨x,by simp,he.symm,Option.some.inj h⟩
    ·obtain ⟨y,hy,h4⟩:=ih h;exact ⟨y,lI _ hy,h4⟩
  exact key _ h3
 obtain ⟨x,hx,e1,e2⟩:=hm;have h4:=h2 x hx l (by rw [e2];exact hl)
 rw [e1] at h4;dsimp only at h4;omega
def lvN (s:List Ty) (n:Nd):Nat:=match q0d s n.o.ty n.rl with
 | some (i,k,_)=>y04 (y0b s) (i,k)
 | none=>0
def exB (E:q1k) (K:Nd->Bool) (o:Ob):Nat->Ex->Bool
 | 0,_=>false
 | m+1,.mk k n ov ks=>if k=0 then K ⟨o,n⟩ else if k=1 then (E.of ⟨o,n⟩).any (fun x=>decide (x.rl=⟨#[]⟩)&&K ⟨x.o,ov⟩) else match ks with
  | [a,b]=>if k=2 then exB E K o m a||exB E K o m b else if k=4 then exB E K o m a&&!exB E K o m b else exB E K o m a&&exB E K o m b
  | _=>false
def q3f (E:q1k) (K:Nd->Bool) (n:Nd) (r:Rl):Bool:=
 if r.refs.length=0 then exB E K n.o 12 r.ex else (E.of n).any fun x=>if x.rl=⟨#[]⟩ then decide (x.o=E.who) else K x
theorem qab {α:Type} {step:Nat->α->Option (Bool×Nat)} {P Q:α->Prop}:∀ {xs:List α} {w w':Nat} {b:Bool},(∀ x∈xs,∀ w b w',step w x=some (b,w')->(b=true->P x)/\(Q x->b=true))->q4o step xs w=some (b,w') ->
  (b=true->∃ x∈xs,P x)/\((∃ x∈xs,Q x)->b=true)
 | [],w,w',b,h,e=>by
  simp only [q4o,Option.some.injEq,Prod.mk.injEq] at e;obtain ⟨rfl,rfl⟩:=e;exact ⟨fun h=>(by cases h),fun ⟨x,hx,_⟩=>(by cases hx)⟩
 | x :: r,w,w',b,h,e=>by
  unfold q4o at e;cases hs:step w x with
  | none=>rw [hs] at e;cases e
  | some p=>
   obtain ⟨y,w1⟩:=p;rw [hs] at e;have hx:=h x (by simp) w y w1 hs
   cases y with
   | true=>
    simp only [Option.some.injEq,Prod.mk.injEq] at e;obtain ⟨rfl,rfl⟩:=e;exact ⟨fun _=>⟨x,by simp,hx.1 rfl⟩,fun _=>rfl⟩
   | false=>
    have ih:=qab (fun y hy=>h y (lI _ hy)) e
    refine ⟨fun hb=>?_,fun ⟨y,hy,hq⟩=>?_⟩
    ·obtain ⟨y,hy,hp⟩:=ih.1 hb;exact ⟨y,lI _ hy,hp⟩
    ·rcases List.mem_cons.1 hy with rfl | hy
     ·exact absurd (hx.2 hq) (by simp)
     ·exact ih.2 ⟨y,hy,hq⟩
structure yaz (E:q1k):Prop where
 ok:∀ n x,x∈E.of n->∃ i k r,q0d E.s n.o.ty n.rl=some (i,k,r)/\∃ f∈r.refs,x.o.ty=f.ty/\x.rl=f.rl
theorem y90 (s:List Ty) (l:List Tu) (who:Ob):yaz (y07 s l who):=by
 refine ⟨fun n x hx=>?_⟩
 obtain ⟨t,ht,rfl⟩:=List.mem_map.1 hx;unfold ofF q0a at ht;simp only [lT,Bool.and_eq_true,decide_eq_true_eq] at ht;obtain ⟨⟨-,h1⟩,h2,h3⟩:=ht;unfold q1z at h1;rw [h2,h3] at h1;split at h1
 ·split at h1
  ·cases h1
  ·rename_i i k r hf
   refine ⟨i,k,r,hf,?_⟩;split at h1
   ·split at h1
    ·rename_i hq
     obtain ⟨f,hf,hq⟩:=List.any_eq_true.1 hq;simp only [Bool.and_eq_true,decide_eq_true_eq] at hq;exact ⟨f,hf,hq⟩
    ·cases h1
   ·cases h1
 ·cases h1
def Low (s:List Ty) (N:Nat) (out:Bool) (c:Nd):Prop:=q0d s c.o.ty c.rl=none\/lvN s c+out.toNat<=N
section
variable {E:q1k} {ask:Nd->Nat->Option (Bool×Nat)} {M K:Nd->Bool} {N:Nat}
theorem yw1 (hE:yaz E) (hp:∀ c w b w',Low E.s N false c->ask c w=some (b,w')->(b=true->M c=true)/\(K c=true->b=true))
  (hn:∀ c w b w',Low E.s N true c->ask c w=some (b,w')->b=M c) (hk:∀ c,Low E.s N true c->K c=M c) (o:Ob) :
  ∀ (m:Nat) (e:Ex) (out:Bool) (w:Nat) (b:Bool) (w':Nat),y0d m e=true->(∀ p∈q0i e out,∀ l∈q3d E.s o.ty p.1 p.2,y04 (y0b E.s) l.1+l.2.toNat<=N)->exQ E ask o m e w=some (b,w') ->
   (out=false->(b=true->exB E M o m e=true)/\(exB E K o m e=true->b=true))/\(out=true->b=exB E M o m e/\exB E K o m e=exB E M o m e)
 | 0,e,out,w,b,w',hm,hl,h=>by cases hm
 | m+1,.mk k n ov ks,out,w,b,w',hm,hl,h=>by
  have ih:=yw1 hE hp hn hk o m;unfold y0d at hm;unfold exQ at h;unfold exB;unfold q0i at hl;by_cases k0:k=0
  ·simp only [if_pos k0] at hm h ⊢;rw [Bool.and_eq_true] at hm;rw [if_pos hm.2] at hl;have low:Low E.s N out ⟨o,n⟩:=by
    unfold Low lvN;cases hq:q0d E.s o.ty n with
    | none=>exact .inl rfl
    | some p=>
     obtain ⟨i,j,r⟩:=p;refine .inr (hl (.mk k n ov ks,out) (by simp) ((i,j),out) ?_)
     unfold q3d Ex.name;simp only [hq];exact List.mem_cons_self
   refine ⟨fun ho=>?_,fun ho=>?_⟩
   ·subst ho;exact hp _ w b w' low h
   ·subst ho;exact ⟨hn _ w b w' low h,hk _ low⟩
  ·simp only [if_neg k0] at hm h ⊢;by_cases k1:k=1
   ·simp only [if_pos k1] at hm h ⊢;rw [Bool.and_eq_true,Bool.and_eq_true] at hm;rw [if_pos hm.2.2] at hl;have low:∀ x∈E.of ⟨o,n⟩,x.rl=⟨#[]⟩->Low E.s N out ⟨x.o,ov⟩:=by
     intro x hx hx0;obtain ⟨i,j,r,h1,f,h2,h3,h4⟩:=hE.ok _ x hx;unfold Low lvN;cases hq:q0d E.s x.o.ty ov with
     | none=>exact .inl rfl
     | some p=>
      obtain ⟨i2,j2,r2⟩:=p;refine .inr ?_;simp only;refine hl (.mk k n ov ks,out) (by simp) ((i2,j2),out) ?_
      unfold q3d Ex.name Ex.kind Ex.over;simp only [show q0d E.s o.ty n=some (i,j,r) from h1,if_pos k1]
      refine lI _ (List.mem_map.2 ⟨(i2,j2),?_,rfl⟩);unfold q21;refine List.mem_filterMap.2 ⟨f,h2,?_⟩;rw [if_pos (h4.symm.trans hx0),<- h3,hq];rfl
    refine ⟨fun ho=>?_,fun ho=>?_⟩
    ·subst ho;have q:=qab (P:=fun x:Nd=>x.rl=⟨#[]⟩/\M ⟨x.o,ov⟩=true) (Q:=fun x:Nd=>x.rl=⟨#[]⟩/\K ⟨x.o,ov⟩=true) (fun x hx w b w' hs=>by
      unfold y2r at hs;split at hs
      ·rename_i h0
       have:=hp _ w b w' (low x hx h0) hs;exact ⟨fun hb=>⟨h0,this.1 hb⟩,fun hq=>this.2 hq.2⟩
      ·rename_i h0
       simp only [Option.some.injEq,Prod.mk.injEq] at hs;exact ⟨fun hb=>(by rw [<- hs.1] at hb;cases hb),fun hq=>absurd hq.1 h0⟩) h
     simp only [List.any_eq_true,Bool.and_eq_true,decide_eq_true_eq];exact q
    ·subst ho;have q:=qab (P:=fun x:Nd=>x.rl=⟨#[]⟩/\M ⟨x.o,ov⟩=true) (Q:=fun x:Nd=>x.rl=⟨#[]⟩/\M ⟨x.o,ov⟩=true) (fun x hx w b w' hs=>by
      unfold y2r at hs;split at hs
      ·rename_i h0
       have:=hn _ w b w' (low x hx h0) hs;exact ⟨fun hb=>⟨h0,by rw [<- this];exact hb⟩,fun hq=>by rw [this];exact hq.2⟩
      ·rename_i h0
       simp only [Option.some.injEq,Prod.mk.injEq] at hs;exact ⟨fun hb=>(by rw [<- hs.1] at hb;cases hb),fun hq=>absurd hq.1 h0⟩) h
     refine ⟨?_,?_⟩
     ·rw [Bool.eq_iff_iff];simp only [List.any_eq_true,Bool.and_eq_true,decide_eq_true_eq];exact ⟨q.1,q.2⟩
     ·rw [Bool.eq_iff_iff];simp only [List.any_eq_true,Bool.and_eq_true,decide_eq_true_eq];constructor
      ·rintro ⟨x,hx,h0,h1⟩;exact ⟨x,hx,h0,by rw [<- hk _ (low x hx h0)];exact h1⟩
      ·rintro ⟨x,hx,h0,h1⟩;exact ⟨x,hx,h0,by rw [hk _ (low x hx h0)];exact h1⟩
   ·simp only [if_neg k1] at hm h ⊢;have k234:k=2\/k=3\/k=4:=by
     refine Classical.byContradiction fun hn=>?_
     rw [if_neg hn] at hm;cases hm
    rw [if_pos k234] at hm;obtain ⟨x1,x2,rfl⟩:∃ a b,ks=[a,b]:=by
     match ks,hm with
     | [a,b],_=>exact ⟨a,b,rfl⟩
     | [],hm=>cases hm
     | [_],hm=>cases hm
     | _ :: _ :: _ :: _,hm=>cases hm
    simp only [two,Bool.and_eq_true] at hm;obtain ⟨ma,mb⟩:=hm;have hl':∀ p∈q0i x1 out++q0i x2 (out||decide (k=4)),∀ l∈q3d E.s o.ty p.1 p.2,y04 (y0b E.s) l.1+l.2.toNat<=N:=by
     intro p hp;refine hl p ?_;rw [if_neg (by simp)]
     simp only [q0t,lJ];simpa using hp
    have ha:=ih x1 out;have hb:=ih x2 (out||decide (k=4));dsimp only at h ⊢;unfold yrh at h;cases hs:exQ E ask o m x1 w with
    | none=>rw [hs] at h;cases h
    | some q=>
     obtain ⟨z1,w1⟩:=q;rw [hs] at h;dsimp only at h;have ha:=ha w z1 w1 ma (fun p hp=>hl' p (lX _ hp)) hs
     have both:∀ z2 w2,exQ E ask o m x2 w1=some (z2,w2)->((out||decide (k=4))=false->(z2=true->exB E M o m x2=true)/\(exB E K o m x2=true->z2=true))/\((out||decide (k=4))=true->z2=exB E M o m x2/\exB E K o m x2=exB E M o m x2):=fun z2 w2 h2=>
      hb w1 z2 w2 mb (fun p hp=>hl' p (List.mem_append_right _ hp)) h2
     have hcase:(z1=decide (k=2)/\b=z1)\/(z1≠decide (k=2)/\∃ z2 w2,exQ E ask o m x2 w1=some (z2,w2)/\b=if k=4 then !z2 else z2):=by
      split at h
      ·rename_i h1
       simp only [Option.some.injEq,Prod.mk.injEq] at h;exact .inl ⟨h1,h.1.symm⟩
      ·rename_i h1
       cases h2:exQ E ask o m x2 w1 with
       | none=>rw [h2] at h;cases h
       | some q=>
        obtain ⟨z2,w2⟩:=q;rw [h2] at h;simp only [Option.some.injEq,Prod.mk.injEq] at h;exact .inr ⟨h1,z2,w2,rfl,h.1.symm⟩
     clear h hs hl hl' hb ih;rcases hcase with ⟨h1,h2⟩ | ⟨h1,z2,w2,h3,h2⟩
     ·clear both;rw [h2];clear h2;generalize exB E M o m x1=AM at ha ⊢;generalize exB E K o m x1=AK at ha ⊢;generalize exB E M o m x2=BM at ha ⊢;generalize exB E K o m x2=BK at ha ⊢;clear hp hn hk;rcases k234 with rfl | rfl | rfl<;>cases z1<;>cases out<;>cases AM<;>cases AK<;>cases BM<;>cases BK<;>revert ha h1<;>decide
     ·have hb:=both z2 w2 h3;clear both h3;rw [h2];clear h2;generalize exB E M o m x1=AM at ha hb ⊢;generalize exB E K o m x1=AK at ha hb ⊢;generalize exB E M o m x2=BM at ha hb ⊢;generalize exB E K o m x2=BK at ha hb ⊢;rcases k234 with rfl | rfl | rfl<;>cases z1<;>first
       | exact absurd h1 (by decide)
       | (clear h1;cases out<;>cases AM<;>cases AK<;>cases BM<;>cases BK<;>cases z2<;>revert ha hb<;>decide)
end
theorem q3n {n:Nd}:∀ {L:List Nd} {k:Nat},n∈L.take k↔n∈L/\L.idxOf n<k
 | [],k=>by simp
 | x :: r,0=>by simp
 | x :: r,k+1=>by
  rw [List.take_succ_cons,lQ,lQ,q3n (L:=r) (k:=k),List.idxOf_cons];by_cases h:x=n
  ·subst h;simp
  ·have h':n≠x:=fun e=>h e.symm
   have hb:(x==n)=false:=by simpa using h
   rw [hb];simp only [h',false_or,cond_false];constructor
   ·rintro ⟨h1,h2⟩;exact ⟨h1,by omega⟩
   ·rintro ⟨h1,h2⟩;exact ⟨h1,by omega⟩
structure Mod (E:q1k) (L:List Nd):Prop where
 step:∀ i n,L[i]?=some n->∃ j k r,q0d E.s n.o.ty n.rl=some (j,k,r)/\q3f E (fun c=>decide (c∈L.take i)) n r=true
 lev:∀ n m,n∈L->m∈L->lvN E.s n<lvN E.s m->L.idxOf n<L.idxOf m
 closed:∀ n j k r,q0d E.s n.o.ty n.rl=some (j,k,r)->q3f E (fun c=>decide (c∈L)) n r=true->n∈L
section
variable {E:q1k} {B:Int} {L:List Nd}
theorem yfh (hE:yaz E) (hc:y0a (y06 E.s)=0) {ask:Nd->Nat->Option (Bool×Nat)} {M K:Nd->Bool} {n:Nd} {i k:Nat} {r:Rl} (hf:q0d E.s n.o.ty n.rl=some (i,k,r))
  (hp:∀ c w b w',Low E.s (lvN E.s n) false c->ask c w=some (b,w')->(b=true->M c=true)/\(K c=true->b=true))
  (hn:∀ c w b w',Low E.s (lvN E.s n) true c->ask c w=some (b,w')->b=M c) (hk:∀ c,Low E.s (lvN E.s n) true c->K c=M c)
  {w:Nat} {b:Bool} {w':Nat} (h:y74 E ask n r w=some (b,w')):(b=true->q3f E M n r=true)/\(q3f E K n r=true->b=true):=by
 obtain ⟨ht0,ty,hty,-,hkr⟩:=q0z hf;have hnm:ty.name=n.o.ty:=by
  obtain ⟨⟨x,hx,hp⟩,-⟩:=firstI_some.1 ht0;rw [hty] at hx;cases hx;exact of_decide_eq_true hp
 have hst:=(q6b hc hty hkr).2;have hlv:lvN E.s n=y04 (y0b E.s) (i,k):=by unfold lvN;rw [hf]
 rw [<- hlv,hnm] at hst;unfold y74 at h;unfold q3f;unfold q1f at hst;by_cases h0:r.refs.length=0
 ·simp only [if_pos h0] at h hst ⊢;have hm:y0d 12 r.ex=true:=y16 (q2x hc).may ty (lA hty) r (lA hkr) h0;exact (yw1 hE hp hn hk n.o 12 r.ex false w b w' hm (fun p hp l hl=>hst l (List.mem_flatMap.2 ⟨p,hp,hl⟩)) h).1 rfl
 ·simp only [if_neg h0] at h hst ⊢;have low:∀ x∈E.of n,x.rl≠⟨#[]⟩->Low E.s (lvN E.s n) false x:=by
   intro x hx hx0;obtain ⟨i1,k1,r1,h1,f,h2,h3,h4⟩:=hE.ok _ x hx;rw [hf] at h1;cases h1;unfold Low;cases hq:q0d E.s x.o.ty x.rl with
   | none=>exact .inl rfl
   | some p=>
    obtain ⟨i2,j2,r2⟩:=p;refine .inr ?_;have:=hst ((i2,j2),false) (List.mem_filterMap.2 ⟨f,h2,by unfold q1q;rw [if_neg (by rw [<- h4];exact hx0),<- h3,<- h4,hq];rfl⟩)
    unfold lvN at this ⊢;rw [hq];exact this
  have q:=qab (P:=fun x:Nd=>(if x.rl=⟨#[]⟩ then decide (x.o=E.who) else M x)=true) (Q:=fun x:Nd=>(if x.rl=⟨#[]⟩ then decide (x.o=E.who) else K x)=true) (fun x hx w b w' hs=>by
   unfold y5e at hs;split at hs
   ·rename_i h0
    simp only [Option.some.injEq,Prod.mk.injEq] at hs;simp only [if_pos h0];rw [<- hs.1];exact ⟨id,id⟩
   ·rename_i h0
    simp only [if_neg h0];exact hp _ w b w' (low x hx h0) hs) h
  simp only [List.any_eq_true];exact q
theorem x2c (hE:yaz E) (hc:y0a (y06 E.s)=0) (hM:Mod E L):∀ (fu:Nat) (P:List Nd) (n:Nd) (w:Nat) (b:Bool) (w':Nat),y0q E B fu P n w=some (b,w')->(∀ p∈P,lvN E.s n<=lvN E.s p) ->
  (b=true->n∈L)/\(n∈L->(∀ p∈P,p∈L->L.idxOf n<L.idxOf p)->b=true):=by
 have none:∀ n:Nd,q0d E.s n.o.ty n.rl=none->n ∉ L:=by
  intro n hn hm;obtain ⟨i,hi⟩:=lO hm;obtain ⟨j,k,r,h1,-⟩:=hM.step i n hi;rw [hn] at h1;cases h1
 intro fu
 induction fu with
 | zero=>
  intro P n w b w' h hP;unfold y0q at h;split at h
  ·rename_i h0
   simp only [Option.some.injEq,Prod.mk.injEq] at h;exact ⟨fun hb=>(by rw [<- h.1] at hb;cases hb),fun hn=>absurd hn (none n h0)⟩
  ·cases h
 | succ fu ih=>
  intro P n w b w' h hP;unfold y0q at h;split at h
  ·rename_i h0
   simp only [Option.some.injEq,Prod.mk.injEq] at h;exact ⟨fun hb=>(by rw [<- h.1] at hb;cases hb),fun hn=>absurd hn (none n h0)⟩
  ·rename_i i k r hf
   split at h
   ·cases h
   ·split at h
    ·rename_i h2
     simp only [Option.some.injEq,Prod.mk.injEq] at h;exact ⟨fun hb=>(by rw [<- h.1] at hb;cases hb),fun hn hq=>absurd (hq n h2 hn) (Nat.lt_irrefl _)⟩
    ·rename_i h2
     have low:∀ c,lvN E.s c<=lvN E.s n->∀ p∈n :: P,lvN E.s c<=lvN E.s p:=by
      intro c hcl p hp;rcases List.mem_cons.1 hp with rfl | hp
      ·exact hcl
      ·exact Nat.le_trans hcl (hP p hp)
     have no:∀ c w b w',q0d E.s c.o.ty c.rl=Option.none->y0q E B fu (n :: P) c w=some (b,w')->b=false:=by
      intro c w b w' hc h;cases fu<;>(unfold y0q at h;rw [hc] at h;simp only [Option.some.injEq,Prod.mk.injEq] at h;exact h.1.symm)
     have strict:∀ c,lvN E.s c<lvN E.s n->c∈L->∀ p∈n :: P,p∈L->L.idxOf c<L.idxOf p:=by
      intro c hcl hcL p hp hpL;refine hM.lev c p hcL hpL ?_;rcases List.mem_cons.1 hp with rfl | hp
      ·exact hcl
      ·exact Nat.lt_of_lt_of_le hcl (hP p hp)
     have sound:∀ c w b w',Low E.s (lvN E.s n) false c->y0q E B fu (n :: P) c w=some (b,w')->b=true->decide (c∈L)=true:=by
      intro c w b w' hl h hb;rcases hl with hl | hl
      ·rw [no c w b w' hl h] at hb;cases hb
      ·exact decide_eq_true ((ih (n :: P) c w b w' h (low c (by simpa using hl))).1 hb)
     have exact':∀ c w b w',Low E.s (lvN E.s n) true c->y0q E B fu (n :: P) c w=some (b,w')->b=decide (c∈L):=by
      intro c w b w' hl h;rcases hl with hl | hl
      ·rw [no c w b w' hl h,decide_eq_false (none c hl)]
      ·have hl:lvN E.s c<lvN E.s n:=by simpa [Nat.lt_iff_add_one_le] using hl
       have q:=ih (n :: P) c w b w' h (low c (Nat.le_of_lt hl));rw [Bool.eq_iff_iff,decide_eq_true_eq];exact ⟨q.1,fun hcL=>q.2 hcL (strict c hl hcL)⟩
     refine ⟨fun hb=>?_,fun hnL hq=>?_⟩
     ·have q:=yfh hE hc (M:=fun c=>decide (c∈L)) (K:=fun c=>decide (c∈L)&&decide (lvN E.s c<lvN E.s n)) hf (fun c w b w' hl h=>⟨sound c w b w' hl h,fun hK=>?_⟩) exact' (fun c hl=>?_) h
      ·exact hM.closed n i k r hf (q.1 hb)
      ·rw [Bool.and_eq_true,decide_eq_true_eq,decide_eq_true_eq] at hK;exact (ih (n :: P) c w b w' h (low c (Nat.le_of_lt hK.2))).2 hK.1 (strict c hK.2 hK.1)
      ·rcases hl with hl | hl
       ·simp [none c hl]
       ·have hl:lvN E.s c<lvN E.s n:=by simpa [Nat.lt_iff_add_one_le] using hl
        simp [hl]
     ·have q:=yfh hE hc (M:=fun c=>decide (c∈L)) (K:=fun c=>decide (c∈L.take (L.idxOf n))) hf (fun c w b w' hl h=>⟨sound c w b w' hl h,fun hK=>?_⟩) exact' (fun c hl=>?_) h
      ·have hi:L[L.idxOf n]?=some n:=by
        have hlt:=List.idxOf_lt_length_iff.2 hnL;rw [lF hlt,List.getElem_idxOf hlt]
       obtain ⟨j,k2,r2,h1,h3⟩:=hM.step _ n hi;rw [hf] at h1;cases h1;exact q.2 h3
      ·rw [decide_eq_true_eq,q3n] at hK;rcases hl with hl | hl
       ·exact absurd hK.1 (none c hl)
       ·refine (ih (n :: P) c w b w' h (low c (by simpa using hl))).2 hK.1 fun p hp hpL=>?_
        rcases List.mem_cons.1 hp with rfl | hp
        ·exact hK.2
        ·exact Nat.lt_trans hK.2 (hq p hp hpL)
      ·rw [Bool.eq_iff_iff,decide_eq_true_eq,decide_eq_true_eq,q3n];rcases hl with hl | hl
       ·exact ⟨fun h=>h.1,fun h=>absurd h (none c hl)⟩
       ·have hl:lvN E.s c<lvN E.s n:=by simpa [Nat.lt_iff_add_one_le] using hl
        exact ⟨fun h=>h.1,fun h=>⟨h,hM.lev c n h hnL hl⟩⟩
theorem x2d (hE:yaz E) (hc:y0a (y06 E.s)=0) (hM:Mod E L) {fu:Nat} {n:Nd} {w:Nat} {b:Bool} {w':Nat} (h:y0q E B fu [] n w=some (b,w')):b=decide (n∈L):=by
 have q:=x2c hE hc hM fu [] n w b w' h (fun p hp=>by cases hp)
 rw [Bool.eq_iff_iff,decide_eq_true_eq];exact ⟨q.1,fun hn=>q.2 hn fun p hp=>by cases hp⟩
end
section
variable {E:q1k} {K K':Nd->Bool} {N:Nat}
theorem Low.weak {s:List Ty} {out:Bool} {c:Nd} (h:Low s N out c):Low s N false c:=by
 rcases h with h | h
 ·exact .inl h
 ·exact .inr (by simp;omega)
theorem y8y (hE:yaz E) (h:∀ c,Low E.s N false c->K c=K' c) (o:Ob) :
  ∀ (m:Nat) (e:Ex) (out:Bool),y0d m e=true->(∀ p∈q0i e out,∀ l∈q3d E.s o.ty p.1 p.2,y04 (y0b E.s) l.1+l.2.toNat<=N)->exB E K o m e=exB E K' o m e
 | 0,e,out,hm,hl=>by cases hm
 | m+1,.mk k n ov ks,out,hm,hl=>by
  have ih:=y8y hE h o m;unfold y0d at hm;unfold exB;unfold q0i at hl;by_cases k0:k=0
  ·simp only [if_pos k0] at hm ⊢;rw [Bool.and_eq_true] at hm;rw [if_pos hm.2] at hl;refine h _ (Low.weak (out:=out) ?_);unfold Low lvN;cases hq:q0d E.s o.ty n with
   | none=>exact .inl rfl
   | some p=>
    obtain ⟨i,j,r⟩:=p;refine .inr (hl (.mk k n ov ks,out) (by simp) ((i,j),out) ?_)
    unfold q3d Ex.name;simp only [hq];exact List.mem_cons_self
  ·simp only [if_neg k0] at hm ⊢;by_cases k1:k=1
   ·simp only [if_pos k1] at hm ⊢;rw [Bool.and_eq_true,Bool.and_eq_true] at hm;rw [if_pos hm.2.2] at hl;have low:∀ x∈E.of ⟨o,n⟩,x.rl=⟨#[]⟩->K ⟨x.o,ov⟩=K' ⟨x.o,ov⟩:=by
     intro x hx hx0;obtain ⟨i,j,r,h1,f,h2,h3,h4⟩:=hE.ok _ x hx;refine h _ (Low.weak (out:=out) ?_);unfold Low lvN;cases hq:q0d E.s x.o.ty ov with
     | none=>exact .inl rfl
     | some p=>
      obtain ⟨i2,j2,r2⟩:=p;refine .inr ?_;simp only;refine hl (.mk k n ov ks,out) (by simp) ((i2,j2),out) ?_
      unfold q3d Ex.name Ex.kind Ex.over;simp only [show q0d E.s o.ty n=some (i,j,r) from h1,if_pos k1]
      refine lI _ (List.mem_map.2 ⟨(i2,j2),?_,rfl⟩);unfold q21;refine List.mem_filterMap.2 ⟨f,h2,?_⟩;rw [if_pos (h4.symm.trans hx0),<- h3,hq];rfl
    rw [Bool.eq_iff_iff];simp only [List.any_eq_true,Bool.and_eq_true,decide_eq_true_eq];constructor
    ·rintro ⟨x,hx,h0,h1⟩;exact ⟨x,hx,h0,by rw [<- low x hx h0];exact h1⟩
    ·rintro ⟨x,hx,h0,h1⟩;exact ⟨x,hx,h0,by rw [low x hx h0];exact h1⟩
   ·simp only [if_neg k1] at hm ⊢;have k234:k=2\/k=3\/k=4:=by
     refine Classical.byContradiction fun hn=>?_
     rw [if_neg hn] at hm;cases hm
    rw [if_pos k234] at hm;obtain ⟨x1,x2,rfl⟩:∃ a b,ks=[a,b]:=by
     match ks,hm with
     | [a,b],_=>exact ⟨a,b,rfl⟩
     | [],hm=>cases hm
     | [_],hm=>cases hm
     | _ :: _ :: _ :: _,hm=>cases hm
    simp only [two,Bool.and_eq_true] at hm;have hl':∀ p∈q0i x1 out++q0i x2 (out||decide (k=4)),∀ l∈q3d E.s o.ty p.1 p.2,y04 (y0b E.s) l.1+l.2.toNat<=N:=by
     intro p hp;refine hl p ?_;rw [if_neg (by simp)]
     simp only [q0t,lJ];simpa using hp
    dsimp only;rw [ih x1 out hm.1 fun p hp=>hl' p (lX _ hp),ih x2 _ hm.2 fun p hp=>hl' p (List.mem_append_right _ hp)]
theorem yih (hE:yaz E) (hc:y0a (y06 E.s)=0) {n:Nd} {i k:Nat} {r:Rl} (hf:q0d E.s n.o.ty n.rl=some (i,k,r)) (h:∀ c,Low E.s (lvN E.s n) false c->K c=K' c):q3f E K n r=q3f E K' n r:=by
 obtain ⟨ht0,ty,hty,-,hkr⟩:=q0z hf;have hnm:ty.name=n.o.ty:=by
  obtain ⟨⟨x,hx,hp⟩,-⟩:=firstI_some.1 ht0;rw [hty] at hx;cases hx;exact of_decide_eq_true hp
 have hst:=(q6b hc hty hkr).2;have hlv:lvN E.s n=y04 (y0b E.s) (i,k):=by unfold lvN;rw [hf]
 rw [<- hlv,hnm] at hst;unfold q3f;unfold q1f at hst;by_cases h0:r.refs.length=0
 ·simp only [if_pos h0] at hst ⊢;have hm:y0d 12 r.ex=true:=y16 (q2x hc).may ty (lA hty) r (lA hkr) h0;exact y8y hE h n.o 12 r.ex false hm fun p hp l hl=>hst l (List.mem_flatMap.2 ⟨p,hp,hl⟩)
 ·simp only [if_neg h0] at hst ⊢;have low:∀ x∈E.of n,x.rl≠⟨#[]⟩->K x=K' x:=by
   intro x hx hx0;obtain ⟨i1,k1,r1,h1,f,h2,h3,h4⟩:=hE.ok _ x hx;rw [hf] at h1;cases h1;refine h _ ?_;unfold Low;cases hq:q0d E.s x.o.ty x.rl with
   | none=>exact .inl rfl
   | some p=>
    obtain ⟨i2,j2,r2⟩:=p;refine .inr ?_;have:=hst ((i2,j2),false) (List.mem_filterMap.2 ⟨f,h2,by unfold q1q;rw [if_neg (by rw [<- h4];exact hx0),<- h3,<- h4,hq];rfl⟩)
    unfold lvN at this ⊢;rw [hq];exact this
  rw [Bool.eq_iff_iff];simp only [List.any_eq_true];constructor
  ·rintro ⟨x,hx,hb⟩;refine ⟨x,hx,?_⟩;by_cases h0:x.rl=⟨#[]⟩
   ·rw [if_pos h0] at hb ⊢;exact hb
   ·rw [if_neg h0] at hb ⊢;rw [<- low x hx h0];exact hb
  ·rintro ⟨x,hx,hb⟩;refine ⟨x,hx,?_⟩;by_cases h0:x.rl=⟨#[]⟩
   ·rw [if_pos h0] at hb ⊢;exact hb
   ·rw [if_neg h0] at hb ⊢;rw [low x hx h0];exact hb
theorem y8x {T:List Ob} (hT:∀ n x,x∈E.of n->n.o∈T) (hK:∀ c,K c=true->c.o∈T) (o:Ob):∀ (m:Nat) (e:Ex),exB E K o m e=true->o∈T
 | 0,e,h=>by cases h
 | m+1,.mk k n ov ks,h=>by
  have ih:=y8x hT hK o m;unfold exB at h;split at h
  ·exact hK _ h
  ·split at h
   ·obtain ⟨x,hx,-⟩:=List.any_eq_true.1 h;exact hT _ x hx
   ·split at h
    ·split at h
     ·rw [Bool.or_eq_true] at h;exact h.elim (ih _) (ih _)
     ·split at h<;>(rw [Bool.and_eq_true] at h;exact ih _ h.1)
    ·cases h
theorem y4l {T:List Ob} (hT:∀ n x,x∈E.of n->n.o∈T) (hK:∀ c,K c=true->c.o∈T) {n:Nd} {r:Rl} (h:q3f E K n r=true):n.o∈T:=by
 unfold q3f at h;split at h
 ·exact y8x hT hK _ _ _ h
 ·obtain ⟨x,hx,-⟩:=List.any_eq_true.1 h;exact hT _ x hx
end
def q36 (s:List Ty) (T:List Ob):List Nd:=T.flatMap fun o=>s.flatMap fun t=>t.rels.map fun r=>⟨o,r.name⟩
theorem y8j {s:List Ty} {T:List Ob} {n:Nd} {i k:Nat} {r:Rl} (hf:q0d s n.o.ty n.rl=some (i,k,r)) (hT:n.o∈T):n∈q36 s T:=by
 obtain ⟨-,ty,hty,hrl,hkr⟩:=q0z hf;obtain ⟨⟨x,hx,hp⟩,-⟩:=firstI_some.1 hrl;rw [hkr] at hx;cases hx;refine List.mem_flatMap.2 ⟨n.o,hT,List.mem_flatMap.2 ⟨ty,lA hty,List.mem_map.2 ⟨r,lA hkr,?_⟩⟩⟩;have:=of_decide_eq_true hp;cases n;simp only [Nd.mk.injEq,true_and];exact this
structure Upto (E:q1k) (C:List Nd) (v:Nat) (L:List Nd):Prop where
 nd:L.Nodup
 sub:∀ n∈L,n∈C
 step:∀ (i:Nat) (n:Nd),L[i]?=some n->∃ j k r,q0d E.s n.o.ty n.rl=some (j,k,r)/\q3f E (fun c=>decide (c∈L.take i)) n r=true
 srt:∀ (i j:Nat) (n m:Nd),L[i]?=some n->L[j]?=some m->i<j->lvN E.s n<=lvN E.s m
 top:∀ n∈L,lvN E.s n<=v
 closed:∀ n j k r,q0d E.s n.o.ty n.rl=some (j,k,r)->lvN E.s n<v->q3f E (fun c=>decide (c∈L)) n r=true->n∈L
theorem y8g {α:Type} [DecidableEq α]:∀ {L C:List α},L.Nodup->(∀ x∈L,x∈C)->L.length<=C.length
 | [],C,_,_=>Nat.zero_le _
 | x :: r,C,h,hs=>by
  rw [List.nodup_cons] at h;have hx:=hs x (by simp)
  have:=y8g (L:=r) (C:=C.erase x) h.2 fun y hy=>(List.mem_erase_of_ne (by rintro rfl;exact h.1 hy)).2 (hs y (lI _ hy))
  rw [List.length_erase_of_mem hx] at this;have hpos:=List.length_pos_of_mem hx;simp only [lD];omega
section
variable {E:q1k} {C L:List Nd} {v:Nat}
theorem Upto.snoc (hE:yaz E) (hc:y0a (y06 E.s)=0) (h:Upto E C v L) {n:Nd} {j k:Nat} {r:Rl} (hf:q0d E.s n.o.ty n.rl=some (j,k,r)) (hv:lvN E.s n=v) (hn:n ∉ L) (hC:n∈C) (hb:q3f E (fun c=>decide (c∈L)) n r=true) :
  Upto E C v (L++[n]):=by
 have get:∀ i m,(L++[n])[i]?=some m->(i<L.length/\L[i]?=some m)\/(i=L.length/\m=n):=by
  intro i m hi;rw [List.getElem?_append] at hi;split at hi
  ·rename_i h1;exact .inl ⟨h1,hi⟩
  ·rename_i h1
   rw [List.getElem?_singleton] at hi;split at hi
   ·cases hi;exact .inr ⟨by omega,rfl⟩
   ·cases hi
 refine ⟨?_,fun m hm=>?_,fun i m hi=>?_,fun i i2 m m2 hi hi2 hlt=>?_,fun m hm=>?_,fun m j2 k2 r2 hf2 hlt hb2=>?_⟩
 ·rw [List.nodup_append];exact ⟨h.nd,by simp,fun a ha b hb=>by rw [List.mem_singleton.1 hb];rintro rfl;exact hn ha⟩
 ·rcases List.mem_append.1 hm with hm | hm
  ·exact h.sub m hm
  ·rw [List.mem_singleton.1 hm];exact hC
 ·rcases get i m hi with ⟨h1,h2⟩ | ⟨h1,rfl⟩
  ·rw [List.take_append_of_le_length (Nat.le_of_lt h1)];exact h.step i m h2
  ·rw [h1,List.take_append_of_le_length (Nat.le_refl _),lU];exact ⟨j,k,r,hf,hb⟩
 ·rcases get i m hi with ⟨h1,h2⟩ | ⟨h1,rfl⟩
  ·rcases get i2 m2 hi2 with ⟨h3,h4⟩ | ⟨h3,rfl⟩
   ·exact h.srt i i2 m m2 h2 h4 hlt
   ·rw [hv];exact h.top m (lA h2)
  ·rcases get i2 m2 hi2 with ⟨h3,h4⟩ | ⟨h3,rfl⟩
   ·omega
   ·exact Nat.le_refl _
 ·rcases List.mem_append.1 hm with hm | hm
  ·exact h.top m hm
  ·rw [List.mem_singleton.1 hm,hv];exact Nat.le_refl _
 ·refine lX _ (h.closed m j2 k2 r2 hf2 hlt ?_);rw [<- hb2];refine yih hE hc hf2 fun c hl=>?_
  rw [Bool.eq_iff_iff,decide_eq_true_eq,decide_eq_true_eq,List.mem_append,lS];refine ⟨.inl,fun hq=>hq.elim id fun e=>?_⟩
  subst e;rcases hl with hl | hl
  ·rw [hf] at hl;cases hl
  ·have:lvN E.s c<=lvN E.s m:=by simpa using hl
   omega
theorem Upto.close (hE:yaz E) (hc:y0a (y06 E.s)=0):∀ (d:Nat) (L:List Nd),Upto E C v L->C.length<=L.length+d->∃ L',Upto E C v L'/\∀ n j k r,q0d E.s n.o.ty n.rl=some (j,k,r)->lvN E.s n=v->n∈C->q3f E (fun c=>decide (c∈L')) n r=true->n∈L':=by
 intro d
 induction d with
 | zero=>
  intro L h hd;refine ⟨L,h,fun n j k r hf hv hC hb=>Classical.byContradiction fun hn=>?_⟩
  have q:=h.snoc hE hc hf hv hn hC hb;have:=y8g q.nd q.sub;rw [lG,lM] at this;omega
 | succ d ih=>
  intro L h hd;by_cases hq:∃ n j k r,q0d E.s n.o.ty n.rl=some (j,k,r)/\lvN E.s n=v/\n∈C/\q3f E (fun c=>decide (c∈L)) n r=true/\n ∉ L
  ·obtain ⟨n,j,k,r,hf,hv,hC,hb,hn⟩:=hq;exact ih _ (h.snoc hE hc hf hv hn hC hb) (by rw [lG,lM];omega)
  ·exact ⟨L,h,fun n j k r hf hv hC hb=>Classical.byContradiction fun hn=>hq ⟨n,j,k,r,hf,hv,hC,hb,hn⟩⟩
theorem Upto.mod (h:Upto E C v L) (hv:∀ n j k r,q0d E.s n.o.ty n.rl=some (j,k,r)->lvN E.s n<v):Mod E L:=by
 refine ⟨h.step,fun n m hn hm hlt=>?_,fun n j k r hf hb=>h.closed n j k r hf (hv n j k r hf) hb⟩
 have gi:∀ n,n∈L->L[L.idxOf n]?=some n:=fun n hn=>by
  have hlt:=List.idxOf_lt_length_iff.2 hn;rw [lF hlt,List.getElem_idxOf hlt]
 have g1:=gi n hn;have g2:=gi m hm;rcases Nat.lt_trichotomy (L.idxOf n) (L.idxOf m) with h1 | h1 | h1
 ·exact h1
 ·rw [h1,g2] at g1;cases g1;omega
 ·have:=h.srt _ _ m n g2 g1 h1;omega
theorem yvu (hc:y0a (y06 E.s)=0) {n:Nd} {j k:Nat} {r:Rl} (hf:q0d E.s n.o.ty n.rl=some (j,k,r)):lvN E.s n<=q0q E.s:=by
 obtain ⟨-,ty,hty,-,hkr⟩:=q0z hf;have:=(q6b hc hty hkr).1;unfold lvN;rw [hf];exact this
theorem x6m (hE:yaz E) (hc:y0a (y06 E.s)=0) {T:List Ob} (hT:∀ n x,x∈E.of n->n.o∈T):∃ L,Mod E L:=by
 have key:∀ v,∃ L,Upto E (q36 E.s T) v L/\∀ n∈L,n.o∈T:=by
  intro v
  induction v with
  | zero=>exact ⟨[],⟨by simp,fun n hn=>(by cases hn),fun i n hi=>by simp at hi,fun i j n m hi=>by simp at hi,fun n hn=>(by cases hn),fun n j k r _ hlt=>by omega⟩,fun n hn=>(by cases hn)⟩
  | succ v ih=>
   obtain ⟨L,h,-⟩:=ih;obtain ⟨L',h',hcl⟩:=Upto.close hE hc (q36 E.s T).length L h (by omega)
   have hT':∀ n∈L',n.o∈T:=by
    intro n hn;have:=h'.sub n hn;obtain ⟨o,ho,hq⟩:=List.mem_flatMap.1 this;obtain ⟨t,-,hq⟩:=List.mem_flatMap.1 hq;obtain ⟨r,-,rfl⟩:=List.mem_map.1 hq;exact ho
   refine ⟨L',⟨h'.nd,h'.sub,h'.step,h'.srt,fun n hn=>Nat.le_succ_of_le (h'.top n hn),fun n j k r hf hlt hb=>?_⟩,hT'⟩
   rcases Nat.lt_succ_iff_lt_or_eq.1 hlt with h1 | h1
   ·exact h'.closed n j k r hf h1 hb
   ·refine hcl n j k r hf h1 (y8j hf (y4l hT (fun c hc=>hT' c (of_decide_eq_true hc)) hb)) hb
 obtain ⟨L,h,-⟩:=key (q0q E.s+1);exact ⟨L,h.mod fun n j k r hf=>Nat.lt_succ_of_le (yvu hc hf)⟩
end
theorem x75 {L:List Nd} {n:Nd} (h:n∈L):L[L.idxOf n]?=some n:=by
 have hlt:=List.idxOf_lt_length_iff.2 h;rw [lF hlt,List.getElem_idxOf hlt]
theorem yf1 {E:q1k} (hE:yaz E) {N:Nat} {K K':Nd->Bool} (h:∀ c,Low E.s N false c->K c=true->K' c=true) (hn:∀ c,Low E.s N true c->K c=K' c) (o:Ob) :
  ∀ (m:Nat) (e:Ex) (out:Bool),y0d m e=true->(∀ p∈q0i e out,∀ l∈q3d E.s o.ty p.1 p.2,y04 (y0b E.s) l.1+l.2.toNat<=N) ->
   (out=false->exB E K o m e=true->exB E K' o m e=true)/\(out=true->exB E K o m e=exB E K' o m e)
 | 0,e,out,hm,hl=>by cases hm
 | m+1,.mk k n ov ks,out,hm,hl=>by
  have ih:=yf1 hE h hn o m;unfold y0d at hm;unfold exB;unfold q0i at hl;by_cases k0:k=0
  ·simp only [if_pos k0] at hm ⊢;rw [Bool.and_eq_true] at hm;rw [if_pos hm.2] at hl;have low:Low E.s N out ⟨o,n⟩:=by
    unfold Low lvN;cases hq:q0d E.s o.ty n with
    | none=>exact .inl rfl
    | some p=>
     obtain ⟨i,j,r⟩:=p;refine .inr (hl (.mk k n ov ks,out) (by simp) ((i,j),out) ?_)
     unfold q3d Ex.name;simp only [hq];exact List.mem_cons_self
   exact ⟨fun ho=>by subst ho;exact h _ low,fun ho=>by subst ho;exact hn _ low⟩
  ·simp only [if_neg k0] at hm ⊢;by_cases k1:k=1
   ·simp only [if_pos k1] at hm ⊢;rw [Bool.and_eq_true,Bool.and_eq_true] at hm;rw [if_pos hm.2.2] at hl;have low:∀ x∈E.of ⟨o,n⟩,x.rl=⟨#[]⟩->Low E.s N out ⟨x.o,ov⟩:=by
     intro x hx hx0;obtain ⟨i,j,r,h1,f,h2,h3,h4⟩:=hE.ok _ x hx;unfold Low lvN;cases hq:q0d E.s x.o.ty ov with
     | none=>exact .inl rfl
     | some p=>
      obtain ⟨i2,j2,r2⟩:=p;refine .inr ?_;simp only;refine hl (.mk k n ov ks,out) (by simp) ((i2,j2),out) ?_
      unfold q3d Ex.name Ex.kind Ex.over;simp only [show q0d E.s o.ty n=some (i,j,r) from h1,if_pos k1]
      refine lI _ (List.mem_map.2 ⟨(i2,j2),?_,rfl⟩);unfold q21;refine List.mem_filterMap.2 ⟨f,h2,?_⟩;rw [if_pos (h4.symm.trans hx0),<- h3,hq];rfl
    refine ⟨fun ho=>?_,fun ho=>?_⟩
    ·subst ho;simp only [List.any_eq_true,Bool.and_eq_true,decide_eq_true_eq];rintro ⟨x,hx,h0,h1⟩;exact ⟨x,hx,h0,h _ (low x hx h0) h1⟩
    ·subst ho;rw [Bool.eq_iff_iff];simp only [List.any_eq_true,Bool.and_eq_true,decide_eq_true_eq];constructor
     ·rintro ⟨x,hx,h0,h1⟩;exact ⟨x,hx,h0,by rw [<- hn _ (low x hx h0)];exact h1⟩
     ·rintro ⟨x,hx,h0,h1⟩;exact ⟨x,hx,h0,by rw [hn _ (low x hx h0)];exact h1⟩
   ·simp only [if_neg k1] at hm ⊢;have k234:k=2\/k=3\/k=4:=by
     refine Classical.byContradiction fun hn=>?_
     rw [if_neg hn] at hm;cases hm
    rw [if_pos k234] at hm;obtain ⟨x1,x2,rfl⟩:∃ a b,ks=[a,b]:=by
     match ks,hm with
     | [a,b],_=>exact ⟨a,b,rfl⟩
     | [],hm=>cases hm
     | [_],hm=>cases hm
     | _ :: _ :: _ :: _,hm=>cases hm
    simp only [two,Bool.and_eq_true] at hm;have hl':∀ p∈q0i x1 out++q0i x2 (out||decide (k=4)),∀ l∈q3d E.s o.ty p.1 p.2,y04 (y0b E.s) l.1+l.2.toNat<=N:=by
     intro p hp;refine hl p ?_;rw [if_neg (by simp)]
     simp only [q0t,lJ];simpa using hp
    have ha:=ih x1 out hm.1 fun p hp=>hl' p (lX _ hp)
    have hb:=ih x2 (out||decide (k=4)) hm.2 fun p hp=>hl' p (List.mem_append_right _ hp)
    dsimp only;generalize exB E K o m x1=A at ha ⊢;generalize exB E K' o m x1=A' at ha ⊢;generalize exB E K o m x2=B at hb ⊢;generalize exB E K' o m x2=B' at hb ⊢;rcases k234 with rfl | rfl | rfl<;>cases out<;>cases A<;>cases A'<;>cases B<;>cases B'<;>revert ha hb<;>decide
theorem yn1 {E:q1k} (hE:yaz E) (hc:y0a (y06 E.s)=0) {K K':Nd->Bool} {n:Nd} {i k:Nat} {r:Rl} (hf:q0d E.s n.o.ty n.rl=some (i,k,r)) (h:∀ c,Low E.s (lvN E.s n) false c->K c=true->K' c=true) (hn:∀ c,Low E.s (lvN E.s n) true c->K c=K' c) :
  q3f E K n r=true->q3f E K' n r=true:=by
 obtain ⟨ht0,ty,hty,-,hkr⟩:=q0z hf;have hnm:ty.name=n.o.ty:=by
  obtain ⟨⟨x,hx,hp⟩,-⟩:=firstI_some.1 ht0;rw [hty] at hx;cases hx;exact of_decide_eq_true hp
 have hst:=(q6b hc hty hkr).2;have hlv:lvN E.s n=y04 (y0b E.s) (i,k):=by unfold lvN;rw [hf]
 rw [<- hlv,hnm] at hst;unfold q3f;unfold q1f at hst;by_cases h0:r.refs.length=0
 ·simp only [if_pos h0] at hst ⊢;have hm:y0d 12 r.ex=true:=y16 (q2x hc).may ty (lA hty) r (lA hkr) h0;exact (yf1 hE h hn n.o 12 r.ex false hm fun p hp l hl=>hst l (List.mem_flatMap.2 ⟨p,hp,hl⟩)).1 rfl
 ·simp only [if_neg h0] at hst ⊢;have low:∀ x∈E.of n,x.rl≠⟨#[]⟩->K x=true->K' x=true:=by
   intro x hx hx0;obtain ⟨i1,k1,r1,h1,f,h2,h3,h4⟩:=hE.ok _ x hx;rw [hf] at h1;cases h1;refine h _ ?_;unfold Low;cases hq:q0d E.s x.o.ty x.rl with
   | none=>exact .inl rfl
   | some p=>
    obtain ⟨i2,j2,r2⟩:=p;refine .inr ?_;have:=hst ((i2,j2),false) (List.mem_filterMap.2 ⟨f,h2,by unfold q1q;rw [if_neg (by rw [<- h4];exact hx0),<- h3,<- h4,hq];rfl⟩)
    unfold lvN at this ⊢;rw [hq];exact this
  simp only [List.any_eq_true];rintro ⟨x,hx,hb⟩;refine ⟨x,hx,?_⟩;by_cases h0:x.rl=⟨#[]⟩
  ·rw [if_pos h0] at hb ⊢;exact hb
  ·rw [if_neg h0] at hb ⊢;exact low x hx h0 hb
theorem Mod.none {E:q1k} {L:List Nd} (h:Mod E L) {n:Nd} (hn:q0d E.s n.o.ty n.rl=Option.none):n ∉ L:=by
 intro hm;obtain ⟨i,hi⟩:=lO hm;obtain ⟨j,k,r,h1,-⟩:=h.step i n hi;rw [hn] at h1;cases h1
theorem Mod.le {E:q1k} {L L':List Nd} (hE:yaz E) (hc:y0a (y06 E.s)=0) (h:Mod E L) (h':Mod E L') {v:Nat} (hv:∀ c,lvN E.s c<v->(c∈L↔c∈L')):∀ (i:Nat) (n:Nd),L.idxOf n=i->lvN E.s n=v->n∈L->n∈L':=by
 intro i
 induction i using Nat.strongRecOn with
 | ind i ih=>
  intro n hi hl hn;obtain ⟨j,k,r,hf,hb⟩:=h.step _ n (x75 hn);refine h'.closed n j k r hf (yn1 hE hc hf (fun c hlow hq=>?_) (fun c hlow=>?_) hb)
  ·rw [decide_eq_true_eq,q3n] at hq;rw [decide_eq_true_eq];rcases hlow with h0 | h0
   ·exact absurd hq.1 (h.none h0)
   ·have h0:lvN E.s c<=lvN E.s n:=by simpa using h0
    rcases Nat.lt_or_eq_of_le h0 with h1 | h1
    ·exact (hv c (by omega)).1 hq.1
    ·exact ih _ (by omega) c rfl (by omega) hq.1
  ·rw [Bool.eq_iff_iff,decide_eq_true_eq,decide_eq_true_eq,q3n];rcases hlow with h0 | h0
   ·exact ⟨fun hq=>absurd hq.1 (h.none h0),fun hq=>absurd hq (h'.none h0)⟩
   ·have h0:lvN E.s c<lvN E.s n:=by simpa [Nat.lt_iff_add_one_le] using h0
    have hvc:=hv c (by omega)
    exact ⟨fun hq=>hvc.1 hq.1,fun hq=>⟨hvc.2 hq,h.lev c n (hvc.2 hq) hn h0⟩⟩
theorem Mod.uniq {E:q1k} {L L':List Nd} (hE:yaz E) (hc:y0a (y06 E.s)=0) (h:Mod E L) (h':Mod E L') (n:Nd):n∈L↔n∈L':=by
 have key:∀ (v:Nat) (n:Nd),lvN E.s n=v->(n∈L↔n∈L'):=by
  intro v
  induction v using Nat.strongRecOn with
  | ind v ih=>
   intro n hn;have hv:∀ c,lvN E.s c<v->(c∈L↔c∈L'):=fun c hc=>ih _ hc c rfl
   exact ⟨Mod.le hE hc h h' hv _ n rfl hn,Mod.le hE hc h' h (fun c hc=>(hv c hc).symm) _ n rfl hn⟩
 exact key _ n rfl
noncomputable def inB (E:q1k) (n:Nd):Bool:=@decide (∃ K,Mod E K/\n∈K) (Classical.propDecidable _)
theorem yvy {E:q1k} {K:List Nd} (hE:yaz E) (hc:y0a (y06 E.s)=0) (h:Mod E K) (n:Nd):decide (n∈K)=inB E n:=by
 unfold inB;rw [Bool.eq_iff_iff,decide_eq_true_eq];exact ⟨fun hn=>(@decide_eq_true_iff _ (Classical.propDecidable _)).2 ⟨K,h,hn⟩,fun hq=>by
  obtain ⟨K',h',hn⟩:=(@decide_eq_true_iff _ (Classical.propDecidable _)).1 hq;exact (Mod.uniq hE hc h' h n).1 hn⟩
section
variable {α:Type}
def vl (n:Nat) (v:Nat->α):List α:=(List.range n).map v
theorem q2d {n:Nat} {v:Nat->α}:(vl n v).length=n:=by simp [vl]
theorem y7h {n:Nat} {v:Nat->α} {i:Nat} (h:i<n):(vl n v)[i]?=some (v i):=by simp [vl,h]
theorem xff (xs:List α) (d:α):vl xs.length (fun i=>xs.getD i d)=xs:=by
 apply List.ext_getElem?
 intro i;by_cases h:i<xs.length
 ·rw [y7h h];simp [h]
 ·rw [List.getElem?_eq_none_iff.2 (by rw [q2d];omega),List.getElem?_eq_none_iff.2 (by omega)]
structure Rng (n a b:Nat) (v w:Nat->α):Prop where
 perm:(vl n v).Perm (vl n w)
 out:∀ i,i<a\/b<=i->w i=v i
def sw (v:Nat->α) (i j:Nat):Nat->α:=fun k=>if k=j then v i else if k=i then v j else v k
theorem yp7 {v:Nat->α} {i j:Nat}:sw v i j i=v j:=by
 unfold sw;by_cases h:i=j
 ·rw [if_pos h,h]
 ·rw [if_neg h,if_pos rfl]
theorem yyh {v:Nat->α} {i j:Nat}:sw v i j j=v i:=if_pos rfl
theorem y0s {v:Nat->α} {i j k:Nat} (h1:k≠i) (h2:k≠j):sw v i j k=v k:=by unfold sw;rw [if_neg h2,if_neg h1]
theorem yt2 {n:Nat} {v:Nat->α} {i:Nat} {x:α}:(vl n v).set i x=vl n fun k=>if k=i then x else v k:=by
 apply List.ext_getElem?
 intro k;rw [lV];by_cases h:k<n
 ·rw [y7h h,y7h h,q2d];by_cases e:i=k
  ·subst e;simp [h]
  ·rw [if_neg e,if_neg (Ne.symm e)]
 ·rw [List.getElem?_eq_none_iff.2 (by rw [q2d];omega),List.getElem?_eq_none_iff.2 (by rw [q2d];omega),q2d]
  split
  ·rw [if_neg (by omega)]
  ·rfl
theorem Rng.refl (n a b:Nat) (v:Nat->α):Rng n a b v v:=⟨List.Perm.refl _,fun _ _=>rfl⟩
theorem Rng.trans {n a b:Nat} {u v w:Nat->α} (h:Rng n a b u v) (k:Rng n a b v w):Rng n a b u w:=⟨h.perm.trans k.perm,fun i hi=>(k.out i hi).trans (h.out i hi)⟩
theorem Rng.mono {n a b a' b':Nat} {v w:Nat->α} (h:Rng n a b v w) (ha:a'<=a) (hb:b<=b'):Rng n a' b' v w:=⟨h.perm,fun i hi=>h.out i (by omega)⟩
theorem Rng.sw {n a b i j:Nat} {v:Nat->α} (hi:a<=i) (hi':i<b) (hj:a<=j) (hj':j<b) (hb:b<=n):Rng n a b v (sw v i j):=by
 refine ⟨?_,fun k hk=>y0s (by omega) (by omega)⟩
 have h:=@List.set_set_perm _ (vl n v) i j (by rw [q2d];omega) (by rw [q2d];omega)
 have e1:(vl n v)[i]'(by rw [q2d];omega)=v i:=by
  have:=y7h (v:=v) (show i<n by omega)
  rw [lF (by rw [q2d];omega)] at this
  exact Option.some.inj this
 have e2:(vl n v)[j]'(by rw [q2d];omega)=v j:=by
  have:=y7h (v:=v) (show j<n by omega)
  rw [lF (by rw [q2d];omega)] at this
  exact Option.some.inj this
 rw [e1,e2,yt2,yt2] at h;exact h.symm
theorem Rng.mem {n a b:Nat} {v w:Nat->α} (h:Rng n a b v w) (hb:b<=n) {i:Nat} (h1:a<=i) (h2:i<b):∃ j,a<=j/\j<b/\w i=v j:=by
 have e:∀ u:Nat->α,vl n u=(lN 0 a).map u++((lN a (b-a)).map u++(lN b (n-b)).map u):=by
  intro u;rw [<- lE,<- lE];unfold vl
  congr 1
  rw [List.range_eq_range'];have r2:lN a (b-a)++lN b (n-b)=lN a (n-a):=by
   have:=List.range'_append (s:=a) (m:=b-a) (n:=n-b) (step:=1);rw [show a+1 * (b-a)=b by omega,show (b-a)+(n-b)=n-a by omega] at this
   exact this
  have r1:lN 0 a++lN a (n-a)=lN 0 n:=by
   have:=List.range'_append (s:=0) (m:=a) (n:=n-a) (step:=1);rw [show 0+1 * a=a by omega,show a+(n-a)=n by omega] at this
   exact this
  rw [r2,r1]
 have hp:=h.perm;rw [e v,e w] at hp;have c1:(lN 0 a).map w=(lN 0 a).map v:=List.map_congr_left fun k hk=>h.out k (.inl (by simp at hk;omega))
 have c2:(lN b (n-b)).map w=(lN b (n-b)).map v:=List.map_congr_left fun k hk=>h.out k (.inr (by simp at hk;omega))
 rw [c1,c2,List.perm_append_left_iff,List.perm_append_right_iff] at hp;have hm:w i∈(lN a (b-a)).map w:=List.mem_map.2 ⟨i,by simp;omega,rfl⟩
 obtain ⟨j,hj,e⟩:=List.mem_map.1 (hp.mem_iff.2 hm);simp at hj;exact ⟨j,by omega,by omega,e.symm⟩
structure y0u (lt:α->α->Bool):Prop where
 asy:∀ x y,lt x y=true->lt y x=false
 tr:∀ x y z,lt y x=false->lt z y=false->lt z x=false
variable {lt:α->α->Bool}
def Le (lt:α->α->Bool) (x y:α):Prop:=lt y x=false
theorem Le.refl (h:y0u lt) (x:α):Le lt x x:=by
 unfold Le;cases e:lt x x with
 | false=>rfl
 | true=>have:=h.asy x x e;rw [e] at this;exact this
theorem Le.trans (h:y0u lt) {x y z:α} (h1:Le lt x y) (h2:Le lt y z):Le lt x z:=h.tr x y z h1 h2
theorem Le.of_lt (h:y0u lt) {x y:α} (h1:lt x y=true):Le lt x y:=h.asy x y h1
def Srt (lt:α->α->Bool) (a b:Nat) (v:Nat->α):Prop:=∀ p q,a<=p->p<q->q<b->Le lt (v p) (v q)
theorem Srt.one {a b:Nat} {v:Nat->α} (h:b<=a+1):Srt lt a b v:=fun p q h1 h2 h3=>by omega
theorem Srt.snoc (h:y0u lt) {a b:Nat} {v:Nat->α} (hs:Srt lt a b v) (hab:a<b) (hl:Le lt (v (b-1)) (v b)):Srt lt a (b+1) v:=by
 intro p q h1 h2 h3;by_cases hq:q=b
 ·subst hq;by_cases hp:p=q-1
  ·rw [hp];exact hl
  ·exact (hs p (q-1) h1 (by omega) (by omega)).trans h hl
 ·exact hs p q h1 h2 (by omega)
theorem Srt.same {a b:Nat} {v w:Nat->α} (hs:Srt lt a b v) (e:∀ i,a<=i->i<b->w i=v i):Srt lt a b w:=fun p q h1 h2 h3=>by rw [e p h1 (by omega),e q (by omega) h3];exact hs p q h1 h2 h3
structure InsI (lt:α->α->Bool) (a i j:Nat) (v:Nat->α):Prop where
 lo:a<=j
 hi:j<=i
 s:∀ p q,a<=p->p<q->q<=i->q≠j->Le lt (v p) (v q)
theorem InsI.start {a i:Nat} {v:Nat->α} (hs:Srt lt a i v) (h:a<=i):InsI lt a i i v:=⟨h,Nat.le_refl _,fun p q h1 h2 h3 h4=>hs p q h1 h2 (by omega)⟩
theorem InsI.stop (h:y0u lt) {a i j:Nat} {v:Nat->α} (hs:InsI lt a i j v) (hj:j=a\/Le lt (v (j-1)) (v j)):Srt lt a (i+1) v:=by
 intro p q h1 h2 h3;by_cases hq:q=j
 ·rcases hj with hj | hj
  ·omega
  ·subst hq;by_cases hp:p=q-1
   ·rw [hp];exact hj
   ·exact (hs.s p (q-1) h1 (by omega) (by have:=hs.hi;omega) (by omega)).trans h hj
 ·exact hs.s p q h1 h2 (by omega) hq
theorem InsI.step (h:y0u lt) {a i j:Nat} {v:Nat->α} (hs:InsI lt a i j v) (hj:a<j) (hl:lt (v j) (v (j-1))=true):InsI lt a i (j-1) (sw v j (j-1)):=by
 have h0:=hs.hi;refine ⟨by omega,by omega,fun p q h1 h2 h3 h4=>?_⟩
 by_cases hq:q=j
 ·subst hq;rw [yp7];by_cases hp:p=q-1
  ·subst hp;rw [yyh];exact Le.of_lt h hl
  ·rw [y0s (by omega) hp]
   exact hs.s p (q-1) h1 (by omega) (by omega) (by omega)
 ·rw [y0s hq h4 (v:=v)];by_cases hp:p=j-1
  ·subst hp;rw [yyh];exact hs.s j q (by omega) (by omega) h3 hq
  ·by_cases hp2:p=j
   ·subst hp2;rw [yp7];exact hs.s (p-1) q (by omega) (by omega) h3 hq
   ·rw [y0s hp2 hp];exact hs.s p q h1 h2 h3 hq
def Hp (lt:α->α->Bool) (f lo hi:Nat) (v:Nat->α):Prop:=∀ p c,lo<=p->(c=2 * p+1\/c=2 * p+2)->c<hi->Le lt (v (f+c)) (v (f+p))
structure Sif (lt:α->α->Bool) (f lo hi r:Nat) (v:Nat->α):Prop where
 lr:lo<=r
 pp:∀ p c,lo<=p->p≠r->(c=2 * p+1\/c=2 * p+2)->c<hi->Le lt (v (f+c)) (v (f+p))
 gg:∀ q c,lo<=q->(r=2 * q+1\/r=2 * q+2)->(c=2 * r+1\/c=2 * r+2)->c<hi->Le lt (v (f+c)) (v (f+q))
theorem Sif.start {f lo hi:Nat} {v:Nat->α} (h:Hp lt f (lo+1) hi v):Sif lt f lo hi lo v:=⟨Nat.le_refl _,fun p c h1 h2 h3 h4=>h p c (by omega) h3 h4,fun q c h1 h2=>by omega⟩
theorem Sif.stop0 {f lo hi r:Nat} {v:Nat->α} (h:Sif lt f lo hi r v) (hr:hi<=2 * r+1):Hp lt f lo hi v:=fun p c h1 h2 h3=>by
 by_cases hp:p=r
 ·omega
 ·exact h.pp p c h1 hp h2 h3
structure xg6 (lt:α->α->Bool) (f hi r ch:Nat) (v:Nat->α):Prop where
 cc:ch=2 * r+1\/ch=2 * r+2
 cl:ch<hi
 mm:∀ c,(c=2 * r+1\/c=2 * r+2)->c<hi->Le lt (v (f+c)) (v (f+ch))
theorem Sif.stop (h0:y0u lt) {f lo hi r ch:Nat} {v:Nat->α} (h:Sif lt f lo hi r v) (hb:xg6 lt f hi r ch v) (hl:Le lt (v (f+ch)) (v (f+r))):Hp lt f lo hi v:=fun p c h1 h2 h3=>by
 by_cases hp:p=r
 ·subst hp;exact (hb.mm c h2 h3).trans h0 hl
 ·exact h.pp p c h1 hp h2 h3
theorem Sif.step (h0:y0u lt) {f lo hi r ch:Nat} {v:Nat->α} (h:Sif lt f lo hi r v) (hb:xg6 lt f hi r ch v) (hl:lt (v (f+r)) (v (f+ch))=true):Sif lt f lo hi ch (sw v (f+r) (f+ch)):=by
 have h1:=h.lr;have h2:=hb.cc;have h3:=hb.cl;refine ⟨by omega,fun p c a1 a2 a3 a4=>?_,fun q c a1 a2 a3 a4=>?_⟩
 ·by_cases hp:p=r
  ·subst hp;rw [yp7];by_cases hc:c=ch
   ·subst hc;rw [yyh];exact Le.of_lt h0 hl
   ·rw [y0s (by omega) (by omega)]
    exact hb.mm c a3 a4
  ·rw [y0s (k:=f+p) (by omega) (by omega)]
   by_cases hc:c=r
   ·subst hc;rw [yp7];exact h.gg p ch a1 a3 h2 h3
   ·rw [y0s (by omega) (by omega)]
    exact h.pp p c a1 hp a3 a4
 ·have hq:q=r:=by omega
  subst hq;rw [yp7,y0s (by omega) (by omega)]
  exact h.pp ch c (by omega) (by omega) a3 a4
theorem Hp.max (h0:y0u lt) {f hi:Nat} {v:Nat->α} (h:Hp lt f 0 hi v):∀ i,i<hi->Le lt (v (f+i)) (v f):=by
 intro i
 induction i using Nat.strongRecOn with
 | ind i ih=>
  intro hi';by_cases e:i=0
  ·subst e;exact Le.refl h0 _
  ·exact (h ((i-1) / 2) i (Nat.zero_le _) (by omega) hi').trans h0 (ih ((i-1) / 2) (by omega) (by omega))
structure Pop (lt:α->α->Bool) (f m hi:Nat) (v:Nat->α):Prop where
 h:Hp lt f 0 m v
 s:Srt lt (f+m) (f+hi) v
 u:∀ i j,i<m->m<=j->j<hi->Le lt (v (f+i)) (v (f+j))
theorem Pop.pre {f i hi:Nat} {v:Nat->α} (h:Pop lt f (i+1) hi v):Hp lt f 1 i (sw v f (f+i)):=fun p c h1 h2 h3=>by
 rw [y0s (by omega) (by omega),y0s (by omega) (by omega)]
 exact h.h p c (Nat.zero_le _) h2 (by omega)
theorem Pop.step (h0:y0u lt) {n f i hi:Nat} {v w:Nat->α} (hi':i<hi) (hn:f+hi<=n) (h:Pop lt f (i+1) hi v) (hr:Rng n f (f+i) (sw v f (f+i)) w) (hw:Hp lt f 0 i w):Pop lt f i hi w:=by
 have hmax:=h.h.max h0;have wi:w (f+i)=v f:=by rw [hr.out _ (.inr (Nat.le_refl _)),yyh]
 have wo:∀ j,i<j->w (f+j)=v (f+j):=fun j hj=>by rw [hr.out _ (.inr (by omega)),y0s (by omega) (by omega)]
 have wl:∀ k,k<i->∃ m,m<=i/\w (f+k)=v (f+m):=by
  intro k hk;obtain ⟨j,j1,j2,j3⟩:=hr.mem (by omega) (i:=f+k) (by omega) (by omega)
  rw [j3];by_cases e:j=f
  ·subst e;exact ⟨i,Nat.le_refl _,yp7⟩
  ·exact ⟨j-f,by omega,by rw [y0s e (by omega)];congr 1;omega⟩
 refine ⟨hw,fun p q h1 h2 h3=>?_,fun k j h1 h2 h3=>?_⟩
 ·have ep:p=f+(p-f):=by omega
  have eq:q=f+(q-f):=by omega
  rw [eq,wo _ (by omega)]
  by_cases hp:p=f+i
  ·rw [hp,wi];exact h.u 0 (q-f) (by omega) (by omega) (by omega)
  ·rw [ep,wo _ (by omega)]
   exact h.s _ _ (by omega) (by omega) (by omega)
 ·obtain ⟨m,m1,m2⟩:=wl k h1;rw [m2];by_cases e:j=i
  ·subst e;rw [wi];exact hmax m (by omega)
  ·rw [wo j (by omega)]
   exact h.u m j (by omega) (by omega) h3
structure Par (lt:α->α->Bool) (a b i j:Nat) (v:Nat->α):Prop where
 i1:a<i
 j1:j<b
 ij:i<=j+1
 l:∀ k,a<k->k<i->lt (v k) (v a)=true
 r:∀ k,j<k->k<b->Le lt (v a) (v k)
theorem Par.swap {a b i j:Nat} {v:Nat->α} (h:Par lt a b i j v) (hij:i<=j) (h1:Le lt (v a) (v i)) (h2:lt (v j) (v a)=true):Par lt a b (i+1) (j-1) (sw v i j)/\i<j:=by
 have hi:=h.i1;have hne:i≠j:=by rintro rfl;unfold Le at h1;rw [h1] at h2;cases h2
 have ea:sw v i j a=v a:=y0s (by omega) (by omega)
 refine ⟨⟨by omega,by have:=h.j1;omega,by omega,fun k k1 k2=>?_,fun k k1 k2=>?_⟩,by omega⟩
 ·rw [ea];by_cases e:k=i
  ·subst e;rw [yp7];exact h2
  ·rw [y0s e (by omega)];exact h.l k k1 (by omega)
 ·rw [ea];by_cases e:k=j
  ·subst e;rw [yyh];exact h1
  ·rw [y0s (by omega) e];exact h.r k (by omega) k2
structure Cut (lt:α->α->Bool) (a b m:Nat) (v:Nat->α):Prop where
 ca:a<=m
 cb:m<b
 l:∀ k,a<=k->k<m->Le lt (v k) (v m)
 r:∀ k,m<k->k<b->Le lt (v m) (v k)
theorem Par.cut (h0:y0u lt) {a b i j:Nat} {v:Nat->α} (h:Par lt a b i j v) (hij:j<i):Cut lt a b j (sw v j a):=by
 have h1:=h.i1;have h2:=h.ij;have h3:=h.j1;have ej:sw v j a j=v a:=yp7;refine ⟨by omega,h3,fun k k1 k2=>?_,fun k k1 k2=>?_⟩
 ·rw [ej];by_cases e:k=a
  ·subst e;rw [yyh];exact Le.of_lt h0 (h.l j k2 hij)
  ·rw [y0s (by omega) e]
   exact Le.of_lt h0 (h.l k (by omega) (by omega))
 ·rw [ej,y0s (by omega) (by omega)]
  exact h.r k k1 k2
structure ParE (lt:α->α->Bool) (a b i j:Nat) (v:Nat->α):Prop where
 i1:a<i
 j1:j<b
 ij:i<=j+1
 l:∀ k,a<k->k<i->Le lt (v k) (v a)
 r:∀ k,j<k->k<b->lt (v a) (v k)=true
theorem ParE.swap {a b i j:Nat} {v:Nat->α} (h:ParE lt a b i j v) (hij:i<=j) (h1:lt (v a) (v i)=true) (h2:Le lt (v j) (v a)):ParE lt a b (i+1) (j-1) (sw v i j)/\i<j:=by
 have hi:=h.i1;have hne:i≠j:=by rintro rfl;unfold Le at h2;rw [h2] at h1;cases h1
 have ea:sw v i j a=v a:=y0s (by omega) (by omega)
 refine ⟨⟨by omega,by have:=h.j1;omega,by omega,fun k k1 k2=>?_,fun k k1 k2=>?_⟩,by omega⟩
 ·rw [ea];by_cases e:k=i
  ·subst e;rw [yp7];exact h2
  ·rw [y0s e (by omega)];exact h.l k k1 (by omega)
 ·rw [ea];by_cases e:k=j
  ·subst e;rw [yyh];exact h1
  ·rw [y0s (by omega) e];exact h.r k (by omega) k2
structure Pdq (lt:α->α->Bool) (A B a b:Nat) (v:Nat->α):Prop where
 pa:A<=a
 ab:a<=b
 pb:b<=B
 l:Srt lt A a v
 r:Srt lt b B v
 lm:∀ i j,A<=i->i<a->a<=j->j<B->Le lt (v i) (v j)
 mr:∀ i j,A<=i->i<b->b<=j->j<B->Le lt (v i) (v j)
theorem Pdq.start {A B:Nat} {v:Nat->α} (h:A<=B):Pdq lt A B A B v:=⟨Nat.le_refl _,h,Nat.le_refl _,Srt.one (by omega),Srt.one (by omega),fun i j h1 h2=>by omega,fun i j h1 h2 h3 h4=>by omega⟩
theorem Pdq.rng {n A B a b:Nat} {v w:Nat->α} (h:Pdq lt A B a b v) (hn:B<=n) (hr:Rng n a b v w):Pdq lt A B a b w:=by
 have h1:=h.pa;have h2:=h.ab;have h3:=h.pb;have lo:∀ i,i<a->w i=v i:=fun i hi=>hr.out i (.inl hi)
 have hi:∀ i,b<=i->w i=v i:=fun i hi=>hr.out i (.inr hi)
 refine ⟨h1,h2,h3,h.l.same fun i _ hi=>lo i hi,h.r.same fun i hi' _=>hi i hi',fun i j a1 a2 a3 a4=>?_,fun i j a1 a2 a3 a4=>?_⟩
 ·rw [lo i a2];by_cases e:j<b
  ·obtain ⟨k,k1,k2,k3⟩:=hr.mem (by omega) a3 e
   rw [k3];exact h.lm i k a1 a2 k1 (by omega)
  ·rw [hi j (by omega)]
   exact h.lm i j a1 a2 a3 a4
 ·rw [hi j a3];by_cases e:a<=i
  ·obtain ⟨k,k1,k2,k3⟩:=hr.mem (by omega) e a2
   rw [k3];exact h.mr k j (by omega) k2 a3 a4
  ·rw [lo i (by omega)]
   exact h.mr i j a1 a2 a3 a4
theorem Pdq.done (h0:y0u lt) {A B a b:Nat} {v:Nat->α} (h:Pdq lt A B a b v) (hs:Srt lt a b v):Srt lt A B v:=by
 have h1:=h.ab;intro p q a1 a2 a3;by_cases e1:q<a
 ·exact h.l p q a1 a2 e1
 ·by_cases e2:p<a
  ·exact h.lm p q a1 e2 (by omega) a3
  ·by_cases e3:q<b
   ·exact hs p q (by omega) a2 e3
   ·by_cases e4:p<b
    ·exact h.mr p q a1 e4 (by omega) a3
    ·exact h.r p q (by omega) a2 a3
theorem Pdq.left (h0:y0u lt) {A B a b m:Nat} {v:Nat->α} (h:Pdq lt A B a b v) (hm:Cut lt a b m v) (hs:Srt lt a m v):Pdq lt A B (m+1) b v:=by
 have h1:=h.pa;have h2:=hm.ca;have h3:=hm.cb;have h4:=h.pb;have key:∀ i j,a<=i->i<m+1->m<=j->j<b->i<j->Le lt (v i) (v j):=by
  intro i j b1 b2 b3 b4 b5;have q1:Le lt (v i) (v m):=by
   by_cases e:i=m
   ·rw [e];exact Le.refl h0 _
   ·exact hm.l i b1 (by omega)
  by_cases e:j=m
  ·rw [e];exact q1
  ·exact q1.trans h0 (hm.r j (by omega) b4)
 refine ⟨by omega,by omega,h4,fun p q a1 a2 a3=>?_,h.r,fun i j a1 a2 a3 a4=>?_,h.mr⟩
 ·by_cases e1:q<a
  ·exact h.l p q a1 a2 e1
  ·by_cases e2:p<a
   ·exact h.lm p q a1 e2 (by omega) (by omega)
   ·by_cases e3:q<m
    ·exact hs p q (by omega) a2 e3
    ·exact key p q (by omega) (by omega) (by omega) (by omega) a2
 ·by_cases e1:i<a
  ·exact h.lm i j a1 e1 (by omega) a4
  ·by_cases e2:j<b
   ·exact key i j (by omega) a2 (by omega) e2 (by omega)
   ·exact h.mr i j a1 (by omega) (by omega) a4
theorem Pdq.right (h0:y0u lt) {A B a b m:Nat} {v:Nat->α} (h:Pdq lt A B a b v) (hm:Cut lt a b m v) (hs:Srt lt (m+1) b v):Pdq lt A B a m v:=by
 have h1:=h.pa;have h2:=hm.ca;have h3:=hm.cb;have h4:=h.pb;have key:∀ i j,a<=i->i<m+1->m<=j->j<b->i<j->Le lt (v i) (v j):=by
  intro i j b1 b2 b3 b4 b5;have q1:Le lt (v i) (v m):=by
   by_cases e:i=m
   ·rw [e];exact Le.refl h0 _
   ·exact hm.l i b1 (by omega)
  by_cases e:j=m
  ·rw [e];exact q1
  ·exact q1.trans h0 (hm.r j (by omega) b4)
 refine ⟨h1,h2,by omega,h.l,fun p q a1 a2 a3=>?_,h.lm,fun i j a1 a2 a3 a4=>?_⟩
 ·by_cases e1:b<=p
  ·exact h.r p q e1 a2 a3
  ·by_cases e2:b<=q
   ·exact h.mr p q (by omega) (by omega) e2 a3
   ·by_cases e3:p=m
    ·subst e3;exact hm.r q a2 (by omega)
    ·exact hs p q (by omega) a2 (by omega)
 ·by_cases e1:b<=j
  ·exact h.mr i j a1 (by omega) e1 a4
  ·by_cases e2:i<a
   ·exact h.lm i j a1 e2 (by omega) a4
   ·exact key i j (by omega) (by omega) a3 (by omega) (by omega)
theorem Pdq.same (h0:y0u lt) {A B a b m:Nat} {v:Nat->α} (h:Pdq lt A B a b v) (ham:a<=m) (hmb:m<=b) (hmin:∀ k,a<=k->k<b->Le lt (v a) (v k)) (hl:∀ k,a<=k->k<m->Le lt (v k) (v a)):Pdq lt A B m b v:=by
 have h1:=h.pa;have h4:=h.pb;have key:∀ i j,a<=i->i<m->a<=j->j<b->Le lt (v i) (v j):=fun i j b1 b2 b3 b4=>(hl i b1 b2).trans h0 (hmin j b3 b4)
 refine ⟨by omega,hmb,h4,fun p q a1 a2 a3=>?_,h.r,fun i j a1 a2 a3 a4=>?_,h.mr⟩
 ·by_cases e1:q<a
  ·exact h.l p q a1 a2 e1
  ·by_cases e2:p<a
   ·exact h.lm p q a1 e2 (by omega) (by omega)
   ·exact key p q (by omega) (by omega) (by omega) (by omega)
 ·by_cases e1:i<a
  ·exact h.lm i j a1 e1 (by omega) a4
  ·by_cases e2:j<b
   ·exact key i j (by omega) a2 (by omega) e2
   ·exact h.mr i j a1 (by omega) (by omega) a4
end
set_option maxRecDepth 4000
abbrev MD:Bool×List EK:=(true,[.str,.str,.str])
def ndA (n:Nd):AV:=.agg (ndC n)
theorem ke_nd:KE MD ndA:=⟨fun n=>by simp [ndA,ndC,q0u,q1i,y7c],fun n m h=>by
 obtain ⟨⟨a,b⟩,c⟩:=n;obtain ⟨⟨d,e⟩,f⟩:=m;simp only [ndA,ndC,AV.agg.injEq,List.cons.injEq,AV.str.injEq,and_true] at h;obtain ⟨rfl,rfl,rfl⟩:=h;rfl⟩
theorem yht {α σ:Type} {step:σ->α->Option (Bool×σ)} {x:α} {r:List α} {a:σ}:q4o step (x :: r) a=match step a x with
  | none=>none
  | some (true,a')=>some (true,a')
  | some (false,a')=>q4o step r a':=rfl
theorem KMap.lki {κ:Type} {M:Bool×List EK} {enc:κ->AV} {S:q00} {b:Nat} {f:κ->Option AV} {ok:Bool} {z:AV} {K:AV->Prop} (h:KMap M enc S b f) (he:KE M enc) (k:κ) (hk:K (q2q ok z (f k))):lkW S M ok z (.map (some b)) (enc k) K:=Eq.mpr (h.lk he k) hk
def q3g (pv:AV) (X:q00->Prop) (St:Nat->q00->Prop) (q:Option (Bool×Nat)) (ae:AEnd) (S':q00):Prop:=match q with
 | some (b,w')=>ae=.ret (.bool b)/\St w' S'
 | none=>ae=.pan pv/\X S'
section
variable {xs:List Nd} {g:Nat} {fi ca:List AV} {St:Nat->q00->Prop} {step:Nat->Nd->Option (Bool×Nat)} {pv:AV} {X:q00->Prop}
theorem q74 (hb:xs.length<=1125899906842624) (hp:∀ x∈xs,∀ w S,St w S->ACalls PG g (fi++[.agg (ndC x)]++ca) S (q3g pv X St (step w x))) {w:Nat} {S:q00} (h0:St w S) :
  ACalls PG yke [.sl 3 (xs.map ndC),.func (.func g) fi ca] S fun ae S'=>match q4o step xs w with
   | some (b,w')=>(∃ i:Int,ae=.ret (.int .i64 i)/\decide (0<=i)=b)/\St w' S'
   | none=>ae=.pan pv/\X S':=by
 refine x46 ?_;unfold x3p;(try simp only [rwp,zA,zB,zC,zD,zE,zF,zG,zH,zI]);refine LoopP.introS (fun i:Nat=>[(0,.sl 3 (xs.map ndC)),(1,.func (.func g) fi ca),(7,.int .i64 xs.length),(8,.int .i64 i)]) (fun i S'=>i<=xs.length/\∃ w',St w' S'/\q4o step (xs.drop i) w'=q4o step xs w) (fun i=>xs.length-i) 0 ⟨by omega,w,h0,rfl⟩ rfl ?_
 rintro i S' ⟨hi,w1,h1,h2⟩ r hr;unfold yog;(try simp only [rwp,zA,zB,zC,zD,zE,zF,zG,zH,zI])
 (refine q03 (fun hlt=>?_) (fun hlt=>?_)<;>(try simp only [hlc] at hlt))
 ·obtain ⟨x,hx⟩:=q0e hlt;have q:=hp x (lA hx) w1 S' h1;rw [q0j hx,yht] at h2;(try simp only [rwp,zA,zB,zC,zD,zE,zF,zG,zH,zI,hx,ndC]);refine y6n q ?_;intro ae S2 hq;unfold q3g at hq;cases hs:step w1 x with
  | none=>
   rw [hs] at hq h2;obtain ⟨rfl,hx⟩:=hq
   show pqW _ _ _;unfold pqW;rw [<- h2];exact ⟨rfl,hx⟩
  | some p=>
   obtain ⟨b,w2⟩:=p;rw [hs] at hq h2;obtain ⟨rfl,h3⟩:=hq;dsimp only at h2 ⊢;cases b with
   | true=>
    dsimp only at h2;(try simp only [rwp,zA,zB,zC,zD,zE,zF,zG,zH,zI]);refine q02 ?_;rw [<- h2];exact ⟨⟨i,rfl,by simp⟩,h3⟩
   | false=>
    dsimp only at h2;(try simp only [rwp,zA,zB,zC,zD,zE,zF,zG,zH,zI])
    (simp (disch:=omega) only [q04])
    exact q08 rfl (hr (i+1) S2 ⟨by omega,w2,h3,h2⟩ (by omega))
 ·have e:xs.drop i=[]:=q15 hlt;rw [e] at h2;refine q02 ?_;rw [<- h2];exact ⟨⟨-1,rfl,rfl⟩,h1⟩
theorem q5j (hb:xs.length<=1125899906842624) (hp:∀ x∈xs,∀ w S,St w S->ACalls PG g (fi++[.agg (ndC x)]++ca) S (q3g pv X St (step w x))) {w:Nat} {S:q00} (h0:St w S) :
  ACalls PG ye1 [.sl 3 (xs.map ndC),.func (.func g) fi ca] S (q3g pv X St (q4o step xs w)):=by
 refine x47 ?_;unfold x3q;refine q0c (q74 hb hp h0) ?_;intro ae S' hq;unfold q3g;cases hf:q4o step xs w with
 | none=>
  rw [hf] at hq;obtain ⟨rfl,hx⟩:=hq;exact ⟨rfl,hx⟩
 | some p=>
  obtain ⟨b,w2⟩:=p;rw [hf] at hq;obtain ⟨⟨i,rfl,h1⟩,h2⟩:=hq;dsimp only;(try simp only [rwp,zA,zB,zC,zD,zE,zF,zG,zH,zI]);exact q02 ⟨by rw [h1],h2⟩
theorem q88 {w:Nat} {S:q00} (h0:St w S) :
  ACalls PG ye1 [.nils,.func (.func g) fi ca] S (q3g pv X St (q4o step [] w)):=by
 refine x47 ?_;unfold x3q;have q:AFunS PG yke [.nils,.func (.func g) fi ca] S (.int .i64 (-1)):=by
  refine x46 ?_;unfold x3p;(try simp only [rwp,zA,zB,zC,zD,zE,zF,zG,zH,zI]);refine LoopP.introS (fun _:Nat=>[(0,.nils),(1,.func (.func g) fi ca),(7,.int .i64 0),(8,.int .i64 0)]) (fun i S'=>S'=S) (fun i=>i) 0 rfl rfl ?_
  rintro i S' rfl r hr;(try simp only [rwp,zA,zB,zC,zD,zE,zF,zG,zH,zI,rwb,reduceIte,yog,Int.lt_irrefl]);exact q02 ⟨rfl,rfl⟩
 refine q1a q ?_;(try simp only [rwp,zA,zB,zC,zD,zE,zF,zG,zH,zI]);exact q02 ⟨rfl,h0⟩
def ofA (l:List Nd):Option AV:=if l=[] then none else some (.sl 3 (l.map ndC))
theorem q4x (hb:xs.length<=1125899906842624) (hp:∀ x∈xs,∀ w S,St w S->ACalls PG g (fi++[.agg (ndC x)]++ca) S (q3g pv X St (step w x))) {w:Nat} {S:q00} (h0:St w S) :
  ACalls PG ye1 [q2q false .nils (ofA xs),.func (.func g) fi ca] S (q3g pv X St (q4o step xs w)):=by
 unfold ofA;split
 ·rename_i h;subst h;exact q88 h0
 ·exact q5j hb hp h0
end
abbrev yt3:Nat:=94
abbrev spV:AV:=.iface 100 (.agg [])
structure PathE (es:List (AV×AV×Nat)) (P:List Nd):Prop where
 key:∀ x∈es,∃ n,x.1=ndA n
 len:es.length=P.length
 get:∀ n,y0e es (ndA n)=if n∈P then some (.bool true) else none
def seC (E:q1k) (B:Int) (bo bp w:Nat):List AV:=[.sl 2 (E.s.map tyC),.map (some bo),.str E.who.ty,.str E.who.id,.int .i64 B,.int .i64 w,.map (some bp)]
def stE (E:q1k) (B:Int) (bc bo bp:Nat) (S0:q00) (w:Nat) (es:List (AV×AV×Nat)) (clk:Nat):q00:=supd (supd S0 bc (.cells yt3 (seC E B bo bp w) 7)) bp (.map MD es clk)
structure ype (E:q1k) (B:Int) (bc bo bp:Nat) (S0:q00):Prop where
 s:OkS E.s
 may:∀ t∈E.s,∀ r∈t.rels,r.refs.length=0->y0d 12 r.ex=true
 n1:bp≠bc
 nc:y01 S0 bc=none
 np:y01 S0 bp=none
 n2:bo≠bc
 n3:bo≠bp
 of:KMap MD ndA S0 bo (fun n=>ofA (E.of n))
 B:B<=100000
 len:∀ n,(E.of n).length<=100000
section
variable {E:q1k} {B:Int} {bc bo bp:Nat} {S0:q00}
def StE (E:q1k) (B:Int) (bc bo bp:Nat) (S0:q00) (es:List (AV×AV×Nat)) (w:Nat) (S:q00):Prop:=(w:Int)<=B/\∃ clk,S=stE E B bc bo bp S0 w es clk
def yp2 (E:q1k) (B:Int) (bc bo bp:Nat) (S0:q00) (ask:Nd->Nat->Option (Bool×Nat)) (es:List (AV×AV×Nat)):Prop:=∀ n w S,StE E B bc bo bp S0 es w S ->
 ACalls PG x5v [.ptr bc 0,.agg (obC n.o),.str n.rl] S (q3g spV (Sub S0) (StE E B bc bo bp S0 es) (ask n w))
theorem y5h (h:ype E B bc bo bp S0) {w:Nat} {es:List (AV×AV×Nat)} {clk:Nat}:q0m (stE E B bc bo bp S0 w es clk) bc=some (yt3,seC E B bo bp w,7):=by
 unfold stE;rw [q3k,if_neg h.n1,objAt_supd,if_pos rfl]
theorem yt9 (h:ype E B bc bo bp S0) {w:Nat} {es:List (AV×AV×Nat)} {clk:Nat}:KMap MD ndA (stE E B bc bo bp S0 w es clk) bo (fun n=>ofA (E.of n)):=(h.of.upd (Ne.symm h.n2) _).upd (Ne.symm h.n3) _
theorem yi8 (h:ype E B bc bo bp S0) {ask:Nd->Nat->Option (Bool×Nat)} {es:List (AV×AV×Nat)} (hask:yp2 E B bc bo bp S0 ask es) (x:Nd) (w:Nat) (S:q00) (hS:StE E B bc bo bp S0 es w S) :
  ACalls PG yux ([]++[.agg (ndC x)]++[.rop [.ptr bc 0]]) S (q3g spV (Sub S0) (StE E B bc bo bp S0 es) (y5e E.who ask w x)):=by
 obtain ⟨hw,clk,rfl⟩:=hS;have hc:=q07 (y5h h (w:=w) (es:=es) (clk:=clk));refine xea ?_;unfold xba;(try simp only [rwp,zA,zB,zC,zD,zE,zF,zG,zH,zI,rwb,reduceIte,ndC]);unfold y5e
 (refine q03 (fun h0=>?_) (fun h0=>?_)<;>(try simp only [hlc] at h0))
 ·rw [if_pos h0];(try simp only [rwp,zA,zB,zC,zD,zE,zF,zG,zH,zI,rwb,reduceIte,hc,seC,q8z]);have eo:decide (x.o=E.who)=(decide (x.o.ty=E.who.ty)&&decide (x.o.id=E.who.id)):=by
   rw [Bool.eq_iff_iff];cases x.o;cases E.who;simp
  exact q02 ⟨by rw [eo],hw,clk,rfl⟩
 ·rw [if_neg h0];refine q0c (hask x w _ ⟨hw,clk,rfl⟩) ?_;intro ae S' hq;unfold q3g at hq ⊢;cases hs:ask x w with
  | none=>rw [hs] at hq;obtain ⟨rfl,hx⟩:=hq;exact ⟨rfl,hx⟩
  | some p=>
   obtain ⟨b,w2⟩:=p;rw [hs] at hq;obtain ⟨rfl,h1⟩:=hq;exact q02 ⟨rfl,h1⟩
theorem yrl (h:ype E B bc bo bp S0) {ask:Nd->Nat->Option (Bool×Nat)} {es:List (AV×AV×Nat)} (hask:yp2 E B bc bo bp S0 ask es) (k n:AV) (ov:ByteArray) (ks:AV) (x:Nd) (w:Nat) (S:q00) (hS:StE E B bc bo bp S0 es w S) :
  ACalls PG yu3 ([]++[.agg (ndC x)]++[.rop [.ptr bc 0],.rop [k,n,.str ov,ks]]) S (q3g spV (Sub S0) (StE E B bc bo bp S0 es) (y2r ov ask w x)):=by
 refine xde ?_;unfold xae;(try simp only [rwp,zA,zB,zC,zD,zE,zF,zG,zH,zI,rwb,reduceIte,ndC]);unfold y2r;cases h0:decide (x.rl=⟨#[]⟩)
 ·have h1:=of_decide_eq_false h0;rw [if_neg h1];(try simp only [rwp,zA,zB,zC,zD,zE,zF,zG,zH,zI,rwb,reduceIte]);exact q02 ⟨rfl,hS⟩
 ·have h1:=of_decide_eq_true h0;rw [if_pos h1];(try simp only [rwp,zA,zB,zC,zD,zE,zF,zG,zH,zI,rwb,reduceIte,ndC]);refine q0c (hask ⟨x.o,ov⟩ w _ hS) ?_;intro ae S' hq;unfold q3g at hq ⊢;cases hs:ask ⟨x.o,ov⟩ w with
  | none=>rw [hs] at hq;obtain ⟨rfl,hx⟩:=hq;exact ⟨rfl,hx⟩
  | some p=>
   obtain ⟨b,w2⟩:=p;rw [hs] at hq;obtain ⟨rfl,h1⟩:=hq;(try simp only [rwp,zA,zB,zC,zD,zE,zF,zG,zH,zI,rwb,reduceIte]);exact q02 ⟨rfl,h1⟩
theorem ymw (h:ype E B bc bo bp S0) {ask:Nd->Nat->Option (Bool×Nat)} {es:List (AV×AV×Nat)} (hask:yp2 E B bc bo bp S0 ask es) (o:Ob):∀ (m:Nat) (e:Ex),y0d m e=true->∀ (w:Nat) (S:q00),StE E B bc bo bp S0 es w S ->
  ACalls PG yuy [.ptr bc 0,.agg (obC o),.agg (exC e)] S (q3g spV (Sub S0) (StE E B bc bo bp S0 es) (exQ E ask o m e w))
 | 0,e,hm,w,S,hS=>by cases hm
 | m+1,.mk k n ov ks,hm,w,S,hS=>by
  have ih:=ymw h hask o m;have hS0:=hS;obtain ⟨hw,clk,rfl⟩:=hS;have hc:=q07 (y5h h (w:=w) (es:=es) (clk:=clk));have hof:=yt9 h (w:=w) (es:=es) (clk:=clk);unfold y0d at hm;refine xeb ?_;unfold xbb exQ;(try simp only [rwp,zA,zB,zC,zD,zE,zF,zG,zH,zI,rwb,reduceIte,obC,q0f,Ex.kind,Ex.name,Ex.over,Ex.kids])
  (refine q03 (fun k0=>?_) (fun k0=>?_)<;>(try simp only [hlc] at k0))
  ·rw [if_pos k0];refine q0c (hask ⟨o,n⟩ w _ hS0) ?_;intro ae S' hq;unfold q3g at hq ⊢;cases hs:ask ⟨o,n⟩ w with
   | none=>rw [hs] at hq;obtain ⟨rfl,hx⟩:=hq;exact ⟨rfl,hx⟩
   | some p=>
    obtain ⟨b,w2⟩:=p;rw [hs] at hq;obtain ⟨rfl,h1⟩:=hq;exact q02 ⟨rfl,h1⟩
  ·rw [if_neg k0] at hm ⊢
   (refine q03 (fun k1=>?_) (fun k1=>?_)<;>(try simp only [hlc] at k1))
   ·rw [if_pos k1];(try simp only [rwp,zA,zB,zC,zD,zE,zF,zG,zH,zI,rwb,reduceIte,hc,seC]);refine KMap.lki hof ke_nd ⟨o,n⟩ ?_;refine q0c (q4x (step:=y2r ov ask) (Nat.le_trans (h.len _) (by decide)) (fun x _ w S hS=>yrl h hask _ _ ov _ x w S hS) hS0) ?_
    intro ae S' hq;unfold q3g at hq ⊢;cases hs:q4o (y2r ov ask) (E.of ⟨o,n⟩) w with
    | none=>rw [hs] at hq;obtain ⟨rfl,hx⟩:=hq;exact ⟨rfl,hx⟩
    | some p=>
     obtain ⟨b,w2⟩:=p;rw [hs] at hq;obtain ⟨rfl,h1⟩:=hq;exact q02 ⟨rfl,h1⟩
   ·rw [if_neg k1] at hm ⊢;have hk:k=2\/k=3\/k=4:=by
     refine Classical.byContradiction fun hn=>?_
     rw [if_neg hn] at hm;cases hm
    rw [if_pos hk] at hm;obtain ⟨a,b,rfl⟩:∃ a b,ks=[a,b]:=by
     match ks,hm with
     | [a,b],_=>exact ⟨a,b,rfl⟩
     | [],hm=>cases hm
     | [_],hm=>cases hm
     | _ :: _ :: _ :: _,hm=>cases hm
    simp only [two,Bool.and_eq_true] at hm;obtain ⟨ma,mb⟩:=hm;have first:=ih a ma w _ hS0;have second:=fun w2 S2 hS2=>ih b mb w2 S2 hS2
    simp only [obC] at first second;have fin:∀ (K:AV->q00->Prop),(∀ x w1 S1,exQ E ask o m a w=some (x,w1)->StE E B bc bo bp S0 es w1 S1->K (.bool x) S1)->∀ ae S',q3g spV (Sub S0) (StE E B bc bo bp S0 es) (exQ E ask o m a w) ae S'->(match (generalizing:=false) ae with
      | .ret v=>K v S'
      | .pan v=>pqW (q3g spV (Sub S0) (StE E B bc bo bp S0 es) (yrh k (exQ E ask o m a w) (exQ E ask o m b))) v S'):=by
     intro K hK ae S' hq;unfold q3g at hq;cases hs:exQ E ask o m a w with
     | none=>rw [hs] at hq;obtain ⟨rfl,hx⟩:=hq;exact ⟨rfl,hx⟩
     | some p=>
      obtain ⟨x,w2⟩:=p;rw [hs] at hq;obtain ⟨rfl,h1⟩:=hq;exact hK x w2 S' hs h1
    have fin2:∀ (x:Bool) (w1:Nat) (K:AV->q00->Prop),exQ E ask o m a w=some (x,w1)->¬ x=decide (k=2)->(∀ y w2 S2,exQ E ask o m b w1=some (y,w2)->StE E B bc bo bp S0 es w2 S2->K (.bool y) S2)->∀ ae S',q3g spV (Sub S0) (StE E B bc bo bp S0 es) (exQ E ask o m b w1) ae S'->(match (generalizing:=false) ae with
      | .ret v=>K v S'
      | .pan v=>pqW (q3g spV (Sub S0) (StE E B bc bo bp S0 es) (yrh k (exQ E ask o m a w) (exQ E ask o m b))) v S'):=by
     intro x w1 K hx hne hK ae S' hq;rw [hx];unfold yrh;dsimp only;rw [if_neg hne];unfold q3g at hq;cases hs:exQ E ask o m b w1 with
     | none=>rw [hs] at hq;obtain ⟨rfl,hx⟩:=hq;exact ⟨rfl,hx⟩
     | some p=>
      obtain ⟨y,w2⟩:=p;rw [hs] at hq;obtain ⟨rfl,h1⟩:=hq;exact hK y w2 S' hs h1
    rcases hk with rfl | rfl | rfl
    ·(try simp only [rwp,zA,zB,zC,zD,zE,zF,zG,zH,zI,rwb,reduceIte,hwR,reduceCtorEq,Int.reduceEq]);refine q0c first (fin _ fun x w1 S1 hx hS1=>?_)
     cases x
     ·(try simp only [rwp,zA,zB,zC,zD,zE,zF,zG,zH,zI,rwb,reduceIte,hwR,reduceCtorEq,Int.reduceEq]);refine q0c (second w1 S1 hS1) (fin2 _ _ _ hx (by decide) fun y w2 S2 hy hS2=>?_)
      (try simp only [rwp,zA,zB,zC,zD,zE,zF,zG,zH,zI,rwb,reduceIte,hwR,reduceCtorEq,Int.reduceEq]);refine q02 ?_;rw [hx];unfold yrh;dsimp only;rw [if_neg (by decide),hy]
      exact ⟨rfl,hS2⟩
     ·(try simp only [rwp,zA,zB,zC,zD,zE,zF,zG,zH,zI,rwb,reduceIte,hwR,reduceCtorEq,Int.reduceEq]);refine q02 ?_;rw [hx];exact ⟨rfl,hS1⟩
    ·(try simp only [rwp,zA,zB,zC,zD,zE,zF,zG,zH,zI,rwb,reduceIte,hwR,reduceCtorEq,Int.reduceEq]);refine q0c first (fin _ fun x w1 S1 hx hS1=>?_)
     cases x
     ·(try simp only [rwp,zA,zB,zC,zD,zE,zF,zG,zH,zI,rwb,reduceIte,hwR,reduceCtorEq,Int.reduceEq]);refine q02 ?_;rw [hx];exact ⟨rfl,hS1⟩
     ·(try simp only [rwp,zA,zB,zC,zD,zE,zF,zG,zH,zI,rwb,reduceIte,hwR,reduceCtorEq,Int.reduceEq]);refine q0c (second w1 S1 hS1) (fin2 _ _ _ hx (by decide) fun y w2 S2 hy hS2=>?_)
      (try simp only [rwp,zA,zB,zC,zD,zE,zF,zG,zH,zI,rwb,reduceIte,hwR,reduceCtorEq,Int.reduceEq]);refine q02 ?_;rw [hx];unfold yrh;dsimp only;rw [if_neg (by decide),hy]
      exact ⟨rfl,hS2⟩
    ·(try simp only [rwp,zA,zB,zC,zD,zE,zF,zG,zH,zI,rwb,reduceIte,hwR,reduceCtorEq,Int.reduceEq]);refine q0c first (fin _ fun x w1 S1 hx hS1=>?_)
     cases x
     ·(try simp only [rwp,zA,zB,zC,zD,zE,zF,zG,zH,zI,rwb,reduceIte,hwR,reduceCtorEq,Int.reduceEq]);refine q02 ?_;rw [hx];exact ⟨rfl,hS1⟩
     ·(try simp only [rwp,zA,zB,zC,zD,zE,zF,zG,zH,zI,rwb,reduceIte,hwR,reduceCtorEq,Int.reduceEq]);refine q0c (second w1 S1 hS1) (fin2 _ _ _ hx (by decide) fun y w2 S2 hy hS2=>?_)
      (try simp only [rwp,zA,zB,zC,zD,zE,zF,zG,zH,zI,rwb,reduceIte,hwR,reduceCtorEq,Int.reduceEq]);refine q02 ?_;rw [hx];unfold yrh;dsimp only;rw [if_neg (by decide),hy]
      exact ⟨rfl,hS2⟩
theorem yrk (h:ype E B bc bo bp S0) {ask:Nd->Nat->Option (Bool×Nat)} {es:List (AV×AV×Nat)} (hask:yp2 E B bc bo bp S0 ask es) (n:Nd) (r:Rl) (hr:r.refs.length=0->y0d 12 r.ex=true) (w:Nat) (S:q00) (hS:StE E B bc bo bp S0 es w S) :
  ACalls PG yvr [.ptr bc 0,.agg (ndC n),.agg (rlC r)] S (q3g spV (Sub S0) (StE E B bc bo bp S0 es) (y74 E ask n r w)):=by
 have hS0:=hS;obtain ⟨hw,clk,rfl⟩:=hS;have hc:=q07 (y5h h (w:=w) (es:=es) (clk:=clk));have hof:=yt9 h (w:=w) (es:=es) (clk:=clk);refine xfd ?_;unfold xcd y74;(try simp only [rwp,zA,zB,zC,zD,zE,zF,zG,zH,zI,rwb,reduceIte,ndC,q0k])
 (refine q03 (fun h0=>?_) (fun h0=>?_)<;>(try simp only [hlc] at h0))
 ·have h1:r.refs.length=0:=by omega
  rw [if_pos h1];have q:=ymw h hask n.o 12 r.ex (hr h1) w _ hS0;simp only [obC,q0f] at q;refine q0c q ?_;intro ae S' hq;unfold q3g at hq ⊢;cases hs:exQ E ask n.o 12 r.ex w with
  | none=>rw [hs] at hq;obtain ⟨rfl,hx⟩:=hq;exact ⟨rfl,hx⟩
  | some p=>
   obtain ⟨b,w2⟩:=p;rw [hs] at hq;obtain ⟨rfl,h1⟩:=hq;exact q02 ⟨rfl,h1⟩
 ·have h1:¬ r.refs.length=0:=by omega
  rw [if_neg h1];(try simp only [rwp,zA,zB,zC,zD,zE,zF,zG,zH,zI,rwb,reduceIte,hc,seC]);refine KMap.lki hof ke_nd n ?_;refine q0c (q4x (step:=y5e E.who ask) (Nat.le_trans (h.len _) (by decide)) (fun x _ w S hS=>yi8 h hask x w S hS) hS0) ?_
  intro ae S' hq;unfold q3g at hq ⊢;cases hs:q4o (y5e E.who ask) (E.of n) w with
  | none=>rw [hs] at hq;obtain ⟨rfl,hx⟩:=hq;exact ⟨rfl,hx⟩
  | some p=>
   obtain ⟨b,w2⟩:=p;rw [hs] at hq;obtain ⟨rfl,h1⟩:=hq;exact q02 ⟨rfl,h1⟩
theorem x4e (h:ype E B bc bo bp S0) {w w':Nat} {es:List (AV×AV×Nat)} {clk:Nat}:supd (stE E B bc bo bp S0 w es clk) bc (.cells yt3 (seC E B bo bp w') 7)=stE E B bc bo bp S0 w' es clk:=by
 unfold stE
 funext k
 simp only [supd];have:=h.n1;split<;>split<;>(try split)<;>first | rfl | (exfalso;omega)
theorem y5f (h:ype E B bc bo bp S0) {w:Nat} {es:List (AV×AV×Nat)} {clk:Nat}:Sub S0 (stE E B bc bo bp S0 w es clk):=Sub.supd h.np (Sub.fresh _ h.nc)
theorem x4f {w:Nat} {es es':List (AV×AV×Nat)} {clk clk':Nat}:supd (stE E B bc bo bp S0 w es clk) bp (.map MD es' clk')=stE E B bc bo bp S0 w es' clk':=by
 unfold stE
 funext k
 simp only [supd];split<;>rfl
theorem y5g {w:Nat} {es:List (AV×AV×Nat)} {clk:Nat}:q2f (stE E B bc bo bp S0 w es clk) bp=some (MD,es,clk):=mapObj_some.2 (by unfold stE;rw [q01,if_pos rfl])
end
theorem q4t {es:List (AV×AV×Nat)} {k:AV} (h:y0e es k=none):q16 es k=none:=by
 unfold y0e at h;exact Option.map_eq_none_iff.1 h
theorem q8s {k v:AV} {c:Nat} (hk:q1m k k=true):∀ {es:List (AV×AV×Nat)},q16 es k=none->q16 (es++[(k,v,c)]) k=some (es.length,v,c)
 | [],_=>by simp [q16,hk]
 | x :: r,h=>by
  simp only [q16] at h;split at h
  ·cases h
  ·rename_i hx
   have h2:q16 r k=none:=by simpa using h
   simp only [List.cons_append,q16,if_neg hx,q8s hk h2];rfl
theorem y8h {k v k':AV} {c:Nat}:∀ {es:List (AV×AV×Nat)},y0e (es++[(k,v,c)]) k'=match y0e es k' with
  | some u=>some u
  | none=>if q1m k' k then some v else none
 | []=>by simp [y0e,q16]
 | x :: r=>by
  rw [List.cons_append,q24,q24];split
  ·rfl
  ·exact y8h
theorem ye7 (n m:Nd):q1m (ndA n) (ndA m)=decide (n=m):=by
 have hk:=ke_nd;by_cases h:n=m
 ·subst h;rw [decide_eq_true rfl];exact q3w (hk.ok n)
 ·rw [decide_eq_false h];cases hq:q1m (ndA n) (ndA m) with
  | false=>rfl
  | true=>exact absurd (hk.inj _ _ ((q44 (hk.ok n) (hk.ok m)).1 hq)) h
theorem PathE.push {es:List (AV×AV×Nat)} {P:List Nd} (h:PathE es P) {n:Nd} (hn:n ∉ P) (clk:Nat):PathE (es++[(ndA n,.bool true,clk)]) (n :: P) where
 key:=fun x hx=>by
  rcases List.mem_append.1 hx with h1 | h1
  ·exact h.key x h1
  ·rw [List.mem_singleton.1 h1];exact ⟨n,rfl⟩
 len:=by rw [lG,h.len];rfl
 get:=fun m=>by
  rw [y8h,h.get];by_cases h1:m∈P
  ·rw [if_pos h1,if_pos (lI _ h1)]
  ·rw [if_neg h1];dsimp only;rw [ye7];by_cases h2:m=n
   ·subst h2;simp
   ·rw [decide_eq_false h2,if_neg (by simp),if_neg (by simp [h1,h2])]
theorem PathE.map {E:q1k} {B:Int} {bc bo bp:Nat} {S0:q00} {es:List (AV×AV×Nat)} {P:List Nd} (h:PathE es P) {w clk:Nat}:KMap MD ndA (stE E B bc bo bp S0 w es clk) bp (fun n=>if n∈P then some (.bool true) else none):=
 ⟨es,clk,y5g,fun x hx=>by obtain ⟨n,e⟩:=h.key x hx;rw [e];exact ke_nd.ok n,h.get⟩
theorem q5o {S:q00} {t:Nat} {v:AV} {Qp:AV->q00->Prop} (h:Qp (.iface t v) S):paW S (.iface t v) Qp:=⟨t,v,rfl,h⟩
section
variable {E:q1k} {B:Int} {bc bo bp:Nat} {S0:q00}
theorem xfz (h:ype E B bc bo bp S0):∀ (fu:Nat) (P:List Nd) (es:List (AV×AV×Nat)),PathE es P->P.length+fu=50->yp2 E B bc bo bp S0 (y0q E B fu P) es:=by
 intro fu
 induction fu with
 | zero=>
  intro P es hP hl n w S hS;obtain ⟨hw,clk,rfl⟩:=hS;have hc:=q07 (y5h h (w:=w) (es:=es) (clk:=clk));have ho:=y5h h (w:=w) (es:=es) (clk:=clk);have hm:=fun w=>y5g (E:=E) (B:=B) (bc:=bc) (bo:=bo) (bp:=bp) (S0:=S0) (w:=w) (es:=es) (clk:=clk)
  have hB:=h.B;have hen:=hP.len;refine xgb ?_;unfold xg5 y0q;(try simp only [rwp,zA,zB,zC,zD,zE,zF,zG,zH,zI,rwb,reduceIte,obC,hc,seC]);have q:=q1n h.s n.o.ty n.rl (stE E B bc bo bp S0 w es clk);simp only [scA] at q;refine q0c q ?_;rintro ae S' ⟨rfl,rfl⟩;cases hq:q0d E.s n.o.ty n.rl with
  | none=>
   dsimp only;(try simp only [rwp,zA,zB,zC,zD,zE,zF,zG,zH,zI,rwb,reduceIte,y0v]);refine yij rfl ?_;(try simp only [rwp,zA,zB,zC,zD,zE,zF,zG,zH,zI,rwb,reduceIte]);exact q02 ⟨rfl,hw,clk,rfl⟩
  | some p=>
   obtain ⟨i,k,r⟩:=p;dsimp only;(try simp only [rwp,zA,zB,zC,zD,zE,zF,zG,zH,zI,rwb,reduceIte,q0k]);refine yij rfl ?_;(try simp only [rwp,zA,zB,zC,zD,zE,zF,zG,zH,zI,rwb,reduceIte,hc,seC,ho])
   (simp (disch:=omega) only [q04])
   have e1:supd (stE E B bc bo bp S0 w es clk) bc (.cells yt3 [.sl 2 (E.s.map tyC),.map (some bo),.str E.who.ty,.str E.who.id,.int .i64 B,.int .i64 ((w:Int)+1),.map (some bp)] 7)=stE E B bc bo bp S0 (w+1) es clk:=x4e h;rw [e1];cases a1:decide (B<(w:Int)+1)
   ·(try simp only [rwp,zA,zB,zC,zD,zE,zF,zG,zH,zI,rwb,reduceIte,y63,hm,q7o]);rw [decide_eq_true (show ((es.length:Int)=50) by omega)]
    (try simp only [rwp,zA,zB,zC,zD,zE,zF,zG,zH,zI,rwb,reduceIte]);exact q5o ⟨rfl,y5f h⟩
   ·(try simp only [rwp,zA,zB,zC,zD,zE,zF,zG,zH,zI,rwb,reduceIte]);exact q5o ⟨rfl,y5f h⟩
 | succ fu ih=>
  intro P es hP hl n w S hS;obtain ⟨hw,clk,rfl⟩:=hS;have hc:=q07 (y5h h (w:=w) (es:=es) (clk:=clk));have ho:=y5h h (w:=w) (es:=es) (clk:=clk);have hm:=fun w=>y5g (E:=E) (B:=B) (bc:=bc) (bo:=bo) (bp:=bp) (S0:=S0) (w:=w) (es:=es) (clk:=clk)
  have hB:=h.B;have hen:=hP.len;refine xgb ?_;unfold xg5 y0q;(try simp only [rwp,zA,zB,zC,zD,zE,zF,zG,zH,zI,rwb,reduceIte,obC,hc,seC]);have q:=q1n h.s n.o.ty n.rl (stE E B bc bo bp S0 w es clk);simp only [scA] at q;refine q0c q ?_;rintro ae S' ⟨rfl,rfl⟩;cases hq:q0d E.s n.o.ty n.rl with
  | none=>
   dsimp only;(try simp only [rwp,zA,zB,zC,zD,zE,zF,zG,zH,zI,rwb,reduceIte,y0v]);refine yij rfl ?_;(try simp only [rwp,zA,zB,zC,zD,zE,zF,zG,zH,zI,rwb,reduceIte]);exact q02 ⟨rfl,hw,clk,rfl⟩
  | some p=>
   obtain ⟨i,k,r⟩:=p;obtain ⟨-,ty,hty,-,hk⟩:=q0z hq;have hr:r.refs.length=0->y0d 12 r.ex=true:=h.may ty (lA hty) r (lA hk);dsimp only;(try simp only [rwp,zA,zB,zC,zD,zE,zF,zG,zH,zI,rwb,reduceIte,q0k]);refine yij rfl ?_;(try simp only [rwp,zA,zB,zC,zD,zE,zF,zG,zH,zI,rwb,reduceIte,hc,seC,ho])
   (simp (disch:=omega) only [q04])
   have e1:supd (stE E B bc bo bp S0 w es clk) bc (.cells yt3 [.sl 2 (E.s.map tyC),.map (some bo),.str E.who.ty,.str E.who.id,.int .i64 B,.int .i64 ((w:Int)+1),.map (some bp)] 7)=stE E B bc bo bp S0 (w+1) es clk:=x4e h;rw [e1];cases a1:decide (B<(w:Int)+1)
   ·have b1:=of_decide_eq_false a1;rw [if_neg b1];(try simp only [rwp,zA,zB,zC,zD,zE,zF,zG,zH,zI,rwb,reduceIte,y63,hm,q7o]);rw [decide_eq_false (show ¬ ((es.length:Int)=50) by omega)]
    (try simp only [rwp,zA,zB,zC,zD,zE,zF,zG,zH,zI,rwb,reduceIte,x3c]);have hc1:=q07 (y5h h (w:=w+1) (es:=es) (clk:=clk));(try simp only [rwp,zA,zB,zC,zD,zE,zF,zG,zH,zI,rwb,reduceIte,hc1,seC]);refine KMap.lki hP.map ke_nd n ?_;by_cases hn:n∈P
    ·simp only [if_pos hn];(try simp only [rwp,zA,zB,zC,zD,zE,zF,zG,zH,zI,rwb,reduceIte]);exact q02 ⟨rfl,by omega,clk,rfl⟩
    ·simp only [if_neg hn];(try simp only [rwp,zA,zB,zC,zD,zE,zF,zG,zH,zI,rwb,reduceIte,hc1,seC,y1k,hm]);have hg0:y0e es (ndA n)=none:=by rw [hP.get,if_neg hn]
     have hset:y0m es (ndA n) (.bool true) clk=(es++[(ndA n,.bool true,clk)],clk+1):=by
      unfold y0m;rw [q4t hg0]
     have e2:y0m es (.agg [.str n.o.ty,.str n.o.id,.str n.rl]) (.bool true) clk=(es++[(ndA n,.bool true,clk)],clk+1):=hset;rw [e2,x4f];have hP2:=hP.push hn clk;have q2:=yrk h (ih (n :: P) _ hP2 (by simp only [lD];omega)) n r hr (w+1) _ ⟨by omega,clk+1,rfl⟩
     simp only [ndC,q0k] at q2;refine q0c q2 ?_;intro ae S2 hq2;unfold q3g at hq2;cases hs:y74 E (y0q E B fu (n :: P)) n r (w+1) with
     | none=>rw [hs] at hq2;obtain ⟨rfl,hx⟩:=hq2;exact ⟨rfl,hx⟩
     | some p2=>
      obtain ⟨b,w2⟩:=p2;rw [hs] at hq2;obtain ⟨rfl,hw2,clk2,rfl⟩:=hq2;have hc2:=q07 (y5h h (w:=w2) (es:=es++[(ndA n,.bool true,clk)]) (clk:=clk2));dsimp only;(try simp only [rwp,zA,zB,zC,zD,zE,zF,zG,zH,zI,rwb,reduceIte,hc2,seC]);have hf:=q8s (k:=ndA n) (v:=.bool true) (c:=clk) (q3w (ke_nd.ok n)) (q4t hg0);refine ⟨bp,es++[(ndA n,.bool true,clk)],clk2,rfl,mapObj_some.1 y5g,ke_nd.ok n,?_⟩;have hf':q16 (es++[(ndA n,.bool true,clk)]) (.agg [.str n.o.ty,.str n.o.id,.str n.rl])=some (es.length,.bool true,clk):=hf;rw [hf'];dsimp only;rw [List.eraseIdx_append_of_length_le (Nat.le_refl _),Nat.sub_self];simp only [List.eraseIdx_cons_zero,lJ];rw [x4f];exact q02 ⟨rfl,hw2,clk2,rfl⟩
   ·have b1:=of_decide_eq_true a1;rw [if_pos b1];(try simp only [rwp,zA,zB,zC,zD,zE,zF,zG,zH,zI,rwb,reduceIte]);exact q5o ⟨rfl,y5f h⟩
end
structure OfM (S0 S:q00) (t bo:Nat) (Ks:Nat->Prop) (f:Nd->List (List AV)) (es:List (AV×AV×Nat)) (clk:Nat):Prop where
 map:y01 S bo=some (.map MD es clk)
 b0:y01 S0 bo=none
 key:∀ x∈es,∃ n,x.1=ndA n
 nd:(es.map fun x=>x.2.2).Nodup
 ku:∀ (i j:Nat) (x y:AV×AV×Nat),es[i]?=some x->es[j]?=some y->x.1=y.1->i=j
 lt:∀ x∈es,x.2.2<clk
 no:∀ n,y0e es (ndA n)=none->f n=[]
 yes:∀ n v,y0e es (ndA n)=some v->f n≠[]/\LstN S0 S t 3 v (f n)/\q0v v bo/\∀ c,Ks c->q0v v c
 apart:∀ n m v u,n≠m->y0e es (ndA n)=some v->y0e es (ndA m)=some u->∀ b off k cap,u=.own b off k cap->q0v v b
 ks:∀ c,Ks c->c≠bo/\y01 S c≠none
theorem y42 {bn:Nat}:∀ {es:List (AV×AV×Nat)} {i:Nat} {x:AV×AV×Nat},(es.map fun x=>x.2.2).Nodup->es[i]?=some x->x.2.2=bn->es.findIdx? (fun x=>x.2.2==bn)=some i:=by
 intro es i x hnd hx hb;have hi:=(List.getElem?_eq_some_iff.1 hx).1;rw [List.findIdx?_eq_some_iff_getElem];refine ⟨hi,?_,fun j hj=>?_⟩
 ·have:=(List.getElem?_eq_some_iff.1 hx).2;simp [this,hb]
 ·intro hq;have hj2:j<es.length:=by omega
  have h1:es[j].2.2=bn:=by simpa using hq
  have h2:es[i].2.2=bn:=by rw [(List.getElem?_eq_some_iff.1 hx).2];exact hb
  have:=(List.getElem_inj (xs:=es.map fun (x:AV×AV×Nat)=>x.2.2) (i:=j) (j:=i) (h₀:=by simpa using hj2) (h₁:=by simpa using hi) hnd).1 (by simp [h1,h2])
  omega
theorem yl4 {es:List (AV×AV×Nat)} {n:Nd} (hk:∀ x∈es,∃ n,x.1=ndA n) (h:y0e es (ndA n)=none):∀ x∈es,x.1≠ndA n:=by
 induction es with
 | nil=>intro x hx;cases hx
 | cons y r ih=>
  rw [q24] at h;obtain ⟨m,hm⟩:=hk y (by simp)
  intro x hx;split at h
  ·cases h
  ·rename_i hq
   rcases List.mem_cons.1 hx with rfl | hx
   ·intro e;rw [e,ye7] at hq;simp at hq
   ·exact ih (fun z hz=>hk z (lI _ hz)) h x hx
theorem y8i {es:List (AV×AV×Nat)} {n:Nd} {i:Nat} {v:AV} {bn:Nat} (hk:∀ x∈es,∃ n,x.1=ndA n) (h:q16 es (ndA n)=some (i,v,bn)):es[i]?=some (ndA n,v,bn):=by
 obtain ⟨kk,h1,h2⟩:=q4u h;obtain ⟨m,hm⟩:=hk _ (lA h1);dsimp only at hm;subst hm;rw [ye7] at h2;rw [h1,of_decide_eq_true h2]
theorem yl5 {es:List (AV×AV×Nat)} {n m:Nd} {v:AV} {clk:Nat} (hk:∀ x∈es,∃ n,x.1=ndA n):y0e (y0m es (ndA n) v clk).1 (ndA m)=if m=n then some v else y0e es (ndA m):=by
 have hko:y3t MD es:=fun x hx=>by obtain ⟨n,e⟩:=hk x hx;rw [e];exact ke_nd.ok n
 rw [q43,q7p (ke_nd.ok n) _ _ hko (ke_nd.ok m)];by_cases h:m=n
 ·subst h;simp
 ·rw [if_neg fun e=>h (ke_nd.inj _ _ e),if_neg h]
section
variable {S0 S:q00} {t bo:Nat} {Ks:Nat->Prop} {f:Nd->List (List AV)} {es:List (AV×AV×Nat)} {clk:Nat}
theorem OfM.put (h:OfM S0 S t bo Ks f es clk) {n:Nd} {v v':AV} {row:List AV} {S2:q00} {es':List (AV×AV×Nat)} {clk':Nat} (hv:y0e es (ndA n)=some v\/(y0e es (ndA n)=none/\v=.nils))
  (h2:LstN S0 S2 t 3 v' (f n++[row])) (hF:∀ c o,c≠bo->y01 S c=some o->q0v v c->y01 S2 c=some o/\q0v v' c) (hvb:q0v v' bo)
  (he:es'=(y0m es (ndA n) v' clk).1) (hkey:∀ x∈es',∃ n,x.1=ndA n) (hnd:(es'.map fun x=>x.2.2).Nodup) (hku:∀ (i j:Nat) (x y:AV×AV×Nat),es'[i]?=some x->es'[j]?=some y->x.1=y.1->i=j) (hlt:∀ x∈es',x.2.2<clk') :
  OfM S0 (supd S2 bo (.map MD es' clk')) t bo Ks (fun m=>if m=n then f n++[row] else f m) es' clk':=by
 have hg:∀ m,y0e es' (ndA m)=if m=n then some v' else y0e es (ndA m):=fun m=>by rw [he,yl5 h.key]
 have hva:∀ c,Ks c->q0v v c:=fun c hc=>by
  rcases hv with hv | ⟨-,rfl⟩
  ·exact (h.yes n v hv).2.2.2 c hc
  ·intro b off k cap e;cases e
 refine ⟨by rw [q01,if_pos rfl],h.b0,hkey,hnd,hku,hlt,fun m hm=>?_,fun m u hm=>?_,fun m p u x hmp hm hp=>?_,fun c hc=>⟨(h.ks c hc).1,?_⟩⟩
 ·rw [hg] at hm;by_cases hmn:m=n
  ·rw [if_pos hmn] at hm;cases hm
  ·rw [if_neg hmn] at hm ⊢;exact h.no m hm
 ·rw [hg] at hm;by_cases hmn:m=n
  ·rw [if_pos hmn] at hm ⊢;cases hm;refine ⟨by simp,h2.upd hvb _,hvb,fun c hc=>?_⟩
   cases ho:y01 S c with
   | none=>exact absurd ho (h.ks c hc).2
   | some o=>exact (hF c o (h.ks c hc).1 ho (hva c hc)).2
  ·rw [if_neg hmn] at hm ⊢;obtain ⟨k1,k2,k3,k4⟩:=h.yes m u hm;refine ⟨k1,LstN.upd ?_ k3 _,k3,k4⟩;obtain ⟨hr,hl⟩:=k2;refine ⟨hr,?_⟩;rcases hl with hl | ⟨b,cap,rfl,q1,q2,q3⟩
   ·exact .inl hl
   ·refine .inr ⟨b,cap,rfl,q1,?_,q3⟩;have hav:q0v v b:=by
     rcases hv with hv | ⟨-,rfl⟩
     ·exact h.apart n m v _ (Ne.symm hmn) hv hm b _ _ _ rfl
     ·intro b off k cap e;cases e
    exact (hF b _ (Ne.symm (k3 b _ _ _ rfl)) q2 hav).1
 ·rw [hg] at hm hp;intro b off k cap hx;have other:∀ (m:Nd) (u:AV),m≠n->y0e es (ndA m)=some u->∀ b off k cap,u=.own b off k cap->q0v v' b:=by
   intro m u hmn hm b off k cap e;subst e;obtain ⟨k1,k2,k3,k4⟩:=h.yes m _ hm;have hav:q0v v b:=by
    rcases hv with hv | ⟨-,rfl⟩
    ·exact h.apart n m v _ (Ne.symm hmn) hv hm b _ _ _ rfl
    ·intro b off k cap e;cases e
   obtain ⟨hr,hl⟩:=k2;rcases hl with ⟨e,-⟩ | ⟨b1,cap1,e,q1,q2,q3⟩
   ·cases e
   ·cases e
    exact (hF b _ (Ne.symm (k3 b _ _ _ rfl)) q2 hav).2
  by_cases hmn:m=n
  ·rw [if_pos hmn] at hm;cases hm;have hpn:p≠n:=fun e=>hmp (hmn.trans e.symm)
   rw [if_neg hpn] at hp;exact other p x hpn hp b off k cap hx
  ·rw [if_neg hmn] at hm;by_cases hpn:p=n
   ·rw [if_pos hpn] at hp;cases hp;subst hx;intro b1 off1 k1 cap1 e;exact Ne.symm (other m u hmn hm b1 off1 k1 cap1 e b off k cap rfl)
   ·rw [if_neg hpn] at hp;exact h.apart m p u x hmp hm hp b off k cap hx
 ·rw [q01,if_neg (Ne.symm (h.ks c hc).1)];cases ho:y01 S c with
  | none=>exact absurd ho (h.ks c hc).2
  | some o=>rw [(hF c o (h.ks c hc).1 ho (hva c hc)).1];simp
theorem OfM.push (h:OfM S0 S t bo Ks f es clk) (hs:Sub S0 S) (n:Nd) {row:List AV} {bytes:Nat} {K:q00->Prop} (hr:row.length=3) (ho:y09 row=true) (hb:((f n).length+1) * bytes<=140737488355328)
  (hK:∀ S' es' clk',Sub S0 S'->OfM S0 S' t bo Ks (fun m=>if m=n then f n++[row] else f m) es' clk'->(∀ c,Ks c->y01 S' c=y01 S c)->K S') :
  meW S MD .nils (.map (some bo)) (ndA n) fun v S=>exW 0 v fun v70=>exW 1 v fun v76=>apW S t 3 bytes v70 (.sl 3 [row]) fun v75 S=>mtW S (.map (some bo)) v76 v75 K:=by
 have keep:∀ {v v':AV} {S1 S2:q00},(∀ c,Ks c->q0v v c)->(∀ c o,c≠bo->y01 S c=some o->q0v v c->y01 S2 c=some o/\q0v v' c)->∀ es' clk',∀ c,Ks c->y01 (supd S2 bo (.map MD es' clk')) c=y01 S c:=by
  intro v v' S1 S2 hv hF es' clk' c hc;rw [q01,if_neg (Ne.symm (h.ks c hc).1)];cases ho:y01 S c with
  | none=>exact absurd ho (h.ks c hc).2
  | some o=>exact (hF c o (h.ks c hc).1 ho (hv c hc)).1
 cases hq:y0e es (ndA n) with
 | none=>
  have hm:=q4t hq;have hf:=h.no n hq;refine ⟨bo,es,clk,rfl,h.map,ke_nd.ok n,?_⟩;rw [hm];dsimp only;rw [q80,y6f,q80];have hsub1:Sub S0 (supd S bo (.map MD (es++[(ndA n,.nils,clk)]) (clk+1))):=Sub.supd h.b0 hs;refine LstN.app hsub1 (LstN.nil (S0:=S0)) (fun r hr'=>by rw [List.mem_singleton.1 hr'];exact hr) (q1u fun r hr'=>by rw [List.mem_singleton.1 hr'];exact ho) (by rw [hf] at hb;simpa using hb) fun v' S2 h1 h2 h3=>?_
  rw [lR] at h2;have hbo2:=h3 bo _ (by rw [q01,if_pos rfl]) (fun b off k cap e=>by cases e)
  have hF:∀ c o,c≠bo->y01 S c=some o->q0v .nils c->y01 S2 c=some o/\q0v v' c:=fun c o hc hso ha=>h3 c o (by rw [q01,if_neg (Ne.symm hc)];exact hso) ha
  have hnd:((es++[(ndA n,AV.nils,clk)]).map fun x=>x.2.2).Nodup:=by
   rw [lE,List.nodup_append];refine ⟨h.nd,by simp,fun a ha b hb=>?_⟩
   obtain ⟨x,hx,rfl⟩:=List.mem_map.1 ha;have:=h.lt x hx;simp at hb;omega
  have hset:(y0m es (ndA n) v' clk)=(es++[(ndA n,v',clk)],clk+1):=by unfold y0m;rw [hm]
  have hku:∀ (i j:Nat) (x y:AV×AV×Nat),(es++[(ndA n,v',clk)])[i]?=some x->(es++[(ndA n,v',clk)])[j]?=some y->x.1=y.1->i=j:=by
   intro i j x y hx hy hxy;have hno:=yl4 h.key hq;rw [List.getElem?_append] at hx hy;split at hx<;>split at hy
   ·exact h.ku i j x y hx hy hxy
   ·rw [List.getElem?_singleton] at hy;split at hy
    ·cases hy
     exact absurd hxy (hno x (lA hx))
    ·cases hy
   ·rw [List.getElem?_singleton] at hx;split at hx
    ·cases hx
     exact absurd hxy.symm (hno y (lA hy))
    ·cases hx
   ·rw [List.getElem?_singleton] at hx hy;split at hx
    ·split at hy
     ·omega
     ·cases hy
    ·cases hx
  refine ⟨bo,MD,es++[(ndA n,.nils,clk)],clk+1,es.length,ndA n,.nils,clk,rfl,hbo2.1,rfl,y42 hnd (x:=(ndA n,.nils,clk)) (by simp) rfl,by simp,?_⟩
  have e:(es++[(ndA n,AV.nils,clk)]).set es.length (ndA n,v',clk)=es++[(ndA n,v',clk)]:=by simp
  rw [e];refine hK _ _ _ (Sub.supd h.b0 h1) (h.put (n:=n) (v:=.nils) (.inr ⟨hq,rfl⟩) (by rw [hf];exact h2) hF hbo2.2 (by rw [hset]) (fun x hx=>?_) (by simpa using hnd) hku fun x hx=>?_) (keep (S1:=S) (fun c _ b off k cap e=>by cases e) hF _ _)
  ·rcases List.mem_append.1 hx with hx | hx
   ·exact h.key x hx
   ·rw [List.mem_singleton.1 hx];exact ⟨n,rfl⟩
  ·rcases List.mem_append.1 hx with hx | hx
   ·have:=h.lt x hx;omega
   ·rw [List.mem_singleton.1 hx];exact Nat.lt_succ_self _
 | some v=>
  obtain ⟨hne,hl,hvb,hvk⟩:=h.yes n v hq;have hm:∃ i bn,q16 es (ndA n)=some (i,v,bn):=by
   unfold y0e at hq;cases hmf:q16 es (ndA n) with
   | none=>rw [hmf] at hq;cases hq
   | some p=>
    obtain ⟨i,u,bn⟩:=p;rw [hmf] at hq;simp at hq;subst hq;exact ⟨i,bn,rfl⟩
  obtain ⟨i,bn,hm⟩:=hm;have hi:=y8i h.key hm;refine ⟨bo,es,clk,rfl,h.map,ke_nd.ok n,?_⟩;rw [hm];dsimp only;have e0:es.set i (ndA n,v,bn)=es:=by
   apply List.ext_getElem?
   intro j;rw [lV];split
   ·rename_i hij
    subst hij;rw [if_pos (List.getElem?_eq_some_iff.1 hi).1,hi]
   ·rfl
  rw [e0,q80,y6f,q80];have e1:supd S bo (.map MD es clk)=S:=by
   funext c
   unfold supd;split
   ·rename_i hc;subst hc;exact h.map.symm
   ·rfl
  rw [e1];refine LstN.app hs hl (fun r hr'=>by rw [List.mem_singleton.1 hr'];exact hr) (q1u fun r hr'=>by rw [List.mem_singleton.1 hr'];exact ho) (by simpa using hb) fun v' S2 h1 h2 h3=>?_
  have hbo2:=h3 bo _ h.map hvb;have hF:∀ c o,c≠bo->y01 S c=some o->q0v v c->y01 S2 c=some o/\q0v v' c:=fun c o _ hso ha=>h3 c o hso ha
  have hset:(y0m es (ndA n) v' clk)=(es.set i (ndA n,v',bn),clk):=by unfold y0m;rw [hm]
  refine ⟨bo,MD,es,clk,i,ndA n,v,bn,rfl,hbo2.1,rfl,y42 h.nd hi rfl,hi,?_⟩;have hlt:=(List.getElem?_eq_some_iff.1 hi).1;have hmap:(es.set i (ndA n,v',bn)).map (fun x=>x.2.2)=es.map fun x=>x.2.2:=by
   rw [List.map_set]
   apply List.ext_getElem?
   intro j;rw [lV];split
   ·rename_i hij
    subst hij;rw [if_pos (by simpa using hlt),lC,hi];rfl
   ·rfl
  refine hK _ _ _ (Sub.supd h.b0 h1) (h.put (n:=n) (v:=v) (.inl hq) h2 hF hbo2.2 (by rw [hset]) (fun x hx=>?_) (by rw [hmap];exact h.nd) (fun i2 j2 x y hx hy hxy=>?_) fun x hx=>?_) (keep (S1:=S) hvk hF _ _)
  ·rcases List.mem_or_eq_of_mem_set hx with hx | rfl
   ·exact h.key x hx
   ·exact ⟨n,rfl⟩
  ·have hget:∀ (k:Nat) (z:AV×AV×Nat),(es.set i (ndA n,v',bn))[k]?=some z->∃ z',es[k]?=some z'/\z'.1=z.1:=by
    intro k z hz;rw [lV] at hz;split at hz
    ·rename_i hik
     subst hik;cases hz;exact ⟨_,hi,rfl⟩
    ·exact ⟨z,hz,rfl⟩
   obtain ⟨x',hx',ex⟩:=hget i2 x hx;obtain ⟨y',hy',ey⟩:=hget j2 y hy;exact h.ku i2 j2 x' y' hx' hy' (by rw [ex,ey,hxy])
  ·rcases List.mem_or_eq_of_mem_set hx with hx | rfl
   ·exact h.lt x hx
   ·exact h.lt (ndA n,v,bn) (lA hi)
end
def ndD:AV->Nd
 | .agg [.str a,.str b,.str c]=>⟨⟨a,b⟩,c⟩
 | _=>⟨⟨⟨#[]⟩,⟨#[]⟩⟩,⟨#[]⟩⟩
theorem x6h (n:Nd):ndD (ndA n)=n:=rfl
def ybr (f:Nd->List (List AV)) (es:List (AV×AV×Nat)):List (AV×AV×Nat):=es.map fun x=>(x.1,.sl 3 (f (ndD x.1)),x.2.2)
theorem y61 {f:Nd->List (List AV)} {n:Nd}:∀ {es:List (AV×AV×Nat)},(∀ x∈es,∃ n,x.1=ndA n)->y0e (ybr f es) (ndA n)=(y0e es (ndA n)).map fun _=>.sl 3 (f n)
 | [],_=>rfl
 | x :: r,h=>by
  obtain ⟨m,hm⟩:=h x (by simp)
  have ih:=y61 (f:=f) (n:=n) (es:=r) fun y hy=>h y (lI _ hy)
  unfold ybr at ih ⊢;rw [lP,q24,q24,hm,ye7];dsimp only;by_cases e:n=m
  ·subst e;simp [x6h]
  ·rw [decide_eq_false e,if_neg (by simp),if_neg (by simp)]
   exact ih
section
variable {S0 S:q00} {t bo:Nat} {Ks:Nat->Prop} {f:Nd->List (List AV)} {es:List (AV×AV×Nat)} {clk:Nat}
theorem OfM.fr (h:OfM S0 S t bo Ks f es clk) {S1:q00} (h1:∀ b,y01 S1 b≠none->b=bo\/Ks b\/y01 S0 b≠none):FrO S1 S (.map MD es clk) (.map MD (ybr f es) clk):=by
 refine .map MD es _ clk (by simp [ybr]) fun i e e' he he'=>?_
 unfold ybr at he';rw [lC,he] at he';simp only [Option.map_some,Option.some.injEq] at he';subst he';obtain ⟨n,hn⟩:=h.key e (lA he);refine ⟨rfl,?_,rfl⟩;dsimp only;rw [hn,x6h];have hg:y0e es (ndA n)=some e.2.1:=by
  cases hq:y0e es (ndA n) with
  | none=>exact absurd hn (yl4 h.key hq e (lA he))
  | some u=>
   unfold y0e at hq;cases hmf:q16 es (ndA n) with
   | none=>rw [hmf] at hq;cases hq
   | some p=>
    obtain ⟨j,u',bn⟩:=p;have hj:=y8i h.key hmf;have:=h.ku i j _ _ he hj hn;subst this;rw [he] at hj;cases hj;rw [hmf] at hq;exact hq.symm
 obtain ⟨-,⟨hr,hl⟩,hvb,hvk⟩:=h.yes n _ hg;rcases hl with ⟨e1,e2⟩ | ⟨b,cap,e1,q1,q2,q3,-,-⟩
 ·rw [e1,e2];exact .nils 3
 ·rw [e1] at hvb hvk ⊢;refine .own t 3 b _ cap (f n) hr ?_ q2 rfl q3;cases hs:y01 S1 b with
  | none=>rfl
  | some o=>
   rcases h1 b (by rw [hs];simp) with rfl | hk | h0
   ·exact absurd rfl (hvb _ _ _ _ rfl)
   ·exact absurd rfl (hvk b hk _ _ _ _ rfl)
   ·exact absurd q1 h0
end
set_option maxRecDepth 4000
def ndT (t:Tu):Nd:=⟨t.o,t.rl⟩
def ofR (s:List Ty) (l:List Tu) (n:Nd):List (List AV):=((ofF (q0a s l) n).map Tu.s).map ndC
theorem yzs {s:List Ty} {l:List Tu} {i:Nat} {t:Tu} (h:l[i]?=some t) (n:Nd):ofR s (l.take (i+1)) n=ofR s (l.take i) n++if q1z s t=0/\n=ndT t then [ndC t.s] else []:=by
 unfold ofR q0a ofF;rw [q1y h];by_cases h1:q1z s t=0
 ·by_cases h2:n=ndT t
  ·rw [if_pos (decide_eq_true h1),if_pos ⟨h1,h2⟩,List.filter_append,lE,lE];subst h2;simp [ndT]
  ·rw [if_pos (decide_eq_true h1),if_neg fun h=>h2 h.2,List.filter_append,lE,lE]
   have:(decide (t.o=n.o)&&decide (t.rl=n.rl))=false:=by
    rw [Bool.eq_false_iff];intro hq;simp only [Bool.and_eq_true,decide_eq_true_eq] at hq;refine h2 ?_;cases n;simp only [ndT,Nd.mk.injEq];exact ⟨hq.1.symm,hq.2.symm⟩
   simp [this]
 ·rw [if_neg (show ¬ (decide (q1z s t=0)=true) by simp [h1]),if_neg fun h=>h1 h.1,lJ,lJ]
section
variable {S0 S1:q00} {b1 b2 b3 t1 t2 t3:Nat} {x1 x2 x3:AV} {QF:AEnd->q00->Prop}
abbrev xfj (b1 b2 b3:Nat):List RW:=[.cell (.ptr b1 0) 1 false,.cell (.ptr b2 0) 1 false,.cell (.ptr b3 0) 1 false]
theorem xfk (h1:q0m S1 b1=some (t1,[x1],1)) (h2:q0m S1 b2=some (t2,[x2],1)) (h3:q0m S1 b3=some (t3,[x3],1)) (d1:b1≠b2) (d2:b1≠b3) (d3:b2≠b3)
  (n1:y01 S0 b1=none) (n2:y01 S0 b2=none) (n3:y01 S0 b3=none) (hs:Sub S0 S1) {a:Bool} {w e:Int} (hQ:QF (.ret (.tup [.bool a,.int .i64 w,.int .i64 e])) S0) :
  stW S1 1 (.ptr b1 0) (.bool a) fun S=>stW S 1 (.ptr b2 0) (.int .i64 w) fun S=>stW S 1 (.ptr b3 0) (.int .i64 e) fun S=>rtW (xfj b1 b2 b3) QF S:=by
 (try simp only [rwp,zA,zB,zC,zD,zE,zF,zG,zH,zI,rwb,reduceIte,h1,h2,h3,d1,d2,d3,Ne.symm d1,Ne.symm d2,Ne.symm d3]);refine q18 S0 (Sub.supd n3 (Sub.supd n2 (Sub.supd n1 hs))) ?_;(try simp only [rwp,zA,zB,zC,zD,zE,zF,zG,zH,zI,rwb,reduceIte,h1,h2,h3,d1,d2,d3,Ne.symm d1,Ne.symm d2,Ne.symm d3]);exact hQ
end
theorem yaw {S:q00} {b c:Nat} {o:AObj} (h:y01 (supd S b o) c=none):c≠b/\y01 S c=none:=by
 rw [q01] at h;split at h
 ·cases h
 ·rename_i hn;exact ⟨fun e=>hn e.symm,h⟩
theorem q47 {Y N:Prop} (h:N):cnW (.bool false) Y N:=⟨fun h=>by (cases h),fun _=>h⟩
theorem q6p {s:List Ty} (hs:OkS s) (hN:OkN s) {l:List Tu} (hl:OkL l) (n:Nd) (who:Ob) (B:Int) :
  y02 PG x02 [scA s,.sl 6 (l.map tuC),.agg (obC n.o),.str n.rl,.agg (obC who),.int .i64 B] (ymn (y07 s l who) B n):=by
 intro S
 suffices key:∀ QF:AEnd->q00->Prop,QF (.ret (ymn (y07 s l who) B n)) S->ACalls PG x02 [scA s,.sl 6 (l.map tuC),.agg (obC n.o),.str n.rl,.agg (obC who),.int .i64 B] S QF from key _ ⟨rfl,rfl⟩
 intro QF hQ;refine xjr ?_;unfold xg8;have q1:=q86 hs hN;obtain ⟨x,y,z,hc⟩:=yc7 s;have hz:y0a (y06 s)=z:=by rw [hc,q25]
 rw [hc] at q1;have q2:=q1n hs n.o.ty n.rl;simp only [scA,flA] at q1 q2;(try simp only [rwp,zA,zB,zC,zD,zE,zF,zG,zH,zI,rwb,reduceIte,scA,obC]);intro b1 hb1 b2 hb2 b3 hb3;obtain ⟨d21,hb2'⟩:=yaw hb2;obtain ⟨d32,hb3'⟩:=yaw hb3;obtain ⟨d31,hb3'⟩:=yaw hb3';generalize hS3:supd _ b3 _=S3;have h31:q0m S3 b1=some (4,[.bool false],1):=by rw [<- hS3];(try simp only [rwp,zA,zB,zC,zD,zE,zF,zG,zH,zI,rwb,reduceIte,d21,d31,d32,Ne.symm d21,Ne.symm d31,Ne.symm d32])
 have h32:q0m S3 b2=some (3,[.int .i64 0],1):=by rw [<- hS3];(try simp only [rwp,zA,zB,zC,zD,zE,zF,zG,zH,zI,rwb,reduceIte,d21,d31,d32,Ne.symm d21,Ne.symm d31,Ne.symm d32])
 have h33:q0m S3 b3=some (30,[.int .i64 0],1):=by rw [<- hS3];(try simp only [rwp,zA,zB,zC,zD,zE,zF,zG,zH,zI,rwb,reduceIte,d21,d31,d32,Ne.symm d21,Ne.symm d31,Ne.symm d32])
 have hs3:Sub S S3:=by rw [<- hS3];exact Sub.supd hb3' (Sub.supd hb2' (Sub.supd hb1 (Sub.refl _)))
 have hf3:∀ b,y01 S3 b≠none->b=b1\/b=b2\/b=b3\/y01 S b≠none:=by
  intro b hb;rw [<- hS3,q01,q01,q01] at hb;split at hb
  ·rename_i e;exact .inr (.inr (.inl e.symm))
  ·split at hb
   ·rename_i e;exact .inr (.inl e.symm)
   ·split at hb
    ·rename_i e;exact .inl e.symm
    ·exact .inr (.inr (.inr hb))
 have bad:∀ b:Bool,(b=true->B<0\/100000<B\/y0a (y06 s)≠0)->(b=false->¬ (B<0\/100000<B\/y0a (y06 s)≠0)) ->
   ya2 QF (fun l S=>x12 PG dfx18 (yw2 PG dfx18 tf_engine_Check_1 QF (dfx18.caps.map (y00 l))) (x4u PG dfx18 tf_engine_Check_1 QF (dfx18.caps.map (y00 l))) l S)
    (.sl 6 (l.map tuC)) (.str n.rl) (.int .i64 B) (.rop [.sl 2 (s.map tyC)]) (.rop [.str n.o.ty,.str n.o.id]) (.rop [.str who.ty,.str who.id]) (.ptr b1 0) (.ptr b2 0) (.ptr b3 0) (.bool b) S3:=by
  intro b k1 k2;unfold ymn at hQ;cases b
  ·have h0:=k2 rfl;rw [if_neg (show ¬ (B<0\/100000<B\/y0a (y06 (y07 s l who).s)≠0) from h0)] at hQ
   have hk:y0a (y06 s)=0:=by
    refine Classical.byContradiction fun hn=>h0 (.inr (.inr hn))
   have hg:=q2x hk;(try simp only [rwp,zA,zB,zC,zD,zE,zF,zG,zH,zI,rwb,reduceIte,ya2]);refine q0c (q2 _) ?_;rintro ae S' ⟨rfl,rfl⟩;have he:(y07 s l who).s=s:=rfl;rw [he] at hQ;cases hq:q0d s n.o.ty n.rl with
   | none=>
    rw [hq,if_pos rfl] at hQ;dsimp only;(try simp only [rwp,zA,zB,zC,zD,zE,zF,zG,zH,zI,rwb,reduceIte,y0v]);exact xfk h31 h32 h33 (Ne.symm d21) (Ne.symm d31) (Ne.symm d32) hb1 hb2' hb3' hs3 hQ
   | some p=>
    obtain ⟨i,k,r⟩:=p;rw [hq,if_neg (by simp)] at hQ
    dsimp only;(try simp only [rwp,zA,zB,zC,zD,zE,zF,zG,zH,zI,rwb,reduceIte,q0k]);intro bo hbo bp hbp;obtain ⟨dpo,hbp'⟩:=yaw hbp;(try simp only [rwp,zA,zB,zC,zD,zE,zF,zG,zH,zI,rwb,reduceIte]);refine ⟨rfl,rfl,fun bc hbc=>?_⟩
    obtain ⟨dcp,hbc'⟩:=yaw hbc;obtain ⟨dco,hbc'⟩:=yaw hbc';have Sn:∀ {b:Nat},y01 S' b=none->b≠b1/\b≠b2/\b≠b3/\y01 S b=none:=by
     intro b hb;refine ⟨?_,?_,?_,?_⟩
     ·rintro rfl;rw [objAt_some.1 h31] at hb;cases hb
     ·rintro rfl;rw [objAt_some.1 h32] at hb;cases hb
     ·rintro rfl;rw [objAt_some.1 h33] at hb;cases hb
     ·cases hq:y01 S b with
      | none=>rfl
      | some o=>rw [hs3 b o hq] at hb;cases hb
    obtain ⟨o1,o2,o3,no⟩:=Sn hbo;obtain ⟨p1,p2,p3,np⟩:=Sn hbp';obtain ⟨c1,c2,c3,nc⟩:=Sn hbc';generalize hS5:supd _ bc _=S5;have g5:∀ c,y01 S5 c=if bc=c then some (.cells yt3 (seC (y07 s l who) B bo bp 0) 7) else if bp=c then some (.map MD [] 0) else if bo=c then some (.map MD [] 0) else y01 S' c:=by
     intro c;rw [<- hS5,q01,q01,q01];rfl
    have f5:Sub S S5:=by rw [<- hS5];exact Sub.supd nc (Sub.supd np (Sub.supd no hs3))
    have s51:y01 S5 b1=some (.cells 4 [.bool false] 1):=by rw [g5,if_neg c1,if_neg p1,if_neg o1];exact objAt_some.1 h31
    have s52:y01 S5 b2=some (.cells 3 [.int .i64 0] 1):=by rw [g5,if_neg c2,if_neg p2,if_neg o2];exact objAt_some.1 h32
    have s53:y01 S5 b3=some (.cells 30 [.int .i64 0] 1):=by rw [g5,if_neg c3,if_neg p3,if_neg o3];exact objAt_some.1 h33
    have s5p:y01 S5 bp=some (.map MD [] 0):=by rw [g5,if_neg dcp,if_pos rfl]
    have s5c:y01 S5 bc=some (.cells yt3 (seC (y07 s l who) B bo bp 0) 7):=by rw [g5,if_pos rfl]
    have s5o:y01 S5 bo=some (.map MD [] 0):=by rw [g5,if_neg dco,if_neg dpo,if_pos rfl]
    have hKs:∀ c,(c=b1\/c=b2\/c=b3\/c=bp\/c=bc)->c≠bo/\y01 S5 c≠none:=by
     rintro c (rfl | rfl | rfl | rfl | rfl)
     ·exact ⟨Ne.symm o1,by rw [s51];simp⟩
     ·exact ⟨Ne.symm o2,by rw [s52];simp⟩
     ·exact ⟨Ne.symm o3,by rw [s53];simp⟩
     ·exact ⟨dpo,by rw [s5p];simp⟩
     ·exact ⟨dco,by rw [s5c];simp⟩
    refine LoopP.introS (fun i:Nat=>[(3,AV.str n.rl),(6,AV.rop [AV.sl 2 (List.map tyC s)]),(8,AV.rop [AV.str n.o.ty,AV.str n.o.id]),(12,AV.ptr b1 0),(13,AV.ptr b2 0),(14,AV.ptr b3 0),(17,.ptr bc 0),(50,AV.sl 6 (List.map tuC l)),(51,AV.int IntKind.i64 ↑l.length),(52,.int .i64 i)])
     (fun i S2=>i<=l.length/\Sub S S2/\(∃ es clk,OfM S S2 39 bo (fun c=>c=b1\/c=b2\/c=b3\/c=bp\/c=bc) (ofR s (l.take i)) es clk)/\∀ c,(c=b1\/c=b2\/c=b3\/c=bp\/c=bc)->y01 S2 c=y01 S5 c) (fun i=>l.length-i) 0
     ⟨by omega,f5,⟨[],0,⟨s5o,no,fun x hx=>(by cases hx),by simp,fun i j x y hx=>by simp at hx,fun x hx=>(by cases hx),fun m _=>rfl,fun m v hv=>(by cases hv),fun m p v u _ hv=>(by cases hv),hKs⟩⟩,fun c _=>rfl⟩ rfl ?_
    rintro i S2 ⟨hi,j1,⟨es,clk,hO⟩,j2⟩ kk hkk;have hln:=hl.n;have s2c:=j2 bc (by simp)
    rw [s5c] at s2c;have s2o:=objAt_some.2 s2c;have hc2:=q07 s2o;(try simp only [rwp,zA,zB,zC,zD,zE,zF,zG,zH,zI,rwb,reduceIte,ywg]);cases a1:decide ((i:Int)<l.length)
    ·refine q47 ?_;have hEnd:∀ (L:LE) (x:AV) (S4:q00),L=[(12,.ptr b1 0),(13,.ptr b2 0),(14,.ptr b3 0)]\/L=[(12,.ptr b1 0),(13,.ptr b2 0),(14,.ptr b3 0),(17,.ptr bc 0)]->q2l (fun S=>rtW (xfj b1 b2 b3) QF S) (.ptr b1 0) (.ptr b2 0) (.ptr b3 0) x S4->x7t PG dfx18 tf_engine_Check_1 QF [.ptr b1 0,.ptr b2 0,.ptr b3 0] x L S4:=by
      rintro L x S4 (rfl | rfl) h<;>exact Eq.mpr (q9z (T:=fun S=>rtW (xfj b1 b2 b3) QF S)) h
     have eil:i=l.length:=by have:=of_decide_eq_false a1;omega
     subst eil;rw [lU] at hO;rw [xk0];unfold xgf;(try simp only [rwp,zA,zB,zC,zD,zE,zF,zG,zH,zI,rwb,reduceIte])
     let S0':q00:=supd (supd (supd (supd S b1 (.cells 4 [.bool false] 1)) b2 (.cells 3 [.int .i64 0] 1)) b3 (.cells 30 [.int .i64 0] 1)) bo (.map MD (ybr (ofR s l) es) clk)
     have g0:∀ c,y01 S0' c=if bo=c then some (.map MD (ybr (ofR s l) es) clk) else if b3=c then some (.cells 30 [.int .i64 0] 1) else if b2=c then some (.cells 3 [.int .i64 0] 1) else if b1=c then some (.cells 4 [.bool false] 1) else y01 S c:=fun c=>rfl
     have hsub0:Sub S S0':=Sub.supd no (Sub.supd hb3' (Sub.supd hb2' (Sub.supd hb1 (Sub.refl _))));have hof:∀ m,ofA ((y07 s l who).of m)=(y0e es (ndA m)).map fun _=>AV.sl 3 (ofR s l m):=by
      intro m;unfold ofA;cases hm:y0e es (ndA m) with
      | none=>
       have:=hO.no m hm;unfold ofR at this;rw [List.map_eq_nil_iff] at this;rw [show (y07 s l who).of m=(ofF (q0a s l) m).map Tu.s from rfl,this]
       rfl
      | some v=>
       have:=(hO.yes m v hm).1;unfold ofR at this;rw [if_neg fun h=>this (by rw [show (ofF (q0a s l) m).map Tu.s=(y07 s l who).of m from rfl,h];rfl)]
       rfl
     have hfk:∀ x∈ybr (ofR s l) es,∃ n,x.1=ndA n:=by
      intro x hx;unfold ybr at hx;obtain ⟨y,hy,rfl⟩:=List.mem_map.1 hx;exact hO.key y hy
     have hOk:ype (y07 s l who) B bc bo bp S0':=by
      refine ⟨hs,y16 hg.may,Ne.symm dcp,?_,?_,Ne.symm dco,Ne.symm dpo,⟨ybr (ofR s l) es,clk,mapObj_some.2 (by rw [g0,if_pos rfl]),fun x hx=>?_,fun m=>?_⟩,by omega,fun m=>?_⟩
      ·rw [g0,if_neg (Ne.symm dco),if_neg (Ne.symm c3),if_neg (Ne.symm c2),if_neg (Ne.symm c1)];exact nc
      ·rw [g0,if_neg (Ne.symm dpo),if_neg (Ne.symm p3),if_neg (Ne.symm p2),if_neg (Ne.symm p1)];exact np
      ·obtain ⟨m,hm⟩:=hfk x hx;rw [hm];exact ke_nd.ok m
      ·rw [y61 hO.key];exact (hof m).symm
      ·show ((ofF (q0a s l) m).map Tu.s).length<=100000;rw [lB];exact Nat.le_trans (lK _ _) (q46 hl).n
     have q4:=xfz hOk 50 [] [] ⟨fun x hx=>(by cases hx),rfl,fun m=>by simp [qa8]⟩ rfl n 0 (stE (y07 s l who) B bc bo bp S0' 0 [] 0) ⟨by omega,0,rfl⟩
     have hfr:FrS (stE (y07 s l who) B bc bo bp S0' 0 [] 0) S2:=by
      intro b o' hb;unfold stE at hb;rw [q01,q01,g0] at hb;split at hb
      ·rename_i e;subst e;cases hb;exact ⟨_,(j2 _ (by simp)).trans s5p,.same _⟩
      ·split at hb
       ·rename_i e;subst e;cases hb;exact ⟨_,(j2 _ (by simp)).trans s5c,.same _⟩
       ·split at hb
        ·rename_i e
         subst e;cases hb;refine ⟨_,hO.map,hO.fr fun b hb=>?_⟩
         unfold stE at hb;rw [q01,q01,g0] at hb;split at hb
         ·rename_i e;exact .inr (.inl (by simp [e]))
         ·split at hb
          ·rename_i e;exact .inr (.inl (by simp [e]))
          ·split at hb
           ·rename_i e;exact .inl e.symm
           ·split at hb
            ·rename_i e;exact .inr (.inl (by simp [e]))
            ·split at hb
             ·rename_i e;exact .inr (.inl (by simp [e]))
             ·split at hb
              ·rename_i e;exact .inr (.inl (by simp [e]))
              ·exact .inr (.inr hb)
        ·split at hb
         ·rename_i e;subst e;cases hb;exact ⟨_,(j2 _ (by simp)).trans s53,.same _⟩
         ·split at hb
          ·rename_i e;subst e;cases hb;exact ⟨_,(j2 _ (by simp)).trans s52,.same _⟩
          ·split at hb
           ·rename_i e;subst e;cases hb;exact ⟨_,(j2 _ (by simp)).trans s51,.same _⟩
           ·exact ⟨_,j1 b o' hb,.same _⟩
     have t1:y01 S0' b1=some (.cells 4 [.bool false] 1):=by rw [g0,if_neg o1,if_neg d31,if_neg d21,if_pos rfl]
     have t2:y01 S0' b2=some (.cells 3 [.int .i64 0] 1):=by rw [g0,if_neg o2,if_neg d32,if_pos rfl]
     have t3:y01 S0' b3=some (.cells 30 [.int .i64 0] 1):=by rw [g0,if_neg o3,if_pos rfl]
     simp only [obC] at q4;refine q0c (ACalls.frz hfr (Frs.same _) q4) ?_;intro ae S3 hq4;unfold q3g at hq4;cases ha:y0q (y07 s l who) B 50 [] n 0 with
     | none=>
      rw [ha] at hq4 hQ;obtain ⟨rfl,hx⟩:=hq4;dsimp only;refine hEnd _ _ _ (.inr rfl) ?_;unfold q2l;(try simp only [rwp,zA,zB,zC,zD,zE,zF,zG,zH,zI,rwb,reduceIte,spV]);exact xfk (objAt_some.2 (hx _ _ t1)) (objAt_some.2 (hx _ _ t2)) (objAt_some.2 (hx _ _ t3)) (Ne.symm d21) (Ne.symm d31) (Ne.symm d32) hb1 hb2' hb3' (hsub0.trans hx) hQ
     | some p=>
      obtain ⟨b,w2⟩:=p;rw [ha] at hq4 hQ;obtain ⟨rfl,hw,clk',rfl⟩:=hq4;dsimp only;have eE:∀ c,y01 (stE (y07 s l who) B bc bo bp S0' w2 [] clk') c=if bp=c then some (.map MD [] clk') else if bc=c then some (.cells yt3 (seC (y07 s l who) B bo bp w2) 7) else y01 S0' c:=fun c=>rfl
      have r1:=eE b1;rw [if_neg p1,if_neg c1,t1] at r1;have r2:=eE b2;rw [if_neg p2,if_neg c2,t2] at r2;have r3:=eE b3;rw [if_neg p3,if_neg c3,t3] at r3;have rc:=eE bc;rw [if_neg (Ne.symm dcp),if_pos rfl] at rc;have hsE:Sub S (stE (y07 s l who) B bc bo bp S0' w2 [] clk'):=hsub0.trans (y5f hOk);have rco:=objAt_some.2 rc;have rcc:=q07 rco;have r1o:=objAt_some.2 r1;have r1c:=q07 r1o;generalize stE (y07 s l who) B bc bo bp S0' w2 [] clk'=SE at r1 r2 r3 rc rco rcc r1o r1c hsE ⊢;have r2o:=objAt_some.2 r2;have r3o:=objAt_some.2 r3;(try simp only [rwp,zA,zB,zC,zD,zE,zF,zG,zH,zI,rwb,reduceIte,r1o,r1c,rcc,rco,seC,c1,Ne.symm c1,y67,d21,d31,d32,Ne.symm d21,Ne.symm d31,Ne.symm d32,r2o,r3o]);refine hEnd _ _ _ (.inl rfl) ?_;unfold q2l;(try simp only [rwp,zA,zB,zC,zD,zE,zF,zG,zH,zI,rwb,reduceIte]);refine q18 S (Sub.supd hb3' (Sub.supd hb2' (Sub.supd hb1 hsE))) ?_;(try simp only [rwp,zA,zB,zC,zD,zE,zF,zG,zH,zI,rwb,reduceIte,r1o,r2o,r3o,d21,d31,d32,Ne.symm d21,Ne.symm d31,Ne.symm d32]);exact hQ
    ·have hlt:=of_decide_eq_true a1;obtain ⟨t,ht⟩:=q0e hlt;have q3:=q5y hs (hl.ok t (lA ht));simp only [scA] at q3;(try simp only [rwp,zA,zB,zC,zD,zE,zF,zG,zH,zI,rwb,reduceIte,ht,tuC]);refine q05 q3 ?_;(try simp only [rwp,zA,zB,zC,zD,zE,zF,zG,zH,zI,rwb,reduceIte,hc2,seC]);have hnx:=yzs (s:=s) ht;cases a2:decide (q1z s t=0)
     ·(try simp only [rwp,zA,zB,zC,zD,zE,zF,zG,zH,zI,rwb,reduceIte,yft])
      (simp (disch:=omega) only [q04])
      have e:ofR s (l.take (i+1))=ofR s (l.take i):=by
       funext m
       rw [hnx,if_neg fun h=>(of_decide_eq_false a2) h.1,lJ]
      exact q08 rfl (hkk (i+1) S2 ⟨by omega,j1,⟨es,clk,by rw [e];exact hO⟩,j2⟩ (by omega))
     ·(try simp only [rwp,zA,zB,zC,zD,zE,zF,zG,zH,zI,rwb,reduceIte]);refine hO.push j1 (ndT t) rfl rfl ?_ fun S4 es2 clk2 u1 u2 u3=>?_
      ·have:(ofR s (l.take i) (ndT t)).length<=i:=by
        unfold ofR ofF q0a;rw [lB,lB];exact Nat.le_trans (lK _ _) (Nat.le_trans (lK _ _) (List.length_take_le _ _))
       omega
      ·(try simp only [rwp,zA,zB,zC,zD,zE,zF,zG,zH,zI,rwb,reduceIte,yft])
       (simp (disch:=omega) only [q04])
       have e:ofR s (l.take (i+1))=fun m=>if m=ndT t then ofR s (l.take i) (ndT t)++[ndC t.s] else ofR s (l.take i) m:=by
        funext m
        rw [hnx];by_cases hm:m=ndT t
        ·rw [if_pos ⟨of_decide_eq_true a2,hm⟩,if_pos hm,hm]
        ·rw [if_neg fun h=>hm h.2,if_neg hm,lJ]
       exact q08 rfl (hkk (i+1) S4 ⟨by omega,u1,⟨es2,clk2,by rw [e];exact u2⟩,fun c hc=>(u3 c hc).trans (j2 c hc)⟩ (by omega))
  ·rw [if_pos (show (B<0\/100000<B\/y0a (y06 (y07 s l who).s)≠0) from k1 rfl)] at hQ
   (try simp only [rwp,zA,zB,zC,zD,zE,zF,zG,zH,zI,rwb,reduceIte,ya2]);exact xfk h31 h32 h33 (Ne.symm d21) (Ne.symm d31) (Ne.symm d32) hb1 hb2' hb3' hs3 hQ
 have hbad:∀ b:Bool,b=(!decide (z=0)||decide (B<0)||decide (100000<B))->(b=true->B<0\/100000<B\/y0a (y06 s)≠0)/\(b=false->¬ (B<0\/100000<B\/y0a (y06 s)≠0)):=by
  rintro b rfl;rw [hz];constructor
  ·intro h;simp only [Bool.or_eq_true,Bool.not_eq_true',decide_eq_true_eq,decide_eq_false_iff_not] at h;omega
  ·intro h;simp only [Bool.or_eq_false_iff,Bool.not_eq_false',decide_eq_true_eq,decide_eq_false_iff_not] at h;omega
 (try simp only [rwp,zA,zB,zC,zD,zE,zF,zG,zH,zI,rwb,reduceIte,ynp]);cases hb:(decide (B<0)||decide (100000<B))
 ·(try simp only [rwp,zA,zB,zC,zD,zE,zF,zG,zH,zI,rwb,reduceIte]);refine q05 q1 ?_;(try simp only [rwp,zA,zB,zC,zD,zE,zF,zG,zH,zI,rwb,reduceIte]);have e:(!decide (z=0))=(!decide (z=0)||decide (B<0)||decide (100000<B)):=by rw [Bool.or_assoc,hb,Bool.or_false]
  exact bad _ (hbad _ e).1 (hbad _ e).2
 ·(try simp only [rwp,zA,zB,zC,zD,zE,zF,zG,zH,zI,rwb,reduceIte]);refine bad true (fun _=>?_) (fun h=>by cases h)
  simp only [Bool.or_eq_true,decide_eq_true_eq] at hb;omega
set_option maxRecDepth 4000
theorem q4j {o:Ob} (ho:OkO o):y02 PG x64 [.agg (obC o)] (.str (q4r o)):=by
 intro S;refine xjf ?_;unfold xhr;(try simp only [rwp,zA,zB,zC,zD,zE,zF,zG,zH,zI,rwb,reduceIte,obC]);refine q05 (q0y ho.ty) ?_;have h1:=ho.ty;have h2:=ho.id;(try simp only [rwp,zA,zB,zC,zD,zE,zF,zG,zH,zI,rwb,reduceIte]);refine q05 (y4g ho.id) ?_;cases a1:q0r o.ty<;>cases a2:idB o.id<;>(try simp only [rwp,zA,zB,zC,zD,zE,zF,zG,zH,zI,rwb,reduceIte,x3g,ByteArray.size_append])
 ·exact q02 ⟨by simp [q4r,obB,a1],rfl⟩
 ·exact q02 ⟨by simp [q4r,obB,a1],rfl⟩
 ·exact q02 ⟨by simp [q4r,obB,a1,a2],rfl⟩
 ·have:(ByteArray.mk #[58]).size=1:=rfl;exact ⟨by omega,by omega,q02 ⟨by simp [q4r,obB,a1,a2],rfl⟩⟩
theorem q73 {n:Nd} (hn:OkD n):y02 PG x65 [.agg (ndC n)] (.str (q54 n)):=by
 intro S;refine xjg ?_;unfold xhs;(try simp only [rwp,zA,zB,zC,zD,zE,zF,zG,zH,zI,rwb,reduceIte,ndC]);have q:=q4j hn.o;simp only [obC] at q;have h1:=q66 hn.o;have h2:=hn.rl;refine q05 q ?_;(try simp only [rwp,zA,zB,zC,zD,zE,zF,zG,zH,zI,rwb,reduceIte]);refine q05 (q0y hn.rl) ?_;(try simp only [rwp,zA,zB,zC,zD,zE,zF,zG,zH,zI,rwb,reduceIte]);rw [q5l];cases a1:obB n.o
 ·(try simp only [rwp,zA,zB,zC,zD,zE,zF,zG,zH,zI,rwb,reduceIte,yo5]);exact q02 ⟨by simp [q54,q4r,a1],rfl⟩
 ·cases a2:decide (n.rl=⟨#[]⟩)
  ·(try simp only [rwp,zA,zB,zC,zD,zE,zF,zG,zH,zI,rwb,reduceIte,yo5,a2]);have a2:=of_decide_eq_false a2;cases a3:q0r n.rl
   ·(try simp only [rwp,zA,zB,zC,zD,zE,zF,zG,zH,zI,rwb,reduceIte]);exact q02 ⟨by simp [q54,a1,a2,a3],rfl⟩
   ·(try simp only [rwp,zA,zB,zC,zD,zE,zF,zG,zH,zI,rwb,reduceIte,ByteArray.size_append]);have:(ByteArray.mk #[35]).size=1:=rfl;exact ⟨by omega,by omega,q02 ⟨by simp [q54,a1,a2,a3],rfl⟩⟩
  ·(try simp only [rwp,zA,zB,zC,zD,zE,zF,zG,zH,zI,rwb,reduceIte,yo5,a2]);have a2:=of_decide_eq_true a2;exact q02 ⟨by simp [q54,a1,a2],rfl⟩
theorem q97 {t:Tu} (ht:OkU t):y02 PG yvg [.agg (tuC t)] (.str (q9s t)):=by
 intro S;refine xf1 ?_;unfold xc1;(try simp only [rwp,zA,zB,zC,zD,zE,zF,zG,zH,zI,rwb,reduceIte,tuC]);have q1:=q4j ht.o;have q2:=q73 ht.s;simp only [obC] at q1;simp only [ndC] at q2;have h1:=q66 ht.o;have h2:=yd4 ht.s;have h3:=ht.rl;refine q05 q1 ?_;(try simp only [rwp,zA,zB,zC,zD,zE,zF,zG,zH,zI,rwb,reduceIte]);refine q05 q2 ?_;(try simp only [rwp,zA,zB,zC,zD,zE,zF,zG,zH,zI,rwb,reduceIte]);refine q05 (q0y ht.rl) ?_;(try simp only [rwp,zA,zB,zC,zD,zE,zF,zG,zH,zI,rwb,reduceIte]);have e:=yt5 t;rw [q5l,y7s];cases a1:obB t.o
 ·(try simp only [rwp,zA,zB,zC,zD,zE,zF,zG,zH,zI,rwb,reduceIte,yaq,y54]);exact q02 ⟨by simp [q9s,e,a1],rfl⟩
 ·cases a2:(obB t.s.o&&(decide (t.s.rl=⟨#[]⟩)||q0r t.s.rl))
  ·(try simp only [rwp,zA,zB,zC,zD,zE,zF,zG,zH,zI,rwb,reduceIte,yaq,y54]);exact q02 ⟨by simp only [q9s,e,a1,a2];rfl,rfl⟩
  ·(try simp only [rwp,zA,zB,zC,zD,zE,zF,zG,zH,zI,rwb,reduceIte,yaq]);cases a3:q0r t.rl
   ·(try simp only [rwp,zA,zB,zC,zD,zE,zF,zG,zH,zI,rwb,reduceIte,y54]);exact q02 ⟨by simp only [q9s,e,a1,a2,a3];rfl,rfl⟩
   ·(try simp only [rwp,zA,zB,zC,zD,zE,zF,zG,zH,zI,rwb,reduceIte,y54,ByteArray.size_append]);have:(ByteArray.mk #[35]).size=1:=rfl;have:(ByteArray.mk #[64]).size=1:=rfl;exact ⟨by omega,by omega,by omega,by omega,q02 ⟨by simp only [q9s,e,a1,a2,a3];rfl,rfl⟩⟩
theorem y2a {s:List Ty} (hs:OkS s) {t:Tu} (ht:OkU t):y02 PG x5m [scA s,.agg (tuC t)] (.int .i64 (q1z s t)):=by
 intro S;refine xiw ?_;unfold xh8;have q:=q97 ht;simp only [tuC] at q;have hty:=hs.types;(try simp only [rwp,zA,zB,zC,zD,zE,zF,zG,zH,zI,rwb,reduceIte,scA,tuC]);refine q05 q ?_;(try simp only [rwp,zA,zB,zC,zD,zE,zF,zG,zH,zI,rwb,reduceIte]);rw [y7r];cases a1:tuB t
 ·(try simp only [rwp,zA,zB,zC,zD,zE,zF,zG,zH,zI,rwb,reduceIte]);exact q02 ⟨by simp [q1z,a1],rfl⟩
 ·(try simp only [rwp,zA,zB,zC,zD,zE,zF,zG,zH,zI,rwb,reduceIte]);have q2:=y9c hs t.o.ty t.rl;simp only [scA] at q2;have loop:∀ (v5:List AV) (fd:Bool) (K:Bool->Prop),(∀ b:Bool,b=(y05 s t.s.o.ty).isSome->yj0 (fun ae S'=>ae=.ret (.int .i64 (q1z s t))/\S'=S) (.rop (tuC t)) (.rop v5) (.bool (!fd||!b)) S) ->
    LoopP (fun r0 l S1=>x3a (fun ae S'=>ae=.ret (.int .i64 (q1z s t))/\S'=S) r0 (y00 l 2) (y00 l 3) (y00 l 5) (y00 l 6) (y00 l 7) (y00 l 8) S1) [(2,.rop [.sl 2 (s.map tyC)]),(3,.rop (tuC t)),(5,.rop v5),(6,.bool fd),(7,.bool false),(8,.int .i64 0)] S:=by
   intro v5 fd K hK;refine LoopP.intro (fun i:Nat=>[(2,.rop [.sl 2 (s.map tyC)]),(3,.rop (tuC t)),(5,.rop v5),(6,.bool fd),(7,.bool ((s.take i).any fun u=>decide (u.name=t.s.o.ty))),(8,.int .i64 i)]) (fun _=>S) (fun i=>i<=s.length) (fun i=>s.length-i) 0 (by omega) rfl (Sub.refl S) ?_
   intro i hi k hk;(try simp only [rwp,zA,zB,zC,zD,zE,zF,zG,zH,zI,rwb,reduceIte,x3a])
   (refine q03 (fun hlt=>?_) (fun hlt=>?_)<;>(try simp only [hlc] at hlt))
   ·obtain ⟨u,hu⟩:=q0e hlt;have hn:=hk (i+1) (by omega) (by omega)
    rw [q8f hu] at hn;cases a2:(s.take i).any fun u=>decide (u.name=t.s.o.ty)
    ·rw [a2,Bool.false_or] at hn;(try simp only [rwp,zA,zB,zC,zD,zE,zF,zG,zH,zI,rwb,reduceIte,hu,tyC,tuC])
     (simp (disch:=omega) only [q04])
     exact q08 rfl hn
    ·rw [a2,Bool.true_or] at hn;(try simp only [rwp,zA,zB,zC,zD,zE,zF,zG,zH,zI,rwb,reduceIte,hu,tyC,tuC])
     (simp (disch:=omega) only [q04])
     exact q08 rfl hn
   ·have e:s.take i=s:=lH (by omega)
    rw [e,yjc];have:=hK _ rfl;cases fd
    ·(try simp only [rwp,zA,zB,zC,zD,zE,zF,zG,zH,zI,rwb,reduceIte]);simpa only [Bool.not_false,Bool.true_or] using this
    ·(try simp only [rwp,zA,zB,zC,zD,zE,zF,zG,zH,zI,rwb,reduceIte]);simpa only [Bool.not_true,Bool.false_or] using this
  cases hq:q0d s t.o.ty t.rl with
  | none=>
   rw [hq] at q2;refine q05 q2 ?_;(try simp only [rwp,zA,zB,zC,zD,zE,zF,zG,zH,zI,rwb,reduceIte,y0v]);refine loop _ false (fun _=>True) fun b hb=>?_
   (try simp only [rwp,zA,zB,zC,zD,zE,zF,zG,zH,zI,rwb,reduceIte,yj0]);exact q02 ⟨by simp [q1z,a1,hq],rfl⟩
  | some q3=>
   obtain ⟨i,k,r⟩:=q3;obtain ⟨-,ty,h2,-,h4⟩:=q0z hq;have hok:=(hs.at h2).at h4;have hrl:=hok.refs;rw [hq] at q2;refine q05 q2 ?_;(try simp only [rwp,zA,zB,zC,zD,zE,zF,zG,zH,zI,rwb,reduceIte,q0k]);refine loop _ true (fun _=>True) fun b hb=>?_
   cases b
   ·(try simp only [rwp,zA,zB,zC,zD,zE,zF,zG,zH,zI,rwb,reduceIte,yj0]);exact q02 ⟨by simp only [q1z,a1,hq,<- hb];rfl,rfl⟩
   ·(try simp only [rwp,zA,zB,zC,zD,zE,zF,zG,zH,zI,rwb,reduceIte,yj0]);have hval:q1z s t=if r.refs.any (fun f=>decide (t.s.o.ty=f.ty)&&decide (t.s.rl=f.rl)) then 0 else 10:=by simp only [q1z,a1,hq,<- hb];rfl
    refine LoopP.intro (fun i:Nat=>[(3,.rop (tuC t)),(5,.rop [.str r.name,.sl 2 (r.refs.map rfC),.int .i64 r.ex.kind,.str r.ex.name,.str r.ex.over,.sl 4 (r.ex.kids.map exC)]),(9,.int .i64 i)]) (fun _=>S) (fun i=>i<=r.refs.length/\(r.refs.take i).any (fun f=>decide (t.s.o.ty=f.ty)&&decide (t.s.rl=f.rl))=false) (fun i=>r.refs.length-i) 0 ⟨by omega,rfl⟩ rfl (Sub.refl S) ?_
    rintro i ⟨hi,hn⟩ k hk;(try simp only [rwp,zA,zB,zC,zD,zE,zF,zG,zH,zI,rwb,reduceIte,x92])
    (refine q03 (fun hlt=>?_) (fun hlt=>?_)<;>(try simp only [hlc] at hlt))
    ·obtain ⟨f,hf⟩:=q0e hlt;have hs:=q8f (p:=fun f:Rf=>decide (t.s.o.ty=f.ty)&&decide (t.s.rl=f.rl)) hf
     rw [hn,Bool.false_or] at hs;(try simp only [rwp,zA,zB,zC,zD,zE,zF,zG,zH,zI,rwb,reduceIte,hf,rfC,tuC]);have comm:∀ a b:ByteArray,decide (a=b)=decide (b=a):=fun a b=>by rw [Bool.eq_iff_iff];simp [eq_comm]
     rw [comm f.ty];cases b1:decide (t.s.o.ty=f.ty)
     ·(try simp only [rwp,zA,zB,zC,zD,zE,zF,zG,zH,zI,rwb,reduceIte])
      (simp (disch:=omega) only [q04])
      exact q08 rfl (hk (i+1) ⟨by omega,by rw [hs,b1];rfl⟩ (by omega))
     ·(try simp only [rwp,zA,zB,zC,zD,zE,zF,zG,zH,zI,rwb,reduceIte,hf,rfC,tuC]);rw [comm f.rl];cases b2:decide (t.s.rl=f.rl)
      ·(try simp only [rwp,zA,zB,zC,zD,zE,zF,zG,zH,zI,rwb,reduceIte])
       (simp (disch:=omega) only [q04])
       exact q08 rfl (hk (i+1) ⟨by omega,by rw [hs,b1,b2];rfl⟩ (by omega))
      ·(try simp only [rwp,zA,zB,zC,zD,zE,zF,zG,zH,zI,rwb,reduceIte]);refine q02 ⟨?_,rfl⟩;rw [hval,if_pos (List.any_eq_true.2 ⟨f,lA hf,by rw [b1,b2];rfl⟩)]
    ·have e:r.refs.take i=r.refs:=lH (by omega)
     rw [e] at hn;exact q02 ⟨by rw [hval,hn];rfl,rfl⟩
theorem q4p {s:List Ty} (hs:OkS s) {l:List Tu} (hl:OkL l):y02 PG x6a [scA s,.sl 6 (l.map tuC)] (.sl 6 ((q0a s l).map tuC)):=by
 intro S;refine xjm ?_;unfold xhx;have hn:=hl.n;(try simp only [rwp,zA,zB,zC,zD,zE,zF,zG,zH,zI,rwb,reduceIte,scA]);refine LoopP.introS (fun p:Nat×AV=>[(1,.sl 6 (l.map tuC)),(2,.rop [.sl 2 (s.map tyC)]),(5,p.2),(6,.int .i64 p.1)]) (fun p S'=>p.1<=l.length/\Sub S S'/\LstN S S' y7b 6 p.2 ((q0a s (l.take p.1)).map tuC)) (fun p=>l.length-p.1) (0,.nils) ⟨by omega,Sub.refl S,LstN.nil⟩ rfl ?_
 rintro ⟨i,v⟩ S' ⟨hi,hsub,hv⟩ k hk;dsimp only at hi hsub hv;(try simp only [rwp,zA,zB,zC,zD,zE,zF,zG,zH,zI,rwb,reduceIte,x9o])
 (refine q03 (fun hlt=>?_) (fun hlt=>?_)<;>(try simp only [hlc] at hlt))
 ·obtain ⟨t,ht⟩:=q0e hlt;have q:=y2a hs (hl.ok t (lA ht));simp only [scA,tuC] at q;have e:=q1y (p:=fun t=>decide (q1z s t=0)) ht
  (try simp only [rwp,zA,zB,zC,zD,zE,zF,zG,zH,zI,rwb,reduceIte,ht,tuC]);refine q05 q ?_;(try simp only [rwp,zA,zB,zC,zD,zE,zF,zG,zH,zI,rwb,reduceIte]);have hlen:(q0a s (l.take i)).length<=i:=Nat.le_trans (lK _ _) (by rw [List.length_take];omega)
  cases a1:decide (q1z s t=0)
  ·rw [a1] at e;(try simp only [rwp,zA,zB,zC,zD,zE,zF,zG,zH,zI,rwb,reduceIte])
   (simp (disch:=omega) only [q04])
   exact q08 rfl (hk (i+1,v) S' ⟨by dsimp only;omega,hsub,by dsimp only;rw [q0a,e];simpa [q0a] using hv⟩ (by dsimp only;omega))
  ·rw [a1] at e;(try simp only [rwp,zA,zB,zC,zD,zE,zF,zG,zH,zI,rwb,reduceIte,ht,tuC]);refine LstN.tu (t:=t) hsub hv (by omega) fun v' S2 h1 h2=>?_
   (simp (disch:=omega) only [q04])
   exact q08 rfl (hk (i+1,v') S2 ⟨by dsimp only;omega,h1,by dsimp only;rw [q0a,e];exact h2⟩ (by dsimp only;omega))
 ·have e:l.take i=l:=lH (by omega)
  rw [e] at hv;exact q42 hsub hv ⟨rfl,rfl⟩
set_option maxRecDepth 4000
def LstW (S0 S:q00) (t sz:Nat) (v:AV) (rows:List (List AV)):Prop:=
 (∀ r∈rows,r.length=sz)/\((v=.nils/\rows=[])\/∃ b cap cs,v=.own b 0 rows.length cap/\y01 S0 b=none/\y01 S b=some (.cells t cs (cap * sz))/\cs.take (rows.length * sz)=rows.flatten/\rows.length * sz<=cs.length/\rows.length<=cap/\cap<=maxLen)
section
variable {S0 S:q00} {t sz bytes:Nat} {v:AV} {rows xs:List (List AV)} {K:AV->q00->Prop}
theorem LstW.nil:LstW S0 S t sz .nils []:=⟨fun r hr=>by (cases hr),.inl ⟨rfl,rfl⟩⟩
theorem LstW.upd (h:LstW S0 S t sz v rows) {c:Nat} (hc:q0v v c) (o:AObj):LstW S0 (supd S c o) t sz v rows:=by
 obtain ⟨hr,h⟩:=h;refine ⟨hr,?_⟩;rcases h with h | ⟨b,cap,cs,rfl,h1,h2,h3⟩
 ·exact .inl h
 ·exact .inr ⟨b,cap,cs,rfl,h1,by rw [q01,if_neg (hc b 0 _ _ rfl)];exact h2,h3⟩
theorem LstW.app (hs:Sub S0 S) (h:LstW S0 S t sz v rows) {x:List AV} (hx:x.length=sz) (ho:y09 x=true) (hb:(rows.length+1) * bytes<=140737488355328)
  (hK:∀ v' S',Sub S0 S'->LstW S0 S' t sz v' (rows++[x])->(∀ c o,y01 S c=some o->q0v v c->y01 S' c=some o/\q0v v' c)->K v' S'):apW S t sz bytes v (.sl sz [x]) K:=by
 refine ⟨1,x,by simp [yay],ho,?_⟩
 obtain ⟨hr,h⟩:=h;have hall:∀ r∈rows++[x],r.length=sz:=fun r hm=>(List.mem_append.1 hm).elim (hr r) fun h=>by rw [List.mem_singleton.1 h];exact hx
 have hfl:(rows++[x]).flatten.length=(rows.length+1) * sz:=by rw [q2i hall];simp
 rcases h with ⟨rfl,rfl⟩ | ⟨b,cap,cs,rfl,h1,h2,h3,h4,h5,h6⟩
 ·dsimp only;simp only [lL,Nat.zero_add] at hb;refine ⟨hb,?_⟩;rw [if_neg (by decide)]
  intro b cap hbn k1 k2;have hb0:=Sub.none hs hbn;refine hK _ _ (hs.supd hb0) ⟨hall,.inr ⟨b,cap,x,by simp,hb0,by rw [q01,if_pos rfl],?_,by simp [hx],by simpa using k1,k2⟩⟩ fun c o hc _=>?_
  ·simp [lH,hx]
  ·have hne:b≠c:=q0h hbn hc;exact ⟨by rw [q01,if_neg hne];exact hc,fun b' off n cap h=>by cases h;exact Ne.symm hne⟩
 ·refine ⟨_,h2,h5,h6,h4,hb,fun b' cap' k1 k2 k3=>?_⟩
  rw [h3];have hb0:y01 S0 b'=none:=by
   rcases k1 with rfl | k1
   ·exact h1
   ·exact Sub.none hs k1
  have hsub:Sub S0 (supd (y0f S b) b' (.cells t (rows.flatten++x) (cap' * sz))):=by
   refine Sub.supd hb0 fun c o hc=>?_
   have hne:b≠c:=by rintro rfl;rw [h1] at hc;cases hc
   rw [q0b,if_neg hne];exact hs c o hc
  refine hK _ _ hsub ⟨hall,.inr ⟨b',cap',rows.flatten++x,by simp,hb0,by rw [q01,if_pos rfl],?_,?_,by simpa using k2,k3⟩⟩ fun c o hc ha=>?_
  ·have e:rows.flatten++x=(rows++[x]).flatten:=by simp
   rw [e,lH (by rw [hfl];simp)]
  ·have e:rows.flatten++x=(rows++[x]).flatten:=by simp
   rw [e,hfl];simp
  ·have hcb:c≠b:=ha b 0 _ _ rfl;have hcb':b'≠c:=by
    rcases k1 with rfl | k1
    ·exact Ne.symm hcb
    ·exact q0h k1 hc
   exact ⟨by rw [q01,if_neg hcb',q0b,if_neg (Ne.symm hcb)];exact hc,fun b'' off n cap h=>by cases h;exact Ne.symm hcb'⟩
theorem LstW.one (h:LstW S0 S t sz v rows):Go.HL.one v=true:=by
 obtain ⟨hr,h⟩:=h;rcases h with ⟨rfl,-⟩ | ⟨b,cap,cs,rfl,-⟩<;>rfl
theorem LstW.ln {K:AV->Prop} {S':q00} (h:LstW S0 S t sz v rows):lnW S' 1 v K=K (.int .i64 rows.length):=by
 obtain ⟨hr,⟨rfl,rfl⟩ | ⟨b,cap,cs,rfl,-⟩⟩:=h
 ·rw [qaa];rfl
 ·rw [ybl]
theorem LstW.get (h:LstW S0 S t sz v rows) {i:Nat} {r:List AV} (hi:rows[i]?=some r):∃ b cap cs,v=.own b 0 rows.length cap/\q2y S b=some cs/\(cs.drop (i * sz)).take sz=r/\i * sz+sz<=cs.length:=by
 obtain ⟨hr,⟨rfl,rfl⟩ | ⟨b,cap,cs,rfl,h1,h2,h3,h4,h5,h6⟩⟩:=h
 ·simp at hi
 ·have hlt:=(List.getElem?_eq_some_iff.1 hi).1;have hrl:=hr r (lA hi);have hle:i * sz+sz<=rows.length * sz:=by
   calc i * sz+sz=(i+1) * sz:=by rw [Nat.succ_mul]
    _<=rows.length * sz:=Nat.mul_le_mul_right _ hlt
  refine ⟨b,cap,cs,rfl,q07 (objAt_some.2 h2),?_,by omega⟩
  apply List.ext_getElem?
  intro j;rw [List.getElem?_take];by_cases hj:j<sz
  ·rw [if_pos hj,List.getElem?_drop];have hu:r[j]?=some (r[j]'(by omega)):=lF (by omega)
   have:=q7u hr hi hu;rw [<- h3,List.getElem?_take,if_pos (by omega)] at this
   rw [this,hu]
  ·rw [if_neg hj,List.getElem?_eq_none_iff.2 (by omega)]
end
abbrev xju:Nat:=175
section
variable {E:q1k} {L:List Tu} {B:Int} {bc:Nat} {S0:q00} {P:List Nd} {ask:Nd->Nat->Option (Bool×Nat)}
theorem x4y (a b:Ob):decide (a=b)=(decide (a.ty=b.ty)&&decide (a.id=b.id)):=by
 rw [Bool.eq_iff_iff];cases a;cases b;simp
theorem seen {P:List Nd} {n:Nd} {i:Nat} (h:∀ (j:Nat) (m:Nd),j<i->P.reverse[j]?=some m->¬ m=n) (hi:P.length<=i):n ∉ P:=fun hn=>by
 obtain ⟨j,hj⟩:=lO (List.mem_reverse.2 hn);have hlt:=(List.getElem?_eq_some_iff.1 hj).1;rw [List.length_reverse] at hlt;exact h j n (by omega) hj rfl
end
end Go.HL
