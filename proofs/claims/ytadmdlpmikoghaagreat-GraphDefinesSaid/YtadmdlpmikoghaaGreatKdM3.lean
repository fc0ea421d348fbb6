/- A part of a proof. -/
import Derived.Test.YtadmdlpmikoghaaGreatKdM2
import Derived.Test.YtadmdlpmikoghaaGreatKdHlS10
import Derived.Test.YtadmdlpmikoghaaGreatKdHlS7
import Derived.Test.YtadmdlpmikoghaaGreatKdHlS8
import Derived.Test.YtadmdlpmikoghaaGreatKdHlS1
import Derived.Test.YtadmdlpmikoghaaGreatKdHlS4
import Derived.Test.YtadmdlpmikoghaaGreatKdHlQ
import Derived.Lib.Bytealg
import Derived.Laws.Externs
import Derived.Test.YtadmdlpmikoghaaGreatKdHlS11
import Derived.Test.YtadmdlpmikoghaaGreatKdHlS12
import Derived.Test.YtadmdlpmikoghaaGreatKdHlS13
import Derived.Test.YtadmdlpmikoghaaGreatKdHlS6
import Derived.Test.YtadmdlpmikoghaaGreatKdHlS9
import Derived.Test.YtadmdlpmikoghaaGreatKdHlO
import Derived.Test.YtadmdlpmikoghaaGreatKdHlS5
set_option maxRecDepth 4000
set_option linter.unusedSimpArgs false
set_option linter.unusedVariables false
namespace Go.HL
open Nat renaming reduceAdd→zA,reduceLeDiff→zB,reduceLT→zC,reduceSub→zD,reduceMul→zE,reduceEqDiff→zF,reduceBEq→zG
open Int renaming reduceAdd→zH,reduceToNat→zI
structure GS (E:q1n) (S0:q00) (bw bo br bk bl:Nat) (K:List Nd) (S:q00):Prop where
 w:q0k S bw=some (tyGw,gwC bo br bk E.who,5)
 of:KMap MD ndA S bo (fun n=>ofA (E.of n))
 rl:KMap MS AV.str S br (relsA E.s)
 lv:KMap MS AV.str S bl (levsA E.s)
 kn:∃ es clk,KN bk K es clk S
 nw:bk≠bw
 no:bk≠bo
 nr:bk≠br
 nl:bk≠bl
 len:∀ n,(E.of n).length≤1125899906842624
 sub:Sub S0 S
 nb:sget S0 bk=none
section
variable {E:q1n} {S0 S:q00} {bw bo br bk bl:Nat} {K K':List Nd}
theorem KN.kmap {es:List (AV×AV×Nat)} {clk:Nat} (h:KN bk K es clk S):KMap MD ndA S bk (fun n=>if n∈K then some (.bool true) else none):=
 ⟨es,clk,mapObj_some.2 h.map,fun x hx=>by obtain ⟨n,e⟩:=h.key x hx;rw [e];exact ke_nd.ok n,h.get⟩
theorem GS.gw (h:GS E S0 bw bo br bk bl K S):GW E bw bo br bk K S:=by
 obtain ⟨es,clk,hk⟩:=h.kn
 exact ⟨h.w,h.of,hk.kmap,h.len⟩
theorem GS.set (h:GS E S0 bw bo br bk bl K S) {es:List (AV×AV×Nat)} {clk:Nat} (hk:KN bk K' es clk (supd S bk (.map MD es clk))):GS E S0 bw bo br bk bl K' (supd S bk (.map MD es clk)):=
 ⟨by rw [q0i h.nw];exact h.w,h.of.upd h.no _,h.rl.upd h.nr _,h.lv.upd h.nl _,⟨es,clk,hk⟩,h.nw,h.no,h.nr,h.nl,h.len,Sub.supd h.nb h.sub,h.nb⟩
theorem GS.kb (h:GS E S0 bw bo br bk bl K S):sget S bk≠none:=by
 obtain ⟨es,clk,hk⟩:=h.kn
 rw [hk.map]
 simp
theorem GS.fresh (h:GS E S0 bw bo br bk bl K S) {c:Nat} (hc:sget S c=none) (o:AObj):GS E S0 bw bo br bk bl K (supd S c o):=by
 obtain ⟨es,clk,hk⟩:=h.kn
 have hcw:c≠bw:=fun e=>q6x h.w (e ▸ hc)
 have hck:c≠bk:=fun e=>h.kb (e ▸ hc)
 exact ⟨by rw [q0i hcw];exact h.w,h.of.fresh hc _,h.rl.fresh hc _,h.lv.fresh hc _,⟨es,clk,⟨by rw [q01,if_neg hck];exact hk.map,hk.key,hk.nd,hk.lt,hk.get⟩⟩,h.nw,h.no,h.nr,h.nl,h.len,Sub.supd (Sub.none h.sub hc) h.sub,h.nb⟩
end
structure RdG (s:List Ty) (L:List Tu) (who:Ob) (T:List Ob) (v:Nat) (K0:List Nd) (i k:Nat) (K:List Nd) (b:Bool):Prop where
 u:Upto (envL s L who) (q4u s T) v K
 y:b=true→K0.length<K.length
 n:b=false→K=K0∧∀ (i' k':Nat) (o:Ob) (t:Nat) (ty:Ty) (r:Rl),(i'<i∨i'=i∧k'<k)→T[i']?=some o→typF s o.ty=some t→s[t]?=some ty→ty.rels[k']?=some r→getL (levF s) (t,k')=v→q21 (envL s L who) (fun c=>decide (c∈K0)) ⟨o,r.name⟩ r=true→(⟨o,r.name⟩:Nd)∈K0
theorem RdG.skip {s:List Ty} {L:List Tu} {who:Ob} {T:List Ob} {v:Nat} {K0 K:List Nd} {i k i2 k2:Nat} {b:Bool} (h:RdG s L who T v K0 i k K b)
  (hs:∀ (i' k':Nat) (o:Ob) (t:Nat) (ty:Ty) (r:Rl),(i'<i2∨i'=i2∧k'<k2)→T[i']?=some o→typF s o.ty=some t→s[t]?=some ty→ty.rels[k']?=some r→getL (levF s) (t,k')=v→¬ (i'<i∨i'=i∧k'<k)→q21 (envL s L who) (fun c=>decide (c∈K)) ⟨o,r.name⟩ r=true→(⟨o,r.name⟩:Nd)∈K):RdG s L who T v K0 i2 k2 K b:=by
 refine ⟨h.u,h.y,fun hb=>?_⟩
 obtain ⟨e,h1⟩:=h.n hb
 subst e
 refine ⟨rfl,fun i' k' o t ty r hlt a1 a2 a3 a4 a5 a6=>?_⟩
 by_cases hq:i'<i∨i'=i∧k'<k
 ·exact h1 i' k' o t ty r hq a1 a2 a3 a4 a5 a6
 ·exact hs i' k' o t ty r hlt a1 a2 a3 a4 a5 hq a6
theorem c_gsettle {s:List Ty} {L:List Tu} {who:Ob} (R:Rnd s L who) {S0 S:q00} {bw bo br bk bl bc:Nat} {K:List Nd} {T:List Ob} {v:Nat} {mst:Int} (h:GS (envL s L who) S0 bw bo br bk bl K S) (hb:sget S bc=some (.cells 3 [.int .i64 v] 1)) (hne:bk≠bc)
  (hu:Upto (envL s L who) (q4u s T) v K) (hlT:T.length≤1000000) :
  ACalls PG nrx110 [.ptr bw 0,.sl 2 (T.map obC),.func (.func nrx111) [] [.rop [.map (some bl),.int .i64 mst],.ptr bc 0]] S fun ae S'=>ae=.ret (.tup [])∧∃ K',GS (envL s L who) S0 bw bo br bk bl K' S'∧sget S' bc=sget S bc∧Upto (envL s L who) (q4u s T) v K' ∧
   ∀ n j k r,q0g s n.o.ty n.rl=some (j,k,r)→lvN s n=v→n.o∈T→q21 (envL s L who) (fun c=>decide (c∈K')) n r=true→n∈K':=by
 have hst:=R.os.types
 have hcl0:q28 S bc=some [.int .i64 v]:=q08 (objAt_some.2 hb)
 generalize hF:AV.func (.func nrx111) [] [.rop [.map (some bl),.int .i64 mst],.ptr bc 0]=F
 refine wx110 ?_
 unfold Bx110
 refine LoopP.introS (fun x:Bool×Nat=>[(0,.ptr bw 0),(1,.sl 2 (T.map obC)),(2,F),(6,.bool x.1)])
  (fun x S'=>∃ K',GS (envL s L who) S0 bw bo br bk bl K' S'∧sget S' bc=sget S bc∧Upto (envL s L who) (q4u s T) v K'∧x.2=K'.length∧(x.1=false→∀ n j k r,q0g s n.o.ty n.rl=some (j,k,r)→lvN s n=v→n.o∈T→q21 (envL s L who) (fun c=>decide (c∈K')) n r=true→n∈K'))
  (fun x=>2 * ((q4u s T).length-x.2)+(if x.1 then 1 else 0)) (true,K.length) ⟨K,h,rfl,hu,rfl,fun e=>by cases e⟩ rfl ?_
 rintro ⟨more,kl⟩ S1 ⟨K1,g1,b1,u1,rfl,cl1⟩ kk hkk
 dsimp only at cl1 ⊢
 cases more
 ·(try simp only [rwp,zA,zB,zC,zD,zE,zF,zG,zH,zI,rwb,reduceIte,C110_1])
  exact q3t ⟨rfl,K1,g1,b1,u1,cl1 rfl⟩
 ·(try simp only [rwp,zA,zB,zC,zD,zE,zF,zG,zH,zI,rwb,reduceIte,C110_1])
  clear cl1
  refine LoopP.introS (fun x:Nat×Bool=>[(0,.ptr bw 0),(1,.sl 2 (T.map obC)),(2,F),(6,.bool x.2),(13,.sl 2 (T.map obC)),(14,.int .i64 T.length),(15,.int .i64 x.1)])
   (fun x S'=>x.1≤T.length∧sget S' bc=sget S bc∧∃ K',GS (envL s L who) S0 bw bo br bk bl K' S'∧RdG s L who T v K1 x.1 0 K' x.2) (fun x=>T.length-x.1) (0,false)
   ⟨by omega,b1,K1,g1,u1,fun e=>(by cases e),fun _=>⟨rfl,fun i' k' o t ty r hq=>by omega⟩⟩ rfl ?_
  rintro ⟨i,b⟩ S2 ⟨hi,b2,K2,g2,r2⟩ kk1 hkk1
  dsimp only at hi r2 ⊢
  (try simp only [rwp,zA,zB,zC,zD,zE,zF,zG,zH,zI,rwb,reduceIte,C110_2])
  (refine q02 (fun hlti=>?_) (fun hlti=>?_)<;>(try simp only [hlc] at hlti))
  ·obtain ⟨o,hoT⟩:=q0e hlti
   have hc2:=q08 g2.w
   (try simp only [rwp,zA,zB,zC,zD,zE,zF,zG,zH,zI,rwb,reduceIte,List.getElem?_map,hoT,obC,hc2,gwC])
   refine g2.rl.lki q2t o.ty ?_
   have ho:o∈T:=List.mem_of_getElem? hoT
   have next:∀ (b3:Bool) (S3:q00) (K3:List Nd),sget S3 bc=sget S bc→GS (envL s L who) S0 bw bo br bk bl K3 S3→RdG s L who T v K1 (i+1) 0 K3 b3→rcW kk1 [(0,.ptr bw 0),(1,.sl 2 (T.map obC)),(2,F),(6,.bool b3),(13,.sl 2 (T.map obC)),(14,.int .i64 T.length),(15,.int .i64 (IntKind.i64.wrap (↑i+1)))] S3:=by
    intro b3 S3 K3 h1 h2 h3
    (simp (disch:=omega) only [q07])
    exact q09 rfl (hkk1 (i+1,b3) _ ⟨by dsimp only;omega,h1,K3,h2,h3⟩ (by dsimp only;omega))
   show _
   cases ht:typF s o.ty with
   | none=>
    have e:relsA (envL s L who).s o.ty=none:=by unfold relsA;rw [show (envL s L who).s=s from rfl,ht]
    rw [e]
    (try simp only [rwp,zA,zB,zC,zD,zE,zF,zG,zH,zI,rwb,reduceIte,q1y])
    refine LoopP.introS (fun _:Unit=>[(0,.ptr bw 0),(1,.sl 2 (T.map obC)),(2,F),(6,.bool b),(8,.rop [.str o.ty,.str o.id]),(13,.sl 2 (T.map obC)),(14,.int .i64 T.length),(15,.int .i64 i),(25,.nils),(26,.int .i64 0),(27,.int .i64 0)]) (fun _ S'=>S'=S2) (fun _=>0) () rfl rfl ?_
    rintro _ S' rfl kk2 hkk2
    (try simp only [rwp,zA,zB,zC,zD,zE,zF,zG,zH,zI,rwb,reduceIte,C110_3])
    refine q3o (next b _ K2 b2 g2 (r2.skip fun i' k' o' t ty r hq a1 a2 a3 a4 a5 a6 a7=>?_))
    exfalso
    have e1:i'=i:=by omega
    subst e1
    rw [hoT] at a1
    cases a1
    rw [ht] at a2
    cases a2
   | some t=>
    obtain ⟨⟨ty,hty,hnm⟩,-⟩:=firstI_some.1 ht
    have hnm:ty.name=o.ty:=of_decide_eq_true hnm
    have e:relsA (envL s L who).s o.ty=some (.sl 6 (ty.rels.map rlC)):=by unfold relsA;rw [show (envL s L who).s=s from rfl,ht];simp [hty]
    rw [e]
    (try simp only [rwp,zA,zB,zC,zD,zE,zF,zG,zH,zI,rwb,reduceIte,q1y,List.length_map])
    have hbr:=(R.os.at hty).rels
    refine LoopP.introS (fun x:Nat×Bool=>[(0,.ptr bw 0),(1,.sl 2 (T.map obC)),(2,F),(6,.bool x.2),(8,.rop [.str o.ty,.str o.id]),(13,.sl 2 (T.map obC)),(14,.int .i64 T.length),(15,.int .i64 i),(25,.sl 6 (ty.rels.map rlC)),(26,.int .i64 ty.rels.length),(27,.int .i64 x.1)])
     (fun x S'=>x.1≤ty.rels.length∧sget S' bc=sget S bc∧∃ K',GS (envL s L who) S0 bw bo br bk bl K' S'∧RdG s L who T v K1 i x.1 K' x.2) (fun x=>ty.rels.length-x.1) (0,b) ⟨by omega,b2,K2,g2,r2⟩ rfl ?_
    rintro ⟨k,b'⟩ S3 ⟨hk,b3,K3,g3,r3⟩ kk2 hkk2
    dsimp only at hk r3 ⊢
    (try simp only [rwp,zA,zB,zC,zD,zE,zF,zG,zH,zI,rwb,reduceIte,C110_3])
    (refine q02 (fun hltk=>?_) (fun hltk=>?_)<;>(try simp only [hlc] at hltk))
    ·obtain ⟨r,hr⟩:=q0e hltk
     have hf:q0g s o.ty r.name=some (t,k,r):=by rw [← hnm];exact good_find (q2n R.c) hty hr
     have hlvn:lvN s ⟨o,r.name⟩=getL (levF s) (t,k):=by unfold lvN;rw [hf]
     obtain ⟨lv,hl1,hl2⟩:=shp_row (q4x s) hty
     obtain ⟨x,hx⟩:∃ x,lv[k]?=some x:=⟨_,List.getElem?_eq_getElem (by omega)⟩
     have hgl:getL (levF s) (t,k)=x:=by unfold getL;simp [hl1,hx]
     (try simp only [rwp,zA,zB,zC,zD,zE,zF,zG,zH,zI,rwb,reduceIte,List.getElem?_map,hr,q0l])
     refine alst rfl ?_
     (try simp only [rwp,zA,zB,zC,zD,zE,zF,zG,zH,zI,rwb,reduceIte,hnm])
     have q0:=c_gknown_1 (mst:=mst) (k:=k) g3.lv (q08 (objAt_some.2 (b3.trans hb))) ht hl1 hx
     rw [← hF]
     refine caW_atv q0 ?_
     rw [hF]
     have go:∀ {S4:q00} {b4:Bool} {K4:List Nd},sget S4 bc=sget S bc→GS (envL s L who) S0 bw bo br bk bl K4 S4→RdG s L who T v K1 i (k+1) K4 b4→rcW kk2 [(0,.ptr bw 0),(1,.sl 2 (T.map obC)),(2,F),(6,.bool b4),(8,.rop [.str o.ty,.str o.id]),(13,.sl 2 (T.map obC)),(14,.int .i64 T.length),(15,.int .i64 i),(25,.sl 6 (ty.rels.map rlC)),(26,.int .i64 ty.rels.length),(27,.int .i64 (IntKind.i64.wrap (↑k+1)))] S4:=by
      intro S4 b4 K4 h1 h2 h3
      (simp (disch:=omega) only [q07])
      exact q09 rfl (hkk2 (k+1,b4) _ ⟨by dsimp only;omega,h1,K4,h2,h3⟩ (by dsimp only;omega))
     have nx:(q21 (envL s L who) (fun c=>decide (c∈K3)) ⟨o,r.name⟩ r=true→x=v→(⟨o,r.name⟩:Nd)∈K3)→RdG s L who T v K1 i (k+1) K3 b':=fun hq=>r3.skip fun i' k' o' t' ty' r' hlt a1 a2 a3 a4 a5 a6 a7=>by
      have e1:i'=i:=by omega
      have e3:k'=k:=by omega
      subst e1 e3
      rw [hoT] at a1
      cases a1
      rw [ht] at a2
      cases a2
      rw [hty] at a3
      cases a3
      rw [hr] at a4
      cases a4
      exact hq a7 (by rw [← hgl];exact a5)
     cases g5:decide (x=v)
     ·(try simp only [rwp,zA,zB,zC,zD,zE,zF,zG,zH,zI,rwb,reduceIte,C110_4,C110_5,C110_6])
      exact go b3 g3 (nx fun _ e=>absurd e (of_decide_eq_false g5))
     ·have hc3:=q08 g3.w
      (try simp only [rwp,zA,zB,zC,zD,zE,zF,zG,zH,zI,rwb,reduceIte,hc3,gwC])
      have q:=fun K' hk=>g3.gw.kn.lki (ok:=false) (z:=.bool false) (K:=K') ke_nd ⟨o,r.name⟩ hk
      simp only [ndA,ndC] at q
      refine q _ ?_
      rw [q5n]
      cases g6:decide ((⟨o,r.name⟩:Nd)∈K3)
      ·have q2:=c_gstands g3.gw ⟨o,r.name⟩ r rfl (fun h0=>sc_may (q2n R.c).may ty (List.mem_of_getElem? hty) r (List.mem_of_getElem? hr) h0)
       simp only [obC,q0l] at q2
       (try simp only [rwp,zA,zB,zC,zD,zE,zF,zG,zH,zI,rwb,reduceIte,C110_4])
       refine q1h q2 ?_
       cases g7:q21 (envL s L who) (fun c=>decide (c∈K3)) ⟨o,r.name⟩ r
       ·(try simp only [rwp,zA,zB,zC,zD,zE,zF,zG,zH,zI,rwb,reduceIte,C110_5,C110_6])
        exact go b3 g3 (nx fun h=>by rw [g7] at h;cases h)
       ·have hn:(⟨o,r.name⟩:Nd) ∉ K3:=of_decide_eq_false g6
        have hu4:=r3.u.snoc R.e R.c (n:=⟨o,r.name⟩) hf (by show lvN s ⟨o,r.name⟩=v;rw [hlvn,hgl];exact of_decide_eq_true g5) hn (mem_nodes hf ho) g7
        obtain ⟨es,clk,hkn⟩:=g3.kn
        (try simp only [rwp,zA,zB,zC,zD,zE,zF,zG,zH,zI,rwb,reduceIte,C110_5,hc3,gwC])
        refine hkn.push (n:=⟨o,r.name⟩) hn fun es' clk' hk4=>?_
        (try simp only [rwp,zA,zB,zC,zD,zE,zF,zG,zH,zI,rwb,reduceIte,C110_6])
        refine go (b4:=true) (by rw [q01,if_neg hne];exact b3) (g3.set hk4) ⟨hu4,fun _=>?_,fun h=>by cases h⟩
        rw [List.length_append,List.length_singleton]
        cases b' with
        | true=>have:=r3.y rfl;omega
        | false=>rw [(r3.n rfl).1];omega
      ·(try simp only [rwp,zA,zB,zC,zD,zE,zF,zG,zH,zI,rwb,reduceIte,C110_4,C110_5,C110_6])
       exact go b3 g3 (nx fun _ _=>of_decide_eq_true g6)
    ·(try simp only [rwp,zA,zB,zC,zD,zE,zF,zG,zH,zI,rwb,reduceIte])
     refine next b' S3 K3 b3 g3 (r3.skip fun i' k' o' t' ty' r' hq a1 a2 a3 a4 a5 a6 a7=>?_)
     exfalso
     have e1:i'=i:=by omega
     subst e1
     rw [hoT] at a1
     cases a1
     rw [ht] at a2
     cases a2
     rw [hty] at a3
     cases a3
     have:=(List.getElem?_eq_some_iff.1 a4).1
     omega
  ·(try simp only [rwp,zA,zB,zC,zD,zE,zF,zG,zH,zI,rwb,reduceIte])
   refine q09 rfl (hkk (b,K2.length) _ ⟨K2,g2,b2,r2.u,rfl,fun hbf=>?_⟩ ?_)
   ·dsimp only at hbf
    obtain ⟨e,hq⟩:=r2.n hbf
    subst e
    intro n j k r hf hl hT hbd
    obtain ⟨a,ha⟩:=List.getElem?_of_mem hT
    obtain ⟨ht0,ty,hty,hrl,hkr⟩:=q11 hf
    have hrn:r.name=n.rl:=by
     obtain ⟨⟨x,hx,hp⟩,-⟩:=firstI_some.1 hrl
     rw [hkr] at hx
     cases hx
     exact of_decide_eq_true hp
    have hlv:getL (levF s) (j,k)=v:=by rw [← hl];unfold lvN;rw [hf]
    have hlt2:=(List.getElem?_eq_some_iff.1 ha).1
    have:=hq a k n.o j ty r (.inl (by omega)) ha ht0 hty hkr hlv (by rw [hrn];exact hbd)
    rw [hrn] at this
    exact this
   ·have hn2:=nd_len r2.u.nd r2.u.sub
    dsimp only
    cases b with
    | false=>rw [(r2.n rfl).1];simp
    | true=>have:=r2.y rfl;simp;omega
set_option maxRecDepth 4000
def levsI (s:List Ty) (i:Nat) (nm:ByteArray):Option AV:=match typF s nm with
 | none=>none
 | some j=>if j<i then ((levF s)[j]?).map fun l=>.sl 1 (l.map fun x=>[iv x]) else none
def relsI (s:List Ty) (i:Nat) (nm:ByteArray):Option AV:=match typF s nm with
 | none=>none
 | some j=>if j<i then (s[j]?).map fun t=>.sl 6 (t.rels.map rlC) else none
theorem levsI_all (s:List Ty) (nm:ByteArray):levsI s s.length nm=levsA s nm:=by
 unfold levsI levsA
 cases h:typF s nm with
 | none=>rfl
 | some j=>
  obtain ⟨⟨t,ht,-⟩,-⟩:=firstI_some.1 h
  have:=(List.getElem?_eq_some_iff.1 ht).1
  simp [this]
theorem relsI_all (s:List Ty) (nm:ByteArray):relsI s s.length nm=relsA s nm:=by
 unfold relsI relsA
 cases h:typF s nm with
 | none=>rfl
 | some j=>
  obtain ⟨⟨t,ht,-⟩,-⟩:=firstI_some.1 h
  have:=(List.getElem?_eq_some_iff.1 ht).1
  simp [this]
theorem levsI_succ {s:List Ty} (hg:GoodS s) {i:Nat} {t:Ty} {l:List Nat} (ht:s[i]?=some t) (hl:(levF s)[i]?=some l) (nm:ByteArray):@ite (Option AV) (nm=t.name) (Classical.propDecidable (nm=t.name)) (some (.sl 1 (l.map fun x=>[iv x]))) (levsI s i nm)=levsI s (i+1) nm:=by
 have hi:=good_typ hg ht
 by_cases h:nm=t.name
 ·subst h
  rw [if_pos rfl]
  unfold levsI
  rw [hi]
  simp [hl]
 ·rw [if_neg h]
  unfold levsI
  cases hq:typF s nm with
  | none=>rfl
  | some j=>
   have hj:j≠i:=by
    rintro rfl
    obtain ⟨⟨x,hx,hp⟩,-⟩:=firstI_some.1 hq
    rw [ht] at hx
    cases hx
    exact h (of_decide_eq_true hp).symm
   dsimp only
   by_cases h1:j<i
   ·rw [if_pos h1,if_pos (by omega)]
   ·rw [if_neg h1,if_neg (by omega)]
theorem relsI_succ {s:List Ty} (hg:GoodS s) {i:Nat} {t:Ty} (ht:s[i]?=some t) (nm:ByteArray):@ite (Option AV) (nm=t.name) (Classical.propDecidable (nm=t.name)) (some (.sl 6 (t.rels.map rlC))) (relsI s i nm)=relsI s (i+1) nm:=by
 have hi:=good_typ hg ht
 by_cases h:nm=t.name
 ·subst h
  rw [if_pos rfl]
  unfold relsI
  rw [hi]
  simp [ht]
 ·rw [if_neg h]
  unfold relsI
  cases hq:typF s nm with
  | none=>rfl
  | some j=>
   have hj:j≠i:=by
    rintro rfl
    obtain ⟨⟨x,hx,hp⟩,-⟩:=firstI_some.1 hq
    rw [ht] at hx
    cases hx
    exact h (of_decide_eq_true hp).symm
   dsimp only
   by_cases h1:j<i
   ·rw [if_pos h1,if_pos (by omega)]
   ·rw [if_neg h1,if_neg (by omega)]
abbrev tyRk:Nat:=189
structure RkI (s:List Ty) (S:q00) (b4 bm b5:Nat) (i:Nat) (m:Nat) (S':q00):Prop where
 sub:Sub S S'
 c4:q0k S' b4=some (tyRk,[.map none,.int .i64 0],2)
 c5:q0k S' b5=some (tyRk,[.map (some bm),.int .i64 m],2)
 mp:KMap MS AV.str S' bm (levsI s i)
 le:m≤q0n s
 up:∀ (j k x:Nat) (l:List Nat),j<i→(levF s)[j]?=some l→l[k]?=some x→x≤m
theorem c_grank {s:List Ty} (hs:OkS s) (hc:errA (chkF s)=0) (S:q00) :
  ACalls PG nrx109 [scA s,.sl 1 (lvC (levF s))] S fun ae S'=>∃ bl m:Nat,ae=.ret (.agg [.map (some bl),.int .i64 m])∧Sub S S'∧sget S bl=none∧KMap MS AV.str S' bl (levsA s)∧m≤q0n s∧∀ (j k x:Nat) (l:List Nat),(levF s)[j]?=some l→l[k]?=some x→x≤m:=by
 have hg:=q2n hc
 have hmany:=hg.many
 have hst:=hs.types
 have hll:=shp_len (q4x s)
 refine wx109 ?_
 unfold Bx109
 (try simp only [rwp,zA,zB,zC,zD,zE,zF,zG,zH,zI,rwb,reduceIte,scA])
 intro b4 hb4 bm hbm
 obtain ⟨dm4,hbm'⟩:=frsh hbm
 (try simp only [rwp,zA,zB,zC,zD,zE,zF,zG,zH,zI,rwb,reduceIte])
 intro b5 hb5
 obtain ⟨d5m,hb5'⟩:=frsh hb5
 obtain ⟨d54,hb5'⟩:=frsh hb5'
 (try simp only [rwp,zA,zB,zC,zD,zE,zF,zG,zH,zI,rwb,reduceIte,List.length_map])
 generalize hS3:supd _ b5 _=S3
 have h4:q0k S3 b4=some (tyRk,[.map none,.int .i64 0],2):=by rw [← hS3];(try simp only [rwp,zA,zB,zC,zD,zE,zF,zG,zH,zI,rwb,reduceIte,Ne.symm d54,Ne.symm dm4,d54,dm4])
 have h5:q0k S3 b5=some (tyRk,[.map (some bm),.int .i64 0],2):=by rw [← hS3];(try simp only [rwp,zA,zB,zC,zD,zE,zF,zG,zH,zI,rwb,reduceIte])
 have hm:KMap MS AV.str S3 bm (levsI s 0):=by
  refine ⟨[],0,mapObj_some.2 (by rw [← hS3];rw [q01,if_neg d5m,q01,if_pos rfl]),fun x hx=>(by cases hx),fun k=>?_⟩
  rw [q5h]
  unfold levsI
  cases typF s k with
  | none=>rfl
  | some j=>simp
 have hsub:Sub S S3:=by rw [← hS3];first | exact Sub.supd hb5' (Sub.supd hb5' (Sub.supd hbm' (Sub.supd hb4 (Sub.refl _)))) | exact Sub.supd hb5' (Sub.supd hbm' (Sub.supd hb4 (Sub.refl _)))
 clear hS3
 refine LoopP.introS (fun i:Nat=>[(1,.sl 1 (lvC (levF s))),(4,.ptr b4 0),(5,.ptr b5 0),(13,.sl 2 (s.map tyC)),(14,.int .i64 s.length),(15,.int .i64 i)])
  (fun i S'=>i≤s.length∧∃ m,RkI s S b4 bm b5 i m S') (fun i=>s.length-i) 0 ⟨by omega,0,hsub,h4,h5,hm,Nat.zero_le _,fun j k x l hj=>by omega⟩ rfl ?_
 rintro i S1 ⟨hi,m,r1⟩ kk hkk
 (try simp only [rwp,zA,zB,zC,zD,zE,zF,zG,zH,zI,rwb,reduceIte,C109_1])
 (refine q02 (fun hlt=>?_) (fun hlt=>?_)<;>(try simp only [hlc] at hlt))
 ·obtain ⟨t,ht⟩:=q0e hlt
  obtain ⟨l,hl1,hl2⟩:=shp_row (q4x s) ht
  have hcl:(lvC (levF s))[i]?=some [.sl 1 (l.map fun x=>[iv x])]:=by rw [lvC,List.getElem?_map,hl1];rfl
  have hc5:=q08 r1.c5
  (try simp only [rwp,zA,zB,zC,zD,zE,zF,zG,zH,zI,rwb,reduceIte,List.getElem?_map,ht,tyC])
  refine alst rfl ?_
  (try simp only [rwp,zA,zB,zC,zD,zE,zF,zG,zH,zI,rwb,reduceIte,hc5,hcl])
  refine r1.mp.mu q2t t.name fun es clk hk=>?_
  have hne5:bm≠b5:=by rintro rfl;have h1:=objAt_some.1 r1.c5;obtain ⟨es,clk,h2,-⟩:=r1.mp;rw [mapObj_some.1 h2] at h1;cases h1
  have hne4:bm≠b4:=by rintro rfl;have h1:=objAt_some.1 r1.c4;obtain ⟨es,clk,h2,-⟩:=r1.mp;rw [mapObj_some.1 h2] at h1;cases h1
  have hne45:b5≠b4:=d54
  have r2:∃ m',RkI s S b4 bm b5 i m' (supd S1 bm (.map MS es clk))∨True:=⟨m,.inr trivial⟩
  have hsub1:Sub S (supd S1 bm (.map MS es clk)):=Sub.supd hbm' r1.sub
  have c41:q0k (supd S1 bm (.map MS es clk)) b4=some (tyRk,[.map none,.int .i64 0],2):=by rw [q0i hne4];exact r1.c4
  have c51:q0k (supd S1 bm (.map MS es clk)) b5=some (tyRk,[.map (some bm),.int .i64 m],2):=by rw [q0i hne5];exact r1.c5
  have mp1:=hk.cong (levsI_succ hg ht hl1)
  generalize supd S1 bm (.map MS es clk)=S2 at hsub1 c41 c51 mp1 ⊢
  (try simp only [rwp,zA,zB,zC,zD,zE,zF,zG,zH,zI,rwb,reduceIte,hcl,List.length_map])
  refine LoopP.introS (fun x:Nat=>[(1,.sl 1 (lvC (levF s))),(4,.ptr b4 0),(5,.ptr b5 0),(13,.sl 2 (s.map tyC)),(14,.int .i64 s.length),(15,.int .i64 i),(31,.sl 1 (l.map fun x=>[iv x])),(32,.int .i64 l.length),(33,.int .i64 x)])
   (fun x S'=>x≤l.length∧∃ m':Nat,Sub S S'∧q0k S' b4=some (tyRk,[.map none,.int .i64 0],2)∧q0k S' b5=some (tyRk,[.map (some bm),.int .i64 m'],2)∧KMap MS AV.str S' bm (levsI s (i+1))∧m≤m'∧m'≤q0n s∧∀ (k y:Nat),k<x→l[k]?=some y→y≤m') (fun x=>l.length-x) 0
   ⟨by omega,m,hsub1,c41,c51,mp1,Nat.le_refl _,r1.le,fun k y hk=>by omega⟩ rfl ?_
  rintro x S3 ⟨hx,m',k1,k2,k3,k4,k5,k6,k7⟩ kk2 hkk2
  (try simp only [rwp,zA,zB,zC,zD,zE,zF,zG,zH,zI,rwb,reduceIte,C109_2])
  (refine q02 (fun hltx=>?_) (fun hltx=>?_)<;>(try simp only [hlc] at hltx))
  ·obtain ⟨y,hy⟩:=q0e hltx
   have hyb:y≤q0n s:=by
    obtain ⟨r,hr⟩:∃ r,t.rels[x]?=some r:=⟨_,List.getElem?_eq_getElem (by omega)⟩
    have:=(q5k hc ht hr).1
    unfold getL at this
    simpa [hl1,hy] using this
   have hc3:=q08 k3
   (try simp only [rwp,zA,zB,zC,zD,zE,zF,zG,zH,zI,rwb,reduceIte,List.getElem?_map,hy,iv,hc3,k3])
   have hrl:=(hs.at ht).rels
   (simp (disch:=omega) only [q07])
   have e:(if (m':Int)<y then (y:Int) else (m':Int))=((max m' y:Nat):Int):=by
    split<;>omega
   rw [e]
   refine q09 rfl (hkk2 (x+1) _ ⟨by omega,max m' y,Sub.supd hb5' k1,by rw [q0i hne45];exact k2,q0j,k4.upd (Ne.symm hne5) _,by omega,by omega,fun k z hk hz=>?_⟩ (by omega))
   rcases Nat.lt_succ_iff_lt_or_eq.1 hk with h1 | rfl
   ·exact Nat.le_trans (k7 k z h1 hz) (Nat.le_max_left _ _)
   ·rw [hy] at hz;cases hz;exact Nat.le_max_right _ _
  ·(try simp only [rwp,zA,zB,zC,zD,zE,zF,zG,zH,zI,rwb,reduceIte])
   (simp (disch:=omega) only [q07])
   refine q09 rfl (hkk (i+1) _ ⟨by omega,m',k1,k2,k3,k4,k6,fun j k z l' hj hl' hz=>?_⟩ (by omega))
   rcases Nat.lt_succ_iff_lt_or_eq.1 hj with h1 | rfl
   ·exact Nat.le_trans (r1.up j k z l' h1 hl' hz) k5
   ·rw [hl1] at hl'
    cases hl'
    have hk:=(List.getElem?_eq_some_iff.1 hz).1
    exact k7 k z (by omega) hz
 ·have e:i=s.length:=by omega
  subst e
  have hc5:=q08 r1.c5
  have o4:=r1.c4
  (try simp only [rwp,zA,zB,zC,zD,zE,zF,zG,zH,zI,rwb,reduceIte,hc5,o4])
  have mp2:=r1.mp.cong (levsI_all s)
  have hne4:bm≠b4:=dm4
  refine q1f (sdel S1 b4) ?_ ?_
  ·intro c o hc
   rw [q0d] at hc
   split at hc
   ·cases hc
   ·rename_i hn
    rw [q0d,if_neg hn,q01,if_neg hn]
    exact hc
  ·refine ⟨bm,m,rfl,fun c o hc=>?_,hbm',?_,r1.le,fun j k x l hl hx=>?_⟩
   ·rw [q0d,if_neg (q0o hb4 hc)]
    exact r1.sub c o hc
   ·obtain ⟨es,clk,h1,h2,h3⟩:=mp2
    exact ⟨es,clk,mapObj_some.2 (by rw [q0d,if_neg (Ne.symm hne4)];exact mapObj_some.1 h1),h2,h3⟩
   ·have:=(List.getElem?_eq_some_iff.1 hl).1
    exact r1.up j k x l (by omega) hl hx
set_option maxRecDepth 4000
theorem Upto.next {s:List Ty} {L:List Tu} {who:Ob} {T:List Ob} {v:Nat} {K:List Nd} (h:Upto (envL s L who) (q4u s T) v K) (hT:∀ n x,x∈(envL s L who).of n→n.o∈T)
  (hcl:∀ n j k r,q0g s n.o.ty n.rl=some (j,k,r)→lvN s n=v→n.o∈T→q21 (envL s L who) (fun c=>decide (c∈K)) n r=true→n∈K):Upto (envL s L who) (q4u s T) (v+1) K:=by
 have hT':∀ n∈K,n.o∈T:=by
  intro n hn
  have:=h.sub n hn
  obtain ⟨o,ho,hq⟩:=List.mem_flatMap.1 this
  obtain ⟨t,-,hq⟩:=List.mem_flatMap.1 hq
  obtain ⟨r,-,rfl⟩:=List.mem_map.1 hq
  exact ho
 refine ⟨h.nd,h.sub,h.step,h.srt,fun n hn=>Nat.le_succ_of_le (h.top n hn),fun n j k r hf hlt hb=>?_⟩
 rcases Nat.lt_succ_iff_lt_or_eq.1 hlt with h1 | h1
 ·exact h.closed n j k r hf h1 hb
 ·exact hcl n j k r hf h1 (body_thing hT (fun c hc=>hT' c (of_decide_eq_true hc)) hb) hb
structure P14 (s:List Ty) (L:List Tu) (who:Ob) (bw:Nat) (S0:q00) (T:List Ob) (S:q00):Prop where
 ex:∃ tv,q0k S bw=some (tyW14,wC s L tv who .nils,6)∧LstW S0 S tyOb 2 tv (T.map obC)∧q0u tv bw
 sub:Sub S0 S
 nb:sget S0 bw=none
theorem P14.w {s:List Ty} {L:List Tu} {who:Ob} {bw:Nat} {S0 S:q00} {T:List Ob} (h:P14 s L who bw S0 T S) (hl:T.length≤1000000):W14 s L who bw S0 T [] S:=by
 obtain ⟨tv,h1,h2,h3⟩:=h.ex
 exact ⟨⟨tv,.nils,h1,h2,LstW.nil,h3,fun b off n cap e=>(by cases e),fun _ _ _ _ _ b off n cap e=>(by cases e)⟩,h.sub,h.nb,by simp,hl⟩
theorem P14.add {s:List Ty} {L:List Tu} {who:Ob} {bw:Nat} {S0 S:q00} {T:List Ob} {tv:AV} (hnb:sget S0 bw=none) (hs:Sub S0 S) (h1:q0k S bw=some (tyW14,wC s L tv who .nils,6)) (h2:LstW S0 S tyOb 2 tv (T.map obC)) (h3:q0u tv bw) (hl:T.length≤1000000) (o:Ob) {K:AV→q00→Prop} {Qp:AV→q00→Prop}
  (hK:∀ tv' S',q0k S' bw=some (tyW14,wC s L tv who .nils,6)→one tv'=true→P14 s L who bw S0 (addT T o) (supd S' bw (.cells tyW14 (wC s L tv' who .nils) 6))→K tv' S'):caW PG S (.func (.func nrx106) [] []) [tv,.agg (obC o)] K Qp:=by
 refine q1b (c_add14 hs h2 hl o) ?_
 rintro ae S' ⟨tv',rfl,k1,k2,k3⟩
 obtain ⟨i1,i2⟩:=k3 bw _ (objAt_some.1 h1) h3
 exact hK tv' S' (objAt_some.2 i1) k1.one ⟨⟨tv',q0j,k1.upd i2 _,i2⟩,Sub.supd hnb k2,hnb⟩
theorem addT_len {T:List Ob} {o:Ob}:(addT T o).length≤T.length+1:=by
 unfold addT
 split<;>simp
theorem addT_mem {T:List Ob} {o x:Ob}:x∈addT T o↔x∈T∨x=o:=by
 unfold addT
 split
 ·rename_i h
  exact ⟨.inl,fun hq=>hq.elim id fun e=>by rw [e];exact h⟩
 ·rw [List.mem_append,List.mem_singleton]
set_option maxRecDepth 4000
theorem Fr.lstW {S0 S:q00} {t sz:Nat} {v:AV} {rows:List (List AV)} (h:LstW S0 S t sz v rows):Fr S0 S v (.sl sz rows):=by
 obtain ⟨hr,⟨rfl,rfl⟩ | ⟨b,cap,cs,rfl,h1,h2,h3,h4,h5,h6⟩⟩:=h
 ·exact .nils sz
 ·exact .ownW t sz b _ cap rows cs hr h1 h2 h3 rfl h5
theorem LstN.keepAt {S0 S S':q00} {t sz:Nat} {v:AV} {rows:List (List AV)} (h:LstN S0 S t sz v rows) (hk:∀ b off n cap,v=.own b off n cap→sget S' b=sget S b):LstN S0 S' t sz v rows:=by
 obtain ⟨hr,h⟩:=h
 refine ⟨hr,?_⟩
 rcases h with h | ⟨b,cap,rfl,h1,h2,h3⟩
 ·exact .inl h
 ·exact .inr ⟨b,cap,rfl,h1,by rw [hk b _ _ _ rfl];exact h2,h3⟩
def ofL (L:List Tu) (n:Nd):List (List AV):=((ofF L n).map Tu.s).map ndC
theorem ofL_take {L:List Tu} {i:Nat} {t:Tu} (h:L[i]?=some t) (n:Nd):ofL (L.take (i+1)) n=ofL (L.take i) n++if n=ndT t then [ndC t.s] else []:=by
 unfold ofL ofF
 rw [q39 h,List.map_append,List.map_append]
 congr 1
 by_cases h2:n=ndT t
 ·rw [if_pos h2]
  subst h2
  simp [ndT]
 ·rw [if_neg h2]
  have:(decide (t.o=n.o)&&decide (t.rl=n.rl))=false:=by
   rw [Bool.eq_false_iff]
   intro hq
   simp only [Bool.and_eq_true,decide_eq_true_eq] at hq
   refine h2 ?_
   cases n
   simp only [ndT,Nd.mk.injEq]
   exact ⟨hq.1.symm,hq.2.symm⟩
  simp [this]
theorem ofL_len {L:List Tu} {i:Nat} {n:Nd}:(ofL (L.take i) n).length≤i:=by
 unfold ofL ofF
 rw [List.length_map,List.length_map]
 exact Nat.le_trans (List.length_filter_le _ _) (List.length_take_le _ _)
abbrev KsG (bw br bk bh:Nat) (tv:AV) (c:Nat):Prop:=c=bw∨c=br∨c=bk∨c=bh∨∃ off n cap,tv=.own c off n cap
structure KnI (s:List Ty) (who:Ob) (S:q00) (bw bo br bk bh:Nat) (f:Nd→List (List AV)) (tv:AV) (T:List Ob) (S':q00):Prop where
 sub:Sub S S'
 w:q0k S' bw=some (tyGw,gwC bo br bk who,5)
 rl:KMap MS AV.str S' br (relsA s)
 kn:sget S' bk=some (.map MD [] 0)
 of:∃ es clk,OfM S S' 39 bo (KsG bw br bk bh tv) f es clk
 tl:LstN S S' tyOb 2 tv (T.map obC)
 ta:∀ c,(c=bw∨c=br∨c=bk∨c=bh∨c=bo)→q0u tv c
 hd:KMap MO obA S' bh (fun x=>if x∈T then some (.bool true) else none)
 nh:sget S bh=none
 dh:bh≠bw∧bh≠br∧bh≠bk
theorem KMap.at {κ:Type} {M:Bool×List EK} {enc:κ→AV} {S S':q00} {b:Nat} {f:κ→Option AV} (h:KMap M enc S b f) (e:sget S' b=sget S b):KMap M enc S' b f:=by
 obtain ⟨es,clk,h1,h2,h3⟩:=h
 exact ⟨es,clk,mapObj_some.2 (e.trans (mapObj_some.1 h1)),h2,h3⟩
section
variable {s:List Ty} {who:Ob} {S S':q00} {bw bo br bk bh:Nat} {f:Nd→List (List AV)} {tv:AV} {T:List Ob}
theorem KnI.add (h:KnI s who S bw bo br bk bh f tv T S') (hT:T.length≤100000) (x:Ob) {K:AV→q00→Prop} (hK:∀ tv' S2,KnI s who S bw bo br bk bh f tv' (addT T x) S2→K tv' S2) :
  lkW S' MO false (.bool false) (.map (some bh)) (.agg (obC x)) fun v84=>ntW v84 fun v85=>cnW v85 (muW S' MO (.map (some bh)) (.agg (obC x)) (.bool true) fun S2=>apW S2 tyOb 2 32 tv (.sl 2 [obC x]) K) (K tv S'):=by
 refine h.hd.lki ke_ob x ?_
 by_cases hx:x∈T
 ·rw [if_pos hx]
  refine q3o (hK tv S' ?_)
  rw [addT,if_pos hx]
  exact h
 ·rw [if_neg hx]
  show cnW (.bool true) _ _
  refine ⟨fun _=>?_,fun e=>by cases e⟩
  refine h.hd.mu ke_ob x fun es clk hd2=>?_
  obtain ⟨es1,clk1,hof⟩:=h.of
  have hof2:=hof.supd (c:=bh) (.inr (.inr (.inr (.inl rfl)))) (.map MO es clk)
  have hsub2:Sub S (supd S' bh (.map MO es clk)):=Sub.supd h.nh h.sub
  have tl2:=h.tl.upd (c:=bh) (h.ta bh (by simp)) (.map MO es clk)
  have hbo:bh≠bo:=(hof.ks bh (.inr (.inr (.inr (.inl rfl))))).1
  have w2:sget (supd S' bh (.map MO es clk)) bw=some (.cells tyGw (gwC bo br bk who) 5):=by rw [q01,if_neg h.dh.1];exact objAt_some.1 h.w
  have k2:sget (supd S' bh (.map MO es clk)) bk=some (.map MD [] 0):=by rw [q01,if_neg h.dh.2.2];exact h.kn
  have r2:=h.rl.upd h.dh.2.1 (.map MO es clk)
  generalize supd S' bh (.map MO es clk)=S2 at hd2 hof2 hsub2 tl2 w2 k2 r2 ⊢
  refine LstN.app hsub2 tl2 (fun r hr=>by rw [List.mem_singleton.1 hr];rfl) (q4a fun r hr=>by rw [List.mem_singleton.1 hr];rfl) (by simp only [List.length_map,List.length_singleton];omega) fun tv' S3 j1 j2 j3=>hK tv' S3 ?_
  have keep:∀ c,(c=bw∨c=br∨c=bk∨c=bh∨c=bo)→∀ o,sget S2 c=some o→sget S3 c=some o∧q0u tv' c:=fun c hc o ho=>j3 c o ho (h.ta c hc)
  have keepM:∀ {κ:Type} {M:Bool×List EK} {enc:κ→AV} {b:Nat} {g:κ→Option AV},(b=bw∨b=br∨b=bk∨b=bh∨b=bo)→KMap M enc S2 b g→KMap M enc S3 b g:=by
   intro κ M enc b g hb hm
   obtain ⟨es,clk,m1,-⟩:=id hm
   exact hm.at ((keep b hb _ (mapObj_some.1 m1)).1.trans (mapObj_some.1 m1).symm)
  obtain ⟨rk,rclk,rm,-⟩:=id r2
  obtain ⟨dk,dclk,dm,-⟩:=id hd2
  refine ⟨j1,objAt_some.2 (keep bw (by simp) _ w2).1,keepM (by simp) r2,(keep bk (by simp) _ k2).1,⟨es1,clk1,hof2.other (v:=tv) (v':=tv') (fun b off n cap e=>.inr (.inr (.inr (.inr ⟨off,n,cap,e⟩)))) j3 (fun c hc=>?_) fun c hc=>?_⟩,?_,fun c hc=>?_,?_,h.nh,h.dh⟩
  ·rcases hc with hc | hc | hc | hc | hc
   ·exact .inl (.inl hc)
   ·exact .inl (.inr (.inl hc))
   ·exact .inl (.inr (.inr (.inl hc)))
   ·exact .inl (.inr (.inr (.inr (.inl hc))))
   ·exact .inr hc
  ·have old:∀ {o:AObj},(c=bw∨c=br∨c=bk∨c=bh∨c=bo)→sget S2 c=some o→sget S3 c≠none:=fun hc ho=>by rw [(keep c hc _ ho).1];simp
   rcases hc with rfl | rfl | rfl | rfl | ⟨off,n,cap,rfl⟩
   ·exact ⟨(hof.ks _ (.inl rfl)).1,old (by simp) w2⟩
   ·exact ⟨(hof.ks _ (.inr (.inl rfl))).1,old (by simp) (mapObj_some.1 rm)⟩
   ·exact ⟨(hof.ks _ (.inr (.inr (.inl rfl)))).1,old (by simp) k2⟩
   ·exact ⟨hbo,old (by simp) (mapObj_some.1 dm)⟩
   ·refine ⟨Ne.symm ((keep bo (by simp) _ hof2.map).2 c _ _ _ rfl),?_⟩
    obtain ⟨hr,⟨e,-⟩ | ⟨b1,cap1,e,q1,q2,-⟩⟩:=j2
    ·cases e
    ·cases e
     rw [q2]
     simp
  ·rw [addT,if_neg hx,List.map_append]
   exact j2
  ·rcases hc with rfl | rfl | rfl | rfl | rfl
   ·exact (keep _ (by simp) _ w2).2
   ·exact (keep _ (by simp) _ (mapObj_some.1 rm)).2
   ·exact (keep _ (by simp) _ k2).2
   ·exact (keep _ (by simp) _ (mapObj_some.1 dm)).2
   ·exact (keep _ (by simp) _ hof2.map).2
  ·refine (keepM (by simp) hd2).cong fun y=>?_
   rw [addT,if_neg hx]
   by_cases e:y=x
   ·subst e;simp
   ·simp [List.mem_append,e]
theorem KnI.push (h:KnI s who S bw bo br bk bh f tv T S') (n:Nd) {row:List AV} {K:q00→Prop} (hr:row.length=3) (ho:ones row=true) (hb:((f n).length+1) * 48≤140737488355328)
  (hK:∀ S2,KnI s who S bw bo br bk bh (fun m=>if m=n then f n++[row] else f m) tv T S2→K S2) :
  meW S' MD .nils (.map (some bo)) (ndA n) fun v S=>exW 0 v fun v70=>exW 1 v fun v76=>apW S 39 3 48 v70 (.sl 3 [row]) fun v75 S=>mtW S (.map (some bo)) v76 v75 K:=by
 obtain ⟨es,clk,hof⟩:=h.of
 refine hof.push h.sub n hr ho hb fun S2 es' clk' u1 u2 u3=>hK S2 ?_
 exact ⟨u1,objAt_some.2 ((u3 bw (.inl rfl)).trans (objAt_some.1 h.w)),h.rl.at (u3 br (.inr (.inl rfl))),(u3 bk (.inr (.inr (.inl rfl)))).trans h.kn,⟨es',clk',u2⟩,h.tl.keepAt fun b off n cap e=>u3 b (.inr (.inr (.inr (.inr ⟨off,n,cap,e⟩)))),h.ta,h.hd.at (u3 bh (.inr (.inr (.inr (.inl rfl))))),h.nh,h.dh⟩
end
set_option maxRecDepth 4000
theorem ix_two0 {a b c d:AV} {j:Nat} {K:AV→Prop} (h:j=0) (hk:K (.agg [a,b])):ixW 2 2 true (.agg [a,b,c,d]) (.int .i64 (j:Int)) K:=by
 subst h
 exact hk
theorem ix_two1 {a b c d:AV} {j:Nat} {K:AV→Prop} (h:j=1) (hk:K (.agg [c,d])):ixW 2 2 true (.agg [a,b,c,d]) (.int .i64 (j:Int)) K:=by
 subst h
 exact hk
section
variable {s:List Ty} {L:List Tu} {who:Ob} {S:q00} {bw bo br bk bl:Nat}
def PostK (s:List Ty) (L:List Tu) (who:Ob) (S:q00) (ae:AEnd) (S':q00):Prop:=∃ (bk:Nat) (K:List Nd),ae=.ret (.map (some bk))∧Sub S S'∧KMap MD ndA S' bk (fun n=>if n∈K then some (.bool true) else none)∧Mod (envL s L who) K
theorem known_3 (R:Rnd s L who) {S1:q00} {bc m:Nat} {T:List Ob} (hm:m≤q0n s) (hup:∀ (j k x:Nat) (l:List Nat),(levF s)[j]?=some l→l[k]?=some x→x≤m) (g:GS (envL s L who) S bw bo br bk bl [] S1) (hb:sget S1 bc=some (.cells 3 [.int .i64 0] 1)) (hne:bk≠bc) (hlT:T.length≤2000) (hT:∀ n x,x∈(envL s L who).of n→n.o∈T) :
  LoopP (fun r0 l S'=>C57_3 (PostK s L who S) r0 (lget l 11) (lget l 15) (lget l 21) (lget l 22) S') [(11,.ptr bw 0),(15,.sl 2 (T.map obC)),(21,.rop [.map (some bl),.int .i64 m]),(22,.ptr bc 0)] S1:=by
 have hmany:=(q2n R.c).many
 refine LoopP.introS (fun x:Nat×Nat=>[(11,.ptr bw 0),(15,.sl 2 (T.map obC)),(21,.rop [.map (some bl),.int .i64 m]),(22,.ptr x.2 0)])
  (fun x S'=>x.1≤m+1∧∃ K,GS (envL s L who) S bw bo br bk bl K S'∧sget S' x.2=some (.cells 3 [.int .i64 x.1] 1)∧bk≠x.2∧Upto (envL s L who) (q4u s T) x.1 K) (fun x=>m+1-x.1) (0,bc)
  ⟨by dsimp only;omega,[],g,hb,hne,⟨by simp,fun n hn=>(by cases hn),fun i n hi=>by simp at hi,fun i j n m hi=>by simp at hi,fun n hn=>(by cases hn),fun n j k r _ hlt=>by omega⟩⟩ rfl ?_
 rintro ⟨v,bc⟩ S2 ⟨hv,K,g2,b2,hne2,u2⟩ kk hkk
 dsimp only at hv b2 hne2 u2 ⊢
 have hc2:=q08 (objAt_some.2 b2)
 (try simp only [rwp,zA,zB,zC,zD,zE,zF,zG,zH,zI,rwb,reduceIte,C57_3,hc2])
 cases a1:decide ((v:Int)≤m)
 ·have hcw:=q08 g2.w
  (try simp only [rwp,zA,zB,zC,zD,zE,zF,zG,zH,zI,rwb,reduceIte,hcw,gwC])
  obtain ⟨es,clk,hkn⟩:=g2.kn
  have ev:v=m+1:=by have:=of_decide_eq_false a1;omega
  subst ev
  refine q03 ⟨bk,K,rfl,g2.sub,hkn.kmap,u2.mod fun n j k r hf=>?_⟩
  obtain ⟨-,ty,hty,-,hkr⟩:=q11 hf
  obtain ⟨lv,hl1,hl2⟩:=shp_row (q4x s) hty
  have hkl:=(List.getElem?_eq_some_iff.1 hkr).1
  obtain ⟨x,hx⟩:∃ x,lv[k]?=some x:=⟨_,List.getElem?_eq_getElem (by omega)⟩
  have:=hup j k x lv hl1 hx
  unfold lvN
  rw [hf]
  show getL (levF s) (j,k)<m+1
  unfold getL
  simp [hl1,hx]
  omega
 ·have hle:=of_decide_eq_true a1
  (try simp only [rwp,zA,zB,zC,zD,zE,zF,zG,zH,zI,rwb,reduceIte])
  refine q1b (c_gsettle R (mst:=m) g2 b2 hne2 u2 (by omega)) ?_
  rintro ae S3 ⟨rfl,K3,g3,b3,u3,cl3⟩
  dsimp only
  have hc3:=q08 (objAt_some.2 (b3.trans b2))
  (try simp only [rwp,zA,zB,zC,zD,zE,zF,zG,zH,zI,rwb,reduceIte,hc3])
  intro bd hbd
  (try simp only [rwp,zA,zB,zC,zD,zE,zF,zG,zH,zI,rwb,reduceIte])
  (simp (disch:=omega) only [q07])
  have e:supd (supd (supd S3 bd (.cells 3 [.int .i64 0] 1)) bd (.cells 3 [.int .i64 v] 1)) bd (.cells 3 [.int .i64 (v+1)] 1)=supd S3 bd (.cells 3 [.int .i64 ((v+1:Nat):Int)] 1):=by rw [q0x,q0x];rfl
  refine q09 rfl (hkk (v+1,bd) _ ⟨by dsimp only;omega,K3,g3.fresh hbd _,by rw [q01,if_pos rfl];rfl,?_,u3.next hT cl3⟩ (by dsimp only;omega))
  rintro rfl
  exact g3.kb hbd
theorem c_gknown (R:Rnd s L who) (hL:L.length≤500) (o:Ob) (S:q00):ACalls PG nrx57 [scA s,.sl 1 (lvC (levF s)),.sl 6 (L.map tuC),.agg (obC o),.agg (obC who)] S (PostK s L who S):=by
 have hst:=R.os.types
 refine wx57 ?_
 unfold Bx57
 (try simp only [rwp,zA,zB,zC,zD,zE,zF,zG,zH,zI,rwb,reduceIte,scA,obC])
 intro bo hbo br hbr
 obtain ⟨dro,hbr'⟩:=frsh hbr
 intro bk hbk
 obtain ⟨dkr,hbk'⟩:=frsh hbk
 obtain ⟨dko,hbk'⟩:=frsh hbk'
 (try simp only [rwp,zA,zB,zC,zD,zE,zF,zG,zH,zI,rwb,reduceIte])
 refine ⟨rfl,rfl,fun bw hbw=>?_⟩
 obtain ⟨dwk,hbw'⟩:=frsh hbw
 obtain ⟨dwr,hbw'⟩:=frsh hbw'
 obtain ⟨dwo,hbw'⟩:=frsh hbw'
 (try simp only [rwp,zA,zB,zC,zD,zE,zF,zG,zH,zI,rwb,reduceIte,List.length_map])
 generalize hS4:supd _ bw _=S4
 have g4:∀ c,sget S4 c=if bw=c then some (.cells tyGw (gwC bo br bk who) 5) else if bk=c then some (.map MD [] 0) else if br=c then some (.map MS [] 0) else if bo=c then some (.map MD [] 0) else sget S c:=by
  intro c
  rw [← hS4,q01,q01,q01,q01]
  rfl
 have sub4:Sub S S4:=by rw [← hS4];exact Sub.supd hbw' (Sub.supd hbk' (Sub.supd hbr' (Sub.supd hbo (Sub.refl _))))
 have w4:sget S4 bw=some (.cells tyGw (gwC bo br bk who) 5):=by rw [g4,if_pos rfl]
 have k4:sget S4 bk=some (.map MD [] 0):=by rw [g4,if_neg dwk,if_pos rfl]
 have o4:sget S4 bo=some (.map MD [] 0):=by rw [g4,if_neg dwo,if_neg dko,if_neg dro,if_pos rfl]
 have r4:KMap MS AV.str S4 br (relsI s 0):=by
  refine ⟨[],0,mapObj_some.2 (by rw [g4,if_neg dwr,if_neg dkr,if_pos rfl]),fun x hx=>(by cases hx),fun k=>?_⟩
  rw [q5h]
  unfold relsI
  cases typF s k with
  | none=>rfl
  | some j=>simp
 clear hS4 g4
 have hg:=q2n R.c
 refine LoopP.introS (fun i:Nat=>[(1,.sl 1 (lvC (levF s))),(2,.sl 6 (L.map tuC)),(5,.rop [.sl 2 (s.map tyC)]),(8,.rop [.str o.ty,.str o.id]),(11,.ptr bw 0),(30,.sl 2 (s.map tyC)),(31,.int .i64 s.length),(32,.int .i64 i)])
  (fun i S'=>i≤s.length∧Sub S S'∧sget S' bw=some (.cells tyGw (gwC bo br bk who) 5)∧sget S' bk=some (.map MD [] 0)∧sget S' bo=some (.map MD [] 0)∧KMap MS AV.str S' br (relsI s i)) (fun i=>s.length-i) 0 ⟨by omega,sub4,w4,k4,o4,r4⟩ rfl ?_
 rintro i S5 ⟨hi,sub5,w5,k5,o5,r5⟩ kk hkk
 have hc5:=q08 (objAt_some.2 w5)
 (try simp only [rwp,zA,zB,zC,zD,zE,zF,zG,zH,zI,rwb,reduceIte,C57_1])
 (refine q02 (fun hlt=>?_) (fun hlt=>?_)<;>(try simp only [hlc] at hlt))
 ·obtain ⟨t,ht⟩:=q0e hlt
  (try simp only [rwp,zA,zB,zC,zD,zE,zF,zG,zH,zI,rwb,reduceIte,List.getElem?_map,ht,tyC,hc5,gwC])
  refine r5.mu q2t t.name fun es clk hk=>?_
  (simp (disch:=omega) only [q07])
  exact q09 rfl (hkk (i+1) _ ⟨by omega,Sub.supd hbr' sub5,by rw [q01,if_neg (Ne.symm dwr)];exact w5,by rw [q01,if_neg (Ne.symm dkr)];exact k5,by rw [q01,if_neg dro];exact o5,hk.cong (relsI_succ hg ht)⟩ (by omega))
 ·have e:i=s.length:=by omega
  subst e
  have r5:=r5.cong (relsI_all s)
  clear hkk
  (try simp only [rwp,zA,zB,zC,zD,zE,zF,zG,zH,zI,rwb,reduceIte])
  intro bh hbh
  have hd0:KMap MO obA (supd S5 bh (.map MO [] 0)) bh (fun _=>none):=⟨[],0,mapObj_some.2 (by rw [q01,if_pos rfl]),fun x hx=>(by cases hx),fun k=>q5h⟩
  refine hd0.mu ke_ob o fun es clk hd=>?_
  rw [q0x] at hd ⊢
  refine ⟨by simp [allV,q0a,notJ],fun tb htb=>?_⟩
  obtain ⟨dth,htb'⟩:=frsh htb
  have nS:∀ {c:Nat},sget S5 c=none→sget S c=none:=fun h=>Sub.none sub5 h
  have neW:∀ {c:Nat},sget S5 c=none→c≠bw∧c≠br∧c≠bk∧c≠bo:=by
   intro c hc
   refine ⟨?_,?_,?_,?_⟩
   ·rintro rfl;rw [w5] at hc;cases hc
   ·rintro rfl;exact r5.is hc
   ·rintro rfl;rw [k5] at hc;cases hc
   ·rintro rfl;rw [o5] at hc;cases hc
  obtain ⟨h1,h2,h3,h4⟩:=neW hbh
  obtain ⟨t1,t2,t3,t4⟩:=neW htb'
  generalize hS7:supd _ tb _=S7
  have g7:∀ c,sget S7 c=if tb=c then some (.cells tyOb [.str o.ty,.str o.id] 2) else if bh=c then some (.map MO es clk) else sget S5 c:=by
   intro c
   rw [← hS7,q01,q01]
   rfl
  have sub7:Sub S S7:=by rw [← hS7];exact Sub.supd (nS htb') (Sub.supd (nS hbh) sub5)
  have e7:∀ c,c≠tb→c≠bh→sget S7 c=sget S5 c:=fun c c1 c2=>by rw [g7,if_neg (Ne.symm c1),if_neg (Ne.symm c2)]
  have kn7:KnI s who S bw bo br bk bh (ofL (L.take 0)) (.own tb 0 1 1) [o] S7:=by
   have ef:ofL (L.take 0)=fun _=>[]:=rfl
   refine ⟨sub7,objAt_some.2 ((e7 bw (Ne.symm t1) (Ne.symm h1)).trans w5),r5.at (e7 br (Ne.symm t2) (Ne.symm h2)),(e7 bk (Ne.symm t3) (Ne.symm h3)).trans k5,⟨[],0,?_⟩,⟨fun r hr=>by rw [List.mem_singleton.1 hr];rfl,.inr ⟨tb,1,rfl,nS htb',?_,by simp,by decide,by simp⟩⟩,fun c hc=>?_,?_,nS hbh,h1,h2,h3⟩
   ·rw [ef]
    refine OfM.nil hbo ((e7 bo (Ne.symm t4) (Ne.symm h4)).trans o5) fun c hc=>?_
    rcases hc with rfl | rfl | rfl | rfl | ⟨off,n,cap,e⟩
    ·exact ⟨dwo,by rw [e7 _ (Ne.symm t1) (Ne.symm h1),w5];simp⟩
    ·exact ⟨dro,by rw [e7 _ (Ne.symm t2) (Ne.symm h2)];exact r5.is⟩
    ·exact ⟨dko,by rw [e7 _ (Ne.symm t3) (Ne.symm h3),k5];simp⟩
    ·exact ⟨h4,by rw [g7,if_neg dth,if_pos rfl];simp⟩
    ·cases e;exact ⟨t4,by rw [g7,if_pos rfl];simp⟩
   ·rw [g7,if_pos rfl];rfl
   ·rcases hc with rfl | rfl | rfl | rfl | rfl<;>intro b off n cap e<;>cases e
    ·exact Ne.symm t1
    ·exact Ne.symm t2
    ·exact Ne.symm t3
    ·exact Ne.symm dth
    ·exact Ne.symm t4
   ·refine (hd.at (S':=S7) ?_).cong fun x=>?_
    ·rw [g7,if_neg dth,if_pos rfl,q01,if_pos rfl]
    ·by_cases e:x=o
     ·subst e;simp
     ·simp [e]
  clear hS7 g7 e7 sub7 hd hd0 htb
  refine LoopP.introS (fun x:Nat×AV=>[(1,.sl 1 (lvC (levF s))),(5,.rop [.sl 2 (s.map tyC)]),(11,.ptr bw 0),(14,.map (some bh)),(15,x.2),(50,.sl 6 (L.map tuC)),(51,.int .i64 L.length),(52,.int .i64 x.1)])
   (fun x S'=>x.1≤L.length∧∃ T,KnI s who S bw bo br bk bh (ofL (L.take x.1)) x.2 T S'∧T.length≤1+2 * x.1∧∀ (j:Nat) (t:Tu),j<x.1→L[j]?=some t→t.o∈T) (fun x=>L.length-x.1) (0,.own tb 0 1 1) ⟨by dsimp only;omega,[o],kn7,by simp,fun j t hj=>by dsimp only at hj;omega⟩ rfl ?_
  rintro ⟨i,tv⟩ S8 ⟨hi,T,n8,hlT,hmem⟩ kk hkk
  dsimp only at hi n8 hlT hmem ⊢
  (try simp only [rwp,zA,zB,zC,zD,zE,zF,zG,zH,zI,rwb,reduceIte,C57_2])
  (refine q02 (fun hlt=>?_) (fun hlt=>?_)<;>(try simp only [hlc] at hlt))
  ·obtain ⟨t,ht⟩:=q0e hlt
   have hc8:=q08 n8.w
   (try simp only [rwp,zA,zB,zC,zD,zE,zF,zG,zH,zI,rwb,reduceIte,List.getElem?_map,ht,tuC,hc8,gwC])
   refine n8.push (ndT t) rfl rfl (by have:=ofL_len (L:=L) (i:=i) (n:=ndT t);omega) fun S9 n9=>?_
   have ef:(fun m=>if m=ndT t then ofL (L.take i) (ndT t)++[ndC t.s] else ofL (L.take i) m)=ofL (L.take (i+1)):=by
    funext m
    rw [ofL_take ht]
    by_cases hm:m=ndT t
    ·rw [if_pos hm,if_pos hm,hm]
    ·rw [if_neg hm,if_neg hm,List.append_nil]
   have n9:KnI s who S bw bo br bk bh (ofL (L.take (i+1))) tv T S9:=by rw [← ef];exact n9
   (try simp only [rwp,zA,zB,zC,zD,zE,zF,zG,zH,zI,rwb,reduceIte])
   refine LoopP.introS (fun x:Nat×AV=>[(1,.sl 1 (lvC (levF s))),(5,.rop [.sl 2 (s.map tyC)]),(11,.ptr bw 0),(14,.map (some bh)),(15,x.2),(50,.sl 6 (L.map tuC)),(51,.int .i64 L.length),(52,.int .i64 i),(78,.agg [.str t.o.ty,.str t.o.id,.str t.s.o.ty,.str t.s.o.id]),(79,.int .i64 x.1)])
    (fun x S'=>x.1≤2∧∃ T',KnI s who S bw bo br bk bh (ofL (L.take (i+1))) x.2 T' S'∧T'.length≤1+2 * i+x.1∧(∀ y∈T,y∈T')∧(0<x.1→t.o∈T')) (fun x=>2-x.1) (0,tv) ⟨by dsimp only;omega,T,n9,by dsimp only;omega,fun y hy=>hy,fun h=>by dsimp only at h;omega⟩ rfl ?_
   rintro ⟨j,tv2⟩ S10 ⟨hj,T2,n10,hl2,hs2,hm2⟩ kk2 hkk2
   dsimp only at hj n10 hl2 hs2 hm2 ⊢
   have fin:∀ (x:Ob) (tv3:AV) (S11:q00),j<2→(j=0→x=t.o)→KnI s who S bw bo br bk bh (ofL (L.take (i+1))) tv3 (addT T2 x) S11→C57_5 (PostK s L who S) kk kk2 (.sl 1 (lvC (levF s))) (.rop [.sl 2 (s.map tyC)]) (.ptr bw 0) (.map (some bh)) tv3 (.sl 6 (L.map tuC)) (.int .i64 L.length) (.int .i64 i) (.agg [.str t.o.ty,.str t.o.id,.str t.s.o.ty,.str t.s.o.id]) (.int .i64 j) S11:=by
    intro x tv3 S11 hj2 hx n11
    (try simp only [rwp,zA,zB,zC,zD,zE,zF,zG,zH,zI,rwb,reduceIte,C57_5])
    (simp (disch:=omega) only [q07])
    have:=@addT_len T2 x
    refine q09 rfl (hkk2 (j+1,tv3) _ ⟨by dsimp only;omega,_,n11,by dsimp only;omega,fun y hy=>addT_mem.2 (.inl (hs2 y hy)),fun _=>?_⟩ (by dsimp only;omega))
    by_cases e:j=0
    ·rw [hx e];exact addT_mem.2 (.inr rfl)
    ·exact addT_mem.2 (.inl (hm2 (by omega)))
   have j3:j=0∨j=1∨j=2:=by omega
   rcases j3 with e | e | e
   ·(try simp only [rwp,zA,zB,zC,zD,zE,zF,zG,zH,zI,rwb,reduceIte,C57_4,decide_eq_true (show (j:Int)<2 by omega)])
    refine ix_two0 e ?_
    (try simp only [rwp,zA,zB,zC,zD,zE,zF,zG,zH,zI,rwb,reduceIte])
    exact n10.add (by omega) t.o fun tv3 S11 n11=>fin t.o tv3 S11 (by omega) (fun _=>rfl) n11
   ·(try simp only [rwp,zA,zB,zC,zD,zE,zF,zG,zH,zI,rwb,reduceIte,C57_4,decide_eq_true (show (j:Int)<2 by omega)])
    refine ix_two1 e ?_
    (try simp only [rwp,zA,zB,zC,zD,zE,zF,zG,zH,zI,rwb,reduceIte])
    exact n10.add (by omega) t.s.o fun tv3 S11 n11=>fin t.s.o tv3 S11 (by omega) (fun h=>by omega) n11
   ·(try simp only [rwp,zA,zB,zC,zD,zE,zF,zG,zH,zI,rwb,reduceIte,C57_4,decide_eq_false (show ¬ (j:Int)<2 by omega)])
    (simp (disch:=omega) only [q07])
    refine q09 rfl (hkk (i+1,tv2) _ ⟨by dsimp only;omega,T2,n10,by dsimp only;omega,fun j' u hj' hu=>?_⟩ (by dsimp only;omega))
    dsimp only at hj'
    rcases Nat.lt_succ_iff_lt_or_eq.1 hj' with h1 | rfl
    ·exact hs2 _ (hmem j' u h1 hu)
    ·rw [ht] at hu;cases hu;exact hm2 (by omega)
  ·have e:i=L.length:=by omega
   subst e
   clear hkk
   rw [List.take_length] at n8
   have q:=c_grank R.os R.c S8
   simp only [scA] at q
   (try simp only [rwp,zA,zB,zC,zD,zE,zF,zG,zH,zI,rwb,reduceIte])
   refine q1b q ?_
   rintro ae S9 ⟨bl,m,rfl,s9,hbl,lv9,hm,hup⟩
   dsimp only
   (try simp only [rwp,zA,zB,zC,zD,zE,zF,zG,zH,zI,rwb,reduceIte])
   intro bc hbc
   (try simp only [rwp,zA,zB,zC,zD,zE,zF,zG,zH,zI,rwb,reduceIte])
   obtain ⟨es9,clk9,hof⟩:=n8.of
   have hT:∀ n x,x∈(envL s L who).of n→n.o∈T:=by
    intro n x hx
    obtain ⟨t,ht,rfl⟩:=List.mem_map.1 hx
    unfold ofF at ht
    simp only [List.mem_filter,Bool.and_eq_true,decide_eq_true_eq] at ht
    obtain ⟨j,hj⟩:=List.getElem?_of_mem ht.1
    have:=hmem j t (List.getElem?_eq_some_iff.1 hj).1 hj
    rw [ht.2.1] at this
    exact this
   have neW8:∀ {c:Nat},sget S8 c=none→c≠bw∧c≠br∧c≠bk∧c≠bo:=by
    intro c hc
    refine ⟨?_,?_,?_,?_⟩
    ·rintro rfl;exact q6x n8.w hc
    ·rintro rfl;exact n8.rl.is hc
    ·rintro rfl;rw [n8.kn] at hc;cases hc
    ·rintro rfl;rw [hof.map] at hc;cases hc
   obtain ⟨l1,l2,l3,l4⟩:=neW8 hbl
   have hbc8:sget S8 bc=none:=Sub.none s9 hbc
   obtain ⟨c1,c2,c3,c4⟩:=neW8 hbc8
   have hcl:bc≠bl:=by rintro rfl;exact lv9.is hbc
   obtain ⟨xr,xrc,hxr,hxr2,hxr3⟩:=id n8.rl
   obtain ⟨xl,xlc,hxl,hxl2,hxl3⟩:=id lv9
   have nbl:sget S bl=none:=Sub.none n8.sub hbl
   have nbc:sget S bc=none:=Sub.none n8.sub hbc8
   let S1:q00:=supd (supd (supd (supd (supd (supd S bw (.cells tyGw (gwC bo br bk who) 5)) br (.map MS xr xrc)) bk (.map MD [] 0)) bl (.map MS xl xlc)) bc (.cells 3 [.int .i64 0] 1)) bo (.map MD (frzM (ofL L) es9) clk9)
   have g1:∀ c,sget S1 c=if bo=c then some (.map MD (frzM (ofL L) es9) clk9) else if bc=c then some (.cells 3 [.int .i64 0] 1) else if bl=c then some (.map MS xl xlc) else if bk=c then some (.map MD [] 0) else if br=c then some (.map MS xr xrc) else if bw=c then some (.cells tyGw (gwC bo br bk who) 5) else sget S c:=fun c=>rfl
   have sub1:Sub S S1:=Sub.supd hbo (Sub.supd nbc (Sub.supd nbl (Sub.supd hbk' (Sub.supd hbr' (Sub.supd hbw' (Sub.refl _))))))
   have hcur:∀ c,sget (supd S9 bc (.cells 3 [.int .i64 0] 1)) c=if bc=c then some (.cells 3 [.int .i64 0] 1) else sget S9 c:=fun c=>rfl
   have hin:∀ b,sget S1 b≠none→b=bo∨(b=bc∨b=bl∨KsG bw br bk bh tv b)∨sget S b≠none:=by
    intro b hb
    rw [g1] at hb
    split at hb
    ·rename_i e;exact .inl e.symm
    ·split at hb
     ·rename_i e;exact .inr (.inl (.inl e.symm))
     ·split at hb
      ·rename_i e;exact .inr (.inl (.inr (.inl e.symm)))
      ·split at hb
       ·rename_i e;exact .inr (.inl (.inr (.inr (.inr (.inr (.inl e.symm))))))
       ·split at hb
        ·rename_i e;exact .inr (.inl (.inr (.inr (.inr (.inl e.symm)))))
        ·split at hb
         ·rename_i e;exact .inr (.inl (.inr (.inr (.inl e.symm))))
         ·exact .inr (.inr hb)
   have hof9:OfM S (supd S9 bc (.cells 3 [.int .i64 0] 1)) 39 bo (fun b=>b=bc∨b=bl∨KsG bw br bk bh tv b) (ofL L) es9 clk9:=by
    refine hof.more (s9.trans fun c o hc=>?_) (fun c hc=>?_) fun c hc=>?_
    ·rw [hcur,if_neg (q0o hbc hc)];exact hc
    ·rcases hc with rfl | rfl | hc
     ·exact .inr hbc8
     ·exact .inr hbl
     ·exact .inl hc
    ·rw [hcur]
     rcases hc with rfl | rfl | hc
     ·exact ⟨c4,by rw [if_pos rfl];simp⟩
     ·exact ⟨l4,by rw [if_neg hcl];exact lv9.is⟩
     ·refine ⟨(hof.ks c hc).1,?_⟩
      split
      ·simp
      ·cases ho:sget S8 c with
       | none=>exact absurd ho (hof.ks c hc).2
       | some o=>rw [s9 c o ho];simp
   have hlst:LstN S1 (supd S9 bc (.cells 3 [.int .i64 0] 1)) tyOb 2 tv (T.map obC):=by
    obtain ⟨hr,⟨rfl,e⟩ | ⟨b,cap,rfl,q1,q2,q3⟩⟩:=n8.tl
    ·exact ⟨hr,.inl ⟨rfl,e⟩⟩
    ·refine ⟨hr,.inr ⟨b,cap,rfl,?_,?_,q3⟩⟩
     ·rw [g1,if_neg (n8.ta bo (by simp) b _ _ _ rfl),if_neg (by rintro rfl;rw [q2] at hbc8;cases hbc8),if_neg (by rintro rfl;rw [q2] at hbl;cases hbl),if_neg (n8.ta bk (by simp) b _ _ _ rfl),if_neg (n8.ta br (by simp) b _ _ _ rfl),if_neg (n8.ta bw (by simp) b _ _ _ rfl)]
      exact q1
     ·rw [hcur,if_neg (by rintro rfl;rw [q2] at hbc8;cases hbc8)]
      exact s9 _ _ q2
   refine LoopP.frz (S1:=S1) (l':=[(11,.ptr bw 0),(15,.sl 2 (T.map obC)),(21,.rop [.map (some bl),.int .i64 m]),(22,.ptr bc 0)]) ?_ (.cons (.same _) (.cons (Fr.lst hlst) (.cons (.same _) (.cons (.same _) .nil)))) (known_3 (bo:=bo) (br:=br) (bk:=bk) R hm hup ?_ ?_ ?_ (by omega) hT)
   ·intro b o' hb
    rw [g1] at hb
    split at hb
    ·rename_i e;subst e;cases hb;exact ⟨_,hof9.map,hof9.fr hin⟩
    ·split at hb
     ·rename_i e;subst e;cases hb;exact ⟨_,by rw [hcur,if_pos rfl],.same _⟩
     ·rename_i hbn
      have hn:∀ {o:AObj},sget S8 b=some o→sget (supd S9 bc (.cells 3 [.int .i64 0] 1)) b=some o:=fun h=>by rw [hcur,if_neg hbn];exact s9 b _ h
      split at hb
      ·rename_i e;subst e;cases hb;exact ⟨_,by rw [hcur,if_neg hbn];exact mapObj_some.1 hxl,.same _⟩
      ·split at hb
       ·rename_i e;subst e;cases hb;exact ⟨_,hn n8.kn,.same _⟩
       ·split at hb
        ·rename_i e;subst e;cases hb;exact ⟨_,hn (mapObj_some.1 hxr),.same _⟩
        ·split at hb
         ·rename_i e;subst e;cases hb;exact ⟨_,hn (objAt_some.1 n8.w),.same _⟩
         ·exact ⟨_,hn (n8.sub b o' hb),.same _⟩
   ·have hfk:∀ x∈frzM (ofL L) es9,∃ n,x.1=ndA n:=by
     intro x hx
     unfold frzM at hx
     obtain ⟨y,hy,rfl⟩:=List.mem_map.1 hx
     exact hof.key y hy
    have hofA:∀ m,ofA ((envL s L who).of m)=(mget es9 (ndA m)).map fun _=>AV.sl 3 (ofL L m):=by
     intro m
     unfold ofA
     cases hm:mget es9 (ndA m) with
     | none=>
      have:=hof.no m hm
      unfold ofL at this
      rw [List.map_eq_nil_iff] at this
      rw [show (envL s L who).of m=(ofF L m).map Tu.s from rfl,this]
      rfl
     | some v=>
      have:=(hof.yes m v hm).1
      unfold ofL at this
      rw [if_neg fun h=>this (by rw [show (ofF L m).map Tu.s=(envL s L who).of m from rfl,h];rfl)]
      rfl
    refine ⟨objAt_some.2 ?_,⟨frzM (ofL L) es9,clk9,mapObj_some.2 (by rw [g1,if_pos rfl]),fun x hx=>?_,fun m=>?_⟩,⟨xr,xrc,mapObj_some.2 ?_,hxr2,hxr3⟩,⟨xl,xlc,mapObj_some.2 ?_,hxl2,hxl3⟩,⟨[],0,⟨?_,fun x hx=>(by cases hx),by simp,fun x hx=>(by cases hx),fun n=>by simp [q5h]⟩⟩,Ne.symm dwk,dko,dkr,Ne.symm l3,fun n=>?_,sub1,hbk'⟩
    ·rw [g1,if_neg (Ne.symm dwo),if_neg c1,if_neg l1,if_neg (Ne.symm dwk),if_neg (Ne.symm dwr),if_pos rfl];rfl
    ·obtain ⟨m,hm⟩:=hfk x hx
     rw [hm]
     exact ke_nd.ok m
    ·rw [mget_frz hof.key];exact (hofA m).symm
    ·rw [g1,if_neg (Ne.symm dro),if_neg c2,if_neg l2,if_neg dkr,if_pos rfl]
    ·rw [g1,if_neg (Ne.symm l4),if_neg hcl,if_pos rfl]
    ·rw [g1,if_neg (Ne.symm dko),if_neg c3,if_neg l3,if_pos rfl]
    ·show ((ofF L n).map Tu.s).length≤1125899906842624
     rw [List.length_map]
     exact Nat.le_trans (List.length_filter_le _ _) (Nat.le_trans hL (by decide))
   ·rw [g1,if_neg (Ne.symm c4),if_pos rfl]
   ·exact Ne.symm c3
end
section
variable {α:Type} {lt:α→α→Bool}
structure StOk (lt:α→α→Bool):Prop where
 ok:LtOk lt
 tot:∀ x y,lt x y=false→lt y x=false→x=y
theorem StOk.irr (h:StOk lt) (x:α):lt x x=false:=Le.refl h.ok x
theorem StOk.le_lt (h:StOk lt) {x y z:α} (h1:lt y x=false) (h2:lt y z=true):lt x z=true:=by
 cases e:lt x z with
 | true=>rfl
 | false=>
  have:=h.ok.tr z x y e h1
  rw [h2] at this
  cases this
theorem StOk.trans (h:StOk lt) {x y z:α} (h1:lt x y=true) (h2:lt y z=true):lt x z=true:=h.le_lt (h.ok.asy _ _ h1) h2
def Asc (lt:α→α→Bool) (l:List α):Prop:=l.Pairwise fun x y=>lt x y=true
theorem Asc.uniq (h:StOk lt):∀ {l m:List α},Asc lt l→Asc lt m→(∀ x,x∈l↔x∈m)→l=m
 | [],[],_,_,_=>rfl
 | [],b :: m,_,_,hm=>by have:=(hm b).2 (by simp);cases this
 | a :: l,[],_,_,hm=>by have:=(hm a).1 (by simp);cases this
 | a :: l,b :: m,ha,hb,hm=>by
  obtain ⟨ha1,ha2⟩:=List.pairwise_cons.1 ha
  obtain ⟨hb1,hb2⟩:=List.pairwise_cons.1 hb
  have hab:a=b:=by
   rcases List.mem_cons.1 ((hm a).1 (by simp)) with e | e
   ·exact e
   ·rcases List.mem_cons.1 ((hm b).2 (by simp)) with e' | e'
    ·exact e'.symm
    ·have h1:=hb1 a e
     have h2:=ha1 b e'
     rw [h.ok.asy _ _ h2] at h1
     cases h1
  subst hab
  rw [Asc.uniq h (l:=l) (m:=m) ha2 hb2 fun x=>?_]
  constructor
  ·intro hx
   rcases List.mem_cons.1 ((hm x).1 (List.mem_cons_of_mem _ hx)) with e | e
   ·subst e
    have:=ha1 x hx
    rw [h.irr] at this
    cases this
   ·exact e
  ·intro hx
   rcases List.mem_cons.1 ((hm x).2 (List.mem_cons_of_mem _ hx)) with e | e
   ·subst e
    have:=hb1 x hx
    rw [h.irr] at this
    cases this
   ·exact e
variable [DecidableEq α]
def dd (u:Nat→α):Nat→List α
 | 0=>[]
 | i+1=>if 0<i∧u i=u (i-1) then dd u i else dd u i++[u i]
theorem mem_dd {u:Nat→α}:∀ {n:Nat} {z:α},z∈dd u n↔∃ i,i<n∧u i=z
 | 0,z=>by simp [dd]
 | n+1,z=>by
  have ih:=mem_dd (u:=u) (n:=n) (z:=z)
  unfold dd
  split
  ·rename_i h
   rw [ih]
   constructor
   ·rintro ⟨i,h1,h2⟩;exact ⟨i,by omega,h2⟩
   ·rintro ⟨i,h1,h2⟩
    by_cases e:i=n
    ·subst e;exact ⟨i-1,by omega,by rw [← h.2];exact h2⟩
    ·exact ⟨i,by omega,h2⟩
  ·rw [List.mem_append,List.mem_singleton,ih]
   constructor
   ·rintro (⟨i,h1,h2⟩ | h2)
    ·exact ⟨i,by omega,h2⟩
    ·exact ⟨n,by omega,h2.symm⟩
   ·rintro ⟨i,h1,h2⟩
    by_cases e:i=n
    ·subst e;exact .inr h2.symm
    ·exact .inl ⟨i,by omega,h2⟩
theorem dd_asc (h:StOk lt) {u:Nat→α}:∀ {n:Nat},Srt lt 0 n u→Asc lt (dd u n)
 | 0,_=>List.Pairwise.nil
 | n+1,hs=>by
  have ih:=dd_asc h (u:=u) (n:=n) fun p q h1 h2 h3=>hs p q h1 h2 (by omega)
  unfold dd
  split
  ·exact ih
  ·rename_i hne
   refine List.pairwise_append.2 ⟨ih,List.pairwise_singleton _ _,fun z hz y hy=>?_⟩
   rw [List.mem_singleton] at hy
   subst hy
   obtain ⟨i,h1,rfl⟩:=mem_dd.1 hz
   have hn:0<n:=by omega
   have hlt:lt (u (n-1)) (u n)=true:=by
    cases e:lt (u (n-1)) (u n) with
    | true=>rfl
    | false=>exact absurd ⟨hn,(h.tot _ _ e (hs (n-1) n (by omega) (by omega) (by omega))).symm⟩ hne
   by_cases e:i=n-1
   ·rw [e];exact hlt
   ·exact h.le_lt (hs i (n-1) (by omega) (by omega) (by omega)) hlt
def insO (lt:α→α→Bool):List α→α→List α
 | [],x=>[x]
 | y :: r,x=>if lt y x=true then y :: insO lt r x else if y=x then y :: r else x :: y :: r
theorem mem_insO {x z:α}:∀ {l:List α},z∈insO lt l x↔z∈l∨z=x
 | []=>by simp [insO]
 | y :: r=>by
  have ih:=mem_insO (x:=x) (z:=z) (l:=r)
  unfold insO
  split
  ·rw [List.mem_cons,List.mem_cons,ih,or_assoc]
  ·split
   ·rename_i e
    subst e
    simp only [List.mem_cons]
    constructor
    ·exact .inl
    ·rintro (h | h)
     ·exact h
     ·exact .inl h
   ·simp only [List.mem_cons]
    constructor
    ·rintro (h | h)
     ·exact .inr h
     ·exact .inl h
    ·rintro (h | h)
     ·exact .inr h
     ·exact .inl h
theorem insO_len {x:α}:∀ {l:List α},(insO lt l x).length≤l.length+1
 | []=>by simp [insO]
 | y :: r=>by
  have ih:=insO_len (x:=x) (l:=r)
  unfold insO
  split
  ·simp only [List.length_cons];omega
  ·split<;>simp
theorem insO_asc (h:StOk lt) {x:α}:∀ {l:List α},Asc lt l→Asc lt (insO lt l x)
 | [],_=>List.pairwise_singleton _ _
 | y :: r,hl=>by
  obtain ⟨h1,h2⟩:=List.pairwise_cons.1 hl
  have ih:=insO_asc h (x:=x) (l:=r) h2
  unfold insO
  split
  ·rename_i hyx
   refine List.pairwise_cons.2 ⟨fun z hz=>?_,ih⟩
   rcases mem_insO.1 hz with hz | rfl
   ·exact h1 z hz
   ·exact hyx
  ·rename_i hyx
   split
   ·exact hl
   ·rename_i hne
    have hlt:lt x y=true:=by
     cases e:lt x y with
     | true=>rfl
     | false=>exact absurd (h.tot _ _ (by simpa using hyx) e) hne
    refine List.pairwise_cons.2 ⟨fun z hz=>?_,hl⟩
    rcases List.mem_cons.1 hz with rfl | hz
    ·exact hlt
    ·exact h.trans hlt (h1 z hz)
def srtO (lt:α→α→Bool) (l:List α):List α:=l.foldl (insO lt) []
theorem srtO_snoc {l:List α} {x:α}:srtO lt (l++[x])=insO lt (srtO lt l) x:=by
 unfold srtO
 rw [List.foldl_append]
 rfl
theorem srtO_ok (h:StOk lt):∀ (l:List α) (n:Nat),l.length=n→Asc lt (srtO lt l)∧(∀ z,z∈srtO lt l↔z∈l)∧(srtO lt l).length≤l.length:=by
 intro l n
 induction n generalizing l with
 | zero=>
  intro hl
  have:l=[]:=List.length_eq_zero_iff.1 hl
  subst this
  exact ⟨List.Pairwise.nil,fun z=>by simp [srtO],Nat.le_refl _⟩
 | succ n ih=>
  intro hl
  rcases List.eq_nil_or_concat l with rfl | ⟨r,x,e⟩
  ·cases hl
  ·rw [e] at hl ⊢
   simp only [List.concat_eq_append,List.length_append,List.length_singleton] at hl ⊢
   obtain ⟨h1,h2,h3⟩:=ih r (by omega)
   rw [srtO_snoc]
   refine ⟨insO_asc h h1,fun z=>?_,Nat.le_trans insO_len (by omega)⟩
   rw [mem_insO,h2,List.mem_append,List.mem_singleton]
end
set_option maxRecDepth 4000
abbrev cmpB (a b:ByteArray):Int:=Lib.compareBytes a.data.toList b.data.toList
theorem cb_anti:∀ (l m:List UInt8),Lib.compareBytes l m =-Lib.compareBytes m l
 | [],[]=>rfl
 | [],_ :: _=>rfl
 | _ :: _,[]=>rfl
 | a :: r,b :: q=>by
  have ih:=cb_anti r q
  unfold Lib.compareBytes
  by_cases h1:a<b
  ·have h2:¬ b<a:=by rw [UInt8.lt_iff_toNat_lt] at h1 ⊢;omega
   rw [if_pos h1,if_neg h2,if_pos h1]
  ·by_cases h2:b<a
   ·rw [if_neg h1,if_pos h2,if_pos h2];rfl
   ·rw [if_neg h1,if_neg h2,if_neg h2,if_neg h1];exact ih
theorem cb_eq:∀ (l m:List UInt8),Lib.compareBytes l m=0→l=m
 | [],[],_=>rfl
 | [],_ :: _,h=>by cases h
 | _ :: _,[],h=>by cases h
 | a :: r,b :: q,h=>by
  have ih:=cb_eq r q
  unfold Lib.compareBytes at h
  by_cases h1:a<b
  ·rw [if_pos h1] at h;cases h
  ·by_cases h2:b<a
   ·rw [if_neg h1,if_pos h2] at h;cases h
   ·rw [if_neg h1,if_neg h2] at h
    have:a=b:=by
     rw [UInt8.lt_iff_toNat_lt] at h1 h2
     exact UInt8.toNat_inj.1 (by omega)
    rw [this,ih h]
theorem cb_trans:∀ (l m k:List UInt8),Lib.compareBytes l m≤0→Lib.compareBytes m k≤0→Lib.compareBytes l k≤0
 | [],_,[],_,_=>Int.le_refl 0
 | [],_,_ :: _,_,_=>by show (-1:Int)≤0;decide
 | a :: r,[],_,h,_=>by
  have h:(1:Int)≤0:=h
  omega
 | a :: r,b :: q,[],_,h=>by
  have h:(1:Int)≤0:=h
  omega
 | a :: r,b :: q,c :: p,h1,h2=>by
  have ih:=cb_trans r q p
  unfold Lib.compareBytes at h1 h2 ⊢
  simp only [UInt8.lt_iff_toNat_lt] at h1 h2 ⊢
  by_cases x1:a.toNat<b.toNat
  ·by_cases x2:b.toNat<c.toNat
   ·rw [if_pos (by omega)];decide
   ·by_cases x3:c.toNat<b.toNat
    ·rw [if_neg x2,if_pos x3] at h2;exact absurd h2 (by decide)
    ·rw [if_pos (by omega)];decide
  ·by_cases x3:b.toNat<a.toNat
   ·rw [if_neg x1,if_pos x3] at h1;exact absurd h1 (by decide)
   ·rw [if_neg x1,if_neg x3] at h1
    by_cases x2:b.toNat<c.toNat
    ·rw [if_pos (by omega)];decide
    ·by_cases x4:c.toNat<b.toNat
     ·rw [if_neg x2,if_pos x4] at h2;exact absurd h2 (by decide)
     ·rw [if_neg x2,if_neg x4] at h2
      rw [if_neg (by omega),if_neg (by omega)]
      exact ih h1 h2
def cmpO (a b:Ob):Int:=if cmpB a.ty b.ty=0 then cmpB a.id b.id else cmpB a.ty b.ty
def ltO (a b:Ob):Bool:=decide (cmpO a b<0)
theorem cmpB_eq {a b:ByteArray} (h:cmpB a b=0):a=b:=by
 have:=cb_eq _ _ h
 obtain ⟨⟨la⟩⟩:=a
 obtain ⟨⟨lb⟩⟩:=b
 have e:la=lb:=this
 rw [e]
theorem q56 (a b:Ob):cmpO a b =-cmpO b a:=by
 have h1:=cb_anti a.ty.data.toList b.ty.data.toList
 have h2:=cb_anti a.id.data.toList b.id.data.toList
 unfold cmpO cmpB
 split<;>split<;>omega
theorem cmpO_eq {a b:Ob} (h:cmpO a b=0):a=b:=by
 unfold cmpO at h
 split at h
 ·rename_i h1
  cases a;cases b
  simp only at h h1
  rw [cmpB_eq h,cmpB_eq h1]
 ·contradiction
theorem cmpO_trans {a b c:Ob} (h1:cmpO a b≤0) (h2:cmpO b c≤0):cmpO a c≤0:=by
 unfold cmpO at h1 h2 ⊢
 by_cases e1:cmpB a.ty b.ty=0
 ·rw [if_pos e1] at h1
  have e:=cmpB_eq e1
  rw [e]
  by_cases e2:cmpB b.ty c.ty=0
  ·rw [if_pos e2] at h2 ⊢
   exact cb_trans _ _ _ h1 h2
  ·rw [if_neg e2] at h2 ⊢
   exact h2
 ·rw [if_neg e1] at h1
  by_cases e2:cmpB b.ty c.ty=0
  ·have e:=cmpB_eq e2
   rw [← e,if_neg e1]
   exact h1
  ·rw [if_neg e2] at h2
   have h3:cmpB a.ty c.ty≤0:=cb_trans _ _ _ h1 h2
   by_cases e3:cmpB a.ty c.ty=0
   ·exfalso
    have e:=cmpB_eq e3
    rw [← e] at h2
    have:=cb_anti a.ty.data.toList b.ty.data.toList
    unfold cmpB at h1 h2 e1 e2
    omega
   ·rw [if_neg e3];exact h3
theorem stO:StOk ltO:=by
 refine ⟨⟨fun x y h=>?_,fun x y z h1 h2=>?_⟩,fun x y h1 h2=>?_⟩
 ·unfold ltO at h ⊢
  have:=q56 x y
  rw [decide_eq_true_eq] at h
  rw [decide_eq_false_iff_not]
  omega
 ·unfold ltO at h1 h2 ⊢
  rw [decide_eq_false_iff_not] at h1 h2 ⊢
  have a1:=q56 y x
  have a2:=q56 z y
  have a3:=q56 z x
  have:=cmpO_trans (a:=x) (b:=y) (c:=z) (by omega) (by omega)
  omega
 ·unfold ltO at h1 h2
  rw [decide_eq_false_iff_not] at h1 h2
  have:=q56 x y
  exact cmpO_eq (by omega)
theorem c_cmpstring (a b:ByteArray):AFun PG 166 [.str a,.str b] (.int .i64 (cmpB a b)):=by
 intro S R w vs hs hv
 obtain ⟨l⟩:=vs
 match l,hv with
 | [],hv=>cases hv.1
 | [_],hv=>cases hv.1
 | _ :: _ :: _ :: _,hv=>cases hv.1
 | [x,y],hv=>
  have h1:RV R w (.str a) x:=hv.head
  have h2:RV R w (.str b) y:=hv.tail.head
  cases h1
  cases h2
  refine .inr ⟨_,w,?_,R,S,.ret (.int .i64 (cmpB a b)),.int _ _,⟨rfl,rfl⟩,hs,Step.refl _ _ _⟩
  rw [run_callFunc_extern Go.Proofs.Tryz.func166 (by kernel_rfl) (by kernel_rfl) (by kernel_rfl) (e:=Extern.BytealgCompare.compare) (by kernel_rfl),Lib.run_compareString]
  rfl
theorem c_CompareString (a b:ByteArray):AFun PG nrx117 [.str a,.str b] (.int .i64 (cmpB a b)):=by
 intro S
 refine wx117 ?_
 unfold Bx117
 refine q05 (c_cmpstring a b) ?_
 exact q03 ⟨rfl,rfl⟩
theorem c_Compare (a b:ByteArray):AFun PG nrx62 [.str a,.str b] (.int .i64 (cmpB a b)):=by
 intro S
 refine wx62 ?_
 unfold Bx62
 refine q05 (c_CompareString a b) ?_
 exact q03 ⟨rfl,rfl⟩
theorem c_Or2 (x y:Int):AFun PG nrx61 [.sl 1 [[.int .i64 x],[.int .i64 y]]] (.int .i64 (if x=0 then y else x)):=by
 intro S
 refine wx61 ?_
 unfold Bx61
 (try simp only [rwp,zA,zB,zC,zD,zE,zF,zG,zH,zI,rwb,reduceIte,List.length_cons,List.length_nil])
 refine LoopP.introS (fun i:Nat=>[(3,.int .i64 0),(6,.sl 1 [[.int .i64 x],[.int .i64 y]]),(7,.int .i64 2),(8,.int .i64 i)]) (fun i S'=>S'=S∧i≤2∧(0<i→x=0)∧(1<i→y=0)) (fun i=>2-i) 0 ⟨rfl,by omega,fun h=>by omega,fun h=>by omega⟩ rfl ?_
 rintro i S' ⟨rfl,hi,h1,h2⟩ kk hkk
 (try simp only [rwp,zA,zB,zC,zD,zE,zF,zG,zH,zI,rwb,reduceIte,C61_1])
 (refine q02 (fun hlt=>?_) (fun hlt=>?_)<;>(try simp only [hlc] at hlt))
 ·have h01:i=0∨i=1:=by omega
  have step:(i=0→x=0)→(i=1→y=0)→rcW kk [(3,.int .i64 0),(6,.sl 1 [[.int .i64 x],[.int .i64 y]]),(7,.int .i64 2),(8,.int .i64 (IntKind.i64.wrap (↑i+1)))] S':=by
   intro q1 q2
   (simp (disch:=omega) only [q07])
   exact q09 rfl (hkk (i+1) _ ⟨rfl,by omega,fun _=>h01.elim q1 (fun e=>h1 (by omega)),fun h=>q2 (by omega)⟩ (by omega))
  rcases h01 with e | e
  ·subst e
   (try simp only [rwp,zA,zB,zC,zD,zE,zF,zG,zH,zI,rwb,reduceIte,List.getElem?_cons_zero])
   cases a1:decide (x=0)
   ·(try simp only [rwp,zA,zB,zC,zD,zE,zF,zG,zH,zI,rwb,reduceIte])
    exact q03 ⟨by rw [if_neg (of_decide_eq_false a1)],rfl⟩
   ·(try simp only [rwp,zA,zB,zC,zD,zE,zF,zG,zH,zI,rwb,reduceIte])
    exact step (fun _=>of_decide_eq_true a1) (fun h=>by omega)
  ·subst e
   have hx:=h1 (by omega)
   (try simp only [rwp,zA,zB,zC,zD,zE,zF,zG,zH,zI,rwb,reduceIte,List.getElem?_cons_zero,List.getElem?_cons_succ])
   cases a1:decide (y=0)
   ·(try simp only [rwp,zA,zB,zC,zD,zE,zF,zG,zH,zI,rwb,reduceIte])
    exact q03 ⟨by rw [if_pos hx],rfl⟩
   ·(try simp only [rwp,zA,zB,zC,zD,zE,zF,zG,zH,zI,rwb,reduceIte])
    exact step (fun h=>by omega) (fun _=>of_decide_eq_true a1)
 ·(try simp only [rwp,zA,zB,zC,zD,zE,zF,zG,zH,zI,rwb,reduceIte])
  have hx:=h1 (by omega)
  have hy:=h2 (by omega)
  exact q03 ⟨by rw [if_pos hx,hy],rfl⟩
theorem c_gcmp (a b:Ob):AFun PG nrx60 [.agg (obC a),.agg (obC b)] (.int .i64 (cmpO a b)):=by
 intro S
 refine wx60 ?_
 unfold Bx60
 (try simp only [rwp,zA,zB,zC,zD,zE,zF,zG,zH,zI,rwb,reduceIte,obC])
 refine q05 (c_Compare a.ty b.ty) ?_
 (try simp only [rwp,zA,zB,zC,zD,zE,zF,zG,zH,zI,rwb,reduceIte])
 refine q05 (c_Compare a.id b.id) ?_
 (try simp only [rwp,zA,zB,zC,zD,zE,zF,zG,zH,zI,rwb,reduceIte])
 refine q05 (c_Or2 _ _) ?_
 exact q03 ⟨rfl,rfl⟩
set_option maxRecDepth 4000
structure Dat (D:AV) (pt:Nat→AV) (SS:(Nat→Ob)→q00) (n:Nat):Prop where
 ia:∀ {i:Nat} {x:Int} {K:AV→Prop},x=i→i<n→K (pt i)→iaW 2 D (.int .i64 x) K
 ld:∀ {v:Nat→Ob} {i:Nat} {K:AV→Prop},i<n→K (.agg (obC (v i)))→ldW (SS v) 2 true (pt i) K
 st:∀ {v:Nat→Ob} {i:Nat} {x:Ob} {KT:q00→Prop},i<n→KT (SS (upv v i x))→stW (SS v) 2 (pt i) (.agg (obC x)) KT
 ln:∀ {v:Nat→Ob} {K:AV→Prop},K (.int .i64 n)→lnW (SS v) 1 D K
 bd:n≤100000
 fr:∀ {v:Nat→Ob} {c:Nat} {X:AObj} {i:Nat} {K:AV→Prop},sget (SS v) c=none→i<n→K (.agg (obC (v i)))→ldW (supd (SS v) c X) 2 true (pt i) K
 fs:∀ {v:Nat→Ob} {c:Nat} {X:AObj} {i:Nat} {x:Ob} {KT:q00→Prop},sget (SS v) c=none→i<n→KT (supd (SS (upv v i x)) c X)→stW (supd (SS v) c X) 2 (pt i) (.agg (obC x)) KT
 fn:∀ {v w:Nat→Ob} {c:Nat},sget (SS v) c=none→sget (SS w) c=none
theorem supd_swap {S:q00} {b c:Nat} (h:b≠c) (x y:AObj):supd (supd S b x) c y=supd (supd S c y) b x:=by
 funext d
 unfold supd
 by_cases h1:c=d
 ·subst h1;simp [h]
 ·by_cases h2:b=d<;>simp [h1,h2]
theorem dat_own {S0:q00} {b n cap:Nat} (hn:n≤cap) (hb:n≤100000):Dat (.own b 0 n cap) (fun i=>.ptr b (i * 2)) (fun v=>supd S0 b (.cells tyOb (fl obC n v) (cap * 2))) n:=by
 have hlen:∀ x:Ob,(obC x).length=2:=fun x=>rfl
 have ne:∀ {v:Nat→Ob} {c:Nat},sget (supd S0 b (.cells tyOb (fl obC n v) (cap * 2))) c=none→b≠c:=by
  intro v c hc e
  rw [q01,if_pos e] at hc
  cases hc
 refine ⟨fun {i x K} e hi hk=>?_,fun {v i K} hi hk=>?_,fun {v i x KT} hi hk=>?_,fun {v K} hk=>?_,hb,fun {v c X i K} hc hi hk=>?_,fun {v c X i x KT} hc hi hk=>?_,fun {v w c} hc=>?_⟩
 ·subst e
  rw [q7y]
  refine ⟨by omega,by omega,?_⟩
  simpa using hk
 ·have hc:=q08 (q0j (S:=supd S0 b (.cells tyOb (fl obC n v) (cap * 2))) (b:=b) (t:=tyOb) (tot:=cap * 2) (cs:=fl obC n v))
  rw [q0x] at hc
  obtain ⟨rest,hd⟩:=fl_drop (v:=v) hlen hi
  rw [q7v,hc,q5m,hd,mkW_agg]
  exact hk
 ·have ho:=q0j (S:=S0) (b:=b) (t:=tyOb) (tot:=cap * 2) (cs:=fl obC n v)
  rw [q64,ho,q2z]
  refine ⟨rfl,?_,rfl,?_⟩
  ·rw [q1z hlen];omega
  ·rw [show q0a (.agg (obC x))=obC x from rfl,fl_fill hlen hi,q0x]
   exact hk
 ·rw [lnW_own];exact hk
 ·have hne:=ne hc
  have hc:=q08 (objAt_some.2 (show sget (supd (supd S0 b (.cells tyOb (fl obC n v) (cap * 2))) c X) b=some (.cells tyOb (fl obC n v) (cap * 2)) by rw [q01,if_neg (Ne.symm hne),q01,if_pos rfl]))
  obtain ⟨rest,hd⟩:=fl_drop (v:=v) hlen hi
  rw [q7v,hc,q5m,hd,mkW_agg]
  exact hk
 ·have hne:=ne hc
  have ho:=objAt_some.2 (show sget (supd (supd S0 b (.cells tyOb (fl obC n v) (cap * 2))) c X) b=some (.cells tyOb (fl obC n v) (cap * 2)) by rw [q01,if_neg (Ne.symm hne),q01,if_pos rfl])
  rw [q64,ho,q2z]
  refine ⟨rfl,?_,rfl,?_⟩
  ·rw [q1z hlen];omega
  ·rw [show q0a (.agg (obC x))=obC x from rfl,fl_fill hlen hi,supd_swap (Ne.symm hne),q0x]
   exact hk
 ·have hne:=ne hc
  rw [q01,if_neg hne] at hc ⊢
  exact hc
section
variable {D:AV} {pt:Nat→AV} {SS:(Nat→Ob)→q00} {n g:Nat} {c:Ob→Ob→Int}
abbrev fnG (g:Nat):AV:=.func (.func g) [] []
def ltC (c:Ob→Ob→Int) (x y:Ob):Bool:=decide (c x y<0)
theorem c_ins (hD:Dat D pt SS n) (hg:∀ x y,AFun PG g [.agg (obC x),.agg (obC y)] (.int .i64 (c x y))) (ho:LtOk (ltC c)) {a b:Nat} (hab:a≤b) (hb:b≤n) (v:Nat→Ob) :
  ACalls PG nrx156 [D,.int .i64 a,.int .i64 b,fnG g] (SS v) fun ae S'=>ae=.ret (.tup [])∧∃ w,S'=SS w∧Rng n a b v w∧Srt (ltC c) a b w:=by
 have hn:=hD.bd
 refine wx156 ?_
 unfold Bx156
 (try simp only [rwp,zA,zB,zC,zD,zE,zF,zG,zH,zI,rwb,reduceIte])
 (simp (disch:=omega) only [q07])
 refine LoopP.introS (fun i:Nat=>[(0,D),(1,.int .i64 a),(2,.int .i64 b),(3,fnG g),(8,.int .i64 i)]) (fun i S'=>a+1≤i∧i≤b+1∧∃ w,S'=SS w∧Rng n a b v w∧Srt (ltC c) a i w) (fun i=>b+1-i) (a+1)
  ⟨by omega,by omega,v,rfl,Rng.refl _ _ _ _,Srt.one (by omega)⟩ (by rfl) ?_
 rintro i S1 ⟨hi1,hi2,w,rfl,hr,hs⟩ kk hkk
 (try simp only [rwp,zA,zB,zC,zD,zE,zF,zG,zH,zI,rwb,reduceIte,C156_1])
 (refine q02 (fun hlt=>?_) (fun hlt=>?_)<;>(try simp only [hlc] at hlt))
 ·refine LoopP.introS (fun j:Nat=>[(0,D),(1,.int .i64 a),(2,.int .i64 b),(3,fnG g),(8,.int .i64 i),(9,.int .i64 j)]) (fun j S'=>∃ u,S'=SS u∧Rng n a b v u∧InsI (ltC c) a i j u) (fun j=>j) i
   ⟨w,rfl,hr,InsI.start hs (by omega)⟩ rfl ?_
  rintro j S2 ⟨u,rfl,hru,hu⟩ kk2 hkk2
  have h1:=hu.lo
  have h2:=hu.hi
  have stop:(j=a∨Le (ltC c) (u (j-1)) (u j))→rcW kk [(0,D),(1,.int .i64 a),(2,.int .i64 b),(3,fnG g),(8,.int .i64 (IntKind.i64.wrap (↑i+1)))] (SS u):=by
   intro hq
   (simp (disch:=omega) only [q07])
   exact q09 rfl (hkk (i+1) _ ⟨by omega,by omega,u,rfl,hru,hu.stop ho hq⟩ (by omega))
  (try simp only [rwp,zA,zB,zC,zD,zE,zF,zG,zH,zI,rwb,reduceIte,C156_2])
  cases a1:decide ((a:Int)<j)
  ·(try simp only [rwp,zA,zB,zC,zD,zE,zF,zG,zH,zI,rwb,reduceIte,C156_3])
   exact stop (.inl (by have:=of_decide_eq_false a1;omega))
  ·have haj:=of_decide_eq_true a1
   (try simp only [rwp,zA,zB,zC,zD,zE,zF,zG,zH,zI,rwb,reduceIte])
   refine hD.ia (i:=j) rfl (by omega) ?_
   (try simp only [rwp,zA,zB,zC,zD,zE,zF,zG,zH,zI,rwb,reduceIte])
   (simp (disch:=omega) only [q07])
   refine hD.ia (i:=j-1) (by omega) (by omega) ?_
   refine hD.ld (by omega) (hD.ld (by omega) ?_)
   refine q05 (hg _ _) ?_
   (try simp only [rwp,zA,zB,zC,zD,zE,zF,zG,zH,zI,rwb,reduceIte])
   cases a2:decide (c (u j) (u (j-1))<0)
   ·(try simp only [rwp,zA,zB,zC,zD,zE,zF,zG,zH,zI,rwb,reduceIte,C156_3])
    exact stop (.inr a2)
   ·(try simp only [rwp,zA,zB,zC,zD,zE,zF,zG,zH,zI,rwb,reduceIte,C156_3])
    (simp (disch:=omega) only [q07])
    refine hD.ia (i:=j-1) (by omega) (by omega) ?_
    refine hD.ia (i:=j) rfl (by omega) ?_
    refine hD.ld (by omega) (hD.ld (by omega) ?_)
    refine hD.ia (i:=j) rfl (by omega) ?_
    refine hD.st (by omega) ?_
    refine hD.ia (i:=j-1) (by omega) (by omega) ?_
    refine hD.st (by omega) ?_
    rw [sw_upv]
    (try simp only [rwp,zA,zB,zC,zD,zE,zF,zG,zH,zI,rwb,reduceIte])
    (try (simp (disch:=omega) only [q07]))
    have ej:(j:Int)-1=((j-1:Nat):Int):=by omega
    rw [ej]
    exact q09 rfl (hkk2 (j-1) _ ⟨_,rfl,hru.trans (Rng.sw (by omega) (by omega) (by omega) (by omega) hb),hu.step ho (by omega) a2⟩ (by omega))
 ·(try simp only [rwp,zA,zB,zC,zD,zE,zF,zG,zH,zI,rwb,reduceIte])
  exact q3t ⟨rfl,w,rfl,hr,fun p q h1 h2 h3=>hs p q h1 h2 (by omega)⟩
theorem c_pdq12 (hD:Dat D pt SS n) (hg:∀ x y,AFun PG g [.agg (obC x),.agg (obC y)] (.int .i64 (c x y))) (ho:LtOk (ltC c)) {a b:Nat} (hab:a≤b) (hb:b≤n) (h12:b≤a+12) (lim:Int) (v:Nat→Ob) :
  ACalls PG nrx115 [D,.int .i64 a,.int .i64 b,.int .i64 lim,fnG g] (SS v) fun ae S'=>ae=.ret (.tup [])∧∃ w,S'=SS w∧Rng n a b v w∧Srt (ltC c) a b w:=by
 have hn:=hD.bd
 refine wx115 ?_
 unfold Bx115
 refine LoopP.introS (fun _:Unit=>[(0,D),(1,.int .i64 a),(2,.int .i64 b),(3,.int .i64 lim),(4,fnG g),(10,.bool true),(11,.bool true)]) (fun _ S'=>S'=SS v) (fun _=>0) () rfl rfl ?_
 rintro _ S' rfl kk hkk
 (try simp only [rwp,zA,zB,zC,zD,zE,zF,zG,zH,zI,rwb,reduceIte,C115_1])
 (simp (disch:=omega) only [q07])
 (try simp only [rwp,zA,zB,zC,zD,zE,zF,zG,zH,zI,rwb,reduceIte,decide_eq_true (show (b:Int)-a≤12 by omega)])
 refine q1b (c_ins hD hg ho hab hb v) ?_
 rintro ae S1 ⟨rfl,w,rfl,h1,h2⟩
 dsimp only
 exact q3t ⟨rfl,w,rfl,h1,h2⟩
end
def SortOk (N:Nat):Prop:=∀ (D:AV) (pt:Nat→AV) (SS:(Nat→Ob)→q00) (n g:Nat) (c:Ob→Ob→Int),Dat D pt SS n→(∀ x y,AFun PG g [.agg (obC x),.agg (obC y)] (.int .i64 (c x y)))→LtOk (ltC c)→n≤N→∀ v:Nat→Ob,
 ACalls PG nrx59 [D,fnG g] (SS v) fun ae S'=>ae=.ret (.tup [])∧∃ w,S'=SS w∧Rng n 0 n v w∧Srt (ltC c) 0 n w
def len8:ByteArray:=⟨#[0,1,2,2,3,3,3,3,4,4,4,4,4,4,4,4,5,5,5,5,5,5,5,5,5,5,5,5,5,5,5,5,6,6,6,6,6,6,6,6,6,6,6,6,6,6,6,6,6,6,6,6,6,6,6,6,6,6,6,6,6,6,6,6,7,7,7,7,7,7,7,7,7,7,7,7,7,7,7,7,7,7,7,7,7,7,7,7,7,7,7,7,7,7,7,7,7,7,7,7,7,7,7,7,7,7,7,7,7,7,7,7,7,7,7,7,7,7,7,7,7,7,7,7,7,7,7,7,8,8,8,8,8,8,8,8,8,8,8,8,8,8,8,8,8,8,8,8,8,8,8,8,8,8,8,8,8,8,8,8,8,8,8,8,8,8,8,8,8,8,8,8,8,8,8,8,8,8,8,8,8,8,8,8,8,8,8,8,8,8,8,8,8,8,8,8,8,8,8,8,8,8,8,8,8,8,8,8,8,8,8,8,8,8,8,8,8,8,8,8,8,8,8,8,8,8,8,8,8,8,8,8,8,8,8,8,8,8,8,8,8,8,8,8,8,8,8,8,8,8,8,8,8,8,8,8]⟩
def lenF (n:Nat):Nat:=(len8.data.toList.getD n 0).toNat
theorem lenF_ok:∀ n:Fin 256,n.1<2 ^ lenF n.1∧(n.1=0∨2 ^ lenF n.1≤2 * n.1)∧lenF n.1≤8:=by decide +kernel
theorem c_Len64 {n:Nat} (hn:n<256):AFun PG nrx165 [.int .u64 n] (.int .i64 (lenF n)):=by
 intro S
 refine wx165 ?_
 unfold Bx165
 (try simp only [rwp,zA,zB,zC,zD,zE,zF,zG,zH,zI,rwb,reduceIte,C165_1,C165_2])
 rw [decide_eq_false (show ¬ (4294967296:Int)≤n by omega)]
 refine q3o ?_
 rw [decide_eq_false (show ¬ (65536:Int)≤n by omega)]
 refine q3o ?_
 rw [decide_eq_false (show ¬ (256:Int)≤n by omega)]
 refine q3o ?_
 have hb:len8[n]?=some (len8.data.toList.getD n 0).toNat.toUInt8:=by
  rw [q7e]
  have hl:n<len8.data.toList.length:=by show n<256;exact hn
  rw [List.getD_eq_getElem?_getD,List.getElem?_eq_getElem hl]
  simp
 have h8:lenF n≤8:=(lenF_ok ⟨n,hn⟩).2.2
 have hw:IntKind.u8.wrap (n:Int)=n:=(show ∀ n:Fin 256,IntKind.u8.wrap (n.1:Int)=n.1 by decide +kernel) ⟨n,hn⟩
 have hv:((len8.data.toList.getD n 0).toNat.toUInt8).toNat=lenF n:=by
  unfold lenF
  simp
 show C165_3 _ (.int .u64 n) (.int .i64 0) S
 unfold C165_3
 change (cvW .u8 (.int .u64 n) fun v21=>isW (.str len8) v21 fun v22=>_)
 (try simp only [rwp,zA,zB,zC,zD,zE,zF,zG,zH,zI,rwb,reduceIte,hw,hb])
 rw [hv]
 (simp (disch:=omega) only [q07])
 exact q03 ⟨by rw [Int.zero_add],rfl⟩
theorem c_Len {n:Nat} (hn:n<256):AFun PG nrx116 [.int .u64 n] (.int .i64 (lenF n)):=by
 intro S
 refine wx116 ?_
 unfold Bx116
 (try simp only [rwp,zA,zB,zC,zD,zE,zF,zG,zH,zI,rwb,reduceIte])
 refine q05 (c_Len64 hn) ?_
 exact q03 ⟨rfl,rfl⟩
theorem sort12:SortOk 12:=by
 intro D pt SS n g c hD hg ho hn v
 refine wx59 ?_
 unfold Bx59
 refine hD.ln ?_
 have hw:IntKind.u64.wrap (n:Int)=n:=by
  have:n<256:=by omega
  exact (show ∀ n:Fin 256,IntKind.u64.wrap (n.1:Int)=n.1 by decide +kernel) ⟨n,this⟩
 (try simp only [rwp,zA,zB,zC,zD,zE,zF,zG,zH,zI,rwb,reduceIte,hw])
 refine q05 (c_Len (by omega)) ?_
 have q:=c_pdq12 hD hg ho (a:=0) (b:=n) (by omega) (by omega) (by omega) (lenF n) v
 refine q1b q ?_
 rintro ae S1 ⟨rfl,w,rfl,h1,h2⟩
 dsimp only
 exact q3t ⟨rfl,w,rfl,h1,h2⟩
set_option maxRecDepth 4000
theorem q3k (x:Ob):(obC x).length=2:=rfl
theorem fl_two {n i:Nat} (hi:i<n) (v:Nat→Ob):∃ rest,(fl obC n v).drop (i * 2)=.str (v i).ty :: .str (v i).id :: rest:=fl_drop q3k hi
theorem c_Compact {S0 S:q00} {a:AV} {n:Nat} {u:Nat→Ob} (hs:Sub S0 S) (h:OwnL S0 S tyOb 2 obC a n u) (hb:n≤100000) :
  ACalls PG nrx63 [a] S fun ae S'=>∃ a',ae=.ret a'∧Sub S0 S'∧LstW S0 S' tyOb 2 a' ((dd u n).map obC):=by
 refine wx63 ?_
 unfold Bx63
 have hl:=h.lstW q3k
 rw [hl.ln,List.length_map,q1o]
 have dd1:∀ k,k≤n→(∀ i,0<i→i<k→u i≠u (i-1))→dd u k=vl k u:=by
  intro k
  induction k with
  | zero=>intro _ _;rfl
  | succ k ih=>
   intro hk hne
   rw [q7l,← ih (by omega) fun i h1 h2=>hne i h1 (by omega)]
   unfold dd
   rw [if_neg fun h=>hne k h.1 (by omega) h.2]
   cases k<;>rfl
 (try simp only [rwp,zA,zB,zC,zD,zE,zF,zG,zH,zI,rwb,reduceIte])
 cases a1:decide ((n:Int)<2)
 ·have hn2:2≤n:=by have:=of_decide_eq_false a1;omega
  rcases h with ⟨rfl,e⟩ | ⟨b,cap,rfl,h1,h2,h3,h4⟩
  ·omega
  ·(try simp only [rwp,zA,zB,zC,zD,zE,zF,zG,zH,zI,rwb,reduceIte])
   refine LoopP.introS (fun k:Nat=>[(0,.own b 0 n cap),(3,.int .i64 k)]) (fun k S'=>S'=S∧1≤k∧k≤n∧∀ i,0<i→i<k→u i≠u (i-1)) (fun k=>n-k) 1 ⟨rfl,by omega,by omega,fun i h1 h2=>by omega⟩ rfl ?_
   rintro k S' ⟨rfl,hk1,hkn,hne⟩ kk hkk
   (try simp only [rwp,zA,zB,zC,zD,zE,zF,zG,zH,zI,rwb,reduceIte,C63_1])
   (refine q02 (fun hlt=>?_) (fun hlt=>?_)<;>(try simp only [hlc] at hlt))
   ·(simp (disch:=omega) only [q07])
    have ek:((k:Int)-1).toNat=k-1:=by omega
    (try simp only [rwp,zA,zB,zC,zD,zE,zF,zG,zH,zI,rwb,reduceIte,Int.toNat_natCast,ek,Nat.zero_add])
    refine ⟨hlt,by omega,by omega,?_⟩
    have hc:=q08 (objAt_some.2 h2)
    obtain ⟨rest1,d1⟩:=fl_two (show k<n by omega) u
    obtain ⟨rest2,d2⟩:=fl_two (show k-1<n by omega) u
    (try simp only [rwp,zA,zB,zC,zD,zE,zF,zG,zH,zI,rwb,reduceIte,hc,d1,d2])
    have hdec:=ob_dec14 (a:=u k) (b:=u (k-1))
    cases g1:(decide ((u k).ty=(u (k-1)).ty)&&decide ((u k).id=(u (k-1)).id))
    ·rw [g1] at hdec
     (try simp only [rwp,zA,zB,zC,zD,zE,zF,zG,zH,zI,rwb,reduceIte])
     refine q09 rfl (hkk (k+1) _ ⟨rfl,by omega,by omega,fun i q1 q2=>?_⟩ (by omega))
     by_cases e:i=k
     ·subst e;exact of_decide_eq_false hdec
     ·exact hne i q1 (by omega)
    ·rw [g1] at hdec
     have heq:=of_decide_eq_true hdec
     have hckn:¬ cap=k:=by omega
     (try simp only [rwp,zA,zB,zC,zD,zE,zF,zG,zH,zI,rwb,reduceIte,hckn])
     refine ⟨by omega,by omega,?_⟩
     refine LoopP.introS (fun x:Nat×Nat=>[(0,.own b 0 n cap),(3,.int .i64 x.1),(4,.own b (k * 2) (n-k) (cap-k)),(5,.int .i64 x.2)])
      (fun x S2=>x.1<k+x.2∧1≤x.2∧k+x.2≤n∧∃ w,S2=supd S' b (.cells tyOb (fl obC n w) (cap * 2))∧vl x.1 w=dd u (k+x.2)∧∀ p,k+x.2≤p+1→w p=u p) (fun x=>n-x.2) (k,1)
      ⟨by dsimp only;omega,by dsimp only;omega,by dsimp only;omega,u,?_,?_,fun _ _=>rfl⟩ rfl ?_
     ·funext c
      unfold supd
      split
      ·rename_i e;subst e;exact h2
      ·rfl
     ·dsimp only
      rw [← dd1 k hkn hne]
      conv=>rhs;unfold dd
      rw [if_pos ⟨by omega,heq⟩]
     ·rintro ⟨m,k2⟩ S2 ⟨hmk,hk2,hkk2n,w,rfl,hw,hr⟩ kk2 hkk2
      dsimp only at hmk hk2 hkk2n hw hr ⊢
      have ho:q0k (supd S' b (.cells tyOb (fl obC n w) (cap * 2))) b=some (tyOb,fl obC n w,cap * 2):=q0j
      have hc2:=q08 ho
      (try simp only [rwp,zA,zB,zC,zD,zE,zF,zG,zH,zI,rwb,reduceIte,C63_2])
      (refine q02 (fun hlt2=>?_) (fun hlt2=>?_)<;>(try simp only [hlc] at hlt2))
      ·have hj:k+k2<n:=by omega
       obtain ⟨rest3,d3⟩:=fl_two hj w
       obtain ⟨rest4,d4⟩:=fl_two (show k+k2-1<n by omega) w
       rw [hr _ (by omega)] at d3
       rw [hr _ (by omega)] at d4
       (simp (disch:=omega) only [q07])
       have e2:((k2:Int)-1).toNat=k2-1:=by omega
       (try simp only [rwp,zA,zB,zC,zD,zE,zF,zG,zH,zI,rwb,reduceIte,Int.toNat_natCast,e2,show k * 2+k2 * 2=(k+k2) * 2 by omega,show k * 2+(k2-1) * 2=(k+k2-1) * 2 by omega])
       refine ⟨by omega,by omega,by omega,?_⟩
       (try simp only [rwp,zA,zB,zC,zD,zE,zF,zG,zH,zI,rwb,reduceIte,hc2,d3,d4])
       have hdec2:=ob_dec14 (a:=u (k+k2)) (b:=u (k+k2-1))
       cases g2:(decide ((u (k+k2)).ty=(u (k+k2-1)).ty)&&decide ((u (k+k2)).id=(u (k+k2-1)).id))
       ·rw [g2] at hdec2
        have hne2:=of_decide_eq_false hdec2
        have ff:=fl_fill (v:=w) (x:=u (k+k2)) q3k (show m<n by omega)
        rw [show obC (u (k+k2))=[.str (u (k+k2)).ty,.str (u (k+k2)).id] from rfl] at ff
        have fits:m * 2+2≤(fl obC n w).length:=by rw [q1z q3k];omega
        (try simp only [rwp,zA,zB,zC,zD,zE,zF,zG,zH,zI,rwb,reduceIte,ho,Int.toNat_natCast,Nat.zero_add,show k * 2+k2 * 2=(k+k2) * 2 by omega,hc2,d3])
        refine ⟨by omega,by omega,?_⟩
        (try simp only [rwp,zA,zB,zC,zD,zE,zF,zG,zH,zI,rwb,reduceIte,ho,hc2,d3,ff,fits,q0x])
        (try (simp (disch:=omega) only [q07]))
        refine q09 rfl (hkk2 (m+1,k2+1) _ ⟨by dsimp only;omega,by dsimp only;omega,by dsimp only;omega,upv w m (u (k+k2)),congrArg (fun z=>supd S' b (.cells tyOb z (cap * 2))) ff,?_,fun p hp=>?_⟩ (by dsimp only;omega))
        ·dsimp only
         have e1:vl m (upv w m (u (k+k2)))=vl m w:=by unfold vl;exact List.map_congr_left fun q hq=>if_neg (by simp at hq;omega)
         rw [q7l,e1,hw,show upv w m (u (k+k2)) m=u (k+k2) from if_pos rfl,← Nat.add_assoc]
         conv=>rhs;unfold dd
         rw [if_neg fun h=>hne2 h.2]
        ·dsimp only at hp ⊢
         rw [show upv w m (u (k+k2)) p=w p from if_neg (by omega)]
         exact hr p (by omega)
       ·rw [g2] at hdec2
        have heq2:=of_decide_eq_true hdec2
        (try simp only [rwp,zA,zB,zC,zD,zE,zF,zG,zH,zI,rwb,reduceIte])
        (try (simp (disch:=omega) only [q07]))
        refine q09 rfl (hkk2 (m,k2+1) _ ⟨by dsimp only;omega,by dsimp only;omega,by dsimp only;omega,w,rfl,?_,fun p hp=>hr p (by dsimp only at hp;omega)⟩ (by dsimp only;omega))
        dsimp only
        rw [hw,← Nat.add_assoc]
        conv=>rhs;unfold dd
        rw [if_pos ⟨by omega,heq2⟩]
      ·have e:k+k2=n:=by omega
       (try simp only [rwp,zA,zB,zC,zD,zE,zF,zG,zH,zI,rwb,reduceIte,loI,hiI,cutI,Int.toNat_natCast,Nat.zero_add])
       refine ⟨by omega,by omega,⟨tyOb,fl obC n w,cap * 2,by rw [q01,if_pos rfl],?_,rfl,rfl,?_⟩⟩
       ·rw [q1z q3k]
        split
        ·omega
        ·omega
       ·refine ⟨Int.le_refl 0,by omega,?_⟩
        rw [show AV.own b (if cap=0 then 0 else 0) (m-0) (cap-0)=.own b 0 m cap by simp,q0x,← e,← hw,e]
        refine q03 ⟨_,rfl,Sub.supd h1 hs,fl_rows q3k,.inr ⟨b,cap,_,by rw [List.length_map,q1o],h1,by rw [q01,if_pos rfl],?_,?_,by rw [List.length_map,q1o];omega,h4⟩⟩
        ·rw [List.length_map,q1o,if_neg (by omega),q5p _ _ _ (by rw [q5g,q1z q3k];simp only [List.length_cons,List.length_nil];omega),List.take_append_of_le_length (by rw [List.length_take,q1z q3k];omega),List.take_take,Nat.min_self]
         exact fl_take q3k (by omega)
        ·rw [List.length_map,q1o,if_neg (by omega),q5p _ _ _ (by rw [q5g,q1z q3k];simp only [List.length_cons,List.length_nil];omega)]
         simp only [List.length_append,List.length_take,q1z q3k]
         omega
   ·(try simp only [rwp,zA,zB,zC,zD,zE,zF,zG,zH,zI,rwb,reduceIte])
    have e:k=n:=by omega
    subst e
    refine q03 ⟨_,rfl,hs,?_⟩
    rw [dd1 k (Nat.le_refl _) hne]
    exact hl
 ·(try simp only [rwp,zA,zB,zC,zD,zE,zF,zG,zH,zI,rwb,reduceIte])
  refine q03 ⟨a,rfl,hs,?_⟩
  have hn2:=of_decide_eq_true a1
  rw [dd1 n (Nat.le_refl _) fun i h1 h2=>by omega]
  exact hl
set_option maxRecDepth 4000
theorem q9h {s:List Ty} (hs:OkS s) (hN:OkN s) {l:List Tu} (hl:OkL l) (hn:l.length≤500) (n:Nd) (who:Ob) :
  AFun PG nrx22 [scA s,.sl 6 (l.map tuC),.agg (obC n.o),.str n.rl,.agg (obC who)] (.bool (decide (errA (chkF s)=0)&&inB (envE s l who) n)):=by
 intro S
 refine wx22 ?_
 unfold Bx22
 have q1:=q61 hs hN
 unfold lvlF at q1
 simp only [scA] at q1
 (try simp only [rwp,zA,zB,zC,zD,zE,zF,zG,zH,zI,rwb,reduceIte,scA,obC])
 by_cases hk:errA (chkF s)=0
 ·rw [if_pos hk] at q1
  rw [decide_eq_true hk,Bool.true_and]
  refine q05 q1 ?_
  have R:Rnd s (q0v s l) who:=⟨hs,hk,counts_ok hl,env_ok s l who⟩
  have hlc:(q0v s l).length≤500:=Nat.le_trans (List.length_filter_le _ _) hn
  have q2:=c_gcounts hs hl S
  have q3:=c_gknown R hlc n.o S
  simp only [scA,obC] at q2 q3
  (try simp only [rwp,zA,zB,zC,zD,zE,zF,zG,zH,zI,rwb,reduceIte])
  refine q1b q2 ?_
  rintro ae S1 ⟨a,rfl,h1,h2⟩
  dsimp only
  (try simp only [rwp,zA,zB,zC,zD,zE,zF,zG,zH,zI,rwb,reduceIte])
  refine q1b (ACalls.frz (FrS.sub h1) (.cons (.same _) (.cons (.same _) (.cons (Fr.lstW h2) (.cons (.same _) (.cons (.same _) .nil))))) q3) ?_
  rintro ae S2 ⟨bk,K,rfl,h3,h4,h5⟩
  dsimp only
  (try simp only [rwp,zA,zB,zC,zD,zE,zF,zG,zH,zI,rwb,reduceIte])
  have q:=fun K' hk=>h4.lki (ok:=false) (z:=.bool false) (K:=K') ke_nd n hk
  simp only [ndA,ndC] at q
  refine q _ ?_
  rw [q5n]
  (try simp only [rwp,zA,zB,zC,zD,zE,zF,zG,zH,zI,rwb,reduceIte])
  refine rtW_sub h3 ⟨?_,rfl⟩
  rw [inB_eq (env_ok s l who) hk h5]
 ·rw [if_neg hk] at q1
  rw [decide_eq_false hk,Bool.false_and]
  refine q05 q1 ?_
  (try simp only [rwp,zA,zB,zC,zD,zE,zF,zG,zH,zI,rwb,reduceIte])
  exact q03 ⟨rfl,rfl⟩
set_option maxRecDepth 4000
noncomputable def outF (s:List Ty) (l L:List Tu) (n:Nd):List Ob:=(L.filter fun t=>decide (t.s.rl=⟨#[]⟩)&&inB (envE s l t.s.o) n).map fun t=>t.s.o
noncomputable def memF (s:List Ty) (l:List Tu) (n:Nd):List Ob:=if errA (chkF s)=0 then srtO ltO (outF s l (q0v s l) n) else []
theorem outF_take {s:List Ty} {l L:List Tu} {n:Nd} {i:Nat} {t:Tu} (h:L[i]?=some t):outF s l (L.take (i+1)) n=outF s l (L.take i) n++if (decide (t.s.rl=⟨#[]⟩)&&inB (envE s l t.s.o) n)=true then [t.s.o] else []:=by
 unfold outF
 rw [q39 h,List.map_append]
 congr 1
 cases (decide (t.s.rl=⟨#[]⟩)&&inB (envE s l t.s.o) n)<;>rfl
theorem outF_len {s:List Ty} {l L:List Tu} {n:Nd}:(outF s l L n).length≤L.length:=by
 unfold outF
 rw [List.length_map]
 exact List.length_filter_le _ _
theorem LstN.ln {S0 S S':q00} {t sz:Nat} {v:AV} {rows:List (List AV)} {K:AV→Prop} (h:LstN S0 S t sz v rows):lnW S' 1 v K=K (.int .i64 rows.length):=by
 obtain ⟨hr,⟨rfl,rfl⟩ | ⟨b,cap,rfl,-⟩⟩:=h
 ·rw [q9c];rfl
 ·rw [lnW_own]
theorem dat_nil (S:q00):Dat .nils (fun _=>.nils) (fun _=>S) 0:=⟨fun _ h=>absurd h (by omega),fun h=>absurd h (by omega),fun h=>absurd h (by omega),fun hk=>by rw [q9c];exact hk,by omega,fun _ h=>absurd h (by omega),fun _ h=>absurd h (by omega),fun h=>h⟩
theorem sort_compact {N g:Nat} (hN:SortOk N) (hg:∀ x y,AFun PG g [.agg (obC x),.agg (obC y)] (.int .i64 (cmpO x y))) {S0 S:q00} {v:AV} {M:List Ob} (hs:Sub S0 S) (h:LstN S0 S tyOb 2 v (M.map obC)) (hl:M.length≤N) (hb:M.length≤100000) {QF:AEnd→q00→Prop} (hQ:QF (.ret (.sl 2 ((srtO ltO M).map obC))) S0) :
  caW PG S (.func (.func nrx59) [] []) [v,.func (.func g) [] []] (fun _ S=>caW PG S (.func (.func nrx63) [] []) [v] (fun v58 S=>rtW [.tmp v58] QF S) (pqW QF)) (pqW QF):=by
 have fin:∀ (w:Nat→Ob) (S1:q00),Sub S0 S1→OwnL S0 S1 tyOb 2 obC v M.length w→Rng M.length 0 M.length (at' M) w→Srt (ltC cmpO) 0 M.length w →
   caW PG S1 (.func (.func nrx63) [] []) [v] (fun v58 S=>rtW [.tmp v58] QF S) (pqW QF):=by
  intro w S1 hs1 ho hr hw
  refine q1b (c_Compact hs1 ho hb) ?_
  rintro ae S2 ⟨a',rfl,h1,h2⟩
  dsimp only
  have e:dd w M.length=srtO ltO M:=by
   obtain ⟨k1,k2,-⟩:=srtO_ok stO M _ rfl
   refine Asc.uniq stO (dd_asc stO hw) k1 fun x=>?_
   rw [k2,mem_dd]
   have hm:x∈M↔x∈vl M.length w:=by
    conv=>lhs;rw [← vl_at M]
    exact hr.perm.mem_iff
   rw [hm]
   unfold vl
   rw [List.mem_map]
   constructor
   ·rintro ⟨i,h1,h2⟩;exact ⟨i,by simpa using h1,h2⟩
   ·rintro ⟨i,h1,h2⟩;exact ⟨i,by simpa using h1,h2⟩
  rw [e] at h2
  exact rtW_fr S0 _ h1 (Fr.lstW h2) hQ
 obtain ⟨hr,⟨rfl,e⟩ | ⟨b,cap,rfl,h1,h2,h3,h4,h5⟩⟩:=h
 ·have e:M=[]:=by simpa using e
  subst e
  refine q1b (hN .nils (fun _=>.nils) (fun _=>S) 0 g cmpO (dat_nil S) hg stO.ok (by omega) (at' [])) ?_
  rintro ae S1 ⟨rfl,w,rfl,k1,k2⟩
  dsimp only
  exact fin w _ hs (.inl ⟨rfl,rfl⟩) k1 k2
 ·simp only [List.length_map] at h3 h5 h2 ⊢
  have hsm:supd S b (.cells tyOb (fl obC M.length (at' M)) (cap * 2))=S:=by
   funext c
   unfold supd
   split
   ·rename_i e
    subst e
    have:fl obC M.length (at' M)=(M.map obC).flatten:=by unfold fl;rw [vl_at]
    rw [this]
    exact h2.symm
   ·rfl
  have q:=hN _ _ _ M.length g cmpO (dat_own (S0:=S) (b:=b) h3 hb) hg stO.ok hl (at' M)
  rw [hsm] at q
  refine q1b q ?_
  rintro ae S1 ⟨rfl,w,rfl,k1,k2⟩
  dsimp only
  simp only [List.length_map] at fin
  exact fin w _ (Sub.supd h1 hs) (.inr ⟨b,cap,rfl,h1,by rw [q01,if_pos rfl],h3,h4⟩) k1 k2
theorem c_gMembers {N:Nat} (hNs:SortOk N) {s:List Ty} (hs:OkS s) (hN:OkN s) {l:List Tu} (hl:OkL l) (hn:l.length≤500) (n:Nd) (hlen:errA (chkF s)=0→(outF s l (q0v s l) n).length≤N) :
  AFun PG nrx23 [scA s,.sl 6 (l.map tuC),.agg (obC n.o),.str n.rl] (.sl 2 ((memF s l n).map obC)):=by
 intro S
 refine wx23 ?_
 unfold Bx23
 have q1:=q61 hs hN
 unfold lvlF at q1
 simp only [scA] at q1
 (try simp only [rwp,zA,zB,zC,zD,zE,zF,zG,zH,zI,rwb,reduceIte,scA,obC])
 unfold memF
 by_cases hk:errA (chkF s)=0
 ·rw [if_pos hk] at q1
  rw [if_pos hk]
  refine q05 q1 ?_
  have hlen:=hlen hk
  have hlc:(q0v s l).length≤500:=Nat.le_trans (List.length_filter_le _ _) hn
  have q2:=c_gcounts hs hl S
  simp only [scA] at q2
  (try simp only [rwp,zA,zB,zC,zD,zE,zF,zG,zH,zI,rwb,reduceIte])
  refine q1b q2 ?_
  rintro ae S1 ⟨a,rfl,h1,h2⟩
  dsimp only
  rw [h2.ln,List.length_map]
  refine LoopP.frz (S1:=S) (l':=[(1,.sl 6 ((q0v s l).map tuC)),(3,.str n.rl),(4,.rop [.sl 2 (s.map tyC)]),(6,.rop [.str n.o.ty,.str n.o.id]),(9,.sl 1 (lvC (levF s))),(11,.nils),(24,.sl 6 ((q0v s l).map tuC)),(25,.int .i64 (q0v s l).length),(26,.int .i64 0)]) (FrS.sub h1) (.cons (Fr.lstW h2) (.cons (.same _) (.cons (.same _) (.cons (.same _) (.cons (.same _) (.cons (.same _) (.cons (Fr.lstW h2) (.cons (.same _) (.cons (.same _) .nil))))))))) ?_
  generalize hL:q0v s l=L at hlen hlc ⊢
  refine LoopP.introS (fun x:Nat×AV=>[(1,.sl 6 (L.map tuC)),(3,.str n.rl),(4,.rop [.sl 2 (s.map tyC)]),(6,.rop [.str n.o.ty,.str n.o.id]),(9,.sl 1 (lvC (levF s))),(11,x.2),(24,.sl 6 (L.map tuC)),(25,.int .i64 L.length),(26,.int .i64 x.1)])
   (fun x S'=>x.1≤L.length∧Sub S S'∧LstN S S' tyOb 2 x.2 ((outF s l (L.take x.1) n).map obC)) (fun x=>L.length-x.1) (0,.nils) ⟨by dsimp only;omega,Sub.refl _,LstN.nil⟩ rfl ?_
  rintro ⟨i,ov⟩ S2 ⟨hi,s2,o2⟩ kk hkk
  dsimp only at hi o2 ⊢
  (try simp only [rwp,zA,zB,zC,zD,zE,zF,zG,zH,zI,rwb,reduceIte,C23_1])
  cases a0:decide ((i:Int)<L.length)
  ·have e:i=L.length:=by have:=of_decide_eq_false a0;omega
   subst e
   (try simp only [rwp,zA,zB,zC,zD,zE,zF,zG,zH,zI,rwb,reduceIte])
   rw [List.take_length] at o2
   have:=@outF_len s l L n
   exact sort_compact hNs c_gcmp s2 o2 hlen (by omega) ⟨rfl,rfl⟩
  ·have hlt:=of_decide_eq_true a0
   (try simp only [rwp,zA,zB,zC,zD,zE,zF,zG,zH,zI,rwb,reduceIte])
   obtain ⟨t,ht⟩:=q0e hlt
   have go:∀ {b:Bool} {S3:q00},b=(decide (t.s.rl=⟨#[]⟩)&&inB (envE s l t.s.o) n)→Sub S S3→LstN S S3 tyOb 2 ov ((outF s l (L.take i) n).map obC)→C23_2 (fun ae S'=>ae=AEnd.ret (AV.sl 2 ((srtO ltO (outF s l L n)).map obC))∧S'=S) kk (.sl 6 (L.map tuC)) (.str n.rl) (.rop [.sl 2 (s.map tyC)]) (.rop [.str n.o.ty,.str n.o.id]) (.sl 1 (lvC (levF s))) ov (.rop [.str t.o.ty,.str t.o.id,.str t.rl,.str t.s.o.ty,.str t.s.o.id,.str t.s.rl]) (.sl 6 (L.map tuC)) (.int .i64 L.length) (.int .i64 i) (.bool b) S3:=by
    intro b S3 hb s3 o3
    have hot:=outF_take (s:=s) (l:=l) (n:=n) ht
    rw [← hb] at hot
    cases b
    ·(try simp only [rwp,zA,zB,zC,zD,zE,zF,zG,zH,zI,rwb,reduceIte,C23_2])
     (simp (disch:=omega) only [q07])
     refine q09 rfl (hkk (i+1,ov) _ ⟨by dsimp only;omega,s3,?_⟩ (by dsimp only;omega))
     dsimp only
     rw [hot]
     simpa using o3
    ·(try simp only [rwp,zA,zB,zC,zD,zE,zF,zG,zH,zI,rwb,reduceIte,C23_2])
     have:=@outF_len s l (L.take i) n
     have:=List.length_take_le i L
     refine LstN.app s3 o3 (xs:=[[.str t.s.o.ty,.str t.s.o.id]]) (fun r hr=>by rw [List.mem_singleton.1 hr];rfl) (q4a fun r hr=>by rw [List.mem_singleton.1 hr];rfl) (by simp only [List.length_map,List.length_singleton];omega) fun v' S4 j1 j2 j3=>?_
     (simp (disch:=omega) only [q07])
     refine q09 rfl (hkk (i+1,v') _ ⟨by dsimp only;omega,j1,?_⟩ (by dsimp only;omega))
     dsimp only
     rw [hot,List.map_append]
     exact j2
   (try simp only [rwp,zA,zB,zC,zD,zE,zF,zG,zH,zI,rwb,reduceIte,List.getElem?_map,ht,tuC])
   cases a1:decide (t.s.rl=⟨#[]⟩)
   ·(try simp only [rwp,zA,zB,zC,zD,zE,zF,zG,zH,zI,rwb,reduceIte])
    exact go (by rw [a1];rfl) s2 o2
   ·have R:Rnd s L t.s.o:=by rw [← hL];exact ⟨hs,hk,counts_ok hl,env_ok s l t.s.o⟩
    have q3:=c_gknown R hlc n.o S2
    simp only [scA,obC] at q3
    (try simp only [rwp,zA,zB,zC,zD,zE,zF,zG,zH,zI,rwb,reduceIte])
    refine q1b q3 ?_
    rintro ae S3 ⟨bk,K,rfl,h3,h4,h5⟩
    dsimp only
    (try simp only [rwp,zA,zB,zC,zD,zE,zF,zG,zH,zI,rwb,reduceIte])
    have q:=fun K' hk=>h4.lki (ok:=false) (z:=.bool false) (K:=K') ke_nd n hk
    simp only [ndA,ndC] at q
    refine q _ ?_
    rw [q5n]
    (try simp only [rwp,zA,zB,zC,zD,zE,zF,zG,zH,zI,rwb,reduceIte])
    refine go ?_ (s2.trans h3) (o2.sub h3)
    rw [a1,Bool.true_and]
    rw [← hL] at h5
    exact inB_eq (env_ok s l t.s.o) hk h5 n
 ·rw [if_neg hk] at q1
  rw [if_neg hk]
  refine q05 q1 ?_
  (try simp only [rwp,zA,zB,zC,zD,zE,zF,zG,zH,zI,rwb,reduceIte])
  exact rtW_fr S _ (Sub.refl _) (.nils 2) ⟨rfl,rfl⟩
set_option maxRecDepth 4000
structure Tk where
 s:ByteArray
 line:Int
 col:Int
instance:Inhabited Tk:=⟨⟨⟨#[]⟩,0,0⟩⟩
def tkC (t:Tk):List AV:=[.str t.s,.int .i64 t.line,.int .i64 t.col]
structure Rd where
 at':Nat
 op:Int
 dl:Int
 dc:Int
 de:Int
def rdC (T:List Tk) (r:Rd):List AV:=[.sl 3 (T.map tkC),.int .i64 r.at',.int .i64 r.op,.int .i64 r.dl,.int .i64 r.dc,.int .i64 r.de]
def rdO (T:List Tk) (r:Rd):AObj:=.cells 145 (rdC T r) 6
def AFunR (f b:Nat) (xs:List AV) (T:List Tk) (r:Rd) (v:AV) (r':Rd):Prop:=∀ S,sget S b=some (rdO T r)→ACalls PG f (.ptr b 0 :: xs) S fun ae S'=>ae=.ret v∧S'=supd S b (rdO T r')
theorem q7r {S:q00} {b:Nat} {T:List Tk} {r:Rd} (h:sget S b=some (rdO T r)):q0k S b=some (145,[.sl 3 (T.map tkC),.int .i64 r.at',.int .i64 r.op,.int .i64 r.dl,.int .i64 r.dc,.int .i64 r.de],6):=objAt_some.2 h
theorem q0t {S:q00} {b:Nat} {o:AObj} (h:sget S b=some o):supd S b o=S:=by
 funext c
 unfold supd
 by_cases hc:b=c
 ·subst hc;rw [if_pos rfl];exact h.symm
 ·rw [if_neg hc]
def nxP (T:List Tk) (r:Rd):Tk:=T.getD r.at' default
def q4n (t:Tk) (e:Int) (r:Rd):Rd:=if r.de=0 then { r with dl:=t.line,dc:=t.col,de:=e } else r
def isP (T:List Tk) (s:ByteArray) (r:Rd):Bool:=decide (r.de=0)&&decide ((nxP T r).s=s)
def isR (T:List Tk) (s:ByteArray) (r:Rd):Rd:=if isP T s r then { r with at':=r.at'+1 } else r
def q1w (T:List Tk) (s:ByteArray) (r:Rd):Rd:=if isP T s r then isR T s r else q4n (nxP T r) 8 r
def q2j (T:List Tk) (r:Rd):ByteArray:=if q0q (nxP T r).s=true∧r.de=0 then (nxP T r).s else ⟨#[]⟩
def q0m (T:List Tk) (r:Rd):Rd:=if q0q (nxP T r).s=true∧r.de=0 then { r with at':=r.at'+1 } else q4n (nxP T r) 8 r
structure OkTk (T:List Tk):Prop where
 len:T.length≤5000
 size:∀ t∈T,t.s.size≤1125899906842624
 last:∀ t,T[T.length-1]?=some t→t.s=⟨#[]⟩∨t.s=⟨#[63]⟩
def InR (T:List Tk) (r:Rd):Prop:=r.at'<T.length
theorem nx_get {T:List Tk} {r:Rd} (h:InR T r):T[r.at']?=some (nxP T r):=by
 unfold nxP InR at *
 rw [List.getD_eq_getElem?_getD,List.getElem?_eq_getElem h]
 rfl
theorem c_fail {T:List Tk} {r:Rd} {b:Nat} (t:Tk) (e:Int):AFunR nrx88 b [.agg (tkC t),.int .i64 e] T r (.tup []) (q4n t e r):=by
 intro S h
 have ho:=q7r h
 refine wx88 ?_
 unfold Bx88
 (try simp only [rwp,hwR,zA,zB,zC,zD,zE,zF,zG,zH,zI,tkC,q08 ho])
 (refine q02 (fun h0=>?_) (fun h0=>?_)<;>(try simp only [hlc] at h0))
 ·(try simp only [rwp,hwR,zA,zB,zC,zD,zE,zF,zG,zH,zI,ho])
  exact q3t ⟨rfl,by rw [q4n,if_pos h0];rfl⟩
 ·exact q3t ⟨rfl,by rw [q4n,if_neg h0,q0t h]⟩
theorem q58 {T:List Tk} {r:Rd} {b:Nat} (hT:OkTk T) (hr:InR T r):AFunR nrx87 b [] T r (.agg (tkC (nxP T r))) r:=by
 intro S h
 have ho:=q7r h
 have hx:=nx_get hr
 refine wx87 ?_
 unfold Bx87
 intro b2 hb2
 have hne:b2≠b:=q0o hb2 h
 (try simp only [rwp,hwR,zA,zB,zC,zD,zE,zF,zG,zH,zI,q08 ho,if_neg hne,hx,tkC])
 refine q1f S (by rw [q2u hb2];exact Sub.refl S) ?_
 (try simp only [rwp,hwR,zA,zB,zC,zD,zE,zF,zG,zH,zI])
 first | exact ⟨rfl,(q0t h).symm⟩ | exact (q0t h).symm
theorem c_is {T:List Tk} {r:Rd} {b:Nat} (hT:OkTk T) (hr:InR T r) (s:ByteArray):AFunR nrx84 b [.str s] T r (.bool (isP T s r)) (isR T s r):=by
 intro S h
 have ho:=q7r h
 have hx:=nx_get hr
 have hl:=hT.len
 have hr':r.at'<T.length:=hr
 refine wx84 ?_
 unfold Bx84
 (try simp only [rwp,hwR,zA,zB,zC,zD,zE,zF,zG,zH,zI,q08 ho])
 cases a1:decide (r.de=0) with
 | false=>
  (try simp only [rwp,hwR,zA,zB,zC,zD,zE,zF,zG,zH,zI,C84_1])
  have hp:isP T s r=false:=by rw [isP,a1];rfl
  exact q03 ⟨by rw [hp],by rw [isR,hp];exact (q0t h).symm⟩
 | true=>
  (try simp only [rwp,hwR,zA,zB,zC,zD,zE,zF,zG,zH,zI,hx,tkC])
  cases a2:decide ((nxP T r).s=s) with
  | false=>
   (try simp only [rwp,hwR,zA,zB,zC,zD,zE,zF,zG,zH,zI,C84_1])
   have hp:isP T s r=false:=by rw [isP,a1,a2];rfl
   exact q03 ⟨by rw [hp],by rw [isR,hp];exact (q0t h).symm⟩
  | true=>
   (try simp only [rwp,hwR,zA,zB,zC,zD,zE,zF,zG,zH,zI,C84_1,q08 ho,ho])
   have hp:isP T s r=true:=by rw [isP,a1,a2];rfl
   (simp (disch:=omega) only [q07])
   exact q03 ⟨by rw [hp],by rw [isR,hp];rfl⟩
theorem AFunR.ca {f b:Nat} {xs:List AV} {T:List Tk} {r r':Rd} {v:AV} (h:AFunR f b xs T r v r') {S:q00} (hS:sget S b=some (rdO T r)) {K Qp:AV→q00→Prop} (hK:K v (supd S b (rdO T r'))):caW PG S (.func (.func f) [] []) (.ptr b 0 :: xs) K Qp:=
 q1b (h S hS) fun ae S' ⟨h1,h2⟩=>by subst h1;subst h2;exact hK
theorem q19 {S:q00} {b:Nat} {T:List Tk} {r:Rd}:sget (supd S b (rdO T r)) b=some (rdO T r):=by rw [q01,if_pos rfl]
theorem q8n {T:List Tk} {s:ByteArray} {r:Rd} (h:isP T s r=false):isR T s r=r:=by rw [isR,h];rfl
theorem c_must {T:List Tk} {r:Rd} {b:Nat} (hT:OkTk T) (hr:InR T r) (s:ByteArray):AFunR nrx130 b [.str s] T r (.tup []) (q1w T s r):=by
 intro S h
 refine wx130 ?_
 unfold Bx130
 refine (c_is hT hr s).ca h ?_
 cases hp:isP T s r with
 | true=>
  (try simp only [rwp,hwR,zA,zB,zC,zD,zE,zF,zG,zH,zI])
  exact q3t ⟨rfl,by rw [q1w,hp];rfl⟩
 | false=>
  (try simp only [rwp,hwR,zA,zB,zC,zD,zE,zF,zG,zH,zI])
  have hi:=q8n hp
  rw [hi]
  refine (q58 hT hr).ca q19 ?_
  (try simp only [rwp,hwR,zA,zB,zC,zD,zE,zF,zG,zH,zI,tkC])
  refine (c_fail (nxP T r) 8).ca q19 ?_
  (try simp only [rwp,hwR,zA,zB,zC,zD,zE,zF,zG,zH,zI])
  exact q3t ⟨rfl,by rw [q1w,hp];rfl⟩
theorem c_name {T:List Tk} {r:Rd} {b:Nat} (hT:OkTk T) (hr:InR T r):AFunR nrx85 b [] T r (.str (q2j T r)) (q0m T r):=by
 intro S h
 have hx:=nx_get hr
 have hl:=hT.len
 have hr':r.at'<T.length:=hr
 refine wx85 ?_
 unfold Bx85
 refine (q58 hT hr).ca h ?_
 rw [q0t h]
 have ho:=q7r h
 (try simp only [rwp,hwR,zA,zB,zC,zD,zE,zF,zG,zH,zI,tkC])
 refine q05 (q0w (hT.size _ (List.mem_of_getElem? hx))) ?_
 cases hn:q0q (nxP T r).s with
 | false=>
  (try simp only [rwp,hwR,zA,zB,zC,zD,zE,zF,zG,zH,zI,C85_1])
  have hc:¬ (q0q (nxP T r).s=true∧r.de=0):=by rw [hn];simp
  refine (c_fail (nxP T r) 8).ca h ?_
  (try simp only [rwp,hwR,zA,zB,zC,zD,zE,zF,zG,zH,zI])
  exact q03 ⟨by rw [q2j,if_neg hc],by rw [q0m,if_neg hc]⟩
 | true=>
  (try simp only [rwp,hwR,zA,zB,zC,zD,zE,zF,zG,zH,zI,q08 ho])
  cases a1:decide (r.de=0) with
  | false=>
   have hc:¬ (q0q (nxP T r).s=true∧r.de=0):=fun h=>by rw [decide_eq_true h.2] at a1;cases a1
   (try simp only [rwp,hwR,zA,zB,zC,zD,zE,zF,zG,zH,zI,C85_1])
   refine (c_fail (nxP T r) 8).ca h ?_
   (try simp only [rwp,hwR,zA,zB,zC,zD,zE,zF,zG,zH,zI])
   exact q03 ⟨by rw [q2j,if_neg hc],by rw [q0m,if_neg hc]⟩
  | true=>
   have hc:q0q (nxP T r).s=true∧r.de=0:=⟨hn,of_decide_eq_true a1⟩
   (try simp only [rwp,hwR,zA,zB,zC,zD,zE,zF,zG,zH,zI,C85_1,q08 ho,ho])
   (simp (disch:=omega) only [q07])
   exact q03 ⟨by rw [q2j,if_pos hc],by rw [q0m,if_pos hc];rfl⟩
mutual
def hgt:Ex→Nat
 | .mk _ _ _ ks=>hgtL ks+1
def hgtL:List Ex→Nat
 | []=>0
 | e :: r=>max (hgt e) (hgtL r)
end
mutual
theorem hgt_le:∀ e:Ex,hgt e≤esz e
 | .mk _ _ _ ks=>by
  unfold hgt esz
  have:=hgtL_le ks
  omega
theorem hgtL_le:∀ l:List Ex,hgtL l≤eszL l
 | []=>by simp [hgtL]
 | e :: r=>by
  unfold hgtL eszL
  have h1:=hgt_le e
  have h2:=hgtL_le r
  omega
end
theorem c_Height:∀ (e:Ex),OkE e→esz e≤1125899906842624→AFun PG nrx204 [.agg (exC e)] (.int .i64 (hgt e)):=by
 intro e he
 induction he with
 | mk k n o ks hk hn ho hks ih=>
  intro hsz S
  have hle:=hgt_le (.mk k n o ks)
  rw [hgt] at hle
  refine wx204 ?_
  unfold Bx204
  (try simp only [rwp,hwR,zA,zB,zC,zD,zE,zF,zG,zH,zI,q0c,Ex.kind,Ex.name,Ex.over,Ex.kids])
  refine LoopP.introS (fun p:Nat×Nat=>[(1,.rop [.int .i64 k,.str n,.str o,.sl 4 (ks.map exC)]),(3,.int .i64 p.2),(4,.int .i64 p.1)])
   (fun p S'=>S'=S∧p.1≤ks.length∧max p.2 (hgtL (ks.drop p.1))=hgtL ks) (fun p=>ks.length-p.1) (0,0) ⟨rfl,by omega,by simp⟩ rfl ?_
  rintro ⟨i,m⟩ S1 ⟨rfl,hi,hf⟩ q hq
  dsimp only at hi hf
  (try simp only [rwp,hwR,zA,zB,zC,zD,zE,zF,zG,zH,zI,C204_1])
  (refine q02 (fun hlt=>?_) (fun hlt=>?_)<;>(try simp only [hlc] at hlt))
  ·obtain ⟨x,hx⟩:=q0e hlt
   have hkid:=esz_kid (k:=k) (n:=n) (o:=o) (List.mem_of_getElem? hx)
   rw [q0h hx,hgtL] at hf
   (try simp only [rwp,hwR,zA,zB,zC,zD,zE,zF,zG,zH,zI,hx])
   refine q05 (ih x (List.mem_of_getElem? hx) (by omega)) ?_
   (try simp only [rwp,hwR,zA,zB,zC,zD,zE,zF,zG,zH,zI])
   (refine q02 (fun hc=>?_) (fun hc=>?_)<;>(try simp only [hlc] at hc))
   ·(simp (disch:=omega) only [q07])
    exact q09 rfl (hq (i+1,hgt x) _ ⟨rfl,by dsimp only;omega,by dsimp only;omega⟩ (by dsimp only;omega))
   ·(simp (disch:=omega) only [q07])
    exact q09 rfl (hq (i+1,m) _ ⟨rfl,by dsimp only;omega,by dsimp only;omega⟩ (by dsimp only;omega))
  ·rw [q0z hlt,hgtL] at hf
   have:m=hgtL ks:=by omega
   subst this
   (simp (disch:=omega) only [q07])
   exact q03 ⟨by rw [hgt];rfl,rfl⟩
def twoE (k:Int) (a c:Ex):Ex:=.mk k ⟨#[]⟩ ⟨#[]⟩ [a,c]
def twoR (k:Int) (t:Tk) (a c:Ex) (r:Rd):Rd:=if r.de=0∧12<hgt (twoE k a c) then q4n t 9 r else r
theorem twoE_ok {k:Int} {a c:Ex} (ha:OkE a) (hc:OkE c):OkE (twoE k a c):=.mk k _ _ _ (by simp) (by decide) (by decide) fun e he=>by
 simp at he
 rcases he with rfl | rfl<;>assumption
theorem twoE_sz {k:Int} {a c:Ex}:esz (twoE k a c)=esz a+esz c+1:=by simp [twoE,esz,eszL];omega
theorem c_two {T:List Tk} {r:Rd} {b:Nat} (k:Int) (t:Tk) {a c:Ex} (ha:OkE a) (hc:OkE c) (hsz:r.de=0→esz a+esz c+1≤1125899906842624):AFunR nrx172 b [.int .i64 k,.agg (tkC t),.agg (exC a),.agg (exC c)] T r (.agg (exC (twoE k a c))) (twoR k t a c r):=by
 intro S h
 have ho:=q7r h
 refine wx172 ?_
 unfold Bx172
 (try simp only [rwp,hwR,zA,zB,zC,zD,zE,zF,zG,zH,zI,tkC,q0c])
 intro b2 hb2
 have hne:b2≠b:=q0o hb2 h
 (try simp only [rwp,hwR,zA,zB,zC,zD,zE,zF,zG,zH,zI,q08 ho,if_neg hne,q1c])
 have h2:∀ r2,sget (supd (supd S b2 (.cells 51 [.int .i64 0,.str ⟨#[]⟩,.str ⟨#[]⟩,.nils] 4)) b (rdO T r2)) b=some (rdO T r2):=fun r2=>q19
 have hS0:sget (supd S b2 (.cells 51 [.int .i64 0,.str ⟨#[]⟩,.str ⟨#[]⟩,.nils] 4)) b=some (rdO T r):=by rw [q01,if_neg hne];exact h
 have fin:∀ S2 r',q0k S2 b2=some (51,[.int .i64 0,.str ⟨#[]⟩,.str ⟨#[]⟩,.nils],4)→(∀ x,b2≠x→sget S2 x=sget (supd S b (rdO T r')) x)→r'=twoR k t a c r →
   C172_2 (fun ae S'=>ae=.ret (.agg (exC (twoE k a c)))∧S'=supd S b (rdO T (twoR k t a c r))) (.ptr b2 0) (.rop [.int .i64 k,.str ⟨#[]⟩,.str ⟨#[]⟩,.sl 4 [exC a,exC c]]) S2:=by
  intro S2 r' hob hS2 hr'
  unfold C172_2
  have hb2':sget (supd S b (rdO T r')) b2=none:=by rw [q01,if_neg (Ne.symm hne)];exact hb2
  have hsub:Sub (supd S b (rdO T r')) (sdel (supd S2 b2 (.cells 51 [.int .i64 k,.str ⟨#[]⟩,.str ⟨#[]⟩,.sl 4 [exC a,exC c]] 4)) b2):=by
   intro x o hx
   have hxb:b2≠x:=by rintro rfl;rw [hb2'] at hx;cases hx
   rw [q0d,if_neg hxb,q01,if_neg hxb]
   rw [hS2 x hxb];exact hx
  simp only [q0c] at hsub
  (try simp only [rwp,hwR,zA,zB,zC,zD,zE,zF,zG,zH,zI,hob,q0c,q1c])
  refine q1f _ hsub ?_
  (try simp only [rwp,hwR,zA,zB,zC,zD,zE,zF,zG,zH,zI])
  refine ⟨?_,by rw [hr']⟩
  simp only [twoE,Ex.kind,Ex.name,Ex.over,Ex.kids,List.map_cons,List.map_nil,q0c]
 simp only [q0c] at fin
 cases a1:decide (r.de=0) with
 | false=>
  (try simp only [rwp,hwR,zA,zB,zC,zD,zE,zF,zG,zH,zI,C172_1])
  refine fin _ r q0j (fun x hx=>by rw [q01,if_neg hx,q0t h]) ?_
  rw [twoR,if_neg (fun h=>by rw [decide_eq_true h.1] at a1;cases a1)]
 | true=>
  have hde:=of_decide_eq_true a1
  (try simp only [rwp,hwR,zA,zB,zC,zD,zE,zF,zG,zH,zI])
  have hH:=c_Height (twoE k a c) (twoE_ok ha hc) (by rw [twoE_sz];exact hsz hde)
  simp only [twoE,q0c,Ex.kind,Ex.name,Ex.over,Ex.kids,List.map_cons,List.map_nil] at hH
  refine q05 hH ?_
  (try simp only [rwp,hwR,zA,zB,zC,zD,zE,zF,zG,zH,zI,C172_1])
  (refine q02 (fun hg=>?_) (fun hg=>?_)<;>(try simp only [hlc] at hg))
  ·refine (c_fail t 9).ca hS0 ?_
   refine fin _ (q4n t 9 r) (by rw [q0i (Ne.symm hne)];exact q0j) (fun x hx=>?_) ?_
   ·rw [q01,q01,q01,if_neg hx]
   ·rw [twoR,if_pos ⟨hde,by simp only [twoE];omega⟩]
  ·refine fin _ r q0j (fun x hx=>by rw [q01,if_neg hx,q0t h]) ?_
   rw [twoR,if_neg (fun h=>by have:=h.2;simp only [twoE] at this;omega)]
def q8w:Ex:=.mk 0 ⟨#[]⟩ ⟨#[]⟩ []
def sLP:ByteArray:=⟨#[40]⟩
def sRP:ByteArray:=⟨#[41]⟩
def sDot:ByteArray:=⟨#[46]⟩
def q2c (T:List Tk) (ex:Rd→Ex×Rd) (r:Rd):Ex×Rd:=
 if isP T sLP r then
  (if 12<r.op+1 then (q8w,q4n (nxP T r) 9 { isR T sLP r with op:=r.op+1 })
  else ((ex { isR T sLP r with op:=r.op+1 }).1,{ q1w T sRP (ex { isR T sLP r with op:=r.op+1 }).2 with op:=(q1w T sRP (ex { isR T sLP r with op:=r.op+1 }).2).op-1 }))
 else if isP T sDot (q0m T r) then (.mk 1 (q2j T r) (q2j T (isR T sDot (q0m T r))) [],q0m T (isR T sDot (q0m T r)))
 else (.mk 0 (q2j T r) ⟨#[]⟩ [],q0m T r)
def opL (T:List Tk) (tk:ByteArray→Option Int) (sub:Rd→Ex×Rd):Nat→Ex×Rd→Ex×Rd
 | 0,p=>p
 | f+1,(e,r)=>if r.de=0 then (match tk (nxP T r).s with
   | some k=>opL T tk sub f (twoE k e (sub { r with at':=r.at'+1 }).1,twoR k (nxP T r) e (sub { r with at':=r.at'+1 }).1 (sub { r with at':=r.at'+1 }).2)
   | none=>(e,r)) else (e,r)
def termK (s:ByteArray):Option Int:=if s=⟨#[38]⟩ then some 3 else none
def q92 (s:ByteArray):Option Int:=if s=⟨#[43]⟩ then some 2 else if s=⟨#[45]⟩ then some 4 else none
def q2o (T:List Tk) (ex:Rd→Ex×Rd) (r:Rd):Ex×Rd:=opL T termK (q2c T ex) T.length (q2c T ex r)
def q4j (T:List Tk) (ex:Rd→Ex×Rd) (r:Rd):Ex×Rd:=opL T q92 (q2o T ex) T.length (q2o T ex r)
def exprP (T:List Tk):Nat→Rd→Ex×Rd
 | 0=>q4j T fun r=>(q8w,r)
 | n+1=>q4j T (exprP T n)
structure Pre (T:List Tk) (n:Nat) (r:Rd):Prop where
 inr:InR T r
 op0:0≤r.op
 op13:r.op≤13
 ok:r.de=0→r.op≤12∧12≤r.op+n
structure StepR (T:List Tk) (r r':Rd) (w:Nat):Prop where
 inr:InR T r'
 mono:r.at'≤r'.at'
 fault:r'.de=0→r.de=0
 op1:r.op≤r'.op
 op2:r'.op≤13
 op:r'.de=0→r'.op=r.op
 sz:r'.de=0→w+r.at'≤r'.at'
theorem StepR.pre {T:List Tk} {r r':Rd} {n w:Nat} (h:StepR T r r' w) (hp:Pre T n r):Pre T n r':=
 ⟨h.inr,by have:=hp.op0;have:=h.op1;omega,h.op2,fun h0=>by have h1:=h.op h0;rw [h1];exact hp.ok (h.fault h0)⟩
theorem StepR.trans {T:List Tk} {r r1 r2:Rd} {w1 w2:Nat} (h:StepR T r r1 w1) (k:StepR T r1 r2 w2):StepR T r r2 (w1+w2):=
 ⟨k.inr,Nat.le_trans h.mono k.mono,fun h0=>h.fault (k.fault h0),by have:=h.op1;have:=k.op1;omega,k.op2,fun h0=>(k.op h0).trans (h.op (k.fault h0)),fun h0=>by have:=h.sz (k.fault h0);have:=k.sz h0;omega⟩
theorem StepR.le {T:List Tk} {r r1:Rd} {w w':Nat} (h:StepR T r r1 w) (hw:w'≤w):StepR T r r1 w':=
 ⟨h.inr,h.mono,h.fault,h.op1,h.op2,h.op,fun h0=>by have:=h.sz h0;omega⟩
theorem StepR.refl {T:List Tk} {r:Rd} {n:Nat} (hp:Pre T n r):StepR T r r 0:=⟨hp.inr,Nat.le_refl _,id,Int.le_refl _,hp.op13,fun _=>rfl,fun _=>by omega⟩
theorem more_in {T:List Tk} (hT:OkTk T) {r:Rd} (hr:InR T r) (h1:(nxP T r).s≠⟨#[]⟩) (h2:(nxP T r).s≠⟨#[63]⟩):r.at'+1<T.length:=by
 have hx:=nx_get hr
 unfold InR at hr
 rcases Nat.lt_or_ge (r.at'+1) T.length with h | h
 ·exact h
 ·have e:T.length-1=r.at':=by omega
  have:=hT.last (nxP T r) (by rw [e];exact hx)
  rcases this with h3 | h3
  ·exact absurd h3 h1
  ·exact absurd h3 h2
theorem adv {T:List Tk} (hT:OkTk T) {r:Rd} {n:Nat} (hp:Pre T n r) (h1:(nxP T r).s≠⟨#[]⟩) (h2:(nxP T r).s≠⟨#[63]⟩):StepR T r { r with at':=r.at'+1 } 1:=
 ⟨more_in hT hp.inr h1 h2,Nat.le_succ _,id,Int.le_refl _,hp.op13,fun _=>rfl,fun _=>by dsimp only;omega⟩
theorem fail_any {T:List Tk} {r r1:Rd} (t:Tk) {e:Int} (he:e≠0) (w':Nat) (h1:InR T r1) (h2:r.at'≤r1.at') (h3:r.op≤r1.op) (h4:r1.op≤13):StepR T r (q4n t e r1) w':=by
 have hne:¬ (q4n t e r1).de=0:=by
  unfold q4n
  split
  ·exact he
  ·assumption
 have e1:(q4n t e r1).at'=r1.at':=by unfold q4n;split<;>rfl
 have e2:(q4n t e r1).op=r1.op:=by unfold q4n;split<;>rfl
 exact ⟨by unfold InR;rw [e1];exact h1,by rw [e1];exact h2,fun h0=>absurd h0 hne,by rw [e2];exact h3,by rw [e2];exact h4,fun h0=>absurd h0 hne,fun h0=>absurd h0 hne⟩
theorem q75 {T:List Tk} {r r1:Rd} {w:Nat} (t:Tk) {e:Int} (he:e≠0) (w':Nat) (h:StepR T r r1 w):StepR T r (q4n t e r1) w':=fail_any t he w' h.inr h.mono h.op1 h.op2
theorem is_true {T:List Tk} {s:ByteArray} {r:Rd} (h:isP T s r=true):r.de=0∧(nxP T r).s=s:=by
 unfold isP at h
 simpa using h
theorem q2g {T:List Tk} (hT:OkTk T) {s:ByteArray} {r:Rd} {n:Nat} (hp:Pre T n r) (h:isP T s r=true) (h1:s≠⟨#[]⟩) (h2:s≠⟨#[63]⟩):StepR T r (isR T s r) 1:=by
 obtain ⟨-,h4⟩:=is_true h
 rw [isR,if_pos h]
 exact adv hT hp (by rw [h4];exact h1) (by rw [h4];exact h2)
theorem q45 {T:List Tk} (hT:OkTk T) {s:ByteArray} {r:Rd} {n:Nat} (hp:Pre T n r) (h1:s≠⟨#[]⟩) (h2:s≠⟨#[63]⟩):StepR T r (q1w T s r) 1:=by
 unfold q1w
 cases h:isP T s r with
 | true=>rw [if_pos rfl];exact q2g hT hp h h1 h2
 | false=>rw [if_neg (by simp)];exact q75 _ (by decide) 1 (StepR.refl hp)
theorem name_some {s:ByteArray} (h:q0q s=true):s≠⟨#[]⟩∧s≠⟨#[63]⟩:=by
 constructor
 ·rintro rfl
  revert h
  decide +kernel
 ·rintro rfl
  revert h
  decide +kernel
theorem q1v {T:List Tk} (hT:OkTk T) {r:Rd} {n:Nat} (hp:Pre T n r):StepR T r (q0m T r) 1:=by
 unfold q0m
 split
 ·rename_i h
  obtain ⟨h1,h2⟩:=name_some h.1
  exact adv hT hp h1 h2
 ·exact q75 _ (by decide) 1 (StepR.refl hp)
theorem q2k {T:List Tk} (hT:OkTk T) {r:Rd} (hr:InR T r):(q2j T r).size≤1125899906842624:=by
 unfold q2j
 split
 ·exact hT.size _ (List.mem_of_getElem? (nx_get hr))
 ·exact Nat.zero_le _
theorem q3r {T:List Tk} {r r1:Rd} {w:Nat} (k:Int) (t:Tk) (a c:Ex) (h:StepR T r r1 w):StepR T r (twoR k t a c r1) w:=by
 unfold twoR
 split
 ·exact q75 _ (by decide) w h
 ·exact h
structure ExSt (T:List Tk) (r:Rd) (p:Ex×Rd):Prop where
 st:StepR T r p.2 (esz p.1)
 ok:OkE p.1
theorem q6w {k:Int} {n o:ByteArray} (hn:n.size≤1125899906842624) (ho:o.size≤1125899906842624):OkE (.mk k n o []):=.mk k n o [] (by simp) hn ho fun e he=>by (cases he)
theorem esz_leaf {k:Int} {n o:ByteArray}:esz (.mk k n o [])=1:=by simp [esz,eszL]
def Inner (T:List Tk) (n:Nat) (ex:Rd→Ex×Rd):Prop:=∀ m,n=m+1→∀ r,Pre T m r→ExSt T r (ex r)
theorem lp_pre {T:List Tk} (hT:OkTk T) {n:Nat} {r:Rd} (hp:Pre T n r) (h:isP T sLP r=true) (h12:¬ 12<r.op+1):∃ m,n=m+1∧Pre T m { isR T sLP r with op:=r.op+1 }:=by
 obtain ⟨h1,h2⟩:=is_true h
 obtain ⟨k1,k2⟩:=hp.ok h1
 have hs:=q2g hT hp h (by decide +kernel) (by decide +kernel)
 refine ⟨n-1,by omega,hs.inr,?_,?_,fun _=>?_⟩
 ·have:=hp.op0;dsimp only;omega
 ·dsimp only;omega
 ·dsimp only;omega
theorem atom_ok {T:List Tk} (hT:OkTk T) {n:Nat} {ex:Rd→Ex×Rd} (hex:Inner T n ex) {r:Rd} (hp:Pre T n r):ExSt T r (q2c T ex r):=by
 unfold q2c
 split
 ·rename_i h
  have hs:=q2g hT hp h (by decide +kernel) (by decide +kernel)
  obtain ⟨h1,h2⟩:=is_true h
  split
  ·rename_i h12
   have h5:r.op=12:=by have:=(hp.ok h1).1;omega
   refine ⟨?_,q6w (Nat.zero_le _) (Nat.zero_le _)⟩
   exact fail_any _ (by decide) _ hs.inr hs.mono (by dsimp only;omega) (by dsimp only;omega)
  ·rename_i h12
   obtain ⟨m,hm,hp2⟩:=lp_pre hT hp h h12
   have he:=hex m hm _ hp2
   generalize ex { isR T sLP r with op:=r.op+1 }=q at he
   obtain ⟨e,r3⟩:=q
   have hp3:=he.st.pre hp2
   have hm2:=q45 hT hp3 (s:=sRP) (by decide +kernel) (by decide +kernel)
   have h6:=he.st.trans hm2
   dsimp only at h6 ⊢
   refine ⟨⟨h6.inr,?_,fun h0=>?_,?_,?_,fun h0=>?_,fun h0=>?_⟩,he.ok⟩
   ·have:=hs.mono;have:=h6.mono;dsimp only at *;omega
   ·exact hs.fault (h6.fault h0)
   ·have:=h6.op1;dsimp only at *;omega
   ·have:=h6.op2;dsimp only at *;omega
   ·have:=h6.op h0;dsimp only at *;omega
   ·have h7:=h6.sz h0
    have h8:=hs.mono
    dsimp only at *;omega
 ·have hn:=q1v hT hp
  have hpn:=hn.pre hp
  split
  ·rename_i h
   have h1:=q2g hT hpn h (by decide +kernel) (by decide +kernel)
   have hp1:=h1.pre hpn
   have h2:=q1v hT hp1
   refine ⟨?_,q6w (q2k hT hp.inr) (q2k hT hp1.inr)⟩
   rw [esz_leaf]
   exact ((hn.trans h1).trans h2).le (by omega)
  ·refine ⟨?_,q6w (q2k hT hp.inr) (Nat.zero_le _)⟩
   rw [esz_leaf]
   exact hn
def Signs (tk:ByteArray→Option Int):Prop:=tk ⟨#[]⟩=none∧tk ⟨#[63]⟩=none
theorem opL_ok {T:List Tk} (hT:OkTk T) {n:Nat} {tk:ByteArray→Option Int} (htk:Signs tk) {sub:Rd→Ex×Rd} (hsub:∀ r,Pre T n r→ExSt T r (sub r)) {r0:Rd} (hp0:Pre T n r0):∀ {f:Nat} {p:Ex×Rd},ExSt T r0 p→ExSt T r0 (opL T tk sub f p)
 | 0,p,h=>h
 | f+1,(e,r),h=>by
  unfold opL
  split
  ·rename_i h0
   split
   ·rename_i k hk
    have hp:=h.st.pre hp0
    have ha:=adv hT hp (fun h1=>by rw [h1,htk.1] at hk;cases hk) (fun h1=>by rw [h1,htk.2] at hk;cases hk)
    have hs:=hsub _ (ha.pre hp)
    refine opL_ok hT htk hsub hp0 ⟨q3r _ _ _ _ ?_,twoE_ok h.ok hs.ok⟩
    have hst:=h.st
    have hss:=hs.st
    dsimp only at hst ha hss ⊢
    rw [twoE_sz]
    exact ((hst.trans ha).trans hss).le (by omega)
   ·exact h
  ·exact h
theorem signs_term:Signs termK:=⟨by decide +kernel,by decide +kernel⟩
theorem signs_expr:Signs q92:=⟨by decide +kernel,by decide +kernel⟩
theorem term_ok {T:List Tk} (hT:OkTk T) {n:Nat} {ex:Rd→Ex×Rd} (hex:Inner T n ex) {r:Rd} (hp:Pre T n r):ExSt T r (q2o T ex r):=opL_ok hT signs_term (fun _ h=>atom_ok hT hex h) hp (atom_ok hT hex hp)
theorem exprOf_ok {T:List Tk} (hT:OkTk T) {n:Nat} {ex:Rd→Ex×Rd} (hex:Inner T n ex) {r:Rd} (hp:Pre T n r):ExSt T r (q4j T ex r):=opL_ok hT signs_expr (fun _ h=>term_ok hT hex h) hp (term_ok hT hex hp)
theorem expr_ok {T:List Tk} (hT:OkTk T):∀ {n:Nat} {r:Rd},Pre T n r→ExSt T r (exprP T n r)
 | 0,r,hp=>exprOf_ok hT (fun m h=>by omega) hp
 | n+1,r,hp=>exprOf_ok hT (fun m h r hr=>by
  have:n=m:=by omega
  subst this
  exact expr_ok hT hr) hp
set_option maxRecDepth 4000
theorem sub_both {S S1:q00} (h:Sub S S1) (b:Nat) (o:AObj):Sub (supd S b o) (supd S1 b o):=by
 intro x y hx
 rw [q01] at hx ⊢
 split
 ·rename_i hb;rw [if_pos hb] at hx;exact hx
 ·rename_i hb;rw [if_neg hb] at hx;exact h x y hx
theorem sub_cell {S:q00} {b b2:Nat} {o x y:AObj} (hb2:sget S b2=none) (hne:b2≠b):Sub (supd S b o) (supd (supd (supd S b2 x) b o) b2 y):=
 Sub.supd (by rw [q01,if_neg (Ne.symm hne)];exact hb2) (sub_both (Sub.fresh x hb2) b o)
theorem rd_lit {T:List Tk} {a:Nat} {o x y z:Int}:(AObj.cells 145 [.sl 3 (T.map tkC),.int .i64 a,.int .i64 o,.int .i64 x,.int .i64 y,.int .i64 z] 6)=rdO T ⟨a,o,x,y,z⟩:=rfl
abbrev c41:AObj:=.cells 51 [.int .i64 0,.str ⟨#[]⟩,.str ⟨#[]⟩,.nils] 4
def InnerW (T:List Tk) (n b:Nat) (ex:Rd→Ex×Rd):Prop:=∀ m,n=m+1→∀ r,Pre T m r→AFunR nrx132 b [] T r (.agg (exC (ex r).1)) (ex r).2
theorem c_atom {T:List Tk} (hT:OkTk T) {n b:Nat} {ex:Rd→Ex×Rd} (hex:Inner T n ex) (hexW:InnerW T n b ex) {r:Rd} (hp:Pre T n r):AFunR nrx203 b [] T r (.agg (exC (q2c T ex r).1)) (q2c T ex r).2:=by
 intro S h
 have hl:=hT.len
 have hr':r.at'<T.length:=hp.inr
 have h0:=hp.op0
 have h13:=hp.op13
 refine wx203 ?_
 unfold Bx203
 intro b2 hb2
 have hne:b2≠b:=q0o hb2 h
 have hS0:sget (supd S b2 c41) b=some (rdO T r):=by rw [q01,if_neg hne];exact h
 refine (q58 hT hp.inr).ca hS0 ?_
 rw [q0t hS0]
 (try simp only [rwp,hwR,zA,zB,zC,zD,zE,zF,zG,zH,zI,tkC])
 refine (c_is hT hp.inr sLP).ca hS0 ?_
 have fin:∀ (k:Int) (s o:ByteArray) (v:AV) (e:Ex) (r':Rd),e=.mk k s o e.kids→q2c T ex r=(e,r')→(v=.nils∧e.kids=[]∨v=.sl 4 (e.kids.map exC)) →
   rtW [.cell (.ptr b2 0) 4 true] (fun ae S'=>ae=.ret (.agg (exC (q2c T ex r).1))∧S'=supd S b (rdO T (q2c T ex r).2)) (supd (supd (supd S b2 c41) b (rdO T r')) b2 (.cells 51 [.int .i64 k,.str s,.str o,v] 4)):=by
  intro k s o v e r' he0 he hv
  rw [he]
  refine rtW_fr (supd S b (rdO T r')) (.agg (exC e)) (sub_cell hb2 hne) ?_ ⟨rfl,rfl⟩
  rw [he0,q0c]
  (try simp only [rwp,hwR,zA,zB,zC,zD,zE,zF,zG,zH,zI])
  refine .ag (.cons (.same _) (.cons (.same _) (.cons (.same _) (.cons ?_ .nil))))
  rcases hv with ⟨rfl,h2⟩ | rfl
  ·rw [Ex.kids,h2];exact .nils 4
  ·exact .same _
 have hob:∀ o,q0k (supd (supd S b2 c41) b o) b2=some (51,[.int .i64 0,.str ⟨#[]⟩,.str ⟨#[]⟩,.nils],4):=fun o=>by rw [q0i (Ne.symm hne)];exact q0j
 cases hi:isP T sLP r with
 | true=>
  have hs:=q2g hT hp hi (by decide +kernel) (by decide +kernel)
  have hir:isR T sLP r={ r with at':=r.at'+1 }:=by rw [isR,if_pos hi]
  (try simp only [rwp,hwR,zA,zB,zC,zD,zE,zF,zG,zH,zI,q08 (q7r q19),q7r q19,hir])
  rw [q07 (by omega) (by omega)]
  simp only [rd_lit]
  (refine q02 (fun h12=>?_) (fun h12=>?_)<;>(try simp only [hlc] at h12))
  ·refine (c_fail (nxP T r) 9).ca q19 ?_
   (try simp only [rwp,hwR,zA,zB,zC,zD,zE,zF,zG,zH,zI,hob])
   refine fin 0 _ _ _ q8w _ rfl ?_ (.inl ⟨rfl,rfl⟩)
   rw [q2c,if_pos hi,if_pos h12,hir]
  ·obtain ⟨m,hm,hp2⟩:=lp_pre hT hp hi h12
   have he:=hex m hm _ hp2
   rw [hir] at hp2 he
   refine (hexW m hm _ hp2).ca q19 ?_
   have hat:q2c T ex r=((ex { r with at':=r.at'+1,op:=r.op+1 }).1,{ q1w T sRP (ex { r with at':=r.at'+1,op:=r.op+1 }).2 with op:=(q1w T sRP (ex { r with at':=r.at'+1,op:=r.op+1 }).2).op-1 }):=by
    rw [q2c,if_pos hi,if_neg h12,hir]
   generalize ex { r with at':=r.at'+1,op:=r.op+1 }=q at he hat
   obtain ⟨e,r3⟩:=q
   have hp3:=he.st.pre hp2
   have hm2:=q45 hT hp3 (s:=sRP) (by decide +kernel) (by decide +kernel)
   have hp4:=hm2.pre hp3
   have o1:=hp4.op0
   have o2:=hp4.op13
   dsimp only at o1 o2
   (try simp only [rwp,hwR,zA,zB,zC,zD,zE,zF,zG,zH,zI,q0c])
   refine (c_must hT hp3.inr sRP).ca q19 ?_
   (try simp only [rwp,hwR,zA,zB,zC,zD,zE,zF,zG,zH,zI,q08 (q7r q19),q7r q19])
   rw [q07 (by omega) (by omega)]
   simp only [rd_lit]
   (try simp only [rwp,hwR,zA,zB,zC,zD,zE,zF,zG,zH,zI,hob,if_neg (Ne.symm hne)])
   have hf:=fin e.kind e.name e.over _ e _ (by cases e;rfl) hat (.inr rfl)
   simp only [q0c] at hf
   exact hf
 | false=>
  rw [q8n hi]
  have hn:=q1v hT hp
  have hpn:=hn.pre hp
  (try simp only [rwp,hwR,zA,zB,zC,zD,zE,zF,zG,zH,zI])
  refine (c_name hT hp.inr).ca q19 ?_
  (try simp only [rwp,hwR,zA,zB,zC,zD,zE,zF,zG,zH,zI])
  refine (c_is hT hpn.inr sDot).ca q19 ?_
  cases hd:isP T sDot (q0m T r) with
  | true=>
   have h1:=q2g hT hpn hd (by decide +kernel) (by decide +kernel)
   have hp1:=h1.pre hpn
   (try simp only [rwp,hwR,zA,zB,zC,zD,zE,zF,zG,zH,zI])
   refine (c_name hT hp1.inr).ca q19 ?_
   (try simp only [rwp,hwR,zA,zB,zC,zD,zE,zF,zG,zH,zI,hob])
   refine fin _ _ _ _ (.mk 1 (q2j T r) (q2j T (isR T sDot (q0m T r))) []) _ rfl ?_ (.inl ⟨rfl,rfl⟩)
   rw [q2c,if_neg (by rw [hi];simp),if_pos hd]
  | false=>
   rw [q8n hd]
   (try simp only [rwp,hwR,zA,zB,zC,zD,zE,zF,zG,zH,zI,hob])
   refine fin _ _ _ _ (.mk 0 (q2j T r) ⟨#[]⟩ []) _ rfl ?_ (.inl ⟨rfl,rfl⟩)
   rw [q2c,if_neg (by rw [hi];simp),if_neg (by rw [hd];simp)]
theorem opL_stop {T:List Tk} {tk:ByteArray→Option Int} {sub:Rd→Ex×Rd} {f:Nat} {p:Ex×Rd} (h:¬ (p.2.de=0∧(tk (nxP T p.2).s).isSome=true)):opL T tk sub f p=p:=by
 cases f with
 | zero=>rfl
 | succ f=>
  obtain ⟨e,r⟩:=p
  unfold opL
  split
  ·rename_i h0
   split
   ·rename_i k hk
    exact absurd ⟨h0,by rw [hk];rfl⟩ h
   ·rfl
  ·rfl
theorem opL_more {T:List Tk} (hT:OkTk T) {n:Nat} {tk:ByteArray→Option Int} (htk:Signs tk) {sub:Rd→Ex×Rd} (hsub:∀ r,Pre T n r→ExSt T r (sub r)):∀ {f g:Nat} {p:Ex×Rd},Pre T n p.2→T.length≤f+p.2.at'→T.length≤g+p.2.at'→opL T tk sub f p=opL T tk sub g p
 | 0,g,p,hp,h1,h2=>by have h3:p.2.at'<T.length:=hp.inr;omega
 | f+1,0,p,hp,h1,h2=>by have h3:p.2.at'<T.length:=hp.inr;omega
 | f+1,g+1,(e,r),hp,h1,h2=>by
  dsimp only at h1 h2
  unfold opL
  split
  ·rename_i h0
   split
   ·rename_i k hk
    have ha:=adv hT hp (fun h1=>by rw [h1,htk.1] at hk;cases hk) (fun h1=>by rw [h1,htk.2] at hk;cases hk)
    have hs:=hsub _ (ha.pre hp)
    have h5:=q3r k (nxP T r) e (sub { r with at':=r.at'+1 }).1 hs.st
    have h6:=h5.mono
    dsimp only at h6 hp
    exact opL_more hT htk hsub (h5.pre (ha.pre hp)) (by dsimp only;omega) (by dsimp only;omega)
   ·rfl
  ·rfl
structure TrI (S:q00) (b b2 b3:Nat) (T:List Tk) (p:Ex×Rd) (S':q00):Prop where
 rd:sget S' b=some (rdO T p.2)
 c3:sget S' b3=some (.cells 51 (exC p.1) 4)
 c2:sget S' b2=some c41
 oth:∀ x,b≠x→b3≠x→b2≠x→sget S' x=sget S x
theorem TrI.step {S S':q00} {b b2 b3:Nat} {T:List Tk} {p:Ex×Rd} (h:TrI S b b2 b3 T p S') (n1:b2≠b) (n2:b3≠b) (n3:b3≠b2) (e:Ex) (r':Rd):TrI S b b2 b3 T (e,r') (supd (supd S' b (rdO T r')) b3 (.cells 51 (exC e) 4)):=
 ⟨by rw [q01,if_neg n2,q01,if_pos rfl],by rw [q01,if_pos rfl],by rw [q01,if_neg n3,q01,if_neg (Ne.symm n1)];exact h.c2,fun x h1 h2 h3=>by rw [q01,if_neg h2,q01,if_neg h1];exact h.oth x h1 h2 h3⟩
theorem TrI.sub {S S':q00} {b b2 b3:Nat} {T:List Tk} {p:Ex×Rd} (h:TrI S b b2 b3 T p S') (n1:b2≠b) (n2:b3≠b) (n3:b3≠b2) (k2:sget S b2=none) (k3:sget S b3=none) (o:AObj):Sub (supd S b (rdO T p.2)) (sdel (supd S' b2 o) b2):=by
 intro x y hx
 have h2:b2≠x:=by
  rintro rfl
  rw [q01,if_neg (Ne.symm n1),k2] at hx;cases hx
 have h3:b3≠x:=by
  rintro rfl
  rw [q01,if_neg (Ne.symm n2),k3] at hx;cases hx
 rw [q0d,if_neg h2,q01,if_neg h2]
 rw [q01] at hx
 by_cases hb:b=x
 ·subst hb;rw [if_pos rfl] at hx;rw [h.rd];exact hx
 ·rw [if_neg hb] at hx;rw [h.oth x hb h3 h2];exact hx
theorem c_term {T:List Tk} (hT:OkTk T) {n b:Nat} {ex:Rd→Ex×Rd} (hex:Inner T n ex) (hexW:InnerW T n b ex) {r:Rd} (hp:Pre T n r):AFunR nrx171 b [] T r (.agg (exC (q2o T ex r).1)) (q2o T ex r).2:=by
 intro S h
 have hl:=hT.len
 refine wx171 ?_
 unfold Bx171
 intro b2 hb2
 have n1:b2≠b:=q0o hb2 h
 have hS0:sget (supd S b2 c41) b=some (rdO T r):=by rw [q01,if_neg n1];exact h
 (try simp only [rwp,hwR,zA,zB,zC,zD,zE,zF,zG,zH,zI])
 refine (c_atom hT hex hexW hp).ca hS0 ?_
 intro b3 hb3
 have n2:b3≠b:=q0o hb3 q19
 have n3:b3≠b2:=q0o hb3 (x:=c41) (by rw [q01,if_neg (Ne.symm n1),q01,if_pos rfl])
 have k3:sget S b3=none:=by rw [q01,if_neg (Ne.symm n2),q01,if_neg (Ne.symm n3)] at hb3;exact hb3
 have hI0:TrI S b b2 b3 T (q2c T ex r) (supd (supd (supd S b2 c41) b (rdO T (q2c T ex r).2)) b3 (.cells 51 (exC (q2c T ex r).1) 4)):=
  ⟨by rw [q01,if_neg n2,q01,if_pos rfl],by rw [q01,if_pos rfl],by rw [q01,if_neg n3,q01,if_neg (Ne.symm n1),q01,if_pos rfl],fun x h1 h2 h3=>by rw [q01,if_neg h2,q01,if_neg h1,q01,if_neg h3]⟩
 have hat:=atom_ok hT hex hp
 have hfin:opL T termK (q2c T ex) T.length (q2c T ex r)=q2o T ex r:=rfl
 simp only [q0c] at hI0
 (try simp only [rwp,hwR,zA,zB,zC,zD,zE,zF,zG,zH,zI,q0c,q1c])
 rw [← q0c]
 simp only [← q0c] at hI0
 generalize q2c T ex r=p0 at hI0 hat hfin
 refine LoopP.introS (fun _:Ex×Rd=>[(0,.ptr b 0),(2,.ptr b2 0),(3,.ptr b3 0)])
  (fun p S'=>TrI S b b2 b3 T p S'∧ExSt T r p∧opL T termK (q2c T ex) T.length p=q2o T ex r) (fun p=>T.length-p.2.at') p0 ⟨by simpa only [q0c] using hI0,hat,hfin⟩ rfl ?_
 clear hI0 hat hfin
 rintro ⟨e,r1⟩ S1 ⟨hI,hE,hf⟩ q hq
 have hp1:=hE.st.pre hp
 have hin:r1.at'<T.length:=hp1.inr
 have ho:=q7r hI.rd
 (try simp only [rwp,hwR,zA,zB,zC,zD,zE,zF,zG,zH,zI,C171_1,q08 ho])
 have stop:¬ (r1.de=0∧(termK (nxP T r1).s).isSome=true)→C171_2 (fun ae S'=>ae=.ret (.agg (exC (q2o T ex r).1))∧S'=supd S b (rdO T (q2o T ex r).2)) q (.ptr b 0) (.ptr b2 0) (.ptr b3 0) (.bool false) S1:=fun hn=>by
  rw [opL_stop hn] at hf
  rw [← hf]
  unfold C171_2
  have hsub:=hI.sub n1 n2 n3 hb2 k3
  have hc3:=objAt_some.2 hI.c3
  have hc2:=objAt_some.2 hI.c2
  simp only [q0c] at hc3
  (try simp only [rwp,hwR,zA,zB,zC,zD,zE,zF,zG,zH,zI,q08 hc3,hc2,q0c,q1c])
  refine q1f _ (hsub _) ?_
  (try simp only [rwp,hwR,zA,zB,zC,zD,zE,zF,zG,zH,zI,q0c])
 cases a1:decide (r1.de=0) with
 | false=>
  (try simp only [rwp,hwR,zA,zB,zC,zD,zE,zF,zG,zH,zI])
  exact stop fun h=>by rw [decide_eq_true h.1] at a1;cases a1
 | true=>
  have hde:r1.de=0:=of_decide_eq_true a1
  (try simp only [rwp,hwR,zA,zB,zC,zD,zE,zF,zG,zH,zI])
  refine (q58 hT hp1.inr).ca hI.rd ?_
  rw [q0t hI.rd]
  (try simp only [rwp,hwR,zA,zB,zC,zD,zE,zF,zG,zH,zI,tkC])
  cases a2:decide ((nxP T r1).s=⟨#[38]⟩) with
  | false=>
   (try simp only [rwp,hwR,zA,zB,zC,zD,zE,zF,zG,zH,zI])
   exact stop fun h=>by
    have:=of_decide_eq_false a2
    rw [termK,if_neg this] at h
    cases h.2
  | true=>
   have hk:termK (nxP T r1).s=some 3:=by rw [termK,if_pos (of_decide_eq_true a2)]
   have ha:=adv hT hp1 (fun h1=>by rw [h1] at hk;revert hk;decide +kernel) (fun h1=>by rw [h1] at hk;revert hk;decide +kernel)
   have hpa:=ha.pre hp1
   have hs:=atom_ok hT hex hpa
   have hps:=hs.st.pre hpa
   have hfu:opL T termK (q2c T ex) T.length (twoE 3 e (q2c T ex { r1 with at':=r1.at'+1 }).1,twoR 3 (nxP T r1) e (q2c T ex { r1 with at':=r1.at'+1 }).1 (q2c T ex { r1 with at':=r1.at'+1 }).2)=q2o T ex r:=by
    rw [← hf]
    obtain ⟨m,hm⟩:∃ m,T.length=m+1:=⟨T.length-1,by omega⟩
    have h5:=q3r 3 (nxP T r1) e (q2c T ex { r1 with at':=r1.at'+1 }).1 hs.st
    have h6:=h5.mono
    dsimp only at h6
    conv=>rhs;rw [hm,opL,if_pos hde]
    simp only [hk]
    exact opL_more hT signs_term (fun _ h=>atom_ok hT hex h) (h5.pre hpa) (by dsimp only;omega) (by dsimp only;omega)
   have hE2:ExSt T r (twoE 3 e (q2c T ex { r1 with at':=r1.at'+1 }).1,twoR 3 (nxP T r1) e (q2c T ex { r1 with at':=r1.at'+1 }).1 (q2c T ex { r1 with at':=r1.at'+1 }).2):=by
    refine ⟨q3r _ _ _ _ ?_,twoE_ok hE.ok hs.ok⟩
    have hst:=hE.st
    have hss:=hs.st
    dsimp only at hst ha hss ⊢
    rw [twoE_sz]
    exact ((hst.trans ha).trans hss).le (by omega)
   have hmu:r1.at'+1≤(twoR 3 (nxP T r1) e (q2c T ex { r1 with at':=r1.at'+1 }).1 (q2c T ex { r1 with at':=r1.at'+1 }).2).at':=(q3r 3 (nxP T r1) e _ hs.st).mono
   (try simp only [rwp,hwR,zA,zB,zC,zD,zE,zF,zG,zH,zI,C171_2])
   refine (q58 hT hp1.inr).ca hI.rd ?_
   rw [q0t hI.rd]
   (try simp only [rwp,hwR,zA,zB,zC,zD,zE,zF,zG,zH,zI,tkC,q08 ho,ho])
   (simp (disch:=omega) only [q07])
   rw [show ((r1.at':Int)+1)=((r1.at'+1:Nat):Int) from rfl]
   simp only [rd_lit]
   refine (c_atom hT hex hexW hpa).ca q19 ?_
   generalize q2c T ex { r1 with at':=r1.at'+1 }=p2 at hs hps hfu hE2 hmu
   obtain ⟨c,r2⟩:=p2
   have hbd:r2.de=0→esz e+esz c+1≤1125899906842624:=fun h0=>by
    have h7:=hs.st.sz h0
    have h8:=hE.st.sz (ha.fault (hs.st.fault h0))
    have h9:r2.at'<T.length:=hps.inr
    dsimp only at h7 h8
    omega
   have htwo:=c_two (T:=T) (r:=r2) (b:=b) 3 (nxP T r1) hE.ok hs.ok hbd
   dsimp only at htwo hfu hE2 hmu
   have c3:∀ r',q0k (supd S1 b (rdO T r')) b3=some (51,exC e,4):=fun r'=>by rw [q0i (Ne.symm n2)];exact objAt_some.2 hI.c3
   have st:=hI.step n1 n2 n3 (twoE 3 e c) (twoR 3 (nxP T r1) e c r2)
   simp only [q0c] at c3 st
   (try simp only [rwp,hwR,zA,zB,zC,zD,zE,zF,zG,zH,zI,q0c,q08 (c3 r2)])
   simp only [← q0c]
   refine htwo.ca q19 ?_
   generalize twoE 3 e c=e3 at hfu hE2 st ⊢
   generalize twoR 3 (nxP T r1) e c r2=r3 at hfu hE2 st c3 hmu ⊢
   (try simp only [rwp,hwR,zA,zB,zC,zD,zE,zF,zG,zH,zI,q0c,c3 r3,q1c])
   exact q09 rfl (hq (e3,r3) _ ⟨by simpa only [q0c] using st,hE2,hfu⟩ (by dsimp only;omega))
set_option maxRecDepth 4000
theorem c_exprOf {T:List Tk} (hT:OkTk T) {n b:Nat} {ex:Rd→Ex×Rd} (hex:Inner T n ex) (hexW:InnerW T n b ex) {r:Rd} (hp:Pre T n r):AFunR nrx132 b [] T r (.agg (exC (q4j T ex r).1)) (q4j T ex r).2:=by
 intro S h
 have hl:=hT.len
 refine wx132 ?_
 unfold Bx132
 intro b2 hb2
 have n1:b2≠b:=q0o hb2 h
 have hS0:sget (supd S b2 c41) b=some (rdO T r):=by rw [q01,if_neg n1];exact h
 (try simp only [rwp,hwR,zA,zB,zC,zD,zE,zF,zG,zH,zI])
 refine (c_term hT hex hexW hp).ca hS0 ?_
 intro b3 hb3
 have n2:b3≠b:=q0o hb3 q19
 have n3:b3≠b2:=q0o hb3 (x:=c41) (by rw [q01,if_neg (Ne.symm n1),q01,if_pos rfl])
 have k3:sget S b3=none:=by rw [q01,if_neg (Ne.symm n2),q01,if_neg (Ne.symm n3)] at hb3;exact hb3
 have hI0:TrI S b b2 b3 T (q2o T ex r) (supd (supd (supd S b2 c41) b (rdO T (q2o T ex r).2)) b3 (.cells 51 (exC (q2o T ex r).1) 4)):=
  ⟨by rw [q01,if_neg n2,q01,if_pos rfl],by rw [q01,if_pos rfl],by rw [q01,if_neg n3,q01,if_neg (Ne.symm n1),q01,if_pos rfl],fun x h1 h2 h3=>by rw [q01,if_neg h2,q01,if_neg h1,q01,if_neg h3]⟩
 have hat:=term_ok hT hex hp
 have hfin:opL T q92 (q2o T ex) T.length (q2o T ex r)=q4j T ex r:=rfl
 simp only [q0c] at hI0
 (try simp only [rwp,hwR,zA,zB,zC,zD,zE,zF,zG,zH,zI,q0c,q1c])
 rw [← q0c]
 simp only [← q0c] at hI0
 generalize q2o T ex r=p0 at hI0 hat hfin
 refine LoopP.introS (fun _:Ex×Rd=>[(0,.ptr b 0),(2,.ptr b2 0),(3,.ptr b3 0)])
  (fun p S'=>TrI S b b2 b3 T p S'∧ExSt T r p∧opL T q92 (q2o T ex) T.length p=q4j T ex r) (fun p=>T.length-p.2.at') p0 ⟨by simpa only [q0c] using hI0,hat,hfin⟩ rfl ?_
 clear hI0 hat hfin
 rintro ⟨e,r1⟩ S1 ⟨hI,hE,hf⟩ q hq
 have hp1:=hE.st.pre hp
 have hin:r1.at'<T.length:=hp1.inr
 have ho:=q7r hI.rd
 (try simp only [rwp,hwR,zA,zB,zC,zD,zE,zF,zG,zH,zI,C132_1,q08 ho])
 have stop:¬ (r1.de=0∧(q92 (nxP T r1).s).isSome=true)→C132_4 (fun ae S'=>ae=.ret (.agg (exC (q4j T ex r).1))∧S'=supd S b (rdO T (q4j T ex r).2)) q (.ptr b 0) (.ptr b2 0) (.ptr b3 0) (.bool false) S1:=fun hn=>by
  rw [opL_stop hn] at hf
  rw [← hf]
  unfold C132_4
  have hsub:=hI.sub n1 n2 n3 hb2 k3
  have hc3:=objAt_some.2 hI.c3
  have hc2:=objAt_some.2 hI.c2
  simp only [q0c] at hc3
  (try simp only [rwp,hwR,zA,zB,zC,zD,zE,zF,zG,zH,zI,q08 hc3,hc2,q0c,q1c])
  refine q1f _ (hsub _) ?_
  (try simp only [rwp,hwR,zA,zB,zC,zD,zE,zF,zG,zH,zI,q0c])
 cases a1:decide (r1.de=0) with
 | false=>
  (try simp only [rwp,hwR,zA,zB,zC,zD,zE,zF,zG,zH,zI,C132_2,C132_3])
  exact stop fun h=>by rw [decide_eq_true h.1] at a1;cases a1
 | true=>
  have hde:r1.de=0:=of_decide_eq_true a1
  (try simp only [rwp,hwR,zA,zB,zC,zD,zE,zF,zG,zH,zI])
  refine (q58 hT hp1.inr).ca hI.rd ?_
  rw [q0t hI.rd]
  (try simp only [rwp,hwR,zA,zB,zC,zD,zE,zF,zG,zH,zI,tkC])
  have low:∀ k:Int,q92 (nxP T r1).s=some k→C132_5 (fun ae S'=>ae=.ret (.agg (exC (q4j T ex r).1))∧S'=supd S b (rdO T (q4j T ex r).2)) q (.ptr b 0) (.ptr b2 0) (.ptr b3 0) (.rop (tkC (nxP T r1))) (.int .i64 k) S1:=by
   intro k hk
   have ha:=adv hT hp1 (fun h1=>by rw [h1,signs_expr.1] at hk;cases hk) (fun h1=>by rw [h1,signs_expr.2] at hk;cases hk)
   have hpa:=ha.pre hp1
   have hs:=term_ok hT hex hpa
   have hps:=hs.st.pre hpa
   have hfu:opL T q92 (q2o T ex) T.length (twoE k e (q2o T ex { r1 with at':=r1.at'+1 }).1,twoR k (nxP T r1) e (q2o T ex { r1 with at':=r1.at'+1 }).1 (q2o T ex { r1 with at':=r1.at'+1 }).2)=q4j T ex r:=by
    rw [← hf]
    obtain ⟨m,hm⟩:∃ m,T.length=m+1:=⟨T.length-1,by omega⟩
    have h5:=q3r k (nxP T r1) e (q2o T ex { r1 with at':=r1.at'+1 }).1 hs.st
    have h6:=h5.mono
    dsimp only at h6
    conv=>rhs;rw [hm,opL,if_pos hde]
    simp only [hk]
    exact opL_more hT signs_expr (fun _ h=>term_ok hT hex h) (h5.pre hpa) (by dsimp only;omega) (by dsimp only;omega)
   have hE2:ExSt T r (twoE k e (q2o T ex { r1 with at':=r1.at'+1 }).1,twoR k (nxP T r1) e (q2o T ex { r1 with at':=r1.at'+1 }).1 (q2o T ex { r1 with at':=r1.at'+1 }).2):=by
    refine ⟨q3r _ _ _ _ ?_,twoE_ok hE.ok hs.ok⟩
    have hst:=hE.st
    have hss:=hs.st
    dsimp only at hst ha hss ⊢
    rw [twoE_sz]
    exact ((hst.trans ha).trans hss).le (by omega)
   have hmu:r1.at'+1≤(twoR k (nxP T r1) e (q2o T ex { r1 with at':=r1.at'+1 }).1 (q2o T ex { r1 with at':=r1.at'+1 }).2).at':=(q3r k (nxP T r1) e _ hs.st).mono
   unfold C132_5
   (try simp only [rwp,hwR,zA,zB,zC,zD,zE,zF,zG,zH,zI,tkC,q08 ho,ho])
   (simp (disch:=omega) only [q07])
   rw [show ((r1.at':Int)+1)=((r1.at'+1:Nat):Int) from rfl]
   simp only [rd_lit]
   refine (c_term hT hex hexW hpa).ca q19 ?_
   generalize q2o T ex { r1 with at':=r1.at'+1 }=p2 at hs hps hfu hE2 hmu
   obtain ⟨c,r2⟩:=p2
   have hbd:r2.de=0→esz e+esz c+1≤1125899906842624:=fun h0=>by
    have h7:=hs.st.sz h0
    have h8:=hE.st.sz (ha.fault (hs.st.fault h0))
    have h9:r2.at'<T.length:=hps.inr
    dsimp only at h7 h8
    omega
   have htwo:=c_two (T:=T) (r:=r2) (b:=b) k (nxP T r1) hE.ok hs.ok hbd
   dsimp only at htwo hfu hE2 hmu
   have c3:∀ r',q0k (supd S1 b (rdO T r')) b3=some (51,exC e,4):=fun r'=>by rw [q0i (Ne.symm n2)];exact objAt_some.2 hI.c3
   have st:=hI.step n1 n2 n3 (twoE k e c) (twoR k (nxP T r1) e c r2)
   simp only [q0c] at c3 st
   (try simp only [rwp,hwR,zA,zB,zC,zD,zE,zF,zG,zH,zI,q0c,q08 (c3 r2)])
   simp only [← q0c]
   refine htwo.ca q19 ?_
   generalize twoE k e c=e3 at hfu hE2 st ⊢
   generalize twoR k (nxP T r1) e c r2=r3 at hfu hE2 st c3 hmu ⊢
   (try simp only [rwp,hwR,zA,zB,zC,zD,zE,zF,zG,zH,zI,q0c,c3 r3,q1c])
   exact q09 rfl (hq (e3,r3) _ ⟨by simpa only [q0c] using st,hE2,hfu⟩ (by dsimp only;omega))
  simp only [tkC] at low
  cases a2:decide ((nxP T r1).s=⟨#[43]⟩) with
  | true=>
   have e2:=of_decide_eq_true a2
   have hk:q92 (nxP T r1).s=some 2:=by rw [q92,if_pos e2]
   have e3:decide ((nxP T r1).s=⟨#[45]⟩)=false:=by rw [e2];decide +kernel
   (try simp only [rwp,hwR,zA,zB,zC,zD,zE,zF,zG,zH,zI,C132_2,C132_3,C132_4])
   refine (q58 hT hp1.inr).ca hI.rd ?_
   rw [q0t hI.rd]
   (try simp only [rwp,hwR,zA,zB,zC,zD,zE,zF,zG,zH,zI,tkC,e3])
   exact low 2 hk
  | false=>
   (try simp only [rwp,hwR,zA,zB,zC,zD,zE,zF,zG,zH,zI,C132_2])
   refine (q58 hT hp1.inr).ca hI.rd ?_
   rw [q0t hI.rd]
   (try simp only [rwp,hwR,zA,zB,zC,zD,zE,zF,zG,zH,zI,tkC])
   cases a3:decide ((nxP T r1).s=⟨#[45]⟩) with
   | true=>
    have hk:q92 (nxP T r1).s=some 4:=by rw [q92,if_neg (of_decide_eq_false a2),if_pos (of_decide_eq_true a3)]
    (try simp only [rwp,hwR,zA,zB,zC,zD,zE,zF,zG,zH,zI,C132_3,C132_4])
    refine (q58 hT hp1.inr).ca hI.rd ?_
    rw [q0t hI.rd]
    (try simp only [rwp,hwR,zA,zB,zC,zD,zE,zF,zG,zH,zI,tkC,a3])
    exact low 4 hk
   | false=>
    (try simp only [rwp,hwR,zA,zB,zC,zD,zE,zF,zG,zH,zI,C132_3])
    exact stop fun h=>by
     have h1:=of_decide_eq_false a2
     have h2:=of_decide_eq_false a3
     rw [q92,if_neg h1,if_neg h2] at h
     cases h.2
theorem c_expr {T:List Tk} (hT:OkTk T) {b:Nat}:∀ {n:Nat} {r:Rd},Pre T n r→AFunR nrx132 b [] T r (.agg (exC (exprP T n r).1)) (exprP T n r).2
 | 0,r,hp=>c_exprOf hT (fun m h=>by omega) (fun m h=>by omega) hp
 | n+1,r,hp=>c_exprOf hT (fun m h r hr=>by
   have:n=m:=by omega
   subst this
   exact expr_ok hT hr) (fun m h r hr=>by
   have:n=m:=by omega
   subst this
   exact c_expr hT hr) hp
def sHash:ByteArray:=⟨#[35]⟩
def sBar:ByteArray:=⟨#[124]⟩
def q18:ByteArray:=⟨#[58]⟩
def refP (T:List Tk) (r:Rd):Rf×Rd:=
 if isP T sHash (q0m T r) then (⟨q2j T r,q2j T (isR T sHash (q0m T r))⟩,q0m T (isR T sHash (q0m T r)))
 else (⟨q2j T r,⟨#[]⟩⟩,q0m T r)
def q4m (T:List Tk):Nat→List Rf×Rd→List Rf×Rd
 | 0,p=>p
 | f+1,(l,r)=>if isP T sBar r then q4m T f (l++[(refP T (isR T sBar r)).1],(refP T (isR T sBar r)).2) else (l,r)
def relP (T:List Tk) (r:Rd):(Rl×Bool)×Rd:=
 if isP T q0b r then
  ((⟨q2j T (isR T q0b r),(q4m T T.length ([(refP T (q1w T q18 (q0m T (isR T q0b r)))).1],(refP T (q1w T q18 (q0m T (isR T q0b r)))).2)).1,q8w⟩,true),
   (q4m T T.length ([(refP T (q1w T q18 (q0m T (isR T q0b r)))).1],(refP T (q1w T q18 (q0m T (isR T q0b r)))).2)).2)
 else if isP T q1e r then
  ((⟨q2j T (isR T q1e r),[],(exprP T 12 (q1w T q18 (q0m T (isR T q1e r)))).1⟩,true),(exprP T 12 (q1w T q18 (q0m T (isR T q1e r)))).2)
 else ((⟨⟨#[]⟩,[],q8w⟩,false),r)
def q3q (T:List Tk):Nat→List Rl×Rd→List Rl×Rd
 | 0,p=>p
 | f+1,(l,r)=>if (relP T r).1.2=true then q3q T f (l++[(relP T r).1.1],(relP T r).2) else (l,(relP T r).2)
def q29 (T:List Tk):Nat→List Ty×Rd→List Ty×Rd
 | 0,p=>p
 | f+1,(l,r)=>if isP T q25 r then
   q29 T f (l++[⟨q2j T (isR T q25 r),(q3q T T.length ([],q0m T (isR T q25 r))).1⟩],(q3q T T.length ([],q0m T (isR T q25 r))).2)
  else (l,r)
def endR (T:List Tk) (r:Rd):Rd:=if r.de=0∧¬ (nxP T r).s=⟨#[]⟩ then q4n (nxP T r) 8 r else r
def rd0:Rd:=⟨0,0,0,0,0⟩
def q6u (T:List Tk):List Ty×AV:=
 if (endR T (q29 T T.length ([],rd0)).2).de=0 then ((q29 T T.length ([],rd0)).1,.agg [.int .i64 0,.int .i64 0,.int .i64 0])
 else ([],.agg [.int .i64 (endR T (q29 T T.length ([],rd0)).2).dl,.int .i64 (endR T (q29 T T.length ([],rd0)).2).dc,.int .i64 (endR T (q29 T T.length ([],rd0)).2).de])
theorem ref_step {T:List Tk} (hT:OkTk T) {r:Rd} {n:Nat} (hp:Pre T n r):StepR T r (refP T r).2 1∧OkF (refP T r).1:=by
 have hn:=q1v hT hp
 have hpn:=hn.pre hp
 unfold refP
 split
 ·rename_i h
  have h1:=q2g hT hpn h (by decide +kernel) (by decide +kernel)
  have hp1:=h1.pre hpn
  have h2:=q1v hT hp1
  exact ⟨((hn.trans h1).trans h2).le (by omega),q2k hT hp.inr,q2k hT hp1.inr⟩
 ·exact ⟨hn,q2k hT hp.inr,Nat.zero_le _⟩
structure RfSt (T:List Tk) (r:Rd) (p:List Rf×Rd):Prop where
 st:StepR T r p.2 p.1.length
 len:p.1.length≤p.2.at'+1
 ok:∀ f∈p.1,OkF f
theorem refs_next {T:List Tk} (hT:OkTk T) {n:Nat} {r0 r:Rd} (hp0:Pre T n r0) {l:List Rf} (h:RfSt T r0 (l,r)) (hi:isP T sBar r=true) :
  RfSt T r0 (l++[(refP T (isR T sBar r)).1],(refP T (isR T sBar r)).2)∧r.at'+1≤(refP T (isR T sBar r)).2.at':=by
 have hp:=h.st.pre hp0
 have h1:=q2g hT hp hi (by decide +kernel) (by decide +kernel)
 obtain ⟨h2,h3⟩:=ref_step hT (h1.pre hp)
 have e1:(isR T sBar r).at'=r.at'+1:=by rw [isR,if_pos hi]
 have h4:=h2.mono
 have h5:=h.len
 dsimp only at h4 h5 e1 h2
 refine ⟨⟨?_,?_,fun f hf=>?_⟩,by omega⟩
 ·have h6:=(h.st.trans h1).trans h2
  exact h6.le (by simp)
 ·simp only [List.length_append,List.length_cons,List.length_nil]
  omega
 ·rcases List.mem_append.1 hf with hf | hf
  ·exact h.ok f hf
  ·rw [List.mem_singleton.1 hf];exact h3
theorem refsL_ok {T:List Tk} (hT:OkTk T) {n:Nat} {r0:Rd} (hp0:Pre T n r0):∀ {f:Nat} {p:List Rf×Rd},RfSt T r0 p→RfSt T r0 (q4m T f p)
 | 0,p,h=>h
 | f+1,(l,r),h=>by
  unfold q4m
  split
  ·rename_i hi
   exact refsL_ok hT hp0 (refs_next hT hp0 h hi).1
  ·exact h
theorem refsL_more {T:List Tk} (hT:OkTk T) {n:Nat} {r0:Rd} (hp0:Pre T n r0):∀ {f g:Nat} {p:List Rf×Rd},RfSt T r0 p→T.length≤f+p.2.at'→T.length≤g+p.2.at'→q4m T f p=q4m T g p
 | 0,g,p,h,h1,h2=>by have h3:p.2.at'<T.length:=h.st.inr;omega
 | f+1,0,p,h,h1,h2=>by have h3:p.2.at'<T.length:=h.st.inr;omega
 | f+1,g+1,(l,r),h,h1,h2=>by
  dsimp only at h1 h2
  unfold q4m
  split
  ·rename_i hi
   obtain ⟨k1,k2⟩:=refs_next hT hp0 h hi
   exact refsL_more hT hp0 k1 (by dsimp only;omega) (by dsimp only;omega)
  ·rfl
theorem rel_ok {T:List Tk} (hT:OkTk T) {r:Rd} (hp:Pre T 12 r):StepR T r (relP T r).2 (if (relP T r).1.2 then rsz (relP T r).1.1 else 0)∧OkR (relP T r).1.1∧((relP T r).1.2=true→r.at'+1≤(relP T r).2.at'):=by
 unfold relP
 split
 ·rename_i hi
  have h1:=q2g hT hp hi (by decide +kernel) (by decide +kernel)
  have hp1:=h1.pre hp
  have h2:=q1v hT hp1
  have hp2:=h2.pre hp1
  have h3:=q45 hT hp2 (s:=q18) (by decide +kernel) (by decide +kernel)
  have hp3:=h3.pre hp2
  obtain ⟨h4,h5⟩:=ref_step hT hp3
  have hR0:RfSt T (q1w T q18 (q0m T (isR T q0b r))) ([(refP T (q1w T q18 (q0m T (isR T q0b r)))).1],(refP T (q1w T q18 (q0m T (isR T q0b r)))).2):=
   ⟨h4,by simp,fun f hf=>by rw [List.mem_singleton.1 hf];exact h5⟩
  have hR:=refsL_ok hT hp3 (f:=T.length) hR0
  generalize q4m T T.length ([(refP T (q1w T q18 (q0m T (isR T q0b r)))).1],(refP T (q1w T q18 (q0m T (isR T q0b r)))).2)=p at hR
  obtain ⟨l,r'⟩:=p
  have hl:=hR.len
  have hin:r'.at'<T.length:=hR.st.inr
  have hTl:=hT.len
  have e1:(isR T q0b r).at'=r.at'+1:=by rw [isR,if_pos hi]
  refine ⟨?_,⟨q2k hT hp1.inr,?_,hR.ok,q6w (Nat.zero_le _) (Nat.zero_le _)⟩,fun _=>?_⟩
  ·have h6:=((h1.trans h2).trans h3).trans hR.st
   refine h6.le ?_
   simp only [if_true,rsz,q8w,esz_leaf]
   omega
  ·dsimp only at hl ⊢;omega
  ·have:=h2.mono;have:=h3.mono;have:=hR.st.mono;dsimp only at *;omega
 ·split
  ·rename_i hi
   have h1:=q2g hT hp hi (by decide +kernel) (by decide +kernel)
   have hp1:=h1.pre hp
   have h2:=q1v hT hp1
   have hp2:=h2.pre hp1
   have h3:=q45 hT hp2 (s:=q18) (by decide +kernel) (by decide +kernel)
   have hp3:=h3.pre hp2
   have h4:=expr_ok hT hp3
   have e1:(isR T q1e r).at'=r.at'+1:=by rw [isR,if_pos hi]
   refine ⟨?_,⟨q2k hT hp1.inr,by simp,fun f hf=>(by cases hf),h4.ok⟩,fun _=>?_⟩
   ·have h6:=((h1.trans h2).trans h3).trans h4.st
    refine h6.le ?_
    simp only [if_true,rsz,List.length_nil]
    omega
   ·have:=h2.mono;have:=h3.mono;have:=h4.st.mono;dsimp only at *;omega
  ·exact ⟨StepR.refl hp,⟨Nat.zero_le _,by simp,fun f hf=>(by cases hf),q6w (Nat.zero_le _) (Nat.zero_le _)⟩,fun h=>by cases h⟩
set_option maxRecDepth 4000
abbrev c53:AObj:=.cells 171 [.str ⟨#[]⟩,.str ⟨#[]⟩] 2
abbrev c43:AObj:=.cells 53 [.str ⟨#[]⟩,.nils,.int .i64 0,.str ⟨#[]⟩,.str ⟨#[]⟩,.nils] 6
theorem c_ref {T:List Tk} (hT:OkTk T) {n b:Nat} {r:Rd} (hp:Pre T n r):AFunR nrx131 b [] T r (.agg (rfC (refP T r).1)) (refP T r).2:=by
 intro S h
 refine wx131 ?_
 unfold Bx131
 intro b2 hb2
 have n1:b2≠b:=q0o hb2 h
 have hS0:sget (supd S b2 c53) b=some (rdO T r):=by rw [q01,if_neg n1];exact h
 have hn:=q1v hT hp
 have hpn:=hn.pre hp
 (try simp only [rwp,hwR,zA,zB,zC,zD,zE,zF,zG,zH,zI])
 refine (c_name hT hp.inr).ca hS0 ?_
 (try simp only [rwp,hwR,zA,zB,zC,zD,zE,zF,zG,zH,zI])
 intro b3 hb3
 have n2:b3≠b:=q0o hb3 q19
 have n3:b3≠b2:=q0o hb3 (x:=c53) (by rw [q01,if_neg (Ne.symm n1),q01,if_pos rfl])
 have k3:sget S b3=none:=by rw [q01,if_neg (Ne.symm n2),q01,if_neg (Ne.symm n3)] at hb3;exact hb3
 (try simp only [rwp,hwR,zA,zB,zC,zD,zE,zF,zG,zH,zI])
 have hrd:∀ o,sget (supd (supd (supd S b2 c53) b (rdO T (q0m T r))) b3 o) b=some (rdO T (q0m T r)):=fun o=>by rw [q01,if_neg n2,q01,if_pos rfl]
 refine (c_is hT hpn.inr sHash).ca (hrd _) ?_
 have fin:∀ (f:Rf) (r':Rd) (S2:q00),refP T r=(f,r')→q0k S2 b3=some (171,rfC f,2)→q0k S2 b2=some (171,[.str ⟨#[]⟩,.str ⟨#[]⟩],2)→(∀ x,b2≠x→b3≠x→sget S2 x=sget (supd S b (rdO T r')) x) →
   C131_1 (fun ae S'=>ae=.ret (.agg (rfC (refP T r).1))∧S'=supd S b (rdO T (refP T r).2)) (.ptr b2 0) (.ptr b3 0) S2:=by
  intro f r' S2 he h3 h2 hS2
  rw [he]
  unfold C131_1
  have hsub:∀ o,Sub (supd S b (rdO T r')) (sdel (supd S2 b2 o) b2):=fun o x y hx=>by
   have e2:b2≠x:=by rintro rfl;rw [q01,if_neg (Ne.symm n1),hb2] at hx;cases hx
   have e3:b3≠x:=by rintro rfl;rw [q01,if_neg (Ne.symm n2),k3] at hx;cases hx
   rw [q0d,if_neg e2,q01,if_neg e2,hS2 x e2 e3]
   exact hx
  simp only [rfC] at h3
  (try simp only [rwp,hwR,zA,zB,zC,zD,zE,zF,zG,zH,zI,q08 h3,h2])
  refine q1f _ (hsub _) ?_
  (try simp only [rwp,hwR,zA,zB,zC,zD,zE,zF,zG,zH,zI,rfC])
 cases hi:isP T sHash (q0m T r) with
 | true=>
  have h1:=q2g hT hpn hi (by decide +kernel) (by decide +kernel)
  have hp1:=h1.pre hpn
  (try simp only [rwp,hwR,zA,zB,zC,zD,zE,zF,zG,zH,zI])
  refine (c_name hT hp1.inr).ca q19 ?_
  have ob3:∀ X cs o,q0k (supd (supd X b3 (.cells 171 cs 2)) b o) b3=some (171,cs,2):=fun X cs o=>by rw [q0i (Ne.symm n2)];exact q0j
  (try simp only [rwp,hwR,zA,zB,zC,zD,zE,zF,zG,zH,zI,ob3])
  refine fin ⟨q2j T r,q2j T (isR T sHash (q0m T r))⟩ (q0m T (isR T sHash (q0m T r))) _ ?_ q0j ?_ fun x e2 e3=>?_
  ·rw [refP,if_pos hi]
  ·rw [q0i n3,q0i (Ne.symm n1),q0i n3,q0i (Ne.symm n1)];exact q0j
  ·simp only [q01,if_neg e2,if_neg e3]
   by_cases hb:b=x
   ·subst hb;simp
   ·simp [hb]
 | false=>
  rw [q8n hi]
  (try simp only [rwp,hwR,zA,zB,zC,zD,zE,zF,zG,zH,zI])
  refine fin ⟨q2j T r,⟨#[]⟩⟩ (q0m T r) _ ?_ ?_ ?_ fun x e2 e3=>?_
  ·rw [refP,if_neg (by rw [hi];simp)]
  ·rw [q0i (Ne.symm n2)];exact q0j
  ·rw [q0i (Ne.symm n1),q0i n3,q0i (Ne.symm n1)];exact q0j
  ·simp only [q01,if_neg e2,if_neg e3]
   by_cases hb:b=x
   ·subst hb;simp
   ·simp [hb]
structure RlI (S:q00) (b b2 b4:Nat) (T:List Tk) (name:ByteArray) (p:List Rf×Rd) (S':q00):Prop where
 rd:sget S' b=some (rdO T p.2)
 c2:sget S' b2=some c43
 c4:∃ v,sget S' b4=some (.cells 53 [.str name,v,.int .i64 0,.str ⟨#[]⟩,.str ⟨#[]⟩,.nils] 6)∧LstN (sdel S b) S' 171 2 v (p.1.map rfC)∧q0u v b∧q0u v b2∧q0u v b4
 sub:Sub (sdel S b) S'
theorem LstN.base2 {S S':q00} {b t sz:Nat} {v:AV} {rows:List (List AV)} {o:AObj} (h:LstN (sdel S b) S' t sz v rows) (ha:q0u v b):LstN (supd S b o) S' t sz v rows:=by
 obtain ⟨hr,h⟩:=h
 refine ⟨hr,?_⟩
 rcases h with h | ⟨c,cap,rfl,h1,h2⟩
 ·exact .inl h
 ·refine .inr ⟨c,cap,rfl,?_,h2⟩
  have:=ha c 0 _ _ rfl
  rw [q0d,if_neg this] at h1
  rw [q01,if_neg this]
  exact h1
theorem q3h {c:Nat}:q0u .nils c:=fun b off n cap h=>by cases h
theorem kpW_one {S S':q00} {Y:Prop} {b off:Nat} (h:sget S' b=sget S b) (hY:Y):kpW [.ptr b off] S S' Y:=by
 refine ⟨fun v hv c hc=>?_,hY⟩
 rw [List.mem_singleton] at hv
 subst hv
 simp [blk] at hc
 subst hc
 exact h
theorem RlI.more {S S1:q00} {b b2 b4:Nat} {T:List Tk} {name:ByteArray} {l:List Rf} {r r2:Rd} (h:RlI S b b2 b4 T name (l,r) S1) (n1:b2≠b) (n2:b4≠b) (n3:b4≠b2) (k2:sget S b2=none) (k4:sget S b4=none) (hlen:l.length≤100000) (f:Rf) {v:AV} (hv:sget S1 b4=some (.cells 53 [.str name,v,.int .i64 0,.str ⟨#[]⟩,.str ⟨#[]⟩,.nils] 6)) {K:q00→Prop} (hK:∀ S3,RlI S b b2 b4 T name (l++[f],r2) S3→K S3) :
  apW (supd S1 b (rdO T r2)) 171 2 32 v (.sl 2 [[.str f.ty,.str f.rl]]) fun v' S2=>soW (q0k S2 b4) S2 1 b4 1 v' K:=by
 obtain ⟨hrd,hc2,⟨v0,hv0,hl,a1,a2,a4⟩,hsub⟩:=h
 rw [hv] at hv0
 cases hv0
 dsimp only at hl hrd
 have hb0:sget (sdel S b) b=none:=by rw [q0d,if_pos rfl]
 have hb4:sget (sdel S b) b4=none:=by rw [q0d,if_neg (Ne.symm n2)];exact k4
 refine (hl.upd a1 (rdO T r2)).app (hsub.supd hb0) (xs:=[[.str f.ty,.str f.rl]]) (fun r hr=>by rw [List.mem_singleton] at hr;subst hr;rfl) rfl (by simp;omega) ?_
 intro v' S2 h1 h2 h3
 obtain ⟨q1,q2⟩:=h3 b (rdO T r2) (by rw [q01,if_pos rfl]) a1
 obtain ⟨q3,q4⟩:=h3 b4 _ (by rw [q01,if_neg (Ne.symm n2)];exact hv) a4
 obtain ⟨q5,q6⟩:=h3 b2 _ (by rw [q01,if_neg (Ne.symm n1)];exact hc2) a2
 rw [objAt_some.2 q3,q2z]
 have hone:=h2.one
 have hac:q0a v'=[v']:=by cases v'<;>first | rfl | cases hone
 rw [hac]
 refine ⟨rfl,by simp,by simp [ones,hone],hK _ ⟨?_,?_,⟨v',?_,?_,q2,q6,q4⟩,?_⟩⟩
 ·rw [q01,if_neg n2];exact q1
 ·rw [q01,if_neg n3];exact q5
 ·rw [q01,if_pos rfl];rfl
 ·simpa [rfC] using h2.upd q4 _
 ·exact h1.supd hb4
theorem sub_del {S:q00} {b:Nat} {T:List Tk} {S2:q00} {r':Rd} {b2:Nat} {o:AObj} (h:Sub (sdel S b) S2) (hb:sget S2 b=some (rdO T r')) (k2:sget S b2=none) (n1:b2≠b):Sub (supd S b (rdO T r')) (supd S2 b2 o):=by
 intro x y hx
 have e2:b2≠x:=by rintro rfl;rw [q01,if_neg (Ne.symm n1),k2] at hx;cases hx
 rw [q01,if_neg e2]
 rw [q01] at hx
 by_cases hbx:b=x
 ·subst hbx;rw [if_pos rfl] at hx;rw [hb];exact hx
 ·rw [if_neg hbx] at hx
  exact h x y (by rw [q0d,if_neg hbx];exact hx)
theorem c_rel {T:List Tk} (hT:OkTk T) {b:Nat} {r:Rd} (hp:Pre T 12 r):AFunR nrx86 b [] T r (.tup [.agg (rlC (relP T r).1.1),.bool (relP T r).1.2]) (relP T r).2:=by
 intro S h
 have hTl:=hT.len
 refine wx86 ?_
 unfold Bx86
 intro b2 hb2
 have n1:b2≠b:=q0o hb2 h
 (try simp only [rwp,hwR,zA,zB,zC,zD,zE,zF,zG,zH,zI])
 intro b4 hb4
 have n2:b4≠b:=q0o hb4 (x:=rdO T r) (by rw [q01,if_neg n1];exact h)
 have n3:b4≠b2:=q0o hb4 (x:=c43) (by rw [q01,if_pos rfl])
 have k4:sget S b4=none:=by rw [q01,if_neg (Ne.symm n3)] at hb4;exact hb4
 have m1:=Ne.symm n1
 have m2:=Ne.symm n2
 have m3:=Ne.symm n3
 (try simp only [rwp,hwR,zA,zB,zC,zD,zE,zF,zG,zH,zI])
 have fin:∀ (x:Rl) (ok:Bool) (r':Rd) (S2:q00) (n:ByteArray) (v:AV) (k:Int) (a o:ByteArray) (w:AV),relP T r=((x,ok),r')→sget S2 b=some (rdO T r')→Sub (sdel S b) S2 →
   Frs (supd S b (rdO T r')) (supd S2 b2 (.cells 53 [.str n,v,.int .i64 k,.str a,.str o,w] 6)) [.str n,v,.int .i64 k,.str a,.str o,w] (rlC x) →
   rtW [.cell (.ptr b2 0) 6 true,.tmp (.bool ok)] (fun ae S'=>ae=.ret (.tup [.agg (rlC (relP T r).1.1),.bool (relP T r).1.2])∧S'=supd S b (rdO T (relP T r).2)) (supd S2 b2 (.cells 53 [.str n,v,.int .i64 k,.str a,.str o,w] 6)):=by
  intro x ok r' S2 n v k a o w he hb hsub hfr
  rw [he]
  refine rtW_fr (supd S b (rdO T r')) (.tup [.agg (rlC x),.bool ok]) (sub_del hsub hb hb2 n1) ?_ ⟨rfl,rfl⟩
  (try simp only [rwp,hwR,zA,zB,zC,zD,zE,zF,zG,zH,zI])
  exact .tu (.cons (.ag hfr) (.cons (.same _) .nil))
 have hS0:sget (supd (supd S b2 c43) b4 c43) b=some (rdO T r):=by rw [q01,if_neg n2,q01,if_neg n1];exact h
 have hsub0:Sub (sdel S b) (supd (supd S b2 c43) b4 c43):=by
  intro x y hx
  have hbx:b≠x:=by rintro rfl;rw [q0d,if_pos rfl] at hx;cases hx
  rw [q0d,if_neg hbx] at hx
  rw [q01,if_neg (q0o k4 hx),q01,if_neg (q0o hb2 hx)]
  exact hx
 refine (c_is hT hp.inr q0b).ca hS0 ?_
 cases hi:isP T q0b r with
 | true=>
  have h1:=q2g hT hp hi (by decide +kernel) (by decide +kernel)
  have hp1:=h1.pre hp
  have h2:=q1v hT hp1
  have hp2:=h2.pre hp1
  have h3:=q45 hT hp2 (s:=q18) (by decide +kernel) (by decide +kernel)
  have hp3:=h3.pre hp2
  obtain ⟨h4,h5⟩:=ref_step hT hp3
  (try simp only [rwp,hwR,zA,zB,zC,zD,zE,zF,zG,zH,zI])
  refine (c_name hT hp1.inr).ca q19 ?_
  have ob4:∀ X cs o,q0k (supd (supd X b4 (.cells 53 cs 6)) b o) b4=some (53,cs,6):=fun X cs o=>by rw [q0i m2];exact q0j
  (try simp only [rwp,hwR,zA,zB,zC,zD,zE,zF,zG,zH,zI,ob4])
  have hrd:∀ X cs r',sget (supd (supd X b (rdO T r')) b4 (.cells 53 cs 6)) b=some (rdO T r'):=fun X cs r'=>by rw [q01,if_neg n2];exact q19
  refine (c_must hT hp2.inr q18).ca (hrd _ _ _) ?_
  (try simp only [rwp,hwR,zA,zB,zC,zD,zE,zF,zG,zH,zI,q08 (ob4 _ _ _)])
  refine (c_ref hT hp3).ca q19 ?_
  refine kpW_one (by rw [q01,if_neg m2]) ?_
  refine ⟨⟨rfl,rfl⟩,?_⟩
  have hI0:RlI S b b2 b4 T (q2j T (isR T q0b r)) ([],q1w T q18 (q0m T (isR T q0b r)))
    (supd (supd (supd (supd (supd S b2 c43) b4 c43) b (rdO T (q0m T (isR T q0b r)))) b4 (.cells 53 [.str (q2j T (isR T q0b r)),.nils,.int .i64 0,.str ⟨#[]⟩,.str ⟨#[]⟩,.nils] 6)) b (rdO T (q1w T q18 (q0m T (isR T q0b r))))):=by
   refine ⟨q19,?_,⟨.nils,?_,.nil,q3h,q3h,q3h⟩,?_⟩
   ·simp [q01,m1,m2,m3,n1,n2,n3]
   ·simp [q01,m1,m2,m3,n1,n2,n3]
   ·have hb0:sget (sdel S b) b=none:=by rw [q0d,if_pos rfl]
    have hb4':sget (sdel S b) b4=none:=by rw [q0d,if_neg m2];exact k4
    exact ((hsub0.supd hb0).supd hb4').supd hb0
  have hrel:relP T r=((⟨q2j T (isR T q0b r),(q4m T T.length ([(refP T (q1w T q18 (q0m T (isR T q0b r)))).1],(refP T (q1w T q18 (q0m T (isR T q0b r)))).2)).1,q8w⟩,true),(q4m T T.length ([(refP T (q1w T q18 (q0m T (isR T q0b r)))).1],(refP T (q1w T q18 (q0m T (isR T q0b r)))).2)).2):=by
   rw [relP,if_pos hi]
  refine hI0.more n1 n2 n3 hb2 k4 (by simp) (refP T (q1w T q18 (q0m T (isR T q0b r)))).1 (r2:=(refP T (q1w T q18 (q0m T (isR T q0b r)))).2) (v:=.nils) ?_ ?_
  ·rw [q01,if_neg m2,q01,if_pos rfl]
  clear hI0
  intro S3 hI
  generalize q2j T (isR T q0b r)=nm at hI hrel
  have hR0:RfSt T (q1w T q18 (q0m T (isR T q0b r))) ([(refP T (q1w T q18 (q0m T (isR T q0b r)))).1],(refP T (q1w T q18 (q0m T (isR T q0b r)))).2):=
   ⟨h4,by simp,fun f hf=>by rw [List.mem_singleton.1 hf];exact h5⟩
  generalize q1w T q18 (q0m T (isR T q0b r))=r3 at hI hrel hp3 hR0
  rw [List.nil_append] at hI
  generalize ([(refP T r3).1],(refP T r3).2)=p0 at hI hrel hR0
  refine LoopP.introS (fun _:List Rf×Rd=>[(0,.ptr b 0),(2,.ptr b2 0),(4,.ptr b4 0)])
   (fun p S'=>RlI S b b2 b4 T nm p S'∧RfSt T r3 p∧q4m T T.length p=q4m T T.length p0) (fun p=>T.length-p.2.at') p0 ⟨hI,hR0,rfl⟩ rfl ?_
  clear hI hR0
  rintro ⟨l,r4⟩ S4 ⟨hI,hR,hf⟩ q hq
  have hp4:=hR.st.pre hp3
  have hin:r4.at'<T.length:=hp4.inr
  have hll:=hR.len
  dsimp only at hll
  have hI':=hI
  obtain ⟨krd,kc2,⟨v,kv,klst,a1,a2,a4⟩,ksub⟩:=hI'
  dsimp only at krd klst
  (try simp only [rwp,hwR,zA,zB,zC,zD,zE,zF,zG,zH,zI,C86_1])
  refine (c_is hT hp4.inr sBar).ca krd ?_
  cases hb:isP T sBar r4 with
  | true=>
   obtain ⟨hR2,hmu⟩:=refs_next hT hp3 hR hb
   have h6:=q2g hT hp4 hb (by decide +kernel) (by decide +kernel)
   have hp6:=h6.pre hp4
   have hob:q0k (supd S4 b (rdO T (isR T sBar r4))) b4=some (53,[.str nm,v,.int .i64 0,.str ⟨#[]⟩,.str ⟨#[]⟩,.nils],6):=by rw [q0i m2];exact objAt_some.2 kv
   have hf2:q4m T T.length (l++[(refP T (isR T sBar r4)).1],(refP T (isR T sBar r4)).2)=q4m T T.length p0:=by
    rw [← hf]
    obtain ⟨m,hm⟩:∃ m,T.length=m+1:=⟨T.length-1,by omega⟩
    conv=>rhs;rw [hm,q4m,if_pos hb]
    exact refsL_more hT hp3 hR2 (by dsimp only;omega) (by dsimp only;omega)
   have hI2:RlI S b b2 b4 T nm (l,isR T sBar r4) (supd S4 b (rdO T (isR T sBar r4))):=by
    refine ⟨q19,by rw [q01,if_neg m1];exact kc2,⟨v,by rw [q01,if_neg m2];exact kv,klst.upd a1 _,a1,a2,a4⟩,ksub.supd (by rw [q0d,if_pos rfl])⟩
   (try simp only [rwp,hwR,zA,zB,zC,zD,zE,zF,zG,zH,zI,q08 hob])
   refine (c_ref hT hp6).ca q19 ?_
   refine kpW_one (by rw [q01,if_neg m2]) ?_
   refine ⟨⟨rfl,rfl⟩,?_⟩
   refine hI2.more n1 n2 n3 hb2 k4 (by omega) (refP T (isR T sBar r4)).1 (r2:=(refP T (isR T sBar r4)).2) (v:=v) ?_ ?_
   ·rw [q01,if_neg m2];exact kv
   intro S5 hI5
   exact q09 rfl (hq (l++[(refP T (isR T sBar r4)).1],(refP T (isR T sBar r4)).2) S5 ⟨hI5,hR2,hf2⟩ (by dsimp only;omega))
  | false=>
   rw [q8n hb,q0t krd]
   have hstop:q4m T T.length (l,r4)=(l,r4):=by
    cases T.length with
    | zero=>rfl
    | succ m=>rw [q4m,if_neg (by rw [hb];simp)]
   rw [hstop] at hf
   rw [← hf] at hrel
   have ob2:=objAt_some.2 kc2
   have ob4':=objAt_some.2 kv
   have hone:=klst.one
   have hac:q0a v=[v]:=by cases v<;>first | rfl | cases hone
   (try simp only [rwp,hwR,zA,zB,zC,zD,zE,zF,zG,zH,zI,q08 ob4',ob2,q1c])
   refine ⟨hone,fin ⟨nm,l,q8w⟩ true r4 S4 nm v 0 _ _ _ hrel krd ksub ?_⟩
   rw [q0l]
   exact .cons (.same _) (.cons (Fr.lst ((klst.upd a2 _).base2 a1)) (.cons (.same _) (.cons (.same _) (.cons (.same _) (.cons (.nils 4) .nil)))))
 | false=>
  rw [q8n hi,q0t hS0]
  (try simp only [rwp,hwR,zA,zB,zC,zD,zE,zF,zG,zH,zI])
  refine (c_is hT hp.inr q1e).ca hS0 ?_
  cases hd:isP T q1e r with
  | true=>
   have h1:=q2g hT hp hd (by decide +kernel) (by decide +kernel)
   have hp1:=h1.pre hp
   have h2:=q1v hT hp1
   have hp2:=h2.pre hp1
   have h3:=q45 hT hp2 (s:=q18) (by decide +kernel) (by decide +kernel)
   have hp3:=h3.pre hp2
   (try simp only [rwp,hwR,zA,zB,zC,zD,zE,zF,zG,zH,zI])
   refine (c_name hT hp1.inr).ca q19 ?_
   have ob4:∀ X cs o,q0k (supd (supd X b4 (.cells 53 cs 6)) b o) b4=some (53,cs,6):=fun X cs o=>by rw [q0i m2];exact q0j
   (try simp only [rwp,hwR,zA,zB,zC,zD,zE,zF,zG,zH,zI,ob4])
   have hrd:∀ X cs r',sget (supd (supd X b (rdO T r')) b4 (.cells 53 cs 6)) b=some (rdO T r'):=fun X cs r'=>by rw [q01,if_neg n2];exact q19
   refine (c_must hT hp2.inr q18).ca (hrd _ _ _) ?_
   (try simp only [rwp,hwR,zA,zB,zC,zD,zE,zF,zG,zH,zI])
   refine (c_expr hT hp3).ca q19 ?_
   have hrel:relP T r=((⟨q2j T (isR T q1e r),[],(exprP T 12 (q1w T q18 (q0m T (isR T q1e r)))).1⟩,true),(exprP T 12 (q1w T q18 (q0m T (isR T q1e r)))).2):=by
    rw [relP,if_neg (by rw [hi];simp),if_pos hd]
   generalize q2j T (isR T q1e r)=nm at hrel ⊢
   generalize exprP T 12 (q1w T q18 (q0m T (isR T q1e r)))=pe at hrel ⊢
   obtain ⟨e,r5⟩:=pe
   dsimp only at hrel ⊢
   rw [q0x]
   have hb0:sget (sdel S b) b=none:=by rw [q0d,if_pos rfl]
   have hb4':sget (sdel S b) b4=none:=by rw [q0d,if_neg m2];exact k4
   have q1:∀ X cs,sget (supd (supd X b4 (.cells 53 cs 6)) b (rdO T r5)) b=some (rdO T r5):=fun X cs=>q19
   have q2:q0k (supd (supd (supd (supd (supd S b2 c43) b4 c43) b (rdO T (q0m T (isR T q1e r)))) b4 (.cells 53 [.str nm,.nils,.int .i64 0,.str ⟨#[]⟩,.str ⟨#[]⟩,.nils] 6)) b (rdO T r5)) b4=some (53,[.str nm,.nils,.int .i64 0,.str ⟨#[]⟩,.str ⟨#[]⟩,.nils],6):=ob4 _ _ _
   have q3:q0k (supd (supd (supd (supd (supd S b2 c43) b4 c43) b (rdO T (q0m T (isR T q1e r)))) b4 (.cells 53 [.str nm,.nils,.int .i64 0,.str ⟨#[]⟩,.str ⟨#[]⟩,.nils] 6)) b (rdO T r5)) b2=some (53,[.str ⟨#[]⟩,.nils,.int .i64 0,.str ⟨#[]⟩,.str ⟨#[]⟩,.nils],6):=by
    refine objAt_some.2 ?_
    simp [q01,m1,m2,m3,n1,n2,n3]
   have q4:Sub (sdel S b) (supd (supd (supd (supd (supd S b2 c43) b4 c43) b (rdO T (q0m T (isR T q1e r)))) b4 (.cells 53 [.str nm,.nils,.int .i64 0,.str ⟨#[]⟩,.str ⟨#[]⟩,.nils] 6)) b (rdO T r5)):=((hsub0.supd hb0).supd hb4').supd hb0
   have q1:=q1 (supd (supd (supd S b2 c43) b4 c43) b (rdO T (q0m T (isR T q1e r)))) [.str nm,.nils,.int .i64 0,.str ⟨#[]⟩,.str ⟨#[]⟩,.nils]
   generalize supd (supd (supd (supd (supd S b2 c43) b4 c43) b (rdO T (q0m T (isR T q1e r)))) b4 (.cells 53 [.str nm,.nils,.int .i64 0,.str ⟨#[]⟩,.str ⟨#[]⟩,.nils] 6)) b (rdO T r5)=S5 at q1 q2 q3 q4 ⊢
   (try simp only [rwp,hwR,zA,zB,zC,zD,zE,zF,zG,zH,zI,q2,q3,q0c,q1c,if_neg n3])
   refine fin ⟨nm,[],e⟩ true r5 _ nm .nils e.kind _ _ _ hrel (by rw [q01,if_neg n2];exact q1) (q4.supd hb4') ?_
   rw [q0l]
   exact .cons (.same _) (.cons (.nils 2) (.cons (.same _) (.cons (.same _) (.cons (.same _) (.cons (.same _) .nil)))))
  | false=>
   rw [q8n hd,q0t hS0]
   have hrel:relP T r=((⟨⟨#[]⟩,[],q8w⟩,false),r):=by
    rw [relP,if_neg (by rw [hi];simp),if_neg (by rw [hd];simp)]
   (try simp only [rwp,hwR,zA,zB,zC,zD,zE,zF,zG,zH,zI,if_neg n3,if_neg m3])
   refine fin ⟨⟨#[]⟩,[],q8w⟩ false r _ _ .nils 0 _ _ _ hrel hS0 hsub0 ?_
   rw [q0l]
   exact .cons (.same _) (.cons (.nils 2) (.cons (.same _) (.cons (.same _) (.cons (.same _) (.cons (.nils 4) .nil)))))
set_option maxRecDepth 4000
def bl (s:ByteArray):List UInt8:=s.data.toList
def mkB (l:List UInt8):ByteArray:=⟨l.toArray⟩
theorem mkB_bl (s:ByteArray):mkB (bl s)=s:=by cases s;rfl
theorem q5b (s:ByteArray):(bl s).length=s.size:=by cases s;simp [bl,ByteArray.size]
theorem bl_extract (s:ByteArray) (i j:Nat):bl (s.extract i j)=((bl s).take j).drop i:=by
 unfold bl
 rw [ByteArray.data_extract,Array.toList_extract,List.extract_eq_take_drop,List.drop_take]
theorem q5q (s:ByteArray) (i j:Nat):s.extract i j=mkB (((bl s).take j).drop i):=by rw [← bl_extract,mkB_bl]
theorem bl_get (s:ByteArray) (i:Nat):s[i]?=(bl s)[i]?:=q7e s i
def q38:Nat→List UInt8→Nat
 | _,[]=>0
 | i,c :: r=>if atN i c.toNat then q38 (i+1) r+1 else 0
theorem wordL_le:∀ {l:List UInt8} {i:Nat},q38 i l≤l.length
 | [],i=>by simp [q38]
 | c :: r,i=>by
  unfold q38
  have:=wordL_le (l:=r) (i:=i+1)
  split
  ·simp;omega
  ·simp
theorem c_word {s:ByteArray} (hs:s.size≤1125899906842624):AFun PG nrx128 [.str s] (.int .i64 (q38 0 (bl s))):=by
 intro S
 refine wx128 ?_
 unfold Bx128
 refine LoopP.introS (fun i:Nat=>[(0,.str s),(3,.int .i64 i)]) (fun i S'=>S'=S∧i≤s.size∧q38 0 (bl s)=i+q38 i ((bl s).drop i)) (fun i=>s.size-i) 0 ⟨rfl,by omega,by simp⟩ rfl ?_
 rintro i S' ⟨rfl,hi,hf⟩ r hr
 cases h0:decide ((i:Int)<s.size) with
 | false=>
  have hd:(bl s).drop i=[]:=List.drop_of_length_le (by rw [q5b];have:=of_decide_eq_false h0;omega)
  rw [hd,q38] at hf
  (try simp only [rwp,hwR,zA,zB,zC,zD,zE,zF,zG,zH,zI,C128_1,h0,C128_2,C128_3,C128_4,C128_5,C128_6,C128_7,C128_8,C128_9,C128_10,C128_11])
  exact q03 ⟨by rw [hf];rfl,rfl⟩
 | true=>
  have hlt:=of_decide_eq_true h0
  obtain ⟨b,hb⟩:=q4f hlt
  have hd:=q0h (l:=bl s) (by rw [← bl_get];exact hb)
  rw [hd,q38] at hf
  have ea:atN i b.toNat=((decide (97≤(b.toNat:Int))&&decide ((b.toNat:Int)≤122))||(decide (0<(i:Int))&&(decide ((b.toNat:Int)=95)||(decide (48≤(b.toNat:Int))&&decide ((b.toNat:Int)≤57))))):=by
   have:(!decide ((i:Int)=0))=decide (0<(i:Int)):=by rw [← decide_not];congr 1;exact propext (by omega)
   simp only [atN,q5x,digitN,this]
  have good:atN i b.toNat=true→r [(0,.str s),(3,.int .i64 ((i:Int)+1))] S':=fun h=>by
   rw [if_pos h] at hf
   exact hr (i+1) _ ⟨rfl,by omega,by omega⟩ (by omega)
  have bad:atN i b.toNat=false→q38 0 (bl s)=i:=fun h=>by
   rw [if_neg (by rw [h];simp)] at hf
   exact hf
  cases h1:decide (97≤(b.toNat:Int))<;>cases h2:decide ((b.toNat:Int)≤122)<;>cases h3:decide (0<(i:Int))<;>cases h4:decide ((b.toNat:Int)=95)<;>cases h5:decide (48≤(b.toNat:Int))<;>cases h6:decide ((b.toNat:Int)≤57) <;>
   simp only [h1,h2,h3,h4,h5,h6,Bool.true_and,Bool.false_and,Bool.and_true,Bool.and_false,Bool.or_true,Bool.true_or,Bool.or_false,Bool.false_or,Bool.not_true,Bool.not_false] at ea <;>
   (try simp only [rwp,hwR,zA,zB,zC,zD,zE,zF,zG,zH,zI,C128_1,h0,hb,C128_2,C128_3,C128_4,C128_5,C128_6,C128_7,C128_8,C128_9,C128_10,C128_11,h1,h2,h3,h4,h5,h6]) <;>
   first
    | exact q03 ⟨by rw [bad ea],rfl⟩
    | ((simp (disch:=omega) only [q07]);exact q09 rfl (good ea))
set_option maxRecDepth 4000
def signs:ByteArray:=⟨#[58,124,35,43,45,38,46,40,41]⟩
def signF (c:UInt8):ByteArray:=if c∈[58,124,35,43,45,38,46,40,(41:UInt8)] then mkB [c] else ⟨#[63]⟩
theorem signs_get {i:Nat} {c:UInt8} (h:signs[i]?=some c):c∈[58,124,35,43,45,38,46,40,(41:UInt8)]∧signs.extract i (i+1)=mkB [c]:=by
 rw [bl_get] at h
 have hm:=List.mem_of_getElem? h
 refine ⟨hm,?_⟩
 rw [q5q,List.drop_take,show i+1-i=1 by omega,q0h h]
 rfl
theorem c_sign (c:UInt8):AFun PG nrx129 [.int .u8 c.toNat] (.str (signF c)):=by
 intro S
 refine wx129 ?_
 unfold Bx129
 refine LoopP.introS (fun i:Nat=>[(0,.int .u8 c.toNat),(3,.str signs),(4,.int .i64 i)]) (fun i S'=>S'=S∧i≤9∧∀ j b,j<i→signs[j]?=some b→b≠c) (fun i=>9-i) 0 ⟨rfl,by omega,by omega⟩ rfl ?_
 rintro i S' ⟨rfl,hi,hn⟩ r hr
 have hsz:signs.size=9:=rfl
 (try simp only [rwp,hwR,zA,zB,zC,zD,zE,zF,zG,zH,zI,C129_1,hsz])
 (refine q02 (fun hlt=>?_) (fun hlt=>?_)<;>(try simp only [hlc] at hlt))
 ·obtain ⟨b,hb⟩:=q4f (s:=signs) (i:=i) (by rw [hsz];omega)
  obtain ⟨h1,h2⟩:=signs_get hb
  (try simp only [rwp,hwR,zA,zB,zC,zD,zE,zF,zG,zH,zI,hb])
  (refine q02 (fun he=>?_) (fun he=>?_)<;>(try simp only [hlc] at he))
  ·have hbc:b=c:=UInt8.toNat_inj.1 (by omega)
   subst hbc
   (simp (disch:=omega) only [q07])
   (try simp only [rwp,hwR,zA,zB,zC,zD,zE,zF,zG,zH,zI,hsz])
   refine ⟨by omega,by omega,?_⟩
   rw [show ((i:Int)+1).toNat=i+1 by omega,h2]
   exact q03 ⟨by rw [signF,if_pos h1],rfl⟩
  ·(simp (disch:=omega) only [q07])
   refine q09 rfl (hr (i+1) _ ⟨rfl,by omega,fun j x hj hx=>?_⟩ (by omega))
   rcases Nat.lt_succ_iff_lt_or_eq.1 hj with h | rfl
   ·exact hn j x h hx
   ·rw [hb] at hx;cases hx
    rintro rfl
    exact he rfl
 ·refine q03 ⟨?_,rfl⟩
  rw [signF,if_neg]
  intro hm
  obtain ⟨j,hj⟩:=List.getElem?_of_mem hm
  have h9:signs[j]?=some c:=by rw [bl_get];exact hj
  exact hn j c (by have:=q7d h9;omega) h9 rfl
def tokL:Nat→List UInt8→Nat→Nat→List Tk
 | 0,_,_,_=>[]
 | _+1,[],line,col=>[⟨⟨#[]⟩,line,col⟩]
 | f+1,c :: r,line,col=>
  if c.toNat=32∨c.toNat=9∨c.toNat=10 then tokL f r (if c.toNat=10 then line+1 else line) (if c.toNat=10 then 1 else col+1)
  else if q38 0 (c :: r)=0 then (if signF c=⟨#[63]⟩ then [⟨⟨#[63]⟩,line,col⟩] else ⟨signF c,line,col⟩ :: tokL f r line (col+1))
  else ⟨mkB ((c :: r).take (q38 0 (c :: r))),line,col⟩ :: tokL f ((c :: r).drop (q38 0 (c :: r))) line (col+q38 0 (c :: r))
def tokT (s:ByteArray):List Tk:=tokL (s.size+1) (bl s) 1 1
theorem c_Tokens {s:ByteArray} (hs:s.size≤4096):AFun PG nrx83 [.str s] (.sl 3 ((tokT s).map tkC)):=by
 intro S
 refine wx83 ?_
 unfold Bx83
 refine LoopP.introS (fun p:AV×Nat×Nat×Nat=>[(0,.str s),(3,p.1),(4,.int .i64 p.2.1),(5,.int .i64 p.2.2.1),(6,.int .i64 p.2.2.2)])
  (fun p S'=>p.2.2.2≤s.size∧p.2.1≤p.2.2.2+1∧p.2.2.1≤p.2.2.2+1∧Sub S S'∧∃ (d:List Tk) (f:Nat),s.size-p.2.2.2<f∧d.length≤p.2.2.2∧LstN S S' 149 3 p.1 (d.map tkC)∧d++tokL f ((bl s).drop p.2.2.2) p.2.1 p.2.2.1=tokT s) (fun p=>s.size-p.2.2.2) (.nils,1,1,0)
  ⟨Nat.zero_le _,Nat.le_refl _,Nat.le_refl _,Sub.refl S,[],s.size+1,by dsimp only;omega,by simp,.nil,rfl⟩ rfl ?_
 rintro ⟨v,line,col,i⟩ S1 ⟨hi,hln,hcl,hs1,d,f,hf,hd,hl,ht⟩ q hq
 dsimp only at hi hln hcl hf hd hl ht
 obtain ⟨f,rfl⟩:∃ m,f=m+1:=⟨f-1,by omega⟩
 (try simp only [rwp,hwR,zA,zB,zC,zD,zE,zF,zG,zH,zI,C83_1])
 (refine q02 (fun hlt=>?_) (fun hlt=>?_)<;>(try simp only [hlc] at hlt))
 ·obtain ⟨c,hc⟩:=q4f hlt
  have hdc:=q0h (l:=bl s) (by rw [← bl_get];exact hc)
  rw [hdc,tokL] at ht
  (try simp only [rwp,hwR,zA,zB,zC,zD,zE,zF,zG,zH,zI,hc])
  have ws:∀ w:Bool,w=(decide (c.toNat=32∨c.toNat=9∨c.toNat=10))→C83_3 (fun ae S'=>ae=.ret (.sl 3 ((tokT s).map tkC))∧S'=S) q (.str s) v (.int .i64 line) (.int .i64 col) (.int .i64 i) (.int .u8 c.toNat) (.bool w) S1:=by
   intro w hw
   unfold C83_3
   cases w with
   | true=>
    have hw:=of_decide_eq_true hw.symm
    rw [if_pos hw] at ht
    cases a3:decide ((c.toNat:Int)=10) with
    | true=>
     have h10:c.toNat=10:=by have:=of_decide_eq_true a3;omega
     rw [if_pos h10,if_pos h10] at ht
     (try simp only [rwp,hwR,zA,zB,zC,zD,zE,zF,zG,zH,zI,a3])
     (simp (disch:=omega) only [q07])
     refine q09 rfl (hq (v,line+1,1,i+1) S1 ⟨by dsimp only;omega,by dsimp only;omega,by dsimp only;omega,hs1,d,f,by dsimp only;omega,by dsimp only;omega,hl,ht⟩ (by dsimp only;omega))
    | false=>
     have h10:¬ c.toNat=10:=by have:=of_decide_eq_false a3;omega
     rw [if_neg h10,if_neg h10] at ht
     (try simp only [rwp,hwR,zA,zB,zC,zD,zE,zF,zG,zH,zI,a3])
     (simp (disch:=omega) only [q07])
     refine q09 rfl (hq (v,line,col+1,i+1) S1 ⟨by dsimp only;omega,by dsimp only;omega,by dsimp only;omega,hs1,d,f,by dsimp only;omega,by dsimp only;omega,hl,ht⟩ (by dsimp only;omega))
   | false=>
    have hw:=of_decide_eq_false hw.symm
    rw [if_neg hw] at ht
    have low:∀ (x:ByteArray) (w:Nat),1≤w→i+w≤s.size→tokT s=d++(if x=⟨#[63]⟩ then [⟨⟨#[63]⟩,line,col⟩] else ⟨x,line,col⟩ :: tokL f ((bl s).drop (i+w)) line (col+w))→C83_4 (fun ae S'=>ae=.ret (.sl 3 ((tokT s).map tkC))∧S'=S) q (.str s) v (.int .i64 line) (.int .i64 col) (.int .i64 i) (.int .i64 w) (.str x) S1:=by
     intro x w hw1 hw2 hx
     unfold C83_4
     (try simp only [rwp,hwR,zA,zB,zC,zD,zE,zF,zG,zH,zI])
     refine hl.app hs1 (xs:=[tkC ⟨x,line,col⟩]) (fun r hr=>by rw [List.mem_singleton] at hr;subst hr;rfl) rfl (by simp;omega) ?_
     intro v' S2 h1 h2 _
     (try simp only [rwp,hwR,zA,zB,zC,zD,zE,zF,zG,zH,zI])
     (refine q02 (fun hq3=>?_) (fun hq3=>?_)<;>(try simp only [hlc] at hq3))
     ·rw [if_pos hq3] at hx
      have e1:(d.map tkC)++[tkC ⟨x,line,col⟩]=(tokT s).map tkC:=by rw [hx,hq3];simp
      rw [e1] at h2
      exact q3j h1 h2 ⟨rfl,rfl⟩
     ·rw [if_neg (by simpa using hq3)] at hx
      (simp (disch:=omega) only [q07])
      rw [show (i:Int)+(w:Int)=((i+w:Nat):Int) from rfl,show (col:Int)+(w:Int)=((col+w:Nat):Int) from rfl]
      refine q09 rfl (hq (v',line,col+w,i+w) S2 ⟨by dsimp only;omega,by dsimp only;omega,by dsimp only;omega,h1,d++[⟨x,line,col⟩],f,by dsimp only;omega,by simp;omega,by simpa using h2,?_⟩ (by dsimp only;omega))
      dsimp only
      rw [hx]
      simp
    have hbe:bl (s.extract i s.size)=c :: (bl s).drop (i+1):=by
     rw [bl_extract,List.take_of_length_le (by rw [q5b];exact Nat.le_refl _),hdc]
    have hwl:=wordL_le (l:=c :: (bl s).drop (i+1)) (i:=0)
    have hcl2:(c :: (bl s).drop (i+1)).length=s.size-i:=by rw [← hdc,List.length_drop,q5b]
    rw [hcl2] at hwl
    have hcw:=c_word (s:=s.extract i s.size) (by rw [ByteArray.size_extract];omega)
    rw [hbe] at hcw
    (try simp only [rwp,hwR,zA,zB,zC,zD,zE,zF,zG,zH,zI])
    refine ⟨by omega,by omega,?_⟩
    refine q05 hcw ?_
    have hw0:∀ r,q38 0 (c :: r)≠0→c≠63:=fun r h=>by
     rintro rfl
     apply h
     unfold q38
     rw [if_neg (by decide)]
    have hw0:=hw0 ((bl s).drop (i+1))
    have htk:(c :: (bl s).drop (i+1)).drop (q38 0 (c :: (bl s).drop (i+1)))=(bl s).drop (i+q38 0 (c :: (bl s).drop (i+1))):=by
     rw [← hdc,List.drop_drop]
    have hex:s.extract i (i+q38 0 (c :: (bl s).drop (i+1)))=mkB ((c :: (bl s).drop (i+1)).take (q38 0 (c :: (bl s).drop (i+1)))):=by
     rw [q5q,List.drop_take,Nat.add_sub_cancel_left,hdc]
    rw [htk] at ht
    generalize hn:q38 0 (c :: (bl s).drop (i+1))=n at *
    (try simp only [rwp,hwR,zA,zB,zC,zD,zE,zF,zG,zH,zI])
    (simp (disch:=omega) only [q07])
    (try simp only [rwp,hwR,zA,zB,zC,zD,zE,zF,zG,zH,zI])
    refine ⟨by omega,by omega,?_⟩
    rw [show ((i:Int)+(n:Int)).toNat=i+n by omega,hex]
    (refine q02 (fun hn0=>?_) (fun hn0=>?_)<;>(try simp only [hlc] at hn0))
    ·have hn0:n=0:=by omega
     refine q05 (c_sign c) ?_
     rw [if_pos hn0] at ht
     refine low _ 1 (by omega) (by omega) ?_
     rw [← ht]
    ·have hn0:¬ n=0:=by omega
     rw [if_neg hn0] at ht
     refine low _ n (by omega) (by omega) ?_
     rw [← ht,if_neg]
     intro h63
     have h1:=congrArg bl h63
     obtain ⟨m,hm⟩:∃ m,n=m+1:=⟨n-1,by omega⟩
     rw [hm,List.take_succ_cons] at h1
     have h2:c :: ((bl s).drop (i+1)).take m=[63]:=by
      have:bl (mkB (c :: ((bl s).drop (i+1)).take m))=c :: ((bl s).drop (i+1)).take m:=by simp [bl,mkB]
      rw [← this,h1];rfl
     exact hw0 hn0 (List.cons.inj h2).1
  cases a1:decide ((c.toNat:Int)=32)<;>cases a2:decide ((c.toNat:Int)=9)<;>cases a3:decide ((c.toNat:Int)=10) <;>
   (try simp only [rwp,hwR,zA,zB,zC,zD,zE,zF,zG,zH,zI,C83_2,a1,a2,a3])<;>refine ws _ ?_<;>simp only [decide_eq_true_eq,decide_eq_false_iff_not] at a1 a2 a3<;>(symm;first | exact decide_eq_true (by omega) | exact decide_eq_false (by omega))
 ·rw [List.drop_of_length_le (by rw [q5b];omega),tokL] at ht
  (try simp only [rwp,hwR,zA,zB,zC,zD,zE,zF,zG,zH,zI])
  refine hl.app hs1 (xs:=[tkC ⟨⟨#[]⟩,line,col⟩]) (fun r hr=>by rw [List.mem_singleton] at hr;subst hr;rfl) rfl (by simp;omega) ?_
  intro v' S2 h1 h2 _
  have e1:(d.map tkC)++[tkC ⟨⟨#[]⟩,line,col⟩]=(tokT s).map tkC:=by rw [← ht];simp
  rw [e1] at h2
  exact q3j h1 h2 ⟨rfl,rfl⟩
theorem q6n:∀ {f:Nat} {l:List UInt8} {a b:Nat},(tokL f l a b).length≤l.length+1
 | 0,l,a,b=>by simp [tokL]
 | f+1,[],a,b=>by simp [tokL]
 | f+1,c :: r,a,b=>by
  unfold tokL
  split
  ·have:=q6n (f:=f) (l:=r) (a:=if c.toNat=10 then a+1 else a) (b:=if c.toNat=10 then 1 else b+1)
   simp only [List.length_cons];omega
  ·split
   ·split
    ·simp
    ·have:=q6n (f:=f) (l:=r) (a:=a) (b:=b+1)
     simp only [List.length_cons];omega
   ·rename_i h0
    have:=q6n (f:=f) (l:=(c :: r).drop (q38 0 (c :: r))) (a:=a) (b:=b+q38 0 (c :: r))
    have h2:((c :: r).drop (q38 0 (c :: r))).length≤r.length:=by
     rw [List.length_drop,List.length_cons];omega
    simp only [List.length_cons];omega
theorem mkB_size {l:List UInt8}:(mkB l).size=l.length:=by simp [mkB,ByteArray.size]
theorem signF_size {c:UInt8}:(signF c).size≤1:=by
 unfold signF
 split
 ·rw [mkB_size];exact Nat.le_refl _
 ·decide
theorem q6m:∀ {f:Nat} {l:List UInt8} {a b:Nat},∀ t∈tokL f l a b,t.s.size≤l.length+1
 | 0,l,a,b,t,ht=>by cases ht
 | f+1,[],a,b,t,ht=>by
  rw [tokL,List.mem_singleton] at ht
  subst ht
  exact Nat.zero_le _
 | f+1,c :: r,a,b,t,ht=>by
  unfold tokL at ht
  split at ht
  ·have:=q6m t ht
   simp only [List.length_cons];omega
  ·split at ht
   ·split at ht
    ·rw [List.mem_singleton] at ht
     subst ht
     exact Nat.le_add_left _ _
    ·rcases List.mem_cons.1 ht with rfl | ht
     ·have:=signF_size (c:=c);dsimp only;omega
     ·have:=q6m t ht
      simp only [List.length_cons];omega
   ·rcases List.mem_cons.1 ht with rfl | ht
    ·dsimp only
     rw [mkB_size,List.length_take]
     omega
    ·have:=q6m t ht
     rw [List.length_drop] at this
     omega
theorem q6o:∀ {f:Nat} {l:List UInt8} {a b:Nat} {t:Tk},(tokL f l a b).getLast?=some t→l.length<f→t.s=⟨#[]⟩∨t.s=⟨#[63]⟩
 | 0,l,a,b,t,ht,hf=>by omega
 | f+1,[],a,b,t,ht,hf=>by
  rw [tokL] at ht
  simp at ht
  subst ht
  exact .inl rfl
 | f+1,c :: r,a,b,t,ht,hf=>by
  have hne:∀ {f:Nat} {l:List UInt8} {a b:Nat},l.length<f→tokL f l a b≠[]:=by
   intro f
   induction f with
   | zero=>intro l a b h;omega
   | succ f ih=>
    intro l a b h
    cases l with
    | nil=>simp [tokL]
    | cons c r=>
     unfold tokL
     simp only [List.length_cons] at h
     split
     ·exact ih (by omega)
     ·split
      ·split<;>simp
      ·simp
  simp only [List.length_cons] at hf
  unfold tokL at ht
  split at ht
  ·exact q6o ht (by omega)
  ·split at ht
   ·split at ht
    ·simp at ht
     subst ht
     exact .inr rfl
    ·rw [List.getLast?_cons_of_ne_nil (hne (by omega))] at ht
     exact q6o ht (by omega)
   ·rename_i h0
    have hl:((c :: r).drop (q38 0 (c :: r))).length<f:=by
     rw [List.length_drop,List.length_cons];omega
    rw [List.getLast?_cons_of_ne_nil (hne hl)] at ht
    exact q6o ht hl
theorem tokT_ok {s:ByteArray} (hs:s.size≤4096):OkTk (tokT s):=by
 have h1:=q6n (f:=s.size+1) (l:=bl s) (a:=1) (b:=1)
 rw [q5b] at h1
 refine ⟨?_,fun t ht=>?_,fun t ht=>?_⟩
 ·unfold tokT;omega
 ·have:=q6m t ht
  rw [q5b] at this
  omega
 ·rw [← List.getLast?_eq_getElem?] at ht
  exact q6o ht (by rw [q5b];omega)
structure RsSt (T:List Tk) (r:Rd) (p:List Rl×Rd):Prop where
 st:StepR T r p.2 0
 len:p.1.length≤p.2.at'
 ok:∀ x∈p.1,OkR x
 sz:p.2.de=0→∀ x∈p.1,rsz x≤p.2.at'
theorem rels_next {T:List Tk} (hT:OkTk T) {r0 r:Rd} (hp0:Pre T 12 r0) {l:List Rl} (h:RsSt T r0 (l,r)) :
  ((relP T r).1.2=true→RsSt T r0 (l++[(relP T r).1.1],(relP T r).2)∧r.at'+1≤(relP T r).2.at')∧RsSt T r0 (l,(relP T r).2):=by
 have hp:=h.st.pre hp0
 obtain ⟨h1,h2,h3⟩:=rel_ok hT hp
 have h5:=h.len
 have h6:=h1.mono
 dsimp only at h1 h5 h6 hp
 refine ⟨fun hf=>⟨⟨(h.st.trans h1).le (by omega),?_,fun x hx=>?_,fun h0 x hx=>?_⟩,h3 hf⟩,⟨(h.st.trans h1).le (by omega),by dsimp only;omega,h.ok,fun h0 x hx=>?_⟩⟩
 ·have:=h3 hf
  dsimp only at this
  simp only [List.length_append,List.length_cons,List.length_nil]
  omega
 ·rcases List.mem_append.1 hx with hx | hx
  ·exact h.ok x hx
  ·rw [List.mem_singleton.1 hx];exact h2
 ·dsimp only at h0 ⊢
  rcases List.mem_append.1 hx with hx | hx
  ·have:=h.sz (h1.fault h0) x hx
   dsimp only at this
   omega
  ·rw [List.mem_singleton.1 hx]
   have:=h1.sz h0
   rw [if_pos hf] at this
   omega
 ·dsimp only at h0 ⊢
  have:=h.sz (h1.fault h0) x hx
  dsimp only at this
  omega
theorem relsL_ok {T:List Tk} (hT:OkTk T) {r0:Rd} (hp0:Pre T 12 r0):∀ {f:Nat} {p:List Rl×Rd},RsSt T r0 p→RsSt T r0 (q3q T f p)
 | 0,p,h=>h
 | f+1,(l,r),h=>by
  obtain ⟨k1,k2⟩:=rels_next hT hp0 h
  unfold q3q
  split
  ·rename_i hi
   exact relsL_ok hT hp0 (k1 hi).1
  ·exact k2
theorem relsL_more {T:List Tk} (hT:OkTk T) {r0:Rd} (hp0:Pre T 12 r0):∀ {f g:Nat} {p:List Rl×Rd},RsSt T r0 p→T.length≤f+p.2.at'→T.length≤g+p.2.at'→q3q T f p=q3q T g p
 | 0,g,p,h,h1,h2=>by have h3:p.2.at'<T.length:=h.st.inr;omega
 | f+1,0,p,h,h1,h2=>by have h3:p.2.at'<T.length:=h.st.inr;omega
 | f+1,g+1,(l,r),h,h1,h2=>by
  dsimp only at h1 h2
  obtain ⟨k1,k2⟩:=rels_next hT hp0 h
  unfold q3q
  split
  ·rename_i hi
   obtain ⟨k3,k4⟩:=k1 hi
   exact relsL_more hT hp0 k3 (by dsimp only;omega) (by dsimp only;omega)
  ·rfl
structure TsSt (T:List Tk) (p:List Ty×Rd):Prop where
 pre:Pre T 12 p.2
 len:p.1.length≤p.2.at'
 ok:∀ t∈p.1,OkT t
 sz:p.2.de=0→∀ t∈p.1,∀ x∈t.rels,rsz x≤p.2.at'
theorem q7n {T:List Tk} (hT:OkTk T) {l:List Ty} {r:Rd} (h:TsSt T (l,r)) (hi:isP T q25 r=true) :
  Pre T 12 (isR T q25 r)∧Pre T 12 (q0m T (isR T q25 r))∧RsSt T (q0m T (isR T q25 r)) (q3q T T.length ([],q0m T (isR T q25 r))) ∧
  TsSt T (l++[⟨q2j T (isR T q25 r),(q3q T T.length ([],q0m T (isR T q25 r))).1⟩],(q3q T T.length ([],q0m T (isR T q25 r))).2)∧r.at'+1≤(q3q T T.length ([],q0m T (isR T q25 r))).2.at':=by
 have hp:Pre T 12 r:=h.pre
 have h1:=q2g hT hp hi (by decide +kernel) (by decide +kernel)
 have hp1:=h1.pre hp
 have h2:=q1v hT hp1
 have hp2:=h2.pre hp1
 have e1:(isR T q25 r).at'=r.at'+1:=by rw [isR,if_pos hi]
 have hR:=relsL_ok hT hp2 (f:=T.length) (p:=([],q0m T (isR T q25 r))) ⟨StepR.refl hp2,Nat.zero_le _,fun x hx=>(by cases hx),fun _ x hx=>(by cases hx)⟩
 have hn:=q2k hT hp1.inr
 generalize q3q T T.length ([],q0m T (isR T q25 r))=p at hR
 obtain ⟨rs,r3⟩:=p
 have m1:=h2.mono
 have m2:=hR.st.mono
 have m3:=hR.len
 have m4:=h.len
 have hin:r3.at'<T.length:=hR.st.inr
 have hTl:=hT.len
 dsimp only at m2 m3 m4 ⊢
 refine ⟨hp1,hp2,hR,⟨hR.st.pre hp2,?_,fun t ht=>?_,fun h0 t ht x hx=>?_⟩,by omega⟩
 ·simp only [List.length_append,List.length_cons,List.length_nil];omega
 ·rcases List.mem_append.1 ht with ht | ht
  ·exact h.ok t ht
  ·rw [List.mem_singleton.1 ht]
   exact ⟨hn,by dsimp only;omega,hR.ok⟩
 ·dsimp only at h0 ⊢
  rcases List.mem_append.1 ht with ht | ht
  ·have:=h.sz (h1.fault (h2.fault (hR.st.fault h0))) t ht x hx
   dsimp only at this
   omega
  ·rw [List.mem_singleton.1 ht] at hx
   exact hR.sz h0 x hx
theorem typesL_ok {T:List Tk} (hT:OkTk T):∀ {f:Nat} {p:List Ty×Rd},TsSt T p→TsSt T (q29 T f p)
 | 0,p,h=>h
 | f+1,(l,r),h=>by
  unfold q29
  split
  ·rename_i hi
   exact typesL_ok hT (q7n hT h hi).2.2.2.1
  ·exact h
theorem typesL_more {T:List Tk} (hT:OkTk T):∀ {f g:Nat} {p:List Ty×Rd},TsSt T p→T.length≤f+p.2.at'→T.length≤g+p.2.at'→q29 T f p=q29 T g p
 | 0,g,p,h,h1,h2=>by have h3:p.2.at'<T.length:=h.pre.inr;omega
 | f+1,0,p,h,h1,h2=>by have h3:p.2.at'<T.length:=h.pre.inr;omega
 | f+1,g+1,(l,r),h,h1,h2=>by
  dsimp only at h1 h2
  unfold q29
  split
  ·rename_i hi
   obtain ⟨-,-,-,k3,k4⟩:=q7n hT h hi
   exact typesL_more hT k3 (by dsimp only;omega) (by dsimp only;omega)
  ·rfl
theorem pre0 {T:List Tk} (h:0<T.length):Pre T 12 rd0:=⟨h,by decide,by decide,fun _=>by decide⟩
theorem ts0 {T:List Tk} (h:0<T.length):TsSt T ([],rd0):=⟨pre0 h,Nat.zero_le _,fun t ht=>(by cases ht),fun _ t ht=>(by cases ht)⟩
theorem end_step {T:List Tk} {r:Rd} (hp:Pre T 12 r):StepR T r (endR T r) 0:=by
 unfold endR
 split
 ·exact q75 _ (by decide) 0 (StepR.refl hp)
 ·exact StepR.refl hp
theorem parseT_ok {T:List Tk} (hT:OkTk T) (h:0<T.length):OkS (q6u T).1∧∀ t∈(q6u T).1,∀ x∈t.rels,rsz x≤T.length:=by
 have hR:=typesL_ok hT (f:=T.length) (ts0 h)
 have hin:(q29 T T.length ([],rd0)).2.at'<T.length:=hR.pre.inr
 have hl:=hR.len
 have hTl:=hT.len
 unfold q6u
 split
 ·rename_i h0
  refine ⟨⟨by dsimp only;omega,hR.ok⟩,fun t ht x hx=>?_⟩
  have:=hR.sz ((end_step hR.pre).fault h0) t ht x hx
  omega
 ·exact ⟨⟨Nat.zero_le _,fun t ht=>(by cases ht)⟩,fun t ht=>(by cases ht)⟩
end Go.HL
