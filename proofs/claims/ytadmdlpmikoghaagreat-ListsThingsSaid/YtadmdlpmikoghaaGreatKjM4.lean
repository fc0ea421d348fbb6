/- The law ListsThings returns true for every input and leaves it as it was; no conditions. -/
import Derived.Test.YtadmdlpmikoghaaGreatKjM3
import Derived.ProofKit
import Derived.Carry
import Derived.Handed
import Derived.Test.YtadmdlpmikoghaaGreatRows
set_option maxRecDepth 4000
set_option linter.unusedSimpArgs false
set_option linter.unusedVariables false
namespace Go.HL
open Nat renaming reduceAdd→zA,reduceLeDiff→zB,reduceLT→zC,reduceSub→zD,reduceMul→zE,reduceEqDiff→zF,reduceBEq→zG
open Int renaming reduceAdd→zH,reduceToNat→zI
def Apart (u v:AV):Prop:=∀ b off n cap,v=.own b off n cap→q0s u b
theorem LstN.keep {S0 S S':q00} {t sz:Nat} {u u' v:AV} {rows:List (List AV)} (h:LstN S0 S t sz v rows) (ha:Apart u v) (hk:∀ c o,sget S c=some o→q0s u c→sget S' c=some o∧q0s u' c):LstN S0 S' t sz v rows∧Apart u' v:=by
 obtain ⟨hr,⟨rfl,rfl⟩ | ⟨b,cap,rfl,h1,h2,h3⟩⟩:=h
 ·exact ⟨.nil,fun b off n cap h=>by cases h⟩
 ·obtain ⟨k1,k2⟩:=hk b _ h2 (ha b 0 _ _ rfl)
  exact ⟨⟨hr,.inr ⟨b,cap,rfl,h1,k1,h3⟩⟩,fun b' off n cap h=>by cases h;exact k2⟩
theorem Apart.symm {u v:AV} (h:Apart u v):Apart v u:=fun b off n cap hu b' off' n' cap' hv=>Ne.symm (h b' off' n' cap' hv b off n cap hu)
theorem apart_nils {v:AV}:Apart .nils v:=fun b off n cap _=>q31
structure PrI (S:q00) (bR b2 b3 b5:Nat) (T:List Tk) (v:AV) (p:List Ty×Rd) (S':q00):Prop where
 rd:sget S' bR=some (rdO T p.2)
 c2:sget S' b2=some (.cells 24 [.nils] 1)
 c3:sget S' b3=some (.cells 82 [.int .i64 0,.int .i64 0,.int .i64 0] 3)
 c5:sget S' b5=some (.cells 24 [v] 1)
 lst:LstN S S' 46 2 v (p.1.map tyC)
 asd:∀ c∈[bR,b2,b3,b5],q0s v c
 sub:Sub S S'
theorem PrI.mv {S S':q00} {bR b2 b3 b5:Nat} {T:List Tk} {v:AV} {l:List Ty} {r:Rd} (h:PrI S bR b2 b3 b5 T v (l,r) S') (hd:[bR,b2,b3,b5].Nodup) (hR:sget S bR=none) (r':Rd):PrI S bR b2 b3 b5 T v (l,r') (supd S' bR (rdO T r')):=by
 simp only [List.nodup_cons,List.mem_cons,not_or,List.not_mem_nil,or_false,not_false_eq_true,List.nodup_nil,and_true] at hd
 obtain ⟨⟨n2,n3,n5⟩,⟨m3,m5⟩,l5⟩:=hd
 exact ⟨by rw [q01,if_pos rfl],by rw [q01,if_neg n2];exact h.c2,by rw [q01,if_neg n3];exact h.c3,by rw [q01,if_neg n5];exact h.c5,h.lst.upd (h.asd bR (by simp)) _,h.asd,h.sub.supd hR⟩
structure PrJ (S:q00) (bR b2 b3 b5 b6:Nat) (T:List Tk) (v u:AV) (nm:ByteArray) (l:List Ty) (p:List Rl×Rd) (S':q00):Prop where
 out:PrI S bR b2 b3 b5 T v (l,p.2) S'
 c6:sget S' b6=some (.cells 46 [.str nm,u] 2)
 ins:LstN S S' 53 6 u (p.1.map rlC)
 asd:∀ c∈[bR,b2,b3,b5,b6],q0s u c
 asd6:q0s v b6
 apt:Apart u v
theorem PrJ.mv {S S':q00} {bR b2 b3 b5 b6:Nat} {T:List Tk} {v u:AV} {nm:ByteArray} {l:List Ty} {rs:List Rl} {r:Rd} (h:PrJ S bR b2 b3 b5 b6 T v u nm l (rs,r) S') (hd:[bR,b2,b3,b5].Nodup) (h6:bR≠b6) (hR:sget S bR=none) (r':Rd):PrJ S bR b2 b3 b5 b6 T v u nm l (rs,r') (supd S' bR (rdO T r')):=
 ⟨h.out.mv hd hR r',by rw [q01,if_neg h6];exact h.c6,h.ins.upd (h.asd bR (by simp)) _,h.asd,h.asd6,h.apt⟩
theorem PrJ.more {S S1:q00} {bR b2 b3 b5 b6:Nat} {T:List Tk} {v u:AV} {nm:ByteArray} {l:List Ty} {rs:List Rl} {r:Rd} (h:PrJ S bR b2 b3 b5 b6 T v u nm l (rs,r) S1) (hd6:∀ c∈[bR,b2,b3,b5],b6≠c) (k6:sget S b6=none) (x:Rl) (hlen:rs.length≤100000) {K:q00→Prop} (hK:∀ u' S3,PrJ S bR b2 b3 b5 b6 T v u' nm l (rs++[x],r) S3→K S3) :
  apW S1 53 6 104 u (.sl 6 [rlC x]) fun u' S2=>soW (q0h S2 b6) S2 1 b6 1 u' K:=by
 obtain ⟨⟨hrd,h2,h3,h5,hl,ha,hs⟩,hc6,hin,hau,ha6,hap⟩:=h
 dsimp only at hrd hl hin
 refine hin.app hs (xs:=[rlC x]) (fun r hr=>by rw [List.mem_singleton] at hr;subst hr;exact rlC_len x) (by rw [q0l];rfl) (by simp;omega) ?_
 intro u' S2 k1 k2 k3
 obtain ⟨q6,q6a⟩:=k3 b6 _ hc6 (hau b6 (by simp))
 have hone:=k2.one
 have hac:q08 u'=[u']:=by cases u'<;>first | rfl | cases hone
 obtain ⟨j1,j2⟩:=hl.keep hap k3
 rw [objAt_some.2 q6,q2w,hac]
 refine ⟨rfl,by simp,by simp [ones,hone],hK u' _ ⟨⟨?_,?_,?_,?_,j1.upd ha6 _,ha,k1.supd k6⟩,by rw [q01,if_pos rfl];rfl,?_,fun c hc=>?_,ha6,j2⟩⟩
 ·rw [q01,if_neg (hd6 bR (by simp))];exact (k3 bR _ hrd (hau bR (by simp))).1
 ·rw [q01,if_neg (hd6 b2 (by simp))];exact (k3 b2 _ h2 (hau b2 (by simp))).1
 ·rw [q01,if_neg (hd6 b3 (by simp))];exact (k3 b3 _ h3 (hau b3 (by simp))).1
 ·rw [q01,if_neg (hd6 b5 (by simp))];exact (k3 b5 _ h5 (hau b5 (by simp))).1
 ·simpa using k2.upd q6a _
 ·simp only [List.mem_cons,List.not_mem_nil,or_false] at hc
  rcases hc with rfl | rfl | rfl | rfl | rfl
  ·exact (k3 _ _ hrd (hau _ (by simp))).2
  ·exact (k3 _ _ h2 (hau _ (by simp))).2
  ·exact (k3 _ _ h3 (hau _ (by simp))).2
  ·exact (k3 _ _ h5 (hau _ (by simp))).2
  ·exact q6a
theorem Frs.app {S0 S:q00}:∀ {a a' b b':List AV},Frs S0 S a a'→Frs S0 S b b'→Frs S0 S (a++b) (a'++b')
 | [],[],b,b',_,h=>h
 | [],x :: r,b,b',h,_=>by cases h.1
 | x :: r,[],b,b',h,_=>by cases h.1
 | x :: r,y :: r',b,b',h,k=>.cons (h.2 0 x y rfl rfl) (Frs.app ⟨by simpa using h.1,fun i u u' h1 h2=>h.2 (i+1) u u' (by simpa using h1) (by simpa using h2)⟩ k)
theorem PrJ.typ {S S1:q00} {bR b2 b3 b5 b6:Nat} {T:List Tk} {v u:AV} {nm:ByteArray} {l:List Ty} {rs:List Rl} {r:Rd} (h:PrJ S bR b2 b3 b5 b6 T v u nm l (rs,r) S1) (hd:[bR,b2,b3,b5].Nodup) (hd6:∀ c∈[bR,b2,b3,b5],b6≠c) (hn:∀ c∈[bR,b2,b3,b5],sget S c=none) (hlen:l.length≤100000) {q:LE→q00→Prop} {le:LE} (hK:∀ v' S3,PrI S bR b2 b3 b5 T v' (l++[⟨nm,rs⟩],r) S3→q le S3) :
  apW S1 46 2 40 v (.sl 2 [[.str nm,u]]) fun v' S2=>soW (q0h S2 b5) S2 1 b5 0 v' fun S3=>rcW q le S3:=by
 obtain ⟨⟨hrd,h2,h3,h5,hl,ha,hs⟩,hc6,hin,hau,ha6,hap⟩:=h
 dsimp only at hrd hl hin
 have honeu:=hin.one
 refine hl.app hs (xs:=[[.str nm,u]]) (fun r hr=>by rw [List.mem_singleton] at hr;subst hr;rfl) (by simp [ones,honeu];rfl) (by simp;omega) ?_
 intro v' S2 k1 k2 k3
 obtain ⟨q5,q5a⟩:=k3 b5 _ h5 (ha b5 (by simp))
 obtain ⟨qR,qRa⟩:=k3 bR _ hrd (ha bR (by simp))
 obtain ⟨q2,q2a⟩:=k3 b2 _ h2 (ha b2 (by simp))
 obtain ⟨q3,q3a⟩:=k3 b3 _ h3 (ha b3 (by simp))
 obtain ⟨j1,j2⟩:=hin.keep hap.symm k3
 have hone:=k2.one
 have hac:q08 v'=[v']:=by cases v'<;>first | rfl | cases hone
 rw [objAt_some.2 q5,q2w,hac]
 refine ⟨rfl,by simp,by simp [ones,hone],?_⟩
 simp only [List.nodup_cons,List.mem_cons,not_or,List.not_mem_nil,or_false,not_false_eq_true,List.nodup_nil,and_true] at hd
 obtain ⟨⟨n2,n3,n5⟩,⟨m3,m5⟩,l5⟩:=hd
 obtain ⟨hr,⟨rfl,h0⟩ | ⟨bv,cap,rfl,e1,e2,e3,e4,e5⟩⟩:=k2
 ·simp at h0
 have dR:=qRa bv 0 _ _ rfl
 have d2:=q2a bv 0 _ _ rfl
 have d3:=q3a bv 0 _ _ rfl
 have d5:=q5a bv 0 _ _ rfl
 let S0:q00:=supd (supd (supd (supd S bR (rdO T r)) b2 (.cells 24 [.nils] 1)) b3 (.cells 82 [.int .i64 0,.int .i64 0,.int .i64 0] 3)) b5 (.cells 24 [.own bv 0 ((l.map tyC)++[[.str nm,u]]).length cap] 1)
 have hS0:Sub S0 (supd S2 b5 (.cells 24 [.own bv 0 ((l.map tyC)++[[.str nm,u]]).length cap] 1)):=by
  intro x y hx
  rw [q01] at hx ⊢
  by_cases g5:b5=x
  ·rw [if_pos g5] at hx ⊢;exact hx
  rw [if_neg g5] at hx ⊢
  rw [q01] at hx
  by_cases g3:b3=x
  ·rw [if_pos g3] at hx;rw [← g3,q3];exact hx
  rw [if_neg g3,q01] at hx
  by_cases g2:b2=x
  ·rw [if_pos g2] at hx;rw [← g2,q2];exact hx
  rw [if_neg g2,q01] at hx
  by_cases gR:bR=x
  ·rw [if_pos gR] at hx;rw [← gR,qR];exact hx
  rw [if_neg gR] at hx
  exact k1 x y hx
 have hv0:sget S0 bv=none:=by
  show sget (supd _ _ _) bv=none
  rw [q01,if_neg d5,q01,if_neg d3,q01,if_neg d2,q01,if_neg dR]
  exact e1
 have hvc:sget (supd S2 b5 (.cells 24 [.own bv 0 ((l.map tyC)++[[.str nm,u]]).length cap] 1)) bv=some (.cells 46 ((l.map tyC)++[[.str nm,u]]).flatten (cap * 2)):=by
  rw [q01,if_neg d5];exact e2
 have hcs:((l.map tyC)++[[.str nm,u]]).flatten=(l.map tyC).flatten++[.str nm,u]:=by simp
 have hcs':((l++[(⟨nm,rs⟩:Ty)]).map tyC).flatten=(l.map tyC).flatten++[.str nm,.sl 6 (rs.map rlC)]:=by simp [tyC]
 have hlen':((l++[(⟨nm,rs⟩:Ty)]).map tyC).length=((l.map tyC)++[[.str nm,u]]).length:=by simp
 refine rcW_cells (cs':=((l++[(⟨nm,rs⟩:Ty)]).map tyC).flatten) hS0 hv0 hvc ?_ (hK (.own bv 0 ((l.map tyC)++[[.str nm,u]]).length cap) _ ⟨?_,?_,?_,?_,⟨fun r hr=>?_,.inr ⟨bv,cap,by rw [hlen'],e1,by rw [q01,if_pos rfl],by rw [hlen'];exact e3,e4,by rw [hlen'];exact e5⟩⟩,fun c hc=>?_,?_⟩)
 ·rw [hcs,hcs']
  refine Frs.app (Frs.same _) (.cons (.same _) (.cons (Fr.lst (t:=53) ?_) .nil))
  obtain ⟨g1,⟨rfl,g2⟩ | ⟨bu,capu,rfl,f1,f2,f3⟩⟩:=j1
  ·exact ⟨g1,.inl ⟨rfl,g2⟩⟩
  ·refine ⟨g1,.inr ⟨bu,capu,rfl,?_,?_,f3⟩⟩
   ·have w5:=hau b5 (by simp) bu 0 _ _ rfl
    have w3:=hau b3 (by simp) bu 0 _ _ rfl
    have w2:=hau b2 (by simp) bu 0 _ _ rfl
    have wR:=hau bR (by simp) bu 0 _ _ rfl
    have wv:=j2 bu 0 _ _ rfl bv 0 _ _ rfl
    rw [q01,if_neg (Ne.symm wv)]
    show sget (supd _ _ _) bu=none
    rw [q01,if_neg w5,q01,if_neg w3,q01,if_neg w2,q01,if_neg wR]
    exact f1
   ·have w5:=hau b5 (by simp) bu 0 _ _ rfl
    rw [q01,if_neg w5];exact f2
 ·rw [q01,if_neg (Ne.symm dR)]
  show sget (supd _ _ _) bR=_
  rw [q01,if_neg (Ne.symm n5),q01,if_neg (Ne.symm n3),q01,if_neg (Ne.symm n2),q01,if_pos rfl]
 ·rw [q01,if_neg (Ne.symm d2)]
  show sget (supd _ _ _) b2=_
  rw [q01,if_neg (Ne.symm m5),q01,if_neg (Ne.symm m3),q01,if_pos rfl]
 ·rw [q01,if_neg (Ne.symm d3)]
  show sget (supd _ _ _) b3=_
  rw [q01,if_neg (Ne.symm l5),q01,if_pos rfl]
 ·rw [q01,if_neg (Ne.symm d5)]
  show sget (supd _ _ _) b5=_
  rw [q01,if_pos rfl]
 ·obtain ⟨t,-,rfl⟩:=List.mem_map.1 hr
  rfl
 ·simp only [List.mem_cons,List.not_mem_nil,or_false] at hc
  rcases hc with rfl | rfl | rfl | rfl
  ·exact qRa
  ·exact q2a
  ·exact q3a
  ·exact q5a
 ·have s1:=(Sub.refl S).supd (o:=rdO T r) (hn bR (by simp))
  exact (((((Sub.refl S).supd (hn bR (by simp))).supd (hn b2 (by simp))).supd (hn b3 (by simp))).supd (hn b5 (by simp))).supd e1
theorem tokL_ne:∀ {f:Nat} {l:List UInt8} {a b:Nat},l.length<f→tokL f l a b≠[]
 | 0,l,a,b,h=>by omega
 | f+1,[],a,b,h=>by simp [tokL]
 | f+1,c :: r,a,b,h=>by
  unfold tokL
  simp only [List.length_cons] at h
  split
  ·exact tokL_ne (by omega)
  ·split
   ·split<;>simp
   ·simp
theorem tokT_pos (s:ByteArray):0<(tokT s).length:=List.length_pos_iff.2 (tokL_ne (by rw [q4z];omega))
def q4a (s:ByteArray):List Ty×AV:=if 4096<s.size then ([],.agg [.int .i64 1,.int .i64 1,.int .i64 2]) else q66 (tokT s)
theorem c_Parse (s:ByteArray):AFun PG nrx44 [.str s] (.tup [scA (q4a s).1,(q4a s).2]):=by
 intro S
 refine wx44 ?_
 unfold Bx44
 intro b2 hb2
 (try simp only [rwp,hwR,zA,zB,zC,zD,zE,zF,zG,zH,zI])
 intro b3 hb3
 have n23:b3≠b2:=q0d hb3 (x:=.cells 24 [.nils] 1) (by rw [q01,if_pos rfl])
 have k3:sget S b3=none:=by rw [q01,if_neg (Ne.symm n23)] at hb3;exact hb3
 (try simp only [rwp,hwR,zA,zB,zC,zD,zE,zF,zG,zH,zI,if_neg n23,if_neg (Ne.symm n23)])
 (refine q04 (fun hl=>?_) (fun hl=>?_)<;>(try simp only [hlc] at hl))
 ·have hpf:q4a s=([],.agg [.int .i64 1,.int .i64 1,.int .i64 2]):=by rw [q4a,if_pos (by omega)]
  rw [hpf]
  refine q4k S (.tup [scA [],.agg [.int .i64 1,.int .i64 1,.int .i64 2]]) (((((Sub.refl S).supd hb2).supd k3).supd hb2).supd k3) ?_ ⟨rfl,rfl⟩
  (try simp only [rwp,hwR,zA,zB,zC,zD,zE,zF,zG,zH,zI,if_neg n23,if_neg (Ne.symm n23)])
  exact .tu (.cons (.ag (.cons (.nils 2) .nil)) (.cons (.same _) .nil))
 have hs:s.size≤4096:=by omega
 have hT:=tokT_ok hs
 have hTl:=hT.len
 have hpf:q4a s=q66 (tokT s):=by rw [q4a,if_neg (by omega)]
 refine q06 (c_Tokens hs) ?_
 have hpos:=tokT_pos s
 rw [hpf]
 generalize tokT s=T at hT hpos hTl ⊢
 clear hpf hl hs
 (try simp only [rwp,hwR,zA,zB,zC,zD,zE,zF,zG,zH,zI])
 refine ⟨rfl,rfl,fun bR hbR=>?_⟩
 have nR2:bR≠b2:=q0d hbR (x:=.cells 24 [.nils] 1) (by rw [q01,if_neg n23,q01,if_pos rfl])
 have nR3:bR≠b3:=q0d hbR (x:=.cells 82 [.int .i64 0,.int .i64 0,.int .i64 0] 3) (by rw [q01,if_pos rfl])
 have kR:sget S bR=none:=by rw [q01,if_neg (Ne.symm nR3),q01,if_neg (Ne.symm nR2)] at hbR;exact hbR
 intro b5 hb5
 have n52:b5≠b2:=q0d hb5 (x:=.cells 24 [.nils] 1) (by rw [q01,if_neg nR2,q01,if_neg n23,q01,if_pos rfl])
 have n53:b5≠b3:=q0d hb5 (x:=.cells 82 [.int .i64 0,.int .i64 0,.int .i64 0] 3) (by rw [q01,if_neg nR3,q01,if_pos rfl])
 have n5R:b5≠bR:=by
  rintro rfl
  rw [q01,if_pos rfl] at hb5;cases hb5
 have k5:sget S b5=none:=by rw [q01,if_neg (Ne.symm n5R),q01,if_neg (Ne.symm n53),q01,if_neg (Ne.symm n52)] at hb5;exact hb5
 have hd:[bR,b2,b3,b5].Nodup:=by
  simp only [List.nodup_cons,List.mem_cons,not_or,List.not_mem_nil,or_false,not_false_eq_true,List.nodup_nil,and_true]
  exact ⟨⟨nR2,nR3,Ne.symm n5R⟩,⟨Ne.symm n23,Ne.symm n52⟩,Ne.symm n53⟩
 have hn:∀ c∈[bR,b2,b3,b5],sget S c=none:=by
  intro c hc
  simp only [List.mem_cons,List.not_mem_nil,or_false] at hc
  rcases hc with rfl | rfl | rfl | rfl<;>assumption
 (try simp only [rwp,hwR,zA,zB,zC,zD,zE,zF,zG,zH,zI])
 have hI0:PrI S bR b2 b3 b5 T .nils ([],rd0) (supd (supd (supd (supd S b2 (.cells 24 [.nils] 1)) b3 (.cells 82 [.int .i64 0,.int .i64 0,.int .i64 0] 3)) bR (rdO T rd0)) b5 (.cells 24 [.nils] 1)):=by
  refine ⟨?_,?_,?_,?_,.nil,fun c _=>q31,((((Sub.refl S).supd hb2).supd k3).supd kR).supd k5⟩<;>simp [q01,n23,nR2,nR3,n52,n53,n5R,Ne.symm n23,Ne.symm nR2,Ne.symm nR3,Ne.symm n52,Ne.symm n53,Ne.symm n5R]
 have hfin:q1t T T.length ([],rd0)=q1t T T.length ([],rd0):=rfl
 have hts:=ts0 (T:=T) hpos
 refine LoopP.introS (fun _:List Ty×Rd=>[(2,.ptr b2 0),(3,.ptr b3 0),(4,.ptr bR 0),(5,.ptr b5 0)])
  (fun p S'=>(∃ v,PrI S bR b2 b3 b5 T v p S')∧TsSt T p∧q1t T T.length p=q1t T T.length ([],rd0)) (fun p=>T.length-p.2.at') ([],rd0) ⟨⟨.nils,hI0⟩,hts,rfl⟩ rfl ?_
 clear hI0 hts hfin
 rintro ⟨l,r⟩ S1 ⟨⟨v,hI⟩,hTs,hf⟩ q hq
 have hp:Pre T 12 r:=hTs.pre
 have hin:r.at'<T.length:=hp.inr
 have hrd:=hI.rd
 have hll:=hTs.len
 dsimp only at hrd hll
 (try simp only [rwp,hwR,zA,zB,zC,zD,zE,zF,zG,zH,zI,C44_1])
 refine (c_is hT hp.inr q1r).ca hrd ?_
 cases hi:isP T q1r r with
 | true=>
  obtain ⟨hp1,hp2,hR,hTs2,hmu⟩:=q72 hT hTs hi
  have hf2:q1t T T.length (l++[⟨q24 T (isR T q1r r),(q3c T T.length ([],q0i T (isR T q1r r))).1⟩],(q3c T T.length ([],q0i T (isR T q1r r))).2)=q1t T T.length ([],rd0):=by
   rw [← hf]
   obtain ⟨m,hm⟩:∃ m,T.length=m+1:=⟨T.length-1,by omega⟩
   conv=>rhs;rw [hm,q1t,if_pos hi]
   exact typesL_more hT hTs2 (by dsimp only;omega) (by dsimp only;omega)
  (try simp only [rwp,hwR,zA,zB,zC,zD,zE,zF,zG,zH,zI])
  refine (c_name hT hp1.inr).ca q0x ?_
  (try simp only [rwp,hwR,zA,zB,zC,zD,zE,zF,zG,zH,zI])
  have hI2:=(hI.mv hd kR (isR T q1r r)).mv hd kR (q0i T (isR T q1r r))
  rw [q0t] at hI2
  generalize q24 T (isR T q1r r)=nm at hf2 hTs2 ⊢
  have hI2':PrI S bR b2 b3 b5 T v (l,q0i T (isR T q1r r)) (supd S1 bR (rdO T (q0i T (isR T q1r r)))):=hI2
  clear hI2
  generalize supd S1 bR (rdO T (q0i T (isR T q1r r)))=S2 at hI2' ⊢
  generalize q0i T (isR T q1r r)=r2 at hI2' hp2 hR hf2 hTs2 hmu
  intro b6 hb6
  (try simp only [rwp,hwR,zA,zB,zC,zD,zE,zF,zG,zH,zI])
  have hd6:∀ c∈[bR,b2,b3,b5],b6≠c:=by
   intro c hc
   simp only [List.mem_cons,List.not_mem_nil,or_false] at hc
   rcases hc with rfl | rfl | rfl | rfl
   ·exact q0d hb6 hI2'.rd
   ·exact q0d hb6 hI2'.c2
   ·exact q0d hb6 hI2'.c3
   ·exact q0d hb6 hI2'.c5
  have k6:=Sub.none hI2'.sub hb6
  have hJ0:PrJ S bR b2 b3 b5 b6 T v .nils nm l ([],r2) (supd S2 b6 (.cells 46 [.str nm,.nils] 2)):=by
   have a6:=hI2'.lst.fresh hb6
   refine ⟨⟨?_,?_,?_,?_,hI2'.lst.upd a6 _,hI2'.asd,hI2'.sub.supd k6⟩,by rw [q01,if_pos rfl],.nil,fun c _=>q31,a6,apart_nils⟩
   ·rw [q01,if_neg (hd6 bR (by simp))];exact hI2'.rd
   ·rw [q01,if_neg (hd6 b2 (by simp))];exact hI2'.c2
   ·rw [q01,if_neg (hd6 b3 (by simp))];exact hI2'.c3
   ·rw [q01,if_neg (hd6 b5 (by simp))];exact hI2'.c5
  have hRs0:RsSt T r2 ([],r2):=⟨StepR.refl hp2,Nat.zero_le _,fun x hx=>(by cases hx),fun _ x hx=>(by cases hx)⟩
  refine LoopP.introS (fun _:List Rl×Rd=>[(2,.ptr b2 0),(3,.ptr b3 0),(4,.ptr bR 0),(5,.ptr b5 0),(6,.ptr b6 0)])
   (fun p S'=>(∃ u,PrJ S bR b2 b3 b5 b6 T v u nm l p S')∧RsSt T r2 p∧q3c T T.length p=q3c T T.length ([],r2)) (fun p=>T.length-p.2.at') ([],r2) ⟨⟨.nils,hJ0⟩,hRs0,rfl⟩ rfl ?_
  clear hJ0 hRs0 hI2'
  rintro ⟨rs,r3⟩ S3 ⟨⟨u,hJ⟩,hRs,hfr⟩ q2 hq2
  have hp3:=hRs.st.pre hp2
  have hin3:r3.at'<T.length:=hp3.inr
  have hlr:=hRs.len
  dsimp only at hlr
  obtain ⟨k1,k2⟩:=rels_next hT hp2 hRs
  (try simp only [rwp,hwR,zA,zB,zC,zD,zE,zF,zG,zH,zI,C44_4])
  refine (c_rel hT hp3).ca hJ.out.rd ?_
  have hJ2:=hJ.mv hd (Ne.symm (hd6 bR (by simp))) kR (relP T r3).2
  have o6:=objAt_some.2 hJ2.c6
  have o5:=objAt_some.2 hJ2.out.c5
  cases hok:(relP T r3).1.2 with
  | true=>
   obtain ⟨k3',k4⟩:=k1 hok
   have hfr2:q3c T T.length (rs++[(relP T r3).1.1],(relP T r3).2)=q3c T T.length ([],r2):=by
    rw [← hfr]
    obtain ⟨m,hm⟩:∃ m,T.length=m+1:=⟨T.length-1,by omega⟩
    conv=>rhs;rw [hm,q3c,if_pos hok]
    exact relsL_more hT hp2 k3' (by dsimp only;omega) (by dsimp only;omega)
   have hmr:=hJ2.more hd6 k6 (relP T r3).1.1 (by omega) (K:=fun S4=>rcW q2 [(2,.ptr b2 0),(3,.ptr b3 0),(4,.ptr bR 0),(5,.ptr b5 0),(6,.ptr b6 0)] S4) fun u' S4 hJ4=>q09 rfl (hq2 (rs++[(relP T r3).1.1],(relP T r3).2) S4 ⟨⟨u',hJ4⟩,k3',hfr2⟩ (by dsimp only;omega))
   simp only [q0l] at hmr
   (try simp only [rwp,hwR,zA,zB,zC,zD,zE,zF,zG,zH,zI,q0l,q05 o6,q17])
   exact hmr
  | false=>
   have hstop:q3c T T.length (rs,r3)=(rs,(relP T r3).2):=by
    obtain ⟨m,hm⟩:∃ m,T.length=m+1:=⟨T.length-1,by omega⟩
    rw [hm,q3c,if_neg (by rw [hok];simp)]
   rw [hstop] at hfr
   rw [← hfr] at hf2 hTs2 hmu
   have hone:=hJ2.ins.one
   have htp:=hJ2.typ hd hd6 hn (by omega) (q:=q) (le:=[(2,.ptr b2 0),(3,.ptr b3 0),(4,.ptr bR 0),(5,.ptr b5 0)]) fun v' S4 hI4=>hq (l++[⟨nm,rs⟩],(relP T r3).2) S4 ⟨⟨v',hI4⟩,hTs2,hf2⟩ (by dsimp only at hmu ⊢;omega)
   dsimp only
   (try simp only [rwp,hwR,zA,zB,zC,zD,zE,zF,zG,zH,zI,q0l,q05 o6,q05 o5,q17])
   exact htp
 | false=>
  rw [q7u hi,q0n hrd]
  have hstop:q1t T T.length (l,r)=(l,r):=by
   cases T.length with
   | zero=>rfl
   | succ m=>rw [q1t,if_neg (by rw [hi];simp)]
  rw [hstop] at hf
  have ho:=q75 hrd
  (try simp only [rwp,hwR,zA,zB,zC,zD,zE,zF,zG,zH,zI,q05 ho])
  have fin:∀ S2,PrI S bR b2 b3 b5 T v (l,endR T r) S2→C44_3 (fun ae S'=>ae=.ret (.tup [scA (q66 T).1,(q66 T).2])∧S'=S) (.ptr b2 0) (.ptr b3 0) (.ptr bR 0) (.ptr b5 0) S2:=by
   intro S2 hI2
   have hr2:=q75 hI2.rd
   have o2:=objAt_some.2 hI2.c2
   have o3:=objAt_some.2 hI2.c3
   have o5:=objAt_some.2 hI2.c5
   have hone:=hI2.lst.one
   have hac:q08 v=[v]:=by cases v<;>first | rfl | cases hone
   unfold C44_3
   (try simp only [rwp,hwR,zA,zB,zC,zD,zE,zF,zG,zH,zI,q05 hr2])
   have hpt:q66 T=if (endR T r).de=0 then (l,.agg [.int .i64 0,.int .i64 0,.int .i64 0]) else ([],.agg [.int .i64 (endR T r).dl,.int .i64 (endR T r).dc,.int .i64 (endR T r).de]):=by
    rw [q66,← hf]
   have nR2':b2≠bR:=Ne.symm nR2
   have n32:=Ne.symm n23
   (refine q04 (fun hde=>?_) (fun hde=>?_)<;>(try simp only [hlc] at hde))
   ·rw [if_neg hde] at hpt
    rw [hpt]
    (try simp only [rwp,hwR,zA,zB,zC,zD,zE,zF,zG,zH,zI,o2])
    refine kpW_one (by rw [q01,if_neg nR2']) ?_
    have o3':q0h (supd S2 b2 (.cells 24 [.nils] 1)) b3=some (82,[.int .i64 0,.int .i64 0,.int .i64 0],3):=by rw [q0k n32];exact o3
    (try simp only [rwp,hwR,zA,zB,zC,zD,zE,zF,zG,zH,zI,o3',if_neg n32,o3])
    refine q4k S (.tup [scA [],.agg [.int .i64 (endR T r).dl,.int .i64 (endR T r).dc,.int .i64 (endR T r).de]]) ((hI2.sub.supd hb2).supd k3) ?_ ⟨rfl,rfl⟩
    (try simp only [rwp,hwR,zA,zB,zC,zD,zE,zF,zG,zH,zI,if_neg n23,if_neg n32])
    exact .tu (.cons (.ag (.cons (.nils 2) .nil)) (.cons (.same _) .nil))
   ·rw [if_pos hde] at hpt
    rw [hpt]
    have o3':∀ x,q0h (supd S2 b2 (.cells 24 [x] 1)) b3=some (82,[.int .i64 0,.int .i64 0,.int .i64 0],3):=fun x=>by rw [q0k n32];exact o3
    (try simp only [rwp,hwR,zA,zB,zC,zD,zE,zF,zG,zH,zI,q05 o5,o2,hac,o3',ones,hone,Bool.and_true,if_neg n32,o3])
    refine q4k S (.tup [scA l,.agg [.int .i64 0,.int .i64 0,.int .i64 0]]) ((hI2.sub.supd hb2).supd k3) ?_ ⟨rfl,rfl⟩
    (try simp only [rwp,hwR,zA,zB,zC,zD,zE,zF,zG,zH,zI,if_neg n23,if_neg n32])
    have a2:=hI2.asd b2 (by simp)
    have a3:=hI2.asd b3 (by simp)
    exact .tu (.cons (.ag (.cons (Fr.lst ((hI2.lst.upd a2 _).upd a3 _)) .nil)) (.cons (.same _) .nil))
  cases a1:decide (r.de=0) with
  | false=>
   (try simp only [rwp,hwR,zA,zB,zC,zD,zE,zF,zG,zH,zI,C44_2])
   refine fin S1 ?_
   have:endR T r=r:=by rw [endR,if_neg (fun h=>by rw [decide_eq_true h.1] at a1;cases a1)]
   rw [this]
   exact hI
  | true=>
   have hde:=of_decide_eq_true a1
   (try simp only [rwp,hwR,zA,zB,zC,zD,zE,zF,zG,zH,zI])
   refine (q4y hT hp.inr).ca hrd ?_
   rw [q0n hrd]
   (try simp only [rwp,hwR,zA,zB,zC,zD,zE,zF,zG,zH,zI,tkC])
   cases a2:decide ((nxP T r).s=⟨#[]⟩) with
   | true=>
    (try simp only [rwp,hwR,zA,zB,zC,zD,zE,zF,zG,zH,zI,C44_2])
    refine fin S1 ?_
    have:endR T r=r:=by rw [endR,if_neg (fun h=>h.2 (of_decide_eq_true a2))]
    rw [this]
    exact hI
   | false=>
    (try simp only [rwp,hwR,zA,zB,zC,zD,zE,zF,zG,zH,zI,C44_2])
    refine (q4y hT hp.inr).ca hrd ?_
    rw [q0n hrd]
    (try simp only [rwp,hwR,zA,zB,zC,zD,zE,zF,zG,zH,zI,tkC])
    refine (c_fail (nxP T r) 8).ca hrd ?_
    have:endR T r=q4g (nxP T r) 8 r:=by rw [endR,if_pos ⟨hde,of_decide_eq_false a2⟩]
    rw [← this]
    exact fin _ (hI.mv hd kR _)
theorem parseF_ok {s:ByteArray}:OkS (q4a s).1∧(s.size≤900→OkN (q4a s).1):=by
 unfold q4a
 split
 ·exact ⟨⟨Nat.zero_le _,fun t ht=>(by cases ht)⟩,fun _ t ht=>(by cases ht)⟩
 ·rename_i h
  have hT:=tokT_ok (s:=s) (by omega)
  have hl:=q5x (f:=s.size+1) (l:=bl s) (a:=1) (b:=1)
  rw [q4z] at hl
  obtain ⟨h1,h2⟩:=parseT_ok hT (tokT_pos s)
  refine ⟨h1,fun h t ht r hr=>?_⟩
  have:=h2 t ht r hr
  unfold tokT at this
  omega
set_option maxRecDepth 4000
def cutL (c:Int):List UInt8→Option (List UInt8×List UInt8)
 | []=>none
 | b :: r=>if (b.toNat:Int)=c then some ([],r) else (cutL c r).map fun p=>(b :: p.1,p.2)
theorem cutL_cons {c:Int} {b:UInt8} {r:List UInt8}:cutL c (b :: r)=if (b.toNat:Int)=c then some ([],r) else (cutL c r).map fun p=>(b :: p.1,p.2):=rfl
def cutF (s:ByteArray) (c:Int):ByteArray×ByteArray×Bool:=match cutL c (bl s) with
 | none=>(s,⟨#[]⟩,false)
 | some (a,b)=>(mkB a,mkB b,true)
theorem cutL_len {c:Int}:∀ {l a b:List UInt8},cutL c l=some (a,b)→a.length≤l.length∧b.length≤l.length
 | [],_,_,h=>by cases h
 | x :: r,a,b,h=>by
  unfold cutL at h
  split at h
  ·cases h;exact ⟨Nat.zero_le _,by simp⟩
  ·cases hq:cutL c r with
   | none=>rw [hq] at h;cases h
   | some p=>
    rw [hq] at h
    cases h
    obtain ⟨h1,h2⟩:=cutL_len (a:=p.1) (b:=p.2) hq
    simp only [List.length_cons]
    omega
theorem mkB_len (l:List UInt8):(mkB l).size=l.length:=by simp [mkB,ByteArray.size]
theorem q3i {s:ByteArray} {c:Int}:(cutF s c).1.size≤s.size∧(cutF s c).2.1.size≤s.size:=by
 unfold cutF
 cases h:cutL c (bl s) with
 | none=>exact ⟨Nat.le_refl _,Nat.zero_le _⟩
 | some p=>
  have:=cutL_len (a:=p.1) (b:=p.2) h
  rw [q4z] at this
  exact ⟨by rw [mkB_len];exact this.1,by rw [mkB_len];exact this.2⟩
theorem c_cut {s:ByteArray} (hs:s.size≤1125899906842624) (c:Int):AFun PG nrx133 [.str s,.int .u8 c] (.tup [.str (cutF s c).1,.str (cutF s c).2.1,.bool (cutF s c).2.2]):=by
 intro S
 refine wx133 ?_
 unfold Bx133
 have hln:=q4z s
 refine LoopP.introS (fun i:Nat=>[(0,.str s),(1,.int .u8 c),(7,.int .i64 i)]) (fun i S'=>S'=S∧i≤s.size∧cutL c (bl s)=(cutL c ((bl s).drop i)).map fun p=>((bl s).take i++p.1,p.2)) (fun i=>s.size-i) 0 ⟨rfl,by omega,by cases h:cutL c (bl s)<;>simp [h]⟩ rfl ?_
 rintro i S' ⟨rfl,hi,hc⟩ r hr
 (try simp only [rwp,zA,zB,zC,zD,zE,zF,zG,zH,zI,rwb,reduceIte,C133_1])
 (refine q04 (fun hlt=>?_) (fun hlt=>?_)<;>(try simp only [hlc] at hlt))
 ·obtain ⟨b,hb⟩:=q47 hlt
  have hb':=hb
  rw [bl_get] at hb'
  rw [q1d hb'] at hc
  rw [cutL_cons] at hc
  (try simp only [rwp,zA,zB,zC,zD,zE,zF,zG,zH,zI,rwb,reduceIte,hb])
  (refine q04 (fun hq=>?_) (fun hq=>?_)<;>(try simp only [hlc] at hq))
  ·rw [if_pos hq] at hc
   (simp (disch:=omega) only [q03])
   (try simp only [rwp,zA,zB,zC,zD,zE,zF,zG,zH,zI,rwb,reduceIte,loI,hiI,cutI])
   refine ⟨by omega,by omega,by omega,by omega,by omega,rtW_three ⟨?_,rfl⟩⟩
   unfold cutF
   rw [hc,q53,q53]
   simp only [Option.map_some,List.append_nil,List.drop_zero]
   rw [show ((i:Int)+1).toNat=i+1 by omega,List.take_of_length_le (by omega:(bl s).length≤s.size)]
  ·rw [if_neg hq] at hc
   (simp (disch:=omega) only [q03])
   refine q09 rfl (hr (i+1) _ ⟨rfl,by omega,?_⟩ (by omega))
   rw [hc,q0y hb']
   cases cutL c ((bl s).drop (i+1))<;>simp
 ·have e:(bl s).drop i=[]:=List.drop_eq_nil_of_le (by omega)
  rw [e] at hc
  refine rtW_three ⟨?_,rfl⟩
  unfold cutF
  rw [hc]
  rfl
abbrev nob:ByteArray:=⟨#[]⟩
def objF (s:ByteArray):Ob×Bool:=if (cutF s 58).2.2&&(q0q (cutF s 58).1&&idB (cutF s 58).2.1) then (⟨(cutF s 58).1,(cutF s 58).2.1⟩,true) else (⟨nob,nob⟩,false)
def subF (s:ByteArray):Nd×Bool:=if (objF (cutF s 35).1).2&&(!(cutF s 35).2.2||q0q (cutF s 35).2.1) then (⟨(objF (cutF s 35).1).1,(cutF s 35).2.1⟩,true) else (⟨⟨nob,nob⟩,nob⟩,false)
def tupF (s:ByteArray):Tu×Bool:=
 let x:=cutF s 64
 let y:=cutF x.1 35
 let o:=objF y.1
 let w:=subF x.2.1
 if x.2.2&&(y.2.2&&(o.2&&(w.2&&q0q y.2.1))) then (⟨o.1,y.2.1,w.1⟩,true) else (⟨⟨nob,nob⟩,nob,⟨⟨nob,nob⟩,nob⟩⟩,false)
theorem objF_ok {s:ByteArray} (hs:s.size≤1125899906842624):OkO (objF s).1:=by
 have h:=@q3i s 58
 unfold objF
 split
 ·exact ⟨by dsimp only;omega,by dsimp only;omega⟩
 ·exact ⟨Nat.zero_le _,Nat.zero_le _⟩
theorem subF_ok {s:ByteArray} (hs:s.size≤1125899906842624):OkD (subF s).1:=by
 have h:=@q3i s 35
 unfold subF
 split
 ·exact ⟨objF_ok (by omega),by dsimp only;omega⟩
 ·exact ⟨⟨Nat.zero_le _,Nat.zero_le _⟩,Nat.zero_le _⟩
theorem tupF_ok {s:ByteArray} (hs:s.size≤1125899906842624):OkU (tupF s).1:=by
 have h:=@q3i s 64
 have h2:=@q3i (cutF s 64).1 35
 unfold tupF
 dsimp only
 split
 ·exact ⟨objF_ok (by omega),by dsimp only;omega,subF_ok (by omega)⟩
 ·exact ⟨⟨Nat.zero_le _,Nat.zero_le _⟩,Nat.zero_le _,⟨⟨Nat.zero_le _,Nat.zero_le _⟩,Nat.zero_le _⟩⟩
theorem c_Object {s:ByteArray} (hs:s.size≤1125899906842624):AFun PG nrx134 [.str s] (.tup [.agg (obC (objF s).1),.bool (objF s).2]):=by
 intro S
 refine wx134 ?_
 unfold Bx134
 intro b hb
 have hl:=@q3i s 58
 refine q06 (c_cut hs 58) ?_
 (try simp only [rwp,zA,zB,zC,zD,zE,zF,zG,zH,zI,rwb,reduceIte])
 refine q06 (q3j (by omega)) ?_
 refine q06 (c_ref10_ID (by omega)) ?_
 unfold objF
 cases h1:(cutF s 58).2.2<;>cases h2:q0q (cutF s 58).1<;>cases h3:idB (cutF s 58).2.1<;>(try simp only [rwp,zA,zB,zC,zD,zE,zF,zG,zH,zI,rwb,reduceIte,C134_1,C134_2])<;>refine q16 S (Sub.supd hb (Sub.refl _)) ?_<;>(try simp only [rwp,zA,zB,zC,zD,zE,zF,zG,zH,zI,rwb,reduceIte,obC])<;>simp
theorem c_Subject {s:ByteArray} (hs:s.size≤1125899906842624):AFun PG nrx135 [.str s] (.tup [.agg (ndC (subF s).1),.bool (subF s).2]):=by
 intro S
 refine wx135 ?_
 unfold Bx135
 intro b hb
 have hl:=@q3i s 35
 refine q06 (c_cut hs 35) ?_
 (try simp only [rwp,zA,zB,zC,zD,zE,zF,zG,zH,zI,rwb,reduceIte])
 have q:=c_Object (s:=(cutF s 35).1) (by omega)
 simp only [obC] at q
 refine q06 q ?_
 (try simp only [rwp,zA,zB,zC,zD,zE,zF,zG,zH,zI,rwb,reduceIte])
 refine q06 (q3j (by omega)) ?_
 unfold subF
 cases h1:(objF (cutF s 35).1).2<;>cases h2:(cutF s 35).2.2<;>cases h3:q0q (cutF s 35).2.1<;>(try simp only [rwp,zA,zB,zC,zD,zE,zF,zG,zH,zI,rwb,reduceIte,C135_1,C135_2,C135_3])<;>refine q16 S (Sub.supd hb (Sub.refl _)) ?_<;>(try simp only [rwp,zA,zB,zC,zD,zE,zF,zG,zH,zI,rwb,reduceIte,ndC])<;>simp
theorem c_Tuple {s:ByteArray} (hs:s.size≤1125899906842624):AFun PG nrx89 [.str s] (.tup [.agg (tuC (tupF s).1),.bool (tupF s).2]):=by
 intro S
 refine wx89 ?_
 unfold Bx89
 intro b hb
 have hl:=@q3i s 64
 have hl2:=@q3i (cutF s 64).1 35
 refine q06 (c_cut hs 64) ?_
 (try simp only [rwp,zA,zB,zC,zD,zE,zF,zG,zH,zI,rwb,reduceIte])
 refine q06 (c_cut (by omega) 35) ?_
 (try simp only [rwp,zA,zB,zC,zD,zE,zF,zG,zH,zI,rwb,reduceIte])
 have q:=c_Object (s:=(cutF (cutF s 64).1 35).1) (by omega)
 simp only [obC] at q
 refine q06 q ?_
 (try simp only [rwp,zA,zB,zC,zD,zE,zF,zG,zH,zI,rwb,reduceIte])
 have q2:=c_Subject (s:=(cutF s 64).2.1) (by omega)
 simp only [ndC] at q2
 refine q06 q2 ?_
 (try simp only [rwp,zA,zB,zC,zD,zE,zF,zG,zH,zI,rwb,reduceIte])
 refine q06 (q3j (by omega)) ?_
 unfold tupF
 dsimp only
 cases h1:(cutF s 64).2.2<;>cases h2:(cutF (cutF s 64).1 35).2.2<;>cases h3:(objF (cutF (cutF s 64).1 35).1).2<;>cases h4:(subF (cutF s 64).2.1).2<;>cases h5:q0q (cutF (cutF s 64).1 35).2.1<;>(try simp only [rwp,zA,zB,zC,zD,zE,zF,zG,zH,zI,rwb,reduceIte,C89_1,C89_2,C89_3,C89_4])<;>refine q16 S (Sub.supd hb (Sub.refl _)) ?_<;>(try simp only [rwp,zA,zB,zC,zD,zE,zF,zG,zH,zI,rwb,reduceIte,tuC])<;>simp
theorem c_Tuples {l:List ByteArray} (hl:l.length≤1000000) (hs:∀ s∈l,s.size≤1125899906842624):AFun PG nrx45 [.sl 1 (l.map fun s=>[.str s])] (.sl 6 ((l.map fun s=>(tupF s).1).map tuC)):=by
 intro S
 refine wx45 ?_
 unfold Bx45
 refine LoopP.intro (fun x:Nat×AV×q00=>[(0,.sl 1 (l.map fun s=>[.str s])),(3,x.2.1),(4,.int .i64 x.1)]) (fun x=>x.2.2) (fun x=>x.1≤l.length∧Sub S x.2.2∧LstN S x.2.2 tyTu 6 x.2.1 (((l.take x.1).map fun s=>(tupF s).1).map tuC)) (fun x=>l.length-x.1) (0,.nils,S) ⟨by omega,Sub.refl _,LstN.nil⟩ rfl (Sub.refl S) ?_
 rintro ⟨i,v,S'⟩ ⟨hi,hsu,hL⟩ r hr
 dsimp only at hi hsu hL ⊢
 (try simp only [rwp,zA,zB,zC,zD,zE,zF,zG,zH,zI,rwb,reduceIte,C45_1,List.length_map])
 (refine q04 (fun hlt=>?_) (fun hlt=>?_)<;>(try simp only [hlc] at hlt))
 ·obtain ⟨s,hg⟩:=q1a hlt
  (try simp only [rwp,zA,zB,zC,zD,zE,zF,zG,zH,zI,rwb,reduceIte,List.getElem?_map,hg])
  have q:=c_Tuple (hs s (List.mem_of_getElem? hg))
  simp only [tuC] at q
  refine q06 q ?_
  (try simp only [rwp,zA,zB,zC,zD,zE,zF,zG,zH,zI,rwb,reduceIte])
  have e:((l.take i).map fun s=>(tupF s).1).length≤1000000:=by rw [List.length_map,List.length_take];omega
  refine hL.tu (t:=(tupF s).1) hsu e fun v' S2 h1 h2=>?_
  (simp (disch:=omega) only [q03])
  refine q09 rfl (hr (i+1,v',S2) ⟨by dsimp only;omega,h1,?_⟩ (by dsimp only;omega))
  dsimp only
  rw [q0y hg,List.map_append]
  exact h2
 ·have e:l.take i=l:=List.take_of_length_le (by omega)
  rw [e] at hL
  exact q74 hsu hL ⟨rfl,rfl⟩
set_option maxRecDepth 20000
def bUser:ByteArray:=⟨#[117,115,101,114]⟩
def b1':ByteArray:=⟨#[49]⟩
def bA:ByteArray:=⟨#[97]⟩
def oA:Ob:=⟨bUser,bA⟩
set_option maxRecDepth 20000
def bDoc:ByteArray:=⟨#[100,111,99]⟩
def bOwner:ByteArray:=⟨#[111,119,110,101,114]⟩
def bCan:ByteArray:=⟨#[99,97,110]⟩
def tu1:ByteArray:=⟨#[100,111,99,58,49,35,111,119,110,101,114,64,117,115,101,114,58,97]⟩
def oDoc:Ob:=⟨bDoc,b1'⟩
def nCan:Nd:=⟨oDoc,bCan⟩
set_option maxRecDepth 4000
set_option maxRecDepth 4000
theorem c_ObjectsSame {M:List Ob} (hM:M.length≤100000):AFun PG nrx24 [.sl 2 (M.map obC),.sl 2 (M.map obC)] (.bool true):=by
 intro S
 refine wx24 ?_
 unfold Bx24
 (try simp only [rwp,zA,zB,zC,zD,zE,zF,zG,zH,zI,rwb,reduceIte,List.length_map])
 refine LoopP.introS (fun i:Nat=>[(0,.sl 2 (M.map obC)),(1,.sl 2 (M.map obC)),(5,.int .i64 i)]) (fun i S'=>S'=S∧i≤M.length) (fun i=>M.length-i) 0 ⟨rfl,by omega⟩ rfl ?_
 rintro i S' ⟨rfl,hi⟩ kk hkk
 (try simp only [rwp,zA,zB,zC,zD,zE,zF,zG,zH,zI,rwb,reduceIte,C24_1,List.length_map])
 cases a1:decide ((i:Int)<M.length)
 ·(try simp only [rwp,zA,zB,zC,zD,zE,zF,zG,zH,zI,rwb,reduceIte])
  exact q02 ⟨rfl,rfl⟩
 ·have hlt:=of_decide_eq_true a1
  obtain ⟨x,hx⟩:=q1a hlt
  (try simp only [rwp,zA,zB,zC,zD,zE,zF,zG,zH,zI,rwb,reduceIte,List.getElem?_map,hx,obC,decide_true])
  (try (simp (disch:=omega) only [q03]))
  rw [show (i:Int)+1=((i+1:Nat):Int) by omega]
  exact q09 rfl (hkk (i+1) _ ⟨rfl,by omega⟩ (by omega))
set_option maxRecDepth 4000
theorem KO.put {S:q00} {b clk:Nat} {E:List (Ob×Nat)} (h:KO S b E clk) (o:Ob) {K:q00→Prop}
  (hK:∀ S' E' clk',KO S' b E' clk'→(∀ x,x∈E'.map (·.1)↔x∈E.map (·.1)∨x=o)→E'.length≤E.length+1→(∀ c,c≠b→sget S' c=sget S c)→K S'):muW S MO2 (.map (some b)) (.agg (obC o)) (.bool true) K:=by
 have hok:∀ x:Ob,q0m MO2 (.agg (obC x))=true:=fun x=>ke_ob.ok x
 rw [muW_map,mapObj_some.2 h.map,q69]
 refine ⟨rfl,hok o,?_⟩
 have oth:∀ (y:AObj) c,c≠b→sget (supd S b y) c=sget S c:=fun y c hc=>by rw [q01,if_neg (Ne.symm hc)]
 unfold mset
 cases hf:q0o (enO E) (.agg (obC o)) with
 | none=>
  dsimp only
  have hno:o ∉ E.map (·.1):=by
   intro hm
   obtain ⟨p,hp,rfl⟩:=List.mem_map.1 hm
   have key:∀ {L:List (Ob×Nat)},p∈L→q0o (enO L) (.agg (obC p.1))≠none:=by
    intro L
    induction L with
    | nil=>intro h;cases h
    | cons q r ih=>
     intro hq
     unfold enO
     simp only [List.map_cons,q0o]
     rcases List.mem_cons.1 hq with e | hq
     ·rw [← e,if_pos (q2y (hok p.1))];simp
     ·split
      ·simp
      ·intro h
       rw [Option.map_eq_none_iff] at h
       exact ih hq h
   exact key hp hf
  refine hK _ (E++[(o,clk)]) (clk+1) ⟨by rw [q01,if_pos rfl];unfold enO;rw [List.map_append];rfl,fun p hp=>?_,?_,?_⟩ (fun x=>by rw [List.map_append,List.mem_append];simp) (by simp) (oth _)
  ·rcases List.mem_append.1 hp with hp | hp
   ·exact Nat.lt_succ_of_lt (h.lt p hp)
   ·rw [List.mem_singleton.1 hp];exact Nat.lt_succ_self _
  ·rw [List.map_append,List.nodup_append]
   refine ⟨h.nd,by simp,fun a ha c hc=>?_⟩
   obtain ⟨p,hp,rfl⟩:=List.mem_map.1 ha
   have:=h.lt p hp
   simp only [List.map_cons,List.map_nil,List.mem_singleton] at hc
   omega
  ·rw [List.map_append,List.nodup_append]
   refine ⟨h.ku,by simp,fun a ha c hc=>?_⟩
   simp only [List.map_cons,List.map_nil,List.mem_singleton] at hc
   rw [hc]
   rintro rfl
   exact hno ha
 | some q=>
  obtain ⟨i,v,bn⟩:=q
  dsimp only
  obtain ⟨kk,h1,h2⟩:=q3u hf
  have hi:∃ p,E[i]?=some p∧kk=.agg (obC p.1)∧v=.bool true∧bn=p.2:=by
   unfold enO at h1
   rw [List.getElem?_map] at h1
   cases hE:E[i]? with
   | none=>rw [hE] at h1;cases h1
   | some p=>rw [hE] at h1;simp at h1;exact ⟨p,rfl,h1.1.symm,h1.2.1.symm,h1.2.2.symm⟩
  obtain ⟨p,hp,rfl,rfl,rfl⟩:=hi
  have ho:o=p.1:=ke_ob.inj _ _ ((q35 (hok o) (hok p.1)).1 h2)
  subst ho
  have e:(enO E).set i (.agg (obC p.1),.bool true,p.2)=enO E:=by
   refine List.ext_getElem? fun j=>?_
   rw [List.getElem?_set]
   split
   ·rename_i hj
    subst hj
    rw [h1]
    have:=(List.getElem?_eq_some_iff.1 h1).1
    simp [this]
   ·rfl
  rw [e]
  refine hK _ E clk ⟨by rw [q01,if_pos rfl],h.lt,h.nd,h.ku⟩ (fun x=>⟨.inl,fun h=>h.elim id fun e=>?_⟩) (Nat.le_succ _) (oth _)
  rw [e]
  exact List.mem_map.2 ⟨p,List.mem_of_getElem? hp,rfl⟩
def obsT (typ:ByteArray) (t:Tu):List Ob:=(if t.o.ty=typ then [t.o] else [])++if t.s.o.ty=typ then [t.s.o] else []
def obsL (L:List Tu) (typ:ByteArray):List Ob:=L.flatMap (obsT typ)
def thiF (L:List Tu) (typ:ByteArray):List Ob:=srtO ltO (obsL L typ)
theorem obsL_take {L:List Tu} {typ:ByteArray} {i:Nat} {t:Tu} (h:L[i]?=some t):obsL (L.take (i+1)) typ=obsL (L.take i) typ++obsT typ t:=by
 unfold obsL
 rw [q0y h,List.flatMap_append]
 simp
theorem obsT_len {typ:ByteArray} {t:Tu}:(obsT typ t).length≤2:=by
 unfold obsT
 split<;>split<;>simp
theorem q8h {typ:ByteArray}:∀ {L:List Tu},(obsL L typ).length≤2 * L.length
 | []=>by simp [obsL]
 | t :: r=>by
  have h1:=@q8h typ r
  have h2:=@obsT_len typ t
  unfold obsL at h1 ⊢
  rw [List.flatMap_cons,List.length_append,List.length_cons]
  omega
theorem srt_same {M M':List Ob} (h:∀ x,x∈M↔x∈M'):srtO ltO M=srtO ltO M':=by
 obtain ⟨k1,k2,-⟩:=q5f stO M _ rfl
 obtain ⟨k3,k4,-⟩:=q5f stO M' _ rfl
 exact Asc.uniq stO k1 k3 fun x=>by rw [k2,k4,h]
theorem c_lThings {L:List Tu} (hL:L.length≤127) (typ:ByteArray):AFun PG nrx34 [.sl 6 (L.map tuC),.str typ] (.sl 2 ((thiF L typ).map obC)):=by
 intro S
 refine wx34 ?_
 unfold Bx34
 (try simp only [rwp,zA,zB,zC,zD,zE,zF,zG,zH,zI,rwb,reduceIte,List.length_map])
 intro b hb
 (try simp only [rwp,zA,zB,zC,zD,zE,zF,zG,zH,zI,rwb,reduceIte,List.length_map])
 refine LoopP.introS (fun i:Nat=>[(1,.str typ),(5,.map (some b)),(11,.sl 6 (L.map tuC)),(12,.int .i64 L.length),(13,.int .i64 i)])
  (fun i S'=>i≤L.length∧(∃ E clk,KO S' b E clk∧E.length≤2 * i∧∀ x,x∈E.map (·.1)↔x∈obsL (L.take i) typ)∧∀ c,c≠b→sget S' c=sget S c) (fun i=>L.length-i) 0
  ⟨by omega,⟨[],0,⟨by rw [q01,if_pos rfl];rfl,fun p hp=>(by cases hp),List.nodup_nil,List.nodup_nil⟩,Nat.zero_le _,fun x=>by simp [obsL]⟩,fun c hc=>by rw [q01,if_neg (Ne.symm hc)]⟩ rfl ?_
 rintro i S2 ⟨hi,⟨E,clk,h1,h2,h3⟩,h4⟩ kk hkk
 (try simp only [rwp,zA,zB,zC,zD,zE,zF,zG,zH,zI,rwb,reduceIte,C34_1])
 cases a1:decide ((i:Int)<L.length)
 ·have e:i=L.length:=by have:=of_decide_eq_false a1;omega
  subst e
  rw [List.take_length] at h3
  (try simp only [rwp,zA,zB,zC,zD,zE,zF,zG,zH,zI,rwb,reduceIte])
  refine q0c (c_sorted h1 (by omega)) ?_
  rintro ae S3 ⟨rfl,rfl⟩
  dsimp only
  refine rtW_sub (S':=S) (fun c o hc=>?_) ⟨?_,rfl⟩
  ·rw [h4 c (Ne.symm (q0d hb hc))];exact hc
  ·unfold thiF
   rw [srt_same h3]
 ·have hlt:=of_decide_eq_true a1
  obtain ⟨t,ht⟩:=q1a hlt
  (try simp only [rwp,zA,zB,zC,zD,zE,zF,zG,zH,zI,rwb,reduceIte,List.getElem?_map,ht,tuC])
  refine LoopP.introS (fun j:Nat=>[(1,.str typ),(5,.map (some b)),(11,.sl 6 (L.map tuC)),(12,.int .i64 L.length),(13,.int .i64 i),(22,.agg [.str t.o.ty,.str t.o.id,.str t.s.o.ty,.str t.s.o.id]),(23,.int .i64 j)])
   (fun j S'=>j≤2∧(∃ E clk,KO S' b E clk∧E.length≤2 * i+j∧∀ x,x∈E.map (·.1)↔x∈obsL (L.take i) typ∨(0<j∧t.o.ty=typ∧x=t.o)∨(1<j∧t.s.o.ty=typ∧x=t.s.o))∧∀ c,c≠b→sget S' c=sget S c) (fun j=>2-j) 0
   ⟨by omega,⟨E,clk,h1,h2,fun x=>by rw [h3];simp⟩,h4⟩ rfl ?_
  rintro j S3 ⟨hj,⟨E3,clk3,g1,g2,g3⟩,g4⟩ k2 hk2
  (try simp only [rwp,zA,zB,zC,zD,zE,zF,zG,zH,zI,rwb,reduceIte,C34_2])
  cases a2:decide ((j:Int)<2)
  ·have e:j=2:=by have:=of_decide_eq_false a2;omega
   subst e
   (try simp only [rwp,zA,zB,zC,zD,zE,zF,zG,zH,zI,rwb,reduceIte])
   (simp (disch:=omega) only [q03])
   refine q09 rfl (hkk (i+1) S3 ⟨by omega,⟨E3,clk3,g1,by omega,fun x=>?_⟩,g4⟩ (by omega))
   rw [g3,obsL_take ht,List.mem_append]
   unfold obsT
   rw [List.mem_append]
   simp only [Nat.zero_lt_succ,Nat.lt_add_one,true_and]
   have e1:x∈(if t.o.ty=typ then [t.o] else [])↔t.o.ty=typ∧x=t.o:=by
    split
    ·rename_i h;simp [h]
    ·rename_i h;simp [h]
   have e2:x∈(if t.s.o.ty=typ then [t.s.o] else [])↔t.s.o.ty=typ∧x=t.s.o:=by
    split
    ·rename_i h;simp [h]
    ·rename_i h;simp [h]
   rw [e1,e2]
  ·have hj2:=of_decide_eq_true a2
   have step:∀ (o:Ob),(j=0→o=t.o)→(j=1→o=t.s.o)→o.ty=typ→muW S3 MO2 (.map (some b)) (.agg (obC o)) (.bool true) fun S=>rcW k2 [(1,.str typ),(5,.map (some b)),(11,.sl 6 (L.map tuC)),(12,.int .i64 L.length),(13,.int .i64 i),(22,.agg [.str t.o.ty,.str t.o.id,.str t.s.o.ty,.str t.s.o.id]),(23,.int .i64 (IntKind.i64.wrap ((j:Int)+1)))] S:=by
    intro o u1 u2 u3
    refine g1.put o fun S' E' clk' v1 v2 v3 v4=>?_
    (simp (disch:=omega) only [q03])
    refine q09 rfl (hk2 (j+1) S' ⟨by omega,⟨E',clk',v1,by omega,fun x=>?_⟩,fun c hc=>(v4 c hc).trans (g4 c hc)⟩ (by omega))
    rw [v2,g3]
    have h01:j=0∨j=1:=by omega
    rcases h01 with e | e
    ·subst e
     have:=u1 rfl
     subst this
     simp [u3]
    ·subst e
     have:=u2 rfl
     subst this
     simp [u3,or_assoc]
   have skip:(j=0→¬ t.o.ty=typ)→(j=1→¬ t.s.o.ty=typ)→rcW k2 [(1,.str typ),(5,.map (some b)),(11,.sl 6 (L.map tuC)),(12,.int .i64 L.length),(13,.int .i64 i),(22,.agg [.str t.o.ty,.str t.o.id,.str t.s.o.ty,.str t.s.o.id]),(23,.int .i64 (IntKind.i64.wrap ((j:Int)+1)))] S3:=by
    intro u1 u2
    (simp (disch:=omega) only [q03])
    refine q09 rfl (hk2 (j+1) S3 ⟨by omega,⟨E3,clk3,g1,by omega,fun x=>?_⟩,g4⟩ (by omega))
    rw [g3]
    have h01:j=0∨j=1:=by omega
    rcases h01 with e | e
    ·subst e
     simp [u1 rfl]
    ·subst e
     simp [u2 rfl]
   have h01:j=0∨j=1:=by omega
   rcases h01 with e | e
   ·subst e
    (try simp only [rwp,zA,zB,zC,zD,zE,zF,zG,zH,zI,rwb,reduceIte])
    have e0:idxaA 2 2 true (.agg [.str t.o.ty,.str t.o.id,.str t.s.o.ty,.str t.s.o.id]) (.int .i64 ((0:Nat):Int))=some (.agg (obC t.o)):=by simp [idxaA,mkA,obC]
    unfold ixW
    rw [e0]
    refine (show ∀ {x:AV} {K:AV→Prop},K x→q0j (some x) K from fun h=>h) ?_
    (try simp only [rwp,zA,zB,zC,zD,zE,zF,zG,zH,zI,rwb,reduceIte,obC])
    cases a3:decide (t.o.ty=typ)
    ·(try simp only [rwp,zA,zB,zC,zD,zE,zF,zG,zH,zI,rwb,reduceIte])
     exact skip (fun _=>of_decide_eq_false a3) (fun h=>by cases h)
    ·(try simp only [rwp,zA,zB,zC,zD,zE,zF,zG,zH,zI,rwb,reduceIte])
     exact step t.o (fun _=>rfl) (fun h=>by cases h) (of_decide_eq_true a3)
   ·subst e
    (try simp only [rwp,zA,zB,zC,zD,zE,zF,zG,zH,zI,rwb,reduceIte])
    have e0:idxaA 2 2 true (.agg [.str t.o.ty,.str t.o.id,.str t.s.o.ty,.str t.s.o.id]) (.int .i64 ((1:Nat):Int))=some (.agg (obC t.s.o)):=by simp [idxaA,mkA,obC]
    unfold ixW
    rw [e0]
    refine (show ∀ {x:AV} {K:AV→Prop},K x→q0j (some x) K from fun h=>h) ?_
    (try simp only [rwp,zA,zB,zC,zD,zE,zF,zG,zH,zI,rwb,reduceIte,obC])
    cases a3:decide (t.s.o.ty=typ)
    ·(try simp only [rwp,zA,zB,zC,zD,zE,zF,zG,zH,zI,rwb,reduceIte])
     exact skip (fun h=>by cases h) (fun _=>of_decide_eq_false a3)
    ·(try simp only [rwp,zA,zB,zC,zD,zE,zF,zG,zH,zI,rwb,reduceIte])
     exact step t.s.o (fun h=>by cases h) (fun _=>rfl) (of_decide_eq_true a3)
theorem c_rThings {L:List Tu} (hL:L.length≤127) (typ:ByteArray):AFun PG nrx35 [.sl 6 (L.map tuC),.str typ] (.sl 2 ((thiF L typ).map obC)):=by
 intro S
 refine wx35 ?_
 unfold Bx35
 refine LoopP.introS (fun x:Nat×AV=>[(0,.sl 6 (L.map tuC)),(1,.str typ),(5,x.2),(6,.int .i64 x.1)]) (fun x S'=>x.1≤L.length∧Sub S S'∧LstW S S' tyOb 2 x.2 ((obsL (L.take x.1) typ).map obC)) (fun x=>L.length-x.1) (0,.nils)
  ⟨by dsimp only;omega,Sub.refl _,LstW.nil⟩ rfl ?_
 rintro ⟨i,ov⟩ S1 ⟨hi,s1,o1⟩ kk hkk
 dsimp only at hi o1 ⊢
 (try simp only [rwp,zA,zB,zC,zD,zE,zF,zG,zH,zI,rwb,reduceIte,C35_1,List.length_map])
 cases a1:decide ((i:Int)<L.length)
 ·have e:i=L.length:=by have:=of_decide_eq_false a1;omega
  subst e
  rw [List.take_length] at o1
  (try simp only [rwp,zA,zB,zC,zD,zE,zF,zG,zH,zI,rwb,reduceIte])
  have hln:=@q8h typ L
  have q:=c_Sorted (M:=obsL L typ) (by omega) S
  refine q0c (ACalls.frz (FrS.sub s1) (.cons (Fr.lst14 o1) .nil) q) ?_
  rintro ae S2 ⟨rfl,rfl⟩
  dsimp only
  exact q02 ⟨rfl,rfl⟩
 ·have hlt:=of_decide_eq_true a1
  obtain ⟨t,ht⟩:=q1a hlt
  have hot:=obsL_take (typ:=typ) ht
  have hln:=@q8h typ (L.take i)
  have:=List.length_take_le i L
  have second:∀ (M:List Ob) (v:AV) (S2:q00),Sub S S2→LstW S S2 tyOb 2 v (M.map obC)→M.length≤2 * i+1→M=obsL (L.take i) typ++(if t.o.ty=typ then [t.o] else [])→C35_2 (fun ae S'=>ae=AEnd.ret (.sl 2 ((thiF L typ).map obC))∧S'=S) kk (.sl 6 (L.map tuC)) (.str typ) v (.int .i64 i) S2:=by
   intro M v S2 s2 o2 hm hM
   (try simp only [rwp,zA,zB,zC,zD,zE,zF,zG,zH,zI,rwb,reduceIte,C35_2,List.getElem?_map,ht,tuC])
   cases a3:decide (t.s.o.ty=typ)
   ·(try simp only [rwp,zA,zB,zC,zD,zE,zF,zG,zH,zI,rwb,reduceIte])
    (try (simp (disch:=omega) only [q03]))
    rw [show (i:Int)+1=((i+1:Nat):Int) by omega]
    refine q09 rfl (hkk (i+1,v) _ ⟨by dsimp only;omega,s2,?_⟩ (by dsimp only;omega))
    dsimp only
    rw [hot,obsT,if_neg (of_decide_eq_false a3),List.append_nil,← hM]
    exact o2
   ·(try simp only [rwp,zA,zB,zC,zD,zE,zF,zG,zH,zI,rwb,reduceIte,List.getElem?_map,ht,tuC])
    refine LstW.appL s2 o2 (xs:=[obC t.s.o]) appX_sl (fun r hr=>by rw [List.mem_singleton.1 hr];rfl) (q1y fun r hr=>by rw [List.mem_singleton.1 hr];rfl) (by simp only [List.length_map,List.length_singleton];omega) fun v' S4 s4 o4 j4=>?_
    (try (simp (disch:=omega) only [q03]))
    rw [show (i:Int)+1=((i+1:Nat):Int) by omega]
    refine q09 rfl (hkk (i+1,v') _ ⟨by dsimp only;omega,s4,?_⟩ (by dsimp only;omega))
    dsimp only
    rw [hot,obsT,if_pos (of_decide_eq_true a3),← List.append_assoc,← hM,List.map_append]
    exact o4
  (try simp only [rwp,zA,zB,zC,zD,zE,zF,zG,zH,zI,rwb,reduceIte,List.getElem?_map,ht,tuC])
  cases a2:decide (t.o.ty=typ)
  ·(try simp only [rwp,zA,zB,zC,zD,zE,zF,zG,zH,zI,rwb,reduceIte])
   exact second _ ov S1 s1 o1 (by omega) (by rw [if_neg (of_decide_eq_false a2),List.append_nil])
  ·(try simp only [rwp,zA,zB,zC,zD,zE,zF,zG,zH,zI,rwb,reduceIte,List.getElem?_map,ht,tuC])
   refine LstW.appL s1 o1 (xs:=[obC t.o]) appX_sl (fun r hr=>by rw [List.mem_singleton.1 hr];rfl) (q1y fun r hr=>by rw [List.mem_singleton.1 hr];rfl) (by simp only [List.length_map,List.length_singleton];omega) fun v' S4 s4 o4 j4=>?_
   refine second (obsL (L.take i) typ++[t.o]) v' S4 s4 ?_ (by simp only [List.length_append,List.length_singleton];omega) (by rw [if_pos (of_decide_eq_true a2)])
   rw [List.map_append]
   exact o4
set_option maxRecDepth 4000
set_option maxRecDepth 4000
def ck (E:q2g) (B:Int) (n:Nd):Bool×Int×Int:=
 if B<0∨100000<B∨errA (chkF E.s)≠0 then (false,0,1)
 else if q0z E.s n.o.ty n.rl=none then (false,0,6)
 else match askQ E B 50 [] n 0 with
  | none=>(false,0,12)
  | some (b,w)=>(b,w,0)
theorem chk15_ck {E:q2g} {B:Int} {n:Nd}:chk15 E B n=.tup [.bool (ck E B n).1,.int .i64 (ck E B n).2.1,.int .i64 (ck E B n).2.2]:=by
 unfold chk15 ck
 split
 ·rfl
 ·split
  ·rfl
  ·cases askQ E B 50 [] n 0 with
   | none=>rfl
   | some p=>rfl
theorem ck_work {E:q2g} {B:Int} {n:Nd} (h:(ck E B n).2.2=0):1≤(ck E B n).2.1∧(ck E B n).2.1≤B:=by
 unfold ck at h ⊢
 split at h
 ·cases h
 ·rename_i h1
  rw [if_neg h1]
  split at h
  ·cases h
  ·rename_i h2
   rw [if_neg h2]
   cases ha:askQ E B 50 [] n 0 with
   | none=>rw [ha] at h;cases h
   | some p=>
    obtain ⟨b,w⟩:=p
    have:=ask_work (by cases hq:q0z E.s n.o.ty n.rl with
     | none=>exact absurd hq h2
     | some _=>rfl) ha
    dsimp only
    omega
theorem counts_idem {s:List Ty} {l:List Tu}:q0f s (q0f s l)=q0f s l:=by
 unfold q0f
 rw [List.filter_filter]
 congr 1
 funext t
 simp
theorem env_counts16 {s:List Ty} {l:List Tu} {who:Ob}:envE s (q0f s l) who=envE s l who:=by
 unfold envE
 rw [counts_idem]
abbrev CkF:=Ob→Int→Bool×Int×Int
def evF (c:CkF) (B:Int):List Ob→List Ob→Int→List Ob×Int×Int
 | [],out,w=>(out,w,0)
 | o :: r,out,w=>if (c o (B-w)).2.2=0 then evF c B r (if (c o (B-w)).1=true then out++[o] else out) (w+(c o (B-w)).2.1) else ([],0,(c o (B-w)).2.2)
theorem evF_cons {c:CkF} {B:Int} {o:Ob} {r out:List Ob} {w:Int}:evF c B (o :: r) out w=if (c o (B-w)).2.2=0 then evF c B r (if (c o (B-w)).1=true then out++[o] else out) (w+(c o (B-w)).2.1) else ([],0,(c o (B-w)).2.2):=rfl
def eaA (x:List Ob×Int×Int):AV:=.tup [.sl 2 (x.1.map obC),.int .i64 x.2.1,.int .i64 x.2.2]
def CkOk (c:CkF):Prop:=∀ o b,(c o b).2.2=0→1≤(c o b).2.1∧(c o b).2.1≤b
theorem rt3 {S S1:q00} {v:AV} {M:List Ob} {w e:Int} {QF:AEnd→q00→Prop} (hs:Sub S S1) (h:LstN S S1 tyOb 2 v (M.map obC)) (hQ:QF (.ret (eaA (M,w,e))) S):rtW [.tmp v,.tmp (.int .i64 w),.tmp (.int .i64 e)] QF S1:=
 q4k S (eaA (M,w,e)) hs (Fr.tu (.cons (Fr.lst h) (.cons (.same _) (.cons (.same _) .nil)))) hQ
theorem c_each {M:List Ob} {g:Nat} {ca:List AV} {c:CkF} {B:Int} {S:q00} (hM:M.length≤100000) (hB:0≤B∧B≤100000) (hc:CkOk c)
  (hp:∀ S',Sub S S'→∀ o∈M,∀ b,AFunS PG g ([]++[.agg (obC o),.int .i64 b]++ca) S' (.tup [.bool (c o b).1,.int .i64 (c o b).2.1,.int .i64 (c o b).2.2])) :
  AFunS PG nrx71 [.sl 2 (M.map obC),.int .i64 B,.func (.func g) [] ca] S (eaA (evF c B M [] 0)):=by
 refine wx71 ?_
 unfold Bx71
 (try simp only [rwp,zA,zB,zC,zD,zE,zF,zG,zH,zI,rwb,reduceIte,List.length_map])
 refine LoopP.introS (fun x:Nat×AV×Int×List Ob=>[(1,.int .i64 B),(2,.func (.func g) [] ca),(9,x.2.1),(10,.int .i64 x.2.2.1),(16,.sl 2 (M.map obC)),(17,.int .i64 M.length),(18,.int .i64 x.1)])
  (fun x S'=>x.1≤M.length∧Sub S S'∧LstN S S' tyOb 2 x.2.1 (x.2.2.2.map obC)∧x.2.2.2.length≤x.1∧0≤x.2.2.1∧x.2.2.1≤B∧evF c B (M.drop x.1) x.2.2.2 x.2.2.1=evF c B M [] 0) (fun x=>M.length-x.1) (0,.nils,0,[])
  ⟨Nat.zero_le _,Sub.refl _,LstN.nil,Nat.le_refl _,Int.le_refl _,hB.1,rfl⟩ rfl ?_
 rintro ⟨i,v,w,out⟩ S1 ⟨hi,s1,o1,hl,hw0,hw1,he⟩ kk hkk
 dsimp only at hi o1 hl hw0 hw1 he ⊢
 (try simp only [rwp,zA,zB,zC,zD,zE,zF,zG,zH,zI,rwb,reduceIte,C71_1])
 cases a1:decide ((i:Int)<M.length)
 ·have e:i=M.length:=by have:=of_decide_eq_false a1;omega
  subst e
  rw [List.drop_length] at he
  (try simp only [rwp,zA,zB,zC,zD,zE,zF,zG,zH,zI,rwb,reduceIte])
  refine rt3 s1 o1 ⟨?_,rfl⟩
  rw [← he]
  rfl
 ·have hlt:=of_decide_eq_true a1
  obtain ⟨x,hx⟩:=q1a hlt
  rw [q1d hx,evF_cons] at he
  (try simp only [rwp,zA,zB,zC,zD,zE,zF,zG,zH,zI,rwb,reduceIte,List.getElem?_map,hx,obC])
  have q:=hp S1 s1 x (List.mem_of_getElem? hx) (B-w)
  simp only [obC] at q
  rw [show IntKind.i64.wrap (B-w)=B-w from by (try (simp (disch:=omega) only [q03]))]
  refine caW_atv q ?_
  (try simp only [rwp,zA,zB,zC,zD,zE,zF,zG,zH,zI,rwb,reduceIte])
  cases a2:decide ((c x (B-w)).2.2=0)
  ·rw [if_neg (of_decide_eq_false a2)] at he
   (try simp only [rwp,zA,zB,zC,zD,zE,zF,zG,zH,zI,rwb,reduceIte])
   refine rt3 (M:=[]) s1 LstN.nil ⟨?_,rfl⟩
   rw [← he]
  ·have h0:=of_decide_eq_true a2
   rw [if_pos h0] at he
   have hw:=hc x (B-w) h0
   cases a3:(c x (B-w)).1
   ·rw [a3,if_neg (by simp)] at he
    (try simp only [rwp,zA,zB,zC,zD,zE,zF,zG,zH,zI,rwb,reduceIte])
    (simp (disch:=omega) only [q03])
    exact q09 rfl (hkk (i+1,v,w+(c x (B-w)).2.1,out) S1 ⟨by dsimp only;omega,s1,o1,by dsimp only;omega,by dsimp only;omega,by dsimp only;omega,he⟩ (by dsimp only;omega))
   ·rw [a3,if_pos rfl] at he
    (try simp only [rwp,zA,zB,zC,zD,zE,zF,zG,zH,zI,rwb,reduceIte])
    refine LstN.app s1 o1 (xs:=[obC x]) (fun r hr=>by rw [List.mem_singleton.1 hr];rfl) (q1y fun r hr=>by rw [List.mem_singleton.1 hr];rfl) (by simp only [List.length_map,List.length_singleton];omega) fun v' S4 j1 j2 j3=>?_
    (simp (disch:=omega) only [q03])
    refine q09 rfl (hkk (i+1,v',w+(c x (B-w)).2.1,out++[x]) S4 ⟨by dsimp only;omega,j1,?_,by simp only [List.length_append,List.length_singleton];omega,by dsimp only;omega,by dsimp only;omega,he⟩ (by dsimp only;omega))
    dsimp only
    rw [List.map_append]
    exact j2
def lobF (s:List Ty) (l:List Tu) (typ rel:ByteArray) (who:Ob) (B:Int):List Ob×Int×Int:=
 if mayX s B=true then (match q0z s typ rel with
  | none=>([],0,6)
  | some _=>evF (fun o b=>ck (envE s l who) b ⟨o,rel⟩) B (thiF (q0f s l) typ) [] 0)
 else ([],0,1)
theorem thi_len {L:List Tu} {typ:ByteArray}:(thiF L typ).length≤2 * L.length:=by
 unfold thiF
 obtain ⟨-,-,h⟩:=q5f stO (obsL L typ) _ rfl
 exact Nat.le_trans h q8h
theorem cnt_cell {s:List Ty} (hs:OkS s) {l:List Tu} (hl:OkL l) {S:q00} {b7 t:Nat} {x:AV} (hb:sget S b7=none) {K:q00→Prop} {Qp:AV→q00→Prop}
  (hK:∀ a S9,q0h S9 b7=some (t,[a],1)→one a=true→FrS (supd S b7 (.cells t [.sl 6 ((q0f s l).map tuC)] 1)) S9→Fr (supd S b7 (.cells t [.sl 6 ((q0f s l).map tuC)] 1)) S9 a (.sl 6 ((q0f s l).map tuC))→(∀ (S2:q00) (K2:AV→Prop),lnW S2 1 a K2=K2 (.int .i64 (q0f s l).length))→K S9) :
  caW PG (supd S b7 (.cells t [x] 1)) (.func (.func nrx70) [] []) [scA s,.sl 6 (l.map tuC)] (fun v S=>stW S 1 (.ptr b7 0) v K) Qp:=by
 refine q0c (c_lcounts hs hl _) ?_
 rintro ae S8 ⟨a,rfl,h1,h2⟩
 dsimp only
 have g8:sget S8 b7=some (.cells t [x] 1):=h1 _ _ (by rw [q01,if_pos rfl])
 have hone:one a=true:=by
  obtain ⟨-,⟨rfl,-⟩ | ⟨b,cap,cs,rfl,-⟩⟩:=h2<;>rfl
 obtain ⟨ha,-⟩:=one_aC hone
 have hfa:Fr (supd S b7 (.cells t [.sl 6 ((q0f s l).map tuC)] 1)) (supd S8 b7 (.cells t [a] 1)) a (.sl 6 ((q0f s l).map tuC)):=by
  obtain ⟨hr,⟨rfl,e⟩ | ⟨b,cap,cs,rfl,k1,k2,k3,k4,k5,k6⟩⟩:=h2
  ·rw [e];exact .nils 6
  ·have hne:b7≠b:=by
    rintro rfl
    rw [q01,if_pos rfl] at k1
    cases k1
   rw [q01,if_neg hne] at k1
   exact .ownW tyTu 6 b _ cap _ cs hr (by rw [q01,if_neg hne];exact k1) (by rw [q01,if_neg hne];exact k2) k3 rfl k5
 unfold stW q49
 dsimp only
 rw [objAt_some.2 g8]
 dsimp only
 rw [ha]
 refine ⟨rfl,by simp,by simp [ones,hone],?_⟩
 have e:q1i [x] 0 [a]=[a]:=rfl
 rw [e]
 refine hK a _ (by rw [objAt_supd,if_pos rfl]) hone (fun b o' hb'=>?_) hfa (fun S2 K2=>by rw [h2.ln,List.length_map])
 rw [q01] at hb' ⊢
 split at hb'
 ·rename_i e
  rw [if_pos e]
  cases hb'
  exact ⟨_,rfl,.cells _ _ _ _ (.cons hfa .nil)⟩
 ·rename_i e
  rw [if_neg e]
  exact ⟨o',h1 _ _ (by rw [q01,if_neg e];exact hb'),.same _⟩
theorem c_lObjects_1 {s:List Ty} (hs:OkS s) (hN:OkN s) {l:List Tu} (hl:OkL l) {S:q00} {b t:Nat} (hb:sget S b=some (.cells t [.sl 6 ((q0f s l).map tuC)] 1)) (rel:ByteArray) (who o:Ob) (B:Int) :
  AFunS PG nrx72 ([]++[.agg (obC o),.int .i64 B]++[.rop [.sl 2 (s.map tyC)],.ptr b 0,.rop [.str rel],.rop (obC who)]) S (.tup [.bool (ck (envE s l who) B ⟨o,rel⟩).1,.int .i64 (ck (envE s l who) B ⟨o,rel⟩).2.1,.int .i64 (ck (envE s l who) B ⟨o,rel⟩).2.2]):=by
 refine wx72 ?_
 unfold Bx72
 have hc:=q05 (objAt_some.2 hb)
 have q:=c_engine_Check hs hN (q4s hl (s:=s)) ⟨o,rel⟩ who B
 rw [env_counts16,chk15_ck] at q
 simp only [scA,obC] at q
 (try simp only [rwp,zA,zB,zC,zD,zE,zF,zG,zH,zI,rwb,reduceIte,obC,hc])
 refine q06 q ?_
 (try simp only [rwp,zA,zB,zC,zD,zE,zF,zG,zH,zI,rwb,reduceIte])
 exact q16 S (Sub.refl _) ⟨rfl,rfl⟩
theorem c_lObjects {s:List Ty} (hs:OkS s) (hN:OkN s) {l:List Tu} (hl:OkL l) (hlen:l.length≤127) (typ rel:ByteArray) (who:Ob) (B:Int) :
  AFun PG nrx32 [scA s,.sl 6 (l.map tuC),.str typ,.str rel,.agg (obC who),.int .i64 B] (eaA (lobF s l typ rel who B)):=by
 intro S
 refine wx32 ?_
 unfold Bx32
 have q1:=c_lmay hs hN B
 have q2:=q1f hs typ rel
 simp only [scA] at q1 q2
 (try simp only [rwp,zA,zB,zC,zD,zE,zF,zG,zH,zI,rwb,reduceIte,scA,obC])
 refine ⟨rfl,rfl,fun b7 hb7=>?_⟩
 refine q06 q1 ?_
 unfold lobF
 have hs7:∀ o,Sub S (supd S b7 o):=fun o=>Sub.fresh _ hb7
 cases hm:mayX s B
 ·rw [if_neg (by simp)]
  (try simp only [rwp,zA,zB,zC,zD,zE,zF,zG,zH,zI,rwb,reduceIte])
  exact rt3 (M:=[]) (hs7 _) LstN.nil ⟨rfl,rfl⟩
 ·rw [if_pos rfl]
  have hm':=hm
  unfold mayX at hm'
  simp only [Bool.and_eq_true,decide_eq_true_eq] at hm'
  (try simp only [rwp,zA,zB,zC,zD,zE,zF,zG,zH,zI,rwb,reduceIte])
  refine q0c (q2 _) ?_
  rintro ae S' ⟨rfl,rfl⟩
  cases hq:q0z s typ rel with
  | none=>
   dsimp only
   (try simp only [rwp,zA,zB,zC,zD,zE,zF,zG,zH,zI,rwb,reduceIte,zeroR])
   exact rt3 (M:=[]) (hs7 _) LstN.nil ⟨rfl,rfl⟩
  | some p=>
   obtain ⟨fi,fk,r⟩:=p
   dsimp only
   (try simp only [rwp,zA,zB,zC,zD,zE,zF,zG,zH,zI,rwb,reduceIte,q0l])
   have q:=@cnt_cell s hs l hl S b7 25 (.sl 6 (l.map tuC)) hb7
   simp only [scA,q3n] at q
   refine q fun a S9 u1 u2 u3 u4 _=>?_
   have u5:=q05 u1
   (try simp only [rwp,zA,zB,zC,zD,zE,zF,zG,zH,zI,rwb,reduceIte,u5,u2])
   have hlc:(q0f s l).length≤l.length:=List.length_filter_le _ _
   have hln:=hl.n
   have q3:=c_lThings (L:=q0f s l) (by omega) typ (supd S b7 (.cells 25 [.sl 6 ((q0f s l).map tuC)] 1))
   refine q0c (ACalls.frz u3 (.cons u4 (.cons (.same _) .nil)) q3) ?_
   rintro ae S10 ⟨rfl,rfl⟩
   dsimp only
   have hthi:=@thi_len (q0f s l) typ
   have q4:=c_each (g:=nrx72) (ca:=[.rop [.sl 2 (s.map tyC)],.ptr b7 0,.rop [.str rel],.rop (obC who)]) (c:=fun o b=>ck (envE s l who) b ⟨o,rel⟩) (B:=B) (M:=thiF (q0f s l) typ)
    (S:=supd S b7 (.cells 25 [.sl 6 ((q0f s l).map tuC)] 1)) (by omega) ⟨hm'.1,hm'.2.1⟩ (fun o b=>ck_work) fun S' hS' o _ b=>c_lObjects_1 hs hN hl (hS' _ _ (by rw [q01,if_pos rfl])) rel who o b
   simp only [obC] at q4
   refine q1k q4 ?_
   unfold eaA
   (try simp only [rwp,zA,zB,zC,zD,zE,zF,zG,zH,zI,rwb,reduceIte])
   exact q16 S (hs7 _) ⟨rfl,rfl⟩
set_option maxRecDepth 20000
def tx16:ByteArray:=⟨#[116,121,112,101,32,117,115,101,114,32,116,121,112,101,32,100,111,99,32,114,101,108,97,116,105,111,110,32,111,119,110,101,114,58,32,117,115,101,114,32,100,101,102,105,110,101,32,99,97,110,58,32,111,119,110,101,114]⟩
def sc16:List Ty:=(q4a tx16).1
def l16:List Tu:=[⟨oDoc,bOwner,⟨oA,⟨#[]⟩⟩⟩]
def lb1:ByteArray:=⟨#[100,111,99,58,49,35,99,97,110]⟩
def lb2:ByteArray:=⟨#[100,111,99,58,49,35,111,119,110,101,114]⟩
def lb3:ByteArray:=⟨#[117,115,101,114,58,97]⟩
theorem ps16:(q4a tx16).2=.agg [.int .i64 0,.int .i64 0,.int .i64 0]:=by kernel_rfl
theorem t16:([tu1].map fun s=>(tupF s).1)=l16:=by kernel_rfl
theorem ok16:OkS sc16∧OkN sc16:=by
 have h:=parseF_ok (s:=tx16)
 exact ⟨h.1,h.2 (by decide)⟩
theorem okl16:OkL l16:=by
 rw [← t16]
 refine ⟨by decide,fun t ht=>?_⟩
 obtain ⟨s,hs,rfl⟩:=List.mem_map.1 ht
 refine tupF_ok ?_
 simp only [List.mem_cons,List.not_mem_nil,or_false] at hs
 rcases hs with rfl
 decide
theorem x16:chkX sc16 l16 9 nCan=.tup [.agg [.str lb1,.sl 1 [],.sl 3 [[.str lb2,.sl 1 [[.str lb3]],.sl 3 []]]],.int .i64 2,.int .i64 0]:=by kernel_rfl
theorem o16:eaA (lobF sc16 l16 bDoc bCan oA 9)=.tup [.sl 2 [obC oDoc],.int .i64 2,.int .i64 0]:=by kernel_rfl
theorem okDoc:OkO oDoc:=⟨by decide,by decide⟩
theorem c_awake16:AFun PG nrx31 [] (.bool true):=by
 intro S
 refine wx31 ?_
 unfold Bx31
 have r1:=c_Parse tx16
 rw [ps16] at r1
 have r2:=c_Tuples (l:=[tu1]) (by decide) (fun s hs=>by
  simp only [List.mem_cons,List.not_mem_nil,or_false] at hs
  rcases hs with rfl
  decide)
 rw [t16] at r2
 have q1:=c_Expand ok16.1 ok16.2 okl16 (n:=nCan) okDoc 9
 have q2:=c_lObjects ok16.1 ok16.2 okl16 (by decide) bDoc bCan oA 9
 rw [x16] at q1
 rw [o16] at q2
 unfold sc16 at q1 q2
 generalize (q4a tx16).1=sc at r1 q1 q2
 simp only [scA] at r1 q1 q2
 refine q06 r1 ?_
 (try simp only [rwp,zA,zB,zC,zD,zE,zF,zG,zH,zI,rwb,reduceIte])
 intro b1 hb1 b2 hb2
 obtain ⟨d21,hb2'⟩:=frsh hb2
 (try simp only [rwp,zA,zB,zC,zD,zE,zF,zG,zH,zI,rwb,reduceIte,d21,Ne.symm d21])
 refine q06 r2 ?_
 (try simp only [rwp,zA,zB,zC,zD,zE,zF,zG,zH,zI,rwb,reduceIte])
 refine q06 q1 ?_
 generalize hS4:sdel _ b1=S4
 have s4:Sub S S4:=by
  rw [← hS4]
  intro a o ha
  have e3:=q0d hb1 ha
  have e4:=q0d hb2' ha
  simp only [q0a,q01,if_neg e3,if_neg e4]
  exact ha
 (try simp only [rwp,zA,zB,zC,zD,zE,zF,zG,zH,zI,rwb,reduceIte])
 rw [show obC oDoc=[.str ⟨#[100,111,99]⟩,.str ⟨#[49]⟩] from rfl] at q2
 refine q06 q2 ?_
 rw [decide_eq_true (show ((1:Nat):Int)=1 from rfl)]
 (try simp only [rwp,zA,zB,zC,zD,zE,zF,zG,zH,zI,rwb,reduceIte,List.length_cons,List.length_nil])
 rw [decide_eq_true (show ((1:Nat):Int)=1 from rfl)]
 (try simp only [rwp,zA,zB,zC,zD,zE,zF,zG,zH,zI,rwb,reduceIte,C31_1,C31_2,C31_3,C31_4,C31_5,C31_6,List.getElem?_cons_zero])
 exact rtW_sub s4 ⟨rfl,rfl⟩
set_option maxRecDepth 4000
theorem c_ListsThings {l:List Tu} (hl:∀ t∈l,OkU t) (typ:ByteArray):AFun PG nrx11 [.sl 6 (l.map tuC),.str typ] (.bool true):=by
 intro S
 refine wx11 ?_
 unfold Bx11
 refine q06 c_awake16 ?_
 (try simp only [rwp,zA,zB,zC,zD,zE,zF,zG,zH,zI,rwb,reduceIte,List.length_map])
 cases a1:decide ((60:Int)<l.length)
 ·have h60:=of_decide_eq_false a1
  have hthi:=@thi_len l typ
  (try simp only [rwp,zA,zB,zC,zD,zE,zF,zG,zH,zI,rwb,reduceIte])
  refine q06 (c_lThings (by omega) typ) ?_
  refine q06 (c_rThings (by omega) typ) ?_
  refine q06 (c_ObjectsSame (by omega)) ?_
  (try simp only [rwp,zA,zB,zC,zD,zE,zF,zG,zH,zI,rwb,reduceIte])
  exact q02 ⟨rfl,rfl⟩
 ·(try simp only [rwp,zA,zB,zC,zD,zE,zF,zG,zH,zI,rwb,reduceIte])
  exact q02 ⟨rfl,rfl⟩
def Old (w:World):Nat→Prop:=fun b=>b<w.heap.size
theorem cell_old {w:World} {a:Addr} {v:Value} (h:w.cell? a=some v):Old w a.block:=by
 unfold Old
 unfold World.cell? at h
 rcases Nat.lt_or_ge a.block w.heap.size with h1 | h1
 ·exact h1
 ·rw [Array.getElem?_eq_none h1] at h;simp at h
section
variable {H:Type} {enc:TypeId×Value→H} {P:Program} {w:World} {sp:Nat→Bool} {held:Bool} {n:Nat} {t e:TypeId} {cs:List Value} {x:DataW H×List MemPlace}
def Wt {H:Type} (P:Program) (t:TypeId) (d:DataW H):Prop:=∀ k∈d.weights P t,k≤reachBytes
theorem q8g (ht:P.underlying t=some .string) (hw:Wt P t x.1) (h:DataW.trod enc P w 0 sp held n t cs=some x):∃ s:ByteArray,s.size≤1125899906842624∧cs=[.string s]:=by
 cases n with
 | zero=>simp [DataW.trod] at h
 | succ n=>
  unfold DataW.trod at h
  rw [ht] at h
  split at h<;>simp_all
  obtain ⟨h1,rfl⟩:=h
  refine Nat.le_trans (Nat.le_of_eq ?_) (Nat.le_trans (hw _ (by simp only [DataW.weights];exact List.mem_singleton.2 rfl)) (by decide))
  rw [Array.length_toList]
  rfl
theorem cells_get {w:World} {a:Addr} {m:Nat} {vs:List Value} (h:w.cells? 0 a m=some vs):vs.length=m∧∀ j,j<m→w.cell? (a.add j)=some (vs.getD j undef):=by
 unfold World.cells? at h
 rw [if_pos (Nat.zero_le _)] at h
 have h1:=mapM_some_length h
 refine ⟨by simpa using h1,fun j hj=>?_⟩
 have h2:=mapM_some_get h j j (by simp [hj])
 rw [h2,List.getD_eq_getElem?_getD]
 simp at h1
 rw [List.getElem?_eq_getElem (by omega)]
 rfl
theorem open_slc {α:Type} {enc':α→List AV} {good:α→Prop} {sz:Nat} (ht:P.underlying t=some (.slice e)) (hc:P.cellsOf e=sz) (hsz:0<sz) (hlen:∀ a,(enc' a).length=sz)
  (hb:1≤P.bytesOf e) (hw:Wt P t x.1) (hE:∀ m,m<n→∀ cs x,Wt P e x.1→DataW.trod enc P w 0 sp held m e cs=some x→∃ a,good a∧RVs (Old w) w (enc' a) cs) (h:DataW.trod enc P w 0 sp held n t cs=some x) :
  ∃ (l:List α) (v:Value),(∀ a∈l,good a)∧l.length≤1125899906842624∧cs=[v]∧RV (Old w) w (.sl sz (l.map enc')) v:=by
 rcases DataW.trod_slice ht h with ⟨rfl,-⟩ | ⟨a,len,cap,elems,rest,m,rfl,rfl,rfl,-,hl,hm,hlen2,hel,-,-⟩
 ·exact ⟨[],_,fun a ha=>(by cases ha),Nat.zero_le _,rfl,.sl0 _ _ _⟩
 ·have hx:DataW.weights P t (.slice (elems.map (·.1)) (rest.map (·.1)))=((elems.map (·.1)).length+(rest.map (·.1)).length) * P.bytesOf e :: (DataW.weightsAll P e (elems.map (·.1))++DataW.weightsAll P e (rest.map (·.1))):=by
   simp only [DataW.weights]
   rw [ht]
  have hw:∀ k∈DataW.weights P t (.slice (elems.map (·.1)) (rest.map (·.1))),k≤reachBytes:=hw
  rw [hx] at hw
  have key:∀ i,i<len→∃ (y:α) (vs:List Value),good y∧RVs (Old w) w (enc' y) vs∧w.cells? 0 (a.add (i * sz)) sz=some vs:=fun i hi=>by
   have h1:=hel i hi
   rw [hc,List.getElem?_eq_getElem (by omega)] at h1
   obtain ⟨vs,h2,h3⟩:=Option.bind_eq_some_iff.1 h1
   have hwi:Wt P e (elems[i]'(by omega)).1:=fun k hk=>by
    refine hw k ?_
    refine List.mem_cons_of_mem _ (List.mem_append_left _ ?_)
    have:∀ l:List (DataW H×List MemPlace),∀ y∈l,∀ k∈y.1.weights P e,k∈DataW.weightsAll P e (l.map (·.1)):=by
     intro l
     induction l with
     | nil=>intro y hy;cases hy
     | cons z l ih=>
      intro y hy k hk
      simp only [List.map_cons,DataW.weightsAll,List.mem_append]
      rcases List.mem_cons.1 hy with rfl | hy
      ·exact .inl hk
      ·exact .inr (ih y hy k hk)
    exact this elems _ (List.getElem_mem _) k hk
   obtain ⟨y,k1,k2⟩:=hE m (Nat.lt_succ_self m) vs _ hwi h3
   exact ⟨y,vs,k1,k2,h2⟩
  by_cases h0:len=0
  ·subst h0
   exact ⟨[],_,fun a ha=>(by cases ha),Nat.zero_le _,rfl,.sl0 _ _ _⟩
  have ex:∃ l:List α,l.length=len∧∀ i y,l[i]?=some y→∃ vs:List Value,good y∧RVs (Old w) w (enc' y) vs∧w.cells? 0 (a.add (i * sz)) sz=some vs:=by
   have:∀ k,k≤len→∃ l:List α,l.length=k∧∀ (i:Nat) (y:α),l[i]?=some y→∃ vs:List Value,good y∧RVs (Old w) w (enc' y) vs∧w.cells? 0 (a.add (i * sz)) sz=some vs:=by
    intro k
    induction k with
    | zero=>exact fun _=>⟨[],rfl,fun i y h=>by simp at h⟩
    | succ k ih=>
     intro hk
     obtain ⟨l,k1,k2⟩:=ih (by omega)
     obtain ⟨y,vs,j1⟩:=key k (by omega)
     refine ⟨l++[y],by simp [k1],fun i z hz=>?_⟩
     by_cases hi:i<l.length
     ·rw [List.getElem?_append_left hi] at hz
      exact k2 i z hz
     ·rw [List.getElem?_append_right (by omega)] at hz
      obtain ⟨q,hq⟩:∃ q,i-l.length=q:=⟨_,rfl⟩
      rw [hq] at hz
      cases q with
      | succ q=>simp at hz
      | zero=>
       simp at hz
       subst hz
       have:i=k:=by omega
       subst this
       exact ⟨vs,j1⟩
   exact this len (Nat.le_refl _)
  obtain ⟨l,k1,k2⟩:=ex
  have k3:∀ i,i<len→∃ y vs,l[i]?=some y∧good y∧RVs (Old w) w (enc' y) vs∧w.cells? 0 (a.add (i * sz)) sz=some vs:=fun i hi=>by
   have hy:l[i]?=some l[i]:=List.getElem?_eq_getElem (by omega)
   obtain ⟨vs,h1⟩:=k2 i _ hy
   exact ⟨_,vs,hy,h1⟩
  have hadd:∀ i j,(a.add (i * sz)).add j=a.add (i * sz+j):=fun i j=>add_add _ _ _
  have hll:l.length≤1125899906842624:=by
   have h5:=hw _ List.mem_cons_self
   simp only [List.length_map] at h5
   have h6:elems.length≤(elems.length+rest.length) * P.bytesOf e:=Nat.le_trans (Nat.le_add_right _ _) (Nat.le_mul_of_pos_right _ hb)
   unfold reachBytes at h5
   omega
  refine ⟨l,_,fun y hy=>?_,hll,rfl,.sl sz (l.map enc') a len cap (fun i j=>((w.cells? 0 (a.add (i * sz)) sz).getD []).getD j undef) (by simp [k1]) hl ?_ (fun i r hr=>?_) (fun i j hi hj=>?_) (fun i j r u hr hu=>?_)⟩
  ·obtain ⟨i,hi⟩:=List.getElem?_of_mem hy
   obtain ⟨vs,h1,-⟩:=k2 i y hi
   exact h1
  ·obtain ⟨y,vs,-,-,-,h4⟩:=k3 0 (by omega)
   have h5:=(cells_get h4).2 0 hsz
   have:=cell_old h5
   rw [add_add] at this
   simpa [Addr.add] using this
  ·rw [List.getElem?_map] at hr
   cases hl2:l[i]? with
   | none=>rw [hl2] at hr;cases hr
   | some y=>rw [hl2] at hr;cases hr;exact hlen y
  ·obtain ⟨y,vs,-,-,-,h4⟩:=k3 i hi
   rw [h4,← hadd]
   exact (cells_get h4).2 j hj
  ·rw [List.getElem?_map] at hr
   cases hl2:l[i]? with
   | none=>rw [hl2] at hr;cases hr
   | some y=>
    rw [hl2] at hr
    cases hr
    obtain ⟨vs,-,h3,h4⟩:=k2 i y hl2
    rw [h4]
    exact h3.2 j u hu
theorem open_stc {fs:Array Field} (ht:P.underlying t=some (.struct fs)) (hw:Wt P t x.1) (h:DataW.trod enc P w 0 sp held n t cs=some x):cs.length=P.cellsOf t∧∃ m,n=m+1 ∧
  ∀ (i:Nat) (f:Field),fs[i]?=some f→∃ y,Wt P f.type y.1∧DataW.trod enc P w 0 sp held m f.type ((cs.drop f.offset).take (P.cellsOf f.type))=some y:=by
 obtain ⟨xs,m,rfl,rfl,hl,hlen,hf⟩:=DataW.trod_struct ht h
 refine ⟨hl,m,rfl,fun i f hi=>?_⟩
 have hil:i<fs.size:=(Array.getElem?_eq_some_iff.1 hi).1
 have h1:=hf i f hi
 have hxi:xs[i]?=some (xs[i]'(by omega)):=List.getElem?_eq_getElem _
 rw [hxi] at h1
 refine ⟨_,fun k hk=>?_,h1⟩
 have hx:DataW.weights P t (.agg (xs.map (·.1)))=DataW.weightsEach P (fs.toList.map (·.type)) (xs.map (·.1)):=by
  simp only [DataW.weights]
  rw [ht]
 have hw:∀ k∈DataW.weights P t (.agg (xs.map (·.1))),k≤reachBytes:=hw
 rw [hx] at hw
 refine hw k ?_
 have key:∀ (ts:List TypeId) (ds:List (DataW H)) (j:Nat) (t:TypeId) (d:DataW H),ts[j]?=some t→ds[j]?=some d→∀ k∈d.weights P t,k∈DataW.weightsEach P ts ds:=by
  intro ts
  induction ts with
  | nil=>intro ds j t d h;simp at h
  | cons a ts ih=>
   intro ds j t d h1 h2 k hk
   cases ds with
   | nil=>simp at h2
   | cons b ds=>
    simp only [DataW.weightsEach,List.mem_append]
    cases j with
    | zero=>simp at h1 h2;subst h1;subst h2;exact .inl hk
    | succ j=>simp at h1 h2;exact .inr (ih ds j t d h1 h2 k hk)
 exact key _ _ i _ _ (by rw [List.getElem?_map,Array.getElem?_toList,hi];rfl) (by rw [List.getElem?_map,hxi];rfl) k hk
end
open Go.ChangeShapes Go.WideShapes Go.RowKit
theorem below_of {R R':Nat→Prop} {S':q00} {w w':World} (h:Step R emp w R' S' w'):Below w.heap.size w w':=⟨h.os,h.tape,h.output,h.size,fun k hk=>(h.keep k hk rfl).1⟩
theorem sim_old (w:World):Sim (Old w) emp w:=⟨fun b o h=>(by cases h),fun b h=>⟨rfl,h⟩⟩
theorem call_true {f:Nat} {args:List AV} {vs:Array Value} {w:World} (hok:q6o PG f=true) (h:AFun PG f args (.bool true)) (hv:RVs (Old w) w args vs.toList):Calls PG f vs w fun en w'=>en=.returned (.bool true)∧Below w.heap.size w w':=by
 refine ((h emp (Old w) w vs (sim_old w) hv).calls hok).mono fun en w' ⟨R',S',ae,h1,h2,h3,h4⟩=>?_
 obtain ⟨rfl,rfl⟩:=h2
 cases en with
 | returned v=>
  have h1:RV R' w' (.bool true) v:=h1
  cases h1
  exact ⟨rfl,below_of h4⟩
 | _=>exact h1.elim
section
variable {H:Type} {enc:TypeId×Value→H} {P:Program}
theorem q41 {W W':World} (hl:laidOutB P=true) (hb:Below W.heap.size W W') {sp':Nat→Bool}:∀ {ts:List TypeId} {vs:List Value} {ds:List (DataW H)} {ps:List MemPlace},(∀ t∈ts,P.readableRec t=true∧t<P.types.size)→DataW.TrodAll enc P W 0 (fun _=>true) true ts vs ds ps →
  (∀ p∈ps,p.block<W.heap.size)→(∀ p∈ps,sp' p.block=true)→DataW.TrodAll enc P W' 0 sp' true ts vs ds ps
 | [],vs,ds,ps,_,h,_,_=>by
  obtain ⟨rfl,rfl,rfl⟩:=trodAll_nil h
  exact trodAll_mk0
 | t :: ts,vs,ds,ps,ht,h,h1,h2=>by
  obtain ⟨v,vs1,d,ds1,a,b,rfl,rfl,rfl,k1,k2⟩:=trodAll_cons h
  have ht0:=ht t (by simp)
  exact ⟨a,b,WideElems.Trod_stays hl ht0.1 ht0.2 k1 (fun p hp=>hb.same (h1 p (List.mem_append_left _ hp))) (fun p hp=>h2 p (List.mem_append_left _ hp)),
   q41 hl hb (fun t h=>ht t (List.mem_cons_of_mem _ h)) k2 (fun p hp=>h1 p (List.mem_append_right _ hp)) (fun p hp=>h2 p (List.mem_append_right _ hp)),rfl⟩
theorem post_kept {f:Func} {s:ChangeSpec} {apart fresh handsOn again:Bool} {W W':World} {args:Array Value} {ds gs:List (DataW H)} {before:List MemPlace} {tb:TypeId}
  (hl:laidOutB P=true) (hts:∀ t∈f.params.toList,P.readableRec t=true∧t<P.types.size) (hvars:s.vars=[])
  (hW:DataW.Whole enc P f.params.toList s.vars apart W args.toList ds gs before) (hfn:(s.fn H (ds++gs)).results=[.lit (.bool true)]∧(s.fn H (ds++gs)).args=ds∧(s.fn H (ds++gs)).vars=[])
  (hr:f.resultTypes=#[tb]) (hb:P.underlying tb=some .bool) (hB:Below W.heap.size W W'):s.post enc P f apart fresh handsOn again W args (.bool true) W':=by
 have hlt:=hW.lt
 have hW0:=hW
 obtain ⟨p,q,hA,hV,rfl,hz,hn⟩:=hW
 rw [hvars] at hV
 obtain ⟨rfl,rfl⟩:=trodVars_none hV
 rw [List.append_nil] at *
 obtain ⟨e1,e2,e3⟩:=hfn
 have hold:∀ x∈p,(fun b=>decide (b<W.heap.size)) x.block=true:=fun x hx=>by simpa using hlt x hx
 have hres:∀ (b:Nat) (sp:Nat→Bool) (hd:Bool),DataW.TrodAll enc P W' b sp hd f.resultTypes.toList ((Value.bool true).resultList f.resultTypes.size) [.lit (.bool true)] []:=fun b sp hd=>by
  rw [hr]
  exact trodAll_mk1 (shut_bool hb true)
 refine ⟨ds,[],p,[],p,[],hW0,by rw [List.append_nil,e1];exact hres _ _ _,by rw [List.append_nil,e2];exact q41 hl hB hts hA hlt hold,by rw [List.append_nil,hvars,e3];exact rfl,hB.frame _,fun _=>?_⟩
 refine ⟨ok_one hr rfl (okWide_bool_mk hb true),_,[],([]++p)++[],⟨[]++p,[],trodAll_append (q41 hl hB hts hA hlt (fun _ _=>rfl)) (hres _ _ _),by rw [hvars];exact rfl,rfl,?_,?_⟩,?_⟩
 ·intro b off hp
  have hp:MemPlace.cell b off∈p:=by simpa using hp
  rw [hB.frozen (p:=⟨b,off,none⟩) (hlt _ hp)]
  exact hz b off hp
 ·intro ha
  simpa using hn ha
 ·intro x hx _
  simpa using hx
end
structure TuT (P:Program) (tL tU tD tO tN:TypeId):Prop where
 str:P.underlying tN=some .string
 ob:∃ f0 f1,P.underlying tO=some (.struct #[f0,f1])∧f0.type=tN∧f0.offset=0∧f1.type=tN∧f1.offset=1
 nd:∃ f0 f1,P.underlying tD=some (.struct #[f0,f1])∧f0.type=tO∧f0.offset=0∧f1.type=tN∧f1.offset=2
 tu:∃ f0 f1 f2,P.underlying tU=some (.struct #[f0,f1,f2])∧f0.type=tO∧f0.offset=0∧f1.type=tN∧f1.offset=2∧f2.type=tD∧f2.offset=3
 tus:P.underlying tL=some (.slice tU)
 cN:P.cellsOf tN=1
 cO:P.cellsOf tO=2
 cD:P.cellsOf tD=3
 cU:P.cellsOf tU=6
 bU:1≤P.bytesOf tU
section
variable {H:Type} {enc:TypeId×Value→H} {P:Program} {w:World} {sp:Nat→Bool} {held:Bool} {tL tU tD tO tN:TypeId} (K:TuT P tL tU tD tO tN)
include K
theorem open_ob {n:Nat} {cs:List Value} {x:DataW H×List MemPlace} (hw:Wt P tO x.1) (h:DataW.trod enc P w 0 sp held n tO cs=some x):∃ o:Ob,OkO o∧cs=[.string o.ty,.string o.id]:=by
 obtain ⟨f0,f1,hu,a0,b0,a1,b1⟩:=K.ob
 obtain ⟨hl,m,rfl,hf⟩:=open_stc hu hw h
 rw [K.cO] at hl
 obtain ⟨c0,c1,rfl⟩:∃ c0 c1,cs=[c0,c1]:=by
  match cs,hl with
  | [c0,c1],_=>exact ⟨_,_,rfl⟩
 obtain ⟨y0,w0,h0⟩:=hf 0 f0 rfl
 obtain ⟨y1,w1,h1⟩:=hf 1 f1 rfl
 rw [a0,b0,K.cN] at h0
 rw [a1,b1,K.cN] at h1
 rw [a0] at w0
 rw [a1] at w1
 obtain ⟨s1,g1,e1⟩:=q8g K.str w0 h0
 obtain ⟨s2,g2,e2⟩:=q8g K.str w1 h1
 simp at e1 e2
 subst e1;subst e2
 exact ⟨⟨s1,s2⟩,⟨g1,g2⟩,rfl⟩
theorem open_nd {n:Nat} {cs:List Value} {x:DataW H×List MemPlace} (hw:Wt P tD x.1) (h:DataW.trod enc P w 0 sp held n tD cs=some x):∃ o:Nd,OkD o∧cs=[.string o.o.ty,.string o.o.id,.string o.rl]:=by
 obtain ⟨f0,f1,hu,a0,b0,a1,b1⟩:=K.nd
 obtain ⟨hl,m,rfl,hf⟩:=open_stc hu hw h
 rw [K.cD] at hl
 obtain ⟨c0,c1,c2,rfl⟩:∃ c0 c1 c2,cs=[c0,c1,c2]:=by
  match cs,hl with
  | [c0,c1,c2],_=>exact ⟨_,_,_,rfl⟩
 obtain ⟨y0,w0,h0⟩:=hf 0 f0 rfl
 obtain ⟨y1,w1,h1⟩:=hf 1 f1 rfl
 rw [a0,b0,K.cO] at h0
 rw [a1,b1,K.cN] at h1
 rw [a0] at w0
 rw [a1] at w1
 obtain ⟨o,g1,e1⟩:=open_ob K w0 h0
 obtain ⟨s2,g2,e2⟩:=q8g K.str w1 h1
 simp at e1 e2
 obtain ⟨rfl,rfl⟩:=e1
 subst e2
 exact ⟨⟨o,s2⟩,⟨g1,g2⟩,rfl⟩
theorem open_tu {n:Nat} {cs:List Value} {x:DataW H×List MemPlace} (hw:Wt P tU x.1) (h:DataW.trod enc P w 0 sp held n tU cs=some x):∃ t:Tu,OkU t∧RVs (Old w) w (tuC t) cs:=by
 obtain ⟨f0,f1,f2,hu,a0,b0,a1,b1,a2,b2⟩:=K.tu
 obtain ⟨hl,m,rfl,hf⟩:=open_stc hu hw h
 rw [K.cU] at hl
 obtain ⟨c0,c1,c2,c3,c4,c5,rfl⟩:∃ c0 c1 c2 c3 c4 c5,cs=[c0,c1,c2,c3,c4,c5]:=by
  match cs,hl with
  | [c0,c1,c2,c3,c4,c5],_=>exact ⟨_,_,_,_,_,_,rfl⟩
 obtain ⟨y0,w0,h0⟩:=hf 0 f0 rfl
 obtain ⟨y1,w1,h1⟩:=hf 1 f1 rfl
 obtain ⟨y2,w2,h2⟩:=hf 2 f2 rfl
 rw [a0,b0,K.cO] at h0
 rw [a1,b1,K.cN] at h1
 rw [a2,b2,K.cD] at h2
 rw [a0] at w0
 rw [a1] at w1
 rw [a2] at w2
 obtain ⟨o,g1,e1⟩:=open_ob K w0 h0
 obtain ⟨r,g2,e2⟩:=q8g K.str w1 h1
 obtain ⟨s,g3,e3⟩:=open_nd K w2 h2
 simp at e1 e2 e3
 obtain ⟨rfl,rfl⟩:=e1
 subst e2
 obtain ⟨rfl,rfl,rfl⟩:=e3
 exact ⟨⟨o,r,s⟩,⟨g1,g2,g3⟩,.cons (.str _) (.cons (.str _) (.cons (.str _) (.cons (.str _) (.cons (.str _) (.cons (.str _) .nil)))))⟩
theorem open_tus {v:Value} {d:DataW H} {ps:List MemPlace} (hw:Wt P tL d) (h:DataW.Trod enc P w 0 sp held tL v d ps) (hv:∃ a b c,v=.slice a b c):∃ l:List Tu,(∀ t∈l,OkU t)∧RV (Old w) w (.sl 6 (l.map tuC)) v:=by
 obtain ⟨n,h⟩:=h
 obtain ⟨a,b,c,rfl⟩:=hv
 obtain ⟨l,v,g1,g2,e,g3⟩:=open_slc (enc':=tuC) (good:=OkU) (x:=(d,ps)) K.tus K.cU (by decide) (fun _=>rfl) K.bU hw (fun k _ cs x hw h=>open_tu K hw h) h
 have:v=.slice a b c:=by
  have:=congrArg List.head? e
  simpa [Value.cells] using this.symm
 subst this
 exact ⟨l,g1,g3⟩
end
end Go.HL
namespace Go.Proofs.YtadmdlpmikoghaaGreat
open Go.ChangeShapes Go.WideShapes Go.ChangeAt Go.RowKit Go.HL
theorem own:ownKnob Tryz.prog.godebug=none:=by kernel_rfl
theorem laidOut:laidOutB Tryz.prog=true:=by kernel_rfl
theorem tuT:TuT Tryz.prog 25 41 39 27 9 where
 str:=Tryz.underlying9
 ob:=⟨_,_,Tryz.underlying27,rfl,rfl,rfl,rfl⟩
 nd:=⟨_,_,Tryz.underlying39,rfl,rfl,rfl,rfl⟩
 tu:=⟨_,_,_,Tryz.underlying41,rfl,rfl,rfl,rfl,rfl,rfl⟩
 tus:=Tryz.underlying25
 cN:=by kernel_rfl
 cO:=by kernel_rfl
 cD:=by kernel_rfl
 cU:=by kernel_rfl
 bU:=of_decide_eq_true (by kernel_rfl)
theorem weights_one {H:Type} {P:Program} {t:TypeId} {d:DataW H} {ts:List TypeId} {ds:List (DataW H)} (h:(DataW.weightsEach P (t :: ts) (d :: ds)).all (·≤reachBytes)=true):Wt P t d∧(DataW.weightsEach P ts ds).all (·≤reachBytes)=true:=by
 simp only [DataW.weightsEach,List.all_append,Bool.and_eq_true,List.all_eq_true,decide_eq_true_eq] at h
 refine ⟨h.1,?_⟩
 rw [List.all_eq_true]
 exact fun x hx=>decide_eq_true (h.2 x hx)
end Go.Proofs.YtadmdlpmikoghaaGreat
namespace Go.Proofs.YtadmdlpmikoghaaGreat
open Go.ChangeShapes Go.WideShapes Go.ChangeAt Go.RowKit Go.HL
set_option maxRecDepth 100000 in
theorem listsThings_lifted (os:Os) (started:os.Started) (H:Type) (enc:TypeId×Value→H) :
  ReturnsInHanded {} Tryz.checked os 11 .any (fun w args=>(Rows.listsThingsSpec.pre enc Tryz.prog Tryz.f11 Rows.listsThingsRow.domain false w args∧True)∧sizedMet enc Tryz.prog Tryz.f11 (OpenSpec.ofChange Rows.listsThingsSpec) false w args)
   (Rows.listsThingsSpec.post enc Tryz.prog Tryz.f11 false true false false):=by
 refine returnsInHanded_of_change_and (C:=Tryz.checked) (X:=fun _ _=>True) (fun _ _ _ _ h=>h) own started (by kernel_rfl) Tryz.func11
  (by
   obtain ⟨w,t,i,h1,h2,h3,h4,h5,h6⟩:=ChangeSpec.witness6 (enc:=enc) (C:=Tryz.checked) (os:=os) (f:=11) (fn:=Tryz.f11) (s:=Rows.listsThingsSpec) (conds:=Rows.listsThingsRow.domain) (apart:=false) false ⟨#[],#[.slice none 0 0,.string ⟨#[]⟩],[]⟩ 8 (by kernel_rfl) (by kernel_rfl) (by kernel_rfl) (by kernel_rfl)
   exact ⟨w,t,i,h1,h2,h3,h4,⟨⟨h5.1,trivial⟩,h5.2⟩,h6⟩) ?_
 intro W base args ds gs before hval0 hW hcnd hsz0 _ _
 have hval:∀ (j:Nat) t v,Tryz.f11.params[j]?=some t→args[j]?=some v→Value.okWide Tryz.prog W .any base t v:=hval0
 have hsz:(DataW.weightsEach Tryz.prog (Tryz.f11.params.toList++[]) (ds++gs)).all (·≤reachBytes)=true:=hsz0
 have hW':=hW
 obtain ⟨p,q,hA0,hV,rfl,hfz,hnd⟩:=hW
 have hA:DataW.TrodAll enc Tryz.prog W 0 (fun _=>true) true Tryz.f11.params.toList args.toList ds p:=hA0
 rw [Tryz.params11] at hA hval hsz
 obtain ⟨v0,v1,d0,d1,p0,p1,rfl,rfl,rfl,h0,h1⟩:=trodAll_two hA
 obtain ⟨rfl,rfl⟩:=trodVars_none hV
 obtain ⟨w0,hsz⟩:=weights_one hsz
 obtain ⟨-,hsz⟩:=weights_one hsz
 obtain ⟨a0,hs0,hv0⟩:=open_tus tuT w0 h0 (okWide_slice Tryz.underlying25 (hval 0 25 v0 rfl rfl))
 obtain ⟨a1,rfl,-,-,-⟩:=Go.ChangeMaps.open_string Tryz.underlying9 (hval 1 9 v1 rfl rfl) h1
 clear hA0 hval0 hsz0
 refine (call_true (by kernel_rfl) (c_ListsThings hs0 a1) (vs:=#[v0,.string a1]) (.cons hv0 (.cons (.str _) .nil))).mono fun e W' ⟨he,hB⟩=>?_
 subst he
 have hts:(Tryz.f11.params.toList.all fun t=>Tryz.prog.readableRec t&&decide (t<Tryz.prog.types.size))=true:=by kernel_rfl
 exact ⟨_,rfl,post_kept laidOut (fun t ht=>by have h:=List.all_eq_true.1 hts t ht;rw [Bool.and_eq_true] at h;exact ⟨h.1,of_decide_eq_true h.2⟩) rfl hW' ⟨rfl,rfl,rfl⟩ (tb:=4) (by kernel_rfl) Tryz.underlying4 hB⟩
set_option maxRecDepth 100000 in
theorem listsThings_p0:(Rows.listsThingsRow.inPlace==Tryz.pinned.checked.prog.inPlace 11)=true:=by kernel_rfl
set_option maxRecDepth 100000 in
theorem listsThings_p1:(Rows.listsThingsRow.unfollowed==Tryz.pinned.checked.prog.unfollowed 11)=true:=by kernel_rfl
set_option maxRecDepth 100000 in
theorem listsThings_p2:(Rows.listsThingsRow.recurses==Tryz.pinned.checked.prog.recurses 11)=true:=by kernel_rfl
set_option maxRecDepth 100000 in
theorem listsThings_p3:(Rows.listsThingsRow.named==Tryz.pinned.checked.prog.varsNamed 11)=true:=by kernel_rfl
set_option maxRecDepth 100000 in
theorem listsThings_p4:laidOutB Tryz.pinned.checked.prog=true:=by kernel_rfl
set_option maxRecDepth 100000 in
theorem listsThings_p5:mapsRowed Tryz.pinned.checked.prog=true:=by kernel_rfl
set_option maxRecDepth 100000 in
theorem listsThings_p6:Tryz.pinned.checked.prog.stopsHeard=true:=by kernel_rfl
set_option maxRecDepth 100000 in
theorem listsThings_p7:Tryz.pinned.checked.prog.mayEnter=true:=by kernel_rfl
set_option maxRecDepth 100000 in
theorem listsThings_closed:joinedFacts Tryz.pinned.checked.prog 11 Tryz.f11 Rows.listsThingsSpec Rows.listsThingsRow=true:=by
 unfold joinedFacts
 rw [listsThings_p0,listsThings_p1,listsThings_p2,listsThings_p3,listsThings_p4,listsThings_p5,listsThings_p6,listsThings_p7]
 kernel_rfl
theorem listsThings_holds:Rows.ListsThingsSaid:=
 OpenClaim.holds_of_wide 11 Tryz.f11 rfl rfl rfl rfl rfl rfl rfl ⟨rfl,rfl,rfl,rfl,rfl⟩ rfl rfl rfl rfl rfl (by kernel_rfl) Tryz.func11 listsThings_closed
  (of_decide_eq_true (by kernel_rfl)) (by unfold Func.isWrapper;first | (rw [if_pos (by decide +kernel)];kernel_rfl) | (rw [if_neg (by decide +kernel)];exact ⟨rfl,rfl⟩))
  (fun os started H enc _=>by
   have h:=listsThings_lifted os started H enc
   simp only [and_true] at h
   exact h)
end Go.Proofs.YtadmdlpmikoghaaGreat
